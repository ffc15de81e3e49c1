/- Parts of the proof: see the text that holds the theorem. -/
import Derived.Test.YtgedjeljhicagaaGreatZ3
set_option linter.all false
open Nat (reduceAdd reduceSub)
set_option maxRecDepth 100000
namespace Go.Ev
open Go
variable [Lib] [cu] [b0] [fG] [fH] [gX] [fT]
def smE(into:Option (List Int)):ah:=match into with
 | none=>[]
 | some s=>[.box [.t (tL s)]]
def smD(into:Option (List Int)):D:=match into with
 | none=> .fn N.dt []
 | some _=> .fn N.bU [.bp 5 0]
def smK(into:Option (List Int)):Nat:=match into with
 | none=>5
 | some _=>6
@[go_sem] theorem ac6 (H : ah) (len j : Nat) (ts : List T) (h : j < len) : Uw H len 1 false (.t (.agg ts)) j = (ts[j]?).map fun t => (.t t, H) := by
 have h0:len≠0:=by omega
 unfold Uw wZ
 rw[if_neg h0,if_pos h]
 unfold qI cut
 simp only[D.isAgg,D.cells,T.cells,if_true,Nat.mul_one,List.length_map]
 by_cases hj:j<ts.length
 · rw[if_pos (by omega),aLc hj]
   have e:((ts.map D.t).drop j).take 1=[D.t ts[j]]:=by
    rw[List.drop_eq_getElem_cons (by simpa using hj)];simp
   rw[e];rfl
 · rw[if_neg (by omega),aLm (by omega)];rfl
def G5(into:Option (List Int))(l:List Int)(q:Nat)(x:Int):Bool:=decide (x≤2147483648∧x<nth l q)&&GF into q
theorem Pl(into:Option (List Int))(hi:∀s,into=some s→s.length≤64)(l:List Int)(hl:l.length≤64)(hb:bnd l)(p:Int)(q:Nat)(hq:q<l.length)(n t:Int)(ch:Bool):
 bh 0 N.bc [I p,I q,I n,.bp 0 0,.bp 1 0,.bp 2 0,.bp 3 0] (.box [I t]:: .box [.ref 4 0 l.length]:: .box [smD into]:: .box [B ch]::yC l::smE into)=
  some (.tup [],if G5 into l q (max n t)=true then .box [I t]:: .box [.ref 4 0 l.length]:: .box [smD into]:: .box [B true]::yC (l.set q (max n t))::smE into
   else .box [I t]:: .box [.ref 4 0 l.length]:: .box [smD into]:: .box [B ch]::yC l::smE into):=by
 refine aE K.jk rfl ?_
 have ln:(l.set q (max n t)).length=l.length:=List.length_set ..
 have a:=Pk q
 have b:=hb _ (aq hq)
 unfold G5
 cases into with
 | none=>
   simp only[smE,smD,GF,Bool.and_true,decide_eq_true_eq]
   by_cases c1:max n t≤2147483648
   · by_cases c2:max n t<nth l q
     · simp(disch:=omega)only[go_sem,K.bc,↓reduceIte,a,c1,c2,and_self,reduceAdd,reduceSub]
     · simp(disch:=omega)only[go_sem,K.bc,↓reduceIte,c1,c2,and_false,reduceAdd,reduceSub]
   · simp(disch:=omega)only[go_sem,K.bc,↓reduceIte,c1,false_and,reduceAdd,reduceSub]
 | some s=>
   have a2:=JZ q s (by have:=hi s rfl;omega)
   simp only[smE,smD,GF]
   by_cases c1:max n t≤2147483648
   · by_cases c2:max n t<nth l q
     · by_cases c3:(q:Int)∈s
       · simp only[c3,decide_true]at a2
         simp(disch:=omega)only[go_sem,K.bc,↓reduceIte,a2,c1,c2,c3,and_self,decide_true,Bool.and_true,reduceAdd,reduceSub]
       · simp only[c3,decide_false]at a2
         simp(disch:=omega)only[go_sem,K.bc,↓reduceIte,a2,c1,c2,c3,and_self,decide_false,Bool.and_false,reduceAdd,reduceSub]
     · simp(disch:=omega)only[go_sem,K.bc,↓reduceIte,c1,c2,and_false,decide_false,Bool.false_and,reduceAdd,reduceSub]
   · simp(disch:=omega)only[go_sem,K.bc,↓reduceIte,c1,false_and,decide_false,Bool.false_and,reduceAdd,reduceSub]
theorem J0{m:bu}(h:m.ok)(t:Int)(into:Option (List Int)){k:Nat}(hk:k<m.roads.length)(back:Bool)(l:List Int):
 ed m t into k back l=if 0≤fF m k back 6 9 12∧nth l ((nth m.roads k).src back).toNat<1099511627776∧G5 into l ((nth m.roads k).dst back).toNat (max (nth l ((nth m.roads k).src back).toNat+fF m k back 6 9 12) t)=true
  then(l.set ((nth m.roads k).dst back).toNat (max (nth l ((nth m.roads k).src back).toNat+fF m k back 6 9 12) t),true)else(l,false):=by
 have r2:=Road.xx (h.rs _ (aq hk)) back
 unfold ed G5 kP ku
 have e:(((nth m.roads k).dst back).toNat:Int)=(nth m.roads k).dst back:=by omega
 rw[e]
 generalize (nth m.roads k).dst back=d at*
 generalize ((nth m.roads k).src back).toNat=s at*
 generalize fF m k back 6 9 12=v at*
 rw[Int.max_comm t]
 generalize max (nth l s+v) t=x at*
 cases GF into d with
 | false=>simp
 | true=>
   simp only[↓reduceIte,Bool.and_true,aLr,decide_eq_true_eq]
   by_cases c:((0≤v∧nth l s<1099511627776)∧x≤2147483648)∧x<nth l d.toNat
   · obtain⟨⟨⟨c1,c2⟩,c3⟩,c4⟩:=c
     simp[c1,c2,c3,c4]
   · have c':¬(0≤v∧nth l s<1099511627776∧x≤2147483648∧x<nth l d.toNat):=fun h=>c ⟨⟨⟨h.1,h.2.1⟩,h.2.2.1⟩,h.2.2.2⟩
     rw[if_neg c,if_neg c']
     simp only[Prod.mk.injEq,true_and]
     have:(decide (0≤v)&&decide (nth l s<1099511627776)&&decide (x≤2147483648)&&decide (x<nth l d.toNat))=false:=by
      rw[Bool.eq_false_iff];intro h;simp only[aLr,decide_eq_true_eq]at h;exact c h
     exact this
abbrev G6:D:= .fn N.bc [.bp 1 0,.bp 2 0,.bp 3 0,.bp 4 0]
abbrev vK(into:Option (List Int))(t:Int)(s:List Int×Bool):ah:=yC s.1:: .box [I t]:: .box [.ref 0 0 s.1.length]:: .box [smD into]:: .box [B s.2]::smE into
abbrev sH(x:Road):List D:=[I x.frm,I x.to,I x.len,I x.area,B x.walk,B x.closed,I x.restL,I x.restH,I x.liftL,I x.liftH]
theorem xB{m:bu}(h:m.ok)(t:Int)(ht:0≤t)(ht2:t≤1000000000000)(into:Option (List Int))(hi:∀s,into=some s→s.length≤64)(l:List Int)(hl:l.length=m.aa.length)(hb:bnd l)(ch:Bool){k:Nat}(hk:k<m.roads.length)(back:Bool):
 eP true [0,6,7,8,9] (vK into t (l,ch)++[Obj.box (af m),Obj.box (sH (nth m.roads k))]).length (exS bh K.dH ⟨[.und,.ref 0 0 l.length,G6,.bp (smK into) 0,I k,.bp (smK into+1) 0,.und,.und,.und,.und,.t (.sl (m.roads.map Road.e)),I m.roads.length,I k,.t (.agg [.bool false,.bool true]),I (if back then 1 else 0:Nat)],vK into t (l,ch)++[.box (af m),.box (sH (nth m.roads k))]⟩)=
  some ⟨[.und,.ref 0 0 l.length,G6,.bp (smK into) 0,I k,.bp (smK into+1) 0,.und,.und,.und,.und,.t (.sl (m.roads.map Road.e)),I m.roads.length,I k,.t (.agg [.bool false,.bool true]),I ((if back then 1 else 0:Nat)+1)],vK into t ((ed m t into k back l).1,ch||(ed m t into k back l).2)++[.box (af m),.box (sH (nth m.roads k))]⟩:=by
 have np:=h.np
 have nr:=h.nr
 have ok:=h.rs _ (aq hk)
 have r1:=Road.s6 ok back
 have r2:=Road.xx ok back
 have wt:=JY h k hk back
 have wl:=yv h k hk back
 have b1:=hb _ (aq (l:=l) (j:=((nth m.roads k).src back).toNat) (by omega))
 have lo:=Pl into hi l (by omega) hb ((nth m.roads k).src back) ((nth m.roads k).dst back).toNat (by omega) (nth l ((nth m.roads k).src back).toNat+fF m k back 6 9 12) t ch
 have e:(((nth m.roads k).dst back).toNat:Int)=(nth m.roads k).dst back:=by omega
 rw[e]at lo
 rw[J0 h t into hk back l]
 have ls:∀x,(l.set ((nth m.roads k).dst back).toNat x).length=l.length:=fun x=>List.length_set ..
 generalize fF m k back 6 9 12=v at*
 generalize hx:nth m.roads k=x at*
 clear hx ok
 obtain⟨frm,to,len,area,walk,closed,rl,rh,ll,lh⟩:=x
 obtain⟨aa,roads⟩:=m
 simp only at hl np nr hk
 have h01:(1:Int)=0+1:=rfl
 by_cases c1:0≤v
 · by_cases c2:nth l ((Road.mk frm to len area walk closed rl rh ll lh).src back).toNat<1099511627776
   · cases c3:G5 into l ((Road.mk frm to len area walk closed rl rh ll lh).dst back).toNat (max (nth l ((Road.mk frm to len area walk closed rl rh ll lh).src back).toNat+v) t)<;>
     cases back<;>simp only[Road.src,Road.dst,aLt,↓reduceIte]at* <;>simp only[c1,c2,c3,and_true,true_and,and_self,and_false,aLt,↓reduceIte]at lo ⊢ <;>
     cases into<;>simp only[smE,smD,smK,af,sH,vK,List.cons_append,List.nil_append]at* <;>
     simp(disch:=omega)only[go_sem,K.dH,↓reduceIte,wt,lo,c1,c2,ls,Bool.or_true,Bool.or_false,reduceAdd,reduceSub]
   · cases back<;>simp only[Road.src,Road.dst,aLt,↓reduceIte]at* <;>simp only[c1,c2,false_and,and_false,↓reduceIte]<;>
     cases into<;>simp only[smE,smD,smK,af,sH,vK,List.cons_append,List.nil_append]at* <;>
     simp(disch:=omega)only[go_sem,K.dH,↓reduceIte,wt,c1,c2,Bool.or_false,reduceAdd,reduceSub]
 · cases back<;>simp only[Road.src,Road.dst,aLt,↓reduceIte]at* <;>simp only[c1,false_and,↓reduceIte]<;>
   cases into<;>simp only[smE,smD,smK,af,sH,vK,List.cons_append,List.nil_append]at* <;>
   simp(disch:=omega)only[go_sem,K.dH,↓reduceIte,wt,c1,Bool.or_false,reduceAdd,reduceSub]
theorem J1{m:bu}(h:m.ok)(t:Int)(ht:0≤t)(ht2:t≤1000000000000)(into:Option (List Int))(hi:∀s,into=some s→s.length≤64)(l:List Int)(hl:l.length=m.aa.length)(hb:bnd l)(ch:Bool){k:Nat}(hk:k<m.roads.length):
 eP true [0,4,5,6,7,8,9,13,14] (vK into t (l,ch)++[Obj.box (af m)]).length (exS bh K.fV ⟨[.und,.ref 0 0 l.length,G6,.bp (smK into) 0,.und,.und,.und,.und,.und,.und,.t (.sl (m.roads.map Road.e)),I m.roads.length,I k,.und,.und],vK into t (l,ch)++[.box (af m)]⟩)=
  some ⟨[.und,.ref 0 0 (qo m t into k (l,ch)).1.length,G6,.bp (smK into) 0,.und,.und,.und,.und,.und,.und,.t (.sl (m.roads.map Road.e)),I m.roads.length,I (k+1),.und,.und],vK into t (qo m t into k (l,ch))++[.box (af m)]⟩:=by
 have nr:=h.nr
 have g:(m.roads.map Road.e)[k]?=some (nth m.roads k).e:=fB _ hk
 have h1:=xB h t ht ht2 into hi l hl hb ch hk false
 have l1:(ed m t into k false l).1.length=l.length:=mM ..
 have l2:(ed m t into k true (ed m t into k false l).1).1.length=l.length:=by rw[mM,l1]
 have h2:=xB h t ht ht2 into hi (ed m t into k false l).1 (by omega) (oR h hl hb hk false) (ch||(ed m t into k false l).2) hk true
 have st:qo m t into k (l,ch)=((ed m t into k true (ed m t into k false l).1).1,ch||(ed m t into k false l).2||(ed m t into k true (ed m t into k false l).1).2):=rfl
 rw[st]
 simp only[l1,l2,aLt,↓reduceIte]at h1 h2 ⊢
 have inner:∀z0 z6 z7 z8 z9:D,exS bh K.lI ⟨[z0,.ref 0 0 l.length,G6,.bp (smK into) 0,I k,.bp (smK into+1) 0,z6,z7,z8,z9,.t (.sl (m.roads.map Road.e)),I m.roads.length,I k,.t (.agg [.bool false,.bool true]),I 0],vK into t (l,ch)++[.box (af m),.box (sH (nth m.roads k))]⟩=
  some (.exit 2,⟨[.und,.ref 0 0 l.length,G6,.bp (smK into) 0,I k,.bp (smK into+1) 0,.und,.und,.und,.und,.t (.sl (m.roads.map Road.e)),I m.roads.length,I k,.t (.agg [.bool false,.bool true]),I 2],
   vK into t ((ed m t into k true (ed m t into k false l).1).1,ch||(ed m t into k false l).2||(ed m t into k true (ed m t into k false l).1).2)++[.box (af m),.box (sH (nth m.roads k))]⟩):=by
  intro z0 z6 z7 z8 z9
  refine fP (fun j=>⟨[.und,.ref 0 0 l.length,G6,.bp (smK into) 0,I k,.bp (smK into+1) 0,.und,.und,.und,.und,.t (.sl (m.roads.map Road.e)),I m.roads.length,I k,.t (.agg [.bool false,.bool true]),I j],
   vK into t (match j with | 0=>(l,ch) | 1=>((ed m t into k false l).1,ch||(ed m t into k false l).2) | _=>((ed m t into k true (ed m t into k false l).1).1,ch||(ed m t into k false l).2||(ed m t into k true (ed m t into k false l).1).2))++[.box (af m),.box (sH (nth m.roads k))]⟩) 2 rfl ?_ ?_ (by simp)
  · intro j hj
    have hj2:j=0∨j=1:=by omega
    rcases hj2 with rfl | rfl
    · exact h1
    · exact h2
  · clear h1 h2
    cases into<;>simp only[smE,smD,smK,af,sH,vK,List.cons_append,List.nil_append]<;>
    simp(disch:=omega)only[go_sem,K.dH,↓reduceIte,reduceAdd,reduceSub]
 clear h1 h2 st
 generalize ed m t into k true (ed m t into k false l).1=b2 at*
 generalize ed m t into k false l=b1 at*
 generalize hx:nth m.roads k=x at*
 clear hx
 obtain⟨frm,to,len,area,walk,closed,rl,rh,ll,lh⟩:=x
 obtain⟨aa,roads⟩:=m
 simp only at nr hk
 cases into<;>simp only[smE,smD,smK,af,sH,vK,List.cons_append,List.nil_append]at* <;>
 simp(disch:=omega)only[go_sem,K.fV,↓reduceIte,g,inner,l2,reduceAdd,reduceSub]
theorem BU{m:bu}(h:m.ok)(t:Int)(ht:0≤t)(ht2:t≤1000000000000)(into:Option (List Int))(hi:∀s,into=some s→s.length≤64)(l:List Int)(hl:l.length=m.aa.length)(hb:bnd l)(ch:Bool):
 bh 0 N.cL [.t m.e,.ref 0 0 l.length,G6] (vK into t (l,ch))=some (.tup [],vK into t ((cR m t into l).1,ch||(cR m t into l).2)):=by
 refine aE K.jN rfl ?_
 have nr:=h.nr
 have ls:=fun k=>cZ m t into l k
 have loop:∀z0 z4 z5 z6 z7 z8 z9 z13 z14:D,exS bh K.lJ ⟨[z0,.ref 0 0 l.length,G6,.bp (smK into) 0,z4,z5,z6,z7,z8,z9,.t (.sl (m.roads.map Road.e)),I m.roads.length,I 0,z13,z14],vK into t (l,ch)++[.box (af m)]⟩=
  some (.exit 0,⟨[.und,.ref 0 0 l.length,G6,.bp (smK into) 0,.und,.und,.und,.und,.und,.und,.t (.sl (m.roads.map Road.e)),I m.roads.length,I m.roads.length,.und,.und],vK into t ((cR m t into l).1,ch||(cR m t into l).2)++[.box (af m)]⟩):=by
  intro z0 z4 z5 z6 z7 z8 z9 z13 z14
  refine fP (fun j=>⟨[.und,.ref 0 0 l.length,G6,.bp (smK into) 0,.und,.und,.und,.und,.und,.und,.t (.sl (m.roads.map Road.e)),I m.roads.length,I j,.und,.und],vK into t ((dT m t into l j).1,ch||(dT m t into l j).2)++[.box (af m)]⟩) m.roads.length ?_ ?_ ?_ (by simp)
  · simp only[dT,Bool.or_false];rfl
  · intro j hj
    have r:=J1 h t ht ht2 into hi (dT m t into l j).1 (by rw[ls,hl]) (gr h hl hb j (by omega)) (ch||(dT m t into l j).2) hj
    have e:qo m t into j ((dT m t into l j).1,ch||(dT m t into l j).2)=((dT m t into l (j+1)).1,ch||(dT m t into l (j+1)).2):=by
     simp only[dT,qo,Bool.or_assoc]
    rw[e]at r
    simp only[ls]at r
    exact r
  · clear ls
    cases into<;>simp only[smE,smD,smK,af,sH,vK,List.cons_append,List.nil_append]<;>
    simp(disch:=omega)only[go_sem,K.fV,↓reduceIte,cR,reduceAdd,reduceSub]
 have l2:(cR m t into l).1.length=l.length:=by unfold cR;rw[ls]
 clear ls
 generalize cR m t into l=r at*
 obtain⟨r1,r2⟩:=r
 obtain⟨aa,roads⟩:=m
 simp only at nr hl l2
 cases into<;>simp only[smE,smD,smK,af,sH,vK,List.cons_append,List.nil_append]at* <;>
 simp(disch:=omega)only[go_sem,K.cL,↓reduceIte,loop,l2,reduceAdd,reduceSub]
section
variable (a0 a1 a2 a3 a4 a5 x y : Obj) (ds : ah)
theorem LY:(a0::a1::a2::a3::a4::(ds++[x]))[ds.length+5]?=some x:=by simp
theorem V3:(a0::a1::a2::a3::a4::(ds++[x])).set (ds.length+5) y=a0::a1::a2::a3::a4::(ds++[y]):=by simp
theorem LZ:(a0::a1::a2::a3::a4::a5::(ds++[x]))[ds.length+6]?=some x:=by simp
theorem V4:(a0::a1::a2::a3::a4::a5::(ds++[x])).set (ds.length+6) y=a0::a1::a2::a3::a4::a5::(ds++[y]):=by simp
theorem L3(u:Obj):(ds++[u]++[x])[ds.length+1]?=some x:=by simp
theorem Pm(u:Obj):(a0::a1::a2::a3::a4::(ds++[u]++[x])).set (ds.length+1+1+1+1+1+1) y=a0::a1::a2::a3::a4::(ds++[u]++[y]):=by simp
theorem Pn(u:Obj):(a0::a1::a2::a3::a4::a5::(ds++[u]++[x])).set (ds.length+1+1+1+1+1+1+1) y=a0::a1::a2::a3::a4::a5::(ds++[u]++[y]):=by simp
theorem V5:(ds++[x]).length=ds.length+1:=by simp
end
@[go_sem] theorem Y6 (n : Nat) : eqB n n = true := by
 induction n with
 | zero=>rfl
 | succ n ih=>exact ih
abbrev L4(m:bu)(into:Option (List Int))(t:Int)(l:List Int)(ds:ah)(c:Bool):ah:=match into with
 | none=> .box (af m):: .box [I t]:: .box [.fn N.dt []]::yC l:: .box [.ref 3 0 l.length]::(ds++[.box [B c]])
 | some s=> .box [.t (tL s)]:: .box (af m):: .box [I t]:: .box [.fn N.bU [.bp 0 0]]::yC l:: .box [.ref 4 0 l.length]::(ds++[.box [B c]])
abbrev BW(m:bu)(into:Option (List Int))(t:Int)(l:List Int)(ds:ah)(c:Bool):St:=match into with
 | none=>⟨[.und,.und,.und,.und,.bp 0 0,.bp 1 0,.bp 2 0,.und,.bp 4 0,.bp (ds.length+5) 0,.und],L4 m none t l ds c⟩
 | some s=>⟨[.und,.und,.und,.und,.bp 1 0,.bp 2 0,.bp 3 0,.und,.bp 5 0,.bp (ds.length+6) 0,.und],L4 m (some s) t l ds c⟩
theorem G7{m:bu}(h:m.ok)(t:Int)(ht:0≤t)(ht2:t≤1000000000000)(into:Option (List Int))(hi:∀s,into=some s→s.length≤64)(l:List Int)(hl:l.length=m.aa.length)(hb:bnd l)(ds:ah)(k:Nat):
 eP false [0,1,2,3,7,10] k (exS bh K.cF (BW m into t l ds true))=some (BW m into t (cR m t into l).1 (ds++[.box [B (cR m t into l).2]]) (cR m t into l).2):=by
 have nr:=h.nr
 have ar:=BU h t ht ht2 into hi l hl hb false
 have l2:(cR m t into l).1.length=l.length:=by unfold cR;rw[cZ]
 cases into with
 | none=>
   generalize cR m t none l=r at*
   obtain⟨r1,r2⟩:=r
   obtain⟨aa,roads⟩:=m
   simp only[L4,BW,vK,smE,smD,af,Bool.false_or]at*
   simp(disch:=omega)only[go_sem,K.cF,↓reduceIte,ar,LY,V3,V5,l2,L3,Pm,reduceAdd,reduceSub]
 | some s=>
   generalize cR m t (some s) l=r at*
   obtain⟨r1,r2⟩:=r
   obtain⟨aa,roads⟩:=m
   simp only[L4,BW,vK,smE,smD,af,Bool.false_or]at*
   simp(disch:=omega)only[go_sem,K.cF,↓reduceIte,ar,LZ,V4,V5,l2,L3,Pn,reduceAdd,reduceSub]
theorem J2(m:bu)(into:Option (List Int))(t:Int)(l:List Int)(ds:ah):exS bh K.cF (BW m into t l ds false)=some (.exit 0,BW m into t l ds false):=by
 obtain⟨aa,roads⟩:=m
 cases into with
 | none=>
   simp only[L4,BW,af]
   simp(disch:=omega)only[go_sem,K.cF,↓reduceIte,LY,reduceAdd,reduceSub]
 | some s=>
   simp only[L4,BW,af]
   simp(disch:=omega)only[go_sem,K.cF,↓reduceIte,LZ,reduceAdd,reduceSub]
theorem yD{m:bu}(h:m.ok)(t:Int)(ht:0≤t)(ht2:t≤1000000000000)(into:Option (List Int))(hi:∀s,into=some s→s.length≤64):∀(n:Nat) (l:List Int) (ds:ah),ur l<n→l.length=m.aa.length→bnd l→
 ∃ds',kz false [0,1,2,3,7,10] (exS bh K.cF) (BW m into t l ds true)=some (.exit 0,BW m into t (gW (cR m t into) n l) ds' false)
 | 0,l,ds,hn,_,_=>absurd hn (by omega)
 | n+1,l,ds,hn,hl,hb=>by
   have r:=G7 h t ht ht2 into hi l hl hb ds (BW m into t l ds true).H.length
   have s:=(mN h (t:=t) (into:=into) hl hb m.roads.length (aLs _)).1
   change (cR m t into l).2=true→ur (cR m t into l).1<ur l at s
   unfold gW
   cases hc:(cR m t into l).2 with
   | true=>
     rw[hc]at r
     obtain⟨ds',h2⟩:=yD h t ht ht2 into hi n (cR m t into l).1 _ (by have:=s hc;omega) (by unfold cR;rw[cZ,hl]) (gr h hl hb _ (aLs _))
     exact⟨ds',fL r h2⟩
   | false=>
     rw[hc]at r
     exact⟨_,fL r (cG (J2 m into t _ _) (by simp))⟩
theorem sI{m:bu}(h:m.ok)(t:Int)(ht:0≤t)(ht2:t≤1000000000000)(l:List Int)(hl:l.length=m.aa.length)(hb:bnd l):
 bh 0 N.bO [.t m.e,.t (tL l),I t,.fn N.dt []] []=some (.t (tL (dj m t none l)),[])∧
 ∀s:List Int,s.length≤64→bh 1 N.bO [.t m.e,.t (tL l),I t,.fn N.bU [.bp 0 0]] [.box [.t (tL s)]]=some (.ref 1 0 l.length,[.box [.t (tL s)],yC (dj m t (some s) l)]):=by
 have np:=h.np
 have c1:=vI l (by omega)
 have ln:∀into,(dj m t into l).length=l.length:=by
  intro into
  have key:∀n l,(gW (cR m t into) n l).length=l.length:=by
   intro n
   induction n with
   | zero=>intro l;rfl
   | succ n ih=>
     intro l
     unfold gW
     split
     · rw[ih];unfold cR;rw[cZ]
     · unfold cR;rw[cZ]
  exact key _ _
 refine⟨aE K.iE rfl ?_,fun s hs=>aE K.iE rfl ?_⟩
 · obtain⟨ds,lp⟩:=yD h t ht ht2 none (by simp) (ur l+1) l [] (Nat.lt_succ_self _) hl hb
   have ln:=ln none
   have lp:∀z0 z1 z2 z3 z7 z10:D,exS bh K.jL ⟨[z0,z1,z2,z3,.bp 0 0,.bp 1 0,.bp 2 0,z7,.bp 4 0,.bp 5 0,z10],[.box (af m),.box [I t],.box [.fn N.dt []],yC l,.box [.ref 3 0 l.length],.box [B true]]⟩=some (.exit 0,BW m none t (dj m t none l) ds false):=fun z0 z1 z2 z3 z7 z10=>lp
   generalize dj m t none l=r at*
   obtain⟨aa,roads⟩:=m
   simp only[L4,BW,af]at*
   simp(disch:=omega)only[go_sem,K.bO,↓reduceIte,c1,lp,ln,reduceAdd,reduceSub]
 · obtain⟨ds,lp⟩:=yD h t ht ht2 (some s) (by intro s' h;cases h;exact hs) (ur l+1) l [] (Nat.lt_succ_self _) hl hb
   have l2:=ln (some s)
   clear ln
   have lp:∀z0 z1 z2 z3 z7 z10:D,exS bh K.jL ⟨[z0,z1,z2,z3,.bp 1 0,.bp 2 0,.bp 3 0,z7,.bp 5 0,.bp 6 0,z10],[.box [.t (tL s)],.box (af m),.box [I t],.box [.fn N.bU [.bp 0 0]],yC l,.box [.ref 4 0 l.length],.box [B true]]⟩=some (.exit 0,BW m (some s) t (dj m t (some s) l) ds false):=fun z0 z1 z2 z3 z7 z10=>lp
   generalize dj m t (some s) l=r at*
   obtain⟨aa,roads⟩:=m
   simp only[L4,BW,af]at*
   simp(disch:=omega)only[go_sem,K.bO,↓reduceIte,c1,lp,l2,reduceAdd,reduceSub]
end Go.Ev
namespace Go.Ev
open Go
variable [Lib] [cu] [b0]
theorem Al{gc:Bool}{dead:List Nat}{c:C}{vs:List D}{H:ah}(s:Nat→St)(n:Nat)(p:Nat→Bool)(P:Nat→Ex×St→Prop)(eN:Ex×St)
 (h0:(⟨iZ dead vs,H⟩:St)=s 0) (hs:∀j,j<n→p j=false→eP gc dead (s j).H.length (exS bh c (s j))=some (s (j+1)))
 (he:∀j,j<n→p j=true→∃q,exS bh c (s j)=some q∧q.1≠ .normal∧P j q) (hN:exS bh c (s n)=some eN) (hn:eN.1≠ .normal):
 ((List.range n).find? p=none∧exS bh (.loop gc dead c) ⟨vs,H⟩=some eN)∨∃j q,(List.range n).find? p=some j∧exS bh (.loop gc dead c) ⟨vs,H⟩=some q∧P j q:=by
 classical
 let e:Nat→Ex×St:=fun j=>if h:j<n∧p j=true then Classical.choose (he j h.1 h.2)else eN
 have h2:∀j,j<n→p j=true→exS bh c (s j)=some (e j)∧(e j).1≠ .normal∧P j (e j):=by
  intro j hj hp
  have e1:e j=Classical.choose (he j hj hp):=dif_pos ⟨hj,hp⟩
  rw[e1]
  exact Classical.choose_spec (he j hj hp)
 have:=gR s n p e eN h0 hs (fun j hj hp=>⟨(h2 j hj hp).1,(h2 j hj hp).2.1⟩) hN hn
 cases hf:(List.range n).find? p with
 | none=>rw[hf]at this;exact .inl ⟨rfl,this⟩
 | some j=>
   rw[hf]at this
   obtain⟨h3,h4⟩:=su hf
   exact .inr ⟨j,e j,rfl,this,(h2 j h3 h4).2.2⟩
def wH(a b:List Int):Bool:=match (List.range (min a.length b.length)).find? (fun j=>decide (nth a j≠nth b j))with
 | some j=>decide (nth a j<nth b j)
 | none=>decide (a.length<b.length)
def bV(l:List Int)(x:Int):Int:=match (List.range l.length).find? (fun j=>decide (nth l j=x))with
 | some j=>j
 | none=> -1
theorem xC{l:List Int}{x:Int}(h:0≤bV l x):bV l x<l.length∧nth l (bV l x).toNat=x:=by
 unfold bV at h ⊢
 cases hf:(List.range l.length).find? (fun j=>decide (nth l j=x))with
 | some j=>
   obtain⟨h1,h2⟩:=su hf
   simp only[Int.toNat_natCast]
   exact⟨by omega,of_decide_eq_true h2⟩
 | none=>rw[hf]at h;simp at h
def yE(l:List Int)(j:Nat):Bool:=decide (1≤nth l j∧nth l j≤65535∧bV (l.take j) (nth l j)<0)
def dN(l:List Int):Bool:=(List.range l.length).all (yE l)
structure World where
 tags:List Int
 whr:List Wh
instance : Dat World := ⟨⟨[], []⟩⟩
abbrev World.e(x:World):T:= .agg [tL x.tags,.sl (x.whr.map Wh.e)]
structure Bel where
 aH:List World
instance : Dat Bel := ⟨⟨[]⟩⟩
abbrev Bel.e(b:Bel):T:= .agg [.sl (b.aH.map World.e)]
def World.sz(x:World):Prop:=x.tags.length≤1000000∧x.whr.length≤1000000∧∀w∈x.whr,w.frm.length≤1000000
def Bel.sz(b:Bel):Prop:=b.aH.length≤1000000∧∀x∈b.aH,x.sz
@[go_sem] theorem Po (l : List Wh) : b5 2 (l.map Wh.e) = true := lG 2 _ (fun _ => rfl) l
@[go_sem] theorem Ip (l : List World) : b5 2 (l.map World.e) = true := lG 2 _ (fun _ => rfl) l
@[go_sem] theorem Y7 (l : List Wh) : lU 2 (l.map Wh.e) = true := by cases l <;> rfl
@[go_sem] theorem Pp (l : List World) : lU 2 (l.map World.e) = true := by cases l <;> rfl
def Y8(m:bu)(first:List Int)(x:World)(k:Nat):Bool:=decide (0≤bV first (nth x.tags k))&&c7 m (nth x.whr k)
def rC(m:bu)(ws:List World)(first:List Int)(i:Nat):Bool:=
 decide ((nth ws i).tags.length=first.length∧(nth ws i).whr.length=first.length)&&dN (nth ws i).tags&&(decide (i=0)||wH (nth ws (i-1)).tags (nth ws i).tags)&&(List.range (nth ws i).tags.length).all (Y8 m first (nth ws i))
def zc(m:bu)(b:Bel):Bool:=
 decide (1≤b.aH.length∧b.aH.length≤24)&&decide (1≤(nth b.aH 0).tags.length∧(nth b.aH 0).tags.length≤12)&&(List.range b.aH.length).all (rC m b.aH (nth b.aH 0).tags)
end Go.Ev
namespace Go.Ev.K
open Go.Ev
end Go.Ev.K
namespace Go.Ev
class gk [Lib]:Prop where
namespace K
variable [Lib] [gk]
end K
end Go.Ev
namespace Go.Ev.K
open Go.Ev
def dY:C:= (.its [u (.bin .lss v8 v7)] [] 0 .skip (.exit 0) (.seq (.blk 1 (q [m v8,a 1 v6 v8,g l0,x 4 l2,x 5 l1] [] (.ite [m v5,m v1,u (.bin .lss l1 l0),m l0,e 0 false v5,e 1 false v2,y 2 false (.bin .gtr l1 l0),u (.pk l3 (.b true) l0),m l0,e 0 false v4,y 1 false (.bin .gtr l0 (.i 0)),e 2 false l0,e 0 true v5,e 1 true v0,e 2 true v4,y 3 true (.bin .sub l0 (.i 1)),y 4 true (.ia l2 l0 1),i 5 true l0,y 6 true (.bin .leq l5 l0),y 10 false (.pk l7 l0 (.b false)),u (.pk l11 (.b true) l0)] [] 0 (q [x 3 (.b false)] [] .ret) .skip))) (.reg [u (.bin .add v8 (.i 1)),x 8 l0] [])))
def oY:C:= .loop true [3,4,5] K.dY
def dy:Fn:= { bq:=3,vars:=[0,1,2,6,7,8,9,10,11],body:=(q [x 3 (.b false)] [] (.seq (q [x 6 v0,w 7 (.ln l0),x 8 (.i 0)] [] (.blk 0 K.oY)) (q [x 3 (.b true)] [] .ret))),res:=[(3,none)]}
end Go.Ev.K
namespace Go.Ev
class gl [Lib]:Prop where
 mi:Lib.fs N.dy=some K.dy
namespace K
variable [Lib] [gl]
theorem mi:Lib.fs N.dy=some K.dy:=gl.mi
end K
end Go.Ev
namespace Go.Ev
open Go
variable [Lib] [cu] [b0] [gk] [gl]
def G8(l:List Int)(lo hi:Int)(j:Nat):Bool:= !decide (lo≤nth l j∧nth l j≤hi∧(0<j→nth l (j-1)<nth l j))
def L5(l:List Int)(lo hi:Int):Bool:= !((List.range l.length).any (G8 l lo hi))
theorem vL(l:List Int)(lo hi:Int)(hl:l.length≤4294967296):bh 0 N.dy [.t (tL l),I lo,I hi] []=some (B (L5 l lo hi),[]):=by
 refine aE K.mi rfl ?_
 have loop:∀a b c:D,exS bh K.oY ⟨[.t (tL l),I lo,I hi,a,b,c,.t (tL l),I l.length,I 0],[]⟩=
  some (if(List.range l.length).any (G8 l lo hi)=true
   then(.ret,⟨[.t (tL l),I lo,I hi,B false,I (Ah l.length (G8 l lo hi)),I (nth l (Ah l.length (G8 l lo hi))),.t (tL l),I l.length,I (Ah l.length (G8 l lo hi))],[]⟩)
   else(.exit 0,⟨[.t (tL l),I lo,I hi,.und,.und,.und,.t (tL l),I l.length,I l.length],[]⟩)):=by
  intro a b c
  refine GJ (fun j=>⟨[.t (tL l),I lo,I hi,.und,.und,.und,.t (tL l),I l.length,I j],[]⟩) l.length (G8 l lo hi) (fun j=>(.ret,⟨[.t (tL l),I lo,I hi,B false,I j,I (nth l j),.t (tL l),I l.length,I j],[]⟩)) _ rfl ?_ ?_ ?_ (by simp)
  · intro j hj hp
    simp only[G8,Bool.not_eq_false',decide_eq_true_eq]at hp
    obtain⟨h1,h2,h3⟩:=hp
    cases j with
    | zero=>simp(disch:=omega)only[go_sem,K.dY,↓reduceIte]
    | succ j=>
      have h3:=h3 (by omega)
      rw[Nat.add_sub_cancel]at h3
      simp(disch:=omega)only[go_sem,K.dY,↓reduceIte]
  · intro j hj hp
    simp only[G8,Bool.not_eq_true',decide_eq_false_iff_not]at hp
    refine⟨?_,by simp⟩
    by_cases h1:lo≤nth l j
    · by_cases h2:nth l j≤hi
      · cases j with
        | zero=>exact absurd ⟨h1,h2,fun h=>absurd h (by omega)⟩ hp
        | succ j=>
          have h3:¬nth l j<nth l (j+1):=fun h=>hp ⟨h1,h2,fun _=>by simpa using h⟩
          simp(disch:=omega)only[go_sem,K.dY,↓reduceIte]
      · simp(disch:=omega)only[go_sem,K.dY,↓reduceIte]
    · simp(disch:=omega)only[go_sem,K.dY,↓reduceIte]
  · simp(disch:=omega)only[go_sem,K.dY,↓reduceIte]
 unfold L5
 simp(disch:=omega)only[go_sem,K.dy,↓reduceIte,loop]
 cases hf:(List.range l.length).any (G8 l lo hi)with
 | true=>simp(disch:=omega)only[go_sem,↓reduceIte]
 | false=>simp(disch:=omega)only[go_sem,↓reduceIte,aLt]
theorem Pq(l:List Int)(n:Int):L5 l 0 (n-1)=Aa l n:=by
 unfold L5 Aa
 rw[GK]
 refine congrArg (!·) (congrArg _ (funext fun j=>?_))
 unfold G8
 refine congrArg (!·) (decide_eq_decide.2 ⟨fun h=>⟨h.1,by omega,h.2.2⟩,fun h=>⟨h.1,by omega,h.2.2⟩⟩)
structure Y9 where
 st:Int
 fi:Int
 se:Int
 ti:Int
abbrev Y9.e(s:Y9):T:= .agg [tI s.st,tI s.fi,tI s.se,tI s.ti]
structure J3 where
 area:List Int
 hold:Int
 mis:Int
abbrev J3.e(x:J3):T:= .agg [tL x.area,tI x.hold,tI x.mis]
structure Keys where
 roads:List Int
 keys:List Int
 out:Bool
abbrev Keys.e(k:Keys):T:= .agg [tL k.roads,tL k.keys,.bool k.out]
end Go.Ev
namespace Go.Ev
open Go
variable [Lib] [cu] [b0] [gk] [gl] [fG] [fH] [gX] [fT]
theorem Em(x:Int):bh 0 N.bK [I x] []=some (B (!decide (plT x)),[]):=by
 refine aE K.jO rfl ?_
 have i:=tT x 0 2147483648
 unfold plT inT
 by_cases c:x=1099511627776
 · subst c
   simp(disch:=omega)only[go_sem,K.bK,↓reduceIte,reduceAdd,reduceSub]
 · by_cases c2:0≤x∧x≤2147483648
   · simp only[c2,and_self,decide_true]at i
     simp(disch:=omega)only[go_sem,K.bK,↓reduceIte,i,c,c2,false_or,and_self,decide_true,reduceAdd,reduceSub]
   · simp only[c2,decide_false]at i
     simp(disch:=omega)only[go_sem,K.bK,↓reduceIte,i,c,c2,false_or,decide_false,reduceAdd,reduceSub]
theorem G9(m:bu)(hm:m.aa.length≤1000000)(w:Wh)(hl:w.frm.length≤1000000):bh 0 N.cO [.t m.e,.t w.e] []=some (B (tH w m.aa.length),[]):=by
 refine aE K.kS rfl ?_
 have i:=tT w.time 0 2147483648
 have cf:bh 0 N.aD [.t (tL w.frm),.fn N.bK []] []=some (B (w.frm.any fun x=> !decide (plT x)),[]):=oQ w.frm (by omega) N.bK [] (fun x=> !decide (plT x)) (fun x _=>Em x)
 have e:tH w m.aa.length=(decide ((w.frm.length:Int)=m.aa.length∧inT w.time)&& !(w.frm.any fun x=> !decide (plT x))):=by
  unfold tH
  rw[GK,OI w.frm (fun x=> !decide (plT x))]
 rw[e]
 unfold inT
 generalize (w.frm.any fun x=> !decide (plT x))=r at*
 obtain⟨aa,roads⟩:=m
 obtain⟨time,frm⟩:=w
 simp only at*
 clear e
 by_cases c1:(frm.length:Int)=aa.length
 · by_cases c2:0≤time∧time≤2147483648
   · simp only[c2,and_self,decide_true]at i
     cases r<;>simp(disch:=omega)only[go_sem,K.cO,↓reduceIte,i,cf,c1,c2,and_self,decide_true,Bool.true_and,reduceAdd,reduceSub]
   · simp only[c2,decide_false]at i
     simp(disch:=omega)only[go_sem,K.cO,↓reduceIte,i,cf,c1,c2,and_false,decide_false,Bool.false_and,reduceAdd,reduceSub]
 · simp(disch:=omega)only[go_sem,K.cO,↓reduceIte,c1,false_and,decide_false,Bool.false_and,reduceAdd,reduceSub]
theorem Am{m:bu}(h:m.ok)(w:Wh)(hl:w.frm.length≤1000000):bh 0 N.dz [.t m.e,.t w.e] []=some (B (c7 m w),[]):=by
 refine aE K.mb rfl ?_
 have np:=h.np
 have v:=j5 h
 have s:=G9 m (by omega) w hl
 unfold c7
 cases hp:tH w m.aa.length with
 | false=>
   rw[hp]at s
   obtain⟨aa,roads⟩:=m
   obtain⟨time,frm⟩:=w
   simp only at*
   simp(disch:=omega)only[go_sem,K.dz,↓reduceIte,v,s,Bool.false_and,reduceAdd,reduceSub]
 | true=>
   rw[hp]at s
   obtain⟨p1,p2,p3⟩:=vB hp
   have hb:bnd w.frm:=fun x hx=>nI (p3 x hx)
   have lo:=(sI h w.time (by unfold inT at p2;omega) (by unfold inT at p2;omega) w.frm (by omega) hb).1
   have ll:=Ee h w.time p2 none (by simp) (l:=w.frm) (by omega) hb
   have eq:=uy (dj m w.time none w.frm) w.frm (by omega) (by omega)
   generalize dj m w.time none w.frm=c at*
   obtain⟨aa,roads⟩:=m
   obtain⟨time,frm⟩:=w
   simp only at*
   clear hb p3
   simp(disch:=omega)only[go_sem,K.dz,↓reduceIte,v,s,lo,eq,Bool.true_and,reduceAdd,reduceSub]
theorem Hc{m:bu}(h:m.ok)(h1:1≤m.aa.length)(p t:Int):bh 0 N.c8 [.t m.e,I p,I t] []=some (.tup [.t (dL m p t).1.e,I (dL m p t).2],[]):=by
 refine aE K.ma rfl ?_
 have np:=h.np
 have v:=j5 h
 have i1:=tT p 0 (m.aa.length-1)
 have i2:=tT t 0 2147483648
 have nw:=vJ h h1
 have nl:=kF m.aa.length
 unfold dL
 by_cases c1:p<0∨(m.aa.length:Int)≤p
 · rw[if_pos c1]
   rw[decide_eq_false (by omega)]at i1
   obtain⟨aa,roads⟩:=m
   simp only at*
   simp(disch:=omega)only[go_sem,K.c8,↓reduceIte,v,i1,reduceAdd,reduceSub]
   rfl
 · rw[if_neg c1]
   rw[decide_eq_true (by omega)]at i1
   by_cases c2:inT t
   · rw[if_pos c2]
     rw[decide_eq_true (show 0≤t∧t≤2147483648 from c2)]at i2
     have hb:bnd ((dI m.aa.length).set p.toNat t):=qp (sB _) (by unfold inT at c2;omega) (by unfold inT at c2;omega)
     have lo:=(sI h t (by unfold inT at c2;omega) (by unfold inT at c2;omega) ((dI m.aa.length).set p.toNat t) (by simp) hb).1
     generalize dj m t none ((dI m.aa.length).set p.toNat t)=c at*
     generalize dI m.aa.length=ne at*
     obtain⟨aa,roads⟩:=m
     simp only at*
     clear hb
     simp(disch:=omega)only[go_sem,K.c8,↓reduceIte,v,i1,i2,nw,lo,reduceAdd,reduceSub]
   · rw[if_neg c2]
     rw[decide_eq_false (show ¬(0≤t∧t≤2147483648)from c2)]at i2
     obtain⟨aa,roads⟩:=m
     simp only at*
     simp(disch:=omega)only[go_sem,K.c8,↓reduceIte,v,i1,i2,reduceAdd,reduceSub]
     rfl
theorem En{m:bu}(h:m.ok)(w:Wh)(hl:w.frm.length≤1000000)(aa:List Int)(hp:aa.length≤1000000)(a b:Int):
 bh 0 N.bX [.t m.e,.t w.e,.t (tL aa),I a,I b] []=some (I (lH m w aa a b),[]):=by
 refine aE K.mc rfl ?_
 have np:=h.np
 have v:=Am h w hl
 have s:=vL aa 0 (m.aa.length-1) (by omega)
 rw[Pq]at s
 have i1:=tT a 0 2147483648
 have i2:=tT b 0 2147483648
 have e0:(aa≠[])↔(aa.length:Int)≠0:=by rw[ne_eq,←List.length_eq_zero_iff];omega
 unfold lH
 cases hv:c7 m w with
 | false=>
   rw[hv]at v
   rw[if_neg (by simp)]
   obtain⟨pl,roads⟩:=m
   obtain⟨time,frm⟩:=w
   simp only at*
   simp(disch:=omega)only[go_sem,K.bX,↓reduceIte,v,reduceAdd,reduceSub]
 | true=>
   rw[hv]at v
   by_cases c0:(aa.length:Int)=0
   · rw[if_neg (fun h=>e0.1 h.2.1 c0)]
     obtain⟨pl,roads⟩:=m
     obtain⟨time,frm⟩:=w
     simp only at*
     simp(disch:=omega)only[go_sem,K.bX,↓reduceIte,v,c0,reduceAdd,reduceSub]
   · cases hs:Aa aa m.aa.length with
     | false=>
       rw[hs]at s
       rw[if_neg (by simp)]
       obtain⟨pl,roads⟩:=m
       obtain⟨time,frm⟩:=w
       simp only at*
       simp(disch:=omega)only[go_sem,K.bX,↓reduceIte,v,s,c0,reduceAdd,reduceSub]
     | true=>
       rw[hs]at s
       rw[if_pos ⟨rfl,e0.2 c0,rfl⟩]
       obtain⟨pl,roads⟩:=m
       obtain⟨time,frm⟩:=w
       simp only at*
       by_cases c1:inT a
       · rw[decide_eq_true (show 0≤a∧a≤2147483648 from c1)]at i1
         by_cases c2:inT b
         · rw[decide_eq_true (show 0≤b∧b≤2147483648 from c2)]at i2
           by_cases c3:a≤b
           · rw[if_pos ⟨c1,c2,c3⟩]
             simp(disch:=omega)only[go_sem,K.bX,↓reduceIte,v,s,c0,i1,i2,c3,reduceAdd,reduceSub]
           · rw[if_neg (fun h=>c3 h.2.2)]
             simp(disch:=omega)only[go_sem,K.bX,↓reduceIte,v,s,c0,i1,i2,c3,reduceAdd,reduceSub]
         · rw[decide_eq_false (show ¬(0≤b∧b≤2147483648)from c2)]at i2
           rw[if_neg (fun h=>c2 h.2.1)]
           simp(disch:=omega)only[go_sem,K.bX,↓reduceIte,v,s,c0,i1,i2,reduceAdd,reduceSub]
       · rw[decide_eq_false (show ¬(0≤a∧a≤2147483648)from c1)]at i1
         rw[if_neg (fun h=>c1 h.1)]
         simp(disch:=omega)only[go_sem,K.bX,↓reduceIte,v,s,c0,i1,reduceAdd,reduceSub]
theorem An(w:Wh)(t:Int)(hl:w.frm.length≤1000000):bh 0 N.dA [.t w.e,I t] []=some (.tup [.t (eE w t).1.e,I (eE w t).2],[]):=by
 refine aE K.mh rfl ?_
 have c:=G4 w.frm hl
 unfold eE
 obtain⟨time,frm⟩:=w
 simp only at*
 by_cases c1:t<time
 · rw[if_pos (.inl c1)]
   simp(disch:=omega)only[go_sem,K.dA,↓reduceIte,c1,reduceAdd,reduceSub]
 · by_cases c2:2147483648<t
   · rw[if_pos (.inr c2)]
     simp(disch:=omega)only[go_sem,K.dA,↓reduceIte,c1,c2,reduceAdd,reduceSub]
   · rw[if_neg (by omega)]
     simp(disch:=omega)only[go_sem,K.dA,↓reduceIte,c1,c2,c,reduceAdd,reduceSub]
end Go.Ev
namespace Go.Ev.N
def Iq:Nat:=215
def Ir:Nat:=216
def Is:Nat:=217
def Pr:Nat:=218
def Ps:Nat:=219
def Pt:Nat:=220
def SA:Nat:=221
def SB:Nat:=222
def SC:Nat:=223
def V6:Nat:=224
def Pu:Nat:=225
def Pv:Nat:=226
def Pw:Nat:=227
def V7:Nat:=228
def Px:Nat:=229
def Py:Nat:=230
def SD:Nat:=231
def L6:Nat:=232
def SE:Nat:=233
def L7:Nat:=234
def L8:Nat:=235
def L9:Nat:=236
def SF:Nat:=237
def Ma:Nat:=238
def V8:Nat:=239
def V9:Nat:=240
def BX:Nat:=241
def SG:Nat:=242
def Pz:Nat:=243
def It:Nat:=244
end Go.Ev.N
namespace Go.Ev.N
def De:Nat:=245
def BZ:Nat:=246
def B0:Nat:=247
def PA:Nat:=248
def J4:Nat:=249
def PB:Nat:=250
def Df:Nat:=251
def Iu:Nat:=252
def Hd:Nat:=253
def PC:Nat:=254
def Mb:Nat:=255
def SI:Nat:=256
def dm:Nat:=257
def Eo:Nat:=258
def nO:Nat:=259
def bE:Nat:=260
def aT:Nat:=261
def dO:Nat:=262
def aU:Nat:=263
def ak:Nat:=264
def cP:Nat:=265
def oA:Nat:=266
def aF:Nat:=267
def bW:Nat:=268
def ay:Nat:=269
def cmp_isNaN_int:Nat:=270
end Go.Ev.N
namespace Go.Ev.N
def Ep:Nat:=271
def He:Nat:=272
def B1:Nat:=273
def Fi:Nat:=274
def Iv:Nat:=275
def Hf:Nat:=276
def fC:Nat:=277
def gL:Nat:=278
def SJ:Nat:=279
def iW:Nat:=280
def bD:Nat:=281
def gM:Nat:=282
def Mc:Nat:=283
def PD:Nat:=284
def PE:Nat:=285
def SK:Nat:=286
def aN:Nat:=287
def gw:Nat:=288
def iG:Nat:=289
def fD:Nat:=290
def dn:Nat:=291
def b9:Nat:=292
def Iw:Nat:=293
def PF:Nat:=294
def PG:Nat:=295
def dB:Nat:=296
def aI:Nat:=297
def aJ:Nat:=298
def a8:Nat:=299
def bw:Nat:=300
def aA:Nat:=301
def av:Nat:=302
def aQ:Nat:=303
def az:Nat:=304
def aG:Nat:=305
def a7:Nat:=306
def aK:Nat:=307
def cr:Nat:=308
end Go.Ev.N
namespace Go.Ev.N
def Md:Nat:=309
def Hg:Nat:=310
def Ix:Nat:=311
def Iy:Nat:=312
def Hh:Nat:=313
def PH:Nat:=314
def abR:Nat:=315
def Wb:Nat:=316
def PI:Nat:=317
def PJ:Nat:=318
def PL:Nat:=319
def PM:Nat:=320
def Wc:Nat:=321
def Wd:Nat:=322
def PN:Nat:=323
def J5:Nat:=324
def We:Nat:=325
def Za:Nat:=326
def Iz:Nat:=327
def Me:Nat:=328
def J6:Nat:=329
def rR:Nat:=330
def tJ:Nat:=331
def J7:Nat:=332
def Hi:Nat:=333
end Go.Ev.N
namespace Go.Ev.K
open Go.Ev
end Go.Ev.K
namespace Go.Ev
class pF [Lib]:Prop where
namespace K
variable [Lib] [pF]
end K
end Go.Ev
namespace Go.Ev.K
open Go.Ev
end Go.Ev.K
namespace Go.Ev
class pG [Lib]:Prop where
namespace K
variable [Lib] [pG]
end K
end Go.Ev
namespace Go.Ev
open Go
variable [Lib] [cu] [b0] [gk] [gl] [fG] [fH] [gX] [fT] [pF] [pG]
end Go.Ev
namespace Go.Ev
open Go
variable [Lib] [cu] [b0]
@[go_sem] theorem PO (l : List Place) : lU 2 (l.map Place.e) = true := by cases l <;> rfl
@[go_sem] theorem SL (l : List Road) : lU 10 (l.map Road.e) = true := by cases l <;> rfl
@[go_sem] theorem SM (H : ah) (d : aR) : Jb H 0 1 false (some d.obj) = some (.t (tL d.L), H) := by simp only [aR.obj, go_sem]
def aR.dP(d:aR):Nat→List Place×aR
 | 0=>([],d)
 | k+1=>if k=0 then((d.dP k).1++[⟨-10*((d.dP k).2.next 4).1,true⟩],((d.dP k).2.next 4).2)
   else((d.dP k).1++[⟨-10*((d.dP k).2.next 4).1,(((d.dP k).2.next 4).2.one 6).1⟩],(((d.dP k).2.next 4).2.one 6).2)
def aR.Er(d:aR)(i:Int):Road×aR:=
 (⟨i-1-(d.next (min i 2)).1,i,1+((d.next (min i 2)).2.of [11,59,119,4]).1,1+(((d.next (min i 2)).2.of [11,59,119,4]).2.of [9,3,19]).1,true,false,1,1,0,0⟩,
   (((d.next (min i 2)).2.of [11,59,119,4]).2.of [9,3,19]).2)
def aR.jm(d:aR):Nat→List Road×aR
 | 0=>([],d)
 | k+1=>((d.jm k).1++[((d.jm k).2.Er (k+1)).1],((d.jm k).2.Er (k+1)).2)
def aR.nQ(d:aR)(n:Int):Road×aR:=
 let a:=d.next n
 let b:=a.2.next n
 let l:=b.2.of [11,59,199]
 let r:=l.2.of [9,3]
 let w:=r.2.next 5
 let c:=w.2.one 6
 (⟨a.1,b.1,1+l.1,1+r.1,decide (0<w.1),c.1,1,1,0,0⟩,c.2)
def aR.more(n:Int)(l:List Road)(d:aR):Nat→List Road×aR
 | 0=>(l,d)
 | k+1=>if l.length<10 then aR.more n (if(d.nQ n).1.frm=(d.nQ n).1.to then l else l++[(d.nQ n).1]) (d.nQ n).2 k else(l,d)
def aR.qv(d:aR):Nat:=if d.L.length=0 then 4 else(2+(d.next 6).1).toNat
def aR.Hj(d:aR):List Place×aR:=(d.next 6).2.dP d.qv
def aR.yF(d:aR):List Road×aR:=d.Hj.2.jm (d.qv-1)
def aR.J8(d:aR):List Road×aR:=aR.more d.qv d.yF.1 (d.yF.2.next 4).2 (d.yF.2.next 4).1.toNat
def aR.Mf(d:aR):bu×aR:=(⟨d.Hj.1,d.J8.1⟩,d.J8.2)
theorem aR.jq{d:aR}(h:d.eL):∀n,(d.dP n).2.eL
 | 0=>h
 | n+1=>by
   unfold aR.dP
   split
   · exact aR.cB (aR.jq h n) 4
   · exact aR.zT (aR.cB (aR.jq h n) 4) 6
theorem aR.nS(d:aR):∀n,(d.dP n).1.length=n
 | 0=>rfl
 | n+1=>by
   unfold aR.dP
   split<;>simp[d.nS n]
theorem aR.B2{d:aR}(h:d.eL)(i:Int):(d.Er i).2.eL:=aR.nG (aR.nG (aR.cB h _) _) _
theorem aR.lK{d:aR}(h:d.eL):∀n,(d.jm n).2.eL
 | 0=>h
 | n+1=>aR.B2 (aR.lK h n) _
theorem aR.pz(d:aR):∀n,(d.jm n).1.length=n
 | 0=>rfl
 | n+1=>by simp[aR.jm,d.pz n]
theorem aR.vM{d:aR}(h:d.eL)(n:Int):(d.nQ n).2.eL:=by
 unfold aR.nQ;simp only
 exact aR.zT (aR.cB (aR.nG (aR.nG (aR.cB (aR.cB h _) _) _) _) _) _
theorem aR.xD(n:Int):∀(k:Nat) (l:List Road) {d:aR},d.eL→(aR.more n l d k).2.eL
 | 0,l,d,h=>h
 | k+1,l,d,h=>by
   unfold aR.more
   split
   · exact aR.xD n k _ (aR.vM h n)
   · exact h
theorem aR.Es{d:aR}(h:d.eL):d.Mf.2.eL:=
 aR.xD _ _ _ (aR.cB (aR.lK (aR.jq (aR.cB h _) _) _) _)
abbrev yG:List D:=[I 0,I 0,I 12,I 10,B true,B false,I 1,I 1,I 0,I 0]
theorem Et(d:aR)(hd:d.eL)(n:Nat)(hn:n≤8)(a b c e f:D):
 exS bh K.mF ⟨[.bp 0 0,.bp 1 0,.bp 2 0,I n,I 0,a,b,c,e,f],[d.obj,.box [.nil,.nil],.box [.ref 3 0 0,.ref 4 0 0],.arr 2 false 0 [],.arr 10 false 0 []]⟩=
 some (.exit 0,⟨[.bp 0 0,.bp 1 0,.bp 2 0,I n,I n,.und,.und,.und,.und,.und],[(d.dP n).2.obj,.box [.nil,.nil],.box [.ref 3 0 (d.dP n).1.length,.ref 4 0 0],.arr 2 false 0 (((d.dP n).1.map Place.e).map .t),.arr 10 false 0 []]⟩):=by
 refine fP (fun j=>⟨[.bp 0 0,.bp 1 0,.bp 2 0,I n,I j,.und,.und,.und,.und,.und],[(d.dP j).2.obj,.box [.nil,.nil],.box [.ref 3 0 (d.dP j).1.length,.ref 4 0 0],.arr 2 false 0 (((d.dP j).1.map Place.e).map .t),.arr 10 false 0 []]⟩) n rfl ?_ ?_ (by simp)
 · intro j hj
   have ln:=d.nS j
   have lt:=aR.jq hd j
   simp only[aR.dP]
   generalize d.dP j=s at*
   obtain⟨l,d1⟩:=s
   simp only at ln lt ⊢
   have h1:=kN d1 4 (by omega) lt
   have b1:=d1.kg 4
   have b2:=d1.kh (n:=4) (by omega)
   have l1:=aR.cB lt 4
   generalize d1.next 4=a1 at*
   obtain⟨x,d2⟩:=a1
   simp only at h1 b1 b2 l1 ⊢
   by_cases j0:j=0
   · subst j0
     simp(disch:=omega)only[go_sem,K.gB,h1,↓reduceIte,reduceAdd,reduceSub]
   · have h2:=Lr d2 6 (by omega) (by omega) l1
     simp(disch:=omega)only[go_sem,K.gB,h1,h2,j0,↓reduceIte,reduceAdd,reduceSub]
 · simp(disch:=omega)only[go_sem,K.gB,↓reduceIte]
theorem Eu(d:aR)(hd:d.eL)(n:Nat)(hn:n≤8)(h1:1≤n)(ps:List Place)(a b c e:D):
 exS bh K.mG ⟨[.bp 0 0,.bp 1 0,.bp 2 0,I n,a,.bp 5 0,I 1,b,c,e],[d.obj,.box [.nil,.nil],.box [.ref 3 0 ps.length,.ref 4 0 0],.arr 2 false 0 ((ps.map Place.e).map .t),.arr 10 false 0 [],.box yG]⟩=
 some (.exit 2,⟨[.bp 0 0,.bp 1 0,.bp 2 0,I n,.und,.bp 5 0,I n,.und,.und,.und],[(d.jm (n-1)).2.obj,.box [.nil,.nil],.box [.ref 3 0 ps.length,.ref 4 0 (d.jm (n-1)).1.length],.arr 2 false 0 ((ps.map Place.e).map .t),.arr 10 false 0 (((d.jm (n-1)).1.map Road.e).map .t),.box yG]⟩):=by
 refine fP (fun j=>⟨[.bp 0 0,.bp 1 0,.bp 2 0,I n,.und,.bp 5 0,I (j+1),.und,.und,.und],[(d.jm j).2.obj,.box [.nil,.nil],.box [.ref 3 0 ps.length,.ref 4 0 (d.jm j).1.length],.arr 2 false 0 ((ps.map Place.e).map .t),.arr 10 false 0 (((d.jm j).1.map Road.e).map .t),.box yG]⟩) (n-1) rfl ?_ ?_ (by simp)
 · intro j hj
   have ln:=d.pz j
   have lt:=aR.lK hd j
   simp only[aR.jm]
   generalize d.jm j=s at*
   obtain⟨l,d1⟩:=s
   simp only[aR.Er]at ln lt ⊢
   have h1:=kN d1 (min ((j:Int)+1) 2) (by omega) lt
   have b1:=d1.kg (min ((j:Int)+1) 2)
   have b2:=d1.kh (n:=min ((j:Int)+1) 2) (by omega)
   have l1:=aR.cB lt (min ((j:Int)+1) 2)
   generalize d1.next (min ((j:Int)+1) 2)=a1 at*
   obtain⟨x,d2⟩:=a1
   simp only at h1 b1 b2 l1 ⊢
   have h2:=Jw d2 [11,59,119,4] (by simp) (by simp) l1
   have m2:=d2.tD (l:=[11,59,119,4]) (by simp)
   have l2:=aR.nG l1 [11,59,119,4]
   generalize d2.of [11,59,119,4]=a2 at*
   obtain⟨y,d3⟩:=a2
   simp only[tL,List.map_cons,List.map_nil]at h2 m2 l2 ⊢
   have h3:=Jw d3 [9,3,19] (by simp) (by simp) l2
   have m3:=d3.tD (l:=[9,3,19]) (by simp)
   generalize d3.of [9,3,19]=a3 at*
   obtain⟨z,d4⟩:=a3
   simp only[tL,List.map_cons,List.map_nil,List.mem_cons,List.not_mem_nil,or_false]at h3 m2 m3 ⊢
   simp(disch:=omega)only[go_sem,K.jd,h1,h2,h3,↓reduceIte,reduceAdd,reduceSub]
 · simp(disch:=omega)only[go_sem,K.jd,↓reduceIte]
   rw[show((n-1:Nat):Int)+1=n by omega]
abbrev Ao(d:aR)(ps:List Place)(l:List Road):ah:=[d.obj,.box [.nil,.nil],.box [.ref 3 0 ps.length,.ref 4 0 l.length],.arr 2 false 0 ((ps.map Place.e).map .t),.arr 10 false 0 ((l.map Road.e).map .t),.box yG]
theorem Ew(d:aR)(hd:d.eL)(n:Int)(hn:1≤n)(hn2:n≤8)(ps:List Place)(l:List Road)(hl:l.length<10)(k:Nat)(hk:k≤10):
 eP true [4,6,7,9] 6 (exS bh K.di ⟨[.bp 0 0,.bp 1 0,.bp 2 0,I n,.und,.bp 5 0,.und,.und,I (k+1),.und],Ao d ps l⟩)=
 some ⟨[.bp 0 0,.bp 1 0,.bp 2 0,I n,.und,.bp 5 0,.und,.und,I k,.und],Ao (d.nQ n).2 ps (if(d.nQ n).1.frm=(d.nQ n).1.to then l else l++[(d.nQ n).1])⟩:=by
 unfold aR.nQ Ao
 simp only
 have h1:=kN d n (by omega) hd
 have l1:=aR.cB hd n
 generalize d.next n=a1 at*
 obtain⟨x1,d1⟩:=a1
 simp only at h1 l1 ⊢
 have h2:=kN d1 n (by omega) l1
 have l2:=aR.cB l1 n
 generalize d1.next n=a2 at*
 obtain⟨x2,d2⟩:=a2
 simp only at h2 l2 ⊢
 have h3:=Jw d2 [11,59,199] (by simp) (by simp) l2
 have m3:=d2.tD (l:=[11,59,199]) (by simp)
 have l3:=aR.nG l2 [11,59,199]
 generalize d2.of [11,59,199]=a3 at*
 obtain⟨x3,d3⟩:=a3
 simp only[tL,List.map_cons,List.map_nil]at h3 m3 l3 ⊢
 have h4:=Jw d3 [9,3] (by simp) (by simp) l3
 have m4:=d3.tD (l:=[9,3]) (by simp)
 have l4:=aR.nG l3 [9,3]
 generalize d3.of [9,3]=a4 at*
 obtain⟨x4,d4⟩:=a4
 simp only[tL,List.map_cons,List.map_nil]at h4 m4 l4 ⊢
 have h5:=kN d4 5 (by omega) l4
 have l5:=aR.cB l4 5
 generalize d4.next 5=a5 at*
 obtain⟨x5,d5⟩:=a5
 simp only at h5 l5 ⊢
 have h6:=Lr d5 6 (by omega) (by omega) l5
 generalize d5.one 6=a6 at*
 obtain⟨x6,d6⟩:=a6
 simp only[List.mem_cons,List.not_mem_nil,or_false]at h6 m3 m4 ⊢
 by_cases e:x1=x2
 · simp(disch:=omega)only[go_sem,K.di,h1,h2,h3,h4,h5,h6,e,↓reduceIte,reduceAdd,reduceSub]
 · simp(disch:=omega)only[go_sem,K.di,h1,h2,h3,h4,h5,h6,e,↓reduceIte,reduceAdd,reduceSub]
theorem xE(n:Int)(hn:1≤n)(hn2:n≤8)(ps:List Place):∀(k:Nat) (d:aR) (l:List Road),d.eL→l.length≤10→k≤10→
 ∃z:Int,kz true [4,6,7,9] (exS bh K.di) ⟨[.bp 0 0,.bp 1 0,.bp 2 0,I n,.und,.bp 5 0,.und,.und,I k,.und],Ao d ps l⟩=
 some (.exit 4,⟨[.bp 0 0,.bp 1 0,.bp 2 0,I n,.und,.bp 5 0,.und,.und,I z,.und],Ao (aR.more n l d k).2 ps (aR.more n l d k).1⟩)
 | 0,d,l,hd,hl,hk=>by
   refine⟨0,cG ?_ (by simp)⟩
   simp(disch:=omega)only[go_sem,K.di,aR.more,↓reduceIte,reduceAdd,reduceSub]
 | k+1,d,l,hd,hl,hk=>by
   by_cases h:l.length<10
   · have hr:=Ew d hd n hn hn2 ps l h k (by omega)
     obtain⟨z,hz⟩:=xE n hn hn2 ps k (d.nQ n).2 (if(d.nQ n).1.frm=(d.nQ n).1.to then l else l++[(d.nQ n).1]) (aR.vM hd n) (by split<;>(try rw[aLv,List.length_singleton])<;>omega) (by omega)
     refine⟨z,fL hr ?_⟩
     rw[hz]
     simp only[aR.more,if_pos h]
   · refine⟨(k:Int)+1,cG ?_ (by simp)⟩
     simp(disch:=omega)only[go_sem,K.di,aR.more,↓reduceIte,reduceAdd,reduceSub]
theorem aR.Dg(n:Int):∀(k:Nat) (l:List Road) (d:aR),l.length≤10→(aR.more n l d k).1.length≤10
 | 0,l,d,h=>h
 | k+1,l,d,h=>by
   unfold aR.more
   split
   · exact aR.Dg n k _ _ (by split<;>(try rw[aLv,List.length_singleton])<;>omega)
   · exact h
theorem aR.uz(d:aR):2≤d.qv∧d.qv≤7:=by
 unfold aR.qv
 have:=d.kg 6
 have:=d.kh (n:=6) (by omega)
 split<;>omega
theorem PQ(d:aR)(hd:d.eL):bh 0 N.cm [.bp 0 0] [d.obj]=some (.t d.Mf.1.e,[d.Mf.2.obj]):=by
 refine aE K.ka rfl ?_
 have nb:=d.uz
 unfold aR.Mf
 have h0:=kN d 6 (by omega) hd
 have l0:=aR.cB hd 6
 have b1:=d.kg 6
 have b2:=d.kh (n:=6) (by omega)
 have hL:=d.Lq 6
 have hN:(d.qv:Int)=if d.L.length=0 then 4 else 2+(d.next 6).1:=by unfold aR.qv;split<;>omega
 have e1:d.J8=aR.more d.qv d.yF.1 (d.yF.2.next 4).2 (d.yF.2.next 4).1.toNat:=rfl
 have e2:d.yF=d.Hj.2.jm (d.qv-1):=rfl
 have e3:d.Hj=(d.next 6).2.dP d.qv:=rfl
 generalize d.J8=X at*
 generalize d.yF=R at*
 generalize d.Hj=P at*
 generalize d.qv=n at*
 generalize d.next 6=a at*
 obtain⟨x,d1⟩:=a
 simp only at h0 l0 b1 b2 hL hN e3 ⊢
 have q1:=Et d1 l0 n (by omega)
 have lP:=aR.jq l0 n
 have nP:=d1.nS n
 rw[← e3]at q1 lP nP
 obtain⟨ps,d2⟩:=P
 simp only at q1 lP nP e2 ⊢
 have q2:=Eu d2 lP n (by omega) (by omega) ps
 have lR:=aR.lK lP (n-1)
 have nR:=d2.pz (n-1)
 rw[← e2]at q2 lR nR
 obtain⟨rs,d3⟩:=R
 simp only at q2 lR nR e1 ⊢
 have h4:=kN d3 4 (by omega) lR
 have l4:=aR.cB lR 4
 have b3:=d3.kg 4
 have b4:=d3.kh (n:=4) (by omega)
 generalize d3.next 4=c at*
 obtain⟨y,d4⟩:=c
 simp only at h4 l4 b3 b4 e1 ⊢
 obtain⟨z,q3⟩:=xE n (by omega) (by omega) ps y.toNat d4 rs l4 (by omega) (by omega)
 rw[← e1]at q3
 have q3:=vu (vs:=[.bp 0 0,.bp 1 0,.bp 2 0,I n,.und,.bp 5 0,I n,.und,I y.toNat,.und]) q3
 have ey:(y.toNat:Int)=y:=by omega
 rw[ey]at q3
 obtain⟨xs,d5⟩:=X
 have fin:∀k:Int,(exS bh K.mH ⟨[.bp 0 0,.bp 1 0,.bp 2 0,I n,.und,.bp 5 0,I n,.und,I y,.und],Ao d4 ps rs⟩)=
  some (.exit 4,⟨[.bp 0 0,.bp 1 0,.bp 2 0,I n,.und,.bp 5 0,.und,.und,I z,.und],Ao d5 ps xs⟩):=fun _=>q3
 clear q3
 have q3:=fin 0
 clear fin
 simp only[Ao]at q3
 by_cases c0:d.L.length=0
 · rw[if_pos c0]at hN
   obtain rfl:n=4:=by omega
   have e4:((4:Nat):Int)=4:=rfl
   simp only[e4]at q1 q2 q3
   simp(disch:=omega)only[go_sem,K.cm,↓reduceIte,h0,c0,q1,q2,q3,h4,hL,reduceAdd,reduceSub]
 · rw[if_neg c0]at hN
   simp(disch:=omega)only[go_sem,K.cm,↓reduceIte,h0,c0,q1,q2,q3,h4,hL,hN.symm,reduceAdd,reduceSub]
theorem aR.J9(d:aR){n:Nat}{i:Int}(h1:1≤i)(h2:i<n):(d.Er i).1.ok n:=by
 have b1:=d.kg (min i 2)
 have b2:=d.kh (n:=min i 2) (by omega)
 have m2:=(d.next (min i 2)).2.tD (l:=[11,59,119,4]) (by simp)
 have m3:=((d.next (min i 2)).2.of [11,59,119,4]).2.tD (l:=[9,3,19]) (by simp)
 simp only[List.mem_cons,List.not_mem_nil,or_false]at m2 m3
 unfold aR.Er
 constructor<;>(simp only;omega)
theorem aR.Aq(d:aR){n:Nat}:∀k,k+1≤n→∀r∈(d.jm k).1,r.ok n
 | 0,_,r,hr=>by simp[aR.jm]at hr
 | k+1,h,r,hr=>by
   simp only[aR.jm,List.mem_append,List.mem_singleton]at hr
   rcases hr with hr | rfl
   · exact d.Aq k (by omega) r hr
   · exact aR.J9 _ (by omega) (by omega)
theorem aR.Ka(d:aR){n:Nat}(hn:1≤n)(hne:(d.nQ n).1.frm≠(d.nQ n).1.to):(d.nQ n).1.ok n:=by
 unfold aR.nQ at hne ⊢
 simp only at hne ⊢
 have b1:=d.kg n
 have b2:=d.kh (n:=(n:Int)) (by omega)
 generalize d.next n=a1 at*
 obtain⟨x1,d1⟩:=a1
 simp only at*
 have c1:=d1.kg n
 have c2:=d1.kh (n:=(n:Int)) (by omega)
 generalize d1.next n=a2 at*
 obtain⟨x2,d2⟩:=a2
 simp only at*
 have m3:=d2.tD (l:=[11,59,199]) (by simp)
 generalize d2.of [11,59,199]=a3 at*
 obtain⟨x3,d3⟩:=a3
 simp only at*
 have m4:=d3.tD (l:=[9,3]) (by simp)
 generalize d3.of [9,3]=a4 at*
 obtain⟨x4,d4⟩:=a4
 simp only[List.mem_cons,List.not_mem_nil,or_false]at m3 m4 ⊢
 constructor<;>(simp only;omega)
theorem aR.Hk{n:Nat}(hn:1≤n):∀(k:Nat) (l:List Road) (d:aR),(∀r∈l,r.ok n)→∀r∈(aR.more n l d k).1,r.ok n
 | 0,l,d,h=>h
 | k+1,l,d,h=>by
   unfold aR.more
   split
   · refine aR.Hk hn k _ _ ?_
     split
     · exact h
     · rename_i hne
       intro r hr
       rcases List.mem_append.1 hr with hr | hr
       · exact h r hr
       · rw[List.mem_singleton.1 hr];exact d.Ka hn hne
   · exact h
theorem aR.Ar(n:Int):∀(k:Nat) (l:List Road) (d:aR),l.length≤(aR.more n l d k).1.length
 | 0,l,d=>aLs _
 | k+1,l,d=>by
   unfold aR.more
   split
   · refine Nat.le_trans ?_ (aR.Ar n k _ _)
     split<;>(try rw[aLv])<;>omega
   · exact aLs _
theorem aR.As(d:aR):∀k,∀p∈(d.dP k).1, -30≤p.h∧p.h≤0
 | 0,p,hp=>by simp[aR.dP]at hp
 | k+1,p,hp=>by
   have b1:=(d.dP k).2.kg 4
   have b2:=(d.dP k).2.kh (n:=4) (by omega)
   unfold aR.dP at hp
   split at hp
   all_goals
    simp only[List.mem_append,List.mem_singleton]at hp
    rcases hp with hp | rfl
    · exact d.As k p hp
    · simp only;omega
theorem aR.vN(d:aR):d.Mf.1.aa.length=d.qv:=aR.nS _ _
theorem aR.xF(d:aR):d.qv-1≤d.Mf.1.roads.length∧d.Mf.1.roads.length≤10:=by
 have nb:=d.uz
 have e:d.yF.1.length=d.qv-1:=aR.pz _ _
 constructor
 · rw[← e];exact aR.Ar _ _ _ _
 · exact aR.Dg _ _ _ _ (by omega)
theorem aR.Hl(d:aR):d.Mf.1.ok:=by
 have nb:=d.uz
 have h1:=d.vN
 have h2:=d.xF
 refine⟨by omega,by omega,fun p hp=>?_,?_⟩
 · have:=aR.As _ _ p hp;omega
 · rw[h1]
   exact aR.Hk (by omega) _ _ _ (aR.Aq _ _ (by omega))
@[go_sem] theorem Wf (l : List Spn) : lU 2 (l.map Spn.e) = true := by cases l <;> rfl
@[go_sem] theorem abS (l : List Spn) (k : Nat) (a b : Int) : (List.map D.t (List.map Spn.e l)).set k (D.t (T.agg [tI a, tI b])) = List.map D.t (List.map Spn.e (l.set k ⟨a, b⟩)) := by
 rw[List.map_set,List.map_set]
@[go_sem] theorem ac7 (H : ah) (sz : Nat) (a b c d e f : T) : xp H sz [.t a, .t b, .t c, .t d, .t e, .t f] = if b5 sz [a, b, c, d, e, f] = true then some (.t (.sl [a, b, c, d, e, f]), H) else none := oK H sz [a, b, c, d, e, f]
@[go_sem] theorem ac8 (H : ah) (sz : Nat) (a b c d e f g : T) : xp H sz [.t a, .t b, .t c, .t d, .t e, .t f, .t g] = if b5 sz [a, b, c, d, e, f, g] = true then some (.t (.sl [a, b, c, d, e, f, g]), H) else none := oK H sz [a, b, c, d, e, f, g]
@[go_sem] theorem ac9 (H : ah) (sz : Nat) (a b c d e f g h : T) : xp H sz [.t a, .t b, .t c, .t d, .t e, .t f, .t g, .t h] = if b5 sz [a, b, c, d, e, f, g, h] = true then some (.t (.sl [a, b, c, d, e, f, g, h]), H) else none := oK H sz [a, b, c, d, e, f, g, h]
@[go_sem] theorem Wg {α β γ : Type} {l : List α} {g : α → β} {f : β → γ} {x : γ} {j : Nat} (h : j = l.length) : (List.map f (List.map g l) ++ [x])[j]? = some x := by
 rw[aLh (by simp;omega)];simp[h]
@[go_sem] theorem Zb {α β γ : Type} {l : List α} {g : α → β} {f : β → γ} {x y : γ} {j : Nat} (h : j = l.length) : (List.map f (List.map g l) ++ [x]).set j y = List.map f (List.map g l) ++ [y] := by
 rw[List.set_append_right _ _ (by simp;omega)];simp[h]
def aR.Wi(d:aR):Spn×aR:=
 let a:=d.of [0,1000,5000,20000, -5000, -20000,4999,100]
 let b:=a.2.of [0,1,1000,6000]
 let c:=b.2.of [0,1,500]
 let w:=c.2.one 9
 (if w.1=true then⟨-1125899906842624,1125899906842624⟩else⟨a.1-b.1,a.1+c.1⟩,w.2)
def aR.Dh(d:aR):Nat→List Spn×aR
 | 0=>([],d)
 | k+1=>((d.Dh k).1++[((d.Dh k).2.Wi).1],((d.Dh k).2.Wi).2)
def aR.abT(d:aR)(m:bu):List Spn×aR:=d.Dh m.roads.length
theorem Hm{gc:Bool}{dead:List Nat}{c:C}{vs:List D}{H:ah}(P:Nat→St→Prop)(n:Nat)(Q:Ex×St→Prop)(h0:P 0 ⟨iZ dead vs,H⟩)
 (hs:∀j st,j<n→P j st→(∃st',eP gc dead st.H.length (exS bh c st)=some st'∧P (j+1) st')∨∃q,exS bh c st=some q∧q.1≠ .normal∧Q q)
 (he:∀st,P n st→∃q,exS bh c st=some q∧q.1≠ .normal∧Q q):∃q,exS bh (.loop gc dead c) ⟨vs,H⟩=some q∧Q q:=by
 have key:∀(k j:Nat) (st:St),j+k=n→P j st→∃q,kz gc dead (exS bh c) st=some q∧Q q:=by
  intro k
  induction k with
  | zero=>
    intro j st hj hp
    obtain⟨q,h1,h2,h3⟩:=he st (by rw[← hj];exact hp)
    exact⟨q,cG h1 h2,h3⟩
  | succ k ih=>
    intro j st hj hp
    rcases hs j st (by omega) hp with⟨st',h1,h2⟩ | ⟨q,h1,h2,h3⟩
    · obtain⟨q,h3,h4⟩:=ih (j+1) st' (by omega) h2
      exact⟨q,fL h1 h3,h4⟩
    · exact⟨q,cG h1 h2,h3⟩
 exact key n 0 _ (by omega) h0
theorem Wj(l:List Int):bh 0 N.ig [.t (tL l)] []=some (.bp 0 0,[aR.obj ⟨l,0⟩]):=by
 refine aE K.qi rfl ?_
 simp(disch:=omega)only[go_sem,K.ig,↓reduceIte,aR.obj,reduceAdd,reduceSub]
theorem vO{d:aR}(hd:d.eL)(n:Int)(h1:1≤n)(hn:n≤4611686018427387904):
 ∃(v:Int) (e:aR),bh 0 N.aM [.bp 0 0,I n] [d.obj]=some (I v,[e.obj])∧e.eL∧0≤v∧v<n:=
 ⟨_,_,kN d n hn hd,aR.cB hd n,d.kg n,d.kh h1⟩
theorem Wk{d:aR}(hd:d.eL):
 ∃(m:bu) (e:aR),bh 0 N.cm [.bp 0 0] [d.obj]=some (.t m.e,[e.obj])∧e.eL∧m.ok∧2≤m.aa.length∧m.aa.length≤7∧1≤m.roads.length∧m.roads.length≤10:=by
 have b:=d.uz
 have p:=d.vN
 have r:=d.xF
 exact⟨_,_,PQ d hd,aR.Es hd,d.Hl,by omega,by omega,by omega,by omega⟩
end Go.Ev
namespace Go.Ev
open Go
variable [Lib] [cu] [b0] [gk] [gl]
abbrev never:Int:=1099511627776
abbrev Wh.box(w:Wh):Obj:= .box [I w.time,.t (tL w.frm)]
structure Req where
 x:J3
 s:Y9
 k:Keys
 b:Bel
 t:Int
 from_:Int
abbrev Req.e(r:Req):T:= .agg [tL r.x.area,tI r.x.hold,tI r.x.mis,tI r.s.st,tI r.s.fi,tI r.s.se,tI r.s.ti,tL r.k.roads,tL r.k.keys,.bool r.k.out,.sl (r.b.aH.map World.e),tI r.t,tI r.from_]
structure Req.sz(r:Req):Prop where
 hx:r.x.area.length≤1000000
 hk:r.k.roads.length≤1000000
 hk2:r.k.keys.length≤1000000
 hb:r.b.sz
section
variable (x : J3) (s : Y9) (k : Keys) (b : Bel) (hx : x.area.length ≤ 1000000) (hk : k.roads.length ≤ 1000000) (hk2 : k.keys.length ≤ 1000000) (hb : b.sz)
include hx hk hk2 hb
end
end Go.Ev
namespace Go.Ev
open Go
variable [Lib] [cu] [b0] [gk] [gl]
section
variable (area : List Int) (ha : area.length ≤ 1000000) (xs : List World) (hx : xs.length ≤ 1000000)
include ha hx
end
end Go.Ev
namespace Go.Ev.K
open Go.Ev
def b8:Fn:= { bq:=2,vars:=[0,1,2,3,4],body:=(q [w 2 (.bx v0 2),w 3 (.bx v1 1),w 4 (.mv (.c (.nil)))] [] (q [f 1 v2,g l0,u (.ln l0),u (.mf N.bJ [.v 2,.v 3]),u (.ca N.dW 0 [] [.l 1,.l 0]),x 4 l0] [] .ret)),res:=[(4,none)]}
def bJ:Fn:= { bq:=3,vars:=[0,1,2,4],body:=(q [x 3 (.b false)] [] (q [f 1 v1,g l0,m v0,a 1 l1 l0,g l0,g v2,u (.bin .leq l1 l0),x 3 l0] [] .ret)),res:=[(3,none)]}
end Go.Ev.K
namespace Go.Ev
class jz [Lib]:Prop where
 jP:Lib.fs N.b8=some K.b8
 iH:Lib.fs N.bJ=some K.bJ
namespace K
variable [Lib] [jz]
theorem jP:Lib.fs N.b8=some K.b8:=jz.jP
theorem iH:Lib.fs N.bJ=some K.bJ:=jz.iH
end K
end Go.Ev
namespace Go.Ev.K
open Go.Ev
end Go.Ev.K
namespace Go.Ev
class eV [Lib]:Prop where
namespace K
variable [Lib] [eV]
end K
end Go.Ev
namespace Go.Ev
open Go
variable [Lib] [cu] [b0] [gk] [gl] [jz] [fG] [fH] [gX] [fT] [eV]
end Go.Ev
namespace Go.Ev
open Go
theorem B3{d:D}{n:Int}(h:Ct d=some n):d= .t (.int .i64 n):=by
 unfold Ct at h
 split at h
 · cases h;rfl
 · cases h
theorem Hn:∀ {es:List D} {l:List Int},bR Ct es=some l→es=l.map fun x=> .t (.int .i64 x)
 | [],l,h=>by simp[bR]at h;subst h;rfl
 | e::r,l,h=>by
   simp only[bR,aLa,aLb]at h
   obtain⟨x,hx,y,hy,rfl⟩:=h
   rw[B3 hx,Hn hy];rfl
theorem vP(x:Int):∀l,(Mw x l).Perm (x::l)
 | []=> .refl _
 | y::r=>by
   unfold Mw
   split
   · exact .refl _
   · exact((vP x r).cons y).trans (.swap x y r)
theorem iX:∀l,(gF l).Perm l
 | []=> .refl _
 | x::r=>(vP x _).trans ((iX r).cons x)
theorem Ho{x:Int}:∀ {l:List Int},l.Pairwise (· ≤ ·)→(Mw x l).Pairwise (· ≤ ·)
 | [],_=>by simp[Mw]
 | y::r,h=>by
   unfold Mw
   split
   · rename_i hx
     refine List.pairwise_cons.2 ⟨fun z hz=>?_,h⟩
     rcases List.mem_cons.1 hz with rfl | hz
     · exact hx
     · have:=(List.pairwise_cons.1 h).1 z hz;omega
   · rename_i hx
     have h':=List.pairwise_cons.1 h
     refine List.pairwise_cons.2 ⟨fun z hz=>?_,Ho h'.2⟩
     have hz:=(vP x r).mem_iff.1 hz
     rcases List.mem_cons.1 hz with rfl | hz
     · omega
     · exact h'.1 z hz
theorem rD:∀l,(gF l).Pairwise (· ≤ ·)
 | []=> .nil
 | x::r=>Ho (rD r)
theorem jr(l:List Int):(gF l).length=l.length:=(iX l).length_eq
theorem Di(l:List Int):(l.mergeSort fun x y=>decide (x≤y))=gF l:=by
 refine List.Perm.eq_of_pairwise (le:=(· ≤ ·)) (fun a b _ _ h1 h2=>by omega) ?_ (rD l) ((List.mergeSort_perm _ _).trans (iX l).symm)
 have:=List.pairwise_mergeSort (le:=fun x y:Int=>decide (x≤y)) (fun a b c=>by simp;omega) (fun a b=>by simp;omega) l
 exact this.imp (by simp)
end Go.Ev
namespace Go.Ev
open Go
variable [Lib] [cu] [b0] [gk] [gl] [jz] [fG] [fH] [gX] [fT] [eV]
section
variable (k : Keys) (hl : k.keys.length ≤ 1000000) (hr : k.roads.length ≤ 1000000)
include hl hr
end
end Go.Ev
namespace Go.Ev
open Go
variable [Lib] [cu] [b0] [gk] [gl] [jz] [fG] [fH] [gX] [fT] [eV]
theorem abU{a b:List Int}(ha:a.Pairwise (· ≤ ·))(hb:b.Pairwise (· ≤ ·))(p:a.Perm b):a=b:=
 List.Perm.eq_of_pairwise (le:=(· ≤ ·)) (fun a b _ _ h1 h2=>by omega) ha hb p
section
variable (b u v y : Obj) (ds : ah)
end
end Go.Ev
namespace Go.Ev.K
open Go.Ev
def bL:C:= (.its [u (.bin .lss v10 v9)] [] 0 .skip (.exit 0) (.seq (.blk 1 (q [m v10,a 2 v8 v10,h 2 l0,w 7 (.al [.nil,.nil] []),x 6 l3,u (.st l1 l2 2 [])] [] (.blk 2 (.ite [f 0 v7,g l0,u (.ln l0),u (.ca N.cA 0 [] [.l 0,.i 1,.i 12]),u (.un .not l0),m l0,y 0 false (.fa v7 1),i 1 false l0,y 2 false (.ln l0),y 3 false (.fa v7 0),i 4 false l0,y 5 false (.ln l0),y 6 false (.bin .neq l3 l0),u (.pk l7 (.b true) l0),m l0,y 0 false (.fa v7 0),i 1 false l0,y 2 false (.ca N.dO 0 [] [.l 0]),y 3 false (.un .not l0),u (.pk l4 (.b true) l0),m l0] [] 0 (q [x 4 (.b false)] [] .ret) (.ite [f 0 v7,g l0,u (.ca N.aT 0 [] [.l 0]),u (.ca N.bE 0 [] [.l 0]),m v5,u (.ca N.aX 0 [] [.l 1,.l 0]),u (.un .not l0),m l0] [] 0 (q [x 4 (.b false)] [] .ret) (.ite [m v6,u (.bin .gtr l0 (.i 0)),m l0,y 0 true (.fa v3 0),i 1 true l0,e 2 true v6,y 3 true (.bin .sub l0 (.i 1)),y 4 true (.ia l2 l0 2),y 5 true (.fa l0 0),i 6 true l0,y 7 true (.fa v7 0),i 8 true l0,y 9 true (.ca N.aU 0 [] [.l 2,.l 0]),y 10 true (.bin .geq l0 (.i 0)),u (.pk l11 l0 (.b false)),m l0] [] 0 (q [x 4 (.b false)] [] .ret) (.ite [f 1 v7,g l0,u (.mf N.cP [.v 2]),u (.ca N.ak 0 [] [.l 1,.l 0]),m l0] [] 0 (q [x 4 (.b false)] [] .ret) .skip))))))) (.reg [u (.bin .add v10 (.i 1)),x 10 l0] [])))
def mj:C:= .loop true [0,1,4,6,7] K.bL
def dm:Fn:= { bq:=2,vars:=[0,1,2,3,4,5,6,7,26,27,28],body:=(q [w 2 (.bx v0 2),w 3 (.bx v1 1),x 4 (.b false)] [] (.seq (.ite [h 2 v2,u (.ca N.dG 0 [] [.l 0]),u (.un .not l0),m l0,y 0 false (.fa v3 0),i 1 false l0,y 2 false (.ln l0),y 3 false (.ca N.cA 0 [] [.l 0,.i 1,.i 24]),y 4 false (.un .not l0),u (.pk l5 (.b true) l0)] [] 0 (q [x 4 (.b false)] [] .ret) .skip) (q [f 0 v3,g l0,a 2 l0 (.i 0),f 0 l0,g l0,u (.ca N.aT 0 [] [.l 0]),u (.ca N.bE 0 [] [.l 0]),x 5 l0] [] (.seq (q [f 0 v3,w 8 (.ld l0 1 false),w 9 (.ln l0),x 10 (.i 0)] [] (.blk 0 K.mj)) (q [x 4 (.b true)] [] .ret))))),res:=[(4,none)]}
def bE:Fn:= { bq:=1,vars:=[2],body:= .fail,res:=[(0,none)],prim:=[2,N.aF]}
def aT:Fn:= { bq:=1,vars:=[0,1,2],body:=(q [w 1 (.bx v0 1),w 2 (.mv (.c (.und)))] [] (q [u (.mf N.aF [.v 1]),x 2 l0] [] .ret)),res:=[(2,none)]}
def dO:Fn:= { bq:=1,vars:=[0,2,3],body:=(q [x 1 (.b false)] [] (q [m v0,u (.ca N.aT 0 [] [.l 0]),u (.ca N.bE 0 [] [.l 0]),x 2 l0] [] (q [m v2,u (.ca N.dy 0 [] [.l 0,.i 1,.i 65535]),x 1 l0] [] .ret))),res:=[(1,none)]}
def cC:C:= (.its [u (.bin .lss v9 v8)] [] 0 .skip (.exit 0) (.seq (.blk 1 (q [m v9,a 1 v7 v9,g l0,x 3 l2,x 4 l1] [] (.seq (.ite [m v3,m v1,u (.ln l0),u (.bin .geq l2 l0)] [] 0 (q [x 2 (.i 1)] [] .ret) .skip) (q [m v1,m v3,a 1 l1 l0,g l0,x 5 l0] [] (q [m v4,m v5,u (.ca N.bW 0 [] [.l 1,.l 0]),x 6 l0] [] (.ite [m v6,u (.bin .neq l0 (.i 0))] [] 0 (q [m v6,x 2 l0] [] .ret) .skip)))))) (.reg [u (.bin .add v9 (.i 1)),x 9 l0] [])))
def iq:C:= .loop true [2,3,4,5,6] K.cC
def aU:Fn:= { bq:=2,vars:=[0,1,4,5,6,7,8,9,10,11],body:=(q [x 2 (.i 0)] [] (.seq (q [x 7 v0,w 8 (.ln l0),x 9 (.i 0)] [] (.blk 0 K.iq)) (.seq (.ite [m v0,u (.ln l0),m v1,u (.ln l0),u (.bin .lss l2 l0)] [] 0 (q [w 2 (.mv (.i (-1)))] [] .ret) .skip) (q [x 2 (.i 0)] [] .ret)))),res:=[(2,none)]}
def ak:Fn:= { bq:=2,vars:=[0,1,4],body:=(q [x 2 (.b false)] [] (q [m v0,m v1,u (.ca N.ay 0 [] [.l 1,.l 0]),u (.bin .geq l0 (.i 0)),x 2 l0] [] .ret)),res:=[(2,none)]}
def cP:Fn:= { bq:=2,vars:=[0,1,2,3],body:=(q [w 2 (.bx v0 2),x 3 (.b false)] [] (q [h 2 v1,h 2 v2,u (.ca N.dz 0 [] [.l 1,.l 0]),u (.un .not l0),x 3 l0] [] .ret)),res:=[(3,none)]}
def kT:C:= (.its [u (.bin .lss v5 v4)] [] 0 .skip (.exit 0) (.seq (.blk 1 (q [a 1 v3 v5,g l0,x 2 l0] [] (.ite [m v0,m v2,u (.cw l1 0 [] [.l 0]),u (.un .not l0)] [] 0 .ret .skip))) (.reg [u (.bin .add v5 (.i 1)),x 5 l0] [])))
def lr:C:= .loop true [1,2] K.kT
def aF:Fn:= { bq:=2,vars:=[0,1,4,5,6,7],body:=(q [w 3 (.ld v1 1 false),w 4 (.ln l0),x 5 (.i 0)] [] (.blk 0 K.lr)),res:=[]}
def bW:Fn:= { bq:=2,vars:=[0,1,4,5,6],body:=(q [x 2 (.i 0)] [] (q [m v0,u (.ca N.cmp_isNaN_int 0 [] [.l 0]),x 3 l0] [] (q [m v1,u (.ca N.cmp_isNaN_int 0 [] [.l 0]),x 4 l0] [] (.seq (.ite [m v3] [] 0 (.seq (.ite [m v4] [] 0 (q [x 2 (.i 0)] [] .ret) .skip) (q [w 2 (.mv (.i (-1)))] [] .ret)) .skip) (.seq (.ite [m v4] [] 0 (q [x 2 (.i 1)] [] .ret) .skip) (.seq (.ite [m v0,m v1,u (.bin .lss l1 l0)] [] 0 (q [w 2 (.mv (.i (-1)))] [] .ret) .skip) (.seq (.ite [m v0,m v1,u (.bin .gtr l1 l0)] [] 0 (q [x 2 (.i 1)] [] .ret) .skip) (q [x 2 (.i 0)] [] .ret)))))))),res:=[(2,none)]}
def aZ:C:= (.its [u (.bin .lss v5 v4)] [] 0 .skip (.exit 0) (.seq (.blk 1 (q [m v5,x 3 l0] [] (.ite [m v1,m v0,m v3,a 2 l1 l0,h 2 l0,u (.cw l4 0 [] [.l 0])] [] 0 (q [m v3,x 2 l0] [] .ret) .skip))) (.reg [u (.bin .add v5 (.i 1)),x 5 l0] [])))
def cg:C:= .loop true [2,3] K.aZ
def ay:Fn:= { bq:=2,vars:=[0,1,4,5,7,8],body:=(q [x 2 (.i 0)] [] (.seq (q [m v0,w 4 (.ln l0),x 5 (.i 0)] [] (.blk 0 K.cg)) (q [w 2 (.mv (.i (-1)))] [] .ret))),res:=[(2,none)]}
def cmp_isNaN_int:Fn:= { bq:=1,vars:=[0,2],body:=(q [x 1 (.b false)] [] (q [m v0,m v0,u (.bin .neq l1 l0),x 1 l0] [] .ret)),res:=[(1,none)]}
end Go.Ev.K
namespace Go.Ev
class dZ [Lib]:Prop where
 nT:Lib.fs N.dm=some K.dm
 fW:Lib.fs N.bE=some K.bE
 eh:Lib.fs N.aT=some K.aT
 mq:Lib.fs N.dO=some K.dO
 fQ:Lib.fs N.aU=some K.aU
 bB:Lib.fs N.ak=some K.ak
 kU:Lib.fs N.cP=some K.cP
 ir:Lib.fs N.aF=some K.aF
 jQ:Lib.fs N.bW=some K.bW
 bI:Lib.fs N.ay=some K.ay
 kV:Lib.fs N.cmp_isNaN_int=some K.cmp_isNaN_int
namespace K
variable [Lib] [dZ]
theorem nT:Lib.fs N.dm=some K.dm:=dZ.nT
theorem fW:Lib.fs N.bE=some K.bE:=dZ.fW
theorem eh:Lib.fs N.aT=some K.aT:=dZ.eh
theorem mq:Lib.fs N.dO=some K.dO:=dZ.mq
theorem fQ:Lib.fs N.aU=some K.aU:=dZ.fQ
theorem bB:Lib.fs N.ak=some K.ak:=dZ.bB
theorem kU:Lib.fs N.cP=some K.cP:=dZ.kU
theorem ir:Lib.fs N.aF=some K.aF:=dZ.ir
theorem jQ:Lib.fs N.bW=some K.bW:=dZ.jQ
theorem bI:Lib.fs N.ay=some K.ay:=dZ.bI
theorem kV:Lib.fs N.cmp_isNaN_int=some K.cmp_isNaN_int:=dZ.kV
end K
end Go.Ev
namespace Go.Ev
open Go
variable [Lib] [cu] [b0] [gk] [gl] [jz] [fG] [fH] [gX] [fT] [eV] [dZ]
theorem vQ(l:List Int):bh 0 N.aT [.t (tL l)] []=some (.fn N.aF [.bp 0 0],[.box [.t (tL l)]]):=by
 refine aE K.eh rfl ?_
 simp(disch:=omega)only[go_sem,K.aT,↓reduceIte,reduceAdd,reduceSub]
theorem xG(l:List Int):uF (tL l)=some l:=by
 unfold uF
 simp only
 induction l with
 | nil=>rfl
 | cons x l ih=>
   simp only[List.map_cons,bR]at ih ⊢
   rw[ih];rfl
theorem vR(l:List Int)(hl:l.length≤1000000):bh 0 N.bE [.fn N.aF [.bp 0 0]] [.box [.t (tL l)]]=some (.t (tL (gF l)),[.box [.t (tL l)]]):=by
 refine vt K.fW (by decide) ?_
 show p4 [2,N.aF] _ _=_
 simp only[p4,if_true,List.getElem?_cons_zero,o7,aLq,xG]
 rw[if_pos (by unfold lim;omega)]
theorem Dj(a:Int):bh 0 N.cmp_isNaN_int [I a] []=some (B false,[]):=by
 refine aE K.kV rfl ?_
 simp(disch:=omega)only[go_sem,K.cmp_isNaN_int,↓reduceIte,decide_true,Bool.not_true,reduceAdd,reduceSub]
def Hp(a b:Int):Int:=if a<b then -1 else if b<a then 1 else 0
theorem Mg(a b:Int):bh 0 N.bW [I a,I b] []=some (I (Hp a b),[]):=by
 refine aE K.jQ rfl ?_
 have h1:=Dj a
 have h2:=Dj b
 unfold Hp
 by_cases c1:a<b
 · simp(disch:=omega)only[go_sem,K.bW,↓reduceIte,h1,h2,c1,aLt,reduceAdd,reduceSub]
 · by_cases c2:b<a
   · simp(disch:=omega)only[go_sem,K.bW,↓reduceIte,h1,h2,c1,c2,aLt,reduceAdd,reduceSub]
   · simp(disch:=omega)only[go_sem,K.bW,↓reduceIte,h1,h2,c1,c2,aLt,reduceAdd,reduceSub]
def Dk(a b:List Int)(j:Nat):Bool:=decide (b.length≤j)||decide (nth a j≠nth b j)
def Kb(a b:List Int):Int:=match (List.range a.length).find? (Dk a b)with
 | some j=>if b.length≤j then 1 else Hp (nth a j) (nth b j)
 | none=>if a.length<b.length then -1 else 0
theorem xH(a b:List Int)(ha:a.length≤1000000)(hb:b.length≤1000000):bh 0 N.aU [.t (tL a),.t (tL b)] []=some (I (Kb a b),[]):=by
 refine aE K.fQ rfl ?_
 have loop:∀z2 z3 z4 z5 z6:D,exS bh K.iq ⟨[.t (tL a),.t (tL b),z2,z3,z4,z5,z6,.t (tL a),I a.length,I 0],[]⟩=
  some (match (List.range a.length).find? (Dk a b)with
   | some j=>(.ret,⟨[.t (tL a),.t (tL b),I (if b.length≤j then 1 else Hp (nth a j) (nth b j)),I j,I (nth a j),if b.length≤j then .und else I (nth b j),if b.length≤j then .und else I (Hp (nth a j) (nth b j)),.t (tL a),I a.length,I j],[]⟩)
   | none=>(.exit 0,⟨[.t (tL a),.t (tL b),.und,.und,.und,.und,.und,.t (tL a),I a.length,I a.length],[]⟩)):=by
  intro z2 z3 z4 z5 z6
  refine gR (fun j=>⟨[.t (tL a),.t (tL b),.und,.und,.und,.und,.und,.t (tL a),I a.length,I j],[]⟩) a.length (Dk a b) _ _ rfl ?_ ?_ ?_ (by simp)
  · intro j hj hp
    simp only[Dk,Bool.or_eq_false_iff,decide_eq_false_iff_not,Decidable.not_not]at hp
    obtain⟨h1,h2⟩:=hp
    have c:=Mg (nth a j) (nth b j)
    rw[h2]at c
    have e:Hp (nth b j) (nth b j)=0:=by unfold Hp;rw[if_neg (by omega),if_neg (by omega)]
    rw[e]at c
    simp(disch:=omega)only[go_sem,K.cC,↓reduceIte,h2,c,reduceAdd,reduceSub]
  · intro j hj hp
    refine⟨?_,by simp⟩
    by_cases h1:b.length≤j
    · rw[if_pos h1,if_pos h1,if_pos h1]
      simp(disch:=omega)only[go_sem,K.cC,↓reduceIte,reduceAdd,reduceSub]
    · rw[if_neg h1,if_neg h1,if_neg h1]
      have h2:nth a j≠nth b j:=by simpa [Dk,h1]using hp
      have c:=Mg (nth a j) (nth b j)
      have e:Hp (nth a j) (nth b j)≠0:=by
       unfold Hp;split
       · omega
       · split<;>omega
      generalize Hp (nth a j) (nth b j)=v at*
      simp(disch:=omega)only[go_sem,K.cC,↓reduceIte,c,e,reduceAdd,reduceSub]
  · simp(disch:=omega)only[go_sem,K.cC,↓reduceIte,reduceAdd,reduceSub]
 unfold Kb
 cases hf:(List.range a.length).find? (Dk a b)with
 | some j=>
   simp only[hf]at loop
   simp(disch:=omega)only[go_sem,K.aU,↓reduceIte,loop,reduceAdd,reduceSub]
 | none=>
   simp only[hf]at loop
   by_cases h:a.length<b.length
   · simp(disch:=omega)only[go_sem,K.aU,↓reduceIte,loop,h,reduceAdd,reduceSub]
   · simp(disch:=omega)only[go_sem,K.aU,↓reduceIte,loop,h,reduceAdd,reduceSub]
end Go.Ev
namespace Go.Ev
open Go
variable [Lib] [cu] [b0]
theorem nU:∀ {l l':List Int},l.Nodup→(∀x∈l,x∈l')→l.length≤l'.length
 | [],_,_,_=>by simp
 | a::l,l',hn,hs=>by
   obtain⟨h1,h2⟩:=List.nodup_cons.1 hn
   have ha:a∈l':=hs a List.mem_cons_self
   have:=nU (l:=l) (l':=l'.erase a) h2 fun x hx=>by
    have hne:x≠a:=fun e=>h1 (e▸hx)
    exact(List.mem_erase_of_ne hne).2 (hs x (List.mem_cons_of_mem _ hx))
   have h3:=List.length_erase_of_mem ha
   have h4:0<l'.length:=List.length_pos_of_mem ha
   simp only[List.length_cons]
   omega
theorem gN{l:List Int}{x:Int}:0≤bV l x↔x∈l:=by
 unfold bV
 cases hf:(List.range l.length).find? (fun j=>decide (nth l j=x))with
 | some j=>
   obtain⟨h1,h2⟩:=su hf
   have:=aq h1
   rw[of_decide_eq_true h2]at this
   simp[this]
 | none=>
   have:=List.find?_eq_none.1 hf
   simp only[Int.reduceNeg]
   constructor
   · intro h;simp at h
   · intro h
     obtain⟨j,hj⟩:=aLf.1 h
     have hl:=(aLe.1 hj).1
     have:=this j (aLu.2 hl)
     rw[bF hj]at this
     simp at this
theorem fX{l:List Int}(h:dN l=true):l.Nodup:=by
 simp only[dN,aLx,aLu,yE,decide_eq_true_eq]at h
 refine List.pairwise_iff_getElem.2 fun i j hi hj hij e=>?_
 obtain⟨-, -,h3⟩:=h j hj
 have h4:¬nth l j∈l.take j:=fun hm=>by have:=gN.2 hm;omega
 apply h4
 apply aLf.2
 refine⟨i,?_⟩
 rw[List.getElem?_take_of_lt hij,aLc hi,e,←aLc hj,iD hj]
theorem mO{m:bu}{b:Bel}(h:zc m b=true):1≤b.aH.length∧b.aH.length≤24∧1≤(nth b.aH 0).tags.length∧(nth b.aH 0).tags.length≤12∧
 ∀i,i<b.aH.length→rC m b.aH (nth b.aH 0).tags i=true:=by
 simp only[zc,aLr,decide_eq_true_eq,aLx,aLu]at h
 exact⟨h.1.1.1,h.1.1.2,h.1.2.1,h.1.2.2,h.2⟩
theorem iI{m:bu}{ws:List World}{first:List Int}{i:Nat}(h:rC m ws first i=true):(nth ws i).tags.length=first.length∧(nth ws i).whr.length=first.length∧dN (nth ws i).tags=true∧
 ∀k,k<(nth ws i).tags.length→nth (nth ws i).tags k∈first∧c7 m (nth (nth ws i).whr k)=true:=by
 simp only[rC,aLr,decide_eq_true_eq,aLx,aLu,Y8]at h
 exact⟨h.1.1.1.1,h.1.1.1.2,h.1.1.2,fun k hk=>⟨gN.1 (h.2 k hk).1,(h.2 k hk).2⟩⟩
theorem B4{m:bu}{b:Bel}(h:zc m b=true){tag:Int}(ht:0≤bV (nth b.aH 0).tags tag){i:Nat}(hi:i<b.aH.length):
 0≤bV (nth b.aH i).tags tag:=by
 obtain⟨h1,h2,h3,h4,h5⟩:=mO h
 obtain⟨w1,w2,w3,w4⟩:=iI (h5 i hi)
 apply gN.2
 apply Classical.byContradiction
 intro hn
 have:=nU (l:=tag::(nth b.aH i).tags) (l':=(nth b.aH 0).tags) (List.nodup_cons.2 ⟨hn,fX w3⟩) (by
  intro x hx
  rcases List.mem_cons.1 hx with e | hx
  · rw[e];exact gN.1 ht
  · obtain⟨j,hj⟩:=aLf.1 hx
    have:=(w4 j (aLe.1 hj).1).1
    rwa [bF hj]at this)
 simp only[List.length_cons]at this
 omega
def kW(m:bu)(b:Bel)(tag:Int):Int:=if zc m b=false then 6 else if bV (nth b.aH 0).tags tag<0 then 41 else 0
def Au(a b:Wh)(t:Int):Bool:=(List.range (min a.frm.length b.frm.length)).any fun p=>decide (nth a.frm p≤t∧nth b.frm p≤t)
def fY(m:bu)(du:List Int)(t:Int)(j:Nat):List Wh:=(List.range j).map fun i=>(dL m (nth du i) t).1
theorem Av(m:bu)(du:List Int)(t:Int)(j:Nat):fY m du t (j+1)=fY m du t j++[(dL m (nth du j) t).1]:=by
 unfold fY;rw[List.range_succ,List.map_append];rfl
@[simp] theorem nV (m : bu) (du : List Int) (t : Int) (j : Nat) : (fY m du t j).length = j := by simp [fY]
def rE(m:bu)(tags du:List Int)(t:Int):Bel×Int:=
 if tags.length=du.length∧1≤tags.length∧tags.length≤12 then
  if dN tags=true then match (List.range tags.length).find? (fun i=> !decide ((dL m (nth du i) t).2=0))with
   | some i=>(⟨[]⟩,(dL m (nth du i) t).2)
   | none=>(⟨[⟨tags,fY m du t tags.length⟩]⟩,0)
  else(⟨[]⟩,41)
 else(⟨[]⟩,6)
@[go_sem] theorem Zc : ([] : List D).all jD = true := (rfl)
@[go_sem] theorem Wl (d : D) (r : List D) : (d :: r).all jD = (jD d && r.all jD) := (rfl)
@[go_sem] theorem PR (cs : List T) : jD (.t (.agg cs)) = false := (rfl)
@[go_sem] theorem SN (cs : List T) : jD (.t (.sl cs)) = false := (rfl)
@[go_sem] theorem PS (k : IntKind) (n : Int) : jD (.t (.int k n)) = true := (rfl)
@[go_sem] theorem Mh (b : Bool) : jD (.t (.bool b)) = true := (rfl)
@[go_sem] theorem ada (l : List Wh) (k : Nat) (a : Int) (b : List Int) : (List.map D.t (List.map Wh.e l)).set k (D.t (T.agg [tI a, tL b])) = List.map D.t (List.map Wh.e (l.set k ⟨a, b⟩)) := by
 rw[List.map_set,List.map_set]
def vS(m:bu)(tag:Int)(l:List Int)(a b:Int)(x:World):Wh×Int:=uu m (nth x.whr (bV x.tags tag).toNat) l a b
def Fj(tag:Int)(x:World)(w:Wh):World:=⟨x.tags,x.whr.set (bV x.tags tag).toNat w⟩
def B5(tag:Int)(r:Wh×Int)(x:World)(out:List World):List World:=
 if r.2=43 then out else out++[if r.2=0 then Fj tag x r.1 else x]
def kX(m:bu)(tag:Int)(l:List Int)(a b:Int)(ws:List World):Nat→List World
 | 0=>[]
 | j+1=>B5 tag (vS m tag l a b (nth ws j)) (nth ws j) (kX m tag l a b ws j)
theorem Hq(tag:Int)(r:Wh×Int)(x:World)(out:List World):(B5 tag r x out).length≤out.length+1:=by
 unfold B5;split<;>simp
theorem Aw(m:bu)(tag:Int)(l:List Int)(a b:Int)(ws:List World):∀j,(kX m tag l a b ws j).length≤j
 | 0=>by simp[kX]
 | j+1=>by
   have:=Aw m tag l a b ws j
   have:=Hq tag (vS m tag l a b (nth ws j)) (nth ws j) (kX m tag l a b ws j)
   simp only[kX];omega
def xI(m:bu)(tag:Int)(l:List Int)(a b:Int)(ws:List World)(j:Nat):Bool:=decide ((vS m tag l a b (nth ws j)).2=6∨(vS m tag l a b (nth ws j)).2=8)
def rF(m:bu)(b:Bel)(tag:Int)(l:List Int)(a c:Int):Bel×Int:=
 if kW m b tag≠0 then(b,kW m b tag)else match (List.range b.aH.length).find? (xI m tag l a c b.aH)with
  | some i=>(b,(vS m tag l a c (nth b.aH i)).2)
  | none=>if(kX m tag l a c b.aH b.aH.length).length=0 then(b,43)else(⟨kX m tag l a c b.aH b.aH.length⟩,0)
def Zd(m:bu)(tag:Int)(l:List Int)(a b bl:Int)(x:World):Wh×Int:=abJ m (nth x.whr (bV x.tags tag).toNat) l a b bl
def abV(tag:Int)(r:Wh×Int)(x:World)(out:List World):List World:=out++[if r.2=0 then Fj tag x r.1 else x]
def Wm(m:bu)(tag:Int)(l:List Int)(a b bl:Int)(ws:List World):Nat→List World
 | 0=>[]
 | j+1=>abV tag (Zd m tag l a b bl (nth ws j)) (nth ws j) (Wm m tag l a b bl ws j)
def Wn(m:bu)(tag:Int)(l:List Int)(a b bl:Int)(ws:List World)(j:Nat):Bool:=decide ((Zd m tag l a b bl (nth ws j)).2=6∨(Zd m tag l a b bl (nth ws j)).2=8)
def Wo(m:bu)(b:Bel)(tag:Int)(l:List Int)(a c bl:Int):Bel×Int:=
 if kW m b tag≠0 then(b,kW m b tag)else match (List.range b.aH.length).find? (Wn m tag l a c bl b.aH)with
  | some i=>(b,(Zd m tag l a c bl (nth b.aH i)).2)
  | none=>(⟨Wm m tag l a c bl b.aH b.aH.length⟩,0)
theorem PT{m:bu}{b:Bel}{tag:Int}(e0:kW m b tag=0):zc m b=true∧∀i,i<b.aH.length→0≤bV (nth b.aH i).tags tag∧bV (nth b.aH i).tags tag<(nth b.aH i).whr.length:=by
 have hb:zc m b=true:=by
  unfold kW at e0
  by_cases hb:zc m b=true
  · exact hb
  · rw[if_pos (by simpa using hb)]at e0;omega
 have ht:0≤bV (nth b.aH 0).tags tag:=by
  unfold kW at e0
  rw[if_neg (by simp[hb])]at e0
  by_cases ht:bV (nth b.aH 0).tags tag<0
  · rw[if_pos ht]at e0;omega
  · omega
 refine⟨hb,fun i hi=>?_⟩
 obtain⟨-, -, -, -,h5⟩:=mO hb
 obtain⟨w1,w2, -⟩:=iI (h5 i hi)
 have b1:=B4 hb ht (i:=i) hi
 have b2:=(xC b1).1
 exact⟨b1,by omega⟩
theorem Dl{gc:Bool}{dead:List Nat}{c:C}{vs:List D}{H:ah}(P:Nat→St→Prop)(n:Nat)(Q:Ex×St→Prop)(h0:P 0 ⟨iZ dead vs,H⟩)
 (hs:∀j st,j<n→P j st→∃st',eP gc dead st.H.length (exS bh c st)=some st'∧P (j+1) st')
 (he:∀st,P n st→∃q,exS bh c st=some q∧q.1≠ .normal∧Q q):∃q,exS bh (.loop gc dead c) ⟨vs,H⟩=some q∧Q q:=by
 have key:∀(k j:Nat) (st:St),j+k=n→P j st→∃q,kz gc dead (exS bh c) st=some q∧Q q:=by
  intro k
  induction k with
  | zero=>
    intro j st hj hp
    obtain⟨q,h1,h2,h3⟩:=he st (by rw[← hj];exact hp)
    exact⟨q,cG h1 h2,h3⟩
  | succ k ih=>
    intro j st hj hp
    obtain⟨st',h1,h2⟩:=hs j st (by omega) hp
    obtain⟨q,h3,h4⟩:=ih (j+1) st' (by omega) h2
    exact⟨q,fL h1 h3,h4⟩
 exact key n 0 _ (by omega) h0
abbrev ints(l:List Int):List D:=(l.map (T.int .i64)).map .t
abbrev whs(l:List Wh):List D:=(l.map Wh.e).map .t
def cD(out:List World)(x:World):Nat:=match (List.range out.length).find? (fun k=> !wH (nth out k).tags x.tags)with
 | some k=>k
 | none=>out.length
theorem yH(out:List World)(x:World):cD out x≤out.length:=by
 unfold cD
 split
 · rename_i k h;exact Nat.le_of_lt (su h).1
 · exact aLs _
def kY(a b:List Wh):Nat→List Wh
 | 0=>a
 | p+1=>(kY a b p).set p (jZ (nth a p) (nth b p)).1
theorem jt(a b:List Wh):∀p,(kY a b p).length=a.length
 | 0=>rfl
 | p+1=>by simp only[kY,List.length_set,jt a b p]
theorem Ax(a b:List Wh):∀p q,p≤q→nth (kY a b p) q=nth a q
 | 0,q,_=>rfl
 | p+1,q,h=>by
   have e:nth ((kY a b p).set p (jZ (nth a p) (nth b p)).1) q=nth (kY a b p) q:=by
    unfold nth;rw[aLl,aLi (by omega),←aLl]
   simp only[kY,e]
   exact Ax a b p q (by omega)
def gn(a b:List Wh):List Wh:=kY a b (min a.length b.length)
def j6(out:List World)(x:World):List World:=
 if cD out x<out.length∧(nth out (cD out x)).tags=x.tags then out.set (cD out x) ⟨x.tags,gn (nth out (cD out x)).whr x.whr⟩
 else out.take (cD out x)++[x]++out.drop (cD out x)
def tU(l:List World):Nat→List World
 | 0=>[]
 | j+1=>j6 (tU l j) (nth l j)
def qw(l:List World):List World:=tU l l.length
structure Rp(H:ah)(id:Nat)(es:List D)(fa fb:Nat→Nat)(out:List World):Prop where
 arr:H[id]?=some (.arr 2 false 0 es)
 len:es.length=out.length
 el:∀j,j<out.length→es[j]?=some (.agg [.ref (fa j) 0 (nth out j).tags.length,.ref (fb j) 0 (nth out j).whr.length])
 ha:∀j,j<out.length→H[fa j]?=some (.arr 1 false 0 (ints (nth out j).tags))
 hb:∀j,j<out.length→H[fb j]?=some (.arr 2 false 0 (whs (nth out j).whr))
 na:∀j,j<out.length→fa j≠id
 nb:∀j,j<out.length→fb j≠id
 nab:∀i j,i<out.length→j<out.length→fa i≠fb j
 nbb:∀i j,i<out.length→j<out.length→i≠j→fb i≠fb j
@[go_sem] theorem Ze (a b : Wh) : (jZ a b).1.e = .agg [tI (jZ a b).1.time, tL (jZ a b).1.frm] := rfl
theorem Rp.size{H:ah}{id:Nat}{es:List D}{fa fb:Nat→Nat}{out:List World}(hr:Rp H id es fa fb out):∀e∈es,e.cells.length=2:=by
 intro e he
 obtain⟨j,hj⟩:=aLf.1 he
 have hl:=(aLe.1 hj).1
 rw[hr.el j (by rw[← hr.len];exact hl)]at hj
 cases hj;rfl
theorem sJ{α:Type} [Dat α](l:List α)(k:Nat)(hk:k<l.length)(x:α)(j:Nat):nth (l.set k x) j=if j=k then x else nth l j:=by
 unfold nth
 rw[aLl]
 by_cases h:j=k
 · rw[if_pos h,h,aLj hk];rfl
 · rw[if_neg h,aLi (fun e=>h e.symm),aLl]
theorem Rp.merge{H:ah}{id:Nat}{es:List D}{fa fb:Nat→Nat}{out:List World}(hr:Rp H id es fa fb out){k:Nat}(hk:k<out.length)(x:World)(ht:(nth out k).tags=x.tags)(hw:x.whr.length=(nth out k).whr.length):
 Rp (H.set (fb k) (.arr 2 false 0 (whs x.whr))) id es fa fb (out.set k x):=by
 have ol:(out.set k x).length=out.length:=List.length_set
 have nk:=hr.nb k hk
 have kl:=nL (hr.hb k hk)
 refine⟨by rw[ji nk];exact hr.arr,by rw[ol];exact hr.len,?_,?_,?_,by rw[ol];exact hr.na,by rw[ol];exact hr.nb,by rw[ol];exact hr.nab,by rw[ol];exact hr.nbb⟩
 · intro j hj
   rw[ol]at hj
   rw[hr.el j hj,sJ out k hk]
   by_cases h:j=k
   · rw[if_pos h,h,ht,hw]
   · rw[if_neg h]
 · intro j hj
   rw[ol]at hj
   rw[ji (fun e=>hr.nab j k hj hk e.symm),hr.ha j hj,sJ out k hk]
   by_cases h:j=k
   · rw[if_pos h,h,ht]
   · rw[if_neg h]
 · intro j hj
   rw[ol]at hj
   rw[sJ out k hk]
   by_cases h:j=k
   · rw[if_pos h,h,px kl]
   · rw[if_neg h,ji (fun e=>hr.nbb j k hj hk h e.symm)];exact hr.hb j hj
theorem Rp.frz{H:ah}{id:Nat}{es:List D}{fa fb:Nat→Nat}{out:List World}(hr:Rp H id es fa fb out):
 bR (frz H 8) es=some (out.map World.e)∧∀i∈es.flatMap (en H 8),i≠id:=by
 have hl:=hr.len
 have key:∀(j:Nat) (hj:j<out.length),Go.Ev.frz H 8 (.agg [.ref (fa j) 0 (nth out j).tags.length,.ref (fb j) 0 (nth out j).whr.length])=some (nth out j).e∧
  en H 8 (.agg [.ref (fa j) 0 (nth out j).tags.length,.ref (fb j) 0 (nth out j).whr.length])=[fa j,fb j]:=by
  intro j hj
  have h1:=hr.ha j hj
  have h2:=hr.hb j hj
  simp(disch:=omega)only[go_sem,h1,h2,ints,whs,↓reduceIte]
 constructor
 · have:∀(es:List D) (ts:List T),es.length=ts.length→(∀(j:Nat) e t,es[j]?=some e→ts[j]?=some t→Go.Ev.frz H 8 e=some t)→bR (Go.Ev.frz H 8) es=some ts:=by
    intro es
    induction es with
    | nil=>intro ts h _;cases ts with
      | nil=>rfl
      | cons=>simp at h
    | cons e es ih=>
      intro ts h hh
      cases ts with
      | nil=>simp at h
      | cons t ts=>
        have h1:=hh 0 e t rfl rfl
        have h2:=ih ts (by simpa using h) fun j e t he ht=>hh (j+1) e t (by simpa using he) (by simpa using ht)
        simp only[bR,h1,aLq,h2,aLw]
   refine this es _ (by rw[List.length_map,hl]) fun j e t he ht=>?_
   have hj:j<out.length:=by rw[← hl];exact(aLe.1 he).1
   rw[hr.el j hj]at he
   rw[fB _ hj]at ht
   cases he;cases ht
   exact(key j hj).1
 · intro i hi
   obtain⟨e,he,hi⟩:=List.mem_flatMap.1 hi
   obtain⟨j,hj⟩:=aLf.1 he
   have hjl:j<out.length:=by rw[← hl];exact(aLe.1 hj).1
   rw[hr.el j hjl]at hj
   cases hj
   rw[(key j hjl).2]at hi
   simp only[List.mem_cons,List.not_mem_nil,or_false]at hi
   rcases hi with rfl | rfl
   · exact hr.na j hjl
   · exact hr.nb j hjl
@[go_sem] theorem Mi {α β γ : Type} [Dat α] (f : β → γ) (g : α → β) {l : List α} {i j : Nat} {x : α} (h : j < l.length) : (((l.set i x).map g).map f)[j]? = some (f (g (nth (l.set i x) j))) := jT f g (by rw [List.length_set]; exact h)
def yI(l:List Int)(i j:Nat):List Int:=(l.set i (nth l j)).set j (nth l i)
def yJ(i j:Nat)(t:Int)(x:World):World:=⟨yI x.tags i j,(x.whr.set i (eE (nth x.whr i) t).1).set j (eE (nth x.whr j) t).1⟩
def wI(i j:Nat)(t:Int)(x:World)(out:List World):List World:=if Au (nth x.whr i) (nth x.whr j) t=true then out++[yJ i j t x]else out
def gY(i j:Nat)(t:Int)(ws:List World):Nat→List World
 | 0=>ws
 | k+1=>wI i j t (nth ws k) (gY i j t ws k)
def sK(m:bu)(b:Bel)(i j t:Int):Bel×Int:=
 if zc m b=false then(b,6)else if i<0∨((nth b.aH 0).tags.length:Int)≤i∨j<0∨((nth b.aH 0).tags.length:Int)≤j∨i=j then(b,19)
 else if ¬inT t then(b,8)else if 24<(qw (gY i.toNat j.toNat t b.aH b.aH.length)).length then(b,44)else(⟨qw (gY i.toNat j.toNat t b.aH b.aH.length)⟩,0)
theorem Hr(i j:Nat)(t:Int)(x:World)(out:List World):out.length≤(wI i j t x out).length∧(wI i j t x out).length≤out.length+1:=by
 unfold wI;split<;>(try rw[aLv,List.length_singleton])<;>omega
theorem xJ(i j:Nat)(t:Int)(ws:List World):∀k,ws.length≤(gY i j t ws k).length∧(gY i j t ws k).length≤ws.length+k
 | 0=>⟨aLs _,aLs _⟩
 | k+1=>by
   have h1:=xJ i j t ws k
   have h2:=Hr i j t (nth ws k) (gY i j t ws k)
   simp only[gY];omega
abbrev exH(m:bu)(ws out:List World):ah:=[.box (af m),.box [.t (.sl (ws.map World.e))],.box [.nil],.arr 2 false 0 ((out.map World.e).map .t)]
def Wp:Nat→List Int
 | 0=>[]
 | k+1=>Wp k++[3+(k:Int)*2]
def aR.Dm(d:aR)(n:Int):Nat→List Int×aR
 | 0=>([],d)
 | k+1=>((d.Dm n k).1++[((d.Dm n k).2.next n).1],((d.Dm n k).2.next n).2)
structure BSt where
 b:Bel
 t:Int
 d:aR
def aR.PU(m:bu)(n:Int)(s:BSt):BSt:=
 let a:=s.d.next 60
 let c:=a.2.next 3
 if c.1=0 then
  let i:=c.2.next n
  let j:=i.2.next n
  let r:=sK m s.b i.1 j.1 (s.t+a.1)
  ⟨if r.2=0 then r.1 else s.b,s.t+a.1,j.2⟩
 else if c.1=1 then
  let g:=c.2.next n
  let l:=g.2.kO m.aa.length
  let e:=l.2.next 9
  let r:=rF m s.b (3+2*g.1) l.1 (s.t+a.1) (s.t+a.1+e.1)
  ⟨if r.2=0 then r.1 else s.b,s.t+a.1,e.2⟩
 else
  let g:=c.2.next n
  let l:=g.2.kO m.aa.length
  let e:=l.2.next 40
  let r:=Wo m s.b (3+2*g.1) l.1 (s.t+a.1) (s.t+a.1+50) e.1
  ⟨if r.2=0 then r.1 else s.b,s.t+a.1,e.2⟩
def aR.adb(m:bu)(n:Int)(s:BSt):Nat→BSt
 | 0=>s
 | k+1=>aR.PU m n (aR.adb m n s k)
def aR.abW(d:aR):Nat:=(1+(d.next 3).1).toNat
def aR.Zf(d:aR)(m:bu):List Int×aR:=(d.next 3).2.Dm m.aa.length d.abW
def aR.ad0(d:aR)(m:bu):BSt:=⟨(rE m (Wp d.abW) (d.Zf m).1 ((d.Zf m).2.next 100).1).1,100,(((d.Zf m).2.next 100).2.next 5).2⟩
def aR.ad1(d:aR)(m:bu):Nat:=(((d.Zf m).2.next 100).2.next 5).1.toNat
def aR.ade(d:aR)(m:bu):BSt:=aR.adb m d.abW (d.ad0 m) (d.ad1 m)
def aR.adf(d:aR)(m:bu):Bel×aR:=((d.ade m).b,(d.ade m).d)
structure WOk(m:bu)(N:Nat)(x:World):Prop where
 tg:x.tags.length=N
 wh:x.whr.length=N
 fr:∀w∈x.whr,w.frm.length=m.aa.length
 ti:∀w∈x.whr,inT w.time
structure BOk(m:bu)(N:Nat)(b:Bel):Prop where
 w1:1≤b.aH.length
 w2:b.aH.length≤24
 n1:1≤N
 n2:N≤12
 ws:∀x∈b.aH,WOk m N x
theorem WOk.sz{m:bu}{N:Nat}{x:World}(h:WOk m N x)(hm:m.ok)(hn:N≤12):x.sz:=by
 have np:=hm.np
 obtain⟨t1,t2,t3, -⟩:=h
 exact⟨by omega,by omega,fun w hw=>by rw[t3 w hw];omega⟩
theorem BOk.sz{m:bu}{N:Nat}{b:Bel}(h:BOk m N b)(hm:m.ok):b.sz:=
 ⟨by have:=h.w2;omega,fun x hx=>(h.ws x hx).sz hm h.n2⟩
def aR.spread(d:aR)(m:bu)(fl:List Spn):Wh×aR:=
 let p:=d.next m.aa.length
 let t:=p.2.next 200
 let s:=V0 m fl [p.1] t.1
 let o:=t.2.one 2
 if o.1=true then
  let f:=o.2.abT m
  let a:=f.2.next 100
  let r:=Pd m fl m f.1 s.1 (s.1.time+a.1)
  if r.2=0 then(r.1,a.2)else(s.1,a.2)
 else(s.1,o.2)
structure Mch where
 kind:Int
 num:Int
 pl:List Int
instance : Dat Mch := ⟨⟨0, 0, []⟩⟩
abbrev Mch.e(x:Mch):T:= .agg [tI x.kind,tI x.num,tL x.pl]
@[go_sem] theorem Wq (l : List Mch) : lU 3 (l.map Mch.e) = true := by cases l <;> rfl
theorem mP{n:Nat}{p:Nat→Bool}{x:Int}:x∈jh n p↔∃k:Nat,x=k∧k<n∧p k=true:=by
 unfold jh
 simp only[List.mem_map,List.mem_filter,aLu]
 constructor
 · rintro ⟨k,⟨h1,h2⟩,rfl⟩;exact⟨k,rfl,h1,h2⟩
 · rintro ⟨k,rfl,h1,h2⟩;exact⟨k,⟨h1,h2⟩,rfl⟩
theorem Kc{α:Type} [Dat α]{l:List α}{p:α→Bool}:((List.range l.length).find? fun j=>p (nth l j)).isSome=l.any p:=by
 rw[List.isSome_find?,Bool.eq_iff_iff,List.any_eq_true,List.any_eq_true]
 constructor
 · rintro ⟨j,hj,h⟩
   exact⟨_,aq (aLu.1 hj),h⟩
 · rintro ⟨x,hx,h⟩
   obtain⟨j,hj⟩:=aLf.1 hx
   exact⟨j,aLu.2 (aLe.1 hj).1,by rw[bF hj];exact h⟩
theorem Ay(s:Wh)(t:Int):(kj s t).length≤s.frm.length:=pt _ _
end Go.Ev
namespace Go.Ev
open Go
variable [Lib] [cu] [b0] [gk] [gl] [jz] [fG] [fH] [gX] [fT] [eV] [dZ]
theorem yK(l:List Wh)(hl:l.length≤4294967296)(f:Nat)(bs:List (List T))(p:Wh→Bool)(h:∀x,x∈l→bh 0 f (.t x.e::fS bs.length) (aY bs)=some (B (p x),aY bs)):
 bh 0 N.ay [.t (.sl (l.map Wh.e)),.fn f (fS bs.length)] (aY bs)=
 some (I (match (List.range l.length).find? (fun j=>p (nth l j))with | some j=>(j:Int) | none=> -1),aY bs):=by
 refine aE K.bI rfl ?_
 have loop:∀a b:D,exS bh K.cg ⟨[.t (.sl (l.map Wh.e)),.fn f (fS bs.length),a,b,I l.length,I 0],aY bs⟩=
  some (match (List.range l.length).find? (fun j=>p (nth l j))with
   | some j=>(.ret,⟨[.t (.sl (l.map Wh.e)),.fn f (fS bs.length),I j,I j,I l.length,I j],aY bs⟩)
   | none=>(.exit 0,⟨[.t (.sl (l.map Wh.e)),.fn f (fS bs.length),.und,.und,I l.length,I l.length],aY bs⟩)):=by
  intro a b
  refine gR (fun j=>⟨[.t (.sl (l.map Wh.e)),.fn f (fS bs.length),.und,.und,I l.length,I j],aY bs⟩) l.length (fun j=>p (nth l j)) _ _ rfl ?_ ?_ ?_ (by simp)
  · intro j hj hp
    have hc:=pq (h _ (aq hj)) rfl
    simp(disch:=omega)only[go_sem,K.aZ,↓reduceIte,hc,hp]
  · intro j hj hp
    have hc:=pq (h _ (aq hj)) rfl
    simp(disch:=omega)only[go_sem,K.aZ,↓reduceIte,hp,hc]
    simp
  · simp(disch:=omega)only[go_sem,K.aZ,↓reduceIte]
 simp(disch:=omega)only[go_sem,K.ay,↓reduceIte,loop]
 cases hf:(List.range l.length).find? (fun j=>p (nth l j))with
 | some j=>simp(disch:=omega)only[go_sem,↓reduceIte]
 | none=>simp(disch:=omega)only[go_sem,↓reduceIte]
theorem tV(l:List Wh)(hl:l.length≤4294967296)(f:Nat)(bs:List (List T))(p:Wh→Bool)(h:∀x,x∈l→bh 0 f (.t x.e::fS bs.length) (aY bs)=some (B (p x),aY bs)):
 bh 0 N.ak [.t (.sl (l.map Wh.e)),.fn f (fS bs.length)] (aY bs)=some (B (l.any p),aY bs):=by
 refine aE K.bB rfl ?_
 have h:=yK l hl f bs p h
 have hc:=xv bh bs f _ 0 (.sl (l.map Wh.e)) h rfl
 have e:=Kc (l:=l) (p:=p)
 cases hf:(List.range l.length).find? (fun j=>p (nth l j))with
 | some j=>rw[hf]at e hc;simp(disch:=omega)only[go_sem,K.ak,↓reduceIte,←e,hc]
 | none=>rw[hf]at e hc;simp(disch:=omega)only[go_sem,K.ak,↓reduceIte,←e,hc,Option.isSome_none]
theorem vT{l:List Int}:dN l=true↔l.Nodup∧∀x∈l,1≤x∧x≤65535:=by
 constructor
 · intro h
   refine⟨fX h,fun x hx=>?_⟩
   simp only[dN,aLx,aLu,yE,decide_eq_true_eq]at h
   obtain⟨j,hj⟩:=aLf.1 hx
   have:=h j (aLe.1 hj).1
   rw[bF hj]at this
   exact⟨this.1,this.2.1⟩
 · rintro ⟨h1,h2⟩
   simp only[dN,aLx,aLu,yE,decide_eq_true_eq]
   intro j hj
   obtain⟨a,b⟩:=h2 _ (aq hj)
   refine⟨a,b,Decidable.byContradiction fun c=>?_⟩
   obtain⟨d,e⟩:=xC (l:=l.take j) (x:=nth l j) (by omega)
   have z:0≤bV (l.take j) (nth l j):=by omega
   generalize bV (l.take j) (nth l j)=k at*
   rw[List.length_take]at d
   have k1:k.toNat<j:=by omega
   have e1:(l.take j)[k.toNat]?=l[k.toNat]?:=List.getElem?_take_of_lt k1
   have e2:l[k.toNat]?=some l[k.toNat]:=aLc (by omega)
   rw[bF (e1.trans e2),←bF e2]at e
   have n2:=(List.getElem?_inj (by omega:k.toNat<l.length) h1).1 (show l[k.toNat]?=l[j]? by rw[iD (by omega),iD hj,e])
   omega
theorem Kd{l:List Int}{lo hi:Int}:L5 l lo hi=true↔l.Pairwise (· < ·)∧∀x∈l,lo≤x∧x≤hi:=by
 have e:L5 l lo hi=true↔∀j,j<l.length→lo≤nth l j∧nth l j≤hi∧(0<j→nth l (j-1)<nth l j):=by
  simp only[L5,Bool.not_eq_true',List.any_eq_false,aLu,G8,Bool.not_eq_true]
  constructor
  · intro h j hj
    have:=h j hj
    exact Decidable.byContradiction fun c=>this (decide_eq_false c)
  · intro h j hj c
    exact(of_decide_eq_false c) (h j hj)
 rw[e]
 constructor
 · intro h
   refine⟨?_,fun x hx=>?_⟩
   · have key:∀d i,i+d+1<l.length→nth l i<nth l (i+d+1):=by
      intro d
      induction d with
      | zero=>intro i hi;have:=(h (i+0+1) hi).2.2 (by omega);simpa using this
      | succ d ih=>
        intro i hi
        have a:=ih i (by omega)
        have b:=(h (i+(d+1)+1) hi).2.2 (by omega)
        rw[show i+(d+1)+1-1=i+d+1 by omega]at b
        omega
     rw[List.pairwise_iff_getElem]
     intro i j hi hj hij
     have:=key (j-i-1) i (by omega)
     rw[show i+(j-i-1)+1=j by omega,bF (aLc hi),bF (aLc hj)]at this
     exact this
   · obtain⟨j,hj⟩:=aLf.1 hx
     have:=h j (aLe.1 hj).1
     rw[bF hj]at this
     exact⟨this.1,this.2.1⟩
 · rintro ⟨h1,h2⟩ j hj
   refine⟨(h2 _ (aq hj)).1,(h2 _ (aq hj)).2,fun h0=>?_⟩
   have:=(List.pairwise_iff_getElem.1 h1) (j-1) j (by omega) hj (by omega)
   rwa [← bF (aLc (by omega:j-1<l.length)),←bF (aLc hj)]at this
theorem xK(l:List Int):L5 (gF l) 1 65535=dN l:=by
 rw[Bool.eq_iff_iff,Kd,vT]
 have p:=iX l
 have u:=rD l
 constructor
 · rintro ⟨h1,h2⟩
   refine⟨p.nodup_iff.1 (h1.imp fun h=>by omega),fun x hx=>h2 x (p.mem_iff.2 hx)⟩
 · rintro ⟨h1,h2⟩
   have nd:(gF l).Nodup:=p.nodup_iff.2 h1
   refine⟨?_,fun x hx=>h2 x (p.mem_iff.1 hx)⟩
   have:=List.Pairwise.and u nd
   exact this.imp fun h=>by omega
theorem Ht(l:List Int)(hl:l.length≤1000000):bh 0 N.dO [.t (tL l)] []=some (B (dN l),[]):=by
 refine aE K.mq rfl ?_
 have v:=vQ l
 have s:=vR l hl
 have r:=vL (gF l) 1 65535 (by rw[jr];omega)
 rw[xK]at r
 simp(disch:=omega)only[go_sem,K.dO,↓reduceIte,v,s,r,reduceAdd,reduceSub]
theorem oZ{n j:Nat}{p:Nat→Bool}(h1:j<n)(h2:p j=true)(h3:∀k,k<j→p k=false):(List.range n).find? p=some j:=by
 cases hf:(List.range n).find? p with
 | none=>exact absurd h2 (by simpa using List.find?_eq_none.1 hf j (aLu.2 h1))
 | some k=>
   obtain⟨k1,k2⟩:=su hf
   have:k≤j:=by
    rcases Nat.lt_or_ge j k with c | c
    · rw[List.find?_range_eq_some]at hf
      exact absurd h2 (by simpa using hf.2.2 j c)
    · exact c
   rcases Nat.lt_or_ge k j with c | c
   · rw[h3 k c]at k2;cases k2
   · rw[show k=j by omega]
theorem Az{n:Nat}{p:Nat→Bool}(h:∀k,k<n→p k=false):(List.range n).find? p=none:=List.find?_eq_none.2 fun x hx=>by rw[h x (aLu.1 hx)];simp
theorem AA(a b:List Int):decide (Kb a b<0)=wH a b:=by
 unfold Kb wH
 cases hf:(List.range (min a.length b.length)).find? (fun j=>decide (nth a j≠nth b j))with
 | some j=>
   rw[List.find?_range_eq_some]at hf
   obtain⟨h2,h1,h3⟩:=hf
   have h1:=aLu.1 h1
   have e:(List.range a.length).find? (Dk a b)=some j:=oZ (by omega) (by simp only[Dk,h2,Bool.or_true]) (fun k hk=>by
    have:=h3 k hk
    simp only[Dk,Bool.or_eq_false_iff,decide_eq_false_iff_not]
    exact⟨by omega,by simpa using this⟩)
   have h2:nth a j≠nth b j:=by simpa using h2
   rw[e]
   simp only[if_neg (by omega:¬b.length≤j)]
   rw[decide_eq_decide]
   unfold Hp
   split
   · omega
   · split<;>omega
 | none=>
   have h3:∀k,k<min a.length b.length→nth a k=nth b k:=fun k hk=>by
    have:=List.find?_eq_none.1 hf k (aLu.2 hk)
    simpa using this
   by_cases c:a.length≤b.length
   · have e:(List.range a.length).find? (Dk a b)=none:=Az fun k hk=>by
      simp only[Dk,Bool.or_eq_false_iff,decide_eq_false_iff_not,Decidable.not_not]
      exact⟨by omega,h3 k (by omega)⟩
     rw[e]
     simp only[decide_eq_decide]
     split<;>omega
   · have e:(List.range a.length).find? (Dk a b)=some b.length:=oZ (by omega) (by simp[Dk]) (fun k hk=>by
      simp only[Dk,Bool.or_eq_false_iff,decide_eq_false_iff_not,Decidable.not_not]
      exact⟨by omega,h3 k (by omega)⟩)
     rw[e]
     simp only[aLs,if_true,decide_eq_decide]
     omega
def pwB(m:bu)(ws:List World)(first:List Int)(i:Nat):Bool:=
 decide (1≤(nth ws i).tags.length∧(nth ws i).tags.length≤12)&&decide ((nth ws i).whr.length=(nth ws i).tags.length)&&dN (nth ws i).tags&&decide (gF (nth ws i).tags=gF first)&&(decide (i=0)||wH (nth ws (i-1)).tags (nth ws i).tags)&& !((nth ws i).whr.any fun x=> !c7 m x)
def Ke(m:bu)(b:Bel):Bool:=decide (1≤b.aH.length∧b.aH.length≤24)&&(List.range b.aH.length).all (pwB m b.aH (nth b.aH 0).tags)
theorem tK{a b:List Int}:gF a=gF b↔a.Perm b:=by
 constructor
 · intro h
   exact(iX a).symm.trans (h▸iX b)
 · intro h
   exact abU (rD a) (rD b) ((iX a).trans (h.trans (iX b).symm))
theorem pW{a b:List Int}(ha:a.Nodup)(hb:b.Nodup)(hl:a.length=b.length)(hs:∀x∈a,x∈b):a.Perm b:=by
 have key:∀y∈b,y∈a:=fun y hy=>Decidable.byContradiction fun hn=>by
  have:=nU ha (l':=b.erase y) (fun x hx=>(List.mem_erase_of_ne (fun e=>hn (by rw[← e];exact hx))).2 (hs x hx))
  rw[List.length_erase_of_mem hy]at this
  have:=List.length_pos_of_mem hy
  omega
 exact(List.perm_ext_iff_of_nodup ha hb).2 fun x=>⟨hs x,key x⟩
theorem Kf(m:bu)(b:Bel):Ke m b=zc m b:=by
 obtain⟨ws⟩:=b
 rw[Bool.eq_iff_iff]
 constructor
 · intro h
   simp only[Ke,aLr,decide_eq_true_eq,aLx,aLu,pwB,Bool.or_eq_true,Bool.not_eq_true',List.any_eq_false,Bool.not_eq_false']at h
   obtain⟨⟨h1,h2⟩,h⟩:=h
   have h0:=h 0 (by omega)
   simp only[zc,aLr,decide_eq_true_eq,aLx,aLu,rC,Bool.or_eq_true,Y8]
   refine⟨⟨⟨h1,h2⟩,h0.1.1.1.1.1⟩,fun i hi=>?_⟩
   obtain⟨⟨⟨⟨⟨a1,a2⟩,a3⟩,a4⟩,a5⟩,a6⟩:=h i hi
   have pm:=tK.1 a4
   refine⟨⟨⟨⟨pm.length_eq,by rw[a2,pm.length_eq]⟩,a3⟩,a5⟩,fun k hk=>⟨?_,?_⟩⟩
   · exact gN.2 (pm.mem_iff.1 (aq hk))
   · simpa using a6 _ (aq (l:=(nth ws i).whr) (j:=k) (by omega))
 · intro h
   obtain⟨h1,h2,h3,h4,h5⟩:=mO h
   simp only at h1 h2 h3 h4 h5
   have p0:=(iI (h5 0 (by omega))).2.2.1
   simp only[Ke,aLr,decide_eq_true_eq,aLx,aLu,pwB,Bool.or_eq_true,Bool.not_eq_true',List.any_eq_false,Bool.not_eq_false']
   refine⟨⟨h1,h2⟩,fun i hi=>?_⟩
   obtain⟨w1,w2,w3,w4⟩:=iI (h5 i hi)
   have ls:=h5 i hi
   simp only[rC,aLr,Bool.or_eq_true,decide_eq_true_eq]at ls
   refine⟨⟨⟨⟨⟨by omega,by omega⟩,w3⟩,?_⟩,ls.1.2⟩,fun x hx=>?_⟩
   · refine tK.2 (pW (fX w3) (fX p0) w1 fun x hx=>?_)
     obtain⟨j,hj⟩:=aLf.1 hx
     have:=(w4 j (aLe.1 hj).1).1
     rwa [bF hj]at this
   · obtain⟨j,hj⟩:=aLf.1 hx
     have:=(w4 j (by rw[w1,←w2];exact(aLe.1 hj).1)).2
     rw[bF hj]at this
     simpa using this
theorem B6{m:bu}(h:m.ok)(x:Wh)(hx:x.frm.length≤1000000):bh 0 N.cP [.t x.e,.bp 0 0] [.box (af m)]=some (B (!c7 m x),[.box (af m)]):=by
 refine aE K.kU rfl ?_
 have v:=Am h x hx
 obtain⟨aa,roads⟩:=m
 obtain⟨time,frm⟩:=x
 simp only at*
 simp(disch:=omega)only[go_sem,K.cP,↓reduceIte,v,reduceAdd,reduceSub]
abbrev swS(m:bu)(ws:List World)(first:List Int)(i:Nat):St:=
 ⟨[.und,.und,.bp 0 0,.bp 1 0,.und,.t (tL (gF first)),.und,.und,.t (.sl (ws.map World.e)),I ws.length,I i],[.box (af m),.box [.t (.sl (ws.map World.e))],.box [.t (tL first)]]⟩
theorem Hu{m:bu}(h:m.ok)(ws:List World)(first:List Int)(hf:first.length≤1000000)(hs:∀x∈ws,x.sz)(i:Nat)(hi:i<ws.length)(hl:ws.length≤1000000):
 (pwB m ws first i=true→eP true [0,1,4,6,7] 3 (exS bh K.bL (swS m ws first i))=some (swS m ws first (i+1)))∧
 (pwB m ws first i=false→∃q,exS bh K.bL (swS m ws first i)=some q∧q.1= .ret∧q.2.vs[4]?=some (B false)):=by
 simp only[swS]
 have sz:=hs _ (aq hi)
 have ex:(ws.map World.e)[i]?=some (nth ws i).e:=fB _ hi
 unfold pwB
 have ey:0<i→(ws.map World.e)[i-1]?=some (nth ws (i-1)).e∧(nth ws (i-1)).tags.length≤1000000:=fun h0=>⟨fB _ (by omega),(hs _ (aq (by omega))).1⟩
 generalize nth ws (i-1)=y at*
 generalize nth ws i=x at*
 obtain⟨tags,whr⟩:=x
 obtain⟨ptags,pwhr⟩:=y
 obtain⟨s1,s2,s3⟩:=sz
 simp only at s1 s2 s3 ey ⊢
 have li:=tT tags.length 1 12
 have tg:=Ht tags s1
 have va:=vQ tags
 have so:=vR tags s1
 have eq:=uy (gF tags) (gF first) (by rw[jr];omega) (by rw[jr];omega)
 have cf:=tV whr (by omega) N.cP [[.sl (m.aa.map Place.e),.sl (m.roads.map Road.e)]] (fun x=> !c7 m x) (fun x hx=>B6 h x (s3 x hx))
 have cf:bh 0 N.ak [.t (.sl (whr.map Wh.e)),.fn N.cP [.bp 0 0]] [.box (af m)]=some (B (whr.any fun x=> !c7 m x),[.box (af m)]):=cf
 have cp:0<i→bh 0 N.aU [.t (tL ptags),.t (tL tags)] []=some (I (Kb ptags tags),[]):=fun h0=>xH ptags tags (ey h0).2 s1
 have cl:=AA ptags tags
 generalize gF tags=st at*
 generalize gF first=sf at*
 generalize (whr.any fun x=> !c7 m x)=an at*
 generalize dN tags=pr at*
 generalize wH ptags tags=le at*
 generalize Kb ptags tags=cc at*
 clear hs s3
 by_cases c1:1≤tags.length∧tags.length≤12
 · have li:bh 0 N.cA [I tags.length,I 1,I 12] []=some (B true,[]):=by rw[li,decide_eq_true (by omega)]
   by_cases c2:whr.length=tags.length
   · cases pr with
     | false=>
       refine⟨fun h=>by simp at h,fun _=>?_⟩
       simp(disch:=omega)only[go_sem,K.bL,↓reduceIte,li,tg,ex,c2,reduceAdd,reduceSub]
       refine⟨_,rfl,?_,?_⟩<;>rfl
     | true=>
       by_cases c4:st=sf
       · subst c4
         simp only[decide_true]at eq
         cases i with
         | zero=>
           cases an with
           | true=>
             refine⟨fun h=>by simp at h,fun _=>?_⟩
             simp(disch:=omega)only[go_sem,K.bL,↓reduceIte,li,tg,ex,c2,va,so,eq,cf,reduceAdd,reduceSub]
             refine⟨_,rfl,?_,?_⟩<;>rfl
           | false=>
             refine⟨fun _=>?_,fun h=>by simp[c1,c2]at h⟩
             simp(disch:=omega)only[go_sem,K.bL,↓reduceIte,li,tg,ex,c2,va,so,eq,cf,reduceAdd,reduceSub]
         | succ i=>
           obtain⟨ey, -⟩:=ey (by omega)
           have cp:=cp (by omega)
           simp only[Nat.add_sub_cancel]at ey
           cases le with
           | false=>
             have cl:¬cc<0:=by simpa using cl
             refine⟨fun h=>by simp at h,fun _=>?_⟩
             simp(disch:=omega)only[go_sem,K.bL,↓reduceIte,li,tg,ex,c2,va,so,eq,ey,cp,reduceAdd,reduceSub]
             refine⟨_,rfl,?_,?_⟩<;>rfl
           | true=>
             have cl:cc<0:=by simpa using cl
             cases an with
             | true=>
               refine⟨fun h=>by simp at h,fun _=>?_⟩
               simp(disch:=omega)only[go_sem,K.bL,↓reduceIte,li,tg,ex,c2,va,so,eq,ey,cp,cf,reduceAdd,reduceSub]
               refine⟨_,rfl,?_,?_⟩<;>rfl
             | false=>
               refine⟨fun _=>?_,fun h=>by simp[c1,c2]at h⟩
               simp(disch:=omega)only[go_sem,K.bL,↓reduceIte,li,tg,ex,c2,va,so,eq,ey,cp,cf,reduceAdd,reduceSub]
       · simp only[c4,decide_false]at eq
         refine⟨fun h=>by simp[c4]at h,fun _=>?_⟩
         simp(disch:=omega)only[go_sem,K.bL,↓reduceIte,li,tg,ex,c2,va,so,eq,reduceAdd,reduceSub]
         refine⟨_,rfl,?_,?_⟩<;>rfl
   · refine⟨fun h=>by simp[c2]at h,fun _=>?_⟩
     simp(disch:=omega)only[go_sem,K.bL,↓reduceIte,li,ex,c2,reduceAdd,reduceSub]
     refine⟨_,rfl,?_,?_⟩<;>rfl
 · have li:bh 0 N.cA [I tags.length,I 1,I 12] []=some (B false,[]):=by rw[li,decide_eq_false (by omega)]
   refine⟨fun h=>by simp[c1]at h,fun _=>?_⟩
   simp(disch:=omega)only[go_sem,K.bL,↓reduceIte,li,ex,reduceAdd,reduceSub]
   refine⟨_,rfl,?_,?_⟩<;>rfl
end Go.Ev
namespace Go.Ev
open Go
variable [Lib] [cu] [b0] [gX] [fT]
theorem AB{l:List Int}{n:Int}(h:Aa l n=true):∀x∈l,0≤x∧x<n:=by
 intro x hx
 simp only[Aa,aLx,aLu,decide_eq_true_eq]at h
 obtain⟨j,hj⟩:=aLf.1 hx
 have:=h j (aLe.1 hj).1
 rw[bF hj]at this
 exact⟨this.1,this.2.1⟩
theorem PV{w:Wh}{l:List Int}{b:Int}{n:Nat}(hl:∀p∈l,0≤p∧p<n)(hw:∀x∈w.frm,plT x)(hn:w.frm.length=n):∀x∈(oS w l b n l.length).1,plT x:=by
 intro x hx
 obtain⟨j,hj⟩:=aLf.1 hx
 have jl:=(aLe.1 hj).1
 rw[nJ]at jl
 have e:=yA (w:=w) (b:=b) hl _ (aLs _) j jl
 rw[bF hj]at e
 rw[e]
 split
 · exact hw _ (aq (by omega))
 · exact .inl rfl
theorem Hv{m:bu}(h:m.ok){w:Wh}(hv:c7 m w=true)(l:List Int)(a b:Int):
 (uu m w l a b=(⟨b,dj m a none (oS w l b m.aa.length l.length).1⟩,0)∧lH m w l a b=0∧w.time≤a∧(oS w l b m.aa.length l.length).2=true∧c7 m (uu m w l a b).1=true)∨((uu m w l a b).1=w∧(uu m w l a b).2≠0):=by
 by_cases c0:lH m w l a b=0
 · obtain⟨-,h0,hs,ia,ib,hab⟩:=C7 c0
   by_cases c1:a<w.time
   · right;unfold uu;rw[if_neg (by simpa using c0),if_pos c1];exact⟨rfl,by simp⟩
   · cases c2:(oS w l b m.aa.length l.length).2 with
     | false=>right;unfold uu;rw[if_neg (by simpa using c0),if_neg c1,if_neg (by simp[c2])];exact⟨rfl,by simp⟩
     | true=>
       left
       have e:uu m w l a b=(⟨b,dj m a none (oS w l b m.aa.length l.length).1⟩,0):=by
        unfold uu;rw[if_neg (by simpa using c0),if_neg c1,if_pos c2]
       obtain⟨v1,v2,v3, -⟩:=bZ hv
       refine⟨e,c0,by omega,rfl,?_⟩
       rw[e]
       exact vF h (nJ ..) (PV (AB hs) v3 v1) ia.1 hab ib
 · right;unfold uu;rw[if_pos c0];exact⟨rfl,c0⟩
theorem Hw{m:bu}(h:m.ok){w:Wh}(hv:c7 m w=true)(l:List Int)(a b:Int):c7 m (uu m w l a b).1=true:=by
 rcases Hv h hv l a b with⟨-, -, -, -,v⟩ | ⟨e, -⟩
 · exact v
 · rw[e];exact hv
end Go.Ev
namespace Go.Ev
open Go
variable [Lib] [cu] [b0] [gk] [gl] [fG] [fH] [gX] [fT]
theorem PW{m:bu}(h:m.ok)(h1:1≤m.aa.length)(w:Wh)(hl:w.frm.length≤1000000)(l:List Int)(hp:l.length≤1000000)(a b:Int):
 bh 0 N.eu [.t m.e,.t w.e,.t (tL l),I a,I b] []=some (.tup [.t (uu m w l a b).1.e,I (uu m w l a b).2],[]):=by
 refine aE K.oV rfl ?_
 have np:=h.np
 have g:=En h w hl l hp a b
 have nw:=vJ h h1
 unfold uu
 by_cases c0:lH m w l a b=0
 · rw[if_neg (by simpa using c0)]
   rw[c0]at g
   obtain⟨hv,h0,hs,ia,ib,hab⟩:=C7 c0
   obtain⟨v1,v2,v3, -⟩:=bZ hv
   by_cases c1:a<w.time
   · rw[if_pos c1]
     obtain⟨aa,roads⟩:=m
     obtain⟨time,frm⟩:=w
     simp only at*
     simp(disch:=omega)only[go_sem,K.eu,↓reduceIte,g,c1,reduceAdd,reduceSub]
   · rw[if_neg c1]
     have hb:bnd w.frm:=fun x hx=>nI (v3 x hx)
     have lm:=fun{j:Nat} (hj:j<l.length)=>JE hs hj
     have sl:=nJ w l b m.aa.length
     have sb:=C6 (n:=m.aa.length) hb l b (fun p hp=>by
      obtain⟨j,hj⟩:=aLf.1 hp
      have:=lm (aLe.1 hj).1
      rw[bF hj]at this
      omega) l.length (aLs _)
     have loop:∀z0 z1 z2 z8 z9 z12:D,exS bh K.rB ⟨[z0,z1,z2,I a,I b,.bp 0 0,.bp 1 0,.bp 2 0,z8,z9,.ref 3 0 m.aa.length,B false,z12,.t (tL l),I l.length,I 0],[.box (af m),.box [I w.time,.t (tL w.frm)],.box [I 0,.nil],yC (dI m.aa.length)]⟩=
      some (.exit 0,⟨[.und,.und,.und,I a,I b,.bp 0 0,.bp 1 0,.bp 2 0,.und,.und,.ref 3 0 m.aa.length,B (oS w l b m.aa.length l.length).2,.und,.t (tL l),I l.length,I l.length],[.box (af m),.box [I w.time,.t (tL w.frm)],.box [I 0,.nil],yC (oS w l b m.aa.length l.length).1]⟩):=by
      intro z0 z1 z2 z8 z9 z12
      refine fP (fun j=>⟨[.und,.und,.und,I a,I b,.bp 0 0,.bp 1 0,.bp 2 0,.und,.und,.ref 3 0 m.aa.length,B (oS w l b m.aa.length j).2,.und,.t (tL l),I l.length,I j],[.box (af m),.box [I w.time,.t (tL w.frm)],.box [I 0,.nil],yC (oS w l b m.aa.length j).1]⟩) l.length rfl ?_ ?_ (by simp)
      · intro j hj
        have lj:=sl j
        have nj:=lm hj
        simp only[oS,sC]
        generalize oS w l b m.aa.length j=r at*
        obtain⟨r1,r2⟩:=r
        obtain⟨aa,roads⟩:=m
        obtain⟨time,frm⟩:=w
        simp only[af]at*
        by_cases c:nth frm (nth l j).toNat≤b
        · simp(disch:=omega)only[go_sem,K.jU,↓reduceIte,c,reduceAdd,reduceSub]
        · simp(disch:=omega)only[go_sem,K.jU,↓reduceIte,c,reduceAdd,reduceSub]
      · obtain⟨aa,roads⟩:=m
        obtain⟨time,frm⟩:=w
        simp only[af]at*
        simp(disch:=omega)only[go_sem,K.jU,↓reduceIte,reduceAdd,reduceSub]
     have sl:=sl l.length
     have lo:=(sI h a (by unfold inT at ia;omega) (by unfold inT at ia;omega) (oS w l b m.aa.length l.length).1 sl sb).1
     clear sb lm hb v3
     cases c2:(oS w l b m.aa.length l.length).2 with
     | false=>
       rw[if_neg (by simp)]
       rw[c2]at loop
       generalize (oS w l b m.aa.length l.length).1=r at*
       generalize dI m.aa.length=ne at*
       obtain⟨aa,roads⟩:=m
       obtain⟨time,frm⟩:=w
       simp only[af]at*
       simp(disch:=omega)only[go_sem,K.eu,↓reduceIte,g,c1,nw,loop,reduceAdd,reduceSub]
     | true=>
       rw[if_pos rfl]
       rw[c2]at loop
       generalize dj m a none (oS w l b m.aa.length l.length).1=cl at*
       generalize (oS w l b m.aa.length l.length).1=r at*
       generalize dI m.aa.length=ne at*
       obtain⟨aa,roads⟩:=m
       obtain⟨time,frm⟩:=w
       simp only[af]at*
       simp(disch:=omega)only[go_sem,K.eu,↓reduceIte,g,c1,nw,loop,lo,sl,reduceAdd,reduceSub]
 · rw[if_pos c0]
   generalize lH m w l a b=q at*
   obtain⟨aa,roads⟩:=m
   obtain⟨time,frm⟩:=w
   simp only at*
   simp(disch:=omega)only[go_sem,K.eu,↓reduceIte,g,c0,reduceAdd,reduceSub]
theorem Kg(a b:Wh)(ha:a.frm.length≤1000000):bh 0 N.eG [.t a.e,.t b.e] []=some (.tup [.t (jZ a b).1.e,I (jZ a b).2],[]):=by
 refine aE K.nN rfl ?_
 obtain⟨t1,l1⟩:=a
 obtain⟨t2,l2⟩:=b
 simp only[jZ]at*
 by_cases c:l1.length=l2.length
 · rw[if_pos c]
   have ml:=nK l1 l2
   have lp:∀z0 z1 z2 z5 z7 z8:D,exS bh K.pV ⟨[z0,z1,z2,.bp 1 0,.bp 2 0,z5,.bp 3 0,z7,z8,.t (tL l1),I l1.length,I 0],[.box [I t1,.t (tL l1)],.box [I t2,.t (tL l2)],.box [I 0,.nil],.box [I (max t1 t2),.ref 5 0 0],.arr 1 false 0 [],.arr 1 false 0 []]⟩=
    some (.exit 0,⟨[.und,.und,.und,.bp 1 0,.bp 2 0,.und,.bp 3 0,.und,.und,.t (tL l1),I l1.length,I l1.length],[.box [I t1,.t (tL l1)],.box [I t2,.t (tL l2)],.box [I 0,.nil],.box [I (max t1 t2),.ref 5 0 (Ac l1 l2 l1.length).length],.arr 1 false 0 [],.arr 1 false 0 (((Ac l1 l2 l1.length).map (T.int .i64)).map .t)]⟩):=by
    intro z0 z1 z2 z5 z7 z8
    refine fP (fun j=>⟨[.und,.und,.und,.bp 1 0,.bp 2 0,.und,.bp 3 0,.und,.und,.t (tL l1),I l1.length,I j],[.box [I t1,.t (tL l1)],.box [I t2,.t (tL l2)],.box [I 0,.nil],.box [I (max t1 t2),.ref 5 0 (Ac l1 l2 j).length],.arr 1 false 0 [],.arr 1 false 0 (((Ac l1 l2 j).map (T.int .i64)).map .t)]⟩) l1.length rfl ?_ ?_ (by simp)
    · intro j hj
      have lj:=ml j
      simp only[Ac]
      generalize Ac l1 l2 j=r at*
      simp(disch:=omega)only[go_sem,K.kR,↓reduceIte,reduceAdd,reduceSub]
    · simp(disch:=omega)only[go_sem,K.kR,↓reduceIte,reduceAdd,reduceSub]
   generalize Ac l1 l2 l1.length=r at*
   have c2:=c.symm
   simp(disch:=omega)only[go_sem,K.eG,↓reduceIte,c2,lp,reduceAdd,reduceSub]
 · rw[if_neg c]
   simp(disch:=omega)only[go_sem,K.eG,↓reduceIte,c,reduceAdd,reduceSub]
   rfl
end Go.Ev
namespace Go.Ev
open Go
variable [Lib] [cu] [b0]
theorem Hx{s:Wh}{t:Int}{p:Int}:p∈kj s t↔0≤p∧p<s.frm.length∧nth s.frm p.toNat≤t:=by
 unfold kj
 rw[mP]
 constructor
 · rintro ⟨k,rfl,h1,h2⟩
   exact⟨by omega,by omega,by simpa using h2⟩
 · rintro ⟨h1,h2,h3⟩
   exact⟨p.toNat,by omega,by omega,by simpa using h3⟩
section
variable {m : bu} (hm : m.ok) {N : Nat} {b : Bel} (hb : BOk m N b) {s : Wh} (hs : s.frm.length = m.aa.length) {l : List Mch}
variable (hl : ∀ y ∈ l, y.pl.length ≤ m.aa.length ∧ 1 ≤ y.pl.length ∧ ∀ x ∈ y.pl, 0 ≤ x ∧ x < m.aa.length) {t a : Int} (t0 : 0 ≤ t) (t1 : t ≤ 10000) (a0 : 0 ≤ a) (a1 : a ≤ 10000) (d : aR)
include hm hb hs hl t0 t1 a0 a1
omit hm hb t0 t1 a1 in
end
def aR.skip(d:aR)(n:Int):Nat→aR
 | 0=>d
 | k+1=>((d.skip n k).next n).2
end Go.Ev
namespace Go.Ev
open Go
variable [Lib] [cu] [b0] [jz]
theorem Ey(s:Wh)(t:Int)(k:Nat)(hk:k<s.frm.length):bh 0 N.bJ [I k,.bp 0 0,.bp 1 0] [.box [I s.time,.t (tL s.frm)],.box [I t]]=some (B (decide (nth s.frm k≤t)),[.box [I s.time,.t (tL s.frm)],.box [I t]]):=by
 refine aE K.iH rfl ?_
 simp(disch:=omega)only[go_sem,K.bJ,↓reduceIte,reduceAdd,reduceSub]
theorem AD(s:Wh)(t:Int)(hl:s.frm.length≤1000000):bh 0 N.b8 [.t s.e,I t] []=some (.t (tL (kj s t)),[]):=by
 refine aE K.jP rfl ?_
 have wh:=JA s.frm.length hl N.bJ [[tI s.time,tL s.frm],[tI t]] (fun k=>decide (nth s.frm k≤t)) (fun k hk=>Ey s t k hk)
 have wh:bh 0 N.dW [I s.frm.length,.fn N.bJ [.bp 0 0,.bp 1 0]] [.box [I s.time,.t (tL s.frm)],.box [I t]]=some (.t (tL (kj s t)),[.box [I s.time,.t (tL s.frm)],.box [I t]]):=wh
 obtain⟨time,frm⟩:=s
 simp only at hl wh
 generalize kj ⟨time,frm⟩ t=r at*
 simp(disch:=omega)only[go_sem,K.b8,↓reduceIte,wh,reduceAdd,reduceSub]
end Go.Ev
namespace Go.Ev
open Go
variable [Lib] [cu] [b0] [gk] [gl] [jz] [fG] [fH] [gX] [fT]
theorem yL(a b:List Int):∀n j,j<n→nth (Ac a b n) j=min (nth a j) (nth b j)
 | 0,j,h=>by omega
 | n+1,j,h=>by
   have ln:=nK a b n
   by_cases e:j=n
   · subst e
     exact bF (by simp only[Ac];rw[aLh (by omega),ln];simp)
   · have ih:=yL a b n j (by omega)
     rw[← ih]
     have:(Ac a b n)[j]?=some (nth (Ac a b n) j):=iD (by omega)
     exact bF (by simp only[Ac];rw[aLg (by omega)];exact this)
theorem xL{m:bu}(h:m.ok){a b:Wh}(ha:c7 m a=true)(hb:c7 m b=true):(jZ a b).2=0∧c7 m (jZ a b).1=true∧(jZ a b).1.frm.length=m.aa.length∧∀j,j<m.aa.length→nth (jZ a b).1.frm j=min (nth a.frm j) (nth b.frm j):=by
 obtain⟨a1,a2,a3, -⟩:=bZ ha
 obtain⟨b1,b2,b3, -⟩:=bZ hb
 have ca:=rv h ha
 have cb:=rv h hb
 have e:jZ a b=(⟨max a.time b.time,Ac a.frm b.frm a.frm.length⟩,0):=by unfold jZ;rw[if_pos (by omega)]
 rw[e]
 have mn:=fun j (hj:j<m.aa.length)=>yL a.frm b.frm a.frm.length j (by omega)
 refine⟨rfl,vE h (by simp only[nK];exact a1) (by unfold inT at *;simp only;omega) (fun x hx=>?_) ?_,by simp only[nK];exact a1,mn⟩
 · obtain⟨j,hj⟩:=aLf.1 hx
   have jl:=(aLe.1 hj).1
   simp only[nK]at jl
   have:=mn j (by omega)
   rw[bF hj]at this
   have x1:=a3 _ (aq (l:=a.frm) (j:=j) jl)
   have x2:=b3 _ (aq (l:=b.frm) (j:=j) (by omega))
   unfold plT inT at*
   omega
 · intro k hk back hi h1 h2 h3
   have r1:=Road.s6 (h.rs _ (aq hk)) back
   have r2:=Road.xx (h.rs _ (aq hk)) back
   simp only at h2 h3 ⊢
   rw[mn _ (by omega)]at h2 h3 ⊢
   rw[mn _ (by omega)]
   have y1:=ca k hk back rfl h1
   have y2:=cb k hk back rfl h1
   omega
end Go.Ev
namespace Go.Ev
open Go
variable [Lib] [cu] [b0] [gk] [gl] [jz] [fG] [fH] [gX] [fT] [eV] [dZ]
def lexB:List Int→List Int→Bool
 | _,[]=>false
 | [],_::_=>true
 | a::r,b::s=>decide (a<b)||(decide (a=b)&&lexB r s)
theorem rG(a:Int)(l:List Int)(j:Nat):nth (a::l) (j+1)=nth l j:=by simp[nth]
theorem rH(a:Int)(l:List Int):nth (a::l) 0=a:=by simp[nth]
theorem lL:∀a b:List Int,wH a b=lexB a b
 | a,[]=>by
   unfold wH lexB
   simp
 | [],b::s=>by
   unfold wH lexB
   simp
 | a::r,b::s=>by
   have ih:=lL r s
   unfold wH at ih ⊢
   have e:min (a::r).length (b::s).length=min r.length s.length+1:=by simp only[List.length_cons];omega
   rw[e,List.range_succ_eq_map,List.find?_cons]
   simp only[rH]
   by_cases h:a=b
   · subst h
     simp only[ne_eq,not_true_eq_false,decide_false,aLt,List.find?_map,lexB,decide_true,Bool.true_and,Int.lt_irrefl,Bool.false_or]
     rw[← ih]
     have:((fun j=>decide (¬nth (a::r) j=nth (a::s) j)) ∘ Nat.succ)=fun j=>decide (nth r j≠nth s j):=by
      funext j
      simp only[Function.comp,Nat.succ_eq_add_one,rG,ne_eq]
     rw[this]
     cases (List.range (min r.length s.length)).find? (fun j=>decide (nth r j≠nth s j))with
     | some j=>simp only[aLw,Nat.succ_eq_add_one,rG]
     | none=>simp only[Option.map_none,List.length_cons,Nat.add_lt_add_iff_right]
   · simp only[ne_eq,h,not_false_eq_true,decide_true,lexB,decide_false,Bool.false_and,Bool.or_false,rH]
theorem lex_trans:∀ {a b c:List Int},lexB a b=true→lexB b c=true→lexB a c=true
 | _,_,[],_,h=>by simp[lexB]at h
 | [],_,_::_,_,_=>rfl
 | _::_,[],_,h,_=>by simp[lexB]at h
 | a::r,b::s,c::t,h1,h2=>by
   simp only[lexB,Bool.or_eq_true,aLr,decide_eq_true_eq]at h1 h2 ⊢
   rcases h1 with h1 | ⟨h1,k1⟩
   · rcases h2 with h2 | ⟨h2,k2⟩
     · left;omega
     · left;omega
   · rcases h2 with h2 | ⟨h2,k2⟩
     · left;omega
     · right;exact⟨by omega,lex_trans k1 k2⟩
theorem lex_irrefl:∀a:List Int,lexB a a=false
 | []=>rfl
 | a::r=>by simp[lexB,lex_irrefl r]
theorem kZ:∀a b:List Int,lexB a b=true∨a=b∨lexB b a=true
 | [],[]=> .inr (.inl rfl)
 | [],_::_=> .inl rfl
 | _::_,[]=> .inr (.inr rfl)
 | a::r,b::s=>by
   simp only[lexB,Bool.or_eq_true,aLr,decide_eq_true_eq,List.cons.injEq]
   rcases kZ r s with h | h | h
   · by_cases c:a<b
     · exact .inl (.inl c)
     · by_cases c2:a=b
       · exact .inl (.inr ⟨c2,h⟩)
       · exact .inr (.inr (.inl (by omega)))
   · by_cases c:a<b
     · exact .inl (.inl c)
     · by_cases c2:a=b
       · exact .inr (.inl ⟨c2,h⟩)
       · exact .inr (.inr (.inl (by omega)))
   · by_cases c:a<b
     · exact .inl (.inl c)
     · by_cases c2:a=b
       · exact .inr (.inr (.inr ⟨c2.symm,h⟩))
       · exact .inr (.inr (.inl (by omega)))
structure WV(m:bu)(first:List Int)(x:World):Prop where
 pm:x.tags.Perm first
 wl:x.whr.length=first.length
 wv:∀w∈x.whr,c7 m w=true
structure BV(m:bu)(first:List Int)(ws:List World):Prop where
 pr:dN first=true
 f1:1≤first.length
 f2:first.length≤12
 wv:∀x∈ws,WV m first x
 up:ws.Pairwise fun x y=>lexB x.tags y.tags=true
theorem B7{a b:List Int}(h:a.Perm b)(hb:dN b=true):dN a=true:=by
 rw[vT]at hb ⊢
 exact⟨h.nodup_iff.2 hb.1,fun x hx=>hb.2 x (h.mem_iff.1 hx)⟩
theorem BV.bel{m:bu}{first:List Int}{ws:List World}(h:BV m first ws)(h1:1≤ws.length)(h2:ws.length≤24):zc m ⟨ws⟩=true:=by
 have w0:=h.wv _ (aq (l:=ws) (j:=0) (by omega))
 have l0:=w0.pm.length_eq
 simp only[zc,aLr,decide_eq_true_eq,aLx,aLu,rC,Bool.or_eq_true,Y8]
 have f1:=h.f1
 have f2:=h.f2
 refine⟨⟨⟨h1,h2⟩,by omega⟩,fun i hi=>?_⟩
 have wi:=h.wv _ (aq (l:=ws) (j:=i) hi)
 have li:=wi.pm.length_eq
 have wl:=wi.wl
 refine⟨⟨⟨by omega,B7 wi.pm h.pr⟩,?_⟩,fun k hk=>⟨?_,?_⟩⟩
 · by_cases c:i=0
   · exact .inl c
   · right
     rw[lL]
     have:=(List.pairwise_iff_getElem.1 h.up) (i-1) i (by omega) hi (by omega)
     rwa [← bF (aLc (by omega:i-1<ws.length)),←bF (aLc hi)]at this
 · exact gN.2 (w0.pm.symm.mem_iff.1 (wi.pm.mem_iff.1 (aq hk)))
 · exact wi.wv _ (aq (by omega))
theorem Ws{m:bu}{ws:List World}(h:zc m ⟨ws⟩=true):BV m (nth ws 0).tags ws:=by
 obtain⟨h1,h2,h3,h4,h5⟩:=mO h
 simp only at h1 h2 h3 h4 h5
 have p0:=(iI (h5 0 (by omega))).2.2.1
 refine⟨p0,h3,h4,fun x hx=>?_,?_⟩
 · obtain⟨i,hi⟩:=aLf.1 hx
   have il:=(aLe.1 hi).1
   obtain⟨w1,w2,w3,w4⟩:=iI (h5 i il)
   rw[bF hi]at w1 w2 w3 w4
   refine⟨pW (fX w3) (fX p0) w1 fun y hy=>?_,w2,fun w hw=>?_⟩
   · obtain⟨j,hj⟩:=aLf.1 hy
     have:=(w4 j (aLe.1 hj).1).1
     rwa [bF hj]at this
   · obtain⟨j,hj⟩:=aLf.1 hw
     have:=(w4 j (by rw[w1,←w2];exact(aLe.1 hj).1)).2
     rwa [bF hj]at this
 · have key:∀d i,i+d+1<ws.length→lexB (nth ws i).tags (nth ws (i+d+1)).tags=true:=by
    intro d
    induction d with
    | zero=>
      intro i hi
      have:=h5 (i+1) hi
      simp only[rC,aLr,Bool.or_eq_true,decide_eq_true_eq]at this
      have:=this.1.2
      rw[← lL]
      simpa using this
    | succ d ih=>
      intro i hi
      have a:=ih i (by omega)
      have:=h5 (i+(d+1)+1) hi
      simp only[rC,aLr,Bool.or_eq_true,decide_eq_true_eq]at this
      have b:=this.1.2.resolve_left (by omega)
      rw[lL,show i+(d+1)+1-1=i+d+1 by omega]at b
      exact lex_trans a b
   rw[List.pairwise_iff_getElem]
   intro i j hi hj hij
   have:=key (j-i-1) i (by omega)
   rw[show i+(j-i-1)+1=j by omega,bF (aLc hi),bF (aLc hj)]at this
   exact this
end Go.Ev
namespace Go.Ev.K
open Go.Ev
def fC:Fn:= { bq:=0,vars:=[0,1,2,3,4,5,6,7,8],body:=(q [x 0 (.b false)] [] (q [u (.ca N.iW 0 [] []),w 1 (.al [.nil,.nil] []),u (.st l0 l1 2 [])] [] (q [h 2 v1,u (.bs [.i 4,.i 9] 1),u (.bs [.i 0,.i 0] 1),u (.ca N.gL 0 [] [.l 2,.l 1,.l 0,.i 0]),m l0,u (.ex l0 0),u (.ex l1 1),w 2 (.al [.nil] []),u (.st l0 l2 1 []),x 3 l2] [] (q [h 2 v1,h 1 v2,u (.ca N.bD 0 [] [.l 1,.l 0,.i 0,.i 1,.i 0]),m l0,u (.ex l0 0),u (.ex l1 1),w 4 (.al [.nil] []),u (.st l0 l2 1 []),x 5 l2] [] (q [h 2 v1,h 1 v4,u (.bs [.i 1] 1),u (.ca N.gM 0 [] [.l 2,.l 1,.i 9,.l 0,.i 20,.i 20]),m l0,u (.ex l0 0),u (.ex l1 1),w 6 (.al [.nil] []),u (.st l0 l2 1 []),x 7 l2] [] (q [h 1 v6,u (.ca N.eo 0 [] [.l 0,.i 0,.i 20]),x 8 l0] [] (q [m v3,u (.bin .eql l0 (.i 0)),m l0,e 0 true v5,y 1 true (.bin .eql l0 (.i 0)),u (.pk l2 l0 (.b false)),m l0,e 0 true v7,y 1 true (.bin .eql l0 (.i 0)),u (.pk l2 l0 (.b false)),m l0,y 0 true (.fa v2 0),i 1 true l0,y 2 true (.ln l0),y 3 true (.bin .eql l0 (.i 1)),u (.pk l4 l0 (.b false)),m l0,y 0 true (.fa v4 0),i 1 true l0,y 2 true (.ln l0),y 3 true (.bin .eql l0 (.i 2)),u (.pk l4 l0 (.b false)),m l0,y 0 true (.fa v6 0),i 1 true l0,y 2 true (.ln l0),y 3 true (.bin .eql l0 (.i 2)),u (.pk l4 l0 (.b false)),m l0,e 0 true v8,y 1 true (.ln l0),y 2 true (.bin .eql l0 (.i 2)),u (.pk l3 l0 (.b false)),m l0,y 0 true (.ld v1 2 true),y 1 true (.ld v6 1 true),y 2 true (.ca N.dm 0 [] [.l 1,.l 0]),u (.pk l3 l0 (.b false)),x 0 l0] [] .ret))))))),res:=[(0,none)]}
def vU:C:= (.its [u (.bin .lss v13 v12)] [] 0 .skip (.exit 1) (.seq (.blk 2 (q [a 1 v11 v13,g l0,x 8 l0] [] (q [h 2 v4,m v8,m v3,u (.ca N.c8 0 [] [.l 2,.l 1,.l 0]),m l0,u (.ex l0 0),u (.ex l1 1),w 9 (.al [z0,.nil] []),u (.st l0 l2 2 []),x 10 l2] [] (.seq (.ite [m v10,u (.bin .neq l0 (.i 0))] [] 0 (q [u (.bd [.nil] []),m v10,u (.st v5 l1 1 []),x 6 l1] [] .ret) .skip) (.reg [f 1 v7,g l0,h 2 v9,u (.bs [.l 0] 2),u (.app l2 l0 true 2),f 1 v7,u (.st l0 l1 1 [])] []))))) (.reg [u (.bin .add v13 (.i 1)),x 13 l0] [])))
def wJ:C:= .loop true [0,1,2,6,8,9,10] K.vU
def gL:Fn:= { bq:=4,vars:=[0,1,2,3,4,8,9,10,12,13,14,41,42,43],body:=(q [w 4 (.bx v0 2),w 5 (.al [.nil] []),x 6 (.i 0)] [] (.seq (.blk 0 (.ite [h 2 v4,u (.ca N.dG 0 [] [.l 0]),u (.un .not l0),m l0,e 0 false v1,y 1 false (.ln l0),e 2 false v2,y 3 false (.ln l0),y 4 false (.bin .neq l2 l0),u (.pk l5 (.b true) l0),m l0,e 0 false v1,y 1 false (.ln l0),y 2 false (.ca N.cA 0 [] [.l 0,.i 1,.i 12]),y 3 false (.un .not l0),u (.pk l4 (.b true) l0),m l0] [] 0 (q [u (.bd [.nil] []),u (.st v5 l0 1 []),x 6 (.i 6)] [] .ret) (.ite [m v1,u (.ca N.dO 0 [] [.l 0]),u (.un .not l0),m l0] [] 0 (q [u (.bd [.nil] []),u (.st v5 l0 1 []),x 6 (.i 41)] [] .ret) .skip))) (q [m v1,u (.ca N.aB 0 [] [.l 0]),u (.bd [.nil,.nil] [(0,1,.l 0)]),w 7 (.al [.nil,.nil] [(1,2)]),u (.st l0 l1 2 [(1,2)])] [] (.seq (q [x 11 v2,w 12 (.ln l0),x 13 (.i 0)] [] (.blk 1 K.wJ)) (q [h 2 v7,u (.bs [.l 0] 2),u (.bd [.nil] [(0,1,.l 0)]),u (.st v5 l0 1 []),x 6 (.i 0)] [] .ret))))),res:=[(5,some (1,true)),(6,none)]}
def iW:Fn:= { bq:=0,vars:=[0],body:=(q [w 0 (.al [.nil,.nil] [])] [] (q [u (.bd [z0,z1] [(1,1,.b true)]),u (.bd [z0,z1] []),u (.bs [.l 1,.l 0] 2),u (.bd [z0,z0] [(0,1,.i 1),(1,1,.i 1)]),u (.bd [z0,z0,z0,z0,z1,z1,z0,z0,z0,z0] [(1,1,.i 1),(2,1,.i 12),(3,1,.i 1),(4,1,.b true),(6,2,.l 0)]),u (.bs [.l 0] 10),u (.bd [.nil,.nil] [(0,1,.l 3),(1,1,.l 0)]),u (.st v0 l0 2 [])] [] .ret)),res:=[(0,some (2,true))]}
def b6:C:= (.its [u (.bin .lss v21 (.i 2))] [] 0 .skip (.exit 3) (.seq (.blk 4 (q [u (.ix v20 v21 2 1 false),x 13 l0] [] (q [f 1 v12,g l0,m v13,a 2 l1 l0,h 2 l0,m v4,u (.ca N.dA 0 [] [.l 1,.l 0]),m l0,u (.ex l0 0),u (.ex l1 1),w 14 (.al [z0,.nil] []),u (.st l0 l2 2 []),x 15 l2] [] (.ite [m v15,u (.bin .eql l0 (.i 0))] [] 0 (.reg [f 1 v12,g l0,m v13,h 2 v14,a 2 l2 l1,u (.st l0 l1 2 [])] []) .skip)))) (.reg [u (.bin .add v21 (.i 1)),x 21 l0] [])))
def mQ:C:= .loop true [0,1,5,8,9,11,13,14,15,16] K.b6
def fk:C:= (.its [u (.bin .lss v19 v18)] [] 0 .skip (.exit 1) (.seq (.blk 2 (q [a 2 v17 v19,h 2 l0,w 11 (.al [.nil,.nil] []),u (.st l0 l1 2 [])] [] (.seq (.ite [f 1 v11,g l0,m v2,a 2 l1 l0,h 2 l0,f 1 v11,g l0,m v3,a 2 l1 l0,h 2 l0,m v4,u (.ca N.gw 0 [] [.l 6,.l 1,.l 0]),u (.un .not l0)] [] 0 (.exit 2) .skip) (q [h 2 v11,u (.ca N.cr 1 [] [.l 0]),w 12 (.al [.nil,.nil] []),u (.st l0 l1 2 [])] [] (q [f 0 v12,g l0,m v2,f 0 v12,g l0,m v3,f 0 v12,g l0,m v3,a 1 l1 l0,g l0,f 0 v12,g l0,m v2,a 1 l1 l0,g l0,a 1 (.l 14) (.l 13),u (.st l0 l6 1 []),a 1 (.l 13) (.l 12),u (.st l0 l3 1 [])] [(4,18)] (.seq (q [m v2,m v3,w 20 (.bd [z0,z0] [(0,1,.l 1),(1,1,.l 0)]),x 21 (.i 0)] [] (.blk 3 K.mQ)) (.reg [m v10,h 2 v12,u (.bs [.l 0] 2),u (.app l2 l0 true 2),x 10 l0] []))))))) (.reg [u (.bin .add v19 (.i 1)),x 19 l0] [])))
def mR:C:= .loop true [0,1,5,8,9,11,12,13,14,15,16,20,21] K.fk
def bD:Fn:= { bq:=5,vars:=[0,1,2,3,4,5,6,10,11,12,13,15,16,18,19,20,21,60,61,62,101,102],body:=(q [w 5 (.bx v0 2),w 6 (.bx v1 1),w 7 (.al [.nil] []),x 8 (.i 0)] [] (.seq (.ite [h 2 v5,h 1 v6,u (.ca N.dm 0 [] [.l 1,.l 0]),u (.un .not l0)] [] 0 (q [h 1 v6,u (.st v7 l0 1 []),x 8 (.i 6)] [] .ret) .skip) (q [f 0 v6,g l0,a 2 l0 (.i 0),f 0 l0,g l0,u (.ln l0),u (.bin .sub l0 (.i 1)),x 9 l0] [] (.seq (.blk 0 (.ite [m v2,m v9,u (.ca N.cA 0 [] [.l 1,.i 0,.l 0]),u (.un .not l0),m l0,e 0 false v3,e 1 false v9,y 2 false (.ca N.cA 0 [] [.l 1,.i 0,.l 0]),y 3 false (.un .not l0),u (.pk l4 (.b true) l0),m l0,e 0 false v2,e 1 false v3,y 2 false (.bin .eql l1 l0),u (.pk l3 (.b true) l0),m l0] [] 0 (q [h 1 v6,u (.st v7 l0 1 []),x 8 (.i 19)] [] .ret) (.ite [m v4,u (.ca N.cA 0 [] [.l 0,.i 0,.i 2147483648]),u (.un .not l0),m l0] [] 0 (q [h 1 v6,u (.st v7 l0 1 []),x 8 (.i 8)] [] .ret) .skip))) (q [f 0 v6,g l0,u (.ca N.aN 1 [] [.l 0]),x 10 l0] [] (.seq (q [f 0 v6,w 17 (.ld l0 1 false),w 18 (.ln l0),x 19 (.i 0)] [] (.blk 1 K.mR)) (q [m v10,u (.ca N.fD 0 [] [.l 0]),u (.bd [.nil] [(0,1,.l 0)]),w 16 (.al [.nil] []),u (.st l0 l1 1 [])] [] (.seq (.ite [f 0 v16,g l0,u (.ln l0),u (.bin .gtr l0 (.i 24))] [] 0 (q [h 1 v6,u (.st v7 l0 1 []),x 8 (.i 44)] [] .ret) .skip) (q [h 1 v16,u (.st v7 l0 1 []),x 8 (.i 0)] [] .ret))))))))),res:=[(7,some (1,true)),(8,none)]}
def gM:Fn:= { bq:=6,vars:=[0,1,2,3,4,5,6,7,9,10,11,12,13],body:=(q [w 6 (.bx v0 2),w 7 (.bx v1 1),w 8 (.bx v3 1),w 9 (.bx v4 1),w 10 (.bx v5 1),w 11 (.al [.nil] []),x 12 (.i 0)] [] (q [h 2 v6,h 1 v7,m v2,u (.mf N.b9 [.v 6,.v 8,.v 9,.v 10]),u (.ca N.dn 0 [] [.l 3,.l 2,.l 1,.l 0]),u (.ex l0 0),u (.ex l1 1),u (.st v11 l1 1 []),x 12 l1] [] .ret)),res:=[(11,some (1,true)),(12,none)]}
end Go.Ev.K
namespace Go.Ev
class iJ [Lib]:Prop where
 rI:Lib.fs N.fC=some K.fC
 rJ:Lib.fs N.gL=some K.gL
 tM:Lib.fs N.iW=some K.iW
 kn:Lib.fs N.bD=some K.bD
 qx:Lib.fs N.gM=some K.gM
namespace K
variable [Lib] [iJ]
theorem rI:Lib.fs N.fC=some K.fC:=iJ.rI
theorem rJ:Lib.fs N.gL=some K.gL:=iJ.rJ
theorem tM:Lib.fs N.iW=some K.iW:=iJ.tM
theorem kn:Lib.fs N.bD=some K.bD:=iJ.kn
theorem qx:Lib.fs N.gM=some K.gM:=iJ.qx
end K
end Go.Ev
namespace Go.Ev.K
open Go.Ev
def aN:Fn:= { bq:=1,vars:=[0,2],body:=(q [w 1 (.mv (.c (.nil)))] [] (.itk [m v0,u (.eqk (.sl) false l0 (.c (.nil)))] [] 0 (q [w 1 (.nw 2)] [] .ret) .skip (q [u (.bsr [] 2),m v0,u (.app l1 l0 false 2),x 1 l0] [] .ret))),res:=[(1,none)]}
def gw:Fn:= { bq:=3,vars:=[0,1,2,3,4,6,7],body:=(q [w 3 (.bx v0 2),w 4 (.bx v1 2),x 5 (.b false)] [] (q [h 2 v4,m v2,u (.ca N.b8 0 [] [.l 1,.l 0]),w 6 (.al [.nil] []),u (.st l0 l1 1 [])] [] (q [h 2 v3,m v2,u (.ca N.b8 0 [] [.l 1,.l 0]),u (.mf N.dB [.v 6]),u (.ca N.aD 0 [] [.l 1,.l 0]),x 5 l0] [] .ret))),res:=[(5,none)]}
def vV:C:= (.its [u (.bin .lss v7 v6)] [] 0 .skip (.exit 0) (.seq (.blk 1 (q [a 2 v5 v7,h 2 l0,w 4 (.al [z0,.nil] []),u (.st l0 l1 2 [])] [] (.reg [f 1 v3,g l0,f 0 v4,g l0,f 1 v4,g l0,u (.ca N.aB 0 [] [.l 0]),u (.bd [z0,.nil] [(0,1,.l 3),(1,1,.l 0)]),u (.bs [.l 0] 2),u (.app l7 l0 true 2),f 1 v3,u (.st l0 l1 1 [])] [(1,7),(1,9),(3,7)]))) (.reg [u (.bin .add v7 (.i 1)),x 7 l0] [])))
def wK:C:= .loop true [0,1,4] K.vV
def iG:Fn:= { bq:=1,vars:=[0,1,2,3,5,11,12,13],body:=(q [w 1 (.bx v0 2),w 2 (.al [.nil,.nil] [])] [] (q [f 0 v1,g l0,u (.ca N.aB 0 [] [.l 0]),u (.bd [.nil,.nil] [(0,1,.l 0)]),w 3 (.al [.nil,.nil] [(1,2)]),u (.st l0 l1 2 [(1,2)])] [] (.seq (q [f 1 v1,w 5 (.ld l0 1 false),w 6 (.ln l0),x 7 (.i 0)] [] (.blk 0 K.wK)) (q [h 2 v3,u (.st v2 l0 2 [])] [] .ret)))),res:=[(2,some (2,true))]}
def lf:C:= (.its [u (.bin .lss v11 v10)] [] 0 .skip (.exit 2) (.seq (.blk 3 (q [m v11,x 6 l0] [] (.reg [m v3,m v5,u (.bin .sub l0 (.i 1)),a 2 l2 l0,f 1 l0,g l0,m v6,m v3,m v5,u (.bin .sub l0 (.i 1)),a 2 l2 l0,f 1 l0,g l0,m v6,a 2 l1 l0,h 2 l0,f 1 v4,g l0,m v6,a 2 l1 l0,h 2 l0,u (.ca N.eG 0 [] [.l 5,.l 0]),m l0,u (.ex l0 0),u (.ex l1 1),a 2 (.l 19) (.l 18),u (.st l0 l2 2 [])] [(3,22),(5,22)]))) (.reg [u (.bin .add v11 (.i 1)),x 11 l0] [])))
def pX:C:= .loop false [0,1,2,6] K.lf
def fR:C:= (.its [u (.bin .lss v9 v8)] [] 0 .skip (.exit 0) (.seq (.blk 1 (q [a 2 v7 v9,h 2 l0,w 4 (.al [.nil,.nil] []),u (.st l0 l1 2 [])] [] (.seq (q [m v3,u (.ln l0),x 5 l0] [] (.ite [m v5,u (.bin .gtr l0 (.i 0)),m l0,e 0 true v3,e 1 true v5,y 2 true (.bin .sub l0 (.i 1)),y 3 true (.ia l2 l0 2),y 4 true (.fa l0 0),i 5 true l0,y 6 true (.fa v4 0),i 7 true l0,y 8 true (.ca N.aX 0 [] [.l 2,.l 0]),u (.pk l9 l0 (.b false))] [] 0 (.seq (q [f 1 v4,g l0,w 10 (.ln l0),x 11 (.i 0)] [] (.blk 2 K.pX)) (.exit 1)) .skip)) (.reg [m v3,h 2 v4,u (.ca N.cr 1 [] [.l 0]),u (.bsr [.l 0] 2),u (.app l3 l0 false 2),x 3 l0] [])))) (.reg [u (.bin .add v9 (.i 1)),x 9 l0] [])))
def pY:C:= .loop false [0,1,2,4,5,6,10,11] K.fR
def fD:Fn:= { bq:=1,vars:=[0,2,3,4,6,7,8,12,13,14,35,36],body:=(q [w 1 (.mv (.c (.nil)))] [] (q [m v0,u (.ca N.aJ 0 [] [.l 0]),u (.ca N.aI 0 [] [.l 0,.c (.fn N.a8 [])]),x 2 l0] [] (q [w 3 (.nw 2)] [] (.seq (q [x 7 v2,w 8 (.ln l0),x 9 (.i 0)] [] (.blk 0 K.pY)) (q [m v3,x 1 l0] [] .ret))))),res:=[(1,none)]}
def cM:C:= (.its [u (.bin .lss v16 v15)] [] 0 .skip (.exit 0) (.seq (.blk 1 (q [a 2 v14 v16,h 2 l0,w 9 (.al [.nil,.nil] []),u (.st l0 l1 2 [])] [] (q [f 0 v9,g l0,m v2,u (.ca N.bk 0 [] [.l 1,.l 0]),x 10 l0] [] (q [h 2 v9,u (.ca N.cr 1 [] [.l 0]),w 11 (.al [.nil,.nil] []),u (.st l0 l1 2 [])] [] (q [m v3,f 1 v11,g l0,m v10,a 2 l1 l0,h 2 l0,u (.cw l5 0 [] [.l 0]),m l0,u (.ex l0 0),u (.ex l1 1),w 12 (.al [z0,.nil] []),u (.st l0 l2 2 []),x 13 l2] [] (.seq (q [x 17 v13] [] (.blk 2 (.seq (q [u (.bin .eql v17 (.i 6)),x 18 l0] [] (.itv 18 .skip (.reg [u (.bin .eql v17 (.i 8)),x 18 l0] []))) (.itv 18 (q [h 1 v5,m v13,u (.st v6 l1 1 []),x 7 l1] [] .ret) (.ite [u (.bin .eql v17 (.i 43)),m l0] [] 0 (.exit 1) (.ite [u (.bin .eql v17 (.i 0)),m l0] [] 0 (.reg [f 1 v11,g l0,m v10,h 2 v12,a 2 l2 l1,u (.st l0 l1 2 [])] []) .skip)))))) (.reg [f 0 v8,g l0,h 2 v11,u (.bs [.l 0] 2),u (.app l2 l0 true 2),f 0 v8,u (.st l0 l1 1 [])] []))))))) (.reg [u (.bin .add v16 (.i 1)),x 16 l0] [])))
def mr:C:= .loop true [0,1,4,7,9,10,11,12,13,17,18] K.cM
def dn:Fn:= { bq:=4,vars:=[0,1,2,3,4,5,8,9,10,12,13,14,15,16,32,33,34,54,55],body:=(q [w 4 (.bx v0 2),w 5 (.bx v1 1),w 6 (.al [.nil] []),x 7 (.i 0)] [] (.seq (.ite [h 2 v4,h 1 v5,u (.ca N.dm 0 [] [.l 1,.l 0]),u (.un .not l0)] [] 0 (q [h 1 v5,u (.st v6 l0 1 []),x 7 (.i 6)] [] .ret) .skip) (.seq (.ite [f 0 v5,g l0,a 2 l0 (.i 0),f 0 l0,g l0,m v2,u (.ca N.aV 0 [] [.l 1,.l 0]),u (.un .not l0)] [] 0 (q [h 1 v5,u (.st v6 l0 1 []),x 7 (.i 41)] [] .ret) .skip) (q [w 8 (.al [.nil] [(0,2)])] [] (.seq (q [f 0 v5,w 14 (.ld l0 1 false),w 15 (.ln l0),x 16 (.i 0)] [] (.blk 0 K.mr)) (.seq (.ite [f 0 v8,g l0,u (.ln l0),u (.bin .eql l0 (.i 0))] [] 0 (q [h 1 v5,u (.st v6 l0 1 []),x 7 (.i 43)] [] .ret) .skip) (q [h 1 v8,u (.st v6 l0 1 []),x 7 (.i 0)] [] .ret))))))),res:=[(6,some (1,true)),(7,none)]}
def b9:Fn:= { bq:=5,vars:=[0,1,2,3,4,5,6,7],body:=(q [w 5 (.bx v0 2),w 6 (.al [z0,.nil] []),x 7 (.i 0)] [] (q [h 2 v1,h 2 v5,g v2,g v3,g v4,u (.ca N.eu 0 [] [.l 4,.l 3,.l 2,.l 1,.l 0]),u (.ex l0 0),u (.ex l1 1),u (.st v6 l1 2 []),x 7 l1] [] .ret)),res:=[(6,some (2,true)),(7,none)]}
def dB:Fn:= { bq:=2,vars:=[0,1,3],body:=(q [x 2 (.b false)] [] (q [g v1,m v0,u (.ca N.aV 0 [] [.l 1,.l 0]),x 2 l0] [] .ret)),res:=[(2,none)]}
def aI:Fn:= { bq:=2,vars:=[0,1,4,5],body:=(q [w 2 (.mv (.c (.nil)))] [] (q [m v0,u (.ca N.bw 1 [] [.l 0]),x 3 l0] [] (q [m v3,m v1,u (.ca N.aA 0 [0] [.l 1,.l 0])] [] (q [m v3,x 2 l0] [] .ret)))),res:=[(2,none)]}
def aJ:Fn:= { bq:=1,vars:=[0,1,2],body:=(q [w 1 (.bx v0 1),w 2 (.mv (.c (.und)))] [] (q [u (.mf N.av [.v 1]),x 2 l0] [] .ret)),res:=[(2,none)]}
def a8:Fn:= { bq:=2,vars:=[0,1,2,3,4],body:=(q [w 2 (.bx v0 2),w 3 (.bx v1 2),x 4 (.i 0)] [] (q [f 0 v2,g l0,f 0 v3,g l0,u (.ca N.aU 0 [] [.l 2,.l 0]),x 4 l0] [] .ret)),res:=[(4,none)]}
def bw:Fn:= { bq:=1,vars:=[2],body:= .fail,res:=[(0,none)],prim:=[3,N.av]}
def aA:Fn:= { bq:=2,vars:=[0,1],body:=(.reg [m v0,m v0,u (.ln l0),m v1,u (.ca N.aQ 0 [0] [.l 3,.l 1,.l 0])] []),res:=[]}
def gO:C:= (.its [u (.bin .lss v5 v4)] [] 0 .skip (.exit 0) (.seq (.blk 1 (q [a 2 v3 v5,h 2 l0,w 2 (.al [.nil,.nil] []),u (.st l0 l1 2 [])] [] (.ite [m v0,h 2 v2,u (.cw l1 0 [] [.l 0]),u (.un .not l0)] [] 0 .ret .skip))) (.reg [u (.bin .add v5 (.i 1)),x 5 l0] [])))
def gS:C:= .loop true [1,2] K.gO
def av:Fn:= { bq:=2,vars:=[0,1,4,5,6,7],body:=(q [w 3 (.ld v1 1 false),w 4 (.ln l0),x 5 (.i 0)] [] (.blk 0 K.gS)),res:=[]}
def eQ:C:= (.seq (.ite [m v5,m v1,u (.bin .leq l1 l0)] [] 0 .skip (.exit 0)) (.blk 1 (q [m v0,m v4,m v5,m v2,u (.ca N.az 0 [0] [.l 3,.l 2,.l 1,.l 0])] [] (q [m v5,x 4 l0] [] (.reg [m v5,m v3,u (.bin .add l1 l0),x 5 l0] [])))))
def fm:C:= .loop true [6] K.eQ
def i4:C:= (.seq (.ite [m v5,m v1,u (.bin .leq l1 l0)] [] 0 .skip (.exit 4)) (.blk 5 (q [m v0,m v4,m v4,m v3,u (.bin .add l1 l0),m v5,m v2,u (.ca N.aG 0 [0] [.l 6,.l 5,.l 2,.l 1,.l 0])] [] (q [m v5,x 4 l0] [] (.reg [m v5,m v3,u (.bin .mul (.i 2) l0),u (.bin .add l2 l0),x 5 l0] [])))))
def ju:C:= .loop true [6] K.i4
def eR:C:= (.seq (.ite [m v3,m v1,u (.bin .lss l1 l0)] [] 0 .skip (.exit 2)) (.blk 3 (q [m v3,u (.bin .mul (.i 2) l0),x 4 (.i 0),x 5 l1] [] (.seq (.blk 4 K.ju) (.seq (q [m v4,m v3,u (.bin .add l1 l0),x 6 l0] [] (.ite [m v6,m v1,u (.bin .lss l1 l0)] [] 0 (.reg [m v0,m v4,m v6,m v1,m v2,u (.ca N.aG 0 [0] [.l 4,.l 3,.l 2,.l 1,.l 0])] []) .skip)) (.reg [m v3,u (.bin .mul l0 (.i 2)),x 3 l0] []))))))
def fo:C:= .loop true [4,5,6] K.eR
def aQ:Fn:= { bq:=3,vars:=[0,1,2,6,7,8,9],body:=(q [x 3 (.i 20)] [] (q [m v3,x 4 (.i 0),x 5 l1] [] (.seq (.blk 0 K.fm) (q [m v0,m v4,m v1,m v2,u (.ca N.az 0 [0] [.l 3,.l 2,.l 1,.l 0])] [] (.blk 2 K.fo))))),res:=[]}
def aO:C:= (.seq (.ite [m v5,m v1,u (.bin .gtr l1 l0),m l0,e 0 true v3,e 1 true v0,e 2 true v5,y 3 true (.ia l1 l0 2),y 4 true (.ld l0 2 true),e 5 true v0,e 6 true v5,y 7 true (.bin .sub l0 (.i 1)),y 8 true (.ia l2 l0 2),y 9 true (.ld l0 2 true),y 10 true (.cw l9 0 [] [.l 5,.l 0]),y 11 true (.bin .lss l0 (.i 0)),u (.pk (.l 12) l0 (.b false))] [] 0 .skip (.exit 2)) (.seq (.blk 3 (.reg [m v0,m v5,m v0,m v5,u (.bin .sub l0 (.i 1)),m v0,m v5,u (.bin .sub l0 (.i 1)),a 2 l2 l0,h 2 l0,m v0,m v5,a 2 l1 l0,h 2 l0,a 2 (.l 13) (.l 12),u (.st l0 l5 2 []),a 2 (.l 13) l11,u (.st l0 l3 2 [])] [])) (.reg [m v5,u (.bin .sub l0 (.i 1)),x 5 l0] [])))
def dJ:C:= .loop true [] K.aO
def aW:C:= (.seq (.ite [m v4,m v2,u (.bin .lss l1 l0)] [] 0 .skip (.exit 0)) (.seq (.blk 1 (q [m v4,x 5 l0] [] (.blk 2 K.dJ))) (.reg [m v4,u (.bin .add l0 (.i 1)),x 4 l0] [])))
def b7:C:= .loop true [5] K.aW
def az:Fn:= { bq:=4,vars:=[0,1,2,3,8,9],body:=(q [m v1,u (.bin .add l0 (.i 1)),x 4 l0] [] (.blk 0 K.b7)),res:=[]}
def iu:C:= (.seq (.ite [m v5,m v6,u (.bin .lss l1 l0)] [] 0 .skip (.exit 0)) (.blk 1 (q [m v5,m v6,u (.bin .add l1 l0),u (.cv .u64 l0),u (.bin .shr l0 (.c (.t (.int .u64 (1))))),u (.cv .i64 l0),x 7 l0] [] (.ite [m v4,m v0,m v7,a 2 l1 l0,h 2 l0,m v0,m v1,a 2 l1 l0,h 2 l0,u (.cw l8 0 [] [.l 4,.l 0]),u (.bin .lss l0 (.i 0))] [] 0 (.reg [m v7,u (.bin .add l0 (.i 1)),x 5 l0] []) (.reg [m v7,x 6 l0] [])))))
def iK:C:= .loop true [2,3,7,8,9,10,11,12,13,14,15,16,17,18,19] K.iu
def iv:C:= (.seq (.ite [m v8,m v5,u (.bin .sub l0 (.i 1)),u (.bin .lss l2 l0)] [] 0 .skip (.exit 2)) (.seq (.blk 3 (.reg [m v0,m v8,m v0,m v8,u (.bin .add l0 (.i 1)),m v0,m v8,u (.bin .add l0 (.i 1)),a 2 l2 l0,h 2 l0,m v0,m v8,a 2 l1 l0,h 2 l0,a 2 (.l 13) (.l 12),u (.st l0 l5 2 []),a 2 (.l 13) l11,u (.st l0 l3 2 [])] [])) (.reg [m v8,u (.bin .add l0 (.i 1)),x 8 l0] [])))
def iL:C:= .loop true [1,2,3,4,6,7,9,10,11,12,13,14,15,16,17,18,19] K.iv
def iw:C:= (.seq (.ite [m v9,m v10,u (.bin .lss l1 l0)] [] 0 .skip (.exit 4)) (.blk 5 (q [m v9,m v10,u (.bin .add l1 l0),u (.cv .u64 l0),u (.bin .shr l0 (.c (.t (.int .u64 (1))))),u (.cv .i64 l0),x 11 l0] [] (.ite [m v4,m v0,m v2,a 2 l1 l0,h 2 l0,m v0,m v11,a 2 l1 l0,h 2 l0,u (.cw l8 0 [] [.l 4,.l 0]),u (.bin .lss l0 (.i 0)),u (.un .not l0)] [] 0 (.reg [m v11,u (.bin .add l0 (.i 1)),x 9 l0] []) (.reg [m v11,x 10 l0] [])))))
def iM:C:= .loop true [1,3,5,6,7,8,11,12,13,14,15,16,17,18,19] K.iw
def iy:C:= (.seq (.ite [m v12,m v9,u (.bin .gtr l1 l0)] [] 0 .skip (.exit 6)) (.seq (.blk 7 (.reg [m v0,m v12,m v0,m v12,u (.bin .sub l0 (.i 1)),m v0,m v12,u (.bin .sub l0 (.i 1)),a 2 l2 l0,h 2 l0,m v0,m v12,a 2 l1 l0,h 2 l0,a 2 (.l 13) (.l 12),u (.st l0 l5 2 []),a 2 (.l 13) l11,u (.st l0 l3 2 [])] [])) (.reg [m v12,u (.bin .sub l0 (.i 1)),x 12 l0] [])))
def iN:C:= .loop true [1,2,3,4,5,6,7,8,10,11,13,14,15,16,17,18,19] K.iy
def iz:C:= (.seq (.ite [m v15,m v16,u (.bin .lss l1 l0)] [] 0 .skip (.exit 8)) (.blk 9 (q [m v15,m v16,u (.bin .add l1 l0),u (.cv .u64 l0),u (.bin .shr l0 (.c (.t (.int .u64 (1))))),u (.cv .i64 l0),x 18 l0] [] (.ite [m v4,m v0,m v17,m v18,u (.bin .sub l1 l0),a 2 l3 l0,h 2 l0,m v0,m v18,a 2 l1 l0,h 2 l0,u (.cw l10 0 [] [.l 4,.l 0]),u (.bin .lss l0 (.i 0)),u (.un .not l0)] [] 0 (.reg [m v18,u (.bin .add l0 (.i 1)),x 15 l0] []) (.reg [m v18,x 16 l0] [])))))
def iP:C:= .loop true [5,6,7,8,9,10,11,12,18,19] K.iz
def aG:Fn:= { bq:=5,vars:=[0,1,2,3,4,10,11,12,13,14,15,16,17,18,19,20,21,22,23,24],body:=(.seq (.ite [m v2,m v1,u (.bin .sub l1 l0),u (.bin .eql l0 (.i 1))] [] 0 (q [m v2,x 5 l0] [] (q [m v3,x 6 l0] [] (.seq (.blk 0 K.iK) (.seq (q [m v1,x 8 l0] [] (.blk 2 K.iL)) .ret)))) .skip) (.seq (.ite [m v3,m v2,u (.bin .sub l1 l0),u (.bin .eql l0 (.i 1))] [] 0 (q [m v1,x 9 l0] [] (q [m v2,x 10 l0] [] (.seq (.blk 4 K.iM) (.seq (q [m v2,x 12 l0] [] (.blk 6 K.iN)) .ret)))) .skip) (q [m v1,m v3,u (.bin .add l1 l0),u (.cv .u64 l0),u (.bin .shr l0 (.c (.t (.int .u64 (1))))),u (.cv .i64 l0),x 13 l0] [] (q [m v13,m v2,u (.bin .add l1 l0),x 14 l0] [] (q [x 15 (.i 0),x 16 (.i 0)] [] (.seq (.ite [m v2,m v13,u (.bin .gtr l1 l0)] [] 0 (q [m v14,m v3,u (.bin .sub l1 l0),x 15 l0] [] (.reg [m v13,x 16 l0] [])) (q [m v1,x 15 l0] [] (.reg [m v2,x 16 l0] []))) (q [m v14,u (.bin .sub l0 (.i 1)),x 17 l0] [] (.seq (.blk 8 K.iP) (q [m v14,m v15,u (.bin .sub l1 l0),x 19 l0] [] (.seq (.ite [m v15,m v2,u (.bin .lss l1 l0),m l0,e 0 true v2,e 1 true v19,y 2 true (.bin .lss l1 l0),u (.pk l3 l0 (.b false))] [] 0 (.reg [m v0,m v15,m v2,m v19,m v4,u (.ca N.a7 0 [0] [.l 4,.l 3,.l 2,.l 1,.l 0])] []) .skip) (.seq (.ite [m v1,m v15,u (.bin .lss l1 l0),m l0,e 0 true v15,e 1 true v13,y 2 true (.bin .lss l1 l0),u (.pk l3 l0 (.b false))] [] 0 (.reg [m v0,m v1,m v15,m v13,m v4,u (.ca N.aG 0 [0] [.l 4,.l 3,.l 2,.l 1,.l 0])] []) .skip) (.ite [m v13,m v19,u (.bin .lss l1 l0),m l0,e 0 true v19,e 1 true v3,y 2 true (.bin .lss l1 l0),u (.pk l3 l0 (.b false))] [] 0 (.reg [m v0,m v13,m v19,m v3,m v4,u (.ca N.aG 0 [0] [.l 4,.l 3,.l 2,.l 1,.l 0])] []) .skip)))))))))))),res:=[]}
def i5:C:= (.seq (.ite [m v5,m v6,u (.bin .neq l1 l0)] [] 0 .skip (.exit 0)) (.blk 1 (.ite [m v5,m v6,u (.bin .gtr l1 l0)] [] 0 (q [m v0,m v2,m v5,u (.bin .sub l1 l0),m v2,m v6,m v4,u (.ca N.aK 0 [0] [.l 6,.l 3,.l 2,.l 1,.l 0])] [] (.reg [m v5,m v6,u (.bin .sub l1 l0),x 5 l0] [])) (q [m v0,m v2,m v5,u (.bin .sub l1 l0),m v2,m v6,u (.bin .add l1 l0),m v5,u (.bin .sub l1 l0),m v5,m v4,u (.ca N.aK 0 [0] [.l 10,.l 7,.l 2,.l 1,.l 0])] [] (.reg [m v6,m v5,u (.bin .sub l1 l0),x 6 l0] [])))))
def jv:C:= .loop true [1,3] K.i5
def a7:Fn:= { bq:=5,vars:=[0,1,2,3,4,10,11],body:=(q [m v2,m v1,u (.bin .sub l1 l0),x 5 l0] [] (q [m v3,m v2,u (.bin .sub l1 l0),x 6 l0] [] (.seq (.blk 0 K.jv) (.reg [m v0,m v2,m v5,u (.bin .sub l1 l0),m v2,m v5,m v4,u (.ca N.aK 0 [0] [.l 6,.l 3,.l 2,.l 1,.l 0])] [])))),res:=[]}
def hU:C:= (.seq (.ite [m v4,m v3,u (.bin .lss l1 l0)] [] 0 .skip (.exit 0)) (.seq (.blk 1 (.reg [m v0,m v1,m v4,u (.bin .add l1 l0),m v0,m v2,m v4,u (.bin .add l1 l0),m v0,m v2,m v4,u (.bin .add l1 l0),a 2 l3 l0,h 2 l0,m v0,m v1,m v4,u (.bin .add l1 l0),a 2 l3 l0,h 2 l0,a 2 (.l 19) (.l 16),u (.st l0 l7 2 []),a 2 (.l 17) (.l 14),u (.st l0 l3 2 [])] [])) (.reg [m v4,u (.bin .add l0 (.i 1)),x 4 l0] [])))
def iA:C:= .loop true [] K.hU
def aK:Fn:= { bq:=5,vars:=[0,1,2,3,10],body:=(q [x 4 (.i 0)] [] (.blk 0 K.iA)),res:=[]}
def jw:C:= (.its [u (.bin .lss v7 v6)] [] 0 .skip (.exit 0) (.seq (.blk 1 (q [a 2 v5 v7,h 2 l0,w 4 (.al [z0,.nil] []),u (.st l0 l1 2 [])] [] (.reg [f 1 v3,g l0,f 0 v4,g l0,f 1 v4,g l0,u (.ca N.aB 1 [] [.l 0]),u (.bd [z0,.nil] [(0,1,.l 3),(1,1,.l 0)]),u (.bs [.l 0] 2),u (.app l7 l0 true 2),f 1 v3,u (.st l0 l1 1 [])] [(1,7),(1,9),(3,7)]))) (.reg [u (.bin .add v7 (.i 1)),x 7 l0] [])))
def mS:C:= .loop true [0,1,4] K.jw
def cr:Fn:= { bq:=1,vars:=[0,1,2,3,5,11,12,13],body:=(q [w 1 (.bx v0 2),w 2 (.al [.nil,.nil] [])] [] (q [f 0 v1,g l0,u (.ca N.aB 1 [] [.l 0]),u (.bd [.nil,.nil] [(0,1,.l 0)]),w 3 (.al [.nil,.nil] [(1,2)]),u (.st l0 l1 2 [(1,2)])] [] (.seq (q [f 1 v1,w 5 (.ld l0 1 false),w 6 (.ln l0),x 7 (.i 0)] [] (.blk 0 K.mS)) (q [h 2 v3,u (.st v2 l0 2 [])] [] .ret)))),res:=[(2,some (2,true))]}
end Go.Ev.K
namespace Go.Ev
class eW [Lib]:Prop where
 de:Lib.fs N.aN=some K.aN
 o4:Lib.fs N.gw=some K.gw
 rK:Lib.fs N.iG=some K.iG
 nW:Lib.fs N.fD=some K.fD
 nX:Lib.fs N.dn=some K.dn
 nY:Lib.fs N.b9=some K.b9
 mu:Lib.fs N.dB=some K.dB
 cV:Lib.fs N.aI=some K.aI
 cW:Lib.fs N.aJ=some K.aJ
 lg:Lib.fs N.a8=some K.a8
 eX:Lib.fs N.bw=some K.bw
 bS:Lib.fs N.aA=some K.aA
 ee:Lib.fs N.av=some K.av
 dC:Lib.fs N.aQ=some K.aQ
 bM:Lib.fs N.az=some K.az
 eS:Lib.fs N.aG=some K.aG
 fE:Lib.fs N.a7=some K.a7
 eH:Lib.fs N.aK=some K.aK
 ko:Lib.fs N.cr=some K.cr
namespace K
variable [Lib] [eW]
theorem de:Lib.fs N.aN=some K.aN:=eW.de
theorem o4:Lib.fs N.gw=some K.gw:=eW.o4
theorem rK:Lib.fs N.iG=some K.iG:=eW.rK
theorem nW:Lib.fs N.fD=some K.fD:=eW.nW
theorem nX:Lib.fs N.dn=some K.dn:=eW.nX
theorem nY:Lib.fs N.b9=some K.b9:=eW.nY
theorem mu:Lib.fs N.dB=some K.dB:=eW.mu
theorem cV:Lib.fs N.aI=some K.aI:=eW.cV
theorem cW:Lib.fs N.aJ=some K.aJ:=eW.cW
theorem lg:Lib.fs N.a8=some K.a8:=eW.lg
theorem eX:Lib.fs N.bw=some K.bw:=eW.eX
theorem bS:Lib.fs N.aA=some K.aA:=eW.bS
theorem ee:Lib.fs N.av=some K.av:=eW.ee
theorem dC:Lib.fs N.aQ=some K.aQ:=eW.dC
theorem bM:Lib.fs N.az=some K.az:=eW.bM
theorem eS:Lib.fs N.aG=some K.aG:=eW.eS
theorem fE:Lib.fs N.a7=some K.a7:=eW.fE
theorem eH:Lib.fs N.aK=some K.aK:=eW.eH
theorem ko:Lib.fs N.cr=some K.cr:=eW.ko
end K
end Go.Ev
namespace Go.Ev
open Go
variable [Lib] [cu] [b0] [gk] [gl] [jz] [fG] [fH] [gX] [fT] [eV] [dZ] [iJ] [eW]
theorem Ez(x:World)(h:x.sz):∀z0 z1 z4:D,exS bh K.mS ⟨[z0,z1,.bp 1 0,.bp 3 0,z4,.t (.sl (x.whr.map Wh.e)),I x.whr.length,I 0],[.box [.t (tL x.tags),.t (.sl (x.whr.map Wh.e))],.box [.nil,.nil],yC x.tags,.box [.ref 2 0 x.tags.length,.ref 5 0 0],.arr 2 false 0 [],.arr 2 false 0 []]⟩=
 some (.exit 0,⟨[.und,.und,.bp 1 0,.bp 3 0,.und,.t (.sl (x.whr.map Wh.e)),I x.whr.length,I x.whr.length],[.box [.t (tL x.tags),.t (.sl (x.whr.map Wh.e))],.box [.nil,.nil],yC x.tags,.box [.ref 2 0 x.tags.length,.ref 5 0 x.whr.length],.arr 2 false 0 [],.arr 2 false 0 ((x.whr.map Wh.e).map .t)]⟩):=by
 intro z0 z1 z4
 obtain⟨tags,whr⟩:=x
 obtain⟨h1,h2,h3⟩:=h
 simp only at h1 h2 h3 ⊢
 have tk:whr.take whr.length=whr:=by simp
 refine fP (fun j=>⟨[.und,.und,.bp 1 0,.bp 3 0,.und,.t (.sl (whr.map Wh.e)),I whr.length,I j],[.box [.t (tL tags),.t (.sl (whr.map Wh.e))],.box [.nil,.nil],yC tags,.box [.ref 2 0 tags.length,.ref 5 0 (whr.take j).length],.arr 2 false 0 [],.arr 2 false 0 (((whr.take j).map Wh.e).map .t)]⟩) whr.length rfl ?_ ?_ (by simp)
 · intro j hj
   have c:=vI (nth whr j).frm (h3 _ (aq hj))
   have ex:(whr.map Wh.e)[j]?=some (nth whr j).e:=fB _ hj
   have lt:(whr.take j).length=j:=by rw[List.length_take];omega
   have tk:whr.take (j+1)=whr.take j++[nth whr j]:=lF hj
   generalize nth whr j=w at*
   generalize whr.take j=pre at*
   obtain⟨time,frm⟩:=w
   simp only[yC]at*
   simp(disch:=omega)only[go_sem,K.jw,↓reduceIte,ex,c,lt,tk,List.map_append,List.map_cons,List.map_nil,aLv,List.length_cons,List.length_nil,reduceAdd,reduceSub]
 · simp only[yC]
   simp(disch:=omega)only[go_sem,K.jw,↓reduceIte,tk,reduceAdd,reduceSub]
theorem yM(x:World)(h:x.sz):bh 1 N.cr [.t x.e] []=some (.agg [.ref 0 0 x.tags.length,.ref 1 0 x.whr.length],[.arr 1 false 0 ((x.tags.map (T.int .i64)).map .t),.arr 2 false 0 ((x.whr.map Wh.e).map .t)]):=by
 refine aE K.ko rfl ?_
 have loop:=Ez x h
 have c:=vI x.tags h.1
 obtain⟨tags,whr⟩:=x
 obtain⟨h1,h2,h3⟩:=h
 simp only[yC]at h1 h2 h3 loop c ⊢
 simp(disch:=omega)only[go_sem,K.cr,↓reduceIte,loop,c,reduceAdd,reduceSub]
abbrev tW(l:List World):Obj:= .arr 2 false 0 ((l.map World.e).map .t)
theorem EA(l:List World):bh 0 N.aJ [.t (.sl (l.map World.e))] []=some (.fn N.av [.bp 0 0],[.box [.t (.sl (l.map World.e))]]):=by
 refine aE K.cW rfl ?_
 simp(disch:=omega)only[go_sem,K.aJ,↓reduceIte,reduceAdd,reduceSub]
theorem B8(l:List World)(h0:0<l.length)(hl:l.length≤1000000):bh 1 N.bw [.fn N.av [.bp 0 0]] [.box [.t (.sl (l.map World.e))]]=some (.ref 1 0 l.length,[.box [.t (.sl (l.map World.e))],tW l]):=by
 refine vt K.eX (by decide) ?_
 show p4 [3,N.av] _ _=_
 have e:(l.map World.e).all DN=true:=by
  rw[aLx]
  intro x hx
  obtain⟨w, -,rfl⟩:=List.mem_map.1 hx
  rfl
 have ne:(l.map World.e).isEmpty=false:=by
  cases l with
  | nil=>simp at h0
  | cons=>rfl
 simp only[p4,if_true,List.getElem?_cons_zero,e,and_true,List.length_map,ne,aLt,if_false]
 rw[if_pos (by unfold lim;omega)]
 rfl
theorem EB(a b:World)(ha:a.sz)(hb:b.sz):bh 0 N.a8 [.t a.e,.t b.e] []=some (I (Kb a.tags b.tags),[]):=by
 refine aE K.lg rfl ?_
 have c:=xH a.tags b.tags ha.1 hb.1
 obtain⟨t1,w1⟩:=a
 obtain⟨t2,w2⟩:=b
 simp only at*
 simp(disch:=omega)only[go_sem,K.a8,↓reduceIte,c,reduceAdd,reduceSub]
abbrev B9(l:List World):Prop:=l.Pairwise fun x y=>lexB y.tags x.tags=false
theorem PX(a b:List Int):Kb a b<0↔lexB a b=true:=by
 rw[← lL,←AA];simp
abbrev isS(l:List World)(b i:Int)(j:D):St:=⟨[.ref 0 0 l.length,I 0,I b,.fn N.a8 [],I i,j],[tW l]⟩
theorem Hy{p:List World}{x:World}{r:List World}{j:Nat}(h:p.length=j):nth (p++x::r) j=x:=bF (by rw[aLh (by omega),h,Nat.sub_self];rfl)
theorem PY{α:Type}{p:List α}{y x a c:α}{r:List α}{j:Nat}(h:p.length=j):((p++y::x::r).set (j+1) a).set j c=p++c::a::r:=by
 rw[List.set_append_right _ _ (by omega),h,show j+1-j=1 by omega,List.set_append_right _ _ (by omega),h,Nat.sub_self]
 rfl
def ad2(b i:Int)(l0 rest:List World)(x:World)(k:Nat)(st:St):Prop:=
 ∃p q,st=isS (p++x::(q++rest)) b i (I ((p.length:Nat):Int))∧p.length+k=l0.length∧p++q=l0∧(∀y∈q,lexB x.tags y.tags=true)
theorem Kh(b i:Int)(p r:List World)(y x:World)(hx:x.sz)(hy:y.sz)(hl:(p++y::x::r).length≤1000):
 (lexB x.tags y.tags=true→eP true [] 1 (exS bh K.aO (isS (p++y::x::r) b i (I ((p.length+1:Nat):Int))))=some (isS (p++x::y::r) b i (I ((p.length:Nat):Int))))∧
 (lexB x.tags y.tags=false→exS bh K.aO (isS (p++y::x::r) b i (I ((p.length+1:Nat):Int)))=some (.exit 2,isS (p++y::x::r) b i (I ((p.length+1:Nat):Int)))):=by
 have c:=EB x y hx hy
 have cl:=PX x.tags y.tags
 obtain⟨n,hn⟩:∃n,p.length=n:=⟨_,rfl⟩
 have n1:nth (p++y::x::r) (n+1)=x:=by
  have:=Hy (p:=p++[y]) (x:=x) (r:=r) (j:=n+1) (by simp[hn])
  rwa [List.append_assoc]at this
 have n0:nth (p++y::x::r) n=y:=Hy hn
 have st:((((p++y::x::r).map World.e).map D.t).set (n+1) (D.t y.e)).set n (D.t x.e)=(((p++x::y::r).map World.e).map D.t):=by
  simp only[List.map_append,List.map_cons]
  exact PY (by simp[hn])
 have ln:(p++y::x::r).length=(p++x::y::r).length:=by simp
 have lt:n+1<(p++y::x::r).length:=by simp[hn]
 rw[hn]
 have gs:∀v,((((p++y::x::r).map World.e).map D.t).set (n+1) v)[n]?=some (D.t y.e):=fun v=>by
  rw[aLi (by omega),aLn,aLn,iD (by omega),n0];rfl
 simp only[isS,tW]
 rw[← ln]
 generalize (p++x::y::r)=L2 at*
 generalize (p++y::x::r)=L at*
 generalize Kb x.tags y.tags=v at*
 obtain⟨t1,w1⟩:=x
 obtain⟨t2,w2⟩:=y
 simp only at*
 constructor
 · intro h
   have v0:=cl.2 h
   simp(disch:=omega)only[go_sem,K.aO,↓reduceIte,n1,n0,c,gs,st,reduceAdd,reduceSub]
 · intro h
   have v0:¬v<0:=fun e=>by rw[cl.1 e]at h;cases h
   simp(disch:=omega)only[go_sem,K.aO,↓reduceIte,n1,n0,c,reduceAdd,reduceSub]
theorem PZ{p q:List World}{x:World}(hs:B9 (p++q))(hq:∀y∈q,lexB x.tags y.tags=true)(hp:∀y∈p,lexB x.tags y.tags=false):B9 (p++x::q):=by
 simp only[B9,List.pairwise_append]at hs ⊢
 refine⟨hs.1,?_,fun a ha c hc=>?_⟩
 · rw[List.pairwise_cons]
   refine⟨fun y hy=>?_,hs.2.1⟩
   cases h:lexB y.tags x.tags with
   | false=>rfl
   | true=>have:=lex_trans h (hq y hy);rw[lex_irrefl]at this;cases this
 · rcases List.mem_cons.1 hc with rfl | hc
   · exact hp a ha
   · exact hs.2.2 a ha c hc
theorem Ki(b i:Int)(l0 rest:List World)(x:World)(hs:B9 l0)(hz:∀w∈l0++x::rest,w.sz)(hl:(l0++x::rest).length≤1000):
 ∃(l1:List World) (z:D),exS bh K.dJ (isS (l0++x::rest) b i (I ((l0.length:Nat):Int)))=some (.exit 2,isS (l1++rest) b i z)∧l1.Perm (l0++[x])∧B9 l1:=by
 have fin:∀p q,p++q=l0→(∀y∈q,lexB x.tags y.tags=true)→(∀y∈p,lexB x.tags y.tags=false)→(p++x::q).Perm (l0++[x])∧B9 (p++x::q):=by
  intro p q e hq hp
  subst e
  refine⟨?_,PZ hs hq hp⟩
  rw[List.append_assoc]
  exact List.Perm.append_left _ (List.perm_append_comm (l₁:=[x]))
 have key:=Hm (gc:=true) (dead:=[]) (c:=K.aO) (vs:=[.ref 0 0 (l0++x::rest).length,I 0,I b,.fn N.a8 [],I i,I ((l0.length:Nat):Int)]) (H:=[tW (l0++x::rest)])
  (ad2 b i l0 rest x) l0.length (fun r=>∃(l1:List World) (z:D),r=(.exit 2,isS (l1++rest) b i z)∧l1.Perm (l0++[x])∧B9 l1) ?_ ?_ ?_
 · obtain⟨r,h,l1,z,rfl,a,c⟩:=key
   exact⟨l1,z,h,a,c⟩
 · exact⟨l0,[],rfl,by omega,by simp,fun y hy=>by cases hy⟩
 · rintro j st hj ⟨p,q,rfl,h1,h2,h3⟩
   obtain⟨p',y,rfl⟩:∃p' y,p=p'++[y]:=⟨p.dropLast,p.getLast (fun e=>by subst e;simp at h1;omega),(List.dropLast_concat_getLast _).symm⟩
   subst h2
   have hz':∀w∈p'++[y]++q++x::rest,w.sz:=hz
   have e1:p'++[y]++x::(q++rest)=p'++y::x::(q++rest):=by simp
   have e2:(p'++[y]).length=p'.length+1:=by simp
   rw[e1,e2]
   have st:=Kh b i p' (q++rest) y x (hz' x (by simp)) (hz' y (by simp)) (by simp at hl ⊢;omega)
   cases hc:lexB x.tags y.tags with
   | true=>
     refine .inl ⟨_,st.1 hc,p',y::q,by simp[isS],by simp at h1 ⊢;omega,by simp,fun w hw=>?_⟩
     rcases List.mem_cons.1 hw with rfl | hw
     · exact hc
     · exact h3 w hw
   | false=>
     refine .inr ⟨_,st.2 hc,by simp,p'++[y]++x::q,I ((p'.length+1:Nat):Int),by simp[isS],?_⟩
     refine fin (p'++[y]) q rfl h3 fun w hw=>?_
     rcases List.mem_append.1 hw with hw | hw
     · cases h:lexB x.tags w.tags with
       | false=>rfl
       | true=>
         have hwy:lexB y.tags w.tags=false:=by
          simp only[B9,List.pairwise_append]at hs
          exact hs.1.2.2 w hw y (by simp)
         rcases kZ y.tags x.tags with a | a | a
         · rw[lex_trans a h]at hwy;cases hwy
         · rw[a,h]at hwy;cases hwy
         · rw[a]at hc;cases hc
     · rw[List.mem_singleton.1 hw];exact hc
 · rintro st ⟨p,q,rfl,h1,h2,h3⟩
   have p0:p=[]:=List.eq_nil_of_length_eq_zero (by omega)
   subst p0
   simp only[List.nil_append]at h2
   subst h2
   refine⟨(.exit 2,isS (x::(q++rest)) b i (I 0)),?_,by simp,x::q,I 0,rfl,fin [] q rfl h3 (fun y hy=>by cases hy)⟩
   simp only[isS,tW,List.nil_append,List.length_nil]
   simp(disch:=omega)only[go_sem,K.aO,↓reduceIte,reduceAdd,reduceSub]
def abX(l:List World)(k:Nat)(st:St):Prop:=
 ∃l':List World,st=isS l' l.length (1+(k:Int)) .und∧l'.Perm l∧B9 (l'.take (1+k))
theorem Hz(l:List World)(hz:∀w∈l,w.sz)(hl:l.length≤1000){k:Nat}(hk:k<l.length-1){st:St}(hP:abX l k st):
 ∃st',eP true [5] st.H.length (exS bh K.aW st)=some st'∧abX l (k+1) st':=by
 obtain⟨l',rfl,pm,so⟩:=hP
 have ln:=pm.length_eq
 have sp:l'=l'.take (1+k)++nth l' (1+k)::l'.drop (1+k+1):=by
  conv=>lhs;rw[← List.take_append_drop (1+k) l']
  rw[List.drop_eq_getElem_cons (by omega),bF (aLc (by omega))]
 have l0:(l'.take (1+k)).length=1+k:=by rw[List.length_take];omega
 obtain⟨l1,z,h,p1,s1⟩:=Ki l.length (1+(k:Int)) (l'.take (1+k)) (l'.drop (1+k+1)) (nth l' (1+k)) so (fun w hw=>hz w (pm.mem_iff.1 (by rw[sp];exact hw))) (by rw[← sp];omega)
 rw[← sp,l0]at h
 have l1n:l1.length=1+k+1:=by rw[p1.length_eq,aLv,l0];rfl
 have tl:(l1++l'.drop (1+k+1)).length=l'.length:=by rw[aLv,l1n,List.length_drop];omega
 refine⟨isS (l1++l'.drop (1+k+1)) l.length (1+((k+1:Nat):Int)) .und,?_,_,rfl,?_,?_⟩
 · generalize (l1++l'.drop (1+k+1))=L at*
   clear sp
   simp only[isS,tW]at*
   have e:((1+k:Nat):Int)=1+(k:Int):=by omega
   rw[e]at h
   have e2:(1:Int)+((k+1:Nat):Int)=1+(k:Int)+1:=by omega
   rw[e2,tl]
   rw[tl]at h
   have lt:(1:Int)+k<l.length:=by omega
   simp(disch:=omega)only[go_sem,K.aW,↓reduceIte,h,reduceAdd,reduceSub]
 · have:(l1++l'.drop (1+k+1)).Perm l':=by
    conv=>rhs;rw[sp]
    rw[show l'.take (1+k)++nth l' (1+k)::l'.drop (1+k+1)=(l'.take (1+k)++[nth l' (1+k)])++l'.drop (1+k+1)by simp]
    exact List.Perm.append_right _ p1
   exact this.trans pm
 · rw[show 1+(k+1)=l1.length by omega,List.take_left']
   · exact s1
   · rfl
theorem HA(l:List World)(hz:∀w∈l,w.sz)(hl:l.length≤1000):
 ∃l',bh 0 N.az [.ref 0 0 l.length,I 0,I l.length,.fn N.a8 []] [tW l]=some (.tup [],[tW l'])∧l'.Perm l∧B9 l':=by
 by_cases h0:l.length=0
 · have e:l=[]:=List.eq_nil_of_length_eq_zero h0
   subst e
   refine⟨[],?_,List.Perm.refl _,List.Pairwise.nil⟩
   refine aE K.bM rfl ?_
   have lp:∀z5,exS bh K.b7 ⟨[.ref 0 0 0,I 0,I 0,.fn N.a8 [],I 1,z5],[.arr 2 false 0 []]⟩=some (.exit 0,⟨[.ref 0 0 0,I 0,I 0,.fn N.a8 [],I 1,.und],[.arr 2 false 0 []]⟩):=by
    intro z5
    refine vu (cG ?_ (by simp))
    simp(disch:=omega)only[go_sem,K.aW,↓reduceIte,reduceAdd,reduceSub]
   simp only[tW,List.map_nil,List.length_nil]
   simp(disch:=omega)only[go_sem,K.az,↓reduceIte,lp,reduceAdd,reduceSub]
 · have key:=fun z5:D=>Hm (gc:=true) (dead:=[5]) (c:=K.aW) (vs:=[.ref 0 0 l.length,I 0,I l.length,.fn N.a8 [],I 1,z5]) (H:=[tW l])
    (abX l) (l.length-1) (fun r=>∃l':List World,r=(.exit 0,isS l' l.length l.length .und)∧l'.Perm l∧B9 l') ⟨l,rfl,List.Perm.refl _,by
     match l with
     | []=>exact List.Pairwise.nil
     | x::r=>simp⟩ (fun j st hj hP=> .inl (Hz l hz hl hj hP)) (by
     rintro st ⟨l',rfl,pm,so⟩
     have ln:=pm.length_eq
     have e:(1:Int)+((l.length-1:Nat):Int)=l.length:=by omega
     rw[e]
     rw[List.take_of_length_le (by omega)]at so
     refine⟨(.exit 0,isS l' l.length l.length .und),?_,by simp,l',rfl,pm,so⟩
     simp only[isS,tW]
     simp(disch:=omega)only[go_sem,K.aW,↓reduceIte,reduceAdd,reduceSub]
     )
   obtain⟨r,hr,l',rfl,pm,so⟩:=key .und
   refine⟨l',?_,pm,so⟩
   refine aE K.bM rfl ?_
   have ln:=pm.length_eq
   have hr:exS bh K.b7 _=_:=hr
   simp only[isS,tW,ln]at hr ⊢
   simp(disch:=omega)only[go_sem,K.az,↓reduceIte,hr,reduceAdd,reduceSub]
theorem HB(l:List World)(hz:∀w∈l,w.sz)(hl:l.length<20):
 ∃l',bh 0 N.aQ [.ref 0 0 l.length,I l.length,.fn N.a8 []] [tW l]=some (.tup [],[tW l'])∧l'.Perm l∧B9 l':=by
 obtain⟨l',h,pm,so⟩:=HA l hz (by omega)
 refine⟨l',?_,pm,so⟩
 refine aE K.dC rfl ?_
 have ln:=pm.length_eq
 have e1:∀z6:D,exS bh K.fm ⟨[.ref 0 0 l.length,I l.length,.fn N.a8 [],I 20,I 0,I 20,z6],[tW l]⟩=some (.exit 0,⟨[.ref 0 0 l.length,I l.length,.fn N.a8 [],I 20,I 0,I 20,.und],[tW l]⟩):=by
  intro z6
  refine vu (cG ?_ (by simp))
  simp only[tW]
  simp(disch:=omega)only[go_sem,K.eQ,↓reduceIte,reduceAdd,reduceSub]
 have e2:∀z4 z5 z6:D,exS bh K.fo ⟨[.ref 0 0 l.length,I l.length,.fn N.a8 [],I 20,z4,z5,z6],[tW l']⟩=some (.exit 2,⟨[.ref 0 0 l.length,I l.length,.fn N.a8 [],I 20,.und,.und,.und],[tW l']⟩):=by
  intro z4 z5 z6
  refine vu (cG ?_ (by simp))
  simp only[tW]
  simp(disch:=omega)only[go_sem,K.eR,↓reduceIte,reduceAdd,reduceSub]
 simp only[tW]at*
 simp(disch:=omega)only[go_sem,K.aQ,↓reduceIte,e1,e2,h,reduceAdd,reduceSub]
theorem yN(l:List World)(hz:∀w∈l,w.sz)(hl:l.length<20):
 ∃l',bh 0 N.aA [.ref 0 0 l.length,.fn N.a8 []] [tW l]=some (.tup [],[tW l'])∧l'.Perm l∧B9 l':=by
 obtain⟨l',h,pm,so⟩:=HB l hz hl
 refine⟨l',?_,pm,so⟩
 refine aE K.bS rfl ?_
 simp only[tW]at*
 simp(disch:=omega)only[go_sem,K.aA,↓reduceIte,h,reduceAdd,reduceSub]
theorem EC(l:List World)(hz:∀w∈l,w.sz)(h0:0<l.length)(hl:l.length<20):
 ∃l',bh 0 N.aI [.fn N.av [.bp 0 0],.fn N.a8 []] [.box [.t (.sl (l.map World.e))]]=some (.t (.sl (l'.map World.e)),[.box [.t (.sl (l.map World.e))]])∧l'.Perm l∧B9 l':=by
 obtain⟨l',h,pm,so⟩:=yN l hz hl
 refine⟨l',?_,pm,so⟩
 refine aE K.cV rfl ?_
 have c:=B8 l h0 (by omega)
 have ln:=pm.length_eq
 simp only[tW]at*
 simp(disch:=omega)only[go_sem,K.aI,↓reduceIte,c,h,ln,reduceAdd,reduceSub]
end Go.Ev
namespace Go.Ev
open Go
variable [Lib] [cu] [b0] [gk] [gl] [jz] [fG] [fH] [gX] [fT]
end Go.Ev
namespace Go.Ev
open Go
variable [Lib] [cu] [b0] [gk] [gl] [jz] [fG] [fH] [gX] [fT] [eV] [dZ]
theorem ED{l:List Int}{i j:Nat}(hi:i<l.length)(hj:j<l.length):(yI l i j).Perm l:=by
 have:=Array.swap_perm (xs:=l.toArray) (i:=i) (j:=j) (by simpa using hi) (by simpa using hj)
 rw[Array.perm_iff_toList_perm]at this
 unfold yI
 rw[bF (aLc hi),bF (aLc hj)]
 simpa [Array.swap]using this
theorem rL{m:bu}{l:List Wh}(hl:∀w∈l,c7 m w=true)(i:Nat){x:Wh}(hx:i<l.length→c7 m x=true):∀w∈l.set i x,c7 m w=true:=by
 intro w hw
 by_cases h:i<l.length
 · rcases aLk hw with a | rfl
   · exact hl w a
   · exact hx h
 · rw[List.set_eq_of_length_le (by omega)]at hw;exact hl w hw
theorem vW{m:bu}(h:m.ok){w:Wh}(hv:c7 m w=true)(t:Int):c7 m (eE w t).1=true:=by
 unfold eE
 split
 · exact hv
 · obtain⟨a,b,c, -⟩:=bZ hv
   have cl:=rv h hv
   unfold inT at b
   exact vE h a (by simp only;unfold inT;omega) c (yz (t':=t) (by omega) cl)
theorem P0{m:bu}{first:List Int}{x:World}(h:WV m first x)(tag:Int){w:Wh}(hw:(bV x.tags tag).toNat<x.whr.length→c7 m w=true):WV m first (Fj tag x w):=
 ⟨h.pm,by simp[Fj,h.wl],rL h.wv _ hw⟩
def SO(m:bu)(tag:Int)(l:List Int)(a b:Int)(x:World):Option World:=
 if(vS m tag l a b x).2=43 then none else some (if(vS m tag l a b x).2=0 then Fj tag x (vS m tag l a b x).1 else x)
theorem yO(m:bu)(tag:Int)(l:List Int)(a b:Int)(ws:List World):∀j,j≤ws.length→kX m tag l a b ws j=(ws.take j).filterMap (SO m tag l a b)
 | 0,_=>by simp[kX]
 | j+1,h=>by
   rw[lF (by omega),List.filterMap_append]
   simp only[kX,yO m tag l a b ws j (by omega),B5,SO,List.filterMap_cons,List.filterMap_nil]
   split<;>simp_all
theorem Ca{m:bu}(hm:m.ok){first:List Int}{tag:Int}{l:List Int}{a b:Int}{x y:World}(h:WV m first x)(e:SO m tag l a b x=some y):WV m first y∧y.tags=x.tags:=by
 unfold SO at e
 split at e
 · cases e
 · simp only[Option.some.injEq]at e
   subst e
   split
   · exact⟨P0 h tag fun hl=>Hw hm (h.wv _ (aq hl)) l a b,rfl⟩
   · exact⟨h,rfl⟩
theorem Wt{m:bu}(hm:m.ok){first:List Int}{ws:List World}(h:BV m first ws)(tag:Int)(l:List Int)(a b:Int):BV m first (kX m tag l a b ws ws.length):=by
 rw[yO m tag l a b ws _ (aLs _),List.take_length]
 refine⟨h.pr,h.f1,h.f2,fun y hy=>?_,?_⟩
 · obtain⟨x,hx,e⟩:=List.mem_filterMap.1 hy
   exact(Ca hm (h.wv x hx) e).1
 · rw[List.pairwise_filterMap]
   refine(List.Pairwise.imp_of_mem ?_ h.up)
   intro x y hx hy hxy x' ex y' ey
   rw[(Ca hm (h.wv x hx) ex).2,(Ca hm (h.wv y hy) ey).2]
   exact hxy
theorem Kj{m:bu}(hm:m.ok){first:List Int}{x:World}(h:WV m first x){i j:Nat}(hi:i<first.length)(hj:j<first.length)(t:Int):WV m first (yJ i j t x):=by
 have wl:=h.wl
 have tl:=h.pm.length_eq
 refine⟨(ED (by omega) (by omega)).trans h.pm,by simp[yJ,wl],?_⟩
 exact rL (rL h.wv i fun hl=>vW hm (h.wv _ (aq hl)) t) j fun hl=>vW hm (h.wv _ (aq (by simpa using hl))) t
theorem rM{m:bu}(hm:m.ok){first:List Int}{ws:List World}(h:∀x∈ws,WV m first x){i j:Nat}(hi:i<first.length)(hj:j<first.length)(t:Int):∀k,k≤ws.length→∀x∈gY i j t ws k,WV m first x
 | 0,_,x,hx=>h x hx
 | k+1,hk,x,hx=>by
   simp only[gY,wI]at hx
   split at hx
   · rcases List.mem_append.1 hx with hx | hx
     · exact rM hm h hi hj t k (by omega) x hx
     · rw[List.mem_singleton.1 hx]
       exact Kj hm (h _ (aq (by omega))) hi hj t
   · exact rM hm h hi hj t k (by omega) x hx
theorem qy{m:bu}(hm:m.ok){a b:List Wh}(ha:∀w∈a,c7 m w=true)(hb:∀w∈b,c7 m w=true):∀p,p≤a.length→p≤b.length→∀w∈kY a b p,c7 m w=true
 | 0,_,_,w,hw=>ha w hw
 | p+1,h1,h2,w,hw=>by
   refine rL (qy hm ha hb p (by omega) (by omega)) p (fun _=>?_) w hw
   exact(xL hm (ha _ (aq (by omega))) (hb _ (aq (by omega)))).2.1
theorem yP{out:List World}{x:World}{k:Nat}(h:k<cD out x):lexB (nth out k).tags x.tags=true:=by
 unfold cD at h
 split at h
 · rename_i j hf
   rw[List.find?_range_eq_some]at hf
   have:=hf.2.2 k h
   rw[← lL];simpa using this
 · rename_i hf
   have:=List.find?_eq_none.1 hf k (aLu.2 h)
   rw[← lL];simpa using this
theorem uA{out:List World}{x:World}(h:cD out x<out.length):lexB (nth out (cD out x)).tags x.tags=false:=by
 unfold cD at h ⊢
 split
 · rename_i j hf
   rw[List.find?_range_eq_some]at hf
   have:=hf.1
   rw[← lL];simpa using this
 · rename_i hf
   rw[hf]at h;simp at h
theorem lM{m:bu}(hm:m.ok){first:List Int}{out:List World}(h:BV m first out){x:World}(hx:WV m first x):BV m first (j6 out x):=by
 have kl:=yH out x
 unfold j6
 split
 · rename_i c
   obtain⟨c1,c2⟩:=c
   have wk:=h.wv _ (aq c1)
   have w1:=wk.wl
   have w2:=hx.wl
   refine⟨h.pr,h.f1,h.f2,fun y hy=>?_,?_⟩
   · rcases aLk hy with a | rfl
     · exact h.wv y a
     · exact⟨hx.pm,by rw[gn,jt];exact w1,qy hm wk.wv hx.wv _ (by omega) (by omega)⟩
   · have u:=h.up
     rw[← List.pairwise_map (f:=World.tags) (R:=fun a b=>lexB a b=true)]at u ⊢
     rw[List.map_set]
     have e:(out.map World.tags).set (cD out x) x.tags=out.map World.tags:=by
      apply List.ext_getElem?
      intro i
      by_cases hi:cD out x=i
      · rw[← hi,aLj (by simpa using c1),aLn,iD c1,←c2];rfl
      · rw[aLi hi]
     rw[e];exact u
 · rename_i c
   refine⟨h.pr,h.f1,h.f2,fun y hy=>?_,?_⟩
   · simp only[List.mem_append,List.mem_singleton]at hy
     rcases hy with(hy | rfl) | hy
     · exact h.wv y (List.mem_of_mem_take hy)
     · exact hx
     · exact h.wv y (List.mem_of_mem_drop hy)
   · have u:=h.up
     have lo:∀y∈out.take (cD out x),lexB y.tags x.tags=true:=by
      intro y hy
      obtain⟨i,hi⟩:=aLf.1 hy
      have il:=(aLe.1 hi).1
      rw[List.length_take]at il
      rw[List.getElem?_take_of_lt (by omega)]at hi
      have:=yP (out:=out) (x:=x) (k:=i) (by omega)
      rwa [bF hi]at this
     have hi:∀y∈out.drop (cD out x),lexB x.tags y.tags=true:=by
      intro y hy
      obtain⟨i,hi⟩:=aLf.1 hy
      have il:=(aLe.1 hi).1
      rw[List.length_drop]at il
      rw[List.getElem?_drop]at hi
      have c1:cD out x<out.length:=by omega
      have at_:=uA c1
      have ne:(nth out (cD out x)).tags≠x.tags:=fun e=>c ⟨c1,e⟩
      have first_:lexB x.tags (nth out (cD out x)).tags=true:=by
       rcases kZ (nth out (cD out x)).tags x.tags with a | a | a
       · rw[a]at at_;cases at_
       · exact absurd a ne
       · exact a
      by_cases i0:i=0
      · subst i0
        rw[Nat.add_zero]at hi
        rwa [bF hi]at first_
      · have:=(List.pairwise_iff_getElem.1 u) (cD out x) (cD out x+i) (by omega) (by omega) (by omega)
        rw[← bF (aLc (by omega:cD out x<out.length)),←bF (aLc (by omega:cD out x+i<out.length)),bF hi]at this
        exact lex_trans first_ this
     have td:out.take (cD out x)++out.drop (cD out x)=out:=List.take_append_drop _ _
     have u2:=u
     rw[← td,List.pairwise_append]at u2
     rw[List.append_assoc,List.pairwise_append]
     refine⟨u2.1,?_,fun y hy z hz=>?_⟩
     · rw[List.singleton_append,List.pairwise_cons];exact⟨hi,u2.2.1⟩
     · simp only[List.singleton_append,List.mem_cons]at hz
       rcases hz with rfl | hz
       · exact lo y hy
       · exact u2.2.2 y hy z hz
theorem uB{m:bu}(hm:m.ok){first:List Int}(pr:dN first=true)(f1:1≤first.length)(f2:first.length≤12){l:List World}(hl:∀x∈l,WV m first x):∀j,j≤l.length→BV m first (tU l j)
 | 0,_=>⟨pr,f1,f2,fun x hx=>by simp[tU]at hx,by simp[tU]⟩
 | j+1,h=>lM hm (uB hm pr f1 f2 hl j (by omega)) (hl _ (aq (by omega)))
def lookW(out:List World)(t:List Int):Option (List Wh):=(out.find? fun w=>decide (w.tags=t)).map World.whr
abbrev UpW(out:List World):Prop:=out.Pairwise fun x y=>lexB x.tags y.tags=true
theorem vX{a b:List Int}(h:lexB a b=true):a≠b:=fun e=>by rw[e,lex_irrefl]at h;cases h
theorem jx{out:List World}{t:List Int}(h:∀w∈out,w.tags≠t):lookW out t=none:=by
 unfold lookW
 rw[List.find?_eq_none.2 fun w hw=>by simpa using h w hw];rfl
theorem gT:∀ {out:List World},UpW out→∀ {w:World},w∈out→lookW out w.tags=some w.whr
 | x::r,h,w,hw=>by
   unfold lookW
   rw[List.find?_cons]
   by_cases e:x.tags=w.tags
   · simp only[e,decide_true]
     rcases List.mem_cons.1 hw with rfl | hw
     · rfl
     · exact absurd e (vX ((List.pairwise_cons.1 h).1 w hw))
   · simp only[e,decide_false]
     rcases List.mem_cons.1 hw with rfl | hw
     · exact absurd rfl e
     · exact gT (List.pairwise_cons.1 h).2 hw
theorem xM(out:List World)(t:List Int):(∃w∈out,w.tags=t)∨(∀w∈out,w.tags≠t):=by
 by_cases h:∃w∈out,w.tags=t
 · exact .inl h
 · exact .inr fun w hw e=>h ⟨w,hw,e⟩
theorem HC{out:List World}{t:List Int}{l:List Wh}(h:lookW out t=some l):∃w∈out,w.tags=t∧w.whr=l:=by
 unfold lookW at h
 obtain⟨w,hw,rfl⟩:=aLb.1 h
 exact⟨w,List.mem_of_find?_eq_some hw,by simpa using List.find?_some hw,rfl⟩
theorem AE{x:World}{r:List World}{t:List Int}(h:x.tags≠t):lookW (x::r) t=lookW r t:=by
 unfold lookW;rw[List.find?_cons];simp only[h,decide_false]
theorem Dn:∀ {a b:List World},UpW a→UpW b→(∀t,lookW a t=lookW b t)→a=b
 | [],[],_,_,_=>rfl
 | [],y::s,_,hb,h=>by
   have:=h y.tags
   rw[gT hb List.mem_cons_self]at this
   cases this
 | x::r,[],ha,_,h=>by
   have:=h x.tags
   rw[gT ha List.mem_cons_self]at this
   cases this
 | x::r,y::s,ha,hb,h=>by
   obtain⟨a1,a2⟩:=List.pairwise_cons.1 ha
   obtain⟨b1,b2⟩:=List.pairwise_cons.1 hb
   have hx:=h x.tags
   rw[gT ha List.mem_cons_self]at hx
   have hy:=h y.tags
   rw[gT hb List.mem_cons_self]at hy
   rcases kZ x.tags y.tags with c | c | c
   · rw[jx]at hx
     · cases hx
     · intro w hw e
       rcases List.mem_cons.1 hw with rfl | hw
       · rw[e,lex_irrefl]at c;cases c
       · have:=lex_trans c (b1 w hw)
         rw[e,lex_irrefl]at this;cases this
   · have tl:r=s:=Dn a2 b2 fun t=>by
      by_cases e:x.tags=t
      · rw[jx fun w hw e2=>vX (a1 w hw) (e.trans e2.symm),jx fun w hw e2=>vX (b1 w hw) (c.symm.trans (e.trans e2.symm))]
      · have:=h t
        rwa [AE e,AE (fun e2=>e (c.trans e2))]at this
     rw[c,gT hb List.mem_cons_self]at hx
     obtain⟨xt,xw⟩:=x
     obtain⟨yt,yw⟩:=y
     simp only at c hx
     cases hx
     rw[c,tl]
   · rw[jx]at hy
     · cases hy
     · intro w hw e
       rcases List.mem_cons.1 hw with rfl | hw
       · rw[e,lex_irrefl]at c;cases c
       · have:=lex_trans c (a1 w hw)
         rw[e,lex_irrefl]at this;cases this
theorem P1{out:List World}{x:World}:∀y∈out.take (cD out x),lexB y.tags x.tags=true:=by
 intro y hy
 have kl:=yH out x
 obtain⟨i,hi⟩:=aLf.1 hy
 have il:=(aLe.1 hi).1
 rw[List.length_take]at il
 rw[List.getElem?_take_of_lt (by omega)]at hi
 have:=yP (out:=out) (x:=x) (k:=i) (by omega)
 rwa [bF hi]at this
theorem P2{out:List World}{x:World}(u:UpW out)(c:¬(cD out x<out.length∧(nth out (cD out x)).tags=x.tags)):∀y∈out.drop (cD out x),lexB x.tags y.tags=true:=by
 intro y hy
 obtain⟨i,hi⟩:=aLf.1 hy
 have il:=(aLe.1 hi).1
 rw[List.length_drop]at il
 rw[List.getElem?_drop]at hi
 have c1:cD out x<out.length:=by omega
 have at_:=uA c1
 have first_:lexB x.tags (nth out (cD out x)).tags=true:=by
  rcases kZ (nth out (cD out x)).tags x.tags with a | a | a
  · rw[a]at at_;cases at_
  · exact absurd ⟨c1,a⟩ c
  · exact a
 by_cases i0:i=0
 · subst i0
   rw[Nat.add_zero]at hi
   rwa [bF hi]at first_
 · have:=(List.pairwise_iff_getElem.1 u) (cD out x) (cD out x+i) (by omega) (by omega) (by omega)
   rw[← bF (aLc (by omega:cD out x<out.length)),←bF (aLc (by omega:cD out x+i<out.length)),bF hi]at this
   exact lex_trans first_ this
def abY(x:World):Option (List Wh)→List Wh
 | none=>x.whr
 | some w=>gn w x.whr
theorem rN{m:bu}(hm:m.ok){first:List Int}{out:List World}(h:BV m first out){x:World}(hx:WV m first x)(t:List Int):
 lookW (j6 out x) t=if t=x.tags then some (abY x (lookW out t))else lookW out t:=by
 have bv:=(lM hm h hx).up
 have u:=h.up
 unfold j6 at bv ⊢
 by_cases c:cD out x<out.length∧(nth out (cD out x)).tags=x.tags
 · rw[if_pos c]at bv ⊢
   obtain⟨c1,c2⟩:=c
   have mk:nth out (cD out x)∈out:=aq c1
   have ms:(⟨x.tags,gn (nth out (cD out x)).whr x.whr⟩:World)∈out.set (cD out x) ⟨x.tags,gn (nth out (cD out x)).whr x.whr⟩:=
    aLf.2 ⟨cD out x,aLj c1⟩
   by_cases e:t=x.tags
   · rw[if_pos e,e,gT bv ms,←c2,gT u mk]
     rfl
   · rw[if_neg e]
     rcases xM out t with⟨w,hw,rfl⟩ | hn
     · rw[gT u hw]
       obtain⟨i,hi⟩:=aLf.1 hw
       refine gT bv (aLf.2 ⟨i,?_⟩)
       rw[aLi,hi]
       intro e2
       rw[← e2]at hi
       rw[bF hi]at c2
       exact e c2
     · rw[jx hn,jx]
       intro w hw
       rcases aLk hw with hw | rfl
       · exact hn w hw
       · exact fun e2=>e e2.symm
 · rw[if_neg c]at bv ⊢
   have lo:=P1 (out:=out) (x:=x)
   have hi:=P2 u c
   have td:out.take (cD out x)++out.drop (cD out x)=out:=List.take_append_drop _ _
   have mem:∀w,w∈out.take (cD out x)++[x]++out.drop (cD out x)↔w=x∨w∈out:=by
    intro w
    conv=>rhs;rw[← td]
    simp only[List.mem_append,List.mem_singleton]
    constructor
    · rintro ((a | a) | a)
      · exact .inr (.inl a)
      · exact .inl a
      · exact .inr (.inr a)
    · rintro (a | a | a)
      · exact .inl (.inr a)
      · exact .inl (.inl a)
      · exact .inr a
   have nx:∀w∈out,w.tags≠x.tags:=by
    intro w hw
    rw[← td]at hw
    rcases List.mem_append.1 hw with hw | hw
    · exact vX (lo w hw)
    · exact fun e=>vX (hi w hw) e.symm
   by_cases e:t=x.tags
   · rw[if_pos e,e,jx nx,gT bv ((mem x).2 (.inl rfl))]
     rfl
   · rw[if_neg e]
     rcases xM out t with⟨w,hw,rfl⟩ | hn
     · rw[gT u hw,gT bv ((mem w).2 (.inr hw))]
     · rw[jx hn,jx]
       intro w hw
       rcases (mem w).1 hw with rfl | hw
       · exact fun e2=>e e2.symm
       · exact hn w hw
structure SH(n p:Nat)(l:List Wh):Prop where
 ln:l.length=n
 fr:∀w∈l,w.frm.length=p
theorem Mj{a b:Wh}(ht:a.time=b.time)(hl:a.frm.length=b.frm.length)(h:∀j,j<a.frm.length→nth a.frm j=nth b.frm j):a=b:=by
 obtain⟨t,f⟩:=a
 obtain⟨t2,f2⟩:=b
 simp only at ht hl h
 rw[ht,uv hl h]
theorem nZ{a b:Wh}(h:a.frm.length=b.frm.length):(jZ a b).1.time=max a.time b.time∧(jZ a b).1.frm.length=a.frm.length∧∀j,j<a.frm.length→nth (jZ a b).1.frm j=min (nth a.frm j) (nth b.frm j):=by
 unfold jZ
 rw[if_pos h]
 exact⟨rfl,nK _ _ _,fun j hj=>yL a.frm b.frm a.frm.length j hj⟩
theorem Dp(a b:List Wh):∀p,p≤a.length→∀i,i<p→nth (kY a b p) i=(jZ (nth a i) (nth b i)).1
 | 0,_,i,h=>by omega
 | p+1,hp,i,h=>by
   simp only[kY]
   rw[sJ _ _ (by rw[jt];omega)]
   split
   · rename_i e;rw[e]
   · exact Dp a b p (by omega) i (by omega)
theorem mT{n p:Nat}{a b:List Wh}(ha:SH n p a)(hb:SH n p b):SH n p (gn a b)∧∀i,i<n→nth (gn a b) i=(jZ (nth a i) (nth b i)).1:=by
 have l1:=ha.ln
 have l2:=hb.ln
 have e:gn a b=kY a b n:=by unfold gn;rw[l1,l2,Nat.min_self]
 have at_:=Dp a b n (by omega)
 rw[e]
 refine⟨⟨by rw[jt];exact l1,fun w hw=>?_⟩,at_⟩
 obtain⟨i,hi⟩:=aLf.1 hw
 have il:=(aLe.1 hi).1
 rw[jt]at il
 rw[← bF hi,at_ i (by omega),(nZ (by rw[ha.fr _ (aq (by omega)),hb.fr _ (aq (by omega))])).2.1]
 exact ha.fr _ (aq il)
theorem Cb{n p:Nat}{a b:List Wh}(ha:SH n p a)(hb:SH n p b):gn a b=gn b a:=by
 obtain⟨s1,n1⟩:=mT ha hb
 obtain⟨s2,n2⟩:=mT hb ha
 refine uv (by rw[s1.ln,s2.ln]) fun i hi=>?_
 rw[s1.ln]at hi
 rw[n1 i hi,n2 i hi]
 have fa:=ha.fr _ (aq (l:=a) (j:=i) (by rw[ha.ln];exact hi))
 have fb:=hb.fr _ (aq (l:=b) (j:=i) (by rw[hb.ln];exact hi))
 obtain⟨t1,l1,m1⟩:=nZ (a:=nth a i) (b:=nth b i) (by rw[fa,fb])
 obtain⟨t2,l2,m2⟩:=nZ (a:=nth b i) (b:=nth a i) (by rw[fa,fb])
 refine Mj (by rw[t1,t2];omega) (by rw[l1,l2,fa,fb]) fun j hj=>?_
 rw[l1]at hj
 rw[m1 j hj,m2 j (by omega)];omega
theorem AF{n p:Nat}{a b c:List Wh}(ha:SH n p a)(hb:SH n p b)(hc:SH n p c):gn (gn a b) c=gn (gn a c) b:=by
 obtain⟨s1,n1⟩:=mT ha hb
 obtain⟨s2,n2⟩:=mT ha hc
 obtain⟨s3,n3⟩:=mT s1 hc
 obtain⟨s4,n4⟩:=mT s2 hb
 refine uv (by rw[s3.ln,s4.ln]) fun i hi=>?_
 rw[s3.ln]at hi
 rw[n3 i hi,n4 i hi,n1 i hi,n2 i hi]
 have fa:=ha.fr _ (aq (l:=a) (j:=i) (by rw[ha.ln];exact hi))
 have fb:=hb.fr _ (aq (l:=b) (j:=i) (by rw[hb.ln];exact hi))
 have fc:=hc.fr _ (aq (l:=c) (j:=i) (by rw[hc.ln];exact hi))
 obtain⟨t1,l1,m1⟩:=nZ (a:=nth a i) (b:=nth b i) (by rw[fa,fb])
 obtain⟨t2,l2,m2⟩:=nZ (a:=nth a i) (b:=nth c i) (by rw[fa,fc])
 obtain⟨t3,l3,m3⟩:=nZ (a:=(jZ (nth a i) (nth b i)).1) (b:=nth c i) (by rw[l1,fa,fc])
 obtain⟨t4,l4,m4⟩:=nZ (a:=(jZ (nth a i) (nth c i)).1) (b:=nth b i) (by rw[l2,fa,fb])
 refine Mj (by rw[t3,t4,t1,t2];omega) (by rw[l3,l4,l1,l2]) fun j hj=>?_
 rw[l3,l1]at hj
 rw[m3 j (by omega),m4 j (by omega),m1 j (by omega),m2 j (by omega)];omega
theorem WV.sh{m:bu}{first:List Int}{x:World}(h:WV m first x):SH first.length m.aa.length x.whr:=
 ⟨h.wl,fun w hw=>(bZ (h.wv w hw)).1⟩
theorem EE{m:bu}(hm:m.ok){first:List Int}{out:List World}(h:BV m first out){x y:World}(hx:WV m first x)(hy:WV m first y):j6 (j6 out x) y=j6 (j6 out y) x:=by
 have bx:=lM hm h hx
 have by_:=lM hm h hy
 refine Dn (lM hm bx hy).up (lM hm by_ hx).up fun t=>?_
 rw[rN hm bx hy,rN hm by_ hx,rN hm h hx,rN hm h hy]
 by_cases e1:t=x.tags
 · by_cases e2:t=y.tags
   · rw[if_pos e2,if_pos e1,if_pos e1,if_pos e2]
     congr 1
     have sx:=hx.sh
     have sy:=hy.sh
     cases hl:lookW out t with
     | none=>exact Cb sx sy
     | some w=>
       obtain⟨z,hz, -,rfl⟩:=HC hl
       exact AF (h.wv z hz).sh sx sy
   · rw[if_neg e2,if_pos e1,if_pos e1,if_neg e2]
 · by_cases e2:t=y.tags
   · rw[if_pos e2,if_neg e1,if_neg e1,if_pos e2]
   · rw[if_neg e2,if_neg e1,if_neg e1,if_neg e2]
theorem xN(l:List World):∀j,j≤l.length→tU l j=(l.take j).foldl j6 []
 | 0,_=>by simp[tU]
 | j+1,h=>by
   rw[lF (by omega),List.foldl_append]
   simp only[tU,xN l j (by omega),List.foldl_cons,List.foldl_nil]
theorem sL(l:List World):qw l=l.foldl j6 []:=by
 unfold qw;rw[xN l _ (aLs _),List.take_length]
theorem HD{m:bu}(hm:m.ok){first:List Int}{l l':List World}(p:l.Perm l'):(∀x∈l,WV m first x)→∀out,BV m first out→l.foldl j6 out=l'.foldl j6 out:=by
 induction p with
 | nil=>intro _ out _;rfl
 | cons x _ ih=>
   intro h out ho
   exact ih (fun y hy=>h y (List.mem_cons_of_mem _ hy)) _ (lM hm ho (h x List.mem_cons_self))
 | swap x y l=>
   intro h out ho
   simp only[List.foldl_cons]
   rw[EE hm ho (h y List.mem_cons_self) (h x (List.mem_cons_of_mem _ List.mem_cons_self))]
 | trans p1 p2 ih1 ih2=>
   intro h out ho
   rw[ih1 h out ho,ih2 (fun y hy=>h y (p1.mem_iff.2 hy)) out ho]
theorem EF{m:bu}(hm:m.ok){first:List Int}(pr:dN first=true)(f1:1≤first.length)(f2:first.length≤12){l l':List World}(p:l.Perm l')(h:∀x∈l,WV m first x):qw l=qw l':=by
 rw[sL,sL]
 exact HD hm p h [] ⟨pr,f1,f2,(fun x hx=>by cases hx),List.Pairwise.nil⟩
def ov(out:List World)(x:World):List World:=
 if 0<out.length∧(nth out (out.length-1)).tags=x.tags then out.set (out.length-1) ⟨x.tags,gn (nth out (out.length-1)).whr x.whr⟩else out++[x]
theorem EG{out:List World}{x:World}(u:UpW out)(h:0<out.length→lexB x.tags (nth out (out.length-1)).tags=false):j6 out x=ov out x:=by
 have kl:=yH out x
 by_cases h0:0<out.length
 · have h:=h h0
   have ge:out.length-1≤cD out x:=by
    rcases Nat.lt_or_ge (cD out x) (out.length-1)with c | c
    · exfalso
      have at_:=uA (out:=out) (x:=x) (by omega)
      have lt:=(List.pairwise_iff_getElem.1 u) (cD out x) (out.length-1) (by omega) (by omega) c
      rw[← bF (aLc (by omega:cD out x<out.length)),←bF (aLc (by omega:out.length-1<out.length))]at lt
      rcases kZ (nth out (out.length-1)).tags x.tags with a | a | a
      · have:=lex_trans lt a
        rw[at_]at this;cases this
      · rw[a]at lt;rw[at_]at lt;cases lt
      · rw[h]at a;cases a
    · exact c
   unfold j6 ov
   by_cases e:cD out x=out.length-1
   · rw[e]
     by_cases c:(nth out (out.length-1)).tags=x.tags
     · rw[if_pos ⟨by omega,c⟩,if_pos ⟨h0,c⟩]
     · exfalso
       have at_:=uA (out:=out) (x:=x) (by omega)
       rw[e]at at_
       rcases kZ (nth out (out.length-1)).tags x.tags with a | a | a
       · rw[a]at at_;cases at_
       · exact c a
       · rw[h]at a;cases a
   · have e:cD out x=out.length:=by omega
     rw[e]
     have:¬(out.length<out.length∧(nth out out.length).tags=x.tags):=fun h=>by omega
     rw[if_neg this,List.take_length,List.drop_length,List.append_nil]
     have lt:=yP (out:=out) (x:=x) (k:=out.length-1) (by omega)
     rw[if_neg fun h=>vX lt h.2]
 · have e:out=[]:=List.eq_nil_of_length_eq_zero (by omega)
   subst e
   unfold j6 ov
   simp
end Go.Ev
namespace Go.Ev
open Go
variable [Lib] [cu] [b0] [gk] [gl] [jz] [fG] [fH] [gX] [fT] [eV] [dZ] [iJ] [eW]
theorem Rp.more{H:ah}{id:Nat}{es:List D}{fa fb:Nat→Nat}{out:List World}(hr:Rp H id es fa fb out)(t:ah):Rp (H++t) id es fa fb out:=
 ⟨by rw[jC (nL hr.arr)];exact hr.arr,hr.len,hr.el,fun j hj=>by rw[jC (nL (hr.ha j hj))];exact hr.ha j hj,fun j hj=>by rw[jC (nL (hr.hb j hj))];exact hr.hb j hj,hr.na,hr.nb,hr.nab,hr.nbb⟩
theorem yQ{α:Type} [Dat α](l:List α)(x:α)(j:Nat):nth (l++[x]) j=if j<l.length then nth l j else if j=l.length then x else Dat.dflt:=by
 unfold nth
 simp only[aLl]
 split
 · rw[aLg (by assumption)]
 · split
   · rename_i e;rw[e,aLh (aLs _),Nat.sub_self];rfl
   · rw[aLm (by simp;omega)];rfl
theorem Rp.snoc{H:ah}{id:Nat}{es:List D}{fa fb:Nat→Nat}{out:List World}(hr:Rp H id es fa fb out)(x:World)(o o2:Obj):
 Rp (H.set id (.arr 2 false 0 (es++[.agg [.ref (H.length+1) 0 x.tags.length,.ref (H.length+2) 0 x.whr.length]]))++[o,.arr 1 false 0 (ints x.tags),.arr 2 false 0 (whs x.whr),o2]) id
  (es++[.agg [.ref (H.length+1) 0 x.tags.length,.ref (H.length+2) 0 x.whr.length]]) (fun j=>if j<out.length then fa j else H.length+1) (fun j=>if j<out.length then fb j else H.length+2) (out++[x]):=by
 have e2:=hr.len
 have il:=nL hr.arr
 have ba:∀j,j<out.length→fa j<H.length:=fun j hj=>nL (hr.ha j hj)
 have bb:∀j,j<out.length→fb j<H.length:=fun j hj=>nL (hr.hb j hj)
 have sl:∀o,(H.set id o).length=H.length:=fun o=>List.length_set
 have getN:∀(o3:Obj) (t:ah) (k:Nat),(H.set id o3++t)[H.length+k]?=t[k]?:=fun o3 t k=>by
  have:=pw (H:=H.set id o3) (t:=t) (k:=k)
  rwa [sl]at this
 refine⟨by rw[jC (by rw[sl];exact il),px il],by simp[e2],?_,?_,?_,?_,?_,?_,?_⟩
 · intro j hj
   rw[aLv,List.length_singleton]at hj
   rw[yQ]
   by_cases h:j<out.length
   · simp only[if_pos h];rw[aLg (by omega)];exact hr.el j h
   · have:j=out.length:=by omega
     subst this
     simp only[Nat.lt_irrefl,if_false,if_true]
     rw[aLh (by omega),e2,Nat.sub_self];rfl
 · intro j hj
   rw[aLv,List.length_singleton]at hj
   rw[yQ]
   by_cases h:j<out.length
   · simp only[if_pos h];rw[jC (by rw[sl];exact ba j h),ji (fun e=>hr.na j h e.symm)];exact hr.ha j h
   · have:j=out.length:=by omega
     subst this
     simp only[Nat.lt_irrefl,if_false,if_true]
     rw[getN];rfl
 · intro j hj
   rw[aLv,List.length_singleton]at hj
   rw[yQ]
   by_cases h:j<out.length
   · simp only[if_pos h];rw[jC (by rw[sl];exact bb j h),ji (fun e=>hr.nb j h e.symm)];exact hr.hb j h
   · have:j=out.length:=by omega
     subst this
     simp only[Nat.lt_irrefl,if_false,if_true]
     rw[getN];rfl
 · intro j hj;split
   · exact hr.na j (by assumption)
   · omega
 · intro j hj;split
   · exact hr.nb j (by assumption)
   · omega
 · intro i j hi hj;split
   · rename_i h1
     have:=ba i h1
     split
     · exact hr.nab i j h1 (by assumption)
     · omega
   · split
     · rename_i h1
       have:=bb j h1
       omega
     · omega
 · intro i j hi hj hne
   rw[aLv,List.length_singleton]at hi hj
   split
   · rename_i h1
     have:=bb i h1
     split
     · exact hr.nbb i j h1 (by assumption) hne
     · omega
   · split
     · rename_i h1
       have:=bb j h1
       omega
     · omega
abbrev tdS(s:List World)(id:Nat)(n:Nat)(j:Int)(H:ah):St:=
 ⟨[.und,.und,.und,.ref id 0 n,.und,.und,.und,.t (.sl (s.map World.e)),I s.length,I j,.und,.und],H⟩
theorem P3(s:List World)(j:Int)(x:World)(hsx:x.sz)(out:List World)(ho:out.length≤1000000)(h0:0<out.length)(hso:∀x∈out,x.sz)(H:ah)(id:Nat)(es:List D)(fa fb:Nat→Nat)
 (hr:Rp H id es fa fb out) (hl:x.whr.length=(nth out (out.length-1)).whr.length):∀z0 z1 z2 z6:D,
 exS bh K.pX ⟨[z0,z1,z2,.ref id 0 out.length,.bp H.length 0,I out.length,z6,.t (.sl (s.map World.e)),I s.length,I j,I x.whr.length,I 0],H++[.box [.t (tL x.tags),.t (.sl (x.whr.map Wh.e))]]⟩=
 some (.exit 2,⟨[.und,.und,.und,.ref id 0 out.length,.bp H.length 0,I out.length,.und,.t (.sl (s.map World.e)),I s.length,I j,I x.whr.length,I x.whr.length],
  H.set (fb (out.length-1)) (.arr 2 false 0 (whs (gn (nth out (out.length-1)).whr x.whr)))++[.box [.t (tL x.tags),.t (.sl (x.whr.map Wh.e))]]⟩):=by
 intro z0 z1 z2 z6
 have e1:=hr.arr
 have e2:=hr.len
 have e3:=hr.el (out.length-1) (by omega)
 have e5:=hr.hb (out.length-1) (by omega)
 have e6:=hr.nb (out.length-1) (by omega)
 have e7:=nL e5
 have e8:=nL e1
 obtain⟨s1,s2,s3⟩:=hso _ (aq (l:=out) (j:=out.length-1) (by omega))
 obtain⟨x1,x2,x3⟩:=hsx
 have ej:gn (nth out (out.length-1)).whr x.whr=kY (nth out (out.length-1)).whr x.whr x.whr.length:=by unfold gn;rw[hl,Nat.min_self]
 rw[ej]
 have ci:(out.length:Int)-1=((out.length-1:Nat):Int):=by omega
 generalize nth out (out.length-1)=y at*
 generalize out.length-1=k at*
 obtain⟨ta,wa⟩:=y
 obtain⟨tb,wb⟩:=x
 simp only at s1 s2 s3 x1 x2 x3 e3 e5 hl ⊢
 have jl:=jt wa wb
 have sl:∀o,(H.set (fb k) o).length=H.length:=fun o=>List.length_set
 have q1:∀o,(H.set (fb k) o)[id]?=H[id]?:=fun o=>ji e6
 have q2:∀o,(H.set (fb k) o)[fb k]?=some o:=fun o=>px e7
 have q3:∀o (t:ah),(H.set (fb k) o++t)[H.length]?=t[0]?:=fun o t=>by
  have:=pv (H:=H.set (fb k) o) (t:=t)
  rwa [sl]at this
 have q4:∀o (t:ah),(H.set (fb k) o++t)[id]?=H[id]?:=fun o t=>by rw[jC (by rw[sl];exact e8),q1]
 have q5:∀o (t:ah),(H.set (fb k) o++t)[fb k]?=some o:=fun o t=>by rw[jC (by rw[sl];exact e7),q2]
 have q6:∀o o2 (t:ah),(H.set (fb k) o++t).set (fb k) o2=H.set (fb k) o2++t:=fun o o2 t=>by rw[GN (by rw[sl];exact e7),Eg]
 refine fP (fun p=>⟨[.und,.und,.und,.ref id 0 out.length,.bp H.length 0,I out.length,.und,.t (.sl (s.map World.e)),I s.length,I j,I wb.length,I p],H.set (fb k) (.arr 2 false 0 (whs (kY wa wb p)))++[.box [.t (tL tb),.t (.sl (wb.map Wh.e))]]⟩) wb.length ?_ ?_ ?_ (by simp)
 · show(⟨_,H++_⟩:St)=⟨_,H.set (fb k) (.arr 2 false 0 (whs wa))++_⟩
   rw[CV e5];rfl
 · intro p hp
   have jp:=jl p
   have jn:=Ax wa wb p p (aLs _)
   have jo:=Kg (nth wa p) (nth wb p) (s3 _ (aq (by omega)))
   have hj:kY wa wb (p+1)=(kY wa wb p).set p (jZ (nth wa p) (nth wb p)).1:=rfl
   rw[hj]
   generalize kY wa wb p=J at*
   generalize hu:nth wb p=u at*
   generalize nth wa p=w at*
   generalize jZ w u=r at*
   obtain⟨⟨rt,rf⟩,re⟩:=r
   simp only at jo ⊢
   simp(disch:=omega)only[go_sem,K.lf,↓reduceIte,q3,q4,q5,q6,sl,e1,e2,e3,ci,hu,jn,jo,reduceAdd,reduceSub]
 · have jp:=jl wb.length
   generalize kY wa wb wb.length=J at*
   simp(disch:=omega)only[go_sem,K.lf,↓reduceIte,q3,q4,q5,q6,sl,reduceAdd,reduceSub]
theorem Kk(s:List World)(hsl:s.length≤1000){j:Nat}(hj:j<s.length)(hx:(nth s j).sz)(out:List World)(ho:out.length≤100000)(hso:∀x∈out,x.sz)(H:ah)(id:Nat)(es:List D)(fa fb:Nat→Nat)
 (hr:Rp H id es fa fb out) (hl:0<out.length→(nth s j).whr.length=(nth out (out.length-1)).whr.length):
 ∃H' es' fa' fb',eP false [0,1,2,4,5,6,10,11] H.length (exS bh K.fR (tdS s id out.length j H))=some (tdS s id (ov out (nth s j)).length ((j+1:Nat):Int) H')∧Rp H' id es' fa' fb' (ov out (nth s j)):=by
 have e1:=hr.arr
 have e2:=hr.len
 have e8:=nL e1
 have ex:(s.map World.e)[j]?=some (nth s j).e:=fB _ hj
 have cw:=yM (nth s j) hx
 by_cases c:0<out.length∧(nth out (out.length-1)).tags=(nth s j).tags
 · obtain⟨c0,ct⟩:=c
   have jo:=P3 s j (nth s j) hx out (by omega) c0 hso H id es fa fb hr (hl c0)
   have s1:=(hso _ (aq (l:=out) (j:=out.length-1) (by omega))).1
   have sm:=uy (nth out (out.length-1)).tags (nth s j).tags (by omega) (by have:=hx.1;omega)
   simp only[ct,decide_true]at sm
   have e3:=hr.el (out.length-1) (by omega)
   have e4:=hr.ha (out.length-1) (by omega)
   have mg:=(hr.merge (k:=out.length-1) (by omega) ⟨(nth s j).tags,gn (nth out (out.length-1)).whr (nth s j).whr⟩ ct (jt _ _ _)).more [.box [.t (tL (nth s j).tags),.t (.sl ((nth s j).whr.map Wh.e))]]
   have lw:ov out (nth s j)=out.set (out.length-1) ⟨(nth s j).tags,gn (nth out (out.length-1)).whr (nth s j).whr⟩:=by unfold ov;rw[if_pos ⟨c0,ct⟩]
   rw[lw]
   refine⟨_,es,fa,fb,?_,mg⟩
   have ci:(out.length:Int)-1=((out.length-1:Nat):Int):=by omega
   rw[List.length_set]
   generalize nth out (out.length-1)=y at*
   generalize out.length-1=k at*
   obtain⟨ta,wa⟩:=y
   simp only at ct
   subst ct
   generalize nth s j=x at*
   obtain⟨tb,wb⟩:=x
   simp only[tdS,ints]at*
   have g4:fa k<H.length:=nL e4
   simp(disch:=omega)only[go_sem,K.fR,↓reduceIte,ex,ci,sm,e1,e2,e3,e4,jo,jC,pv,pw,sF,yB,reduceAdd,reduceSub]
 · have lw:ov out (nth s j)=out++[nth s j]:=by unfold ov;rw[if_neg c]
   rw[lw]
   refine⟨_,_,_,_,?_,hr.snoc (nth s j) (.box [.t (tL (nth s j).tags),.t (.sl ((nth s j).whr.map Wh.e))]) (.arr 2 false 0 [.agg [.ref (H.length+1) 0 (nth s j).tags.length,.ref (H.length+2) 0 (nth s j).whr.length]])⟩
   rw[aLv,List.length_singleton]
   by_cases c0:0<out.length
   · have ct:¬(nth out (out.length-1)).tags=(nth s j).tags:=fun e=>c ⟨c0,e⟩
     have s1:=(hso _ (aq (l:=out) (j:=out.length-1) (by omega))).1
     have sm:=uy (nth out (out.length-1)).tags (nth s j).tags (by omega) (by have:=hx.1;omega)
     simp only[ct,decide_false]at sm
     have e3:=hr.el (out.length-1) (by omega)
     have e4:=hr.ha (out.length-1) (by omega)
     have ci:(out.length:Int)-1=((out.length-1:Nat):Int):=by omega
     generalize nth out (out.length-1)=y at*
     generalize out.length-1=k at*
     obtain⟨ta,wa⟩:=y
     generalize nth s j=x at*
     obtain⟨tb,wb⟩:=x
     simp only[tdS,ints]at*
     have g4:fa k<H.length:=nL e4
     simp(disch:=omega)only[go_sem,K.fR,↓reduceIte,ex,ci,sm,e1,e2,e3,e4,cw,jC,pv,pw,GN,sF,yB,Nat.add_assoc,aLt,whs,reduceAdd,reduceSub]
   · generalize nth s j=x at*
     obtain⟨tb,wb⟩:=x
     simp only[tdS,ints]at*
     simp(disch:=omega)only[go_sem,K.fR,↓reduceIte,ex,e1,e2,cw,jC,pv,pw,GN,sF,yB,Nat.add_assoc,whs,reduceAdd,reduceSub]
theorem P4{H:ah}{id:Nat}{es:List D}{fa fb:Nat→Nat}{out:List World}(hr:Rp H id es fa fb out):bR (Go.Ev.frz H 7) es=some (out.map World.e):=by
 have hl:=hr.len
 have key:∀(j:Nat) (hj:j<out.length),Go.Ev.frz H 7 (.agg [.ref (fa j) 0 (nth out j).tags.length,.ref (fb j) 0 (nth out j).whr.length])=some (nth out j).e:=by
  intro j hj
  have h1:=hr.ha j hj
  have h2:=hr.hb j hj
  simp(disch:=omega)only[go_sem,h1,h2,ints,whs,↓reduceIte]
 have:∀(es:List D) (ts:List T),es.length=ts.length→(∀(j:Nat) e t,es[j]?=some e→ts[j]?=some t→Go.Ev.frz H 7 e=some t)→bR (Go.Ev.frz H 7) es=some ts:=by
  intro es
  induction es with
  | nil=>intro ts h _;cases ts with
    | nil=>rfl
    | cons=>simp at h
  | cons e es ih=>
    intro ts h hh
    cases ts with
    | nil=>simp at h
    | cons t ts=>
      have h1:=hh 0 e t rfl rfl
      have h2:=ih ts (by simpa using h) fun j e t he ht=>hh (j+1) e t (by simpa using he) (by simpa using ht)
      simp only[bR,h1,aLq,h2,aLw]
 refine this es _ (by rw[List.length_map,hl]) fun j e t he ht=>?_
 have hj:j<out.length:=by rw[← hl];exact(aLe.1 he).1
 rw[hr.el j hj]at he
 rw[fB _ hj]at ht
 cases he;cases ht
 exact key j hj
theorem EH{H:ah}{id sz n:Nat}{pin:Bool}{es:List D}{ts:List T}(hid:H[id]?=some (.arr sz pin 0 es))(hn:n=es.length)(hf:bR (Go.Ev.frz H 7) es=some ts):finish 0 0 H [.ref id 0 n]=some (.t (.sl ts),[]):=by
 have e:Go.Ev.frz H depth (.ref id 0 n)=some (.sl ts):=by
  have ha:eI H id 0 n=some (sz,pin,es):=by simp only[eI,hid];rw[if_pos ⟨trivial,hn⟩]
  show((eI H id 0 n).bind fun a=>bR (Go.Ev.frz H 7) a.2.2).map T.sl=_
  rw[ha,aLq,hf];rfl
 have o1:[D.t (T.sl ts)].all (old 0 depth)=true:=by simp[old]
 unfold finish
 simp only[if_true,bR,o7,e,aLw,aLq,o1,List.take_zero,List.all_nil,Bool.and_self,gZ,Nat.zero_le,decide_true,rU]
 rw[if_pos (by simp)]
def tdP(s:List World)(j:Nat)(st:St):Prop:=
 ∃H es fa fb out,st=tdS s 1 out.length (j:Int) H∧Rp H 1 es fa fb out∧out=(s.take j).foldl ov []
theorem Kl{m:bu}(hm:m.ok){first:List Int}{out:List World}(h:∀y∈out,WV m first y){x:World}(hx:WV m first x):∀y∈ov out x,WV m first y:=by
 intro y hy
 unfold ov at hy
 split at hy
 · rename_i c
   obtain⟨c0,c1⟩:=c
   have wk:=h _ (aq (l:=out) (j:=out.length-1) (by omega))
   have w1:=wk.wl
   have w2:=hx.wl
   rcases aLk hy with a | rfl
   · exact h y a
   · exact⟨hx.pm,by rw[gn,jt];exact w1,qy hm wk.wv hx.wv _ (by omega) (by omega)⟩
 · rcases List.mem_append.1 hy with hy | hy
   · exact h y hy
   · rw[List.mem_singleton.1 hy];exact hx
theorem Dq{m:bu}(hm:m.ok){first:List Int}{s:List World}(hs:∀x∈s,WV m first x):∀j,j≤s.length→(∀y∈(s.take j).foldl ov [],WV m first y)∧((s.take j).foldl ov []).length≤j
 | 0,_=>⟨fun y hy=>by simp at hy,by simp⟩
 | j+1,h=>by
   obtain⟨a,b⟩:=Dq hm hs j (by omega)
   rw[lF (by omega),List.foldl_append]
   generalize (s.take j).foldl ov []=out at*
   simp only[List.foldl_cons,List.foldl_nil]
   refine⟨Kl hm a (hs _ (aq (by omega))),?_⟩
   unfold ov
   split
   · rw[List.length_set];omega
   · rw[aLv,List.length_singleton];omega
theorem WV.wsz{m:bu}(hm:m.ok){first:List Int}(f2:first.length≤12){x:World}(h:WV m first x):x.sz:=by
 have np:=hm.np
 have l1:=h.pm.length_eq
 have l2:=h.wl
 exact⟨by omega,by omega,fun w hw=>by have:=(bZ (h.wv w hw)).1;omega⟩
theorem xO{m:bu}(hm:m.ok){first:List Int}(pr:dN first=true)(f1:1≤first.length)(f2:first.length≤12){s:List World}(hs:∀x∈s,WV m first x)(so:B9 s):∀j,j≤s.length→
 (s.take j).foldl ov []=(s.take j).foldl j6 []∧BV m first ((s.take j).foldl j6 [])∧∀w∈(s.take j).foldl j6 [],∃k,k<j∧w.tags=(nth s k).tags
 | 0,_=>⟨rfl,⟨pr,f1,f2,(fun x hx=>by cases hx),List.Pairwise.nil⟩,fun w hw=>by simp at hw⟩
 | j+1,h=>by
   obtain⟨e,bv,fr⟩:=xO hm pr f1 f2 hs so j (by omega)
   rw[lF (by omega),List.foldl_append,List.foldl_append,e]
   simp only[List.foldl_cons,List.foldl_nil]
   have hx:=hs _ (aq (l:=s) (j:=j) (by omega))
   generalize (s.take j).foldl j6 []=out at*
   refine⟨(EG bv.up fun h0=>?_).symm,lM hm bv hx,fun w hw=>?_⟩
   · obtain⟨k,hk,ek⟩:=fr _ (aq (l:=out) (j:=out.length-1) (by omega))
     rw[ek]
     have:=(List.pairwise_iff_getElem.1 so) k j (by omega) (by omega) hk
     rwa [← bF (aLc (by omega:k<s.length)),←bF (aLc (by omega:j<s.length))]at this
   · unfold j6 at hw
     split at hw
     · rcases aLk hw with a | rfl
       · obtain⟨k,hk,ek⟩:=fr w a;exact⟨k,by omega,ek⟩
       · exact⟨j,by omega,rfl⟩
     · simp only[List.mem_append,List.mem_singleton]at hw
       rcases hw with(hw | rfl) | hw
       · obtain⟨k,hk,ek⟩:=fr w (List.mem_of_mem_take hw);exact⟨k,by omega,ek⟩
       · exact⟨j,by omega,rfl⟩
       · obtain⟨k,hk,ek⟩:=fr w (List.mem_of_mem_drop hw);exact⟨k,by omega,ek⟩
theorem Km{m:bu}(hm:m.ok){first:List Int}(pr:dN first=true)(f1:1≤first.length)(f2:first.length≤12)(l:List World)(hl:∀x∈l,WV m first x)(h0:0<l.length)(h20:l.length<20):
 bh 0 N.fD [.t (.sl (l.map World.e))] []=some (.t (.sl ((qw l).map World.e)),[]):=by
 obtain⟨s,hs,pm,so⟩:=EC l (fun w hw=>(hl w hw).wsz hm f2) h0 h20
 have hv:=fun x hx=>hl x (pm.mem_iff.1 hx)
 have ln:=pm.length_eq
 have td:(s.take s.length).foldl ov []=qw l:=by
  rw[(xO hm pr f1 f2 hv so s.length (aLs _)).1,List.take_length,←sL]
  exact EF hm pr f1 f2 pm hv
 have loop:∀z0 z1 z2 z4 z5 z6 z10 z11:D,∃q,exS bh K.pY ⟨[z0,z1,z2,.ref 1 0 0,z4,z5,z6,.t (.sl (s.map World.e)),I s.length,I 0,z10,z11],[.box [.t (.sl (l.map World.e))],.arr 2 false 0 []]⟩=some q∧∃H es fa fb,q=(.exit 0,tdS s 1 (qw l).length s.length H)∧Rp H 1 es fa fb (qw l):=by
  intro z0 z1 z2 z4 z5 z6 z10 z11
  refine Hm (tdP s) s.length _ ?_ ?_ ?_
  · exact⟨_,[],fun _=>0,fun _=>0,[],rfl,⟨rfl,rfl,fun j hj=>by simp at hj,fun j hj=>by simp at hj,fun j hj=>by simp at hj,fun j hj=>by simp at hj,fun j hj=>by simp at hj,fun i j hi=>by simp at hi,fun i j hi=>by simp at hi⟩,rfl⟩
  · rintro j st hj ⟨H,es,fa,fb,out,rfl,hr,ho⟩
    obtain⟨a,b⟩:=Dq hm hv j (by omega)
    rw[← ho]at a b
    have wx:=hv _ (aq (l:=s) (j:=j) hj)
    obtain⟨H',es',fa',fb',r1,r2⟩:=Kk s (by omega) hj (wx.wsz hm f2) out (by omega) (fun x hx=>(a x hx).wsz hm f2) H 1 es fa fb hr (fun h=>by
     rw[wx.wl,(a _ (aq (l:=out) (j:=out.length-1) (by omega))).wl])
    refine .inl ⟨_,r1,H',es',fa',fb',_,rfl,r2,?_⟩
    rw[lF hj,List.foldl_append,←ho];rfl
  · rintro st ⟨H,es,fa,fb,out,rfl,hr,ho⟩
    rw[td]at ho
    subst ho
    refine⟨(.exit 0,tdS s 1 (qw l).length s.length H),?_,by simp,H,es,fa,fb,rfl,hr⟩
    simp only[tdS]
    simp(disch:=omega)only[go_sem,K.fR,↓reduceIte,reduceAdd,reduceSub]
 refine aE K.nW rfl ?_
 have va:=EA l
 obtain⟨q,hq,H,es,fa,fb,rfl,hr⟩:=loop (.t (.sl (l.map World.e))) .nil (.t (.sl (s.map World.e))) .und .und .und .und .und
 have fin:=EH hr.arr hr.len.symm (P4 hr)
 simp only[tdS]at hq
 simp(disch:=omega)only[go_sem,K.fD,↓reduceIte,va,hs,hq,fin,reduceAdd,reduceSub]
end Go.Ev
namespace Go.Ev
open Go
variable [Lib] [cu] [b0] [gk] [gl] [jz] [fG] [fH] [gX] [fT] [eV] [dZ]
theorem xP{m:bu}(h:m.ok)(b:Bel)(hs:b.sz):bh 0 N.dm [.t m.e,.t b.e] []=some (B (zc m b),[]):=by
 rw[← Kf]
 refine aE K.nT rfl ?_
 obtain⟨h1,h2⟩:=hs
 have v:=j5 h
 obtain⟨ws⟩:=b
 simp only at h1 h2
 have li:=tT ws.length 1 24
 unfold Ke
 simp only
 by_cases c:1≤ws.length∧ws.length≤24
 · have li:bh 0 N.cA [I ws.length,I 1,I 24] []=some (B true,[]):=by rw[li,decide_eq_true (by omega)]
   have e0:(ws.map World.e)[0]?=some (nth ws 0).e:=fB _ (by omega)
   have sz:=(h2 _ (aq (l:=ws) (j:=0) (by omega))).1
   have loop:=fun a b c d e=>Al (gc:=true) (dead:=[0,1,4,6,7]) (c:=K.bL) (vs:=[a,b,.bp 0 0,.bp 1 0,c,.t (tL (gF (nth ws 0).tags)),d,e,.t (.sl (ws.map World.e)),I ws.length,I 0]) (H:=[.box (af m),.box [.t (.sl (ws.map World.e))],.box [.t (tL (nth ws 0).tags)]])
    (swS m ws (nth ws 0).tags) ws.length (fun j=> !pwB m ws (nth ws 0).tags j) (fun _ q=>q.1= .ret∧q.2.vs[4]?=some (B false))
    (.exit 0,swS m ws (nth ws 0).tags ws.length) rfl
    (fun j hj hp=>(Hu h ws _ sz h2 j hj h1).1 (by simpa using hp))
    (fun j hj hp=>by
     obtain⟨q,q1,q2,q3⟩:=(Hu h ws _ sz h2 j hj h1).2 (by simpa using hp)
     exact⟨q,q1,by rw[q2];simp,q2,q3⟩)
    (by simp(disch:=omega)only[go_sem,K.bL,swS,↓reduceIte,reduceAdd,reduceSub]) (by simp)
   rw[JB]
   have va:=vQ (nth ws 0).tags
   have so:=vR (nth ws 0).tags sz
   have loop:=loop (.t m.e) (.t (Bel.e ⟨ws⟩)) (B false) .und .und
   generalize nth ws 0=x at*
   obtain⟨first,whr⟩:=x
   simp only[swS]at*
   generalize gF first=sf at*
   rcases loop with⟨e1,e2⟩ | ⟨j,⟨x,vs,H⟩,e1,e2,e3,e4⟩
   · have e2:exS bh K.mj _=_:=e2
     simp(disch:=omega)only[go_sem,K.dm,↓reduceIte,v,li,e0,va,so,c,and_self,decide_true,Bool.true_and,e1,e2,Option.isNone,reduceAdd,reduceSub]
   · have e2:exS bh K.mj _=_:=e2
     simp only at e3 e4
     subst e3
     simp(disch:=omega)only[go_sem,K.dm,↓reduceIte,v,li,e0,va,so,c,and_self,decide_true,Bool.true_and,e1,e2,Option.isNone,reduceAdd,reduceSub]
     simp(disch:=omega)only[go_sem,gV,e4,List.take_zero]
 · have li:bh 0 N.cA [I ws.length,I 1,I 24] []=some (B false,[]):=by rw[li,decide_eq_false (by omega)]
   simp(disch:=omega)only[go_sem,K.dm,↓reduceIte,v,li,c,decide_false,Bool.false_and,reduceAdd,reduceSub]
end Go.Ev
namespace Go.Ev
open Go
variable [Lib] [cu] [b0] [fG] [fH]
abbrev Kn:Int:=2147483648
section
variable {m : bu} (h : m.ok) {fl : List Spn}
include h
end
end Go.Ev
namespace Go.Ev
open Go
def clP(m:bu)(fl:List Spn)(y:List Int):Prop:=∀k,k<m.roads.length→∀back,0≤sG (nth m.roads k) (nth fl k) back→
 nth y ((nth m.roads k).src back).toNat+sG (nth m.roads k) (nth fl k) back≤Kn→
 nth y ((nth m.roads k).dst back).toNat≤nth y ((nth m.roads k).src back).toNat+sG (nth m.roads k) (nth fl k) back
variable [Lib] [cu] [b0] [fG] [fH]
end Go.Ev
namespace Go.Ev
open Go
variable [Lib] [cu] [b0] [fG] [fH]
def abZ(l:List Int):Prop:=∀x∈l,0≤x∧(x≤Kn∨x=1099511627776)
theorem abZ.bnd{l:List Int}(h:abZ l):bnd l:=fun x hx=>by have:=h x hx;simp only[Kn]at this;omega
end Go.Ev
namespace Go.Ev
open Go
variable [Lib] [cu] [b0] [gk] [gl] [fG] [fH]
structure Wu(m:bu)(fl:List Spn)(s:Wh):Prop where
 ln:s.frm.length=m.aa.length
 ti:inT s.time
 tm:abZ s.frm
 lo:∀x∈s.frm,s.time≤x
 cl:clP m fl s.frm
theorem Wu.valid{m:bu}{fl:List Spn}{s:Wh}(h:Wu m fl s):G1 m s=true:=by
 simp only[G1,aLr,decide_eq_true_eq,aLx,aLu]
 refine⟨fun j hj=>?_,h.ln,h.ti⟩
 have a:=h.tm _ (aq hj)
 have b:=h.lo _ (aq hj)
 unfold plS
 simp only[Kn]at a
 omega
end Go.Ev
namespace Go.Ev
open Go
variable [Lib] [cu] [b0] [gk] [gl] [jz] [fG] [fH] [gX] [fT] [eV] [dZ]
section
variable {m : bu} (hm : m.ok) (l : List Mch) (hl : l.length ≤ 1000) (hp : ∀ x ∈ l, x.pl.length ≤ 1000000) (s : Wh) (hs : s.frm.length ≤ 1000000) (b : Bel) (hb : b.sz) (t a : Int)
include hm hl hp hs hb
end
end Go.Ev
namespace Go.Ev
open Go
variable [Lib] [cu] [b0] [gk] [gl] [fG] [fH]
end Go.Ev
namespace Go.Ev
open Go
variable [Lib] [cu] [b0]
def sh(s x:Int):Int:=if x<1099511627776 then x+s else x
def shL(s:Int)(l:List Int):List Int:=l.map (sh s)
@[simp] theorem ab0 (s : Int) (l : List Int) : (shL s l).length = l.length := List.length_map ..
end Go.Ev
namespace Go.Ev
open Go
variable [Lib] [cu] [b0] [gk] [gl] [jz] [fG] [fH] [gX] [fT]
theorem o5(l:List Int)(x:Int){j:Nat}(hj:j<l.length):nth (l++[x]) j=nth l j:=by
 unfold nth;simp[aLl,aLg hj]
theorem HE(l:List Int)(x:Int):nth (l++[x]) l.length=x:=by
 unfold nth;simp[aLl]
def ab1(m:bu)(A:List Int)(k:Nat)(back:Bool)(d e:Nat):Prop:=k<m.roads.length∧0≤fF m k back 6 9 12∧(e:Int)=d+max 1 (fF m k back 6 9 12)∧(∀τ,d≤τ→τ<e→nth A τ=(nth m.roads k).src back)∧nth A e=(nth m.roads k).dst back∧e<A.length
theorem ab1.snoc{m:bu}{A:List Int}{k:Nat}{back:Bool}{d e:Nat}(h:ab1 m A k back d e)(x:Int):ab1 m (A++[x]) k back d e:=by
 obtain⟨h1,h2,h3,h4,h5,h6⟩:=h
 refine⟨h1,h2,h3,fun τ a b=>?_,?_,by simp;omega⟩
 · rw[o5 _ _ (by omega)];exact h4 τ a b
 · rw[o5 _ _ h6];exact h5
theorem Dr(w:Wh)(l:List Int)(b:Int)(n:Nat):∀k,k≤l.length→∀j,j<k→nth w.frm (nth l j).toNat≤b→(oS w l b n k).2=true
 | 0,_,j,hj,_=>by omega
 | k+1,hk,j,hj,h=>by
   simp only[oS,sC]
   by_cases c:j=k
   · subst c;rw[if_pos h]
   · have ih:=Dr w l b n k (by omega) j (by omega) h
     split
     · rfl
     · exact ih
theorem HF{l:List Int}{n:Nat}(h:Aa l n=true):Aa l ((n+1:Nat):Int)=true∧Aa (l++[(n:Int)]) ((n+1:Nat):Int)=true:=by
 simp only[Aa,aLx,aLu,decide_eq_true_eq]at h ⊢
 refine⟨fun j hj=>?_,fun j hj=>?_⟩
 · obtain⟨a,b,c⟩:=h j hj;exact⟨a,by omega,c⟩
 · by_cases c:j<l.length
   · obtain⟨a,b,c⟩:=h j c
     rw[o5 _ _ (by omega)]
     refine⟨a,by omega,fun hj=>?_⟩
     rw[o5 _ _ (by omega)];exact c hj
   · have e:j=l.length:=by simp at hj;omega
     subst e
     rw[HE]
     refine⟨by omega,by omega,fun hj=>?_⟩
     rw[o5 _ _ (by omega)]
     exact(h (l.length-1) (by omega)).2.1
theorem xQ(d:aR):∀n:Nat,Aa (d.kO n).1 n=true
 | 0=>rfl
 | n+1=>by
   have ih:=xQ d n
   have:=HF ih
   simp only[aR.kO]
   split
   · exact this.2
   · exact this.1
end Go.Ev
namespace Go.Ev
open Go
variable [Lib] [cu] [b0] [gk] [gl] [jz] [fG] [fH] [gX] [fT] [eV] [dZ]
end Go.Ev
namespace Go.Ev
open Go
variable [Lib] [cu] [b0] [gk] [gl] [jz] [fG] [fH] [gX] [fT] [eV] [dZ] [iJ] [eW]
theorem EI(l:List Int)(x:Int):decide (x∈l)=decide (0≤bV l x):=by
 rw[decide_eq_decide]
 unfold bV
 cases hf:(List.range l.length).find? (fun j=>decide (nth l j=x))with
 | some j=>
   obtain⟨h1,h2⟩:=su hf
   have h2:nth l j=x:=by simpa using h2
   refine⟨fun _=>by simp,fun _=>?_⟩
   rw[← h2];exact aq h1
 | none=>
   refine⟨fun h=>?_,fun h=>by simp at h⟩
   obtain⟨j,hj⟩:=aLf.1 h
   have h1:=(aLe.1 hj).1
   have:=List.find?_eq_none.1 hf j (aLu.2 h1)
   rw[bF hj]at this
   simp at this
theorem HG{m:bu}(h:m.ok)(h1:1≤m.aa.length)(w:Wh)(hl:w.frm.length≤1000000)(l:List Int)(hp:l.length≤1000000)(a c:Int):
 bh 0 N.b9 [.t w.e,.bp 0 0,.bp 1 0,.bp 2 0,.bp 3 0] [.box (af m),.box [.t (tL l)],.box [I a],.box [I c]]=some (.tup [.t (uu m w l a c).1.e,I (uu m w l a c).2],[.box (af m),.box [.t (tL l)],.box [I a],.box [I c]]):=by
 refine aE K.nY rfl ?_
 have g:=PW h h1 w hl l hp a c
 generalize (uu m w l a c)=r at*
 obtain⟨⟨t,f⟩,e⟩:=r
 obtain⟨aa,roads⟩:=m
 obtain⟨time,frm⟩:=w
 simp only[af]at*
 simp(disch:=omega)only[go_sem,K.b9,↓reduceIte,g,reduceAdd,reduceSub]
abbrev o6(m:bu)(l:List Int)(a c:Int)(ws out:List World):ah:=[.box (af m),.box [.t (tL l)],.box [I a],.box [I c],.box (af m),.box [.t (.sl (ws.map World.e))],.box [.nil],.box [.ref 8 0 out.length],.arr 2 false 0 ((out.map World.e).map .t)]
theorem vY{m:bu}(h:m.ok)(h1:1≤m.aa.length)(ws:List World)(hw:ws.length≤1000000)(tag:Int)(l:List Int)(hp:l.length≤1000000)(a c:Int)(i:Nat)(hi:i<ws.length)(hs:(nth ws i).sz)
 (hb:0≤bV (nth ws i).tags tag) (hb2:bV (nth ws i).tags tag<(nth ws i).whr.length) (out:List World) (ho:out.length≤1000000):
 ((vS m tag l a c (nth ws i)).2≠6∧(vS m tag l a c (nth ws i)).2≠8→eP true [0,1,4,7,9,10,11,12,13,17,18] 9 (exS bh K.cM ⟨[.und,.und,I tag,.fn N.b9 [.bp 0 0,.bp 1 0,.bp 2 0,.bp 3 0],.und,.bp 5 0,.bp 6 0,.und,.bp 7 0,.und,.und,.und,.und,.und,.t (.sl (ws.map World.e)),I ws.length,I i,.und,.und],o6 m l a c ws out⟩)=
   some ⟨[.und,.und,I tag,.fn N.b9 [.bp 0 0,.bp 1 0,.bp 2 0,.bp 3 0],.und,.bp 5 0,.bp 6 0,.und,.bp 7 0,.und,.und,.und,.und,.und,.t (.sl (ws.map World.e)),I ws.length,I (i+1),.und,.und],o6 m l a c ws (B5 tag (vS m tag l a c (nth ws i)) (nth ws i) out)⟩)∧
 ((vS m tag l a c (nth ws i)).2=6∨(vS m tag l a c (nth ws i)).2=8→∃vs H,exS bh K.cM ⟨[.und,.und,I tag,.fn N.b9 [.bp 0 0,.bp 1 0,.bp 2 0,.bp 3 0],.und,.bp 5 0,.bp 6 0,.und,.bp 7 0,.und,.und,.und,.und,.und,.t (.sl (ws.map World.e)),I ws.length,I i,.und,.und],o6 m l a c ws out⟩=
   some (.ret,⟨vs,H⟩)∧vs[6]?=some (.bp 6 0)∧vs[7]?=some (I (vS m tag l a c (nth ws i)).2)∧H[6]?=some (.box [.t (.sl (ws.map World.e))])∧H.take 4=[.box (af m),.box [.t (tL l)],.box [I a],.box [I c]]):=by
 unfold vS B5 Fj
 have c1:=yM (nth ws i) hs
 have br:bh 0 N.bk [.t (tL (nth ws i).tags),I tag] []=some (I (bV (nth ws i).tags tag),[]):=C3 (nth ws i).tags tag (by have:=hs.1;omega)
 have s3:=hs.2.2 _ (aq (l:=(nth ws i).whr) (j:=(bV (nth ws i).tags tag).toNat) (by omega))
 have se:=HG h h1 (nth (nth ws i).whr (bV (nth ws i).tags tag).toNat) s3 l hp a c
 generalize hx:nth ws i=x at*
 obtain⟨tags,whr⟩:=x
 simp only at c1 br s3 se hb hb2 ⊢
 generalize bV tags tag=k at*
 generalize hy:nth whr k.toNat=y at*
 generalize (uu m y l a c)=r at*
 obtain⟨⟨time,frm⟩,e⟩:=r
 obtain⟨t0,f0⟩:=y
 obtain⟨s1,s2, -⟩:=hs
 obtain⟨aa,roads⟩:=m
 simp only[af]at s1 s2 s3 se ⊢
 constructor
 · rintro ⟨n6,n8⟩
   by_cases e43:e=43
   · subst e43
     simp(disch:=omega)only[go_sem,K.cM,↓reduceIte,hx,hy,c1,br,se,reduceAdd,reduceSub]
   · by_cases e0:e=0
     · subst e0
       simp(disch:=omega)only[go_sem,K.cM,↓reduceIte,hx,hy,c1,br,se,reduceAdd,reduceSub]
       simp only[o6,af,aLv,List.length_singleton,List.map_append,List.map_cons,List.map_nil]
     · simp(disch:=omega)only[go_sem,K.cM,↓reduceIte,hx,hy,c1,br,se,reduceAdd,reduceSub]
       simp only[o6,af,aLv,List.length_singleton,List.map_append,List.map_cons,List.map_nil]
 · rintro (h68 | h68)<;>subst h68
   · simp(disch:=omega)only[go_sem,K.cM,↓reduceIte,hx,hy,c1,br,se,reduceAdd,reduceSub]
     exact⟨_,_,rfl,rfl,rfl,rfl,rfl⟩
   · simp(disch:=omega)only[go_sem,K.cM,↓reduceIte,hx,hy,c1,br,se,reduceAdd,reduceSub]
     exact⟨_,_,rfl,rfl,rfl,rfl,rfl⟩
theorem HH{m:bu}(h:m.ok)(h1:1≤m.aa.length)(b:Bel)(hs:b.sz)(tag:Int)(l:List Int)(hp:l.length≤1000000)(a c:Int):
 bh 0 N.dn [.t m.e,.t b.e,I tag,.fn N.b9 [.bp 0 0,.bp 1 0,.bp 2 0,.bp 3 0]] [.box (af m),.box [.t (tL l)],.box [I a],.box [I c]]=some (.tup [.t (rF m b tag l a c).1.e,I (rF m b tag l a c).2],[.box (af m),.box [.t (tL l)],.box [I a],.box [I c]]):=by
 refine aE K.nX rfl ?_
 have va:=xP h b hs
 unfold rF
 by_cases hv:zc m b=true
 · have n1:1≤b.aH.length:=(mO hv).1
   have e0:(b.aH.map World.e)[0]?=some (nth b.aH 0).e:=fB _ (by omega)
   have ct:=qm (nth b.aH 0).tags tag (by have:=(hs.2 _ (aq (l:=b.aH) (j:=0) (by omega))).1;omega)
   rw[EI]at ct
   by_cases c0:kW m b tag=0
   · obtain⟨-,bb⟩:=PT c0
     rw[decide_eq_true (bb 0 (by omega)).1]at ct
     rw[if_neg (by simpa using c0)]
     obtain⟨ws⟩:=b
     obtain⟨s1,s2⟩:=hs
     simp only at s1 s2 bb va e0 ct ⊢
     rw[hv]at va
     have ln:=Aw m tag l a c ws
     have loop:=fun x y z4 z7 z9 z10 z11 z12 z13 z17 z18=>Al (gc:=true) (dead:=[0,1,4,7,9,10,11,12,13,17,18]) (c:=K.cM)
      (vs:=[x,y,I tag,.fn N.b9 [.bp 0 0,.bp 1 0,.bp 2 0,.bp 3 0],z4,.bp 5 0,.bp 6 0,z7,.bp 7 0,z9,z10,z11,z12,z13,.t (.sl (ws.map World.e)),I ws.length,I 0,z17,z18]) (H:=o6 m l a c ws [])
      (fun i=>⟨[.und,.und,I tag,.fn N.b9 [.bp 0 0,.bp 1 0,.bp 2 0,.bp 3 0],.und,.bp 5 0,.bp 6 0,.und,.bp 7 0,.und,.und,.und,.und,.und,.t (.sl (ws.map World.e)),I ws.length,I i,.und,.und],o6 m l a c ws (kX m tag l a c ws i)⟩) ws.length (xI m tag l a c ws)
      (fun i q=>q.1= .ret∧q.2.vs[6]?=some (.bp 6 0)∧q.2.vs[7]?=some (I (vS m tag l a c (nth ws i)).2)∧q.2.H[6]?=some (.box [.t (.sl (ws.map World.e))])∧q.2.H.take 4=[.box (af m),.box [.t (tL l)],.box [I a],.box [I c]])
      (.exit 0,⟨[.und,.und,I tag,.fn N.b9 [.bp 0 0,.bp 1 0,.bp 2 0,.bp 3 0],.und,.bp 5 0,.bp 6 0,.und,.bp 7 0,.und,.und,.und,.und,.und,.t (.sl (ws.map World.e)),I ws.length,I ws.length,.und,.und],o6 m l a c ws (kX m tag l a c ws ws.length)⟩) rfl
      (fun j hj hq=>by
       have:=ln j
       have hq:¬((vS m tag l a c (nth ws j)).2=6∨(vS m tag l a c (nth ws j)).2=8):=by simpa [xI]using hq
       obtain⟨b1,b2⟩:=bb j hj
       have r:=(vY h h1 ws s1 tag l hp a c j hj (s2 _ (aq hj)) b1 b2 (kX m tag l a c ws j) (by omega)).1 (by omega)
       simp only[kX]
       exact r)
      (fun j hj hq=>by
       have:=ln j
       have hq:(vS m tag l a c (nth ws j)).2=6∨(vS m tag l a c (nth ws j)).2=8:=by simpa [xI]using hq
       obtain⟨b1,b2⟩:=bb j hj
       obtain⟨vs,H,q1,q2⟩:=(vY h h1 ws s1 tag l hp a c j hj (s2 _ (aq hj)) b1 b2 (kX m tag l a c ws j) (by omega)).2 hq
       exact⟨_,q1,by simp,rfl,q2⟩)
      (by
       have:=ln ws.length
       generalize kX m tag l a c ws ws.length=L at*
       simp(disch:=omega)only[go_sem,K.cM,↓reduceIte,o6,reduceAdd,reduceSub]) (by simp)
     have loop':∀x y z4 z7 z9 z10 z11 z12 z13 z17 z18,_∨_:=loop
     clear loop
     rcases loop' (.t m.e) (.t (Bel.e ⟨ws⟩)) (.bp 4 0) (I 0) .und .und .und .und .und .und .und with⟨e1,e2⟩ | ⟨j,⟨x,vs,H⟩,e1,e2,e3,e4,e5,e6,e7⟩
     · have e2:exS bh K.mr _=_:=e2
       simp only[o6,List.map_nil,List.length_nil]at e2
       have:=ln ws.length
       rw[e1]
       generalize kX m tag l a c ws ws.length=L at*
       obtain⟨aa,roads⟩:=m
       simp only[af]at*
       generalize nth ws 0=x at*
       obtain⟨first,whr⟩:=x
       by_cases L0:L.length=0
       · simp(disch:=omega)only[go_sem,K.dn,↓reduceIte,va,e0,ct,e2,L0,reduceAdd,reduceSub]
       · simp(disch:=omega)only[go_sem,K.dn,↓reduceIte,va,e0,ct,e2,L0,reduceAdd,reduceSub]
     · have e2:exS bh K.mr _=_:=e2
       simp only[o6,List.map_nil,List.length_nil]at e2
       rw[e1]
       simp only at e3 e4 e5 e6 e7
       subst e3
       obtain⟨aa,roads⟩:=m
       simp only[af]at*
       generalize nth ws 0=x at*
       obtain⟨first,whr⟩:=x
       simp(disch:=omega)only[go_sem,K.dn,↓reduceIte,va,e0,ct,e2,e4,e5,e6,e7,reduceAdd,reduceSub]
   · have c1:¬0≤bV (nth b.aH 0).tags tag:=fun hh=>c0 (by unfold kW;rw[if_neg (by simp[hv]),if_neg (by omega)])
     have c2:kW m b tag=41:=by unfold kW;rw[if_neg (by simp[hv]),if_pos (by omega)]
     rw[decide_eq_false c1]at ct
     rw[if_pos c0,c2]
     rw[hv]at va
     obtain⟨ws⟩:=b
     obtain⟨aa,roads⟩:=m
     simp only[af]at*
     generalize nth ws 0=x at*
     obtain⟨first,whr⟩:=x
     simp(disch:=omega)only[go_sem,K.dn,↓reduceIte,va,e0,ct,reduceAdd,reduceSub]
 · have hv:zc m b=false:=by simpa using hv
   have c2:kW m b tag=6:=by unfold kW;rw[if_pos hv]
   rw[if_pos (by omega),c2]
   rw[hv]at va
   obtain⟨ws⟩:=b
   obtain⟨aa,roads⟩:=m
   simp only[af]at*
   simp(disch:=omega)only[go_sem,K.dn,↓reduceIte,va,reduceAdd,reduceSub]
theorem Ko{m:bu}(h:m.ok)(h1:1≤m.aa.length)(b:Bel)(hs:b.sz)(tag:Int)(l:List Int)(hp:l.length≤1000000)(a c:Int):
 bh 0 N.gM [.t m.e,.t b.e,I tag,.t (tL l),I a,I c] []=some (.tup [.t (rF m b tag l a c).1.e,I (rF m b tag l a c).2],[]):=by
 refine aE K.qx rfl ?_
 have g:=HH h h1 b hs tag l hp a c
 generalize rF m b tag l a c=r at*
 obtain⟨⟨r1⟩,r2⟩:=r
 obtain⟨aa,roads⟩:=m
 obtain⟨ws⟩:=b
 simp only[af]at*
 simp(disch:=omega)only[go_sem,K.gM,↓reduceIte,g,reduceAdd,reduceSub]
theorem Kp(l:List Int)(hl:l.length≤1000000)(x:Int):bh 0 N.dB [I x,.bp 0 0] [.box [.t (tL l)]]=some (B (decide (x∈l)),[.box [.t (tL l)]]):=by
 refine aE K.mu rfl ?_
 have g:=qm l x (by omega)
 simp(disch:=omega)only[go_sem,K.dB,↓reduceIte,g,reduceAdd,reduceSub]
theorem Kq(a b:Wh)(t:Int):Au a b t=(kj a t).any fun x=>decide (x∈kj b t):=by
 rw[Bool.eq_iff_iff,List.any_eq_true]
 unfold Au
 rw[List.any_eq_true]
 constructor
 · rintro ⟨p,h1,h2⟩
   have h1:=aLu.1 h1
   have h2:=of_decide_eq_true h2
   exact⟨p,mP.2 ⟨p,rfl,by omega,decide_eq_true h2.1⟩,decide_eq_true (mP.2 ⟨p,rfl,by omega,decide_eq_true h2.2⟩)⟩
 · rintro ⟨x,h1,h2⟩
   obtain⟨p,rfl,h3,h4⟩:=mP.1 h1
   obtain⟨q,e,h5,h6⟩:=mP.1 (of_decide_eq_true h2)
   have e:p=q:=by omega
   subst e
   exact⟨p,aLu.2 (by omega),decide_eq_true ⟨of_decide_eq_true h4,of_decide_eq_true h6⟩⟩
theorem Kr(a b:Wh)(t:Int)(ha:a.frm.length≤1000000)(hb:b.frm.length≤1000000):bh 0 N.gw [.t a.e,.t b.e,I t] []=some (B (Au a b t),[]):=by
 refine aE K.o4 rfl ?_
 have p1:=AD a t ha
 have p2:=AD b t hb
 have l1:=Ay a t
 have l2:=Ay b t
 have cf:bh 0 N.aD [.t (tL (kj a t)),.fn N.dB [.bp 0 0]] [.box [.t (tL (kj b t))]]=some (B ((kj a t).any fun x=>decide (x∈kj b t)),[.box [.t (tL (kj b t))]]):=
  oQ (kj a t) (by omega) N.dB [[tL (kj b t)]] _ fun x hx=>Kp _ (by omega) x
 rw[Kq]
 generalize kj a t=pa at*
 generalize kj b t=pb at*
 obtain⟨t1,f1⟩:=a
 obtain⟨t2,f2⟩:=b
 simp only at*
 simp(disch:=omega)only[go_sem,K.gw,↓reduceIte,p1,p2,cf,reduceAdd,reduceSub]
theorem HI(l:List World)(h0:0<l.length)(hl:l.length≤1000000):bh 1 N.aN [.t (.sl (l.map World.e))] []=some (.ref 0 0 l.length,[.arr 2 false 0 ((l.map World.e).map .t)]):=by
 refine aE K.de rfl ?_
 have e:=fun H=>uq H (l.map World.e) (by intro h;rw[List.map_eq_nil_iff]at h;rw[h]at h0;simp at h0)
 simp(disch:=omega)only[go_sem,K.aN,↓reduceIte,e,reduceAdd,reduceSub]
abbrev sxV(ws out:List World)(i j:Nat)(t:Int)(k:Int):List D:=[.und,.und,I i,I j,I t,.und,.bp 1 0,.bp 2 0,.und,.und,.ref 3 0 out.length,.und,.und,.und,.und,.und,.und,.t (.sl (ws.map World.e)),I ws.length,I k,.und,.und]
theorem xR{α:Type} [Dat α](l:List α)(i:Nat)(h:i<l.length):l.set i (nth l i)=l:=by
 rw[bF (aLc h),List.set_getElem_self]
theorem adg(w:Wh)(t:Int)(c:¬(eE w t).2=0):(eE w t).1=w:=by
 unfold eE at c ⊢
 split
 · rfl
 · rename_i c';rw[if_neg c']at c;exact absurd rfl c
abbrev sxI(ws:List World)(n i j:Nat)(t:Int)(k:Int)(c:Int):List D:=[.und,.und,I i,I j,I t,.und,.bp 1 0,.bp 2 0,.und,.und,.ref 3 0 n,.und,.bp 7 0,.und,.und,.und,.und,.t (.sl (ws.map World.e)),I ws.length,I k,.t (.agg [.int .i64 i,.int .i64 j]),I c]
abbrev sxH(m:bu)(ws out:List World)(x0 x1:T)(tags:List Int)(q:List Wh):ah:=[.box (af m),.box [.t (.sl (ws.map World.e))],.box [.nil],.arr 2 false 0 ((out.map World.e).map .t),.box [.t x0,.t x1],.arr 1 false 0 ((tags.map (T.int .i64)).map .t),.arr 2 false 0 ((q.map Wh.e).map .t),.box [.ref 5 0 tags.length,.ref 6 0 q.length]]
theorem HJ(m:bu)(ws out:List World)(x0 x1:T)(tags:List Int)(q:List Wh)(n i j:Nat)(t:Int)(k:Int)(hq:q.length≤1000000)(hi:i<q.length)(hw:(nth q i).frm.length≤1000000):
 eP true [0,1,5,8,9,11,13,14,15,16] 8 (exS bh K.b6 ⟨sxI ws n i j t k 0,sxH m ws out x0 x1 tags q⟩)=some ⟨sxI ws n i j t k 1,sxH m ws out x0 x1 tags (q.set i (eE (nth q i) t).1)⟩:=by
 have r:=An (nth q i) t hw
 by_cases c:(eE (nth q i) t).2=0
 · generalize eE (nth q i) t=z at*
   obtain⟨⟨t1,f1⟩,e1⟩:=z
   simp only at c
   subst c
   generalize hx:nth q i=x at*
   obtain⟨tx,fx⟩:=x
   simp only at*
   simp(disch:=omega)only[go_sem,K.b6,↓reduceIte,hx,r,sxH,List.length_set,reduceAdd,reduceSub]
 · have e:=adg _ _ c
   rw[e,xR q i hi]
   rw[e]at r
   generalize (eE (nth q i) t).2=z at*
   generalize hx:nth q i=x at*
   obtain⟨tx,fx⟩:=x
   simp only at*
   simp(disch:=omega)only[go_sem,K.b6,↓reduceIte,hx,r,c,sxH,reduceAdd,reduceSub]
theorem HK(m:bu)(ws out:List World)(x0 x1:T)(tags:List Int)(q:List Wh)(n i j:Nat)(t:Int)(k:Int)(hq:q.length≤1000000)(hi:j<q.length)(hw:(nth q j).frm.length≤1000000):
 eP true [0,1,5,8,9,11,13,14,15,16] 8 (exS bh K.b6 ⟨sxI ws n i j t k 1,sxH m ws out x0 x1 tags q⟩)=some ⟨sxI ws n i j t k 2,sxH m ws out x0 x1 tags (q.set j (eE (nth q j) t).1)⟩:=by
 have r:=An (nth q j) t hw
 by_cases c:(eE (nth q j) t).2=0
 · generalize eE (nth q j) t=z at*
   obtain⟨⟨t1,f1⟩,e1⟩:=z
   simp only at c
   subst c
   generalize hx:nth q j=x at*
   obtain⟨tx,fx⟩:=x
   simp only at*
   simp(disch:=omega)only[go_sem,K.b6,↓reduceIte,hx,r,sxH,List.length_set,Int.reduceAdd,reduceAdd,reduceSub]
 · have e:=adg _ _ c
   rw[e,xR q j hi]
   rw[e]at r
   generalize (eE (nth q j) t).2=z at*
   generalize hx:nth q j=x at*
   obtain⟨tx,fx⟩:=x
   simp only at*
   simp(disch:=omega)only[go_sem,K.b6,↓reduceIte,hx,r,c,sxH,Int.reduceAdd,reduceAdd,reduceSub]
theorem Ks(m:bu)(ws out:List World)(x0 x1:T)(tags:List Int)(q:List Wh)(n i j:Nat)(hij:i≠j)(t:Int)(k:Int)(hq:q.length≤1000000)(hi:i<q.length)(hj:j<q.length)(hwi:(nth q i).frm.length≤1000000)(hwj:(nth q j).frm.length≤1000000)(z:D):
 exS bh K.mQ ⟨[.und,.und,I i,I j,I t,.und,.bp 1 0,.bp 2 0,.und,.und,.ref 3 0 n,z,.bp 7 0,.und,.und,.und,.und,.t (.sl (ws.map World.e)),I ws.length,I k,.t (.agg [.int .i64 i,.int .i64 j]),I 0],sxH m ws out x0 x1 tags q⟩=
  some (.exit 3,⟨sxI ws n i j t k 2,sxH m ws out x0 x1 tags ((q.set i (eE (nth q i) t).1).set j (eE (nth q j) t).1)⟩):=by
 have n1:nth (q.set i (eE (nth q i) t).1) j=nth q j:=by rw[sJ _ _ hi,if_neg (fun e=>hij e.symm)]
 have r1:=HJ m ws out x0 x1 tags q n i j t k hq hi hwi
 have r2:=HK m ws out x0 x1 tags (q.set i (eE (nth q i) t).1) n i j t k (by rw[List.length_set];exact hq) (by rw[List.length_set];exact hj) (by rw[n1];exact hwj)
 rw[n1]at r2
 show kz true _ (exS bh K.b6) ⟨sxI ws n i j t k 0,sxH m ws out x0 x1 tags q⟩=_
 refine fL r1 (fL r2 (cG ?_ (by simp)))
 generalize (q.set i (eE (nth q i) t).1).set j (eE (nth q j) t).1=q2 at*
 simp(disch:=omega)only[go_sem,K.b6,↓reduceIte,sxH,reduceAdd,reduceSub]
theorem Cc(m:bu)(ws:List World)(hw:ws.length≤100000)(i j:Nat)(hij:i≠j)(t:Int)(k:Nat)(hk:k<ws.length)(hs:(nth ws k).sz)
 (i1:i<(nth ws k).tags.length) (j1:j<(nth ws k).tags.length) (hl:(nth ws k).whr.length=(nth ws k).tags.length) (out:List World) (ho:out.length≤1000000):
 eP true [0,1,5,8,9,11,12,13,14,15,16,20,21] 4 (exS bh K.fk ⟨sxV ws out i j t k,exH m ws out⟩)=
  some ⟨sxV ws (wI i j t (nth ws k) out) i j t (k+1),exH m ws (wI i j t (nth ws k) out)⟩:=by
 have c1:=yM (nth ws k) hs
 have inn:=fun z=>Ks m ws out (tL (nth ws k).tags) (.sl ((nth ws k).whr.map Wh.e)) (((nth ws k).tags.set i (nth (nth ws k).tags j)).set j (nth (nth ws k).tags i)) (nth ws k).whr out.length i j hij t k (by have:=hs.2.1;omega) (by omega) (by omega) (hs.2.2 _ (aq (by omega))) (hs.2.2 _ (aq (by omega))) z
 simp only[sxI,sxH,List.length_set]at inn
 have mt:=Kr (nth (nth ws k).whr i) (nth (nth ws k).whr j) t (hs.2.2 _ (aq (by omega))) (hs.2.2 _ (aq (by omega)))
 unfold wI yJ yI
 have n1:∀w,nth ((nth ws k).whr.set i w) j=nth (nth ws k).whr j:=fun w=>by rw[sJ _ _ (by omega),if_neg (fun e=>hij e.symm)]
 generalize hx:nth ws k=x at*
 obtain⟨tags,whr⟩:=x
 obtain⟨s1,s2,s3⟩:=hs
 simp only at*
 generalize hwi:nth whr i=wi at*
 generalize hwj:nth whr j=wj at*
 generalize eE wi t=ri at*
 obtain⟨⟨t1,f1⟩,e1⟩:=ri
 generalize eE wj t=rj at*
 obtain⟨⟨t2,f2⟩,e2⟩:=rj
 obtain⟨ti,fi⟩:=wi
 obtain⟨tj,fj⟩:=wj
 simp only at*
 cases hm:Au ⟨ti,fi⟩ ⟨tj,fj⟩ t with
 | true=>
   rw[hm]at mt
   simp(disch:=omega)only[go_sem,K.fk,↓reduceIte,exH,hx,hwi,hwj,n1,c1,mt,inn,List.length_set,reduceAdd,reduceSub]
   simp only[sxV,aLv,List.length_singleton]
 | false=>
   rw[hm]at mt
   simp(disch:=omega)only[go_sem,K.fk,↓reduceIte,exH,hx,hwi,hwj,n1,c1,mt,inn,List.length_set,aLt,reduceAdd,reduceSub]
theorem Kt{m:bu}(h:m.ok)(b:Bel)(hs:b.sz)(h9:b.aH.length≤9)(i j t:Int):
 bh 0 N.bD [.t m.e,.t b.e,I i,I j,I t] []=some (.tup [.t (sK m b i j t).1.e,I (sK m b i j t).2],[]):=by
 refine aE K.kn rfl ?_
 have vb:=xP h b hs
 unfold sK
 cases hb:zc m b with
 | false=>
   rw[hb]at vb
   obtain⟨ws⟩:=b
   obtain⟨aa,roads⟩:=m
   simp only[af]at*
   simp(disch:=omega)only[go_sem,K.bD,↓reduceIte,vb,reduceAdd,reduceSub]
 | true=>
   rw[hb]at vb
   have bv:=Ws (ws:=b.aH) hb
   obtain⟨w1,w2,f1,f2,w5⟩:=mO hb
   obtain⟨ws⟩:=b
   obtain⟨s1,s2⟩:=hs
   simp only at s1 s2 w1 w2 w5 f1 f2 vb bv h9 ⊢
   have g0:(ws.map World.e)[0]?=some (nth ws 0).e:=fB _ (by omega)
   have wl:∀k,k<ws.length→(nth ws k).tags.length=(nth ws 0).tags.length∧(nth ws k).whr.length=(nth ws 0).tags.length:=fun k hk=>by
    obtain⟨q1,q2, -⟩:=iI (w5 k hk)
    exact⟨q1,q2⟩
   have fl:1≤(nth ws 0).tags.length∧(nth ws 0).tags.length≤12:=⟨bv.f1,bv.f2⟩
   have in1:=tT i 0 (((nth ws 0).tags.length:Int)-1)
   have in2:=tT j 0 (((nth ws 0).tags.length:Int)-1)
   have in3:=tT t 0 2147483648
   rw[if_neg (by simp)]
   by_cases ci:i<0∨((nth ws 0).tags.length:Int)≤i
   · rw[if_pos (by omega)]
     rw[decide_eq_false (show ¬(0≤i∧i≤((nth ws 0).tags.length:Int)-1)by omega)]at in1
     generalize nth ws 0=x at*
     obtain⟨first,whr⟩:=x
     obtain⟨aa,roads⟩:=m
     simp only[af]at*
     simp(disch:=omega)only[go_sem,K.bD,↓reduceIte,vb,g0,in1,reduceAdd,reduceSub]
   · rw[decide_eq_true (show 0≤i∧i≤((nth ws 0).tags.length:Int)-1 by omega)]at in1
     by_cases cj:j<0∨((nth ws 0).tags.length:Int)≤j
     · rw[if_pos (by omega)]
       rw[decide_eq_false (show ¬(0≤j∧j≤((nth ws 0).tags.length:Int)-1)by omega)]at in2
       generalize nth ws 0=x at*
       obtain⟨first,whr⟩:=x
       obtain⟨aa,roads⟩:=m
       simp only[af]at*
       simp(disch:=omega)only[go_sem,K.bD,↓reduceIte,vb,g0,in1,in2,reduceAdd,reduceSub]
     · rw[decide_eq_true (show 0≤j∧j≤((nth ws 0).tags.length:Int)-1 by omega)]at in2
       by_cases c5:i=j
       · rw[if_pos (by omega)]
         generalize nth ws 0=x at*
         obtain⟨first,whr⟩:=x
         obtain⟨aa,roads⟩:=m
         simp only[af]at*
         subst c5
         simp(disch:=omega)only[go_sem,K.bD,↓reduceIte,vb,g0,in1,in2,reduceAdd,reduceSub]
       · rw[if_neg (by omega)]
         by_cases ct:inT t
         · rw[if_neg (fun h=>h ct)]
           rw[decide_eq_true (show 0≤t∧t≤2147483648 from ct)]at in3
           obtain⟨i',rfl⟩:=Int.eq_ofNat_of_zero_le (show 0≤i by omega)
           obtain⟨j',rfl⟩:=Int.eq_ofNat_of_zero_le (show 0≤j by omega)
           simp only[Int.toNat_natCast]
           have ln:=xJ i' j' t ws
           have loop:∀z0 z1 z5 z8 z9 z11 z12 z13 z14 z15 z16 z20 z21:D,exS bh K.mR ⟨[z0,z1,I i',I j',I t,z5,.bp 1 0,.bp 2 0,z8,z9,.ref 3 0 ws.length,z11,z12,z13,z14,z15,z16,.t (.sl (ws.map World.e)),I ws.length,I 0,z20,z21],exH m ws ws⟩=
            some (.exit 1,⟨sxV ws (gY i' j' t ws ws.length) i' j' t ws.length,exH m ws (gY i' j' t ws ws.length)⟩):=by
            intro z0 z1 z5 z8 z9 z11 z12 z13 z14 z15 z16 z20 z21
            refine fP (fun k=>⟨sxV ws (gY i' j' t ws k) i' j' t k,exH m ws (gY i' j' t ws k)⟩) ws.length rfl ?_ ?_ (by simp)
            · intro k hk
              obtain⟨q1,q2⟩:=wl k hk
              have:=ln k
              exact Cc m ws (by omega) i' j' (by omega) t k hk (s2 _ (aq hk)) (by omega) (by omega) (by omega) _ (by omega)
            · have:=ln ws.length
              generalize gY i' j' t ws ws.length=L at*
              simp(disch:=omega)only[go_sem,K.fk,↓reduceIte,exH,sxV,reduceAdd,reduceSub]
           have ln:=ln ws.length
           have wv:=rM h (fun x hx=>bv.wv x hx) (i:=i') (j:=j') (by omega) (by omega) t ws.length (aLs _)
           have ty:=Km h bv.pr bv.f1 bv.f2 (gY i' j' t ws ws.length) wv (by omega) (by omega)
           have cl:=HI ws (by omega) (by omega)
           generalize gY i' j' t ws ws.length=L at*
           generalize qw L=Z at*
           simp only[exH,sxV]at loop
           generalize nth ws 0=x at*
           obtain⟨first,whr⟩:=x
           obtain⟨aa,roads⟩:=m
           simp only[af]at*
           by_cases c6:24<Z.length
           · simp(disch:=omega)only[go_sem,K.bD,↓reduceIte,vb,g0,in1,in2,in3,c5,c6,loop,ty,cl,reduceAdd,reduceSub]
           · simp(disch:=omega)only[go_sem,K.bD,↓reduceIte,vb,g0,in1,in2,in3,c5,c6,loop,ty,cl,reduceAdd,reduceSub]
         · rw[if_pos ct]
           rw[decide_eq_false (show ¬(0≤t∧t≤2147483648)from ct)]at in3
           generalize nth ws 0=x at*
           obtain⟨first,whr⟩:=x
           obtain⟨aa,roads⟩:=m
           simp only[af]at*
           simp(disch:=omega)only[go_sem,K.bD,↓reduceIte,vb,g0,in1,in2,in3,c5,reduceAdd,reduceSub]
end Go.Ev
namespace Go.Ev
open Go
variable [Lib] [cu] [b0] [gk] [gl]
def Ku(l:List Int)(t:Int):Nat→List Int
 | 0=>l
 | p+1=>if t<nth (Ku l t p) p then(Ku l t p).set p never else Ku l t p
def Kv(m:bu)(w:Wh)(t:Int):Wh:=⟨t,dj m t none (Ku w.frm t w.frm.length)⟩
theorem AG{H H':ah}:∀(k:Nat) (d:D),(∀i∈en H k d,∃sz pin pin' ep es,H[i]?=some (.arr sz pin ep es)∧H'[i]?=some (.arr sz pin' ep es))→frz H' k d=frz H k d∧en H' k d=en H k d:=by
 intro k
 induction k with
 | zero=>intro d _;cases d<;>exact⟨rfl,rfl⟩
 | succ k ih=>
   intro d h
   have list:∀es:List D,(∀i∈es.flatMap (en H k),∃sz pin pin' ep es,H[i]?=some (.arr sz pin ep es)∧H'[i]?=some (.arr sz pin' ep es))→bR (frz H' k) es=bR (frz H k) es∧es.flatMap (en H' k)=es.flatMap (en H k):=by
    intro es
    induction es with
    | nil=>intro _;exact⟨rfl,rfl⟩
    | cons e es ihl=>
      intro he
      obtain⟨a1,a2⟩:=ih e fun i hi=>he i (by simp[hi])
      obtain⟨b1,b2⟩:=ihl fun i hi=>he i (by rw[List.flatMap_cons];exact List.mem_append_right _ hi)
      exact⟨by simp only[bR,a1,b1],by simp only[List.flatMap_cons,a2,b2]⟩
   cases d with
   | agg cs=>
     simp only[en]at h
     obtain⟨a1,a2⟩:=list cs h
     exact⟨by simp only[frz,a1],by simp only[en,a2]⟩
   | ref id ep n=>
     obtain⟨sz,pin,pin',ep',es,e1,e2⟩:=h id (by simp[en])
     have:∀i∈es.flatMap (en H k),∃sz pin pin' ep es,H[i]?=some (.arr sz pin ep es)∧H'[i]?=some (.arr sz pin' ep es):=fun i hi=>h i (by simp only[en,e1];exact List.mem_cons_of_mem _ hi)
     obtain⟨a1,a2⟩:=list es this
     refine⟨?_,by simp only[en,e1,e2,a2]⟩
     simp only[frz,eI,e1,e2]
     by_cases c:ep=ep'∧n=es.length
     · simp only[if_pos c,aLq,a1]
     · simp only[if_neg c,Option.bind_none]
   | sub id ep n lo hi=>
     obtain⟨sz,pin,pin',ep',es,e1,e2⟩:=h id (by simp[en])
     have:∀i∈es.flatMap (en H k),∃sz pin pin' ep es,H[i]?=some (.arr sz pin ep es)∧H'[i]?=some (.arr sz pin' ep es):=fun i hi=>h i (by simp only[en,e1];exact List.mem_cons_of_mem _ hi)
     obtain⟨a1,a2⟩:=list es this
     have:∀i∈((es.drop lo).take (hi-lo)).flatMap (en H k),∃sz pin pin' ep es,H[i]?=some (.arr sz pin ep es)∧H'[i]?=some (.arr sz pin' ep es):=fun i hi=>by
      obtain⟨e,he,hi⟩:=List.mem_flatMap.1 hi
      exact this i (List.mem_flatMap.2 ⟨e,List.mem_of_mem_drop (List.mem_of_mem_take he),hi⟩)
     obtain⟨b1,b2⟩:=list _ this
     refine⟨?_,by simp only[en,e1,e2,a2]⟩
     simp only[frz,eI,e1,e2]
     by_cases c:ep=ep'∧n=es.length
     · simp only[if_pos c,aLq,b1]
     · simp only[if_neg c,Option.bind_none]
   | _=>exact⟨rfl,rfl⟩
section
variable {bm : bu} (hm : bm.ok) {t : Int} (i : Nat) {H : ah} {io iB iO n a fbi tl : Nat} {es : List D} {whr : List Wh} (e1 : H[iO]? = some (.box [.ref io 0 n])) (e2 : H[io]? = some (.arr 2 false 0 es)) (e3 : es.length = n)
 (e4:es[i]?=some (.agg [.ref a 0 tl,.ref fbi 0 whr.length])) (e5:H[fbi]?=some (.arr 2 false 0 (whs whr))) (e6:H[iB]?=some (.box (af bm))) (hi:i<n) (hn:n≤1000000) (hl:whr.length≤1000000)
include hm e1 e2 e3 e4 e5 e6 hi hn hl
end
theorem Rp.app{H:ah}{id:Nat}{es:List D}{fa fb:Nat→Nat}{out:List World}(hr:Rp H id es fa fb out)(t:ah):Rp (H++t) id es fa fb out:=
 ⟨by rw[jC (nL hr.arr)];exact hr.arr,hr.len,hr.el,fun j hj=>by rw[jC (nL (hr.ha j hj))];exact hr.ha j hj,fun j hj=>by rw[jC (nL (hr.hb j hj))];exact hr.hb j hj,hr.na,hr.nb,hr.nab,hr.nbb⟩
structure SlH(H:ah)(b:List World)(bm:bu)(iB iO io:Nat)(es:List D)(fa fb:Nat→Nat)(A:List Nat)(O:List World):Prop where
 h1:H[1]?=some (.box [.ref 3 0 b.length])
 h2:H[2]?=some (.box [.nil])
 hB:H[iB]?=some (.box (af bm))
 hO:H[iO]?=some (.box [.ref io 0 O.length])
 rp:Rp H io es fa fb O
 ar:∀i∈A,∃sz pin ep es,H[i]?=some (.arr sz pin ep es)
 nA:∀i∈A,∀j,j<O.length→i≠fb j
 eA:en H 7 (.ref 3 0 b.length)=A
 fr:frz H 7 (.ref 3 0 b.length)=some (.sl (b.map World.e))
theorem SlH.step{H:ah}{b:List World}{bm:bu}{iB iO io:Nat}{es:List D}{fa fb:Nat→Nat}{A:List Nat}{O:List World}(h:SlH H b bm iB iO io es fa fb A O){i:Nat}(hi:i<O.length)(x:World)(ht:(nth O i).tags=x.tags)
 (hw:x.whr.length=(nth O i).whr.length) (o:Obj):SlH (H.set (fb i) (.arr 2 false 0 (whs x.whr))++[o]) b bm iB iO io es fa fb A (O.set i x):=by
 have hb:=h.rp.hb i hi
 have nb:∀ {k:Nat} {cs:List D},H[k]?=some (.box cs)→(H.set (fb i) (.arr 2 false 0 (whs x.whr))++[o])[k]?=some (.box cs):=fun{k cs} hk=>by
  have ne:fb i≠k:=fun e=>by rw[e,hk]at hb;cases hb
  rw[jC (by rw[List.length_set];exact nL hk),ji ne];exact hk
 have na:∀k∈A,(H.set (fb i) (.arr 2 false 0 (whs x.whr))++[o])[k]?=H[k]?:=fun k hk=>by
  obtain⟨sz,pin,ep,es',e⟩:=h.ar k hk
  rw[jC (by rw[List.length_set];exact nL e),ji (fun e=>h.nA k hk i hi e.symm)]
 have fc:=AG (H:=H) (H':=H.set (fb i) (.arr 2 false 0 (whs x.whr))++[o]) 7 (.ref 3 0 b.length) (fun k hk=>by
  rw[h.eA]at hk
  obtain⟨sz,pin,ep,es',e⟩:=h.ar k hk
  exact⟨sz,pin,pin,ep,es',e,by rw[na k hk];exact e⟩)
 refine⟨nb h.h1,nb h.h2,nb h.hB,by rw[List.length_set];exact nb h.hO,(h.rp.merge hi x ht hw).app _,fun k hk=>?_,by rw[List.length_set];exact h.nA,by rw[fc.2];exact h.eA,by rw[fc.1];exact h.fr⟩
 obtain⟨sz,pin,ep,es',e⟩:=h.ar k hk
 exact⟨sz,pin,ep,es',by rw[na k hk];exact e⟩
def SlE(b:List World)(H:ah):Prop:=H[2]?=some (.box [.ref 3 0 b.length])∧frz H 7 (.ref 3 0 b.length)=some (.sl (b.map World.e))
theorem SlH.late{H:ah}{b:List World}{bm:bu}{iB iO io:Nat}{es:List D}{fa fb:Nat→Nat}{A:List Nat}{O:List World}(h:SlH H b bm iB iO io es fa fb A O)(o:Obj):SlE b (H.set 2 (.box [.ref 3 0 b.length])++[o]):=by
 have l2:=nL h.h2
 have fc:=AG (H:=H) (H':=H.set 2 (.box [.ref 3 0 b.length])++[o]) 7 (.ref 3 0 b.length) (fun k hk=>by
  rw[h.eA]at hk
  obtain⟨sz,pin,ep,es',e⟩:=h.ar k hk
  have ne:2≠k:=fun e2=>by rw[← e2,h.h2]at e;cases e
  exact⟨sz,pin,pin,ep,es',e,by rw[jC (by rw[List.length_set];exact nL e),ji ne];exact e⟩)
 exact⟨by rw[jC (by rw[List.length_set];exact l2),px l2],by rw[fc.1];exact h.fr⟩
end Go.Ev
namespace Go.Ev
open Go
variable [Lib] [cu] [b0] [gk] [gl]
end Go.Ev
namespace Go.Ev
open Go
variable [Lib] [cu] [b0] [gk] [gl] [jz] [fG] [fH] [gX] [fT] [eV] [dZ] [iJ] [eW] [pF] [pG]
end Go.Ev
namespace Go.Ev
open Go
variable [Lib] [cu] [b0] [gk] [gl] [jz] [fG] [fH] [gX] [fT] [eV] [dZ]
def AW(P:Wh→Prop)(ws:List World):Prop:=∀x∈ws,∀w∈x.whr,P w
structure Kept(m:bu)(T:Int)(P:Wh→Prop):Prop where
 see:∀w l a b,P w→b≤T→P (uu m w l a b).1
 abs:∀w l a b bl,P w→b≤T→P (abJ m w l a b bl).1
 raise:∀w t,P w→t≤T→P (eE w t).1
 join:∀a b,P a→P b→a.frm.length=b.frm.length→P (jZ a b).1
theorem AW.set{P:Wh→Prop}{x:World}(h:∀w∈x.whr,P w)(tag:Int){w:Wh}(hw:(bV x.tags tag).toNat<x.whr.length→P w):∀y∈(Fj tag x w).whr,P y:=by
 intro y hy
 simp only[Fj]at hy
 by_cases c:(bV x.tags tag).toNat<x.whr.length
 · rcases aLk hy with a | rfl
   · exact h y a
   · exact hw c
 · rw[List.set_eq_of_length_le (by omega)]at hy;exact h y hy
theorem yR{m:bu}{T:Int}{P:Wh→Prop}(k:Kept m T P){ws:List World}(h:AW P ws)(tag:Int)(l:List Int)(a b:Int)(hb:b≤T):∀j,j≤ws.length→AW P (kX m tag l a b ws j)
 | 0,_,x,hx=>by simp[kX]at hx
 | j+1,hj,x,hx=>by
   simp only[kX,B5]at hx
   have hn:=h _ (aq (l:=ws) (j:=j) (by omega))
   split at hx
   · exact yR k h tag l a b hb j (by omega) x hx
   · rcases List.mem_append.1 hx with hx | hx
     · exact yR k h tag l a b hb j (by omega) x hx
     · rw[List.mem_singleton.1 hx]
       split
       · exact AW.set hn tag fun c=>k.see _ _ _ _ (hn _ (aq c)) hb
       · exact hn
theorem Dt{m:bu}{T:Int}{P:Wh→Prop}(k:Kept m T P){n:Nat}{a b:List Wh}(ha:∀w∈a,P w∧w.frm.length=n)(hb:∀w∈b,P w∧w.frm.length=n):∀p,p≤a.length→p≤b.length→∀w∈kY a b p,P w
 | 0,_,_,w,hw=>(ha w hw).1
 | p+1,h1,h2,w,hw=>by
   simp only[kY]at hw
   rcases aLk hw with hw | rfl
   · exact Dt k ha hb p (by omega) (by omega) w hw
   · have x:=ha _ (aq (l:=a) (j:=p) (by omega))
     have y:=hb _ (aq (l:=b) (j:=p) (by omega))
     exact k.join _ _ x.1 y.1 (by rw[x.2,y.2])
theorem Kw{m:bu}{T:Int}{P:Wh→Prop}(k:Kept m T P){first:List Int}{out:List World}{x:World}(ho:AW P out)(hx:∀w∈x.whr,P w)(wo:∀y∈out,WV m first y)(wx:WV m first x):AW P (j6 out x):=by
 intro y hy
 unfold j6 at hy
 split at hy
 · rename_i h
   rcases aLk hy with hy | rfl
   · exact ho y hy
   · have wk:=wo _ (aq h.1)
     exact Dt k (n:=m.aa.length) (fun w hw=>⟨ho _ (aq h.1) w hw,(bZ (wk.wv w hw)).1⟩) (fun w hw=>⟨hx w hw,(bZ (wx.wv w hw)).1⟩) _ (Nat.min_le_left _ _) (Nat.min_le_right _ _)
 · rcases List.mem_append.1 hy with hy | hy
   · rcases List.mem_append.1 hy with hy | hy
     · exact ho y (List.mem_of_mem_take hy)
     · rw[List.mem_singleton.1 hy];exact hx
   · exact ho y (List.mem_of_mem_drop hy)
theorem Du{m:bu}(hm:m.ok){T:Int}{P:Wh→Prop}(k:Kept m T P){first:List Int}(pr:dN first=true)(f1:1≤first.length)(f2:first.length≤12){l:List World}(hl:AW P l)(wl:∀x∈l,WV m first x):∀j,j≤l.length→AW P (tU l j)
 | 0,_,y,hy=>by simp[tU]at hy
 | j+1,h,y,hy=>Kw k (Du hm k pr f1 f2 hl wl j (by omega)) (hl _ (aq (by omega))) (uB hm pr f1 f2 wl j (by omega)).wv (wl _ (aq (by omega))) y hy
theorem Kx{m:bu}{T:Int}{P:Wh→Prop}(k:Kept m T P){i j:Nat}{t:Int}(ht:t≤T){x:World}(h:∀w∈x.whr,P w):∀w∈(yJ i j t x).whr,P w:=by
 intro w hw
 simp only[yJ]at hw
 have one:∀ {l:List Wh},(∀w∈l,P w)→∀i,∀w∈l.set i (eE (nth x.whr i) t).1,i<x.whr.length∨l.length=x.whr.length→P w:=by
  intro l hl i w hw hlen
  by_cases c:i<x.whr.length
  · rcases aLk hw with a | rfl
    · exact hl w a
    · exact k.raise _ _ (h _ (aq c)) ht
  · rcases hlen with a | a
    · exact(c a).elim
    · rw[List.set_eq_of_length_le (by omega)]at hw;exact hl w hw
 by_cases c:j<x.whr.length
 · rcases aLk hw with a | rfl
   · exact one h i w a (.inr rfl)
   · exact k.raise _ _ (h _ (aq c)) ht
 · rw[List.set_eq_of_length_le (by rw[List.length_set];omega)]at hw
   exact one h i w hw (.inr rfl)
theorem vZ{m:bu}{T:Int}{P:Wh→Prop}(k:Kept m T P){ws:List World}(h:AW P ws){i j:Nat}{t:Int}(ht:t≤T):∀q,q≤ws.length→AW P (gY i j t ws q)
 | 0,_=>h
 | q+1,hq=>fun x hx=>by
   simp only[gY,wI]at hx
   split at hx
   · rcases List.mem_append.1 hx with hx | hx
     · exact vZ k h ht q (by omega) x hx
     · rw[List.mem_singleton.1 hx];exact Kx k ht (h _ (aq (by omega)))
   · exact vZ k h ht q (by omega) x hx
def AH:List Int→List (List Int)
 | []=>[[]]
 | a::l=>(AH l).flatMap fun p=>(List.range (p.length+1)).map fun i=>p.take i++a::p.drop i
theorem AI:∀ {l t:List Int},t.Perm l→t∈AH l
 | [],t,h=>by rw[List.perm_nil.1 h];simp[AH]
 | a::l,t,h=>by
   obtain⟨s1,s2,rfl⟩:=List.append_of_mem (h.mem_iff.2 List.mem_cons_self)
   have p:(s1++s2).Perm l:=(List.perm_cons a).1 ((List.perm_middle.symm).trans h)
   simp only[AH,List.mem_flatMap,List.mem_map,aLu]
   exact⟨_,AI p,s1.length,by rw[aLv];omega,by simp⟩
theorem xS{m:bu}{first:List Int}{ws:List World}(h:BV m first ws)(f:first.length≤3):ws.length≤6:=by
 have nd:(ws.map World.tags).Nodup:=by
  rw[List.Nodup,List.pairwise_map]
  exact h.up.imp fun h e=>vX h e
 have sub:(ws.map World.tags) ⊆ AH first:=by
  intro t ht
  obtain⟨x,hx,rfl⟩:=List.mem_map.1 ht
  exact AI (h.wv x hx).pm
 have:=nd.length_le_of_subset sub
 rw[List.length_map]at this
 have f1:=h.f1
 match first,f,f1 with
 | [a],_,_=>exact Nat.le_trans this (by decide:1≤6)
 | [a,b],_,_=>exact Nat.le_trans this (by show 2≤6;decide)
 | [a,b,c],_,_=>exact Nat.le_trans this (by show 6≤6;decide)
end Go.Ev
namespace Go.Ev
open Go
variable [Lib] [cu] [b0] [gk]
end Go.Ev
namespace Go.Ev
open Go
variable [Lib] [cu] [b0] [gk] [gl] [jz] [fG] [fH] [gX] [fT] [eV] [dZ] [iJ] [eW] [pF] [pG]
structure SlF(bm:bu)(w:Wh)(t:Int):Prop where
 ln:(Kv bm w t).frm.length=bm.aa.length
 bd:bnd (Kv bm w t).frm
 cl:clW bm t none (Kv bm w t).frm
 le:∀j,j<bm.aa.length→nth (Kv bm w t).frm j≤if t<nth w.frm j then 1099511627776 else nth w.frm j
theorem Wv{d:aR}(hd:d.eL)(n:Nat)(hn:n≤1000000):
 ∃(l:List Int) (e:aR),bh 0 N.cH [.bp 0 0,I n] [d.obj]=some (.t (tL l),[e.obj])∧e.eL∧l.length≤n∧Aa l n=true:=
 ⟨_,_,Ov d n hn hd,aR.qk hd n,d.vv n,xQ d n⟩
section
variable (e : aR) {m bm : bu} (b c : Bel) (t : Int) (l : List Int)
end
end Go.Ev
namespace Go.Ev
open Go
variable [Lib] [cu] [b0] [gk] [gl] [jz] [fG] [fH] [gX] [fT] [eV] [dZ] [iJ] [eW] [pF] [pG]
theorem yS(m:bu)(T:Int):Kept m T fun w=>w.time≤T where
 see w l a b h hb:=by
  unfold uu
  split
  · exact h
  · split
    · exact h
    · split
      · exact hb
      · exact h
 abs w l a b bl h hb:=by
  unfold abJ
  split
  · exact h
  · split
    · exact h
    · split
      · exact h
      · split
        · exact h
        · exact hb
 raise w t h ht:=by unfold eE;split;exact h;exact ht
 join a b ha hb e:=by
  unfold jZ
  rw[if_pos e]
  simp only;omega
theorem qz{α:Type} [Dat α]{l:List α}{i:Nat}{a:α}(h:i<l.length):nth (l.set i a) i=a:=bF (aLj h)
theorem sM{α:Type} [Dat α]{l:List α}{i j:Nat}{a:α}(h:j≠i):nth (l.set j a) i=nth l i:=by
 unfold nth
 simp only[aLl,aLi h]
theorem Dv{α:Type} [Dat α]{l:List α}{i:Nat}(h:l.length≤i):nth l i=Dat.dflt:=by
 unfold nth
 rw[aLl,aLm h];rfl
def LeW(y x:World):Prop:=y.tags=x.tags∧∀i p,nth (nth y.whr i).frm p≤nth (nth x.whr i).frm p
theorem LeW.refl(x:World):LeW x x:=⟨rfl,fun _ _=>Int.le_refl _⟩
theorem LeW.trans{x y z:World}(h:LeW x y)(g:LeW y z):LeW x z:=⟨h.1.trans g.1,fun i p=>Int.le_trans (h.2 i p) (g.2 i p)⟩
theorem Dw{m:bu}(hm:m.ok){a b:List Wh}(hl:a.length=b.length)(ha:∀w∈a,c7 m w=true)(hb:∀w∈b,c7 m w=true):∀k,k≤a.length→∀i p,nth (nth (kY a b k) i).frm p≤nth (nth a i).frm p∧(i<k→nth (nth (kY a b k) i).frm p≤nth (nth b i).frm p)
 | 0,_,i,p=>⟨Int.le_refl _,fun h=>by omega⟩
 | k+1,hk,i,p=>by
   have ih:=Dw hm hl ha hb k (by omega) i p
   rw[kY]
   by_cases e:i=k
   · subst e
     rw[qz (by rw[jt];omega)]
     have va:=ha _ (aq (l:=a) (j:=i) (by omega))
     have vb:=hb _ (aq (l:=b) (j:=i) (by omega))
     obtain⟨-, -,j3,j4⟩:=xL hm va vb
     have a1:=(bZ va).1
     have b1:=(bZ vb).1
     by_cases hp:p<m.aa.length
     · have:=j4 p hp
       constructor
       · omega
       · intro _;omega
     · rw[ru (by omega),ru (by omega),ru (by omega)]
       exact⟨Int.le_refl _,fun _=>Int.le_refl _⟩
   · rw[sM (fun h=>e h.symm)]
     exact⟨ih.1,fun h=>ih.2 (by omega)⟩
theorem HL{m:bu}(hm:m.ok){first:List Int}{out:List World}(h:BV m first out){x:World}(hx:WV m first x):(∃y∈j6 out x,LeW y x)∧∀z∈out,∃y∈j6 out x,LeW y z:=by
 unfold j6
 split
 · rename_i c
   obtain⟨c1,c2⟩:=c
   have wk:=h.wv _ (aq (l:=out) (j:=cD out x) c1)
   have jl:(nth out (cD out x)).whr.length=x.whr.length:=by rw[wk.wl,hx.wl]
   have jn:=Dw hm jl wk.wv hx.wv (min (nth out (cD out x)).whr.length x.whr.length) (by omega)
   have my:(⟨x.tags,gn (nth out (cD out x)).whr x.whr⟩:World)∈out.set (cD out x) ⟨x.tags,gn (nth out (cD out x)).whr x.whr⟩:=List.mem_set c1 _
   have lx:LeW ⟨x.tags,gn (nth out (cD out x)).whr x.whr⟩ x:=by
    refine⟨rfl,fun i p=>?_⟩
    by_cases hi:i<x.whr.length
    · exact(jn i p).2 (by omega)
    · have e:nth x.whr i=nth (nth out (cD out x)).whr i:=by rw[Dv (l:=x.whr) (by omega),Dv (l:=(nth out (cD out x)).whr) (by omega)]
      rw[e]
      exact(jn i p).1
   refine⟨⟨_,my,lx⟩,fun z hz=>?_⟩
   obtain⟨k,hk⟩:=aLf.1 hz
   have kl:=(aLe.1 hk).1
   by_cases e:k=cD out x
   · have ez:nth out (cD out x)=z:=by rw[← e];exact bF hk
     refine⟨_,my,?_,fun i p=>?_⟩
     · simp only;rw[← c2,ez]
     · have:=(jn i p).1
       rw[ez]at this ⊢
       exact this
   · refine⟨z,?_,LeW.refl z⟩
     exact aLf.2 ⟨k,by rw[aLi (fun h=>e h.symm)];exact hk⟩
 · refine⟨⟨x,by simp,LeW.refl x⟩,fun z hz=>⟨z,?_,LeW.refl z⟩⟩
   rw[List.append_assoc,List.mem_append,List.mem_append]
   rw[← List.take_append_drop (cD out x) out,List.mem_append]at hz
   rcases hz with hz | hz
   · exact .inl hz
   · exact .inr (.inr hz)
theorem AJ{m:bu}(hm:m.ok){first:List Int}(pr:dN first=true)(f1:1≤first.length)(f2:first.length≤12){l:List World}(hl:∀x∈l,WV m first x):∀j,j≤l.length→∀x∈l.take j,∃y∈tU l j,LeW y x
 | 0,_,x,hx=>by simp at hx
 | j+1,h,x,hx=>by
   obtain⟨t1,t2⟩:=HL hm (uB hm pr f1 f2 hl j (by omega)) (hl _ (aq (l:=l) (j:=j) (by omega)))
   rw[lF (by omega),List.mem_append]at hx
   rw[tU]
   rcases hx with hx | hx
   · obtain⟨y,hy,ly⟩:=AJ hm pr f1 f2 hl j (by omega) x hx
     obtain⟨z,hz,lz⟩:=t2 y hy
     exact⟨z,hz,lz.trans ly⟩
   · rw[List.mem_singleton.1 hx];exact t1
theorem xT(i j:Nat)(t:Int)(ws:List World):∀k,∀q,q<k→Au (nth (nth ws q).whr i) (nth (nth ws q).whr j) t=true→yJ i j t (nth ws q)∈gY i j t ws k
 | 0,q,hq,_=>by omega
 | k+1,q,hq,h=>by
   rw[gY,wI]
   by_cases e:q=k
   · subst e
     rw[if_pos h]
     simp
   · have:=xT i j t ws k q (by omega) h
     split
     · exact List.mem_append_left _ this
     · exact this
structure TI(m:bu)(n:Nat)(tags at_:List Int)(now:Int)(b:Bel):Prop where
 n1:1≤n
 n3:n≤3
 fst:∃first:List Int,first.length=n∧BV m first b.aH
 ne:1≤b.aH.length
 tm:AW (fun w=>w.time≤now) b.aH
 tl:tags.length=n
 al:at_.length=n
 ar:∀p∈at_,0≤p∧p<m.aa.length
 nw:inT now
 wd:∃x∈b.aH,x.tags=tags∧∀i,i<n→nth (nth x.whr i).frm (nth at_ i).toNat≤now
theorem TI.few{m:bu}{n:Nat}{tags at_:List Int}{now:Int}{b:Bel}(h:TI m n tags at_ now b):b.aH.length≤6:=by
 obtain⟨first,f1,bv⟩:=h.fst
 exact xS bv (by have:=h.n3;omega)
theorem TI.bel{m:bu}{n:Nat}{tags at_:List Int}{now:Int}{b:Bel}(h:TI m n tags at_ now b):zc m b=true:=by
 obtain⟨first,f1,bv⟩:=h.fst
 have:=h.few
 exact bv.bel h.ne (by omega)
theorem TI.sz{m:bu}(hm:m.ok){n:Nat}{tags at_:List Int}{now:Int}{b:Bel}(h:TI m n tags at_ now b):b.sz:=by
 obtain⟨first,f1,bv⟩:=h.fst
 have:=h.few
 exact⟨by omega,fun x hx=>(bv.wv x hx).wsz hm bv.f2⟩
theorem uC{m:bu}(hm:m.ok){p t:Int}(h0:0≤p)(h1:p<m.aa.length)(ht:inT t):nth (dL m p t).1.frm p.toNat≤t∧(dL m p t).1.time=t∧(dL m p t).2=0∧c7 m (dL m p t).1=true∧(∀x∈(dL m p t).1.frm,t≤x):=by
 obtain⟨e,v⟩:=vH hm h0 h1 ht
 have np:=hm.np
 have hl:((dI m.aa.length).set p.toNat t).length=m.aa.length:=by simp
 have hb:bnd ((dI m.aa.length).set p.toNat t):=qp (fun x hx=>nI (vG _ x hx)) (by unfold inT at ht;omega) (by unfold inT at ht;omega)
 have le:=vD hm (t:=t) (into:=none) hl hb p.toNat
 rw[qz (by simp[dI];omega)]at le
 refine⟨by rw[e];exact le,by rw[e],by rw[e],v,?_⟩
 rw[e]
 refine xA hm (fun x=>t≤x) hl hb (fun x hx=>?_) (fun x h _=>h)
 rcases aLk hx with h | h
 · rw[List.eq_of_mem_replicate h];unfold inT at ht;omega
 · rw[h];exact Int.le_refl _
theorem Ky{m:bu}(hm:m.ok){n:Nat}(hn:n=2∨n=3){at_:List Int}(al:at_.length=n)(ar:∀p∈at_,0≤p∧p<m.aa.length):
 ∃b,rE m ([5,6,7].take n) at_ 0=(b,0)∧TI m n ([5,6,7].take n) at_ 0 b:=by
 have pr:dN (([5,6,7]:List Int).take n)=true:=by rcases hn with rfl | rfl<;>decide
 have tl:(([5,6,7]:List Int).take n).length=n:=by rcases hn with rfl | rfl<;>rfl
 have i0:inT 0:=⟨by omega,by omega⟩
 have st:∀i,i<n→_:=fun i hi=>uC hm (ar _ (aq (l:=at_) (j:=i) (by omega))).1 (ar _ (aq (l:=at_) (j:=i) (by omega))).2 i0
 refine⟨⟨[⟨([5,6,7]:List Int).take n,fY m at_ 0 n⟩]⟩,?_,?_⟩
 · unfold rE
   rw[if_pos (by omega),if_pos pr]
   have:(List.range (([5,6,7]:List Int).take n).length).find? (fun i=> !decide ((dL m (nth at_ i) 0).2=0))=none:=by
    rw[List.find?_eq_none]
    intro i hi
    have:=(st i (by rw[tl]at hi;exact aLu.1 hi)).2.2.1
    simp[this]
   rw[this,tl]
 · have sn:∀i,i<n→nth (fY m at_ 0 n) i=(dL m (nth at_ i) 0).1:=fun i hi=>bF (by unfold fY;rw[aLn,aLp hi];rfl)
   have sm:∀w∈fY m at_ 0 n,∃i,i<n∧w=(dL m (nth at_ i) 0).1:=fun w hw=>by
    unfold fY at hw
    obtain⟨i,hi,rfl⟩:=List.mem_map.1 hw
    exact⟨i,aLu.1 hi,rfl⟩
   refine⟨by omega,by omega,⟨([5,6,7]:List Int).take n,tl,⟨pr,by omega,by omega,fun x hx=>?_,by simp⟩⟩,by simp,fun x hx w hw=>?_,tl,al,ar,i0,⟨_,List.mem_singleton.2 rfl,rfl,fun i hi=>?_⟩⟩
   · rw[List.mem_singleton.1 hx]
     refine⟨List.Perm.refl _,by simp only[nV];omega,fun w hw=>?_⟩
     obtain⟨i,hi,rfl⟩:=sm w hw
     exact(st i hi).2.2.2.1
   · rw[List.mem_singleton.1 hx]at hw
     obtain⟨i,hi,rfl⟩:=sm w hw
     rw[(st i hi).2.1];exact Int.le_refl _
   · simp only
     rw[sn i hi]
     exact(st i hi).1
theorem P5{m:bu}(hm:m.ok){n:Nat}{tags at_:List Int}{now:Int}{b:Bel}(h:TI m n tags at_ now b){i q:Nat}(hi:i<n)(hq:q<m.aa.length):
 (dL m (nth at_ i) now).2=0∧(dL m (nth at_ i) now).1.frm.length=m.aa.length∧(nth (dL m (nth at_ i) now).1.frm q≤2147483648→TI m n tags (at_.set i q) (nth (dL m (nth at_ i) now).1.frm q) b):=by
 have pi:=h.ar _ (aq (l:=at_) (j:=i) (by have:=h.al;omega))
 obtain⟨s1,s2,s3,s4,s5⟩:=uC hm pi.1 pi.2 h.nw
 have sl:=(bZ s4).1
 refine⟨s3,sl,fun le=>?_⟩
 have ge:=s5 _ (aq (l:=(dL m (nth at_ i) now).1.frm) (j:=q) (by omega))
 have nw:=h.nw
 refine⟨h.n1,h.n3,h.fst,h.ne,fun x hx w hw=>Int.le_trans (h.tm x hx w hw) ge,h.tl,by rw[List.length_set];exact h.al,fun p hp=>?_,⟨by have:=nw.1;omega,le⟩,?_⟩
 · rcases aLk hp with a | a
   · exact h.ar p a
   · subst a;omega
 · obtain⟨x,hx,xt,xf⟩:=h.wd
   obtain⟨first,fl,bv⟩:=h.fst
   have wx:=bv.wv x hx
   refine⟨x,hx,xt,fun k hk=>?_⟩
   by_cases e:k=i
   · subst e
     rw[qz (by have:=h.al;omega)]
     simp only[Int.toNat_natCast]
     have wm:=aq (l:=x.whr) (j:=k) (by have:=wx.wl;omega)
     have vw:=wx.wv _ wm
     obtain⟨v1,v2,v3, -⟩:=bZ vw
     have tw:=h.tm x hx _ wm
     rw[(vH hm pi.1 pi.2 nw).1]
     have hl:((dI m.aa.length).set (nth at_ k).toNat now).length=m.aa.length:=by simp
     have hb:bnd ((dI m.aa.length).set (nth at_ k).toNat now):=qp (fun x hx=>nI (vG _ x hx)) (by unfold inT at nw;omega) (by unfold inT at nw;omega)
     refine Ae hm (yz tw (rv hm vw)) hl hb (fun j=>?_) q
     by_cases c:j=(nth at_ k).toNat
     · subst c
       rw[qz (by simp[dI];omega)]
       exact xf k hk
     · rw[sM (fun h=>c h.symm)]
       by_cases d:j<m.aa.length
       · have e1:nth (dI m.aa.length) j=1099511627776:=bF (by simp[dI,d])
         rw[e1]
         rcases v3 _ (aq (l:=(nth x.whr k).frm) (j:=j) (by omega))with a | a
         · omega
         · have:=a.2;omega
       · rw[ru (by omega),ru (by simp[dI];omega)]
         exact Int.le_refl _
   · rw[sM (fun h=>e h.symm)]
     exact Int.le_trans (xf k hk) ge
theorem P6{m:bu}(hm:m.ok){n:Nat}{tags at_:List Int}{now:Int}{b:Bel}(h:TI m n tags at_ now b){i j:Nat}(hi:i<n)(hj:j<n)(ij:i≠j)(he:nth at_ i=nth at_ j):
 ∃b',sK m b i j now=(b',0)∧TI m n (yI tags i j) at_ now b':=by
 have hb:=h.bel
 obtain⟨first,fl,bv⟩:=h.fst
 obtain⟨x,hx,xt,xf⟩:=h.wd
 have w0:=bv.wv _ (aq (l:=b.aH) (j:=0) (by have:=h.ne;omega))
 have t0:=w0.pm.length_eq
 have wx:=bv.wv x hx
 have nb:=rM hm bv.wv (i:=i) (j:=j) (by omega) (by omega) now b.aH.length (aLs _)
 have tv:=uB hm bv.pr bv.f1 bv.f2 nb _ (aLs _)
 have fw:=xS tv (by have:=h.n3;omega)
 have aw:=vZ (yS m now) h.tm (i:=i) (j:=j) (t:=now) (Int.le_refl _) b.aH.length (aLs _)
 have ta:=Du hm (yS m now) bv.pr bv.f1 bv.f2 aw nb _ (aLs _)
 obtain⟨k,hk⟩:=aLf.1 hx
 have kl:=(aLe.1 hk).1
 have xe:nth b.aH k=x:=bF hk
 have vi:=wx.wv _ (aq (l:=x.whr) (j:=i) (by have:=wx.wl;omega))
 have vj:=wx.wv _ (aq (l:=x.whr) (j:=j) (by have:=wx.wl;omega))
 have pi:=h.ar _ (aq (l:=at_) (j:=i) (by have:=h.al;omega))
 have li:=(bZ vi).1
 have lj:=(bZ vj).1
 have me:Au (nth x.whr i) (nth x.whr j) now=true:=by
  unfold Au
  rw[List.any_eq_true]
  refine⟨(nth at_ i).toNat,aLu.2 (by omega),?_⟩
  have a1:=xf i hi
  have a2:=xf j hj
  rw[← he]at a2
  simp[a1,a2]
 have mx:=xT i j now b.aH b.aH.length k kl (by rw[xe];exact me)
 rw[xe]at mx
 obtain⟨y,hy,ly⟩:=AJ hm bv.pr bv.f1 bv.f2 nb _ (aLs _) _ (by rw[List.take_length];exact mx)
 have ne:1≤(qw (gY i j now b.aH b.aH.length)).length:=List.length_pos_of_mem hy
 refine⟨⟨qw (gY i j now b.aH b.aH.length)⟩,?_,⟨h.n1,h.n3,⟨first,fl,tv⟩,ne,ta,by simp[yI,h.tl],h.al,h.ar,h.nw,⟨y,hy,?_,fun q hq=>?_⟩⟩⟩
 · unfold sK
   have nw:=h.nw
   rw[if_neg (by simp[hb]),if_neg (by omega),if_neg (fun c=>c nw)]
   simp only[Int.toNat_natCast]
   rw[if_neg (by unfold qw;omega)]
 · rw[ly.1]
   simp only[yJ,xt]
 · refine Int.le_trans (ly.2 q _) ?_
   have rf:∀w:Wh,(eE w now).1.frm=w.frm:=fun w=>by unfold eE;split<;>rfl
   have tl:=wx.wl
   simp only[yJ]
   by_cases e:q=j
   · subst e
     rw[qz (by simp;omega),rf]
     exact xf q hq
   · rw[sM (fun h=>e h.symm)]
     by_cases e2:q=i
     · subst e2
       rw[qz (by omega),rf]
       exact xf q hq
     · rw[sM (fun h=>e2 h.symm)]
       exact xf q hq
theorem HM{l:List Int}(nd:l.Nodup){i:Nat}(hi:i<l.length):bV l (nth l i)=i:=by
 unfold bV
 have:(List.range l.length).find? (fun j=>decide (nth l j=nth l i))=some i:=by
  rw[List.find?_range_eq_some]
  refine⟨by simp,by simpa using hi,fun j hj=>?_⟩
  simp only[Bool.not_eq_true',decide_eq_false_iff_not]
  intro e
  have a:nth l j=l[j]:=bF (aLc (by omega))
  have b:nth l i=l[i]:=bF (aLc hi)
  rw[a,b]at e
  exact List.pairwise_iff_getElem.1 nd j i (by omega) hi hj e
 rw[this]
theorem Ww{m:bu}(hm:m.ok){n:Nat}{tags at_:List Int}{now:Int}{b:Bel}(h:TI m n tags at_ now b){i:Nat}(hi:i<n){l:List Int}(hl:Aa l m.aa.length=true)(hin:nth at_ i∈l):
 ∃b',rF m b (nth tags i) l now now=(b',0)∧TI m n tags at_ now b':=by
 have hb:=h.bel
 have nw:=h.nw
 obtain⟨first,fl,bv⟩:=h.fst
 obtain⟨x,hx,xt,xf⟩:=h.wd
 have wx:=bv.wv x hx
 have w0:=bv.wv _ (aq (l:=b.aH) (j:=0) (by have:=h.ne;omega))
 have ml:=AB hl
 have asz:∀w,c7 m w=true→lH m w l now now=0:=fun w hv=>by
  unfold lH
  rw[if_pos ⟨hv,List.ne_nil_of_mem hin,hl⟩,if_pos ⟨nw,nw,Int.le_refl _⟩]
 have nb:∀w,c7 m w=true→(uu m w l now now).2≠6∧(uu m w l now now).2≠8:=fun w hv=>by
  unfold uu
  rw[if_neg (by rw[asz w hv];simp)]
  split
  · simp
  · split<;>simp
 have tn:tags.Nodup:=by rw[← xt];exact wx.pm.nodup_iff.2 (fX bv.pr)
 have bi:bV x.tags (nth tags i)=i:=by rw[xt];exact HM tn (by have:=h.tl;omega)
 have vi:=wx.wv _ (aq (l:=x.whr) (j:=i) (by have:=wx.wl;omega))
 have ti:=h.tm x hx _ (aq (l:=x.whr) (j:=i) (by have:=wx.wl;omega))
 obtain⟨v1,v2,v3, -⟩:=bZ vi
 have pi:=h.ar _ (aq (l:=at_) (j:=i) (by have:=h.al;omega))
 obtain⟨q,hq⟩:=aLf.1 hin
 have ql:=(aLe.1 hq).1
 have an:(oS (nth x.whr i) l now m.aa.length l.length).2=true:=Dr _ l now _ l.length (aLs _) q ql (by rw[bF hq];exact xf i hi)
 have sw:vS m (nth tags i) l now now x=(⟨now,dj m now none (oS (nth x.whr i) l now m.aa.length l.length).1⟩,0):=by
  unfold vS
  rw[bi]
  simp only[Int.toNat_natCast]
  unfold uu
  rw[if_neg (by rw[asz _ vi];simp),if_neg (by omega),if_pos an]
 have sg:SO m (nth tags i) l now now x=some (Fj (nth tags i) x ⟨now,dj m now none (oS (nth x.whr i) l now m.aa.length l.length).1⟩):=by
  unfold SO
  rw[sw]
  simp
 have bv2:=Wt hm bv (nth tags i) l now now
 have is:=yO m (nth tags i) l now now b.aH _ (aLs _)
 rw[List.take_length]at is
 have mx:Fj (nth tags i) x ⟨now,dj m now none (oS (nth x.whr i) l now m.aa.length l.length).1⟩∈kX m (nth tags i) l now now b.aH b.aH.length:=by
  rw[is]
  exact List.mem_filterMap.2 ⟨x,hx,sg⟩
 have ne:=List.length_pos_of_mem mx
 have tmx:=yR (yS m now) h.tm (nth tags i) l now now (Int.le_refl _) b.aH.length (aLs _)
 refine⟨⟨kX m (nth tags i) l now now b.aH b.aH.length⟩,?_,⟨h.n1,h.n3,⟨first,fl,bv2⟩,ne,tmx,h.tl,h.al,h.ar,h.nw,⟨_,mx,by simp only[Fj,xt],fun k hk=>?_⟩⟩⟩
 · unfold rF
   have bo:kW m b (nth tags i)=0:=by
    unfold kW
    rw[if_neg (by simp[hb])]
    have:nth tags i∈(nth b.aH 0).tags:=by
     have a:nth tags i∈x.tags:=by rw[xt];exact aq (by have:=h.tl;omega)
     exact w0.pm.symm.mem_iff.1 (wx.pm.mem_iff.1 a)
    have:=gN.2 this
    rw[if_neg (by omega)]
   have nf:(List.range b.aH.length).find? (xI m (nth tags i) l now now b.aH)=none:=by
    rw[List.find?_eq_none]
    intro j hj
    have wj:=bv.wv _ (aq (l:=b.aH) (j:=j) (aLu.1 hj))
    have a:nth tags i∈(nth b.aH j).tags:=by
     have a:nth tags i∈x.tags:=by rw[xt];exact aq (by have:=h.tl;omega)
     exact wj.pm.symm.mem_iff.1 (wx.pm.mem_iff.1 a)
    have b1:=gN.2 a
    have b2:bV (nth b.aH j).tags (nth tags i)<(nth b.aH j).tags.length:=by
     unfold bV
     split
     · rename_i k hf
       rw[List.find?_range_eq_some]at hf
       have:=aLu.1 hf.2.1
       omega
     · omega
    have pl:=wj.pm.length_eq
    have wl:=wj.wl
    have:=nb _ (wj.wv _ (aq (l:=(nth b.aH j).whr) (j:=(bV (nth b.aH j).tags (nth tags i)).toNat) (by omega)))
    unfold xI vS
    simp[this.1,this.2]
   rw[bo,if_neg (by simp),nf]
   simp only
   rw[if_neg (by omega)]
 · have wl:=wx.wl
   simp only[Fj,bi,Int.toNat_natCast]
   by_cases e:k=i
   · subst e
     rw[qz (by omega)]
     have sl:(oS (nth x.whr k) l now m.aa.length l.length).1.length=m.aa.length:=nJ _ _ _ _ _
     have sp:∀j,j<m.aa.length→nth (oS (nth x.whr k) l now m.aa.length l.length).1 j=if(j:Int)∈l∧nth (nth x.whr k).frm j≤now then nth (nth x.whr k).frm j else 1099511627776:=fun j hj=>by
      have:=yA (w:=nth x.whr k) (b:=now) (l:=l) (n:=m.aa.length) (fun p hp=>ml p hp) l.length (aLs _) j hj
      rwa [List.take_length]at this
     have sb:bnd (oS (nth x.whr k) l now m.aa.length l.length).1:=fun y hy=>by
      obtain⟨j,hj⟩:=aLf.1 hy
      have jl:=(aLe.1 hj).1
      have:=sp j (by omega)
      rw[bF hj]at this
      rw[this]
      split
      · exact nI (v3 _ (aq (by omega)))
      · exact nI (.inl rfl)
     refine Int.le_trans (vD hm (t:=now) (into:=none) sl sb _) ?_
     rw[sp _ (by omega),if_pos ⟨by rw[Int.toNat_of_nonneg pi.1];exact hin,xf k hk⟩]
     exact xf k hk
   · rw[sM (fun h=>e h.symm)]
     exact xf k hk
end Go.Ev
namespace Go.Ev.N
def EJ:Nat:=334
def Fk:Nat:=335
def Fl:Nat:=336
def P7:Nat:=337
def EK:Nat:=338
def P8:Nat:=339
def P9:Nat:=340
def SP:Nat:=341
def Qa:Nat:=342
def SQ:Nat:=343
def SR:Nat:=344
def Zg:Nat:=345
def IA:Nat:=346
def Qb:Nat:=347
def SS:Nat:=348
def SU:Nat:=349
def HN:Nat:=350
def Kz:Nat:=351
def Mk:Nat:=352
def Ml:Nat:=353
def Qc:Nat:=354
def IB:Nat:=355
def SV:Nat:=356
def SW:Nat:=357
def KA:Nat:=358
def Mm:Nat:=359
def Qd:Nat:=360
def SX:Nat:=361
def Qe:Nat:=362
def KB:Nat:=363
def Qf:Nat:=364
def SY:Nat:=365
def SZ:Nat:=366
def S0:Nat:=367
def S1:Nat:=368
def EL:Nat:=369
def mw:Nat:=370
def qE:Nat:=371
def KC:Nat:=372
def ow:Nat:=373
def KD:Nat:=374
def KE:Nat:=375
def Qg:Nat:=376
def Qh:Nat:=377
def IC:Nat:=378
def mX:Nat:=379
def pA:Nat:=380
def HO:Nat:=381
def KF:Nat:=382
def HP:Nat:=383
end Go.Ev.N
namespace Go.Ev.N
def KG:Nat:=384
def ID:Nat:=385
def HQ:Nat:=386
def IE:Nat:=387
def HR:Nat:=388
def Qi:Nat:=389
def Qj:Nat:=390
def S2:Nat:=391
def Fm:Nat:=392
def Qk:Nat:=393
def Ql:Nat:=394
def Fo:Nat:=395
def S3:Nat:=396
def Fp:Nat:=397
def EM:Nat:=398
def Wx:Nat:=399
def S4:Nat:=400
def S5:Nat:=401
def HT:Nat:=402
def S6:Nat:=403
def Wy:Nat:=404
def S7:Nat:=405
def S8:Nat:=406
def Wz:Nat:=407
def Dx:Nat:=408
def Dy:Nat:=409
def S9:Nat:=410
def WA:Nat:=411
def Mn:Nat:=412
def zd:Nat:=413
def WB:Nat:=414
def xU:Nat:=415
end Go.Ev.N
namespace Go.Ev.N
def AK:Nat:=416
def A8:Nat:=417
def A9:Nat:=418
def AM:Nat:=419
def Qm:Nat:=420
def Fq:Nat:=421
def EN:Nat:=422
def Mo:Nat:=423
def Fs:Nat:=424
def Ft:Nat:=425
def Qn:Nat:=426
def Fu:Nat:=427
def Dz:Nat:=428
def Fv:Nat:=429
def wL:Nat:=430
def Cd:Nat:=431
def WC:Nat:=432
def WD:Nat:=433
def Ta:Nat:=434
def DA:Nat:=435
def Tb:Nat:=436
def DB:Nat:=437
def Qo:Nat:=438
def Qp:Nat:=439
def Qq:Nat:=440
def Mp:Nat:=441
def Qr:Nat:=442
def Qs:Nat:=443
def DC:Nat:=444
def Tc:Nat:=445
def KH:Nat:=446
def Td:Nat:=447
def Qt:Nat:=448
def Te:Nat:=449
def Qu:Nat:=450
def Zh:Nat:=451
def Zi:Nat:=452
def WE:Nat:=453
def AN:Nat:=454
def ze:Nat:=455
def Mq:Nat:=456
def WG:Nat:=457
def Tf:Nat:=458
def WH:Nat:=459
def Fw:Nat:=460
def pH:Nat:=461
def Tg:Nat:=462
def WI:Nat:=463
def Ce:Nat:=464
def Mr:Nat:=465
def EO:Nat:=466
def pZ:Nat:=467
def DD:Nat:=468
def DE:Nat:=469
def WJ:Nat:=470
def IF:Nat:=471
end Go.Ev.N
namespace Go.Ev.N
def ck:Nat:=472
def dg:Nat:=473
def cN:Nat:=474
end Go.Ev.N
namespace Go.Ev.K
open Go.Ev
def fZ:C:= (.seq (.ite [m v7,m v4,u (.bin .lss l1 l0)] [] 0 .skip (.exit 0)) (.seq (.blk 1 (.reg [m v6,m v7,m v2,f 0 v3,g l0,u (.ln l0),u (.ca N.aM 0 [] [.l 3,.l 0]),a 1 l6 l5,u (.st l0 l1 1 [])] [])) (.reg [m v7,u (.bin .add l0 (.i 1)),x 7 l0] [])))
def lN:C:= .loop true [0,1,8,9,10,11,12,13,14,15,16,17,18,19,20,21,22,23,24] K.fZ
def bT:C:= (.seq (.ite [m v23,m v4,u (.bin .lss l1 l0),m l0,e 0 true v22,u (.pk l1 l0 (.b false))] [] 0 .skip (.exit 7)) (.seq (.blk 8 (.reg [f 0 v8,g l0,m v21,a 2 l1 l0,f 1 l0,g l0,m v23,a 2 l1 l0,h 2 l0,m v10,u (.ca N.df 0 [] [.l 1,.l 0]),m v6,m v23,a 1 l1 l0,g l0,u (.ca N.fM 0 [] [.l 4,.l 0]),x 22 l0] [(13,0),(14,0)])) (.reg [m v23,u (.bin .add l0 (.i 1)),x 23 l0] [])))
def lO:C:= .loop true [0,1,7,12,13,14,15,16,17,18,19,24] K.bT
def cX:C:= (.seq (.ite [m v21,f 0 v8,g l0,u (.ln l0),u (.bin .lss l3 l0)] [] 0 .skip (.exit 5)) (.seq (.blk 6 (q [f 0 v8,g l0,m v21,a 2 l1 l0,f 0 l0,g l0,m v5,u (.ca N.cq 0 [1] [.l 1,.l 0]),m l0,y 0 true (.fa v8 0),i 1 true l0,e 2 true v21,y 3 true (.ia l1 l0 2),y 4 true (.fa l0 1),i 5 true l0,y 6 true (.ln l0),e 7 true v4,y 8 true (.bin .eql l1 l0),u (.pk l9 l0 (.b false)),x 22 l0] [] (.seq (q [x 23 (.i 0)] [] (.blk 7 K.lO)) (.reg [m v20,m l0,e 0 false v22,u (.pk l1 (.b true) l0),x 20 l0] [])))) (.reg [m v21,u (.bin .add l0 (.i 1)),x 21 l0] [])))
def lQ:C:= .loop true [0,1,7,12,13,14,15,16,17,18,19,22,23,24] K.cX
def bG:C:= (.seq (.ite [m v11,u (.bin .gtr l0 (.i 0)),m l0,e 0 true v9,y 1 true (.bin .eql l0 (.i 0)),u (.pk l2 l0 (.b false))] [] 0 .skip (.exit 2)) (.seq (.blk 3 (.seq (q [m v2,m v4,u (.ca N.aM 0 [] [.l 1,.l 0]),x 12 l0] [] (q [m v2,w 24 (.ca N.aM 0 [] [.l 0,.i 3])] [] (.blk 4 (.ite [u (.bin .eql (.v 24) (.i 0)),m l0] [] 0 (q [w 13 (.al [z0,.nil] []),h 2 v3,m v6,m v12,a 1 l1 l0,g l0,m v10,u (.ca N.dF 0 [] [.l 5,.l 1,.l 0]),m l0,u (.ex l0 0),u (.ex l1 1),u (.st l10 l1 2 []),x 14 l1] [(0,8)] (q [m v2,f 0 v3,g l0,u (.ln l0),u (.ca N.aM 0 [] [.l 3,.l 0]),x 15 l0] [] (.ite [m v14,u (.bin .eql l0 (.i 0)),m l0,y 0 true (.fa v13 1),i 1 true l0,e 2 true v15,y 3 true (.ia l1 l0 1),i 4 true l0,y 5 true (.bin .leq l0 (.i 2147483648)),u (.pk l6 l0 (.b false))] [] 0 (.reg [m v6,m v12,m v15,f 1 v13,g l0,m v15,a 1 l1 l0,g l0,a 1 l7 l6,u (.st l0 l6 1 []),x 10 l2] []) .skip))) (.ite [u (.bin .eql (.v 24) (.i 1)),m l0] [] 0 (q [m v2,m v4,u (.ca N.aM 0 [] [.l 1,.l 0]),x 16 l0] [] (.ite [m v12,m v16,u (.bin .neq l1 l0),m l0,e 0 true v6,e 1 true v12,y 2 true (.ia l1 l0 1),i 3 true l0,e 4 true v6,e 5 true v16,y 6 true (.ia l1 l0 1),i 7 true l0,y 8 true (.bin .eql l4 l0),u (.pk l9 l0 (.b false))] [] 0 (q [m v5,m v12,m v5,m v16,m v5,m v16,a 1 l1 l0,g l0,m v5,m v12,a 1 l1 l0,g l0,a 1 l11 l10,u (.st l0 l5 1 []),a 1 l11 l10,u (.st l0 l3 1 [])] [] (.reg [h 2 v3,h 1 v8,m v12,m v16,m v10,u (.ca N.bD 0 [] [.l 4,.l 3,.l 2,.l 1,.l 0]),m l0,u (.ex l0 0),u (.ex l1 1),u (.st v8 l1 1 []),x 9 l1] [])) .skip)) (q [m v2,f 0 v3,g l0,u (.ln l0),u (.ca N.cH 0 [] [.l 3,.l 0]),x 17 l0] [] (.ite [m v17,m v6,m v12,a 1 l1 l0,g l0,u (.ca N.fM 0 [] [.l 4,.l 0])] [] 0 (q [w 18 (.al [.nil] []),h 2 v3,h 1 v8,m v5,m v12,a 1 l1 l0,g l0,m v17,m v10,m v10,u (.ca N.gM 0 [] [.l 8,.l 7,.l 3,.l 2,.l 1,.l 0]),m l0,u (.ex l0 0),u (.ex l1 1),u (.st (.l 13) l1 1 []),x 19 l1] [(0,11)] (.ite [m v19,u (.bin .eql l0 (.i 0))] [] 0 (.reg [h 1 v18,u (.st v8 l0 1 [])] []) (.ite [m v19,u (.bin .neq l0 (.i 42))] [] 0 (q [x 1 (.b false)] [] .ret) .skip))) .skip))))))) (q [x 20 (.b false)] [] (.seq (q [x 21 (.i 0)] [] (.blk 5 K.lQ)) (.ite [m v20,u (.un .not l0)] [] 0 (q [x 1 (.b false)] [] .ret) .skip))))) (.reg [m v11,u (.bin .sub l0 (.i 1)),x 11 l0] [])))
def lS:C:= .loop true [0,1,7,12,13,14,15,16,17,18,19,20,21,22,23,24] K.bG
def ck:Fn:= { bq:=1,vars:=[0,2,3,4,5,6,7,8,9,10,11,12,13,14,15,16,17,18,19,20,21,22,23,24,77],body:=(q [x 1 (.b false)] [] (.seq (.ite [m v0,u (.ca N.gp 0 [] [.l 0]),u (.un .not l0)] [] 0 (q [u (.ca N.fC 0 [] []),x 1 l0] [] .ret) .skip) (q [m v0,u (.ca N.ig 0 [] [.l 0]),x 2 l0] [] (q [m v2,u (.ca N.cm 0 [] [.l 0]),w 3 (.al [.nil,.nil] []),u (.st l0 l1 2 [])] [] (q [m v2,u (.ca N.aM 0 [] [.l 0,.i 2]),u (.bin .add (.i 2) l0),x 4 l0] [] (q [u (.bs [.i 5,.i 6,.i 7] 1),m v4,u (.sc l1 none (some l0) 1),m v4,u (.mk l0 (z0) 1),x 5 l2,x 6 l1] [(0,5),(2,5)] (.seq (q [x 7 (.i 0)] [] (.blk 0 K.lN)) (q [m v5,u (.app (.c (.nil)) l0 true 1),x 5 l0] [] (q [h 2 v3,m v5,m v6,u (.ca N.dg 0 [1,2] [.l 2,.l 1,.l 0,.i 0]),m l0,u (.ex l0 0),u (.ex l1 1),w 8 (.al [.nil] []),u (.st l0 l2 1 []),x 9 l2] [] (q [x 10 (.i 0)] [] (.seq (q [m v2,u (.ca N.aM 0 [] [.l 0,.i 25]),x 11 l0] [] (.blk 2 K.lS)) (q [u (.ca N.fC 0 [] []),m l0,e 0 true v9,y 1 true (.bin .eql l0 (.i 0)),u (.pk l2 l0 (.b false)),x 1 l0] [] .ret)))))))))))),res:=[(1,none)]}
def jy:C:= (.its [u (.bin .lss v13 v12)] [] 0 .skip (.exit 1) (.seq (.blk 2 (q [a 1 v11 v13,g l0,x 8 l0] [] (q [h 2 v4,m v8,m v3,u (.ca N.c8 0 [] [.l 2,.l 1,.l 0]),m l0,u (.ex l0 0),u (.ex l1 1),w 9 (.al [z0,.nil] []),u (.st l0 l2 2 []),x 10 l2] [] (.seq (.ite [m v10,u (.bin .neq l0 (.i 0))] [] 0 (q [u (.bd [.nil] []),m v10,u (.st v5 l1 1 []),x 6 l1] [] .ret) .skip) (.reg [f 1 v7,g l0,h 2 v9,u (.bs [.l 0] 2),u (.app l2 l0 true 2),f 1 v7,u (.st l0 l1 1 [])] []))))) (.reg [u (.bin .add v13 (.i 1)),x 13 l0] [])))
def mU:C:= .loop true [0,1,2,6,8,9,10] K.jy
def dg:Fn:= { bq:=4,vars:=[0,1,2,3,4,8,9,10,12,13,14,41,42,43],body:=(q [w 4 (.bx v0 2),w 5 (.al [.nil] []),x 6 (.i 0)] [] (.seq (.blk 0 (.ite [h 2 v4,u (.ca N.dG 0 [] [.l 0]),u (.un .not l0),m l0,e 0 false v1,y 1 false (.ln l0),e 2 false v2,y 3 false (.ln l0),y 4 false (.bin .neq l2 l0),u (.pk l5 (.b true) l0),m l0,e 0 false v1,y 1 false (.ln l0),y 2 false (.ca N.cA 0 [] [.l 0,.i 1,.i 12]),y 3 false (.un .not l0),u (.pk l4 (.b true) l0),m l0] [] 0 (q [u (.bd [.nil] []),u (.st v5 l0 1 []),x 6 (.i 6)] [] .ret) (.ite [m v1,u (.ca N.cN 0 [0] [.l 0]),u (.un .not l0),m l0] [] 0 (q [u (.bd [.nil] []),u (.st v5 l0 1 []),x 6 (.i 41)] [] .ret) .skip))) (q [m v1,u (.ca N.aB 0 [0] [.l 0]),u (.bd [.nil,.nil] [(0,1,.l 0)]),w 7 (.al [.nil,.nil] [(1,2)]),u (.st l0 l1 2 [(1,2)])] [] (.seq (q [x 11 v2,w 12 (.ln l0),x 13 (.i 0)] [] (.blk 1 K.mU)) (q [h 2 v7,u (.bs [.l 0] 2),u (.bd [.nil] [(0,1,.l 0)]),u (.st v5 l0 1 []),x 6 (.i 0)] [] .ret))))),res:=[(5,some (1,true)),(6,none)]}
def cN:Fn:= { bq:=1,vars:=[0,2,3],body:=(q [x 1 (.b false)] [] (q [m v0,u (.ca N.aT 2 [0] [.l 0]),u (.ca N.bE 0 [] [.l 0]),x 2 l0] [] (q [m v2,u (.ca N.dy 0 [] [.l 0,.i 1,.i 65535]),x 1 l0] [] .ret))),res:=[(1,none)]}
end Go.Ev.K
namespace Go.Ev
class wc [Lib]:Prop where
 jR:Lib.fs N.ck=some K.ck
 kp:Lib.fs N.dg=some K.dg
 jS:Lib.fs N.cN=some K.cN
namespace K
variable [Lib] [wc]
theorem jR:Lib.fs N.ck=some K.ck:=wc.jR
theorem kp:Lib.fs N.dg=some K.dg:=wc.kp
theorem jS:Lib.fs N.cN=some K.cN:=wc.jS
end K
end Go.Ev
