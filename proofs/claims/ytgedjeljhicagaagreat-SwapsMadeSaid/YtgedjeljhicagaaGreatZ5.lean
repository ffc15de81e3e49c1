/- Parts of the proof: see the text that holds the theorem. -/
import Derived.Test.YtgedjeljhicagaaGreatZ4
set_option linter.all false
open Nat (reduceAdd reduceSub)
set_option maxRecDepth 100000
namespace Go.Ev
open Go
variable [Lib] [cz] [bZ] [gV] [gW] [jC] [gX]
theorem P6{m:aP}(h:m.ok)(t:Int)(into:Option (List Int)){k:Nat}(hk:k<m.roads.length)(back:Bool)(l:List Int):
 fP m t into k back l=if 0≤ir m k back 6 9 12∧nth l ((nth m.roads k).src back).toNat<1099511627776∧M8 into l ((nth m.roads k).dst back).toNat (max (nth l ((nth m.roads k).src back).toNat+ir m k back 6 9 12) t)=true
  then(l.set ((nth m.roads k).dst back).toNat (max (nth l ((nth m.roads k).src back).toNat+ir m k back 6 9 12) t),true)else(l,false):=by
 have r2:=Road.B1 (h.rs _ (af hk)) back
 unfold fP M8 ov nI
 have e:(((nth m.roads k).dst back).toNat:Int)=(nth m.roads k).dst back:=by omega
 rw[e]
 generalize (nth m.roads k).dst back=d at*
 generalize ((nth m.roads k).src back).toNat=s at*
 generalize ir m k back 6 9 12=v at*
 rw[Int.max_comm t]
 generalize max (nth l s+v) t=x at*
 cases Me into d with
 | false=>simp
 | true=>
   simp only[↓reduceIte,Bool.and_true,aLr,decide_eq_true_eq]
   by_cases c:((0≤v∧nth l s<1099511627776)∧x≤2147483648)∧x<nth l d.toNat
   · obtain⟨⟨⟨c1,c2⟩,c3⟩,c4⟩:=c
     simp[c1,c2,c3,c4]
   · have c':¬(0≤v∧nth l s<1099511627776∧x≤2147483648∧x<nth l d.toNat):=fun h=>c ⟨⟨⟨h.1,h.2.1⟩,h.2.2.1⟩,h.2.2.2⟩
     rw[if_neg c,if_neg c']
     simp only[Prod.mk.injEq,true_and]
     have:(decide (0≤v)&&decide (nth l s<1099511627776)&&decide (x≤2147483648)&&decide (x<nth l d.toNat))=false:=by
      rw[Bool.eq_false_iff];intro h;simp only[aLr,decide_eq_true_eq]at h;exact c h
     exact this
abbrev M9:D:= .fn N.bu [.bp 1 0,.bp 2 0,.bp 3 0,.bp 4 0]
abbrev AA(into:Option (List Int))(t:Int)(s:List Int×Bool):ah:=A3 s.1:: .box [I t]:: .box [.ref 0 0 s.1.length]:: .box [smD into]:: .box [B s.2]::smE into
abbrev xL(x:Road):List D:=[I x.frm,I x.to,I x.len,I x.area,B x.walk,B x.closed,I x.restL,I x.restH,I x.liftL,I x.liftH]
theorem Cc{m:aP}(h:m.ok)(t:Int)(ht:0≤t)(ht2:t≤1000000000000)(into:Option (List Int))(hi:∀s,into=some s→s.length≤64)(l:List Int)(hl:l.length=m.aa.length)(hb:bnd l)(ch:Bool){k:Nat}(hk:k<m.roads.length)(back:Bool):
 dV true [0,6,7,8,9] (AA into t (l,ch)++[Obj.box (ae m),Obj.box (xL (nth m.roads k))]).length (exS aH K.eQ ⟨[.und,.ref 0 0 l.length,M9,.bp (smK into) 0,I k,.bp (smK into+1) 0,.und,.und,.und,.und,.t (.sl (m.roads.map Road.e)),I m.roads.length,I k,.t (.agg [.bool false,.bool true]),I (if back then 1 else 0:Nat)],AA into t (l,ch)++[.box (ae m),.box (xL (nth m.roads k))]⟩)=
  some ⟨[.und,.ref 0 0 l.length,M9,.bp (smK into) 0,I k,.bp (smK into+1) 0,.und,.und,.und,.und,.t (.sl (m.roads.map Road.e)),I m.roads.length,I k,.t (.agg [.bool false,.bool true]),I ((if back then 1 else 0:Nat)+1)],AA into t ((fP m t into k back l).1,ch||(fP m t into k back l).2)++[.box (ae m),.box (xL (nth m.roads k))]⟩:=by
 have np:=h.np
 have nr:=h.nr
 have ok:=h.rs _ (af hk)
 have r1:=Road.ya ok back
 have r2:=Road.B1 ok back
 have wt:=PW h k hk back
 have wl:=CT h k hk back
 have b1:=hb _ (af (l:=l) (j:=((nth m.roads k).src back).toNat) (by omega))
 have lo:=Vi into hi l (by omega) hb ((nth m.roads k).src back) ((nth m.roads k).dst back).toNat (by omega) (nth l ((nth m.roads k).src back).toNat+ir m k back 6 9 12) t ch
 have e:(((nth m.roads k).dst back).toNat:Int)=(nth m.roads k).dst back:=by omega
 rw[e]at lo
 rw[P6 h t into hk back l]
 have ls:∀x,(l.set ((nth m.roads k).dst back).toNat x).length=l.length:=fun x=>List.length_set ..
 generalize ir m k back 6 9 12=v at*
 generalize hx:nth m.roads k=x at*
 clear hx ok
 obtain⟨frm,to,len,area,walk,closed,rl,rh,ll,lh⟩:=x
 obtain⟨aa,roads⟩:=m
 simp only at hl np nr hk
 have h01:(1:Int)=0+1:=rfl
 by_cases c1:0≤v
 · by_cases c2:nth l ((Road.mk frm to len area walk closed rl rh ll lh).src back).toNat<1099511627776
   · cases c3:M8 into l ((Road.mk frm to len area walk closed rl rh ll lh).dst back).toNat (max (nth l ((Road.mk frm to len area walk closed rl rh ll lh).src back).toNat+v) t)<;>
     cases back<;>simp only[Road.src,Road.dst,aLt,↓reduceIte]at* <;>simp only[c1,c2,c3,and_true,true_and,and_self,and_false,aLt,↓reduceIte]at lo ⊢ <;>
     cases into<;>simp only[smE,smD,smK,ae,xL,AA,List.cons_append,List.nil_append]at* <;>
     simp(disch:=omega)only[go_sem,K.eQ,↓reduceIte,wt,lo,c1,c2,ls,Bool.or_true,Bool.or_false,reduceAdd,reduceSub]
   · cases back<;>simp only[Road.src,Road.dst,aLt,↓reduceIte]at* <;>simp only[c1,c2,false_and,and_false,↓reduceIte]<;>
     cases into<;>simp only[smE,smD,smK,ae,xL,AA,List.cons_append,List.nil_append]at* <;>
     simp(disch:=omega)only[go_sem,K.eQ,↓reduceIte,wt,c1,c2,Bool.or_false,reduceAdd,reduceSub]
 · cases back<;>simp only[Road.src,Road.dst,aLt,↓reduceIte]at* <;>simp only[c1,false_and,↓reduceIte]<;>
   cases into<;>simp only[smE,smD,smK,ae,xL,AA,List.cons_append,List.nil_append]at* <;>
   simp(disch:=omega)only[go_sem,K.eQ,↓reduceIte,wt,c1,Bool.or_false,reduceAdd,reduceSub]
theorem P7{m:aP}(h:m.ok)(t:Int)(ht:0≤t)(ht2:t≤1000000000000)(into:Option (List Int))(hi:∀s,into=some s→s.length≤64)(l:List Int)(hl:l.length=m.aa.length)(hb:bnd l)(ch:Bool){k:Nat}(hk:k<m.roads.length):
 dV true [0,4,5,6,7,8,9,13,14] (AA into t (l,ch)++[Obj.box (ae m)]).length (exS aH K.iS ⟨[.und,.ref 0 0 l.length,M9,.bp (smK into) 0,.und,.und,.und,.und,.und,.und,.t (.sl (m.roads.map Road.e)),I m.roads.length,I k,.und,.und],AA into t (l,ch)++[.box (ae m)]⟩)=
  some ⟨[.und,.ref 0 0 (uZ m t into k (l,ch)).1.length,M9,.bp (smK into) 0,.und,.und,.und,.und,.und,.und,.t (.sl (m.roads.map Road.e)),I m.roads.length,I (k+1),.und,.und],AA into t (uZ m t into k (l,ch))++[.box (ae m)]⟩:=by
 have nr:=h.nr
 have g:(m.roads.map Road.e)[k]?=some (nth m.roads k).e:=cI _ hk
 have h1:=Cc h t ht ht2 into hi l hl hb ch hk false
 have l1:(fP m t into k false l).1.length=l.length:=qc ..
 have l2:(fP m t into k true (fP m t into k false l).1).1.length=l.length:=by rw[qc,l1]
 have h2:=Cc h t ht ht2 into hi (fP m t into k false l).1 (by omega) (sK h hl hb hk false) (ch||(fP m t into k false l).2) hk true
 have st:uZ m t into k (l,ch)=((fP m t into k true (fP m t into k false l).1).1,ch||(fP m t into k false l).2||(fP m t into k true (fP m t into k false l).1).2):=rfl
 rw[st]
 simp only[l1,l2,aLt,↓reduceIte]at h1 h2 ⊢
 have inner:∀z0 z6 z7 z8 z9:D,exS aH K.oZ ⟨[z0,.ref 0 0 l.length,M9,.bp (smK into) 0,I k,.bp (smK into+1) 0,z6,z7,z8,z9,.t (.sl (m.roads.map Road.e)),I m.roads.length,I k,.t (.agg [.bool false,.bool true]),I 0],AA into t (l,ch)++[.box (ae m),.box (xL (nth m.roads k))]⟩=
  some (.exit 2,⟨[.und,.ref 0 0 l.length,M9,.bp (smK into) 0,I k,.bp (smK into+1) 0,.und,.und,.und,.und,.t (.sl (m.roads.map Road.e)),I m.roads.length,I k,.t (.agg [.bool false,.bool true]),I 2],
   AA into t ((fP m t into k true (fP m t into k false l).1).1,ch||(fP m t into k false l).2||(fP m t into k true (fP m t into k false l).1).2)++[.box (ae m),.box (xL (nth m.roads k))]⟩):=by
  intro z0 z6 z7 z8 z9
  refine dw (fun j=>⟨[.und,.ref 0 0 l.length,M9,.bp (smK into) 0,I k,.bp (smK into+1) 0,.und,.und,.und,.und,.t (.sl (m.roads.map Road.e)),I m.roads.length,I k,.t (.agg [.bool false,.bool true]),I j],
   AA into t (match j with | 0=>(l,ch) | 1=>((fP m t into k false l).1,ch||(fP m t into k false l).2) | _=>((fP m t into k true (fP m t into k false l).1).1,ch||(fP m t into k false l).2||(fP m t into k true (fP m t into k false l).1).2))++[.box (ae m),.box (xL (nth m.roads k))]⟩) 2 rfl ?_ ?_ (by simp)
  · intro j hj
    have hj2:j=0∨j=1:=by omega
    rcases hj2 with rfl | rfl
    · exact h1
    · exact h2
  · clear h1 h2
    cases into<;>simp only[smE,smD,smK,ae,xL,AA,List.cons_append,List.nil_append]<;>
    simp(disch:=omega)only[go_sem,K.eQ,↓reduceIte,reduceAdd,reduceSub]
 clear h1 h2 st
 generalize fP m t into k true (fP m t into k false l).1=b2 at*
 generalize fP m t into k false l=b1 at*
 generalize hx:nth m.roads k=x at*
 clear hx
 obtain⟨frm,to,len,area,walk,closed,rl,rh,ll,lh⟩:=x
 obtain⟨aa,roads⟩:=m
 simp only at nr hk
 cases into<;>simp only[smE,smD,smK,ae,xL,AA,List.cons_append,List.nil_append]at* <;>
 simp(disch:=omega)only[go_sem,K.iS,↓reduceIte,g,inner,l2,reduceAdd,reduceSub]
theorem Hq{m:aP}(h:m.ok)(t:Int)(ht:0≤t)(ht2:t≤1000000000000)(into:Option (List Int))(hi:∀s,into=some s→s.length≤64)(l:List Int)(hl:l.length=m.aa.length)(hb:bnd l)(ch:Bool):
 aH 0 N.dC [.t m.e,.ref 0 0 l.length,M9] (AA into t (l,ch))=some (.tup [],AA into t ((dF m t into l).1,ch||(dF m t into l).2)):=by
 refine av K.mI rfl ?_
 have nr:=h.nr
 have ls:=fun k=>dP m t into l k
 have loop:∀z0 z4 z5 z6 z7 z8 z9 z13 z14:D,exS aH K.o4 ⟨[z0,.ref 0 0 l.length,M9,.bp (smK into) 0,z4,z5,z6,z7,z8,z9,.t (.sl (m.roads.map Road.e)),I m.roads.length,I 0,z13,z14],AA into t (l,ch)++[.box (ae m)]⟩=
  some (.exit 0,⟨[.und,.ref 0 0 l.length,M9,.bp (smK into) 0,.und,.und,.und,.und,.und,.und,.t (.sl (m.roads.map Road.e)),I m.roads.length,I m.roads.length,.und,.und],AA into t ((dF m t into l).1,ch||(dF m t into l).2)++[.box (ae m)]⟩):=by
  intro z0 z4 z5 z6 z7 z8 z9 z13 z14
  refine dw (fun j=>⟨[.und,.ref 0 0 l.length,M9,.bp (smK into) 0,.und,.und,.und,.und,.und,.und,.t (.sl (m.roads.map Road.e)),I m.roads.length,I j,.und,.und],AA into t ((fH m t into l j).1,ch||(fH m t into l j).2)++[.box (ae m)]⟩) m.roads.length ?_ ?_ ?_ (by simp)
  · simp only[fH,Bool.or_false];rfl
  · intro j hj
    have r:=P7 h t ht ht2 into hi (fH m t into l j).1 (by rw[ls,hl]) (jb h hl hb j (by omega)) (ch||(fH m t into l j).2) hj
    have e:uZ m t into j ((fH m t into l j).1,ch||(fH m t into l j).2)=((fH m t into l (j+1)).1,ch||(fH m t into l (j+1)).2):=by
     simp only[fH,uZ,Bool.or_assoc]
    rw[e]at r
    simp only[ls]at r
    exact r
  · clear ls
    cases into<;>simp only[smE,smD,smK,ae,xL,AA,List.cons_append,List.nil_append]<;>
    simp(disch:=omega)only[go_sem,K.iS,↓reduceIte,dF,reduceAdd,reduceSub]
 have l2:(dF m t into l).1.length=l.length:=by unfold dF;rw[ls]
 clear ls
 generalize dF m t into l=r at*
 obtain⟨r1,r2⟩:=r
 obtain⟨aa,roads⟩:=m
 simp only at nr hl l2
 cases into<;>simp only[smE,smD,smK,ae,xL,AA,List.cons_append,List.nil_append]at* <;>
 simp(disch:=omega)only[go_sem,K.dC,↓reduceIte,loop,l2,reduceAdd,reduceSub]
section
variable (a0 a1 a2 a3 a4 a5 x y : Obj) (ds : ah)
theorem R1:(a0::a1::a2::a3::a4::(ds++[x]))[ds.length+5]?=some x:=by simp
theorem aaT:(a0::a1::a2::a3::a4::(ds++[x])).set (ds.length+5) y=a0::a1::a2::a3::a4::(ds++[y]):=by simp
theorem R2:(a0::a1::a2::a3::a4::a5::(ds++[x]))[ds.length+6]?=some x:=by simp
theorem aaU:(a0::a1::a2::a3::a4::a5::(ds++[x])).set (ds.length+6) y=a0::a1::a2::a3::a4::a5::(ds++[y]):=by simp
theorem R3(u:Obj):(ds++[u]++[x])[ds.length+1]?=some x:=by simp
theorem Vj(u:Obj):(a0::a1::a2::a3::a4::(ds++[u]++[x])).set (ds.length+1+1+1+1+1+1) y=a0::a1::a2::a3::a4::(ds++[u]++[y]):=by simp
theorem Vk(u:Obj):(a0::a1::a2::a3::a4::a5::(ds++[u]++[x])).set (ds.length+1+1+1+1+1+1+1) y=a0::a1::a2::a3::a4::a5::(ds++[u]++[y]):=by simp
theorem aaV:(ds++[x]).length=ds.length+1:=by simp
end
@[go_sem] theorem adB (n : Nat) : eqB n n = true := by
 induction n with
 | zero=>rfl
 | succ n ih=>exact ih
abbrev R4(m:aP)(into:Option (List Int))(t:Int)(l:List Int)(ds:ah)(c:Bool):ah:=match into with
 | none=> .box (ae m):: .box [I t]:: .box [.fn N.dt []]::A3 l:: .box [.ref 3 0 l.length]::(ds++[.box [B c]])
 | some s=> .box [.t (tL s)]:: .box (ae m):: .box [I t]:: .box [.fn N.bV [.bp 0 0]]::A3 l:: .box [.ref 4 0 l.length]::(ds++[.box [B c]])
abbrev Hr(m:aP)(into:Option (List Int))(t:Int)(l:List Int)(ds:ah)(c:Bool):St:=match into with
 | none=>⟨[.und,.und,.und,.und,.bp 0 0,.bp 1 0,.bp 2 0,.und,.bp 4 0,.bp (ds.length+5) 0,.und],R4 m none t l ds c⟩
 | some s=>⟨[.und,.und,.und,.und,.bp 1 0,.bp 2 0,.bp 3 0,.und,.bp 5 0,.bp (ds.length+6) 0,.und],R4 m (some s) t l ds c⟩
theorem Na{m:aP}(h:m.ok)(t:Int)(ht:0≤t)(ht2:t≤1000000000000)(into:Option (List Int))(hi:∀s,into=some s→s.length≤64)(l:List Int)(hl:l.length=m.aa.length)(hb:bnd l)(ds:ah)(k:Nat):
 dV false [0,1,2,3,7,10] k (exS aH K.dn (Hr m into t l ds true))=some (Hr m into t (dF m t into l).1 (ds++[.box [B (dF m t into l).2]]) (dF m t into l).2):=by
 have nr:=h.nr
 have ar:=Hq h t ht ht2 into hi l hl hb false
 have l2:(dF m t into l).1.length=l.length:=by unfold dF;rw[dP]
 cases into with
 | none=>
   generalize dF m t none l=r at*
   obtain⟨r1,r2⟩:=r
   obtain⟨aa,roads⟩:=m
   simp only[R4,Hr,AA,smE,smD,ae,Bool.false_or]at*
   simp(disch:=omega)only[go_sem,K.dn,↓reduceIte,ar,R1,aaT,aaV,l2,R3,Vj,reduceAdd,reduceSub]
 | some s=>
   generalize dF m t (some s) l=r at*
   obtain⟨r1,r2⟩:=r
   obtain⟨aa,roads⟩:=m
   simp only[R4,Hr,AA,smE,smD,ae,Bool.false_or]at*
   simp(disch:=omega)only[go_sem,K.dn,↓reduceIte,ar,R2,aaU,aaV,l2,R3,Vk,reduceAdd,reduceSub]
theorem P8(m:aP)(into:Option (List Int))(t:Int)(l:List Int)(ds:ah):exS aH K.dn (Hr m into t l ds false)=some (.exit 0,Hr m into t l ds false):=by
 obtain⟨aa,roads⟩:=m
 cases into with
 | none=>
   simp only[R4,Hr,ae]
   simp(disch:=omega)only[go_sem,K.dn,↓reduceIte,R1,reduceAdd,reduceSub]
 | some s=>
   simp only[R4,Hr,ae]
   simp(disch:=omega)only[go_sem,K.dn,↓reduceIte,R2,reduceAdd,reduceSub]
theorem De{m:aP}(h:m.ok)(t:Int)(ht:0≤t)(ht2:t≤1000000000000)(into:Option (List Int))(hi:∀s,into=some s→s.length≤64):∀(n:Nat) (l:List Int) (ds:ah),zf l<n→l.length=m.aa.length→bnd l→
 ∃ds',nN false [0,1,2,3,7,10] (exS aH K.dn) (Hr m into t l ds true)=some (.exit 0,Hr m into t (jZ (dF m t into) n l) ds' false)
 | 0,l,ds,hn,_,_=>absurd hn (by omega)
 | n+1,l,ds,hn,hl,hb=>by
   have r:=Na h t ht ht2 into hi l hl hb ds (Hr m into t l ds true).H.length
   have s:=(qd h (t:=t) (into:=into) hl hb m.roads.length (aLs _)).1
   change (dF m t into l).2=true→zf (dF m t into l).1<zf l at s
   unfold jZ
   cases hc:(dF m t into l).2 with
   | true=>
     rw[hc]at r
     obtain⟨ds',h2⟩:=De h t ht ht2 into hi n (dF m t into l).1 _ (by have:=s hc;omega) (by unfold dF;rw[dP,hl]) (jb h hl hb _ (aLs _))
     exact⟨ds',iZ r h2⟩
   | false=>
     rw[hc]at r
     exact⟨_,iZ r (dq (P8 m into t _ _) (by simp))⟩
theorem qk{m:aP}(h:m.ok)(t:Int)(ht:0≤t)(ht2:t≤1000000000000)(l:List Int)(hl:l.length=m.aa.length)(hb:bnd l):
 aH 0 N.bL [.t m.e,.t (tL l),I t,.fn N.dt []] []=some (.t (tL (cL m t none l)),[])∧
 ∀s:List Int,s.length≤64→aH 1 N.bL [.t m.e,.t (tL l),I t,.fn N.bV [.bp 0 0]] [.box [.t (tL s)]]=some (.ref 1 0 l.length,[.box [.t (tL s)],A3 (cL m t (some s) l)]):=by
 have np:=h.np
 have c1:=wH l (by omega)
 have ln:∀into,(cL m t into l).length=l.length:=by
  intro into
  have key:∀n l,(jZ (dF m t into) n l).length=l.length:=by
   intro n
   induction n with
   | zero=>intro l;rfl
   | succ n ih=>
     intro l
     unfold jZ
     split
     · rw[ih];unfold dF;rw[dP]
     · unfold dF;rw[dP]
  exact key _ _
 refine⟨av K.kC rfl ?_,fun s hs=>av K.kC rfl ?_⟩
 · obtain⟨ds,lp⟩:=De h t ht ht2 none (by simp) (zf l+1) l [] (Nat.lt_succ_self _) hl hb
   have ln:=ln none
   have lp:∀z0 z1 z2 z3 z7 z10:D,exS aH K.mG ⟨[z0,z1,z2,z3,.bp 0 0,.bp 1 0,.bp 2 0,z7,.bp 4 0,.bp 5 0,z10],[.box (ae m),.box [I t],.box [.fn N.dt []],A3 l,.box [.ref 3 0 l.length],.box [B true]]⟩=some (.exit 0,Hr m none t (cL m t none l) ds false):=fun z0 z1 z2 z3 z7 z10=>lp
   generalize cL m t none l=r at*
   obtain⟨aa,roads⟩:=m
   simp only[R4,Hr,ae]at*
   simp(disch:=omega)only[go_sem,K.bL,↓reduceIte,c1,lp,ln,reduceAdd,reduceSub]
 · obtain⟨ds,lp⟩:=De h t ht ht2 (some s) (by intro s' h;cases h;exact hs) (zf l+1) l [] (Nat.lt_succ_self _) hl hb
   have l2:=ln (some s)
   clear ln
   have lp:∀z0 z1 z2 z3 z7 z10:D,exS aH K.mG ⟨[z0,z1,z2,z3,.bp 1 0,.bp 2 0,.bp 3 0,z7,.bp 5 0,.bp 6 0,z10],[.box [.t (tL s)],.box (ae m),.box [I t],.box [.fn N.bV [.bp 0 0]],A3 l,.box [.ref 4 0 l.length],.box [B true]]⟩=some (.exit 0,Hr m (some s) t (cL m t (some s) l) ds false):=fun z0 z1 z2 z3 z7 z10=>lp
   generalize cL m t (some s) l=r at*
   obtain⟨aa,roads⟩:=m
   simp only[R4,Hr,ae]at*
   simp(disch:=omega)only[go_sem,K.bL,↓reduceIte,c1,lp,l2,reduceAdd,reduceSub]
end Go.Ev
namespace Go.Ev
open Go
variable [Lib] [cz] [bZ] [gU] [gJ] [gV] [gW] [jC] [gX]
theorem Kn(x:Int):aH 0 N.bW [I x] []=some (B (!decide (plT x)),[]):=by
 refine av K.mJ rfl ?_
 have i:=yN x 0 2147483648
 unfold plT inT
 by_cases c:x=1099511627776
 · subst c
   simp(disch:=omega)only[go_sem,K.bW,↓reduceIte,reduceAdd,reduceSub]
 · by_cases c2:0≤x∧x≤2147483648
   · simp only[c2,and_self,decide_true]at i
     simp(disch:=omega)only[go_sem,K.bW,↓reduceIte,i,c,c2,false_or,and_self,decide_true,reduceAdd,reduceSub]
   · simp only[c2,decide_false]at i
     simp(disch:=omega)only[go_sem,K.bW,↓reduceIte,i,c,c2,false_or,decide_false,reduceAdd,reduceSub]
theorem Fl(m:aP)(hm:m.aa.length≤1000000)(w:Wh)(hl:w.frm.length≤1000000):aH 0 N.de [.t m.e,.t w.e] []=some (B (kU w m.aa.length),[]):=by
 refine av K.oD rfl ?_
 have i:=yN w.time 0 2147483648
 have cf:aH 0 N.aJ [.t (tL w.frm),.fn N.bW []] []=some (B (w.frm.any fun x=> !decide (plT x)),[]):=sJ w.frm (by omega) N.bW [] (fun x=> !decide (plT x)) (fun x _=>Kn x)
 have e:kU w m.aa.length=(decide ((w.frm.length:Int)=m.aa.length∧inT w.time)&& !(w.frm.any fun x=> !decide (plT x))):=by
  unfold kU
  rw[Mp,Ut w.frm (fun x=> !decide (plT x))]
 rw[e]
 unfold inT
 generalize (w.frm.any fun x=> !decide (plT x))=r at*
 obtain⟨aa,roads⟩:=m
 obtain⟨time,frm⟩:=w
 simp only at*
 clear e
 by_cases c1:(frm.length:Int)=aa.length
 · by_cases c2:0≤time∧time≤2147483648
   · simp only[c2,and_self,decide_true]at i
     cases r<;>simp(disch:=omega)only[go_sem,K.de,↓reduceIte,i,cf,c1,c2,and_self,decide_true,Bool.true_and,reduceAdd,reduceSub]
   · simp only[c2,decide_false]at i
     simp(disch:=omega)only[go_sem,K.de,↓reduceIte,i,cf,c1,c2,and_false,decide_false,Bool.false_and,reduceAdd,reduceSub]
 · simp(disch:=omega)only[go_sem,K.de,↓reduceIte,c1,false_and,decide_false,Bool.false_and,reduceAdd,reduceSub]
theorem Fm{m:aP}(h:m.ok)(w:Wh)(hl:w.frm.length≤1000000):aH 0 N.eB [.t m.e,.t w.e] []=some (B (dy m w),[]):=by
 refine av K.pB rfl ?_
 have np:=h.np
 have v:=mY h
 have s:=Fl m (by omega) w hl
 unfold dy
 cases hp:kU w m.aa.length with
 | false=>
   rw[hp]at s
   obtain⟨aa,roads⟩:=m
   obtain⟨time,frm⟩:=w
   simp only at*
   simp(disch:=omega)only[go_sem,K.eB,↓reduceIte,v,s,Bool.false_and,reduceAdd,reduceSub]
 | true=>
   rw[hp]at s
   obtain⟨p1,p2,p3⟩:=mA hp
   have hb:bnd w.frm:=fun x hx=>kF (p3 x hx)
   have lo:=(qk h w.time (by unfold inT at p2;omega) (by unfold inT at p2;omega) w.frm (by omega) hb).1
   have ll:=jT h w.time p2 none (by simp) (l:=w.frm) (by omega) hb
   have eq:=zt (cL m w.time none w.frm) w.frm (by omega) (by omega)
   generalize cL m w.time none w.frm=c at*
   obtain⟨aa,roads⟩:=m
   obtain⟨time,frm⟩:=w
   simp only at*
   clear hb p3
   simp(disch:=omega)only[go_sem,K.eB,↓reduceIte,v,s,lo,eq,Bool.true_and,reduceAdd,reduceSub]
theorem Cd{m:aP}(h:m.ok)(w:Wh)(hl:w.frm.length≤1000000)(aa:List Int)(hp:aa.length≤1000000)(a b:Int):
 aH 0 N.cy [.t m.e,.t w.e,.t (tL aa),I a,I b] []=some (I (iF m w aa a b),[]):=by
 refine av K.pD rfl ?_
 have np:=h.np
 have v:=Fm h w hl
 have s:=EW aa 0 (m.aa.length-1) (by omega)
 rw[UG]at s
 have i1:=yN a 0 2147483648
 have i2:=yN b 0 2147483648
 have e0:(aa≠[])↔(aa.length:Int)≠0:=by rw[ne_eq,←List.length_eq_zero_iff];omega
 unfold iF
 cases hv:dy m w with
 | false=>
   rw[hv]at v
   rw[if_neg (by simp)]
   obtain⟨pl,roads⟩:=m
   obtain⟨time,frm⟩:=w
   simp only at*
   simp(disch:=omega)only[go_sem,K.cy,↓reduceIte,v,reduceAdd,reduceSub]
 | true=>
   rw[hv]at v
   by_cases c0:(aa.length:Int)=0
   · rw[if_neg (fun h=>e0.1 h.2.1 c0)]
     obtain⟨pl,roads⟩:=m
     obtain⟨time,frm⟩:=w
     simp only at*
     simp(disch:=omega)only[go_sem,K.cy,↓reduceIte,v,c0,reduceAdd,reduceSub]
   · cases hs:A9 aa m.aa.length with
     | false=>
       rw[hs]at s
       rw[if_neg (by simp)]
       obtain⟨pl,roads⟩:=m
       obtain⟨time,frm⟩:=w
       simp only at*
       simp(disch:=omega)only[go_sem,K.cy,↓reduceIte,v,s,c0,reduceAdd,reduceSub]
     | true=>
       rw[hs]at s
       rw[if_pos ⟨rfl,e0.2 c0,rfl⟩]
       obtain⟨pl,roads⟩:=m
       obtain⟨time,frm⟩:=w
       simp only at*
       by_cases c1:inT a
       · rw[decide_eq_true (show 0≤a∧a≤2147483648 from c1)]at i1
         by_cases c2:inT b
         · rw[decide_eq_true (show 0≤b∧b≤2147483648 from c2)]at i2
           by_cases c3:a≤b
           · rw[if_pos ⟨c1,c2,c3⟩]
             simp(disch:=omega)only[go_sem,K.cy,↓reduceIte,v,s,c0,i1,i2,c3,reduceAdd,reduceSub]
           · rw[if_neg (fun h=>c3 h.2.2)]
             simp(disch:=omega)only[go_sem,K.cy,↓reduceIte,v,s,c0,i1,i2,c3,reduceAdd,reduceSub]
         · rw[decide_eq_false (show ¬(0≤b∧b≤2147483648)from c2)]at i2
           rw[if_neg (fun h=>c2 h.2.1)]
           simp(disch:=omega)only[go_sem,K.cy,↓reduceIte,v,s,c0,i1,i2,reduceAdd,reduceSub]
       · rw[decide_eq_false (show ¬(0≤a∧a≤2147483648)from c1)]at i1
         rw[if_neg (fun h=>c1 h.1)]
         simp(disch:=omega)only[go_sem,K.cy,↓reduceIte,v,s,c0,i1,reduceAdd,reduceSub]
theorem Fo(w:Wh)(t:Int)(hl:w.frm.length≤1000000):aH 0 N.eC [.t w.e,I t] []=some (.tup [.t (ez w t).1.e,I (ez w t).2],[]):=by
 refine av K.pE rfl ?_
 have c:=MN w.frm hl
 unfold ez
 obtain⟨time,frm⟩:=w
 simp only at*
 by_cases c1:t<time
 · rw[if_pos (.inl c1)]
   simp(disch:=omega)only[go_sem,K.eC,↓reduceIte,c1,reduceAdd,reduceSub]
 · by_cases c2:2147483648<t
   · rw[if_pos (.inr c2)]
     simp(disch:=omega)only[go_sem,K.eC,↓reduceIte,c1,c2,reduceAdd,reduceSub]
   · rw[if_neg (by omega)]
     simp(disch:=omega)only[go_sem,K.eC,↓reduceIte,c1,c2,c,reduceAdd,reduceSub]
def di(m:aP)(w:Wh)(t:Int):Wh×Int:=if kU w m.aa.length=false then(w,6)else if t<w.time∨2147483648<t then(w,8)else(⟨t,cL m t none w.frm⟩,0)
theorem Nb{m:aP}(h:m.ok)(w:Wh)(t:Int)(hl:w.frm.length≤1000000):aH 0 N.dR [.t m.e,.t w.e,I t] []=some (.tup [.t (di m w t).1.e,I (di m w t).2],[]):=by
 refine av K.pC rfl ?_
 have np:=h.np
 have v:=mY h
 have s:=Fl m (by omega) w hl
 unfold di
 cases hp:kU w m.aa.length with
 | false=>
   rw[hp]at s
   rw[if_pos rfl]
   obtain⟨aa,roads⟩:=m
   obtain⟨time,frm⟩:=w
   simp only at*
   simp(disch:=omega)only[go_sem,K.dR,↓reduceIte,v,s,reduceAdd,reduceSub]
 | true=>
   rw[hp]at s
   obtain⟨p1,p2,p3⟩:=mA hp
   have hb:bnd w.frm:=fun x hx=>kF (p3 x hx)
   unfold inT at p2
   by_cases c1:t<w.time
   · rw[if_neg (by simp),if_pos (.inl c1)]
     obtain⟨aa,roads⟩:=m
     obtain⟨time,frm⟩:=w
     simp only at*
     simp(disch:=omega)only[go_sem,K.dR,↓reduceIte,v,s,c1,reduceAdd,reduceSub]
   · by_cases c2:2147483648<t
     · rw[if_neg (by simp),if_pos (.inr c2)]
       obtain⟨aa,roads⟩:=m
       obtain⟨time,frm⟩:=w
       simp only at*
       simp(disch:=omega)only[go_sem,K.dR,↓reduceIte,v,s,c1,c2,reduceAdd,reduceSub]
     · have lo:=(qk h t (by omega) (by omega) w.frm (by omega) hb).1
       rw[if_neg (by simp),if_neg (by omega)]
       generalize cL m t none w.frm=c at*
       obtain⟨aa,roads⟩:=m
       obtain⟨time,frm⟩:=w
       simp only at*
       clear hb p3
       simp(disch:=omega)only[go_sem,K.dR,↓reduceIte,v,s,c1,c2,lo,reduceAdd,reduceSub]
theorem Nc{m:aP}(h:m.ok)(w:Wh)(t:Int)(hl:w.frm.length≤1000000):aH 0 N.eO [.t m.e,.t w.e,I t] []=some (.tup [.t (di m w t).1.e,I (di m w t).2],[]):=by
 refine av K.rz rfl ?_
 have np:=h.np
 have v:=qY h
 have s:=zh w m.aa.length (by omega)
 have cp:=Ak w (by omega)
 unfold di
 cases hp:kU w m.aa.length with
 | false=>
   rw[hp]at s
   rw[if_pos rfl]
   obtain⟨aa,roads⟩:=m
   obtain⟨time,frm⟩:=w
   simp only at*
   simp(disch:=omega)only[go_sem,K.eO,↓reduceIte,v,s,cp,reduceAdd,reduceSub]
 | true=>
   rw[hp]at s
   obtain⟨p1,p2,p3⟩:=mA hp
   have hb:bnd w.frm:=fun x hx=>kF (p3 x hx)
   unfold inT at p2
   by_cases c1:t<w.time
   · rw[if_neg (by simp),if_pos (.inl c1)]
     obtain⟨aa,roads⟩:=m
     obtain⟨time,frm⟩:=w
     simp only at*
     simp(disch:=omega)only[go_sem,K.eO,↓reduceIte,v,s,c1,cp,reduceAdd,reduceSub]
   · by_cases c2:2147483648<t
     · rw[if_neg (by simp),if_pos (.inr c2)]
       obtain⟨aa,roads⟩:=m
       obtain⟨time,frm⟩:=w
       simp only at*
       simp(disch:=omega)only[go_sem,K.eO,↓reduceIte,v,s,c1,c2,cp,reduceAdd,reduceSub]
     · have lo:=wu h t (by unfold inT;omega) w.frm (by omega) hb
       rw[if_neg (by simp),if_neg (by omega)]
       generalize cL m t none w.frm=c at*
       obtain⟨aa,roads⟩:=m
       obtain⟨time,frm⟩:=w
       simp only at*
       clear hb p3
       simp(disch:=omega)only[go_sem,K.eO,↓reduceIte,v,s,c1,c2,lo,reduceAdd,reduceSub]
theorem Nd(a b:Wh)(ha:a.frm.length≤1000000):aH 0 N.iH [.t a.e,.t b.e] []=some (B (decide (a.time=b.time∧a.frm=b.frm)),[]):=by
 refine av K.sW rfl ?_
 have s:=xz a.frm b.frm (by omega)
 obtain⟨t1,f1⟩:=a
 obtain⟨t2,f2⟩:=b
 simp only at*
 by_cases c:t1=t2
 · simp(disch:=omega)only[go_sem,K.iH,↓reduceIte,s,c,true_and,reduceAdd,reduceSub]
 · simp(disch:=omega)only[go_sem,K.iH,↓reduceIte,s,c,false_and,decide_false,reduceAdd,reduceSub]
end Go.Ev
namespace Go.Ev
open Go
variable [Lib] [cz] [bZ] [gU] [gJ] [kG] [gV] [gW] [jC] [gX] [fT] [eR]
theorem s6{n j:Nat}{p:Nat→Bool}(h1:j<n)(h2:p j=true)(h3:∀k,k<j→p k=false):(List.range n).find? p=some j:=by
 cases hf:(List.range n).find? p with
 | none=>exact absurd h2 (by simpa using List.find?_eq_none.1 hf j (aLu.2 h1))
 | some k=>
   obtain⟨k1,k2⟩:=xx hf
   have:k≤j:=by
    rcases Nat.lt_or_ge j k with c | c
    · rw[List.find?_range_eq_some]at hf
      exact absurd h2 (by simpa using hf.2.2 j c)
    · exact c
   rcases Nat.lt_or_ge k j with c | c
   · rw[h3 k c]at k2;cases k2
   · rw[show k=j by omega]
theorem Fp{n:Nat}{p:Nat→Bool}(h:∀k,k<n→p k=false):(List.range n).find? p=none:=List.find?_eq_none.2 fun x hx=>by rw[h x (aLu.1 hx)];simp
theorem Fq(a b:List Int):decide (PZ a b<0)=sL a b:=by
 unfold PZ sL
 cases hf:(List.range (min a.length b.length)).find? (fun j=>decide (nth a j≠nth b j))with
 | some j=>
   rw[List.find?_range_eq_some]at hf
   obtain⟨h2,h1,h3⟩:=hf
   have h1:=aLu.1 h1
   have e:(List.range a.length).find? (I4 a b)=some j:=s6 (by omega) (by simp only[I4,h2,Bool.or_true]) (fun k hk=>by
    have:=h3 k hk
    simp only[I4,Bool.or_eq_false_iff,decide_eq_false_iff_not]
    exact⟨by omega,by simpa using this⟩)
   have h2:nth a j≠nth b j:=by simpa using h2
   rw[e]
   simp only[if_neg (by omega:¬b.length≤j)]
   rw[decide_eq_decide]
   unfold MR
   split
   · omega
   · split<;>omega
 | none=>
   have h3:∀k,k<min a.length b.length→nth a k=nth b k:=fun k hk=>by
    have:=List.find?_eq_none.1 hf k (aLu.2 hk)
    simpa using this
   by_cases c:a.length≤b.length
   · have e:(List.range a.length).find? (I4 a b)=none:=Fp fun k hk=>by
      simp only[I4,Bool.or_eq_false_iff,decide_eq_false_iff_not,Decidable.not_not]
      exact⟨by omega,h3 k (by omega)⟩
     rw[e]
     simp only[decide_eq_decide]
     split<;>omega
   · have e:(List.range a.length).find? (I4 a b)=some b.length:=s6 (by omega) (by simp[I4]) (fun k hk=>by
      simp only[I4,Bool.or_eq_false_iff,decide_eq_false_iff_not,Decidable.not_not]
      exact⟨by omega,h3 k (by omega)⟩)
     rw[e]
     simp only[aLs,if_true,decide_eq_decide]
     omega
def pwB(m:aP)(ws:List World)(first:List Int)(i:Nat):Bool:=
 decide (1≤(nth ws i).tags.length∧(nth ws i).tags.length≤12)&&decide ((nth ws i).whr.length=(nth ws i).tags.length)&&fN (nth ws i).tags&&decide (jO (nth ws i).tags=jO first)&&(decide (i=0)||sL (nth ws (i-1)).tags (nth ws i).tags)&& !((nth ws i).whr.any fun x=> !dy m x)
def P9(m:aP)(b:Bel):Bool:=decide (1≤b.aq.length∧b.aq.length≤24)&&(List.range b.aq.length).all (pwB m b.aq (nth b.aq 0).tags)
theorem yE{a b:List Int}:jO a=jO b↔a.Perm b:=by
 constructor
 · intro h
   exact(kX a).symm.trans (h▸kX b)
 · intro h
   exact agd (wI a) (wI b) ((kX a).trans (h.trans (kX b).symm))
theorem uA{a b:List Int}(ha:a.Nodup)(hb:b.Nodup)(hl:a.length=b.length)(hs:∀x∈a,x∈b):a.Perm b:=by
 have key:∀y∈b,y∈a:=fun y hy=>Decidable.byContradiction fun hn=>by
  have:=q8 ha (l':=b.erase y) (fun x hx=>(List.mem_erase_of_ne (fun e=>hn (by rw[← e];exact hx))).2 (hs x hx))
  rw[List.length_erase_of_mem hy]at this
  have:=List.length_pos_of_mem hy
  omega
 exact(List.perm_ext_iff_of_nodup ha hb).2 fun x=>⟨hs x,key x⟩
theorem Qa(m:aP)(b:Bel):P9 m b=oX m b:=by
 obtain⟨ws⟩:=b
 rw[Bool.eq_iff_iff]
 constructor
 · intro h
   simp only[P9,aLr,decide_eq_true_eq,aLx,aLu,pwB,Bool.or_eq_true,Bool.not_eq_true',List.any_eq_false,Bool.not_eq_false']at h
   obtain⟨⟨h1,h2⟩,h⟩:=h
   have h0:=h 0 (by omega)
   simp only[oX,aLr,decide_eq_true_eq,aLx,aLu,qe,Bool.or_eq_true,KT]
   refine⟨⟨⟨h1,h2⟩,h0.1.1.1.1.1⟩,fun i hi=>?_⟩
   obtain⟨⟨⟨⟨⟨a1,a2⟩,a3⟩,a4⟩,a5⟩,a6⟩:=h i hi
   have pm:=yE.1 a4
   refine⟨⟨⟨⟨pm.length_eq,by rw[a2,pm.length_eq]⟩,a3⟩,a5⟩,fun k hk=>⟨?_,?_⟩⟩
   · exact mB.2 (pm.mem_iff.1 (af hk))
   · simpa using a6 _ (af (l:=(nth ws i).whr) (j:=k) (by omega))
 · intro h
   obtain⟨h1,h2,h3,h4,h5⟩:=ft h
   simp only at h1 h2 h3 h4 h5
   have p0:=(ik (h5 0 (by omega))).2.2.1
   simp only[P9,aLr,decide_eq_true_eq,aLx,aLu,pwB,Bool.or_eq_true,Bool.not_eq_true',List.any_eq_false,Bool.not_eq_false']
   refine⟨⟨h1,h2⟩,fun i hi=>?_⟩
   obtain⟨w1,w2,w3,w4⟩:=ik (h5 i hi)
   have ls:=h5 i hi
   simp only[qe,aLr,Bool.or_eq_true,decide_eq_true_eq]at ls
   refine⟨⟨⟨⟨⟨by omega,by omega⟩,w3⟩,?_⟩,ls.1.2⟩,fun x hx=>?_⟩
   · refine yE.2 (uA (jU w3) (jU p0) w1 fun x hx=>?_)
     obtain⟨j,hj⟩:=aLf.1 hx
     have:=(w4 j (aLe.1 hj).1).1
     rwa [bP hj]at this
   · obtain⟨j,hj⟩:=aLf.1 hx
     have:=(w4 j (by rw[w1,←w2];exact(aLe.1 hj).1)).2
     rw[bP hj]at this
     simpa using this
theorem Ht{m:aP}(h:m.ok)(x:Wh)(hx:x.frm.length≤1000000):aH 0 N.dE [.t x.e,.bp 0 0] [.box (ae m)]=some (B (!dy m x),[.box (ae m)]):=by
 refine av K.oF rfl ?_
 have v:=Fm h x hx
 obtain⟨aa,roads⟩:=m
 obtain⟨time,frm⟩:=x
 simp only at*
 simp(disch:=omega)only[go_sem,K.dE,↓reduceIte,v,reduceAdd,reduceSub]
abbrev swS(m:aP)(ws:List World)(first:List Int)(i:Nat):St:=
 ⟨[.und,.und,.bp 0 0,.bp 1 0,.und,.t (tL (jO first)),.und,.und,.t (.sl (ws.map World.e)),I ws.length,I i],[.box (ae m),.box [.t (.sl (ws.map World.e))],.box [.t (tL first)]]⟩
theorem Nf{m:aP}(h:m.ok)(ws:List World)(first:List Int)(hf:first.length≤1000000)(hs:∀x∈ws,x.sz)(i:Nat)(hi:i<ws.length)(hl:ws.length≤1000000):
 (pwB m ws first i=true→dV true [0,1,4,6,7] 3 (exS aH K.bX (swS m ws first i))=some (swS m ws first (i+1)))∧
 (pwB m ws first i=false→∃q,exS aH K.bX (swS m ws first i)=some q∧q.1= .ret∧q.2.vs[4]?=some (B false)):=by
 simp only[swS]
 have sz:=hs _ (af hi)
 have ex:(ws.map World.e)[i]?=some (nth ws i).e:=cI _ hi
 unfold pwB
 have ey:0<i→(ws.map World.e)[i-1]?=some (nth ws (i-1)).e∧(nth ws (i-1)).tags.length≤1000000:=fun h0=>⟨cI _ (by omega),(hs _ (af (by omega))).1⟩
 generalize nth ws (i-1)=y at*
 generalize nth ws i=x at*
 obtain⟨tags,whr⟩:=x
 obtain⟨ptags,pwhr⟩:=y
 obtain⟨s1,s2,s3⟩:=sz
 simp only at s1 s2 s3 ey ⊢
 have li:=yN tags.length 1 12
 have tg:=M7 tags s1
 have va:=Au tags
 have so:=Av tags s1
 have eq:=zt (jO tags) (jO first) (by rw[mZ];omega) (by rw[mZ];omega)
 have cf:=yQ whr (by omega) N.dE [[.sl (m.aa.map Place.e),.sl (m.roads.map Road.e)]] (fun x=> !dy m x) (fun x hx=>Ht h x (s3 x hx))
 have cf:aH 0 N.ak [.t (.sl (whr.map Wh.e)),.fn N.dE [.bp 0 0]] [.box (ae m)]=some (B (whr.any fun x=> !dy m x),[.box (ae m)]):=cf
 have cp:0<i→aH 0 N.aW [.t (tL ptags),.t (tL tags)] []=some (I (PZ ptags tags),[]):=fun h0=>B9 ptags tags (ey h0).2 s1
 have cl:=Fq ptags tags
 generalize jO tags=st at*
 generalize jO first=sf at*
 generalize (whr.any fun x=> !dy m x)=an at*
 generalize fN tags=pr at*
 generalize sL ptags tags=le at*
 generalize PZ ptags tags=cc at*
 clear hs s3
 by_cases c1:1≤tags.length∧tags.length≤12
 · have li:aH 0 N.cQ [I tags.length,I 1,I 12] []=some (B true,[]):=by rw[li,decide_eq_true (by omega)]
   by_cases c2:whr.length=tags.length
   · cases pr with
     | false=>
       refine⟨fun h=>by simp at h,fun _=>?_⟩
       simp(disch:=omega)only[go_sem,K.bX,↓reduceIte,li,tg,ex,c2,reduceAdd,reduceSub]
       refine⟨_,rfl,?_,?_⟩<;>rfl
     | true=>
       by_cases c4:st=sf
       · subst c4
         simp only[decide_true]at eq
         cases i with
         | zero=>
           cases an with
           | true=>
             refine⟨fun h=>by simp at h,fun _=>?_⟩
             simp(disch:=omega)only[go_sem,K.bX,↓reduceIte,li,tg,ex,c2,va,so,eq,cf,reduceAdd,reduceSub]
             refine⟨_,rfl,?_,?_⟩<;>rfl
           | false=>
             refine⟨fun _=>?_,fun h=>by simp[c1,c2]at h⟩
             simp(disch:=omega)only[go_sem,K.bX,↓reduceIte,li,tg,ex,c2,va,so,eq,cf,reduceAdd,reduceSub]
         | succ i=>
           obtain⟨ey, -⟩:=ey (by omega)
           have cp:=cp (by omega)
           simp only[Nat.add_sub_cancel]at ey
           cases le with
           | false=>
             have cl:¬cc<0:=by simpa using cl
             refine⟨fun h=>by simp at h,fun _=>?_⟩
             simp(disch:=omega)only[go_sem,K.bX,↓reduceIte,li,tg,ex,c2,va,so,eq,ey,cp,reduceAdd,reduceSub]
             refine⟨_,rfl,?_,?_⟩<;>rfl
           | true=>
             have cl:cc<0:=by simpa using cl
             cases an with
             | true=>
               refine⟨fun h=>by simp at h,fun _=>?_⟩
               simp(disch:=omega)only[go_sem,K.bX,↓reduceIte,li,tg,ex,c2,va,so,eq,ey,cp,cf,reduceAdd,reduceSub]
               refine⟨_,rfl,?_,?_⟩<;>rfl
             | false=>
               refine⟨fun _=>?_,fun h=>by simp[c1,c2]at h⟩
               simp(disch:=omega)only[go_sem,K.bX,↓reduceIte,li,tg,ex,c2,va,so,eq,ey,cp,cf,reduceAdd,reduceSub]
       · simp only[c4,decide_false]at eq
         refine⟨fun h=>by simp[c4]at h,fun _=>?_⟩
         simp(disch:=omega)only[go_sem,K.bX,↓reduceIte,li,tg,ex,c2,va,so,eq,reduceAdd,reduceSub]
         refine⟨_,rfl,?_,?_⟩<;>rfl
   · refine⟨fun h=>by simp[c2]at h,fun _=>?_⟩
     simp(disch:=omega)only[go_sem,K.bX,↓reduceIte,li,ex,c2,reduceAdd,reduceSub]
     refine⟨_,rfl,?_,?_⟩<;>rfl
 · have li:aH 0 N.cQ [I tags.length,I 1,I 12] []=some (B false,[]):=by rw[li,decide_eq_false (by omega)]
   refine⟨fun h=>by simp[c1]at h,fun _=>?_⟩
   simp(disch:=omega)only[go_sem,K.bX,↓reduceIte,li,ex,reduceAdd,reduceSub]
   refine⟨_,rfl,?_,?_⟩<;>rfl
end Go.Ev
namespace Go.Ev
open Go
variable [Lib] [cz] [bZ]
theorem wK{α:Type} [Dat α](l:List α)(k:Nat)(hk:k<l.length)(x:α)(j:Nat):nth (l.set k x) j=if j=k then x else nth l j:=by
 unfold nth
 by_cases h:j=k
 · subst h;rw[if_pos rfl];simp[hk]
 · rw[if_neg h]
   have:¬k=j:=fun e=>h e.symm
   simp[List.getElem?_set,this]
theorem zu{α:Type} [Dat α]{a b:List α}(h:a.length=b.length)(e:∀j,j<a.length→nth a j=nth b j):a=b:=by
 apply List.ext_getElem h
 intro j h1 h2
 have:=e j h1
 rwa [bP (aLc h1),bP (aLc h2)]at this
def clW(m:aP)(t:Int)(into:Option (List Int))(y:List Int):Prop:=∀k,k<m.roads.length→∀back,Me into ((nth m.roads k).dst back)=true→0≤ir m k back 6 9 12→
 nth y ((nth m.roads k).src back).toNat<1099511627776→max t (nth y ((nth m.roads k).src back).toNat+ir m k back 6 9 12)≤2147483648→
 nth y ((nth m.roads k).dst back).toNat≤max t (nth y ((nth m.roads k).src back).toNat+ir m k back 6 9 12)
theorem I7{m:aP}{t t':Int}(ht:t≤t'){into:Option (List Int)}{y:List Int}(h:clW m t none y):clW m t' into y:=by
 intro k hk back _ h1 h2 h3
 have:=h k hk back rfl h1 h2 (by omega)
 omega
theorem vj{α:Type}{f:α→α×Bool}(P:α→Prop)(hP:∀l,P l→P (f l).1):∀n l,P l→P (jZ f n l)
 | 0,l,h=>h
 | n+1,l,h=>by
   unfold jZ
   split
   · exact vj P hP n _ (hP l h)
   · exact hP l h
theorem AB{α:Type}{f:α→α×Bool}(P:α→Prop)(mes:α→Nat)(hP:∀l,P l→P (f l).1∧((f l).2=true→mes (f l).1<mes l)∧((f l).2=false→(f l).1=l)):∀n l,P l→mes l<n→(f (jZ f n l)).2=false∧P (jZ f n l)
 | 0,l,_,h=>by omega
 | n+1,l,hp,h=>by
   obtain⟨h1,h2,h3⟩:=hP l hp
   unfold jZ
   cases hf:(f l).2 with
   | true=>
     rw[if_pos rfl]
     have:=h2 hf
     exact AB P mes hP n _ h1 (by omega)
   | false=>
     rw[if_neg (by simp),h3 hf]
     exact⟨hf,hp⟩
theorem zv{m:aP}(t:Int)(into:Option (List Int))(k:Nat)(back:Bool)(l:List Int):
 (Me into ((nth m.roads k).dst back)=true∧0≤ir m k back 6 9 12∧nth l ((nth m.roads k).src back).toNat<1099511627776∧max t (nth l ((nth m.roads k).src back).toNat+ir m k back 6 9 12)≤2147483648∧
  max t (nth l ((nth m.roads k).src back).toNat+ir m k back 6 9 12)<nth l ((nth m.roads k).dst back).toNat∧
  fP m t into k back l=(l.set ((nth m.roads k).dst back).toNat (max t (nth l ((nth m.roads k).src back).toNat+ir m k back 6 9 12)),true))∨
 (fP m t into k back l=(l,false)∧¬(Me into ((nth m.roads k).dst back)=true∧0≤ir m k back 6 9 12∧nth l ((nth m.roads k).src back).toNat<1099511627776∧max t (nth l ((nth m.roads k).src back).toNat+ir m k back 6 9 12)≤2147483648∧
  max t (nth l ((nth m.roads k).src back).toNat+ir m k back 6 9 12)<nth l ((nth m.roads k).dst back).toNat)):=by
 unfold fP ov nI
 cases Me into ((nth m.roads k).dst back)with
 | false=>right;simp
 | true=>
   simp only[↓reduceIte,true_and,aLr,decide_eq_true_eq]
   by_cases c:((0≤ir m k back 6 9 12∧nth l ((nth m.roads k).src back).toNat<1099511627776)∧max t (nth l ((nth m.roads k).src back).toNat+ir m k back 6 9 12)≤2147483648)∧max t (nth l ((nth m.roads k).src back).toNat+ir m k back 6 9 12)<nth l ((nth m.roads k).dst back).toNat
   · left
     refine⟨c.1.1.1,c.1.1.2,c.1.2,c.2,?_⟩
     rw[if_pos c]
     simp[c.1.1.1,c.1.1.2,c.1.2,c.2]
   · right
     refine⟨?_,fun h=>c ⟨⟨⟨h.1,h.2.1⟩,h.2.2.1⟩,h.2.2.2⟩⟩
     rw[if_neg c]
     simp only[Prod.mk.injEq,true_and]
     rw[Bool.eq_false_iff];intro h;simp only[aLr,decide_eq_true_eq]at h;exact c h
section
variable {m : aP} (h : m.ok) {t : Int} {into : Option (List Int)}
include h
theorem Ce(P:List Int→Prop)(hP:∀l,l.length=m.aa.length→bnd l→P l→∀k,k<m.roads.length→∀back,P (fP m t into k back l).1){l:List Int}(hl:l.length=m.aa.length)(hb:bnd l)(hp:P l):∀k,k≤m.roads.length→P (fH m t into l k).1
 | 0,_=>hp
 | k+1,hk=>by
   have ih:=Ce P hP hl hb hp k (by omega)
   have b1:=jb h (t:=t) (into:=into) hl hb k (by omega)
   have l1:(fH m t into l k).1.length=m.aa.length:=by rw[dP,hl]
   simp only[fH,uZ]
   exact hP _ (by rw[qc,l1]) (sK h l1 b1 (by omega) false) (hP _ l1 b1 ih k (by omega) false) k (by omega) true
theorem xM(P:List Int→Prop)(hP:∀l,l.length=m.aa.length→bnd l→P l→∀k,k<m.roads.length→∀back,P (fP m t into k back l).1){l:List Int}(hl:l.length=m.aa.length)(hb:bnd l)(hp:P l):P (cL m t into l):=
 (vj (f:=dF m t into) (fun l=>(l.length=m.aa.length∧bnd l)∧P l) (fun l hl=>⟨⟨by unfold dF;rw[dP];exact hl.1.1,jb h hl.1.1 hl.1.2 _ (aLs _)⟩,Ce h P hP hl.1.1 hl.1.2 hl.2 _ (aLs _)⟩) _ l ⟨⟨hl,hb⟩,hp⟩).2
theorem AD{l:List Int}(hl:l.length=m.aa.length)(hb:bnd l):(cL m t into l).length=m.aa.length∧bnd (cL m t into l):=
 (vj (f:=dF m t into) (fun l=>(l.length=m.aa.length∧bnd l)) (fun l hl=>⟨by unfold dF;rw[dP];exact hl.1,jb h hl.1 hl.2 _ (aLs _)⟩) _ l ⟨hl,hb⟩)
theorem Ng{l:List Int}(hl:l.length=m.aa.length)(hb:bnd l)(j:Nat):nth (cL m t into l) j≤nth l j:=
 xM h (fun l'=>nth l' j≤nth l j) (fun l' hl' hb' hp k hk back=>by
  have r2:=Road.B1 (h.rs _ (af hk)) back
  rcases zv (m:=m) t into k back l' with⟨_,_,_,_,c,e⟩ | ⟨e,_⟩
  · rw[e];simp only
    rw[wK _ _ (by omega)]
    split
    · rename_i hj;rw[hj]at hp;rw[hj];omega
    · exact hp
  · rw[e];exact hp) hl hb (Int.le_refl _)
theorem Nh{y l:List Int}(hy:clW m t into y)(hl:l.length=m.aa.length)(hb:bnd l)(hle:∀j,nth y j≤nth l j):∀j,nth y j≤nth (cL m t into l) j:=
 xM h (fun l'=>∀j,nth y j≤nth l' j) (fun l' hl' hb' hp k hk back=>by
  have r2:=Road.B1 (h.rs _ (af hk)) back
  rcases zv (m:=m) t into k back l' with⟨c1,c2,c3,c4,c5,e⟩ | ⟨e,_⟩
  · rw[e];simp only
    intro j
    rw[wK _ _ (by omega)]
    split
    · rename_i hj
      have:=hp ((nth m.roads k).src back).toNat
      have:=hy k hk back c1 c2 (by omega) (by omega)
      rw[hj];omega
    · exact hp j
  · rw[e];exact hp) hl hb hle
theorem Fs{l:List Int}(hl:l.length=m.aa.length)(hb:bnd l):∀k,k≤m.roads.length→(fH m t into l k).2=false→∀i,i<k→∀back,(fP m t into i back l).2=false
 | 0,_,_,i,hi,_=>by omega
 | k+1,hk,hf,i,hi,back=>by
   have e:=(qd h (t:=t) (into:=into) hl hb k (by omega)).2
   have ih:=Fs hl hb k (by omega)
   simp only[fH,uZ,Bool.or_eq_false_iff]at hf
   obtain⟨⟨f1,f2⟩,f3⟩:=hf
   have e:=e f1
   rw[e]at f2 f3
   have e2:=(Aj h (t:=t) (into:=into) hl hb (k:=k) (by omega) false).2 f2
   rw[e2]at f3
   by_cases c:i<k
   · exact ih f1 i c back
   · have:i=k:=by omega
     subst this
     cases back
     · exact f2
     · exact f3
theorem Ft{l:List Int}(hl:l.length=m.aa.length)(hb:bnd l):clW m t into (cL m t into l):=by
 obtain⟨h1,h2,h3⟩:=AB (f:=dF m t into) (fun l=>l.length=m.aa.length∧bnd l) zf (fun l ⟨hl,hb⟩=>⟨⟨by unfold dF;rw[dP];exact hl,jb h hl hb _ (aLs _)⟩,qd h hl hb _ (aLs _)⟩) (zf l+1) l ⟨hl,hb⟩ (Nat.lt_succ_self _)
 intro k hk back c1 c2 c3 c4
 have no:=Fs h (t:=t) (into:=into) h2 h3 m.roads.length (aLs _) h1 k hk back
 change (fP m t into k back (cL m t into l)).2=false at no
 rcases zv (m:=m) t into k back (cL m t into l)with⟨_,_,_,_,_,e⟩ | ⟨_,e⟩
 · rw[e]at no;cases no
 · exact Classical.byContradiction fun hc=>e ⟨c1,c2,c3,c4,by omega⟩
theorem Ni{l:List Int}(hl:l.length=m.aa.length)(hb:bnd l)(hc:clW m t into l):cL m t into l=l:=by
 apply zu (by rw[(AD h hl hb).1,hl])
 intro j hj
 exact Int.le_antisymm (Ng h hl hb j) (Nh h hc hl hb (fun _=>Int.le_refl _) j)
theorem Cf(P:Int→Prop){l:List Int}(hl:l.length=m.aa.length)(hb:bnd l)(hp:∀x∈l,P x)(ht:∀x,t≤x→x≤2147483648→P x):∀x∈cL m t into l,P x:=
 xM h (fun l'=>∀x∈l',P x) (fun l' hl' hb' hp k hk back=>by
  rcases zv (m:=m) t into k back l' with⟨c1,c2,c3,c4,c5,e⟩ | ⟨e,_⟩
  · rw[e]
    intro x hx
    rcases aLk hx with hx | hx
    · exact hp x hx
    · subst hx;exact ht _ (by omega) c4
  · rw[e];exact hp) hl hb hp
end
theorem AE{m:aP}(h:m.ok){w:Wh}(hl:w.frm.length=m.aa.length)(ht:inT w.time)(hp:∀x∈w.frm,plT x)(hc:clW m w.time none w.frm):dy m w=true:=by
 have hb:bnd w.frm:=fun x hx=>kF (hp x hx)
 simp only[dy,kU,aLr,decide_eq_true_eq,aLx,aLu]
 exact⟨⟨⟨by omega,ht⟩,fun j hj=>hp _ (af hj)⟩,Ni h hl hb hc⟩
theorem AF{m:aP}(h:m.ok){w:Wh}(hv:dy m w=true):clW m w.time none w.frm:=by
 obtain⟨v1,v2,v3,v4⟩:=cU hv
 have:=Ft h (t:=w.time) (into:=none) v1 (fun x hx=>kF (v3 x hx))
 rwa [v4]at this
theorem vk{m:aP}(h:m.ok){l:List Int}(hl:l.length=m.aa.length)(hp:∀x∈l,plT x){a b:Int}(ha:0≤a)(hab:a≤b)(hb:inT b):dy m ⟨b,cL m a none l⟩=true:=by
 have bn:bnd l:=fun x hx=>kF (hp x hx)
 exact AE h (AD h hl bn).1 hb (Cf h plT hl bn hp (fun x h1 h2=> .inr ⟨by omega,h2⟩)) (I7 hab (Ft h hl bn))
theorem Nj(n:Nat):∀x∈jy n,plT x:=fun x hx=>by rw[List.eq_of_mem_replicate hx];exact .inl rfl
theorem AG{m:aP}(h:m.ok){p t:Int}(h0:0≤p)(h1:p<m.aa.length)(ht:inT t):gT m p t=(⟨t,cL m t none ((jy m.aa.length).set p.toNat t)⟩,0)∧dy m (gT m p t).1=true:=by
 have e:gT m p t=(⟨t,cL m t none ((jy m.aa.length).set p.toNat t)⟩,0):=by
  unfold gT;rw[if_neg (by omega),if_pos ht]
 refine⟨e,?_⟩
 rw[e]
 refine vk h (by simp) (fun x hx=>?_) ht.1 (Int.le_refl _) ht
 rcases aLk hx with hx | hx
 · exact Nj _ x hx
 · subst hx;exact .inr ht
theorem I8{w:Wh}{l:List Int}{b:Int}{n:Nat}(hl:∀p∈l,0≤p∧p<n):∀k,k≤l.length→∀j,j<n→nth (tV w l b n k).1 j=if(j:Int)∈l.take k∧nth w.frm j≤b then nth w.frm j else 1099511627776
 | 0,_,j,hj=>by
   rw[if_neg (by simp)]
   exact bP (by simp[tV,jy,hj])
 | k+1,hk,j,hj=>by
   have ih:=I8 (w:=w) (b:=b) hl k (by omega) j hj
   have p:=hl _ (af (l:=l) (j:=k) (by omega))
   rw[jR (by omega)]
   simp only[tV,u9]
   by_cases e:(j:Int)=nth l k
   · have e2:j=(nth l k).toNat:=by omega
     by_cases c:nth w.frm (nth l k).toNat≤b
     · rw[if_pos c,wK _ _ (by rw[oW];omega),if_pos e2,if_pos ⟨by simp[e],by rw[e2];exact c⟩,e2]
     · rw[if_neg c,ih,if_neg (fun x=>c (by rw[← e2];exact x.2)),if_neg (fun x=>c (by rw[← e2];exact x.2))]
   · have e2:¬j=(nth l k).toNat:=by omega
     have mm:((j:Int)∈l.take k++[nth l k])↔(j:Int)∈l.take k:=by simp[e]
     simp only[mm]
     rw[← ih]
     split
     · rw[wK _ _ (by rw[oW];omega),if_neg e2]
     · rfl
end Go.Ev
namespace Go.Ev
open Go
variable [Lib] [cz] [bZ] [jC] [gX]
theorem Nk{l:List Int}{n:Int}(h:A9 l n=true):∀x∈l,0≤x∧x<n:=by
 intro x hx
 simp only[A9,aLx,aLu,decide_eq_true_eq]at h
 obtain⟨j,hj⟩:=aLf.1 hx
 have:=h j (aLe.1 hj).1
 rw[bP hj]at this
 exact⟨this.1,this.2.1⟩
theorem Vl{w:Wh}{l:List Int}{b:Int}{n:Nat}(hl:∀p∈l,0≤p∧p<n)(hw:∀x∈w.frm,plT x)(hn:w.frm.length=n):∀x∈(tV w l b n l.length).1,plT x:=by
 intro x hx
 obtain⟨j,hj⟩:=aLf.1 hx
 have jl:=(aLe.1 hj).1
 rw[oW]at jl
 have e:=I8 (w:=w) (b:=b) hl _ (aLs _) j jl
 rw[bP hj]at e
 rw[e]
 split
 · exact hw _ (af (by omega))
 · exact .inl rfl
theorem Nl{m:aP}(h:m.ok){w:Wh}(hv:dy m w=true)(l:List Int)(a b:Int):
 (w8 m w l a b=(⟨b,cL m a none (tV w l b m.aa.length l.length).1⟩,0)∧iF m w l a b=0∧w.time≤a∧(tV w l b m.aa.length l.length).2=true∧dy m (w8 m w l a b).1=true)∨((w8 m w l a b).1=w∧(w8 m w l a b).2≠0):=by
 by_cases c0:iF m w l a b=0
 · obtain⟨-,h0,hs,ia,ib,hab⟩:=lK c0
   by_cases c1:a<w.time
   · right;unfold w8;rw[if_neg (by simpa using c0),if_pos c1];exact⟨rfl,by simp⟩
   · cases c2:(tV w l b m.aa.length l.length).2 with
     | false=>right;unfold w8;rw[if_neg (by simpa using c0),if_neg c1,if_neg (by simp[c2])];exact⟨rfl,by simp⟩
     | true=>
       left
       have e:w8 m w l a b=(⟨b,cL m a none (tV w l b m.aa.length l.length).1⟩,0):=by
        unfold w8;rw[if_neg (by simpa using c0),if_neg c1,if_pos c2]
       obtain⟨v1,v2,v3, -⟩:=cU hv
       refine⟨e,c0,by omega,rfl,?_⟩
       rw[e]
       exact vk h (oW ..) (Vl (Nk hs) v3 v1) ia.1 hab ib
 · right;unfold w8;rw[if_pos c0];exact⟨rfl,c0⟩
theorem Nn{m:aP}(h:m.ok){w:Wh}(hv:dy m w=true)(l:List Int)(a b:Int):dy m (w8 m w l a b).1=true:=by
 rcases Nl h hv l a b with⟨-, -, -, -,v⟩ | ⟨e, -⟩
 · exact v
 · rw[e];exact hv
end Go.Ev
namespace Go.Ev
open Go
variable [Lib] [cz] [bZ] [gU] [gJ] [gV] [gW] [jC] [gX]
theorem Vm{m:aP}(h:m.ok)(h1:1≤m.aa.length)(w:Wh)(hl:w.frm.length≤1000000)(l:List Int)(hp:l.length≤1000000)(a b:Int):
 aH 0 N.fY [.t m.e,.t w.e,.t (tL l),I a,I b] []=some (.tup [.t (w8 m w l a b).1.e,I (w8 m w l a b).2],[]):=by
 refine av K.sV rfl ?_
 have np:=h.np
 have g:=Cd h w hl l hp a b
 have nw:=Hh h h1
 unfold w8
 by_cases c0:iF m w l a b=0
 · rw[if_neg (by simpa using c0)]
   rw[c0]at g
   obtain⟨hv,h0,hs,ia,ib,hab⟩:=lK c0
   obtain⟨v1,v2,v3, -⟩:=cU hv
   by_cases c1:a<w.time
   · rw[if_pos c1]
     obtain⟨aa,roads⟩:=m
     obtain⟨time,frm⟩:=w
     simp only at*
     simp(disch:=omega)only[go_sem,K.fY,↓reduceIte,g,c1,reduceAdd,reduceSub]
   · rw[if_neg c1]
     have hb:bnd w.frm:=fun x hx=>kF (v3 x hx)
     have lm:=fun{j:Nat} (hj:j<l.length)=>nT hs hj
     have sl:=oW w l b m.aa.length
     have sb:=zj (n:=m.aa.length) hb l b (fun p hp=>by
      obtain⟨j,hj⟩:=aLf.1 hp
      have:=lm (aLe.1 hj).1
      rw[bP hj]at this
      omega) l.length (aLs _)
     have loop:∀z0 z1 z2 z8 z9 z12:D,exS aH K.wG ⟨[z0,z1,z2,I a,I b,.bp 0 0,.bp 1 0,.bp 2 0,z8,z9,.ref 3 0 m.aa.length,B false,z12,.t (tL l),I l.length,I 0],[.box (ae m),.box [I w.time,.t (tL w.frm)],.box [I 0,.nil],A3 (jy m.aa.length)]⟩=
      some (.exit 0,⟨[.und,.und,.und,I a,I b,.bp 0 0,.bp 1 0,.bp 2 0,.und,.und,.ref 3 0 m.aa.length,B (tV w l b m.aa.length l.length).2,.und,.t (tL l),I l.length,I l.length],[.box (ae m),.box [I w.time,.t (tL w.frm)],.box [I 0,.nil],A3 (tV w l b m.aa.length l.length).1]⟩):=by
      intro z0 z1 z2 z8 z9 z12
      refine dw (fun j=>⟨[.und,.und,.und,I a,I b,.bp 0 0,.bp 1 0,.bp 2 0,.und,.und,.ref 3 0 m.aa.length,B (tV w l b m.aa.length j).2,.und,.t (tL l),I l.length,I j],[.box (ae m),.box [I w.time,.t (tL w.frm)],.box [I 0,.nil],A3 (tV w l b m.aa.length j).1]⟩) l.length rfl ?_ ?_ (by simp)
      · intro j hj
        have lj:=sl j
        have nj:=lm hj
        simp only[tV,u9]
        generalize tV w l b m.aa.length j=r at*
        obtain⟨r1,r2⟩:=r
        obtain⟨aa,roads⟩:=m
        obtain⟨time,frm⟩:=w
        simp only[ae]at*
        by_cases c:nth frm (nth l j).toNat≤b
        · simp(disch:=omega)only[go_sem,K.mP,↓reduceIte,c,reduceAdd,reduceSub]
        · simp(disch:=omega)only[go_sem,K.mP,↓reduceIte,c,reduceAdd,reduceSub]
      · obtain⟨aa,roads⟩:=m
        obtain⟨time,frm⟩:=w
        simp only[ae]at*
        simp(disch:=omega)only[go_sem,K.mP,↓reduceIte,reduceAdd,reduceSub]
     have sl:=sl l.length
     have lo:=(qk h a (by unfold inT at ia;omega) (by unfold inT at ia;omega) (tV w l b m.aa.length l.length).1 sl sb).1
     clear sb lm hb v3
     cases c2:(tV w l b m.aa.length l.length).2 with
     | false=>
       rw[if_neg (by simp)]
       rw[c2]at loop
       generalize (tV w l b m.aa.length l.length).1=r at*
       generalize jy m.aa.length=ne at*
       obtain⟨aa,roads⟩:=m
       obtain⟨time,frm⟩:=w
       simp only[ae]at*
       simp(disch:=omega)only[go_sem,K.fY,↓reduceIte,g,c1,nw,loop,reduceAdd,reduceSub]
     | true=>
       rw[if_pos rfl]
       rw[c2]at loop
       generalize cL m a none (tV w l b m.aa.length l.length).1=cl at*
       generalize (tV w l b m.aa.length l.length).1=r at*
       generalize jy m.aa.length=ne at*
       obtain⟨aa,roads⟩:=m
       obtain⟨time,frm⟩:=w
       simp only[ae]at*
       simp(disch:=omega)only[go_sem,K.fY,↓reduceIte,g,c1,nw,loop,lo,sl,reduceAdd,reduceSub]
 · rw[if_pos c0]
   generalize iF m w l a b=q at*
   obtain⟨aa,roads⟩:=m
   obtain⟨time,frm⟩:=w
   simp only at*
   simp(disch:=omega)only[go_sem,K.fY,↓reduceIte,g,c0,reduceAdd,reduceSub]
theorem Vn{m:aP}(h:m.ok)(w:Wh)(hl:w.frm.length≤1000000)(l:List Int)(hp:l.length≤1000000)(a b bl:Int):
 aH 0 N.cM [.t m.e,.t w.e,.t (tL l),I a,I b,I bl] []=some (.tup [.t (w9 m w l a b bl).1.e,I (w9 m w l a b bl).2],[]):=by
 refine av K.oC rfl ?_
 have np:=h.np
 have g:=Cd h w hl l hp a b
 have ib:=yN bl 0 2147483648
 unfold w9
 by_cases c0:iF m w l a b=0
 · rw[if_neg (by simpa using c0)]
   rw[c0]at g
   obtain⟨hv,h0,hs,ia,ibb,hab⟩:=lK c0
   obtain⟨v1,v2,v3, -⟩:=cU hv
   unfold inT at v2 ia ibb
   by_cases c1:inT bl
   · rw[if_neg (fun x=>x c1)]
     rw[decide_eq_true (show 0≤bl∧bl≤2147483648 from c1)]at ib
     unfold inT at c1
     by_cases c2:b<w.time
     · rw[if_pos c2]
       obtain⟨aa,roads⟩:=m
       obtain⟨time,frm⟩:=w
       simp only at*
       simp(disch:=omega)only[go_sem,K.cM,↓reduceIte,g,ib,c2,reduceAdd,reduceSub]
     · rw[if_neg c2]
       by_cases c3:b-max a w.time≤bl
       · rw[if_pos c3]
         obtain⟨aa,roads⟩:=m
         obtain⟨time,frm⟩:=w
         simp only at*
         simp(disch:=omega)only[go_sem,K.cM,↓reduceIte,g,ib,c2,c3,reduceAdd,reduceSub]
       · rw[if_neg c3]
         have hb:bnd w.frm:=fun x hx=>kF (v3 x hx)
         have lm:=fun{j:Nat} (hj:j<l.length)=>nT hs hj
         have ll:=zi (n:=m.aa.length) hs
         have al:=tH w.frm l
         have ab:=zk hb l l.length
         have cl:=wH w.frm hl
         have ht:inT (b-bl):=by unfold inT;omega
         have lo1:=(qk h (b-bl) ht.1 (by unfold inT at ht;omega) (yO w.frm l l.length) (by rw[al];exact v1) ab).2 l (by omega)
         have hin:∀s,some l=some s→s≠[]∧s.length≤64:=by intro s h;cases h;exact⟨h0,by omega⟩
         have c1l:=jT h (b-bl) ht (some l) hin (l:=yO w.frm l l.length) (by rw[al];exact v1) ab
         have c1b:=xB h (b-bl) ht (some l) hin (l:=yO w.frm l l.length) (by rw[al];exact v1) ab
         have lo2:=(qk h b ibb.1 (by omega) _ c1l c1b).1
         have loop:∀z0 z1 z2 z3 z7 z10 z11 z13:D,exS aH K.rQ ⟨[z0,z1,z2,z3,I b,I bl,.bp 0 0,z7,.bp 2 0,.bp 3 0,z10,z11,.ref 4 0 w.frm.length,z13,.t (tL l),I l.length,I 0],[.box (ae m),.box [I w.time,.t (tL w.frm)],.box [.t (tL l)],.box [I 0,.nil],A3 w.frm]⟩=
          some (.exit 1,⟨[.und,.und,.und,.und,I b,I bl,.bp 0 0,.und,.bp 2 0,.bp 3 0,.und,.und,.ref 4 0 w.frm.length,.und,.t (tL l),I l.length,I l.length],[.box (ae m),.box [I w.time,.t (tL w.frm)],.box [.t (tL l)],.box [I 0,.nil],A3 (yO w.frm l l.length)]⟩):=by
          intro z0 z1 z2 z3 z7 z10 z11 z13
          refine dw (fun j=>⟨[.und,.und,.und,.und,I b,I bl,.bp 0 0,.und,.bp 2 0,.bp 3 0,.und,.und,.ref 4 0 w.frm.length,.und,.t (tL l),I l.length,I j],[.box (ae m),.box [I w.time,.t (tL w.frm)],.box [.t (tL l)],.box [I 0,.nil],A3 (yO w.frm l j)]⟩) l.length rfl ?_ ?_ (by simp)
          · intro j hj
            have lj:=al j
            have nj:=lm hj
            simp only[yO]
            generalize yO w.frm l j=r at*
            obtain⟨aa,roads⟩:=m
            obtain⟨time,frm⟩:=w
            simp only[ae]at*
            simp(disch:=omega)only[go_sem,K.mF,↓reduceIte,reduceAdd,reduceSub]
          · obtain⟨aa,roads⟩:=m
            obtain⟨time,frm⟩:=w
            simp only[ae]at*
            simp(disch:=omega)only[go_sem,K.mF,↓reduceIte,reduceAdd,reduceSub]
         have al:=al l.length
         clear ab lm hb v3 hin c1b
         generalize cL m b none (cL m (b-bl) (some l) (yO w.frm l l.length))=r3 at*
         generalize cL m (b-bl) (some l) (yO w.frm l l.length)=r2 at*
         generalize yO w.frm l l.length=r1 at*
         obtain⟨aa,roads⟩:=m
         obtain⟨time,frm⟩:=w
         simp only[ae]at*
         have e2:r2.length=frm.length:=by omega
         simp(disch:=omega)only[go_sem,K.cM,↓reduceIte,g,ib,c2,c3,cl,loop,lo1,lo2,al,e2,reduceAdd,reduceSub]
   · rw[if_pos c1]
     rw[decide_eq_false (show ¬(0≤bl∧bl≤2147483648)from c1)]at ib
     obtain⟨aa,roads⟩:=m
     obtain⟨time,frm⟩:=w
     simp only at*
     simp(disch:=omega)only[go_sem,K.cM,↓reduceIte,g,ib,reduceAdd,reduceSub]
 · rw[if_pos c0]
   generalize iF m w l a b=q at*
   obtain⟨aa,roads⟩:=m
   obtain⟨time,frm⟩:=w
   simp only at*
   simp(disch:=omega)only[go_sem,K.cM,↓reduceIte,g,c0,reduceAdd,reduceSub]
theorem Qb(a b:Wh)(ha:a.frm.length≤1000000):aH 0 N.gq [.t a.e,.t b.e] []=some (.tup [.t (jh a b).1.e,I (jh a b).2],[]):=by
 refine av K.rv rfl ?_
 obtain⟨t1,l1⟩:=a
 obtain⟨t2,l2⟩:=b
 simp only[jh]at*
 by_cases c:l1.length=l2.length
 · rw[if_pos c]
   have ml:=mO l1 l2
   have lp:∀z0 z1 z2 z5 z7 z8:D,exS aH K.uy ⟨[z0,z1,z2,.bp 1 0,.bp 2 0,z5,.bp 3 0,z7,z8,.t (tL l1),I l1.length,I 0],[.box [I t1,.t (tL l1)],.box [I t2,.t (tL l2)],.box [I 0,.nil],.box [I (max t1 t2),.ref 5 0 0],.arr 1 false 0 [],.arr 1 false 0 []]⟩=
    some (.exit 0,⟨[.und,.und,.und,.bp 1 0,.bp 2 0,.und,.bp 3 0,.und,.und,.t (tL l1),I l1.length,I l1.length],[.box [I t1,.t (tL l1)],.box [I t2,.t (tL l2)],.box [I 0,.nil],.box [I (max t1 t2),.ref 5 0 (B3 l1 l2 l1.length).length],.arr 1 false 0 [],.arr 1 false 0 (((B3 l1 l2 l1.length).map (T.int .i64)).map .t)]⟩):=by
    intro z0 z1 z2 z5 z7 z8
    refine dw (fun j=>⟨[.und,.und,.und,.bp 1 0,.bp 2 0,.und,.bp 3 0,.und,.und,.t (tL l1),I l1.length,I j],[.box [I t1,.t (tL l1)],.box [I t2,.t (tL l2)],.box [I 0,.nil],.box [I (max t1 t2),.ref 5 0 (B3 l1 l2 j).length],.arr 1 false 0 [],.arr 1 false 0 (((B3 l1 l2 j).map (T.int .i64)).map .t)]⟩) l1.length rfl ?_ ?_ (by simp)
    · intro j hj
      have lj:=ml j
      simp only[B3]
      generalize B3 l1 l2 j=r at*
      simp(disch:=omega)only[go_sem,K.oB,↓reduceIte,reduceAdd,reduceSub]
    · simp(disch:=omega)only[go_sem,K.oB,↓reduceIte,reduceAdd,reduceSub]
   generalize B3 l1 l2 l1.length=r at*
   have c2:=c.symm
   simp(disch:=omega)only[go_sem,K.gq,↓reduceIte,c2,lp,reduceAdd,reduceSub]
 · rw[if_neg c]
   simp(disch:=omega)only[go_sem,K.gq,↓reduceIte,c,reduceAdd,reduceSub]
   rfl
end Go.Ev
namespace Go.Ev
open Go
variable [Lib] [cz] [bZ]
section
variable {m : aP} (hm : m.ok) {N : Nat} {b : Bel} (hb : BOk m N b) {s : Wh} (hs : s.frm.length = m.aa.length) {l : List Mch}
variable (hl : ∀ y ∈ l, y.pl.length ≤ m.aa.length ∧ 1 ≤ y.pl.length ∧ ∀ x ∈ y.pl, 0 ≤ x ∧ x < m.aa.length) {t a : Int} (t0 : 0 ≤ t) (t1 : t ≤ 10000) (a0 : 0 ≤ a) (a1 : a ≤ 10000) (d : aE)
include hm hb hs hl t0 t1 a0 a1
omit hm hb t0 t1 a1 in
end
def aE.skip(d:aE)(n:Int):Nat→aE
 | 0=>d
 | k+1=>((d.skip n k).next n).2
end Go.Ev
namespace Go.Ev
open Go
variable [Lib] [cz] [bZ] [kG]
theorem Ko(s:Wh)(t:Int)(k:Nat)(hk:k<s.frm.length):aH 0 N.bT [I k,.bp 0 0,.bp 1 0] [.box [I s.time,.t (tL s.frm)],.box [I t]]=some (B (decide (nth s.frm k≤t)),[.box [I s.time,.t (tL s.frm)],.box [I t]]):=by
 refine av K.kH rfl ?_
 simp(disch:=omega)only[go_sem,K.bT,↓reduceIte,reduceAdd,reduceSub]
theorem Fu(s:Wh)(t:Int)(hl:s.frm.length≤1000000):aH 0 N.cV [.t s.e,I t] []=some (.t (tL (mV s t)),[]):=by
 refine av K.mK rfl ?_
 have wh:=Iz s.frm.length hl N.bT [[tI s.time,tL s.frm],[tI t]] (fun k=>decide (nth s.frm k≤t)) (fun k hk=>Ko s t k hk)
 have wh:aH 0 N.eM [I s.frm.length,.fn N.bT [.bp 0 0,.bp 1 0]] [.box [I s.time,.t (tL s.frm)],.box [I t]]=some (.t (tL (mV s t)),[.box [I s.time,.t (tL s.frm)],.box [I t]]):=wh
 obtain⟨time,frm⟩:=s
 simp only at hl wh
 generalize mV ⟨time,frm⟩ t=r at*
 simp(disch:=omega)only[go_sem,K.cV,↓reduceIte,wh,reduceAdd,reduceSub]
end Go.Ev
namespace Go.Ev
open Go
variable [Lib] [cz] [bZ] [gU] [gJ] [kG] [gV] [gW] [jC] [gX]
theorem Df(a b:List Int):∀n j,j<n→nth (B3 a b n) j=min (nth a j) (nth b j)
 | 0,j,h=>by omega
 | n+1,j,h=>by
   have ln:=mO a b n
   by_cases e:j=n
   · subst e
     exact bP (by simp only[B3];rw[aLh (by omega),ln];simp)
   · have ih:=Df a b n j (by omega)
     rw[← ih]
     have:(B3 a b n)[j]?=some (nth (B3 a b n) j):=ff (by omega)
     exact bP (by simp only[B3];rw[aLg (by omega)];exact this)
theorem Kp{m:aP}(h:m.ok){a b:Wh}(ha:dy m a=true)(hb:dy m b=true):(jh a b).2=0∧dy m (jh a b).1=true∧(jh a b).1.frm.length=m.aa.length∧∀j,j<m.aa.length→nth (jh a b).1.frm j=min (nth a.frm j) (nth b.frm j):=by
 obtain⟨a1,a2,a3, -⟩:=cU ha
 obtain⟨b1,b2,b3, -⟩:=cU hb
 have ca:=AF h ha
 have cb:=AF h hb
 have e:jh a b=(⟨max a.time b.time,B3 a.frm b.frm a.frm.length⟩,0):=by unfold jh;rw[if_pos (by omega)]
 rw[e]
 have mn:=fun j (hj:j<m.aa.length)=>Df a.frm b.frm a.frm.length j (by omega)
 refine⟨rfl,AE h (by simp only[mO];exact a1) (by unfold inT at *;simp only;omega) (fun x hx=>?_) ?_,by simp only[mO];exact a1,mn⟩
 · obtain⟨j,hj⟩:=aLf.1 hx
   have jl:=(aLe.1 hj).1
   simp only[mO]at jl
   have:=mn j (by omega)
   rw[bP hj]at this
   have x1:=a3 _ (af (l:=a.frm) (j:=j) jl)
   have x2:=b3 _ (af (l:=b.frm) (j:=j) (by omega))
   unfold plT inT at*
   omega
 · intro k hk back hi h1 h2 h3
   have r1:=Road.ya (h.rs _ (af hk)) back
   have r2:=Road.B1 (h.rs _ (af hk)) back
   simp only at h2 h3 ⊢
   rw[mn _ (by omega)]at h2 h3 ⊢
   rw[mn _ (by omega)]
   have y1:=ca k hk back rfl h1
   have y2:=cb k hk back rfl h1
   omega
theorem No{m:aP}(h:m.ok){w:Wh}(hv:dy m w=true)(l:List Int)(a b bl:Int):
 (w9 m w l a b bl=(⟨b,cL m b none (cL m (b-bl) (some l) (yO w.frm l l.length))⟩,0)∧iF m w l a b=0∧w.time≤b∧max a w.time<b-bl∧inT bl∧
  (cL m (b-bl) (some l) (yO w.frm l l.length)).length=m.aa.length∧(∀x∈cL m (b-bl) (some l) (yO w.frm l l.length),plT x))∨
 ((w9 m w l a b bl).1=w∧((w9 m w l a b bl).2=0→w.time≤b∧iF m w l a b=0)):=by
 by_cases c0:iF m w l a b=0
 · obtain⟨-,h0,hs,ia,ib,hab⟩:=lK c0
   by_cases c1:inT bl
   · by_cases c2:b<w.time
     · right;unfold w9;rw[if_neg (by simpa using c0),if_neg (fun x=>x c1),if_pos c2];exact⟨rfl,by simp⟩
     · by_cases c3:b-max a w.time≤bl
       · right;unfold w9;rw[if_neg (by simpa using c0),if_neg (fun x=>x c1),if_neg c2,if_pos c3];exact⟨rfl,fun _=>⟨by omega,c0⟩⟩
       · left
         obtain⟨v1,v2,v3, -⟩:=cU hv
         have pl:∀x∈yO w.frm l l.length,plT x:=by
          have key:∀k,∀x∈yO w.frm l k,plT x:=by
           intro k
           induction k with
           | zero=>exact v3
           | succ k ih=>
             intro x hx
             rcases aLk hx with hx | hx
             · exact ih x hx
             · exact .inl hx
          exact key _
         have bn:bnd (yO w.frm l l.length):=fun x hx=>kF (pl x hx)
         unfold inT at ia c1 v2 ib
         refine⟨?_,c0,by omega,by omega,c1,(AD h (by rw[tH];exact v1) bn).1,Cf h plT (by rw[tH];exact v1) bn pl (fun x h1 h2=> .inr ⟨by omega,h2⟩)⟩
         unfold w9;rw[if_neg (by simpa using c0),if_neg (fun x=>x (by unfold inT;omega)),if_neg c2,if_neg c3]
   · right;unfold w9;rw[if_neg (by simpa using c0),if_pos c1];exact⟨rfl,by simp⟩
 · right;unfold w9;rw[if_pos c0];exact⟨rfl,fun h=>absurd h c0⟩
theorem Np{m:aP}(h:m.ok){w:Wh}(hv:dy m w=true)(l:List Int)(a b bl:Int):dy m (w9 m w l a b bl).1=true:=by
 rcases No h hv l a b bl with⟨e,c0, -,hm,hbl,ln,pl⟩ | ⟨e, -⟩
 · obtain⟨-, -,hs,ia,ib,hab⟩:=lK c0
   rw[e]
   exact vk h ln pl (by unfold inT at ib;omega) (Int.le_refl _) ib
 · rw[e];exact hv
end Go.Ev
namespace Go.Ev
open Go
variable [Lib] [cz] [bZ] [gU] [gJ] [kG] [gV] [gW] [jC] [gX] [fT] [eR]
def lexB:List Int→List Int→Bool
 | _,[]=>false
 | [],_::_=>true
 | a::r,b::s=>decide (a<b)||(decide (a=b)&&lexB r s)
theorem wL(a:Int)(l:List Int)(j:Nat):nth (a::l) (j+1)=nth l j:=by simp[nth]
theorem wM(a:Int)(l:List Int):nth (a::l) 0=a:=by simp[nth]
theorem o6:∀a b:List Int,sL a b=lexB a b
 | a,[]=>by
   unfold sL lexB
   simp
 | [],b::s=>by
   unfold sL lexB
   simp
 | a::r,b::s=>by
   have ih:=o6 r s
   unfold sL at ih ⊢
   have e:min (a::r).length (b::s).length=min r.length s.length+1:=by simp only[List.length_cons];omega
   rw[e,List.range_succ_eq_map,List.find?_cons]
   simp only[wM]
   by_cases h:a=b
   · subst h
     simp only[ne_eq,not_true_eq_false,decide_false,aLt,List.find?_map,lexB,decide_true,Bool.true_and,Int.lt_irrefl,Bool.false_or]
     rw[← ih]
     have:((fun j=>decide (¬nth (a::r) j=nth (a::s) j)) ∘ Nat.succ)=fun j=>decide (nth r j≠nth s j):=by
      funext j
      simp only[Function.comp,Nat.succ_eq_add_one,wL,ne_eq]
     rw[this]
     cases (List.range (min r.length s.length)).find? (fun j=>decide (nth r j≠nth s j))with
     | some j=>simp only[aLw,Nat.succ_eq_add_one,wL]
     | none=>simp only[Option.map_none,List.length_cons,Nat.add_lt_add_iff_right]
   · simp only[ne_eq,h,not_false_eq_true,decide_true,lexB,decide_false,Bool.false_and,Bool.or_false,wM]
theorem lex_trans:∀ {a b c:List Int},lexB a b=true→lexB b c=true→lexB a c=true
 | _,_,[],_,h=>by simp[lexB]at h
 | [],_,_::_,_,_=>rfl
 | _::_,[],_,h,_=>by simp[lexB]at h
 | a::r,b::s,c::t,h1,h2=>by
   simp only[lexB,Bool.or_eq_true,aLr,decide_eq_true_eq]at h1 h2 ⊢
   rcases h1 with h1 | ⟨h1,k1⟩
   · rcases h2 with h2 | ⟨h2,k2⟩
     · left;omega
     · left;omega
   · rcases h2 with h2 | ⟨h2,k2⟩
     · left;omega
     · right;exact⟨by omega,lex_trans k1 k2⟩
theorem lex_irrefl:∀a:List Int,lexB a a=false
 | []=>rfl
 | a::r=>by simp[lexB,lex_irrefl r]
theorem oH:∀a b:List Int,lexB a b=true∨a=b∨lexB b a=true
 | [],[]=> .inr (.inl rfl)
 | [],_::_=> .inl rfl
 | _::_,[]=> .inr (.inr rfl)
 | a::r,b::s=>by
   simp only[lexB,Bool.or_eq_true,aLr,decide_eq_true_eq,List.cons.injEq]
   rcases oH r s with h | h | h
   · by_cases c:a<b
     · exact .inl (.inl c)
     · by_cases c2:a=b
       · exact .inl (.inr ⟨c2,h⟩)
       · exact .inr (.inr (.inl (by omega)))
   · by_cases c:a<b
     · exact .inl (.inl c)
     · by_cases c2:a=b
       · exact .inr (.inl ⟨c2,h⟩)
       · exact .inr (.inr (.inl (by omega)))
   · by_cases c:a<b
     · exact .inl (.inl c)
     · by_cases c2:a=b
       · exact .inr (.inr (.inr ⟨c2.symm,h⟩))
       · exact .inr (.inr (.inl (by omega)))
structure WV(m:aP)(first:List Int)(x:World):Prop where
 pm:x.tags.Perm first
 wl:x.whr.length=first.length
 wv:∀w∈x.whr,dy m w=true
structure BV(m:aP)(first:List Int)(ws:List World):Prop where
 pr:fN first=true
 f1:1≤first.length
 f2:first.length≤12
 wv:∀x∈ws,WV m first x
 up:ws.Pairwise fun x y=>lexB x.tags y.tags=true
theorem Hu{a b:List Int}(h:a.Perm b)(hb:fN b=true):fN a=true:=by
 rw[Az]at hb ⊢
 exact⟨h.nodup_iff.2 hb.1,fun x hx=>hb.2 x (h.mem_iff.1 hx)⟩
theorem BV.bel{m:aP}{first:List Int}{ws:List World}(h:BV m first ws)(h1:1≤ws.length)(h2:ws.length≤24):oX m ⟨ws⟩=true:=by
 have w0:=h.wv _ (af (l:=ws) (j:=0) (by omega))
 have l0:=w0.pm.length_eq
 simp only[oX,aLr,decide_eq_true_eq,aLx,aLu,qe,Bool.or_eq_true,KT]
 have f1:=h.f1
 have f2:=h.f2
 refine⟨⟨⟨h1,h2⟩,by omega⟩,fun i hi=>?_⟩
 have wi:=h.wv _ (af (l:=ws) (j:=i) hi)
 have li:=wi.pm.length_eq
 have wl:=wi.wl
 refine⟨⟨⟨by omega,Hu wi.pm h.pr⟩,?_⟩,fun k hk=>⟨?_,?_⟩⟩
 · by_cases c:i=0
   · exact .inl c
   · right
     rw[o6]
     have:=(List.pairwise_iff_getElem.1 h.up) (i-1) i (by omega) hi (by omega)
     rwa [← bP (aLc (by omega:i-1<ws.length)),←bP (aLc hi)]at this
 · exact mB.2 (w0.pm.symm.mem_iff.1 (wi.pm.mem_iff.1 (af hk)))
 · exact wi.wv _ (af (by omega))
theorem AH{m:aP}{ws:List World}(h:oX m ⟨ws⟩=true):BV m (nth ws 0).tags ws:=by
 obtain⟨h1,h2,h3,h4,h5⟩:=ft h
 simp only at h1 h2 h3 h4 h5
 have p0:=(ik (h5 0 (by omega))).2.2.1
 refine⟨p0,h3,h4,fun x hx=>?_,?_⟩
 · obtain⟨i,hi⟩:=aLf.1 hx
   have il:=(aLe.1 hi).1
   obtain⟨w1,w2,w3,w4⟩:=ik (h5 i il)
   rw[bP hi]at w1 w2 w3 w4
   refine⟨uA (jU w3) (jU p0) w1 fun y hy=>?_,w2,fun w hw=>?_⟩
   · obtain⟨j,hj⟩:=aLf.1 hy
     have:=(w4 j (aLe.1 hj).1).1
     rwa [bP hj]at this
   · obtain⟨j,hj⟩:=aLf.1 hw
     have:=(w4 j (by rw[w1,←w2];exact(aLe.1 hj).1)).2
     rwa [bP hj]at this
 · have key:∀d i,i+d+1<ws.length→lexB (nth ws i).tags (nth ws (i+d+1)).tags=true:=by
    intro d
    induction d with
    | zero=>
      intro i hi
      have:=h5 (i+1) hi
      simp only[qe,aLr,Bool.or_eq_true,decide_eq_true_eq]at this
      have:=this.1.2
      rw[← o6]
      simpa using this
    | succ d ih=>
      intro i hi
      have a:=ih i (by omega)
      have:=h5 (i+(d+1)+1) hi
      simp only[qe,aLr,Bool.or_eq_true,decide_eq_true_eq]at this
      have b:=this.1.2.resolve_left (by omega)
      rw[o6,show i+(d+1)+1-1=i+d+1 by omega]at b
      exact lex_trans a b
   rw[List.pairwise_iff_getElem]
   intro i j hi hj hij
   have:=key (j-i-1) i (by omega)
   rw[show i+(j-i-1)+1=j by omega,bP (aLc hi),bP (aLc hj)]at this
   exact this
end Go.Ev
namespace Go.Ev.N
def Kq:Nat:=271
def Nq:Nat:=272
def Hv:Nat:=273
def K3:Nat:=274
def Ov:Nat:=275
def aB:Nat:=276
def cA:Nat:=277
def jH:Nat:=278
def fZ:Nat:=279
def kZ:Nat:=280
def bM:Nat:=281
def jI:Nat:=282
def fV:Nat:=283
def Vo:Nat:=284
def eT:Nat:=285
def je:Nat:=286
def aO:Nat:=287
def jf:Nat:=288
def kJ:Nat:=289
def im:Nat:=290
def cn:Nat:=291
def cX:Nat:=292
def bN:Nat:=293
def eU:Nat:=294
def ef:Nat:=295
def eD:Nat:=296
def aL:Nat:=297
def aM:Nat:=298
def bj:Nat:=299
def bG:Nat:=300
def aD:Nat:=301
def ay:Nat:=302
def aT:Nat:=303
def aC:Nat:=304
def aK:Nat:=305
def bh:Nat:=306
def aN:Nat:=307
def cF:Nat:=308
end Go.Ev.N
namespace Go.Ev.K
open Go.Ev
def aB:Fn:= { aU:=2,vars:=[0,1,3,4,5,6,7,8,9,10,11,12,13,14,15,16,17,112],body:=(q [w 2 (.bx v1 3),x 3 (.b false)] [] (.seq (.ite [m v0,u (.ca N.i4 0 [] [.l 0]),u (.un .not l0)] [] 0 (q [u (.ca N.cA 0 [] []),x 3 l0] [] .ret) .skip) (q [m v0,u (.ca N.kd 0 [] [.l 0]),x 4 l0] [] (q [m v4,u (.ca N.cY 0 [] [.l 0]),w 5 (.al [.nil,.nil] []),u (.st l0 l1 2 [])] [] (q [m v4,h 2 v5,u (.ca N.cC 0 [] [.l 1,.l 0]),w 6 (.al [.nil] []),u (.st l0 l1 1 [])] [] (q [h 1 v6,u (.ca N.km 0 [] [.l 0]),u (.iaa v2 (.i 0) 3 1),g l0,u (.ca N.iP 0 [] [.l 0,.i 90]),u (.bin .add l3 l0),u (.bin .sub l0 (.i 5)),x 7 l0] [(3,0)] (q [f 0 v6,g l0,a 2 l0 (.i 0),f 0 l0,g l0,u (.ln l0),x 8 l0] [] (q [m v4,m v8,u (.bin .add l0 (.i 1)),u (.ca N.ax 0 [] [.l 2,.l 0]),m v4,u (.ca N.ax 0 [] [.l 0,.i 2]),u (.bin .sub l2 l0),m v4,m v8,u (.ca N.ax 0 [] [.l 1,.l 0]),x 9 l3,x 10 l1] [] (q [h 2 v5,h 1 v6,m v9,m v10,m v7,u (.ca N.bM 0 [] [.l 4,.l 3,.l 2,.l 1,.l 0]),m l0,u (.ex l0 0),u (.ex l1 1),w 11 (.al [.nil] []),u (.st l0 l2 1 []),x 12 l2] [] (q [h 2 v5,h 1 v6,m v9,m v10,m v7,u (.ca N.bA 0 [] [.l 4,.l 3,.l 2,.l 1,.l 0]),m l0,u (.ex l0 0),u (.ex l1 1),w 13 (.al [.nil] []),u (.st l0 l2 1 []),x 14 l2] [] (.seq (.ite [h 1 v11,h 1 v13,m v12,m v14,u (.ca N.fZ 0 [] [.l 3,.l 2,.l 1,.l 0]),u (.un .not l0),m l0,y 0 false (.ld v5 2 true),y 1 false (.ld v6 1 true),e 2 false v4,y 3 false (.ca N.ax 0 [] [.l 0,.i 4]),y 4 false (.bin .mul (.i 2) l0),y 5 false (.bin .add (.i 3) l0),e 6 false v4,y 7 false (.fa v5 0),i 8 false l0,y 9 false (.ln l0),y 10 false (.ca N.cE 0 [] [.l 3,.l 0]),e 11 false v7,e 12 false v7,y 13 false (.iaa v2 (.i 1) 3 1),i 14 false l0,y 15 false (.ca N.iP 0 [] [.l 0,.i 60]),y 16 false (.bin .add l3 l0),y 17 false (.iaa v2 (.i 2) 3 1),i 18 false l0,y 19 false (.ca N.iP 0 [] [.l 0,.i 50]),y 20 false (.bd [z0,z0,z0] [(0,1,.l 8),(1,1,.l 3),(2,1,.l 0)]),y 21 false (.ca N.eT 0 [] [.l 20,.l 19,.l 15,.l 10,.l 0]),y 22 false (.un .not l0),u (.pk (.l 23) (.b true) l0)] [(7,11),(7,18),(7,23),(7,27),(8,11),(8,18),(8,23),(8,27),(15,5),(21,5),(21,11),(25,5),(25,11),(25,18)] 0 (q [x 3 (.b false)] [] .ret) .skip) (q [h 1 v13,u (.ca N.fh 3 [] [.l 0]),w 15 (.al [.nil] [(0,2)]),u (.st l0 l1 1 [])] [] (q [f 0 v15,g l0,m v4,f 0 v15,g l0,u (.ln l0),u (.ca N.ax 0 [] [.l 3,.l 0]),a 2 l5 l0,x 16 l0] [(1,7)] (.seq (q [m v4,w 17 (.ca N.ax 0 [] [.l 0,.i 7])] [] (.blk 0 (.ite [u (.bin .eql v17 (.i 0)),m l0] [] 0 (.reg [m v16,u (.nc l0),f 0 l0,g l0,m v16,u (.nc l0),f 0 l0,g l0,m v16,u (.nc l0),f 0 l0,g l0,u (.ln l0),u (.bin .sub l0 (.i 1)),a 1 l6 l0,g l0,a 1 (.l 12) (.i 0),u (.st l0 l1 1 [])] []) (.ite [u (.bin .eql v17 (.i 1)),m l0] [] 0 (.reg [m v16,u (.nc l0),f 0 l0,g l0,a 1 l0 (.i 0),u (.st l0 (.i 0) 1 [])] []) (.ite [u (.bin .eql v17 (.i 2)),m l0] [] 0 (.reg [m v16,u (.nc l0),f 1 l0,g l0,a 2 l0 (.i 0),f 0 l0,g l0,u (.bin .add l0 (.i 1)),a 2 l4 (.i 0),f 0 l0,u (.st l0 l2 1 [])] []) (.ite [u (.bin .eql v17 (.i 3)),m l0] [] 0 (.reg [m v16,u (.nc l0),f 1 l0,g l0,a 2 l0 (.i 0),f 1 l0,g l0,u (.iaa v2 (.i 0) 3 1),g l0,a 1 l2 (.i 0),u (.st l0 l1 1 [])] []) (.ite [u (.bin .eql v17 (.i 4)),m l0] [] 0 (.reg [f 0 v15,g l0,f 0 v15,g l0,a 2 l0 (.i 0),h 2 l0,u (.bsr [.l 0] 2),u (.app l5 l0 false 2),f 0 v15,u (.st l0 l1 1 [])] [(1,7)]) (.ite [u (.bin .eql v17 (.i 5)),m l0] [] 0 (.reg [m v16,m v16,u (.nc l0),f 1 l0,g l0,m v16,u (.nc l0),f 1 l0,g l0,u (.ln l0),u (.bin .sub l0 (.i 1)),u (.sc l6 none (some l0) 2),u (.nc l11),f 1 l0,u (.st l0 l2 1 [])] []) (.reg [f 0 v15,u (.st l0 (.c (.nil)) 1 [(0,2)])] []))))))))) (q [u (.ca N.cA 0 [] []),m l0,y 0 true (.ld v5 2 true),y 1 true (.ld v15 1 true),y 2 true (.bsr [.i 0] 1),e 3 true v7,e 4 true v7,y 5 true (.bin .add l0 (.i 9)),y 6 true (.bd [z0,z0,z0] [(0,1,.l 2),(1,1,.l 0),(2,1,.i 0)]),y 7 true (.ca N.eT 0 [] [.l 6,.l 5,.i 3,.l 4,.l 0]),u (.pk l8 l0 (.b false)),x 3 l0] [] .ret))))))))))))))),res:=[(3,none)]}
def cA:Fn:= { aU:=0,vars:=[0,1,2,3,4,5,6,7,8],body:=(q [x 0 (.b false)] [] (q [u (.ca N.kZ 0 [] []),w 1 (.al [.nil,.nil] []),u (.st l0 l1 2 [])] [] (q [h 2 v1,u (.bs [.i 4,.i 9] 1),u (.bs [.i 0,.i 0] 1),u (.ca N.jH 0 [] [.l 2,.l 1,.l 0,.i 0]),m l0,u (.ex l0 0),u (.ex l1 1),w 2 (.al [.nil] []),u (.st l0 l2 1 []),x 3 l2] [] (q [h 2 v1,h 1 v2,u (.ca N.bM 0 [] [.l 1,.l 0,.i 0,.i 1,.i 0]),m l0,u (.ex l0 0),u (.ex l1 1),w 4 (.al [.nil] []),u (.st l0 l2 1 []),x 5 l2] [] (q [h 2 v1,h 1 v4,u (.bs [.i 1] 1),u (.ca N.jI 0 [] [.l 2,.l 1,.i 9,.l 0,.i 20,.i 20]),m l0,u (.ex l0 0),u (.ex l1 1),w 6 (.al [.nil] []),u (.st l0 l2 1 []),x 7 l2] [] (q [h 1 v6,u (.ca N.dv 0 [] [.l 0,.i 0,.i 20]),x 8 l0] [] (q [m v3,u (.bin .eql l0 (.i 0)),m l0,e 0 true v5,y 1 true (.bin .eql l0 (.i 0)),u (.pk l2 l0 (.b false)),m l0,e 0 true v7,y 1 true (.bin .eql l0 (.i 0)),u (.pk l2 l0 (.b false)),m l0,y 0 true (.fa v2 0),i 1 true l0,y 2 true (.ln l0),y 3 true (.bin .eql l0 (.i 1)),u (.pk l4 l0 (.b false)),m l0,y 0 true (.fa v4 0),i 1 true l0,y 2 true (.ln l0),y 3 true (.bin .eql l0 (.i 2)),u (.pk l4 l0 (.b false)),m l0,y 0 true (.fa v6 0),i 1 true l0,y 2 true (.ln l0),y 3 true (.bin .eql l0 (.i 2)),u (.pk l4 l0 (.b false)),m l0,e 0 true v8,y 1 true (.ln l0),y 2 true (.bin .eql l0 (.i 2)),u (.pk l3 l0 (.b false)),m l0,y 0 true (.ld v1 2 true),y 1 true (.ld v6 1 true),y 2 true (.ca N.dI 0 [] [.l 1,.l 0]),u (.pk l3 l0 (.b false)),x 0 l0] [] .ret))))))),res:=[(0,none)]}
def AI:C:= (.its [u (.bin .lss v13 v12)] [] 0 .skip (.exit 1) (.seq (.blk 2 (q [a 1 v11 v13,g l0,x 8 l0] [] (q [h 2 v4,m v8,m v3,u (.ca N.iN 0 [] [.l 2,.l 1,.l 0]),m l0,u (.ex l0 0),u (.ex l1 1),w 9 (.al [z0,.nil] []),u (.st l0 l2 2 []),x 10 l2] [] (.seq (.ite [m v10,u (.bin .neq l0 (.i 0))] [] 0 (q [u (.bd [.nil] []),m v10,u (.st v5 l1 1 []),x 6 l1] [] .ret) .skip) (.reg [f 1 v7,g l0,h 2 v9,u (.bs [.l 0] 2),u (.app l2 l0 true 2),f 1 v7,u (.st l0 l1 1 [])] []))))) (.reg [u (.bin .add v13 (.i 1)),x 13 l0] [])))
def Bd:C:= .loop true [0,1,2,6,8,9,10] K.AI
def jH:Fn:= { aU:=4,vars:=[0,1,2,3,4,8,9,10,12,13,14,41,42,43],body:=(q [w 4 (.bx v0 2),w 5 (.al [.nil] []),x 6 (.i 0)] [] (.seq (.blk 0 (.ite [h 2 v4,u (.ca N.et 0 [] [.l 0]),u (.un .not l0),m l0,e 0 false v1,y 1 false (.ln l0),e 2 false v2,y 3 false (.ln l0),y 4 false (.bin .neq l2 l0),u (.pk l5 (.b true) l0),m l0,e 0 false v1,y 1 false (.ln l0),y 2 false (.ca N.cQ 0 [] [.l 0,.i 1,.i 12]),y 3 false (.un .not l0),u (.pk l4 (.b true) l0),m l0] [] 0 (q [u (.bd [.nil] []),u (.st v5 l0 1 []),x 6 (.i 6)] [] .ret) (.ite [m v1,u (.ca N.fC 0 [] [.l 0]),u (.un .not l0),m l0] [] 0 (q [u (.bd [.nil] []),u (.st v5 l0 1 []),x 6 (.i 41)] [] .ret) .skip))) (q [m v1,u (.ca N.aG 0 [] [.l 0]),u (.bd [.nil,.nil] [(0,1,.l 0)]),w 7 (.al [.nil,.nil] [(1,2)]),u (.st l0 l1 2 [(1,2)])] [] (.seq (q [x 11 v2,w 12 (.ln l0),x 13 (.i 0)] [] (.blk 1 K.Bd)) (q [h 2 v7,u (.bs [.l 0] 2),u (.bd [.nil] [(0,1,.l 0)]),u (.st v5 l0 1 []),x 6 (.i 0)] [] .ret))))),res:=[(5,some (1,true)),(6,none)]}
def fZ:Fn:= { aU:=4,vars:=[0,1,2,3,4,5,8],body:=(q [w 4 (.bx v0 1),w 5 (.bx v1 1),x 6 (.b false)] [] (q [m v2,m v3,u (.bin .eql l1 l0),m l0,y 0 true (.ld v4 1 true),y 1 true (.ld v5 1 true),y 2 true (.ca N.je 0 [] [.l 1,.l 0]),u (.pk l3 l0 (.b false)),x 6 l0] [] .ret)),res:=[(6,none)]}
def kZ:Fn:= { aU:=0,vars:=[0],body:=(q [w 0 (.al [.nil,.nil] [])] [] (q [u (.bd [z0,z1] [(1,1,.b true)]),u (.bd [z0,z1] []),u (.bs [.l 1,.l 0] 2),u (.bd [z0,z0] [(0,1,.i 1),(1,1,.i 1)]),u (.bd [z0,z0,z0,z0,z1,z1,z0,z0,z0,z0] [(1,1,.i 1),(2,1,.i 12),(3,1,.i 1),(4,1,.b true),(6,2,.l 0)]),u (.bs [.l 0] 10),u (.bd [.nil,.nil] [(0,1,.l 3),(1,1,.l 0)]),u (.st v0 l0 2 [])] [] .ret)),res:=[(0,some (2,true))]}
def cN:C:= (.its [u (.bin .lss v21 (.i 2))] [] 0 .skip (.exit 3) (.seq (.blk 4 (q [u (.ix v20 v21 2 1 false),x 13 l0] [] (q [f 1 v12,g l0,m v13,a 2 l1 l0,h 2 l0,m v4,u (.ca N.eC 0 [] [.l 1,.l 0]),m l0,u (.ex l0 0),u (.ex l1 1),w 14 (.al [z0,.nil] []),u (.st l0 l2 2 []),x 15 l2] [] (.ite [m v15,u (.bin .eql l0 (.i 0))] [] 0 (.reg [f 1 v12,g l0,m v13,h 2 v14,a 2 l2 l1,u (.st l0 l1 2 [])] []) .skip)))) (.reg [u (.bin .add v21 (.i 1)),x 21 l0] [])))
def ql:C:= .loop true [0,1,5,8,9,11,13,14,15,16] K.cN
def gY:C:= (.its [u (.bin .lss v19 v18)] [] 0 .skip (.exit 1) (.seq (.blk 2 (q [a 2 v17 v19,h 2 l0,w 11 (.al [.nil,.nil] []),u (.st l0 l1 2 [])] [] (.seq (.ite [f 1 v11,g l0,m v2,a 2 l1 l0,h 2 l0,f 1 v11,g l0,m v3,a 2 l1 l0,h 2 l0,m v4,u (.ca N.jf 0 [] [.l 6,.l 1,.l 0]),u (.un .not l0)] [] 0 (.exit 2) .skip) (q [h 2 v11,u (.ca N.cF 1 [] [.l 0]),w 12 (.al [.nil,.nil] []),u (.st l0 l1 2 [])] [] (q [f 0 v12,g l0,m v2,f 0 v12,g l0,m v3,f 0 v12,g l0,m v3,a 1 l1 l0,g l0,f 0 v12,g l0,m v2,a 1 l1 l0,g l0,a 1 (.l 14) (.l 13),u (.st l0 l6 1 []),a 1 (.l 13) (.l 12),u (.st l0 l3 1 [])] [(4,18)] (.seq (q [m v2,m v3,w 20 (.bd [z0,z0] [(0,1,.l 1),(1,1,.l 0)]),x 21 (.i 0)] [] (.blk 3 K.ql)) (.reg [m v10,h 2 v12,u (.bs [.l 0] 2),u (.app l2 l0 true 2),x 10 l0] []))))))) (.reg [u (.bin .add v19 (.i 1)),x 19 l0] [])))
def qn:C:= .loop true [0,1,5,8,9,11,12,13,14,15,16,20,21] K.gY
def bM:Fn:= { aU:=5,vars:=[0,1,2,3,4,5,6,10,11,12,13,15,16,18,19,20,21,60,61,62,101,102],body:=(q [w 5 (.bx v0 2),w 6 (.bx v1 1),w 7 (.al [.nil] []),x 8 (.i 0)] [] (.seq (.ite [h 2 v5,h 1 v6,u (.ca N.dI 0 [] [.l 1,.l 0]),u (.un .not l0)] [] 0 (q [h 1 v6,u (.st v7 l0 1 []),x 8 (.i 6)] [] .ret) .skip) (q [f 0 v6,g l0,a 2 l0 (.i 0),f 0 l0,g l0,u (.ln l0),u (.bin .sub l0 (.i 1)),x 9 l0] [] (.seq (.blk 0 (.ite [m v2,m v9,u (.ca N.cQ 0 [] [.l 1,.i 0,.l 0]),u (.un .not l0),m l0,e 0 false v3,e 1 false v9,y 2 false (.ca N.cQ 0 [] [.l 1,.i 0,.l 0]),y 3 false (.un .not l0),u (.pk l4 (.b true) l0),m l0,e 0 false v2,e 1 false v3,y 2 false (.bin .eql l1 l0),u (.pk l3 (.b true) l0),m l0] [] 0 (q [h 1 v6,u (.st v7 l0 1 []),x 8 (.i 19)] [] .ret) (.ite [m v4,u (.ca N.cQ 0 [] [.l 0,.i 0,.i 2147483648]),u (.un .not l0),m l0] [] 0 (q [h 1 v6,u (.st v7 l0 1 []),x 8 (.i 8)] [] .ret) .skip))) (q [f 0 v6,g l0,u (.ca N.aO 1 [] [.l 0]),x 10 l0] [] (.seq (q [f 0 v6,w 17 (.ld l0 1 false),w 18 (.ln l0),x 19 (.i 0)] [] (.blk 1 K.qn)) (q [m v10,u (.ca N.im 0 [] [.l 0]),u (.bd [.nil] [(0,1,.l 0)]),w 16 (.al [.nil] []),u (.st l0 l1 1 [])] [] (.seq (.ite [f 0 v16,g l0,u (.ln l0),u (.bin .gtr l0 (.i 24))] [] 0 (q [h 1 v6,u (.st v7 l0 1 []),x 8 (.i 44)] [] .ret) .skip) (q [h 1 v16,u (.st v7 l0 1 []),x 8 (.i 0)] [] .ret))))))))),res:=[(7,some (1,true)),(8,none)]}
def jI:Fn:= { aU:=6,vars:=[0,1,2,3,4,5,6,7,9,10,11,12,13],body:=(q [w 6 (.bx v0 2),w 7 (.bx v1 1),w 8 (.bx v3 1),w 9 (.bx v4 1),w 10 (.bx v5 1),w 11 (.al [.nil] []),x 12 (.i 0)] [] (q [h 2 v6,h 1 v7,m v2,u (.mf N.cX [.v 6,.v 8,.v 9,.v 10]),u (.ca N.cn 0 [] [.l 3,.l 2,.l 1,.l 0]),u (.ex l0 0),u (.ex l1 1),u (.st v11 l1 1 []),x 12 l1] [] .ret)),res:=[(11,some (1,true)),(12,none)]}
def fV:Fn:= { aU:=7,vars:=[0,1,2,3,4,5,6,7,8,10,11,12,13,14,15],body:=(q [w 7 (.bx v0 2),w 8 (.bx v1 1),w 9 (.bx v3 1),w 10 (.bx v4 1),w 11 (.bx v5 1),w 12 (.bx v6 1),w 13 (.al [.nil] []),x 14 (.i 0)] [] (q [h 2 v7,h 1 v8,m v2,u (.mf N.bN [.v 7,.v 9,.v 10,.v 11,.v 12]),u (.ca N.cn 0 [] [.l 3,.l 2,.l 1,.l 0]),u (.ex l0 0),u (.ex l1 1),u (.st v13 l1 1 []),x 14 l1] [] .ret)),res:=[(13,some (1,true)),(14,none)]}
def eT:Fn:= { aU:=5,vars:=[0,1,2,3,4,5,6,9,10,11,12,13,14,15,16,17,18,19,20,21,22],body:=(q [w 5 (.bx v0 2),w 6 (.bx v1 1),w 7 (.bx v4 3),x 8 (.b false)] [] (q [h 2 v5,h 1 v6,m v2,m v3,u (.iaa v7 (.i 0) 3 1),g l0,u (.iaa v7 (.i 1) 3 1),g l0,u (.ca N.jI 0 [] [.l 7,.l 6,.l 5,.l 4,.l 2,.l 0]),m l0,u (.ex l0 0),u (.ex l1 1),w 9 (.al [.nil] []),u (.st l0 l2 1 []),x 10 l2] [] (q [h 2 v5,h 1 v6,m v2,m v3,u (.iaa v7 (.i 0) 3 1),g l0,u (.iaa v7 (.i 1) 3 1),g l0,u (.ca N.gQ 0 [] [.l 7,.l 6,.l 5,.l 4,.l 2,.l 0]),m l0,u (.ex l0 0),u (.ex l1 1),w 11 (.al [.nil] []),u (.st l0 l2 1 []),x 12 l2] [] (q [h 2 v5,h 1 v6,m v2,m v3,u (.iaa v7 (.i 0) 3 1),g l0,u (.iaa v7 (.i 1) 3 1),g l0,u (.iaa v7 (.i 2) 3 1),g l0,u (.ca N.fV 0 [] [.l 9,.l 8,.l 7,.l 6,.l 4,.l 2,.l 0]),m l0,u (.ex l0 0),u (.ex l1 1),w 13 (.al [.nil] []),u (.st l0 l2 1 []),x 14 l2] [] (q [h 2 v5,h 1 v6,m v2,m v3,u (.iaa v7 (.i 0) 3 1),g l0,u (.iaa v7 (.i 1) 3 1),g l0,u (.iaa v7 (.i 2) 3 1),g l0,u (.ca N.dM 0 [3] [.l 9,.l 8,.l 7,.l 6,.l 4,.l 2,.l 0]),m l0,u (.ex l0 0),u (.ex l1 1),w 15 (.al [.nil] []),u (.st l0 l2 1 []),x 16 l2] [] (q [h 2 v5,h 1 v6,u (.iaa v7 (.i 1) 3 1),g l0,u (.ca N.eU 0 [] [.l 3,.l 2,.l 0]),m l0,u (.ex l0 0),u (.ex l1 1),w 17 (.al [.nil] []),u (.st l0 l2 1 []),x 18 l2] [] (q [h 2 v5,h 1 v6,u (.iaa v7 (.i 1) 3 1),g l0,u (.ca N.ef 0 [] [.l 3,.l 2,.l 0]),m l0,u (.ex l0 0),u (.ex l1 1),w 19 (.al [.nil] []),u (.st l0 l2 1 []),x 20 l2] [] (q [h 2 v5,h 1 v6,u (.ca N.dI 0 [] [.l 1,.l 0]),h 2 v5,h 1 v6,u (.ca N.cR 0 [] [.l 1,.l 0]),u (.eqk (.bool) false l3 l0),m l0,y 0 true (.ld v9 1 true),y 1 true (.ld v11 1 true),e 2 true v10,e 3 true v12,y 4 true (.ca N.fZ 0 [] [.l 3,.l 2,.l 1,.l 0]),u (.pk l5 l0 (.b false)),m l0,y 0 true (.ld v13 1 true),y 1 true (.ld v15 1 true),e 2 true v14,e 3 true v16,y 4 true (.ca N.fZ 0 [] [.l 3,.l 2,.l 1,.l 0]),u (.pk l5 l0 (.b false)),m l0,y 0 true (.ld v17 1 true),y 1 true (.ld v19 1 true),e 2 true v18,e 3 true v20,y 4 true (.ca N.fZ 0 [] [.l 3,.l 2,.l 1,.l 0]),u (.pk l5 l0 (.b false)),m l0,y 0 true (.ld v6 1 true),y 1 true (.iaa v7 (.i 2) 3 1),i 2 true l0,y 3 true (.iaa v7 (.i 0) 3 1),i 4 true l0,y 5 true (.ca N.dv 0 [] [.l 4,.l 2,.l 0]),y 6 true (.ld v6 1 true),y 7 true (.iaa v7 (.i 2) 3 1),i 8 true l0,y 9 true (.iaa v7 (.i 0) 3 1),i 10 true l0,y 11 true (.ca N.dW 0 [] [.l 4,.l 2,.l 0]),y 12 true (.ca N.b5 0 [] [.l 6,.l 0]),u (.pk (.l 13) l0 (.b false)),x 8 l0] [(3,0),(4,0),(35,27),(37,27),(39,27)] .ret)))))))),res:=[(8,none)]}
end Go.Ev.K
namespace Go.Ev
class iU [Lib]:Prop where
 mM:Lib.fs N.aB=some K.aB
 wN:Lib.fs N.cA=some K.cA
 wO:Lib.fs N.jH=some K.jH
 s7:Lib.fs N.fZ=some K.fZ
 yF:Lib.fs N.kZ=some K.kZ
 nD:Lib.fs N.bM=some K.bM
 vl:Lib.fs N.jI=some K.jI
 pI:Lib.fs N.fV=some K.fV
 rD:Lib.fs N.eT=some K.eT
namespace K
variable [Lib] [iU]
theorem mM:Lib.fs N.aB=some K.aB:=iU.mM
theorem wN:Lib.fs N.cA=some K.cA:=iU.wN
theorem wO:Lib.fs N.jH=some K.jH:=iU.wO
theorem s7:Lib.fs N.fZ=some K.fZ:=iU.s7
theorem yF:Lib.fs N.kZ=some K.kZ:=iU.yF
theorem nD:Lib.fs N.bM=some K.bM:=iU.nD
theorem vl:Lib.fs N.jI=some K.jI:=iU.vl
theorem pI:Lib.fs N.fV=some K.fV:=iU.pI
theorem rD:Lib.fs N.eT=some K.eT:=iU.rD
end K
end Go.Ev
namespace Go.Ev.K
open Go.Ev
def pJ:C:= (.seq (.ite [m v8,f 1 v6,g l0,u (.ln l0),u (.bin .lss l3 l0)] [] 0 .skip (.exit 2)) (.seq (.blk 3 (.ite [f 1 v6,g l0,m v8,a 2 l1 l0,h 2 l0,f 1 v7,g l0,m v8,a 2 l1 l0,h 2 l0,u (.ca N.iH 0 [] [.l 5,.l 0]),u (.un .not l0)] [] 0 (q [x 4 (.b false)] [] .ret) .skip)) (.reg [m v8,u (.bin .add l0 (.i 1)),x 8 l0] [])))
def wP:C:= .loop true [0,1,4] K.pJ
def pK:C:= (.seq (.ite [m v5,f 0 v2,g l0,u (.ln l0),u (.bin .lss l3 l0)] [] 0 .skip (.exit 0)) (.seq (.blk 1 (q [w 6 (.al [.nil,.nil] []),w 7 (.al [.nil,.nil] []),f 0 v2,g l0,m v5,a 2 l1 l0,h 2 l0,f 0 v3,g l0,m v5,a 2 l1 l0,h 2 l0,u (.st l11 l5 2 []),u (.st l11 l1 2 [])] [(8,13),(10,13),(11,13)] (.seq (.ite [f 0 v6,g l0,f 0 v7,g l0,u (.ca N.b5 0 [] [.l 2,.l 0]),u (.un .not l0),m l0,y 0 false (.fa v6 1),i 1 false l0,y 2 false (.ln l0),y 3 false (.fa v7 1),i 4 false l0,y 5 false (.ln l0),y 6 false (.bin .neq l3 l0),u (.pk l7 (.b true) l0)] [] 0 (q [x 4 (.b false)] [] .ret) .skip) (q [x 8 (.i 0)] [] (.blk 2 K.wP))))) (.reg [m v5,u (.bin .add l0 (.i 1)),x 5 l0] [])))
def wQ:C:= .loop true [0,1,4,6,7,8] K.pK
def je:Fn:= { aU:=2,vars:=[0,1,2,3,4,5,6,7,8],body:=(q [w 2 (.bx v0 1),w 3 (.bx v1 1),x 4 (.b false)] [] (.seq (.ite [f 0 v2,g l0,u (.ln l0),f 0 v3,g l0,u (.ln l0),u (.bin .neq l3 l0)] [] 0 (q [x 4 (.b false)] [] .ret) .skip) (.seq (q [x 5 (.i 0)] [] (.blk 0 K.wQ)) (q [x 4 (.b true)] [] .ret)))),res:=[(4,none)]}
def aO:Fn:= { aU:=1,vars:=[0,2],body:=(q [w 1 (.mv (.c (.nil)))] [] (.itk [m v0,u (.eqk (.sl) false l0 (.c (.nil)))] [] 0 (q [w 1 (.nw 2)] [] .ret) .skip (q [u (.bsr [] 2),m v0,u (.app l1 l0 false 2),x 1 l0] [] .ret))),res:=[(1,none)]}
def jf:Fn:= { aU:=3,vars:=[0,1,2,3,4,6,7],body:=(q [w 3 (.bx v0 2),w 4 (.bx v1 2),x 5 (.b false)] [] (q [h 2 v4,m v2,u (.ca N.cV 0 [] [.l 1,.l 0]),w 6 (.al [.nil] []),u (.st l0 l1 1 [])] [] (q [h 2 v3,m v2,u (.ca N.cV 0 [] [.l 1,.l 0]),u (.mf N.eD [.v 6]),u (.ca N.aJ 0 [] [.l 1,.l 0]),x 5 l0] [] .ret))),res:=[(5,none)]}
def AJ:C:= (.its [u (.bin .lss v7 v6)] [] 0 .skip (.exit 0) (.seq (.blk 1 (q [a 2 v5 v7,h 2 l0,w 4 (.al [z0,.nil] []),u (.st l0 l1 2 [])] [] (.reg [f 1 v3,g l0,f 0 v4,g l0,f 1 v4,g l0,u (.ca N.aG 0 [] [.l 0]),u (.bd [z0,.nil] [(0,1,.l 3),(1,1,.l 0)]),u (.bs [.l 0] 2),u (.app l7 l0 true 2),f 1 v3,u (.st l0 l1 1 [])] [(1,7),(1,9),(3,7)]))) (.reg [u (.bin .add v7 (.i 1)),x 7 l0] [])))
def Be:C:= .loop true [0,1,4] K.AJ
def kJ:Fn:= { aU:=1,vars:=[0,1,2,3,5,11,12,13],body:=(q [w 1 (.bx v0 2),w 2 (.al [.nil,.nil] [])] [] (q [f 0 v1,g l0,u (.ca N.aG 0 [] [.l 0]),u (.bd [.nil,.nil] [(0,1,.l 0)]),w 3 (.al [.nil,.nil] [(1,2)]),u (.st l0 l1 2 [(1,2)])] [] (.seq (q [f 1 v1,w 5 (.ld l0 1 false),w 6 (.ln l0),x 7 (.i 0)] [] (.blk 0 K.Be)) (q [h 2 v3,u (.st v2 l0 2 [])] [] .ret)))),res:=[(2,some (2,true))]}
def oI:C:= (.its [u (.bin .lss v11 v10)] [] 0 .skip (.exit 2) (.seq (.blk 3 (q [m v11,x 6 l0] [] (.reg [m v3,m v5,u (.bin .sub l0 (.i 1)),a 2 l2 l0,f 1 l0,g l0,m v6,m v3,m v5,u (.bin .sub l0 (.i 1)),a 2 l2 l0,f 1 l0,g l0,m v6,a 2 l1 l0,h 2 l0,f 1 v4,g l0,m v6,a 2 l1 l0,h 2 l0,u (.ca N.gq 0 [] [.l 5,.l 0]),m l0,u (.ex l0 0),u (.ex l1 1),a 2 (.l 19) (.l 18),u (.st l0 l2 2 [])] [(3,22),(5,22)]))) (.reg [u (.bin .add v11 (.i 1)),x 11 l0] [])))
def uB:C:= .loop false [0,1,2,6] K.oI
def iJ:C:= (.its [u (.bin .lss v9 v8)] [] 0 .skip (.exit 0) (.seq (.blk 1 (q [a 2 v7 v9,h 2 l0,w 4 (.al [.nil,.nil] []),u (.st l0 l1 2 [])] [] (.seq (q [m v3,u (.ln l0),x 5 l0] [] (.ite [m v5,u (.bin .gtr l0 (.i 0)),m l0,e 0 true v3,e 1 true v5,y 2 true (.bin .sub l0 (.i 1)),y 3 true (.ia l2 l0 2),y 4 true (.fa l0 0),i 5 true l0,y 6 true (.fa v4 0),i 7 true l0,y 8 true (.ca N.bc 0 [] [.l 2,.l 0]),u (.pk l9 l0 (.b false))] [] 0 (.seq (q [f 1 v4,g l0,w 10 (.ln l0),x 11 (.i 0)] [] (.blk 2 K.uB)) (.exit 1)) .skip)) (.reg [m v3,h 2 v4,u (.ca N.cF 1 [] [.l 0]),u (.bsr [.l 0] 2),u (.app l3 l0 false 2),x 3 l0] [])))) (.reg [u (.bin .add v9 (.i 1)),x 9 l0] [])))
def uC:C:= .loop false [0,1,2,4,5,6,10,11] K.iJ
def im:Fn:= { aU:=1,vars:=[0,2,3,4,6,7,8,12,13,14,35,36],body:=(q [w 1 (.mv (.c (.nil)))] [] (q [m v0,u (.ca N.aM 0 [] [.l 0]),u (.ca N.aL 0 [] [.l 0,.c (.fn N.bj [])]),x 2 l0] [] (q [w 3 (.nw 2)] [] (.seq (q [x 7 v2,w 8 (.ln l0),x 9 (.i 0)] [] (.blk 0 K.uC)) (q [m v3,x 1 l0] [] .ret))))),res:=[(1,none)]}
def bk:C:= (.its [u (.bin .lss v16 v15)] [] 0 .skip (.exit 0) (.seq (.blk 1 (q [a 2 v14 v16,h 2 l0,w 9 (.al [.nil,.nil] []),u (.st l0 l1 2 [])] [] (q [f 0 v9,g l0,m v2,u (.ca N.bq 0 [] [.l 1,.l 0]),x 10 l0] [] (q [h 2 v9,u (.ca N.cF 1 [] [.l 0]),w 11 (.al [.nil,.nil] []),u (.st l0 l1 2 [])] [] (q [m v3,f 1 v11,g l0,m v10,a 2 l1 l0,h 2 l0,u (.cw l5 0 [] [.l 0]),m l0,u (.ex l0 0),u (.ex l1 1),w 12 (.al [z0,.nil] []),u (.st l0 l2 2 []),x 13 l2] [] (.seq (q [x 17 v13] [] (.blk 2 (.seq (q [u (.bin .eql v17 (.i 6)),x 18 l0] [] (.itv 18 .skip (.reg [u (.bin .eql v17 (.i 8)),x 18 l0] []))) (.itv 18 (q [h 1 v5,m v13,u (.st v6 l1 1 []),x 7 l1] [] .ret) (.ite [u (.bin .eql v17 (.i 43)),m l0] [] 0 (.exit 1) (.ite [u (.bin .eql v17 (.i 0)),m l0] [] 0 (.reg [f 1 v11,g l0,m v10,h 2 v12,a 2 l2 l1,u (.st l0 l1 2 [])] []) .skip)))))) (.reg [f 0 v8,g l0,h 2 v11,u (.bs [.l 0] 2),u (.app l2 l0 true 2),f 0 v8,u (.st l0 l1 1 [])] []))))))) (.reg [u (.bin .add v16 (.i 1)),x 16 l0] [])))
def kr:C:= .loop true [0,1,4,7,9,10,11,12,13,17,18] K.bk
def cn:Fn:= { aU:=4,vars:=[0,1,2,3,4,5,8,9,10,12,13,14,15,16,32,33,34,54,55],body:=(q [w 4 (.bx v0 2),w 5 (.bx v1 1),w 6 (.al [.nil] []),x 7 (.i 0)] [] (.seq (.ite [h 2 v4,h 1 v5,u (.ca N.dI 0 [] [.l 1,.l 0]),u (.un .not l0)] [] 0 (q [h 1 v5,u (.st v6 l0 1 []),x 7 (.i 6)] [] .ret) .skip) (.seq (.ite [f 0 v5,g l0,a 2 l0 (.i 0),f 0 l0,g l0,m v2,u (.ca N.aZ 0 [] [.l 1,.l 0]),u (.un .not l0)] [] 0 (q [h 1 v5,u (.st v6 l0 1 []),x 7 (.i 41)] [] .ret) .skip) (q [w 8 (.al [.nil] [(0,2)])] [] (.seq (q [f 0 v5,w 14 (.ld l0 1 false),w 15 (.ln l0),x 16 (.i 0)] [] (.blk 0 K.kr)) (.seq (.ite [f 0 v8,g l0,u (.ln l0),u (.bin .eql l0 (.i 0))] [] 0 (q [h 1 v5,u (.st v6 l0 1 []),x 7 (.i 43)] [] .ret) .skip) (q [h 1 v8,u (.st v6 l0 1 []),x 7 (.i 0)] [] .ret))))))),res:=[(6,some (1,true)),(7,none)]}
def cX:Fn:= { aU:=5,vars:=[0,1,2,3,4,5,6,7],body:=(q [w 5 (.bx v0 2),w 6 (.al [z0,.nil] []),x 7 (.i 0)] [] (q [h 2 v1,h 2 v5,g v2,g v3,g v4,u (.ca N.fY 0 [] [.l 4,.l 3,.l 2,.l 1,.l 0]),u (.ex l0 0),u (.ex l1 1),u (.st v6 l1 2 []),x 7 l1] [] .ret)),res:=[(6,some (2,true)),(7,none)]}
def bN:Fn:= { aU:=6,vars:=[0,1,2,3,4,5,6,7,8],body:=(q [w 6 (.bx v0 2),w 7 (.al [z0,.nil] []),x 8 (.i 0)] [] (q [h 2 v1,h 2 v6,g v2,g v3,g v4,g v5,u (.ca N.cM 0 [] [.l 5,.l 4,.l 3,.l 2,.l 1,.l 0]),u (.ex l0 0),u (.ex l1 1),u (.st v7 l1 2 []),x 8 l1] [] .ret)),res:=[(7,some (2,true)),(8,none)]}
def fD:C:= (.its [u (.bin .lss v20 v19)] [] 0 .skip (.exit 2) (.seq (.blk 3 (q [m v20,a 2 v18 v20,h 2 l0,w 12 (.al [z0,.nil] []),x 11 l3,u (.st l1 l2 2 [])] [] (q [h 2 v3,h 2 v12,m v2,u (.ca N.dR 0 [] [.l 2,.l 1,.l 0]),m l0,u (.ex l0 0),u (.ex l1 1),w 13 (.al [z0,.nil] []),u (.st l0 l2 2 []),x 14 l2] [] (.seq (.ite [m v14,u (.bin .eql l0 (.i 6))] [] 0 (q [h 1 v4,m v14,u (.st v5 l1 1 []),x 6 l1] [] .ret) .skip) (.seq (.ite [m v8,u (.bin .eql l0 (.i 0))] [] 0 (.reg [m v14,x 8 l0] []) .skip) (.reg [f 1 v10,g l0,m v11,h 2 v13,a 2 l2 l1,u (.st l0 l1 2 [])] [])))))) (.reg [u (.bin .add v20 (.i 1)),x 20 l0] [])))
def pL:C:= .loop true [0,1,6,9,11,12,13,14] K.fD
def gu:C:= (.its [u (.bin .lss v17 v16)] [] 0 .skip (.exit 0) (.seq (.blk 1 (q [a 2 v15 v17,h 2 l0,w 9 (.al [.nil,.nil] []),u (.st l0 l1 2 [])] [] (q [h 2 v9,u (.ca N.cF 1 [] [.l 0]),w 10 (.al [.nil,.nil] []),u (.st l0 l1 2 [])] [] (.seq (q [f 1 v9,w 18 (.ld l0 1 false),w 19 (.ln l0),x 20 (.i 0)] [] (.blk 2 K.pL)) (.reg [f 0 v7,g l0,h 2 v10,u (.bs [.l 0] 2),u (.app l2 l0 true 2),f 0 v7,u (.st l0 l1 1 [])] []))))) (.reg [u (.bin .add v17 (.i 1)),x 17 l0] [])))
def pM:C:= .loop true [0,1,6,9,10,11,12,13,14,18,19,20] K.gu
def eU:Fn:= { aU:=3,vars:=[0,1,2,3,4,6,7,8,9,11,12,13,14,15,16,29,30,31,38,39,40],body:=(q [w 3 (.bx v0 2),w 4 (.bx v1 1),w 5 (.al [.nil] []),x 6 (.i 0)] [] (.seq (.ite [h 2 v3,u (.ca N.et 0 [] [.l 0]),u (.un .not l0),m l0,y 0 false (.fa v4 0),i 1 false l0,y 2 false (.ln l0),y 3 false (.ca N.cQ 0 [] [.l 0,.i 1,.i 24]),y 4 false (.un .not l0),u (.pk l5 (.b true) l0)] [] 0 (q [h 1 v4,u (.st v5 l0 1 []),x 6 (.i 6)] [] .ret) .skip) (q [w 7 (.al [.nil] [(0,2)])] [] (q [x 8 (.i 0)] [] (.seq (q [f 0 v4,w 15 (.ld l0 1 false),w 16 (.ln l0),x 17 (.i 0)] [] (.blk 0 K.pM)) (.seq (.ite [m v8,u (.bin .neq l0 (.i 0))] [] 0 (q [h 1 v4,m v8,u (.st v5 l1 1 []),x 6 l1] [] .ret) .skip) (q [h 1 v7,u (.st v5 l0 1 []),x 6 (.i 0)] [] .ret))))))),res:=[(5,some (1,true)),(6,none)]}
def jJ:C:= (.seq (.ite [m v8,f 0 v4,g l0,m v7,a 2 l1 l0,f 1 l0,g l0,u (.ln l0),u (.bin .lss l7 l0)] [] 0 .skip (.exit 2)) (.seq (.blk 3 (.ite [f 0 v4,g l0,m v7,a 2 l1 l0,f 1 l0,g l0,m v8,a 2 l1 l0,h 2 l0,f 0 v3,g l0,u (.ln l0),u (.ca N.dG 0 [] [.l 3,.l 0]),u (.un .not l0)] [] 0 (q [h 1 v4,u (.st v5 l0 1 []),x 6 (.i 6)] [] .ret) .skip)) (.reg [m v8,u (.bin .add l0 (.i 1)),x 8 l0] [])))
def pN:C:= .loop false [0,1,6,9,10,11,12,13] K.jJ
def jK:C:= (.seq (.ite [m v7,f 0 v4,g l0,u (.ln l0),u (.bin .lss l3 l0)] [] 0 .skip (.exit 0)) (.seq (.blk 1 (q [x 8 (.i 0)] [] (.blk 2 K.pN))) (.reg [m v7,u (.bin .add l0 (.i 1)),x 7 l0] [])))
def pO:C:= .loop false [0,1,6,8,9,10,11,12,13] K.jK
def iK:C:= (.seq (.ite [m v11,f 0 v4,g l0,m v10,a 2 l1 l0,f 1 l0,g l0,u (.ln l0),u (.bin .lss l7 l0)] [] 0 .skip (.exit 6)) (.seq (.blk 7 (q [w 12 (.al [z0,.nil] []),h 2 v3,f 0 v4,g l0,m v10,a 2 l1 l0,f 1 l0,g l0,m v11,a 2 l1 l0,h 2 l0,m v2,u (.ca N.eO 0 [] [.l 10,.l 1,.l 0]),m l0,u (.ex l0 0),u (.ex l1 1),u (.st (.l 15) l1 2 []),x 13 l1] [(0,13)] (.seq (.ite [m v13,u (.bin .neq l0 (.i 0))] [] 0 (q [h 1 v4,m v13,u (.st v5 l1 1 []),x 6 l1] [] .ret) .skip) (.reg [f 0 v9,g l0,m v10,a 2 l1 l0,f 1 l0,g l0,m v11,h 2 v12,a 2 l2 l1,u (.st l0 l1 2 [])] [])))) (.reg [m v11,u (.bin .add l0 (.i 1)),x 11 l0] [])))
def uD:C:= .loop false [0,1,6,7,8,12,13] K.iK
def lX:C:= (.seq (.ite [m v10,f 0 v4,g l0,u (.ln l0),u (.bin .lss l3 l0)] [] 0 .skip (.exit 4)) (.seq (.blk 5 (q [x 11 (.i 0)] [] (.blk 6 K.uD))) (.reg [m v10,u (.bin .add l0 (.i 1)),x 10 l0] [])))
def uE:C:= .loop false [0,1,6,7,8,11,12,13] K.lX
def ef:Fn:= { aU:=3,vars:=[0,1,2,3,4,6,7,8,9,10,11,12,13,14],body:=(q [w 3 (.bx v0 2),w 4 (.bx v1 1),w 5 (.al [.nil] []),x 6 (.i 0)] [] (q [h 1 v4,u (.ca N.ei 0 [] [.l 0]),u (.st v4 l0 1 [])] [] (.seq (.ite [h 2 v3,u (.ca N.dj 0 [] [.l 0]),u (.bin .neq l0 (.i 0)),m l0,y 0 false (.fa v4 0),i 1 false l0,y 2 false (.ln l0),y 3 false (.bin .lss l0 (.i 1)),u (.pk l4 (.b true) l0),m l0,y 0 false (.fa v4 0),i 1 false l0,y 2 false (.ln l0),y 3 false (.bin .gtr l0 (.i 24)),u (.pk l4 (.b true) l0)] [] 0 (q [h 1 v4,u (.st v5 l0 1 []),x 6 (.i 6)] [] .ret) .skip) (.seq (q [x 7 (.i 0)] [] (.blk 0 K.pO)) (q [h 1 v4,u (.ca N.fg 2 [] [.l 0]),w 9 (.al [.nil] []),u (.st l0 l1 1 [])] [] (.seq (q [x 10 (.i 0)] [] (.blk 4 K.uE)) (q [h 1 v9,u (.st v5 l0 1 []),x 6 (.i 0)] [] .ret))))))),res:=[(5,some (1,true)),(6,none)]}
def eD:Fn:= { aU:=2,vars:=[0,1,3],body:=(q [x 2 (.b false)] [] (q [g v1,m v0,u (.ca N.aZ 0 [] [.l 1,.l 0]),x 2 l0] [] .ret)),res:=[(2,none)]}
def aL:Fn:= { aU:=2,vars:=[0,1,4,5],body:=(q [w 2 (.mv (.c (.nil)))] [] (q [m v0,u (.ca N.bG 1 [] [.l 0]),x 3 l0] [] (q [m v3,m v1,u (.ca N.aD 0 [0] [.l 1,.l 0])] [] (q [m v3,x 2 l0] [] .ret)))),res:=[(2,none)]}
def aM:Fn:= { aU:=1,vars:=[0,1,2],body:=(q [w 1 (.bx v0 1),w 2 (.mv (.c (.und)))] [] (q [u (.mf N.ay [.v 1]),x 2 l0] [] .ret)),res:=[(2,none)]}
def bj:Fn:= { aU:=2,vars:=[0,1,2,3,4],body:=(q [w 2 (.bx v0 2),w 3 (.bx v1 2),x 4 (.i 0)] [] (q [f 0 v2,g l0,f 0 v3,g l0,u (.ca N.aW 0 [] [.l 2,.l 0]),x 4 l0] [] .ret)),res:=[(4,none)]}
def bG:Fn:= { aU:=1,vars:=[2],body:= .fail,res:=[(0,none)],prim:=[3,N.ay]}
def aD:Fn:= { aU:=2,vars:=[0,1],body:=(.reg [m v0,m v0,u (.ln l0),m v1,u (.ca N.aT 0 [0] [.l 3,.l 1,.l 0])] []),res:=[]}
def jL:C:= (.its [u (.bin .lss v5 v4)] [] 0 .skip (.exit 0) (.seq (.blk 1 (q [a 2 v3 v5,h 2 l0,w 2 (.al [.nil,.nil] []),u (.st l0 l1 2 [])] [] (.ite [m v0,h 2 v2,u (.cw l1 0 [] [.l 0]),u (.un .not l0)] [] 0 .ret .skip))) (.reg [u (.bin .add v5 (.i 1)),x 5 l0] [])))
def jW:C:= .loop true [1,2] K.jL
def ay:Fn:= { aU:=2,vars:=[0,1,4,5,6,7],body:=(q [w 3 (.ld v1 1 false),w 4 (.ln l0),x 5 (.i 0)] [] (.blk 0 K.jW)),res:=[]}
def gD:C:= (.seq (.ite [m v5,m v1,u (.bin .leq l1 l0)] [] 0 .skip (.exit 0)) (.blk 1 (q [m v0,m v4,m v5,m v2,u (.ca N.aC 0 [0] [.l 3,.l 2,.l 1,.l 0])] [] (q [m v5,x 4 l0] [] (.reg [m v5,m v3,u (.bin .add l1 l0),x 5 l0] [])))))
def gZ:C:= .loop true [6] K.gD
def lr:C:= (.seq (.ite [m v5,m v1,u (.bin .leq l1 l0)] [] 0 .skip (.exit 4)) (.blk 5 (q [m v0,m v4,m v4,m v3,u (.bin .add l1 l0),m v5,m v2,u (.ca N.aK 0 [0] [.l 6,.l 5,.l 2,.l 1,.l 0])] [] (q [m v5,x 4 l0] [] (.reg [m v5,m v3,u (.bin .mul (.i 2) l0),u (.bin .add l2 l0),x 5 l0] [])))))
def lY:C:= .loop true [6] K.lr
def gE:C:= (.seq (.ite [m v3,m v1,u (.bin .lss l1 l0)] [] 0 .skip (.exit 2)) (.blk 3 (q [m v3,u (.bin .mul (.i 2) l0),x 4 (.i 0),x 5 l1] [] (.seq (.blk 4 K.lY) (.seq (q [m v4,m v3,u (.bin .add l1 l0),x 6 l0] [] (.ite [m v6,m v1,u (.bin .lss l1 l0)] [] 0 (.reg [m v0,m v4,m v6,m v1,m v2,u (.ca N.aK 0 [0] [.l 4,.l 3,.l 2,.l 1,.l 0])] []) .skip)) (.reg [m v3,u (.bin .mul l0 (.i 2)),x 3 l0] []))))))
def hU:C:= .loop true [4,5,6] K.gE
def aT:Fn:= { aU:=3,vars:=[0,1,2,6,7,8,9],body:=(q [x 3 (.i 20)] [] (q [m v3,x 4 (.i 0),x 5 l1] [] (.seq (.blk 0 K.gZ) (q [m v0,m v4,m v1,m v2,u (.ca N.aC 0 [0] [.l 3,.l 2,.l 1,.l 0])] [] (.blk 2 K.hU))))),res:=[]}
def aQ:C:= (.seq (.ite [m v5,m v1,u (.bin .gtr l1 l0),m l0,e 0 true v3,e 1 true v0,e 2 true v5,y 3 true (.ia l1 l0 2),y 4 true (.ld l0 2 true),e 5 true v0,e 6 true v5,y 7 true (.bin .sub l0 (.i 1)),y 8 true (.ia l2 l0 2),y 9 true (.ld l0 2 true),y 10 true (.cw l9 0 [] [.l 5,.l 0]),y 11 true (.bin .lss l0 (.i 0)),u (.pk (.l 12) l0 (.b false))] [] 0 .skip (.exit 2)) (.seq (.blk 3 (.reg [m v0,m v5,m v0,m v5,u (.bin .sub l0 (.i 1)),m v0,m v5,u (.bin .sub l0 (.i 1)),a 2 l2 l0,h 2 l0,m v0,m v5,a 2 l1 l0,h 2 l0,a 2 (.l 13) (.l 12),u (.st l0 l5 2 []),a 2 (.l 13) l11,u (.st l0 l3 2 [])] [])) (.reg [m v5,u (.bin .sub l0 (.i 1)),x 5 l0] [])))
def eX:C:= .loop true [] K.aQ
def a8:C:= (.seq (.ite [m v4,m v2,u (.bin .lss l1 l0)] [] 0 .skip (.exit 0)) (.seq (.blk 1 (q [m v4,x 5 l0] [] (.blk 2 K.eX))) (.reg [m v4,u (.bin .add l0 (.i 1)),x 4 l0] [])))
def cO:C:= .loop true [5] K.a8
def aC:Fn:= { aU:=4,vars:=[0,1,2,3,8,9],body:=(q [m v1,u (.bin .add l0 (.i 1)),x 4 l0] [] (.blk 0 K.cO)),res:=[]}
def kt:C:= (.seq (.ite [m v5,m v6,u (.bin .lss l1 l0)] [] 0 .skip (.exit 0)) (.blk 1 (q [m v5,m v6,u (.bin .add l1 l0),u (.cv .u64 l0),u (.bin .shr l0 (.c (.t (.int .u64 (1))))),u (.cv .i64 l0),x 7 l0] [] (.ite [m v4,m v0,m v7,a 2 l1 l0,h 2 l0,m v0,m v1,a 2 l1 l0,h 2 l0,u (.cw l8 0 [] [.l 4,.l 0]),u (.bin .lss l0 (.i 0))] [] 0 (.reg [m v7,u (.bin .add l0 (.i 1)),x 5 l0] []) (.reg [m v7,x 6 l0] [])))))
def kK:C:= .loop true [2,3,7,8,9,10,11,12,13,14,15,16,17,18,19] K.kt
def ku:C:= (.seq (.ite [m v8,m v5,u (.bin .sub l0 (.i 1)),u (.bin .lss l2 l0)] [] 0 .skip (.exit 2)) (.seq (.blk 3 (.reg [m v0,m v8,m v0,m v8,u (.bin .add l0 (.i 1)),m v0,m v8,u (.bin .add l0 (.i 1)),a 2 l2 l0,h 2 l0,m v0,m v8,a 2 l1 l0,h 2 l0,a 2 (.l 13) (.l 12),u (.st l0 l5 2 []),a 2 (.l 13) l11,u (.st l0 l3 2 [])] [])) (.reg [m v8,u (.bin .add l0 (.i 1)),x 8 l0] [])))
def kL:C:= .loop true [1,2,3,4,6,7,9,10,11,12,13,14,15,16,17,18,19] K.ku
def kv:C:= (.seq (.ite [m v9,m v10,u (.bin .lss l1 l0)] [] 0 .skip (.exit 4)) (.blk 5 (q [m v9,m v10,u (.bin .add l1 l0),u (.cv .u64 l0),u (.bin .shr l0 (.c (.t (.int .u64 (1))))),u (.cv .i64 l0),x 11 l0] [] (.ite [m v4,m v0,m v2,a 2 l1 l0,h 2 l0,m v0,m v11,a 2 l1 l0,h 2 l0,u (.cw l8 0 [] [.l 4,.l 0]),u (.bin .lss l0 (.i 0)),u (.un .not l0)] [] 0 (.reg [m v11,u (.bin .add l0 (.i 1)),x 9 l0] []) (.reg [m v11,x 10 l0] [])))))
def kM:C:= .loop true [1,3,5,6,7,8,11,12,13,14,15,16,17,18,19] K.kv
def kx:C:= (.seq (.ite [m v12,m v9,u (.bin .gtr l1 l0)] [] 0 .skip (.exit 6)) (.seq (.blk 7 (.reg [m v0,m v12,m v0,m v12,u (.bin .sub l0 (.i 1)),m v0,m v12,u (.bin .sub l0 (.i 1)),a 2 l2 l0,h 2 l0,m v0,m v12,a 2 l1 l0,h 2 l0,a 2 (.l 13) (.l 12),u (.st l0 l5 2 []),a 2 (.l 13) l11,u (.st l0 l3 2 [])] [])) (.reg [m v12,u (.bin .sub l0 (.i 1)),x 12 l0] [])))
def kN:C:= .loop true [1,2,3,4,5,6,7,8,10,11,13,14,15,16,17,18,19] K.kx
def ky:C:= (.seq (.ite [m v15,m v16,u (.bin .lss l1 l0)] [] 0 .skip (.exit 8)) (.blk 9 (q [m v15,m v16,u (.bin .add l1 l0),u (.cv .u64 l0),u (.bin .shr l0 (.c (.t (.int .u64 (1))))),u (.cv .i64 l0),x 18 l0] [] (.ite [m v4,m v0,m v17,m v18,u (.bin .sub l1 l0),a 2 l3 l0,h 2 l0,m v0,m v18,a 2 l1 l0,h 2 l0,u (.cw l10 0 [] [.l 4,.l 0]),u (.bin .lss l0 (.i 0)),u (.un .not l0)] [] 0 (.reg [m v18,u (.bin .add l0 (.i 1)),x 15 l0] []) (.reg [m v18,x 16 l0] [])))))
def kO:C:= .loop true [5,6,7,8,9,10,11,12,18,19] K.ky
def aK:Fn:= { aU:=5,vars:=[0,1,2,3,4,10,11,12,13,14,15,16,17,18,19,20,21,22,23,24],body:=(.seq (.ite [m v2,m v1,u (.bin .sub l1 l0),u (.bin .eql l0 (.i 1))] [] 0 (q [m v2,x 5 l0] [] (q [m v3,x 6 l0] [] (.seq (.blk 0 K.kK) (.seq (q [m v1,x 8 l0] [] (.blk 2 K.kL)) .ret)))) .skip) (.seq (.ite [m v3,m v2,u (.bin .sub l1 l0),u (.bin .eql l0 (.i 1))] [] 0 (q [m v1,x 9 l0] [] (q [m v2,x 10 l0] [] (.seq (.blk 4 K.kM) (.seq (q [m v2,x 12 l0] [] (.blk 6 K.kN)) .ret)))) .skip) (q [m v1,m v3,u (.bin .add l1 l0),u (.cv .u64 l0),u (.bin .shr l0 (.c (.t (.int .u64 (1))))),u (.cv .i64 l0),x 13 l0] [] (q [m v13,m v2,u (.bin .add l1 l0),x 14 l0] [] (q [x 15 (.i 0),x 16 (.i 0)] [] (.seq (.ite [m v2,m v13,u (.bin .gtr l1 l0)] [] 0 (q [m v14,m v3,u (.bin .sub l1 l0),x 15 l0] [] (.reg [m v13,x 16 l0] [])) (q [m v1,x 15 l0] [] (.reg [m v2,x 16 l0] []))) (q [m v14,u (.bin .sub l0 (.i 1)),x 17 l0] [] (.seq (.blk 8 K.kO) (q [m v14,m v15,u (.bin .sub l1 l0),x 19 l0] [] (.seq (.ite [m v15,m v2,u (.bin .lss l1 l0),m l0,e 0 true v2,e 1 true v19,y 2 true (.bin .lss l1 l0),u (.pk l3 l0 (.b false))] [] 0 (.reg [m v0,m v15,m v2,m v19,m v4,u (.ca N.bh 0 [0] [.l 4,.l 3,.l 2,.l 1,.l 0])] []) .skip) (.seq (.ite [m v1,m v15,u (.bin .lss l1 l0),m l0,e 0 true v15,e 1 true v13,y 2 true (.bin .lss l1 l0),u (.pk l3 l0 (.b false))] [] 0 (.reg [m v0,m v1,m v15,m v13,m v4,u (.ca N.aK 0 [0] [.l 4,.l 3,.l 2,.l 1,.l 0])] []) .skip) (.ite [m v13,m v19,u (.bin .lss l1 l0),m l0,e 0 true v19,e 1 true v3,y 2 true (.bin .lss l1 l0),u (.pk l3 l0 (.b false))] [] 0 (.reg [m v0,m v13,m v19,m v3,m v4,u (.ca N.aK 0 [0] [.l 4,.l 3,.l 2,.l 1,.l 0])] []) .skip)))))))))))),res:=[]}
def lu:C:= (.seq (.ite [m v5,m v6,u (.bin .neq l1 l0)] [] 0 .skip (.exit 0)) (.blk 1 (.ite [m v5,m v6,u (.bin .gtr l1 l0)] [] 0 (q [m v0,m v2,m v5,u (.bin .sub l1 l0),m v2,m v6,m v4,u (.ca N.aN 0 [0] [.l 6,.l 3,.l 2,.l 1,.l 0])] [] (.reg [m v5,m v6,u (.bin .sub l1 l0),x 5 l0] [])) (q [m v0,m v2,m v5,u (.bin .sub l1 l0),m v2,m v6,u (.bin .add l1 l0),m v5,u (.bin .sub l1 l0),m v5,m v4,u (.ca N.aN 0 [0] [.l 10,.l 7,.l 2,.l 1,.l 0])] [] (.reg [m v6,m v5,u (.bin .sub l1 l0),x 6 l0] [])))))
def lZ:C:= .loop true [1,3] K.lu
def bh:Fn:= { aU:=5,vars:=[0,1,2,3,4,10,11],body:=(q [m v2,m v1,u (.bin .sub l1 l0),x 5 l0] [] (q [m v3,m v2,u (.bin .sub l1 l0),x 6 l0] [] (.seq (.blk 0 K.lZ) (.reg [m v0,m v2,m v5,u (.bin .sub l1 l0),m v2,m v5,m v4,u (.ca N.aN 0 [0] [.l 6,.l 3,.l 2,.l 1,.l 0])] [])))),res:=[]}
def j8:C:= (.seq (.ite [m v4,m v3,u (.bin .lss l1 l0)] [] 0 .skip (.exit 0)) (.seq (.blk 1 (.reg [m v0,m v1,m v4,u (.bin .add l1 l0),m v0,m v2,m v4,u (.bin .add l1 l0),m v0,m v2,m v4,u (.bin .add l1 l0),a 2 l3 l0,h 2 l0,m v0,m v1,m v4,u (.bin .add l1 l0),a 2 l3 l0,h 2 l0,a 2 (.l 19) (.l 16),u (.st l0 l7 2 []),a 2 (.l 17) (.l 14),u (.st l0 l3 2 [])] [])) (.reg [m v4,u (.bin .add l0 (.i 1)),x 4 l0] [])))
def kz:C:= .loop true [] K.j8
def aN:Fn:= { aU:=5,vars:=[0,1,2,3,10],body:=(q [x 4 (.i 0)] [] (.blk 0 K.kz)),res:=[]}
def ma:C:= (.its [u (.bin .lss v7 v6)] [] 0 .skip (.exit 0) (.seq (.blk 1 (q [a 2 v5 v7,h 2 l0,w 4 (.al [z0,.nil] []),u (.st l0 l1 2 [])] [] (.reg [f 1 v3,g l0,f 0 v4,g l0,f 1 v4,g l0,u (.ca N.aG 1 [] [.l 0]),u (.bd [z0,.nil] [(0,1,.l 3),(1,1,.l 0)]),u (.bs [.l 0] 2),u (.app l7 l0 true 2),f 1 v3,u (.st l0 l1 1 [])] [(1,7),(1,9),(3,7)]))) (.reg [u (.bin .add v7 (.i 1)),x 7 l0] [])))
def qo:C:= .loop true [0,1,4] K.ma
def cF:Fn:= { aU:=1,vars:=[0,1,2,3,5,11,12,13],body:=(q [w 1 (.bx v0 2),w 2 (.al [.nil,.nil] [])] [] (q [f 0 v1,g l0,u (.ca N.aG 1 [] [.l 0]),u (.bd [.nil,.nil] [(0,1,.l 0)]),w 3 (.al [.nil,.nil] [(1,2)]),u (.st l0 l1 2 [(1,2)])] [] (.seq (q [f 1 v1,w 5 (.ld l0 1 false),w 6 (.ln l0),x 7 (.i 0)] [] (.blk 0 K.qo)) (q [h 2 v3,u (.st v2 l0 2 [])] [] .ret)))),res:=[(2,some (2,true))]}
end Go.Ev.K
namespace Go.Ev
class fE [Lib]:Prop where
 s8:Lib.fs N.je=some K.je
 dT:Lib.fs N.aO=some K.aO
 s9:Lib.fs N.jf=some K.jf
 wR:Lib.fs N.kJ=some K.kJ
 rE:Lib.fs N.im=some K.im
 nV:Lib.fs N.cn=some K.cn
 rF:Lib.fs N.cX=some K.cX
 nE:Lib.fs N.bN=some K.bN
 rG:Lib.fs N.eU=some K.eU
 rH:Lib.fs N.ef=some K.ef
 pP:Lib.fs N.eD=some K.eD
 dJ:Lib.fs N.aL=some K.aL
 dK:Lib.fs N.aM=some K.aM
 oJ:Lib.fs N.bj=some K.bj
 gK:Lib.fs N.bG=some K.bG
 cB:Lib.fs N.aD=some K.aD
 fQ:Lib.fs N.ay=some K.ay
 eH:Lib.fs N.aT=some K.aT
 bY:Lib.fs N.aC=some K.aC
 gF:Lib.fs N.aK=some K.aK
 iq:Lib.fs N.bh=some K.bh
 gv:Lib.fs N.aN=some K.aN
 nF:Lib.fs N.cF=some K.cF
namespace K
variable [Lib] [fE]
theorem s8:Lib.fs N.je=some K.je:=fE.s8
theorem dT:Lib.fs N.aO=some K.aO:=fE.dT
theorem s9:Lib.fs N.jf=some K.jf:=fE.s9
theorem wR:Lib.fs N.kJ=some K.kJ:=fE.wR
theorem rE:Lib.fs N.im=some K.im:=fE.rE
theorem nV:Lib.fs N.cn=some K.cn:=fE.nV
theorem rF:Lib.fs N.cX=some K.cX:=fE.rF
theorem nE:Lib.fs N.bN=some K.bN:=fE.nE
theorem rG:Lib.fs N.eU=some K.eU:=fE.rG
theorem rH:Lib.fs N.ef=some K.ef:=fE.rH
theorem pP:Lib.fs N.eD=some K.eD:=fE.pP
theorem dJ:Lib.fs N.aL=some K.aL:=fE.dJ
theorem dK:Lib.fs N.aM=some K.aM:=fE.dK
theorem oJ:Lib.fs N.bj=some K.bj:=fE.oJ
theorem gK:Lib.fs N.bG=some K.bG:=fE.gK
theorem cB:Lib.fs N.aD=some K.aD:=fE.cB
theorem fQ:Lib.fs N.ay=some K.ay:=fE.fQ
theorem eH:Lib.fs N.aT=some K.aT:=fE.eH
theorem bY:Lib.fs N.aC=some K.aC:=fE.bY
theorem gF:Lib.fs N.aK=some K.aK:=fE.gF
theorem iq:Lib.fs N.bh=some K.bh:=fE.iq
theorem gv:Lib.fs N.aN=some K.aN:=fE.gv
theorem nF:Lib.fs N.cF=some K.cF:=fE.nF
end K
end Go.Ev
namespace Go.Ev
open Go
variable [Lib] [cz] [bZ] [gU] [gJ] [kG] [gV] [gW] [jC] [gX] [fT] [eR] [iU] [fE]
theorem Kr(x:World)(h:x.sz):∀z0 z1 z4:D,exS aH K.qo ⟨[z0,z1,.bp 1 0,.bp 3 0,z4,.t (.sl (x.whr.map Wh.e)),I x.whr.length,I 0],[.box [.t (tL x.tags),.t (.sl (x.whr.map Wh.e))],.box [.nil,.nil],A3 x.tags,.box [.ref 2 0 x.tags.length,.ref 5 0 0],.arr 2 false 0 [],.arr 2 false 0 []]⟩=
 some (.exit 0,⟨[.und,.und,.bp 1 0,.bp 3 0,.und,.t (.sl (x.whr.map Wh.e)),I x.whr.length,I x.whr.length],[.box [.t (tL x.tags),.t (.sl (x.whr.map Wh.e))],.box [.nil,.nil],A3 x.tags,.box [.ref 2 0 x.tags.length,.ref 5 0 x.whr.length],.arr 2 false 0 [],.arr 2 false 0 ((x.whr.map Wh.e).map .t)]⟩):=by
 intro z0 z1 z4
 obtain⟨tags,whr⟩:=x
 obtain⟨h1,h2,h3⟩:=h
 simp only at h1 h2 h3 ⊢
 have tk:whr.take whr.length=whr:=by simp
 refine dw (fun j=>⟨[.und,.und,.bp 1 0,.bp 3 0,.und,.t (.sl (whr.map Wh.e)),I whr.length,I j],[.box [.t (tL tags),.t (.sl (whr.map Wh.e))],.box [.nil,.nil],A3 tags,.box [.ref 2 0 tags.length,.ref 5 0 (whr.take j).length],.arr 2 false 0 [],.arr 2 false 0 (((whr.take j).map Wh.e).map .t)]⟩) whr.length rfl ?_ ?_ (by simp)
 · intro j hj
   have c:=wH (nth whr j).frm (h3 _ (af hj))
   have ex:(whr.map Wh.e)[j]?=some (nth whr j).e:=cI _ hj
   have lt:(whr.take j).length=j:=by rw[List.length_take];omega
   have tk:whr.take (j+1)=whr.take j++[nth whr j]:=jR hj
   generalize nth whr j=w at*
   generalize whr.take j=pre at*
   obtain⟨time,frm⟩:=w
   simp only[A3]at*
   simp(disch:=omega)only[go_sem,K.ma,↓reduceIte,ex,c,lt,tk,List.map_append,List.map_cons,List.map_nil,aLv,List.length_cons,List.length_nil,reduceAdd,reduceSub]
 · simp only[A3]
   simp(disch:=omega)only[go_sem,K.ma,↓reduceIte,tk,reduceAdd,reduceSub]
theorem wS(x:World)(h:x.sz):aH 1 N.cF [.t x.e] []=some (.agg [.ref 0 0 x.tags.length,.ref 1 0 x.whr.length],[.arr 1 false 0 ((x.tags.map (T.int .i64)).map .t),.arr 2 false 0 ((x.whr.map Wh.e).map .t)]):=by
 refine av K.nF rfl ?_
 have loop:=Kr x h
 have c:=wH x.tags h.1
 obtain⟨tags,whr⟩:=x
 obtain⟨h1,h2,h3⟩:=h
 simp only[A3]at h1 h2 h3 loop c ⊢
 simp(disch:=omega)only[go_sem,K.cF,↓reduceIte,loop,c,reduceAdd,reduceSub]
abbrev yR(l:List World):Obj:= .arr 2 false 0 ((l.map World.e).map .t)
theorem Ks(l:List World):aH 0 N.aM [.t (.sl (l.map World.e))] []=some (.fn N.ay [.bp 0 0],[.box [.t (.sl (l.map World.e))]]):=by
 refine av K.dK rfl ?_
 simp(disch:=omega)only[go_sem,K.aM,↓reduceIte,reduceAdd,reduceSub]
theorem Hw(l:List World)(h0:0<l.length)(hl:l.length≤1000000):aH 1 N.bG [.fn N.ay [.bp 0 0]] [.box [.t (.sl (l.map World.e))]]=some (.ref 1 0 l.length,[.box [.t (.sl (l.map World.e))],yR l]):=by
 refine EA K.gK (by decide) ?_
 show xd [3,N.ay] _ _=_
 have e:(l.map World.e).all Jx=true:=by
  rw[aLx]
  intro x hx
  obtain⟨w, -,rfl⟩:=List.mem_map.1 hx
  rfl
 have ne:(l.map World.e).isEmpty=false:=by
  cases l with
  | nil=>simp at h0
  | cons=>rfl
 simp only[xd,if_true,List.getElem?_cons_zero,e,and_true,List.length_map,ne,aLt,if_false]
 rw[if_pos (by unfold lim;omega)]
 rfl
theorem Kt(a b:World)(ha:a.sz)(hb:b.sz):aH 0 N.bj [.t a.e,.t b.e] []=some (I (PZ a.tags b.tags),[]):=by
 refine av K.oJ rfl ?_
 have c:=B9 a.tags b.tags ha.1 hb.1
 obtain⟨t1,w1⟩:=a
 obtain⟨t2,w2⟩:=b
 simp only at*
 simp(disch:=omega)only[go_sem,K.bj,↓reduceIte,c,reduceAdd,reduceSub]
abbrev Hx(l:List World):Prop:=l.Pairwise fun x y=>lexB y.tags x.tags=false
theorem Vp(a b:List Int):PZ a b<0↔lexB a b=true:=by
 rw[← o6,←Fq];simp
abbrev isS(l:List World)(b i:Int)(j:D):St:=⟨[.ref 0 0 l.length,I 0,I b,.fn N.bj [],I i,j],[yR l]⟩
theorem Nr{p:List World}{x:World}{r:List World}{j:Nat}(h:p.length=j):nth (p++x::r) j=x:=bP (by rw[aLh (by omega),h,Nat.sub_self];rfl)
theorem Vq{α:Type}{p:List α}{y x a c:α}{r:List α}{j:Nat}(h:p.length=j):((p++y::x::r).set (j+1) a).set j c=p++c::a::r:=by
 rw[List.set_append_right _ _ (by omega),h,show j+1-j=1 by omega,List.set_append_right _ _ (by omega),h,Nat.sub_self]
 rfl
def aid(b i:Int)(l0 rest:List World)(x:World)(k:Nat)(st:St):Prop:=
 ∃p q,st=isS (p++x::(q++rest)) b i (I ((p.length:Nat):Int))∧p.length+k=l0.length∧p++q=l0∧(∀y∈q,lexB x.tags y.tags=true)
theorem Qc(b i:Int)(p r:List World)(y x:World)(hx:x.sz)(hy:y.sz)(hl:(p++y::x::r).length≤1000):
 (lexB x.tags y.tags=true→dV true [] 1 (exS aH K.aQ (isS (p++y::x::r) b i (I ((p.length+1:Nat):Int))))=some (isS (p++x::y::r) b i (I ((p.length:Nat):Int))))∧
 (lexB x.tags y.tags=false→exS aH K.aQ (isS (p++y::x::r) b i (I ((p.length+1:Nat):Int)))=some (.exit 2,isS (p++y::x::r) b i (I ((p.length+1:Nat):Int)))):=by
 have c:=Kt x y hx hy
 have cl:=Vp x.tags y.tags
 obtain⟨n,hn⟩:∃n,p.length=n:=⟨_,rfl⟩
 have n1:nth (p++y::x::r) (n+1)=x:=by
  have:=Nr (p:=p++[y]) (x:=x) (r:=r) (j:=n+1) (by simp[hn])
  rwa [List.append_assoc]at this
 have n0:nth (p++y::x::r) n=y:=Nr hn
 have st:((((p++y::x::r).map World.e).map D.t).set (n+1) (D.t y.e)).set n (D.t x.e)=(((p++x::y::r).map World.e).map D.t):=by
  simp only[List.map_append,List.map_cons]
  exact Vq (by simp[hn])
 have ln:(p++y::x::r).length=(p++x::y::r).length:=by simp
 have lt:n+1<(p++y::x::r).length:=by simp[hn]
 rw[hn]
 have gs:∀v,((((p++y::x::r).map World.e).map D.t).set (n+1) v)[n]?=some (D.t y.e):=fun v=>by
  rw[aLi (by omega),aLn,aLn,ff (by omega),n0];rfl
 simp only[isS,yR]
 rw[← ln]
 generalize (p++x::y::r)=L2 at*
 generalize (p++y::x::r)=L at*
 generalize PZ x.tags y.tags=v at*
 obtain⟨t1,w1⟩:=x
 obtain⟨t2,w2⟩:=y
 simp only at*
 constructor
 · intro h
   have v0:=cl.2 h
   simp(disch:=omega)only[go_sem,K.aQ,↓reduceIte,n1,n0,c,gs,st,reduceAdd,reduceSub]
 · intro h
   have v0:¬v<0:=fun e=>by rw[cl.1 e]at h;cases h
   simp(disch:=omega)only[go_sem,K.aQ,↓reduceIte,n1,n0,c,reduceAdd,reduceSub]
theorem Vr{p q:List World}{x:World}(hs:Hx (p++q))(hq:∀y∈q,lexB x.tags y.tags=true)(hp:∀y∈p,lexB x.tags y.tags=false):Hx (p++x::q):=by
 simp only[Hx,List.pairwise_append]at hs ⊢
 refine⟨hs.1,?_,fun a ha c hc=>?_⟩
 · rw[List.pairwise_cons]
   refine⟨fun y hy=>?_,hs.2.1⟩
   cases h:lexB y.tags x.tags with
   | false=>rfl
   | true=>have:=lex_trans h (hq y hy);rw[lex_irrefl]at this;cases this
 · rcases List.mem_cons.1 hc with rfl | hc
   · exact hp a ha
   · exact hs.2.2 a ha c hc
theorem Qd(b i:Int)(l0 rest:List World)(x:World)(hs:Hx l0)(hz:∀w∈l0++x::rest,w.sz)(hl:(l0++x::rest).length≤1000):
 ∃(l1:List World) (z:D),exS aH K.eX (isS (l0++x::rest) b i (I ((l0.length:Nat):Int)))=some (.exit 2,isS (l1++rest) b i z)∧l1.Perm (l0++[x])∧Hx l1:=by
 have fin:∀p q,p++q=l0→(∀y∈q,lexB x.tags y.tags=true)→(∀y∈p,lexB x.tags y.tags=false)→(p++x::q).Perm (l0++[x])∧Hx (p++x::q):=by
  intro p q e hq hp
  subst e
  refine⟨?_,Vr hs hq hp⟩
  rw[List.append_assoc]
  exact List.Perm.append_left _ (List.perm_append_comm (l₁:=[x]))
 have key:=E9 (gc:=true) (dead:=[]) (c:=K.aQ) (vs:=[.ref 0 0 (l0++x::rest).length,I 0,I b,.fn N.bj [],I i,I ((l0.length:Nat):Int)]) (H:=[yR (l0++x::rest)])
  (aid b i l0 rest x) l0.length (fun r=>∃(l1:List World) (z:D),r=(.exit 2,isS (l1++rest) b i z)∧l1.Perm (l0++[x])∧Hx l1) ?_ ?_ ?_
 · obtain⟨r,h,l1,z,rfl,a,c⟩:=key
   exact⟨l1,z,h,a,c⟩
 · exact⟨l0,[],rfl,by omega,by simp,fun y hy=>by cases hy⟩
 · rintro j st hj ⟨p,q,rfl,h1,h2,h3⟩
   obtain⟨p',y,rfl⟩:∃p' y,p=p'++[y]:=⟨p.dropLast,p.getLast (fun e=>by subst e;simp at h1;omega),(List.dropLast_concat_getLast _).symm⟩
   subst h2
   have hz':∀w∈p'++[y]++q++x::rest,w.sz:=hz
   have e1:p'++[y]++x::(q++rest)=p'++y::x::(q++rest):=by simp
   have e2:(p'++[y]).length=p'.length+1:=by simp
   rw[e1,e2]
   have st:=Qc b i p' (q++rest) y x (hz' x (by simp)) (hz' y (by simp)) (by simp at hl ⊢;omega)
   cases hc:lexB x.tags y.tags with
   | true=>
     refine .inl ⟨_,st.1 hc,p',y::q,by simp[isS],by simp at h1 ⊢;omega,by simp,fun w hw=>?_⟩
     rcases List.mem_cons.1 hw with rfl | hw
     · exact hc
     · exact h3 w hw
   | false=>
     refine .inr ⟨_,st.2 hc,by simp,p'++[y]++x::q,I ((p'.length+1:Nat):Int),by simp[isS],?_⟩
     refine fin (p'++[y]) q rfl h3 fun w hw=>?_
     rcases List.mem_append.1 hw with hw | hw
     · cases h:lexB x.tags w.tags with
       | false=>rfl
       | true=>
         have hwy:lexB y.tags w.tags=false:=by
          simp only[Hx,List.pairwise_append]at hs
          exact hs.1.2.2 w hw y (by simp)
         rcases oH y.tags x.tags with a | a | a
         · rw[lex_trans a h]at hwy;cases hwy
         · rw[a,h]at hwy;cases hwy
         · rw[a]at hc;cases hc
     · rw[List.mem_singleton.1 hw];exact hc
 · rintro st ⟨p,q,rfl,h1,h2,h3⟩
   have p0:p=[]:=List.eq_nil_of_length_eq_zero (by omega)
   subst p0
   simp only[List.nil_append]at h2
   subst h2
   refine⟨(.exit 2,isS (x::(q++rest)) b i (I 0)),?_,by simp,x::q,I 0,rfl,fin [] q rfl h3 (fun y hy=>by cases hy)⟩
   simp only[isS,yR,List.nil_append,List.length_nil]
   simp(disch:=omega)only[go_sem,K.aQ,↓reduceIte,reduceAdd,reduceSub]
def age(l:List World)(k:Nat)(st:St):Prop:=
 ∃l':List World,st=isS l' l.length (1+(k:Int)) .und∧l'.Perm l∧Hx (l'.take (1+k))
theorem Ns(l:List World)(hz:∀w∈l,w.sz)(hl:l.length≤1000){k:Nat}(hk:k<l.length-1){st:St}(hP:age l k st):
 ∃st',dV true [5] st.H.length (exS aH K.a8 st)=some st'∧age l (k+1) st':=by
 obtain⟨l',rfl,pm,so⟩:=hP
 have ln:=pm.length_eq
 have sp:l'=l'.take (1+k)++nth l' (1+k)::l'.drop (1+k+1):=by
  conv=>lhs;rw[← List.take_append_drop (1+k) l']
  rw[List.drop_eq_getElem_cons (by omega),bP (aLc (by omega))]
 have l0:(l'.take (1+k)).length=1+k:=by rw[List.length_take];omega
 obtain⟨l1,z,h,p1,s1⟩:=Qd l.length (1+(k:Int)) (l'.take (1+k)) (l'.drop (1+k+1)) (nth l' (1+k)) so (fun w hw=>hz w (pm.mem_iff.1 (by rw[sp];exact hw))) (by rw[← sp];omega)
 rw[← sp,l0]at h
 have l1n:l1.length=1+k+1:=by rw[p1.length_eq,aLv,l0];rfl
 have tl:(l1++l'.drop (1+k+1)).length=l'.length:=by rw[aLv,l1n,List.length_drop];omega
 refine⟨isS (l1++l'.drop (1+k+1)) l.length (1+((k+1:Nat):Int)) .und,?_,_,rfl,?_,?_⟩
 · generalize (l1++l'.drop (1+k+1))=L at*
   clear sp
   simp only[isS,yR]at*
   have e:((1+k:Nat):Int)=1+(k:Int):=by omega
   rw[e]at h
   have e2:(1:Int)+((k+1:Nat):Int)=1+(k:Int)+1:=by omega
   rw[e2,tl]
   rw[tl]at h
   have lt:(1:Int)+k<l.length:=by omega
   simp(disch:=omega)only[go_sem,K.a8,↓reduceIte,h,reduceAdd,reduceSub]
 · have:(l1++l'.drop (1+k+1)).Perm l':=by
    conv=>rhs;rw[sp]
    rw[show l'.take (1+k)++nth l' (1+k)::l'.drop (1+k+1)=(l'.take (1+k)++[nth l' (1+k)])++l'.drop (1+k+1)by simp]
    exact List.Perm.append_right _ p1
   exact this.trans pm
 · rw[show 1+(k+1)=l1.length by omega,List.take_left']
   · exact s1
   · rfl
theorem Nt(l:List World)(hz:∀w∈l,w.sz)(hl:l.length≤1000):
 ∃l',aH 0 N.aC [.ref 0 0 l.length,I 0,I l.length,.fn N.bj []] [yR l]=some (.tup [],[yR l'])∧l'.Perm l∧Hx l':=by
 by_cases h0:l.length=0
 · have e:l=[]:=List.eq_nil_of_length_eq_zero h0
   subst e
   refine⟨[],?_,List.Perm.refl _,List.Pairwise.nil⟩
   refine av K.bY rfl ?_
   have lp:∀z5,exS aH K.cO ⟨[.ref 0 0 0,I 0,I 0,.fn N.bj [],I 1,z5],[.arr 2 false 0 []]⟩=some (.exit 0,⟨[.ref 0 0 0,I 0,I 0,.fn N.bj [],I 1,.und],[.arr 2 false 0 []]⟩):=by
    intro z5
    refine xv (dq ?_ (by simp))
    simp(disch:=omega)only[go_sem,K.a8,↓reduceIte,reduceAdd,reduceSub]
   simp only[yR,List.map_nil,List.length_nil]
   simp(disch:=omega)only[go_sem,K.aC,↓reduceIte,lp,reduceAdd,reduceSub]
 · have key:=fun z5:D=>E9 (gc:=true) (dead:=[5]) (c:=K.a8) (vs:=[.ref 0 0 l.length,I 0,I l.length,.fn N.bj [],I 1,z5]) (H:=[yR l])
    (age l) (l.length-1) (fun r=>∃l':List World,r=(.exit 0,isS l' l.length l.length .und)∧l'.Perm l∧Hx l') ⟨l,rfl,List.Perm.refl _,by
     match l with
     | []=>exact List.Pairwise.nil
     | x::r=>simp⟩ (fun j st hj hP=> .inl (Ns l hz hl hj hP)) (by
     rintro st ⟨l',rfl,pm,so⟩
     have ln:=pm.length_eq
     have e:(1:Int)+((l.length-1:Nat):Int)=l.length:=by omega
     rw[e]
     rw[List.take_of_length_le (by omega)]at so
     refine⟨(.exit 0,isS l' l.length l.length .und),?_,by simp,l',rfl,pm,so⟩
     simp only[isS,yR]
     simp(disch:=omega)only[go_sem,K.a8,↓reduceIte,reduceAdd,reduceSub]
     )
   obtain⟨r,hr,l',rfl,pm,so⟩:=key .und
   refine⟨l',?_,pm,so⟩
   refine av K.bY rfl ?_
   have ln:=pm.length_eq
   have hr:exS aH K.cO _=_:=hr
   simp only[isS,yR,ln]at hr ⊢
   simp(disch:=omega)only[go_sem,K.aC,↓reduceIte,hr,reduceAdd,reduceSub]
theorem Nu(l:List World)(hz:∀w∈l,w.sz)(hl:l.length<20):
 ∃l',aH 0 N.aT [.ref 0 0 l.length,I l.length,.fn N.bj []] [yR l]=some (.tup [],[yR l'])∧l'.Perm l∧Hx l':=by
 obtain⟨l',h,pm,so⟩:=Nt l hz (by omega)
 refine⟨l',?_,pm,so⟩
 refine av K.eH rfl ?_
 have ln:=pm.length_eq
 have e1:∀z6:D,exS aH K.gZ ⟨[.ref 0 0 l.length,I l.length,.fn N.bj [],I 20,I 0,I 20,z6],[yR l]⟩=some (.exit 0,⟨[.ref 0 0 l.length,I l.length,.fn N.bj [],I 20,I 0,I 20,.und],[yR l]⟩):=by
  intro z6
  refine xv (dq ?_ (by simp))
  simp only[yR]
  simp(disch:=omega)only[go_sem,K.gD,↓reduceIte,reduceAdd,reduceSub]
 have e2:∀z4 z5 z6:D,exS aH K.hU ⟨[.ref 0 0 l.length,I l.length,.fn N.bj [],I 20,z4,z5,z6],[yR l']⟩=some (.exit 2,⟨[.ref 0 0 l.length,I l.length,.fn N.bj [],I 20,.und,.und,.und],[yR l']⟩):=by
  intro z4 z5 z6
  refine xv (dq ?_ (by simp))
  simp only[yR]
  simp(disch:=omega)only[go_sem,K.gE,↓reduceIte,reduceAdd,reduceSub]
 simp only[yR]at*
 simp(disch:=omega)only[go_sem,K.aT,↓reduceIte,e1,e2,h,reduceAdd,reduceSub]
theorem Dg(l:List World)(hz:∀w∈l,w.sz)(hl:l.length<20):
 ∃l',aH 0 N.aD [.ref 0 0 l.length,.fn N.bj []] [yR l]=some (.tup [],[yR l'])∧l'.Perm l∧Hx l':=by
 obtain⟨l',h,pm,so⟩:=Nu l hz hl
 refine⟨l',?_,pm,so⟩
 refine av K.cB rfl ?_
 simp only[yR]at*
 simp(disch:=omega)only[go_sem,K.aD,↓reduceIte,h,reduceAdd,reduceSub]
theorem Ku(l:List World)(hz:∀w∈l,w.sz)(h0:0<l.length)(hl:l.length<20):
 ∃l',aH 0 N.aL [.fn N.ay [.bp 0 0],.fn N.bj []] [.box [.t (.sl (l.map World.e))]]=some (.t (.sl (l'.map World.e)),[.box [.t (.sl (l.map World.e))]])∧l'.Perm l∧Hx l':=by
 obtain⟨l',h,pm,so⟩:=Dg l hz hl
 refine⟨l',?_,pm,so⟩
 refine av K.dJ rfl ?_
 have c:=Hw l h0 (by omega)
 have ln:=pm.length_eq
 simp only[yR]at*
 simp(disch:=omega)only[go_sem,K.aL,↓reduceIte,c,h,ln,reduceAdd,reduceSub]
end Go.Ev
namespace Go.Ev
open Go
variable [Lib] [cz] [bZ] [gU] [gJ] [kG] [gV] [gW] [jC] [gX]
end Go.Ev
namespace Go.Ev
open Go
variable [Lib] [cz] [bZ] [gU] [gJ] [kG] [gV] [gW] [jC] [gX] [fT] [eR]
theorem Kv{l:List Int}{i j:Nat}(hi:i<l.length)(hj:j<l.length):(Hm l i j).Perm l:=by
 have:=Array.swap_perm (xs:=l.toArray) (i:=i) (j:=j) (by simpa using hi) (by simpa using hj)
 rw[Array.perm_iff_toList_perm]at this
 unfold Hm
 rw[bP (aLc hi),bP (aLc hj)]
 simpa [Array.swap]using this
theorem wT{m:aP}{l:List Wh}(hl:∀w∈l,dy m w=true)(i:Nat){x:Wh}(hx:i<l.length→dy m x=true):∀w∈l.set i x,dy m w=true:=by
 intro w hw
 by_cases h:i<l.length
 · rcases aLk hw with a | rfl
   · exact hl w a
   · exact hx h
 · rw[List.set_eq_of_length_le (by omega)]at hw;exact hl w hw
theorem AK{m:aP}(h:m.ok){w:Wh}(hv:dy m w=true)(t:Int):dy m (ez w t).1=true:=by
 unfold ez
 split
 · exact hv
 · obtain⟨a,b,c, -⟩:=cU hv
   have cl:=AF h hv
   unfold inT at b
   exact AE h a (by simp only;unfold inT;omega) c (I7 (t':=t) (by omega) cl)
theorem Nv{m:aP}{first:List Int}{x:World}(h:WV m first x)(tag:Int){w:Wh}(hw:(bz x.tags tag).toNat<x.whr.length→dy m w=true):WV m first (EN tag x w):=
 ⟨h.pm,by simp[EN,h.wl],wT h.wv _ hw⟩
def adC(m:aP)(tag:Int)(l:List Int)(a b:Int)(x:World):Option World:=
 if(ux m tag l a b x).2=43 then none else some (if(ux m tag l a b x).2=0 then EN tag x (ux m tag l a b x).1 else x)
theorem I9(m:aP)(tag:Int)(l:List Int)(a b:Int)(ws:List World):∀j,j≤ws.length→lq m tag l a b ws j=(ws.take j).filterMap (adC m tag l a b)
 | 0,_=>by simp[lq]
 | j+1,h=>by
   rw[jR (by omega),List.filterMap_append]
   simp only[lq,I9 m tag l a b ws j (by omega),wA,adC,List.filterMap_cons,List.filterMap_nil]
   split<;>simp_all
theorem Ja(m:aP)(tag:Int)(l:List Int)(a b bl:Int)(ws:List World):∀j,j≤ws.length→mW m tag l a b bl ws j=(ws.take j).map fun x=>if(tM m tag l a b bl x).2=0 then EN tag x (tM m tag l a b bl x).1 else x
 | 0,_=>by simp[mW]
 | j+1,h=>by
   rw[jR (by omega),List.map_append]
   simp only[mW,Ja m tag l a b bl ws j (by omega),CZ,List.map_cons,List.map_nil]
theorem Hy{m:aP}(hm:m.ok){first:List Int}{tag:Int}{l:List Int}{a b:Int}{x y:World}(h:WV m first x)(e:adC m tag l a b x=some y):WV m first y∧y.tags=x.tags:=by
 unfold adC at e
 split at e
 · cases e
 · simp only[Option.some.injEq]at e
   subst e
   split
   · exact⟨Nv h tag fun hl=>Nn hm (h.wv _ (af hl)) l a b,rfl⟩
   · exact⟨h,rfl⟩
theorem aaW{m:aP}(hm:m.ok){first:List Int}{ws:List World}(h:BV m first ws)(tag:Int)(l:List Int)(a b:Int):BV m first (lq m tag l a b ws ws.length):=by
 rw[I9 m tag l a b ws _ (aLs _),List.take_length]
 refine⟨h.pr,h.f1,h.f2,fun y hy=>?_,?_⟩
 · obtain⟨x,hx,e⟩:=List.mem_filterMap.1 hy
   exact(Hy hm (h.wv x hx) e).1
 · rw[List.pairwise_filterMap]
   refine(List.Pairwise.imp_of_mem ?_ h.up)
   intro x y hx hy hxy x' ex y' ey
   rw[(Hy hm (h.wv x hx) ex).2,(Hy hm (h.wv y hy) ey).2]
   exact hxy
theorem aaX{m:aP}(hm:m.ok){first:List Int}{ws:List World}(h:BV m first ws)(tag:Int)(l:List Int)(a b bl:Int):BV m first (mW m tag l a b bl ws ws.length):=by
 rw[Ja m tag l a b bl ws _ (aLs _),List.take_length]
 have tg:∀x:World,(if(tM m tag l a b bl x).2=0 then EN tag x (tM m tag l a b bl x).1 else x).tags=x.tags:=by
  intro x;split<;>rfl
 refine⟨h.pr,h.f1,h.f2,fun y hy=>?_,?_⟩
 · obtain⟨x,hx,rfl⟩:=List.mem_map.1 hy
   have wx:=h.wv x hx
   split
   · exact Nv wx tag fun hl=>Np hm (wx.wv _ (af hl)) l a b bl
   · exact wx
 · rw[List.pairwise_map]
   refine h.up.imp fun{x y} hxy=>?_
   rw[tg,tg];exact hxy
theorem Qe{m:aP}(hm:m.ok){first:List Int}{x:World}(h:WV m first x){i j:Nat}(hi:i<first.length)(hj:j<first.length)(t:Int):WV m first (tZ i j t x):=by
 have wl:=h.wl
 have tl:=h.pm.length_eq
 refine⟨(Kv (by omega) (by omega)).trans h.pm,by simp[tZ,wl],?_⟩
 exact wT (wT h.wv i fun hl=>AK hm (h.wv _ (af hl)) t) j fun hl=>AK hm (h.wv _ (af (by simpa using hl))) t
theorem tc{m:aP}(hm:m.ok){first:List Int}{ws:List World}(h:∀x∈ws,WV m first x){i j:Nat}(hi:i<first.length)(hj:j<first.length)(t:Int):∀k,k≤ws.length→∀x∈gr i j t ws k,WV m first x
 | 0,_,x,hx=>h x hx
 | k+1,hk,x,hx=>by
   simp only[gr,wJ]at hx
   split at hx
   · rcases List.mem_append.1 hx with hx | hx
     · exact tc hm h hi hj t k (by omega) x hx
     · rw[List.mem_singleton.1 hx]
       exact Qe hm (h _ (af (by omega))) hi hj t
   · exact tc hm h hi hj t k (by omega) x hx
theorem vm{m:aP}(hm:m.ok){a b:List Wh}(ha:∀w∈a,dy m w=true)(hb:∀w∈b,dy m w=true):∀p,p≤a.length→p≤b.length→∀w∈jV a b p,dy m w=true
 | 0,_,_,w,hw=>ha w hw
 | p+1,h1,h2,w,hw=>by
   refine wT (vm hm ha hb p (by omega) (by omega)) p (fun _=>?_) w hw
   exact(Kp hm (ha _ (af (by omega))) (hb _ (af (by omega)))).2.1
theorem Dh{out:List World}{x:World}{k:Nat}(h:k<c8 out x):lexB (nth out k).tags x.tags=true:=by
 unfold c8 at h
 split at h
 · rename_i j hf
   rw[List.find?_range_eq_some]at hf
   have:=hf.2.2 k h
   rw[← o6];simpa using this
 · rename_i hf
   have:=List.find?_eq_none.1 hf k (aLu.2 h)
   rw[← o6];simpa using this
theorem zw{out:List World}{x:World}(h:c8 out x<out.length):lexB (nth out (c8 out x)).tags x.tags=false:=by
 unfold c8 at h ⊢
 split
 · rename_i j hf
   rw[List.find?_range_eq_some]at hf
   have:=hf.1
   rw[← o6];simpa using this
 · rename_i hf
   rw[hf]at h;simp at h
theorem o7{m:aP}(hm:m.ok){first:List Int}{out:List World}(h:BV m first out){x:World}(hx:WV m first x):BV m first (ji out x):=by
 have kl:=wB out x
 unfold ji
 split
 · rename_i c
   obtain⟨c1,c2⟩:=c
   have wk:=h.wv _ (af c1)
   have w1:=wk.wl
   have w2:=hx.wl
   refine⟨h.pr,h.f1,h.f2,fun y hy=>?_,?_⟩
   · rcases aLk hy with a | rfl
     · exact h.wv y a
     · exact⟨hx.pm,by rw[iM,iY];exact w1,vm hm wk.wv hx.wv _ (by omega) (by omega)⟩
   · have u:=h.up
     rw[← List.pairwise_map (f:=World.tags) (R:=fun a b=>lexB a b=true)]at u ⊢
     rw[List.map_set]
     have e:(out.map World.tags).set (c8 out x) x.tags=out.map World.tags:=by
      apply List.ext_getElem?
      intro i
      by_cases hi:c8 out x=i
      · rw[← hi,aLj (by simpa using c1),aLn,ff c1,←c2];rfl
      · rw[aLi hi]
     rw[e];exact u
 · rename_i c
   refine⟨h.pr,h.f1,h.f2,fun y hy=>?_,?_⟩
   · simp only[List.mem_append,List.mem_singleton]at hy
     rcases hy with(hy | rfl) | hy
     · exact h.wv y (List.mem_of_mem_take hy)
     · exact hx
     · exact h.wv y (List.mem_of_mem_drop hy)
   · have u:=h.up
     have lo:∀y∈out.take (c8 out x),lexB y.tags x.tags=true:=by
      intro y hy
      obtain⟨i,hi⟩:=aLf.1 hy
      have il:=(aLe.1 hi).1
      rw[List.length_take]at il
      rw[List.getElem?_take_of_lt (by omega)]at hi
      have:=Dh (out:=out) (x:=x) (k:=i) (by omega)
      rwa [bP hi]at this
     have hi:∀y∈out.drop (c8 out x),lexB x.tags y.tags=true:=by
      intro y hy
      obtain⟨i,hi⟩:=aLf.1 hy
      have il:=(aLe.1 hi).1
      rw[List.length_drop]at il
      rw[List.getElem?_drop]at hi
      have c1:c8 out x<out.length:=by omega
      have at_:=zw c1
      have ne:(nth out (c8 out x)).tags≠x.tags:=fun e=>c ⟨c1,e⟩
      have first_:lexB x.tags (nth out (c8 out x)).tags=true:=by
       rcases oH (nth out (c8 out x)).tags x.tags with a | a | a
       · rw[a]at at_;cases at_
       · exact absurd a ne
       · exact a
      by_cases i0:i=0
      · subst i0
        rw[Nat.add_zero]at hi
        rwa [bP hi]at first_
      · have:=(List.pairwise_iff_getElem.1 u) (c8 out x) (c8 out x+i) (by omega) (by omega) (by omega)
        rw[← bP (aLc (by omega:c8 out x<out.length)),←bP (aLc (by omega:c8 out x+i<out.length)),bP hi]at this
        exact lex_trans first_ this
     have td:out.take (c8 out x)++out.drop (c8 out x)=out:=List.take_append_drop _ _
     have u2:=u
     rw[← td,List.pairwise_append]at u2
     rw[List.append_assoc,List.pairwise_append]
     refine⟨u2.1,?_,fun y hy z hz=>?_⟩
     · rw[List.singleton_append,List.pairwise_cons];exact⟨hi,u2.2.1⟩
     · simp only[List.singleton_append,List.mem_cons]at hz
       rcases hz with rfl | hz
       · exact lo y hy
       · exact u2.2.2 y hy z hz
theorem Di{m:aP}(hm:m.ok){first:List Int}(pr:fN first=true)(f1:1≤first.length)(f2:first.length≤12){l:List World}(hl:∀x∈l,WV m first x):∀j,j≤l.length→BV m first (qg l j)
 | 0,_=>⟨pr,f1,f2,fun x hx=>by simp[qg]at hx,by simp[qg]⟩
 | j+1,h=>o7 hm (Di hm pr f1 f2 hl j (by omega)) (hl _ (af (by omega)))
def lookW(out:List World)(t:List Int):Option (List Wh):=(out.find? fun w=>decide (w.tags=t)).map World.whr
abbrev UpW(out:List World):Prop:=out.Pairwise fun x y=>lexB x.tags y.tags=true
theorem AL{a b:List Int}(h:lexB a b=true):a≠b:=fun e=>by rw[e,lex_irrefl]at h;cases h
theorem mb{out:List World}{t:List Int}(h:∀w∈out,w.tags≠t):lookW out t=none:=by
 unfold lookW
 rw[List.find?_eq_none.2 fun w hw=>by simpa using h w hw];rfl
theorem jX:∀ {out:List World},UpW out→∀ {w:World},w∈out→lookW out w.tags=some w.whr
 | x::r,h,w,hw=>by
   unfold lookW
   rw[List.find?_cons]
   by_cases e:x.tags=w.tags
   · simp only[e,decide_true]
     rcases List.mem_cons.1 hw with rfl | hw
     · rfl
     · exact absurd e (AL ((List.pairwise_cons.1 h).1 w hw))
   · simp only[e,decide_false]
     rcases List.mem_cons.1 hw with rfl | hw
     · exact absurd rfl e
     · exact jX (List.pairwise_cons.1 h).2 hw
theorem Cg(out:List World)(t:List Int):(∃w∈out,w.tags=t)∨(∀w∈out,w.tags≠t):=by
 by_cases h:∃w∈out,w.tags=t
 · exact .inl h
 · exact .inr fun w hw e=>h ⟨w,hw,e⟩
theorem Nw{out:List World}{t:List Int}{l:List Wh}(h:lookW out t=some l):∃w∈out,w.tags=t∧w.whr=l:=by
 unfold lookW at h
 obtain⟨w,hw,rfl⟩:=aLb.1 h
 exact⟨w,List.mem_of_find?_eq_some hw,by simpa using List.find?_some hw,rfl⟩
theorem Fv{x:World}{r:List World}{t:List Int}(h:x.tags≠t):lookW (x::r) t=lookW r t:=by
 unfold lookW;rw[List.find?_cons];simp only[h,decide_false]
theorem Jb:∀ {a b:List World},UpW a→UpW b→(∀t,lookW a t=lookW b t)→a=b
 | [],[],_,_,_=>rfl
 | [],y::s,_,hb,h=>by
   have:=h y.tags
   rw[jX hb List.mem_cons_self]at this
   cases this
 | x::r,[],ha,_,h=>by
   have:=h x.tags
   rw[jX ha List.mem_cons_self]at this
   cases this
 | x::r,y::s,ha,hb,h=>by
   obtain⟨a1,a2⟩:=List.pairwise_cons.1 ha
   obtain⟨b1,b2⟩:=List.pairwise_cons.1 hb
   have hx:=h x.tags
   rw[jX ha List.mem_cons_self]at hx
   have hy:=h y.tags
   rw[jX hb List.mem_cons_self]at hy
   rcases oH x.tags y.tags with c | c | c
   · rw[mb]at hx
     · cases hx
     · intro w hw e
       rcases List.mem_cons.1 hw with rfl | hw
       · rw[e,lex_irrefl]at c;cases c
       · have:=lex_trans c (b1 w hw)
         rw[e,lex_irrefl]at this;cases this
   · have tl:r=s:=Jb a2 b2 fun t=>by
      by_cases e:x.tags=t
      · rw[mb fun w hw e2=>AL (a1 w hw) (e.trans e2.symm),mb fun w hw e2=>AL (b1 w hw) (c.symm.trans (e.trans e2.symm))]
      · have:=h t
        rwa [Fv e,Fv (fun e2=>e (c.trans e2))]at this
     rw[c,jX hb List.mem_cons_self]at hx
     obtain⟨xt,xw⟩:=x
     obtain⟨yt,yw⟩:=y
     simp only at c hx
     cases hx
     rw[c,tl]
   · rw[mb]at hy
     · cases hy
     · intro w hw e
       rcases List.mem_cons.1 hw with rfl | hw
       · rw[e,lex_irrefl]at c;cases c
       · have:=lex_trans c (a1 w hw)
         rw[e,lex_irrefl]at this;cases this
theorem Vs{out:List World}{x:World}:∀y∈out.take (c8 out x),lexB y.tags x.tags=true:=by
 intro y hy
 have kl:=wB out x
 obtain⟨i,hi⟩:=aLf.1 hy
 have il:=(aLe.1 hi).1
 rw[List.length_take]at il
 rw[List.getElem?_take_of_lt (by omega)]at hi
 have:=Dh (out:=out) (x:=x) (k:=i) (by omega)
 rwa [bP hi]at this
theorem Vt{out:List World}{x:World}(u:UpW out)(c:¬(c8 out x<out.length∧(nth out (c8 out x)).tags=x.tags)):∀y∈out.drop (c8 out x),lexB x.tags y.tags=true:=by
 intro y hy
 obtain⟨i,hi⟩:=aLf.1 hy
 have il:=(aLe.1 hi).1
 rw[List.length_drop]at il
 rw[List.getElem?_drop]at hi
 have c1:c8 out x<out.length:=by omega
 have at_:=zw c1
 have first_:lexB x.tags (nth out (c8 out x)).tags=true:=by
  rcases oH (nth out (c8 out x)).tags x.tags with a | a | a
  · rw[a]at at_;cases at_
  · exact absurd ⟨c1,a⟩ c
  · exact a
 by_cases i0:i=0
 · subst i0
   rw[Nat.add_zero]at hi
   rwa [bP hi]at first_
 · have:=(List.pairwise_iff_getElem.1 u) (c8 out x) (c8 out x+i) (by omega) (by omega) (by omega)
   rw[← bP (aLc (by omega:c8 out x<out.length)),←bP (aLc (by omega:c8 out x+i<out.length)),bP hi]at this
   exact lex_trans first_ this
def agf(x:World):Option (List Wh)→List Wh
 | none=>x.whr
 | some w=>iM w x.whr
theorem wU{m:aP}(hm:m.ok){first:List Int}{out:List World}(h:BV m first out){x:World}(hx:WV m first x)(t:List Int):
 lookW (ji out x) t=if t=x.tags then some (agf x (lookW out t))else lookW out t:=by
 have bv:=(o7 hm h hx).up
 have u:=h.up
 unfold ji at bv ⊢
 by_cases c:c8 out x<out.length∧(nth out (c8 out x)).tags=x.tags
 · rw[if_pos c]at bv ⊢
   obtain⟨c1,c2⟩:=c
   have mk:nth out (c8 out x)∈out:=af c1
   have ms:(⟨x.tags,iM (nth out (c8 out x)).whr x.whr⟩:World)∈out.set (c8 out x) ⟨x.tags,iM (nth out (c8 out x)).whr x.whr⟩:=
    aLf.2 ⟨c8 out x,aLj c1⟩
   by_cases e:t=x.tags
   · rw[if_pos e,e,jX bv ms,←c2,jX u mk]
     rfl
   · rw[if_neg e]
     rcases Cg out t with⟨w,hw,rfl⟩ | hn
     · rw[jX u hw]
       obtain⟨i,hi⟩:=aLf.1 hw
       refine jX bv (aLf.2 ⟨i,?_⟩)
       rw[aLi,hi]
       intro e2
       rw[← e2]at hi
       rw[bP hi]at c2
       exact e c2
     · rw[mb hn,mb]
       intro w hw
       rcases aLk hw with hw | rfl
       · exact hn w hw
       · exact fun e2=>e e2.symm
 · rw[if_neg c]at bv ⊢
   have lo:=Vs (out:=out) (x:=x)
   have hi:=Vt u c
   have td:out.take (c8 out x)++out.drop (c8 out x)=out:=List.take_append_drop _ _
   have mem:∀w,w∈out.take (c8 out x)++[x]++out.drop (c8 out x)↔w=x∨w∈out:=by
    intro w
    conv=>rhs;rw[← td]
    simp only[List.mem_append,List.mem_singleton]
    constructor
    · rintro ((a | a) | a)
      · exact .inr (.inl a)
      · exact .inl a
      · exact .inr (.inr a)
    · rintro (a | a | a)
      · exact .inl (.inr a)
      · exact .inl (.inl a)
      · exact .inr a
   have nx:∀w∈out,w.tags≠x.tags:=by
    intro w hw
    rw[← td]at hw
    rcases List.mem_append.1 hw with hw | hw
    · exact AL (lo w hw)
    · exact fun e=>AL (hi w hw) e.symm
   by_cases e:t=x.tags
   · rw[if_pos e,e,mb nx,jX bv ((mem x).2 (.inl rfl))]
     rfl
   · rw[if_neg e]
     rcases Cg out t with⟨w,hw,rfl⟩ | hn
     · rw[jX u hw,jX bv ((mem w).2 (.inr hw))]
     · rw[mb hn,mb]
       intro w hw
       rcases (mem w).1 hw with rfl | hw
       · exact fun e2=>e e2.symm
       · exact hn w hw
structure SH(n p:Nat)(l:List Wh):Prop where
 ln:l.length=n
 fr:∀w∈l,w.frm.length=p
theorem R5{a b:Wh}(ht:a.time=b.time)(hl:a.frm.length=b.frm.length)(h:∀j,j<a.frm.length→nth a.frm j=nth b.frm j):a=b:=by
 obtain⟨t,f⟩:=a
 obtain⟨t2,f2⟩:=b
 simp only at ht hl h
 rw[ht,zu hl h]
theorem rI{a b:Wh}(h:a.frm.length=b.frm.length):(jh a b).1.time=max a.time b.time∧(jh a b).1.frm.length=a.frm.length∧∀j,j<a.frm.length→nth (jh a b).1.frm j=min (nth a.frm j) (nth b.frm j):=by
 unfold jh
 rw[if_pos h]
 exact⟨rfl,mO _ _ _,fun j hj=>Df a.frm b.frm a.frm.length j hj⟩
theorem Jc(a b:List Wh):∀p,p≤a.length→∀i,i<p→nth (jV a b p) i=(jh (nth a i) (nth b i)).1
 | 0,_,i,h=>by omega
 | p+1,hp,i,h=>by
   simp only[jV]
   rw[sO _ _ (by rw[iY];omega)]
   split
   · rename_i e;rw[e]
   · exact Jc a b p (by omega) i (by omega)
theorem qp{n p:Nat}{a b:List Wh}(ha:SH n p a)(hb:SH n p b):SH n p (iM a b)∧∀i,i<n→nth (iM a b) i=(jh (nth a i) (nth b i)).1:=by
 have l1:=ha.ln
 have l2:=hb.ln
 have e:iM a b=jV a b n:=by unfold iM;rw[l1,l2,Nat.min_self]
 have at_:=Jc a b n (by omega)
 rw[e]
 refine⟨⟨by rw[iY];exact l1,fun w hw=>?_⟩,at_⟩
 obtain⟨i,hi⟩:=aLf.1 hw
 have il:=(aLe.1 hi).1
 rw[iY]at il
 rw[← bP hi,at_ i (by omega),(rI (by rw[ha.fr _ (af (by omega)),hb.fr _ (af (by omega))])).2.1]
 exact ha.fr _ (af il)
theorem Hz{n p:Nat}{a b:List Wh}(ha:SH n p a)(hb:SH n p b):iM a b=iM b a:=by
 obtain⟨s1,n1⟩:=qp ha hb
 obtain⟨s2,n2⟩:=qp hb ha
 refine zu (by rw[s1.ln,s2.ln]) fun i hi=>?_
 rw[s1.ln]at hi
 rw[n1 i hi,n2 i hi]
 have fa:=ha.fr _ (af (l:=a) (j:=i) (by rw[ha.ln];exact hi))
 have fb:=hb.fr _ (af (l:=b) (j:=i) (by rw[hb.ln];exact hi))
 obtain⟨t1,l1,m1⟩:=rI (a:=nth a i) (b:=nth b i) (by rw[fa,fb])
 obtain⟨t2,l2,m2⟩:=rI (a:=nth b i) (b:=nth a i) (by rw[fa,fb])
 refine R5 (by rw[t1,t2];omega) (by rw[l1,l2,fa,fb]) fun j hj=>?_
 rw[l1]at hj
 rw[m1 j hj,m2 j (by omega)];omega
theorem Fw{n p:Nat}{a b c:List Wh}(ha:SH n p a)(hb:SH n p b)(hc:SH n p c):iM (iM a b) c=iM (iM a c) b:=by
 obtain⟨s1,n1⟩:=qp ha hb
 obtain⟨s2,n2⟩:=qp ha hc
 obtain⟨s3,n3⟩:=qp s1 hc
 obtain⟨s4,n4⟩:=qp s2 hb
 refine zu (by rw[s3.ln,s4.ln]) fun i hi=>?_
 rw[s3.ln]at hi
 rw[n3 i hi,n4 i hi,n1 i hi,n2 i hi]
 have fa:=ha.fr _ (af (l:=a) (j:=i) (by rw[ha.ln];exact hi))
 have fb:=hb.fr _ (af (l:=b) (j:=i) (by rw[hb.ln];exact hi))
 have fc:=hc.fr _ (af (l:=c) (j:=i) (by rw[hc.ln];exact hi))
 obtain⟨t1,l1,m1⟩:=rI (a:=nth a i) (b:=nth b i) (by rw[fa,fb])
 obtain⟨t2,l2,m2⟩:=rI (a:=nth a i) (b:=nth c i) (by rw[fa,fc])
 obtain⟨t3,l3,m3⟩:=rI (a:=(jh (nth a i) (nth b i)).1) (b:=nth c i) (by rw[l1,fa,fc])
 obtain⟨t4,l4,m4⟩:=rI (a:=(jh (nth a i) (nth c i)).1) (b:=nth b i) (by rw[l2,fa,fb])
 refine R5 (by rw[t3,t4,t1,t2];omega) (by rw[l3,l4,l1,l2]) fun j hj=>?_
 rw[l3,l1]at hj
 rw[m3 j (by omega),m4 j (by omega),m1 j (by omega),m2 j (by omega)];omega
theorem WV.sh{m:aP}{first:List Int}{x:World}(h:WV m first x):SH first.length m.aa.length x.whr:=
 ⟨h.wl,fun w hw=>(cU (h.wv w hw)).1⟩
theorem Kw{m:aP}(hm:m.ok){first:List Int}{out:List World}(h:BV m first out){x y:World}(hx:WV m first x)(hy:WV m first y):ji (ji out x) y=ji (ji out y) x:=by
 have bx:=o7 hm h hx
 have by_:=o7 hm h hy
 refine Jb (o7 hm bx hy).up (o7 hm by_ hx).up fun t=>?_
 rw[wU hm bx hy,wU hm by_ hx,wU hm h hx,wU hm h hy]
 by_cases e1:t=x.tags
 · by_cases e2:t=y.tags
   · rw[if_pos e2,if_pos e1,if_pos e1,if_pos e2]
     congr 1
     have sx:=hx.sh
     have sy:=hy.sh
     cases hl:lookW out t with
     | none=>exact Hz sx sy
     | some w=>
       obtain⟨z,hz, -,rfl⟩:=Nw hl
       exact Fw (h.wv z hz).sh sx sy
   · rw[if_neg e2,if_pos e1,if_pos e1,if_neg e2]
 · by_cases e2:t=y.tags
   · rw[if_pos e2,if_neg e1,if_neg e1,if_pos e2]
   · rw[if_neg e2,if_neg e1,if_neg e1,if_neg e2]
theorem Ch(l:List World):∀j,j≤l.length→qg l j=(l.take j).foldl ji []
 | 0,_=>by simp[qg]
 | j+1,h=>by
   rw[jR (by omega),List.foldl_append]
   simp only[qg,Ch l j (by omega),List.foldl_cons,List.foldl_nil]
theorem xN(l:List World):qh l=l.foldl ji []:=by
 unfold qh;rw[Ch l _ (aLs _),List.take_length]
theorem Nx{m:aP}(hm:m.ok){first:List Int}{l l':List World}(p:l.Perm l'):(∀x∈l,WV m first x)→∀out,BV m first out→l.foldl ji out=l'.foldl ji out:=by
 induction p with
 | nil=>intro _ out _;rfl
 | cons x _ ih=>
   intro h out ho
   exact ih (fun y hy=>h y (List.mem_cons_of_mem _ hy)) _ (o7 hm ho (h x List.mem_cons_self))
 | swap x y l=>
   intro h out ho
   simp only[List.foldl_cons]
   rw[Kw hm ho (h y List.mem_cons_self) (h x (List.mem_cons_of_mem _ List.mem_cons_self))]
 | trans p1 p2 ih1 ih2=>
   intro h out ho
   rw[ih1 h out ho,ih2 (fun y hy=>h y (p1.mem_iff.2 hy)) out ho]
theorem Kx{m:aP}(hm:m.ok){first:List Int}(pr:fN first=true)(f1:1≤first.length)(f2:first.length≤12){l l':List World}(p:l.Perm l')(h:∀x∈l,WV m first x):qh l=qh l':=by
 rw[xN,xN]
 exact Nx hm p h [] ⟨pr,f1,f2,(fun x hx=>by cases hx),List.Pairwise.nil⟩
def rU(out:List World)(x:World):List World:=
 if 0<out.length∧(nth out (out.length-1)).tags=x.tags then out.set (out.length-1) ⟨x.tags,iM (nth out (out.length-1)).whr x.whr⟩else out++[x]
theorem Ky{out:List World}{x:World}(u:UpW out)(h:0<out.length→lexB x.tags (nth out (out.length-1)).tags=false):ji out x=rU out x:=by
 have kl:=wB out x
 by_cases h0:0<out.length
 · have h:=h h0
   have ge:out.length-1≤c8 out x:=by
    rcases Nat.lt_or_ge (c8 out x) (out.length-1)with c | c
    · exfalso
      have at_:=zw (out:=out) (x:=x) (by omega)
      have lt:=(List.pairwise_iff_getElem.1 u) (c8 out x) (out.length-1) (by omega) (by omega) c
      rw[← bP (aLc (by omega:c8 out x<out.length)),←bP (aLc (by omega:out.length-1<out.length))]at lt
      rcases oH (nth out (out.length-1)).tags x.tags with a | a | a
      · have:=lex_trans lt a
        rw[at_]at this;cases this
      · rw[a]at lt;rw[at_]at lt;cases lt
      · rw[h]at a;cases a
    · exact c
   unfold ji rU
   by_cases e:c8 out x=out.length-1
   · rw[e]
     by_cases c:(nth out (out.length-1)).tags=x.tags
     · rw[if_pos ⟨by omega,c⟩,if_pos ⟨h0,c⟩]
     · exfalso
       have at_:=zw (out:=out) (x:=x) (by omega)
       rw[e]at at_
       rcases oH (nth out (out.length-1)).tags x.tags with a | a | a
       · rw[a]at at_;cases at_
       · exact c a
       · rw[h]at a;cases a
   · have e:c8 out x=out.length:=by omega
     rw[e]
     have:¬(out.length<out.length∧(nth out out.length).tags=x.tags):=fun h=>by omega
     rw[if_neg this,List.take_length,List.drop_length,List.append_nil]
     have lt:=Dh (out:=out) (x:=x) (k:=out.length-1) (by omega)
     rw[if_neg fun h=>AL lt h.2]
 · have e:out=[]:=List.eq_nil_of_length_eq_zero (by omega)
   subst e
   unfold ji rU
   simp
end Go.Ev
namespace Go.Ev
open Go
variable [Lib] [cz] [bZ] [gU] [gJ] [kG] [gV] [gW] [jC] [gX] [fT] [eR] [iU] [fE]
theorem Rp.more{H:ah}{id:Nat}{es:List D}{fa fb:Nat→Nat}{out:List World}(hr:Rp H id es fa fb out)(t:ah):Rp (H++t) id es fa fb out:=
 ⟨by rw[gn (jB hr.arr)];exact hr.arr,hr.len,hr.el,fun j hj=>by rw[gn (jB (hr.ha j hj))];exact hr.ha j hj,fun j hj=>by rw[gn (jB (hr.hb j hj))];exact hr.hb j hj,hr.na,hr.nb,hr.nab,hr.nbb⟩
theorem Dj{α:Type} [Dat α](l:List α)(x:α)(j:Nat):nth (l++[x]) j=if j<l.length then nth l j else if j=l.length then x else Dat.dflt:=by
 unfold nth
 simp only[aLl]
 split
 · rw[aLg (by assumption)]
 · split
   · rename_i e;rw[e,aLh (aLs _),Nat.sub_self];rfl
   · rw[aLm (by simp;omega)];rfl
theorem Rp.snoc{H:ah}{id:Nat}{es:List D}{fa fb:Nat→Nat}{out:List World}(hr:Rp H id es fa fb out)(x:World)(o o2:Obj):
 Rp (H.set id (.arr 2 false 0 (es++[.agg [.ref (H.length+1) 0 x.tags.length,.ref (H.length+2) 0 x.whr.length]]))++[o,.arr 1 false 0 (ints x.tags),.arr 2 false 0 (whs x.whr),o2]) id
  (es++[.agg [.ref (H.length+1) 0 x.tags.length,.ref (H.length+2) 0 x.whr.length]]) (fun j=>if j<out.length then fa j else H.length+1) (fun j=>if j<out.length then fb j else H.length+2) (out++[x]):=by
 have e2:=hr.len
 have il:=jB hr.arr
 have ba:∀j,j<out.length→fa j<H.length:=fun j hj=>jB (hr.ha j hj)
 have bb:∀j,j<out.length→fb j<H.length:=fun j hj=>jB (hr.hb j hj)
 have sl:∀o,(H.set id o).length=H.length:=fun o=>List.length_set
 have getN:∀(o3:Obj) (t:ah) (k:Nat),(H.set id o3++t)[H.length+k]?=t[k]?:=fun o3 t k=>by
  have:=en (H:=H.set id o3) (t:=t) (k:=k)
  rwa [sl]at this
 refine⟨by rw[gn (by rw[sl];exact il),eo il],by simp[e2],?_,?_,?_,?_,?_,?_,?_⟩
 · intro j hj
   rw[aLv,List.length_singleton]at hj
   rw[Dj]
   by_cases h:j<out.length
   · simp only[if_pos h];rw[aLg (by omega)];exact hr.el j h
   · have:j=out.length:=by omega
     subst this
     simp only[Nat.lt_irrefl,if_false,if_true]
     rw[aLh (by omega),e2,Nat.sub_self];rfl
 · intro j hj
   rw[aLv,List.length_singleton]at hj
   rw[Dj]
   by_cases h:j<out.length
   · simp only[if_pos h];rw[gn (by rw[sl];exact ba j h),bF (fun e=>hr.na j h e.symm)];exact hr.ha j h
   · have:j=out.length:=by omega
     subst this
     simp only[Nat.lt_irrefl,if_false,if_true]
     rw[getN];rfl
 · intro j hj
   rw[aLv,List.length_singleton]at hj
   rw[Dj]
   by_cases h:j<out.length
   · simp only[if_pos h];rw[gn (by rw[sl];exact bb j h),bF (fun e=>hr.nb j h e.symm)];exact hr.hb j h
   · have:j=out.length:=by omega
     subst this
     simp only[Nat.lt_irrefl,if_false,if_true]
     rw[getN];rfl
 · intro j hj;split
   · exact hr.na j (by assumption)
   · omega
 · intro j hj;split
   · exact hr.nb j (by assumption)
   · omega
 · intro i j hi hj;split
   · rename_i h1
     have:=ba i h1
     split
     · exact hr.nab i j h1 (by assumption)
     · omega
   · split
     · rename_i h1
       have:=bb j h1
       omega
     · omega
 · intro i j hi hj hne
   rw[aLv,List.length_singleton]at hi hj
   split
   · rename_i h1
     have:=bb i h1
     split
     · exact hr.nbb i j h1 (by assumption) hne
     · omega
   · split
     · rename_i h1
       have:=bb j h1
       omega
     · omega
abbrev tdS(s:List World)(id:Nat)(n:Nat)(j:Int)(H:ah):St:=
 ⟨[.und,.und,.und,.ref id 0 n,.und,.und,.und,.t (.sl (s.map World.e)),I s.length,I j,.und,.und],H⟩
theorem Vu(s:List World)(j:Int)(x:World)(hsx:x.sz)(out:List World)(ho:out.length≤1000000)(h0:0<out.length)(hso:∀x∈out,x.sz)(H:ah)(id:Nat)(es:List D)(fa fb:Nat→Nat)
 (hr:Rp H id es fa fb out) (hl:x.whr.length=(nth out (out.length-1)).whr.length):∀z0 z1 z2 z6:D,
 exS aH K.uB ⟨[z0,z1,z2,.ref id 0 out.length,.bp H.length 0,I out.length,z6,.t (.sl (s.map World.e)),I s.length,I j,I x.whr.length,I 0],H++[.box [.t (tL x.tags),.t (.sl (x.whr.map Wh.e))]]⟩=
 some (.exit 2,⟨[.und,.und,.und,.ref id 0 out.length,.bp H.length 0,I out.length,.und,.t (.sl (s.map World.e)),I s.length,I j,I x.whr.length,I x.whr.length],
  H.set (fb (out.length-1)) (.arr 2 false 0 (whs (iM (nth out (out.length-1)).whr x.whr)))++[.box [.t (tL x.tags),.t (.sl (x.whr.map Wh.e))]]⟩):=by
 intro z0 z1 z2 z6
 have e1:=hr.arr
 have e2:=hr.len
 have e3:=hr.el (out.length-1) (by omega)
 have e5:=hr.hb (out.length-1) (by omega)
 have e6:=hr.nb (out.length-1) (by omega)
 have e7:=jB e5
 have e8:=jB e1
 obtain⟨s1,s2,s3⟩:=hso _ (af (l:=out) (j:=out.length-1) (by omega))
 obtain⟨x1,x2,x3⟩:=hsx
 have ej:iM (nth out (out.length-1)).whr x.whr=jV (nth out (out.length-1)).whr x.whr x.whr.length:=by unfold iM;rw[hl,Nat.min_self]
 rw[ej]
 have ci:(out.length:Int)-1=((out.length-1:Nat):Int):=by omega
 generalize nth out (out.length-1)=y at*
 generalize out.length-1=k at*
 obtain⟨ta,wa⟩:=y
 obtain⟨tb,wb⟩:=x
 simp only at s1 s2 s3 x1 x2 x3 e3 e5 hl ⊢
 have jl:=iY wa wb
 have sl:∀o,(H.set (fb k) o).length=H.length:=fun o=>List.length_set
 have q1:∀o,(H.set (fb k) o)[id]?=H[id]?:=fun o=>bF e6
 have q2:∀o,(H.set (fb k) o)[fb k]?=some o:=fun o=>eo e7
 have q3:∀o (t:ah),(H.set (fb k) o++t)[H.length]?=t[0]?:=fun o t=>by
  have:=dQ (H:=H.set (fb k) o) (t:=t)
  rwa [sl]at this
 have q4:∀o (t:ah),(H.set (fb k) o++t)[id]?=H[id]?:=fun o t=>by rw[gn (by rw[sl];exact e8),q1]
 have q5:∀o (t:ah),(H.set (fb k) o++t)[fb k]?=some o:=fun o t=>by rw[gn (by rw[sl];exact e7),q2]
 have q6:∀o o2 (t:ah),(H.set (fb k) o++t).set (fb k) o2=H.set (fb k) o2++t:=fun o o2 t=>by rw[yz (by rw[sl];exact e7),tN]
 refine dw (fun p=>⟨[.und,.und,.und,.ref id 0 out.length,.bp H.length 0,I out.length,.und,.t (.sl (s.map World.e)),I s.length,I j,I wb.length,I p],H.set (fb k) (.arr 2 false 0 (whs (jV wa wb p)))++[.box [.t (tL tb),.t (.sl (wb.map Wh.e))]]⟩) wb.length ?_ ?_ ?_ (by simp)
 · show(⟨_,H++_⟩:St)=⟨_,H.set (fb k) (.arr 2 false 0 (whs wa))++_⟩
   rw[CO e5];rfl
 · intro p hp
   have jp:=jl p
   have jn:=Ao wa wb p p (aLs _)
   have jo:=Qb (nth wa p) (nth wb p) (s3 _ (af (by omega)))
   have hj:jV wa wb (p+1)=(jV wa wb p).set p (jh (nth wa p) (nth wb p)).1:=rfl
   rw[hj]
   generalize jV wa wb p=J at*
   generalize hu:nth wb p=u at*
   generalize nth wa p=w at*
   generalize jh w u=r at*
   obtain⟨⟨rt,rf⟩,re⟩:=r
   simp only at jo ⊢
   simp(disch:=omega)only[go_sem,K.oI,↓reduceIte,q3,q4,q5,q6,sl,e1,e2,e3,ci,hu,jn,jo,reduceAdd,reduceSub]
 · have jp:=jl wb.length
   generalize jV wa wb wb.length=J at*
   simp(disch:=omega)only[go_sem,K.oI,↓reduceIte,q3,q4,q5,q6,sl,reduceAdd,reduceSub]
theorem Qf(s:List World)(hsl:s.length≤1000){j:Nat}(hj:j<s.length)(hx:(nth s j).sz)(out:List World)(ho:out.length≤100000)(hso:∀x∈out,x.sz)(H:ah)(id:Nat)(es:List D)(fa fb:Nat→Nat)
 (hr:Rp H id es fa fb out) (hl:0<out.length→(nth s j).whr.length=(nth out (out.length-1)).whr.length):
 ∃H' es' fa' fb',dV false [0,1,2,4,5,6,10,11] H.length (exS aH K.iJ (tdS s id out.length j H))=some (tdS s id (rU out (nth s j)).length ((j+1:Nat):Int) H')∧Rp H' id es' fa' fb' (rU out (nth s j)):=by
 have e1:=hr.arr
 have e2:=hr.len
 have e8:=jB e1
 have ex:(s.map World.e)[j]?=some (nth s j).e:=cI _ hj
 have cw:=wS (nth s j) hx
 by_cases c:0<out.length∧(nth out (out.length-1)).tags=(nth s j).tags
 · obtain⟨c0,ct⟩:=c
   have jo:=Vu s j (nth s j) hx out (by omega) c0 hso H id es fa fb hr (hl c0)
   have s1:=(hso _ (af (l:=out) (j:=out.length-1) (by omega))).1
   have sm:=zt (nth out (out.length-1)).tags (nth s j).tags (by omega) (by have:=hx.1;omega)
   simp only[ct,decide_true]at sm
   have e3:=hr.el (out.length-1) (by omega)
   have e4:=hr.ha (out.length-1) (by omega)
   have mg:=(hr.merge (k:=out.length-1) (by omega) ⟨(nth s j).tags,iM (nth out (out.length-1)).whr (nth s j).whr⟩ ct (iY _ _ _)).more [.box [.t (tL (nth s j).tags),.t (.sl ((nth s j).whr.map Wh.e))]]
   have lw:rU out (nth s j)=out.set (out.length-1) ⟨(nth s j).tags,iM (nth out (out.length-1)).whr (nth s j).whr⟩:=by unfold rU;rw[if_pos ⟨c0,ct⟩]
   rw[lw]
   refine⟨_,es,fa,fb,?_,mg⟩
   have ci:(out.length:Int)-1=((out.length-1:Nat):Int):=by omega
   rw[List.length_set]
   generalize nth out (out.length-1)=y at*
   generalize out.length-1=k at*
   obtain⟨ta,wa⟩:=y
   simp only at ct
   subst ct
   generalize nth s j=x at*
   obtain⟨tb,wb⟩:=x
   simp only[tdS,ints]at*
   have g4:fa k<H.length:=jB e4
   simp(disch:=omega)only[go_sem,K.iJ,↓reduceIte,ex,ci,sm,e1,e2,e3,e4,jo,gn,dQ,en,gO,lM,reduceAdd,reduceSub]
 · have lw:rU out (nth s j)=out++[nth s j]:=by unfold rU;rw[if_neg c]
   rw[lw]
   refine⟨_,_,_,_,?_,hr.snoc (nth s j) (.box [.t (tL (nth s j).tags),.t (.sl ((nth s j).whr.map Wh.e))]) (.arr 2 false 0 [.agg [.ref (H.length+1) 0 (nth s j).tags.length,.ref (H.length+2) 0 (nth s j).whr.length]])⟩
   rw[aLv,List.length_singleton]
   by_cases c0:0<out.length
   · have ct:¬(nth out (out.length-1)).tags=(nth s j).tags:=fun e=>c ⟨c0,e⟩
     have s1:=(hso _ (af (l:=out) (j:=out.length-1) (by omega))).1
     have sm:=zt (nth out (out.length-1)).tags (nth s j).tags (by omega) (by have:=hx.1;omega)
     simp only[ct,decide_false]at sm
     have e3:=hr.el (out.length-1) (by omega)
     have e4:=hr.ha (out.length-1) (by omega)
     have ci:(out.length:Int)-1=((out.length-1:Nat):Int):=by omega
     generalize nth out (out.length-1)=y at*
     generalize out.length-1=k at*
     obtain⟨ta,wa⟩:=y
     generalize nth s j=x at*
     obtain⟨tb,wb⟩:=x
     simp only[tdS,ints]at*
     have g4:fa k<H.length:=jB e4
     simp(disch:=omega)only[go_sem,K.iJ,↓reduceIte,ex,ci,sm,e1,e2,e3,e4,cw,gn,dQ,en,yz,gO,lM,Nat.add_assoc,aLt,whs,reduceAdd,reduceSub]
   · generalize nth s j=x at*
     obtain⟨tb,wb⟩:=x
     simp only[tdS,ints]at*
     simp(disch:=omega)only[go_sem,K.iJ,↓reduceIte,ex,e1,e2,cw,gn,dQ,en,yz,gO,lM,Nat.add_assoc,whs,reduceAdd,reduceSub]
theorem Vv{H:ah}{id:Nat}{es:List D}{fa fb:Nat→Nat}{out:List World}(hr:Rp H id es fa fb out):bf (Go.Ev.frz H 7) es=some (out.map World.e):=by
 have hl:=hr.len
 have key:∀(j:Nat) (hj:j<out.length),Go.Ev.frz H 7 (.agg [.ref (fa j) 0 (nth out j).tags.length,.ref (fb j) 0 (nth out j).whr.length])=some (nth out j).e:=by
  intro j hj
  have h1:=hr.ha j hj
  have h2:=hr.hb j hj
  simp(disch:=omega)only[go_sem,h1,h2,ints,whs,↓reduceIte]
 have:∀(es:List D) (ts:List T),es.length=ts.length→(∀(j:Nat) e t,es[j]?=some e→ts[j]?=some t→Go.Ev.frz H 7 e=some t)→bf (Go.Ev.frz H 7) es=some ts:=by
  intro es
  induction es with
  | nil=>intro ts h _;cases ts with
    | nil=>rfl
    | cons=>simp at h
  | cons e es ih=>
    intro ts h hh
    cases ts with
    | nil=>simp at h
    | cons t ts=>
      have h1:=hh 0 e t rfl rfl
      have h2:=ih ts (by simpa using h) fun j e t he ht=>hh (j+1) e t (by simpa using he) (by simpa using ht)
      simp only[bf,h1,aLq,h2,aLw]
 refine this es _ (by rw[List.length_map,hl]) fun j e t he ht=>?_
 have hj:j<out.length:=by rw[← hl];exact(aLe.1 he).1
 rw[hr.el j hj]at he
 rw[cI _ hj]at ht
 cases he;cases ht
 exact key j hj
theorem Kz{H:ah}{id sz n:Nat}{pin:Bool}{es:List D}{ts:List T}(hid:H[id]?=some (.arr sz pin 0 es))(hn:n=es.length)(hf:bf (Go.Ev.frz H 7) es=some ts):finish 0 0 H [.ref id 0 n]=some (.t (.sl ts),[]):=by
 have e:Go.Ev.frz H depth (.ref id 0 n)=some (.sl ts):=by
  have ha:eY H id 0 n=some (sz,pin,es):=by simp only[eY,hid];rw[if_pos ⟨trivial,hn⟩]
  show((eY H id 0 n).bind fun a=>bf (Go.Ev.frz H 7) a.2.2).map T.sl=_
  rw[ha,aLq,hf];rfl
 have o1:[D.t (T.sl ts)].all (old 0 depth)=true:=by simp[old]
 unfold finish
 simp only[if_true,bf,tS,e,aLw,aLq,o1,List.take_zero,List.all_nil,Bool.and_self,ie,Nat.zero_le,decide_true,rS]
 rw[if_pos (by simp)]
def tdP(s:List World)(j:Nat)(st:St):Prop:=
 ∃H es fa fb out,st=tdS s 1 out.length (j:Int) H∧Rp H 1 es fa fb out∧out=(s.take j).foldl rU []
theorem Qg{m:aP}(hm:m.ok){first:List Int}{out:List World}(h:∀y∈out,WV m first y){x:World}(hx:WV m first x):∀y∈rU out x,WV m first y:=by
 intro y hy
 unfold rU at hy
 split at hy
 · rename_i c
   obtain⟨c0,c1⟩:=c
   have wk:=h _ (af (l:=out) (j:=out.length-1) (by omega))
   have w1:=wk.wl
   have w2:=hx.wl
   rcases aLk hy with a | rfl
   · exact h y a
   · exact⟨hx.pm,by rw[iM,iY];exact w1,vm hm wk.wv hx.wv _ (by omega) (by omega)⟩
 · rcases List.mem_append.1 hy with hy | hy
   · exact h y hy
   · rw[List.mem_singleton.1 hy];exact hx
theorem Jd{m:aP}(hm:m.ok){first:List Int}{s:List World}(hs:∀x∈s,WV m first x):∀j,j≤s.length→(∀y∈(s.take j).foldl rU [],WV m first y)∧((s.take j).foldl rU []).length≤j
 | 0,_=>⟨fun y hy=>by simp at hy,by simp⟩
 | j+1,h=>by
   obtain⟨a,b⟩:=Jd hm hs j (by omega)
   rw[jR (by omega),List.foldl_append]
   generalize (s.take j).foldl rU []=out at*
   simp only[List.foldl_cons,List.foldl_nil]
   refine⟨Qg hm a (hs _ (af (by omega))),?_⟩
   unfold rU
   split
   · rw[List.length_set];omega
   · rw[aLv,List.length_singleton];omega
theorem WV.wsz{m:aP}(hm:m.ok){first:List Int}(f2:first.length≤12){x:World}(h:WV m first x):x.sz:=by
 have np:=hm.np
 have l1:=h.pm.length_eq
 have l2:=h.wl
 exact⟨by omega,by omega,fun w hw=>by have:=(cU (h.wv w hw)).1;omega⟩
theorem Ci{m:aP}(hm:m.ok){first:List Int}(pr:fN first=true)(f1:1≤first.length)(f2:first.length≤12){s:List World}(hs:∀x∈s,WV m first x)(so:Hx s):∀j,j≤s.length→
 (s.take j).foldl rU []=(s.take j).foldl ji []∧BV m first ((s.take j).foldl ji [])∧∀w∈(s.take j).foldl ji [],∃k,k<j∧w.tags=(nth s k).tags
 | 0,_=>⟨rfl,⟨pr,f1,f2,(fun x hx=>by cases hx),List.Pairwise.nil⟩,fun w hw=>by simp at hw⟩
 | j+1,h=>by
   obtain⟨e,bv,fr⟩:=Ci hm pr f1 f2 hs so j (by omega)
   rw[jR (by omega),List.foldl_append,List.foldl_append,e]
   simp only[List.foldl_cons,List.foldl_nil]
   have hx:=hs _ (af (l:=s) (j:=j) (by omega))
   generalize (s.take j).foldl ji []=out at*
   refine⟨(Ky bv.up fun h0=>?_).symm,o7 hm bv hx,fun w hw=>?_⟩
   · obtain⟨k,hk,ek⟩:=fr _ (af (l:=out) (j:=out.length-1) (by omega))
     rw[ek]
     have:=(List.pairwise_iff_getElem.1 so) k j (by omega) (by omega) hk
     rwa [← bP (aLc (by omega:k<s.length)),←bP (aLc (by omega:j<s.length))]at this
   · unfold ji at hw
     split at hw
     · rcases aLk hw with a | rfl
       · obtain⟨k,hk,ek⟩:=fr w a;exact⟨k,by omega,ek⟩
       · exact⟨j,by omega,rfl⟩
     · simp only[List.mem_append,List.mem_singleton]at hw
       rcases hw with(hw | rfl) | hw
       · obtain⟨k,hk,ek⟩:=fr w (List.mem_of_mem_take hw);exact⟨k,by omega,ek⟩
       · exact⟨j,by omega,rfl⟩
       · obtain⟨k,hk,ek⟩:=fr w (List.mem_of_mem_drop hw);exact⟨k,by omega,ek⟩
theorem Qh{m:aP}(hm:m.ok){first:List Int}(pr:fN first=true)(f1:1≤first.length)(f2:first.length≤12)(l:List World)(hl:∀x∈l,WV m first x)(h0:0<l.length)(h20:l.length<20):
 aH 0 N.im [.t (.sl (l.map World.e))] []=some (.t (.sl ((qh l).map World.e)),[]):=by
 obtain⟨s,hs,pm,so⟩:=Ku l (fun w hw=>(hl w hw).wsz hm f2) h0 h20
 have hv:=fun x hx=>hl x (pm.mem_iff.1 hx)
 have ln:=pm.length_eq
 have td:(s.take s.length).foldl rU []=qh l:=by
  rw[(Ci hm pr f1 f2 hv so s.length (aLs _)).1,List.take_length,←xN]
  exact Kx hm pr f1 f2 pm hv
 have loop:∀z0 z1 z2 z4 z5 z6 z10 z11:D,∃q,exS aH K.uC ⟨[z0,z1,z2,.ref 1 0 0,z4,z5,z6,.t (.sl (s.map World.e)),I s.length,I 0,z10,z11],[.box [.t (.sl (l.map World.e))],.arr 2 false 0 []]⟩=some q∧∃H es fa fb,q=(.exit 0,tdS s 1 (qh l).length s.length H)∧Rp H 1 es fa fb (qh l):=by
  intro z0 z1 z2 z4 z5 z6 z10 z11
  refine E9 (tdP s) s.length _ ?_ ?_ ?_
  · exact⟨_,[],fun _=>0,fun _=>0,[],rfl,⟨rfl,rfl,fun j hj=>by simp at hj,fun j hj=>by simp at hj,fun j hj=>by simp at hj,fun j hj=>by simp at hj,fun j hj=>by simp at hj,fun i j hi=>by simp at hi,fun i j hi=>by simp at hi⟩,rfl⟩
  · rintro j st hj ⟨H,es,fa,fb,out,rfl,hr,ho⟩
    obtain⟨a,b⟩:=Jd hm hv j (by omega)
    rw[← ho]at a b
    have wx:=hv _ (af (l:=s) (j:=j) hj)
    obtain⟨H',es',fa',fb',r1,r2⟩:=Qf s (by omega) hj (wx.wsz hm f2) out (by omega) (fun x hx=>(a x hx).wsz hm f2) H 1 es fa fb hr (fun h=>by
     rw[wx.wl,(a _ (af (l:=out) (j:=out.length-1) (by omega))).wl])
    refine .inl ⟨_,r1,H',es',fa',fb',_,rfl,r2,?_⟩
    rw[jR hj,List.foldl_append,←ho];rfl
  · rintro st ⟨H,es,fa,fb,out,rfl,hr,ho⟩
    rw[td]at ho
    subst ho
    refine⟨(.exit 0,tdS s 1 (qh l).length s.length H),?_,by simp,H,es,fa,fb,rfl,hr⟩
    simp only[tdS]
    simp(disch:=omega)only[go_sem,K.iJ,↓reduceIte,reduceAdd,reduceSub]
 refine av K.rE rfl ?_
 have va:=Ks l
 obtain⟨q,hq,H,es,fa,fb,rfl,hr⟩:=loop (.t (.sl (l.map World.e))) .nil (.t (.sl (s.map World.e))) .und .und .und .und .und
 have fin:=Kz hr.arr hr.len.symm (Vv hr)
 simp only[tdS]at hq
 simp(disch:=omega)only[go_sem,K.im,↓reduceIte,va,hs,hq,fin,reduceAdd,reduceSub]
end Go.Ev
namespace Go.Ev
open Go
variable [Lib] [cz] [bZ] [gU] [gJ] [kG] [gV] [gW] [jC] [gX] [fT] [eR]
theorem tQ{m:aP}(h:m.ok)(b:Bel)(hs:b.sz):aH 0 N.dI [.t m.e,.t b.e] []=some (B (oX m b),[]):=by
 rw[← Qa]
 refine av K.rB rfl ?_
 obtain⟨h1,h2⟩:=hs
 have v:=mY h
 obtain⟨ws⟩:=b
 simp only at h1 h2
 have li:=yN ws.length 1 24
 unfold P9
 simp only
 by_cases c:1≤ws.length∧ws.length≤24
 · have li:aH 0 N.cQ [I ws.length,I 1,I 24] []=some (B true,[]):=by rw[li,decide_eq_true (by omega)]
   have e0:(ws.map World.e)[0]?=some (nth ws 0).e:=cI _ (by omega)
   have sz:=(h2 _ (af (l:=ws) (j:=0) (by omega))).1
   have loop:=fun a b c d e=>kg (gc:=true) (dead:=[0,1,4,6,7]) (c:=K.bX) (vs:=[a,b,.bp 0 0,.bp 1 0,c,.t (tL (jO (nth ws 0).tags)),d,e,.t (.sl (ws.map World.e)),I ws.length,I 0]) (H:=[.box (ae m),.box [.t (.sl (ws.map World.e))],.box [.t (tL (nth ws 0).tags)]])
    (swS m ws (nth ws 0).tags) ws.length (fun j=> !pwB m ws (nth ws 0).tags j) (fun _ q=>q.1= .ret∧q.2.vs[4]?=some (B false))
    (.exit 0,swS m ws (nth ws 0).tags ws.length) rfl
    (fun j hj hp=>(Nf h ws _ sz h2 j hj h1).1 (by simpa using hp))
    (fun j hj hp=>by
     obtain⟨q,q1,q2,q3⟩:=(Nf h ws _ sz h2 j hj h1).2 (by simpa using hp)
     exact⟨q,q1,by rw[q2];simp,q2,q3⟩)
    (by simp(disch:=omega)only[go_sem,K.bX,swS,↓reduceIte,reduceAdd,reduceSub]) (by simp)
   rw[qZ]
   have va:=Au (nth ws 0).tags
   have so:=Av (nth ws 0).tags sz
   have loop:=loop (.t m.e) (.t (Bel.e ⟨ws⟩)) (B false) .und .und
   generalize nth ws 0=x at*
   obtain⟨first,whr⟩:=x
   simp only[swS]at*
   generalize jO first=sf at*
   rcases loop with⟨e1,e2⟩ | ⟨j,⟨x,vs,H⟩,e1,e2,e3,e4⟩
   · have e2:exS aH K.pF _=_:=e2
     simp(disch:=omega)only[go_sem,K.dI,↓reduceIte,v,li,e0,va,so,c,and_self,decide_true,Bool.true_and,e1,e2,Option.isNone,reduceAdd,reduceSub]
   · have e2:exS aH K.pF _=_:=e2
     simp only at e3 e4
     subst e3
     simp(disch:=omega)only[go_sem,K.dI,↓reduceIte,v,li,e0,va,so,c,and_self,decide_true,Bool.true_and,e1,e2,Option.isNone,reduceAdd,reduceSub]
     simp(disch:=omega)only[go_sem,jE,e4,List.take_zero]
 · have li:aH 0 N.cQ [I ws.length,I 1,I 24] []=some (B false,[]):=by rw[li,decide_eq_false (by omega)]
   simp(disch:=omega)only[go_sem,K.dI,↓reduceIte,v,li,c,decide_false,Bool.false_and,reduceAdd,reduceSub]
end Go.Ev
namespace Go.Ev
open Go
variable [Lib] [cz] [bZ] [gV] [gW]
abbrev Qi:Int:=2147483648
section
variable {m : aP} (h : m.ok) {fl : List Spn}
include h
end
end Go.Ev
namespace Go.Ev
open Go
def clP(m:aP)(fl:List Spn)(y:List Int):Prop:=∀k,k<m.roads.length→∀back,0≤xD (nth m.roads k) (nth fl k) back→
 nth y ((nth m.roads k).src back).toNat+xD (nth m.roads k) (nth fl k) back≤Qi→
 nth y ((nth m.roads k).dst back).toNat≤nth y ((nth m.roads k).src back).toNat+xD (nth m.roads k) (nth fl k) back
variable [Lib] [cz] [bZ] [gV] [gW]
end Go.Ev
namespace Go.Ev
open Go
variable [Lib] [cz] [bZ] [gV] [gW]
def agh(l:List Int):Prop:=∀x∈l,0≤x∧(x≤Qi∨x=1099511627776)
theorem agh.bnd{l:List Int}(h:agh l):bnd l:=fun x hx=>by have:=h x hx;simp only[Qi]at this;omega
end Go.Ev
namespace Go.Ev
open Go
variable [Lib] [cz] [bZ] [gU] [gJ] [gV] [gW]
structure aaY(m:aP)(fl:List Spn)(s:Wh):Prop where
 ln:s.frm.length=m.aa.length
 ti:inT s.time
 tm:agh s.frm
 lo:∀x∈s.frm,s.time≤x
 cl:clP m fl s.frm
theorem aaY.valid{m:aP}{fl:List Spn}{s:Wh}(h:aaY m fl s):Mi m s=true:=by
 simp only[Mi,aLr,decide_eq_true_eq,aLx,aLu]
 refine⟨fun j hj=>?_,h.ln,h.ti⟩
 have a:=h.tm _ (af hj)
 have b:=h.lo _ (af hj)
 unfold plS
 simp only[Qi]at a
 omega
end Go.Ev
namespace Go.Ev
open Go
variable [Lib] [cz] [bZ] [gU] [gJ] [kG] [gV] [gW] [jC] [gX] [fT] [eR]
section
variable {m : aP} (hm : m.ok) (l : List Mch) (hl : l.length ≤ 1000) (hp : ∀ x ∈ l, x.pl.length ≤ 1000000) (s : Wh) (hs : s.frm.length ≤ 1000000) (b : Bel) (hb : b.sz) (t a : Int)
include hm hl hp hs hb
end
end Go.Ev
namespace Go.Ev
open Go
variable [Lib] [cz] [bZ] [gU] [gJ] [gV] [gW]
end Go.Ev
namespace Go.Ev
open Go
variable [Lib] [cz] [bZ]
def sh(s x:Int):Int:=if x<1099511627776 then x+s else x
def shL(s:Int)(l:List Int):List Int:=l.map (sh s)
@[simp] theorem agi (s : Int) (l : List Int) : (shL s l).length = l.length := List.length_map ..
end Go.Ev
namespace Go.Ev
open Go
variable [Lib] [cz] [bZ] [gU] [gJ] [kG] [gV] [gW] [jC] [gX]
theorem te(l:List Int)(x:Int){j:Nat}(hj:j<l.length):nth (l++[x]) j=nth l j:=by
 unfold nth;simp[aLl,aLg hj]
theorem Ny(l:List Int)(x:Int):nth (l++[x]) l.length=x:=by
 unfold nth;simp[aLl]
def agj(m:aP)(A:List Int)(k:Nat)(back:Bool)(d e:Nat):Prop:=k<m.roads.length∧0≤ir m k back 6 9 12∧(e:Int)=d+max 1 (ir m k back 6 9 12)∧(∀τ,d≤τ→τ<e→nth A τ=(nth m.roads k).src back)∧nth A e=(nth m.roads k).dst back∧e<A.length
theorem agj.snoc{m:aP}{A:List Int}{k:Nat}{back:Bool}{d e:Nat}(h:agj m A k back d e)(x:Int):agj m (A++[x]) k back d e:=by
 obtain⟨h1,h2,h3,h4,h5,h6⟩:=h
 refine⟨h1,h2,h3,fun τ a b=>?_,?_,by simp;omega⟩
 · rw[te _ _ (by omega)];exact h4 τ a b
 · rw[te _ _ h6];exact h5
theorem Nz{l:List Int}{n:Nat}(h:A9 l n=true):A9 l ((n+1:Nat):Int)=true∧A9 (l++[(n:Int)]) ((n+1:Nat):Int)=true:=by
 simp only[A9,aLx,aLu,decide_eq_true_eq]at h ⊢
 refine⟨fun j hj=>?_,fun j hj=>?_⟩
 · obtain⟨a,b,c⟩:=h j hj;exact⟨a,by omega,c⟩
 · by_cases c:j<l.length
   · obtain⟨a,b,c⟩:=h j c
     rw[te _ _ (by omega)]
     refine⟨a,by omega,fun hj=>?_⟩
     rw[te _ _ (by omega)];exact c hj
   · have e:j=l.length:=by simp at hj;omega
     subst e
     rw[Ny]
     refine⟨by omega,by omega,fun hj=>?_⟩
     rw[te _ _ (by omega)]
     exact(h (l.length-1) (by omega)).2.1
theorem Cj(d:aE):∀n:Nat,A9 (d.mU n).1 n=true
 | 0=>rfl
 | n+1=>by
   have ih:=Cj d n
   have:=Nz ih
   simp only[aE.mU]
   split
   · exact this.2
   · exact this.1
end Go.Ev
namespace Go.Ev
open Go
variable [Lib] [cz] [bZ] [gU] [gJ] [kG] [gV] [gW] [jC] [gX] [fT] [eR]
theorem NA{m:aP}(hm:m.ok){b:Bel}(hb:oX m b=true)(tag:Int)(l:List Int)(a c:Int):oX m (kh m b tag l a c).1=true:=by
 unfold kh
 split
 · exact hb
 · split
   · exact hb
   · split
     · exact hb
     · rename_i h
       obtain⟨ws⟩:=b
       have bv:=aaW hm (AH hb) tag l a c
       have ln:=sM m tag l a c ws ws.length
       obtain⟨h1,h2, -⟩:=ft hb
       simp only at h1 h2 h ⊢
       exact bv.bel (by omega) (by omega)
theorem NB{m:aP}(hm:m.ok){b:Bel}(hb:oX m b=true)(tag:Int)(l:List Int)(a c bl:Int):oX m (kj m b tag l a c bl).1=true:=by
 unfold kj
 split
 · exact hb
 · split
   · exact hb
   · obtain⟨ws⟩:=b
     have bv:=aaX hm (AH hb) tag l a c bl
     have ln:=sN m tag l a c bl ws ws.length
     obtain⟨h1,h2, -⟩:=ft hb
     simp only at h1 h2 ⊢
     exact bv.bel (by omega) (by omega)
theorem Dk{m:aP}(hm:m.ok){b:Bel}(hb:oX m b=true)(i j t:Int):oX m (jm m b i j t).1=true:=by
 unfold jm
 split
 · exact hb
 · split
   · exact hb
   · rename_i hij
     split
     · exact hb
     · split
       · exact hb
       · rename_i hl
         obtain⟨ws⟩:=b
         have bv:=AH hb
         obtain⟨h1,h2, -⟩:=ft hb
         simp only at h1 h2 hl hij ⊢
         have nb:=tc hm bv.wv (i:=i.toNat) (j:=j.toNat) (by omega) (by omega) t ws.length (aLs _)
         have el:=qi i.toNat j.toNat t ws ws.length
         have tv:=Di hm bv.pr bv.f1 bv.f2 nb _ (aLs _)
         refine BV.bel tv ?_ (Nat.not_lt.1 hl)
         have t1:∀k,1≤k→1≤(qg (gr i.toNat j.toNat t ws ws.length) k).length:=by
          intro k hk
          obtain⟨k,rfl⟩:∃k',k=k'+1:=⟨k-1,by omega⟩
          exact(wC _ _).2.2
         exact t1 _ (by omega)
theorem xO{m:aP}(hm:m.ok){n:Int}{s:BSt}(hb:oX m s.b=true):∀k,oX m (aE.xK m n s k).b=true
 | 0=>hb
 | k+1=>by
   have ih:=xO hm (n:=n) hb k
   simp only[aE.xK]
   generalize aE.xK m n s k=q at*
   unfold aE.lW
   simp only
   split
   · simp only
     split
     · exact Dk hm ih _ _ _
     · exact ih
   · split
     · simp only
       split
       · exact NA hm ih _ _ _ _
       · exact ih
     · simp only
       split
       · exact NB hm ih _ _ _ _ _
       · exact ih
theorem Ck{m:aP}(hm:m.ok)(h1:1≤m.aa.length)(d:aE):oX m (d.K1 m).b=true:=by
 have pb:=Ay d
 have tl:=lV d.pH
 have sl:(d.nJ m).1.length=d.pH:=aE.kY _ _ _
 have t0:=(d.nJ m).2.eE 100
 have t9:=(d.nJ m).2.eG (n:=100) (by omega)
 have pr:=yD (n:=d.pH) (by omega)
 unfold aE.K1
 rw[Da hm h1]
 refine BV.bel (first:=rC d.pH) ⟨pr,by omega,by omega,fun x hx=>?_,by simp⟩ (by simp) (by simp)
 rw[List.mem_singleton.1 hx]
 refine⟨List.Perm.refl _,by simp,fun w hw=>?_⟩
 simp only[iG,List.mem_map,aLu]at hw
 obtain⟨i,hi,rfl⟩:=hw
 have hi:i<(d.nJ m).1.length:=by rw[sl,←tl];exact hi
 have:=s5 (d.next 3).2 (n:=m.aa.length) (by omega) d.pH _ (af hi)
 exact(AG hm this.1 this.2 ⟨by omega,by omega⟩).2
theorem Fx{m:aP}(hm:m.ok)(h1:1≤m.aa.length)(d:aE):oX m (d.s0 m).1=true:=xO hm (Ck hm h1 d) _
end Go.Ev
namespace Go.Ev
open Go
variable [Lib] [cz] [bZ] [gU] [gJ] [kG] [gV] [gW] [jC] [gX] [fT] [eR] [iU] [fE]
theorem Cl(l:List Int)(x:Int):decide (x∈l)=decide (0≤bz l x):=by
 rw[decide_eq_decide]
 unfold bz
 cases hf:(List.range l.length).find? (fun j=>decide (nth l j=x))with
 | some j=>
   obtain⟨h1,h2⟩:=xx hf
   have h2:nth l j=x:=by simpa using h2
   refine⟨fun _=>by simp,fun _=>?_⟩
   rw[← h2];exact af h1
 | none=>
   refine⟨fun h=>?_,fun h=>by simp at h⟩
   obtain⟨j,hj⟩:=aLf.1 h
   have h1:=(aLe.1 hj).1
   have:=List.find?_eq_none.1 hf j (aLu.2 h1)
   rw[bP hj]at this
   simp at this
theorem NC{m:aP}(h:m.ok)(h1:1≤m.aa.length)(w:Wh)(hl:w.frm.length≤1000000)(l:List Int)(hp:l.length≤1000000)(a c:Int):
 aH 0 N.cX [.t w.e,.bp 0 0,.bp 1 0,.bp 2 0,.bp 3 0] [.box (ae m),.box [.t (tL l)],.box [I a],.box [I c]]=some (.tup [.t (w8 m w l a c).1.e,I (w8 m w l a c).2],[.box (ae m),.box [.t (tL l)],.box [I a],.box [I c]]):=by
 refine av K.rF rfl ?_
 have g:=Vm h h1 w hl l hp a c
 generalize (w8 m w l a c)=r at*
 obtain⟨⟨t,f⟩,e⟩:=r
 obtain⟨aa,roads⟩:=m
 obtain⟨time,frm⟩:=w
 simp only[ae]at*
 simp(disch:=omega)only[go_sem,K.cX,↓reduceIte,g,reduceAdd,reduceSub]
abbrev th(m:aP)(l:List Int)(a c:Int)(ws out:List World):ah:=[.box (ae m),.box [.t (tL l)],.box [I a],.box [I c],.box (ae m),.box [.t (.sl (ws.map World.e))],.box [.nil],.box [.ref 8 0 out.length],.arr 2 false 0 ((out.map World.e).map .t)]
theorem AM{m:aP}(h:m.ok)(h1:1≤m.aa.length)(ws:List World)(hw:ws.length≤1000000)(tag:Int)(l:List Int)(hp:l.length≤1000000)(a c:Int)(i:Nat)(hi:i<ws.length)(hs:(nth ws i).sz)
 (hb:0≤bz (nth ws i).tags tag) (hb2:bz (nth ws i).tags tag<(nth ws i).whr.length) (out:List World) (ho:out.length≤1000000):
 ((ux m tag l a c (nth ws i)).2≠6∧(ux m tag l a c (nth ws i)).2≠8→dV true [0,1,4,7,9,10,11,12,13,17,18] 9 (exS aH K.bk ⟨[.und,.und,I tag,.fn N.cX [.bp 0 0,.bp 1 0,.bp 2 0,.bp 3 0],.und,.bp 5 0,.bp 6 0,.und,.bp 7 0,.und,.und,.und,.und,.und,.t (.sl (ws.map World.e)),I ws.length,I i,.und,.und],th m l a c ws out⟩)=
   some ⟨[.und,.und,I tag,.fn N.cX [.bp 0 0,.bp 1 0,.bp 2 0,.bp 3 0],.und,.bp 5 0,.bp 6 0,.und,.bp 7 0,.und,.und,.und,.und,.und,.t (.sl (ws.map World.e)),I ws.length,I (i+1),.und,.und],th m l a c ws (wA tag (ux m tag l a c (nth ws i)) (nth ws i) out)⟩)∧
 ((ux m tag l a c (nth ws i)).2=6∨(ux m tag l a c (nth ws i)).2=8→∃vs H,exS aH K.bk ⟨[.und,.und,I tag,.fn N.cX [.bp 0 0,.bp 1 0,.bp 2 0,.bp 3 0],.und,.bp 5 0,.bp 6 0,.und,.bp 7 0,.und,.und,.und,.und,.und,.t (.sl (ws.map World.e)),I ws.length,I i,.und,.und],th m l a c ws out⟩=
   some (.ret,⟨vs,H⟩)∧vs[6]?=some (.bp 6 0)∧vs[7]?=some (I (ux m tag l a c (nth ws i)).2)∧H[6]?=some (.box [.t (.sl (ws.map World.e))])∧H.take 4=[.box (ae m),.box [.t (tL l)],.box [I a],.box [I c]]):=by
 unfold ux wA EN
 have c1:=wS (nth ws i) hs
 have br:aH 0 N.bq [.t (tL (nth ws i).tags),I tag] []=some (I (bz (nth ws i).tags tag),[]):=CS (nth ws i).tags tag (by have:=hs.1;omega)
 have s3:=hs.2.2 _ (af (l:=(nth ws i).whr) (j:=(bz (nth ws i).tags tag).toNat) (by omega))
 have se:=NC h h1 (nth (nth ws i).whr (bz (nth ws i).tags tag).toNat) s3 l hp a c
 generalize hx:nth ws i=x at*
 obtain⟨tags,whr⟩:=x
 simp only at c1 br s3 se hb hb2 ⊢
 generalize bz tags tag=k at*
 generalize hy:nth whr k.toNat=y at*
 generalize (w8 m y l a c)=r at*
 obtain⟨⟨time,frm⟩,e⟩:=r
 obtain⟨t0,f0⟩:=y
 obtain⟨s1,s2, -⟩:=hs
 obtain⟨aa,roads⟩:=m
 simp only[ae]at s1 s2 s3 se ⊢
 constructor
 · rintro ⟨n6,n8⟩
   by_cases e43:e=43
   · subst e43
     simp(disch:=omega)only[go_sem,K.bk,↓reduceIte,hx,hy,c1,br,se,reduceAdd,reduceSub]
   · by_cases e0:e=0
     · subst e0
       simp(disch:=omega)only[go_sem,K.bk,↓reduceIte,hx,hy,c1,br,se,reduceAdd,reduceSub]
       simp only[th,ae,aLv,List.length_singleton,List.map_append,List.map_cons,List.map_nil]
     · simp(disch:=omega)only[go_sem,K.bk,↓reduceIte,hx,hy,c1,br,se,reduceAdd,reduceSub]
       simp only[th,ae,aLv,List.length_singleton,List.map_append,List.map_cons,List.map_nil]
 · rintro (h68 | h68)<;>subst h68
   · simp(disch:=omega)only[go_sem,K.bk,↓reduceIte,hx,hy,c1,br,se,reduceAdd,reduceSub]
     exact⟨_,_,rfl,rfl,rfl,rfl,rfl⟩
   · simp(disch:=omega)only[go_sem,K.bk,↓reduceIte,hx,hy,c1,br,se,reduceAdd,reduceSub]
     exact⟨_,_,rfl,rfl,rfl,rfl,rfl⟩
theorem ND{m:aP}(h:m.ok)(h1:1≤m.aa.length)(b:Bel)(hs:b.sz)(tag:Int)(l:List Int)(hp:l.length≤1000000)(a c:Int):
 aH 0 N.cn [.t m.e,.t b.e,I tag,.fn N.cX [.bp 0 0,.bp 1 0,.bp 2 0,.bp 3 0]] [.box (ae m),.box [.t (tL l)],.box [I a],.box [I c]]=some (.tup [.t (kh m b tag l a c).1.e,I (kh m b tag l a c).2],[.box (ae m),.box [.t (tL l)],.box [I a],.box [I c]]):=by
 refine av K.nV rfl ?_
 have va:=tQ h b hs
 unfold kh
 by_cases hv:oX m b=true
 · have n1:1≤b.aq.length:=(ft hv).1
   have e0:(b.aq.map World.e)[0]?=some (nth b.aq 0).e:=cI _ (by omega)
   have ct:=q7 (nth b.aq 0).tags tag (by have:=(hs.2 _ (af (l:=b.aq) (j:=0) (by omega))).1;omega)
   rw[Cl]at ct
   by_cases c0:gl m b tag=0
   · obtain⟨-,bb⟩:=An c0
     rw[decide_eq_true (bb 0 (by omega)).1]at ct
     rw[if_neg (by simpa using c0)]
     obtain⟨ws⟩:=b
     obtain⟨s1,s2⟩:=hs
     simp only at s1 s2 bb va e0 ct ⊢
     rw[hv]at va
     have ln:=sM m tag l a c ws
     have loop:=fun x y z4 z7 z9 z10 z11 z12 z13 z17 z18=>kg (gc:=true) (dead:=[0,1,4,7,9,10,11,12,13,17,18]) (c:=K.bk)
      (vs:=[x,y,I tag,.fn N.cX [.bp 0 0,.bp 1 0,.bp 2 0,.bp 3 0],z4,.bp 5 0,.bp 6 0,z7,.bp 7 0,z9,z10,z11,z12,z13,.t (.sl (ws.map World.e)),I ws.length,I 0,z17,z18]) (H:=th m l a c ws [])
      (fun i=>⟨[.und,.und,I tag,.fn N.cX [.bp 0 0,.bp 1 0,.bp 2 0,.bp 3 0],.und,.bp 5 0,.bp 6 0,.und,.bp 7 0,.und,.und,.und,.und,.und,.t (.sl (ws.map World.e)),I ws.length,I i,.und,.und],th m l a c ws (lq m tag l a c ws i)⟩) ws.length (yx m tag l a c ws)
      (fun i q=>q.1= .ret∧q.2.vs[6]?=some (.bp 6 0)∧q.2.vs[7]?=some (I (ux m tag l a c (nth ws i)).2)∧q.2.H[6]?=some (.box [.t (.sl (ws.map World.e))])∧q.2.H.take 4=[.box (ae m),.box [.t (tL l)],.box [I a],.box [I c]])
      (.exit 0,⟨[.und,.und,I tag,.fn N.cX [.bp 0 0,.bp 1 0,.bp 2 0,.bp 3 0],.und,.bp 5 0,.bp 6 0,.und,.bp 7 0,.und,.und,.und,.und,.und,.t (.sl (ws.map World.e)),I ws.length,I ws.length,.und,.und],th m l a c ws (lq m tag l a c ws ws.length)⟩) rfl
      (fun j hj hq=>by
       have:=ln j
       have hq:¬((ux m tag l a c (nth ws j)).2=6∨(ux m tag l a c (nth ws j)).2=8):=by simpa [yx]using hq
       obtain⟨b1,b2⟩:=bb j hj
       have r:=(AM h h1 ws s1 tag l hp a c j hj (s2 _ (af hj)) b1 b2 (lq m tag l a c ws j) (by omega)).1 (by omega)
       simp only[lq]
       exact r)
      (fun j hj hq=>by
       have:=ln j
       have hq:(ux m tag l a c (nth ws j)).2=6∨(ux m tag l a c (nth ws j)).2=8:=by simpa [yx]using hq
       obtain⟨b1,b2⟩:=bb j hj
       obtain⟨vs,H,q1,q2⟩:=(AM h h1 ws s1 tag l hp a c j hj (s2 _ (af hj)) b1 b2 (lq m tag l a c ws j) (by omega)).2 hq
       exact⟨_,q1,by simp,rfl,q2⟩)
      (by
       have:=ln ws.length
       generalize lq m tag l a c ws ws.length=L at*
       simp(disch:=omega)only[go_sem,K.bk,↓reduceIte,th,reduceAdd,reduceSub]) (by simp)
     have loop':∀x y z4 z7 z9 z10 z11 z12 z13 z17 z18,_∨_:=loop
     clear loop
     rcases loop' (.t m.e) (.t (Bel.e ⟨ws⟩)) (.bp 4 0) (I 0) .und .und .und .und .und .und .und with⟨e1,e2⟩ | ⟨j,⟨x,vs,H⟩,e1,e2,e3,e4,e5,e6,e7⟩
     · have e2:exS aH K.kr _=_:=e2
       simp only[th,List.map_nil,List.length_nil]at e2
       have:=ln ws.length
       rw[e1]
       generalize lq m tag l a c ws ws.length=L at*
       obtain⟨aa,roads⟩:=m
       simp only[ae]at*
       generalize nth ws 0=x at*
       obtain⟨first,whr⟩:=x
       by_cases L0:L.length=0
       · simp(disch:=omega)only[go_sem,K.cn,↓reduceIte,va,e0,ct,e2,L0,reduceAdd,reduceSub]
       · simp(disch:=omega)only[go_sem,K.cn,↓reduceIte,va,e0,ct,e2,L0,reduceAdd,reduceSub]
     · have e2:exS aH K.kr _=_:=e2
       simp only[th,List.map_nil,List.length_nil]at e2
       rw[e1]
       simp only at e3 e4 e5 e6 e7
       subst e3
       obtain⟨aa,roads⟩:=m
       simp only[ae]at*
       generalize nth ws 0=x at*
       obtain⟨first,whr⟩:=x
       simp(disch:=omega)only[go_sem,K.cn,↓reduceIte,va,e0,ct,e2,e4,e5,e6,e7,reduceAdd,reduceSub]
   · have c1:¬0≤bz (nth b.aq 0).tags tag:=fun hh=>c0 (by unfold gl;rw[if_neg (by simp[hv]),if_neg (by omega)])
     have c2:gl m b tag=41:=by unfold gl;rw[if_neg (by simp[hv]),if_pos (by omega)]
     rw[decide_eq_false c1]at ct
     rw[if_pos c0,c2]
     rw[hv]at va
     obtain⟨ws⟩:=b
     obtain⟨aa,roads⟩:=m
     simp only[ae]at*
     generalize nth ws 0=x at*
     obtain⟨first,whr⟩:=x
     simp(disch:=omega)only[go_sem,K.cn,↓reduceIte,va,e0,ct,reduceAdd,reduceSub]
 · have hv:oX m b=false:=by simpa using hv
   have c2:gl m b tag=6:=by unfold gl;rw[if_pos hv]
   rw[if_pos (by omega),c2]
   rw[hv]at va
   obtain⟨ws⟩:=b
   obtain⟨aa,roads⟩:=m
   simp only[ae]at*
   simp(disch:=omega)only[go_sem,K.cn,↓reduceIte,va,reduceAdd,reduceSub]
theorem Qj{m:aP}(h:m.ok)(h1:1≤m.aa.length)(b:Bel)(hs:b.sz)(tag:Int)(l:List Int)(hp:l.length≤1000000)(a c:Int):
 aH 0 N.jI [.t m.e,.t b.e,I tag,.t (tL l),I a,I c] []=some (.tup [.t (kh m b tag l a c).1.e,I (kh m b tag l a c).2],[]):=by
 refine av K.vl rfl ?_
 have g:=ND h h1 b hs tag l hp a c
 generalize kh m b tag l a c=r at*
 obtain⟨⟨r1⟩,r2⟩:=r
 obtain⟨aa,roads⟩:=m
 obtain⟨ws⟩:=b
 simp only[ae]at*
 simp(disch:=omega)only[go_sem,K.jI,↓reduceIte,g,reduceAdd,reduceSub]
theorem NF(m:aP)(w:Wh)(l:List Int)(a b:Int):iF m w l a b≠43:=by
 unfold iF
 repeat' split
 all_goals omega
theorem Vw(m:aP)(tag:Int)(l:List Int)(a c bl:Int)(x:World):(tM m tag l a c bl x).2≠43:=by
 unfold tM w9
 repeat' split
 all_goals first | exact NF _ _ _ _ _ | (simp only;omega)
theorem Vx{tag:Int}{r:Wh×Int}(h:r.2≠43)(x:World)(out:List World):wA tag r x out=CZ tag r x out:=by
 unfold wA CZ;rw[if_neg h]
theorem Fy{m:aP}(h:m.ok)(h1:1≤m.aa.length)(w:Wh)(hl:w.frm.length≤1000000)(l:List Int)(hp:l.length≤1000000)(a c bl:Int):
 aH 0 N.bN [.t w.e,.bp 0 0,.bp 1 0,.bp 2 0,.bp 3 0,.bp 4 0] [.box (ae m),.box [.t (tL l)],.box [I a],.box [I c],.box [I bl]]=some (.tup [.t (w9 m w l a c bl).1.e,I (w9 m w l a c bl).2],[.box (ae m),.box [.t (tL l)],.box [I a],.box [I c],.box [I bl]]):=by
 refine av K.nE rfl ?_
 have g:=Vn h w hl l hp a c bl
 generalize (w9 m w l a c bl)=r at*
 obtain⟨⟨t,f⟩,e⟩:=r
 obtain⟨aa,roads⟩:=m
 obtain⟨time,frm⟩:=w
 simp only[ae]at*
 simp(disch:=omega)only[go_sem,K.bN,↓reduceIte,g,reduceAdd,reduceSub]
abbrev jM(m:aP)(l:List Int)(a c bl:Int)(ws out:List World):ah:=[.box (ae m),.box [.t (tL l)],.box [I a],.box [I c],.box [I bl],.box (ae m),.box [.t (.sl (ws.map World.e))],.box [.nil],.box [.ref 9 0 out.length],.arr 2 false 0 ((out.map World.e).map .t)]
theorem uF{m:aP}(h:m.ok)(h1:1≤m.aa.length)(ws:List World)(hw:ws.length≤1000000)(tag:Int)(l:List Int)(hp:l.length≤1000000)(a c bl:Int)(i:Nat)(hi:i<ws.length)(hs:(nth ws i).sz)
 (hb:0≤bz (nth ws i).tags tag) (hb2:bz (nth ws i).tags tag<(nth ws i).whr.length) (out:List World) (ho:out.length≤1000000):
 ((tM m tag l a c bl (nth ws i)).2≠6∧(tM m tag l a c bl (nth ws i)).2≠8→dV true [0,1,4,7,9,10,11,12,13,17,18] 10 (exS aH K.bk ⟨[.und,.und,I tag,.fn N.bN [.bp 0 0,.bp 1 0,.bp 2 0,.bp 3 0,.bp 4 0],.und,.bp 6 0,.bp 7 0,.und,.bp 8 0,.und,.und,.und,.und,.und,.t (.sl (ws.map World.e)),I ws.length,I i,.und,.und],jM m l a c bl ws out⟩)=
   some ⟨[.und,.und,I tag,.fn N.bN [.bp 0 0,.bp 1 0,.bp 2 0,.bp 3 0,.bp 4 0],.und,.bp 6 0,.bp 7 0,.und,.bp 8 0,.und,.und,.und,.und,.und,.t (.sl (ws.map World.e)),I ws.length,I (i+1),.und,.und],jM m l a c bl ws (wA tag (tM m tag l a c bl (nth ws i)) (nth ws i) out)⟩)∧
 ((tM m tag l a c bl (nth ws i)).2=6∨(tM m tag l a c bl (nth ws i)).2=8→∃vs H,exS aH K.bk ⟨[.und,.und,I tag,.fn N.bN [.bp 0 0,.bp 1 0,.bp 2 0,.bp 3 0,.bp 4 0],.und,.bp 6 0,.bp 7 0,.und,.bp 8 0,.und,.und,.und,.und,.und,.t (.sl (ws.map World.e)),I ws.length,I i,.und,.und],jM m l a c bl ws out⟩=
   some (.ret,⟨vs,H⟩)∧vs[6]?=some (.bp 7 0)∧vs[7]?=some (I (tM m tag l a c bl (nth ws i)).2)∧H[7]?=some (.box [.t (.sl (ws.map World.e))])∧H.take 5=[.box (ae m),.box [.t (tL l)],.box [I a],.box [I c],.box [I bl]]):=by
 unfold tM wA EN
 have c1:=wS (nth ws i) hs
 have br:aH 0 N.bq [.t (tL (nth ws i).tags),I tag] []=some (I (bz (nth ws i).tags tag),[]):=CS (nth ws i).tags tag (by have:=hs.1;omega)
 have s3:=hs.2.2 _ (af (l:=(nth ws i).whr) (j:=(bz (nth ws i).tags tag).toNat) (by omega))
 have se:=Fy h h1 (nth (nth ws i).whr (bz (nth ws i).tags tag).toNat) s3 l hp a c bl
 generalize hx:nth ws i=x at*
 obtain⟨tags,whr⟩:=x
 simp only at c1 br s3 se hb hb2 ⊢
 generalize bz tags tag=k at*
 generalize hy:nth whr k.toNat=y at*
 generalize (w9 m y l a c bl)=r at*
 obtain⟨⟨time,frm⟩,e⟩:=r
 obtain⟨t0,f0⟩:=y
 obtain⟨s1,s2, -⟩:=hs
 obtain⟨aa,roads⟩:=m
 simp only[ae]at s1 s2 s3 se ⊢
 constructor
 · rintro ⟨n6,n8⟩
   by_cases e43:e=43
   · subst e43
     simp(disch:=omega)only[go_sem,K.bk,↓reduceIte,hx,hy,c1,br,se,reduceAdd,reduceSub]
   · by_cases e0:e=0
     · subst e0
       simp(disch:=omega)only[go_sem,K.bk,↓reduceIte,hx,hy,c1,br,se,reduceAdd,reduceSub]
       simp only[jM,ae,aLv,List.length_singleton,List.map_append,List.map_cons,List.map_nil]
     · simp(disch:=omega)only[go_sem,K.bk,↓reduceIte,hx,hy,c1,br,se,reduceAdd,reduceSub]
       simp only[jM,ae,aLv,List.length_singleton,List.map_append,List.map_cons,List.map_nil]
 · rintro (h68 | h68)<;>subst h68
   · simp(disch:=omega)only[go_sem,K.bk,↓reduceIte,hx,hy,c1,br,se,reduceAdd,reduceSub]
     exact⟨_,_,rfl,rfl,rfl,rfl,rfl⟩
   · simp(disch:=omega)only[go_sem,K.bk,↓reduceIte,hx,hy,c1,br,se,reduceAdd,reduceSub]
     exact⟨_,_,rfl,rfl,rfl,rfl,rfl⟩
theorem FA{m:aP}(h:m.ok)(h1:1≤m.aa.length)(b:Bel)(hs:b.sz)(tag:Int)(l:List Int)(hp:l.length≤1000000)(a c bl:Int):
 aH 0 N.cn [.t m.e,.t b.e,I tag,.fn N.bN [.bp 0 0,.bp 1 0,.bp 2 0,.bp 3 0,.bp 4 0]] [.box (ae m),.box [.t (tL l)],.box [I a],.box [I c],.box [I bl]]=some (.tup [.t (kj m b tag l a c bl).1.e,I (kj m b tag l a c bl).2],[.box (ae m),.box [.t (tL l)],.box [I a],.box [I c],.box [I bl]]):=by
 refine av K.nV rfl ?_
 have va:=tQ h b hs
 unfold kj
 by_cases hv:oX m b=true
 · have n1:1≤b.aq.length:=(ft hv).1
   have e0:(b.aq.map World.e)[0]?=some (nth b.aq 0).e:=cI _ (by omega)
   have ct:=q7 (nth b.aq 0).tags tag (by have:=(hs.2 _ (af (l:=b.aq) (j:=0) (by omega))).1;omega)
   rw[Cl]at ct
   by_cases c0:gl m b tag=0
   · obtain⟨-,bb⟩:=An c0
     rw[decide_eq_true (bb 0 (by omega)).1]at ct
     rw[if_neg (by simpa using c0)]
     obtain⟨ws⟩:=b
     obtain⟨s1,s2⟩:=hs
     simp only at s1 s2 bb va e0 ct ⊢
     rw[hv]at va
     have ln:=sN m tag l a c bl ws
     have loop:=fun x y z4 z7 z9 z10 z11 z12 z13 z17 z18=>kg (gc:=true) (dead:=[0,1,4,7,9,10,11,12,13,17,18]) (c:=K.bk)
      (vs:=[x,y,I tag,.fn N.bN [.bp 0 0,.bp 1 0,.bp 2 0,.bp 3 0,.bp 4 0],z4,.bp 6 0,.bp 7 0,z7,.bp 8 0,z9,z10,z11,z12,z13,.t (.sl (ws.map World.e)),I ws.length,I 0,z17,z18]) (H:=jM m l a c bl ws [])
      (fun i=>⟨[.und,.und,I tag,.fn N.bN [.bp 0 0,.bp 1 0,.bp 2 0,.bp 3 0,.bp 4 0],.und,.bp 6 0,.bp 7 0,.und,.bp 8 0,.und,.und,.und,.und,.und,.t (.sl (ws.map World.e)),I ws.length,I i,.und,.und],jM m l a c bl ws (mW m tag l a c bl ws i)⟩) ws.length (yy m tag l a c bl ws)
      (fun i q=>q.1= .ret∧q.2.vs[6]?=some (.bp 7 0)∧q.2.vs[7]?=some (I (tM m tag l a c bl (nth ws i)).2)∧q.2.H[7]?=some (.box [.t (.sl (ws.map World.e))])∧q.2.H.take 5=[.box (ae m),.box [.t (tL l)],.box [I a],.box [I c],.box [I bl]])
      (.exit 0,⟨[.und,.und,I tag,.fn N.bN [.bp 0 0,.bp 1 0,.bp 2 0,.bp 3 0,.bp 4 0],.und,.bp 6 0,.bp 7 0,.und,.bp 8 0,.und,.und,.und,.und,.und,.t (.sl (ws.map World.e)),I ws.length,I ws.length,.und,.und],jM m l a c bl ws (mW m tag l a c bl ws ws.length)⟩) rfl
      (fun j hj hq=>by
       have:=ln j
       have hq:¬((tM m tag l a c bl (nth ws j)).2=6∨(tM m tag l a c bl (nth ws j)).2=8):=by simpa [yy]using hq
       obtain⟨b1,b2⟩:=bb j hj
       have r:=(uF h h1 ws s1 tag l hp a c bl j hj (s2 _ (af hj)) b1 b2 (mW m tag l a c bl ws j) (by omega)).1 (by omega)
       rw[Vx (Vw _ _ _ _ _ _ _)]at r
       exact r)
      (fun j hj hq=>by
       have:=ln j
       have hq:(tM m tag l a c bl (nth ws j)).2=6∨(tM m tag l a c bl (nth ws j)).2=8:=by simpa [yy]using hq
       obtain⟨b1,b2⟩:=bb j hj
       obtain⟨vs,H,q1,q2⟩:=(uF h h1 ws s1 tag l hp a c bl j hj (s2 _ (af hj)) b1 b2 (mW m tag l a c bl ws j) (by omega)).2 hq
       exact⟨_,q1,by simp,rfl,q2⟩)
      (by
       have:=ln ws.length
       generalize mW m tag l a c bl ws ws.length=L at*
       simp(disch:=omega)only[go_sem,K.bk,↓reduceIte,jM,reduceAdd,reduceSub]) (by simp)
     have loop':∀x y z4 z7 z9 z10 z11 z12 z13 z17 z18,_∨_:=loop
     clear loop
     rcases loop' (.t m.e) (.t (Bel.e ⟨ws⟩)) (.bp 5 0) (I 0) .und .und .und .und .und .und .und with⟨e1,e2⟩ | ⟨j,⟨x,vs,H⟩,e1,e2,e3,e4,e5,e6,e7⟩
     · have e2:exS aH K.kr _=_:=e2
       simp only[jM,List.map_nil,List.length_nil]at e2
       have:=ln ws.length
       rw[e1]
       generalize mW m tag l a c bl ws ws.length=L at*
       obtain⟨aa,roads⟩:=m
       simp only[ae]at*
       generalize nth ws 0=x at*
       obtain⟨first,whr⟩:=x
       have L1:L.length≠0:=by omega
       simp(disch:=omega)only[go_sem,K.cn,↓reduceIte,va,e0,ct,e2,L1,reduceAdd,reduceSub]
     · have e2:exS aH K.kr _=_:=e2
       simp only[jM,List.map_nil,List.length_nil]at e2
       rw[e1]
       simp only at e3 e4 e5 e6 e7
       subst e3
       obtain⟨aa,roads⟩:=m
       simp only[ae]at*
       generalize nth ws 0=x at*
       obtain⟨first,whr⟩:=x
       simp(disch:=omega)only[go_sem,K.cn,↓reduceIte,va,e0,ct,e2,e4,e5,e6,e7,reduceAdd,reduceSub]
   · have c1:¬0≤bz (nth b.aq 0).tags tag:=fun hh=>c0 (by unfold gl;rw[if_neg (by simp[hv]),if_neg (by omega)])
     have c2:gl m b tag=41:=by unfold gl;rw[if_neg (by simp[hv]),if_pos (by omega)]
     rw[decide_eq_false c1]at ct
     rw[if_pos c0,c2]
     rw[hv]at va
     obtain⟨ws⟩:=b
     obtain⟨aa,roads⟩:=m
     simp only[ae]at*
     generalize nth ws 0=x at*
     obtain⟨first,whr⟩:=x
     simp(disch:=omega)only[go_sem,K.cn,↓reduceIte,va,e0,ct,reduceAdd,reduceSub]
 · have hv:oX m b=false:=by simpa using hv
   have c2:gl m b tag=6:=by unfold gl;rw[if_pos hv]
   rw[if_pos (by omega),c2]
   rw[hv]at va
   obtain⟨ws⟩:=b
   obtain⟨aa,roads⟩:=m
   simp only[ae]at*
   simp(disch:=omega)only[go_sem,K.cn,↓reduceIte,va,reduceAdd,reduceSub]
theorem HA{m:aP}(h:m.ok)(h1:1≤m.aa.length)(b:Bel)(hs:b.sz)(tag:Int)(l:List Int)(hp:l.length≤1000000)(a c bl:Int):
 aH 0 N.fV [.t m.e,.t b.e,I tag,.t (tL l),I a,I c,I bl] []=some (.tup [.t (kj m b tag l a c bl).1.e,I (kj m b tag l a c bl).2],[]):=by
 refine av K.pI rfl ?_
 have g:=FA h h1 b hs tag l hp a c bl
 generalize kj m b tag l a c bl=r at*
 obtain⟨⟨r1⟩,r2⟩:=r
 obtain⟨aa,roads⟩:=m
 obtain⟨ws⟩:=b
 simp only[ae]at*
 simp(disch:=omega)only[go_sem,K.fV,↓reduceIte,g,reduceAdd,reduceSub]
theorem Qk(l:List Int)(hl:l.length≤1000000)(x:Int):aH 0 N.eD [I x,.bp 0 0] [.box [.t (tL l)]]=some (B (decide (x∈l)),[.box [.t (tL l)]]):=by
 refine av K.pP rfl ?_
 have g:=q7 l x (by omega)
 simp(disch:=omega)only[go_sem,K.eD,↓reduceIte,g,reduceAdd,reduceSub]
theorem Ql(a b:Wh)(t:Int):EL a b t=(mV a t).any fun x=>decide (x∈mV b t):=by
 rw[Bool.eq_iff_iff,List.any_eq_true]
 unfold EL
 rw[List.any_eq_true]
 constructor
 · rintro ⟨p,h1,h2⟩
   have h1:=aLu.1 h1
   have h2:=of_decide_eq_true h2
   exact⟨p,qj.2 ⟨p,rfl,by omega,decide_eq_true h2.1⟩,decide_eq_true (qj.2 ⟨p,rfl,by omega,decide_eq_true h2.2⟩)⟩
 · rintro ⟨x,h1,h2⟩
   obtain⟨p,rfl,h3,h4⟩:=qj.1 h1
   obtain⟨q,e,h5,h6⟩:=qj.1 (of_decide_eq_true h2)
   have e:p=q:=by omega
   subst e
   exact⟨p,aLu.2 (by omega),decide_eq_true ⟨of_decide_eq_true h4,of_decide_eq_true h6⟩⟩
theorem Qm(a b:Wh)(t:Int)(ha:a.frm.length≤1000000)(hb:b.frm.length≤1000000):aH 0 N.jf [.t a.e,.t b.e,I t] []=some (B (EL a b t),[]):=by
 refine av K.s9 rfl ?_
 have p1:=Fu a t ha
 have p2:=Fu b t hb
 have l1:=Fk a t
 have l2:=Fk b t
 have cf:aH 0 N.aJ [.t (tL (mV a t)),.fn N.eD [.bp 0 0]] [.box [.t (tL (mV b t))]]=some (B ((mV a t).any fun x=>decide (x∈mV b t)),[.box [.t (tL (mV b t))]]):=
  sJ (mV a t) (by omega) N.eD [[tL (mV b t)]] _ fun x hx=>Qk _ (by omega) x
 rw[Ql]
 generalize mV a t=pa at*
 generalize mV b t=pb at*
 obtain⟨t1,f1⟩:=a
 obtain⟨t2,f2⟩:=b
 simp only at*
 simp(disch:=omega)only[go_sem,K.jf,↓reduceIte,p1,p2,cf,reduceAdd,reduceSub]
theorem NG(l:List World)(h0:0<l.length)(hl:l.length≤1000000):aH 1 N.aO [.t (.sl (l.map World.e))] []=some (.ref 0 0 l.length,[.arr 2 false 0 ((l.map World.e).map .t)]):=by
 refine av K.dT rfl ?_
 have e:=fun H=>ze H (l.map World.e) (by intro h;rw[List.map_eq_nil_iff]at h;rw[h]at h0;simp at h0)
 simp(disch:=omega)only[go_sem,K.aO,↓reduceIte,e,reduceAdd,reduceSub]
abbrev sxV(ws out:List World)(i j:Nat)(t:Int)(k:Int):List D:=[.und,.und,I i,I j,I t,.und,.bp 1 0,.bp 2 0,.und,.und,.ref 3 0 out.length,.und,.und,.und,.und,.und,.und,.t (.sl (ws.map World.e)),I ws.length,I k,.und,.und]
theorem xP{α:Type} [Dat α](l:List α)(i:Nat)(h:i<l.length):l.set i (nth l i)=l:=by
 rw[bP (aLc h),List.set_getElem_self]
theorem aht(w:Wh)(t:Int)(c:¬(ez w t).2=0):(ez w t).1=w:=by
 unfold ez at c ⊢
 split
 · rfl
 · rename_i c';rw[if_neg c']at c;exact absurd rfl c
abbrev sxI(ws:List World)(n i j:Nat)(t:Int)(k:Int)(c:Int):List D:=[.und,.und,I i,I j,I t,.und,.bp 1 0,.bp 2 0,.und,.und,.ref 3 0 n,.und,.bp 7 0,.und,.und,.und,.und,.t (.sl (ws.map World.e)),I ws.length,I k,.t (.agg [.int .i64 i,.int .i64 j]),I c]
abbrev sxH(m:aP)(ws out:List World)(x0 x1:T)(tags:List Int)(q:List Wh):ah:=[.box (ae m),.box [.t (.sl (ws.map World.e))],.box [.nil],.arr 2 false 0 ((out.map World.e).map .t),.box [.t x0,.t x1],.arr 1 false 0 ((tags.map (T.int .i64)).map .t),.arr 2 false 0 ((q.map Wh.e).map .t),.box [.ref 5 0 tags.length,.ref 6 0 q.length]]
theorem NH(m:aP)(ws out:List World)(x0 x1:T)(tags:List Int)(q:List Wh)(n i j:Nat)(t:Int)(k:Int)(hq:q.length≤1000000)(hi:i<q.length)(hw:(nth q i).frm.length≤1000000):
 dV true [0,1,5,8,9,11,13,14,15,16] 8 (exS aH K.cN ⟨sxI ws n i j t k 0,sxH m ws out x0 x1 tags q⟩)=some ⟨sxI ws n i j t k 1,sxH m ws out x0 x1 tags (q.set i (ez (nth q i) t).1)⟩:=by
 have r:=Fo (nth q i) t hw
 by_cases c:(ez (nth q i) t).2=0
 · generalize ez (nth q i) t=z at*
   obtain⟨⟨t1,f1⟩,e1⟩:=z
   simp only at c
   subst c
   generalize hx:nth q i=x at*
   obtain⟨tx,fx⟩:=x
   simp only at*
   simp(disch:=omega)only[go_sem,K.cN,↓reduceIte,hx,r,sxH,List.length_set,reduceAdd,reduceSub]
 · have e:=aht _ _ c
   rw[e,xP q i hi]
   rw[e]at r
   generalize (ez (nth q i) t).2=z at*
   generalize hx:nth q i=x at*
   obtain⟨tx,fx⟩:=x
   simp only at*
   simp(disch:=omega)only[go_sem,K.cN,↓reduceIte,hx,r,c,sxH,reduceAdd,reduceSub]
theorem NI(m:aP)(ws out:List World)(x0 x1:T)(tags:List Int)(q:List Wh)(n i j:Nat)(t:Int)(k:Int)(hq:q.length≤1000000)(hi:j<q.length)(hw:(nth q j).frm.length≤1000000):
 dV true [0,1,5,8,9,11,13,14,15,16] 8 (exS aH K.cN ⟨sxI ws n i j t k 1,sxH m ws out x0 x1 tags q⟩)=some ⟨sxI ws n i j t k 2,sxH m ws out x0 x1 tags (q.set j (ez (nth q j) t).1)⟩:=by
 have r:=Fo (nth q j) t hw
 by_cases c:(ez (nth q j) t).2=0
 · generalize ez (nth q j) t=z at*
   obtain⟨⟨t1,f1⟩,e1⟩:=z
   simp only at c
   subst c
   generalize hx:nth q j=x at*
   obtain⟨tx,fx⟩:=x
   simp only at*
   simp(disch:=omega)only[go_sem,K.cN,↓reduceIte,hx,r,sxH,List.length_set,Int.reduceAdd,reduceAdd,reduceSub]
 · have e:=aht _ _ c
   rw[e,xP q j hi]
   rw[e]at r
   generalize (ez (nth q j) t).2=z at*
   generalize hx:nth q j=x at*
   obtain⟨tx,fx⟩:=x
   simp only at*
   simp(disch:=omega)only[go_sem,K.cN,↓reduceIte,hx,r,c,sxH,Int.reduceAdd,reduceAdd,reduceSub]
theorem Qn(m:aP)(ws out:List World)(x0 x1:T)(tags:List Int)(q:List Wh)(n i j:Nat)(hij:i≠j)(t:Int)(k:Int)(hq:q.length≤1000000)(hi:i<q.length)(hj:j<q.length)(hwi:(nth q i).frm.length≤1000000)(hwj:(nth q j).frm.length≤1000000)(z:D):
 exS aH K.ql ⟨[.und,.und,I i,I j,I t,.und,.bp 1 0,.bp 2 0,.und,.und,.ref 3 0 n,z,.bp 7 0,.und,.und,.und,.und,.t (.sl (ws.map World.e)),I ws.length,I k,.t (.agg [.int .i64 i,.int .i64 j]),I 0],sxH m ws out x0 x1 tags q⟩=
  some (.exit 3,⟨sxI ws n i j t k 2,sxH m ws out x0 x1 tags ((q.set i (ez (nth q i) t).1).set j (ez (nth q j) t).1)⟩):=by
 have n1:nth (q.set i (ez (nth q i) t).1) j=nth q j:=by rw[sO _ _ hi,if_neg (fun e=>hij e.symm)]
 have r1:=NH m ws out x0 x1 tags q n i j t k hq hi hwi
 have r2:=NI m ws out x0 x1 tags (q.set i (ez (nth q i) t).1) n i j t k (by rw[List.length_set];exact hq) (by rw[List.length_set];exact hj) (by rw[n1];exact hwj)
 rw[n1]at r2
 show nN true _ (exS aH K.cN) ⟨sxI ws n i j t k 0,sxH m ws out x0 x1 tags q⟩=_
 refine iZ r1 (iZ r2 (dq ?_ (by simp)))
 generalize (q.set i (ez (nth q i) t).1).set j (ez (nth q j) t).1=q2 at*
 simp(disch:=omega)only[go_sem,K.cN,↓reduceIte,sxH,reduceAdd,reduceSub]
theorem HB(m:aP)(ws:List World)(hw:ws.length≤100000)(i j:Nat)(hij:i≠j)(t:Int)(k:Nat)(hk:k<ws.length)(hs:(nth ws k).sz)
 (i1:i<(nth ws k).tags.length) (j1:j<(nth ws k).tags.length) (hl:(nth ws k).whr.length=(nth ws k).tags.length) (out:List World) (ho:out.length≤1000000):
 dV true [0,1,5,8,9,11,12,13,14,15,16,20,21] 4 (exS aH K.gY ⟨sxV ws out i j t k,exH m ws out⟩)=
  some ⟨sxV ws (wJ i j t (nth ws k) out) i j t (k+1),exH m ws (wJ i j t (nth ws k) out)⟩:=by
 have c1:=wS (nth ws k) hs
 have inn:=fun z=>Qn m ws out (tL (nth ws k).tags) (.sl ((nth ws k).whr.map Wh.e)) (((nth ws k).tags.set i (nth (nth ws k).tags j)).set j (nth (nth ws k).tags i)) (nth ws k).whr out.length i j hij t k (by have:=hs.2.1;omega) (by omega) (by omega) (hs.2.2 _ (af (by omega))) (hs.2.2 _ (af (by omega))) z
 simp only[sxI,sxH,List.length_set]at inn
 have mt:=Qm (nth (nth ws k).whr i) (nth (nth ws k).whr j) t (hs.2.2 _ (af (by omega))) (hs.2.2 _ (af (by omega)))
 unfold wJ tZ Hm
 have n1:∀w,nth ((nth ws k).whr.set i w) j=nth (nth ws k).whr j:=fun w=>by rw[sO _ _ (by omega),if_neg (fun e=>hij e.symm)]
 generalize hx:nth ws k=x at*
 obtain⟨tags,whr⟩:=x
 obtain⟨s1,s2,s3⟩:=hs
 simp only at*
 generalize hwi:nth whr i=wi at*
 generalize hwj:nth whr j=wj at*
 generalize ez wi t=ri at*
 obtain⟨⟨t1,f1⟩,e1⟩:=ri
 generalize ez wj t=rj at*
 obtain⟨⟨t2,f2⟩,e2⟩:=rj
 obtain⟨ti,fi⟩:=wi
 obtain⟨tj,fj⟩:=wj
 simp only at*
 cases hm:EL ⟨ti,fi⟩ ⟨tj,fj⟩ t with
 | true=>
   rw[hm]at mt
   simp(disch:=omega)only[go_sem,K.gY,↓reduceIte,exH,hx,hwi,hwj,n1,c1,mt,inn,List.length_set,reduceAdd,reduceSub]
   simp only[sxV,aLv,List.length_singleton]
 | false=>
   rw[hm]at mt
   simp(disch:=omega)only[go_sem,K.gY,↓reduceIte,exH,hx,hwi,hwj,n1,c1,mt,inn,List.length_set,aLt,reduceAdd,reduceSub]
theorem Qo{m:aP}(h:m.ok)(b:Bel)(hs:b.sz)(h9:b.aq.length≤9)(i j t:Int):
 aH 0 N.bM [.t m.e,.t b.e,I i,I j,I t] []=some (.tup [.t (jm m b i j t).1.e,I (jm m b i j t).2],[]):=by
 refine av K.nD rfl ?_
 have vb:=tQ h b hs
 unfold jm
 cases hb:oX m b with
 | false=>
   rw[hb]at vb
   obtain⟨ws⟩:=b
   obtain⟨aa,roads⟩:=m
   simp only[ae]at*
   simp(disch:=omega)only[go_sem,K.bM,↓reduceIte,vb,reduceAdd,reduceSub]
 | true=>
   rw[hb]at vb
   have bv:=AH (ws:=b.aq) hb
   obtain⟨w1,w2,f1,f2,w5⟩:=ft hb
   obtain⟨ws⟩:=b
   obtain⟨s1,s2⟩:=hs
   simp only at s1 s2 w1 w2 w5 f1 f2 vb bv h9 ⊢
   have g0:(ws.map World.e)[0]?=some (nth ws 0).e:=cI _ (by omega)
   have wl:∀k,k<ws.length→(nth ws k).tags.length=(nth ws 0).tags.length∧(nth ws k).whr.length=(nth ws 0).tags.length:=fun k hk=>by
    obtain⟨q1,q2, -⟩:=ik (w5 k hk)
    exact⟨q1,q2⟩
   have fl:1≤(nth ws 0).tags.length∧(nth ws 0).tags.length≤12:=⟨bv.f1,bv.f2⟩
   have in1:=yN i 0 (((nth ws 0).tags.length:Int)-1)
   have in2:=yN j 0 (((nth ws 0).tags.length:Int)-1)
   have in3:=yN t 0 2147483648
   rw[if_neg (by simp)]
   by_cases ci:i<0∨((nth ws 0).tags.length:Int)≤i
   · rw[if_pos (by omega)]
     rw[decide_eq_false (show ¬(0≤i∧i≤((nth ws 0).tags.length:Int)-1)by omega)]at in1
     generalize nth ws 0=x at*
     obtain⟨first,whr⟩:=x
     obtain⟨aa,roads⟩:=m
     simp only[ae]at*
     simp(disch:=omega)only[go_sem,K.bM,↓reduceIte,vb,g0,in1,reduceAdd,reduceSub]
   · rw[decide_eq_true (show 0≤i∧i≤((nth ws 0).tags.length:Int)-1 by omega)]at in1
     by_cases cj:j<0∨((nth ws 0).tags.length:Int)≤j
     · rw[if_pos (by omega)]
       rw[decide_eq_false (show ¬(0≤j∧j≤((nth ws 0).tags.length:Int)-1)by omega)]at in2
       generalize nth ws 0=x at*
       obtain⟨first,whr⟩:=x
       obtain⟨aa,roads⟩:=m
       simp only[ae]at*
       simp(disch:=omega)only[go_sem,K.bM,↓reduceIte,vb,g0,in1,in2,reduceAdd,reduceSub]
     · rw[decide_eq_true (show 0≤j∧j≤((nth ws 0).tags.length:Int)-1 by omega)]at in2
       by_cases c5:i=j
       · rw[if_pos (by omega)]
         generalize nth ws 0=x at*
         obtain⟨first,whr⟩:=x
         obtain⟨aa,roads⟩:=m
         simp only[ae]at*
         subst c5
         simp(disch:=omega)only[go_sem,K.bM,↓reduceIte,vb,g0,in1,in2,reduceAdd,reduceSub]
       · rw[if_neg (by omega)]
         by_cases ct:inT t
         · rw[if_neg (fun h=>h ct)]
           rw[decide_eq_true (show 0≤t∧t≤2147483648 from ct)]at in3
           obtain⟨i',rfl⟩:=Int.eq_ofNat_of_zero_le (show 0≤i by omega)
           obtain⟨j',rfl⟩:=Int.eq_ofNat_of_zero_le (show 0≤j by omega)
           simp only[Int.toNat_natCast]
           have ln:=qi i' j' t ws
           have loop:∀z0 z1 z5 z8 z9 z11 z12 z13 z14 z15 z16 z20 z21:D,exS aH K.qn ⟨[z0,z1,I i',I j',I t,z5,.bp 1 0,.bp 2 0,z8,z9,.ref 3 0 ws.length,z11,z12,z13,z14,z15,z16,.t (.sl (ws.map World.e)),I ws.length,I 0,z20,z21],exH m ws ws⟩=
            some (.exit 1,⟨sxV ws (gr i' j' t ws ws.length) i' j' t ws.length,exH m ws (gr i' j' t ws ws.length)⟩):=by
            intro z0 z1 z5 z8 z9 z11 z12 z13 z14 z15 z16 z20 z21
            refine dw (fun k=>⟨sxV ws (gr i' j' t ws k) i' j' t k,exH m ws (gr i' j' t ws k)⟩) ws.length rfl ?_ ?_ (by simp)
            · intro k hk
              obtain⟨q1,q2⟩:=wl k hk
              have:=ln k
              exact HB m ws (by omega) i' j' (by omega) t k hk (s2 _ (af hk)) (by omega) (by omega) (by omega) _ (by omega)
            · have:=ln ws.length
              generalize gr i' j' t ws ws.length=L at*
              simp(disch:=omega)only[go_sem,K.gY,↓reduceIte,exH,sxV,reduceAdd,reduceSub]
           have ln:=ln ws.length
           have wv:=tc h (fun x hx=>bv.wv x hx) (i:=i') (j:=j') (by omega) (by omega) t ws.length (aLs _)
           have ty:=Qh h bv.pr bv.f1 bv.f2 (gr i' j' t ws ws.length) wv (by omega) (by omega)
           have cl:=NG ws (by omega) (by omega)
           generalize gr i' j' t ws ws.length=L at*
           generalize qh L=Z at*
           simp only[exH,sxV]at loop
           generalize nth ws 0=x at*
           obtain⟨first,whr⟩:=x
           obtain⟨aa,roads⟩:=m
           simp only[ae]at*
           by_cases c6:24<Z.length
           · simp(disch:=omega)only[go_sem,K.bM,↓reduceIte,vb,g0,in1,in2,in3,c5,c6,loop,ty,cl,reduceAdd,reduceSub]
           · simp(disch:=omega)only[go_sem,K.bM,↓reduceIte,vb,g0,in1,in2,in3,c5,c6,loop,ty,cl,reduceAdd,reduceSub]
         · rw[if_pos ct]
           rw[decide_eq_false (show ¬(0≤t∧t≤2147483648)from ct)]at in3
           generalize nth ws 0=x at*
           obtain⟨first,whr⟩:=x
           obtain⟨aa,roads⟩:=m
           simp only[ae]at*
           simp(disch:=omega)only[go_sem,K.bM,↓reduceIte,vb,g0,in1,in2,in3,c5,reduceAdd,reduceSub]
theorem Qp(ws:List World)(tags:List Int)(whr:List Wh)(hl:whr.length≤1000000)(hz:∀w∈whr,w.frm.length≤1000000)(k:Int):
 exS aH K.wP ⟨[.und,.und,.bp 0 0,.bp 1 0,.und,I k,.bp 2 0,.bp 3 0,I 0],[.box [.t (.sl (ws.map World.e))],.box [.t (.sl (ws.map World.e))],.box [.t (tL tags),.t (.sl (whr.map Wh.e))],.box [.t (tL tags),.t (.sl (whr.map Wh.e))]]⟩=
  some (.exit 2,⟨[.und,.und,.bp 0 0,.bp 1 0,.und,I k,.bp 2 0,.bp 3 0,I whr.length],[.box [.t (.sl (ws.map World.e))],.box [.t (.sl (ws.map World.e))],.box [.t (tL tags),.t (.sl (whr.map Wh.e))],.box [.t (tL tags),.t (.sl (whr.map Wh.e))]]⟩):=by
 refine dw (fun j=>⟨[.und,.und,.bp 0 0,.bp 1 0,.und,I k,.bp 2 0,.bp 3 0,I j],[.box [.t (.sl (ws.map World.e))],.box [.t (.sl (ws.map World.e))],.box [.t (tL tags),.t (.sl (whr.map Wh.e))],.box [.t (tL tags),.t (.sl (whr.map Wh.e))]]⟩) whr.length rfl ?_ ?_ (by simp)
 · intro j hj
   have ex:(whr.map Wh.e)[j]?=some (nth whr j).e:=cI _ hj
   have sm:=Nd (nth whr j) (nth whr j) (hz _ (af hj))
   rw[decide_eq_true ⟨rfl,rfl⟩]at sm
   clear hz
   generalize nth whr j=x at*
   obtain⟨t,f⟩:=x
   simp(disch:=omega)only[go_sem,K.pJ,↓reduceIte,ex,sm,reduceAdd,reduceSub]
 · simp(disch:=omega)only[go_sem,K.pJ,↓reduceIte,reduceAdd,reduceSub]
theorem Qq(b:Bel)(hs:b.sz):aH 0 N.je [.t b.e,.t b.e] []=some (B true,[]):=by
 refine av K.s8 rfl ?_
 obtain⟨ws⟩:=b
 obtain⟨s1,s2⟩:=hs
 simp only at*
 have loop:∀z0 z1 z4 z6 z7 z8:D,exS aH K.wQ ⟨[z0,z1,.bp 0 0,.bp 1 0,z4,I 0,z6,z7,z8],[.box [.t (.sl (ws.map World.e))],.box [.t (.sl (ws.map World.e))]]⟩=
  some (.exit 0,⟨[.und,.und,.bp 0 0,.bp 1 0,.und,I ws.length,.und,.und,.und],[.box [.t (.sl (ws.map World.e))],.box [.t (.sl (ws.map World.e))]]⟩):=by
  intro z0 z1 z4 z6 z7 z8
  refine dw (fun j=>⟨[.und,.und,.bp 0 0,.bp 1 0,.und,I j,.und,.und,.und],[.box [.t (.sl (ws.map World.e))],.box [.t (.sl (ws.map World.e))]]⟩) ws.length rfl ?_ ?_ (by simp)
  · intro j hj
    have ex:(ws.map World.e)[j]?=some (nth ws j).e:=cI _ hj
    have z:=s2 _ (af hj)
    have sm:=xz (nth ws j).tags (nth ws j).tags (by have:=z.1;omega)
    rw[decide_eq_true rfl]at sm
    have inn:=Qp ws (nth ws j).tags (nth ws j).whr (by have:=z.2.1;omega) z.2.2 j
    clear s2 z
    generalize nth ws j=x at*
    obtain⟨tags,whr⟩:=x
    simp only at*
    simp(disch:=omega)only[go_sem,K.pK,↓reduceIte,ex,sm,inn,reduceAdd,reduceSub]
  · simp(disch:=omega)only[go_sem,K.pK,↓reduceIte,reduceAdd,reduceSub]
 simp(disch:=omega)only[go_sem,K.je,↓reduceIte,loop,reduceAdd,reduceSub]
theorem wV(b:Bel)(hs:b.sz)(e:Int):aH 0 N.fZ [.t b.e,.t b.e,I e,I e] []=some (B true,[]):=by
 refine av K.s7 rfl ?_
 have s:=Qq b hs
 obtain⟨ws⟩:=b
 simp(disch:=omega)only[go_sem,K.fZ,↓reduceIte,s,reduceAdd,reduceSub]
def rnN(m:aP)(t:Int)(l:List Wh):Nat→List Wh
 | 0=>l
 | j+1=>(rnN m t l j).set j (di m (nth l j) t).1
def rnE(m:aP)(t:Int)(l:List Wh)(e:Int):Nat→Int
 | 0=>e
 | j+1=>if rnE m t l e j=0 then(di m (nth l j) t).2 else rnE m t l e j
theorem Dl(m:aP)(t:Int)(l:List Wh):∀j,(rnN m t l j).length=l.length
 | 0=>rfl
 | j+1=>by simp only[rnN,List.length_set,Dl m t l j]
theorem R6(m:aP)(t:Int)(l:List Wh):∀j,j≤l.length→rnN m t l j=(l.take j).map (fun w=>(di m w t).1)++l.drop j
 | 0,_=>by simp[rnN]
 | j+1,h=>by
   rw[rnN,R6 m t l j (by omega),jR (by omega:j<l.length),List.map_append]
   have e:l.drop j=nth l j::l.drop (j+1):=by rw[List.drop_eq_getElem_cons (by omega),bP (aLc (by omega:j<l.length))]
   rw[e,List.set_append_right _ _ (by simp;omega)]
   simp
   rw[show j-min j l.length=0 by omega];rfl
theorem NJ(m:aP)(t:Int)(l:List Wh):rnN m t l l.length=l.map fun w=>(di m w t).1:=by
 rw[R6 m t l l.length (aLs _)];simp
def rnW(m:aP)(t:Int)(x:World):World:=⟨x.tags,x.whr.map fun w=>(di m w t).1⟩
def rnX(m:aP)(t:Int)(ws:List World)(e:Int):Nat→Int
 | 0=>e
 | j+1=>rnE m t (nth ws j).whr (rnX m t ws e j) (nth ws j).whr.length
abbrev rvV(ws:List World)(whr:List Wh)(n:Nat)(t e:Int)(i:Int)(j:Int):List D:=[.und,.und,I t,.bp 0 0,.bp 1 0,.bp 2 0,.und,.bp 3 0,I e,.und,.bp 8 0,.und,.und,.und,.und,.t (.sl (ws.map World.e)),I ws.length,I i,.t (.sl (whr.map Wh.e)),I n,I j]
abbrev rvH(m:aP)(ws out:List World)(x0 x1:T)(tags:List Int)(q:List Wh):ah:=[.box (ae m),.box [.t (.sl (ws.map World.e))],.box [.nil],.box [.ref 4 0 out.length],.arr 2 false 0 ((out.map World.e).map .t),.box [.t x0,.t x1],.arr 1 false 0 ((tags.map (T.int .i64)).map .t),.arr 2 false 0 ((q.map Wh.e).map .t),.box [.ref 6 0 tags.length,.ref 7 0 q.length]]
theorem NK{m:aP}(h:m.ok)(ws out:List World)(x0 x1:T)(tags:List Int)(whr q:List Wh)(hq:q.length=whr.length)(hl:whr.length≤1000000)(t e i:Int)(j:Nat)(hj:j<whr.length)(hz:(nth whr j).frm.length≤1000000):
 ((di m (nth whr j) t).2≠6→dV true [0,1,6,9,11,12,13,14] 9 (exS aH K.fD ⟨rvV ws whr whr.length t e i j,rvH m ws out x0 x1 tags q⟩)=
   some ⟨rvV ws whr whr.length t (if e=0 then(di m (nth whr j) t).2 else e) i (j+1),rvH m ws out x0 x1 tags (q.set j (di m (nth whr j) t).1)⟩)∧
 ((di m (nth whr j) t).2=6→∃vs H,exS aH K.fD ⟨rvV ws whr whr.length t e i j,rvH m ws out x0 x1 tags q⟩=some (.ret,⟨vs,H⟩)∧vs[5]?=some (.bp 2 0)∧vs[6]?=some (I 6)∧H[2]?=some (.box [.t (.sl (ws.map World.e))])):=by
 have g:=Nb h (nth whr j) t hz
 have ex:(whr.map Wh.e)[j]?=some (nth whr j).e:=cI _ hj
 generalize di m (nth whr j) t=r at*
 obtain⟨⟨t1,f1⟩,code⟩:=r
 generalize nth whr j=x at*
 obtain⟨tx,fx⟩:=x
 obtain⟨aa,roads⟩:=m
 simp only[ae,rvV,rvH]at*
 constructor
 · intro c6
   by_cases e0:e=0
   · subst e0
     simp(disch:=omega)only[go_sem,K.fD,↓reduceIte,g,ex,c6,List.length_set,reduceAdd,reduceSub]
   · simp(disch:=omega)only[go_sem,K.fD,↓reduceIte,g,ex,c6,e0,List.length_set,reduceAdd,reduceSub]
 · intro c6
   subst c6
   simp(disch:=omega)only[go_sem,K.fD,↓reduceIte,g,ex,reduceAdd,reduceSub]
   exact⟨_,_,rfl,rfl,rfl,rfl⟩
def rn6(m:aP)(t:Int)(l:List Wh)(j:Nat):Bool:=decide ((di m (nth l j) t).2=6)
theorem agk{m:aP}(h:m.ok)(ws out:List World)(x0 x1:T)(tags:List Int)(whr:List Wh)(hl:whr.length≤1000000)(hz:∀w∈whr,w.frm.length≤1000000)(t e i:Int)(z9 z11 z12 z13 z14 z6 z0 z1:D):
 ((List.range whr.length).find? (rn6 m t whr)=none∧exS aH K.pL ⟨[z0,z1,I t,.bp 0 0,.bp 1 0,.bp 2 0,z6,.bp 3 0,I e,z9,.bp 8 0,z11,z12,z13,z14,.t (.sl (ws.map World.e)),I ws.length,I i,.t (.sl (whr.map Wh.e)),I whr.length,I 0],rvH m ws out x0 x1 tags whr⟩=
   some (.exit 2,⟨rvV ws whr whr.length t (rnE m t whr e whr.length) i whr.length,rvH m ws out x0 x1 tags (whr.map fun w=>(di m w t).1)⟩))∨
 ∃j q,(List.range whr.length).find? (rn6 m t whr)=some j∧exS aH K.pL ⟨[z0,z1,I t,.bp 0 0,.bp 1 0,.bp 2 0,z6,.bp 3 0,I e,z9,.bp 8 0,z11,z12,z13,z14,.t (.sl (ws.map World.e)),I ws.length,I i,.t (.sl (whr.map Wh.e)),I whr.length,I 0],rvH m ws out x0 x1 tags whr⟩=some q∧
  q.1= .ret∧q.2.vs[5]?=some (.bp 2 0)∧q.2.vs[6]?=some (I 6)∧q.2.H[2]?=some (.box [.t (.sl (ws.map World.e))]):=by
 have ln:=Dl m t whr
 have lp:=kg (gc:=true) (dead:=[0,1,6,9,11,12,13,14]) (c:=K.fD)
  (vs:=[z0,z1,I t,.bp 0 0,.bp 1 0,.bp 2 0,z6,.bp 3 0,I e,z9,.bp 8 0,z11,z12,z13,z14,.t (.sl (ws.map World.e)),I ws.length,I i,.t (.sl (whr.map Wh.e)),I whr.length,I 0]) (H:=rvH m ws out x0 x1 tags whr)
  (fun j=>⟨rvV ws whr whr.length t (rnE m t whr e j) i j,rvH m ws out x0 x1 tags (rnN m t whr j)⟩) whr.length (rn6 m t whr)
  (fun _ q=>q.1= .ret∧q.2.vs[5]?=some (.bp 2 0)∧q.2.vs[6]?=some (I 6)∧q.2.H[2]?=some (.box [.t (.sl (ws.map World.e))]))
  (.exit 2,⟨rvV ws whr whr.length t (rnE m t whr e whr.length) i whr.length,rvH m ws out x0 x1 tags (rnN m t whr whr.length)⟩) rfl
  (fun j hj hq=>(NK h ws out x0 x1 tags whr _ (ln j) hl t _ i j hj (hz _ (af hj))).1 (by simpa [rn6]using hq))
  (fun j hj hq=>by
   obtain⟨vs,H,a,b⟩:=(NK h ws out x0 x1 tags whr _ (ln j) hl t (rnE m t whr e j) i j hj (hz _ (af hj))).2 (by simpa [rn6]using hq)
   exact⟨_,a,by simp,rfl,b⟩)
  (by
   have:=ln whr.length
   generalize rnN m t whr whr.length=L at*
   generalize rnE m t whr e whr.length=E at*
   simp(disch:=omega)only[go_sem,K.fD,↓reduceIte,rvV,rvH,reduceAdd,reduceSub]) (by simp)
 rw[NJ]at lp
 exact lp
def rx6(m:aP)(t:Int)(ws:List World)(i:Nat):Bool:=((List.range (nth ws i).whr.length).find? (rn6 m t (nth ws i).whr)).isSome
abbrev rwV(ws:List World)(t e:Int)(i:Int):List D:=[.und,.und,I t,.bp 0 0,.bp 1 0,.bp 2 0,.und,.bp 3 0,I e,.und,.und,.und,.und,.und,.und,.t (.sl (ws.map World.e)),I ws.length,I i,.und,.und,.und]
abbrev rwH(m:aP)(ws out:List World):ah:=[.box (ae m),.box [.t (.sl (ws.map World.e))],.box [.nil],.box [.ref 4 0 out.length],.arr 2 false 0 ((out.map World.e).map .t)]
theorem NL{m:aP}(h:m.ok)(ws out:List World)(hw:ws.length≤1000000)(ho:out.length≤1000000)(t e:Int)(i:Nat)(hi:i<ws.length)(hz:(nth ws i).sz):
 (rx6 m t ws i=false→dV true [0,1,6,9,10,11,12,13,14,18,19,20] 5 (exS aH K.gu ⟨rwV ws t e i,rwH m ws out⟩)=
  some ⟨rwV ws t (rnE m t (nth ws i).whr e (nth ws i).whr.length) (i+1),rwH m ws (out++[rnW m t (nth ws i)])⟩)∧
 (rx6 m t ws i=true→∃q,exS aH K.gu ⟨rwV ws t e i,rwH m ws out⟩=some q∧q.1= .ret∧q.2.vs[5]?=some (.bp 2 0)∧q.2.vs[6]?=some (I 6)∧q.2.H[2]?=some (.box [.t (.sl (ws.map World.e))])):=by
 have ex:(ws.map World.e)[i]?=some (nth ws i).e:=cI _ hi
 have cw:=wS (nth ws i) hz
 obtain⟨z1,z2,z3⟩:=hz
 have inn:=agk h ws out (tL (nth ws i).tags) (.sl ((nth ws i).whr.map Wh.e)) (nth ws i).tags (nth ws i).whr z2 z3 t e i (.bp 5 0) .und .und .und .und .und .und .und
 unfold rx6
 constructor
 · intro hf
   rcases inn with⟨e1,e2⟩ | ⟨j,q,e1, -⟩
   · clear hf e1
     unfold rnW
     have ln:(((nth ws i).whr.map fun w=>(di m w t).1)).length=(nth ws i).whr.length:=by simp
     generalize (nth ws i).whr.map (fun w=>(di m w t).1)=r at*
     generalize rnE m t (nth ws i).whr e (nth ws i).whr.length=e' at*
     generalize nth ws i=x at*
     obtain⟨tags,whr⟩:=x
     obtain⟨aa,roads⟩:=m
     simp only[ae,rwV,rwH,rvV,rvH]at*
     simp(disch:=omega)only[go_sem,K.gu,↓reduceIte,ex,cw,e2,ln,reduceAdd,reduceSub]
   · rw[e1]at hf;simp at hf
 · intro hf
   rcases inn with⟨e1,e2⟩ | ⟨j,⟨x,vs,H⟩,e1,e2,e3,e4,e5,e6⟩
   · rw[e1]at hf;simp at hf
   · clear hf e1
     simp only at e3 e4 e5 e6
     subst e3
     generalize nth ws i=x at*
     obtain⟨tags,whr⟩:=x
     obtain⟨aa,roads⟩:=m
     simp only[ae,rwV,rwH,rvV,rvH]at*
     simp(disch:=omega)only[go_sem,K.gu,↓reduceIte,ex,cw,e2,reduceAdd,reduceSub]
     exact⟨_,rfl,rfl,e4,e5,e6⟩
def mQ(m:aP)(b:Bel)(t:Int):Bel×Int:=
 if b.aq.length<1∨24<b.aq.length then(b,6)else match (List.range b.aq.length).find? (rx6 m t b.aq)with
  | some _=>(b,6)
  | none=>if rnX m t b.aq 0 b.aq.length≠0 then(b,rnX m t b.aq 0 b.aq.length)else(⟨b.aq.map (rnW m t)⟩,0)
def Ow(m:aP)(t:Int)(ws:List World):Nat→List World
 | 0=>[]
 | j+1=>Ow m t ws j++[rnW m t (nth ws j)]
theorem HC(m:aP)(t:Int)(ws:List World):∀j,j≤ws.length→Ow m t ws j=(ws.take j).map (rnW m t)
 | 0,_=>rfl
 | j+1,h=>by rw[Ow,HC m t ws j (by omega),jR (by omega),List.map_append];rfl
theorem NM{m:aP}(h:m.ok)(b:Bel)(hs:b.sz)(t:Int):
 aH 0 N.eU [.t m.e,.t b.e,I t] []=some (.tup [.t (mQ m b t).1.e,I (mQ m b t).2],[]):=by
 refine av K.rG rfl ?_
 have va:=mY h
 have li:=yN (b.aq.length:Int) 1 24
 obtain⟨ws⟩:=b
 obtain⟨s1,s2⟩:=hs
 unfold mQ
 simp only at s1 s2 li ⊢
 by_cases c:ws.length<1∨24<ws.length
 · rw[decide_eq_false (by omega)]at li
   rw[if_pos c]
   obtain⟨aa,roads⟩:=m
   simp only[ae]at*
   simp(disch:=omega)only[go_sem,K.eU,↓reduceIte,va,li,reduceAdd,reduceSub]
 · rw[decide_eq_true (by omega)]at li
   rw[if_neg c]
   have ln:∀j,j≤ws.length→(Ow m t ws j).length=j:=fun j hj=>by rw[HC m t ws j hj];simp;omega
   have lp:=fun z0 z1 z6 z9 z10 z11 z12 z13 z14 z18 z19 z20=>kg (gc:=true) (dead:=[0,1,6,9,10,11,12,13,14,18,19,20]) (c:=K.gu)
    (vs:=[z0,z1,I t,.bp 0 0,.bp 1 0,.bp 2 0,z6,.bp 3 0,I 0,z9,z10,z11,z12,z13,z14,.t (.sl (ws.map World.e)),I ws.length,I 0,z18,z19,z20]) (H:=rwH m ws [])
    (fun i=>⟨rwV ws t (rnX m t ws 0 i) i,rwH m ws (Ow m t ws i)⟩) ws.length (rx6 m t ws)
    (fun _ q=>q.1= .ret∧q.2.vs[5]?=some (.bp 2 0)∧q.2.vs[6]?=some (I 6)∧q.2.H[2]?=some (.box [.t (.sl (ws.map World.e))]))
    (.exit 0,⟨rwV ws t (rnX m t ws 0 ws.length) ws.length,rwH m ws (Ow m t ws ws.length)⟩) rfl
    (fun j hj hq=>(NL h ws _ s1 (by rw[ln j (by omega)];omega) t (rnX m t ws 0 j) j hj (s2 _ (af hj))).1 hq)
    (fun j hj hq=>by
     obtain⟨q,a,b,c⟩:=(NL h ws (Ow m t ws j) s1 (by rw[ln j (by omega)];omega) t (rnX m t ws 0 j) j hj (s2 _ (af hj))).2 hq
     exact⟨q,a,by rw[b];simp,b,c⟩)
    (by
     have:=ln ws.length (aLs _)
     generalize Ow m t ws ws.length=L at*
     generalize rnX m t ws 0 ws.length=E at*
     simp(disch:=omega)only[go_sem,K.gu,↓reduceIte,rwV,rwH,reduceAdd,reduceSub]) (by simp)
   have lp':∀z0 z1 z6 z9 z10 z11 z12 z13 z14 z18 z19 z20,_∨_:=lp
   clear lp
   rcases lp' .und .und .und .und .und .und .und .und .und .und .und .und with⟨e1, -⟩ | ⟨j, -,e1, -⟩
   · rw[e1]
     have e2:∀z0 z1 z6 z9 z10 z11 z12 z13 z14 z18 z19 z20:D,exS aH K.pM ⟨[z0,z1,I t,.bp 0 0,.bp 1 0,.bp 2 0,z6,.bp 3 0,I 0,z9,z10,z11,z12,z13,z14,.t (.sl (ws.map World.e)),I ws.length,I 0,z18,z19,z20],rwH m ws []⟩=some (.exit 0,⟨rwV ws t (rnX m t ws 0 ws.length) ws.length,rwH m ws (Ow m t ws ws.length)⟩):=fun z0 z1 z6 z9 z10 z11 z12 z13 z14 z18 z19 z20=>by
      rcases lp' z0 z1 z6 z9 z10 z11 z12 z13 z14 z18 z19 z20 with⟨-,e⟩ | ⟨j,q,e3, -⟩
      · exact e
      · rw[e1]at e3;cases e3
     have l2:=ln ws.length (aLs _)
     have rw_:=HC m t ws ws.length (aLs _)
     rw[List.take_length]at rw_
     rw[← rw_]
     clear lp' e1 rw_
     generalize Ow m t ws ws.length=L at*
     generalize rnX m t ws 0 ws.length=E at*
     obtain⟨aa,roads⟩:=m
     simp only[ae,rwV,rwH,List.map_nil,List.length_nil]at*
     by_cases c0:E=0
     · subst c0
       simp(disch:=omega)only[go_sem,K.eU,↓reduceIte,va,li,e2,reduceAdd,reduceSub]
     · simp(disch:=omega)only[go_sem,K.eU,↓reduceIte,va,li,e2,c0,ne_eq,not_false_eq_true,reduceAdd,reduceSub]
   · rw[e1]
     obtain⟨q,e2,e3,e4,e5,e6⟩:∃q,exS aH K.pM ⟨[.t m.e,.t (Bel.e ⟨ws⟩),I t,.bp 0 0,.bp 1 0,.bp 2 0,I 0,.bp 3 0,I 0,.und,.und,.und,.und,.und,.und,.t (.sl (ws.map World.e)),I ws.length,I 0,.und,.und,.und],rwH m ws []⟩=some q∧q.1= .ret∧q.2.vs[5]?=some (.bp 2 0)∧q.2.vs[6]?=some (I 6)∧q.2.H[2]?=some (.box [.t (.sl (ws.map World.e))]):=by
      rcases lp' (.t m.e) (.t (Bel.e ⟨ws⟩)) (I 0) .und .und .und .und .und .und .und .und .und with⟨e, -⟩ | ⟨j2,q, -,e3,e4⟩
      · rw[e1]at e;cases e
      · exact⟨q,e3,e4⟩
     clear lp' e1
     obtain⟨x,vs,H⟩:=q
     simp only at e3 e4 e5 e6
     subst e3
     obtain⟨aa,roads⟩:=m
     simp only[ae,rwV,rwH,List.map_nil,List.length_nil]at*
     simp(disch:=omega)only[go_sem,K.eU,↓reduceIte,va,li,e2,e4,e5,e6,reduceAdd,reduceSub]
end Go.Ev
namespace Go.Ev
open Go
variable [Lib] [cz] [bZ] [gU] [gJ]
def Qr(l:List Int)(t:Int):Nat→List Int
 | 0=>l
 | p+1=>if t<nth (Qr l t p) p then(Qr l t p).set p never else Qr l t p
def Qs(m:aP)(w:Wh)(t:Int):Wh:=⟨t,cL m t none (Qr w.frm t w.frm.length)⟩
theorem FB{H H':ah}:∀(k:Nat) (d:D),(∀i∈fm H k d,∃sz pin pin' ep es,H[i]?=some (.arr sz pin ep es)∧H'[i]?=some (.arr sz pin' ep es))→frz H' k d=frz H k d∧fm H' k d=fm H k d:=by
 intro k
 induction k with
 | zero=>intro d _;cases d<;>exact⟨rfl,rfl⟩
 | succ k ih=>
   intro d h
   have list:∀es:List D,(∀i∈es.flatMap (fm H k),∃sz pin pin' ep es,H[i]?=some (.arr sz pin ep es)∧H'[i]?=some (.arr sz pin' ep es))→bf (frz H' k) es=bf (frz H k) es∧es.flatMap (fm H' k)=es.flatMap (fm H k):=by
    intro es
    induction es with
    | nil=>intro _;exact⟨rfl,rfl⟩
    | cons e es ihl=>
      intro he
      obtain⟨a1,a2⟩:=ih e fun i hi=>he i (by simp[hi])
      obtain⟨b1,b2⟩:=ihl fun i hi=>he i (by rw[List.flatMap_cons];exact List.mem_append_right _ hi)
      exact⟨by simp only[bf,a1,b1],by simp only[List.flatMap_cons,a2,b2]⟩
   cases d with
   | agg cs=>
     simp only[fm]at h
     obtain⟨a1,a2⟩:=list cs h
     exact⟨by simp only[frz,a1],by simp only[fm,a2]⟩
   | ref id ep n=>
     obtain⟨sz,pin,pin',ep',es,e1,e2⟩:=h id (by simp[fm])
     have:∀i∈es.flatMap (fm H k),∃sz pin pin' ep es,H[i]?=some (.arr sz pin ep es)∧H'[i]?=some (.arr sz pin' ep es):=fun i hi=>h i (by simp only[fm,e1];exact List.mem_cons_of_mem _ hi)
     obtain⟨a1,a2⟩:=list es this
     refine⟨?_,by simp only[fm,e1,e2,a2]⟩
     simp only[frz,eY,e1,e2]
     by_cases c:ep=ep'∧n=es.length
     · simp only[if_pos c,aLq,a1]
     · simp only[if_neg c,Option.bind_none]
   | sub id ep n lo hi=>
     obtain⟨sz,pin,pin',ep',es,e1,e2⟩:=h id (by simp[fm])
     have:∀i∈es.flatMap (fm H k),∃sz pin pin' ep es,H[i]?=some (.arr sz pin ep es)∧H'[i]?=some (.arr sz pin' ep es):=fun i hi=>h i (by simp only[fm,e1];exact List.mem_cons_of_mem _ hi)
     obtain⟨a1,a2⟩:=list es this
     have:∀i∈((es.drop lo).take (hi-lo)).flatMap (fm H k),∃sz pin pin' ep es,H[i]?=some (.arr sz pin ep es)∧H'[i]?=some (.arr sz pin' ep es):=fun i hi=>by
      obtain⟨e,he,hi⟩:=List.mem_flatMap.1 hi
      exact this i (List.mem_flatMap.2 ⟨e,List.mem_of_mem_drop (List.mem_of_mem_take he),hi⟩)
     obtain⟨b1,b2⟩:=list _ this
     refine⟨?_,by simp only[fm,e1,e2,a2]⟩
     simp only[frz,eY,e1,e2]
     by_cases c:ep=ep'∧n=es.length
     · simp only[if_pos c,aLq,b1]
     · simp only[if_neg c,Option.bind_none]
   | _=>exact⟨rfl,rfl⟩
theorem Cm{α β:Type}{f g:α→List β}:∀ {l:List α},(∀x∈l,f x=g x)→l.flatMap f=l.flatMap g
 | [],_=>rfl
 | a::l,h=>by rw[List.flatMap_cons,List.flatMap_cons,h a List.mem_cons_self,Cm fun x hx=>h x (List.mem_cons_of_mem _ hx)]
theorem Rp.aie{H:ah}{id:Nat}{es:List D}{fa fb:Nat→Nat}{out:List World}(hr:Rp H id es fa fb out)(k:Nat):
 Go.Ev.frz H (k+4) (.ref id 0 out.length)=some (.sl (out.map World.e))∧fm H (k+4) (.ref id 0 out.length)=id::(List.range out.length).flatMap (fun j=>[fa j,fb j]):=by
 have hl:=hr.len
 have key:∀(j:Nat) (hj:j<out.length),Go.Ev.frz H (k+3) (.agg [.ref (fa j) 0 (nth out j).tags.length,.ref (fb j) 0 (nth out j).whr.length])=some (nth out j).e∧
  fm H (k+3) (.agg [.ref (fa j) 0 (nth out j).tags.length,.ref (fb j) 0 (nth out j).whr.length])=[fa j,fb j]:=by
  intro j hj
  have h1:=hr.ha j hj
  have h2:=hr.hb j hj
  simp(disch:=omega)only[go_sem,h1,h2,ints,whs,↓reduceIte]
 have hes:es=(List.range out.length).map (fun j=>D.agg [.ref (fa j) 0 (nth out j).tags.length,.ref (fb j) 0 (nth out j).whr.length]):=by
  refine List.ext_getElem? fun j=>?_
  by_cases c:j<out.length
  · rw[hr.el j c,aLn,aLp c];rfl
  · rw[aLm (by omega),aLm (by simp;omega)]
 have hout:out.map World.e=(List.range out.length).map (fun j=>(nth out j).e):=by
  refine List.ext_getElem? fun j=>?_
  by_cases c:j<out.length
  · rw[cI _ c,aLn,aLp c];rfl
  · rw[aLm (by simp;omega),aLm (by simp;omega)]
 constructor
 · simp only[Go.Ev.frz,eY,hr.arr]
   rw[if_pos (by simp[hl]),aLq,hes,hout]
   rw[j7 (h:=fun j=>(nth out j).e) fun j hj=>(key j (aLu.1 hj)).1];rfl
 · simp only[fm,hr.arr,hes,List.flatMap_map]
   congr 1
   refine Cm fun j hj=>(key j (aLu.1 hj)).2
section
variable {bm : aP} (hm : bm.ok) {t : Int} (i : Nat) {H : ah} {io iB iO n a fbi tl : Nat} {es : List D} {whr : List Wh} (e1 : H[iO]? = some (.box [.ref io 0 n])) (e2 : H[io]? = some (.arr 2 false 0 es)) (e3 : es.length = n)
 (e4:es[i]?=some (.agg [.ref a 0 tl,.ref fbi 0 whr.length])) (e5:H[fbi]?=some (.arr 2 false 0 (whs whr))) (e6:H[iB]?=some (.box (ae bm))) (hi:i<n) (hn:n≤1000000) (hl:whr.length≤1000000)
include hm e1 e2 e3 e4 e5 e6 hi hn hl
end
theorem Rp.app{H:ah}{id:Nat}{es:List D}{fa fb:Nat→Nat}{out:List World}(hr:Rp H id es fa fb out)(t:ah):Rp (H++t) id es fa fb out:=
 ⟨by rw[gn (jB hr.arr)];exact hr.arr,hr.len,hr.el,fun j hj=>by rw[gn (jB (hr.ha j hj))];exact hr.ha j hj,fun j hj=>by rw[gn (jB (hr.hb j hj))];exact hr.hb j hj,hr.na,hr.nb,hr.nab,hr.nbb⟩
structure SlH(H:ah)(b:List World)(bm:aP)(iB iO io:Nat)(es:List D)(fa fb:Nat→Nat)(A:List Nat)(O:List World):Prop where
 h1:H[1]?=some (.box [.ref 3 0 b.length])
 h2:H[2]?=some (.box [.nil])
 hB:H[iB]?=some (.box (ae bm))
 hO:H[iO]?=some (.box [.ref io 0 O.length])
 rp:Rp H io es fa fb O
 ar:∀i∈A,∃sz pin ep es,H[i]?=some (.arr sz pin ep es)
 nA:∀i∈A,∀j,j<O.length→i≠fb j
 eA:fm H 7 (.ref 3 0 b.length)=A
 fr:frz H 7 (.ref 3 0 b.length)=some (.sl (b.map World.e))
theorem SlH.step{H:ah}{b:List World}{bm:aP}{iB iO io:Nat}{es:List D}{fa fb:Nat→Nat}{A:List Nat}{O:List World}(h:SlH H b bm iB iO io es fa fb A O){i:Nat}(hi:i<O.length)(x:World)(ht:(nth O i).tags=x.tags)
 (hw:x.whr.length=(nth O i).whr.length) (o:Obj):SlH (H.set (fb i) (.arr 2 false 0 (whs x.whr))++[o]) b bm iB iO io es fa fb A (O.set i x):=by
 have hb:=h.rp.hb i hi
 have nb:∀ {k:Nat} {cs:List D},H[k]?=some (.box cs)→(H.set (fb i) (.arr 2 false 0 (whs x.whr))++[o])[k]?=some (.box cs):=fun{k cs} hk=>by
  have ne:fb i≠k:=fun e=>by rw[e,hk]at hb;cases hb
  rw[gn (by rw[List.length_set];exact jB hk),bF ne];exact hk
 have na:∀k∈A,(H.set (fb i) (.arr 2 false 0 (whs x.whr))++[o])[k]?=H[k]?:=fun k hk=>by
  obtain⟨sz,pin,ep,es',e⟩:=h.ar k hk
  rw[gn (by rw[List.length_set];exact jB e),bF (fun e=>h.nA k hk i hi e.symm)]
 have fc:=FB (H:=H) (H':=H.set (fb i) (.arr 2 false 0 (whs x.whr))++[o]) 7 (.ref 3 0 b.length) (fun k hk=>by
  rw[h.eA]at hk
  obtain⟨sz,pin,ep,es',e⟩:=h.ar k hk
  exact⟨sz,pin,pin,ep,es',e,by rw[na k hk];exact e⟩)
 refine⟨nb h.h1,nb h.h2,nb h.hB,by rw[List.length_set];exact nb h.hO,(h.rp.merge hi x ht hw).app _,fun k hk=>?_,by rw[List.length_set];exact h.nA,by rw[fc.2];exact h.eA,by rw[fc.1];exact h.fr⟩
 obtain⟨sz,pin,ep,es',e⟩:=h.ar k hk
 exact⟨sz,pin,ep,es',by rw[na k hk];exact e⟩
def SlE(b:List World)(H:ah):Prop:=H[2]?=some (.box [.ref 3 0 b.length])∧frz H 7 (.ref 3 0 b.length)=some (.sl (b.map World.e))
theorem SlH.late{H:ah}{b:List World}{bm:aP}{iB iO io:Nat}{es:List D}{fa fb:Nat→Nat}{A:List Nat}{O:List World}(h:SlH H b bm iB iO io es fa fb A O)(o:Obj):SlE b (H.set 2 (.box [.ref 3 0 b.length])++[o]):=by
 have l2:=jB h.h2
 have fc:=FB (H:=H) (H':=H.set 2 (.box [.ref 3 0 b.length])++[o]) 7 (.ref 3 0 b.length) (fun k hk=>by
  rw[h.eA]at hk
  obtain⟨sz,pin,ep,es',e⟩:=h.ar k hk
  have ne:2≠k:=fun e2=>by rw[← e2,h.h2]at e;cases e
  exact⟨sz,pin,pin,ep,es',e,by rw[gn (by rw[List.length_set];exact jB e),bF ne];exact e⟩)
 exact⟨by rw[gn (by rw[List.length_set];exact l2),eo l2],by rw[fc.1];exact h.fr⟩
end Go.Ev
namespace Go.Ev
open Go
variable [Lib] [cz] [bZ] [gU] [gJ]
theorem Je(H:ah)(ws:List World)(n:Nat):pW H (.agg [.ref 0 0 n],cpH 0 ws)=some (.agg [.ref H.length 0 n],H++cpH H.length ws):=by
 have e:pW H (.agg [.ref 0 0 n],cpH 0 ws)=(ren (bO [] H.length) depth (.agg [.ref 0 0 n])).bind fun r'=>(bf (b7 (bO [] H.length)) (cpH 0 ws)).map fun os=>(r',H++os):=by
  unfold pW
  rw[if_neg (by simp[cpH])]
 rw[e,RE]
 simp[ren,depth,bf,bO]
theorem Jf(H H1:ah)(ws:List World)(n:Nat):rT H H1 [] (.agg [.ref 0 0 n],cpH 0 ws)=some (.agg [.ref H.length 0 n],H1++cpH H.length ws):=by
 have e:rT H H1 [] (.agg [.ref 0 0 n],cpH 0 ws)=A8 H1 H.length [] (.agg [.ref 0 0 n],cpH 0 ws):=by
  unfold rT
  rw[if_neg (by simp[cpH])]
 have e2:ren (bO [] H.length) 8 (.agg [.ref 0 0 n])=some (.agg [.ref H.length 0 n]):=by simp[ren,bf,bO]
 rw[e,CM,e2,aLq]
 unfold Pj
 rw[RE]
 simp[LV,du]
def C.snd:C→C
 | .seq _ b=>b
 | c=>c
theorem Vy{a b t:ah}:(a++b++t)[a.length+b.length]?=t[0]?:=by
 rw[aLh (by simp)];simp
def rpA(fa fb:Nat→Nat)(n:Nat):List Nat:=(List.range n).flatMap (fun j=>[fa j,fb j])
theorem Rp.in6{H:ah}{id:Nat}{es:List D}{fa fb:Nat→Nat}{out:List World}(hr:Rp H id es fa fb out):bf (Go.Ev.frz H 6) es=some (out.map World.e)∧qH H 6 es=rpA fa fb out.length:=by
 obtain⟨h1,h2⟩:=hr.aie 3
 constructor
 · simp only[Go.Ev.frz,eY,hr.arr]at h1
   rw[if_pos (by simp[hr.len]),aLq]at h1
   obtain⟨x,hx,he⟩:=aLb.1 h1
   cases he
   exact hx
 · simp only[fm,hr.arr]at h2
   exact(List.cons.inj h2).2
theorem AN(s:Nat)(ws:List World):(cpH s ws).length=2*ws.length+1:=by simp[cpH]
theorem Jg{X:ah}{s:Nat}(hs:X.length=s)(ws:List World)(t:ah){k:Nat}(hk:k<2*ws.length):(X++cpH s ws++t)[s+k+1]?=some (C1 ws k):=by
 subst hs
 rw[List.append_assoc,aLh (by omega),show X.length+k+1-X.length=k+1 by omega,aLg (by rw[AN];omega)]
 unfold cpH
 rw[List.getElem?_cons_succ,aLn,aLp hk];rfl
theorem agl{X:ah}{s:Nat}(hs:X.length=s)(ws:List World)(t:ah):Rp (X++cpH s ws++t) s ((List.range ws.length).map (PC s ws)) (fun j=>s+2*j+1) (fun j=>s+2*j+2) ws where
 arr:=by
  subst hs
  rw[List.append_assoc,aLh (aLs _),Nat.sub_self];rfl
 len:=by simp
 el:=fun j hj=>by rw[aLn,aLp hj];rfl
 ha:=fun j hj=>by
  have:=Jg hs ws t (k:=2*j) (by omega)
  rw[this]
  unfold C1
  rw[if_pos (by omega),show 2*j / 2=j by omega]
 hb:=fun j hj=>by
  have:=Jg hs ws t (k:=2*j+1) (by omega)
  rw[show s+2*j+2=s+(2*j+1)+1 by omega,this]
  unfold C1
  rw[if_neg (by omega),show(2*j+1) / 2=j by omega]
 na:=fun j _=>by omega
 nb:=fun j _=>by omega
 nab:=fun i j _ _=>by omega
 nbb:=fun i j _ _ h=>by omega
end Go.Ev
namespace Go.Ev
open Go
variable [Lib] [cz] [bZ] [gU] [gJ] [kG] [gV] [gW] [jC] [gX] [fT] [eR] [iU] [fE]
theorem zx(m:aP)(t:Int)(w:Wh):(kU w m.aa.length=false↔(di m w t).2=6)∧((di m w t).2=0∨(di m w t).2=6∨(di m w t).2=8):=by
 unfold di
 cases h:kU w m.aa.length with
 | false=>simp
 | true=>
   simp only[Bool.true_eq_false,if_false,false_iff]
   split<;>simp
abbrev rrH(m:aP)(ws:List World):ah:=[.box (ae m),.box [.t (.sl (ws.map World.e))],.box [.nil]]
abbrev rrV(t:Int)(i j:D):List D:=[.und,.und,I t,.bp 0 0,.bp 1 0,.bp 2 0,.und,i,j,.und,.und,.und,.und,.und]
theorem aaZ(m:aP)(ws:List World)(i:Nat)(hi:i<ws.length)(hz:(nth ws i).sz)(t:Int)(z0 z1 z6 z9 z10 z11 z12 z13:D):
 ((List.range (nth ws i).whr.length).find? (rn6 m t (nth ws i).whr)=none∧exS aH K.pN ⟨[z0,z1,I t,.bp 0 0,.bp 1 0,.bp 2 0,z6,I i,I 0,z9,z10,z11,z12,z13],rrH m ws⟩=
   some (.exit 2,⟨rrV t (I i) (I (nth ws i).whr.length),rrH m ws⟩))∨
 ∃j q,(List.range (nth ws i).whr.length).find? (rn6 m t (nth ws i).whr)=some j∧exS aH K.pN ⟨[z0,z1,I t,.bp 0 0,.bp 1 0,.bp 2 0,z6,I i,I 0,z9,z10,z11,z12,z13],rrH m ws⟩=some q∧
  q.1= .ret∧q.2.vs[5]?=some (.bp 2 0)∧q.2.vs[6]?=some (I 6)∧q.2.H[2]?=some (.box [.t (.sl (ws.map World.e))]):=by
 have ex:(ws.map World.e)[i]?=some (nth ws i).e:=cI _ hi
 obtain⟨y1,y2,y3⟩:=hz
 refine kg (gc:=false) (dead:=[0,1,6,9,10,11,12,13]) (c:=K.jJ) (vs:=[z0,z1,I t,.bp 0 0,.bp 1 0,.bp 2 0,z6,I i,I 0,z9,z10,z11,z12,z13]) (H:=rrH m ws)
  (fun j=>⟨rrV t (I i) (I j),rrH m ws⟩) (nth ws i).whr.length (rn6 m t (nth ws i).whr) (fun _ q=>q.1= .ret∧q.2.vs[5]?=some (.bp 2 0)∧q.2.vs[6]?=some (I 6)∧q.2.H[2]?=some (.box [.t (.sl (ws.map World.e))])) (.exit 2,⟨rrV t (I i) (I (nth ws i).whr.length),rrH m ws⟩) rfl ?_ ?_ ?_ (by simp)
 · intro j hj hq
   have pl:=zh (nth (nth ws i).whr j) m.aa.length (by have:=y3 _ (af hj);omega)
   have ew:((nth ws i).whr.map Wh.e)[j]?=some (nth (nth ws i).whr j).e:=cI _ hj
   have c:kU (nth (nth ws i).whr j) m.aa.length=true:=by
    cases h:kU (nth (nth ws i).whr j) m.aa.length with
    | true=>rfl
    | false=>rw[(zx m t _).1]at h;simp[rn6,h]at hq
   rw[c]at pl
   clear hq c y3
   generalize nth (nth ws i).whr j=w at*
   generalize nth ws i=x at*
   obtain⟨tags,whr⟩:=x
   obtain⟨tw,fw⟩:=w
   obtain⟨aa,roads⟩:=m
   simp only[rrV,rrH,ae]at*
   simp(disch:=omega)only[go_sem,K.jJ,↓reduceIte,ex,ew,pl,reduceAdd,reduceSub]
 · intro j hj hq
   have pl:=zh (nth (nth ws i).whr j) m.aa.length (by have:=y3 _ (af hj);omega)
   have ew:((nth ws i).whr.map Wh.e)[j]?=some (nth (nth ws i).whr j).e:=cI _ hj
   have c:kU (nth (nth ws i).whr j) m.aa.length=false:=(zx m t _).1.2 (by simpa [rn6]using hq)
   rw[c]at pl
   clear hq c y3
   generalize nth (nth ws i).whr j=w at*
   generalize nth ws i=x at*
   obtain⟨tags,whr⟩:=x
   obtain⟨tw,fw⟩:=w
   obtain⟨aa,roads⟩:=m
   simp only[rrV,rrH,ae]at*
   simp(disch:=omega)only[go_sem,K.jJ,↓reduceIte,ex,ew,pl,aLt,reduceAdd,reduceSub]
   exact⟨_,rfl,by simp,rfl,rfl,rfl,rfl⟩
 · generalize nth ws i=x at*
   obtain⟨tags,whr⟩:=x
   simp only[rrV,rrH,ae]at*
   simp(disch:=omega)only[go_sem,K.jJ,↓reduceIte,ex,reduceAdd,reduceSub]
theorem aa0(m:aP)(ws:List World)(s1:ws.length≤1000000)(s2:∀x∈ws,x.sz)(t:Int)(z0 z1 z6 z8 z9 z10 z11 z12 z13:D):
 ((List.range ws.length).find? (rx6 m t ws)=none∧exS aH K.pO ⟨[z0,z1,I t,.bp 0 0,.bp 1 0,.bp 2 0,z6,I 0,z8,z9,z10,z11,z12,z13],rrH m ws⟩=
   some (.exit 0,⟨rrV t (I ws.length) .und,rrH m ws⟩))∨
 ∃j q,(List.range ws.length).find? (rx6 m t ws)=some j∧exS aH K.pO ⟨[z0,z1,I t,.bp 0 0,.bp 1 0,.bp 2 0,z6,I 0,z8,z9,z10,z11,z12,z13],rrH m ws⟩=some q∧
  q.1= .ret∧q.2.vs[5]?=some (.bp 2 0)∧q.2.vs[6]?=some (I 6)∧q.2.H[2]?=some (.box [.t (.sl (ws.map World.e))]):=by
 refine kg (gc:=false) (dead:=[0,1,6,8,9,10,11,12,13]) (c:=K.jK) (vs:=[z0,z1,I t,.bp 0 0,.bp 1 0,.bp 2 0,z6,I 0,z8,z9,z10,z11,z12,z13]) (H:=rrH m ws)
  (fun j=>⟨rrV t (I j) .und,rrH m ws⟩) ws.length (rx6 m t ws) (fun _ q=>q.1= .ret∧q.2.vs[5]?=some (.bp 2 0)∧q.2.vs[6]?=some (I 6)∧q.2.H[2]?=some (.box [.t (.sl (ws.map World.e))])) (.exit 0,⟨rrV t (I ws.length) .und,rrH m ws⟩) rfl ?_ ?_ ?_ (by simp)
 · intro j hj hq
   have inn:=fun z0 z1 z6 z9 z10 z11 z12 z13=>aaZ m ws j hj (s2 _ (af hj)) t z0 z1 z6 z9 z10 z11 z12 z13
   rcases inn .und .und .und .und .und .und .und .und with⟨e1,e2⟩ | ⟨k,q,e1, -⟩
   · simp only[rrV,rrH]at*
     simp(disch:=omega)only[go_sem,K.jK,↓reduceIte,e2,reduceAdd,reduceSub]
   · simp[rx6,e1]at hq
 · intro j hj hq
   have inn:=fun z0 z1 z6 z9 z10 z11 z12 z13=>aaZ m ws j hj (s2 _ (af hj)) t z0 z1 z6 z9 z10 z11 z12 z13
   rcases inn .und .und .und .und .und .und .und .und with⟨e1, -⟩ | ⟨k,⟨x,vs,H⟩,e1,e2,e3,e4,e5,e6⟩
   · simp[rx6,e1]at hq
   · simp only at e3 e4 e5 e6
     subst e3
     simp only[rrV,rrH]at*
     simp(disch:=omega)only[go_sem,K.jK,↓reduceIte,e2,reduceAdd,reduceSub]
     exact⟨_,rfl,by simp,rfl,e4,e5,e6⟩
 · simp only[rrV,rrH]at*
   simp(disch:=omega)only[go_sem,K.jK,↓reduceIte,reduceAdd,reduceSub]
structure RnH(m:aP)(ws out:List World)(k9:Nat)(H:ah)(es:List D)(fa fb:Nat→Nat):Prop where
 e0:H[0]?=some (.box (ae m))
 e1:H[1]?=some (.box [.t (.sl (ws.map World.e))])
 e2:H[2]?=some (.box [.nil])
 e9:H[k9]?=some (.box [.ref 3 0 ws.length])
 rp:Rp H 3 es fa fb out
abbrev rsV(t:Int)(k9:Nat)(i j:D):List D:=[.und,.und,I t,.bp 0 0,.bp 1 0,.bp 2 0,.und,.und,.und,.bp k9 0,i,j,.und,.und]
def rn0(m:aP)(t:Int)(l:List Wh)(j:Nat):Prop:=∀k,k<j→(di m (nth l k) t).2=0
theorem Vz{m:aP}(h:m.ok)(ws out:List World)(hol:out.length=ws.length)(t:Int)(k9:Nat){i:Nat}(hi:i<ws.length)(hz:(nth ws i).sz){j:Nat}(hj:j<(nth ws i).whr.length)(ho:nth out i=⟨(nth ws i).tags,rnN m t (nth ws i).whr j⟩)
 (H:ah) (es:List D) (fa fb:Nat→Nat) (hr:RnH m ws out k9 H es fa fb):
 ((di m (nth (nth ws i).whr j) t).2=0→∃H',dV false [0,1,6,7,8,12,13] H.length (exS aH K.iK ⟨rsV t k9 (I i) (I j),H⟩)=some ⟨rsV t k9 (I i) (I (j+1)),H'⟩∧RnH m ws (out.set i ⟨(nth ws i).tags,rnN m t (nth ws i).whr (j+1)⟩) k9 H' es fa fb)∧
 ((di m (nth (nth ws i).whr j) t).2≠0→∃q,exS aH K.iK ⟨rsV t k9 (I i) (I j),H⟩=some q∧q.1= .ret∧q.2.vs[5]?=some (.bp 2 0)∧q.2.vs[6]?=some (I (di m (nth (nth ws i).whr j) t).2)∧q.2.H[2]?=some (.box [.t (.sl (ws.map World.e))])):=by
 obtain⟨e0,e1,e2,e9,rp⟩:=hr
 obtain⟨y1,y2,y3⟩:=hz
 have ex:(ws.map World.e)[i]?=some (nth ws i).e:=cI _ hi
 have ew:((nth ws i).whr.map Wh.e)[j]?=some (nth (nth ws i).whr j).e:=cI _ hj
 have g:=Nc h (nth (nth ws i).whr j) t (y3 _ (af hj))
 have l0:=jB e0
 have l1:=jB e1
 have l2:=jB e2
 have l9:=jB e9
 have arr:=rp.arr
 have len:=rp.len
 have el:=rp.el i (by omega)
 have hb:=rp.hb i (by omega)
 have lb:=jB hb
 have ll:=Dl m t (nth ws i).whr j
 rw[ho]at el hb
 simp only[ll]at el hb
 have nb:fb i≠0∧fb i≠1∧fb i≠2∧fb i≠k9:=⟨fun e=>(by rw[e,e0]at hb;cases hb),fun e=>(by rw[e,e1]at hb;cases hb),fun e=>(by rw[e,e2]at hb;cases hb),fun e=>(by rw[e,e9]at hb;cases hb)⟩
 constructor
 · intro c0
   have mg:=(rp.merge (k:=i) (by omega) ⟨(nth ws i).tags,rnN m t (nth ws i).whr (j+1)⟩ (by rw[ho]) (by rw[ho];simp only[Dl])).more [.box [I (di m (nth (nth ws i).whr j) t).1.time,.t (tL (di m (nth (nth ws i).whr j) t).1.frm)]]
   refine⟨_,?_,?_,?_,?_,?_,mg⟩
   · rw[c0]at g
     simp only[rnN]
     clear mg y3 ho
     generalize di m (nth (nth ws i).whr j) t=r at*
     obtain⟨⟨t1,f1⟩,code⟩:=r
     generalize rnN m t (nth ws i).whr j=L at*
     generalize nth (nth ws i).whr j=w at*
     generalize nth ws i=x at*
     obtain⟨tags,whr⟩:=x
     obtain⟨tw,fw⟩:=w
     obtain⟨aa,roads⟩:=m
     simp only[rsV,ints,whs,ae]at*
     generalize fb i=b at*
     simp(disch:=omega)only[go_sem,K.iK,↓reduceIte,ex,ew,g,e0,e1,e2,e9,arr,len,el,hb,gn,dQ,en,yz,gO,lM,reduceAdd,reduceSub]
   all_goals
    rw[gn (by rw[List.length_set];omega),bF (by omega)]
    assumption
 · intro c0
   clear y3 ho
   generalize di m (nth (nth ws i).whr j) t=r at*
   obtain⟨⟨t1,f1⟩,code⟩:=r
   generalize nth (nth ws i).whr j=w at*
   generalize nth ws i=x at*
   obtain⟨tags,whr⟩:=x
   obtain⟨tw,fw⟩:=w
   obtain⟨aa,roads⟩:=m
   simp only[rsV,ints,whs,ae]at*
   simp(disch:=omega)only[go_sem,K.iK,↓reduceIte,ex,ew,g,c0,e0,e1,e2,e9,gn,dQ,en,yz,gO,lM,reduceAdd,reduceSub]
   refine⟨_,rfl,rfl,rfl,rfl,?_⟩
   show(List.set H 2 _++_)[2]?=_
   rw[gn (by rw[List.length_set];exact l2),eo l2]
theorem agm{m:aP}(h:m.ok)(ws out:List World)(hol:out.length=ws.length)(t:Int)(k9:Nat){i:Nat}(hi:i<ws.length)(hz:(nth ws i).sz)(ho:nth out i=nth ws i)
 (H:ah) (es:List D) (fa fb:Nat→Nat) (hr:RnH m ws out k9 H es fa fb) (z0 z1 z6 z7 z8 z12 z13:D):
 ∃q,exS aH K.uD ⟨[z0,z1,I t,.bp 0 0,.bp 1 0,.bp 2 0,z6,z7,z8,.bp k9 0,I i,I 0,z12,z13],H⟩=some q∧
  ((∃H',q=(.exit 6,⟨rsV t k9 (I i) (I (nth ws i).whr.length),H'⟩)∧RnH m ws (out.set i (rnW m t (nth ws i))) k9 H' es fa fb∧rn0 m t (nth ws i).whr (nth ws i).whr.length)∨
   (q.1= .ret∧q.2.vs[5]?=some (.bp 2 0)∧(∃j,j<(nth ws i).whr.length∧(di m (nth (nth ws i).whr j) t).2≠0∧q.2.vs[6]?=some (I (di m (nth (nth ws i).whr j) t).2))∧q.2.H[2]?=some (.box [.t (.sl (ws.map World.e))]))):=by
 have y2:=hz.2.1
 refine E9 (fun j st=>∃H,st=⟨rsV t k9 (I i) (I j),H⟩∧RnH m ws (out.set i ⟨(nth ws i).tags,rnN m t (nth ws i).whr j⟩) k9 H es fa fb∧rn0 m t (nth ws i).whr j) (nth ws i).whr.length _ ?_ ?_ ?_
 · refine⟨H,rfl,?_,fun k hk=>absurd hk (by omega)⟩
   have:out.set i ⟨(nth ws i).tags,rnN m t (nth ws i).whr 0⟩=out:=by
    show out.set i (nth ws i)=out
    rw[← ho,xP _ _ (by omega)]
   rw[this];exact hr
 · rintro j st hj ⟨H,rfl,hR,h0⟩
   have st:=Vz h ws (out.set i ⟨(nth ws i).tags,rnN m t (nth ws i).whr j⟩) (by rw[List.length_set];exact hol) t k9 hi hz hj (by rw[sO _ _ (by omega),if_pos rfl]) H es fa fb hR
   by_cases c:(di m (nth (nth ws i).whr j) t).2=0
   · obtain⟨H',a,b⟩:=st.1 c
     rw[List.set_set]at b
     refine .inl ⟨_,a,H',rfl,b,fun k hk=>?_⟩
     by_cases e:k=j
     · rw[e];exact c
     · exact h0 k (by omega)
   · obtain⟨q,a,b,d,e,f⟩:=st.2 c
     exact .inr ⟨q,a,by rw[b];simp,.inr ⟨b,d,⟨j,hj,c,e⟩,f⟩⟩
 · rintro st ⟨H,rfl,hR,h0⟩
   rw[NJ]at hR
   refine⟨(.exit 6,⟨rsV t k9 (I i) (I (nth ws i).whr.length),H⟩),?_,by simp,.inl ⟨H,rfl,hR,h0⟩⟩
   have ex:(ws.map World.e)[i]?=some (nth ws i).e:=cI _ hi
   have e1:=hR.e1
   have l1:=jB e1
   generalize nth ws i=x at*
   obtain⟨tags,whr⟩:=x
   simp only[rsV]at*
   simp(disch:=omega)only[go_sem,K.iK,↓reduceIte,ex,e1,reduceAdd,reduceSub]
def rnO(m:aP)(t:Int)(ws:List World):Nat→List World
 | 0=>ws
 | i+1=>(rnO m t ws i).set i (rnW m t (nth ws i))
theorem NN(m:aP)(t:Int)(ws:List World):∀j,(rnO m t ws j).length=ws.length
 | 0=>rfl
 | j+1=>by simp only[rnO,List.length_set,NN m t ws j]
theorem NQ(m:aP)(t:Int)(l:List World):∀j,j≤l.length→rnO m t l j=(l.take j).map (rnW m t)++l.drop j
 | 0,_=>by simp[rnO]
 | j+1,h=>by
   rw[rnO,NQ m t l j (by omega),jR (by omega:j<l.length),List.map_append]
   have e:l.drop j=nth l j::l.drop (j+1):=by rw[List.drop_eq_getElem_cons (by omega),bP (aLc (by omega:j<l.length))]
   rw[e,List.set_append_right _ _ (by simp;omega)]
   simp
   rw[show j-min j l.length=0 by omega];rfl
theorem VA(m:aP)(t:Int)(l:List World){j:Nat}(h:j<l.length):nth (rnO m t l j) j=nth l j:=by
 rw[NQ m t l j (by omega)]
 refine bP ?_
 rw[aLh (by simp;omega),List.getElem?_drop]
 simp only[List.length_map,List.length_take]
 rw[show j+(j-min j l.length)=j by omega,ff h]
theorem aa1{m:aP}(h:m.ok)(ws:List World)(s1:ws.length≤1000000)(s2:∀x∈ws,x.sz)(t:Int)(k9:Nat)(H:ah)(es:List D)(fa fb:Nat→Nat)(hr:RnH m ws ws k9 H es fa fb)(z0 z1 z6 z7 z8 z11 z12 z13:D):
 ∃q,exS aH K.uE ⟨[z0,z1,I t,.bp 0 0,.bp 1 0,.bp 2 0,z6,z7,z8,.bp k9 0,I 0,z11,z12,z13],H⟩=some q∧
  ((∃H',q=(.exit 4,⟨rsV t k9 (I ws.length) .und,H'⟩)∧RnH m ws (ws.map (rnW m t)) k9 H' es fa fb∧∀i,i<ws.length→rn0 m t (nth ws i).whr (nth ws i).whr.length)∨
   (q.1= .ret∧q.2.vs[5]?=some (.bp 2 0)∧(∃i j,i<ws.length∧j<(nth ws i).whr.length∧(di m (nth (nth ws i).whr j) t).2≠0∧q.2.vs[6]?=some (I (di m (nth (nth ws i).whr j) t).2))∧q.2.H[2]?=some (.box [.t (.sl (ws.map World.e))]))):=by
 refine E9 (fun i st=>∃H,st=⟨rsV t k9 (I i) .und,H⟩∧RnH m ws (rnO m t ws i) k9 H es fa fb∧∀k,k<i→rn0 m t (nth ws k).whr (nth ws k).whr.length) ws.length _ ?_ ?_ ?_
 · exact⟨H,rfl,hr,fun k hk=>absurd hk (by omega)⟩
 · rintro i st hi ⟨H,rfl,hR,h0⟩
   have e1:=hR.e1
   have l1:=jB e1
   obtain⟨q,hq,hQ⟩:=agm h ws (rnO m t ws i) (NN m t ws i) t k9 hi (s2 _ (af hi)) (VA m t ws hi) H es fa fb hR .und .und .und .und .und .und .und
   rcases hQ with⟨H',rfl,hR',h1⟩ | ⟨b,d,⟨j,hj,c,e⟩,f⟩
   · refine .inl ⟨⟨rsV t k9 (I (i+1)) .und,H'⟩,?_,H',rfl,hR',fun k hk=>?_⟩
     · simp only[rsV]at*
       simp(disch:=omega)only[go_sem,K.lX,↓reduceIte,e1,hq,reduceAdd,reduceSub]
     · by_cases ek:k=i
       · rw[ek];exact h1
       · exact h0 k (by omega)
   · obtain⟨x,vs,H2⟩:=q
     simp only at b d e f
     subst b
     refine .inr ⟨(.ret,⟨vs,H2⟩),?_,by simp,.inr ⟨rfl,d,⟨i,j,hi,hj,c,e⟩,f⟩⟩
     simp only[rsV]at*
     simp(disch:=omega)only[go_sem,K.lX,↓reduceIte,e1,hq,reduceAdd,reduceSub]
 · rintro st ⟨H,rfl,hR,h0⟩
   have e1:=hR.e1
   have l1:=jB e1
   have fin:rnO m t ws ws.length=ws.map (rnW m t):=by rw[NQ m t ws ws.length (aLs _)];simp
   rw[fin]at hR
   refine⟨(.exit 4,⟨rsV t k9 (I ws.length) .und,H⟩),?_,by simp,.inl ⟨H,rfl,hR,h0⟩⟩
   simp only[rsV]
   simp(disch:=omega)only[go_sem,K.lX,↓reduceIte,e1,reduceAdd,reduceSub]
theorem R7(m:aP)(t:Int)(l:List Wh)(h:∀j,j<l.length→(di m (nth l j) t).2≠6){e:Int}(he:e=0∨e=8):∀j,j≤l.length→(rnE m t l e j=0∨rnE m t l e j=8)∧(rnE m t l e j=0↔e=0∧rn0 m t l j)
 | 0,_=>⟨he,⟨fun h=>⟨h,fun k hk=>absurd hk (by omega)⟩,fun h=>h.1⟩⟩
 | j+1,hj=>by
   obtain⟨a,b⟩:=R7 m t l h he j (by omega)
   have c:=(zx m t (nth l j)).2
   have d:=h j (by omega)
   have s:rn0 m t l (j+1)↔rn0 m t l j∧(di m (nth l j) t).2=0:=by
    constructor
    · exact fun x=>⟨fun k hk=>x k (by omega),x j (by omega)⟩
    · rintro ⟨x,y⟩ k hk
      by_cases e:k=j
      · rw[e];exact y
      · exact x k (by omega)
   simp only[rnE]
   by_cases e0:rnE m t l e j=0
   · rw[if_pos e0]
     refine⟨by omega,?_⟩
     rw[s]
     have:=b.1 e0
     constructor
     · exact fun x=>⟨this.1,this.2,x⟩
     · exact fun x=>x.2.2
   · rw[if_neg e0]
     refine⟨a,?_⟩
     rw[s]
     constructor
     · exact fun x=>absurd x e0
     · exact fun x=>b.2 ⟨x.1,x.2.1⟩
theorem R8(m:aP)(t:Int)(ws:List World)(h:∀i,i<ws.length→∀j,j<(nth ws i).whr.length→(di m (nth (nth ws i).whr j) t).2≠6):∀i,i≤ws.length→(rnX m t ws 0 i=0∨rnX m t ws 0 i=8)∧(rnX m t ws 0 i=0↔∀k,k<i→rn0 m t (nth ws k).whr (nth ws k).whr.length)
 | 0,_=>⟨.inl rfl,⟨fun _ k hk=>absurd hk (by omega),fun _=>rfl⟩⟩
 | i+1,hi=>by
   obtain⟨a,b⟩:=R8 m t ws h i (by omega)
   obtain⟨c,d⟩:=R7 m t (nth ws i).whr (h i (by omega)) a (nth ws i).whr.length (aLs _)
   simp only[rnX]
   refine⟨c,?_⟩
   rw[d,b]
   constructor
   · rintro ⟨x,y⟩ k hk
     by_cases e:k=i
     · rw[e];exact y
     · exact x k (by omega)
   · exact fun x=>⟨fun k hk=>x k (by omega),x i (by omega)⟩
theorem Jh{m:aP}{t:Int}{ws:List World}(h:(List.range ws.length).find? (rx6 m t ws)=none):∀i,i<ws.length→∀j,j<(nth ws i).whr.length→(di m (nth (nth ws i).whr j) t).2≠6:=by
 intro i hi j hj e
 have a:=List.find?_eq_none.1 h i (aLu.2 hi)
 apply a
 unfold rx6
 rw[List.find?_isSome]
 exact⟨j,aLu.2 hj,decide_eq_true e⟩
theorem KA{H:ah}{cs:List D}{x:T}(e:Go.Ev.frz H depth (.agg cs)=some x)(c:Int):finish 0 0 H [.agg cs,I c]=some (.tup [.t x,I c],[]):=by
 have o1:[D.t x,I c].all (old 0 depth)=true:=by simp[old]
 unfold finish
 simp only[if_true,bf,tS,e,aLw,aLq,o1,List.take_zero,List.all_nil,Bool.and_self,ie,rS]
 rw[if_pos (by simp[fm])]
theorem Rp.BU{H:ah}{id:Nat}{es:List D}{fa fb:Nat→Nat}{out:List World}(hr:Rp H id es fa fb out){k:Nat}{cs:List D}(hk:H[k]?=some (.box cs))(o:Obj):Rp (H.set k o) id es fa fb out:=by
 have ne:∀ {i:Nat} {sz ep:Nat} {p:Bool} {l:List D},H[i]?=some (.arr sz p ep l)→k≠i:=fun h e=>by rw[← e,hk]at h;cases h
 exact⟨by rw[bF (ne hr.arr)];exact hr.arr,hr.len,hr.el,fun j hj=>by rw[bF (ne (hr.ha j hj))];exact hr.ha j hj,fun j hj=>by rw[bF (ne (hr.hb j hj))];exact hr.hb j hj,hr.na,hr.nb,hr.nab,hr.nbb⟩
theorem NR{m:aP}(h:m.ok)(b:Bel)(hs:b.sz)(t:Int):
 aH 0 N.ef [.t m.e,.t b.e,I t] []=some (.tup [.t (mQ m b t).1.e,I (mQ m b t).2],[]):=by
 refine av K.rH rfl ?_
 have ck:=qY h
 have cb:=tJ b hs
 have cb2:=G7 b hs
 obtain⟨ws⟩:=b
 obtain⟨s1,s2⟩:=hs
 unfold mQ
 simp only at s1 s2 ⊢
 by_cases c1:ws.length<1
 · rw[if_pos (.inl c1)]
   obtain⟨aa,roads⟩:=m
   simp only[ae]at*
   simp(disch:=omega)only[go_sem,K.ef,↓reduceIte,ck,cb,c1,reduceAdd,reduceSub]
 · by_cases c2:24<ws.length
   · rw[if_pos (.inr c2)]
     obtain⟨aa,roads⟩:=m
     simp only[ae]at*
     simp(disch:=omega)only[go_sem,K.ef,↓reduceIte,ck,cb,c1,c2,reduceAdd,reduceSub]
   · rw[if_neg (by omega)]
     have ro:=fun z0 z1 z6 z8 z9 z10 z11 z12 z13=>aa0 m ws s1 s2 t z0 z1 z6 z8 z9 z10 z11 z12 z13
     rcases ro (.t m.e) (.t (Bel.e ⟨ws⟩)) (I 0) .und .und .und .und .und .und with⟨e1,e2⟩ | ⟨j,⟨x,vs,H⟩,e1,e2,e3,e4,e5,e6⟩
     · rw[e1]
       obtain⟨x1,x2⟩:=R8 m t ws (Jh e1) ws.length (aLs _)
       have hR:RnH m ws ws (2*ws.length+1+1+1+1) ([.box (ae m),.box [.t (.sl (ws.map World.e))],.box [.nil]]++cpH 3 ws++[.box [.ref 3 0 ws.length]]) ((List.range ws.length).map (PC 3 ws)) (fun j=>3+2*j+1) (fun j=>3+2*j+2):=by
        refine⟨rfl,rfl,rfl,?_,agl rfl ws _⟩
        have:=Vy (a:=[.box (ae m),.box [.t (.sl (ws.map World.e))],.box [.nil]]) (b:=cpH 3 ws) (t:=[.box [.ref 3 0 ws.length]])
        rw[AN]at this
        rw[show 2*ws.length+1+1+1+1=3+(2*ws.length+1)by omega]
        exact this
       have gA:∀o:Obj,(cpH 3 ws++[o])[2*ws.length+1]?=some o:=fun o=>by
        rw[aLh (by rw[AN];omega),AN,Nat.sub_self];rfl
       have gS:∀o o2:Obj,(cpH 3 ws++[o]).set (2*ws.length+1) o2=cpH 3 ws++[o2]:=fun o o2=>by
        rw[List.set_append_right _ _ (by rw[AN];omega),AN,Nat.sub_self];rfl
       have n6:=Jh e1
       obtain⟨q,hq,hQ⟩:=aa1 h ws s1 s2 t _ _ _ _ _ hR .und .und .und (I ws.length) .und .und .und .und
       have cl:=AN 3 ws
       clear ro e1
       rcases hQ with⟨H',rfl,hR',h0⟩ | ⟨b,d,⟨i,j,hi,hj,cc,ee⟩,f⟩
       · have z0:=x2.2 h0
         rw[if_neg (by omega)]
         have g2:=hR'.e2
         have fz:∀o:Obj,finish 0 0 (H'.set 2 o) [.agg [.ref 3 0 ws.length],I 0]=some (.tup [.t (.agg [.sl ((ws.map (rnW m t)).map World.e)]),I 0],[]):=fun o=>by
          refine KA ?_ 0
          have rp:=hR'.rp.BU g2 o
          have ha:eY (H'.set 2 o) 3 0 ws.length=some (2,false,(List.range ws.length).map (PC 3 ws)):=by simp only[eY,rp.arr];rw[if_pos ⟨trivial,by simp⟩]
          show(bf (Go.Ev.frz (H'.set 2 o) 7) [.ref 3 0 ws.length]).map T.agg=_
          have e7:Go.Ev.frz (H'.set 2 o) 7 (.ref 3 0 ws.length)=some (.sl ((ws.map (rnW m t)).map World.e)):=by
           show((eY (H'.set 2 o) 3 0 ws.length).bind fun a=>bf (Go.Ev.frz (H'.set 2 o) 6) a.2.2).map T.sl=_
           rw[ha,aLq,rp.in6.1];rfl
          simp only[bf,e7,aLq,aLw]
         have g9:=hR'.e9
         have l2:=jB g2
         have l9:=jB g9
         clear hR hR' h0 x1 x2 s2 z0
         generalize ws.map (rnW m t)=L at*
         obtain⟨aa,roads⟩:=m
         simp only[ae,rrH,rsV,List.cons_append,List.nil_append]at*
         simp(disch:=omega)only[go_sem,K.ef,↓reduceIte,ck,cb,cb2,c1,c2,e2,cl,Jf,Je,gA,gS,hq,g9,g2,eo,fz,reduceAdd,reduceSub]
       · have n8:(di m (nth (nth ws i).whr j) t).2=8:=by
          have:=(zx m t (nth (nth ws i).whr j)).2
          have:=n6 i hi j hj
          omega
         have e8:rnX m t ws 0 ws.length=8:=by
          have:rnX m t ws 0 ws.length≠0:=fun e=>cc (x2.1 e i hi j hj)
          omega
         rw[e8,if_pos (by omega)]
         rw[n8]at ee
         obtain⟨x,vs,H⟩:=q
         simp only at b d ee f
         subst b
         clear hR x1 x2 s2 n6 e8
         obtain⟨aa,roads⟩:=m
         simp only[ae,rrH,rsV,List.cons_append,List.nil_append]at*
         simp(disch:=omega)only[go_sem,K.ef,↓reduceIte,ck,cb,cb2,c1,c2,e2,cl,Jf,Je,gA,gS,hq,d,ee,f,reduceAdd,reduceSub]
     · rw[e1]
       simp only at e3 e4 e5 e6
       subst e3
       clear ro e1
       obtain⟨aa,roads⟩:=m
       simp only[ae,rrH]at*
       simp(disch:=omega)only[go_sem,K.ef,↓reduceIte,ck,cb,c1,c2,e2,e4,e5,e6,reduceAdd,reduceSub]
end Go.Ev
namespace Go.Ev
open Go
variable [Lib] [cz] [bZ] [gU] [gJ] [kG] [gV] [gW] [jC] [gX]
end Go.Ev
namespace Go.Ev
open Go
variable [Lib] [cz] [bZ] [gU] [gJ] [kG] [gV] [gW] [jC] [gX] [fT] [eR] [iU] [fE]
theorem NS{m:aP}(hm:m.ok){b:Bel}(hb:oX m b=true):b.sz:=by
 obtain⟨w1,w2, -⟩:=ft hb
 have bv:=AH (ws:=b.aq) hb
 exact⟨by omega,fun x hx=>(bv.wv x hx).wsz hm bv.f2⟩
theorem aa2{m:aP}(hm:m.ok){b:Bel}(hs:b.sz)(tag:Int)(l:List Int)(a c:Int):(kh m b tag l a c).1.sz:=by
 by_cases hb:oX m b=true
 · exact NS hm (NA hm hb tag l a c)
 · have:gl m b tag≠0:=by unfold gl;rw[if_pos (by simpa using hb)];omega
   unfold kh;rw[if_pos this];exact hs
theorem aa3{m:aP}(hm:m.ok){b:Bel}(hs:b.sz)(tag:Int)(l:List Int)(a c bl:Int):(kj m b tag l a c bl).1.sz:=by
 by_cases hb:oX m b=true
 · exact NS hm (NB hm hb tag l a c bl)
 · have:gl m b tag≠0:=by unfold gl;rw[if_pos (by simpa using hb)];omega
   unfold kj;rw[if_pos this];exact hs
theorem VB{m:aP}(hm:m.ok){b:Bel}(hs:b.sz)(i j t:Int):(jm m b i j t).1.sz:=by
 by_cases hb:oX m b=true
 · exact NS hm (Dk hm hb i j t)
 · unfold jm;rw[if_pos (by simpa using hb)];exact hs
theorem aa4{m:aP}(hm:m.ok)(t:Int){w:Wh}(h:w.frm.length≤1000000):(di m w t).1.frm.length≤1000000:=by
 unfold di
 cases hp:kU w m.aa.length with
 | false=>simpa using h
 | true=>
   obtain⟨p1,p2,p3⟩:=mA hp
   rw[if_neg (by simp)]
   split
   · exact h
   · rename_i c
     have np:=hm.np
     have:=jT hm t (by unfold inT at p2 ⊢;omega) none (by simp) (l:=w.frm) (by omega) (fun x hx=>kF (p3 x hx))
     simp only;omega
theorem Qt{m:aP}(hm:m.ok){b:Bel}(hs:b.sz)(t:Int):(mQ m b t).1.sz:=by
 unfold mQ
 split
 · exact hs
 · split
   · exact hs
   · split
     · exact hs
     · refine⟨by simpa using hs.1,fun x hx=>?_⟩
       obtain⟨y,hy,rfl⟩:=List.mem_map.1 hx
       obtain⟨y1,y2,y3⟩:=hs.2 y hy
       refine⟨y1,by simpa [rnW]using y2,fun w hw=>?_⟩
       simp only[rnW]at hw
       obtain⟨v,hv,rfl⟩:=List.mem_map.1 hw
       exact aa4 hm t (y3 v hv)
theorem Cn{m:aP}(hm:m.ok)(h1:1≤m.aa.length)(b:Bel)(hs:b.sz)(tag:Int)(l:List Int)(hl:l.length≤1000000)(n0 n1 n2:Int):
 aH 0 N.eT [.t m.e,.t b.e,I tag,.t (tL l),.t (.agg [tI n0,tI n1,tI n2])] []=some (B true,[]):=by
 refine av K.rD rfl ?_
 have a1:=Qj hm h1 b hs tag l hl n0 n1
 have a2:=EP hm b hs tag l hl n0 n1
 have a3:=wV _ (aa2 hm hs tag l n0 n1) (kh m b tag l n0 n1).2
 have b1:=HA hm h1 b hs tag l hl n0 n1 n2
 have b2:=ES hm b hs tag l hl n0 n1 n2
 have b3:=wV _ (aa3 hm hs tag l n0 n1 n2) (kj m b tag l n0 n1 n2).2
 have c1:=NM hm b hs n1
 have c2:=NR hm b hs n1
 have c3:=wV _ (Qt hm hs n1) (mQ m b n1).2
 have d1:=tQ hm b hs
 have d2:=GZ hm b hs
 have f1:=Hp b hs n2 n0
 have f2:=CY b hs n2 n0
 have f3:=xz (CW b n2 n0) (CW b n2 n0) (by have:=M6 b n2 n0;omega)
 simp only[decide_true]at f3
 generalize kh m b tag l n0 n1=r1 at*
 obtain⟨⟨w1⟩,k1⟩:=r1
 generalize kj m b tag l n0 n1 n2=r2 at*
 obtain⟨⟨w2⟩,k2⟩:=r2
 generalize mQ m b n1=r3 at*
 obtain⟨⟨w3⟩,k3⟩:=r3
 generalize CW b n2 n0=p at*
 obtain⟨ws⟩:=b
 obtain⟨aa,roads⟩:=m
 simp only at*
 cases hv:oX ⟨aa,roads⟩ ⟨ws⟩with
 | true=>
   rw[hv]at d1 d2
   simp(disch:=omega)only[go_sem,K.eT,↓reduceIte,a1,a2,a3,b1,b2,b3,c1,c2,c3,d1,d2,f1,f2,f3,Nat.reduceMul,reduceAdd,reduceSub]
 | false=>
   rw[hv]at d1 d2
   simp(disch:=omega)only[go_sem,K.eT,↓reduceIte,a1,a2,a3,b1,b2,b3,c1,c2,c3,d1,d2,f1,f2,f3,Nat.reduceMul,reduceAdd,reduceSub]
structure LB(Y:ah)(iB id:Nat)(E:List D)(ws:List World):Prop where
 b:∀(P t:ah),P.length=6→(P++(Y++t))[iB]?=some (.box [.ref id 0 ws.length])
 m:∀(P t:ah),P.length=6→(P++(Y++t))[id]?=some (.arr 2 false 0 E)
 f:∀(P t:ah),P.length=6→bf (frz (P++(Y++t)) 6) E=some (ws.map World.e)
 l:E.length=ws.length
def smV(li na:T)(at_ pe i j k1 k2:Int)(iB:Nat)(v16 v17:D):List D:=[.t li,.t na,.bp 0 0,B false,.bp 1 0,.bp 2 0,.bp 3 0,I at_,I pe,I i,I j,.bp 4 0,I k1,.bp 5 0,I k2,.bp iB 0,v16,v17]
theorem AO{m:aP}(hm:m.ok)(p1:1≤m.aa.length){Y:ah}{iB id:Nat}{E:List D}{ws:List World}(h:LB Y iB id E ws)(hs:(Bel.mk ws).sz)(aw:aH 0 N.cA [] []=some (B true,[]))(li na:T)(at_ pe i j k1 k2:Int)(t0: -1000000≤at_)(t1:at_≤1000000000000)(v16 v17:D)(x0 x1 x3 x4 x5:Obj):
 ∃vs H,exS aH K.aB.body.snd.snd.snd.snd.snd.snd.snd.snd.snd.snd.snd.snd.snd.snd ⟨smV li na at_ pe i j k1 k2 iB v16 v17,x0::x1:: .box (ae m)::x3::x4::x5::Y⟩=some (.ret,⟨vs,H⟩)∧vs[3]?=some (B true):=by
 have ag:aH 0 N.eT [.t m.e,.t (.agg [.sl (ws.map World.e)]),I 3,.t (.sl [tI 0]),.t (.agg [tI at_,tI (at_+9),tI 0])] []=some (B true,[]):=Cn hm p1 (Bel.mk ws) hs 3 [0] (by simp) at_ (at_+9) 0
 obtain⟨hb,hmn,hf,hl⟩:=h
 have q1:∀y2:Obj,(x0::x1::y2::x3::x4::x5::Y)[iB]?=some (.box [.ref id 0 ws.length]):=fun y2=>by
  have:=hb [x0,x1,y2,x3,x4,x5] [] rfl
  rw[List.append_nil]at this
  exact this
 have q2:∀y2 o:Obj,(x0::x1::y2::x3::x4::x5::(Y++[o]))[iB]?=some (.box [.ref id 0 ws.length]):=fun y2 o=>hb [x0,x1,y2,x3,x4,x5] [o] rfl
 have q3:∀y2 o:Obj,(x0::x1::y2::x3::x4::x5::(Y++[o]))[id]?=some (.arr 2 false 0 E):=fun y2 o=>hmn [x0,x1,y2,x3,x4,x5] [o] rfl
 have q4:∀y2 o:Obj,bf (frz (x0::x1::y2::x3::x4::x5::(Y++[o])) 6) E=some (ws.map World.e):=fun y2 o=>hf [x0,x1,y2,x3,x4,x5] [o] rfl
 clear hb hmn hf hs hm
 obtain⟨aa,roads⟩:=m
 simp only[ae,smV]at*
 apply Exists.intro
 apply Exists.intro
 apply And.intro
 · simp(disch:=omega)only[go_sem,K.aB,↓reduceIte,q1,q2,q3,q4,hl,ag,aw,C.snd,dQ,reduceAdd,reduceSub]
   rfl
 · rfl
theorem FC{ws:List World}(hs:(Bel.mk ws).sz){i:Nat}{x:World}(hx:x.sz):(Bel.mk (ws.set i x)).sz:=by
 refine⟨by simpa using hs.1,fun y hy=>?_⟩
 rcases aLk hy with h | h
 · exact hs.2 y h
 · subst h;exact hx
theorem yG(X:ah)(o o2:Obj)(P t:ah){iB:Nat}(hP:P.length=6)(hi:iB=X.length+6):(P++((X++[o,o2])++t))[iB]?=some o:=by
 rw[aLh (by omega),List.append_assoc,aLh (by omega),show iB-P.length-X.length=0 by omega];rfl
theorem Dm{ws':List World}{n iB:Nat}(hn:n=ws'.length)(hi:iB=(cbH 6 ws').length+6):LB (cbH 6 ws'++[.box [.ref 6 0 n],.arr 2 false 0 []]) iB 6 (cbE 6 ws') ws':=by
 subst hn
 refine⟨fun P t hP=>yG _ _ _ P t hP hi,fun P t hP=>?_,fun P t hP=>?_,nB 6 ws'⟩
 · have:=Hc P ([.box [.ref 6 0 ws'.length],.arr 2 false 0 []]++t) 6 ws'
   rw[hP]at this
   rw[List.append_assoc]
   exact this
 · have:=UH P ([.box [.ref 6 0 ws'.length],.arr 2 false 0 []]++t) ws'
   rw[hP]at this
   rw[List.append_assoc]
   exact this
abbrev smT(ws:List World):ah:=cbH 6 ws++[.box [.ref 6 0 ws.length],.arr 2 false 0 []]
theorem Co{X X':ah}{k:Nat}{o:Obj}(e:X.set k o=X')(hk:k<X.length)(T:ah)(x0 x1 x2 x3 x4 x5:Obj):(x0::x1::x2::x3::x4::x5::(X++T)).set (k+6) o=x0::x1::x2::x3::x4::x5::(X'++T):=by
 rw[show k+6=k+1+1+1+1+1+1 by omega,List.set_cons_succ,List.set_cons_succ,List.set_cons_succ,List.set_cons_succ,List.set_cons_succ,List.set_cons_succ,List.set_append_left _ _ hk,e]
theorem Dn{X X':ah}{k:Nat}{o:Obj}(e:X.set k o=X'):X'.length=X.length:=by rw[← e];simp
section
variable {ws : List World} {i : Nat} (hi : i < ws.length) (x0 x1 x2 x3 x4 x5 : Obj)
theorem FD:(x0::x1::x2::x3::x4::x5::smT ws)[(cbH 6 ws).length+6]?=some (.box [.ref 6 0 ws.length]):=by
 have:=yG (cbH 6 ws) (.box [.ref 6 0 ws.length]) (.arr 2 false 0 []) [x0,x1,x2,x3,x4,x5] [] rfl rfl
 rw[List.append_nil]at this
 exact this
theorem FE:(x0::x1::x2::x3::x4::x5::smT ws)[6]?=some (.arr 2 false 0 (cbE 6 ws)):=Hc [x0,x1,x2,x3,x4,x5] _ 6 ws
include hi
theorem HD:(x0::x1::x2::x3::x4::x5::smT ws)[7+2*i]?=some (.arr 1 false 0 (ints (nth ws i).tags)):=by
 have:=C4 [x0,x1,x2,x3,x4,x5] [.box [.ref 6 0 ws.length],.arr 2 false 0 []] 6 ws (k:=2*i) (by omega)
 unfold A2 at this
 rw[if_pos (by omega),show 2*i / 2=i by omega]at this
 exact this
theorem HE:(x0::x1::x2::x3::x4::x5::smT ws)[8+2*i]?=some (.arr 2 false 0 ((List.range (nth ws i).whr.length).map (wEl (fun j=>7+2*ws.length+fR ws i+j) (nth ws i).whr))):=by
 have:=C4 [x0,x1,x2,x3,x4,x5] [.box [.ref 6 0 ws.length],.arr 2 false 0 []] 6 ws (k:=2*i+1) (by omega)
 unfold A2 at this
 rw[if_neg (by omega),show(2*i+1) / 2=i by omega,show [x0,x1,x2,x3,x4,x5].length+1+(2*i+1)=8+2*i by simp;omega]at this
 exact this
theorem wW(h0:0<(nth ws i).whr.length):(x0::x1::x2::x3::x4::x5::smT ws)[7+2*ws.length+fR ws i]?=some (.arr 1 false 0 (ints (nth (nth ws i).whr 0).frm))∧1+2*ws.length+fR ws i<(cbH 6 ws).length:=by
 have:=C5 [x0,x1,x2,x3,x4,x5] [.box [.ref 6 0 ws.length],.arr 2 false 0 []] 6 ws hi h0
 have t2:=C5 [] [] 6 ws hi h0
 have t3:=(aLe.1 t2).1
 simp only[List.nil_append,List.append_nil,List.length_nil]at t3
 exact⟨this,by omega⟩
end
end Go.Ev
