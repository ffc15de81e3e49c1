/- Parts of the proof: see the text that holds the theorem. -/
import Derived.Test.YtgpjgilnofjbdaaGreatZ3
set_option linter.all false
open Nat (reduceAdd reduceSub)
set_option maxRecDepth 100000
namespace Go.Ev
open Go
variable [Lib] [cr] [bZ] [dJ] [dV]
theorem Ht(l:List Spn)(hl:l.length≤4294967296)(f:Nat)(bs:List (List T))(p:Spn→Bool)(h:∀x,x∈l→bL 0 f (.t x.e::o6 bs.length) (bO bs)=some (B (p x),bO bs)):
 bL 0 N.aN [.t (.sl (l.map Spn.e)),.fn f (o6 bs.length)] (bO bs)=
 some (I (match (List.range l.length).find? (fun j=>p (nth l j))with | some j=>(j:Int) | none=> -1),bO bs):=by
 refine aI K.dv rfl ?_
 have loop:∀a b:D,exS bL K.gj ⟨[.t (.sl (l.map Spn.e)),.fn f (o6 bs.length),a,b,I l.length,I 0],bO bs⟩=
  some (match (List.range l.length).find? (fun j=>p (nth l j))with
   | some j=>(.ret,⟨[.t (.sl (l.map Spn.e)),.fn f (o6 bs.length),I j,I j,I l.length,I j],bO bs⟩)
   | none=>(.exit 0,⟨[.t (.sl (l.map Spn.e)),.fn f (o6 bs.length),.und,.und,I l.length,I l.length],bO bs⟩)):=by
  intro a b
  refine Gi (fun j=>⟨[.t (.sl (l.map Spn.e)),.fn f (o6 bs.length),.und,.und,I l.length,I j],bO bs⟩) l.length (fun j=>p (nth l j)) _ _ rfl ?_ ?_ ?_ (by simp)
  · intro j hj hp
    have hc:=Gk (h _ (ak hj)) rfl
    simp(disch:=omega)only[go_sem,K.b9,↓reduceIte,hc,hp]
  · intro j hj hp
    have hc:=Gk (h _ (ak hj)) rfl
    simp(disch:=omega)only[go_sem,K.b9,↓reduceIte,hp,hc]
    simp
  · simp(disch:=omega)only[go_sem,K.b9,↓reduceIte]
 simp(disch:=omega)only[go_sem,K.aN,↓reduceIte,loop]
 cases hf:(List.range l.length).find? (fun j=>p (nth l j))with
 | some j=>simp(disch:=omega)only[go_sem,↓reduceIte]
 | none=>simp(disch:=omega)only[go_sem,↓reduceIte]
theorem UN{α:Type} [Dat α]{l:List α}{p:α→Bool}:((List.range l.length).find? fun j=>p (nth l j)).isSome=l.any p:=by
 rw[List.isSome_find?,Bool.eq_iff_iff,List.any_eq_true,List.any_eq_true]
 constructor
 · rintro ⟨j,hj,h⟩
   exact⟨_,ak (aLu.1 hj),h⟩
 · rintro ⟨x,hx,h⟩
   obtain⟨j,hj⟩:=aLf.1 hx
   exact⟨j,aLu.2 (aLe.1 hj).1,by rw[qo hj];exact h⟩
theorem Cg(l:List Spn)(hl:l.length≤4294967296)(f:Nat)(bs:List (List T))(p:Spn→Bool)(h:∀x,x∈l→bL 0 f (.t x.e::o6 bs.length) (bO bs)=some (B (p x),bO bs)):
 bL 0 N.ay [.t (.sl (l.map Spn.e)),.fn f (o6 bs.length)] (bO bs)=some (B (l.any p),bO bs):=by
 refine aI K.cV rfl ?_
 have h:=Ht l hl f bs p h
 have hc:=N3 bL bs f _ 0 (.sl (l.map Spn.e)) h rfl
 have e:=UN (l:=l) (p:=p)
 cases hf:(List.range l.length).find? (fun j=>p (nth l j))with
 | some j=>rw[hf]at e hc;simp(disch:=omega)only[go_sem,K.ay,↓reduceIte,←e,hc]
 | none=>rw[hf]at e hc;simp(disch:=omega)only[go_sem,K.ay,↓reduceIte,←e,hc,Option.isSome_none]
theorem Re(f:Spn):bL 0 N.cQ [.t f.e] []=some (B (!decide f.ok),[]):=by
 refine aI K.qL rfl ?_
 obtain⟨lo,hi⟩:=f
 unfold Spn.ok
 by_cases h1: -1125899906842624≤lo
 · by_cases h2:hi≤1125899906842624
   · by_cases h3:lo≤hi<;>simp(disch:=omega)only[go_sem,K.cQ,↓reduceIte,h1,h2,h3,reduceAdd,reduceSub]
   · simp(disch:=omega)only[go_sem,K.cQ,↓reduceIte,h1,h2,false_and,and_false,decide_false,reduceAdd,reduceSub]
 · simp(disch:=omega)only[go_sem,K.cQ,↓reduceIte,h1,false_and,decide_false,reduceAdd,reduceSub]
theorem UO{m:cC}(h:m.ok)(fl:List Spn)(hl:fl.length≤1000000):bL 0 N.gS [.t m.e,.t (tS fl)] []=some (B (pE m fl),[]):=by
 refine aI K.tP rfl ?_
 have v:=BG h
 have nr:=h.nr
 have c:bL 0 N.ay [.t (tS fl),.fn N.cQ []] []=some (B (fl.any fun f=> !decide f.ok),[]):=Cg fl (by omega) N.cQ [] (fun f=> !decide f.ok) (fun f _=>Re f)
 have e:pE m fl=(decide (fl.length=m.roads.length)&& !(fl.any fun f=> !decide f.ok)):=by
  unfold pE
  rw[Bool.and_comm,QX]
  have:((List.range fl.length).any fun j=> !decide (nth fl j).ok)=fl.any fun f=> !decide f.ok:=ZH fl (fun f=> !decide f.ok)
  rw[this]
 rw[e]
 generalize (fl.any fun f=> !decide f.ok)=r at*
 obtain⟨aa,roads⟩:=m
 simp only at nr
 by_cases cl:fl.length=roads.length
 · cases r<;>simp(disch:=omega)only[go_sem,K.gS,↓reduceIte,v,c,cl,reduceAdd,reduceSub]
 · cases r<;>simp(disch:=omega)only[go_sem,K.gS,↓reduceIte,v,c,cl,reduceAdd,reduceSub]
abbrev vf:Int:=2147483648
def oq(l:List Int)(n:Int)(p q:Nat):List Int×Bool:=if n<0∨vf<nth l p∨vf<nth l p+n∨nth l q≤nth l p+n then(l,false)else(l.set q (nth l p+n),true)
abbrev N8(m:cC)(fl:List Spn)(n:Nat):D:= .agg [.t (.sl (m.aa.map Place.e)),.t (.sl (m.roads.map Road.e)),.t (tS fl),.ref 0 0 n]
theorem MM{m:cC}(h:m.ok)(fl:List Spn)(hfl:pE m fl=true)(l:List Int)(hl:l.length≤1000000)(hb:∀x∈l,0≤x∧x≤1099511627776)(r p q:Nat)(hr:r<m.roads.length)(hp:p<l.length)(hq:q<l.length)(back:Bool):
 bL 0 N.bC [N8 m fl l.length,I r,I p,I q,B back] [.arr 1 false 0 ((l.map (T.int .i64)).map .t)]=
  some (B (oq l (eY (nth m.roads r) (nth fl r) back) p q).2,[.arr 1 false 0 (((oq l (eY (nth m.roads r) (nth fl r) back) p q).1.map (T.int .i64)).map .t)]):=by
 refine aI K.m9 rfl ?_
 obtain⟨f1,f2⟩:=K3 hfl
 have tr:=N7 h r hr (nth fl r) (f2 r (by omega)) back
 have tb:=N4 (h.rs _ (ak hr)) (f:=nth fl r) back
 have gf:(fl.map Spn.e)[r]?=some (nth fl r).e:=aQ _ (by omega)
 have gp:((l.map (T.int .i64)).map D.t)[p]?=some (.t (tI (nth l p))):=cE _ _ hp
 have gq:((l.map (T.int .i64)).map D.t)[q]?=some (.t (tI (nth l q))):=cE _ _ hq
 have bp:=hb _ (ak hp)
 have nr:=h.nr
 have np:=h.np
 unfold oq
 generalize eY (nth m.roads r) (nth fl r) back=n at*
 generalize nth fl r=f at*
 generalize nth l p=x at*
 generalize nth l q=y at*
 obtain⟨flo,fhi⟩:=f
 obtain⟨aa,roads⟩:=m
 simp only[N8,vf]at*
 by_cases c1:n<0
 · simp(disch:=omega)only[go_sem,K.bC,↓reduceIte,gf,gp,gq,tr,c1,true_or,reduceAdd,reduceSub]
 by_cases c2:vf<x
 · have hs:=c2
   simp(disch:=omega)only[go_sem,K.bC,↓reduceIte,gf,gp,gq,tr,c1,c2,true_or,or_true,false_or,or_false,or_self,hs,reduceAdd,reduceSub,aLt]
 by_cases c3:vf<x+n
 · have hs:=c3
   simp(disch:=omega)only[go_sem,K.bC,↓reduceIte,gf,gp,gq,tr,c1,c2,c3,true_or,or_true,false_or,or_false,or_self,hs,reduceAdd,reduceSub,aLt]
 by_cases c4:y≤x+n
 · have hs:=c4
   simp(disch:=omega)only[go_sem,K.bC,↓reduceIte,gf,gp,gq,tr,c1,c2,c3,c4,true_or,or_true,false_or,or_false,or_self,hs,reduceAdd,reduceSub,aLt]
 · have hs:((l.map (T.int .i64)).map D.t).set q (.t (.int .i64 (x+n)))=((l.set q (x+n)).map (T.int .i64)).map D.t:=by simp
   simp(disch:=omega)only[go_sem,K.bC,↓reduceIte,gf,gp,gq,tr,c1,c2,c3,c4,true_or,or_true,false_or,or_false,or_self,hs,reduceAdd,reduceSub,aLt]
def mr(m:cC)(fl:List Spn)(k:Nat)(back:Bool)(l:List Int):List Int×Bool:=
 oq l (eY (nth m.roads k) (nth fl k) back) ((nth m.roads k).src back).toNat ((nth m.roads k).dst back).toNat
def xu(m:cC)(fl:List Spn)(k:Nat)(s:List Int×Bool):List Int×Bool:=
 ((mr m fl k true (mr m fl k false s.1).1).1,s.2||(mr m fl k false s.1).2||(mr m fl k true (mr m fl k false s.1).1).2)
def fD(m:cC)(fl:List Spn)(l:List Int):Nat→List Int×Bool
 | 0=>(l,false)
 | k+1=>xu m fl k (fD m fl l k)
theorem Gp(l:List Int)(n:Int)(p q:Nat):(oq l n p q).1.length=l.length:=by unfold oq;split<;>simp
theorem Gq{l:List Int}(hb:bnd l){n:Int}{p q:Nat}(hp:p<l.length):bnd (oq l n p q).1:=by
 unfold oq
 split
 · exact hb
 · rename_i c
   intro x hx
   have:=hb _ (ak hp)
   rcases aLk hx with h | h
   · exact hb x h
   · simp only[vf]at c;subst h;omega
abbrev zj(m:cC)(fl:List Spn)(n:Nat):Obj:= .box [.t (.sl (m.aa.map Place.e)),.t (.sl (m.roads.map Road.e)),.t (tS fl),.ref 0 0 n]
theorem Z7{m:cC}(h:m.ok)(fl:List Spn)(hfl:pE m fl=true)(l:List Int)(hl:l.length=m.aa.length)(hb:bnd l)(k:Nat)(hk:k<m.roads.length)(ch:Bool):
 om true [0,3,4,5,6] 2 (exS bL K.ic ⟨[.und,.bp 1 0,B ch,.und,.und,.und,.und,.t (.sl (m.roads.map Road.e)),I m.roads.length,I k],[.arr 1 false 0 ((l.map (T.int .i64)).map .t),zj m fl l.length]⟩)=
  some ⟨[.und,.bp 1 0,B (xu m fl k (l,ch)).2,.und,.und,.und,.und,.t (.sl (m.roads.map Road.e)),I m.roads.length,I (k+1)],[.arr 1 false 0 (((xu m fl k (l,ch)).1.map (T.int .i64)).map .t),zj m fl l.length]⟩:=by
 have np:=h.np
 have nr:=h.nr
 have ok:=h.rs _ (ak hk)
 have f0:=ok.f0;have f1:=ok.f1;have t0:=ok.t0;have t1:=ok.t1
 have g:(m.roads.map Road.e)[k]?=some (nth m.roads k).e:=aQ _ hk
 have r1:=MM h fl hfl l (by omega) hb k (nth m.roads k).frm.toNat (nth m.roads k).to.toNat hk (by omega) (by omega) false
 have hb2:=Gq hb (n:=eY (nth m.roads k) (nth fl k) false) (p:=(nth m.roads k).frm.toNat) (q:=(nth m.roads k).to.toNat) (by omega)
 have ln:=Gp l (eY (nth m.roads k) (nth fl k) false) (nth m.roads k).frm.toNat (nth m.roads k).to.toNat
 have r2:=MM h fl hfl (oq l (eY (nth m.roads k) (nth fl k) false) (nth m.roads k).frm.toNat (nth m.roads k).to.toNat).1 (by omega) hb2 k (nth m.roads k).to.toNat (nth m.roads k).frm.toNat hk (by omega) (by omega) true
 have e1:((nth m.roads k).frm.toNat:Int)=(nth m.roads k).frm:=by omega
 have e2:((nth m.roads k).to.toNat:Int)=(nth m.roads k).to:=by omega
 rw[e1,e2]at r1 r2
 rw[ln]at r2
 simp only[xu,mr,Road.src,Road.dst,aLt,↓reduceIte]
 generalize oq l (eY (nth m.roads k) (nth fl k) false) (nth m.roads k).frm.toNat (nth m.roads k).to.toNat=a at*
 obtain⟨la,ca⟩:=a
 simp only at*
 generalize oq la (eY (nth m.roads k) (nth fl k) true) (nth m.roads k).to.toNat (nth m.roads k).frm.toNat=b at*
 obtain⟨lb,cb⟩:=b
 generalize nth m.roads k=x at*
 obtain⟨frm,to,len,area,walk,closed,rl,rh,ll,lh⟩:=x
 obtain⟨aa,roads⟩:=m
 simp only[N8,zj]at*
 cases ch<;>cases ca<;>cases cb<;>simp(disch:=omega)only[go_sem,K.ic,↓reduceIte,g,r1,r2,Bool.or_true,Bool.or_false,Bool.true_or,reduceAdd,reduceSub]
theorem N9{l:List Int}(hb:bnd l){n:Int}{p q:Nat}(hp:p<l.length)(hq:q<l.length):
 ((oq l n p q).2=true→uC (oq l n p q).1<uC l)∧((oq l n p q).2=false→(oq l n p q).1=l):=by
 unfold oq
 split
 · exact⟨fun h=>by simp at h,fun _=>rfl⟩
 · rename_i c
   refine⟨fun _=>?_,fun h=>by simp at h⟩
   have:=hb _ (ak hp)
   exact Hm hq (by omega) (by omega)
theorem sL(m:cC)(fl:List Spn)(k:Nat)(back:Bool)(l:List Int):(mr m fl k back l).1.length=l.length:=Gp _ _ _ _
theorem dK(m:cC)(fl:List Spn)(l:List Int):∀k,(fD m fl l k).1.length=l.length
 | 0=>rfl
 | k+1=>by simp only[fD,xu,sL,dK m fl l k]
section
variable {m : cC} (h : m.ok) {fl : List Spn}
include h
theorem AH{l:List Int}(hl:l.length=m.aa.length)(hb:bnd l){k:Nat}(hk:k<m.roads.length)(back:Bool):bnd (mr m fl k back l).1:=by
 have r1:=Road.uw (h.rs _ (ak hk)) back
 exact Gq hb (by omega)
theorem AI{l:List Int}(hl:l.length=m.aa.length)(hb:bnd l){k:Nat}(hk:k<m.roads.length)(back:Bool):
 ((mr m fl k back l).2=true→uC (mr m fl k back l).1<uC l)∧((mr m fl k back l).2=false→(mr m fl k back l).1=l):=by
 have r1:=Road.uw (h.rs _ (ak hk)) back
 have r2:=Road.xq (h.rs _ (ak hk)) back
 exact N9 hb (by omega) (by omega)
theorem qQ{l:List Int}(hl:l.length=m.aa.length)(hb:bnd l):∀k,k≤m.roads.length→bnd (fD m fl l k).1
 | 0,_=>hb
 | k+1,hk=>by
   have ih:=qQ hl hb k (by omega)
   simp only[fD,xu]
   exact AH h (by rw[sL,dK,hl]) (AH h (by rw[dK,hl]) ih (by omega) _) (by omega) _
theorem tT{l:List Int}(hl:l.length=m.aa.length)(hb:bnd l):∀k,k≤m.roads.length→
 ((fD m fl l k).2=true→uC (fD m fl l k).1<uC l)∧((fD m fl l k).2=false→(fD m fl l k).1=l)
 | 0,_=>⟨fun h=>by simp[fD]at h,fun _=>rfl⟩
 | k+1,hk=>by
   obtain⟨i1,i2⟩:=tT hl hb k (by omega)
   have hb1:=qQ h (fl:=fl) hl hb k (by omega)
   have hl1:(fD m fl l k).1.length=m.aa.length:=by rw[dK,hl]
   obtain⟨a1,a2⟩:=AI h (fl:=fl) hl1 hb1 (k:=k) (by omega) false
   have hb2:=AH h (fl:=fl) hl1 hb1 (k:=k) (by omega) false
   obtain⟨c1,c2⟩:=AI h (fl:=fl) (by rw[sL,hl1]) hb2 (k:=k) (by omega) true
   simp only[fD,xu]
   generalize fD m fl l k=s at*
   obtain⟨sl,sb⟩:=s
   simp only at*
   generalize mr m fl k false sl=a at*
   obtain⟨al,ab⟩:=a
   simp only at*
   generalize mr m fl k true al=b at*
   obtain⟨bl,bb⟩:=b
   simp only at*
   cases sb<;>cases ab<;>cases bb<;>simp_all<;>omega
end
def mB(m:cC)(fl:List Spn)(l:List Int):List Int×Bool:=fD m fl l m.roads.length
def spF(m:cC)(fl:List Spn)(l:List Int):List Int:=jE (mB m fl) (uC l+1) l
theorem Oa{m:cC}(h:m.ok)(fl:List Spn)(hfl:pE m fl=true)(l:List Int)(hl:l.length=m.aa.length)(hb:bnd l):
 bL 0 N.cF [N8 m fl l.length] [.arr 1 false 0 ((l.map (T.int .i64)).map .t)]=some (.tup [],[.arr 1 false 0 (((spF m fl l).map (T.int .i64)).map .t)])∧(spF m fl l).length=m.aa.length∧bnd (spF m fl l):=by
 have nr:=h.nr
 have np:=h.np
 have inner:∀(l:List Int),l.length=m.aa.length→bnd l→∀(z0 z3 z4 z5 z6:D),exS bL K.pG ⟨[z0,.bp 1 0,B false,z3,z4,z5,z6,.t (.sl (m.roads.map Road.e)),I m.roads.length,I 0],[.arr 1 false 0 ((l.map (T.int .i64)).map .t),zj m fl l.length]⟩=
  some (.exit 2,⟨[.und,.bp 1 0,B (mB m fl l).2,.und,.und,.und,.und,.t (.sl (m.roads.map Road.e)),I m.roads.length,I m.roads.length],[.arr 1 false 0 (((mB m fl l).1.map (T.int .i64)).map .t),zj m fl l.length]⟩):=by
  intro l hl hb z0 z3 z4 z5 z6
  refine cT (fun j=>⟨[.und,.bp 1 0,B (fD m fl l j).2,.und,.und,.und,.und,.t (.sl (m.roads.map Road.e)),I m.roads.length,I j],[.arr 1 false 0 (((fD m fl l j).1.map (T.int .i64)).map .t),zj m fl l.length]⟩) m.roads.length rfl ?_ ?_ (by simp)
  · intro j hj
    have:=Z7 h fl hfl (fD m fl l j).1 (by rw[dK,hl]) (qQ h hl hb j (by omega)) j hj (fD m fl l j).2
    rw[dK]at this
    exact this
  · simp(disch:=omega)only[go_sem,K.ic,↓reduceIte,mB,zj,reduceAdd,reduceSub]
 have outer:=fun(z0 z3 z4 z5 z6 z7 z8 z9:D)=>N2 (gc:=true) (dead:=[0,3,4,5,6,7,8,9]) (c:=K.ie) (vs:=[z0,.bp 1 0,B true,z3,z4,z5,z6,z7,z8,z9]) (H:=[.arr 1 false 0 ((l.map (T.int .i64)).map .t),zj m fl l.length])
  (fun l' ag=>⟨[.und,.bp 1 0,B ag,.und,.und,.und,.und,.und,.und,.und],[.arr 1 false 0 ((l'.map (T.int .i64)).map .t),zj m fl l'.length]⟩)
  (fun l'=>(.exit 0,⟨[.und,.bp 1 0,B false,.und,.und,.und,.und,.und,.und,.und],[.arr 1 false 0 ((l'.map (T.int .i64)).map .t),zj m fl l'.length]⟩))
  (mB m fl) (fun l=>l.length=m.aa.length∧bnd l) uC
  (fun l ⟨hl,hb⟩=>⟨⟨by rw[mB,dK,hl],qQ h hl hb _ (aLs _)⟩,(tT h hl hb _ (aLs _)).1⟩)
  (by
   rintro l ⟨hl,hb⟩
   have hi:=inner l hl hb
   have e:(mB m fl l).1.length=l.length:=by rw[mB,dK]
   clear inner
   obtain⟨aa,roads⟩:=m
   simp only[zj]at*
   simp(disch:=omega)only[go_sem,K.ie,↓reduceIte,hi,e,reduceAdd,reduceSub])
  (by
   rintro l ⟨hl,hb⟩
   simp(disch:=omega)only[go_sem,K.ie,↓reduceIte,zj,reduceCtorEq,ne_eq,not_false_eq_true,and_self,reduceAdd,reduceSub])
  l ⟨hl,hb⟩ rfl
 obtain⟨-,o2⟩:=outer .und .und .und .und .und .und .und .und
 refine⟨?_,o2⟩
 refine aI K.mA rfl ?_
 have o1:∀z0 z3 z4 z5 z6 z7 z8 z9:D,exS bL K.pH ⟨[z0,.bp 1 0,B true,z3,z4,z5,z6,z7,z8,z9],[.arr 1 false 0 ((l.map (T.int .i64)).map .t),zj m fl l.length]⟩=_:=fun z0 z3 z4 z5 z6 z7 z8 z9=>(outer z0 z3 z4 z5 z6 z7 z8 z9).1
 clear outer inner
 have o2:=o2.1
 unfold spF
 generalize jE (mB m fl) (uC l+1) l=l2 at*
 obtain⟨aa,roads⟩:=m
 simp only[zj,N8]at*
 simp(disch:=omega)only[go_sem,K.cF,↓reduceIte,o1,reduceAdd,reduceSub]
end Go.Ev
namespace Go.Ev
open Go
theorem bM{α:Type} [Dat α](l:List α)(k:Nat)(hk:k<l.length)(x:α)(j:Nat):nth (l.set k x) j=if j=k then x else nth l j:=by
 unfold nth
 by_cases h:j=k
 · subst h;rw[if_pos rfl];simp[hk]
 · rw[if_neg h]
   have:¬k=j:=fun e=>h e.symm
   simp[List.getElem?_set,this]
theorem wZ{α:Type}{f:α→α×Bool}(P:α→Prop)(hP:∀l,P l→P (f l).1):∀n l,P l→P (jE f n l)
 | 0,l,h=>h
 | n+1,l,h=>by
   unfold jE
   split
   · exact wZ P hP n _ (hP l h)
   · exact hP l h
theorem w5{α:Type}{f:α→α×Bool}(P:α→Prop)(mes:α→Nat)(hP:∀l,P l→P (f l).1∧((f l).2=true→mes (f l).1<mes l)∧((f l).2=false→(f l).1=l)):∀n l,P l→mes l<n→(f (jE f n l)).2=false∧P (jE f n l)
 | 0,l,_,h=>by omega
 | n+1,l,hp,h=>by
   obtain⟨h1,h2,h3⟩:=hP l hp
   unfold jE
   cases hf:(f l).2 with
   | true=>
     rw[if_pos rfl]
     have:=h2 hf
     exact w5 P mes hP n _ h1 (by omega)
   | false=>
     rw[if_neg (by simp),h3 hf]
     exact⟨hf,hp⟩
def clP(m:cC)(fl:List Spn)(y:List Int):Prop:=∀k,k<m.roads.length→∀back,0≤eY (nth m.roads k) (nth fl k) back→
 nth y ((nth m.roads k).src back).toNat+eY (nth m.roads k) (nth fl k) back≤vf→
 nth y ((nth m.roads k).dst back).toNat≤nth y ((nth m.roads k).src back).toNat+eY (nth m.roads k) (nth fl k) back
def clS(m:cC)(fl:List Spn)(y:List Int):Prop:=∀k,k<m.roads.length→∀back,0≤eY (nth m.roads k) (nth fl k) back→
 nth y ((nth m.roads k).dst back).toNat≤nth y ((nth m.roads k).src back).toNat+eY (nth m.roads k) (nth fl k) back
variable [Lib] [cr] [bZ] [dJ] [dV]
theorem Jm{m:cC}(h:m.ok){fl:List Spn}{y l:List Int}(hy:clP m fl y)(hl:l.length=m.aa.length){k:Nat}(hk:k<m.roads.length)(back:Bool)(hle:∀j,nth y j≤nth l j):∀j,nth y j≤nth (mr m fl k back l).1 j:=by
 have r2:=Road.xq (h.rs _ (ak hk)) back
 intro j
 unfold mr oq
 split
 · exact hle j
 · rename_i c
   have c:=c
   simp only[not_or,Int.not_lt,Int.not_le]at c
   obtain⟨c1,c2,c3,c4⟩:=c
   rw[bM _ _ (by omega)]
   split
   · rename_i e
     have:=hy k hk back (by omega) (by have:=hle ((nth m.roads k).src back).toNat;omega)
     have:=hle ((nth m.roads k).src back).toNat
     rw[e];omega
   · exact hle j
theorem Gr{m:cC}(h:m.ok){fl:List Spn}{y l:List Int}(hy:clP m fl y)(hl:l.length=m.aa.length)(hle:∀j,nth y j≤nth l j):∀k,k≤m.roads.length→∀j,nth y j≤nth (fD m fl l k).1 j
 | 0,_=>hle
 | k+1,hk=>by
   have ih:=Gr h hy hl hle k (by omega)
   simp only[fD,xu]
   exact Jm h hy (by rw[sL,dK,hl]) (by omega) true (Jm h hy (by rw[dK,hl]) (by omega) false ih)
theorem WI{m:cC}(h:m.ok){fl:List Spn}{y l:List Int}(hy:clP m fl y)(hl:l.length=m.aa.length)(hle:∀j,nth y j≤nth l j):∀j,nth y j≤nth (spF m fl l) j:=
 (wZ (f:=mB m fl) (fun l=>l.length=m.aa.length∧∀j,nth y j≤nth l j) (fun l hp=>⟨by rw[mB,dK];exact hp.1,Gr h hy hp.1 hp.2 _ (aLs _)⟩) _ l ⟨hl,hle⟩).2
theorem Jn{m:cC}{fl:List Spn}{l:List Int}{k:Nat}(back:Bool)(hb:((nth m.roads k).dst back).toNat<l.length):∀j,nth (mr m fl k back l).1 j≤nth l j:=by
 intro j
 unfold mr oq
 split
 · exact Int.le_refl _
 · rename_i c
   simp only[not_or,Int.not_lt,Int.not_le]at c
   rw[bM _ _ hb]
   split
   · rename_i e;rw[e];omega
   · exact Int.le_refl _
theorem Gs{m:cC}(h:m.ok){fl:List Spn}{l:List Int}(hl:l.length=m.aa.length)(hb:bnd l):∀k,k≤m.roads.length→(fD m fl l k).2=false→∀i,i<k→∀back,(mr m fl i back l).2=false
 | 0,_,_,i,hi,_=>by omega
 | k+1,hk,hf,i,hi,back=>by
   have e:=(tT h (fl:=fl) hl hb k (by omega)).2
   have ih:=Gs h (fl:=fl) hl hb k (by omega)
   simp only[fD,xu,Bool.or_eq_false_iff]at hf
   obtain⟨⟨f1,f2⟩,f3⟩:=hf
   have e:=e f1
   rw[e]at f2 f3
   have e2:=(AI h (fl:=fl) hl hb (k:=k) (by omega) false).2 f2
   rw[e2]at f3
   by_cases c:i<k
   · exact ih f1 i c back
   · have:i=k:=by omega
     subst this
     cases back
     · exact f2
     · exact f3
theorem Rf{m:cC}(h:m.ok){fl:List Spn}{l:List Int}(hl:l.length=m.aa.length)(hb:bnd l):clP m fl (spF m fl l)∧(spF m fl l).length=m.aa.length∧bnd (spF m fl l):=by
 obtain⟨h1,h2,h3⟩:=w5 (f:=mB m fl) (fun l=>l.length=m.aa.length∧bnd l) uC (fun l ⟨hl,hb⟩=>⟨⟨by rw[mB,dK];exact hl,qQ h hl hb _ (aLs _)⟩,tT h hl hb _ (aLs _)⟩) (uC l+1) l ⟨hl,hb⟩ (Nat.lt_succ_self _)
 refine⟨fun k hk back hn hm=>?_,h2,h3⟩
 have no:=Gs h h2 h3 m.roads.length (aLs _) h1 k hk back
 change (mr m fl k back (spF m fl l)).2=false at no
 unfold mr oq at no
 split at no
 · rename_i c
   have r1:=Road.uw (h.rs _ (ak hk)) back
   have hs:=h3 _ (ak (l:=jE (mB m fl) (uC l+1) l) (j:=((nth m.roads k).src back).toNat) (by omega))
   change 0≤nth (spF m fl l) _∧nth (spF m fl l) _≤_ at hs
   omega
 · cases no
end Go.Ev
namespace Go.Ev
open Go
variable [Lib] [cr] [bZ] [dJ] [dV]
def DH(a l:List Int):Prop:=∀j,nth l j≤vf→nth a j≤nth l j
theorem BH{m:cC}(h:m.ok){fl:List Spn}{a l:List Int}(ha:clP m fl a)(hl:l.length=m.aa.length)(hb:bnd l){k:Nat}(hk:k<m.roads.length)(back:Bool)(hle:DH a l):DH a (pI m fl k back l).1:=by
 have r2:=Road.xq (h.rs _ (ak hk)) back
 have r1:=Road.uw (h.rs _ (ak hk)) back
 intro j hj
 simp only[pI,EZ]at hj ⊢
 split at hj
 · rename_i c
   rw[if_pos c]
   simp only[Hq,decide_eq_true_eq]at c
   rw[bM _ _ (by omega)]at hj ⊢
   split at hj
   · rename_i e
     rw[if_pos e,e]
     have:=hle ((nth m.roads k).src back).toNat (by omega)
     have:=ha k hk back c.1 (by omega)
     omega
   · rename_i e
     rw[if_neg e]
     exact hle j hj
 · rename_i c
   rw[if_neg c]
   exact hle j hj
theorem zk{m:cC}(h:m.ok){fl:List Spn}{a l:List Int}(ha:clP m fl a)(hl:l.length=m.aa.length)(hb:bnd l)(hle:DH a l):∀k,k≤m.roads.length→DH a (gU m fl l k).1
 | 0,_=>hle
 | k+1,hk=>by
   have ih:=zk h ha hl hb hle k (by omega)
   have hb1:=qN h (fl:=fl) hl hb k (by omega)
   have hl1:(gU m fl l k).1.length=m.aa.length:=by rw[jk,hl]
   simp only[gU,DG]
   exact BH h ha (by rw[sK,hl1]) (wY h (fl:=fl) hl1 hb1 (k:=k) (by omega) false) (by omega) true (BH h ha hl1 hb1 (by omega) false ih)
theorem Gt{m:cC}(h:m.ok){fl:List Spn}{l:List Int}(hl:l.length=m.aa.length)(hb:bnd l):∀k,k≤m.roads.length→(gU m fl l k).2=false→∀i,i<k→∀back,(pI m fl i back l).2=false
 | 0,_,_,i,hi,_=>by omega
 | k+1,hk,hf,i,hi,back=>by
   have e:=(tR h (fl:=fl) hl hb k (by omega)).2
   have ih:=Gt h (fl:=fl) hl hb k (by omega)
   simp only[gU,DG,Bool.or_eq_false_iff]at hf
   obtain⟨⟨f1,f2⟩,f3⟩:=hf
   have e:=e f1
   rw[e]at f2 f3
   have e2:=(AG h (fl:=fl) hl hb (k:=k) (by omega) false).2 f2
   rw[e2]at f3
   by_cases c:i<k
   · exact ih f1 i c back
   · have:i=k:=by omega
     subst this
     cases back
     · exact f2
     · exact f3
theorem Rg{m:cC}(h:m.ok){fl:List Spn}{a l:List Int}(ha:clP m fl a)(hl:l.length=m.aa.length)(hb:bnd l)(hle:DH a l):
 clS m fl (jE (kV m fl) (uC l+1) l)∧DH a (jE (kV m fl) (uC l+1) l)∧(jE (kV m fl) (uC l+1) l).length=m.aa.length∧bnd (jE (kV m fl) (uC l+1) l):=by
 obtain⟨h1,⟨h2,h3⟩,h4⟩:=w5 (f:=kV m fl) (fun l=>(l.length=m.aa.length∧bnd l)∧DH a l) uC (fun l ⟨⟨hl,hb⟩,hle⟩=>⟨⟨⟨by rw[kV,jk];exact hl,qN h hl hb _ (aLs _)⟩,zk h ha hl hb hle _ (aLs _)⟩,tR h hl hb _ (aLs _)⟩) (uC l+1) l ⟨⟨hl,hb⟩,hle⟩ (Nat.lt_succ_self _)
 refine⟨fun k hk back hn=>?_,h4,h2,h3⟩
 have no:=Gt h h2 h3 m.roads.length (aLs _) h1 k hk back
 simp only[pI,Hq,decide_eq_false_iff_not]at no
 omega
theorem Jo(l:List Int):∀k j,k≤l.length→nth (UM l k) j=if j<k∧vf<nth l j then 1099511627776 else nth l j
 | 0,j,_=>by simp[UM]
 | k+1,j,hk=>by
   have ih:=Jo l k
   have e:=ih k (by omega)
   rw[if_neg (by omega)]at e
   have ij:=ih j (by omega)
   simp only[UM]
   rw[e]
   by_cases c:2147483648<nth l k
   · rw[if_pos c,bM _ _ (by rw[Hr];omega),ij]
     by_cases hj:j=k
     · subst hj;rw[if_pos rfl,if_pos ⟨by omega,c⟩]
     · rw[if_neg hj]
       by_cases c2:j<k∧vf<nth l j
       · rw[if_pos c2,if_pos ⟨by omega,c2.2⟩]
       · rw[if_neg c2,if_neg (fun h=>c2 ⟨by omega,h.2⟩)]
   · rw[if_neg c,ij]
     by_cases c2:j<k∧vf<nth l j
     · rw[if_pos c2,if_pos ⟨by omega,c2.2⟩]
     · rw[if_neg c2,if_neg (fun h=>c2 ⟨by
        have:j≠k:=fun e=>by subst e;exact c h.2
        omega,h.2⟩)]
theorem WK{m:cC}(h:m.ok){fl:List Spn}{l:List Int}(hl:l.length=m.aa.length):∀j,nth (spF m fl l) j≤nth l j:=by
 have steps:∀(l:List Int),l.length=m.aa.length→∀k,k≤m.roads.length→∀j,nth (fD m fl l k).1 j≤nth l j:=by
  intro l hl k
  induction k with
  | zero=>intro _ j;exact Int.le_refl _
  | succ k ih=>
    intro hk j
    have r1:=Road.xq (h.rs _ (ak (l:=m.roads) (j:=k) (by omega))) false
    have r2:=Road.xq (h.rs _ (ak (l:=m.roads) (j:=k) (by omega))) true
    simp only[fD,xu]
    have a:=Jn (m:=m) (fl:=fl) (l:=(mr m fl k false (fD m fl l k).1).1) (k:=k) true (by rw[sL,dK];omega) j
    have b:=Jn (m:=m) (fl:=fl) (l:=(fD m fl l k).1) (k:=k) false (by rw[dK];omega) j
    have c:=ih (by omega) j
    omega
 exact(wZ (f:=mB m fl) (fun l'=>l'.length=m.aa.length∧∀j,nth l' j≤nth l j) (fun l' hp=>⟨by rw[mB,dK];exact hp.1,fun j=>Int.le_trans (steps l' hp.1 _ (aLs _) j) (hp.2 j)⟩) _ l ⟨hl,fun j=>Int.le_refl _⟩).2
theorem MN{α:Type} [Dat α]{a b:List α}(h:a.length=b.length)(e:∀j,j<a.length→nth a j=nth b j):a=b:=by
 apply List.ext_getElem h
 intro j h1 h2
 have:=e j h1
 rwa [qo (aLc h1),qo (aLc h2)]at this
theorem Jp{m:cC}{fl:List Spn}{l:List Int}{k:Nat}(back:Bool)(hb:((nth m.roads k).dst back).toNat<l.length):∀j,nth (pI m fl k back l).1 j≤nth l j:=by
 intro j
 simp only[pI,EZ]
 split
 · rename_i c
   simp only[Hq,decide_eq_true_eq]at c
   rw[bM _ _ hb]
   split
   · rename_i e;rw[e];omega
   · exact Int.le_refl _
 · exact Int.le_refl _
theorem Gu{m:cC}(h:m.ok){fl:List Spn}{l:List Int}(hl:l.length=m.aa.length):∀k,k≤m.roads.length→∀j,nth (gU m fl l k).1 j≤nth l j
 | 0,_,j=>Int.le_refl _
 | k+1,hk,j=>by
   have r1:=Road.xq (h.rs _ (ak (l:=m.roads) (j:=k) (by omega))) false
   have r2:=Road.xq (h.rs _ (ak (l:=m.roads) (j:=k) (by omega))) true
   simp only[gU,DG]
   have a:=Jp (m:=m) (fl:=fl) (l:=(pI m fl k false (gU m fl l k).1).1) (k:=k) true (by rw[sK,jk];omega) j
   have b:=Jp (m:=m) (fl:=fl) (l:=(gU m fl l k).1) (k:=k) false (by rw[jk];omega) j
   have c:=Gu h (fl:=fl) hl k (by omega) j
   omega
theorem ahu{m:cC}(h:m.ok){fl:List Spn}{l:List Int}(hl:l.length=m.aa.length):∀j,nth (jE (kV m fl) (uC l+1) l) j≤nth l j:=
 (wZ (f:=kV m fl) (fun l'=>l'.length=m.aa.length∧∀j,nth l' j≤nth l j) (fun l' hp=>⟨by rw[kV,jk];exact hp.1,fun j=>Int.le_trans (Gu h hp.1 _ (aLs _) j) (hp.2 j)⟩) _ l ⟨hl,fun j=>Int.le_refl _⟩).2
def adK(l:List Int):Prop:=∀x∈l,0≤x∧(x≤vf∨x=1099511627776)
theorem adK.bnd{l:List Int}(h:adK l):bnd l:=fun x hx=>by have:=h x hx;simp only[vf]at this;omega
theorem Ob{m:cC}{fl:List Spn}{l:List Int}(hl:(jE (kV m fl) (uC l+1) l).length=m.aa.length){j:Nat}(hj:j<m.aa.length):
 nth (qO m fl l) j=if vf<nth (jE (kV m fl) (uC l+1) l) j then 1099511627776 else nth (jE (kV m fl) (uC l+1) l) j:=by
 unfold qO
 rw[Jo _ _ _ (by omega)]
 by_cases c:vf<nth (jE (kV m fl) (uC l+1) l) j
 · rw[if_pos ⟨hj,c⟩,if_pos c]
 · rw[if_neg (fun x=>c x.2),if_neg c]
theorem tV{m:cC}(h:m.ok){fl:List Spn}{l:List Int}(hl:l.length=m.aa.length)(hb:bnd l):(qO m fl l).length=m.aa.length:=by
 unfold qO;rw[Hr]
 exact(w5 (f:=kV m fl) (fun l=>l.length=m.aa.length∧Go.Ev.bnd l) uC (fun l ⟨hl,hb⟩=>⟨⟨by rw[kV,jk];exact hl,qN h hl hb _ (aLs _)⟩,tR h hl hb _ (aLs _)⟩) (uC l+1) l ⟨hl,hb⟩ (Nat.lt_succ_self _)).2.1
theorem AJ{m:cC}(h:m.ok){fl:List Spn}{l:List Int}(hl:l.length=m.aa.length)(ht:adK l):spF m fl l=qO m fl l:=by
 have hb:=ht.bnd
 obtain⟨a1,a2,a3⟩:=Rf h (fl:=fl) hl hb
 have a4:=WK h (fl:=fl) hl
 obtain⟨d1,d2,d3,d4⟩:=Rg h (fl:=fl) a1 hl hb (fun j _=>a4 j)
 have d5:=ahu h (fl:=fl) hl
 have cn:=fun{j:Nat} (hj:j<m.aa.length)=>Ob (m:=m) (fl:=fl) (l:=l) d3 hj
 have cl:=tV h (fl:=fl) hl hb
 generalize jE (kV m fl) (uC l+1) l=D at*
 apply MN (by omega)
 intro j hj
 have hj:j<m.aa.length:=by omega
 apply Int.le_antisymm
 · rw[cn hj]
   split
   · have:=a3 _ (ak (l:=spF m fl l) (j:=j) (by omega));omega
   · exact d2 j (by omega)
 · refine WI h (y:=qO m fl l) ?_ hl ?_ j
   · intro k hk back hn hm
     have r1:=Road.uw (h.rs _ (ak hk)) back
     have r2:=Road.xq (h.rs _ (ak hk)) back
     have x:=d1 k hk back hn
     rw[cn (by omega)]at hm ⊢
     rw[cn (by omega)]
     simp only[vf]at*
     split at hm
     · omega
     · rename_i c
       rw[if_neg c,if_neg (by omega)]
       omega
   · intro i
     by_cases hi:i<m.aa.length
     · rw[cn hi]
       have:=ht _ (ak (l:=l) (j:=i) (by omega))
       have:=d5 i
       split<;>omega
     · have e1:nth (qO m fl l) i=0:=by unfold nth;rw[aLl,aLm (by omega)];rfl
       have e2:nth l i=0:=by unfold nth;rw[aLl,aLm (by omega)];rfl
       rw[e1,e2];exact Int.le_refl _
end Go.Ev
namespace Go.Ev
open Go
variable [Lib] [cr] [bZ]
def ahv(a b:List Int):Bool:=match (List.range (min a.length b.length)).find? (fun j=>decide (nth a j≠nth b j))with
 | some j=>decide (nth a j<nth b j)
 | none=>decide (a.length<b.length)
def vK(l:List Int)(x:Int):Int:=match (List.range l.length).find? (fun j=>decide (nth l j=x))with
 | some j=>j
 | none=> -1
def Z8(l:List Int)(j:Nat):Bool:=decide (1≤nth l j∧nth l j≤65535∧vK (l.take j) (nth l j)<0)
def Hu(l:List Int):Bool:=(List.range l.length).all (Z8 l)
structure World where
 tags:List Int
 whr:List Wh
instance : Dat World := ⟨⟨[], []⟩⟩
abbrev World.e(x:World):T:= .agg [tL x.tags,.sl (x.whr.map Wh.e)]
structure Bel where
 fZ:List World
instance : Dat Bel := ⟨⟨[]⟩⟩
abbrev Bel.e(b:Bel):T:= .agg [.sl (b.fZ.map World.e)]
def World.sz(x:World):Prop:=x.tags.length≤1000000∧x.whr.length≤1000000∧∀w∈x.whr,w.frm.length≤1000000
def Bel.sz(b:Bel):Prop:=b.fZ.length≤1000000∧∀x∈b.fZ,x.sz
@[go_sem] theorem Z9 (l : List Wh) : cj 2 (l.map Wh.e) = true := jO 2 _ (fun _ => rfl) l
@[go_sem] theorem S8 (l : List World) : cj 2 (l.map World.e) = true := jO 2 _ (fun _ => rfl) l
@[go_sem] theorem akI (l : List Wh) : oI 2 (l.map Wh.e) = true := by cases l <;> rfl
@[go_sem] theorem aaa (l : List World) : oI 2 (l.map World.e) = true := by cases l <;> rfl
def ap7(m:cC)(first:List Int)(x:World)(k:Nat):Bool:=decide (0≤vK first (nth x.tags k))&&Jg m (nth x.whr k)
def ahw(m:cC)(ws:List World)(first:List Int)(i:Nat):Bool:=
 decide ((nth ws i).tags.length=first.length∧(nth ws i).whr.length=first.length)&&Hu (nth ws i).tags&&(decide (i=0)||ahv (nth ws (i-1)).tags (nth ws i).tags)&&(List.range (nth ws i).tags.length).all (ap7 m first (nth ws i))
def apb(m:cC)(b:Bel):Bool:=
 decide (1≤b.fZ.length∧b.fZ.length≤24)&&decide (1≤(nth b.fZ 0).tags.length∧(nth b.fZ 0).tags.length≤12)&&(List.range b.fZ.length).all (ahw m b.fZ (nth b.fZ 0).tags)
end Go.Ev
namespace Go.Ev.K
open Go.Ev
def nE:Fn:= { aq:=6,vars:=[0,1,2,3,4,5,6,7,8,9,12,13,14],body:=(q [w 6 (.bx v0 3),w 7 (.bx v1 4),w 8 (.bx v2 3),w 9 (.bx v3 1),w 10 (.al [z0,z0,z0,z0] []),x 11 (.i 0)] [] (.seq (q [h 3 v6,h 4 v7,h 3 v8,h 1 v9,m v5,u (.bd [.nil,z0,z0,z0,z0,z0,z0,.nil,.nil,z1,.nil,z0,z0] [(0,3,.l 4),(3,4,.l 3),(7,3,.l 2),(10,1,.l 1),(11,1,.l 0),(12,1,.i 0)]),m v4,u (.bin .leq l0 (.i 0)),u (.ca N.bT 0 [] [.l 2,.l 0]),x 12 l0] [] (.ite [m v12,u (.bin .neq l0 (.i 0))] [] 0 (q [h 4 v7,m v12,u (.st v10 l1 4 []),x 11 l1] [] .ret) .skip)) (q [m v4,m v5,u (.bd [z0,z0,z0,z0] [(0,1,.i 1),(1,1,.l 1),(3,1,.l 0)]),u (.st v10 l0 4 []),x 11 (.i 0)] [] .ret))),res:=[(10,some (4,true)),(11,none)]}
def jQ:Fn:= { aq:=6,vars:=[0,1,2,3,4,5,6,7,8,9,12,13,14],body:=(q [w 6 (.bx v0 3),w 7 (.bx v1 4),w 8 (.bx v2 3),w 9 (.bx v3 1),w 10 (.al [z0,z0,z0,z0] []),x 11 (.i 0)] [] (.seq (q [h 3 v6,h 4 v7,h 3 v8,h 1 v9,m v5,u (.bd [.nil,z0,z0,z0,z0,z0,z0,.nil,.nil,z1,.nil,z0,z0] [(0,3,.l 4),(3,4,.l 3),(7,3,.l 2),(10,1,.l 1),(11,1,.l 0),(12,1,.i 1)]),m v4,u (.bin .leq l0 (.i 0)),m l0,e 0 false v4,y 1 false (.fa v7 1),i 2 false l0,y 3 false (.bin .eql l2 l0),u (.pk l4 (.b true) l0),u (.ca N.bT 0 [] [.l 8,.l 0]),x 12 l0] [] (.ite [m v12,u (.bin .neq l0 (.i 0))] [] 0 (q [h 4 v7,m v12,u (.st v10 l1 4 []),x 11 l1] [] .ret) .skip)) (q [m v4,m v5,f 0 v7,u (.st l0 (.i 2) 1 []),f 2 v7,u (.st l0 l4 1 []),f 3 v7,u (.st l0 l5 1 [])] [] (q [h 4 v7,u (.st v10 l0 4 []),x 11 (.i 0)] [] .ret)))),res:=[(10,some (4,true)),(11,none)]}
def kS:Fn:= { aq:=6,vars:=[0,1,2,3,4,5,6,7,8,9,12,13,14],body:=(q [w 6 (.bx v0 3),w 7 (.bx v1 4),w 8 (.bx v2 3),w 9 (.bx v3 1),w 10 (.al [z0,z0,z0,z0] []),x 11 (.i 0)] [] (.seq (q [h 3 v6,h 4 v7,h 3 v8,h 1 v9,m v4,u (.bd [.nil,z0,z0,z0,z0,z0,z0,.nil,.nil,z1,.nil,z0,z0] [(0,3,.l 4),(3,4,.l 3),(7,3,.l 2),(10,1,.l 1),(11,1,.l 0),(12,1,.i 2)]),u (.ca N.bT 0 [] [.l 0,.b false]),x 12 l0] [] (.ite [m v12,u (.bin .neq l0 (.i 0))] [] 0 (q [h 4 v7,m v12,u (.st v10 l1 4 []),x 11 l1] [] .ret) .skip)) (q [m v4,f 0 v7,u (.st l0 (.i 3) 1 []),f 3 v7,u (.st l0 l3 1 [])] [] (.seq (.ite [m v5] [] 0 (.reg [f 0 v7,u (.st l0 (.i 4) 1 [])] []) .skip) (q [h 4 v7,u (.st v10 l0 4 []),x 11 (.i 0)] [] .ret))))),res:=[(10,some (4,true)),(11,none)]}
def fC:Fn:= { aq:=2,vars:=[0,1,2,3,4,34,50],body:=(q [w 2 (.bx v0 3),w 3 (.bx v1 4),x 4 (.b false)] [] (.seq (.ite [f 0 v2,g l0,u (.ln l0),u (.bin .eql l0 (.i 0)),m l0,y 0 false (.fa v2 0),i 1 false l0,y 2 false (.ca N.bX 0 [] [.l 0,.i 0,.i 63]),y 3 false (.un .not l0),u (.pk l4 (.b true) l0),m l0,y 0 false (.fa v2 1),i 1 false l0,y 2 false (.ca N.bD 0 [] [.l 0,.i 1,.i 100000]),y 3 false (.un .not l0),u (.pk l4 (.b true) l0),m l0,y 0 false (.fa v2 2),i 1 false l0,y 2 false (.ca N.bD 0 [] [.l 0,.i 1,.i 100000]),y 3 false (.un .not l0),u (.pk l4 (.b true) l0),m l0,y 0 false (.fa v3 3),i 1 false l0,y 2 false (.ca N.bD 0 [] [.l 0,.i 0,.i 2147483648]),y 3 false (.un .not l0),u (.pk l4 (.b true) l0)] [] 0 (q [x 4 (.b false)] [] .ret) .skip) (.seq (q [f 0 v3,w 5 (.ld l0 1 false)] [] (.blk 0 (.ite [u (.bin .eql v5 (.i 0)),m l0] [] 0 (q [h 4 v3,u (.bd [z0,z0,z0,z0] []),u (.eqk (.ints 4) false l1 l0),x 4 l0] [] .ret) (.ite [u (.bin .eql v5 (.i 1)),m l0] [] 0 (q [f 1 v3,g l0,u (.bin .gtr l0 (.i 0)),m l0,y 0 true (.fa v3 2),i 1 true l0,y 2 true (.bin .eql l0 (.i 0)),u (.pk l3 l0 (.b false)),x 4 l0] [] .ret) (.seq (q [u (.bin .eql v5 (.i 2)),x 6 l0] [] (.itv 6 .skip (q [u (.bin .eql v5 (.i 3)),x 6 l0] [] (.itv 6 .skip (.reg [u (.bin .eql v5 (.i 4)),x 6 l0] []))))) (.itv 6 (q [f 1 v3,g l0,u (.bin .gtr l0 (.i 0)),m l0,y 0 true (.fa v3 2),i 1 true l0,y 2 true (.bin .gtr l0 (.i 0)),u (.pk l3 l0 (.b false)),m l0,y 0 true (.fa v3 1),i 1 true l0,y 2 true (.fa v3 2),i 3 true l0,y 4 true (.bin .neq l2 l0),u (.pk l5 l0 (.b false)),x 4 l0] [] .ret) .skip)))))) (q [x 4 (.b false)] [] .ret)))),res:=[(4,none)]}
end Go.Ev.K
namespace Go.Ev
class eM [Lib]:Prop where
 BI:Lib.fs N.nE=some K.nE
 xv:Lib.fs N.jQ=some K.jQ
 zm:Lib.fs N.kS=some K.kS
 xw:Lib.fs N.fC=some K.fC
namespace K
variable [Lib] [eM]
theorem BI:Lib.fs N.nE=some K.nE:=eM.BI
theorem xv:Lib.fs N.jQ=some K.jQ:=eM.xv
theorem zm:Lib.fs N.kS=some K.kS:=eM.zm
theorem xw:Lib.fs N.fC=some K.fC:=eM.xw
end K
end Go.Ev
namespace Go.Ev.K
open Go.Ev
def kT:Fn:= { aq:=3,vars:=[0,1,2,3,4,5,6],body:=(q [w 3 (.bx v0 3),w 4 (.bx v1 3),w 5 (.bx v2 1),x 6 (.b false)] [] (q [h 3 v3,u (.bd [z0,z0,z0,z0] []),u (.ca N.fC 0 [] [.l 1,.l 0]),m l0,y 0 true (.ld v4 3 true),y 1 true (.ca N.gJ 0 [] [.l 0]),u (.pk l2 l0 (.b false)),m l0,y 0 true (.fa v4 2),i 1 true l0,u (.pk l2 l0 (.b false)),m l0,y 0 true (.fa v5 0),i 1 true l0,y 2 true (.ln l0),y 3 true (.bin .gtr l0 (.i 0)),u (.pk l4 l0 (.b false)),m l0,y 0 true (.ld v5 1 true),y 1 true (.fa v3 0),i 2 true l0,y 3 true (.ca N.lR 0 [] [.l 2,.l 0]),u (.pk l4 l0 (.b false)),x 6 l0] [] .ret)),res:=[(6,none)]}
def bT:Fn:= { aq:=2,vars:=[0,1,2,4],body:=(q [w 2 (.bx v0 13),x 3 (.i 0)] [] (.seq (.blk 0 (.ite [f 0 v2,h 3 l0,f 3 v2,h 4 l0,u (.ca N.fC 0 [] [.l 2,.l 0]),u (.un .not l0),m l0] [] 0 (q [x 3 (.i 6)] [] .ret) (.ite [f 3 v2,f 0 l0,g l0,f 12 v2,g l0,u (.bin .neq l2 l0),m l0] [] 0 (q [x 3 (.i 10)] [] .ret) (.ite [f 11 v2,g l0,u (.bin .lss l0 (.i 0)),m l0,y 0 false (.fa v2 3),y 1 false (.ld l0 4 true),y 2 false (.fa v2 11),i 3 false l0,y 4 false (.ca N.iJ 0 [] [.l 2,.l 0]),y 5 false (.un .not l0),u (.pk l6 (.b true) l0),m l0] [] 0 (q [x 3 (.i 8)] [] .ret) (.ite [m v1,m l0] [] 0 (q [x 3 (.i 19)] [] .ret) (.ite [f 12 v2,g l0,u (.bin .neq l0 (.i 0)),m l0,y 0 true (.fa v2 11),i 1 true l0,y 2 true (.fa v2 3),y 3 true (.fa l0 3),i 4 true l0,y 5 true (.bin .sub l3 l0),y 6 true (.fa v2 0),y 7 true (.fa l0 1),i 8 true l0,y 9 true (.bin .gtr l3 l0),u (.pk l10 l0 (.b false)),m l0] [] 0 (q [x 3 (.i 10)] [] .ret) (.ite [f 7 v2,h 3 l0,u (.ca N.gJ 0 [] [.l 0]),u (.un .not l0),m l0,y 0 false (.fa v2 7),y 1 false (.fa l0 2),i 2 false l0,y 3 false (.un .not l0),u (.pk l4 (.b true) l0),m l0] [] 0 (q [x 3 (.i 48)] [] .ret) (.ite [f 0 v2,h 3 l0,f 7 v2,h 3 l0,f 10 v2,h 1 l0,u (.ca N.kT 0 [] [.l 4,.l 2,.l 0]),u (.un .not l0),m l0] [] 0 (q [x 3 (.i 49)] [] .ret) .skip)))))))) (q [x 3 (.i 0)] [] .ret))),res:=[(3,none)]}
def iJ:Fn:= { aq:=2,vars:=[0,1,2,4],body:=(q [w 2 (.bx v0 4),x 3 (.b false)] [] (q [m v1,f 3 v2,g l0,u (.bin .geq l2 l0),m l0,e 0 true v1,y 1 true (.bin .leq l0 (.i 2147483648)),u (.pk l2 l0 (.b false)),x 3 l0] [] .ret)),res:=[(3,none)]}
def fW:C:= (.its [u (.bin .lss v8 v7)] [] 0 .skip (.exit 0) (.seq (.blk 1 (q [m v8,a 1 v6 v8,g l0,x 4 l2,x 5 l1] [] (.ite [m v5,m v1,u (.bin .lss l1 l0),m l0,e 0 false v5,e 1 false v2,y 2 false (.bin .gtr l1 l0),u (.pk l3 (.b true) l0),m l0,e 0 false v4,y 1 false (.bin .gtr l0 (.i 0)),e 2 false l0,e 0 true v5,e 1 true v0,e 2 true v4,y 3 true (.bin .sub l0 (.i 1)),y 4 true (.ia l2 l0 1),i 5 true l0,y 6 true (.bin .leq l5 l0),y 10 false (.pk l7 l0 (.b false)),u (.pk l11 (.b true) l0)] [] 0 (q [x 3 (.b false)] [] .ret) .skip))) (.reg [u (.bin .add v8 (.i 1)),x 8 l0] [])))
def vL:C:= .loop true [3,4,5] K.fW
def bX:Fn:= { aq:=3,vars:=[0,1,2,6,7,8,9,10,11],body:=(q [x 3 (.b false)] [] (.seq (q [x 6 v0,w 7 (.ln l0),x 8 (.i 0)] [] (.blk 0 K.vL)) (q [x 3 (.b true)] [] .ret))),res:=[(3,none)]}
def gJ:Fn:= { aq:=1,vars:=[0,1,2,3],body:=(q [w 1 (.bx v0 3),x 2 (.b false)] [] (q [w 3 (.mv (.c (.fn N.jR [])))] [] (q [f 0 v1,g l0,u (.ca N.lS 0 [] [.l 0]),m l0,y 0 true (.fa v1 1),i 1 true l0,y 2 true (.ln l0),y 3 true (.fa v1 0),i 4 true l0,y 5 true (.ln l0),y 6 true (.bin .eql l3 l0),u (.pk l7 l0 (.b false)),m l0,y 0 true (.fa v1 1),i 1 true l0,e 2 true v3,y 3 true (.ca N.aA 0 [] [.l 1,.l 0]),y 4 true (.un .not l0),u (.pk l5 l0 (.b false)),m l0,y 0 true (.fa v1 2),i 1 true l0,y 2 true (.un .not l0),e 3 true l0,y 0 false (.ld v1 3 true),y 1 false (.ca N.lT 0 [] [.l 0]),y 6 true (.pk l2 (.b true) l0),u (.pk l7 l0 (.b false)),x 2 l0] [] .ret))),res:=[(2,none)]}
def E1:C:= (.its [u (.bin .lss v11 v10)] [] 0 .skip (.exit 2) (.seq (.blk 3 (q [a 2 v9 v11,h 2 l0,w 5 (.al [z0,.nil] []),u (.st l0 l1 2 [])] [] (.ite [m v1,u (.mf N.jS [.v 5]),u (.ca N.aA 0 [] [.l 1,.l 0])] [] 0 (q [x 3 (.b false)] [] .ret) .skip))) (.reg [u (.bin .add v11 (.i 1)),x 11 l0] [])))
def Hv:C:= .loop true [0,2,3,4,5] K.E1
def E2:C:= (.its [u (.bin .lss v8 v7)] [] 0 .skip (.exit 0) (.seq (.blk 1 (q [a 2 v6 v8,h 2 l0,w 4 (.al [.nil,.nil] []),u (.st l0 l1 2 [])] [] (q [f 1 v4,w 9 (.ld l0 1 false),w 10 (.ln l0),x 11 (.i 0)] [] (.blk 2 K.Hv)))) (.reg [u (.bin .add v8 (.i 1)),x 8 l0] [])))
def Hw:C:= .loop true [0,2,3,4,5,9,10,11] K.E2
def lR:Fn:= { aq:=2,vars:=[0,1,2,4,6,8,10,11,12,17,18,19],body:=(q [w 2 (.bx v0 1),x 3 (.b false)] [] (.seq (q [f 0 v2,w 6 (.ld l0 1 false),w 7 (.ln l0),x 8 (.i 0)] [] (.blk 0 K.Hw)) (q [x 3 (.b true)] [] .ret))),res:=[(3,none)]}
def jR:Fn:= { aq:=1,vars:=[0,2],body:=(q [x 1 (.b false)] [] (q [m v0,u (.ca N.bD 0 [] [.l 0,.i 0,.i 2]),u (.un .not l0),x 1 l0] [] .ret)),res:=[(1,none)]}
def lS:Fn:= { aq:=1,vars:=[0,2],body:=(q [x 1 (.b false)] [] (q [m v0,u (.ln l0),u (.ca N.bD 0 [] [.l 0,.i 1,.i 12]),m l0,e 0 true v0,y 1 true (.ca N.bX 0 [] [.l 0,.i 0,.i 127]),u (.pk l2 l0 (.b false)),x 1 l0] [] .ret)),res:=[(1,none)]}
def lT:Fn:= { aq:=1,vars:=[0,1,2],body:=(q [w 1 (.bx v0 3),x 2 (.b false)] [] (q [f 1 v1,g l0,u (.ca N.aA 0 [] [.l 0,.c (.fn N.jT [])]),u (.un .not l0),x 2 l0] [] .ret)),res:=[(2,none)]}
def jS:Fn:= { aq:=2,vars:=[0,1,3],body:=(q [x 2 (.b false)] [] (q [m v0,f 1 v1,g l0,u (.ln l0),u (.bin .sub l0 (.i 1)),u (.ca N.bD 0 [] [.l 4,.i 0,.l 0]),m l0,y 0 true (.fa v1 1),i 1 true l0,e 2 true v0,y 3 true (.ia l1 l0 1),i 4 true l0,y 5 true (.bin .neq l0 (.i 1099511627776)),u (.pk l6 l0 (.b false)),x 2 l0] [] .ret)),res:=[(2,none)]}
def jT:Fn:= { aq:=1,vars:=[0,2],body:=(q [x 1 (.b false)] [] (q [m v0,u (.bin .neq l0 (.i 2)),x 1 l0] [] .ret)),res:=[(1,none)]}
end Go.Ev.K
namespace Go.Ev
class dT [Lib]:Prop where
 zn:Lib.fs N.kT=some K.kT
 oO:Lib.fs N.bT=some K.bT
 vM:Lib.fs N.iJ=some K.iJ
 r8:Lib.fs N.bX=some K.bX
 BJ:Lib.fs N.gJ=some K.gJ
 BK:Lib.fs N.lR=some K.lR
 xx:Lib.fs N.jR=some K.jR
 BL:Lib.fs N.lS=some K.lS
 BM:Lib.fs N.lT=some K.lT
 xy:Lib.fs N.jS=some K.jS
 xz:Lib.fs N.jT=some K.jT
namespace K
variable [Lib] [dT]
theorem zn:Lib.fs N.kT=some K.kT:=dT.zn
theorem oO:Lib.fs N.bT=some K.bT:=dT.oO
theorem vM:Lib.fs N.iJ=some K.iJ:=dT.vM
theorem r8:Lib.fs N.bX=some K.bX:=dT.r8
theorem BJ:Lib.fs N.gJ=some K.gJ:=dT.BJ
theorem BK:Lib.fs N.lR=some K.lR:=dT.BK
theorem xx:Lib.fs N.jR=some K.jR:=dT.xx
theorem BL:Lib.fs N.lS=some K.lS:=dT.BL
theorem BM:Lib.fs N.lT=some K.lT:=dT.BM
theorem xy:Lib.fs N.jS=some K.jS:=dT.xy
theorem xz:Lib.fs N.jT=some K.jT:=dT.xz
end K
end Go.Ev
namespace Go.Ev
open Go
variable [Lib] [cr] [bZ] [eM] [dT]
def S9(l:List Int)(lo hi:Int)(j:Nat):Bool:= !decide (lo≤nth l j∧nth l j≤hi∧(0<j→nth l (j-1)<nth l j))
def akJ(l:List Int)(lo hi:Int):Bool:= !((List.range l.length).any (S9 l lo hi))
theorem Rh(l:List Int)(lo hi:Int)(hl:l.length≤4294967296):bL 0 N.bX [.t (tL l),I lo,I hi] []=some (B (akJ l lo hi),[]):=by
 refine aI K.r8 rfl ?_
 have loop:∀a b c:D,exS bL K.vL ⟨[.t (tL l),I lo,I hi,a,b,c,.t (tL l),I l.length,I 0],[]⟩=
  some (if(List.range l.length).any (S9 l lo hi)=true
   then(.ret,⟨[.t (tL l),I lo,I hi,B false,I (Ji l.length (S9 l lo hi)),I (nth l (Ji l.length (S9 l lo hi))),.t (tL l),I l.length,I (Ji l.length (S9 l lo hi))],[]⟩)
   else(.exit 0,⟨[.t (tL l),I lo,I hi,.und,.und,.und,.t (tL l),I l.length,I l.length],[]⟩)):=by
  intro a b c
  refine QW (fun j=>⟨[.t (tL l),I lo,I hi,.und,.und,.und,.t (tL l),I l.length,I j],[]⟩) l.length (S9 l lo hi) (fun j=>(.ret,⟨[.t (tL l),I lo,I hi,B false,I j,I (nth l j),.t (tL l),I l.length,I j],[]⟩)) _ rfl ?_ ?_ ?_ (by simp)
  · intro j hj hp
    simp only[S9,Bool.not_eq_false',decide_eq_true_eq]at hp
    obtain⟨h1,h2,h3⟩:=hp
    cases j with
    | zero=>simp(disch:=omega)only[go_sem,K.fW,↓reduceIte]
    | succ j=>
      have h3:=h3 (by omega)
      rw[Nat.add_sub_cancel]at h3
      simp(disch:=omega)only[go_sem,K.fW,↓reduceIte]
  · intro j hj hp
    simp only[S9,Bool.not_eq_true',decide_eq_false_iff_not]at hp
    refine⟨?_,by simp⟩
    by_cases h1:lo≤nth l j
    · by_cases h2:nth l j≤hi
      · cases j with
        | zero=>exact absurd ⟨h1,h2,fun h=>absurd h (by omega)⟩ hp
        | succ j=>
          have h3:¬nth l j<nth l (j+1):=fun h=>hp ⟨h1,h2,fun _=>by simpa using h⟩
          simp(disch:=omega)only[go_sem,K.fW,↓reduceIte]
      · simp(disch:=omega)only[go_sem,K.fW,↓reduceIte]
    · simp(disch:=omega)only[go_sem,K.fW,↓reduceIte]
  · simp(disch:=omega)only[go_sem,K.fW,↓reduceIte]
 unfold akJ
 simp(disch:=omega)only[go_sem,K.bX,↓reduceIte,loop]
 cases hf:(List.range l.length).any (S9 l lo hi)with
 | true=>simp(disch:=omega)only[go_sem,↓reduceIte]
 | false=>simp(disch:=omega)only[go_sem,↓reduceIte,aLt]
theorem aab(l:List Int)(n:Int):akJ l 0 (n-1)=Pa l n:=by
 unfold akJ Pa
 rw[QX]
 refine congrArg (!·) (congrArg _ (funext fun j=>?_))
 unfold S9
 refine congrArg (!·) (decide_eq_decide.2 ⟨fun h=>⟨h.1,by omega,h.2.2⟩,fun h=>⟨h.1,by omega,h.2.2⟩⟩)
structure akK where
 st:Int
 fi:Int
 se:Int
 ti:Int
abbrev akK.e(s:akK):T:= .agg [tI s.st,tI s.fi,tI s.se,tI s.ti]
structure UP where
 area:List Int
 hold:Int
 mis:Int
abbrev UP.e(x:UP):T:= .agg [tL x.area,tI x.hold,tI x.mis]
structure Keys where
 roads:List Int
 keys:List Int
 out:Bool
abbrev Keys.e(k:Keys):T:= .agg [tL k.roads,tL k.keys,.bool k.out]
end Go.Ev
namespace Go.Ev
open Go
variable [Lib] [cr] [bZ] [eM] [dT] [dJ] [dV]
def stN(l:List Int)(t:Int)(n:Nat):Nat→List Int
 | 0=>List.replicate n 1099511627776
 | j+1=>(stN l t n j).set (nth l j).toNat t
theorem DI(l:List Int)(t:Int)(n:Nat):∀j,(stN l t n j).length=n
 | 0=>List.length_replicate
 | j+1=>by simp only[stN,List.length_set,DI l t n j]
theorem aac(n:Nat)(v:Int):List.replicate n (I v)=((List.replicate n v).map (T.int .i64)).map D.t:=by simp
theorem Ri(l:List Int)(t:Int)(n:Nat)(hl:∀x∈l,0≤x∧x<n):∀j,j≤l.length→∀i,i<n→nth (stN l t n j) i=if(i:Int)∈l.take j then t else 1099511627776
 | 0,_,i,hi=>by
   rw[stN,List.take_zero,if_neg (by simp)]
   exact qo (by simp[hi])
 | j+1,hj,i,hi=>by
   have ih:=Ri l t n hl j (by omega) i hi
   have b:=hl _ (ak (l:=l) (j:=j) (by omega))
   rw[stN,bM _ _ (by rw[DI];omega),ih,Un (by omega)]
   by_cases e:i=(nth l j).toNat
   · rw[if_pos e,if_pos (by simp;right;omega)]
   · rw[if_neg e]
     by_cases m:(i:Int)∈l.take j
     · rw[if_pos m,if_pos (by simp[m])]
     · rw[if_neg m,if_neg (by simp[m];omega)]
theorem UQ{l:List Int}(t:Int){n:Nat}(hl:∀x∈l,0≤x∧x<n):stN l t n l.length=yk l t n:=by
 apply MN (by rw[DI,qP])
 intro j hj
 rw[DI]at hj
 rw[Ri l t n hl _ (aLs _) j hj,List.take_length]
 exact(qo (by simp[yk,hj])).symm
theorem UR{l:List Int}{n:Int}(h:Pa l n=true):∀x∈l,0≤x∧x<n:=by
 intro x hx
 simp only[Pa,aLx,aLu,decide_eq_true_eq]at h
 obtain⟨j,hj⟩:=aLf.1 hx
 have:=h j (aLe.1 hj).1
 rw[qo hj]at this
 exact⟨this.1,this.2.1⟩
theorem MO(l:List Int){t:Int}(ht:inT t)(n:Nat):adK (yk l t n):=by
 intro x hx
 simp only[yk,List.mem_map]at hx
 obtain⟨p, -,rfl⟩:=hx
 unfold inT at ht
 simp only[vf]
 split<;>omega
theorem zo{m:cC}(h:m.ok)(h1:1≤m.aa.length)(fl:List Spn)(hfl:fl.length≤1000000)(l:List Int)(hl:l.length≤1000000)(t:Int):
 bL 0 N.dI [.t m.e,.t (tS fl),.t (tL l),I t] []=some (.tup [.t (Gn m fl l t).1.e,I (Gn m fl l t).2],[]):=by
 refine aI K.tO rfl ?_
 have np:=h.np
 have nr:=h.nr
 have f:=UO h fl hfl
 have s:=Rh l 0 (m.aa.length-1) (by omega)
 rw[aab]at s
 have ii:=anw t 0 2147483648
 unfold Gn
 cases hf:pE m fl with
 | false=>
   rw[hf]at f
   obtain⟨aa,roads⟩:=m
   simp only at*
   simp(disch:=omega)only[go_sem,K.dI,↓reduceIte,f,reduceAdd,reduceSub]
   rfl
 | true=>
   rw[hf]at f
   cases hs:Pa l m.aa.length with
   | false=>
     rw[hs]at s
     obtain⟨aa,roads⟩:=m
     simp only at*
     simp(disch:=omega)only[go_sem,K.dI,↓reduceIte,f,s,Bool.true_eq_false,reduceAdd,reduceSub]
     rfl
   | true=>
     rw[hs]at s
     by_cases ht:0≤t∧t≤2147483648
     · have hin:inT t:=ht
       simp only[ht,and_self,decide_true]at ii
       have mem:=UR hs
       have rp:=Q8 1099511627776 m.aa.length h1 (by omega)
       simp only[tL,List.map_cons,List.map_nil]at rp
       have sl:=DI l t m.aa.length
       have se:=UQ t mem
       have l1:∀z0 z2 z6 z8:D,exS bL K.xt ⟨[z0,.t (tS fl),z2,I t,.bp 0 0,.bp 1 0,z6,.ref 2 0 m.aa.length,z8,.t (tL l),I l.length,I 0],[.box (aX m),.box [I 0,.nil],.arr 1 false 0 (((stN l t m.aa.length 0).map (T.int .i64)).map .t)]⟩=
        some (.exit 1,⟨[.und,.t (tS fl),.und,I t,.bp 0 0,.bp 1 0,.und,.ref 2 0 m.aa.length,.und,.t (tL l),I l.length,I l.length],[.box (aX m),.box [I 0,.nil],.arr 1 false 0 (((stN l t m.aa.length l.length).map (T.int .i64)).map .t)]⟩):=by
        intro z0 z2 z6 z8
        refine cT (fun j=>⟨[.und,.t (tS fl),.und,I t,.bp 0 0,.bp 1 0,.und,.ref 2 0 m.aa.length,.und,.t (tL l),I l.length,I j],[.box (aX m),.box [I 0,.nil],.arr 1 false 0 (((stN l t m.aa.length j).map (T.int .i64)).map .t)]⟩) l.length rfl ?_ ?_ (by simp)
        · intro j hj
          have lj:=sl j
          have b:=mem _ (ak hj)
          simp(disch:=omega)only[go_sem,K.qJ,↓reduceIte,stN,reduceAdd,reduceSub]
        · simp(disch:=omega)only[go_sem,K.qJ,↓reduceIte,reduceAdd,reduceSub]
       rw[se]at l1
       have sp:=(Oa h fl hf (yk l t m.aa.length) (qP ..) (zi l hin _)).1
       have eq:=AJ h (fl:=fl) (qP l t m.aa.length) (MO l hin m.aa.length)
       have ln:=qP l t m.aa.length
       have lc:=tV h (fl:=fl) ln (zi l hin _)
       rw[eq,ln]at sp
       simp only[stN]at l1
       generalize qO m fl (yk l t m.aa.length)=cs at*
       generalize yk l t m.aa.length=is at*
       clear sl se eq mem
       obtain⟨aa,roads⟩:=m
       simp only[aX,N8]at*
       simp(disch:=omega)only[go_sem,K.dI,↓reduceIte,f,s,ii,rp,aac,l1,sp,hin,lc,ln,Bool.true_eq_false,not_true_eq_false,reduceAdd,reduceSub]
     · have hin:¬inT t:=ht
       simp only[ht,decide_false]at ii
       obtain⟨aa,roads⟩:=m
       simp only at*
       simp(disch:=omega)only[go_sem,K.dI,↓reduceIte,f,s,ii,hin,Bool.true_eq_false,not_false_eq_true,reduceAdd,reduceSub]
       rfl
end Go.Ev
namespace Go.Ev
open Go
variable [Lib] [cr] [bZ]
@[go_sem] theorem aad (l : List Place) : oI 2 (l.map Place.e) = true := by cases l <;> rfl
@[go_sem] theorem adL (l : List Road) : oI 10 (l.map Road.e) = true := by cases l <;> rfl
@[go_sem] theorem adM (H : af) (d : im) : T1 H 0 1 false (some d.obj) = some (.t (tL d.L), H) := by simp only [im.obj, go_sem]
def im.vN(d:im):Nat→List Place×im
 | 0=>([],d)
 | k+1=>if k=0 then((d.vN k).1++[⟨-10*((d.vN k).2.next 4).1,true⟩],((d.vN k).2.next 4).2)
   else((d.vN k).1++[⟨-10*((d.vN k).2.next 4).1,(((d.vN k).2.next 4).2.one 6).1⟩],(((d.vN k).2.next 4).2.one 6).2)
def im.ahx(d:im)(i:Int):Road×im:=
 (⟨i-1-(d.next (min i 2)).1,i,1+((d.next (min i 2)).2.of [11,59,119,4]).1,1+(((d.next (min i 2)).2.of [11,59,119,4]).2.of [9,3,19]).1,true,false,1,1,0,0⟩,
   (((d.next (min i 2)).2.of [11,59,119,4]).2.of [9,3,19]).2)
def im.MP(d:im):Nat→List Road×im
 | 0=>([],d)
 | k+1=>((d.MP k).1++[((d.MP k).2.ahx (k+1)).1],((d.MP k).2.ahx (k+1)).2)
def im.US(d:im)(n:Int):Road×im:=
 let a:=d.next n
 let b:=a.2.next n
 let l:=b.2.of [11,59,199]
 let r:=l.2.of [9,3]
 let w:=r.2.next 5
 let c:=w.2.one 6
 (⟨a.1,b.1,1+l.1,1+r.1,decide (0<w.1),c.1,1,1,0,0⟩,c.2)
def im.more(n:Int)(l:List Road)(d:im):Nat→List Road×im
 | 0=>(l,d)
 | k+1=>if l.length<10 then im.more n (if(d.US n).1.frm=(d.US n).1.to then l else l++[(d.US n).1]) (d.US n).2 k else(l,d)
def im.aae(d:im):Nat:=if d.L.length=0 then 4 else(2+(d.next 6).1).toNat
def im.ahy(d:im):List Place×im:=(d.next 6).2.vN d.aae
def im.aaf(d:im):List Road×im:=d.ahy.2.MP (d.aae-1)
def im.ahz(d:im):List Road×im:=im.more d.aae d.aaf.1 (d.aaf.2.next 4).2 (d.aaf.2.next 4).1.toNat
def im.UT(d:im):cC×im:=(⟨d.ahy.1,d.ahz.1⟩,d.ahz.2)
@[go_sem] theorem ahA (l : List Spn) : oI 2 (l.map Spn.e) = true := by cases l <;> rfl
@[go_sem] theorem anH (l : List Spn) (k : Nat) (a b : Int) : (List.map D.t (List.map Spn.e l)).set k (D.t (T.agg [tI a, tI b])) = List.map D.t (List.map Spn.e (l.set k ⟨a, b⟩)) := by
 rw[List.map_set,List.map_set]
@[go_sem] theorem apc (H : af) (sz : Nat) (a b c d e f : T) : Ge H sz [.t a, .t b, .t c, .t d, .t e, .t f] = if cj sz [a, b, c, d, e, f] = true then some (.t (.sl [a, b, c, d, e, f]), H) else none := vF H sz [a, b, c, d, e, f]
@[go_sem] theorem apd (H : af) (sz : Nat) (a b c d e f g : T) : Ge H sz [.t a, .t b, .t c, .t d, .t e, .t f, .t g] = if cj sz [a, b, c, d, e, f, g] = true then some (.t (.sl [a, b, c, d, e, f, g]), H) else none := vF H sz [a, b, c, d, e, f, g]
@[go_sem] theorem ape (H : af) (sz : Nat) (a b c d e f g h : T) : Ge H sz [.t a, .t b, .t c, .t d, .t e, .t f, .t g, .t h] = if cj sz [a, b, c, d, e, f, g, h] = true then some (.t (.sl [a, b, c, d, e, f, g, h]), H) else none := vF H sz [a, b, c, d, e, f, g, h]
@[go_sem] theorem ahB {α β γ : Type} {l : List α} {g : α → β} {f : β → γ} {x : γ} {j : Nat} (h : j = l.length) : (List.map f (List.map g l) ++ [x])[j]? = some x := by
 rw[aLh (by simp;omega)];simp[h]
@[go_sem] theorem akL {α β γ : Type} {l : List α} {g : α → β} {f : β → γ} {x y : γ} {j : Nat} (h : j = l.length) : (List.map f (List.map g l) ++ [x]).set j y = List.map f (List.map g l) ++ [y] := by
 rw[List.set_append_right _ _ (by simp;omega)];simp[h]
def im.ahC(d:im):Spn×im:=
 let a:=d.of [0,1000,5000,20000, -5000, -20000,4999,100]
 let b:=a.2.of [0,1,1000,6000]
 let c:=b.2.of [0,1,500]
 let w:=c.2.one 9
 (if w.1=true then⟨-1125899906842624,1125899906842624⟩else⟨a.1-b.1,a.1+c.1⟩,w.2)
def im.MQ(d:im):Nat→List Spn×im
 | 0=>([],d)
 | k+1=>((d.MQ k).1++[((d.MQ k).2.ahC).1],((d.MQ k).2.ahC).2)
def im.anI(d:im)(m:cC):List Spn×im:=d.MQ m.roads.length
end Go.Ev
namespace Go.Ev
open Go
variable [Lib] [cr] [bZ] [eM] [dT] [dJ] [dV]
theorem ahD{p:Int}{n:Int}(h0:0≤p)(h1:p<n):Pa [p] n=true:=by
 simp only[Pa,aLx,aLu,decide_eq_true_eq]
 intro j hj
 obtain rfl:j=0:=by simpa using hj
 exact⟨h0,h1,fun h=>absurd h (by omega)⟩
theorem Jq{m:cC}{fl:List Spn}(hf:pE m fl=true){l:List Int}(hl:Pa l m.aa.length=true){t:Int}(ht:inT t):
 Gn m fl l t=(⟨t,qO m fl (yk l t m.aa.length)⟩,0):=by
 unfold Gn
 rw[if_neg (by simp[hf]),if_neg (by simp[hl]),if_neg (fun h=>h ht)]
structure ahE(m:cC)(fl:List Spn)(s:Wh):Prop where
 ln:s.frm.length=m.aa.length
 ti:inT s.time
 tm:adK s.frm
 lo:∀x∈s.frm,s.time≤x
 cl:clP m fl s.frm
theorem ahE.valid{m:cC}{fl:List Spn}{s:Wh}(h:ahE m fl s):Rc m s=true:=by
 simp only[Rc,aLr,decide_eq_true_eq,aLx,aLu]
 refine⟨fun j hj=>?_,h.ln,h.ti⟩
 have a:=h.tm _ (ak hj)
 have b:=h.lo _ (ak hj)
 unfold plS
 simp only[vf]at a
 omega
end Go.Ev
namespace Go.Ev
open Go
variable [Lib] [cr] [bZ]
def MR(m:cC)(b:Bel)(tag:Int):Int:=if apb m b=false then 6 else if vK (nth b.fZ 0).tags tag<0 then 41 else 0
def anJ(a b:Wh)(t:Int):Bool:=(List.range (min a.frm.length b.frm.length)).any fun p=>decide (nth a.frm p≤t∧nth b.frm p≤t)
def La(m:cC)(Bk:List Int)(t:Int)(j:Nat):List Wh:=(List.range j).map fun i=>(QM m (nth Bk i) t).1
@[simp] theorem aag (m : cC) (Bk : List Int) (t : Int) (j : Nat) : (La m Bk t j).length = j := by simp [La]
def UU(m:cC)(tags Bk:List Int)(t:Int):Bel×Int:=
 if tags.length=Bk.length∧1≤tags.length∧tags.length≤12 then
  if Hu tags=true then match (List.range tags.length).find? (fun i=> !decide ((QM m (nth Bk i) t).2=0))with
   | some i=>(⟨[]⟩,(QM m (nth Bk i) t).2)
   | none=>(⟨[⟨tags,La m Bk t tags.length⟩]⟩,0)
  else(⟨[]⟩,41)
 else(⟨[]⟩,6)
@[go_sem] theorem akM : ([] : List D).all oR = true := (rfl)
@[go_sem] theorem ahF (d : D) (r : List D) : (d :: r).all oR = (oR d && r.all oR) := (rfl)
@[go_sem] theorem aah (cs : List T) : oR (.t (.agg cs)) = false := (rfl)
@[go_sem] theorem adN (cs : List T) : oR (.t (.sl cs)) = false := (rfl)
@[go_sem] theorem aai (k : IntKind) (n : Int) : oR (.t (.int k n)) = true := (rfl)
@[go_sem] theorem WL (b : Bool) : oR (.t (.bool b)) = true := (rfl)
@[go_sem] theorem apf (l : List Wh) (k : Nat) (a : Int) (b : List Int) : (List.map D.t (List.map Wh.e l)).set k (D.t (T.agg [tI a, tL b])) = List.map D.t (List.map Wh.e (l.set k ⟨a, b⟩)) := by
 rw[List.map_set,List.map_set]
def akN(m:cC)(tag:Int)(l:List Int)(a b:Int)(x:World):Wh×Int:=ao0 m (nth x.whr (vK x.tags tag).toNat) l a b
def akO(tag:Int)(x:World)(w:Wh):World:=⟨x.tags,x.whr.set (vK x.tags tag).toNat w⟩
def anK(tag:Int)(r:Wh×Int)(x:World)(out:List World):List World:=
 if r.2=43 then out else out++[if r.2=0 then akO tag x r.1 else x]
def aaj(m:cC)(tag:Int)(l:List Int)(a b:Int)(ws:List World):Nat→List World
 | 0=>[]
 | j+1=>anK tag (akN m tag l a b (nth ws j)) (nth ws j) (aaj m tag l a b ws j)
def ahG(m:cC)(tag:Int)(l:List Int)(a b:Int)(ws:List World)(j:Nat):Bool:=decide ((akN m tag l a b (nth ws j)).2=6∨(akN m tag l a b (nth ws j)).2=8)
def ahH(m:cC)(b:Bel)(tag:Int)(l:List Int)(a c:Int):Bel×Int:=
 if MR m b tag≠0 then(b,MR m b tag)else match (List.range b.fZ.length).find? (ahG m tag l a c b.fZ)with
  | some i=>(b,(akN m tag l a c (nth b.fZ i)).2)
  | none=>if(aaj m tag l a c b.fZ b.fZ.length).length=0 then(b,43)else(⟨aaj m tag l a c b.fZ b.fZ.length⟩,0)
def akP(m:cC)(tag:Int)(l:List Int)(a b bl:Int)(x:World):Wh×Int:=ao5 m (nth x.whr (vK x.tags tag).toNat) l a b bl
def anL(tag:Int)(r:Wh×Int)(x:World)(out:List World):List World:=out++[if r.2=0 then akO tag x r.1 else x]
def ahI(m:cC)(tag:Int)(l:List Int)(a b bl:Int)(ws:List World):Nat→List World
 | 0=>[]
 | j+1=>anL tag (akP m tag l a b bl (nth ws j)) (nth ws j) (ahI m tag l a b bl ws j)
def ahJ(m:cC)(tag:Int)(l:List Int)(a b bl:Int)(ws:List World)(j:Nat):Bool:=decide ((akP m tag l a b bl (nth ws j)).2=6∨(akP m tag l a b bl (nth ws j)).2=8)
def ahK(m:cC)(b:Bel)(tag:Int)(l:List Int)(a c bl:Int):Bel×Int:=
 if MR m b tag≠0 then(b,MR m b tag)else match (List.range b.fZ.length).find? (ahJ m tag l a c bl b.fZ)with
  | some i=>(b,(akP m tag l a c bl (nth b.fZ i)).2)
  | none=>(⟨ahI m tag l a c bl b.fZ b.fZ.length⟩,0)
theorem ig{gc:Bool}{dead:List Nat}{c:C}{vs:List D}{H:af}(P:Nat→St→Prop)(n:Nat)(Q:Ex×St→Prop)(h0:P 0 ⟨jg dead vs,H⟩)
 (hs:∀j st,j<n→P j st→∃st',om gc dead st.H.length (exS bL c st)=some st'∧P (j+1) st')
 (he:∀st,P n st→∃q,exS bL c st=some q∧q.1≠ .normal∧Q q):∃q,exS bL (.loop gc dead c) ⟨vs,H⟩=some q∧Q q:=by
 have key:∀(k j:Nat) (st:St),j+k=n→P j st→∃q,tK gc dead (exS bL c) st=some q∧Q q:=by
  intro k
  induction k with
  | zero=>
    intro j st hj hp
    obtain⟨q,h1,h2,h3⟩:=he st (by rw[← hj];exact hp)
    exact⟨q,nC h1 h2,h3⟩
  | succ k ih=>
    intro j st hj hp
    obtain⟨st',h1,h2⟩:=hs j st (by omega) hp
    obtain⟨q,h3,h4⟩:=ih (j+1) st' (by omega) h2
    exact⟨q,sH h1 h3,h4⟩
 exact key n 0 _ (by omega) h0
abbrev ints(l:List Int):List D:=(l.map (T.int .i64)).map .t
abbrev whs(l:List Wh):List D:=(l.map Wh.e).map .t
def Oc(out:List World)(x:World):Nat:=match (List.range out.length).find? (fun k=> !ahv (nth out k).tags x.tags)with
 | some k=>k
 | none=>out.length
def ahL(a b:List Wh):Nat→List Wh
 | 0=>a
 | p+1=>(ahL a b p).set p (QO (nth a p) (nth b p)).1
def ahM(a b:List Wh):List Wh:=ahL a b (min a.length b.length)
def anM(out:List World)(x:World):List World:=
 if Oc out x<out.length∧(nth out (Oc out x)).tags=x.tags then out.set (Oc out x) ⟨x.tags,ahM (nth out (Oc out x)).whr x.whr⟩
 else out.take (Oc out x)++[x]++out.drop (Oc out x)
def ahN(l:List World):Nat→List World
 | 0=>[]
 | j+1=>anM (ahN l j) (nth l j)
def ahO(l:List World):List World:=ahN l l.length
structure Rp(H:af)(id:Nat)(es:List D)(fa fb:Nat→Nat)(out:List World):Prop where
 arr:H[id]?=some (.arr 2 false 0 es)
 len:es.length=out.length
 el:∀j,j<out.length→es[j]?=some (.agg [.ref (fa j) 0 (nth out j).tags.length,.ref (fb j) 0 (nth out j).whr.length])
 ha:∀j,j<out.length→H[fa j]?=some (.arr 1 false 0 (ints (nth out j).tags))
 hb:∀j,j<out.length→H[fb j]?=some (.arr 2 false 0 (whs (nth out j).whr))
 na:∀j,j<out.length→fa j≠id
 nb:∀j,j<out.length→fb j≠id
 nab:∀i j,i<out.length→j<out.length→fa i≠fb j
 nbb:∀i j,i<out.length→j<out.length→i≠j→fb i≠fb j
@[go_sem] theorem akQ (a b : Wh) : (QO a b).1.e = .agg [tI (QO a b).1.time, tL (QO a b).1.frm] := rfl
theorem Rp.size{H:af}{id:Nat}{es:List D}{fa fb:Nat→Nat}{out:List World}(hr:Rp H id es fa fb out):∀e∈es,e.cells.length=2:=by
 intro e he
 obtain⟨j,hj⟩:=aLf.1 he
 have hl:=(aLe.1 hj).1
 rw[hr.el j (by rw[← hr.len];exact hl)]at hj
 cases hj;rfl
theorem Lb{α:Type} [Dat α](l:List α)(k:Nat)(hk:k<l.length)(x:α)(j:Nat):nth (l.set k x) j=if j=k then x else nth l j:=by
 unfold nth
 rw[aLl]
 by_cases h:j=k
 · rw[if_pos h,h,aLj hk];rfl
 · rw[if_neg h,aLi (fun e=>h e.symm),aLl]
theorem Rp.merge{H:af}{id:Nat}{es:List D}{fa fb:Nat→Nat}{out:List World}(hr:Rp H id es fa fb out){k:Nat}(hk:k<out.length)(x:World)(ht:(nth out k).tags=x.tags)(hw:x.whr.length=(nth out k).whr.length):
 Rp (H.set (fb k) (.arr 2 false 0 (whs x.whr))) id es fa fb (out.set k x):=by
 have ol:(out.set k x).length=out.length:=List.length_set
 have nk:=hr.nb k hk
 have kl:=DF (hr.hb k hk)
 refine⟨by rw[sJ nk];exact hr.arr,by rw[ol];exact hr.len,?_,?_,?_,by rw[ol];exact hr.na,by rw[ol];exact hr.nb,by rw[ol];exact hr.nab,by rw[ol];exact hr.nbb⟩
 · intro j hj
   rw[ol]at hj
   rw[hr.el j hj,Lb out k hk]
   by_cases h:j=k
   · rw[if_pos h,h,ht,hw]
   · rw[if_neg h]
 · intro j hj
   rw[ol]at hj
   rw[sJ (fun e=>hr.nab j k hj hk e.symm),hr.ha j hj,Lb out k hk]
   by_cases h:j=k
   · rw[if_pos h,h,ht]
   · rw[if_neg h]
 · intro j hj
   rw[ol]at hj
   rw[Lb out k hk]
   by_cases h:j=k
   · rw[if_pos h,h,Gm kl]
   · rw[if_neg h,sJ (fun e=>hr.nbb j k hj hk h e.symm)];exact hr.hb j hj
theorem Rp.frz{H:af}{id:Nat}{es:List D}{fa fb:Nat→Nat}{out:List World}(hr:Rp H id es fa fb out):
 cK (frz H 8) es=some (out.map World.e)∧∀i∈es.flatMap (gu H 8),i≠id:=by
 have hl:=hr.len
 have key:∀(j:Nat) (hj:j<out.length),Go.Ev.frz H 8 (.agg [.ref (fa j) 0 (nth out j).tags.length,.ref (fb j) 0 (nth out j).whr.length])=some (nth out j).e∧
  gu H 8 (.agg [.ref (fa j) 0 (nth out j).tags.length,.ref (fb j) 0 (nth out j).whr.length])=[fa j,fb j]:=by
  intro j hj
  have h1:=hr.ha j hj
  have h2:=hr.hb j hj
  simp(disch:=omega)only[go_sem,h1,h2,ints,whs,↓reduceIte]
 constructor
 · have:∀(es:List D) (ts:List T),es.length=ts.length→(∀(j:Nat) e t,es[j]?=some e→ts[j]?=some t→Go.Ev.frz H 8 e=some t)→cK (Go.Ev.frz H 8) es=some ts:=by
    intro es
    induction es with
    | nil=>intro ts h _;cases ts with
      | nil=>rfl
      | cons=>simp at h
    | cons e es ih=>
      intro ts h hh
      cases ts with
      | nil=>simp at h
      | cons t ts=>
        have h1:=hh 0 e t rfl rfl
        have h2:=ih ts (by simpa using h) fun j e t he ht=>hh (j+1) e t (by simpa using he) (by simpa using ht)
        simp only[cK,h1,aLq,h2,aLw]
   refine this es _ (by rw[List.length_map,hl]) fun j e t he ht=>?_
   have hj:j<out.length:=by rw[← hl];exact(aLe.1 he).1
   rw[hr.el j hj]at he
   rw[aQ _ hj]at ht
   cases he;cases ht
   exact(key j hj).1
 · intro i hi
   obtain⟨e,he,hi⟩:=List.mem_flatMap.1 hi
   obtain⟨j,hj⟩:=aLf.1 he
   have hjl:j<out.length:=by rw[← hl];exact(aLe.1 hj).1
   rw[hr.el j hjl]at hj
   cases hj
   rw[(key j hjl).2]at hi
   simp only[List.mem_cons,List.not_mem_nil,or_false]at hi
   rcases hi with rfl | rfl
   · exact hr.na j hjl
   · exact hr.nb j hjl
@[go_sem] theorem WM {α β γ : Type} [Dat α] (f : β → γ) (g : α → β) {l : List α} {i j : Nat} {x : α} (h : j < l.length) : (((l.set i x).map g).map f)[j]? = some (f (g (nth (l.set i x) j))) := cE f g (by rw [List.length_set]; exact h)
def anN(l:List Int)(i j:Nat):List Int:=(l.set i (nth l j)).set j (nth l i)
def anO(i j:Nat)(t:Int)(x:World):World:=⟨anN x.tags i j,(x.whr.set i (QN (nth x.whr i) t).1).set j (QN (nth x.whr j) t).1⟩
def anP(i j:Nat)(t:Int)(x:World)(out:List World):List World:=if anJ (nth x.whr i) (nth x.whr j) t=true then out++[anO i j t x]else out
def Rj(i j:Nat)(t:Int)(ws:List World):Nat→List World
 | 0=>ws
 | k+1=>anP i j t (nth ws k) (Rj i j t ws k)
def aak(m:cC)(b:Bel)(i j t:Int):Bel×Int:=
 if apb m b=false then(b,6)else if i<0∨((nth b.fZ 0).tags.length:Int)≤i∨j<0∨((nth b.fZ 0).tags.length:Int)≤j∨i=j then(b,19)
 else if ¬inT t then(b,8)else if 24<(ahO (Rj i.toNat j.toNat t b.fZ b.fZ.length)).length then(b,44)else(⟨ahO (Rj i.toNat j.toNat t b.fZ b.fZ.length)⟩,0)
def ahP:Nat→List Int
 | 0=>[]
 | k+1=>ahP k++[3+(k:Int)*2]
def im.MS(d:im)(n:Int):Nat→List Int×im
 | 0=>([],d)
 | k+1=>((d.MS n k).1++[((d.MS n k).2.next n).1],((d.MS n k).2.next n).2)
structure BSt where
 b:Bel
 t:Int
 d:im
def im.aal(m:cC)(n:Int)(s:BSt):BSt:=
 let a:=s.d.next 60
 let c:=a.2.next 3
 if c.1=0 then
  let i:=c.2.next n
  let j:=i.2.next n
  let r:=aak m s.b i.1 j.1 (s.t+a.1)
  ⟨if r.2=0 then r.1 else s.b,s.t+a.1,j.2⟩
 else if c.1=1 then
  let g:=c.2.next n
  let l:=g.2.N1 m.aa.length
  let e:=l.2.next 9
  let r:=ahH m s.b (3+2*g.1) l.1 (s.t+a.1) (s.t+a.1+e.1)
  ⟨if r.2=0 then r.1 else s.b,s.t+a.1,e.2⟩
 else
  let g:=c.2.next n
  let l:=g.2.N1 m.aa.length
  let e:=l.2.next 40
  let r:=ahK m s.b (3+2*g.1) l.1 (s.t+a.1) (s.t+a.1+50) e.1
  ⟨if r.2=0 then r.1 else s.b,s.t+a.1,e.2⟩
def im.apg(m:cC)(n:Int)(s:BSt):Nat→BSt
 | 0=>s
 | k+1=>im.aal m n (im.apg m n s k)
def im.anQ(d:im):Nat:=(1+(d.next 3).1).toNat
def im.akR(d:im)(m:cC):List Int×im:=(d.next 3).2.MS m.aa.length d.anQ
def im.ap8(d:im)(m:cC):BSt:=⟨(UU m (ahP d.anQ) (d.akR m).1 ((d.akR m).2.next 100).1).1,100,(((d.akR m).2.next 100).2.next 5).2⟩
def im.ap9(d:im)(m:cC):Nat:=(((d.akR m).2.next 100).2.next 5).1.toNat
def im.aph(d:im)(m:cC):BSt:=im.apg m d.anQ (d.ap8 m) (d.ap9 m)
def im.apj(d:im)(m:cC):Bel×im:=((d.aph m).b,(d.aph m).d)
structure WOk(m:cC)(N:Nat)(x:World):Prop where
 tg:x.tags.length=N
 wh:x.whr.length=N
 fr:∀w∈x.whr,w.frm.length=m.aa.length
 ti:∀w∈x.whr,inT w.time
structure BOk(m:cC)(N:Nat)(b:Bel):Prop where
 w1:1≤b.fZ.length
 w2:b.fZ.length≤24
 n1:1≤N
 n2:N≤12
 ws:∀x∈b.fZ,WOk m N x
theorem WOk.sz{m:cC}{N:Nat}{x:World}(h:WOk m N x)(hm:m.ok)(hn:N≤12):x.sz:=by
 have np:=hm.np
 obtain⟨t1,t2,t3, -⟩:=h
 exact⟨by omega,by omega,fun w hw=>by rw[t3 w hw];omega⟩
theorem BOk.sz{m:cC}{N:Nat}{b:Bel}(h:BOk m N b)(hm:m.ok):b.sz:=
 ⟨by have:=h.w2;omega,fun x hx=>(h.ws x hx).sz hm h.n2⟩
def im.spread(d:im)(m:cC)(fl:List Spn):Wh×im:=
 let p:=d.next m.aa.length
 let t:=p.2.next 200
 let s:=Gn m fl [p.1] t.1
 let o:=t.2.one 2
 if o.1=true then
  let f:=o.2.anI m
  let a:=f.2.next 100
  let r:=Z6 m fl m f.1 s.1 (s.1.time+a.1)
  if r.2=0 then(r.1,a.2)else(s.1,a.2)
 else(s.1,o.2)
theorem Jr{m:cC}{l:List Spn}(h1:l.length=m.roads.length)(h2:∀x∈l,x.ok):pE m l=true:=by
 simp only[pE,aLr,decide_eq_true_eq,aLx,aLu]
 exact⟨fun j hj=>h2 _ (ak hj),h1⟩
structure Mch where
 kind:Int
 num:Int
 pl:List Int
instance : Dat Mch := ⟨⟨0, 0, []⟩⟩
abbrev Mch.e(x:Mch):T:= .agg [tI x.kind,tI x.num,tL x.pl]
@[go_sem] theorem ahQ (l : List Mch) : oI 3 (l.map Mch.e) = true := by cases l <;> rfl
end Go.Ev
namespace Go.Ev
open Go
variable [Lib] [cr] [bZ] [eM] [dT] [dJ] [dV]
theorem Rk{a g h:Int}(ha:0≤a)(hg:0<g)(hh:g≤h):a.tdiv h≤a.tdiv g:=by
 rw[Int.tdiv_eq_ediv_of_nonneg ha,Int.tdiv_eq_ediv_of_nonneg ha]
 have h1:=Int.ediv_nonneg ha (by omega:0≤h)
 have h2:a / h*h≤a:=Int.ediv_mul_le a (by omega)
 refine(Int.le_ediv_iff_mul_le hg).2 (Int.le_trans (Int.mul_le_mul_of_nonneg_left hh h1) h2)
theorem Js{n:Nat}{x:Road}(h:x.ok n){f g:Spn}(h1:g.low≤f.low)(h2:f.high≤g.high)(back:Bool)(hn:0≤eY x f back):0≤eY x g back∧eY x g back≤eY x f back:=by
 have l0:=h.l0;have a0:=h.a0
 have hm:0≤x.len*x.area:=Int.mul_nonneg (by omega) (by omega)
 have key:∀a b:Int,a≤b→0<a→0≤(x.len*x.area*1000).tdiv b∧(x.len*x.area*1000).tdiv b≤(x.len*x.area*1000).tdiv a:=fun a b hab ha=>
  ⟨Int.tdiv_nonneg (by omega) (by omega),Rk (by omega) ha hab⟩
 have pos:∀b:Int,0<b→0≤(x.len*x.area*1000).tdiv b:=fun b hb=>Int.tdiv_nonneg (by omega) (by omega)
 unfold eY at hn ⊢
 simp only at hn ⊢
 split at hn
 · omega
 · rename_i hc
   rw[if_neg hc,if_neg hc]
   cases back with
   | false=>
     simp only[aLt,↓reduceIte]at hn ⊢
     by_cases c1:0<f.high
     · have k:=key f.high g.high h2 c1
       have p1:=pos f.high c1
       rw[if_pos c1]at hn ⊢
       rw[if_pos (by omega:0<g.high)]
       generalize (x.len*x.area*1000).tdiv f.high=A at*
       generalize (x.len*x.area*1000).tdiv g.high=B at*
       split<;>split<;>omega
     · rw[if_neg c1]at hn ⊢
       by_cases c2:0<g.high
       · have p1:=pos g.high c2
         rw[if_pos c2]
         generalize (x.len*x.area*1000).tdiv g.high=B at*
         split at hn<;>split<;>(try split)<;>omega
       · rw[if_neg c2]
         split at hn<;>split<;>(try split)<;>omega
   | true=>
     simp only[↓reduceIte]at hn ⊢
     by_cases c1:0< -f.low
     · have k:=key (-f.low) (-g.low) (by omega) c1
       have p1:=pos (-f.low) c1
       rw[if_pos c1]at hn ⊢
       rw[if_pos (by omega:0< -g.low)]
       generalize (x.len*x.area*1000).tdiv (-f.low)=A at*
       generalize (x.len*x.area*1000).tdiv (-g.low)=B at*
       split<;>split<;>omega
     · rw[if_neg c1]at hn ⊢
       by_cases c2:0< -g.low
       · have p1:=pos (-g.low) c2
         rw[if_pos c2]
         generalize (x.len*x.area*1000).tdiv (-g.low)=B at*
         split at hn<;>split<;>(try split)<;>omega
       · rw[if_neg c2]
         split at hn<;>split<;>(try split)<;>omega
theorem Lc{m:cC}(h:m.ok){f g:List Spn}(hfg:∀k,k<m.roads.length→(nth g k).low≤(nth f k).low∧(nth f k).high≤(nth g k).high){l:List Int}(hl:l.length=m.aa.length)(ht:adK l)(j:Nat):
 nth (qO m g l) j≤nth (qO m f l) j:=by
 rw[← AJ h hl ht,←AJ h hl ht]
 obtain⟨a1,a2,a3⟩:=Rf h (fl:=g) hl ht.bnd
 refine WI h (fun k hk back hn hs=>?_) hl (WK h hl) j
 obtain⟨w1,w2⟩:=hfg k hk
 obtain⟨t1,t2⟩:=Js (h.rs _ (ak hk)) w1 w2 back hn
 have:=a1 k hk back t1 (by omega)
 omega
end Go.Ev
namespace Go.Ev
open Go
variable [Lib] [cr] [bZ]
@[go_sem] theorem ahR : nW [] [] [] = some true := (rfl)
@[go_sem] theorem ahS (ks : List Bool) (k : IntKind) (a b : Int) (xs ys : List T) : nW (true :: ks) (.int k a :: xs) (.int k b :: ys) = Ux (decide (a = b)) (nW ks xs ys) := by
 simp only[nW,if_true,afv]
 cases nW ks xs ys<;>rfl
@[go_sem] theorem adO (ks : List Bool) (a b : Bool) (xs ys : List T) : nW (false :: ks) (.bool a :: xs) (.bool b :: ys) = Ux (decide (a = b)) (nW ks xs ys) := by
 simp only[nW,show(a==b)=decide (a=b)from rfl]
 cases nW ks xs ys<;>rfl
@[go_sem] theorem akS (H : af) (ks : List Bool) (neg : Bool) (xs ys : List T) : xc H (.sc ks) neg (some (.t (.agg xs))) (some (.t (.agg ys))) = Uy H neg (nW ks xs ys) := by
 simp only[xc,aLq,VL,eqD]
 cases nW ks xs ys with
 | none=>rfl
 | some r=>cases neg<;>rfl
end Go.Ev
namespace Go.Ev
open Go
variable [Lib] [cr] [bZ] [eM] [dT]
abbrev never:Int:=1099511627776
abbrev Wh.box(w:Wh):Obj:= .box [I w.time,.t (tL w.frm)]
structure Req where
 x:UP
 s:akK
 k:Keys
 b:Bel
 t:Int
 from_:Int
abbrev Req.e(r:Req):T:= .agg [tL r.x.area,tI r.x.hold,tI r.x.mis,tI r.s.st,tI r.s.fi,tI r.s.se,tI r.s.ti,tL r.k.roads,tL r.k.keys,.bool r.k.out,.sl (r.b.fZ.map World.e),tI r.t,tI r.from_]
structure Req.sz(r:Req):Prop where
 hx:r.x.area.length≤1000000
 hk:r.k.roads.length≤1000000
 hk2:r.k.keys.length≤1000000
 hb:r.b.sz
section
variable (x : UP) (s : akK) (k : Keys) (b : Bel) (hx : x.area.length ≤ 1000000) (hk : k.roads.length ≤ 1000000) (hk2 : k.keys.length ≤ 1000000) (hb : b.sz)
include hx hk hk2 hb
end
end Go.Ev
namespace Go.Ev
open Go
variable [Lib] [cr] [bZ] [eM] [dT]
section
variable (area : List Int) (ha : area.length ≤ 1000000) (xs : List World) (hx : xs.length ≤ 1000000)
include ha hx
end
end Go.Ev
namespace Go.Ev.N
def Od:Nat:=178
def Oe:Nat:=179
def Pe:Nat:=180
def Of:Nat:=181
def Pf:Nat:=182
def Rm:Nat:=183
def Pg:Nat:=184
def aam:Nat:=185
def jW:Nat:=186
def aan:Nat:=187
def Rn:Nat:=188
def kW:Nat:=189
def jX:Nat:=190
def WN:Nat:=191
def adP:Nat:=192
def UW:Nat:=193
def jY:Nat:=194
def aao:Nat:=195
def adQ:Nat:=196
def ahT:Nat:=197
def gB:Nat:=198
def dW:Nat:=199
def kr:Nat:=200
def gv:Nat:=201
def bJ:Nat:=202
def WO:Nat:=203
def ai:Nat:=204
def Ro:Nat:=205
def aap:Nat:=206
def WQ:Nat:=207
def fE:Nat:=208
def eS:Nat:=209
def fF:Nat:=210
def pJ:Nat:=211
def pK:Nat:=212
def pL:Nat:=213
def nI:Nat:=214
end Go.Ev.N
namespace Go.Ev.K
open Go.Ev
def jW:Fn:= { aq:=3,vars:=[0,1,2,3,6,7,8],body:=(q [w 3 (.bx v0 2),w 4 (.al [z0,.nil] []),x 5 (.i 0)] [] (.seq (.blk 0 (.ite [h 2 v3,u (.ca N.cN 0 [] [.l 0]),u (.un .not l0),m l0] [] 0 (q [u (.bd [z0,.nil] []),u (.st v4 l0 2 []),x 5 (.i 6)] [] .ret) (.ite [m v1,f 0 v3,g l0,u (.ln l0),u (.bin .sub l0 (.i 1)),u (.ca N.bD 0 [] [.l 4,.i 0,.l 0]),u (.un .not l0),m l0] [] 0 (q [u (.bd [z0,.nil] []),u (.st v4 l0 2 []),x 5 (.i 3)] [] .ret) (.ite [m v2,u (.ca N.bD 0 [] [.l 0,.i 0,.i 2147483648]),u (.un .not l0),m l0] [] 0 (q [u (.bd [z0,.nil] []),u (.st v4 l0 2 []),x 5 (.i 8)] [] .ret) .skip)))) (q [h 2 v3,u (.ca N.gB 1 [] [.l 0]),x 6 l0] [] (q [m v6,m v1,m v2,a 1 l2 l1,u (.st l0 l1 1 [])] [] (q [m v2,h 2 v3,m v6,m v2,u (.ca N.dW 0 [] [.l 2,.l 1,.l 0,.c (.fn N.kr [])]),u (.bd [z0,.nil] [(0,1,.l 4),(1,1,.l 0)]),u (.st v4 l0 2 []),x 5 (.i 0)] [] .ret))))),res:=[(4,some (2,true)),(5,none)]}
def kW:Fn:= { aq:=2,vars:=[0,1,2,3,4,5,6,7,8,24,25,26],body:= .fail,res:=[(4,some (2,true)),(5,none)]}
def jX:Fn:= { aq:=2,vars:=[0,1,2,3,4],body:=(q [w 2 (.bx v0 2),w 3 (.bx v1 2),x 4 (.b false)] [] (q [h 2 v2,u (.ca N.cN 0 [] [.l 0]),m l0,y 0 true (.ld v2 2 true),y 1 true (.ld v3 2 true),y 2 true (.ca N.gv 0 [] [.l 1,.l 0]),u (.pk l3 l0 (.b false)),m l0,y 0 true (.ld v2 2 true),y 1 true (.fa v3 1),i 2 true l0,y 3 true (.fa v3 0),i 4 true l0,y 5 true (.ca N.dW 0 [] [.l 4,.l 2,.l 0,.c (.fn N.kr [])]),y 6 true (.fa v3 1),i 7 true l0,y 8 true (.ca N.bJ 0 [] [.l 2,.l 0]),u (.pk l9 l0 (.b false)),x 4 l0] [(15,6)] .ret)),res:=[(4,none)]}
end Go.Ev.K
namespace Go.Ev
class kL [Lib]:Prop where
 xA:Lib.fs N.jW=some K.jW
 zp:Lib.fs N.kW=some K.kW
 xB:Lib.fs N.jX=some K.jX
namespace K
variable [Lib] [kL]
theorem xA:Lib.fs N.jW=some K.jW:=kL.xA
theorem zp:Lib.fs N.kW=some K.kW:=kL.zp
theorem xB:Lib.fs N.jX=some K.jX:=kL.xB
end K
end Go.Ev
namespace Go.Ev.K
open Go.Ev
def jY:Fn:= { aq:=3,vars:=[0,1,2,3,4,6,7],body:=(q [w 3 (.bx v0 2),w 4 (.bx v1 2),w 5 (.al [z0,.nil] []),x 6 (.i 0)] [] (.seq (.ite [h 2 v3,u (.ca N.cN 0 [] [.l 0]),u (.un .not l0),m l0,y 0 false (.ld v3 2 true),y 1 false (.ld v4 2 true),y 2 false (.ca N.gv 0 [] [.l 1,.l 0]),y 3 false (.un .not l0),u (.pk l4 (.b true) l0)] [] 0 (q [h 2 v4,u (.st v5 l0 2 []),x 6 (.i 6)] [] .ret) .skip) (.seq (.ite [m v2,f 0 v4,g l0,u (.bin .lss l2 l0),m l0,e 0 false v2,y 1 false (.bin .gtr l0 (.i 2147483648)),u (.pk l2 (.b true) l0)] [] 0 (q [h 2 v4,u (.st v5 l0 2 []),x 6 (.i 8)] [] .ret) .skip) (q [m v2,h 2 v3,f 1 v4,g l0,m v2,u (.ca N.dW 0 [] [.l 3,.l 1,.l 0,.c (.fn N.kr [])]),u (.bd [z0,.nil] [(0,1,.l 5),(1,1,.l 0)]),u (.st v5 l0 2 []),x 6 (.i 0)] [] .ret)))),res:=[(5,some (2,true)),(6,none)]}
def gB:Fn:= { aq:=1,vars:=[0,1,2],body:=(q [w 1 (.bx v0 2),w 2 (.mv (.c (.nil)))] [] (q [u (.bs [.i 1099511627776] 1),f 0 v1,g l0,u (.ln l0),u (.ca N.br 1 [] [.l 3,.l 0]),x 2 l0] [] .ret)),res:=[(2,none)]}
def zq:C:= (.seq (.ite [g v9] [] 0 .skip (.exit 0)) (.seq (.blk 1 (q [u (.st v9 (.b false) 1 [])] [] (.reg [h 2 v4,g v8,u (.mf N.eS [.v 5,.v 8,.v 6,.v 9]),u (.ca N.fE 0 [1] [.l 2,.l 1,.l 0])] []))) (q [w 10 (.ld v9 1 false)] [] (.reg [w 9 (.al [z1] []),u (.st l0 v10 1 [])] []))))
def AK:C:= .loop false [0,1,2,3,7,10] K.zq
def dW:Fn:= { aq:=4,vars:=[0,1,2,3,4,6,7,8,9,10,18],body:=(q [w 4 (.bx v0 2),w 5 (.bx v2 1),w 6 (.bx v3 1),w 7 (.mv (.c (.nil)))] [] (q [m v1,u (.ca N.ai 1 [] [.l 0]),w 8 (.al [.nil] []),u (.st l0 l1 1 [])] [] (.seq (q [w 9 (.al [z1] []),u (.st l0 (.b true) 1 [])] [] (.blk 0 K.AK)) (q [g v8,x 7 l0] [] .ret)))),res:=[(7,none)]}
def kr:Fn:= { aq:=1,vars:=[2],body:=(q [x 0 (.b false)] [] (q [x 0 (.b true)] [] .ret)),res:=[(0,none)]}
def gv:Fn:= { aq:=2,vars:=[0,1,2,3,4],body:=(q [w 2 (.bx v0 2),w 3 (.bx v1 2),x 4 (.b false)] [] (q [f 1 v3,g l0,u (.ln l0),f 0 v2,g l0,u (.ln l0),u (.bin .eql l3 l0),m l0,y 0 true (.fa v3 0),i 1 true l0,y 2 true (.ca N.bD 0 [] [.l 0,.i 0,.i 2147483648]),u (.pk l3 l0 (.b false)),m l0,y 0 true (.fa v3 1),i 1 true l0,y 2 true (.ca N.aA 0 [] [.l 0,.c (.fn N.fF [])]),y 3 true (.un .not l0),u (.pk l4 l0 (.b false)),x 4 l0] [] .ret)),res:=[(4,none)]}
def sM:C:= (.its [u (.bin .lss v5 v4)] [] 0 .skip (.exit 0) (.seq (.blk 1 (q [m v5,x 3 l0] [] (.ite [m v0,m v3,a 1 l1 l0,g l0,m v1,m v3,a 1 l1 l0,g l0,u (.bin .neq l4 l0)] [] 0 (q [x 2 (.b false)] [] .ret) .skip))) (.reg [u (.bin .add v5 (.i 1)),x 5 l0] [])))
def tW:C:= .loop true [2,3] K.sM
def bJ:Fn:= { aq:=2,vars:=[0,1,4,5,12,13],body:=(q [x 2 (.b false)] [] (.seq (.ite [m v0,u (.ln l0),m v1,u (.ln l0),u (.bin .neq l2 l0)] [] 0 (q [x 2 (.b false)] [] .ret) .skip) (.seq (q [m v0,w 4 (.ln l0),x 5 (.i 0)] [] (.blk 0 K.tW)) (q [x 2 (.b true)] [] .ret)))),res:=[(2,none)]}
def ai:Fn:= { aq:=1,vars:=[0,2],body:=(q [w 1 (.mv (.c (.nil)))] [] (.itk [m v0,u (.eqk (.sl) false l0 (.c (.nil)))] [] 0 (q [w 1 (.nw 1)] [] .ret) .skip (q [u (.bsr [] 1),m v0,u (.app l1 l0 false 1),x 1 l0] [] .ret))),res:=[(1,none)]}
def yl:C:= (.its [u (.bin .lss v14 (.i 2))] [] 0 .skip (.exit 2) (.seq (.blk 3 (q [u (.ix v13 v14 2 1 false),x 6 l0] [] (q [f 0 v5,g l0,f 1 v5,g l0,x 7 l2,x 8 l1] [] (.seq (.ite [m v6] [] 0 (.reg [m v8,m v7,x 7 l1,x 8 l1] []) .skip) (q [h 2 v3,m v4,m v6,u (.ca N.pJ 0 [] [.l 2,.l 1,.l 0]),x 9 l0] [] (.ite [m v9,u (.bin .geq l0 (.i 0)),m l0,e 0 true v1,e 1 true v7,y 2 true (.ia l1 l0 1),i 3 true l0,y 4 true (.bin .lss l0 (.i 1099511627776)),u (.pk l5 l0 (.b false))] [] 0 (.reg [m v2,m v7,m v8,m v1,m v7,a 1 l1 l0,g l0,m v9,u (.bin .add l1 l0),u (.cw l8 0 [] [.l 7,.l 6,.l 0])] []) .skip)))))) (.reg [u (.bin .add v14 (.i 1)),x 14 l0] [])))
def zt:C:= .loop true [0,6,7,8,9] K.yl
def ym:C:= (.its [u (.bin .lss v12 v11)] [] 0 .skip (.exit 0) (.seq (.blk 1 (q [m v12,a 10 v10 v12,h 10 l0,w 5 (.al [z0,z0,z0,z0,z1,z1,z0,z0,z0,z0] []),x 4 l3,u (.st l1 l2 10 [])] [] (q [w 13 (.bd [z1,z1] [(0,1,.b false),(1,1,.b true)]),x 14 (.i 0)] [] (.blk 2 K.zt)))) (.reg [u (.bin .add v12 (.i 1)),x 12 l0] [])))
def zu:C:= .loop true [0,4,5,6,7,8,9,13,14] K.ym
def fE:Fn:= { aq:=3,vars:=[0,1,2,3,6,7,9,10,11,12,14,15,16,21,22],body:=(q [w 3 (.bx v0 2)] [] (q [f 1 v3,w 10 (.ld l0 1 false),w 11 (.ln l0),x 12 (.i 0)] [] (.blk 0 K.zu))),res:=[]}
def eS:Fn:= { aq:=7,vars:=[1,2,3,4,5,6],body:=(q [m v1,g v2,u (.mx [.l 1,.l 0]),x 1 l0] [] (.ite [m v1,u (.bin .leq l0 (.i 2147483648)),m l0,e 0 true v1,i 1 true v3,e 2 true v0,y 3 true (.ia l1 l0 1),i 4 true l0,y 5 true (.bin .lss l4 l0),u (.pk l6 l0 (.b false)),m l0,i 0 true v4,e 1 true v0,y 2 true (.cw l1 0 [] [.l 0]),u (.pk l3 l0 (.b false))] [] 0 (.reg [g v3,m v0,m v1,a 1 l2 l1,u (.st l0 l1 1 []),u (.st v5 (.b true) 1 [])] []) .skip)),res:=[]}
def fF:Fn:= { aq:=1,vars:=[0,2],body:=(q [x 1 (.b false)] [] (q [m v0,u (.bin .neq l0 (.i 1099511627776)),m l0,e 0 true v0,y 1 true (.ca N.bD 0 [] [.l 0,.i 0,.i 2147483648]),y 2 true (.un .not l0),u (.pk l3 l0 (.b false)),x 1 l0] [] .ret)),res:=[(1,none)]}
def pJ:Fn:= { aq:=3,vars:=[0,1,2,3,6],body:=(q [w 3 (.bx v0 2),x 4 (.i 0)] [] (.seq (.ite [h 2 v3,u (.ca N.cN 0 [] [.l 0]),u (.un .not l0),m l0,e 0 false v1,y 1 false (.bin .lss l0 (.i 0)),u (.pk l2 (.b true) l0),m l0,e 0 false v1,y 1 false (.fa v3 1),i 2 false l0,y 3 false (.ln l0),y 4 false (.bin .geq l3 l0),u (.pk l5 (.b true) l0)] [] 0 (q [w 4 (.mv (.i (-1)))] [] .ret) .skip) (q [h 2 v3,m v1,m v2,u (.ca N.pK 0 [] [.l 2,.l 1,.l 0]),x 4 l0] [] .ret))),res:=[(4,none)]}
def pK:Fn:= { aq:=3,vars:=[0,1,2,3,6],body:=(q [w 3 (.bx v0 2),x 4 (.i 0)] [] (q [h 2 v3,m v1,m v2,u (.ca N.nI 0 [] []),u (.ca N.pL 0 [] [.l 3,.l 2,.l 1,.l 0]),x 4 l0] [(0,4)] .ret)),res:=[(4,none)]}
def pL:Fn:= { aq:=4,vars:=[0,1,2,3,4,7,8,9,10,11],body:=(q [w 4 (.bx v0 2),w 5 (.bx v3 3),x 6 (.i 0)] [] (q [f 1 v4,g l0,m v1,a 10 l1 l0,h 10 l0,w 7 (.al [z0,z0,z0,z0,z1,z1,z0,z0,z0,z0] []),u (.st l0 l1 10 [])] [] (.seq (.ite [f 5 v7,g l0,m l0,y 0 false (.fa v7 4),i 1 false l0,y 2 false (.un .not l0),u (.pk l3 (.b true) l0)] [] 0 (q [w 6 (.mv (.i (-1)))] [] .ret) .skip) (q [f 0 v4,g l0,f 1 v7,g l0,a 2 l2 l0,f 0 l0,g l0,f 0 v4,g l0,f 0 v7,g l0,a 2 l2 l0,f 0 l0,g l0,u (.bin .sub l7 l0),x 8 l0] [] (.seq (.ite [m v2] [] 0 (.reg [m v8,u (.un .neg l0),x 8 l0] []) .skip) (q [f 2 v5,g l0,x 9 l0] [] (.seq (.blk 0 (.ite [m v8,u (.bin .mul (.i 10) l0),f 2 v7,g l0,u (.bin .gtr l2 l0),m l0] [] 0 (.reg [f 0 v5,g l0,x 9 l0] []) (.ite [m v8,u (.bin .mul (.i (-10)) l0),f 2 v7,g l0,u (.bin .gtr l2 l0),m l0] [] 0 (.reg [f 1 v5,g l0,x 9 l0] []) .skip))) (q [f 2 v7,g l0,u (.bin .mul (.i 10) l0),m v9,u (.bin .add l1 l0),u (.bin .sub l0 (.i 1)),m v9,u (.bin .quo l1 l0),x 6 l0] [] .ret)))))))),res:=[(6,none)]}
def nI:Fn:= { aq:=0,vars:=[0],body:=(q [w 0 (.al [z0,z0,z0] [])] [] (q [u (.bd [z0,z0,z0] [(0,1,.i 6),(1,1,.i 9),(2,1,.i 12)]),u (.st v0 l0 3 [])] [] .ret)),res:=[(0,some (3,true))]}
end Go.Ev.K
namespace Go.Ev
class jz [Lib]:Prop where
 xC:Lib.fs N.jY=some K.jY
 uD:Lib.fs N.gB=some K.gB
 uE:Lib.fs N.dW=some K.dW
 BN:Lib.fs N.kr=some K.kr
 vO:Lib.fs N.gv=some K.gv
 oP:Lib.fs N.bJ=some K.bJ
 oQ:Lib.fs N.ai=some K.ai
 sN:Lib.fs N.fE=some K.fE
 rH:Lib.fs N.eS=some K.eS
 sO:Lib.fs N.fF=some K.fF
 DJ:Lib.fs N.pJ=some K.pJ
 DK:Lib.fs N.pK=some K.pK
 DL:Lib.fs N.pL=some K.pL
 BO:Lib.fs N.nI=some K.nI
namespace K
variable [Lib] [jz]
theorem xC:Lib.fs N.jY=some K.jY:=jz.xC
theorem uD:Lib.fs N.gB=some K.gB:=jz.uD
theorem uE:Lib.fs N.dW=some K.dW:=jz.uE
theorem BN:Lib.fs N.kr=some K.kr:=jz.BN
theorem vO:Lib.fs N.gv=some K.gv:=jz.vO
theorem oP:Lib.fs N.bJ=some K.bJ:=jz.oP
theorem oQ:Lib.fs N.ai=some K.ai:=jz.oQ
theorem sN:Lib.fs N.fE=some K.fE:=jz.sN
theorem rH:Lib.fs N.eS=some K.eS:=jz.rH
theorem sO:Lib.fs N.fF=some K.fF:=jz.sO
theorem DJ:Lib.fs N.pJ=some K.pJ:=jz.DJ
theorem DK:Lib.fs N.pK=some K.pK:=jz.DK
theorem DL:Lib.fs N.pL=some K.pL:=jz.DL
theorem BO:Lib.fs N.nI=some K.nI:=jz.BO
end K
end Go.Ev
namespace Go.Ev
open Go
variable [Lib] [cr] [bZ] [dJ] [dV] [kL] [jz]
end Go.Ev
namespace Go.Ev.K
open Go.Ev
def DM:C:= (.its [u (.bin .lss v17 v16)] [] 0 .skip (.exit 2) (.seq (.blk 3 (q [m v17,x 10 l0] [] (q [h 2 v7,m v10,m v1,m v2,u (.ca N.nF 0 [] [.l 3,.l 2,.l 1,.l 0]),m l0,u (.ex l0 0),u (.ex l1 1),x 11 l1,x 12 l1] [] (.seq (.ite [m v11] [] 0 (.reg [m v8,u (.bin .add l0 (.i 1)),x 8 l0] []) .skip) (.ite [m v12] [] 0 (.reg [m v9,u (.bin .add l0 (.i 1)),x 9 l0] []) .skip))))) (.reg [u (.bin .add v17 (.i 1)),x 17 l0] [])))
def E3:C:= .loop true [0,3,10,11,12] K.DM
def DN:C:= (.its [u (.bin .lss v15 v14)] [] 0 .skip (.exit 0) (.seq (.blk 1 (q [m v15,a 2 v13 v15,h 2 l0,w 7 (.al [.nil,.nil] []),x 6 l3,u (.st l1 l2 2 [])] [] (q [x 8 (.i 0),x 9 (.i 0)] [] (.seq (q [f 1 v7,g l0,w 16 (.ln l0),x 17 (.i 0)] [] (.blk 2 K.E3)) (.seq (.ite [m v6,u (.bin .eql l0 (.i 0))] [] 0 (.reg [m v8,m v9,u (.bd [z0,z0] [(0,1,.l 1),(1,1,.l 0)]),u (.st v5 l0 2 [])] []) .skip) (.reg [f 0 v5,g l0,m v8,u (.mn [.l 1,.l 0]),f 1 v5,g l0,m v9,u (.mx [.l 1,.l 0]),u (.bd [z0,z0] [(0,1,.l 4),(1,1,.l 0)]),u (.st v5 l0 2 [])] [])))))) (.reg [u (.bin .add v15 (.i 1)),x 15 l0] [])))
def E4:C:= .loop true [0,3,6,7,8,9,10,11,12,16,17] K.DN
def kU:Fn:= { aq:=3,vars:=[0,1,2,3,6,7,8,9,10,11,12,13,14,16,17,18,25,26],body:=(q [w 3 (.bx v0 1),w 4 (.al [z0,z0] [])] [] (q [w 5 (.al [z0,z0] [])] [] (.seq (q [f 0 v3,w 13 (.ld l0 1 false),w 14 (.ln l0),x 15 (.i 0)] [] (.blk 0 K.E4)) (q [h 2 v5,u (.st v4 l0 2 [])] [] .ret)))),res:=[(4,some (2,true))]}
def nF:Fn:= { aq:=4,vars:=[0,1,2,3,4,6,8,9,10,11],body:=(q [w 4 (.bx v0 2),w 5 (.bx v2 1),x 6 (.b false),x 7 (.b false)] [] (.seq (.ite [m v1,f 1 v4,g l0,u (.ln l0),u (.bin .geq l3 l0)] [] 0 (q [x 6 (.b false),x 7 (.b false)] [] .ret) .skip) (q [f 1 v4,g l0,m v1,a 2 l1 l0,h 2 l0,m v3,u (.ca N.eB 0 [] [.l 1,.l 0]),x 8 l0] [] (q [u (.mf N.jU [.v 5]),w 9 (.al [.und] []),u (.st l0 l1 1 [])] [] (q [m v8,g v9,u (.ca N.aA 0 [] [.l 1,.l 0]),x 7 l0] [] (q [m v7,m l0,e 0 true v8,y 1 true (.mf N.jV [.v 9]),y 2 true (.ca N.aA 0 [] [.l 1,.l 0]),y 3 true (.un .not l0),u (.pk l4 l0 (.b false)),m v7,x 6 l1,x 7 l1] [] .ret)))))),res:=[(6,none),(7,none)]}
def eB:Fn:= { aq:=2,vars:=[0,1,2,3,4],body:=(q [w 2 (.bx v0 2),w 3 (.bx v1 1),w 4 (.mv (.c (.nil)))] [] (q [f 1 v2,g l0,u (.ln l0),u (.mf N.dM [.v 2,.v 3]),u (.ca N.jj 0 [] [.l 1,.l 0]),x 4 l0] [] .ret)),res:=[(4,none)]}
def jU:Fn:= { aq:=2,vars:=[0,1,3],body:=(q [x 2 (.b false)] [] (q [g v1,m v0,u (.ca N.bn 0 [] [.l 1,.l 0]),x 2 l0] [] .ret)),res:=[(2,none)]}
def jV:Fn:= { aq:=2,vars:=[0,1,3],body:= .fail,res:=[(2,none)]}
def dM:Fn:= { aq:=3,vars:=[0,1,2,4],body:=(q [x 3 (.b false)] [] (q [f 1 v1,g l0,m v0,a 1 l1 l0,g l0,g v2,u (.bin .leq l1 l0),x 3 l0] [] .ret)),res:=[(3,none)]}
end Go.Ev.K
namespace Go.Ev
class gK [Lib]:Prop where
 zv:Lib.fs N.kU=some K.kU
 BP:Lib.fs N.nF=some K.nF
 sP:Lib.fs N.eB=some K.eB
 xD:Lib.fs N.jU=some K.jU
 xF:Lib.fs N.jV=some K.jV
 qR:Lib.fs N.dM=some K.dM
namespace K
variable [Lib] [gK]
theorem zv:Lib.fs N.kU=some K.kU:=gK.zv
theorem BP:Lib.fs N.nF=some K.nF:=gK.BP
theorem sP:Lib.fs N.eB=some K.eB:=gK.sP
theorem xD:Lib.fs N.jU=some K.jU:=gK.xD
theorem xF:Lib.fs N.jV=some K.jV:=gK.xF
theorem qR:Lib.fs N.dM=some K.dM:=gK.qR
end K
end Go.Ev
namespace Go.Ev.N
def Ta:Nat:=215
def Tb:Nat:=216
def Tc:Nat:=217
def aaq:Nat:=218
def aar:Nat:=219
def aas:Nat:=220
def adR:Nat:=221
def adS:Nat:=222
def nJ:Nat:=223
def pM:Nat:=224
def kX:Nat:=225
def aat:Nat:=226
def aau:Nat:=227
def pN:Nat:=228
def aav:Nat:=229
def kY:Nat:=230
def adT:Nat:=231
def WR:Nat:=232
def adU:Nat:=233
def WS:Nat:=234
def WT:Nat:=235
def WU:Nat:=236
def adV:Nat:=237
def WW:Nat:=238
def ou:Nat:=239
def pO:Nat:=240
def cW:Nat:=241
def adW:Nat:=242
def kZ:Nat:=243
def gC:Nat:=244
end Go.Ev.N
namespace Go.Ev.K
open Go.Ev
def nJ:Fn:= { aq:=1,vars:=[0,2,3],body:=(q [w 1 (.al [.nil,.nil,z1] []),x 2 (.i 0)] [] (.seq (.ite [m v0,u (.ca N.lS 0 [] [.l 0]),u (.un .not l0)] [] 0 (q [u (.bd [.nil,.nil,z1] []),u (.st v1 l0 3 []),x 2 (.i 6)] [] .ret) .skip) (q [m v0,u (.ca N.ai 0 [] [.l 0]),m v0,u (.ln l0),u (.mkt l0 (.int .i64 (0)) 1),u (.bd [.nil,.nil,z1] [(0,1,.l 3),(1,1,.l 0)]),u (.st v1 l0 3 []),x 2 (.i 0)] [(4,0)] .ret))),res:=[(1,some (3,true)),(2,none)]}
def pM:Fn:= { aq:=2,vars:=[0,1,2,4,5],body:=(q [w 2 (.bx v0 3),w 3 (.al [.nil,.nil,z1] []),x 4 (.i 0)] [] (q [h 3 v2,m v1,u (.ca N.ou 0 [] [.l 1,.l 0,.i 0,.i 1]),u (.ex l0 0),u (.ex l1 1),u (.st v3 l1 3 []),x 4 l1] [] .ret)),res:=[(3,some (3,true)),(4,none)]}
def kX:Fn:= { aq:=2,vars:=[0,1,2,4,5],body:=(q [w 2 (.bx v0 3),w 3 (.al [.nil,.nil,z1] []),x 4 (.i 0)] [] (q [h 3 v2,m v1,u (.ca N.ou 0 [] [.l 1,.l 0,.i 1,.i 2]),u (.ex l0 0),u (.ex l1 1),u (.st v3 l1 3 []),x 4 l1] [] .ret)),res:=[(3,some (3,true)),(4,none)]}
def pN:Fn:= { aq:=1,vars:=[0,1,2,3],body:=(q [w 1 (.bx v0 3),w 2 (.al [.nil,.nil,z1] []),x 3 (.i 0)] [] (q [h 3 v1,u (.ca N.pO 0 [] [.l 0,.b true]),u (.ex l0 0),u (.ex l1 1),u (.st v2 l1 3 []),x 3 l1] [] .ret)),res:=[(2,some (3,true)),(3,none)]}
def DO:C:= (.its [u (.bin .lss v8 v7)] [] 0 .skip (.exit 0) (.seq (.blk 1 (q [m v8,a 1 v6 v8,g l0,x 4 l2,x 5 l1] [] (.ite [m v4,f 1 v1,g l0,u (.ln l0),u (.bin .lss l3 l0),m l0,y 0 true (.fa v1 1),i 1 true l0,e 2 true v4,y 3 true (.ia l1 l0 1),i 4 true l0,y 5 true (.bin .neq l0 (.i 0)),u (.pk l6 l0 (.b false))] [] 0 (.reg [m v3,m v5,u (.bs [.l 0] 1),u (.app l2 l0 true 1),x 3 l0] []) .skip))) (.reg [u (.bin .add v8 (.i 1)),x 8 l0] [])))
def E5:C:= .loop true [0,2,4,5] K.DO
def kY:Fn:= { aq:=1,vars:=[0,1,2,3,4,5,7,8,9],body:=(q [w 1 (.bx v0 3),w 2 (.mv (.c (.nil)))] [] (q [w 3 (.nw 1)] [] (.seq (q [f 0 v1,w 6 (.ld l0 1 false),w 7 (.ln l0),x 8 (.i 0)] [] (.blk 0 K.E5)) (q [m v3,u (.ca N.cW 0 [0] [.l 0])] [] (q [m v3,x 2 l0] [] .ret))))),res:=[(2,none)]}
def ou:Fn:= { aq:=4,vars:=[0,1,2,3,4,8,9,10],body:=(q [w 4 (.bx v0 3),w 5 (.al [.nil,.nil,z1] []),x 6 (.i 0)] [] (.seq (.blk 0 (.ite [h 3 v4,u (.ca N.gJ 0 [] [.l 0]),u (.un .not l0),m l0] [] 0 (q [h 3 v4,u (.st v5 l0 3 []),x 6 (.i 6)] [] .ret) (.ite [m v1,f 1 v4,g l0,u (.ln l0),u (.bin .sub l0 (.i 1)),u (.ca N.bD 0 [] [.l 4,.i 0,.l 0]),u (.un .not l0),m l0] [] 0 (q [h 3 v4,u (.st v5 l0 3 []),x 6 (.i 47)] [] .ret) (.ite [f 1 v4,g l0,m v1,a 1 l1 l0,g l0,m v2,u (.bin .neq l1 l0),m l0,y 0 false (.fa v4 2),i 1 false l0,u (.pk l2 (.b true) l0),m l0] [] 0 (q [h 3 v4,u (.st v5 l0 3 []),x 6 (.i 48)] [] .ret) .skip)))) (q [h 3 v4,u (.ca N.gC 1 [] [.l 0]),w 7 (.al [.nil,.nil,z1] []),u (.st l0 l1 3 [])] [] (q [f 1 v7,g l0,m v1,m v3,a 1 l2 l1,u (.st l0 l1 1 [])] [] (q [h 3 v7,u (.st v5 l0 3 []),x 6 (.i 0)] [] .ret))))),res:=[(5,some (3,true)),(6,none)]}
def pO:Fn:= { aq:=2,vars:=[0,1,2,4,5,6],body:=(q [w 2 (.bx v0 3),w 3 (.al [.nil,.nil,z1] []),x 4 (.i 0)] [] (.seq (.blk 0 (.ite [h 3 v2,u (.ca N.gJ 0 [] [.l 0]),u (.un .not l0),m l0] [] 0 (q [h 3 v2,u (.st v3 l0 3 []),x 4 (.i 6)] [] .ret) (.ite [f 2 v2,g l0,m v1,u (.eqk (.bool) false l1 l0),m l0,e 0 false v1,e 1 false l0,y 0 true (.ld v2 3 true),y 1 true (.ca N.lT 0 [] [.l 0]),y 2 true (.un .not l0),y 5 false (.pk l3 l0 (.b false)),u (.pk l6 (.b true) l0),m l0] [] 0 (q [h 3 v2,u (.st v3 l0 3 []),x 4 (.i 48)] [] .ret) .skip))) (q [h 3 v2,u (.ca N.kZ 0 [] [.l 0]),w 5 (.al [.nil,.nil,z1] []),u (.st l0 l1 3 [])] [] (q [m v1,f 2 v5,u (.st l0 l1 1 [])] [] (q [h 3 v5,u (.st v3 l0 3 []),x 4 (.i 0)] [] .ret))))),res:=[(3,some (3,true)),(4,none)]}
def cW:Fn:= { aq:=1,vars:=[],body:= .fail,res:=[],prim:=[1]}
def kZ:Fn:= { aq:=1,vars:=[0,1,2],body:=(q [w 1 (.bx v0 3),w 2 (.al [.nil,.nil,z1] [])] [] (q [f 0 v1,g l0,u (.ca N.ai 0 [] [.l 0]),f 1 v1,g l0,u (.ca N.ai 0 [] [.l 0]),f 2 v1,g l0,u (.bd [.nil,.nil,z1] [(0,1,.l 5),(1,1,.l 2),(2,1,.l 0)]),u (.st v2 l0 3 [])] [(4,0),(7,0),(7,3)] .ret)),res:=[(2,some (3,true))]}
def gC:Fn:= { aq:=1,vars:=[0,1,2],body:=(q [w 1 (.bx v0 3),w 2 (.al [.nil,.nil,z1] [])] [] (q [f 0 v1,g l0,u (.ca N.ai 1 [] [.l 0]),f 1 v1,g l0,u (.ca N.ai 1 [] [.l 0]),f 2 v1,g l0,u (.bd [.nil,.nil,z1] [(0,1,.l 5),(1,1,.l 2),(2,1,.l 0)]),u (.st v2 l0 3 [])] [(4,0),(7,0),(7,3)] .ret)),res:=[(2,some (3,true))]}
end Go.Ev.K
namespace Go.Ev
class dU [Lib]:Prop where
 BQ:Lib.fs N.nJ=some K.nJ
 DP:Lib.fs N.pM=some K.pM
 zw:Lib.fs N.kX=some K.kX
 DQ:Lib.fs N.pN=some K.pN
 zx:Lib.fs N.kY=some K.kY
 DR:Lib.fs N.ou=some K.ou
 DT:Lib.fs N.pO=some K.pO
 pP:Lib.fs N.cW=some K.cW
 zy:Lib.fs N.kZ=some K.kZ
 uF:Lib.fs N.gC=some K.gC
namespace K
variable [Lib] [dU]
theorem BQ:Lib.fs N.nJ=some K.nJ:=dU.BQ
theorem DP:Lib.fs N.pM=some K.pM:=dU.DP
theorem zw:Lib.fs N.kX=some K.kX:=dU.zw
theorem DQ:Lib.fs N.pN=some K.pN:=dU.DQ
theorem zx:Lib.fs N.kY=some K.kY:=dU.zx
theorem DR:Lib.fs N.ou=some K.ou:=dU.DR
theorem DT:Lib.fs N.pO=some K.pO:=dU.DT
theorem pP:Lib.fs N.cW=some K.cW:=dU.pP
theorem zy:Lib.fs N.kZ=some K.kZ:=dU.zy
theorem uF:Lib.fs N.gC=some K.gC:=dU.uF
end K
end Go.Ev
namespace Go.Ev
open Go
variable [Lib] [cr] [bZ] [eM] [dT] [gK] [dJ] [dV] [kL] [jz] [dU]
end Go.Ev
namespace Go.Ev
open Go
theorem Ld{d:D}{n:Int}(h:LZ d=some n):d= .t (.int .i64 n):=by
 unfold LZ at h
 split at h
 · cases h;rfl
 · cases h
theorem Rq:∀ {es:List D} {l:List Int},cK LZ es=some l→es=l.map fun x=> .t (.int .i64 x)
 | [],l,h=>by simp[cK]at h;subst h;rfl
 | e::r,l,h=>by
   simp only[cK,aLa,aLb]at h
   obtain⟨x,hx,y,hy,rfl⟩:=h
   rw[Ld hx,Rq hy];rfl
theorem DU(x:Int):∀l,(Xz x l).Perm (x::l)
 | []=> .refl _
 | y::r=>by
   unfold Xz
   split
   · exact .refl _
   · exact((DU x r).cons y).trans (.swap x y r)
theorem AL:∀l,(oS l).Perm l
 | []=> .refl _
 | x::r=>(DU x _).trans ((AL r).cons x)
theorem Rr{x:Int}:∀ {l:List Int},l.Pairwise (· ≤ ·)→(Xz x l).Pairwise (· ≤ ·)
 | [],_=>by simp[Xz]
 | y::r,h=>by
   unfold Xz
   split
   · rename_i hx
     refine List.pairwise_cons.2 ⟨fun z hz=>?_,h⟩
     rcases List.mem_cons.1 hz with rfl | hz
     · exact hx
     · have:=(List.pairwise_cons.1 h).1 z hz;omega
   · rename_i hx
     have h':=List.pairwise_cons.1 h
     refine List.pairwise_cons.2 ⟨fun z hz=>?_,Rr h'.2⟩
     have hz:=(DU x r).mem_iff.1 hz
     rcases List.mem_cons.1 hz with rfl | hz
     · omega
     · exact h'.1 z hz
theorem MT:∀l,(oS l).Pairwise (· ≤ ·)
 | []=> .nil
 | x::r=>Rr (MT r)
theorem ov(l:List Int):(oS l).length=l.length:=(AL l).length_eq
theorem Hx(l:List Int):(l.mergeSort fun x y=>decide (x≤y))=oS l:=by
 refine List.Perm.eq_of_pairwise (le:=(· ≤ ·)) (fun a b _ _ h1 h2=>by omega) ?_ (MT l) ((List.mergeSort_perm _ _).trans (AL l).symm)
 have:=List.pairwise_mergeSort (le:=fun x y:Int=>decide (x≤y)) (fun a b c=>by simp;omega) (fun a b=>by simp;omega) l
 exact this.imp (by simp)
end Go.Ev
namespace Go.Ev
open Go
variable [Lib] [cr] [bZ] [eM] [dT] [gK] [dJ] [dV] [kL] [jz] [dU]
section
variable (k : Keys) (hl : k.keys.length ≤ 1000000) (hr : k.roads.length ≤ 1000000)
include hl hr
end
end Go.Ev
namespace Go.Ev
open Go
variable [Lib] [cr] [bZ] [eM] [dT] [gK] [dJ] [dV] [kL] [jz] [dU]
section
variable (b u v y : Obj) (ds : af)
end
end Go.Ev
namespace Go.Ev.N
def MU:Nat:=245
def Le:Nat:=246
def Lf:Nat:=247
def aaw:Nat:=248
def UX:Nat:=249
def aax:Nat:=250
def MV:Nat:=251
def Td:Nat:=252
def Rs:Nat:=253
def aay:Nat:=254
def WX:Nat:=255
def adX:Nat:=256
def lg:Nat:=257
def Og:Nat:=258
def tX:Nat:=259
def cy:Nat:=260
def bE:Nat:=261
def iK:Nat:=262
def cg:Nat:=263
def au:Nat:=264
def iL:Nat:=265
def vt:Nat:=266
def bB:Nat:=267
def Rt:Nat:=268
def aD:Nat:=269
def cmp_isNaN_int:Nat:=270
end Go.Ev.N
namespace Go.Ev.K
open Go.Ev
def DV:C:= (.its [u (.bin .lss v10 v9)] [] 0 .skip (.exit 0) (.seq (.blk 1 (q [m v10,a 2 v8 v10,h 2 l0,w 7 (.al [.nil,.nil] []),x 6 l3,u (.st l1 l2 2 [])] [] (.blk 2 (.ite [f 0 v7,g l0,u (.ln l0),u (.ca N.bD 0 [] [.l 0,.i 1,.i 12]),u (.un .not l0),m l0,y 0 false (.fa v7 1),i 1 false l0,y 2 false (.ln l0),y 3 false (.fa v7 0),i 4 false l0,y 5 false (.ln l0),y 6 false (.bin .neq l3 l0),u (.pk l7 (.b true) l0),m l0,y 0 false (.fa v7 0),i 1 false l0,y 2 false (.ca N.iK 0 [] [.l 0]),y 3 false (.un .not l0),u (.pk l4 (.b true) l0),m l0] [] 0 (q [x 4 (.b false)] [] .ret) (.ite [f 0 v7,g l0,u (.ca N.bE 0 [] [.l 0]),u (.ca N.cy 0 [] [.l 0]),m v5,u (.ca N.bJ 0 [] [.l 1,.l 0]),u (.un .not l0),m l0] [] 0 (q [x 4 (.b false)] [] .ret) (.ite [m v6,u (.bin .gtr l0 (.i 0)),m l0,y 0 true (.fa v3 0),i 1 true l0,e 2 true v6,y 3 true (.bin .sub l0 (.i 1)),y 4 true (.ia l2 l0 2),y 5 true (.fa l0 0),i 6 true l0,y 7 true (.fa v7 0),i 8 true l0,y 9 true (.ca N.cg 0 [] [.l 2,.l 0]),y 10 true (.bin .geq l0 (.i 0)),u (.pk l11 l0 (.b false)),m l0] [] 0 (q [x 4 (.b false)] [] .ret) (.ite [f 1 v7,g l0,u (.mf N.iL [.v 2]),u (.ca N.au 0 [] [.l 1,.l 0]),m l0] [] 0 (q [x 4 (.b false)] [] .ret) .skip))))))) (.reg [u (.bin .add v10 (.i 1)),x 10 l0] [])))
def E6:C:= .loop true [0,1,4,6,7] K.DV
def lg:Fn:= { aq:=2,vars:=[0,1,2,3,4,5,6,7,26,27,28],body:=(q [w 2 (.bx v0 2),w 3 (.bx v1 1),x 4 (.b false)] [] (.seq (.ite [h 2 v2,u (.ca N.cN 0 [] [.l 0]),u (.un .not l0),m l0,y 0 false (.fa v3 0),i 1 false l0,y 2 false (.ln l0),y 3 false (.ca N.bD 0 [] [.l 0,.i 1,.i 24]),y 4 false (.un .not l0),u (.pk l5 (.b true) l0)] [] 0 (q [x 4 (.b false)] [] .ret) .skip) (q [f 0 v3,g l0,a 2 l0 (.i 0),f 0 l0,g l0,u (.ca N.bE 0 [] [.l 0]),u (.ca N.cy 0 [] [.l 0]),x 5 l0] [] (.seq (q [f 0 v3,w 8 (.ld l0 1 false),w 9 (.ln l0),x 10 (.i 0)] [] (.blk 0 K.E6)) (q [x 4 (.b true)] [] .ret))))),res:=[(4,none)]}
def cy:Fn:= { aq:=1,vars:=[2],body:= .fail,res:=[(0,none)],prim:=[2,N.bB]}
def bE:Fn:= { aq:=1,vars:=[0,1,2],body:=(q [w 1 (.bx v0 1),w 2 (.mv (.c (.und)))] [] (q [u (.mf N.bB [.v 1]),x 2 l0] [] .ret)),res:=[(2,none)]}
def iK:Fn:= { aq:=1,vars:=[0,2,3],body:=(q [x 1 (.b false)] [] (q [m v0,u (.ca N.bE 0 [] [.l 0]),u (.ca N.cy 0 [] [.l 0]),x 2 l0] [] (q [m v2,u (.ca N.bX 0 [] [.l 0,.i 1,.i 65535]),x 1 l0] [] .ret))),res:=[(1,none)]}
def cg:Fn:= { aq:=2,vars:=[0,1,4,5,6,7,8,9,10,11],body:= .fail,res:=[(2,none)]}
def au:Fn:= { aq:=2,vars:=[0,1,4],body:=(q [x 2 (.b false)] [] (q [m v0,m v1,u (.ca N.aD 0 [] [.l 1,.l 0]),u (.bin .geq l0 (.i 0)),x 2 l0] [] .ret)),res:=[(2,none)]}
def iL:Fn:= { aq:=2,vars:=[0,1,2,3],body:=(q [w 2 (.bx v0 2),x 3 (.b false)] [] (q [h 2 v1,h 2 v2,u (.ca N.jX 0 [] [.l 1,.l 0]),u (.un .not l0),x 3 l0] [] .ret)),res:=[(3,none)]}
def bB:Fn:= { aq:=2,vars:=[0,1,4,5,6,7],body:= .fail,res:=[]}
def gL:C:= (.its [u (.bin .lss v5 v4)] [] 0 .skip (.exit 0) (.seq (.blk 1 (q [m v5,x 3 l0] [] (.ite [m v1,m v0,m v3,a 2 l1 l0,h 2 l0,u (.cw l4 0 [] [.l 0])] [] 0 (q [m v3,x 2 l0] [] .ret) .skip))) (.reg [u (.bin .add v5 (.i 1)),x 5 l0] [])))
def gV:C:= .loop true [2,3] K.gL
def aD:Fn:= { aq:=2,vars:=[0,1,4,5,7,8],body:=(q [x 2 (.i 0)] [] (.seq (q [m v0,w 4 (.ln l0),x 5 (.i 0)] [] (.blk 0 K.gV)) (q [w 2 (.mv (.i (-1)))] [] .ret))),res:=[(2,none)]}
end Go.Ev.K
namespace Go.Ev
class eZ [Lib]:Prop where
 zA:Lib.fs N.lg=some K.lg
 qS:Lib.fs N.cy=some K.cy
 ow:Lib.fs N.bE=some K.bE
 xG:Lib.fs N.iK=some K.iK
 nK:Lib.fs N.cg=some K.cg
 cR:Lib.fs N.au=some K.au
 vP:Lib.fs N.iL=some K.iL
 mL:Lib.fs N.bB=some K.bB
 df:Lib.fs N.aD=some K.aD
namespace K
variable [Lib] [eZ]
theorem zA:Lib.fs N.lg=some K.lg:=eZ.zA
theorem qS:Lib.fs N.cy=some K.cy:=eZ.qS
theorem ow:Lib.fs N.bE=some K.bE:=eZ.ow
theorem xG:Lib.fs N.iK=some K.iK:=eZ.xG
theorem nK:Lib.fs N.cg=some K.cg:=eZ.nK
theorem cR:Lib.fs N.au=some K.au:=eZ.cR
theorem vP:Lib.fs N.iL=some K.iL:=eZ.vP
theorem mL:Lib.fs N.bB=some K.bB:=eZ.mL
theorem df:Lib.fs N.aD=some K.aD:=eZ.df
end K
end Go.Ev
namespace Go.Ev
open Go
variable [Lib] [cr] [bZ] [eM] [dT] [gK] [dJ] [dV] [kL] [jz] [dU] [eZ]
end Go.Ev
namespace Go.Ev
open Go
variable [Lib] [cr] [bZ]
theorem UY{α:Type} [Dat α](l:List α)(k:Nat)(hk:k<l.length)(x:α)(j:Nat):nth (l.set k x) j=if j=k then x else nth l j:=by
 unfold nth
 by_cases h:j=k
 · subst h;rw[if_pos rfl];simp[hk]
 · rw[if_neg h]
   have:¬k=j:=fun e=>h e.symm
   simp[List.getElem?_set,this]
def clW(m:cC)(t:Int)(into:Option (List Int))(y:List Int):Prop:=∀k,k<m.roads.length→∀back,aoZ into ((nth m.roads k).dst back)=true→0≤KY m k back 6 9 12→
 nth y ((nth m.roads k).src back).toNat<1099511627776→max t (nth y ((nth m.roads k).src back).toNat+KY m k back 6 9 12)≤2147483648→
 nth y ((nth m.roads k).dst back).toNat≤max t (nth y ((nth m.roads k).src back).toNat+KY m k back 6 9 12)
section
variable {m : cC} (h : m.ok) {t : Int} {into : Option (List Int)}
include h
end
end Go.Ev
namespace Go.Ev
open Go
variable [Lib] [cr] [bZ]
structure OfI(m:cC)(p:Nat)(l:List Int):Prop where
 ln:l.length=m.aa.length
 bd:bnd l
 z:nth l p=0
theorem OfI.set{m:cC}{p:Nat}{l:List Int}(h:OfI m p l){q:Nat}{x:Int}(hq:q<l.length)(h0:0<x)(hx:x<nth l q):OfI m p (l.set q x):=by
 have b1:=h.bd _ (ak hq)
 refine⟨by rw[List.length_set];exact h.ln,QJ h.bd (by omega) (by omega),?_⟩
 rw[UY _ _ hq]
 split
 · rename_i e;subst e;have:=h.z;omega
 · exact h.z
end Go.Ev
namespace Go.Ev
open Go
variable [Lib] [cr] [bZ] [dJ] [dV] [kL] [jz]
@[go_sem] theorem apk (H : af) (len j : Nat) (ts : List T) (h : j < len) : afZ H len 1 false (.t (.agg ts)) j = (ts[j]?).map fun t => (.t t, H) := by
 have h0:len≠0:=by omega
 unfold afZ FU
 rw[if_neg h0,if_pos h]
 unfold yM cut
 simp only[D.isAgg,D.cells,T.cells,if_true,Nat.mul_one,List.length_map]
 by_cases hj:j<ts.length
 · rw[if_pos (by omega),aLc hj]
   have e:((ts.map D.t).drop j).take 1=[D.t ts[j]]:=by
    rw[List.drop_eq_getElem_cons (by simpa using hj)];simp
   rw[e];rfl
 · rw[if_neg (by omega),aLm (by omega)];rfl
section
variable (a0 a1 a2 a3 a4 a5 x y : Obj) (ds : af)
end
@[go_sem] theorem akT (n : Nat) : eqB n n = true := by
 induction n with
 | zero=>rfl
 | succ n ih=>exact ih
end Go.Ev
namespace Go.Ev
open Go
variable [Lib] [cr] [bZ] [eM] [dT] [dJ] [dV] [kL] [jz]
end Go.Ev
namespace Go.Ev.N
def Oh:Nat:=271
def Ru:Nat:=272
def Lg:Nat:=273
def Ph:Nat:=274
def Te:Nat:=275
def Rv:Nat:=276
def aaz:Nat:=277
def lk:Nat:=278
def adY:Nat:=279
def adZ:Nat:=280
def Tf:Nat:=281
def ahU:Nat:=282
def WY:Nat:=283
def aaA:Nat:=284
def aaB:Nat:=285
def ad0:Nat:=286
def Aj:Nat:=287
def ad1:Nat:=288
def lu:Nat:=289
def lx:Nat:=290
def aaC:Nat:=291
def aaD:Nat:=292
def Tg:Nat:=293
def aaE:Nat:=294
def aaF:Nat:=295
def WZ:Nat:=296
def aY:Nat:=297
def aZ:Nat:=298
def iM:Nat:=299
def bQ:Nat:=300
def aM:Nat:=301
def aH:Nat:=302
def bu:Nat:=303
def aO:Nat:=304
def aV:Nat:=305
def BR:Nat:=306
def zB:Nat:=307
def fm:Nat:=308
end Go.Ev.N
namespace Go.Ev.N
def W4:Nat:=309
def Rw:Nat:=310
def Th:Nat:=311
def Ti:Nat:=312
def Rx:Nat:=313
def aaG:Nat:=314
def anR:Nat:=315
def pQ:Nat:=316
def aaH:Nat:=317
def aaI:Nat:=318
def lA:Nat:=319
def aaJ:Nat:=320
def ahV:Nat:=321
def ahW:Nat:=322
def lB:Nat:=323
def iN:Nat:=324
def pR:Nat:=325
def akU:Nat:=326
def Tj:Nat:=327
def W5:Nat:=328
def UZ:Nat:=329
def aL:Nat:=330
def aP:Nat:=331
def U0:Nat:=332
def Ry:Nat:=333
end Go.Ev.N
namespace Go.Ev.K
open Go.Ev
def Hy:C:= (.its [u (.bin .lss (.v 24) v23)] [] 0 .skip (.exit 2) (.seq (.blk 3 (q [m (.v 24),a 2 v22 (.v 24),h 2 l0,w 16 (.al [z0,.nil] []),x 15 l3,u (.st l1 l2 2 [])] [] (q [h 2 v9,h 2 v16,g v6,u (.ca N.pR 0 [] [.l 2,.l 1,.l 0]),m l0,u (.ex l0 0),u (.ex l1 1),w 17 (.al [z0,.nil] []),u (.st l0 l2 2 []),x 18 l2] [] (.seq (.ite [m v18,u (.bin .neq l0 (.i 0))] [] 0 (q [h 1 v5,m v18,u (.st v7 l1 1 []),x 8 l1] [] .ret) .skip) (.reg [f 1 v14,g l0,m v15,h 2 v17,a 2 l2 l1,u (.st l0 l1 2 [])] []))))) (.reg [u (.bin .add (.v 24) (.i 1)),x 24 l0] [])))
def Jt:C:= .loop true [0,1,2,3,4,8,10,11,13,15,16,17,18] K.Hy
def Hz:C:= (.its [u (.bin .lss v21 v20)] [] 0 .skip (.exit 0) (.seq (.blk 1 (q [a 2 v19 v21,h 2 l0,w 13 (.al [.nil,.nil] []),u (.st l0 l1 2 [])] [] (q [h 2 v13,u (.ca N.fm 1 [] [.l 0]),w 14 (.al [.nil,.nil] []),u (.st l0 l1 2 [])] [] (.seq (q [f 1 v13,w 22 (.ld l0 1 false),w 23 (.ln l0),x 24 (.i 0)] [] (.blk 2 K.Jt)) (.reg [m v12,h 2 v14,u (.bs [.l 0] 2),u (.app l2 l0 true 2),x 12 l0] []))))) (.reg [u (.bin .add v21 (.i 1)),x 21 l0] [])))
def Ju:C:= .loop true [0,1,2,3,4,8,10,11,13,14,15,16,17,18,22,23,24] K.Hz
def pQ:Fn:= { aq:=4,vars:=[0,1,2,3,4,5,7,8,9,10,11,12,13,15,16,17,18,19,20,47,48,49,56,57,58],body:=(q [w 4 (.bx v0 2),w 5 (.bx v1 1),w 6 (.bx v3 1),w 7 (.al [.nil] []),x 8 (.i 0)] [] (.seq (.ite [h 2 v4,h 1 v5,u (.ca N.lg 0 [] [.l 1,.l 0]),u (.un .not l0)] [] 0 (q [h 1 v5,u (.st v7 l0 1 []),x 8 (.i 6)] [] .ret) .skip) (q [h 2 v4,m v2,u (.ca N.lA 0 [] [.l 1,.l 0]),m l0,u (.ex l0 0),u (.ex l1 1),w 9 (.al [.nil,.nil] []),u (.st l0 l2 2 []),x 10 l2] [] (.seq (.ite [m v10,u (.bin .neq l0 (.i 0))] [] 0 (q [h 1 v5,m v10,u (.st v7 l1 1 []),x 8 l1] [] .ret) .skip) (q [u (.mf N.lB [.v 6]),x 11 l0] [] (.seq (.ite [g v6,u (.bin .gtr l0 (.i 2147483648)),m l0,y 0 false (.fa v5 0),i 1 false l0,e 2 false v11,y 3 false (.ca N.aE 0 [] [.l 1,.l 0]),u (.pk l4 (.b true) l0)] [] 0 (q [h 1 v5,u (.st v7 l0 1 []),x 8 (.i 8)] [] .ret) .skip) (q [w 12 (.nw 2)] [] (.seq (q [f 0 v5,w 19 (.ld l0 1 false),w 20 (.ln l0),x 21 (.i 0)] [] (.blk 0 K.Ju)) (q [m v12,u (.ca N.lx 0 [] [.l 0]),u (.bd [.nil] [(0,1,.l 0)]),u (.st v7 l0 1 []),x 8 (.i 0)] [] .ret))))))))),res:=[(7,some (1,true)),(8,none)]}
def DW:C:= (.its [u (.bin .lss v9 v8)] [] 0 .skip (.exit 1) (.seq (.blk 2 (q [a 1 v7 v9,g l0,x 6 l0] [] (.reg [f 1 v5,g l0,m v6,a 10 l1 l0,f 4 l0,u (.st l0 (.b false) 1 [])] []))) (.reg [u (.bin .add v9 (.i 1)),x 9 l0] [])))
def E7:C:= .loop true [0,1,2,4,6] K.DW
def lA:Fn:= { aq:=2,vars:=[0,1,2,4,5,6,8,30,31,32],body:=(q [w 2 (.bx v0 2),w 3 (.al [.nil,.nil] []),x 4 (.i 0)] [] (.seq (.blk 0 (.ite [h 2 v2,u (.ca N.cN 0 [] [.l 0]),u (.un .not l0),m l0] [] 0 (q [u (.bd [.nil,.nil] []),u (.st v3 l0 2 []),x 4 (.i 6)] [] .ret) (.ite [m v1,f 1 v2,g l0,u (.ln l0),u (.bin .sub l0 (.i 1)),u (.ca N.bX 0 [] [.l 4,.i 0,.l 0]),u (.un .not l0),m l0] [] 0 (q [u (.bd [.nil,.nil] []),u (.st v3 l0 2 []),x 4 (.i 4)] [] .ret) .skip))) (q [w 5 (.al [.nil,.nil] []),f 0 v2,g l0,u (.ca N.aL 0 [] [.l 0]),f 1 v2,g l0,u (.ca N.aP 1 [] [.l 0]),u (.bd [.nil,.nil] [(0,1,.l 3),(1,1,.l 0)]),u (.st l7 l0 2 [])] [(0,4),(0,7),(5,1)] (.seq (q [x 7 v1,w 8 (.ln l0),x 9 (.i 0)] [] (.blk 1 K.E7)) (q [h 2 v5,u (.st v3 l0 2 []),x 4 (.i 0)] [] .ret))))),res:=[(3,some (2,true)),(4,none)]}
def lB:Fn:= { aq:=2,vars:=[0,1,2,3],body:=(q [w 2 (.bx v0 2),x 3 (.b false)] [] (q [f 1 v2,g l0,u (.mf N.iN [.v 1]),u (.ca N.au 0 [] [.l 1,.l 0]),x 3 l0] [] .ret)),res:=[(3,none)]}
def iN:Fn:= { aq:=2,vars:=[0,1,2,3],body:=(q [w 2 (.bx v0 2),x 3 (.b false)] [] (q [g v1,f 0 v2,g l0,u (.bin .lss l2 l0),x 3 l0] [] .ret)),res:=[(3,none)]}
def HA:C:= (.its [u (.bin .lss v11 v10)] [] 0 .skip (.exit 0) (.seq (.blk 1 (q [a 1 v9 v11,g l0,x 8 l0] [] (.reg [m v7,m v8,f 1 v4,g l0,m v8,a 1 l1 l0,g l0,a 1 l6 l5,u (.st l0 l1 1 [])] []))) (.reg [u (.bin .add v11 (.i 1)),x 11 l0] [])))
def Jv:C:= .loop true [0,1,6,8] K.HA
def pR:Fn:= { aq:=3,vars:=[0,1,2,3,4,6,7,8,10,18,19,20],body:=(q [w 3 (.bx v0 2),w 4 (.bx v1 2),w 5 (.al [z0,.nil] []),x 6 (.i 0)] [] (q [u (.bs [.i 1099511627776] 1),f 1 v4,g l0,u (.ln l0),u (.ca N.br 1 [] [.l 3,.l 0]),x 7 l0] [] (.seq (q [h 2 v4,m v2,w 9 (.ca N.eB 0 [] [.l 1,.l 0]),w 10 (.ln l0),x 11 (.i 0)] [] (.blk 0 K.Jv)) (q [h 2 v3,f 0 v4,g l0,m v7,u (.bd [z0,.nil] [(0,1,.l 1),(1,1,.l 0)]),m v2,u (.ca N.jY 0 [] [.l 5,.l 1,.l 0]),u (.ex l0 0),u (.ex l1 1),u (.st v5 l1 2 []),x 6 l1] [] .ret)))),res:=[(5,some (2,true)),(6,none)]}
end Go.Ev.K
namespace Go.Ev
class oJ [Lib]:Prop where
 DX:Lib.fs N.pQ=some K.pQ
 zC:Lib.fs N.lA=some K.lA
 zD:Lib.fs N.lB=some K.lB
 vQ:Lib.fs N.iN=some K.iN
 DY:Lib.fs N.pR=some K.pR
namespace K
variable [Lib] [oJ]
theorem DX:Lib.fs N.pQ=some K.pQ:=oJ.DX
theorem zC:Lib.fs N.lA=some K.lA:=oJ.zC
theorem zD:Lib.fs N.lB=some K.lB:=oJ.zD
theorem vQ:Lib.fs N.iN=some K.iN:=oJ.vQ
theorem DY:Lib.fs N.pR=some K.pR:=oJ.DY
end K
end Go.Ev
namespace Go.Ev.K
open Go.Ev
def aL:Fn:= { aq:=1,vars:=[0,2],body:=(q [w 1 (.mv (.c (.nil)))] [] (.itk [m v0,u (.eqk (.sl) false l0 (.c (.nil)))] [] 0 (q [w 1 (.nw 2)] [] .ret) .skip (q [u (.bsr [] 2),m v0,u (.app l1 l0 false 2),x 1 l0] [] .ret))),res:=[(1,none)]}
def aP:Fn:= { aq:=1,vars:=[0,2],body:=(q [w 1 (.mv (.c (.nil)))] [] (.itk [m v0,u (.eqk (.sl) false l0 (.c (.nil)))] [] 0 (q [w 1 (.nw 10)] [] .ret) .skip (q [u (.bsr [] 10),m v0,u (.app l1 l0 false 10),x 1 l0] [] .ret))),res:=[(1,none)]}
end Go.Ev.K
namespace Go.Ev
class qd [Lib]:Prop where
 iu:Lib.fs N.aL=some K.aL
 ju:Lib.fs N.aP=some K.aP
namespace K
variable [Lib] [qd]
theorem iu:Lib.fs N.aL=some K.aL:=qd.iu
theorem ju:Lib.fs N.aP=some K.aP:=qd.ju
end K
end Go.Ev
namespace Go.Ev
open Go
variable [Lib] [cr] [bZ] [eM] [dT] [dJ] [dV] [kL] [jz] [oJ] [qd]
end Go.Ev
namespace Go.Ev
open Go
variable [Lib] [cr] [bZ] [eM] [dT] [gK] [dJ] [dV] [kL] [jz] [dU] [eZ]
end Go.Ev
namespace Go.Ev
open Go
variable [Lib] [cr] [bZ] [kL] [jz]
end Go.Ev
namespace Go.Ev
open Go
variable [Lib] [cr] [bZ] [eM] [dT] [dJ] [dV] [kL] [jz]
end Go.Ev
namespace Go.Ev
open Go
variable [Lib] [cr] [bZ]
section
variable {m : cC} (hm : m.ok) {N : Nat} {b : Bel} (hb : BOk m N b) {s : Wh} (hs : s.frm.length = m.aa.length) {l : List Mch}
variable (hl : ∀ y ∈ l, y.pl.length ≤ m.aa.length ∧ 1 ≤ y.pl.length ∧ ∀ x ∈ y.pl, 0 ≤ x ∧ x < m.aa.length) {t a : Int} (t0 : 0 ≤ t) (t1 : t ≤ 10000) (a0 : 0 ≤ a) (a1 : a ≤ 10000) (d : im)
include hm hb hs hl t0 t1 a0 a1
omit hm hb t0 t1 a1 in
end
def im.skip(d:im)(n:Int):Nat→im
 | 0=>d
 | k+1=>((d.skip n k).next n).2
end Go.Ev
namespace Go.Ev
open Go
variable [Lib] [cr] [bZ] [gK]
end Go.Ev
namespace Go.Ev
open Go
variable [Lib] [cr] [bZ] [eM] [dT] [gK] [dJ] [dV] [kL] [jz]
end Go.Ev
namespace Go.Ev
open Go
variable [Lib] [cr] [bZ] [eM] [dT] [gK] [dJ] [dV] [kL] [jz] [dU] [eZ]
def lexB:List Int→List Int→Bool
 | _,[]=>false
 | [],_::_=>true
 | a::r,b::s=>decide (a<b)||(decide (a=b)&&lexB r s)
structure WV(m:cC)(first:List Int)(x:World):Prop where
 pm:x.tags.Perm first
 wl:x.whr.length=first.length
 wv:∀w∈x.whr,Jg m w=true
structure BV(m:cC)(first:List Int)(ws:List World):Prop where
 pr:Hu first=true
 f1:1≤first.length
 f2:first.length≤12
 wv:∀x∈ws,WV m first x
 up:ws.Pairwise fun x y=>lexB x.tags y.tags=true
end Go.Ev
namespace Go.Ev.K
open Go.Ev
def DZ:C:= (.its [u (.bin .lss v13 v12)] [] 0 .skip (.exit 1) (.seq (.blk 2 (q [a 1 v11 v13,g l0,x 8 l0] [] (q [h 2 v4,m v8,m v3,u (.ca N.jW 0 [] [.l 2,.l 1,.l 0]),m l0,u (.ex l0 0),u (.ex l1 1),w 9 (.al [z0,.nil] []),u (.st l0 l2 2 []),x 10 l2] [] (.seq (.ite [m v10,u (.bin .neq l0 (.i 0))] [] 0 (q [u (.bd [.nil] []),m v10,u (.st v5 l1 1 []),x 6 l1] [] .ret) .skip) (.reg [f 1 v7,g l0,h 2 v9,u (.bs [.l 0] 2),u (.app l2 l0 true 2),f 1 v7,u (.st l0 l1 1 [])] []))))) (.reg [u (.bin .add v13 (.i 1)),x 13 l0] [])))
def E8:C:= .loop true [0,1,2,6,8,9,10] K.DZ
def lk:Fn:= { aq:=4,vars:=[0,1,2,3,4,8,9,10,12,13,14,41,42,43],body:=(q [w 4 (.bx v0 2),w 5 (.al [.nil] []),x 6 (.i 0)] [] (.seq (.blk 0 (.ite [h 2 v4,u (.ca N.cN 0 [] [.l 0]),u (.un .not l0),m l0,e 0 false v1,y 1 false (.ln l0),e 2 false v2,y 3 false (.ln l0),y 4 false (.bin .neq l2 l0),u (.pk l5 (.b true) l0),m l0,e 0 false v1,y 1 false (.ln l0),y 2 false (.ca N.bD 0 [] [.l 0,.i 1,.i 12]),y 3 false (.un .not l0),u (.pk l4 (.b true) l0),m l0] [] 0 (q [u (.bd [.nil] []),u (.st v5 l0 1 []),x 6 (.i 6)] [] .ret) (.ite [m v1,u (.ca N.iK 0 [] [.l 0]),u (.un .not l0),m l0] [] 0 (q [u (.bd [.nil] []),u (.st v5 l0 1 []),x 6 (.i 41)] [] .ret) .skip))) (q [m v1,u (.ca N.ai 0 [] [.l 0]),u (.bd [.nil,.nil] [(0,1,.l 0)]),w 7 (.al [.nil,.nil] [(1,2)]),u (.st l0 l1 2 [(1,2)])] [] (.seq (q [x 11 v2,w 12 (.ln l0),x 13 (.i 0)] [] (.blk 1 K.E8)) (q [h 2 v7,u (.bs [.l 0] 2),u (.bd [.nil] [(0,1,.l 0)]),u (.st v5 l0 1 []),x 6 (.i 0)] [] .ret))))),res:=[(5,some (1,true)),(6,none)]}
end Go.Ev.K
namespace Go.Ev
class mC [Lib]:Prop where
 zE:Lib.fs N.lk=some K.lk
namespace K
variable [Lib] [mC]
theorem zE:Lib.fs N.lk=some K.lk:=mC.zE
end K
end Go.Ev
namespace Go.Ev.K
open Go.Ev
def D0:C:= (.its [u (.bin .lss v7 v6)] [] 0 .skip (.exit 0) (.seq (.blk 1 (q [a 2 v5 v7,h 2 l0,w 4 (.al [z0,.nil] []),u (.st l0 l1 2 [])] [] (.reg [f 1 v3,g l0,f 0 v4,g l0,f 1 v4,g l0,u (.ca N.ai 0 [] [.l 0]),u (.bd [z0,.nil] [(0,1,.l 3),(1,1,.l 0)]),u (.bs [.l 0] 2),u (.app l7 l0 true 2),f 1 v3,u (.st l0 l1 1 [])] [(1,7),(1,9),(3,7)]))) (.reg [u (.bin .add v7 (.i 1)),x 7 l0] [])))
def E9:C:= .loop true [0,1,4] K.D0
def lu:Fn:= { aq:=1,vars:=[0,1,2,3,5,11,12,13],body:=(q [w 1 (.bx v0 2),w 2 (.al [.nil,.nil] [])] [] (q [f 0 v1,g l0,u (.ca N.ai 0 [] [.l 0]),u (.bd [.nil,.nil] [(0,1,.l 0)]),w 3 (.al [.nil,.nil] [(1,2)]),u (.st l0 l1 2 [(1,2)])] [] (.seq (q [f 1 v1,w 5 (.ld l0 1 false),w 6 (.ln l0),x 7 (.i 0)] [] (.blk 0 K.E9)) (q [h 2 v3,u (.st v2 l0 2 [])] [] .ret)))),res:=[(2,some (2,true))]}
def D1:C:= (.its [u (.bin .lss v11 v10)] [] 0 .skip (.exit 2) (.seq (.blk 3 (q [m v11,x 6 l0] [] (.reg [m v3,m v5,u (.bin .sub l0 (.i 1)),a 2 l2 l0,f 1 l0,g l0,m v6,m v3,m v5,u (.bin .sub l0 (.i 1)),a 2 l2 l0,f 1 l0,g l0,m v6,a 2 l1 l0,h 2 l0,f 1 v4,g l0,m v6,a 2 l1 l0,h 2 l0,u (.ca N.kW 0 [] [.l 5,.l 0]),m l0,u (.ex l0 0),u (.ex l1 1),a 2 (.l 19) (.l 18),u (.st l0 l2 2 [])] [(3,22),(5,22)]))) (.reg [u (.bin .add v11 (.i 1)),x 11 l0] [])))
def Fa:C:= .loop false [0,1,2,6] K.D1
def D2:C:= (.its [u (.bin .lss v9 v8)] [] 0 .skip (.exit 0) (.seq (.blk 1 (q [a 2 v7 v9,h 2 l0,w 4 (.al [.nil,.nil] []),u (.st l0 l1 2 [])] [] (.seq (q [m v3,u (.ln l0),x 5 l0] [] (.ite [m v5,u (.bin .gtr l0 (.i 0)),m l0,e 0 true v3,e 1 true v5,y 2 true (.bin .sub l0 (.i 1)),y 3 true (.ia l2 l0 2),y 4 true (.fa l0 0),i 5 true l0,y 6 true (.fa v4 0),i 7 true l0,y 8 true (.ca N.bJ 0 [] [.l 2,.l 0]),u (.pk l9 l0 (.b false))] [] 0 (.seq (q [f 1 v4,g l0,w 10 (.ln l0),x 11 (.i 0)] [] (.blk 2 K.Fa)) (.exit 1)) .skip)) (.reg [m v3,h 2 v4,u (.ca N.fm 1 [] [.l 0]),u (.bsr [.l 0] 2),u (.app l3 l0 false 2),x 3 l0] [])))) (.reg [u (.bin .add v9 (.i 1)),x 9 l0] [])))
def Fb:C:= .loop false [0,1,2,4,5,6,10,11] K.D2
def lx:Fn:= { aq:=1,vars:=[0,2,3,4,6,7,8,12,13,14,35,36],body:=(q [w 1 (.mv (.c (.nil)))] [] (q [m v0,u (.ca N.aZ 0 [] [.l 0]),u (.ca N.aY 0 [] [.l 0,.c (.fn N.iM [])]),x 2 l0] [] (q [w 3 (.nw 2)] [] (.seq (q [x 7 v2,w 8 (.ln l0),x 9 (.i 0)] [] (.blk 0 K.Fb)) (q [m v3,x 1 l0] [] .ret))))),res:=[(1,none)]}
def aY:Fn:= { aq:=2,vars:=[0,1,4,5],body:=(q [w 2 (.mv (.c (.nil)))] [] (q [m v0,u (.ca N.bQ 1 [] [.l 0]),x 3 l0] [] (q [m v3,m v1,u (.ca N.aM 0 [0] [.l 1,.l 0])] [] (q [m v3,x 2 l0] [] .ret)))),res:=[(2,none)]}
def aZ:Fn:= { aq:=1,vars:=[0,1,2],body:=(q [w 1 (.bx v0 1),w 2 (.mv (.c (.und)))] [] (q [u (.mf N.aH [.v 1]),x 2 l0] [] .ret)),res:=[(2,none)]}
def iM:Fn:= { aq:=2,vars:=[0,1,2,3,4],body:= .fail,res:=[(4,none)]}
def bQ:Fn:= { aq:=1,vars:=[2],body:= .fail,res:=[(0,none)],prim:=[3,N.aH]}
def aM:Fn:= { aq:=2,vars:=[0,1],body:=(.reg [m v0,m v0,u (.ln l0),m v1,u (.ca N.bu 0 [0] [.l 3,.l 1,.l 0])] []),res:=[]}
def aH:Fn:= { aq:=2,vars:=[0,1,4,5,6,7],body:= .fail,res:=[]}
def nX:C:= (.seq (.ite [m v5,m v1,u (.bin .leq l1 l0)] [] 0 .skip (.exit 0)) (.blk 1 (q [m v0,m v4,m v5,m v2,u (.ca N.aO 0 [0] [.l 3,.l 2,.l 1,.l 0])] [] (q [m v5,x 4 l0] [] (.reg [m v5,m v3,u (.bin .add l1 l0),x 5 l0] [])))))
def ox:C:= .loop true [6] K.nX
def nY:C:= (.seq (.ite [m v5,m v1,u (.bin .leq l1 l0)] [] 0 .skip (.exit 4)) (.blk 5 (q [m v0,m v4,m v4,m v3,u (.bin .add l1 l0),m v5,m v2,u (.ca N.aV 0 [0] [.l 6,.l 5,.l 2,.l 1,.l 0])] [] (q [m v5,x 4 l0] [] (.reg [m v5,m v3,u (.bin .mul (.i 2) l0),u (.bin .add l2 l0),x 5 l0] [])))))
def oy:C:= .loop true [6] K.nY
def nZ:C:= (.seq (.ite [m v3,m v1,u (.bin .lss l1 l0)] [] 0 .skip (.exit 2)) (.blk 3 (q [m v3,u (.bin .mul (.i 2) l0),x 4 (.i 0),x 5 l1] [] (.seq (.blk 4 K.oy) (.seq (q [m v4,m v3,u (.bin .add l1 l0),x 6 l0] [] (.ite [m v6,m v1,u (.bin .lss l1 l0)] [] 0 (.reg [m v0,m v4,m v6,m v1,m v2,u (.ca N.aV 0 [0] [.l 4,.l 3,.l 2,.l 1,.l 0])] []) .skip)) (.reg [m v3,u (.bin .mul l0 (.i 2)),x 3 l0] []))))))
def oz:C:= .loop true [4,5,6] K.nZ
def bu:Fn:= { aq:=3,vars:=[0,1,2,6,7,8,9],body:=(q [x 3 (.i 20)] [] (q [m v3,x 4 (.i 0),x 5 l1] [] (.seq (.blk 0 K.ox) (q [m v0,m v4,m v1,m v2,u (.ca N.aO 0 [0] [.l 3,.l 2,.l 1,.l 0])] [] (.blk 2 K.oz))))),res:=[]}
def kx:C:= (.seq (.ite [m v5,m v1,u (.bin .gtr l1 l0),m l0,e 0 true v3,e 1 true v0,e 2 true v5,y 3 true (.ia l1 l0 2),y 4 true (.ld l0 2 true),e 5 true v0,e 6 true v5,y 7 true (.bin .sub l0 (.i 1)),y 8 true (.ia l2 l0 2),y 9 true (.ld l0 2 true),y 10 true (.cw l9 0 [] [.l 5,.l 0]),y 11 true (.bin .lss l0 (.i 0)),u (.pk (.l 12) l0 (.b false))] [] 0 .skip (.exit 2)) (.seq (.blk 3 (.reg [m v0,m v5,m v0,m v5,u (.bin .sub l0 (.i 1)),m v0,m v5,u (.bin .sub l0 (.i 1)),a 2 l2 l0,h 2 l0,m v0,m v5,a 2 l1 l0,h 2 l0,a 2 (.l 13) (.l 12),u (.st l0 l5 2 []),a 2 (.l 13) l11,u (.st l0 l3 2 [])] [])) (.reg [m v5,u (.bin .sub l0 (.i 1)),x 5 l0] [])))
def kM:C:= .loop true [] K.kx
def ky:C:= (.seq (.ite [m v4,m v2,u (.bin .lss l1 l0)] [] 0 .skip (.exit 0)) (.seq (.blk 1 (q [m v4,x 5 l0] [] (.blk 2 K.kM))) (.reg [m v4,u (.bin .add l0 (.i 1)),x 4 l0] [])))
def kN:C:= .loop true [5] K.ky
def aO:Fn:= { aq:=4,vars:=[0,1,2,3,8,9],body:=(q [m v1,u (.bin .add l0 (.i 1)),x 4 l0] [] (.blk 0 K.kN)),res:=[]}
def aV:Fn:= { aq:=5,vars:=[0,1,2,3,4,10,11,12,13,14,15,16,17,18,19,20,21,22,23,24],body:= .fail,res:=[]}
def zF:C:= (.its [u (.bin .lss v7 v6)] [] 0 .skip (.exit 0) (.seq (.blk 1 (q [a 2 v5 v7,h 2 l0,w 4 (.al [z0,.nil] []),u (.st l0 l1 2 [])] [] (.reg [f 1 v3,g l0,f 0 v4,g l0,f 1 v4,g l0,u (.ca N.ai 1 [] [.l 0]),u (.bd [z0,.nil] [(0,1,.l 3),(1,1,.l 0)]),u (.bs [.l 0] 2),u (.app l7 l0 true 2),f 1 v3,u (.st l0 l1 1 [])] [(1,7),(1,9),(3,7)]))) (.reg [u (.bin .add v7 (.i 1)),x 7 l0] [])))
def AM:C:= .loop true [0,1,4] K.zF
def fm:Fn:= { aq:=1,vars:=[0,1,2,3,5,11,12,13],body:=(q [w 1 (.bx v0 2),w 2 (.al [.nil,.nil] [])] [] (q [f 0 v1,g l0,u (.ca N.ai 1 [] [.l 0]),u (.bd [.nil,.nil] [(0,1,.l 0)]),w 3 (.al [.nil,.nil] [(1,2)]),u (.st l0 l1 2 [(1,2)])] [] (.seq (q [f 1 v1,w 5 (.ld l0 1 false),w 6 (.ln l0),x 7 (.i 0)] [] (.blk 0 K.AM)) (q [h 2 v3,u (.st v2 l0 2 [])] [] .ret)))),res:=[(2,some (2,true))]}
end Go.Ev.K
namespace Go.Ev
class iP [Lib]:Prop where
 zG:Lib.fs N.lu=some K.lu
 zH:Lib.fs N.lx=some K.lx
 gW:Lib.fs N.aY=some K.aY
 gX:Lib.fs N.aZ=some K.aZ
 vR:Lib.fs N.iM=some K.iM
 mu:Lib.fs N.bQ=some K.bQ
 eD:Lib.fs N.aM=some K.aM
 gk:Lib.fs N.aH=some K.aH
 jv:Lib.fs N.bu=some K.bu
 fG:Lib.fs N.aO=some K.aO
 iv:Lib.fs N.aV=some K.aV
 uG:Lib.fs N.fm=some K.fm
namespace K
variable [Lib] [iP]
theorem zG:Lib.fs N.lu=some K.lu:=iP.zG
theorem zH:Lib.fs N.lx=some K.lx:=iP.zH
theorem gW:Lib.fs N.aY=some K.aY:=iP.gW
theorem gX:Lib.fs N.aZ=some K.aZ:=iP.gX
theorem vR:Lib.fs N.iM=some K.iM:=iP.vR
theorem mu:Lib.fs N.bQ=some K.bQ:=iP.mu
theorem eD:Lib.fs N.aM=some K.aM:=iP.eD
theorem gk:Lib.fs N.aH=some K.aH:=iP.gk
theorem jv:Lib.fs N.bu=some K.bu:=iP.jv
theorem fG:Lib.fs N.aO=some K.aO:=iP.fG
theorem iv:Lib.fs N.aV=some K.aV:=iP.iv
theorem uG:Lib.fs N.fm=some K.fm:=iP.uG
end K
end Go.Ev
namespace Go.Ev
open Go
variable [Lib] [cr] [bZ] [eM] [dT] [gK] [dJ] [dV] [kL] [jz] [dU] [eZ] [mC] [iP]
end Go.Ev
namespace Go.Ev
open Go
variable [Lib] [cr] [bZ] [eM] [dT] [gK] [dJ] [dV] [kL] [jz]
end Go.Ev
namespace Go.Ev
open Go
variable [Lib] [cr] [bZ] [eM] [dT] [gK] [dJ] [dV] [kL] [jz] [dU] [eZ]
structure SH(n p:Nat)(l:List Wh):Prop where
 ln:l.length=n
 fr:∀w∈l,w.frm.length=p
theorem WV.sh{m:cC}{first:List Int}{x:World}(h:WV m first x):SH first.length m.aa.length x.whr:=
 ⟨h.wl,fun w hw=>(K1 (h.wv w hw)).1⟩
end Go.Ev
namespace Go.Ev
open Go
variable [Lib] [cr] [bZ] [eM] [dT] [gK] [dJ] [dV] [kL] [jz] [dU] [eZ] [mC] [iP]
theorem Rp.more{H:af}{id:Nat}{es:List D}{fa fb:Nat→Nat}{out:List World}(hr:Rp H id es fa fb out)(t:af):Rp (H++t) id es fa fb out:=
 ⟨by rw[xr (DF hr.arr)];exact hr.arr,hr.len,hr.el,fun j hj=>by rw[xr (DF (hr.ha j hj))];exact hr.ha j hj,fun j hj=>by rw[xr (DF (hr.hb j hj))];exact hr.hb j hj,hr.na,hr.nb,hr.nab,hr.nbb⟩
end Go.Ev
namespace Go.Ev
open Go
variable [Lib] [cr] [bZ] [eM] [dT] [gK] [dJ] [dV] [kL] [jz] [dU] [eZ]
section
variable {m : cC} (hm : m.ok) (l : List Mch) (hl : l.length ≤ 1000) (hp : ∀ x ∈ l, x.pl.length ≤ 1000000) (s : Wh) (hs : s.frm.length ≤ 1000000) (b : Bel) (hb : b.sz) (t a : Int)
include hm hl hp hs hb
end
end Go.Ev
namespace Go.Ev
open Go
variable [Lib] [cr] [bZ] [eM] [dT] [dJ] [dV]
end Go.Ev
namespace Go.Ev
open Go
variable [Lib] [cr] [bZ]
def sh(s x:Int):Int:=if x<1099511627776 then x+s else x
def shL(s:Int)(l:List Int):List Int:=l.map (sh s)
@[simp] theorem anS (s : Int) (l : List Int) : (shL s l).length = l.length := List.length_map ..
end Go.Ev
namespace Go.Ev
open Go
variable [Lib] [cr] [bZ] [eM] [dT] [gK] [dJ] [dV] [kL] [jz]
end Go.Ev
namespace Go.Ev
open Go
variable [Lib] [cr] [bZ] [eM] [dT] [gK] [dJ] [dV] [kL] [jz] [dU] [eZ]
end Go.Ev
namespace Go.Ev
open Go
variable [Lib] [cr] [bZ] [eM] [dT] [gK] [dJ] [dV] [kL] [jz] [dU] [eZ] [mC] [iP]
end Go.Ev
namespace Go.Ev
open Go
variable [Lib] [cr] [bZ] [eM] [dT]
def U1(l:List Int)(t:Int):Nat→List Int
 | 0=>l
 | p+1=>if t<nth (U1 l t p) p then(U1 l t p).set p never else U1 l t p
def U2(m:cC)(w:Wh)(t:Int):Wh:=⟨t,DD m t none (U1 w.frm t w.frm.length)⟩
theorem Jw{H H':af}:∀(k:Nat) (d:D),(∀i∈gu H k d,∃sz pin pin' ep es,H[i]?=some (.arr sz pin ep es)∧H'[i]?=some (.arr sz pin' ep es))→frz H' k d=frz H k d∧gu H' k d=gu H k d:=by
 intro k
 induction k with
 | zero=>intro d _;cases d<;>exact⟨rfl,rfl⟩
 | succ k ih=>
   intro d h
   have list:∀es:List D,(∀i∈es.flatMap (gu H k),∃sz pin pin' ep es,H[i]?=some (.arr sz pin ep es)∧H'[i]?=some (.arr sz pin' ep es))→cK (frz H' k) es=cK (frz H k) es∧es.flatMap (gu H' k)=es.flatMap (gu H k):=by
    intro es
    induction es with
    | nil=>intro _;exact⟨rfl,rfl⟩
    | cons e es ihl=>
      intro he
      obtain⟨a1,a2⟩:=ih e fun i hi=>he i (by simp[hi])
      obtain⟨b1,b2⟩:=ihl fun i hi=>he i (by rw[List.flatMap_cons];exact List.mem_append_right _ hi)
      exact⟨by simp only[cK,a1,b1],by simp only[List.flatMap_cons,a2,b2]⟩
   cases d with
   | agg cs=>
     simp only[gu]at h
     obtain⟨a1,a2⟩:=list cs h
     exact⟨by simp only[frz,a1],by simp only[gu,a2]⟩
   | ref id ep n=>
     obtain⟨sz,pin,pin',ep',es,e1,e2⟩:=h id (by simp[gu])
     have:∀i∈es.flatMap (gu H k),∃sz pin pin' ep es,H[i]?=some (.arr sz pin ep es)∧H'[i]?=some (.arr sz pin' ep es):=fun i hi=>h i (by simp only[gu,e1];exact List.mem_cons_of_mem _ hi)
     obtain⟨a1,a2⟩:=list es this
     refine⟨?_,by simp only[gu,e1,e2,a2]⟩
     simp only[frz,fV,e1,e2]
     by_cases c:ep=ep'∧n=es.length
     · simp only[if_pos c,aLq,a1]
     · simp only[if_neg c,Option.bind_none]
   | sub id ep n lo hi=>
     obtain⟨sz,pin,pin',ep',es,e1,e2⟩:=h id (by simp[gu])
     have:∀i∈es.flatMap (gu H k),∃sz pin pin' ep es,H[i]?=some (.arr sz pin ep es)∧H'[i]?=some (.arr sz pin' ep es):=fun i hi=>h i (by simp only[gu,e1];exact List.mem_cons_of_mem _ hi)
     obtain⟨a1,a2⟩:=list es this
     have:∀i∈((es.drop lo).take (hi-lo)).flatMap (gu H k),∃sz pin pin' ep es,H[i]?=some (.arr sz pin ep es)∧H'[i]?=some (.arr sz pin' ep es):=fun i hi=>by
      obtain⟨e,he,hi⟩:=List.mem_flatMap.1 hi
      exact this i (List.mem_flatMap.2 ⟨e,List.mem_of_mem_drop (List.mem_of_mem_take he),hi⟩)
     obtain⟨b1,b2⟩:=list _ this
     refine⟨?_,by simp only[gu,e1,e2,a2]⟩
     simp only[frz,fV,e1,e2]
     by_cases c:ep=ep'∧n=es.length
     · simp only[if_pos c,aLq,b1]
     · simp only[if_neg c,Option.bind_none]
   | _=>exact⟨rfl,rfl⟩
section
variable {bm : cC} (hm : bm.ok) {t : Int} (i : Nat) {H : af} {io iB iO n a fbi tl : Nat} {es : List D} {whr : List Wh} (e1 : H[iO]? = some (.box [.ref io 0 n])) (e2 : H[io]? = some (.arr 2 false 0 es)) (e3 : es.length = n)
 (e4:es[i]?=some (.agg [.ref a 0 tl,.ref fbi 0 whr.length])) (e5:H[fbi]?=some (.arr 2 false 0 (whs whr))) (e6:H[iB]?=some (.box (aX bm))) (hi:i<n) (hn:n≤1000000) (hl:whr.length≤1000000)
include hm e1 e2 e3 e4 e5 e6 hi hn hl
end
theorem Rp.app{H:af}{id:Nat}{es:List D}{fa fb:Nat→Nat}{out:List World}(hr:Rp H id es fa fb out)(t:af):Rp (H++t) id es fa fb out:=
 ⟨by rw[xr (DF hr.arr)];exact hr.arr,hr.len,hr.el,fun j hj=>by rw[xr (DF (hr.ha j hj))];exact hr.ha j hj,fun j hj=>by rw[xr (DF (hr.hb j hj))];exact hr.hb j hj,hr.na,hr.nb,hr.nab,hr.nbb⟩
structure SlH(H:af)(b:List World)(bm:cC)(iB iO io:Nat)(es:List D)(fa fb:Nat→Nat)(A:List Nat)(O:List World):Prop where
 h1:H[1]?=some (.box [.ref 3 0 b.length])
 h2:H[2]?=some (.box [.nil])
 hB:H[iB]?=some (.box (aX bm))
 hO:H[iO]?=some (.box [.ref io 0 O.length])
 rp:Rp H io es fa fb O
 ar:∀i∈A,∃sz pin ep es,H[i]?=some (.arr sz pin ep es)
 nA:∀i∈A,∀j,j<O.length→i≠fb j
 eA:gu H 7 (.ref 3 0 b.length)=A
 fr:frz H 7 (.ref 3 0 b.length)=some (.sl (b.map World.e))
theorem SlH.step{H:af}{b:List World}{bm:cC}{iB iO io:Nat}{es:List D}{fa fb:Nat→Nat}{A:List Nat}{O:List World}(h:SlH H b bm iB iO io es fa fb A O){i:Nat}(hi:i<O.length)(x:World)(ht:(nth O i).tags=x.tags)
 (hw:x.whr.length=(nth O i).whr.length) (o:Obj):SlH (H.set (fb i) (.arr 2 false 0 (whs x.whr))++[o]) b bm iB iO io es fa fb A (O.set i x):=by
 have hb:=h.rp.hb i hi
 have nb:∀ {k:Nat} {cs:List D},H[k]?=some (.box cs)→(H.set (fb i) (.arr 2 false 0 (whs x.whr))++[o])[k]?=some (.box cs):=fun{k cs} hk=>by
  have ne:fb i≠k:=fun e=>by rw[e,hk]at hb;cases hb
  rw[xr (by rw[List.length_set];exact DF hk),sJ ne];exact hk
 have na:∀k∈A,(H.set (fb i) (.arr 2 false 0 (whs x.whr))++[o])[k]?=H[k]?:=fun k hk=>by
  obtain⟨sz,pin,ep,es',e⟩:=h.ar k hk
  rw[xr (by rw[List.length_set];exact DF e),sJ (fun e=>h.nA k hk i hi e.symm)]
 have fc:=Jw (H:=H) (H':=H.set (fb i) (.arr 2 false 0 (whs x.whr))++[o]) 7 (.ref 3 0 b.length) (fun k hk=>by
  rw[h.eA]at hk
  obtain⟨sz,pin,ep,es',e⟩:=h.ar k hk
  exact⟨sz,pin,pin,ep,es',e,by rw[na k hk];exact e⟩)
 refine⟨nb h.h1,nb h.h2,nb h.hB,by rw[List.length_set];exact nb h.hO,(h.rp.merge hi x ht hw).app _,fun k hk=>?_,by rw[List.length_set];exact h.nA,by rw[fc.2];exact h.eA,by rw[fc.1];exact h.fr⟩
 obtain⟨sz,pin,ep,es',e⟩:=h.ar k hk
 exact⟨sz,pin,ep,es',by rw[na k hk];exact e⟩
def SlE(b:List World)(H:af):Prop:=H[2]?=some (.box [.ref 3 0 b.length])∧frz H 7 (.ref 3 0 b.length)=some (.sl (b.map World.e))
theorem SlH.late{H:af}{b:List World}{bm:cC}{iB iO io:Nat}{es:List D}{fa fb:Nat→Nat}{A:List Nat}{O:List World}(h:SlH H b bm iB iO io es fa fb A O)(o:Obj):SlE b (H.set 2 (.box [.ref 3 0 b.length])++[o]):=by
 have l2:=DF h.h2
 have fc:=Jw (H:=H) (H':=H.set 2 (.box [.ref 3 0 b.length])++[o]) 7 (.ref 3 0 b.length) (fun k hk=>by
  rw[h.eA]at hk
  obtain⟨sz,pin,ep,es',e⟩:=h.ar k hk
  have ne:2≠k:=fun e2=>by rw[← e2,h.h2]at e;cases e
  exact⟨sz,pin,pin,ep,es',e,by rw[xr (by rw[List.length_set];exact DF e),sJ ne];exact e⟩)
 exact⟨by rw[xr (by rw[List.length_set];exact l2),Gm l2],by rw[fc.1];exact h.fr⟩
end Go.Ev
namespace Go.Ev
open Go
variable [Lib] [cr] [bZ] [eM] [dT]
theorem aaK(l:List Nat):Hf 0 l=true:=by
 rw[← Hg];simp
end Go.Ev
namespace Go.Ev
open Go
variable [Lib] [cr] [bZ] [eM] [dT] [gK] [dJ] [dV] [kL] [jz] [dU] [eZ] [mC] [iP] [oJ] [qd]
end Go.Ev
namespace Go.Ev
open Go
variable [Lib] [cr] [bZ] [eM] [dT] [gK] [dJ] [dV] [kL] [jz] [dU] [eZ]
def AW(P:Wh→Prop)(ws:List World):Prop:=∀x∈ws,∀w∈x.whr,P w
structure Kept(m:cC)(T:Int)(P:Wh→Prop):Prop where
 see:∀w l a b,P w→b≤T→P (ao0 m w l a b).1
 abs:∀w l a b bl,P w→b≤T→P (ao5 m w l a b bl).1
 raise:∀w t,P w→t≤T→P (QN w t).1
 join:∀a b,P a→P b→a.frm.length=b.frm.length→P (QO a b).1
theorem AW.set{P:Wh→Prop}{x:World}(h:∀w∈x.whr,P w)(tag:Int){w:Wh}(hw:(vK x.tags tag).toNat<x.whr.length→P w):∀y∈(akO tag x w).whr,P y:=by
 intro y hy
 simp only[akO]at hy
 by_cases c:(vK x.tags tag).toNat<x.whr.length
 · rcases aLk hy with a | rfl
   · exact h y a
   · exact hw c
 · rw[List.set_eq_of_length_le (by omega)]at hy;exact h y hy
end Go.Ev
namespace Go.Ev
open Go
variable [Lib] [cr] [bZ] [eM]
end Go.Ev
namespace Go.Ev
open Go
variable [Lib] [cr] [bZ] [eM] [dT] [gK] [dJ] [dV] [kL] [jz] [dU] [eZ] [mC] [iP] [oJ] [qd]
structure SlF(bm:cC)(w:Wh)(t:Int):Prop where
 ln:(U2 bm w t).frm.length=bm.aa.length
 bd:bnd (U2 bm w t).frm
 cl:clW bm t none (U2 bm w t).frm
 le:∀j,j<bm.aa.length→nth (U2 bm w t).frm j≤if t<nth w.frm j then 1099511627776 else nth w.frm j
section
variable (e : im) {m bm : cC} (b c : Bel) (t : Int) (l : List Int)
end
end Go.Ev
namespace Go.Ev.N
def Oi:Nat:=334
def Pj:Nat:=335
def Pk:Nat:=336
def aaL:Nat:=337
def Oj:Nat:=338
def lC:Nat:=339
def aaM:Nat:=340
def ad2:Nat:=341
def lD:Nat:=342
def nM:Nat:=343
def ad3:Nat:=344
def akV:Nat:=345
def Tk:Nat:=346
def aaN:Nat:=347
def ad4:Nat:=348
def ad5:Nat:=349
def eE:Nat:=350
def iQ:Nat:=351
def iR:Nat:=352
def jZ:Nat:=353
def aaO:Nat:=354
def Tl:Nat:=355
def ad6:Nat:=356
def ad7:Nat:=357
def U3:Nat:=358
def j0:Nat:=359
def ka:Nat:=360
def nN:Nat:=361
def aaP:Nat:=362
def U4:Nat:=363
def aaQ:Nat:=364
def ad8:Nat:=365
def ad9:Nat:=366
def aea:Nat:=367
def aeb:Nat:=368
def dN:Nat:=369
def aF:Nat:=370
def aS:Nat:=371
def iS:Nat:=372
def aC:Nat:=373
def iT:Nat:=374
def iU:Nat:=375
def aaR:Nat:=376
def aaS:Nat:=377
def Tm:Nat:=378
def aJ:Nat:=379
def aR:Nat:=380
def fI:Nat:=381
def U5:Nat:=382
def Rz:Nat:=383
end Go.Ev.N
namespace Go.Ev.K
open Go.Ev
def D3:C:= (.its [u (.bin .lss v13 v12)] [] 0 .skip (.exit 1) (.seq (.blk 2 (q [a 1 v11 v13,g l0,x 10 l0] [] (.reg [f 3 v9,g l0,m v10,u (.bd [z0,z0,z0] [(0,1,.l 0),(1,1,.i (-1))]),u (.bs [.l 0] 3),u (.app l3 l0 true 3),f 3 v9,u (.st l0 l1 1 [])] []))) (.reg [u (.bin .add v13 (.i 1)),x 13 l0] [])))
def Fc:C:= .loop true [0,2,3,4,5,7,10,14,15] K.D3
def D4:C:= (.its [u (.bin .lss v15 v14)] [] 0 .skip (.exit 3) (.seq (.blk 4 (.reg [f 6 v9,g l0,u (.bs [.i (-1)] 1),u (.app l1 l0 true 1),f 7 v9,g l0,u (.bs [.i (-1)] 1),u (.app l1 l0 true 1),f 8 v9,g l0,m v8,u (.mkt l0 (.int .i64 (0)) 1),u (.bs [.l 0] 1),u (.app l3 l0 true 1),f 6 v9,u (.st l0 l11 1 []),f 7 v9,u (.st l0 l9 1 []),f 8 v9,u (.st l0 l5 1 [])] [(2,2),(5,0),(6,0),(9,0),(9,4),(11,0),(11,4),(12,0),(12,4)])) (.reg [u (.bin .add v15 (.i 1)),x 15 l0] [])))
def Fe:C:= .loop true [0,1,2,3,4,5,7,10,11,12,13] K.D4
def lC:Fn:= { aq:=5,vars:=[0,1,2,3,4,5,10,11,12,13,15,55,56,57,70,71],body:=(q [w 5 (.bx v0 2),w 6 (.al [.nil,.nil,z0,.nil,.nil,.nil,.nil,.nil,.nil] []),x 7 (.i 0)] [] (q [m v2,u (.ln l0),x 8 l0] [] (.seq (.blk 0 (.ite [h 2 v5,m v1,u (.ca N.eE 0 [] [.l 1,.l 0]),u (.un .not l0),m l0,e 0 false v3,y 1 false (.ln l0),e 2 false v8,y 3 false (.bin .neq l1 l0),u (.pk l4 (.b true) l0),m l0,e 0 false v8,y 1 false (.ca N.bD 0 [] [.l 0,.i 1,.i 12]),y 2 false (.un .not l0),u (.pk l3 (.b true) l0),m l0] [] 0 (q [u (.bd [.nil,.nil,z0,.nil,.nil,.nil,.nil,.nil,.nil] []),u (.st v6 l0 9 []),x 7 (.i 6)] [] .ret) (.ite [m v2,u (.mf N.iQ [.v 5]),u (.ca N.aA 0 [] [.l 1,.l 0]),m l0] [] 0 (q [u (.bd [.nil,.nil,z0,.nil,.nil,.nil,.nil,.nil,.nil] []),u (.st v6 l0 9 []),x 7 (.i 3)] [] .ret) (.ite [m v3,u (.ca N.iR 0 [] [.l 0]),u (.un .not l0),m l0] [] 0 (q [u (.bd [.nil,.nil,z0,.nil,.nil,.nil,.nil,.nil,.nil] []),u (.st v6 l0 9 []),x 7 (.i 41)] [] .ret) (.ite [m v4,u (.ca N.bD 0 [] [.l 0,.i 0,.i 2147483648]),u (.un .not l0),m l0] [] 0 (q [u (.bd [.nil,.nil,z0,.nil,.nil,.nil,.nil,.nil,.nil] []),u (.st v6 l0 9 []),x 7 (.i 8)] [] .ret) .skip))))) (q [h 2 v5,m v4,m v3,m v1,u (.bd [.nil,.nil,z0,.nil,.nil,.nil,.nil,.nil,.nil] [(0,2,.l 3),(2,1,.l 2),(4,1,.l 1),(5,1,.l 0)]),w 9 (.al [.nil,.nil,z0,.nil,.nil,.nil,.nil,.nil,.nil] [(3,3),(6,1),(7,1),(8,1)]),u (.st l0 l1 9 [(3,3),(6,1),(7,1),(8,1)])] [] (.seq (q [x 11 v2,w 12 (.ln l0),x 13 (.i 0)] [] (.blk 1 K.Fc)) (.seq (q [m v1,w 14 (.ln l0),x 15 (.i 0)] [] (.blk 3 K.Fe)) (q [h 9 v9,u (.ca N.jZ 0 [] [.l 0]),u (.st v6 l0 9 []),x 7 (.i 0)] [] .ret))))))),res:=[(6,some (9,true)),(7,none)]}
def lD:Fn:= { aq:=4,vars:=[0,1,2,3,4,8,9,10,11,12,13],body:= .fail,res:=[(5,some (9,true)),(6,none)]}
def Ff:C:= (.its [u (.bin .lss v10 v9)] [] 0 .skip (.exit 1) (.seq (.blk 2 (q [m v10,a 3 v8 v10,h 3 l0,w 7 (.al [z0,z0,z0] []),x 6 l3,u (.st l1 l2 3 [])] [] (.seq (.ite [f 1 v7,g l0,u (.bin .lss l0 (.i 0))] [] 0 (.exit 2) .skip) (.seq (q [f 2 v7,g l0,m v1,u (.bin .sub l1 l0),f 2 v7,u (.st l0 l1 1 [])] [] (.ite [f 2 v7,g l0,u (.bin .leq l0 (.i 0))] [] 0 (.reg [f 0 v2,h 2 l0,f 1 v7,g l0,f 0 v7,g l0,u (.ca N.nN 0 [] [.l 4,.l 2,.l 0]),u (.bd [z0,z0,z0] [(0,1,.l 0),(1,1,.i (-1))]),u (.st v7 l0 3 [])] []) .skip)) (.reg [f 3 v5,g l0,m v6,h 3 v7,a 3 l2 l1,u (.st l0 l1 3 [])] []))))) (.reg [u (.bin .add v10 (.i 1)),x 10 l0] [])))
def HB:C:= .loop true [0,4,6,7] K.Ff
def nM:Fn:= { aq:=2,vars:=[0,1,2,4,5,6,7,8,34,35,36],body:=(q [w 2 (.bx v0 9),w 3 (.al [.nil,.nil,z0,.nil,.nil,.nil,.nil,.nil,.nil] []),x 4 (.i 0)] [] (.seq (.blk 0 (.ite [h 9 v2,u (.ca N.ka 0 [] [.l 0]),u (.un .not l0),m l0] [] 0 (q [h 9 v2,u (.st v3 l0 9 []),x 4 (.i 6)] [] .ret) (.ite [m v1,u (.ca N.bD 0 [] [.l 0,.i 0,.i 3600]),u (.un .not l0),m l0] [] 0 (q [h 9 v2,u (.st v3 l0 9 []),x 4 (.i 1)] [] .ret) (.ite [f 2 v2,g l0,m v1,u (.bin .add l1 l0),u (.bin .gtr l0 (.i 2147483648)),m l0] [] 0 (q [h 9 v2,u (.st v3 l0 9 []),x 4 (.i 8)] [] .ret) .skip)))) (q [h 9 v2,u (.ca N.fI 1 [] [.l 0]),w 5 (.al [.nil,.nil,z0,.nil,.nil,.nil,.nil,.nil,.nil] []),u (.st l0 l1 9 [])] [] (q [f 2 v5,g l0,m v1,u (.bin .add l1 l0),f 2 v5,u (.st l0 l1 1 [])] [] (.seq (q [f 3 v5,w 8 (.ld l0 1 false),w 9 (.ln l0),x 10 (.i 0)] [] (.blk 1 K.HB)) (q [h 9 v5,u (.st v3 l0 9 []),x 4 (.i 0)] [] .ret)))))),res:=[(3,some (9,true)),(4,none)]}
end Go.Ev.K
namespace Go.Ev
class tY [Lib]:Prop where
 zI:Lib.fs N.lC=some K.lC
 zJ:Lib.fs N.lD=some K.lD
 BS:Lib.fs N.nM=some K.nM
namespace K
variable [Lib] [tY]
theorem zI:Lib.fs N.lC=some K.lC:=tY.zI
theorem zJ:Lib.fs N.lD=some K.lD:=tY.zJ
theorem BS:Lib.fs N.nM=some K.nM:=tY.BS
end K
end Go.Ev
namespace Go.Ev.K
open Go.Ev
def eE:Fn:= { aq:=2,vars:=[0,1,2,4,5],body:=(q [w 2 (.bx v0 2),x 3 (.b false)] [] (q [u (.mf N.dN [.v 2]),x 4 l0] [] (q [h 2 v2,u (.ca N.cN 0 [] [.l 0]),m l0,e 0 true v1,y 1 true (.ln l0),y 2 true (.bin .leq l0 (.i 32)),u (.pk l3 l0 (.b false)),m l0,e 0 true v1,e 1 true v4,y 2 true (.ca N.aF 0 [] [.l 1,.l 0]),y 3 true (.un .not l0),u (.pk l4 l0 (.b false)),x 3 l0] [] .ret))),res:=[(3,none)]}
def iQ:Fn:= { aq:=2,vars:=[0,1,3],body:=(q [x 2 (.b false)] [] (q [m v0,f 0 v1,g l0,u (.ln l0),u (.bin .sub l0 (.i 1)),u (.ca N.bD 0 [] [.l 4,.i 0,.l 0]),u (.un .not l0),x 2 l0] [] .ret)),res:=[(2,none)]}
def iR:Fn:= { aq:=1,vars:=[0,2],body:=(q [x 1 (.b false)] [] (q [m v0,u (.ca N.bE 0 [] [.l 0]),u (.ca N.cy 0 [] [.l 0]),u (.ca N.bX 0 [] [.l 0,.i 1,.i 65535]),x 1 l0] [] .ret)),res:=[(1,none)]}
def Ch:C:= (.its [u (.bin .lss v8 v7)] [] 0 .skip (.exit 0) (.seq (.blk 1 (q [a 4 v6 v8,h 4 l0,w 4 (.al [.nil,z0,z0,z0] []),u (.st l0 l1 4 [])] [] (q [f 0 v4,g l0,u (.ca N.ai 0 [] [.l 0]),f 0 v4,u (.st l0 l1 1 [])] [] (.reg [f 5 v3,g l0,h 4 v4,u (.bs [.l 0] 4),u (.app l2 l0 true 4),f 5 v3,u (.st l0 l1 1 [])] [])))) (.reg [u (.bin .add v8 (.i 1)),x 8 l0] [])))
def D5:C:= .loop true [0,4,5,9,10,11] K.Ch
def Ci:C:= (.its [u (.bin .lss v11 v10)] [] 0 .skip (.exit 2) (.seq (.blk 3 (q [a 1 v9 v11,g l0,x 5 l0] [] (.reg [f 8 v3,g l0,m v5,u (.ca N.ai 0 [] [.l 0]),u (.bs [.l 0] 1),u (.app l3 l0 true 1),f 8 v3,u (.st l0 l1 1 [])] [(1,4),(1,5)]))) (.reg [u (.bin .add v11 (.i 1)),x 11 l0] [])))
def D6:C:= .loop true [0,1,4,5,6,7,8] K.Ci
def jZ:Fn:= { aq:=1,vars:=[0,1,2,3,5,7,29,30,31,56,57,58],body:=(q [w 1 (.bx v0 9),w 2 (.al [.nil,.nil,z0,.nil,.nil,.nil,.nil,.nil,.nil] [])] [] (q [h 9 v1,w 3 (.al [.nil,.nil,z0,.nil,.nil,.nil,.nil,.nil,.nil] [(5,4),(8,1)]),u (.st l0 l1 9 [])] [] (q [f 0 v1,f 0 l0,g l0,u (.ca N.aL 0 [] [.l 0]),f 0 v1,f 1 l0,g l0,u (.ca N.aP 0 [] [.l 0]),u (.bd [.nil,.nil] [(0,1,.l 4),(1,1,.l 0)]),f 0 v3,u (.st l0 l1 2 [])] [(6,0)] (q [f 3 v1,g l0,u (.ca N.aS 0 [] [.l 0]),f 4 v1,g l0,u (.ca N.ai 0 [] [.l 0]),f 3 v3,u (.st l0 l4 1 []),f 4 v3,u (.st l0 l3 1 [])] [(4,0)] (q [f 5 v3,u (.st l0 (.c (.nil)) 1 [(5,4)])] [] (.seq (q [f 5 v1,w 6 (.ld l0 1 false),w 7 (.ln l0),x 8 (.i 0)] [] (.blk 0 K.D5)) (q [f 6 v1,g l0,u (.ca N.ai 0 [] [.l 0]),f 7 v1,g l0,u (.ca N.ai 0 [] [.l 0]),f 6 v3,u (.st l0 l4 1 []),f 7 v3,u (.st l0 l3 1 [])] [(4,0)] (q [f 8 v3,u (.st l0 (.c (.nil)) 1 [(8,1)])] [] (.seq (q [f 8 v1,w 9 (.ld l0 1 false),w 10 (.ln l0),x 11 (.i 0)] [] (.blk 2 K.D6)) (q [h 9 v3,u (.st v2 l0 9 [])] [] .ret)))))))))),res:=[(2,some (9,true))]}
def j0:Fn:= { aq:=3,vars:=[0,1,2,3,6,14],body:= .fail,res:=[(4,none)]}
def D7:C:= (.its [u (.bin .lss v7 v6)] [] 0 .skip (.exit 0) (.seq (.blk 1 (q [m v7,w 5 (.al [z0] []),u (.st l0 l1 1 [])] [] (.seq (.ite [f 6 v1,g l0,g v5,a 1 l1 l0,g l0,u (.ca N.bD 0 [] [.l 0,.i (-1),.i 65535]),u (.un .not l0),m l0,y 0 false (.fa v1 7),i 1 false l0,i 2 false v5,y 3 false (.ia l1 l0 1),i 4 false l0,y 5 false (.fa v1 2),i 6 false l0,y 7 false (.ca N.bD 0 [] [.l 2,.i (-1),.l 0]),y 8 false (.un .not l0),u (.pk l9 (.b true) l0),m l0,y 0 false (.fa v1 6),i 1 false l0,i 2 false v5,y 3 false (.ia l1 l0 1),i 4 false l0,y 5 false (.bin .eql l0 (.i (-1))),y 6 false (.fa v1 7),i 7 false l0,i 8 false v5,y 9 false (.ia l1 l0 1),i 10 false l0,y 11 false (.bin .eql l0 (.i (-1))),y 12 false (.eqk (.bool) true l6 l0),u (.pk (.l 13) (.b true) l0),m l0,y 0 false (.fa v1 8),i 1 false l0,i 2 false v5,y 3 false (.ia l1 l0 1),i 4 false l0,y 5 false (.ln l0),e 6 false v3,y 7 false (.bin .neq l1 l0),u (.pk l8 (.b true) l0)] [] 0 (q [x 2 (.b false)] [] .ret) .skip) (.ite [f 8 v1,g l0,g v5,a 1 l1 l0,g l0,u (.mf N.iS [.v 1,.v 5]),u (.ca N.aA 0 [] [.l 1,.l 0])] [] 0 (q [x 2 (.b false)] [] .ret) .skip)))) (.reg [u (.bin .add v7 (.i 1)),x 7 l0] [])))
def Fg:C:= .loop true [0,2,4,5] K.D7
def ka:Fn:= { aq:=1,vars:=[0,1,2,3,4,5,65,66],body:=(q [w 1 (.bx v0 9),x 2 (.b false)] [] (q [f 3 v1,g l0,u (.ln l0),f 5 v1,g l0,u (.ln l0),x 3 l3,x 4 l1] [] (.seq (.ite [f 0 v1,h 2 l0,f 5 v1,g l0,u (.ca N.eE 0 [] [.l 2,.l 0]),u (.un .not l0),m l0,e 0 false v3,y 1 false (.ca N.bD 0 [] [.l 0,.i 1,.i 12]),y 2 false (.un .not l0),u (.pk l3 (.b true) l0),m l0,y 0 false (.fa v1 4),i 1 false l0,y 2 false (.ln l0),e 3 false v3,y 4 false (.bin .neq l1 l0),u (.pk l5 (.b true) l0),m l0,y 0 false (.fa v1 4),i 1 false l0,y 2 false (.ca N.iR 0 [] [.l 0]),y 3 false (.un .not l0),u (.pk l4 (.b true) l0),m l0,y 0 false (.fa v1 2),i 1 false l0,y 2 false (.ca N.bD 0 [] [.l 0,.i 0,.i 2147483648]),y 3 false (.un .not l0),u (.pk l4 (.b true) l0),m l0,y 0 false (.fa v1 6),i 1 false l0,y 2 false (.ln l0),e 3 false v4,y 4 false (.bin .neq l1 l0),u (.pk l5 (.b true) l0),m l0,y 0 false (.fa v1 7),i 1 false l0,y 2 false (.ln l0),e 3 false v4,y 4 false (.bin .neq l1 l0),u (.pk l5 (.b true) l0),m l0,y 0 false (.fa v1 8),i 1 false l0,y 2 false (.ln l0),e 3 false v4,y 4 false (.bin .neq l1 l0),u (.pk l5 (.b true) l0)] [] 0 (q [x 2 (.b false)] [] .ret) .skip) (.seq (q [f 5 v1,g l0,w 6 (.ln l0),x 7 (.i 0)] [] (.blk 0 K.Fg)) (q [f 3 v1,g l0,u (.mf N.iT [.v 1]),u (.ca N.aC 0 [] [.l 1,.l 0]),u (.un .not l0),x 2 l0] [] .ret))))),res:=[(2,none)]}
def nN:Fn:= { aq:=3,vars:=[0,1,2,3,6,7,22],body:= .fail,res:=[(4,none)]}
end Go.Ev.K
namespace Go.Ev
class qT [Lib]:Prop where
 sQ:Lib.fs N.eE=some K.eE
 vS:Lib.fs N.iQ=some K.iQ
 xH:Lib.fs N.iR=some K.iR
 xI:Lib.fs N.jZ=some K.jZ
 xJ:Lib.fs N.j0=some K.j0
 zK:Lib.fs N.ka=some K.ka
 BT:Lib.fs N.nN=some K.nN
namespace K
variable [Lib] [qT]
theorem sQ:Lib.fs N.eE=some K.eE:=qT.sQ
theorem vS:Lib.fs N.iQ=some K.iQ:=qT.vS
theorem xH:Lib.fs N.iR=some K.iR:=qT.xH
theorem xI:Lib.fs N.jZ=some K.jZ:=qT.xI
theorem xJ:Lib.fs N.j0=some K.j0:=qT.xJ
theorem zK:Lib.fs N.ka=some K.ka:=qT.zK
theorem BT:Lib.fs N.nN=some K.nN:=qT.BT
end K
end Go.Ev
namespace Go.Ev.K
open Go.Ev
def dN:Fn:= { aq:=2,vars:=[0,1,2,3],body:=(q [w 2 (.bx v0 4),x 3 (.b false)] [] (q [f 0 v2,g l0,u (.ln l0),u (.bin .eql l0 (.i 0)),m l0,y 0 false (.fa v2 0),i 1 false l0,y 2 false (.fa v1 0),i 3 false l0,y 4 false (.ln l0),y 5 false (.bin .sub l0 (.i 1)),y 6 false (.ca N.bX 0 [] [.l 4,.i 0,.l 0]),y 7 false (.un .not l0),u (.pk l8 (.b true) l0),m l0,y 0 false (.fa v2 1),i 1 false l0,y 2 false (.ca N.bD 0 [] [.l 0,.i 1,.i 600]),y 3 false (.un .not l0),u (.pk l4 (.b true) l0),m l0,y 0 false (.fa v2 2),i 1 false l0,y 2 false (.ca N.bD 0 [] [.l 0,.i 0,.i 10]),y 3 false (.un .not l0),u (.pk l4 (.b true) l0),m l0,y 0 false (.fa v2 3),i 1 false l0,y 2 false (.ca N.bD 0 [] [.l 0,.i 0,.i 60]),y 3 false (.un .not l0),u (.pk l4 (.b true) l0),x 3 l0] [] .ret)),res:=[(3,none)]}
def aF:Fn:= { aq:=2,vars:=[0,1,4],body:=(q [x 2 (.b false)] [] (q [m v0,m v1,u (.ca N.aJ 0 [] [.l 1,.l 0]),u (.bin .geq l0 (.i 0)),x 2 l0] [] .ret)),res:=[(2,none)]}
def aS:Fn:= { aq:=1,vars:=[0,2],body:=(q [w 1 (.mv (.c (.nil)))] [] (.itk [m v0,u (.eqk (.sl) false l0 (.c (.nil)))] [] 0 (q [w 1 (.nw 3)] [] .ret) .skip (q [u (.bsr [] 3),m v0,u (.app l1 l0 false 3),x 1 l0] [] .ret))),res:=[(1,none)]}
def iS:Fn:= { aq:=3,vars:=[0,1,2,4],body:=(q [x 3 (.b false)] [] (q [m v0,f 5 v1,g l0,g v2,a 4 l1 l0,f 2 l0,g l0,u (.ca N.bD 0 [] [.l 6,.i 0,.l 0]),u (.un .not l0),x 3 l0] [] .ret)),res:=[(3,none)]}
def aC:Fn:= { aq:=2,vars:=[0,1,4],body:=(q [x 2 (.b false)] [] (q [m v0,m v1,u (.ca N.aR 0 [] [.l 1,.l 0]),u (.bin .geq l0 (.i 0)),x 2 l0] [] .ret)),res:=[(2,none)]}
def iT:Fn:= { aq:=2,vars:=[0,1,2,3],body:=(q [w 2 (.bx v0 3),x 3 (.b false)] [] (q [f 0 v1,h 2 l0,h 3 v2,u (.ca N.iU 0 [] [.l 1,.l 0]),u (.un .not l0),x 3 l0] [] .ret)),res:=[(3,none)]}
def iU:Fn:= { aq:=2,vars:=[0,1,2,3,4],body:=(q [w 2 (.bx v0 2),w 3 (.bx v1 3),x 4 (.b false)] [] (.seq (.blk 0 (.ite [f 0 v3,g l0,f 0 v2,g l0,u (.ln l0),u (.bin .sub l0 (.i 1)),u (.ca N.bD 0 [] [.l 4,.i 0,.l 0]),u (.un .not l0),m l0] [] 0 (q [x 4 (.b false)] [] .ret) (.ite [f 1 v3,g l0,u (.bin .eql l0 (.i (-1))),m l0] [] 0 (q [f 2 v3,g l0,u (.bin .eql l0 (.i 0)),x 4 l0] [] .ret) .skip))) (q [h 2 v2,f 1 v3,g l0,f 0 v3,g l0,u (.ca N.j0 0 [] [.l 4,.l 2,.l 0]),u (.bin .geq l0 (.i 0)),m l0,y 0 true (.fa v3 2),i 1 true l0,y 2 true (.ca N.bD 0 [] [.l 0,.i 1,.i 2147483648]),u (.pk l3 l0 (.b false)),x 4 l0] [] .ret))),res:=[(4,none)]}
def iV:C:= (.its [u (.bin .lss v5 v4)] [] 0 .skip (.exit 0) (.seq (.blk 1 (q [m v5,x 3 l0] [] (.ite [m v1,m v0,m v3,a 4 l1 l0,h 4 l0,u (.cw l4 0 [] [.l 0])] [] 0 (q [m v3,x 2 l0] [] .ret) .skip))) (.reg [u (.bin .add v5 (.i 1)),x 5 l0] [])))
def jm:C:= .loop true [2,3] K.iV
def aJ:Fn:= { aq:=2,vars:=[0,1,4,5,7,8],body:=(q [x 2 (.i 0)] [] (.seq (q [m v0,w 4 (.ln l0),x 5 (.i 0)] [] (.blk 0 K.jm)) (q [w 2 (.mv (.i (-1)))] [] .ret))),res:=[(2,none)]}
def ko:C:= (.its [u (.bin .lss v5 v4)] [] 0 .skip (.exit 0) (.seq (.blk 1 (q [m v5,x 3 l0] [] (.ite [m v1,m v0,m v3,a 3 l1 l0,h 3 l0,u (.cw l4 0 [] [.l 0])] [] 0 (q [m v3,x 2 l0] [] .ret) .skip))) (.reg [u (.bin .add v5 (.i 1)),x 5 l0] [])))
def kz:C:= .loop true [2,3] K.ko
def aR:Fn:= { aq:=2,vars:=[0,1,4,5,7,8],body:=(q [x 2 (.i 0)] [] (.seq (q [m v0,w 4 (.ln l0),x 5 (.i 0)] [] (.blk 0 K.kz)) (q [w 2 (.mv (.i (-1)))] [] .ret))),res:=[(2,none)]}
def yn:C:= (.its [u (.bin .lss v8 v7)] [] 0 .skip (.exit 0) (.seq (.blk 1 (q [a 4 v6 v8,h 4 l0,w 4 (.al [.nil,z0,z0,z0] []),u (.st l0 l1 4 [])] [] (q [f 0 v4,g l0,u (.ca N.ai 0 [] [.l 0]),f 0 v4,u (.st l0 l1 1 [])] [] (.reg [f 5 v3,g l0,h 4 v4,u (.bs [.l 0] 4),u (.app l2 l0 true 4),f 5 v3,u (.st l0 l1 1 [])] [])))) (.reg [u (.bin .add v8 (.i 1)),x 8 l0] [])))
def zL:C:= .loop true [0,4,5,9,10,11] K.yn
def yo:C:= (.its [u (.bin .lss v11 v10)] [] 0 .skip (.exit 2) (.seq (.blk 3 (q [a 1 v9 v11,g l0,x 5 l0] [] (.reg [f 8 v3,g l0,m v5,u (.ca N.ai 0 [] [.l 0]),u (.bs [.l 0] 1),u (.app l3 l0 true 1),f 8 v3,u (.st l0 l1 1 [])] [(1,4),(1,5)]))) (.reg [u (.bin .add v11 (.i 1)),x 11 l0] [])))
def zM:C:= .loop true [0,1,4,5,6,7,8] K.yo
def fI:Fn:= { aq:=1,vars:=[0,1,2,3,5,7,29,30,31,56,57,58],body:=(q [w 1 (.bx v0 9),w 2 (.al [.nil,.nil,z0,.nil,.nil,.nil,.nil,.nil,.nil] [])] [] (q [h 9 v1,w 3 (.al [.nil,.nil,z0,.nil,.nil,.nil,.nil,.nil,.nil] [(5,4),(8,1)]),u (.st l0 l1 9 [])] [] (q [f 0 v1,f 0 l0,g l0,u (.ca N.aL 0 [] [.l 0]),f 0 v1,f 1 l0,g l0,u (.ca N.aP 0 [] [.l 0]),u (.bd [.nil,.nil] [(0,1,.l 4),(1,1,.l 0)]),f 0 v3,u (.st l0 l1 2 [])] [(6,0)] (q [f 3 v1,g l0,u (.ca N.aS 1 [] [.l 0]),f 4 v1,g l0,u (.ca N.ai 0 [] [.l 0]),f 3 v3,u (.st l0 l4 1 []),f 4 v3,u (.st l0 l3 1 [])] [(4,0)] (q [f 5 v3,u (.st l0 (.c (.nil)) 1 [(5,4)])] [] (.seq (q [f 5 v1,w 6 (.ld l0 1 false),w 7 (.ln l0),x 8 (.i 0)] [] (.blk 0 K.zL)) (q [f 6 v1,g l0,u (.ca N.ai 0 [] [.l 0]),f 7 v1,g l0,u (.ca N.ai 0 [] [.l 0]),f 6 v3,u (.st l0 l4 1 []),f 7 v3,u (.st l0 l3 1 [])] [(4,0)] (q [f 8 v3,u (.st l0 (.c (.nil)) 1 [(8,1)])] [] (.seq (q [f 8 v1,w 9 (.ld l0 1 false),w 10 (.ln l0),x 11 (.i 0)] [] (.blk 2 K.zM)) (q [h 9 v3,u (.st v2 l0 9 [])] [] .ret)))))))))),res:=[(2,some (9,true))]}
end Go.Ev.K
namespace Go.Ev
class pS [Lib]:Prop where
 qU:Lib.fs N.dN=some K.dN
 dj:Lib.fs N.aF=some K.aF
 gD:Lib.fs N.aS=some K.aS
 vT:Lib.fs N.iS=some K.iS
 eF:Lib.fs N.aC=some K.aC
 vU:Lib.fs N.iT=some K.iT
 vV:Lib.fs N.iU=some K.iU
 dF:Lib.fs N.aJ=some K.aJ
 fj:Lib.fs N.aR=some K.aR
 sR:Lib.fs N.fI=some K.fI
namespace K
variable [Lib] [pS]
theorem qU:Lib.fs N.dN=some K.dN:=pS.qU
theorem dj:Lib.fs N.aF=some K.aF:=pS.dj
theorem gD:Lib.fs N.aS=some K.aS:=pS.gD
theorem vT:Lib.fs N.iS=some K.iS:=pS.vT
theorem eF:Lib.fs N.aC=some K.aC:=pS.eF
theorem vU:Lib.fs N.iT=some K.iT:=pS.vU
theorem vV:Lib.fs N.iU=some K.iU:=pS.vV
theorem dF:Lib.fs N.aJ=some K.aJ:=pS.dF
theorem fj:Lib.fs N.aR=some K.aR:=pS.fj
theorem sR:Lib.fs N.fI=some K.fI:=pS.sR
end K
end Go.Ev
namespace Go.Ev
open Go
variable [Lib] [cr] [bZ] [eM] [dT] [gK] [dJ] [dV] [kL] [jz] [dU] [eZ] [mC] [iP] [oJ] [qd] [tY] [qT] [pS]
structure Rdr where
 pl:List Int
 per:Int
 miss:Int
 skew:Int
instance : Dat Rdr := ⟨⟨[], 0, 0, 0⟩⟩
abbrev Rdr.e(r:Rdr):T:= .agg [tL r.pl,tI r.per,tI r.miss,tI r.skew]
structure Wlk where
 place:Int
 cL:Int
 left:Int
instance : Dat Wlk := ⟨⟨0, 0, 0⟩⟩
abbrev Wlk.e(w:Wlk):T:= .agg [tI w.place,tI w.cL,tI w.left]
structure Tru where
 UT:cC
 time:Int
 people:List Wlk
 tags:List Int
 readers:List Rdr
 numbers:List Int
 looked:List Int
 missed:List (List Int)
abbrev tLL(l:List (List Int)):T:= .sl (l.map fun x=> .sl (x.map (T.int .i64)))
abbrev Tru.cs(x:Tru):List T:=[.sl (x.UT.aa.map Place.e),.sl (x.UT.roads.map Road.e),tI x.time,.sl (x.people.map Wlk.e),tL x.tags,.sl (x.readers.map Rdr.e),tL x.numbers,tL x.looked,tLL x.missed]
abbrev Tru.e(x:Tru):T:= .agg x.cs
structure Tru.sz(x:Tru):Prop where
 a:x.UT.aa.length≤1000000
 b:x.UT.roads.length≤1000000
 c:x.people.length≤1000000
 d:x.tags.length≤1000000
 r:x.readers.length≤1000000
 r2:∀y∈x.readers,y.pl.length≤1000000
 n:x.numbers.length≤1000000
 l:x.looked.length≤1000000
 m:x.missed.length≤1000000
 m2:∀y∈x.missed,y.length≤1000000
@[go_sem] theorem W6 (l : List Rdr) : cj 4 (l.map Rdr.e) = true := jO 4 _ (fun _ => rfl) l
@[go_sem] theorem ahX (l : List Rdr) : oI 4 (l.map Rdr.e) = true := by cases l <;> rfl
@[go_sem] theorem W7 (l : List Wlk) : cj 3 (l.map Wlk.e) = true := jO 3 _ (fun _ => rfl) l
@[go_sem] theorem ahY (l : List Wlk) : oI 3 (l.map Wlk.e) = true := by cases l <;> rfl
@[go_sem] theorem aaT (l : List (List Int)) : cj 1 (l.map fun x => T.sl (x.map (T.int .i64))) = true := jO 1 _ (fun _ => rfl) l
@[go_sem] theorem akW (l : List (List Int)) : oI 1 (l.map fun x => T.sl (x.map (T.int .i64))) = true := by cases l <;> rfl
structure anT(n:Int)(r:Rdr):Prop where
 s:Pa r.pl n=true
 l:r.pl.length≤64
 l1:1≤r.pl.length
 p1:1≤r.per
 p2:r.per≤30
 m1:0≤r.miss
 m2:r.miss≤2
 k1:0≤r.skew
 k2:r.skew≤5
def RA(m:cC)(r p:Int):Int:=
 if 0≤r∧r<m.roads.length then
  if(nth m.roads r.toNat).frm=p then KY m r.toNat false 6 9 12
  else if(nth m.roads r.toNat).to=p then KY m r.toNat true 6 9 12 else -1
 else -1
def Wlk.ok(m:cC)(w:Wlk):Prop:=(0≤w.place∧w.place<m.aa.length)∧(w.cL= -1∧w.left=0∨0≤w.cL∧0≤RA m w.cL w.place∧1≤w.left∧w.left≤2147483648)
structure Tru.ok(x:Tru):Prop where
 m:x.UT.ok
 m1:1≤x.UT.aa.length
 rl:x.readers.length≤3
 r:∀r∈x.readers,anT x.UT.aa.length r
 n1:1≤x.people.length
 n3:x.people.length≤3
 w:∀w∈x.people,w.ok x.UT
 tl:x.tags.length=x.people.length
 tp:Hu x.tags=true
 t0:0≤x.time
 t1:x.time≤2147483648
 nl:x.numbers.length=x.readers.length
 ll:x.looked.length=x.readers.length
 ml:x.missed.length=x.readers.length
 nb:∀j,j<x.readers.length→(-1≤nth x.numbers j∧nth x.numbers j≤65535)∧(-1≤nth x.looked j∧nth x.looked j≤x.time)∧(nth x.looked j= -1↔nth x.numbers j= -1)
 m2:∀j,j<x.readers.length→(nth x.missed j).length=x.people.length
 mb:∀j,j<x.readers.length→∀i,i<x.people.length→0≤nth (nth x.missed j) i∧nth (nth x.missed j) i≤(nth x.readers j).miss
theorem Tru.ok.sz{x:Tru}(h:x.ok):x.sz:=by
 have:=h.m.np
 have:=h.m.nr
 have:=h.rl
 have:=h.n3
 have:=h.tl
 have:=h.nl
 have:=h.ll
 have:=h.ml
 refine⟨by omega,by omega,by omega,by omega,by omega,fun y hy=>?_,by omega,by omega,by omega,fun y hy=>?_⟩
 · have:=(h.r y hy).l;omega
 · obtain⟨j,hj,rfl⟩:=List.getElem_of_mem hy
   have:=h.m2 j (by omega)
   rw[qo (aLc hj)]at this
   omega
theorem Wlk.ok.cL{m:cC}{w:Wlk}(h:w.ok m)(hr:w.cL≠ -1):0≤w.cL∧w.cL<m.roads.length∧((nth m.roads w.cL.toNat).frm=w.place∨(nth m.roads w.cL.toNat).to=w.place)∧1≤w.left∧w.left≤2147483648:=by
 rcases h.2 with h2 | ⟨a,b,c,d⟩
 · exact absurd h2.1 hr
 · unfold RA at b
   split at b
   · next hh=>
     refine⟨a,hh.2,?_,c,d⟩
     split at b
     · next q=>exact .inl q
     · split at b
       · next q=>exact .inr q
       · omega
   · omega
@[go_sem] theorem ahZ (H : af) (p o n : Nat) : K8 H 1 [.ref p o n] = some (.ref H.length 0 1, H ++ [.arr 1 false 0 [.ref p o n]]) := rfl
abbrev arI(l:List Int):Obj:= .arr 1 false 0 ((l.map (T.int .i64)).map .t)
end Go.Ev
namespace Go.Ev.N
def U6:Nat:=384
def Tn:Nat:=385
def RB:Nat:=386
def To:Nat:=387
def RC:Nat:=388
def aaU:Nat:=389
def aaV:Nat:=390
def aec:Nat:=391
def Pl:Nat:=392
def aaW:Nat:=393
def aaX:Nat:=394
def Pm:Nat:=395
def nO:Nat:=396
def Pn:Nat:=397
def Ol:Nat:=398
def ah0:Nat:=399
def aed:Nat:=400
def aee:Nat:=401
def RD:Nat:=402
def aef:Nat:=403
def ah1:Nat:=404
def aeg:Nat:=405
def aeh:Nat:=406
def ah2:Nat:=407
def MW:Nat:=408
def MX:Nat:=409
def aei:Nat:=410
def ah3:Nat:=411
def W8:Nat:=412
def It:Nat:=413
def ah4:Nat:=414
def Gv:Nat:=415
end Go.Ev.N
namespace Go.Ev.N
def Jx:Nat:=416
def Ke:Nat:=417
def Kf:Nat:=418
def Jy:Nat:=419
def aaY:Nat:=420
def Po:Nat:=421
def Om:Nat:=422
def W9:Nat:=423
def Pp:Nat:=424
def Pq:Nat:=425
def aaZ:Nat:=426
def Pr:Nat:=427
def MY:Nat:=428
def Ps:Nat:=429
def Fh:Nat:=430
def Lh:Nat:=431
def ah5:Nat:=432
def ah6:Nat:=433
def aej:Nat:=434
def MZ:Nat:=435
def nQ:Nat:=436
def M0:Nat:=437
def lE:Nat:=438
def aa0:Nat:=439
def aa1:Nat:=440
def Xa:Nat:=441
def aa2:Nat:=442
def aa3:Nat:=443
def M1:Nat:=444
def aek:Nat:=445
def U7:Nat:=446
def ael:Nat:=447
def aa4:Nat:=448
def aem:Nat:=449
def aa5:Nat:=450
def akX:Nat:=451
def akY:Nat:=452
def ah7:Nat:=453
def Jz:Nat:=454
def Iu:Nat:=455
def Xb:Nat:=456
def ah8:Nat:=457
def aen:Nat:=458
def ah9:Nat:=459
def Pt:Nat:=460
def xe:Nat:=461
def aeo:Nat:=462
def aia:Nat:=463
def Li:Nat:=464
def Xc:Nat:=465
def On:Nat:=466
def xK:Nat:=467
def M3:Nat:=468
def M4:Nat:=469
def aib:Nat:=470
def Tp:Nat:=471
end Go.Ev.N
namespace Go.Ev.N
def RE:Nat:=472
def Tq:Nat:=473
def RF:Nat:=474
end Go.Ev.N
namespace Go.Ev.N
def RG:Nat:=475
def Oo:Nat:=476
def Oq:Nat:=477
def Lj:Nat:=478
def aa6:Nat:=479
def aa7:Nat:=480
def Xd:Nat:=481
def U8:Nat:=482
def aa8:Nat:=483
def Xe:Nat:=484
def Xf:Nat:=485
def Xg:Nat:=486
def aep:Nat:=487
def aa9:Nat:=488
def M5:Nat:=489
def aba:Nat:=490
def Xh:Nat:=491
def Ts:Nat:=492
def Xi:Nat:=493
def Pu:Nat:=494
def abb:Nat:=495
def aeq:Nat:=496
def aer:Nat:=497
def Lk:Nat:=498
def vg:Nat:=499
def Tt:Nat:=500
def Tu:Nat:=501
def w6:Nat:=502
def Kg:Nat:=503
end Go.Ev.N
namespace Go.Ev.N
def Pv:Nat:=504
def abc:Nat:=505
def abd:Nat:=506
def aes:Nat:=507
end Go.Ev.N
namespace Go.Ev.N
def Pw:Nat:=508
def abe:Nat:=509
def RH:Nat:=510
def abf:Nat:=511
def aet:Nat:=512
def nR:Nat:=513
def Xj:Nat:=514
def abg:Nat:=515
def RI:Nat:=516
def Px:Nat:=517
def Ot:Nat:=518
def aeu:Nat:=519
def U9:Nat:=520
def j4:Nat:=521
def gY:Nat:=522
def Va:Nat:=523
def aev:Nat:=524
def bw:Nat:=525
def iW:Nat:=526
def gw:Nat:=527
def bj:Nat:=528
def nS:Nat:=529
def Vb:Nat:=530
def Xk:Nat:=531
def Vc:Nat:=532
def aew:Nat:=533
def dX:Nat:=534
def dY:Nat:=535
def dZ:Nat:=536
def eb:Nat:=537
def ec:Nat:=538
def eh:Nat:=539
def Ll:Nat:=540
def Ou:Nat:=541
def Lm:Nat:=542
def Ln:Nat:=543
def eo:Nat:=544
def et:Nat:=545
def eu:Nat:=546
def Xl:Nat:=547
def Tv:Nat:=548
def Py:Nat:=549
def cX:Nat:=550
def Tw:Nat:=551
def Pz:Nat:=552
def PA:Nat:=553
def M6:Nat:=554
def PB:Nat:=555
def RJ:Nat:=556
def vi:Nat:=557
def Kh:Nat:=558
def Ki:Nat:=559
def Ov:Nat:=560
def w7:Nat:=561
end Go.Ev.N
namespace Go.Ev.N
def RK:Nat:=562
def iE:Nat:=563
def aex:Nat:=564
def aey:Nat:=565
def abh:Nat:=566
def aez:Nat:=567
def rI:Nat:=568
def lF:Nat:=569
def abi:Nat:=570
def Vd:Nat:=571
def aeA:Nat:=572
def Xm:Nat:=573
def aeB:Nat:=574
def Ve:Nat:=575
def abj:Nat:=576
def Xn:Nat:=577
def pT:Nat:=578
def lG:Nat:=579
def Iv:Nat:=580
def Xo:Nat:=581
def pU:Nat:=582
def iX:Nat:=583
def fp:Nat:=584
def iY:Nat:=585
def lH:Nat:=586
def iZ:Nat:=587
def j5:Nat:=588
def i5:Nat:=589
def i7:Nat:=590
def i9:Nat:=591
def ja:Nat:=592
def j6:Nat:=593
def dw:Nat:=594
def fq:Nat:=595
def dy:Nat:=596
def dz:Nat:=597
def eT:Nat:=598
def jb:Nat:=599
def gE:Nat:=600
def aG:Nat:=601
def fJ:Nat:=602
def kc:Nat:=603
def j7:Nat:=604
def gF:Nat:=605
def dO:Nat:=606
def dQ:Nat:=607
def gG:Nat:=608
def aK:Nat:=609
def vW:Nat:=610
def Vf:Nat:=611
def aeC:Nat:=612
def xL:Nat:=613
end Go.Ev.N
namespace Go.Ev.N
def Tx:Nat:=614
def RL:Nat:=615
def RM:Nat:=616
def RN:Nat:=617
def Ty:Nat:=618
def RO:Nat:=619
def Xp:Nat:=620
def Ow:Nat:=621
def Lo:Nat:=622
def Vg:Nat:=623
def Xq:Nat:=624
def Vh:Nat:=625
def RP:Nat:=626
def Ox:Nat:=627
def Oy:Nat:=628
def Oz:Nat:=629
def RQ:Nat:=630
def Lp:Nat:=631
def Tz:Nat:=632
def OA:Nat:=633
end Go.Ev.N
namespace Go.Ev.N
def dA:Nat:=634
def pB:Nat:=635
def cM:Nat:=636
def cY:Nat:=637
def bU:Nat:=638
def ax:Nat:=639
def aW:Nat:=640
def cZ:Nat:=641
def bH:Nat:=642
def dB:Nat:=643
def cz:Nat:=644
def eU:Nat:=645
def c9:Nat:=646
def eG:Nat:=647
def fv:Nat:=648
def ew:Nat:=649
def de:Nat:=650
def dC:Nat:=651
def kt:Nat:=652
def fX:Nat:=653
def mM:Nat:=654
def ku:Nat:=655
def gM:Nat:=656
def iF:Nat:=657
def fw:Nat:=658
def cJ:Nat:=659
def eV:Nat:=660
def bo:Nat:=661
def bg:Nat:=662
def eH:Nat:=663
def dt:Nat:=664
def bK:Nat:=665
def cA:Nat:=666
def cB:Nat:=667
def bV:Nat:=668
def jo:Nat:=669
def lI:Nat:=670
def bW:Nat:=671
def fe:Nat:=672
def jq:Nat:=673
def bA:Nat:=674
def bG:Nat:=675
def b8:Nat:=676
def mN:Nat:=677
def cG:Nat:=678
def cH:Nat:=679
def lV:Nat:=680
def fY:Nat:=681
def kv:Nat:=682
def jc:Nat:=683
def jG:Nat:=684
def gZ:Nat:=685
def dD:Nat:=686
def bS:Nat:=687
end Go.Ev.N
namespace Go.Ev.K
open Go.Ev
def nd:C:= (.seq (.ite [m v9,f 1 v5,g l0,u (.ln l0),u (.bin .lss l3 l0)] [] 0 .skip (.exit 0)) (.seq (.blk 1 (.reg [m v8,f 1 v5,g l0,m v9,a 1 l1 l0,g l0,f 1 v5,g l0,m v9,a 1 l1 l0,g l0,u (.bd [z0,z0] [(0,1,.l 5),(1,1,.l 0)]),u (.bs [.l 0] 2),u (.app (.l 12) l0 true 2),x 8 l0] [])) (.reg [m v9,u (.bin .add l0 (.i 1)),x 9 l0] [])))
def rJ:C:= .loop true [0,2,4,7,10,11,12,13,14,15] K.nd
def nf:C:= (.seq (.ite [m v15,f 1 v11,g l0,u (.ln l0),u (.bin .lss l3 l0)] [] 0 .skip (.exit 2)) (.seq (.blk 3 (.ite [f 1 v11,g l0,m v15,a 1 l1 l0,g l0,f 1 v13,g l0,m v15,a 1 l1 l0,g l0,u (.bin .gtr l5 l0)] [] 0 (q [x 2 (.b false)] [] .ret) .skip)) (.reg [m v15,u (.bin .add l0 (.i 1)),x 15 l0] [])))
def rK:C:= .loop true [0,1,2,3,4,5,6,7,8,9,10,12,14] K.nf
def dA:Fn:= { aq:=2,vars:=[0,1,4,5,6,7,8,9,10,11,12,13,14,15,16,17],body:=(q [x 2 (.b false)] [] (.seq (.ite [m v0,u (.ln l0),u (.bin .gtr l0 (.i 400))] [] 0 (q [u (.ca N.iE 0 [] []),x 2 l0] [] .ret) .skip) (q [m v0,u (.ca N.pB 0 [] [.l 0]),u (.ca N.cM 0 [] [.l 0]),m l0,u (.ex l0 0),u (.ex l1 1),u (.ex l2 2),w 3 (.al [.nil,.nil,.nil,.nil] []),w 4 (.al [.nil,.nil] []),w 5 (.al [.nil,.nil] []),u (.st l2 l5 4 []),u (.st l2 l5 2 []),u (.st l2 l5 2 [])] [] (.seq (.ite [f 0 v3,h 2 l0,u (.ca N.ji 0 [] [.l 0]),u (.bin .neq l0 (.i 0)),m l0,y 0 false (.fa v3 0),y 1 false (.fa l0 0),i 2 false l0,y 3 false (.ln l0),y 4 false (.bin .eql l0 (.i 0)),u (.pk l5 (.b true) l0),m l0,y 0 false (.fa v5 1),i 1 false l0,y 2 false (.ln l0),y 3 false (.fa v3 0),y 4 false (.fa l0 1),i 5 false l0,y 6 false (.ln l0),y 7 false (.bin .neq l4 l0),u (.pk l8 (.b true) l0)] [] 0 (q [u (.ca N.iE 0 [] []),x 2 l0] [] .ret) .skip) (q [h 4 v3,h 2 v4,u (.ca N.cY 0 [] [.l 1,.l 0]),m l0,u (.ex l0 0),u (.ex l1 1),x 6 l1,x 7 l1] [] (.seq (.ite [m v7,u (.bin .neq l0 (.i 0))] [] 0 (q [u (.ca N.iE 0 [] []),x 2 l0] [] .ret) .skip) (q [w 8 (.nw 2)] [] (.seq (q [x 9 (.i 0)] [] (.blk 0 K.rJ)) (q [m v1,u (.cv .i64 l0),f 0 v3,f 0 l0,g l0,u (.ln l0),u (.bin .rem l4 l0),u (.bs [.l 0] 1),x 10 l0] [] (q [f 0 v3,h 2 l0,m v6,m v10,u (.ca N.dI 0 [] [.l 2,.l 1,.l 0,.i 10]),m l0,u (.ex l0 0),u (.ex l1 1),w 11 (.al [z0,.nil] []),u (.st l0 l2 2 []),x 12 l2] [] (q [f 0 v3,h 2 l0,m v8,m v10,u (.ca N.dI 0 [] [.l 2,.l 1,.l 0,.i 10]),m l0,u (.ex l0 0),u (.ex l1 1),w 13 (.al [z0,.nil] []),u (.st l0 l2 2 []),x 14 l2] [] (.seq (.ite [m v12,u (.bin .neq l0 (.i 0)),m l0,e 0 false v14,y 1 false (.bin .neq l0 (.i 0)),u (.pk l2 (.b true) l0),m l0,y 0 false (.fa v11 1),i 1 false l0,y 2 false (.ln l0),y 3 false (.fa v13 1),i 4 false l0,y 5 false (.ln l0),y 6 false (.bin .neq l3 l0),u (.pk l7 (.b true) l0),m l0,y 0 false (.fa v11 1),i 1 false l0,y 2 false (.ln l0),y 3 false (.fa v3 0),y 4 false (.fa l0 0),i 5 false l0,y 6 false (.ln l0),y 7 false (.bin .neq l4 l0),u (.pk l8 (.b true) l0)] [] 0 (q [x 2 (.b false)] [] .ret) .skip) (.seq (q [x 15 (.i 0)] [] (.blk 2 K.rK)) (q [u (.ca N.iE 0 [] []),x 2 l0] [] .ret)))))))))))))),res:=[(2,none)]}
def pB:Fn:= { aq:=1,vars:=[0,2],body:=(q [w 1 (.mv (.c (.nilp)))] [] (q [m v0,m v0,u (.ln l0),u (.mn [.l 0,.i 300]),u (.sc l3 none (some l0) 1),u (.bd [.nil,z0] [(0,1,.l 0)]),u (.bx l0 2),x 1 l0] [] .ret)),res:=[(1,none)]}
def kd:C:= (.seq (.ite [m v6,u (.bin .gtr l0 (.i 0))] [] 0 .skip (.exit 0)) (.seq (.blk 1 (.reg [f 0 v4,f 0 l0,g l0,m v0,u (.ca N.ax 0 [] [.l 0,.i 100]),u (.un .neg l0),u (.bd [z0,z1] [(0,1,.l 0)]),u (.bs [.l 0] 2),u (.app l5 l0 true 2),f 0 v4,f 0 l0,u (.st l0 l2 1 [])] [(2,5),(2,8)])) (.reg [m v6,u (.bin .sub l0 (.i 1)),x 6 l0] [])))
def rL:C:= .loop true [7,8,9,10,11,12,13,14,15,16,17,18] K.kd
def ke:C:= (.seq (.ite [m v9,m v7,u (.bin .lss l1 l0)] [] 0 .skip (.exit 2)) (.seq (.blk 3 (.reg [f 0 v8,g l0,m v9,m v0,u (.ca N.aW 0 [] [.l 0,.i (-4000),.i 4000]),a 1 l3 l2,u (.st l0 l1 1 [])] [(1,5)])) (.reg [m v9,u (.bin .add l0 (.i 1)),x 9 l0] [])))
def rM:C:= .loop true [6,10,11,12,13,14,15,16,17,18] K.ke
def ff:C:= (.seq (.ite [m v11,u (.bin .gtr l0 (.i 0))] [] 0 .skip (.exit 4)) (.seq (.blk 5 (q [m v0,m v7,u (.ca N.ax 0 [] [.l 1,.l 0]),x 12 l0] [] (q [m v0,m v12,m v12,u (.bin .add l0 (.i 1)),m v0,m v7,u (.bin .sub l0 (.i 1)),u (.ca N.ax 0 [] [.l 2,.l 0]),u (.bin .add l4 l0),m v7,u (.bin .rem l1 l0),u (.ca N.cZ 0 [] [.l 10,.l 9,.l 0]),w 13 (.al [z0,z0,z0,z0,z1,z1,z0,z0,z0,z0] []),u (.st l0 l1 10 [])] [] (q [m v0,u (.ca N.bU 0 [] [.l 0,.i 7]),f 5 v13,u (.st l0 l1 1 [])] [] (q [m v0,u (.ca N.aW 0 [] [.l 0,.i (-60),.i 60]),x 14 l0] [] (.seq (.ite [f 5 v13,g l0] [] 0 (.reg [x 14 (.i 0)] []) .skip) (q [f 0 v4,f 1 l0,g l0,h 10 v13,u (.bs [.l 0] 10),u (.app l2 l0 true 10),f 1 v8,g l0,m v14,u (.bs [.l 0] 1),u (.app l2 l0 true 1),f 0 v4,f 1 l0,u (.st l0 l7 1 []),f 1 v8,u (.st l0 l4 1 [])] [(4,4),(7,0),(9,0)] (q [m v10,f 0 v13,g l0,a 1 l2 l0,g l0,m v14,u (.bin .add l1 l0),a 1 l6 l4,u (.st l0 l1 1 [])] [] (.reg [m v10,f 1 v13,g l0,a 1 l2 l0,g l0,m v14,u (.bin .sub l1 l0),a 1 l6 l4,u (.st l0 l1 1 [])] []))))))))) (.reg [m v11,u (.bin .sub l0 (.i 1)),x 11 l0] [])))
def rN:C:= .loop true [6,9,12,13,14,15,16,17,18] K.ff
def fg:C:= (.seq (.ite [m v15,m v7,u (.bin .lss l1 l0)] [] 0 .skip (.exit 6)) (.seq (.blk 7 (q [w 16 (.al [z0,z0,z0,z0,z1,z1,z0,z0,z0,z0] []),m v0,m v15,m v0,m v5,u (.ca N.ax 0 [] [.l 1,.l 0]),u (.ca N.cZ 0 [] [.l 4,.l 3,.l 0]),m v10,m v15,a 1 l1 l0,g l0,u (.un .neg l0),u (.st l11 l5 10 []),x 17 l1] [(0,6),(0,7),(9,1),(9,6),(9,13),(10,1),(10,6),(10,13)] (.seq (.ite [m v0,u (.ca N.bU 0 [] [.l 0,.i 2])] [] 0 (.reg [f 1 v16,g l0,f 0 v16,g l0,m v17,u (.un .neg l0),f 0 v16,u (.st l0 l5 1 []),f 1 v16,u (.st l0 l5 1 []),x 17 l4] []) .skip) (.reg [f 0 v4,f 1 l0,g l0,h 10 v16,u (.bs [.l 0] 10),u (.app l2 l0 true 10),f 1 v8,g l0,m v17,u (.bs [.l 0] 1),u (.app l2 l0 true 1),f 0 v4,f 1 l0,u (.st l0 l7 1 []),f 1 v8,u (.st l0 l4 1 [])] [(4,4),(7,0),(9,0)])))) (.reg [m v15,u (.bin .add l0 (.i 1)),x 15 l0] [])))
def rO:C:= .loop true [6,9,11,12,13,14,16,17,18] K.fg
def cM:Fn:= { aq:=1,vars:=[0,2,3,4,5,6,7,8,9,10,11,12,13,14,15,16,17,18,19],body:=(q [w 1 (.al [.nil,.nil,.nil,.nil] []),w 2 (.al [.nil,.nil] []),w 3 (.al [.nil,.nil] [])] [] (q [u (.bd [z0,z1] [(1,1,.b true)]),u (.bsr [.l 0] 2),u (.bd [.nil,.nil] [(0,1,.l 0)]),u (.bd [.nil,.nil,.nil,.nil] [(0,2,.l 0)]),w 4 (.al [.nil,.nil,.nil,.nil] [(0,2),(1,10),(2,4),(3,3)]),u (.st l0 l1 4 [(0,2),(1,10),(2,4),(3,3)])] [] (.seq (.ite [m v0,u (.ca N.bU 0 [] [.l 0,.i 3])] [] 0 (.reg [f 0 v4,f 0 l0,g l0,u (.bd [z0,z1] [(1,1,.b true),(0,1,.i 10)]),u (.bs [.l 0] 2),u (.app l2 l0 true 2),f 0 v4,f 0 l0,u (.st l0 l2 1 [])] []) .skip) (q [f 0 v4,f 0 l0,g l0,u (.ln l0),x 5 l0] [] (.seq (q [m v0,u (.ca N.ax 0 [] [.l 0,.i 5]),x 6 l0] [] (.blk 0 K.rL)) (q [f 0 v4,f 0 l0,g l0,u (.ln l0),x 7 l0] [] (q [m v7,u (.mk l0 (z0) 1),u (.bd [.nil,.nil] [(0,1,.l 0)]),w 8 (.al [.nil,.nil] [(1,1)]),u (.st l0 l1 2 [(1,1)])] [] (.seq (q [m v5,x 9 l0] [] (.blk 2 K.rM)) (q [m v7,u (.mk l0 (z0) 1),x 10 l0] [] (.seq (.ite [m v7,u (.bin .gtr l0 (.i 1))] [] 0 (q [m v0,u (.ca N.ax 0 [] [.l 0,.i 6]),x 11 l0] [] (.blk 4 K.rN)) .skip) (.seq (q [m v5,x 15 l0] [] (.blk 6 K.rO)) (q [m v0,u (.ca N.bH 0 [] [.l 0,.v 4]),w 18 (.al [.nil,.nil] []),u (.st l0 l1 2 [])] [] (q [m v0,h 2 v18,h 2 v8,u (.ca N.dB 0 [] [.l 2,.v 4,.l 1,.l 0])] [] (q [h 4 v4,m v0,h 4 v4,h 2 v18,u (.ca N.cz 0 [] [.l 2,.l 1,.l 0]),h 2 v8,u (.st v1 l5 4 []),u (.st v2 l2 2 []),u (.st v3 l2 2 [])] [(0,5),(5,0),(5,7),(5,8)] .ret)))))))))))))),res:=[(1,some (4,true)),(2,some (2,true)),(3,some (2,true))]}
def fh:C:= (.its [u (.bin .lss v14 v13)] [] 0 .skip (.exit 0) (.seq (.blk 1 (q [m v14,a 10 v12 v14,h 10 l0,w 11 (.al [z0,z0,z0,z0,z1,z1,z0,z0,z0,z0] []),x 10 l3,u (.st l1 l2 10 [])] [] (.ite [f 5 v11,g l0,u (.un .not l0)] [] 0 (.reg [m v9,m v10,u (.ca N.ew 0 [] []),a 2 l2 l1,u (.st l0 l1 2 [])] []) .skip))) (.reg [u (.bin .add v14 (.i 1)),x 14 l0] [])))
def rP:C:= .loop true [0,1,2,3,4,5,6,7,8,10,11] K.fh
def cY:Fn:= { aq:=2,vars:=[0,1,2,3,4,5,6,7,8,9,10,11,40,41,42],body:=(q [w 2 (.bx v0 4),w 3 (.bx v1 2),w 4 (.mv (.c (.nil))),x 5 (.i 0)] [] (.seq (q [h 4 v2,u (.ca N.eU 0 [] [.l 0]),x 6 l0] [] (.ite [m v6,u (.bin .neq l0 (.i 0))] [] 0 (q [m v6,w 4 (.mv (.c (.nil))),x 5 l1] [] .ret) .skip)) (.seq (.ite [h 4 v2,h 2 v3,u (.ca N.c9 0 [] [.l 1,.l 0]),u (.un .not l0)] [] 0 (q [w 4 (.mv (.c (.nil))),x 5 (.i 21)] [] .ret) .skip) (.seq (q [h 4 v2,h 2 v3,u (.ca N.eG 0 [] [.l 1,.l 0]),m l0,u (.ex l0 0),u (.ex l1 1),w 7 (.al [.nil,.nil] []),u (.st l0 l2 2 []),x 8 l2] [] (.ite [m v8,u (.bin .eql l0 (.i 0))] [] 0 (q [h 4 v2,h 2 v3,h 2 v7,u (.ca N.fv 0 [] [.l 2,.l 1,.l 0]),x 4 l0,x 5 (.i 0)] [] .ret) .skip)) (q [f 0 v2,f 1 l0,g l0,u (.ln l0),u (.mk l0 (.t (.agg [(.int .i64 (0)),(.int .i64 (0))])) 2),x 9 l0] [] (.seq (q [f 0 v2,f 1 l0,w 12 (.ld l0 1 false),w 13 (.ln l0),x 14 (.i 0)] [] (.blk 0 K.rP)) (q [m v9,x 4 l0,x 5 (.i 0)] [] .ret))))))),res:=[(4,none),(5,none)]}
def bU:Fn:= { aq:=2,vars:=[0,1,4],body:=(q [x 2 (.b false)] [] (q [m v0,m v1,u (.ca N.ax 0 [] [.l 1,.l 0]),m v1,u (.bin .sub l0 (.i 1)),u (.bin .eql l2 l0),x 2 l0] [] .ret)),res:=[(2,none)]}
def ax:Fn:= { aq:=2,vars:=[0,1,4,5],body:=(q [x 2 (.i 0)] [] (.seq (.ite [m v1,u (.bin .lss l0 (.i 1)),m l0,e 0 false v0,y 1 false (.nc l0),y 2 false (.fa l0 1),i 3 false l0,e 4 false v0,y 5 false (.nc l0),y 6 false (.fa l0 0),i 7 false l0,y 8 false (.ln l0),y 9 false (.bin .geq l5 l0),u (.pk l10 (.b true) l0)] [] 0 (q [x 2 (.i 0)] [] .ret) .skip) (q [m v0,u (.nc l0),f 1 l0,g l0,u (.bin .add l0 (.i 1)),u (.nc l4),f 1 l0,u (.st l0 l2 1 [])] [] (q [m v0,u (.nc l0),f 0 l0,g l0,m v0,u (.nc l0),f 1 l0,g l0,u (.bin .sub l0 (.i 1)),a 1 l5 l0,g l0,u (.cv .i64 l0),x 3 l0] [] (.seq (.ite [m v1,u (.bin .gtr l0 (.i 256)),m l0,e 0 true v0,y 1 true (.nc l0),y 2 true (.fa l0 1),i 3 true l0,e 4 true v0,y 5 true (.nc l0),y 6 true (.fa l0 0),i 7 true l0,y 8 true (.ln l0),y 9 true (.bin .lss l5 l0),u (.pk l10 l0 (.b false))] [] 0 (q [m v3,u (.bin .mul l0 (.i 256)),m v0,u (.nc l0),f 0 l0,g l0,m v0,u (.nc l0),f 1 l0,g l0,a 1 l4 l0,g l0,u (.cv .i64 l0),u (.bin .add l11 l0),x 3 l0] [] (.reg [m v0,u (.nc l0),f 1 l0,g l0,u (.bin .add l0 (.i 1)),u (.nc l4),f 1 l0,u (.st l0 l2 1 [])] [])) .skip) (q [m v3,m v1,u (.bin .rem l1 l0),x 2 l0] [] .ret)))))),res:=[(2,none)]}
def aW:Fn:= { aq:=3,vars:=[0,1,2,6],body:=(q [x 3 (.i 0)] [] (q [m v1,m v0,m v2,m v1,u (.bin .sub l1 l0),u (.bin .add l0 (.i 1)),u (.ca N.ax 0 [] [.l 4,.l 0]),u (.bin .add l6 l0),x 3 l0] [] .ret)),res:=[(3,none)]}
def cZ:Fn:= { aq:=3,vars:=[0,1,2,6,7],body:=(q [w 3 (.al [z0,z0,z0,z0,z1,z1,z0,z0,z0,z0] [])] [] (q [m v1,m v2,m v0,u (.ca N.aW 0 [] [.l 0,.i 1,.i 400]),m v0,u (.ca N.aW 0 [] [.l 0,.i 4,.i 30]),m v0,u (.ca N.ax 0 [] [.l 0,.i 4]),u (.bin .gtr l0 (.i 0)),m v0,u (.ca N.aW 0 [] [.l 0,.i 1,.i 20]),u (.bd [z0,z0] [(0,1,.l 0)]),u (.bd [z0,z0,z0,z0,z1,z1,z0,z0,z0,z0] [(0,1,.l 11),(1,1,.l 10),(2,1,.l 8),(3,1,.l 6),(4,1,.l 3),(6,2,.l 0)]),w 4 (.al [z0,z0,z0,z0,z1,z1,z0,z0,z0,z0] []),u (.st l0 l1 10 [])] [] (q [f 6 v4,f 0 l0,g l0,m v0,u (.ca N.ax 0 [] [.l 0,.i 3]),u (.bin .add l2 l0),f 6 v4,f 1 l0,u (.st l0 l2 1 [])] [(2,5)] (q [m v0,u (.ca N.aW 0 [] [.l 0,.i (-300),.i 300]),f 8 v4,f 0 l0,u (.st l0 l2 1 [])] [] (q [f 8 v4,f 0 l0,g l0,m v0,u (.ca N.ax 0 [] [.l 0,.i 20]),u (.bin .add l2 l0),f 8 v4,f 1 l0,u (.st l0 l2 1 [])] [(2,5)] (q [h 10 v4,u (.st v3 l0 10 [])] [] .ret)))))),res:=[(3,some (10,true))]}
def dh:C:= (.seq (.ite [m v5,u (.bin .gtr l0 (.i 0)),m l0,e 0 true v4,y 1 true (.bin .gtr l0 (.i 0)),u (.pk l2 l0 (.b false))] [] 0 .skip (.exit 0)) (.seq (.blk 1 (q [m v1,m v1,u (.nc l0),f 2 l0,g l0,m v0,m v4,u (.ca N.ax 0 [] [.l 1,.l 0]),m v0,u (.ca N.bU 0 [] [.l 0,.i 3]),m v0,u (.ca N.bU 0 [] [.l 0,.i 3]),m v0,u (.ca N.de 0 [] [.l 0]),u (.bd [z0,z1,z1,.nil] [(0,1,.l 6),(1,1,.l 4),(2,1,.l 2),(3,1,.l 0)]),u (.bs [.l 0] 4),u (.app l11 l0 true 4),u (.nc (.l 16)),f 2 l0,u (.st l0 l2 1 [])] [(4,8),(4,10),(4,12),(4,14),(4,16)] (.reg [f 0 v3,g l0,m v0,u (.ca N.ax 0 [] [.l 0,.i 3]),u (.bs [.l 0] 1),u (.app l3 l0 true 1),f 0 v3,u (.st l0 l1 1 [])] [(1,4),(1,5)]))) (.reg [m v5,u (.bin .sub l0 (.i 1)),x 5 l0] [])))
def kA:C:= .loop true [6,7] K.dh
def di:C:= (.seq (.ite [m v6,u (.bin .gtr l0 (.i 0)),m l0,e 0 true v4,y 1 true (.bin .gtr l0 (.i 0)),u (.pk l2 l0 (.b false))] [] 0 .skip (.exit 2)) (.seq (.blk 3 (q [m v0,m v0,m v4,u (.ca N.ax 0 [] [.l 1,.l 0]),u (.ca N.dC 0 [] [.l 3,.l 0]),w 7 (.al [z0,z0,.nil] []),u (.st l0 l1 3 [])] [] (q [m v1,m v1,u (.nc l0),f 3 l0,g l0,h 3 v7,u (.bs [.l 0] 3),u (.app l2 l0 true 3),u (.nc l7),f 3 l0,u (.st l0 l2 1 [])] [(4,7)] (.reg [f 1 v3,g l0,m v0,f 2 v7,g l0,u (.ln l0),u (.ca N.ax 0 [] [.l 3,.l 0]),u (.bs [.l 0] 1),u (.app l6 l0 true 1),f 1 v3,u (.st l0 l1 1 [])] [(1,7),(1,8)])))) (.reg [m v6,u (.bin .sub l0 (.i 1)),x 6 l0] [])))
def kB:C:= .loop true [5,7] K.di
def bH:Fn:= { aq:=2,vars:=[0,1,4,5,6,7,8,9],body:=(q [w 2 (.al [.nil,.nil] [])] [] (q [w 3 (.al [.nil,.nil] [(0,1),(1,1)])] [] (q [m v1,u (.nc l0),f 0 l0,f 1 l0,g l0,u (.ln l0),x 4 l0] [] (.seq (q [m v0,u (.ca N.ax 0 [] [.l 0,.i 3]),x 5 l0] [] (.blk 0 K.kA)) (.seq (q [m v0,u (.ca N.ax 0 [] [.l 0,.i 3]),x 6 l0] [] (.blk 2 K.kB)) (q [h 2 v3,u (.st v2 l0 2 [])] [] .ret)))))),res:=[(2,some (2,true))]}
def kH:C:= (.seq (.ite [m v10,m v1,u (.nc l0),f 3 l0,g l0,u (.ln l0),u (.bin .lss l5 l0)] [] 0 .skip (.exit 2)) (.seq (.blk 3 (.ite [m v1,u (.nc l0),f 3 l0,g l0,m v10,a 3 l1 l0,f 0 l0,g l0,m v6,u (.bin .eql l1 l0)] [] 0 (.reg [m v9,m v1,u (.nc l0),f 3 l0,g l0,m v10,a 3 l1 l0,h 3 l0,f 1 v4,g l0,m v10,a 1 l1 l0,g l0,u (.ca N.kt 0 [] [.l 5,.l 0]),u (.fl l0 0 1 false),u (.bin .add (.l 14) l0),x 9 l0] []) .skip)) (.reg [m v10,u (.bin .add l0 (.i 1)),x 10 l0] [])))
def sT:C:= .loop true [2,3,11,12] K.kH
def kI:C:= (.seq (.ite [m v12,m v1,u (.nc l0),f 2 l0,g l0,u (.ln l0),u (.bin .lss l5 l0)] [] 0 .skip (.exit 4)) (.seq (.blk 5 (.ite [m v1,u (.nc l0),f 2 l0,g l0,m v12,a 4 l1 l0,f 0 l0,g l0,m v6,u (.bin .eql l1 l0)] [] 0 (.reg [m v11,m v1,u (.nc l0),f 2 l0,g l0,m v12,a 4 l1 l0,h 4 l0,f 0 v4,g l0,m v12,a 1 l1 l0,g l0,m v8,u (.ca N.fX 0 [] [.l 6,.l 1,.l 0]),u (.fl l0 0 1 false),u (.bin .sub (.l 15) l0),x 11 l0] []) .skip)) (.reg [m v12,u (.bin .add l0 (.i 1)),x 12 l0] [])))
def sU:C:= .loop true [2,3,9,10] K.kI
def fR:C:= (.seq (.ite [m v6,m v1,u (.nc l0),f 0 l0,f 1 l0,g l0,u (.ln l0),u (.bin .lss l6 l0)] [] 0 .skip (.exit 0)) (.seq (.blk 1 (q [m v1,u (.nc l0),f 0 l0,f 1 l0,g l0,m v6,a 10 l1 l0,x 7 l0] [] (q [f 1 v5,g l0,m v6,a 1 l1 l0,g l0,x 8 l0] [] (q [m v7,u (.nc l0),f 6 l0,f 0 l0,g l0,m v0,m v7,u (.nc l0),f 6 l0,f 1 l0,g l0,m v7,u (.nc l0),f 6 l0,f 0 l0,g l0,u (.bin .sub l5 l0),u (.bin .add l0 (.i 1)),u (.ca N.ax 0 [] [.l 12,.l 0]),u (.bin .add (.l 14) l0),x 9 l0] [(4,19)] (.seq (q [x 10 (.i 0)] [] (.blk 2 K.sT)) (q [m v9,m v8,m v8,u (.un .neg l0),u (.mx [.l 2,.l 0]),u (.bin .mul l4 l0),m v8,u (.bin .mul l1 l0),f 0 v5,g l0,m v7,u (.nc l0),f 0 l0,g l0,a 1 l4 l0,g l0,f 0 v5,g l0,m v7,u (.nc l0),f 1 l0,g l0,a 1 l4 l0,g l0,u (.bin .sub l8 l0),u (.bin .sub (.l 17) l0),x 11 l0] [] (.seq (q [x 12 (.i 0)] [] (.blk 4 K.sU)) (.reg [m v7,m v11,m v0,u (.ca N.ax 0 [] [.l 0,.i 30]),u (.bin .sub l2 l0),m v11,m v0,u (.ca N.ax 0 [] [.l 0,.i 30]),u (.bin .add l2 l0),u (.bd [z0,z0] [(0,1,.l 4),(1,1,.l 0)]),u (.nc l9),f 8 l0,u (.st l0 l2 2 [])] [])))))))) (.reg [m v6,u (.bin .add l0 (.i 1)),x 6 l0] [])))
def sV:C:= .loop true [2,3,7,8,9,10,11,12] K.fR
def dB:Fn:= { aq:=4,vars:=[0,1,2,3,6,7,8,9,10,11,12,13,14],body:=(q [w 4 (.bx v2 2),w 5 (.bx v3 2)] [] (q [x 6 (.i 0)] [] (.blk 0 K.sV))),res:=[]}
def dR:C:= (.seq (.ite [m v6,f 0 v3,g l0,u (.ln l0),u (.bin .lss l3 l0)] [] 0 .skip (.exit 0)) (.seq (.blk 1 (q [f 0 v3,g l0,m v6,a 1 l1 l0,g l0,x 7 l0] [] (.seq (.ite [m v0,u (.ca N.bU 0 [] [.l 0,.i 5])] [] 0 (.reg [w 7 (.mv (.i (-1)))] []) .skip) (.reg [f 0 v5,g l0,m v7,u (.bs [.l 0] 1),u (.app l2 l0 true 1),f 0 v5,u (.st l0 l1 1 [])] [])))) (.reg [m v6,u (.bin .add l0 (.i 1)),x 6 l0] [])))
def qp:C:= .loop true [1,2,7,8,9] K.dR
def dS:C:= (.seq (.ite [m v8,f 1 v3,g l0,u (.ln l0),u (.bin .lss l3 l0)] [] 0 .skip (.exit 2)) (.seq (.blk 3 (q [f 1 v3,g l0,m v8,a 1 l1 l0,g l0,x 9 l0] [] (.seq (.ite [m v0,u (.ca N.bU 0 [] [.l 0,.i 5])] [] 0 (.reg [w 9 (.mv (.i (-1)))] []) .skip) (.reg [f 1 v5,g l0,m v9,u (.bs [.l 0] 1),u (.app l2 l0 true 1),f 1 v5,u (.st l0 l1 1 [])] [])))) (.reg [m v8,u (.bin .add l0 (.i 1)),x 8 l0] [])))
def qq:C:= .loop true [1,2,6,7,9] K.dS
def cz:Fn:= { aq:=3,vars:=[0,1,2,5,6,7,8,9,10,11],body:=(q [u (.bx v1 4),w 3 (.bx v2 2),w 4 (.al [.nil,.nil] [])] [] (q [w 5 (.al [.nil,.nil] [(0,1),(1,1)])] [] (.seq (q [x 6 (.i 0)] [] (.blk 0 K.qp)) (.seq (q [x 8 (.i 0)] [] (.blk 2 K.qq)) (q [h 2 v5,u (.st v4 l0 2 [])] [] .ret))))),res:=[(4,some (2,true))]}
def qe:C:= (.its [u (.bin .lss v10 v9)] [] 0 .skip (.exit 0) (.seq (.blk 1 (q [a 4 v8 v10,h 4 l0,w 4 (.al [z0,z1,z1,.nil] []),u (.st l0 l1 4 [])] [] (.seq (q [h 4 v4,u (.ca N.mM 0 [] [.l 0]),x 5 l0] [] (.ite [m v5,u (.bin .neq l0 (.i 0))] [] 0 (q [m v5,x 2 l0] [] .ret) .skip)) (.ite [f 0 v4,g l0,f 0 v1,f 1 l0,g l0,u (.ln l0),u (.bin .geq l4 l0)] [] 0 (q [x 2 (.i 4)] [] .ret) .skip)))) (.reg [u (.bin .add v10 (.i 1)),x 10 l0] [])))
def vX:C:= .loop true [0,2,3,4,5,6,7,11,12,13] K.qe
def qf:C:= (.its [u (.bin .lss v13 v12)] [] 0 .skip (.exit 2) (.seq (.blk 3 (q [a 3 v11 v13,h 3 l0,w 7 (.al [z0,z0,.nil] []),u (.st l0 l1 3 [])] [] (.ite [f 0 v7,g l0,f 0 v1,f 1 l0,g l0,u (.ln l0),u (.bin .geq l4 l0)] [] 0 (q [x 2 (.i 4)] [] .ret) .skip))) (.reg [u (.bin .add v13 (.i 1)),x 13 l0] [])))
def vY:C:= .loop true [0,2,3,4,5,6,7,8,9,10] K.qf
def eU:Fn:= { aq:=1,vars:=[0,1,2,3,5,6,7,9,21,22,23,47,48,49],body:=(q [w 1 (.bx v0 4),x 2 (.i 0)] [] (.seq (q [f 0 v1,h 2 l0,u (.ca N.jF 0 [] [.l 0]),x 3 l0] [] (.ite [m v3,u (.bin .neq l0 (.i 0))] [] 0 (q [m v3,x 2 l0] [] .ret) .skip)) (.seq (.ite [f 2 v1,g l0,u (.ln l0),u (.bin .gtr l0 (.i 8))] [] 0 (q [x 2 (.i 2)] [] .ret) .skip) (.seq (q [f 2 v1,w 8 (.ld l0 1 false),w 9 (.ln l0),x 10 (.i 0)] [] (.blk 0 K.vX)) (.seq (q [f 3 v1,g l0,u (.ca N.ku 0 [] [.l 0]),x 6 l0] [] (.ite [m v6,u (.bin .neq l0 (.i 0))] [] 0 (q [m v6,x 2 l0] [] .ret) .skip)) (.seq (q [f 3 v1,w 11 (.ld l0 1 false),w 12 (.ln l0),x 13 (.i 0)] [] (.blk 2 K.vY)) (q [x 2 (.i 0)] [] .ret))))))),res:=[(2,none)]}
def oA:C:= (.its [u (.bin .lss v10 v9)] [] 0 .skip (.exit 0) (.seq (.blk 1 (q [a 1 v8 v10,g l0,x 5 l0] [] (.ite [m v5,u (.bin .lss l0 (.i (-1))),m l0,e 0 false v5,y 1 false (.bin .gtr l0 (.i 2)),u (.pk l2 (.b true) l0)] [] 0 (q [x 4 (.b false)] [] .ret) .skip))) (.reg [u (.bin .add v10 (.i 1)),x 10 l0] [])))
def sW:C:= .loop true [0,1,4,5,6,7,11,12,13] K.oA
def oB:C:= (.its [u (.bin .lss v13 v12)] [] 0 .skip (.exit 2) (.seq (.blk 3 (q [m v13,a 1 v11 v13,g l0,x 6 l2,x 7 l1] [] (.ite [m v7,u (.bin .lss l0 (.i (-1))),m l0,e 0 false v7,y 1 false (.fa v2 3),i 2 false l0,e 3 false v6,y 4 false (.ia l1 l0 3),y 5 false (.fa l0 2),i 6 false l0,y 7 false (.ln l0),y 8 false (.bin .geq l7 l0),u (.pk l9 (.b true) l0)] [] 0 (q [x 4 (.b false)] [] .ret) .skip))) (.reg [u (.bin .add v13 (.i 1)),x 13 l0] [])))
def sX:C:= .loop true [0,1,3,4,5,6,7,8,9,10] K.oB
def c9:Fn:= { aq:=2,vars:=[0,1,2,3,4,6,7,8,26,27,28,40,41,42],body:=(q [w 2 (.bx v0 4),w 3 (.bx v1 2),x 4 (.b false)] [] (.seq (.ite [f 0 v3,g l0,u (.ln l0),f 2 v2,g l0,u (.ln l0),u (.bin .neq l3 l0),m l0,y 0 false (.fa v3 1),i 1 false l0,y 2 false (.ln l0),y 3 false (.fa v2 3),i 4 false l0,y 5 false (.ln l0),y 6 false (.bin .neq l3 l0),u (.pk l7 (.b true) l0)] [] 0 (q [x 4 (.b false)] [] .ret) .skip) (.seq (q [f 0 v3,w 8 (.ld l0 1 false),w 9 (.ln l0),x 10 (.i 0)] [] (.blk 0 K.sW)) (.seq (q [f 1 v3,w 11 (.ld l0 1 false),w 12 (.ln l0),x 13 (.i 0)] [] (.blk 2 K.sX)) (q [x 4 (.b true)] [] .ret))))),res:=[(4,none)]}
def eG:Fn:= { aq:=2,vars:=[0,1,2,3,4,5,6,7,8],body:=(q [w 2 (.bx v0 4),w 3 (.bx v1 2),w 4 (.al [.nil,.nil] []),x 5 (.i 0)] [] (q [h 4 v2,h 2 v3,f 0 v2,f 0 l0,g l0,u (.ln l0),u (.mk l0 (z0) 1),u (.ca N.gM 0 [] [.l 6,.l 5,.l 0]),m l0,u (.ex l0 0),u (.ex l1 1),x 6 l1,x 7 l1] [(0,7),(1,7)] (.seq (.ite [m v7,u (.bin .neq l0 (.i 0))] [] 0 (q [u (.bd [.nil,.nil] []),m v7,u (.st v4 l1 2 []),x 5 l1] [] .ret) .skip) (q [h 4 v2,h 2 v3,m v6,u (.ca N.iF 0 [] [.l 2,.l 1,.l 0]),m l0,u (.ex l0 0),u (.ex l1 1),x 8 l1,x 7 l1] [] (.seq (.ite [m v7,u (.bin .neq l0 (.i 0))] [] 0 (q [u (.bd [.nil,.nil] []),m v7,u (.st v4 l1 2 []),x 5 l1] [] .ret) .skip) (q [h 4 v2,h 2 v3,m v8,u (.ca N.gM 0 [] [.l 2,.l 1,.l 0]),m l0,u (.ex l0 0),u (.ex l1 1),x 6 l1,x 7 l1] [] (.seq (.ite [m v7,u (.bin .neq l0 (.i 0))] [] 0 (q [u (.bd [.nil,.nil] []),m v7,u (.st v4 l1 2 []),x 5 l1] [] .ret) .skip) (q [m v6,m v8,u (.bd [.nil,.nil] [(0,1,.l 1),(1,1,.l 0)]),u (.st v4 l0 2 []),x 5 (.i 0)] [] .ret)))))))),res:=[(4,some (2,true)),(5,none)]}
def jH:C:= (.its [u (.bin .lss v12 v11)] [] 0 .skip (.exit 0) (.seq (.blk 1 (q [a 12 v10 v12,h 12 l0,w 9 (.al [z0,z0,z0,z0,z1,z1,z0,z0,z0,z0,z0,.nil] []),u (.st l0 l1 12 [])] [] (.seq (.ite [m v8,f 0 v9,f 0 l0,g l0,a 1 l3 l0,g l0] [] 0 (q [m v7,f 10 v9,g l0,u (.bd [z0,z0] [(0,1,.i (-1125899906842624)),(1,1,.i 1125899906842624)]),a 2 l3 l1,u (.st l0 l1 2 [])] [] (.exit 1)) .skip) (.reg [m v7,f 10 v9,g l0,h 12 v9,f 0 v5,g l0,f 0 v9,f 0 l0,g l0,a 1 l3 l0,g l0,f 1 v5,g l0,f 0 v9,f 1 l0,g l0,a 1 l3 l0,g l0,u (.bin .sub l7 l0),u (.ca N.bo 0 [] [.l 15,.l 0]),h 12 v9,f 1 v5,g l0,f 0 v9,f 0 l0,g l0,a 1 l3 l0,g l0,f 0 v5,g l0,f 0 v9,f 1 l0,g l0,a 1 l3 l0,g l0,u (.bin .sub l7 l0),u (.ca N.bg 0 [] [.l 15,.l 0]),u (.bd [z0,z0] [(0,1,.l 17),(1,1,.l 0)]),a 2 (.l 37) (.l 35),u (.st l0 l1 2 [])] [(2,20),(2,37),(20,0),(22,0),(25,0),(26,0),(27,0),(29,0),(32,0),(33,0),(34,0)])))) (.reg [u (.bin .add v12 (.i 1)),x 12 l0] [])))
def uH:C:= .loop true [0,1,2,3,4,6,9] K.jH
def fv:Fn:= { aq:=3,vars:=[0,1,2,3,4,5,6,7,8,10,27,28,29],body:=(q [w 3 (.bx v0 4),w 4 (.bx v1 2),w 5 (.bx v2 2),w 6 (.mv (.c (.nil)))] [] (.seq (.ite [h 4 v3,h 2 v4,h 2 v5,u (.ca N.fw 0 [] [.l 2,.l 1,.l 0]),u (.bin .neq l0 (.i 0))] [] 0 (q [w 6 (.mv (.c (.nil)))] [] .ret) .skip) (q [f 0 v3,f 1 l0,g l0,u (.ln l0),u (.mk l0 (.t (.agg [(.int .i64 (0)),(.int .i64 (0))])) 2),x 7 l0] [] (q [f 0 v3,h 2 l0,u (.ca N.cJ 0 [] [.l 0]),x 8 l0] [] (.seq (q [h 4 v3,h 2 v4,u (.ca N.eV 0 [] [.l 1,.l 0]),w 10 (.fl l0 0 1 false),w 11 (.ln l0),x 12 (.i 0)] [] (.blk 0 K.uH)) (q [m v7,x 6 l0] [] .ret)))))),res:=[(6,none)]}
def ew:Fn:= { aq:=0,vars:=[0],body:=(q [w 0 (.al [z0,z0] [])] [] (q [u (.bd [z0,z0] [(0,1,.i (-1125899906842624)),(1,1,.i 1125899906842624)]),u (.st v0 l0 2 [])] [] .ret)),res:=[(0,some (2,true))]}
def gn:C:= (.seq (.ite [m v3,u (.bin .gtr l0 (.i 0))] [] 0 .skip (.exit 0)) (.seq (.blk 1 (q [m v2,m v2,u (.ln l0),u (.bin .sub l0 (.i 1)),a 2 l3 l0,h 2 l0,w 4 (.al [z0,z0] []),u (.st l0 l1 2 [])] [] (.reg [m v2,f 0 v4,g l0,m v0,u (.ca N.aW 0 [] [.l 0,.i 1,.i 40]),u (.bin .add l2 l0),f 1 v4,g l0,m v0,u (.ca N.ax 0 [] [.l 0,.i 900]),u (.bin .sub l2 l0),u (.mx [.i 0,.l 0]),u (.bd [z0,z0] [(0,1,.l 6),(1,1,.l 0)]),u (.bs [.l 0] 2),u (.app (.l 13) l0 true 2),x 2 l0] [(2,5),(2,10),(7,0),(7,10)]))) (.reg [m v3,u (.bin .sub l0 (.i 1)),x 3 l0] [])))
def qV:C:= .loop true [1,4] K.gn
def de:Fn:= { aq:=1,vars:=[0,2,3,4,5],body:=(q [w 1 (.mv (.c (.nil)))] [] (q [m v0,u (.ca N.aW 0 [] [.l 0,.i (-20),.i 10]),m v0,u (.ca N.aW 0 [] [.l 0,.i 500,.i 3000]),u (.bd [z0,z0] [(0,1,.l 2),(1,1,.l 0)]),u (.bsr [.l 0] 2),x 2 l0] [] (.seq (q [m v0,u (.ca N.ax 0 [] [.l 0,.i 4]),x 3 l0] [] (.blk 0 K.qV)) (q [m v2,x 1 l0] [] .ret)))),res:=[(1,none)]}
def hT:C:= (.seq (.ite [m v4,u (.bin .gtr l0 (.i 0))] [] 0 .skip (.exit 0)) (.seq (.blk 1 (.reg [f 2 v3,g l0,f 2 v3,g l0,f 2 v3,g l0,u (.ln l0),u (.bin .sub l0 (.i 1)),a 1 l4 l0,g l0,m v0,u (.ca N.aW 0 [] [.l 0,.i 1,.i 60]),u (.bin .sub l2 l0),u (.mx [.i 0,.l 0]),u (.bs [.l 0] 1),u (.app (.l 13) l0 true 1),f 2 v3,u (.st l0 l1 1 [])] [(1,12),(1,15),(3,12),(5,12),(8,12),(9,12)])) (.reg [m v4,u (.bin .sub l0 (.i 1)),x 4 l0] [])))
def rQ:C:= .loop true [1] K.hT
def dC:Fn:= { aq:=2,vars:=[0,1,4,5,6],body:=(q [w 2 (.al [z0,z0,.nil] [])] [] (q [m v1,m v0,u (.ca N.aW 0 [] [.l 0,.i 200,.i 900]),u (.bsr [.l 0] 1),u (.bd [z0,z0,.nil] [(0,1,.l 3),(1,1,.i (-1)),(2,1,.l 0)]),w 3 (.al [z0,z0,.nil] [(2,1)]),u (.st l0 l1 3 [(2,1)])] [] (.seq (q [m v0,u (.ca N.aW 0 [] [.l 0,.i 1,.i 3]),x 4 l0] [] (.blk 0 K.rQ)) (q [h 3 v3,u (.st v2 l0 3 [])] [] .ret)))),res:=[(2,some (3,true))]}
def Fi:C:= (.seq (.ite [m v5,f 2 v2,g l0,u (.ln l0),u (.bin .lss l3 l0)] [] 0 .skip (.exit 0)) (.seq (.blk 1 (.reg [f 0 v4,g l0,f 2 v2,g l0,m v5,a 1 l1 l0,g l0,u (.mn [.l 5,.l 0]),f 1 v4,g l0,f 2 v2,g l0,m v5,a 1 l1 l0,g l0,u (.mx [.l 5,.l 0]),f 0 v4,u (.st l0 l9 1 []),f 1 v4,u (.st l0 l3 1 [])] [(11,18),(13,18),(14,18)])) (.reg [m v5,u (.bin .add l0 (.i 1)),x 5 l0] [])))
def HC:C:= .loop true [0,1] K.Fi
def kt:Fn:= { aq:=2,vars:=[0,1,2,4,5,6],body:=(q [w 2 (.bx v0 3),w 3 (.al [z0,z0] [])] [] (.seq (.ite [f 2 v2,g l0,u (.ln l0),u (.bin .eql l0 (.i 0)),m l0,e 0 false v1,y 1 false (.bin .lss l0 (.i (-1))),u (.pk l2 (.b true) l0),m l0,e 0 false v1,y 1 false (.fa v2 2),i 2 false l0,y 3 false (.ln l0),y 4 false (.bin .geq l3 l0),u (.pk l5 (.b true) l0)] [] 0 (q [u (.bd [z0,z0] []),u (.st v3 l0 2 [])] [] .ret) .skip) (.seq (.ite [m v1,u (.bin .geq l0 (.i 0))] [] 0 (q [f 2 v2,g l0,m v1,a 1 l1 l0,g l0,f 2 v2,g l0,m v1,a 1 l1 l0,g l0,u (.bd [z0,z0] [(0,1,.l 5),(1,1,.l 0)]),u (.st v3 l0 2 [])] [] .ret) .skip) (q [w 4 (.al [z0,z0] []),f 2 v2,g l0,a 1 l0 (.i 0),g l0,f 2 v2,g l0,a 1 l0 (.i 0),g l0,u (.bd [z0,z0] [(0,1,.l 4),(1,1,.l 0)]),u (.st l9 l0 2 [])] [] (.seq (q [x 5 (.i 0)] [] (.blk 0 K.HC)) (q [h 2 v4,u (.st v3 l0 2 [])] [] .ret)))))),res:=[(3,some (2,true))]}
def fX:Fn:= { aq:=3,vars:=[0,1,2,3,6,7,8,9],body:=(q [w 3 (.bx v0 4),w 4 (.al [z0,z0] [])] [] (.seq (q [x 7 v1] [] (.blk 0 (.ite [u (.bin .eql v7 (.i 0)),m l0] [] 0 (q [u (.bd [z0,z0] []),u (.st v4 l0 2 [])] [] .ret) (.ite [u (.bin .eql v7 (.i 1)),m l0] [] 0 (q [h 4 v3,f 1 v3,g l0,m v2,u (.ca N.eH 0 [] [.l 3,.l 1,.l 0]),u (.st v4 l0 2 [])] [] .ret) (.ite [u (.bin .eql v7 (.i 2)),m l0] [] 0 (q [h 4 v3,f 1 v3,g l0,u (.un .not l0),m v2,u (.ca N.eH 0 [] [.l 4,.l 1,.l 0]),u (.st v4 l0 2 [])] [] .ret) .skip))))) (q [w 5 (.al [z0,z0] []),w 6 (.al [z0,z0] []),h 4 v3,m v2,u (.ca N.eH 0 [] [.l 1,.b false,.l 0]),h 4 v3,m v2,u (.ca N.eH 0 [] [.l 1,.b true,.l 0]),u (.st l7 l3 2 []),u (.st l7 l1 2 [])] [(0,5),(0,8),(1,5),(1,8),(5,2)] (q [f 0 v5,g l0,f 0 v6,g l0,u (.mn [.l 2,.l 0,.i 0]),f 1 v5,g l0,f 1 v6,g l0,u (.mx [.l 2,.l 0,.i 0]),u (.bd [z0,z0] [(0,1,.l 5),(1,1,.l 0)]),u (.st v4 l0 2 [])] [] .ret)))),res:=[(4,some (2,true))]}
def qA:C:= (.its [u (.bin .lss v7 v6)] [] 0 .skip (.exit 0) (.seq (.blk 1 (q [m v7,a 2 v5 v7,h 2 l0,w 4 (.al [z0,z0] []),x 3 l3,u (.st l1 l2 2 [])] [] (.seq (.ite [f 0 v4,g l0,u (.bin .lss l0 (.i (-1048576))),m l0,y 0 false (.fa v4 0),i 1 false l0,y 2 false (.bin .gtr l0 (.i 1048576)),u (.pk l3 (.b true) l0),m l0,y 0 false (.fa v4 1),i 1 false l0,y 2 false (.bin .lss l0 (.i 0)),u (.pk l3 (.b true) l0),m l0,y 0 false (.fa v4 1),i 1 false l0,y 2 false (.bin .gtr l0 (.i 2199023255552)),u (.pk l3 (.b true) l0)] [] 0 (q [x 2 (.i 1)] [] .ret) .skip) (.ite [m v3,u (.bin .gtr l0 (.i 0)),m l0,y 0 true (.fa v4 0),i 1 true l0,y 2 true (.fa v1 3),i 3 true l0,e 4 true v3,y 5 true (.bin .sub l0 (.i 1)),y 6 true (.ia l2 l0 2),y 7 true (.fa l0 0),i 8 true l0,y 9 true (.bin .leq l7 l0),e 10 true l0,y 0 false (.fa v4 1),i 1 false l0,y 2 false (.fa v1 3),i 3 false l0,e 4 false v3,y 5 false (.bin .sub l0 (.i 1)),y 6 false (.ia l2 l0 2),y 7 false (.fa l0 1),i 8 false l0,y 9 false (.bin .gtr l7 l0),y 21 true (.pk l10 (.b true) l0),u (.pk (.l 22) l0 (.b false))] [] 0 (q [x 2 (.i 14)] [] .ret) .skip)))) (.reg [u (.bin .add v7 (.i 1)),x 7 l0] [])))
def BU:C:= .loop true [0,2,3,4] K.qA
def mM:Fn:= { aq:=1,vars:=[0,1,2,3,4,19,20,21],body:=(q [w 1 (.bx v0 4),x 2 (.i 0)] [] (.seq (.ite [f 0 v1,g l0,u (.bin .lss l0 (.i 0))] [] 0 (q [x 2 (.i 4)] [] .ret) .skip) (.seq (.ite [f 3 v1,g l0,u (.ln l0),u (.bin .lss l0 (.i 1)),m l0,y 0 false (.fa v1 3),i 1 false l0,y 2 false (.ln l0),y 3 false (.bin .gtr l0 (.i 8)),u (.pk l4 (.b true) l0)] [] 0 (q [x 2 (.i 2)] [] .ret) .skip) (.seq (q [f 3 v1,w 5 (.ld l0 1 false),w 6 (.ln l0),x 7 (.i 0)] [] (.blk 0 K.BU)) (q [x 2 (.i 0)] [] .ret))))),res:=[(2,none)]}
end Go.Ev.K
namespace Go.Ev
class fN [Lib]:Prop where
 o9:Lib.fs N.dA=some K.dA
 AN:Lib.fs N.pB=some K.pB
 lW:Lib.fs N.cM=some K.cM
 lX:Lib.fs N.cY=some K.cY
 qg:Lib.fs N.bU=some K.bU
 pd:Lib.fs N.ax=some K.ax
 oC:Lib.fs N.aW=some K.aW
 pg:Lib.fs N.cZ=some K.cZ
 jd:Lib.fs N.bH=some K.bH
 qh:Lib.fs N.dB=some K.dB
 nh:Lib.fs N.cz=some K.cz
 r9:Lib.fs N.eU=some K.eU
 qi:Lib.fs N.c9=some K.c9
 lY:Lib.fs N.eG=some K.eG
 qW:Lib.fs N.fv=some K.fv
 qj:Lib.fs N.ew=some K.ew
 oD:Lib.fs N.de=some K.de
 ph:Lib.fs N.dC=some K.dC
 vZ:Lib.fs N.kt=some K.kt
 tZ:Lib.fs N.fX=some K.fX
 yp:Lib.fs N.mM=some K.mM
namespace K
variable [Lib] [fN]
theorem o9:Lib.fs N.dA=some K.dA:=fN.o9
theorem AN:Lib.fs N.pB=some K.pB:=fN.AN
theorem lW:Lib.fs N.cM=some K.cM:=fN.lW
theorem lX:Lib.fs N.cY=some K.cY:=fN.lX
theorem qg:Lib.fs N.bU=some K.bU:=fN.qg
theorem pd:Lib.fs N.ax=some K.ax:=fN.pd
theorem oC:Lib.fs N.aW=some K.aW:=fN.oC
theorem pg:Lib.fs N.cZ=some K.cZ:=fN.pg
theorem jd:Lib.fs N.bH=some K.bH:=fN.jd
theorem qh:Lib.fs N.dB=some K.dB:=fN.qh
theorem nh:Lib.fs N.cz=some K.cz:=fN.nh
theorem r9:Lib.fs N.eU=some K.eU:=fN.r9
theorem qi:Lib.fs N.c9=some K.c9:=fN.qi
theorem lY:Lib.fs N.eG=some K.eG:=fN.lY
theorem qW:Lib.fs N.fv=some K.fv:=fN.qW
theorem qj:Lib.fs N.ew=some K.ew:=fN.qj
theorem oD:Lib.fs N.de=some K.de:=fN.oD
theorem ph:Lib.fs N.dC=some K.dC:=fN.ph
theorem vZ:Lib.fs N.kt=some K.kt:=fN.vZ
theorem tZ:Lib.fs N.fX=some K.fX:=fN.tZ
theorem yp:Lib.fs N.mM=some K.mM:=fN.yp
end K
end Go.Ev
namespace Go.Ev.K
open Go.Ev
def pC:C:= (.its [u (.bin .lss v12 v11)] [] 0 .skip (.exit 2) (.seq (.blk 3 (q [m v12,a 1 v10 v12,g l0,x 5 l2,x 6 l1] [] (.seq (.ite [m v6,u (.bin .lss l0 (.i 0)),m l0,e 0 false v6,y 1 false (.bin .gtr l0 (.i 262144)),u (.pk l2 (.b true) l0)] [] 0 (q [x 1 (.i 1)] [] .ret) .skip) (.reg [m v4,m l0,e 0 true v5,y 1 true (.bin .eql l0 (.i 0)),e 2 true l0,e 0 false v6,y 1 false (.fa v3 2),i 2 false l0,e 3 false v5,y 4 false (.bin .sub l0 (.i 1)),y 5 false (.ia l2 l0 1),i 6 false l0,y 7 false (.bin .lss l6 l0),y 11 true (.pk l8 (.b true) l0),u (.pk (.l 12) l0 (.b false)),x 4 l0] [])))) (.reg [u (.bin .add v12 (.i 1)),x 12 l0] [])))
def zN:C:= .loop true [1,5,6] K.pC
def sg:C:= (.its [u (.bin .lss v9 v8)] [] 0 .skip (.exit 0) (.seq (.blk 1 (q [m v9,a 3 v7 v9,h 3 l0,w 3 (.al [z0,z0,.nil] []),x 2 l3,u (.st l1 l2 3 [])] [] (.seq (.ite [f 0 v3,g l0,u (.bin .lss l0 (.i 0))] [] 0 (q [x 1 (.i 4)] [] .ret) .skip) (.seq (.ite [f 2 v3,g l0,u (.ln l0),u (.bin .lss l0 (.i 2)),m l0,y 0 false (.fa v3 2),i 1 false l0,y 2 false (.ln l0),y 3 false (.bin .gtr l0 (.i 6)),u (.pk l4 (.b true) l0)] [] 0 (q [x 1 (.i 2)] [] .ret) .skip) (q [x 4 (.b true)] [] (.seq (q [f 2 v3,w 10 (.ld l0 1 false),w 11 (.ln l0),x 12 (.i 0)] [] (.blk 2 K.zN)) (.seq (.ite [m v4,u (.un .not l0)] [] 0 (q [x 1 (.i 15)] [] .ret) .skip) (.ite [f 1 v3,g l0,u (.bin .neq l0 (.i (-1))),m l0,y 0 true (.fa v3 1),i 1 true l0,y 2 true (.bin .lss l0 (.i 0)),e 3 true l0,y 0 false (.fa v3 1),i 1 false l0,e 2 false v0,y 3 false (.ln l0),y 4 false (.bin .geq l2 l0),y 9 true (.pk l5 (.b true) l0),e 10 true l0,y 0 false (.fa v3 1),i 1 false l0,e 2 false v2,y 3 false (.bin .eql l1 l0),y 15 true (.pk l4 (.b true) l0),e 16 true l0,e 0 false v0,y 1 false (.fa v3 1),i 2 false l0,y 3 false (.ia l2 l0 3),y 4 false (.fa l0 1),i 5 false l0,e 6 false v2,y 7 false (.bin .neq l1 l0),y 25 true (.pk l8 (.b true) l0),u (.pk (.l 26) l0 (.b false))] [] 0 (q [x 1 (.i 15)] [] .ret) .skip)))))))) (.reg [u (.bin .add v9 (.i 1)),x 9 l0] [])))
def zO:C:= .loop true [1,2,3,4,5,6,10,11,12] K.sg
def ku:Fn:= { aq:=1,vars:=[0,2,3,4,5,6,7,11,12,13,32,33,34],body:=(q [x 1 (.i 0)] [] (.seq (.ite [m v0,u (.ln l0),u (.bin .gtr l0 (.i 16))] [] 0 (q [x 1 (.i 2)] [] .ret) .skip) (.seq (q [x 7 v0,w 8 (.ln l0),x 9 (.i 0)] [] (.blk 0 K.zO)) (q [x 1 (.i 0)] [] .ret)))),res:=[(1,none)]}
def gM:Fn:= { aq:=3,vars:=[0,1,2,3,4,6,7],body:=(q [w 3 (.bx v0 4),w 4 (.bx v1 2),w 5 (.mv (.c (.nil))),x 6 (.i 0)] [] (q [h 4 v3,h 2 v4,m v2,u (.ca N.dt 0 [] [.l 2,.l 1,.l 0,.c (.fn N.bK [])]),u (.ex l0 0),u (.ex l1 1),x 5 l1,x 6 l1] [] .ret)),res:=[(5,none),(6,none)]}
def iF:Fn:= { aq:=3,vars:=[0,1,2,3,4,6,7],body:=(q [w 3 (.bx v0 4),w 4 (.bx v1 2),w 5 (.mv (.c (.nil))),x 6 (.i 0)] [] (q [h 4 v3,h 2 v4,m v2,u (.ca N.dt 0 [] [.l 2,.l 1,.l 0,.c (.fn N.cA [])]),u (.ex l0 0),u (.ex l1 1),x 5 l1,x 6 l1] [] .ret)),res:=[(5,none),(6,none)]}
def lZ:C:= (.its [u (.bin .lss v18 v17)] [] 0 .skip (.exit 2) (.seq (.blk 3 (q [a 1 v16 v18,g l0,x 9 l0] [] (.ite [m v9,u (.bin .lss l0 (.i (-70368744177664))),m l0,e 0 false v9,y 1 false (.bin .gtr l0 (.i 70368744177664)),u (.pk l2 (.b true) l0)] [] 0 (q [x 6 (.i 1)] [] .ret) .skip))) (.reg [u (.bin .add v18 (.i 1)),x 18 l0] [])))
def uI:C:= .loop true [0,1,2,6,7,8,9,10,11,12,13,19,20,21] K.lZ
def pj:C:= (.its [u (.bin .lss v15 v14)] [] 0 .skip (.exit 0) (.seq (.blk 1 (q [m v15,x 8 l0] [] (q [f 0 v5,g l0,m v8,a 1 l1 l0,g l0,f 1 v5,g l0,m v8,a 1 l1 l0,g l0,w 16 (.bs [.l 5,.l 0] 1),w 17 (.ln l0),x 18 (.i 0)] [] (.blk 2 K.uI)))) (.reg [u (.bin .add v15 (.i 1)),x 15 l0] [])))
def uJ:C:= .loop true [0,1,2,6,7,8,9,10,11,12,13,16,17,18,19,20,21] K.pj
def mc:C:= (.its [u (.bin .lss v21 v20)] [] 0 .skip (.exit 4) (.seq (.blk 5 (q [m v21,a 2 v19 v21,h 2 l0,w 13 (.al [z0,z1] []),x 12 l3,u (.st l1 l2 2 [])] [] (.ite [f 1 v13,g l0,m l0,e 0 false v10,e 1 false v12,y 2 false (.ia l1 l0 1),i 3 false l0,u (.pk l4 (.b true) l0)] [] 0 (.ite [f 0 v5,g l0,m v12,a 1 l1 l0,g l0,u (.bin .neq l0 (.i 0)),m l0,y 0 false (.fa v5 1),i 1 false l0,e 2 false v12,y 3 false (.ia l1 l0 1),i 4 false l0,y 5 false (.bin .neq l0 (.i 0)),u (.pk l6 (.b true) l0)] [] 0 (q [x 6 (.i 12)] [] .ret) .skip) (.ite [h 2 v11,f 1 v5,g l0,m v12,u (.ca N.cB 0 [] [.l 3,.l 1,.l 0]),u (.bin .lss l0 (.i 0)),m l0,y 0 false (.ld v11 2 true),y 1 false (.fa v5 0),i 2 false l0,e 3 false v12,y 4 false (.ca N.bV 0 [] [.l 3,.l 1,.l 0]),y 5 false (.bin .gtr l0 (.i 0)),u (.pk l6 (.b true) l0)] [] 0 (q [x 6 (.i 12)] [] .ret) .skip)))) (.reg [u (.bin .add v21 (.i 1)),x 21 l0] [])))
def uK:C:= .loop true [0,1,2,3,4,6,7,8,9,12,13,14,15,16,17,18] K.mc
def fw:Fn:= { aq:=3,vars:=[0,1,2,3,4,5,6,7,8,10,11,12,13,14,44,45,58,59,60,80,81,82],body:=(q [w 3 (.bx v0 4),w 4 (.bx v1 2),w 5 (.bx v2 2),x 6 (.i 0)] [] (.seq (q [h 4 v3,u (.ca N.eU 0 [] [.l 0]),x 7 l0] [] (.ite [m v7,u (.bin .neq l0 (.i 0))] [] 0 (q [m v7,x 6 l0] [] .ret) .skip)) (.seq (.ite [h 4 v3,h 2 v4,u (.ca N.c9 0 [] [.l 1,.l 0]),u (.un .not l0)] [] 0 (q [x 6 (.i 21)] [] .ret) .skip) (.seq (.ite [f 0 v5,g l0,u (.ln l0),f 0 v3,f 0 l0,g l0,u (.ln l0),u (.bin .neq l4 l0),m l0,y 0 false (.fa v5 1),i 1 false l0,y 2 false (.ln l0),y 3 false (.fa v3 0),y 4 false (.fa l0 0),i 5 false l0,y 6 false (.ln l0),y 7 false (.bin .neq l4 l0),u (.pk l8 (.b true) l0)] [] 0 (q [x 6 (.i 11)] [] .ret) .skip) (.seq (q [f 0 v5,g l0,w 14 (.ln l0),x 15 (.i 0)] [] (.blk 0 K.uJ)) (q [f 0 v3,h 2 l0,u (.ca N.cJ 0 [] [.l 0]),x 10 l0] [] (q [h 4 v3,h 2 v4,u (.ca N.eV 0 [] [.l 1,.l 0]),w 11 (.al [.nil,.nil] []),u (.st l0 l1 2 [])] [] (.seq (q [f 0 v3,f 0 l0,w 19 (.ld l0 1 false),w 20 (.ln l0),x 21 (.i 0)] [] (.blk 4 K.uK)) (q [x 6 (.i 0)] [] .ret))))))))),res:=[(6,none)]}
def uL:C:= (.its [u (.bin .lss v7 v6)] [] 0 .skip (.exit 0) (.seq (.blk 1 (q [a 1 v5 v7,g l0,x 4 l0] [] (.reg [m v3,m v4,a 1 l1 l0,u (.st l0 (.b true) 1 [])] []))) (.reg [u (.bin .add v7 (.i 1)),x 7 l0] [])))
def wa:C:= .loop true [0,1,2,4] K.uL
def cJ:Fn:= { aq:=1,vars:=[0,1,2,3,5,11,12,13],body:=(q [w 1 (.bx v0 2),w 2 (.mv (.c (.nil)))] [] (q [f 0 v1,g l0,u (.ln l0),u (.mk l0 (z1) 1),x 3 l0] [] (.seq (q [h 2 v1,w 5 (.ca N.jo 0 [] [.l 0]),w 6 (.ln l0),x 7 (.i 0)] [] (.blk 0 K.wa)) (q [m v3,x 2 l0] [] .ret)))),res:=[(2,none)]}
def qk:C:= (.its [u (.bin .lss v18 v17)] [] 0 .skip (.exit 0) (.seq (.blk 1 (q [m v18,a 3 v16 v18,h 3 l0,w 8 (.al [z0,z0,.nil] []),x 7 l3,u (.st l1 l2 3 [])] [] (q [w 9 (.al [z0,z0] []),h 3 v8,f 1 v3,g l0,m v7,a 1 l1 l0,g l0,u (.ca N.lI 0 [] [.l 5,.l 0]),u (.st l7 l0 2 [])] [(0,8)] (q [m v5,f 0 v8,g l0,a 2 l2 l0,f 0 l0,g l0,f 0 v9,g l0,u (.bin .add l2 l0),a 2 l8 l6,f 0 l0,u (.st l0 l2 1 [])] [] (.reg [m v5,f 0 v8,g l0,a 2 l2 l0,f 1 l0,g l0,f 1 v9,g l0,u (.bin .add l2 l0),a 2 l8 l6,f 1 l0,u (.st l0 l2 1 [])] []))))) (.reg [u (.bin .add v18 (.i 1)),x 18 l0] [])))
def wb:C:= .loop true [0,1,7,8,9,10,11,12,13,14,15,19,20,21,22,23,24] K.qk
def mT:C:= (.its [u (.bin .lss v21 v20)] [] 0 .skip (.exit 2) (.seq (.blk 3 (q [m v21,a 4 v19 v21,h 4 l0,w 11 (.al [z0,z1,z1,.nil] []),x 10 l3,u (.st l1 l2 4 [])] [] (.ite [f 0 v3,g l0,m v10,a 1 l1 l0,g l0,u (.bin .neq l0 (.i 0))] [] 0 (.reg [m v6,f 0 v11,g l0,m v6,f 0 v11,g l0,a 1 l2 l0,g l0,h 4 v11,f 0 v3,g l0,m v10,a 1 l1 l0,g l0,u (.bd [z0,z1,z1,.nil,z0] [(0,4,.l 5),(4,1,.l 0)]),u (.bs [.l 0] 5),u (.app l8 l0 true 5),a 1 (.l 16) (.l 14),u (.st l0 l1 1 [])] [(2,16),(2,17),(5,16),(6,16),(7,16)]) .skip))) (.reg [u (.bin .add v21 (.i 1)),x 21 l0] [])))
def wc:C:= .loop true [0,1,7,8,9,10,11,12,13,14,15,16,17,18,22,23,24] K.mT
def mU:C:= (.its [u (.bin .lss (.v 24) v23)] [] 0 .skip (.exit 4) (.seq (.blk 5 (q [m (.v 24),a 10 v22 (.v 24),h 10 l0,w 14 (.al [z0,z0,z0,z0,z1,z1,z0,z0,z0,z0] []),x 13 l3,u (.st l1 l2 10 [])] [] (.seq (.ite [f 5 v14,g l0] [] 0 (.exit 5) .skip) (q [f 0 v12,g l0,u (.ln l0),x 15 l0] [] (q [f 1 v12,g l0,f 0 v14,g l0,f 1 v12,g l0,f 0 v14,g l0,a 1 l2 l0,g l0,m v15,u (.bs [.l 0] 1),u (.app l2 l0 true 1),a 1 l11 l9,u (.st l0 l1 1 [])] [(1,12),(1,13),(3,12),(3,13),(5,12),(7,12),(8,12),(9,12)] (q [f 1 v12,g l0,f 1 v14,g l0,f 1 v12,g l0,f 1 v14,g l0,a 1 l2 l0,g l0,m v15,u (.bs [.l 0] 1),u (.app l2 l0 true 1),a 1 l11 l9,u (.st l0 l1 1 [])] [(1,12),(1,13),(3,12),(3,13),(5,12),(7,12),(8,12),(9,12)] (q [f 6 v14,f 0 l0,g l0,m v5,m v13,a 2 l1 l0,f 0 l0,g l0,u (.bin .add l5 l0),f 6 v14,f 0 l0,u (.st l0 l2 1 [])] [] (q [f 6 v14,f 1 l0,g l0,m v5,m v13,a 2 l1 l0,f 1 l0,g l0,u (.bin .add l5 l0),f 6 v14,f 1 l0,u (.st l0 l2 1 [])] [] (.reg [f 0 v12,g l0,h 10 v14,m v13,m v6,m v13,a 1 l1 l0,g l0,u (.bd [z0,z0,z0,z0,z1,z1,z0,z0,z0,z0,z0,.nil] [(0,10,.l 5),(10,1,.l 4),(11,1,.l 0)]),u (.bs [.l 0] 12),u (.app l8 l0 true 12),f 0 v12,u (.st l0 l1 1 [])] [(1,10)]))))))))) (.reg [u (.bin .add (.v 24) (.i 1)),x 24 l0] [])))
def we:C:= .loop true [0,1,2,3,7,8,9,10,11,13,14,15,16,17,18,19,20,21] K.mU
def eV:Fn:= { aq:=2,vars:=[0,1,2,3,4,5,6,7,8,9,10,11,12,13,14,15,27,28,29,65,66,67,105,106,107],body:=(q [w 2 (.bx v0 4),w 3 (.bx v1 2),w 4 (.al [.nil,.nil] [])] [] (q [f 0 v2,f 1 l0,g l0,u (.ln l0),u (.mk l0 (.t (.agg [(.int .i64 (0)),(.int .i64 (0))])) 2),x 5 l0] [] (q [f 0 v2,f 1 l0,g l0,u (.ln l0),u (.mkw l0 10 5),x 6 l0] [] (.seq (q [f 3 v2,w 16 (.ld l0 1 false),w 17 (.ln l0),x 18 (.i 0)] [] (.blk 0 K.wb)) (.seq (q [f 2 v2,w 19 (.ld l0 1 false),w 20 (.ln l0),x 21 (.i 0)] [] (.blk 2 K.wc)) (q [f 0 v2,f 0 l0,g l0,u (.ln l0),u (.mkw l0 6 1),u (.bd [.nil,.nil] [(1,1,.l 0)]),w 12 (.al [.nil,.nil] [(0,12)]),u (.st l0 l1 2 [(0,12)])] [] (.seq (q [f 0 v2,f 1 l0,w 22 (.ld l0 1 false),w 23 (.ln l0),x 24 (.i 0)] [] (.blk 4 K.we)) (q [h 2 v12,u (.st v4 l0 2 [])] [] .ret)))))))),res:=[(4,some (2,true))]}
def fS:C:= (.seq (.ite [m v4,m v5,u (.bin .lss l1 l0)] [] 0 .skip (.exit 0)) (.blk 1 (q [m v4,m v5,m v4,u (.bin .sub l1 l0),u (.bin .add l0 (.i 1)),u (.bin .quo l0 (.i 2)),u (.bin .add l5 l0),x 6 l0] [] (.ite [h 12 v2,m v6,u (.ca N.bW 0 [] [.l 1,.l 0]),u (.fl l0 1 1 false),m v1,u (.bin .leq l1 l0)] [] 0 (.reg [m v6,x 4 l0] []) (.reg [m v6,u (.bin .sub l0 (.i 1)),x 5 l0] [])))))
def oE:C:= .loop true [0,3,6] K.fS
def bo:Fn:= { aq:=2,vars:=[0,1,2,4,5,6,7],body:=(q [w 2 (.bx v0 12),x 3 (.i 0)] [] (q [w 4 (.mv (.i (-1048577))),x 5 (.i 1048576)] [] (.seq (.blk 0 K.oE) (q [m v4,x 3 l0] [] .ret)))),res:=[(3,none)]}
def fx:C:= (.seq (.ite [m v4,m v5,u (.bin .lss l1 l0)] [] 0 .skip (.exit 0)) (.blk 1 (q [m v4,m v5,m v4,u (.bin .sub l1 l0),u (.bin .quo l0 (.i 2)),u (.bin .add l4 l0),x 6 l0] [] (.ite [h 12 v2,m v6,u (.ca N.bW 0 [] [.l 1,.l 0]),u (.fl l0 0 1 false),m v1,u (.bin .geq l1 l0)] [] 0 (.reg [m v6,x 5 l0] []) (.reg [m v6,u (.bin .add l0 (.i 1)),x 4 l0] [])))))
def nT:C:= .loop true [0,3,6] K.fx
def bg:Fn:= { aq:=2,vars:=[0,1,2,4,5,6,7],body:=(q [w 2 (.bx v0 12),x 3 (.i 0)] [] (q [w 4 (.mv (.i (-1048576))),x 5 (.i 1048577)] [] (.seq (.blk 0 K.nT) (q [m v4,x 3 l0] [] .ret)))),res:=[(3,none)]}
def eH:Fn:= { aq:=3,vars:=[0,1,2,3,6,7],body:=(q [w 3 (.bx v0 4),w 4 (.al [z0,z0] [])] [] (.seq (.ite [m v1] [] 0 (q [h 4 v3,m v2,u (.un .neg l0),u (.ca N.fe 0 [] [.l 2,.l 0]),w 5 (.al [z0,z0] []),u (.st l0 l1 2 [])] [] (q [f 1 v5,g l0,u (.un .neg l0),f 0 v5,g l0,u (.un .neg l0),u (.bd [z0,z0] [(0,1,.l 3),(1,1,.l 0)]),u (.st v4 l0 2 [])] [] .ret)) .skip) (q [h 4 v3,m v2,u (.ca N.fe 0 [] [.l 1,.l 0]),u (.st v4 l0 2 [])] [] .ret))),res:=[(4,some (2,true))]}
def iG:C:= (.its [u (.bin .lss v20 v19)] [] 0 .skip (.exit 2) (.seq (.blk 3 (q [m v20,a 2 v18 v20,h 2 l0,w 15 (.al [z0,z1] []),x 14 l3,u (.st l1 l2 2 [])] [] (.seq (.ite [f 1 v15,g l0,m l0,e 0 false v9,e 1 false v14,y 2 false (.ia l1 l0 1),i 3 false l0,u (.pk l4 (.b true) l0)] [] 0 (.exit 3) .skip) (q [m v3,h 2 v10,m v11,m v14,u (.cw l3 0 [1] [.l 2,.l 1,.l 0]),m l0,u (.ex l0 0),u (.ex l1 1),x 16 l1,x 17 l1] [] (.seq (.ite [m v17,u (.un .not l0)] [] 0 (q [w 6 (.mv (.c (.nil))),x 7 (.i 2)] [] .ret) .skip) (.ite [m v16,m v11,m v14,a 1 l1 l0,g l0,u (.bin .neq l4 l0)] [] 0 (.reg [m v11,m v14,m v16,a 1 l2 l1,u (.st l0 l1 1 []),x 13 (.b true)] []) .skip)))))) (.reg [u (.bin .add v20 (.i 1)),x 20 l0] [])))
def wg:C:= .loop true [0,1,2,5,6,7,8,14,15,16,17] K.iG
def kp:C:= (.seq (.ite [m v12,u (.bin .lss l0 (.i 200))] [] 0 .skip (.exit 0)) (.seq (.blk 1 (q [x 13 (.b false)] [] (.seq (q [f 0 v4,f 0 l0,w 18 (.ld l0 1 false),w 19 (.ln l0),x 20 (.i 0)] [] (.blk 2 K.wg)) (.ite [m v13,u (.un .not l0)] [] 0 (q [m v11,x 6 l0,x 7 (.i 0)] [] .ret) .skip)))) (.reg [m v12,u (.bin .add l0 (.i 1)),x 12 l0] [])))
def wi:C:= .loop true [0,1,2,5,6,7,8,13,14,15,16,17,18,19,20] K.kp
def dt:Fn:= { aq:=4,vars:=[0,1,2,3,4,5,8,9,10,11,12,13,14,15,16,17,18,19,41,42,43],body:=(q [w 4 (.bx v0 4),w 5 (.bx v1 2),w 6 (.mv (.c (.nil))),x 7 (.i 0)] [] (.seq (q [h 4 v4,h 2 v5,m v2,u (.ca N.jq 0 [] [.l 2,.l 1,.l 0]),x 8 l0] [] (.ite [m v8,u (.bin .neq l0 (.i 0))] [] 0 (q [m v8,w 6 (.mv (.c (.nil))),x 7 l1] [] .ret) .skip)) (q [f 0 v4,h 2 l0,u (.ca N.cJ 0 [] [.l 0]),x 9 l0] [] (q [h 4 v4,h 2 v5,u (.ca N.eV 0 [] [.l 1,.l 0]),w 10 (.al [.nil,.nil] []),u (.st l0 l1 2 [])] [] (q [m v2,u (.app (.c (.nil)) l0 true 1),x 11 l0] [] (.seq (q [x 12 (.i 0)] [] (.blk 0 K.wi)) (q [w 6 (.mv (.c (.nil))),x 7 (.i 2)] [] .ret))))))),res:=[(6,none),(7,none)]}
def bK:Fn:= { aq:=3,vars:=[0,1,2,3,5,6,7,8],body:=(q [w 3 (.bx v0 2),w 4 (.bx v2 1),x 5 (.i 0),x 6 (.b false)] [] (q [m v1,u (.app (.c (.nil)) l0 true 1),w 7 (.al [.nil] []),u (.st l0 l1 1 [])] [] (q [m v1,g v4,a 1 l1 l0,g l0,u (.mf N.bG [.v 7,.v 4,.v 3]),u (.ca N.bA 0 [] [.l 1,.b false,.l 0]),u (.ex l0 0),u (.ex l1 1),x 5 l1,x 6 l1] [] .ret))),res:=[(5,none),(6,none)]}
def cA:Fn:= { aq:=3,vars:=[0,1,2,3,5,6,7,8],body:=(q [w 3 (.bx v0 2),w 4 (.bx v2 1),x 5 (.i 0),x 6 (.b false)] [] (q [m v1,u (.app (.c (.nil)) l0 true 1),w 7 (.al [.nil] []),u (.st l0 l1 1 [])] [] (q [m v1,g v4,a 1 l1 l0,g l0,u (.mf N.b8 [.v 7,.v 4,.v 3]),u (.ca N.bA 0 [] [.l 1,.b true,.l 0]),u (.ex l0 0),u (.ex l1 1),x 5 l1,x 6 l1] [] .ret))),res:=[(5,none),(6,none)]}
def dL:C:= (.its [u (.bin .lss v11 v10)] [] 0 .skip (.exit 0) (.seq (.blk 1 (q [a 1 v9 v11,g l0,x 6 l0] [] (q [f 0 v3,g l0,m v6,a 12 l1 l0,h 12 l0,w 7 (.al [z0,z0,z0,z0,z1,z1,z0,z0,z0,z0,z0,.nil] []),u (.st l0 l1 12 [])] [] (q [m v1,f 0 v7,f 0 l0,g l0,a 1 l3 l0,g l0,m v1,f 0 v7,f 1 l0,g l0,a 1 l3 l0,g l0,u (.bin .sub l6 l0),x 8 l0] [] (.ite [f 0 v7,f 0 l0,g l0,m v2,u (.bin .eql l1 l0)] [] 0 (.reg [m v5,h 12 v7,m v8,u (.ca N.bo 0 [] [.l 1,.l 0]),u (.bin .add l3 l0),x 5 l0] []) (.reg [m v5,h 12 v7,m v8,u (.ca N.bg 0 [] [.l 1,.l 0]),u (.bin .sub l3 l0),x 5 l0] [])))))) (.reg [u (.bin .add v11 (.i 1)),x 11 l0] [])))
def oF:C:= .loop true [0,4,6,7,8] K.dL
def cB:Fn:= { aq:=3,vars:=[0,1,2,3,6,7,9,10,11,16,17,18],body:=(q [w 3 (.bx v0 2),x 4 (.i 0)] [] (q [x 5 (.i 0)] [] (.seq (q [f 1 v3,g l0,m v2,a 1 l1 l0,w 9 (.ld l0 1 false),w 10 (.ln l0),x 11 (.i 0)] [] (.blk 0 K.oF)) (q [m v5,x 4 l0] [] .ret)))),res:=[(4,none)]}
def dm:C:= (.its [u (.bin .lss v11 v10)] [] 0 .skip (.exit 0) (.seq (.blk 1 (q [a 1 v9 v11,g l0,x 6 l0] [] (q [f 0 v3,g l0,m v6,a 12 l1 l0,h 12 l0,w 7 (.al [z0,z0,z0,z0,z1,z1,z0,z0,z0,z0,z0,.nil] []),u (.st l0 l1 12 [])] [] (q [m v1,f 0 v7,f 0 l0,g l0,a 1 l3 l0,g l0,m v1,f 0 v7,f 1 l0,g l0,a 1 l3 l0,g l0,u (.bin .sub l6 l0),x 8 l0] [] (.ite [f 0 v7,f 0 l0,g l0,m v2,u (.bin .eql l1 l0)] [] 0 (.reg [m v5,h 12 v7,m v8,u (.ca N.bg 0 [] [.l 1,.l 0]),u (.bin .add l3 l0),x 5 l0] []) (.reg [m v5,h 12 v7,m v8,u (.ca N.bo 0 [] [.l 1,.l 0]),u (.bin .sub l3 l0),x 5 l0] [])))))) (.reg [u (.bin .add v11 (.i 1)),x 11 l0] [])))
def ni:C:= .loop true [0,4,6,7,8] K.dm
def bV:Fn:= { aq:=3,vars:=[0,1,2,3,6,7,9,10,11,16,17,18],body:=(q [w 3 (.bx v0 2),x 4 (.i 0)] [] (q [x 5 (.i 0)] [] (.seq (q [f 1 v3,g l0,m v2,a 1 l1 l0,w 9 (.ld l0 1 false),w 10 (.ln l0),x 11 (.i 0)] [] (.blk 0 K.ni)) (q [m v5,x 4 l0] [] .ret)))),res:=[(4,none)]}
def jI:C:= (.its [u (.bin .lss v12 v11)] [] 0 .skip (.exit 0) (.seq (.blk 1 (q [m v12,a 2 v10 v12,h 2 l0,w 7 (.al [z0,z1] []),x 6 l3,u (.st l1 l2 2 [])] [] (.ite [f 1 v7,g l0] [] 0 (.reg [m v5,m v3,m v6,a 1 l1 l0,g l0,a 1 l4 l0,u (.st l0 (.b true) 1 [])] []) .skip))) (.reg [u (.bin .add v12 (.i 1)),x 12 l0] [])))
def xM:C:= .loop true [0,2,4,6,7,8,9,13,14] K.jI
def qX:C:= (.its [u (.bin .lss v14 v13)] [] 0 .skip (.exit 2) (.seq (.blk 3 (q [m v14,x 9 l0] [] (.ite [m v5,m v3,m v9,a 1 l1 l0,g l0,a 1 l4 l0,g l0,u (.un .not l0)] [] 0 (.reg [m v8,m v9,u (.bs [.l 0] 1),u (.app l2 l0 true 1),x 8 l0] []) .skip))) (.reg [u (.bin .add v14 (.i 1)),x 14 l0] [])))
def xN:C:= .loop true [0,1,2,4,6,7,9,10,11,12] K.qX
def jo:Fn:= { aq:=1,vars:=[0,1,2,3,4,5,6,7,8,9,21,22,23,39,40],body:=(q [w 1 (.bx v0 2),w 2 (.mv (.c (.nil)))] [] (.seq (.ite [h 2 v1,u (.ca N.cN 0 [] [.l 0]),u (.un .not l0)] [] 0 (q [w 2 (.mv (.c (.nil)))] [] .ret) .skip) (q [h 2 v1,u (.ca N.mN 0 [] [.l 0]),m l0,u (.ex l0 0),u (.ex l1 1),x 3 l1,x 4 l1] [] (q [m v4,u (.mk l0 (z1) 1),x 5 l0] [] (.seq (q [f 0 v1,w 10 (.ld l0 1 false),w 11 (.ln l0),x 12 (.i 0)] [] (.blk 0 K.xM)) (q [w 8 (.nw 1)] [] (.seq (q [f 0 v1,g l0,w 13 (.ln l0),x 14 (.i 0)] [] (.blk 2 K.xN)) (q [m v8,x 2 l0] [] .ret)))))))),res:=[(2,none)]}
def lI:Fn:= { aq:=2,vars:=[0,1,2,4],body:=(q [w 2 (.bx v0 3),w 3 (.al [z0,z0] [])] [] (.seq (.blk 0 (.ite [f 2 v2,g l0,u (.ln l0),u (.bin .eql l0 (.i 0)),m l0,e 0 false v1,y 1 false (.bin .lss l0 (.i (-1))),u (.pk l2 (.b true) l0),m l0,e 0 false v1,y 1 false (.fa v2 2),i 2 false l0,y 3 false (.ln l0),y 4 false (.bin .geq l3 l0),u (.pk l5 (.b true) l0),m l0] [] 0 (q [u (.bd [z0,z0] []),u (.st v3 l0 2 [])] [] .ret) (.ite [m v1,u (.bin .eql l0 (.i (-1))),m l0] [] 0 (q [f 2 v2,g l0,u (.ca N.cG 0 [] [.l 0]),f 2 v2,g l0,u (.ca N.cH 0 [] [.l 0]),u (.bd [z0,z0] [(0,1,.l 3),(1,1,.l 0)]),u (.st v3 l0 2 [])] [(4,0)] .ret) .skip))) (q [f 2 v2,g l0,m v1,a 1 l1 l0,g l0,f 2 v2,g l0,m v1,a 1 l1 l0,g l0,u (.bd [z0,z0] [(0,1,.l 5),(1,1,.l 0)]),u (.st v3 l0 2 [])] [] .ret))),res:=[(3,some (2,true))]}
def lJ:C:= (.its [u (.bin .lss v10 v9)] [] 0 .skip (.exit 0) (.seq (.blk 1 (q [a 5 v8 v10,h 5 l0,w 6 (.al [z0,z1,z1,.nil,z0] []),u (.st l0 l1 5 [])] [] (q [f 0 v6,h 4 l0,f 4 v6,g l0,m v1,u (.ca N.lV 0 [] [.l 3,.l 1,.l 0]),w 7 (.al [z0,z0] []),u (.st l0 l1 2 [])] [] (q [f 0 v5,g l0,f 1 v7,g l0,u (.bin .sub l2 l0),f 0 v5,u (.st l0 l1 1 [])] [] (.reg [f 1 v5,g l0,f 0 v7,g l0,u (.bin .sub l2 l0),f 1 v5,u (.st l0 l1 1 [])] []))))) (.reg [u (.bin .add v10 (.i 1)),x 10 l0] [])))
def qt:C:= .loop true [0,2,4,6,7] K.lJ
def bW:Fn:= { aq:=2,vars:=[0,1,2,4,5,6,8,9,60,61,62],body:=(q [w 2 (.bx v0 12),w 3 (.al [z0,z0] [])] [] (q [m v1,m v1,u (.bin .mul l1 l0),x 4 l0] [] (q [f 0 v2,f 6 l0,f 0 l0,g l0,m v4,u (.bin .mul l1 l0),f 0 v2,f 6 l0,f 1 l0,g l0,m v4,u (.bin .mul l1 l0),u (.bd [z0,z0] [(0,1,.l 6),(1,1,.l 0)]),w 5 (.al [z0,z0] []),u (.st l0 l1 2 [])] [] (.seq (.ite [m v1,u (.bin .lss l0 (.i 0))] [] 0 (.reg [f 0 v2,f 6 l0,f 1 l0,g l0,u (.un .neg l0),m v4,u (.bin .mul l1 l0),f 0 v2,f 6 l0,f 0 l0,g l0,u (.un .neg l0),m v4,u (.bin .mul l1 l0),u (.bd [z0,z0] [(0,1,.l 7),(1,1,.l 0)]),u (.st v5 l0 2 [])] []) .skip) (q [f 0 v5,g l0,f 0 v2,f 8 l0,f 1 l0,g l0,u (.bin .sub l4 l0),f 0 v5,u (.st l0 l1 1 [])] [] (q [f 1 v5,g l0,f 0 v2,f 8 l0,f 0 l0,g l0,u (.bin .sub l4 l0),f 1 v5,u (.st l0 l1 1 [])] [] (.seq (q [f 11 v2,w 8 (.ld l0 1 false),w 9 (.ln l0),x 10 (.i 0)] [] (.blk 0 K.qt)) (q [h 2 v5,u (.st v3 l0 2 [])] [] .ret)))))))),res:=[(3,some (2,true))]}
def qY:C:= (.seq (.ite [f 3 v2,g l0,m v5,u (.bin .add l0 (.i 1)),a 2 l2 l0,f 0 l0,g l0,m v1,u (.bin .leq l1 l0)] [] 0 .skip (.exit 0)) (.blk 1 (.reg [m v5,u (.bin .add l0 (.i 1)),x 5 l0] [])))
def xO:C:= .loop true [0,4,6,7,8,9] K.qY
def fe:Fn:= { aq:=2,vars:=[0,1,2,4,5,6,7,8,9,10],body:=(q [w 2 (.bx v0 4),w 3 (.al [z0,z0] [])] [] (q [f 3 v2,g l0,u (.ln l0),x 4 l0] [] (.seq (.ite [m v1,f 3 v2,g l0,a 2 l0 (.i 0),f 0 l0,g l0,u (.bin .leq l5 l0)] [] 0 (q [f 3 v2,g l0,a 2 l0 (.i 0),f 1 l0,g l0,f 3 v2,g l0,a 2 l0 (.i 0),f 1 l0,g l0,u (.bd [z0,z0] [(0,1,.l 5),(1,1,.l 0)]),u (.st v3 l0 2 [])] [] .ret) .skip) (.seq (.ite [m v1,f 3 v2,g l0,m v4,u (.bin .sub l0 (.i 1)),a 2 l2 l0,f 0 l0,g l0,u (.bin .geq l7 l0)] [] 0 (q [f 3 v2,g l0,m v4,u (.bin .sub l0 (.i 1)),a 2 l2 l0,f 1 l0,g l0,f 3 v2,g l0,m v4,u (.bin .sub l0 (.i 1)),a 2 l2 l0,f 1 l0,g l0,u (.bd [z0,z0] [(0,1,.l 7),(1,1,.l 0)]),u (.st v3 l0 2 [])] [] .ret) .skip) (q [x 5 (.i 0)] [] (.seq (.blk 0 K.xO) (q [w 6 (.al [z0,z0] []),w 7 (.al [z0,z0] []),f 3 v2,g l0,m v5,a 2 l1 l0,h 2 l0,f 3 v2,g l0,m v5,u (.bin .add l0 (.i 1)),a 2 l2 l0,h 2 l0,u (.st (.l 12) l6 2 []),u (.st (.l 12) l1 2 [])] [(8,14),(11,14),(12,14)] (q [f 1 v7,g l0,f 1 v6,g l0,u (.bin .sub l2 l0),m v1,f 0 v6,g l0,u (.bin .sub l2 l0),u (.bin .mul l4 l0),f 0 v7,g l0,f 0 v6,g l0,u (.bin .sub l2 l0),x 8 l5,x 9 l1] [] (q [f 1 v6,g l0,m v8,m v9,u (.ca N.fY 0 [] [.l 1,.l 0]),u (.bin .add l3 l0),f 1 v6,g l0,m v8,m v9,u (.ca N.kv 0 [] [.l 1,.l 0]),u (.bin .add l3 l0),u (.bd [z0,z0] [(0,1,.l 6),(1,1,.l 0)]),u (.st v3 l0 2 [])] [(1,5),(1,11),(7,0),(7,11)] .ret))))))))),res:=[(3,some (2,true))]}
def qZ:C:= (.its [u (.bin .lss v13 v12)] [] 0 .skip (.exit 0) (.seq (.blk 1 (q [a 1 v11 v13,g l0,x 7 l0] [] (.ite [m v7,u (.bin .lss l0 (.i (-70368744177664))),m l0,e 0 false v7,y 1 false (.bin .gtr l0 (.i 70368744177664)),u (.pk l2 (.b true) l0)] [] 0 (q [x 5 (.i 1)] [] .ret) .skip))) (.reg [u (.bin .add v13 (.i 1)),x 13 l0] [])))
def xP:C:= .loop true [0,1,4,5,6,7,8,9,10,14,15,16] K.qZ
def oG:C:= (.its [u (.bin .lss v16 v15)] [] 0 .skip (.exit 2) (.seq (.blk 3 (q [m v16,a 2 v14 v16,h 2 l0,w 10 (.al [z0,z1] []),x 9 l3,u (.st l1 l2 2 [])] [] (.ite [f 1 v10,g l0,m l0,e 0 false v8,e 1 false v9,y 2 false (.ia l1 l0 1),i 3 false l0,u (.pk l4 (.b true) l0),m l0,e 0 true v2,e 1 true v9,y 2 true (.ia l1 l0 1),i 3 true l0,y 4 true (.bin .neq l0 (.i 0)),u (.pk l5 l0 (.b false))] [] 0 (q [x 5 (.i 12)] [] .ret) .skip))) (.reg [u (.bin .add v16 (.i 1)),x 16 l0] [])))
def xQ:C:= .loop true [0,1,3,4,5,6,7,9,10,11,12,13] K.oG
def jq:Fn:= { aq:=3,vars:=[0,1,2,3,4,6,7,9,10,11,12,29,30,31,47,48,49],body:=(q [w 3 (.bx v0 4),w 4 (.bx v1 2),x 5 (.i 0)] [] (.seq (q [h 4 v3,u (.ca N.eU 0 [] [.l 0]),x 6 l0] [] (.ite [m v6,u (.bin .neq l0 (.i 0))] [] 0 (q [m v6,x 5 l0] [] .ret) .skip)) (.seq (.ite [h 4 v3,h 2 v4,u (.ca N.c9 0 [] [.l 1,.l 0]),u (.un .not l0)] [] 0 (q [x 5 (.i 21)] [] .ret) .skip) (.seq (.ite [m v2,u (.ln l0),f 0 v3,f 0 l0,g l0,u (.ln l0),u (.bin .neq l4 l0)] [] 0 (q [x 5 (.i 11)] [] .ret) .skip) (.seq (q [x 11 v2,w 12 (.ln l0),x 13 (.i 0)] [] (.blk 0 K.xP)) (q [f 0 v3,h 2 l0,u (.ca N.cJ 0 [] [.l 0]),x 8 l0] [] (.seq (q [f 0 v3,f 0 l0,w 14 (.ld l0 1 false),w 15 (.ln l0),x 16 (.i 0)] [] (.blk 2 K.xQ)) (q [x 5 (.i 0)] [] .ret)))))))),res:=[(5,none)]}
def eI:C:= (.seq (.ite [m v8,m v6,u (.bin .lss l1 l0),m l0,e 0 true v2,e 1 true v0,e 2 true v5,e 3 true v8,y 4 true (.bin .mul l1 l0),y 5 true (.bin .add l3 l0),y 6 true (.cw l5 0 [] [.l 0]),y 7 true (.un .not l0),u (.pk l8 l0 (.b false))] [] 0 .skip (.exit 0)) (.seq (.blk 1 (.reg [m v8,x 7 l0] [])) (.reg [m v8,u (.bin .mul l0 (.i 2)),x 8 l0] [])))
def pq:C:= .loop true [1,3,4,9] K.eI
def eJ:C:= (.seq (.ite [m v7,u (.bin .add l0 (.i 1)),m v8,u (.bin .lss l1 l0)] [] 0 .skip (.exit 2)) (.blk 3 (q [m v7,m v8,m v7,u (.bin .sub l1 l0),u (.bin .quo l0 (.i 2)),u (.bin .add l4 l0),x 9 l0] [] (.ite [m v2,m v0,m v5,m v9,u (.bin .mul l1 l0),u (.bin .add l3 l0),u (.cw l5 0 [] [.l 0])] [] 0 (.reg [m v9,x 8 l0] []) (.reg [m v9,x 7 l0] [])))))
def pv:C:= .loop true [1,3,4,6,9] K.eJ
def bA:Fn:= { aq:=3,vars:=[0,1,2,6,7,8,9,10,11,12],body:=(q [x 3 (.i 0),x 4 (.b false)] [] (.seq (.ite [m v2,m v0,u (.cw l1 0 [] [.l 0])] [] 0 (q [m v0,x 3 l0,x 4 (.b true)] [] .ret) .skip) (q [m v0,u (.bin .sub (.i 70368744177664) l0),x 5 (.i 1),x 6 l1] [] (.seq (.ite [m v1,u (.un .not l0)] [] 0 (.reg [m v0,u (.bin .add l0 (.i 70368744177664)),w 5 (.mv (.i (-1))),x 6 l1] []) .skip) (q [x 7 (.i 0),x 8 (.i 1)] [] (.seq (.blk 0 K.pq) (.seq (.ite [m v8,m v6,u (.bin .geq l1 l0)] [] 0 (q [m v6,x 8 l0] [] (.ite [m v6,m v7,u (.bin .leq l1 l0),m l0,e 0 false v2,e 1 false v0,e 2 false v5,e 3 false v6,y 4 false (.bin .mul l1 l0),y 5 false (.bin .add l3 l0),y 6 false (.cw l5 0 [] [.l 0]),y 7 false (.un .not l0),u (.pk l8 (.b true) l0)] [] 0 (q [x 3 (.i 0),x 4 (.b false)] [] .ret) .skip)) .skip) (.seq (.blk 2 K.pv) (q [m v0,m v5,m v8,u (.bin .mul l1 l0),u (.bin .add l3 l0),x 3 l0,x 4 (.b true)] [] .ret))))))))),res:=[(3,none),(4,none)]}
def bG:Fn:= { aq:=4,vars:=[0,1,2,3,5],body:=(q [x 4 (.b false)] [] (q [g v1,g v2,m v0,a 1 l2 l1,u (.st l0 l1 1 [])] [] (q [h 2 v3,g v1,g v2,u (.ca N.bV 0 [1] [.l 2,.l 1,.l 0]),u (.bin .leq l0 (.i 0)),x 4 l0] [] .ret))),res:=[(4,none)]}
def b8:Fn:= { aq:=4,vars:=[0,1,2,3,5],body:=(q [x 4 (.b false)] [] (q [g v1,g v2,m v0,a 1 l2 l1,u (.st l0 l1 1 [])] [] (q [h 2 v3,g v1,g v2,u (.ca N.cB 0 [1] [.l 2,.l 1,.l 0]),u (.bin .geq l0 (.i 0)),x 4 l0] [] .ret))),res:=[(4,none)]}
def qB:C:= (.its [u (.bin .lss v15 v14)] [] 0 .skip (.exit 0) (.seq (.blk 1 (q [a 10 v13 v15,h 10 l0,w 5 (.al [z0,z0,z0,z0,z1,z1,z0,z0,z0,z0] []),u (.st l0 l1 10 [])] [] (.ite [f 5 v5,g l0,u (.un .not l0)] [] 0 (q [m v4,f 0 v5,g l0,m v4,f 0 v5,g l0,a 1 l2 l0,g l0,f 1 v5,g l0,u (.bs [.l 0] 1),u (.app l3 l0 true 1),a 1 l11 l9,u (.st l0 l1 1 [])] [(2,11),(2,12),(5,11),(6,11),(7,11)] (.reg [m v4,f 1 v5,g l0,m v4,f 1 v5,g l0,a 1 l2 l0,g l0,f 0 v5,g l0,u (.bs [.l 0] 1),u (.app l3 l0 true 1),a 1 l11 l9,u (.st l0 l1 1 [])] [(2,11),(2,12),(5,11),(6,11),(7,11)])) .skip))) (.reg [u (.bin .add v15 (.i 1)),x 15 l0] [])))
def BW:C:= .loop true [0,2,3,5,6,7,8,9,10,11,12,16,17,18,19,20,21,22] K.qB
def ua:C:= (.its [u (.bin .lss v17 v16)] [] 0 .skip (.exit 2) (.seq (.blk 3 (q [m v17,x 7 l0] [] (.reg [m v6,m v7,a 1 l1 l0,u (.st l0 (.i (-1)) 1 [])] []))) (.reg [u (.bin .add v17 (.i 1)),x 17 l0] [])))
def BX:C:= .loop true [0,1,2,3,5,7,8,9,10,11,12,13,14,15,18,19,20,21,22] K.ua
def oH:C:= (.its [u (.bin .lss v22 v21)] [] 0 .skip (.exit 8) (.seq (.blk 9 (q [a 1 v20 v22,g l0,x 12 l0] [] (.ite [m v6,m v12,a 1 l1 l0,g l0,u (.bin .lss l0 (.i 0))] [] 0 (q [m v6,m v12,m v8,a 1 l2 l1,u (.st l0 l1 1 [])] [] (.reg [m v10,m v12,u (.bs [.l 0] 1),u (.app l2 l0 true 1),x 10 l0] [])) .skip))) (.reg [u (.bin .add v22 (.i 1)),x 22 l0] [])))
def BZ:C:= .loop true [0,1,2,3,5,7,9,11,12,13,14,15,16,17] K.oH
def uc:C:= (.seq (.ite [m v10,u (.ln l0),u (.bin .gtr l0 (.i 0))] [] 0 .skip (.exit 6)) (.blk 7 (q [m v10,m v10,u (.ln l0),u (.bin .sub l0 (.i 1)),a 1 l3 l0,g l0,x 11 l0] [] (q [m v10,m v10,u (.ln l0),u (.bin .sub l0 (.i 1)),u (.pop l3 l0),x 10 l0] [] (q [m v4,m v11,a 1 l1 l0,w 20 (.ld l0 1 false),w 21 (.ln l0),x 22 (.i 0)] [] (.blk 8 K.BZ))))))
def B0:C:= .loop true [0,1,2,3,5,7,9,11,12,13,14,15,16,17,20,21,22] K.uc
def qC:C:= (.its [u (.bin .lss v19 v18)] [] 0 .skip (.exit 4) (.seq (.blk 5 (q [m v19,x 9 l0] [] (.seq (.ite [m v6,m v9,a 1 l1 l0,g l0,u (.bin .geq l0 (.i 0))] [] 0 (.exit 5) .skip) (q [m v6,m v9,m v8,a 1 l2 l1,u (.st l0 l1 1 [])] [] (.seq (q [m v9,u (.bsr [.l 0] 1),x 10 l0] [] (.blk 6 K.B0)) (.reg [m v8,u (.bin .add l0 (.i 1)),x 8 l0] [])))))) (.reg [u (.bin .add v19 (.i 1)),x 19 l0] [])))
def B1:C:= .loop true [0,1,2,3,5,7,9,10,11,12,13,14,15,16,17,20,21,22] K.qC
def mN:Fn:= { aq:=1,vars:=[0,1,2,3,4,6,7,8,9,10,11,12,14,20,21,22,61,62,70,71,102,103,104],body:=(q [w 1 (.bx v0 2),w 2 (.mv (.c (.nil))),x 3 (.i 0)] [] (q [f 0 v1,g l0,u (.ln l0),u (.mkw l0 6 1),x 4 l0] [] (.seq (q [f 1 v1,w 13 (.ld l0 1 false),w 14 (.ln l0),x 15 (.i 0)] [] (.blk 0 K.BW)) (q [f 0 v1,g l0,u (.ln l0),u (.mk l0 (z0) 1),x 6 l0] [] (.seq (q [m v6,w 16 (.ln l0),x 17 (.i 0)] [] (.blk 2 K.BX)) (q [x 8 (.i 0)] [] (.seq (q [m v6,w 18 (.ln l0),x 19 (.i 0)] [] (.blk 4 K.B1)) (q [m v6,m v8,x 2 l1,x 3 l1] [] .ret)))))))),res:=[(2,none),(3,none)]}
end Go.Ev.K
namespace Go.Ev
class fy [Lib]:Prop where
 wj:Lib.fs N.ku=some K.ku
 rR:Lib.fs N.gM=some K.gM
 rS:Lib.fs N.iF=some K.iF
 q8:Lib.fs N.fw=some K.fw
 sk:Lib.fs N.cJ=some K.cJ
 sm:Lib.fs N.eV=some K.eV
 kC:Lib.fs N.bo=some K.bo
 kf:Lib.fs N.bg=some K.bg
 ud:Lib.fs N.eH=some K.eH
 mO:Lib.fs N.dt=some K.dt
 kD:Lib.fs N.bK=some K.bK
 nu:Lib.fs N.cA=some K.cA
 me:Lib.fs N.cB=some K.cB
 kJ:Lib.fs N.bV=some K.bV
 ue:Lib.fs N.jo=some K.jo
 yq:Lib.fs N.lI=some K.lI
 nv:Lib.fs N.bW=some K.bW
 uf:Lib.fs N.fe=some K.fe
 ug:Lib.fs N.jq=some K.jq
 cm:Lib.fs N.bA=some K.bA
 jJ:Lib.fs N.bG=some K.bG
 lK:Lib.fs N.b8=some K.b8
 yr:Lib.fs N.mN=some K.mN
namespace K
variable [Lib] [fy]
theorem wj:Lib.fs N.ku=some K.ku:=fy.wj
theorem rR:Lib.fs N.gM=some K.gM:=fy.rR
theorem rS:Lib.fs N.iF=some K.iF:=fy.rS
theorem q8:Lib.fs N.fw=some K.fw:=fy.q8
theorem sk:Lib.fs N.cJ=some K.cJ:=fy.sk
theorem sm:Lib.fs N.eV=some K.eV:=fy.sm
theorem kC:Lib.fs N.bo=some K.bo:=fy.kC
theorem kf:Lib.fs N.bg=some K.bg:=fy.kf
theorem ud:Lib.fs N.eH=some K.eH:=fy.ud
theorem mO:Lib.fs N.dt=some K.dt:=fy.mO
theorem kD:Lib.fs N.bK=some K.bK:=fy.kD
theorem nu:Lib.fs N.cA=some K.cA:=fy.nu
theorem me:Lib.fs N.cB=some K.cB:=fy.me
theorem kJ:Lib.fs N.bV=some K.bV:=fy.kJ
theorem ue:Lib.fs N.jo=some K.jo:=fy.ue
theorem yq:Lib.fs N.lI=some K.lI:=fy.yq
theorem nv:Lib.fs N.bW=some K.bW:=fy.nv
theorem uf:Lib.fs N.fe=some K.fe:=fy.uf
theorem ug:Lib.fs N.jq=some K.jq:=fy.ug
theorem cm:Lib.fs N.bA=some K.bA:=fy.cm
theorem jJ:Lib.fs N.bG=some K.bG:=fy.jJ
theorem lK:Lib.fs N.b8=some K.b8:=fy.lK
theorem yr:Lib.fs N.mN=some K.mN:=fy.yr
end K
end Go.Ev
namespace Go.Ev.K
open Go.Ev
def kE:C:= (.seq (.ite [m v3,m v0,u (.ln l0),u (.bin .lss l2 l0)] [] 0 .skip (.exit 0)) (.seq (.blk 1 (.reg [m v2,m v0,m v3,a 1 l1 l0,g l0,u (.mn [.l 4,.l 0]),x 2 l0] [])) (.reg [m v3,u (.bin .add l0 (.i 1)),x 3 l0] [])))
def pV:C:= .loop true [1] K.kE
def cG:Fn:= { aq:=1,vars:=[0,2,3,4],body:=(q [x 1 (.i 0)] [] (.seq (.ite [m v0,u (.ln l0),u (.bin .lss l0 (.i 1))] [] 0 .fail .skip) (q [m v0,a 1 l0 (.i 0),g l0,x 2 l0] [] (.seq (q [x 3 (.i 1)] [] (.blk 0 K.pV)) (q [m v2,x 1 l0] [] .ret))))),res:=[(1,none)]}
def kF:C:= (.seq (.ite [m v3,m v0,u (.ln l0),u (.bin .lss l2 l0)] [] 0 .skip (.exit 0)) (.seq (.blk 1 (.reg [m v2,m v0,m v3,a 1 l1 l0,g l0,u (.mx [.l 4,.l 0]),x 2 l0] [])) (.reg [m v3,u (.bin .add l0 (.i 1)),x 3 l0] [])))
def pW:C:= .loop true [1] K.kF
def cH:Fn:= { aq:=1,vars:=[0,2,3,4],body:=(q [x 1 (.i 0)] [] (.seq (.ite [m v0,u (.ln l0),u (.bin .lss l0 (.i 1))] [] 0 .fail .skip) (q [m v0,a 1 l0 (.i 0),g l0,x 2 l0] [] (.seq (q [x 3 (.i 1)] [] (.blk 0 K.pW)) (q [m v2,x 1 l0] [] .ret))))),res:=[(1,none)]}
def lV:Fn:= { aq:=3,vars:=[0,1,2,3,6,7,8,9],body:=(q [w 3 (.bx v0 4),w 4 (.al [z0,z0] [])] [] (.seq (q [x 7 v1] [] (.blk 0 (.ite [u (.bin .eql v7 (.i 1)),m l0] [] 0 (q [h 4 v3,f 1 v3,g l0,m v2,u (.ca N.jc 0 [] [.l 3,.l 1,.l 0]),u (.st v4 l0 2 [])] [] .ret) (.ite [u (.bin .eql v7 (.i 2)),m l0] [] 0 (q [h 4 v3,f 1 v3,g l0,u (.un .not l0),m v2,u (.ca N.jc 0 [] [.l 4,.l 1,.l 0]),u (.st v4 l0 2 [])] [] .ret) (.ite [u (.bin .eql v7 (.i (-1))),m l0] [] 0 (q [w 5 (.al [z0,z0] []),w 6 (.al [z0,z0] []),h 4 v3,m v2,u (.ca N.jc 0 [] [.l 1,.b false,.l 0]),h 4 v3,m v2,u (.ca N.jc 0 [] [.l 1,.b true,.l 0]),u (.st l7 l3 2 []),u (.st l7 l1 2 [])] [(0,5),(0,8),(1,5),(1,8),(5,2)] (q [f 0 v5,g l0,f 0 v6,g l0,u (.mn [.i 0,.l 2,.l 0]),f 1 v5,g l0,f 1 v6,g l0,u (.mx [.i 0,.l 2,.l 0]),u (.bd [z0,z0] [(0,1,.l 5),(1,1,.l 0)]),u (.st v4 l0 2 [])] [] .ret)) .skip))))) (q [u (.bd [z0,z0] []),u (.st v4 l0 2 [])] [] .ret))),res:=[(4,some (2,true))]}
def fY:Fn:= { aq:=2,vars:=[0,1,4,5],body:=(q [x 2 (.i 0)] [] (q [m v0,m v1,u (.bin .quo l1 l0),x 3 l0] [] (.seq (.ite [m v0,m v1,u (.bin .rem l1 l0),u (.bin .lss l0 (.i 0))] [] 0 (.reg [m v3,u (.bin .sub l0 (.i 1)),x 3 l0] []) .skip) (q [m v3,x 2 l0] [] .ret)))),res:=[(2,none)]}
def kv:Fn:= { aq:=2,vars:=[0,1,4],body:=(q [x 2 (.i 0)] [] (q [m v0,u (.un .neg l0),m v1,u (.ca N.fY 0 [] [.l 1,.l 0]),u (.un .neg l0),x 2 l0] [] .ret)),res:=[(2,none)]}
def jc:Fn:= { aq:=3,vars:=[0,1,2,3,6,7],body:=(q [w 3 (.bx v0 4),w 4 (.al [z0,z0] [])] [] (.seq (.ite [m v1,u (.un .not l0)] [] 0 (q [h 4 v3,m v2,u (.ca N.jG 0 [] [.l 1,.l 0]),u (.st v4 l0 2 [])] [] .ret) .skip) (q [h 4 v3,m v2,u (.un .neg l0),u (.ca N.jG 0 [] [.l 2,.l 0]),w 5 (.al [z0,z0] []),u (.st l0 l1 2 [])] [] (q [f 1 v5,g l0,u (.un .neg l0),f 0 v5,g l0,u (.un .neg l0),u (.bd [z0,z0] [(0,1,.l 3),(1,1,.l 0)]),u (.st v4 l0 2 [])] [] .ret)))),res:=[(4,some (2,true))]}
def qD:C:= (.seq (.ite [m v6,f 3 v2,g l0,u (.ln l0),u (.bin .lss l3 l0)] [] 0 .skip (.exit 0)) (.seq (.blk 1 (.ite [m v1,f 3 v2,g l0,m v6,a 2 l1 l0,f 0 l0,g l0,u (.bin .leq l6 l0)] [] 0 (q [f 3 v2,g l0,m v6,u (.bin .sub l0 (.i 1)),a 2 l2 l0,h 2 l0,f 3 v2,g l0,m v6,a 2 l1 l0,h 2 l0,m v1,u (.ca N.gZ 0 [] [.l 6,.l 1,.l 0]),u (.st v3 l0 2 [])] [] .ret) .skip)) (.reg [m v6,u (.bin .add l0 (.i 1)),x 6 l0] [])))
def B2:C:= .loop true [0,4] K.qD
def jG:Fn:= { aq:=2,vars:=[0,1,2,4,5,6,7],body:=(q [w 2 (.bx v0 4),w 3 (.al [z0,z0] [])] [] (q [w 4 (.al [z0,z0] []),w 5 (.al [z0,z0] []),f 3 v2,g l0,a 2 l0 (.i 0),h 2 l0,f 3 v2,g l0,f 3 v2,g l0,u (.ln l0),u (.bin .sub l0 (.i 1)),a 2 l4 l0,h 2 l0,u (.st (.l 13) l8 2 []),u (.st (.l 13) l1 2 [])] [(7,15),(9,15),(12,15),(13,15)] (.seq (.ite [m v1,f 0 v4,g l0,u (.bin .leq l2 l0)] [] 0 (q [f 1 v4,g l0,f 1 v4,g l0,u (.bd [z0,z0] [(0,1,.l 2),(1,1,.l 0)]),u (.st v3 l0 2 [])] [] .ret) .skip) (.seq (q [x 6 (.i 1)] [] (.blk 0 K.B2)) (q [f 1 v5,g l0,f 1 v5,g l0,u (.bd [z0,z0] [(0,1,.l 2),(1,1,.l 0)]),u (.st v3 l0 2 [])] [] .ret))))),res:=[(3,some (2,true))]}
def gZ:Fn:= { aq:=3,vars:=[0,1,2,3,4,6,7,8,9,10,11],body:=(q [w 3 (.bx v0 2),w 4 (.bx v1 2),w 5 (.al [z0,z0] [])] [] (q [f 1 v3,g l0,f 1 v4,g l0,u (.bin .sub l2 l0),u (.cv .u64 l0),m v2,f 0 v3,g l0,u (.bin .sub l2 l0),u (.cv .u64 l0),u (.ca N.ct 0 [] [.l 5,.l 0]),m l0,u (.ex l0 0),u (.ex l1 1),x 6 l1,x 7 l1] [] (q [m v6,m v7,f 0 v4,g l0,f 0 v3,g l0,u (.bin .sub l2 l0),u (.cv .u64 l0),u (.ca N.dD 0 [] [.l 7,.l 6,.l 0]),m l0,u (.ex l0 0),u (.ex l1 1),x 8 l1,x 9 l1] [] (q [f 1 v3,g l0,m v8,u (.cv .i64 l0),u (.bin .sub l2 l0),f 1 v3,g l0,m v8,u (.cv .i64 l0),u (.bin .sub l2 l0),u (.bd [z0,z0] [(0,1,.l 5),(1,1,.l 0)]),w 10 (.al [z0,z0] []),u (.st l0 l1 2 [])] [] (.seq (.ite [m v9,u (.bin .gtr l0 (.c (.t (.int .u64 (0)))))] [] 0 (.reg [f 0 v10,g l0,u (.bin .sub l0 (.i 1)),f 0 v10,u (.st l0 l1 1 [])] []) .skip) (q [h 2 v10,u (.st v5 l0 2 [])] [] .ret)))))),res:=[(5,some (2,true))]}
def yu:C:= (.seq (.ite [m v12,u (.bin .geq l0 (.c (.t (.int .u64 (4294967296))))),m l0,e 0 false v12,e 1 false v7,y 2 false (.bin .mul l1 l0),e 3 false v13,y 4 false (.bin .mul (.c (.t (.int .u64 (4294967296)))) l0),e 5 false v10,y 6 false (.bin .add l1 l0),y 7 false (.bin .gtr l4 l0),u (.pk l8 (.b true) l0)] [] 0 .skip (.exit 0)) (.blk 1 (q [m v12,u (.bin .sub l0 (.c (.t (.int .u64 (1))))),x 12 l0] [] (q [m v13,m v6,u (.bin .add l1 l0),x 13 l0] [] (.ite [m v13,u (.bin .geq l0 (.c (.t (.int .u64 (4294967296)))))] [] 0 (.exit 0) .skip)))))
def zP:C:= .loop true [0,1,3,4,9,14,15] K.yu
def yv:C:= (.seq (.ite [m v15,u (.bin .geq l0 (.c (.t (.int .u64 (4294967296))))),m l0,e 0 false v15,e 1 false v7,y 2 false (.bin .mul l1 l0),e 3 false v13,y 4 false (.bin .mul (.c (.t (.int .u64 (4294967296)))) l0),e 5 false v11,y 6 false (.bin .add l1 l0),y 7 false (.bin .gtr l4 l0),u (.pk l8 (.b true) l0)] [] 0 .skip (.exit 2)) (.blk 3 (q [m v15,u (.bin .sub l0 (.c (.t (.int .u64 (1))))),x 15 l0] [] (q [m v13,m v6,u (.bin .add l1 l0),x 13 l0] [] (.ite [m v13,u (.bin .geq l0 (.c (.t (.int .u64 (4294967296)))))] [] 0 (.exit 2) .skip)))))
def zQ:C:= .loop true [0,1,3,4,8,9,10] K.yv
def dD:Fn:= { aq:=3,vars:=[0,1,2,6,7,8,9,10,11,12,13,14,15,16,17,18],body:=(q [w 3 (.mv (.c (.t (.int .u64 (0))))),w 4 (.mv (.c (.t (.int .u64 (0)))))] [] (.seq (.ite [m v2,u (.bin .eql l0 (.c (.t (.int .u64 (0)))))] [] 0 .fail .skip) (.seq (.ite [m v2,m v0,u (.bin .leq l1 l0)] [] 0 .fail .skip) (.seq (.ite [m v0,u (.bin .eql l0 (.c (.t (.int .u64 (0)))))] [] 0 (q [m v1,m v2,u (.bin .quo l1 l0),m v1,m v2,u (.bin .rem l1 l0),x 3 l3,x 4 l1] [] .ret) .skip) (q [m v2,u (.ca N.bS 0 [] [.l 0]),u (.cv .u64 l0),x 5 l0] [] (q [m v2,m v5,u (.bin .shl l1 l0),x 2 l0] [] (q [m v2,u (.bin .shr l0 (.c (.t (.int .u64 (32))))),x 6 l0] [] (q [m v2,u (.bin .and l0 (.c (.t (.int .u64 (4294967295))))),x 7 l0] [] (q [m v0,m v5,u (.bin .shl l1 l0),m v1,m v5,u (.bin .sub (.c (.t (.int .u64 (64)))) l0),u (.bin .shr l2 l0),u (.bin .or l4 l0),x 8 l0] [] (q [m v1,m v5,u (.bin .shl l1 l0),x 9 l0] [] (q [m v9,u (.bin .shr l0 (.c (.t (.int .u64 (32))))),x 10 l0] [] (q [m v9,u (.bin .and l0 (.c (.t (.int .u64 (4294967295))))),x 11 l0] [] (q [m v8,m v6,u (.bin .quo l1 l0),x 12 l0] [] (q [m v8,m v12,m v6,u (.bin .mul l1 l0),u (.bin .sub l3 l0),x 13 l0] [] (.seq (.blk 0 K.zP) (q [m v8,u (.bin .mul l0 (.c (.t (.int .u64 (4294967296))))),m v10,u (.bin .add l1 l0),m v12,m v2,u (.bin .mul l1 l0),u (.bin .sub l3 l0),x 14 l0] [] (q [m v14,m v6,u (.bin .quo l1 l0),x 15 l0] [] (q [m v14,m v15,m v6,u (.bin .mul l1 l0),u (.bin .sub l3 l0),x 13 l0] [] (.seq (.blk 2 K.zQ) (q [m v12,u (.bin .mul l0 (.c (.t (.int .u64 (4294967296))))),m v15,u (.bin .add l1 l0),m v14,u (.bin .mul l0 (.c (.t (.int .u64 (4294967296))))),m v11,u (.bin .add l1 l0),m v15,m v2,u (.bin .mul l1 l0),u (.bin .sub l3 l0),m v5,u (.bin .shr l1 l0),x 3 l10,x 4 l1] [] .ret)))))))))))))))))))),res:=[(3,none),(4,none)]}
def bS:Fn:= { aq:=1,vars:=[2],body:= .fail,res:=[(0,none)]}
end Go.Ev.K
namespace Go.Ev
class jK [Lib]:Prop where
 mD:Lib.fs N.cG=some K.cG
 mE:Lib.fs N.cH=some K.cH
 AO:Lib.fs N.lV=some K.lV
 uh:Lib.fs N.fY=some K.fY
 wk:Lib.fs N.kv=some K.kv
 yw:Lib.fs N.jc=some K.jc
 yx:Lib.fs N.jG=some K.jG
 ui:Lib.fs N.gZ=some K.gZ
 pw:Lib.fs N.dD=some K.dD
 mw:Lib.fs N.bS=some K.bS
namespace K
variable [Lib] [jK]
theorem mD:Lib.fs N.cG=some K.cG:=jK.mD
theorem mE:Lib.fs N.cH=some K.cH:=jK.mE
theorem AO:Lib.fs N.lV=some K.lV:=jK.AO
theorem uh:Lib.fs N.fY=some K.fY:=jK.uh
theorem wk:Lib.fs N.kv=some K.kv:=jK.wk
theorem yw:Lib.fs N.jc=some K.jc:=jK.yw
theorem yx:Lib.fs N.jG=some K.jG:=jK.yx
theorem ui:Lib.fs N.gZ=some K.gZ:=jK.ui
theorem pw:Lib.fs N.dD=some K.dD:=jK.pw
theorem mw:Lib.fs N.bS=some K.bS:=jK.mw
end K
end Go.Ev
namespace Go.Ev
open Go
variable [Lib] [cr] [bZ] [eM] [dT] [gK] [dJ] [dV] [fN] [fy] [jK]
structure Cod where
 L:List Int
 at_:Nat
abbrev tU(l:List Int):T:= .sl (l.map (T.int .u8))
def Cod.obj(c:Cod):Obj:= .box [.t (tU c.L),I c.at_]
def Cod.ok(c:Cod):Prop:=c.L.length≤300∧∀x∈c.L,0≤x∧x<256
def Cod.next(c:Cod)(n:Int):Int×Cod:=
 if n<1 then(0,c)else if c.L.length≤c.at_ then(0,c)
 else if 256<n then(if c.at_+1<c.L.length then((nth c.L c.at_*256+nth c.L (c.at_+1)).tmod n,⟨c.L,c.at_+2⟩)else((nth c.L c.at_).tmod n,⟨c.L,c.at_+1⟩))
 else((nth c.L c.at_).tmod n,⟨c.L,c.at_+1⟩)
@[go_sem] theorem anU (d : Cod) : Gg (some d.obj) = [] := by simp only [Cod.obj, go_sem]
@[go_sem] theorem anV (f : Nat → Option Nat) (d : Cod) : jB f d.obj = some d.obj := by simp only [Cod.obj, go_sem]
@[go_sem] theorem anW (k : Nat) (d : Cod) (r : af) : cf k (d.obj :: r) = cf k r := by simp only [Cod.obj, go_sem]
theorem apl{l:List Int}{k:Nat}(h:k<l.length):(l.map (T.int .u8))[k]?=some (.int .u8 (nth l k)):=by
 rw[aLn,CR h];rfl
theorem Vi(c:Cod)(hc:c.ok)(n:Int)(hn:n≤1000000):bL 0 N.ax [.bp 0 0,I n] [c.obj]=some (I (c.next n).1,[(c.next n).2.obj]):=by
 refine aI K.pd rfl ?_
 obtain⟨hl,hb⟩:=hc
 unfold Cod.next
 obtain⟨L,a⟩:=c
 simp only[Cod.obj]at*
 by_cases c1:n<1
 · simp(disch:=omega)only[go_sem,K.ax,↓reduceIte,c1,reduceAdd,reduceSub]
 · by_cases c2:L.length≤a
   · have c2':(L.length:Int)≤a:=by omega
     simp(disch:=omega)only[go_sem,K.ax,↓reduceIte,c1,c2,c2',reduceAdd,reduceSub]
   · have c2':¬(L.length:Int)≤a:=by omega
     have b1:=hb _ (ak (l:=L) (j:=a) (by omega))
     have e1:=apl (l:=L) (k:=a) (by omega)
     have a1:(a:Int)+1-1=a:=by omega
     have t1:((a:Int)+1).toNat=a+1:=by omega
     generalize nth L a=x at*
     by_cases c3:256<n
     · by_cases c4:a+1<L.length
       · have c4':(a:Int)+1<L.length:=by omega
         have b2:=hb _ (ak (l:=L) (j:=a+1) (by omega))
         have e2:=apl (l:=L) (k:=a+1) (by omega)
         generalize nth L (a+1)=y at*
         simp(disch:=omega)only[go_sem,K.ax,↓reduceIte,c1,c2,c2',c3,c4,c4',e1,e2,a1,t1,reduceAdd,reduceSub]<;>simp only[Int.add_assoc,Int.reduceAdd]
       · have c4':¬(a:Int)+1<L.length:=by omega
         simp(disch:=omega)only[go_sem,K.ax,↓reduceIte,c1,c2,c2',c3,c4,c4',e1,a1,reduceAdd,reduceSub]
     · simp(disch:=omega)only[go_sem,K.ax,↓reduceIte,c1,c2,c2',c3,e1,a1,reduceAdd,reduceSub]
theorem hU{c:Cod}(hc:c.ok)(n:Int)(hn:n≤1000000):
 ∃(v:Int) (d:Cod),bL 0 N.ax [.bp 0 0,I n] [c.obj]=some (I v,[d.obj])∧d.ok∧(1≤n→0≤v∧v<n)∧(n<1→v=0):=by
 refine⟨_,_,Vi c hc n hn,?_,?_,?_⟩
 · unfold Cod.next
   split
   · exact hc
   split
   · exact hc
   split
   · split<;>exact hc
   · exact hc
 · intro h1
   unfold Cod.next
   rw[if_neg (by omega)]
   split
   · simp only;omega
   · rename_i h2
     have b1:=hc.2 _ (ak (l:=c.L) (j:=c.at_) (by omega))
     split
     · split
       · rename_i h3 h4
         have b2:=hc.2 _ (ak (l:=c.L) (j:=c.at_+1) (by omega))
         exact⟨Int.tmod_nonneg _ (by omega),Int.tmod_lt_of_pos _ (by omega)⟩
       · exact⟨Int.tmod_nonneg _ (by omega),Int.tmod_lt_of_pos _ (by omega)⟩
     · exact⟨Int.tmod_nonneg _ (by omega),Int.tmod_lt_of_pos _ (by omega)⟩
 · intro h1
   unfold Cod.next
   rw[if_pos h1]
theorem D8{c:Cod}(hc:c.ok)(n:Int)(h0:0≤n)(hn:n≤1000000):
 ∃(v:Bool) (d:Cod),bL 0 N.bU [.bp 0 0,I n] [c.obj]=some (B v,[d.obj])∧d.ok:=by
 obtain⟨v,d,e,hd, -, -⟩:=hU hc n hn
 refine⟨decide (v=n-1),d,aI K.qg rfl ?_,hd⟩
 simp(disch:=omega)only[go_sem,K.bU,↓reduceIte,e,reduceAdd,reduceSub]
theorem mV{c:Cod}(hc:c.ok)(lo hi:Int)(h:lo≤hi)(h1: -10000≤lo)(h2:hi≤10000):
 ∃(v:Int) (d:Cod),bL 0 N.aW [.bp 0 0,I lo,I hi] [c.obj]=some (I v,[d.obj])∧d.ok∧lo≤v∧v≤hi:=by
 obtain⟨v,d,e,hd,v0, -⟩:=hU hc (hi-lo+1) (by omega)
 have v0:=v0 (by omega)
 refine⟨lo+v,d,aI K.oC rfl ?_,hd,by omega,by omega⟩
 simp(disch:=omega)only[go_sem,K.aW,↓reduceIte,e,reduceAdd,reduceSub]
structure Road.drawn(r:Road)(a b:Int):Prop where
 f:r.frm=a
 t:r.to=b
 l:1≤r.len∧r.len≤400
 a:4≤r.area∧r.area≤30
 r0:1≤r.restL∧r.restL≤20
 r1:r.restL≤r.restH∧r.restH≤r.restL+2
 i0: -300≤r.liftL∧r.liftL≤300
 i1:r.liftL≤r.liftH∧r.liftH≤r.liftL+19
theorem RR{c:Cod}(hc:c.ok)(a b:Int):
 ∃(r:Road) (d:Cod),bL 0 N.cZ [.bp 0 0,I a,I b] [c.obj]=some (.t r.e,[d.obj])∧d.ok∧r.drawn a b∧r.closed=false:=by
 obtain⟨v1,c1,e1,h1,a1,b1⟩:=mV hc 1 400 (by omega) (by omega) (by omega)
 obtain⟨v2,c2,e2,h2,a2,b2⟩:=mV h1 4 30 (by omega) (by omega) (by omega)
 obtain⟨v3,c3,e3,h3, -, -⟩:=hU h2 4 (by omega)
 obtain⟨v4,c4,e4,h4,a4,b4⟩:=mV h3 1 20 (by omega) (by omega) (by omega)
 obtain⟨v5,c5,e5,h5,b5, -⟩:=hU h4 3 (by omega)
 obtain⟨v6,c6,e6,h6,a6,b6⟩:=mV h5 (-300) 300 (by omega) (by omega) (by omega)
 obtain⟨v7,c7,e7,h7,b7, -⟩:=hU h6 20 (by omega)
 have b5:=b5 (by omega)
 have b7:=b7 (by omega)
 refine⟨⟨a,b,v1,v2,decide (v3>0),false,v4,v4+v5,v6,v6+v7⟩,c7,aI K.pg rfl ?_,h7,⟨rfl,rfl,⟨a1,b1⟩,⟨a2,b2⟩,⟨a4,b4⟩,⟨by simp only;omega,by simp only;omega⟩,⟨a6,b6⟩,⟨by simp only;omega,by simp only;omega⟩⟩,rfl⟩
 simp(disch:=omega)only[go_sem,K.cZ,↓reduceIte,e1,e2,e3,e4,e5,e6,e7,reduceAdd,reduceSub]
theorem JA:∀(r:List Spn) (a b:Spn),xd a r→(nth (a::r) r.length).low<b.low→b.high≤(nth (a::r) r.length).high→0≤b.high→xd a (r++[b])
 | [],a,b,_,h1,h2,h3=>⟨h1,h2,h3,trivial⟩
 | x::r,a,b,h,h1,h2,h3=>⟨h.1,h.2.1,h.2.2.1,JA r x b h.2.2.2 h1 h2 h3⟩
theorem RS{l:List Spn}{k:Nat}(hl:l.length=k+1)(h:o7 l){b:Spn}(h1:(nth l k).low<b.low)(h2:b.high≤(nth l k).high)(h3:0≤b.high):o7 (l++[b]):=by
 cases l with
 | nil=>exact h.elim
 | cons a r=>
   obtain rfl:r.length=k:=by simpa using hl
   exact⟨h.1,JA r a b h.2 h1 h2 h3⟩
@[go_sem] theorem akZ (H : af) (a b : T) : K8 H 2 [.t (.agg [a, b])] = some (.ref H.length 0 1, H ++ [.arr 2 false 0 [.t (.agg [a, b])]]) := rfl
abbrev aeD(l:List Spn):Obj:= .arr 2 false 0 ((l.map Spn.e).map .t)
theorem Vj{c:Cod}(hc:c.ok):
 ∃(l:List Spn) (d:Cod),bL 0 N.de [.bp 0 0] [c.obj]=some (.t (tS l),[d.obj])∧d.ok∧o7 l∧l.length≤8∧∀p∈l, -1000≤p.low∧p.low≤1000∧0≤p.high∧p.high≤3000:=by
 obtain⟨v1,c1,e1,h1,a1,b1⟩:=mV hc (-20) 10 (by omega) (by omega) (by omega)
 obtain⟨v2,c2,e2,h2,a2,b2⟩:=mV h1 500 3000 (by omega) (by omega) (by omega)
 obtain⟨v3,c3,e3,h3,b3, -⟩:=hU h2 4 (by omega)
 have b3:=b3 (by omega)
 obtain⟨n,rfl⟩:=Int.eq_ofNat_of_zero_le b3.1
 have key:=ig (vs:=[.bp 0 0,.nil,.ref 1 0 1,I n,.und]) (H:=[c3.obj,aeD [⟨v1,v2⟩]]) (c:=K.gn) (gc:=true) (dead:=[1,4])
  (fun j st=>∃(c:Cod) (l:List Spn),st=⟨[.bp 0 0,.und,.ref 1 0 l.length,I ((n:Int)-j),.und],[c.obj,aeD l]⟩∧c.ok∧l.length=j+1∧o7 l∧∀p∈l, -20≤p.low∧p.low≤10+40*(j:Int)∧0≤p.high∧p.high≤3000) n
  (fun q=>∃(c:Cod) (l:List Spn),q=(.exit 0,⟨[.bp 0 0,.und,.ref 1 0 l.length,I 0,.und],[c.obj,aeD l]⟩)∧c.ok∧l.length≤8∧o7 l∧∀p∈l, -1000≤p.low∧p.low≤1000∧0≤p.high∧p.high≤3000)
  ⟨c3,[⟨v1,v2⟩],by simp[jg],h3,rfl,⟨by simp only;omega,trivial⟩,fun p hp=>by
   rw[List.mem_singleton.1 hp];simp only;omega⟩ ?_ ?_
 · obtain⟨q,hq,c4,l,rfl,h4,hl,hk,hb⟩:=key
   refine⟨l,c4,aI K.oD rfl ?_,h4,hk,hl,hb⟩
   rw[show(C.loop true [1,4] K.gn)=K.qV from rfl]at hq
   simp only[aeD,List.map_cons,List.map_nil]at hq
   simp(disch:=omega)only[go_sem,K.de,↓reduceIte,e1,e2,e3,hq,reduceAdd,reduceSub]
 · rintro j _ hj ⟨c,l,rfl,hc,hl,hk,hb⟩
   obtain⟨w1,d1,f1,g1,p1,q1⟩:=mV hc 1 40 (by omega) (by omega) (by omega)
   obtain⟨w2,d2,f2,g2,q2, -⟩:=hU g1 900 (by omega)
   have q2:=q2 (by omega)
   have lb:=hb _ (ak (l:=l) (j:=j) (by omega))
   have le:((l.map Spn.e).map D.t)[j]?=some (.t (nth l j).e):=cE _ _ (by omega)
   have gt:(n:Int)-j>0:=by omega
   have ix:((j:Int)+1-1)=j:=by omega
   have hl':(l.length:Int)=j+1:=by omega
   refine⟨⟨[.bp 0 0,.und,.ref 1 0 (l++[(⟨(nth l j).low+w1,max 0 ((nth l j).high-w2)⟩:Spn)]).length,I ((n:Int)-(j+1:Nat)),.und],[d2.obj,aeD (l++[⟨(nth l j).low+w1,max 0 ((nth l j).high-w2)⟩])]⟩,?_,d2,_,rfl,g2,by simp[hl],?_,?_⟩
   · have nx:(n:Int)-(j+1:Nat)=n-j-1:=by omega
     rw[nx]
     simp only[aeD,List.map_append,List.map_cons,List.map_nil,aLv,List.length_singleton]
     generalize nth l j=y at*
     obtain⟨y1,y2⟩:=y
     simp only at*
     rw[hl]
     have hl2:(j+1=l.length)=True:=eq_true hl.symm
     simp(disch:=omega)only[go_sem,K.gn,↓reduceIte,f1,f2,le,gt,ix,hl',hl2,reduceAdd,reduceSub]
   · exact RS hl hk (by simp only;omega) (by simp only;omega) (by simp only;omega)
   · intro p hp
     rcases List.mem_append.1 hp with hp | hp
     · have:=hb p hp;omega
     · rw[List.mem_singleton.1 hp];simp only;omega
 · rintro _ ⟨c,l,rfl,hc,hl,hk,hb⟩
   refine⟨_,?_,by simp,c,l,rfl,hc,by omega,hk,fun p hp=>by have:=hb p hp;omega⟩
   have z:(n:Int)-n=0:=by omega
   rw[z]
   simp(disch:=omega)only[go_sem,K.gn,↓reduceIte,reduceAdd,reduceSub]
structure lN where
 cL:Int
 other:Int
 rests:List Int
instance : Dat lN := ⟨⟨0, 0, []⟩⟩
abbrev lN.e(d:lN):T:= .agg [tI d.cL,tI d.other,tL d.rests]
structure lN.drawn(d:lN)(r:Int):Prop where
 rd:d.cL=r
 ot:d.other= -1
 l0:2≤d.rests.length
 l1:d.rests.length≤4
 bd:∀x∈d.rests,0≤x∧x≤900
 fall:∀k,k+1<d.rests.length→nth d.rests (k+1)<nth d.rests k
theorem D9{l:List Int}{x:Int}{k:Nat}(h:k<l.length):nth (l++[x]) k=nth l k:=by
 simp[nth,aLg h]
theorem RT{l:List Int}{x:Int}{k:Nat}(h:k=l.length):nth (l++[x]) k=x:=by
 subst h;simp[nth]
theorem abk{c:Cod}(hc:c.ok)(r:Int):
 ∃(x:lN) (d:Cod),bL 0 N.dC [.bp 0 0,I r] [c.obj]=some (.t x.e,[d.obj])∧d.ok∧x.drawn r:=by
 obtain⟨v1,c1,e1,h1,a1,b1⟩:=mV hc 200 900 (by omega) (by omega) (by omega)
 obtain⟨v3,c3,e3,h3,a3,b3⟩:=mV h1 1 3 (by omega) (by omega) (by omega)
 obtain⟨n,rfl⟩:=Int.eq_ofNat_of_zero_le (show 0≤v3 by omega)
 have key:=ig (vs:=[.bp 0 0,I r,.bp 1 0,.bp 3 0,I n]) (H:=[c3.obj,.box [I 0,I 0,.nil],arI [v1],.box [I r,I (-1),.ref 2 0 1],.arr 1 false 0 []]) (c:=K.hT) (gc:=true) (dead:=[1])
  (fun j st=>∃(c:Cod) (l:List Int),st=⟨[.bp 0 0,.und,.bp 1 0,.bp 3 0,I ((n:Int)-j)],[c.obj,.box [I 0,I 0,.nil],arI l,.box [I r,I (-1),.ref 2 0 l.length],.arr 1 false 0 []]⟩∧c.ok∧l.length=j+1∧(∀p∈l,200-60*(j:Int)≤p∧p≤900)∧∀k,k+1<l.length→nth l (k+1)<nth l k) n
  (fun q=>∃(c:Cod) (l:List Int),q=(.exit 0,⟨[.bp 0 0,.und,.bp 1 0,.bp 3 0,I 0],[c.obj,.box [I 0,I 0,.nil],arI l,.box [I r,I (-1),.ref 2 0 l.length],.arr 1 false 0 []]⟩)∧c.ok∧l.length=n+1∧(∀p∈l,0≤p∧p≤900)∧∀k,k+1<l.length→nth l (k+1)<nth l k)
  ⟨c3,[v1],by simp[jg],h3,rfl,fun p hp=>by rw[List.mem_singleton.1 hp];omega,fun k hk=>by simp at hk⟩ ?_ ?_
 · obtain⟨q,hq,c4,l,rfl,h4,hl,hb,hf⟩:=key
   refine⟨⟨r, -1,l⟩,c4,aI K.ph rfl ?_,h4,rfl,rfl,by simp only;omega,by simp only;omega,hb,hf⟩
   rw[show(C.loop true [1] K.hT)=K.rQ from rfl]at hq
   simp only[arI,List.map_cons,List.map_nil]at hq
   simp(disch:=omega)only[go_sem,K.dC,↓reduceIte,e1,e3,hq,reduceAdd,reduceSub]
 · rintro j _ hj ⟨c,l,rfl,hc,hl,hb,hf⟩
   obtain⟨w1,d1,f1,g1,p1,q1⟩:=mV hc 1 60 (by omega) (by omega) (by omega)
   have lb:=hb _ (ak (l:=l) (j:=j) (by omega))
   have le:((l.map (T.int .i64)).map D.t)[j]?=some (I (nth l j)):=cE _ _ (by omega)
   have gt:(n:Int)-j>0:=by omega
   have ix:((j:Int)+1-1)=j:=by omega
   have j3:(j:Int)≤2:=by omega
   refine⟨⟨[.bp 0 0,.und,.bp 1 0,.bp 3 0,I ((n:Int)-(j+1:Nat))],[d1.obj,.box [I 0,I 0,.nil],arI (l++[max 0 (nth l j-w1)]),.box [I r,I (-1),.ref 2 0 (l++[max 0 (nth l j-w1)]).length],.arr 1 false 0 []]⟩,?_,d1,_,rfl,g1,by simp[hl],?_,?_⟩
   · have nx:(n:Int)-(j+1:Nat)=n-j-1:=by omega
     rw[nx]
     simp only[arI,List.map_append,List.map_cons,List.map_nil,aLv,List.length_singleton]
     generalize nth l j=y at*
     rw[hl]
     have hl2:(j+1=l.length)=True:=eq_true hl.symm
     have hl':(l.length:Int)=j+1:=by omega
     simp(disch:=omega)only[go_sem,K.hT,↓reduceIte,f1,le,gt,ix,hl',hl2,reduceAdd,reduceSub]
   · intro p hp
     rcases List.mem_append.1 hp with hp | hp
     · have:=hb p hp;omega
     · rw[List.mem_singleton.1 hp];omega
   · intro k hk
     have hk:k+1<l.length+1:=by simpa using hk
     by_cases e:k+1=l.length
     · rw[RT e,D9 (by omega)]
       have:k=j:=by omega
       subst this
       omega
     · rw[D9 (by omega),D9 (by omega)]
       exact hf k (by omega)
 · rintro _ ⟨c,l,rfl,hc,hl,hb,hf⟩
   refine⟨_,?_,by simp,c,l,rfl,hc,hl,fun p hp=>by have:=hb p hp;omega,hf⟩
   have z:(n:Int)-n=0:=by omega
   rw[z]
   simp(disch:=omega)only[go_sem,K.hT,↓reduceIte,reduceAdd,reduceSub]
abbrev arP(l:List Place):Obj:= .arr 2 false 0 ((l.map Place.e).map .t)
abbrev arR(l:List Road):Obj:= .arr 10 false 0 ((l.map Road.e).map .t)
abbrev M7(c:Cod)(ps:List Place):af:=[c.obj,.box [.nil,.nil,.nil,.nil],.box [.nil,.nil],.box [.nil,.nil],arP ps,.box [.ref 4 0 ps.length,.ref 10 0 0,.ref 11 0 0,.ref 12 0 0],.arr 2 false 0 [],.arr 10 false 0 [],.arr 4 false 0 [],.arr 3 false 0 [],.arr 10 false 0 [],.arr 4 false 0 [],.arr 3 false 0 []]
structure PC(sh:Nat)(ps:List Place):Prop where
 le:sh≤ps.length
 up:∀i,i<sh→(nth ps i).surf=true
 dn:∀i,sh≤i→i<ps.length→(nth ps i).surf=false
 hs:∀p∈ps, -10000≤p.h∧p.h≤10000
theorem mW{α:Type} [Dat α]{l:List α}{x:α}{k:Nat}(h:k<l.length):nth (l++[x]) k=nth l k:=by
 simp[nth,aLg h]
theorem jA{α:Type} [Dat α]{l:List α}{x:α}{k:Nat}(h:k=l.length):nth (l++[x]) k=x:=by
 subst h;simp[nth]
theorem PC.app{sh:Nat}{ps:List Place}(h:PC sh ps){z:Int}(h1: -10000≤z)(h2:z≤10000):PC sh (ps++[⟨z,false⟩]):=by
 have le:=h.le
 refine⟨by simp;omega,fun i hi=>?_,fun i h3 h4=>?_,fun p hp=>?_⟩
 · rw[mW (by omega)];exact h.up i hi
 · have h4:i<ps.length+1:=by simpa using h4
   by_cases e:i=ps.length
   · rw[jA e]
   · rw[mW (by omega)];exact h.dn i h3 (by omega)
 · rcases List.mem_append.1 hp with hp | hp
   · exact h.hs p hp
   · rw[List.mem_singleton.1 hp];exact⟨h1,h2⟩
theorem Vk{c:Cod}(hc:c.ok){sh:Nat}(s1:1≤sh)(s2:sh≤2){ps:List Place}(hp:PC sh ps)(pl:ps.length=sh)(n:Nat)(hn:n≤4):
 ∃(d:Cod) (qs:List Place),d.ok∧PC sh qs∧qs.length=sh+n∧exS bL K.rL ⟨[.bp 0 0,.bp 1 0,.bp 2 0,.bp 3 0,.bp 5 0,I sh,I n,.und,.und,.und,.und,.und,.und,.und,.und,.und,.und,.und,.und],M7 c ps⟩=
  some (.exit 0,⟨[.bp 0 0,.bp 1 0,.bp 2 0,.bp 3 0,.bp 5 0,I sh,I 0,.und,.und,.und,.und,.und,.und,.und,.und,.und,.und,.und,.und],M7 d qs⟩):=by
 have key:=ig (vs:=[.bp 0 0,.bp 1 0,.bp 2 0,.bp 3 0,.bp 5 0,I sh,I n,.und,.und,.und,.und,.und,.und,.und,.und,.und,.und,.und,.und]) (H:=M7 c ps) (c:=K.kd) (gc:=true) (dead:=[7,8,9,10,11,12,13,14,15,16,17,18])
  (fun j st=>∃(c:Cod) (qs:List Place),st=⟨[.bp 0 0,.bp 1 0,.bp 2 0,.bp 3 0,.bp 5 0,I sh,I ((n:Int)-j),.und,.und,.und,.und,.und,.und,.und,.und,.und,.und,.und,.und],M7 c qs⟩∧c.ok∧qs.length=sh+j∧PC sh qs) n
  (fun q=>∃(c:Cod) (qs:List Place),q=(.exit 0,⟨[.bp 0 0,.bp 1 0,.bp 2 0,.bp 3 0,.bp 5 0,I sh,I 0,.und,.und,.und,.und,.und,.und,.und,.und,.und,.und,.und,.und],M7 c qs⟩)∧c.ok∧qs.length=sh+n∧PC sh qs)
  ⟨c,ps,by simp[jg],hc,by omega,hp⟩ ?_ ?_
 · obtain⟨q,hq,c4,l,rfl,h4,hl,hk⟩:=key
   exact⟨c4,l,h4,hk,hl,hq⟩
 · rintro j _ hj ⟨c,l,rfl,hc,hl,hk⟩
   obtain⟨w,d,f,g,q, -⟩:=hU hc 100 (by omega)
   have q:=q (by omega)
   have gt:(n:Int)-j>0:=by omega
   refine⟨⟨[.bp 0 0,.bp 1 0,.bp 2 0,.bp 3 0,.bp 5 0,I sh,I ((n:Int)-(j+1:Nat)),.und,.und,.und,.und,.und,.und,.und,.und,.und,.und,.und,.und],M7 d (l++[⟨0-w,false⟩])⟩,?_,d,_,rfl,g,by simp[hl];omega,hk.app (by omega) (by omega)⟩
   have nx:(n:Int)-(j+1:Nat)=n-j-1:=by omega
   rw[nx]
   have l6:l.length≤1000:=by omega
   simp only[M7,arP,List.map_append,List.map_cons,List.map_nil,aLv,List.length_singleton]
   simp(disch:=omega)only[go_sem,K.kd,↓reduceIte,f,gt,reduceAdd,reduceSub]
 · rintro _ ⟨c,l,rfl,hc,hl,hk⟩
   refine⟨_,?_,by simp,c,l,rfl,hc,hl,hk⟩
   have z:(n:Int)-n=0:=by omega
   rw[z]
   simp only[M7,arP]
   simp(disch:=omega)only[go_sem,K.kd,↓reduceIte,reduceAdd,reduceSub]
abbrev q9(n:Nat):List Int:=List.replicate n 0
abbrev RU(c:Cod)(ps:List Place)(pr:List Int):af:=M7 c ps++[arI pr,.box [.ref 13 0 pr.length,.ref 16 0 0],.arr 1 false 0 [],.arr 1 false 0 []]
theorem Vl{c:Cod}(hc:c.ok){sh:Nat}{ps:List Place}(np:ps.length≤6)(n:Nat)(hn:sh+n=ps.length):
 ∃(d:Cod) (pr:List Int),d.ok∧pr.length=ps.length∧(∀i,i<sh→nth pr i=0)∧(∀x∈pr, -4000≤x∧x≤4000)∧exS bL K.rM ⟨[.bp 0 0,.bp 1 0,.bp 2 0,.bp 3 0,.bp 5 0,I sh,I 0,I ps.length,.bp 14 0,I sh,.und,.und,.und,.und,.und,.und,.und,.und,.und],RU c ps (q9 ps.length)⟩=
  some (.exit 2,⟨[.bp 0 0,.bp 1 0,.bp 2 0,.bp 3 0,.bp 5 0,I sh,.und,I ps.length,.bp 14 0,I ps.length,.und,.und,.und,.und,.und,.und,.und,.und,.und],RU d ps pr⟩):=by
 have key:=ig (vs:=[.bp 0 0,.bp 1 0,.bp 2 0,.bp 3 0,.bp 5 0,I sh,I 0,I ps.length,.bp 14 0,I sh,.und,.und,.und,.und,.und,.und,.und,.und,.und]) (H:=RU c ps (q9 ps.length)) (c:=K.ke) (gc:=true) (dead:=[6,10,11,12,13,14,15,16,17,18])
  (fun j st=>∃(c:Cod) (pr:List Int),st=⟨[.bp 0 0,.bp 1 0,.bp 2 0,.bp 3 0,.bp 5 0,I sh,.und,I ps.length,.bp 14 0,I ((sh:Int)+j),.und,.und,.und,.und,.und,.und,.und,.und,.und],RU c ps pr⟩∧c.ok∧pr.length=ps.length∧(∀i,i<sh→nth pr i=0)∧(∀x∈pr, -4000≤x∧x≤4000)) n
  (fun q=>∃(c:Cod) (pr:List Int),q=(.exit 2,⟨[.bp 0 0,.bp 1 0,.bp 2 0,.bp 3 0,.bp 5 0,I sh,.und,I ps.length,.bp 14 0,I ps.length,.und,.und,.und,.und,.und,.und,.und,.und,.und],RU c ps pr⟩)∧c.ok∧pr.length=ps.length∧(∀i,i<sh→nth pr i=0)∧(∀x∈pr, -4000≤x∧x≤4000))
  ⟨c,q9 ps.length,by simp[jg],hc,by simp,fun i hi=>by simp[nth,show i<ps.length by omega],fun x hx=>by rw[List.eq_of_mem_replicate hx];omega⟩ ?_ ?_
 · obtain⟨q,hq,c4,l,rfl,h4,h5,h6,h7⟩:=key
   exact⟨c4,l,h4,h5,h6,h7,hq⟩
 · rintro j _ hj ⟨c,l,rfl,hc,h5,h6,h7⟩
   obtain⟨w,d,f,g,q1,q2⟩:=mV hc (-4000) 4000 (by omega) (by omega) (by omega)
   have gt:(sh:Int)+j<ps.length:=by omega
   refine⟨⟨[.bp 0 0,.bp 1 0,.bp 2 0,.bp 3 0,.bp 5 0,I sh,.und,I ps.length,.bp 14 0,I ((sh:Int)+(j+1:Nat)),.und,.und,.und,.und,.und,.und,.und,.und,.und],RU d ps (l.set (sh+j) w)⟩,?_,d,_,rfl,g,by simp[h5],fun i hi=>?_,fun x hx=>?_⟩
   · have nx:(sh:Int)+(j+1:Nat)=sh+j+1:=by omega
     have tn:((sh:Int)+j).toNat=sh+j:=by omega
     have ii:∀x y:Int,((l.map (T.int .i64)).map D.t)[sh+j]?=some (I (nth l (sh+j))):=fun _ _=>cE _ _ (by omega)
     have ii:=ii 0 0
     rw[nx]
     simp only[RU,M7,arI,arP,List.map_set,List.length_set,List.cons_append,List.nil_append]
     simp(disch:=omega)only[go_sem,K.ke,↓reduceIte,f,gt,tn,ii,h5,reduceAdd,reduceSub]
   · rw[bM _ _ (by omega),if_neg (by omega)];exact h6 i hi
   · rcases aLk hx with hx | rfl
     · exact h7 x hx
     · exact⟨q1,q2⟩
 · rintro _ ⟨c,l,rfl,hc,h5,h6,h7⟩
   refine⟨_,?_,by simp,c,l,rfl,hc,h5,h6,h7⟩
   have z:(sh:Int)+n=ps.length:=by omega
   rw[z]
   simp only[RU,M7,arI,arP,List.cons_append,List.nil_append]
   simp(disch:=omega)only[go_sem,K.ke,↓reduceIte,reduceAdd,reduceSub]
def Cj(rs:List Road)(fl:List Int)(i:Int):Int:=eL (fun k=>(if(nth rs k).frm=i then nth fl k else 0)-(if(nth rs k).to=i then nth fl k else 0)) rs.length
theorem zR{rs:List Road}{fl:List Int}(h:fl.length=rs.length)(r:Road)(q i:Int):Cj (rs++[r]) (fl++[q]) i=Cj rs fl i+((if r.frm=i then q else 0)-(if r.to=i then q else 0)):=by
 unfold Cj
 rw[aLv,List.length_singleton]
 simp only[eL]
 rw[jA rfl,jA h.symm]
 congr 1
 exact o8 _ fun j hj=>by rw[mW hj,mW (by omega)]
theorem w8{f:Nat→Int}{C:Int}:∀n,(∀j,j<n→ -C≤f j∧f j≤C)→ -(C*n)≤eL f n∧eL f n≤C*n
 | 0,_=>by simp[eL]
 | n+1,h=>by
   have:=w8 n fun j hj=>h j (by omega)
   have:=h n (by omega)
   have e:C*((n+1:Nat):Int)=C*n+C:=by rw[show((n+1:Nat):Int)=n+1 by omega,Int.mul_add,Int.mul_one]
   rw[e]
   simp only[eL]
   omega
theorem RV{rs:List Road}{fl:List Int}{B:Int}(h:fl.length=rs.length)(hb:∀x∈fl, -B≤x∧x≤B)(i:Int): -(2*B*rs.length)≤Cj rs fl i∧Cj rs fl i≤2*B*rs.length:=by
 refine w8 _ fun j hj=>?_
 have:=hb _ (ak (l:=fl) (j:=j) (by omega))
 split<;>split<;>omega
theorem aic{x n:Int}(h0:0≤x)(h1:x<2*n):x.tmod n=if x<n then x else x-n:=by
 rw[Int.tmod_eq_emod_of_nonneg h0]
 split
 · exact Int.emod_eq_of_lt h0 (by omega)
 · rw[← Int.sub_emod_right];exact Int.emod_eq_of_lt (by omega) (by omega)
def Road.dr(n:Nat)(r:Road):Prop:=r.ok n∧r.restH≤22
theorem M8{r:Road}{a b:Int}{n:Nat}(h:r.drawn a b)(a0:0≤a)(a1:a<n)(b0:0≤b)(b1:b<n)(ne:a≠b):r.dr n:=by
 obtain⟨h1,h2,h3,h4,h5,h6,h7,h8⟩:=h
 refine⟨⟨by omega,by omega,by omega,by omega,by omega,by omega,by omega,by omega,by omega,by omega,by omega,by omega,by omega,by omega,by omega⟩,by omega⟩
theorem RW{r:Road}{n:Nat}(h:r.dr n)(c:Bool):({ r with closed:=c}:Road).dr n:=by
 obtain⟨⟨h1,h2,h3,h4,h5,h6,h7,h8,h9,h10,h11,h12,h13,h14,h15⟩,h16⟩:=h
 exact⟨⟨h1,h2,h3,h4,h5,h6,h7,h8,h9,h10,h11,h12,h13,h14,h15⟩,h16⟩
structure Gw(n:Nat)(B:Int)(rs:List Road)(fl:List Int):Prop where
 len:fl.length=rs.length
 ok:∀r∈rs,r.dr n
 cl:∀k,k<rs.length→(nth rs k).closed=true→nth fl k=0
 bd:∀x∈fl, -B≤x∧x≤B
theorem Gw.app{n:Nat}{B:Int}{rs:List Road}{fl:List Int}(h:Gw n B rs fl){r:Road}{q:Int}(h1:r.dr n)(h2:r.closed=true→q=0)(h3: -B≤q∧q≤B):Gw n B (rs++[r]) (fl++[q]):=by
 have len:=h.len
 refine⟨by simp[len],fun x hx=>?_,fun k hk hc=>?_,fun x hx=>?_⟩
 · rcases List.mem_append.1 hx with hx | hx
   · exact h.ok x hx
   · rw[List.mem_singleton.1 hx];exact h1
 · have hk:k<rs.length+1:=by simpa using hk
   by_cases e:k=rs.length
   · rw[jA e]at hc
     rw[jA (by omega)]
     exact h2 hc
   · rw[mW (by omega)]at hc ⊢
     exact h.cl k (by omega) hc
 · rcases List.mem_append.1 hx with hx | hx
   · exact h.bd x hx
   · rw[List.mem_singleton.1 hx];exact h3
abbrev Ea(c:Cod)(ps:List Place)(pr:List Int)(rs:List Road)(fl nt:List Int):af:=
 [c.obj,.box [.nil,.nil,.nil,.nil],.box [.nil,.nil],.box [.nil,.nil],arP ps,.box [.ref 4 0 ps.length,.ref 10 0 rs.length,.ref 11 0 0,.ref 12 0 0],.arr 2 false 0 [],.arr 10 false 0 [],.arr 4 false 0 [],.arr 3 false 0 [],arR rs,.arr 4 false 0 [],.arr 3 false 0 [],arI pr,.box [.ref 13 0 pr.length,.ref 16 0 fl.length],.arr 1 false 0 [],arI fl,arI nt]
abbrev PD(sh np z:Int):List D:=[.bp 0 0,.bp 1 0,.bp 2 0,.bp 3 0,.bp 5 0,I sh,.und,I np,.bp 14 0,.und,.ref 17 0 np.toNat,I z,.und,.und,.und,.und,.und,.und,.und]
theorem RX{c:Cod}(hc:c.ok){sh:Nat}{ps:List Place}(np:ps.length≤6)(n2:2≤ps.length){pr fl nt:List Int}{rs:List Road}(pl:pr.length=ps.length)(h:Gw ps.length 60 rs fl)(rl:rs.length≤10)
 (nl:nt.length=ps.length) (hn:∀i:Nat,i<ps.length→nth nt i=Cj rs fl i) (z:Int) (hz:0<z) (hz2:z≤10):
 ∃(d:Cod) (r:Road) (q:Int) (ns:List Int),d.ok∧Gw ps.length 60 (rs++[r]) (fl++[q])∧ns.length=ps.length∧(∀i:Nat,i<ps.length→nth ns i=Cj (rs++[r]) (fl++[q]) i)∧
 om true [6,9,12,13,14,15,16,17,18] 18 (exS bL K.ff ⟨PD sh ps.length z,Ea c ps pr rs fl nt⟩)=some ⟨PD sh ps.length (z-1),Ea d ps pr (rs++[r]) (fl++[q]) ns⟩:=by
 have len:=h.len
 obtain⟨f,c1,e1,h1,b1, -⟩:=hU hc ps.length (by omega)
 have b1:=b1 (by omega)
 obtain⟨f,rfl⟩:=Int.eq_ofNat_of_zero_le b1.1
 obtain⟨w,c2,e2,h2,b2, -⟩:=hU h1 ((ps.length:Int)-1) (by omega)
 have b2:=b2 (by omega)
 have tm:=aic (x:=(f:Int)+1+w) (n:=ps.length) (by omega) (by omega)
 obtain⟨t,ht,t1,t2⟩:∃t:Nat,((f:Int)+1+w).tmod ps.length=t∧t<ps.length∧f≠t:=by
  rw[tm]
  split
  · exact⟨((f:Int)+1+w).toNat,by omega,by omega,by omega⟩
  · exact⟨((f:Int)+1+w-ps.length).toNat,by omega,by omega,by omega⟩
 obtain⟨r,c3,e3,h3,dr,cl⟩:=RR h2 f t
 obtain⟨b,c4,e4,h4⟩:=D8 h3 7 (by omega) (by omega)
 obtain⟨q,c5,e5,h5,q1,q2⟩:=mV h4 (-60) 60 (by omega) (by omega) (by omega)
 have gf:((nt.map (T.int .i64)).map D.t)[f]?=some (I (nth nt f)):=cE _ _ (by omega)
 have gt:∀x,(((nt.map (T.int .i64)).map D.t).set f x)[t]?=some (I (nth nt t)):=fun x=>by rw[aLi t2];exact cE _ _ (by omega)
 have dd:=RW (M8 dr (by omega) (by omega) (by omega) (by omega) (by omega) (n:=ps.length)) b
 have rf:=dr.f
 have rt:=dr.t
 have net:∀q':Int,∀i:Nat,i<ps.length→nth ((nt.set f (nth nt f+q')).set t (nth nt t-q')) i=Cj (rs++[{ r with closed:=b}]) (fl++[q']) i:=by
  intro q' i hi
  rw[zR len,←hn i hi,bM _ _ (by simp;omega),bM _ _ (by omega)]
  simp only[rf,rt]
  by_cases x1:i=t
  · subst x1
    rw[if_pos rfl,if_neg (by omega),if_pos rfl];omega
  · rw[if_neg x1,if_neg (c:=(t:Int)=i) (by omega)]
    by_cases x2:i=f
    · subst x2;rw[if_pos rfl,if_pos rfl];omega
    · rw[if_neg x2,if_neg (by omega)];omega
 obtain⟨a1,a2,a3,a4,a5,a6,a7,a8,a9,a10⟩:=r
 simp only at rf rt cl dd net
 subst rf rt cl
 have nb:∀i:Nat,i<ps.length→ -1200≤nth nt i∧nth nt i≤1200:=fun i hi=>by
  have:=RV len h.bd i
  rw[hn i hi];omega
 have bx:=nb f (by omega)
 have bY:=nb t (by omega)
 have sn:∀v,nth (nt.set f v) t=nth nt t:=fun v=>by rw[bM _ _ (by omega),if_neg (by omega)]
 clear dr hn nb
 generalize hx:nth nt f=x at*
 generalize hy:nth nt t=y at*
 have nlz:(ps.length:Int).toNat=nt.length:=by omega
 have w1:IntKind.i64.wrap x=x:=oo (by omega) (by omega)
 have w2:IntKind.i64.wrap (x+q)=x+q:=oo (by omega) (by omega)
 have w3:IntKind.i64.wrap y=y:=oo (by omega) (by omega)
 have w4:IntKind.i64.wrap (y-q)=y-q:=oo (by omega) (by omega)
 cases b with
 | true=>
   refine⟨c5,_,0,_,h5,h.app dd (fun _=>rfl) (by omega),?_,net 0,?_⟩
   · simp[nl]
   · simp only[PD,Ea,arI,arP,arR,List.map_set,List.map_append,List.map_cons,List.map_nil,aLv,List.length_singleton,nlz]
     simp(disch:=omega)only[go_sem,K.ff,↓reduceIte,e1,e2,ht,e3,e4,e5,gf,gt,hz,w1,w2,w3,w4,sn,Int.add_zero,Int.sub_zero,reduceAdd,reduceSub]
 | false=>
   refine⟨c5,_,q,_,h5,h.app dd (fun e=>by simp at e) (by omega),?_,net q,?_⟩
   · simp[nl]
   · simp only[PD,Ea,arI,arP,arR,List.map_set,List.map_append,List.map_cons,List.map_nil,aLv,List.length_singleton,nlz]
     simp(disch:=omega)only[go_sem,K.ff,↓reduceIte,e1,e2,ht,e3,e4,e5,gf,gt,hz,w1,w2,w3,w4,sn,Int.add_zero,Int.sub_zero,reduceAdd,reduceSub]
theorem Vm{c:Cod}(hc:c.ok){sh:Nat}{ps:List Place}(np:ps.length≤6)(n2:2≤ps.length){pr:List Int}(pl:pr.length=ps.length)(n:Nat)(hn:n≤5):
 ∃(d:Cod) (rs:List Road) (fl nt:List Int),d.ok∧Gw ps.length 60 rs fl∧rs.length≤5∧nt.length=ps.length∧(∀i:Nat,i<ps.length→nth nt i=Cj rs fl i)∧
 exS bL K.rN ⟨[.bp 0 0,.bp 1 0,.bp 2 0,.bp 3 0,.bp 5 0,I sh,.und,I ps.length,.bp 14 0,I ps.length,.ref 17 0 ps.length,I n,.und,.und,.und,.und,.und,.und,.und],Ea c ps pr [] [] (q9 ps.length)⟩=
  some (.exit 4,⟨PD sh ps.length 0,Ea d ps pr rs fl nt⟩):=by
 have key:=ig (vs:=[.bp 0 0,.bp 1 0,.bp 2 0,.bp 3 0,.bp 5 0,I sh,.und,I ps.length,.bp 14 0,I ps.length,.ref 17 0 ps.length,I n,.und,.und,.und,.und,.und,.und,.und]) (H:=Ea c ps pr [] [] (q9 ps.length)) (c:=K.ff) (gc:=true) (dead:=[6,9,12,13,14,15,16,17,18])
  (fun j st=>∃(c:Cod) (rs:List Road) (fl nt:List Int),st=⟨PD sh ps.length ((n:Int)-j),Ea c ps pr rs fl nt⟩∧c.ok∧Gw ps.length 60 rs fl∧rs.length=j∧nt.length=ps.length∧(∀i:Nat,i<ps.length→nth nt i=Cj rs fl i)) n
  (fun q=>∃(c:Cod) (rs:List Road) (fl nt:List Int),q=(.exit 4,⟨PD sh ps.length 0,Ea c ps pr rs fl nt⟩)∧c.ok∧Gw ps.length 60 rs fl∧rs.length=n∧nt.length=ps.length∧(∀i:Nat,i<ps.length→nth nt i=Cj rs fl i))
  ⟨c,[],[],q9 ps.length,by simp[jg,PD],hc,⟨rfl,by simp,by simp,by simp⟩,rfl,by simp,fun i hi=>by simp[nth,hi,Cj,eL]⟩ ?_ ?_
 · obtain⟨q,hq,c4,rs,fl,nt,rfl,h4,h5,h6,h7,h8⟩:=key
   exact⟨c4,rs,fl,nt,h4,h5,by omega,h7,h8,hq⟩
 · rintro j _ hj ⟨c,rs,fl,nt,rfl,hc,h5,h6,h7,h8⟩
   obtain⟨d,r,q,ns,a1,a2,a3,a4,a5⟩:=RX hc (sh:=sh) np n2 pl h5 (by omega) h7 h8 ((n:Int)-j) (by omega) (by omega)
   exact⟨_,a5,d,_,_,ns,by rw[show(n:Int)-(j+1:Nat)=n-j-1 by omega],a1,a2,by simp[h6],a3,a4⟩
 · rintro _ ⟨c,rs,fl,nt,rfl,hc,h5,h6,h7,h8⟩
   refine⟨_,?_,by simp,c,rs,fl,nt,rfl,hc,h5,h6,h7,h8⟩
   have z:(n:Int)-n=0:=by omega
   rw[z]
   simp only[PD,Ea,arI,arP,arR]
   simp(disch:=omega)only[go_sem,K.ff,↓reduceIte,reduceAdd,reduceSub]
def Vn(sh:Nat)(rs:List Road)(i:Int):Prop:=∃k,k<rs.length∧(nth rs k).closed=false∧(((nth rs k).frm=i∧0≤(nth rs k).to∧(nth rs k).to<sh)∨((nth rs k).to=i∧0≤(nth rs k).frm∧(nth rs k).frm<sh))
theorem Vn.app{sh:Nat}{rs:List Road}{i:Int}(h:Vn sh rs i)(r:Road):Vn sh (rs++[r]) i:=by
 obtain⟨k,hk,h1⟩:=h
 exact⟨k,by simp;omega,by rw[mW hk];exact h1⟩
abbrev PE(sh np z:Int):List D:=[.bp 0 0,.bp 1 0,.bp 2 0,.bp 3 0,.bp 5 0,I sh,.und,I np,.bp 14 0,.und,.ref 17 0 np.toNat,.und,.und,.und,.und,I z,.und,.und,.und]
theorem RY{c:Cod}(hc:c.ok){sh:Nat}(s1:1≤sh){ps:List Place}(np:ps.length≤6){pr fl nt:List Int}{rs:List Road}(pl:pr.length=ps.length)(h:Gw ps.length 1200 rs fl)(rl:rs.length≤20)
 (nl:nt.length=ps.length) (nb:∀i:Nat,i<ps.length→ -1200≤nth nt i∧nth nt i≤1200) (i:Nat) (hi:sh≤i) (hi2:i<ps.length) (hn:nth nt i=Cj rs fl i):
 ∃(d:Cod) (r:Road) (q:Int),d.ok∧Gw ps.length 1200 (rs++[r]) (fl++[q])∧Cj (rs++[r]) (fl++[q]) i=0∧(∀k:Nat,sh≤k→k≠i→Cj (rs++[r]) (fl++[q]) k=Cj rs fl k)∧Vn sh (rs++[r]) i∧
 om true [6,9,11,12,13,14,16,17,18] 18 (exS bL K.fg ⟨PE sh ps.length i,Ea c ps pr rs fl nt⟩)=some ⟨PE sh ps.length (i+1),Ea d ps pr (rs++[r]) (fl++[q]) nt⟩:=by
 have len:=h.len
 obtain⟨s,c1,e1,h1,b1, -⟩:=hU hc sh (by omega)
 have b1:=b1 (by omega)
 obtain⟨s,rfl⟩:=Int.eq_ofNat_of_zero_le b1.1
 obtain⟨r,c2,e2,h2,dr,cl⟩:=RR h1 i s
 obtain⟨b,c3,e3,h3⟩:=D8 h2 2 (by omega) (by omega)
 have gi:((nt.map (T.int .i64)).map D.t)[i]?=some (I (nth nt i)):=cE _ _ (by omega)
 have d1:=M8 dr (by omega) (by omega) (by omega) (by omega) (by omega) (n:=ps.length)
 have d2:({ r with frm:=(s:Int),to:=(i:Int)}:Road).dr ps.length:=by
  obtain⟨⟨g1,g2,g3,g4,g5,g6,g7,g8,g9,g10,g11,g12,g13,g14,g15⟩,g16⟩:=d1
  exact⟨⟨by simp only;omega,by simp only;omega,by simp only;omega,by simp only;omega,by simp only;omega,g6,g7,g8,g9,g10,g11,g12,g13,g14,g15⟩,g16⟩
 have bi:=nb i hi2
 have rf:=dr.f
 have rt:=dr.t
 have gg:(i:Int)<ps.length:=by omega
 have nlz:(ps.length:Int).toNat=nt.length:=by omega
 clear dr nb
 obtain⟨a1,a2,a3,a4,a5,a6,a7,a8,a9,a10⟩:=r
 simp only at rf rt cl d1 d2
 subst rf rt cl
 generalize hx:nth nt i=x at*
 have w1:IntKind.i64.wrap (0-x)=0-x:=oo (by omega) (by omega)
 have w2:IntKind.i64.wrap (0-(0-x))=x:=by rw[oo (by omega) (by omega)];omega
 have z2:0-(0-x)=x:=by omega
 cases b with
 | false=>
   refine⟨c3,_,0-x,h3,h.app d1 (fun e=>by simp at e) (by omega),?_,fun k hk hk2=>?_,⟨rs.length,by simp,?_⟩,?_⟩
   · rw[zR len,←hn];simp only;rw[if_pos trivial,if_neg (by omega)];omega
   · rw[zR len];simp only;rw[if_neg (by omega),if_neg (by omega)];omega
   · rw[jA rfl];exact⟨rfl,.inl ⟨rfl,by simp only;omega,by simp only;omega⟩⟩
   · simp only[PE,Ea,arI,arP,arR,List.map_append,List.map_cons,List.map_nil,aLv,List.length_singleton,nlz]
     simp(disch:=omega)only[go_sem,K.fg,↓reduceIte,e1,e2,e3,gi,gg,w1,w2,z2,reduceAdd,reduceSub]
 | true=>
   refine⟨c3,_,x,h3,h.app d2 (fun e=>by simp at e) (by omega),?_,fun k hk hk2=>?_,⟨rs.length,by simp,?_⟩,?_⟩
   · rw[zR len,←hn];simp only;rw[if_neg (by omega),if_pos trivial];omega
   · rw[zR len];simp only;rw[if_neg (by omega),if_neg (by omega)];omega
   · rw[jA rfl];exact⟨rfl,.inr ⟨rfl,by simp only;omega,by simp only;omega⟩⟩
   · simp only[PE,Ea,arI,arP,arR,List.map_append,List.map_cons,List.map_nil,aLv,List.length_singleton,nlz]
     simp(disch:=omega)only[go_sem,K.fg,↓reduceIte,e1,e2,e3,gi,gg,w1,w2,z2,reduceAdd,reduceSub]
theorem M9{c:Cod}(hc:c.ok){sh:Nat}(s1:1≤sh){ps:List Place}(np:ps.length≤6){pr fl nt:List Int}{rs:List Road}(pl:pr.length=ps.length)(h:Gw ps.length 60 rs fl)(rl:rs.length≤5)
 (nl:nt.length=ps.length) (hn:∀i:Nat,i<ps.length→nth nt i=Cj rs fl i) (n:Nat) (en:sh+n=ps.length) (z9 z11:D):
 ∃(d:Cod) (rs':List Road) (fl':List Int),d.ok∧Gw ps.length 1200 rs' fl'∧rs'.length≤10∧(∀i:Nat,sh≤i→i<ps.length→Cj rs' fl' i=0∧Vn sh rs' i)∧
 exS bL K.rO ⟨[.bp 0 0,.bp 1 0,.bp 2 0,.bp 3 0,.bp 5 0,I sh,.und,I ps.length,.bp 14 0,z9,.ref 17 0 ps.length,z11,.und,.und,.und,I sh,.und,.und,.und],Ea c ps pr rs fl nt⟩=
  some (.exit 6,⟨PE sh ps.length ps.length,Ea d ps pr rs' fl' nt⟩):=by
 have nb:∀i:Nat,i<ps.length→ -1200≤nth nt i∧nth nt i≤1200:=fun i hi=>by
  have:=RV h.len h.bd i
  rw[hn i hi];omega
 have key:=ig (vs:=[.bp 0 0,.bp 1 0,.bp 2 0,.bp 3 0,.bp 5 0,I sh,.und,I ps.length,.bp 14 0,z9,.ref 17 0 ps.length,z11,.und,.und,.und,I sh,.und,.und,.und]) (H:=Ea c ps pr rs fl nt) (c:=K.fg) (gc:=true) (dead:=[6,9,11,12,13,14,16,17,18])
  (fun j st=>∃(c:Cod) (rs:List Road) (fl:List Int),st=⟨PE sh ps.length (sh+j),Ea c ps pr rs fl nt⟩∧c.ok∧Gw ps.length 1200 rs fl∧rs.length≤5+j∧(∀i:Nat,sh≤i→i<sh+j→Cj rs fl i=0∧Vn sh rs i)∧(∀i:Nat,sh+j≤i→i<ps.length→nth nt i=Cj rs fl i)) n
  (fun q=>∃(c:Cod) (rs:List Road) (fl:List Int),q=(.exit 6,⟨PE sh ps.length ps.length,Ea c ps pr rs fl nt⟩)∧c.ok∧Gw ps.length 1200 rs fl∧rs.length≤10∧(∀i:Nat,sh≤i→i<ps.length→Cj rs fl i=0∧Vn sh rs i))
  ⟨c,rs,fl,by simp[jg,PE],hc,⟨h.len,h.ok,h.cl,fun x hx=>by have:=h.bd x hx;omega⟩,by omega,fun i _ _=>by omega,fun i _ hi=>hn i hi⟩ ?_ ?_
 · obtain⟨q,hq,c4,rs,fl,rfl,h4,h5,h6,h7⟩:=key
   exact⟨c4,rs,fl,h4,h5,h6,h7,hq⟩
 · rintro j _ hj ⟨c,rs,fl,rfl,hc,h5,h6,h7,h8⟩
   obtain⟨d,r,q,a1,a2,a3,a4,a5,a6⟩:=RY hc s1 np pl h5 (by omega) nl nb (sh+j) (by omega) (by omega) (h8 (sh+j) (by omega) (by omega))
   refine⟨_,a6,d,_,_,?_,a1,a2,by simp;omega,fun i i1 i2=>?_,fun i i1 i2=>?_⟩
   · rw[show((sh+j:Nat):Int)+1=(sh:Int)+(j+1:Nat)by omega]
   · by_cases e:i=sh+j
     · subst e;exact⟨a3,a5⟩
     · rw[a4 i i1 e]
       obtain⟨b1,b2⟩:=h7 i i1 (by omega)
       exact⟨b1,b2.app r⟩
   · rw[a4 i (by omega) (by omega)];exact h8 i (by omega) i2
 · rintro _ ⟨c,rs,fl,rfl,hc,h5,h6,h7,h8⟩
   refine⟨_,?_,by simp,c,rs,fl,rfl,hc,h5,by omega,fun i i1 i2=>h7 i i1 (by omega)⟩
   have z:(sh:Int)+n=ps.length:=by omega
   rw[z]
   simp only[PE,Ea,arI,arP,arR]
   simp(disch:=omega)only[go_sem,K.fg,↓reduceIte,reduceAdd,reduceSub]
end Go.Ev
