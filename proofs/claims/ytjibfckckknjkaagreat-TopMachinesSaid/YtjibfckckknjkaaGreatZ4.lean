/- Parts of the proof: see the text that holds the theorem. -/
import Derived.Test.YtjibfckckknjkaaGreatZ3
set_option linter.all false
open Nat (reduceAdd reduceSub)
set_option maxRecDepth 100000
namespace Go.Ev
open Go
variable [Lib] [dM] [dh]
def tQ(l:List Int)(p q:Nat)(t:Int):Bool:=decide (0≤t∧nth l p+t<nth l q)
def qG(l:List Int)(p q:Nat)(t:Int):List Int:=if tQ l p q t=true then l.set q (nth l p+t)else l
def pc(m:bh)(fl:List Spn)(k:Nat)(back:Bool)(l:List Int):List Int×Bool:=
 (qG l ((nth m.roads k).src back).toNat ((nth m.roads k).dst back).toNat (jN (nth m.roads k) (nth fl k) back),tQ l ((nth m.roads k).src back).toNat ((nth m.roads k).dst back).toNat (jN (nth m.roads k) (nth fl k) back))
def yW(m:bh)(fl:List Spn)(k:Nat)(s:List Int×Bool):List Int×Bool:=
 let a:=pc m fl k false s.1
 let b:=pc m fl k true a.1
 (b.1,s.2||a.2||b.2)
def eI(m:bh)(fl:List Spn)(l:List Int):Nat→List Int×Bool
 | 0=>(l,false)
 | k+1=>yW m fl k (eI m fl l k)
def fJ(m:bh)(fl:List Spn)(l:List Int):List Int×Bool:=eI m fl l m.roads.length
theorem LY(l:List Int)(p q:Nat)(t:Int):(qG l p q t).length=l.length:=by unfold qG;split<;>simp
theorem tR(m:bh)(fl:List Spn)(k:Nat)(back:Bool)(l:List Int):(pc m fl k back l).1.length=l.length:=LY ..
theorem dO(m:bh)(fl:List Spn)(l:List Int):∀k,(eI m fl l k).1.length=l.length
 | 0=>rfl
 | k+1=>by simp only[eI,yW,tR,dO m fl l k]
theorem LZ{l:List Int}(h:bnd l){p q:Nat}(hp:p<l.length)(hq:q<l.length){t:Int}:bnd (qG l p q t):=by
 unfold qG
 split
 · rename_i hc
   simp only[tQ,decide_eq_true_eq]at hc
   have h1:=h _ (ai hp)
   have h2:=h _ (ai hq)
   exact xd h (by omega) (by omega)
 · exact h
theorem T3{l:List Int}(hb:bnd l){p q:Nat}(hp:p<l.length)(hq:q<l.length){t:Int}:
 (tQ l p q t=true→o5 (qG l p q t)<o5 l)∧(tQ l p q t=false→qG l p q t=l):=by
 unfold qG
 constructor
 · intro hc
   rw[if_pos hc]
   simp only[tQ,decide_eq_true_eq]at hc
   have:=hb _ (ai hp)
   exact EB hq (by omega) hc.2
 · intro hc;rw[if_neg (by simp[hc])]
section
variable {m : bh} (h : m.ok) {fl : List Spn}
include h
theorem yf{l:List Int}(hl:l.length=m.ae.length)(hb:bnd l){k:Nat}(hk:k<m.roads.length)(back:Bool):bnd (pc m fl k back l).1:=by
 have r1:=Road.oy (h.rs _ (ai hk)) back
 have r2:=Road.jr (h.rs _ (ai hk)) back
 exact LZ hb (by omega) (by omega)
theorem nD{l:List Int}(hl:l.length=m.ae.length)(hb:bnd l):∀k,k≤m.roads.length→bnd (eI m fl l k).1
 | 0,_=>hb
 | k+1,hk=>by
   simp only[eI,yW]
   exact yf h (by rw[tR,dO,hl]) (yf h (by rw[dO,hl]) (nD hl hb k (by omega)) (by omega) _) (by omega) _
theorem Cn{l:List Int}(hl:l.length=m.ae.length)(hb:bnd l){k:Nat}(hk:k<m.roads.length)(back:Bool):
 ((pc m fl k back l).2=true→o5 (pc m fl k back l).1<o5 l)∧((pc m fl k back l).2=false→(pc m fl k back l).1=l):=by
 have r1:=Road.oy (h.rs _ (ai hk)) back
 have r2:=Road.jr (h.rs _ (ai hk)) back
 exact T3 hb (by omega) (by omega)
theorem q8{l:List Int}(hl:l.length=m.ae.length)(hb:bnd l):∀k,k≤m.roads.length→
 ((eI m fl l k).2=true→o5 (eI m fl l k).1<o5 l)∧((eI m fl l k).2=false→(eI m fl l k).1=l)
 | 0,_=>⟨fun h=>by simp[eI]at h,fun _=>rfl⟩
 | k+1,hk=>by
   obtain⟨i1,i2⟩:=q8 hl hb k (by omega)
   have hb1:=nD h (fl:=fl) hl hb k (by omega)
   have hl1:(eI m fl l k).1.length=m.ae.length:=by rw[dO,hl]
   obtain⟨a1,a2⟩:=Cn h (fl:=fl) hl1 hb1 (k:=k) (by omega) false
   have hb2:=yf h (fl:=fl) hl1 hb1 (k:=k) (by omega) false
   obtain⟨c1,c2⟩:=Cn h (fl:=fl) (by rw[tR,hl1]) hb2 (k:=k) (by omega) true
   simp only[eI,yW]
   generalize eI m fl l k=s at*
   obtain⟨sl,sb⟩:=s
   simp only at*
   generalize pc m fl k false sl=a at*
   obtain⟨al,ab⟩:=a
   simp only at*
   generalize pc m fl k true al=b at*
   obtain⟨bl,bb⟩:=b
   simp only at*
   cases sb<;>cases ab<;>cases bb<;>simp_all<;>omega
end
theorem ab4{m:bh}(h:m.ok)(fl:List Spn)(hfl:fl.length=m.roads.length)(hf:∀j,j<fl.length→(nth fl j).ok)(l:List Int)(hl:l.length=m.ae.length)(hb:bnd l)
 (k:Nat) (hk:k<m.roads.length) (ag:Bool):
 gF true [0,2,4,8,9,10,11] 2 (exS aW K.cU ⟨[.und,.t (tS fl),.und,.bp 0 0,.und,.ref 1 0 l.length,B ag,I k,.und,.und,.und,.und],[.box (af m),.arr 1 false 0 ((l.map (T.int .i64)).map .t)]⟩)=
  some ⟨[.und,.t (tS fl),.und,.bp 0 0,.und,.ref 1 0 l.length,B (yW m fl k (l,ag)).2,I (k+1),.und,.und,.und,.und],[.box (af m),.arr 1 false 0 (((yW m fl k (l,ag)).1.map (T.int .i64)).map .t)]⟩:=by
 have np:=h.np
 have nr:=h.nr
 have t1:=AZ h k hk (nth fl k) (hf k (by omega)) false
 have t2:=AZ h k hk (nth fl k) (hf k (by omega)) true
 have w1:=II (h.rs _ (ai hk)) (f:=nth fl k) false
 have w2:=II (h.rs _ (ai hk)) (f:=nth fl k) true
 have r1:=Road.oy (h.rs _ (ai hk)) false
 have r2:=Road.jr (h.rs _ (ai hk)) false
 simp only[Road.src,Road.dst,aLt,↓reduceIte]at r1 r2
 obtain⟨f0,f1⟩:=r1
 obtain⟨t0,t1'⟩:=r2
 have b1:=hb _ (ai (l:=l) (j:=(nth m.roads k).frm.toNat) (by omega))
 have b2:=hb _ (ai (l:=l) (j:=(nth m.roads k).to.toNat) (by omega))
 simp only[yW,pc,Road.src,Road.dst,aLt,↓reduceIte]
 generalize hw1:jN (nth m.roads k) (nth fl k) false=v1 at*
 generalize hw2:jN (nth m.roads k) (nth fl k) true=v2 at*
 have hb3:=LZ hb (p:=(nth m.roads k).frm.toNat) (q:=(nth m.roads k).to.toNat) (t:=v1) (by omega) (by omega)
 have ln:(qG l (nth m.roads k).frm.toNat (nth m.roads k).to.toNat v1).length=l.length:=LY ..
 have b3:=hb3 _ (ai (j:=(nth m.roads k).frm.toNat) (by omega))
 have b4:=hb3 _ (ai (j:=(nth m.roads k).to.toNat) (by omega))
 generalize hx:nth m.roads k=x at*
 obtain⟨frm,to,len,area,walk,closed,rl,rh,ll,lh⟩:=x
 simp only at f0 f1 t0 t1' b1 b2 b3 b4 ln hb3 ⊢
 clear hb hb3 hf
 by_cases c1:0≤v1∧nth l frm.toNat+v1<nth l to.toNat
 · have e1:tQ l frm.toNat to.toNat v1=true:=decide_eq_true c1
   have e2:qG l frm.toNat to.toNat v1=l.set to.toNat (nth l frm.toNat+v1):=by unfold qG;rw[if_pos e1]
   rw[e2]at ln b3 b4 ⊢
   obtain⟨c1,c1'⟩:=c1
   by_cases c2:0≤v2
   · by_cases c3:nth (l.set to.toNat (nth l frm.toNat+v1)) to.toNat+v2<nth (l.set to.toNat (nth l frm.toNat+v1)) frm.toNat
     · simp(disch:=omega)only[go_sem,K.cU,↓reduceIte,hx,t1,t2,e1,qG,tQ,c1,c1',c2,c3,and_self,decide_true,Bool.or_true]
     · simp(disch:=omega)only[go_sem,K.cU,↓reduceIte,hx,t1,t2,e1,qG,tQ,c1,c1',c2,c3,and_self,and_false,decide_true,decide_false,Bool.or_true,Bool.or_false,aLt]
   · simp(disch:=omega)only[go_sem,K.cU,↓reduceIte,hx,t1,t2,e1,qG,tQ,c1,c1',c2,and_self,false_and,decide_true,decide_false,Bool.or_true,Bool.or_false,aLt]
 · have e1:tQ l frm.toNat to.toNat v1=false:=decide_eq_false c1
   have e2:qG l frm.toNat to.toNat v1=l:=by unfold qG;rw[if_neg (by simp[e1])]
   rw[e2]at ln b3 b4 ⊢
   by_cases c4:0≤v1
   · have c5:¬nth l frm.toNat+v1<nth l to.toNat:=fun h=>c1 ⟨c4,h⟩
     by_cases c2:0≤v2
     · by_cases c3:nth l to.toNat+v2<nth l frm.toNat
       · simp(disch:=omega)only[go_sem,K.cU,↓reduceIte,hx,t1,t2,e1,qG,tQ,c4,c5,c2,c3,and_self,decide_true,Bool.or_true]
       · simp(disch:=omega)only[go_sem,K.cU,↓reduceIte,hx,t1,t2,e1,qG,tQ,c4,c5,c2,c3,and_self,and_false,decide_true,decide_false,Bool.or_true,Bool.or_false,aLt]
     · simp(disch:=omega)only[go_sem,K.cU,↓reduceIte,hx,t1,t2,e1,qG,tQ,c4,c5,c2,and_self,false_and,decide_true,decide_false,Bool.or_true,Bool.or_false,aLt]
   · by_cases c2:0≤v2
     · by_cases c3:nth l to.toNat+v2<nth l frm.toNat
       · simp(disch:=omega)only[go_sem,K.cU,↓reduceIte,hx,t1,t2,e1,qG,tQ,c4,c2,c3,and_self,false_and,decide_false,decide_true,Bool.or_true]
       · simp(disch:=omega)only[go_sem,K.cU,↓reduceIte,hx,t1,t2,e1,qG,tQ,c4,c2,c3,and_self,and_false,false_and,decide_true,decide_false,Bool.or_true,Bool.or_false,aLt]
     · simp(disch:=omega)only[go_sem,K.cU,↓reduceIte,hx,t1,t2,e1,qG,tQ,c4,c2,and_self,false_and,decide_true,decide_false,Bool.or_true,Bool.or_false,aLt]
def Qg(l:List Int):Nat→List Int
 | 0=>l
 | j+1=>if 2147483648<nth (Qg l j) j then(Qg l j).set j 1099511627776 else Qg l j
theorem A0(l:List Int):∀j,(Qg l j).length=l.length
 | 0=>rfl
 | j+1=>by
   have:=A0 l j
   simp only[Qg];split<;>simp[this]
def qu(m:bh)(fl:List Spn)(l:List Int):List Int:=Qg (ef (fJ m fl) (o5 l+1) l) m.ae.length
theorem Fx{m:bh}(h:m.ok)(fl:List Spn)(hfl:ky m fl=true)(l:List Int)(hl:l.length=m.ae.length)(hb:bnd l):
 aW 0 N.hX [.t m.e,.t (tS fl),.t (tL l)] []=some (.t (tL (qu m fl l)),[])∧(ef (fJ m fl) (o5 l+1) l).length=m.ae.length∧bnd (ef (fJ m fl) (o5 l+1) l):=by
 have nr:=h.nr
 have np:=h.np
 obtain⟨fl1,fl2⟩:=Fw hfl
 have inner:∀(l:List Int),l.length=m.ae.length→bnd l→∀(a b c d e f g:D),exS aW K.yN ⟨[a,.t (tS fl),b,.bp 0 0,c,.ref 1 0 l.length,B false,I 0,d,e,f,g],[.box (af m),.arr 1 false 0 ((l.map (T.int .i64)).map .t)]⟩=
  some (.exit 2,⟨[.und,.t (tS fl),.und,.bp 0 0,.und,.ref 1 0 l.length,B (fJ m fl l).2,I m.roads.length,.und,.und,.und,.und],[.box (af m),.arr 1 false 0 (((fJ m fl l).1.map (T.int .i64)).map .t)]⟩):=by
  intro l hl hb a b c d e f g
  refine dm (fun j=>⟨[.und,.t (tS fl),.und,.bp 0 0,.und,.ref 1 0 (eI m fl l j).1.length,B (eI m fl l j).2,I j,.und,.und,.und,.und],[.box (af m),.arr 1 false 0 (((eI m fl l j).1.map (T.int .i64)).map .t)]⟩) m.roads.length rfl ?_ ?_ (by simp)
  · intro j hj
    have:=ab4 h fl fl1 fl2 (eI m fl l j).1 (by rw[dO,hl]) (nD h hl hb j (by omega)) j hj (eI m fl l j).2
    have e:(eI m fl l (j+1)).1.length=(eI m fl l j).1.length:=by rw[dO,dO]
    rw[e]
    exact this
  · simp(disch:=omega)only[go_sem,K.cU,↓reduceIte,fJ,dO]
 have outer:=fun(a b c d e f g h':D)=>IE (gc:=true) (dead:=[0,2,4,7,8,9,10,11]) (c:=K.oE) (vs:=[a,.t (tS fl),b,.bp 0 0,c,.ref 1 0 l.length,B true,d,e,f,g,h']) (H:=[.box (af m),.arr 1 false 0 ((l.map (T.int .i64)).map .t)])
  (fun l ag=>⟨[.und,.t (tS fl),.und,.bp 0 0,.und,.ref 1 0 l.length,B ag,.und,.und,.und,.und,.und],[.box (af m),.arr 1 false 0 ((l.map (T.int .i64)).map .t)]⟩)
  (fun l=>(.exit 0,⟨[.und,.t (tS fl),.und,.bp 0 0,.und,.ref 1 0 l.length,B false,.und,.und,.und,.und,.und],[.box (af m),.arr 1 false 0 ((l.map (T.int .i64)).map .t)]⟩))
  (fJ m fl) (fun l=>l.length=m.ae.length∧bnd l) o5
  (fun l ⟨hl,hb⟩=>⟨⟨by rw[fJ,dO,hl],nD h hl hb _ (aLs _)⟩,(q8 h hl hb _ (aLs _)).1⟩)
  (by
   rintro l ⟨hl,hb⟩
   have:=inner l hl hb
   have e:(fJ m fl l).1.length=l.length:=by rw[fJ,dO]
   simp(disch:=omega)only[go_sem,K.oE,↓reduceIte,this,e])
  (by
   rintro l ⟨hl,hb⟩
   simp(disch:=omega)only[go_sem,K.oE,↓reduceIte,reduceCtorEq,ne_eq,not_false_eq_true,and_self])
  l ⟨hl,hb⟩ rfl
 obtain⟨-,o2⟩:=outer .und .und .und .und .und .und .und .und
 refine⟨?_,o2⟩
 refine aA K.uP rfl ?_
 have o1:∀a b c d e f g h':D,exS aW K.yO ⟨[a,.t (tS fl),b,.bp 0 0,c,.ref 1 0 l.length,B true,d,e,f,g,h'],[.box (af m),.arr 1 false 0 ((l.map (T.int .i64)).map .t)]⟩=_:=fun a b c d e f g h'=>(outer a b c d e f g h').1
 clear outer inner
 have o2:=o2.1
 unfold qu
 generalize ef (fJ m fl) (o5 l+1) l=l2 at*
 have ln:=A0 l2
 have o3:∀a b c d e f g h' i j:D,exS aW K.yP ⟨[a,b,c,d,e,.ref 1 0 l2.length,f,g,h',i,j,I 0],[.box (af m),.arr 1 false 0 ((l2.map (T.int .i64)).map .t)]⟩=
  some (.exit 4,⟨[.und,.und,.und,.und,.und,.ref 1 0 l2.length,.und,.und,.und,.und,.und,I l2.length],[.box (af m),.arr 1 false 0 (((Qg l2 l2.length).map (T.int .i64)).map .t)]⟩):=by
  intro a b c d e f g h' i j
  refine dm (fun j=>⟨[.und,.und,.und,.und,.und,.ref 1 0 l2.length,.und,.und,.und,.und,.und,I j],[.box (af m),.arr 1 false 0 (((Qg l2 j).map (T.int .i64)).map .t)]⟩) l2.length rfl ?_ ?_ (by simp)
  · intro j hj
    have lj:=ln j
    by_cases hc:2147483648<nth (Qg l2 j) j
    · simp(disch:=omega)only[go_sem,K.oF,↓reduceIte,Qg,hc]
    · simp(disch:=omega)only[go_sem,K.oF,↓reduceIte,Qg,hc]
  · simp(disch:=omega)only[go_sem,K.oF,↓reduceIte]
 have ln:=ln l2.length
 rw[← o2]
 simp(disch:=omega)only[go_sem,K.hX,↓reduceIte,o1,o3]
end Go.Ev
namespace Go.Ev
open Go
variable [Lib] [dM] [dh]
def plS(t x:Int):Prop:=x=1099511627776∨(t≤x∧x≤2147483648)
instance (t x : Int) : Decidable (plS t x) := by unfold plS; infer_instance
def oP(m:bh)(s:Wh):Bool:=(List.range s.frm.length).all (fun j=>decide (plS s.time (nth s.frm j)))&&decide (s.frm.length=m.ae.length∧inT s.time)
theorem T4{m:bh}(h:m.ok)(s:Wh)(hl:s.frm.length≤1000000):aW 0 N.jf [.t m.e,.t s.e] []=some (B (oP m s),[]):=by
 refine aA K.uQ rfl ?_
 have c:=rZ h
 have np:=h.np
 obtain⟨time,frm⟩:=s
 simp only at hl
 have loop:∀a b c:D,exS aW K.yQ ⟨[a,b,.bp 0 0,.bp 1 0,c,I 0],[.box (af m),.box [I time,.t (tL frm)]]⟩=
  some (match (List.range frm.length).find? (fun j=> !decide (plS time (nth frm j)))with
   | some j=>(.ret,⟨[.und,.und,.bp 0 0,.bp 1 0,B false,I j],[.box (af m),.box [I time,.t (tL frm)]]⟩)
   | none=>(.exit 0,⟨[.und,.und,.bp 0 0,.bp 1 0,.und,I frm.length],[.box (af m),.box [I time,.t (tL frm)]]⟩)):=by
  intro a b c
  refine cL (fun j=>⟨[.und,.und,.bp 0 0,.bp 1 0,.und,I j],[.box (af m),.box [I time,.t (tL frm)]]⟩) frm.length (fun j=> !decide (plS time (nth frm j))) _ _ rfl ?_ ?_ ?_ (by simp)
  · intro j hj hp
    have hp:plS time (nth frm j):=by simpa using hp
    unfold plS at hp
    by_cases h1:nth frm j=1099511627776
    · simp(disch:=omega)only[go_sem,K.jK,↓reduceIte,h1]
    · simp(disch:=omega)only[go_sem,K.jK,↓reduceIte]
  · intro j hj hp
    have hp:¬plS time (nth frm j):=by simpa using hp
    unfold plS at hp
    by_cases h2:time≤nth frm j
    · simp(disch:=omega)only[go_sem,K.jK,↓reduceIte]
      simp
    · simp(disch:=omega)only[go_sem,K.jK,↓reduceIte]
      simp
  · simp(disch:=omega)only[go_sem,K.jK,↓reduceIte]
 unfold oP
 rw[qE]
 simp(disch:=omega)only[go_sem,K.jf,↓reduceIte,loop]
 cases hf:(List.range frm.length).find? (fun j=> !decide (plS time (nth frm j)))with
 | some j=>simp(disch:=omega)only[go_sem,↓reduceIte,Option.isNone,Bool.false_and]
 | none=>
   by_cases h1:frm.length=m.ae.length
   · by_cases h2:0≤time
     · by_cases h3:time≤2147483648
       · have h4:inT time:=⟨h2,h3⟩
         simp(disch:=omega)only[go_sem,↓reduceIte,Option.isNone,c,h1,h4,and_self,decide_true,Bool.true_and]
       · have h4:¬inT time:=by unfold inT;omega
         simp(disch:=omega)only[go_sem,↓reduceIte,Option.isNone,c,h1,h4,and_false,decide_false,Bool.true_and]
     · have h4:¬inT time:=by unfold inT;omega
       simp(disch:=omega)only[go_sem,↓reduceIte,Option.isNone,c,h1,h4,and_false,decide_false,Bool.true_and]
   · simp(disch:=omega)only[go_sem,↓reduceIte,Option.isNone,c,h1,false_and,decide_false,Bool.true_and]
theorem Xs(w:Wh)(hl:w.frm.length≤4294967296):aW 0 N.kG [.t w.e] []=some (.t w.e,[]):=by
 refine aA K.wU rfl ?_
 obtain⟨time,frm⟩:=w
 simp only at*
 simp(disch:=omega)only[go_sem,K.kG,↓reduceIte,reduceAdd,reduceSub]
def wq(l:List Int)(t:Int)(n:Nat):List Int:=(List.range n).map fun(p:Nat)=>if(p:Int)∈l then t else 1099511627776
theorem IJ(l:List Int)(t:Int)(n:Nat):wq l t (n+1)=wq l t n++[if(n:Int)∈l then t else 1099511627776]:=by
 unfold wq;rw[List.range_succ,List.map_append];rfl
@[simp] theorem xg (l : List Int) (t : Int) (n : Nat) : (wq l t n).length = n := by simp [wq]
theorem Fy(l:List Int){t:Int}(ht:inT t)(n:Nat):bnd (wq l t n):=by
 intro x hx
 simp only[wq,List.mem_map]at hx
 obtain⟨p, -,rfl⟩:=hx
 unfold inT at ht
 split<;>omega
def oQ(m:bh)(fl:List Spn)(l:List Int)(t:Int):Wh×Int:=
 if ky m fl=false then(⟨0,[]⟩,6)else if EA l m.ae.length=false then(⟨0,[]⟩,3)else if ¬inT t then(⟨0,[]⟩,8)else
 (⟨t,qu m fl (wq l t m.ae.length)⟩,0)
theorem T5{m:bh}(h:m.ok)(fl:List Spn)(hfl:fl.length≤1000000)(l:List Int)(hl:l.length≤1000000)(t:Int):
 aW 0 N.eW [.t m.e,.t (tS fl),.t (tL l),I t] []=some (.tup [.t (oQ m fl l t).1.e,I (oQ m fl l t).2],[]):=by
 refine aA K.uL rfl ?_
 have c:=rZ h
 have np:=h.np
 have nr:=h.nr
 have f:=JQ m (by omega) fl (by omega)
 have s:=Zh l m.ae.length (by omega)
 unfold oQ
 cases hf:ky m fl with
 | false=>
   rw[hf]at f
   simp(disch:=omega)only[go_sem,K.eW,↓reduceIte,c,f]
   rfl
 | true=>
   rw[hf]at f
   cases hs:EA l m.ae.length with
   | false=>
     rw[hs]at s
     simp(disch:=omega)only[go_sem,K.eW,↓reduceIte,c,f,s,Bool.true_eq_false]
     rfl
   | true=>
     rw[hs]at s
     by_cases h1:0≤t
     · by_cases h2:t≤2147483648
       · have ht:inT t:=⟨h1,h2⟩
         have cl:=(Fx h fl hf (wq l t m.ae.length) (xg ..) (Fy l ht _)).1
         have ln:=xg l t
         have loop:∀a b:D,exS aW K.yI ⟨[a,.t (tS fl),.t (tL l),I t,.bp 0 0,.bp 1 0,b,.ref 2 0 0,I 0],[.box (af m),.box [I 0,.nil],.arr 1 false 0 []]⟩=
          some (.exit 1,⟨[.und,.t (tS fl),.t (tL l),I t,.bp 0 0,.bp 1 0,.und,.ref 2 0 m.ae.length,I m.ae.length],[.box (af m),.box [I 0,.nil],.arr 1 false 0 (((wq l t m.ae.length).map (T.int .i64)).map .t)]⟩):=by
          intro a b
          refine dm (fun j=>⟨[.und,.t (tS fl),.t (tL l),I t,.bp 0 0,.bp 1 0,.und,.ref 2 0 j,I j],[.box (af m),.box [I 0,.nil],.arr 1 false 0 (((wq l t j).map (T.int .i64)).map .t)]⟩) m.ae.length rfl ?_ ?_ (by simp)
          · intro j hj
            have g:=Qc l j (by omega)
            have lj:=ln j
            by_cases hm:(j:Int)∈l
            · simp only[hm,decide_true]at g
              simp(disch:=omega)only[go_sem,K.oB,↓reduceIte,g,hm,IJ]
            · simp only[hm,decide_false]at g
              simp(disch:=omega)only[go_sem,K.oB,↓reduceIte,g,hm,IJ]
          · simp(disch:=omega)only[go_sem,K.oB,↓reduceIte]
         have ln:=ln m.ae.length
         simp(disch:=omega)only[go_sem,K.eW,↓reduceIte,c,f,s,ht,loop,cl,Bool.true_eq_false,not_true_eq_false]
       · have ht:¬inT t:=by unfold inT;omega
         simp(disch:=omega)only[go_sem,K.eW,↓reduceIte,c,f,s,ht,Bool.true_eq_false,not_false_eq_true]
         rfl
     · have ht:¬inT t:=by unfold inT;omega
       simp(disch:=omega)only[go_sem,K.eW,↓reduceIte,c,f,s,ht,Bool.true_eq_false,not_false_eq_true]
       rfl
def q9(m:bh)(fl:List Spn)(frm:List Int)(t:Int)(k:Nat)(back:Bool)(l:List Int):List Int:=
 if nth frm ((nth m.roads k).src back).toNat≤t∧0≤jN (nth m.roads k) (nth fl k) back then l.set ((nth m.roads k).dst back).toNat (min (nth l ((nth m.roads k).dst back).toNat) t)else l
def FA(m:bh)(fl:List Spn)(frm:List Int)(t:Int)(k:Nat)(l:List Int):List Int:=q9 m fl frm t k true (q9 m fl frm t k false l)
def chN(m:bh)(fl:List Spn)(frm:List Int)(t:Int):Nat→List Int
 | 0=>frm
 | k+1=>FA m fl frm t k (chN m fl frm t k)
def Oo(t:Int)(l:List Int):Nat→List Int
 | 0=>l
 | k+1=>(Oo t l k).set k (max (nth (Oo t l k) k) t)
theorem qN(m:bh)(fl:List Spn)(frm:List Int)(t:Int)(k:Nat)(back:Bool)(l:List Int):(q9 m fl frm t k back l).length=l.length:=by
 unfold q9;split<;>simp
theorem mS(m:bh)(fl:List Spn)(frm:List Int)(t:Int):∀k,(chN m fl frm t k).length=frm.length
 | 0=>rfl
 | k+1=>by simp only[chN,FA,qN,mS m fl frm t k]
theorem vk(t:Int)(l:List Int):∀k,(Oo t l k).length=l.length
 | 0=>rfl
 | k+1=>by simp only[Oo,List.length_set,vk t l k]
theorem IK{m:bh}(h:m.ok)(fl:List Spn)(frm:List Int){t:Int}(ht:inT t){k:Nat}(hk:k<m.roads.length)(back:Bool){l:List Int}(hl:l.length=m.ae.length)(hb:bnd l):bnd (q9 m fl frm t k back l):=by
 have r2:=Road.jr (h.rs _ (ai hk)) back
 unfold q9
 split
 · have:=hb _ (ai (l:=l) (j:=((nth m.roads k).dst back).toNat) (by omega))
   unfold inT at ht
   exact xd hb (by omega) (by omega)
 · exact hb
theorem JR{m:bh}(h:m.ok)(fl:List Spn){frm:List Int}(hl:frm.length=m.ae.length)(hb:bnd frm){t:Int}(ht:inT t):∀k,k≤m.roads.length→bnd (chN m fl frm t k)
 | 0,_=>hb
 | k+1,hk=>IK h fl frm ht (by omega) _ (by rw[qN,mS,hl]) (IK h fl frm ht (by omega) _ (by rw[mS,hl]) (JR h fl hl hb ht k (by omega)))
theorem JS{t:Int}(ht:inT t){l:List Int}(hb:bnd l):∀k,k≤l.length→bnd (Oo t l k)
 | 0,_=>hb
 | k+1,hk=>by
   have ih:=JS ht hb k (by omega)
   have:=ih _ (ai (l:=Oo t l k) (j:=k) (by rw[vk];omega))
   unfold inT at ht
   exact xd ih (by omega) (by omega)
def rk(m:bh)(old:List Spn)(next:bh)(fl:List Spn)(s:Wh)(t:Int):Wh×Int:=
 if oP m s=false∨ky m old=false∨ky next fl=false∨next.ae.length≠m.ae.length then(s,6)else
 if t<s.time∨2147483648<t then(s,8)else(⟨t,qu next fl (Oo t (chN m old s.frm t m.roads.length) m.ae.length)⟩,0)
theorem zO{m:bh}{s:Wh}(h:oP m s=true):s.frm.length=m.ae.length∧inT s.time∧∀x∈s.frm,plS s.time x:=by
 simp only[oP,aLr,decide_eq_true_eq,aLx,aLu]at h
 refine⟨h.2.1,h.2.2,fun x hx=>?_⟩
 obtain⟨j,hj⟩:=aLf.1 hx
 have:=h.1 j (aLe.1 hj).1
 rwa [bY hj]at this
theorem ab5{m:bh}(h:m.ok)(old:List Spn)(fl1:old.length=m.roads.length)(fl2:∀j,j<old.length→(nth old j).ok)(time t:Int)(ht:inT t)(frm l:List Int)(hl0:frm.length=m.ae.length)(hl:l.length=m.ae.length)
 (k:Nat) (hk:k<m.roads.length) (H3:List D) (r:D) (hr:Go.Ev.old 5 8 r=true) (h3:jq 5 8 H3=true):
 gF true [0,2,4,10,13,14] 5 (exS aW K.cE ⟨[.und,.t (tS old),.und,r,.und,I t,.bp 0 0,.bp 1 0,.bp 2 0,.bp 3 0,.und,.ref 4 0 l.length,I k,.und,.und],[.box (af m),.box H3,.box [I time,.t (tL frm)],.box [I 0,.nil],.arr 1 false 0 ((l.map (T.int .i64)).map .t)]⟩)=
  some ⟨[.und,.t (tS old),.und,r,.und,I t,.bp 0 0,.bp 1 0,.bp 2 0,.bp 3 0,.und,.ref 4 0 l.length,I (k+1),.und,.und],[.box (af m),.box H3,.box [I time,.t (tL frm)],.box [I 0,.nil],.arr 1 false 0 (((FA m old frm t k l).map (T.int .i64)).map .t)]⟩:=by
 have np:=h.np
 have nr:=h.nr
 have t1:=AZ h k hk (nth old k) (fl2 k (by omega)) false
 have t2:=AZ h k hk (nth old k) (fl2 k (by omega)) true
 have r1:=Road.oy (h.rs _ (ai hk)) false
 have r2:=Road.jr (h.rs _ (ai hk)) false
 simp only[Road.src,Road.dst,aLt,↓reduceIte]at r1 r2
 obtain⟨f0,f1⟩:=r1
 obtain⟨t0,t1'⟩:=r2
 unfold inT at ht
 simp only[FA,q9,Road.src,Road.dst,aLt,↓reduceIte]
 generalize hw1:jN (nth m.roads k) (nth old k) false=v1 at*
 generalize hw2:jN (nth m.roads k) (nth old k) true=v2 at*
 generalize hx:nth m.roads k=x at*
 obtain⟨a,b,len,area,walk,closed,rl,rh,ll,lh⟩:=x
 simp only at f0 f1 t0 t1' ⊢
 clear hw1 hw2 fl2
 have ln:(l.set b.toNat (min (nth l b.toNat) t)).length=l.length:=List.length_set ..
 by_cases c1:nth frm a.toNat≤t
 · by_cases c2:0≤v1
   · by_cases c3:nth frm b.toNat≤t
     · by_cases c4:0≤v2
       · simp(disch:=omega)only[go_sem,K.cE,↓reduceIte,hx,t1,t2,c1,c2,c3,c4,and_self,hr,h3]
       · simp(disch:=omega)only[go_sem,K.cE,↓reduceIte,hx,t1,t2,c1,c2,c3,c4,and_self,and_false,hr,h3]
     · simp(disch:=omega)only[go_sem,K.cE,↓reduceIte,hx,t1,t2,c1,c2,c3,and_self,false_and,hr,h3]
   · by_cases c3:nth frm b.toNat≤t
     · by_cases c4:0≤v2
       · simp(disch:=omega)only[go_sem,K.cE,↓reduceIte,hx,t1,t2,c1,c2,c3,c4,and_self,and_false,hr,h3]
       · simp(disch:=omega)only[go_sem,K.cE,↓reduceIte,hx,t1,t2,c1,c2,c3,c4,and_self,and_false,hr,h3]
     · simp(disch:=omega)only[go_sem,K.cE,↓reduceIte,hx,t1,t2,c1,c2,c3,and_self,false_and,and_false,hr,h3]
 · by_cases c3:nth frm b.toNat≤t
   · by_cases c4:0≤v2
     · simp(disch:=omega)only[go_sem,K.cE,↓reduceIte,hx,t1,t2,c1,c3,c4,and_self,and_false,false_and,hr,h3]
     · simp(disch:=omega)only[go_sem,K.cE,↓reduceIte,hx,t1,t2,c1,c3,c4,and_self,and_false,false_and,hr,h3]
   · simp(disch:=omega)only[go_sem,K.cE,↓reduceIte,hx,t1,t2,c1,c3,and_self,false_and,hr,h3]
theorem Rs{m:bh}(h:m.ok)(old:List Spn)(ho:old.length≤1000000){next:bh}(hn:next.ok)(fl:List Spn)(hfl:fl.length≤1000000)(s:Wh)(hs:s.frm.length≤1000000)(t:Int):
 aW 0 N.cZ [.t m.e,.t (tS old),.t next.e,.t (tS fl),.t s.e,I t] []=some (.tup [.t (rk m old next fl s t).1.e,I (rk m old next fl s t).2],[]):=by
 refine aA K.sE rfl ?_
 have c:=Xs s (by omega)
 have v:=T4 h s hs
 have nr:=h.nr
 have nr2:=hn.nr
 have np:=h.np
 have np2:=hn.np
 have f1:=JQ m (by omega) old ho
 have f2:=JQ next (by omega) fl hfl
 have ck:=rZ hn
 unfold rk
 cases hv:oP m s with
 | false=>
   rw[hv]at v
   obtain⟨time,frm⟩:=s
   simp only at*
   simp(disch:=omega)only[go_sem,K.cZ,↓reduceIte,c,v,true_or]
 | true=>
   rw[hv]at v
   obtain⟨s1,s2,s3⟩:=zO hv
   cases ho:ky m old with
   | false=>
     rw[ho]at f1
     obtain⟨time,frm⟩:=s
     simp only at*
     simp(disch:=omega)only[go_sem,K.cZ,↓reduceIte,c,v,f1,true_or,or_true]
   | true=>
     rw[ho]at f1
     obtain⟨o1,o2⟩:=Fw ho
     cases hf:ky next fl with
     | false=>
       rw[hf]at f2
       obtain⟨time,frm⟩:=s
       simp only at*
       simp(disch:=omega)only[go_sem,K.cZ,↓reduceIte,c,v,f1,f2,ck,true_or,or_true]
     | true=>
       rw[hf]at f2
       by_cases hp:next.ae.length=m.ae.length
       · by_cases h1:t<s.time
         · obtain⟨time,frm⟩:=s
           simp only at*
           simp(disch:=omega)only[go_sem,K.cZ,↓reduceIte,c,v,f1,f2,ck,hp,h1,true_or,ne_eq,not_true_eq_false,or_self,Bool.true_eq_false]
         · by_cases h2:2147483648<t
           · obtain⟨time,frm⟩:=s
             simp only at*
             simp(disch:=omega)only[go_sem,K.cZ,↓reduceIte,c,v,f1,f2,ck,hp,h1,h2,or_true,ne_eq,not_true_eq_false,or_self,Bool.true_eq_false]
           · have ht:inT t:=by unfold inT at s2 ⊢;omega
             obtain⟨time,frm⟩:=s
             simp only at s1 s2 s3 c v h1 hs ⊢
             have hb:bnd frm:=fun x hx=>by
              have:=s3 x hx
              unfold plS at this;unfold inT at s2;omega
             have l1:∀a b c d e f:D,exS aW K.wP ⟨[a,.t (tS old),b,.t (tS fl),c,I t,.bp 0 0,.bp 1 0,.bp 2 0,.bp 3 0,d,.ref 4 0 frm.length,I 0,e,f],[.box (af m),.box (af next),.box [I time,.t (tL frm)],.box [I 0,.nil],.arr 1 false 0 ((frm.map (T.int .i64)).map .t)]⟩=
              some (.exit 0,⟨[.und,.t (tS old),.und,.t (tS fl),.und,I t,.bp 0 0,.bp 1 0,.bp 2 0,.bp 3 0,.und,.ref 4 0 frm.length,I m.roads.length,.und,.und],[.box (af m),.box (af next),.box [I time,.t (tL frm)],.box [I 0,.nil],.arr 1 false 0 (((chN m old frm t m.roads.length).map (T.int .i64)).map .t)]⟩):=by
              intro a b c d e f
              refine dm (fun j=>⟨[.und,.t (tS old),.und,.t (tS fl),.und,I t,.bp 0 0,.bp 1 0,.bp 2 0,.bp 3 0,.und,.ref 4 0 frm.length,I j,.und,.und],[.box (af m),.box (af next),.box [I time,.t (tL frm)],.box [I 0,.nil],.arr 1 false 0 (((chN m old frm t j).map (T.int .i64)).map .t)]⟩) m.roads.length rfl ?_ ?_ (by simp)
              · intro j hj
                have st:=ab5 h old o1 o2 time t ht frm (chN m old frm t j) s1 (by rw[mS,s1]) j hj (af next) (.t (tS fl)) rfl rfl
                rw[mS]at st
                exact st
              · simp(disch:=omega)only[go_sem,K.cE,↓reduceIte]
             have lc:=mS m old frm t m.roads.length
             have bc:=JR h old s1 hb ht m.roads.length (aLs _)
             generalize hL:chN m old frm t m.roads.length=L at*
             have lm:=vk t L
             have l2:∀a b c d e f g h' i:D,exS aW K.wQ ⟨[a,b,c,.t (tS fl),d,I t,e,.bp 1 0,f,.bp 3 0,g,.ref 4 0 L.length,h',i,I 0],[.box (af m),.box (af next),.box [I time,.t (tL frm)],.box [I 0,.nil],.arr 1 false 0 ((L.map (T.int .i64)).map .t)]⟩=
              some (.exit 2,⟨[.und,.und,.und,.t (tS fl),.und,I t,.und,.bp 1 0,.und,.bp 3 0,.und,.ref 4 0 L.length,.und,.und,I L.length],[.box (af m),.box (af next),.box [I time,.t (tL frm)],.box [I 0,.nil],.arr 1 false 0 (((Oo t L L.length).map (T.int .i64)).map .t)]⟩):=by
              intro a b c d e f g h' i
              refine dm (fun j=>⟨[.und,.und,.und,.t (tS fl),.und,I t,.und,.bp 1 0,.und,.bp 3 0,.und,.ref 4 0 L.length,.und,.und,I j],[.box (af m),.box (af next),.box [I time,.t (tL frm)],.box [I 0,.nil],.arr 1 false 0 (((Oo t L j).map (T.int .i64)).map .t)]⟩) L.length rfl ?_ ?_ (by simp)
              · intro j hj
                have lj:=lm j
                simp(disch:=omega)only[go_sem,K.qf,↓reduceIte,Oo]
              · simp(disch:=omega)only[go_sem,K.qf,↓reduceIte]
             have lm:=lm L.length
             have bm:=JS ht bc L.length (aLs _)
             have cl:=(Fx hn fl hf (Oo t L L.length) (by omega) bm).1
             have e:m.ae.length=frm.length:=by omega
             rw[lc]at l2 cl lm
             simp(disch:=omega)only[go_sem,K.cZ,↓reduceIte,c,v,f1,f2,ck,hp,h1,h2,e,or_false,ne_eq,not_true_eq_false,or_self,Bool.true_eq_false,l1,l2,cl]
             done
       · obtain⟨time,frm⟩:=s
         simp only at*
         simp(disch:=omega)only[go_sem,K.cZ,↓reduceIte,c,v,f1,f2,ck,hp,not_false_eq_true,ne_eq,or_true]
theorem A1{gc:Bool}{dead:List Nat}{c:C}{vs:List D}{H:ao}(s:Nat→St)(n:Nat)(p:Nat→Bool)(P:Nat→Ex×St→Prop)(eN:Ex×St)
 (h0:(⟨ov dead vs,H⟩:St)=s 0) (hs:∀j,j<n→p j=false→gF gc dead (s j).H.length (exS aW c (s j))=some (s (j+1)))
 (he:∀j,j<n→p j=true→∃q,exS aW c (s j)=some q∧q.1≠ .normal∧P j q) (hN:exS aW c (s n)=some eN) (hn:eN.1≠ .normal):
 ((List.range n).find? p=none∧exS aW (.loop gc dead c) ⟨vs,H⟩=some eN)∨∃j q,(List.range n).find? p=some j∧exS aW (.loop gc dead c) ⟨vs,H⟩=some q∧P j q:=by
 classical
 let e:Nat→Ex×St:=fun j=>if h:j<n∧p j=true then Classical.choose (he j h.1 h.2)else eN
 have h2:∀j,j<n→p j=true→exS aW c (s j)=some (e j)∧(e j).1≠ .normal∧P j (e j):=by
  intro j hj hp
  have e1:e j=Classical.choose (he j hj hp):=dif_pos ⟨hj,hp⟩
  rw[e1]
  exact Classical.choose_spec (he j hj hp)
 have:=cL s n p e eN h0 hs (fun j hj hp=>⟨(h2 j hj hp).1,(h2 j hj hp).2.1⟩) hN hn
 cases hf:(List.range n).find? p with
 | none=>rw[hf]at this;exact .inl ⟨rfl,this⟩
 | some j=>
   rw[hf]at this
   obtain⟨h3,h4⟩:=Fs hf
   exact .inr ⟨j,e j,rfl,this,(h2 j h3 h4).2.2⟩
def xh(a b:List Int):Bool:=match (List.range (min a.length b.length)).find? (fun j=>decide (nth a j≠nth b j))with
 | some j=>decide (nth a j<nth b j)
 | none=>decide (a.length<b.length)
theorem Oq(a b:List Int)(ha:a.length≤1000000)(hb:b.length≤1000000):aW 0 N.jH [.t (tL a),.t (tL b)] []=some (B (xh a b),[]):=by
 refine aA K.w7 rfl ?_
 have loop:∀c:D,exS aW K.AT ⟨[.t (tL a),.t (tL b),c,I 0],[]⟩=
  some (match (List.range (min a.length b.length)).find? (fun j=>decide (nth a j≠nth b j))with
   | some j=>(.ret,⟨[.t (tL a),.t (tL b),B (decide (nth a j<nth b j)),I j],[]⟩)
   | none=>(.exit 0,⟨[.t (tL a),.t (tL b),.und,I (min a.length b.length:Nat)],[]⟩)):=by
  intro c
  refine cL (fun j=>⟨[.t (tL a),.t (tL b),.und,I j],[]⟩) (min a.length b.length) (fun j=>decide (nth a j≠nth b j)) _ _ rfl ?_ ?_ ?_ (by simp)
  · intro j hj hp
    have hp:nth a j=nth b j:=by simpa using hp
    simp(disch:=omega)only[go_sem,K.kM,↓reduceIte]
  · intro j hj hp
    have hp:nth a j≠nth b j:=by simpa using hp
    refine⟨?_,by simp⟩
    by_cases h1:nth a j<nth b j
    · simp(disch:=omega)only[go_sem,K.kM,↓reduceIte,h1,decide_true]
    · simp(disch:=omega)only[go_sem,K.kM,↓reduceIte,h1,decide_false]
  · by_cases h1:a.length≤b.length
    · have e:min a.length b.length=a.length:=by omega
      rw[e]
      simp(disch:=omega)only[go_sem,K.kM,↓reduceIte]
    · have e:min a.length b.length=b.length:=by omega
      rw[e]
      simp(disch:=omega)only[go_sem,K.kM,↓reduceIte]
 unfold xh
 simp(disch:=omega)only[go_sem,K.jH,↓reduceIte,loop]
 cases hf:(List.range (min a.length b.length)).find? (fun j=>decide (nth a j≠nth b j))with
 | some j=>simp(disch:=omega)only[go_sem,↓reduceIte]
 | none=>
   by_cases h1:a.length<b.length
   · simp(disch:=omega)only[go_sem,↓reduceIte,h1,decide_true]
   · simp(disch:=omega)only[go_sem,↓reduceIte,h1,decide_false]
def cN(l:List Int)(x:Int):Int:=match (List.range l.length).find? (fun j=>decide (nth l j=x))with
 | some j=>j
 | none=> -1
theorem rm(l:List Int)(x:Int)(hl:l.length≤1000000):aW 0 N.dP [.t (tL l),I x] []=some (I (cN l x),[]):=by
 refine aA K.sN rfl ?_
 have loop:∀c:D,exS aW K.wV ⟨[.t (tL l),I x,c,I 0],[]⟩=
  some (match (List.range l.length).find? (fun j=>decide (nth l j=x))with
   | some j=>(.ret,⟨[.t (tL l),I x,I j,I j],[]⟩)
   | none=>(.exit 0,⟨[.t (tL l),I x,.und,I l.length],[]⟩)):=by
  intro c
  refine cL (fun j=>⟨[.t (tL l),I x,.und,I j],[]⟩) l.length (fun j=>decide (nth l j=x)) _ _ rfl ?_ ?_ ?_ (by simp)
  · intro j hj hp
    have hp:¬nth l j=x:=by simpa using hp
    simp(disch:=omega)only[go_sem,K.nq,↓reduceIte]
  · intro j hj hp
    have hp:nth l j=x:=by simpa using hp
    refine⟨?_,by simp⟩
    simp(disch:=omega)only[go_sem,K.nq,↓reduceIte,hp]
  · simp(disch:=omega)only[go_sem,K.nq,↓reduceIte]
 unfold cN
 simp(disch:=omega)only[go_sem,K.dP,↓reduceIte,loop]
 cases hf:(List.range l.length).find? (fun j=>decide (nth l j=x))with
 | some j=>simp(disch:=omega)only[go_sem,↓reduceIte]
 | none=>simp(disch:=omega)only[go_sem,↓reduceIte]
theorem Co{l:List Int}{x:Int}(h:0≤cN l x):cN l x<l.length∧nth l (cN l x).toNat=x:=by
 unfold cN at h ⊢
 cases hf:(List.range l.length).find? (fun j=>decide (nth l j=x))with
 | some j=>
   obtain⟨h1,h2⟩:=Fs hf
   simp only[Int.toNat_natCast]
   exact⟨by omega,of_decide_eq_true h2⟩
 | none=>rw[hf]at h;simp at h
def rn(l:List Int)(j:Nat):Bool:=decide (1≤nth l j∧nth l j≤65535∧cN (l.take j) (nth l j)<0)
def jj(l:List Int):Bool:=(List.range l.length).all (rn l)
theorem L3(l:List Int)(hl:l.length≤1000000):aW 0 N.fT [.t (tL l)] []=some (B (jj l),[]):=by
 refine aA K.sI rfl ?_
 have loop:∀c:D,exS aW K.wS ⟨[.t (tL l),c,I 0],[]⟩=
  some (match (List.range l.length).find? (fun j=> !rn l j)with
   | some j=>(.ret,⟨[.t (tL l),B false,I j],[]⟩)
   | none=>(.exit 0,⟨[.t (tL l),.und,I l.length],[]⟩)):=by
  intro c
  refine cL (fun j=>⟨[.t (tL l),.und,I j],[]⟩) l.length (fun j=> !rn l j) _ _ rfl ?_ ?_ ?_ (by simp)
  · intro j hj hp
    have hp:rn l j=true:=by simpa using hp
    have b:=rm (l.take j) (nth l j) (by rw[List.length_take];omega)
    simp only[rn,decide_eq_true_eq]at hp
    simp only[tL,List.map_take]at b
    simp(disch:=omega)only[go_sem,K.iK,↓reduceIte,b]
  · intro j hj hp
    have hp:rn l j=false:=by simpa using hp
    have b:=rm (l.take j) (nth l j) (by rw[List.length_take];omega)
    simp only[rn,decide_eq_false_iff_not]at hp
    simp only[tL,List.map_take]at b
    refine⟨?_,by simp⟩
    by_cases h1:nth l j<1
    · simp(disch:=omega)only[go_sem,K.iK,↓reduceIte,b]
    · by_cases h2:65535<nth l j
      · simp(disch:=omega)only[go_sem,K.iK,↓reduceIte,b]
      · simp(disch:=omega)only[go_sem,K.iK,↓reduceIte,b]
  · simp(disch:=omega)only[go_sem,K.iK,↓reduceIte]
 unfold jj
 rw[qE]
 simp(disch:=omega)only[go_sem,K.fT,↓reduceIte,loop]
 cases hf:(List.range l.length).find? (fun j=> !rn l j)with
 | some j=>simp(disch:=omega)only[go_sem,↓reduceIte,Option.isNone]
 | none=>simp(disch:=omega)only[go_sem,↓reduceIte,Option.isNone]
structure World where
 tags:List Int
 whr:List Wh
instance : Dat World := ⟨⟨[], []⟩⟩
abbrev World.e(x:World):T:= .agg [tL x.tags,.sl (x.whr.map Wh.e)]
structure Bel where
 aK:List World
instance : Dat Bel := ⟨⟨[]⟩⟩
abbrev Bel.e(b:Bel):T:= .agg [.sl (b.aK.map World.e)]
def World.sz(x:World):Prop:=x.tags.length≤1000000∧x.whr.length≤1000000∧∀w∈x.whr,w.frm.length≤1000000
def Bel.sz(b:Bel):Prop:=b.aK.length≤1000000∧∀x∈b.aK,x.sz
@[go_sem] theorem ab6 (l : List Wh) : de 2 (l.map Wh.e) = true := rY 2 _ (fun _ => rfl) l
@[go_sem] theorem VZ (l : List World) : de 2 (l.map World.e) = true := rY 2 _ (fun _ => rfl) l
@[go_sem] theorem alJ (l : List Wh) : rM 2 (l.map Wh.e) = true := by cases l <;> rfl
@[go_sem] theorem ab7 (l : List World) : rM 2 (l.map World.e) = true := by cases l <;> rfl
theorem yX(x:World)(h:x.sz)(a:D):exS aW K.rW ⟨[a,.bp 0 0,.bp 1 0,.bp 3 0,I 0],[.box [.t (tL x.tags),.t (.sl (x.whr.map Wh.e))],.box [.nil,.nil],.arr 1 false 0 ((x.tags.map (T.int .i64)).map .t),.box [.ref 2 0 x.tags.length,.ref 5 0 0],.arr 2 false 0 [],.arr 2 false 0 []]⟩=
 some (.exit 0,⟨[.und,.bp 0 0,.bp 1 0,.bp 3 0,I x.whr.length],[.box [.t (tL x.tags),.t (.sl (x.whr.map Wh.e))],.box [.nil,.nil],.arr 1 false 0 ((x.tags.map (T.int .i64)).map .t),.box [.ref 2 0 x.tags.length,.ref 5 0 x.whr.length],.arr 2 false 0 [],.arr 2 false 0 ((x.whr.map Wh.e).map .t)]⟩):=by
 obtain⟨tags,whr⟩:=x
 obtain⟨h1,h2,h3⟩:=h
 simp only at h1 h2 h3 ⊢
 have tk:whr.take whr.length=whr:=by simp
 refine dm (fun j=>⟨[.und,.bp 0 0,.bp 1 0,.bp 3 0,I j],[.box [.t (tL tags),.t (.sl (whr.map Wh.e))],.box [.nil,.nil],.arr 1 false 0 ((tags.map (T.int .i64)).map .t),.box [.ref 2 0 tags.length,.ref 5 0 (whr.take j).length],.arr 2 false 0 [],.arr 2 false 0 (((whr.take j).map Wh.e).map .t)]⟩) whr.length rfl ?_ ?_ (by simp)
 · intro j hj
   have c:=JL (nth whr j) (by have:=h3 _ (ai hj);omega)
   have lt:(whr.take j).length=j:=by rw[List.length_take];omega
   generalize hx:nth whr j=w at*
   obtain⟨time,frm⟩:=w
   have tk:whr.take (j+1)=whr.take j++[⟨time,frm⟩]:=by rw[yd hj,hx]
   generalize whr.take j=pre at*
   simp(disch:=omega)only[go_sem,K.nB,↓reduceIte,hx,c,lt,tk,reduceAdd,reduceSub]
 · simp(disch:=omega)only[go_sem,K.nB,↓reduceIte,tk]
theorem L4(x:World)(h:x.sz):aW 0 N.bT [.t x.e] []=some (.t x.e,[]):=by
 refine aA K.mD rfl ?_
 have loop:=yX x h
 obtain⟨tags,whr⟩:=x
 obtain⟨h1,h2,h3⟩:=h
 simp only at h1 h2 h3 loop ⊢
 simp(disch:=omega)only[go_sem,K.bT,↓reduceIte,loop]
theorem qH(x:World)(h:x.sz):aW 1 N.bT [.t x.e] []=some (.agg [.ref 0 0 x.tags.length,.ref 1 0 x.whr.length],[.arr 1 false 0 ((x.tags.map (T.int .i64)).map .t),.arr 2 false 0 ((x.whr.map Wh.e).map .t)]):=by
 refine aA K.mD rfl ?_
 have loop:=yX x h
 obtain⟨tags,whr⟩:=x
 obtain⟨h1,h2,h3⟩:=h
 simp only at h1 h2 h3 loop ⊢
 simp(disch:=omega)only[go_sem,K.bT,↓reduceIte,loop]
theorem Dn(l:List World)(h1:l.length≤1000000)(h2:∀x∈l,x.sz)(a:D):exS aW K.AP ⟨[a,.bp 0 0,.bp 1 0,.bp 2 0,I 0],[.box [.t (.sl (l.map World.e))],.box [.nil],.box [.ref 3 0 0],.arr 2 false 0 []]⟩=
 some (.exit 0,⟨[.und,.bp 0 0,.bp 1 0,.bp 2 0,I l.length],[.box [.t (.sl (l.map World.e))],.box [.nil],.box [.ref 3 0 l.length],.arr 2 false 0 ((l.map World.e).map .t)]⟩):=by
 have tk:l.take l.length=l:=by simp
 refine dm (fun j=>⟨[.und,.bp 0 0,.bp 1 0,.bp 2 0,I j],[.box [.t (.sl (l.map World.e))],.box [.nil],.box [.ref 3 0 (l.take j).length],.arr 2 false 0 (((l.take j).map World.e).map .t)]⟩) l.length rfl ?_ ?_ (by simp)
 · intro j hj
   have c:=L4 (nth l j) (h2 _ (ai hj))
   have lt:(l.take j).length=j:=by rw[List.length_take];omega
   generalize hx:nth l j=w at*
   obtain⟨tags,whr⟩:=w
   have tk:l.take (j+1)=l.take j++[⟨tags,whr⟩]:=by rw[yd hj,hx]
   generalize l.take j=pre at*
   simp(disch:=omega)only[go_sem,K.sJ,↓reduceIte,hx,c,lt,tk,reduceAdd,reduceSub]
 · simp(disch:=omega)only[go_sem,K.sJ,↓reduceIte,tk]
theorem Cp(b:Bel)(h:b.sz):aW 0 N.fE [.t b.e] []=some (.t b.e,[]):=by
 refine aA K.rX rfl ?_
 obtain⟨h1,h2⟩:=h
 have loop:=Dn b.aK h1 h2
 obtain⟨l⟩:=b
 simp only at h1 h2 loop ⊢
 simp(disch:=omega)only[go_sem,K.fE,↓reduceIte,loop]
theorem Ot(b:Bel)(h:b.sz):aW 1 N.fE [.t b.e] []=some (.agg [.ref 0 0 b.aK.length],[.arr 2 false 0 ((b.aK.map World.e).map .t)]):=by
 refine aA K.rX rfl ?_
 obtain⟨h1,h2⟩:=h
 have loop:=Dn b.aK h1 h2
 obtain⟨l⟩:=b
 simp only at h1 h2 loop ⊢
 simp(disch:=omega)only[go_sem,K.fE,↓reduceIte,loop]
def Sy(m:bh)(first:List Int)(x:World)(k:Nat):Bool:=decide (0≤cN first (nth x.tags k))&&ei m (nth x.whr k)
def tT(m:bh)(ws:List World)(first:List Int)(i:Nat):Bool:=
 decide ((nth ws i).tags.length=first.length∧(nth ws i).whr.length=first.length)&&jj (nth ws i).tags&&(decide (i=0)||xh (nth ws (i-1)).tags (nth ws i).tags)&&(List.range (nth ws i).tags.length).all (Sy m first (nth ws i))
def yg(m:bh)(b:Bel):Bool:=
 decide (1≤b.aK.length∧b.aK.length≤24)&&decide (1≤(nth b.aK 0).tags.length∧(nth b.aK 0).tags.length≤12)&&(List.range b.aK.length).all (tT m b.aK (nth b.aK 0).tags)
theorem FB{m:bh}(h:m.ok)(ws:List World)(first:List Int)(hf:first.length≤1000000)(hs:∀x∈ws,x.sz)(i:Nat)(hi:i<ws.length)(hl:ws.length≤1000000):
 (tT m ws first i=true→gF true [0,1,4,7,8] 2 (exS aW K.cG ⟨[.und,.und,.bp 0 0,.bp 1 0,.und,.t (tL first),I i,.und,.und],[.box (af m),.box [.t (.sl (ws.map World.e))]]⟩)=some ⟨[.und,.und,.bp 0 0,.bp 1 0,.und,.t (tL first),I (i+1),.und,.und],[.box (af m),.box [.t (.sl (ws.map World.e))]]⟩)∧
 (tT m ws first i=false→∃q,exS aW K.cG ⟨[.und,.und,.bp 0 0,.bp 1 0,.und,.t (tL first),I i,.und,.und],[.box (af m),.box [.t (.sl (ws.map World.e))]]⟩=some q∧q.1= .ret∧q.2.vs[4]?=some (B false)):=by
 have np:=h.np
 have sz:=hs _ (ai hi)
 have sz0:0<i→(nth ws (i-1)).sz:=fun h0=>hs _ (ai (by omega))
 unfold tT
 generalize hy:nth ws (i-1)=y at*
 generalize hx:nth ws i=x at*
 obtain⟨tags,whr⟩:=x
 obtain⟨ptags,pwhr⟩:=y
 obtain⟨s1,s2,s3⟩:=sz
 simp only at s1 s2 s3 sz0 ⊢
 have p:=L3 tags s1
 have inner:tags.length=first.length→whr.length=first.length→∀a b c:D,
  ((List.range tags.length).all (Sy m first ⟨tags,whr⟩)=true∧exS aW K.sK ⟨[a,b,.bp 0 0,.bp 1 0,c,.t (tL first),I i,.bp 2 0,I 0],[.box (af m),.box [.t (.sl (ws.map World.e))],.box [.t (tL tags),.t (.sl (whr.map Wh.e))]]⟩=
    some (.exit 2,⟨[.und,.und,.bp 0 0,.bp 1 0,.und,.t (tL first),I i,.bp 2 0,I tags.length],[.box (af m),.box [.t (.sl (ws.map World.e))],.box [.t (tL tags),.t (.sl (whr.map Wh.e))]]⟩))∨
  ((List.range tags.length).all (Sy m first ⟨tags,whr⟩)=false∧∃j,exS aW K.sK ⟨[a,b,.bp 0 0,.bp 1 0,c,.t (tL first),I i,.bp 2 0,I 0],[.box (af m),.box [.t (.sl (ws.map World.e))],.box [.t (tL tags),.t (.sl (whr.map Wh.e))]]⟩=
    some (.ret,⟨[.und,.und,.bp 0 0,.bp 1 0,B false,.t (tL first),I i,.bp 2 0,j],[.box (af m),.box [.t (.sl (ws.map World.e))],.box [.t (tL tags),.t (.sl (whr.map Wh.e))]]⟩)):=by
  intro l1 l2 a b c
  have:=cL (gc:=true) (dead:=[0,1,4]) (c:=K.jL) (vs:=[a,b,.bp 0 0,.bp 1 0,c,.t (tL first),I i,.bp 2 0,I 0]) (H:=[.box (af m),.box [.t (.sl (ws.map World.e))],.box [.t (tL tags),.t (.sl (whr.map Wh.e))]])
   (fun j=>⟨[.und,.und,.bp 0 0,.bp 1 0,.und,.t (tL first),I i,.bp 2 0,I j],[.box (af m),.box [.t (.sl (ws.map World.e))],.box [.t (tL tags),.t (.sl (whr.map Wh.e))]]⟩) tags.length (fun j=> !Sy m first ⟨tags,whr⟩ j)
   (fun j=>(.ret,⟨[.und,.und,.bp 0 0,.bp 1 0,B false,.t (tL first),I i,.bp 2 0,I j],[.box (af m),.box [.t (.sl (ws.map World.e))],.box [.t (tL tags),.t (.sl (whr.map Wh.e))]]⟩))
   (.exit 2,⟨[.und,.und,.bp 0 0,.bp 1 0,.und,.t (tL first),I i,.bp 2 0,I tags.length],[.box (af m),.box [.t (.sl (ws.map World.e))],.box [.t (tL tags),.t (.sl (whr.map Wh.e))]]⟩) rfl
   (by
    intro j hj hp
    have hp:Sy m first ⟨tags,whr⟩ j=true:=by simpa using hp
    have b:=rm first (nth tags j) hf
    have v:=JK h (nth whr j) (by have:=s3 _ (ai (l:=whr) (j:=j) (by omega));omega)
    simp only[Sy,aLr,decide_eq_true_eq]at hp
    rw[hp.2]at v
    have hp:=hp.1
    simp(disch:=omega)only[go_sem,K.jL,↓reduceIte,b,v])
   (by
    intro j hj hp
    have hp:Sy m first ⟨tags,whr⟩ j=false:=by simpa using hp
    have b:=rm first (nth tags j) hf
    have v:=JK h (nth whr j) (by have:=s3 _ (ai (l:=whr) (j:=j) (by omega));omega)
    refine⟨?_,by simp⟩
    by_cases c1:cN first (nth tags j)<0
    · simp(disch:=omega)only[go_sem,K.jL,↓reduceIte,b,v]
    · have:ei m (nth whr j)=false:=by
       simp only[Sy,Bool.and_eq_false_iff,decide_eq_false_iff_not]at hp
       rcases hp with hp | hp
       · exact absurd (by omega) hp
       · exact hp
      rw[this]at v
      simp(disch:=omega)only[go_sem,K.jL,↓reduceIte,b,v])
   (by simp(disch:=omega)only[go_sem,K.jL,↓reduceIte]) (by simp)
  cases hf:(List.range tags.length).find? (fun j=> !Sy m first ⟨tags,whr⟩ j)with
  | none=>rw[hf]at this;exact .inl ⟨by rw[qE,hf];rfl,this⟩
  | some j=>rw[hf]at this;exact .inr ⟨by rw[qE,hf];rfl,⟨_,this⟩⟩
 by_cases l1:tags.length=first.length
 · by_cases l2:whr.length=first.length
   · cases hp:jj tags with
     | false=>
       rw[hp]at p
       refine⟨fun h=>by simp[hp]at h,fun _=>?_⟩
       simp(disch:=omega)only[go_sem,K.cG,↓reduceIte,hx,p]
       refine⟨_,rfl,?_,?_⟩<;>rfl
     | true=>
       rw[hp]at p
       have inner:=inner l1 l2
       cases i with
       | zero=>
         simp only[Oe]at inner
         simp only[l1,l2,and_self,decide_true,Bool.true_and,Bool.true_or]at inner ⊢
         rcases inner .und .und .und with⟨e, -⟩ | ⟨e, -⟩
         · refine⟨fun _=>?_,fun h=>by rw[e]at h;exact absurd h (by simp)⟩
           have inner:=fun a b c=>((inner a b c).resolve_right fun h=>by rw[e]at h;exact absurd h.1 (by simp)).2
           simp(disch:=omega)only[go_sem,K.cG,↓reduceIte,hx,p,inner]
         · refine⟨fun h=>by rw[e]at h;exact absurd h (by simp),fun _=>?_⟩
           have inner:∀a b c,_:=fun a b c=>((inner a b c).resolve_left fun h=>by rw[e]at h;exact absurd h.1 (by simp)).2
           obtain⟨j,inner⟩:=inner .und .und .und
           simp(disch:=omega)only[go_sem,K.cG,↓reduceIte,hx,p,inner]
           refine⟨_,rfl,?_,?_⟩<;>rfl
       | succ i=>
         simp only[Rl,Rm]at inner
         rw[Nat.add_sub_cancel]at hy
         have ls:=Oq ptags tags (sz0 (by omega)).1 s1
         cases hl:xh ptags tags with
         | false=>
           rw[hl]at ls
           refine⟨fun h=>by simp at h,fun _=>?_⟩
           simp(disch:=omega)only[go_sem,K.cG,↓reduceIte,hx,p,hy,ls]
           refine⟨_,rfl,?_,?_⟩<;>rfl
         | true=>
           rw[hl]at ls
           simp only[l1,l2,and_self,decide_true,Bool.true_and,Bool.or_true]at inner ⊢
           rcases inner .und .und .und with⟨e, -⟩ | ⟨e, -⟩
           · refine⟨fun _=>?_,fun h=>by rw[e]at h;exact absurd h (by simp)⟩
             have inner:=fun a b c=>((inner a b c).resolve_right fun h=>by rw[e]at h;exact absurd h.1 (by simp)).2
             simp(disch:=omega)only[go_sem,K.cG,↓reduceIte,hx,hy,ls,p,inner]
           · refine⟨fun h=>by rw[e]at h;exact absurd h (by simp),fun _=>?_⟩
             have inner:∀a b c,_:=fun a b c=>((inner a b c).resolve_left fun h=>by rw[e]at h;exact absurd h.1 (by simp)).2
             obtain⟨j,inner⟩:=inner .und .und .und
             simp(disch:=omega)only[go_sem,K.cG,↓reduceIte,hx,hy,ls,p,inner]
             refine⟨_,rfl,?_,?_⟩<;>rfl
   · refine⟨fun h=>by simp[l2]at h,fun _=>?_⟩
     simp(disch:=omega)only[go_sem,K.cG,↓reduceIte,hx,p]
     refine⟨_,rfl,?_,?_⟩<;>rfl
 · refine⟨fun h=>by simp[l1]at h,fun _=>?_⟩
   simp(disch:=omega)only[go_sem,K.cG,↓reduceIte,hx,p]
   refine⟨_,rfl,?_,?_⟩<;>rfl
theorem T6{m:bh}(h:m.ok)(b:Bel)(hs:b.sz):aW 0 N.dL [.t m.e,.t b.e] []=some (B (yg m b),[]):=by
 refine aA K.uT rfl ?_
 obtain⟨h1,h2⟩:=hs
 have ck:=rZ h
 obtain⟨ws⟩:=b
 unfold yg
 simp only at h1 h2 ⊢
 by_cases c1:ws.length<1
 · simp(disch:=omega)only[go_sem,K.dL,↓reduceIte,show ¬(1≤ws.length∧ws.length≤24)by omega,decide_false,Bool.false_and]
 · by_cases c2:24<ws.length
   · simp(disch:=omega)only[go_sem,K.dL,↓reduceIte,show ¬(1≤ws.length∧ws.length≤24)by omega,decide_false,Bool.false_and]
   · have c3:1≤ws.length∧ws.length≤24:=by omega
     have sz:=h2 _ (ai (l:=ws) (j:=0) (by omega))
     have i0:(ws.map World.e)[0]?=some (nth ws 0).e:=iE _ (by omega)
     generalize hx:nth ws 0=x at*
     obtain⟨first,whr⟩:=x
     have hf:=sz.1
     simp only at hf ⊢
     by_cases c4:first.length<1
     · simp(disch:=omega)only[go_sem,K.dL,↓reduceIte,ck,hx,c3,and_self,show ¬(1≤first.length∧first.length≤12)by omega,decide_true,decide_false,Bool.true_and,Bool.false_and]
     · by_cases c5:12<first.length
       · simp(disch:=omega)only[go_sem,K.dL,↓reduceIte,ck,hx,c3,and_self,show ¬(1≤first.length∧first.length≤12)by omega,decide_true,decide_false,Bool.true_and,Bool.false_and]
       · have loop:=fun a b c d e=>A1 (gc:=true) (dead:=[0,1,4,7,8]) (c:=K.cG) (vs:=[a,b,.bp 0 0,.bp 1 0,c,.t (tL first),I 0,d,e]) (H:=[.box (af m),.box [.t (.sl (ws.map World.e))]])
          (fun j=>⟨[.und,.und,.bp 0 0,.bp 1 0,.und,.t (tL first),I j,.und,.und],[.box (af m),.box [.t (.sl (ws.map World.e))]]⟩) ws.length (fun j=> !tT m ws first j) (fun _ q=>q.1= .ret∧q.2.vs[4]?=some (B false))
          (.exit 0,⟨[.und,.und,.bp 0 0,.bp 1 0,.und,.t (tL first),I ws.length,.und,.und],[.box (af m),.box [.t (.sl (ws.map World.e))]]⟩) rfl
          (fun j hj hp=>(FB h ws first hf h2 j hj h1).1 (by simpa using hp))
          (fun j hj hp=>by
           obtain⟨q,q1,q2,q3⟩:=(FB h ws first hf h2 j hj h1).2 (by simpa using hp)
           exact⟨q,q1,by rw[q2];simp,q2,q3⟩)
          (by simp(disch:=omega)only[go_sem,K.cG,↓reduceIte]) (by simp)
         rw[qE]
         rcases loop (.t m.e) (.t (Bel.e ⟨ws⟩)) (B false) .und .und with⟨e1,e2⟩ | ⟨j,⟨x,vs,H⟩,e1,e2,e3,e4⟩
         · have e2:exS aW K.sL ⟨[.t m.e,.t (Bel.e ⟨ws⟩),.bp 0 0,.bp 1 0,B false,.t (tL first),I 0,.und,.und],[.box (af m),.box [.t (.sl (ws.map World.e))]]⟩=_:=e2
           simp(disch:=omega)only[go_sem,K.dL,↓reduceIte,ck,hx,c3,and_self,show(1≤first.length∧first.length≤12)by omega,decide_true,decide_false,Bool.true_and,e1,e2,Option.isNone]
         · have e2:exS aW K.sL ⟨[.t m.e,.t (Bel.e ⟨ws⟩),.bp 0 0,.bp 1 0,B false,.t (tL first),I 0,.und,.und],[.box (af m),.box [.t (.sl (ws.map World.e))]]⟩=_:=e2
           simp only at e3 e4
           subst e3
           simp(disch:=omega)only[go_sem,K.dL,↓reduceIte,ck,hx,c3,and_self,show(1≤first.length∧first.length≤12)by omega,decide_true,decide_false,Bool.true_and,e1,e2,Option.isNone]
           simp(disch:=omega)only[go_sem,lE,e4,List.take_zero]
theorem vl:∀ {l l':List Int},l.Nodup→(∀x∈l,x∈l')→l.length≤l'.length
 | [],_,_,_=>by simp
 | a::l,l',hn,hs=>by
   obtain⟨h1,h2⟩:=List.nodup_cons.1 hn
   have ha:a∈l':=hs a List.mem_cons_self
   have:=vl (l:=l) (l':=l'.erase a) h2 fun x hx=>by
    have hne:x≠a:=fun e=>h1 (e▸hx)
    exact(List.mem_erase_of_ne hne).2 (hs x (List.mem_cons_of_mem _ hx))
   have h3:=List.length_erase_of_mem ha
   have h4:0<l'.length:=List.length_pos_of_mem ha
   simp only[List.length_cons]
   omega
theorem pB{l:List Int}{x:Int}:0≤cN l x↔x∈l:=by
 unfold cN
 cases hf:(List.range l.length).find? (fun j=>decide (nth l j=x))with
 | some j=>
   obtain⟨h1,h2⟩:=Fs hf
   have:=ai h1
   rw[of_decide_eq_true h2]at this
   simp[this]
 | none=>
   have:=List.find?_eq_none.1 hf
   simp only[Int.reduceNeg]
   constructor
   · intro h;simp at h
   · intro h
     obtain⟨j,hj⟩:=aLf.1 h
     have hl:=(aLe.1 hj).1
     have:=this j (aLu.2 hl)
     rw[bY hj]at this
     simp at this
theorem mE{l:List Int}(h:jj l=true):l.Nodup:=by
 simp only[jj,aLx,aLu,rn,decide_eq_true_eq]at h
 refine List.pairwise_iff_getElem.2 fun i j hi hj hij e=>?_
 obtain⟨-, -,h3⟩:=h j hj
 have h4:¬nth l j∈l.take j:=fun hm=>by have:=pB.2 hm;omega
 apply h4
 apply aLf.2
 refine⟨i,?_⟩
 rw[List.getElem?_take_of_lt hij,aLc hi,e,←aLc hj,oN hj]
theorem m5{m:bh}{b:Bel}(h:yg m b=true):1≤b.aK.length∧b.aK.length≤24∧1≤(nth b.aK 0).tags.length∧(nth b.aK 0).tags.length≤12∧
 ∀i,i<b.aK.length→tT m b.aK (nth b.aK 0).tags i=true:=by
 simp only[yg,aLr,decide_eq_true_eq,aLx,aLu]at h
 exact⟨h.1.1.1,h.1.1.2,h.1.2.1,h.1.2.2,h.2⟩
theorem lI{m:bh}{ws:List World}{first:List Int}{i:Nat}(h:tT m ws first i=true):(nth ws i).tags.length=first.length∧(nth ws i).whr.length=first.length∧jj (nth ws i).tags=true∧
 ∀k,k<(nth ws i).tags.length→nth (nth ws i).tags k∈first∧ei m (nth (nth ws i).whr k)=true:=by
 simp only[tT,aLr,decide_eq_true_eq,aLx,aLu,Sy]at h
 exact⟨h.1.1.1.1,h.1.1.1.2,h.1.1.2,fun k hk=>⟨pB.1 (h.2 k hk).1,(h.2 k hk).2⟩⟩
theorem FC{m:bh}{b:Bel}(h:yg m b=true){tag:Int}(ht:0≤cN (nth b.aK 0).tags tag){i:Nat}(hi:i<b.aK.length):
 0≤cN (nth b.aK i).tags tag:=by
 obtain⟨h1,h2,h3,h4,h5⟩:=m5 h
 obtain⟨w1,w2,w3,w4⟩:=lI (h5 i hi)
 apply pB.2
 apply Classical.byContradiction
 intro hn
 have:=vl (l:=tag::(nth b.aK i).tags) (l':=(nth b.aK 0).tags) (List.nodup_cons.2 ⟨hn,mE w3⟩) (by
  intro x hx
  rcases List.mem_cons.1 hx with e | hx
  · rw[e];exact pB.1 ht
  · obtain⟨j,hj⟩:=aLf.1 hx
    have:=(w4 j (aLe.1 hj).1).1
    rwa [bY hj]at this)
 simp only[List.length_cons]at this
 omega
def rp(m:bh)(b:Bel)(tag:Int):Int:=if yg m b=false then 6 else if cN (nth b.aK 0).tags tag<0 then 41 else 0
theorem Qh{m:bh}(h:m.ok)(b:Bel)(hs:b.sz)(tag:Int):aW 0 N.fG [.t m.e,.t b.e,I tag] []=some (I (rp m b tag),[]):=by
 refine aA K.uV rfl ?_
 have v:=T6 h b hs
 unfold rp
 cases hv:yg m b with
 | false=>
   rw[hv]at v
   obtain⟨ws⟩:=b
   simp(disch:=omega)only[go_sem,K.fG,↓reduceIte,v]
 | true=>
   rw[hv]at v
   obtain⟨h1,h2,h3,h4,h5⟩:=m5 hv
   have br:=rm (nth b.aK 0).tags tag (by omega)
   obtain⟨ws⟩:=b
   simp only at h1 br ⊢
   by_cases c:cN (nth ws 0).tags tag<0
   · simp(disch:=omega)only[go_sem,K.fG,↓reduceIte,v,br,c,Bool.true_eq_false]
   · simp(disch:=omega)only[go_sem,K.fG,↓reduceIte,v,br,c,Bool.true_eq_false]
def Xt(a b:Wh)(t:Int):Bool:=(List.range (min a.frm.length b.frm.length)).any fun p=>decide (nth a.frm p≤t∧nth b.frm p≤t)
theorem ab8(a b:Wh)(t:Int)(ha:a.frm.length≤1000000):aW 0 N.kH [.t a.e,.t b.e,I t] []=some (B (Xt a b t),[]):=by
 refine aA K.wX rfl ?_
 obtain⟨t1,l1⟩:=a
 obtain⟨t2,l2⟩:=b
 unfold Xt
 simp only at ha ⊢
 have loop:∀x y z:D,exS aW K.AQ ⟨[x,y,I t,.bp 0 0,.bp 1 0,z,I 0],[.box [I t1,.t (tL l1)],.box [I t2,.t (tL l2)]]⟩=
  some (match (List.range (min l1.length l2.length)).find? (fun p=>decide (nth l1 p≤t∧nth l2 p≤t))with
   | some j=>(.ret,⟨[.und,.und,I t,.bp 0 0,.bp 1 0,B true,I j],[.box [I t1,.t (tL l1)],.box [I t2,.t (tL l2)]]⟩)
   | none=>(.exit 0,⟨[.und,.und,I t,.bp 0 0,.bp 1 0,.und,I (min l1.length l2.length:Nat)],[.box [I t1,.t (tL l1)],.box [I t2,.t (tL l2)]]⟩)):=by
  intro x y z
  refine cL (fun j=>⟨[.und,.und,I t,.bp 0 0,.bp 1 0,.und,I j],[.box [I t1,.t (tL l1)],.box [I t2,.t (tL l2)]]⟩) (min l1.length l2.length) (fun p=>decide (nth l1 p≤t∧nth l2 p≤t)) _ _ rfl ?_ ?_ ?_ (by simp)
  · intro j hj hp
    have hp:¬(nth l1 j≤t∧nth l2 j≤t):=of_decide_eq_false hp
    by_cases c:nth l1 j≤t
    · simp(disch:=omega)only[go_sem,K.kL,↓reduceIte,c]
    · simp(disch:=omega)only[go_sem,K.kL,↓reduceIte,c]
  · intro j hj hp
    have hp:nth l1 j≤t∧nth l2 j≤t:=of_decide_eq_true hp
    refine⟨?_,by simp⟩
    simp(disch:=omega)only[go_sem,K.kL,↓reduceIte]
  · by_cases h1:l1.length≤l2.length
    · have e:min l1.length l2.length=l1.length:=by omega
      rw[e]
      simp(disch:=omega)only[go_sem,K.kL,↓reduceIte]
    · have e:min l1.length l2.length=l2.length:=by omega
      rw[e]
      simp(disch:=omega)only[go_sem,K.kL,↓reduceIte]
 rw[← Qa]
 simp(disch:=omega)only[go_sem,K.kH,↓reduceIte,loop]
 cases hf:(List.range (min l1.length l2.length)).find? (fun p=>decide (nth l1 p≤t∧nth l2 p≤t))with
 | some j=>simp(disch:=omega)only[go_sem,↓reduceIte,Option.isSome]
 | none=>simp(disch:=omega)only[go_sem,↓reduceIte,Option.isSome]
def alK(b:Bel)(cY t:Int)(p:Nat):Bool:=(List.range b.aK.length).any fun i=>decide (0≤cY∧cY<(nth b.aK i).whr.length)&&decide ((p:Int)∈sW (nth (nth b.aK i).whr cY.toNat) t)
def FD(b:Bel)(cY t:Int):List Int:=nS 64 (alK b cY t)
def kh(m:bh)(cu:List Int)(t:Int)(j:Nat):List Wh:=(List.range j).map fun i=>(jt m (nth cu i) t).1
theorem L5(m:bh)(cu:List Int)(t:Int)(j:Nat):kh m cu t (j+1)=kh m cu t j++[(jt m (nth cu j) t).1]:=by
 unfold kh;rw[List.range_succ,List.map_append];rfl
@[simp] theorem vn (m : bh) (cu : List Int) (t : Int) (j : Nat) : (kh m cu t j).length = j := by simp [kh]
def yh(m:bh)(tags cu:List Int)(t:Int):Bel×Int:=
 if tags.length=cu.length∧1≤tags.length∧tags.length≤12 then
  if jj tags=true then match (List.range tags.length).find? (fun i=> !decide ((jt m (nth cu i) t).2=0))with
   | some i=>(⟨[]⟩,(jt m (nth cu i) t).2)
   | none=>(⟨[⟨tags,kh m cu t tags.length⟩]⟩,0)
  else(⟨[]⟩,41)
 else(⟨[]⟩,6)
abbrev stH(m:bh)(tags:List Int)(r:D)(ws:List Wh):ao:=[.box (af m),.box [r],.arr 1 false 0 ((tags.map (T.int .i64)).map .t),.box [.ref 2 0 tags.length,.ref 5 0 ws.length],.arr 2 false 0 [],.arr 2 false 0 ((ws.map Wh.e).map .t)]
theorem Ou{m:bh}(h:m.ok)(tags cu:List Int)(hl:tags.length≤1000000)(t:Int):
 aW 0 N.eX [.t m.e,.t (tL tags),.t (tL cu),I t] []=some (.tup [.t (yh m tags cu t).1.e,I (yh m tags cu t).2],[]):=by
 refine aA K.uM rfl ?_
 have ck:=rZ h
 have pr:=L3 tags hl
 unfold yh
 by_cases c1:tags.length=cu.length
 · by_cases c2:tags.length<1
   · simp(disch:=omega)only[go_sem,K.eX,↓reduceIte,ck,show ¬(tags.length=cu.length∧1≤tags.length∧tags.length≤12)by omega]
     rfl
   · by_cases c3:12<tags.length
     · simp(disch:=omega)only[go_sem,K.eX,↓reduceIte,ck,show ¬(tags.length=cu.length∧1≤tags.length∧tags.length≤12)by omega]
       rfl
     · have c:tags.length=cu.length∧1≤tags.length∧tags.length≤12:=by omega
       rw[if_pos c]
       clear c
       cases hp:jj tags with
       | false=>
         rw[hp]at pr
         simp(disch:=omega)only[go_sem,K.eX,↓reduceIte,ck,pr,aLt]
         rfl
       | true=>
         rw[hp]at pr
         have loop:∀a b c d:D,exS aW K.yJ ⟨[a,.t (tL tags),.t (tL cu),I t,.bp 0 0,.bp 1 0,b,.bp 3 0,I 0,c,d],stH m tags .nil []⟩=
          some (match (List.range tags.length).find? (fun i=> !decide ((jt m (nth cu i) t).2=0))with
           | some i=>(.ret,⟨[.und,.t (tL tags),.t (tL cu),I t,.bp 0 0,.bp 1 0,I (jt m (nth cu i) t).2,.bp 3 0,I i,.bp 6 0,I (jt m (nth cu i) t).2],stH m tags .nil (kh m cu t i)++[.box [I (jt m (nth cu i) t).1.time,.t (tL (jt m (nth cu i) t).1.frm)]]⟩)
           | none=>(.exit 0,⟨[.und,.t (tL tags),.t (tL cu),I t,.bp 0 0,.bp 1 0,.und,.bp 3 0,I tags.length,.und,.und],stH m tags .nil (kh m cu t tags.length)⟩)):=by
          intro a b c d
          refine cL (fun j=>⟨[.und,.t (tL tags),.t (tL cu),I t,.bp 0 0,.bp 1 0,.und,.bp 3 0,I j,.und,.und],stH m tags .nil (kh m cu t j)⟩) tags.length _ _ _ rfl ?_ ?_ ?_ (by simp)
          · intro j hj hp
            have st:=Qd h (nth cu j) t
            have ln:=vn m cu t j
            have hp:(jt m (nth cu j) t).2=0:=by simpa using hp
            rw[L5]
            generalize kh m cu t j=L at*
            generalize jt m (nth cu j) t=r at*
            obtain⟨⟨time,frm⟩,e⟩:=r
            simp only at st hp ⊢
            subst hp
            simp(disch:=omega)only[go_sem,K.oC,↓reduceIte,stH,st,reduceAdd,reduceSub]
            done
          · intro j hj hp
            have st:=Qd h (nth cu j) t
            have ln:=vn m cu t j
            have hp:(jt m (nth cu j) t).2≠0:=by simpa using hp
            generalize kh m cu t j=L at*
            generalize jt m (nth cu j) t=r at*
            obtain⟨⟨time,frm⟩,e⟩:=r
            simp only at st hp ⊢
            refine⟨?_,by simp⟩
            simp(disch:=omega)only[go_sem,K.oC,↓reduceIte,stH,st,reduceAdd,reduceSub]
            done
          · have ln:=vn m cu t tags.length
            generalize kh m cu t tags.length=L at*
            simp(disch:=omega)only[go_sem,K.oC,↓reduceIte]
         simp only[stH,List.map_nil,List.length_nil]at loop
         simp(disch:=omega)only[go_sem,K.eX,↓reduceIte,ck,pr,loop]
         cases hf:(List.range tags.length).find? (fun i=> !decide ((jt m (nth cu i) t).2=0))with
         | some i=>
           simp(disch:=omega)only[go_sem,↓reduceIte]
           rfl
         | none=>
           have ln:=vn m cu t tags.length
           generalize kh m cu t tags.length=L at*
           simp(disch:=omega)only[go_sem,↓reduceIte]
           rfl
 · simp(disch:=omega)only[go_sem,K.eX,↓reduceIte,ck,show ¬(tags.length=cu.length∧1≤tags.length∧tags.length≤12)by omega]
   rfl
@[go_sem] theorem alL : ([] : List D).all pe = true := (rfl)
@[go_sem] theorem aiX (d : D) (r : List D) : (d :: r).all pe = (pe d && r.all pe) := (rfl)
@[go_sem] theorem ab9 (cs : List T) : pe (.t (.agg cs)) = false := (rfl)
@[go_sem] theorem afu (cs : List T) : pe (.t (.sl cs)) = false := (rfl)
@[go_sem] theorem aca (k : IntKind) (n : Int) : pe (.t (.int k n)) = true := (rfl)
@[go_sem] theorem Zi (b : Bool) : pe (.t (.bool b)) = true := (rfl)
@[go_sem] theorem apJ (l : List Wh) (k : Nat) (a : Int) (b : List Int) : (List.map D.t (List.map Wh.e l)).set k (D.t (T.agg [tI a, tL b])) = List.map D.t (List.map Wh.e (l.set k ⟨a, b⟩)) := by
 rw[List.map_set,List.map_set]
def IL(m:bh)(tag:Int)(l:List Int)(a b:Int)(x:World):Wh×Int:=JO m (nth x.whr (cN x.tags tag).toNat) l a b
def Rt(tag:Int)(x:World)(w:Wh):World:=⟨x.tags,x.whr.set (cN x.tags tag).toNat w⟩
def Ov(tag:Int)(r:Wh×Int)(x:World)(out:List World):List World:=
 if r.2=43 then out else out++[if r.2=0 then Rt tag x r.1 else x]
def tU(m:bh)(tag:Int)(l:List Int)(a b:Int)(ws:List World):Nat→List World
 | 0=>[]
 | j+1=>Ov tag (IL m tag l a b (nth ws j)) (nth ws j) (tU m tag l a b ws j)
theorem T7(tag:Int)(r:Wh×Int)(x:World)(out:List World):(Ov tag r x out).length≤out.length+1:=by
 unfold Ov;split<;>simp
theorem A2(m:bh)(tag:Int)(l:List Int)(a b:Int)(ws:List World):∀j,(tU m tag l a b ws j).length≤j
 | 0=>by simp[tU]
 | j+1=>by
   have:=A2 m tag l a b ws j
   have:=T7 tag (IL m tag l a b (nth ws j)) (nth ws j) (tU m tag l a b ws j)
   simp only[tU];omega
abbrev Cq(m:bh)(ws out:List World):ao:=[.box (af m),.box [.t (.sl (ws.map World.e))],.box [.nil],.box [.ref 4 0 out.length],.arr 2 false 0 ((out.map World.e).map .t)]
theorem L6{m:bh}(h:m.ok)(ws:List World)(hw:ws.length≤1000000)(tag:Int)(l:List Int)(hp:l.length≤1000000)(a b:Int)(i:Nat)(hi:i<ws.length)(hs:(nth ws i).sz)
 (hb:0≤cN (nth ws i).tags tag) (hb2:cN (nth ws i).tags tag<(nth ws i).whr.length) (out:List World) (ho:out.length≤1000000):
 ((IL m tag l a b (nth ws i)).2≠6∧(IL m tag l a b (nth ws i)).2≠8→gF true [0,1,9,10,13,14,15,16,17,18] 5 (exS aW K.fN ⟨[.und,.und,I tag,.t (tL l),I a,I b,.bp 0 0,.bp 1 0,.bp 2 0,.und,.und,.bp 3 0,I i,.und,.und,.und,.und,.und,.und],Cq m ws out⟩)=
   some ⟨[.und,.und,I tag,.t (tL l),I a,I b,.bp 0 0,.bp 1 0,.bp 2 0,.und,.und,.bp 3 0,I (i+1),.und,.und,.und,.und,.und,.und],Cq m ws (Ov tag (IL m tag l a b (nth ws i)) (nth ws i) out)⟩)∧
 ((IL m tag l a b (nth ws i)).2=6∨(IL m tag l a b (nth ws i)).2=8→∃vs H,exS aW K.fN ⟨[.und,.und,I tag,.t (tL l),I a,I b,.bp 0 0,.bp 1 0,.bp 2 0,.und,.und,.bp 3 0,I i,.und,.und,.und,.und,.und,.und],Cq m ws out⟩=
   some (.ret,⟨vs,H⟩)∧vs[8]?=some (.bp 2 0)∧vs[9]?=some (I (IL m tag l a b (nth ws i)).2)∧H[2]?=some (.box [.t (.sl (ws.map World.e))])):=by
 unfold IL Ov Rt
 have c1:=qH (nth ws i) hs
 have br:=rm (nth ws i).tags tag (by have:=hs.1;omega)
 have s3:=hs.2.2 _ (ai (l:=(nth ws i).whr) (j:=(cN (nth ws i).tags tag).toNat) (by omega))
 have se:=aiV h (nth (nth ws i).whr (cN (nth ws i).tags tag).toNat) s3 l hp a b
 generalize hx:nth ws i=x at*
 obtain⟨tags,whr⟩:=x
 simp only at c1 br s3 se hb hb2 ⊢
 generalize cN tags tag=k at*
 generalize hy:nth whr k.toNat=y at*
 generalize JO m y l a b=r at*
 obtain⟨⟨time,frm⟩,e⟩:=r
 obtain⟨t0,f0⟩:=y
 obtain⟨s1,s2, -⟩:=hs
 simp only at s1 s2 s3 se ⊢
 constructor
 · rintro ⟨n6,n8⟩
   by_cases e43:e=43
   · subst e43
     simp(disch:=omega)only[go_sem,K.fN,↓reduceIte,Cq,hx,hy,c1,br,se,reduceAdd,reduceSub]
   · by_cases e0:e=0
     · subst e0
       simp(disch:=omega)only[go_sem,K.fN,↓reduceIte,Cq,hx,hy,c1,br,se,reduceAdd,reduceSub]
     · simp(disch:=omega)only[go_sem,K.fN,↓reduceIte,Cq,hx,hy,c1,br,se,reduceAdd,reduceSub]
 · rintro (h68 | h68)<;>subst h68
   · simp(disch:=omega)only[go_sem,K.fN,↓reduceIte,Cq,hx,hy,c1,br,se,reduceAdd,reduceSub]
     exact⟨_,_,rfl,rfl,rfl,rfl⟩
   · simp(disch:=omega)only[go_sem,K.fN,↓reduceIte,Cq,hx,hy,c1,br,se,reduceAdd,reduceSub]
     exact⟨_,_,rfl,rfl,rfl,rfl⟩
def L7(m:bh)(tag:Int)(l:List Int)(a b:Int)(ws:List World)(j:Nat):Bool:=decide ((IL m tag l a b (nth ws j)).2=6∨(IL m tag l a b (nth ws j)).2=8)
def yY(m:bh)(b:Bel)(tag:Int)(l:List Int)(a c:Int):Bel×Int:=
 if rp m b tag≠0 then(b,rp m b tag)else match (List.range b.aK.length).find? (L7 m tag l a c b.aK)with
  | some i=>(b,(IL m tag l a c (nth b.aK i)).2)
  | none=>if(tU m tag l a c b.aK b.aK.length).length=0 then(b,43)else(⟨tU m tag l a c b.aK b.aK.length⟩,0)
theorem T8{m:bh}(h:m.ok)(b:Bel)(hs:b.sz)(tag:Int)(l:List Int)(hp:l.length≤1000000)(a c:Int):
 aW 0 N.jF [.t m.e,.t b.e,I tag,.t (tL l),I a,I c] []=some (.tup [.t (yY m b tag l a c).1.e,I (yY m b tag l a c).2],[]):=by
 refine aA K.zJ rfl ?_
 have cb:=Cp b hs
 have bo:=Qh h b hs tag
 unfold yY
 by_cases e0:rp m b tag=0
 · have hb:yg m b=true:=by
    unfold rp at e0
    by_cases hb:yg m b=true
    · exact hb
    · rw[if_pos (by simpa using hb)]at e0;omega
   have ht:0≤cN (nth b.aK 0).tags tag:=by
    unfold rp at e0
    rw[if_neg (by simp[hb])]at e0
    by_cases ht:cN (nth b.aK 0).tags tag<0
    · rw[if_pos ht]at e0;omega
    · omega
   have bb:∀i,i<b.aK.length→0≤cN (nth b.aK i).tags tag∧cN (nth b.aK i).tags tag<(nth b.aK i).whr.length:=fun i hi=>by
    obtain⟨-, -, -, -,h5⟩:=m5 hb
    obtain⟨w1,w2, -⟩:=lI (h5 i hi)
    have b1:=FC hb ht (i:=i) hi
    have b2:=(Co b1).1
    exact⟨b1,by omega⟩
   rw[e0]at bo
   obtain⟨ws⟩:=b
   obtain⟨s1,s2⟩:=hs
   simp only at s1 s2 bb cb bo ⊢
   have ln:=A2 m tag l a c ws
   have loop:=fun x y z u v w p q r=>A1 (gc:=true) (dead:=[0,1,9,10,13,14,15,16,17,18]) (c:=K.fN)
    (vs:=[x,y,I tag,.t (tL l),I a,I c,.bp 0 0,.bp 1 0,.bp 2 0,z,u,.bp 3 0,I 0,v,w,p,q,r,.und]) (H:=Cq m ws [])
    (fun j=>⟨[.und,.und,I tag,.t (tL l),I a,I c,.bp 0 0,.bp 1 0,.bp 2 0,.und,.und,.bp 3 0,I j,.und,.und,.und,.und,.und,.und],Cq m ws (tU m tag l a c ws j)⟩) ws.length (L7 m tag l a c ws)
    (fun j q=>q.1= .ret∧q.2.vs[8]?=some (.bp 2 0)∧q.2.vs[9]?=some (I (IL m tag l a c (nth ws j)).2)∧q.2.H[2]?=some (.box [.t (.sl (ws.map World.e))]))
    (.exit 0,⟨[.und,.und,I tag,.t (tL l),I a,I c,.bp 0 0,.bp 1 0,.bp 2 0,.und,.und,.bp 3 0,I ws.length,.und,.und,.und,.und,.und,.und],Cq m ws (tU m tag l a c ws ws.length)⟩) rfl
    (fun j hj hq=>by
     have:=ln j
     have hq:¬((IL m tag l a c (nth ws j)).2=6∨(IL m tag l a c (nth ws j)).2=8):=by simpa [L7]using hq
     obtain⟨b1,b2⟩:=bb j hj
     exact(L6 h ws s1 tag l hp a c j hj (s2 _ (ai hj)) b1 b2 (tU m tag l a c ws j) (by omega)).1 (by omega))
    (fun j hj hq=>by
     have:=ln j
     have hq:(IL m tag l a c (nth ws j)).2=6∨(IL m tag l a c (nth ws j)).2=8:=by simpa [L7]using hq
     obtain⟨b1,b2⟩:=bb j hj
     obtain⟨vs,H,q1,q2⟩:=(L6 h ws s1 tag l hp a c j hj (s2 _ (ai hj)) b1 b2 (tU m tag l a c ws j) (by omega)).2 hq
     exact⟨_,q1,by simp,rfl,q2⟩)
    (by
     have:=ln ws.length
     generalize tU m tag l a c ws ws.length=L at*
     simp(disch:=omega)only[go_sem,K.fN,↓reduceIte,Cq,reduceAdd,reduceSub]) (by simp)
   have loop':∀x y z u v w p q r,_∨_:=loop
   clear loop
   rcases loop' (.t m.e) (.t (Bel.e ⟨ws⟩)) (I 0) (I 0) .und .und .und .und .und with⟨e1,e2⟩ | ⟨j,⟨x,vs,H⟩,e1,e2,e3,e4,e5,e6⟩
   · have e2:exS aW K.wR _=_:=e2
     simp only[Cq,List.map_nil,List.length_nil]at e2
     have:=ln ws.length
     rw[e1]
     generalize tU m tag l a c ws ws.length=L at*
     by_cases L0:L.length=0
     · simp(disch:=omega)only[go_sem,K.jF,↓reduceIte,cb,bo,e2,L0,reduceAdd,reduceSub,ne_eq,not_true_eq_false]
     · simp(disch:=omega)only[go_sem,K.jF,↓reduceIte,cb,bo,e2,L0,reduceAdd,reduceSub,ne_eq,not_true_eq_false]
   · have e2:exS aW K.wR _=_:=e2
     simp only[Cq,List.map_nil,List.length_nil]at e2
     rw[e1]
     simp only at e3 e4 e5 e6
     subst e3
     simp(disch:=omega)only[go_sem,K.jF,↓reduceIte,cb,bo,e2,reduceAdd,reduceSub,ne_eq,not_true_eq_false,e4,e5,e6,List.take_zero]
 · obtain⟨ws⟩:=b
   simp(disch:=omega)only[go_sem,K.jF,↓reduceIte,cb,bo,e0,ne_eq,not_false_eq_true]
def IM(m:bh)(tag:Int)(l:List Int)(a b bl:Int)(x:World):Wh×Int:=K5 m (nth x.whr (cN x.tags tag).toNat) l a b bl
def Ru(tag:Int)(r:Wh×Int)(x:World)(out:List World):List World:=out++[if r.2=0 then Rt tag x r.1 else x]
def xi(m:bh)(tag:Int)(l:List Int)(a b bl:Int)(ws:List World):Nat→List World
 | 0=>[]
 | j+1=>Ru tag (IM m tag l a b bl (nth ws j)) (nth ws j) (xi m tag l a b bl ws j)
theorem A3(m:bh)(tag:Int)(l:List Int)(a b bl:Int)(ws:List World):∀j,(xi m tag l a b bl ws j).length=j
 | 0=>rfl
 | j+1=>by
   simp only[xi,Ru,aLv,A3 m tag l a b bl ws j,List.length_singleton]
theorem L8{m:bh}(h:m.ok)(ws:List World)(hw:ws.length≤1000000)(tag:Int)(l:List Int)(hp:l.length≤1000000)(a b bl:Int)(i:Nat)(hi:i<ws.length)(hs:(nth ws i).sz)
 (hb:0≤cN (nth ws i).tags tag) (hb2:cN (nth ws i).tags tag<(nth ws i).whr.length) (out:List World) (ho:out.length≤1000000):
 ((IM m tag l a b bl (nth ws i)).2≠6∧(IM m tag l a b bl (nth ws i)).2≠8→gF true [0,1,10,11,14,15,16,17] 5 (exS aW K.ec ⟨[.und,.und,I tag,.t (tL l),I a,I b,I bl,.bp 0 0,.bp 1 0,.bp 2 0,.und,.und,.bp 3 0,I i,.und,.und,.und,.und],Cq m ws out⟩)=
   some ⟨[.und,.und,I tag,.t (tL l),I a,I b,I bl,.bp 0 0,.bp 1 0,.bp 2 0,.und,.und,.bp 3 0,I (i+1),.und,.und,.und,.und],Cq m ws (Ru tag (IM m tag l a b bl (nth ws i)) (nth ws i) out)⟩)∧
 ((IM m tag l a b bl (nth ws i)).2=6∨(IM m tag l a b bl (nth ws i)).2=8→∃vs H,exS aW K.ec ⟨[.und,.und,I tag,.t (tL l),I a,I b,I bl,.bp 0 0,.bp 1 0,.bp 2 0,.und,.und,.bp 3 0,I i,.und,.und,.und,.und],Cq m ws out⟩=
   some (.ret,⟨vs,H⟩)∧vs[9]?=some (.bp 2 0)∧vs[10]?=some (I (IM m tag l a b bl (nth ws i)).2)∧H[2]?=some (.box [.t (.sl (ws.map World.e))])):=by
 unfold IM Ru Rt
 have c1:=qH (nth ws i) hs
 have br:=rm (nth ws i).tags tag (by have:=hs.1;omega)
 have s3:=hs.2.2 _ (ai (l:=(nth ws i).whr) (j:=(cN (nth ws i).tags tag).toNat) (by omega))
 have se:=aiW h (nth (nth ws i).whr (cN (nth ws i).tags tag).toNat) s3 l hp a b bl
 generalize hx:nth ws i=x at*
 obtain⟨tags,whr⟩:=x
 simp only at c1 br s3 se hb hb2 ⊢
 generalize cN tags tag=k at*
 generalize hy:nth whr k.toNat=y at*
 generalize K5 m y l a b bl=r at*
 obtain⟨⟨time,frm⟩,e⟩:=r
 obtain⟨t0,f0⟩:=y
 obtain⟨s1,s2, -⟩:=hs
 simp only at s1 s2 s3 se ⊢
 constructor
 · rintro ⟨n6,n8⟩
   by_cases e0:e=0
   · subst e0
     simp(disch:=omega)only[go_sem,K.ec,↓reduceIte,Cq,hx,hy,c1,br,se,reduceAdd,reduceSub]
   · simp(disch:=omega)only[go_sem,K.ec,↓reduceIte,Cq,hx,hy,c1,br,se,reduceAdd,reduceSub]
 · rintro (h68 | h68)<;>subst h68
   · simp(disch:=omega)only[go_sem,K.ec,↓reduceIte,Cq,hx,hy,c1,br,se,reduceAdd,reduceSub]
     exact⟨_,_,rfl,rfl,rfl,rfl⟩
   · simp(disch:=omega)only[go_sem,K.ec,↓reduceIte,Cq,hx,hy,c1,br,se,reduceAdd,reduceSub]
     exact⟨_,_,rfl,rfl,rfl,rfl⟩
def L9(m:bh)(tag:Int)(l:List Int)(a b bl:Int)(ws:List World)(j:Nat):Bool:=decide ((IM m tag l a b bl (nth ws j)).2=6∨(IM m tag l a b bl (nth ws j)).2=8)
def yZ(m:bh)(b:Bel)(tag:Int)(l:List Int)(a c bl:Int):Bel×Int:=
 if rp m b tag≠0 then(b,rp m b tag)else match (List.range b.aK.length).find? (L9 m tag l a c bl b.aK)with
  | some i=>(b,(IM m tag l a c bl (nth b.aK i)).2)
  | none=>(⟨xi m tag l a c bl b.aK b.aK.length⟩,0)
theorem Ow{m:bh}{b:Bel}{tag:Int}(e0:rp m b tag=0):yg m b=true∧∀i,i<b.aK.length→0≤cN (nth b.aK i).tags tag∧cN (nth b.aK i).tags tag<(nth b.aK i).whr.length:=by
 have hb:yg m b=true:=by
  unfold rp at e0
  by_cases hb:yg m b=true
  · exact hb
  · rw[if_pos (by simpa using hb)]at e0;omega
 have ht:0≤cN (nth b.aK 0).tags tag:=by
  unfold rp at e0
  rw[if_neg (by simp[hb])]at e0
  by_cases ht:cN (nth b.aK 0).tags tag<0
  · rw[if_pos ht]at e0;omega
  · omega
 refine⟨hb,fun i hi=>?_⟩
 obtain⟨-, -, -, -,h5⟩:=m5 hb
 obtain⟨w1,w2, -⟩:=lI (h5 i hi)
 have b1:=FC hb ht (i:=i) hi
 have b2:=(Co b1).1
 exact⟨b1,by omega⟩
theorem T9{m:bh}(h:m.ok)(b:Bel)(hs:b.sz)(tag:Int)(l:List Int)(hp:l.length≤1000000)(a c bl:Int):
 aW 0 N.fw [.t m.e,.t b.e,I tag,.t (tL l),I a,I c,I bl] []=some (.tup [.t (yZ m b tag l a c bl).1.e,I (yZ m b tag l a c bl).2],[]):=by
 refine aA K.sF rfl ?_
 have cb:=Cp b hs
 have bo:=Qh h b hs tag
 unfold yZ
 by_cases e0:rp m b tag=0
 · obtain⟨hb,bb⟩:=Ow e0
   rw[e0]at bo
   obtain⟨ws⟩:=b
   obtain⟨s1,s2⟩:=hs
   simp only at s1 s2 bb cb bo ⊢
   have ln:=A3 m tag l a c bl ws
   have loop:=fun x y u v w p q r=>A1 (gc:=true) (dead:=[0,1,10,11,14,15,16,17]) (c:=K.ec)
    (vs:=[x,y,I tag,.t (tL l),I a,I c,I bl,.bp 0 0,.bp 1 0,.bp 2 0,u,v,.bp 3 0,I 0,w,p,q,r]) (H:=Cq m ws [])
    (fun j=>⟨[.und,.und,I tag,.t (tL l),I a,I c,I bl,.bp 0 0,.bp 1 0,.bp 2 0,.und,.und,.bp 3 0,I j,.und,.und,.und,.und],Cq m ws (xi m tag l a c bl ws j)⟩) ws.length (L9 m tag l a c bl ws)
    (fun j q=>q.1= .ret∧q.2.vs[9]?=some (.bp 2 0)∧q.2.vs[10]?=some (I (IM m tag l a c bl (nth ws j)).2)∧q.2.H[2]?=some (.box [.t (.sl (ws.map World.e))]))
    (.exit 0,⟨[.und,.und,I tag,.t (tL l),I a,I c,I bl,.bp 0 0,.bp 1 0,.bp 2 0,.und,.und,.bp 3 0,I ws.length,.und,.und,.und,.und],Cq m ws (xi m tag l a c bl ws ws.length)⟩) rfl
    (fun j hj hq=>by
     have:=ln j
     have hq:¬((IM m tag l a c bl (nth ws j)).2=6∨(IM m tag l a c bl (nth ws j)).2=8):=by simpa [L9]using hq
     obtain⟨b1,b2⟩:=bb j hj
     exact(L8 h ws s1 tag l hp a c bl j hj (s2 _ (ai hj)) b1 b2 (xi m tag l a c bl ws j) (by omega)).1 (by omega))
    (fun j hj hq=>by
     have:=ln j
     have hq:(IM m tag l a c bl (nth ws j)).2=6∨(IM m tag l a c bl (nth ws j)).2=8:=by simpa [L9]using hq
     obtain⟨b1,b2⟩:=bb j hj
     obtain⟨vs,H,q1,q2⟩:=(L8 h ws s1 tag l hp a c bl j hj (s2 _ (ai hj)) b1 b2 (xi m tag l a c bl ws j) (by omega)).2 hq
     exact⟨_,q1,by simp,rfl,q2⟩)
    (by
     have:=ln ws.length
     generalize xi m tag l a c bl ws ws.length=L at*
     simp(disch:=omega)only[go_sem,K.ec,↓reduceIte,Cq,reduceAdd,reduceSub]) (by simp)
   rcases loop (.t m.e) (.t (Bel.e ⟨ws⟩)) (I 0) (I 0) .und .und .und .und with⟨e1,e2⟩ | ⟨j,⟨x,vs,H⟩,e1,e2,e3,e4,e5,e6⟩
   · have e2:exS aW K.qU _=_:=e2
     simp only[Cq,List.map_nil,List.length_nil]at e2
     have:=ln ws.length
     rw[e1]
     generalize xi m tag l a c bl ws ws.length=L at*
     simp(disch:=omega)only[go_sem,K.fw,↓reduceIte,cb,bo,e2,reduceAdd,reduceSub,ne_eq,not_true_eq_false]
   · have e2:exS aW K.qU _=_:=e2
     simp only[Cq,List.map_nil,List.length_nil]at e2
     rw[e1]
     simp only at e3 e4 e5 e6
     subst e3
     simp(disch:=omega)only[go_sem,K.fw,↓reduceIte,cb,bo,e2,reduceAdd,reduceSub,ne_eq,not_true_eq_false,e4,e5,e6,List.take_zero]
 · obtain⟨ws⟩:=b
   simp(disch:=omega)only[go_sem,K.fw,↓reduceIte,cb,bo,e0,ne_eq,not_false_eq_true]
end Go.Ev
namespace Go.Ev
open Go
section
variable (H : ao) (sz id ep n lo hi : Nat) (i j : Int) (fz : Bool)
def scO(r:D):Option Obj→Option (D×ao)
 | some (.arr sz' _ ep' es)=>if ep=ep'∧n=es.length then(if sz'=sz then some (r,H)else none)else none
 | _=>none
@[go_sem] theorem aoy (r : D) (sz' : Nat) (pin : Bool) (es : List D) : scO H sz ep n r (some (.arr sz' pin ep es)) = if n = es.length then (if sz' = sz then some (r, H) else none) else none := by simp [scO]
theorem scR{l h:Nat}:((jU H id ep n).bind fun a=>if l≤h∧h≤n∧a.1=sz then some (D.sub id ep n l h)else none).map (fun d=>(d,H))=if l≤h then(if h≤n then scO H sz ep n (.sub id ep n l h) H[id]? else none)else none:=by
 simp only[jU]
 generalize H[id]?=o
 by_cases h1:l≤h
 · by_cases h2:h≤n
   · rw[if_pos h1,if_pos h2]
     rcases o with _ | (_ | ⟨sz',pin,ep',es⟩)
     · rfl
     · rfl
     · simp only[scO]
       by_cases h3:ep=ep'∧n=es.length
       · rw[if_pos h3,if_pos h3,aLq]
         by_cases h4:sz'=sz
         · rw[if_pos h4,if_pos ⟨h1,h2,h4⟩];rfl
         · rw[if_neg h4,if_neg fun h=>h4 h.2.2];rfl
       · rw[if_neg h3,if_neg h3];rfl
   · rw[if_pos h1,if_neg h2]
     rcases o with _ | (_ | ⟨sz',pin,ep',es⟩)
     · rfl
     · rfl
     · by_cases h3:ep=ep'∧n=es.length
       · simp only[if_pos h3,aLq];rw[if_neg fun h=>h2 h.2.1];rfl
       · simp only[if_neg h3];rfl
 · rw[if_neg h1]
   rcases o with _ | (_ | ⟨sz',pin,ep',es⟩)
   · rfl
   · rfl
   · by_cases h3:ep=ep'∧n=es.length
     · simp only[if_pos h3,aLq];rw[if_neg fun h=>h1 h.1];rfl
     · simp only[if_neg h3];rfl
@[go_sem] theorem acb : LJ H sz (some (.ref id ep n)) (some none) (some (some i)) = if 0 ≤ i then (if i ≤ n then scO H sz ep n (.sub id ep n 0 i.toNat) H[id]? else none) else none := by
 simp only[LJ,aLq,rS,bound,idx]
 by_cases h1:0≤i
 · rw[if_pos h1,if_pos h1,aLq,scR,if_pos (Nat.zero_le _)]
   by_cases h2:i≤n
   · rw[if_pos h2,if_pos (by omega)]
   · rw[if_neg h2,if_neg (by omega)]
 · rw[if_neg h1,if_neg h1];rfl
@[go_sem] theorem acd : LJ H sz (some (.ref id ep n)) (some (some i)) (some none) = if 0 ≤ i then (if i ≤ n then scO H sz ep n (.sub id ep n i.toNat n) H[id]? else none) else none := by
 simp only[LJ,aLq,rS,bound,idx]
 by_cases h1:0≤i
 · rw[if_pos h1,if_pos h1,aLq,scR]
   by_cases h2:i≤n
   · rw[if_pos h2,if_pos (by omega),if_pos (by omega)]
   · rw[if_neg h2,if_neg (by omega)]
 · rw[if_neg h1,if_neg h1];rfl
@[go_sem] theorem Xu : LJ H sz (some (.ref id ep n)) (some (some i)) (some (some j)) = if 0 ≤ i then (if i ≤ j then (if j ≤ n then scO H sz ep n (.sub id ep n i.toNat j.toNat) H[id]? else none) else none) else none := by
 simp only[LJ,aLq,rS,bound,idx]
 by_cases h1:0≤i
 · rw[if_pos h1,if_pos h1,aLq]
   by_cases h0:i≤j
   · rw[if_pos h0,if_pos (by omega),aLq,scR,if_pos (by omega)]
     by_cases h2:j≤n
     · rw[if_pos h2,if_pos (by omega)]
     · rw[if_neg h2,if_neg (by omega)]
   · rw[if_neg h0]
     by_cases h2:0≤j
     · rw[if_pos h2,aLq,scR,if_neg (by omega)]
     · rw[if_neg h2];rfl
 · rw[if_neg h1,if_neg h1];rfl
@[go_sem] theorem ace : LJ H sz (some .nil) (some none) (some (some i)) = if i = 0 then some (.nil, H) else none := by
 simp only[LJ,aLq,rS,bound,idx]
 by_cases h1:0≤i
 · rw[if_pos h1,aLq]
   by_cases h2:i=0
   · rw[if_pos h2,if_pos (by omega)];rfl
   · rw[if_neg h2,if_neg (by omega)];rfl
 · rw[if_neg h1,if_neg (by omega)];rfl
@[go_sem] theorem acf : LJ H sz (some .nil) (some (some i)) (some none) = if i = 0 then some (.nil, H) else none := by
 simp only[LJ,aLq,rS,bound,idx]
 by_cases h1:0≤i
 · rw[if_pos h1,aLq]
   by_cases h2:i=0
   · rw[if_pos h2,if_pos (by omega)];rfl
   · rw[if_neg h2,if_neg (by omega)];rfl
 · rw[if_neg h1,if_neg (by omega)];rfl
def Ox(x:D)(ys:List D):Option (D×ao):=if cB sz ys=true then(match x with
 | .nil=>if ys.length≤4294967296 then some (.ref H.length 0 ys.length,H++[.arr sz false 0 ys])else none
 | .ref id ep n=>Df H sz id ep n ys H[id]?
 | .cl es=>if 0<ys.length∧es.length+ys.length≤lim∧cB sz (es.map .t)=true then some (.ref H.length 0 (es.map D.t++ys).length,H++[.arr sz false 0 (es.map .t++ys)])else none
 | _=>none)else none
@[go_sem] theorem alM (ys : List D) : Ox H sz .nil ys = if cB sz ys = true then (if ys.length ≤ 4294967296 then some (.ref H.length 0 ys.length, H ++ [.arr sz false 0 ys]) else none) else none := (rfl)
@[go_sem] theorem alN (ys : List D) : Ox H sz (.ref id ep n) ys = if cB sz ys = true then Df H sz id ep n ys H[id]? else none := (rfl)
@[go_sem] theorem aoz (es : List T) (ys : List D) : Ox H sz (.cl es) ys = if cB sz ys = true then (if 0 < ys.length ∧ es.length + ys.length ≤ 4294967296 ∧ cB sz (es.map .t) = true then some (.ref H.length 0 (es.map D.t ++ ys).length, H ++ [.arr sz false 0 (es.map .t ++ ys)]) else none) else none := (rfl)
@[go_sem] theorem Zj : cB sz [] = true := (rfl)
@[go_sem] theorem JT (d : D) (r : List D) : cB sz (d :: r) = sC sz d.cells := by
 rw[Bool.eq_iff_iff,hU];simp[cB]
def aiY(x:D):Option Obj→Option (D×ao)
 | some (.arr _ _ ep' es)=>if ep=ep'∧n=es.length then Ox H sz x ((es.drop lo).take (hi-lo))else none
 | _=>none
def aiZ(x:D):Option Obj→Option (D×ao)
 | some (.arr _ _ ep' es)=>if ep=ep'∧n=es.length then Ox H sz x es else none
 | _=>none
@[go_sem] theorem alO (x : D) (sz' : Nat) (pin : Bool) (es : List D) : aiY H sz ep n lo hi x (some (.arr sz' pin ep es)) = if n = es.length then Ox H sz x ((es.drop lo).take (hi - lo)) else none := by simp [aiY]
@[go_sem] theorem alQ (x : D) (sz' : Nat) (pin : Bool) (es : List D) : aiZ H sz ep n x (some (.arr sz' pin ep es)) = if n = es.length then Ox H sz x es else none := by simp [aiZ]
theorem Ua(x:D)(ys:List D):(if cB sz ys=true then(match x with
 | .nil=>if ys.length≤lim then some (D.ref H.length 0 ys.length,H++[.arr sz false 0 ys])else none
 | .ref id ep n=>(jU H id ep n).bind fun a=>if a.1=sz∧n+ys.length≤lim then some (.ref id ep (n+ys.length),H.set id (.arr sz a.2.1 ep (a.2.2++ys)))else none
 | .cl es=>if 0<ys.length∧es.length+ys.length≤lim∧cB sz (es.map .t)=true then some (.ref H.length 0 (es.map D.t++ys).length,H++[.arr sz false 0 (es.map .t++ys)])else none
 | _=>none)else none)=Ox H sz x ys:=by
 unfold Ox
 split
 · cases x with
   | ref id ep n=>
     simp only[jU]
     generalize H[id]?=o
     rcases o with _ | (_ | ⟨sz',pin,ep',es⟩)
     · rfl
     · rfl
     · simp only[Df]
       by_cases h1:ep=ep'∧n=es.length
       · rw[if_pos h1,aLq]
         by_cases h2:sz'=sz∧n+ys.length≤lim
         · rw[if_pos h2,if_pos ⟨h1.1,h1.2,h2⟩]
         · rw[if_neg h2,if_neg fun h=>h2 h.2.2]
       · rw[if_neg h1,if_neg fun h=>h1 ⟨h.1,h.2.1⟩];rfl
   | _=>rfl
 · rfl
theorem Cr(x y:D)(ys:List D)(h:elems H y=some ys):uJ H sz false (some x) (some y)=Ox H sz x ys:=by
 simp only[uJ,aLq,qO,h,aLt,if_false]
 exact Ua H sz x ys
@[go_sem] theorem V0 (x : D) : uJ H sz false (some x) (some .nil) = Ox H sz x [] := Cr H sz x .nil [] rfl
@[go_sem] theorem V1 (x : D) : uJ H sz false (some x) (some (.ref id ep n)) = aiZ H sz ep n x H[id]? := by
 cases he:elems H (.ref id ep n)with
 | some ys=>
   rw[Cr H sz x _ ys he]
   simp only[elems,jU]at he
   generalize H[id]?=o at he
   rcases o with _ | (_ | ⟨sz',pin,ep',es⟩)
   · cases he
   · cases he
   · simp only[aiZ]
     by_cases h1:ep=ep'∧n=es.length
     · simp only[if_pos h1]at he ⊢;cases he;rfl
     · simp only[if_neg h1]at he;cases he
 | none=>
   have:uJ H sz false (some x) (some (.ref id ep n))=none:=by simp only[uJ,aLq,qO,he];rfl
   rw[this]
   simp only[elems,jU]at he
   generalize H[id]?=o at he
   rcases o with _ | (_ | ⟨sz',pin,ep',es⟩)
   · rfl
   · rfl
   · simp only[aiZ]
     by_cases h1:ep=ep'∧n=es.length
     · simp only[if_pos h1]at he;cases he
     · simp only[if_neg h1]
@[go_sem] theorem V2 (x : D) : uJ H sz false (some x) (some (.sub id ep n lo hi)) = aiY H sz ep n lo hi x H[id]? := by
 cases he:elems H (.sub id ep n lo hi)with
 | some ys=>
   rw[Cr H sz x _ ys he]
   simp only[elems,jU]at he
   generalize H[id]?=o at he
   rcases o with _ | (_ | ⟨sz',pin,ep',es⟩)
   · cases he
   · cases he
   · simp only[aiY]
     by_cases h1:ep=ep'∧n=es.length
     · simp only[if_pos h1]at he ⊢;cases he;rfl
     · simp only[if_neg h1]at he;cases he
 | none=>
   have:uJ H sz false (some x) (some (.sub id ep n lo hi))=none:=by simp only[uJ,aLq,qO,he];rfl
   rw[this]
   simp only[elems,jU]at he
   generalize H[id]?=o at he
   rcases o with _ | (_ | ⟨sz',pin,ep',es⟩)
   · rfl
   · rfl
   · simp only[aiY]
     by_cases h1:ep=ep'∧n=es.length
     · simp only[if_pos h1]at he;cases he
     · simp only[if_neg h1]
def afv(ep n lo hi:Nat):Option Obj→Option (List D)
 | some (.arr _ _ ep' es)=>if ep=ep'∧n=es.length then some ((es.drop lo).take (hi-lo))else none
 | _=>none
def alR(x:D):Option (List D)→Option (D×ao)
 | some ys0=>(cO (fun d=>(frz H depth d).map .t) ys0).bind fun ys=>if cB sz ys then Ox (pins H (ys0.flatMap (jT H depth))) sz x ys else none
 | none=>none
@[go_sem] theorem apK (x : D) (ts : List T) : alR H sz x (some (ts.map .t)) = Ox H sz x (ts.map .t) := by
 simp only[alR,AN,aLq,TK,pins]
 by_cases h:cB sz (ts.map D.t)=true
 · rw[if_pos h]
 · rw[if_neg h];unfold Ox;rw[if_neg h]
@[go_sem] theorem Xv (x : D) : uJ H sz true (some x) (some (.sub id ep n lo hi)) = alR H sz x (afv ep n lo hi H[id]?) := by
 have e:elems H (.sub id ep n lo hi)=afv ep n lo hi H[id]?:=by
  simp only[elems,jU]
  generalize H[id]?=o
  rcases o with _ | (_ | ⟨sz',pin,ep',es⟩)
  · rfl
  · rfl
  · simp only[afv]
    by_cases h1:ep=ep'∧n=es.length
    · simp only[if_pos h1];rfl
    · simp only[if_neg h1];rfl
 simp only[uJ,aLq,qO,e]
 cases afv ep n lo hi H[id]? with
 | none=>rfl
 | some ys0=>
   simp only[aLq,alR,if_true]
   cases hm:cO (fun d=>(frz H depth d).map D.t) ys0 with
   | none=>rfl
   | some ys=>
     simp only[aLq]
     refine(Ua _ _ _ _).trans ?_
     by_cases h:cB sz ys=true
     · rw[if_pos h]
     · rw[if_neg h];unfold Ox;rw[if_neg h]
@[go_sem] theorem alS (ep n lo hi sz : Nat) (pin : Bool) (ts : List T) : afv ep n lo hi (some (.arr sz pin ep (ts.map .t))) = if n = ts.length then some (((ts.drop lo).take (hi - lo)).map .t) else none := by
 simp only[afv,true_and,List.length_map,List.map_take,List.map_drop]
def Ub(ds:List D):Option (D×ao):=if ds.all (fun d=>d.cells.length==sz&&d.lD)then some (.ref H.length 0 ds.length,H++[.arr sz false 0 ds])else none
@[go_sem] theorem apL (call : bf) (get : X → Option D) (xs : List X) : evO call get H (.bsr xs sz) = (cO get xs).bind (Ub H sz) := (rfl)
@[go_sem] theorem ai0 : Ub H sz [] = some (.ref H.length 0 0, H ++ [.arr sz false 0 []]) := (rfl)
@[go_sem] theorem ai1 (k : IntKind) (n : Int) : Ub H 1 [.t (.int k n)] = some (.ref H.length 0 1, H ++ [.arr 1 false 0 [.t (.int k n)]]) := (rfl)
@[go_sem] theorem ai2 (cs : List D) : Ub H sz [.agg cs] = if sC sz cs = true then some (.ref H.length 0 1, H ++ [.arr sz false 0 [.agg cs]]) else none := by
 simp only[Ub,List.all_cons,List.all_nil,Bool.and_true,D.cells,D.lD]
 by_cases h:sC sz cs=true
 · rw[if_pos h,if_pos (by simpa using hU.1 h)];rfl
 · rw[if_neg h,if_neg (by intro e;exact h (hU.2 (by simpa using e)))]
end
@[go_sem] theorem Zk : (1 : Int).toNat = 1 := (rfl)
@[go_sem] theorem acg : (2 : Int).toNat = 2 := (rfl)
@[go_sem] theorem Xw : (3 : Int).toNat = 3 := (rfl)
section
variable {H t : ao} {i j k : Nat} {o o' : Obj}
theorem IN(h:i<H.length):(H++t)[i]?=H[i]?:=aLg h
theorem tV:(H++t)[H.length]?=t[0]?:=by rw[aLh (aLs _),Nat.sub_self]
theorem pC:(H++t)[H.length+k]?=t[k]?:=by rw[aLh (Nat.le_add_right _ _),Nat.add_sub_cancel_left]
theorem Cs:(H++t).set H.length o=H++t.set 0 o:=by rw[List.set_append_right _ _ (aLs _),Nat.sub_self]
theorem IP(h:i<H.length):(H.set i o)[i]?=some o:=by simp[h]
theorem A4(h:i≠j):(H.set i o)[j]?=H[j]?:=aLi h
theorem Ct:(H.set i o).set i o'=H.set i o':=List.set_set ..
theorem JU(a b:ao):(H++a)++b=H++(a++b):=List.append_assoc ..
theorem Uc(h:H[i]?=some o):i<H.length:=(aLe.1 h).1
end
theorem Oy(H:ao)(id sz n:Nat)(es:List D)(ts:List T)(hid:H[id]?=some (.arr sz false 0 es))(hn:n=es.length)(hf:cO (frz H 8) es=some ts)(ha:∀i∈es.flatMap (jT H 8),i≠id):
 finish 0 1 H [.ref id 0 n]=some (.ref 0 0 n,[.arr sz false 0 (ts.map .t)]):=by
 have hold:([D.ref id 0 n].all (old 0 depth)&&(H.take 0).all (fun o=>o.ds.all (old 0 depth)))=false:=by
  simp[old,depth]
 have hmap:∀ {es:List D} {ts:List T},cO (frz H 8) es=some ts→cO (fun d=>(frz H 8 d).map D.t) es=some (ts.map .t):=by
  intro es
  induction es with
  | nil=>intro ts h;simp[cO]at h;subst h;rfl
  | cons e es ih=>
    intro ts h
    simp only[cO,aLa,aLb]at h
    obtain⟨y,hy,r,hr,rfl⟩:=h
    simp only[cO,hy,aLw,aLq,ih hr,List.map_cons]
 have hnew:(gM [] [id]).drop 0=[id]:=by simp[gM]
 have hall:(es.flatMap (jT H 8)).all (fun i=> !([]++[id]).contains i)=true:=by
  rw[aLx];intro i hi;simpa using ha i hi
 unfold finish
 rw[if_neg (by omega),aLq,hold,if_neg (by simp)]
 have hk:pN H (max 1 1) (List.range 0) ([D.ref id 0 n].flatMap (ids depth)++tx H (List.range 0))=some ([id],[.arr sz false 0 (ts.map .t)]):=by
  have e1:[D.ref id 0 n].flatMap (ids depth)++tx H (List.range 0)=[id]:=by simp[ids,depth,tx]
  rw[e1]
  simp only[Nat.max_self,List.range_zero]
  unfold pN
  simp only[List.length_nil,hnew,pick,hid,aLq,aLw,if_true,List.flatMap_cons,List.flatMap_nil,List.append_nil,Obj.ds,depth,hall,cO,fS,hmap hf]
  simp only[pN,aLw,List.append_nil,aLq]
 rw[hk]
 simp only[aLq,List.range_zero,List.nil_append,List.take_zero,mO,Nat.succ_ne_zero,if_false,Nat.one_ne_zero,List.all_nil,if_true,cO,ren,idxOf,aLw,jW,B1,depth]
 have:=TN (fun i=>if id=i then some 0 else Option.map (fun x=>x+1) none) ts
 simp only[depth]at this
 rw[this];rfl
end Go.Ev
namespace Go.Ev
open Go
variable [Lib] [dM] [dh]
theorem JV{gc:Bool}{dead:List Nat}{c:C}{vs:List D}{H:ao}(P:Nat→St→Prop)(n:Nat)(Q:Ex×St→Prop)(h0:P 0 ⟨ov dead vs,H⟩)
 (hs:∀j st,j<n→P j st→∃st',gF gc dead st.H.length (exS aW c st)=some st'∧P (j+1) st')
 (he:∀st,P n st→∃q,exS aW c st=some q∧q.1≠ .normal∧Q q):∃q,exS aW (.loop gc dead c) ⟨vs,H⟩=some q∧Q q:=by
 have key:∀(k j:Nat) (st:St),j+k=n→P j st→∃q,qQ gc dead (exS aW c) st=some q∧Q q:=by
  intro k
  induction k with
  | zero=>
    intro j st hj hp
    obtain⟨q,h1,h2,h3⟩:=he st (by rw[← hj];exact hp)
    exact⟨q,fC h1 h2,h3⟩
  | succ k ih=>
    intro j st hj hp
    obtain⟨st',h1,h2⟩:=hs j st (by omega) hp
    obtain⟨q,h3,h4⟩:=ih (j+1) st' (by omega) h2
    exact⟨q,nO h1 h3,h4⟩
 exact key n 0 _ (by omega) h0
abbrev ints(l:List Int):List D:=(l.map (T.int .i64)).map .t
abbrev whs(l:List Wh):List D:=(l.map Wh.e).map .t
def jO(out:List World)(x:World):Nat:=match (List.range out.length).find? (fun k=> !xh (nth out k).tags x.tags)with
 | some k=>k
 | none=>out.length
theorem JW(out:List World)(x:World):jO out x≤out.length:=by
 unfold jO
 split
 · rename_i k h;exact Nat.le_of_lt (Fs h).1
 · exact aLs _
def rq(a b:List Wh):Nat→List Wh
 | 0=>a
 | p+1=>(rq a b p).set p (rO (nth a p) (nth b p)).1
theorem tW(a b:List Wh):∀p,(rq a b p).length=a.length
 | 0=>rfl
 | p+1=>by simp only[rq,List.length_set,tW a b p]
theorem Ma(a b:List Wh):∀p q,p≤q→nth (rq a b p) q=nth a q
 | 0,q,_=>rfl
 | p+1,q,h=>by
   have e:nth ((rq a b p).set p (rO (nth a p) (nth b p)).1) q=nth (rq a b p) q:=by
    unfold nth;rw[aLl,aLi (by omega),←aLl]
   simp only[rq,e]
   exact Ma a b p q (by omega)
def IQ(a b:List Wh):List Wh:=rq a b (min a.length b.length)
def xj(out:List World)(x:World):List World:=
 if jO out x<out.length∧(nth out (jO out x)).tags=x.tags then out.set (jO out x) ⟨x.tags,IQ (nth out (jO out x)).whr x.whr⟩
 else out.take (jO out x)++[x]++out.drop (jO out x)
def zP(l:List World):Nat→List World
 | 0=>[]
 | j+1=>xj (zP l j) (nth l j)
def Hc(l:List World):List World:=zP l l.length
structure Rp(H:ao)(id:Nat)(es:List D)(fa fb:Nat→Nat)(out:List World):Prop where
 arr:H[id]?=some (.arr 2 false 0 es)
 len:es.length=out.length
 el:∀j,j<out.length→es[j]?=some (.agg [.ref (fa j) 0 (nth out j).tags.length,.ref (fb j) 0 (nth out j).whr.length])
 ha:∀j,j<out.length→H[fa j]?=some (.arr 1 false 0 (ints (nth out j).tags))
 hb:∀j,j<out.length→H[fb j]?=some (.arr 2 false 0 (whs (nth out j).whr))
 na:∀j,j<out.length→fa j≠id
 nb:∀j,j<out.length→fb j≠id
 nab:∀i j,i<out.length→j<out.length→fa i≠fb j
 nbb:∀i j,i<out.length→j<out.length→i≠j→fb i≠fb j
def Rep(H:ao)(v:D)(out:List World):Prop:=(v= .nil∧out=[])∨∃id es fa fb,v= .ref id 0 out.length∧0<out.length∧Rp H id es fa fb out
theorem ach(l:List World)(i:Nat)(hi:i<l.length)(out:List World)(ho:out.length≤1000000)(hso:∀x∈out,x.sz)(hsx:(nth l i).sz)(H:ao)(v:D)(hr:Rep H v out)(a b:D):
 exS aW K.uS ⟨[.t (.sl (l.map World.e)),a,v,I i,I 0,b],H⟩=some (.exit 2,⟨[.t (.sl (l.map World.e)),.und,v,I i,I (jO out (nth l i)),.und],H⟩):=by
 rcases hr with⟨rfl,rfl⟩ | ⟨id,es,fa,fb,rfl,h0,hr⟩
 · have:jO [] (nth l i)=0:=rfl
   rw[this]
   refine Fp (fC ?_ (by simp))
   simp(disch:=omega)only[go_sem,K.m0,↓reduceIte,reduceAdd,reduceSub]
 · have key:exS aW K.uS ⟨[.t (.sl (l.map World.e)),a,.ref id 0 out.length,I i,I 0,b],H⟩=some (match (List.range out.length).find? (fun k=> !xh (nth out k).tags (nth l i).tags)with
    | some k=>(.exit 2,⟨[.t (.sl (l.map World.e)),.und,.ref id 0 out.length,I i,I k,.und],H⟩)
    | none=>(.exit 2,⟨[.t (.sl (l.map World.e)),.und,.ref id 0 out.length,I i,I out.length,.und],H⟩)):=by
    refine cL (fun k=>⟨[.t (.sl (l.map World.e)),.und,.ref id 0 out.length,I i,I k,.und],H⟩) out.length _ _ _ rfl ?_ ?_ ?_ (by simp)
    · intro k hk hp
      have hp:xh (nth out k).tags (nth l i).tags=true:=by simpa using hp
      have s1:=(hso _ (ai hk)).1
      have s2:=hsx.1
      have ls:=Oq (nth out k).tags (nth l i).tags s1 s2
      have e1:=hr.arr
      have e2:=hr.len
      have e3:=hr.el k hk
      have e4:=hr.ha k hk
      generalize nth out k=y at*
      obtain⟨ta,wa⟩:=y
      generalize hx:nth l i=x at*
      obtain⟨tb,wb⟩:=x
      simp only at s1 s2 ls e3 e4 hp
      simp(disch:=omega)only[go_sem,K.m0,↓reduceIte,reduceAdd,reduceSub,e1,e2,e3,e4,hx,ls,hp]
      done
    · intro k hk hp
      have hp:xh (nth out k).tags (nth l i).tags=false:=by simpa using hp
      have s1:=(hso _ (ai hk)).1
      have s2:=hsx.1
      have ls:=Oq (nth out k).tags (nth l i).tags s1 s2
      have e1:=hr.arr
      have e2:=hr.len
      have e3:=hr.el k hk
      have e4:=hr.ha k hk
      generalize nth out k=y at*
      obtain⟨ta,wa⟩:=y
      generalize hx:nth l i=x at*
      obtain⟨tb,wb⟩:=x
      simp only at s1 s2 ls e3 e4 hp
      refine⟨?_,by simp⟩
      simp(disch:=omega)only[go_sem,K.m0,↓reduceIte,reduceAdd,reduceSub,e1,e2,e3,e4,hx,ls,hp]
      done
    · simp(disch:=omega)only[go_sem,K.m0,↓reduceIte,reduceAdd,reduceSub]
   rw[key]
   unfold jO
   cases (List.range out.length).find? (fun k=> !xh (nth out k).tags (nth l i).tags)<;>rfl
@[go_sem] theorem alT (a b : Wh) : (rO a b).1.e = .agg [tI (rO a b).1.time, tL (rO a b).1.frm] := rfl
theorem aci(l:List World)(i:Nat)(hi:i<l.length)(out:List World)(ho:out.length≤1000000)(hso:∀x∈out,x.sz)(hsx:(nth l i).sz)(H:ao)(id:Nat)(es:List D)(fa fb:Nat→Nat)
 (hr:Rp H id es fa fb out) (k:Nat) (hk:k<out.length) (a:D):
 exS aW K.AR ⟨[.t (.sl (l.map World.e)),a,.ref id 0 out.length,I i,I k,I 0],H⟩=
 some (.exit 4,⟨[.t (.sl (l.map World.e)),.und,.ref id 0 out.length,I i,I k,I ((min (nth out k).whr.length (nth l i).whr.length:Nat):Int)],H.set (fb k) (.arr 2 false 0 (whs (IQ (nth out k).whr (nth l i).whr)))⟩):=by
 have e1:=hr.arr
 have e2:=hr.len
 have e3:=hr.el k hk
 have e5:=hr.hb k hk
 have e6:=hr.nb k hk
 have e7:=Uc e5
 obtain⟨s1,s2,s3⟩:=hso _ (ai hk)
 obtain⟨x1,x2,x3⟩:=hsx
 generalize nth out k=y at*
 obtain⟨ta,wa⟩:=y
 generalize hx:nth l i=x at*
 obtain⟨tb,wb⟩:=x
 simp only at s1 s2 s3 x1 x2 x3 e3 e5 ⊢
 have jl:=tW wa wb
 have q1:∀o,(H.set (fb k) o)[id]?=H[id]?:=fun o=>A4 e6
 have q2:∀o,(H.set (fb k) o)[fb k]?=some o:=fun o=>IP e7
 refine dm (fun p=>⟨[.t (.sl (l.map World.e)),.und,.ref id 0 out.length,I i,I k,I p],H.set (fb k) (.arr 2 false 0 (whs (rq wa wb p)))⟩) (min wa.length wb.length) ?_ ?_ ?_ (by simp)
 · show(⟨_,H⟩:St)=⟨_,H.set (fb k) (.arr 2 false 0 (whs wa))⟩
   rw[P3 e5];rfl
 · intro p hp
   have jp:=jl p
   have jn:=Ma wa wb p p (aLs _)
   have jo:=ab3 (nth wa p) (nth wb p) (s3 _ (ai (by omega)))
   have hj:rq wa wb (p+1)=(rq wa wb p).set p (rO (nth wa p) (nth wb p)).1:=rfl
   rw[hj]
   generalize rq wa wb p=J at*
   generalize hu:nth wb p=u at*
   generalize nth wa p=w at*
   generalize rO w u=r at*
   obtain⟨⟨rt,rf⟩,re⟩:=r
   simp only at jo ⊢
   simp(disch:=omega)only[go_sem,K.pM,↓reduceIte,reduceAdd,reduceSub,q1,q2,e1,e2,e3,Ct,hx,hu,jn,jo]
 · have jp:=jl (min wa.length wb.length)
   have hj:IQ wa wb=rq wa wb (min wa.length wb.length):=rfl
   rw[hj]
   generalize rq wa wb (min wa.length wb.length)=J at*
   by_cases c:wa.length≤wb.length
   · simp(disch:=omega)only[go_sem,K.pM,↓reduceIte,reduceAdd,reduceSub,q1,q2,e1,e2,e3,Ct,hx,Nat.min_eq_left c]
   · have hm:min wa.length wb.length=wb.length:=by omega
     simp(disch:=omega)only[go_sem,K.pM,↓reduceIte,reduceAdd,reduceSub,q1,q2,e1,e2,e3,Ct,hx,hm]
theorem Dp{sz:Nat}{l:List D}(h:∀e∈l,e.cells.length=sz):cB sz l=true:=by
 cases l with
 | nil=>rfl
 | cons d r=>rw[JT,hU];exact h d List.mem_cons_self
theorem Rp.size{H:ao}{id:Nat}{es:List D}{fa fb:Nat→Nat}{out:List World}(hr:Rp H id es fa fb out):∀e∈es,e.cells.length=2:=by
 intro e he
 obtain⟨j,hj⟩:=aLf.1 he
 have hl:=(aLe.1 hj).1
 rw[hr.el j (by rw[← hr.len];exact hl)]at hj
 cases hj;rfl
theorem Ud{α:Type}(l:List α)(k:Nat)(hk:k≤l.length)(x:α)(j:Nat):(l.take k++[x]++l.drop k)[j]?=if j<k then l[j]? else if j=k then some x else l[j-1]?:=by
 have hl:(l.take k).length=k:=by rw[List.length_take];omega
 rw[List.append_assoc]
 by_cases h1:j<k
 · rw[if_pos h1,aLg (by omega),List.getElem?_take_of_lt h1]
 · rw[if_neg h1,aLh (by omega),hl]
   by_cases h2:j=k
   · rw[if_pos h2,h2,Nat.sub_self];rfl
   · rw[if_neg h2,aLh (by simp;omega)]
     simp only[List.length_singleton,List.getElem?_drop]
     congr 1;omega
theorem Oz{α:Type} [Dat α](l:List α)(k:Nat)(hk:k≤l.length)(x:α)(j:Nat):nth (l.take k++[x]++l.drop k) j=if j<k then nth l j else if j=k then x else nth l (j-1):=by
 unfold nth
 rw[aLl,Ud l k hk]
 split
 · rw[aLl]
 · split
   · rfl
   · rw[aLl]
theorem JX{α:Type} [Dat α](l:List α)(k:Nat)(hk:k<l.length)(x:α)(j:Nat):nth (l.set k x) j=if j=k then x else nth l j:=by
 unfold nth
 rw[aLl]
 by_cases h:j=k
 · rw[if_pos h,h,aLj hk];rfl
 · rw[if_neg h,aLi (fun e=>h e.symm),aLl]
theorem Rp.ins{H:ao}{id:Nat}{es:List D}{fa fb:Nat→Nat}{out:List World}(hr:Rp H id es fa fb out){k:Nat}(hk:k≤out.length)(x:World)(o:Obj):
 Rp (H++[.arr 2 false 0 (es.take k++[.agg [.ref (H.length+1) 0 x.tags.length,.ref (H.length+2) 0 x.whr.length]]++es.drop k),.arr 1 false 0 (ints x.tags),.arr 2 false 0 (whs x.whr),o]) H.length
  (es.take k++[.agg [.ref (H.length+1) 0 x.tags.length,.ref (H.length+2) 0 x.whr.length]]++es.drop k)
  (fun j=>if j<k then fa j else if j=k then H.length+1 else fa (j-1)) (fun j=>if j<k then fb j else if j=k then H.length+2 else fb (j-1)) (out.take k++[x]++out.drop k):=by
 have ol:(out.take k++[x]++out.drop k).length=out.length+1:=by
  rw[aLv,aLv,List.length_take,List.length_drop,List.length_singleton];omega
 have e2:=hr.len
 have ba:∀j,j<out.length→fa j<H.length:=fun j hj=>Uc (hr.ha j hj)
 have bb:∀j,j<out.length→fb j<H.length:=fun j hj=>Uc (hr.hb j hj)
 refine⟨tV,?_,?_,?_,?_,?_,?_,?_,?_⟩
 · rw[ol,aLv,aLv,List.length_take,List.length_drop,List.length_singleton];omega
 · intro j hj
   rw[ol]at hj
   simp only[Ud es k (by omega),Oz out k hk]
   by_cases h1:j<k
   · simp only[if_pos h1];exact hr.el j (by omega)
   · by_cases h2:j=k
     · simp only[if_neg h1,if_pos h2]
     · simp only[if_neg h1,if_neg h2];exact hr.el (j-1) (by omega)
 · intro j hj
   rw[ol]at hj
   simp only[Oz out k hk]
   by_cases h1:j<k
   · simp only[if_pos h1];rw[IN (ba j (by omega))];exact hr.ha j (by omega)
   · by_cases h2:j=k
     · simp only[if_neg h1,if_pos h2];rw[pC];rfl
     · simp only[if_neg h1,if_neg h2];rw[IN (ba (j-1) (by omega))];exact hr.ha (j-1) (by omega)
 · intro j hj
   rw[ol]at hj
   simp only[Oz out k hk]
   by_cases h1:j<k
   · simp only[if_pos h1];rw[IN (bb j (by omega))];exact hr.hb j (by omega)
   · by_cases h2:j=k
     · simp only[if_neg h1,if_pos h2];rw[pC];rfl
     · simp only[if_neg h1,if_neg h2];rw[IN (bb (j-1) (by omega))];exact hr.hb (j-1) (by omega)
 · intro j hj
   rw[ol]at hj
   have b1:=ba j
   have b2:=ba (j-1)
   split
   · have:=b1 (by omega);omega
   · split
     · omega
     · have:=b2 (by omega);omega
 · intro j hj
   rw[ol]at hj
   have b1:=bb j
   have b2:=bb (j-1)
   split
   · have:=b1 (by omega);omega
   · split
     · omega
     · have:=b2 (by omega);omega
 · intro i j hi hj
   rw[ol]at hi hj
   have a1:=ba i
   have a2:=ba (i-1)
   have b1:=bb j
   have b2:=bb (j-1)
   by_cases h1:i<k
   · rw[if_pos h1]
     have:=a1 (by omega)
     by_cases h2:j<k
     · rw[if_pos h2];exact hr.nab i j (by omega) (by omega)
     · rw[if_neg h2]
       by_cases h3:j=k
       · rw[if_pos h3];omega
       · rw[if_neg h3];exact hr.nab i (j-1) (by omega) (by omega)
   · rw[if_neg h1]
     by_cases h4:i=k
     · rw[if_pos h4]
       split
       · have:=b1 (by omega);omega
       · split
         · omega
         · have:=b2 (by omega);omega
     · rw[if_neg h4]
       have:=a2 (by omega)
       by_cases h2:j<k
       · rw[if_pos h2];exact hr.nab (i-1) j (by omega) (by omega)
       · rw[if_neg h2]
         by_cases h3:j=k
         · rw[if_pos h3];omega
         · rw[if_neg h3];exact hr.nab (i-1) (j-1) (by omega) (by omega)
 · intro i j hi hj hne
   rw[ol]at hi hj
   have a1:=bb i
   have a2:=bb (i-1)
   have b1:=bb j
   have b2:=bb (j-1)
   by_cases h1:i<k
   · rw[if_pos h1]
     have:=a1 (by omega)
     by_cases h2:j<k
     · rw[if_pos h2];exact hr.nbb i j (by omega) (by omega) hne
     · rw[if_neg h2]
       by_cases h3:j=k
       · rw[if_pos h3];omega
       · rw[if_neg h3];exact hr.nbb i (j-1) (by omega) (by omega) (by omega)
   · rw[if_neg h1]
     by_cases h4:i=k
     · rw[if_pos h4]
       split
       · have:=b1 (by omega);omega
       · split
         · omega
         · have:=b2 (by omega);omega
     · rw[if_neg h4]
       have:=a2 (by omega)
       by_cases h2:j<k
       · rw[if_pos h2];exact hr.nbb (i-1) j (by omega) (by omega) (by omega)
       · rw[if_neg h2]
         by_cases h3:j=k
         · rw[if_pos h3];omega
         · rw[if_neg h3];exact hr.nbb (i-1) (j-1) (by omega) (by omega) (by omega)
theorem Rp.merge{H:ao}{id:Nat}{es:List D}{fa fb:Nat→Nat}{out:List World}(hr:Rp H id es fa fb out){k:Nat}(hk:k<out.length)(x:World)(ht:(nth out k).tags=x.tags)(hw:x.whr.length=(nth out k).whr.length):
 Rp (H.set (fb k) (.arr 2 false 0 (whs x.whr))) id es fa fb (out.set k x):=by
 have ol:(out.set k x).length=out.length:=List.length_set
 have nk:=hr.nb k hk
 have kl:=Uc (hr.hb k hk)
 refine⟨by rw[A4 nk];exact hr.arr,by rw[ol];exact hr.len,?_,?_,?_,by rw[ol];exact hr.na,by rw[ol];exact hr.nb,by rw[ol];exact hr.nab,by rw[ol];exact hr.nbb⟩
 · intro j hj
   rw[ol]at hj
   rw[hr.el j hj,JX out k hk]
   by_cases h:j=k
   · rw[if_pos h,h,ht,hw]
   · rw[if_neg h]
 · intro j hj
   rw[ol]at hj
   rw[A4 (fun e=>hr.nab j k hj hk e.symm),hr.ha j hj,JX out k hk]
   by_cases h:j=k
   · rw[if_pos h,h,ht]
   · rw[if_neg h]
 · intro j hj
   rw[ol]at hj
   rw[JX out k hk]
   by_cases h:j=k
   · rw[if_pos h,h,IP kl]
   · rw[if_neg h,A4 (fun e=>hr.nbb j k hj hk h e.symm)];exact hr.hb j hj
theorem Rv(l:List World)(i:Nat)(hi:i<l.length)(hl:l.length≤1000000)(out:List World)(ho:out.length≤999999)(hso:∀x∈out,x.sz)(hsx:(nth l i).sz)(H:ao)(v:D)(hr:Rep H v out):
 ∃v' H',gF false [1,4,5] H.length (exS aW K.fO ⟨[.t (.sl (l.map World.e)),.und,v,I i,.und,.und],H⟩)=some ⟨[.t (.sl (l.map World.e)),.und,v',I (i+1),.und,.und],H'⟩∧Rep H' v' (xj out (nth l i)):=by
 have l2:=ach l i hi out (by omega) hso hsx H v hr
 have kl:=JW out (nth l i)
 have cw:=qH (nth l i) hsx
 rcases hr with⟨rfl,rfl⟩ | ⟨id,es,fa,fb,rfl,h0,hr⟩
 · have k0:jO [] (nth l i)=0:=rfl
   rw[k0]at l2
   have t1:xj [] (nth l i)=[nth l i]:=rfl
   rw[t1]
   generalize hx:nth l i=x at*
   obtain⟨tb,wb⟩:=x
   simp only at cw
   have run:gF false [1,4,5] H.length (exS aW K.fO ⟨[.t (.sl (l.map World.e)),.und,.nil,I i,.und,.und],H⟩)=
    some ⟨[.t (.sl (l.map World.e)),.und,.ref H.length 0 1,I (i+1),.und,.und],H++[.arr 2 false 0 [.agg [.ref (H.length+1) 0 tb.length,.ref (H.length+2) 0 wb.length]],.arr 1 false 0 (ints tb),.arr 2 false 0 (whs wb),.arr 2 false 0 [.agg [.ref (H.length+1) 0 tb.length,.ref (H.length+2) 0 wb.length]]]⟩:=by
    simp(disch:=omega)only[go_sem,K.fO,↓reduceIte,reduceAdd,reduceSub,l2,hx,cw,tV,pC,Cs,JU,Nat.add_assoc]
   refine⟨_,_,run,.inr ⟨H.length,_,fun _=>H.length+1,fun _=>H.length+2,rfl,by simp,⟨tV,rfl,?_,?_,?_,?_,?_,?_,?_⟩⟩⟩
   all_goals skip
   · intro j hj;obtain rfl:j=0:=by simpa using hj
     rfl
   · intro j hj;obtain rfl:j=0:=by simpa using hj
     rw[pC];rfl
   · intro j hj;obtain rfl:j=0:=by simpa using hj
     rw[pC];rfl
   · intro j hj;omega
   · intro j hj;omega
   · intro i j hi hj;omega
   · intro i j hi hj hne
     have h1:i=0:=by simpa using hi
     have h2:j=0:=by simpa using hj
     omega
 · have e1:=hr.arr
   have e2:=hr.len
   have e7:=Uc e1
   by_cases c:jO out (nth l i)<out.length∧(nth out (jO out (nth l i))).tags=(nth l i).tags
   · obtain⟨ck,ct⟩:=c
     have l3:=aci l i hi out (by omega) hso hsx H id es fa fb hr (jO out (nth l i)) ck
     have s1:=(hso _ (ai ck)).1
     have sm:=Ol (nth out (jO out (nth l i))).tags (nth l i).tags (by omega)
     have t1:xj out (nth l i)=out.set (jO out (nth l i)) ⟨(nth l i).tags,IQ (nth out (jO out (nth l i))).whr (nth l i).whr⟩:=by unfold xj;rw[if_pos ⟨ck,ct⟩]
     rw[t1]
     simp only[ct,decide_true]at sm
     generalize jO out (nth l i)=k at*
     have e3:=hr.el k ck
     have e4:=hr.ha k ck
     have mg:=hr.merge ck ⟨(nth l i).tags,IQ (nth out k).whr (nth l i).whr⟩ ct (tW _ _ _)
     refine⟨.ref id 0 out.length,_,?_,.inr ⟨id,es,fa,fb,by rw[List.length_set],by rw[List.length_set];omega,mg⟩⟩
     generalize nth out k=y at*
     obtain⟨ta,wa⟩:=y
     simp only at ct
     subst ct
     generalize hx:nth l i=x at*
     obtain⟨tb,wb⟩:=x
     simp only at s1 sm e3 e4 cw l3 ⊢
     simp(disch:=omega)only[go_sem,K.fO,↓reduceIte,reduceAdd,reduceSub,l2,l3,hx,cw,sm,e1,e2,e3,e4]
   · have t1:xj out (nth l i)=out.take (jO out (nth l i))++[nth l i]++out.drop (jO out (nth l i)):=by unfold xj;rw[if_neg c]
     rw[t1]
     generalize jO out (nth l i)=k at*
     have hs1:cB 2 (es.take k)=true:=Dp fun e he=>hr.size e (List.mem_of_mem_take he)
     have hs2:cB 2 (es.drop k)=true:=Dp fun e he=>hr.size e (List.mem_of_mem_drop he)
     have hs3:(es.drop k).take (out.length-k)=es.drop k:=List.take_of_length_le (by simp[e2])
     have hs4:(es.take k).length=k:=by rw[List.length_take];omega
     have hs5:(es.drop k).length=out.length-k:=by rw[List.length_drop,e2]
     have hs6:k+(1+(out.length-k))=out.length+1:=by omega
     have s2:=hsx.1
     have run:gF false [1,4,5] H.length (exS aW K.fO ⟨[.t (.sl (l.map World.e)),.und,.ref id 0 out.length,I i,.und,.und],H⟩)=
      some ⟨[.t (.sl (l.map World.e)),.und,.ref H.length 0 (out.length+1),I (i+1),.und,.und],H++[.arr 2 false 0 (es.take k++[.agg [.ref (H.length+1) 0 (nth l i).tags.length,.ref (H.length+2) 0 (nth l i).whr.length]]++es.drop k),.arr 1 false 0 (ints (nth l i).tags),.arr 2 false 0 (whs (nth l i).whr),.arr 2 false 0 [.agg [.ref (H.length+1) 0 (nth l i).tags.length,.ref (H.length+2) 0 (nth l i).whr.length]]]⟩:=by
      by_cases ck:k<out.length
      · have s1:=(hso _ (ai ck)).1
        have sm:=Ol (nth out k).tags (nth l i).tags (by omega)
        have ct:¬(nth out k).tags=(nth l i).tags:=fun h=>c ⟨ck,h⟩
        have e3:=hr.el k ck
        have e4:=hr.ha k ck
        generalize nth out k=y at*
        obtain⟨ta,wa⟩:=y
        generalize hx:nth l i=x at*
        obtain⟨tb,wb⟩:=x
        simp only at s1 s2 sm e3 e4 ct cw
        simp only[ct,decide_false]at sm
        simp(disch:=omega)only[go_sem,K.fO,↓reduceIte,reduceAdd,reduceSub,l2,hx,cw,sm,e1,e2,e3,e4,hs1,hs2,hs3,hs4,hs5,hs6,IN,tV,pC,Cs,JU,Nat.add_assoc,Nat.sub_zero]
      · have ek:k=out.length:=by omega
        subst ek
        generalize hx:nth l i=x at*
        obtain⟨tb,wb⟩:=x
        simp only at s2 cw
        simp(disch:=omega)only[go_sem,K.fO,↓reduceIte,reduceAdd,reduceSub,l2,hx,cw,e1,e2,hs1,hs2,hs3,hs4,hs5,hs6,IN,tV,pC,Cs,JU,Nat.add_assoc,Nat.sub_zero]
     exact⟨_,_,run,.inr ⟨H.length,_,_,_,by rw[aLv,aLv,List.length_take,List.length_drop,List.length_singleton,Nat.min_eq_left kl];congr 1;omega,by rw[aLv,aLv,List.length_singleton];omega,hr.ins kl (nth l i) _⟩⟩
theorem A5(out:List World)(x:World):(xj out x).length≤out.length+1∧out.length≤(xj out x).length∧1≤(xj out x).length:=by
 have kl:=JW out x
 unfold xj
 split
 · rename_i h
   rw[List.length_set];omega
 · rw[aLv,aLv,List.length_take,List.length_drop,List.length_singleton];omega
theorem Mb(l:List World):∀j,(zP l j).length≤j
 | 0=>aLs _
 | j+1=>by
   have:=Mb l j
   have:=(A5 (zP l j) (nth l j)).1
   simp only[zP];omega
theorem Ue(a b:Wh):(rO a b).1.frm.length≤a.frm.length:=by
 unfold rO
 split
 · simp only[r6];omega
 · simp
theorem Qi(a b:List Wh)(n:Nat)(h:∀w∈a,w.frm.length≤n):∀p,p≤a.length→∀w∈rq a b p,w.frm.length≤n
 | 0,_,w,hw=>h w hw
 | p+1,hp,w,hw=>by
   simp only[rq]at hw
   rcases aLk hw with hw | rfl
   · exact Qi a b n h p (by omega) w hw
   · exact Nat.le_trans (Ue _ _) (h _ (ai (by omega)))
theorem Xx{out:List World}{x:World}(ho:∀y∈out,y.sz)(hx:x.sz):∀y∈xj out x,y.sz:=by
 intro y hy
 unfold xj at hy
 split at hy
 · rename_i h
   rcases aLk hy with hy | rfl
   · exact ho y hy
   · obtain⟨s1,s2,s3⟩:=ho _ (ai h.1)
     refine⟨hx.1,?_,?_⟩
     · show(rq _ _ _).length≤_
       rw[tW];exact s2
     · exact Qi _ _ _ s3 _ (Nat.min_le_left _ _)
 · rcases List.mem_append.1 hy with hy | hy
   · rcases List.mem_append.1 hy with hy | hy
     · exact ho y (List.mem_of_mem_take hy)
     · rw[List.mem_singleton.1 hy];exact hx
   · exact ho y (List.mem_of_mem_drop hy)
theorem Qj{l:List World}(hl:∀x∈l,x.sz):∀j,j≤l.length→∀y∈zP l j,y.sz
 | 0,_,y,hy=>by simp[zP]at hy
 | j+1,h,y,hy=>Xx (Qj hl j (by omega)) (hl _ (ai (by omega))) y hy
theorem Rp.frz{H:ao}{id:Nat}{es:List D}{fa fb:Nat→Nat}{out:List World}(hr:Rp H id es fa fb out):
 cO (frz H 8) es=some (out.map World.e)∧∀i∈es.flatMap (jT H 8),i≠id:=by
 have hl:=hr.len
 have key:∀(j:Nat) (hj:j<out.length),Go.Ev.frz H 8 (.agg [.ref (fa j) 0 (nth out j).tags.length,.ref (fb j) 0 (nth out j).whr.length])=some (nth out j).e∧
  jT H 8 (.agg [.ref (fa j) 0 (nth out j).tags.length,.ref (fb j) 0 (nth out j).whr.length])=[fa j,fb j]:=by
  intro j hj
  have h1:=hr.ha j hj
  have h2:=hr.hb j hj
  simp(disch:=omega)only[go_sem,h1,h2,ints,whs,↓reduceIte]
 constructor
 · have:∀(es:List D) (ts:List T),es.length=ts.length→(∀(j:Nat) e t,es[j]?=some e→ts[j]?=some t→Go.Ev.frz H 8 e=some t)→cO (Go.Ev.frz H 8) es=some ts:=by
    intro es
    induction es with
    | nil=>intro ts h _;cases ts with
      | nil=>rfl
      | cons=>simp at h
    | cons e es ih=>
      intro ts h hh
      cases ts with
      | nil=>simp at h
      | cons t ts=>
        have h1:=hh 0 e t rfl rfl
        have h2:=ih ts (by simpa using h) fun j e t he ht=>hh (j+1) e t (by simpa using he) (by simpa using ht)
        simp only[cO,h1,aLq,h2,aLw]
   refine this es _ (by rw[List.length_map,hl]) fun j e t he ht=>?_
   have hj:j<out.length:=by rw[← hl];exact(aLe.1 he).1
   rw[hr.el j hj]at he
   rw[iE _ hj]at ht
   cases he;cases ht
   exact(key j hj).1
 · intro i hi
   obtain⟨e,he,hi⟩:=List.mem_flatMap.1 hi
   obtain⟨j,hj⟩:=aLf.1 he
   have hjl:j<out.length:=by rw[← hl];exact(aLe.1 hj).1
   rw[hr.el j hjl]at hj
   cases hj
   rw[(key j hjl).2]at hi
   simp only[List.mem_cons,List.not_mem_nil,or_false]at hi
   rcases hi with rfl | rfl
   · exact hr.na j hjl
   · exact hr.nb j hjl
theorem acj(l:List World)(h0:1≤l.length)(hl:l.length≤100000)(hs:∀x∈l,x.sz):
 aW 1 N.kI [.t (.sl (l.map World.e))] []=some (.ref 0 0 (Hc l).length,[.arr 2 false 0 (((Hc l).map World.e).map .t)]):=by
 refine aA K.wY rfl ?_
 have loop:∀a b c:D,∃q,exS aW K.AS ⟨[.t (.sl (l.map World.e)),a,.nil,I 0,b,c],[]⟩=some q∧∃v H,q=(.exit 0,⟨[.t (.sl (l.map World.e)),.und,v,I l.length,.und,.und],H⟩)∧Rep H v (Hc l):=by
  intro a b c
  refine JV (fun j st=>∃v H,st=⟨[.t (.sl (l.map World.e)),.und,v,I j,.und,.und],H⟩∧Rep H v (zP l j)) l.length _ ⟨.nil,[],rfl,.inl ⟨rfl,rfl⟩⟩ ?_ ?_
  · rintro j st hj ⟨v,H,rfl,hr⟩
    have ln:=Mb l j
    obtain⟨v',H',h1,h2⟩:=Rv l j hj (by omega) (zP l j) (by omega) (Qj hs j (by omega)) (hs _ (ai hj)) H v hr
    exact⟨_,h1,v',H',rfl,h2⟩
  · rintro st ⟨v,H,rfl,hr⟩
    refine⟨(.exit 0,⟨[.t (.sl (l.map World.e)),.und,v,I l.length,.und,.und],H⟩),?_,by simp,v,H,rfl,hr⟩
    simp(disch:=omega)only[go_sem,K.fO,↓reduceIte,reduceAdd,reduceSub]
 obtain⟨q,hq,v,H,rfl,hr⟩:=loop .nil .und .und
 have nz:1≤(Hc l).length:=by
  unfold Hc
  cases hn:l.length with
  | zero=>omega
  | succ n=>exact(A5 _ _).2.2
 rcases hr with⟨rfl,he⟩ | ⟨id,es,fa,fb,rfl,h0,hr⟩
 · rw[he]at nz;simp at nz
 · obtain⟨f1,f2⟩:=hr.frz
   have fin:=Oy H id 2 (Hc l).length es _ hr.arr hr.len.symm f1 f2
   simp(disch:=omega)only[go_sem,K.kI,↓reduceIte,reduceAdd,reduceSub,hq,fin]
@[go_sem] theorem Zl {α β γ : Type} [Dat α] (f : β → γ) (g : α → β) {l : List α} {i j : Nat} {x : α} (h : j < l.length) : (((l.set i x).map g).map f)[j]? = some (f (g (nth (l.set i x) j))) := P8 f g (by rw [List.length_set]; exact h)
def Rw(l:List Int)(i j:Nat):List Int:=(l.set i (nth l j)).set j (nth l i)
def Cu(i j:Nat)(t:Int)(x:World):World:=⟨Rw x.tags i j,(x.whr.set i (tP (nth x.whr i) t).1).set j (tP (nth x.whr j) t).1⟩
def Hd(i j:Nat)(t:Int)(x:World)(out:List World):List World:=if Xt (nth x.whr i) (nth x.whr j) t=true then out++[Cu i j t x]else out
def mL(i j:Nat)(t:Int)(ws:List World):Nat→List World
 | 0=>ws
 | k+1=>Hd i j t (nth ws k) (mL i j t ws k)
def sX(m:bh)(b:Bel)(i j t:Int):Bel×Int:=
 if yg m b=false then(b,6)else if i<0∨((nth b.aK 0).tags.length:Int)≤i∨j<0∨((nth b.aK 0).tags.length:Int)≤j∨i=j then(b,19)
 else if ¬inT t then(b,8)else if 24<(Hc (mL i.toNat j.toNat t b.aK b.aK.length)).length then(b,44)else(⟨Hc (mL i.toNat j.toNat t b.aK b.aK.length)⟩,0)
theorem Uf(i j:Nat)(t:Int)(x:World)(out:List World):out.length≤(Hd i j t x out).length∧(Hd i j t x out).length≤out.length+1:=by
 unfold Hd;split<;>(try rw[aLv,List.length_singleton])<;>omega
theorem yi(i j:Nat)(t:Int)(ws:List World):∀k,ws.length≤(mL i j t ws k).length∧(mL i j t ws k).length≤ws.length+k
 | 0=>⟨aLs _,aLs _⟩
 | k+1=>by
   have h1:=yi i j t ws k
   have h2:=Uf i j t (nth ws k) (mL i j t ws k)
   simp only[mL];omega
abbrev exH(m:bh)(ws out:List World):ao:=[.box (af m),.box [.t (.sl (ws.map World.e))],.box [.nil],.arr 2 false 0 ((out.map World.e).map .t)]
theorem Rx(m:bh)(ws:List World)(hw:ws.length≤100000)(i j:Nat)(hij:i≠j)(t:Int)(k:Nat)(hk:k<ws.length)(hs:(nth ws k).sz)
 (i1:i<(nth ws k).tags.length) (j1:j<(nth ws k).tags.length) (hl:(nth ws k).whr.length=(nth ws k).tags.length) (out:List World) (ho:out.length≤1000000):
 gF true [0,1,5,8,9,12] 4 (exS aW K.iN ⟨[.und,.und,I i,I j,I t,.und,.bp 1 0,.bp 2 0,.und,.und,.ref 3 0 out.length,I k,.und],exH m ws out⟩)=
  some ⟨[.und,.und,I i,I j,I t,.und,.bp 1 0,.bp 2 0,.und,.und,.ref 3 0 (Hd i j t (nth ws k) out).length,I (k+1),.und],exH m ws (Hd i j t (nth ws k) out)⟩:=by
 have c1:=qH (nth ws k) hs
 have mt:=ab8 (nth (nth ws k).whr i) (nth (nth ws k).whr j) t (hs.2.2 _ (ai (by omega)))
 have r1:=Qe (nth (nth ws k).whr i) t (hs.2.2 _ (ai (by omega)))
 have r2:=Qe (nth (nth ws k).whr j) t (hs.2.2 _ (ai (by omega)))
 unfold Hd Cu Rw
 have n1:∀w,nth ((nth ws k).whr.set i w) j=nth (nth ws k).whr j:=fun w=>by rw[JX _ _ (by omega),if_neg (fun e=>hij e.symm)]
 generalize hx:nth ws k=x at*
 obtain⟨tags,whr⟩:=x
 obtain⟨s1,s2,s3⟩:=hs
 simp only at*
 generalize hwi:nth whr i=wi at*
 generalize hwj:nth whr j=wj at*
 generalize tP wi t=ri at*
 obtain⟨⟨t1,f1⟩,e1⟩:=ri
 generalize tP wj t=rj at*
 obtain⟨⟨t2,f2⟩,e2⟩:=rj
 obtain⟨ti,fi⟩:=wi
 obtain⟨tj,fj⟩:=wj
 simp only at*
 cases hm:Xt ⟨ti,fi⟩ ⟨tj,fj⟩ t with
 | true=>
   rw[hm]at mt
   simp(disch:=omega)only[go_sem,K.iN,↓reduceIte,exH,hx,hwi,hwj,n1,c1,mt,r1,r2,reduceAdd,reduceSub]
 | false=>
   rw[hm]at mt
   simp(disch:=omega)only[go_sem,K.iN,↓reduceIte,exH,hx,hwi,hwj,n1,c1,mt,r1,r2,reduceAdd,reduceSub,aLt]
theorem yj(w:Wh)(t:Int):(tP w t).1.frm=w.frm:=by unfold tP;split<;>rfl
theorem Xy{i j:Nat}{t:Int}{x:World}(h:x.sz)(hi:i<x.whr.length)(hj:j<x.whr.length):(Cu i j t x).sz:=by
 obtain⟨s1,s2,s3⟩:=h
 refine⟨by simpa [Cu,Rw]using s1,by simpa [Cu]using s2,fun w hw=>?_⟩
 simp only[Cu]at hw
 rcases aLk hw with hw | rfl
 · rcases aLk hw with hw | rfl
   · exact s3 w hw
   · rw[yj];exact s3 _ (ai hi)
 · rw[yj];exact s3 _ (ai hj)
theorem FE{ws:List World}(h:∀x∈ws,x.sz){i j:Nat}{t:Int}(hi:∀k,k<ws.length→i<(nth ws k).whr.length)(hj:∀k,k<ws.length→j<(nth ws k).whr.length):∀k,k≤ws.length→∀x∈mL i j t ws k,x.sz
 | 0,_,x,hx=>h x hx
 | k+1,hk,x,hx=>by
   simp only[mL,Hd]at hx
   split at hx
   · rcases List.mem_append.1 hx with hx | hx
     · exact FE h hi hj k (by omega) x hx
     · rw[List.mem_singleton.1 hx];exact Xy (h _ (ai (by omega))) (hi k (by omega)) (hj k (by omega))
   · exact FE h hi hj k (by omega) x hx
theorem Ry{m:bh}(h:m.ok)(b:Bel)(hs:b.sz)(i j t:Int):
 aW 0 N.bP [.t m.e,.t b.e,I i,I j,I t] []=some (.tup [.t (sX m b i j t).1.e,I (sX m b i j t).2],[]):=by
 refine aA K.qj rfl ?_
 have cb:=Cp b hs
 have cb1:=Ot b hs
 have vb:=T6 h b hs
 unfold sX
 cases hb:yg m b with
 | false=>
   rw[hb]at vb
   obtain⟨ws⟩:=b
   simp(disch:=omega)only[go_sem,K.bP,↓reduceIte,cb,vb,reduceAdd,reduceSub]
 | true=>
   rw[hb]at vb
   obtain⟨w1,w2,f1,f2,w5⟩:=m5 hb
   obtain⟨ws⟩:=b
   obtain⟨s1,s2⟩:=hs
   simp only at s1 s2 w1 w2 w5 f1 f2 cb cb1 vb ⊢
   have g0:(ws.map World.e)[0]?=some (nth ws 0).e:=iE _ (by omega)
   have wl:∀k,k<ws.length→(nth ws k).tags.length=(nth ws 0).tags.length∧(nth ws k).whr.length=(nth ws 0).tags.length:=fun k hk=>by
    obtain⟨q1,q2, -⟩:=lI (w5 k hk)
    exact⟨q1,q2⟩
   generalize hx:nth ws 0=x at*
   obtain⟨first,whr⟩:=x
   simp only at f1 f2 wl g0 ⊢
   rw[if_neg (by simp)]
   by_cases c1:i<0
   · rw[if_pos (by omega)]
     simp(disch:=omega)only[go_sem,K.bP,↓reduceIte,cb,vb,hx,g0,c1,reduceAdd,reduceSub]
   · by_cases c2:(first.length:Int)≤i
     · rw[if_pos (by omega)]
       simp(disch:=omega)only[go_sem,K.bP,↓reduceIte,cb,vb,hx,g0,c1,c2,reduceAdd,reduceSub]
     · by_cases c3:j<0
       · rw[if_pos (by omega)]
         simp(disch:=omega)only[go_sem,K.bP,↓reduceIte,cb,vb,hx,g0,c1,c2,c3,reduceAdd,reduceSub]
       · by_cases c4:(first.length:Int)≤j
         · rw[if_pos (by omega)]
           simp(disch:=omega)only[go_sem,K.bP,↓reduceIte,cb,vb,hx,g0,c1,c2,c3,c4,reduceAdd,reduceSub]
         · by_cases c5:i=j
           · rw[if_pos (by omega)]
             simp(disch:=omega)only[go_sem,K.bP,↓reduceIte,cb,vb,hx,g0,c1,c2,c3,c4,c5,reduceAdd,reduceSub]
           · rw[if_neg (by omega)]
             by_cases ct:inT t
             · have ct':=ct
               unfold inT at ct'
               rw[if_neg (fun h=>h ct)]
               obtain⟨i',rfl⟩:=Int.eq_ofNat_of_zero_le (show 0≤i by omega)
               obtain⟨j',rfl⟩:=Int.eq_ofNat_of_zero_le (show 0≤j by omega)
               simp only[Int.toNat_natCast]
               have ln:=yi i' j' t ws
               have loop:∀a b c d e f:D,exS aW K.tK ⟨[a,b,I i',I j',I t,c,.bp 1 0,.bp 2 0,d,e,.ref 3 0 ws.length,I 0,f],exH m ws ws⟩=
                some (.exit 0,⟨[.und,.und,I i',I j',I t,.und,.bp 1 0,.bp 2 0,.und,.und,.ref 3 0 (mL i' j' t ws ws.length).length,I ws.length,.und],exH m ws (mL i' j' t ws ws.length)⟩):=by
                intro a b c d e f
                refine dm (fun k=>⟨[.und,.und,I i',I j',I t,.und,.bp 1 0,.bp 2 0,.und,.und,.ref 3 0 (mL i' j' t ws k).length,I k,.und],exH m ws (mL i' j' t ws k)⟩) ws.length rfl ?_ ?_ (by simp)
                · intro k hk
                  obtain⟨q1,q2⟩:=wl k hk
                  have:=ln k
                  exact Rx m ws (by omega) i' j' (by omega) t k hk (s2 _ (ai hk)) (by omega) (by omega) (by omega) _ (by omega)
                · have:=ln ws.length
                  generalize mL i' j' t ws ws.length=L at*
                  simp(disch:=omega)only[go_sem,K.iN,↓reduceIte,exH,reduceAdd,reduceSub]
               have ln:=ln ws.length
               have sz:=FE (t:=t) s2 (i:=i') (j:=j') (fun k hk=>by obtain⟨q1,q2⟩:=wl k hk;omega) (fun k hk=>by obtain⟨q1,q2⟩:=wl k hk;omega) ws.length (aLs _)
               have ty:=acj (mL i' j' t ws ws.length) (by omega) (by omega) sz
               generalize mL i' j' t ws ws.length=L at*
               generalize Hc L=Z at*
               simp only[exH]at loop
               by_cases c6:24<Z.length
               · simp(disch:=omega)only[go_sem,K.bP,↓reduceIte,cb,cb1,vb,hx,g0,c1,c2,c3,c4,c5,c6,loop,ty,reduceAdd,reduceSub]
               · simp(disch:=omega)only[go_sem,K.bP,↓reduceIte,cb,cb1,vb,hx,g0,c1,c2,c3,c4,c5,c6,loop,ty,reduceAdd,reduceSub]
             · rw[if_pos ct]
               unfold inT at ct
               by_cases c6:t<0
               · simp(disch:=omega)only[go_sem,K.bP,↓reduceIte,cb,vb,hx,g0,c1,c2,c3,c4,c5,c6,reduceAdd,reduceSub]
               · simp(disch:=omega)only[go_sem,K.bP,↓reduceIte,cb,vb,hx,g0,c1,c2,c3,c4,c5,c6,reduceAdd,reduceSub]
@[go_sem] theorem ack (l : List Place) : rM 2 (l.map Place.e) = true := by cases l <;> rfl
@[go_sem] theorem afw (l : List Road) : rM 10 (l.map Road.e) = true := by cases l <;> rfl
@[go_sem] theorem afx (H : ao) (d : aD) : WZ H 0 1 false (some d.obj) = some (.t (tL d.L), H) := by simp only [aD.obj, go_sem]
def aD.fW(d:aD):Nat→List Place×aD
 | 0=>([],d)
 | k+1=>if k=0 then((d.fW k).1++[⟨-10*((d.fW k).2.next 4).1,true⟩],((d.fW k).2.next 4).2)
   else((d.fW k).1++[⟨-10*((d.fW k).2.next 4).1,(((d.fW k).2.next 4).2.one 6).1⟩],(((d.fW k).2.next 4).2.one 6).2)
def aD.Rz(d:aD)(i:Int):Road×aD:=
 (⟨i-1-(d.next (min i 2)).1,i,1+((d.next (min i 2)).2.of [11,59,119,4]).1,1+(((d.next (min i 2)).2.of [11,59,119,4]).2.of [9,3,19]).1,true,false,1,1,0,0⟩,
   (((d.next (min i 2)).2.of [11,59,119,4]).2.of [9,3,19]).2)
def aD.oR(d:aD):Nat→List Road×aD
 | 0=>([],d)
 | k+1=>((d.oR k).1++[((d.oR k).2.Rz (k+1)).1],((d.oR k).2.Rz (k+1)).2)
def aD.vq(d:aD)(n:Int):Road×aD:=
 let a:=d.next n
 let b:=a.2.next n
 let l:=b.2.of [11,59,199]
 let r:=l.2.of [9,3]
 let w:=r.2.next 5
 let c:=w.2.one 6
 (⟨a.1,b.1,1+l.1,1+r.1,decide (0<w.1),c.1,1,1,0,0⟩,c.2)
def aD.more(n:Int)(l:List Road)(d:aD):Nat→List Road×aD
 | 0=>(l,d)
 | k+1=>if l.length<10 then aD.more n (if(d.vq n).1.frm=(d.vq n).1.to then l else l++[(d.vq n).1]) (d.vq n).2 k else(l,d)
def aD.zQ(d:aD):Nat:=if d.L.length=0 then 4 else(2+(d.next 6).1).toNat
def aD.Ug(d:aD):List Place×aD:=(d.next 6).2.fW d.zQ
def aD.JY(d:aD):List Road×aD:=d.Ug.2.oR (d.zQ-1)
def aD.Xz(d:aD):List Road×aD:=aD.more d.zQ d.JY.1 (d.JY.2.next 4).2 (d.JY.2.next 4).1.toNat
def aD.Zm(d:aD):bh×aD:=(⟨d.Ug.1,d.Xz.1⟩,d.Xz.2)
theorem aD.oS{d:aD}(h:d.dC):∀n,(d.fW n).2.dC
 | 0=>h
 | n+1=>by
   unfold aD.fW
   split
   · exact aD.aZ (aD.oS h n) 4
   · exact aD.xc (aD.aZ (aD.oS h n) 4) 6
theorem aD.vt(d:aD):∀n,(d.fW n).1.length=n
 | 0=>rfl
 | n+1=>by
   unfold aD.fW
   split<;>simp[d.vt n]
theorem aD.OA{d:aD}(h:d.dC)(i:Int):(d.Rz i).2.dC:=aD.ly (aD.ly (aD.aZ h _) _) _
theorem aD.r7{d:aD}(h:d.dC):∀n,(d.oR n).2.dC
 | 0=>h
 | n+1=>aD.OA (aD.r7 h n) _
theorem aD.yk(d:aD):∀n,(d.oR n).1.length=n
 | 0=>rfl
 | n+1=>by simp[aD.oR,d.yk n]
theorem aD.FF{d:aD}(h:d.dC)(n:Int):(d.vq n).2.dC:=by
 unfold aD.vq;simp only
 exact aD.xc (aD.aZ (aD.ly (aD.ly (aD.aZ (aD.aZ h _) _) _) _) _) _
theorem aD.IS(n:Int):∀(k:Nat) (l:List Road) {d:aD},d.dC→(aD.more n l d k).2.dC
 | 0,l,d,h=>h
 | k+1,l,d,h=>by
   unfold aD.more
   split
   · exact aD.IS n k _ (aD.FF h n)
   · exact h
theorem aD.RA{d:aD}(h:d.dC):d.Zm.2.dC:=
 aD.IS _ _ _ (aD.aZ (aD.r7 (aD.oS (aD.aZ h _) _) _) _)
abbrev JZ:List D:=[I 0,I 0,I 12,I 10,B true,B false,I 1,I 1,I 0,I 0]
theorem RB(d:aD)(hd:d.dC)(n:Nat)(hn:n≤8)(a b c e f:D):
 exS aW K.tF ⟨[.bp 0 0,.bp 1 0,.bp 2 0,I n,I 0,a,b,c,e,f],[d.obj,.box [.nil,.nil],.box [.ref 3 0 0,.ref 4 0 0],.arr 2 false 0 [],.arr 10 false 0 []]⟩=
 some (.exit 0,⟨[.bp 0 0,.bp 1 0,.bp 2 0,I n,I n,.und,.und,.und,.und,.und],[(d.fW n).2.obj,.box [.nil,.nil],.box [.ref 3 0 (d.fW n).1.length,.ref 4 0 0],.arr 2 false 0 (((d.fW n).1.map Place.e).map .t),.arr 10 false 0 []]⟩):=by
 refine dm (fun j=>⟨[.bp 0 0,.bp 1 0,.bp 2 0,I n,I j,.und,.und,.und,.und,.und],[(d.fW j).2.obj,.box [.nil,.nil],.box [.ref 3 0 (d.fW j).1.length,.ref 4 0 0],.arr 2 false 0 (((d.fW j).1.map Place.e).map .t),.arr 10 false 0 []]⟩) n rfl ?_ ?_ (by simp)
 · intro j hj
   have ln:=d.vt j
   have lt:=aD.oS hd j
   simp only[aD.fW]
   generalize d.fW j=s at*
   obtain⟨l,d1⟩:=s
   simp only at ln lt ⊢
   have h1:=gJ d1 4 (by omega) lt
   have b1:=d1.dN 4
   have b2:=d1.dV (n:=4) (by omega)
   have l1:=aD.aZ lt 4
   generalize d1.next 4=a1 at*
   obtain⟨x,d2⟩:=a1
   simp only at h1 b1 b2 l1 ⊢
   by_cases j0:j=0
   · subst j0
     simp(disch:=omega)only[go_sem,K.lr,h1,↓reduceIte,reduceAdd,reduceSub]
   · have h2:=P9 d2 6 (by omega) (by omega) l1
     simp(disch:=omega)only[go_sem,K.lr,h1,h2,j0,↓reduceIte,reduceAdd,reduceSub]
 · simp(disch:=omega)only[go_sem,K.lr,↓reduceIte]
theorem RC(d:aD)(hd:d.dC)(n:Nat)(hn:n≤8)(h1:1≤n)(ps:List Place)(a b c e:D):
 exS aW K.tG ⟨[.bp 0 0,.bp 1 0,.bp 2 0,I n,a,.bp 5 0,I 1,b,c,e],[d.obj,.box [.nil,.nil],.box [.ref 3 0 ps.length,.ref 4 0 0],.arr 2 false 0 ((ps.map Place.e).map .t),.arr 10 false 0 [],.box JZ]⟩=
 some (.exit 2,⟨[.bp 0 0,.bp 1 0,.bp 2 0,I n,.und,.bp 5 0,I n,.und,.und,.und],[(d.oR (n-1)).2.obj,.box [.nil,.nil],.box [.ref 3 0 ps.length,.ref 4 0 (d.oR (n-1)).1.length],.arr 2 false 0 ((ps.map Place.e).map .t),.arr 10 false 0 (((d.oR (n-1)).1.map Road.e).map .t),.box JZ]⟩):=by
 refine dm (fun j=>⟨[.bp 0 0,.bp 1 0,.bp 2 0,I n,.und,.bp 5 0,I (j+1),.und,.und,.und],[(d.oR j).2.obj,.box [.nil,.nil],.box [.ref 3 0 ps.length,.ref 4 0 (d.oR j).1.length],.arr 2 false 0 ((ps.map Place.e).map .t),.arr 10 false 0 (((d.oR j).1.map Road.e).map .t),.box JZ]⟩) (n-1) rfl ?_ ?_ (by simp)
 · intro j hj
   have ln:=d.yk j
   have lt:=aD.r7 hd j
   simp only[aD.oR]
   generalize d.oR j=s at*
   obtain⟨l,d1⟩:=s
   simp only[aD.Rz]at ln lt ⊢
   have h1:=gJ d1 (min ((j:Int)+1) 2) (by omega) lt
   have b1:=d1.dN (min ((j:Int)+1) 2)
   have b2:=d1.dV (n:=min ((j:Int)+1) 2) (by omega)
   have l1:=aD.aZ lt (min ((j:Int)+1) 2)
   generalize d1.next (min ((j:Int)+1) 2)=a1 at*
   obtain⟨x,d2⟩:=a1
   simp only at h1 b1 b2 l1 ⊢
   have h2:=LN d2 [11,59,119,4] (by simp) (by simp) l1
   have m2:=d2.qZ (l:=[11,59,119,4]) (by simp)
   have l2:=aD.ly l1 [11,59,119,4]
   generalize d2.of [11,59,119,4]=a2 at*
   obtain⟨y,d3⟩:=a2
   simp only[tL,List.map_cons,List.map_nil]at h2 m2 l2 ⊢
   have h3:=LN d3 [9,3,19] (by simp) (by simp) l2
   have m3:=d3.qZ (l:=[9,3,19]) (by simp)
   generalize d3.of [9,3,19]=a3 at*
   obtain⟨z,d4⟩:=a3
   simp only[tL,List.map_cons,List.map_nil,List.mem_cons,List.not_mem_nil,or_false]at h3 m2 m3 ⊢
   simp(disch:=omega)only[go_sem,K.oA,h1,h2,h3,↓reduceIte,reduceAdd,reduceSub]
 · simp(disch:=omega)only[go_sem,K.oA,↓reduceIte]
   rw[show((n-1:Nat):Int)+1=n by omega]
abbrev Mc(d:aD)(ps:List Place)(l:List Road):ao:=[d.obj,.box [.nil,.nil],.box [.ref 3 0 ps.length,.ref 4 0 l.length],.arr 2 false 0 ((ps.map Place.e).map .t),.arr 10 false 0 ((l.map Road.e).map .t),.box JZ]
theorem RD(d:aD)(hd:d.dC)(n:Int)(hn:1≤n)(hn2:n≤8)(ps:List Place)(l:List Road)(hl:l.length<10)(k:Nat)(hk:k≤10):
 gF true [4,6,7,9] 6 (exS aW K.eY ⟨[.bp 0 0,.bp 1 0,.bp 2 0,I n,.und,.bp 5 0,.und,.und,I (k+1),.und],Mc d ps l⟩)=
 some ⟨[.bp 0 0,.bp 1 0,.bp 2 0,I n,.und,.bp 5 0,.und,.und,I k,.und],Mc (d.vq n).2 ps (if(d.vq n).1.frm=(d.vq n).1.to then l else l++[(d.vq n).1])⟩:=by
 unfold aD.vq Mc
 simp only
 have h1:=gJ d n (by omega) hd
 have l1:=aD.aZ hd n
 generalize d.next n=a1 at*
 obtain⟨x1,d1⟩:=a1
 simp only at h1 l1 ⊢
 have h2:=gJ d1 n (by omega) l1
 have l2:=aD.aZ l1 n
 generalize d1.next n=a2 at*
 obtain⟨x2,d2⟩:=a2
 simp only at h2 l2 ⊢
 have h3:=LN d2 [11,59,199] (by simp) (by simp) l2
 have m3:=d2.qZ (l:=[11,59,199]) (by simp)
 have l3:=aD.ly l2 [11,59,199]
 generalize d2.of [11,59,199]=a3 at*
 obtain⟨x3,d3⟩:=a3
 simp only[tL,List.map_cons,List.map_nil]at h3 m3 l3 ⊢
 have h4:=LN d3 [9,3] (by simp) (by simp) l3
 have m4:=d3.qZ (l:=[9,3]) (by simp)
 have l4:=aD.ly l3 [9,3]
 generalize d3.of [9,3]=a4 at*
 obtain⟨x4,d4⟩:=a4
 simp only[tL,List.map_cons,List.map_nil]at h4 m4 l4 ⊢
 have h5:=gJ d4 5 (by omega) l4
 have l5:=aD.aZ l4 5
 generalize d4.next 5=a5 at*
 obtain⟨x5,d5⟩:=a5
 simp only at h5 l5 ⊢
 have h6:=P9 d5 6 (by omega) (by omega) l5
 generalize d5.one 6=a6 at*
 obtain⟨x6,d6⟩:=a6
 simp only[List.mem_cons,List.not_mem_nil,or_false]at h6 m3 m4 ⊢
 by_cases e:x1=x2
 · simp(disch:=omega)only[go_sem,K.eY,h1,h2,h3,h4,h5,h6,e,↓reduceIte,reduceAdd,reduceSub]
 · simp(disch:=omega)only[go_sem,K.eY,h1,h2,h3,h4,h5,h6,e,↓reduceIte,reduceAdd,reduceSub]
theorem IT(n:Int)(hn:1≤n)(hn2:n≤8)(ps:List Place):∀(k:Nat) (d:aD) (l:List Road),d.dC→l.length≤10→k≤10→
 ∃z:Int,qQ true [4,6,7,9] (exS aW K.eY) ⟨[.bp 0 0,.bp 1 0,.bp 2 0,I n,.und,.bp 5 0,.und,.und,I k,.und],Mc d ps l⟩=
 some (.exit 4,⟨[.bp 0 0,.bp 1 0,.bp 2 0,I n,.und,.bp 5 0,.und,.und,I z,.und],Mc (aD.more n l d k).2 ps (aD.more n l d k).1⟩)
 | 0,d,l,hd,hl,hk=>by
   refine⟨0,fC ?_ (by simp)⟩
   simp(disch:=omega)only[go_sem,K.eY,aD.more,↓reduceIte,reduceAdd,reduceSub]
 | k+1,d,l,hd,hl,hk=>by
   by_cases h:l.length<10
   · have hr:=RD d hd n hn hn2 ps l h k (by omega)
     obtain⟨z,hz⟩:=IT n hn hn2 ps k (d.vq n).2 (if(d.vq n).1.frm=(d.vq n).1.to then l else l++[(d.vq n).1]) (aD.FF hd n) (by split<;>(try rw[aLv,List.length_singleton])<;>omega) (by omega)
     refine⟨z,nO hr ?_⟩
     rw[hz]
     simp only[aD.more,if_pos h]
   · refine⟨(k:Int)+1,fC ?_ (by simp)⟩
     simp(disch:=omega)only[go_sem,K.eY,aD.more,↓reduceIte,reduceAdd,reduceSub]
theorem aD.Qk(n:Int):∀(k:Nat) (l:List Road) (d:aD),l.length≤10→(aD.more n l d k).1.length≤10
 | 0,l,d,h=>h
 | k+1,l,d,h=>by
   unfold aD.more
   split
   · exact aD.Qk n k _ _ (by split<;>(try rw[aLv,List.length_singleton])<;>omega)
   · exact h
theorem aD.EE(d:aD):2≤d.zQ∧d.zQ≤7:=by
 unfold aD.zQ
 have:=d.dN 6
 have:=d.dV (n:=6) (by omega)
 split<;>omega
theorem acm(d:aD)(hd:d.dC):aW 0 N.dw [.bp 0 0] [d.obj]=some (.t d.Zm.1.e,[d.Zm.2.obj]):=by
 refine aA K.qg rfl ?_
 have nb:=d.EE
 unfold aD.Zm
 have h0:=gJ d 6 (by omega) hd
 have l0:=aD.aZ hd 6
 have b1:=d.dN 6
 have b2:=d.dV (n:=6) (by omega)
 have hL:=d.Ze 6
 have hN:(d.zQ:Int)=if d.L.length=0 then 4 else 2+(d.next 6).1:=by unfold aD.zQ;split<;>omega
 have e1:d.Xz=aD.more d.zQ d.JY.1 (d.JY.2.next 4).2 (d.JY.2.next 4).1.toNat:=rfl
 have e2:d.JY=d.Ug.2.oR (d.zQ-1):=rfl
 have e3:d.Ug=(d.next 6).2.fW d.zQ:=rfl
 generalize d.Xz=X at*
 generalize d.JY=R at*
 generalize d.Ug=P at*
 generalize d.zQ=n at*
 generalize d.next 6=a at*
 obtain⟨x,d1⟩:=a
 simp only at h0 l0 b1 b2 hL hN e3 ⊢
 have q1:=RB d1 l0 n (by omega)
 have lP:=aD.oS l0 n
 have nP:=d1.vt n
 rw[← e3]at q1 lP nP
 obtain⟨ps,d2⟩:=P
 simp only at q1 lP nP e2 ⊢
 have q2:=RC d2 lP n (by omega) (by omega) ps
 have lR:=aD.r7 lP (n-1)
 have nR:=d2.yk (n-1)
 rw[← e2]at q2 lR nR
 obtain⟨rs,d3⟩:=R
 simp only at q2 lR nR e1 ⊢
 have h4:=gJ d3 4 (by omega) lR
 have l4:=aD.aZ lR 4
 have b3:=d3.dN 4
 have b4:=d3.dV (n:=4) (by omega)
 generalize d3.next 4=c at*
 obtain⟨y,d4⟩:=c
 simp only at h4 l4 b3 b4 e1 ⊢
 obtain⟨z,q3⟩:=IT n (by omega) (by omega) ps y.toNat d4 rs l4 (by omega) (by omega)
 rw[← e1]at q3
 have q3:=Fp (vs:=[.bp 0 0,.bp 1 0,.bp 2 0,I n,.und,.bp 5 0,I n,.und,I y.toNat,.und]) q3
 have ey:(y.toNat:Int)=y:=by omega
 rw[ey]at q3
 obtain⟨xs,d5⟩:=X
 have fin:∀k:Int,(exS aW K.tH ⟨[.bp 0 0,.bp 1 0,.bp 2 0,I n,.und,.bp 5 0,I n,.und,I y,.und],Mc d4 ps rs⟩)=
  some (.exit 4,⟨[.bp 0 0,.bp 1 0,.bp 2 0,I n,.und,.bp 5 0,.und,.und,I z,.und],Mc d5 ps xs⟩):=fun _=>q3
 clear q3
 have q3:=fin 0
 clear fin
 simp only[Mc]at q3
 by_cases c0:d.L.length=0
 · rw[if_pos c0]at hN
   obtain rfl:n=4:=by omega
   have e4:((4:Nat):Int)=4:=rfl
   simp only[e4]at q1 q2 q3
   simp(disch:=omega)only[go_sem,K.dw,↓reduceIte,h0,c0,q1,q2,q3,h4,hL,reduceAdd,reduceSub]
 · rw[if_neg c0]at hN
   simp(disch:=omega)only[go_sem,K.dw,↓reduceIte,h0,c0,q1,q2,q3,h4,hL,hN.symm,reduceAdd,reduceSub]
theorem aD.XA(d:aD){n:Nat}{i:Int}(h1:1≤i)(h2:i<n):(d.Rz i).1.ok n:=by
 have b1:=d.dN (min i 2)
 have b2:=d.dV (n:=min i 2) (by omega)
 have m2:=(d.next (min i 2)).2.qZ (l:=[11,59,119,4]) (by simp)
 have m3:=((d.next (min i 2)).2.of [11,59,119,4]).2.qZ (l:=[9,3,19]) (by simp)
 simp only[List.mem_cons,List.not_mem_nil,or_false]at m2 m3
 unfold aD.Rz
 constructor<;>(simp only;omega)
theorem aD.Md(d:aD){n:Nat}:∀k,k+1≤n→∀r∈(d.oR k).1,r.ok n
 | 0,_,r,hr=>by simp[aD.oR]at hr
 | k+1,h,r,hr=>by
   simp only[aD.oR,List.mem_append,List.mem_singleton]at hr
   rcases hr with hr | rfl
   · exact d.Md k (by omega) r hr
   · exact aD.XA _ (by omega) (by omega)
theorem aD.XB(d:aD){n:Nat}(hn:1≤n)(hne:(d.vq n).1.frm≠(d.vq n).1.to):(d.vq n).1.ok n:=by
 unfold aD.vq at hne ⊢
 simp only at hne ⊢
 have b1:=d.dN n
 have b2:=d.dV (n:=(n:Int)) (by omega)
 generalize d.next n=a1 at*
 obtain⟨x1,d1⟩:=a1
 simp only at*
 have c1:=d1.dN n
 have c2:=d1.dV (n:=(n:Int)) (by omega)
 generalize d1.next n=a2 at*
 obtain⟨x2,d2⟩:=a2
 simp only at*
 have m3:=d2.qZ (l:=[11,59,199]) (by simp)
 generalize d2.of [11,59,199]=a3 at*
 obtain⟨x3,d3⟩:=a3
 simp only at*
 have m4:=d3.qZ (l:=[9,3]) (by simp)
 generalize d3.of [9,3]=a4 at*
 obtain⟨x4,d4⟩:=a4
 simp only[List.mem_cons,List.not_mem_nil,or_false]at m3 m4 ⊢
 constructor<;>(simp only;omega)
theorem aD.Uh{n:Nat}(hn:1≤n):∀(k:Nat) (l:List Road) (d:aD),(∀r∈l,r.ok n)→∀r∈(aD.more n l d k).1,r.ok n
 | 0,l,d,h=>h
 | k+1,l,d,h=>by
   unfold aD.more
   split
   · refine aD.Uh hn k _ _ ?_
     split
     · exact h
     · rename_i hne
       intro r hr
       rcases List.mem_append.1 hr with hr | hr
       · exact h r hr
       · rw[List.mem_singleton.1 hr];exact d.XB hn hne
   · exact h
theorem aD.Me(n:Int):∀(k:Nat) (l:List Road) (d:aD),l.length≤(aD.more n l d k).1.length
 | 0,l,d=>aLs _
 | k+1,l,d=>by
   unfold aD.more
   split
   · refine Nat.le_trans ?_ (aD.Me n k _ _)
     split<;>(try rw[aLv])<;>omega
   · exact aLs _
theorem aD.Mf(d:aD):∀k,∀p∈(d.fW k).1, -30≤p.h∧p.h≤0
 | 0,p,hp=>by simp[aD.fW]at hp
 | k+1,p,hp=>by
   have b1:=(d.fW k).2.dN 4
   have b2:=(d.fW k).2.dV (n:=4) (by omega)
   unfold aD.fW at hp
   split at hp
   all_goals
    simp only[List.mem_append,List.mem_singleton]at hp
    rcases hp with hp | rfl
    · exact d.Mf k p hp
    · simp only;omega
theorem aD.FH(d:aD):d.Zm.1.ae.length=d.zQ:=aD.vt _ _
theorem aD.IU(d:aD):d.zQ-1≤d.Zm.1.roads.length∧d.Zm.1.roads.length≤10:=by
 have nb:=d.EE
 have e:d.JY.1.length=d.zQ-1:=aD.yk _ _
 constructor
 · rw[← e];exact aD.Me _ _ _ _
 · exact aD.Qk _ _ _ _ (by omega)
theorem aD.Ui(d:aD):d.Zm.1.ok:=by
 have nb:=d.EE
 have h1:=d.FH
 have h2:=d.IU
 refine⟨by omega,by omega,fun p hp=>?_,?_⟩
 · have:=aD.Mf _ _ p hp;omega
 · rw[h1]
   exact aD.Uh (by omega) _ _ _ (aD.Md _ _ (by omega))
def vu:Nat→List Int
 | 0=>[]
 | k+1=>vu k++[3+(k:Int)*2]
def aD.pT(d:aD)(n:Int):Nat→List Int×aD
 | 0=>([],d)
 | k+1=>((d.pT n k).1++[((d.pT n k).2.next n).1],((d.pT n k).2.next n).2)
theorem pU:∀k,(vu k).length=k
 | 0=>rfl
 | k+1=>by simp[vu,pU k]
theorem aD.pD(d:aD)(n:Int):∀k,(d.pT n k).1.length=k
 | 0=>rfl
 | k+1=>by simp[aD.pT,d.pD n k]
theorem aD.r8{d:aD}(h:d.dC)(n:Int):∀k,(d.pT n k).2.dC
 | 0=>h
 | k+1=>aD.aZ (aD.r8 h n k) n
structure BSt where
 b:Bel
 t:Int
 d:aD
def aD.qp(m:bh)(n:Int)(s:BSt):BSt:=
 let a:=s.d.next 60
 let c:=a.2.next 3
 if c.1=0 then
  let i:=c.2.next n
  let j:=i.2.next n
  let r:=sX m s.b i.1 j.1 (s.t+a.1)
  ⟨if r.2=0 then r.1 else s.b,s.t+a.1,j.2⟩
 else if c.1=1 then
  let g:=c.2.next n
  let l:=g.2.rN m.ae.length
  let e:=l.2.next 9
  let r:=yY m s.b (3+2*g.1) l.1 (s.t+a.1) (s.t+a.1+e.1)
  ⟨if r.2=0 then r.1 else s.b,s.t+a.1,e.2⟩
 else
  let g:=c.2.next n
  let l:=g.2.rN m.ae.length
  let e:=l.2.next 40
  let r:=yZ m s.b (3+2*g.1) l.1 (s.t+a.1) (s.t+a.1+50) e.1
  ⟨if r.2=0 then r.1 else s.b,s.t+a.1,e.2⟩
def aD.G5(m:bh)(n:Int)(s:BSt):Nat→BSt
 | 0=>s
 | k+1=>aD.qp m n (aD.G5 m n s k)
def aD.vv(d:aD):Nat:=(1+(d.next 3).1).toNat
def aD.r9(d:aD)(m:bh):List Int×aD:=(d.next 3).2.pT m.ae.length d.vv
def aD.V3(d:aD)(m:bh):BSt:=⟨(yh m (vu d.vv) (d.r9 m).1 ((d.r9 m).2.next 100).1).1,100,(((d.r9 m).2.next 100).2.next 5).2⟩
def aD.Zn(d:aD)(m:bh):Nat:=(((d.r9 m).2.next 100).2.next 5).1.toNat
def aD.alU(d:aD)(m:bh):BSt:=aD.G5 m d.vv (d.V3 m) (d.Zn m)
def aD.IV(d:aD)(m:bh):Bel×aD:=((d.alU m).b,(d.alU m).d)
structure WOk(m:bh)(N:Nat)(x:World):Prop where
 tg:x.tags.length=N
 wh:x.whr.length=N
 fr:∀w∈x.whr,w.frm.length=m.ae.length
 ti:∀w∈x.whr,inT w.time
structure BOk(m:bh)(N:Nat)(b:Bel):Prop where
 w1:1≤b.aK.length
 w2:b.aK.length≤24
 n1:1≤N
 n2:N≤12
 ws:∀x∈b.aK,WOk m N x
theorem WOk.sz{m:bh}{N:Nat}{x:World}(h:WOk m N x)(hm:m.ok)(hn:N≤12):x.sz:=by
 have np:=hm.np
 obtain⟨t1,t2,t3, -⟩:=h
 exact⟨by omega,by omega,fun w hw=>by rw[t3 w hw];omega⟩
theorem BOk.sz{m:bh}{N:Nat}{b:Bel}(h:BOk m N b)(hm:m.ok):b.sz:=
 ⟨by have:=h.w2;omega,fun x hx=>(h.ws x hx).sz hm h.n2⟩
theorem J0{m:bh}{n:Int}{s:BSt}(h:s.d.dC):(aD.qp m n s).d.dC:=by
 unfold aD.qp
 simp only
 have l1:=aD.aZ h 60
 generalize s.d.next 60=a at*
 obtain⟨a1,d1⟩:=a
 simp only at l1 ⊢
 have l2:=aD.aZ l1 3
 generalize d1.next 3=c at*
 obtain⟨c1,d2⟩:=c
 simp only at l2 ⊢
 split
 · exact aD.aZ (aD.aZ l2 n) n
 · split
   · exact aD.aZ (aD.q0 (aD.aZ l2 n) _) 9
   · exact aD.aZ (aD.q0 (aD.aZ l2 n) _) 40
abbrev blH(m:bh)(p1 p2:Bool)(tags cu:List Int)(s:BSt):ao:=[s.d.obj,.box (af m),.box [.nil],.arr 1 p1 0 (ints tags),.arr 1 p2 0 (ints cu),.box [.t (.sl (s.b.aK.map World.e))]]
theorem Uj{m:bh}(hm:m.ok)(n:Int)(n1:1≤n)(n2:n≤12)(tags cu:List Int)(s:BSt)(hd:s.d.dC)(hb:s.b.sz)(ht:0≤s.t)(ht2:s.t≤1000000)(k:Nat)(hk:k≤100)(p1 p2:Bool):
 gF true [1,5,6,7,11,12,13,14,15,16,17] 6 (exS aW K.bU ⟨[.bp 0 0,.und,.bp 1 0,.bp 2 0,I n,.und,.und,.und,.bp 5 0,I s.t,I (k+1),.und,.und,.und,.und,.und,.und,.und],blH m p1 p2 tags cu s⟩)=
 some ⟨[.bp 0 0,.und,.bp 1 0,.bp 2 0,I n,.und,.und,.und,.bp 5 0,I (aD.qp m n s).t,I k,.und,.und,.und,.und,.und,.und,.und],blH m p1 p2 tags cu (aD.qp m n s)⟩:=by
 obtain⟨b,t,d⟩:=s
 simp only at hd hb ht ht2
 unfold aD.qp
 simp only
 have np:=hm.np
 have h1:=gJ d 60 (by omega) hd
 have l1:=aD.aZ hd 60
 have a0:=d.dN 60
 have a9:=d.dV (n:=60) (by omega)
 generalize d.next 60=a at*
 obtain⟨x1,d1⟩:=a
 simp only at h1 l1 a0 a9 ⊢
 have h2:=gJ d1 3 (by omega) l1
 have l2:=aD.aZ l1 3
 have c0:=d1.dN 3
 have c9:=d1.dV (n:=3) (by omega)
 generalize d1.next 3=c at*
 obtain⟨x2,d2⟩:=c
 simp only at h2 l2 c0 c9 ⊢
 have h3:=gJ d2 n (by omega) l2
 have l3:=aD.aZ l2 n
 have g0:=d2.dN n
 have g9:=d2.dV (n:=n) n1
 generalize d2.next n=g at*
 obtain⟨x3,d3⟩:=g
 simp only at h3 l3 g0 g9 ⊢
 by_cases e0:x2=0
 · simp only[if_pos e0]
   have h4:=gJ d3 n (by omega) l3
   generalize d3.next n=g at*
   obtain⟨x4,d4⟩:=g
   simp only at h4 ⊢
   have ex:=Ry hm b hb x3 x4 (t+x1)
   generalize sX m b x3 x4 (t+x1)=r at*
   obtain⟨⟨ws'⟩,er⟩:=r
   obtain⟨ws⟩:=b
   simp only at ex ⊢
   subst e0
   by_cases e:er=0
   · simp(disch:=omega)only[go_sem,K.bU,↓reduceIte,blH,h1,h2,h3,h4,ex,e,reduceAdd,reduceSub]
   · simp(disch:=omega)only[go_sem,K.bU,↓reduceIte,blH,h1,h2,h3,h4,ex,e,reduceAdd,reduceSub]
 · simp only[if_neg e0]
   have h4:=abU d3 m.ae.length (by omega) l3
   have l4:=aD.q0 l3 m.ae.length
   have ln:=d3.Fq m.ae.length
   generalize d3.rN m.ae.length=q at*
   obtain⟨l,d4⟩:=q
   simp only at h4 l4 ln ⊢
   by_cases e1:x2=1
   · simp only[if_pos e1]
     have h5:=gJ d4 9 (by omega) l4
     have f0:=d4.dN 9
     have f9:=d4.dV (n:=9) (by omega)
     generalize d4.next 9=g at*
     obtain⟨x5,d5⟩:=g
     simp only at h5 f0 f9 ⊢
     have ex:=T8 hm b hb (3+2*x3) l (by omega) (t+x1) (t+x1+x5)
     generalize yY m b (3+2*x3) l (t+x1) (t+x1+x5)=r at*
     obtain⟨⟨ws'⟩,er⟩:=r
     obtain⟨ws⟩:=b
     simp only at ex ⊢
     subst e1
     by_cases e:er=0
     · simp(disch:=omega)only[go_sem,K.bU,↓reduceIte,blH,h1,h2,h3,h4,h5,ex,e,reduceAdd,reduceSub]
     · simp(disch:=omega)only[go_sem,K.bU,↓reduceIte,blH,h1,h2,h3,h4,h5,ex,e,reduceAdd,reduceSub]
   · simp only[if_neg e1]
     have h5:=gJ d4 40 (by omega) l4
     have f0:=d4.dN 40
     have f9:=d4.dV (n:=40) (by omega)
     generalize d4.next 40=g at*
     obtain⟨x5,d5⟩:=g
     simp only at h5 f0 f9 ⊢
     have ex:=T9 hm b hb (3+2*x3) l (by omega) (t+x1) (t+x1+50) x5
     generalize yZ m b (3+2*x3) l (t+x1) (t+x1+50) x5=r at*
     obtain⟨⟨ws'⟩,er⟩:=r
     obtain⟨ws⟩:=b
     simp only at ex ⊢
     by_cases e:er=0
     · simp(disch:=omega)only[go_sem,K.bU,↓reduceIte,blH,h1,h2,h3,h4,h5,ex,e,e0,e1,reduceAdd,reduceSub]
     · simp(disch:=omega)only[go_sem,K.bU,↓reduceIte,blH,h1,h2,h3,h4,h5,ex,e,e0,e1,reduceAdd,reduceSub]
theorem Mg{m:bh}(hm:m.ok){p t:Int}(p0:0≤p)(p1:p<m.ae.length)(ht:inT t):(jt m p t).2=0∧(jt m p t).1.frm.length=m.ae.length:=by
 unfold jt
 rw[if_neg (by omega),if_pos ht]
 refine⟨rfl,?_⟩
 exact pA hm t ht none (fun l h=>by cases h) (by simp) (xd (Cl _) ht.1 (by have:=ht.2;omega))
theorem Uk{m:bh}{p t:Int}(ht:inT t):inT (jt m p t).1.time:=by
 unfold jt
 split
 · unfold inT;simp
 · exact ht
theorem acn{m:bh}(w:Wh)(l:List Int)(a b:Int)(hw:inT w.time):inT (JO m w l a b).1.time:=by
 unfold JO
 split
 · exact hw
 · rename_i h
   have h0:oO m w l a b=0:=by simpa using h
   obtain⟨v1,v2,v3,v4,v5,v6⟩:=qF h0
   split
   · exact hw
   · split
     · exact v5
     · exact hw
theorem aco{m:bh}(w:Wh)(l:List Int)(a b bl:Int)(hw:inT w.time):inT (K5 m w l a b bl).1.time:=by
 unfold K5
 split
 · exact hw
 · rename_i h
   have h0:oO m w l a b=0:=by simpa using h
   obtain⟨v1,v2,v3,v4,v5,v6⟩:=qF h0
   split
   · exact hw
   · split
     · exact hw
     · split
       · exact hw
       · exact v5
theorem XC{a b:Wh}(ha:inT a.time)(hb:inT b.time):inT (rO a b).1.time:=by
 unfold rO
 split
 · unfold inT at *;simp only;omega
 · unfold inT;simp
theorem Mh{w:Wh}{t:Int}(h:inT w.time):inT (tP w t).1.time:=by
 unfold tP
 split
 · exact h
 · unfold inT at *;simp only;omega
theorem Ql(a b:List Wh)(ha:∀w∈a,inT w.time)(hb:∀w∈b,inT w.time):∀p,p≤a.length→p≤b.length→∀w∈rq a b p,inT w.time
 | 0,_,_,w,hw=>ha w hw
 | p+1,h1,h2,w,hw=>by
   simp only[rq]at hw
   rcases aLk hw with hw | rfl
   · exact Ql a b ha hb p (by omega) (by omega) w hw
   · exact XC (ha _ (ai (by omega))) (hb _ (ai (by omega)))
theorem XD{m:bh}(hm:m.ok)(w:Wh)(l:List Int)(a b:Int)(hw:w.frm.length=m.ae.length):(JO m w l a b).1.frm.length=m.ae.length:=by
 unfold JO
 split
 · exact hw
 · rename_i h
   have h0:oO m w l a b=0:=by simpa using h
   obtain⟨v1,v2,v3,v4,v5,v6⟩:=qF h0
   obtain⟨w1,w2,w3,w4⟩:=jh v1
   have hb:bnd w.frm:=fun x hx=>sV (w3 x hx)
   split
   · exact hw
   · split
     · refine pA hm a v4 none (fun l h=>by cases h) (vj _ _ _ _ _) (JN hb _ _ ?_ _ (aLs _))
       intro p hp
       obtain⟨j,hj⟩:=aLf.1 hp
       have hjl:=(aLe.1 hj).1
       obtain⟨q1,q2, -⟩:=vi v3 hjl
       rw[bY hj]at q1 q2
       omega
     · exact hw
theorem XE{m:bh}(hm:m.ok)(w:Wh)(l:List Int)(a b bl:Int)(hw:w.frm.length=m.ae.length):(K5 m w l a b bl).1.frm.length=m.ae.length:=by
 unfold K5
 split
 · exact hw
 · rename_i h
   have h0:oO m w l a b=0:=by simpa using h
   obtain⟨v1,v2,v3,v4,v5,v6⟩:=qF h0
   obtain⟨w1,w2,w3,w4⟩:=jh v1
   have hb:bnd w.frm:=fun x hx=>sV (w3 x hx)
   split
   · exact hw
   · split
     · exact hw
     · split
       · exact hw
       · rename_i h1 h2 h3
         have hlen:=JM v3
         have np:=hm.np
         have h1:inT bl:=by simpa using h1
         unfold inT at v4 v5 w2 h1
         have t1:inT (b-bl):=by unfold inT;omega
         have hi:∀s,some l=some s→s≠[]∧s.length≤64:=by
          intro s hs;cases hs;exact⟨v2,by omega⟩
         have ln:=AY w.frm l l.length
         have lb:=JP hb l l.length
         exact pA hm b v5 none (fun l h=>by cases h) (pA hm _ t1 _ hi (by omega) lb) (IH hm _ t1 _ hi (by omega) lb)
theorem Ul{m:bh}{N:Nat}{tag:Int}{x:World}{w:Wh}(hx:WOk m N x)(hw:w.frm.length=m.ae.length)(hw2:inT w.time):WOk m N (Rt tag x w):=by
 obtain⟨t1,t2,t3,t4⟩:=hx
 refine⟨t1,by simpa [Rt]using t2,fun y hy=>?_,fun y hy=>?_⟩
 · simp only[Rt]at hy
   rcases aLk hy with hy | rfl
   · exact t3 y hy
   · exact hw
 · simp only[Rt]at hy
   rcases aLk hy with hy | rfl
   · exact t4 y hy
   · exact hw2
theorem OB{m:bh}(hm:m.ok){N:Nat}{b:Bel}(hb:BOk m N b)(tag:Int)(l:List Int)(a c:Int):BOk m N (if(yY m b tag l a c).2=0 then(yY m b tag l a c).1 else b):=by
 split
 · rename_i h0
   unfold yY at h0 ⊢
   by_cases e0:rp m b tag=0
   · simp only[e0,ne_eq,not_true_eq_false,if_false]at h0 ⊢
     obtain⟨_,bb⟩:=Ow e0
     cases hf:(List.range b.aK.length).find? (L7 m tag l a c b.aK)with
     | some i=>simp only[hf];exact hb
     | none=>
       simp only[hf]at h0 ⊢
       split at h0
       · simp at h0
       · rename_i hl
         rw[if_neg hl]
         have ln:=A2 m tag l a c b.aK b.aK.length
         refine⟨by simp only;omega,by have:=hb.w2;simp only;omega,hb.n1,hb.n2,?_⟩
         have key:∀j,j≤b.aK.length→∀x∈tU m tag l a c b.aK j,WOk m N x:=by
          intro j
          induction j with
          | zero=>intro _ x hx;simp[tU]at hx
          | succ j ih=>
            intro hj x hx
            have wj:=hb.ws _ (ai (l:=b.aK) (j:=j) (by omega))
            obtain⟨b1,b2⟩:=bb j (by omega)
            simp only[tU,Ov]at hx
            split at hx
            · exact ih (by omega) x hx
            · rcases List.mem_append.1 hx with hx | hx
              · exact ih (by omega) x hx
              · rw[List.mem_singleton.1 hx]
                split
                · exact Ul wj (XD hm _ l a c (wj.fr _ (ai (by omega)))) (acn _ l a c (wj.ti _ (ai (by omega))))
                · exact wj
         exact key _ (aLs _)
   · rw[if_pos e0]at h0 ⊢
     exact hb
 · exact hb
theorem OC{m:bh}(hm:m.ok){N:Nat}{b:Bel}(hb:BOk m N b)(tag:Int)(l:List Int)(a c bl:Int):BOk m N (if(yZ m b tag l a c bl).2=0 then(yZ m b tag l a c bl).1 else b):=by
 split
 · rename_i h0
   unfold yZ at h0 ⊢
   by_cases e0:rp m b tag=0
   · simp only[e0,ne_eq,not_true_eq_false,if_false]at h0 ⊢
     obtain⟨_,bb⟩:=Ow e0
     cases hf:(List.range b.aK.length).find? (L9 m tag l a c bl b.aK)with
     | some i=>simp only[hf];exact hb
     | none=>
       simp only[hf]
       have ln:=A3 m tag l a c bl b.aK b.aK.length
       refine⟨by have:=hb.w1;simp only;omega,by have:=hb.w2;simp only;omega,hb.n1,hb.n2,?_⟩
       have key:∀j,j≤b.aK.length→∀x∈xi m tag l a c bl b.aK j,WOk m N x:=by
        intro j
        induction j with
        | zero=>intro _ x hx;simp[xi]at hx
        | succ j ih=>
          intro hj x hx
          have wj:=hb.ws _ (ai (l:=b.aK) (j:=j) (by omega))
          obtain⟨b1,b2⟩:=bb j (by omega)
          simp only[xi,Ru]at hx
          rcases List.mem_append.1 hx with hx | hx
          · exact ih (by omega) x hx
          · rw[List.mem_singleton.1 hx]
            split
            · exact Ul wj (XE hm _ l a c bl (wj.fr _ (ai (by omega)))) (aco _ l a c bl (wj.ti _ (ai (by omega))))
            · exact wj
       exact key _ (aLs _)
   · rw[if_pos e0]at h0 ⊢
     exact hb
 · exact hb
theorem Um{m:bh}{a b:Wh}(ha:a.frm.length=m.ae.length)(hb:b.frm.length=m.ae.length):(rO a b).1.frm.length=m.ae.length:=by
 unfold rO
 rw[if_pos (by omega)]
 simp only[r6];exact ha
theorem Qm{m:bh}(a b:List Wh)(ha:∀w∈a,w.frm.length=m.ae.length)(hb:∀w∈b,w.frm.length=m.ae.length):∀p,p≤a.length→p≤b.length→∀w∈rq a b p,w.frm.length=m.ae.length
 | 0,_,_,w,hw=>ha w hw
 | p+1,h1,h2,w,hw=>by
   simp only[rq]at hw
   rcases aLk hw with hw | rfl
   · exact Qm a b ha hb p (by omega) (by omega) w hw
   · exact Um (ha _ (ai (by omega))) (hb _ (ai (by omega)))
theorem RE{m:bh}{N:Nat}{out:List World}{x:World}(ho:∀y∈out,WOk m N y)(hx:WOk m N x):∀y∈xj out x,WOk m N y:=by
 intro y hy
 unfold xj at hy
 split at hy
 · rename_i h
   rcases aLk hy with hy | rfl
   · exact ho y hy
   · obtain⟨s1,s2,s3,s4⟩:=ho _ (ai h.1)
     refine⟨hx.tg,?_,Qm _ _ s3 hx.fr _ (Nat.min_le_left _ _) (Nat.min_le_right _ _),Ql _ _ s4 hx.ti _ (Nat.min_le_left _ _) (Nat.min_le_right _ _)⟩
     show(rq _ _ _).length=_
     rw[tW];exact s2
 · rcases List.mem_append.1 hy with hy | hy
   · rcases List.mem_append.1 hy with hy | hy
     · exact ho y (List.mem_of_mem_take hy)
     · rw[List.mem_singleton.1 hy];exact hx
   · exact ho y (List.mem_of_mem_drop hy)
theorem IW{m:bh}{N:Nat}{l:List World}(hl:∀x∈l,WOk m N x):∀j,j≤l.length→∀y∈zP l j,WOk m N y
 | 0,_,y,hy=>by simp[zP]at hy
 | j+1,h,y,hy=>RE (IW hl j (by omega)) (hl _ (ai (by omega))) y hy
theorem RF{m:bh}{N:Nat}{i j:Nat}{t:Int}{x:World}(h:WOk m N x)(hi:i<N)(hj:j<N):WOk m N (Cu i j t x):=by
 obtain⟨s1,s2,s3,s4⟩:=h
 refine⟨by simpa [Cu,Rw]using s1,by simpa [Cu]using s2,fun w hw=>?_,fun w hw=>?_⟩
 · simp only[Cu]at hw
   rcases aLk hw with hw | rfl
   · rcases aLk hw with hw | rfl
     · exact s3 w hw
     · rw[yj];exact s3 _ (ai (by omega))
   · rw[yj];exact s3 _ (ai (by omega))
 · simp only[Cu]at hw
   rcases aLk hw with hw | rfl
   · rcases aLk hw with hw | rfl
     · exact s4 w hw
     · exact Mh (s4 _ (ai (by omega)))
   · exact Mh (s4 _ (ai (by omega)))
theorem zR{m:bh}{N:Nat}{ws:List World}(h:∀x∈ws,WOk m N x){i j:Nat}{t:Int}(hi:i<N)(hj:j<N):∀k,k≤ws.length→∀x∈mL i j t ws k,WOk m N x
 | 0,_,x,hx=>h x hx
 | k+1,hk,x,hx=>by
   simp only[mL,Hd]at hx
   split at hx
   · rcases List.mem_append.1 hx with hx | hx
     · exact zR h hi hj k (by omega) x hx
     · rw[List.mem_singleton.1 hx];exact RF (h _ (ai (by omega))) hi hj
   · exact zR h hi hj k (by omega) x hx
theorem Mi{m:bh}{N:Nat}{b:Bel}(hb:BOk m N b)(i j t:Int):BOk m N (if(sX m b i j t).2=0 then(sX m b i j t).1 else b):=by
 split
 · rename_i h0
   unfold sX at h0 ⊢
   split at h0
   · simp at h0
   · rename_i c1
     rw[if_neg c1]
     split at h0
     · simp at h0
     · rename_i c2
       rw[if_neg c2]
       split at h0
       · simp at h0
       · rename_i c3
         rw[if_neg c3]
         split at h0
         · simp at h0
         · rename_i c4
           rw[if_neg c4]
           have t0:=(hb.ws _ (ai (l:=b.aK) (j:=0) (by have:=hb.w1;omega))).tg
           have ln:=yi i.toNat j.toNat t b.aK b.aK.length
           have w1:=hb.w1
           refine⟨?_,by simp only;omega,hb.n1,hb.n2,?_⟩
           · simp only[Hc]
             cases hn:(mL i.toNat j.toNat t b.aK b.aK.length).length with
             | zero=>omega
             | succ n=>exact(A5 _ _).2.2
           · exact IW (zR hb.ws (by omega) (by omega) _ (aLs _)) _ (aLs _)
 · exact hb
theorem Mj{m:bh}(hm:m.ok){N:Nat}{n:Int}{s:BSt}(hb:BOk m N s.b):BOk m N (aD.qp m n s).b:=by
 unfold aD.qp
 simp only
 split
 · exact Mi hb _ _ _
 · split
   · exact OB hm hb _ _ _ _
   · exact OC hm hb _ _ _ _ _
theorem Un{m:bh}{n:Int}{s:BSt}:s.t≤(aD.qp m n s).t∧(aD.qp m n s).t≤s.t+60:=by
 have h1:=s.d.dN 60
 have h2:=s.d.dV (n:=60) (by omega)
 unfold aD.qp
 simp only
 split
 · simp only;omega
 · split<;>(simp only;omega)
theorem FI{m:bh}(hm:m.ok){N:Nat}{n:Int}{s:BSt}(hb:BOk m N s.b)(hd:s.d.dC)(ht:s.t=100):∀k,BOk m N (aD.G5 m n s k).b∧(aD.G5 m n s k).d.dC∧100≤(aD.G5 m n s k).t∧(aD.G5 m n s k).t≤100+60*k
 | 0=>⟨hb,hd,by simp[aD.G5,ht],by simp[aD.G5,ht]⟩
 | k+1=>by
   obtain⟨h1,h2,h3,h4⟩:=FI hm hb hd ht k
   have ht:=Un (m:=m) (n:=n) (s:=aD.G5 m n s k)
   exact⟨Mj hm h1,J0 h2,by simp only[aD.G5];omega,by simp only[aD.G5];omega⟩
theorem Dq{n:Nat}(h:n≤3):jj (vu n)=true:=by
 match n,h with
 | 0,_=>decide
 | 1,_=>decide
 | 2,_=>decide
 | 3,_=>decide
theorem A6(d:aD){n:Int}(hn:1≤n):∀k,∀x∈(d.pT n k).1,0≤x∧x<n
 | 0,x,hx=>by simp[aD.pT]at hx
 | k+1,x,hx=>by
   simp only[aD.pT,List.mem_append,List.mem_singleton]at hx
   rcases hx with hx | rfl
   · exact A6 d hn k x hx
   · exact⟨aD.dN _ _,aD.dV _ hn⟩
theorem J1(d:aD):1≤d.vv∧d.vv≤3:=by
 have h1:=d.dN 3
 have h2:=d.dV (n:=3) (by omega)
 unfold aD.vv;omega
theorem OD{m:bh}(hm:m.ok)(h1:1≤m.ae.length)(d:aD):
 (yh m (vu d.vv) (d.r9 m).1 ((d.r9 m).2.next 100).1)=(⟨[⟨vu d.vv,kh m (d.r9 m).1 ((d.r9 m).2.next 100).1 (vu d.vv).length⟩]⟩,0):=by
 have pb:=J1 d
 have tl:=pU d.vv
 have sl:(d.r9 m).1.length=d.vv:=aD.pD _ _ _
 have t0:=(d.r9 m).2.dN 100
 have t9:=(d.r9 m).2.dV (n:=100) (by omega)
 have np:=hm.np
 unfold yh
 rw[if_pos (by omega),if_pos (Dq (by omega))]
 have:(List.range (vu d.vv).length).find? (fun i=> !decide ((jt m (nth (d.r9 m).1 i) ((d.r9 m).2.next 100).1).2=0))=none:=by
  rw[List.find?_eq_none]
  intro i hi
  have hi:i<(d.r9 m).1.length:=by rw[sl,←tl];exact aLu.1 hi
  have:=A6 (d.next 3).2 (n:=m.ae.length) (by omega) d.vv _ (ai hi)
  have:=(Mg hm this.1 this.2 (t:=((d.r9 m).2.next 100).1) ⟨by omega,by omega⟩).1
  have e:(jt m (nth (d.r9 m).1 i) ((d.r9 m).2.next 100).1).2=0:=this
  simp[e]
 rw[this]
theorem Mk{m:bh}(hm:m.ok)(h1:1≤m.ae.length)(d:aD):BOk m d.vv (d.V3 m).b:=by
 have pb:=J1 d
 have tl:=pU d.vv
 have sl:(d.r9 m).1.length=d.vv:=aD.pD _ _ _
 have t0:=(d.r9 m).2.dN 100
 have t9:=(d.r9 m).2.dV (n:=100) (by omega)
 have np:=hm.np
 unfold aD.V3
 rw[OD hm h1]
 refine⟨by simp,by simp,by omega,by omega,fun x hx=>?_⟩
 rw[List.mem_singleton.1 hx]
 refine⟨tl,by simp[tl],fun w hw=>?_,fun w hw=>by
  simp only[kh,List.mem_map,aLu]at hw
  obtain⟨i,hi,rfl⟩:=hw
  exact Uk ⟨by omega,by omega⟩⟩
 simp only[kh,List.mem_map,aLu]at hw
 obtain⟨i,hi,rfl⟩:=hw
 have hi:i<(d.r9 m).1.length:=by rw[sl,←tl];exact hi
 have:=A6 (d.next 3).2 (n:=m.ae.length) (by omega) d.vv _ (ai hi)
 exact(Mg hm this.1 this.2 ⟨by omega,by omega⟩).2
theorem Ml{m:bh}(hm:m.ok)(h1:1≤m.ae.length){d:aD}(hd:d.dC):BOk m d.vv (d.IV m).1∧(d.IV m).2.dC:=by
 have l0:(d.V3 m).d.dC:=aD.aZ (aD.aZ (aD.r8 (aD.aZ hd 3) _ _) _) _
 obtain⟨h1,h2, -⟩:=FI hm (Mk hm h1 d) l0 rfl (n:=d.vv) (d.Zn m)
 exact⟨h1,h2⟩
@[go_sem] theorem ai3 (l : List Spn) : rM 2 (l.map Spn.e) = true := by cases l <;> rfl
@[go_sem] theorem aoA (l : List Spn) (k : Nat) (a b : Int) : (List.map D.t (List.map Spn.e l)).set k (D.t (T.agg [tI a, tI b])) = List.map D.t (List.map Spn.e (l.set k ⟨a, b⟩)) := by
 rw[List.map_set,List.map_set]
@[go_sem] theorem apM (H : ao) (sz : Nat) (a b c d e f : T) : IC H sz [.t a, .t b, .t c, .t d, .t e, .t f] = if de sz [a, b, c, d, e, f] = true then some (.t (.sl [a, b, c, d, e, f]), H) else none := wN H sz [a, b, c, d, e, f]
@[go_sem] theorem apN (H : ao) (sz : Nat) (a b c d e f g : T) : IC H sz [.t a, .t b, .t c, .t d, .t e, .t f, .t g] = if de sz [a, b, c, d, e, f, g] = true then some (.t (.sl [a, b, c, d, e, f, g]), H) else none := wN H sz [a, b, c, d, e, f, g]
@[go_sem] theorem apO (H : ao) (sz : Nat) (a b c d e f g h : T) : IC H sz [.t a, .t b, .t c, .t d, .t e, .t f, .t g, .t h] = if de sz [a, b, c, d, e, f, g, h] = true then some (.t (.sl [a, b, c, d, e, f, g, h]), H) else none := wN H sz [a, b, c, d, e, f, g, h]
@[go_sem] theorem ai4 {α β γ : Type} {l : List α} {g : α → β} {f : β → γ} {x : γ} {j : Nat} (h : j = l.length) : (List.map f (List.map g l) ++ [x])[j]? = some x := by
 rw[aLh (by simp;omega)];simp[h]
@[go_sem] theorem alV {α β γ : Type} {l : List α} {g : α → β} {f : β → γ} {x y : γ} {j : Nat} (h : j = l.length) : (List.map f (List.map g l) ++ [x]).set j y = List.map f (List.map g l) ++ [y] := by
 rw[List.set_append_right _ _ (by simp;omega)];simp[h]
def aD.He(d:aD):Spn×aD:=
 let a:=d.of [0,1000,5000,20000, -5000, -20000,4999,100]
 let b:=a.2.of [0,1,1000,6000]
 let c:=b.2.of [0,1,500]
 let w:=c.2.one 9
 (if w.1=true then⟨-1125899906842624,1125899906842624⟩else⟨a.1-b.1,a.1+c.1⟩,w.2)
def aD.nT(d:aD):Nat→List Spn×aD
 | 0=>([],d)
 | k+1=>((d.nT k).1++[((d.nT k).2.He).1],((d.nT k).2.He).2)
def aD.Cv(d:aD)(m:bh):List Spn×aD:=d.nT m.roads.length
theorem aD.OE{d:aD}(h:d.dC):d.He.2.dC:=by
 unfold aD.He;simp only
 exact aD.xc (aD.ly (aD.ly (aD.ly h [0,1000,5000,20000, -5000, -20000,4999,100]) [0,1,1000,6000]) [0,1,500]) 9
theorem aD.pV{d:aD}(h:d.dC):∀n,(d.nT n).2.dC
 | 0=>h
 | n+1=>by simp only[aD.nT];exact aD.OE (aD.pV h n)
theorem aD.tX(d:aD):∀n,(d.nT n).1.length=n
 | 0=>rfl
 | n+1=>by simp[aD.nT,d.tX n]
theorem RG(d:aD):d.He.1.ok:=by
 unfold aD.He;simp only
 have m1:=d.qZ (l:=[0,1000,5000,20000, -5000, -20000,4999,100]) (by simp)
 generalize d.of [0,1000,5000,20000, -5000, -20000,4999,100]=a at*
 obtain⟨x,d1⟩:=a
 have m2:=d1.qZ (l:=[0,1,1000,6000]) (by simp)
 simp only
 generalize d1.of [0,1,1000,6000]=b at*
 obtain⟨y,d2⟩:=b
 have m3:=d2.qZ (l:=[0,1,500]) (by simp)
 simp only
 generalize d2.of [0,1,500]=c at*
 obtain⟨z,d3⟩:=c
 simp only[List.mem_cons,List.not_mem_nil,or_false]at m1 m2 m3 ⊢
 unfold Spn.ok
 split<;>(simp only;omega)
theorem aD.zS(d:aD):∀n,∀x∈(d.nT n).1,x.ok
 | 0,x,hx=>by simp[aD.nT]at hx
 | n+1,x,hx=>by
   simp only[aD.nT,List.mem_append,List.mem_singleton]at hx
   rcases hx with hx | rfl
   · exact d.zS n x hx
   · exact RG _
theorem OF(d:aD)(hd:d.dC)(m:bh)(hm:m.roads.length≤1000)(j:Nat)(hj:j<m.roads.length)(l:List Spn)(hl:l.length=j):
 gF true [1,3,6] 3 (exS aW K.ie ⟨[.bp 0 0,.und,.bp 1 0,.und,.ref 2 0 l.length,I j,.und],[d.obj,.box [.t (.sl (m.ae.map Place.e)),.t (.sl (m.roads.map Road.e))],.arr 2 false 0 ((l.map Spn.e).map .t)]⟩)=
 some ⟨[.bp 0 0,.und,.bp 1 0,.und,.ref 2 0 (l++[d.He.1]).length,I (j+1),.und],[d.He.2.obj,.box [.t (.sl (m.ae.map Place.e)),.t (.sl (m.roads.map Road.e))],.arr 2 false 0 (((l++[d.He.1]).map Spn.e).map .t)]⟩:=by
 unfold aD.He;simp only
 have h1:=LN d [0,1000,5000,20000, -5000, -20000,4999,100] (by simp) (by simp) hd
 have l1:=aD.ly hd [0,1000,5000,20000, -5000, -20000,4999,100]
 have m1:=d.qZ (l:=[0,1000,5000,20000, -5000, -20000,4999,100]) (by simp)
 generalize d.of [0,1000,5000,20000, -5000, -20000,4999,100]=a at*
 obtain⟨x,d1⟩:=a
 simp only[tL,List.map_cons,List.map_nil]at h1 l1 ⊢
 have h2:=LN d1 [0,1,1000,6000] (by simp) (by simp) l1
 have l2:=aD.ly l1 [0,1,1000,6000]
 have m2:=d1.qZ (l:=[0,1,1000,6000]) (by simp)
 generalize d1.of [0,1,1000,6000]=b at*
 obtain⟨y,d2⟩:=b
 simp only[tL,List.map_cons,List.map_nil]at h2 l2 ⊢
 have h3:=LN d2 [0,1,500] (by simp) (by simp) l2
 have l3:=aD.ly l2 [0,1,500]
 have m3:=d2.qZ (l:=[0,1,500]) (by simp)
 generalize d2.of [0,1,500]=c at*
 obtain⟨z,d3⟩:=c
 simp only[tL,List.map_cons,List.map_nil]at h3 l3 ⊢
 have h4:=P9 d3 9 (by omega) (by omega) l3
 generalize d3.one 9=e at*
 obtain⟨w,d4⟩:=e
 simp only[List.mem_cons,List.not_mem_nil,or_false]at m1 m2 m3 h4 ⊢
 have st:(l++[(⟨x-y,x+z⟩:Spn)]).set j ⟨-1125899906842624,1125899906842624⟩=l++[⟨-1125899906842624,1125899906842624⟩]:=by
  rw[List.set_append_right _ _ (by omega),hl,Nat.sub_self];rfl
 cases w with
 | true=>
   simp(disch:=omega)only[go_sem,K.ie,↓reduceIte,h1,h2,h3,h4,reduceAdd,reduceSub]
 | false=>
   simp(disch:=omega)only[go_sem,K.ie,↓reduceIte,h1,h2,h3,h4,reduceAdd,reduceSub]
theorem Mm(d:aD)(hd:d.dC)(m:bh)(hm:m.roads.length≤1000):aW 0 N.cP [.bp 0 0,.t m.e] [d.obj]=some (.t (tS (d.Cv m).1),[(d.Cv m).2.obj]):=by
 refine aA K.pv rfl ?_
 unfold aD.Cv
 have ln:=d.tX
 have loop:∀a b c:D,exS aW K.rV ⟨[.bp 0 0,a,.bp 1 0,b,.ref 2 0 0,I 0,c],[d.obj,.box [.t (.sl (m.ae.map Place.e)),.t (.sl (m.roads.map Road.e))],.arr 2 false 0 []]⟩=
  some (.exit 0,⟨[.bp 0 0,.und,.bp 1 0,.und,.ref 2 0 (d.nT m.roads.length).1.length,I m.roads.length,.und],[(d.nT m.roads.length).2.obj,.box [.t (.sl (m.ae.map Place.e)),.t (.sl (m.roads.map Road.e))],.arr 2 false 0 (((d.nT m.roads.length).1.map Spn.e).map .t)]⟩):=by
  intro a b c
  refine dm (fun j=>⟨[.bp 0 0,.und,.bp 1 0,.und,.ref 2 0 (d.nT j).1.length,I j,.und],[(d.nT j).2.obj,.box [.t (.sl (m.ae.map Place.e)),.t (.sl (m.roads.map Road.e))],.arr 2 false 0 (((d.nT j).1.map Spn.e).map .t)]⟩) m.roads.length rfl ?_ ?_ (by simp)
  · intro j hj
    exact OF (d.nT j).2 (aD.pV hd j) m hm j hj (d.nT j).1 (ln j)
  · simp(disch:=omega)only[go_sem,K.ie,↓reduceIte]
 have ln:=ln m.roads.length
 generalize d.nT m.roads.length=r at*
 obtain⟨l,d1⟩:=r
 simp only at ln loop ⊢
 simp(disch:=omega)only[go_sem,K.cP,↓reduceIte,loop]
theorem Uo{m:bh}(hm:m.ok)(d:aD)(hd:d.dC)(n:Nat)(hn:n≤12)(a b c e f g h i j k:D):
 exS aW K.qS ⟨[.bp 0 0,a,.bp 1 0,.bp 2 0,I n,.ref 3 0 0,.ref 4 0 0,I 0,b,c,e,f,g,h,i,j,k,.und],[d.obj,.box (af m),.box [.nil],.arr 1 false 0 [],.arr 1 false 0 []]⟩=
 some (.exit 0,⟨[.bp 0 0,.und,.bp 1 0,.bp 2 0,I n,.ref 3 0 n,.ref 4 0 n,I n,.und,.und,.und,.und,.und,.und,.und,.und,.und,.und],[(d.pT m.ae.length n).2.obj,.box (af m),.box [.nil],.arr 1 false 0 (ints (vu n)),.arr 1 false 0 (ints (d.pT m.ae.length n).1)]⟩):=by
 refine dm (fun k=>⟨[.bp 0 0,.und,.bp 1 0,.bp 2 0,I n,.ref 3 0 k,.ref 4 0 k,I k,.und,.und,.und,.und,.und,.und,.und,.und,.und,.und],[(d.pT m.ae.length k).2.obj,.box (af m),.box [.nil],.arr 1 false 0 (ints (vu k)),.arr 1 false 0 (ints (d.pT m.ae.length k).1)]⟩) n rfl ?_ ?_ (by simp)
 · intro j hj
   have np:=hm.np
   have tl:=pU j
   have sl:=d.pD m.ae.length j
   have lt:=aD.r8 hd m.ae.length j
   simp only[vu,aD.pT]
   generalize vu j=ts at*
   generalize d.pT m.ae.length j=s at*
   obtain⟨ss,d1⟩:=s
   simp only at sl lt ⊢
   have h1:=gJ d1 m.ae.length (by omega) lt
   generalize d1.next m.ae.length=r at*
   obtain⟨x,d2⟩:=r
   simp only at h1 ⊢
   simp(disch:=omega)only[go_sem,K.mQ,↓reduceIte,ints,h1,reduceAdd,reduceSub]
 · have tl:=pU n
   have sl:=d.pD m.ae.length n
   simp(disch:=omega)only[go_sem,K.mQ,↓reduceIte,ints,reduceAdd,reduceSub]
theorem Up{m:bh}(hm:m.ok){N:Nat}(n:Int)(n1:1≤n)(n2:n≤12)(tags cu:List Int)(s:BSt)(hd:s.d.dC)(hb:BOk m N s.b)(ht:s.t=100)(p1 p2:Bool)(kk:Nat)(hK:kk≤100):
 qQ true [1,5,6,7,11,12,13,14,15,16,17] (exS aW K.bU) ⟨[.bp 0 0,.und,.bp 1 0,.bp 2 0,I n,.und,.und,.und,.bp 5 0,I s.t,I kk,.und,.und,.und,.und,.und,.und,.und],blH m p1 p2 tags cu s⟩=
 some (.exit 2,⟨[.bp 0 0,.und,.bp 1 0,.bp 2 0,I n,.und,.und,.und,.bp 5 0,I (aD.G5 m n s kk).t,I 0,.und,.und,.und,.und,.und,.und,.und],blH m p1 p2 tags cu (aD.G5 m n s kk)⟩):=by
 have key:=Ez (gc:=true) (dead:=[1,5,6,7,11,12,13,14,15,16,17]) (body:=exS aW K.bU)
  (fun k=>⟨[.bp 0 0,.und,.bp 1 0,.bp 2 0,I n,.und,.und,.und,.bp 5 0,I (aD.G5 m n s k).t,I ((kk-k:Nat):Int),.und,.und,.und,.und,.und,.und,.und],blH m p1 p2 tags cu (aD.G5 m n s k)⟩)
  (p:=(.exit 2,⟨[.bp 0 0,.und,.bp 1 0,.bp 2 0,I n,.und,.und,.und,.bp 5 0,I (aD.G5 m n s kk).t,I 0,.und,.und,.und,.und,.und,.und,.und],blH m p1 p2 tags cu (aD.G5 m n s kk)⟩)) kk ?_ ?_
 · exact key
 · intro k hk
   obtain⟨g1,g2,g3,g4⟩:=FI hm (n:=n) hb hd ht k
   have:=Uj hm n n1 n2 tags cu (aD.G5 m n s k) g2 (g1.sz hm) (by omega) (by omega) (kk-(k+1)) (by omega) p1 p2
   rw[show(((kk-(k+1):Nat):Int)+1)=((kk-k:Nat):Int)by omega]at this
   exact this
 · refine fC ?_ (by simp)
   simp only[Nat.sub_self]
   simp(disch:=omega)only[go_sem,K.bU,↓reduceIte,blH,reduceAdd,reduceSub]
theorem Uq{m:bh}(hm:m.ok)(h1:1≤m.ae.length)(d:aD)(hd:d.dC):aW 0 N.cQ [.bp 0 0,.t m.e] [d.obj]=some (.t (d.IV m).1.e,[(d.IV m).2.obj]):=by
 refine aA K.oH rfl ?_
 have np:=hm.np
 have pb:=J1 d
 have eP:(d.vv:Int)=1+(d.next 3).1:=by have:=d.dN 3;unfold aD.vv;omega
 have g0:=Mk hm h1 d
 have e0:=OD hm h1 d
 have a1:=gJ d 3 (by omega) hd
 have l1:=aD.aZ hd 3
 have q1:=fun a b c e f g h i j k=>Uo hm (d.next 3).2 l1 d.vv (by omega) a b c e f g h i j k
 have eS:(d.next 3).2.pT m.ae.length d.vv=d.r9 m:=rfl
 rw[eS]at q1
 have lS:(d.r9 m).2.dC:=aD.r8 l1 _ _
 have a2:=gJ (d.r9 m).2 100 (by omega) lS
 have l2:=aD.aZ lS 100
 have a3:=gJ ((d.r9 m).2.next 100).2 5 (by omega) l2
 have l3:=aD.aZ l2 5
 have k0:=((d.r9 m).2.next 100).2.dN 5
 have k9:=((d.r9 m).2.next 100).2.dV (n:=5) (by omega)
 have eK:(d.Zn m:Int)=(((d.r9 m).2.next 100).2.next 5).1:=by unfold aD.Zn;omega
 have st:=Ou hm (vu d.vv) (d.r9 m).1 (by rw[pU];omega) ((d.r9 m).2.next 100).1
 have tl:=pU d.vv
 have sl:(d.r9 m).1.length=d.vv:=aD.pD _ _ _
 rw[e0]at st
 have b0:d.V3 m=⟨⟨[⟨vu d.vv,kh m (d.r9 m).1 ((d.r9 m).2.next 100).1 (vu d.vv).length⟩]⟩,100,(((d.r9 m).2.next 100).2.next 5).2⟩:=by unfold aD.V3;rw[e0]
 have q2:=fun p1 p2=>Up hm d.vv (by omega) (by omega) (vu d.vv) (d.r9 m).1 (d.V3 m) (by rw[b0];exact l3) g0 rfl p1 p2 (d.Zn m) (by omega)
 have q2:=fun p1 p2 a b c e f g h i j k l=>Fp (vs:=[.bp 0 0,a,.bp 1 0,.bp 2 0,I d.vv,b,c,e,.bp 5 0,I 100,I (d.Zn m),f,g,h,i,j,k,l]) (q2 p1 p2)
 have eF:aD.G5 m d.vv (d.V3 m) (d.Zn m)=d.alU m:=rfl
 rw[eF]at q2
 unfold aD.IV
 rw[b0]at q2
 generalize d.alU m=F at*
 generalize (vu d.vv)=tags at*
 generalize kh m (d.r9 m).1 ((d.r9 m).2.next 100).1 tags.length=sw at*
 generalize d.Zn m=kk at*
 generalize (((d.r9 m).2.next 100).2.next 5)=z3 at*
 generalize ((d.r9 m).2.next 100)=z2 at*
 generalize d.r9 m=z1 at*
 generalize d.next 3=z0 at*
 generalize d.vv=n at*
 obtain⟨x3,d3⟩:=z3
 obtain⟨x2,d2⟩:=z2
 obtain⟨ss,d1⟩:=z1
 obtain⟨x0,d0⟩:=z0
 obtain⟨⟨wf⟩,tf,df⟩:=F
 simp only[List.map_cons,List.map_nil,blH]at*
 have q2:∀p1 p2 a b c e f g h i j k l,exS aW K.qT _=_:=q2
 simp(disch:=omega)only[go_sem,K.cQ,↓reduceIte,ints,a1,eP.symm,q1,a2,a3,st,eK.symm,tl,sl,q2,reduceAdd,reduceSub]
def aD.spread(d:aD)(m:bh)(fl:List Spn):Wh×aD:=
 let p:=d.next m.ae.length
 let t:=p.2.next 200
 let s:=oQ m fl [p.1] t.1
 let o:=t.2.one 2
 if o.1=true then
  let f:=o.2.Cv m
  let a:=f.2.next 100
  let r:=rk m fl m f.1 s.1 (s.1.time+a.1)
  if r.2=0 then(r.1,a.2)else(s.1,a.2)
 else(s.1,o.2)
theorem aD.Mn{d:aD}(h:d.dC)(m:bh)(fl:List Spn):(d.spread m fl).2.dC:=by
 unfold aD.spread
 simp only
 have l3:=aD.xc (aD.aZ (aD.aZ h m.ae.length) 200) 2
 split
 · have:=aD.aZ (aD.pV l3 m.roads.length) 100
   split<;>exact this
 · exact l3
theorem Cw{m:bh}(hm:m.ok){fl:List Spn}(hfl:ky m fl=true){l:List Int}(hl:l.length=m.ae.length)(hb:bnd l):(qu m fl l).length=m.ae.length:=by
 unfold qu
 rw[A0]
 exact(Fx hm fl hfl l hl hb).2.1
theorem Ur{m:bh}(hm:m.ok)(fl:List Spn)(l:List Int)(t:Int):((oQ m fl l t).1.time=0∨(oQ m fl l t).1.time=t)∧(oQ m fl l t).1.frm.length≤m.ae.length:=by
 unfold oQ
 split
 · simp
 · split
   · simp
   · split
     · simp
     · rename_i h1 h2 h3
       have h3:inT t:=by simpa using h3
       exact⟨.inr rfl,Nat.le_of_eq (Cw hm (by simpa using h1) (xg _ _ _) (Fy _ h3 _))⟩
theorem Us{m:bh}{l:List Spn}(h1:l.length=m.roads.length)(h2:∀x∈l,x.ok):ky m l=true:=by
 simp only[ky,aLr,decide_eq_true_eq,aLx,aLu]
 exact⟨fun j hj=>h2 _ (ai hj),h1⟩
theorem J2{p:Int}{n:Nat}(h0:0≤p)(h1:p<n):EA [p] n=true:=by
 simp only[EA,aLx,aLu,decide_eq_true_eq]
 intro j hj
 obtain rfl:j=0:=by simpa using hj
 exact⟨h0,h1,fun h=>absurd h (by omega)⟩
theorem OH{m:bh}(hm:m.ok){fl:List Spn}(hf:ky m fl=true){l:List Int}(hl:EA l m.ae.length=true){t:Int}(ht:inT t):
 (oQ m fl l t).2=0∧(oQ m fl l t).1.time=t∧(oQ m fl l t).1.frm.length=m.ae.length:=by
 unfold oQ
 rw[if_neg (by simp[hf]),if_neg (by simp[hl]),if_neg (fun h=>h ht)]
 exact⟨rfl,rfl,Cw hm hf (xg _ _ _) (Fy _ ht _)⟩
theorem Mo{m:bh}{old:List Spn}{next:bh}(hn:next.ok){fl:List Spn}{s:Wh}{t:Int}(hm:m.ok)(h:(rk m old next fl s t).2=0):
 (rk m old next fl s t).1.frm.length=next.ae.length∧(rk m old next fl s t).1.time=t∧inT t:=by
 unfold rk at h ⊢
 split at h
 · simp at h
 · rename_i h1
   rw[if_neg h1]
   split at h
   · simp at h
   · rename_i h2
     rw[if_neg h2]
     have v:oP m s=true:=by cases hv:oP m s;exact absurd (.inl hv) h1;rfl
     have f:ky next fl=true:=by cases hv:ky next fl;exact absurd (.inr (.inr (.inl hv))) h1;rfl
     have pl:next.ae.length=m.ae.length:=Classical.byContradiction fun hv=>h1 (.inr (.inr (.inr hv)))
     obtain⟨v1,v2,v3⟩:=zO v
     have it:inT t:=by unfold inT at *;omega
     have hb:bnd s.frm:=fun x hx=>by
      have h3:=v3 x hx
      unfold plS at h3;unfold inT at v2;omega
     have cl:=mS m old s.frm t m.roads.length
     have cb:=JR hm old v1 hb it m.roads.length (aLs _)
     have ml:=vk t (chN m old s.frm t m.roads.length) m.ae.length
     have mb:=JS it cb m.ae.length (by omega)
     exact⟨Cw hn f (by omega) mb,rfl,it⟩
theorem aD.OI{d:aD}{m:bh}(hm:m.ok)(h1:1≤m.ae.length){fl:List Spn}(hf:ky m fl=true):
 (d.spread m fl).1.frm.length=m.ae.length∧0≤(d.spread m fl).1.time∧(d.spread m fl).1.time≤300:=by
 unfold aD.spread
 simp only
 have p0:=d.dN m.ae.length
 have p9:=d.dV (n:=m.ae.length) (by omega)
 generalize d.next m.ae.length=r1 at*
 obtain⟨p,d1⟩:=r1
 simp only at p0 p9 ⊢
 have t0:=d1.dN 200
 have t9:=d1.dV (n:=200) (by omega)
 generalize d1.next 200=r2 at*
 obtain⟨t,d2⟩:=r2
 simp only at t0 t9 ⊢
 obtain⟨g1,g2,g3⟩:=OH hm hf (J2 p0 p9) (t:=t) ⟨by omega,by omega⟩
 split
 · have u0:=((d2.one 2).2.Cv m).2.dN 100
   have u9:=((d2.one 2).2.Cv m).2.dV (n:=100) (by omega)
   split
   · rename_i h
     obtain⟨c1,c2,c3⟩:=Mo hm hm h
     refine⟨c1,?_,?_⟩<;>(rw[c2,g2];omega)
   · exact⟨g3,by rw[g2];omega,by rw[g2];omega⟩
 · exact⟨g3,by rw[g2];omega,by rw[g2];omega⟩
theorem Ut{m:bh}(hm:m.ok)(h1:1≤m.ae.length)(fl:List Spn)(hf:fl.length≤1000)(d:aD)(hd:d.dC):
 aW 0 N.cg [.bp 0 0,.t m.e,.t (tS fl)] [d.obj]=some (.t (d.spread m fl).1.e,[(d.spread m fl).2.obj]):=by
 refine aA K.oG rfl ?_
 unfold aD.spread
 simp only
 have np:=hm.np
 have nr:=hm.nr
 have a1:=gJ d m.ae.length (by omega) hd
 have l1:=aD.aZ hd m.ae.length
 generalize d.next m.ae.length=r1 at*
 obtain⟨p,d1⟩:=r1
 simp only at a1 l1 ⊢
 have a2:=gJ d1 200 (by omega) l1
 have l2:=aD.aZ l1 200
 have t0:=d1.dN 200
 have t9:=d1.dV (n:=200) (by omega)
 generalize d1.next 200=r2 at*
 obtain⟨t,d2⟩:=r2
 simp only at a2 l2 t0 t9 ⊢
 have st:=T5 hm fl (by omega) [p] (by simp) t
 have a3:=P9 d2 2 (by omega) (by omega) l2
 have l3:=aD.xc l2 2
 generalize d2.one 2=r3 at*
 obtain⟨o,d3⟩:=r3
 simp only at a3 l3 ⊢
 have sT:0≤(oQ m fl [p] t).1.time∧(oQ m fl [p] t).1.time≤200∧(oQ m fl [p] t).1.frm.length≤1000000:=by
  obtain⟨b1,b2⟩:=Ur hm fl [p] t
  omega
 generalize oQ m fl [p] t=s at*
 obtain⟨⟨sti,sfr⟩,se⟩:=s
 simp only[tL,List.map_cons,List.map_nil]at st sT ⊢
 cases o with
 | false=>
   simp(disch:=omega)only[go_sem,K.cg,↓reduceIte,a1,a2,a3,st,reduceAdd,reduceSub,aLt]
 | true=>
   simp only[↓reduceIte]
   have a4:=Mm d3 l3 m (by omega)
   have l4:(d3.Cv m).2.dC:=aD.pV l3 _
   have n4:(d3.Cv m).1.length=m.roads.length:=aD.tX _ _
   generalize d3.Cv m=r4 at*
   obtain⟨fl2,d4⟩:=r4
   simp only at a4 l4 n4 ⊢
   have a5:=gJ d4 100 (by omega) l4
   have u0:=d4.dN 100
   have u9:=d4.dV (n:=100) (by omega)
   generalize d4.next 100=r5 at*
   obtain⟨u,d5⟩:=r5
   simp only at a5 u0 u9 ⊢
   have ch:=Rs hm fl (by omega) hm fl2 (by omega) ⟨sti,sfr⟩ (by simp only;omega) (sti+u)
   generalize rk m fl m fl2 ⟨sti,sfr⟩ (sti+u)=c at*
   obtain⟨⟨ct,cf⟩,ce⟩:=c
   simp only at ch ⊢
   by_cases e:ce=0
   · simp(disch:=omega)only[go_sem,K.cg,↓reduceIte,a1,a2,a3,a4,a5,st,ch,e,reduceAdd,reduceSub]
   · simp(disch:=omega)only[go_sem,K.cg,↓reduceIte,a1,a2,a3,a4,a5,st,ch,e,reduceAdd,reduceSub]
structure Mch where
 kind:Int
 num:Int
 pl:List Int
instance : Dat Mch := ⟨⟨0, 0, []⟩⟩
abbrev Mch.e(x:Mch):T:= .agg [tI x.kind,tI x.num,tL x.pl]
@[go_sem] theorem ai5 (l : List Mch) : rM 3 (l.map Mch.e) = true := by cases l <;> rfl
end Go.Ev
namespace Go.Ev
open Go
structure Blt where
 onto:Int
 warn:Int
instance : Dat Blt := ⟨⟨0, 0⟩⟩
abbrev Blt.e(b:Blt):T:= .agg [tI b.onto,tI b.warn]
structure Lne where
 time:Int
 st:List Int
 since:List Int
 pu:List Bool
 he:List Bool
abbrev tBs(l:List Bool):T:= .sl (l.map .bool)
abbrev Lne.e(x:Lne):T:= .agg [tI x.time,tL x.st,tL x.since,tBs x.pu,tBs x.he]
def kz(l:List Blt):Prop:=(1≤l.length∧l.length≤24)∧∀i,i<l.length→(-1≤(nth l i).onto∧(nth l i).onto<i)∧0≤(nth l i).warn∧(nth l i).warn≤120
def tY(l:List Blt)(j:Int):Nat→Int→Bool
 | 0,_=>false
 | n+1,at'=>if at'<0 then false else if at'=j then true else tY l j n (nth l at'.toNat).onto
def xk(l:List Blt)(i:Nat)(j:Int):Bool:=tY l j (i+1) (nth l i).onto
theorem OJ{l:List Blt}(hl:kz l)(j:Int):∀(n k:Nat) (a:Int),a<n→a<l.length→a<k→tY l j n a=tY l j k a:=by
 intro n
 induction n with
 | zero=>
   intro k a h1 h2 h3
   cases k with
   | zero=>rfl
   | succ k=>unfold tY;rw[if_pos (by omega)]
 | succ n ih=>
   intro k a h1 h2 h3
   cases k with
   | zero=>unfold tY;rw[if_pos (by omega)]
   | succ k=>
     unfold tY
     by_cases c:a<0
     · rw[if_pos c,if_pos c]
     · rw[if_neg c,if_neg c]
       by_cases d:a=j
       · rw[if_pos d,if_pos d]
       · rw[if_neg d,if_neg d]
         have:=(hl.2 a.toNat (by omega)).1
         exact ih k _ (by omega) (by omega) (by omega)
theorem OK{l:List Blt}(hl:kz l){k:Nat}(hk:k<l.length){i:Int}(h0:0≤(nth l k).onto)(h:(nth l k).onto=i∨xk l (nth l k).onto.toNat i=true):xk l k i=true:=by
 have o:=(hl.2 k hk).1
 unfold xk
 unfold tY
 rw[if_neg (by omega)]
 by_cases d:(nth l k).onto=i
 · rw[if_pos d]
 · rw[if_neg d]
   rcases h with h | h
   · exact absurd h d
   · unfold xk at h
     have o2:=(hl.2 (nth l k).onto.toNat (by omega)).1
     rw[← h]
     exact OJ hl i _ _ _ (by omega) (by omega) (by omega)
structure Lne.ok(l:List Blt)(x:Lne):Prop where
 t0:0≤x.time
 t1:x.time≤2147483648
 s:x.st.length=l.length
 c:x.since.length=l.length
 p:x.pu.length=l.length
 h:x.he.length=l.length
 b:∀i,i<l.length→(0≤nth x.st i∧nth x.st i≤2)∧(0≤nth x.since i∧nth x.since i≤x.time)
 r:∀i,i<l.length→nth x.st i≠0→nth x.pu i=false∧nth x.he i=false∧(0≤(nth l i).onto→nth x.st (nth l i).onto.toNat=2)
end Go.Ev
namespace Go.Ev
open Go
variable [Lib]
theorem oT{α:Type} [Dat α](l:List α)(i k:Nat)(a:α)(hk:k<l.length):nth (l.set i a) k=if i=k then a else nth l k:=by
 have e:∀m:List α,k<m.length→m[k]?=some (nth m k):=fun m h=>by
  rw[aLc h]
  exact congrArg some (bY (aLc h)).symm
 by_cases c:i=k
 · subst c
   rw[if_pos rfl]
   exact bY (by rw[aLj hk])
 · rw[if_neg c]
   exact bY (by rw[aLi c];exact e l hk)
def Cx(l:List Blt)(i:Nat)(k:Nat):Bool:=decide (k=i)||xk l k i
def mF(l:List Blt)(t:Int)(i:Nat)(p:List Int×List Int):Nat→List Int×List Int
 | 0=>p
 | j+1=>if Cx l i j=true∧nth (mF l t i p j).1 j≠0 then((mF l t i p j).1.set j 0,(mF l t i p j).2.set j t)else mF l t i p j
theorem A7(l:List Blt)(t:Int)(i:Nat)(p:List Int×List Int):∀j,(mF l t i p j).1.length=p.1.length∧(mF l t i p j).2.length=p.2.length
 | 0=>⟨rfl,rfl⟩
 | j+1=>by
   have ih:=A7 l t i p j
   unfold mF
   split
   · simp[ih.1,ih.2]
   · exact ih
theorem FJ(l:List Blt)(t:Int)(i:Nat)(p:List Int×List Int)(hp:p.2.length=p.1.length):∀j k,k<p.1.length→
 nth (mF l t i p j).1 k=(if k<j∧Cx l i k=true then 0 else nth p.1 k)∧(nth (mF l t i p j).2 k=t∨nth (mF l t i p j).2 k=nth p.2 k)
 | 0,k,hk=>⟨by rw[if_neg (by omega)];rfl,.inr rfl⟩
 | j+1,k,hk=>by
   have ih:=FJ l t i p hp j
   have ln:=A7 l t i p j
   unfold mF
   split
   · rename_i c
     obtain⟨c1,c2⟩:=c
     simp only
     rw[oT _ _ _ _ (by omega),oT _ _ _ _ (by omega)]
     by_cases e:j=k
     · subst e
       rw[if_pos rfl,if_pos rfl,if_pos ⟨by omega,c1⟩]
       exact⟨rfl,.inl rfl⟩
     · rw[if_neg e,if_neg e]
       have:=ih k hk
       refine⟨?_,this.2⟩
       rw[this.1]
       by_cases f:k<j∧Cx l i k=true
       · rw[if_pos f,if_pos ⟨by omega,f.2⟩]
       · rw[if_neg f,if_neg (fun g=>f ⟨by omega,g.2⟩)]
   · rename_i c
     have:=ih k hk
     refine⟨?_,this.2⟩
     rw[this.1]
     by_cases e:j=k
     · subst e
       rw[if_neg (by omega)]
       by_cases f:Cx l i j=true
       · rw[if_pos ⟨by omega,f⟩]
         have h0:¬nth (mF l t i p j).1 j≠0:=fun h=>c ⟨f,h⟩
         rw[this.1,if_neg (by omega)]at h0
         omega
       · rw[if_neg (fun g=>f g.2)]
     · by_cases f:k<j∧Cx l i k=true
       · rw[if_pos f,if_pos ⟨by omega,f.2⟩]
       · rw[if_neg f,if_neg (fun g=>f ⟨by omega,g.2⟩)]
def OL(l:List Blt)(x:Lne)(i:Nat):Lne:={ x with st:=(mF l x.time i (x.st,x.since) l.length).1,since:=(mF l x.time i (x.st,x.since) l.length).2}
def yx(l:List Blt)(x:Lne)(i:Nat)(h:Bool):Lne:={ (if h then OL l x i else x)with he:=x.he.set i h}
theorem XF{l:List Blt}(hl:kz l){x:Lne}(h:x.ok l)(i:Nat):(OL l x i).ok l:=by
 have ln:=A7 l x.time i (x.st,x.since) l.length
 have nt:=fun k hk=>FJ l x.time i (x.st,x.since) (by simp only;rw[h.s,h.c]) l.length k hk
 refine⟨h.t0,h.t1,by rw[← h.s];exact ln.1,by rw[← h.c];exact ln.2,h.p,h.h,fun k hk=>?_,fun k hk hn=>?_⟩
 · have n:=nt k (by simp only;rw[h.s];exact hk)
   have b:=h.b k hk
   have t0:=h.t0
   simp only[OL]at n ⊢
   refine⟨?_,?_⟩
   · rw[n.1]
     split
     · omega
     · exact b.1
   · rcases n.2 with e | e<;>rw[e]
     · omega
     · exact b.2
 · have n:=(nt k (by simp only;rw[h.s];exact hk)).1
   simp only[OL]at n hn ⊢
   rw[n]at hn
   have c:¬(k<l.length∧Cx l i k=true):=fun c=>hn (by rw[if_pos c])
   rw[if_neg c]at hn
   obtain⟨r1,r2,r3⟩:=h.r k hk hn
   refine⟨r1,r2,fun h0=>?_⟩
   have o:=(hl.2 k hk).1
   have m:=(nt (nth l k).onto.toNat (by simp only;rw[h.s];omega)).1
   simp only at m
   rw[m,if_neg ?_]
   · exact r3 h0
   · rintro ⟨-,g⟩
     refine c ⟨hk,?_⟩
     unfold Cx at g ⊢
     rw[Bool.or_eq_true,decide_eq_true_eq]at g ⊢
     right
     refine OK hl hk h0 ?_
     rcases g with g | g
     · left;omega
     · right;exact g
theorem Qn{l:List Blt}(hl:kz l){x:Lne}(h:x.ok l){i:Nat}(hi:i<l.length)(b:Bool):(yx l x i b).ok l:=by
 have key:∀y:Lne,y.ok l→y.he=x.he→(b=true→nth y.st i=0)→Lne.ok l { y with he:=x.he.set i b}:=by
  intro y hy he hs
  refine⟨hy.t0,hy.t1,hy.s,hy.c,hy.p,by simp[h.h],hy.b,fun k hk hn=>?_⟩
  obtain⟨r1,r2,r3⟩:=hy.r k hk hn
  refine⟨r1,?_,r3⟩
  simp only
  rw[oT _ _ _ _ (by rw[h.h];exact hk)]
  split
  · rename_i e
    subst e
    cases b with
    | false=>rfl
    | true=>exact absurd (hs rfl) hn
  · rw[← he];exact r2
 unfold yx
 cases b with
 | false=>exact key x h rfl (fun e=>by cases e)
 | true=>
   refine key (OL l x i) (XF hl h i) rfl (fun _=>?_)
   have n:=(FJ l x.time i (x.st,x.since) (by simp only;rw[h.s,h.c]) l.length i (by simp only;rw[h.s];exact hi)).1
   simp only[OL]
   rw[n,if_pos ⟨hi,by simp[Cx]⟩]
def tZ(l:List Blt)(x:Lne)(i:Nat):Int:=
 if nth x.st i≠0 then 10 else if nth x.pu i=true∨nth x.he i=true then 51 else if 0≤(nth l i).onto∧nth x.st (nth l i).onto.toNat≠2 then 10 else 0
def pW(l:List Blt)(x:Lne)(i:Nat):Lne:=if tZ l x i=0 then{ x with st:=x.st.set i 1,since:=x.since.set i x.time}else x
theorem Uu{l:List Blt}(hl:kz l){x:Lne}(h:x.ok l){i:Nat}(hi:i<l.length):(pW l x i).ok l:=by
 unfold pW
 by_cases c:tZ l x i=0
 · rw[if_pos c]
   unfold tZ at c
   have c0:nth x.st i=0:=by
    by_cases d:nth x.st i=0
    · exact d
    · rw[if_pos d]at c;omega
   rw[if_neg (by omega)]at c
   have c1:¬(nth x.pu i=true∨nth x.he i=true):=fun d=>by rw[if_pos d]at c;omega
   rw[if_neg c1]at c
   have c2:¬(0≤(nth l i).onto∧nth x.st (nth l i).onto.toNat≠2):=fun d=>by rw[if_pos d]at c;omega
   refine⟨h.t0,h.t1,by simp[h.s],by simp[h.c],h.p,h.h,fun k hk=>?_,fun k hk hn=>?_⟩
   · have b:=h.b k hk
     have t0:=h.t0
     simp only
     rw[oT _ _ _ _ (by rw[h.s];exact hk),oT _ _ _ _ (by rw[h.c];exact hk)]
     split<;>omega
   · simp only at hn ⊢
     rw[oT _ _ _ _ (by rw[h.s];exact hk)]at hn
     by_cases e:i=k
     · subst e
       simp only[not_or,Bool.not_eq_true]at c1
       refine⟨c1.1,c1.2,fun h0=>?_⟩
       have o:=(hl.2 i hk).1
       rw[oT _ _ _ _ (by rw[h.s];omega),if_neg (by omega)]
       exact Decidable.not_not.1 fun q=>c2 ⟨h0,q⟩
     · rw[if_neg e]at hn
       obtain⟨r1,r2,r3⟩:=h.r k hk hn
       refine⟨r1,r2,fun h0=>?_⟩
       have o:=(hl.2 k hk).1
       rw[oT _ _ _ _ (by rw[h.s];omega)]
       split
       · rename_i f
         have:=r3 h0
         rw[← f]at this
         omega
       · exact r3 h0
 · rw[if_neg c];exact h
theorem Uv(l:List Blt)(x:Lne)(i:Nat):(pW l x i).he=x.he∧(pW l x i).time=x.time:=by
 unfold pW
 split<;>exact⟨rfl,rfl⟩
def jy(l:List Blt)(t:Int)(p:List Int×List Int):Nat→List Int×List Int
 | 0=>p
 | j+1=>if nth (jy l t p j).1 j=1∧nth (jy l t p j).2 j+(nth l j).warn≤t then((jy l t p j).1.set j 2,(jy l t p j).2.set j (nth (jy l t p j).2 j+(nth l j).warn))else jy l t p j
theorem A8(l:List Blt)(t:Int)(p:List Int×List Int):∀j,(jy l t p j).1.length=p.1.length∧(jy l t p j).2.length=p.2.length
 | 0=>⟨rfl,rfl⟩
 | j+1=>by
   have ih:=A8 l t p j
   unfold jy
   split
   · simp[ih.1,ih.2]
   · exact ih
theorem FK(l:List Blt)(t:Int)(p:List Int×List Int)(hp:p.2.length=p.1.length):∀j k,k<p.1.length→
 (nth (jy l t p j).1 k=nth p.1 k∧nth (jy l t p j).2 k=nth p.2 k)∨k<j∧nth p.1 k=1∧nth (jy l t p j).1 k=2∧nth (jy l t p j).2 k=nth p.2 k+(nth l k).warn∧nth p.2 k+(nth l k).warn≤t
 | 0,k,hk=> .inl ⟨rfl,rfl⟩
 | j+1,k,hk=>by
   have ih:=FK l t p hp j
   have ln:=A8 l t p j
   unfold jy
   split
   · rename_i c
     simp only
     rw[oT _ _ _ _ (by omega),oT _ _ _ _ (by omega)]
     by_cases e:j=k
     · subst e
       rw[if_pos rfl,if_pos rfl]
       rcases ih j hk with⟨a,b⟩ | ⟨a,b⟩
       · rw[a,b]at c
         right
         rw[b]
         exact⟨by omega,c.1,rfl,rfl,c.2⟩
       · omega
     · rw[if_neg e,if_neg e]
       rcases ih k hk with a | ⟨a,b⟩
       · exact .inl a
       · exact .inr ⟨by omega,b⟩
   · rcases ih k hk with a | ⟨a,b⟩
     · exact .inl a
     · exact .inr ⟨by omega,b⟩
def Cy(l:List Blt)(x:Lne)(t:Int):Lne:={ x with time:=t,st:=(jy l t (x.st,x.since) l.length).1,since:=(jy l t (x.st,x.since) l.length).2}
theorem Qo{l:List Blt}(hl:kz l){x:Lne}(h:x.ok l){t:Int}(t0:x.time≤t)(t1:t≤2147483648):(Cy l x t).ok l:=by
 have ln:=A8 l t (x.st,x.since) l.length
 have nt:=fun k hk=>FK l t (x.st,x.since) (by simp only;rw[h.s,h.c]) l.length k hk
 simp only at ln nt
 refine⟨by have:=h.t0;simp only[Cy];omega,t1,by rw[← h.s];exact ln.1,by rw[← h.c];exact ln.2,h.p,h.h,fun k hk=>?_,fun k hk hn=>?_⟩
 · have b:=h.b k hk
   have w:=(hl.2 k hk).2
   simp only[Cy]
   rcases nt k (by rw[h.s];exact hk)with⟨a,c⟩ | ⟨a,c,d,e,f⟩
   · rw[a,c];omega
   · rw[d,e];omega
 · simp only[Cy]at hn ⊢
   have n0:nth x.st k≠0:=by
    rcases nt k (by rw[h.s];exact hk)with⟨a,c⟩ | ⟨a,c,d,e,f⟩
    · rw[a]at hn;exact hn
    · omega
   obtain⟨r1,r2,r3⟩:=h.r k hk n0
   refine⟨r1,r2,fun h0=>?_⟩
   have o:=(hl.2 k hk).1
   have:=r3 h0
   rcases nt (nth l k).onto.toNat (by rw[h.s];omega)with⟨a,c⟩ | ⟨a,c,d,e,f⟩
   · rw[a];exact this
   · exact d
def Hf(c:Int):Bool:=decide (c=2)||decide (c=1)
def qv(l:List Blt)(c:List Int)(x:Lne):Nat→Lne
 | 0=>x
 | j+1=>yx l (qv l c x j) j (Hf (nth c j))
def nE(l:List Blt)(x:Lne):Nat→Lne
 | 0=>x
 | j+1=>pW l (nE l x j) j
theorem IX(l:List Blt)(x:Lne)(i:Nat)(h:Bool):(yx l x i h).time=x.time:=by
 unfold yx
 cases h<;>rfl
theorem A9{l:List Blt}(hl:kz l)(c:List Int){x:Lne}(h:x.ok l):∀j,j≤l.length→(qv l c x j).ok l∧(qv l c x j).time=x.time∧∀k,k<j→nth (qv l c x j).he k=Hf (nth c k)
 | 0,_=>⟨h,rfl,fun k hk=>by omega⟩
 | j+1,hj=>by
   have ih:=A9 hl c h j (by omega)
   refine⟨Qn hl ih.1 (by omega) _,by rw[← ih.2.1];exact IX _ _ _ _,fun k hk=>?_⟩
   have hh:=ih.1.h
   simp only[qv,yx]
   rw[oT _ _ _ _ (by omega)]
   split
   · rename_i e;subst e;rfl
   · rename_i e;exact ih.2.2 k (by omega)
theorem yl{l:List Blt}(hl:kz l){x:Lne}(h:x.ok l):∀j,j≤l.length→(nE l x j).ok l∧(nE l x j).time=x.time∧(nE l x j).he=x.he
 | 0,_=>⟨h,rfl,rfl⟩
 | j+1,hj=>by
   have ih:=yl hl h j (by omega)
   have e:=Uv l (nE l x j) j
   exact⟨Uu hl ih.1 (by omega),by rw[← ih.2.1];exact e.2,by rw[← ih.2.2];exact e.1⟩
def Mp(l:List Blt)(c:List Int)(x:Lne)(t:Int):Lne:=Cy l (nE l (qv l c x l.length) l.length) t
theorem Uw{l:List Blt}(hl:kz l)(c:List Int){x:Lne}(h:x.ok l){t:Int}(t0:x.time≤t)(t1:t≤2147483648):
 (Mp l c x t).ok l∧(Mp l c x t).time=t∧∀k,k<l.length→nth (Mp l c x t).st k≠0→Hf (nth c k)=false:=by
 have a:=A9 hl c h l.length (aLs _)
 have b:=yl hl a.1 l.length (aLs _)
 have w:=Qo hl b.1 (t:=t) (by rw[b.2.1,a.2.1];exact t0) t1
 refine⟨w,rfl,fun k hk hn=>?_⟩
 have r:=(w.r k hk hn).2.1
 have e:(Mp l c x t).he=(qv l c x l.length).he:=b.2.2
 rw[← a.2.2 k hk,←e]
 exact r
end Go.Ev
namespace Go.Ev
open Go
variable [Lib] [dM] [dh]
@[go_sem] theorem aoB (H : ao) (a b : List T) : IC H 1 [.t (.sl a), .t (.sl b), .nil] = some (.t (.sl [.sl a, .sl b, .sl []]), H) := by
 simp only[IC,List.all_cons,List.all_nil,D.cells,T.cells,List.map_cons,List.map_nil,List.length_cons,List.length_nil,cO,frz,depth,jT,List.flatMap_cons,List.flatMap_nil,pins]
 rfl
def ai6(c:Bool):Option Bool→Option Bool
 | some d=>some (c&&d)
 | none=>none
@[go_sem] theorem afy (c d : Bool) : ai6 c (some d) = some (c && d) := (rfl)
@[go_sem] theorem afz : qs [] [] = some true := (rfl)
@[go_sem] theorem acp (k : IntKind) (a b : Int) (xs ys : List T) : qs (.int k a :: xs) (.int k b :: ys) = ai6 (decide (a = b)) (qs xs ys) := by
 simp only[qs,if_true,aj9]
 cases qs xs ys<;>rfl
def acq(H:ao)(neg:Bool):Option Bool→Option (D×ao)
 | some r=>some (.t (.bool (bif neg then !r else r)),H)
 | none=>none
@[go_sem] theorem afA (H : ao) (r : Bool) : acq H true (some r) = some (.t (.bool (!r)), H) := (rfl)
@[go_sem] theorem acr (H : ao) (r : Bool) : acq H false (some r) = some (.t (.bool r), H) := (rfl)
@[go_sem] theorem acs (H : ao) (n : Nat) (neg : Bool) (xs ys : List T) : yv H (.ints n) neg (some (.t (.agg xs))) (some (.t (.agg ys))) = if xs.length = n then acq H neg (qs xs ys) else none := by
 simp only[yv,aLq,aac,eqD]
 by_cases h:xs.length=n
 · simp only[if_pos h]
   cases qs xs ys with
   | none=>rfl
   | some r=>cases neg<;>rfl
 · simp only[if_neg h];rfl
@[go_sem] theorem afB : ((2 : Nat) : Int) = 2 := (rfl)
@[go_sem] theorem Zo : ((3 : Nat) : Int) = 3 := (rfl)
def Mq(n:Nat)(p:Nat→Bool):Nat:=((List.range n).find? p).getD 0
theorem Ux{gc:Bool}{dead:List Nat}{c:C}{vs:List D}{H:ao}(s:Nat→St)(n:Nat)(p:Nat→Bool)(e:Nat→Ex×St)(eN:Ex×St)
 (h0:(⟨ov dead vs,H⟩:St)=s 0)
 (hs:∀j,j<n→p j=false→gF gc dead (s j).H.length (exS aW c (s j))=some (s (j+1)))
 (he:∀j,j<n→p j=true→exS aW c (s j)=some (e j)∧(e j).1≠ .normal)
 (hN:exS aW c (s n)=some eN) (hn:eN.1≠ .normal):
 exS aW (.loop gc dead c) ⟨vs,H⟩=some (if(List.range n).any p=true then e (Mq n p)else eN):=by
 rw[cL s n p e eN h0 hs he hN hn,←Qa]
 unfold Mq
 cases hf:(List.range n).find? p with
 | none=>simp
 | some k=>simp
theorem Uy{α:Type} [Dat α](l:List α)(p:α→Bool):((List.range l.length).any fun j=>p (nth l j))=l.any p:=by
 rw[Bool.eq_iff_iff,List.any_eq_true,List.any_eq_true]
 constructor
 · rintro ⟨j,hj,hp⟩
   exact⟨_,ai (aLu.1 hj),hp⟩
 · rintro ⟨x,hx,hp⟩
   obtain⟨j,hj,rfl⟩:=List.getElem_of_mem hx
   exact⟨j,aLu.2 hj,by rw[bY (aLc hj)];exact hp⟩
theorem OM(n:Nat)(p:Nat→Bool):(List.range n).all p= !((List.range n).any fun j=> !p j):=by
 rw[List.all_eq_not_any_not]
end Go.Ev
namespace Go.Ev.N
def Uz:Nat:=78
def Sz:Nat:=79
def RH:Nat:=80
def acu:Nat:=81
def V4:Nat:=82
def acv:Nat:=83
def acw:Nat:=84
def acx:Nat:=85
def nU:Nat:=86
def jX:Nat:=87
def lJ:Nat:=88
def Zp:Nat:=89
def fX:Nat:=90
def afC:Nat:=91
def Zq:Nat:=92
def afD:Nat:=93
def ai7:Nat:=94
def ai8:Nat:=95
def acy:Nat:=96
def afE:Nat:=97
def acz:Nat:=98
def acA:Nat:=99
def lK:Nat:=100
def afF:Nat:=101
def ai9:Nat:=102
def b8:Nat:=103
def iO:Nat:=104
def bZ:Nat:=105
def Zr:Nat:=106
def afG:Nat:=107
def afH:Nat:=108
def acB:Nat:=109
def gY:Nat:=110
def mG:Nat:=111
def acC:Nat:=112
def acD:Nat:=113
def afI:Nat:=114
def jY:Nat:=115
def mH:Nat:=116
def mI:Nat:=117
def jZ:Nat:=118
def j3:Nat:=119
def XG:Nat:=120
def XH:Nat:=121
def Qp:Nat:=122
end Go.Ev.N
namespace Go.Ev.K
open Go.Ev
def nU:Fn:= { av:=6,vars:=[0,1,2,3,4,5,6,7,8,9,12,13,14],body:=(q [w 6 (.bx v0 3),w 7 (.bx v1 4),w 8 (.bx v2 3),w 9 (.bx v3 1),w 10 (.al [z0,z0,z0,z0] []),x 11 (.i 0)] [] (.seq (q [h 3 v6,h 4 v7,h 3 v8,h 1 v9,m v5,u (.bd [.nil,z0,z0,z0,z0,z0,z0,.nil,.nil,z1,.nil,z0,z0] [(0,3,.l 4),(3,4,.l 3),(7,3,.l 2),(10,1,.l 1),(11,1,.l 0),(12,1,.i 0)]),m v4,u (.bin .leq l0 (.i 0)),u (.ca N.b8 0 [] [.l 2,.l 0]),x 12 l0] [] (.ite [m v12,u (.bin .neq l0 (.i 0))] [] 0 (q [h 4 v7,m v12,u (.st v10 l1 4 []),x 11 l1] [] .ret) .skip)) (q [m v4,m v5,u (.bd [z0,z0,z0,z0] [(0,1,.i 1),(1,1,.l 1),(3,1,.l 0)]),u (.st v10 l0 4 []),x 11 (.i 0)] [] .ret))),res:=[(10,some (4,true)),(11,none)]}
def jX:Fn:= { av:=6,vars:=[0,1,2,3,4,5,6,7,8,9,12,13,14],body:=(q [w 6 (.bx v0 3),w 7 (.bx v1 4),w 8 (.bx v2 3),w 9 (.bx v3 1),w 10 (.al [z0,z0,z0,z0] []),x 11 (.i 0)] [] (.seq (q [h 3 v6,h 4 v7,h 3 v8,h 1 v9,m v5,u (.bd [.nil,z0,z0,z0,z0,z0,z0,.nil,.nil,z1,.nil,z0,z0] [(0,3,.l 4),(3,4,.l 3),(7,3,.l 2),(10,1,.l 1),(11,1,.l 0),(12,1,.i 1)]),m v4,u (.bin .leq l0 (.i 0)),m l0,e 0 false v4,y 1 false (.fa v7 1),i 2 false l0,y 3 false (.bin .eql l2 l0),u (.pk l4 (.b true) l0),u (.ca N.b8 0 [] [.l 8,.l 0]),x 12 l0] [] (.ite [m v12,u (.bin .neq l0 (.i 0))] [] 0 (q [h 4 v7,m v12,u (.st v10 l1 4 []),x 11 l1] [] .ret) .skip)) (q [m v4,m v5,f 0 v7,u (.st l0 (.i 2) 1 []),f 2 v7,u (.st l0 l4 1 []),f 3 v7,u (.st l0 l5 1 [])] [] (q [h 4 v7,u (.st v10 l0 4 []),x 11 (.i 0)] [] .ret)))),res:=[(10,some (4,true)),(11,none)]}
def lJ:Fn:= { av:=6,vars:=[0,1,2,3,4,5,6,7,8,9,12,13,14],body:=(q [w 6 (.bx v0 3),w 7 (.bx v1 4),w 8 (.bx v2 3),w 9 (.bx v3 1),w 10 (.al [z0,z0,z0,z0] []),x 11 (.i 0)] [] (.seq (q [h 3 v6,h 4 v7,h 3 v8,h 1 v9,m v4,u (.bd [.nil,z0,z0,z0,z0,z0,z0,.nil,.nil,z1,.nil,z0,z0] [(0,3,.l 4),(3,4,.l 3),(7,3,.l 2),(10,1,.l 1),(11,1,.l 0),(12,1,.i 2)]),u (.ca N.b8 0 [] [.l 0,.b false]),x 12 l0] [] (.ite [m v12,u (.bin .neq l0 (.i 0))] [] 0 (q [h 4 v7,m v12,u (.st v10 l1 4 []),x 11 l1] [] .ret) .skip)) (q [m v4,f 0 v7,u (.st l0 (.i 3) 1 []),f 3 v7,u (.st l0 l3 1 [])] [] (.seq (.ite [m v5] [] 0 (.reg [f 0 v7,u (.st l0 (.i 4) 1 [])] []) .skip) (q [h 4 v7,u (.st v10 l0 4 []),x 11 (.i 0)] [] .ret))))),res:=[(10,some (4,true)),(11,none)]}
def fX:Fn:= { av:=2,vars:=[0,1,2,3,4,34,50],body:=(q [w 2 (.bx v0 3),w 3 (.bx v1 4),x 4 (.b false)] [] (.seq (.ite [f 0 v2,g l0,u (.ln l0),u (.bin .eql l0 (.i 0)),m l0,y 0 false (.fa v2 0),i 1 false l0,y 2 false (.ca N.bZ 0 [] [.l 0,.i 0,.i 63]),y 3 false (.un .not l0),u (.pk l4 (.b true) l0),m l0,y 0 false (.fa v2 1),i 1 false l0,y 2 false (.ca N.aU 0 [] [.l 0,.i 1,.i 100000]),y 3 false (.un .not l0),u (.pk l4 (.b true) l0),m l0,y 0 false (.fa v2 2),i 1 false l0,y 2 false (.ca N.aU 0 [] [.l 0,.i 1,.i 100000]),y 3 false (.un .not l0),u (.pk l4 (.b true) l0),m l0,y 0 false (.fa v3 3),i 1 false l0,y 2 false (.ca N.aU 0 [] [.l 0,.i 0,.i 2147483648]),y 3 false (.un .not l0),u (.pk l4 (.b true) l0)] [] 0 (q [x 4 (.b false)] [] .ret) .skip) (.seq (q [f 0 v3,w 5 (.ld l0 1 false)] [] (.blk 0 (.ite [u (.bin .eql v5 (.i 0)),m l0] [] 0 (q [h 4 v3,u (.bd [z0,z0,z0,z0] []),u (.eqk (.ints 4) false l1 l0),x 4 l0] [] .ret) (.ite [u (.bin .eql v5 (.i 1)),m l0] [] 0 (q [f 1 v3,g l0,u (.bin .gtr l0 (.i 0)),m l0,y 0 true (.fa v3 2),i 1 true l0,y 2 true (.bin .eql l0 (.i 0)),u (.pk l3 l0 (.b false)),x 4 l0] [] .ret) (.seq (q [u (.bin .eql v5 (.i 2)),x 6 l0] [] (.itv 6 .skip (q [u (.bin .eql v5 (.i 3)),x 6 l0] [] (.itv 6 .skip (.reg [u (.bin .eql v5 (.i 4)),x 6 l0] []))))) (.itv 6 (q [f 1 v3,g l0,u (.bin .gtr l0 (.i 0)),m l0,y 0 true (.fa v3 2),i 1 true l0,y 2 true (.bin .gtr l0 (.i 0)),u (.pk l3 l0 (.b false)),m l0,y 0 true (.fa v3 1),i 1 true l0,y 2 true (.fa v3 2),i 3 true l0,y 4 true (.bin .neq l2 l0),u (.pk l5 l0 (.b false)),x 4 l0] [] .ret) .skip)))))) (q [x 4 (.b false)] [] .ret)))),res:=[(4,none)]}
end Go.Ev.K
namespace Go.Ev
class o6 [Lib]:Prop where
 Dr:Lib.fs N.nU=some K.nU
 y0:Lib.fs N.jX=some K.jX
 Ba:Lib.fs N.lJ=some K.lJ
 y4:Lib.fs N.fX=some K.fX
namespace K
variable [Lib] [o6]
theorem Dr:Lib.fs N.nU=some K.nU:=o6.Dr
theorem y0:Lib.fs N.jX=some K.jX:=o6.y0
theorem Ba:Lib.fs N.lJ=some K.lJ:=o6.Ba
theorem y4:Lib.fs N.fX=some K.fX:=o6.y4
end K
end Go.Ev
namespace Go.Ev.K
open Go.Ev
def lK:Fn:= { av:=3,vars:=[0,1,2,3,4,5,6],body:=(q [w 3 (.bx v0 3),w 4 (.bx v1 3),w 5 (.bx v2 1),x 6 (.b false)] [] (q [h 3 v3,u (.bd [z0,z0,z0,z0] []),u (.ca N.fX 0 [] [.l 1,.l 0]),m l0,y 0 true (.ld v4 3 true),y 1 true (.ca N.gY 0 [] [.l 0]),u (.pk l2 l0 (.b false)),m l0,y 0 true (.fa v4 2),i 1 true l0,u (.pk l2 l0 (.b false)),m l0,y 0 true (.fa v5 0),i 1 true l0,y 2 true (.ln l0),y 3 true (.bin .gtr l0 (.i 0)),u (.pk l4 l0 (.b false)),m l0,y 0 true (.ld v5 1 true),y 1 true (.fa v3 0),i 2 true l0,y 3 true (.ca N.mG 0 [] [.l 2,.l 0]),u (.pk l4 l0 (.b false)),x 6 l0] [] .ret)),res:=[(6,none)]}
def b8:Fn:= { av:=2,vars:=[0,1,2,4],body:=(q [w 2 (.bx v0 13),x 3 (.i 0)] [] (.seq (.blk 0 (.ite [f 0 v2,h 3 l0,f 3 v2,h 4 l0,u (.ca N.fX 0 [] [.l 2,.l 0]),u (.un .not l0),m l0] [] 0 (q [x 3 (.i 6)] [] .ret) (.ite [f 3 v2,f 0 l0,g l0,f 12 v2,g l0,u (.bin .neq l2 l0),m l0] [] 0 (q [x 3 (.i 10)] [] .ret) (.ite [f 11 v2,g l0,u (.bin .lss l0 (.i 0)),m l0,y 0 false (.fa v2 3),y 1 false (.ld l0 4 true),y 2 false (.fa v2 11),i 3 false l0,y 4 false (.ca N.iO 0 [] [.l 2,.l 0]),y 5 false (.un .not l0),u (.pk l6 (.b true) l0),m l0] [] 0 (q [x 3 (.i 8)] [] .ret) (.ite [m v1,m l0] [] 0 (q [x 3 (.i 19)] [] .ret) (.ite [f 12 v2,g l0,u (.bin .neq l0 (.i 0)),m l0,y 0 true (.fa v2 11),i 1 true l0,y 2 true (.fa v2 3),y 3 true (.fa l0 3),i 4 true l0,y 5 true (.bin .sub l3 l0),y 6 true (.fa v2 0),y 7 true (.fa l0 1),i 8 true l0,y 9 true (.bin .gtr l3 l0),u (.pk l10 l0 (.b false)),m l0] [] 0 (q [x 3 (.i 10)] [] .ret) (.ite [f 7 v2,h 3 l0,u (.ca N.gY 0 [] [.l 0]),u (.un .not l0),m l0,y 0 false (.fa v2 7),y 1 false (.fa l0 2),i 2 false l0,y 3 false (.un .not l0),u (.pk l4 (.b true) l0),m l0] [] 0 (q [x 3 (.i 48)] [] .ret) (.ite [f 0 v2,h 3 l0,f 7 v2,h 3 l0,f 10 v2,h 1 l0,u (.ca N.lK 0 [] [.l 4,.l 2,.l 0]),u (.un .not l0),m l0] [] 0 (q [x 3 (.i 49)] [] .ret) .skip)))))))) (q [x 3 (.i 0)] [] .ret))),res:=[(3,none)]}
def iO:Fn:= { av:=2,vars:=[0,1,2,4],body:=(q [w 2 (.bx v0 4),x 3 (.b false)] [] (q [m v1,f 3 v2,g l0,u (.bin .geq l2 l0),m l0,e 0 true v1,y 1 true (.bin .leq l0 (.i 2147483648)),u (.pk l2 l0 (.b false)),x 3 l0] [] .ret)),res:=[(3,none)]}
def gD:C:= (.its [u (.bin .lss v8 v7)] [] 0 .skip (.exit 0) (.seq (.blk 1 (q [m v8,a 1 v6 v8,g l0,x 4 l2,x 5 l1] [] (.ite [m v5,m v1,u (.bin .lss l1 l0),m l0,e 0 false v5,e 1 false v2,y 2 false (.bin .gtr l1 l0),u (.pk l3 (.b true) l0),m l0,e 0 false v4,y 1 false (.bin .gtr l0 (.i 0)),e 2 false l0,e 0 true v5,e 1 true v0,e 2 true v4,y 3 true (.bin .sub l0 (.i 1)),y 4 true (.ia l2 l0 1),i 5 true l0,y 6 true (.bin .leq l5 l0),y 10 false (.pk l7 l0 (.b false)),u (.pk l11 (.b true) l0)] [] 0 (q [x 3 (.b false)] [] .ret) .skip))) (.reg [u (.bin .add v8 (.i 1)),x 8 l0] [])))
def xl:C:= .loop true [3,4,5] K.gD
def bZ:Fn:= { av:=3,vars:=[0,1,2,6,7,8,9,10,11],body:=(q [x 3 (.b false)] [] (.seq (q [x 6 v0,w 7 (.ln l0),x 8 (.i 0)] [] (.blk 0 K.xl)) (q [x 3 (.b true)] [] .ret))),res:=[(3,none)]}
def gY:Fn:= { av:=1,vars:=[0,1,2,3],body:=(q [w 1 (.bx v0 3),x 2 (.b false)] [] (q [w 3 (.mv (.c (.fn N.jY [])))] [] (q [f 0 v1,g l0,u (.ca N.mH 0 [] [.l 0]),m l0,y 0 true (.fa v1 1),i 1 true l0,y 2 true (.ln l0),y 3 true (.fa v1 0),i 4 true l0,y 5 true (.ln l0),y 6 true (.bin .eql l3 l0),u (.pk l7 l0 (.b false)),m l0,y 0 true (.fa v1 1),i 1 true l0,e 2 true v3,y 3 true (.ca N.aq 0 [] [.l 1,.l 0]),y 4 true (.un .not l0),u (.pk l5 l0 (.b false)),m l0,y 0 true (.fa v1 2),i 1 true l0,y 2 true (.un .not l0),e 3 true l0,y 0 false (.ld v1 3 true),y 1 false (.ca N.mI 0 [] [.l 0]),y 6 true (.pk l2 (.b true) l0),u (.pk l7 l0 (.b false)),x 2 l0] [] .ret))),res:=[(2,none)]}
def Hg:C:= (.its [u (.bin .lss v11 v10)] [] 0 .skip (.exit 2) (.seq (.blk 3 (q [a 2 v9 v11,h 2 l0,w 5 (.al [z0,.nil] []),u (.st l0 l1 2 [])] [] (.ite [m v1,u (.mf N.jZ [.v 5]),u (.ca N.aq 0 [] [.l 1,.l 0])] [] 0 (q [x 3 (.b false)] [] .ret) .skip))) (.reg [u (.bin .add v11 (.i 1)),x 11 l0] [])))
def J3:C:= .loop true [0,2,3,4,5] K.Hg
def Hh:C:= (.its [u (.bin .lss v8 v7)] [] 0 .skip (.exit 0) (.seq (.blk 1 (q [a 2 v6 v8,h 2 l0,w 4 (.al [.nil,.nil] []),u (.st l0 l1 2 [])] [] (q [f 1 v4,w 9 (.ld l0 1 false),w 10 (.ln l0),x 11 (.i 0)] [] (.blk 2 K.J3)))) (.reg [u (.bin .add v8 (.i 1)),x 8 l0] [])))
def J4:C:= .loop true [0,2,3,4,5,9,10,11] K.Hh
def mG:Fn:= { av:=2,vars:=[0,1,2,4,6,8,10,11,12,17,18,19],body:=(q [w 2 (.bx v0 1),x 3 (.b false)] [] (.seq (q [f 0 v2,w 6 (.ld l0 1 false),w 7 (.ln l0),x 8 (.i 0)] [] (.blk 0 K.J4)) (q [x 3 (.b true)] [] .ret))),res:=[(3,none)]}
def jY:Fn:= { av:=1,vars:=[0,2],body:=(q [x 1 (.b false)] [] (q [m v0,u (.ca N.aU 0 [] [.l 0,.i 0,.i 2]),u (.un .not l0),x 1 l0] [] .ret)),res:=[(1,none)]}
def mH:Fn:= { av:=1,vars:=[0,2],body:=(q [x 1 (.b false)] [] (q [m v0,u (.ln l0),u (.ca N.aU 0 [] [.l 0,.i 1,.i 12]),m l0,e 0 true v0,y 1 true (.ca N.bZ 0 [] [.l 0,.i 0,.i 127]),u (.pk l2 l0 (.b false)),x 1 l0] [] .ret)),res:=[(1,none)]}
def mI:Fn:= { av:=1,vars:=[0,1,2],body:=(q [w 1 (.bx v0 3),x 2 (.b false)] [] (q [f 1 v1,g l0,u (.ca N.aq 0 [] [.l 0,.c (.fn N.j3 [])]),u (.un .not l0),x 2 l0] [] .ret)),res:=[(2,none)]}
def jZ:Fn:= { av:=2,vars:=[0,1,3],body:=(q [x 2 (.b false)] [] (q [m v0,f 1 v1,g l0,u (.ln l0),u (.bin .sub l0 (.i 1)),u (.ca N.aU 0 [] [.l 4,.i 0,.l 0]),m l0,y 0 true (.fa v1 1),i 1 true l0,e 2 true v0,y 3 true (.ia l1 l0 1),i 4 true l0,y 5 true (.bin .neq l0 (.i 1099511627776)),u (.pk l6 l0 (.b false)),x 2 l0] [] .ret)),res:=[(2,none)]}
def j3:Fn:= { av:=1,vars:=[0,2],body:=(q [x 1 (.b false)] [] (q [m v0,u (.bin .neq l0 (.i 2)),x 1 l0] [] .ret)),res:=[(1,none)]}
end Go.Ev.K
namespace Go.Ev
class ns [Lib]:Prop where
 Bb:Lib.fs N.lK=some K.lK
 pd:Lib.fs N.b8=some K.b8
 xm:Lib.fs N.iO=some K.iO
 sY:Lib.fs N.bZ=some K.bZ
 Dt:Lib.fs N.gY=some K.gY
 Du:Lib.fs N.mG=some K.mG
 y5:Lib.fs N.jY=some K.jY
 Dv:Lib.fs N.mH=some K.mH
 Dw:Lib.fs N.mI=some K.mI
 y6:Lib.fs N.jZ=some K.jZ
 y7:Lib.fs N.j3=some K.j3
namespace K
variable [Lib] [ns]
theorem Bb:Lib.fs N.lK=some K.lK:=ns.Bb
theorem pd:Lib.fs N.b8=some K.b8:=ns.pd
theorem xm:Lib.fs N.iO=some K.iO:=ns.xm
theorem sY:Lib.fs N.bZ=some K.bZ:=ns.sY
theorem Dt:Lib.fs N.gY=some K.gY:=ns.Dt
theorem Du:Lib.fs N.mG=some K.mG:=ns.Du
theorem y5:Lib.fs N.jY=some K.jY:=ns.y5
theorem Dv:Lib.fs N.mH=some K.mH:=ns.Dv
theorem Dw:Lib.fs N.mI=some K.mI:=ns.Dw
theorem y6:Lib.fs N.jZ=some K.jZ:=ns.y6
theorem y7:Lib.fs N.j3=some K.j3:=ns.y7
end K
end Go.Ev
namespace Go.Ev
open Go
variable [Lib] [dM] [dh] [o6] [ns]
def UA(l:List Int)(lo hi:Int)(j:Nat):Bool:= !decide (lo≤nth l j∧nth l j≤hi∧(0<j→nth l (j-1)<nth l j))
def Zs(l:List Int)(lo hi:Int):Bool:= !((List.range l.length).any (UA l lo hi))
theorem Mr(l:List Int)(lo hi:Int)(hl:l.length≤4294967296):aW 0 N.bZ [.t (tL l),I lo,I hi] []=some (B (Zs l lo hi),[]):=by
 refine aA K.sY rfl ?_
 have loop:∀a b c:D,exS aW K.xl ⟨[.t (tL l),I lo,I hi,a,b,c,.t (tL l),I l.length,I 0],[]⟩=
  some (if(List.range l.length).any (UA l lo hi)=true
   then(.ret,⟨[.t (tL l),I lo,I hi,B false,I (Mq l.length (UA l lo hi)),I (nth l (Mq l.length (UA l lo hi))),.t (tL l),I l.length,I (Mq l.length (UA l lo hi))],[]⟩)
   else(.exit 0,⟨[.t (tL l),I lo,I hi,.und,.und,.und,.t (tL l),I l.length,I l.length],[]⟩)):=by
  intro a b c
  refine Ux (fun j=>⟨[.t (tL l),I lo,I hi,.und,.und,.und,.t (tL l),I l.length,I j],[]⟩) l.length (UA l lo hi) (fun j=>(.ret,⟨[.t (tL l),I lo,I hi,B false,I j,I (nth l j),.t (tL l),I l.length,I j],[]⟩)) _ rfl ?_ ?_ ?_ (by simp)
  · intro j hj hp
    simp only[UA,Bool.not_eq_false',decide_eq_true_eq]at hp
    obtain⟨h1,h2,h3⟩:=hp
    cases j with
    | zero=>simp(disch:=omega)only[go_sem,K.gD,↓reduceIte]
    | succ j=>
      have h3:=h3 (by omega)
      rw[Nat.add_sub_cancel]at h3
      simp(disch:=omega)only[go_sem,K.gD,↓reduceIte]
  · intro j hj hp
    simp only[UA,Bool.not_eq_true',decide_eq_false_iff_not]at hp
    refine⟨?_,by simp⟩
    by_cases h1:lo≤nth l j
    · by_cases h2:nth l j≤hi
      · cases j with
        | zero=>exact absurd ⟨h1,h2,fun h=>absurd h (by omega)⟩ hp
        | succ j=>
          have h3:¬nth l j<nth l (j+1):=fun h=>hp ⟨h1,h2,fun _=>by simpa using h⟩
          simp(disch:=omega)only[go_sem,K.gD,↓reduceIte]
      · simp(disch:=omega)only[go_sem,K.gD,↓reduceIte]
    · simp(disch:=omega)only[go_sem,K.gD,↓reduceIte]
  · simp(disch:=omega)only[go_sem,K.gD,↓reduceIte]
 unfold Zs
 simp(disch:=omega)only[go_sem,K.bZ,↓reduceIte,loop]
 cases hf:(List.range l.length).any (UA l lo hi)with
 | true=>simp(disch:=omega)only[go_sem,↓reduceIte]
 | false=>simp(disch:=omega)only[go_sem,↓reduceIte,aLt]
theorem acE(l:List Int)(n:Int):Zs l 0 (n-1)=EA l n:=by
 unfold Zs EA
 rw[OM]
 refine congrArg (!·) (congrArg _ (funext fun j=>?_))
 unfold UA
 refine congrArg (!·) (decide_eq_decide.2 ⟨fun h=>⟨h.1,by omega,h.2.2⟩,fun h=>⟨h.1,by omega,h.2.2⟩⟩)
structure alW where
 st:Int
 fi:Int
 se:Int
 ti:Int
abbrev alW.e(s:alW):T:= .agg [tI s.st,tI s.fi,tI s.se,tI s.ti]
structure XI where
 area:List Int
 hold:Int
 mis:Int
abbrev XI.e(x:XI):T:= .agg [tL x.area,tI x.hold,tI x.mis]
structure Keys where
 roads:List Int
 keys:List Int
 out:Bool
abbrev Keys.e(k:Keys):T:= .agg [tL k.roads,tL k.keys,.bool k.out]
end Go.Ev
namespace Go.Ev
open Go
variable [Lib] [dM] [dh]
theorem aja(l:List Int):aW 0 N.mZ [.t (tL l)] []=some (.bp 0 0,[aD.obj ⟨l,0⟩]):=by
 refine aA K.zH rfl ?_
 simp(disch:=omega)only[go_sem,K.mZ,↓reduceIte,aD.obj,reduceAdd,reduceSub]
theorem UB{d:aD}(hd:d.dC)(n:Int)(h1:1≤n)(hn:n≤4611686018427387904):
 ∃(v:Int) (e:aD),aW 0 N.aC [.bp 0 0,I n] [d.obj]=some (I v,[e.obj])∧e.dC∧0≤v∧v<n:=
 ⟨_,_,gJ d n hn hd,aD.aZ hd n,d.dN n,d.dV h1⟩
theorem aqz{d:aD}(hd:d.dC)(l:List Int)(hl:l≠[])(hn:l.length≤4294967296):
 ∃(v:Int) (e:aD),aW 0 N.cA [.bp 0 0,.t (tL l)] [d.obj]=some (I v,[e.obj])∧e.dC∧v∈l:=
 ⟨_,_,LN d l hl hn hd,aD.ly hd l,d.qZ hl⟩
theorem ajb{d:aD}(hd:d.dC):
 ∃(m:bh) (e:aD),aW 0 N.dw [.bp 0 0] [d.obj]=some (.t m.e,[e.obj])∧e.dC∧m.ok∧2≤m.ae.length∧m.ae.length≤7∧1≤m.roads.length∧m.roads.length≤10:=by
 have b:=d.EE
 have p:=d.FH
 have r:=d.IU
 exact⟨_,_,acm d hd,aD.RA hd,d.Ui,by omega,by omega,by omega,by omega⟩
theorem acF{d:aD}(hd:d.dC){m:bh}(hm:m.ok):
 ∃(l:List Spn) (e:aD),aW 0 N.cP [.bp 0 0,.t m.e] [d.obj]=some (.t (tS l),[e.obj])∧e.dC∧l.length=m.roads.length∧(∀x∈l,x.ok):=by
 have nr:=hm.nr
 exact⟨_,_,Mm d hd m (by omega),aD.pV hd _,d.tX _,d.zS _⟩
end Go.Ev
namespace Go.Ev
open Go
variable [Lib] [dM] [dh] [o6] [ns]
abbrev never:Int:=1099511627776
abbrev Wh.box(w:Wh):Obj:= .box [I w.time,.t (tL w.frm)]
structure Req where
 x:XI
 s:alW
 k:Keys
 b:Bel
 t:Int
 from_:Int
abbrev Req.e(r:Req):T:= .agg [tL r.x.area,tI r.x.hold,tI r.x.mis,tI r.s.st,tI r.s.fi,tI r.s.se,tI r.s.ti,tL r.k.roads,tL r.k.keys,.bool r.k.out,.sl (r.b.aK.map World.e),tI r.t,tI r.from_]
structure Req.sz(r:Req):Prop where
 hx:r.x.area.length≤1000000
 hk:r.k.roads.length≤1000000
 hk2:r.k.keys.length≤1000000
 hb:r.b.sz
section
variable (x : XI) (s : alW) (k : Keys) (b : Bel) (hx : x.area.length ≤ 1000000) (hk : k.roads.length ≤ 1000000) (hk2 : k.keys.length ≤ 1000000) (hb : b.sz)
include hx hk hk2 hb
end
end Go.Ev
namespace Go.Ev
open Go
variable [Lib] [dM] [dh] [o6] [ns]
section
variable (area : List Int) (ha : area.length ≤ 1000000) (xs : List World) (hx : xs.length ≤ 1000000)
include ha hx
end
end Go.Ev
namespace Go.Ev.N
def UC:Nat:=123
def SA:Nat:=124
def V5:Nat:=125
def UD:Nat:=126
def acG:Nat:=127
def lL:Nat:=128
def acH:Nat:=129
def afJ:Nat:=130
def afK:Nat:=131
def acI:Nat:=132
def acJ:Nat:=133
def XJ:Nat:=134
def XK:Nat:=135
def nV:Nat:=136
def acK:Nat:=137
def XL:Nat:=138
def Zt:Nat:=139
def V6:Nat:=140
def Zu:Nat:=141
def XM:Nat:=142
def UE:Nat:=143
def UF:Nat:=144
def eZ:Nat:=145
def j4:Nat:=146
def j5:Nat:=147
def eC:Nat:=148
end Go.Ev.N
namespace Go.Ev.N
def Qq:Nat:=149
def UG:Nat:=150
def UH:Nat:=151
def SB:Nat:=152
def acL:Nat:=153
def lM:Nat:=154
def j6:Nat:=155
def Zv:Nat:=156
def acM:Nat:=157
def afL:Nat:=158
def lN:Nat:=159
def bQ:Nat:=160
def dR:Nat:=161
def gE:Nat:=162
def afM:Nat:=163
def Zw:Nat:=164
def afN:Nat:=165
def Zx:Nat:=166
def cM:Nat:=167
def aY:Nat:=168
def iP:Nat:=169
def iQ:Nat:=170
def dG:Nat:=171
def dg:Nat:=172
def kO:Nat:=173
def bj:Nat:=174
def UI:Nat:=175
def fY:Nat:=176
def ig:Nat:=177
end Go.Ev.N
namespace Go.Ev.K
open Go.Ev
def FL:C:= (.its [u (.bin .lss v11 v10)] [] 0 .skip (.exit 1) (.seq (.blk 2 (q [a 1 v9 v11,g l0,x 8 l0] [] (.reg [m v7,m v8,m v3,a 1 l2 l1,u (.st l0 l1 1 [])] []))) (.reg [u (.bin .add v11 (.i 1)),x 11 l0] [])))
def Hi:C:= .loop true [0,2,6,8] K.FL
def lM:Fn:= { av:=4,vars:=[0,1,2,3,4,8,9,10,12,38,39,40],body:=(q [w 4 (.bx v0 2),w 5 (.al [z0,.nil] []),x 6 (.i 0)] [] (.seq (.blk 0 (.ite [h 2 v4,m v1,u (.ca N.lN 0 [] [.l 1,.l 0]),u (.un .not l0),m l0] [] 0 (q [u (.bd [z0,.nil] []),u (.st v5 l0 2 []),x 6 (.i 6)] [] .ret) (.ite [m v2,f 0 v4,g l0,u (.ln l0),u (.bin .sub l0 (.i 1)),u (.ca N.bZ 0 [] [.l 4,.i 0,.l 0]),u (.un .not l0),m l0] [] 0 (q [u (.bd [z0,.nil] []),u (.st v5 l0 2 []),x 6 (.i 3)] [] .ret) (.ite [m v3,u (.ca N.aU 0 [] [.l 0,.i 0,.i 2147483648]),u (.un .not l0),m l0] [] 0 (q [u (.bd [z0,.nil] []),u (.st v5 l0 2 []),x 6 (.i 8)] [] .ret) .skip)))) (q [u (.bs [.i 1099511627776] 1),f 0 v4,g l0,u (.ln l0),u (.ca N.bQ 1 [] [.l 3,.l 0]),x 7 l0] [] (.seq (q [x 9 v2,w 10 (.ln l0),x 11 (.i 0)] [] (.blk 1 K.Hi)) (q [h 2 v4,m v1,m v7,u (.bd [.nil,.nil,.nil,.nil] [(0,2,.l 2),(2,1,.l 1),(3,1,.l 0)]),u (.ca N.dR 0 [0] [.l 0])] [] (q [m v3,m v7,u (.bd [z0,.nil] [(0,1,.l 1),(1,1,.l 0)]),u (.st v5 l0 2 []),x 6 (.i 0)] [] .ret)))))),res:=[(5,some (2,true)),(6,none)]}
def j6:Fn:= { av:=4,vars:=[0,1,2,3,4,6,8,9,10,11,12],body:=(q [w 4 (.bx v0 2),w 5 (.bx v2 2),x 6 (.i 0)] [] (.seq (.ite [m v1,u (.bin .lss l0 (.i 0)),m l0,e 0 false v1,y 1 false (.fa v4 1),i 2 false l0,y 3 false (.ln l0),y 4 false (.bin .geq l3 l0),u (.pk l5 (.b true) l0),m l0,y 0 false (.fa v4 1),i 1 false l0,e 2 false v1,y 3 false (.ia l1 l0 10),y 4 false (.fa l0 5),i 5 false l0,u (.pk l6 (.b true) l0)] [] 0 (q [w 6 (.mv (.i (-1)))] [] .ret) .skip) (q [f 1 v4,g l0,m v1,a 10 l1 l0,h 10 l0,w 7 (.al [z0,z0,z0,z0,z1,z1,z0,z0,z0,z0] []),u (.st l0 l1 10 [])] [] (q [h 2 v5,w 8 (.al [z0,z0] []),u (.st l0 l1 2 [])] [] (.seq (.ite [m v3] [] 0 (.reg [f 1 v5,g l0,u (.un .neg l0),f 0 v5,g l0,u (.un .neg l0),u (.bd [z0,z0] [(0,1,.l 3),(1,1,.l 0)]),u (.st v8 l0 2 [])] []) .skip) (q [w 9 (.mv (.i (-1)))] [] (.seq (.ite [f 1 v8,g l0,f 3 v7,g l0,u (.bin .mul (.i (-500)) l0),u (.bin .gtr l3 l0)] [] 0 (.reg [f 2 v7,g l0,x 9 l0] []) .skip) (.seq (.ite [f 1 v8,g l0,u (.bin .gtr l0 (.i 0))] [] 0 (q [f 2 v7,g l0,f 3 v7,g l0,u (.bin .mul l2 l0),u (.bin .mul l0 (.i 1000)),f 1 v8,g l0,u (.bin .quo l2 l0),x 10 l0] [] (.ite [m v9,u (.bin .lss l0 (.i 0)),m l0,e 0 false v10,e 1 false v9,y 2 false (.bin .lss l1 l0),u (.pk l3 (.b true) l0)] [] 0 (.reg [m v10,x 9 l0] []) .skip)) .skip) (q [m v9,x 6 l0] [] .ret))))))))),res:=[(6,none)]}
def lN:Fn:= { av:=2,vars:=[0,1,2,4],body:=(q [w 2 (.bx v0 2),x 3 (.b false)] [] (q [h 2 v2,u (.ca N.cM 0 [] [.l 0]),m l0,e 0 true v1,y 1 true (.ln l0),y 2 true (.fa v2 1),i 3 true l0,y 4 true (.ln l0),y 5 true (.bin .eql l3 l0),u (.pk l6 l0 (.b false)),m l0,e 0 true v1,y 1 true (.ca N.aY 0 [] [.l 0,.c (.fn N.iP [])]),y 2 true (.un .not l0),u (.pk l3 l0 (.b false)),x 3 l0] [] .ret)),res:=[(3,none)]}
def s5:C:= (.seq (.ite [m v6,m v5,u (.ln l0),u (.bin .lss l2 l0)] [] 0 .skip (.exit 0)) (.blk 1 (.reg [m v6,m v5,m v6,u (.sc l1 (some l0) none 1),m v5,m v6,u (.sc l1 none (some l0) 1),u (.cp l3 l0 1),u (.bin .add l7 l0),x 6 l0] [])))
def ua:C:= .loop true [0,1,2,3,4] K.s5
def bQ:Fn:= { av:=2,vars:=[0,1,4,5,6,7,8],body:=(q [w 2 (.mv (.c (.nil)))] [] (.seq (.ite [m v1,u (.bin .lss l0 (.i 0))] [] 0 .fail .skip) (q [m v0,u (.ln l0),u (.cv .u64 l0),m v1,u (.cv .u64 l0),u (.ca N.iQ 0 [] [.l 2,.l 0]),m l0,u (.ex l0 0),u (.ex l1 1),x 3 l1,x 4 l1] [] (.seq (.ite [m v3,u (.bin .gtr l0 (.c (.t (.int .u64 (0))))),m l0,e 0 false v4,y 1 false (.bin .gtr l0 (.c (.t (.int .u64 (9223372036854775807))))),u (.pk l2 (.b true) l0)] [] 0 .fail .skip) (q [m v4,u (.cv .i64 l0),u (.mk l0 (z0) 1),x 5 l0] [] (q [m v5,m v0,u (.cp l1 l0 1),x 6 l0] [] (.seq (.blk 0 K.ua) (q [m v5,x 2 l0] [] .ret)))))))),res:=[(2,none)]}
def wu:C:= (.its [u (.bin .lss v9 v8)] [] 0 .skip (.exit 2) (.seq (.blk 3 (q [m v9,a 10 v7 v9,h 10 l0,w 4 (.al [z0,z0,z0,z0,z1,z1,z0,z0,z0,z0] []),x 3 l3,u (.st l1 l2 10 [])] [] (q [h 4 v1,m v3,f 0 v4,g l0,f 1 v4,g l0,u (.ca N.dG 0 [0] [.l 5,.l 4,.l 2,.l 0,.b false]),x 5 l0] [] (q [h 4 v1,m v3,f 1 v4,g l0,f 0 v4,g l0,u (.ca N.dG 0 [0] [.l 5,.l 4,.l 2,.l 0,.b true]),x 6 l0] [] (.reg [m v2,m l0,e 0 false v5,u (.pk l1 (.b true) l0),m l0,e 0 false v6,u (.pk l1 (.b true) l0),x 2 l0] []))))) (.reg [u (.bin .add v9 (.i 1)),x 9 l0] [])))
def xn:C:= .loop true [0,3,4,5,6] K.wu
def wy:C:= (.seq (.ite [m v2] [] 0 .skip (.exit 0)) (.blk 1 (q [x 2 (.b false)] [] (q [f 0 v1,f 1 l0,w 7 (.ld l0 1 false),w 8 (.ln l0),x 9 (.i 0)] [] (.blk 2 K.xn)))))
def xo:C:= .loop true [0,3,4,5,6,7,8,9] K.wy
def dR:Fn:= { av:=1,vars:=[0,1,2,3,4,5,6,10,11,12],body:=(q [w 1 (.bx v0 4)] [] (q [x 2 (.b true)] [] (.blk 0 K.xo))),res:=[]}
def gE:Fn:= { av:=2,vars:=[0,1,2,3,4],body:=(q [w 2 (.bx v0 2),w 3 (.bx v1 2),x 4 (.b false)] [] (q [h 2 v2,u (.ca N.cM 0 [] [.l 0]),m l0,y 0 true (.fa v3 1),i 1 true l0,y 2 true (.ln l0),y 3 true (.fa v2 0),i 4 true l0,y 5 true (.ln l0),y 6 true (.bin .eql l3 l0),u (.pk l7 l0 (.b false)),m l0,y 0 true (.fa v3 0),i 1 true l0,y 2 true (.ca N.aU 0 [] [.l 0,.i 0,.i 2147483648]),u (.pk l3 l0 (.b false)),m l0,y 0 true (.fa v3 1),i 1 true l0,y 2 true (.mf N.dg [.v 3]),y 3 true (.ca N.aq 0 [] [.l 1,.l 0]),y 4 true (.un .not l0),u (.pk l5 l0 (.b false)),x 4 l0] [] .ret)),res:=[(4,none)]}
def cM:Fn:= { av:=1,vars:=[0,1,2],body:=(q [w 1 (.bx v0 2),x 2 (.b false)] [] (q [h 2 v1,u (.ca N.kO 0 [] [.l 0]),u (.bin .eql l0 (.i 0)),x 2 l0] [] .ret)),res:=[(2,none)]}
def aY:Fn:= { av:=2,vars:=[0,1,4],body:=(q [x 2 (.b false)] [] (q [m v0,m v1,u (.ca N.bj 0 [] [.l 1,.l 0]),u (.bin .geq l0 (.i 0)),x 2 l0] [] .ret)),res:=[(2,none)]}
def iP:Fn:= { av:=1,vars:=[0,1,2],body:=(q [w 1 (.bx v0 2),x 2 (.b false)] [] (q [f 0 v1,g l0,u (.bin .lss l0 (.i (-1125899906842624))),m l0,y 0 false (.fa v1 1),i 1 false l0,y 2 false (.bin .gtr l0 (.i 1125899906842624)),u (.pk l3 (.b true) l0),m l0,y 0 false (.fa v1 0),i 1 false l0,y 2 false (.fa v1 1),i 3 false l0,y 4 false (.bin .gtr l2 l0),u (.pk l5 (.b true) l0),x 2 l0] [] .ret)),res:=[(2,none)]}
def iQ:Fn:= { av:=2,vars:=[0,1,4,5,8,9],body:=(q [w 2 (.mv (.c (.t (.int .u64 (0))))),w 3 (.mv (.c (.t (.int .u64 (0)))))] [] (.seq (.cnd false .skip) (q [m v0,m v1,u (.ca N.fY 0 [] [.l 1,.l 0]),m l0,u (.ex l0 0),u (.ex l1 1),x 4 l1,x 5 l1] [] (q [m v4,m v5,x 2 l1,x 3 l1] [] .ret)))),res:=[(2,none),(3,none)]}
def dG:Fn:= { av:=5,vars:=[0,1,2,3,4,5,10,11],body:=(q [w 5 (.bx v0 4),x 6 (.b false)] [] (q [f 0 v5,h 2 l0,m v1,f 2 v5,g l0,m v1,a 2 l1 l0,h 2 l0,m v4,u (.ca N.j6 0 [] [.l 7,.l 6,.l 1,.l 0]),x 7 l0] [] (.seq (.ite [m v7,u (.bin .lss l0 (.i 0)),m l0,y 0 false (.fa v5 3),i 1 false l0,e 2 false v2,y 3 false (.ia l1 l0 1),i 4 false l0,y 5 false (.bin .gtr l0 (.i 2147483648)),u (.pk l6 (.b true) l0),m l0,y 0 false (.fa v5 3),i 1 false l0,e 2 false v2,y 3 false (.ia l1 l0 1),i 4 false l0,e 5 false v7,y 6 false (.bin .add l1 l0),y 7 false (.bin .gtr l0 (.i 2147483648)),u (.pk l8 (.b true) l0),m l0,y 0 false (.fa v5 3),i 1 false l0,e 2 false v2,y 3 false (.ia l1 l0 1),i 4 false l0,e 5 false v7,y 6 false (.bin .add l1 l0),y 7 false (.fa v5 3),i 8 false l0,e 9 false v3,y 10 false (.ia l1 l0 1),i 11 false l0,y 12 false (.bin .geq l5 l0),u (.pk (.l 13) (.b true) l0)] [] 0 (q [x 6 (.b false)] [] .ret) .skip) (q [f 3 v5,g l0,m v3,f 3 v5,g l0,m v2,a 1 l1 l0,g l0,m v7,u (.bin .add l1 l0),a 1 l8 l7,u (.st l0 l1 1 [])] [] (q [x 6 (.b true)] [] .ret))))),res:=[(6,none)]}
end Go.Ev.K
namespace Go.Ev
class lz [Lib]:Prop where
 Bc:Lib.fs N.lM=some K.lM
 y8:Lib.fs N.j6=some K.j6
 Bd:Lib.fs N.lN=some K.lN
 oU:Lib.fs N.bQ=some K.bQ
 qw:Lib.fs N.dR=some K.dR
 vw:Lib.fs N.gE=some K.gE
 xp:Lib.fs N.cM=some K.cM
 fZ:Lib.fs N.aY=some K.aY
 xq:Lib.fs N.iP=some K.iP
 xr:Lib.fs N.iQ=some K.iQ
 rr:Lib.fs N.dG=some K.dG
namespace K
variable [Lib] [lz]
theorem Bc:Lib.fs N.lM=some K.lM:=lz.Bc
theorem y8:Lib.fs N.j6=some K.j6:=lz.y8
theorem Bd:Lib.fs N.lN=some K.lN:=lz.Bd
theorem oU:Lib.fs N.bQ=some K.bQ:=lz.oU
theorem qw:Lib.fs N.dR=some K.dR:=lz.qw
theorem vw:Lib.fs N.gE=some K.gE:=lz.vw
theorem xp:Lib.fs N.cM=some K.cM:=lz.xp
theorem fZ:Lib.fs N.aY=some K.aY:=lz.fZ
theorem xq:Lib.fs N.iP=some K.iP:=lz.xq
theorem xr:Lib.fs N.iQ=some K.iQ:=lz.xr
theorem rr:Lib.fs N.dG=some K.dG:=lz.rr
end K
end Go.Ev
namespace Go.Ev.K
open Go.Ev
def dg:Fn:= { av:=2,vars:=[0,1,3],body:=(q [x 2 (.b false)] [] (q [m v0,u (.bin .neq l0 (.i 1099511627776)),m l0,e 0 true v0,y 1 true (.fa v1 0),i 2 true l0,y 3 true (.ca N.aU 0 [] [.l 2,.l 0,.i 2147483648]),y 4 true (.un .not l0),u (.pk l5 l0 (.b false)),x 2 l0] [] .ret)),res:=[(2,none)]}
def s6:C:= (.its [u (.bin .lss v8 v7)] [] 0 .skip (.exit 0) (.seq (.blk 1 (q [a 2 v6 v8,h 2 l0,w 3 (.al [z0,z1] []),u (.st l0 l1 2 [])] [] (.ite [f 0 v3,g l0,u (.bin .lss l0 (.i (-10000))),m l0,y 0 false (.fa v3 0),i 1 false l0,y 2 false (.bin .gtr l0 (.i 10000)),u (.pk l3 (.b true) l0)] [] 0 (q [x 2 (.i 1)] [] .ret) .skip))) (.reg [u (.bin .add v8 (.i 1)),x 8 l0] [])))
def Be:C:= .loop true [0,2,3,4,5,9,10,11] K.s6
def s7:C:= (.its [u (.bin .lss v11 v10)] [] 0 .skip (.exit 2) (.seq (.blk 3 (q [a 10 v9 v11,h 10 l0,w 5 (.al [z0,z0,z0,z0,z1,z1,z0,z0,z0,z0] []),u (.st l0 l1 10 [])] [] (.seq (.ite [f 0 v5,g l0,u (.bin .lss l0 (.i 0)),m l0,y 0 false (.fa v5 0),i 1 false l0,e 2 false v4,y 3 false (.bin .geq l1 l0),u (.pk l4 (.b true) l0),m l0,y 0 false (.fa v5 1),i 1 false l0,y 2 false (.bin .lss l0 (.i 0)),u (.pk l3 (.b true) l0),m l0,y 0 false (.fa v5 1),i 1 false l0,e 2 false v4,y 3 false (.bin .geq l1 l0),u (.pk l4 (.b true) l0),m l0,y 0 false (.fa v5 0),i 1 false l0,y 2 false (.fa v5 1),i 3 false l0,y 4 false (.bin .eql l2 l0),u (.pk l5 (.b true) l0)] [] 0 (q [x 2 (.i 4)] [] .ret) .skip) (.seq (.ite [f 2 v5,g l0,u (.bin .lss l0 (.i 1)),m l0,y 0 false (.fa v5 2),i 1 false l0,y 2 false (.bin .gtr l0 (.i 100000)),u (.pk l3 (.b true) l0),m l0,y 0 false (.fa v5 3),i 1 false l0,y 2 false (.bin .lss l0 (.i 1)),u (.pk l3 (.b true) l0),m l0,y 0 false (.fa v5 3),i 1 false l0,y 2 false (.bin .gtr l0 (.i 1000)),u (.pk l3 (.b true) l0)] [] 0 (q [x 2 (.i 1)] [] .ret) .skip) (.ite [f 6 v5,h 2 l0,u (.ca N.ig 0 [] [.l 0,.i 1,.i 262144]),u (.un .not l0),m l0,y 0 false (.fa v5 8),y 1 false (.ld l0 2 true),y 2 false (.ca N.ig 0 [] [.l 0,.i (-2199023255552),.i 2199023255552]),y 3 false (.un .not l0),u (.pk l4 (.b true) l0)] [] 0 (q [x 2 (.i 1)] [] .ret) .skip))))) (.reg [u (.bin .add v11 (.i 1)),x 11 l0] [])))
def Bf:C:= .loop true [0,1,2,3,5,6,7,8] K.s7
def kO:Fn:= { av:=1,vars:=[0,1,2,4,5,7,19,20,21,38,39,40],body:=(q [w 1 (.bx v0 2),x 2 (.i 0)] [] (.seq (.ite [f 0 v1,g l0,u (.ln l0),u (.bin .gtr l0 (.i 64)),m l0,y 0 false (.fa v1 1),i 1 false l0,y 2 false (.ln l0),y 3 false (.bin .gtr l0 (.i 128)),u (.pk l4 (.b true) l0)] [] 0 (q [x 2 (.i 2)] [] .ret) .skip) (.seq (q [f 0 v1,w 6 (.ld l0 1 false),w 7 (.ln l0),x 8 (.i 0)] [] (.blk 0 K.Be)) (q [f 0 v1,g l0,u (.ln l0),x 4 l0] [] (.seq (q [f 1 v1,w 9 (.ld l0 1 false),w 10 (.ln l0),x 11 (.i 0)] [] (.blk 2 K.Bf)) (q [x 2 (.i 0)] [] .ret)))))),res:=[(2,none)]}
def mJ:C:= (.its [u (.bin .lss v5 v4)] [] 0 .skip (.exit 0) (.seq (.blk 1 (q [m v5,x 3 l0] [] (.ite [m v1,m v0,m v3,a 2 l1 l0,h 2 l0,u (.cw l4 0 [] [.l 0])] [] 0 (q [m v3,x 2 l0] [] .ret) .skip))) (.reg [u (.bin .add v5 (.i 1)),x 5 l0] [])))
def mT:C:= .loop true [2,3] K.mJ
def bj:Fn:= { av:=2,vars:=[0,1,4,5,7,8],body:=(q [x 2 (.i 0)] [] (.seq (q [m v0,w 4 (.ln l0),x 5 (.i 0)] [] (.blk 0 K.mT)) (q [w 2 (.mv (.i (-1)))] [] .ret))),res:=[(2,none)]}
def fY:Fn:= { av:=2,vars:=[0,1,4,5,6,7,8,9,10,11,12,13],body:=(q [w 2 (.mv (.c (.t (.int .u64 (0))))),w 3 (.mv (.c (.t (.int .u64 (0)))))] [] (q [m v0,u (.bin .and l0 (.c (.t (.int .u64 (4294967295))))),x 4 l0] [] (q [m v0,u (.bin .shr l0 (.c (.t (.int .u64 (32))))),x 5 l0] [] (q [m v1,u (.bin .and l0 (.c (.t (.int .u64 (4294967295))))),x 6 l0] [] (q [m v1,u (.bin .shr l0 (.c (.t (.int .u64 (32))))),x 7 l0] [] (q [m v4,m v6,u (.bin .mul l1 l0),x 8 l0] [] (q [m v5,m v6,u (.bin .mul l1 l0),m v8,u (.bin .shr l0 (.c (.t (.int .u64 (32))))),u (.bin .add l2 l0),x 9 l0] [] (q [m v9,u (.bin .and l0 (.c (.t (.int .u64 (4294967295))))),x 10 l0] [] (q [m v9,u (.bin .shr l0 (.c (.t (.int .u64 (32))))),x 11 l0] [] (q [m v10,m v4,m v7,u (.bin .mul l1 l0),u (.bin .add l3 l0),x 10 l0] [] (q [m v5,m v7,u (.bin .mul l1 l0),m v11,u (.bin .add l1 l0),m v10,u (.bin .shr l0 (.c (.t (.int .u64 (32))))),u (.bin .add l2 l0),x 2 l0] [] (q [m v0,m v1,u (.bin .mul l1 l0),x 3 l0] [] .ret)))))))))))),res:=[(2,none),(3,none)]}
def ig:Fn:= { av:=3,vars:=[0,1,2,3,6],body:=(q [w 3 (.bx v0 2),x 4 (.b false)] [] (q [m v1,f 0 v3,g l0,u (.bin .leq l2 l0),m l0,y 0 true (.fa v3 0),i 1 true l0,y 2 true (.fa v3 1),i 3 true l0,y 4 true (.bin .leq l2 l0),u (.pk l5 l0 (.b false)),m l0,y 0 true (.fa v3 1),i 1 true l0,e 2 true v2,y 3 true (.bin .leq l1 l0),u (.pk l4 l0 (.b false)),x 4 l0] [] .ret)),res:=[(4,none)]}
end Go.Ev.K
namespace Go.Ev
class mM [Lib]:Prop where
 ru:Lib.fs N.dg=some K.dg
 xt:Lib.fs N.kO=some K.kO
 gN:Lib.fs N.bj=some K.bj
 uc:Lib.fs N.fY=some K.fY
 vA:Lib.fs N.ig=some K.ig
namespace K
variable [Lib] [mM]
theorem ru:Lib.fs N.dg=some K.dg:=mM.ru
theorem xt:Lib.fs N.kO=some K.kO:=mM.xt
theorem gN:Lib.fs N.bj=some K.bj:=mM.gN
theorem uc:Lib.fs N.fY=some K.fY:=mM.uc
theorem vA:Lib.fs N.ig=some K.ig:=mM.vA
end K
end Go.Ev
namespace Go.Ev
open Go
variable [Lib] [dM] [dh] [lz] [mM]
section
variable (H : ao) (sz : Nat)
def Zy(id ep n lo hi:Nat)(ys:List D):Option Obj→Option (D×ao)
 | some (.arr sz' pin ep' es)=>if ep=ep'∧n=es.length then aad H id ep (sz',pin,es) lo hi ys sz else none
 | _=>none
def cpD(x:D)(ys:List D):Option (D×ao):=if cB sz ys=true then(match x with
 | .ref id ep n=>Zy H sz id ep n 0 n ys H[id]?
 | .sub id ep n lo hi=>Zy H sz id ep n lo hi ys H[id]?
 | _=>none)else none
def alX(x y:Option D):Option (D×ao):=x.bind fun a=>y.bind fun b=>Jh H a b sz
@[go_sem] theorem aqA (call : bf) (get : X → Option D) (x y : X) : evO call get H (.cp x y sz) = alX H sz (get x) (get y) := (rfl)
theorem Qr(x y:D)(ys:List D)(h:elems H y=some ys):Jh H x y sz=cpD H sz x ys:=by
 unfold Jh cpD
 rw[h,aLq]
 split
 · rename_i hh
   cases x with
   | ref id ep n=>
     simp only[jU,Zy]
     cases H[id]? with
     | none=>rfl
     | some o=>
       cases o with
       | box cs=>rfl
       | arr sz' pin ep' es=>
         simp only
         by_cases c:ep=ep'∧n=es.length
         · rw[if_pos c,if_pos c];rfl
         · rw[if_neg c,if_neg c];rfl
   | sub id ep n lo hi=>
     simp only[jU,Zy]
     cases H[id]? with
     | none=>rfl
     | some o=>
       cases o with
       | box cs=>rfl
       | arr sz' pin ep' es=>
         simp only
         by_cases c:ep=ep'∧n=es.length
         · rw[if_pos c,if_pos c];rfl
         · rw[if_neg c,if_neg c];rfl
   | _=>rfl
 · rfl
@[go_sem] theorem apP (x : D) (ts : List T) : alX H sz (some x) (some (.t (.sl ts))) = cpD H sz x (ts.map .t) := Qr H sz x (.t (.sl ts)) (ts.map .t) rfl
def cpE(x:D)(ep n lo hi:Nat):Option Obj→Option (D×ao)
 | some (.arr _ _ ep' es)=>if ep=ep'∧n=es.length then cpD H sz x ((es.drop lo).take (hi-lo))else none
 | _=>none
@[go_sem] theorem aoC (x : D) (n lo hi sz' : Nat) (pin : Bool) (ep : Nat) (es : List D) : cpE H sz x ep n lo hi (some (.arr sz' pin ep es)) = if n = es.length then cpD H sz x ((es.drop lo).take (hi - lo)) else none := by simp [cpE]
@[go_sem] theorem alY (x : D) (id ep n lo hi : Nat) : alX H sz (some x) (some (.sub id ep n lo hi)) = cpE H sz x ep n lo hi H[id]? := by
 unfold alX
 simp only[aLq]
 cases h:H[id]? with
 | none=>simp[Jh,elems,jU,h,cpE]
 | some o=>
   cases o with
   | box cs=>simp[Jh,elems,jU,h,cpE]
   | arr sz' pin ep' es=>
     by_cases c:ep=ep'∧n=es.length
     · rw[Qr H sz x _ ((es.drop lo).take (hi-lo)) (by simp[elems,jU,h,c])]
       simp only[cpE,if_pos c]
     · simp[Jh,elems,jU,h,cpE,c]
@[go_sem] theorem aoD (id ep n : Nat) (ys : List D) : cpD H sz (.ref id ep n) ys = if cB sz ys = true then Zy H sz id ep n 0 n ys H[id]? else none := (rfl)
@[go_sem] theorem aoE (id ep n lo hi : Nat) (ys : List D) : cpD H sz (.sub id ep n lo hi) ys = if cB sz ys = true then Zy H sz id ep n lo hi ys H[id]? else none := (rfl)
@[go_sem] theorem alZ (id n lo hi : Nat) (ys : List D) (ep : Nat) (es : List D) : Zy H sz id ep n lo hi ys (some (.arr sz false ep es)) =
 if n=es.length then(if min ys.length (hi-lo)=0 then some (.t (.int .i64 0),H)else some (.t (.int .i64 ((min ys.length (hi-lo):Nat):Int)),H.set id (.arr sz false ep (es.take lo++ys.take (min ys.length (hi-lo))++es.drop (lo+min ys.length (hi-lo))))))else none:=by
 simp[Zy,aad]
end
end Go.Ev
namespace Go.Ev
open Go
variable [Lib] [dM] [dh] [lz] [mM]
theorem Ms(a b lo hi:Int)(h1:lo≤a)(h2:a≤b)(h3:b≤hi):aW 0 N.ig [.t (.agg [tI a,tI b]),I lo,I hi] []=some (B true,[]):=by
 refine aA K.vA rfl ?_
 simp(disch:=omega)only[go_sem,K.ig,↓reduceIte,reduceAdd,reduceSub]
theorem Mt{m:bh}(h:m.ok):aW 0 N.kO [.t m.e] []=some (I 0,[]):=by
 refine aA K.xt rfl ?_
 have np:=h.np
 have nr:=h.nr
 have hs:=h.hs
 have rs:=h.rs
 obtain⟨ae,roads⟩:=m
 simp only at np nr hs rs
 have l1:∀z0 z2 z3 z4 z5 z9 z10 z11:D,exS aW K.Be ⟨[z0,.bp 0 0,z2,z3,z4,z5,.t (.sl (ae.map Place.e)),I ae.length,I 0,z9,z10,z11],[.box (af ⟨ae,roads⟩)]⟩=
  some (.exit 0,⟨[.und,.bp 0 0,.und,.und,.und,.und,.t (.sl (ae.map Place.e)),I ae.length,I ae.length,.und,.und,.und],[.box (af ⟨ae,roads⟩)]⟩):=by
  intro z0 z2 z3 z4 z5 z9 z10 z11
  refine dm (fun j=>⟨[.und,.bp 0 0,.und,.und,.und,.und,.t (.sl (ae.map Place.e)),I ae.length,I j,.und,.und,.und],[.box (af ⟨ae,roads⟩)]⟩) ae.length rfl ?_ ?_ (by simp)
  · intro j hj
    have g:(ae.map Place.e)[j]?=some (nth ae j).e:=iE _ hj
    have q:=hs _ (ai hj)
    generalize nth ae j=x at*
    obtain⟨hh,sf⟩:=x
    simp only[af]at*
    simp(disch:=omega)only[go_sem,K.s6,↓reduceIte,g,reduceAdd,reduceSub]
  · simp(disch:=omega)only[go_sem,K.s6,↓reduceIte,af,reduceAdd,reduceSub]
 have l2:∀z0 z1 z2 z3 z5 z6 z7 z8:D,exS aW K.Bf ⟨[z0,z1,z2,z3,I ae.length,z5,z6,z7,z8,.t (.sl (roads.map Road.e)),I roads.length,I 0],[.box (af ⟨ae,roads⟩)]⟩=
  some (.exit 2,⟨[.und,.und,.und,.und,I ae.length,.und,.und,.und,.und,.t (.sl (roads.map Road.e)),I roads.length,I roads.length],[.box (af ⟨ae,roads⟩)]⟩):=by
  intro z0 z1 z2 z3 z5 z6 z7 z8
  refine dm (fun j=>⟨[.und,.und,.und,.und,I ae.length,.und,.und,.und,.und,.t (.sl (roads.map Road.e)),I roads.length,I j],[.box (af ⟨ae,roads⟩)]⟩) roads.length rfl ?_ ?_ (by simp)
  · intro j hj
    have g:(roads.map Road.e)[j]?=some (nth roads j).e:=iE _ hj
    have q:=rs _ (ai hj)
    generalize nth roads j=x at*
    have f0:=q.f0;have f1:=q.f1;have t0:=q.t0;have t1:=q.t1;have ne:=q.ne;have l0:=q.l0;have l1:=q.l1;have a0:=q.a0;have a1:=q.a1
    have r0:=q.r0;have r1:=q.r1;have r2:=q.r2;have i0:=q.i0;have i1:=q.i1;have i2:=q.i2
    clear q
    obtain⟨frm,to,len,area,walk,closed,rl,rh,ll,lh⟩:=x
    simp only[af]at*
    have s1:=Ms rl rh 1 262144 r0 r1 r2
    have s2:=Ms ll lh (-2199023255552) 2199023255552 i0 i1 i2
    simp(disch:=omega)only[go_sem,K.s7,↓reduceIte,g,s1,s2,reduceAdd,reduceSub]
  · simp(disch:=omega)only[go_sem,K.s7,↓reduceIte,af,reduceAdd,reduceSub]
 simp only[af]at l1 l2
 simp(disch:=omega)only[go_sem,K.kO,↓reduceIte,l1,l2,reduceAdd,reduceSub]
theorem pX{m:bh}(h:m.ok):aW 0 N.cM [.t m.e] []=some (B true,[]):=by
 refine aA K.xp rfl ?_
 have c:=Mt h
 obtain⟨ae,roads⟩:=m
 simp(disch:=omega)only[go_sem,K.cM,↓reduceIte,c,reduceAdd,reduceSub]
end Go.Ev
namespace Go.Ev.N
def RI:Nat:=178
def RJ:Nat:=179
def SC:Nat:=180
def RK:Nat:=181
def SD:Nat:=182
def UJ:Nat:=183
def SE:Nat:=184
def acN:Nat:=185
def j7:Nat:=186
def acO:Nat:=187
def UK:Nat:=188
def lO:Nat:=189
def ga:Nat:=190
def Zz:Nat:=191
def afO:Nat:=192
def XN:Nat:=193
def j8:Nat:=194
def acP:Nat:=195
def afP:Nat:=196
def ajc:Nat:=197
def gO:Nat:=198
def cI:Nat:=199
def fq:Nat:=200
def dH:Nat:=201
def bw:Nat:=202
def ZA:Nat:=203
def ah:Nat:=204
def cV:Nat:=205
def acQ:Nat:=206
def ZB:Nat:=207
def dW:Nat:=208
def bK:Nat:=209
def cy:Nat:=210
def m6:Nat:=211
def m7:Nat:=212
def gg:Nat:=213
def kP:Nat:=214
end Go.Ev.N
namespace Go.Ev.K
open Go.Ev
def j7:Fn:= { av:=3,vars:=[0,1,2,3,6,7,8],body:=(q [w 3 (.bx v0 2),w 4 (.al [z0,.nil] []),x 5 (.i 0)] [] (.seq (.blk 0 (.ite [h 2 v3,u (.ca N.cM 0 [] [.l 0]),u (.un .not l0),m l0] [] 0 (q [u (.bd [z0,.nil] []),u (.st v4 l0 2 []),x 5 (.i 6)] [] .ret) (.ite [m v1,f 0 v3,g l0,u (.ln l0),u (.bin .sub l0 (.i 1)),u (.ca N.aU 0 [] [.l 4,.i 0,.l 0]),u (.un .not l0),m l0] [] 0 (q [u (.bd [z0,.nil] []),u (.st v4 l0 2 []),x 5 (.i 3)] [] .ret) (.ite [m v2,u (.ca N.aU 0 [] [.l 0,.i 0,.i 2147483648]),u (.un .not l0),m l0] [] 0 (q [u (.bd [z0,.nil] []),u (.st v4 l0 2 []),x 5 (.i 8)] [] .ret) .skip)))) (q [h 2 v3,u (.ca N.gO 1 [] [.l 0]),x 6 l0] [] (q [m v6,m v1,m v2,a 1 l2 l1,u (.st l0 l1 1 [])] [] (q [m v2,h 2 v3,m v6,m v2,u (.ca N.cI 0 [] [.l 2,.l 1,.l 0,.c (.fn N.fq [])]),u (.bd [z0,.nil] [(0,1,.l 4),(1,1,.l 0)]),u (.st v4 l0 2 []),x 5 (.i 0)] [] .ret))))),res:=[(4,some (2,true)),(5,none)]}
def lO:Fn:= { av:=2,vars:=[0,1,2,3,4,5,6,7,8,24,25,26],body:= .fail,res:=[(4,some (2,true)),(5,none)]}
def ga:Fn:= { av:=2,vars:=[0,1,2,3,4],body:=(q [w 2 (.bx v0 2),w 3 (.bx v1 2),x 4 (.b false)] [] (q [h 2 v2,u (.ca N.cM 0 [] [.l 0]),m l0,y 0 true (.ld v2 2 true),y 1 true (.ld v3 2 true),y 2 true (.ca N.dH 0 [] [.l 1,.l 0]),u (.pk l3 l0 (.b false)),m l0,y 0 true (.ld v2 2 true),y 1 true (.fa v3 1),i 2 true l0,y 3 true (.fa v3 0),i 4 true l0,y 5 true (.ca N.cI 0 [] [.l 4,.l 2,.l 0,.c (.fn N.fq [])]),y 6 true (.fa v3 1),i 7 true l0,y 8 true (.ca N.bw 0 [] [.l 2,.l 0]),u (.pk l9 l0 (.b false)),x 4 l0] [(15,6)] .ret)),res:=[(4,none)]}
end Go.Ev.K
namespace Go.Ev
class qI [Lib]:Prop where
 y9:Lib.fs N.j7=some K.j7
 Bg:Lib.fs N.lO=some K.lO
 s8:Lib.fs N.ga=some K.ga
namespace K
variable [Lib] [qI]
theorem y9:Lib.fs N.j7=some K.j7:=qI.y9
theorem Bg:Lib.fs N.lO=some K.lO:=qI.Bg
theorem s8:Lib.fs N.ga=some K.ga:=qI.s8
end K
end Go.Ev
namespace Go.Ev.K
open Go.Ev
def j8:Fn:= { av:=3,vars:=[0,1,2,3,4,6,7],body:=(q [w 3 (.bx v0 2),w 4 (.bx v1 2),w 5 (.al [z0,.nil] []),x 6 (.i 0)] [] (.seq (.ite [h 2 v3,u (.ca N.cM 0 [] [.l 0]),u (.un .not l0),m l0,y 0 false (.ld v3 2 true),y 1 false (.ld v4 2 true),y 2 false (.ca N.dH 0 [] [.l 1,.l 0]),y 3 false (.un .not l0),u (.pk l4 (.b true) l0)] [] 0 (q [h 2 v4,u (.st v5 l0 2 []),x 6 (.i 6)] [] .ret) .skip) (.seq (.ite [m v2,f 0 v4,g l0,u (.bin .lss l2 l0),m l0,e 0 false v2,y 1 false (.bin .gtr l0 (.i 2147483648)),u (.pk l2 (.b true) l0)] [] 0 (q [h 2 v4,u (.st v5 l0 2 []),x 6 (.i 8)] [] .ret) .skip) (q [m v2,h 2 v3,f 1 v4,g l0,m v2,u (.ca N.cI 0 [] [.l 3,.l 1,.l 0,.c (.fn N.fq [])]),u (.bd [z0,.nil] [(0,1,.l 5),(1,1,.l 0)]),u (.st v5 l0 2 []),x 6 (.i 0)] [] .ret)))),res:=[(5,some (2,true)),(6,none)]}
def gO:Fn:= { av:=1,vars:=[0,1,2],body:=(q [w 1 (.bx v0 2),w 2 (.mv (.c (.nil)))] [] (q [u (.bs [.i 1099511627776] 1),f 0 v1,g l0,u (.ln l0),u (.ca N.bQ 1 [] [.l 3,.l 0]),x 2 l0] [] .ret)),res:=[(2,none)]}
def dS:C:= (.seq (.ite [g v9] [] 0 .skip (.exit 0)) (.seq (.blk 1 (q [u (.st v9 (.b false) 1 [])] [] (.reg [h 2 v4,g v8,u (.mf N.bK [.v 5,.v 8,.v 6,.v 9]),u (.ca N.dW 0 [1] [.l 2,.l 1,.l 0])] []))) (q [w 10 (.ld v9 1 false)] [] (.reg [w 9 (.al [z1] []),u (.st l0 v10 1 [])] []))))
def pE:C:= .loop false [0,1,2,3,7,10] K.dS
def cI:Fn:= { av:=4,vars:=[0,1,2,3,4,6,7,8,9,10,18],body:=(q [w 4 (.bx v0 2),w 5 (.bx v2 1),w 6 (.bx v3 1),w 7 (.mv (.c (.nil)))] [] (q [m v1,u (.ca N.ah 1 [] [.l 0]),w 8 (.al [.nil] []),u (.st l0 l1 1 [])] [] (.seq (q [w 9 (.al [z1] []),u (.st l0 (.b true) 1 [])] [] (.blk 0 K.pE)) (q [g v8,x 7 l0] [] .ret)))),res:=[(7,none)]}
def fq:Fn:= { av:=1,vars:=[2],body:=(q [x 0 (.b false)] [] (q [x 0 (.b true)] [] .ret)),res:=[(0,none)]}
def dH:Fn:= { av:=2,vars:=[0,1,2,3,4],body:=(q [w 2 (.bx v0 2),w 3 (.bx v1 2),x 4 (.b false)] [] (q [f 1 v3,g l0,u (.ln l0),f 0 v2,g l0,u (.ln l0),u (.bin .eql l3 l0),m l0,y 0 true (.fa v3 0),i 1 true l0,y 2 true (.ca N.aU 0 [] [.l 0,.i 0,.i 2147483648]),u (.pk l3 l0 (.b false)),m l0,y 0 true (.fa v3 1),i 1 true l0,y 2 true (.ca N.aq 0 [] [.l 0,.c (.fn N.cy [])]),y 3 true (.un .not l0),u (.pk l4 l0 (.b false)),x 4 l0] [] .ret)),res:=[(4,none)]}
def gx:C:= (.its [u (.bin .lss v5 v4)] [] 0 .skip (.exit 0) (.seq (.blk 1 (q [m v5,x 3 l0] [] (.ite [m v0,m v3,a 1 l1 l0,g l0,m v1,m v3,a 1 l1 l0,g l0,u (.bin .neq l4 l0)] [] 0 (q [x 2 (.b false)] [] .ret) .skip))) (.reg [u (.bin .add v5 (.i 1)),x 5 l0] [])))
def oV:C:= .loop true [2,3] K.gx
def bw:Fn:= { av:=2,vars:=[0,1,4,5,12,13],body:=(q [x 2 (.b false)] [] (.seq (.ite [m v0,u (.ln l0),m v1,u (.ln l0),u (.bin .neq l2 l0)] [] 0 (q [x 2 (.b false)] [] .ret) .skip) (.seq (q [m v0,w 4 (.ln l0),x 5 (.i 0)] [] (.blk 0 K.oV)) (q [x 2 (.b true)] [] .ret)))),res:=[(2,none)]}
def ah:Fn:= { av:=1,vars:=[0,2],body:=(q [w 1 (.mv (.c (.nil)))] [] (.itk [m v0,u (.eqk (.sl) false l0 (.c (.nil)))] [] 0 (q [w 1 (.nw 1)] [] .ret) .skip (q [u (.bsr [] 1),m v0,u (.app l1 l0 false 1),x 1 l0] [] .ret))),res:=[(1,none)]}
def cV:Fn:= { av:=2,vars:=[0,1,3],body:=(q [x 2 (.b false)] [] (q [g v1,m v0,u (.ca N.aO 0 [] [.l 1,.l 0]),x 2 l0] [] .ret)),res:=[(2,none)]}
def fK:C:= (.its [u (.bin .lss v14 (.i 2))] [] 0 .skip (.exit 2) (.seq (.blk 3 (q [u (.ix v13 v14 2 1 false),x 6 l0] [] (q [f 0 v5,g l0,f 1 v5,g l0,x 7 l2,x 8 l1] [] (.seq (.ite [m v6] [] 0 (.reg [m v8,m v7,x 7 l1,x 8 l1] []) .skip) (q [h 2 v3,m v4,m v6,u (.ca N.m6 0 [] [.l 2,.l 1,.l 0]),x 9 l0] [] (.ite [m v9,u (.bin .geq l0 (.i 0)),m l0,e 0 true v1,e 1 true v7,y 2 true (.ia l1 l0 1),i 3 true l0,y 4 true (.bin .lss l0 (.i 1099511627776)),u (.pk l5 l0 (.b false))] [] 0 (.reg [m v2,m v7,m v8,m v1,m v7,a 1 l1 l0,g l0,m v9,u (.bin .add l1 l0),u (.cw l8 0 [] [.l 7,.l 6,.l 0])] []) .skip)))))) (.reg [u (.bin .add v14 (.i 1)),x 14 l0] [])))
def si:C:= .loop true [0,6,7,8,9] K.fK
def kj:C:= (.its [u (.bin .lss v12 v11)] [] 0 .skip (.exit 0) (.seq (.blk 1 (q [m v12,a 10 v10 v12,h 10 l0,w 5 (.al [z0,z0,z0,z0,z1,z1,z0,z0,z0,z0] []),x 4 l3,u (.st l1 l2 10 [])] [] (q [w 13 (.bd [z1,z1] [(0,1,.b false),(1,1,.b true)]),x 14 (.i 0)] [] (.blk 2 K.si)))) (.reg [u (.bin .add v12 (.i 1)),x 12 l0] [])))
def sj:C:= .loop true [0,4,5,6,7,8,9,13,14] K.kj
def dW:Fn:= { av:=3,vars:=[0,1,2,3,6,7,9,10,11,12,14,15,16,21,22],body:=(q [w 3 (.bx v0 2)] [] (q [f 1 v3,w 10 (.ld l0 1 false),w 11 (.ln l0),x 12 (.i 0)] [] (.blk 0 K.sj))),res:=[]}
def bK:Fn:= { av:=7,vars:=[1,2,3,4,5,6],body:=(q [m v1,g v2,u (.mx [.l 1,.l 0]),x 1 l0] [] (.ite [m v1,u (.bin .leq l0 (.i 2147483648)),m l0,e 0 true v1,i 1 true v3,e 2 true v0,y 3 true (.ia l1 l0 1),i 4 true l0,y 5 true (.bin .lss l4 l0),u (.pk l6 l0 (.b false)),m l0,i 0 true v4,e 1 true v0,y 2 true (.cw l1 0 [] [.l 0]),u (.pk l3 l0 (.b false))] [] 0 (.reg [g v3,m v0,m v1,a 1 l2 l1,u (.st l0 l1 1 []),u (.st v5 (.b true) 1 [])] []) .skip)),res:=[]}
def cy:Fn:= { av:=1,vars:=[0,2],body:=(q [x 1 (.b false)] [] (q [m v0,u (.bin .neq l0 (.i 1099511627776)),m l0,e 0 true v0,y 1 true (.ca N.aU 0 [] [.l 0,.i 0,.i 2147483648]),y 2 true (.un .not l0),u (.pk l3 l0 (.b false)),x 1 l0] [] .ret)),res:=[(1,none)]}
def m6:Fn:= { av:=3,vars:=[0,1,2,3,6],body:=(q [w 3 (.bx v0 2),x 4 (.i 0)] [] (.seq (.ite [h 2 v3,u (.ca N.cM 0 [] [.l 0]),u (.un .not l0),m l0,e 0 false v1,y 1 false (.bin .lss l0 (.i 0)),u (.pk l2 (.b true) l0),m l0,e 0 false v1,y 1 false (.fa v3 1),i 2 false l0,y 3 false (.ln l0),y 4 false (.bin .geq l3 l0),u (.pk l5 (.b true) l0)] [] 0 (q [w 4 (.mv (.i (-1)))] [] .ret) .skip) (q [h 2 v3,m v1,m v2,u (.ca N.m7 0 [] [.l 2,.l 1,.l 0]),x 4 l0] [] .ret))),res:=[(4,none)]}
def m7:Fn:= { av:=3,vars:=[0,1,2,3,6],body:=(q [w 3 (.bx v0 2),x 4 (.i 0)] [] (q [h 2 v3,m v1,m v2,u (.ca N.kP 0 [] []),u (.ca N.gg 0 [] [.l 3,.l 2,.l 1,.l 0]),x 4 l0] [(0,4)] .ret)),res:=[(4,none)]}
def gg:Fn:= { av:=4,vars:=[0,1,2,3,4,7,8,9,10,11],body:=(q [w 4 (.bx v0 2),w 5 (.bx v3 3),x 6 (.i 0)] [] (q [f 1 v4,g l0,m v1,a 10 l1 l0,h 10 l0,w 7 (.al [z0,z0,z0,z0,z1,z1,z0,z0,z0,z0] []),u (.st l0 l1 10 [])] [] (.seq (.ite [f 5 v7,g l0,m l0,y 0 false (.fa v7 4),i 1 false l0,y 2 false (.un .not l0),u (.pk l3 (.b true) l0)] [] 0 (q [w 6 (.mv (.i (-1)))] [] .ret) .skip) (q [f 0 v4,g l0,f 1 v7,g l0,a 2 l2 l0,f 0 l0,g l0,f 0 v4,g l0,f 0 v7,g l0,a 2 l2 l0,f 0 l0,g l0,u (.bin .sub l7 l0),x 8 l0] [] (.seq (.ite [m v2] [] 0 (.reg [m v8,u (.un .neg l0),x 8 l0] []) .skip) (q [f 2 v5,g l0,x 9 l0] [] (.seq (.blk 0 (.ite [m v8,u (.bin .mul (.i 10) l0),f 2 v7,g l0,u (.bin .gtr l2 l0),m l0] [] 0 (.reg [f 0 v5,g l0,x 9 l0] []) (.ite [m v8,u (.bin .mul (.i (-10)) l0),f 2 v7,g l0,u (.bin .gtr l2 l0),m l0] [] 0 (.reg [f 1 v5,g l0,x 9 l0] []) .skip))) (q [f 2 v7,g l0,u (.bin .mul (.i 10) l0),m v9,u (.bin .add l1 l0),u (.bin .sub l0 (.i 1)),m v9,u (.bin .quo l1 l0),x 6 l0] [] .ret)))))))),res:=[(6,none)]}
def kP:Fn:= { av:=0,vars:=[0],body:=(q [w 0 (.al [z0,z0,z0] [])] [] (q [u (.bd [z0,z0,z0] [(0,1,.i 6),(1,1,.i 9),(2,1,.i 12)]),u (.st v0 l0 3 [])] [] .ret)),res:=[(0,some (3,true))]}
end Go.Ev.K
namespace Go.Ev
class od [Lib]:Prop where
 za:Lib.fs N.j8=some K.j8
 vM:Lib.fs N.gO=some K.gO
 nu:Lib.fs N.cI=some K.cI
 xu:Lib.fs N.fq=some K.fq
 rv:Lib.fs N.dH=some K.dH
 kV:Lib.fs N.bw=some K.bw
 kW:Lib.fs N.ah=some K.ah
 pF:Lib.fs N.cV=some K.cV
 pG:Lib.fs N.dW=some K.dW
 oW:Lib.fs N.bK=some K.bK
 pH:Lib.fs N.cy=some K.cy
 zT:Lib.fs N.m6=some K.m6
 zU:Lib.fs N.m7=some K.m7
 zV:Lib.fs N.gg=some K.gg
 xv:Lib.fs N.kP=some K.kP
namespace K
variable [Lib] [od]
theorem za:Lib.fs N.j8=some K.j8:=od.za
theorem vM:Lib.fs N.gO=some K.gO:=od.vM
theorem nu:Lib.fs N.cI=some K.cI:=od.nu
theorem xu:Lib.fs N.fq=some K.fq:=od.xu
theorem rv:Lib.fs N.dH=some K.dH:=od.rv
theorem kV:Lib.fs N.bw=some K.bw:=od.kV
theorem kW:Lib.fs N.ah=some K.ah:=od.kW
theorem pF:Lib.fs N.cV=some K.cV:=od.pF
theorem pG:Lib.fs N.dW=some K.dW:=od.pG
theorem oW:Lib.fs N.bK=some K.bK:=od.oW
theorem pH:Lib.fs N.cy=some K.cy:=od.pH
theorem zT:Lib.fs N.m6=some K.m6:=od.zT
theorem zU:Lib.fs N.m7=some K.m7:=od.zU
theorem zV:Lib.fs N.gg=some K.gg:=od.zV
theorem xv:Lib.fs N.kP=some K.kP:=od.xv
end K
end Go.Ev
namespace Go.Ev
open Go
variable [Lib] [dM] [dh] [lz] [mM] [qI] [od]
abbrev mW(l:List Int):Obj:= .arr 1 false 0 ((l.map (T.int .i64)).map .t)
theorem rz(l:List Int)(hl:l.length≤1000000):aW 1 N.ah [.t (tL l)] []=some (.ref 0 0 l.length,[mW l]):=by
 refine aA K.kW rfl ?_
 by_cases h0:l=[]
 · subst h0
   simp only[tL,List.map_nil]
   simp(disch:=omega)only[go_sem,K.ah,↓reduceIte,List.map_nil,List.length_nil,reduceAdd,reduceSub]
   rfl
 · have e:=fun H=>JB H (l.map (T.int .i64)) (by simpa using h0)
   simp(disch:=omega)only[go_sem,K.ah,↓reduceIte,e,reduceAdd,reduceSub]
theorem Qs(a b:List Int)(hl:a.length≤4294967296)(hl2:b.length≤4294967296):aW 0 N.bw [.t (tL a),.t (tL b)] []=some (B (decide (a=b)),[]):=by
 refine aA K.kV rfl ?_
 by_cases hlen:a.length=b.length
 · have loop:∀z2 z3:D,exS aW K.oV ⟨[.t (tL a),.t (tL b),z2,z3,I a.length,I 0],[]⟩=
    some (match (List.range a.length).find? (fun j=>decide (nth a j≠nth b j))with
     | some j=>(.ret,⟨[.t (tL a),.t (tL b),B false,I j,I a.length,I j],[]⟩)
     | none=>(.exit 0,⟨[.t (tL a),.t (tL b),.und,.und,I a.length,I a.length],[]⟩)):=by
    intro z2 z3
    refine cL (fun j=>⟨[.t (tL a),.t (tL b),.und,.und,I a.length,I j],[]⟩) a.length (fun j=>decide (nth a j≠nth b j)) _ _ rfl ?_ ?_ ?_ (by simp)
    · intro j hj hp
      have hp:nth a j=nth b j:=by simpa using hp
      simp(disch:=omega)only[go_sem,K.gx,↓reduceIte,reduceAdd,reduceSub]
    · intro j hj hp
      have hp:nth a j≠nth b j:=by simpa using hp
      simp(disch:=omega)only[go_sem,K.gx,↓reduceIte,reduceAdd,reduceSub]
      simp
    · simp(disch:=omega)only[go_sem,K.gx,↓reduceIte,reduceAdd,reduceSub]
   have e:(a=b)↔(List.range a.length).find? (fun j=>decide (nth a j≠nth b j))=none:=by
    rw[List.find?_eq_none]
    constructor
    · intro h j _;simp[h]
    · intro h
      apply List.ext_getElem?
      intro j
      by_cases hj:j<a.length
      · rw[oN hj,oN (by omega)]
        have:=h j (aLu.2 hj)
        simpa using this
      · rw[aLm (by omega),aLm (by omega)]
   cases hf:(List.range a.length).find? (fun j=>decide (nth a j≠nth b j))with
   | some j=>
     rw[hf]at e loop
     have e:¬a=b:=fun h=>by have:=e.1 h;cases this
     simp(disch:=omega)only[go_sem,K.bw,↓reduceIte,loop,e,decide_false,reduceAdd,reduceSub]
   | none=>
     rw[hf]at e loop
     have e:a=b:=e.2 rfl
     simp(disch:=omega)only[go_sem,K.bw,↓reduceIte,loop,decide_eq_true e,reduceAdd,reduceSub]
 · have hne:a≠b:=fun h=>hlen (by rw[h])
   simp(disch:=omega)only[go_sem,K.bw,↓reduceIte,hne,decide_false,reduceAdd,reduceSub]
theorem XO:aW 0 N.kP [] []=some (.t (.agg [tI 6,tI 9,tI 12]),[]):=by
 refine aA K.xv rfl ?_
 simp(disch:=omega)only[go_sem,K.kP,↓reduceIte,reduceAdd,reduceSub]
theorem acR{m:bh}(h:m.ok)(k:Nat)(hk:k<m.roads.length)(back:Bool)(up down level:Int)(hu:1≤up)(hu2:up≤100)(hd:1≤down)(hd2:down≤100)(hl:1≤level)(hl2:level≤100):
 aW 0 N.gg [.t m.e,I k,B back,.t (.agg [tI up,tI down,tI level])] []=some (I (jV m k back up down level),[]):=by
 refine aA K.zV rfl ?_
 have nr:=h.nr
 have np:=h.np
 obtain⟨f0,f1,t0,t1, -,l0,l1, -, -, -, -, -, -, -, -⟩:=h.rs _ (ai hk)
 have b1:=h.hs _ (ai (l:=m.ae) (j:=(nth m.roads k).frm.toNat) (by omega))
 have b2:=h.hs _ (ai (l:=m.ae) (j:=(nth m.roads k).to.toNat) (by omega))
 have g:(m.roads.map Road.e)[k]?=some (nth m.roads k).e:=iE _ hk
 have p1:(m.ae.map Place.e)[(nth m.roads k).frm.toNat]?=some (nth m.ae (nth m.roads k).frm.toNat).e:=iE _ (by omega)
 have p2:(m.ae.map Place.e)[(nth m.roads k).to.toNat]?=some (nth m.ae (nth m.roads k).to.toNat).e:=iE _ (by omega)
 have key:∀h1 h2:Int, -10000≤h1→h1≤10000→ -10000≤h2→h2≤10000→IntKind.i64.wrap (h1-h2)=h1-h2∧IntKind.i64.wrap (-(h1-h2))=h2-h1:=fun h1 h2 _ _ _ _=>⟨Cg (by omega) (by omega),by rw[Cg (by omega) (by omega)];omega⟩
 unfold jV
 generalize nth m.roads k=x at*
 obtain⟨frm,to,len,area,walk,closed,rl,rh,ll,lh⟩:=x
 simp only at f0 f1 t0 t1 l0 l1 b1 b2 p1 p2 ⊢
 cases closed with
 | true=>
   obtain⟨ae,roads⟩:=m
   simp(disch:=omega)only[go_sem,K.gg,↓reduceIte,g,reduceAdd,reduceSub]
 | false=>
   cases walk with
   | false=>
     obtain⟨ae,roads⟩:=m
     simp(disch:=omega)only[go_sem,K.gg,↓reduceIte,g,reduceAdd,reduceSub]
   | true=>
     have g1:=sR (a:=10*len+up-1) (b:=up) (by omega) hu
     have g2:=sR (a:=10*len+down-1) (b:=down) (by omega) hd
     have g3:=sR (a:=10*len+level-1) (b:=level) (by omega) hl
     cases back with
     | true=>
       simp only[↓reduceIte]
       generalize nth m.ae frm.toNat=q1 at*
       generalize nth m.ae to.toNat=q2 at*
       obtain⟨h1,s1⟩:=q1
       obtain⟨h2,s2⟩:=q2
       obtain⟨ae,roads⟩:=m
       simp only at*
       obtain⟨w2,w3⟩:=key h2 h1 (by omega) (by omega) (by omega) (by omega)
       by_cases c2:len< -10*(h1-h2)
       · simp(disch:=omega)only[go_sem,K.gg,↓reduceIte,g,p1,p2,w2,w3,gt_iff_lt,Int.zero_sub,reduceAdd,reduceSub]
       · by_cases c1:len<10*(h1-h2)
         · simp(disch:=omega)only[go_sem,K.gg,↓reduceIte,g,p1,p2,w2,w3,gt_iff_lt,Int.zero_sub,reduceAdd,reduceSub]
         · simp(disch:=omega)only[go_sem,K.gg,↓reduceIte,g,p1,p2,w2,w3,gt_iff_lt,Int.zero_sub,reduceAdd,reduceSub]
     | false=>
       simp only[aLt,↓reduceIte]
       generalize nth m.ae frm.toNat=q1 at*
       generalize nth m.ae to.toNat=q2 at*
       obtain⟨h1,s1⟩:=q1
       obtain⟨h2,s2⟩:=q2
       obtain⟨ae,roads⟩:=m
       simp only at*
       obtain⟨w2,w3⟩:=key h2 h1 (by omega) (by omega) (by omega) (by omega)
       by_cases c2:len< -10*(h2-h1)
       · simp(disch:=omega)only[go_sem,K.gg,↓reduceIte,g,p1,p2,w2,gt_iff_lt,reduceAdd,reduceSub]
       · by_cases c1:len<10*(h2-h1)
         · simp(disch:=omega)only[go_sem,K.gg,↓reduceIte,g,p1,p2,w2,gt_iff_lt,reduceAdd,reduceSub]
         · simp(disch:=omega)only[go_sem,K.gg,↓reduceIte,g,p1,p2,w2,gt_iff_lt,reduceAdd,reduceSub]
theorem XP{m:bh}(h:m.ok)(k:Nat)(hk:k<m.roads.length)(back:Bool):aW 0 N.m6 [.t m.e,I k,B back] []=some (I (jV m k back 6 9 12),[]):=by
 have q:=XO
 have w:=acR h k hk back 6 9 12 (by omega) (by omega) (by omega) (by omega) (by omega) (by omega)
 have v:=pX h
 have nr:=h.nr
 have s:aW 0 N.m7 [.t m.e,I k,B back] []=some (I (jV m k back 6 9 12),[]):=by
  refine aA K.zU rfl ?_
  generalize jV m k back 6 9 12=r at*
  obtain⟨ae,roads⟩:=m
  simp(disch:=omega)only[go_sem,K.m7,↓reduceIte,q,w,reduceAdd,reduceSub]
 refine aA K.zT rfl ?_
 generalize jV m k back 6 9 12=r at*
 obtain⟨ae,roads⟩:=m
 simp only at*
 simp(disch:=omega)only[go_sem,K.m6,↓reduceIte,v,s,reduceAdd,reduceSub]
theorem acS(q:Int):aW 0 N.fq [I q] []=some (B true,[]):=by
 refine aA K.xu rfl ?_
 simp(disch:=omega)only[go_sem,K.fq,↓reduceIte,reduceAdd,reduceSub]
theorem XQ(q:Int)(l:List Int)(hl:l.length≤4294967296):aW 0 N.cV [I q,.bp 0 0] [.box [.t (tL l)]]=some (B (decide (q∈l)),[.box [.t (tL l)]]):=by
 refine aA K.pF rfl ?_
 have c:=Fu l q hl
 simp(disch:=omega)only[go_sem,K.cV,↓reduceIte,c,reduceAdd,reduceSub]
end Go.Ev
namespace Go.Ev.K
open Go.Ev
def FM:C:= (.its [u (.bin .lss v17 v16)] [] 0 .skip (.exit 2) (.seq (.blk 3 (q [m v17,x 10 l0] [] (q [h 2 v7,m v10,m v1,m v2,u (.ca N.nV 0 [] [.l 3,.l 2,.l 1,.l 0]),m l0,u (.ex l0 0),u (.ex l1 1),x 11 l1,x 12 l1] [] (.seq (.ite [m v11] [] 0 (.reg [m v8,u (.bin .add l0 (.i 1)),x 8 l0] []) .skip) (.ite [m v12] [] 0 (.reg [m v9,u (.bin .add l0 (.i 1)),x 9 l0] []) .skip))))) (.reg [u (.bin .add v17 (.i 1)),x 17 l0] [])))
def Hj:C:= .loop true [0,3,10,11,12] K.FM
def FN:C:= (.its [u (.bin .lss v15 v14)] [] 0 .skip (.exit 0) (.seq (.blk 1 (q [m v15,a 2 v13 v15,h 2 l0,w 7 (.al [.nil,.nil] []),x 6 l3,u (.st l1 l2 2 [])] [] (q [x 8 (.i 0),x 9 (.i 0)] [] (.seq (q [f 1 v7,g l0,w 16 (.ln l0),x 17 (.i 0)] [] (.blk 2 K.Hj)) (.seq (.ite [m v6,u (.bin .eql l0 (.i 0))] [] 0 (.reg [m v8,m v9,u (.bd [z0,z0] [(0,1,.l 1),(1,1,.l 0)]),u (.st v5 l0 2 [])] []) .skip) (.reg [f 0 v5,g l0,m v8,u (.mn [.l 1,.l 0]),f 1 v5,g l0,m v9,u (.mx [.l 1,.l 0]),u (.bd [z0,z0] [(0,1,.l 4),(1,1,.l 0)]),u (.st v5 l0 2 [])] [])))))) (.reg [u (.bin .add v15 (.i 1)),x 15 l0] [])))
def Hk:C:= .loop true [0,3,6,7,8,9,10,11,12,16,17] K.FN
def lL:Fn:= { av:=3,vars:=[0,1,2,3,6,7,8,9,10,11,12,13,14,16,17,18,25,26],body:=(q [w 3 (.bx v0 1),w 4 (.al [z0,z0] [])] [] (q [w 5 (.al [z0,z0] [])] [] (.seq (q [f 0 v3,w 13 (.ld l0 1 false),w 14 (.ln l0),x 15 (.i 0)] [] (.blk 0 K.Hk)) (q [h 2 v5,u (.st v4 l0 2 [])] [] .ret)))),res:=[(4,some (2,true))]}
def nV:Fn:= { av:=4,vars:=[0,1,2,3,4,6,8,9,10,11],body:=(q [w 4 (.bx v0 2),w 5 (.bx v2 1),x 6 (.b false),x 7 (.b false)] [] (.seq (.ite [m v1,f 1 v4,g l0,u (.ln l0),u (.bin .geq l3 l0)] [] 0 (q [x 6 (.b false),x 7 (.b false)] [] .ret) .skip) (q [f 1 v4,g l0,m v1,a 2 l1 l0,h 2 l0,m v3,u (.ca N.eZ 0 [] [.l 1,.l 0]),x 8 l0] [] (q [u (.mf N.j4 [.v 5]),w 9 (.al [.und] []),u (.st l0 l1 1 [])] [] (q [m v8,g v9,u (.ca N.aq 0 [] [.l 1,.l 0]),x 7 l0] [] (q [m v7,m l0,e 0 true v8,y 1 true (.mf N.j5 [.v 9]),y 2 true (.ca N.aq 0 [] [.l 1,.l 0]),y 3 true (.un .not l0),u (.pk l4 l0 (.b false)),m v7,x 6 l1,x 7 l1] [] .ret)))))),res:=[(6,none),(7,none)]}
def eZ:Fn:= { av:=2,vars:=[0,1,2,3,4],body:=(q [w 2 (.bx v0 2),w 3 (.bx v1 1),w 4 (.mv (.c (.nil)))] [] (q [f 1 v2,g l0,u (.ln l0),u (.mf N.eC [.v 2,.v 3]),u (.ca N.dj 0 [] [.l 1,.l 0]),x 4 l0] [] .ret)),res:=[(4,none)]}
def j4:Fn:= { av:=2,vars:=[0,1,3],body:=(q [x 2 (.b false)] [] (q [g v1,m v0,u (.ca N.aO 0 [] [.l 1,.l 0]),x 2 l0] [] .ret)),res:=[(2,none)]}
def j5:Fn:= { av:=2,vars:=[0,1,3],body:= .fail,res:=[(2,none)]}
def eC:Fn:= { av:=3,vars:=[0,1,2,4],body:=(q [x 3 (.b false)] [] (q [f 1 v1,g l0,m v0,a 1 l1 l0,g l0,g v2,u (.bin .leq l1 l0),x 3 l0] [] .ret)),res:=[(3,none)]}
end Go.Ev.K
namespace Go.Ev
class rP [Lib]:Prop where
 Bh:Lib.fs N.lL=some K.lL
 Dx:Lib.fs N.nV=some K.nV
 ud:Lib.fs N.eZ=some K.eZ
 zb:Lib.fs N.j4=some K.j4
 zc:Lib.fs N.j5=some K.j5
 rA:Lib.fs N.eC=some K.eC
namespace K
variable [Lib] [rP]
theorem Bh:Lib.fs N.lL=some K.lL:=rP.Bh
theorem Dx:Lib.fs N.nV=some K.nV:=rP.Dx
theorem ud:Lib.fs N.eZ=some K.eZ:=rP.ud
theorem zb:Lib.fs N.j4=some K.j4:=rP.zb
theorem zc:Lib.fs N.j5=some K.j5:=rP.zc
theorem rA:Lib.fs N.eC=some K.eC:=rP.rA
end K
end Go.Ev
namespace Go.Ev.N
def V7:Nat:=215
def V8:Nat:=216
def V9:Nat:=217
def acT:Nat:=218
def acU:Nat:=219
def acV:Nat:=220
def afQ:Nat:=221
def afR:Nat:=222
def nW:Nat:=223
def pY:Nat:=224
def lQ:Nat:=225
def acW:Nat:=226
def acX:Nat:=227
def pZ:Nat:=228
def acY:Nat:=229
def lT:Nat:=230
def afS:Nat:=231
def ZC:Nat:=232
def afT:Nat:=233
def ZD:Nat:=234
def ZE:Nat:=235
def ZF:Nat:=236
def afU:Nat:=237
def ZG:Nat:=238
def oX:Nat:=239
def p4:Nat:=240
def dq:Nat:=241
def afV:Nat:=242
def lU:Nat:=243
def gP:Nat:=244
end Go.Ev.N
namespace Go.Ev.K
open Go.Ev
def nW:Fn:= { av:=1,vars:=[0,2,3],body:=(q [w 1 (.al [.nil,.nil,z1] []),x 2 (.i 0)] [] (.seq (.ite [m v0,u (.ca N.mH 0 [] [.l 0]),u (.un .not l0)] [] 0 (q [u (.bd [.nil,.nil,z1] []),u (.st v1 l0 3 []),x 2 (.i 6)] [] .ret) .skip) (q [m v0,u (.ca N.ah 0 [] [.l 0]),m v0,u (.ln l0),u (.mkt l0 (.int .i64 (0)) 1),u (.bd [.nil,.nil,z1] [(0,1,.l 3),(1,1,.l 0)]),u (.st v1 l0 3 []),x 2 (.i 0)] [(4,0)] .ret))),res:=[(1,some (3,true)),(2,none)]}
def pY:Fn:= { av:=2,vars:=[0,1,2,4,5],body:=(q [w 2 (.bx v0 3),w 3 (.al [.nil,.nil,z1] []),x 4 (.i 0)] [] (q [h 3 v2,m v1,u (.ca N.oX 0 [] [.l 1,.l 0,.i 0,.i 1]),u (.ex l0 0),u (.ex l1 1),u (.st v3 l1 3 []),x 4 l1] [] .ret)),res:=[(3,some (3,true)),(4,none)]}
def lQ:Fn:= { av:=2,vars:=[0,1,2,4,5],body:=(q [w 2 (.bx v0 3),w 3 (.al [.nil,.nil,z1] []),x 4 (.i 0)] [] (q [h 3 v2,m v1,u (.ca N.oX 0 [] [.l 1,.l 0,.i 1,.i 2]),u (.ex l0 0),u (.ex l1 1),u (.st v3 l1 3 []),x 4 l1] [] .ret)),res:=[(3,some (3,true)),(4,none)]}
def pZ:Fn:= { av:=1,vars:=[0,1,2,3],body:=(q [w 1 (.bx v0 3),w 2 (.al [.nil,.nil,z1] []),x 3 (.i 0)] [] (q [h 3 v1,u (.ca N.p4 0 [] [.l 0,.b true]),u (.ex l0 0),u (.ex l1 1),u (.st v2 l1 3 []),x 3 l1] [] .ret)),res:=[(2,some (3,true)),(3,none)]}
def FO:C:= (.its [u (.bin .lss v8 v7)] [] 0 .skip (.exit 0) (.seq (.blk 1 (q [m v8,a 1 v6 v8,g l0,x 4 l2,x 5 l1] [] (.ite [m v4,f 1 v1,g l0,u (.ln l0),u (.bin .lss l3 l0),m l0,y 0 true (.fa v1 1),i 1 true l0,e 2 true v4,y 3 true (.ia l1 l0 1),i 4 true l0,y 5 true (.bin .neq l0 (.i 0)),u (.pk l6 l0 (.b false))] [] 0 (.reg [m v3,m v5,u (.bs [.l 0] 1),u (.app l2 l0 true 1),x 3 l0] []) .skip))) (.reg [u (.bin .add v8 (.i 1)),x 8 l0] [])))
def Hl:C:= .loop true [0,2,4,5] K.FO
def lT:Fn:= { av:=1,vars:=[0,1,2,3,4,5,7,8,9],body:=(q [w 1 (.bx v0 3),w 2 (.mv (.c (.nil)))] [] (q [w 3 (.nw 1)] [] (.seq (q [f 0 v1,w 6 (.ld l0 1 false),w 7 (.ln l0),x 8 (.i 0)] [] (.blk 0 K.Hl)) (q [m v3,u (.ca N.dq 0 [0] [.l 0])] [] (q [m v3,x 2 l0] [] .ret))))),res:=[(2,none)]}
def oX:Fn:= { av:=4,vars:=[0,1,2,3,4,8,9,10],body:=(q [w 4 (.bx v0 3),w 5 (.al [.nil,.nil,z1] []),x 6 (.i 0)] [] (.seq (.blk 0 (.ite [h 3 v4,u (.ca N.gY 0 [] [.l 0]),u (.un .not l0),m l0] [] 0 (q [h 3 v4,u (.st v5 l0 3 []),x 6 (.i 6)] [] .ret) (.ite [m v1,f 1 v4,g l0,u (.ln l0),u (.bin .sub l0 (.i 1)),u (.ca N.aU 0 [] [.l 4,.i 0,.l 0]),u (.un .not l0),m l0] [] 0 (q [h 3 v4,u (.st v5 l0 3 []),x 6 (.i 47)] [] .ret) (.ite [f 1 v4,g l0,m v1,a 1 l1 l0,g l0,m v2,u (.bin .neq l1 l0),m l0,y 0 false (.fa v4 2),i 1 false l0,u (.pk l2 (.b true) l0),m l0] [] 0 (q [h 3 v4,u (.st v5 l0 3 []),x 6 (.i 48)] [] .ret) .skip)))) (q [h 3 v4,u (.ca N.gP 1 [] [.l 0]),w 7 (.al [.nil,.nil,z1] []),u (.st l0 l1 3 [])] [] (q [f 1 v7,g l0,m v1,m v3,a 1 l2 l1,u (.st l0 l1 1 [])] [] (q [h 3 v7,u (.st v5 l0 3 []),x 6 (.i 0)] [] .ret))))),res:=[(5,some (3,true)),(6,none)]}
def p4:Fn:= { av:=2,vars:=[0,1,2,4,5,6],body:=(q [w 2 (.bx v0 3),w 3 (.al [.nil,.nil,z1] []),x 4 (.i 0)] [] (.seq (.blk 0 (.ite [h 3 v2,u (.ca N.gY 0 [] [.l 0]),u (.un .not l0),m l0] [] 0 (q [h 3 v2,u (.st v3 l0 3 []),x 4 (.i 6)] [] .ret) (.ite [f 2 v2,g l0,m v1,u (.eqk (.bool) false l1 l0),m l0,e 0 false v1,e 1 false l0,y 0 true (.ld v2 3 true),y 1 true (.ca N.mI 0 [] [.l 0]),y 2 true (.un .not l0),y 5 false (.pk l3 l0 (.b false)),u (.pk l6 (.b true) l0),m l0] [] 0 (q [h 3 v2,u (.st v3 l0 3 []),x 4 (.i 48)] [] .ret) .skip))) (q [h 3 v2,u (.ca N.lU 0 [] [.l 0]),w 5 (.al [.nil,.nil,z1] []),u (.st l0 l1 3 [])] [] (q [m v1,f 2 v5,u (.st l0 l1 1 [])] [] (q [h 3 v5,u (.st v3 l0 3 []),x 4 (.i 0)] [] .ret))))),res:=[(3,some (3,true)),(4,none)]}
def dq:Fn:= { av:=1,vars:=[],body:= .fail,res:=[],prim:=[1]}
def lU:Fn:= { av:=1,vars:=[0,1,2],body:=(q [w 1 (.bx v0 3),w 2 (.al [.nil,.nil,z1] [])] [] (q [f 0 v1,g l0,u (.ca N.ah 0 [] [.l 0]),f 1 v1,g l0,u (.ca N.ah 0 [] [.l 0]),f 2 v1,g l0,u (.bd [.nil,.nil,z1] [(0,1,.l 5),(1,1,.l 2),(2,1,.l 0)]),u (.st v2 l0 3 [])] [(4,0),(7,0),(7,3)] .ret)),res:=[(2,some (3,true))]}
def gP:Fn:= { av:=1,vars:=[0,1,2],body:=(q [w 1 (.bx v0 3),w 2 (.al [.nil,.nil,z1] [])] [] (q [f 0 v1,g l0,u (.ca N.ah 1 [] [.l 0]),f 1 v1,g l0,u (.ca N.ah 1 [] [.l 0]),f 2 v1,g l0,u (.bd [.nil,.nil,z1] [(0,1,.l 5),(1,1,.l 2),(2,1,.l 0)]),u (.st v2 l0 3 [])] [(4,0),(7,0),(7,3)] .ret)),res:=[(2,some (3,true))]}
end Go.Ev.K
namespace Go.Ev
class kA [Lib]:Prop where
 Dy:Lib.fs N.nW=some K.nW
 FP:Lib.fs N.pY=some K.pY
 Bi:Lib.fs N.lQ=some K.lQ
 FQ:Lib.fs N.pZ=some K.pZ
 Bj:Lib.fs N.lT=some K.lT
 FR:Lib.fs N.oX=some K.oX
 FT:Lib.fs N.p4=some K.p4
 p5:Lib.fs N.dq=some K.dq
 Bk:Lib.fs N.lU=some K.lU
 vN:Lib.fs N.gP=some K.gP
namespace K
variable [Lib] [kA]
theorem Dy:Lib.fs N.nW=some K.nW:=kA.Dy
theorem FP:Lib.fs N.pY=some K.pY:=kA.FP
theorem Bi:Lib.fs N.lQ=some K.lQ:=kA.Bi
theorem FQ:Lib.fs N.pZ=some K.pZ:=kA.FQ
theorem Bj:Lib.fs N.lT=some K.lT:=kA.Bj
theorem FR:Lib.fs N.oX=some K.oX:=kA.FR
theorem FT:Lib.fs N.p4=some K.p4:=kA.FT
theorem p5:Lib.fs N.dq=some K.dq:=kA.p5
theorem Bk:Lib.fs N.lU=some K.lU:=kA.Bk
theorem vN:Lib.fs N.gP=some K.gP:=kA.vN
end K
end Go.Ev
namespace Go.Ev
open Go
variable [Lib] [dM] [dh] [o6] [ns] [rP] [lz] [mM] [qI] [od] [kA]
end Go.Ev
namespace Go.Ev
open Go
theorem ON{d:D}{n:Int}(h:PA d=some n):d= .t (.int .i64 n):=by
 unfold PA at h
 split at h
 · cases h;rfl
 · cases h
theorem UL:∀ {es:List D} {l:List Int},cO PA es=some l→es=l.map fun x=> .t (.int .i64 x)
 | [],l,h=>by simp[cO]at h;subst h;rfl
 | e::r,l,h=>by
   simp only[cO,aLa,aLb]at h
   obtain⟨x,hx,y,hy,rfl⟩:=h
   rw[ON hx,UL hy];rfl
theorem FU(x:Int):∀l,(aag x l).Perm (x::l)
 | []=> .refl _
 | y::r=>by
   unfold aag
   split
   · exact .refl _
   · exact((FU x r).cons y).trans (.swap x y r)
theorem nX:∀l,(jx l).Perm l
 | []=> .refl _
 | x::r=>(FU x _).trans ((nX r).cons x)
theorem UM{x:Int}:∀ {l:List Int},l.Pairwise (· ≤ ·)→(aag x l).Pairwise (· ≤ ·)
 | [],_=>by simp[aag]
 | y::r,h=>by
   unfold aag
   split
   · rename_i hx
     refine List.pairwise_cons.2 ⟨fun z hz=>?_,h⟩
     rcases List.mem_cons.1 hz with rfl | hz
     · exact hx
     · have:=(List.pairwise_cons.1 h).1 z hz;omega
   · rename_i hx
     have h':=List.pairwise_cons.1 h
     refine List.pairwise_cons.2 ⟨fun z hz=>?_,UM h'.2⟩
     have hz:=(FU x r).mem_iff.1 hz
     rcases List.mem_cons.1 hz with rfl | hz
     · omega
     · exact h'.1 z hz
theorem Bl:∀l,(jx l).Pairwise (· ≤ ·)
 | []=> .nil
 | x::r=>UM (Bl r)
theorem kB(l:List Int):(jx l).length=l.length:=(nX l).length_eq
theorem J5(l:List Int):(l.mergeSort fun x y=>decide (x≤y))=jx l:=by
 refine List.Perm.eq_of_pairwise (le:=(· ≤ ·)) (fun a b _ _ h1 h2=>by omega) ?_ (Bl l) ((List.mergeSort_perm _ _).trans (nX l).symm)
 have:=List.pairwise_mergeSort (le:=fun x y:Int=>decide (x≤y)) (fun a b c=>by simp;omega) (fun a b=>by simp;omega) l
 exact this.imp (by simp)
end Go.Ev
namespace Go.Ev
open Go
variable [Lib] [dM] [dh] [o6] [ns] [rP] [lz] [mM] [qI] [od] [kA]
section
variable (k : Keys) (hl : k.keys.length ≤ 1000000) (hr : k.roads.length ≤ 1000000)
include hl hr
end
end Go.Ev
namespace Go.Ev
open Go
variable [Lib] [dM] [dh] [o6] [ns] [rP] [lz] [mM] [qI] [od] [kA]
theorem aoF{a b:List Int}(ha:a.Pairwise (· ≤ ·))(hb:b.Pairwise (· ≤ ·))(p:a.Perm b):a=b:=
 List.Perm.eq_of_pairwise (le:=(· ≤ ·)) (fun a b _ _ h1 h2=>by omega) ha hb p
section
variable (b u v y : Obj) (ds : ao)
end
end Go.Ev
namespace Go.Ev.N
def Qt:Nat:=245
def OO:Nat:=246
def OP:Nat:=247
def acZ:Nat:=248
def XR:Nat:=249
def ac0:Nat:=250
def bI:Nat:=251
def Wb:Nat:=252
def dt:Nat:=253
def ac1:Nat:=254
def ZH:Nat:=255
def afW:Nat:=256
def fL:Nat:=257
def bO:Nat:=258
def az:Nat:=259
def cr:Nat:=260
def bD:Nat:=261
def gj:Nat:=262
def bB:Nat:=263
def ak:Nat:=264
def ed:Nat:=265
def aF:Nat:=266
def a7:Nat:=267
def cW:Nat:=268
def aB:Nat:=269
def cmp_isNaN_int:Nat:=270
end Go.Ev.N
