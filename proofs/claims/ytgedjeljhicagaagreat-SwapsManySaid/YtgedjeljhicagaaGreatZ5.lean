/- Parts of the proof: see the text that holds the theorem. -/
import Derived.Test.YtgedjeljhicagaaGreatZ4
set_option linter.all false
open Nat (reduceAdd reduceSub)
namespace Go.Ev
open Go
variable [Lib] [cH] [b7] [gI] [gy] [jy] [fG] [fH] [iC] [gg] [fg] [eb] [iu] [eU]
def GK(L L2:List World)(a b:Nat):Prop:=aS 0 N.aj [.ref 0 0 L.length,I a,I b,.fn N.af []] [.arr 2 false 0 (List.map D.t (List.map World.e L))]=some (.tup [],[.arr 2 false 0 (List.map D.t (List.map World.e L2))])
abbrev stS(n bs:Nat)(a b:D)(L:List World):St:=⟨[.ref 0 0 n,I n,.fn N.af [],I bs,a,b,.und],[.arr 2 false 0 (List.map D.t (List.map World.e L))]⟩
theorem pq{n:Nat}{a b:Nat}{L L2:List World}(hn:L.length=n)(hb:b≤n)(h6:n≤1000)(h:GK L L2 a b):dB true [6] 1 (exS aS K.bk (stS n 20 (I a) (I b) L))=some (stS n 20 (I b) (I ((b+20:Nat):Int)) L2):=by
 unfold GK at h
 rw[hn]at h
 have le:(b:Int)≤n:=by omega
 have wb:IntKind.i64.wrap ((b:Int)+((20:Nat):Int))=((b+20:Nat):Int):=by
  rw[show(b:Int)+((20:Nat):Int)=((b+20:Nat):Int)by omega];exact bz (by omega) (by omega)
 simp only[stS]at*
 generalize ((b+20:Nat):Int)=b2 at*
 simp(disch:=omega)only[go_sem,K.bk,↓reduceIte,h,le,wb,reduceAdd,reduceSub]
theorem vB{n:Nat}{a b:Nat}{L:List World}(hb:n<b):exS aS K.bk (stS n 20 (I a) (I b) L)=some (.exit 0,stS n 20 (I a) (I b) L):=by
 have le:¬(b:Int)≤n:=by omega
 simp only[stS]at*
 simp(disch:=omega)only[go_sem,K.bk,↓reduceIte,le,reduceAdd,reduceSub]
theorem DZ{n bs:Nat}{a b:Nat}{L L2:List World}(hn:L.length=n)(hb:b≤n)(h6:n≤1000)(hbs:bs≤1000)(hab:a+bs≤1000)(h:kh L L2 a (a+bs) b):dB true [6] 1 (exS aS K.bB (stS n bs (I a) (I b) L))=some (stS n bs (I b) (I ((b+2*bs:Nat):Int)) L2):=by
 unfold kh at h
 rw[hn]at h
 have le:(b:Int)≤n:=by omega
 have w1:IntKind.i64.wrap ((a:Int)+bs)=((a+bs:Nat):Int):=by
  rw[show(a:Int)+bs=((a+bs:Nat):Int)by omega];exact bz (by omega) (by omega)
 have w2:IntKind.i64.wrap (2*(bs:Int))=2*(bs:Int):=bz (by omega) (by omega)
 have w3:IntKind.i64.wrap ((b:Int)+2*(bs:Int))=((b+2*bs:Nat):Int):=by
  rw[show(b:Int)+2*(bs:Int)=((b+2*bs:Nat):Int)by omega];exact bz (by omega) (by omega)
 simp only[stS]at*
 generalize ((b+2*bs:Nat):Int)=b2 at*
 generalize ((a+bs:Nat):Int)=m2 at*
 simp(disch:=omega)only[go_sem,K.bB,↓reduceIte,h,le,w1,w2,w3,reduceAdd,reduceSub]
theorem vC{n bs:Nat}{a b:Nat}{L:List World}(hb:n<b):exS aS K.bB (stS n bs (I a) (I b) L)=some (.exit 4,stS n bs (I a) (I b) L):=by
 have le:¬(b:Int)≤n:=by omega
 simp only[stS]at*
 simp(disch:=omega)only[go_sem,K.bB,↓reduceIte,le,reduceAdd,reduceSub]
theorem sH{n bs:Nat}{a b:Nat}{L L2 L3:List World}(l2:L2.length=n)(hlt:bs<n)(h6:n≤1000)(hbs:bs≤1000)(ha:a≤1000)
 (h3:∀z6,exS aS K.dn ⟨[.ref 0 0 n,I n,.fn N.af [],I bs,I 0,I ((2*bs:Nat):Int),z6],[.arr 2 false 0 (List.map D.t (List.map World.e L))]⟩=some (.exit 4,stS n bs (I a) (I b) L2))
 (hm:a+bs<n→kh L2 L3 a (a+bs) n) (hm0:¬a+bs<n→L3=L2):
 dB true [4,5,6] 1 (exS aS K.aV (stS n bs .und .und L))=some (stS n (2*bs) .und .und L3):=by
 have lt:(bs:Int)<n:=by omega
 have w1:IntKind.i64.wrap ((a:Int)+bs)=((a+bs:Nat):Int):=by
  rw[show(a:Int)+bs=((a+bs:Nat):Int)by omega];exact bz (by omega) (by omega)
 have w2:IntKind.i64.wrap (2*(bs:Int))=((2*bs:Nat):Int):=by
  rw[show 2*(bs:Int)=((2*bs:Nat):Int)by omega];exact bz (by omega) (by omega)
 have w3:IntKind.i64.wrap ((bs:Int)*2)=((2*bs:Nat):Int):=by
  rw[show(bs:Int)*2=((2*bs:Nat):Int)by omega];exact bz (by omega) (by omega)
 unfold kh at hm
 rw[l2]at hm
 by_cases c:a+bs<n
 · have hm:=hm c
   have ci:((a+bs:Nat):Int)<n:=by omega
   simp only[stS]at*
   clear hm0
   generalize ((2*bs:Nat):Int)=b2 at*
   generalize ((a+bs:Nat):Int)=m2 at*
   simp(disch:=omega)only[go_sem,K.aV,↓reduceIte,lt,h3,hm,w1,w2,w3,ci,reduceAdd,reduceSub]
 · rw[hm0 c]
   have ci:¬((a+bs:Nat):Int)<n:=by omega
   simp only[stS]at*
   clear hm0 hm
   generalize ((2*bs:Nat):Int)=b2 at*
   generalize ((a+bs:Nat):Int)=m2 at*
   simp(disch:=omega)only[go_sem,K.aV,↓reduceIte,lt,h3,w1,w2,w3,ci,reduceAdd,reduceSub]
theorem rP{n bs:Nat}{L:List World}(hb:n≤bs):exS aS K.aV (stS n bs .und .und L)=some (.exit 2,stS n bs .und .und L):=by
 have le:¬(bs:Int)<n:=by omega
 simp only[stS]at*
 simp(disch:=omega)only[go_sem,K.aV,↓reduceIte,le,reduceAdd,reduceSub]
theorem ye{n a b bs:Nat}{L L1 L2 L3:List World}(hn:n≤1000)(ha:a≤n)(l1:L1.length=n)
 (h1:∀z6,exS aS K.cy ⟨[.ref 0 0 n,I n,.fn N.af [],I 20,I 0,I 20,z6],[.arr 2 false 0 (List.map D.t (List.map World.e L))]⟩=some (.exit 0,stS n 20 (I a) (I b) L1))
 (h2:GK L1 L2 a n)
 (h3:∀z4 z5 z6,exS aS K.dq ⟨[.ref 0 0 n,I n,.fn N.af [],I ((20:Nat):Int),z4,z5,z6],[.arr 2 false 0 (List.map D.t (List.map World.e L2))]⟩=some (.exit 2,stS n bs .und .und L3)):
 aS 0 N.aA [.ref 0 0 n,I n,.fn N.af []] [.arr 2 false 0 (List.map D.t (List.map World.e L))]=some (.tup [],[.arr 2 false 0 (List.map D.t (List.map World.e L3))]):=by
 refine aE K.cA rfl ?_
 unfold GK at h2
 rw[l1]at h2
 simp only[stS]at*
 simp(disch:=omega)only[go_sem,K.aA,↓reduceIte,h1,h2,h3,reduceAdd,reduceSub]
theorem zP(X l Y:List World)(hz:∀w∈X++l++Y,w.sz)(hl:(X++l++Y).length≤1000){a b:Nat}(ha:a=X.length)(hb:b=X.length+l.length):∃l':List World,GK (X++l++Y) (X++l'++Y) a b∧l'.Perm l∧kf l':=by
 subst ha hb
 exact DY X l Y hz hl
theorem yf(X A B Y:List World)(hA:A≠[])(hB:B≠[])(sa:kf A)(sb:kf B)(hz:∀w∈X++A++B++Y,w.sz)(hl:(X++A++B++Y).length≤1000){a m b:Nat}(ha:a=X.length)(hm:m=X.length+A.length)(hb:b=X.length+A.length+B.length):∃C:List World,C.Perm (A++B)∧kf C∧kh (X++A++B++Y) (X++C++Y) a m b:=by
 subst ha hm hb
 exact BA _ X A B Y (aLs _) hA hB sa sb hz hl
theorem sI{l l':List World}(h:l'.Perm l)(hz:∀w∈l,w.sz):∀w∈l',w.sz:=fun w hw=>hz w (h.mem_iff.1 hw)
theorem D0(l:List World)(hz:∀w∈l,w.sz)(h1:20≤l.length)(h2:l.length<40):
 ∃l',aS 0 N.aA [.ref 0 0 l.length,I l.length,.fn N.af []] [qs l]=some (.tup [],[qs l'])∧l'.Perm l∧kf l':=by
 obtain⟨P1,P2,rfl,p1⟩:∃P1 P2,l=P1++P2∧P1.length=20:=⟨l.take 20,l.drop 20,(List.take_append_drop _ _).symm,by rw[List.length_take];omega⟩
 have ll:(P1++P2).length=20+P2.length:=by simp[p1]
 obtain⟨Q1,i1,q1,s1⟩:=zP [] P1 P2 hz (by simp only[List.nil_append];omega) (a:=0) (b:=20) rfl (by simp[p1])
 have hz1:=sI (q1.append (List.Perm.refl P2)) hz
 have l1:Q1.length=20:=by rw[q1.length_eq,p1]
 obtain⟨Q2,i2,q2,s2⟩:=zP Q1 P2 [] (by simpa using hz1) (by simp;omega) (a:=20) (b:=20+P2.length) l1.symm (by rw[l1])
 have l2:Q2.length=P2.length:=q2.length_eq
 have hz2:=sI ((List.Perm.refl Q1).append q2) hz1
 simp only[List.nil_append,List.append_nil]at i1 i2
 by_cases c:P2.length=0
 · have e2:Q2=[]:=List.length_eq_zero_iff.1 (by omega)
   refine⟨Q1++Q2,?_,q1.append q2,by rw[e2,List.append_nil];exact s1⟩
   refine ye (n:=(P1++P2).length) (a:=20) (b:=40) (bs:=20) (L1:=Q1++P2) (L2:=Q1++Q2) (by omega) (by omega) (by simp only[aLv,l1,p1]) ?_ (by rw[ll];exact i2) ?_
   · intro z6
     refine iX (cM (pq (a:=0) (b:=20) rfl (by omega) (by omega) i1) (bE (vB (by omega)) (by simp)))
   · intro z4 z5 z6
     refine iX (bE (rP (by omega)) (by simp))
 · obtain⟨C,c1,c2,c3⟩:=yf [] Q1 Q2 [] (fun e=>by rw[e]at l1;simp at l1) (fun e=>by rw[e]at l2;simp at l2;omega) s1 s2 (by simpa using hz2) (by simp;omega) (a:=0) (m:=0+20) (b:=(P1++P2).length) rfl (by simp[l1]) (by simp[l1,l2,p1])
   refine⟨C,?_,c1.trans (q1.append q2),c2⟩
   simp only[List.nil_append,List.append_nil]at c3
   refine ye (n:=(P1++P2).length) (a:=20) (b:=40) (bs:=40) (L1:=Q1++P2) (L2:=Q1++Q2) (by omega) (by omega) (by simp only[aLv,l1,p1]) ?_ (by rw[ll];exact i2) ?_
   · intro z6
     refine iX (cM (pq (a:=0) (b:=20) rfl (by omega) (by omega) i1) (bE (vB (by omega)) (by simp)))
   · intro z4 z5 z6
     refine iX (cM (sH (a:=0) (b:=40) (L2:=Q1++Q2) (L3:=C) (by simp[l1,l2,p1]) (by omega) (by omega) (by omega) (by omega) ?_ (fun _=>c3) (fun h=>absurd (by omega) h)) (bE (rP (by omega)) (by simp)))
     intro z6
     exact iX (bE (vC (by omega)) (by simp))
theorem D1(l:List World)(hz:∀w∈l,w.sz)(h1:40≤l.length)(h2:l.length<60):
 ∃l',aS 0 N.aA [.ref 0 0 l.length,I l.length,.fn N.af []] [qs l]=some (.tup [],[qs l'])∧l'.Perm l∧kf l':=by
 obtain⟨P1,P2,P3,rfl,p1,p2⟩:∃P1 P2 P3,l=P1++P2++P3∧P1.length=20∧P2.length=20:=⟨l.take 20,(l.drop 20).take 20,(l.drop 20).drop 20,by rw[List.append_assoc,List.take_append_drop,List.take_append_drop],by rw[List.length_take];omega,by rw[List.length_take,List.length_drop];omega⟩
 have ll:(P1++P2++P3).length=40+P3.length:=by simp only[aLv,p1,p2]
 obtain⟨Q1,i1,q1,s1⟩:=zP [] P1 (P2++P3) (by simpa using hz) (by simp;omega) (a:=0) (b:=20) rfl (by simp[p1])
 have l1:Q1.length=20:=by rw[q1.length_eq,p1]
 have hz1:∀w∈Q1++P2++P3,w.sz:=sI ((q1.append (List.Perm.refl P2)).append (List.Perm.refl P3)) hz
 obtain⟨Q2,i2,q2,s2⟩:=zP Q1 P2 P3 hz1 (by simp;omega) (a:=20) (b:=40) l1.symm (by rw[l1,p2])
 have l2:Q2.length=20:=by rw[q2.length_eq,p2]
 have hz2:∀w∈Q1++Q2++P3,w.sz:=sI (((List.Perm.refl Q1).append q2).append (List.Perm.refl P3)) hz1
 obtain⟨Q3,i3,q3,s3⟩:=zP (Q1++Q2) P3 [] (by simpa using hz2) (by simp;omega) (a:=40) (b:=40+P3.length) (by simp[l1,l2]) (by simp[l1,l2])
 have l3:Q3.length=P3.length:=q3.length_eq
 have hz3:∀w∈Q1++Q2++Q3,w.sz:=sI ((List.Perm.refl (Q1++Q2)).append q3) hz2
 obtain⟨C,c1,c2,c3⟩:=yf [] Q1 Q2 Q3 (fun e=>by rw[e]at l1;simp at l1) (fun e=>by rw[e]at l2;simp at l2) s1 s2 (by simpa using hz3) (by simp;omega) (a:=0) (m:=0+20) (b:=40) rfl (by simp[l1]) (by simp[l1,l2])
 have lc:C.length=40:=by rw[c1.length_eq];simp[l1,l2]
 have hz4:∀w∈C++Q3,w.sz:=sI (c1.append (List.Perm.refl Q3)) hz3
 simp only[List.nil_append,List.append_nil]at i1 i2 i3 c3
 have e0:P1++(P2++P3)=P1++P2++P3:=by simp
 have e1:Q1++(P2++P3)=Q1++P2++P3:=by simp
 rw[e0,e1]at i1
 have tl1:(Q1++P2++P3).length=(P1++P2++P3).length:=by simp[l1,p1]
 have tl2:(Q1++Q2++P3).length=(P1++P2++P3).length:=by simp[l1,l2,p1,p2]
 have tl3:(Q1++Q2++Q3).length=(P1++P2++P3).length:=by simp[l1,l2,l3,p1,p2]
 have tl4:(C++Q3).length=(P1++P2++P3).length:=by simp only[aLv,lc,l3,p1,p2]
 have lp1:∀z6,exS aS K.cy ⟨[.ref 0 0 (P1++P2++P3).length,I (P1++P2++P3).length,.fn N.af [],I 20,I 0,I 20,z6],[.arr 2 false 0 (List.map D.t (List.map World.e (P1++P2++P3)))]⟩=some (.exit 0,stS (P1++P2++P3).length 20 (I (40:Nat)) (I (60:Nat)) (Q1++Q2++P3)):=by
  intro z6
  exact iX (cM (pq (a:=0) (b:=20) rfl (by omega) (by omega) i1) (cM (pq (a:=20) (b:=40) tl1 (by omega) (by omega) i2) (bE (vB (by omega)) (by simp))))
 have perm3:=(q1.append q2).append q3
 have lp3:∀z6,exS aS K.dn ⟨[.ref 0 0 (P1++P2++P3).length,I (P1++P2++P3).length,.fn N.af [],I (20:Nat),I 0,I ((2*20:Nat):Int),z6],[.arr 2 false 0 (List.map D.t (List.map World.e (Q1++Q2++Q3)))]⟩=some (.exit 4,stS (P1++P2++P3).length 20 (I (40:Nat)) (I ((40+2*20:Nat):Int)) (C++Q3)):=by
  intro z6
  exact iX (cM (DZ (a:=0) (b:=40) tl3 (by omega) (by omega) (by omega) (by omega) c3) (bE (vC (by omega)) (by simp)))
 have rd1:=sH (n:=(P1++P2++P3).length) (bs:=20) (a:=40) (b:=80) (L:=Q1++Q2++Q3) (L2:=C++Q3) (L3:=C++Q3) tl4 (by omega) (by omega) (by omega) (by omega) lp3 (fun h=>by omega) (fun _=>rfl)
 by_cases c:P3.length=0
 · have e3:Q3=[]:=List.length_eq_zero_iff.1 (by omega)
   refine⟨C++Q3,?_,(c1.append (List.Perm.refl Q3)).trans perm3,by rw[e3,List.append_nil];exact c2⟩
   refine ye (n:=(P1++P2++P3).length) (a:=40) (b:=60) (bs:=40) (L1:=Q1++Q2++P3) (L2:=Q1++Q2++Q3) (by omega) (by omega) tl2 lp1 (by rw[ll];exact i3) ?_
   intro z4 z5 z6
   exact iX (cM rd1 (bE (rP (by omega)) (by simp)))
 · obtain⟨E,d1,d2,d3⟩:=yf [] C Q3 [] (fun e=>by rw[e]at lc;simp at lc) (fun e=>by rw[e]at l3;simp at l3;omega) c2 s3 (by simpa using hz4) (by simp;omega) (a:=0) (m:=0+2*20) (b:=(P1++P2++P3).length) rfl (by simp[lc]) (by simp only[aLv,List.length_nil,lc,l3,p1,p2];try omega)
   simp only[List.nil_append,List.append_nil]at d3
   refine⟨E,?_,(d1.trans (c1.append (List.Perm.refl Q3))).trans perm3,d2⟩
   refine ye (n:=(P1++P2++P3).length) (a:=40) (b:=60) (bs:=80) (L1:=Q1++Q2++P3) (L2:=Q1++Q2++Q3) (by omega) (by omega) tl2 lp1 (by rw[ll];exact i3) ?_
   intro z4 z5 z6
   refine iX (cM rd1 (cM (sH (n:=(P1++P2++P3).length) (bs:=2*20) (a:=0) (b:=80) (L:=C++Q3) (L2:=C++Q3) (L3:=E) tl4 (by omega) (by omega) (by omega) (by omega) ?_ (fun _=>d3) (fun h=>absurd (by omega) h)) (bE (rP (by omega)) (by simp))))
   intro z6
   exact iX (bE (vC (by omega)) (by simp))
theorem D2(l:List World)(hz:∀w∈l,w.sz)(hl:l.length<60):
 ∃l',aS 0 N.aA [.ref 0 0 l.length,I l.length,.fn N.af []] [qs l]=some (.tup [],[qs l'])∧l'.Perm l∧kf l':=by
 by_cases c1:l.length<20
 · exact GD l hz c1
 · by_cases c2:l.length<40
   · exact D0 l hz (by omega) c2
   · exact D1 l hz (by omega) hl
theorem vV(l:List World)(hz:∀w∈l,w.sz)(hl:l.length<60):
 ∃l',aS 0 N.aC [.ref 0 0 l.length,.fn N.af []] [qs l]=some (.tup [],[qs l'])∧l'.Perm l∧kf l':=by
 obtain⟨l',h,pm,so⟩:=D2 l hz hl
 refine⟨l',?_,pm,so⟩
 refine aE K.b8 rfl ?_
 simp only[qs]at*
 simp(disch:=omega)only[go_sem,K.aC,↓reduceIte,h,reduceAdd,reduceSub]
theorem D3(l:List World)(hz:∀w∈l,w.sz)(h0:0<l.length)(hl:l.length<60):
 ∃l',aS 0 N.aI [.fn N.ax [.bp 0 0],.fn N.af []] [.box [.t (.sl (l.map World.e))]]=some (.t (.sl (l'.map World.e)),[.box [.t (.sl (l.map World.e))]])∧l'.Perm l∧kf l':=by
 obtain⟨l',h,pm,so⟩:=vV l hz hl
 refine⟨l',?_,pm,so⟩
 refine aE K.c7 rfl ?_
 have c:=By l h0 (by omega)
 have ln:=pm.length_eq
 simp only[qs]at*
 simp(disch:=omega)only[go_sem,K.aI,↓reduceIte,c,h,ln,reduceAdd,reduceSub]
end Go.Ev
namespace Go.Ev
open Go
variable [Lib] [cH] [b7] [gI] [gy] [jy] [fG] [fH] [iC] [gg]
end Go.Ev
namespace Go.Ev
open Go
variable [Lib] [cH] [b7] [gI] [gy] [jy] [fG] [fH] [iC] [gg] [fg] [eb]
theorem D4{l:List Int}{i j:Nat}(hi:i<l.length)(hj:j<l.length):(DM l i j).Perm l:=by
 have:=Array.swap_perm (xs:=l.toArray) (i:=i) (j:=j) (by simpa using hi) (by simpa using hj)
 rw[Array.perm_iff_toList_perm]at this
 unfold DM
 rw[bN (aLc hi),bN (aLc hj)]
 simpa [Array.swap]using this
theorem vD{m:bV}{l:List Wh}(hl:∀w∈l,eY m w=true)(i:Nat){x:Wh}(hx:i<l.length→eY m x=true):∀w∈l.set i x,eY m w=true:=by
 intro w hw
 by_cases h:i<l.length
 · rcases aLk hw with a | rfl
   · exact hl w a
   · exact hx h
 · rw[List.set_eq_of_length_le (by omega)]at hw;exact hl w hw
theorem vE{m:bV}(h:m.ok){w:Wh}(hv:eY m w=true)(t:Int):eY m (ed w t).1=true:=by
 unfold ed
 split
 · exact hv
 · obtain⟨a,b,c, -⟩:=jM hv
   have cl:=vt h hv
   unfold inT at b
   exact zL h a (by simp only;unfold inT;omega) c (IY (t':=t) (by omega) cl)
theorem I6{m:bV}(hm:m.ok){first:List Int}{x:World}(h:WV m first x){i j:Nat}(hi:i<first.length)(hj:j<first.length)(t:Int):WV m first (x5 i j t x):=by
 have wl:=h.wl
 have tl:=h.pm.length_eq
 refine⟨(D4 (by omega) (by omega)).trans h.pm,by simp[x5,wl],?_⟩
 exact vD (vD h.wv i fun hl=>vE hm (h.wv _ (az hl)) t) j fun hl=>vE hm (h.wv _ (az (by simpa using hl))) t
theorem rQ{m:bV}(hm:m.ok){first:List Int}{ws:List World}(h:∀x∈ws,WV m first x){i j:Nat}(hi:i<first.length)(hj:j<first.length)(t:Int):∀k,k≤ws.length→∀x∈gp i j t ws k,WV m first x
 | 0,_,x,hx=>h x hx
 | k+1,hk,x,hx=>by
   simp only[gp,tK]at hx
   split at hx
   · rcases List.mem_append.1 hx with hx | hx
     · exact rQ hm h hi hj t k (by omega) x hx
     · rw[List.mem_singleton.1 hx]
       exact I6 hm (h _ (az (by omega))) hi hj t
   · exact rQ hm h hi hj t k (by omega) x hx
theorem qt{m:bV}(hm:m.ok){a b:List Wh}(ha:∀w∈a,eY m w=true)(hb:∀w∈b,eY m w=true):∀p,p≤a.length→p≤b.length→∀w∈jU a b p,eY m w=true
 | 0,_,_,w,hw=>ha w hw
 | p+1,h1,h2,w,hw=>by
   refine vD (qt hm ha hb p (by omega) (by omega)) p (fun _=>?_) w hw
   exact(DU hm (ha _ (az (by omega))) (hb _ (az (by omega)))).2.1
theorem yg{out:List World}{x:World}{k:Nat}(h:k<cF out x):lexB (nth out k).tags x.tags=true:=by
 unfold cF at h
 split at h
 · rename_i j hf
   rw[List.find?_range_eq_some]at hf
   have:=hf.2.2 k h
   rw[← lB];simpa using this
 · rename_i hf
   have:=List.find?_eq_none.1 hf k (aLu.2 h)
   rw[← lB];simpa using this
theorem ue{out:List World}{x:World}(h:cF out x<out.length):lexB (nth out (cF out x)).tags x.tags=false:=by
 unfold cF at h ⊢
 split
 · rename_i j hf
   rw[List.find?_range_eq_some]at hf
   have:=hf.1
   rw[← lB];simpa using this
 · rename_i hf
   rw[hf]at h;simp at h
theorem lD{m:bV}(hm:m.ok){first:List Int}{out:List World}(h:BV m first out){x:World}(hx:WV m first x):BV m first (iE out x):=by
 have kl:=rE out x
 unfold iE
 split
 · rename_i c
   obtain⟨c1,c2⟩:=c
   have wk:=h.wv _ (az c1)
   have w1:=wk.wl
   have w2:=hx.wl
   refine⟨h.pr,h.f1,h.f2,fun y hy=>?_,?_⟩
   · rcases aLk hy with a | rfl
     · exact h.wv y a
     · exact⟨hx.pm,by rw[gn,ib];exact w1,qt hm wk.wv hx.wv _ (by omega) (by omega)⟩
   · have u:=h.up
     rw[← List.pairwise_map (f:=World.tags) (R:=fun a b=>lexB a b=true)]at u ⊢
     rw[List.map_set]
     have e:(out.map World.tags).set (cF out x) x.tags=out.map World.tags:=by
      apply List.ext_getElem?
      intro i
      by_cases hi:cF out x=i
      · rw[← hi,aLj (by simpa using c1),aLn,gq c1,←c2];rfl
      · rw[aLi hi]
     rw[e];exact u
 · rename_i c
   refine⟨h.pr,h.f1,h.f2,fun y hy=>?_,?_⟩
   · simp only[List.mem_append,List.mem_singleton]at hy
     rcases hy with(hy | rfl) | hy
     · exact h.wv y (List.mem_of_mem_take hy)
     · exact hx
     · exact h.wv y (List.mem_of_mem_drop hy)
   · have u:=h.up
     have lo:∀y∈out.take (cF out x),lexB y.tags x.tags=true:=by
      intro y hy
      obtain⟨i,hi⟩:=aLf.1 hy
      have il:=(aLe.1 hi).1
      rw[List.length_take]at il
      rw[List.getElem?_take_of_lt (by omega)]at hi
      have:=yg (out:=out) (x:=x) (k:=i) (by omega)
      rwa [bN hi]at this
     have hi:∀y∈out.drop (cF out x),lexB x.tags y.tags=true:=by
      intro y hy
      obtain⟨i,hi⟩:=aLf.1 hy
      have il:=(aLe.1 hi).1
      rw[List.length_drop]at il
      rw[List.getElem?_drop]at hi
      have c1:cF out x<out.length:=by omega
      have at_:=ue c1
      have ne:(nth out (cF out x)).tags≠x.tags:=fun e=>c ⟨c1,e⟩
      have first_:lexB x.tags (nth out (cF out x)).tags=true:=by
       rcases jA (nth out (cF out x)).tags x.tags with a | a | a
       · rw[a]at at_;cases at_
       · exact absurd a ne
       · exact a
      by_cases i0:i=0
      · subst i0
        rw[Nat.add_zero]at hi
        rwa [bN hi]at first_
      · have:=(List.pairwise_iff_getElem.1 u) (cF out x) (cF out x+i) (by omega) (by omega) (by omega)
        rw[← bN (aLc (by omega:cF out x<out.length)),←bN (aLc (by omega:cF out x+i<out.length)),bN hi]at this
        exact lex_trans first_ this
     have td:out.take (cF out x)++out.drop (cF out x)=out:=List.take_append_drop _ _
     have u2:=u
     rw[← td,List.pairwise_append]at u2
     rw[List.append_assoc,List.pairwise_append]
     refine⟨u2.1,?_,fun y hy z hz=>?_⟩
     · rw[List.singleton_append,List.pairwise_cons];exact⟨hi,u2.2.1⟩
     · simp only[List.singleton_append,List.mem_cons]at hz
       rcases hz with rfl | hz
       · exact lo y hy
       · exact u2.2.2 y hy z hz
theorem CQ{m:bV}(hm:m.ok){first:List Int}(pr:eM first=true)(f1:1≤first.length)(f2:first.length≤12){l:List World}(hl:∀x∈l,WV m first x):∀j,j≤l.length→BV m first (pC l j)
 | 0,_=>⟨pr,f1,f2,fun x hx=>by simp[pC]at hx,by simp[pC]⟩
 | j+1,h=>lD hm (CQ hm pr f1 f2 hl j (by omega)) (hl _ (az (by omega)))
def lookW(out:List World)(t:List Int):Option (List Wh):=(out.find? fun w=>decide (w.tags=t)).map World.whr
abbrev UpW(out:List World):Prop:=out.Pairwise fun x y=>lexB x.tags y.tags=true
theorem xi{a b:List Int}(h:lexB a b=true):a≠b:=fun e=>by rw[e,lex_irrefl]at h;cases h
theorem jC{out:List World}{t:List Int}(h:∀w∈out,w.tags≠t):lookW out t=none:=by
 unfold lookW
 rw[List.find?_eq_none.2 fun w hw=>by simpa using h w hw];rfl
theorem iw:∀ {out:List World},UpW out→∀ {w:World},w∈out→lookW out w.tags=some w.whr
 | x::r,h,w,hw=>by
   unfold lookW
   rw[List.find?_cons]
   by_cases e:x.tags=w.tags
   · simp only[e,decide_true]
     rcases List.mem_cons.1 hw with rfl | hw
     · rfl
     · exact absurd e (xi ((List.pairwise_cons.1 h).1 w hw))
   · simp only[e,decide_false]
     rcases List.mem_cons.1 hw with rfl | hw
     · exact absurd rfl e
     · exact iw (List.pairwise_cons.1 h).2 hw
theorem xj(out:List World)(t:List Int):(∃w∈out,w.tags=t)∨(∀w∈out,w.tags≠t):=by
 by_cases h:∃w∈out,w.tags=t
 · exact .inl h
 · exact .inr fun w hw e=>h ⟨w,hw,e⟩
theorem GL{out:List World}{t:List Int}{l:List Wh}(h:lookW out t=some l):∃w∈out,w.tags=t∧w.whr=l:=by
 unfold lookW at h
 obtain⟨w,hw,rfl⟩:=aLb.1 h
 exact⟨w,List.mem_of_find?_eq_some hw,by simpa using List.find?_some hw,rfl⟩
theorem zQ{x:World}{r:List World}{t:List Int}(h:x.tags≠t):lookW (x::r) t=lookW r t:=by
 unfold lookW;rw[List.find?_cons];simp only[h,decide_false]
theorem CR:∀ {a b:List World},UpW a→UpW b→(∀t,lookW a t=lookW b t)→a=b
 | [],[],_,_,_=>rfl
 | [],y::s,_,hb,h=>by
   have:=h y.tags
   rw[iw hb List.mem_cons_self]at this
   cases this
 | x::r,[],ha,_,h=>by
   have:=h x.tags
   rw[iw ha List.mem_cons_self]at this
   cases this
 | x::r,y::s,ha,hb,h=>by
   obtain⟨a1,a2⟩:=List.pairwise_cons.1 ha
   obtain⟨b1,b2⟩:=List.pairwise_cons.1 hb
   have hx:=h x.tags
   rw[iw ha List.mem_cons_self]at hx
   have hy:=h y.tags
   rw[iw hb List.mem_cons_self]at hy
   rcases jA x.tags y.tags with c | c | c
   · rw[jC]at hx
     · cases hx
     · intro w hw e
       rcases List.mem_cons.1 hw with rfl | hw
       · rw[e,lex_irrefl]at c;cases c
       · have:=lex_trans c (b1 w hw)
         rw[e,lex_irrefl]at this;cases this
   · have tl:r=s:=CR a2 b2 fun t=>by
      by_cases e:x.tags=t
      · rw[jC fun w hw e2=>xi (a1 w hw) (e.trans e2.symm),jC fun w hw e2=>xi (b1 w hw) (c.symm.trans (e.trans e2.symm))]
      · have:=h t
        rwa [zQ e,zQ (fun e2=>e (c.trans e2))]at this
     rw[c,iw hb List.mem_cons_self]at hx
     obtain⟨xt,xw⟩:=x
     obtain⟨yt,yw⟩:=y
     simp only at c hx
     cases hx
     rw[c,tl]
   · rw[jC]at hy
     · cases hy
     · intro w hw e
       rcases List.mem_cons.1 hw with rfl | hw
       · rw[e,lex_irrefl]at c;cases c
       · have:=lex_trans c (a1 w hw)
         rw[e,lex_irrefl]at this;cases this
theorem N9{out:List World}{x:World}:∀y∈out.take (cF out x),lexB y.tags x.tags=true:=by
 intro y hy
 have kl:=rE out x
 obtain⟨i,hi⟩:=aLf.1 hy
 have il:=(aLe.1 hi).1
 rw[List.length_take]at il
 rw[List.getElem?_take_of_lt (by omega)]at hi
 have:=yg (out:=out) (x:=x) (k:=i) (by omega)
 rwa [bN hi]at this
theorem Oa{out:List World}{x:World}(u:UpW out)(c:¬(cF out x<out.length∧(nth out (cF out x)).tags=x.tags)):∀y∈out.drop (cF out x),lexB x.tags y.tags=true:=by
 intro y hy
 obtain⟨i,hi⟩:=aLf.1 hy
 have il:=(aLe.1 hi).1
 rw[List.length_drop]at il
 rw[List.getElem?_drop]at hi
 have c1:cF out x<out.length:=by omega
 have at_:=ue c1
 have first_:lexB x.tags (nth out (cF out x)).tags=true:=by
  rcases jA (nth out (cF out x)).tags x.tags with a | a | a
  · rw[a]at at_;cases at_
  · exact absurd ⟨c1,a⟩ c
  · exact a
 by_cases i0:i=0
 · subst i0
   rw[Nat.add_zero]at hi
   rwa [bN hi]at first_
 · have:=(List.pairwise_iff_getElem.1 u) (cF out x) (cF out x+i) (by omega) (by omega) (by omega)
   rw[← bN (aLc (by omega:cF out x<out.length)),←bN (aLc (by omega:cF out x+i<out.length)),bN hi]at this
   exact lex_trans first_ this
def YX(x:World):Option (List Wh)→List Wh
 | none=>x.whr
 | some w=>gn w x.whr
theorem rR{m:bV}(hm:m.ok){first:List Int}{out:List World}(h:BV m first out){x:World}(hx:WV m first x)(t:List Int):
 lookW (iE out x) t=if t=x.tags then some (YX x (lookW out t))else lookW out t:=by
 have bv:=(lD hm h hx).up
 have u:=h.up
 unfold iE at bv ⊢
 by_cases c:cF out x<out.length∧(nth out (cF out x)).tags=x.tags
 · rw[if_pos c]at bv ⊢
   obtain⟨c1,c2⟩:=c
   have mk:nth out (cF out x)∈out:=az c1
   have ms:(⟨x.tags,gn (nth out (cF out x)).whr x.whr⟩:World)∈out.set (cF out x) ⟨x.tags,gn (nth out (cF out x)).whr x.whr⟩:=
    aLf.2 ⟨cF out x,aLj c1⟩
   by_cases e:t=x.tags
   · rw[if_pos e,e,iw bv ms,←c2,iw u mk]
     rfl
   · rw[if_neg e]
     rcases xj out t with⟨w,hw,rfl⟩ | hn
     · rw[iw u hw]
       obtain⟨i,hi⟩:=aLf.1 hw
       refine iw bv (aLf.2 ⟨i,?_⟩)
       rw[aLi,hi]
       intro e2
       rw[← e2]at hi
       rw[bN hi]at c2
       exact e c2
     · rw[jC hn,jC]
       intro w hw
       rcases aLk hw with hw | rfl
       · exact hn w hw
       · exact fun e2=>e e2.symm
 · rw[if_neg c]at bv ⊢
   have lo:=N9 (out:=out) (x:=x)
   have hi:=Oa u c
   have td:out.take (cF out x)++out.drop (cF out x)=out:=List.take_append_drop _ _
   have mem:∀w,w∈out.take (cF out x)++[x]++out.drop (cF out x)↔w=x∨w∈out:=by
    intro w
    conv=>rhs;rw[← td]
    simp only[List.mem_append,List.mem_singleton]
    constructor
    · rintro ((a | a) | a)
      · exact .inr (.inl a)
      · exact .inl a
      · exact .inr (.inr a)
    · rintro (a | a | a)
      · exact .inl (.inr a)
      · exact .inl (.inl a)
      · exact .inr a
   have nx:∀w∈out,w.tags≠x.tags:=by
    intro w hw
    rw[← td]at hw
    rcases List.mem_append.1 hw with hw | hw
    · exact xi (lo w hw)
    · exact fun e=>xi (hi w hw) e.symm
   by_cases e:t=x.tags
   · rw[if_pos e,e,jC nx,iw bv ((mem x).2 (.inl rfl))]
     rfl
   · rw[if_neg e]
     rcases xj out t with⟨w,hw,rfl⟩ | hn
     · rw[iw u hw,iw bv ((mem w).2 (.inr hw))]
     · rw[jC hn,jC]
       intro w hw
       rcases (mem w).1 hw with rfl | hw
       · exact fun e2=>e e2.symm
       · exact hn w hw
structure SH(n p:Nat)(l:List Wh):Prop where
 ln:l.length=n
 fr:∀w∈l,w.frm.length=p
theorem KA{a b:Wh}(ht:a.time=b.time)(hl:a.frm.length=b.frm.length)(h:∀j,j<a.frm.length→nth a.frm j=nth b.frm j):a=b:=by
 obtain⟨t,f⟩:=a
 obtain⟨t2,f2⟩:=b
 simp only at ht hl h
 rw[ht,ud hl h]
theorem nH{a b:Wh}(h:a.frm.length=b.frm.length):(iY a b).1.time=max a.time b.time∧(iY a b).1.frm.length=a.frm.length∧∀j,j<a.frm.length→nth (iY a b).1.frm j=min (nth a.frm j) (nth b.frm j):=by
 unfold iY
 rw[if_pos h]
 exact⟨rfl,kv _ _ _,fun j hj=>x9 a.frm b.frm a.frm.length j hj⟩
theorem CS(a b:List Wh):∀p,p≤a.length→∀i,i<p→nth (jU a b p) i=(iY (nth a i) (nth b i)).1
 | 0,_,i,h=>by omega
 | p+1,hp,i,h=>by
   simp only[jU]
   rw[qp _ _ (by rw[ib];omega)]
   split
   · rename_i e;rw[e]
   · exact CS a b p (by omega) i (by omega)
theorem mJ{n p:Nat}{a b:List Wh}(ha:SH n p a)(hb:SH n p b):SH n p (gn a b)∧∀i,i<n→nth (gn a b) i=(iY (nth a i) (nth b i)).1:=by
 have l1:=ha.ln
 have l2:=hb.ln
 have e:gn a b=jU a b n:=by unfold gn;rw[l1,l2,Nat.min_self]
 have at_:=CS a b n (by omega)
 rw[e]
 refine⟨⟨by rw[ib];exact l1,fun w hw=>?_⟩,at_⟩
 obtain⟨i,hi⟩:=aLf.1 hw
 have il:=(aLe.1 hi).1
 rw[ib]at il
 rw[← bN hi,at_ i (by omega),(nH (by rw[ha.fr _ (az (by omega)),hb.fr _ (az (by omega))])).2.1]
 exact ha.fr _ (az il)
theorem BB{n p:Nat}{a b:List Wh}(ha:SH n p a)(hb:SH n p b):gn a b=gn b a:=by
 obtain⟨s1,n1⟩:=mJ ha hb
 obtain⟨s2,n2⟩:=mJ hb ha
 refine ud (by rw[s1.ln,s2.ln]) fun i hi=>?_
 rw[s1.ln]at hi
 rw[n1 i hi,n2 i hi]
 have fa:=ha.fr _ (az (l:=a) (j:=i) (by rw[ha.ln];exact hi))
 have fb:=hb.fr _ (az (l:=b) (j:=i) (by rw[hb.ln];exact hi))
 obtain⟨t1,l1,m1⟩:=nH (a:=nth a i) (b:=nth b i) (by rw[fa,fb])
 obtain⟨t2,l2,m2⟩:=nH (a:=nth b i) (b:=nth a i) (by rw[fa,fb])
 refine KA (by rw[t1,t2];omega) (by rw[l1,l2,fa,fb]) fun j hj=>?_
 rw[l1]at hj
 rw[m1 j hj,m2 j (by omega)];omega
theorem zR{n p:Nat}{a b c:List Wh}(ha:SH n p a)(hb:SH n p b)(hc:SH n p c):gn (gn a b) c=gn (gn a c) b:=by
 obtain⟨s1,n1⟩:=mJ ha hb
 obtain⟨s2,n2⟩:=mJ ha hc
 obtain⟨s3,n3⟩:=mJ s1 hc
 obtain⟨s4,n4⟩:=mJ s2 hb
 refine ud (by rw[s3.ln,s4.ln]) fun i hi=>?_
 rw[s3.ln]at hi
 rw[n3 i hi,n4 i hi,n1 i hi,n2 i hi]
 have fa:=ha.fr _ (az (l:=a) (j:=i) (by rw[ha.ln];exact hi))
 have fb:=hb.fr _ (az (l:=b) (j:=i) (by rw[hb.ln];exact hi))
 have fc:=hc.fr _ (az (l:=c) (j:=i) (by rw[hc.ln];exact hi))
 obtain⟨t1,l1,m1⟩:=nH (a:=nth a i) (b:=nth b i) (by rw[fa,fb])
 obtain⟨t2,l2,m2⟩:=nH (a:=nth a i) (b:=nth c i) (by rw[fa,fc])
 obtain⟨t3,l3,m3⟩:=nH (a:=(iY (nth a i) (nth b i)).1) (b:=nth c i) (by rw[l1,fa,fc])
 obtain⟨t4,l4,m4⟩:=nH (a:=(iY (nth a i) (nth c i)).1) (b:=nth b i) (by rw[l2,fa,fb])
 refine KA (by rw[t3,t4,t1,t2];omega) (by rw[l3,l4,l1,l2]) fun j hj=>?_
 rw[l3,l1]at hj
 rw[m3 j (by omega),m4 j (by omega),m1 j (by omega),m2 j (by omega)];omega
theorem WV.sh{m:bV}{first:List Int}{x:World}(h:WV m first x):SH first.length m.av.length x.whr:=
 ⟨h.wl,fun w hw=>(jM (h.wv w hw)).1⟩
theorem D5{m:bV}(hm:m.ok){first:List Int}{out:List World}(h:BV m first out){x y:World}(hx:WV m first x)(hy:WV m first y):iE (iE out x) y=iE (iE out y) x:=by
 have bx:=lD hm h hx
 have by_:=lD hm h hy
 refine CR (lD hm bx hy).up (lD hm by_ hx).up fun t=>?_
 rw[rR hm bx hy,rR hm by_ hx,rR hm h hx,rR hm h hy]
 by_cases e1:t=x.tags
 · by_cases e2:t=y.tags
   · rw[if_pos e2,if_pos e1,if_pos e1,if_pos e2]
     congr 1
     have sx:=hx.sh
     have sy:=hy.sh
     cases hl:lookW out t with
     | none=>exact BB sx sy
     | some w=>
       obtain⟨z,hz, -,rfl⟩:=GL hl
       exact zR (h.wv z hz).sh sx sy
   · rw[if_neg e2,if_pos e1,if_pos e1,if_neg e2]
 · by_cases e2:t=y.tags
   · rw[if_pos e2,if_neg e1,if_neg e1,if_pos e2]
   · rw[if_neg e2,if_neg e1,if_neg e1,if_neg e2]
theorem xk(l:List World):∀j,j≤l.length→pC l j=(l.take j).foldl iE []
 | 0,_=>by simp[pC]
 | j+1,h=>by
   rw[ju (by omega),List.foldl_append]
   simp only[pC,xk l j (by omega),List.foldl_cons,List.foldl_nil]
theorem sJ(l:List World):nF l=l.foldl iE []:=by
 unfold nF;rw[xk l _ (aLs _),List.take_length]
theorem GM{m:bV}(hm:m.ok){first:List Int}{l l':List World}(p:l.Perm l'):(∀x∈l,WV m first x)→∀out,BV m first out→l.foldl iE out=l'.foldl iE out:=by
 induction p with
 | nil=>intro _ out _;rfl
 | cons x _ ih=>
   intro h out ho
   exact ih (fun y hy=>h y (List.mem_cons_of_mem _ hy)) _ (lD hm ho (h x List.mem_cons_self))
 | swap x y l=>
   intro h out ho
   simp only[List.foldl_cons]
   rw[D5 hm ho (h y List.mem_cons_self) (h x (List.mem_cons_of_mem _ List.mem_cons_self))]
 | trans p1 p2 ih1 ih2=>
   intro h out ho
   rw[ih1 h out ho,ih2 (fun y hy=>h y (p1.mem_iff.2 hy)) out ho]
theorem D6{m:bV}(hm:m.ok){first:List Int}(pr:eM first=true)(f1:1≤first.length)(f2:first.length≤12){l l':List World}(p:l.Perm l')(h:∀x∈l,WV m first x):nF l=nF l':=by
 rw[sJ,sJ]
 exact GM hm p h [] ⟨pr,f1,f2,(fun x hx=>by cases hx),List.Pairwise.nil⟩
def nQ(out:List World)(x:World):List World:=
 if 0<out.length∧(nth out (out.length-1)).tags=x.tags then out.set (out.length-1) ⟨x.tags,gn (nth out (out.length-1)).whr x.whr⟩else out++[x]
theorem D7{out:List World}{x:World}(u:UpW out)(h:0<out.length→lexB x.tags (nth out (out.length-1)).tags=false):iE out x=nQ out x:=by
 have kl:=rE out x
 by_cases h0:0<out.length
 · have h:=h h0
   have ge:out.length-1≤cF out x:=by
    rcases Nat.lt_or_ge (cF out x) (out.length-1)with c | c
    · exfalso
      have at_:=ue (out:=out) (x:=x) (by omega)
      have lt:=(List.pairwise_iff_getElem.1 u) (cF out x) (out.length-1) (by omega) (by omega) c
      rw[← bN (aLc (by omega:cF out x<out.length)),←bN (aLc (by omega:out.length-1<out.length))]at lt
      rcases jA (nth out (out.length-1)).tags x.tags with a | a | a
      · have:=lex_trans lt a
        rw[at_]at this;cases this
      · rw[a]at lt;rw[at_]at lt;cases lt
      · rw[h]at a;cases a
    · exact c
   unfold iE nQ
   by_cases e:cF out x=out.length-1
   · rw[e]
     by_cases c:(nth out (out.length-1)).tags=x.tags
     · rw[if_pos ⟨by omega,c⟩,if_pos ⟨h0,c⟩]
     · exfalso
       have at_:=ue (out:=out) (x:=x) (by omega)
       rw[e]at at_
       rcases jA (nth out (out.length-1)).tags x.tags with a | a | a
       · rw[a]at at_;cases at_
       · exact c a
       · rw[h]at a;cases a
   · have e:cF out x=out.length:=by omega
     rw[e]
     have:¬(out.length<out.length∧(nth out out.length).tags=x.tags):=fun h=>by omega
     rw[if_neg this,List.take_length,List.drop_length,List.append_nil]
     have lt:=yg (out:=out) (x:=x) (k:=out.length-1) (by omega)
     rw[if_neg fun h=>xi lt h.2]
 · have e:out=[]:=List.eq_nil_of_length_eq_zero (by omega)
   subst e
   unfold iE nQ
   simp
end Go.Ev
namespace Go.Ev
open Go
variable [Lib] [cH] [b7] [gI] [gy] [jy] [fG] [fH] [iC] [gg] [fg] [eb] [iu] [eU]
theorem Rp.more{H:ah}{id:Nat}{es:List D}{fa fb:Nat→Nat}{out:List World}(hr:Rp H id es fa fb out)(t:ah):Rp (H++t) id es fa fb out:=
 ⟨by rw[iA (lP hr.arr)];exact hr.arr,hr.len,hr.el,fun j hj=>by rw[iA (lP (hr.ha j hj))];exact hr.ha j hj,fun j hj=>by rw[iA (lP (hr.hb j hj))];exact hr.hb j hj,hr.na,hr.nb,hr.nab,hr.nbb⟩
theorem yh{α:Type} [Dat α](l:List α)(x:α)(j:Nat):nth (l++[x]) j=if j<l.length then nth l j else if j=l.length then x else Dat.dflt:=by
 unfold nth
 simp only[aLl]
 split
 · rw[aLg (by assumption)]
 · split
   · rename_i e;rw[e,aLh (aLs _),Nat.sub_self];rfl
   · rw[aLm (by simp;omega)];rfl
theorem Rp.snoc{H:ah}{id:Nat}{es:List D}{fa fb:Nat→Nat}{out:List World}(hr:Rp H id es fa fb out)(x:World)(o o2:Obj):
 Rp (H.set id (.arr 2 false 0 (es++[.agg [.ref (H.length+1) 0 x.tags.length,.ref (H.length+2) 0 x.whr.length]]))++[o,.arr 1 false 0 (ints x.tags),.arr 2 false 0 (whs x.whr),o2]) id
  (es++[.agg [.ref (H.length+1) 0 x.tags.length,.ref (H.length+2) 0 x.whr.length]]) (fun j=>if j<out.length then fa j else H.length+1) (fun j=>if j<out.length then fb j else H.length+2) (out++[x]):=by
 have e2:=hr.len
 have il:=lP hr.arr
 have ba:∀j,j<out.length→fa j<H.length:=fun j hj=>lP (hr.ha j hj)
 have bb:∀j,j<out.length→fb j<H.length:=fun j hj=>lP (hr.hb j hj)
 have sl:∀o,(H.set id o).length=H.length:=fun o=>List.length_set
 have getN:∀(o3:Obj) (t:ah) (k:Nat),(H.set id o3++t)[H.length+k]?=t[k]?:=fun o3 t k=>by
  have:=fU (H:=H.set id o3) (t:=t) (k:=k)
  rwa [sl]at this
 refine⟨by rw[iA (by rw[sl];exact il),pg il],by simp[e2],?_,?_,?_,?_,?_,?_,?_⟩
 · intro j hj
   rw[aLv,List.length_singleton]at hj
   rw[yh]
   by_cases h:j<out.length
   · simp only[if_pos h];rw[aLg (by omega)];exact hr.el j h
   · have:j=out.length:=by omega
     subst this
     simp only[Nat.lt_irrefl,if_false,if_true]
     rw[aLh (by omega),e2,Nat.sub_self];rfl
 · intro j hj
   rw[aLv,List.length_singleton]at hj
   rw[yh]
   by_cases h:j<out.length
   · simp only[if_pos h];rw[iA (by rw[sl];exact ba j h),gz (fun e=>hr.na j h e.symm)];exact hr.ha j h
   · have:j=out.length:=by omega
     subst this
     simp only[Nat.lt_irrefl,if_false,if_true]
     rw[getN];rfl
 · intro j hj
   rw[aLv,List.length_singleton]at hj
   rw[yh]
   by_cases h:j<out.length
   · simp only[if_pos h];rw[iA (by rw[sl];exact bb j h),gz (fun e=>hr.nb j h e.symm)];exact hr.hb j h
   · have:j=out.length:=by omega
     subst this
     simp only[Nat.lt_irrefl,if_false,if_true]
     rw[getN];rfl
 · intro j hj;split
   · exact hr.na j (by assumption)
   · omega
 · intro j hj;split
   · exact hr.nb j (by assumption)
   · omega
 · intro i j hi hj;split
   · rename_i h1
     have:=ba i h1
     split
     · exact hr.nab i j h1 (by assumption)
     · omega
   · split
     · rename_i h1
       have:=bb j h1
       omega
     · omega
 · intro i j hi hj hne
   rw[aLv,List.length_singleton]at hi hj
   split
   · rename_i h1
     have:=bb i h1
     split
     · exact hr.nbb i j h1 (by assumption) hne
     · omega
   · split
     · rename_i h1
       have:=bb j h1
       omega
     · omega
abbrev tdS(s:List World)(id:Nat)(n:Nat)(j:Int)(H:ah):St:=
 ⟨[.und,.und,.und,.ref id 0 n,.und,.und,.und,.t (.sl (s.map World.e)),I s.length,I j,.und,.und],H⟩
theorem Ob(s:List World)(j:Int)(x:World)(hsx:x.sz)(out:List World)(ho:out.length≤1000000)(h0:0<out.length)(hso:∀x∈out,x.sz)(H:ah)(id:Nat)(es:List D)(fa fb:Nat→Nat)
 (hr:Rp H id es fa fb out) (hl:x.whr.length=(nth out (out.length-1)).whr.length):∀z0 z1 z2 z6:D,
 exS aS K.pY ⟨[z0,z1,z2,.ref id 0 out.length,.bp H.length 0,I out.length,z6,.t (.sl (s.map World.e)),I s.length,I j,I x.whr.length,I 0],H++[.box [.t (tL x.tags),.t (.sl (x.whr.map Wh.e))]]⟩=
 some (.exit 2,⟨[.und,.und,.und,.ref id 0 out.length,.bp H.length 0,I out.length,.und,.t (.sl (s.map World.e)),I s.length,I j,I x.whr.length,I x.whr.length],
  H.set (fb (out.length-1)) (.arr 2 false 0 (whs (gn (nth out (out.length-1)).whr x.whr)))++[.box [.t (tL x.tags),.t (.sl (x.whr.map Wh.e))]]⟩):=by
 intro z0 z1 z2 z6
 have e1:=hr.arr
 have e2:=hr.len
 have e3:=hr.el (out.length-1) (by omega)
 have e5:=hr.hb (out.length-1) (by omega)
 have e6:=hr.nb (out.length-1) (by omega)
 have e7:=lP e5
 have e8:=lP e1
 obtain⟨s1,s2,s3⟩:=hso _ (az (l:=out) (j:=out.length-1) (by omega))
 obtain⟨x1,x2,x3⟩:=hsx
 have ej:gn (nth out (out.length-1)).whr x.whr=jU (nth out (out.length-1)).whr x.whr x.whr.length:=by unfold gn;rw[hl,Nat.min_self]
 rw[ej]
 have ci:(out.length:Int)-1=((out.length-1:Nat):Int):=by omega
 generalize nth out (out.length-1)=y at*
 generalize out.length-1=k at*
 obtain⟨ta,wa⟩:=y
 obtain⟨tb,wb⟩:=x
 simp only at s1 s2 s3 x1 x2 x3 e3 e5 hl ⊢
 have jl:=ib wa wb
 have sl:∀o,(H.set (fb k) o).length=H.length:=fun o=>List.length_set
 have q1:∀o,(H.set (fb k) o)[id]?=H[id]?:=fun o=>gz e6
 have q2:∀o,(H.set (fb k) o)[fb k]?=some o:=fun o=>pg e7
 have q3:∀o (t:ah),(H.set (fb k) o++t)[H.length]?=t[0]?:=fun o t=>by
  have:=ir (H:=H.set (fb k) o) (t:=t)
  rwa [sl]at this
 have q4:∀o (t:ah),(H.set (fb k) o++t)[id]?=H[id]?:=fun o t=>by rw[iA (by rw[sl];exact e8),q1]
 have q5:∀o (t:ah),(H.set (fb k) o++t)[fb k]?=some o:=fun o t=>by rw[iA (by rw[sl];exact e7),q2]
 have q6:∀o o2 (t:ah),(H.set (fb k) o++t).set (fb k) o2=H.set (fb k) o2++t:=fun o o2 t=>by rw[FY (by rw[sl];exact e7),ph]
 refine eK (fun p=>⟨[.und,.und,.und,.ref id 0 out.length,.bp H.length 0,I out.length,.und,.t (.sl (s.map World.e)),I s.length,I j,I wb.length,I p],H.set (fb k) (.arr 2 false 0 (whs (jU wa wb p)))++[.box [.t (tL tb),.t (.sl (wb.map Wh.e))]]⟩) wb.length ?_ ?_ ?_ (by simp)
 · show(⟨_,H++_⟩:St)=⟨_,H.set (fb k) (.arr 2 false 0 (whs wa))++_⟩
   rw[xS e5];rfl
 · intro p hp
   have jp:=jl p
   have jn:=vj wa wb p p (aLs _)
   have jo:=IZ (nth wa p) (nth wb p) (s3 _ (az (by omega)))
   have hj:jU wa wb (p+1)=(jU wa wb p).set p (iY (nth wa p) (nth wb p)).1:=rfl
   rw[hj]
   generalize jU wa wb p=J at*
   generalize hu:nth wb p=u at*
   generalize nth wa p=w at*
   generalize iY w u=r at*
   obtain⟨⟨rt,rf⟩,re⟩:=r
   simp only at jo ⊢
   simp(disch:=omega)only[go_sem,K.kR,↓reduceIte,q3,q4,q5,q6,sl,e1,e2,e3,ci,hu,jn,jo,reduceAdd,reduceSub]
 · have jp:=jl wb.length
   generalize jU wa wb wb.length=J at*
   simp(disch:=omega)only[go_sem,K.kR,↓reduceIte,q3,q4,q5,q6,sl,reduceAdd,reduceSub]
theorem I7(s:List World)(hsl:s.length≤1000){j:Nat}(hj:j<s.length)(hx:(nth s j).sz)(out:List World)(ho:out.length≤100000)(hso:∀x∈out,x.sz)(H:ah)(id:Nat)(es:List D)(fa fb:Nat→Nat)
 (hr:Rp H id es fa fb out) (hl:0<out.length→(nth s j).whr.length=(nth out (out.length-1)).whr.length):
 ∃H' es' fa' fb',dB false [0,1,2,4,5,6,10,11] H.length (exS aS K.fY (tdS s id out.length j H))=some (tdS s id (nQ out (nth s j)).length ((j+1:Nat):Int) H')∧Rp H' id es' fa' fb' (nQ out (nth s j)):=by
 have e1:=hr.arr
 have e2:=hr.len
 have e8:=lP e1
 have ex:(s.map World.e)[j]?=some (nth s j).e:=fT _ hj
 have cw:=CN (nth s j) hx
 by_cases c:0<out.length∧(nth out (out.length-1)).tags=(nth s j).tags
 · obtain⟨c0,ct⟩:=c
   have jo:=Ob s j (nth s j) hx out (by omega) c0 hso H id es fa fb hr (hl c0)
   have s1:=(hso _ (az (l:=out) (j:=out.length-1) (by omega))).1
   have sm:=uc (nth out (out.length-1)).tags (nth s j).tags (by omega) (by have:=hx.1;omega)
   simp only[ct,decide_true]at sm
   have e3:=hr.el (out.length-1) (by omega)
   have e4:=hr.ha (out.length-1) (by omega)
   have mg:=(hr.merge (k:=out.length-1) (by omega) ⟨(nth s j).tags,gn (nth out (out.length-1)).whr (nth s j).whr⟩ ct (ib _ _ _)).more [.box [.t (tL (nth s j).tags),.t (.sl ((nth s j).whr.map Wh.e))]]
   have lw:nQ out (nth s j)=out.set (out.length-1) ⟨(nth s j).tags,gn (nth out (out.length-1)).whr (nth s j).whr⟩:=by unfold nQ;rw[if_pos ⟨c0,ct⟩]
   rw[lw]
   refine⟨_,es,fa,fb,?_,mg⟩
   have ci:(out.length:Int)-1=((out.length-1:Nat):Int):=by omega
   rw[List.length_set]
   generalize nth out (out.length-1)=y at*
   generalize out.length-1=k at*
   obtain⟨ta,wa⟩:=y
   simp only at ct
   subst ct
   generalize nth s j=x at*
   obtain⟨tb,wb⟩:=x
   simp only[tdS,ints]at*
   have g4:fa k<H.length:=lP e4
   simp(disch:=omega)only[go_sem,K.fY,↓reduceIte,ex,ci,sm,e1,e2,e3,e4,jo,iA,ir,fU,kB,pj,reduceAdd,reduceSub]
 · have lw:nQ out (nth s j)=out++[nth s j]:=by unfold nQ;rw[if_neg c]
   rw[lw]
   refine⟨_,_,_,_,?_,hr.snoc (nth s j) (.box [.t (tL (nth s j).tags),.t (.sl ((nth s j).whr.map Wh.e))]) (.arr 2 false 0 [.agg [.ref (H.length+1) 0 (nth s j).tags.length,.ref (H.length+2) 0 (nth s j).whr.length]])⟩
   rw[aLv,List.length_singleton]
   by_cases c0:0<out.length
   · have ct:¬(nth out (out.length-1)).tags=(nth s j).tags:=fun e=>c ⟨c0,e⟩
     have s1:=(hso _ (az (l:=out) (j:=out.length-1) (by omega))).1
     have sm:=uc (nth out (out.length-1)).tags (nth s j).tags (by omega) (by have:=hx.1;omega)
     simp only[ct,decide_false]at sm
     have e3:=hr.el (out.length-1) (by omega)
     have e4:=hr.ha (out.length-1) (by omega)
     have ci:(out.length:Int)-1=((out.length-1:Nat):Int):=by omega
     generalize nth out (out.length-1)=y at*
     generalize out.length-1=k at*
     obtain⟨ta,wa⟩:=y
     generalize nth s j=x at*
     obtain⟨tb,wb⟩:=x
     simp only[tdS,ints]at*
     have g4:fa k<H.length:=lP e4
     simp(disch:=omega)only[go_sem,K.fY,↓reduceIte,ex,ci,sm,e1,e2,e3,e4,cw,iA,ir,fU,FY,kB,pj,Nat.add_assoc,aLt,whs,reduceAdd,reduceSub]
   · generalize nth s j=x at*
     obtain⟨tb,wb⟩:=x
     simp only[tdS,ints]at*
     simp(disch:=omega)only[go_sem,K.fY,↓reduceIte,ex,e1,e2,cw,iA,ir,fU,FY,kB,pj,Nat.add_assoc,whs,reduceAdd,reduceSub]
theorem Oc{H:ah}{id:Nat}{es:List D}{fa fb:Nat→Nat}{out:List World}(hr:Rp H id es fa fb out):bK (Go.Ev.frz H 7) es=some (out.map World.e):=by
 have hl:=hr.len
 have key:∀(j:Nat) (hj:j<out.length),Go.Ev.frz H 7 (.agg [.ref (fa j) 0 (nth out j).tags.length,.ref (fb j) 0 (nth out j).whr.length])=some (nth out j).e:=by
  intro j hj
  have h1:=hr.ha j hj
  have h2:=hr.hb j hj
  simp(disch:=omega)only[go_sem,h1,h2,ints,whs,↓reduceIte]
 have:∀(es:List D) (ts:List T),es.length=ts.length→(∀(j:Nat) e t,es[j]?=some e→ts[j]?=some t→Go.Ev.frz H 7 e=some t)→bK (Go.Ev.frz H 7) es=some ts:=by
  intro es
  induction es with
  | nil=>intro ts h _;cases ts with
    | nil=>rfl
    | cons=>simp at h
  | cons e es ih=>
    intro ts h hh
    cases ts with
    | nil=>simp at h
    | cons t ts=>
      have h1:=hh 0 e t rfl rfl
      have h2:=ih ts (by simpa using h) fun j e t he ht=>hh (j+1) e t (by simpa using he) (by simpa using ht)
      simp only[bK,h1,aLq,h2,aLw]
 refine this es _ (by rw[List.length_map,hl]) fun j e t he ht=>?_
 have hj:j<out.length:=by rw[← hl];exact(aLe.1 he).1
 rw[hr.el j hj]at he
 rw[fT _ hj]at ht
 cases he;cases ht
 exact key j hj
theorem D8{H:ah}{id sz n:Nat}{pin:Bool}{es:List D}{ts:List T}(hid:H[id]?=some (.arr sz pin 0 es))(hn:n=es.length)(hf:bK (Go.Ev.frz H 7) es=some ts):finish 0 0 H [.ref id 0 n]=some (.t (.sl ts),[]):=by
 have e:Go.Ev.frz H depth (.ref id 0 n)=some (.sl ts):=by
  have ha:eZ H id 0 n=some (sz,pin,es):=by simp only[eZ,hid];rw[if_pos ⟨trivial,hn⟩]
  show((eZ H id 0 n).bind fun a=>bK (Go.Ev.frz H 7) a.2.2).map T.sl=_
  rw[ha,aLq,hf];rfl
 have o1:[D.t (T.sl ts)].all (old 0 depth)=true:=by simp[old]
 unfold finish
 simp only[if_true,bK,pw,e,aLw,aLq,o1,List.take_zero,List.all_nil,Bool.and_self,gW,Nat.zero_le,decide_true,qB]
 rw[if_pos (by simp)]
def tdP(s:List World)(j:Nat)(st:St):Prop:=
 ∃H es fa fb out,st=tdS s 1 out.length (j:Int) H∧Rp H 1 es fa fb out∧out=(s.take j).foldl nQ []
theorem I8{m:bV}(hm:m.ok){first:List Int}{out:List World}(h:∀y∈out,WV m first y){x:World}(hx:WV m first x):∀y∈nQ out x,WV m first y:=by
 intro y hy
 unfold nQ at hy
 split at hy
 · rename_i c
   obtain⟨c0,c1⟩:=c
   have wk:=h _ (az (l:=out) (j:=out.length-1) (by omega))
   have w1:=wk.wl
   have w2:=hx.wl
   rcases aLk hy with a | rfl
   · exact h y a
   · exact⟨hx.pm,by rw[gn,ib];exact w1,qt hm wk.wv hx.wv _ (by omega) (by omega)⟩
 · rcases List.mem_append.1 hy with hy | hy
   · exact h y hy
   · rw[List.mem_singleton.1 hy];exact hx
theorem CT{m:bV}(hm:m.ok){first:List Int}{s:List World}(hs:∀x∈s,WV m first x):∀j,j≤s.length→(∀y∈(s.take j).foldl nQ [],WV m first y)∧((s.take j).foldl nQ []).length≤j
 | 0,_=>⟨fun y hy=>by simp at hy,by simp⟩
 | j+1,h=>by
   obtain⟨a,b⟩:=CT hm hs j (by omega)
   rw[ju (by omega),List.foldl_append]
   generalize (s.take j).foldl nQ []=out at*
   simp only[List.foldl_cons,List.foldl_nil]
   refine⟨I8 hm a (hs _ (az (by omega))),?_⟩
   unfold nQ
   split
   · rw[List.length_set];omega
   · rw[aLv,List.length_singleton];omega
theorem WV.wsz{m:bV}(hm:m.ok){first:List Int}(f2:first.length≤12){x:World}(h:WV m first x):x.sz:=by
 have np:=hm.np
 have l1:=h.pm.length_eq
 have l2:=h.wl
 exact⟨by omega,by omega,fun w hw=>by have:=(jM (h.wv w hw)).1;omega⟩
theorem xl{m:bV}(hm:m.ok){first:List Int}(pr:eM first=true)(f1:1≤first.length)(f2:first.length≤12){s:List World}(hs:∀x∈s,WV m first x)(so:kf s):∀j,j≤s.length→
 (s.take j).foldl nQ []=(s.take j).foldl iE []∧BV m first ((s.take j).foldl iE [])∧∀w∈(s.take j).foldl iE [],∃k,k<j∧w.tags=(nth s k).tags
 | 0,_=>⟨rfl,⟨pr,f1,f2,(fun x hx=>by cases hx),List.Pairwise.nil⟩,fun w hw=>by simp at hw⟩
 | j+1,h=>by
   obtain⟨e,bv,fr⟩:=xl hm pr f1 f2 hs so j (by omega)
   rw[ju (by omega),List.foldl_append,List.foldl_append,e]
   simp only[List.foldl_cons,List.foldl_nil]
   have hx:=hs _ (az (l:=s) (j:=j) (by omega))
   generalize (s.take j).foldl iE []=out at*
   refine⟨(D7 bv.up fun h0=>?_).symm,lD hm bv hx,fun w hw=>?_⟩
   · obtain⟨k,hk,ek⟩:=fr _ (az (l:=out) (j:=out.length-1) (by omega))
     rw[ek]
     have:=(List.pairwise_iff_getElem.1 so) k j (by omega) (by omega) hk
     rwa [← bN (aLc (by omega:k<s.length)),←bN (aLc (by omega:j<s.length))]at this
   · unfold iE at hw
     split at hw
     · rcases aLk hw with a | rfl
       · obtain⟨k,hk,ek⟩:=fr w a;exact⟨k,by omega,ek⟩
       · exact⟨j,by omega,rfl⟩
     · simp only[List.mem_append,List.mem_singleton]at hw
       rcases hw with(hw | rfl) | hw
       · obtain⟨k,hk,ek⟩:=fr w (List.mem_of_mem_take hw);exact⟨k,by omega,ek⟩
       · exact⟨j,by omega,rfl⟩
       · obtain⟨k,hk,ek⟩:=fr w (List.mem_of_mem_drop hw);exact⟨k,by omega,ek⟩
end Go.Ev
namespace Go.Ev
open Go
variable [Lib] [cH] [b7] [gI] [gy] [jy] [fG] [fH] [iC] [gg] [fg] [eb]
theorem D9{m:bV}(h:m.ok)(b:Bel)(hs:b.sz):aS 0 N.dm [.t m.e,.t b.e] []=some (B (yH m b),[]):=by
 rw[← IX]
 refine aE K.nD rfl ?_
 obtain⟨h1,h2⟩:=hs
 have v:=oK h
 obtain⟨ws⟩:=b
 simp only at h1 h2
 have li:=Be ws.length 1 24
 unfold IW
 simp only
 by_cases c:1≤ws.length∧ws.length≤24
 · have li:aS 0 N.cK [I ws.length,I 1,I 24] []=some (B true,[]):=by rw[li,decide_eq_true (by omega)]
   have e0:(ws.map World.e)[0]?=some (nth ws 0).e:=fT _ (by omega)
   have sz:=(h2 _ (az (l:=ws) (j:=0) (by omega))).1
   have loop:=fun a b c d e=>zx (gc:=true) (dead:=[0,1,4,6,7]) (c:=K.bI) (vs:=[a,b,.bp 0 0,.bp 1 0,c,.t (tL (fE (nth ws 0).tags)),d,e,.t (.sl (ws.map World.e)),I ws.length,I 0]) (H:=[.box (au m),.box [.t (.sl (ws.map World.e))],.box [.t (tL (nth ws 0).tags)]])
    (swS m ws (nth ws 0).tags) ws.length (fun j=> !pwB m ws (nth ws 0).tags j) (fun _ q=>q.1= .ret∧q.2.vs[4]?=some (B false))
    (.exit 0,swS m ws (nth ws 0).tags ws.length) rfl
    (fun j hj hp=>(Gs h ws _ sz h2 j hj h1).1 (by simpa using hp))
    (fun j hj hp=>by
     obtain⟨q,q1,q2,q3⟩:=(Gs h ws _ sz h2 j hj h1).2 (by simpa using hp)
     exact⟨q,q1,by rw[q2];simp,q2,q3⟩)
    (by simp(disch:=omega)only[go_sem,K.bI,swS,↓reduceIte,reduceAdd,reduceSub]) (by simp)
   rw[pf]
   have va:=vg (nth ws 0).tags
   have so:=vi (nth ws 0).tags sz
   have loop:=loop (.t m.e) (.t (Bel.e ⟨ws⟩)) (B false) .und .und
   generalize nth ws 0=x at*
   obtain⟨first,whr⟩:=x
   simp only[swS]at*
   generalize fE first=sf at*
   rcases loop with⟨e1,e2⟩ | ⟨j,⟨x,vs,H⟩,e1,e2,e3,e4⟩
   · have e2:exS aS K.lV _=_:=e2
     simp(disch:=omega)only[go_sem,K.dm,↓reduceIte,v,li,e0,va,so,c,and_self,decide_true,Bool.true_and,e1,e2,Option.isNone,reduceAdd,reduceSub]
   · have e2:exS aS K.lV _=_:=e2
     simp only at e3 e4
     subst e3
     simp(disch:=omega)only[go_sem,K.dm,↓reduceIte,v,li,e0,va,so,c,and_self,decide_true,Bool.true_and,e1,e2,Option.isNone,reduceAdd,reduceSub]
     simp(disch:=omega)only[go_sem,gV,e4,List.take_zero]
 · have li:aS 0 N.cK [I ws.length,I 1,I 24] []=some (B false,[]):=by rw[li,decide_eq_false (by omega)]
   simp(disch:=omega)only[go_sem,K.dm,↓reduceIte,v,li,c,decide_false,Bool.false_and,reduceAdd,reduceSub]
end Go.Ev
namespace Go.Ev
open Go
variable [Lib] [cH] [b7] [fG] [fH]
abbrev I9:Int:=2147483648
section
variable {m : bV} (h : m.ok) {fl : List Spn}
include h
end
end Go.Ev
namespace Go.Ev
open Go
def clP(m:bV)(fl:List Spn)(y:List Int):Prop:=∀k,k<m.roads.length→∀back,0≤sC (nth m.roads k) (nth fl k) back→
 nth y ((nth m.roads k).src back).toNat+sC (nth m.roads k) (nth fl k) back≤I9→
 nth y ((nth m.roads k).dst back).toNat≤nth y ((nth m.roads k).src back).toNat+sC (nth m.roads k) (nth fl k) back
variable [Lib] [cH] [b7] [fG] [fH]
end Go.Ev
namespace Go.Ev
open Go
variable [Lib] [cH] [b7] [fG] [fH]
def YY(l:List Int):Prop:=∀x∈l,0≤x∧(x≤I9∨x=1099511627776)
theorem YY.bnd{l:List Int}(h:YY l):bnd l:=fun x hx=>by have:=h x hx;simp only[I9]at this;omega
end Go.Ev
namespace Go.Ev
open Go
variable [Lib] [cH] [b7] [gI] [gy] [fG] [fH]
structure TF(m:bV)(fl:List Spn)(s:Wh):Prop where
 ln:s.frm.length=m.av.length
 ti:inT s.time
 tm:YY s.frm
 lo:∀x∈s.frm,s.time≤x
 cl:clP m fl s.frm
theorem TF.valid{m:bV}{fl:List Spn}{s:Wh}(h:TF m fl s):FQ m s=true:=by
 simp only[FQ,aLr,decide_eq_true_eq,aLx,aLu]
 refine⟨fun j hj=>?_,h.ln,h.ti⟩
 have a:=h.tm _ (az hj)
 have b:=h.lo _ (az hj)
 unfold plS
 simp only[I9]at a
 omega
end Go.Ev
namespace Go.Ev
open Go
variable [Lib] [cH] [b7] [gI] [gy] [jy] [fG] [fH] [iC] [gg] [fg] [eb]
section
variable {m : bV} (hm : m.ok) (l : List Mch) (hl : l.length ≤ 1000) (hp : ∀ x ∈ l, x.pl.length ≤ 1000000) (s : Wh) (hs : s.frm.length ≤ 1000000) (b : Bel) (hb : b.sz) (t a : Int)
include hm hl hp hs hb
end
end Go.Ev
namespace Go.Ev
open Go
variable [Lib] [cH] [b7] [gI] [gy] [fG] [fH]
end Go.Ev
namespace Go.Ev
open Go
variable [Lib] [cH] [b7]
def sh(s x:Int):Int:=if x<1099511627776 then x+s else x
def shL(s:Int)(l:List Int):List Int:=l.map (sh s)
@[simp] theorem YZ (s : Int) (l : List Int) : (shL s l).length = l.length := List.length_map ..
end Go.Ev
namespace Go.Ev
open Go
variable [Lib] [cH] [b7] [gI] [gy] [jy] [fG] [fH] [iC] [gg]
theorem zS(l:List Int)(x:Int){j:Nat}(hj:j<l.length):nth (l++[x]) j=nth l j:=by
 unfold nth;simp[aLl,aLg hj]
def Y0(m:bV)(A:List Int)(k:Nat)(back:Bool)(d e:Nat):Prop:=k<m.roads.length∧0≤fF m k back 6 9 12∧(e:Int)=d+max 1 (fF m k back 6 9 12)∧(∀τ,d≤τ→τ<e→nth A τ=(nth m.roads k).src back)∧nth A e=(nth m.roads k).dst back∧e<A.length
theorem Y0.snoc{m:bV}{A:List Int}{k:Nat}{back:Bool}{d e:Nat}(h:Y0 m A k back d e)(x:Int):Y0 m (A++[x]) k back d e:=by
 obtain⟨h1,h2,h3,h4,h5,h6⟩:=h
 refine⟨h1,h2,h3,fun τ a b=>?_,?_,by simp;omega⟩
 · rw[zS _ _ (by omega)];exact h4 τ a b
 · rw[zS _ _ h6];exact h5
end Go.Ev
namespace Go.Ev
open Go
variable [Lib] [cH] [b7] [gI] [gy] [jy] [fG] [fH] [iC] [gg] [fg] [eb]
theorem Ja{m:bV}(hm:m.ok){b:Bel}(hb:yH m b=true)(i j t:Int):yH m (iF m b i j t).1=true:=by
 unfold iF
 split
 · exact hb
 · split
   · exact hb
   · rename_i hij
     split
     · exact hb
     · split
       · exact hb
       · rename_i hl
         obtain⟨ws⟩:=b
         have bv:=Gy hb
         obtain⟨h1,h2, -⟩:=mE hb
         simp only at h1 h2 hl hij ⊢
         have nb:=rQ hm bv.wv (i:=i.toNat) (j:=j.toNat) (by omega) (by omega) t ws.length (aLs _)
         have el:=pn i.toNat j.toNat t ws ws.length
         have tv:=CQ hm bv.pr bv.f1 bv.f2 nb _ (aLs _)
         refine BV.bel tv ?_ (Nat.not_lt.1 hl)
         have t1:∀k,1≤k→1≤(pC (gp i.toNat j.toNat t ws ws.length) k).length:=by
          intro k hk
          obtain⟨k,rfl⟩:∃k',k=k'+1:=⟨k-1,by omega⟩
          exact(vk _ _).2.2
         exact t1 _ (by omega)
end Go.Ev
namespace Go.Ev
open Go
variable [Lib] [cH] [b7] [gI] [gy] [jy] [fG] [fH] [iC] [gg] [fg] [eb] [iu] [eU]
theorem Jb(l:List Int)(hl:l.length≤1000000)(x:Int):aS 0 N.dz [I x,.bp 0 0] [.box [.t (tL l)]]=some (B (decide (x∈l)),[.box [.t (tL l)]]):=by
 refine aE K.lZ rfl ?_
 have g:=uZ l x (by omega)
 simp(disch:=omega)only[go_sem,K.dz,↓reduceIte,g,reduceAdd,reduceSub]
theorem Jc(a b:Wh)(t:Int):zD a b t=(ql a t).any fun x=>decide (x∈ql b t):=by
 rw[Bool.eq_iff_iff,List.any_eq_true]
 unfold zD
 rw[List.any_eq_true]
 constructor
 · rintro ⟨p,h1,h2⟩
   have h1:=aLu.1 h1
   have h2:=of_decide_eq_true h2
   exact⟨p,po.2 ⟨p,rfl,by omega,decide_eq_true h2.1⟩,decide_eq_true (po.2 ⟨p,rfl,by omega,decide_eq_true h2.2⟩)⟩
 · rintro ⟨x,h1,h2⟩
   obtain⟨p,rfl,h3,h4⟩:=po.1 h1
   obtain⟨q,e,h5,h6⟩:=po.1 (of_decide_eq_true h2)
   have e:p=q:=by omega
   subst e
   exact⟨p,aLu.2 (by omega),decide_eq_true ⟨of_decide_eq_true h4,of_decide_eq_true h6⟩⟩
theorem Jd(a b:Wh)(t:Int)(ha:a.frm.length≤1000000)(hb:b.frm.length≤1000000):aS 0 N.gN [.t a.e,.t b.e,I t] []=some (B (zD a b t),[]):=by
 refine aE K.oS rfl ?_
 have p1:=zM a t ha
 have p2:=zM b t hb
 have l1:=zG a t
 have l2:=zG b t
 have cf:aS 0 N.aG [.t (tL (ql a t)),.fn N.dz [.bp 0 0]] [.box [.t (tL (ql b t))]]=some (B ((ql a t).any fun x=>decide (x∈ql b t)),[.box [.t (tL (ql b t))]]):=
  oB (ql a t) (by omega) N.dz [[tL (ql b t)]] _ fun x hx=>Jb _ (by omega) x
 rw[Jc]
 generalize ql a t=pa at*
 generalize ql b t=pb at*
 obtain⟨t1,f1⟩:=a
 obtain⟨t2,f2⟩:=b
 simp only at*
 simp(disch:=omega)only[go_sem,K.gN,↓reduceIte,p1,p2,cf,reduceAdd,reduceSub]
theorem GN(l:List World)(h0:0<l.length)(hl:l.length≤1000000):aS 1 N.aM [.t (.sl (l.map World.e))] []=some (.ref 0 0 l.length,[.arr 2 false 0 ((l.map World.e).map .t)]):=by
 refine aE K.dh rfl ?_
 have e:=fun H=>tZ H (l.map World.e) (by intro h;rw[List.map_eq_nil_iff]at h;rw[h]at h0;simp at h0)
 simp(disch:=omega)only[go_sem,K.aM,↓reduceIte,e,reduceAdd,reduceSub]
abbrev sxV(ws out:List World)(i j:Nat)(t:Int)(k:Int):List D:=[.und,.und,I i,I j,I t,.und,.bp 1 0,.bp 2 0,.und,.und,.ref 3 0 out.length,.und,.und,.und,.und,.und,.und,.t (.sl (ws.map World.e)),I ws.length,I k,.und,.und]
theorem xm{α:Type} [Dat α](l:List α)(i:Nat)(h:i<l.length):l.set i (nth l i)=l:=by
 rw[bN (aLc h),List.set_getElem_self]
theorem aac(w:Wh)(t:Int)(c:¬(ed w t).2=0):(ed w t).1=w:=by
 unfold ed at c ⊢
 split
 · rfl
 · rename_i c';rw[if_neg c']at c;exact absurd rfl c
abbrev sxI(ws:List World)(n i j:Nat)(t:Int)(k:Int)(c:Int):List D:=[.und,.und,I i,I j,I t,.und,.bp 1 0,.bp 2 0,.und,.und,.ref 3 0 n,.und,.bp 7 0,.und,.und,.und,.und,.t (.sl (ws.map World.e)),I ws.length,I k,.t (.agg [.int .i64 i,.int .i64 j]),I c]
abbrev sxH(m:bV)(ws out:List World)(x0 x1:T)(tags:List Int)(q:List Wh):ah:=[.box (au m),.box [.t (.sl (ws.map World.e))],.box [.nil],.arr 2 false 0 ((out.map World.e).map .t),.box [.t x0,.t x1],.arr 1 false 0 ((tags.map (T.int .i64)).map .t),.arr 2 false 0 ((q.map Wh.e).map .t),.box [.ref 5 0 tags.length,.ref 6 0 q.length]]
theorem GO(m:bV)(ws out:List World)(x0 x1:T)(tags:List Int)(q:List Wh)(n i j:Nat)(t:Int)(k:Int)(hq:q.length≤1000000)(hi:i<q.length)(hw:(nth q i).frm.length≤1000000):
 dB true [0,1,5,8,9,11,13,14,15,16] 8 (exS aS K.cu ⟨sxI ws n i j t k 0,sxH m ws out x0 x1 tags q⟩)=some ⟨sxI ws n i j t k 1,sxH m ws out x0 x1 tags (q.set i (ed (nth q i) t).1)⟩:=by
 have r:=zH (nth q i) t hw
 by_cases c:(ed (nth q i) t).2=0
 · generalize ed (nth q i) t=z at*
   obtain⟨⟨t1,f1⟩,e1⟩:=z
   simp only at c
   subst c
   generalize hx:nth q i=x at*
   obtain⟨tx,fx⟩:=x
   simp only at*
   simp(disch:=omega)only[go_sem,K.cu,↓reduceIte,hx,r,sxH,List.length_set,reduceAdd,reduceSub]
 · have e:=aac _ _ c
   rw[e,xm q i hi]
   rw[e]at r
   generalize (ed (nth q i) t).2=z at*
   generalize hx:nth q i=x at*
   obtain⟨tx,fx⟩:=x
   simp only at*
   simp(disch:=omega)only[go_sem,K.cu,↓reduceIte,hx,r,c,sxH,reduceAdd,reduceSub]
theorem GP(m:bV)(ws out:List World)(x0 x1:T)(tags:List Int)(q:List Wh)(n i j:Nat)(t:Int)(k:Int)(hq:q.length≤1000000)(hi:j<q.length)(hw:(nth q j).frm.length≤1000000):
 dB true [0,1,5,8,9,11,13,14,15,16] 8 (exS aS K.cu ⟨sxI ws n i j t k 1,sxH m ws out x0 x1 tags q⟩)=some ⟨sxI ws n i j t k 2,sxH m ws out x0 x1 tags (q.set j (ed (nth q j) t).1)⟩:=by
 have r:=zH (nth q j) t hw
 by_cases c:(ed (nth q j) t).2=0
 · generalize ed (nth q j) t=z at*
   obtain⟨⟨t1,f1⟩,e1⟩:=z
   simp only at c
   subst c
   generalize hx:nth q j=x at*
   obtain⟨tx,fx⟩:=x
   simp only at*
   simp(disch:=omega)only[go_sem,K.cu,↓reduceIte,hx,r,sxH,List.length_set,Int.reduceAdd,reduceAdd,reduceSub]
 · have e:=aac _ _ c
   rw[e,xm q j hi]
   rw[e]at r
   generalize (ed (nth q j) t).2=z at*
   generalize hx:nth q j=x at*
   obtain⟨tx,fx⟩:=x
   simp only at*
   simp(disch:=omega)only[go_sem,K.cu,↓reduceIte,hx,r,c,sxH,Int.reduceAdd,reduceAdd,reduceSub]
theorem Je(m:bV)(ws out:List World)(x0 x1:T)(tags:List Int)(q:List Wh)(n i j:Nat)(hij:i≠j)(t:Int)(k:Int)(hq:q.length≤1000000)(hi:i<q.length)(hj:j<q.length)(hwi:(nth q i).frm.length≤1000000)(hwj:(nth q j).frm.length≤1000000)(z:D):
 exS aS K.mF ⟨[.und,.und,I i,I j,I t,.und,.bp 1 0,.bp 2 0,.und,.und,.ref 3 0 n,z,.bp 7 0,.und,.und,.und,.und,.t (.sl (ws.map World.e)),I ws.length,I k,.t (.agg [.int .i64 i,.int .i64 j]),I 0],sxH m ws out x0 x1 tags q⟩=
  some (.exit 3,⟨sxI ws n i j t k 2,sxH m ws out x0 x1 tags ((q.set i (ed (nth q i) t).1).set j (ed (nth q j) t).1)⟩):=by
 have n1:nth (q.set i (ed (nth q i) t).1) j=nth q j:=by rw[qp _ _ hi,if_neg (fun e=>hij e.symm)]
 have r1:=GO m ws out x0 x1 tags q n i j t k hq hi hwi
 have r2:=GP m ws out x0 x1 tags (q.set i (ed (nth q i) t).1) n i j t k (by rw[List.length_set];exact hq) (by rw[List.length_set];exact hj) (by rw[n1];exact hwj)
 rw[n1]at r2
 show kV true _ (exS aS K.cu) ⟨sxI ws n i j t k 0,sxH m ws out x0 x1 tags q⟩=_
 refine cM r1 (cM r2 (bE ?_ (by simp)))
 generalize (q.set i (ed (nth q i) t).1).set j (ed (nth q j) t).1=q2 at*
 simp(disch:=omega)only[go_sem,K.cu,↓reduceIte,sxH,reduceAdd,reduceSub]
theorem BD(m:bV)(ws:List World)(hw:ws.length≤100000)(i j:Nat)(hij:i≠j)(t:Int)(k:Nat)(hk:k<ws.length)(hs:(nth ws k).sz)
 (i1:i<(nth ws k).tags.length) (j1:j<(nth ws k).tags.length) (hl:(nth ws k).whr.length=(nth ws k).tags.length) (out:List World) (ho:out.length≤1000000):
 dB true [0,1,5,8,9,11,12,13,14,15,16,20,21] 4 (exS aS K.ft ⟨sxV ws out i j t k,exH m ws out⟩)=
  some ⟨sxV ws (tK i j t (nth ws k) out) i j t (k+1),exH m ws (tK i j t (nth ws k) out)⟩:=by
 have c1:=CN (nth ws k) hs
 have inn:=fun z=>Je m ws out (tL (nth ws k).tags) (.sl ((nth ws k).whr.map Wh.e)) (((nth ws k).tags.set i (nth (nth ws k).tags j)).set j (nth (nth ws k).tags i)) (nth ws k).whr out.length i j hij t k (by have:=hs.2.1;omega) (by omega) (by omega) (hs.2.2 _ (az (by omega))) (hs.2.2 _ (az (by omega))) z
 simp only[sxI,sxH,List.length_set]at inn
 have mt:=Jd (nth (nth ws k).whr i) (nth (nth ws k).whr j) t (hs.2.2 _ (az (by omega))) (hs.2.2 _ (az (by omega)))
 unfold tK x5 DM
 have n1:∀w,nth ((nth ws k).whr.set i w) j=nth (nth ws k).whr j:=fun w=>by rw[qp _ _ (by omega),if_neg (fun e=>hij e.symm)]
 generalize hx:nth ws k=x at*
 obtain⟨tags,whr⟩:=x
 obtain⟨s1,s2,s3⟩:=hs
 simp only at*
 generalize hwi:nth whr i=wi at*
 generalize hwj:nth whr j=wj at*
 generalize ed wi t=ri at*
 obtain⟨⟨t1,f1⟩,e1⟩:=ri
 generalize ed wj t=rj at*
 obtain⟨⟨t2,f2⟩,e2⟩:=rj
 obtain⟨ti,fi⟩:=wi
 obtain⟨tj,fj⟩:=wj
 simp only at*
 cases hm:zD ⟨ti,fi⟩ ⟨tj,fj⟩ t with
 | true=>
   rw[hm]at mt
   simp(disch:=omega)only[go_sem,K.ft,↓reduceIte,exH,hx,hwi,hwj,n1,c1,mt,inn,List.length_set,reduceAdd,reduceSub]
   simp only[sxV,aLv,List.length_singleton]
 | false=>
   rw[hm]at mt
   simp(disch:=omega)only[go_sem,K.ft,↓reduceIte,exH,hx,hwi,hwj,n1,c1,mt,inn,List.length_set,aLt,reduceAdd,reduceSub]
theorem Jf(ws:List World)(tags:List Int)(whr:List Wh)(hl:whr.length≤1000000)(hz:∀w∈whr,w.frm.length≤1000000)(k:Int):
 exS aS K.rJ ⟨[.und,.und,.bp 0 0,.bp 1 0,.und,I k,.bp 2 0,.bp 3 0,I 0],[.box [.t (.sl (ws.map World.e))],.box [.t (.sl (ws.map World.e))],.box [.t (tL tags),.t (.sl (whr.map Wh.e))],.box [.t (tL tags),.t (.sl (whr.map Wh.e))]]⟩=
  some (.exit 2,⟨[.und,.und,.bp 0 0,.bp 1 0,.und,I k,.bp 2 0,.bp 3 0,I whr.length],[.box [.t (.sl (ws.map World.e))],.box [.t (.sl (ws.map World.e))],.box [.t (tL tags),.t (.sl (whr.map Wh.e))],.box [.t (tL tags),.t (.sl (whr.map Wh.e))]]⟩):=by
 refine eK (fun j=>⟨[.und,.und,.bp 0 0,.bp 1 0,.und,I k,.bp 2 0,.bp 3 0,I j],[.box [.t (.sl (ws.map World.e))],.box [.t (.sl (ws.map World.e))],.box [.t (tL tags),.t (.sl (whr.map Wh.e))],.box [.t (tL tags),.t (.sl (whr.map Wh.e))]]⟩) whr.length rfl ?_ ?_ (by simp)
 · intro j hj
   have ex:(whr.map Wh.e)[j]?=some (nth whr j).e:=fT _ hj
   have sm:=Gr (nth whr j) (nth whr j) (hz _ (az hj))
   rw[decide_eq_true ⟨rfl,rfl⟩]at sm
   clear hz
   generalize nth whr j=x at*
   obtain⟨t,f⟩:=x
   simp(disch:=omega)only[go_sem,K.lX,↓reduceIte,ex,sm,reduceAdd,reduceSub]
 · simp(disch:=omega)only[go_sem,K.lX,↓reduceIte,reduceAdd,reduceSub]
theorem Jg(b:Bel)(hs:b.sz):aS 0 N.gM [.t b.e,.t b.e] []=some (B true,[]):=by
 refine aE K.oR rfl ?_
 obtain⟨ws⟩:=b
 obtain⟨s1,s2⟩:=hs
 simp only at*
 have loop:∀z0 z1 z4 z6 z7 z8:D,exS aS K.rK ⟨[z0,z1,.bp 0 0,.bp 1 0,z4,I 0,z6,z7,z8],[.box [.t (.sl (ws.map World.e))],.box [.t (.sl (ws.map World.e))]]⟩=
  some (.exit 0,⟨[.und,.und,.bp 0 0,.bp 1 0,.und,I ws.length,.und,.und,.und],[.box [.t (.sl (ws.map World.e))],.box [.t (.sl (ws.map World.e))]]⟩):=by
  intro z0 z1 z4 z6 z7 z8
  refine eK (fun j=>⟨[.und,.und,.bp 0 0,.bp 1 0,.und,I j,.und,.und,.und],[.box [.t (.sl (ws.map World.e))],.box [.t (.sl (ws.map World.e))]]⟩) ws.length rfl ?_ ?_ (by simp)
  · intro j hj
    have ex:(ws.map World.e)[j]?=some (nth ws j).e:=fT _ hj
    have z:=s2 _ (az hj)
    have sm:=uY (nth ws j).tags (nth ws j).tags (by have:=z.1;omega)
    rw[decide_eq_true rfl]at sm
    have inn:=Jf ws (nth ws j).tags (nth ws j).whr (by have:=z.2.1;omega) z.2.2 j
    clear s2 z
    generalize nth ws j=x at*
    obtain⟨tags,whr⟩:=x
    simp only at*
    simp(disch:=omega)only[go_sem,K.lY,↓reduceIte,ex,sm,inn,reduceAdd,reduceSub]
  · simp(disch:=omega)only[go_sem,K.lY,↓reduceIte,reduceAdd,reduceSub]
 simp(disch:=omega)only[go_sem,K.gM,↓reduceIte,loop,reduceAdd,reduceSub]
theorem GQ(b:Bel)(hs:b.sz)(e:Int):aS 0 N.gL [.t b.e,.t b.e,I e,I e] []=some (B true,[]):=by
 refine aE K.oP rfl ?_
 have s:=Jg b hs
 obtain⟨ws⟩:=b
 simp(disch:=omega)only[go_sem,K.gL,↓reduceIte,s,reduceAdd,reduceSub]
theorem GR{m:bV}(hm:m.ok){first:List Int}(pr:eM first=true)(f1:1≤first.length)(f2:first.length≤12)(l:List World)(hl:∀x∈l,WV m first x)(h0:0<l.length)(h20:l.length<60):
 aS 0 N.fC [.t (.sl (l.map World.e))] []=some (.t (.sl ((nF l).map World.e)),[]):=by
 obtain⟨s,hs,pm,so⟩:=D3 l (fun w hw=>(hl w hw).wsz hm f2) h0 h20
 have hv:=fun x hx=>hl x (pm.mem_iff.1 hx)
 have ln:=pm.length_eq
 have td:(s.take s.length).foldl nQ []=nF l:=by
  rw[(xl hm pr f1 f2 hv so s.length (aLs _)).1,List.take_length,←sJ]
  exact D6 hm pr f1 f2 pm hv
 have loop:∀z0 z1 z2 z4 z5 z6 z10 z11:D,∃q,exS aS K.pZ ⟨[z0,z1,z2,.ref 1 0 0,z4,z5,z6,.t (.sl (s.map World.e)),I s.length,I 0,z10,z11],[.box [.t (.sl (l.map World.e))],.arr 2 false 0 []]⟩=some q∧∃H es fa fb,q=(.exit 0,tdS s 1 (nF l).length s.length H)∧Rp H 1 es fa fb (nF l):=by
  intro z0 z1 z2 z4 z5 z6 z10 z11
  refine xc (tdP s) s.length _ ?_ ?_ ?_
  · exact⟨_,[],fun _=>0,fun _=>0,[],rfl,⟨rfl,rfl,fun j hj=>by simp at hj,fun j hj=>by simp at hj,fun j hj=>by simp at hj,fun j hj=>by simp at hj,fun j hj=>by simp at hj,fun i j hi=>by simp at hi,fun i j hi=>by simp at hi⟩,rfl⟩
  · rintro j st hj ⟨H,es,fa,fb,out,rfl,hr,ho⟩
    obtain⟨a,b⟩:=CT hm hv j (by omega)
    rw[← ho]at a b
    have wx:=hv _ (az (l:=s) (j:=j) hj)
    obtain⟨H',es',fa',fb',r1,r2⟩:=I7 s (by omega) hj (wx.wsz hm f2) out (by omega) (fun x hx=>(a x hx).wsz hm f2) H 1 es fa fb hr (fun h=>by
     rw[wx.wl,(a _ (az (l:=out) (j:=out.length-1) (by omega))).wl])
    refine .inl ⟨_,r1,H',es',fa',fb',_,rfl,r2,?_⟩
    rw[ju hj,List.foldl_append,←ho];rfl
  · rintro st ⟨H,es,fa,fb,out,rfl,hr,ho⟩
    rw[td]at ho
    subst ho
    refine⟨(.exit 0,tdS s 1 (nF l).length s.length H),?_,by simp,H,es,fa,fb,rfl,hr⟩
    simp only[tdS]
    simp(disch:=omega)only[go_sem,K.fY,↓reduceIte,reduceAdd,reduceSub]
 refine aE K.nG rfl ?_
 have va:=DX l
 obtain⟨q,hq,H,es,fa,fb,rfl,hr⟩:=loop (.t (.sl (l.map World.e))) .nil (.t (.sl (s.map World.e))) .und .und .und .und .und
 have fin:=D8 hr.arr hr.len.symm (Oc hr)
 simp only[tdS]at hq
 simp(disch:=omega)only[go_sem,K.fC,↓reduceIte,va,hs,hq,fin,reduceAdd,reduceSub]
theorem GS{m:bV}(h:m.ok)(b:Bel)(hs:b.sz)(h9:b.bD.length≤24)(i j t:Int):
 aS 0 N.bw [.t m.e,.t b.e,I i,I j,I t] []=some (.tup [.t (iF m b i j t).1.e,I (iF m b i j t).2],[]):=by
 refine aE K.kd rfl ?_
 have vb:=D9 h b hs
 unfold iF
 cases hb:yH m b with
 | false=>
   rw[hb]at vb
   obtain⟨ws⟩:=b
   obtain⟨av,roads⟩:=m
   simp only[au]at*
   simp(disch:=omega)only[go_sem,K.bw,↓reduceIte,vb,reduceAdd,reduceSub]
 | true=>
   rw[hb]at vb
   have bv:=Gy (ws:=b.bD) hb
   obtain⟨w1,w2,f1,f2,w5⟩:=mE hb
   obtain⟨ws⟩:=b
   obtain⟨s1,s2⟩:=hs
   simp only at s1 s2 w1 w2 w5 f1 f2 vb bv h9 ⊢
   have g0:(ws.map World.e)[0]?=some (nth ws 0).e:=fT _ (by omega)
   have wl:∀k,k<ws.length→(nth ws k).tags.length=(nth ws 0).tags.length∧(nth ws k).whr.length=(nth ws 0).tags.length:=fun k hk=>by
    obtain⟨q1,q2, -⟩:=jT (w5 k hk)
    exact⟨q1,q2⟩
   have fl:1≤(nth ws 0).tags.length∧(nth ws 0).tags.length≤12:=⟨bv.f1,bv.f2⟩
   have in1:=Be i 0 (((nth ws 0).tags.length:Int)-1)
   have in2:=Be j 0 (((nth ws 0).tags.length:Int)-1)
   have in3:=Be t 0 2147483648
   rw[if_neg (by simp)]
   by_cases ci:i<0∨((nth ws 0).tags.length:Int)≤i
   · rw[if_pos (by omega)]
     rw[decide_eq_false (show ¬(0≤i∧i≤((nth ws 0).tags.length:Int)-1)by omega)]at in1
     generalize nth ws 0=x at*
     obtain⟨first,whr⟩:=x
     obtain⟨av,roads⟩:=m
     simp only[au]at*
     simp(disch:=omega)only[go_sem,K.bw,↓reduceIte,vb,g0,in1,reduceAdd,reduceSub]
   · rw[decide_eq_true (show 0≤i∧i≤((nth ws 0).tags.length:Int)-1 by omega)]at in1
     by_cases cj:j<0∨((nth ws 0).tags.length:Int)≤j
     · rw[if_pos (by omega)]
       rw[decide_eq_false (show ¬(0≤j∧j≤((nth ws 0).tags.length:Int)-1)by omega)]at in2
       generalize nth ws 0=x at*
       obtain⟨first,whr⟩:=x
       obtain⟨av,roads⟩:=m
       simp only[au]at*
       simp(disch:=omega)only[go_sem,K.bw,↓reduceIte,vb,g0,in1,in2,reduceAdd,reduceSub]
     · rw[decide_eq_true (show 0≤j∧j≤((nth ws 0).tags.length:Int)-1 by omega)]at in2
       by_cases c5:i=j
       · rw[if_pos (by omega)]
         generalize nth ws 0=x at*
         obtain⟨first,whr⟩:=x
         obtain⟨av,roads⟩:=m
         simp only[au]at*
         subst c5
         simp(disch:=omega)only[go_sem,K.bw,↓reduceIte,vb,g0,in1,in2,reduceAdd,reduceSub]
       · rw[if_neg (by omega)]
         by_cases ct:inT t
         · rw[if_neg (fun h=>h ct)]
           rw[decide_eq_true (show 0≤t∧t≤2147483648 from ct)]at in3
           obtain⟨i',rfl⟩:=Int.eq_ofNat_of_zero_le (show 0≤i by omega)
           obtain⟨j',rfl⟩:=Int.eq_ofNat_of_zero_le (show 0≤j by omega)
           simp only[Int.toNat_natCast]
           have ln:=pn i' j' t ws
           have loop:∀z0 z1 z5 z8 z9 z11 z12 z13 z14 z15 z16 z20 z21:D,exS aS K.mG ⟨[z0,z1,I i',I j',I t,z5,.bp 1 0,.bp 2 0,z8,z9,.ref 3 0 ws.length,z11,z12,z13,z14,z15,z16,.t (.sl (ws.map World.e)),I ws.length,I 0,z20,z21],exH m ws ws⟩=
            some (.exit 1,⟨sxV ws (gp i' j' t ws ws.length) i' j' t ws.length,exH m ws (gp i' j' t ws ws.length)⟩):=by
            intro z0 z1 z5 z8 z9 z11 z12 z13 z14 z15 z16 z20 z21
            refine eK (fun k=>⟨sxV ws (gp i' j' t ws k) i' j' t k,exH m ws (gp i' j' t ws k)⟩) ws.length rfl ?_ ?_ (by simp)
            · intro k hk
              obtain⟨q1,q2⟩:=wl k hk
              have:=ln k
              exact BD m ws (by omega) i' j' (by omega) t k hk (s2 _ (az hk)) (by omega) (by omega) (by omega) _ (by omega)
            · have:=ln ws.length
              generalize gp i' j' t ws ws.length=L at*
              simp(disch:=omega)only[go_sem,K.ft,↓reduceIte,exH,sxV,reduceAdd,reduceSub]
           have ln:=ln ws.length
           have wv:=rQ h (fun x hx=>bv.wv x hx) (i:=i') (j:=j') (by omega) (by omega) t ws.length (aLs _)
           have ty:=GR h bv.pr bv.f1 bv.f2 (gp i' j' t ws ws.length) wv (by omega) (by omega)
           have cl:=GN ws (by omega) (by omega)
           generalize gp i' j' t ws ws.length=L at*
           generalize nF L=Z at*
           simp only[exH,sxV]at loop
           generalize nth ws 0=x at*
           obtain⟨first,whr⟩:=x
           obtain⟨av,roads⟩:=m
           simp only[au]at*
           by_cases c6:24<Z.length
           · simp(disch:=omega)only[go_sem,K.bw,↓reduceIte,vb,g0,in1,in2,in3,c5,c6,loop,ty,cl,reduceAdd,reduceSub]
           · simp(disch:=omega)only[go_sem,K.bw,↓reduceIte,vb,g0,in1,in2,in3,c5,c6,loop,ty,cl,reduceAdd,reduceSub]
         · rw[if_pos ct]
           rw[decide_eq_false (show ¬(0≤t∧t≤2147483648)from ct)]at in3
           generalize nth ws 0=x at*
           obtain⟨first,whr⟩:=x
           obtain⟨av,roads⟩:=m
           simp only[au]at*
           simp(disch:=omega)only[go_sem,K.bw,↓reduceIte,vb,g0,in1,in2,in3,c5,reduceAdd,reduceSub]
end Go.Ev
namespace Go.Ev
open Go
variable [Lib] [cH] [b7] [gI] [gy]
theorem GU{H H':ah}:∀(k:Nat) (d:D),(∀i∈ef H k d,∃sz pin pin' ep es,H[i]?=some (.arr sz pin ep es)∧H'[i]?=some (.arr sz pin' ep es))→frz H' k d=frz H k d∧ef H' k d=ef H k d:=by
 intro k
 induction k with
 | zero=>intro d _;cases d<;>exact⟨rfl,rfl⟩
 | succ k ih=>
   intro d h
   have list:∀es:List D,(∀i∈es.flatMap (ef H k),∃sz pin pin' ep es,H[i]?=some (.arr sz pin ep es)∧H'[i]?=some (.arr sz pin' ep es))→bK (frz H' k) es=bK (frz H k) es∧es.flatMap (ef H' k)=es.flatMap (ef H k):=by
    intro es
    induction es with
    | nil=>intro _;exact⟨rfl,rfl⟩
    | cons e es ihl=>
      intro he
      obtain⟨a1,a2⟩:=ih e fun i hi=>he i (by simp[hi])
      obtain⟨b1,b2⟩:=ihl fun i hi=>he i (by rw[List.flatMap_cons];exact List.mem_append_right _ hi)
      exact⟨by simp only[bK,a1,b1],by simp only[List.flatMap_cons,a2,b2]⟩
   cases d with
   | agg cs=>
     simp only[ef]at h
     obtain⟨a1,a2⟩:=list cs h
     exact⟨by simp only[frz,a1],by simp only[ef,a2]⟩
   | ref id ep n=>
     obtain⟨sz,pin,pin',ep',es,e1,e2⟩:=h id (by simp[ef])
     have:∀i∈es.flatMap (ef H k),∃sz pin pin' ep es,H[i]?=some (.arr sz pin ep es)∧H'[i]?=some (.arr sz pin' ep es):=fun i hi=>h i (by simp only[ef,e1];exact List.mem_cons_of_mem _ hi)
     obtain⟨a1,a2⟩:=list es this
     refine⟨?_,by simp only[ef,e1,e2,a2]⟩
     simp only[frz,eZ,e1,e2]
     by_cases c:ep=ep'∧n=es.length
     · simp only[if_pos c,aLq,a1]
     · simp only[if_neg c,Option.bind_none]
   | sub id ep n lo hi=>
     obtain⟨sz,pin,pin',ep',es,e1,e2⟩:=h id (by simp[ef])
     have:∀i∈es.flatMap (ef H k),∃sz pin pin' ep es,H[i]?=some (.arr sz pin ep es)∧H'[i]?=some (.arr sz pin' ep es):=fun i hi=>h i (by simp only[ef,e1];exact List.mem_cons_of_mem _ hi)
     obtain⟨a1,a2⟩:=list es this
     have:∀i∈((es.drop lo).take (hi-lo)).flatMap (ef H k),∃sz pin pin' ep es,H[i]?=some (.arr sz pin ep es)∧H'[i]?=some (.arr sz pin' ep es):=fun i hi=>by
      obtain⟨e,he,hi⟩:=List.mem_flatMap.1 hi
      exact this i (List.mem_flatMap.2 ⟨e,List.mem_of_mem_drop (List.mem_of_mem_take he),hi⟩)
     obtain⟨b1,b2⟩:=list _ this
     refine⟨?_,by simp only[ef,e1,e2,a2]⟩
     simp only[frz,eZ,e1,e2]
     by_cases c:ep=ep'∧n=es.length
     · simp only[if_pos c,aLq,b1]
     · simp only[if_neg c,Option.bind_none]
   | _=>exact⟨rfl,rfl⟩
section
variable {bm : bV} (hm : bm.ok) {t : Int} (i : Nat) {H : ah} {io iB iO n a fbi tl : Nat} {es : List D} {whr : List Wh} (e1 : H[iO]? = some (.box [.ref io 0 n])) (e2 : H[io]? = some (.arr 2 false 0 es)) (e3 : es.length = n)
 (e4:es[i]?=some (.agg [.ref a 0 tl,.ref fbi 0 whr.length])) (e5:H[fbi]?=some (.arr 2 false 0 (whs whr))) (e6:H[iB]?=some (.box (au bm))) (hi:i<n) (hn:n≤1000000) (hl:whr.length≤1000000)
include hm e1 e2 e3 e4 e5 e6 hi hn hl
end
theorem Rp.app{H:ah}{id:Nat}{es:List D}{fa fb:Nat→Nat}{out:List World}(hr:Rp H id es fa fb out)(t:ah):Rp (H++t) id es fa fb out:=
 ⟨by rw[iA (lP hr.arr)];exact hr.arr,hr.len,hr.el,fun j hj=>by rw[iA (lP (hr.ha j hj))];exact hr.ha j hj,fun j hj=>by rw[iA (lP (hr.hb j hj))];exact hr.hb j hj,hr.na,hr.nb,hr.nab,hr.nbb⟩
structure SlH(H:ah)(b:List World)(bm:bV)(iB iO io:Nat)(es:List D)(fa fb:Nat→Nat)(A:List Nat)(O:List World):Prop where
 h1:H[1]?=some (.box [.ref 3 0 b.length])
 h2:H[2]?=some (.box [.nil])
 hB:H[iB]?=some (.box (au bm))
 hO:H[iO]?=some (.box [.ref io 0 O.length])
 rp:Rp H io es fa fb O
 ar:∀i∈A,∃sz pin ep es,H[i]?=some (.arr sz pin ep es)
 nA:∀i∈A,∀j,j<O.length→i≠fb j
 eA:ef H 7 (.ref 3 0 b.length)=A
 fr:frz H 7 (.ref 3 0 b.length)=some (.sl (b.map World.e))
theorem SlH.step{H:ah}{b:List World}{bm:bV}{iB iO io:Nat}{es:List D}{fa fb:Nat→Nat}{A:List Nat}{O:List World}(h:SlH H b bm iB iO io es fa fb A O){i:Nat}(hi:i<O.length)(x:World)(ht:(nth O i).tags=x.tags)
 (hw:x.whr.length=(nth O i).whr.length) (o:Obj):SlH (H.set (fb i) (.arr 2 false 0 (whs x.whr))++[o]) b bm iB iO io es fa fb A (O.set i x):=by
 have hb:=h.rp.hb i hi
 have nb:∀ {k:Nat} {cs:List D},H[k]?=some (.box cs)→(H.set (fb i) (.arr 2 false 0 (whs x.whr))++[o])[k]?=some (.box cs):=fun{k cs} hk=>by
  have ne:fb i≠k:=fun e=>by rw[e,hk]at hb;cases hb
  rw[iA (by rw[List.length_set];exact lP hk),gz ne];exact hk
 have na:∀k∈A,(H.set (fb i) (.arr 2 false 0 (whs x.whr))++[o])[k]?=H[k]?:=fun k hk=>by
  obtain⟨sz,pin,ep,es',e⟩:=h.ar k hk
  rw[iA (by rw[List.length_set];exact lP e),gz (fun e=>h.nA k hk i hi e.symm)]
 have fc:=GU (H:=H) (H':=H.set (fb i) (.arr 2 false 0 (whs x.whr))++[o]) 7 (.ref 3 0 b.length) (fun k hk=>by
  rw[h.eA]at hk
  obtain⟨sz,pin,ep,es',e⟩:=h.ar k hk
  exact⟨sz,pin,pin,ep,es',e,by rw[na k hk];exact e⟩)
 refine⟨nb h.h1,nb h.h2,nb h.hB,by rw[List.length_set];exact nb h.hO,(h.rp.merge hi x ht hw).app _,fun k hk=>?_,by rw[List.length_set];exact h.nA,by rw[fc.2];exact h.eA,by rw[fc.1];exact h.fr⟩
 obtain⟨sz,pin,ep,es',e⟩:=h.ar k hk
 exact⟨sz,pin,ep,es',by rw[na k hk];exact e⟩
end Go.Ev
namespace Go.Ev
open Go
variable [Lib] [cH] [b7] [gI] [gy]
end Go.Ev
namespace Go.Ev
open Go
variable [Lib] [cH] [b7] [gI] [gy] [jy] [fG] [fH] [iC] [gg] [fg] [eb] [iu] [eU]
structure RnH(m:bV)(ws out:List World)(k9:Nat)(H:ah)(es:List D)(fa fb:Nat→Nat):Prop where
 e0:H[0]?=some (.box (au m))
 e1:H[1]?=some (.box [.t (.sl (ws.map World.e))])
 e2:H[2]?=some (.box [.nil])
 e9:H[k9]?=some (.box [.ref 3 0 ws.length])
 rp:Rp H 3 es fa fb out
theorem Rp.zh{H:ah}{id:Nat}{es:List D}{fa fb:Nat→Nat}{out:List World}(hr:Rp H id es fa fb out){k:Nat}{cs:List D}(hk:H[k]?=some (.box cs))(o:Obj):Rp (H.set k o) id es fa fb out:=by
 have ne:∀ {i:Nat} {sz ep:Nat} {p:Bool} {l:List D},H[i]?=some (.arr sz p ep l)→k≠i:=fun h e=>by rw[← e,hk]at h;cases h
 exact⟨by rw[gz (ne hr.arr)];exact hr.arr,hr.len,hr.el,fun j hj=>by rw[gz (ne (hr.ha j hj))];exact hr.ha j hj,fun j hj=>by rw[gz (ne (hr.hb j hj))];exact hr.hb j hj,hr.na,hr.nb,hr.nab,hr.nbb⟩
theorem BE{m:bV}(hm:m.ok)(tags bW:List Int)(t:Int):(kx m tags bW t).1.sz:=by
 have z:Bel.sz ⟨[]⟩:=⟨by simp,fun x hx=>by simp at hx⟩
 unfold kx
 split
 · rename_i c
   split
   · split
     · exact z
     · refine⟨by simp,fun x hx=>?_⟩
       have hx:x=⟨tags,i5 m bW t tags.length⟩:=List.mem_singleton.1 hx
       subst hx
       refine⟨by simp only;omega,by rw[kQ];omega,fun w hw=>?_⟩
       simp only[i5,List.mem_map,aLu]at hw
       obtain⟨i,hi,rfl⟩:=hw
       unfold jF
       have np:=hm.np
       split
       · simp
       · split
         · rename_i c1 c2
           have hb:bnd ((ly m.av.length).set (nth bW i).toNat t):=Bf (xa _) (by unfold inT at c2;omega) (by unfold inT at c2;omega)
           have:=sB hm t c2 none (by simp) (l:=(ly m.av.length).set (nth bW i).toNat t) (by rw[List.length_set,mA]) hb
           simp only
           omega
         · simp
   · exact z
 · exact z
end Go.Ev
namespace Go.Ev
open Go
variable [Lib] [cH] [b7] [gI] [gy] [jy] [fG] [fH] [iC] [gg]
end Go.Ev
namespace Go.Ev
open Go
variable [Lib] [cH] [b7] [gI] [gy] [jy] [fG] [fH] [iC] [gg] [fg] [eb] [iu] [eU]
theorem TG{m:bV}(hm:m.ok){b:Bel}(hb:yH m b=true):b.sz:=by
 obtain⟨w1,w2, -⟩:=mE hb
 have bv:=Gy (ws:=b.bD) hb
 exact⟨by omega,fun x hx=>(bv.wv x hx).wsz hm bv.f2⟩
theorem Od{m:bV}(hm:m.ok){b:Bel}(hs:b.sz)(i j t:Int):(iF m b i j t).1.sz:=by
 by_cases hb:yH m b=true
 · exact TG hm (Ja hm hb i j t)
 · unfold iF;rw[if_pos (by simpa using hb)];exact hs
def nR:bV:=⟨[⟨0,true⟩,⟨0,false⟩],[⟨0,1,12,1,true,false,1,1,0,0⟩]⟩
theorem rS:nR.ok:=by
 refine⟨by decide,by decide,fun p hp=>?_,fun r hr=>?_⟩
 · simp only[nR,List.mem_cons,List.not_mem_nil,or_false]at hp
   rcases hp with rfl | rfl<;>simp
 · simp only[nR,List.mem_cons,List.not_mem_nil,or_false]at hr
   subst hr
   constructor<;>simp[nR]
theorem Oe:aS 0 N.fX [] []=some (.t nR.e,[]):=by
 refine aE K.oQ rfl ?_
 simp(disch:=omega)only[go_sem,K.fX,↓reduceIte,reduceAdd,reduceSub]
 rfl
theorem Jh(m:bV){b:Bel}(h:b.bD.length≤24)(i j t:Int):(iF m b i j t).1.bD.length≤24:=by
 unfold iF
 split
 · exact h
 · split
   · exact h
   · split
     · exact h
     · split
       · exact h
       · simp only;omega
abbrev smV(n k:Int):List D:=[.und,.und,.bp 0 0,.bp 1 0,I n,.bp 2 0,I k,.und,.und,.und,.und,.und,.und]
abbrev smH(d:di)(b:Bel)(z:List Int):ah:=[d.obj,.box (au nR),.box [.t (.sl (b.bD.map World.e))],.arr 1 true 0 (ints z)]
theorem Ea{d:di}(hd:d.uV){b:Bel}(hb:b.sz)(hl:b.bD.length≤24)(z:List Int)(n:Int)(h1:1≤n)(h2:n≤5)(k:Nat)(hk:k<8):
 ∃(d2:di) (b2:Bel),d2.uV∧b2.sz∧b2.bD.length≤24∧dB true [0,1,7,8,9,10,11,12] 4 (exS aS K.gv ⟨smV n k,smH d b z⟩)=some ⟨smV n (k+1:Nat),smH d2 b2 z⟩:=by
 obtain⟨i,d1,no,l1,i0,i1⟩:=FV hd n h1 (by omega)
 obtain⟨j,d2,no2,l2,j0,j1⟩:=FV l1 n h1 (by omega)
 have s1:=GS rS b hb hl i j (5*k)
 have s2:=DO rS b hb i j (5*k)
 have sz:=Od rS hb i j (5*k)
 have sl:=Jh nR hl i j (5*k)
 have sm:=GQ _ sz (iF nR b i j (5*k)).2
 refine⟨d2,(iF nR b i j (5*k)).1,l2,sz,sl,?_⟩
 generalize iF nR b i j (5*k)=r at*
 obtain⟨⟨ws2⟩,e⟩:=r
 obtain⟨ws⟩:=b
 have wk:IntKind.i64.wrap (5*(k:Int))=5*(k:Int):=bz (by omega) (by omega)
 have lt:(k:Int)<8:=by omega
 have ng:¬(ws2.length:Int)>24:=by simp only at sl;omega
 have sc:([D.t (.agg [.sl (ws2.map World.e)]),I e].all iT)=false:=rfl
 clear hb hl sz
 simp only[smV,smH,ints,au,Bel.e,bV.e]at*
 generalize (nR.av.map Place.e)=PL at*
 generalize (nR.roads.map Road.e)=RD at*
 simp(disch:=omega)only[go_sem,K.gv,↓reduceIte,no,no2,wk,lt,s1,s2,sm,ng,sc,decide_false,Bool.not_true,reduceAdd,reduceSub]
theorem Ji(aw:aS 0 N.fB [] []=some (B true,[]))(li:List Int):aS 0 N.cO [.t (tL li)] []=some (B true,[]):=by
 refine aE K.jV rfl ?_
 have lo:=Im li
 by_cases c:li.length≤400
 · simp only[c,decide_true]at lo
   have ro:=Tc li
   have d0:(di.mk li 0).uV:=c
   generalize (di.mk li 0)=d at*
   obtain⟨n,d1,no,l1,n0,n1⟩:=FV d0 3 (by omega) (by omega)
   obtain⟨n,rfl⟩:=Int.eq_ofNat_of_zero_le n0
   have pa:=Oe
   have zl:(List.replicate (3+n) (0:Int)).length≤12:=by rw[List.length_replicate];omega
   have tl:(([1,2,3,4,5]:List Int).take (3+n)).length≤12:=by rw[List.length_take];simp;omega
   have st:=Bq rS (([1,2,3,4,5]:List Int).take (3+n)) (List.replicate (3+n) (0:Int)) (by omega) 0
   have sz:=BE rS (([1,2,3,4,5]:List Int).take (3+n)) (List.replicate (3+n) (0:Int)) 0
   have bl:(kx nR (([1,2,3,4,5]:List Int).take (3+n)) (List.replicate (3+n) (0:Int)) 0).1.bD.length≤24:=by
    unfold kx
    split
    · split
      · split<;>simp
      · simp
    · simp
   have lp:∀(b:Bel) (z:List Int),b.sz→b.bD.length≤24→∀z0 z1 z7 z8 z9 z10 z11 z12:D,∃q,exS aS K.lC ⟨[z0,z1,.bp 0 0,.bp 1 0,I (3+(n:Int)),.bp 2 0,I 0,z7,z8,z9,z10,z11,z12],smH d1 b z⟩=some q∧∃(d2:di) (b2:Bel),q=(.exit 0,⟨smV (3+(n:Int)) ((8:Nat):Int),smH d2 b2 z⟩):=by
    intro b z hb hl z0 z1 z7 z8 z9 z10 z11 z12
    refine xc (fun k st=>∃(d2:di) (b2:Bel),d2.uV∧b2.sz∧b2.bD.length≤24∧st=⟨smV (3+(n:Int)) k,smH d2 b2 z⟩) 8 _ ⟨d1,b,l1,hb,hl,rfl⟩ ?_ ?_
    · rintro k st hk ⟨d2,b2,l2,s2,e2,rfl⟩
      obtain⟨d3,b3,l3,s3,e3,r⟩:=Ea l2 s2 e2 z (3+(n:Int)) (by omega) (by omega) k hk
      exact .inl ⟨_,r,d3,b3,l3,s3,e3,rfl⟩
    · rintro st ⟨d2,b2,l2,s2,e2,rfl⟩
      refine⟨_,?_,by simp,d2,b2,rfl⟩
      simp only[smV,smH,ints,au]
      generalize (nR.av.map Place.e)=PL at*
      generalize (nR.roads.map Road.e)=RD at*
      simp(disch:=omega)only[go_sem,K.gv,↓reduceIte,reduceAdd,reduceSub]
   have tk:((([1,2,3,4,5]:List Int).take (3+n)).map (T.int .i64))=([tI 1,tI 2,tI 3,tI 4,tI 5]:List Ev.T).take (3+n):=by rw[List.map_take];rfl
   have rp:((List.replicate (3+n) (0:Int)).map (T.int .i64))=List.replicate (3+n) (tI 0):=List.map_replicate
   generalize kx nR (([1,2,3,4,5]:List Int).take (3+n)) (List.replicate (3+n) (0:Int)) 0=r at*
   obtain⟨⟨ws⟩,e⟩:=r
   obtain⟨q,h1,d2,b2,rfl⟩:=lp ⟨ws⟩ (List.replicate (3+n) (0:Int)) sz bl (.t (tL li)) (B false) .und .und .und .und .und .und
   have sc:([D.t (.agg [.sl (ws.map World.e)]),I e].all iT)=false:=rfl
   have w3:IntKind.i64.wrap (3+(n:Int))=(3+(n:Int)):=bz (by omega) (by omega)
   have tn:((3+(n:Int))).toNat=3+n:=by omega
   have n5:(3+(n:Int))≤5:=by omega
   have n0:(0:Int)≤(3+(n:Int)):=by omega
   have rd:(List.replicate (3+n) (D.t (tI 0)))=(List.replicate (3+n) (tI 0)).map D.t:=List.map_replicate.symm
   clear lp sz bl
   simp only[smH,smV,ints,au,Bel.e,bV.e,tL,tk,rp]at*
   generalize (nR.av.map Place.e)=PL at*
   generalize (nR.roads.map Road.e)=RD at*
   simp(disch:=omega)only[go_sem,K.cO,↓reduceIte,lo,ro,no,pa,w3,tn,n5,n0,rd,st,h1,sc,aw,Bool.not_true,reduceAdd,reduceSub]
 · simp only[c,decide_false]at lo
   simp only[tL]at*
   simp(disch:=omega)only[go_sem,K.cO,↓reduceIte,lo,aw,Bool.not_false,reduceAdd,reduceSub]
end Go.Ev
