/- Parts of the proof: see the text that holds the theorem. -/
import Derived.Test.YtgedjeljhicagaaGreatZ2
set_option linter.all false
open Nat (reduceAdd reduceSub)
set_option maxRecDepth 100000
namespace Go.Ev
open Go
abbrev I(n:Int):D:= .t (.int .i64 n)
abbrev B(b:Bool):D:= .t (.bool b)
def E7{β:Type}(call:aS):List R→List D→List D→ah→(List D→List D→ah→Option β)→Option β
 | rs,L,vs,H,K=>(evR call rs L vs H).bind fun q=>K q.1 q.2.1 q.2.2
def M6{β:Type}(call:aS)(rs:List R)(d:Option Nat)(L vs:List D)(K:List D→List D→ah→Option β)(p:D×ah):Option β:=
 E7 call rs (p.1::L) (wr vs d p.1) p.2 K
@[go_sem] theorem W4 {β : Type} (call : aS) (rs : List R) (d : Option Nat) (L vs : List D) (K : List D → List D → ah → Option β) (x : D) (H : ah) :
 M6 call rs d L vs K (x,H)=E7 call rs (x::L) (wr vs d x) H K:=(rfl)
@[go_sem] theorem W5 {β : Type} (call : aS) (L vs : List D) (H : ah) (K : List D → List D → ah → Option β) : E7 call [] L vs H K = K L vs H := (rfl)
@[go_sem] theorem TP {β : Type} (call : aS) (o : O) (d : Option Nat) (rs : List R) (L vs : List D) (H : ah) (K : List D → List D → ah → Option β) :
 E7 call (⟨o,d,none⟩::rs) L vs H K=(evO call (X.get vs L) H o).bind (M6 call rs d L vs K):=by
 simp[E7,evR,bY,Option.bind_assoc]
 rfl
def gate{β:Type}(c:Option D)(w:Bool)(a b:Option β):Option β:=match c with
 | some (.t (.bool x))=>if x=w then a else b
 | some (.tup [])=>b
 | _=>none
@[congr] theorem QF {β : Type} {c c' : Option D} {w : Bool} {a b : Option β} (h : True → c = c') : gate c w a b = gate c' w a b := by rw [h trivial]
@[go_sem] theorem W6 {β : Type} (p : Prop) [Decidable p] (a b : Option β) : gate (some (.t (.bool (decide p)))) true a b = if p then a else b := by
 by_cases h:p<;>simp[gate,h]
@[go_sem] theorem TQ {β : Type} (p : Prop) [Decidable p] (a b : Option β) : gate (some (.t (.bool (decide p)))) false a b = if p then b else a := by
 by_cases h:p<;>simp[gate,h]
@[go_sem] theorem TR {β : Type} (x : Bool) (a b : Option β) : gate (some (.t (.bool x))) true a b = if x = true then a else b := (rfl)
@[go_sem] theorem QG {β : Type} (x : Bool) (a b : Option β) : gate (some (.t (.bool x))) false a b = if x = true then b else a := by cases x <;> rfl
@[go_sem] theorem TS {β : Type} (w : Bool) (a b : Option β) : gate (some (.tup [])) w a b = b := (rfl)
@[go_sem] theorem TT {β : Type} (call : aS) (o : O) (d : Option Nat) (k : Nat) (w : Bool) (rs : List R) (L vs : List D) (H : ah) (K : List D → List D → ah → Option β) :
 E7 call (⟨o,d,some (k,w)⟩::rs) L vs H K=gate L[k]? w ((evO call (X.get vs L) H o).bind (M6 call rs d L vs K)) (E7 call rs (.tup []::L) (wr vs d (.tup [])) H K):=by
 simp only[E7,evR,bY]
 cases hL:L[k]? with
 | none=>simp[gate]
 | some c=>
   simp only[aLq]
   cases c with
   | t x=>
     cases x with
     | bool b=>cases b<;>cases w<;>simp[gate,Option.bind_assoc]<;>rfl
     | _=>simp[gate]
   | tup ds=>
     cases ds with
     | nil=>simp[gate]
     | cons=>simp[gate]
   | _=>simp[gate]
open Classical in
noncomputable def tu{β:Type}(p:Prop)(x:Option β):Option β:=if p then x else none
@[go_sem] theorem M7 {β : Type} (x : Option β) : tu True x = x := by simp [tu]
noncomputable def zL{β:Type}(call:aS)(all:List R)(n:Nat)(ps:List (Nat×Nat))(rs:List R)(L vs:List D)(H:ah)(acc:List Tr)(K:List D→List D→ah→Option β):Option β:=
 (evR call rs L vs H).bind fun q=>tu (oe call all n ((trace call rs L vs H).reverse++acc) ps) (K q.1 q.2.1 q.2.2)
noncomputable def Gj{β:Type}(call:aS)(all:List R)(n:Nat)(ps:List (Nat×Nat))(rs:List R)(d:Option Nat)(L vs:List D)(H:ah)(acc:List Tr)(K:List D→List D→ah→Option β)(p:D×ah):Option β:=
 zL call all n ps rs (p.1::L) (wr vs d p.1) p.2 ((L,vs,H)::acc) K
@[go_sem] theorem W7 {β : Type} (call : aS) (all : List R) (n : Nat) (ps : List (Nat × Nat)) (rs : List R) (d : Option Nat) (L vs : List D) (H : ah) (acc : List Tr) (K : List D → List D → ah → Option β) (x : D) (H' : ah) :
 Gj call all n ps rs d L vs H acc K (x,H')=zL call all n ps rs (x::L) (wr vs d x) H' ((L,vs,H)::acc) K:=(rfl)
@[go_sem] theorem W8 {β : Type} (call : aS) (all : List R) (n : Nat) (ps : List (Nat × Nat)) (L vs : List D) (H : ah) (acc : List Tr) (K : List D → List D → ah → Option β) :
 zL call all n ps [] L vs H acc K=tu (oe call all n ((L,vs,H)::acc) ps) (K L vs H):=by
 simp[zL,evR,trace]
theorem zM{β:Type}(call:aS)(all:List R)(n:Nat)(ps:List (Nat×Nat))(r:R)(rs:List R)(L vs:List D)(H:ah)(acc:List Tr)(K:List D→List D→ah→Option β):
 zL call all n ps (r::rs) L vs H acc K=(bY L r.g).bind fun w=>
  if w then(evO call (X.get vs L) H r.o).bind (Gj call all n ps rs r.d L vs H acc K)else zL call all n ps rs (.tup []::L) (wr vs r.d (.tup [])) H ((L,vs,H)::acc) K:=by
 obtain hw | ⟨w,hw⟩:bY L r.g=none∨∃w,bY L r.g=some w:=by cases bY L r.g<;>simp
 · simp[zL,evR,trace,hw]
 · cases w with
   | true=>
     obtain hq | ⟨q,hq⟩:evO call (X.get vs L) H r.o=none∨∃q,evO call (X.get vs L) H r.o=some q:=by cases evO call (X.get vs L) H r.o<;>simp
     · simp[zL,evR,trace,hw,hq]
     · simp[zL,evR,trace,hw,hq,Gj]
   | false=>simp[zL,evR,trace,hw]
@[go_sem] theorem TU {β : Type} (call : aS) (all : List R) (n : Nat) (ps : List (Nat × Nat)) (o : O) (d : Option Nat) (rs : List R) (L vs : List D) (H : ah) (acc : List Tr) (K : List D → List D → ah → Option β) :
 zL call all n ps (⟨o,d,none⟩::rs) L vs H acc K=(evO call (X.get vs L) H o).bind (Gj call all n ps rs d L vs H acc K):=by
 rw[zM];simp[bY]
@[go_sem] theorem TV {β : Type} (call : aS) (all : List R) (n : Nat) (ps : List (Nat × Nat)) (o : O) (d : Option Nat) (k : Nat) (w : Bool) (rs : List R) (L vs : List D) (H : ah) (acc : List Tr) (K : List D → List D → ah → Option β) :
 zL call all n ps (⟨o,d,some (k,w)⟩::rs) L vs H acc K=
  gate L[k]? w ((evO call (X.get vs L) H o).bind (Gj call all n ps rs d L vs H acc K)) (zL call all n ps rs (.tup []::L) (wr vs d (.tup [])) H ((L,vs,H)::acc) K):=by
 rw[zM]
 simp only[bY]
 cases hL:L[k]? with
 | none=>simp[gate]
 | some c=>
   simp only[aLq]
   cases c with
   | t x=>
     cases x with
     | bool b=>cases b<;>cases w<;>simp[gate]
     | _=>simp[gate]
   | tup ds=>
     cases ds with
     | nil=>simp[gate]
     | cons=>simp[gate]
   | _=>simp[gate]
def tR(call:aS):Option R→Option Tr→Option Tr→Option Tr→Prop
 | some r,some s,some a,some s'=>(match r.o with
   | .al _ _=>a.2.2[s.2.2.length]?=s'.2.2[s.2.2.length]?
   | .bs xs _=>bY s.1 r.g=some false∨((bR (X.get s.2.1 s.1) xs).bind mY).isSome=true
   | o=>pO o=true∧(bY s.1 r.g=some false∨xm (evO call (X.get s.2.1 s.1) a.2.2 o)=xm (evO call (X.get s.2.1 s.1) s.2.2 o)))
 | _,_,_,_=>False
@[go_sem] theorem QH (call : aS) (all : List R) (n : Nat) (acc : List Tr) : oe call all n acc [] = True := (rfl)
@[go_sem] theorem M8 (call : aS) (all : List R) (n : Nat) (acc : List Tr) (p m : Nat) (r : List (Nat × Nat)) :
 oe call all n acc ((p,m)::r)=(tR call all[p]? acc[n-p]? acc[n-m]? acc[n-(p+1)]?∧m≤n∧oe call all n acc r):=by
 simp only[oe,M5,tR]
 try rfl
section
variable (call : aS) (d : Option Nat) (gd : Option (Nat × Bool)) (L vs L' vs' : List D) (H H' : ah) (s' : Tr)
@[go_sem] theorem W9 (x : X) (n : Nat) (agg : Bool) : tR call (some ⟨.ld x n agg, d, gd⟩) (some (L, vs, H)) (some (L', vs', H')) (some s') =
 (bY L gd=some false∨xm (evO call (X.get vs L) H' (.ld x n agg))=xm (evO call (X.get vs L) H (.ld x n agg))):=by simp[tR,pO]
@[go_sem] theorem Xa (x i : X) (sz : Nat) : tR call (some ⟨.ia x i sz, d, gd⟩) (some (L, vs, H)) (some (L', vs', H')) (some s') =
 (bY L gd=some false∨xm (evO call (X.get vs L) H' (.ia x i sz))=xm (evO call (X.get vs L) H (.ia x i sz))):=by simp[tR,pO]
@[go_sem] theorem Xb (x : X) (lo hi : Option X) (sz : Nat) : tR call (some ⟨.sc x lo hi sz, d, gd⟩) (some (L, vs, H)) (some (L', vs', H')) (some s') =
 (bY L gd=some false∨xm (evO call (X.get vs L) H' (.sc x lo hi sz))=xm (evO call (X.get vs L) H (.sc x lo hi sz))):=by simp[tR,pO]
@[go_sem] theorem TW (x : X) (z : T) (sz : Nat) : tR call (some ⟨.mkt x z sz, d, gd⟩) (some (L, vs, H)) (some (L', vs', H')) (some s') =
 (bY L gd=some false∨xm (evO call (X.get vs L) H' (.mkt x z sz))=xm (evO call (X.get vs L) H (.mkt x z sz))):=by simp[tR,pO]
@[go_sem] theorem Xc (z : List D) (l : List (Nat × Nat)) (L2 vs2 : List D) (H2 : ah) : tR call (some ⟨.al z l, d, gd⟩) (some (L, vs, H)) (some (L', vs', H')) (some (L2, vs2, H2)) = (H'[H.length]? = H2[H.length]?) := (rfl)
@[go_sem] theorem Xd (xs : List X) (sz : Nat) : tR call (some ⟨.bs xs sz, d, gd⟩) (some (L, vs, H)) (some (L', vs', H')) (some s') =
 (bY L gd=some false∨((bR (X.get vs L) xs).bind mY).isSome=true):=(rfl)
@[go_sem] theorem KY (L : List D) : bY L none = some true := (rfl)
def M9(w:Bool):Option D→Option Bool
 | some (.t (.bool b))=>some (b==w)
 | some (.tup [])=>some false
 | _=>none
@[go_sem] theorem QI (w b : Bool) : M9 w (some (.t (.bool b))) = some (b == w) := (rfl)
@[go_sem] theorem TX (w : Bool) : M9 w (some (.tup [])) = some false := (rfl)
@[go_sem] theorem KZ (L : List D) (k : Nat) (w : Bool) : bY L (some (k, w)) = M9 w L[k]? := by
 simp only[bY]
 cases L[k]? with
 | none=>rfl
 | some c=>cases c with
   | t x=>cases x<;>rfl
   | tup ds=>cases ds<;>rfl
   | _=>rfl
@[go_sem] theorem TY (x : D) : xm (some (x, H)) = some x := (rfl)
attribute [go_sem] beq_true beq_false or_true true_or or_self
end
theorem CN(call:aS)(rs:List R)(vs:List D)(H:ah):E6 call rs [] vs H=evR call rs [] vs H:=by
 simp[E6,oe]
def Zs(L vs:List D)(H:ah):Option (Ex×St):=some (.normal,⟨vs,H⟩)
noncomputable def Zt(call:aS)(k:Nat)(a b:C)(L vs:List D)(H:ah):Option (Ex×St):=fp L[k]? (exS call a ⟨vs,H⟩) (exS call b ⟨vs,H⟩)
@[go_sem] theorem Zu (L vs : List D) (H : ah) : Zs L vs H = some (.normal, ⟨vs, H⟩) := (rfl)
@[go_sem] theorem Zv (call : aS) (k : Nat) (a b : C) (L vs : List D) (H : ah) : Zt call k a b L vs H = fp L[k]? (exS call a ⟨vs, H⟩) (exS call b ⟨vs, H⟩) := (rfl)
def andThen(x:Option (Ex×St))(k:St→Option (Ex×St)):Option (Ex×St):=x.bind fun p=>fI p k
@[go_sem] theorem H8 (st : St) (k : St → Option (Ex × St)) : andThen (some (.normal, st)) k = k st := (rfl)
@[go_sem] theorem Na (st : St) (k : St → Option (Ex × St)) : andThen (some (.ret, st)) k = some (.ret, st) := (rfl)
@[go_sem] theorem K0 (i : Nat) (st : St) (k : St → Option (Ex × St)) : andThen (some (.exit i, st)) k = some (.exit i, st) := (rfl)
@[go_sem] theorem K1 (k : St → Option (Ex × St)) : andThen none k = none := (rfl)
@[go_sem] theorem andThen_ite (c : Prop) [Decidable c] (a b : Option (Ex × St)) (k : St → Option (Ex × St)) : andThen (if c then a else b) k = if c then andThen a k else andThen b k := by
 split<;>rfl
@[go_sem] theorem Xe (call : aS) (st : St) : exS call .skip st = some (.normal, st) := (rfl)
@[go_sem] theorem Zw (call : aS) (rs : List R) (vs : List D) (H : ah) : exS call (.reg rs []) ⟨vs, H⟩ = E7 call rs [] vs H Zs := by
 simp only[exS,CN,E7]
 cases evR call rs [] vs H<;>rfl
@[go_sem] theorem Xf (call : aS) (rs : List R) (p : Nat × Nat) (ps : List (Nat × Nat)) (vs : List D) (H : ah) :
 exS call (.reg rs (p::ps)) ⟨vs,H⟩=zL call rs rs.length (p::ps) rs [] vs H [] Zs:=by
 simp only[exS,E6,zL,List.append_nil]
 by_cases h:oe call rs rs.length (trace call rs [] vs H).reverse (p::ps)
 · rw[if_pos h]
   simp only[tu,if_pos h]
   cases evR call rs [] vs H<;>rfl
 · rw[if_neg h]
   simp only[tu,if_neg h]
   cases evR call rs [] vs H<;>rfl
@[go_sem] theorem Zx (call : aS) (a b : C) (st : St) : exS call (.seq a b) st = andThen (exS call a st) (exS call b) := (rfl)
@[go_sem] theorem Zy (call : aS) (rs : List R) (k : Nat) (a b : C) (vs : List D) (H : ah) : exS call (.ite rs [] k a b) ⟨vs, H⟩ = E7 call rs [] vs H (Zt call k a b) := by
 simp only[exS,CN,E7]
 cases evR call rs [] vs H<;>rfl
@[go_sem] theorem Xg (call : aS) (rs : List R) (p : Nat × Nat) (ps : List (Nat × Nat)) (k : Nat) (a b : C) (vs : List D) (H : ah) :
 exS call (.ite rs (p::ps) k a b) ⟨vs,H⟩=zL call rs rs.length (p::ps) rs [] vs H [] (Zt call k a b):=by
 simp only[exS,E6,zL,List.append_nil]
 by_cases h:oe call rs rs.length (trace call rs [] vs H).reverse (p::ps)
 · rw[if_pos h]
   simp only[tu,if_pos h]
   cases evR call rs [] vs H<;>rfl
 · rw[if_neg h]
   simp only[tu,if_neg h]
   cases evR call rs [] vs H<;>rfl
@[go_sem] theorem Zz (call : aS) (rs : List R) (ps : List (Nat × Nat)) (k : Nat) (a b c : C) (st : St) : exS call (.its rs ps k a b c) st = andThen (exS call (.ite rs ps k a b) st) (exS call c) := (rfl)
@[go_sem] theorem ZA (call : aS) (rs : List R) (ps : List (Nat × Nat)) (k : Nat) (a b c : C) (st : St) : exS call (.itk rs ps k a b c) st = exS call (.ite rs ps k (.seq a c) (.seq b c)) st := (rfl)
@[go_sem] theorem ZB (call : aS) (j : Nat) (a b : C) (vs : List D) (H : ah) : exS call (.itv j a b) ⟨vs, H⟩ = fp vs[j]? (exS call a ⟨vs, H⟩) (exS call b ⟨vs, H⟩) := (rfl)
@[go_sem] theorem Xh (call : aS) (id : Nat) (st : St) : exS call (.exit id) st = some (.exit id, st) := (rfl)
@[go_sem] theorem ZC (call : aS) (st : St) : exS call .ret st = some (.ret, st) := (rfl)
@[go_sem] theorem Xi (call : aS) (st : St) : exS call .fail st = none := (rfl)
@[go_sem] theorem ZD (call : aS) (x p f : Nat) (r1 : List R) (p1 : List (Nat × Nat)) (r2 : List R) (p2 : List (Nat × Nat)) (vs : List D) (H : ah) : exS call (.rng x p f r1 p1 r2 p2) ⟨vs, H⟩ = (E3 (stepG (E6 call) vs p r1 p1 r2 p2) (H6 f vs[x]?) H).map fun H => (.normal, ⟨vs, H⟩) := (rfl)
@[go_sem] theorem ZE (call : aS) (v : Bool) (c : C) (st : St) : exS call (.cnd v c) st = exS call c st := (rfl)
def vo(id:Nat)(x:Option (Ex×St)):Option (Ex×St):=x.map (leave id)
@[go_sem] theorem ZF (call : aS) (id : Nat) (c : C) (st : St) : exS call (.blk id c) st = vo id (exS call c st) := (rfl)
@[go_sem] theorem K3 (id : Nat) (st : St) : vo id (some (.normal, st)) = some (.normal, st) := by simp [vo, leave]
@[go_sem] theorem TZ (id : Nat) (st : St) : vo id (some (.ret, st)) = some (.ret, st) := by simp [vo, leave]
@[go_sem] theorem QJ (id i : Nat) (st : St) : vo id (some (.exit i, st)) = if i = id then some (.normal, st) else some (.exit i, st) := by
 simp only[vo,leave,aLw,Ex.exit.injEq]
 split<;>rfl
@[go_sem] theorem QK (id : Nat) : vo id none = none := (rfl)
@[go_sem] theorem T0 (id : Nat) (c : Prop) [Decidable c] (a b : Option (Ex × St)) : vo id (if c then a else b) = if c then vo id a else vo id b := by
 split<;>rfl
@[congr] theorem Nb {c c' : Option D} {a b : Option (Ex × St)} (h : True → c = c') : fp c a b = fp c' a b := by rw [h trivial]
@[go_sem] theorem T1 (p : Prop) [Decidable p] (a b : Option (Ex × St)) : fp (some (.t (.bool (decide p)))) a b = if p then a else b := by
 by_cases h:p<;>simp[fp,h]
@[go_sem] theorem QL (p : Prop) [Decidable p] (a b : Option (Ex × St)) : fp (some (.t (.bool (!decide p)))) a b = if p then b else a := by
 by_cases h:p<;>simp[fp,h]
@[go_sem] theorem Xj (a : Option (Ex × St)) : fp (some .ub) a a = a := by simp [fp]
@[go_sem] theorem QM (x : Bool) (a b : Option (Ex × St)) : fp (some (.t (.bool x))) a b = if x = true then a else b := (rfl)
def eP(gc:Bool)(dead:List Nat)(k:Nat)(x:Option (Ex×St)):Option St:=x.bind fun p=>match p.1 with
 | .normal=>tidy gc dead k p.2
 | _=>none
@[go_sem] theorem I5 (gc : Bool) (dead : List Nat) (k : Nat) (st : St) : eP gc dead k (some (.normal, st)) = tidy gc dead k st := (rfl)
@[go_sem] theorem QN (gc : Bool) (dead : List Nat) (k : Nat) (c : Prop) [Decidable c] (a b : Option (Ex × St)) : eP gc dead k (if c then a else b) = if c then eP gc dead k a else eP gc dead k b := by
 split<;>rfl
theorem fL{gc:Bool}{dead:List Nat}{body:St→Option (Ex×St)}{st st2:St}(h:eP gc dead st.H.length (body st)=some st2)
 {p:Ex×St} (h2:kz gc dead body st2=some p):kz gc dead body st=some p:=by
 unfold eP at h
 obtain⟨⟨e,st1⟩,hq,h⟩:=aLa.1 h
 cases e with
 | normal=>exact xk hq h h2
 | ret=>cases h
 | exit=>cases h
theorem yn{gc:Bool}{dead:List Nat}{body:St→Option (Ex×St)}(s:Nat→St){p:Ex×St}(n:Nat)
 (h:∀j,j<n→eP gc dead (s j).H.length (body (s j))=some (s (j+1))) (he:kz gc dead body (s n)=some p):kz gc dead body (s 0)=some p:=by
 have:=tq (s:=s) n 0 (fun j _ hj=>by
  have h:=h j (by omega)
  unfold eP at h
  obtain⟨⟨e,st1⟩,hq,h⟩:=aLa.1 h
  cases e with
  | normal=>exact⟨st1,hq,h⟩
  | ret=>cases h
  | exit=>cases h) (by simpa using he)
 exact this
def Xk(res:List (Nat×Option (Nat×Bool)))(k raw:Nat)(p:Ex×St):Option (D×ah):=match p.1 with
 | .exit _=>none
 | _=>(gV p.2 res).bind (finish k raw p.2.H)
@[go_sem] theorem Xl (res : List (Nat × Option (Nat × Bool))) (k raw : Nat) (vs : List D) (H : ah) : Xk res k raw (.ret, ⟨vs, H⟩) = (gV ⟨vs, H⟩ res).bind (finish k raw H) := (rfl)
@[go_sem] theorem Nc (res : List (Nat × Option (Nat × Bool))) (k raw : Nat) (vs : List D) (H : ah) : Xk res k raw (.normal, ⟨vs, H⟩) = (gV ⟨vs, H⟩ res).bind (finish k raw H) := (rfl)
theorem Nd{fs:Nat→Option Fn}{raw f:Nat}{args:List D}{H:ah}{fn:Fn}{r:D×ah}(hf:fs f=some fn)(hn:fn.bq=args.length)
 (h:(exS (kI fs) fn.body ⟨pJ args fn.vars,H⟩).bind (Xk fn.res H.length raw)=some r) (h0:fn.prim=[]:=by rfl):kI fs raw f args H=some r:=by
 obtain⟨p,hp,he⟩:=aLa.1 h
 exact IY hf hn (I4 _ _ _ hp) he h0
@[go_sem] theorem Xm {α β : Type} (c : Prop) [Decidable c] (a b : Option α) (k : α → Option β) : (if c then a else b).bind k = if c then a.bind k else b.bind k := by
 split<;>rfl
@[go_sem] theorem ZG {α β : Type} (c : Prop) [Decidable c] (a b : Option α) (k : α → β) : (if c then a else b).map k = if c then a.map k else b.map k := by
 split<;>rfl
theorem T2(a b:Int):(a==b)=decide (a=b):=by rw[Bool.eq_iff_iff];simp
theorem qf{n:Int}(h1: -9223372036854775808≤n)(h2:n≤9223372036854775807):IntKind.i64.wrap n=n:=by
 have e:IntKind.i64.wrap n=if n % 18446744073709551616≥9223372036854775808 then n % 18446744073709551616-18446744073709551616 else n % 18446744073709551616:=by
  simp[IntKind.wrap,IntKind.signed,IntKind.bits]
 rw[e];split<;>omega
section
variable {α β : Type}
@[go_sem] theorem Nf (a : α) (f : α → Option β) : (some a).bind f = f a := (rfl)
@[go_sem] theorem QO (a : α) (f : α → β) : (some a).map f = some (f a) := (rfl)
@[go_sem] theorem Ng (f : α → Option β) : (none : Option α).bind f = none := (rfl)
@[go_sem] theorem QP (f : α → β) : (none : Option α).map f = none := (rfl)
@[go_sem] theorem QQ (a : α) (l : List α) (f : α → β) : (a :: l).map f = f a :: l.map f := (rfl)
@[go_sem] theorem T3 (f : α → β) : ([] : List α).map f = [] := (rfl)
@[go_sem] theorem QR (a : α) (l : List α) : (a :: l)[0]? = some a := (rfl)
@[go_sem] theorem QS (a : α) (l : List α) (n : Nat) : (a :: l)[n + 1]? = l[n]? := (rfl)
@[go_sem] theorem Nh (a d : α) (l : List α) : (a :: l).getD 0 d = a := (rfl)
@[go_sem] theorem Ni (a d : α) (l : List α) (n : Nat) : (a :: l).getD (n + 1) d = l.getD n d := (rfl)
@[go_sem] theorem QT (d : α) (n : Nat) : ([] : List α).getD n d = d := by simp
@[go_sem] theorem QU (a b : α) (l : List α) : (a :: l).set 0 b = b :: l := (rfl)
@[go_sem] theorem QV (a b : α) (l : List α) (n : Nat) : (a :: l).set (n + 1) b = a :: l.set n b := (rfl)
@[go_sem] theorem I6 (a : α) (l m : List α) : (a :: l) ++ m = a :: (l ++ m) := (rfl)
@[go_sem] theorem K4 (l : List α) : [] ++ l = l := (rfl)
@[go_sem] theorem K5 (l : List α) : l ++ [] = l := by simp
@[go_sem] theorem H9 (a : α) (l : List α) (f : α → List β) : (a :: l).flatMap f = f a ++ l.flatMap f := by simp
@[go_sem] theorem I7 (f : α → List β) : ([] : List α).flatMap f = [] := by simp
@[go_sem] theorem K6 : ([] : List α).length = 0 := (rfl)
@[go_sem] theorem I8 (a : α) (l : List α) : (a :: l).length = l.length + 1 := (rfl)
@[go_sem] theorem K7 (l : List α) (f : α → β) : (l.map f).length = l.length := by simp
@[go_sem] theorem Gk (l m : List α) : (l ++ m).length = l.length + m.length := by simp
@[go_sem] theorem CO (n : Nat) (a : α) : (List.replicate n a).length = n := by simp
@[go_sem] theorem K8 (l : List α) (i : Nat) (a : α) : (l.set i a).length = l.length := by simp
@[go_sem] theorem Nj (l : List α) : l.drop 0 = l := (rfl)
@[go_sem] theorem Nk (a : α) (l : List α) (n : Nat) : (a :: l).drop (n + 1) = l.drop n := (rfl)
@[go_sem] theorem QW (n : Nat) : ([] : List α).drop n = [] := by simp
@[go_sem] theorem Nl (l : List α) : l.take 0 = [] := (rfl)
@[go_sem] theorem Nn (a : α) (l : List α) (n : Nat) : (a :: l).take (n + 1) = a :: l.take n := (rfl)
@[go_sem] theorem QX (n : Nat) : ([] : List α).take n = [] := by simp
@[go_sem] theorem No (a b : α) : (bif true then a else b) = a := (rfl)
@[go_sem] theorem K9 (a b : α) : (bif false then a else b) = b := (rfl)
@[go_sem] theorem QY (n : Nat) : n + 0 = n := (rfl)
@[go_sem] theorem QZ (n : Nat) : 0 + n = n := by simp
@[go_sem] theorem Q0 (a b : α) : (some a = some b) = (a = b) := by simp
@[go_sem] theorem Xn (a : α) : (some a).isSome = true := (rfl)
end
attribute [go_sem] decide_true decide_false if_true if_false aLt Bool.true_eq_false decide_eq_true_eq decide_eq_false_iff_not aLr Bool.or_eq_true Bool.not_eq_true' Bool.not_eq_true Bool.not_eq_false
 Bool.and_true Bool.true_and Bool.and_false Bool.false_and Bool.or_true Bool.true_or Bool.or_false Bool.false_or and_true true_and and_self not_true_eq_false not_false_eq_true beq_iff_eq bne_iff_ne ne_eq
@[go_sem] theorem Q1 : (!true) = false := (rfl)
@[go_sem] theorem Np : (!false) = true := (rfl)
@[go_sem] theorem adi (vs L : List D) (j : Nat) : X.get vs L (.v j) = vs[j]? := (rfl)
@[go_sem] theorem adj (vs L : List D) (k : Nat) : X.get vs L (.l k) = L[k]? := (rfl)
@[go_sem] theorem adk (vs L : List D) (d : D) : X.get vs L (.c d) = some d := (rfl)
@[go_sem] theorem adl (vs L : List D) (n : Int) : X.get vs L (.i n) = some (I n) := (rfl)
@[go_sem] theorem adm (vs L : List D) (x : Bool) : X.get vs L (.b x) = some (B x) := (rfl)
@[go_sem] theorem ZH (vs : List D) (x : D) : wr vs none x = vs := (rfl)
@[go_sem] theorem ZI (vs : List D) (s : Nat) (x : D) : wr vs (some s) x = vs.set s x := (rfl)
@[go_sem] theorem Q2 (args : List D) : pJ args [] = [] := (rfl)
@[go_sem] theorem Nq (args : List D) (s : Nat) (r : List Nat) : pJ args (s :: r) = args.getD s .und :: pJ args r := (rfl)
def ZJ(H:ah)(d:D):Option (D×ah):=some (d,H)
@[go_sem] theorem ZK (H : ah) (d : D) : ZJ H d = some (d, H) := (rfl)
def jJ{α:Type}(a:α)(l:Option (List α)):Option (List α):=l.map (a:: ·)
@[go_sem] theorem Q3 {α : Type} (a : α) (l : List α) : jJ a (some l) = some (a :: l) := (rfl)
@[go_sem] theorem Q4 {α : Type} (a : α) : jJ a none = none := (rfl)
@[go_sem] theorem Xo {α β : Type} (f : α → Option β) : bR f [] = some [] := (rfl)
def ab6{α β:Type}(f:α→Option β)(r:List α)(y:β):Option (List β):=jJ y (bR f r)
@[go_sem] theorem Nr {α β : Type} (f : α → Option β) (r : List α) (y : β) : ab6 f r y = jJ y (bR f r) := (rfl)
@[go_sem] theorem zN {α β : Type} (f : α → Option β) (x : α) (r : List α) : bR f (x :: r) = (f x).bind (ab6 f r) := (rfl)
section
variable (call : aS) (get : X → Option D) (H : ah)
@[go_sem] theorem adn (x : X) : evO call get H (.mv x) = (get x).bind (ZJ H) := by simp only [evO]; cases get x <;> rfl
def Xp(c a b:Option D):Option (D×ah):=c.bind fun c=>a.bind fun a=>b.bind fun b=>(IH c a b).map fun d=>(d,H)
@[go_sem] theorem ado (c a b : X) : evO call get H (.pk c a b) = Xp H (get c) (get a) (get b) := (rfl)
@[go_sem] theorem T4 (x p q : Bool) : Xp H (some (.t (.bool x))) (some (.t (.bool p))) (some (.t (.bool q))) = some (.t (.bool (bif x then p else q)), H) := by cases x <;> rfl
@[go_sem] theorem T5 (a b : D) : Xp H (some (.t (.bool true))) (some a) (some b) = some (a, H) := (rfl)
@[go_sem] theorem Q5 (a b : D) : Xp H (some (.t (.bool false))) (some a) (some b) = some (b, H) := (rfl)
@[go_sem] theorem Xq (x p : Bool) : (bif x then p else false) = (x && p) := by cases x <;> rfl
@[go_sem] theorem ZL (x q : Bool) : (bif x then true else q) = (x || q) := by cases x <;> rfl
def hT(f:BinOp)(x y:Option D):Option (D×ah):=x.bind fun a=>y.bind fun b=>(wY f a b).map fun d=>(d,H)
@[go_sem] theorem ab7 (f : BinOp) (x y : X) : evO call get H (.bin f x y) = hT H f (get x) (get y) := (rfl)
section
variable (k j : IntKind) (a b : Int)
@[go_sem] theorem T6 : hT H .add (some (.t (.int k a))) (some (.t (.int k b))) = some (.t (.int k (k.wrap (a + b))), H) := by simp [hT, wY, A4]
@[go_sem] theorem T7 : hT H .sub (some (.t (.int k a))) (some (.t (.int k b))) = some (.t (.int k (k.wrap (a - b))), H) := by simp [hT, wY, A4]
@[go_sem] theorem T8 : hT H .mul (some (.t (.int k a))) (some (.t (.int k b))) = some (.t (.int k (k.wrap (a * b))), H) := by simp [hT, wY, A4]
@[go_sem] theorem T9 : hT H .quo (some (.t (.int k a))) (some (.t (.int k b))) = if b = 0 then none else some (.t (.int k (k.wrap (a.tdiv b))), H) := by simp only [hT, wY, A4]; by_cases h : b = 0 <;> simp [h]
@[go_sem] theorem Ua : hT H .rem (some (.t (.int k a))) (some (.t (.int k b))) = if b = 0 then none else some (.t (.int k (a.tmod b)), H) := by simp only [hT, wY, A4]; by_cases h : b = 0 <;> simp [h]
@[go_sem] theorem Ub : hT H .eql (some (.t (.int k a))) (some (.t (.int k b))) = some (.t (.bool (decide (a = b))), H) := by simp [hT, wY, A4, T2]
@[go_sem] theorem Uc : hT H .neq (some (.t (.int k a))) (some (.t (.int k b))) = some (.t (.bool (decide (¬ a = b))), H) := by simp [hT, wY, A4, bne, T2]
@[go_sem] theorem Ud : hT H .lss (some (.t (.int k a))) (some (.t (.int k b))) = some (.t (.bool (decide (a < b))), H) := by simp [hT, wY, A4]
@[go_sem] theorem Ue : hT H .leq (some (.t (.int k a))) (some (.t (.int k b))) = some (.t (.bool (decide (a ≤ b))), H) := by simp [hT, wY, A4]
@[go_sem] theorem Uf : hT H .gtr (some (.t (.int k a))) (some (.t (.int k b))) = some (.t (.bool (decide (b < a))), H) := by simp [hT, wY, A4]
@[go_sem] theorem Ug : hT H .geq (some (.t (.int k a))) (some (.t (.int k b))) = some (.t (.bool (decide (b ≤ a))), H) := by simp [hT, wY, A4]
@[go_sem] theorem Uh (h : 0 ≤ b) : hT H .shl (some (.t (.int k a))) (some (.t (.int j b))) = some (.t (.int k (k.wrap (a * 2 ^ min b.toNat k.bits))), H) := by simp [hT, wY, wX, Int.not_lt.2 h]
@[go_sem] theorem Ui (h : 0 ≤ b) : hT H .shr (some (.t (.int k a))) (some (.t (.int j b))) = some (.t (.int k (a.fdiv (2 ^ min b.toNat k.bits))), H) := by simp [hT, wY, wX, Int.not_lt.2 h]
@[go_sem] theorem Uj : hT H .and (some (.t (.int k a))) (some (.t (.int k b))) = some (.t (.int k (k.wrap (BitVec.ofInt k.bits a &&& BitVec.ofInt k.bits b).toNat)), H) := by simp [hT, wY, A4]
@[go_sem] theorem Xr : hT H .or (some (.t (.int k a))) (some (.t (.int k b))) = some (.t (.int k (k.wrap (BitVec.ofInt k.bits a ||| BitVec.ofInt k.bits b).toNat)), H) := by simp [hT, wY, A4]
@[go_sem] theorem Uk : hT H .xor (some (.t (.int k a))) (some (.t (.int k b))) = some (.t (.int k (k.wrap (BitVec.ofInt k.bits a ^^^ BitVec.ofInt k.bits b).toNat)), H) := by simp [hT, wY, A4]
def ZM(f:UnOp)(a:D):Option (D×ah):=(unD f a).map fun d=>(d,H)
@[go_sem] theorem adp (f : UnOp) (x : X) : evO call get H (.un f x) = (get x).bind (ZM H f) := (rfl)
@[go_sem] theorem Xs (x : Bool) : ZM H .not (.t (.bool x)) = some (.t (.bool (!x)), H) := (rfl)
@[go_sem] theorem Xt : ZM H .neg (.t (.int k a)) = some (.t (.int k (k.wrap (0 - a))), H) := (rfl)
def ab8(k:IntKind)(a:D):Option (D×ah):=(Mv k a).map fun d=>(d,H)
@[go_sem] theorem adq (x : X) : evO call get H (.cv k x) = (get x).bind (ab8 H k) := (rfl)
@[go_sem] theorem Xu : ab8 H k (.t (.int j a)) = some (.t (.int k (k.wrap a)), H) := (rfl)
end
def oo(q:EqK)(neg:Bool)(x y:Option D):Option (D×ah):=x.bind fun a=>y.bind fun b=>(KT q neg a b).map fun d=>(d,H)
@[go_sem] theorem ab9 (q : EqK) (neg : Bool) (x y : X) : evO call get H (.eqk q neg x y) = oo H q neg (get x) (get y) := (rfl)
@[go_sem] theorem Q6 (x y : Bool) : oo H .bool false (some (.t (.bool x))) (some (.t (.bool y))) = some (.t (.bool (x == y)), H) := (rfl)
@[go_sem] theorem Ns (x y : Bool) : oo H .bool true (some (.t (.bool x))) (some (.t (.bool y))) = some (.t (.bool (!(x == y))), H) := (rfl)
def La:List T→List T→Bool
 | .int _ a::xs,.int _ b::ys=>decide (a=b)&&La xs ys
 | _,_=>true
def D3:Nat→List T→List T→Bool
 | 0,[],[]=>true
 | n+1,.int j _::xs,.int k _::ys=>decide (j=k)&&D3 n xs ys
 | _,_,_=>false
@[go_sem] theorem Ul (k j : IntKind) (a b : Int) (xs ys : List T) : La (.int k a :: xs) (.int j b :: ys) = (decide (a = b) && La xs ys) := (rfl)
@[go_sem] theorem Xv : La [] [] = true := (rfl)
@[go_sem] theorem Xw : D3 0 [] [] = true := (rfl)
@[go_sem] theorem Um (n : Nat) (k : IntKind) (a b : Int) (xs ys : List T) : D3 (n + 1) (.int k a :: xs) (.int k b :: ys) = D3 n xs ys := by simp [D3]
theorem vq:∀ {n:Nat} {xs ys:List T},D3 n xs ys=true→xs.length=n∧kr xs ys=some (La xs ys)
 | 0,[],[],_=>⟨rfl,rfl⟩
 | 0,[],_::_,h=>by simp[D3]at h
 | 0,_::_,_,h=>by simp[D3]at h
 | n+1,[],_,h=>by simp[D3]at h
 | n+1,x::xs,[],h=>by cases x<;>simp[D3]at h
 | n+1,x::xs,y::ys,h=>by
   cases x<;>cases y<;>simp only[D3,aLr,decide_eq_true_eq,aLt]at h
   obtain⟨rfl,h⟩:=h
   obtain⟨h1,h2⟩:=vq h
   exact⟨by simp[h1],by simp[kr,h2,La,T2]⟩
@[go_sem] theorem Q7 (n : Nat) (xs ys : List T) (h : D3 n xs ys = true) : oo H (.ints n) false (some (.t (.agg xs))) (some (.t (.agg ys))) = some (.t (.bool (La xs ys)), H) := by
 obtain⟨h1,h2⟩:=vq h;simp[oo,KT,eqD,h1,h2]
@[go_sem] theorem Nt (n : Nat) (xs ys : List T) (h : D3 n xs ys = true) : oo H (.ints n) true (some (.t (.agg xs))) (some (.t (.agg ys))) = some (.t (.bool (!La xs ys)), H) := by
 obtain⟨h1,h2⟩:=vq h;simp[oo,KT,eqD,h1,h2]
@[go_sem] theorem Un (id ep n : Nat) (h : 0 < n) : oo H .sl false (some (.ref id ep n)) (some .nil) = some (.t (.bool false), H) := by
 cases n with
 | zero=>omega
 | succ n=>rfl
@[go_sem] theorem Uo : oo H .sl false (some .nil) (some .nil) = some (.t (.bool true), H) := (rfl)
@[go_sem] theorem Up : oo H .sl false (some (.t (.sl []))) (some .nil) = some (.ub, H) := (rfl)
@[go_sem] theorem Q8 : oo H .sl true (some (.t (.sl []))) (some .nil) = some (.ub, H) := (rfl)
@[go_sem] theorem Q9 : oo H .sl true (some .nil) (some .nil) = some (.t (.bool false), H) := (rfl)
theorem uq(es:List T)(h:es≠[]):oo H .sl false (some (.t (.sl es))) (some .nil)=some (.t (.bool false),H):=by cases es<;>first | exact(h rfl).elim | rfl
def Xx(a:D):Option (D×ah):=(WU a).map fun d=>(d,H)
@[go_sem] theorem adr (x : X) : evO call get H (.nc x) = (get x).bind (Xx H) := (rfl)
@[go_sem] theorem ZN (id off : Nat) : Xx H (.bp id off) = some (.bp id off, H) := (rfl)
@[go_sem] theorem ZO (id ep n i off : Nat) : Xx H (.ap id ep n i off) = some (.ap id ep n i off, H) := (rfl)
@[go_sem] theorem ZP (cs : List T) : Xx H (.ep cs) = some (.ep cs, H) := (rfl)
def Ra(off:Nat)(a:D):Option (D×ah):=(DK a off).map fun d=>(d,H)
@[go_sem] theorem ads (x : X) (off : Nat) : evO call get H (.fa x off) = (get x).bind (Ra H off) := (rfl)
@[go_sem] theorem ZQ (id o off : Nat) : Ra H off (.bp id o) = some (.bp id (o + off), H) := (rfl)
@[go_sem] theorem ZR (id ep n i o off : Nat) : Ra H off (.ap id ep n i o) = some (.ap id ep n i (o + off), H) := (rfl)
@[go_sem] theorem ZS (cs : List T) (off : Nat) : Ra H off (.ep cs) = some (.ep (cs.drop off), H) := (rfl)
@[go_sem] theorem adt (cs : List D) : cut cs 0 0 = some [] := by simp [cut]
@[go_sem] theorem adu (c : D) (cs : List D) : cut (c :: cs) 0 1 = some [c] := by simp [cut]
@[go_sem] theorem adv (c : D) (cs : List D) (n : Nat) : cut (c :: cs) 0 (n + 1) = jJ c (cut cs 0 n) := by
 simp only[cut,jJ];by_cases h:n≤cs.length<;>simp[h]
@[go_sem] theorem adw (c : D) (cs : List D) (off n : Nat) : cut (c :: cs) (off + 1) n = cut cs off n := by
 simp only[cut,List.length_cons,List.drop_succ_cons]
 by_cases h:off+n≤cs.length
 · rw[if_pos h,if_pos (by omega)]
 · rw[if_neg h,if_neg (by omega)]
@[go_sem] theorem Uq (c : D) : dV false [c] = some c := (rfl)
@[go_sem] theorem Ur (cs : List D) : dV true cs = some (pB cs) := (rfl)
def mkA(cs:List D):Option (List T)→D
 | some ts=> .t (.agg ts)
 | none=> .agg cs
@[go_sem] theorem Xy (cs : List D) (ts : List T) : mkA cs (some ts) = .t (.agg ts) := (rfl)
@[go_sem] theorem Xz (cs : List D) : mkA cs none = .agg cs := (rfl)
@[go_sem] theorem XA (cs : List D) : pB cs = mkA cs (mY cs) := by unfold pB; cases mY cs <;> rfl
@[go_sem] theorem XB : mY [] = some [] := (rfl)
@[go_sem] theorem aca (x : T) (r : List D) : mY (.t x :: r) = jJ x (mY r) := (rfl)
@[go_sem] theorem acb (r : List D) : mY (.nil :: r) = none := (rfl)
@[go_sem] theorem XC (a b c : Nat) (r : List D) : mY (.ref a b c :: r) = none := (rfl)
@[go_sem] theorem XD (a b c d e : Nat) (r : List D) : mY (.sub a b c d e :: r) = none := (rfl)
@[go_sem] theorem I9 (l : List T) : mY (l.map .t) = some l := by induction l with | nil => rfl | cons a l ih => simp [mY, ih]
def Us(off n:Nat)(agg:Bool)(a:D):Option (D×ah):=(qI a off n agg).map fun d=>(d,H)
@[go_sem] theorem adx (x : X) (off n : Nat) (agg : Bool) : evO call get H (.fl x off n agg) = (get x).bind (Us H off n agg) := (rfl)
def ofC(agg:Bool)(cs:Option (List D)):Option (D×ah):=(cs.bind (dV agg)).bind (ZJ H)
@[go_sem] theorem ady (c : D) : ofC H false (some [c]) = some (c, H) := (rfl)
@[go_sem] theorem adz (cs : List D) : ofC H true (some cs) = some (pB cs, H) := (rfl)
@[go_sem] theorem acd (cs : List T) (off n : Nat) (agg : Bool) : Us H off n agg (.t (.agg cs)) = ofC H agg (cut (cs.map .t) off n) := by
 simp only[Us,qI,D.isAgg,if_true,D.cells,T.cells,ofC];cases (cut (cs.map .t) off n).bind (dV agg)<;>rfl
@[go_sem] theorem XE (cs : List D) (off n : Nat) (agg : Bool) : Us H off n agg (.agg cs) = ofC H agg (cut cs off n) := by
 simp only[Us,qI,D.isAgg,if_true,D.cells,ofC];cases (cut cs off n).bind (dV agg)<;>rfl
@[go_sem] theorem ZT (n : Nat) : idx (n : Int) = some n := by simp [idx]
@[go_sem] theorem adA : idx 0 = some 0 := (rfl)
theorem Nu{i:Int}(h:0≤i):idx i=some i.toNat:=by simp[idx,h]
def Nv(sz:Nat)(x i:Option D):Option (D×ah):=x.bind fun a=>(i.bind intOf).bind fun n=>(xX H a n sz).map fun d=>(d,H)
@[go_sem] theorem adB (x i : X) (sz : Nat) : evO call get H (.ia x i sz) = Nv H sz (get x) (get i) := (rfl)
def Ja(sz:Nat)(e:T):Option (D×ah):=if e.cells.length=sz then some (.ep e.cells,H)else none
def ZU(sz:Nat)(es:List T)(j:Nat):Option (D×ah):=es[j]?.bind (Ja H sz)
@[go_sem] theorem ZV (sz : Nat) (es : List T) (j : Nat) : ZU H sz es j = es[j]?.bind (Ja H sz) := (rfl)
@[go_sem] theorem ZW (k : IntKind) (es : List T) (n : Int) (sz : Nat) : Nv H sz (some (.t (.sl es))) (some (.t (.int k n))) = (idx n).bind (ZU H sz es) := by
 simp only[Nv,aLq,intOf,xX]
 cases idx n with
 | none=>rfl
 | some j=>
   simp only[aLq,ZU]
   cases es[j]? with
   | none=>rfl
   | some e=>simp only[aLq,Ja];split<;>rfl
@[go_sem] theorem XF (k : IntKind) (n : Int) : Ja H 1 (.int k n) = some (.ep [.int k n], H) := (rfl)
@[go_sem] theorem Ut (b : Bool) : Ja H 1 (.bool b) = some (.ep [.bool b], H) := (rfl)
@[go_sem] theorem ZX (es : List T) : Ja H 1 (.sl es) = some (.ep [.sl es], H) := (rfl)
def lT{α:Type}:Nat→List α→Bool
 | 0,[]=>true
 | n+1,_::r=>lT n r
 | _,_=>false
@[go_sem] theorem ZY {α : Type} : lT 0 ([] : List α) = true := (rfl)
@[go_sem] theorem ZZ {α : Type} (n : Nat) (a : α) (l : List α) : lT (n + 1) (a :: l) = lT n l := (rfl)
theorem fh{α:Type}:∀ {n:Nat} {l:List α},lT n l=true↔l.length=n
 | 0,[]=>by simp[lT]
 | 0,_::_=>by simp[lT]
 | n+1,[]=>by simp[lT]
 | n+1,_::r=>by simp only[lT,List.length_cons,Nat.add_right_cancel_iff];exact fh
@[go_sem] theorem XG (cs : List T) (sz : Nat) : Ja H sz (.agg cs) = if lT sz cs = true then some (.ep cs, H) else none := by
 by_cases h:cs.length=sz
 · rw[Ja,if_pos (show(T.agg cs).cells.length=sz from h),if_pos (fh.2 h)];rfl
 · rw[Ja,if_neg (show ¬(T.agg cs).cells.length=sz from h),if_neg fun e=>h (fh.1 e)]
def Nw(sz id ep n j:Nat):Option Obj→Option (D×ah)
 | some (.arr sz' _ ep' es)=>if ep=ep'∧n=es.length then(if j<n∧sz'=sz then some (.ap id ep n j 0,H)else none)else none
 | _=>none
@[go_sem] theorem XH (k : IntKind) (id ep n : Nat) (i : Int) (sz : Nat) : Nv H sz (some (.ref id ep n)) (some (.t (.int k i))) = (idx i).bind fun j => Nw H sz id ep n j H[id]? := by
 simp only[Nv,aLq,intOf,xX]
 cases idx i with
 | none=>rfl
 | some j=>
   simp only[aLq,eI]
   generalize H[id]?=o
   rcases o with _ | (_ | ⟨sz',pin,ep',es⟩)
   · rfl
   · rfl
   · simp only[Nw]
     by_cases h:ep=ep'∧n=es.length
     · rw[if_pos h,if_pos h,aLq];split<;>rfl
     · rw[if_neg h,if_neg h];rfl
@[go_sem] theorem Uu (sz id ep n j sz' : Nat) (pin : Bool) (ep' : Nat) (es : List D) : Nw H sz id ep n j (some (.arr sz' pin ep' es)) =
 if ep=ep'∧n=es.length then(if j<n∧sz'=sz then some (.ap id ep n j 0,H)else none)else none:=(rfl)
def Nx(sz id ep n lo hi j:Nat):Option Obj→Option (D×ah)
 | some (.arr sz' _ ep' es)=>if ep=ep'∧n=es.length then(if lo+j<hi∧hi≤n∧sz'=sz then some (.ap id ep n (lo+j) 0,H)else none)else none
 | _=>none
@[go_sem] theorem XI (k : IntKind) (id ep n lo hi : Nat) (i : Int) (sz : Nat) : Nv H sz (some (.sub id ep n lo hi)) (some (.t (.int k i))) = (idx i).bind fun j => Nx H sz id ep n lo hi j H[id]? := by
 simp only[Nv,aLq,intOf,xX]
 cases idx i with
 | none=>rfl
 | some j=>
   simp only[aLq,eI]
   generalize H[id]?=o
   rcases o with _ | (_ | ⟨sz',pin,ep',es⟩)
   · rfl
   · rfl
   · simp only[Nx]
     by_cases h:ep=ep'∧n=es.length
     · rw[if_pos h,if_pos h,aLq];split<;>rfl
     · rw[if_neg h,if_neg h];rfl
@[go_sem] theorem Uv (sz id ep n lo hi j sz' : Nat) (pin : Bool) (ep' : Nat) (es : List D) : Nx H sz id ep n lo hi j (some (.arr sz' pin ep' es)) =
 if ep=ep'∧n=es.length then(if lo+j<hi∧hi≤n∧sz'=sz then some (.ap id ep n (lo+j) 0,H)else none)else none:=(rfl)
def Z0(len sz:Nat)(agg:Bool)(x i:Option D):Option (D×ah):=x.bind fun a=>(i.bind intOf).bind fun n=>(idx n).bind fun j=>(wZ a j len sz agg).map fun d=>(d,H)
def Uw(len sz:Nat)(agg:Bool)(a:D)(j:Nat):Option (D×ah):=(wZ a j len sz agg).map fun d=>(d,H)
@[go_sem] theorem adC (x i : X) (len sz : Nat) (agg : Bool) : evO call get H (.ix x i len sz agg) = Z0 H len sz agg (get x) (get i) := (rfl)
@[go_sem] theorem Z1 (len sz : Nat) (agg : Bool) (a : D) (k : IntKind) (n : Int) : Z0 H len sz agg (some a) (some (.t (.int k n))) = (idx n).bind (Uw H len sz agg a) := by
 simp only[Z0,aLq,intOf];cases idx n<;>rfl
@[go_sem] theorem XJ (len j : Nat) (ts : List T) (h : j < len) (hs : (ts.all fun t => t.scalar) = true) : Uw H len 1 false (.t (.agg ts)) j = (ts[j]?).map fun t => (.t t, H) := by
 have h0:len≠0:=by omega
 unfold Uw wZ
 rw[if_neg h0,if_pos h]
 unfold qI cut
 simp only[D.isAgg,D.cells,T.cells,if_true,Nat.mul_one,List.length_map]
 by_cases hj:j<ts.length
 · rw[if_pos (by omega),aLc hj]
   have e:((ts.map D.t).drop j).take 1=[D.t ts[j]]:=by
    rw[List.drop_eq_getElem_cons (by simpa using hj)];simp
   rw[e];rfl
 · rw[if_neg (by omega),aLm (by omega)];rfl
def Ny(len sz:Nat)(x i:Option D):Option (D×ah):=x.bind fun a=>(i.bind intOf).bind fun n=>(idx n).bind fun j=>if j<len then(DK a (j*sz)).map fun d=>(d,H)else none
@[go_sem] theorem ace (x i : X) (len sz : Nat) : evO call get H (.iaa x i len sz) = Ny H len sz (get x) (get i) := (rfl)
def acf(len sz:Nat)(a:D)(j:Nat):Option (D×ah):=if j<len then Ra H (j*sz) a else none
@[go_sem] theorem Z2 (len sz : Nat) (a : D) (j : Nat) : acf H len sz a j = if j < len then Ra H (j * sz) a else none := (rfl)
@[go_sem] theorem XK (len sz : Nat) (a : D) (k : IntKind) (n : Int) : Ny H len sz (some a) (some (.t (.int k n))) = (idx n).bind (acf H len sz a) := by
 simp only[Ny,aLq,intOf];cases idx n<;>rfl
def Ia(n:Nat)(agg:Bool)(a:D):Option (D×ah):=(rS H a n agg).map fun d=>(d,H)
@[go_sem] theorem adD (x : X) (n : Nat) (agg : Bool) : evO call get H (.ld x n agg) = (get x).bind (Ia H n agg) := (rfl)
def Jb(off n:Nat)(agg:Bool):Option Obj→Option (D×ah)
 | some (.box cs)=>ofC H agg (cut cs off n)
 | _=>none
@[go_sem] theorem XL (off n : Nat) (agg : Bool) (cs : List D) : Jb H off n agg (some (.box cs)) = ofC H agg (cut cs off n) := (rfl)
@[go_sem] theorem Z3 (id off n : Nat) (agg : Bool) : Ia H n agg (.bp id off) = Jb H off n agg H[id]? := by
 simp only[Ia,rS]
 generalize H[id]?=o
 rcases o with _ | (cs | _)
 · rfl
 · simp only[Jb,ofC];cases (cut cs off n).bind (dV agg)<;>rfl
 · rfl
@[go_sem] theorem Z4 (cs : List T) (n : Nat) (agg : Bool) : Ia H n agg (.ep cs) = ofC H agg (cut (cs.map .t) 0 n) := by
 simp only[Ia,rS,ofC];cases (cut _ 0 n).bind (dV agg)<;>rfl
def XM(off n:Nat)(agg:Bool)(e:D):Option (D×ah):=ofC H agg (cut e.cells off n)
@[go_sem] theorem Z5 (off n : Nat) (agg : Bool) (e : D) : XM H off n agg e = ofC H agg (cut e.cells off n) := (rfl)
def Nz(ep m i off n:Nat)(agg:Bool):Option Obj→Option (D×ah)
 | some (.arr _ _ ep' es)=>if ep=ep'∧m=es.length then es[i]?.bind (XM H off n agg)else none
 | _=>none
@[go_sem] theorem XN (ep m i off n : Nat) (agg : Bool) (sz : Nat) (pin : Bool) (ep' : Nat) (es : List D) :
 Nz H ep m i off n agg (some (.arr sz pin ep' es))=if ep=ep'∧m=es.length then es[i]?.bind (XM H off n agg)else none:=(rfl)
@[go_sem] theorem Z6 (id ep m i off n : Nat) (agg : Bool) : Ia H n agg (.ap id ep m i off) = Nz H ep m i off n agg H[id]? := by
 simp only[Ia,rS,eI]
 generalize H[id]?=o
 rcases o with _ | (_ | ⟨sz',pin,ep',es⟩)
 · rfl
 · rfl
 · simp only[Nz]
   by_cases h:ep=ep'∧m=es.length
   · rw[if_pos h,if_pos h,aLq]
     cases es[i]? with
     | none=>rfl
     | some e=>simp only[aLq,XM,ofC];cases (cut e.cells off n).bind (dV agg)<;>rfl
   · rw[if_neg h,if_neg h];rfl
@[go_sem] theorem Rb (cs : List D) : (D.agg cs).cells = cs := (rfl)
@[go_sem] theorem XO (x : T) : (D.t x).cells = x.cells.map .t := (rfl)
@[go_sem] theorem Rc : D.nil.cells = [.nil] := (rfl)
@[go_sem] theorem Ux (a b : Nat) : (D.bp a b).cells = [.bp a b] := (rfl)
@[go_sem] theorem Re (a b c : Nat) : (D.ref a b c).cells = [.ref a b c] := (rfl)
@[go_sem] theorem Rf (a b c d e : Nat) : (D.sub a b c d e).cells = [.sub a b c d e] := (rfl)
@[go_sem] theorem Uy (f : Nat) (cs : List D) : (D.fn f cs).cells = [.fn f cs] := (rfl)
@[go_sem] theorem NA : D.nilp.cells = [.nilp] := (rfl)
@[go_sem] theorem Rg (cs : List T) : (T.agg cs).cells = cs := (rfl)
@[go_sem] theorem Rh (k : IntKind) (n : Int) : (T.int k n).cells = [.int k n] := (rfl)
@[go_sem] theorem NB (b : Bool) : (T.bool b).cells = [.bool b] := (rfl)
@[go_sem] theorem Ri (b : ByteArray) : (T.str b).cells = [.str b] := (rfl)
@[go_sem] theorem Uz (es : List T) : (T.sl es).cells = [.sl es] := (rfl)
def fits(n:Nat)(v:D):Bool:=decide (v.cells.length=n)&&v.gH
section
variable (n : Nat)
@[go_sem] theorem fits_int (k : IntKind) (a : Int) : fits 1 (.t (.int k a)) = true := (rfl)
@[go_sem] theorem fits_bool (b : Bool) : fits 1 (.t (.bool b)) = true := (rfl)
@[go_sem] theorem Z7 (es : List T) : fits 1 (.t (.sl es)) = true := (rfl)
@[go_sem] theorem XP : fits 1 .nil = true := (rfl)
@[go_sem] theorem XQ (a b c : Nat) : fits 1 (.ref a b c) = true := (rfl)
@[go_sem] theorem XR (a b c d e : Nat) : fits 1 (.sub a b c d e) = true := (rfl)
@[go_sem] theorem Z8 (a b : Nat) : fits 1 (.bp a b) = true := (rfl)
@[go_sem] theorem Z9 (f : Nat) (cs : List D) : fits 1 (.fn f cs) = true := (rfl)
@[go_sem] theorem XT (cs : List D) : fits n (.agg cs) = lT n cs := by rw [Bool.eq_iff_iff, fh]; show (decide (cs.length = n) && true) = true ↔ _; simp
@[go_sem] theorem UA (cs : List T) : fits n (.t (.agg cs)) = lT n cs := by rw [Bool.eq_iff_iff, fh]; simp [fits, D.cells, T.cells, D.gH]
end
@[go_sem] theorem NC {α : Type} (cs : List α) : bj cs 0 [] = some cs := by simp [bj]
@[go_sem] theorem ND {α : Type} (c x : α) (cs xs : List α) : bj (c :: cs) 0 (x :: xs) = jJ x (bj cs 0 xs) := by
 simp only[bj,jJ];by_cases h:xs.length≤cs.length<;>simp[h]
@[go_sem] theorem NF {α : Type} (c : α) (cs : List α) (off : Nat) (xs : List α) : bj (c :: cs) (off + 1) xs = jJ c (bj cs off xs) := by
 simp only[bj,jJ,List.length_cons]
 by_cases h:off+xs.length≤cs.length
 · rw[if_pos h,if_pos (by omega)];simp[show off+1+xs.length=(off+xs.length)+1 by omega]
 · rw[if_neg h,if_neg (by omega)];rfl
def NG(n:Nat)(live:List (Nat×Nat))(a x:Option D):Option (D×ah):=a.bind fun p=>x.bind fun d=>(sV H p d n).bind fun H'=>(m5 H' p live).map fun H''=>(.tup [],H'')
@[go_sem] theorem adE (a x : X) (n : Nat) (live : List (Nat × Nat)) : evO call get H (.st a x n live) = NG H n live (get a) (get x) := (rfl)
def xn(H:ah)(id:Nat)(live:List (Nat×Nat)):Option (D×ah):=(m5 H (.bp id 0) live).map fun H'=>(.tup [],H')
def CP(id:Nat)(live:List (Nat×Nat))(cs:List D):Option (D×ah):=xn (H.set id (.box cs)) id live
@[go_sem] theorem UB (id : Nat) (live : List (Nat × Nat)) (cs : List D) : CP H id live cs = xn (H.set id (.box cs)) id live := (rfl)
@[go_sem] theorem Rj (H : ah) (id : Nat) : xn H id [] = some (.tup [], H) := (rfl)
def NH(id off:Nat)(live:List (Nat×Nat))(xs:List D):Option Obj→Option (D×ah)
 | some (.box cs)=>(bj cs off xs).bind (CP H id live)
 | _=>none
@[go_sem] theorem XU (id off : Nat) (live : List (Nat × Nat)) (xs cs : List D) : NH H id off live xs (some (.box cs)) = (bj cs off xs).bind (CP H id live) := (rfl)
@[go_sem] theorem aaa (n id off : Nat) (live : List (Nat × Nat)) (v : D) : NG H n live (some (.bp id off)) (some v) = if fits n v = true then NH H id off live v.cells H[id]? else none := by
 by_cases h:fits n v=true
 case neg=>
  rw[if_neg h]
  simp only[fits,aLr,decide_eq_true_eq]at h
  simp only[NG,aLq,sV,if_neg h];rfl
 rw[if_pos h]
 simp only[fits,aLr,decide_eq_true_eq]at h
 simp only[NG,aLq,sV,h.1,h.2,and_self,if_true]
 generalize H[id]?=o
 rcases o with _ | (cs | _)
 · rfl
 · simp only[NH]
   cases bj cs off v.cells with
   | none=>rfl
   | some cs'=>simp only[aLw,aLq,CP,xn,m5]
 · rfl
def zO(id sz ep i:Nat)(es:List D)(agg:Bool)(cs:List D):Option (D×ah):=(dV agg cs).bind fun e=>if e.gH then some (.tup [],H.set id (.arr sz false ep (es.set i e)))else none
def XV(id sz ep i off:Nat)(es xs:List D)(e:D):Option (D×ah):=(bj e.cells off xs).bind (zO H id sz ep i es e.isAgg)
@[go_sem] theorem aab (id sz ep i off : Nat) (es xs : List D) (e : D) : XV H id sz ep i off es xs e = (bj e.cells off xs).bind (zO H id sz ep i es e.isAgg) := (rfl)
@[go_sem] theorem UC (cs : List D) : (D.agg cs).isAgg = true := (rfl)
@[go_sem] theorem Rk (cs : List T) : (D.t (.agg cs)).isAgg = true := (rfl)
@[go_sem] theorem UD (k : IntKind) (n : Int) : (D.t (.int k n)).isAgg = false := (rfl)
@[go_sem] theorem Rl (b : Bool) : (D.t (.bool b)).isAgg = false := (rfl)
@[go_sem] theorem UE (b : ByteArray) : (D.t (.str b)).isAgg = false := (rfl)
@[go_sem] theorem XW (es : List T) : (D.t (.sl es)).isAgg = false := (rfl)
@[go_sem] theorem UF : D.nil.isAgg = false := (rfl)
@[go_sem] theorem UG (a b c : Nat) : (D.ref a b c).isAgg = false := (rfl)
@[go_sem] theorem UH (a b c d e : Nat) : (D.sub a b c d e).isAgg = false := (rfl)
@[go_sem] theorem aac (id sz ep i : Nat) (es : List D) (x : T) : zO H id sz ep i es false [.t x] = some (.tup [], H.set id (.arr sz false ep (es.set i (.t x)))) := (rfl)
@[go_sem] theorem UI (id sz ep i : Nat) (es : List D) : zO H id sz ep i es false [.nil] = some (.tup [], H.set id (.arr sz false ep (es.set i .nil))) := (rfl)
@[go_sem] theorem UJ (id sz ep i a b c : Nat) (es : List D) : zO H id sz ep i es false [.ref a b c] = some (.tup [], H.set id (.arr sz false ep (es.set i (.ref a b c)))) := (rfl)
theorem BJ(cs:List D):(pB cs).gH=true:=by unfold pB;cases mY cs<;>rfl
@[go_sem] theorem aad (id sz ep i : Nat) (es cs : List D) : zO H id sz ep i es true cs = some (.tup [], H.set id (.arr sz false ep (es.set i (pB cs)))) := by
 simp[zO,dV,BJ]
def NI(id ep m i off:Nat)(xs:List D):Option Obj→Option (D×ah)
 | some (.arr sz pin ep' es)=>if ep=ep'∧m=es.length then(if pin then none else es[i]?.bind (XV H id sz ep i off es xs))else none
 | _=>none
@[go_sem] theorem XX (id ep m i off : Nat) (xs : List D) (sz : Nat) (pin : Bool) (ep' : Nat) (es : List D) :
 NI H id ep m i off xs (some (.arr sz pin ep' es))=if ep=ep'∧m=es.length then(if pin=true then none else es[i]?.bind (XV H id sz ep i off es xs))else none:=(rfl)
@[go_sem] theorem aae (n id ep m i off : Nat) (v : D) : NG H n [] (some (.ap id ep m i off)) (some v) = if fits n v = true then NI H id ep m i off v.cells H[id]? else none := by
 by_cases h:fits n v=true
 case neg=>
  rw[if_neg h]
  simp only[fits,aLr,decide_eq_true_eq]at h
  simp only[NG,aLq,sV,if_neg h];rfl
 rw[if_pos h]
 simp only[fits,aLr,decide_eq_true_eq]at h
 simp only[NG,aLq,sV,h.1,h.2,and_self,if_true,eI]
 generalize H[id]?=o
 rcases o with _ | (_ | ⟨sz',pin,ep',es⟩)
 · rfl
 · rfl
 · simp only[NI]
   by_cases h:ep=ep'∧m=es.length
   · rw[if_pos h,if_pos h,aLq]
     cases pin with
     | true=>rfl
     | false=>
       simp only[aLt,if_false]
       cases es[i]? with
       | none=>rfl
       | some e=>
         simp only[aLq,XV]
         cases bj e.cells off v.cells with
         | none=>rfl
         | some cs'=>
           simp only[aLq,zO]
           cases dV e.isAgg cs' with
           | none=>rfl
           | some e'=>
             simp only[aLq]
             by_cases h3:e'.gH=true
             · rw[if_pos h3,if_pos h3,h.1];rfl
             · rw[if_neg h3,if_neg h3];rfl
   · rw[if_neg h,if_neg h];rfl
def NJ(zero:List D)(ps:List (Nat×Nat×D)):Option (D×ah):=(qG zero ps).map fun cs=>(pB cs,H)
@[go_sem] theorem adF (zero : List D) (parts : List (Nat × Nat × X)) : evO call get H (.bd zero parts) = (kv get parts).bind (NJ H zero) := (rfl)
@[go_sem] theorem Lb : kv get [] = some [] := (rfl)
def UK(off n:Nat)(r:List (Nat×Nat×X))(d:D):Option (List (Nat×Nat×D)):=jJ (off,n,d) (kv get r)
@[go_sem] theorem XY (off n : Nat) (r : List (Nat × Nat × X)) (d : D) : UK get off n r d = jJ (off, n, d) (kv get r) := (rfl)
@[go_sem] theorem Jc (off n : Nat) (x : X) (r : List (Nat × Nat × X)) : kv get ((off, n, x) :: r) = (get x).bind (UK get off n r) := (rfl)
@[go_sem] theorem XZ (zero : List D) : NJ H zero [] = some (pB zero, H) := (rfl)
def bdC(r:List (Nat×Nat×D))(z:List D):Option (D×ah):=NJ H z r
@[go_sem] theorem acg (r : List (Nat × Nat × D)) (z : List D) : bdC H r z = NJ H z r := (rfl)
@[go_sem] theorem UL (zero : List D) (off n : Nat) (x : D) (r : List (Nat × Nat × D)) : NJ H zero ((off, n, x) :: r) = if fits n x = true then (bj zero off x.cells).bind (bdC H r) else none := by
 by_cases h:fits n x=true
 case neg=>
  rw[if_neg h]
  have h2:(x.gH&&x.cells.length==n)=false:=by rw[← Bool.not_eq_true,Bool.and_comm];simpa [fits]using h
  simp only[NJ,qG,h2];rfl
 rw[if_pos h]
 simp only[fits,aLr,decide_eq_true_eq]at h
 simp only[NJ,qG,h.1,h.2,beq_self_eq_true,Bool.and_self,if_true]
 cases bj zero off x.cells<;>rfl
def b5(n:Nat):List T→Bool
 | []=>true
 | x::r=>lT n x.cells&&b5 n r
@[go_sem] theorem Lc (n : Nat) : b5 n [] = true := (rfl)
@[go_sem] theorem rk (n : Nat) (x : T) (r : List T) : b5 n (x :: r) = (lT n x.cells && b5 n r) := (rfl)
def xp(sz:Nat)(ds:List D):Option (D×ah):=if ds.all (fun d=>d.cells.length==sz)then(bR (frz H depth) ds).map fun ts=>(.t (.sl ts),pins H (ds.flatMap (en H depth)))else none
@[go_sem] theorem adG (xs : List X) (sz : Nat) : evO call get H (.bs xs sz) = (bR get xs).bind (xp H sz) := (rfl)
theorem UM(sz:Nat)(ds:List D)(ts:List T)(h:mY ds=some ts)(hc:b5 sz ts=true):xp H sz ds=some (.t (.sl ts),H):=by
 have key:∀(ds:List D) (ts:List T),mY ds=some ts→b5 sz ts=true→ds.all (fun d=>d.cells.length==sz)=true∧bR (frz H depth) ds=some ts∧ds.flatMap (en H depth)=[]:=by
  intro ds
  induction ds with
  | nil=>intro ts h hc;simp[mY]at h;subst h;simp[bR]
  | cons d ds ih=>
    intro ts h hc
    cases d with
    | t x=>
      simp only[mY,aLb]at h
      obtain⟨r,hr,rfl⟩:=h
      simp only[b5,aLr,fh]at hc
      obtain⟨h1,h2,h3⟩:=ih r hr hc.2
      refine⟨by rw[List.all_cons,h1,Bool.and_true];simp[D.cells,hc.1],by simp[bR,frz,h2],by rw[List.flatMap_cons,h3];simp[en]⟩
    | _=>simp[mY]at h
 obtain⟨h1,h2,h3⟩:=key ds ts h hc
 simp[xp,h1,h2,h3,pins]
theorem oK(sz:Nat)(ts:List T):xp H sz (ts.map D.t)=if b5 sz ts=true then some (.t (.sl ts),H)else none:=by
 by_cases h:b5 sz ts=true
 · rw[if_pos h];exact UM H sz _ ts (I9 ts) h
 · rw[if_neg h]
   have:(ts.map D.t).all (fun d=>d.cells.length==sz)=false:=by
    rw[← Bool.not_eq_true];intro ha;apply h
    clear h
    induction ts with
    | nil=>rfl
    | cons a r ih=>
      simp only[List.map_cons,List.all_cons,aLr,beq_iff_eq]at ha
      simp only[b5,aLr,fh]
      exact⟨by simpa [D.cells]using ha.1,ih ha.2⟩
   simp only[xp,this];rfl
@[go_sem] theorem ach (sz : Nat) : xp H sz [] = some (.t (.sl []), H) := (rfl)
@[go_sem] theorem aci (sz : Nat) (a : T) : xp H sz [.t a] = if b5 sz [a] = true then some (.t (.sl [a]), H) else none := oK H sz [a]
@[go_sem] theorem acj (sz : Nat) (a b : T) : xp H sz [.t a, .t b] = if b5 sz [a, b] = true then some (.t (.sl [a, b]), H) else none := oK H sz [a, b]
@[go_sem] theorem ack (sz : Nat) (a b c : T) : xp H sz [.t a, .t b, .t c] = if b5 sz [a, b, c] = true then some (.t (.sl [a, b, c]), H) else none := oK H sz [a, b, c]
@[go_sem] theorem acm (sz : Nat) (a b c d : T) : xp H sz [.t a, .t b, .t c, .t d] = if b5 sz [a, b, c, d] = true then some (.t (.sl [a, b, c, d]), H) else none := oK H sz [a, b, c, d]
@[go_sem] theorem acn (sz : Nat) (a b c d e : T) : xp H sz [.t a, .t b, .t c, .t d, .t e] = if b5 sz [a, b, c, d, e] = true then some (.t (.sl [a, b, c, d, e]), H) else none := oK H sz [a, b, c, d, e]
def UN(a:D):Option (D×ah):=(WT a).map fun(n:Nat)=>(D.t (.int .i64 (n:Int)),H)
@[go_sem] theorem adH (x : X) : evO call get H (.ln x) = (get x).bind (UN H) := (rfl)
@[go_sem] theorem aaf (es : List T) : UN H (.t (.sl es)) = some (I es.length, H) := (rfl)
@[go_sem] theorem X0 : UN H .nil = some (I 0, H) := (rfl)
@[go_sem] theorem X1 (id ep n : Nat) : UN H (.ref id ep n) = some (I n, H) := (rfl)
@[go_sem] theorem X2 (id ep n lo hi : Nat) : UN H (.sub id ep n lo hi) = some (I ((hi - lo : Nat) : Int), H) := (rfl)
def UO(ds:List D):Option (D×ah):=(Ti ds).map fun d=>(d,H)
def UP(ds:List D):Option (D×ah):=(Tj ds).map fun d=>(d,H)
@[go_sem] theorem adI (xs : List X) : evO call get H (.mn xs) = (bR get xs).bind (UO H) := (rfl)
@[go_sem] theorem adJ (xs : List X) : evO call get H (.mx xs) = (bR get xs).bind (UP H) := (rfl)
@[go_sem] theorem aco (k : IntKind) (a b : Int) : UO H [.t (.int k a), .t (.int k b)] = some (.t (.int k (min a b)), H) := by
 simp only[UO,Ti,wD,if_true,aLw];congr 4;omega
@[go_sem] theorem acp (k : IntKind) (a b : Int) : UP H [.t (.int k a), .t (.int k b)] = some (.t (.int k (max a b)), H) := by
 simp only[UP,Tj,wD,if_true,aLw];congr 4;omega
@[go_sem] theorem acq (k : IntKind) (a b c : Int) : UO H [.t (.int k a), .t (.int k b), .t (.int k c)] = some (.t (.int k (min (min a b) c)), H) := by
 simp only[UO,Ti,wD,if_true,aLw];congr 4;omega
@[go_sem] theorem acr (k : IntKind) (a b c : Int) : UP H [.t (.int k a), .t (.int k b), .t (.int k c)] = some (.t (.int k (max (max a b) c)), H) := by
 simp only[UP,Tj,wD,if_true,aLw];congr 4;omega
def zP(sz:Nat)(x:Option D)(lo hi:Option (Option Int)):Option (D×ah):=x.bind fun a=>lo.bind fun l=>hi.bind fun h=>(lB H a l h sz).map fun d=>(d,H)
@[go_sem] theorem adK (x : X) (lo hi : Option X) (sz : Nat) : evO call get H (.sc x lo hi sz) = zP H sz (get x) (DL get lo) (DL get hi) := (rfl)
def UQ:D→Option (Option Int)
 | .t (.int _ n)=>some (some n)
 | _=>none
@[go_sem] theorem X3 (k : IntKind) (n : Int) : UQ (.t (.int k n)) = some (some n) := (rfl)
@[go_sem] theorem UR : DL get none = some none := (rfl)
@[go_sem] theorem US (x : X) : DL get (some x) = (get x).bind UQ := by
 simp only[DL];cases get x with
 | none=>rfl
 | some d=>cases d with
   | t y=>cases y<;>rfl
   | _=>rfl
def aag(i:Nat)(a:D):Option (D×ah):=(Tk i a).map fun d=>(d,H)
@[go_sem] theorem adL (x : X) (i : Nat) : evO call get H (.ex x i) = (get x).bind (aag H i) := (rfl)
def exO:Option D→Option (D×ah)
 | some d=>some (d,H)
 | none=>none
@[go_sem] theorem X4 (d : D) : exO H (some d) = some (d, H) := (rfl)
@[go_sem] theorem X5 (i : Nat) (ds : List D) : aag H i (.tup ds) = exO H ds[i]? := by simp only [aag, Tk, exO]; cases ds[i]? <;> rfl
def aah(f:Nat)(ds:List D):Option (D×ah):=some (.fn f ds,H)
@[go_sem] theorem aai (f : Nat) (ds : List D) : aah H f ds = some (.fn f ds, H) := (rfl)
@[go_sem] theorem adM (f : Nat) (caps : List X) : evO call get H (.mf f caps) = (bR get caps).bind (aah H f) := by simp only [evO, aah]; cases bR get caps <;> rfl
@[go_sem] theorem adN (sz : Nat) : evO call get H (.nw sz) = some (.ref H.length 0 0, H ++ [.arr sz false 0 []]) := (rfl)
def alP(p:List D×ah):Option (D×ah):=some (.bp H.length 0,H++ .box p.1::p.2)
@[go_sem] theorem acs (cs : List D) (os : ah) : alP H (cs, os) = some (.bp H.length 0, H ++ .box cs :: os) := (rfl)
@[go_sem] theorem adO (zero : List D) (live : List (Nat × Nat)) : evO call get H (.al zero live) = alP H (bN (H.length + 1) zero live) := (rfl)
@[go_sem] theorem NK (base : Nat) (cs : List D) : bN base cs [] = (cs, []) := (rfl)
def aaj(n:Nat)(a:D):Option (D×ah):=if a.cells.length=n∧a.gH then some (.bp H.length 0,H++[.box a.cells])else none
@[go_sem] theorem adP (x : X) (n : Nat) : evO call get H (.bx x n) = (get x).bind (aaj H n) := (rfl)
@[go_sem] theorem aak (n : Nat) (a : D) : aaj H n a = if fits n a = true then some (.bp H.length 0, H ++ [.box a.cells]) else none := by
 simp[aaj,fits]
def X6(sz:Nat)(zero:D)(n:Option Nat):Option (D×ah):=n.bind fun m=>if m≤lim then some (.ref H.length 0 m,H++[.arr sz false 0 (List.replicate m zero)])else none
def mkN(sz:Nat)(zero:D):D→Option (D×ah)
 | .t (.int _ n)=>X6 H sz zero (idx n)
 | _=>none
@[go_sem] theorem aal (sz : Nat) (zero : D) (k : IntKind) (n : Int) : mkN H sz zero (.t (.int k n)) = X6 H sz zero (idx n) := (rfl)
@[go_sem] theorem adQ (len : X) (zero : D) (sz : Nat) : evO call get H (.mk len zero sz) = (get len).bind (mkN H sz zero) := by
 simp only[evO];cases get len with
 | none=>rfl
 | some d=>cases d with
   | t y=>cases y<;>rfl
   | _=>rfl
@[go_sem] theorem aam (sz : Nat) (zero : D) (m : Nat) (h : m ≤ 4294967296) : X6 H sz zero (some m) = some (.ref H.length 0 m, H ++ [.arr sz false 0 (List.replicate m zero)]) := by
 simp[X6,lim,h]
def Jd(zero:T)(n:Option Nat):Option (D×ah):=n.bind fun m=>if m≤lim then some (.t (.sl (List.replicate m zero)),H)else none
def acu(zero:T):D→Option (D×ah)
 | .t (.int _ n)=>Jd H zero (idx n)
 | _=>none
@[go_sem] theorem X7 (zero : T) (k : IntKind) (n : Int) : acu H zero (.t (.int k n)) = Jd H zero (idx n) := (rfl)
@[go_sem] theorem acv (len : X) (zero : T) (sz : Nat) : evO call get H (.mkt len zero sz) = (get len).bind (acu H zero) := by
 simp only[evO];cases get len with
 | none=>rfl
 | some d=>cases d with
   | t y=>cases y<;>rfl
   | _=>rfl
@[go_sem] theorem X8 (zero : T) (m : Nat) (h : m ≤ 4294967296) : Jd H zero (some m) = some (.t (.sl (List.replicate m zero)), H) := by
 simp[Jd,lim,h]
def Je(sz:Nat)(zero:T)(n:Option Nat):Option (D×ah):=n.bind fun m=>if m≤lim∧0<m then some (.ref H.length 0 m,H++[.arr sz false 0 (List.replicate m (.t zero))])else none
def acw(sz:Nat)(zero:T):D→Option (D×ah)
 | .t (.int _ n)=>Je H sz zero (idx n)
 | _=>none
@[go_sem] theorem X9 (sz : Nat) (zero : T) (k : IntKind) (n : Int) : acw H sz zero (.t (.int k n)) = Je H sz zero (idx n) := (rfl)
@[go_sem] theorem acx (len : X) (zero : T) (sz : Nat) : evO call get H (.mkn len zero sz) = (get len).bind (acw H sz zero) := by
 simp only[evO];cases get len with
 | none=>rfl
 | some d=>cases d with
   | t y=>cases y<;>rfl
   | _=>rfl
@[go_sem] theorem Ya (sz : Nat) (zero : T) (m : Nat) (h : m ≤ 4294967296) (h0 : 0 < m) : Je H sz zero (some m) = some (.ref H.length 0 m, H ++ [.arr sz false 0 (List.replicate m (.t zero))]) := by
 simp[Je,lim,h,h0]
def ns(sz:Nat)(fz:Bool)(x y:Option D):Option (D×ah):=x.bind fun a=>y.bind fun b=>kG H a b fz sz
@[go_sem] theorem acy (x y : X) (fz : Bool) (sz : Nat) : evO call get H (.app x y fz sz) = ns H sz fz (get x) (get y) := (rfl)
def tz(sz id ep n:Nat)(ys:List D):Option Obj→Option (D×ah)
 | some (.arr sz' pin ep' es)=>if ep=ep'∧n=es.length∧sz'=sz∧n+ys.length≤lim then some (.ref id ep (n+ys.length),H.set id (.arr sz pin ep (es++ys)))else none
 | _=>none
@[go_sem] theorem UT (sz id ep n : Nat) (ys : List D) (pin : Bool) (es : List D) :
 tz H sz id ep n ys (some (.arr sz pin ep es))=if n=es.length then(if n+ys.length≤4294967296 then some (.ref id ep (n+ys.length),H.set id (.arr sz pin ep (es++ys)))else none)else none:=by
 simp only[tz,lim]
 by_cases h1:n=es.length
 · rw[if_pos h1]
   by_cases h2:n+ys.length≤4294967296
   · rw[if_pos h2,if_pos ⟨trivial,h1,trivial,h2⟩]
   · rw[if_neg h2,if_neg fun h=>h2 h.2.2.2]
 · rw[if_neg h1,if_neg fun h=>h1 h.2.1]
theorem rm(ts:List T):bR (fun d=>(frz H depth d).map D.t) (ts.map D.t)=some (ts.map D.t):=by
 induction ts with
 | nil=>rfl
 | cons t ts ih=>simp[bR,frz,ih]
theorem CQ(ts:List T):(ts.map D.t).flatMap (en H depth)=[]:=by
 induction ts with
 | nil=>rfl
 | cons t ts ih=>rw[List.map_cons,List.flatMap_cons,ih];simp[en,depth]
theorem zQ(sz:Nat)(fz:Bool)(x:D)(ts:List T)(h:cy sz (ts.map D.t)=false):ns H sz fz (some x) (some (.t (.sl ts)))=none:=by
 have e1:(if fz then bR (fun d=>(frz H depth d).map D.t) (ts.map D.t)else some (ts.map D.t))=some (ts.map D.t):=by
  cases fz<;>simp[rm]
 simp only[ns,aLq,kG,elems,e1,h,aLt,if_false]
def lU(sz:Nat)(ts:List T):Bool:=cy sz (ts.map D.t)
theorem Gl(sz id ep n:Nat)(fz:Bool)(ts:List T)(h:lU sz ts=true):ns H sz fz (some (.ref id ep n)) (some (.t (.sl ts)))=tz H sz id ep n (ts.map .t) H[id]?:=by
 have e1:(if fz then bR (fun d=>(frz H depth d).map D.t) (ts.map D.t)else some (ts.map D.t))=some (ts.map D.t):=by
  cases fz<;>simp[rm]
 have e2:(if fz then pins H ((ts.map D.t).flatMap (en H depth))else H)=H:=by
  cases fz
  · rfl
  · simp only[if_true];rw[CQ];rfl
 unfold lU at h
 simp only[ns,aLq,kG,elems,e1,h,if_true,e2,eI]
 generalize H[id]?=o
 rcases o with _ | (_ | ⟨sz',pin,ep',es⟩)
 · rfl
 · rfl
 · simp only[tz]
   by_cases h1:ep=ep'∧n=es.length
   · rw[if_pos h1,aLq]
     by_cases h2:sz'=sz∧n+(ts.map D.t).length≤lim
     · rw[if_pos h2,if_pos ⟨h1.1,h1.2,h2⟩]
     · rw[if_neg h2,if_neg fun h=>h2 h.2.2]
   · rw[if_neg h1,if_neg fun h=>h1 ⟨h.1,h.2.1⟩];rfl
@[go_sem] theorem UU (sz id ep n : Nat) (fz : Bool) (ts : List T) : ns H sz fz (some (.ref id ep n)) (some (.t (.sl ts))) = if lU sz ts = true then tz H sz id ep n (ts.map .t) H[id]? else none := by
 by_cases h:lU sz ts=true
 · rw[if_pos h,Gl H sz id ep n fz ts h]
 · rw[if_neg h];exact zQ H sz fz _ ts (by simpa [lU]using h)
@[go_sem] theorem UW (sz : Nat) (fz : Bool) (ts : List T) : ns H sz fz (some .nil) (some (.t (.sl ts))) =
 if lU sz ts=true then(if ts.length≤4294967296 then some (.ref H.length 0 ts.length,H++[.arr sz false 0 (ts.map .t)])else none)else none:=by
 by_cases h:lU sz ts=true
 · rw[if_pos h]
   have e1:(if fz then bR (fun d=>(frz H depth d).map D.t) (ts.map D.t)else some (ts.map D.t))=some (ts.map D.t):=by
    cases fz<;>simp[rm]
   have e2:(if fz then pins H ((ts.map D.t).flatMap (en H depth))else H)=H:=by
    cases fz
    · rfl
    · simp only[if_true];rw[CQ];rfl
   unfold lU at h
   simp only[ns,aLq,kG,elems,e1,h,if_true,e2,lim,List.length_map]
 · rw[if_neg h];exact zQ H sz fz _ ts (by simpa [lU]using h)
@[go_sem] theorem UX (sz : Nat) : lU sz [] = true := (rfl)
@[go_sem] theorem Rm (sz : Nat) (x : T) (r : List T) : lU sz (x :: r) = lT sz x.cells := by
 rw[Bool.eq_iff_iff,fh];simp[lU,cy,D.cells]
@[go_sem] theorem UY (l : List Int) (k : IntKind) : lU 1 (l.map (.int k)) = true := by cases l <;> rfl
@[go_sem] theorem Rn (l : List Bool) : lU 1 (l.map .bool) = true := by cases l <;> rfl
@[go_sem] theorem Yb (l : List (List T)) : lU 1 (l.map .sl) = true := by cases l <;> rfl
def D4(call:aS)(f raw:Nat)(keep:List Nat)(ds:List D):Option (D×ah):=qH call H f raw keep ds
@[go_sem] theorem adR (f raw : Nat) (keep : List Nat) (xs : List X) : evO call get H (.ca f raw keep xs) = (bR get xs).bind (D4 H call f raw keep) := (rfl)
def acz(call:aS)(raw:Nat)(keep:List Nat)(x:Option D)(xs:Option (List D)):Option (D×ah):=x.bind fun
 | .fn f caps=>xs.bind fun ds=>qH call H f raw keep (ds++caps)
 | _=>none
@[go_sem] theorem adS (x : X) (raw : Nat) (keep : List Nat) (xs : List X) : evO call get H (.cw x raw keep xs) = acz H call raw keep (get x) (bR get xs) := (rfl)
@[go_sem] theorem aan (raw : Nat) (keep : List Nat) (f : Nat) (caps ds : List D) : acz H call raw keep (some (.fn f caps)) (some ds) = D4 H call f raw keep (ds ++ caps) := (rfl)
def kA(H:ah):List D→Option (List T)
 | []=>some []
 | .t x::r=>jJ x (kA H r)
 | .nil::r=>jJ (.sl []) (kA H r)
 | _::_=>none
@[go_sem] theorem aao : kA H [] = some [] := (rfl)
@[go_sem] theorem aap (x : T) (r : List D) : kA H (.t x :: r) = jJ x (kA H r) := (rfl)
@[go_sem] theorem UZ (r : List D) : kA H (.nil :: r) = jJ (.sl []) (kA H r) := (rfl)
@[go_sem] theorem U0 (cs : List D) (r : List D) : kA H (.agg cs :: r) = none := (rfl)
@[go_sem] theorem Yc (a b : Nat) (r : List D) : kA H (.bp a b :: r) = none := (rfl)
@[go_sem] theorem U1 (a b c : Nat) (r : List D) : kA H (.ref a b c :: r) = none := (rfl)
@[go_sem] theorem U2 (a b c d e : Nat) (r : List D) : kA H (.sub a b c d e :: r) = none := (rfl)
@[go_sem] theorem Yd (f : Nat) (cs : List D) (r : List D) : kA H (.fn f cs :: r) = none := (rfl)
@[go_sem] theorem Ye (a b c d e : Nat) (r : List D) : kA H (.ap a b c d e :: r) = none := (rfl)
@[go_sem] theorem Yf (cs : List T) (r : List D) : kA H (.ep cs :: r) = none := (rfl)
@[go_sem] theorem Ro (r : List D) : kA H (.nilp :: r) = none := (rfl)
@[go_sem] theorem U3 (r : List D) : kA H (.und :: r) = none := (rfl)
end
theorem qg(H:ah):∀ {ds:List D} {ts:List T},kA H ds=some ts→∀i,m0 H [] i ds=some (ts.map .t)∧cz H [] i ds=[]
 | [],ts,h,i=>by simp[kA]at h;subst h;exact⟨rfl,rfl⟩
 | d::r,ts,h,i=>by
   cases d with
   | t x=>
     simp only[kA,jJ,aLb]at h
     obtain⟨l,hl,rfl⟩:=h
     obtain⟨h1,h2⟩:=qg H hl (i+1)
     exact⟨by simp[m0,o7,h1],by simp[cz,en,depth,h2]⟩
   | nil=>
     simp only[kA,jJ,aLb]at h
     obtain⟨l,hl,rfl⟩:=h
     obtain⟨h1,h2⟩:=qg H hl (i+1)
     exact⟨by simp[m0,o7,h1],by simp[cz,en,depth,h2]⟩
   | _=>simp[kA]at h
theorem Gm(ts:List T)(n:Nat):(ts.map D.t).flatMap (ids n)=[]:=by
 induction ts with
 | nil=>rfl
 | cons t ts ih=>rw[List.map_cons,List.flatMap_cons,ih];simp[ids]
theorem NL(f:Nat→Option Nat)(ts:List T):bR (ren f depth) (ts.map .t)=some (ts.map .t):=by
 induction ts with
 | nil=>rfl
 | cons t ts ih=>simp[bR,ren,depth]at ih ⊢;exact ih
def tS:D→Bool
 | .t _=>true
 | .tup ds=>ds.all fun | .t _=>true | _=>false
 | _=>false
theorem yo{f:Nat→Option Nat}{d:D}(h:tS d=true):ren f depth d=some d:=by
 cases d with
 | t x=>rfl
 | tup ds=>
   simp only[tS]at h
   have:bR (ren f 7) ds=some ds:=by
    induction ds with
    | nil=>rfl
    | cons d ds ih=>
      simp only[List.all_cons,aLr]at h
      cases d with
      | t x=>simp[bR,ren,ih h.2]
      | _=>simp at h
   simp[ren,depth,this]
 | _=>simp[tS]at h
def vr(H:ah)(p:D×ah):Option (D×ah):=if tS p.1&&p.2.isEmpty then some (p.1,H)else
 (ren (dQ [] H.length) depth p.1).bind fun r'=>(bR (gg (dQ [] H.length)) p.2).map fun os=>(r',H++os)
@[go_sem] theorem aaq (H : ah) (x : T) : vr H (.t x, []) = some (.t x, H) := (rfl)
@[go_sem] theorem aar (H : ah) : vr H (.tup [], []) = some (.tup [], H) := (rfl)
@[go_sem] theorem aas (H : ah) (x y : T) : vr H (.tup [.t x, .t y], []) = some (.tup [.t x, .t y], H) := (rfl)
@[go_sem] theorem aat (H : ah) (x y z : T) : vr H (.tup [.t x, .t y, .t z], []) = some (.tup [.t x, .t y, .t z], H) := (rfl)
@[go_sem] theorem aau (H : ah) (x y z u : T) : vr H (.tup [.t x, .t y, .t z, .t u], []) = some (.tup [.t x, .t y, .t z, .t u], H) := (rfl)
theorem Gn(H:ah)(call:aS)(f raw:Nat)(ds:List D)(ts:List T)(h:kA H ds=some ts):
 D4 H call f raw [] ds=(call raw f (ts.map .t) []).bind (vr H):=by
 obtain⟨h1,h2⟩:=qg H h 0
 simp only[D4,qH,h1,aLq,Gm,eO,reach,oB,List.flatMap_nil,h2,pins,NL,pick,bR]
 cases hc:call raw f (ts.map .t) []with
 | none=>rfl
 | some p=>
   obtain⟨d,os⟩:=p
   simp only[aLq,List.isEmpty_nil,Bool.true_and,vr]
   by_cases h3:os=[]
   · subst h3
     simp only[List.isEmpty_nil,Bool.true_and,Bool.and_true,bR,aLw,List.length_nil,List.take_nil,cT,List.drop_nil,List.append_nil]
     by_cases h4:tS d=true
     · rw[if_pos h4]
       split
       · rfl
       · rw[yo h4];rfl
     · rw[if_neg h4]
       split
       · rename_i h5
         exfalso
         apply h4
         cases d with
         | t x=>rfl
         | tup ds=>
           simp only[mZ,aLx]at h5
           simp only[tS,aLx]
           intro y hy
           have:=h5 y hy
           cases y<;>simp_all [jD]
         | _=>simp[mZ]at h5
       · rfl
   · have:os.isEmpty=false:=by cases os<;>simp_all
     simp only[this,Bool.false_and,Bool.and_false,if_false,aLt,List.length_nil,List.take_zero,cT,List.drop_zero]
@[go_sem] theorem Rq (st : St) : gV st [] = some [] := (rfl)
def acA(st:St)(r:List (Nat×Option (Nat×Bool)))(d:D):Option (List D):=jJ d (gV st r)
@[go_sem] theorem aav (vs : List D) (H : ah) (r : List (Nat × Option (Nat × Bool))) (d : D) : acA ⟨vs, H⟩ r d = jJ d (gV ⟨vs, H⟩ r) := (rfl)
@[go_sem] theorem Rr (vs : List D) (H : ah) (j : Nat) (r : List (Nat × Option (Nat × Bool))) : gV ⟨vs, H⟩ ((j, none) :: r) = vs[j]?.bind (acA ⟨vs, H⟩ r) := (rfl)
def aaw(st:St)(r:List (Nat×Option (Nat×Bool)))(p:D×ah):Option (List D):=jJ p.1 (gV st r)
@[go_sem] theorem aax (vs : List D) (H : ah) (r : List (Nat × Option (Nat × Bool))) (d : D) (H' : ah) : aaw ⟨vs, H⟩ r (d, H') = jJ d (gV ⟨vs, H⟩ r) := (rfl)
def aay(st:St)(n:Nat)(agg:Bool)(r:List (Nat×Option (Nat×Bool)))(p:D):Option (List D):=(Ia st.H n agg p).bind (aaw st r)
@[go_sem] theorem aaz (vs : List D) (H : ah) (n : Nat) (agg : Bool) (r : List (Nat × Option (Nat × Bool))) (p : D) : aay ⟨vs, H⟩ n agg r p = (Ia H n agg p).bind (aaw ⟨vs, H⟩ r) := (rfl)
@[go_sem] theorem NM (vs : List D) (H : ah) (j n : Nat) (agg : Bool) (r : List (Nat × Option (Nat × Bool))) : gV ⟨vs, H⟩ ((j, some (n, agg)) :: r) = vs[j]?.bind (aay ⟨vs, H⟩ n agg r) := by
 simp only[gV]
 cases vs[j]? with
 | none=>rfl
 | some p=>
   simp only[aLq,aay,Ia]
   cases rS H p n agg<;>rfl
@[go_sem] theorem aaA (H : ah) (n : Nat) (x : T) : frz H n (.t x) = some x := by cases n <;> rfl
@[go_sem] theorem aaB (H : ah) (n : Nat) : frz H n .nil = some (.sl []) := by cases n <;> rfl
@[go_sem] theorem aaC (H : ah) (n : Nat) (cs : List D) : frz H (n + 1) (.agg cs) = (bR (frz H n) cs).map .agg := (rfl)
@[go_sem] theorem xq (H : ah) (n : Nat) (ts : List T) : bR (frz H n) (ts.map .t) = some ts := by
 induction ts with
 | nil=>rfl
 | cons t ts ih=>simp[bR,aaA,ih]
def frA(H:ah)(n ep m lo hi:Nat):Option Obj→Option T
 | some (.arr _ _ ep' es)=>if ep=ep'∧m=es.length then(bR (frz H n) ((es.drop lo).take (hi-lo))).map .sl else none
 | _=>none
def frR(H:ah)(n ep m:Nat):Option Obj→Option T
 | some (.arr _ _ ep' es)=>if ep=ep'∧m=es.length then(bR (frz H n) es).map .sl else none
 | _=>none
@[go_sem] theorem aaD (H : ah) (n id ep m : Nat) : frz H (n + 1) (.ref id ep m) = frR H n ep m H[id]? := by
 simp only[frz,eI]
 generalize H[id]?=o
 rcases o with _ | (_ | ⟨sz',pin,ep',es⟩)
 · rfl
 · rfl
 · simp only[frR]
   by_cases h:ep=ep'∧m=es.length
   · rw[if_pos h,if_pos h];rfl
   · rw[if_neg h,if_neg h];rfl
@[go_sem] theorem aaE (H : ah) (n id ep m lo hi : Nat) : frz H (n + 1) (.sub id ep m lo hi) = frA H n ep m lo hi H[id]? := by
 simp only[frz,eI]
 generalize H[id]?=o
 rcases o with _ | (_ | ⟨sz',pin,ep',es⟩)
 · rfl
 · rfl
 · simp only[frA]
   by_cases h:ep=ep'∧m=es.length
   · rw[if_pos h,if_pos h];rfl
   · rw[if_neg h,if_neg h];rfl
@[go_sem] theorem aaF (H : ah) (n ep m sz : Nat) (pin : Bool) (es : List D) : frR H n ep m (some (.arr sz pin ep es)) = if m = es.length then (bR (frz H n) es).map .sl else none := by simp [frR]
@[go_sem] theorem aaG (H : ah) (n ep m lo hi sz : Nat) (pin : Bool) (es : List D) : frA H n ep m lo hi (some (.arr sz pin ep es)) = if m = es.length then (bR (frz H n) ((es.drop lo).take (hi - lo))).map .sl else none := by simp [frA]
@[go_sem] theorem U4 (H : ah) (x : T) : o7 H (.t x) = some (.t x) := (rfl)
@[go_sem] theorem Yg (H : ah) : o7 H .nil = some (.t (.sl [])) := (rfl)
@[go_sem] theorem Yh (H : ah) (cs : List D) : o7 H (.agg cs) = (frz H 8 (.agg cs)).map .t := (rfl)
@[go_sem] theorem Yi (H : ah) (id ep n : Nat) : o7 H (.ref id ep n) = (frz H 8 (.ref id ep n)).map .t := (rfl)
@[go_sem] theorem Yj (H : ah) (id ep n lo hi : Nat) : o7 H (.sub id ep n lo hi) = (frz H 8 (.sub id ep n lo hi)).map .t := (rfl)
@[go_sem] theorem NN (H : ah) (id off : Nat) : o7 H (.bp id off) = some (.bp id off) := (rfl)
@[go_sem] theorem aaH (H : ah) (id ep n i off : Nat) : o7 H (.ap id ep n i off) = some (.ap id ep n i off) := (rfl)
@[go_sem] theorem aaI (H : ah) (cs : List T) : o7 H (.ep cs) = some (.ep cs) := (rfl)
@[go_sem] theorem aaJ (H : ah) (f : Nat) (cs : List D) : o7 H (.fn f cs) = some (.fn f cs) := (rfl)
def ltB:Nat→Nat→Bool
 | _,0=>false
 | 0,_+1=>true
 | m+1,n+1=>ltB m n
@[go_sem] theorem adT (m : Nat) : ltB m 0 = false := by cases m <;> rfl
@[go_sem] theorem acB (n : Nat) : ltB 0 (n + 1) = true := (rfl)
@[go_sem] theorem acC (m n : Nat) : ltB (m + 1) (n + 1) = ltB m n := (rfl)
theorem nu:∀ {m n:Nat},ltB m n=decide (m<n)
 | m,0=>by cases m<;>simp[ltB]
 | 0,n+1=>by simp[ltB]
 | m+1,n+1=>by simp[ltB,nu (m:=m) (n:=n)]
def eqB:Nat→Nat→Bool
 | 0,0=>true
 | m+1,n+1=>eqB m n
 | _,_=>false
@[go_sem] theorem acD : eqB 0 0 = true := (rfl)
@[go_sem] theorem acE (n : Nat) : eqB 0 (n + 1) = false := (rfl)
@[go_sem] theorem acF (n : Nat) : eqB (n + 1) 0 = false := (rfl)
@[go_sem] theorem acG (m n : Nat) : eqB (m + 1) (n + 1) = eqB m n := (rfl)
theorem BK:∀ {m n:Nat},eqB m n=decide (m=n)
 | 0,0=>rfl
 | 0,n+1=>rfl
 | m+1,0=>rfl
 | m+1,n+1=>by simp[eqB,BK (m:=m) (n:=n)]
section
variable (k n : Nat)
@[go_sem] theorem aaK (x : T) : old k n (.t x) = true := by cases n <;> rfl
@[go_sem] theorem aaL : old k n .nil = true := by cases n <;> rfl
@[go_sem] theorem acH (cs : List T) : old k n (.ep cs) = true := by cases n <;> rfl
@[go_sem] theorem Yk : old k n .nilp = true := by cases n <;> rfl
@[go_sem] theorem aaM : old k n .und = true := by cases n <;> rfl
@[go_sem] theorem U5 (id off : Nat) : old k n (.bp id off) = ltB id k := by cases n <;> simp [old, nu]
@[go_sem] theorem acI (id ep m i off : Nat) : old k n (.ap id ep m i off) = ltB id k := by cases n <;> simp [old, nu]
@[go_sem] theorem aaN (id ep m : Nat) : old k n (.ref id ep m) = ltB id k := by cases n <;> simp [old, nu]
@[go_sem] theorem aaO (id ep m lo hi : Nat) : old k n (.sub id ep m lo hi) = ltB id k := by cases n <;> simp [old, nu]
def ec(n:Nat)(cs:List D):Bool:=cs.all (old k n)
@[go_sem] theorem Rs : ec k n [] = true := (rfl)
@[go_sem] theorem BL (d : D) (r : List D) : ec k n (d :: r) = (old k n d && ec k n r) := (rfl)
@[go_sem] theorem CR (ts : List T) : ec k n (ts.map .t) = true := by
 induction ts with
 | nil=>rfl
 | cons t ts ih=>rw[List.map_cons,BL,aaK,ih];rfl
@[go_sem] theorem Rt (m : Nat) (x : T) : ec k n (List.replicate m (.t x)) = true := by
 have:List.replicate m (D.t x)=(List.replicate m x).map .t:=by simp
 rw[this,CR]
@[go_sem] theorem Ru (a b : List D) : ec k n (a ++ b) = (ec k n a && ec k n b) := by simp [ec]
@[go_sem] theorem aaP (cs : List D) : old k (n + 1) (.agg cs) = ec k n cs := (rfl)
@[go_sem] theorem aaQ (cs : List D) : old k (n + 1) (.tup cs) = ec k n cs := (rfl)
@[go_sem] theorem acJ (f : Nat) (cs : List D) : old k (n + 1) (.fn f cs) = ec k n cs := (rfl)
end
def eT(k:Nat):ah→Bool
 | []=>true
 | .box cs::r=>ec k 8 cs&&eT k r
 | .arr _ _ _ es::r=>ec k 8 es&&eT k r
@[go_sem] theorem NQ (k : Nat) : eT k [] = true := (rfl)
@[go_sem] theorem NR (k : Nat) (cs : List D) (r : ah) : eT k (.box cs :: r) = (ec k 8 cs && eT k r) := (rfl)
@[go_sem] theorem NS (k sz ep : Nat) (pin : Bool) (es : List D) (r : ah) : eT k (.arr sz pin ep es :: r) = (ec k 8 es && eT k r) := (rfl)
theorem kD(k:Nat)(H:ah):H.all (fun o=>o.ds.all (old k depth))=eT k H:=by
 induction H with
 | nil=>rfl
 | cons o r ih=>rw[List.all_cons,ih];cases o<;>rfl
def NT(d:D)(b:Bool):D:=if b then d else .und
@[go_sem] theorem Rv (d : D) : NT d true = d := (rfl)
@[go_sem] theorem NU (d : D) : NT d false = .und := (rfl)
@[go_sem] theorem aaR (k : Nat) (d : D) : kill k d = NT d (old k 8 d) := (rfl)
def D5(k:Nat):List D→List D
 | []=>[]
 | d::r=>kill k d::D5 k r
@[go_sem] theorem U6 (k : Nat) : D5 k [] = [] := (rfl)
@[go_sem] theorem Rw (k : Nat) (d : D) (r : List D) : D5 k (d :: r) = kill k d :: D5 k r := (rfl)
theorem Jf(k:Nat)(vs:List D):vs.map (kill k)=D5 k vs:=by
 induction vs with
 | nil=>rfl
 | cons d r ih=>rw[List.map_cons,ih];rfl
@[go_sem] theorem Yl (k : Nat) (vs : List D) (H : ah) : DM k ⟨vs, H⟩ = if eT k (H.take k) = true then some ⟨D5 k vs, H.take k⟩ else none := by
 simp only[DM,kD,Jf]
@[go_sem] theorem Gp (H : ah) (n : Nat) (x : T) : en H n (.t x) = [] := by cases n <;> rfl
@[go_sem] theorem Ym (H : ah) (n : Nat) : en H n .nil = [] := by cases n <;> rfl
@[go_sem] theorem NV (H : ah) (n id off : Nat) : en H n (.bp id off) = [] := by cases n <;> rfl
@[go_sem] theorem aaS (H : ah) (n f : Nat) (cs : List D) : en H n (.fn f cs) = [] := by cases n <;> rfl
@[go_sem] theorem aaT (H : ah) (n : Nat) (cs : List T) : en H n (.ep cs) = [] := by cases n <;> rfl
@[go_sem] theorem aaU (H : ah) (n a b c d e : Nat) : en H n (.ap a b c d e) = [] := by cases n <;> rfl
def ou(H:ah)(n:Nat)(cs:List D):List Nat:=cs.flatMap (en H n)
@[go_sem] theorem U7 (H : ah) (n : Nat) : ou H n [] = [] := (rfl)
@[go_sem] theorem D6 (H : ah) (n : Nat) (d : D) (r : List D) : ou H n (d :: r) = en H n d ++ ou H n r := (rfl)
@[go_sem] theorem aaV (H : ah) (n : Nat) (ts : List T) : ou H n (ts.map .t) = [] := by
 induction ts with
 | nil=>rfl
 | cons t ts ih=>rw[List.map_cons,D6,ih,Gp];rfl
@[go_sem] theorem U8 (H : ah) (n : Nat) (a b : List D) : ou H n (a ++ b) = ou H n a ++ ou H n b := by simp [ou]
@[go_sem] theorem Yn (H : ah) (n : Nat) (cs : List D) : en H (n + 1) (.agg cs) = ou H n cs := (rfl)
def NW(H:ah)(n:Nat):Option Obj→List Nat
 | some (.arr _ _ _ es)=>ou H n es
 | _=>[]
@[go_sem] theorem U9 (H : ah) (n sz ep : Nat) (pin : Bool) (es : List D) : NW H n (some (.arr sz pin ep es)) = ou H n es := (rfl)
@[go_sem] theorem Yo (H : ah) (n id ep m : Nat) : en H (n + 1) (.ref id ep m) = id :: NW H n H[id]? := (rfl)
@[go_sem] theorem Yp (H : ah) (n id ep m lo hi : Nat) : en H (n + 1) (.sub id ep m lo hi) = id :: NW H n H[id]? := (rfl)
@[go_sem] theorem aaW : rU [] = .tup [] := (rfl)
@[go_sem] theorem aaX (d : D) : rU [d] = d := (rfl)
@[go_sem] theorem aaY (a b : D) (r : List D) : rU (a :: b :: r) = .tup (a :: b :: r) := (rfl)
def zR(k:Nat):List Nat→Bool
 | []=>true
 | i::r=> !ltB i k&&zR k r
@[go_sem] theorem Va (k : Nat) : zR k [] = true := (rfl)
@[go_sem] theorem Rx (k i : Nat) (r : List Nat) : zR k (i :: r) = (!ltB i k && zR k r) := (rfl)
theorem CS(k:Nat)(l:List Nat):l.all (fun i=>decide (k≤i))=zR k l:=by
 induction l with
 | nil=>rfl
 | cons i r ih=>
   rw[List.all_cons,ih]
   simp only[zR,nu]
   congr 1
   rw[Bool.eq_iff_iff];simp
def Yq(k raw:Nat)(H:ah)(ds rs:List D):Option (D×ah):=
 (lC H (max raw 1) (List.range k) (rs.flatMap (ids depth)++oB H (List.range k))).bind fun q=>
  if(gZ H raw ds).all (fun i=> !(List.range k++q.1).contains i)then
   (bR (ren (idxOf (List.range k++q.1)) depth) rs).bind fun rs'=>
    (bR (gg (idxOf (List.range k++q.1))) (H.take k++q.2)).map fun hs'=>(rU rs',hs')
  else none
def Ry(k raw:Nat)(H:ah)(ds rs:List D)(b:Bool):Option (D×ah):=
 if b then(if zR k (gZ H raw ds)=true then some (rU rs,H.take k)else none)else Yq k raw H ds rs
@[go_sem] theorem Vb (k raw : Nat) (H : ah) (ds rs : List D) : Ry k raw H ds rs true = if zR k (gZ H raw ds) = true then some (rU rs, H.take k) else none := (rfl)
def Vc(k raw:Nat)(H:ah)(ds rs:List D):Option (D×ah):=Ry k raw H ds rs (ec k 8 rs&&eT k (H.take k))
@[go_sem] theorem aaZ (k raw : Nat) (H : ah) (ds rs : List D) : Vc k raw H ds rs = Ry k raw H ds rs (ec k 8 rs && eT k (H.take k)) := (rfl)
@[go_sem] theorem Vd (k : Nat) (H : ah) (ds : List D) : finish k 0 H ds = (bR (o7 H) ds).bind (Vc k 0 H ds) := by
 simp only[finish,if_true,kD,CS]
 cases bR (o7 H) ds with
 | none=>rfl
 | some rs=>
   simp only[aLq,Vc,Ry]
   show(if(ec k 8 rs&&eT k (H.take k))=true then _ else _)=_
   cases (ec k 8 rs&&eT k (H.take k))<;>rfl
@[go_sem] theorem Ve (H : ah) (ds : List D) : gZ H 0 ds = ou H 8 ds := (rfl)
@[go_sem] theorem Vf (vs : List D) : iZ [] vs = vs := (rfl)
@[go_sem] theorem Rz (i : Nat) (r : List Nat) (vs : List D) : iZ (i :: r) vs = iZ r (vs.set i .und) := (rfl)
@[go_sem] theorem aa0 (dead : List Nat) (k : Nat) (vs : List D) (H : ah) : tidy false dead k ⟨vs, H⟩ = some ⟨iZ dead vs, H⟩ := (rfl)
@[go_sem] theorem aa1 (dead : List Nat) (k : Nat) (vs : List D) (H : ah) : tidy true dead k ⟨vs, H⟩ = DM k ⟨iZ dead vs, H⟩ := (rfl)
section
variable (H : ah) (call : aS) (f raw : Nat) (keep : List Nat) (ds : List D)
def yp(H1:ah)(n:Nat)(sel:List Nat)(p:D×ah):Option (D×ah):=
 (ren (dQ sel n) depth p.1).bind fun r'=>(bR (gg (dQ sel n)) p.2).map fun os=>(r',cT H1 sel (os.take sel.length)++os.drop sel.length)
def qh(H1:ah)(sel:List Nat)(p:D×ah):Option (D×ah):=
 if sel.isEmpty&&p.2.isEmpty&&mZ p.1 then some (p.1,H)else yp H1 H.length sel p
def NX(args:List D)(H1:ah)(sel:List Nat)(hs:ah):Option (D×ah):=(call raw f args hs).bind (qh H H1 sel)
def NY(args:List D)(H1:ah)(sel:List Nat)(hs:ah):Option (D×ah):=(bR (gg (idxOf sel)) hs).bind (NX H call f raw args H1 sel)
def NZ(H1:ah)(sel:List Nat)(args:List D):Option (D×ah):=(pick H1 sel).bind (NY H call f raw args H1 sel)
def N0(args:List D)(sel:List Nat):Option (D×ah):=(bR (ren (idxOf sel) depth) args).bind (NZ H call f raw (pins H (cz H keep 0 ds)) sel)
def sk(n:Nat)(cs:List D):List Nat:=cs.flatMap (ids n)
def N1(args:List D):Option (D×ah):=N0 H call f raw keep ds args (reach H 3 (eO [] (sk 8 args)))
def Gq:Option (D×ah):=(m0 H keep 0 ds).bind (N1 H call f raw keep ds)
theorem Jg:D4 H call f raw keep ds=Gq H call f raw keep ds:=(rfl)
@[go_sem] theorem Jh : Gq H call f raw keep ds = (m0 H keep 0 ds).bind (N1 H call f raw keep ds) := (rfl)
@[go_sem] theorem Ji (args : List D) : N1 H call f raw keep ds args = N0 H call f raw keep ds args (reach H 3 (eO [] (sk 8 args))) := (rfl)
@[go_sem] theorem Jj (args : List D) (sel : List Nat) : N0 H call f raw keep ds args sel = (bR (ren (idxOf sel) 8) args).bind (NZ H call f raw (pins H (cz H keep 0 ds)) sel) := (rfl)
@[go_sem] theorem Jk (H1 : ah) (sel : List Nat) (args : List D) : NZ H call f raw H1 sel args = (pick H1 sel).bind (NY H call f raw args H1 sel) := (rfl)
@[go_sem] theorem Jl (args : List D) (H1 : ah) (sel : List Nat) (hs : ah) : NY H call f raw args H1 sel hs = (bR (gg (idxOf sel)) hs).bind (NX H call f raw args H1 sel) := (rfl)
@[go_sem] theorem Jm (args : List D) (H1 : ah) (sel : List Nat) (hs : ah) : NX H call f raw args H1 sel hs = (call raw f args hs).bind (qh H H1 sel) := (rfl)
def Jn(H1:ah)(sel:List Nat)(r:D)(os:ah):Option (D×ah):=some (r,cT H1 sel (os.take sel.length)++os.drop sel.length)
@[go_sem] theorem Jo (H1 : ah) (sel : List Nat) (r : D) (os : ah) : Jn H1 sel r os = some (r, cT H1 sel (os.take sel.length) ++ os.drop sel.length) := (rfl)
def N2(H1:ah)(n:Nat)(sel:List Nat)(os:ah)(r:D):Option (D×ah):=(bR (gg (dQ sel n)) os).bind (Jn H1 sel r)
@[go_sem] theorem CT (H1 : ah) (n : Nat) (sel : List Nat) (os : ah) (r : D) : N2 H1 n sel os r = (bR (gg (dQ sel n)) os).bind (Jn H1 sel r) := (rfl)
@[go_sem] theorem CU (H1 : ah) (n : Nat) (sel : List Nat) (r : D) (os : ah) : yp H1 n sel (r, os) = (ren (dQ sel n) 8 r).bind (N2 H1 n sel os) := by
 simp only[yp,depth]
 cases ren (dQ sel n) 8 r with
 | none=>rfl
 | some r'=>simp only[aLq,N2];cases bR (gg (dQ sel n)) os<;>rfl
@[go_sem] theorem Vg (H1 : ah) (i : Nat) (sel : List Nat) (p : D × ah) : qh H H1 (i :: sel) p = yp H1 H.length (i :: sel) p := (rfl)
@[go_sem] theorem Yr (H1 : ah) (sel : List Nat) (r : D) (o : Obj) (os : ah) : qh H H1 sel (r, o :: os) = yp H1 H.length sel (r, o :: os) := by
 simp[qh]
@[go_sem] theorem aa2 (H1 : ah) (k : IntKind) (n : Int) : qh H H1 [] (.t (.int k n), []) = some (.t (.int k n), H) := (rfl)
@[go_sem] theorem aa3 (H1 : ah) (b : Bool) : qh H H1 [] (.t (.bool b), []) = some (.t (.bool b), H) := (rfl)
@[go_sem] theorem Ys (H1 : ah) (es : List T) : qh H H1 [] (.t (.sl es), []) = some (.t (.sl es), H1) := by simp [qh, yp, mZ, T.scalar, ren, depth, bR, cT]
@[go_sem] theorem Vh (H1 : ah) (es : List T) : qh H H1 [] (.t (.agg es), []) = some (.t (.agg es), H1) := by simp [qh, yp, mZ, T.scalar, ren, depth, bR, cT]
@[go_sem] theorem Vi (H1 : ah) (ds : List D) : qh H H1 [] (.tup ds, []) = if ds.all jD then some (.tup ds, H) else yp H1 H.length [] (.tup ds, []) := by
 simp[qh,mZ]
def N3:Option (List T)→Option (D×ah)
 | some ts=>(call raw f (ts.map .t) []).bind (vr H)
 | none=>Gq H call f raw [] ds
@[go_sem] theorem RA (ts : List T) : N3 H call f raw ds (some ts) = (call raw f (ts.map .t) []).bind (vr H) := (rfl)
@[go_sem] theorem RB : N3 H call f raw ds none = Gq H call f raw [] ds := (rfl)
@[go_sem] theorem aa4 : D4 H call f raw [] ds = N3 H call f raw ds (kA H ds) := by
 cases h:kA H ds with
 | none=>rfl
 | some ts=>exact Gn H call f raw ds ts h
@[go_sem] theorem acK (k : Nat) : D4 H call f raw (k :: keep) ds = Gq H call f raw (k :: keep) ds := (rfl)
end
section
variable (H : ah) (keep : List Nat)
@[go_sem] theorem Vj (i : Nat) : m0 H keep i [] = some [] := (rfl)
def A6(i:Nat):List Nat→Bool
 | []=>false
 | j::r=>eqB i j||A6 i r
@[go_sem] theorem Yt (i : Nat) : A6 i [] = false := (rfl)
@[go_sem] theorem Vk (i j : Nat) (r : List Nat) : A6 i (j :: r) = (eqB i j || A6 i r) := (rfl)
theorem yq(i:Nat)(l:List Nat):l.contains i=A6 i l:=by
 induction l with
 | nil=>rfl
 | cons j r ih=>rw[List.contains_cons,ih];simp only[A6,BK];rw[beq_eq_decide_nat]
where beq_eq_decide_nat {a b:Nat}:(a==b)=decide (a=b):=by rw[Bool.eq_iff_iff];simp
def aa5(d:D):Bool→Option D
 | true=>some d
 | false=>o7 H d
@[go_sem] theorem acL (d : D) : aa5 H d true = some d := (rfl)
@[go_sem] theorem Ld (d : D) : aa5 H d false = o7 H d := (rfl)
def acM(i:Nat)(r:List D)(x:D):Option (List D):=jJ x (m0 H keep (i+1) r)
@[go_sem] theorem Gr (i : Nat) (r : List D) (x : D) : acM H keep i r x = jJ x (m0 H keep (i + 1) r) := (rfl)
@[go_sem] theorem xr (i : Nat) (d : D) (r : List D) : m0 H keep i (d :: r) = (aa5 H d (A6 i keep)).bind (acM H keep i r) := by
 simp only[m0,yq]
 cases A6 i keep<;>rfl
@[go_sem] theorem Ib (i : Nat) : cz H keep i [] = [] := (rfl)
def frK(l:List Nat):Bool→List Nat
 | true=>[]
 | false=>l
@[go_sem] theorem adU (l : List Nat) : frK l true = [] := (rfl)
@[go_sem] theorem Vl (l : List Nat) : frK l false = l := (rfl)
@[go_sem] theorem oL (i : Nat) (d : D) (r : List D) : cz H keep i (d :: r) = frK (en H 8 d) (A6 i keep) ++ cz H keep (i + 1) r := by
 simp only[cz,yq]
 cases A6 i keep<;>rfl
@[go_sem] theorem Yu (H : ah) : pins H [] = H := (rfl)
@[go_sem] theorem Vm (H : ah) (i : Nat) (r : List Nat) : pins H (i :: r) = pins (H.modify i Cs) r := (rfl)
def D7(i:Nat):Option Obj→ah
 | some (.arr sz _ ep es)=>H.set i (.arr sz true ep es)
 | _=>H
@[go_sem] theorem Vn (i : Nat) (cs : List D) : D7 H i (some (.box cs)) = H := (rfl)
@[go_sem] theorem Vo (i sz ep : Nat) (pin : Bool) (es : List D) : D7 H i (some (.arr sz pin ep es)) = H.set i (.arr sz true ep es) := (rfl)
theorem CV{α:Type}{l:List α}{i:Nat}{x:α}(h:l[i]?=some x):l.set i x=l:=by
 apply List.ext_getElem?
 intro j
 rw[List.getElem?_set]
 split
 · rename_i e;subst e
   split
   · exact h.symm
   · rename_i hl;rw[aLm (by omega)]at h;cases h
 · rfl
@[go_sem] theorem RC (i : Nat) : List.modify H i Cs = D7 H i H[i]? := by
 apply List.ext_getElem?
 intro j
 rw[List.getElem?_modify]
 cases h:H[i]? with
 | none=>
   simp only[D7]
   by_cases e:i=j
   · subst e;rw[h];simp
   · simp[e]
 | some o=>
   have hi:i<H.length:=(aLe.1 h).1
   cases o with
   | box cs=>
     simp only[D7]
     by_cases e:i=j
     · subst e;rw[h];simp[Cs]
     · simp[e]
   | arr sz pin ep es=>
     simp only[D7]
     rw[List.getElem?_set]
     by_cases e:i=j
     · subst e;rw[h];simp[Cs,hi]
     · simp[e]
section
variable (n : Nat)
@[go_sem] theorem adV (x : T) : ids n (.t x) = [] := by cases n <;> rfl
@[go_sem] theorem aa6 : ids n .nil = [] := by cases n <;> rfl
@[go_sem] theorem Yv : ids n .nilp = [] := by cases n <;> rfl
@[go_sem] theorem aa7 : ids n .und = [] := by cases n <;> rfl
@[go_sem] theorem acN (cs : List T) : ids n (.ep cs) = [] := by cases n <;> rfl
@[go_sem] theorem Vp (id off : Nat) : ids n (.bp id off) = [id] := by cases n <;> rfl
@[go_sem] theorem acO (id ep m i off : Nat) : ids n (.ap id ep m i off) = [id] := by cases n <;> rfl
@[go_sem] theorem aa8 (id ep m : Nat) : ids n (.ref id ep m) = [id] := by cases n <;> rfl
@[go_sem] theorem aa9 (id ep m lo hi : Nat) : ids n (.sub id ep m lo hi) = [id] := by cases n <;> rfl
@[go_sem] theorem aba (cs : List D) : ids (n + 1) (.agg cs) = sk n cs := (rfl)
@[go_sem] theorem abb (cs : List D) : ids (n + 1) (.tup cs) = sk n cs := (rfl)
@[go_sem] theorem Vq (f : Nat) (cs : List D) : ids (n + 1) (.fn f cs) = sk n cs := (rfl)
@[go_sem] theorem Jp : sk n [] = [] := (rfl)
@[go_sem] theorem Gs (d : D) (r : List D) : sk n (d :: r) = ids n d ++ sk n r := (rfl)
@[go_sem] theorem tA (ts : List T) : sk n (ts.map .t) = [] := Gm ts n
@[go_sem] theorem CW (a b : List D) : sk n (a ++ b) = sk n a ++ sk n b := by simp [sk]
@[go_sem] theorem Yw (m : Nat) (x : T) : sk n (List.replicate m (.t x)) = [] := by
 have:List.replicate m (D.t x)=(List.replicate m x).map .t:=by simp
 rw[this,tA]
end
def Gt(sel:List Nat)(i:Nat):Bool→List Nat
 | true=>sel
 | false=>sel++[i]
@[go_sem] theorem Yx (sel : List Nat) (i : Nat) : Gt sel i true = sel := (rfl)
@[go_sem] theorem Yy (sel : List Nat) (i : Nat) : Gt sel i false = sel ++ [i] := (rfl)
@[go_sem] theorem RD (sel : List Nat) : eO sel [] = sel := (rfl)
@[go_sem] theorem N4 (sel : List Nat) (i : Nat) (r : List Nat) : eO sel (i :: r) = eO (Gt sel i (A6 i sel)) r := by
 simp only[eO,yq]
 cases A6 i sel<;>rfl
def CY:Option Obj→List Nat
 | some (.box cs)=>sk 8 cs
 | some (.arr _ _ _ es)=>sk 8 es
 | none=>[]
@[go_sem] theorem RE (cs : List D) : CY (some (.box cs)) = sk 8 cs := (rfl)
@[go_sem] theorem RF (sz ep : Nat) (pin : Bool) (es : List D) : CY (some (.arr sz pin ep es)) = sk 8 es := (rfl)
@[go_sem] theorem Vr : oB H [] = [] := (rfl)
@[go_sem] theorem RG (i : Nat) (r : List Nat) : oB H (i :: r) = CY H[i]? ++ oB H r := by
 simp only[oB,List.flatMap_cons]
 congr 1
 cases H[i]? with
 | none=>rfl
 | some o=>cases o<;>rfl
@[go_sem] theorem abc (sel : List Nat) : reach H 0 sel = sel := (rfl)
@[go_sem] theorem abd (n : Nat) (sel : List Nat) : reach H (n + 1) sel = reach H n (eO sel (oB H sel)) := (rfl)
@[go_sem] theorem Yz : pick H [] = some [] := (rfl)
def Vs(r:List Nat)(o:Obj):Option ah:=jJ o (pick H r)
@[go_sem] theorem Jq (r : List Nat) (o : Obj) : Vs H r o = jJ o (pick H r) := (rfl)
@[go_sem] theorem Gu (i : Nat) (r : List Nat) : pick H (i :: r) = H[i]?.bind (Vs H r) := (rfl)
end
section
variable (f : Nat → Option Nat) (n : Nat)
@[go_sem] theorem abe (x : T) : ren f n (.t x) = some (.t x) := by cases n <;> rfl
@[go_sem] theorem abf : ren f n .nil = some .nil := by cases n <;> rfl
@[go_sem] theorem YA : ren f n .nilp = some .nilp := by cases n <;> rfl
@[go_sem] theorem abg : ren f n .und = some .und := by cases n <;> rfl
@[go_sem] theorem acP (cs : List T) : ren f n (.ep cs) = some (.ep cs) := by cases n <;> rfl
def acQ(off:Nat)(i:Nat):D:= .bp i off
@[go_sem] theorem abh (off i : Nat) : acQ off i = .bp i off := (rfl)
@[go_sem] theorem Vt (id off : Nat) : ren f n (.bp id off) = (f id).map (acQ off) := by cases n <;> rfl
def acR(ep m i off:Nat)(j:Nat):D:= .ap j ep m i off
@[go_sem] theorem abi (ep m i off j : Nat) : acR ep m i off j = .ap j ep m i off := (rfl)
@[go_sem] theorem acS (id ep m i off : Nat) : ren f n (.ap id ep m i off) = (f id).map (acR ep m i off) := by cases n <;> rfl
def Vu(ep m:Nat)(j:Nat):D:= .ref j ep m
@[go_sem] theorem YB (ep m j : Nat) : Vu ep m j = .ref j ep m := (rfl)
@[go_sem] theorem abj (id ep m : Nat) : ren f n (.ref id ep m) = (f id).map (Vu ep m) := by cases n <;> rfl
def Vv(ep m lo hi:Nat)(j:Nat):D:= .sub j ep m lo hi
@[go_sem] theorem YC (ep m lo hi j : Nat) : Vv ep m lo hi j = .sub j ep m lo hi := (rfl)
@[go_sem] theorem abk (id ep m lo hi : Nat) : ren f n (.sub id ep m lo hi) = (f id).map (Vv ep m lo hi) := by cases n <;> rfl
@[go_sem] theorem Vw (g : Nat) (cs : List D) : ren f (n + 1) (.fn g cs) = (bR (ren f n) cs).map (.fn g) := (rfl)
@[go_sem] theorem abl (cs : List D) : ren f (n + 1) (.agg cs) = (bR (ren f n) cs).map .agg := (rfl)
@[go_sem] theorem abm (cs : List D) : ren f (n + 1) (.tup cs) = (bR (ren f n) cs).map .tup := (rfl)
@[go_sem] theorem pn (ts : List T) : bR (ren f n) (ts.map .t) = some (ts.map .t) := by
 induction ts with
 | nil=>rfl
 | cons t ts ih=>rw[List.map_cons,zN,abe,aLq,Nr,ih];rfl
@[go_sem] theorem Le (m : Nat) (x : T) : bR (ren f n) (List.replicate m (.t x)) = some (List.replicate m (.t x)) := by
 have:List.replicate m (D.t x)=(List.replicate m x).map .t:=by simp
 rw[this,pn]
@[go_sem] theorem D8 (cs : List D) : gg f (.box cs) = (bR (ren f 8) cs).map .box := (rfl)
@[go_sem] theorem RH (sz ep : Nat) (pin : Bool) (es : List D) : gg f (.arr sz pin ep es) = (bR (ren f 8) es).map (.arr sz pin ep) := (rfl)
end
def RI(x:Option Nat):Bool→Option Nat
 | true=>some 0
 | false=>x.map (· +1)
@[go_sem] theorem acT (x : Option Nat) : RI x true = some 0 := (rfl)
@[go_sem] theorem acU (k : Nat) : RI (some k) false = some (k + 1) := (rfl)
@[go_sem] theorem acV : RI none false = none := (rfl)
@[go_sem] theorem idxOf_nil (i : Nat) : idxOf [] i = none := (rfl)
@[go_sem] theorem idxOf_cons (j i : Nat) (r : List Nat) : idxOf (j :: r) i = RI (idxOf r i) (eqB j i) := by
 simp only[idxOf,BK]
 by_cases h:j=i
 · simp[h,RI]
 · simp[h,RI]
@[go_sem] theorem RJ (n i : Nat) : dQ [] n i = some (n + i) := by simp [dQ]
@[go_sem] theorem YD (j n : Nat) (r : List Nat) : dQ (j :: r) n 0 = some j := by simp [dQ]
@[go_sem] theorem YE (j n i : Nat) (r : List Nat) : dQ (j :: r) n (i + 1) = dQ r n i := by
 simp only[dQ,List.length_cons,Nat.add_lt_add_iff_right,List.getElem?_cons_succ,Nat.add_sub_add_right]
@[go_sem] theorem N5 {α : Type} (H os : List α) : cT H [] os = H := by cases os <;> rfl
@[go_sem] theorem Lf {α : Type} (H : List α) (i : Nat) (r : List Nat) (o : α) (os : List α) : cT H (i :: r) (o :: os) = cT (H.set i o) r os := (rfl)
def lbP(sz:Nat)(p:List D×ah):List D×ah:=(p.1,.arr sz false 0 []::p.2)
@[go_sem] theorem acW (sz : Nat) (cs : List D) (os : ah) : lbP sz (cs, os) = (cs, .arr sz false 0 [] :: os) := (rfl)
def lbC(base:Nat)(cs:List D)(off sz:Nat)(r:List (Nat×Nat)):Option D→List D×ah
 | some .nil=>lbP sz (bN (base+1) (cs.set off (.ref base 0 0)) r)
 | _=>bN base cs r
@[go_sem] theorem abn (base : Nat) (cs : List D) (off sz : Nat) (r : List (Nat × Nat)) : lbC base cs off sz r (some .nil) = lbP sz (bN (base + 1) (cs.set off (.ref base 0 0)) r) := (rfl)
@[go_sem] theorem adW (base : Nat) (cs : List D) (off sz : Nat) (r : List (Nat × Nat)) (x : T) : lbC base cs off sz r (some (.t x)) = bN base cs r := (rfl)
@[go_sem] theorem abo (base : Nat) (cs : List D) (off sz : Nat) (r : List (Nat × Nat)) (a b c : Nat) : lbC base cs off sz r (some (.ref a b c)) = bN base cs r := (rfl)
@[go_sem] theorem Lg (base : Nat) (cs : List D) (off sz : Nat) (r : List (Nat × Nat)) : bN base cs ((off, sz) :: r) = lbC base cs off sz r cs[off]? := by
 simp only[bN,lbC]
 split<;>split<;>simp_all [lbP]
def lvP(H:ah)(id:Nat)(p:List D×ah):Option (D×ah):=some (.tup [],H.set id (.box p.1)++p.2)
@[go_sem] theorem acX (H : ah) (id : Nat) (cs : List D) (os : ah) : lvP H id (cs, os) = some (.tup [], H.set id (.box cs) ++ os) := (rfl)
def lvB(H:ah)(id:Nat)(l:List (Nat×Nat)):Option Obj→Option (D×ah)
 | some (.box cs)=>lvP H id (bN H.length cs l)
 | _=>none
@[go_sem] theorem acY (H : ah) (id : Nat) (l : List (Nat × Nat)) (cs : List D) : lvB H id l (some (.box cs)) = lvP H id (bN H.length cs l) := (rfl)
@[go_sem] theorem N6 (H : ah) (id : Nat) (x : Nat × Nat) (r : List (Nat × Nat)) : xn H id (x :: r) = lvB H id (x :: r) H[id]? := by
 simp only[xn,m5]
 generalize H[id]?=o
 rcases o with _ | (cs | _)
 · rfl
 · rfl
 · rfl
section
variable (H : ah)
def klE(n:Nat)(sel new:List Nat)(os:ah)(q:List Nat×ah):Option (List Nat×ah):=some (new++q.1,os++q.2)
@[go_sem] theorem acZ (n : Nat) (sel new : List Nat) (os : ah) (a : List Nat) (b : ah) : klE n sel new os (a, b) = some (new ++ a, os ++ b) := (rfl)
def klD(n:Nat)(sel new:List Nat)(os:ah):Option (List Nat×ah):=(lC H n (sel++new) (oB H new)).bind (klE n sel new os)
@[go_sem] theorem ac0 (n : Nat) (sel new : List Nat) (os : ah) : klD H n sel new os = (lC H n (sel ++ new) (oB H new)).bind (klE n sel new os) := (rfl)
def tB(sel:List Nat):List Nat→Bool
 | []=>true
 | i::r=> !A6 i sel&&tB sel r
@[go_sem] theorem RK (sel : List Nat) : tB sel [] = true := (rfl)
@[go_sem] theorem N7 (sel : List Nat) (i : Nat) (r : List Nat) : tB sel (i :: r) = (!A6 i sel && tB sel r) := (rfl)
theorem zS(sel l:List Nat):l.all (fun i=> !sel.contains i)=tB sel l:=by
 induction l with
 | nil=>rfl
 | cons i r ih=>rw[List.all_cons,ih,yq];rfl
def klC(n:Nat)(sel new:List Nat)(os:ah):Option (List Nat×ah):=
 (if n=0 then(if(os.flatMap fun o=>o.ds.flatMap (en H depth)).all (fun i=> !(sel++new).contains i)then bR (ea H) os else none)else some os).bind (klD H n sel new)
def rn:ah→List Nat
 | []=>[]
 | .box cs::r=>ou H 8 cs++rn r
 | .arr _ _ _ es::r=>ou H 8 es++rn r
@[go_sem] theorem RL : rn H [] = [] := (rfl)
@[go_sem] theorem RM (cs : List D) (r : ah) : rn H (.box cs :: r) = ou H 8 cs ++ rn H r := (rfl)
@[go_sem] theorem RN (sz ep : Nat) (pin : Bool) (es : List D) (r : ah) : rn H (.arr sz pin ep es :: r) = ou H 8 es ++ rn H r := (rfl)
theorem Gv(os:ah):(os.flatMap fun o=>o.ds.flatMap (en H depth))=rn H os:=by
 induction os with
 | nil=>rfl
 | cons o r ih=>rw[List.flatMap_cons,ih];cases o<;>rfl
@[go_sem] theorem adX (sel new : List Nat) (os : ah) : klC H 0 sel new os = (if tB (sel ++ new) (rn H os) = true then bR (ea H) os else none).bind (klD H 0 sel new) := by
 simp only[klC,Gv,zS,if_true]
@[go_sem] theorem adY (n : Nat) (sel new : List Nat) (os : ah) : klC H (n + 1) sel new os = klD H (n + 1) sel new os := by
 simp[klC]
def klN(n:Nat)(sel new:List Nat):Option (List Nat×ah):=(pick H new).bind (klC H n sel new)
@[go_sem] theorem ac1 (n : Nat) (sel new : List Nat) : klN H n sel new = (pick H new).bind (klC H n sel new) := (rfl)
@[go_sem] theorem YF (sel front : List Nat) : lC H 0 sel front = some ([], []) := (rfl)
@[go_sem] theorem YG (n : Nat) (sel front : List Nat) : lC H (n + 1) sel front = klN H n sel ((eO sel front).drop sel.length) := by
 simp only[lC,klN]
 generalize (eO sel front).drop sel.length=new
 cases pick H new with
 | none=>rfl
 | some os=>
   simp only[aLq,klC]
   congr 1
   funext os'
   simp only[klD]
   cases lC H n (sel++new) (oB H new)<;>rfl
@[go_sem] theorem Jr (cs : List D) : ea H (.box cs) = (bR (o7 H) cs).map .box := (rfl)
@[go_sem] theorem yr (sz ep : Nat) (pin : Bool) (ts : List T) : ea H (.arr sz pin ep (ts.map .t)) = some (.arr sz pin ep (ts.map .t)) := by
 simp only[ea,rm,aLw]
@[go_sem] theorem Js (sz ep : Nat) (pin : Bool) : ea H (.arr sz pin ep []) = some (.arr sz pin ep []) := (rfl)
@[go_sem] theorem Jt (sz ep : Nat) (pin : Bool) (m : Nat) (x : T) : ea H (.arr sz pin ep (List.replicate m (.t x))) = some (.arr sz pin ep (List.replicate m (.t x))) := by
 have:List.replicate m (D.t x)=(List.replicate m x).map .t:=by simp
 rw[this,yr]
def abp(k raw:Nat)(H:ah)(ds rs:List D)(q:List Nat×ah):Option (D×ah):=
 if tB (List.range k++q.1) (gZ H raw ds)=true then
  (bR (ren (idxOf (List.range k++q.1)) depth) rs).bind fun rs'=>(bR (gg (idxOf (List.range k++q.1))) (H.take k++q.2)).map fun hs'=>(rU rs',hs')
 else none
def Gw(sel:List Nat)(H2:ah)(rs':List D):Option (D×ah):=(bR (gg (idxOf sel)) H2).bind (finT3 rs')
where finT3 (rs':List D) (hs:ah):Option (D×ah):=some (rU rs',hs)
@[go_sem] theorem YH (rs' : List D) (hs : ah) : Gw.finT3 rs' hs = some (rU rs', hs) := (rfl)
@[go_sem] theorem YI (sel : List Nat) (H2 : ah) (rs' : List D) : Gw sel H2 rs' = (bR (gg (idxOf sel)) H2).bind (Gw.finT3 rs') := (rfl)
@[go_sem] theorem abq (k raw : Nat) (ds rs : List D) (sel : List Nat) (os : ah) : abp k raw H ds rs (sel, os) =
 if tB (List.range k++sel) (gZ H raw ds)=true then(bR (ren (idxOf (List.range k++sel)) 8) rs).bind (Gw (List.range k++sel) (H.take k++os))else none:=by
 simp only[abp,depth]
 split
 · cases bR (ren (idxOf (List.range k++sel)) 8) rs with
   | none=>rfl
   | some rs'=>simp only[aLq,Gw];cases bR (gg (idxOf (List.range k++sel))) (H.take k++os)<;>rfl
 · rfl
@[go_sem] theorem abr (k raw : Nat) (ds rs : List D) : Yq k raw H ds rs = (lC H (max raw 1) (List.range k) (sk 8 rs ++ oB H (List.range k))).bind (abp k raw H ds rs) := by
 simp only[Yq,zS,sk,depth];rfl
@[go_sem] theorem RO (k raw : Nat) (ds rs : List D) : Ry k raw H ds rs false = Yq k raw H ds rs := (rfl)
@[go_sem] theorem RP (k raw : Nat) (ds : List D) : finish k (raw + 1) H ds = Vc k (raw + 1) H ds ds := by
 simp only[finish,Nat.add_one_ne_zero,if_false,aLq,kD,CS,Vc,Ry]
 show(if(ec k 8 ds&&eT k (H.take k))=true then _ else _)=_
 cases (ec k 8 ds&&eT k (H.take k))<;>rfl
@[go_sem] theorem N8 (raw : Nat) (ds : List D) : gZ H (raw + 1) ds = [] := by simp [gZ]
@[go_sem] theorem YJ : max 0 1 = 1 := (rfl)
@[go_sem] theorem abt (r : Nat) : max (r + 1) 1 = r + 1 := by omega
@[go_sem] theorem RQ : List.range 0 = [] := (rfl)
@[go_sem] theorem RR : List.range 1 = [0] := (rfl)
@[go_sem] theorem RS : List.range 2 = [0, 1] := (rfl)
@[go_sem] theorem RT : List.range 3 = [0, 1, 2] := (rfl)
@[go_sem] theorem RU : List.range 4 = [0, 1, 2, 3] := (rfl)
end
theorem CZ{α:Type}(f:α→T)(l:List α)(i:Nat)(x:α)(y:D)(h:y= .t (f x)):((l.map f).map D.t).set i y=((l.set i x).map f).map D.t:=by
 rw[h,List.map_map,List.map_map]
 exact(List.map_set (f:=D.t ∘ f)).symm
@[go_sem] theorem abu (l : List Int) (i : Nat) (k : IntKind) (x : Int) : ((l.map (T.int k)).map D.t).set i (.t (.int k x)) = ((l.set i x).map (T.int k)).map D.t := CZ _ l i x _ rfl
@[go_sem] theorem YK (l : List Bool) (i : Nat) (x : Bool) : ((l.map T.bool).map D.t).set i (.t (.bool x)) = ((l.set i x).map T.bool).map D.t := CZ _ l i x _ rfl
end Go.Ev
namespace Go.Ev
class Lib where
 fs:Nat→Option Fn
end Go.Ev
namespace Go.Ev.K
abbrev u(x:O):R:={ o:=x}
abbrev w(n:Nat)(x:O):R:={ o:=x,d:=some n}
abbrev y(n:Nat)(b:Bool)(x:O):R:={ o:=x,g:=some (n,b)}
abbrev m(x:X):R:={ o:= .mv x}
abbrev g(x:X):R:={ o:= .ld x 1 false}
abbrev h(n:Nat)(x:X):R:={ o:= .ld x n true}
abbrev f(n:Nat)(x:X):R:={ o:= .fa x n}
abbrev a(n:Nat)(x z:X):R:={ o:= .ia x z n}
abbrev l0:X:= .l 0
abbrev l1:X:= .l 1
abbrev l2:X:= .l 2
abbrev l3:X:= .l 3
abbrev l4:X:= .l 4
abbrev l5:X:= .l 5
abbrev l6:X:= .l 6
abbrev l7:X:= .l 7
abbrev l8:X:= .l 8
abbrev l9:X:= .l 9
abbrev l10:X:= .l 10
abbrev l11:X:= .l 11
abbrev v0:X:= .v 0
abbrev v1:X:= .v 1
abbrev v2:X:= .v 2
abbrev v3:X:= .v 3
abbrev v4:X:= .v 4
abbrev v5:X:= .v 5
abbrev v6:X:= .v 6
abbrev v7:X:= .v 7
abbrev v8:X:= .v 8
abbrev v9:X:= .v 9
abbrev v10:X:= .v 10
abbrev v11:X:= .v 11
abbrev v12:X:= .v 12
abbrev v13:X:= .v 13
abbrev v14:X:= .v 14
abbrev v15:X:= .v 15
abbrev v16:X:= .v 16
abbrev v17:X:= .v 17
abbrev v18:X:= .v 18
abbrev v19:X:= .v 19
abbrev v20:X:= .v 20
abbrev v21:X:= .v 21
abbrev v22:X:= .v 22
abbrev v23:X:= .v 23
end Go.Ev.K
namespace Go.Ev.K
abbrev q(a:List R)(p:List (Nat×Nat))(c:C):C:= .seq (.reg a p) c
abbrev z0:D:= .t (.int .i64 (0))
abbrev z1:D:= .t (.bool false)
abbrev x(n:Nat)(z:X):R:={ o:= .mv z,d:=some n}
abbrev e(n:Nat)(b:Bool)(z:X):R:={ o:= .mv z,g:=some (n,b)}
abbrev i(n:Nat)(b:Bool)(z:X):R:={ o:= .ld z 1 false,g:=some (n,b)}
end Go.Ev.K
namespace Go.Ev.N
def BM:Nat:=0
def gp:Nat:=1
def N9:Nat:=2
def ig:Nat:=3
def cm:Nat:=4
def RV:Nat:=5
def E8:Nat:=6
def Gx:Nat:=7
def E9:Nat:=8
def aM:Nat:=9
def cY:Nat:=10
def D9:Nat:=11
def fM:Nat:=12
def Ic:Nat:=13
def Gy:Nat:=14
def dh:Nat:=15
def cH:Nat:=16
def Oa:Nat:=17
def Lh:Nat:=18
def Ob:Nat:=19
def Ie:Nat:=20
def Vx:Nat:=21
def Li:Nat:=22
def iC:Nat:=23
def Lj:Nat:=24
def Gz:Nat:=25
def Ig:Nat:=26
def df:Nat:=27
def eC:Nat:=28
def Oc:Nat:=29
def Vy:Nat:=30
def Od:Nat:=31
def RW:Nat:=32
def Oe:Nat:=33
def Lk:Nat:=34
def Ll:Nat:=35
def dF:Nat:=36
def RX:Nat:=37
def Of:Nat:=38
def GA:Nat:=39
def RY:Nat:=40
def Og:Nat:=41
def RZ:Nat:=42
def Oh:Nat:=43
def Lm:Nat:=44
def Vz:Nat:=45
def Ln:Nat:=46
def dW:Nat:=47
def Ih:Nat:=48
def aD:Nat:=49
def Ea:Nat:=50
def aV:Nat:=51
def Fa:Nat:=52
def eo:Nat:=53
def fN:Nat:=54
def R0:Nat:=55
def er:Nat:=56
def fv:Nat:=57
def fy:Nat:=58
def R1:Nat:=59
def Oi:Nat:=60
def R2:Nat:=61
def cq:Nat:=62
def R3:Nat:=63
def Oj:Nat:=64
def eD:Nat:=65
def bf:Nat:=66
def bk:Nat:=67
def dw:Nat:=68
def aL:Nat:=69
def cE:Nat:=70
def cA:Nat:=71
def Ol:Nat:=72
def cU:Nat:=73
def fO:Nat:=74
def aP:Nat:=75
def bQ:Nat:=76
def gq:Nat:=77
end Go.Ev.N
namespace Go.Ev.K
open Go.Ev
def gp:Fn:= { bq:=1,vars:=[0,2],body:=(q [x 1 (.b false)] [] (q [m v0,u (.ln l0),u (.bin .leq l0 (.i 400)),x 1 l0] [] .ret)),res:=[(1,none)]}
def ig:Fn:= { bq:=1,vars:=[0,2],body:=(q [w 1 (.mv (.c (.nilp)))] [] (q [m v0,u (.bd [.nil,z0] [(0,1,.l 0)]),u (.bx l0 2),x 1 l0] [] .ret)),res:=[(1,none)]}
def gB:C:= (.seq (.ite [m v4,m v3,u (.bin .lss l1 l0)] [] 0 .skip (.exit 0)) (.seq (.blk 1 (.reg [f 0 v2,g l0,m v0,u (.ca N.aM 0 [] [.l 0,.i 4]),u (.bin .mul (.i (-10)) l0),m v4,u (.bin .eql l0 (.i 0)),m l0,e 0 false v0,y 1 false (.ca N.dh 0 [] [.l 0,.i 6]),u (.pk l2 (.b true) l0),u (.bd [z0,z1] [(0,1,.l 6),(1,1,.l 0)]),u (.bs [.l 0] 2),u (.app l11 l0 true 2),f 0 v2,u (.st l0 l1 1 [])] [(1,4),(1,10),(1,13)])) (.reg [m v4,u (.bin .add l0 (.i 1)),x 4 l0] [])))
def mF:C:= .loop true [5,6,7,8,9] K.gB
def jd:C:= (.seq (.ite [m v6,m v3,u (.bin .lss l1 l0)] [] 0 .skip (.exit 2)) (.seq (.blk 3 (q [h 10 v5,w 7 (.al [z0,z0,z0,z0,z1,z1,z0,z0,z0,z0] []),u (.st l0 l1 10 [])] [] (q [m v6,u (.bin .sub l0 (.i 1)),m v0,m v6,u (.mn [.l 0,.i 2]),u (.ca N.aM 0 [] [.l 2,.l 0]),u (.bin .sub l4 l0),m v6,m v0,u (.bs [.i 11,.i 59,.i 119,.i 4] 1),u (.ca N.cY 0 [] [.l 1,.l 0]),u (.bin .add (.i 1) l0),m v0,u (.bs [.i 9,.i 3,.i 19] 1),u (.ca N.cY 0 [] [.l 1,.l 0]),u (.bin .add (.i 1) l0),f 0 v7,u (.st l0 l10 1 []),f 1 v7,u (.st l0 l11 1 []),f 2 v7,u (.st l0 l9 1 []),f 3 v7,u (.st l0 l7 1 [])] [] (.reg [f 1 v2,g l0,h 10 v7,u (.bs [.l 0] 10),u (.app l2 l0 true 10),f 1 v2,u (.st l0 l1 1 [])] [])))) (.reg [m v6,u (.bin .add l0 (.i 1)),x 6 l0] [])))
def mG:C:= .loop true [4,7,8,9] K.jd
def di:C:= (.seq (.ite [m v8,u (.bin .gtr l0 (.i 0)),m l0,y 0 true (.fa v2 1),i 1 true l0,y 2 true (.ln l0),y 3 true (.bin .lss l0 (.i 10)),u (.pk l4 l0 (.b false))] [] 0 .skip (.exit 4)) (.seq (.blk 5 (q [h 10 v5,w 9 (.al [z0,z0,z0,z0,z1,z1,z0,z0,z0,z0] []),u (.st l0 l1 10 [])] [] (q [m v0,m v3,u (.ca N.aM 0 [] [.l 1,.l 0]),m v0,m v3,u (.ca N.aM 0 [] [.l 1,.l 0]),m v0,u (.bs [.i 11,.i 59,.i 199] 1),u (.ca N.cY 0 [] [.l 1,.l 0]),u (.bin .add (.i 1) l0),m v0,u (.bs [.i 9,.i 3] 1),u (.ca N.cY 0 [] [.l 1,.l 0]),u (.bin .add (.i 1) l0),f 0 v9,u (.st l0 (.l 12) 1 []),f 1 v9,u (.st l0 l11 1 []),f 2 v9,u (.st l0 l9 1 []),f 3 v9,u (.st l0 l7 1 [])] [] (q [m v0,u (.ca N.aM 0 [] [.l 0,.i 5]),u (.bin .gtr l0 (.i 0)),m v0,u (.ca N.dh 0 [] [.l 0,.i 6]),f 4 v9,u (.st l0 l3 1 []),f 5 v9,u (.st l0 l3 1 [])] [] (.ite [f 0 v9,g l0,f 1 v9,g l0,u (.bin .neq l2 l0)] [] 0 (.reg [f 1 v2,g l0,h 10 v9,u (.bs [.l 0] 10),u (.app l2 l0 true 10),f 1 v2,u (.st l0 l1 1 [])] []) .skip))))) (.reg [m v8,u (.bin .sub l0 (.i 1)),x 8 l0] [])))
def mH:C:= .loop true [4,6,7,9] K.di
def cm:Fn:= { bq:=1,vars:=[0,2,3,4,5,6,7,8,9,10],body:=(q [w 1 (.al [.nil,.nil] [])] [] (q [w 2 (.al [.nil,.nil] [(0,2),(1,10)])] [] (q [m v0,u (.ca N.aM 0 [] [.l 0,.i 6]),u (.bin .add (.i 2) l0),x 3 l0] [] (.seq (.ite [m v0,u (.nc l0),f 0 l0,g l0,u (.ln l0),u (.bin .eql l0 (.i 0))] [] 0 (.reg [x 3 (.i 4)] []) .skip) (.seq (q [x 4 (.i 0)] [] (.blk 0 K.mF)) (q [u (.bd [z0,z0] [(0,1,.i 1),(1,1,.i 1)]),u (.bd [z0,z0,z0,z0,z1,z1,z0,z0,z0,z0] [(2,1,.i 12),(3,1,.i 10),(4,1,.b true),(6,2,.l 0)]),w 5 (.al [z0,z0,z0,z0,z1,z1,z0,z0,z0,z0] []),u (.st l0 l1 10 [])] [] (.seq (q [x 6 (.i 1)] [] (.blk 2 K.mG)) (.seq (q [m v0,u (.ca N.aM 0 [] [.l 0,.i 4]),x 8 l0] [] (.blk 4 K.mH)) (q [h 2 v2,u (.st v1 l0 2 [])] [] .ret))))))))),res:=[(1,some (2,true))]}
def aM:Fn:= { bq:=2,vars:=[0,1,4],body:=(q [x 2 (.i 0)] [] (.seq (.ite [m v0,u (.nc l0),f 1 l0,g l0,m v0,u (.nc l0),f 0 l0,g l0,u (.ln l0),u (.bin .geq l5 l0)] [] 0 (q [x 2 (.i 0)] [] .ret) .skip) (q [m v0,u (.nc l0),f 1 l0,g l0,u (.bin .add l0 (.i 1)),u (.nc l4),f 1 l0,u (.st l0 l2 1 [])] [] (q [m v0,u (.nc l0),f 0 l0,g l0,m v0,u (.nc l0),f 1 l0,g l0,u (.bin .sub l0 (.i 1)),a 1 l5 l0,g l0,m v1,u (.ca N.iC 0 [] [.l 1,.l 0]),x 2 l0] [] .ret)))),res:=[(2,none)]}
def cY:Fn:= { bq:=2,vars:=[0,1,4],body:=(q [x 2 (.i 0)] [] (q [m v1,m v0,m v1,u (.ln l0),u (.ca N.aM 0 [] [.l 2,.l 0]),a 1 l4 l0,g l0,x 2 l0] [] .ret)),res:=[(2,none)]}
def kB:C:= (.seq (.ite [m v3,m v0,u (.ln l0),u (.bin .lss l2 l0)] [] 0 .skip (.exit 0)) (.seq (.blk 1 (.ite [m v0,m v3,a 1 l1 l0,g l0,m v1,u (.bin .eql l1 l0)] [] 0 (q [x 2 (.b true)] [] .ret) .skip)) (.reg [m v3,u (.bin .add l0 (.i 1)),x 3 l0] [])))
def tC:C:= .loop true [2] K.kB
def fM:Fn:= { bq:=2,vars:=[0,1,4,5],body:=(q [x 2 (.b false)] [] (.seq (q [x 3 (.i 0)] [] (.blk 0 K.tC)) (q [x 2 (.b false)] [] .ret))),res:=[(2,none)]}
def dh:Fn:= { bq:=2,vars:=[0,1,4],body:=(q [x 2 (.b false)] [] (q [m v0,m v1,u (.ca N.aM 0 [] [.l 1,.l 0]),m v1,u (.bin .sub l0 (.i 1)),u (.bin .eql l2 l0),x 2 l0] [] .ret)),res:=[(2,none)]}
def gC:C:= (.seq (.ite [m v4,m v1,u (.bin .lss l1 l0)] [] 0 .skip (.exit 0)) (.seq (.blk 1 (.ite [m v0,u (.ca N.aM 0 [] [.l 0,.i 3]),u (.bin .eql l0 (.i 0))] [] 0 (.reg [m v3,m v4,u (.bs [.l 0] 1),u (.app l2 l0 true 1),x 3 l0] []) .skip)) (.reg [m v4,u (.bin .add l0 (.i 1)),x 4 l0] [])))
def mI:C:= .loop true [2] K.gC
def cH:Fn:= { bq:=2,vars:=[0,1,4,5,6],body:=(q [w 2 (.mv (.c (.nil)))] [] (q [w 3 (.nw 1)] [] (.seq (q [x 4 (.i 0)] [] (.blk 0 K.mI)) (q [m v3,x 2 l0] [] .ret)))),res:=[(2,none)]}
def iC:Fn:= { bq:=2,vars:=[0,1,4],body:=(q [x 2 (.i 0)] [] (.seq (.ite [m v1,u (.bin .lss l0 (.i 1))] [] 0 (q [x 2 (.i 0)] [] .ret) .skip) (q [m v0,m v1,u (.bin .rem l1 l0),x 0 l0] [] (.seq (.ite [m v0,u (.bin .lss l0 (.i 0))] [] 0 (.reg [m v0,m v1,u (.bin .add l1 l0),x 0 l0] []) .skip) (q [m v0,x 2 l0] [] .ret))))),res:=[(2,none)]}
def gD:C:= (.seq (.ite [m v5,f 1 v2,g l0,u (.ln l0),u (.bin .lss l3 l0)] [] 0 .skip (.exit 0)) (.seq (.blk 1 (.ite [f 1 v2,g l0,m v5,a 1 l1 l0,g l0,m v1,u (.bin .leq l1 l0)] [] 0 (.reg [m v4,m v5,u (.bs [.l 0] 1),u (.app l2 l0 true 1),x 4 l0] []) .skip)) (.reg [m v5,u (.bin .add l0 (.i 1)),x 5 l0] [])))
def mJ:C:= .loop true [0,3] K.gD
def df:Fn:= { bq:=2,vars:=[0,1,2,4,5,6],body:=(q [w 2 (.bx v0 2),w 3 (.mv (.c (.nil)))] [] (q [w 4 (.nw 1)] [] (.seq (q [x 5 (.i 0)] [] (.blk 0 K.mJ)) (q [m v4,x 3 l0] [] .ret)))),res:=[(3,none)]}
def kJ:C:= (.seq (.ite [m v3,f 0 v1,g l0,u (.ln l0),u (.bin .lss l3 l0)] [] 0 .skip (.exit 0)) (.seq (.blk 1 (q [f 0 v1,g l0,m v3,a 2 l1 l0,f 0 l0,g l0,x 4 l0] [] (.ite [m v4,u (.bin .lss l0 (.i (-10000))),m l0,e 0 false v4,y 1 false (.bin .gtr l0 (.i 10000)),u (.pk l2 (.b true) l0)] [] 0 (q [x 2 (.i 1)] [] .ret) .skip))) (.reg [m v3,u (.bin .add l0 (.i 1)),x 3 l0] [])))
def pP:C:= .loop true [0,2,4,5,6] K.kJ
def kK:C:= (.seq (.ite [m v5,f 1 v1,g l0,u (.ln l0),u (.bin .lss l3 l0)] [] 0 .skip (.exit 2)) (.seq (.blk 3 (q [f 1 v1,g l0,m v5,a 10 l1 l0,h 10 l0,w 6 (.al [z0,z0,z0,z0,z1,z1,z0,z0,z0,z0] []),u (.st l0 l1 10 [])] [] (.seq (.ite [f 0 v6,g l0,u (.bin .lss l0 (.i 0)),m l0,y 0 false (.fa v6 0),i 1 false l0,y 2 false (.fa v1 0),i 3 false l0,y 4 false (.ln l0),y 5 false (.bin .geq l3 l0),u (.pk l6 (.b true) l0),m l0,y 0 false (.fa v6 1),i 1 false l0,y 2 false (.bin .lss l0 (.i 0)),u (.pk l3 (.b true) l0),m l0,y 0 false (.fa v6 1),i 1 false l0,y 2 false (.fa v1 0),i 3 false l0,y 4 false (.ln l0),y 5 false (.bin .geq l3 l0),u (.pk l6 (.b true) l0),m l0,y 0 false (.fa v6 0),i 1 false l0,y 2 false (.fa v6 1),i 3 false l0,y 4 false (.bin .eql l2 l0),u (.pk l5 (.b true) l0)] [] 0 (q [x 2 (.i 4)] [] .ret) .skip) (.ite [f 2 v6,g l0,u (.bin .lss l0 (.i 1)),m l0,y 0 false (.fa v6 2),i 1 false l0,y 2 false (.bin .gtr l0 (.i 100000)),u (.pk l3 (.b true) l0),m l0,y 0 false (.fa v6 3),i 1 false l0,y 2 false (.bin .lss l0 (.i 1)),u (.pk l3 (.b true) l0),m l0,y 0 false (.fa v6 3),i 1 false l0,y 2 false (.bin .gtr l0 (.i 1000)),u (.pk l3 (.b true) l0),m l0,y 0 false (.fa v6 6),y 1 false (.ld l0 2 true),y 2 false (.ca N.fN 0 [] [.l 0,.i 1,.i 262144]),y 3 false (.un .not l0),u (.pk l4 (.b true) l0),m l0,y 0 false (.fa v6 8),y 1 false (.ld l0 2 true),y 2 false (.ca N.fN 0 [] [.l 0,.i (-2199023255552),.i 2199023255552]),y 3 false (.un .not l0),u (.pk l4 (.b true) l0)] [] 0 (q [x 2 (.i 1)] [] .ret) .skip)))) (.reg [m v5,u (.bin .add l0 (.i 1)),x 5 l0] [])))
def pQ:C:= .loop true [0,2,3,4,6] K.kK
def eC:Fn:= { bq:=1,vars:=[0,1,2,3,4,5,6],body:=(q [w 1 (.bx v0 2),x 2 (.i 0)] [] (.seq (.ite [f 0 v1,g l0,u (.ln l0),u (.bin .gtr l0 (.i 64)),m l0,y 0 false (.fa v1 1),i 1 false l0,y 2 false (.ln l0),y 3 false (.bin .gtr l0 (.i 128)),u (.pk l4 (.b true) l0)] [] 0 (q [x 2 (.i 2)] [] .ret) .skip) (.seq (q [x 3 (.i 0)] [] (.blk 0 K.pP)) (.seq (q [x 5 (.i 0)] [] (.blk 2 K.pQ)) (q [x 2 (.i 0)] [] .ret))))),res:=[(2,none)]}
def dF:Fn:= { bq:=3,vars:=[0,1,2,3,6,7,8],body:=(q [w 3 (.bx v0 2),w 4 (.al [z0,.nil] []),x 5 (.i 0)] [] (.seq (.blk 0 (.ite [h 2 v3,u (.ca N.eC 0 [] [.l 0]),u (.bin .neq l0 (.i 0)),m l0] [] 0 (q [u (.bd [z0,.nil] []),u (.st v4 l0 2 []),x 5 (.i 6)] [] .ret) (.ite [m v1,u (.bin .lss l0 (.i 0)),m l0,e 0 false v1,y 1 false (.fa v3 0),i 2 false l0,y 3 false (.ln l0),y 4 false (.bin .geq l3 l0),u (.pk l5 (.b true) l0),m l0] [] 0 (q [u (.bd [z0,.nil] []),u (.st v4 l0 2 []),x 5 (.i 3)] [] .ret) (.ite [m v2,u (.ca N.er 0 [] [.l 0]),u (.un .not l0),m l0] [] 0 (q [u (.bd [z0,.nil] []),u (.st v4 l0 2 []),x 5 (.i 8)] [] .ret) .skip)))) (q [f 0 v3,g l0,u (.ln l0),u (.ca N.fv 1 [] [.l 0]),x 6 l0] [] (q [m v6,m v1,m v2,a 1 l2 l1,u (.st l0 l1 1 [])] [] (q [m v2,h 2 v3,m v6,m v2,u (.ca N.fy 0 [] [.l 2,.l 1,.l 0]),u (.bd [z0,.nil] [(0,1,.l 4),(1,1,.l 0)]),u (.st v4 l0 2 []),x 5 (.i 0)] [] .ret))))),res:=[(4,some (2,true)),(5,none)]}
end Go.Ev.K
namespace Go.Ev
class cu [Lib]:Prop where
 oM:Lib.fs N.gp=some K.gp
 qi:Lib.fs N.ig=some K.ig
 ka:Lib.fs N.cm=some K.cm
 kc:Lib.fs N.aM=some K.aM
 lV:Lib.fs N.cY=some K.cY
 qj:Lib.fs N.fM=some K.fM
 kL:Lib.fs N.dh=some K.dh
 kd:Lib.fs N.cH=some K.cH
 sq:Lib.fs N.iC=some K.iC
 ke:Lib.fs N.df=some K.df
 ny:Lib.fs N.eC=some K.eC
 nz:Lib.fs N.dF=some K.dF
namespace K
variable [Lib] [cu]
theorem oM:Lib.fs N.gp=some K.gp:=cu.oM
theorem qi:Lib.fs N.ig=some K.ig:=cu.qi
theorem ka:Lib.fs N.cm=some K.cm:=cu.ka
theorem kc:Lib.fs N.aM=some K.aM:=cu.kc
theorem lV:Lib.fs N.cY=some K.cY:=cu.lV
theorem qj:Lib.fs N.fM=some K.fM:=cu.qj
theorem kL:Lib.fs N.dh=some K.dh:=cu.kL
theorem kd:Lib.fs N.cH=some K.cH:=cu.kd
theorem sq:Lib.fs N.iC=some K.iC:=cu.sq
theorem ke:Lib.fs N.df=some K.df:=cu.ke
theorem ny:Lib.fs N.eC=some K.eC:=cu.ny
theorem nz:Lib.fs N.dF=some K.dF:=cu.nz
end K
end Go.Ev
namespace Go.Ev.K
open Go.Ev
def je:C:= (.its [u (.bin .lss v6 v5)] [] 0 .skip (.exit 0) (.seq (.blk 1 (q [m v6,x 4 l0] [] (.ite [m v1,m v4,u (.cw l1 0 [] [.l 0])] [] 0 (.reg [m v3,m v4,u (.bs [.l 0] 1),u (.app l2 l0 true 1),x 3 l0] []) .skip))) (.reg [u (.bin .add v6 (.i 1)),x 6 l0] [])))
def pR:C:= .loop true [0,2,4] K.je
def dW:Fn:= { bq:=2,vars:=[0,1,4,5,6,7,8],body:=(q [w 2 (.mv (.c (.nil)))] [] (q [w 3 (.nw 1)] [] (.seq (q [x 5 v0,x 6 (.i 0)] [] (.blk 0 K.pR)) (q [m v3,x 2 l0] [] .ret)))),res:=[(2,none)]}
def aD:Fn:= { bq:=2,vars:=[0,1,4],body:=(q [x 2 (.b false)] [] (q [m v0,m v1,u (.ca N.bf 0 [] [.l 1,.l 0]),u (.bin .geq l0 (.i 0)),x 2 l0] [] .ret)),res:=[(2,none)]}
def aV:Fn:= { bq:=2,vars:=[0,1,4],body:=(q [x 2 (.b false)] [] (q [m v0,m v1,u (.ca N.bk 0 [] [.l 1,.l 0]),u (.bin .geq l0 (.i 0)),x 2 l0] [] .ret)),res:=[(2,none)]}
def eo:Fn:= { bq:=3,vars:=[0,1,2,3,4,5,6],body:=(q [w 3 (.bx v0 1),w 4 (.bx v1 1),w 5 (.bx v2 1),w 6 (.mv (.c (.nil)))] [] (q [u (.mf N.dw [.v 3,.v 4,.v 5]),u (.ca N.dW 0 [] [.i 64,.l 0]),x 6 l0] [] .ret)),res:=[(6,none)]}
def fN:Fn:= { bq:=3,vars:=[0,1,2,3,6],body:=(q [w 3 (.bx v0 2),x 4 (.b false)] [] (q [m v1,f 0 v3,g l0,u (.bin .leq l2 l0),m l0,y 0 true (.fa v3 0),i 1 true l0,y 2 true (.fa v3 1),i 3 true l0,y 4 true (.bin .leq l2 l0),u (.pk l5 l0 (.b false)),m l0,y 0 true (.fa v3 1),i 1 true l0,e 2 true v2,y 3 true (.bin .leq l1 l0),u (.pk l4 l0 (.b false)),x 4 l0] [] .ret)),res:=[(4,none)]}
def er:Fn:= { bq:=1,vars:=[0,2],body:=(q [x 1 (.b false)] [] (q [m v0,u (.bin .geq l0 (.i 0)),m l0,e 0 true v0,y 1 true (.bin .leq l0 (.i 2147483648)),u (.pk l2 l0 (.b false)),x 1 l0] [] .ret)),res:=[(1,none)]}
def kM:C:= (.seq (.ite [m v3,m v0,u (.bin .lss l1 l0)] [] 0 .skip (.exit 0)) (.seq (.blk 1 (.reg [m v2,u (.bs [.i 1099511627776] 1),u (.app l1 l0 true 1),x 2 l0] [])) (.reg [m v3,u (.bin .add l0 (.i 1)),x 3 l0] [])))
def pS:C:= .loop true [1] K.kM
def fv:Fn:= { bq:=1,vars:=[0,2,3,4],body:=(q [w 1 (.mv (.c (.nil)))] [] (q [w 2 (.nw 1)] [] (.seq (q [x 3 (.i 0)] [] (.blk 0 K.pS)) (q [m v2,x 1 l0] [] .ret)))),res:=[(1,none)]}
def fy:Fn:= { bq:=3,vars:=[0,1,2,3,6],body:=(q [w 3 (.bx v0 2),w 4 (.mv (.c (.nil)))] [] (q [h 2 v3,m v1,m v2,u (.ca N.eD 0 [3] [.l 2,.l 1,.l 0,.c (.nil)]),x 4 l0] [] .ret)),res:=[(4,none)]}
def gE:C:= (.seq (.ite [m v3,m v0,u (.ln l0),u (.bin .lss l2 l0)] [] 0 .skip (.exit 0)) (.seq (.blk 1 (.ite [m v0,m v3,a 1 l1 l0,g l0,m v1,m v3,a 1 l1 l0,g l0,u (.bin .neq l4 l0)] [] 0 (q [x 2 (.b false)] [] .ret) .skip)) (.reg [m v3,u (.bin .add l0 (.i 1)),x 3 l0] [])))
def mK:C:= .loop true [2] K.gE
def cq:Fn:= { bq:=2,vars:=[0,1,4,5],body:=(q [x 2 (.b false)] [] (.seq (.ite [m v0,u (.ln l0),m v1,u (.ln l0),u (.bin .neq l2 l0)] [] 0 (q [x 2 (.b false)] [] .ret) .skip) (.seq (q [x 3 (.i 0)] [] (.blk 0 K.mK)) (q [x 2 (.b true)] [] .ret)))),res:=[(2,none)]}
def dK:C:= (.seq (.ite [m v8,f 1 v4,g l0,u (.ln l0),u (.bin .lss l3 l0)] [] 0 .skip (.exit 2)) (.seq (.blk 3 (q [f 1 v4,g l0,m v8,a 10 l1 l0,h 10 l0,w 9 (.al [z0,z0,z0,z0,z1,z1,z0,z0,z0,z0] []),u (.st l0 l1 10 [])] [] (.seq (.ite [m v3,u (.eqk (.sl) false l0 (.c (.nil))),m l0,e 0 false v3,y 1 false (.fa v9 1),i 2 false l0,y 3 false (.ca N.fM 0 [] [.l 2,.l 0]),u (.pk l4 (.b true) l0),m l0,e 0 true v6,y 1 true (.fa v9 0),i 2 true l0,y 3 true (.fa v9 1),i 4 true l0,y 5 true (.ld v4 2 true),e 6 true v8,y 7 true (.ca N.fO 0 [] [.l 1,.l 0,.b false]),e 8 true v2,y 9 true (.ca N.cU 0 [0] [.l 8,.l 6,.l 4,.l 1,.l 0]),u (.pk l10 l0 (.b false))] [(11,17),(13,17)] 0 (.reg [x 7 (.b true)] []) .skip) (.ite [m v3,u (.eqk (.sl) false l0 (.c (.nil))),m l0,e 0 false v3,y 1 false (.fa v9 0),i 2 false l0,y 3 false (.ca N.fM 0 [] [.l 2,.l 0]),u (.pk l4 (.b true) l0),m l0,e 0 true v6,y 1 true (.fa v9 1),i 2 true l0,y 3 true (.fa v9 0),i 4 true l0,y 5 true (.ld v4 2 true),e 6 true v8,y 7 true (.ca N.fO 0 [] [.l 1,.l 0,.b true]),e 8 true v2,y 9 true (.ca N.cU 0 [0] [.l 8,.l 6,.l 4,.l 1,.l 0]),u (.pk l10 l0 (.b false))] [(11,17),(13,17)] 0 (.reg [x 7 (.b true)] []) .skip)))) (.reg [m v8,u (.bin .add l0 (.i 1)),x 8 l0] [])))
def pT:C:= .loop true [0,1,5,9] K.dK
def jf:C:= (.seq (.ite [m v7] [] 0 .skip (.exit 0)) (.blk 1 (q [x 7 (.b false)] [] (q [x 8 (.i 0)] [] (.blk 2 K.pT)))))
def pU:C:= .loop true [0,1,5,8,9] K.jf
def eD:Fn:= { bq:=4,vars:=[0,1,2,3,4,8,9,10,11,12],body:=(q [w 4 (.bx v0 2),w 5 (.mv (.c (.nil)))] [] (q [m v1,u (.app (.c (.nil)) l0 true 1),x 6 l0] [] (.seq (q [x 7 (.b true)] [] (.blk 0 K.pU)) (q [m v6,x 5 l0] [] .ret)))),res:=[(5,none)]}
def c9:C:= (.its [u (.bin .lss v5 v4)] [] 0 .skip (.exit 0) (.seq (.blk 1 (q [m v5,x 3 l0] [] (.ite [m v1,m v0,m v3,a 1 l1 l0,g l0,u (.cw l4 0 [] [.l 0])] [] 0 (q [m v3,x 2 l0] [] .ret) .skip))) (.reg [u (.bin .add v5 (.i 1)),x 5 l0] [])))
def gJ:C:= .loop true [2,3] K.c9
def bf:Fn:= { bq:=2,vars:=[0,1,4,5,7,8],body:=(q [x 2 (.i 0)] [] (.seq (q [m v0,w 4 (.ln l0),x 5 (.i 0)] [] (.blk 0 K.gJ)) (q [w 2 (.mv (.i (-1)))] [] .ret))),res:=[(2,none)]}
def dR:C:= (.its [u (.bin .lss v5 v4)] [] 0 .skip (.exit 0) (.seq (.blk 1 (q [m v5,x 3 l0] [] (.ite [m v1,m v0,m v3,a 1 l1 l0,g l0,u (.bin .eql l4 l0)] [] 0 (q [m v3,x 2 l0] [] .ret) .skip))) (.reg [u (.bin .add v5 (.i 1)),x 5 l0] [])))
def jg:C:= .loop true [2,3] K.dR
def bk:Fn:= { bq:=2,vars:=[0,1,4,5,7,8],body:=(q [x 2 (.i 0)] [] (.seq (q [m v0,w 4 (.ln l0),x 5 (.i 0)] [] (.blk 0 K.jg)) (q [w 2 (.mv (.i (-1)))] [] .ret))),res:=[(2,none)]}
def dw:Fn:= { bq:=4,vars:=[0,1,2,3,4,5],body:=(q [w 4 (.bx v0 1),x 5 (.b false)] [] (q [f 0 v1,g l0,u (.mf N.cE [.v 2,.v 4,.v 3]),u (.ca N.aL 0 [] [.l 1,.l 0]),x 5 l0] [] .ret)),res:=[(5,none)]}
def aL:Fn:= { bq:=2,vars:=[0,1,4],body:=(q [x 2 (.b false)] [] (q [m v0,m v1,u (.ca N.aP 0 [] [.l 1,.l 0]),u (.bin .geq l0 (.i 0)),x 2 l0] [] .ret)),res:=[(2,none)]}
def cE:Fn:= { bq:=4,vars:=[0,1,2,3,4,5],body:=(q [w 4 (.bx v0 2),x 5 (.b false)] [] (q [g v1,f 1 v4,g l0,u (.ln l0),u (.bin .sub l0 (.i 1)),u (.ca N.cA 0 [] [.l 4,.i 0,.l 0]),m l0,i 0 true v2,y 1 true (.fa v4 1),i 2 true l0,i 3 true v1,y 4 true (.ia l1 l0 2),y 5 true (.fa l0 1),i 6 true l0,y 7 true (.ln l0),y 8 true (.bin .lss l7 l0),u (.pk l9 l0 (.b false)),m l0,y 0 true (.fa v4 1),i 1 true l0,i 2 true v1,y 3 true (.ia l1 l0 2),y 4 true (.fa l0 1),i 5 true l0,i 6 true v2,y 7 true (.ia l1 l0 1),i 8 true l0,i 9 true v3,y 10 true (.bin .leq l1 l0),u (.pk l11 l0 (.b false)),x 5 l0] [] .ret)),res:=[(5,none)]}
def cA:Fn:= { bq:=3,vars:=[0,1,2,6],body:=(q [x 3 (.b false)] [] (q [m v0,m v1,u (.bin .geq l1 l0),m l0,e 0 true v0,e 1 true v2,y 2 true (.bin .leq l1 l0),u (.pk l3 l0 (.b false)),x 3 l0] [] .ret)),res:=[(3,none)]}
def cU:Fn:= { bq:=5,vars:=[0,1,2,3,4,10,11],body:=(q [x 5 (.b false)] [] (.seq (.ite [m v3,u (.bin .lss l0 (.i 0)),m l0,e 0 false v0,e 1 false v1,y 2 false (.ia l1 l0 1),i 3 false l0,y 4 false (.bin .geq l0 (.i 1099511627776)),u (.pk l5 (.b true) l0)] [] 0 (q [x 5 (.b false)] [] .ret) .skip) (q [m v4,m v0,m v1,a 1 l1 l0,g l0,m v3,u (.bin .add l1 l0),u (.mx [.l 6,.l 0]),x 6 l0] [] (.seq (.ite [m v6,u (.bin .gtr l0 (.i 2147483648)),m l0,e 0 false v6,e 1 false v0,e 2 false v2,y 3 false (.ia l1 l0 1),i 4 false l0,y 5 false (.bin .geq l4 l0),u (.pk l6 (.b true) l0)] [] 0 (q [x 5 (.b false)] [] .ret) .skip) (q [m v0,m v2,m v6,a 1 l2 l1,u (.st l0 l1 1 [])] [] (q [x 5 (.b true)] [] .ret)))))),res:=[(5,none)]}
def fO:Fn:= { bq:=3,vars:=[0,1,2,3,6],body:=(q [w 3 (.bx v0 2),x 4 (.i 0)] [] (q [h 2 v3,m v1,m v2,u (.ca N.bQ 0 [] [.l 2,.l 1,.l 0,.i 6,.i 9,.i 12]),x 4 l0] [] .ret)),res:=[(4,none)]}
def gG:C:= (.its [u (.bin .lss v5 v4)] [] 0 .skip (.exit 0) (.seq (.blk 1 (q [m v5,x 3 l0] [] (.ite [m v1,m v0,m v3,a 2 l1 l0,h 2 l0,u (.cw l4 0 [] [.l 0])] [] 0 (q [m v3,x 2 l0] [] .ret) .skip))) (.reg [u (.bin .add v5 (.i 1)),x 5 l0] [])))
def gK:C:= .loop true [2,3] K.gG
def aP:Fn:= { bq:=2,vars:=[0,1,4,5,7,8],body:=(q [x 2 (.i 0)] [] (.seq (q [m v0,w 4 (.ln l0),x 5 (.i 0)] [] (.blk 0 K.gK)) (q [w 2 (.mv (.i (-1)))] [] .ret))),res:=[(2,none)]}
def bQ:Fn:= { bq:=6,vars:=[0,1,2,3,4,5,6,12,13,14,15,16,17],body:=(q [w 6 (.bx v0 2),x 7 (.i 0)] [] (.seq (.ite [h 2 v6,u (.ca N.eC 0 [] [.l 0]),u (.bin .neq l0 (.i 0)),m l0,e 0 false v1,y 1 false (.bin .lss l0 (.i 0)),u (.pk l2 (.b true) l0),m l0,e 0 false v1,y 1 false (.fa v6 1),i 2 false l0,y 3 false (.ln l0),y 4 false (.bin .geq l3 l0),u (.pk l5 (.b true) l0),m l0,y 0 false (.fa v6 1),i 1 false l0,e 2 false v1,y 3 false (.ia l1 l0 10),y 4 false (.fa l0 5),i 5 false l0,u (.pk l6 (.b true) l0),m l0,y 0 false (.fa v6 1),i 1 false l0,e 2 false v1,y 3 false (.ia l1 l0 10),y 4 false (.fa l0 4),i 5 false l0,y 6 false (.un .not l0),u (.pk l7 (.b true) l0)] [] 0 (q [w 7 (.mv (.i (-1)))] [] .ret) .skip) (q [f 1 v6,g l0,m v1,a 10 l1 l0,h 10 l0,w 8 (.al [z0,z0,z0,z0,z1,z1,z0,z0,z0,z0] []),u (.st l0 l1 10 [])] [] (q [h 10 v8,m v2,u (.ca N.gq 0 [] [.l 1,.l 0]),m l0,u (.ex l0 0),u (.ex l1 1),x 9 l1,x 10 l1] [] (q [f 0 v6,g l0,m v10,a 2 l1 l0,f 0 l0,g l0,f 0 v6,g l0,m v9,a 2 l1 l0,f 0 l0,g l0,u (.bin .sub l6 l0),x 11 l0] [] (q [m v5,x 12 l0] [] (.seq (.ite [m v11,u (.bin .mul (.i 10) l0),f 2 v8,g l0,u (.bin .gtr l2 l0)] [] 0 (.reg [m v3,x 12 l0] []) .skip) (.seq (.ite [m v11,u (.bin .mul (.i (-10)) l0),f 2 v8,g l0,u (.bin .gtr l2 l0)] [] 0 (.reg [m v4,x 12 l0] []) .skip) (q [f 2 v8,g l0,u (.bin .mul (.i 10) l0),m v12,u (.bin .add l1 l0),u (.bin .sub l0 (.i 1)),m v12,u (.bin .quo l1 l0),x 7 l0] [] .ret))))))))),res:=[(7,none)]}
def gq:Fn:= { bq:=2,vars:=[0,1,2,4,5],body:=(q [w 2 (.bx v0 10),x 3 (.i 0),x 4 (.i 0)] [] (.seq (.ite [m v1] [] 0 (q [f 1 v2,g l0,f 0 v2,g l0,x 3 l2,x 4 l1] [] .ret) .skip) (q [f 0 v2,g l0,f 1 v2,g l0,x 3 l2,x 4 l1] [] .ret))),res:=[(3,none),(4,none)]}
end Go.Ev.K
namespace Go.Ev
class b0 [Lib]:Prop where
 nB:Lib.fs N.dW=some K.dW
 dX:Lib.fs N.aD=some K.aD
 fA:Lib.fs N.aV=some K.aV
 oh:Lib.fs N.eo=some K.eo
 oN:Lib.fs N.fN=some K.fN
 lW:Lib.fs N.er=some K.er
 nC:Lib.fs N.fv=some K.fv
 nD:Lib.fs N.fy=some K.fy
 kf:Lib.fs N.cq=some K.cq
 nE:Lib.fs N.eD=some K.eD
 eU:Lib.fs N.bf=some K.bf
 gx:Lib.fs N.bk=some K.bk
 lE:Lib.fs N.dw=some K.dw
 dD:Lib.fs N.aL=some K.aL
 kt:Lib.fs N.cE=some K.cE
 sr:Lib.fs N.cA=some K.cA
 nF:Lib.fs N.cU=some K.cU
 oO:Lib.fs N.fO=some K.fO
 dS:Lib.fs N.aP=some K.aP
 lX:Lib.fs N.bQ=some K.bQ
 oP:Lib.fs N.gq=some K.gq
namespace K
variable [Lib] [b0]
theorem nB:Lib.fs N.dW=some K.dW:=b0.nB
theorem dX:Lib.fs N.aD=some K.aD:=b0.dX
theorem fA:Lib.fs N.aV=some K.aV:=b0.fA
theorem oh:Lib.fs N.eo=some K.eo:=b0.oh
theorem oN:Lib.fs N.fN=some K.fN:=b0.oN
theorem lW:Lib.fs N.er=some K.er:=b0.lW
theorem nC:Lib.fs N.fv=some K.fv:=b0.nC
theorem nD:Lib.fs N.fy=some K.fy:=b0.nD
theorem kf:Lib.fs N.cq=some K.cq:=b0.kf
theorem nE:Lib.fs N.eD=some K.eD:=b0.nE
theorem eU:Lib.fs N.bf=some K.bf:=b0.eU
theorem gx:Lib.fs N.bk=some K.bk:=b0.gx
theorem lE:Lib.fs N.dw=some K.dw:=b0.lE
theorem dD:Lib.fs N.aL=some K.aL:=b0.dD
theorem kt:Lib.fs N.cE=some K.cE:=b0.kt
theorem sr:Lib.fs N.cA=some K.cA:=b0.sr
theorem nF:Lib.fs N.cU=some K.cU:=b0.nF
theorem oO:Lib.fs N.fO=some K.fO:=b0.oO
theorem dS:Lib.fs N.aP=some K.aP:=b0.dS
theorem lX:Lib.fs N.bQ=some K.bQ:=b0.lX
theorem oP:Lib.fs N.gq=some K.gq:=b0.oP
end K
end Go.Ev
namespace Go.Ev
open Go
variable [Lib]
noncomputable def bh:aS:=kI Lib.fs
theorem aE{raw f:Nat}{args:List D}{H:ah}{fn:Fn}{r:D×ah}(hf:Lib.fs f=some fn)(hn:fn.bq=args.length)
 (h:(exS bh fn.body ⟨pJ args fn.vars,H⟩).bind (Xk fn.res H.length raw)=some r) (h0:fn.prim=[]:=by rfl):bh raw f args H=some r:=Nd hf hn h h0
theorem vt{raw f:Nat}{args:List D}{H:ah}{fn:Fn}{r:D×ah}(hf:Lib.fs f=some fn)(h0:fn.prim≠[])(h:p4 fn.prim args H=some r):bh raw f args H=some r:=D1 hf h0 h
theorem fP{gc:Bool}{dead:List Nat}{c:C}{vs:List D}{H:ah}(s:Nat→St)(n:Nat){e:Ex}{st:St}
 (h0:(⟨iZ dead vs,H⟩:St)=s 0) (h:∀j,j<n→eP gc dead (s j).H.length (exS bh c (s j))=some (s (j+1)))
 (he:exS bh c (s n)=some (e,st)) (hn:e≠ .normal):exS bh (.loop gc dead c) ⟨vs,H⟩=some (e,st):=by
 show kz gc dead (exS bh c) ⟨iZ dead vs,H⟩=_
 rw[h0]
 exact yn s n h (cG he hn)
theorem vu{gc:Bool}{dead:List Nat}{c:C}{vs:List D}{H:ah}{p:Ex×St}(h:kz gc dead (exS bh c) ⟨iZ dead vs,H⟩=some p):exS bh (.loop gc dead c) ⟨vs,H⟩=some p:=h
class Dat (α:Type) where
 dflt:α
instance : Dat Int := ⟨0⟩
instance : Dat Nat := ⟨0⟩
instance : Dat Bool := ⟨false⟩
instance {α : Type} : Dat (List α) := ⟨[]⟩
def nth{α:Type} [Dat α](l:List α)(j:Nat):α:=l.getD j Dat.dflt
theorem iD{α:Type} [Dat α]{l:List α}{j:Nat}(h:j<l.length):l[j]?=some (nth l j):=by simp[nth,h]
theorem fB{α β:Type} [Dat α](f:α→β){l:List α}{j:Nat}(h:j<l.length):(l.map f)[j]?=some (f (nth l j)):=by rw[aLn,iD h];rfl
theorem jT{α β γ:Type} [Dat α](f:β→γ)(g:α→β){l:List α}{j:Nat}(h:j<l.length):((l.map g).map f)[j]?=some (f (g (nth l j))):=by rw[aLn,fB g h];rfl
theorem aq{α:Type} [Dat α]{l:List α}{j:Nat}(h:j<l.length):nth l j∈l:=aLd (iD h)
theorem bF{α:Type} [Dat α]{l:List α}{j:Nat}{x:α}(h:l[j]?=some x):nth l j=x:=by simp[nth,h]
theorem lF{α:Type} [Dat α]{l:List α}{j:Nat}(h:j<l.length):l.take (j+1)=l.take j++[nth l j]:=by
 rw[List.take_succ_eq_append_getElem h];simp[nth,h]
theorem abv{a b:Int}(h:a<b):(a<b)=True:=by simp[h]
theorem abw{a b:Int}(h:b≤a):(a<b)=False:=by simp[Int.not_lt.2 h]
theorem abx{a b:Int}(h:a≤b):(a≤b)=True:=by simp[h]
theorem aby{a b:Int}(h:b<a):(a≤b)=False:=by simp[Int.not_le.2 h]
theorem abz{a b:Int}(h:a=b):(a=b)=True:=by simp[h]
theorem abA{a b:Int}(h:a≠b):(a=b)=False:=by simp[h]
theorem abB{a b:Nat}(h:a<b):(a<b)=True:=by simp[h]
theorem abC{a b:Nat}(h:b≤a):(a<b)=False:=by simp[Nat.not_lt.2 h]
theorem abD{a b:Nat}(h:a≤b):(a≤b)=True:=by simp[h]
theorem abE{a b:Nat}(h:b<a):(a≤b)=False:=by simp[Nat.not_le.2 h]
theorem abF{a b:Nat}(h:a=b):(a=b)=True:=by simp[h]
theorem abG{a b:Nat}(h:a≠b):(a=b)=False:=by simp[h]
attribute [go_sem] abF abG abv abw abx aby abz abA abB abC abD abE qf fB jT Nu
@[go_sem] theorem R4 (a b : Nat) : ((a + b : Nat) : Int) = (a : Int) + (b : Int) := (rfl)
@[go_sem] theorem R5 : ((1 : Nat) : Int) = 1 := (rfl)
@[go_sem] theorem Om : ((0 : Nat) : Int) = 0 := (rfl)
@[go_sem] theorem VA (a b : Int) : a + b - b = a := Int.add_sub_cancel a b
@[go_sem] theorem Lo : (0 : Int).toNat = 0 := (rfl)
@[go_sem] theorem On (n : Nat) : (n : Int).toNat = n := (rfl)
@[go_sem] theorem Oo (n : Nat) : ((n : Int) + 1).toNat = n + 1 := (rfl)
@[go_sem] theorem Oq (a : Int) : 0 + a = a := Int.zero_add a
@[go_sem] theorem Ot (a : Int) : a + 0 = a := Int.add_zero a
@[go_sem] theorem Ou (a : Int) : a - 0 = a := Int.sub_zero a
abbrev tI(n:Int):T:= .int .i64 n
abbrev tL(l:List Int):T:= .sl (l.map (.int .i64))
@[go_sem] theorem Ju (H : ah) (n : Nat) (ts : List T) (x : T) : bR (frz H n) (ts.map .t ++ [.t x]) = some (ts ++ [x]) := by
 have:ts.map D.t++[.t x]=(ts++[x]).map .t:=by simp
 rw[this,xq]
@[go_sem] theorem Lp {α β : Type} (f : α → β) (a b : List α) : (a ++ b).map f = a.map f ++ b.map f := List.map_append
end Go.Ev
namespace Go.Ev
open Go
variable [Lib] [cu] [b0]
def Mod(n m:Int):Int:=if m<1 then 0 else if n.tmod m<0 then n.tmod m+m else n.tmod m
theorem VB(n m:Int):0≤Mod n m:=by
 unfold Mod
 split
 · omega
 · have h5:=Int.lt_tmod_of_pos n (b:=m) (by omega)
   split<;>omega
theorem VC(n m:Int)(h:1≤m):Mod n m<m:=by
 unfold Mod
 rw[if_neg (by omega)]
 have h3:=Int.tmod_lt_of_pos n (b:=m) (by omega)
 split<;>omega
theorem VD(n m:Int)(hm:m≤4611686018427387904):bh 0 N.iC [I n,I m] []=some (I (Mod n m),[]):=by
 refine aE K.sq rfl ?_
 unfold Mod
 by_cases h1:m<1
 · simp only[go_sem,K.iC,h1,↓reduceIte]
 · have h2:m≠0:=by omega
   have h3:=Int.tmod_lt_of_pos n (b:=m) (by omega)
   have h5:=Int.lt_tmod_of_pos n (b:=m) (by omega)
   by_cases h4:n.tmod m<0
   · simp(disch:=omega)only[go_sem,K.iC,h1,↓reduceIte,h2,h4]
   · simp(disch:=omega)only[go_sem,K.iC,h1,↓reduceIte,h2,h4]
theorem Jv(l:List Int):bh 0 N.gp [.t (tL l)] []=some (B (decide (l.length≤400)),[]):=by
 refine aE K.oM rfl ?_
 simp(disch:=omega)only[go_sem,K.gp,↓reduceIte]
 simp only[show((l.length:Int)≤400)=(l.length≤400)by rw[eq_iff_iff];omega]
structure aR where
 L:List Int
 at_:Nat
def aR.obj(d:aR):Obj:= .box [.t (tL d.L),I d.at_]
def aR.eL(d:aR):Prop:=d.L.length≤400
def aR.next(d:aR)(n:Int):Int×aR:=if d.at_<d.L.length then(Mod (nth d.L d.at_) n,⟨d.L,d.at_+1⟩)else(0,d)
theorem aR.Lq(d:aR)(n:Int):(d.next n).2.L=d.L:=by unfold aR.next;split<;>rfl
theorem aR.cB{d:aR}(h:d.eL)(n:Int):(d.next n).2.eL:=by unfold aR.eL;rw[d.Lq];exact h
theorem aR.kg(d:aR)(n:Int):0≤(d.next n).1:=by unfold aR.next;split<;>simp[VB]
theorem aR.kh(d:aR){n:Int}(h:1≤n):(d.next n).1<n:=by unfold aR.next;split<;>simp[VC _ _ h];omega
theorem kN(d:aR)(n:Int)(hn:n≤4611686018427387904)(hd:d.eL):bh 0 N.aM [.bp 0 0,I n] [d.obj]=some (I (d.next n).1,[(d.next n).2.obj]):=by
 refine aE K.kc rfl ?_
 have hm:=VD (nth d.L d.at_) n hn
 unfold aR.eL at hd
 unfold aR.next aR.obj
 by_cases h1:d.at_<d.L.length
 · simp(disch:=omega)only[go_sem,K.aM,↓reduceIte,↓if_pos,↓if_neg,Int.add_sub_cancel,hm,Int.natCast_add]
 · simp(disch:=omega)only[go_sem,K.aM,↓reduceIte,↓if_pos,↓if_neg]
@[go_sem] theorem YL (d : aR) : CY (some d.obj) = [] := by simp only [aR.obj, go_sem]
@[go_sem] theorem YM (f : Nat → Option Nat) (d : aR) : gg f d.obj = some d.obj := by simp only [aR.obj, go_sem]
@[go_sem] theorem YN (k : Nat) (d : aR) (r : ah) : eT k (d.obj :: r) = eT k r := by simp only [aR.obj, go_sem]
def aR.one(d:aR)(n:Int):Bool×aR:=(decide ((d.next n).1=n-1),(d.next n).2)
theorem aR.zT{d:aR}(h:d.eL)(n:Int):(d.one n).2.eL:=aR.cB h n
theorem Lr(d:aR)(n:Int)(h1:0≤n)(hn:n≤4611686018427387904)(hd:d.eL):bh 0 N.dh [.bp 0 0,I n] [d.obj]=some (B (d.one n).1,[(d.one n).2.obj]):=by
 refine aE K.kL rfl ?_
 have hm:=kN d n hn hd
 unfold aR.one
 simp(disch:=omega)only[go_sem,K.dh,↓reduceIte,hm]
def aR.of(d:aR)(l:List Int):Int×aR:=(nth l (d.next l.length).1.toNat,(d.next l.length).2)
theorem aR.nG{d:aR}(h:d.eL)(l:List Int):(d.of l).2.eL:=aR.cB h _
theorem aR.tD(d:aR){l:List Int}(h:l≠[]):(d.of l).1∈l:=by
 unfold aR.of
 have hl:0<l.length:=List.length_pos_iff.2 h
 have:=d.kg l.length
 have:=d.kh (n:=l.length) (by omega)
 exact aq (by omega)
theorem Jw(d:aR)(l:List Int)(hl:l≠[])(hl2:l.length≤4294967296)(hd:d.eL):bh 0 N.cY [.bp 0 0,.t (tL l)] [d.obj]=some (I (d.of l).1,[(d.of l).2.obj]):=by
 refine aE K.lV rfl ?_
 have hm:=kN d l.length (by omega) hd
 have h0:0<l.length:=List.length_pos_iff.2 hl
 have h1:=d.kg l.length
 have h2:=d.kh (n:=l.length) (by omega)
 unfold aR.of
 simp(disch:=omega)only[go_sem,K.cY,↓reduceIte,hm]
def aR.kO(d:aR):Nat→List Int×aR
 | 0=>([],d)
 | k+1=>(if((d.kO k).2.next 3).1=0 then(d.kO k).1++[(k:Int)]else(d.kO k).1,((d.kO k).2.next 3).2)
theorem aR.qk{d:aR}(h:d.eL):∀n,(d.kO n).2.eL
 | 0=>h
 | n+1=>aR.cB (aR.qk h n) 3
theorem aR.vv(d:aR):∀n,(d.kO n).1.length≤n
 | 0=>aLs _
 | n+1=>by
   have:=d.vv n
   unfold aR.kO
   simp only
   split<;>simp<;>omega
theorem Ov(d:aR)(n:Nat)(hn:n≤1000000)(hd:d.eL):bh 0 N.cH [.bp 0 0,I n] [d.obj]=some (.t (tL (d.kO n).1),[(d.kO n).2.obj]):=by
 refine aE K.kd rfl ?_
 have hlen:=d.vv
 have loop:exS bh K.mI ⟨[.bp 0 0,I n,.nil,.ref 1 0 0,I 0],[d.obj,.arr 1 false 0 []]⟩=
  some (.exit 0,⟨[.bp 0 0,I n,.und,.ref 1 0 (d.kO n).1.length,I n],[(d.kO n).2.obj,.arr 1 false 0 (((d.kO n).1.map (T.int .i64)).map .t)]⟩):=by
  refine fP (fun j=>⟨[.bp 0 0,I n,.und,.ref 1 0 (d.kO j).1.length,I j],[(d.kO j).2.obj,.arr 1 false 0 (((d.kO j).1.map (T.int .i64)).map .t)]⟩) n rfl ?_ ?_ (by simp)
  · intro j hj
    have hm:=kN (d.kO j).2 3 (by omega) (aR.qk hd j)
    have:=hlen j
    by_cases h:((d.kO j).2.next 3).1=0
    · simp(disch:=omega)only[go_sem,K.gC,hm,h,aR.kO,↓reduceIte]
    · simp(disch:=omega)only[go_sem,K.gC,hm,h,aR.kO,↓reduceIte]
  · simp(disch:=omega)only[go_sem,K.gC,↓reduceIte]
 simp(disch:=omega)only[go_sem,K.cH,↓reduceIte,loop]
theorem gR{gc:Bool}{dead:List Nat}{c:C}{vs:List D}{H:ah}(s:Nat→St)(n:Nat)(p:Nat→Bool)(e:Nat→Ex×St)(eN:Ex×St)
 (h0:(⟨iZ dead vs,H⟩:St)=s 0) (hs:∀j,j<n→p j=false→eP gc dead (s j).H.length (exS bh c (s j))=some (s (j+1)))
 (he:∀j,j<n→p j=true→exS bh c (s j)=some (e j)∧(e j).1≠ .normal) (hN:exS bh c (s n)=some eN) (hn:eN.1≠ .normal):
 exS bh (.loop gc dead c) ⟨vs,H⟩=some (match (List.range n).find? p with | some j=>e j | none=>eN):=by
 show kz gc dead (exS bh c) ⟨iZ dead vs,H⟩=_
 rw[h0]
 cases hf:(List.range n).find? p with
 | none=>
   refine yn s n (fun j hj=>hs j hj ?_) (cG hN hn)
   have:=List.find?_eq_none.1 hf j (aLu.2 hj)
   simpa using this
 | some k=>
   obtain⟨h1,as,bs,h2,h3⟩:=List.find?_eq_some_iff_append.1 hf
   have hk:k<n:=aLu.1 (List.mem_of_find?_eq_some hf)
   have hlt:∀j,j<k→p j=false:=by
    intro j hj
    have hlen:as.length=k:=by
     have h4:(List.range n)[as.length]?=some k:=by rw[h2];simp
     have h5:as.length<n:=by
      have:=congrArg List.length h2;simp at this;omega
     rw[aLp h5]at h4
     exact Option.some.inj h4
    have:j∈as:=by
     have h6:(List.range n)[j]?=some j:=aLp (by omega)
     rw[h2,aLg (by omega)]at h6
     exact aLd h6
    simpa using h3 j this
   obtain⟨k1,k2⟩:=he k hk h1
   exact yn s k (fun j hj=>hs j (by omega) (hlt j hj)) (cG k1 k2)
def gW{α:Type}(f:α→α×Bool):Nat→α→α
 | 0,l=>l
 | n+1,l=>if(f l).2 then gW f n (f l).1 else(f l).1
theorem Eb{α:Type}{gc:Bool}{dead:List Nat}{c:C}{vs:List D}{H:ah}(S:α→Bool→St)(E:α→Ex×St)(f:α→α×Bool)(inv:α→Prop)(mes:α→Nat)
 (hinv:∀l,inv l→inv (f l).1∧((f l).2=true→mes (f l).1<mes l))
 (hs:∀l,inv l→eP gc dead (S l true).H.length (exS bh c (S l true))=some (S (f l).1 (f l).2))
 (he:∀l,inv l→exS bh c (S l false)=some (E l)∧(E l).1≠ .normal) (l:α) (hl:inv l) (h0:(⟨iZ dead vs,H⟩:St)=S l true):
 exS bh (.loop gc dead c) ⟨vs,H⟩=some (E (gW f (mes l+1) l))∧inv (gW f (mes l+1) l):=by
 have key:∀(n:Nat) (l:α),inv l→mes l<n→kz gc dead (exS bh c) (S l true)=some (E (gW f n l))∧inv (gW f n l):=by
  intro n
  induction n with
  | zero=>intro l _ h;omega
  | succ n ih=>
    intro l hl hm
    obtain⟨h1,h2⟩:=hinv l hl
    have hr:=hs l hl
    cases hf:(f l).2 with
    | true=>
      rw[hf]at hr
      obtain⟨k1,k2⟩:=ih (f l).1 h1 (by have:=h2 hf;omega)
      simp only[gW,hf,if_true]
      exact⟨fL hr k1,k2⟩
    | false=>
      rw[hf]at hr
      obtain⟨k1,k2⟩:=he (f l).1 h1
      simp only[gW,hf,aLt,if_false]
      exact⟨fL hr (cG k1 k2),h1⟩
 have:=key (mes l+1) l hl (Nat.lt_succ_self _)
 show kz gc dead (exS bh c) ⟨iZ dead vs,H⟩=_∧_
 rw[h0];exact this
theorem Jx{n:Nat}{p:Nat→Bool}:((List.range n).find? p).isSome=(List.range n).any p:=by
 rw[List.isSome_find?]
theorem su{n j:Nat}{p:Nat→Bool}(h:(List.range n).find? p=some j):j<n∧p j=true:=⟨aLu.1 (List.mem_of_find?_eq_some h),List.find?_some h⟩
def fS(m:Nat):List D:=(List.range m).map fun i=> .bp i 0
def aY(bs:List (List T)):ah:=bs.map fun cs=> .box (cs.map .t)
theorem xu{bs:List (List T)}{i:Nat}(h:i<bs.length):(aY bs)[i]?=some (.box (bs[i].map .t)):=by simp[aY,h]
theorem et(bs:List (List T)):(aY bs).length=bs.length:=by simp[aY]
theorem sA:∀(l sel:List Nat),(sel++l).Nodup→eO sel l=sel++l
 | [],sel,_=>by simp[eO]
 | i::r,sel,h=>by
   have:sel.contains i=false:=by
    rw[← Bool.not_eq_true,List.contains_iff_mem]
    intro hm
    have:=List.nodup_append.1 h
    exact this.2.2 i hm i List.mem_cons_self rfl
   simp only[eO,this,aLt,if_false]
   rw[sA r (sel++[i]) (by simpa using h)]
   simp
theorem tE:∀(l:List Nat) (i k:Nat),l.Nodup→l[k]?=some i→idxOf l i=some k
 | [],i,k,_,h=>by simp at h
 | a::l,i,0,_,h=>by simp at h;simp[idxOf,h]
 | a::l,i,k+1,hn,h=>by
   simp at h
   have hne:a≠i:=fun e=>(List.nodup_cons.1 hn).1 (e▸aLd h)
   simp only[idxOf,if_neg hne,tE l i k (List.nodup_cons.1 hn).2 h,aLw]
theorem BN{m i:Nat}(h:i<m):idxOf (List.range m) i=some i:=tE _ _ _ List.nodup_range (aLp h)
theorem BO{α:Type}{f:α→Option α}:∀ {l:List α},(∀x∈l,f x=some x)→bR f l=some l
 | [],_=>rfl
 | a::l,h=>by
   simp only[bR,h a List.mem_cons_self,aLq,BO fun x hx=>h x (List.mem_cons_of_mem _ hx),aLw]
theorem BP(f:Nat→Option Nat)(cs:List T):gg f (.box (cs.map .t))=some (.box (cs.map .t)):=by
 simp only[D8,pn,aLw]
theorem zU{H:ah}:∀ {l:List Nat} {hs:ah},l.length=hs.length→(∀(k i:Nat) (o:Obj),l[k]?=some i→hs[k]?=some o→H[i]?=some o)→pick H l=some hs
 | [],[],_,_=>rfl
 | [],_::_,h,_=>by simp at h
 | _::_,[],h,_=>by simp at h
 | i::l,o::hs,h,hg=>by
   rw[Gu,hg 0 i o rfl rfl,aLq,Jq,zU (l:=l) (hs:=hs) (by simpa using h) fun k i o hk ho=>hg (k+1) i o (by simpa using hk) (by simpa using ho)]
   rfl
theorem tF{H:ah}:∀ {l:List Nat} {os:ah},(∀(k i:Nat) (o:Obj),l[k]?=some i→os[k]?=some o→H[i]?=some o)→cT H l os=H
 | [],os,_=>by cases os<;>rfl
 | i::l,[],_=>rfl
 | i::l,o::os,hg=>by
   simp only[cT]
   rw[CV (hg 0 i o rfl rfl)]
   exact tF fun k i o hk ho=>hg (k+1) i o (by simpa using hk) (by simpa using ho)
theorem zV(call:aS)(bs:List (List T))(E:ah)(f raw:Nat)(args:List D){r:D}(h:call raw f args (aY bs)=some (r,aY bs))(hr:tS r=true)
 (ha:∀H:ah,m0 H [] 0 args=some args∧cz H [] 0 args=[]) (hids:eO [] (sk 8 args)=List.range bs.length)
 (hren:bR (ren (idxOf (List.range bs.length)) 8) args=some args):D4 (aY bs++E) call f raw [] args=some (r,aY bs++E):=by
 generalize hH:aY bs++E=H
 have hget:∀i (hi:i<bs.length),H[i]?=some (.box (bs[i].map .t)):=fun i hi=>by
  rw[← hH,aLg (by rw[et];exact hi),xu hi]
 obtain⟨ha,hfz⟩:=ha H
 have hno:oB H (List.range bs.length)=[]:=by
  simp only[oB,List.flatMap_eq_nil_iff,aLu]
  intro i hi
  rw[hget i hi]
  exact tA 8 bs[i]
 have hsel:reach H 3 (List.range bs.length)=List.range bs.length:=by
  simp only[reach,hno,eO]
 have hget2:∀(k i:Nat) (o:Obj),(List.range bs.length)[k]?=some i→(aY bs)[k]?=some o→H[i]?=some o:=by
  intro k i o hk ho
  have hkl:k<bs.length:=by have:=(aLe.1 hk).1;simpa using this
  rw[aLp hkl]at hk
  cases hk
  rw[xu hkl]at ho
  rw[hget k hkl,←ho]
 have hpick:pick H (List.range bs.length)=some (aY bs):=zU (by simp[et]) hget2
 have hro:∀f:Nat→Option Nat,bR (gg f) (aY bs)=some (aY bs):=fun f=>BO fun o ho=>by
  simp only[aY,List.mem_map]at ho
  obtain⟨cs,_,rfl⟩:=ho
  exact BP f cs
 have hput:cT H (List.range bs.length) (aY bs)=H:=tF hget2
 rw[Jg,Jh,ha,aLq,Ji,hids,hsel,Jj,hren,aLq,hfz,Jk]
 simp only[pins]
 rw[hpick,aLq,Jl,hro,aLq,Jm,h,aLq]
 cases hb:bs with
 | nil=>
   subst hb
   have hrr:=yo (f:=dQ [] H.length) hr
   simp only[depth]at hrr
   simp only[List.length_nil,List.range_zero,aY,List.map_nil]
   unfold qh
   split
   · rfl
   · rw[CU,hrr,aLq,CT]
     simp[bR,Jn,cT]
 | cons b bt=>
   rw[← hb]
   have hne:List.range bs.length=0::(List.range' 1 bt.length):=by rw[hb];simp[List.range_eq_range',List.range'_succ]
   have hrr:=yo (f:=dQ (List.range bs.length) H.length) hr
   simp only[depth]at hrr
   have hw:qh H H (List.range bs.length) (r,aY bs)=yp H H.length (List.range bs.length) (r,aY bs):=by
    rw[hne];rfl
   rw[hw,CU,hrr,aLq,CT,hro,aLq,Jo,List.length_range,List.take_of_length_le (by rw[et];exact aLs _),hput,
    List.drop_eq_nil_of_le (by rw[et];exact aLs _),List.append_nil]
theorem BQ(H:ah)(cs:List D)(hc:∀i,m0 H [] i cs=some cs∧cz H [] i cs=[]):∀(ts:List T) (i:Nat),m0 H [] i (ts.map .t++cs)=some (ts.map .t++cs)∧cz H [] i (ts.map .t++cs)=[]
 | [],i=>hc i
 | t::ts,i=>by
   obtain⟨h1,h2⟩:=BQ H cs hc ts (i+1)
   simp only[List.map_cons,List.cons_append,xr,oL,A6,Ld,U4,aLq,Gr,h1,h2,Vl,Gp]
   exact⟨rfl,rfl⟩
theorem zW(H:ah):∀(l:List Nat) (i:Nat),m0 H [] i (l.map fun i=> .bp i 0)=some (l.map fun i=> .bp i 0)∧cz H [] i (l.map fun i=> .bp i 0)=[]
 | [],i=>⟨rfl,rfl⟩
 | a::l,i=>by
   obtain⟨h1,h2⟩:=zW H l (i+1)
   simp only[List.map_cons,xr,oL,A6,Ld,NN,aLq,Gr,h1,h2,Vl,NV]
   exact⟨rfl,rfl⟩
theorem zX(n m:Nat):sk n (fS m)=List.range m:=by
 simp only[sk,fS,List.flatMap_map]
 have:∀l:List Nat,(l.flatMap fun a=>ids n (.bp a 0))=l:=by
  intro l
  induction l with
  | nil=>rfl
  | cons a l ih=>rw[List.flatMap_cons,ih,Vp];rfl
 exact this _
theorem C0(n m:Nat):bR (ren (idxOf (List.range m)) n) (fS m)=some (fS m):=BO fun d hd=>by
 simp only[fS,List.mem_map,aLu]at hd
 obtain⟨k,hk,rfl⟩:=hd
 rw[Vt,BN hk];rfl
theorem yu{α β:Type}{f:α→Option β}:∀ {a b:List α} {x y:List β},bR f a=some x→bR f b=some y→bR f (a++b)=some (x++y)
 | [],b,x,y,h1,h2=>by simp[bR]at h1;subst h1;exact h2
 | c::a,b,x,y,h1,h2=>by
   simp only[bR,aLa,aLb]at h1
   obtain⟨z,hz,r,hr,rfl⟩:=h1
   simp only[List.cons_append,bR,hz,aLq,yu hr h2,aLw]
theorem GB(call:aS)(bs:List (List T))(E:ah)(f raw:Nat)(ts:List T){r:D}(h:call raw f (ts.map .t++fS bs.length) (aY bs)=some (r,aY bs))(hr:tS r=true):
 D4 (aY bs++E) call f raw [] (ts.map .t++fS bs.length)=some (r,aY bs++E):=
 zV call bs E f raw _ h hr (fun H=>BQ H _ (zW H _) ts 0)
  (by rw[CW,tA,List.nil_append,zX,sA _ _ (by simpa using List.nodup_range),List.nil_append])
  (yu (pn _ _ _) (C0 _ _))
theorem Ow(call:aS)(bs:List (List T))(E:ah)(g f raw:Nat)(ts:List T){r:D}(h:call raw f (ts.map .t++[.fn g (fS bs.length)]) (aY bs)=some (r,aY bs))(hr:tS r=true):
 D4 (aY bs++E) call f raw [] (ts.map .t++[.fn g (fS bs.length)])=some (r,aY bs++E):=
 zV call bs E f raw _ h hr (fun H=>BQ H _ (fun i=>⟨rfl,rfl⟩) ts 0)
  (by rw[CW,tA,List.nil_append,Gs,Vq,zX,Jp,List.append_nil,sA _ _ (by simpa using List.nodup_range),List.nil_append])
  (yu (pn _ _ _) (by rw[zN,Vw,C0];rfl))
theorem zY{f:Nat}{bs:List (List T)}{x:T}{r:D}(E:ah)(h:bh 0 f (.t x::fS bs.length) (aY bs)=some (r,aY bs))(hr:tS r=true):
 D4 (aY bs++E) bh f 0 [] (.t x::fS bs.length)=some (r,aY bs++E):=GB bh bs E f 0 [x] h hr
theorem pq{f:Nat}{bs:List (List T)}{x:T}{r:D}(h:bh 0 f (.t x::fS bs.length) (aY bs)=some (r,aY bs))(hr:tS r=true):
 D4 (aY bs) bh f 0 [] (.t x::fS bs.length)=some (r,aY bs):=by
 have:=zY [] h hr;rwa [List.append_nil]at this
theorem xv(call:aS)(bs:List (List T))(g f raw:Nat)(x:T){r:D}(h:call raw f [.t x,.fn g (fS bs.length)] (aY bs)=some (r,aY bs))(hr:tS r=true):
 D4 (aY bs) call f raw [] [.t x,.fn g (fS bs.length)]=some (r,aY bs):=by
 have:=Ow call bs [] g f raw [x] h hr
 rwa [List.append_nil]at this
section
variable (bs : List (List T)) (o o' : Obj)
@[go_sem] theorem Jy : (aY bs).length = bs.length := et bs
@[go_sem] theorem R6 : (aY bs ++ [o])[bs.length]? = some o := by
 rw[aLh (by rw[et];exact aLs _),et];simp
@[go_sem] theorem VE : (aY bs ++ [o]).set bs.length o' = aY bs ++ [o'] := by
 rw[List.set_append_right _ _ (by rw[et];exact aLs _),et];simp
@[go_sem] theorem R7 : (aY bs ++ [o]).take bs.length = aY bs := by
 rw[List.take_append_of_le_length (by rw[et];exact aLs _),List.take_of_length_le (by rw[et];exact aLs _)]
@[go_sem] theorem Ox : (aY bs ++ [o]).take (bs.length + 1) = aY bs ++ [o] := List.take_of_length_le (by simp [et])
@[go_sem] theorem Oy : (aY bs).take bs.length = aY bs := List.take_of_length_le (by simp [et])
@[go_sem] theorem Oz (k : Nat) (a b : ah) : eT k (a ++ b) = (eT k a && eT k b) := by
 rw[← kD,←kD,←kD,List.all_append]
@[go_sem] theorem Jz (k : Nat) : eT k (aY bs) = true := by
 induction bs with
 | nil=>rfl
 | cons b r ih=>
   show(ec k 8 (b.map .t)&&eT k (aY r))=true
   rw[CR,ih];rfl
@[go_sem] theorem YO (n : Nat) : ltB n (n + 1) = true := by rw [nu]; simp
@[go_sem] theorem YP (n : Nat) : ltB n n = false := by rw [nu]; simp
theorem tG(k n m:Nat)(h:m≤k):ec k n (fS m)=true:=by
 unfold ec fS
 rw[aLx]
 intro d hd
 obtain⟨i,hi,rfl⟩:=List.mem_map.1 hd
 rw[U5,nu]
 have:=aLu.1 hi
 simp;omega
@[go_sem] theorem OA (n m : Nat) : ec m n (fS m) = true := tG _ _ _ (aLs _)
@[go_sem] theorem Lt (n m : Nat) : ec (m + 1) n (fS m) = true := tG _ _ _ (Nat.le_succ _)
end
def jh(n:Nat)(p:Nat→Bool):List Int:=((List.range n).filter p).map (fun(i:Nat)=>(i:Int))
theorem nH(n:Nat)(p:Nat→Bool):jh (n+1) p=if p n=true then jh n p++[(n:Int)]else jh n p:=by
 unfold jh
 rw[List.range_succ,List.filter_append,List.map_append]
 by_cases h:p n=true<;>simp[h]
theorem pt(n:Nat)(p:Nat→Bool):(jh n p).length≤n:=by
 unfold jh
 rw[List.length_map]
 have:=List.length_filter_le p (List.range n)
 simpa using this
theorem JA(n:Nat)(hn:n≤1000000)(f:Nat)(bs:List (List T))(p:Nat→Bool)(h:∀k,k<n→bh 0 f (I k::fS bs.length) (aY bs)=some (B (p k),aY bs)):
 bh 0 N.dW [I n,.fn f (fS bs.length)] (aY bs)=some (.t (tL (jh n p)),aY bs):=by
 refine aE K.nB rfl ?_
 have hlen:=fun k=>pt k p
 have loop:exS bh K.pR ⟨[I n,.fn f (fS bs.length),.nil,.ref bs.length 0 0,.und,I n,I 0],aY bs++[.arr 1 false 0 []]⟩=
  some (.exit 0,⟨[.und,.fn f (fS bs.length),.und,.ref bs.length 0 (jh n p).length,.und,I n,I n],aY bs++[.arr 1 false 0 (((jh n p).map (T.int .i64)).map .t)]⟩):=by
  refine fP (fun j=>⟨[.und,.fn f (fS bs.length),.und,.ref bs.length 0 (jh j p).length,.und,I n,I j],aY bs++[.arr 1 false 0 (((jh j p).map (T.int .i64)).map .t)]⟩) n rfl ?_ ?_ (by simp)
  · intro j hj
    have hc:=zY [.arr 1 false 0 (((jh j p).map (T.int .i64)).map .t)] (h j hj) rfl
    have:=hlen j
    by_cases hp:p j=true
    · simp(disch:=omega)only[go_sem,K.je,hc,hp,nH,↓reduceIte]
    · simp(disch:=omega)only[go_sem,K.je,hc,hp,nH,↓reduceIte]
  · simp(disch:=omega)only[go_sem,K.je,↓reduceIte]
 simp(disch:=omega)only[go_sem,K.dW,↓reduceIte,loop]
end Go.Ev
namespace Go.Ev
open Go
variable [Lib] [cu] [b0]
theorem lG{α:Type}(sz:Nat)(f:α→T)(h:∀a,lT sz (f a).cells=true):∀l:List α,b5 sz (l.map f)=true
 | []=>rfl
 | a::l=>by rw[List.map_cons,rk,h,lG sz f h l];rfl
@[go_sem] theorem Lu (k : IntKind) (l : List Int) : b5 1 (l.map (.int k)) = true := lG 1 _ (fun _ => rfl) l
theorem rq(sz:Nat):∀ts:List T,(ts.all fun e=>e.cells.length==sz)=b5 sz ts
 | []=>rfl
 | t::ts=>by
   rw[List.all_cons,rk,rq sz ts]
   congr 1
   rw[Bool.eq_iff_iff,fh];simp
section
variable (H : ah) (sz : Nat) (ts : List T) (i j : Int)
@[go_sem] theorem abH : zP H sz (some (.t (.sl ts))) (some none) (some (some i)) = if 0 ≤ i then (if i ≤ ts.length then (if b5 sz ts = true then some (.t (.sl (ts.take i.toNat)), H) else none) else none) else none := by
 simp only[zP,aLq,lB,bound,rq,idx]
 by_cases h1:0≤i
 · rw[if_pos h1,if_pos h1,aLq]
   by_cases h2:i≤ts.length
   · rw[if_pos h2]
     by_cases h3:b5 sz ts=true
     · rw[if_pos h3,if_pos ⟨by omega,by omega,h3⟩];rfl
     · rw[if_neg h3,if_neg fun h=>h3 h.2.2];rfl
   · rw[if_neg h2,if_neg fun h=>h2 (by omega)];rfl
 · rw[if_neg h1,if_neg h1];rfl
@[go_sem] theorem abI : zP H sz (some (.t (.sl ts))) (some (some i)) (some none) = if 0 ≤ i then (if i ≤ ts.length then (if b5 sz ts = true then some (.t (.sl (ts.drop i.toNat)), H) else none) else none) else none := by
 simp only[zP,aLq,lB,bound,rq,idx]
 by_cases h1:0≤i
 · rw[if_pos h1,if_pos h1,aLq]
   by_cases h2:i≤ts.length
   · rw[if_pos h2]
     by_cases h3:b5 sz ts=true
     · rw[if_pos h3,if_pos ⟨by omega,by omega,h3⟩,List.take_of_length_le (by simp)];rfl
     · rw[if_neg h3,if_neg fun h=>h3 h.2.2];rfl
   · rw[if_neg h2,if_neg fun h=>h2 (by omega)];rfl
 · rw[if_neg h1,if_neg h1];rfl
@[go_sem] theorem VF : zP H sz (some (.t (.sl ts))) (some (some i)) (some (some j)) = if 0 ≤ i then (if i ≤ j then (if j ≤ ts.length then (if b5 sz ts = true then some (.t (.sl ((ts.drop i.toNat).take (j.toNat - i.toNat))), H) else none) else none) else none) else none := by
 simp only[zP,aLq,lB,bound,rq,idx]
 by_cases h1:0≤i
 · rw[if_pos h1,if_pos h1,aLq]
   by_cases h0:i≤j
   · rw[if_pos h0,if_pos (by omega:0≤j),aLq]
     by_cases h2:j≤ts.length
     · rw[if_pos h2]
       by_cases h3:b5 sz ts=true
       · rw[if_pos h3,if_pos ⟨by omega,by omega,h3⟩];rfl
       · rw[if_neg h3,if_neg fun h=>h3 h.2.2];rfl
     · rw[if_neg h2,if_neg fun h=>h2 (by omega)];rfl
   · rw[if_neg h0]
     by_cases h2:0≤j
     · rw[if_pos h2,aLq,if_neg fun h=>h0 (by omega)];rfl
     · rw[if_neg h2];rfl
 · rw[if_neg h1,if_neg h1];rfl
end
def bsK(H:ah)(l:List Nat):Option T→Option (D×ah)
 | some t=>some (.t (.sl [t]),pins H l)
 | none=>none
@[go_sem] theorem YQ (H : ah) (l : List Nat) (t : T) : bsK H l (some t) = some (.t (.sl [t]), pins H l) := (rfl)
@[go_sem] theorem YR (H : ah) (sz : Nat) (cs : List D) : xp H sz [.agg cs] = if lT sz cs = true then bsK H (en H 8 (.agg cs)) (frz H 8 (.agg cs)) else none := by
 simp only[xp,List.all_cons,List.all_nil,Bool.and_true,D.cells]
 by_cases h:lT sz cs=true
 · rw[if_pos h,if_pos (by simpa using fh.1 h)]
   simp only[bR,depth,List.flatMap_cons,List.flatMap_nil,List.append_nil]
   cases frz H 8 (.agg cs)<;>rfl
 · rw[if_neg h,if_neg (by intro e;exact h (fh.2 (by simpa using e)))]
@[go_sem] theorem YS (H : ah) (id ep n : Nat) : xp H 1 [.ref id ep n] = bsK H (en H 8 (.ref id ep n)) (frz H 8 (.ref id ep n)) := by
 simp only[xp,List.all_cons,List.all_nil,Bool.and_true,D.cells,List.length_cons,List.length_nil,beq_self_eq_true,if_true,bR,depth,List.flatMap_cons,List.flatMap_nil,List.append_nil]
 cases frz H 8 (.ref id ep n)<;>rfl
def OB(H:ah)(r:D)(os:ah):D×ah:=(r,H++os)
@[go_sem] theorem YT (H : ah) (r : D) (os : ah) : OB H r os = (r, H ++ os) := (rfl)
def VG(H:ah)(os:ah)(r:D):Option (D×ah):=(bR (gg (dQ [] H.length)) os).map (OB H r)
@[go_sem] theorem YU (H : ah) (os : ah) (r : D) : VG H os r = (bR (gg (dQ [] H.length)) os).map (OB H r) := (rfl)
@[go_sem] theorem VH (H : ah) (r : D) (o : Obj) (os : ah) : vr H (r, o :: os) = (ren (dQ [] H.length) 8 r).bind (VG H (o :: os)) := by
 simp only[vr,List.isEmpty_cons,Bool.and_false,aLt,if_false]
 rfl
end Go.Ev
namespace Go.Ev
open Go
variable [Lib] [cu] [b0]
structure Place where
 h:Int
 surf:Bool
instance : Dat Place := ⟨⟨0, false⟩⟩
abbrev Place.e(p:Place):T:= .agg [tI p.h,.bool p.surf]
structure Road where
 frm:Int
 to:Int
 len:Int
 area:Int
 walk:Bool
 closed:Bool
 restL:Int
 restH:Int
 liftL:Int
 liftH:Int
instance : Dat Road := ⟨⟨0, 0, 0, 0, false, false, 0, 0, 0, 0⟩⟩
abbrev Road.e(r:Road):T:= .agg [tI r.frm,tI r.to,tI r.len,tI r.area,.bool r.walk,.bool r.closed,tI r.restL,tI r.restH,tI r.liftL,tI r.liftH]
structure bu where
 aa:List Place
 roads:List Road
instance : Dat bu := ⟨⟨[], []⟩⟩
abbrev bu.e(m:bu):T:= .agg [.sl (m.aa.map Place.e),.sl (m.roads.map Road.e)]
structure Road.ok(n:Nat)(r:Road):Prop where
 f0:0≤r.frm
 f1:r.frm<n
 t0:0≤r.to
 t1:r.to<n
 ne:r.frm≠r.to
 l0:1≤r.len
 l1:r.len≤100000
 a0:1≤r.area
 a1:r.area≤1000
 r0:1≤r.restL
 r1:r.restL≤r.restH
 r2:r.restH≤262144
 i0: -2199023255552≤r.liftL
 i1:r.liftL≤r.liftH
 i2:r.liftH≤2199023255552
structure bu.ok(m:bu):Prop where
 np:m.aa.length≤64
 nr:m.roads.length≤128
 hs:∀p∈m.aa, -10000≤p.h∧p.h≤10000
 rs:∀r∈m.roads,r.ok m.aa.length
theorem zZ(a b lo hi:Int):bh 0 N.fN [.t (.agg [tI a,tI b]),I lo,I hi] []=some (B (decide (lo≤a∧a≤b∧b≤hi)),[]):=by
 refine aE K.oN rfl ?_
 by_cases h1:lo≤a<;>by_cases h2:a≤b<;>by_cases h3:b≤hi<;>simp(disch:=omega)only[go_sem,K.fN,↓reduceIte,h1,h2,h3]
theorem C1{m:bu}(h:m.ok):bh 0 N.eC [.t m.e] []=some (I 0,[]):=by
 refine aE K.ny rfl ?_
 have np:=h.np
 have nr:=h.nr
 have loop1:∀a b c d e:D,exS bh K.pP ⟨[a,.bp 0 0,b,I 0,c,d,e],[.box [.t (.sl (m.aa.map Place.e)),.t (.sl (m.roads.map Road.e))]]⟩=
  some (.exit 0,⟨[.und,.bp 0 0,.und,I m.aa.length,.und,.und,.und],[.box [.t (.sl (m.aa.map Place.e)),.t (.sl (m.roads.map Road.e))]]⟩):=by
  intro a b c d e
  refine fP (fun j=>⟨[.und,.bp 0 0,.und,I j,.und,.und,.und],[.box [.t (.sl (m.aa.map Place.e)),.t (.sl (m.roads.map Road.e))]]⟩) m.aa.length rfl ?_ ?_ (by simp)
  · intro j hj
    have hh:=h.hs _ (aq hj)
    simp(disch:=omega)only[go_sem,K.kJ,↓reduceIte]
  · simp(disch:=omega)only[go_sem,K.kJ,↓reduceIte]
 have loop2:∀a b c d e:D,exS bh K.pQ ⟨[a,.bp 0 0,b,c,d,I 0,e],[.box [.t (.sl (m.aa.map Place.e)),.t (.sl (m.roads.map Road.e))]]⟩=
  some (.exit 2,⟨[.und,.bp 0 0,.und,.und,.und,I m.roads.length,.und],[.box [.t (.sl (m.aa.map Place.e)),.t (.sl (m.roads.map Road.e))]]⟩):=by
  intro a b c d e
  refine fP (fun j=>⟨[.und,.bp 0 0,.und,.und,.und,I j,.und],[.box [.t (.sl (m.aa.map Place.e)),.t (.sl (m.roads.map Road.e))]]⟩) m.roads.length rfl ?_ ?_ (by simp)
  · intro j hj
    obtain⟨f0,f1,t0,t1,ne,l0,l1,a0,a1,r0,r1,r2,i0,i1,i2⟩:=h.rs _ (aq hj)
    have s1:=zZ (nth m.roads j).restL (nth m.roads j).restH 1 262144
    have s2:=zZ (nth m.roads j).liftL (nth m.roads j).liftH (-2199023255552) 2199023255552
    simp(disch:=omega)only[go_sem]at s1 s2
    simp(disch:=omega)only[go_sem,K.kK,↓reduceIte,s1,s2]
  · simp(disch:=omega)only[go_sem,K.kK,↓reduceIte]
 simp(disch:=omega)only[go_sem,K.eC,↓reduceIte,loop1,loop2]
theorem BR{l:List Int}{p:Int→Bool}:((List.range l.length).find? fun j=>p (nth l j)).isSome=l.any p:=by
 rw[List.isSome_find?,Bool.eq_iff_iff,List.any_eq_true,List.any_eq_true]
 constructor
 · rintro ⟨j,hj,h⟩
   exact⟨_,aq (aLu.1 hj),h⟩
 · rintro ⟨x,hx,h⟩
   obtain⟨j,hj⟩:=aLf.1 hx
   exact⟨j,aLu.2 (aLe.1 hj).1,by rw[bF hj];exact h⟩
theorem C2(l:List Int)(x:Int)(hl:l.length≤4294967296):bh 0 N.fM [.t (tL l),I x] []=some (B (decide (x∈l)),[]):=by
 refine aE K.qj rfl ?_
 have loop:∀a:D,exS bh K.tC ⟨[.t (tL l),I x,a,I 0],[]⟩=
  some (match (List.range l.length).find? (fun j=>decide (nth l j=x))with
   | some j=>(.ret,⟨[.t (tL l),I x,B true,I j],[]⟩)
   | none=>(.exit 0,⟨[.t (tL l),I x,.und,I l.length],[]⟩)):=by
  intro a
  refine gR (fun j=>⟨[.t (tL l),I x,.und,I j],[]⟩) l.length (fun j=>decide (nth l j=x)) _ _ rfl ?_ ?_ ?_ (by simp)
  · intro j hj hp
    have hp:¬nth l j=x:=of_decide_eq_false hp
    simp(disch:=omega)only[go_sem,K.kB,↓reduceIte]
  · intro j hj hp
    have hp:nth l j=x:=of_decide_eq_true hp
    simp(disch:=omega)only[go_sem,K.kB,↓reduceIte,hp]
    simp
  · simp(disch:=omega)only[go_sem,K.kB,↓reduceIte]
 have e:=BR (l:=l) (p:=fun y=>decide (y=x))
 have e2:l.any (fun y=>decide (y=x))=decide (x∈l):=by rw[Bool.eq_iff_iff];simp
 rw[e2]at e
 simp only[go_sem,K.fM,↓reduceIte,loop]
 cases hf:(List.range l.length).find? (fun j=>decide (nth l j=x))with
 | some j=>rw[hf]at e;simp(disch:=omega)only[go_sem,↓reduceIte,←e]
 | none=>rw[hf]at e;simp(disch:=omega)only[go_sem,↓reduceIte,←e,Option.isSome_none]
def Aa(l:List Int)(n:Int):Bool:=(List.range l.length).all fun j=>decide (0≤nth l j∧nth l j<n∧(0<j→nth l (j-1)<nth l j))
theorem JB{n:Nat}{p:Nat→Bool}:((List.range n).all p)=((List.range n).find? fun j=> !p j).isNone:=by
 rw[← Option.not_isSome,List.isSome_find?,List.not_any_eq_all_not]
 simp
theorem tT(x lo hi:Int):bh 0 N.cA [I x,I lo,I hi] []=some (B (decide (lo≤x∧x≤hi)),[]):=by
 refine aE K.sr rfl ?_
 by_cases h1:lo≤x<;>by_cases h2:x≤hi<;>simp(disch:=omega)only[go_sem,K.cA,↓reduceIte]
theorem C3(l:List Int)(x:Int)(hl:l.length≤4294967296):bh 0 N.bk [.t (tL l),I x] []=
 some (I (match (List.range l.length).find? (fun j=>decide (nth l j=x))with | some j=>(j:Int) | none=> -1),[]):=by
 refine aE K.gx rfl ?_
 have loop:∀a b:D,exS bh K.jg ⟨[.t (tL l),I x,a,b,I l.length,I 0],[]⟩=
  some (match (List.range l.length).find? (fun j=>decide (nth l j=x))with
   | some j=>(.ret,⟨[.t (tL l),I x,I j,I j,I l.length,I j],[]⟩)
   | none=>(.exit 0,⟨[.t (tL l),I x,.und,.und,I l.length,I l.length],[]⟩)):=by
  intro a b
  refine gR (fun j=>⟨[.t (tL l),I x,.und,.und,I l.length,I j],[]⟩) l.length (fun j=>decide (nth l j=x)) _ _ rfl ?_ ?_ ?_ (by simp)
  · intro j hj hp
    have hp:¬nth l j=x:=of_decide_eq_false hp
    simp(disch:=omega)only[go_sem,K.dR,↓reduceIte]
  · intro j hj hp
    have hp:nth l j=x:=of_decide_eq_true hp
    simp(disch:=omega)only[go_sem,K.dR,↓reduceIte,hp]
    simp
  · simp(disch:=omega)only[go_sem,K.dR,↓reduceIte]
 simp(disch:=omega)only[go_sem,K.bk,↓reduceIte,loop]
 cases hf:(List.range l.length).find? (fun j=>decide (nth l j=x))with
 | some j=>simp(disch:=omega)only[go_sem,↓reduceIte]
 | none=>simp(disch:=omega)only[go_sem,↓reduceIte]
theorem qm(l:List Int)(x:Int)(hl:l.length≤4294967296):bh 0 N.aV [.t (tL l),I x] []=some (B (decide (x∈l)),[]):=by
 refine aE K.fA rfl ?_
 have h:=C3 l x hl
 have e:=BR (l:=l) (p:=fun y=>decide (y=x))
 have e2:l.any (fun y=>decide (y=x))=decide (x∈l):=by rw[Bool.eq_iff_iff];simp
 rw[e2]at e
 cases hf:(List.range l.length).find? (fun j=>decide (nth l j=x))with
 | some j=>rw[hf]at e h;simp(disch:=omega)only[go_sem,K.aV,↓reduceIte,←e,h]
 | none=>rw[hf]at e h;simp(disch:=omega)only[go_sem,K.aV,↓reduceIte,←e,h,Option.isSome_none]
theorem Ab(l:List Int)(hl:l.length≤4294967296)(f:Nat)(bs:List (List T))(p:Int→Bool)(h:∀x,x∈l→bh 0 f (I x::fS bs.length) (aY bs)=some (B (p x),aY bs)):
 bh 0 N.bf [.t (tL l),.fn f (fS bs.length)] (aY bs)=
 some (I (match (List.range l.length).find? (fun j=>p (nth l j))with | some j=>(j:Int) | none=> -1),aY bs):=by
 refine aE K.eU rfl ?_
 have loop:∀a b:D,exS bh K.gJ ⟨[.t (tL l),.fn f (fS bs.length),a,b,I l.length,I 0],aY bs⟩=
  some (match (List.range l.length).find? (fun j=>p (nth l j))with
   | some j=>(.ret,⟨[.t (tL l),.fn f (fS bs.length),I j,I j,I l.length,I j],aY bs⟩)
   | none=>(.exit 0,⟨[.t (tL l),.fn f (fS bs.length),.und,.und,I l.length,I l.length],aY bs⟩)):=by
  intro a b
  refine gR (fun j=>⟨[.t (tL l),.fn f (fS bs.length),.und,.und,I l.length,I j],aY bs⟩) l.length (fun j=>p (nth l j)) _ _ rfl ?_ ?_ ?_ (by simp)
  · intro j hj hp
    have hc:=pq (h _ (aq hj)) rfl
    simp(disch:=omega)only[go_sem,K.c9,↓reduceIte,hc,hp]
  · intro j hj hp
    have hc:=pq (h _ (aq hj)) rfl
    simp(disch:=omega)only[go_sem,K.c9,↓reduceIte,hp,hc]
    simp
  · simp(disch:=omega)only[go_sem,K.c9,↓reduceIte]
 simp(disch:=omega)only[go_sem,K.bf,↓reduceIte,loop]
 cases hf:(List.range l.length).find? (fun j=>p (nth l j))with
 | some j=>simp(disch:=omega)only[go_sem,↓reduceIte]
 | none=>simp(disch:=omega)only[go_sem,↓reduceIte]
theorem oQ(l:List Int)(hl:l.length≤4294967296)(f:Nat)(bs:List (List T))(p:Int→Bool)(h:∀x,x∈l→bh 0 f (I x::fS bs.length) (aY bs)=some (B (p x),aY bs)):
 bh 0 N.aD [.t (tL l),.fn f (fS bs.length)] (aY bs)=some (B (l.any p),aY bs):=by
 refine aE K.dX rfl ?_
 have h:=Ab l hl f bs p h
 have hc:=xv bh bs f _ 0 (tL l) h rfl
 have e:=BR (l:=l) (p:=p)
 cases hf:(List.range l.length).find? (fun j=>p (nth l j))with
 | some j=>rw[hf]at e hc;simp(disch:=omega)only[go_sem,K.aD,↓reduceIte,←e,hc]
 | none=>rw[hf]at e hc;simp(disch:=omega)only[go_sem,K.aD,↓reduceIte,←e,hc,Option.isSome_none]
theorem OC(r:Road)(back:Bool):bh 0 N.gq [.t r.e,B back] []=some (.tup [I (if back then r.to else r.frm),I (if back then r.frm else r.to)],[]):=by
 refine aE K.oP rfl ?_
 cases back<;>simp(disch:=omega)only[go_sem,K.gq,↓reduceIte]
def fF(m:bu)(k:Nat)(back:Bool)(up down level:Int):Int:=
 let x:=nth m.roads k
 if x.closed=true∨x.walk=false then -1 else
 let a:=if back then x.to else x.frm
 let b:=if back then x.frm else x.to
 let rise:=(nth m.aa b.toNat).h-(nth m.aa a.toNat).h
 let speed:=if -10*rise>x.len then down else if 10*rise>x.len then up else level
 (10*x.len+speed-1).tdiv speed
theorem qn{a b:Int}(ha:0≤a)(hb:1≤b):0≤a.tdiv b∧a.tdiv b≤a:=by
 rw[Int.tdiv_eq_ediv_of_nonneg ha]
 exact⟨Int.ediv_nonneg ha (by omega),Int.ediv_le_self _ ha⟩
theorem GC{m:bu}(h:m.ok)(k:Nat)(hk:k<m.roads.length)(back:Bool)(up down level:Int)(hu:1≤up)(hu2:up≤100)(hd:1≤down)(hd2:down≤100)(hl:1≤level)(hl2:level≤100):
 bh 0 N.bQ [.t m.e,I k,B back,I up,I down,I level] []=some (I (fF m k back up down level),[]):=by
 refine aE K.lX rfl ?_
 have hc:=C1 h
 have nr:=h.nr
 have np:=h.np
 obtain⟨f0,f1,t0,t1, -,l0,l1, -, -, -, -, -, -, -, -⟩:=h.rs _ (aq hk)
 have he:=OC (nth m.roads k) back
 have b1:=h.hs _ (aq (l:=m.aa) (j:=(nth m.roads k).frm.toNat) (by omega))
 have b2:=h.hs _ (aq (l:=m.aa) (j:=(nth m.roads k).to.toNat) (by omega))
 unfold fF
 generalize hx:nth m.roads k=x at*
 obtain⟨frm,to,len,area,walk,closed,rl,rh,ll,lh⟩:=x
 simp only at f0 f1 t0 t1 l0 l1 b1 b2 he ⊢
 cases closed with
 | true=>simp(disch:=omega)only[go_sem,K.bQ,↓reduceIte,hc,hx]
 | false=>
   cases walk with
   | false=>simp(disch:=omega)only[go_sem,K.bQ,↓reduceIte,hc,hx]
   | true=>
     have g1:=qn (a:=10*len+up-1) (b:=up) (by omega) hu
     have g2:=qn (a:=10*len+down-1) (b:=down) (by omega) hd
     have g3:=qn (a:=10*len+level-1) (b:=level) (by omega) hl
     cases back with
     | true=>
       simp only[↓reduceIte]at he ⊢
       have w1:IntKind.i64.wrap ((nth m.aa frm.toNat).h-(nth m.aa to.toNat).h)=(nth m.aa frm.toNat).h-(nth m.aa to.toNat).h:=qf (by omega) (by omega)
       by_cases c2:len< -10*((nth m.aa frm.toNat).h-(nth m.aa to.toNat).h)
       · simp(disch:=omega)only[go_sem,K.bQ,↓reduceIte,hc,hx,he,w1,gt_iff_lt]
       · by_cases c1:len<10*((nth m.aa frm.toNat).h-(nth m.aa to.toNat).h)
         · simp(disch:=omega)only[go_sem,K.bQ,↓reduceIte,hc,hx,he,w1,gt_iff_lt]
         · simp(disch:=omega)only[go_sem,K.bQ,↓reduceIte,hc,hx,he,w1,gt_iff_lt]
     | false=>
       simp only[aLt,↓reduceIte]at he ⊢
       have w1:IntKind.i64.wrap ((nth m.aa to.toNat).h-(nth m.aa frm.toNat).h)=(nth m.aa to.toNat).h-(nth m.aa frm.toNat).h:=qf (by omega) (by omega)
       by_cases c2:len< -10*((nth m.aa to.toNat).h-(nth m.aa frm.toNat).h)
       · simp(disch:=omega)only[go_sem,K.bQ,↓reduceIte,hc,hx,he,w1,gt_iff_lt]
       · by_cases c1:len<10*((nth m.aa to.toNat).h-(nth m.aa frm.toNat).h)
         · simp(disch:=omega)only[go_sem,K.bQ,↓reduceIte,hc,hx,he,w1,gt_iff_lt]
         · simp(disch:=omega)only[go_sem,K.bQ,↓reduceIte,hc,hx,he,w1,gt_iff_lt]
theorem GD{m:bu}(h:m.ok)(k:Nat)(hk:k<m.roads.length)(back:Bool):bh 0 N.fO [.t m.e,I k,B back] []=some (I (fF m k back 6 9 12),[]):=by
 refine aE K.oO rfl ?_
 have hw:=GC h k hk back 6 9 12 (by omega) (by omega) (by omega) (by omega) (by omega) (by omega)
 simp(disch:=omega)only[go_sem,K.fO,↓reduceIte,hw]
theorem yv{m:bu}(h:m.ok)(k:Nat)(hk:k<m.roads.length)(back:Bool): -1≤fF m k back 6 9 12∧fF m k back 6 9 12≤1000012:=by
 have l0:=(h.rs _ (aq hk)).l0
 have l1:=(h.rs _ (aq hk)).l1
 unfold fF
 simp only
 split
 · omega
 · generalize hs:(if -10*_>(nth m.roads k).len then(9:Int)else _)=s
   have h1:1≤s∧s≤12:=by
    rw[← hs]
    split
    · omega
    · split<;>omega
   have g1:=qn (a:=10*(nth m.roads k).len+s-1) (b:=s) (by omega) h1.1
   omega
def bnd(l:List Int):Prop:=∀x∈l,0≤x∧x≤1099511627776
def ku(l:List Int)(p q:Nat)(walk t:Int):Bool:=
 decide (0≤walk)&&decide (nth l p<1099511627776)&&decide (max t (nth l p+walk)≤2147483648)&&decide (max t (nth l p+walk)<nth l q)
def kP(l:List Int)(p q:Nat)(walk t:Int):List Int:=if ku l p q walk t=true then l.set q (max t (nth l p+walk))else l
theorem yx(l:List Int)(hb:bnd l)(hl:l.length≤64)(p q:Int)(hp:0≤p)(hp2:p<l.length)(hq:0≤q)(hq2:q<l.length)(walk t:Int)(hw:walk≤1000000000)(ht:t≤1000000000000)(ht0: -1000000000000≤t):
 bh 0 N.cU [.ref 0 0 l.length,I p,I q,I walk,I t] [.arr 1 false 0 ((l.map (T.int .i64)).map .t)]=
  some (B (ku l p.toNat q.toNat walk t),[.arr 1 false 0 (((kP l p.toNat q.toNat walk t).map (T.int .i64)).map .t)]):=by
 refine aE K.nF rfl ?_
 have b1:=hb _ (aq (l:=l) (j:=p.toNat) (by omega))
 have b2:=hb _ (aq (l:=l) (j:=q.toNat) (by omega))
 clear hb
 unfold kP ku
 by_cases c1:0≤walk
 · by_cases c2:nth l p.toNat<1099511627776
   · by_cases c3:max t (nth l p.toNat+walk)≤2147483648
     · by_cases c4:max t (nth l p.toNat+walk)<nth l q.toNat
       · simp(disch:=omega)only[go_sem,K.cU,↓reduceIte]
       · simp(disch:=omega)only[go_sem,K.cU,↓reduceIte]
     · simp(disch:=omega)only[go_sem,K.cU,↓reduceIte]
   · simp(disch:=omega)only[go_sem,K.cU,↓reduceIte]
 · simp(disch:=omega)only[go_sem,K.cU,↓reduceIte]
def GF(into:Option (List Int))(p:Int):Bool:=match into with
 | none=>true
 | some l=>decide (p∈l)
def mL(into:Option (List Int)):D:=match into with
 | none=> .nil
 | some l=> .t (tL l)
def Road.src(r:Road)(back:Bool):Int:=if back then r.to else r.frm
def Road.dst(r:Road)(back:Bool):Int:=if back then r.frm else r.to
theorem Road.s6{n:Nat}{r:Road}(h:r.ok n)(back:Bool):0≤r.src back∧r.src back<n:=by
 unfold Road.src;have:=h.f0;have:=h.f1;have:=h.t0;have:=h.t1;cases back<;>simp<;>omega
theorem Road.xx{n:Nat}{r:Road}(h:r.ok n)(back:Bool):0≤r.dst back∧r.dst back<n:=by
 unfold Road.dst;have:=h.f0;have:=h.f1;have:=h.t0;have:=h.t1;cases back<;>simp<;>omega
def ed(m:bu)(t:Int)(into:Option (List Int))(k:Nat)(back:Bool)(l:List Int):List Int×Bool:=
 if GF into ((nth m.roads k).dst back)=true then
  (kP l ((nth m.roads k).src back).toNat ((nth m.roads k).dst back).toNat (fF m k back 6 9 12) t,ku l ((nth m.roads k).src back).toNat ((nth m.roads k).dst back).toNat (fF m k back 6 9 12) t)
 else(l,false)
def qo(m:bu)(t:Int)(into:Option (List Int))(k:Nat)(s:List Int×Bool):List Int×Bool:=
 let a:=ed m t into k false s.1
 let b:=ed m t into k true a.1
 (b.1,s.2||a.2||b.2)
def dT(m:bu)(t:Int)(into:Option (List Int))(l:List Int):Nat→List Int×Bool
 | 0=>(l,false)
 | k+1=>qo m t into k (dT m t into l k)
def cR(m:bu)(t:Int)(into:Option (List Int))(l:List Int):List Int×Bool:=dT m t into l m.roads.length
theorem kE(l:List Int)(p q:Nat)(w t:Int):(kP l p q w t).length=l.length:=by unfold kP;split<;>simp
theorem mM(m:bu)(t:Int)(into:Option (List Int))(k:Nat)(back:Bool)(l:List Int):(ed m t into k back l).1.length=l.length:=by
 unfold ed;split
 · exact kE _ _ _ _ _
 · rfl
theorem cZ(m:bu)(t:Int)(into:Option (List Int))(l:List Int):∀k,(dT m t into l k).1.length=l.length
 | 0=>rfl
 | k+1=>by simp only[dT,qo,mM,cZ m t into l k]
theorem qp{l:List Int}(h:bnd l){q:Nat}{x:Int}(h0:0≤x)(h1:x≤1099511627776):bnd (l.set q x):=by
 intro y hy
 rcases aLk hy with hy | hy
 · exact h y hy
 · subst hy;exact⟨h0,h1⟩
theorem xy{l:List Int}(h:bnd l){p q:Nat}(hp:p<l.length){w t:Int}:bnd (kP l p q w t):=by
 unfold kP
 split
 · rename_i hc
   simp only[ku,aLr,decide_eq_true_eq]at hc
   have:=h _ (aq hp)
   exact qp h (by omega) (by omega)
 · exact h
section
variable {m : bu} (h : m.ok) {t : Int} {into : Option (List Int)}
include h
theorem oR{l:List Int}(hl:l.length=m.aa.length)(hb:bnd l){k:Nat}(hk:k<m.roads.length)(back:Bool):bnd (ed m t into k back l).1:=by
 have r1:=Road.s6 (h.rs _ (aq hk)) back
 unfold ed
 split
 · exact xy hb (by omega)
 · exact hb
theorem gr{l:List Int}(hl:l.length=m.aa.length)(hb:bnd l):∀k,k≤m.roads.length→bnd (dT m t into l k).1
 | 0,_=>hb
 | k+1,hk=>by
   simp only[dT,qo]
   exact oR h (by rw[mM,cZ,hl]) (oR h (by rw[cZ,hl]) (gr hl hb k (by omega)) (by omega) _) (by omega) _
end
def ur(l:List Int):Nat:=(l.map Int.toNat).sum
theorem C4:∀ {l:List Int} {q:Nat} {x:Int},q<l.length→0≤x→x<nth l q→ur (l.set q x)<ur l
 | [],q,x,h,_,_=>by simp at h
 | a::l,0,x,_,h0,h1=>by
   have h1:x<a:=by simpa [nth]using h1
   simp only[ur,List.set_cons_zero,List.map_cons,List.sum_cons];omega
 | a::l,q+1,x,h,h0,h1=>by
   have:=C4 (l:=l) (q:=q) (x:=x) (by simpa using h) h0 (by simpa [nth]using h1)
   simp only[ur,List.set_cons_succ,List.map_cons,List.sum_cons]at this ⊢;omega
theorem Ec{l:List Int}(hb:bnd l){p q:Nat}(hp:p<l.length)(hq:q<l.length){w t:Int}:
 (ku l p q w t=true→ur (kP l p q w t)<ur l)∧(ku l p q w t=false→kP l p q w t=l):=by
 unfold kP
 constructor
 · intro hc
   rw[if_pos hc]
   simp only[ku,aLr,decide_eq_true_eq]at hc
   have:=hb _ (aq hp)
   exact C4 hq (by omega) hc.2
 · intro hc;rw[if_neg (by simp[hc])]
section
variable {m : bu} (h : m.ok) {t : Int} {into : Option (List Int)}
include h
theorem vA{l:List Int}(hl:l.length=m.aa.length)(hb:bnd l){k:Nat}(hk:k<m.roads.length)(back:Bool):
 ((ed m t into k back l).2=true→ur (ed m t into k back l).1<ur l)∧((ed m t into k back l).2=false→(ed m t into k back l).1=l):=by
 have r1:=Road.s6 (h.rs _ (aq hk)) back
 have r2:=Road.xx (h.rs _ (aq hk)) back
 unfold ed
 split
 · exact Ec hb (by omega) (by omega)
 · simp
theorem mN{l:List Int}(hl:l.length=m.aa.length)(hb:bnd l):∀k,k≤m.roads.length→
 ((dT m t into l k).2=true→ur (dT m t into l k).1<ur l)∧((dT m t into l k).2=false→(dT m t into l k).1=l)
 | 0,_=>⟨fun h=>by simp[dT]at h,fun _=>rfl⟩
 | k+1,hk=>by
   obtain⟨i1,i2⟩:=mN hl hb k (by omega)
   have hb1:=gr h (t:=t) (into:=into) hl hb k (by omega)
   have hl1:(dT m t into l k).1.length=m.aa.length:=by rw[cZ,hl]
   obtain⟨a1,a2⟩:=vA h (t:=t) (into:=into) hl1 hb1 (k:=k) (by omega) false
   have hb2:=oR h (t:=t) (into:=into) hl1 hb1 (k:=k) (by omega) false
   obtain⟨c1,c2⟩:=vA h (t:=t) (into:=into) (by rw[mM,hl1]) hb2 (k:=k) (by omega) true
   simp only[dT,qo]
   generalize dT m t into l k=s at*
   obtain⟨sl,sb⟩:=s
   simp only at*
   generalize ed m t into k false sl=a at*
   obtain⟨al,ab⟩:=a
   simp only at*
   generalize ed m t into k true al=b at*
   obtain⟨bl,bb⟩:=b
   simp only at*
   cases sb<;>cases ab<;>cases bb<;>simp_all<;>omega
end
end Go.Ev
namespace Go.Ev
open Go
variable [Lib] [cu] [b0]
abbrev af(m:bu):List D:=[.t (.sl (m.aa.map Place.e)),.t (.sl (m.roads.map Road.e))]
theorem OD(H:ah)(into:Option (List Int))(hi:∀l,into=some l→l≠[]):oo H .sl false (some (mL into)) (some .nil)=some (B (into.isNone),H):=by
 cases into with
 | none=>rfl
 | some l=>exact uq H _ (by simpa using hi l rfl)
@[go_sem] theorem VI (k n : Nat) (into : Option (List Int)) : old k n (mL into) = true := by
 cases into<;>simp only[mL,go_sem]
theorem Ed{m:bu}(h:m.ok)(t:Int)(ht:t≤1000000000000)(ht0: -1000000000000≤t)(into:Option (List Int))(hi:∀l,into=some l→l≠[]∧l.length≤64)(l:List Int)(hl:l.length=m.aa.length)(hb:bnd l)
 (k:Nat) (hk:k<m.roads.length) (ag:Bool):
 eP true [0,1,5,9] 2 (exS bh K.dK ⟨[.und,.und,I t,mL into,.bp 0 0,.und,.ref 1 0 l.length,B ag,I k,.und],[.box (af m),.arr 1 false 0 ((l.map (T.int .i64)).map .t)]⟩)=
  some ⟨[.und,.und,I t,mL into,.bp 0 0,.und,.ref 1 0 (qo m t into k (l,ag)).1.length,B (qo m t into k (l,ag)).2,I (k+1),.und],[.box (af m),.arr 1 false 0 (((qo m t into k (l,ag)).1.map (T.int .i64)).map .t)]⟩:=by
 have np:=h.np
 have nr:=h.nr
 have t1:=GD h k hk false
 have t2:=GD h k hk true
 have w1:=(yv h k hk false).2
 have w2:=(yv h k hk true).2
 obtain⟨f0,f1,t0,t1', -, -, -, -, -, -, -, -, -, -, -⟩:=h.rs _ (aq hk)
 have e0:=fun H=>OD H into fun l hl=>(hi l hl).1
 have lw1:=yx l hb (by omega) (nth m.roads k).frm (nth m.roads k).to f0 (by omega) t0 (by omega) (fF m k false 6 9 12) t (by omega) ht ht0
 have lw2:=yx l hb (by omega) (nth m.roads k).to (nth m.roads k).frm t0 (by omega) f0 (by omega) (fF m k true 6 9 12) t (by omega) ht ht0
 have hl':(kP l (nth m.roads k).frm.toNat (nth m.roads k).to.toNat (fF m k false 6 9 12) t).length=l.length:=kE ..
 have lw3:=yx _ (xy hb (p:=(nth m.roads k).frm.toNat) (q:=(nth m.roads k).to.toNat) (w:=fF m k false 6 9 12) (t:=t) (by omega)) (by omega) (nth m.roads k).to (nth m.roads k).frm t0 (by omega) f0 (by omega) (fF m k true 6 9 12) t (by omega) ht ht0
 rw[hl']at lw3
 simp only[qo,ed,Road.src,Road.dst,aLt,↓reduceIte]
 generalize hx:nth m.roads k=x at*
 obtain⟨frm,to,len,area,walk,closed,rl,rh,ll,lh⟩:=x
 simp only at f0 f1 t0 t1' lw1 lw2 lw3 hl' ⊢
 generalize hw1:fF m k false 6 9 12=v1 at*
 generalize hw2:fF m k true 6 9 12=v2 at*
 clear hb
 cases into with
 | none=>
   simp only[mL,GF,↓reduceIte,Option.isNone]at e0 ⊢
   cases c1:ku l frm.toNat to.toNat v1 t<;>cases c2:ku (kP l frm.toNat to.toNat v1 t) to.toNat frm.toNat v2 t<;>rw[c1]at lw1<;>rw[c2]at lw3<;>
   simp(disch:=omega)only[go_sem,K.dK,↓reduceIte,hx,e0,t1,t2,lw1,lw3,kE,reduceAdd,reduceSub]
 | some s=>
   have hs:=(hi s rfl).2
   have g1:=C2 s to (by omega)
   have g2:=C2 s frm (by omega)
   simp only[mL,GF,Option.isNone]at e0 ⊢
   by_cases m1:to∈s<;>by_cases m2:frm∈s
   · simp only[m1,m2,decide_true,↓reduceIte]at g1 g2 ⊢
     cases c1:ku l frm.toNat to.toNat v1 t<;>cases c2:ku (kP l frm.toNat to.toNat v1 t) to.toNat frm.toNat v2 t<;>rw[c1]at lw1<;>rw[c2]at lw3<;>
     simp(disch:=omega)only[go_sem,K.dK,↓reduceIte,hx,e0,t1,t2,lw1,lw3,g1,g2,c1,Bool.or_true,Bool.or_false,kE,reduceAdd,reduceSub]
   · simp only[m1,m2,decide_true,decide_false,↓reduceIte]at g1 g2 ⊢
     cases c1:ku l frm.toNat to.toNat v1 t<;>rw[c1]at lw1<;>
     simp(disch:=omega)only[go_sem,K.dK,↓reduceIte,hx,e0,t1,t2,lw1,g1,g2,c1,Bool.or_true,Bool.or_false,kE,reduceAdd,reduceSub]
   · simp only[m1,m2,decide_true,decide_false,↓reduceIte]at g1 g2 ⊢
     cases c1:ku l to.toNat frm.toNat v2 t<;>rw[c1]at lw2<;>
     simp(disch:=omega)only[go_sem,K.dK,↓reduceIte,hx,e0,t1,t2,lw2,g1,g2,c1,Bool.or_true,Bool.or_false,kE,reduceAdd,reduceSub]
   · simp only[m1,m2,decide_false,↓reduceIte]at g1 g2 ⊢
     simp(disch:=omega)only[go_sem,K.dK,↓reduceIte,hx,e0,t1,t2,g1,g2,reduceAdd,reduceSub]
theorem C5{m:bu}(h:m.ok)(t:Int)(ht:t≤1000000000000)(ht0: -1000000000000≤t)(into:Option (List Int))(hi:∀l,into=some l→l≠[]∧l.length≤64)(l:List Int)(hl:l.length=m.aa.length)(hb:bnd l):
 bh 0 N.eD [.t m.e,.t (tL l),I t,mL into] []=some (.t (tL (gW (cR m t into) (ur l+1) l)),[])∧(gW (cR m t into) (ur l+1) l).length=m.aa.length∧bnd (gW (cR m t into) (ur l+1) l):=by
 have nr:=h.nr
 have inner:∀(l:List Int),l.length=m.aa.length→bnd l→∀(a b c d:D),exS bh K.pT ⟨[a,b,I t,mL into,.bp 0 0,c,.ref 1 0 l.length,B false,I 0,d],[.box (af m),.arr 1 false 0 ((l.map (T.int .i64)).map .t)]⟩=
  some (.exit 2,⟨[.und,.und,I t,mL into,.bp 0 0,.und,.ref 1 0 l.length,B (cR m t into l).2,I m.roads.length,.und],[.box (af m),.arr 1 false 0 (((cR m t into l).1.map (T.int .i64)).map .t)]⟩):=by
  intro l hl hb a b c d
  refine fP (fun j=>⟨[.und,.und,I t,mL into,.bp 0 0,.und,.ref 1 0 (dT m t into l j).1.length,B (dT m t into l j).2,I j,.und],[.box (af m),.arr 1 false 0 (((dT m t into l j).1.map (T.int .i64)).map .t)]⟩) m.roads.length rfl ?_ ?_ (by simp)
  · intro j hj
    have:=Ed h t ht ht0 into hi (dT m t into l j).1 (by rw[cZ,hl]) (gr h hl hb j (by omega)) j hj (dT m t into l j).2
    exact this
  · simp(disch:=omega)only[go_sem,K.dK,↓reduceIte,cR,cZ]
 have outer:=fun(a b c d e:D)=>Eb (gc:=true) (dead:=[0,1,5,8,9]) (c:=K.jf) (vs:=[a,b,I t,mL into,.bp 0 0,c,.ref 1 0 l.length,B true,d,e]) (H:=[.box (af m),.arr 1 false 0 ((l.map (T.int .i64)).map .t)])
  (fun l ag=>⟨[.und,.und,I t,mL into,.bp 0 0,.und,.ref 1 0 l.length,B ag,.und,.und],[.box (af m),.arr 1 false 0 ((l.map (T.int .i64)).map .t)]⟩)
  (fun l=>(.exit 0,⟨[.und,.und,I t,mL into,.bp 0 0,.und,.ref 1 0 l.length,B false,.und,.und],[.box (af m),.arr 1 false 0 ((l.map (T.int .i64)).map .t)]⟩))
  (cR m t into) (fun l=>l.length=m.aa.length∧bnd l) ur
  (fun l ⟨hl,hb⟩=>⟨⟨by rw[cR,cZ,hl],gr h hl hb _ (aLs _)⟩,(mN h hl hb _ (aLs _)).1⟩)
  (by
   rintro l ⟨hl,hb⟩
   have:=inner l hl hb
   have e:(cR m t into l).1.length=l.length:=by rw[cR,cZ]
   simp(disch:=omega)only[go_sem,K.jf,↓reduceIte,this,e])
  (by
   rintro l ⟨hl,hb⟩
   simp(disch:=omega)only[go_sem,K.jf,↓reduceIte,reduceCtorEq,ne_eq,not_false_eq_true,and_self])
  l ⟨hl,hb⟩ rfl
 obtain⟨-,o2⟩:=outer .und .und .und .und .und
 refine⟨?_,o2⟩
 refine aE K.nE rfl ?_
 have o1:∀a b c d e:D,exS bh K.pU ⟨[a,b,I t,mL into,.bp 0 0,c,.ref 1 0 l.length,B true,d,e],[.box (af m),.arr 1 false 0 ((l.map (T.int .i64)).map .t)]⟩=_:=fun a b c d e=>(outer a b c d e).1
 clear outer inner
 have np:=h.np
 have o2:=o2.1
 generalize gW (cR m t into) (ur l+1) l=l2 at*
 cases into with
 | none=>
   simp only[mL]at o1
   simp(disch:=omega)only[go_sem,K.eD,↓reduceIte,o1,mL]
 | some s=>
   simp only[mL]at o1
   simp(disch:=omega)only[go_sem,K.eD,↓reduceIte,o1,mL]
structure Wh where
 time:Int
 frm:List Int
instance : Dat Wh := ⟨⟨0, []⟩⟩
abbrev Wh.e(w:Wh):T:= .agg [tI w.time,tL w.frm]
def dj(m:bu)(t:Int)(into:Option (List Int))(l:List Int):List Int:=gW (cR m t into) (ur l+1) l
def inT(t:Int):Prop:=0≤t∧t≤2147483648
instance (t : Int) : Decidable (inT t) := by unfold inT; infer_instance
def plT(x:Int):Prop:=x=1099511627776∨inT x
instance (t : Int) : Decidable (plT t) := by unfold plT; infer_instance
def tH(w:Wh)(n:Int):Bool:=decide ((w.frm.length:Int)=n∧inT w.time)&&(List.range w.frm.length).all fun j=>decide (plT (nth w.frm j))
theorem nI{x:Int}(h:plT x):0≤x∧x≤1099511627776:=by unfold plT inT at h;omega
theorem GG(t:Int):bh 0 N.er [I t] []=some (B (decide (inT t)),[]):=by
 refine aE K.lW rfl ?_
 unfold inT
 by_cases h1:0≤t<;>by_cases h2:t≤2147483648<;>simp(disch:=omega)only[go_sem,K.er,↓reduceIte,h1,h2]
theorem JC{m:bu}(h:m.ok)(t:Int)(ht:inT t)(l:List Int)(hl:l.length=m.aa.length)(hb:bnd l):
 bh 0 N.fy [.t m.e,.t (tL l),I t] []=some (.t (tL (dj m t none l)),[]):=by
 refine aE K.nD rfl ?_
 unfold inT at ht
 have:=(C5 h t (by omega) (by omega) none (by simp) l hl hb).1
 simp only[mL]at this
 unfold dj
 simp(disch:=omega)only[go_sem,K.fy,↓reduceIte,this]
def c7(m:bu)(w:Wh):Bool:=tH w m.aa.length&&decide (dj m w.time none w.frm=w.frm)
theorem vB{w:Wh}{n:Int}(h:tH w n=true):(w.frm.length:Int)=n∧inT w.time∧∀x∈w.frm,plT x:=by
 simp only[tH,aLr,decide_eq_true_eq,aLx,aLu]at h
 refine⟨h.1.1,h.1.2,fun x hx=>?_⟩
 obtain⟨j,hj⟩:=aLf.1 hx
 have:=h.2 j (aLe.1 hj).1
 rwa [bF hj]at this
theorem Ee{m:bu}(h:m.ok)(t:Int)(ht:inT t)(into:Option (List Int))(hi:∀l,into=some l→l≠[]∧l.length≤64){l:List Int}(hl:l.length=m.aa.length)(hb:bnd l):(dj m t into l).length=m.aa.length:=by
 unfold inT at ht
 exact(C5 h t (by omega) (by omega) into hi l hl hb).2.1
def dI(n:Nat):List Int:=List.replicate n 1099511627776
theorem BS(n:Nat):dI (n+1)=dI n++[1099511627776]:=List.replicate_succ'
@[simp] theorem kF (n : Nat) : (dI n).length = n := List.length_replicate
theorem sB(n:Nat):bnd (dI n):=fun x hx=>by rw[List.eq_of_mem_replicate hx];omega
theorem Ef(n:Nat)(hn:n≤1000000)(a:D):exS bh K.pS ⟨[I n,a,.ref 0 0 0,I 0],[.arr 1 false 0 []]⟩=
 some (.exit 0,⟨[I n,.und,.ref 0 0 n,I n],[.arr 1 false 0 (((dI n).map (T.int .i64)).map .t)]⟩):=by
 refine fP (fun j=>⟨[I n,.und,.ref 0 0 (dI j).length,I j],[.arr 1 false 0 (((dI j).map (T.int .i64)).map .t)]⟩) n rfl ?_ ?_ (by simp)
 · intro j hj
   have:=kF j
   simp(disch:=omega)only[go_sem,K.kM,BS,↓reduceIte]
 · simp(disch:=omega)only[go_sem,K.kM,↓reduceIte,kF]
theorem GH(n:Nat)(hn:n≤1000000):bh 1 N.fv [I n] []=some (.ref 0 0 n,[.arr 1 false 0 (((dI n).map (T.int .i64)).map .t)]):=by
 refine aE K.nC rfl ?_
 have:=Ef n hn
 simp(disch:=omega)only[go_sem,K.fv,↓reduceIte,this]
def dL(m:bu)(p t:Int):Wh×Int:=
 if p<0∨(m.aa.length:Int)≤p then(⟨0,[]⟩,3)else if inT t then(⟨t,dj m t none ((dI m.aa.length).set p.toNat t)⟩,0)else(⟨0,[]⟩,8)
theorem JD{m:bu}(h:m.ok)(p t:Int):bh 0 N.dF [.t m.e,I p,I t] []=some (.tup [.t (dL m p t).1.e,I (dL m p t).2],[]):=by
 refine aE K.nz rfl ?_
 have c:=C1 h
 have np:=h.np
 have it:=GG t
 have nl:=kF m.aa.length
 have nv:=GH m.aa.length (by omega)
 unfold dL
 by_cases h1:p<0
 · simp(disch:=omega)only[go_sem,K.dF,↓reduceIte,c,h1,true_or]
   rfl
 · by_cases h2:(m.aa.length:Int)≤p
   · simp(disch:=omega)only[go_sem,K.dF,↓reduceIte,c,h1,h2,or_true]
     rfl
   · by_cases h3:inT t
     · have b:bnd ((dI m.aa.length).set p.toNat t):=qp (sB _) h3.1 (by have:=h3.2;omega)
       have cl:=JC h t h3 ((dI m.aa.length).set p.toNat t) (by simp) b
       simp only[h3,decide_true]at it
       simp(disch:=omega)only[go_sem,K.dF,↓reduceIte,c,h1,h2,or_self,h3,it,nv,kF,cl]
     · simp only[h3,decide_false]at it
       simp(disch:=omega)only[go_sem,K.dF,↓reduceIte,c,h1,h2,or_self,h3,it]
       rfl
def kj(w:Wh)(t:Int):List Int:=jh w.frm.length fun j=>decide (nth w.frm j≤t)
theorem yy(w:Wh)(t:Int)(hl:w.frm.length≤1000000):bh 0 N.df [.t w.e,I t] []=some (.t (tL (kj w t)),[]):=by
 refine aE K.ke rfl ?_
 obtain⟨time,frm⟩:=w
 simp only[kj]at*
 have hlen:=fun k=>pt k (fun j=>decide (nth frm j≤t))
 have loop:∀a b:D,exS bh K.mJ ⟨[a,I t,.bp 0 0,b,.ref 1 0 0,I 0],[.box [I time,.t (tL frm)],.arr 1 false 0 []]⟩=
  some (.exit 0,⟨[.und,I t,.bp 0 0,.und,.ref 1 0 (jh frm.length (fun j=>decide (nth frm j≤t))).length,I frm.length],[.box [I time,.t (tL frm)],.arr 1 false 0 (((jh frm.length (fun j=>decide (nth frm j≤t))).map (T.int .i64)).map .t)]⟩):=by
  intro a b
  refine fP (fun j=>⟨[.und,I t,.bp 0 0,.und,.ref 1 0 (jh j (fun j=>decide (nth frm j≤t))).length,I j],[.box [I time,.t (tL frm)],.arr 1 false 0 (((jh j (fun j=>decide (nth frm j≤t))).map (T.int .i64)).map .t)]⟩) frm.length rfl ?_ ?_ (by simp)
  · intro j hj
    have:=hlen j
    by_cases hp:nth frm j≤t
    · simp(disch:=omega)only[go_sem,K.gD,nH,hp,decide_true,↓reduceIte]
    · simp(disch:=omega)only[go_sem,K.gD,nH,hp,decide_false,↓reduceIte]
  · simp(disch:=omega)only[go_sem,K.gD,↓reduceIte]
 have:=hlen frm.length
 simp(disch:=omega)only[go_sem,K.df,↓reduceIte,loop]
def eE(w:Wh)(t:Int):Wh×Int:=if t<w.time∨2147483648<t then(w,8)else(⟨t,w.frm⟩,0)
def lH(m:bu)(w:Wh)(aa:List Int)(a b:Int):Int:=
 if c7 m w=true∧aa≠[]∧Aa aa m.aa.length=true then(if inT a∧inT b∧a≤b then 0 else 8)else 6
theorem JE{l:List Int}{n:Int}(h:Aa l n=true){j:Nat}(hj:j<l.length):0≤nth l j∧nth l j<n∧(0<j→nth l (j-1)<nth l j):=by
 simp only[Aa,aLx,aLu,decide_eq_true_eq]at h
 exact h j hj
def sC(w:Wh)(t p:Int)(s:List Int×Bool):List Int×Bool:=if nth w.frm p.toNat≤t then(s.1.set p.toNat (nth w.frm p.toNat),true)else s
def oS(w:Wh)(l:List Int)(t:Int)(n:Nat):Nat→List Int×Bool
 | 0=>(dI n,false)
 | j+1=>sC w t (nth l j) (oS w l t n j)
theorem nJ(w:Wh)(l:List Int)(t:Int)(n:Nat):∀j,(oS w l t n j).1.length=n
 | 0=>kF n
 | j+1=>by
   have:=nJ w l t n j
   simp only[oS,sC]
   split<;>simp[this]
theorem C6{w:Wh}(hw:bnd w.frm)(l:List Int)(t:Int){n:Nat}(hl:∀p∈l,0≤p∧p<w.frm.length):∀j,j≤l.length→bnd (oS w l t n j).1
 | 0,_=>sB n
 | j+1,hj=>by
   have:=C6 hw l t hl (n:=n) j (by omega)
   simp only[oS,sC]
   split
   · have hp:=hl _ (aq (l:=l) (j:=j) (by omega))
     have:=hw _ (aq (l:=w.frm) (j:=(nth l j).toNat) (by omega))
     exact qp (by assumption) this.1 this.2
   · exact this
def uu(m:bu)(w:Wh)(l:List Int)(a b:Int):Wh×Int:=
 if lH m w l a b≠0 then(w,lH m w l a b)else if a<w.time then(w,42)else
 if(oS w l b m.aa.length l.length).2=true then(⟨b,dj m a none (oS w l b m.aa.length l.length).1⟩,0)else(w,43)
theorem C7{m:bu}{w:Wh}{l:List Int}{a b:Int}(h:lH m w l a b=0):c7 m w=true∧l≠[]∧Aa l m.aa.length=true∧inT a∧inT b∧a≤b:=by
 unfold lH at h
 split at h
 · rename_i h1
   split at h
   · rename_i h2;exact⟨h1.1,h1.2.1,h1.2.2,h2⟩
   · omega
 · omega
theorem bZ{m:bu}{w:Wh}(h:c7 m w=true):w.frm.length=m.aa.length∧inT w.time∧(∀x∈w.frm,plT x)∧dj m w.time none w.frm=w.frm:=by
 simp only[c7,aLr,decide_eq_true_eq]at h
 obtain⟨h1,h2,h3⟩:=vB h.1
 exact⟨by omega,h2,h3,h.2⟩
def ac2(l0 l:List Int):Nat→List Int
 | 0=>l0
 | j+1=>(ac2 l0 l j).set (nth l j).toNat 1099511627776
def abJ(m:bu)(w:Wh)(l:List Int)(a b bl:Int):Wh×Int:=
 if lH m w l a b≠0 then(w,lH m w l a b)else if ¬inT bl then(w,8)else if b<w.time then(w,42)else if b-max a w.time≤bl then(w,0)else
 (⟨b,dj m b none (dj m (b-bl) (some l) (ac2 w.frm l l.length))⟩,0)
def Ac(a b:List Int):Nat→List Int
 | 0=>[]
 | j+1=>Ac a b j++[min (nth a j) (nth b j)]
theorem nK(a b:List Int):∀j,(Ac a b j).length=j
 | 0=>rfl
 | j+1=>by simp[Ac,nK a b j]
def jZ(a b:Wh):Wh×Int:=if a.frm.length=b.frm.length then(⟨max a.time b.time,Ac a.frm b.frm a.frm.length⟩,0)else(⟨0,[]⟩,6)
theorem rr{α:Type} [Dat α](l:List α)(k:Nat)(hk:k<l.length)(x:α)(j:Nat):nth (l.set k x) j=if j=k then x else nth l j:=by
 unfold nth
 by_cases h:j=k
 · subst h;rw[if_pos rfl];simp[hk]
 · rw[if_neg h]
   have:¬k=j:=fun e=>h e.symm
   simp[List.getElem?_set,this]
theorem uv{α:Type} [Dat α]{a b:List α}(h:a.length=b.length)(e:∀j,j<a.length→nth a j=nth b j):a=b:=by
 apply List.ext_getElem h
 intro j h1 h2
 have:=e j h1
 rwa [bF (aLc h1),bF (aLc h2)]at this
theorem ru{l:List Int}{i:Nat}(h:l.length≤i):nth l i=0:=by unfold nth;rw[aLl,aLm h];rfl
def clW(m:bu)(t:Int)(into:Option (List Int))(y:List Int):Prop:=∀k,k<m.roads.length→∀back,GF into ((nth m.roads k).dst back)=true→0≤fF m k back 6 9 12→
 nth y ((nth m.roads k).src back).toNat<1099511627776→max t (nth y ((nth m.roads k).src back).toNat+fF m k back 6 9 12)≤2147483648→
 nth y ((nth m.roads k).dst back).toNat≤max t (nth y ((nth m.roads k).src back).toNat+fF m k back 6 9 12)
theorem yz{m:bu}{t t':Int}(ht:t≤t'){into:Option (List Int)}{y:List Int}(h:clW m t none y):clW m t' into y:=by
 intro k hk back _ h1 h2 h3
 have:=h k hk back rfl h1 h2 (by omega)
 omega
theorem qq{α:Type}{f:α→α×Bool}(P:α→Prop)(hP:∀l,P l→P (f l).1):∀n l,P l→P (gW f n l)
 | 0,l,h=>h
 | n+1,l,h=>by
   unfold gW
   split
   · exact qq P hP n _ (hP l h)
   · exact hP l h
theorem vC{α:Type}{f:α→α×Bool}(P:α→Prop)(mes:α→Nat)(hP:∀l,P l→P (f l).1∧((f l).2=true→mes (f l).1<mes l)∧((f l).2=false→(f l).1=l)):∀n l,P l→mes l<n→(f (gW f n l)).2=false∧P (gW f n l)
 | 0,l,_,h=>by omega
 | n+1,l,hp,h=>by
   obtain⟨h1,h2,h3⟩:=hP l hp
   unfold gW
   cases hf:(f l).2 with
   | true=>
     rw[if_pos rfl]
     have:=h2 hf
     exact vC P mes hP n _ h1 (by omega)
   | false=>
     rw[if_neg (by simp),h3 hf]
     exact⟨hf,hp⟩
theorem uw{m:bu}(t:Int)(into:Option (List Int))(k:Nat)(back:Bool)(l:List Int):
 (GF into ((nth m.roads k).dst back)=true∧0≤fF m k back 6 9 12∧nth l ((nth m.roads k).src back).toNat<1099511627776∧max t (nth l ((nth m.roads k).src back).toNat+fF m k back 6 9 12)≤2147483648∧
  max t (nth l ((nth m.roads k).src back).toNat+fF m k back 6 9 12)<nth l ((nth m.roads k).dst back).toNat∧
  ed m t into k back l=(l.set ((nth m.roads k).dst back).toNat (max t (nth l ((nth m.roads k).src back).toNat+fF m k back 6 9 12)),true))∨
 (ed m t into k back l=(l,false)∧¬(GF into ((nth m.roads k).dst back)=true∧0≤fF m k back 6 9 12∧nth l ((nth m.roads k).src back).toNat<1099511627776∧max t (nth l ((nth m.roads k).src back).toNat+fF m k back 6 9 12)≤2147483648∧
  max t (nth l ((nth m.roads k).src back).toNat+fF m k back 6 9 12)<nth l ((nth m.roads k).dst back).toNat)):=by
 unfold ed kP ku
 cases GF into ((nth m.roads k).dst back)with
 | false=>right;simp
 | true=>
   simp only[↓reduceIte,true_and,aLr,decide_eq_true_eq]
   by_cases c:((0≤fF m k back 6 9 12∧nth l ((nth m.roads k).src back).toNat<1099511627776)∧max t (nth l ((nth m.roads k).src back).toNat+fF m k back 6 9 12)≤2147483648)∧max t (nth l ((nth m.roads k).src back).toNat+fF m k back 6 9 12)<nth l ((nth m.roads k).dst back).toNat
   · left
     refine⟨c.1.1.1,c.1.1.2,c.1.2,c.2,?_⟩
     rw[if_pos c]
     simp[c.1.1.1,c.1.1.2,c.1.2,c.2]
   · right
     refine⟨?_,fun h=>c ⟨⟨⟨h.1,h.2.1⟩,h.2.2.1⟩,h.2.2.2⟩⟩
     rw[if_neg c]
     simp only[Prod.mk.injEq,true_and]
     rw[Bool.eq_false_iff];intro h;simp only[aLr,decide_eq_true_eq]at h;exact c h
section
variable {m : bu} (h : m.ok) {t : Int} {into : Option (List Int)}
include h
theorem xz(P:List Int→Prop)(hP:∀l,l.length=m.aa.length→bnd l→P l→∀k,k<m.roads.length→∀back,P (ed m t into k back l).1){l:List Int}(hl:l.length=m.aa.length)(hb:bnd l)(hp:P l):∀k,k≤m.roads.length→P (dT m t into l k).1
 | 0,_=>hp
 | k+1,hk=>by
   have ih:=xz P hP hl hb hp k (by omega)
   have b1:=gr h (t:=t) (into:=into) hl hb k (by omega)
   have l1:(dT m t into l k).1.length=m.aa.length:=by rw[cZ,hl]
   simp only[dT,qo]
   exact hP _ (by rw[mM,l1]) (oR h l1 b1 (by omega) false) (hP _ l1 b1 ih k (by omega) false) k (by omega) true
theorem sD(P:List Int→Prop)(hP:∀l,l.length=m.aa.length→bnd l→P l→∀k,k<m.roads.length→∀back,P (ed m t into k back l).1){l:List Int}(hl:l.length=m.aa.length)(hb:bnd l)(hp:P l):P (dj m t into l):=
 (qq (f:=cR m t into) (fun l=>(l.length=m.aa.length∧bnd l)∧P l) (fun l hl=>⟨⟨by unfold cR;rw[cZ];exact hl.1.1,gr h hl.1.1 hl.1.2 _ (aLs _)⟩,xz h P hP hl.1.1 hl.1.2 hl.2 _ (aLs _)⟩) _ l ⟨⟨hl,hb⟩,hp⟩).2
theorem Ad{l:List Int}(hl:l.length=m.aa.length)(hb:bnd l):(dj m t into l).length=m.aa.length∧bnd (dj m t into l):=
 (qq (f:=cR m t into) (fun l=>(l.length=m.aa.length∧bnd l)) (fun l hl=>⟨by unfold cR;rw[cZ];exact hl.1,gr h hl.1 hl.2 _ (aLs _)⟩) _ l ⟨hl,hb⟩)
theorem vD{l:List Int}(hl:l.length=m.aa.length)(hb:bnd l)(j:Nat):nth (dj m t into l) j≤nth l j:=
 sD h (fun l'=>nth l' j≤nth l j) (fun l' hl' hb' hp k hk back=>by
  have r2:=Road.xx (h.rs _ (aq hk)) back
  rcases uw (m:=m) t into k back l' with⟨_,_,_,_,c,e⟩ | ⟨e,_⟩
  · rw[e];simp only
    rw[rr _ _ (by omega)]
    split
    · rename_i hj;rw[hj]at hp;rw[hj];omega
    · exact hp
  · rw[e];exact hp) hl hb (Int.le_refl _)
theorem Ae{y l:List Int}(hy:clW m t into y)(hl:l.length=m.aa.length)(hb:bnd l)(hle:∀j,nth y j≤nth l j):∀j,nth y j≤nth (dj m t into l) j:=
 sD h (fun l'=>∀j,nth y j≤nth l' j) (fun l' hl' hb' hp k hk back=>by
  have r2:=Road.xx (h.rs _ (aq hk)) back
  rcases uw (m:=m) t into k back l' with⟨c1,c2,c3,c4,c5,e⟩ | ⟨e,_⟩
  · rw[e];simp only
    intro j
    rw[rr _ _ (by omega)]
    split
    · rename_i hj
      have:=hp ((nth m.roads k).src back).toNat
      have:=hy k hk back c1 c2 (by omega) (by omega)
      rw[hj];omega
    · exact hp j
  · rw[e];exact hp) hl hb hle
theorem Af{l:List Int}(hl:l.length=m.aa.length)(hb:bnd l):∀k,k≤m.roads.length→(dT m t into l k).2=false→∀i,i<k→∀back,(ed m t into i back l).2=false
 | 0,_,_,i,hi,_=>by omega
 | k+1,hk,hf,i,hi,back=>by
   have e:=(mN h (t:=t) (into:=into) hl hb k (by omega)).2
   have ih:=Af hl hb k (by omega)
   simp only[dT,qo,Bool.or_eq_false_iff]at hf
   obtain⟨⟨f1,f2⟩,f3⟩:=hf
   have e:=e f1
   rw[e]at f2 f3
   have e2:=(vA h (t:=t) (into:=into) hl hb (k:=k) (by omega) false).2 f2
   rw[e2]at f3
   by_cases c:i<k
   · exact ih f1 i c back
   · have:i=k:=by omega
     subst this
     cases back
     · exact f2
     · exact f3
theorem Ag{l:List Int}(hl:l.length=m.aa.length)(hb:bnd l):clW m t into (dj m t into l):=by
 obtain⟨h1,h2,h3⟩:=vC (f:=cR m t into) (fun l=>l.length=m.aa.length∧bnd l) ur (fun l ⟨hl,hb⟩=>⟨⟨by unfold cR;rw[cZ];exact hl,gr h hl hb _ (aLs _)⟩,mN h hl hb _ (aLs _)⟩) (ur l+1) l ⟨hl,hb⟩ (Nat.lt_succ_self _)
 intro k hk back c1 c2 c3 c4
 have no:=Af h (t:=t) (into:=into) h2 h3 m.roads.length (aLs _) h1 k hk back
 change (ed m t into k back (dj m t into l)).2=false at no
 rcases uw (m:=m) t into k back (dj m t into l)with⟨_,_,_,_,_,e⟩ | ⟨_,e⟩
 · rw[e]at no;cases no
 · exact Classical.byContradiction fun hc=>e ⟨c1,c2,c3,c4,by omega⟩
theorem GI{l:List Int}(hl:l.length=m.aa.length)(hb:bnd l)(hc:clW m t into l):dj m t into l=l:=by
 apply uv (by rw[(Ad h hl hb).1,hl])
 intro j hj
 exact Int.le_antisymm (vD h hl hb j) (Ae h hc hl hb (fun _=>Int.le_refl _) j)
theorem xA(P:Int→Prop){l:List Int}(hl:l.length=m.aa.length)(hb:bnd l)(hp:∀x∈l,P x)(ht:∀x,t≤x→x≤2147483648→P x):∀x∈dj m t into l,P x:=
 sD h (fun l'=>∀x∈l',P x) (fun l' hl' hb' hp k hk back=>by
  rcases uw (m:=m) t into k back l' with⟨c1,c2,c3,c4,c5,e⟩ | ⟨e,_⟩
  · rw[e]
    intro x hx
    rcases aLk hx with hx | hx
    · exact hp x hx
    · subst hx;exact ht _ (by omega) c4
  · rw[e];exact hp) hl hb hp
end
theorem vE{m:bu}(h:m.ok){w:Wh}(hl:w.frm.length=m.aa.length)(ht:inT w.time)(hp:∀x∈w.frm,plT x)(hc:clW m w.time none w.frm):c7 m w=true:=by
 have hb:bnd w.frm:=fun x hx=>nI (hp x hx)
 simp only[c7,tH,aLr,decide_eq_true_eq,aLx,aLu]
 exact⟨⟨⟨by omega,ht⟩,fun j hj=>hp _ (aq hj)⟩,GI h hl hb hc⟩
theorem rv{m:bu}(h:m.ok){w:Wh}(hv:c7 m w=true):clW m w.time none w.frm:=by
 obtain⟨v1,v2,v3,v4⟩:=bZ hv
 have:=Ag h (t:=w.time) (into:=none) v1 (fun x hx=>nI (v3 x hx))
 rwa [v4]at this
theorem vF{m:bu}(h:m.ok){l:List Int}(hl:l.length=m.aa.length)(hp:∀x∈l,plT x){a b:Int}(ha:0≤a)(hab:a≤b)(hb:inT b):c7 m ⟨b,dj m a none l⟩=true:=by
 have bn:bnd l:=fun x hx=>nI (hp x hx)
 exact vE h (Ad h hl bn).1 hb (xA h plT hl bn hp (fun x h1 h2=> .inr ⟨by omega,h2⟩)) (yz hab (Ag h hl bn))
theorem vG(n:Nat):∀x∈dI n,plT x:=fun x hx=>by rw[List.eq_of_mem_replicate hx];exact .inl rfl
theorem vH{m:bu}(h:m.ok){p t:Int}(h0:0≤p)(h1:p<m.aa.length)(ht:inT t):dL m p t=(⟨t,dj m t none ((dI m.aa.length).set p.toNat t)⟩,0)∧c7 m (dL m p t).1=true:=by
 have e:dL m p t=(⟨t,dj m t none ((dI m.aa.length).set p.toNat t)⟩,0):=by
  unfold dL;rw[if_neg (by omega),if_pos ht]
 refine⟨e,?_⟩
 rw[e]
 refine vF h (by simp) (fun x hx=>?_) ht.1 (Int.le_refl _) ht
 rcases aLk hx with hx | hx
 · exact vG _ x hx
 · subst hx;exact .inr ht
theorem yA{w:Wh}{l:List Int}{b:Int}{n:Nat}(hl:∀p∈l,0≤p∧p<n):∀k,k≤l.length→∀j,j<n→nth (oS w l b n k).1 j=if(j:Int)∈l.take k∧nth w.frm j≤b then nth w.frm j else 1099511627776
 | 0,_,j,hj=>by
   rw[if_neg (by simp)]
   exact bF (by simp[oS,dI,hj])
 | k+1,hk,j,hj=>by
   have ih:=yA (w:=w) (b:=b) hl k (by omega) j hj
   have p:=hl _ (aq (l:=l) (j:=k) (by omega))
   rw[lF (by omega)]
   simp only[oS,sC]
   by_cases e:(j:Int)=nth l k
   · have e2:j=(nth l k).toNat:=by omega
     by_cases c:nth w.frm (nth l k).toNat≤b
     · rw[if_pos c,rr _ _ (by rw[nJ];omega),if_pos e2,if_pos ⟨by simp[e],by rw[e2];exact c⟩,e2]
     · rw[if_neg c,ih,if_neg (fun x=>c (by rw[← e2];exact x.2)),if_neg (fun x=>c (by rw[← e2];exact x.2))]
   · have e2:¬j=(nth l k).toNat:=by omega
     have mm:((j:Int)∈l.take k++[nth l k])↔(j:Int)∈l.take k:=by simp[e]
     simp only[mm]
     rw[← ih]
     split
     · rw[rr _ _ (by rw[nJ];omega),if_neg e2]
     · rfl
end Go.Ev
namespace Go.Ev
open Go
variable [Lib] [cu] [b0]
structure OfI(m:bu)(p:Nat)(l:List Int):Prop where
 ln:l.length=m.aa.length
 bd:bnd l
 z:nth l p=0
theorem OfI.set{m:bu}{p:Nat}{l:List Int}(h:OfI m p l){q:Nat}{x:Int}(hq:q<l.length)(h0:0<x)(hx:x<nth l q):OfI m p (l.set q x):=by
 have b1:=h.bd _ (aq hq)
 refine⟨by rw[List.length_set];exact h.ln,qp h.bd (by omega) (by omega),?_⟩
 rw[rr _ _ hq]
 split
 · rename_i e;subst e;have:=h.z;omega
 · exact h.z
@[go_sem] theorem abK (H : ah) (a b : List T) : xp H 1 [.t (.sl a), .t (.sl b), .nil] = some (.t (.sl [.sl a, .sl b, .sl []]), H) := by
 simp only[xp,List.all_cons,List.all_nil,D.cells,T.cells,List.map_cons,List.map_nil,List.length_cons,List.length_nil,bR,frz,depth,en,List.flatMap_cons,List.flatMap_nil,pins]
 rfl
def JF(c:Bool):Option Bool→Option Bool
 | some d=>some (c&&d)
 | none=>none
@[go_sem] theorem R8 (c d : Bool) : JF c (some d) = some (c && d) := (rfl)
@[go_sem] theorem R9 : kr [] [] = some true := (rfl)
@[go_sem] theorem OE (k : IntKind) (a b : Int) (xs ys : List T) : kr (.int k a :: xs) (.int k b :: ys) = JF (decide (a = b)) (kr xs ys) := by
 simp only[kr,if_true,T2]
 cases kr xs ys<;>rfl
def JG(H:ah)(neg:Bool):Option Bool→Option (D×ah)
 | some r=>some (.t (.bool (bif neg then !r else r)),H)
 | none=>none
@[go_sem] theorem Sa (H : ah) (r : Bool) : JG H true (some r) = some (.t (.bool (!r)), H) := (rfl)
@[go_sem] theorem OF (H : ah) (r : Bool) : JG H false (some r) = some (.t (.bool r), H) := (rfl)
@[go_sem] theorem OH (H : ah) (n : Nat) (neg : Bool) (xs ys : List T) : oo H (.ints n) neg (some (.t (.agg xs))) (some (.t (.agg ys))) = if xs.length = n then JG H neg (kr xs ys) else none := by
 simp only[oo,aLq,KT,eqD]
 by_cases h:xs.length=n
 · simp only[if_pos h]
   cases kr xs ys with
   | none=>rfl
   | some r=>cases neg<;>rfl
 · simp only[if_neg h];rfl
@[go_sem] theorem Sb : ((2 : Nat) : Int) = 2 := (rfl)
@[go_sem] theorem Lv : ((3 : Nat) : Int) = 3 := (rfl)
def Ah(n:Nat)(p:Nat→Bool):Nat:=((List.range n).find? p).getD 0
theorem GJ{gc:Bool}{dead:List Nat}{c:C}{vs:List D}{H:ah}(s:Nat→St)(n:Nat)(p:Nat→Bool)(e:Nat→Ex×St)(eN:Ex×St)
 (h0:(⟨iZ dead vs,H⟩:St)=s 0)
 (hs:∀j,j<n→p j=false→eP gc dead (s j).H.length (exS bh c (s j))=some (s (j+1)))
 (he:∀j,j<n→p j=true→exS bh c (s j)=some (e j)∧(e j).1≠ .normal)
 (hN:exS bh c (s n)=some eN) (hn:eN.1≠ .normal):
 exS bh (.loop gc dead c) ⟨vs,H⟩=some (if(List.range n).any p=true then e (Ah n p)else eN):=by
 rw[gR s n p e eN h0 hs he hN hn,←Jx]
 unfold Ah
 cases hf:(List.range n).find? p with
 | none=>simp
 | some k=>simp
theorem OI{α:Type} [Dat α](l:List α)(p:α→Bool):((List.range l.length).any fun j=>p (nth l j))=l.any p:=by
 rw[Bool.eq_iff_iff,List.any_eq_true,List.any_eq_true]
 constructor
 · rintro ⟨j,hj,hp⟩
   exact⟨_,aq (aLu.1 hj),hp⟩
 · rintro ⟨x,hx,hp⟩
   obtain⟨j,hj,rfl⟩:=List.getElem_of_mem hx
   exact⟨j,aLu.2 hj,by rw[bF (aLc hj)];exact hp⟩
theorem GK(n:Nat)(p:Nat→Bool):(List.range n).all p= !((List.range n).any fun j=> !p j):=by
 rw[List.all_eq_not_any_not]
@[go_sem] theorem VJ : iY [] [] [] = some true := (rfl)
@[go_sem] theorem VK (ks : List Bool) (k : IntKind) (a b : Int) (xs ys : List T) : iY (true :: ks) (.int k a :: xs) (.int k b :: ys) = JF (decide (a = b)) (iY ks xs ys) := by
 simp only[iY,if_true,T2]
 cases iY ks xs ys<;>rfl
@[go_sem] theorem Sc (ks : List Bool) (a b : Bool) (xs ys : List T) : iY (false :: ks) (.bool a :: xs) (.bool b :: ys) = JF (decide (a = b)) (iY ks xs ys) := by
 simp only[iY,show(a==b)=decide (a=b)from rfl]
 cases iY ks xs ys<;>rfl
@[go_sem] theorem YV (H : ah) (ks : List Bool) (neg : Bool) (xs ys : List T) : oo H (.sc ks) neg (some (.t (.agg xs))) (some (.t (.agg ys))) = JG H neg (iY ks xs ys) := by
 simp only[oo,aLq,KT,eqD]
 cases iY ks xs ys with
 | none=>rfl
 | some r=>cases neg<;>rfl
end Go.Ev
namespace Go.Ev
open Go
section
variable (H : ah) (sz id ep n lo hi : Nat) (i j : Int) (fz : Bool)
def scO(r:D):Option Obj→Option (D×ah)
 | some (.arr sz' _ ep' es)=>if ep=ep'∧n=es.length then(if sz'=sz then some (r,H)else none)else none
 | _=>none
@[go_sem] theorem abL (r : D) (sz' : Nat) (pin : Bool) (es : List D) : scO H sz ep n r (some (.arr sz' pin ep es)) = if n = es.length then (if sz' = sz then some (r, H) else none) else none := by simp [scO]
theorem scR{l h:Nat}:((eI H id ep n).bind fun a=>if l≤h∧h≤n∧a.1=sz then some (D.sub id ep n l h)else none).map (fun d=>(d,H))=if l≤h then(if h≤n then scO H sz ep n (.sub id ep n l h) H[id]? else none)else none:=by
 simp only[eI]
 generalize H[id]?=o
 by_cases h1:l≤h
 · by_cases h2:h≤n
   · rw[if_pos h1,if_pos h2]
     rcases o with _ | (_ | ⟨sz',pin,ep',es⟩)
     · rfl
     · rfl
     · simp only[scO]
       by_cases h3:ep=ep'∧n=es.length
       · rw[if_pos h3,if_pos h3,aLq]
         by_cases h4:sz'=sz
         · rw[if_pos h4,if_pos ⟨h1,h2,h4⟩];rfl
         · rw[if_neg h4,if_neg fun h=>h4 h.2.2];rfl
       · rw[if_neg h3,if_neg h3];rfl
   · rw[if_pos h1,if_neg h2]
     rcases o with _ | (_ | ⟨sz',pin,ep',es⟩)
     · rfl
     · rfl
     · by_cases h3:ep=ep'∧n=es.length
       · simp only[if_pos h3,aLq];rw[if_neg fun h=>h2 h.2.1];rfl
       · simp only[if_neg h3];rfl
 · rw[if_neg h1]
   rcases o with _ | (_ | ⟨sz',pin,ep',es⟩)
   · rfl
   · rfl
   · by_cases h3:ep=ep'∧n=es.length
     · simp only[if_pos h3,aLq];rw[if_neg fun h=>h1 h.1];rfl
     · simp only[if_neg h3];rfl
@[go_sem] theorem OJ : zP H sz (some (.ref id ep n)) (some none) (some (some i)) = if 0 ≤ i then (if i ≤ n then scO H sz ep n (.sub id ep n 0 i.toNat) H[id]? else none) else none := by
 simp only[zP,aLq,lB,bound,idx]
 by_cases h1:0≤i
 · rw[if_pos h1,if_pos h1,aLq,scR,if_pos (Nat.zero_le _)]
   by_cases h2:i≤n
   · rw[if_pos h2,if_pos (by omega)]
   · rw[if_neg h2,if_neg (by omega)]
 · rw[if_neg h1,if_neg h1];rfl
@[go_sem] theorem OK : zP H sz (some (.ref id ep n)) (some (some i)) (some none) = if 0 ≤ i then (if i ≤ n then scO H sz ep n (.sub id ep n i.toNat n) H[id]? else none) else none := by
 simp only[zP,aLq,lB,bound,idx]
 by_cases h1:0≤i
 · rw[if_pos h1,if_pos h1,aLq,scR]
   by_cases h2:i≤n
   · rw[if_pos h2,if_pos (by omega),if_pos (by omega)]
   · rw[if_neg h2,if_neg (by omega)]
 · rw[if_neg h1,if_neg h1];rfl
@[go_sem] theorem JH : zP H sz (some (.ref id ep n)) (some (some i)) (some (some j)) = if 0 ≤ i then (if i ≤ j then (if j ≤ n then scO H sz ep n (.sub id ep n i.toNat j.toNat) H[id]? else none) else none) else none := by
 simp only[zP,aLq,lB,bound,idx]
 by_cases h1:0≤i
 · rw[if_pos h1,if_pos h1,aLq]
   by_cases h0:i≤j
   · rw[if_pos h0,if_pos (by omega),aLq,scR,if_pos (by omega)]
     by_cases h2:j≤n
     · rw[if_pos h2,if_pos (by omega)]
     · rw[if_neg h2,if_neg (by omega)]
   · rw[if_neg h0]
     by_cases h2:0≤j
     · rw[if_pos h2,aLq,scR,if_neg (by omega)]
     · rw[if_neg h2];rfl
 · rw[if_neg h1,if_neg h1];rfl
@[go_sem] theorem OL : zP H sz (some .nil) (some none) (some (some i)) = if i = 0 then some (.nil, H) else none := by
 simp only[zP,aLq,lB,bound,idx]
 by_cases h1:0≤i
 · rw[if_pos h1,aLq]
   by_cases h2:i=0
   · rw[if_pos h2,if_pos (by omega)];rfl
   · rw[if_neg h2,if_neg (by omega)];rfl
 · rw[if_neg h1,if_neg (by omega)];rfl
@[go_sem] theorem OM : zP H sz (some .nil) (some (some i)) (some none) = if i = 0 then some (.nil, H) else none := by
 simp only[zP,aLq,lB,bound,idx]
 by_cases h1:0≤i
 · rw[if_pos h1,aLq]
   by_cases h2:i=0
   · rw[if_pos h2,if_pos (by omega)];rfl
   · rw[if_neg h2,if_neg (by omega)];rfl
 · rw[if_neg h1,if_neg (by omega)];rfl
def C8(x:D)(ys:List D):Option (D×ah):=if cy sz ys=true then(match x with
 | .nil=>if ys.length≤4294967296 then some (.ref H.length 0 ys.length,H++[.arr sz false 0 ys])else none
 | .ref id ep n=>tz H sz id ep n ys H[id]?
 | _=>none)else none
@[go_sem] theorem YW (ys : List D) : C8 H sz .nil ys = if cy sz ys = true then (if ys.length ≤ 4294967296 then some (.ref H.length 0 ys.length, H ++ [.arr sz false 0 ys]) else none) else none := (rfl)
@[go_sem] theorem YX (ys : List D) : C8 H sz (.ref id ep n) ys = if cy sz ys = true then tz H sz id ep n ys H[id]? else none := (rfl)
@[go_sem] theorem Lw : cy sz [] = true := (rfl)
@[go_sem] theorem JI (d : D) (r : List D) : cy sz (d :: r) = lT sz d.cells := by
 rw[Bool.eq_iff_iff,fh];simp[cy]
def VL(x:D):Option Obj→Option (D×ah)
 | some (.arr _ _ ep' es)=>if ep=ep'∧n=es.length then C8 H sz x ((es.drop lo).take (hi-lo))else none
 | _=>none
def VM(x:D):Option Obj→Option (D×ah)
 | some (.arr _ _ ep' es)=>if ep=ep'∧n=es.length then C8 H sz x es else none
 | _=>none
@[go_sem] theorem YY (x : D) (sz' : Nat) (pin : Bool) (es : List D) : VL H sz ep n lo hi x (some (.arr sz' pin ep es)) = if n = es.length then C8 H sz x ((es.drop lo).take (hi - lo)) else none := by simp [VL]
@[go_sem] theorem YZ (x : D) (sz' : Nat) (pin : Bool) (es : List D) : VM H sz ep n x (some (.arr sz' pin ep es)) = if n = es.length then C8 H sz x es else none := by simp [VM]
theorem GL(x:D)(ys:List D):(if cy sz ys=true then(match x with
 | .nil=>if ys.length≤lim then some (D.ref H.length 0 ys.length,H++[.arr sz false 0 ys])else none
 | .ref id ep n=>(eI H id ep n).bind fun a=>if a.1=sz∧n+ys.length≤lim then some (.ref id ep (n+ys.length),H.set id (.arr sz a.2.1 ep (a.2.2++ys)))else none
 | _=>none)else none)=C8 H sz x ys:=by
 unfold C8
 split
 · cases x with
   | ref id ep n=>
     simp only[eI]
     generalize H[id]?=o
     rcases o with _ | (_ | ⟨sz',pin,ep',es⟩)
     · rfl
     · rfl
     · simp only[tz]
       by_cases h1:ep=ep'∧n=es.length
       · rw[if_pos h1,aLq]
         by_cases h2:sz'=sz∧n+ys.length≤lim
         · rw[if_pos h2,if_pos ⟨h1.1,h1.2,h2⟩]
         · rw[if_neg h2,if_neg fun h=>h2 h.2.2]
       · rw[if_neg h1,if_neg fun h=>h1 ⟨h.1,h.2.1⟩];rfl
   | _=>rfl
 · rfl
theorem sE(x y:D)(ys:List D)(h:elems H y=some ys):ns H sz false (some x) (some y)=C8 H sz x ys:=by
 simp only[ns,aLq,kG,h,aLt,if_false]
 exact GL H sz x ys
@[go_sem] theorem Ii (x : D) : ns H sz false (some x) (some .nil) = C8 H sz x [] := sE H sz x .nil [] rfl
@[go_sem] theorem Ij (x : D) : ns H sz false (some x) (some (.ref id ep n)) = VM H sz ep n x H[id]? := by
 cases he:elems H (.ref id ep n)with
 | some ys=>
   rw[sE H sz x _ ys he]
   simp only[elems,eI]at he
   generalize H[id]?=o at he
   rcases o with _ | (_ | ⟨sz',pin,ep',es⟩)
   · cases he
   · cases he
   · simp only[VM]
     by_cases h1:ep=ep'∧n=es.length
     · simp only[if_pos h1]at he ⊢;cases he;rfl
     · simp only[if_neg h1]at he;cases he
 | none=>
   have:ns H sz false (some x) (some (.ref id ep n))=none:=by simp only[ns,aLq,kG,he];rfl
   rw[this]
   simp only[elems,eI]at he
   generalize H[id]?=o at he
   rcases o with _ | (_ | ⟨sz',pin,ep',es⟩)
   · rfl
   · rfl
   · simp only[VM]
     by_cases h1:ep=ep'∧n=es.length
     · simp only[if_pos h1]at he;cases he
     · simp only[if_neg h1]
@[go_sem] theorem Ik (x : D) : ns H sz false (some x) (some (.sub id ep n lo hi)) = VL H sz ep n lo hi x H[id]? := by
 cases he:elems H (.sub id ep n lo hi)with
 | some ys=>
   rw[sE H sz x _ ys he]
   simp only[elems,eI]at he
   generalize H[id]?=o at he
   rcases o with _ | (_ | ⟨sz',pin,ep',es⟩)
   · cases he
   · cases he
   · simp only[VL]
     by_cases h1:ep=ep'∧n=es.length
     · simp only[if_pos h1]at he ⊢;cases he;rfl
     · simp only[if_neg h1]at he;cases he
 | none=>
   have:ns H sz false (some x) (some (.sub id ep n lo hi))=none:=by simp only[ns,aLq,kG,he];rfl
   rw[this]
   simp only[elems,eI]at he
   generalize H[id]?=o at he
   rcases o with _ | (_ | ⟨sz',pin,ep',es⟩)
   · rfl
   · rfl
   · simp only[VL]
     by_cases h1:ep=ep'∧n=es.length
     · simp only[if_pos h1]at he;cases he
     · simp only[if_neg h1]
def Sd(ep n lo hi:Nat):Option Obj→Option (List D)
 | some (.arr _ _ ep' es)=>if ep=ep'∧n=es.length then some ((es.drop lo).take (hi-lo))else none
 | _=>none
def Y0(x:D):Option (List D)→Option (D×ah)
 | some ys0=>(bR (fun d=>(frz H depth d).map .t) ys0).bind fun ys=>if cy sz ys then C8 (pins H (ys0.flatMap (en H depth))) sz x ys else none
 | none=>none
@[go_sem] theorem ac3 (x : D) (ts : List T) : Y0 H sz x (some (ts.map .t)) = C8 H sz x (ts.map .t) := by
 simp only[Y0,rm,aLq,CQ,pins]
 by_cases h:cy sz (ts.map D.t)=true
 · rw[if_pos h]
 · rw[if_neg h];unfold C8;rw[if_neg h]
@[go_sem] theorem JJ (x : D) : ns H sz true (some x) (some (.sub id ep n lo hi)) = Y0 H sz x (Sd ep n lo hi H[id]?) := by
 have e:elems H (.sub id ep n lo hi)=Sd ep n lo hi H[id]?:=by
  simp only[elems,eI]
  generalize H[id]?=o
  rcases o with _ | (_ | ⟨sz',pin,ep',es⟩)
  · rfl
  · rfl
  · simp only[Sd]
    by_cases h1:ep=ep'∧n=es.length
    · simp only[if_pos h1];rfl
    · simp only[if_neg h1];rfl
 simp only[ns,aLq,kG,e]
 cases Sd ep n lo hi H[id]? with
 | none=>rfl
 | some ys0=>
   simp only[aLq,Y0,if_true]
   cases hm:bR (fun d=>(frz H depth d).map D.t) ys0 with
   | none=>rfl
   | some ys=>
     simp only[aLq]
     refine(GL _ _ _ _).trans ?_
     by_cases h:cy sz ys=true
     · rw[if_pos h]
     · rw[if_neg h];unfold C8;rw[if_neg h]
@[go_sem] theorem Y1 (ep n lo hi sz : Nat) (pin : Bool) (ts : List T) : Sd ep n lo hi (some (.arr sz pin ep (ts.map .t))) = if n = ts.length then some (((ts.drop lo).take (hi - lo)).map .t) else none := by
 simp only[Sd,true_and,List.length_map,List.map_take,List.map_drop]
def GM(ds:List D):Option (D×ah):=if ds.all (fun d=>d.cells.length==sz&&d.gH)then some (.ref H.length 0 ds.length,H++[.arr sz false 0 ds])else none
@[go_sem] theorem ac4 (call : aS) (get : X → Option D) (xs : List X) : evO call get H (.bsr xs sz) = (bR get xs).bind (GM H sz) := (rfl)
@[go_sem] theorem VN : GM H sz [] = some (.ref H.length 0 0, H ++ [.arr sz false 0 []]) := (rfl)
@[go_sem] theorem VO (k : IntKind) (n : Int) : GM H 1 [.t (.int k n)] = some (.ref H.length 0 1, H ++ [.arr 1 false 0 [.t (.int k n)]]) := (rfl)
@[go_sem] theorem VP (cs : List D) : GM H sz [.agg cs] = if lT sz cs = true then some (.ref H.length 0 1, H ++ [.arr sz false 0 [.agg cs]]) else none := by
 simp only[GM,List.all_cons,List.all_nil,Bool.and_true,D.cells,D.gH]
 by_cases h:lT sz cs=true
 · rw[if_pos h,if_pos (by simpa using fh.1 h)];rfl
 · rw[if_neg h,if_neg (by intro e;exact h (fh.2 (by simpa using e)))]
end
@[go_sem] theorem Lx : (1 : Int).toNat = 1 := (rfl)
@[go_sem] theorem ON : (2 : Int).toNat = 2 := (rfl)
@[go_sem] theorem JK : (3 : Int).toNat = 3 := (rfl)
section
variable {H t : ah} {i j k : Nat} {o o' : Obj}
theorem jC(h:i<H.length):(H++t)[i]?=H[i]?:=aLg h
theorem pv:(H++t)[H.length]?=t[0]?:=by rw[aLh (aLs _),Nat.sub_self]
theorem pw:(H++t)[H.length+k]?=t[k]?:=by rw[aLh (Nat.le_add_right _ _),Nat.add_sub_cancel_left]
theorem GN(h:i<H.length):(H++t).set i o=H.set i o++t:=List.set_append_left _ _ h
theorem sF:(H++t).set H.length o=H++t.set 0 o:=by rw[List.set_append_right _ _ (aLs _),Nat.sub_self]
theorem px(h:i<H.length):(H.set i o)[i]?=some o:=by simp[h]
theorem ji(h:i≠j):(H.set i o)[j]?=H[j]?:=aLi h
theorem Eg:(H.set i o).set i o'=H.set i o':=List.set_set ..
theorem yB(a b:ah):(H++a)++b=H++(a++b):=List.append_assoc ..
theorem nL(h:H[i]?=some o):i<H.length:=(aLe.1 h).1
end
end Go.Ev
namespace Go.Ev.N
def GO:Nat:=78
def Fb:Nat:=79
def Eh:Nat:=80
def OO:Nat:=81
def Il:Nat:=82
def OP:Nat:=83
def OQ:Nat:=84
def OR:Nat:=85
def Se:Nat:=86
def Lz:Nat:=87
def OS:Nat:=88
def LA:Nat:=89
def LB:Nat:=90
def Sf:Nat:=91
def LC:Nat:=92
def Sg:Nat:=93
def VQ:Nat:=94
def VR:Nat:=95
def OT:Nat:=96
def Si:Nat:=97
def OU:Nat:=98
def OV:Nat:=99
def OW:Nat:=100
def Sj:Nat:=101
def VS:Nat:=102
def A7:Nat:=103
def JL:Nat:=104
def dy:Nat:=105
def LD:Nat:=106
def Sk:Nat:=107
def Sl:Nat:=108
def OX:Nat:=109
def Sm:Nat:=110
def Sn:Nat:=111
def OY:Nat:=112
def OZ:Nat:=113
def Sp:Nat:=114
def LF:Nat:=115
def Sq:Nat:=116
def Sr:Nat:=117
def LG:Nat:=118
def LH:Nat:=119
def JM:Nat:=120
def JN:Nat:=121
def C9:Nat:=122
end Go.Ev.N
namespace Go.Ev.N
def GP:Nat:=123
def Fc:Nat:=124
def Im:Nat:=125
def GQ:Nat:=126
def O0:Nat:=127
def O1:Nat:=128
def O2:Nat:=129
def Ss:Nat:=130
def Su:Nat:=131
def O3:Nat:=132
def O4:Nat:=133
def JO:Nat:=134
def JP:Nat:=135
def Sv:Nat:=136
def O5:Nat:=137
def JQ:Nat:=138
def LI:Nat:=139
def Io:Nat:=140
def LJ:Nat:=141
def JR:Nat:=142
def GR:Nat:=143
def GS:Nat:=144
def b8:Nat:=145
def LK:Nat:=146
def LL:Nat:=147
def bJ:Nat:=148
end Go.Ev.N
namespace Go.Ev.N
def Da:Nat:=149
def GU:Nat:=150
def GV:Nat:=151
def Fe:Nat:=152
def O6:Nat:=153
def O7:Nat:=154
def LM:Nat:=155
def LN:Nat:=156
def O8:Nat:=157
def Sw:Nat:=158
def O9:Nat:=159
def bC:Nat:=160
def Db:Nat:=161
def Pa:Nat:=162
def Sx:Nat:=163
def LO:Nat:=164
def Sy:Nat:=165
def LP:Nat:=166
def dG:Nat:=167
def pE:Nat:=168
def JS:Nat:=169
def dk:Nat:=170
def Ei:Nat:=171
def JT:Nat:=172
def gu:Nat:=173
def qD:Nat:=174
def GW:Nat:=175
def cI:Nat:=176
def eF:Nat:=177
end Go.Ev.N
namespace Go.Ev.K
open Go.Ev
def cJ:C:= (.seq (.ite [m v6,m v5,u (.ln l0),u (.bin .lss l2 l0)] [] 0 .skip (.exit 0)) (.blk 1 (.reg [m v6,m v5,m v6,u (.sc l1 (some l0) none 1),m v5,m v6,u (.sc l1 none (some l0) 1),u (.cp l3 l0 1),u (.bin .add l7 l0),x 6 l0] [])))
def iV:C:= .loop true [0,1,2,3,4] K.cJ
def bC:Fn:= { bq:=2,vars:=[0,1,4,5,6,7,8],body:=(q [w 2 (.mv (.c (.nil)))] [] (.seq (.ite [m v1,u (.bin .lss l0 (.i 0))] [] 0 .fail .skip) (q [m v0,u (.ln l0),u (.cv .u64 l0),m v1,u (.cv .u64 l0),u (.ca N.dk 0 [] [.l 2,.l 0]),m l0,u (.ex l0 0),u (.ex l1 1),x 3 l1,x 4 l1] [] (.seq (.ite [m v3,u (.bin .gtr l0 (.c (.t (.int .u64 (0))))),m l0,e 0 false v4,y 1 false (.bin .gtr l0 (.c (.t (.int .u64 (9223372036854775807))))),u (.pk l2 (.b true) l0)] [] 0 .fail .skip) (q [m v4,u (.cv .i64 l0),u (.mk l0 (z0) 1),x 5 l0] [] (q [m v5,m v0,u (.cp l1 l0 1),x 6 l0] [] (.seq (.blk 0 K.iV) (q [m v5,x 2 l0] [] .ret)))))))),res:=[(2,none)]}
def dG:Fn:= { bq:=1,vars:=[0,1,2],body:=(q [w 1 (.bx v0 2),x 2 (.b false)] [] (q [h 2 v1,u (.ca N.gu 0 [] [.l 0]),u (.bin .eql l0 (.i 0)),x 2 l0] [] .ret)),res:=[(2,none)]}
def dk:Fn:= { bq:=2,vars:=[0,1,4,5,8,9],body:=(q [w 2 (.mv (.c (.t (.int .u64 (0))))),w 3 (.mv (.c (.t (.int .u64 (0)))))] [] (.seq (.cnd false .skip) (q [m v0,m v1,u (.ca N.cI 0 [] [.l 1,.l 0]),m l0,u (.ex l0 0),u (.ex l1 1),x 4 l1,x 5 l1] [] (q [m v4,m v5,x 2 l1,x 3 l1] [] .ret)))),res:=[(2,none),(3,none)]}
end Go.Ev.K
namespace Go.Ev
class fG [Lib]:Prop where
 fU:Lib.fs N.bC=some K.bC
 oT:Lib.fs N.dG=some K.dG
 kQ:Lib.fs N.dk=some K.dk
namespace K
variable [Lib] [fG]
theorem fU:Lib.fs N.bC=some K.bC:=fG.fU
theorem oT:Lib.fs N.dG=some K.dG:=fG.oT
theorem kQ:Lib.fs N.dk=some K.dk:=fG.kQ
end K
end Go.Ev
namespace Go.Ev.K
open Go.Ev
def lY:C:= (.its [u (.bin .lss v8 v7)] [] 0 .skip (.exit 0) (.seq (.blk 1 (q [a 2 v6 v8,h 2 l0,w 3 (.al [z0,z1] []),u (.st l0 l1 2 [])] [] (.ite [f 0 v3,g l0,u (.bin .lss l0 (.i (-10000))),m l0,y 0 false (.fa v3 0),i 1 false l0,y 2 false (.bin .gtr l0 (.i 10000)),u (.pk l3 (.b true) l0)] [] 0 (q [x 2 (.i 1)] [] .ret) .skip))) (.reg [u (.bin .add v8 (.i 1)),x 8 l0] [])))
def rz:C:= .loop true [0,2,3,4,5,9,10,11] K.lY
def lZ:C:= (.its [u (.bin .lss v11 v10)] [] 0 .skip (.exit 2) (.seq (.blk 3 (q [a 10 v9 v11,h 10 l0,w 5 (.al [z0,z0,z0,z0,z1,z1,z0,z0,z0,z0] []),u (.st l0 l1 10 [])] [] (.seq (.ite [f 0 v5,g l0,u (.bin .lss l0 (.i 0)),m l0,y 0 false (.fa v5 0),i 1 false l0,e 2 false v4,y 3 false (.bin .geq l1 l0),u (.pk l4 (.b true) l0),m l0,y 0 false (.fa v5 1),i 1 false l0,y 2 false (.bin .lss l0 (.i 0)),u (.pk l3 (.b true) l0),m l0,y 0 false (.fa v5 1),i 1 false l0,e 2 false v4,y 3 false (.bin .geq l1 l0),u (.pk l4 (.b true) l0),m l0,y 0 false (.fa v5 0),i 1 false l0,y 2 false (.fa v5 1),i 3 false l0,y 4 false (.bin .eql l2 l0),u (.pk l5 (.b true) l0)] [] 0 (q [x 2 (.i 4)] [] .ret) .skip) (.seq (.ite [f 2 v5,g l0,u (.bin .lss l0 (.i 1)),m l0,y 0 false (.fa v5 2),i 1 false l0,y 2 false (.bin .gtr l0 (.i 100000)),u (.pk l3 (.b true) l0),m l0,y 0 false (.fa v5 3),i 1 false l0,y 2 false (.bin .lss l0 (.i 1)),u (.pk l3 (.b true) l0),m l0,y 0 false (.fa v5 3),i 1 false l0,y 2 false (.bin .gtr l0 (.i 1000)),u (.pk l3 (.b true) l0)] [] 0 (q [x 2 (.i 1)] [] .ret) .skip) (.ite [f 6 v5,h 2 l0,u (.ca N.eF 0 [] [.l 0,.i 1,.i 262144]),u (.un .not l0),m l0,y 0 false (.fa v5 8),y 1 false (.ld l0 2 true),y 2 false (.ca N.eF 0 [] [.l 0,.i (-2199023255552),.i 2199023255552]),y 3 false (.un .not l0),u (.pk l4 (.b true) l0)] [] 0 (q [x 2 (.i 1)] [] .ret) .skip))))) (.reg [u (.bin .add v11 (.i 1)),x 11 l0] [])))
def rA:C:= .loop true [0,1,2,3,5,6,7,8] K.lZ
def gu:Fn:= { bq:=1,vars:=[0,1,2,4,5,7,19,20,21,38,39,40],body:=(q [w 1 (.bx v0 2),x 2 (.i 0)] [] (.seq (.ite [f 0 v1,g l0,u (.ln l0),u (.bin .gtr l0 (.i 64)),m l0,y 0 false (.fa v1 1),i 1 false l0,y 2 false (.ln l0),y 3 false (.bin .gtr l0 (.i 128)),u (.pk l4 (.b true) l0)] [] 0 (q [x 2 (.i 2)] [] .ret) .skip) (.seq (q [f 0 v1,w 6 (.ld l0 1 false),w 7 (.ln l0),x 8 (.i 0)] [] (.blk 0 K.rz)) (q [f 0 v1,g l0,u (.ln l0),x 4 l0] [] (.seq (q [f 1 v1,w 9 (.ld l0 1 false),w 10 (.ln l0),x 11 (.i 0)] [] (.blk 2 K.rA)) (q [x 2 (.i 0)] [] .ret)))))),res:=[(2,none)]}
def cI:Fn:= { bq:=2,vars:=[0,1,4,5,6,7,8,9,10,11,12,13],body:=(q [w 2 (.mv (.c (.t (.int .u64 (0))))),w 3 (.mv (.c (.t (.int .u64 (0)))))] [] (q [m v0,u (.bin .and l0 (.c (.t (.int .u64 (4294967295))))),x 4 l0] [] (q [m v0,u (.bin .shr l0 (.c (.t (.int .u64 (32))))),x 5 l0] [] (q [m v1,u (.bin .and l0 (.c (.t (.int .u64 (4294967295))))),x 6 l0] [] (q [m v1,u (.bin .shr l0 (.c (.t (.int .u64 (32))))),x 7 l0] [] (q [m v4,m v6,u (.bin .mul l1 l0),x 8 l0] [] (q [m v5,m v6,u (.bin .mul l1 l0),m v8,u (.bin .shr l0 (.c (.t (.int .u64 (32))))),u (.bin .add l2 l0),x 9 l0] [] (q [m v9,u (.bin .and l0 (.c (.t (.int .u64 (4294967295))))),x 10 l0] [] (q [m v9,u (.bin .shr l0 (.c (.t (.int .u64 (32))))),x 11 l0] [] (q [m v10,m v4,m v7,u (.bin .mul l1 l0),u (.bin .add l3 l0),x 10 l0] [] (q [m v5,m v7,u (.bin .mul l1 l0),m v11,u (.bin .add l1 l0),m v10,u (.bin .shr l0 (.c (.t (.int .u64 (32))))),u (.bin .add l2 l0),x 2 l0] [] (q [m v0,m v1,u (.bin .mul l1 l0),x 3 l0] [] .ret)))))))))))),res:=[(2,none),(3,none)]}
def eF:Fn:= { bq:=3,vars:=[0,1,2,3,6],body:=(q [w 3 (.bx v0 2),x 4 (.b false)] [] (q [m v1,f 0 v3,g l0,u (.bin .leq l2 l0),m l0,y 0 true (.fa v3 0),i 1 true l0,y 2 true (.fa v3 1),i 3 true l0,y 4 true (.bin .leq l2 l0),u (.pk l5 l0 (.b false)),m l0,y 0 true (.fa v3 1),i 1 true l0,e 2 true v2,y 3 true (.bin .leq l1 l0),u (.pk l4 l0 (.b false)),x 4 l0] [] .ret)),res:=[(4,none)]}
end Go.Ev.K
namespace Go.Ev
class fH [Lib]:Prop where
 oU:Lib.fs N.gu=some K.gu
 jK:Lib.fs N.cI=some K.cI
 nM:Lib.fs N.eF=some K.eF
namespace K
variable [Lib] [fH]
theorem oU:Lib.fs N.gu=some K.gu:=fH.oU
theorem jK:Lib.fs N.cI=some K.cI:=fH.jK
theorem nM:Lib.fs N.eF=some K.eF:=fH.nM
end K
end Go.Ev
namespace Go.Ev
open Go
variable [Lib] [cu] [b0] [fG] [fH]
section
variable (H : ah) (sz : Nat)
def LQ(id ep n lo hi:Nat)(ys:List D):Option Obj→Option (D×ah)
 | some (.arr sz' pin ep' es)=>if ep=ep'∧n=es.length then Mu H id ep (sz',pin,es) lo hi ys sz else none
 | _=>none
def cpD(x:D)(ys:List D):Option (D×ah):=if cy sz ys=true then(match x with
 | .ref id ep n=>LQ H sz id ep n 0 n ys H[id]?
 | .sub id ep n lo hi=>LQ H sz id ep n lo hi ys H[id]?
 | _=>none)else none
def Y2(x y:Option D):Option (D×ah):=x.bind fun a=>y.bind fun b=>xY H a b sz
@[go_sem] theorem adZ (call : aS) (get : X → Option D) (x y : X) : evO call get H (.cp x y sz) = Y2 H sz (get x) (get y) := (rfl)
theorem Dc(x y:D)(ys:List D)(h:elems H y=some ys):xY H x y sz=cpD H sz x ys:=by
 unfold xY cpD
 rw[h,aLq]
 split
 · rename_i hh
   cases x with
   | ref id ep n=>
     simp only[eI,LQ]
     cases H[id]? with
     | none=>rfl
     | some o=>
       cases o with
       | box cs=>rfl
       | arr sz' pin ep' es=>
         simp only
         by_cases c:ep=ep'∧n=es.length
         · rw[if_pos c,if_pos c];rfl
         · rw[if_neg c,if_neg c];rfl
   | sub id ep n lo hi=>
     simp only[eI,LQ]
     cases H[id]? with
     | none=>rfl
     | some o=>
       cases o with
       | box cs=>rfl
       | arr sz' pin ep' es=>
         simp only
         by_cases c:ep=ep'∧n=es.length
         · rw[if_pos c,if_pos c];rfl
         · rw[if_neg c,if_neg c];rfl
   | _=>rfl
 · rfl
@[go_sem] theorem ac5 (x : D) (ts : List T) : Y2 H sz (some x) (some (.t (.sl ts))) = cpD H sz x (ts.map .t) := Dc H sz x (.t (.sl ts)) (ts.map .t) rfl
def cpE(x:D)(ep n lo hi:Nat):Option Obj→Option (D×ah)
 | some (.arr _ _ ep' es)=>if ep=ep'∧n=es.length then cpD H sz x ((es.drop lo).take (hi-lo))else none
 | _=>none
@[go_sem] theorem abM (x : D) (n lo hi sz' : Nat) (pin : Bool) (ep : Nat) (es : List D) : cpE H sz x ep n lo hi (some (.arr sz' pin ep es)) = if n = es.length then cpD H sz x ((es.drop lo).take (hi - lo)) else none := by simp [cpE]
@[go_sem] theorem Y3 (x : D) (id ep n lo hi : Nat) : Y2 H sz (some x) (some (.sub id ep n lo hi)) = cpE H sz x ep n lo hi H[id]? := by
 unfold Y2
 simp only[aLq]
 cases h:H[id]? with
 | none=>simp[xY,elems,eI,h,cpE]
 | some o=>
   cases o with
   | box cs=>simp[xY,elems,eI,h,cpE]
   | arr sz' pin ep' es=>
     by_cases c:ep=ep'∧n=es.length
     · rw[Dc H sz x _ ((es.drop lo).take (hi-lo)) (by simp[elems,eI,h,c])]
       simp only[cpE,if_pos c]
     · simp[xY,elems,eI,h,cpE,c]
@[go_sem] theorem abN (id ep n : Nat) (ys : List D) : cpD H sz (.ref id ep n) ys = if cy sz ys = true then LQ H sz id ep n 0 n ys H[id]? else none := (rfl)
@[go_sem] theorem abO (id ep n lo hi : Nat) (ys : List D) : cpD H sz (.sub id ep n lo hi) ys = if cy sz ys = true then LQ H sz id ep n lo hi ys H[id]? else none := (rfl)
@[go_sem] theorem Y4 (id n lo hi : Nat) (ys : List D) (ep : Nat) (es : List D) : LQ H sz id ep n lo hi ys (some (.arr sz false ep es)) =
 if n=es.length then(if min ys.length (hi-lo)=0 then some (.t (.int .i64 0),H)else some (.t (.int .i64 ((min ys.length (hi-lo):Nat):Int)),H.set id (.arr sz false ep (es.take lo++ys.take (min ys.length (hi-lo))++es.drop (lo+min ys.length (hi-lo))))))else none:=by
 simp[LQ,Mu]
end
theorem JU{n:Int}(h1:0≤n)(h2:n<18446744073709551616):IntKind.u64.wrap n=n:=by
 have e:IntKind.u64.wrap n=n % 18446744073709551616:=by simp[IntKind.wrap,IntKind.signed,IntKind.bits]
 rw[e];omega
theorem VT{n:Nat}(h:n<4294967296):IntKind.u64.wrap ((BitVec.ofInt IntKind.u64.bits (n:Int) &&& BitVec.ofInt IntKind.u64.bits 4294967295).toNat:Nat)=(n:Int):=by
 have e:(BitVec.ofInt IntKind.u64.bits (n:Int) &&& BitVec.ofInt IntKind.u64.bits 4294967295).toNat=n:=by
  rw[BitVec.toNat_and]
  have a:(BitVec.ofInt IntKind.u64.bits (n:Int)).toNat=n:=by
   rw[BitVec.ofInt_natCast,BitVec.toNat_ofNat]
   exact Nat.mod_eq_of_lt (Nat.lt_of_lt_of_le h (by decide))
  have b:(BitVec.ofInt IntKind.u64.bits 4294967295).toNat=2 ^ 32-1:=by decide
  rw[a,b,Nat.and_two_pow_sub_one_eq_mod]
  exact Nat.mod_eq_of_lt h
 rw[e]
 exact JU (by omega) (by omega)
theorem VU{n:Nat}(h:n<4294967296):(n:Int).fdiv (2 ^ min (32:Int).toNat IntKind.u64.bits)=0:=by
 have e:(2 ^ min (32:Int).toNat IntKind.u64.bits:Int)=4294967296:=by decide
 rw[e,Int.fdiv_eq_ediv_of_nonneg _ (by omega)]
 omega
theorem LR{n:Nat}(h:n<4294967296):(((BitVec.ofInt IntKind.u64.bits (n:Int) &&& BitVec.ofInt IntKind.u64.bits 4294967295).toNat:Nat):Int)=(n:Int):=by
 have e:=VT h
 rwa [JU (by omega) (by
  have:(BitVec.ofInt IntKind.u64.bits (n:Int) &&& BitVec.ofInt IntKind.u64.bits 4294967295).toNat<2 ^ IntKind.u64.bits:=BitVec.isLt _
  have:2 ^ IntKind.u64.bits=18446744073709551616:=by decide
  omega)]at e
theorem JV(a b:Nat)(ha:a<4294967296)(hb:b<4294967296)(h:a*b<4294967296):bh 0 N.cI [.t (.int .u64 a),.t (.int .u64 b)] []=some (.tup [.t (.int .u64 0),.t (.int .u64 ((a*b:Nat):Int))],[]):=by
 refine aE K.jK rfl ?_
 have m:(a:Int)*(b:Int)=((a*b:Nat):Int):=(Int.natCast_mul a b).symm
 have z:=VT (n:=0) (by omega)
 have z2:=VU (n:=0) (by omega)
 have z3:=LR (n:=0) (by omega)
 have g3:=fun(n:Nat) (h:n<4294967296)=>LR (n:=n) h
 have g4:=fun(n:Nat) (h:n<4294967296)=>VU (n:=n) h
 simp only[Int.ofNat_zero,Int.natCast_zero]at z z2 z3
 simp only[go_sem]at z2 z3 g3 g4
 simp(disch:=omega)only[go_sem,K.cI,↓reduceIte,g3,g4,m,z2,z3,JU,Int.zero_mul,Int.mul_zero,Int.add_zero,Int.zero_add,reduceAdd,reduceSub]
theorem VV(a b:Nat)(ha:a<4294967296)(hb:b<4294967296)(h:a*b<4294967296):bh 0 N.dk [.t (.int .u64 a),.t (.int .u64 b)] []=some (.tup [.t (.int .u64 0),.t (.int .u64 ((a*b:Nat):Int))],[]):=by
 refine aE K.kQ rfl ?_
 have m:=JV a b ha hb h
 simp(disch:=omega)only[go_sem,K.dk,↓reduceIte,m,reduceAdd,reduceSub]
def ux(v:Int)(n cur:Nat):List D:=List.replicate cur (I v)++List.replicate (n-cur) (I 0)
theorem Dd(v:Int){n cur:Nat}(h:cur≤n):(ux v n cur).length=n:=by simp[ux];omega
theorem GX(v:Int){n cur m:Nat}(h:cur+m≤n)(hm:m≤cur):(ux v n cur).take cur++((ux v n cur).take cur).take m++(ux v n cur).drop (cur+m)=ux v n (cur+m):=by
 unfold ux
 have e1:(List.replicate cur (I v)++List.replicate (n-cur) (I 0)).take cur=List.replicate cur (I v):=by
  rw[List.take_append_of_le_length (by simp),List.take_of_length_le (by simp)]
 have e2:(List.replicate cur (I v)++List.replicate (n-cur) (I 0)).drop (cur+m)=List.replicate (n-(cur+m)) (I 0):=by
  rw[List.drop_append,List.length_replicate]
  simp;omega
 rw[e1,e2,List.take_replicate,Nat.min_eq_left hm,List.replicate_append_replicate]
theorem VW(v:Int)(n cur:Nat):∃ts:List T,ux v n cur=ts.map .t:=⟨List.replicate cur (tI v)++List.replicate (n-cur) (tI 0),by simp[ux]⟩
theorem Ai(v:Int)(n cur:Nat)(lo k:Nat):cy 1 (((ux v n cur).drop lo).take k)=true:=by
 cases h:((ux v n cur).drop lo).take k with
 | nil=>rfl
 | cons d r=>
   have hm:d∈ux v n cur:=List.mem_of_mem_drop (List.mem_of_mem_take (h▸List.mem_cons_self))
   unfold ux at hm
   simp only[List.mem_append,List.mem_replicate]at hm
   rcases hm with⟨-,rfl⟩ | ⟨-,rfl⟩<;>rfl
theorem BT(v:Int)(n:Nat)(hn:n≤1000000):∀(k cur:Nat),n-cur≤k→1≤cur→cur≤n→
 kz true [0,1,2,3,4] (exS bh K.cJ) ⟨[.und,.und,.und,.und,.und,.ref 0 0 n,I cur],[.arr 1 false 0 (ux v n cur)]⟩=
  some (.exit 0,⟨[.und,.und,.und,.und,.und,.ref 0 0 n,I n],[.arr 1 false 0 (ux v n n)]⟩):=by
 intro k
 induction k with
 | zero=>
   intro cur h1 h2 h3
   have:cur=n:=by omega
   subst this
   refine cG ?_ (by simp)
   have rl:=Dd v (aLs cur)
   simp(disch:=omega)only[go_sem,K.cJ,↓reduceIte,reduceAdd,reduceSub]
 | succ k ih=>
   intro cur h1 h2 h3
   by_cases c:cur=n
   · subst c
     refine cG ?_ (by simp)
     simp(disch:=omega)only[go_sem,K.cJ,↓reduceIte,reduceAdd,reduceSub]
   · have rl:=Dd v (n:=n) (cur:=cur) (by omega)
     have st:=GX v (n:=n) (cur:=cur) (m:=min cur (n-cur)) (by omega) (by omega)
     have hs:=Ai v n cur 0 cur
     rw[List.drop_zero]at hs
     have tl:((ux v n cur).take cur).length=cur:=by rw[List.length_take];omega
     refine fL (st2:=⟨[.und,.und,.und,.und,.und,.ref 0 0 n,I ((cur+min cur (n-cur):Nat):Int)],[.arr 1 false 0 (ux v n (cur+min cur (n-cur)))]⟩) ?_ (ih _ (by omega) (by omega) (by omega))
     rw[← st]
     obtain⟨ts,hts⟩:=VW v n cur
     have ao:∀a b c:Nat,ec 1 8 ((ux v n cur).take a)=true∧ec 1 8 (((ux v n cur).take a).take b)=true∧ec 1 8 ((ux v n cur).drop c)=true:=fun a b c=>by
      rw[hts,←List.map_take,←List.map_take,←List.map_drop]
      simp only[go_sem,and_self]
     have ao1:=fun a=>(ao a 0 0).1
     have ao2:=fun a b=>(ao a b 0).2.1
     have ao3:=fun c=>(ao 0 0 c).2.2
     clear ao hts
     generalize ux v n cur=es at*
     simp(disch:=omega)only[go_sem,K.cJ,↓reduceIte,rl,hs,tl,ao1,ao2,ao3,and_self,List.drop_zero,Nat.sub_zero,reduceAdd,reduceSub]
theorem GY(v:Int)(n:Nat)(h1:1≤n)(hn:n≤1000000):bh 1 N.bC [.t (tL [v]),I n] []=some (.ref 0 0 n,[.arr 1 false 0 (List.replicate n (I v))]):=by
 refine aE K.fU rfl ?_
 have m:=VV 1 n (by omega) (by omega) (by omega)
 rw[Nat.one_mul]at m
 change bh 0 N.dk [.t (.int .u64 1),.t (.int .u64 n)] []=_ at m
 have w1:IntKind.u64.wrap 1=1:=by decide
 have w2:IntKind.u64.wrap (n:Int)=n:=JU (by omega) (by omega)
 have w3:IntKind.i64.wrap (n:Int)=n:=qf (by omega) (by omega)
 have lp:=BT v n hn n 1 (by omega) (by omega) h1
 have loop:∀z0 z1 z2 z3 z4:D,exS bh K.iV ⟨[z0,z1,z2,z3,z4,.ref 0 0 n,I 1],[.arr 1 false 0 (I v::List.replicate (n-1) (I 0))]⟩=some (.exit 0,⟨[.und,.und,.und,.und,.und,.ref 0 0 n,I n],[.arr 1 false 0 (List.replicate n (I v))]⟩):=by
  intro z0 z1 z2 z3 z4
  have e1:ux v n 1=I v::List.replicate (n-1) (I 0):=rfl
  have e2:ux v n n=List.replicate n (I v):=by simp[ux]
  rw[e1,e2]at lp
  exact lp
 have dr:(List.replicate n (D.t (.int .i64 0))).drop 1=List.replicate (n-1) (I 0):=List.drop_replicate ..
 have mn:min 1 n=1:=by omega
 have ar:∀H:ah,ou H 8 (List.replicate n (I v))=[]:=fun H=>by
  have e:List.replicate n (I v)=(List.replicate n (tI v)).map D.t:=by simp
  rw[e]
  unfold ou
  exact CQ ..
 simp(disch:=omega)only[go_sem,K.bC,↓reduceIte,tL,List.map_cons,List.map_nil,m,w1,w2,w3,loop,dr,mn,ar,List.length_replicate,Nat.sub_zero,List.take_zero,List.nil_append,List.take_succ_cons,Nat.zero_add,reduceAdd,reduceSub]
end Go.Ev
namespace Go.Ev
open Go
variable [Lib] [cu] [b0]
structure Spn where
 low:Int
 high:Int
instance : Dat Spn := ⟨⟨0, 0⟩⟩
abbrev Spn.e(f:Spn):T:= .agg [tI f.low,tI f.high]
def Spn.ok(f:Spn):Prop:= -1125899906842624≤f.low∧f.high≤1125899906842624∧f.low≤f.high
instance (f : Spn) : Decidable f.ok := by unfold Spn.ok; infer_instance
def GZ(m:bu)(l:List Spn):Bool:=(List.range l.length).all (fun j=>decide (nth l j).ok)&&decide (l.length=m.roads.length)
def sG(x:Road)(f:Spn)(back:Bool):Int:=
 if x.closed=true then -1 else
 let g:=if back then -f.low else f.high
 let out:=if 0<g then(x.len*x.area*1000).tdiv g else -1
 if(if back then f.low<500*x.area else -500*x.area<f.high)∧(out<0∨x.len<out)then x.len else out
def VX(l:List Int)(p q:Nat)(t:Int):Bool:=decide (0≤t∧nth l p+t<nth l q)
def abP(l:List Int)(p q:Nat)(t:Int):List Int:=if VX l p q t=true then l.set q (nth l p+t)else l
def LS(m:bu)(fl:List Spn)(k:Nat)(back:Bool)(l:List Int):List Int×Bool:=
 (abP l ((nth m.roads k).src back).toNat ((nth m.roads k).dst back).toNat (sG (nth m.roads k) (nth fl k) back),VX l ((nth m.roads k).src back).toNat ((nth m.roads k).dst back).toNat (sG (nth m.roads k) (nth fl k) back))
def VY(m:bu)(fl:List Spn)(k:Nat)(s:List Int×Bool):List Int×Bool:=
 let a:=LS m fl k false s.1
 let b:=LS m fl k true a.1
 (b.1,s.2||a.2||b.2)
def G0(m:bu)(fl:List Spn)(l:List Int):Nat→List Int×Bool
 | 0=>(l,false)
 | k+1=>VY m fl k (G0 m fl l k)
def Pb(m:bu)(fl:List Spn)(l:List Int):List Int×Bool:=G0 m fl l m.roads.length
section
variable {m : bu} (h : m.ok) {fl : List Spn}
include h
end
def Y5(l:List Int):Nat→List Int
 | 0=>l
 | j+1=>if 2147483648<nth (Y5 l j) j then(Y5 l j).set j 1099511627776 else Y5 l j
def LU(m:bu)(fl:List Spn)(l:List Int):List Int:=Y5 (gW (Pb m fl) (ur l+1) l) m.aa.length
end Go.Ev
namespace Go.Ev
open Go
variable [Lib] [cu] [b0]
def plS(t x:Int):Prop:=x=1099511627776∨(t≤x∧x≤2147483648)
instance (t x : Int) : Decidable (plS t x) := by unfold plS; infer_instance
def G1(m:bu)(s:Wh):Bool:=(List.range s.frm.length).all (fun j=>decide (plS s.time (nth s.frm j)))&&decide (s.frm.length=m.aa.length∧inT s.time)
def Pc(l:List Int)(t:Int)(n:Nat):List Int:=(List.range n).map fun(p:Nat)=>if(p:Int)∈l then t else 1099511627776
@[simp] theorem VZ (l : List Int) (t : Int) (n : Nat) : (Pc l t n).length = n := by simp [Pc]
def V0(m:bu)(fl:List Spn)(l:List Int)(t:Int):Wh×Int:=
 if GZ m fl=false then(⟨0,[]⟩,6)else if Aa l m.aa.length=false then(⟨0,[]⟩,3)else if ¬inT t then(⟨0,[]⟩,8)else
 (⟨t,LU m fl (Pc l t m.aa.length)⟩,0)
def LV(m:bu)(fl:List Spn)(frm:List Int)(t:Int)(k:Nat)(back:Bool)(l:List Int):List Int:=
 if nth frm ((nth m.roads k).src back).toNat≤t∧0≤sG (nth m.roads k) (nth fl k) back then l.set ((nth m.roads k).dst back).toNat (min (nth l ((nth m.roads k).dst back).toNat) t)else l
def V1(m:bu)(fl:List Spn)(frm:List Int)(t:Int)(k:Nat)(l:List Int):List Int:=LV m fl frm t k true (LV m fl frm t k false l)
def chN(m:bu)(fl:List Spn)(frm:List Int)(t:Int):Nat→List Int
 | 0=>frm
 | k+1=>V1 m fl frm t k (chN m fl frm t k)
def abQ(t:Int)(l:List Int):Nat→List Int
 | 0=>l
 | k+1=>(abQ t l k).set k (max (nth (abQ t l k) k) t)
def Pd(m:bu)(old:List Spn)(next:bu)(fl:List Spn)(s:Wh)(t:Int):Wh×Int:=
 if G1 m s=false∨GZ m old=false∨GZ next fl=false∨next.aa.length≠m.aa.length then(s,6)else
 if t<s.time∨2147483648<t then(s,8)else(⟨t,LU next fl (abQ t (chN m old s.frm t m.roads.length) m.aa.length)⟩,0)
end Go.Ev
namespace Go.Ev
open Go
variable [Lib] [cu] [b0] [fG] [fH]
theorem Aj(a b lo hi:Int)(h1:lo≤a)(h2:a≤b)(h3:b≤hi):bh 0 N.eF [.t (.agg [tI a,tI b]),I lo,I hi] []=some (B true,[]):=by
 refine aE K.nM rfl ?_
 simp(disch:=omega)only[go_sem,K.eF,↓reduceIte,reduceAdd,reduceSub]
theorem Ak{m:bu}(h:m.ok):bh 0 N.gu [.t m.e] []=some (I 0,[]):=by
 refine aE K.oU rfl ?_
 have np:=h.np
 have nr:=h.nr
 have hs:=h.hs
 have rs:=h.rs
 obtain⟨aa,roads⟩:=m
 simp only at np nr hs rs
 have l1:∀z0 z2 z3 z4 z5 z9 z10 z11:D,exS bh K.rz ⟨[z0,.bp 0 0,z2,z3,z4,z5,.t (.sl (aa.map Place.e)),I aa.length,I 0,z9,z10,z11],[.box (af ⟨aa,roads⟩)]⟩=
  some (.exit 0,⟨[.und,.bp 0 0,.und,.und,.und,.und,.t (.sl (aa.map Place.e)),I aa.length,I aa.length,.und,.und,.und],[.box (af ⟨aa,roads⟩)]⟩):=by
  intro z0 z2 z3 z4 z5 z9 z10 z11
  refine fP (fun j=>⟨[.und,.bp 0 0,.und,.und,.und,.und,.t (.sl (aa.map Place.e)),I aa.length,I j,.und,.und,.und],[.box (af ⟨aa,roads⟩)]⟩) aa.length rfl ?_ ?_ (by simp)
  · intro j hj
    have g:(aa.map Place.e)[j]?=some (nth aa j).e:=fB _ hj
    have q:=hs _ (aq hj)
    generalize nth aa j=x at*
    obtain⟨hh,sf⟩:=x
    simp only[af]at*
    simp(disch:=omega)only[go_sem,K.lY,↓reduceIte,g,reduceAdd,reduceSub]
  · simp(disch:=omega)only[go_sem,K.lY,↓reduceIte,af,reduceAdd,reduceSub]
 have l2:∀z0 z1 z2 z3 z5 z6 z7 z8:D,exS bh K.rA ⟨[z0,z1,z2,z3,I aa.length,z5,z6,z7,z8,.t (.sl (roads.map Road.e)),I roads.length,I 0],[.box (af ⟨aa,roads⟩)]⟩=
  some (.exit 2,⟨[.und,.und,.und,.und,I aa.length,.und,.und,.und,.und,.t (.sl (roads.map Road.e)),I roads.length,I roads.length],[.box (af ⟨aa,roads⟩)]⟩):=by
  intro z0 z1 z2 z3 z5 z6 z7 z8
  refine fP (fun j=>⟨[.und,.und,.und,.und,I aa.length,.und,.und,.und,.und,.t (.sl (roads.map Road.e)),I roads.length,I j],[.box (af ⟨aa,roads⟩)]⟩) roads.length rfl ?_ ?_ (by simp)
  · intro j hj
    have g:(roads.map Road.e)[j]?=some (nth roads j).e:=fB _ hj
    have q:=rs _ (aq hj)
    generalize nth roads j=x at*
    have f0:=q.f0;have f1:=q.f1;have t0:=q.t0;have t1:=q.t1;have ne:=q.ne;have l0:=q.l0;have l1:=q.l1;have a0:=q.a0;have a1:=q.a1
    have r0:=q.r0;have r1:=q.r1;have r2:=q.r2;have i0:=q.i0;have i1:=q.i1;have i2:=q.i2
    clear q
    obtain⟨frm,to,len,area,walk,closed,rl,rh,ll,lh⟩:=x
    simp only[af]at*
    have s1:=Aj rl rh 1 262144 r0 r1 r2
    have s2:=Aj ll lh (-2199023255552) 2199023255552 i0 i1 i2
    simp(disch:=omega)only[go_sem,K.lZ,↓reduceIte,g,s1,s2,reduceAdd,reduceSub]
  · simp(disch:=omega)only[go_sem,K.lZ,↓reduceIte,af,reduceAdd,reduceSub]
 simp only[af]at l1 l2
 simp(disch:=omega)only[go_sem,K.gu,↓reduceIte,l1,l2,reduceAdd,reduceSub]
theorem j5{m:bu}(h:m.ok):bh 0 N.dG [.t m.e] []=some (B true,[]):=by
 refine aE K.oT rfl ?_
 have c:=Ak h
 obtain⟨aa,roads⟩:=m
 simp(disch:=omega)only[go_sem,K.dG,↓reduceIte,c,reduceAdd,reduceSub]
end Go.Ev
namespace Go.Ev.N
def Ej:Nat:=178
def Ek:Nat:=179
def Ff:Nat:=180
def El:Nat:=181
def Fg:Nat:=182
def G2:Nat:=183
def Fh:Nat:=184
def Pe:Nat:=185
def c8:Nat:=186
def Pf:Nat:=187
def G3:Nat:=188
def eG:Nat:=189
def dz:Nat:=190
def LW:Nat:=191
def eu:Nat:=192
def JW:Nat:=193
def LX:Nat:=194
def Pg:Nat:=195
def Sz:Nat:=196
def V2:Nat:=197
def cK:Nat:=198
def bO:Nat:=199
def dt:Nat:=200
def cO:Nat:=201
def aX:Nat:=202
def bX:Nat:=203
def aB:Nat:=204
def bU:Nat:=205
def Ph:Nat:=206
def dA:Nat:=207
def cL:Nat:=208
def bc:Nat:=209
def bK:Nat:=210
def ik:Nat:=211
def im:Nat:=212
def dM:Nat:=213
def gv:Nat:=214
end Go.Ev.N
namespace Go.Ev.K
open Go.Ev
def c8:Fn:= { bq:=3,vars:=[0,1,2,3,6,7,8],body:=(q [w 3 (.bx v0 2),w 4 (.al [z0,.nil] []),x 5 (.i 0)] [] (.seq (.blk 0 (.ite [h 2 v3,u (.ca N.dG 0 [] [.l 0]),u (.un .not l0),m l0] [] 0 (q [u (.bd [z0,.nil] []),u (.st v4 l0 2 []),x 5 (.i 6)] [] .ret) (.ite [m v1,f 0 v3,g l0,u (.ln l0),u (.bin .sub l0 (.i 1)),u (.ca N.cA 0 [] [.l 4,.i 0,.l 0]),u (.un .not l0),m l0] [] 0 (q [u (.bd [z0,.nil] []),u (.st v4 l0 2 []),x 5 (.i 3)] [] .ret) (.ite [m v2,u (.ca N.cA 0 [] [.l 0,.i 0,.i 2147483648]),u (.un .not l0),m l0] [] 0 (q [u (.bd [z0,.nil] []),u (.st v4 l0 2 []),x 5 (.i 8)] [] .ret) .skip)))) (q [h 2 v3,u (.ca N.cK 1 [] [.l 0]),x 6 l0] [] (q [m v6,m v1,m v2,a 1 l2 l1,u (.st l0 l1 1 [])] [] (q [m v2,h 2 v3,m v6,m v2,u (.ca N.bO 0 [] [.l 2,.l 1,.l 0,.c (.fn N.dt [])]),u (.bd [z0,.nil] [(0,1,.l 4),(1,1,.l 0)]),u (.st v4 l0 2 []),x 5 (.i 0)] [] .ret))))),res:=[(4,some (2,true)),(5,none)]}
def kR:C:= (.its [u (.bin .lss v11 v10)] [] 0 .skip (.exit 0) (.seq (.blk 1 (q [m v11,a 1 v9 v11,g l0,x 7 l2,x 8 l1] [] (.reg [f 1 v6,g l0,m v8,f 1 v3,g l0,m v7,a 1 l1 l0,g l0,u (.mn [.l 5,.l 0]),u (.bs [.l 0] 1),u (.app l8 l0 true 1),f 1 v6,u (.st l0 l1 1 [])] [(1,10)]))) (.reg [u (.bin .add v11 (.i 1)),x 11 l0] [])))
def pV:C:= .loop true [0,1,2,5,7,8] K.kR
def eG:Fn:= { bq:=2,vars:=[0,1,2,3,4,5,6,7,8,24,25,26],body:=(q [w 2 (.bx v0 2),w 3 (.bx v1 2),w 4 (.al [z0,.nil] []),x 5 (.i 0)] [] (.seq (.ite [f 1 v2,g l0,u (.ln l0),f 1 v3,g l0,u (.ln l0),u (.bin .neq l3 l0)] [] 0 (q [u (.bd [z0,.nil] []),u (.st v4 l0 2 []),x 5 (.i 6)] [] .ret) .skip) (q [f 0 v2,g l0,f 0 v3,g l0,u (.mx [.l 2,.l 0]),u (.bd [z0,.nil] [(0,1,.l 0)]),w 6 (.al [z0,.nil] [(1,1)]),u (.st l0 l1 2 [(1,1)])] [] (.seq (q [f 1 v2,w 9 (.ld l0 1 false),w 10 (.ln l0),x 11 (.i 0)] [] (.blk 0 K.pV)) (q [h 2 v6,u (.st v4 l0 2 []),x 5 (.i 0)] [] .ret))))),res:=[(4,some (2,true)),(5,none)]}
def dz:Fn:= { bq:=2,vars:=[0,1,2,3,4],body:=(q [w 2 (.bx v0 2),w 3 (.bx v1 2),x 4 (.b false)] [] (q [h 2 v2,u (.ca N.dG 0 [] [.l 0]),m l0,y 0 true (.ld v2 2 true),y 1 true (.ld v3 2 true),y 2 true (.ca N.cO 0 [] [.l 1,.l 0]),u (.pk l3 l0 (.b false)),m l0,y 0 true (.ld v2 2 true),y 1 true (.fa v3 1),i 2 true l0,y 3 true (.fa v3 0),i 4 true l0,y 5 true (.ca N.bO 0 [] [.l 4,.l 2,.l 0,.c (.fn N.dt [])]),y 6 true (.fa v3 1),i 7 true l0,y 8 true (.ca N.aX 0 [] [.l 2,.l 0]),u (.pk l9 l0 (.b false)),x 4 l0] [(15,6)] .ret)),res:=[(4,none)]}
def jU:C:= (.its [u (.bin .lss v15 v14)] [] 0 .skip (.exit 0) (.seq (.blk 1 (q [a 1 v13 v15,g l0,x 12 l0] [] (.ite [f 1 v6,g l0,m v12,a 1 l1 l0,g l0,m v4,u (.bin .leq l1 l0)] [] 0 (.reg [m v10,m v12,f 1 v6,g l0,m v12,a 1 l1 l0,g l0,a 1 l6 l5,u (.st l0 l1 1 []),x 11 (.b true)] []) .skip))) (.reg [u (.bin .add v15 (.i 1)),x 15 l0] [])))
def rB:C:= .loop true [0,1,2,8,9,12] K.jU
def eu:Fn:= { bq:=5,vars:=[0,1,2,3,4,5,6,10,11,12,13,14,16,34,35,36],body:=(q [w 5 (.bx v0 2),w 6 (.bx v1 2),w 7 (.al [z0,.nil] []),x 8 (.i 0)] [] (.seq (q [h 2 v5,h 2 v6,m v2,m v3,m v4,u (.ca N.bX 0 [] [.l 4,.l 3,.l 2,.l 1,.l 0]),x 9 l0] [] (.ite [m v9,u (.bin .neq l0 (.i 0))] [] 0 (q [h 2 v6,m v9,u (.st v7 l1 2 []),x 8 l1] [] .ret) .skip)) (.seq (.ite [m v3,f 0 v6,g l0,u (.bin .lss l2 l0)] [] 0 (q [h 2 v6,u (.st v7 l0 2 []),x 8 (.i 42)] [] .ret) .skip) (q [h 2 v5,u (.ca N.cK 1 [] [.l 0]),x 10 l0,x 11 (.b false)] [] (.seq (q [x 13 v2,w 14 (.ln l0),x 15 (.i 0)] [] (.blk 0 K.rB)) (.seq (.ite [m v11,u (.un .not l0)] [] 0 (q [h 2 v6,u (.st v7 l0 2 []),x 8 (.i 43)] [] .ret) .skip) (q [m v4,h 2 v5,m v10,m v3,u (.ca N.bO 0 [] [.l 2,.l 1,.l 0,.c (.fn N.dt [])]),u (.bd [z0,.nil] [(0,1,.l 4),(1,1,.l 0)]),u (.st v7 l0 2 []),x 8 (.i 0)] [] .ret))))))),res:=[(7,some (2,true)),(8,none)]}
end Go.Ev.K
namespace Go.Ev
class gX [Lib]:Prop where
 ma:Lib.fs N.c8=some K.c8
 nN:Lib.fs N.eG=some K.eG
 mb:Lib.fs N.dz=some K.dz
 oV:Lib.fs N.eu=some K.eu
namespace K
variable [Lib] [gX]
theorem ma:Lib.fs N.c8=some K.c8:=gX.ma
theorem nN:Lib.fs N.eG=some K.eG:=gX.nN
theorem mb:Lib.fs N.dz=some K.dz:=gX.mb
theorem oV:Lib.fs N.eu=some K.eu:=gX.oV
end K
end Go.Ev
namespace Go.Ev.K
open Go.Ev
def cK:Fn:= { bq:=1,vars:=[0,1,2],body:=(q [w 1 (.bx v0 2),w 2 (.mv (.c (.nil)))] [] (q [u (.bs [.i 1099511627776] 1),f 0 v1,g l0,u (.ln l0),u (.ca N.bC 1 [] [.l 3,.l 0]),x 2 l0] [] .ret)),res:=[(2,none)]}
def cF:C:= (.seq (.ite [g v9] [] 0 .skip (.exit 0)) (.seq (.blk 1 (q [u (.st v9 (.b false) 1 [])] [] (.reg [h 2 v4,g v8,u (.mf N.bc [.v 5,.v 8,.v 6,.v 9]),u (.ca N.cL 0 [1] [.l 2,.l 1,.l 0])] []))) (q [w 10 (.ld v9 1 false)] [] (.reg [w 9 (.al [z1] []),u (.st l0 v10 1 [])] []))))
def jL:C:= .loop false [0,1,2,3,7,10] K.cF
def bO:Fn:= { bq:=4,vars:=[0,1,2,3,4,6,7,8,9,10,18],body:=(q [w 4 (.bx v0 2),w 5 (.bx v2 1),w 6 (.bx v3 1),w 7 (.mv (.c (.nil)))] [] (q [m v1,u (.ca N.aB 1 [] [.l 0]),w 8 (.al [.nil] []),u (.st l0 l1 1 [])] [] (.seq (q [w 9 (.al [z1] []),u (.st l0 (.b true) 1 [])] [] (.blk 0 K.jL)) (q [g v8,x 7 l0] [] .ret)))),res:=[(7,none)]}
def dt:Fn:= { bq:=1,vars:=[2],body:=(q [x 0 (.b false)] [] (q [x 0 (.b true)] [] .ret)),res:=[(0,none)]}
def cO:Fn:= { bq:=2,vars:=[0,1,2,3,4],body:=(q [w 2 (.bx v0 2),w 3 (.bx v1 2),x 4 (.b false)] [] (q [f 1 v3,g l0,u (.ln l0),f 0 v2,g l0,u (.ln l0),u (.bin .eql l3 l0),m l0,y 0 true (.fa v3 0),i 1 true l0,y 2 true (.ca N.cA 0 [] [.l 0,.i 0,.i 2147483648]),u (.pk l3 l0 (.b false)),m l0,y 0 true (.fa v3 1),i 1 true l0,y 2 true (.ca N.aD 0 [] [.l 0,.c (.fn N.bK [])]),y 3 true (.un .not l0),u (.pk l4 l0 (.b false)),x 4 l0] [] .ret)),res:=[(4,none)]}
def dU:C:= (.its [u (.bin .lss v5 v4)] [] 0 .skip (.exit 0) (.seq (.blk 1 (q [m v5,x 3 l0] [] (.ite [m v0,m v3,a 1 l1 l0,g l0,m v1,m v3,a 1 l1 l0,g l0,u (.bin .neq l4 l0)] [] 0 (q [x 2 (.b false)] [] .ret) .skip))) (.reg [u (.bin .add v5 (.i 1)),x 5 l0] [])))
def jj:C:= .loop true [2,3] K.dU
def aX:Fn:= { bq:=2,vars:=[0,1,4,5,12,13],body:=(q [x 2 (.b false)] [] (.seq (.ite [m v0,u (.ln l0),m v1,u (.ln l0),u (.bin .neq l2 l0)] [] 0 (q [x 2 (.b false)] [] .ret) .skip) (.seq (q [m v0,w 4 (.ln l0),x 5 (.i 0)] [] (.blk 0 K.jj)) (q [x 2 (.b true)] [] .ret)))),res:=[(2,none)]}
def bX:Fn:= { bq:=5,vars:=[0,1,2,3,4,5,6,10],body:=(q [w 5 (.bx v0 2),w 6 (.bx v1 2),x 7 (.i 0)] [] (.seq (.blk 0 (.ite [h 2 v5,h 2 v6,u (.ca N.dz 0 [] [.l 1,.l 0]),u (.un .not l0),m l0,e 0 false v2,y 1 false (.ln l0),y 2 false (.bin .eql l0 (.i 0)),u (.pk l3 (.b true) l0),m l0,e 0 false v2,y 1 false (.fa v5 0),i 2 false l0,y 3 false (.ln l0),y 4 false (.bin .sub l0 (.i 1)),y 5 false (.ca N.dy 0 [] [.l 4,.i 0,.l 0]),y 6 false (.un .not l0),u (.pk l7 (.b true) l0),m l0] [] 0 (q [x 7 (.i 6)] [] .ret) (.ite [m v3,u (.ca N.cA 0 [] [.l 0,.i 0,.i 2147483648]),u (.un .not l0),m l0,e 0 false v4,y 1 false (.ca N.cA 0 [] [.l 0,.i 0,.i 2147483648]),y 2 false (.un .not l0),u (.pk l3 (.b true) l0),m l0,e 0 false v3,e 1 false v4,y 2 false (.bin .gtr l1 l0),u (.pk l3 (.b true) l0),m l0] [] 0 (q [x 7 (.i 8)] [] .ret) .skip))) (q [x 7 (.i 0)] [] .ret))),res:=[(7,none)]}
def aB:Fn:= { bq:=1,vars:=[0,2],body:=(q [w 1 (.mv (.c (.nil)))] [] (.itk [m v0,u (.eqk (.sl) false l0 (.c (.nil)))] [] 0 (q [w 1 (.nw 1)] [] .ret) .skip (q [u (.bsr [] 1),m v0,u (.app l1 l0 false 1),x 1 l0] [] .ret))),res:=[(1,none)]}
def bU:Fn:= { bq:=2,vars:=[0,1,3],body:=(q [x 2 (.b false)] [] (q [g v1,m v0,u (.ca N.aV 0 [] [.l 1,.l 0]),x 2 l0] [] .ret)),res:=[(2,none)]}
def dA:Fn:= { bq:=2,vars:=[0,1,2,4,5],body:=(q [w 2 (.bx v0 2),w 3 (.al [z0,.nil] []),x 4 (.i 0)] [] (.seq (.ite [m v1,f 0 v2,g l0,u (.bin .lss l2 l0),m l0,e 0 false v1,y 1 false (.bin .gtr l0 (.i 2147483648)),u (.pk l2 (.b true) l0)] [] 0 (q [h 2 v2,u (.st v3 l0 2 []),x 4 (.i 8)] [] .ret) .skip) (q [m v1,f 1 v2,g l0,u (.ca N.aB 0 [] [.l 0]),u (.bd [z0,.nil] [(0,1,.l 3),(1,1,.l 0)]),u (.st v3 l0 2 []),x 4 (.i 0)] [] .ret))),res:=[(3,some (2,true)),(4,none)]}
def dH:C:= (.its [u (.bin .lss v14 (.i 2))] [] 0 .skip (.exit 2) (.seq (.blk 3 (q [u (.ix v13 v14 2 1 false),x 6 l0] [] (q [f 0 v5,g l0,f 1 v5,g l0,x 7 l2,x 8 l1] [] (.seq (.ite [m v6] [] 0 (.reg [m v8,m v7,x 7 l1,x 8 l1] []) .skip) (q [h 2 v3,m v4,m v6,u (.ca N.ik 0 [] [.l 2,.l 1,.l 0]),x 9 l0] [] (.ite [m v9,u (.bin .geq l0 (.i 0)),m l0,e 0 true v1,e 1 true v7,y 2 true (.ia l1 l0 1),i 3 true l0,y 4 true (.bin .lss l0 (.i 1099511627776)),u (.pk l5 l0 (.b false))] [] 0 (.reg [m v2,m v7,m v8,m v1,m v7,a 1 l1 l0,g l0,m v9,u (.bin .add l1 l0),u (.cw l8 0 [] [.l 7,.l 6,.l 0])] []) .skip)))))) (.reg [u (.bin .add v14 (.i 1)),x 14 l0] [])))
def lI:C:= .loop true [0,6,7,8,9] K.dH
def fV:C:= (.its [u (.bin .lss v12 v11)] [] 0 .skip (.exit 0) (.seq (.blk 1 (q [m v12,a 10 v10 v12,h 10 l0,w 5 (.al [z0,z0,z0,z0,z1,z1,z0,z0,z0,z0] []),x 4 l3,u (.st l1 l2 10 [])] [] (q [w 13 (.bd [z1,z1] [(0,1,.b false),(1,1,.b true)]),x 14 (.i 0)] [] (.blk 2 K.lI)))) (.reg [u (.bin .add v12 (.i 1)),x 12 l0] [])))
def lJ:C:= .loop true [0,4,5,6,7,8,9,13,14] K.fV
def cL:Fn:= { bq:=3,vars:=[0,1,2,3,6,7,9,10,11,12,14,15,16,21,22],body:=(q [w 3 (.bx v0 2)] [] (q [f 1 v3,w 10 (.ld l0 1 false),w 11 (.ln l0),x 12 (.i 0)] [] (.blk 0 K.lJ))),res:=[]}
def bc:Fn:= { bq:=7,vars:=[1,2,3,4,5,6],body:=(q [m v1,g v2,u (.mx [.l 1,.l 0]),x 1 l0] [] (.ite [m v1,u (.bin .leq l0 (.i 2147483648)),m l0,e 0 true v1,i 1 true v3,e 2 true v0,y 3 true (.ia l1 l0 1),i 4 true l0,y 5 true (.bin .lss l4 l0),u (.pk l6 l0 (.b false)),m l0,i 0 true v4,e 1 true v0,y 2 true (.cw l1 0 [] [.l 0]),u (.pk l3 l0 (.b false))] [] 0 (.reg [g v3,m v0,m v1,a 1 l2 l1,u (.st l0 l1 1 []),u (.st v5 (.b true) 1 [])] []) .skip)),res:=[]}
def bK:Fn:= { bq:=1,vars:=[0,2],body:=(q [x 1 (.b false)] [] (q [m v0,u (.bin .neq l0 (.i 1099511627776)),m l0,e 0 true v0,y 1 true (.ca N.cA 0 [] [.l 0,.i 0,.i 2147483648]),y 2 true (.un .not l0),u (.pk l3 l0 (.b false)),x 1 l0] [] .ret)),res:=[(1,none)]}
def ik:Fn:= { bq:=3,vars:=[0,1,2,3,6],body:=(q [w 3 (.bx v0 2),x 4 (.i 0)] [] (.seq (.ite [h 2 v3,u (.ca N.dG 0 [] [.l 0]),u (.un .not l0),m l0,e 0 false v1,y 1 false (.bin .lss l0 (.i 0)),u (.pk l2 (.b true) l0),m l0,e 0 false v1,y 1 false (.fa v3 1),i 2 false l0,y 3 false (.ln l0),y 4 false (.bin .geq l3 l0),u (.pk l5 (.b true) l0)] [] 0 (q [w 4 (.mv (.i (-1)))] [] .ret) .skip) (q [h 2 v3,m v1,m v2,u (.ca N.im 0 [] [.l 2,.l 1,.l 0]),x 4 l0] [] .ret))),res:=[(4,none)]}
def im:Fn:= { bq:=3,vars:=[0,1,2,3,6],body:=(q [w 3 (.bx v0 2),x 4 (.i 0)] [] (q [h 2 v3,m v1,m v2,u (.ca N.gv 0 [] []),u (.ca N.dM 0 [] [.l 3,.l 2,.l 1,.l 0]),x 4 l0] [(0,4)] .ret)),res:=[(4,none)]}
def dM:Fn:= { bq:=4,vars:=[0,1,2,3,4,7,8,9,10,11],body:=(q [w 4 (.bx v0 2),w 5 (.bx v3 3),x 6 (.i 0)] [] (q [f 1 v4,g l0,m v1,a 10 l1 l0,h 10 l0,w 7 (.al [z0,z0,z0,z0,z1,z1,z0,z0,z0,z0] []),u (.st l0 l1 10 [])] [] (.seq (.ite [f 5 v7,g l0,m l0,y 0 false (.fa v7 4),i 1 false l0,y 2 false (.un .not l0),u (.pk l3 (.b true) l0)] [] 0 (q [w 6 (.mv (.i (-1)))] [] .ret) .skip) (q [f 0 v4,g l0,f 1 v7,g l0,a 2 l2 l0,f 0 l0,g l0,f 0 v4,g l0,f 0 v7,g l0,a 2 l2 l0,f 0 l0,g l0,u (.bin .sub l7 l0),x 8 l0] [] (.seq (.ite [m v2] [] 0 (.reg [m v8,u (.un .neg l0),x 8 l0] []) .skip) (q [f 2 v5,g l0,x 9 l0] [] (.seq (.blk 0 (.ite [m v8,u (.bin .mul (.i 10) l0),f 2 v7,g l0,u (.bin .gtr l2 l0),m l0] [] 0 (.reg [f 0 v5,g l0,x 9 l0] []) (.ite [m v8,u (.bin .mul (.i (-10)) l0),f 2 v7,g l0,u (.bin .gtr l2 l0),m l0] [] 0 (.reg [f 1 v5,g l0,x 9 l0] []) .skip))) (q [f 2 v7,g l0,u (.bin .mul (.i 10) l0),m v9,u (.bin .add l1 l0),u (.bin .sub l0 (.i 1)),m v9,u (.bin .quo l1 l0),x 6 l0] [] .ret)))))))),res:=[(6,none)]}
def gv:Fn:= { bq:=0,vars:=[0],body:=(q [w 0 (.al [z0,z0,z0] [])] [] (q [u (.bd [z0,z0,z0] [(0,1,.i 6),(1,1,.i 9),(2,1,.i 12)]),u (.st v0 l0 3 [])] [] .ret)),res:=[(0,some (3,true))]}
end Go.Ev.K
namespace Go.Ev
class fT [Lib]:Prop where
 km:Lib.fs N.cK=some K.cK
 iE:Lib.fs N.bO=some K.bO
 oW:Lib.fs N.dt=some K.dt
 kS:Lib.fs N.cO=some K.cO
 gy:Lib.fs N.aX=some K.aX
 mc:Lib.fs N.bX=some K.bX
 dE:Lib.fs N.aB=some K.aB
 jM:Lib.fs N.bU=some K.bU
 mh:Lib.fs N.dA=some K.dA
 jN:Lib.fs N.cL=some K.cL
 jk:Lib.fs N.bc=some K.bc
 jO:Lib.fs N.bK=some K.bK
 qs:Lib.fs N.ik=some K.ik
 qt:Lib.fs N.im=some K.im
 qu:Lib.fs N.dM=some K.dM
 oX:Lib.fs N.gv=some K.gv
namespace K
variable [Lib] [fT]
theorem km:Lib.fs N.cK=some K.cK:=fT.km
theorem iE:Lib.fs N.bO=some K.bO:=fT.iE
theorem oW:Lib.fs N.dt=some K.dt:=fT.oW
theorem kS:Lib.fs N.cO=some K.cO:=fT.kS
theorem gy:Lib.fs N.aX=some K.aX:=fT.gy
theorem mc:Lib.fs N.bX=some K.bX:=fT.mc
theorem dE:Lib.fs N.aB=some K.aB:=fT.dE
theorem jM:Lib.fs N.bU=some K.bU:=fT.jM
theorem mh:Lib.fs N.dA=some K.dA:=fT.mh
theorem jN:Lib.fs N.cL=some K.cL:=fT.jN
theorem jk:Lib.fs N.bc=some K.bc:=fT.jk
theorem jO:Lib.fs N.bK=some K.bK:=fT.jO
theorem qs:Lib.fs N.ik=some K.ik:=fT.qs
theorem qt:Lib.fs N.im=some K.im:=fT.qt
theorem qu:Lib.fs N.dM=some K.dM:=fT.qu
theorem oX:Lib.fs N.gv=some K.gv:=fT.oX
end K
end Go.Ev
namespace Go.Ev
open Go
variable [Lib] [cu] [b0] [fG] [fH] [gX] [fT]
abbrev yC(l:List Int):Obj:= .arr 1 false 0 ((l.map (T.int .i64)).map .t)
theorem G4(l:List Int)(hl:l.length≤1000000):bh 0 N.aB [.t (tL l)] []=some (.t (tL l),[]):=by
 refine aE K.dE rfl ?_
 by_cases h0:l=[]
 · subst h0
   simp only[tL,List.map_nil]
   simp(disch:=omega)only[go_sem,K.aB,↓reduceIte,List.map_nil,reduceAdd,reduceSub]
 · have e:=fun H=>uq H (l.map (T.int .i64)) (by simpa using h0)
   simp(disch:=omega)only[go_sem,K.aB,↓reduceIte,e,reduceAdd,reduceSub]
theorem vI(l:List Int)(hl:l.length≤1000000):bh 1 N.aB [.t (tL l)] []=some (.ref 0 0 l.length,[yC l]):=by
 refine aE K.dE rfl ?_
 by_cases h0:l=[]
 · subst h0
   simp only[tL,List.map_nil]
   simp(disch:=omega)only[go_sem,K.aB,↓reduceIte,List.map_nil,List.length_nil,reduceAdd,reduceSub]
   rfl
 · have e:=fun H=>uq H (l.map (T.int .i64)) (by simpa using h0)
   simp(disch:=omega)only[go_sem,K.aB,↓reduceIte,e,reduceAdd,reduceSub]
theorem uy(a b:List Int)(hl:a.length≤4294967296)(hl2:b.length≤4294967296):bh 0 N.aX [.t (tL a),.t (tL b)] []=some (B (decide (a=b)),[]):=by
 refine aE K.gy rfl ?_
 by_cases hlen:a.length=b.length
 · have loop:∀z2 z3:D,exS bh K.jj ⟨[.t (tL a),.t (tL b),z2,z3,I a.length,I 0],[]⟩=
    some (match (List.range a.length).find? (fun j=>decide (nth a j≠nth b j))with
     | some j=>(.ret,⟨[.t (tL a),.t (tL b),B false,I j,I a.length,I j],[]⟩)
     | none=>(.exit 0,⟨[.t (tL a),.t (tL b),.und,.und,I a.length,I a.length],[]⟩)):=by
    intro z2 z3
    refine gR (fun j=>⟨[.t (tL a),.t (tL b),.und,.und,I a.length,I j],[]⟩) a.length (fun j=>decide (nth a j≠nth b j)) _ _ rfl ?_ ?_ ?_ (by simp)
    · intro j hj hp
      have hp:nth a j=nth b j:=by simpa using hp
      simp(disch:=omega)only[go_sem,K.dU,↓reduceIte,reduceAdd,reduceSub]
    · intro j hj hp
      have hp:nth a j≠nth b j:=by simpa using hp
      simp(disch:=omega)only[go_sem,K.dU,↓reduceIte,reduceAdd,reduceSub]
      simp
    · simp(disch:=omega)only[go_sem,K.dU,↓reduceIte,reduceAdd,reduceSub]
   have e:(a=b)↔(List.range a.length).find? (fun j=>decide (nth a j≠nth b j))=none:=by
    rw[List.find?_eq_none]
    constructor
    · intro h j _;simp[h]
    · intro h
      apply List.ext_getElem?
      intro j
      by_cases hj:j<a.length
      · rw[iD hj,iD (by omega)]
        have:=h j (aLu.2 hj)
        simpa using this
      · rw[aLm (by omega),aLm (by omega)]
   cases hf:(List.range a.length).find? (fun j=>decide (nth a j≠nth b j))with
   | some j=>
     rw[hf]at e loop
     have e:¬a=b:=fun h=>by have:=e.1 h;cases this
     simp(disch:=omega)only[go_sem,K.aX,↓reduceIte,loop,e,decide_false,reduceAdd,reduceSub]
   | none=>
     rw[hf]at e loop
     have e:a=b:=e.2 rfl
     simp(disch:=omega)only[go_sem,K.aX,↓reduceIte,loop,decide_eq_true e,reduceAdd,reduceSub]
 · have hne:a≠b:=fun h=>hlen (by rw[h])
   simp(disch:=omega)only[go_sem,K.aX,↓reduceIte,hne,decide_false,reduceAdd,reduceSub]
theorem JX:bh 0 N.gv [] []=some (.t (.agg [tI 6,tI 9,tI 12]),[]):=by
 refine aE K.oX rfl ?_
 simp(disch:=omega)only[go_sem,K.gv,↓reduceIte,reduceAdd,reduceSub]
theorem Pj{m:bu}(h:m.ok)(k:Nat)(hk:k<m.roads.length)(back:Bool)(up down level:Int)(hu:1≤up)(hu2:up≤100)(hd:1≤down)(hd2:down≤100)(hl:1≤level)(hl2:level≤100):
 bh 0 N.dM [.t m.e,I k,B back,.t (.agg [tI up,tI down,tI level])] []=some (I (fF m k back up down level),[]):=by
 refine aE K.qu rfl ?_
 have nr:=h.nr
 have np:=h.np
 obtain⟨f0,f1,t0,t1, -,l0,l1, -, -, -, -, -, -, -, -⟩:=h.rs _ (aq hk)
 have b1:=h.hs _ (aq (l:=m.aa) (j:=(nth m.roads k).frm.toNat) (by omega))
 have b2:=h.hs _ (aq (l:=m.aa) (j:=(nth m.roads k).to.toNat) (by omega))
 have g:(m.roads.map Road.e)[k]?=some (nth m.roads k).e:=fB _ hk
 have p1:(m.aa.map Place.e)[(nth m.roads k).frm.toNat]?=some (nth m.aa (nth m.roads k).frm.toNat).e:=fB _ (by omega)
 have p2:(m.aa.map Place.e)[(nth m.roads k).to.toNat]?=some (nth m.aa (nth m.roads k).to.toNat).e:=fB _ (by omega)
 have key:∀h1 h2:Int, -10000≤h1→h1≤10000→ -10000≤h2→h2≤10000→IntKind.i64.wrap (h1-h2)=h1-h2∧IntKind.i64.wrap (-(h1-h2))=h2-h1:=fun h1 h2 _ _ _ _=>⟨qf (by omega) (by omega),by rw[qf (by omega) (by omega)];omega⟩
 unfold fF
 generalize nth m.roads k=x at*
 obtain⟨frm,to,len,area,walk,closed,rl,rh,ll,lh⟩:=x
 simp only at f0 f1 t0 t1 l0 l1 b1 b2 p1 p2 ⊢
 cases closed with
 | true=>
   obtain⟨aa,roads⟩:=m
   simp(disch:=omega)only[go_sem,K.dM,↓reduceIte,g,reduceAdd,reduceSub]
 | false=>
   cases walk with
   | false=>
     obtain⟨aa,roads⟩:=m
     simp(disch:=omega)only[go_sem,K.dM,↓reduceIte,g,reduceAdd,reduceSub]
   | true=>
     have g1:=qn (a:=10*len+up-1) (b:=up) (by omega) hu
     have g2:=qn (a:=10*len+down-1) (b:=down) (by omega) hd
     have g3:=qn (a:=10*len+level-1) (b:=level) (by omega) hl
     cases back with
     | true=>
       simp only[↓reduceIte]
       generalize nth m.aa frm.toNat=q1 at*
       generalize nth m.aa to.toNat=q2 at*
       obtain⟨h1,s1⟩:=q1
       obtain⟨h2,s2⟩:=q2
       obtain⟨aa,roads⟩:=m
       simp only at*
       obtain⟨w2,w3⟩:=key h2 h1 (by omega) (by omega) (by omega) (by omega)
       by_cases c2:len< -10*(h1-h2)
       · simp(disch:=omega)only[go_sem,K.dM,↓reduceIte,g,p1,p2,w2,w3,gt_iff_lt,Int.zero_sub,reduceAdd,reduceSub]
       · by_cases c1:len<10*(h1-h2)
         · simp(disch:=omega)only[go_sem,K.dM,↓reduceIte,g,p1,p2,w2,w3,gt_iff_lt,Int.zero_sub,reduceAdd,reduceSub]
         · simp(disch:=omega)only[go_sem,K.dM,↓reduceIte,g,p1,p2,w2,w3,gt_iff_lt,Int.zero_sub,reduceAdd,reduceSub]
     | false=>
       simp only[aLt,↓reduceIte]
       generalize nth m.aa frm.toNat=q1 at*
       generalize nth m.aa to.toNat=q2 at*
       obtain⟨h1,s1⟩:=q1
       obtain⟨h2,s2⟩:=q2
       obtain⟨aa,roads⟩:=m
       simp only at*
       obtain⟨w2,w3⟩:=key h2 h1 (by omega) (by omega) (by omega) (by omega)
       by_cases c2:len< -10*(h2-h1)
       · simp(disch:=omega)only[go_sem,K.dM,↓reduceIte,g,p1,p2,w2,gt_iff_lt,reduceAdd,reduceSub]
       · by_cases c1:len<10*(h2-h1)
         · simp(disch:=omega)only[go_sem,K.dM,↓reduceIte,g,p1,p2,w2,gt_iff_lt,reduceAdd,reduceSub]
         · simp(disch:=omega)only[go_sem,K.dM,↓reduceIte,g,p1,p2,w2,gt_iff_lt,reduceAdd,reduceSub]
theorem JY{m:bu}(h:m.ok)(k:Nat)(hk:k<m.roads.length)(back:Bool):bh 0 N.ik [.t m.e,I k,B back] []=some (I (fF m k back 6 9 12),[]):=by
 have q:=JX
 have w:=Pj h k hk back 6 9 12 (by omega) (by omega) (by omega) (by omega) (by omega) (by omega)
 have v:=j5 h
 have nr:=h.nr
 have s:bh 0 N.im [.t m.e,I k,B back] []=some (I (fF m k back 6 9 12),[]):=by
  refine aE K.qt rfl ?_
  generalize fF m k back 6 9 12=r at*
  obtain⟨aa,roads⟩:=m
  simp(disch:=omega)only[go_sem,K.im,↓reduceIte,q,w,reduceAdd,reduceSub]
 refine aE K.qs rfl ?_
 generalize fF m k back 6 9 12=r at*
 obtain⟨aa,roads⟩:=m
 simp only at*
 simp(disch:=omega)only[go_sem,K.ik,↓reduceIte,v,s,reduceAdd,reduceSub]
theorem Pk(q:Int):bh 0 N.dt [I q] []=some (B true,[]):=by
 refine aE K.oW rfl ?_
 simp(disch:=omega)only[go_sem,K.dt,↓reduceIte,reduceAdd,reduceSub]
theorem JZ(q:Int)(l:List Int)(hl:l.length≤4294967296):bh 0 N.bU [I q,.bp 0 0] [.box [.t (tL l)]]=some (B (decide (q∈l)),[.box [.t (tL l)]]):=by
 refine aE K.jM rfl ?_
 have c:=qm l q hl
 simp(disch:=omega)only[go_sem,K.bU,↓reduceIte,c,reduceAdd,reduceSub]
theorem vJ{m:bu}(h:m.ok)(h1:1≤m.aa.length):bh 1 N.cK [.t m.e] []=some (.ref 0 0 m.aa.length,[.arr 1 false 0 (((dI m.aa.length).map (T.int .i64)).map .t)]):=by
 refine aE K.km rfl ?_
 have np:=h.np
 have r:=GY 1099511627776 m.aa.length h1 (by omega)
 have e:List.replicate m.aa.length (I 1099511627776)=((dI m.aa.length).map (T.int .i64)).map D.t:=by simp[dI]
 rw[e]at r
 simp only[tL,List.map_cons,List.map_nil]at r
 obtain⟨aa,roads⟩:=m
 simp only at*
 generalize dI aa.length=nl at*
 simp(disch:=omega)only[go_sem,K.cK,↓reduceIte,r,reduceAdd,reduceSub]
end Go.Ev
