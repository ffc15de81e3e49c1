/- Parts of the proof: see the text that holds the theorem. -/
import Derived.Test.YtmmplabgfomahaaGreatZ2
set_option linter.all false
open Nat (reduceAdd reduceSub)
set_option maxRecDepth 100000
namespace Go.Ev
open Go
abbrev I(n:Int):D:= .t (.int .i64 n)
abbrev B(b:Bool):D:= .t (.bool b)
def GV{β:Type}(call:aD):List R→List D→List D→ae→(List D→List D→ae→Option β)→Option β
 | rs,L,vs,H,K=>(evR call rs L vs H).bind fun q=>K q.1 q.2.1 q.2.2
def Qe{β:Type}(call:aD)(rs:List R)(d:Option Nat)(L vs:List D)(K:List D→List D→ae→Option β)(p:D×ae):Option β:=
 GV call rs (p.1::L) (wr vs d p.1) p.2 K
@[go_sem] theorem aaY {β : Type} (call : aD) (rs : List R) (d : Option Nat) (L vs : List D) (K : List D → List D → ae → Option β) (x : D) (H : ae) :
 Qe call rs d L vs K (x,H)=GV call rs (x::L) (wr vs d x) H K:=(rfl)
@[go_sem] theorem aaZ {β : Type} (call : aD) (L vs : List D) (H : ae) (K : List D → List D → ae → Option β) : GV call [] L vs H K = K L vs H := (rfl)
@[go_sem] theorem Xz {β : Type} (call : aD) (o : O) (d : Option Nat) (rs : List R) (L vs : List D) (H : ae) (K : List D → List D → ae → Option β) :
 GV call (⟨o,d,none⟩::rs) L vs H K=(evO call (X.get vs L) H o).bind (Qe call rs d L vs K):=by
 simp[GV,evR,bQ,Option.bind_assoc]
 rfl
def gate{β:Type}(c:Option D)(w:Bool)(a b:Option β):Option β:=match c with
 | some (.t (.bool x))=>if x=w then a else b
 | some (.tup [])=>b
 | _=>none
@[congr] theorem Un {β : Type} {c c' : Option D} {w : Bool} {a b : Option β} (h : True → c = c') : gate c w a b = gate c' w a b := by rw [h trivial]
@[go_sem] theorem aa0 {β : Type} (p : Prop) [Decidable p] (a b : Option β) : gate (some (.t (.bool (decide p)))) true a b = if p then a else b := by
 by_cases h:p<;>simp[gate,h]
@[go_sem] theorem XA {β : Type} (p : Prop) [Decidable p] (a b : Option β) : gate (some (.t (.bool (decide p)))) false a b = if p then b else a := by
 by_cases h:p<;>simp[gate,h]
@[go_sem] theorem XB {β : Type} (x : Bool) (a b : Option β) : gate (some (.t (.bool x))) true a b = if x = true then a else b := (rfl)
@[go_sem] theorem Uo {β : Type} (x : Bool) (a b : Option β) : gate (some (.t (.bool x))) false a b = if x = true then b else a := by cases x <;> rfl
@[go_sem] theorem XC {β : Type} (w : Bool) (a b : Option β) : gate (some (.tup [])) w a b = b := (rfl)
@[go_sem] theorem XD {β : Type} (call : aD) (o : O) (d : Option Nat) (k : Nat) (w : Bool) (rs : List R) (L vs : List D) (H : ae) (K : List D → List D → ae → Option β) :
 GV call (⟨o,d,some (k,w)⟩::rs) L vs H K=gate L[k]? w ((evO call (X.get vs L) H o).bind (Qe call rs d L vs K)) (GV call rs (.tup []::L) (wr vs d (.tup [])) H K):=by
 simp only[GV,evR,bQ]
 cases hL:L[k]? with
 | none=>simp[gate]
 | some c=>
   simp only[aLq]
   cases c with
   | t x=>
     cases x with
     | bool b=>cases b<;>cases w<;>simp[gate,Option.bind_assoc]<;>rfl
     | _=>simp[gate]
   | tup ds=>
     cases ds with
     | nil=>simp[gate]
     | cons=>simp[gate]
   | _=>simp[gate]
open Classical in
noncomputable def tV{β:Type}(p:Prop)(x:Option β):Option β:=if p then x else none
@[go_sem] theorem Qf {β : Type} (x : Option β) : tV True x = x := by simp [tV]
noncomputable def Aq{β:Type}(call:aD)(all:List R)(n:Nat)(ps:List (Nat×Nat))(rs:List R)(L vs:List D)(H:ae)(acc:List Tr)(K:List D→List D→ae→Option β):Option β:=
 (evR call rs L vs H).bind fun q=>tV (nh call all n ((trace call rs L vs H).reverse++acc) ps) (K q.1 q.2.1 q.2.2)
noncomputable def H8{β:Type}(call:aD)(all:List R)(n:Nat)(ps:List (Nat×Nat))(rs:List R)(d:Option Nat)(L vs:List D)(H:ae)(acc:List Tr)(K:List D→List D→ae→Option β)(p:D×ae):Option β:=
 Aq call all n ps rs (p.1::L) (wr vs d p.1) p.2 ((L,vs,H)::acc) K
@[go_sem] theorem aa1 {β : Type} (call : aD) (all : List R) (n : Nat) (ps : List (Nat × Nat)) (rs : List R) (d : Option Nat) (L vs : List D) (H : ae) (acc : List Tr) (K : List D → List D → ae → Option β) (x : D) (H' : ae) :
 H8 call all n ps rs d L vs H acc K (x,H')=Aq call all n ps rs (x::L) (wr vs d x) H' ((L,vs,H)::acc) K:=(rfl)
@[go_sem] theorem aa2 {β : Type} (call : aD) (all : List R) (n : Nat) (ps : List (Nat × Nat)) (L vs : List D) (H : ae) (acc : List Tr) (K : List D → List D → ae → Option β) :
 Aq call all n ps [] L vs H acc K=tV (nh call all n ((L,vs,H)::acc) ps) (K L vs H):=by
 simp[Aq,evR,trace]
theorem Ar{β:Type}(call:aD)(all:List R)(n:Nat)(ps:List (Nat×Nat))(r:R)(rs:List R)(L vs:List D)(H:ae)(acc:List Tr)(K:List D→List D→ae→Option β):
 Aq call all n ps (r::rs) L vs H acc K=(bQ L r.g).bind fun w=>
  if w then(evO call (X.get vs L) H r.o).bind (H8 call all n ps rs r.d L vs H acc K)else Aq call all n ps rs (.tup []::L) (wr vs r.d (.tup [])) H ((L,vs,H)::acc) K:=by
 obtain hw | ⟨w,hw⟩:bQ L r.g=none∨∃w,bQ L r.g=some w:=by cases bQ L r.g<;>simp
 · simp[Aq,evR,trace,hw]
 · cases w with
   | true=>
     obtain hq | ⟨q,hq⟩:evO call (X.get vs L) H r.o=none∨∃q,evO call (X.get vs L) H r.o=some q:=by cases evO call (X.get vs L) H r.o<;>simp
     · simp[Aq,evR,trace,hw,hq]
     · simp[Aq,evR,trace,hw,hq,H8]
   | false=>simp[Aq,evR,trace,hw]
@[go_sem] theorem XE {β : Type} (call : aD) (all : List R) (n : Nat) (ps : List (Nat × Nat)) (o : O) (d : Option Nat) (rs : List R) (L vs : List D) (H : ae) (acc : List Tr) (K : List D → List D → ae → Option β) :
 Aq call all n ps (⟨o,d,none⟩::rs) L vs H acc K=(evO call (X.get vs L) H o).bind (H8 call all n ps rs d L vs H acc K):=by
 rw[Ar];simp[bQ]
@[go_sem] theorem XF {β : Type} (call : aD) (all : List R) (n : Nat) (ps : List (Nat × Nat)) (o : O) (d : Option Nat) (k : Nat) (w : Bool) (rs : List R) (L vs : List D) (H : ae) (acc : List Tr) (K : List D → List D → ae → Option β) :
 Aq call all n ps (⟨o,d,some (k,w)⟩::rs) L vs H acc K=
  gate L[k]? w ((evO call (X.get vs L) H o).bind (H8 call all n ps rs d L vs H acc K)) (Aq call all n ps rs (.tup []::L) (wr vs d (.tup [])) H ((L,vs,H)::acc) K):=by
 rw[Ar]
 simp only[bQ]
 cases hL:L[k]? with
 | none=>simp[gate]
 | some c=>
   simp only[aLq]
   cases c with
   | t x=>
     cases x with
     | bool b=>cases b<;>cases w<;>simp[gate]
     | _=>simp[gate]
   | tup ds=>
     cases ds with
     | nil=>simp[gate]
     | cons=>simp[gate]
   | _=>simp[gate]
def uC(call:aD):Option R→Option Tr→Option Tr→Option Tr→Prop
 | some r,some s,some a,some s'=>(match r.o with
   | .al _ _=>a.2.2[s.2.2.length]?=s'.2.2[s.2.2.length]?
   | .bs xs _=>bQ s.1 r.g=some false∨((aW (X.get s.2.1 s.1) xs).bind mu).isSome=true
   | o=>pP o=true∧(bQ s.1 r.g=some false∨xN (evO call (X.get s.2.1 s.1) a.2.2 o)=xN (evO call (X.get s.2.1 s.1) s.2.2 o)))
 | _,_,_,_=>False
@[go_sem] theorem Up (call : aD) (all : List R) (n : Nat) (acc : List Tr) : nh call all n acc [] = True := (rfl)
@[go_sem] theorem Qg (call : aD) (all : List R) (n : Nat) (acc : List Tr) (p m : Nat) (r : List (Nat × Nat)) :
 nh call all n acc ((p,m)::r)=(uC call all[p]? acc[n-p]? acc[n-m]? acc[n-(p+1)]?∧m≤n∧nh call all n acc r):=by
 simp only[nh,Qd,uC]
 try rfl
section
variable (call : aD) (d : Option Nat) (gd : Option (Nat × Bool)) (L vs L' vs' : List D) (H H' : ae) (s' : Tr)
@[go_sem] theorem aa3 (x : X) (n : Nat) (agg : Bool) : uC call (some ⟨.ld x n agg, d, gd⟩) (some (L, vs, H)) (some (L', vs', H')) (some s') =
 (bQ L gd=some false∨xN (evO call (X.get vs L) H' (.ld x n agg))=xN (evO call (X.get vs L) H (.ld x n agg))):=by simp[uC,pP]
@[go_sem] theorem aa4 (x i : X) (sz : Nat) : uC call (some ⟨.ia x i sz, d, gd⟩) (some (L, vs, H)) (some (L', vs', H')) (some s') =
 (bQ L gd=some false∨xN (evO call (X.get vs L) H' (.ia x i sz))=xN (evO call (X.get vs L) H (.ia x i sz))):=by simp[uC,pP]
@[go_sem] theorem aa5 (x : X) (lo hi : Option X) (sz : Nat) : uC call (some ⟨.sc x lo hi sz, d, gd⟩) (some (L, vs, H)) (some (L', vs', H')) (some s') =
 (bQ L gd=some false∨xN (evO call (X.get vs L) H' (.sc x lo hi sz))=xN (evO call (X.get vs L) H (.sc x lo hi sz))):=by simp[uC,pP]
@[go_sem] theorem XG (x : X) (z : T) (sz : Nat) : uC call (some ⟨.mkt x z sz, d, gd⟩) (some (L, vs, H)) (some (L', vs', H')) (some s') =
 (bQ L gd=some false∨xN (evO call (X.get vs L) H' (.mkt x z sz))=xN (evO call (X.get vs L) H (.mkt x z sz))):=by simp[uC,pP]
@[go_sem] theorem aa6 (z : List D) (l : List (Nat × Nat)) (L2 vs2 : List D) (H2 : ae) : uC call (some ⟨.al z l, d, gd⟩) (some (L, vs, H)) (some (L', vs', H')) (some (L2, vs2, H2)) = (H'[H.length]? = H2[H.length]?) := (rfl)
@[go_sem] theorem aa7 (xs : List X) (sz : Nat) : uC call (some ⟨.bs xs sz, d, gd⟩) (some (L, vs, H)) (some (L', vs', H')) (some s') =
 (bQ L gd=some false∨((aW (X.get vs L) xs).bind mu).isSome=true):=(rfl)
@[go_sem] theorem NN (L : List D) : bQ L none = some true := (rfl)
def Qh(w:Bool):Option D→Option Bool
 | some (.t (.bool b))=>some (b==w)
 | some (.tup [])=>some false
 | _=>none
@[go_sem] theorem Uq (w b : Bool) : Qh w (some (.t (.bool b))) = some (b == w) := (rfl)
@[go_sem] theorem XH (w : Bool) : Qh w (some (.tup [])) = some false := (rfl)
@[go_sem] theorem NQ (L : List D) (k : Nat) (w : Bool) : bQ L (some (k, w)) = Qh w L[k]? := by
 simp only[bQ]
 cases L[k]? with
 | none=>rfl
 | some c=>cases c with
   | t x=>cases x<;>rfl
   | tup ds=>cases ds<;>rfl
   | _=>rfl
@[go_sem] theorem XI (x : D) : xN (some (x, H)) = some x := (rfl)
attribute [go_sem] beq_true beq_false or_true true_or or_self
end
theorem DO(call:aD)(rs:List R)(vs:List D)(H:ae):GU call rs [] vs H=evR call rs [] vs H:=by
 simp[GU,nh]
def adp(L vs:List D)(H:ae):Option (Ex×St):=some (.normal,⟨vs,H⟩)
noncomputable def adq(call:aD)(k:Nat)(a b:C)(L vs:List D)(H:ae):Option (Ex×St):=eO L[k]? (exS call a ⟨vs,H⟩) (exS call b ⟨vs,H⟩)
@[go_sem] theorem adr (L vs : List D) (H : ae) : adp L vs H = some (.normal, ⟨vs, H⟩) := (rfl)
@[go_sem] theorem ads (call : aD) (k : Nat) (a b : C) (L vs : List D) (H : ae) : adq call k a b L vs H = eO L[k]? (exS call a ⟨vs, H⟩) (exS call b ⟨vs, H⟩) := (rfl)
def andThen(x:Option (Ex×St))(k:St→Option (Ex×St)):Option (Ex×St):=x.bind fun p=>eX p k
@[go_sem] theorem Kz (st : St) (k : St → Option (Ex × St)) : andThen (some (.normal, st)) k = k st := (rfl)
@[go_sem] theorem Qi (st : St) (k : St → Option (Ex × St)) : andThen (some (.ret, st)) k = some (.ret, st) := (rfl)
@[go_sem] theorem NR (i : Nat) (st : St) (k : St → Option (Ex × St)) : andThen (some (.exit i, st)) k = some (.exit i, st) := (rfl)
@[go_sem] theorem NS (k : St → Option (Ex × St)) : andThen none k = none := (rfl)
@[go_sem] theorem andThen_ite (c : Prop) [Decidable c] (a b : Option (Ex × St)) (k : St → Option (Ex × St)) : andThen (if c then a else b) k = if c then andThen a k else andThen b k := by
 split<;>rfl
@[go_sem] theorem aa8 (call : aD) (st : St) : exS call .skip st = some (.normal, st) := (rfl)
@[go_sem] theorem adt (call : aD) (rs : List R) (vs : List D) (H : ae) : exS call (.reg rs []) ⟨vs, H⟩ = GV call rs [] vs H adp := by
 simp only[exS,DO,GV]
 cases evR call rs [] vs H<;>rfl
@[go_sem] theorem aa9 (call : aD) (rs : List R) (p : Nat × Nat) (ps : List (Nat × Nat)) (vs : List D) (H : ae) :
 exS call (.reg rs (p::ps)) ⟨vs,H⟩=Aq call rs rs.length (p::ps) rs [] vs H [] adp:=by
 simp only[exS,GU,Aq,List.append_nil]
 by_cases h:nh call rs rs.length (trace call rs [] vs H).reverse (p::ps)
 · rw[if_pos h]
   simp only[tV,if_pos h]
   cases evR call rs [] vs H<;>rfl
 · rw[if_neg h]
   simp only[tV,if_neg h]
   cases evR call rs [] vs H<;>rfl
@[go_sem] theorem adu (call : aD) (a b : C) (st : St) : exS call (.seq a b) st = andThen (exS call a st) (exS call b) := (rfl)
@[go_sem] theorem adv (call : aD) (rs : List R) (k : Nat) (a b : C) (vs : List D) (H : ae) : exS call (.ite rs [] k a b) ⟨vs, H⟩ = GV call rs [] vs H (adq call k a b) := by
 simp only[exS,DO,GV]
 cases evR call rs [] vs H<;>rfl
@[go_sem] theorem aba (call : aD) (rs : List R) (p : Nat × Nat) (ps : List (Nat × Nat)) (k : Nat) (a b : C) (vs : List D) (H : ae) :
 exS call (.ite rs (p::ps) k a b) ⟨vs,H⟩=Aq call rs rs.length (p::ps) rs [] vs H [] (adq call k a b):=by
 simp only[exS,GU,Aq,List.append_nil]
 by_cases h:nh call rs rs.length (trace call rs [] vs H).reverse (p::ps)
 · rw[if_pos h]
   simp only[tV,if_pos h]
   cases evR call rs [] vs H<;>rfl
 · rw[if_neg h]
   simp only[tV,if_neg h]
   cases evR call rs [] vs H<;>rfl
@[go_sem] theorem adw (call : aD) (rs : List R) (ps : List (Nat × Nat)) (k : Nat) (a b c : C) (st : St) : exS call (.its rs ps k a b c) st = andThen (exS call (.ite rs ps k a b) st) (exS call c) := (rfl)
@[go_sem] theorem adx (call : aD) (rs : List R) (ps : List (Nat × Nat)) (k : Nat) (a b c : C) (st : St) : exS call (.itk rs ps k a b c) st = exS call (.ite rs ps k (.seq a c) (.seq b c)) st := (rfl)
@[go_sem] theorem ady (call : aD) (j : Nat) (a b : C) (vs : List D) (H : ae) : exS call (.itv j a b) ⟨vs, H⟩ = eO vs[j]? (exS call a ⟨vs, H⟩) (exS call b ⟨vs, H⟩) := (rfl)
@[go_sem] theorem abb (call : aD) (id : Nat) (st : St) : exS call (.exit id) st = some (.exit id, st) := (rfl)
@[go_sem] theorem adz (call : aD) (st : St) : exS call .ret st = some (.ret, st) := (rfl)
@[go_sem] theorem abc (call : aD) (st : St) : exS call .fail st = none := (rfl)
@[go_sem] theorem adA (call : aD) (x p f : Nat) (r1 : List R) (p1 : List (Nat × Nat)) (r2 : List R) (p2 : List (Nat × Nat)) (vs : List D) (H : ae) : exS call (.rng x p f r1 p1 r2 p2) ⟨vs, H⟩ = (GP (stepG (GU call) vs p r1 p1 r2 p2) (Ky f vs[x]?) H).map fun H => (.normal, ⟨vs, H⟩) := (rfl)
@[go_sem] theorem adB (call : aD) (v : Bool) (c : C) (st : St) : exS call (.cnd v c) st = exS call c st := (rfl)
def sY(id:Nat)(x:Option (Ex×St)):Option (Ex×St):=x.map (leave id)
@[go_sem] theorem adC (call : aD) (id : Nat) (c : C) (st : St) : exS call (.blk id c) st = sY id (exS call c st) := (rfl)
@[go_sem] theorem NT (id : Nat) (st : St) : sY id (some (.normal, st)) = some (.normal, st) := by simp [sY, leave]
@[go_sem] theorem XJ (id : Nat) (st : St) : sY id (some (.ret, st)) = some (.ret, st) := by simp [sY, leave]
@[go_sem] theorem Ur (id i : Nat) (st : St) : sY id (some (.exit i, st)) = if i = id then some (.normal, st) else some (.exit i, st) := by
 simp only[sY,leave,aLw,Ex.exit.injEq]
 split<;>rfl
@[go_sem] theorem Us (id : Nat) : sY id none = none := (rfl)
@[go_sem] theorem XK (id : Nat) (c : Prop) [Decidable c] (a b : Option (Ex × St)) : sY id (if c then a else b) = if c then sY id a else sY id b := by
 split<;>rfl
@[congr] theorem Qj {c c' : Option D} {a b : Option (Ex × St)} (h : True → c = c') : eO c a b = eO c' a b := by rw [h trivial]
@[go_sem] theorem XL (p : Prop) [Decidable p] (a b : Option (Ex × St)) : eO (some (.t (.bool (decide p)))) a b = if p then a else b := by
 by_cases h:p<;>simp[eO,h]
@[go_sem] theorem Ut (p : Prop) [Decidable p] (a b : Option (Ex × St)) : eO (some (.t (.bool (!decide p)))) a b = if p then b else a := by
 by_cases h:p<;>simp[eO,h]
@[go_sem] theorem abd (a : Option (Ex × St)) : eO (some .ub) a a = a := by simp [eO]
@[go_sem] theorem Uu (x : Bool) (a b : Option (Ex × St)) : eO (some (.t (.bool x))) a b = if x = true then a else b := (rfl)
def iI(gc:Bool)(dead:List Nat)(k:Nat)(x:Option (Ex×St)):Option St:=x.bind fun p=>match p.1 with
 | .normal=>tidy gc dead k p.2
 | _=>none
@[go_sem] theorem LK (gc : Bool) (dead : List Nat) (k : Nat) (st : St) : iI gc dead k (some (.normal, st)) = tidy gc dead k st := (rfl)
@[go_sem] theorem Uv (gc : Bool) (dead : List Nat) (k : Nat) (c : Prop) [Decidable c] (a b : Option (Ex × St)) : iI gc dead k (if c then a else b) = if c then iI gc dead k a else iI gc dead k b := by
 split<;>rfl
theorem gK{gc:Bool}{dead:List Nat}{body:St→Option (Ex×St)}{st st2:St}(h:iI gc dead st.H.length (body st)=some st2)
 {p:Ex×St} (h2:jy gc dead body st2=some p):jy gc dead body st=some p:=by
 unfold iI at h
 obtain⟨⟨e,st1⟩,hq,h⟩:=aLa.1 h
 cases e with
 | normal=>exact xL hq h h2
 | ret=>cases h
 | exit=>cases h
theorem yI{gc:Bool}{dead:List Nat}{body:St→Option (Ex×St)}(s:Nat→St){p:Ex×St}(n:Nat)
 (h:∀j,j<n→iI gc dead (s j).H.length (body (s j))=some (s (j+1))) (he:jy gc dead body (s n)=some p):jy gc dead body (s 0)=some p:=by
 have:=tU (s:=s) n 0 (fun j _ hj=>by
  have h:=h j (by omega)
  unfold iI at h
  obtain⟨⟨e,st1⟩,hq,h⟩:=aLa.1 h
  cases e with
  | normal=>exact⟨st1,hq,h⟩
  | ret=>cases h
  | exit=>cases h) (by simpa using he)
 exact this
def abe(res:List (Nat×Option (Nat×Bool)))(k raw:Nat)(p:Ex×St):Option (D×ae):=match p.1 with
 | .exit _=>none
 | _=>(gO p.2 res).bind (finish k raw p.2.H)
@[go_sem] theorem abf (res : List (Nat × Option (Nat × Bool))) (k raw : Nat) (vs : List D) (H : ae) : abe res k raw (.ret, ⟨vs, H⟩) = (gO ⟨vs, H⟩ res).bind (finish k raw H) := (rfl)
@[go_sem] theorem Qk (res : List (Nat × Option (Nat × Bool))) (k raw : Nat) (vs : List D) (H : ae) : abe res k raw (.normal, ⟨vs, H⟩) = (gO ⟨vs, H⟩ res).bind (finish k raw H) := (rfl)
theorem Ql{fs:Nat→Option Fn}{raw f:Nat}{args:List D}{H:ae}{fn:Fn}{r:D×ae}(hf:fs f=some fn)(hn:fn.bo=args.length)
 (h:(exS (j8 fs) fn.body ⟨pJ args fn.vars,H⟩).bind (abe fn.res H.length raw)=some r) (h0:fn.prim=[]:=by rfl):j8 fs raw f args H=some r:=by
 obtain⟨p,hp,he⟩:=aLa.1 h
 exact LF hf hn (LJ _ _ _ hp) he h0
@[go_sem] theorem abg {α β : Type} (c : Prop) [Decidable c] (a b : Option α) (k : α → Option β) : (if c then a else b).bind k = if c then a.bind k else b.bind k := by
 split<;>rfl
@[go_sem] theorem adD {α β : Type} (c : Prop) [Decidable c] (a b : Option α) (k : α → β) : (if c then a else b).map k = if c then a.map k else b.map k := by
 split<;>rfl
theorem XM(a b:Int):(a==b)=decide (a=b):=by rw[Bool.eq_iff_iff];simp
theorem bU{n:Int}(h1: -9223372036854775808≤n)(h2:n≤9223372036854775807):IntKind.i64.wrap n=n:=by
 have e:IntKind.i64.wrap n=if n % 18446744073709551616≥9223372036854775808 then n % 18446744073709551616-18446744073709551616 else n % 18446744073709551616:=by
  simp[IntKind.wrap,IntKind.signed,IntKind.bits]
 rw[e];split<;>omega
section
variable {α β : Type}
@[go_sem] theorem Qm (a : α) (f : α → Option β) : (some a).bind f = f a := (rfl)
@[go_sem] theorem Uw (a : α) (f : α → β) : (some a).map f = some (f a) := (rfl)
@[go_sem] theorem Qn (f : α → Option β) : (none : Option α).bind f = none := (rfl)
@[go_sem] theorem Ux (f : α → β) : (none : Option α).map f = none := (rfl)
@[go_sem] theorem Uy (a : α) (l : List α) (f : α → β) : (a :: l).map f = f a :: l.map f := (rfl)
@[go_sem] theorem XN (f : α → β) : ([] : List α).map f = [] := (rfl)
@[go_sem] theorem Uz (a : α) (l : List α) : (a :: l)[0]? = some a := (rfl)
@[go_sem] theorem UA (a : α) (l : List α) (n : Nat) : (a :: l)[n + 1]? = l[n]? := (rfl)
@[go_sem] theorem Qo (a d : α) (l : List α) : (a :: l).getD 0 d = a := (rfl)
@[go_sem] theorem Qp (a d : α) (l : List α) (n : Nat) : (a :: l).getD (n + 1) d = l.getD n d := (rfl)
@[go_sem] theorem UB (d : α) (n : Nat) : ([] : List α).getD n d = d := by simp
@[go_sem] theorem UC (a b : α) (l : List α) : (a :: l).set 0 b = b :: l := (rfl)
@[go_sem] theorem UD (a b : α) (l : List α) (n : Nat) : (a :: l).set (n + 1) b = a :: l.set n b := (rfl)
@[go_sem] theorem LL (a : α) (l m : List α) : (a :: l) ++ m = a :: (l ++ m) := (rfl)
@[go_sem] theorem NU (l : List α) : [] ++ l = l := (rfl)
@[go_sem] theorem NV (l : List α) : l ++ [] = l := by simp
@[go_sem] theorem KA (a : α) (l : List α) (f : α → List β) : (a :: l).flatMap f = f a ++ l.flatMap f := by simp
@[go_sem] theorem LM (f : α → List β) : ([] : List α).flatMap f = [] := by simp
@[go_sem] theorem NW : ([] : List α).length = 0 := (rfl)
@[go_sem] theorem LN (a : α) (l : List α) : (a :: l).length = l.length + 1 := (rfl)
@[go_sem] theorem NX (l : List α) (f : α → β) : (l.map f).length = l.length := by simp
@[go_sem] theorem H9 (l m : List α) : (l ++ m).length = l.length + m.length := by simp
@[go_sem] theorem DP (n : Nat) (a : α) : (List.replicate n a).length = n := by simp
@[go_sem] theorem NY (l : List α) (i : Nat) (a : α) : (l.set i a).length = l.length := by simp
@[go_sem] theorem Qq (l : List α) : l.drop 0 = l := (rfl)
@[go_sem] theorem Qr (a : α) (l : List α) (n : Nat) : (a :: l).drop (n + 1) = l.drop n := (rfl)
@[go_sem] theorem UE (n : Nat) : ([] : List α).drop n = [] := by simp
@[go_sem] theorem Qs (l : List α) : l.take 0 = [] := (rfl)
@[go_sem] theorem Qt (a : α) (l : List α) (n : Nat) : (a :: l).take (n + 1) = a :: l.take n := (rfl)
@[go_sem] theorem UF (n : Nat) : ([] : List α).take n = [] := by simp
@[go_sem] theorem Qu (a b : α) : (bif true then a else b) = a := (rfl)
@[go_sem] theorem NZ (a b : α) : (bif false then a else b) = b := (rfl)
@[go_sem] theorem UG (n : Nat) : n + 0 = n := (rfl)
@[go_sem] theorem UH (n : Nat) : 0 + n = n := by simp
@[go_sem] theorem UI (a b : α) : (some a = some b) = (a = b) := by simp
@[go_sem] theorem abh (a : α) : (some a).isSome = true := (rfl)
end
attribute [go_sem] decide_true decide_false if_true if_false aLt Bool.true_eq_false decide_eq_true_eq decide_eq_false_iff_not aLr Bool.or_eq_true Bool.not_eq_true' Bool.not_eq_true Bool.not_eq_false
 Bool.and_true Bool.true_and Bool.and_false Bool.false_and Bool.or_true Bool.true_or Bool.or_false Bool.false_or and_true true_and and_self not_true_eq_false not_false_eq_true beq_iff_eq bne_iff_ne ne_eq
@[go_sem] theorem UJ : (!true) = false := (rfl)
@[go_sem] theorem Qv : (!false) = true := (rfl)
@[go_sem] theorem ahs (vs L : List D) (j : Nat) : X.get vs L (.v j) = vs[j]? := (rfl)
@[go_sem] theorem aht (vs L : List D) (k : Nat) : X.get vs L (.l k) = L[k]? := (rfl)
@[go_sem] theorem ahu (vs L : List D) (d : D) : X.get vs L (.c d) = some d := (rfl)
@[go_sem] theorem ahv (vs L : List D) (n : Int) : X.get vs L (.i n) = some (I n) := (rfl)
@[go_sem] theorem ahw (vs L : List D) (x : Bool) : X.get vs L (.b x) = some (B x) := (rfl)
@[go_sem] theorem adE (vs : List D) (x : D) : wr vs none x = vs := (rfl)
@[go_sem] theorem adF (vs : List D) (s : Nat) (x : D) : wr vs (some s) x = vs.set s x := (rfl)
@[go_sem] theorem UK (args : List D) : pJ args [] = [] := (rfl)
@[go_sem] theorem Qw (args : List D) (s : Nat) (r : List Nat) : pJ args (s :: r) = args.getD s .und :: pJ args r := (rfl)
def adG(H:ae)(d:D):Option (D×ae):=some (d,H)
@[go_sem] theorem adH (H : ae) (d : D) : adG H d = some (d, H) := (rfl)
def jc{α:Type}(a:α)(l:Option (List α)):Option (List α):=l.map (a:: ·)
@[go_sem] theorem UL {α : Type} (a : α) (l : List α) : jc a (some l) = some (a :: l) := (rfl)
@[go_sem] theorem UM {α : Type} (a : α) : jc a none = none := (rfl)
@[go_sem] theorem abi {α β : Type} (f : α → Option β) : aW f [] = some [] := (rfl)
def age{α β:Type}(f:α→Option β)(r:List α)(y:β):Option (List β):=jc y (aW f r)
@[go_sem] theorem Qx {α β : Type} (f : α → Option β) (r : List α) (y : β) : age f r y = jc y (aW f r) := (rfl)
@[go_sem] theorem As {α β : Type} (f : α → Option β) (x : α) (r : List α) : aW f (x :: r) = (f x).bind (age f r) := (rfl)
section
variable (call : aD) (get : X → Option D) (H : ae)
@[go_sem] theorem ahx (x : X) : evO call get H (.mv x) = (get x).bind (adG H) := by simp only [evO]; cases get x <;> rfl
def abj(c a b:Option D):Option (D×ae):=c.bind fun c=>a.bind fun a=>b.bind fun b=>(Lk c a b).map fun d=>(d,H)
@[go_sem] theorem ahy (c a b : X) : evO call get H (.pk c a b) = abj H (get c) (get a) (get b) := (rfl)
@[go_sem] theorem XO (x p q : Bool) : abj H (some (.t (.bool x))) (some (.t (.bool p))) (some (.t (.bool q))) = some (.t (.bool (bif x then p else q)), H) := by cases x <;> rfl
@[go_sem] theorem XP (a b : D) : abj H (some (.t (.bool true))) (some a) (some b) = some (a, H) := (rfl)
@[go_sem] theorem UN (a b : D) : abj H (some (.t (.bool false))) (some a) (some b) = some (b, H) := (rfl)
@[go_sem] theorem abk (x p : Bool) : (bif x then p else false) = (x && p) := by cases x <;> rfl
@[go_sem] theorem adI (x q : Bool) : (bif x then true else q) = (x || q) := by cases x <;> rfl
def fI(f:BinOp)(x y:Option D):Option (D×ae):=x.bind fun a=>y.bind fun b=>(xx f a b).map fun d=>(d,H)
@[go_sem] theorem agf (f : BinOp) (x y : X) : evO call get H (.bin f x y) = fI H f (get x) (get y) := (rfl)
section
variable (k j : IntKind) (a b : Int)
@[go_sem] theorem XQ : fI H .add (some (.t (.int k a))) (some (.t (.int k b))) = some (.t (.int k (k.wrap (a + b))), H) := by simp [fI, xx, BE]
@[go_sem] theorem XR : fI H .sub (some (.t (.int k a))) (some (.t (.int k b))) = some (.t (.int k (k.wrap (a - b))), H) := by simp [fI, xx, BE]
@[go_sem] theorem XT : fI H .mul (some (.t (.int k a))) (some (.t (.int k b))) = some (.t (.int k (k.wrap (a * b))), H) := by simp [fI, xx, BE]
@[go_sem] theorem XU : fI H .quo (some (.t (.int k a))) (some (.t (.int k b))) = if b = 0 then none else some (.t (.int k (k.wrap (a.tdiv b))), H) := by simp only [fI, xx, BE]; by_cases h : b = 0 <;> simp [h]
@[go_sem] theorem XV : fI H .rem (some (.t (.int k a))) (some (.t (.int k b))) = if b = 0 then none else some (.t (.int k (a.tmod b)), H) := by simp only [fI, xx, BE]; by_cases h : b = 0 <;> simp [h]
@[go_sem] theorem XW : fI H .eql (some (.t (.int k a))) (some (.t (.int k b))) = some (.t (.bool (decide (a = b))), H) := by simp [fI, xx, BE, XM]
@[go_sem] theorem XX : fI H .neq (some (.t (.int k a))) (some (.t (.int k b))) = some (.t (.bool (decide (¬ a = b))), H) := by simp [fI, xx, BE, bne, XM]
@[go_sem] theorem XY : fI H .lss (some (.t (.int k a))) (some (.t (.int k b))) = some (.t (.bool (decide (a < b))), H) := by simp [fI, xx, BE]
@[go_sem] theorem XZ : fI H .leq (some (.t (.int k a))) (some (.t (.int k b))) = some (.t (.bool (decide (a ≤ b))), H) := by simp [fI, xx, BE]
@[go_sem] theorem X0 : fI H .gtr (some (.t (.int k a))) (some (.t (.int k b))) = some (.t (.bool (decide (b < a))), H) := by simp [fI, xx, BE]
@[go_sem] theorem X1 : fI H .geq (some (.t (.int k a))) (some (.t (.int k b))) = some (.t (.bool (decide (b ≤ a))), H) := by simp [fI, xx, BE]
@[go_sem] theorem Ia (h : 0 ≤ b) : fI H .shl (some (.t (.int k a))) (some (.t (.int j b))) = some (.t (.int k (k.wrap (a * 2 ^ min b.toNat k.bits))), H) := by simp [fI, xx, xw, Int.not_lt.2 h]
@[go_sem] theorem Ib (h : 0 ≤ b) : fI H .shr (some (.t (.int k a))) (some (.t (.int j b))) = some (.t (.int k (a.fdiv (2 ^ min b.toNat k.bits))), H) := by simp [fI, xx, xw, Int.not_lt.2 h]
@[go_sem] theorem Ic : fI H .and (some (.t (.int k a))) (some (.t (.int k b))) = some (.t (.int k (k.wrap (BitVec.ofInt k.bits a &&& BitVec.ofInt k.bits b).toNat)), H) := by simp [fI, xx, BE]
@[go_sem] theorem abl : fI H .or (some (.t (.int k a))) (some (.t (.int k b))) = some (.t (.int k (k.wrap (BitVec.ofInt k.bits a ||| BitVec.ofInt k.bits b).toNat)), H) := by simp [fI, xx, BE]
@[go_sem] theorem X2 : fI H .xor (some (.t (.int k a))) (some (.t (.int k b))) = some (.t (.int k (k.wrap (BitVec.ofInt k.bits a ^^^ BitVec.ofInt k.bits b).toNat)), H) := by simp [fI, xx, BE]
def adJ(f:UnOp)(a:D):Option (D×ae):=(unD f a).map fun d=>(d,H)
@[go_sem] theorem ahz (f : UnOp) (x : X) : evO call get H (.un f x) = (get x).bind (adJ H f) := (rfl)
@[go_sem] theorem abm (x : Bool) : adJ H .not (.t (.bool x)) = some (.t (.bool (!x)), H) := (rfl)
@[go_sem] theorem abn : adJ H .neg (.t (.int k a)) = some (.t (.int k (k.wrap (0 - a))), H) := (rfl)
def agh(k:IntKind)(a:D):Option (D×ae):=(PB k a).map fun d=>(d,H)
@[go_sem] theorem ahA (x : X) : evO call get H (.cv k x) = (get x).bind (agh H k) := (rfl)
@[go_sem] theorem abo : agh H k (.t (.int j a)) = some (.t (.int k (k.wrap a)), H) := (rfl)
end
def mF(q:EqK)(neg:Bool)(x y:Option D):Option (D×ae):=x.bind fun a=>y.bind fun b=>(NI q neg a b).map fun d=>(d,H)
@[go_sem] theorem agi (q : EqK) (neg : Bool) (x y : X) : evO call get H (.eqk q neg x y) = mF H q neg (get x) (get y) := (rfl)
@[go_sem] theorem UO (x y : Bool) : mF H .bool false (some (.t (.bool x))) (some (.t (.bool y))) = some (.t (.bool (x == y)), H) := (rfl)
@[go_sem] theorem Qy (x y : Bool) : mF H .bool true (some (.t (.bool x))) (some (.t (.bool y))) = some (.t (.bool (!(x == y))), H) := (rfl)
def N0:List T→List T→Bool
 | .int _ a::xs,.int _ b::ys=>decide (a=b)&&N0 xs ys
 | _,_=>true
def FJ:Nat→List T→List T→Bool
 | 0,[],[]=>true
 | n+1,.int j _::xs,.int k _::ys=>decide (j=k)&&FJ n xs ys
 | _,_,_=>false
@[go_sem] theorem X3 (k j : IntKind) (a b : Int) (xs ys : List T) : N0 (.int k a :: xs) (.int j b :: ys) = (decide (a = b) && N0 xs ys) := (rfl)
@[go_sem] theorem abp : N0 [] [] = true := (rfl)
@[go_sem] theorem abq : FJ 0 [] [] = true := (rfl)
@[go_sem] theorem X4 (n : Nat) (k : IntKind) (a b : Int) (xs ys : List T) : FJ (n + 1) (.int k a :: xs) (.int k b :: ys) = FJ n xs ys := by simp [FJ]
theorem vY:∀ {n:Nat} {xs ys:List T},FJ n xs ys=true→xs.length=n∧jP xs ys=some (N0 xs ys)
 | 0,[],[],_=>⟨rfl,rfl⟩
 | 0,[],_::_,h=>by simp[FJ]at h
 | 0,_::_,_,h=>by simp[FJ]at h
 | n+1,[],_,h=>by simp[FJ]at h
 | n+1,x::xs,[],h=>by cases x<;>simp[FJ]at h
 | n+1,x::xs,y::ys,h=>by
   cases x<;>cases y<;>simp only[FJ,aLr,decide_eq_true_eq,aLt]at h
   obtain⟨rfl,h⟩:=h
   obtain⟨h1,h2⟩:=vY h
   exact⟨by simp[h1],by simp[jP,h2,N0,XM]⟩
@[go_sem] theorem UP (n : Nat) (xs ys : List T) (h : FJ n xs ys = true) : mF H (.ints n) false (some (.t (.agg xs))) (some (.t (.agg ys))) = some (.t (.bool (N0 xs ys)), H) := by
 obtain⟨h1,h2⟩:=vY h;simp[mF,NI,eqD,h1,h2]
@[go_sem] theorem Qz (n : Nat) (xs ys : List T) (h : FJ n xs ys = true) : mF H (.ints n) true (some (.t (.agg xs))) (some (.t (.agg ys))) = some (.t (.bool (!N0 xs ys)), H) := by
 obtain⟨h1,h2⟩:=vY h;simp[mF,NI,eqD,h1,h2]
@[go_sem] theorem X5 (id ep n : Nat) (h : 0 < n) : mF H .sl false (some (.ref id ep n)) (some .nil) = some (.t (.bool false), H) := by
 cases n with
 | zero=>omega
 | succ n=>rfl
@[go_sem] theorem X6 : mF H .sl false (some .nil) (some .nil) = some (.t (.bool true), H) := (rfl)
@[go_sem] theorem X7 : mF H .sl false (some (.t (.sl []))) (some .nil) = some (.ub, H) := (rfl)
@[go_sem] theorem UQ : mF H .sl true (some (.t (.sl []))) (some .nil) = some (.ub, H) := (rfl)
@[go_sem] theorem UR : mF H .sl true (some .nil) (some .nil) = some (.t (.bool false), H) := (rfl)
theorem LO(es:List T)(h:es≠[]):mF H .sl false (some (.t (.sl es))) (some .nil)=some (.t (.bool false),H):=by cases es<;>first | exact(h rfl).elim | rfl
def abr(a:D):Option (D×ae):=(aaT a).map fun d=>(d,H)
@[go_sem] theorem ahB (x : X) : evO call get H (.nc x) = (get x).bind (abr H) := (rfl)
@[go_sem] theorem adK (id off : Nat) : abr H (.bp id off) = some (.bp id off, H) := (rfl)
@[go_sem] theorem adL (id ep n i off : Nat) : abr H (.ap id ep n i off) = some (.ap id ep n i off, H) := (rfl)
@[go_sem] theorem adM (cs : List T) : abr H (.ep cs) = some (.ep cs, H) := (rfl)
def US(off:Nat)(a:D):Option (D×ae):=(Fm a off).map fun d=>(d,H)
@[go_sem] theorem ahC (x : X) (off : Nat) : evO call get H (.fa x off) = (get x).bind (US H off) := (rfl)
@[go_sem] theorem adN (id o off : Nat) : US H off (.bp id o) = some (.bp id (o + off), H) := (rfl)
@[go_sem] theorem adO (id ep n i o off : Nat) : US H off (.ap id ep n i o) = some (.ap id ep n i (o + off), H) := (rfl)
@[go_sem] theorem adP (cs : List T) (off : Nat) : US H off (.ep cs) = some (.ep (cs.drop off), H) := (rfl)
@[go_sem] theorem ahD (cs : List D) : cut cs 0 0 = some [] := by simp [cut]
@[go_sem] theorem ahE (c : D) (cs : List D) : cut (c :: cs) 0 1 = some [c] := by simp [cut]
@[go_sem] theorem ahF (c : D) (cs : List D) (n : Nat) : cut (c :: cs) 0 (n + 1) = jc c (cut cs 0 n) := by
 simp only[cut,jc];by_cases h:n≤cs.length<;>simp[h]
@[go_sem] theorem ahG (c : D) (cs : List D) (off n : Nat) : cut (c :: cs) (off + 1) n = cut cs off n := by
 simp only[cut,List.length_cons,List.drop_succ_cons]
 by_cases h:off+n≤cs.length
 · rw[if_pos h,if_pos (by omega)]
 · rw[if_neg h,if_neg (by omega)]
@[go_sem] theorem X8 (c : D) : dw false [c] = some c := (rfl)
@[go_sem] theorem X9 (cs : List D) : dw true cs = some (pC cs) := (rfl)
def mkA(cs:List D):Option (List T)→D
 | some ts=> .t (.agg ts)
 | none=> .agg cs
@[go_sem] theorem abt (cs : List D) (ts : List T) : mkA cs (some ts) = .t (.agg ts) := (rfl)
@[go_sem] theorem abu (cs : List D) : mkA cs none = .agg cs := (rfl)
@[go_sem] theorem abv (cs : List D) : pC cs = mkA cs (mu cs) := by unfold pC; cases mu cs <;> rfl
@[go_sem] theorem abw : mu [] = some [] := (rfl)
@[go_sem] theorem agj (x : T) (r : List D) : mu (.t x :: r) = jc x (mu r) := (rfl)
@[go_sem] theorem agk (r : List D) : mu (.nil :: r) = none := (rfl)
@[go_sem] theorem abx (a b c : Nat) (r : List D) : mu (.ref a b c :: r) = none := (rfl)
@[go_sem] theorem aby (a b c d e : Nat) (r : List D) : mu (.sub a b c d e :: r) = none := (rfl)
@[go_sem] theorem LP (l : List T) : mu (l.map .t) = some l := by induction l with | nil => rfl | cons a l ih => simp [mu, ih]
def Ya(off n:Nat)(agg:Bool)(a:D):Option (D×ae):=(qO a off n agg).map fun d=>(d,H)
@[go_sem] theorem ahH (x : X) (off n : Nat) (agg : Bool) : evO call get H (.fl x off n agg) = (get x).bind (Ya H off n agg) := (rfl)
def ofC(agg:Bool)(cs:Option (List D)):Option (D×ae):=(cs.bind (dw agg)).bind (adG H)
@[go_sem] theorem ahI (c : D) : ofC H false (some [c]) = some (c, H) := (rfl)
@[go_sem] theorem ahJ (cs : List D) : ofC H true (some cs) = some (pC cs, H) := (rfl)
@[go_sem] theorem agl (cs : List T) (off n : Nat) (agg : Bool) : Ya H off n agg (.t (.agg cs)) = ofC H agg (cut (cs.map .t) off n) := by
 simp only[Ya,qO,D.isAgg,if_true,D.cells,T.cells,ofC];cases (cut (cs.map .t) off n).bind (dw agg)<;>rfl
@[go_sem] theorem abz (cs : List D) (off n : Nat) (agg : Bool) : Ya H off n agg (.agg cs) = ofC H agg (cut cs off n) := by
 simp only[Ya,qO,D.isAgg,if_true,D.cells,ofC];cases (cut cs off n).bind (dw agg)<;>rfl
@[go_sem] theorem adQ (n : Nat) : idx (n : Int) = some n := by simp [idx]
@[go_sem] theorem ahK : idx 0 = some 0 := (rfl)
theorem QA{i:Int}(h:0≤i):idx i=some i.toNat:=by simp[idx,h]
def QB(sz:Nat)(x i:Option D):Option (D×ae):=x.bind fun a=>(i.bind intOf).bind fun n=>(yj H a n sz).map fun d=>(d,H)
@[go_sem] theorem ahL (x i : X) (sz : Nat) : evO call get H (.ia x i sz) = QB H sz (get x) (get i) := (rfl)
def LQ(sz:Nat)(e:T):Option (D×ae):=if e.cells.length=sz then some (.ep e.cells,H)else none
def adR(sz:Nat)(es:List T)(j:Nat):Option (D×ae):=es[j]?.bind (LQ H sz)
@[go_sem] theorem adS (sz : Nat) (es : List T) (j : Nat) : adR H sz es j = es[j]?.bind (LQ H sz) := (rfl)
@[go_sem] theorem adT (k : IntKind) (es : List T) (n : Int) (sz : Nat) : QB H sz (some (.t (.sl es))) (some (.t (.int k n))) = (idx n).bind (adR H sz es) := by
 simp only[QB,aLq,intOf,yj]
 cases idx n with
 | none=>rfl
 | some j=>
   simp only[aLq,adR]
   cases es[j]? with
   | none=>rfl
   | some e=>simp only[aLq,LQ];split<;>rfl
@[go_sem] theorem abA (k : IntKind) (n : Int) : LQ H 1 (.int k n) = some (.ep [.int k n], H) := (rfl)
@[go_sem] theorem Yb (b : Bool) : LQ H 1 (.bool b) = some (.ep [.bool b], H) := (rfl)
@[go_sem] theorem adU (es : List T) : LQ H 1 (.sl es) = some (.ep [.sl es], H) := (rfl)
def kO{α:Type}:Nat→List α→Bool
 | 0,[]=>true
 | n+1,_::r=>kO n r
 | _,_=>false
@[go_sem] theorem adV {α : Type} : kO 0 ([] : List α) = true := (rfl)
@[go_sem] theorem adW {α : Type} (n : Nat) (a : α) (l : List α) : kO (n + 1) (a :: l) = kO n l := (rfl)
theorem eL{α:Type}:∀ {n:Nat} {l:List α},kO n l=true↔l.length=n
 | 0,[]=>by simp[kO]
 | 0,_::_=>by simp[kO]
 | n+1,[]=>by simp[kO]
 | n+1,_::r=>by simp only[kO,List.length_cons,Nat.add_right_cancel_iff];exact eL
@[go_sem] theorem abB (cs : List T) (sz : Nat) : LQ H sz (.agg cs) = if kO sz cs = true then some (.ep cs, H) else none := by
 by_cases h:cs.length=sz
 · rw[LQ,if_pos (show(T.agg cs).cells.length=sz from h),if_pos (eL.2 h)];rfl
 · rw[LQ,if_neg (show ¬(T.agg cs).cells.length=sz from h),if_neg fun e=>h (eL.1 e)]
def QC(sz id ep n j:Nat):Option Obj→Option (D×ae)
 | some (.arr sz' _ ep' es)=>if ep=ep'∧n=es.length then(if j<n∧sz'=sz then some (.ap id ep n j 0,H)else none)else none
 | _=>none
@[go_sem] theorem abC (k : IntKind) (id ep n : Nat) (i : Int) (sz : Nat) : QB H sz (some (.ref id ep n)) (some (.t (.int k i))) = (idx i).bind fun j => QC H sz id ep n j H[id]? := by
 simp only[QB,aLq,intOf,yj]
 cases idx i with
 | none=>rfl
 | some j=>
   simp only[aLq,eJ]
   generalize H[id]?=o
   rcases o with _ | (_ | ⟨sz',pin,ep',es⟩)
   · rfl
   · rfl
   · simp only[QC]
     by_cases h:ep=ep'∧n=es.length
     · rw[if_pos h,if_pos h,aLq];split<;>rfl
     · rw[if_neg h,if_neg h];rfl
@[go_sem] theorem Yc (sz id ep n j sz' : Nat) (pin : Bool) (ep' : Nat) (es : List D) : QC H sz id ep n j (some (.arr sz' pin ep' es)) =
 if ep=ep'∧n=es.length then(if j<n∧sz'=sz then some (.ap id ep n j 0,H)else none)else none:=(rfl)
def QD(sz id ep n lo hi j:Nat):Option Obj→Option (D×ae)
 | some (.arr sz' _ ep' es)=>if ep=ep'∧n=es.length then(if lo+j<hi∧hi≤n∧sz'=sz then some (.ap id ep n (lo+j) 0,H)else none)else none
 | _=>none
@[go_sem] theorem abD (k : IntKind) (id ep n lo hi : Nat) (i : Int) (sz : Nat) : QB H sz (some (.sub id ep n lo hi)) (some (.t (.int k i))) = (idx i).bind fun j => QD H sz id ep n lo hi j H[id]? := by
 simp only[QB,aLq,intOf,yj]
 cases idx i with
 | none=>rfl
 | some j=>
   simp only[aLq,eJ]
   generalize H[id]?=o
   rcases o with _ | (_ | ⟨sz',pin,ep',es⟩)
   · rfl
   · rfl
   · simp only[QD]
     by_cases h:ep=ep'∧n=es.length
     · rw[if_pos h,if_pos h,aLq];split<;>rfl
     · rw[if_neg h,if_neg h];rfl
@[go_sem] theorem Yd (sz id ep n lo hi j sz' : Nat) (pin : Bool) (ep' : Nat) (es : List D) : QD H sz id ep n lo hi j (some (.arr sz' pin ep' es)) =
 if ep=ep'∧n=es.length then(if lo+j<hi∧hi≤n∧sz'=sz then some (.ap id ep n (lo+j) 0,H)else none)else none:=(rfl)
def adX(len sz:Nat)(agg:Bool)(x i:Option D):Option (D×ae):=x.bind fun a=>(i.bind intOf).bind fun n=>(idx n).bind fun j=>(xy a j len sz agg).map fun d=>(d,H)
def Ye(len sz:Nat)(agg:Bool)(a:D)(j:Nat):Option (D×ae):=(xy a j len sz agg).map fun d=>(d,H)
@[go_sem] theorem ahM (x i : X) (len sz : Nat) (agg : Bool) : evO call get H (.ix x i len sz agg) = adX H len sz agg (get x) (get i) := (rfl)
@[go_sem] theorem adY (len sz : Nat) (agg : Bool) (a : D) (k : IntKind) (n : Int) : adX H len sz agg (some a) (some (.t (.int k n))) = (idx n).bind (Ye H len sz agg a) := by
 simp only[adX,aLq,intOf];cases idx n<;>rfl
@[go_sem] theorem abE (len j : Nat) (ts : List T) (h : j < len) (hs : (ts.all fun t => t.scalar) = true) : Ye H len 1 false (.t (.agg ts)) j = (ts[j]?).map fun t => (.t t, H) := by
 have h0:len≠0:=by omega
 unfold Ye xy
 rw[if_neg h0,if_pos h]
 unfold qO cut
 simp only[D.isAgg,D.cells,T.cells,if_true,Nat.mul_one,List.length_map]
 by_cases hj:j<ts.length
 · rw[if_pos (by omega),aLc hj]
   have e:((ts.map D.t).drop j).take 1=[D.t ts[j]]:=by
    rw[List.drop_eq_getElem_cons (by simpa using hj)];simp
   rw[e];rfl
 · rw[if_neg (by omega),aLm (by omega)];rfl
def QE(len sz:Nat)(x i:Option D):Option (D×ae):=x.bind fun a=>(i.bind intOf).bind fun n=>(idx n).bind fun j=>if j<len then(Fm a (j*sz)).map fun d=>(d,H)else none
@[go_sem] theorem agm (x i : X) (len sz : Nat) : evO call get H (.iaa x i len sz) = QE H len sz (get x) (get i) := (rfl)
def agn(len sz:Nat)(a:D)(j:Nat):Option (D×ae):=if j<len then US H (j*sz) a else none
@[go_sem] theorem adZ (len sz : Nat) (a : D) (j : Nat) : agn H len sz a j = if j < len then US H (j * sz) a else none := (rfl)
@[go_sem] theorem abF (len sz : Nat) (a : D) (k : IntKind) (n : Int) : QE H len sz (some a) (some (.t (.int k n))) = (idx n).bind (agn H len sz a) := by
 simp only[QE,aLq,intOf];cases idx n<;>rfl
def KB(n:Nat)(agg:Bool)(a:D):Option (D×ae):=(sH H a n agg).map fun d=>(d,H)
@[go_sem] theorem ahN (x : X) (n : Nat) (agg : Bool) : evO call get H (.ld x n agg) = (get x).bind (KB H n agg) := (rfl)
def LR(off n:Nat)(agg:Bool):Option Obj→Option (D×ae)
 | some (.box cs)=>ofC H agg (cut cs off n)
 | _=>none
@[go_sem] theorem abG (off n : Nat) (agg : Bool) (cs : List D) : LR H off n agg (some (.box cs)) = ofC H agg (cut cs off n) := (rfl)
@[go_sem] theorem ad0 (id off n : Nat) (agg : Bool) : KB H n agg (.bp id off) = LR H off n agg H[id]? := by
 simp only[KB,sH]
 generalize H[id]?=o
 rcases o with _ | (cs | _)
 · rfl
 · simp only[LR,ofC];cases (cut cs off n).bind (dw agg)<;>rfl
 · rfl
@[go_sem] theorem ad1 (cs : List T) (n : Nat) (agg : Bool) : KB H n agg (.ep cs) = ofC H agg (cut (cs.map .t) 0 n) := by
 simp only[KB,sH,ofC];cases (cut _ 0 n).bind (dw agg)<;>rfl
def abH(off n:Nat)(agg:Bool)(e:D):Option (D×ae):=ofC H agg (cut e.cells off n)
@[go_sem] theorem ad2 (off n : Nat) (agg : Bool) (e : D) : abH H off n agg e = ofC H agg (cut e.cells off n) := (rfl)
def QF(ep m i off n:Nat)(agg:Bool):Option Obj→Option (D×ae)
 | some (.arr _ _ ep' es)=>if ep=ep'∧m=es.length then es[i]?.bind (abH H off n agg)else none
 | _=>none
@[go_sem] theorem abI (ep m i off n : Nat) (agg : Bool) (sz : Nat) (pin : Bool) (ep' : Nat) (es : List D) :
 QF H ep m i off n agg (some (.arr sz pin ep' es))=if ep=ep'∧m=es.length then es[i]?.bind (abH H off n agg)else none:=(rfl)
@[go_sem] theorem ad3 (id ep m i off n : Nat) (agg : Bool) : KB H n agg (.ap id ep m i off) = QF H ep m i off n agg H[id]? := by
 simp only[KB,sH,eJ]
 generalize H[id]?=o
 rcases o with _ | (_ | ⟨sz',pin,ep',es⟩)
 · rfl
 · rfl
 · simp only[QF]
   by_cases h:ep=ep'∧m=es.length
   · rw[if_pos h,if_pos h,aLq]
     cases es[i]? with
     | none=>rfl
     | some e=>simp only[aLq,abH,ofC];cases (cut e.cells off n).bind (dw agg)<;>rfl
   · rw[if_neg h,if_neg h];rfl
@[go_sem] theorem UT (cs : List D) : (D.agg cs).cells = cs := (rfl)
@[go_sem] theorem abJ (x : T) : (D.t x).cells = x.cells.map .t := (rfl)
@[go_sem] theorem UU : D.nil.cells = [.nil] := (rfl)
@[go_sem] theorem Yf (a b : Nat) : (D.bp a b).cells = [.bp a b] := (rfl)
@[go_sem] theorem UW (a b c : Nat) : (D.ref a b c).cells = [.ref a b c] := (rfl)
@[go_sem] theorem UX (a b c d e : Nat) : (D.sub a b c d e).cells = [.sub a b c d e] := (rfl)
@[go_sem] theorem Yg (f : Nat) (cs : List D) : (D.fn f cs).cells = [.fn f cs] := (rfl)
@[go_sem] theorem QG : D.nilp.cells = [.nilp] := (rfl)
@[go_sem] theorem UY (cs : List T) : (T.agg cs).cells = cs := (rfl)
@[go_sem] theorem UZ (k : IntKind) (n : Int) : (T.int k n).cells = [.int k n] := (rfl)
@[go_sem] theorem QH (b : Bool) : (T.bool b).cells = [.bool b] := (rfl)
@[go_sem] theorem U0 (b : ByteArray) : (T.str b).cells = [.str b] := (rfl)
@[go_sem] theorem Yh (es : List T) : (T.sl es).cells = [.sl es] := (rfl)
def fits(n:Nat)(v:D):Bool:=decide (v.cells.length=n)&&v.gB
section
variable (n : Nat)
@[go_sem] theorem fits_int (k : IntKind) (a : Int) : fits 1 (.t (.int k a)) = true := (rfl)
@[go_sem] theorem fits_bool (b : Bool) : fits 1 (.t (.bool b)) = true := (rfl)
@[go_sem] theorem ad4 (es : List T) : fits 1 (.t (.sl es)) = true := (rfl)
@[go_sem] theorem abK : fits 1 .nil = true := (rfl)
@[go_sem] theorem abL (a b c : Nat) : fits 1 (.ref a b c) = true := (rfl)
@[go_sem] theorem abM (a b c d e : Nat) : fits 1 (.sub a b c d e) = true := (rfl)
@[go_sem] theorem ad5 (a b : Nat) : fits 1 (.bp a b) = true := (rfl)
@[go_sem] theorem ad6 (f : Nat) (cs : List D) : fits 1 (.fn f cs) = true := (rfl)
@[go_sem] theorem abN (cs : List D) : fits n (.agg cs) = kO n cs := by rw [Bool.eq_iff_iff, eL]; show (decide (cs.length = n) && true) = true ↔ _; simp
@[go_sem] theorem Yi (cs : List T) : fits n (.t (.agg cs)) = kO n cs := by rw [Bool.eq_iff_iff, eL]; simp [fits, D.cells, T.cells, D.gB]
end
@[go_sem] theorem QI {α : Type} (cs : List α) : aL cs 0 [] = some cs := by simp [aL]
@[go_sem] theorem QJ {α : Type} (c x : α) (cs xs : List α) : aL (c :: cs) 0 (x :: xs) = jc x (aL cs 0 xs) := by
 simp only[aL,jc];by_cases h:xs.length≤cs.length<;>simp[h]
@[go_sem] theorem QK {α : Type} (c : α) (cs : List α) (off : Nat) (xs : List α) : aL (c :: cs) (off + 1) xs = jc c (aL cs off xs) := by
 simp only[aL,jc,List.length_cons]
 by_cases h:off+xs.length≤cs.length
 · rw[if_pos h,if_pos (by omega)];simp[show off+1+xs.length=(off+xs.length)+1 by omega]
 · rw[if_neg h,if_neg (by omega)];rfl
def QL(n:Nat)(live:List (Nat×Nat))(a x:Option D):Option (D×ae):=a.bind fun p=>x.bind fun d=>(tG H p d n).bind fun H'=>(mw H' p live).map fun H''=>(.tup [],H'')
@[go_sem] theorem ahO (a x : X) (n : Nat) (live : List (Nat × Nat)) : evO call get H (.st a x n live) = QL H n live (get a) (get x) := (rfl)
def xO(H:ae)(id:Nat)(live:List (Nat×Nat)):Option (D×ae):=(mw H (.bp id 0) live).map fun H'=>(.tup [],H')
def DQ(id:Nat)(live:List (Nat×Nat))(cs:List D):Option (D×ae):=xO (H.set id (.box cs)) id live
@[go_sem] theorem Yj (id : Nat) (live : List (Nat × Nat)) (cs : List D) : DQ H id live cs = xO (H.set id (.box cs)) id live := (rfl)
@[go_sem] theorem U1 (H : ae) (id : Nat) : xO H id [] = some (.tup [], H) := (rfl)
def QM(id off:Nat)(live:List (Nat×Nat))(xs:List D):Option Obj→Option (D×ae)
 | some (.box cs)=>(aL cs off xs).bind (DQ H id live)
 | _=>none
@[go_sem] theorem abO (id off : Nat) (live : List (Nat × Nat)) (xs cs : List D) : QM H id off live xs (some (.box cs)) = (aL cs off xs).bind (DQ H id live) := (rfl)
@[go_sem] theorem ad7 (n id off : Nat) (live : List (Nat × Nat)) (v : D) : QL H n live (some (.bp id off)) (some v) = if fits n v = true then QM H id off live v.cells H[id]? else none := by
 by_cases h:fits n v=true
 case neg=>
  rw[if_neg h]
  simp only[fits,aLr,decide_eq_true_eq]at h
  simp only[QL,aLq,tG,if_neg h];rfl
 rw[if_pos h]
 simp only[fits,aLr,decide_eq_true_eq]at h
 simp only[QL,aLq,tG,h.1,h.2,and_self,if_true]
 generalize H[id]?=o
 rcases o with _ | (cs | _)
 · rfl
 · simp only[QM]
   cases aL cs off v.cells with
   | none=>rfl
   | some cs'=>simp only[aLw,aLq,DQ,xO,mw]
 · rfl
def Au(id sz ep i:Nat)(es:List D)(agg:Bool)(cs:List D):Option (D×ae):=(dw agg cs).bind fun e=>if e.gB then some (.tup [],H.set id (.arr sz false ep (es.set i e)))else none
def abP(id sz ep i off:Nat)(es xs:List D)(e:D):Option (D×ae):=(aL e.cells off xs).bind (Au H id sz ep i es e.isAgg)
@[go_sem] theorem ad8 (id sz ep i off : Nat) (es xs : List D) (e : D) : abP H id sz ep i off es xs e = (aL e.cells off xs).bind (Au H id sz ep i es e.isAgg) := (rfl)
@[go_sem] theorem Yk (cs : List D) : (D.agg cs).isAgg = true := (rfl)
@[go_sem] theorem U3 (cs : List T) : (D.t (.agg cs)).isAgg = true := (rfl)
@[go_sem] theorem Yl (k : IntKind) (n : Int) : (D.t (.int k n)).isAgg = false := (rfl)
@[go_sem] theorem U4 (b : Bool) : (D.t (.bool b)).isAgg = false := (rfl)
@[go_sem] theorem Ym (b : ByteArray) : (D.t (.str b)).isAgg = false := (rfl)
@[go_sem] theorem abQ (es : List T) : (D.t (.sl es)).isAgg = false := (rfl)
@[go_sem] theorem Yn : D.nil.isAgg = false := (rfl)
@[go_sem] theorem Yo (a b c : Nat) : (D.ref a b c).isAgg = false := (rfl)
@[go_sem] theorem Yp (a b c d e : Nat) : (D.sub a b c d e).isAgg = false := (rfl)
@[go_sem] theorem ad9 (id sz ep i : Nat) (es : List D) (x : T) : Au H id sz ep i es false [.t x] = some (.tup [], H.set id (.arr sz false ep (es.set i (.t x)))) := (rfl)
@[go_sem] theorem Yq (id sz ep i : Nat) (es : List D) : Au H id sz ep i es false [.nil] = some (.tup [], H.set id (.arr sz false ep (es.set i .nil))) := (rfl)
@[go_sem] theorem Yr (id sz ep i a b c : Nat) (es : List D) : Au H id sz ep i es false [.ref a b c] = some (.tup [], H.set id (.arr sz false ep (es.set i (.ref a b c)))) := (rfl)
theorem Cn(cs:List D):(pC cs).gB=true:=by unfold pC;cases mu cs<;>rfl
@[go_sem] theorem aea (id sz ep i : Nat) (es cs : List D) : Au H id sz ep i es true cs = some (.tup [], H.set id (.arr sz false ep (es.set i (pC cs)))) := by
 simp[Au,dw,Cn]
def QN(id ep m i off:Nat)(xs:List D):Option Obj→Option (D×ae)
 | some (.arr sz pin ep' es)=>if ep=ep'∧m=es.length then(if pin then none else es[i]?.bind (abP H id sz ep i off es xs))else none
 | _=>none
@[go_sem] theorem abR (id ep m i off : Nat) (xs : List D) (sz : Nat) (pin : Bool) (ep' : Nat) (es : List D) :
 QN H id ep m i off xs (some (.arr sz pin ep' es))=if ep=ep'∧m=es.length then(if pin=true then none else es[i]?.bind (abP H id sz ep i off es xs))else none:=(rfl)
@[go_sem] theorem aeb (n id ep m i off : Nat) (v : D) : QL H n [] (some (.ap id ep m i off)) (some v) = if fits n v = true then QN H id ep m i off v.cells H[id]? else none := by
 by_cases h:fits n v=true
 case neg=>
  rw[if_neg h]
  simp only[fits,aLr,decide_eq_true_eq]at h
  simp only[QL,aLq,tG,if_neg h];rfl
 rw[if_pos h]
 simp only[fits,aLr,decide_eq_true_eq]at h
 simp only[QL,aLq,tG,h.1,h.2,and_self,if_true,eJ]
 generalize H[id]?=o
 rcases o with _ | (_ | ⟨sz',pin,ep',es⟩)
 · rfl
 · rfl
 · simp only[QN]
   by_cases h:ep=ep'∧m=es.length
   · rw[if_pos h,if_pos h,aLq]
     cases pin with
     | true=>rfl
     | false=>
       simp only[aLt,if_false]
       cases es[i]? with
       | none=>rfl
       | some e=>
         simp only[aLq,abP]
         cases aL e.cells off v.cells with
         | none=>rfl
         | some cs'=>
           simp only[aLq,Au]
           cases dw e.isAgg cs' with
           | none=>rfl
           | some e'=>
             simp only[aLq]
             by_cases h3:e'.gB=true
             · rw[if_pos h3,if_pos h3,h.1];rfl
             · rw[if_neg h3,if_neg h3];rfl
   · rw[if_neg h,if_neg h];rfl
def QO(zero:List D)(ps:List (Nat×Nat×D)):Option (D×ae):=(qM zero ps).map fun cs=>(pC cs,H)
@[go_sem] theorem ahP (zero : List D) (parts : List (Nat × Nat × X)) : evO call get H (.bd zero parts) = (jR get parts).bind (QO H zero) := (rfl)
@[go_sem] theorem N1 : jR get [] = some [] := (rfl)
def Ys(off n:Nat)(r:List (Nat×Nat×X))(d:D):Option (List (Nat×Nat×D)):=jc (off,n,d) (jR get r)
@[go_sem] theorem abS (off n : Nat) (r : List (Nat × Nat × X)) (d : D) : Ys get off n r d = jc (off, n, d) (jR get r) := (rfl)
@[go_sem] theorem LS (off n : Nat) (x : X) (r : List (Nat × Nat × X)) : jR get ((off, n, x) :: r) = (get x).bind (Ys get off n r) := (rfl)
@[go_sem] theorem abT (zero : List D) : QO H zero [] = some (pC zero, H) := (rfl)
def bdC(r:List (Nat×Nat×D))(z:List D):Option (D×ae):=QO H z r
@[go_sem] theorem ago (r : List (Nat × Nat × D)) (z : List D) : bdC H r z = QO H z r := (rfl)
@[go_sem] theorem Yt (zero : List D) (off n : Nat) (x : D) (r : List (Nat × Nat × D)) : QO H zero ((off, n, x) :: r) = if fits n x = true then (aL zero off x.cells).bind (bdC H r) else none := by
 by_cases h:fits n x=true
 case neg=>
  rw[if_neg h]
  have h2:(x.gB&&x.cells.length==n)=false:=by rw[← Bool.not_eq_true,Bool.and_comm];simpa [fits]using h
  simp only[QO,qM,h2];rfl
 rw[if_pos h]
 simp only[fits,aLr,decide_eq_true_eq]at h
 simp only[QO,qM,h.1,h.2,beq_self_eq_true,Bool.and_self,if_true]
 cases aL zero off x.cells<;>rfl
def bK(n:Nat):List T→Bool
 | []=>true
 | x::r=>kO n x.cells&&bK n r
@[go_sem] theorem N2 (n : Nat) : bK n [] = true := (rfl)
@[go_sem] theorem rB (n : Nat) (x : T) (r : List T) : bK n (x :: r) = (kO n x.cells && bK n r) := (rfl)
def xP(sz:Nat)(ds:List D):Option (D×ae):=if ds.all (fun d=>d.cells.length==sz)then(aW (frz H depth) ds).map fun ts=>(.t (.sl ts),pins H (ds.flatMap (dC H depth)))else none
@[go_sem] theorem ahQ (xs : List X) (sz : Nat) : evO call get H (.bs xs sz) = (aW get xs).bind (xP H sz) := (rfl)
theorem Yu(sz:Nat)(ds:List D)(ts:List T)(h:mu ds=some ts)(hc:bK sz ts=true):xP H sz ds=some (.t (.sl ts),H):=by
 have key:∀(ds:List D) (ts:List T),mu ds=some ts→bK sz ts=true→ds.all (fun d=>d.cells.length==sz)=true∧aW (frz H depth) ds=some ts∧ds.flatMap (dC H depth)=[]:=by
  intro ds
  induction ds with
  | nil=>intro ts h hc;simp[mu]at h;subst h;simp[aW]
  | cons d ds ih=>
    intro ts h hc
    cases d with
    | t x=>
      simp only[mu,aLb]at h
      obtain⟨r,hr,rfl⟩:=h
      simp only[bK,aLr,eL]at hc
      obtain⟨h1,h2,h3⟩:=ih r hr hc.2
      refine⟨by rw[List.all_cons,h1,Bool.and_true];simp[D.cells,hc.1],by simp[aW,frz,h2],by rw[List.flatMap_cons,h3];simp[dC]⟩
    | _=>simp[mu]at h
 obtain⟨h1,h2,h3⟩:=key ds ts h hc
 simp[xP,h1,h2,h3,pins]
theorem nV(sz:Nat)(ts:List T):xP H sz (ts.map D.t)=if bK sz ts=true then some (.t (.sl ts),H)else none:=by
 by_cases h:bK sz ts=true
 · rw[if_pos h];exact Yu H sz _ ts (LP ts) h
 · rw[if_neg h]
   have:(ts.map D.t).all (fun d=>d.cells.length==sz)=false:=by
    rw[← Bool.not_eq_true];intro ha;apply h
    clear h
    induction ts with
    | nil=>rfl
    | cons a r ih=>
      simp only[List.map_cons,List.all_cons,aLr,beq_iff_eq]at ha
      simp only[bK,aLr,eL]
      exact⟨by simpa [D.cells]using ha.1,ih ha.2⟩
   simp only[xP,this];rfl
@[go_sem] theorem agp (sz : Nat) : xP H sz [] = some (.t (.sl []), H) := (rfl)
@[go_sem] theorem agq (sz : Nat) (a : T) : xP H sz [.t a] = if bK sz [a] = true then some (.t (.sl [a]), H) else none := nV H sz [a]
@[go_sem] theorem agr (sz : Nat) (a b : T) : xP H sz [.t a, .t b] = if bK sz [a, b] = true then some (.t (.sl [a, b]), H) else none := nV H sz [a, b]
@[go_sem] theorem ags (sz : Nat) (a b c : T) : xP H sz [.t a, .t b, .t c] = if bK sz [a, b, c] = true then some (.t (.sl [a, b, c]), H) else none := nV H sz [a, b, c]
@[go_sem] theorem agt (sz : Nat) (a b c d : T) : xP H sz [.t a, .t b, .t c, .t d] = if bK sz [a, b, c, d] = true then some (.t (.sl [a, b, c, d]), H) else none := nV H sz [a, b, c, d]
@[go_sem] theorem agu (sz : Nat) (a b c d e : T) : xP H sz [.t a, .t b, .t c, .t d, .t e] = if bK sz [a, b, c, d, e] = true then some (.t (.sl [a, b, c, d, e]), H) else none := nV H sz [a, b, c, d, e]
def Yv(a:D):Option (D×ae):=(aaS a).map fun(n:Nat)=>(D.t (.int .i64 (n:Int)),H)
@[go_sem] theorem ahR (x : X) : evO call get H (.ln x) = (get x).bind (Yv H) := (rfl)
@[go_sem] theorem aec (es : List T) : Yv H (.t (.sl es)) = some (I es.length, H) := (rfl)
@[go_sem] theorem abU : Yv H .nil = some (I 0, H) := (rfl)
@[go_sem] theorem abV (id ep n : Nat) : Yv H (.ref id ep n) = some (I n, H) := (rfl)
@[go_sem] theorem abW (id ep n lo hi : Nat) : Yv H (.sub id ep n lo hi) = some (I ((hi - lo : Nat) : Int), H) := (rfl)
def Yw(ds:List D):Option (D×ae):=(W8 ds).map fun d=>(d,H)
def Yx(ds:List D):Option (D×ae):=(W9 ds).map fun d=>(d,H)
@[go_sem] theorem ahS (xs : List X) : evO call get H (.mn xs) = (aW get xs).bind (Yw H) := (rfl)
@[go_sem] theorem ahT (xs : List X) : evO call get H (.mx xs) = (aW get xs).bind (Yx H) := (rfl)
@[go_sem] theorem agv (k : IntKind) (a b : Int) : Yw H [.t (.int k a), .t (.int k b)] = some (.t (.int k (min a b)), H) := by
 simp only[Yw,W8,wY,if_true,aLw];congr 4;omega
@[go_sem] theorem agw (k : IntKind) (a b : Int) : Yx H [.t (.int k a), .t (.int k b)] = some (.t (.int k (max a b)), H) := by
 simp only[Yx,W9,wY,if_true,aLw];congr 4;omega
@[go_sem] theorem agx (k : IntKind) (a b c : Int) : Yw H [.t (.int k a), .t (.int k b), .t (.int k c)] = some (.t (.int k (min (min a b) c)), H) := by
 simp only[Yw,W8,wY,if_true,aLw];congr 4;omega
@[go_sem] theorem agy (k : IntKind) (a b c : Int) : Yx H [.t (.int k a), .t (.int k b), .t (.int k c)] = some (.t (.int k (max (max a b) c)), H) := by
 simp only[Yx,W9,wY,if_true,aLw];congr 4;omega
def Av(sz:Nat)(x:Option D)(lo hi:Option (Option Int)):Option (D×ae):=x.bind fun a=>lo.bind fun l=>hi.bind fun h=>(kE H a l h sz).map fun d=>(d,H)
@[go_sem] theorem ahU (x : X) (lo hi : Option X) (sz : Nat) : evO call get H (.sc x lo hi sz) = Av H sz (get x) (Fo get lo) (Fo get hi) := (rfl)
def Yy:D→Option (Option Int)
 | .t (.int _ n)=>some (some n)
 | _=>none
@[go_sem] theorem abX (k : IntKind) (n : Int) : Yy (.t (.int k n)) = some (some n) := (rfl)
@[go_sem] theorem Yz : Fo get none = some none := (rfl)
@[go_sem] theorem YA (x : X) : Fo get (some x) = (get x).bind Yy := by
 simp only[Fo];cases get x with
 | none=>rfl
 | some d=>cases d with
   | t y=>cases y<;>rfl
   | _=>rfl
def aed(i:Nat)(a:D):Option (D×ae):=(Xa i a).map fun d=>(d,H)
@[go_sem] theorem ahV (x : X) (i : Nat) : evO call get H (.ex x i) = (get x).bind (aed H i) := (rfl)
def exO:Option D→Option (D×ae)
 | some d=>some (d,H)
 | none=>none
@[go_sem] theorem abY (d : D) : exO H (some d) = some (d, H) := (rfl)
@[go_sem] theorem abZ (i : Nat) (ds : List D) : aed H i (.tup ds) = exO H ds[i]? := by simp only [aed, Xa, exO]; cases ds[i]? <;> rfl
def aee(f:Nat)(ds:List D):Option (D×ae):=some (.fn f ds,H)
@[go_sem] theorem aef (f : Nat) (ds : List D) : aee H f ds = some (.fn f ds, H) := (rfl)
@[go_sem] theorem ahW (f : Nat) (caps : List X) : evO call get H (.mf f caps) = (aW get caps).bind (aee H f) := by simp only [evO, aee]; cases aW get caps <;> rfl
@[go_sem] theorem ahX (sz : Nat) : evO call get H (.nw sz) = some (.ref H.length 0 0, H ++ [.arr sz false 0 []]) := (rfl)
def alP(p:List D×ae):Option (D×ae):=some (.bp H.length 0,H++ .box p.1::p.2)
@[go_sem] theorem agz (cs : List D) (os : ae) : alP H (cs, os) = some (.bp H.length 0, H ++ .box cs :: os) := (rfl)
@[go_sem] theorem ahY (zero : List D) (live : List (Nat × Nat)) : evO call get H (.al zero live) = alP H (bD (H.length + 1) zero live) := (rfl)
@[go_sem] theorem QP (base : Nat) (cs : List D) : bD base cs [] = (cs, []) := (rfl)
def aeg(n:Nat)(a:D):Option (D×ae):=if a.cells.length=n∧a.gB then some (.bp H.length 0,H++[.box a.cells])else none
@[go_sem] theorem ahZ (x : X) (n : Nat) : evO call get H (.bx x n) = (get x).bind (aeg H n) := (rfl)
@[go_sem] theorem aeh (n : Nat) (a : D) : aeg H n a = if fits n a = true then some (.bp H.length 0, H ++ [.box a.cells]) else none := by
 simp[aeg,fits]
def ab0(sz:Nat)(zero:D)(n:Option Nat):Option (D×ae):=n.bind fun m=>if m≤lim then some (.ref H.length 0 m,H++[.arr sz false 0 (List.replicate m zero)])else none
def mkN(sz:Nat)(zero:D):D→Option (D×ae)
 | .t (.int _ n)=>ab0 H sz zero (idx n)
 | _=>none
@[go_sem] theorem aei (sz : Nat) (zero : D) (k : IntKind) (n : Int) : mkN H sz zero (.t (.int k n)) = ab0 H sz zero (idx n) := (rfl)
@[go_sem] theorem ah0 (len : X) (zero : D) (sz : Nat) : evO call get H (.mk len zero sz) = (get len).bind (mkN H sz zero) := by
 simp only[evO];cases get len with
 | none=>rfl
 | some d=>cases d with
   | t y=>cases y<;>rfl
   | _=>rfl
@[go_sem] theorem aej (sz : Nat) (zero : D) (m : Nat) (h : m ≤ 4294967296) : ab0 H sz zero (some m) = some (.ref H.length 0 m, H ++ [.arr sz false 0 (List.replicate m zero)]) := by
 simp[ab0,lim,h]
def LV(zero:T)(n:Option Nat):Option (D×ae):=n.bind fun m=>if m≤lim then some (.t (.sl (List.replicate m zero)),H)else none
def agA(zero:T):D→Option (D×ae)
 | .t (.int _ n)=>LV H zero (idx n)
 | _=>none
@[go_sem] theorem ab1 (zero : T) (k : IntKind) (n : Int) : agA H zero (.t (.int k n)) = LV H zero (idx n) := (rfl)
@[go_sem] theorem agB (len : X) (zero : T) (sz : Nat) : evO call get H (.mkt len zero sz) = (get len).bind (agA H zero) := by
 simp only[evO];cases get len with
 | none=>rfl
 | some d=>cases d with
   | t y=>cases y<;>rfl
   | _=>rfl
@[go_sem] theorem ab2 (zero : T) (m : Nat) (h : m ≤ 4294967296) : LV H zero (some m) = some (.t (.sl (List.replicate m zero)), H) := by
 simp[LV,lim,h]
def LW(sz:Nat)(zero:T)(n:Option Nat):Option (D×ae):=n.bind fun m=>if m≤lim∧0<m then some (.ref H.length 0 m,H++[.arr sz false 0 (List.replicate m (.t zero))])else none
def agC(sz:Nat)(zero:T):D→Option (D×ae)
 | .t (.int _ n)=>LW H sz zero (idx n)
 | _=>none
@[go_sem] theorem ab3 (sz : Nat) (zero : T) (k : IntKind) (n : Int) : agC H sz zero (.t (.int k n)) = LW H sz zero (idx n) := (rfl)
@[go_sem] theorem agD (len : X) (zero : T) (sz : Nat) : evO call get H (.mkn len zero sz) = (get len).bind (agC H sz zero) := by
 simp only[evO];cases get len with
 | none=>rfl
 | some d=>cases d with
   | t y=>cases y<;>rfl
   | _=>rfl
@[go_sem] theorem ab4 (sz : Nat) (zero : T) (m : Nat) (h : m ≤ 4294967296) (h0 : 0 < m) : LW H sz zero (some m) = some (.ref H.length 0 m, H ++ [.arr sz false 0 (List.replicate m (.t zero))]) := by
 simp[LW,lim,h,h0]
def kP(sz:Nat)(fz:Bool)(x y:Option D):Option (D×ae):=x.bind fun a=>y.bind fun b=>jw H a b fz sz
@[go_sem] theorem agE (x y : X) (fz : Bool) (sz : Nat) : evO call get H (.app x y fz sz) = kP H sz fz (get x) (get y) := (rfl)
def tW(sz id ep n:Nat)(ys:List D):Option Obj→Option (D×ae)
 | some (.arr sz' pin ep' es)=>if ep=ep'∧n=es.length∧sz'=sz∧n+ys.length≤lim then some (.ref id ep (n+ys.length),H.set id (.arr sz pin ep (es++ys)))else none
 | _=>none
@[go_sem] theorem YB (sz id ep n : Nat) (ys : List D) (pin : Bool) (es : List D) :
 tW H sz id ep n ys (some (.arr sz pin ep es))=if n=es.length then(if n+ys.length≤4294967296 then some (.ref id ep (n+ys.length),H.set id (.arr sz pin ep (es++ys)))else none)else none:=by
 simp only[tW,lim]
 by_cases h1:n=es.length
 · rw[if_pos h1]
   by_cases h2:n+ys.length≤4294967296
   · rw[if_pos h2,if_pos ⟨trivial,h1,trivial,h2⟩]
   · rw[if_neg h2,if_neg fun h=>h2 h.2.2.2]
 · rw[if_neg h1,if_neg fun h=>h1 h.2.1]
theorem rC(ts:List T):aW (fun d=>(frz H depth d).map D.t) (ts.map D.t)=some (ts.map D.t):=by
 induction ts with
 | nil=>rfl
 | cons t ts ih=>simp[aW,frz,ih]
theorem DR(ts:List T):(ts.map D.t).flatMap (dC H depth)=[]:=by
 induction ts with
 | nil=>rfl
 | cons t ts ih=>rw[List.map_cons,List.flatMap_cons,ih];simp[dC,depth]
theorem Aw(sz:Nat)(fz:Bool)(x:D)(ts:List T)(h:bA sz (ts.map D.t)=false):kP H sz fz (some x) (some (.t (.sl ts)))=none:=by
 have e1:(if fz then aW (fun d=>(frz H depth d).map D.t) (ts.map D.t)else some (ts.map D.t))=some (ts.map D.t):=by
  cases fz<;>simp[rC]
 simp only[kP,aLq,jw,elems,e1,h,aLt,if_false]
def kQ(sz:Nat)(ts:List T):Bool:=bA sz (ts.map D.t)
theorem Ie(sz id ep n:Nat)(fz:Bool)(ts:List T)(h:kQ sz ts=true):kP H sz fz (some (.ref id ep n)) (some (.t (.sl ts)))=tW H sz id ep n (ts.map .t) H[id]?:=by
 have e1:(if fz then aW (fun d=>(frz H depth d).map D.t) (ts.map D.t)else some (ts.map D.t))=some (ts.map D.t):=by
  cases fz<;>simp[rC]
 have e2:(if fz then pins H ((ts.map D.t).flatMap (dC H depth))else H)=H:=by
  cases fz
  · rfl
  · simp only[if_true];rw[DR];rfl
 unfold kQ at h
 simp only[kP,aLq,jw,elems,e1,h,if_true,e2,eJ]
 generalize H[id]?=o
 rcases o with _ | (_ | ⟨sz',pin,ep',es⟩)
 · rfl
 · rfl
 · simp only[tW]
   by_cases h1:ep=ep'∧n=es.length
   · rw[if_pos h1,aLq]
     by_cases h2:sz'=sz∧n+(ts.map D.t).length≤lim
     · rw[if_pos h2,if_pos ⟨h1.1,h1.2,h2⟩]
     · rw[if_neg h2,if_neg fun h=>h2 h.2.2]
   · rw[if_neg h1,if_neg fun h=>h1 ⟨h.1,h.2.1⟩];rfl
@[go_sem] theorem YC (sz id ep n : Nat) (fz : Bool) (ts : List T) : kP H sz fz (some (.ref id ep n)) (some (.t (.sl ts))) = if kQ sz ts = true then tW H sz id ep n (ts.map .t) H[id]? else none := by
 by_cases h:kQ sz ts=true
 · rw[if_pos h,Ie H sz id ep n fz ts h]
 · rw[if_neg h];exact Aw H sz fz _ ts (by simpa [kQ]using h)
@[go_sem] theorem YD (sz : Nat) (fz : Bool) (ts : List T) : kP H sz fz (some .nil) (some (.t (.sl ts))) =
 if kQ sz ts=true then(if ts.length≤4294967296 then some (.ref H.length 0 ts.length,H++[.arr sz false 0 (ts.map .t)])else none)else none:=by
 by_cases h:kQ sz ts=true
 · rw[if_pos h]
   have e1:(if fz then aW (fun d=>(frz H depth d).map D.t) (ts.map D.t)else some (ts.map D.t))=some (ts.map D.t):=by
    cases fz<;>simp[rC]
   have e2:(if fz then pins H ((ts.map D.t).flatMap (dC H depth))else H)=H:=by
    cases fz
    · rfl
    · simp only[if_true];rw[DR];rfl
   unfold kQ at h
   simp only[kP,aLq,jw,elems,e1,h,if_true,e2,lim,List.length_map]
 · rw[if_neg h];exact Aw H sz fz _ ts (by simpa [kQ]using h)
@[go_sem] theorem YE (sz : Nat) : kQ sz [] = true := (rfl)
@[go_sem] theorem U5 (sz : Nat) (x : T) (r : List T) : kQ sz (x :: r) = kO sz x.cells := by
 rw[Bool.eq_iff_iff,eL];simp[kQ,bA,D.cells]
@[go_sem] theorem YF (l : List Int) (k : IntKind) : kQ 1 (l.map (.int k)) = true := by cases l <;> rfl
@[go_sem] theorem U6 (l : List Bool) : kQ 1 (l.map .bool) = true := by cases l <;> rfl
@[go_sem] theorem ab5 (l : List (List T)) : kQ 1 (l.map .sl) = true := by cases l <;> rfl
def Ax(call:aD)(f raw:Nat)(keep:List Nat)(ds:List D):Option (D×ae):=qN call H f raw keep ds
@[go_sem] theorem ah1 (f raw : Nat) (keep : List Nat) (xs : List X) : evO call get H (.ca f raw keep xs) = (aW get xs).bind (Ax H call f raw keep) := (rfl)
def agF(call:aD)(raw:Nat)(keep:List Nat)(x:Option D)(xs:Option (List D)):Option (D×ae):=x.bind fun
 | .fn f caps=>xs.bind fun ds=>qN call H f raw keep (ds++caps)
 | _=>none
@[go_sem] theorem ah2 (x : X) (raw : Nat) (keep : List Nat) (xs : List X) : evO call get H (.cw x raw keep xs) = agF H call raw keep (get x) (aW get xs) := (rfl)
@[go_sem] theorem aek (raw : Nat) (keep : List Nat) (f : Nat) (caps ds : List D) : agF H call raw keep (some (.fn f caps)) (some ds) = Ax H call f raw keep (ds ++ caps) := (rfl)
def jU(H:ae):List D→Option (List T)
 | []=>some []
 | .t x::r=>jc x (jU H r)
 | .nil::r=>jc (.sl []) (jU H r)
 | _::_=>none
@[go_sem] theorem ael : jU H [] = some [] := (rfl)
@[go_sem] theorem aem (x : T) (r : List D) : jU H (.t x :: r) = jc x (jU H r) := (rfl)
@[go_sem] theorem YG (r : List D) : jU H (.nil :: r) = jc (.sl []) (jU H r) := (rfl)
@[go_sem] theorem YH (cs : List D) (r : List D) : jU H (.agg cs :: r) = none := (rfl)
@[go_sem] theorem ab6 (a b : Nat) (r : List D) : jU H (.bp a b :: r) = none := (rfl)
@[go_sem] theorem YI (a b c : Nat) (r : List D) : jU H (.ref a b c :: r) = none := (rfl)
@[go_sem] theorem YJ (a b c d e : Nat) (r : List D) : jU H (.sub a b c d e :: r) = none := (rfl)
@[go_sem] theorem ab7 (f : Nat) (cs : List D) (r : List D) : jU H (.fn f cs :: r) = none := (rfl)
@[go_sem] theorem ab8 (a b c d e : Nat) (r : List D) : jU H (.ap a b c d e :: r) = none := (rfl)
@[go_sem] theorem ab9 (cs : List T) (r : List D) : jU H (.ep cs :: r) = none := (rfl)
@[go_sem] theorem U7 (r : List D) : jU H (.nilp :: r) = none := (rfl)
@[go_sem] theorem YK (r : List D) : jU H (.und :: r) = none := (rfl)
end
theorem qj(H:ae):∀ {ds:List D} {ts:List T},jU H ds=some ts→∀i,lO H [] i ds=some (ts.map .t)∧bT H [] i ds=[]
 | [],ts,h,i=>by simp[jU]at h;subst h;exact⟨rfl,rfl⟩
 | d::r,ts,h,i=>by
   cases d with
   | t x=>
     simp only[jU,jc,aLb]at h
     obtain⟨l,hl,rfl⟩:=h
     obtain⟨h1,h2⟩:=qj H hl (i+1)
     exact⟨by simp[lO,nJ,h1],by simp[bT,dC,depth,h2]⟩
   | nil=>
     simp only[jU,jc,aLb]at h
     obtain⟨l,hl,rfl⟩:=h
     obtain⟨h1,h2⟩:=qj H hl (i+1)
     exact⟨by simp[lO,nJ,h1],by simp[bT,dC,depth,h2]⟩
   | _=>simp[jU]at h
theorem Ig(ts:List T)(n:Nat):(ts.map D.t).flatMap (ids n)=[]:=by
 induction ts with
 | nil=>rfl
 | cons t ts ih=>rw[List.map_cons,List.flatMap_cons,ih];simp[ids]
theorem mG(f:Nat→Option Nat)(ts:List T):aW (ren f depth) (ts.map .t)=some (ts.map .t):=by
 induction ts with
 | nil=>rfl
 | cons t ts ih=>simp[aW,ren,depth]at ih ⊢;exact ih
def rD:D→Bool
 | .t _=>true
 | .tup ds=>ds.all fun | .t _=>true | _=>false
 | _=>false
theorem yJ{f:Nat→Option Nat}{d:D}(h:rD d=true):ren f depth d=some d:=by
 cases d with
 | t x=>rfl
 | tup ds=>
   simp only[rD]at h
   have:aW (ren f 7) ds=some ds:=by
    induction ds with
    | nil=>rfl
    | cons d ds ih=>
      simp only[List.all_cons,aLr]at h
      cases d with
      | t x=>simp[aW,ren,ih h.2]
      | _=>simp at h
   simp[ren,depth,this]
 | _=>simp[rD]at h
def qk(H:ae)(p:D×ae):Option (D×ae):=if rD p.1&&p.2.isEmpty then some (p.1,H)else
 (ren (bN [] H.length) depth p.1).bind fun r'=>(aW (b5 (bN [] H.length)) p.2).map fun os=>(r',H++os)
@[go_sem] theorem aen (H : ae) (x : T) : qk H (.t x, []) = some (.t x, H) := (rfl)
@[go_sem] theorem aeo (H : ae) : qk H (.tup [], []) = some (.tup [], H) := (rfl)
@[go_sem] theorem aep (H : ae) (x y : T) : qk H (.tup [.t x, .t y], []) = some (.tup [.t x, .t y], H) := (rfl)
@[go_sem] theorem aeq (H : ae) (x y z : T) : qk H (.tup [.t x, .t y, .t z], []) = some (.tup [.t x, .t y, .t z], H) := (rfl)
@[go_sem] theorem aer (H : ae) (x y z u : T) : qk H (.tup [.t x, .t y, .t z, .t u], []) = some (.tup [.t x, .t y, .t z, .t u], H) := (rfl)
theorem Ih(H:ae)(call:aD)(f raw:Nat)(ds:List D)(ts:List T)(h:jU H ds=some ts):
 Ax H call f raw [] ds=(call raw f (ts.map .t) []).bind (qk H):=by
 obtain⟨h1,h2⟩:=qj H h 0
 simp only[Ax,qN,h1,aLq,Ig,b7,reach,iD,List.flatMap_nil,h2,pins,mG,pick,aW]
 cases hc:call raw f (ts.map .t) []with
 | none=>rfl
 | some p=>
   obtain⟨d,os⟩:=p
   simp only[aLq,List.isEmpty_nil,Bool.true_and,qk]
   by_cases h3:os=[]
   · subst h3
     simp only[List.isEmpty_nil,Bool.true_and,Bool.and_true,aW,aLw,List.length_nil,List.take_nil,aO,List.drop_nil,List.append_nil]
     by_cases h4:rD d=true
     · rw[if_pos h4]
       split
       · rfl
       · rw[yJ h4];rfl
     · rw[if_neg h4]
       split
       · rename_i h5
         exfalso
         apply h4
         cases d with
         | t x=>rfl
         | tup ds=>
           simp only[kM,aLx]at h5
           simp only[rD,aLx]
           intro y hy
           have:=h5 y hy
           cases y<;>simp_all [eW]
         | _=>simp[kM]at h5
       · rfl
   · have:os.isEmpty=false:=by cases os<;>simp_all
     simp only[this,Bool.false_and,Bool.and_false,if_false,aLt,List.length_nil,List.take_zero,aO,List.drop_zero]
@[go_sem] theorem U8 (st : St) : gO st [] = some [] := (rfl)
def agG(st:St)(r:List (Nat×Option (Nat×Bool)))(d:D):Option (List D):=jc d (gO st r)
@[go_sem] theorem aes (vs : List D) (H : ae) (r : List (Nat × Option (Nat × Bool))) (d : D) : agG ⟨vs, H⟩ r d = jc d (gO ⟨vs, H⟩ r) := (rfl)
@[go_sem] theorem U9 (vs : List D) (H : ae) (j : Nat) (r : List (Nat × Option (Nat × Bool))) : gO ⟨vs, H⟩ ((j, none) :: r) = vs[j]?.bind (agG ⟨vs, H⟩ r) := (rfl)
def aet(st:St)(r:List (Nat×Option (Nat×Bool)))(p:D×ae):Option (List D):=jc p.1 (gO st r)
@[go_sem] theorem aeu (vs : List D) (H : ae) (r : List (Nat × Option (Nat × Bool))) (d : D) (H' : ae) : aet ⟨vs, H⟩ r (d, H') = jc d (gO ⟨vs, H⟩ r) := (rfl)
def aev(st:St)(n:Nat)(agg:Bool)(r:List (Nat×Option (Nat×Bool)))(p:D):Option (List D):=(KB st.H n agg p).bind (aet st r)
@[go_sem] theorem aew (vs : List D) (H : ae) (n : Nat) (agg : Bool) (r : List (Nat × Option (Nat × Bool))) (p : D) : aev ⟨vs, H⟩ n agg r p = (KB H n agg p).bind (aet ⟨vs, H⟩ r) := (rfl)
@[go_sem] theorem QQ (vs : List D) (H : ae) (j n : Nat) (agg : Bool) (r : List (Nat × Option (Nat × Bool))) : gO ⟨vs, H⟩ ((j, some (n, agg)) :: r) = vs[j]?.bind (aev ⟨vs, H⟩ n agg r) := by
 simp only[gO]
 cases vs[j]? with
 | none=>rfl
 | some p=>
   simp only[aLq,aev,KB]
   cases sH H p n agg<;>rfl
@[go_sem] theorem aex (H : ae) (n : Nat) (x : T) : frz H n (.t x) = some x := by cases n <;> rfl
@[go_sem] theorem aey (H : ae) (n : Nat) : frz H n .nil = some (.sl []) := by cases n <;> rfl
@[go_sem] theorem aez (H : ae) (n : Nat) (cs : List D) : frz H (n + 1) (.agg cs) = (aW (frz H n) cs).map .agg := (rfl)
@[go_sem] theorem FK (H : ae) (n : Nat) (ts : List T) : aW (frz H n) (ts.map .t) = some ts := by
 induction ts with
 | nil=>rfl
 | cons t ts ih=>simp[aW,aex,ih]
def frA(H:ae)(n ep m lo hi:Nat):Option Obj→Option T
 | some (.arr _ _ ep' es)=>if ep=ep'∧m=es.length then(aW (frz H n) ((es.drop lo).take (hi-lo))).map .sl else none
 | _=>none
def frR(H:ae)(n ep m:Nat):Option Obj→Option T
 | some (.arr _ _ ep' es)=>if ep=ep'∧m=es.length then(aW (frz H n) es).map .sl else none
 | _=>none
@[go_sem] theorem aeA (H : ae) (n id ep m : Nat) : frz H (n + 1) (.ref id ep m) = frR H n ep m H[id]? := by
 simp only[frz,eJ]
 generalize H[id]?=o
 rcases o with _ | (_ | ⟨sz',pin,ep',es⟩)
 · rfl
 · rfl
 · simp only[frR]
   by_cases h:ep=ep'∧m=es.length
   · rw[if_pos h,if_pos h];rfl
   · rw[if_neg h,if_neg h];rfl
@[go_sem] theorem aeB (H : ae) (n id ep m lo hi : Nat) : frz H (n + 1) (.sub id ep m lo hi) = frA H n ep m lo hi H[id]? := by
 simp only[frz,eJ]
 generalize H[id]?=o
 rcases o with _ | (_ | ⟨sz',pin,ep',es⟩)
 · rfl
 · rfl
 · simp only[frA]
   by_cases h:ep=ep'∧m=es.length
   · rw[if_pos h,if_pos h];rfl
   · rw[if_neg h,if_neg h];rfl
@[go_sem] theorem aeC (H : ae) (n ep m sz : Nat) (pin : Bool) (es : List D) : frR H n ep m (some (.arr sz pin ep es)) = if m = es.length then (aW (frz H n) es).map .sl else none := by simp [frR]
@[go_sem] theorem aeD (H : ae) (n ep m lo hi sz : Nat) (pin : Bool) (es : List D) : frA H n ep m lo hi (some (.arr sz pin ep es)) = if m = es.length then (aW (frz H n) ((es.drop lo).take (hi - lo))).map .sl else none := by simp [frA]
@[go_sem] theorem YL (H : ae) (x : T) : nJ H (.t x) = some (.t x) := (rfl)
@[go_sem] theorem aca (H : ae) : nJ H .nil = some (.t (.sl [])) := (rfl)
@[go_sem] theorem acb (H : ae) (cs : List D) : nJ H (.agg cs) = (frz H 8 (.agg cs)).map .t := (rfl)
@[go_sem] theorem acd (H : ae) (id ep n : Nat) : nJ H (.ref id ep n) = (frz H 8 (.ref id ep n)).map .t := (rfl)
@[go_sem] theorem ace (H : ae) (id ep n lo hi : Nat) : nJ H (.sub id ep n lo hi) = (frz H 8 (.sub id ep n lo hi)).map .t := (rfl)
@[go_sem] theorem QR (H : ae) (id off : Nat) : nJ H (.bp id off) = some (.bp id off) := (rfl)
@[go_sem] theorem aeE (H : ae) (id ep n i off : Nat) : nJ H (.ap id ep n i off) = some (.ap id ep n i off) := (rfl)
@[go_sem] theorem aeF (H : ae) (cs : List T) : nJ H (.ep cs) = some (.ep cs) := (rfl)
@[go_sem] theorem aeG (H : ae) (f : Nat) (cs : List D) : nJ H (.fn f cs) = some (.fn f cs) := (rfl)
def ltB:Nat→Nat→Bool
 | _,0=>false
 | 0,_+1=>true
 | m+1,n+1=>ltB m n
@[go_sem] theorem ah3 (m : Nat) : ltB m 0 = false := by cases m <;> rfl
@[go_sem] theorem agH (n : Nat) : ltB 0 (n + 1) = true := (rfl)
@[go_sem] theorem agI (m n : Nat) : ltB (m + 1) (n + 1) = ltB m n := (rfl)
theorem gM:∀ {m n:Nat},ltB m n=decide (m<n)
 | m,0=>by cases m<;>simp[ltB]
 | 0,n+1=>by simp[ltB]
 | m+1,n+1=>by simp[ltB,gM (m:=m) (n:=n)]
def eqB:Nat→Nat→Bool
 | 0,0=>true
 | m+1,n+1=>eqB m n
 | _,_=>false
@[go_sem] theorem agJ : eqB 0 0 = true := (rfl)
@[go_sem] theorem agK (n : Nat) : eqB 0 (n + 1) = false := (rfl)
@[go_sem] theorem agL (n : Nat) : eqB (n + 1) 0 = false := (rfl)
@[go_sem] theorem agM (m n : Nat) : eqB (m + 1) (n + 1) = eqB m n := (rfl)
theorem Co:∀ {m n:Nat},eqB m n=decide (m=n)
 | 0,0=>rfl
 | 0,n+1=>rfl
 | m+1,0=>rfl
 | m+1,n+1=>by simp[eqB,Co (m:=m) (n:=n)]
section
variable (k n : Nat)
@[go_sem] theorem aeH (x : T) : old k n (.t x) = true := by cases n <;> rfl
@[go_sem] theorem aeI : old k n .nil = true := by cases n <;> rfl
@[go_sem] theorem agN (cs : List T) : old k n (.ep cs) = true := by cases n <;> rfl
@[go_sem] theorem acf : old k n .nilp = true := by cases n <;> rfl
@[go_sem] theorem aeJ : old k n .und = true := by cases n <;> rfl
@[go_sem] theorem YM (id off : Nat) : old k n (.bp id off) = ltB id k := by cases n <;> simp [old, gM]
@[go_sem] theorem agO (id ep m i off : Nat) : old k n (.ap id ep m i off) = ltB id k := by cases n <;> simp [old, gM]
@[go_sem] theorem aeK (id ep m : Nat) : old k n (.ref id ep m) = ltB id k := by cases n <;> simp [old, gM]
@[go_sem] theorem aeL (id ep m lo hi : Nat) : old k n (.sub id ep m lo hi) = ltB id k := by cases n <;> simp [old, gM]
def ew(n:Nat)(cs:List D):Bool:=cs.all (old k n)
@[go_sem] theorem Va : ew k n [] = true := (rfl)
@[go_sem] theorem Cp (d : D) (r : List D) : ew k n (d :: r) = (old k n d && ew k n r) := (rfl)
@[go_sem] theorem DT (ts : List T) : ew k n (ts.map .t) = true := by
 induction ts with
 | nil=>rfl
 | cons t ts ih=>rw[List.map_cons,Cp,aeH,ih];rfl
@[go_sem] theorem Vb (m : Nat) (x : T) : ew k n (List.replicate m (.t x)) = true := by
 have:List.replicate m (D.t x)=(List.replicate m x).map .t:=by simp
 rw[this,DT]
@[go_sem] theorem Vc (a b : List D) : ew k n (a ++ b) = (ew k n a && ew k n b) := by simp [ew]
@[go_sem] theorem aeM (cs : List D) : old k (n + 1) (.agg cs) = ew k n cs := (rfl)
@[go_sem] theorem aeN (cs : List D) : old k (n + 1) (.tup cs) = ew k n cs := (rfl)
@[go_sem] theorem agP (f : Nat) (cs : List D) : old k (n + 1) (.fn f cs) = ew k n cs := (rfl)
end
def dU(k:Nat):ae→Bool
 | []=>true
 | .box cs::r=>ew k 8 cs&&dU k r
 | .arr _ _ _ es::r=>ew k 8 es&&dU k r
@[go_sem] theorem QS (k : Nat) : dU k [] = true := (rfl)
@[go_sem] theorem QT (k : Nat) (cs : List D) (r : ae) : dU k (.box cs :: r) = (ew k 8 cs && dU k r) := (rfl)
@[go_sem] theorem QU (k sz ep : Nat) (pin : Bool) (es : List D) (r : ae) : dU k (.arr sz pin ep es :: r) = (ew k 8 es && dU k r) := (rfl)
theorem jd(k:Nat)(H:ae):H.all (fun o=>o.ds.all (old k depth))=dU k H:=by
 induction H with
 | nil=>rfl
 | cons o r ih=>rw[List.all_cons,ih];cases o<;>rfl
def QV(d:D)(b:Bool):D:=if b then d else .und
@[go_sem] theorem Vd (d : D) : QV d true = d := (rfl)
@[go_sem] theorem QW (d : D) : QV d false = .und := (rfl)
@[go_sem] theorem aeO (k : Nat) (d : D) : kill k d = QV d (old k 8 d) := (rfl)
def FL(k:Nat):List D→List D
 | []=>[]
 | d::r=>kill k d::FL k r
@[go_sem] theorem YN (k : Nat) : FL k [] = [] := (rfl)
@[go_sem] theorem Ve (k : Nat) (d : D) (r : List D) : FL k (d :: r) = kill k d :: FL k r := (rfl)
theorem LX(k:Nat)(vs:List D):vs.map (kill k)=FL k vs:=by
 induction vs with
 | nil=>rfl
 | cons d r ih=>rw[List.map_cons,ih];rfl
@[go_sem] theorem acg (k : Nat) (vs : List D) (H : ae) : Fp k ⟨vs, H⟩ = if dU k (H.take k) = true then some ⟨FL k vs, H.take k⟩ else none := by
 simp only[Fp,jd,LX]
@[go_sem] theorem Ii (H : ae) (n : Nat) (x : T) : dC H n (.t x) = [] := by cases n <;> rfl
@[go_sem] theorem ach (H : ae) (n : Nat) : dC H n .nil = [] := by cases n <;> rfl
@[go_sem] theorem QX (H : ae) (n id off : Nat) : dC H n (.bp id off) = [] := by cases n <;> rfl
@[go_sem] theorem aeP (H : ae) (n f : Nat) (cs : List D) : dC H n (.fn f cs) = [] := by cases n <;> rfl
@[go_sem] theorem aeQ (H : ae) (n : Nat) (cs : List T) : dC H n (.ep cs) = [] := by cases n <;> rfl
@[go_sem] theorem aeR (H : ae) (n a b c d e : Nat) : dC H n (.ap a b c d e) = [] := by cases n <;> rfl
def nD(H:ae)(n:Nat)(cs:List D):List Nat:=cs.flatMap (dC H n)
@[go_sem] theorem YO (H : ae) (n : Nat) : nD H n [] = [] := (rfl)
@[go_sem] theorem FM (H : ae) (n : Nat) (d : D) (r : List D) : nD H n (d :: r) = dC H n d ++ nD H n r := (rfl)
@[go_sem] theorem aeS (H : ae) (n : Nat) (ts : List T) : nD H n (ts.map .t) = [] := by
 induction ts with
 | nil=>rfl
 | cons t ts ih=>rw[List.map_cons,FM,ih,Ii];rfl
@[go_sem] theorem YP (H : ae) (n : Nat) (a b : List D) : nD H n (a ++ b) = nD H n a ++ nD H n b := by simp [nD]
@[go_sem] theorem aci (H : ae) (n : Nat) (cs : List D) : dC H (n + 1) (.agg cs) = nD H n cs := (rfl)
def QY(H:ae)(n:Nat):Option Obj→List Nat
 | some (.arr _ _ _ es)=>nD H n es
 | _=>[]
@[go_sem] theorem YQ (H : ae) (n sz ep : Nat) (pin : Bool) (es : List D) : QY H n (some (.arr sz pin ep es)) = nD H n es := (rfl)
@[go_sem] theorem acj (H : ae) (n id ep m : Nat) : dC H (n + 1) (.ref id ep m) = id :: QY H n H[id]? := (rfl)
@[go_sem] theorem ack (H : ae) (n id ep m lo hi : Nat) : dC H (n + 1) (.sub id ep m lo hi) = id :: QY H n H[id]? := (rfl)
@[go_sem] theorem aeT : qP [] = .tup [] := (rfl)
@[go_sem] theorem aeU (d : D) : qP [d] = d := (rfl)
@[go_sem] theorem aeV (a b : D) (r : List D) : qP (a :: b :: r) = .tup (a :: b :: r) := (rfl)
def Ay(k:Nat):List Nat→Bool
 | []=>true
 | i::r=> !ltB i k&&Ay k r
@[go_sem] theorem YR (k : Nat) : Ay k [] = true := (rfl)
@[go_sem] theorem Vf (k i : Nat) (r : List Nat) : Ay k (i :: r) = (!ltB i k && Ay k r) := (rfl)
theorem DU(k:Nat)(l:List Nat):l.all (fun i=>decide (k≤i))=Ay k l:=by
 induction l with
 | nil=>rfl
 | cons i r ih=>
   rw[List.all_cons,ih]
   simp only[Ay,gM]
   congr 1
   rw[Bool.eq_iff_iff];simp
def acm(k raw:Nat)(H:ae)(ds rs:List D):Option (D×ae):=
 (jm H (max raw 1) (List.range k) (rs.flatMap (ids depth)++iD H (List.range k))).bind fun q=>
  if(fW H raw ds).all (fun i=> !(List.range k++q.1).contains i)then
   (aW (ren (idxOf (List.range k++q.1)) depth) rs).bind fun rs'=>
    (aW (b5 (idxOf (List.range k++q.1))) (H.take k++q.2)).map fun hs'=>(qP rs',hs')
  else none
def Vg(k raw:Nat)(H:ae)(ds rs:List D)(b:Bool):Option (D×ae):=
 if b then(if Ay k (fW H raw ds)=true then some (qP rs,H.take k)else none)else acm k raw H ds rs
@[go_sem] theorem YS (k raw : Nat) (H : ae) (ds rs : List D) : Vg k raw H ds rs true = if Ay k (fW H raw ds) = true then some (qP rs, H.take k) else none := (rfl)
def YT(k raw:Nat)(H:ae)(ds rs:List D):Option (D×ae):=Vg k raw H ds rs (ew k 8 rs&&dU k (H.take k))
@[go_sem] theorem aeW (k raw : Nat) (H : ae) (ds rs : List D) : YT k raw H ds rs = Vg k raw H ds rs (ew k 8 rs && dU k (H.take k)) := (rfl)
@[go_sem] theorem YU (k : Nat) (H : ae) (ds : List D) : finish k 0 H ds = (aW (nJ H) ds).bind (YT k 0 H ds) := by
 simp only[finish,if_true,jd,DU]
 cases aW (nJ H) ds with
 | none=>rfl
 | some rs=>
   simp only[aLq,YT,Vg]
   show(if(ew k 8 rs&&dU k (H.take k))=true then _ else _)=_
   cases (ew k 8 rs&&dU k (H.take k))<;>rfl
@[go_sem] theorem YV (H : ae) (ds : List D) : fW H 0 ds = nD H 8 ds := (rfl)
@[go_sem] theorem YW (vs : List D) : ir [] vs = vs := (rfl)
@[go_sem] theorem Vh (i : Nat) (r : List Nat) (vs : List D) : ir (i :: r) vs = ir r (vs.set i .und) := (rfl)
@[go_sem] theorem aeX (dead : List Nat) (k : Nat) (vs : List D) (H : ae) : tidy false dead k ⟨vs, H⟩ = some ⟨ir dead vs, H⟩ := (rfl)
@[go_sem] theorem aeY (dead : List Nat) (k : Nat) (vs : List D) (H : ae) : tidy true dead k ⟨vs, H⟩ = Fp k ⟨ir dead vs, H⟩ := (rfl)
section
variable (H : ae) (call : aD) (f raw : Nat) (keep : List Nat) (ds : List D)
def w6(H1:ae)(n:Nat)(sel:List Nat)(p:D×ae):Option (D×ae):=
 (ren (bN sel n) depth p.1).bind fun r'=>(aW (b5 (bN sel n)) p.2).map fun os=>(r',aO H1 sel (os.take sel.length)++os.drop sel.length)
def jV(H1:ae)(sel:List Nat)(p:D×ae):Option (D×ae):=
 if sel.isEmpty&&p.2.isEmpty&&kM p.1 then some (p.1,H)else w6 H1 H.length sel p
def QZ(args:List D)(H1:ae)(sel:List Nat)(hs:ae):Option (D×ae):=(call raw f args hs).bind (jV H H1 sel)
def Q0(args:List D)(H1:ae)(sel:List Nat)(hs:ae):Option (D×ae):=(aW (b5 (idxOf sel)) hs).bind (QZ H call f raw args H1 sel)
def Q3(H1:ae)(sel:List Nat)(args:List D):Option (D×ae):=(pick H1 sel).bind (Q0 H call f raw args H1 sel)
def Q4(args:List D)(sel:List Nat):Option (D×ae):=(aW (ren (idxOf sel) depth) args).bind (Q3 H call f raw (pins H (bT H keep 0 ds)) sel)
def uD(n:Nat)(cs:List D):List Nat:=cs.flatMap (ids n)
def Q5(args:List D):Option (D×ae):=Q4 H call f raw keep ds args (reach H 3 (b7 [] (uD 8 args)))
def Ij:Option (D×ae):=(lO H keep 0 ds).bind (Q5 H call f raw keep ds)
theorem DV:Ax H call f raw keep ds=Ij H call f raw keep ds:=(rfl)
@[go_sem] theorem DW : Ij H call f raw keep ds = (lO H keep 0 ds).bind (Q5 H call f raw keep ds) := (rfl)
@[go_sem] theorem DX (args : List D) : Q5 H call f raw keep ds args = Q4 H call f raw keep ds args (reach H 3 (b7 [] (uD 8 args))) := (rfl)
@[go_sem] theorem DY (args : List D) (sel : List Nat) : Q4 H call f raw keep ds args sel = (aW (ren (idxOf sel) 8) args).bind (Q3 H call f raw (pins H (bT H keep 0 ds)) sel) := (rfl)
@[go_sem] theorem DZ (H1 : ae) (sel : List Nat) (args : List D) : Q3 H call f raw H1 sel args = (pick H1 sel).bind (Q0 H call f raw args H1 sel) := (rfl)
@[go_sem] theorem D0 (args : List D) (H1 : ae) (sel : List Nat) (hs : ae) : Q0 H call f raw args H1 sel hs = (aW (b5 (idxOf sel)) hs).bind (QZ H call f raw args H1 sel) := (rfl)
@[go_sem] theorem D1 (args : List D) (H1 : ae) (sel : List Nat) (hs : ae) : QZ H call f raw args H1 sel hs = (call raw f args hs).bind (jV H H1 sel) := (rfl)
def LY(H1:ae)(sel:List Nat)(r:D)(os:ae):Option (D×ae):=some (r,aO H1 sel (os.take sel.length)++os.drop sel.length)
@[go_sem] theorem LZ (H1 : ae) (sel : List Nat) (r : D) (os : ae) : LY H1 sel r os = some (r, aO H1 sel (os.take sel.length) ++ os.drop sel.length) := (rfl)
def Q6(H1:ae)(n:Nat)(sel:List Nat)(os:ae)(r:D):Option (D×ae):=(aW (b5 (bN sel n)) os).bind (LY H1 sel r)
@[go_sem] theorem D2 (H1 : ae) (n : Nat) (sel : List Nat) (os : ae) (r : D) : Q6 H1 n sel os r = (aW (b5 (bN sel n)) os).bind (LY H1 sel r) := (rfl)
@[go_sem] theorem D3 (H1 : ae) (n : Nat) (sel : List Nat) (r : D) (os : ae) : w6 H1 n sel (r, os) = (ren (bN sel n) 8 r).bind (Q6 H1 n sel os) := by
 simp only[w6,depth]
 cases ren (bN sel n) 8 r with
 | none=>rfl
 | some r'=>simp only[aLq,Q6];cases aW (b5 (bN sel n)) os<;>rfl
@[go_sem] theorem YX (H1 : ae) (i : Nat) (sel : List Nat) (p : D × ae) : jV H H1 (i :: sel) p = w6 H1 H.length (i :: sel) p := (rfl)
@[go_sem] theorem acn (H1 : ae) (sel : List Nat) (r : D) (o : Obj) (os : ae) : jV H H1 sel (r, o :: os) = w6 H1 H.length sel (r, o :: os) := by
 simp[jV]
@[go_sem] theorem aeZ (H1 : ae) (k : IntKind) (n : Int) : jV H H1 [] (.t (.int k n), []) = some (.t (.int k n), H) := (rfl)
@[go_sem] theorem ae0 (H1 : ae) (b : Bool) : jV H H1 [] (.t (.bool b), []) = some (.t (.bool b), H) := (rfl)
@[go_sem] theorem aco (H1 : ae) (es : List T) : jV H H1 [] (.t (.sl es), []) = some (.t (.sl es), H1) := by simp [jV, w6, kM, T.scalar, ren, depth, aW, aO]
@[go_sem] theorem YY (H1 : ae) (es : List T) : jV H H1 [] (.t (.agg es), []) = some (.t (.agg es), H1) := by simp [jV, w6, kM, T.scalar, ren, depth, aW, aO]
@[go_sem] theorem YZ (H1 : ae) (ds : List D) : jV H H1 [] (.tup ds, []) = if ds.all eW then some (.tup ds, H) else w6 H1 H.length [] (.tup ds, []) := by
 simp[jV,kM]
def Q7:Option (List T)→Option (D×ae)
 | some ts=>(call raw f (ts.map .t) []).bind (qk H)
 | none=>Ij H call f raw [] ds
@[go_sem] theorem Vi (ts : List T) : Q7 H call f raw ds (some ts) = (call raw f (ts.map .t) []).bind (qk H) := (rfl)
@[go_sem] theorem Vj : Q7 H call f raw ds none = Ij H call f raw [] ds := (rfl)
@[go_sem] theorem ae1 : Ax H call f raw [] ds = Q7 H call f raw ds (jU H ds) := by
 cases h:jU H ds with
 | none=>rfl
 | some ts=>exact Ih H call f raw ds ts h
@[go_sem] theorem agQ (k : Nat) : Ax H call f raw (k :: keep) ds = Ij H call f raw (k :: keep) ds := (rfl)
end
section
variable (H : ae) (keep : List Nat)
@[go_sem] theorem Y0 (i : Nat) : lO H keep i [] = some [] := (rfl)
def BG(i:Nat):List Nat→Bool
 | []=>false
 | j::r=>eqB i j||BG i r
@[go_sem] theorem acp (i : Nat) : BG i [] = false := (rfl)
@[go_sem] theorem Y1 (i j : Nat) (r : List Nat) : BG i (j :: r) = (eqB i j || BG i r) := (rfl)
theorem yK(i:Nat)(l:List Nat):l.contains i=BG i l:=by
 induction l with
 | nil=>rfl
 | cons j r ih=>rw[List.contains_cons,ih];simp only[BG,Co];rw[beq_eq_decide_nat]
where beq_eq_decide_nat {a b:Nat}:(a==b)=decide (a=b):=by rw[Bool.eq_iff_iff];simp
def ae2(d:D):Bool→Option D
 | true=>some d
 | false=>nJ H d
@[go_sem] theorem agR (d : D) : ae2 H d true = some d := (rfl)
@[go_sem] theorem N3 (d : D) : ae2 H d false = nJ H d := (rfl)
def agS(i:Nat)(r:List D)(x:D):Option (List D):=jc x (lO H keep (i+1) r)
@[go_sem] theorem Ik (i : Nat) (r : List D) (x : D) : agS H keep i r x = jc x (lO H keep (i + 1) r) := (rfl)
@[go_sem] theorem xQ (i : Nat) (d : D) (r : List D) : lO H keep i (d :: r) = (ae2 H d (BG i keep)).bind (agS H keep i r) := by
 simp only[lO,yK]
 cases BG i keep<;>rfl
@[go_sem] theorem KC (i : Nat) : bT H keep i [] = [] := (rfl)
def frK(l:List Nat):Bool→List Nat
 | true=>[]
 | false=>l
@[go_sem] theorem ah4 (l : List Nat) : frK l true = [] := (rfl)
@[go_sem] theorem Y2 (l : List Nat) : frK l false = l := (rfl)
@[go_sem] theorem nW (i : Nat) (d : D) (r : List D) : bT H keep i (d :: r) = frK (dC H 8 d) (BG i keep) ++ bT H keep (i + 1) r := by
 simp only[bT,yK]
 cases BG i keep<;>rfl
@[go_sem] theorem acq (H : ae) : pins H [] = H := (rfl)
@[go_sem] theorem Y3 (H : ae) (i : Nat) (r : List Nat) : pins H (i :: r) = pins (H.modify i Dt) r := (rfl)
def FN(i:Nat):Option Obj→ae
 | some (.arr sz _ ep es)=>H.set i (.arr sz true ep es)
 | _=>H
@[go_sem] theorem Y4 (i : Nat) (cs : List D) : FN H i (some (.box cs)) = H := (rfl)
@[go_sem] theorem Y5 (i sz ep : Nat) (pin : Bool) (es : List D) : FN H i (some (.arr sz pin ep es)) = H.set i (.arr sz true ep es) := (rfl)
theorem L3{α:Type}{l:List α}{i:Nat}{x:α}(h:l[i]?=some x):l.set i x=l:=by
 apply List.ext_getElem?
 intro j
 rw[List.getElem?_set]
 split
 · rename_i e;subst e
   split
   · exact h.symm
   · rename_i hl;rw[aLm (by omega)]at h;cases h
 · rfl
@[go_sem] theorem Vk (i : Nat) : List.modify H i Dt = FN H i H[i]? := by
 apply List.ext_getElem?
 intro j
 rw[List.getElem?_modify]
 cases h:H[i]? with
 | none=>
   simp only[FN]
   by_cases e:i=j
   · subst e;rw[h];simp
   · simp[e]
 | some o=>
   have hi:i<H.length:=(aLe.1 h).1
   cases o with
   | box cs=>
     simp only[FN]
     by_cases e:i=j
     · subst e;rw[h];simp[Dt]
     · simp[e]
   | arr sz pin ep es=>
     simp only[FN]
     rw[List.getElem?_set]
     by_cases e:i=j
     · subst e;rw[h];simp[Dt,hi]
     · simp[e]
section
variable (n : Nat)
@[go_sem] theorem ah5 (x : T) : ids n (.t x) = [] := by cases n <;> rfl
@[go_sem] theorem ae3 : ids n .nil = [] := by cases n <;> rfl
@[go_sem] theorem acr : ids n .nilp = [] := by cases n <;> rfl
@[go_sem] theorem ae4 : ids n .und = [] := by cases n <;> rfl
@[go_sem] theorem agT (cs : List T) : ids n (.ep cs) = [] := by cases n <;> rfl
@[go_sem] theorem Y6 (id off : Nat) : ids n (.bp id off) = [id] := by cases n <;> rfl
@[go_sem] theorem agU (id ep m i off : Nat) : ids n (.ap id ep m i off) = [id] := by cases n <;> rfl
@[go_sem] theorem ae5 (id ep m : Nat) : ids n (.ref id ep m) = [id] := by cases n <;> rfl
@[go_sem] theorem ae6 (id ep m lo hi : Nat) : ids n (.sub id ep m lo hi) = [id] := by cases n <;> rfl
@[go_sem] theorem ae7 (cs : List D) : ids (n + 1) (.agg cs) = uD n cs := (rfl)
@[go_sem] theorem ae8 (cs : List D) : ids (n + 1) (.tup cs) = uD n cs := (rfl)
@[go_sem] theorem Y7 (f : Nat) (cs : List D) : ids (n + 1) (.fn f cs) = uD n cs := (rfl)
@[go_sem] theorem L4 : uD n [] = [] := (rfl)
@[go_sem] theorem Il (d : D) (r : List D) : uD n (d :: r) = ids n d ++ uD n r := (rfl)
@[go_sem] theorem xR (ts : List T) : uD n (ts.map .t) = [] := Ig ts n
@[go_sem] theorem D4 (a b : List D) : uD n (a ++ b) = uD n a ++ uD n b := by simp [uD]
@[go_sem] theorem acs (m : Nat) (x : T) : uD n (List.replicate m (.t x)) = [] := by
 have:List.replicate m (D.t x)=(List.replicate m x).map .t:=by simp
 rw[this,xR]
end
def Im(sel:List Nat)(i:Nat):Bool→List Nat
 | true=>sel
 | false=>sel++[i]
@[go_sem] theorem acu (sel : List Nat) (i : Nat) : Im sel i true = sel := (rfl)
@[go_sem] theorem acv (sel : List Nat) (i : Nat) : Im sel i false = sel ++ [i] := (rfl)
@[go_sem] theorem Vl (sel : List Nat) : b7 sel [] = sel := (rfl)
@[go_sem] theorem Q8 (sel : List Nat) (i : Nat) (r : List Nat) : b7 sel (i :: r) = b7 (Im sel i (BG i sel)) r := by
 simp only[b7,yK]
 cases BG i sel<;>rfl
def D5:Option Obj→List Nat
 | some (.box cs)=>uD 8 cs
 | some (.arr _ _ _ es)=>uD 8 es
 | none=>[]
@[go_sem] theorem Vm (cs : List D) : D5 (some (.box cs)) = uD 8 cs := (rfl)
@[go_sem] theorem Vn (sz ep : Nat) (pin : Bool) (es : List D) : D5 (some (.arr sz pin ep es)) = uD 8 es := (rfl)
@[go_sem] theorem Y8 : iD H [] = [] := (rfl)
@[go_sem] theorem Vo (i : Nat) (r : List Nat) : iD H (i :: r) = D5 H[i]? ++ iD H r := by
 simp only[iD,List.flatMap_cons]
 congr 1
 cases H[i]? with
 | none=>rfl
 | some o=>cases o<;>rfl
@[go_sem] theorem ae9 (sel : List Nat) : reach H 0 sel = sel := (rfl)
@[go_sem] theorem afa (n : Nat) (sel : List Nat) : reach H (n + 1) sel = reach H n (b7 sel (iD H sel)) := (rfl)
@[go_sem] theorem acw : pick H [] = some [] := (rfl)
def Y9(r:List Nat)(o:Obj):Option ae:=jc o (pick H r)
@[go_sem] theorem L5 (r : List Nat) (o : Obj) : Y9 H r o = jc o (pick H r) := (rfl)
@[go_sem] theorem Io (i : Nat) (r : List Nat) : pick H (i :: r) = H[i]?.bind (Y9 H r) := (rfl)
end
section
variable (f : Nat → Option Nat) (n : Nat)
@[go_sem] theorem afb (x : T) : ren f n (.t x) = some (.t x) := by cases n <;> rfl
@[go_sem] theorem afc : ren f n .nil = some .nil := by cases n <;> rfl
@[go_sem] theorem acx : ren f n .nilp = some .nilp := by cases n <;> rfl
@[go_sem] theorem afd : ren f n .und = some .und := by cases n <;> rfl
@[go_sem] theorem agV (cs : List T) : ren f n (.ep cs) = some (.ep cs) := by cases n <;> rfl
def agW(off:Nat)(i:Nat):D:= .bp i off
@[go_sem] theorem afe (off i : Nat) : agW off i = .bp i off := (rfl)
@[go_sem] theorem Za (id off : Nat) : ren f n (.bp id off) = (f id).map (agW off) := by cases n <;> rfl
def agX(ep m i off:Nat)(j:Nat):D:= .ap j ep m i off
@[go_sem] theorem aff (ep m i off j : Nat) : agX ep m i off j = .ap j ep m i off := (rfl)
@[go_sem] theorem agY (id ep m i off : Nat) : ren f n (.ap id ep m i off) = (f id).map (agX ep m i off) := by cases n <;> rfl
def Zb(ep m:Nat)(j:Nat):D:= .ref j ep m
@[go_sem] theorem acy (ep m j : Nat) : Zb ep m j = .ref j ep m := (rfl)
@[go_sem] theorem afg (id ep m : Nat) : ren f n (.ref id ep m) = (f id).map (Zb ep m) := by cases n <;> rfl
def Zc(ep m lo hi:Nat)(j:Nat):D:= .sub j ep m lo hi
@[go_sem] theorem acz (ep m lo hi j : Nat) : Zc ep m lo hi j = .sub j ep m lo hi := (rfl)
@[go_sem] theorem afh (id ep m lo hi : Nat) : ren f n (.sub id ep m lo hi) = (f id).map (Zc ep m lo hi) := by cases n <;> rfl
@[go_sem] theorem Zd (g : Nat) (cs : List D) : ren f (n + 1) (.fn g cs) = (aW (ren f n) cs).map (.fn g) := (rfl)
@[go_sem] theorem afi (cs : List D) : ren f (n + 1) (.agg cs) = (aW (ren f n) cs).map .agg := (rfl)
@[go_sem] theorem afj (cs : List D) : ren f (n + 1) (.tup cs) = (aW (ren f n) cs).map .tup := (rfl)
@[go_sem] theorem o7 (ts : List T) : aW (ren f n) (ts.map .t) = some (ts.map .t) := by
 induction ts with
 | nil=>rfl
 | cons t ts ih=>rw[List.map_cons,As,afb,aLq,Qx,ih];rfl
@[go_sem] theorem N4 (m : Nat) (x : T) : aW (ren f n) (List.replicate m (.t x)) = some (List.replicate m (.t x)) := by
 have:List.replicate m (D.t x)=(List.replicate m x).map .t:=by simp
 rw[this,o7]
@[go_sem] theorem FO (cs : List D) : b5 f (.box cs) = (aW (ren f 8) cs).map .box := (rfl)
@[go_sem] theorem Vp (sz ep : Nat) (pin : Bool) (es : List D) : b5 f (.arr sz pin ep es) = (aW (ren f 8) es).map (.arr sz pin ep) := (rfl)
end
def Vq(x:Option Nat):Bool→Option Nat
 | true=>some 0
 | false=>x.map (· +1)
@[go_sem] theorem agZ (x : Option Nat) : Vq x true = some 0 := (rfl)
@[go_sem] theorem ag0 (k : Nat) : Vq (some k) false = some (k + 1) := (rfl)
@[go_sem] theorem ag1 : Vq none false = none := (rfl)
@[go_sem] theorem idxOf_nil (i : Nat) : idxOf [] i = none := (rfl)
@[go_sem] theorem idxOf_cons (j i : Nat) (r : List Nat) : idxOf (j :: r) i = Vq (idxOf r i) (eqB j i) := by
 simp only[idxOf,Co]
 by_cases h:j=i
 · simp[h,Vq]
 · simp[h,Vq]
@[go_sem] theorem Vr (n i : Nat) : bN [] n i = some (n + i) := by simp [bN]
@[go_sem] theorem acA (j n : Nat) (r : List Nat) : bN (j :: r) n 0 = some j := by simp [bN]
@[go_sem] theorem acB (j n i : Nat) (r : List Nat) : bN (j :: r) n (i + 1) = bN r n i := by
 simp only[bN,List.length_cons,Nat.add_lt_add_iff_right,List.getElem?_cons_succ,Nat.add_sub_add_right]
@[go_sem] theorem Q9 {α : Type} (H os : List α) : aO H [] os = H := by cases os <;> rfl
@[go_sem] theorem N5 {α : Type} (H : List α) (i : Nat) (r : List Nat) (o : α) (os : List α) : aO H (i :: r) (o :: os) = aO (H.set i o) r os := (rfl)
def lbP(sz:Nat)(p:List D×ae):List D×ae:=(p.1,.arr sz false 0 []::p.2)
@[go_sem] theorem ag2 (sz : Nat) (cs : List D) (os : ae) : lbP sz (cs, os) = (cs, .arr sz false 0 [] :: os) := (rfl)
def lbC(base:Nat)(cs:List D)(off sz:Nat)(r:List (Nat×Nat)):Option D→List D×ae
 | some .nil=>lbP sz (bD (base+1) (cs.set off (.ref base 0 0)) r)
 | _=>bD base cs r
@[go_sem] theorem afk (base : Nat) (cs : List D) (off sz : Nat) (r : List (Nat × Nat)) : lbC base cs off sz r (some .nil) = lbP sz (bD (base + 1) (cs.set off (.ref base 0 0)) r) := (rfl)
@[go_sem] theorem ah6 (base : Nat) (cs : List D) (off sz : Nat) (r : List (Nat × Nat)) (x : T) : lbC base cs off sz r (some (.t x)) = bD base cs r := (rfl)
@[go_sem] theorem afl (base : Nat) (cs : List D) (off sz : Nat) (r : List (Nat × Nat)) (a b c : Nat) : lbC base cs off sz r (some (.ref a b c)) = bD base cs r := (rfl)
@[go_sem] theorem N6 (base : Nat) (cs : List D) (off sz : Nat) (r : List (Nat × Nat)) : bD base cs ((off, sz) :: r) = lbC base cs off sz r cs[off]? := by
 simp only[bD,lbC]
 split<;>split<;>simp_all [lbP]
def lvP(H:ae)(id:Nat)(p:List D×ae):Option (D×ae):=some (.tup [],H.set id (.box p.1)++p.2)
@[go_sem] theorem ag3 (H : ae) (id : Nat) (cs : List D) (os : ae) : lvP H id (cs, os) = some (.tup [], H.set id (.box cs) ++ os) := (rfl)
def lvB(H:ae)(id:Nat)(l:List (Nat×Nat)):Option Obj→Option (D×ae)
 | some (.box cs)=>lvP H id (bD H.length cs l)
 | _=>none
@[go_sem] theorem ag4 (H : ae) (id : Nat) (l : List (Nat × Nat)) (cs : List D) : lvB H id l (some (.box cs)) = lvP H id (bD H.length cs l) := (rfl)
@[go_sem] theorem Ra (H : ae) (id : Nat) (x : Nat × Nat) (r : List (Nat × Nat)) : xO H id (x :: r) = lvB H id (x :: r) H[id]? := by
 simp only[xO,mw]
 generalize H[id]?=o
 rcases o with _ | (cs | _)
 · rfl
 · rfl
 · rfl
section
variable (H : ae)
def klE(n:Nat)(sel new:List Nat)(os:ae)(q:List Nat×ae):Option (List Nat×ae):=some (new++q.1,os++q.2)
@[go_sem] theorem ag5 (n : Nat) (sel new : List Nat) (os : ae) (a : List Nat) (b : ae) : klE n sel new os (a, b) = some (new ++ a, os ++ b) := (rfl)
def klD(n:Nat)(sel new:List Nat)(os:ae):Option (List Nat×ae):=(jm H n (sel++new) (iD H new)).bind (klE n sel new os)
@[go_sem] theorem ag6 (n : Nat) (sel new : List Nat) (os : ae) : klD H n sel new os = (jm H n (sel ++ new) (iD H new)).bind (klE n sel new os) := (rfl)
def tX(sel:List Nat):List Nat→Bool
 | []=>true
 | i::r=> !BG i sel&&tX sel r
@[go_sem] theorem Vs (sel : List Nat) : tX sel [] = true := (rfl)
@[go_sem] theorem Rb (sel : List Nat) (i : Nat) (r : List Nat) : tX sel (i :: r) = (!BG i sel && tX sel r) := (rfl)
theorem Az(sel l:List Nat):l.all (fun i=> !sel.contains i)=tX sel l:=by
 induction l with
 | nil=>rfl
 | cons i r ih=>rw[List.all_cons,ih,yK];rfl
def klC(n:Nat)(sel new:List Nat)(os:ae):Option (List Nat×ae):=
 (if n=0 then(if(os.flatMap fun o=>o.ds.flatMap (dC H depth)).all (fun i=> !(sel++new).contains i)then aW (cX H) os else none)else some os).bind (klD H n sel new)
def rE:ae→List Nat
 | []=>[]
 | .box cs::r=>nD H 8 cs++rE r
 | .arr _ _ _ es::r=>nD H 8 es++rE r
@[go_sem] theorem Vt : rE H [] = [] := (rfl)
@[go_sem] theorem Vu (cs : List D) (r : ae) : rE H (.box cs :: r) = nD H 8 cs ++ rE H r := (rfl)
@[go_sem] theorem Vv (sz ep : Nat) (pin : Bool) (es : List D) (r : ae) : rE H (.arr sz pin ep es :: r) = nD H 8 es ++ rE H r := (rfl)
theorem Ip(os:ae):(os.flatMap fun o=>o.ds.flatMap (dC H depth))=rE H os:=by
 induction os with
 | nil=>rfl
 | cons o r ih=>rw[List.flatMap_cons,ih];cases o<;>rfl
@[go_sem] theorem ah7 (sel new : List Nat) (os : ae) : klC H 0 sel new os = (if tX (sel ++ new) (rE H os) = true then aW (cX H) os else none).bind (klD H 0 sel new) := by
 simp only[klC,Ip,Az,if_true]
@[go_sem] theorem ah8 (n : Nat) (sel new : List Nat) (os : ae) : klC H (n + 1) sel new os = klD H (n + 1) sel new os := by
 simp[klC]
def klN(n:Nat)(sel new:List Nat):Option (List Nat×ae):=(pick H new).bind (klC H n sel new)
@[go_sem] theorem ag7 (n : Nat) (sel new : List Nat) : klN H n sel new = (pick H new).bind (klC H n sel new) := (rfl)
@[go_sem] theorem acC (sel front : List Nat) : jm H 0 sel front = some ([], []) := (rfl)
@[go_sem] theorem acD (n : Nat) (sel front : List Nat) : jm H (n + 1) sel front = klN H n sel ((b7 sel front).drop sel.length) := by
 simp only[jm,klN]
 generalize (b7 sel front).drop sel.length=new
 cases pick H new with
 | none=>rfl
 | some os=>
   simp only[aLq,klC]
   congr 1
   funext os'
   simp only[klD]
   cases jm H n (sel++new) (iD H new)<;>rfl
@[go_sem] theorem L6 (cs : List D) : cX H (.box cs) = (aW (nJ H) cs).map .box := (rfl)
@[go_sem] theorem yL (sz ep : Nat) (pin : Bool) (ts : List T) : cX H (.arr sz pin ep (ts.map .t)) = some (.arr sz pin ep (ts.map .t)) := by
 simp only[cX,rC,aLw]
@[go_sem] theorem L7 (sz ep : Nat) (pin : Bool) : cX H (.arr sz pin ep []) = some (.arr sz pin ep []) := (rfl)
@[go_sem] theorem L8 (sz ep : Nat) (pin : Bool) (m : Nat) (x : T) : cX H (.arr sz pin ep (List.replicate m (.t x))) = some (.arr sz pin ep (List.replicate m (.t x))) := by
 have:List.replicate m (D.t x)=(List.replicate m x).map .t:=by simp
 rw[this,yL]
def afm(k raw:Nat)(H:ae)(ds rs:List D)(q:List Nat×ae):Option (D×ae):=
 if tX (List.range k++q.1) (fW H raw ds)=true then
  (aW (ren (idxOf (List.range k++q.1)) depth) rs).bind fun rs'=>(aW (b5 (idxOf (List.range k++q.1))) (H.take k++q.2)).map fun hs'=>(qP rs',hs')
 else none
def Iq(sel:List Nat)(H2:ae)(rs':List D):Option (D×ae):=(aW (b5 (idxOf sel)) H2).bind (finT3 rs')
where finT3 (rs':List D) (hs:ae):Option (D×ae):=some (qP rs',hs)
@[go_sem] theorem acE (rs' : List D) (hs : ae) : Iq.finT3 rs' hs = some (qP rs', hs) := (rfl)
@[go_sem] theorem acF (sel : List Nat) (H2 : ae) (rs' : List D) : Iq sel H2 rs' = (aW (b5 (idxOf sel)) H2).bind (Iq.finT3 rs') := (rfl)
@[go_sem] theorem afn (k raw : Nat) (ds rs : List D) (sel : List Nat) (os : ae) : afm k raw H ds rs (sel, os) =
 if tX (List.range k++sel) (fW H raw ds)=true then(aW (ren (idxOf (List.range k++sel)) 8) rs).bind (Iq (List.range k++sel) (H.take k++os))else none:=by
 simp only[afm,depth]
 split
 · cases aW (ren (idxOf (List.range k++sel)) 8) rs with
   | none=>rfl
   | some rs'=>simp only[aLq,Iq];cases aW (b5 (idxOf (List.range k++sel))) (H.take k++os)<;>rfl
 · rfl
@[go_sem] theorem afo (k raw : Nat) (ds rs : List D) : acm k raw H ds rs = (jm H (max raw 1) (List.range k) (uD 8 rs ++ iD H (List.range k))).bind (afm k raw H ds rs) := by
 simp only[acm,Az,uD,depth];rfl
@[go_sem] theorem Vw (k raw : Nat) (ds rs : List D) : Vg k raw H ds rs false = acm k raw H ds rs := (rfl)
@[go_sem] theorem Vx (k raw : Nat) (ds : List D) : finish k (raw + 1) H ds = YT k (raw + 1) H ds ds := by
 simp only[finish,Nat.add_one_ne_zero,if_false,aLq,jd,DU,YT,Vg]
 show(if(ew k 8 ds&&dU k (H.take k))=true then _ else _)=_
 cases (ew k 8 ds&&dU k (H.take k))<;>rfl
@[go_sem] theorem Rc (raw : Nat) (ds : List D) : fW H (raw + 1) ds = [] := by simp [fW]
@[go_sem] theorem acG : max 0 1 = 1 := (rfl)
@[go_sem] theorem afp (r : Nat) : max (r + 1) 1 = r + 1 := by omega
@[go_sem] theorem Vy : List.range 0 = [] := (rfl)
@[go_sem] theorem Vz : List.range 1 = [0] := (rfl)
@[go_sem] theorem VA : List.range 2 = [0, 1] := (rfl)
@[go_sem] theorem VB : List.range 3 = [0, 1, 2] := (rfl)
@[go_sem] theorem VC : List.range 4 = [0, 1, 2, 3] := (rfl)
end
theorem D6{α:Type}(f:α→T)(l:List α)(i:Nat)(x:α)(y:D)(h:y= .t (f x)):((l.map f).map D.t).set i y=((l.set i x).map f).map D.t:=by
 rw[h,List.map_map,List.map_map]
 exact(List.map_set (f:=D.t ∘ f)).symm
@[go_sem] theorem Re (l : List Int) (i : Nat) (k : IntKind) (x : Int) : ((l.map (T.int k)).map D.t).set i (.t (.int k x)) = ((l.set i x).map (T.int k)).map D.t := D6 _ l i x _ rfl
@[go_sem] theorem acH (l : List Bool) (i : Nat) (x : Bool) : ((l.map T.bool).map D.t).set i (.t (.bool x)) = ((l.set i x).map T.bool).map D.t := D6 _ l i x _ rfl
end Go.Ev
namespace Go.Ev
class Lib where
 fs:Nat→Option Fn
end Go.Ev
namespace Go.Ev.K
abbrev u(x:O):R:={ o:=x}
abbrev w(n:Nat)(x:O):R:={ o:=x,d:=some n}
abbrev y(n:Nat)(b:Bool)(x:O):R:={ o:=x,g:=some (n,b)}
abbrev m(x:X):R:={ o:= .mv x}
abbrev g(x:X):R:={ o:= .ld x 1 false}
abbrev h(n:Nat)(x:X):R:={ o:= .ld x n true}
abbrev f(n:Nat)(x:X):R:={ o:= .fa x n}
abbrev a(n:Nat)(x z:X):R:={ o:= .ia x z n}
abbrev l0:X:= .l 0
abbrev l1:X:= .l 1
abbrev l2:X:= .l 2
abbrev l3:X:= .l 3
abbrev l4:X:= .l 4
abbrev l5:X:= .l 5
abbrev l6:X:= .l 6
abbrev l7:X:= .l 7
abbrev l8:X:= .l 8
abbrev l9:X:= .l 9
abbrev l10:X:= .l 10
abbrev l11:X:= .l 11
abbrev v0:X:= .v 0
abbrev v1:X:= .v 1
abbrev v2:X:= .v 2
abbrev v3:X:= .v 3
abbrev v4:X:= .v 4
abbrev v5:X:= .v 5
abbrev v6:X:= .v 6
abbrev v7:X:= .v 7
abbrev v8:X:= .v 8
abbrev v9:X:= .v 9
abbrev v10:X:= .v 10
abbrev v11:X:= .v 11
abbrev v12:X:= .v 12
abbrev v13:X:= .v 13
abbrev v14:X:= .v 14
abbrev v15:X:= .v 15
abbrev v16:X:= .v 16
abbrev v17:X:= .v 17
abbrev v18:X:= .v 18
abbrev v19:X:= .v 19
abbrev v20:X:= .v 20
abbrev v21:X:= .v 21
abbrev v22:X:= .v 22
abbrev v23:X:= .v 23
end Go.Ev.K
namespace Go.Ev.K
abbrev q(a:List R)(p:List (Nat×Nat))(c:C):C:= .seq (.reg a p) c
abbrev z0:D:= .t (.int .i64 (0))
abbrev z1:D:= .t (.bool false)
abbrev x(n:Nat)(z:X):R:={ o:= .mv z,d:=some n}
abbrev e(n:Nat)(b:Bool)(z:X):R:={ o:= .mv z,g:=some (n,b)}
abbrev i(n:Nat)(b:Bool)(z:X):R:={ o:= .ld z 1 false,g:=some (n,b)}
end Go.Ev.K
namespace Go.Ev.N
def Cq:Nat:=0
def fM:Nat:=1
def Rf:Nat:=2
def gR:Nat:=3
def bX:Nat:=4
def VD:Nat:=5
def GW:Nat:=6
def Ir:Nat:=7
def GX:Nat:=8
def aq:Nat:=9
def bh:Nat:=10
def FP:Nat:=11
def cH:Nat:=12
def KD:Nat:=13
def Is:Nat:=14
def bj:Nat:=15
def b8:Nat:=16
def Rg:Nat:=17
def N7:Nat:=18
def Rh:Nat:=19
def KE:Nat:=20
def Ze:Nat:=21
def N8:Nat:=22
def ie:Nat:=23
def N9:Nat:=24
def It:Nat:=25
def KF:Nat:=26
def KG:Nat:=27
def dy:Nat:=28
def Ri:Nat:=29
def fe:Nat:=30
def Rj:Nat:=31
def VE:Nat:=32
def Rk:Nat:=33
def Oa:Nat:=34
def Ob:Nat:=35
def Rl:Nat:=36
def VF:Nat:=37
def Rm:Nat:=38
def Iu:Nat:=39
def VG:Nat:=40
def Rn:Nat:=41
def VH:Nat:=42
def Ro:Nat:=43
def Oc:Nat:=44
def Zf:Nat:=45
def Od:Nat:=46
def dV:Nat:=47
def KH:Nat:=48
def aA:Nat:=49
def FQ:Nat:=50
def aE:Nat:=51
def GY:Nat:=52
def KI:Nat:=53
def ff:Nat:=54
def VI:Nat:=55
def Oe:Nat:=56
def Rq:Nat:=57
def Rr:Nat:=58
def VJ:Nat:=59
def Rs:Nat:=60
def VK:Nat:=61
def bE:Nat:=62
def VL:Nat:=63
def Rt:Nat:=64
def Ru:Nat:=65
def aJ:Nat:=66
def aX:Nat:=67
def GZ:Nat:=68
def nX:Nat:=69
def D7:Nat:=70
def gn:Nat:=71
def Rv:Nat:=72
def Rw:Nat:=73
def VM:Nat:=74
def pQ:Nat:=75
def bH:Nat:=76
def fN:Nat:=77
end Go.Ev.N
namespace Go.Ev.K
open Go.Ev
def fM:Fn:= { bo:=1,vars:=[0,2],body:=(q [x 1 (.b false)] [] (q [m v0,u (.ln l0),u (.bin .leq l0 (.i 400)),x 1 l0] [] .ret)),res:=[(1,none)]}
def gR:Fn:= { bo:=1,vars:=[0,2],body:=(q [w 1 (.mv (.c (.nilp)))] [] (q [m v0,u (.bd [.nil,z0] [(0,1,.l 0)]),u (.bx l0 2),x 1 l0] [] .ret)),res:=[(1,none)]}
def gp:C:= (.seq (.ite [m v4,m v3,u (.bin .lss l1 l0)] [] 0 .skip (.exit 0)) (.seq (.blk 1 (.reg [f 0 v2,g l0,m v0,u (.ca N.aq 0 [] [.l 0,.i 4]),u (.bin .mul (.i (-10)) l0),m v4,u (.bin .eql l0 (.i 0)),m l0,e 0 false v0,y 1 false (.ca N.bj 0 [] [.l 0,.i 6]),u (.pk l2 (.b true) l0),u (.bd [z0,z1] [(0,1,.l 6),(1,1,.l 0)]),u (.bs [.l 0] 2),u (.app l11 l0 true 2),f 0 v2,u (.st l0 l1 1 [])] [(1,4),(1,10),(1,13)])) (.reg [m v4,u (.bin .add l0 (.i 1)),x 4 l0] [])))
def lV:C:= .loop true [5,6,7,8,9] K.gp
def iJ:C:= (.seq (.ite [m v6,m v3,u (.bin .lss l1 l0)] [] 0 .skip (.exit 2)) (.seq (.blk 3 (q [h 10 v5,w 7 (.al [z0,z0,z0,z0,z1,z1,z0,z0,z0,z0] []),u (.st l0 l1 10 [])] [] (q [m v6,u (.bin .sub l0 (.i 1)),m v0,m v6,u (.mn [.l 0,.i 2]),u (.ca N.aq 0 [] [.l 2,.l 0]),u (.bin .sub l4 l0),m v6,m v0,u (.bs [.i 11,.i 59,.i 119,.i 4] 1),u (.ca N.bh 0 [] [.l 1,.l 0]),u (.bin .add (.i 1) l0),m v0,u (.bs [.i 9,.i 3,.i 19] 1),u (.ca N.bh 0 [] [.l 1,.l 0]),u (.bin .add (.i 1) l0),f 0 v7,u (.st l0 l10 1 []),f 1 v7,u (.st l0 l11 1 []),f 2 v7,u (.st l0 l9 1 []),f 3 v7,u (.st l0 l7 1 [])] [] (.reg [f 1 v2,g l0,h 10 v7,u (.bs [.l 0] 10),u (.app l2 l0 true 10),f 1 v2,u (.st l0 l1 1 [])] [])))) (.reg [m v6,u (.bin .add l0 (.i 1)),x 6 l0] [])))
def lW:C:= .loop true [4,7,8,9] K.iJ
def cI:C:= (.seq (.ite [m v8,u (.bin .gtr l0 (.i 0)),m l0,y 0 true (.fa v2 1),i 1 true l0,y 2 true (.ln l0),y 3 true (.bin .lss l0 (.i 10)),u (.pk l4 l0 (.b false))] [] 0 .skip (.exit 4)) (.seq (.blk 5 (q [h 10 v5,w 9 (.al [z0,z0,z0,z0,z1,z1,z0,z0,z0,z0] []),u (.st l0 l1 10 [])] [] (q [m v0,m v3,u (.ca N.aq 0 [] [.l 1,.l 0]),m v0,m v3,u (.ca N.aq 0 [] [.l 1,.l 0]),m v0,u (.bs [.i 11,.i 59,.i 199] 1),u (.ca N.bh 0 [] [.l 1,.l 0]),u (.bin .add (.i 1) l0),m v0,u (.bs [.i 9,.i 3] 1),u (.ca N.bh 0 [] [.l 1,.l 0]),u (.bin .add (.i 1) l0),f 0 v9,u (.st l0 (.l 12) 1 []),f 1 v9,u (.st l0 l11 1 []),f 2 v9,u (.st l0 l9 1 []),f 3 v9,u (.st l0 l7 1 [])] [] (q [m v0,u (.ca N.aq 0 [] [.l 0,.i 5]),u (.bin .gtr l0 (.i 0)),m v0,u (.ca N.bj 0 [] [.l 0,.i 6]),f 4 v9,u (.st l0 l3 1 []),f 5 v9,u (.st l0 l3 1 [])] [] (.ite [f 0 v9,g l0,f 1 v9,g l0,u (.bin .neq l2 l0)] [] 0 (.reg [f 1 v2,g l0,h 10 v9,u (.bs [.l 0] 10),u (.app l2 l0 true 10),f 1 v2,u (.st l0 l1 1 [])] []) .skip))))) (.reg [m v8,u (.bin .sub l0 (.i 1)),x 8 l0] [])))
def lX:C:= .loop true [4,6,7,9] K.cI
def bX:Fn:= { bo:=1,vars:=[0,2,3,4,5,6,7,8,9,10],body:=(q [w 1 (.al [.nil,.nil] [])] [] (q [w 2 (.al [.nil,.nil] [(0,2),(1,10)])] [] (q [m v0,u (.ca N.aq 0 [] [.l 0,.i 6]),u (.bin .add (.i 2) l0),x 3 l0] [] (.seq (.ite [m v0,u (.nc l0),f 0 l0,g l0,u (.ln l0),u (.bin .eql l0 (.i 0))] [] 0 (.reg [x 3 (.i 4)] []) .skip) (.seq (q [x 4 (.i 0)] [] (.blk 0 K.lV)) (q [u (.bd [z0,z0] [(0,1,.i 1),(1,1,.i 1)]),u (.bd [z0,z0,z0,z0,z1,z1,z0,z0,z0,z0] [(2,1,.i 12),(3,1,.i 10),(4,1,.b true),(6,2,.l 0)]),w 5 (.al [z0,z0,z0,z0,z1,z1,z0,z0,z0,z0] []),u (.st l0 l1 10 [])] [] (.seq (q [x 6 (.i 1)] [] (.blk 2 K.lW)) (.seq (q [m v0,u (.ca N.aq 0 [] [.l 0,.i 4]),x 8 l0] [] (.blk 4 K.lX)) (q [h 2 v2,u (.st v1 l0 2 [])] [] .ret))))))))),res:=[(1,some (2,true))]}
def aq:Fn:= { bo:=2,vars:=[0,1,4],body:=(q [x 2 (.i 0)] [] (.seq (.ite [m v0,u (.nc l0),f 1 l0,g l0,m v0,u (.nc l0),f 0 l0,g l0,u (.ln l0),u (.bin .geq l5 l0)] [] 0 (q [x 2 (.i 0)] [] .ret) .skip) (q [m v0,u (.nc l0),f 1 l0,g l0,u (.bin .add l0 (.i 1)),u (.nc l4),f 1 l0,u (.st l0 l2 1 [])] [] (q [m v0,u (.nc l0),f 0 l0,g l0,m v0,u (.nc l0),f 1 l0,g l0,u (.bin .sub l0 (.i 1)),a 1 l5 l0,g l0,m v1,u (.ca N.ie 0 [] [.l 1,.l 0]),x 2 l0] [] .ret)))),res:=[(2,none)]}
def bh:Fn:= { bo:=2,vars:=[0,1,4],body:=(q [x 2 (.i 0)] [] (q [m v1,m v0,m v1,u (.ln l0),u (.ca N.aq 0 [] [.l 2,.l 0]),a 1 l4 l0,g l0,x 2 l0] [] .ret)),res:=[(2,none)]}
def jW:C:= (.seq (.ite [m v3,m v0,u (.ln l0),u (.bin .lss l2 l0)] [] 0 .skip (.exit 0)) (.seq (.blk 1 (.ite [m v0,m v3,a 1 l1 l0,g l0,m v1,u (.bin .eql l1 l0)] [] 0 (q [x 2 (.b true)] [] .ret) .skip)) (.reg [m v3,u (.bin .add l0 (.i 1)),x 3 l0] [])))
def tY:C:= .loop true [2] K.jW
def cH:Fn:= { bo:=2,vars:=[0,1,4,5],body:=(q [x 2 (.b false)] [] (.seq (q [x 3 (.i 0)] [] (.blk 0 K.tY)) (q [x 2 (.b false)] [] .ret))),res:=[(2,none)]}
def bj:Fn:= { bo:=2,vars:=[0,1,4],body:=(q [x 2 (.b false)] [] (q [m v0,m v1,u (.ca N.aq 0 [] [.l 1,.l 0]),m v1,u (.bin .sub l0 (.i 1)),u (.bin .eql l2 l0),x 2 l0] [] .ret)),res:=[(2,none)]}
def gq:C:= (.seq (.ite [m v4,m v1,u (.bin .lss l1 l0)] [] 0 .skip (.exit 0)) (.seq (.blk 1 (.ite [m v0,u (.ca N.aq 0 [] [.l 0,.i 3]),u (.bin .eql l0 (.i 0))] [] 0 (.reg [m v3,m v4,u (.bs [.l 0] 1),u (.app l2 l0 true 1),x 3 l0] []) .skip)) (.reg [m v4,u (.bin .add l0 (.i 1)),x 4 l0] [])))
def lY:C:= .loop true [2] K.gq
def b8:Fn:= { bo:=2,vars:=[0,1,4,5,6],body:=(q [w 2 (.mv (.c (.nil)))] [] (q [w 3 (.nw 1)] [] (.seq (q [x 4 (.i 0)] [] (.blk 0 K.lY)) (q [m v3,x 2 l0] [] .ret)))),res:=[(2,none)]}
def ie:Fn:= { bo:=2,vars:=[0,1,4],body:=(q [x 2 (.i 0)] [] (.seq (.ite [m v1,u (.bin .lss l0 (.i 1))] [] 0 (q [x 2 (.i 0)] [] .ret) .skip) (q [m v0,m v1,u (.bin .rem l1 l0),x 0 l0] [] (.seq (.ite [m v0,u (.bin .lss l0 (.i 0))] [] 0 (.reg [m v0,m v1,u (.bin .add l1 l0),x 0 l0] []) .skip) (q [m v0,x 2 l0] [] .ret))))),res:=[(2,none)]}
def j9:C:= (.seq (.ite [m v3,f 0 v1,g l0,u (.ln l0),u (.bin .lss l3 l0)] [] 0 .skip (.exit 0)) (.seq (.blk 1 (q [f 0 v1,g l0,m v3,a 2 l1 l0,f 0 l0,g l0,x 4 l0] [] (.ite [m v4,u (.bin .lss l0 (.i (-10000))),m l0,e 0 false v4,y 1 false (.bin .gtr l0 (.i 10000)),u (.pk l2 (.b true) l0)] [] 0 (q [x 2 (.i 1)] [] .ret) .skip))) (.reg [m v3,u (.bin .add l0 (.i 1)),x 3 l0] [])))
def pR:C:= .loop true [0,2,4,5,6] K.j9
def kc:C:= (.seq (.ite [m v5,f 1 v1,g l0,u (.ln l0),u (.bin .lss l3 l0)] [] 0 .skip (.exit 2)) (.seq (.blk 3 (q [f 1 v1,g l0,m v5,a 10 l1 l0,h 10 l0,w 6 (.al [z0,z0,z0,z0,z1,z1,z0,z0,z0,z0] []),u (.st l0 l1 10 [])] [] (.seq (.ite [f 0 v6,g l0,u (.bin .lss l0 (.i 0)),m l0,y 0 false (.fa v6 0),i 1 false l0,y 2 false (.fa v1 0),i 3 false l0,y 4 false (.ln l0),y 5 false (.bin .geq l3 l0),u (.pk l6 (.b true) l0),m l0,y 0 false (.fa v6 1),i 1 false l0,y 2 false (.bin .lss l0 (.i 0)),u (.pk l3 (.b true) l0),m l0,y 0 false (.fa v6 1),i 1 false l0,y 2 false (.fa v1 0),i 3 false l0,y 4 false (.ln l0),y 5 false (.bin .geq l3 l0),u (.pk l6 (.b true) l0),m l0,y 0 false (.fa v6 0),i 1 false l0,y 2 false (.fa v6 1),i 3 false l0,y 4 false (.bin .eql l2 l0),u (.pk l5 (.b true) l0)] [] 0 (q [x 2 (.i 4)] [] .ret) .skip) (.ite [f 2 v6,g l0,u (.bin .lss l0 (.i 1)),m l0,y 0 false (.fa v6 2),i 1 false l0,y 2 false (.bin .gtr l0 (.i 100000)),u (.pk l3 (.b true) l0),m l0,y 0 false (.fa v6 3),i 1 false l0,y 2 false (.bin .lss l0 (.i 1)),u (.pk l3 (.b true) l0),m l0,y 0 false (.fa v6 3),i 1 false l0,y 2 false (.bin .gtr l0 (.i 1000)),u (.pk l3 (.b true) l0),m l0,y 0 false (.fa v6 6),y 1 false (.ld l0 2 true),y 2 false (.ca N.ff 0 [] [.l 0,.i 1,.i 262144]),y 3 false (.un .not l0),u (.pk l4 (.b true) l0),m l0,y 0 false (.fa v6 8),y 1 false (.ld l0 2 true),y 2 false (.ca N.ff 0 [] [.l 0,.i (-2199023255552),.i 2199023255552]),y 3 false (.un .not l0),u (.pk l4 (.b true) l0)] [] 0 (q [x 2 (.i 1)] [] .ret) .skip)))) (.reg [m v5,u (.bin .add l0 (.i 1)),x 5 l0] [])))
def pS:C:= .loop true [0,2,3,4,6] K.kc
def dy:Fn:= { bo:=1,vars:=[0,1,2,3,4,5,6],body:=(q [w 1 (.bx v0 2),x 2 (.i 0)] [] (.seq (.ite [f 0 v1,g l0,u (.ln l0),u (.bin .gtr l0 (.i 64)),m l0,y 0 false (.fa v1 1),i 1 false l0,y 2 false (.ln l0),y 3 false (.bin .gtr l0 (.i 128)),u (.pk l4 (.b true) l0)] [] 0 (q [x 2 (.i 2)] [] .ret) .skip) (.seq (q [x 3 (.i 0)] [] (.blk 0 K.pR)) (.seq (q [x 5 (.i 0)] [] (.blk 2 K.pS)) (q [x 2 (.i 0)] [] .ret))))),res:=[(2,none)]}
def fy:C:= (.seq (.ite [m v3,m v0,u (.ln l0),u (.bin .lss l2 l0)] [] 0 .skip (.exit 0)) (.seq (.blk 1 (.ite [m v0,m v3,a 1 l1 l0,g l0,u (.bin .lss l0 (.i 0)),m l0,e 0 false v0,e 1 false v3,y 2 false (.ia l1 l0 1),i 3 false l0,e 4 false v1,y 5 false (.bin .geq l1 l0),u (.pk l6 (.b true) l0),m l0,e 0 false v3,y 1 false (.bin .gtr l0 (.i 0)),e 2 false l0,e 0 true v0,e 1 true v3,y 2 true (.ia l1 l0 1),i 3 true l0,e 4 true v0,e 5 true v3,y 6 true (.bin .sub l0 (.i 1)),y 7 true (.ia l2 l0 1),i 8 true l0,y 9 true (.bin .leq l5 l0),y 13 false (.pk l10 l0 (.b false)),u (.pk (.l 14) (.b true) l0)] [] 0 (q [x 2 (.b false)] [] .ret) .skip)) (.reg [m v3,u (.bin .add l0 (.i 1)),x 3 l0] [])))
def tZ:C:= .loop true [2] K.fy
def fe:Fn:= { bo:=2,vars:=[0,1,4,5],body:=(q [x 2 (.b false)] [] (.seq (q [x 3 (.i 0)] [] (.blk 0 K.tZ)) (q [x 2 (.b true)] [] .ret))),res:=[(2,none)]}
end Go.Ev.K
namespace Go.Ev
class aZ [Lib]:Prop where
 nY:Lib.fs N.fM=some K.fM
 qm:Lib.fs N.gR=some K.gR
 jz:Lib.fs N.bX=some K.bX
 jA:Lib.fs N.aq=some K.aq
 kR:Lib.fs N.bh=some K.bh
 qn:Lib.fs N.cH=some K.cH
 kd:Lib.fs N.bj=some K.bj
 jB:Lib.fs N.b8=some K.b8
 s5:Lib.fs N.ie=some K.ie
 mH:Lib.fs N.dy=some K.dy
 qo:Lib.fs N.fe=some K.fe
namespace K
variable [Lib] [aZ]
theorem nY:Lib.fs N.fM=some K.fM:=aZ.nY
theorem qm:Lib.fs N.gR=some K.gR:=aZ.qm
theorem jz:Lib.fs N.bX=some K.bX:=aZ.jz
theorem jA:Lib.fs N.aq=some K.aq:=aZ.jA
theorem kR:Lib.fs N.bh=some K.bh:=aZ.kR
theorem qn:Lib.fs N.cH=some K.cH:=aZ.qn
theorem kd:Lib.fs N.bj=some K.bj:=aZ.kd
theorem jB:Lib.fs N.b8=some K.b8:=aZ.jB
theorem s5:Lib.fs N.ie=some K.ie:=aZ.s5
theorem mH:Lib.fs N.dy=some K.dy:=aZ.mH
theorem qo:Lib.fs N.fe=some K.fe:=aZ.qo
end K
end Go.Ev
namespace Go.Ev.K
open Go.Ev
def iK:C:= (.its [u (.bin .lss v6 v5)] [] 0 .skip (.exit 0) (.seq (.blk 1 (q [m v6,x 4 l0] [] (.ite [m v1,m v4,u (.cw l1 0 [] [.l 0])] [] 0 (.reg [m v3,m v4,u (.bs [.l 0] 1),u (.app l2 l0 true 1),x 3 l0] []) .skip))) (.reg [u (.bin .add v6 (.i 1)),x 6 l0] [])))
def pT:C:= .loop true [0,2,4] K.iK
def dV:Fn:= { bo:=2,vars:=[0,1,4,5,6,7,8],body:=(q [w 2 (.mv (.c (.nil)))] [] (q [w 3 (.nw 1)] [] (.seq (q [x 5 v0,x 6 (.i 0)] [] (.blk 0 K.pT)) (q [m v3,x 2 l0] [] .ret)))),res:=[(2,none)]}
def aA:Fn:= { bo:=2,vars:=[0,1,4],body:=(q [x 2 (.b false)] [] (q [m v0,m v1,u (.ca N.aJ 0 [] [.l 1,.l 0]),u (.bin .geq l0 (.i 0)),x 2 l0] [] .ret)),res:=[(2,none)]}
def aE:Fn:= { bo:=2,vars:=[0,1,4],body:=(q [x 2 (.b false)] [] (q [m v0,m v1,u (.ca N.aX 0 [] [.l 1,.l 0]),u (.bin .geq l0 (.i 0)),x 2 l0] [] .ret)),res:=[(2,none)]}
def ff:Fn:= { bo:=3,vars:=[0,1,2,3,6],body:=(q [w 3 (.bx v0 2),x 4 (.b false)] [] (q [m v1,f 0 v3,g l0,u (.bin .leq l2 l0),m l0,y 0 true (.fa v3 0),i 1 true l0,y 2 true (.fa v3 1),i 3 true l0,y 4 true (.bin .leq l2 l0),u (.pk l5 l0 (.b false)),m l0,y 0 true (.fa v3 1),i 1 true l0,e 2 true v2,y 3 true (.bin .leq l1 l0),u (.pk l4 l0 (.b false)),x 4 l0] [] .ret)),res:=[(4,none)]}
def gr:C:= (.seq (.ite [m v3,m v0,u (.ln l0),u (.bin .lss l2 l0)] [] 0 .skip (.exit 0)) (.seq (.blk 1 (.ite [m v0,m v3,a 1 l1 l0,g l0,m v1,m v3,a 1 l1 l0,g l0,u (.bin .neq l4 l0)] [] 0 (q [x 2 (.b false)] [] .ret) .skip)) (.reg [m v3,u (.bin .add l0 (.i 1)),x 3 l0] [])))
def lZ:C:= .loop true [2] K.gr
def bE:Fn:= { bo:=2,vars:=[0,1,4,5],body:=(q [x 2 (.b false)] [] (.seq (.ite [m v0,u (.ln l0),m v1,u (.ln l0),u (.bin .neq l2 l0)] [] 0 (q [x 2 (.b false)] [] .ret) .skip) (.seq (q [x 3 (.i 0)] [] (.blk 0 K.lZ)) (q [x 2 (.b true)] [] .ret)))),res:=[(2,none)]}
def cE:C:= (.its [u (.bin .lss v5 v4)] [] 0 .skip (.exit 0) (.seq (.blk 1 (q [m v5,x 3 l0] [] (.ite [m v1,m v0,m v3,a 1 l1 l0,g l0,u (.cw l4 0 [] [.l 0])] [] 0 (q [m v3,x 2 l0] [] .ret) .skip))) (.reg [u (.bin .add v5 (.i 1)),x 5 l0] [])))
def gE:C:= .loop true [2,3] K.cE
def aJ:Fn:= { bo:=2,vars:=[0,1,4,5,7,8],body:=(q [x 2 (.i 0)] [] (.seq (q [m v0,w 4 (.ln l0),x 5 (.i 0)] [] (.blk 0 K.gE)) (q [w 2 (.mv (.i (-1)))] [] .ret))),res:=[(2,none)]}
def dv:C:= (.its [u (.bin .lss v5 v4)] [] 0 .skip (.exit 0) (.seq (.blk 1 (q [m v5,x 3 l0] [] (.ite [m v1,m v0,m v3,a 1 l1 l0,g l0,u (.bin .eql l4 l0)] [] 0 (q [m v3,x 2 l0] [] .ret) .skip))) (.reg [u (.bin .add v5 (.i 1)),x 5 l0] [])))
def iL:C:= .loop true [2,3] K.dv
def aX:Fn:= { bo:=2,vars:=[0,1,4,5,7,8],body:=(q [x 2 (.i 0)] [] (.seq (q [m v0,w 4 (.ln l0),x 5 (.i 0)] [] (.blk 0 K.iL)) (q [w 2 (.mv (.i (-1)))] [] .ret))),res:=[(2,none)]}
def gn:Fn:= { bo:=3,vars:=[0,1,2,6],body:=(q [x 3 (.b false)] [] (q [m v0,m v1,u (.bin .geq l1 l0),m l0,e 0 true v0,e 1 true v2,y 2 true (.bin .leq l1 l0),u (.pk l3 l0 (.b false)),x 3 l0] [] .ret)),res:=[(3,none)]}
def bH:Fn:= { bo:=6,vars:=[0,1,2,3,4,5,6,12,13,14,15,16,17],body:=(q [w 6 (.bx v0 2),x 7 (.i 0)] [] (.seq (.ite [h 2 v6,u (.ca N.dy 0 [] [.l 0]),u (.bin .neq l0 (.i 0)),m l0,e 0 false v1,y 1 false (.bin .lss l0 (.i 0)),u (.pk l2 (.b true) l0),m l0,e 0 false v1,y 1 false (.fa v6 1),i 2 false l0,y 3 false (.ln l0),y 4 false (.bin .geq l3 l0),u (.pk l5 (.b true) l0),m l0,y 0 false (.fa v6 1),i 1 false l0,e 2 false v1,y 3 false (.ia l1 l0 10),y 4 false (.fa l0 5),i 5 false l0,u (.pk l6 (.b true) l0),m l0,y 0 false (.fa v6 1),i 1 false l0,e 2 false v1,y 3 false (.ia l1 l0 10),y 4 false (.fa l0 4),i 5 false l0,y 6 false (.un .not l0),u (.pk l7 (.b true) l0)] [] 0 (q [w 7 (.mv (.i (-1)))] [] .ret) .skip) (q [f 1 v6,g l0,m v1,a 10 l1 l0,h 10 l0,w 8 (.al [z0,z0,z0,z0,z1,z1,z0,z0,z0,z0] []),u (.st l0 l1 10 [])] [] (q [h 10 v8,m v2,u (.ca N.fN 0 [] [.l 1,.l 0]),m l0,u (.ex l0 0),u (.ex l1 1),x 9 l1,x 10 l1] [] (q [f 0 v6,g l0,m v10,a 2 l1 l0,f 0 l0,g l0,f 0 v6,g l0,m v9,a 2 l1 l0,f 0 l0,g l0,u (.bin .sub l6 l0),x 11 l0] [] (q [m v5,x 12 l0] [] (.seq (.ite [m v11,u (.bin .mul (.i 10) l0),f 2 v8,g l0,u (.bin .gtr l2 l0)] [] 0 (.reg [m v3,x 12 l0] []) .skip) (.seq (.ite [m v11,u (.bin .mul (.i (-10)) l0),f 2 v8,g l0,u (.bin .gtr l2 l0)] [] 0 (.reg [m v4,x 12 l0] []) .skip) (q [f 2 v8,g l0,u (.bin .mul (.i 10) l0),m v12,u (.bin .add l1 l0),u (.bin .sub l0 (.i 1)),m v12,u (.bin .quo l1 l0),x 7 l0] [] .ret))))))))),res:=[(7,none)]}
def fN:Fn:= { bo:=2,vars:=[0,1,2,4,5],body:=(q [w 2 (.bx v0 10),x 3 (.i 0),x 4 (.i 0)] [] (.seq (.ite [m v1] [] 0 (q [f 1 v2,g l0,f 0 v2,g l0,x 3 l2,x 4 l1] [] .ret) .skip) (q [f 0 v2,g l0,f 1 v2,g l0,x 3 l2,x 4 l1] [] .ret))),res:=[(3,none),(4,none)]}
end Go.Ev.K
namespace Go.Ev
class bc [Lib]:Prop where
 mI:Lib.fs N.dV=some K.dV
 dz:Lib.fs N.aA=some K.aA
 eP:Lib.fs N.aE=some K.aE
 nZ:Lib.fs N.ff=some K.ff
 jC:Lib.fs N.bE=some K.bE
 eB:Lib.fs N.aJ=some K.aJ
 fX:Lib.fs N.aX=some K.aX
 s6:Lib.fs N.gn=some K.gn
 kS:Lib.fs N.bH=some K.bH
 n5:Lib.fs N.fN=some K.fN
namespace K
variable [Lib] [bc]
theorem mI:Lib.fs N.dV=some K.dV:=bc.mI
theorem dz:Lib.fs N.aA=some K.aA:=bc.dz
theorem eP:Lib.fs N.aE=some K.aE:=bc.eP
theorem nZ:Lib.fs N.ff=some K.ff:=bc.nZ
theorem jC:Lib.fs N.bE=some K.bE:=bc.jC
theorem eB:Lib.fs N.aJ=some K.aJ:=bc.eB
theorem fX:Lib.fs N.aX=some K.aX:=bc.fX
theorem s6:Lib.fs N.gn=some K.gn:=bc.s6
theorem kS:Lib.fs N.bH=some K.bH:=bc.kS
theorem n5:Lib.fs N.fN=some K.fN:=bc.n5
end K
end Go.Ev
namespace Go.Ev
open Go
variable [Lib]
noncomputable def aG:aD:=j8 Lib.fs
theorem ay{raw f:Nat}{args:List D}{H:ae}{fn:Fn}{r:D×ae}(hf:Lib.fs f=some fn)(hn:fn.bo=args.length)
 (h:(exS aG fn.body ⟨pJ args fn.vars,H⟩).bind (abe fn.res H.length raw)=some r) (h0:fn.prim=[]:=by rfl):aG raw f args H=some r:=Ql hf hn h h0
theorem AA{raw f:Nat}{args:List D}{H:ae}{fn:Fn}{r:D×ae}(hf:Lib.fs f=some fn)(h0:fn.prim≠[])(h:sK fn.prim args H=some r):aG raw f args H=some r:=FE hf h0 h
theorem bV{gc:Bool}{dead:List Nat}{c:C}{vs:List D}{H:ae}(s:Nat→St)(n:Nat){e:Ex}{st:St}
 (h0:(⟨ir dead vs,H⟩:St)=s 0) (h:∀j,j<n→iI gc dead (s j).H.length (exS aG c (s j))=some (s (j+1)))
 (he:exS aG c (s n)=some (e,st)) (hn:e≠ .normal):exS aG (.loop gc dead c) ⟨vs,H⟩=some (e,st):=by
 show jy gc dead (exS aG c) ⟨ir dead vs,H⟩=_
 rw[h0]
 exact yI s n h (c7 he hn)
theorem Iv{gc:Bool}{dead:List Nat}{c:C}{vs:List D}{H:ae}{p:Ex×St}(h:jy gc dead (exS aG c) ⟨ir dead vs,H⟩=some p):exS aG (.loop gc dead c) ⟨vs,H⟩=some p:=h
class Dat (α:Type) where
 dflt:α
instance : Dat Int := ⟨0⟩
instance : Dat Nat := ⟨0⟩
instance : Dat Bool := ⟨false⟩
instance {α : Type} : Dat (List α) := ⟨[]⟩
def nth{α:Type} [Dat α](l:List α)(j:Nat):α:=l.getD j Dat.dflt
theorem jg{α:Type} [Dat α]{l:List α}{j:Nat}(h:j<l.length):l[j]?=some (nth l j):=by simp[nth,h]
theorem bz{α β:Type} [Dat α](f:α→β){l:List α}{j:Nat}(h:j<l.length):(l.map f)[j]?=some (f (nth l j)):=by rw[aLn,jg h];rfl
theorem yM{α β γ:Type} [Dat α](f:β→γ)(g:α→β){l:List α}{j:Nat}(h:j<l.length):((l.map g).map f)[j]?=some (f (g (nth l j))):=by rw[aLn,bz g h];rfl
theorem aI{α:Type} [Dat α]{l:List α}{j:Nat}(h:j<l.length):nth l j∈l:=aLd (jg h)
theorem fw{α:Type} [Dat α]{l:List α}{j:Nat}{x:α}(h:l[j]?=some x):nth l j=x:=by simp[nth,h]
theorem uW{α:Type} [Dat α]{l:List α}{j:Nat}(h:j<l.length):l.take (j+1)=l.take j++[nth l j]:=by
 rw[List.take_succ_eq_append_getElem h];simp[nth,h]
theorem afq{a b:Int}(h:a<b):(a<b)=True:=by simp[h]
theorem afr{a b:Int}(h:b≤a):(a<b)=False:=by simp[Int.not_lt.2 h]
theorem afs{a b:Int}(h:a≤b):(a≤b)=True:=by simp[h]
theorem afu{a b:Int}(h:b<a):(a≤b)=False:=by simp[Int.not_le.2 h]
theorem afv{a b:Int}(h:a=b):(a=b)=True:=by simp[h]
theorem afw{a b:Int}(h:a≠b):(a=b)=False:=by simp[h]
theorem afx{a b:Nat}(h:a<b):(a<b)=True:=by simp[h]
theorem afy{a b:Nat}(h:b≤a):(a<b)=False:=by simp[Nat.not_lt.2 h]
theorem afz{a b:Nat}(h:a≤b):(a≤b)=True:=by simp[h]
theorem afA{a b:Nat}(h:b<a):(a≤b)=False:=by simp[Nat.not_le.2 h]
theorem afB{a b:Nat}(h:a=b):(a=b)=True:=by simp[h]
theorem afC{a b:Nat}(h:a≠b):(a=b)=False:=by simp[h]
attribute [go_sem] afB afC afq afr afs afu afv afw afx afy afz afA bU bz yM QA
@[go_sem] theorem VN (a b : Nat) : ((a + b : Nat) : Int) = (a : Int) + (b : Int) := (rfl)
@[go_sem] theorem VO : ((1 : Nat) : Int) = 1 := (rfl)
@[go_sem] theorem Rx : ((0 : Nat) : Int) = 0 := (rfl)
@[go_sem] theorem Zg (a b : Int) : a + b - b = a := Int.add_sub_cancel a b
@[go_sem] theorem Of : (0 : Int).toNat = 0 := (rfl)
@[go_sem] theorem Ry (n : Nat) : (n : Int).toNat = n := (rfl)
@[go_sem] theorem Rz (n : Nat) : ((n : Int) + 1).toNat = n + 1 := (rfl)
@[go_sem] theorem RA (a : Int) : 0 + a = a := Int.zero_add a
@[go_sem] theorem RB (a : Int) : a + 0 = a := Int.add_zero a
@[go_sem] theorem RC (a : Int) : a - 0 = a := Int.sub_zero a
abbrev tI(n:Int):T:= .int .i64 n
abbrev tL(l:List Int):T:= .sl (l.map (.int .i64))
@[go_sem] theorem L9 (H : ae) (n : Nat) (ts : List T) (x : T) : aW (frz H n) (ts.map .t ++ [.t x]) = some (ts ++ [x]) := by
 have:ts.map D.t++[.t x]=(ts++[x]).map .t:=by simp
 rw[this,FK]
@[go_sem] theorem Og {α β : Type} (f : α → β) (a b : List α) : (a ++ b).map f = a.map f ++ b.map f := List.map_append
end Go.Ev
namespace Go.Ev
open Go
variable [Lib] [aZ] [bc]
theorem dO{gc:Bool}{dead:List Nat}{c:C}{vs:List D}{H:ae}(s:Nat→St)(n:Nat)(p:Nat→Bool)(e:Nat→Ex×St)(eN:Ex×St)
 (h0:(⟨ir dead vs,H⟩:St)=s 0) (hs:∀j,j<n→p j=false→iI gc dead (s j).H.length (exS aG c (s j))=some (s (j+1)))
 (he:∀j,j<n→p j=true→exS aG c (s j)=some (e j)∧(e j).1≠ .normal) (hN:exS aG c (s n)=some eN) (hn:eN.1≠ .normal):
 exS aG (.loop gc dead c) ⟨vs,H⟩=some (match (List.range n).find? p with | some j=>e j | none=>eN):=by
 show jy gc dead (exS aG c) ⟨ir dead vs,H⟩=_
 rw[h0]
 cases hf:(List.range n).find? p with
 | none=>
   refine yI s n (fun j hj=>hs j hj ?_) (c7 hN hn)
   have:=List.find?_eq_none.1 hf j (aLu.2 hj)
   simpa using this
 | some k=>
   obtain⟨h1,as,bs,h2,h3⟩:=List.find?_eq_some_iff_append.1 hf
   have hk:k<n:=aLu.1 (List.mem_of_find?_eq_some hf)
   have hlt:∀j,j<k→p j=false:=by
    intro j hj
    have hlen:as.length=k:=by
     have h4:(List.range n)[as.length]?=some k:=by rw[h2];simp
     have h5:as.length<n:=by
      have:=congrArg List.length h2;simp at this;omega
     rw[aLp h5]at h4
     exact Option.some.inj h4
    have:j∈as:=by
     have h6:(List.range n)[j]?=some j:=aLp (by omega)
     rw[h2,aLg (by omega)]at h6
     exact aLd h6
    simpa using h3 j this
   obtain⟨k1,k2⟩:=he k hk h1
   exact yI s k (fun j hj=>hs j (by omega) (hlt j hj)) (c7 k1 k2)
def ni{α:Type}(f:α→α×Bool):Nat→α→α
 | 0,l=>l
 | n+1,l=>if(f l).2 then ni f n (f l).1 else(f l).1
theorem FR{α:Type}{gc:Bool}{dead:List Nat}{c:C}{vs:List D}{H:ae}(S:α→Bool→St)(E:α→Ex×St)(f:α→α×Bool)(inv:α→Prop)(mes:α→Nat)
 (hinv:∀l,inv l→inv (f l).1∧((f l).2=true→mes (f l).1<mes l))
 (hs:∀l,inv l→iI gc dead (S l true).H.length (exS aG c (S l true))=some (S (f l).1 (f l).2))
 (he:∀l,inv l→exS aG c (S l false)=some (E l)∧(E l).1≠ .normal) (l:α) (hl:inv l) (h0:(⟨ir dead vs,H⟩:St)=S l true):
 exS aG (.loop gc dead c) ⟨vs,H⟩=some (E (ni f (mes l+1) l))∧inv (ni f (mes l+1) l):=by
 have key:∀(n:Nat) (l:α),inv l→mes l<n→jy gc dead (exS aG c) (S l true)=some (E (ni f n l))∧inv (ni f n l):=by
  intro n
  induction n with
  | zero=>intro l _ h;omega
  | succ n ih=>
    intro l hl hm
    obtain⟨h1,h2⟩:=hinv l hl
    have hr:=hs l hl
    cases hf:(f l).2 with
    | true=>
      rw[hf]at hr
      obtain⟨k1,k2⟩:=ih (f l).1 h1 (by have:=h2 hf;omega)
      simp only[ni,hf,if_true]
      exact⟨gK hr k1,k2⟩
    | false=>
      rw[hf]at hr
      obtain⟨k1,k2⟩:=he (f l).1 h1
      simp only[ni,hf,aLt,if_false]
      exact⟨gK hr (c7 k1 k2),h1⟩
 have:=key (mes l+1) l hl (Nat.lt_succ_self _)
 show jy gc dead (exS aG c) ⟨ir dead vs,H⟩=_∧_
 rw[h0];exact this
theorem Ma{n:Nat}{p:Nat→Bool}:((List.range n).find? p).isSome=(List.range n).any p:=by
 rw[List.isSome_find?]
def fv(m:Nat):List D:=(List.range m).map fun i=> .bp i 0
def aH(bs:List (List T)):ae:=bs.map fun cs=> .box (cs.map .t)
theorem xS{bs:List (List T)}{i:Nat}(h:i<bs.length):(aH bs)[i]?=some (.box (bs[i].map .t)):=by simp[aH,h]
theorem dP(bs:List (List T)):(aH bs).length=bs.length:=by simp[aH]
theorem s7:∀(l sel:List Nat),(sel++l).Nodup→b7 sel l=sel++l
 | [],sel,_=>by simp[b7]
 | i::r,sel,h=>by
   have:sel.contains i=false:=by
    rw[← Bool.not_eq_true,List.contains_iff_mem]
    intro hm
    have:=List.nodup_append.1 h
    exact this.2.2 i hm i List.mem_cons_self rfl
   simp only[b7,this,aLt,if_false]
   rw[s7 r (sel++[i]) (by simpa using h)]
   simp
theorem gF:∀(l:List Nat) (i k:Nat),l.Nodup→l[k]?=some i→idxOf l i=some k
 | [],i,k,_,h=>by simp at h
 | a::l,i,0,_,h=>by simp at h;simp[idxOf,h]
 | a::l,i,k+1,hn,h=>by
   simp at h
   have hne:a≠i:=fun e=>(List.nodup_cons.1 hn).1 (e▸aLd h)
   simp only[idxOf,if_neg hne,gF l i k (List.nodup_cons.1 hn).2 h,aLw]
theorem Cr{m i:Nat}(h:i<m):idxOf (List.range m) i=some i:=gF _ _ _ List.nodup_range (aLp h)
theorem s8{α:Type}{f:α→Option α}:∀ {l:List α},(∀x∈l,f x=some x)→aW f l=some l
 | [],_=>rfl
 | a::l,h=>by
   simp only[aW,h a List.mem_cons_self,aLq,s8 fun x hx=>h x (List.mem_cons_of_mem _ hx),aLw]
theorem Cs(f:Nat→Option Nat)(cs:List T):b5 f (.box (cs.map .t))=some (.box (cs.map .t)):=by
 simp only[FO,o7,aLw]
theorem AB{H:ae}:∀ {l:List Nat} {hs:ae},l.length=hs.length→(∀(k i:Nat) (o:Obj),l[k]?=some i→hs[k]?=some o→H[i]?=some o)→pick H l=some hs
 | [],[],_,_=>rfl
 | [],_::_,h,_=>by simp at h
 | _::_,[],h,_=>by simp at h
 | i::l,o::hs,h,hg=>by
   rw[Io,hg 0 i o rfl rfl,aLq,L5,AB (l:=l) (hs:=hs) (by simpa using h) fun k i o hk ho=>hg (k+1) i o (by simpa using hk) (by simpa using ho)]
   rfl
theorem ua{H:ae}:∀ {l:List Nat} {os:ae},(∀(k i:Nat) (o:Obj),l[k]?=some i→os[k]?=some o→H[i]?=some o)→aO H l os=H
 | [],os,_=>by cases os<;>rfl
 | i::l,[],_=>rfl
 | i::l,o::os,hg=>by
   simp only[aO]
   rw[L3 (hg 0 i o rfl rfl)]
   exact ua fun k i o hk ho=>hg (k+1) i o (by simpa using hk) (by simpa using ho)
theorem AD(call:aD)(bs:List (List T))(E:ae)(f raw:Nat)(args:List D){r:D}(h:call raw f args (aH bs)=some (r,aH bs))(hr:rD r=true)
 (ha:∀H:ae,lO H [] 0 args=some args∧bT H [] 0 args=[]) (hids:b7 [] (uD 8 args)=List.range bs.length)
 (hren:aW (ren (idxOf (List.range bs.length)) 8) args=some args):Ax (aH bs++E) call f raw [] args=some (r,aH bs++E):=by
 generalize hH:aH bs++E=H
 have hget:∀i (hi:i<bs.length),H[i]?=some (.box (bs[i].map .t)):=fun i hi=>by
  rw[← hH,aLg (by rw[dP];exact hi),xS hi]
 obtain⟨ha,hfz⟩:=ha H
 have hno:iD H (List.range bs.length)=[]:=by
  simp only[iD,List.flatMap_eq_nil_iff,aLu]
  intro i hi
  rw[hget i hi]
  exact xR 8 bs[i]
 have hsel:reach H 3 (List.range bs.length)=List.range bs.length:=by
  simp only[reach,hno,b7]
 have hget2:∀(k i:Nat) (o:Obj),(List.range bs.length)[k]?=some i→(aH bs)[k]?=some o→H[i]?=some o:=by
  intro k i o hk ho
  have hkl:k<bs.length:=by have:=(aLe.1 hk).1;simpa using this
  rw[aLp hkl]at hk
  cases hk
  rw[xS hkl]at ho
  rw[hget k hkl,←ho]
 have hpick:pick H (List.range bs.length)=some (aH bs):=AB (by simp[dP]) hget2
 have hro:∀f:Nat→Option Nat,aW (b5 f) (aH bs)=some (aH bs):=fun f=>s8 fun o ho=>by
  simp only[aH,List.mem_map]at ho
  obtain⟨cs,_,rfl⟩:=ho
  exact Cs f cs
 have hput:aO H (List.range bs.length) (aH bs)=H:=ua hget2
 rw[DV,DW,ha,aLq,DX,hids,hsel,DY,hren,aLq,hfz,DZ]
 simp only[pins]
 rw[hpick,aLq,D0,hro,aLq,D1,h,aLq]
 cases hb:bs with
 | nil=>
   subst hb
   have hrr:=yJ (f:=bN [] H.length) hr
   simp only[depth]at hrr
   simp only[List.length_nil,List.range_zero,aH,List.map_nil]
   unfold jV
   split
   · rfl
   · rw[D3,hrr,aLq,D2]
     simp[aW,LY,aO]
 | cons b bt=>
   rw[← hb]
   have hne:List.range bs.length=0::(List.range' 1 bt.length):=by rw[hb];simp[List.range_eq_range',List.range'_succ]
   have hrr:=yJ (f:=bN (List.range bs.length) H.length) hr
   simp only[depth]at hrr
   have hw:jV H H (List.range bs.length) (r,aH bs)=w6 H H.length (List.range bs.length) (r,aH bs):=by
    rw[hne];rfl
   rw[hw,D3,hrr,aLq,D2,hro,aLq,LZ,List.length_range,List.take_of_length_le (by rw[dP];exact aLs _),hput,
    List.drop_eq_nil_of_le (by rw[dP];exact aLs _),List.append_nil]
theorem Ct(H:ae)(cs:List D)(hc:∀i,lO H [] i cs=some cs∧bT H [] i cs=[]):∀(ts:List T) (i:Nat),lO H [] i (ts.map .t++cs)=some (ts.map .t++cs)∧bT H [] i (ts.map .t++cs)=[]
 | [],i=>hc i
 | t::ts,i=>by
   obtain⟨h1,h2⟩:=Ct H cs hc ts (i+1)
   simp only[List.map_cons,List.cons_append,xQ,nW,BG,N3,YL,aLq,Ik,h1,h2,Y2,Ii]
   exact⟨rfl,rfl⟩
theorem AE(H:ae):∀(l:List Nat) (i:Nat),lO H [] i (l.map fun i=> .bp i 0)=some (l.map fun i=> .bp i 0)∧bT H [] i (l.map fun i=> .bp i 0)=[]
 | [],i=>⟨rfl,rfl⟩
 | a::l,i=>by
   obtain⟨h1,h2⟩:=AE H l (i+1)
   simp only[List.map_cons,xQ,nW,BG,N3,QR,aLq,Ik,h1,h2,Y2,QX]
   exact⟨rfl,rfl⟩
theorem AF(n m:Nat):uD n (fv m)=List.range m:=by
 simp only[uD,fv,List.flatMap_map]
 have:∀l:List Nat,(l.flatMap fun a=>ids n (.bp a 0))=l:=by
  intro l
  induction l with
  | nil=>rfl
  | cons a l ih=>rw[List.flatMap_cons,ih,Y6];rfl
 exact this _
theorem D8(n m:Nat):aW (ren (idxOf (List.range m)) n) (fv m)=some (fv m):=s8 fun d hd=>by
 simp only[fv,List.mem_map,aLu]at hd
 obtain⟨k,hk,rfl⟩:=hd
 rw[Za,Cr hk];rfl
theorem o8{α β:Type}{f:α→Option β}:∀ {a b:List α} {x y:List β},aW f a=some x→aW f b=some y→aW f (a++b)=some (x++y)
 | [],b,x,y,h1,h2=>by simp[aW]at h1;subst h1;exact h2
 | c::a,b,x,y,h1,h2=>by
   simp only[aW,aLa,aLb]at h1
   obtain⟨z,hz,r,hr,rfl⟩:=h1
   simp only[List.cons_append,aW,hz,aLq,o8 hr h2,aLw]
theorem Iw(call:aD)(bs:List (List T))(E:ae)(f raw:Nat)(ts:List T){r:D}(h:call raw f (ts.map .t++fv bs.length) (aH bs)=some (r,aH bs))(hr:rD r=true):
 Ax (aH bs++E) call f raw [] (ts.map .t++fv bs.length)=some (r,aH bs++E):=
 AD call bs E f raw _ h hr (fun H=>Ct H _ (AE H _) ts 0)
  (by rw[D4,xR,List.nil_append,AF,s7 _ _ (by simpa using List.nodup_range),List.nil_append])
  (o8 (o7 _ _ _) (D8 _ _))
theorem RD(call:aD)(bs:List (List T))(E:ae)(g f raw:Nat)(ts:List T){r:D}(h:call raw f (ts.map .t++[.fn g (fv bs.length)]) (aH bs)=some (r,aH bs))(hr:rD r=true):
 Ax (aH bs++E) call f raw [] (ts.map .t++[.fn g (fv bs.length)])=some (r,aH bs++E):=
 AD call bs E f raw _ h hr (fun H=>Ct H _ (fun i=>⟨rfl,rfl⟩) ts 0)
  (by rw[D4,xR,List.nil_append,Il,Y7,AF,L4,List.append_nil,s7 _ _ (by simpa using List.nodup_range),List.nil_append])
  (o8 (o7 _ _ _) (by rw[As,Zd,D8];rfl))
theorem AG{f:Nat}{bs:List (List T)}{x:T}{r:D}(E:ae)(h:aG 0 f (.t x::fv bs.length) (aH bs)=some (r,aH bs))(hr:rD r=true):
 Ax (aH bs++E) aG f 0 [] (.t x::fv bs.length)=some (r,aH bs++E):=Iw aG bs E f 0 [x] h hr
theorem o9{f:Nat}{bs:List (List T)}{x:T}{r:D}(h:aG 0 f (.t x::fv bs.length) (aH bs)=some (r,aH bs))(hr:rD r=true):
 Ax (aH bs) aG f 0 [] (.t x::fv bs.length)=some (r,aH bs):=by
 have:=AG [] h hr;rwa [List.append_nil]at this
theorem xT(call:aD)(bs:List (List T))(g f raw:Nat)(x:T){r:D}(h:call raw f [.t x,.fn g (fv bs.length)] (aH bs)=some (r,aH bs))(hr:rD r=true):
 Ax (aH bs) call f raw [] [.t x,.fn g (fv bs.length)]=some (r,aH bs):=by
 have:=RD call bs [] g f raw [x] h hr
 rwa [List.append_nil]at this
section
variable (bs : List (List T)) (o o' : Obj)
@[go_sem] theorem Mb : (aH bs).length = bs.length := dP bs
@[go_sem] theorem VP : (aH bs ++ [o])[bs.length]? = some o := by
 rw[aLh (by rw[dP];exact aLs _),dP];simp
@[go_sem] theorem Zh : (aH bs ++ [o]).set bs.length o' = aH bs ++ [o'] := by
 rw[List.set_append_right _ _ (by rw[dP];exact aLs _),dP];simp
@[go_sem] theorem VQ : (aH bs ++ [o]).take bs.length = aH bs := by
 rw[List.take_append_of_le_length (by rw[dP];exact aLs _),List.take_of_length_le (by rw[dP];exact aLs _)]
@[go_sem] theorem RE : (aH bs ++ [o]).take (bs.length + 1) = aH bs ++ [o] := List.take_of_length_le (by simp [dP])
@[go_sem] theorem RF : (aH bs).take bs.length = aH bs := List.take_of_length_le (by simp [dP])
@[go_sem] theorem RG (k : Nat) (a b : ae) : dU k (a ++ b) = (dU k a && dU k b) := by
 rw[← jd,←jd,←jd,List.all_append]
@[go_sem] theorem Mc (k : Nat) : dU k (aH bs) = true := by
 induction bs with
 | nil=>rfl
 | cons b r ih=>
   show(ew k 8 (b.map .t)&&dU k (aH r))=true
   rw[DT,ih];rfl
@[go_sem] theorem acI (n : Nat) : ltB n (n + 1) = true := by rw [gM]; simp
@[go_sem] theorem acJ (n : Nat) : ltB n n = false := by rw [gM]; simp
theorem uc(k n m:Nat)(h:m≤k):ew k n (fv m)=true:=by
 unfold ew fv
 rw[aLx]
 intro d hd
 obtain⟨i,hi,rfl⟩:=List.mem_map.1 hd
 rw[YM,gM]
 have:=aLu.1 hi
 simp;omega
@[go_sem] theorem RH (n m : Nat) : ew m n (fv m) = true := uc _ _ _ (aLs _)
@[go_sem] theorem Oh (n m : Nat) : ew (m + 1) n (fv m) = true := uc _ _ _ (Nat.le_succ _)
end
def eM(n:Nat)(p:Nat→Bool):List Int:=((List.range n).filter p).map (fun(i:Nat)=>(i:Int))
theorem qp(n:Nat)(p:Nat→Bool):eM (n+1) p=if p n=true then eM n p++[(n:Int)]else eM n p:=by
 unfold eM
 rw[List.range_succ,List.filter_append,List.map_append]
 by_cases h:p n=true<;>simp[h]
theorem xU(n:Nat)(p:Nat→Bool):(eM n p).length≤n:=by
 unfold eM
 rw[List.length_map]
 have:=List.length_filter_le p (List.range n)
 simpa using this
theorem Md(n:Nat)(hn:n≤1000000)(f:Nat)(bs:List (List T))(p:Nat→Bool)(h:∀k,k<n→aG 0 f (I k::fv bs.length) (aH bs)=some (B (p k),aH bs)):
 aG 0 N.dV [I n,.fn f (fv bs.length)] (aH bs)=some (.t (tL (eM n p)),aH bs):=by
 refine ay K.mI rfl ?_
 have hlen:=fun k=>xU k p
 have loop:exS aG K.pT ⟨[I n,.fn f (fv bs.length),.nil,.ref bs.length 0 0,.und,I n,I 0],aH bs++[.arr 1 false 0 []]⟩=
  some (.exit 0,⟨[.und,.fn f (fv bs.length),.und,.ref bs.length 0 (eM n p).length,.und,I n,I n],aH bs++[.arr 1 false 0 (((eM n p).map (T.int .i64)).map .t)]⟩):=by
  refine bV (fun j=>⟨[.und,.fn f (fv bs.length),.und,.ref bs.length 0 (eM j p).length,.und,I n,I j],aH bs++[.arr 1 false 0 (((eM j p).map (T.int .i64)).map .t)]⟩) n rfl ?_ ?_ (by simp)
  · intro j hj
    have hc:=AG [.arr 1 false 0 (((eM j p).map (T.int .i64)).map .t)] (h j hj) rfl
    have:=hlen j
    by_cases hp:p j=true
    · simp(disch:=omega)only[go_sem,K.iK,hc,hp,qp,↓reduceIte]
    · simp(disch:=omega)only[go_sem,K.iK,hc,hp,qp,↓reduceIte]
  · simp(disch:=omega)only[go_sem,K.iK,↓reduceIte]
 simp(disch:=omega)only[go_sem,K.dV,↓reduceIte,loop]
end Go.Ev
namespace Go.Ev
open Go
variable [Lib] [aZ] [bc]
theorem iz{α:Type}(sz:Nat)(f:α→T)(h:∀a,kO sz (f a).cells=true):∀l:List α,bK sz (l.map f)=true
 | []=>rfl
 | a::l=>by rw[List.map_cons,rB,h,iz sz f h l];rfl
@[go_sem] theorem Oi (k : IntKind) (l : List Int) : bK 1 (l.map (.int k)) = true := iz 1 _ (fun _ => rfl) l
theorem rF(sz:Nat):∀ts:List T,(ts.all fun e=>e.cells.length==sz)=bK sz ts
 | []=>rfl
 | t::ts=>by
   rw[List.all_cons,rB,rF sz ts]
   congr 1
   rw[Bool.eq_iff_iff,eL];simp
section
variable (H : ae) (sz : Nat) (ts : List T) (i j : Int)
@[go_sem] theorem afD : Av H sz (some (.t (.sl ts))) (some none) (some (some i)) = if 0 ≤ i then (if i ≤ ts.length then (if bK sz ts = true then some (.t (.sl (ts.take i.toNat)), H) else none) else none) else none := by
 simp only[Av,aLq,kE,bound,rF,idx]
 by_cases h1:0≤i
 · rw[if_pos h1,if_pos h1,aLq]
   by_cases h2:i≤ts.length
   · rw[if_pos h2]
     by_cases h3:bK sz ts=true
     · rw[if_pos h3,if_pos ⟨by omega,by omega,h3⟩];rfl
     · rw[if_neg h3,if_neg fun h=>h3 h.2.2];rfl
   · rw[if_neg h2,if_neg fun h=>h2 (by omega)];rfl
 · rw[if_neg h1,if_neg h1];rfl
@[go_sem] theorem afE : Av H sz (some (.t (.sl ts))) (some (some i)) (some none) = if 0 ≤ i then (if i ≤ ts.length then (if bK sz ts = true then some (.t (.sl (ts.drop i.toNat)), H) else none) else none) else none := by
 simp only[Av,aLq,kE,bound,rF,idx]
 by_cases h1:0≤i
 · rw[if_pos h1,if_pos h1,aLq]
   by_cases h2:i≤ts.length
   · rw[if_pos h2]
     by_cases h3:bK sz ts=true
     · rw[if_pos h3,if_pos ⟨by omega,by omega,h3⟩,List.take_of_length_le (by simp)];rfl
     · rw[if_neg h3,if_neg fun h=>h3 h.2.2];rfl
   · rw[if_neg h2,if_neg fun h=>h2 (by omega)];rfl
 · rw[if_neg h1,if_neg h1];rfl
@[go_sem] theorem Zi : Av H sz (some (.t (.sl ts))) (some (some i)) (some (some j)) = if 0 ≤ i then (if i ≤ j then (if j ≤ ts.length then (if bK sz ts = true then some (.t (.sl ((ts.drop i.toNat).take (j.toNat - i.toNat))), H) else none) else none) else none) else none := by
 simp only[Av,aLq,kE,bound,rF,idx]
 by_cases h1:0≤i
 · rw[if_pos h1,if_pos h1,aLq]
   by_cases h0:i≤j
   · rw[if_pos h0,if_pos (by omega:0≤j),aLq]
     by_cases h2:j≤ts.length
     · rw[if_pos h2]
       by_cases h3:bK sz ts=true
       · rw[if_pos h3,if_pos ⟨by omega,by omega,h3⟩];rfl
       · rw[if_neg h3,if_neg fun h=>h3 h.2.2];rfl
     · rw[if_neg h2,if_neg fun h=>h2 (by omega)];rfl
   · rw[if_neg h0]
     by_cases h2:0≤j
     · rw[if_pos h2,aLq,if_neg fun h=>h0 (by omega)];rfl
     · rw[if_neg h2];rfl
 · rw[if_neg h1,if_neg h1];rfl
end
def bsK(H:ae)(l:List Nat):Option T→Option (D×ae)
 | some t=>some (.t (.sl [t]),pins H l)
 | none=>none
@[go_sem] theorem acK (H : ae) (l : List Nat) (t : T) : bsK H l (some t) = some (.t (.sl [t]), pins H l) := (rfl)
@[go_sem] theorem acL (H : ae) (sz : Nat) (cs : List D) : xP H sz [.agg cs] = if kO sz cs = true then bsK H (dC H 8 (.agg cs)) (frz H 8 (.agg cs)) else none := by
 simp only[xP,List.all_cons,List.all_nil,Bool.and_true,D.cells]
 by_cases h:kO sz cs=true
 · rw[if_pos h,if_pos (by simpa using eL.1 h)]
   simp only[aW,depth,List.flatMap_cons,List.flatMap_nil,List.append_nil]
   cases frz H 8 (.agg cs)<;>rfl
 · rw[if_neg h,if_neg (by intro e;exact h (eL.2 (by simpa using e)))]
@[go_sem] theorem acM (H : ae) (id ep n : Nat) : xP H 1 [.ref id ep n] = bsK H (dC H 8 (.ref id ep n)) (frz H 8 (.ref id ep n)) := by
 simp only[xP,List.all_cons,List.all_nil,Bool.and_true,D.cells,List.length_cons,List.length_nil,beq_self_eq_true,if_true,aW,depth,List.flatMap_cons,List.flatMap_nil,List.append_nil]
 cases frz H 8 (.ref id ep n)<;>rfl
def RI(H:ae)(r:D)(os:ae):D×ae:=(r,H++os)
@[go_sem] theorem acN (H : ae) (r : D) (os : ae) : RI H r os = (r, H ++ os) := (rfl)
def Zj(H:ae)(os:ae)(r:D):Option (D×ae):=(aW (b5 (bN [] H.length)) os).map (RI H r)
@[go_sem] theorem acO (H : ae) (os : ae) (r : D) : Zj H os r = (aW (b5 (bN [] H.length)) os).map (RI H r) := (rfl)
@[go_sem] theorem Zk (H : ae) (r : D) (o : Obj) (os : ae) : qk H (r, o :: os) = (ren (bN [] H.length) 8 r).bind (Zj H (o :: os)) := by
 simp only[qk,List.isEmpty_cons,Bool.and_false,aLt,if_false]
 rfl
end Go.Ev
namespace Go.Ev
open Go
variable [Lib] [aZ] [bc]
@[go_sem] theorem afF (H : ae) (a b : List T) : xP H 1 [.t (.sl a), .t (.sl b), .nil] = some (.t (.sl [.sl a, .sl b, .sl []]), H) := by
 simp only[xP,List.all_cons,List.all_nil,D.cells,T.cells,List.map_cons,List.map_nil,List.length_cons,List.length_nil,aW,frz,depth,dC,List.flatMap_cons,List.flatMap_nil,pins]
 rfl
def Me(c:Bool):Option Bool→Option Bool
 | some d=>some (c&&d)
 | none=>none
@[go_sem] theorem VR (c d : Bool) : Me c (some d) = some (c && d) := (rfl)
@[go_sem] theorem VS : jP [] [] = some true := (rfl)
@[go_sem] theorem RJ (k : IntKind) (a b : Int) (xs ys : List T) : jP (.int k a :: xs) (.int k b :: ys) = Me (decide (a = b)) (jP xs ys) := by
 simp only[jP,if_true,XM]
 cases jP xs ys<;>rfl
def Mf(H:ae)(neg:Bool):Option Bool→Option (D×ae)
 | some r=>some (.t (.bool (bif neg then !r else r)),H)
 | none=>none
@[go_sem] theorem VT (H : ae) (r : Bool) : Mf H true (some r) = some (.t (.bool (!r)), H) := (rfl)
@[go_sem] theorem RK (H : ae) (r : Bool) : Mf H false (some r) = some (.t (.bool r), H) := (rfl)
@[go_sem] theorem RL (H : ae) (n : Nat) (neg : Bool) (xs ys : List T) : mF H (.ints n) neg (some (.t (.agg xs))) (some (.t (.agg ys))) = if xs.length = n then Mf H neg (jP xs ys) else none := by
 simp only[mF,aLq,NI,eqD]
 by_cases h:xs.length=n
 · simp only[if_pos h]
   cases jP xs ys with
   | none=>rfl
   | some r=>cases neg<;>rfl
 · simp only[if_neg h];rfl
@[go_sem] theorem FT : ((2 : Nat) : Int) = 2 := (rfl)
@[go_sem] theorem Oj : ((3 : Nat) : Int) = 3 := (rfl)
def AH(n:Nat)(p:Nat→Bool):Nat:=((List.range n).find? p).getD 0
theorem Ix{gc:Bool}{dead:List Nat}{c:C}{vs:List D}{H:ae}(s:Nat→St)(n:Nat)(p:Nat→Bool)(e:Nat→Ex×St)(eN:Ex×St)
 (h0:(⟨ir dead vs,H⟩:St)=s 0)
 (hs:∀j,j<n→p j=false→iI gc dead (s j).H.length (exS aG c (s j))=some (s (j+1)))
 (he:∀j,j<n→p j=true→exS aG c (s j)=some (e j)∧(e j).1≠ .normal)
 (hN:exS aG c (s n)=some eN) (hn:eN.1≠ .normal):
 exS aG (.loop gc dead c) ⟨vs,H⟩=some (if(List.range n).any p=true then e (AH n p)else eN):=by
 rw[dO s n p e eN h0 hs he hN hn,←Ma]
 unfold AH
 cases hf:(List.range n).find? p with
 | none=>simp
 | some k=>simp
theorem RM(n:Nat)(p:Nat→Bool):(List.range n).all p= !((List.range n).any fun j=> !p j):=by
 rw[List.all_eq_not_any_not]
end Go.Ev
namespace Go.Ev
open Go
instance : Dat (List Int) := ⟨[]⟩
def LU(p:Nat→Prop) [DecidablePred p](G:List (List Int)):Nat→List Int
 | 0=>[]
 | m+1=>LU p G m++if p m then nth G m else []
theorem pU{p:Nat→Prop} [DecidablePred p]{G:List (List Int)}{i:Int}:∀ {m:Nat},i∈LU p G m↔∃n,n<m∧p n∧i∈nth G n
 | 0=>by simp[LU]
 | m+1=>by
   rw[LU,List.mem_append,pU]
   constructor
   · rintro (⟨n,a,b,c⟩ | h)
     · exact⟨n,by omega,b,c⟩
     · split at h
       · rename_i hp;exact⟨m,by omega,hp,h⟩
       · simp at h
   · rintro ⟨n,a,b,c⟩
     by_cases e:n=m
     · subst e;right;rw[if_pos b];exact c
     · exact .inl ⟨n,by omega,b,c⟩
theorem rG(p:Nat→Prop) [DecidablePred p](G:List (List Int)):∀m,(LU (fun _=>True) G m).length=(LU p G m).length+(LU (fun n=>¬p n) G m).length
 | 0=>rfl
 | m+1=>by
   have ih:=rG p G m
   simp only[LU,aLv,if_true]
   by_cases h:p m
   · simp only[h,if_true,not_true_eq_false,if_false,List.length_nil];omega
   · simp only[h,if_false,not_false_eq_true,if_true,List.length_nil];omega
theorem Zl{p:Nat→Prop} [DecidablePred p]{G G2:List (List Int)}:∀m,(∀n,n<m→p n→(nth G2 n).length≤(nth G n).length)→(LU p G2 m).length≤(LU p G m).length
 | 0,_=>aLs _
 | m+1,h=>by
   have ih:=Zl m fun n hn hp=>h n (by omega) hp
   simp only[LU,aLv]
   split
   · rename_i hp;have:=h m (by omega) hp;omega
   · simpa using ih
theorem D9(p:Nat→Prop) [DecidablePred p](G:List (List Int)):∀m,List.Sublist (LU p G m) (LU (fun _=>True) G m)
 | 0=>List.Sublist.refl _
 | m+1=>by
   have ih:=D9 p G m
   simp only[LU,if_true]
   refine List.Sublist.append ih ?_
   split
   · exact List.Sublist.refl _
   · exact List.nil_sublist _
abbrev rH(G:List (List Int)):List Int:=LU (fun _=>True) G G.length
theorem dI:∀ {a b:List Int},a.Nodup→(∀x∈a,x∈b)→a.length≤b.length
 | [],b,_,_=>Nat.zero_le _
 | x::a,b,h,hs=>by
   obtain⟨h1,h2⟩:=List.nodup_cons.1 h
   obtain⟨s,t,rfl⟩:=List.append_of_mem (hs x List.mem_cons_self)
   have:=dI (a:=a) (b:=s++t) h2 fun y hy=>by
    have:=hs y (List.mem_cons_of_mem _ hy)
    rw[List.mem_append,List.mem_cons]at this
    rcases this with k | k | k
    · exact List.mem_append.2 (.inl k)
    · subst k;exact absurd hy h1
    · exact List.mem_append.2 (.inr k)
   simp only[aLv,List.length_cons]at this ⊢
   omega
structure GI(W:List (List Int))(S:List Int)(G:List (List Int)):Prop where
 len:G.length=S.length
 cap:∀n,n<S.length→nth G n≠[]→((nth G n).length:Int)≤nth S n
 wnt:∀n,n<S.length→∀i∈nth G n,0≤i∧i<W.length∧(n:Int)∈nth W i.toNat
structure RN(W:List (List Int))(S:List Int)(G:List (List Int)):Prop extends GI W S G where
 nd:(rH G).Nodup
def AI(W:List (List Int))(S:List Int)(c:Nat):Prop:=(∃G,RN W S G∧(rH G).length=c)∧∀G,RN W S G→(rH G).length≤c
def Clo(W:List (List Int))(S:List Int)(G:List (List Int))(U:Nat→Prop):Prop:=
 ∀n,n<S.length→U n→nth S n≤(nth G n).length∧∀i∈nth G n,∀x:Nat,x<S.length→(x:Int)∈nth W i.toNat→U x
def yN(W:List (List Int))(S:List Int)(i:Int)(U:Nat→Prop):Prop:=∀x:Nat,x<S.length→(x:Int)∈nth W i.toNat→U x
theorem RO{W:List (List Int)}{S:List Int}{G:List (List Int)}(h:RN W S G){U:Nat→Prop} [DecidablePred U](hc:Clo W S G U)(hf:∀i:Nat,i<W.length→(i:Int)∈rH G∨yN W S i U):AI W S (rH G).length:=by
 refine⟨⟨G,h,rfl⟩,fun G2 h2=>?_⟩
 have l1:=h.len
 have l2:=h2.len
 unfold rH
 rw[rG U G2,rG U G,l1,l2]
 have a1:(LU U G2 S.length).length≤(LU U G S.length).length:=Zl _ fun n hn hu=>by
  by_cases e:nth G2 n=[]
  · rw[e];exact Nat.zero_le _
  · have:=h2.cap n hn e
    have:=(hc n hn hu).1
    omega
 have nd:=(h2.nd.sublist (by unfold rH;exact D9 (fun n=>¬U n) G2 G2.length))
 rw[l2]at nd
 have a2:(LU (fun n=>¬U n) G2 S.length).length≤(LU (fun n=>¬U n) G S.length).length:=dI nd fun i hi=>by
  obtain⟨n,hn,hu,hm⟩:=pU.1 hi
  obtain⟨w1,w2,w3⟩:=h2.wnt n hn i hm
  have ei:((i.toNat:Nat):Int)=i:=Int.toNat_of_nonneg w1
  have no:¬yN W S i U:=fun hw=>hu (hw n hn w3)
  rcases hf i.toNat (by omega)with k | k
  · rw[ei]at k
    obtain⟨m,hm1, -,hm2⟩:=pU.1 k
    refine pU.2 ⟨m,by omega,fun um=>?_,hm2⟩
    exact no fun x hx hw=>(hc m (by omega) um).2 i hm2 x hx hw
  · rw[ei]at k
    exact absurd k no
 omega
end Go.Ev
namespace Go.Ev
open Go
theorem Iy(G:List (List Int)):∀m,m≤G.length→LU (fun _=>True) G m=(G.take m).flatten
 | 0,_=>rfl
 | m+1,h=>by
   have e:G[m]?=some (nth G m):=by
    have hm:m<G.length:=by omega
    unfold nth
    rw[aLl,aLc hm];rfl
   rw[LU,Iy G m (by omega),if_pos trivial,List.take_add_one,e]
   simp
theorem n9(G:List (List Int)):rH G=G.flatten:=by
 unfold rH
 rw[Iy G _ (aLs _),List.take_length]
theorem Zm{W:List (List Int)}{S:List Int}{G:List (List Int)}{U V:Nat→Prop}(h:Clo W S G U)(g:Clo W S G V):Clo W S G (fun n=>U n∨V n):=by
 intro n hn hu
 rcases hu with a | a
 · obtain⟨p,q⟩:=h n hn a
   exact⟨p,fun i hi x hx hw=> .inl (q i hi x hx hw)⟩
 · obtain⟨p,q⟩:=g n hn a
   exact⟨p,fun i hi x hx hw=> .inr (q i hi x hx hw)⟩
structure kT(W:List (List Int))(S:List Int)(G:List (List Int))(i:Int)(T:Nat→Bool)(G2:List (List Int)):Prop where
 gi:GI W S G2
 pm:(rH G2).Perm (i::rH G)
 old:∀n,T n=true→nth G2 n=nth G n
 clo:∀U:Nat→Prop,Clo W S G U→(∀n,n<S.length→U n→nth G2 n=nth G n)∧¬yN W S i U
structure vZ(W:List (List Int))(S:List Int)(G:List (List Int))(i:Int)(T T2:Nat→Bool):Prop where
 sub:∀n,T n=true→T2 n=true
 clo:∀n,n<S.length→T2 n=true→T n=false→nth S n≤(nth G n).length∧∀j∈nth G n,yN W S j fun x=>T2 x=true
 wnt:yN W S i fun x=>T2 x=true
structure MI(W:List (List Int))(S:List Int)(G:List (List Int))(j c:Nat)(U:Nat→Prop):Prop where
 st:RN W S G
 lt:∀i∈rH G,i<j
 cnt:(rH G).length=c
 clo:Clo W S G U
 out:∀i:Nat,i<j→(i:Int)∈rH G∨yN W S i U
theorem MI.ok{W:List (List Int)}{S:List Int}{G G2:List (List Int)}{j c:Nat}{U:Nat→Prop}{T:Nat→Bool}(h:MI W S G j c U)(p:kT W S G j T G2):MI W S G2 (j+1) (c+1) U:=by
 obtain⟨k1,k2⟩:=p.clo U h.clo
 have nd:(rH G2).Nodup:=by
  rw[p.pm.nodup_iff,List.nodup_cons]
  refine⟨fun hm=>?_,h.st.nd⟩
  have:=h.lt _ hm
  omega
 refine⟨⟨p.gi,nd⟩,fun i hi=>?_,by rw[p.pm.length_eq,List.length_cons,h.cnt],fun n hn hu=>?_,fun i hi=>?_⟩
 · rcases List.mem_cons.1 (p.pm.mem_iff.1 hi)with e | e
   · omega
   · have:=h.lt i e;omega
 · rw[k1 n hn hu];exact h.clo n hn hu
 · by_cases e:i=j
   · subst e;exact .inl (p.pm.mem_iff.2 List.mem_cons_self)
   · rcases h.out i (by omega)with a | a
     · exact .inl (p.pm.mem_iff.2 (List.mem_cons_of_mem _ a))
     · exact .inr a
theorem MI.no{W:List (List Int)}{S:List Int}{G:List (List Int)}{j c:Nat}{U:Nat→Prop}{T T2:Nat→Bool}(h:MI W S G j c U)(h0:∀n,T n=false)(p:vZ W S G j T T2):MI W S G (j+1) c (fun n=>U n∨T2 n=true):=by
 refine⟨h.st,fun i hi=>by have:=h.lt i hi;omega,h.cnt,Zm h.clo (fun n hn hu=>?_),fun i hi=>?_⟩
 · exact p.clo n hn hu (h0 n)
 · by_cases e:i=j
   · subst e;exact .inr fun x hx hw=> .inr (p.wnt x hx hw)
   · rcases h.out i (by omega)with a | a
     · exact .inl a
     · exact .inr fun x hx hw=> .inl (a x hx hw)
open Classical in
theorem MI.afG{W:List (List Int)}{S:List Int}{G:List (List Int)}{c:Nat}{U:Nat→Prop}(h:MI W S G W.length c U):AI W S c:=by
 rw[← h.cnt]
 exact RO h.st h.clo h.out
theorem MI.zero(W:List (List Int))(S:List Int):MI W S (List.replicate S.length []) 0 0 (fun _=>False):=by
 have e:rH (List.replicate S.length ([]:List Int))=[]:=by rw[n9];simp
 have nn:∀n,nth (List.replicate S.length ([]:List Int)) n=[]:=fun n=>by
  unfold nth
  rw[aLl,List.getElem?_replicate]
  split<;>rfl
 refine⟨⟨⟨by simp,fun n hn hne=>absurd (nn n) hne,fun n hn i hi=>by rw[nn n]at hi;simp at hi⟩,by rw[e];simp⟩,by rw[e];simp,by rw[e];rfl,fun n hn hu=>hu.elim,fun i hi=>absurd hi (by omega)⟩
end Go.Ev
namespace Go.Ev
open Go
variable [Lib] [aZ] [bc]
def Mod(n m:Int):Int:=if m<1 then 0 else if n.tmod m<0 then n.tmod m+m else n.tmod m
theorem Zn(n m:Int):0≤Mod n m:=by
 unfold Mod
 split
 · omega
 · have h5:=Int.lt_tmod_of_pos n (b:=m) (by omega)
   split<;>omega
theorem Zo(n m:Int)(h:1≤m):Mod n m<m:=by
 unfold Mod
 rw[if_neg (by omega)]
 have h3:=Int.tmod_lt_of_pos n (b:=m) (by omega)
 split<;>omega
theorem Zp(n m:Int)(hm:m≤4611686018427387904):aG 0 N.ie [I n,I m] []=some (I (Mod n m),[]):=by
 refine ay K.s5 rfl ?_
 unfold Mod
 by_cases h1:m<1
 · simp only[go_sem,K.ie,h1,↓reduceIte]
 · have h2:m≠0:=by omega
   have h3:=Int.tmod_lt_of_pos n (b:=m) (by omega)
   have h5:=Int.lt_tmod_of_pos n (b:=m) (by omega)
   by_cases h4:n.tmod m<0
   · simp(disch:=omega)only[go_sem,K.ie,h1,↓reduceIte,h2,h4]
   · simp(disch:=omega)only[go_sem,K.ie,h1,↓reduceIte,h2,h4]
theorem Mg(l:List Int):aG 0 N.fM [.t (tL l)] []=some (B (decide (l.length≤400)),[]):=by
 refine ay K.nY rfl ?_
 simp(disch:=omega)only[go_sem,K.fM,↓reduceIte]
 simp only[show((l.length:Int)≤400)=(l.length≤400)by rw[eq_iff_iff];omega]
structure ax where
 L:List Int
 at_:Nat
def ax.obj(d:ax):Obj:= .box [.t (tL d.L),I d.at_]
def ax.cy(d:ax):Prop:=d.L.length≤400
def ax.next(d:ax)(n:Int):Int×ax:=if d.at_<d.L.length then(Mod (nth d.L d.at_) n,⟨d.L,d.at_+1⟩)else(0,d)
theorem ax.Ol(d:ax)(n:Int):(d.next n).2.L=d.L:=by unfold ax.next;split<;>rfl
theorem ax.bw{d:ax}(h:d.cy)(n:Int):(d.next n).2.cy:=by unfold ax.cy;rw[d.Ol];exact h
theorem ax.gG(d:ax)(n:Int):0≤(d.next n).1:=by unfold ax.next;split<;>simp[Zn]
theorem ax.fY(d:ax){n:Int}(h:1≤n):(d.next n).1<n:=by unfold ax.next;split<;>simp[Zo _ _ h];omega
theorem iv(d:ax)(n:Int)(hn:n≤4611686018427387904)(hd:d.cy):aG 0 N.aq [.bp 0 0,I n] [d.obj]=some (I (d.next n).1,[(d.next n).2.obj]):=by
 refine ay K.jA rfl ?_
 have hm:=Zp (nth d.L d.at_) n hn
 unfold ax.cy at hd
 unfold ax.next ax.obj
 by_cases h1:d.at_<d.L.length
 · simp(disch:=omega)only[go_sem,K.aq,↓reduceIte,↓if_pos,↓if_neg,Int.add_sub_cancel,hm,Int.natCast_add]
 · simp(disch:=omega)only[go_sem,K.aq,↓reduceIte,↓if_pos,↓if_neg]
@[go_sem] theorem acP (d : ax) : D5 (some d.obj) = [] := by simp only [ax.obj, go_sem]
@[go_sem] theorem acQ (f : Nat → Option Nat) (d : ax) : b5 f d.obj = some d.obj := by simp only [ax.obj, go_sem]
@[go_sem] theorem acR (k : Nat) (d : ax) (r : ae) : dU k (d.obj :: r) = dU k r := by simp only [ax.obj, go_sem]
def ax.one(d:ax)(n:Int):Bool×ax:=(decide ((d.next n).1=n-1),(d.next n).2)
theorem ax.wa{d:ax}(h:d.cy)(n:Int):(d.one n).2.cy:=ax.bw h n
theorem Iz(d:ax)(n:Int)(h1:0≤n)(hn:n≤4611686018427387904)(hd:d.cy):aG 0 N.bj [.bp 0 0,I n] [d.obj]=some (B (d.one n).1,[(d.one n).2.obj]):=by
 refine ay K.kd rfl ?_
 have hm:=iv d n hn hd
 unfold ax.one
 simp(disch:=omega)only[go_sem,K.bj,↓reduceIte,hm]
def ax.of(d:ax)(l:List Int):Int×ax:=(nth l (d.next l.length).1.toNat,(d.next l.length).2)
theorem ax.jX{d:ax}(h:d.cy)(l:List Int):(d.of l).2.cy:=ax.bw h _
theorem ax.pV(d:ax){l:List Int}(h:l≠[]):(d.of l).1∈l:=by
 unfold ax.of
 have hl:0<l.length:=List.length_pos_iff.2 h
 have:=d.gG l.length
 have:=d.fY (n:=l.length) (by omega)
 exact aI (by omega)
theorem FU(d:ax)(l:List Int)(hl:l≠[])(hl2:l.length≤4294967296)(hd:d.cy):aG 0 N.bh [.bp 0 0,.t (tL l)] [d.obj]=some (I (d.of l).1,[(d.of l).2.obj]):=by
 refine ay K.kR rfl ?_
 have hm:=iv d l.length (by omega) hd
 have h0:0<l.length:=List.length_pos_iff.2 hl
 have h1:=d.gG l.length
 have h2:=d.fY (n:=l.length) (by omega)
 unfold ax.of
 simp(disch:=omega)only[go_sem,K.bh,↓reduceIte,hm]
def ax.kU(d:ax):Nat→List Int×ax
 | 0=>([],d)
 | k+1=>(if((d.kU k).2.next 3).1=0 then(d.kU k).1++[(k:Int)]else(d.kU k).1,((d.kU k).2.next 3).2)
theorem ax.qq{d:ax}(h:d.cy):∀n,(d.kU n).2.cy
 | 0=>h
 | n+1=>ax.bw (ax.qq h n) 3
theorem ax.wc(d:ax):∀n,(d.kU n).1.length≤n
 | 0=>aLs _
 | n+1=>by
   have:=d.wc n
   unfold ax.kU
   simp only
   split<;>simp<;>omega
theorem RP(d:ax)(n:Nat)(hn:n≤1000000)(hd:d.cy):aG 0 N.b8 [.bp 0 0,I n] [d.obj]=some (.t (tL (d.kU n).1),[(d.kU n).2.obj]):=by
 refine ay K.jB rfl ?_
 have hlen:=d.wc
 have loop:exS aG K.lY ⟨[.bp 0 0,I n,.nil,.ref 1 0 0,I 0],[d.obj,.arr 1 false 0 []]⟩=
  some (.exit 0,⟨[.bp 0 0,I n,.und,.ref 1 0 (d.kU n).1.length,I n],[(d.kU n).2.obj,.arr 1 false 0 (((d.kU n).1.map (T.int .i64)).map .t)]⟩):=by
  refine bV (fun j=>⟨[.bp 0 0,I n,.und,.ref 1 0 (d.kU j).1.length,I j],[(d.kU j).2.obj,.arr 1 false 0 (((d.kU j).1.map (T.int .i64)).map .t)]⟩) n rfl ?_ ?_ (by simp)
  · intro j hj
    have hm:=iv (d.kU j).2 3 (by omega) (ax.qq hd j)
    have:=hlen j
    by_cases h:((d.kU j).2.next 3).1=0
    · simp(disch:=omega)only[go_sem,K.gq,hm,h,ax.kU,↓reduceIte]
    · simp(disch:=omega)only[go_sem,K.gq,hm,h,ax.kU,↓reduceIte]
  · simp(disch:=omega)only[go_sem,K.gq,↓reduceIte]
 simp(disch:=omega)only[go_sem,K.b8,↓reduceIte,loop]
structure Place where
 h:Int
 surf:Bool
instance : Dat Place := ⟨⟨0, false⟩⟩
abbrev Place.e(p:Place):T:= .agg [tI p.h,.bool p.surf]
structure Road where
 frm:Int
 to:Int
 len:Int
 area:Int
 walk:Bool
 closed:Bool
 restL:Int
 restH:Int
 liftL:Int
 liftH:Int
instance : Dat Road := ⟨⟨0, 0, 0, 0, false, false, 0, 0, 0, 0⟩⟩
abbrev Road.e(r:Road):T:= .agg [tI r.frm,tI r.to,tI r.len,tI r.area,.bool r.walk,.bool r.closed,tI r.restL,tI r.restH,tI r.liftL,tI r.liftH]
structure aK where
 aa:List Place
 roads:List Road
instance : Dat aK := ⟨⟨[], []⟩⟩
abbrev aK.e(m:aK):T:= .agg [.sl (m.aa.map Place.e),.sl (m.roads.map Road.e)]
structure Road.ok(n:Nat)(r:Road):Prop where
 f0:0≤r.frm
 f1:r.frm<n
 t0:0≤r.to
 t1:r.to<n
 ne:r.frm≠r.to
 l0:1≤r.len
 l1:r.len≤100000
 a0:1≤r.area
 a1:r.area≤1000
 r0:1≤r.restL
 r1:r.restL≤r.restH
 r2:r.restH≤262144
 i0: -2199023255552≤r.liftL
 i1:r.liftL≤r.liftH
 i2:r.liftH≤2199023255552
structure aK.ok(m:aK):Prop where
 np:m.aa.length≤64
 nr:m.roads.length≤128
 hs:∀p∈m.aa, -10000≤p.h∧p.h≤10000
 rs:∀r∈m.roads,r.ok m.aa.length
theorem AJ(a b lo hi:Int):aG 0 N.ff [.t (.agg [tI a,tI b]),I lo,I hi] []=some (B (decide (lo≤a∧a≤b∧b≤hi)),[]):=by
 refine ay K.nZ rfl ?_
 by_cases h1:lo≤a<;>by_cases h2:a≤b<;>by_cases h3:b≤hi<;>simp(disch:=omega)only[go_sem,K.ff,↓reduceIte,h1,h2,h3]
theorem yO{m:aK}(h:m.ok):aG 0 N.dy [.t m.e] []=some (I 0,[]):=by
 refine ay K.mH rfl ?_
 have np:=h.np
 have nr:=h.nr
 have loop1:∀a b c d e:D,exS aG K.pR ⟨[a,.bp 0 0,b,I 0,c,d,e],[.box [.t (.sl (m.aa.map Place.e)),.t (.sl (m.roads.map Road.e))]]⟩=
  some (.exit 0,⟨[.und,.bp 0 0,.und,I m.aa.length,.und,.und,.und],[.box [.t (.sl (m.aa.map Place.e)),.t (.sl (m.roads.map Road.e))]]⟩):=by
  intro a b c d e
  refine bV (fun j=>⟨[.und,.bp 0 0,.und,I j,.und,.und,.und],[.box [.t (.sl (m.aa.map Place.e)),.t (.sl (m.roads.map Road.e))]]⟩) m.aa.length rfl ?_ ?_ (by simp)
  · intro j hj
    have hh:=h.hs _ (aI hj)
    simp(disch:=omega)only[go_sem,K.j9,↓reduceIte]
  · simp(disch:=omega)only[go_sem,K.j9,↓reduceIte]
 have loop2:∀a b c d e:D,exS aG K.pS ⟨[a,.bp 0 0,b,c,d,I 0,e],[.box [.t (.sl (m.aa.map Place.e)),.t (.sl (m.roads.map Road.e))]]⟩=
  some (.exit 2,⟨[.und,.bp 0 0,.und,.und,.und,I m.roads.length,.und],[.box [.t (.sl (m.aa.map Place.e)),.t (.sl (m.roads.map Road.e))]]⟩):=by
  intro a b c d e
  refine bV (fun j=>⟨[.und,.bp 0 0,.und,.und,.und,I j,.und],[.box [.t (.sl (m.aa.map Place.e)),.t (.sl (m.roads.map Road.e))]]⟩) m.roads.length rfl ?_ ?_ (by simp)
  · intro j hj
    obtain⟨f0,f1,t0,t1,ne,l0,l1,a0,a1,r0,r1,r2,i0,i1,i2⟩:=h.rs _ (aI hj)
    have s1:=AJ (nth m.roads j).restL (nth m.roads j).restH 1 262144
    have s2:=AJ (nth m.roads j).liftL (nth m.roads j).liftH (-2199023255552) 2199023255552
    simp(disch:=omega)only[go_sem]at s1 s2
    simp(disch:=omega)only[go_sem,K.kc,↓reduceIte,s1,s2]
  · simp(disch:=omega)only[go_sem,K.kc,↓reduceIte]
 simp(disch:=omega)only[go_sem,K.dy,↓reduceIte,loop1,loop2]
theorem Cu{l:List Int}{p:Int→Bool}:((List.range l.length).find? fun j=>p (nth l j)).isSome=l.any p:=by
 rw[List.isSome_find?,Bool.eq_iff_iff,List.any_eq_true,List.any_eq_true]
 constructor
 · rintro ⟨j,hj,h⟩
   exact⟨_,aI (aLu.1 hj),h⟩
 · rintro ⟨x,hx,h⟩
   obtain⟨j,hj⟩:=aLf.1 hx
   exact⟨j,aLu.2 (aLe.1 hj).1,by rw[fw hj];exact h⟩
theorem oe(l:List Int)(x:Int)(hl:l.length≤4294967296):aG 0 N.cH [.t (tL l),I x] []=some (B (decide (x∈l)),[]):=by
 refine ay K.qn rfl ?_
 have loop:∀a:D,exS aG K.tY ⟨[.t (tL l),I x,a,I 0],[]⟩=
  some (match (List.range l.length).find? (fun j=>decide (nth l j=x))with
   | some j=>(.ret,⟨[.t (tL l),I x,B true,I j],[]⟩)
   | none=>(.exit 0,⟨[.t (tL l),I x,.und,I l.length],[]⟩)):=by
  intro a
  refine dO (fun j=>⟨[.t (tL l),I x,.und,I j],[]⟩) l.length (fun j=>decide (nth l j=x)) _ _ rfl ?_ ?_ ?_ (by simp)
  · intro j hj hp
    have hp:¬nth l j=x:=of_decide_eq_false hp
    simp(disch:=omega)only[go_sem,K.jW,↓reduceIte]
  · intro j hj hp
    have hp:nth l j=x:=of_decide_eq_true hp
    simp(disch:=omega)only[go_sem,K.jW,↓reduceIte,hp]
    simp
  · simp(disch:=omega)only[go_sem,K.jW,↓reduceIte]
 have e:=Cu (l:=l) (p:=fun y=>decide (y=x))
 have e2:l.any (fun y=>decide (y=x))=decide (x∈l):=by rw[Bool.eq_iff_iff];simp
 rw[e2]at e
 simp only[go_sem,K.cH,↓reduceIte,loop]
 cases hf:(List.range l.length).find? (fun j=>decide (nth l j=x))with
 | some j=>rw[hf]at e;simp(disch:=omega)only[go_sem,↓reduceIte,←e]
 | none=>rw[hf]at e;simp(disch:=omega)only[go_sem,↓reduceIte,←e,Option.isSome_none]
theorem yP(a b:List Int)(hl:a.length≤4294967296):aG 0 N.bE [.t (tL a),.t (tL b)] []=some (B (decide (a=b)),[]):=by
 refine ay K.jC rfl ?_
 by_cases hlen:a.length=b.length
 · have loop:∀c:D,exS aG K.lZ ⟨[.t (tL a),.t (tL b),c,I 0],[]⟩=
    some (match (List.range a.length).find? (fun j=>decide (nth a j≠nth b j))with
     | some j=>(.ret,⟨[.t (tL a),.t (tL b),B false,I j],[]⟩)
     | none=>(.exit 0,⟨[.t (tL a),.t (tL b),.und,I a.length],[]⟩)):=by
    intro c
    refine dO (fun j=>⟨[.t (tL a),.t (tL b),.und,I j],[]⟩) a.length (fun j=>decide (nth a j≠nth b j)) _ _ rfl ?_ ?_ ?_ (by simp)
    · intro j hj hp
      have hp:nth a j=nth b j:=by simpa using hp
      simp(disch:=omega)only[go_sem,K.gr,↓reduceIte]
    · intro j hj hp
      have hp:nth a j≠nth b j:=by simpa using hp
      simp(disch:=omega)only[go_sem,K.gr,↓reduceIte]
      simp
    · simp(disch:=omega)only[go_sem,K.gr,↓reduceIte]
   have e:(a=b)↔(List.range a.length).find? (fun j=>decide (nth a j≠nth b j))=none:=by
    rw[List.find?_eq_none]
    constructor
    · intro h j _;simp[h]
    · intro h
      apply List.ext_getElem?
      intro j
      by_cases hj:j<a.length
      · rw[jg hj,jg (by omega)]
        have:=h j (aLu.2 hj)
        simpa using this
      · rw[aLm (by omega),aLm (by omega)]
   simp(disch:=omega)only[go_sem,K.bE,↓reduceIte,loop]
   cases hf:(List.range a.length).find? (fun j=>decide (nth a j≠nth b j))with
   | some j=>rw[hf]at e;simp(disch:=omega)only[go_sem,↓reduceIte,e];simp
   | none=>rw[hf]at e;simp(disch:=omega)only[go_sem,↓reduceIte,e]
 · have hne:a≠b:=fun h=>hlen (by rw[h])
   simp(disch:=omega)only[go_sem,K.bE,↓reduceIte,hne]
def ud(l:List Int)(n:Int):Bool:=(List.range l.length).all fun j=>decide (0≤nth l j∧nth l j<n∧(0<j→nth l (j-1)<nth l j))
theorem Mh{n:Nat}{p:Nat→Bool}:((List.range n).all p)=((List.range n).find? fun j=> !p j).isNone:=by
 rw[← Option.not_isSome,List.isSome_find?,List.not_any_eq_all_not]
 simp
theorem Ea(l:List Int)(n:Int)(hl:l.length≤4294967296):aG 0 N.fe [.t (tL l),I n] []=some (B (ud l n),[]):=by
 refine ay K.qo rfl ?_
 have loop:∀c:D,exS aG K.tZ ⟨[.t (tL l),I n,c,I 0],[]⟩=
  some (match (List.range l.length).find? (fun j=> !decide (0≤nth l j∧nth l j<n∧(0<j→nth l (j-1)<nth l j)))with
   | some j=>(.ret,⟨[.t (tL l),I n,B false,I j],[]⟩)
   | none=>(.exit 0,⟨[.t (tL l),I n,.und,I l.length],[]⟩)):=by
  intro c
  refine dO (fun j=>⟨[.t (tL l),I n,.und,I j],[]⟩) l.length _ _ _ rfl ?_ ?_ ?_ (by simp)
  · intro j hj hp
    simp only[Bool.not_eq_false',decide_eq_true_eq]at hp
    obtain⟨h1,h2,h3⟩:=hp
    cases j with
    | zero=>simp(disch:=omega)only[go_sem,K.fy,↓reduceIte]
    | succ j=>
      have h3:=h3 (by omega)
      rw[Nat.add_sub_cancel]at h3
      simp(disch:=omega)only[go_sem,K.fy,↓reduceIte]
  · intro j hj hp
    simp only[Bool.not_eq_true',decide_eq_false_iff_not]at hp
    refine⟨?_,by simp⟩
    by_cases h1:0≤nth l j
    · by_cases h2:nth l j<n
      · cases j with
        | zero=>exact absurd ⟨h1,h2,fun h=>absurd h (by omega)⟩ hp
        | succ j=>
          have h3:¬nth l j<nth l (j+1):=fun h=>hp ⟨h1,h2,fun _=>by simpa using h⟩
          simp(disch:=omega)only[go_sem,K.fy,↓reduceIte]
      · simp(disch:=omega)only[go_sem,K.fy,↓reduceIte]
    · simp(disch:=omega)only[go_sem,K.fy,↓reduceIte]
  · simp(disch:=omega)only[go_sem,K.fy,↓reduceIte]
 have e:ud l n=_:=Mh
 simp only[go_sem,K.fe,↓reduceIte,loop]
 cases hf:(List.range l.length).find? (fun j=> !decide (0≤nth l j∧nth l j<n∧(0<j→nth l (j-1)<nth l j)))with
 | some j=>rw[hf]at e;simp(disch:=omega)only[go_sem,↓reduceIte,e,Option.isNone_some]
 | none=>rw[hf]at e;simp(disch:=omega)only[go_sem,↓reduceIte,e,Option.isNone_none]
theorem IA(x lo hi:Int):aG 0 N.gn [I x,I lo,I hi] []=some (B (decide (lo≤x∧x≤hi)),[]):=by
 refine ay K.s6 rfl ?_
 by_cases h1:lo≤x<;>by_cases h2:x≤hi<;>simp(disch:=omega)only[go_sem,K.gn,↓reduceIte]
theorem Mi(l:List Int)(x:Int)(hl:l.length≤4294967296):aG 0 N.aX [.t (tL l),I x] []=
 some (I (match (List.range l.length).find? (fun j=>decide (nth l j=x))with | some j=>(j:Int) | none=> -1),[]):=by
 refine ay K.fX rfl ?_
 have loop:∀a b:D,exS aG K.iL ⟨[.t (tL l),I x,a,b,I l.length,I 0],[]⟩=
  some (match (List.range l.length).find? (fun j=>decide (nth l j=x))with
   | some j=>(.ret,⟨[.t (tL l),I x,I j,I j,I l.length,I j],[]⟩)
   | none=>(.exit 0,⟨[.t (tL l),I x,.und,.und,I l.length,I l.length],[]⟩)):=by
  intro a b
  refine dO (fun j=>⟨[.t (tL l),I x,.und,.und,I l.length,I j],[]⟩) l.length (fun j=>decide (nth l j=x)) _ _ rfl ?_ ?_ ?_ (by simp)
  · intro j hj hp
    have hp:¬nth l j=x:=of_decide_eq_false hp
    simp(disch:=omega)only[go_sem,K.dv,↓reduceIte]
  · intro j hj hp
    have hp:nth l j=x:=of_decide_eq_true hp
    simp(disch:=omega)only[go_sem,K.dv,↓reduceIte,hp]
    simp
  · simp(disch:=omega)only[go_sem,K.dv,↓reduceIte]
 simp(disch:=omega)only[go_sem,K.aX,↓reduceIte,loop]
 cases hf:(List.range l.length).find? (fun j=>decide (nth l j=x))with
 | some j=>simp(disch:=omega)only[go_sem,↓reduceIte]
 | none=>simp(disch:=omega)only[go_sem,↓reduceIte]
theorem qs(l:List Int)(x:Int)(hl:l.length≤4294967296):aG 0 N.aE [.t (tL l),I x] []=some (B (decide (x∈l)),[]):=by
 refine ay K.eP rfl ?_
 have h:=Mi l x hl
 have e:=Cu (l:=l) (p:=fun y=>decide (y=x))
 have e2:l.any (fun y=>decide (y=x))=decide (x∈l):=by rw[Bool.eq_iff_iff];simp
 rw[e2]at e
 cases hf:(List.range l.length).find? (fun j=>decide (nth l j=x))with
 | some j=>rw[hf]at e h;simp(disch:=omega)only[go_sem,K.aE,↓reduceIte,←e,h]
 | none=>rw[hf]at e h;simp(disch:=omega)only[go_sem,K.aE,↓reduceIte,←e,h,Option.isSome_none]
theorem AK(l:List Int)(hl:l.length≤4294967296)(f:Nat)(bs:List (List T))(p:Int→Bool)(h:∀x,x∈l→aG 0 f (I x::fv bs.length) (aH bs)=some (B (p x),aH bs)):
 aG 0 N.aJ [.t (tL l),.fn f (fv bs.length)] (aH bs)=
 some (I (match (List.range l.length).find? (fun j=>p (nth l j))with | some j=>(j:Int) | none=> -1),aH bs):=by
 refine ay K.eB rfl ?_
 have loop:∀a b:D,exS aG K.gE ⟨[.t (tL l),.fn f (fv bs.length),a,b,I l.length,I 0],aH bs⟩=
  some (match (List.range l.length).find? (fun j=>p (nth l j))with
   | some j=>(.ret,⟨[.t (tL l),.fn f (fv bs.length),I j,I j,I l.length,I j],aH bs⟩)
   | none=>(.exit 0,⟨[.t (tL l),.fn f (fv bs.length),.und,.und,I l.length,I l.length],aH bs⟩)):=by
  intro a b
  refine dO (fun j=>⟨[.t (tL l),.fn f (fv bs.length),.und,.und,I l.length,I j],aH bs⟩) l.length (fun j=>p (nth l j)) _ _ rfl ?_ ?_ ?_ (by simp)
  · intro j hj hp
    have hc:=o9 (h _ (aI hj)) rfl
    simp(disch:=omega)only[go_sem,K.cE,↓reduceIte,hc,hp]
  · intro j hj hp
    have hc:=o9 (h _ (aI hj)) rfl
    simp(disch:=omega)only[go_sem,K.cE,↓reduceIte,hp,hc]
    simp
  · simp(disch:=omega)only[go_sem,K.cE,↓reduceIte]
 simp(disch:=omega)only[go_sem,K.aJ,↓reduceIte,loop]
 cases hf:(List.range l.length).find? (fun j=>p (nth l j))with
 | some j=>simp(disch:=omega)only[go_sem,↓reduceIte]
 | none=>simp(disch:=omega)only[go_sem,↓reduceIte]
theorem we(l:List Int)(hl:l.length≤4294967296)(f:Nat)(bs:List (List T))(p:Int→Bool)(h:∀x,x∈l→aG 0 f (I x::fv bs.length) (aH bs)=some (B (p x),aH bs)):
 aG 0 N.aA [.t (tL l),.fn f (fv bs.length)] (aH bs)=some (B (l.any p),aH bs):=by
 refine ay K.dz rfl ?_
 have h:=AK l hl f bs p h
 have hc:=xT aG bs f _ 0 (tL l) h rfl
 have e:=Cu (l:=l) (p:=p)
 cases hf:(List.range l.length).find? (fun j=>p (nth l j))with
 | some j=>rw[hf]at e hc;simp(disch:=omega)only[go_sem,K.aA,↓reduceIte,←e,hc]
 | none=>rw[hf]at e hc;simp(disch:=omega)only[go_sem,K.aA,↓reduceIte,←e,hc,Option.isSome_none]
theorem RQ(r:Road)(back:Bool):aG 0 N.fN [.t r.e,B back] []=some (.tup [I (if back then r.to else r.frm),I (if back then r.frm else r.to)],[]):=by
 refine ay K.n5 rfl ?_
 cases back<;>simp(disch:=omega)only[go_sem,K.fN,↓reduceIte]
def wq(m:aK)(k:Nat)(back:Bool)(up down level:Int):Int:=
 let x:=nth m.roads k
 if x.closed=true∨x.walk=false then -1 else
 let a:=if back then x.to else x.frm
 let b:=if back then x.frm else x.to
 let rise:=(nth m.aa b.toNat).h-(nth m.aa a.toNat).h
 let speed:=if -10*rise>x.len then down else if 10*rise>x.len then up else level
 (10*x.len+speed-1).tdiv speed
theorem s9{a b:Int}(ha:0≤a)(hb:1≤b):0≤a.tdiv b∧a.tdiv b≤a:=by
 rw[Int.tdiv_eq_ediv_of_nonneg ha]
 exact⟨Int.ediv_nonneg ha (by omega),Int.ediv_le_self _ ha⟩
theorem IB{m:aK}(h:m.ok)(k:Nat)(hk:k<m.roads.length)(back:Bool)(up down level:Int)(hu:1≤up)(hu2:up≤100)(hd:1≤down)(hd2:down≤100)(hl:1≤level)(hl2:level≤100):
 aG 0 N.bH [.t m.e,I k,B back,I up,I down,I level] []=some (I (wq m k back up down level),[]):=by
 refine ay K.kS rfl ?_
 have hc:=yO h
 have nr:=h.nr
 have np:=h.np
 obtain⟨f0,f1,t0,t1, -,l0,l1, -, -, -, -, -, -, -, -⟩:=h.rs _ (aI hk)
 have he:=RQ (nth m.roads k) back
 have b1:=h.hs _ (aI (l:=m.aa) (j:=(nth m.roads k).frm.toNat) (by omega))
 have b2:=h.hs _ (aI (l:=m.aa) (j:=(nth m.roads k).to.toNat) (by omega))
 unfold wq
 generalize hx:nth m.roads k=x at*
 obtain⟨frm,to,len,area,walk,closed,rl,rh,ll,lh⟩:=x
 simp only at f0 f1 t0 t1 l0 l1 b1 b2 he ⊢
 cases closed with
 | true=>simp(disch:=omega)only[go_sem,K.bH,↓reduceIte,hc,hx]
 | false=>
   cases walk with
   | false=>simp(disch:=omega)only[go_sem,K.bH,↓reduceIte,hc,hx]
   | true=>
     have g1:=s9 (a:=10*len+up-1) (b:=up) (by omega) hu
     have g2:=s9 (a:=10*len+down-1) (b:=down) (by omega) hd
     have g3:=s9 (a:=10*len+level-1) (b:=level) (by omega) hl
     cases back with
     | true=>
       simp only[↓reduceIte]at he ⊢
       have w1:IntKind.i64.wrap ((nth m.aa frm.toNat).h-(nth m.aa to.toNat).h)=(nth m.aa frm.toNat).h-(nth m.aa to.toNat).h:=bU (by omega) (by omega)
       by_cases c2:len< -10*((nth m.aa frm.toNat).h-(nth m.aa to.toNat).h)
       · simp(disch:=omega)only[go_sem,K.bH,↓reduceIte,hc,hx,he,w1,gt_iff_lt]
       · by_cases c1:len<10*((nth m.aa frm.toNat).h-(nth m.aa to.toNat).h)
         · simp(disch:=omega)only[go_sem,K.bH,↓reduceIte,hc,hx,he,w1,gt_iff_lt]
         · simp(disch:=omega)only[go_sem,K.bH,↓reduceIte,hc,hx,he,w1,gt_iff_lt]
     | false=>
       simp only[aLt,↓reduceIte]at he ⊢
       have w1:IntKind.i64.wrap ((nth m.aa to.toNat).h-(nth m.aa frm.toNat).h)=(nth m.aa to.toNat).h-(nth m.aa frm.toNat).h:=bU (by omega) (by omega)
       by_cases c2:len< -10*((nth m.aa to.toNat).h-(nth m.aa frm.toNat).h)
       · simp(disch:=omega)only[go_sem,K.bH,↓reduceIte,hc,hx,he,w1,gt_iff_lt]
       · by_cases c1:len<10*((nth m.aa to.toNat).h-(nth m.aa frm.toNat).h)
         · simp(disch:=omega)only[go_sem,K.bH,↓reduceIte,hc,hx,he,w1,gt_iff_lt]
         · simp(disch:=omega)only[go_sem,K.bH,↓reduceIte,hc,hx,he,w1,gt_iff_lt]
def bnd(l:List Int):Prop:=∀x∈l,0≤x∧x≤1099511627776
def Om(l:List Int)(p q:Nat)(walk t:Int):Bool:=
 decide (0≤walk)&&decide (nth l p<1099511627776)&&decide (max t (nth l p+walk)≤2147483648)&&decide (max t (nth l p+walk)<nth l q)
def Zq(l:List Int)(p q:Nat)(walk t:Int):List Int:=if Om l p q walk t=true then l.set q (max t (nth l p+walk))else l
def ah9(into:Option (List Int))(p:Int):Bool:=match into with
 | none=>true
 | some l=>decide (p∈l)
def Zr(into:Option (List Int)):D:=match into with
 | none=> .nil
 | some l=> .t (tL l)
def Road.src(r:Road)(back:Bool):Int:=if back then r.to else r.frm
def Road.dst(r:Road)(back:Bool):Int:=if back then r.frm else r.to
theorem Road.pL{n:Nat}{r:Road}(h:r.ok n)(back:Bool):0≤r.src back∧r.src back<n:=by
 unfold Road.src;have:=h.f0;have:=h.f1;have:=h.t0;have:=h.t1;cases back<;>simp<;>omega
theorem Road.xV{n:Nat}{r:Road}(h:r.ok n)(back:Bool):0≤r.dst back∧r.dst back<n:=by
 unfold Road.dst;have:=h.f0;have:=h.f1;have:=h.t0;have:=h.t1;cases back<;>simp<;>omega
def Zs(m:aK)(t:Int)(into:Option (List Int))(k:Nat)(back:Bool)(l:List Int):List Int×Bool:=
 if ah9 into ((nth m.roads k).dst back)=true then
  (Zq l ((nth m.roads k).src back).toNat ((nth m.roads k).dst back).toNat (wq m k back 6 9 12) t,Om l ((nth m.roads k).src back).toNat ((nth m.roads k).dst back).toNat (wq m k back 6 9 12) t)
 else(l,false)
def afH(m:aK)(t:Int)(into:Option (List Int))(k:Nat)(s:List Int×Bool):List Int×Bool:=
 let a:=Zs m t into k false s.1
 let b:=Zs m t into k true a.1
 (b.1,s.2||a.2||b.2)
def On(m:aK)(t:Int)(into:Option (List Int))(l:List Int):Nat→List Int×Bool
 | 0=>(l,false)
 | k+1=>afH m t into k (On m t into l k)
def Zt(m:aK)(t:Int)(into:Option (List Int))(l:List Int):List Int×Bool:=On m t into l m.roads.length
theorem RR{l:List Int}(h:bnd l){q:Nat}{x:Int}(h0:0≤x)(h1:x≤1099511627776):bnd (l.set q x):=by
 intro y hy
 rcases aLk hy with hy | hy
 · exact h y hy
 · subst hy;exact⟨h0,h1⟩
section
variable {m : aK} (h : m.ok) {t : Int} {into : Option (List Int)}
include h
end
def ag8(l:List Int):Nat:=(l.map Int.toNat).sum
section
variable {m : aK} (h : m.ok) {t : Int} {into : Option (List Int)}
include h
end
end Go.Ev
namespace Go.Ev
open Go
variable [Lib] [aZ] [bc]
abbrev ab(m:aK):List D:=[.t (.sl (m.aa.map Place.e)),.t (.sl (m.roads.map Road.e))]
@[go_sem] theorem Zu (k n : Nat) (into : Option (List Int)) : old k n (Zr into) = true := by
 cases into<;>simp only[Zr,go_sem]
structure Wh where
 time:Int
 frm:List Int
instance : Dat Wh := ⟨⟨0, []⟩⟩
abbrev Wh.e(w:Wh):T:= .agg [tI w.time,tL w.frm]
def xW(m:aK)(t:Int)(into:Option (List Int))(l:List Int):List Int:=ni (Zt m t into) (ag8 l+1) l
def inT(t:Int):Prop:=0≤t∧t≤2147483648
instance (t : Int) : Decidable (inT t) := by unfold inT; infer_instance
def plT(x:Int):Prop:=x=1099511627776∨inT x
instance (t : Int) : Decidable (plT t) := by unfold plT; infer_instance
def IC(w:Wh)(n:Int):Bool:=decide ((w.frm.length:Int)=n∧inT w.time)&&(List.range w.frm.length).all fun j=>decide (plT (nth w.frm j))
def AL(m:aK)(w:Wh):Bool:=IC w m.aa.length&&decide (xW m w.time none w.frm=w.frm)
theorem Cv{w:Wh}{n:Int}(h:IC w n=true):(w.frm.length:Int)=n∧inT w.time∧∀x∈w.frm,plT x:=by
 simp only[IC,aLr,decide_eq_true_eq,aLx,aLu]at h
 refine⟨h.1.1,h.1.2,fun x hx=>?_⟩
 obtain⟨j,hj⟩:=aLf.1 hx
 have:=h.2 j (aLe.1 hj).1
 rwa [fw hj]at this
def ID(n:Nat):List Int:=List.replicate n 1099511627776
@[simp] theorem VU (n : Nat) : (ID n).length = n := List.length_replicate
def IE(m:aK)(p t:Int):Wh×Int:=
 if p<0∨(m.aa.length:Int)≤p then(⟨0,[]⟩,3)else if inT t then(⟨t,xW m t none ((ID m.aa.length).set p.toNat t)⟩,0)else(⟨0,[]⟩,8)
def Oo(w:Wh)(t:Int):Wh×Int:=if t<w.time∨2147483648<t then(w,8)else(⟨t,w.frm⟩,0)
def Eb(m:aK)(w:Wh)(aa:List Int)(a b:Int):Int:=
 if AL m w=true∧aa≠[]∧ud aa m.aa.length=true then(if inT a∧inT b∧a≤b then 0 else 8)else 6
theorem yQ{l:List Int}{n:Int}(h:ud l n=true){j:Nat}(hj:j<l.length):0≤nth l j∧nth l j<n∧(0<j→nth l (j-1)<nth l j):=by
 simp only[ud,aLx,aLu,decide_eq_true_eq]at h
 exact h j hj
theorem IF{l:List Int}{n:Int}(h:ud l n=true):∀ {j:Nat},j<l.length→(j:Int)≤nth l j
 | 0,hj=>by have:=yQ h hj;omega
 | j+1,hj=>by
   have h1:=IF h (j:=j) (by omega)
   have:=(yQ h hj).2.2 (by omega)
   simp only[Nat.add_sub_cancel]at this
   omega
theorem mJ{l:List Int}{n:Nat}(h:ud l n=true):l.length≤n:=by
 cases hl:l.length with
 | zero=>omega
 | succ k=>
   have h1:=IF h (j:=k) (by omega)
   have h2:=(yQ h (j:=k) (by omega)).2.1
   omega
def RS(w:Wh)(t p:Int)(s:List Int×Bool):List Int×Bool:=if nth w.frm p.toNat≤t then(s.1.set p.toNat (nth w.frm p.toNat),true)else s
def afI(w:Wh)(l:List Int)(t:Int)(n:Nat):Nat→List Int×Bool
 | 0=>(ID n,false)
 | j+1=>RS w t (nth l j) (afI w l t n j)
def aia(m:aK)(w:Wh)(l:List Int)(a b:Int):Wh×Int:=
 if Eb m w l a b≠0 then(w,Eb m w l a b)else if a<w.time then(w,42)else
 if(afI w l b m.aa.length l.length).2=true then(⟨b,xW m a none (afI w l b m.aa.length l.length).1⟩,0)else(w,43)
theorem Cw{m:aK}{w:Wh}(h:AL m w=true):w.frm.length=m.aa.length∧inT w.time∧(∀x∈w.frm,plT x)∧xW m w.time none w.frm=w.frm:=by
 simp only[AL,aLr,decide_eq_true_eq]at h
 obtain⟨h1,h2,h3⟩:=Cv h.1
 exact⟨by omega,h2,h3,h.2⟩
def ag9(l0 l:List Int):Nat→List Int
 | 0=>l0
 | j+1=>(ag9 l0 l j).set (nth l j).toNat 1099511627776
def aib(m:aK)(w:Wh)(l:List Int)(a b bl:Int):Wh×Int:=
 if Eb m w l a b≠0 then(w,Eb m w l a b)else if ¬inT bl then(w,8)else if b<w.time then(w,42)else if b-max a w.time≤bl then(w,0)else
 (⟨b,xW m b none (xW m (b-bl) (some l) (ag9 w.frm l l.length))⟩,0)
def aha(a b:List Int):Nat→List Int
 | 0=>[]
 | j+1=>aha a b j++[min (nth a j) (nth b j)]
def Mj(a b:Wh):Wh×Int:=if a.frm.length=b.frm.length then(⟨max a.time b.time,aha a.frm b.frm a.frm.length⟩,0)else(⟨0,[]⟩,6)
structure Spn where
 low:Int
 high:Int
instance : Dat Spn := ⟨⟨0, 0⟩⟩
abbrev Spn.e(f:Spn):T:= .agg [tI f.low,tI f.high]
def Spn.ok(f:Spn):Prop:= -1125899906842624≤f.low∧f.high≤1125899906842624∧f.low≤f.high
instance (f : Spn) : Decidable f.ok := by unfold Spn.ok; infer_instance
def IG(m:aK)(l:List Spn):Bool:=(List.range l.length).all (fun j=>decide (nth l j).ok)&&decide (l.length=m.roads.length)
def tc(x:Road)(f:Spn)(back:Bool):Int:=
 if x.closed=true then -1 else
 let g:=if back then -f.low else f.high
 let out:=if 0<g then(x.len*x.area*1000).tdiv g else -1
 if(if back then f.low<500*x.area else -500*x.area<f.high)∧(out<0∨x.len<out)then x.len else out
def Zv(l:List Int)(p q:Nat)(t:Int):Bool:=decide (0≤t∧nth l p+t<nth l q)
def afJ(l:List Int)(p q:Nat)(t:Int):List Int:=if Zv l p q t=true then l.set q (nth l p+t)else l
def Oq(m:aK)(fl:List Spn)(k:Nat)(back:Bool)(l:List Int):List Int×Bool:=
 (afJ l ((nth m.roads k).src back).toNat ((nth m.roads k).dst back).toNat (tc (nth m.roads k) (nth fl k) back),Zv l ((nth m.roads k).src back).toNat ((nth m.roads k).dst back).toNat (tc (nth m.roads k) (nth fl k) back))
def Zw(m:aK)(fl:List Spn)(k:Nat)(s:List Int×Bool):List Int×Bool:=
 let a:=Oq m fl k false s.1
 let b:=Oq m fl k true a.1
 (b.1,s.2||a.2||b.2)
def II(m:aK)(fl:List Spn)(l:List Int):Nat→List Int×Bool
 | 0=>(l,false)
 | k+1=>Zw m fl k (II m fl l k)
def RT(m:aK)(fl:List Spn)(l:List Int):List Int×Bool:=II m fl l m.roads.length
section
variable {m : aK} (h : m.ok) {fl : List Spn}
include h
end
def acS(l:List Int):Nat→List Int
 | 0=>l
 | j+1=>if 2147483648<nth (acS l j) j then(acS l j).set j 1099511627776 else acS l j
def Ot(m:aK)(fl:List Spn)(l:List Int):List Int:=acS (ni (RT m fl) (ag8 l+1) l) m.aa.length
end Go.Ev
namespace Go.Ev
open Go
variable [Lib] [aZ] [bc]
def plS(t x:Int):Prop:=x=1099511627776∨(t≤x∧x≤2147483648)
instance (t x : Int) : Decidable (plS t x) := by unfold plS; infer_instance
def IJ(m:aK)(s:Wh):Bool:=(List.range s.frm.length).all (fun j=>decide (plS s.time (nth s.frm j)))&&decide (s.frm.length=m.aa.length∧inT s.time)
def RU(l:List Int)(t:Int)(n:Nat):List Int:=(List.range n).map fun(p:Nat)=>if(p:Int)∈l then t else 1099511627776
@[simp] theorem Zx (l : List Int) (t : Int) (n : Nat) : (RU l t n).length = n := by simp [RU]
def Zy(m:aK)(fl:List Spn)(l:List Int)(t:Int):Wh×Int:=
 if IG m fl=false then(⟨0,[]⟩,6)else if ud l m.aa.length=false then(⟨0,[]⟩,3)else if ¬inT t then(⟨0,[]⟩,8)else
 (⟨t,Ot m fl (RU l t m.aa.length)⟩,0)
def Ou(m:aK)(fl:List Spn)(frm:List Int)(t:Int)(k:Nat)(back:Bool)(l:List Int):List Int:=
 if nth frm ((nth m.roads k).src back).toNat≤t∧0≤tc (nth m.roads k) (nth fl k) back then l.set ((nth m.roads k).dst back).toNat (min (nth l ((nth m.roads k).dst back).toNat) t)else l
def Zz(m:aK)(fl:List Spn)(frm:List Int)(t:Int)(k:Nat)(l:List Int):List Int:=Ou m fl frm t k true (Ou m fl frm t k false l)
def chN(m:aK)(fl:List Spn)(frm:List Int)(t:Int):Nat→List Int
 | 0=>frm
 | k+1=>Zz m fl frm t k (chN m fl frm t k)
def afK(t:Int)(l:List Int):Nat→List Int
 | 0=>l
 | k+1=>(afK t l k).set k (max (nth (afK t l k) k) t)
def RV(m:aK)(old:List Spn)(next:aK)(fl:List Spn)(s:Wh)(t:Int):Wh×Int:=
 if IJ m s=false∨IG m old=false∨IG next fl=false∨next.aa.length≠m.aa.length then(s,6)else
 if t<s.time∨2147483648<t then(s,8)else(⟨t,Ot next fl (afK t (chN m old s.frm t m.roads.length) m.aa.length)⟩,0)
def ZA(a b:List Int):Bool:=match (List.range (min a.length b.length)).find? (fun j=>decide (nth a j≠nth b j))with
 | some j=>decide (nth a j<nth b j)
 | none=>decide (a.length<b.length)
def te(l:List Int)(x:Int):Int:=match (List.range l.length).find? (fun j=>decide (nth l j=x))with
 | some j=>j
 | none=> -1
def RW(l:List Int)(j:Nat):Bool:=decide (1≤nth l j∧nth l j≤65535∧te (l.take j) (nth l j)<0)
def Cx(l:List Int):Bool:=(List.range l.length).all (RW l)
structure World where
 tags:List Int
 whr:List Wh
instance : Dat World := ⟨⟨[], []⟩⟩
abbrev World.e(x:World):T:= .agg [tL x.tags,.sl (x.whr.map Wh.e)]
structure Bel where
 dD:List World
instance : Dat Bel := ⟨⟨[]⟩⟩
abbrev Bel.e(b:Bel):T:= .agg [.sl (b.dD.map World.e)]
def World.sz(x:World):Prop:=x.tags.length≤1000000∧x.whr.length≤1000000∧∀w∈x.whr,w.frm.length≤1000000
def Bel.sz(b:Bel):Prop:=b.dD.length≤1000000∧∀x∈b.dD,x.sz
@[go_sem] theorem RX (l : List Wh) : bK 2 (l.map Wh.e) = true := iz 2 _ (fun _ => rfl) l
@[go_sem] theorem KJ (l : List World) : bK 2 (l.map World.e) = true := iz 2 _ (fun _ => rfl) l
@[go_sem] theorem acT (l : List Wh) : kQ 2 (l.map Wh.e) = true := by cases l <;> rfl
@[go_sem] theorem RY (l : List World) : kQ 2 (l.map World.e) = true := by cases l <;> rfl
def aic(m:aK)(first:List Int)(x:World)(k:Nat):Bool:=decide (0≤te first (nth x.tags k))&&AL m (nth x.whr k)
def ZB(m:aK)(ws:List World)(first:List Int)(i:Nat):Bool:=
 decide ((nth ws i).tags.length=first.length∧(nth ws i).whr.length=first.length)&&Cx (nth ws i).tags&&(decide (i=0)||ZA (nth ws (i-1)).tags (nth ws i).tags)&&(List.range (nth ws i).tags.length).all (aic m first (nth ws i))
def ahb(m:aK)(b:Bel):Bool:=
 decide (1≤b.dD.length∧b.dD.length≤24)&&decide (1≤(nth b.dD 0).tags.length∧(nth b.dD 0).tags.length≤12)&&(List.range b.dD.length).all (ZB m b.dD (nth b.dD 0).tags)
end Go.Ev
namespace Go.Ev.N
def IK:Nat:=78
def G0:Nat:=79
def FV:Nat:=80
def RZ:Nat:=81
def cF:Nat:=82
def R0:Nat:=83
def R1:Nat:=84
def R2:Nat:=85
def VV:Nat:=86
def Ov:Nat:=87
def R3:Nat:=88
def Ow:Nat:=89
def Ox:Nat:=90
def VW:Nat:=91
def Oy:Nat:=92
def VX:Nat:=93
def ZC:Nat:=94
def ZD:Nat:=95
def R4:Nat:=96
def VY:Nat:=97
def R5:Nat:=98
def R6:Nat:=99
def R7:Nat:=100
def VZ:Nat:=101
def ZE:Nat:=102
def BH:Nat:=103
def Mk:Nat:=104
def cz:Nat:=105
def Oz:Nat:=106
def V0:Nat:=107
def V1:Nat:=108
def R8:Nat:=109
def V2:Nat:=110
def V3:Nat:=111
def R9:Nat:=112
def Sa:Nat:=113
def V4:Nat:=114
def OA:Nat:=115
def V5:Nat:=116
def V6:Nat:=117
def OB:Nat:=118
def OC:Nat:=119
def Ml:Nat:=120
def Mm:Nat:=121
def Ec:Nat:=122
end Go.Ev.N
namespace Go.Ev.K
open Go.Ev
def iM:C:= (.seq (.ite [m v3,u (.bin .gtr l0 (.i 0))] [] 0 .skip (.exit 0)) (.seq (.blk 1 (.reg [m v2,m v0,u (.ca N.aq 0 [] [.l 0,.i 9]),u (.bin .sub l0 (.i 1)),u (.bs [.l 0] 1),u (.app l4 l0 true 1),x 2 l0] [])) (.reg [m v3,u (.bin .sub l0 (.i 1)),x 3 l0] [])))
def ma:C:= .loop true [1] K.iM
def cF:Fn:= { bo:=1,vars:=[0,2,3,4],body:=(q [w 1 (.mv (.c (.nil)))] [] (q [w 2 (.nw 1)] [] (.seq (q [m v0,u (.ca N.aq 0 [] [.l 0,.i 5]),x 3 l0] [] (.blk 0 K.ma)) (q [m v2,x 1 l0] [] .ret)))),res:=[(1,none)]}
end Go.Ev.K
namespace Go.Ev
class cG [Lib]:Prop where
 jD:Lib.fs N.cF=some K.cF
namespace K
variable [Lib] [cG]
theorem jD:Lib.fs N.cF=some K.cF:=cG.jD
end K
end Go.Ev
namespace Go.Ev.K
open Go.Ev
def dA:C:= (.its [u (.bin .lss v8 v7)] [] 0 .skip (.exit 0) (.seq (.blk 1 (q [m v8,a 1 v6 v8,g l0,x 4 l2,x 5 l1] [] (.ite [m v5,m v1,u (.bin .lss l1 l0),m l0,e 0 false v5,e 1 false v2,y 2 false (.bin .gtr l1 l0),u (.pk l3 (.b true) l0),m l0,e 0 false v4,y 1 false (.bin .gtr l0 (.i 0)),e 2 false l0,e 0 true v5,e 1 true v0,e 2 true v4,y 3 true (.bin .sub l0 (.i 1)),y 4 true (.ia l2 l0 1),i 5 true l0,y 6 true (.bin .leq l5 l0),y 10 false (.pk l7 l0 (.b false)),u (.pk l11 (.b true) l0)] [] 0 (q [x 3 (.b false)] [] .ret) .skip))) (.reg [u (.bin .add v8 (.i 1)),x 8 l0] [])))
def oh:C:= .loop true [3,4,5] K.dA
def cz:Fn:= { bo:=3,vars:=[0,1,2,6,7,8,9,10,11],body:=(q [x 3 (.b false)] [] (.seq (q [x 6 v0,w 7 (.ln l0),x 8 (.i 0)] [] (.blk 0 K.oh)) (q [x 3 (.b true)] [] .ret))),res:=[(3,none)]}
end Go.Ev.K
namespace Go.Ev
class cJ [Lib]:Prop where
 kV:Lib.fs N.cz=some K.cz
namespace K
variable [Lib] [cJ]
theorem kV:Lib.fs N.cz=some K.cz:=cJ.kV
end K
end Go.Ev
namespace Go.Ev
open Go
variable [Lib] [aZ] [bc] [cG] [cJ]
def IL(l:List Int)(lo hi:Int)(j:Nat):Bool:= !decide (lo≤nth l j∧nth l j≤hi∧(0<j→nth l (j-1)<nth l j))
def Sb(l:List Int)(lo hi:Int):Bool:= !((List.range l.length).any (IL l lo hi))
theorem om(l:List Int)(lo hi:Int)(hl:l.length≤4294967296):aG 0 N.cz [.t (tL l),I lo,I hi] []=some (B (Sb l lo hi),[]):=by
 refine ay K.kV rfl ?_
 have loop:∀a b c:D,exS aG K.oh ⟨[.t (tL l),I lo,I hi,a,b,c,.t (tL l),I l.length,I 0],[]⟩=
  some (if(List.range l.length).any (IL l lo hi)=true
   then(.ret,⟨[.t (tL l),I lo,I hi,B false,I (AH l.length (IL l lo hi)),I (nth l (AH l.length (IL l lo hi))),.t (tL l),I l.length,I (AH l.length (IL l lo hi))],[]⟩)
   else(.exit 0,⟨[.t (tL l),I lo,I hi,.und,.und,.und,.t (tL l),I l.length,I l.length],[]⟩)):=by
  intro a b c
  refine Ix (fun j=>⟨[.t (tL l),I lo,I hi,.und,.und,.und,.t (tL l),I l.length,I j],[]⟩) l.length (IL l lo hi) (fun j=>(.ret,⟨[.t (tL l),I lo,I hi,B false,I j,I (nth l j),.t (tL l),I l.length,I j],[]⟩)) _ rfl ?_ ?_ ?_ (by simp)
  · intro j hj hp
    simp only[IL,Bool.not_eq_false',decide_eq_true_eq]at hp
    obtain⟨h1,h2,h3⟩:=hp
    cases j with
    | zero=>simp(disch:=omega)only[go_sem,K.dA,↓reduceIte]
    | succ j=>
      have h3:=h3 (by omega)
      rw[Nat.add_sub_cancel]at h3
      simp(disch:=omega)only[go_sem,K.dA,↓reduceIte]
  · intro j hj hp
    simp only[IL,Bool.not_eq_true',decide_eq_false_iff_not]at hp
    refine⟨?_,by simp⟩
    by_cases h1:lo≤nth l j
    · by_cases h2:nth l j≤hi
      · cases j with
        | zero=>exact absurd ⟨h1,h2,fun h=>absurd h (by omega)⟩ hp
        | succ j=>
          have h3:¬nth l j<nth l (j+1):=fun h=>hp ⟨h1,h2,fun _=>by simpa using h⟩
          simp(disch:=omega)only[go_sem,K.dA,↓reduceIte]
      · simp(disch:=omega)only[go_sem,K.dA,↓reduceIte]
    · simp(disch:=omega)only[go_sem,K.dA,↓reduceIte]
  · simp(disch:=omega)only[go_sem,K.dA,↓reduceIte]
 unfold Sb
 simp(disch:=omega)only[go_sem,K.cz,↓reduceIte,loop]
 cases hf:(List.range l.length).any (IL l lo hi)with
 | true=>simp(disch:=omega)only[go_sem,↓reduceIte]
 | false=>simp(disch:=omega)only[go_sem,↓reduceIte,aLt]
theorem tf(l:List Int)(n:Int):Sb l 0 (n-1)=ud l n:=by
 unfold Sb ud
 rw[RM]
 refine congrArg (!·) (congrArg _ (funext fun j=>?_))
 unfold IL
 refine congrArg (!·) (decide_eq_decide.2 ⟨fun h=>⟨h.1,by omega,h.2.2⟩,fun h=>⟨h.1,by omega,h.2.2⟩⟩)
structure ZF where
 st:Int
 fi:Int
 se:Int
 ti:Int
abbrev ZF.e(s:ZF):T:= .agg [tI s.st,tI s.fi,tI s.se,tI s.ti]
structure FW where
 area:List Int
 hold:Int
 mis:Int
abbrev FW.e(x:FW):T:= .agg [tL x.area,tI x.hold,tI x.mis]
structure Keys where
 roads:List Int
 keys:List Int
 out:Bool
abbrev Keys.e(k:Keys):T:= .agg [tL k.roads,tL k.keys,.bool k.out]
end Go.Ev
namespace Go.Ev
open Go
variable [Lib] [aZ] [bc]
@[go_sem] theorem Sc (l : List Place) : kQ 2 (l.map Place.e) = true := by cases l <;> rfl
@[go_sem] theorem V7 (l : List Road) : kQ 10 (l.map Road.e) = true := by cases l <;> rfl
@[go_sem] theorem V8 (H : ae) (d : ax) : LR H 0 1 false (some d.obj) = some (.t (tL d.L), H) := by simp only [ax.obj, go_sem]
def ax.dq(d:ax):Nat→List Place×ax
 | 0=>([],d)
 | k+1=>if k=0 then((d.dq k).1++[⟨-10*((d.dq k).2.next 4).1,true⟩],((d.dq k).2.next 4).2)
   else((d.dq k).1++[⟨-10*((d.dq k).2.next 4).1,(((d.dq k).2.next 4).2.one 6).1⟩],(((d.dq k).2.next 4).2.one 6).2)
def ax.FX(d:ax)(i:Int):Road×ax:=
 (⟨i-1-(d.next (min i 2)).1,i,1+((d.next (min i 2)).2.of [11,59,119,4]).1,1+(((d.next (min i 2)).2.of [11,59,119,4]).2.of [9,3,19]).1,true,false,1,1,0,0⟩,
   (((d.next (min i 2)).2.of [11,59,119,4]).2.of [9,3,19]).2)
def ax.iN(d:ax):Nat→List Road×ax
 | 0=>([],d)
 | k+1=>((d.iN k).1++[((d.iN k).2.FX (k+1)).1],((d.iN k).2.FX (k+1)).2)
def ax.mK(d:ax)(n:Int):Road×ax:=
 let a:=d.next n
 let b:=a.2.next n
 let l:=b.2.of [11,59,199]
 let r:=l.2.of [9,3]
 let w:=r.2.next 5
 let c:=w.2.one 6
 (⟨a.1,b.1,1+l.1,1+r.1,decide (0<w.1),c.1,1,1,0,0⟩,c.2)
def ax.more(n:Int)(l:List Road)(d:ax):Nat→List Road×ax
 | 0=>(l,d)
 | k+1=>if l.length<10 then ax.more n (if(d.mK n).1.frm=(d.mK n).1.to then l else l++[(d.mK n).1]) (d.mK n).2 k else(l,d)
def ax.qt(d:ax):Nat:=if d.L.length=0 then 4 else(2+(d.next 6).1).toNat
def ax.IM(d:ax):List Place×ax:=(d.next 6).2.dq d.qt
def ax.yR(d:ax):List Road×ax:=d.IM.2.iN (d.qt-1)
def ax.Mn(d:ax):List Road×ax:=ax.more d.qt d.yR.1 (d.yR.2.next 4).2 (d.yR.2.next 4).1.toNat
def ax.OD(d:ax):aK×ax:=(⟨d.IM.1,d.Mn.1⟩,d.Mn.2)
theorem ax.iP{d:ax}(h:d.cy):∀n,(d.dq n).2.cy
 | 0=>h
 | n+1=>by
   unfold ax.dq
   split
   · exact ax.bw (ax.iP h n) 4
   · exact ax.wa (ax.bw (ax.iP h n) 4) 6
theorem ax.mL(d:ax):∀n,(d.dq n).1.length=n
 | 0=>rfl
 | n+1=>by
   unfold ax.dq
   split<;>simp[d.mL n]
theorem ax.Cy{d:ax}(h:d.cy)(i:Int):(d.FX i).2.cy:=ax.jX (ax.jX (ax.bw h _) _) _
theorem ax.kH{d:ax}(h:d.cy):∀n,(d.iN n).2.cy
 | 0=>h
 | n+1=>ax.Cy (ax.kH h n) _
theorem ax.pc(d:ax):∀n,(d.iN n).1.length=n
 | 0=>rfl
 | n+1=>by simp[ax.iN,d.pc n]
theorem ax.wx{d:ax}(h:d.cy)(n:Int):(d.mK n).2.cy:=by
 unfold ax.mK;simp only
 exact ax.wa (ax.bw (ax.jX (ax.jX (ax.bw (ax.bw h _) _) _) _) _) _
theorem ax.xX(n:Int):∀(k:Nat) (l:List Road) {d:ax},d.cy→(ax.more n l d k).2.cy
 | 0,l,d,h=>h
 | k+1,l,d,h=>by
   unfold ax.more
   split
   · exact ax.xX n k _ (ax.wx h n)
   · exact h
theorem ax.FY{d:ax}(h:d.cy):d.OD.2.cy:=
 ax.xX _ _ _ (ax.bw (ax.kH (ax.iP (ax.bw h _) _) _) _)
abbrev yS:List D:=[I 0,I 0,I 12,I 10,B true,B false,I 1,I 1,I 0,I 0]
theorem FZ(d:ax)(hd:d.cy)(n:Nat)(hn:n≤8)(a b c e f:D):
 exS aG K.lV ⟨[.bp 0 0,.bp 1 0,.bp 2 0,I n,I 0,a,b,c,e,f],[d.obj,.box [.nil,.nil],.box [.ref 3 0 0,.ref 4 0 0],.arr 2 false 0 [],.arr 10 false 0 []]⟩=
 some (.exit 0,⟨[.bp 0 0,.bp 1 0,.bp 2 0,I n,I n,.und,.und,.und,.und,.und],[(d.dq n).2.obj,.box [.nil,.nil],.box [.ref 3 0 (d.dq n).1.length,.ref 4 0 0],.arr 2 false 0 (((d.dq n).1.map Place.e).map .t),.arr 10 false 0 []]⟩):=by
 refine bV (fun j=>⟨[.bp 0 0,.bp 1 0,.bp 2 0,I n,I j,.und,.und,.und,.und,.und],[(d.dq j).2.obj,.box [.nil,.nil],.box [.ref 3 0 (d.dq j).1.length,.ref 4 0 0],.arr 2 false 0 (((d.dq j).1.map Place.e).map .t),.arr 10 false 0 []]⟩) n rfl ?_ ?_ (by simp)
 · intro j hj
   have ln:=d.mL j
   have lt:=ax.iP hd j
   simp only[ax.dq]
   generalize d.dq j=s at*
   obtain⟨l,d1⟩:=s
   simp only at ln lt ⊢
   have h1:=iv d1 4 (by omega) lt
   have b1:=d1.gG 4
   have b2:=d1.fY (n:=4) (by omega)
   have l1:=ax.bw lt 4
   generalize d1.next 4=a1 at*
   obtain⟨x,d2⟩:=a1
   simp only at h1 b1 b2 l1 ⊢
   by_cases j0:j=0
   · subst j0
     simp(disch:=omega)only[go_sem,K.gp,h1,↓reduceIte,reduceAdd,reduceSub]
   · have h2:=Iz d2 6 (by omega) (by omega) l1
     simp(disch:=omega)only[go_sem,K.gp,h1,h2,j0,↓reduceIte,reduceAdd,reduceSub]
 · simp(disch:=omega)only[go_sem,K.gp,↓reduceIte]
theorem F3(d:ax)(hd:d.cy)(n:Nat)(hn:n≤8)(h1:1≤n)(ps:List Place)(a b c e:D):
 exS aG K.lW ⟨[.bp 0 0,.bp 1 0,.bp 2 0,I n,a,.bp 5 0,I 1,b,c,e],[d.obj,.box [.nil,.nil],.box [.ref 3 0 ps.length,.ref 4 0 0],.arr 2 false 0 ((ps.map Place.e).map .t),.arr 10 false 0 [],.box yS]⟩=
 some (.exit 2,⟨[.bp 0 0,.bp 1 0,.bp 2 0,I n,.und,.bp 5 0,I n,.und,.und,.und],[(d.iN (n-1)).2.obj,.box [.nil,.nil],.box [.ref 3 0 ps.length,.ref 4 0 (d.iN (n-1)).1.length],.arr 2 false 0 ((ps.map Place.e).map .t),.arr 10 false 0 (((d.iN (n-1)).1.map Road.e).map .t),.box yS]⟩):=by
 refine bV (fun j=>⟨[.bp 0 0,.bp 1 0,.bp 2 0,I n,.und,.bp 5 0,I (j+1),.und,.und,.und],[(d.iN j).2.obj,.box [.nil,.nil],.box [.ref 3 0 ps.length,.ref 4 0 (d.iN j).1.length],.arr 2 false 0 ((ps.map Place.e).map .t),.arr 10 false 0 (((d.iN j).1.map Road.e).map .t),.box yS]⟩) (n-1) rfl ?_ ?_ (by simp)
 · intro j hj
   have ln:=d.pc j
   have lt:=ax.kH hd j
   simp only[ax.iN]
   generalize d.iN j=s at*
   obtain⟨l,d1⟩:=s
   simp only[ax.FX]at ln lt ⊢
   have h1:=iv d1 (min ((j:Int)+1) 2) (by omega) lt
   have b1:=d1.gG (min ((j:Int)+1) 2)
   have b2:=d1.fY (n:=min ((j:Int)+1) 2) (by omega)
   have l1:=ax.bw lt (min ((j:Int)+1) 2)
   generalize d1.next (min ((j:Int)+1) 2)=a1 at*
   obtain⟨x,d2⟩:=a1
   simp only at h1 b1 b2 l1 ⊢
   have h2:=FU d2 [11,59,119,4] (by simp) (by simp) l1
   have m2:=d2.pV (l:=[11,59,119,4]) (by simp)
   have l2:=ax.jX l1 [11,59,119,4]
   generalize d2.of [11,59,119,4]=a2 at*
   obtain⟨y,d3⟩:=a2
   simp only[tL,List.map_cons,List.map_nil]at h2 m2 l2 ⊢
   have h3:=FU d3 [9,3,19] (by simp) (by simp) l2
   have m3:=d3.pV (l:=[9,3,19]) (by simp)
   generalize d3.of [9,3,19]=a3 at*
   obtain⟨z,d4⟩:=a3
   simp only[tL,List.map_cons,List.map_nil,List.mem_cons,List.not_mem_nil,or_false]at h3 m2 m3 ⊢
   simp(disch:=omega)only[go_sem,K.iJ,h1,h2,h3,↓reduceIte,reduceAdd,reduceSub]
 · simp(disch:=omega)only[go_sem,K.iJ,↓reduceIte]
   rw[show((n-1:Nat):Int)+1=n by omega]
abbrev AM(d:ax)(ps:List Place)(l:List Road):ae:=[d.obj,.box [.nil,.nil],.box [.ref 3 0 ps.length,.ref 4 0 l.length],.arr 2 false 0 ((ps.map Place.e).map .t),.arr 10 false 0 ((l.map Road.e).map .t),.box yS]
theorem F4(d:ax)(hd:d.cy)(n:Int)(hn:1≤n)(hn2:n≤8)(ps:List Place)(l:List Road)(hl:l.length<10)(k:Nat)(hk:k≤10):
 iI true [4,6,7,9] 6 (exS aG K.cI ⟨[.bp 0 0,.bp 1 0,.bp 2 0,I n,.und,.bp 5 0,.und,.und,I (k+1),.und],AM d ps l⟩)=
 some ⟨[.bp 0 0,.bp 1 0,.bp 2 0,I n,.und,.bp 5 0,.und,.und,I k,.und],AM (d.mK n).2 ps (if(d.mK n).1.frm=(d.mK n).1.to then l else l++[(d.mK n).1])⟩:=by
 unfold ax.mK AM
 simp only
 have h1:=iv d n (by omega) hd
 have l1:=ax.bw hd n
 generalize d.next n=a1 at*
 obtain⟨x1,d1⟩:=a1
 simp only at h1 l1 ⊢
 have h2:=iv d1 n (by omega) l1
 have l2:=ax.bw l1 n
 generalize d1.next n=a2 at*
 obtain⟨x2,d2⟩:=a2
 simp only at h2 l2 ⊢
 have h3:=FU d2 [11,59,199] (by simp) (by simp) l2
 have m3:=d2.pV (l:=[11,59,199]) (by simp)
 have l3:=ax.jX l2 [11,59,199]
 generalize d2.of [11,59,199]=a3 at*
 obtain⟨x3,d3⟩:=a3
 simp only[tL,List.map_cons,List.map_nil]at h3 m3 l3 ⊢
 have h4:=FU d3 [9,3] (by simp) (by simp) l3
 have m4:=d3.pV (l:=[9,3]) (by simp)
 have l4:=ax.jX l3 [9,3]
 generalize d3.of [9,3]=a4 at*
 obtain⟨x4,d4⟩:=a4
 simp only[tL,List.map_cons,List.map_nil]at h4 m4 l4 ⊢
 have h5:=iv d4 5 (by omega) l4
 have l5:=ax.bw l4 5
 generalize d4.next 5=a5 at*
 obtain⟨x5,d5⟩:=a5
 simp only at h5 l5 ⊢
 have h6:=Iz d5 6 (by omega) (by omega) l5
 generalize d5.one 6=a6 at*
 obtain⟨x6,d6⟩:=a6
 simp only[List.mem_cons,List.not_mem_nil,or_false]at h6 m3 m4 ⊢
 by_cases e:x1=x2
 · simp(disch:=omega)only[go_sem,K.cI,h1,h2,h3,h4,h5,h6,e,↓reduceIte,reduceAdd,reduceSub]
 · simp(disch:=omega)only[go_sem,K.cI,h1,h2,h3,h4,h5,h6,e,↓reduceIte,reduceAdd,reduceSub]
theorem xY(n:Int)(hn:1≤n)(hn2:n≤8)(ps:List Place):∀(k:Nat) (d:ax) (l:List Road),d.cy→l.length≤10→k≤10→
 ∃z:Int,jy true [4,6,7,9] (exS aG K.cI) ⟨[.bp 0 0,.bp 1 0,.bp 2 0,I n,.und,.bp 5 0,.und,.und,I k,.und],AM d ps l⟩=
 some (.exit 4,⟨[.bp 0 0,.bp 1 0,.bp 2 0,I n,.und,.bp 5 0,.und,.und,I z,.und],AM (ax.more n l d k).2 ps (ax.more n l d k).1⟩)
 | 0,d,l,hd,hl,hk=>by
   refine⟨0,c7 ?_ (by simp)⟩
   simp(disch:=omega)only[go_sem,K.cI,ax.more,↓reduceIte,reduceAdd,reduceSub]
 | k+1,d,l,hd,hl,hk=>by
   by_cases h:l.length<10
   · have hr:=F4 d hd n hn hn2 ps l h k (by omega)
     obtain⟨z,hz⟩:=xY n hn hn2 ps k (d.mK n).2 (if(d.mK n).1.frm=(d.mK n).1.to then l else l++[(d.mK n).1]) (ax.wx hd n) (by split<;>(try rw[aLv,List.length_singleton])<;>omega) (by omega)
     refine⟨z,gK hr ?_⟩
     rw[hz]
     simp only[ax.more,if_pos h]
   · refine⟨(k:Int)+1,c7 ?_ (by simp)⟩
     simp(disch:=omega)only[go_sem,K.cI,ax.more,↓reduceIte,reduceAdd,reduceSub]
theorem ax.Ed(n:Int):∀(k:Nat) (l:List Road) (d:ax),l.length≤10→(ax.more n l d k).1.length≤10
 | 0,l,d,h=>h
 | k+1,l,d,h=>by
   unfold ax.more
   split
   · exact ax.Ed n k _ _ (by split<;>(try rw[aLv,List.length_singleton])<;>omega)
   · exact h
theorem ax.uX(d:ax):2≤d.qt∧d.qt≤7:=by
 unfold ax.qt
 have:=d.gG 6
 have:=d.fY (n:=6) (by omega)
 split<;>omega
theorem Sd(d:ax)(hd:d.cy):aG 0 N.bX [.bp 0 0] [d.obj]=some (.t d.OD.1.e,[d.OD.2.obj]):=by
 refine ay K.jz rfl ?_
 have nb:=d.uX
 unfold ax.OD
 have h0:=iv d 6 (by omega) hd
 have l0:=ax.bw hd 6
 have b1:=d.gG 6
 have b2:=d.fY (n:=6) (by omega)
 have hL:=d.Ol 6
 have hN:(d.qt:Int)=if d.L.length=0 then 4 else 2+(d.next 6).1:=by unfold ax.qt;split<;>omega
 have e1:d.Mn=ax.more d.qt d.yR.1 (d.yR.2.next 4).2 (d.yR.2.next 4).1.toNat:=rfl
 have e2:d.yR=d.IM.2.iN (d.qt-1):=rfl
 have e3:d.IM=(d.next 6).2.dq d.qt:=rfl
 generalize d.Mn=X at*
 generalize d.yR=R at*
 generalize d.IM=P at*
 generalize d.qt=n at*
 generalize d.next 6=a at*
 obtain⟨x,d1⟩:=a
 simp only at h0 l0 b1 b2 hL hN e3 ⊢
 have q1:=FZ d1 l0 n (by omega)
 have lP:=ax.iP l0 n
 have nP:=d1.mL n
 rw[← e3]at q1 lP nP
 obtain⟨ps,d2⟩:=P
 simp only at q1 lP nP e2 ⊢
 have q2:=F3 d2 lP n (by omega) (by omega) ps
 have lR:=ax.kH lP (n-1)
 have nR:=d2.pc (n-1)
 rw[← e2]at q2 lR nR
 obtain⟨rs,d3⟩:=R
 simp only at q2 lR nR e1 ⊢
 have h4:=iv d3 4 (by omega) lR
 have l4:=ax.bw lR 4
 have b3:=d3.gG 4
 have b4:=d3.fY (n:=4) (by omega)
 generalize d3.next 4=c at*
 obtain⟨y,d4⟩:=c
 simp only at h4 l4 b3 b4 e1 ⊢
 obtain⟨z,q3⟩:=xY n (by omega) (by omega) ps y.toNat d4 rs l4 (by omega) (by omega)
 rw[← e1]at q3
 have q3:=Iv (vs:=[.bp 0 0,.bp 1 0,.bp 2 0,I n,.und,.bp 5 0,I n,.und,I y.toNat,.und]) q3
 have ey:(y.toNat:Int)=y:=by omega
 rw[ey]at q3
 obtain⟨xs,d5⟩:=X
 have fin:∀k:Int,(exS aG K.lX ⟨[.bp 0 0,.bp 1 0,.bp 2 0,I n,.und,.bp 5 0,I n,.und,I y,.und],AM d4 ps rs⟩)=
  some (.exit 4,⟨[.bp 0 0,.bp 1 0,.bp 2 0,I n,.und,.bp 5 0,.und,.und,I z,.und],AM d5 ps xs⟩):=fun _=>q3
 clear q3
 have q3:=fin 0
 clear fin
 simp only[AM]at q3
 by_cases c0:d.L.length=0
 · rw[if_pos c0]at hN
   obtain rfl:n=4:=by omega
   have e4:((4:Nat):Int)=4:=rfl
   simp only[e4]at q1 q2 q3
   simp(disch:=omega)only[go_sem,K.bX,↓reduceIte,h0,c0,q1,q2,q3,h4,hL,reduceAdd,reduceSub]
 · rw[if_neg c0]at hN
   simp(disch:=omega)only[go_sem,K.bX,↓reduceIte,h0,c0,q1,q2,q3,h4,hL,hN.symm,reduceAdd,reduceSub]
theorem ax.Mo(d:ax){n:Nat}{i:Int}(h1:1≤i)(h2:i<n):(d.FX i).1.ok n:=by
 have b1:=d.gG (min i 2)
 have b2:=d.fY (n:=min i 2) (by omega)
 have m2:=(d.next (min i 2)).2.pV (l:=[11,59,119,4]) (by simp)
 have m3:=((d.next (min i 2)).2.of [11,59,119,4]).2.pV (l:=[9,3,19]) (by simp)
 simp only[List.mem_cons,List.not_mem_nil,or_false]at m2 m3
 unfold ax.FX
 constructor<;>(simp only;omega)
theorem ax.AN(d:ax){n:Nat}:∀k,k+1≤n→∀r∈(d.iN k).1,r.ok n
 | 0,_,r,hr=>by simp[ax.iN]at hr
 | k+1,h,r,hr=>by
   simp only[ax.iN,List.mem_append,List.mem_singleton]at hr
   rcases hr with hr | rfl
   · exact d.AN k (by omega) r hr
   · exact ax.Mo _ (by omega) (by omega)
theorem ax.Mp(d:ax){n:Nat}(hn:1≤n)(hne:(d.mK n).1.frm≠(d.mK n).1.to):(d.mK n).1.ok n:=by
 unfold ax.mK at hne ⊢
 simp only at hne ⊢
 have b1:=d.gG n
 have b2:=d.fY (n:=(n:Int)) (by omega)
 generalize d.next n=a1 at*
 obtain⟨x1,d1⟩:=a1
 simp only at*
 have c1:=d1.gG n
 have c2:=d1.fY (n:=(n:Int)) (by omega)
 generalize d1.next n=a2 at*
 obtain⟨x2,d2⟩:=a2
 simp only at*
 have m3:=d2.pV (l:=[11,59,199]) (by simp)
 generalize d2.of [11,59,199]=a3 at*
 obtain⟨x3,d3⟩:=a3
 simp only at*
 have m4:=d3.pV (l:=[9,3]) (by simp)
 generalize d3.of [9,3]=a4 at*
 obtain⟨x4,d4⟩:=a4
 simp only[List.mem_cons,List.not_mem_nil,or_false]at m3 m4 ⊢
 constructor<;>(simp only;omega)
theorem ax.IN{n:Nat}(hn:1≤n):∀(k:Nat) (l:List Road) (d:ax),(∀r∈l,r.ok n)→∀r∈(ax.more n l d k).1,r.ok n
 | 0,l,d,h=>h
 | k+1,l,d,h=>by
   unfold ax.more
   split
   · refine ax.IN hn k _ _ ?_
     split
     · exact h
     · rename_i hne
       intro r hr
       rcases List.mem_append.1 hr with hr | hr
       · exact h r hr
       · rw[List.mem_singleton.1 hr];exact d.Mp hn hne
   · exact h
theorem ax.AO(n:Int):∀(k:Nat) (l:List Road) (d:ax),l.length≤(ax.more n l d k).1.length
 | 0,l,d=>aLs _
 | k+1,l,d=>by
   unfold ax.more
   split
   · refine Nat.le_trans ?_ (ax.AO n k _ _)
     split<;>(try rw[aLv])<;>omega
   · exact aLs _
theorem ax.AP(d:ax):∀k,∀p∈(d.dq k).1, -30≤p.h∧p.h≤0
 | 0,p,hp=>by simp[ax.dq]at hp
 | k+1,p,hp=>by
   have b1:=(d.dq k).2.gG 4
   have b2:=(d.dq k).2.fY (n:=4) (by omega)
   unfold ax.dq at hp
   split at hp
   all_goals
    simp only[List.mem_append,List.mem_singleton]at hp
    rcases hp with hp | rfl
    · exact d.AP k p hp
    · simp only;omega
theorem ax.wy(d:ax):d.OD.1.aa.length=d.qt:=ax.mL _ _
theorem ax.xZ(d:ax):d.qt-1≤d.OD.1.roads.length∧d.OD.1.roads.length≤10:=by
 have nb:=d.uX
 have e:d.yR.1.length=d.qt-1:=ax.pc _ _
 constructor
 · rw[← e];exact ax.AO _ _ _ _
 · exact ax.Ed _ _ _ _ (by omega)
theorem ax.IP(d:ax):d.OD.1.ok:=by
 have nb:=d.uX
 have h1:=d.wy
 have h2:=d.xZ
 refine⟨by omega,by omega,fun p hp=>?_,?_⟩
 · have:=ax.AP _ _ p hp;omega
 · rw[h1]
   exact ax.IN (by omega) _ _ _ (ax.AN _ _ (by omega))
@[go_sem] theorem ZG (l : List Spn) : kQ 2 (l.map Spn.e) = true := by cases l <;> rfl
@[go_sem] theorem afL (l : List Spn) (k : Nat) (a b : Int) : (List.map D.t (List.map Spn.e l)).set k (D.t (T.agg [tI a, tI b])) = List.map D.t (List.map Spn.e (l.set k ⟨a, b⟩)) := by
 rw[List.map_set,List.map_set]
@[go_sem] theorem ahc (H : ae) (sz : Nat) (a b c d e f : T) : xP H sz [.t a, .t b, .t c, .t d, .t e, .t f] = if bK sz [a, b, c, d, e, f] = true then some (.t (.sl [a, b, c, d, e, f]), H) else none := nV H sz [a, b, c, d, e, f]
@[go_sem] theorem ahd (H : ae) (sz : Nat) (a b c d e f g : T) : xP H sz [.t a, .t b, .t c, .t d, .t e, .t f, .t g] = if bK sz [a, b, c, d, e, f, g] = true then some (.t (.sl [a, b, c, d, e, f, g]), H) else none := nV H sz [a, b, c, d, e, f, g]
@[go_sem] theorem ahe (H : ae) (sz : Nat) (a b c d e f g h : T) : xP H sz [.t a, .t b, .t c, .t d, .t e, .t f, .t g, .t h] = if bK sz [a, b, c, d, e, f, g, h] = true then some (.t (.sl [a, b, c, d, e, f, g, h]), H) else none := nV H sz [a, b, c, d, e, f, g, h]
@[go_sem] theorem ZH {α β γ : Type} {l : List α} {g : α → β} {f : β → γ} {x : γ} {j : Nat} (h : j = l.length) : (List.map f (List.map g l) ++ [x])[j]? = some x := by
 rw[aLh (by simp;omega)];simp[h]
@[go_sem] theorem acU {α β γ : Type} {l : List α} {g : α → β} {f : β → γ} {x y : γ} {j : Nat} (h : j = l.length) : (List.map f (List.map g l) ++ [x]).set j y = List.map f (List.map g l) ++ [y] := by
 rw[List.set_append_right _ _ (by simp;omega)];simp[h]
def ax.ZI(d:ax):Spn×ax:=
 let a:=d.of [0,1000,5000,20000, -5000, -20000,4999,100]
 let b:=a.2.of [0,1,1000,6000]
 let c:=b.2.of [0,1,500]
 let w:=c.2.one 9
 (if w.1=true then⟨-1125899906842624,1125899906842624⟩else⟨a.1-b.1,a.1+c.1⟩,w.2)
def ax.Ee(d:ax):Nat→List Spn×ax
 | 0=>([],d)
 | k+1=>((d.Ee k).1++[((d.Ee k).2.ZI).1],((d.Ee k).2.ZI).2)
def ax.afM(d:ax)(m:aK):List Spn×ax:=d.Ee m.roads.length
theorem AQ{gc:Bool}{dead:List Nat}{c:C}{vs:List D}{H:ae}(P:Nat→St→Prop)(n:Nat)(Q:Ex×St→Prop)(h0:P 0 ⟨ir dead vs,H⟩)
 (hs:∀j st,j<n→P j st→(∃st',iI gc dead st.H.length (exS aG c st)=some st'∧P (j+1) st')∨∃q,exS aG c st=some q∧q.1≠ .normal∧Q q)
 (he:∀st,P n st→∃q,exS aG c st=some q∧q.1≠ .normal∧Q q):∃q,exS aG (.loop gc dead c) ⟨vs,H⟩=some q∧Q q:=by
 have key:∀(k j:Nat) (st:St),j+k=n→P j st→∃q,jy gc dead (exS aG c) st=some q∧Q q:=by
  intro k
  induction k with
  | zero=>
    intro j st hj hp
    obtain⟨q,h1,h2,h3⟩:=he st (by rw[← hj];exact hp)
    exact⟨q,c7 h1 h2,h3⟩
  | succ k ih=>
    intro j st hj hp
    rcases hs j st (by omega) hp with⟨st',h1,h2⟩ | ⟨q,h1,h2,h3⟩
    · obtain⟨q,h3,h4⟩:=ih (j+1) st' (by omega) h2
      exact⟨q,gK h1 h3,h4⟩
    · exact⟨q,c7 h1 h2,h3⟩
 exact key n 0 _ (by omega) h0
theorem ZJ(l:List Int):aG 0 N.gR [.t (tL l)] []=some (.bp 0 0,[ax.obj ⟨l,0⟩]):=by
 refine ay K.qm rfl ?_
 simp(disch:=omega)only[go_sem,K.gR,↓reduceIte,ax.obj,reduceAdd,reduceSub]
theorem Ef{d:ax}(hd:d.cy)(n:Int)(h1:1≤n)(hn:n≤4611686018427387904):
 ∃(v:Int) (e:ax),aG 0 N.aq [.bp 0 0,I n] [d.obj]=some (I v,[e.obj])∧e.cy∧0≤v∧v<n:=
 ⟨_,_,iv d n hn hd,ax.bw hd n,d.gG n,d.fY h1⟩
theorem afN{d:ax}(hd:d.cy)(n:Int)(h1:0≤n)(hn:n≤4611686018427387904):
 ∃(b:Bool) (e:ax),aG 0 N.bj [.bp 0 0,I n] [d.obj]=some (B b,[e.obj])∧e.cy:=
 ⟨_,_,Iz d n h1 hn hd,ax.wa hd n⟩
theorem aid{d:ax}(hd:d.cy)(l:List Int)(hl:l≠[])(hn:l.length≤4294967296):
 ∃(v:Int) (e:ax),aG 0 N.bh [.bp 0 0,.t (tL l)] [d.obj]=some (I v,[e.obj])∧e.cy∧v∈l:=
 ⟨_,_,FU d l hl hn hd,ax.jX hd l,d.pV hl⟩
theorem ZK{d:ax}(hd:d.cy):
 ∃(m:aK) (e:ax),aG 0 N.bX [.bp 0 0] [d.obj]=some (.t m.e,[e.obj])∧e.cy∧m.ok∧2≤m.aa.length∧m.aa.length≤7∧1≤m.roads.length∧m.roads.length≤10:=by
 have b:=d.uX
 have p:=d.wy
 have r:=d.xZ
 exact⟨_,_,Sd d hd,ax.FY hd,d.IP,by omega,by omega,by omega,by omega⟩
end Go.Ev
namespace Go.Ev
open Go
variable [Lib] [aZ] [bc] [cG] [cJ]
abbrev never:Int:=1099511627776
abbrev Wh.box(w:Wh):Obj:= .box [I w.time,.t (tL w.frm)]
structure Req where
 x:FW
 s:ZF
 k:Keys
 b:Bel
 t:Int
 from_:Int
abbrev Req.e(r:Req):T:= .agg [tL r.x.area,tI r.x.hold,tI r.x.mis,tI r.s.st,tI r.s.fi,tI r.s.se,tI r.s.ti,tL r.k.roads,tL r.k.keys,.bool r.k.out,.sl (r.b.dD.map World.e),tI r.t,tI r.from_]
structure Req.sz(r:Req):Prop where
 hx:r.x.area.length≤1000000
 hk:r.k.roads.length≤1000000
 hk2:r.k.keys.length≤1000000
 hb:r.b.sz
section
variable (x : FW) (s : ZF) (k : Keys) (b : Bel) (hx : x.area.length ≤ 1000000) (hk : k.roads.length ≤ 1000000) (hk2 : k.keys.length ≤ 1000000) (hb : b.sz)
include hx hk hk2 hb
end
end Go.Ev
namespace Go.Ev
open Go
variable [Lib] [aZ] [bc] [cG] [cJ]
section
variable (area : List Int) (ha : area.length ≤ 1000000) (xs : List World) (hx : xs.length ≤ 1000000)
include ha hx
end
end Go.Ev
namespace Go.Ev
open Go
section
variable (H : ae) (sz id ep n lo hi : Nat) (i j : Int) (fz : Bool)
def scO(r:D):Option Obj→Option (D×ae)
 | some (.arr sz' _ ep' es)=>if ep=ep'∧n=es.length then(if sz'=sz then some (r,H)else none)else none
 | _=>none
@[go_sem] theorem afO (r : D) (sz' : Nat) (pin : Bool) (es : List D) : scO H sz ep n r (some (.arr sz' pin ep es)) = if n = es.length then (if sz' = sz then some (r, H) else none) else none := by simp [scO]
theorem scR{l h:Nat}:((eJ H id ep n).bind fun a=>if l≤h∧h≤n∧a.1=sz then some (D.sub id ep n l h)else none).map (fun d=>(d,H))=if l≤h then(if h≤n then scO H sz ep n (.sub id ep n l h) H[id]? else none)else none:=by
 simp only[eJ]
 generalize H[id]?=o
 by_cases h1:l≤h
 · by_cases h2:h≤n
   · rw[if_pos h1,if_pos h2]
     rcases o with _ | (_ | ⟨sz',pin,ep',es⟩)
     · rfl
     · rfl
     · simp only[scO]
       by_cases h3:ep=ep'∧n=es.length
       · rw[if_pos h3,if_pos h3,aLq]
         by_cases h4:sz'=sz
         · rw[if_pos h4,if_pos ⟨h1,h2,h4⟩];rfl
         · rw[if_neg h4,if_neg fun h=>h4 h.2.2];rfl
       · rw[if_neg h3,if_neg h3];rfl
   · rw[if_pos h1,if_neg h2]
     rcases o with _ | (_ | ⟨sz',pin,ep',es⟩)
     · rfl
     · rfl
     · by_cases h3:ep=ep'∧n=es.length
       · simp only[if_pos h3,aLq];rw[if_neg fun h=>h2 h.2.1];rfl
       · simp only[if_neg h3];rfl
 · rw[if_neg h1]
   rcases o with _ | (_ | ⟨sz',pin,ep',es⟩)
   · rfl
   · rfl
   · by_cases h3:ep=ep'∧n=es.length
     · simp only[if_pos h3,aLq];rw[if_neg fun h=>h1 h.1];rfl
     · simp only[if_neg h3];rfl
@[go_sem] theorem Se : Av H sz (some (.ref id ep n)) (some none) (some (some i)) = if 0 ≤ i then (if i ≤ n then scO H sz ep n (.sub id ep n 0 i.toNat) H[id]? else none) else none := by
 simp only[Av,aLq,kE,bound,idx]
 by_cases h1:0≤i
 · rw[if_pos h1,if_pos h1,aLq,scR,if_pos (Nat.zero_le _)]
   by_cases h2:i≤n
   · rw[if_pos h2,if_pos (by omega)]
   · rw[if_neg h2,if_neg (by omega)]
 · rw[if_neg h1,if_neg h1];rfl
@[go_sem] theorem Sf : Av H sz (some (.ref id ep n)) (some (some i)) (some none) = if 0 ≤ i then (if i ≤ n then scO H sz ep n (.sub id ep n i.toNat n) H[id]? else none) else none := by
 simp only[Av,aLq,kE,bound,idx]
 by_cases h1:0≤i
 · rw[if_pos h1,if_pos h1,aLq,scR]
   by_cases h2:i≤n
   · rw[if_pos h2,if_pos (by omega),if_pos (by omega)]
   · rw[if_neg h2,if_neg (by omega)]
 · rw[if_neg h1,if_neg h1];rfl
@[go_sem] theorem Mq : Av H sz (some (.ref id ep n)) (some (some i)) (some (some j)) = if 0 ≤ i then (if i ≤ j then (if j ≤ n then scO H sz ep n (.sub id ep n i.toNat j.toNat) H[id]? else none) else none) else none := by
 simp only[Av,aLq,kE,bound,idx]
 by_cases h1:0≤i
 · rw[if_pos h1,if_pos h1,aLq]
   by_cases h0:i≤j
   · rw[if_pos h0,if_pos (by omega),aLq,scR,if_pos (by omega)]
     by_cases h2:j≤n
     · rw[if_pos h2,if_pos (by omega)]
     · rw[if_neg h2,if_neg (by omega)]
   · rw[if_neg h0]
     by_cases h2:0≤j
     · rw[if_pos h2,aLq,scR,if_neg (by omega)]
     · rw[if_neg h2];rfl
 · rw[if_neg h1,if_neg h1];rfl
@[go_sem] theorem Sg : Av H sz (some .nil) (some none) (some (some i)) = if i = 0 then some (.nil, H) else none := by
 simp only[Av,aLq,kE,bound,idx]
 by_cases h1:0≤i
 · rw[if_pos h1,aLq]
   by_cases h2:i=0
   · rw[if_pos h2,if_pos (by omega)];rfl
   · rw[if_neg h2,if_neg (by omega)];rfl
 · rw[if_neg h1,if_neg (by omega)];rfl
@[go_sem] theorem Si : Av H sz (some .nil) (some (some i)) (some none) = if i = 0 then some (.nil, H) else none := by
 simp only[Av,aLq,kE,bound,idx]
 by_cases h1:0≤i
 · rw[if_pos h1,aLq]
   by_cases h2:i=0
   · rw[if_pos h2,if_pos (by omega)];rfl
   · rw[if_neg h2,if_neg (by omega)];rfl
 · rw[if_neg h1,if_neg (by omega)];rfl
def Cz(x:D)(ys:List D):Option (D×ae):=if bA sz ys=true then(match x with
 | .nil=>if ys.length≤4294967296 then some (.ref H.length 0 ys.length,H++[.arr sz false 0 ys])else none
 | .ref id ep n=>tW H sz id ep n ys H[id]?
 | .cl es=>if 0<ys.length∧es.length+ys.length≤lim∧bA sz (es.map .t)=true then some (.ref H.length 0 (es.map D.t++ys).length,H++[.arr sz false 0 (es.map .t++ys)])else none
 | _=>none)else none
@[go_sem] theorem acV (ys : List D) : Cz H sz .nil ys = if bA sz ys = true then (if ys.length ≤ 4294967296 then some (.ref H.length 0 ys.length, H ++ [.arr sz false 0 ys]) else none) else none := (rfl)
@[go_sem] theorem acW (ys : List D) : Cz H sz (.ref id ep n) ys = if bA sz ys = true then tW H sz id ep n ys H[id]? else none := (rfl)
@[go_sem] theorem afP (es : List T) (ys : List D) : Cz H sz (.cl es) ys = if bA sz ys = true then (if 0 < ys.length ∧ es.length + ys.length ≤ 4294967296 ∧ bA sz (es.map .t) = true then some (.ref H.length 0 (es.map D.t ++ ys).length, H ++ [.arr sz false 0 (es.map .t ++ ys)]) else none) else none := (rfl)
@[go_sem] theorem OE : bA sz [] = true := (rfl)
@[go_sem] theorem Mr (d : D) (r : List D) : bA sz (d :: r) = kO sz d.cells := by
 rw[Bool.eq_iff_iff,eL];simp[bA]
def ZL(x:D):Option Obj→Option (D×ae)
 | some (.arr _ _ ep' es)=>if ep=ep'∧n=es.length then Cz H sz x ((es.drop lo).take (hi-lo))else none
 | _=>none
def ZM(x:D):Option Obj→Option (D×ae)
 | some (.arr _ _ ep' es)=>if ep=ep'∧n=es.length then Cz H sz x es else none
 | _=>none
@[go_sem] theorem acX (x : D) (sz' : Nat) (pin : Bool) (es : List D) : ZL H sz ep n lo hi x (some (.arr sz' pin ep es)) = if n = es.length then Cz H sz x ((es.drop lo).take (hi - lo)) else none := by simp [ZL]
@[go_sem] theorem acY (x : D) (sz' : Nat) (pin : Bool) (es : List D) : ZM H sz ep n x (some (.arr sz' pin ep es)) = if n = es.length then Cz H sz x es else none := by simp [ZM]
theorem IQ(x:D)(ys:List D):(if bA sz ys=true then(match x with
 | .nil=>if ys.length≤lim then some (D.ref H.length 0 ys.length,H++[.arr sz false 0 ys])else none
 | .ref id ep n=>(eJ H id ep n).bind fun a=>if a.1=sz∧n+ys.length≤lim then some (.ref id ep (n+ys.length),H.set id (.arr sz a.2.1 ep (a.2.2++ys)))else none
 | .cl es=>if 0<ys.length∧es.length+ys.length≤lim∧bA sz (es.map .t)=true then some (.ref H.length 0 (es.map D.t++ys).length,H++[.arr sz false 0 (es.map .t++ys)])else none
 | _=>none)else none)=Cz H sz x ys:=by
 unfold Cz
 split
 · cases x with
   | ref id ep n=>
     simp only[eJ]
     generalize H[id]?=o
     rcases o with _ | (_ | ⟨sz',pin,ep',es⟩)
     · rfl
     · rfl
     · simp only[tW]
       by_cases h1:ep=ep'∧n=es.length
       · rw[if_pos h1,aLq]
         by_cases h2:sz'=sz∧n+ys.length≤lim
         · rw[if_pos h2,if_pos ⟨h1.1,h1.2,h2⟩]
         · rw[if_neg h2,if_neg fun h=>h2 h.2.2]
       · rw[if_neg h1,if_neg fun h=>h1 ⟨h.1,h.2.1⟩];rfl
   | _=>rfl
 · rfl
theorem th(x y:D)(ys:List D)(h:elems H y=some ys):kP H sz false (some x) (some y)=Cz H sz x ys:=by
 simp only[kP,aLq,jw,h,aLt,if_false]
 exact IQ H sz x ys
@[go_sem] theorem KK (x : D) : kP H sz false (some x) (some .nil) = Cz H sz x [] := th H sz x .nil [] rfl
@[go_sem] theorem KL (x : D) : kP H sz false (some x) (some (.ref id ep n)) = ZM H sz ep n x H[id]? := by
 cases he:elems H (.ref id ep n)with
 | some ys=>
   rw[th H sz x _ ys he]
   simp only[elems,eJ]at he
   generalize H[id]?=o at he
   rcases o with _ | (_ | ⟨sz',pin,ep',es⟩)
   · cases he
   · cases he
   · simp only[ZM]
     by_cases h1:ep=ep'∧n=es.length
     · simp only[if_pos h1]at he ⊢;cases he;rfl
     · simp only[if_neg h1]at he;cases he
 | none=>
   have:kP H sz false (some x) (some (.ref id ep n))=none:=by simp only[kP,aLq,jw,he];rfl
   rw[this]
   simp only[elems,eJ]at he
   generalize H[id]?=o at he
   rcases o with _ | (_ | ⟨sz',pin,ep',es⟩)
   · rfl
   · rfl
   · simp only[ZM]
     by_cases h1:ep=ep'∧n=es.length
     · simp only[if_pos h1]at he;cases he
     · simp only[if_neg h1]
@[go_sem] theorem KM (x : D) : kP H sz false (some x) (some (.sub id ep n lo hi)) = ZL H sz ep n lo hi x H[id]? := by
 cases he:elems H (.sub id ep n lo hi)with
 | some ys=>
   rw[th H sz x _ ys he]
   simp only[elems,eJ]at he
   generalize H[id]?=o at he
   rcases o with _ | (_ | ⟨sz',pin,ep',es⟩)
   · cases he
   · cases he
   · simp only[ZL]
     by_cases h1:ep=ep'∧n=es.length
     · simp only[if_pos h1]at he ⊢;cases he;rfl
     · simp only[if_neg h1]at he;cases he
 | none=>
   have:kP H sz false (some x) (some (.sub id ep n lo hi))=none:=by simp only[kP,aLq,jw,he];rfl
   rw[this]
   simp only[elems,eJ]at he
   generalize H[id]?=o at he
   rcases o with _ | (_ | ⟨sz',pin,ep',es⟩)
   · rfl
   · rfl
   · simp only[ZL]
     by_cases h1:ep=ep'∧n=es.length
     · simp only[if_pos h1]at he;cases he
     · simp only[if_neg h1]
def V9(ep n lo hi:Nat):Option Obj→Option (List D)
 | some (.arr _ _ ep' es)=>if ep=ep'∧n=es.length then some ((es.drop lo).take (hi-lo))else none
 | _=>none
def acZ(x:D):Option (List D)→Option (D×ae)
 | some ys0=>(aW (fun d=>(frz H depth d).map .t) ys0).bind fun ys=>if bA sz ys then Cz (pins H (ys0.flatMap (dC H depth))) sz x ys else none
 | none=>none
@[go_sem] theorem ahf (x : D) (ts : List T) : acZ H sz x (some (ts.map .t)) = Cz H sz x (ts.map .t) := by
 simp only[acZ,rC,aLq,DR,pins]
 by_cases h:bA sz (ts.map D.t)=true
 · rw[if_pos h]
 · rw[if_neg h];unfold Cz;rw[if_neg h]
@[go_sem] theorem Ms (x : D) : kP H sz true (some x) (some (.sub id ep n lo hi)) = acZ H sz x (V9 ep n lo hi H[id]?) := by
 have e:elems H (.sub id ep n lo hi)=V9 ep n lo hi H[id]?:=by
  simp only[elems,eJ]
  generalize H[id]?=o
  rcases o with _ | (_ | ⟨sz',pin,ep',es⟩)
  · rfl
  · rfl
  · simp only[V9]
    by_cases h1:ep=ep'∧n=es.length
    · simp only[if_pos h1];rfl
    · simp only[if_neg h1];rfl
 simp only[kP,aLq,jw,e]
 cases V9 ep n lo hi H[id]? with
 | none=>rfl
 | some ys0=>
   simp only[aLq,acZ,if_true]
   cases hm:aW (fun d=>(frz H depth d).map D.t) ys0 with
   | none=>rfl
   | some ys=>
     simp only[aLq]
     refine(IQ _ _ _ _).trans ?_
     by_cases h:bA sz ys=true
     · rw[if_pos h]
     · rw[if_neg h];unfold Cz;rw[if_neg h]
@[go_sem] theorem ac0 (ep n lo hi sz : Nat) (pin : Bool) (ts : List T) : V9 ep n lo hi (some (.arr sz pin ep (ts.map .t))) = if n = ts.length then some (((ts.drop lo).take (hi - lo)).map .t) else none := by
 simp only[V9,true_and,List.length_map,List.map_take,List.map_drop]
def IS(ds:List D):Option (D×ae):=if ds.all (fun d=>d.cells.length==sz&&d.gB)then some (.ref H.length 0 ds.length,H++[.arr sz false 0 ds])else none
@[go_sem] theorem ahg (call : aD) (get : X → Option D) (xs : List X) : evO call get H (.bsr xs sz) = (aW get xs).bind (IS H sz) := (rfl)
@[go_sem] theorem ZN : IS H sz [] = some (.ref H.length 0 0, H ++ [.arr sz false 0 []]) := (rfl)
@[go_sem] theorem ZO (k : IntKind) (n : Int) : IS H 1 [.t (.int k n)] = some (.ref H.length 0 1, H ++ [.arr 1 false 0 [.t (.int k n)]]) := (rfl)
@[go_sem] theorem ZP (cs : List D) : IS H sz [.agg cs] = if kO sz cs = true then some (.ref H.length 0 1, H ++ [.arr sz false 0 [.agg cs]]) else none := by
 simp only[IS,List.all_cons,List.all_nil,Bool.and_true,D.cells,D.gB]
 by_cases h:kO sz cs=true
 · rw[if_pos h,if_pos (by simpa using eL.1 h)];rfl
 · rw[if_neg h,if_neg (by intro e;exact h (eL.2 (by simpa using e)))]
end
@[go_sem] theorem OF : (1 : Int).toNat = 1 := (rfl)
@[go_sem] theorem Sj : (2 : Int).toNat = 2 := (rfl)
@[go_sem] theorem Mt : (3 : Int).toNat = 3 := (rfl)
section
variable {H t : ae} {i j k : Nat} {o o' : Obj}
theorem ue(h:i<H.length):(H++t)[i]?=H[i]?:=aLg h
theorem F5(h:i<H.length):(H.set i o)[i]?=some o:=by simp[h]
theorem oq(h:i≠j):(H.set i o)[j]?=H[j]?:=aLi h
theorem yT(h:H[i]?=some o):i<H.length:=(aLe.1 h).1
end
end Go.Ev
namespace Go.Ev.N
def IT:Nat:=123
def G3:Nat:=124
def KN:Nat:=125
def IU:Nat:=126
def Sk:Nat:=127
def Sl:Nat:=128
def Sm:Nat:=129
def Wa:Nat:=130
def Wb:Nat:=131
def Sn:Nat:=132
def Sp:Nat:=133
def Mu:Nat:=134
def Mv:Nat:=135
def Wc:Nat:=136
def Sq:Nat:=137
def Mw:Nat:=138
def OH:Nat:=139
def KO:Nat:=140
def OI:Nat:=141
def Mx:Nat:=142
def IV:Nat:=143
def IW:Nat:=144
def IX:Nat:=145
def OJ:Nat:=146
def OK:Nat:=147
def F6:Nat:=148
end Go.Ev.N
namespace Go.Ev.N
def Eg:Nat:=149
def IY:Nat:=150
def IZ:Nat:=151
def G4:Nat:=152
def Sr:Nat:=153
def Ss:Nat:=154
def OL:Nat:=155
def OM:Nat:=156
def Su:Nat:=157
def Wd:Nat:=158
def Sv:Nat:=159
def aN:Nat:=160
def Eh:Nat:=161
def Sw:Nat:=162
def We:Nat:=163
def ON:Nat:=164
def Wf:Nat:=165
def OO:Nat:=166
def eE:Nat:=167
def pE:Nat:=168
def My:Nat:=169
def cK:Nat:=170
def F7:Nat:=171
def Mz:Nat:=172
def fO:Nat:=173
def qK:Nat:=174
def I0:Nat:=175
def b9:Nat:=176
def dW:Nat:=177
end Go.Ev.N
namespace Go.Ev.K
open Go.Ev
def cg:C:= (.seq (.ite [m v6,m v5,u (.ln l0),u (.bin .lss l2 l0)] [] 0 .skip (.exit 0)) (.blk 1 (.reg [m v6,m v5,m v6,u (.sc l1 (some l0) none 1),m v5,m v6,u (.sc l1 none (some l0) 1),u (.cp l3 l0 1),u (.bin .add l7 l0),x 6 l0] [])))
def iA:C:= .loop true [0,1,2,3,4] K.cg
def aN:Fn:= { bo:=2,vars:=[0,1,4,5,6,7,8],body:=(q [w 2 (.mv (.c (.nil)))] [] (.seq (.ite [m v1,u (.bin .lss l0 (.i 0))] [] 0 .fail .skip) (q [m v0,u (.ln l0),u (.cv .u64 l0),m v1,u (.cv .u64 l0),u (.ca N.cK 0 [] [.l 2,.l 0]),m l0,u (.ex l0 0),u (.ex l1 1),x 3 l1,x 4 l1] [] (.seq (.ite [m v3,u (.bin .gtr l0 (.c (.t (.int .u64 (0))))),m l0,e 0 false v4,y 1 false (.bin .gtr l0 (.c (.t (.int .u64 (9223372036854775807))))),u (.pk l2 (.b true) l0)] [] 0 .fail .skip) (q [m v4,u (.cv .i64 l0),u (.mk l0 (z0) 1),x 5 l0] [] (q [m v5,m v0,u (.cp l1 l0 1),x 6 l0] [] (.seq (.blk 0 K.iA) (q [m v5,x 2 l0] [] .ret)))))))),res:=[(2,none)]}
def eE:Fn:= { bo:=1,vars:=[0,1,2],body:=(q [w 1 (.bx v0 2),x 2 (.b false)] [] (q [h 2 v1,u (.ca N.fO 0 [] [.l 0]),u (.bin .eql l0 (.i 0)),x 2 l0] [] .ret)),res:=[(2,none)]}
def cK:Fn:= { bo:=2,vars:=[0,1,4,5,8,9],body:=(q [w 2 (.mv (.c (.t (.int .u64 (0))))),w 3 (.mv (.c (.t (.int .u64 (0)))))] [] (.seq (.cnd false .skip) (q [m v0,m v1,u (.ca N.b9 0 [] [.l 1,.l 0]),m l0,u (.ex l0 0),u (.ex l1 1),x 4 l1,x 5 l1] [] (q [m v4,m v5,x 2 l1,x 3 l1] [] .ret)))),res:=[(2,none),(3,none)]}
end Go.Ev.K
namespace Go.Ev
class cL [Lib]:Prop where
 fA:Lib.fs N.aN=some K.aN
 ou:Lib.fs N.eE=some K.eE
 ke:Lib.fs N.cK=some K.cK
namespace K
variable [Lib] [cL]
theorem fA:Lib.fs N.aN=some K.aN:=cL.fA
theorem ou:Lib.fs N.eE=some K.eE:=cL.ou
theorem ke:Lib.fs N.cK=some K.cK:=cL.ke
end K
end Go.Ev
namespace Go.Ev.K
open Go.Ev
def kW:C:= (.its [u (.bin .lss v8 v7)] [] 0 .skip (.exit 0) (.seq (.blk 1 (q [a 2 v6 v8,h 2 l0,w 3 (.al [z0,z1] []),u (.st l0 l1 2 [])] [] (.ite [f 0 v3,g l0,u (.bin .lss l0 (.i (-10000))),m l0,y 0 false (.fa v3 0),i 1 false l0,y 2 false (.bin .gtr l0 (.i 10000)),u (.pk l3 (.b true) l0)] [] 0 (q [x 2 (.i 1)] [] .ret) .skip))) (.reg [u (.bin .add v8 (.i 1)),x 8 l0] [])))
def rI:C:= .loop true [0,2,3,4,5,9,10,11] K.kW
def kX:C:= (.its [u (.bin .lss v11 v10)] [] 0 .skip (.exit 2) (.seq (.blk 3 (q [a 10 v9 v11,h 10 l0,w 5 (.al [z0,z0,z0,z0,z1,z1,z0,z0,z0,z0] []),u (.st l0 l1 10 [])] [] (.seq (.ite [f 0 v5,g l0,u (.bin .lss l0 (.i 0)),m l0,y 0 false (.fa v5 0),i 1 false l0,e 2 false v4,y 3 false (.bin .geq l1 l0),u (.pk l4 (.b true) l0),m l0,y 0 false (.fa v5 1),i 1 false l0,y 2 false (.bin .lss l0 (.i 0)),u (.pk l3 (.b true) l0),m l0,y 0 false (.fa v5 1),i 1 false l0,e 2 false v4,y 3 false (.bin .geq l1 l0),u (.pk l4 (.b true) l0),m l0,y 0 false (.fa v5 0),i 1 false l0,y 2 false (.fa v5 1),i 3 false l0,y 4 false (.bin .eql l2 l0),u (.pk l5 (.b true) l0)] [] 0 (q [x 2 (.i 4)] [] .ret) .skip) (.seq (.ite [f 2 v5,g l0,u (.bin .lss l0 (.i 1)),m l0,y 0 false (.fa v5 2),i 1 false l0,y 2 false (.bin .gtr l0 (.i 100000)),u (.pk l3 (.b true) l0),m l0,y 0 false (.fa v5 3),i 1 false l0,y 2 false (.bin .lss l0 (.i 1)),u (.pk l3 (.b true) l0),m l0,y 0 false (.fa v5 3),i 1 false l0,y 2 false (.bin .gtr l0 (.i 1000)),u (.pk l3 (.b true) l0)] [] 0 (q [x 2 (.i 1)] [] .ret) .skip) (.ite [f 6 v5,h 2 l0,u (.ca N.dW 0 [] [.l 0,.i 1,.i 262144]),u (.un .not l0),m l0,y 0 false (.fa v5 8),y 1 false (.ld l0 2 true),y 2 false (.ca N.dW 0 [] [.l 0,.i (-2199023255552),.i 2199023255552]),y 3 false (.un .not l0),u (.pk l4 (.b true) l0)] [] 0 (q [x 2 (.i 1)] [] .ret) .skip))))) (.reg [u (.bin .add v11 (.i 1)),x 11 l0] [])))
def rJ:C:= .loop true [0,1,2,3,5,6,7,8] K.kX
def fO:Fn:= { bo:=1,vars:=[0,1,2,4,5,7,19,20,21,38,39,40],body:=(q [w 1 (.bx v0 2),x 2 (.i 0)] [] (.seq (.ite [f 0 v1,g l0,u (.ln l0),u (.bin .gtr l0 (.i 64)),m l0,y 0 false (.fa v1 1),i 1 false l0,y 2 false (.ln l0),y 3 false (.bin .gtr l0 (.i 128)),u (.pk l4 (.b true) l0)] [] 0 (q [x 2 (.i 2)] [] .ret) .skip) (.seq (q [f 0 v1,w 6 (.ld l0 1 false),w 7 (.ln l0),x 8 (.i 0)] [] (.blk 0 K.rI)) (q [f 0 v1,g l0,u (.ln l0),x 4 l0] [] (.seq (q [f 1 v1,w 9 (.ld l0 1 false),w 10 (.ln l0),x 11 (.i 0)] [] (.blk 2 K.rJ)) (q [x 2 (.i 0)] [] .ret)))))),res:=[(2,none)]}
def b9:Fn:= { bo:=2,vars:=[0,1,4,5,6,7,8,9,10,11,12,13],body:=(q [w 2 (.mv (.c (.t (.int .u64 (0))))),w 3 (.mv (.c (.t (.int .u64 (0)))))] [] (q [m v0,u (.bin .and l0 (.c (.t (.int .u64 (4294967295))))),x 4 l0] [] (q [m v0,u (.bin .shr l0 (.c (.t (.int .u64 (32))))),x 5 l0] [] (q [m v1,u (.bin .and l0 (.c (.t (.int .u64 (4294967295))))),x 6 l0] [] (q [m v1,u (.bin .shr l0 (.c (.t (.int .u64 (32))))),x 7 l0] [] (q [m v4,m v6,u (.bin .mul l1 l0),x 8 l0] [] (q [m v5,m v6,u (.bin .mul l1 l0),m v8,u (.bin .shr l0 (.c (.t (.int .u64 (32))))),u (.bin .add l2 l0),x 9 l0] [] (q [m v9,u (.bin .and l0 (.c (.t (.int .u64 (4294967295))))),x 10 l0] [] (q [m v9,u (.bin .shr l0 (.c (.t (.int .u64 (32))))),x 11 l0] [] (q [m v10,m v4,m v7,u (.bin .mul l1 l0),u (.bin .add l3 l0),x 10 l0] [] (q [m v5,m v7,u (.bin .mul l1 l0),m v11,u (.bin .add l1 l0),m v10,u (.bin .shr l0 (.c (.t (.int .u64 (32))))),u (.bin .add l2 l0),x 2 l0] [] (q [m v0,m v1,u (.bin .mul l1 l0),x 3 l0] [] .ret)))))))))))),res:=[(2,none),(3,none)]}
def dW:Fn:= { bo:=3,vars:=[0,1,2,3,6],body:=(q [w 3 (.bx v0 2),x 4 (.b false)] [] (q [m v1,f 0 v3,g l0,u (.bin .leq l2 l0),m l0,y 0 true (.fa v3 0),i 1 true l0,y 2 true (.fa v3 1),i 3 true l0,y 4 true (.bin .leq l2 l0),u (.pk l5 l0 (.b false)),m l0,y 0 true (.fa v3 1),i 1 true l0,e 2 true v2,y 3 true (.bin .leq l1 l0),u (.pk l4 l0 (.b false)),x 4 l0] [] .ret)),res:=[(4,none)]}
end Go.Ev.K
namespace Go.Ev
class cM [Lib]:Prop where
 ov:Lib.fs N.fO=some K.fO
 je:Lib.fs N.b9=some K.b9
 mM:Lib.fs N.dW=some K.dW
namespace K
variable [Lib] [cM]
theorem ov:Lib.fs N.fO=some K.fO:=cM.ov
theorem je:Lib.fs N.b9=some K.b9:=cM.je
theorem mM:Lib.fs N.dW=some K.dW:=cM.mM
end K
end Go.Ev
namespace Go.Ev
open Go
variable [Lib] [aZ] [bc] [cL] [cM]
section
variable (H : ae) (sz : Nat)
def OP(id ep n lo hi:Nat)(ys:List D):Option Obj→Option (D×ae)
 | some (.arr sz' pin ep' es)=>if ep=ep'∧n=es.length then PA H id ep (sz',pin,es) lo hi ys sz else none
 | _=>none
def cpD(x:D)(ys:List D):Option (D×ae):=if bA sz ys=true then(match x with
 | .ref id ep n=>OP H sz id ep n 0 n ys H[id]?
 | .sub id ep n lo hi=>OP H sz id ep n lo hi ys H[id]?
 | _=>none)else none
def ac1(x y:Option D):Option (D×ae):=x.bind fun a=>y.bind fun b=>yk H a b sz
@[go_sem] theorem aie (call : aD) (get : X → Option D) (x y : X) : evO call get H (.cp x y sz) = ac1 H sz (get x) (get y) := (rfl)
theorem Ei(x y:D)(ys:List D)(h:elems H y=some ys):yk H x y sz=cpD H sz x ys:=by
 unfold yk cpD
 rw[h,aLq]
 split
 · rename_i hh
   cases x with
   | ref id ep n=>
     simp only[eJ,OP]
     cases H[id]? with
     | none=>rfl
     | some o=>
       cases o with
       | box cs=>rfl
       | arr sz' pin ep' es=>
         simp only
         by_cases c:ep=ep'∧n=es.length
         · rw[if_pos c,if_pos c];rfl
         · rw[if_neg c,if_neg c];rfl
   | sub id ep n lo hi=>
     simp only[eJ,OP]
     cases H[id]? with
     | none=>rfl
     | some o=>
       cases o with
       | box cs=>rfl
       | arr sz' pin ep' es=>
         simp only
         by_cases c:ep=ep'∧n=es.length
         · rw[if_pos c,if_pos c];rfl
         · rw[if_neg c,if_neg c];rfl
   | _=>rfl
 · rfl
@[go_sem] theorem ahh (x : D) (ts : List T) : ac1 H sz (some x) (some (.t (.sl ts))) = cpD H sz x (ts.map .t) := Ei H sz x (.t (.sl ts)) (ts.map .t) rfl
def cpE(x:D)(ep n lo hi:Nat):Option Obj→Option (D×ae)
 | some (.arr _ _ ep' es)=>if ep=ep'∧n=es.length then cpD H sz x ((es.drop lo).take (hi-lo))else none
 | _=>none
@[go_sem] theorem afQ (x : D) (n lo hi sz' : Nat) (pin : Bool) (ep : Nat) (es : List D) : cpE H sz x ep n lo hi (some (.arr sz' pin ep es)) = if n = es.length then cpD H sz x ((es.drop lo).take (hi - lo)) else none := by simp [cpE]
@[go_sem] theorem ac2 (x : D) (id ep n lo hi : Nat) : ac1 H sz (some x) (some (.sub id ep n lo hi)) = cpE H sz x ep n lo hi H[id]? := by
 unfold ac1
 simp only[aLq]
 cases h:H[id]? with
 | none=>simp[yk,elems,eJ,h,cpE]
 | some o=>
   cases o with
   | box cs=>simp[yk,elems,eJ,h,cpE]
   | arr sz' pin ep' es=>
     by_cases c:ep=ep'∧n=es.length
     · rw[Ei H sz x _ ((es.drop lo).take (hi-lo)) (by simp[elems,eJ,h,c])]
       simp only[cpE,if_pos c]
     · simp[yk,elems,eJ,h,cpE,c]
@[go_sem] theorem afR (id ep n : Nat) (ys : List D) : cpD H sz (.ref id ep n) ys = if bA sz ys = true then OP H sz id ep n 0 n ys H[id]? else none := (rfl)
@[go_sem] theorem afS (id ep n lo hi : Nat) (ys : List D) : cpD H sz (.sub id ep n lo hi) ys = if bA sz ys = true then OP H sz id ep n lo hi ys H[id]? else none := (rfl)
@[go_sem] theorem ac3 (id n lo hi : Nat) (ys : List D) (ep : Nat) (es : List D) : OP H sz id ep n lo hi ys (some (.arr sz false ep es)) =
 if n=es.length then(if min ys.length (hi-lo)=0 then some (.t (.int .i64 0),H)else some (.t (.int .i64 ((min ys.length (hi-lo):Nat):Int)),H.set id (.arr sz false ep (es.take lo++ys.take (min ys.length (hi-lo))++es.drop (lo+min ys.length (hi-lo))))))else none:=by
 simp[OP,PA]
end
theorem MA{n:Int}(h1:0≤n)(h2:n<18446744073709551616):IntKind.u64.wrap n=n:=by
 have e:IntKind.u64.wrap n=n % 18446744073709551616:=by simp[IntKind.wrap,IntKind.signed,IntKind.bits]
 rw[e];omega
theorem ZQ{n:Nat}(h:n<4294967296):IntKind.u64.wrap ((BitVec.ofInt IntKind.u64.bits (n:Int) &&& BitVec.ofInt IntKind.u64.bits 4294967295).toNat:Nat)=(n:Int):=by
 have e:(BitVec.ofInt IntKind.u64.bits (n:Int) &&& BitVec.ofInt IntKind.u64.bits 4294967295).toNat=n:=by
  rw[BitVec.toNat_and]
  have a:(BitVec.ofInt IntKind.u64.bits (n:Int)).toNat=n:=by
   rw[BitVec.ofInt_natCast,BitVec.toNat_ofNat]
   exact Nat.mod_eq_of_lt (Nat.lt_of_lt_of_le h (by decide))
  have b:(BitVec.ofInt IntKind.u64.bits 4294967295).toNat=2 ^ 32-1:=by decide
  rw[a,b,Nat.and_two_pow_sub_one_eq_mod]
  exact Nat.mod_eq_of_lt h
 rw[e]
 exact MA (by omega) (by omega)
theorem ZR{n:Nat}(h:n<4294967296):(n:Int).fdiv (2 ^ min (32:Int).toNat IntKind.u64.bits)=0:=by
 have e:(2 ^ min (32:Int).toNat IntKind.u64.bits:Int)=4294967296:=by decide
 rw[e,Int.fdiv_eq_ediv_of_nonneg _ (by omega)]
 omega
theorem OQ{n:Nat}(h:n<4294967296):(((BitVec.ofInt IntKind.u64.bits (n:Int) &&& BitVec.ofInt IntKind.u64.bits 4294967295).toNat:Nat):Int)=(n:Int):=by
 have e:=ZQ h
 rwa [MA (by omega) (by
  have:(BitVec.ofInt IntKind.u64.bits (n:Int) &&& BitVec.ofInt IntKind.u64.bits 4294967295).toNat<2 ^ IntKind.u64.bits:=BitVec.isLt _
  have:2 ^ IntKind.u64.bits=18446744073709551616:=by decide
  omega)]at e
theorem MB(a b:Nat)(ha:a<4294967296)(hb:b<4294967296)(h:a*b<4294967296):aG 0 N.b9 [.t (.int .u64 a),.t (.int .u64 b)] []=some (.tup [.t (.int .u64 0),.t (.int .u64 ((a*b:Nat):Int))],[]):=by
 refine ay K.je rfl ?_
 have m:(a:Int)*(b:Int)=((a*b:Nat):Int):=(Int.natCast_mul a b).symm
 have z:=ZQ (n:=0) (by omega)
 have z2:=ZR (n:=0) (by omega)
 have z3:=OQ (n:=0) (by omega)
 have g3:=fun(n:Nat) (h:n<4294967296)=>OQ (n:=n) h
 have g4:=fun(n:Nat) (h:n<4294967296)=>ZR (n:=n) h
 simp only[Int.ofNat_zero,Int.natCast_zero]at z z2 z3
 simp only[go_sem]at z2 z3 g3 g4
 simp(disch:=omega)only[go_sem,K.b9,↓reduceIte,g3,g4,m,z2,z3,MA,Int.zero_mul,Int.mul_zero,Int.add_zero,Int.zero_add,reduceAdd,reduceSub]
theorem ZS(a b:Nat)(ha:a<4294967296)(hb:b<4294967296)(h:a*b<4294967296):aG 0 N.cK [.t (.int .u64 a),.t (.int .u64 b)] []=some (.tup [.t (.int .u64 0),.t (.int .u64 ((a*b:Nat):Int))],[]):=by
 refine ay K.ke rfl ?_
 have m:=MB a b ha hb h
 simp(disch:=omega)only[go_sem,K.cK,↓reduceIte,m,reduceAdd,reduceSub]
def uY(v:Int)(n cur:Nat):List D:=List.replicate cur (I v)++List.replicate (n-cur) (I 0)
theorem Ej(v:Int){n cur:Nat}(h:cur≤n):(uY v n cur).length=n:=by simp[uY];omega
theorem I3(v:Int){n cur m:Nat}(h:cur+m≤n)(hm:m≤cur):(uY v n cur).take cur++((uY v n cur).take cur).take m++(uY v n cur).drop (cur+m)=uY v n (cur+m):=by
 unfold uY
 have e1:(List.replicate cur (I v)++List.replicate (n-cur) (I 0)).take cur=List.replicate cur (I v):=by
  rw[List.take_append_of_le_length (by simp),List.take_of_length_le (by simp)]
 have e2:(List.replicate cur (I v)++List.replicate (n-cur) (I 0)).drop (cur+m)=List.replicate (n-(cur+m)) (I 0):=by
  rw[List.drop_append,List.length_replicate]
  simp;omega
 rw[e1,e2,List.take_replicate,Nat.min_eq_left hm,List.replicate_append_replicate]
theorem ZT(v:Int)(n cur:Nat):∃ts:List T,uY v n cur=ts.map .t:=⟨List.replicate cur (tI v)++List.replicate (n-cur) (tI 0),by simp[uY]⟩
theorem AR(v:Int)(n cur:Nat)(lo k:Nat):bA 1 (((uY v n cur).drop lo).take k)=true:=by
 cases h:((uY v n cur).drop lo).take k with
 | nil=>rfl
 | cons d r=>
   have hm:d∈uY v n cur:=List.mem_of_mem_drop (List.mem_of_mem_take (h▸List.mem_cons_self))
   unfold uY at hm
   simp only[List.mem_append,List.mem_replicate]at hm
   rcases hm with⟨-,rfl⟩ | ⟨-,rfl⟩<;>rfl
theorem CA(v:Int)(n:Nat)(hn:n≤1000000):∀(k cur:Nat),n-cur≤k→1≤cur→cur≤n→
 jy true [0,1,2,3,4] (exS aG K.cg) ⟨[.und,.und,.und,.und,.und,.ref 0 0 n,I cur],[.arr 1 false 0 (uY v n cur)]⟩=
  some (.exit 0,⟨[.und,.und,.und,.und,.und,.ref 0 0 n,I n],[.arr 1 false 0 (uY v n n)]⟩):=by
 intro k
 induction k with
 | zero=>
   intro cur h1 h2 h3
   have:cur=n:=by omega
   subst this
   refine c7 ?_ (by simp)
   have rl:=Ej v (aLs cur)
   simp(disch:=omega)only[go_sem,K.cg,↓reduceIte,reduceAdd,reduceSub]
 | succ k ih=>
   intro cur h1 h2 h3
   by_cases c:cur=n
   · subst c
     refine c7 ?_ (by simp)
     simp(disch:=omega)only[go_sem,K.cg,↓reduceIte,reduceAdd,reduceSub]
   · have rl:=Ej v (n:=n) (cur:=cur) (by omega)
     have st:=I3 v (n:=n) (cur:=cur) (m:=min cur (n-cur)) (by omega) (by omega)
     have hs:=AR v n cur 0 cur
     rw[List.drop_zero]at hs
     have tl:((uY v n cur).take cur).length=cur:=by rw[List.length_take];omega
     refine gK (st2:=⟨[.und,.und,.und,.und,.und,.ref 0 0 n,I ((cur+min cur (n-cur):Nat):Int)],[.arr 1 false 0 (uY v n (cur+min cur (n-cur)))]⟩) ?_ (ih _ (by omega) (by omega) (by omega))
     rw[← st]
     obtain⟨ts,hts⟩:=ZT v n cur
     have ao:∀a b c:Nat,ew 1 8 ((uY v n cur).take a)=true∧ew 1 8 (((uY v n cur).take a).take b)=true∧ew 1 8 ((uY v n cur).drop c)=true:=fun a b c=>by
      rw[hts,←List.map_take,←List.map_take,←List.map_drop]
      simp only[go_sem,and_self]
     have ao1:=fun a=>(ao a 0 0).1
     have ao2:=fun a b=>(ao a b 0).2.1
     have ao3:=fun c=>(ao 0 0 c).2.2
     clear ao hts
     generalize uY v n cur=es at*
     simp(disch:=omega)only[go_sem,K.cg,↓reduceIte,rl,hs,tl,ao1,ao2,ao3,and_self,List.drop_zero,Nat.sub_zero,reduceAdd,reduceSub]
theorem I4(v:Int)(n:Nat)(h1:1≤n)(hn:n≤1000000):aG 1 N.aN [.t (tL [v]),I n] []=some (.ref 0 0 n,[.arr 1 false 0 (List.replicate n (I v))]):=by
 refine ay K.fA rfl ?_
 have m:=ZS 1 n (by omega) (by omega) (by omega)
 rw[Nat.one_mul]at m
 change aG 0 N.cK [.t (.int .u64 1),.t (.int .u64 n)] []=_ at m
 have w1:IntKind.u64.wrap 1=1:=by decide
 have w2:IntKind.u64.wrap (n:Int)=n:=MA (by omega) (by omega)
 have w3:IntKind.i64.wrap (n:Int)=n:=bU (by omega) (by omega)
 have lp:=CA v n hn n 1 (by omega) (by omega) h1
 have loop:∀z0 z1 z2 z3 z4:D,exS aG K.iA ⟨[z0,z1,z2,z3,z4,.ref 0 0 n,I 1],[.arr 1 false 0 (I v::List.replicate (n-1) (I 0))]⟩=some (.exit 0,⟨[.und,.und,.und,.und,.und,.ref 0 0 n,I n],[.arr 1 false 0 (List.replicate n (I v))]⟩):=by
  intro z0 z1 z2 z3 z4
  have e1:uY v n 1=I v::List.replicate (n-1) (I 0):=rfl
  have e2:uY v n n=List.replicate n (I v):=by simp[uY]
  rw[e1,e2]at lp
  exact lp
 have dr:(List.replicate n (D.t (.int .i64 0))).drop 1=List.replicate (n-1) (I 0):=List.drop_replicate ..
 have mn:min 1 n=1:=by omega
 have ar:∀H:ae,nD H 8 (List.replicate n (I v))=[]:=fun H=>by
  have e:List.replicate n (I v)=(List.replicate n (tI v)).map D.t:=by simp
  rw[e]
  unfold nD
  exact DR ..
 simp(disch:=omega)only[go_sem,K.aN,↓reduceIte,tL,List.map_cons,List.map_nil,m,w1,w2,w3,loop,dr,mn,ar,List.length_replicate,Nat.sub_zero,List.take_zero,List.nil_append,List.take_succ_cons,Nat.zero_add,reduceAdd,reduceSub]
end Go.Ev
namespace Go.Ev
open Go
variable [Lib] [aZ] [bc] [cL] [cM]
theorem AS(a b lo hi:Int)(h1:lo≤a)(h2:a≤b)(h3:b≤hi):aG 0 N.dW [.t (.agg [tI a,tI b]),I lo,I hi] []=some (B true,[]):=by
 refine ay K.mM rfl ?_
 simp(disch:=omega)only[go_sem,K.dW,↓reduceIte,reduceAdd,reduceSub]
theorem AT{m:aK}(h:m.ok):aG 0 N.fO [.t m.e] []=some (I 0,[]):=by
 refine ay K.ov rfl ?_
 have np:=h.np
 have nr:=h.nr
 have hs:=h.hs
 have rs:=h.rs
 obtain⟨aa,roads⟩:=m
 simp only at np nr hs rs
 have l1:∀z0 z2 z3 z4 z5 z9 z10 z11:D,exS aG K.rI ⟨[z0,.bp 0 0,z2,z3,z4,z5,.t (.sl (aa.map Place.e)),I aa.length,I 0,z9,z10,z11],[.box (ab ⟨aa,roads⟩)]⟩=
  some (.exit 0,⟨[.und,.bp 0 0,.und,.und,.und,.und,.t (.sl (aa.map Place.e)),I aa.length,I aa.length,.und,.und,.und],[.box (ab ⟨aa,roads⟩)]⟩):=by
  intro z0 z2 z3 z4 z5 z9 z10 z11
  refine bV (fun j=>⟨[.und,.bp 0 0,.und,.und,.und,.und,.t (.sl (aa.map Place.e)),I aa.length,I j,.und,.und,.und],[.box (ab ⟨aa,roads⟩)]⟩) aa.length rfl ?_ ?_ (by simp)
  · intro j hj
    have g:(aa.map Place.e)[j]?=some (nth aa j).e:=bz _ hj
    have q:=hs _ (aI hj)
    generalize nth aa j=x at*
    obtain⟨hh,sf⟩:=x
    simp only[ab]at*
    simp(disch:=omega)only[go_sem,K.kW,↓reduceIte,g,reduceAdd,reduceSub]
  · simp(disch:=omega)only[go_sem,K.kW,↓reduceIte,ab,reduceAdd,reduceSub]
 have l2:∀z0 z1 z2 z3 z5 z6 z7 z8:D,exS aG K.rJ ⟨[z0,z1,z2,z3,I aa.length,z5,z6,z7,z8,.t (.sl (roads.map Road.e)),I roads.length,I 0],[.box (ab ⟨aa,roads⟩)]⟩=
  some (.exit 2,⟨[.und,.und,.und,.und,I aa.length,.und,.und,.und,.und,.t (.sl (roads.map Road.e)),I roads.length,I roads.length],[.box (ab ⟨aa,roads⟩)]⟩):=by
  intro z0 z1 z2 z3 z5 z6 z7 z8
  refine bV (fun j=>⟨[.und,.und,.und,.und,I aa.length,.und,.und,.und,.und,.t (.sl (roads.map Road.e)),I roads.length,I j],[.box (ab ⟨aa,roads⟩)]⟩) roads.length rfl ?_ ?_ (by simp)
  · intro j hj
    have g:(roads.map Road.e)[j]?=some (nth roads j).e:=bz _ hj
    have q:=rs _ (aI hj)
    generalize nth roads j=x at*
    have f0:=q.f0;have f1:=q.f1;have t0:=q.t0;have t1:=q.t1;have ne:=q.ne;have l0:=q.l0;have l1:=q.l1;have a0:=q.a0;have a1:=q.a1
    have r0:=q.r0;have r1:=q.r1;have r2:=q.r2;have i0:=q.i0;have i1:=q.i1;have i2:=q.i2
    clear q
    obtain⟨frm,to,len,area,walk,closed,rl,rh,ll,lh⟩:=x
    simp only[ab]at*
    have s1:=AS rl rh 1 262144 r0 r1 r2
    have s2:=AS ll lh (-2199023255552) 2199023255552 i0 i1 i2
    simp(disch:=omega)only[go_sem,K.kX,↓reduceIte,g,s1,s2,reduceAdd,reduceSub]
  · simp(disch:=omega)only[go_sem,K.kX,↓reduceIte,ab,reduceAdd,reduceSub]
 simp only[ab]at l1 l2
 simp(disch:=omega)only[go_sem,K.fO,↓reduceIte,l1,l2,reduceAdd,reduceSub]
theorem ow{m:aK}(h:m.ok):aG 0 N.eE [.t m.e] []=some (B true,[]):=by
 refine ay K.ou rfl ?_
 have c:=AT h
 obtain⟨aa,roads⟩:=m
 simp(disch:=omega)only[go_sem,K.eE,↓reduceIte,c,reduceAdd,reduceSub]
end Go.Ev
namespace Go.Ev.N
def F8:Nat:=178
def F9:Nat:=179
def G5:Nat:=180
def Ga:Nat:=181
def G6:Nat:=182
def I5:Nat:=183
def G7:Nat:=184
def Sx:Nat:=185
def OR:Nat:=186
def Sy:Nat:=187
def I6:Nat:=188
def Sz:Nat:=189
def OS:Nat:=190
def OT:Nat:=191
def Wg:Nat:=192
def MC:Nat:=193
def OU:Nat:=194
def SA:Nat:=195
def Wi:Nat:=196
def ZU:Nat:=197
def KP:Nat:=198
def KQ:Nat:=199
def Wj:Nat:=200
def MD:Nat:=201
def BI:Nat:=202
def OV:Nat:=203
def aQ:Nat:=204
def I7:Nat:=205
def SB:Nat:=206
def OW:Nat:=207
def I8:Nat:=208
def G8:Nat:=209
def I9:Nat:=210
def ZV:Nat:=211
def ZW:Nat:=212
def dt:Nat:=213
def Wk:Nat:=214
end Go.Ev.N
namespace Go.Ev.K
open Go.Ev
end Go.Ev.K
namespace Go.Ev
class dG [Lib]:Prop where
namespace K
variable [Lib] [dG]
end K
end Go.Ev
namespace Go.Ev.K
open Go.Ev
def aQ:Fn:= { bo:=1,vars:=[0,2],body:=(q [w 1 (.mv (.c (.nil)))] [] (.itk [m v0,u (.eqk (.sl) false l0 (.c (.nil)))] [] 0 (q [w 1 (.nw 1)] [] .ret) .skip (q [u (.bsr [] 1),m v0,u (.app l1 l0 false 1),x 1 l0] [] .ret))),res:=[(1,none)]}
def dt:Fn:= { bo:=4,vars:=[0,1,2,3,4,7,8,9,10,11],body:=(q [w 4 (.bx v0 2),w 5 (.bx v3 3),x 6 (.i 0)] [] (q [f 1 v4,g l0,m v1,a 10 l1 l0,h 10 l0,w 7 (.al [z0,z0,z0,z0,z1,z1,z0,z0,z0,z0] []),u (.st l0 l1 10 [])] [] (.seq (.ite [f 5 v7,g l0,m l0,y 0 false (.fa v7 4),i 1 false l0,y 2 false (.un .not l0),u (.pk l3 (.b true) l0)] [] 0 (q [w 6 (.mv (.i (-1)))] [] .ret) .skip) (q [f 0 v4,g l0,f 1 v7,g l0,a 2 l2 l0,f 0 l0,g l0,f 0 v4,g l0,f 0 v7,g l0,a 2 l2 l0,f 0 l0,g l0,u (.bin .sub l7 l0),x 8 l0] [] (.seq (.ite [m v2] [] 0 (.reg [m v8,u (.un .neg l0),x 8 l0] []) .skip) (q [f 2 v5,g l0,x 9 l0] [] (.seq (.blk 0 (.ite [m v8,u (.bin .mul (.i 10) l0),f 2 v7,g l0,u (.bin .gtr l2 l0),m l0] [] 0 (.reg [f 0 v5,g l0,x 9 l0] []) (.ite [m v8,u (.bin .mul (.i (-10)) l0),f 2 v7,g l0,u (.bin .gtr l2 l0),m l0] [] 0 (.reg [f 1 v5,g l0,x 9 l0] []) .skip))) (q [f 2 v7,g l0,u (.bin .mul (.i 10) l0),m v9,u (.bin .add l1 l0),u (.bin .sub l0 (.i 1)),m v9,u (.bin .quo l1 l0),x 6 l0] [] .ret)))))))),res:=[(6,none)]}
end Go.Ev.K
namespace Go.Ev
class dE [Lib]:Prop where
 fZ:Lib.fs N.aQ=some K.aQ
 qu:Lib.fs N.dt=some K.dt
namespace K
variable [Lib] [dE]
theorem fZ:Lib.fs N.aQ=some K.aQ:=dE.fZ
theorem qu:Lib.fs N.dt=some K.dt:=dE.qu
end K
end Go.Ev
namespace Go.Ev
open Go
variable [Lib] [aZ] [bc] [cL] [cM] [dG] [dE]
abbrev fB(l:List Int):Obj:= .arr 1 false 0 ((l.map (T.int .i64)).map .t)
theorem Ja(l:List Int)(hl:l.length≤1000000):aG 1 N.aQ [.t (tL l)] []=some (.ref 0 0 l.length,[fB l]):=by
 refine ay K.fZ rfl ?_
 by_cases h0:l=[]
 · subst h0
   simp only[tL,List.map_nil]
   simp(disch:=omega)only[go_sem,K.aQ,↓reduceIte,List.map_nil,List.length_nil,reduceAdd,reduceSub]
   rfl
 · have e:=fun H=>LO H (l.map (T.int .i64)) (by simpa using h0)
   simp(disch:=omega)only[go_sem,K.aQ,↓reduceIte,e,reduceAdd,reduceSub]
theorem SC{m:aK}(h:m.ok)(k:Nat)(hk:k<m.roads.length)(back:Bool)(up down level:Int)(hu:1≤up)(hu2:up≤100)(hd:1≤down)(hd2:down≤100)(hl:1≤level)(hl2:level≤100):
 aG 0 N.dt [.t m.e,I k,B back,.t (.agg [tI up,tI down,tI level])] []=some (I (wq m k back up down level),[]):=by
 refine ay K.qu rfl ?_
 have nr:=h.nr
 have np:=h.np
 obtain⟨f0,f1,t0,t1, -,l0,l1, -, -, -, -, -, -, -, -⟩:=h.rs _ (aI hk)
 have b1:=h.hs _ (aI (l:=m.aa) (j:=(nth m.roads k).frm.toNat) (by omega))
 have b2:=h.hs _ (aI (l:=m.aa) (j:=(nth m.roads k).to.toNat) (by omega))
 have g:(m.roads.map Road.e)[k]?=some (nth m.roads k).e:=bz _ hk
 have p1:(m.aa.map Place.e)[(nth m.roads k).frm.toNat]?=some (nth m.aa (nth m.roads k).frm.toNat).e:=bz _ (by omega)
 have p2:(m.aa.map Place.e)[(nth m.roads k).to.toNat]?=some (nth m.aa (nth m.roads k).to.toNat).e:=bz _ (by omega)
 have key:∀h1 h2:Int, -10000≤h1→h1≤10000→ -10000≤h2→h2≤10000→IntKind.i64.wrap (h1-h2)=h1-h2∧IntKind.i64.wrap (-(h1-h2))=h2-h1:=fun h1 h2 _ _ _ _=>⟨bU (by omega) (by omega),by rw[bU (by omega) (by omega)];omega⟩
 unfold wq
 generalize nth m.roads k=x at*
 obtain⟨frm,to,len,area,walk,closed,rl,rh,ll,lh⟩:=x
 simp only at f0 f1 t0 t1 l0 l1 b1 b2 p1 p2 ⊢
 cases closed with
 | true=>
   obtain⟨aa,roads⟩:=m
   simp(disch:=omega)only[go_sem,K.dt,↓reduceIte,g,reduceAdd,reduceSub]
 | false=>
   cases walk with
   | false=>
     obtain⟨aa,roads⟩:=m
     simp(disch:=omega)only[go_sem,K.dt,↓reduceIte,g,reduceAdd,reduceSub]
   | true=>
     have g1:=s9 (a:=10*len+up-1) (b:=up) (by omega) hu
     have g2:=s9 (a:=10*len+down-1) (b:=down) (by omega) hd
     have g3:=s9 (a:=10*len+level-1) (b:=level) (by omega) hl
     cases back with
     | true=>
       simp only[↓reduceIte]
       generalize nth m.aa frm.toNat=q1 at*
       generalize nth m.aa to.toNat=q2 at*
       obtain⟨h1,s1⟩:=q1
       obtain⟨h2,s2⟩:=q2
       obtain⟨aa,roads⟩:=m
       simp only at*
       obtain⟨w2,w3⟩:=key h2 h1 (by omega) (by omega) (by omega) (by omega)
       by_cases c2:len< -10*(h1-h2)
       · simp(disch:=omega)only[go_sem,K.dt,↓reduceIte,g,p1,p2,w2,w3,gt_iff_lt,Int.zero_sub,reduceAdd,reduceSub]
       · by_cases c1:len<10*(h1-h2)
         · simp(disch:=omega)only[go_sem,K.dt,↓reduceIte,g,p1,p2,w2,w3,gt_iff_lt,Int.zero_sub,reduceAdd,reduceSub]
         · simp(disch:=omega)only[go_sem,K.dt,↓reduceIte,g,p1,p2,w2,w3,gt_iff_lt,Int.zero_sub,reduceAdd,reduceSub]
     | false=>
       simp only[aLt,↓reduceIte]
       generalize nth m.aa frm.toNat=q1 at*
       generalize nth m.aa to.toNat=q2 at*
       obtain⟨h1,s1⟩:=q1
       obtain⟨h2,s2⟩:=q2
       obtain⟨aa,roads⟩:=m
       simp only at*
       obtain⟨w2,w3⟩:=key h2 h1 (by omega) (by omega) (by omega) (by omega)
       by_cases c2:len< -10*(h2-h1)
       · simp(disch:=omega)only[go_sem,K.dt,↓reduceIte,g,p1,p2,w2,gt_iff_lt,reduceAdd,reduceSub]
       · by_cases c1:len<10*(h2-h1)
         · simp(disch:=omega)only[go_sem,K.dt,↓reduceIte,g,p1,p2,w2,gt_iff_lt,reduceAdd,reduceSub]
         · simp(disch:=omega)only[go_sem,K.dt,↓reduceIte,g,p1,p2,w2,gt_iff_lt,reduceAdd,reduceSub]
end Go.Ev
namespace Go.Ev.K
open Go.Ev
end Go.Ev.K
namespace Go.Ev
class eC [Lib]:Prop where
namespace K
variable [Lib] [eC]
end K
end Go.Ev
namespace Go.Ev.N
def KR:Nat:=215
def KS:Nat:=216
def KT:Nat:=217
def SD:Nat:=218
def SE:Nat:=219
def SF:Nat:=220
def Wl:Nat:=221
def Wm:Nat:=222
def Wn:Nat:=223
def ZX:Nat:=224
def SG:Nat:=225
def SI:Nat:=226
def SJ:Nat:=227
def ZY:Nat:=228
def SK:Nat:=229
def SL:Nat:=230
def Wo:Nat:=231
def OX:Nat:=232
def Wp:Nat:=233
def OY:Nat:=234
def OZ:Nat:=235
def O0:Nat:=236
def Wq:Nat:=237
def O1:Nat:=238
def ZZ:Nat:=239
def Z0:Nat:=240
def CB:Nat:=241
def Ws:Nat:=242
def SM:Nat:=243
def KU:Nat:=244
end Go.Ev.N
namespace Go.Ev.K
open Go.Ev
end Go.Ev.K
namespace Go.Ev
class bI [Lib]:Prop where
namespace K
variable [Lib] [bI]
end K
end Go.Ev
namespace Go.Ev
open Go
variable [Lib] [aZ] [bc] [cG] [cJ] [eC] [cL] [cM] [dG] [dE] [bI]
end Go.Ev
namespace Go.Ev
open Go
theorem CC{d:D}{n:Int}(h:Du d=some n):d= .t (.int .i64 n):=by
 unfold Du at h
 split at h
 · cases h;rfl
 · cases h
theorem Jb:∀ {es:List D} {l:List Int},aW Du es=some l→es=l.map fun x=> .t (.int .i64 x)
 | [],l,h=>by simp[aW]at h;subst h;rfl
 | e::r,l,h=>by
   simp only[aW,aLa,aLb]at h
   obtain⟨x,hx,y,hy,rfl⟩:=h
   rw[CC hx,Jb hy];rfl
theorem wz(x:Int):∀l,(PC x l).Perm (x::l)
 | []=> .refl _
 | y::r=>by
   unfold PC
   split
   · exact .refl _
   · exact((wz x r).cons y).trans (.swap x y r)
theorem ph:∀l,(gv l).Perm l
 | []=> .refl _
 | x::r=>(wz x _).trans ((ph r).cons x)
theorem Jc{x:Int}:∀ {l:List Int},l.Pairwise (· ≤ ·)→(PC x l).Pairwise (· ≤ ·)
 | [],_=>by simp[PC]
 | y::r,h=>by
   unfold PC
   split
   · rename_i hx
     refine List.pairwise_cons.2 ⟨fun z hz=>?_,h⟩
     rcases List.mem_cons.1 hz with rfl | hz
     · exact hx
     · have:=(List.pairwise_cons.1 h).1 z hz;omega
   · rename_i hx
     have h':=List.pairwise_cons.1 h
     refine List.pairwise_cons.2 ⟨fun z hz=>?_,Jc h'.2⟩
     have hz:=(wz x r).mem_iff.1 hz
     rcases List.mem_cons.1 hz with rfl | hz
     · omega
     · exact h'.1 z hz
theorem uZ:∀l,(gv l).Pairwise (· ≤ ·)
 | []=> .nil
 | x::r=>Jc (uZ r)
theorem gS(l:List Int):(gv l).length=l.length:=(ph l).length_eq
theorem yU(l:List Int):(l.mergeSort fun x y=>decide (x≤y))=gv l:=by
 refine List.Perm.eq_of_pairwise (le:=(· ≤ ·)) (fun a b _ _ h1 h2=>by omega) ?_ (uZ l) ((List.mergeSort_perm _ _).trans (ph l).symm)
 have:=List.pairwise_mergeSort (le:=fun x y:Int=>decide (x≤y)) (fun a b c=>by simp;omega) (fun a b=>by simp;omega) l
 exact this.imp (by simp)
end Go.Ev
namespace Go.Ev
open Go
variable [Lib] [aZ] [bc] [cG] [cJ] [eC] [cL] [cM] [dG] [dE] [bI]
section
variable (k : Keys) (hl : k.keys.length ≤ 1000000) (hr : k.roads.length ≤ 1000000)
include hl hr
end
end Go.Ev
namespace Go.Ev
open Go
variable [Lib] [aZ] [bc] [cG] [cJ] [eC] [cL] [cM] [dG] [dE] [bI]
section
variable (b u v y : Obj) (ds : ae)
end
end Go.Ev
namespace Go.Ev.N
def Ek:Nat:=245
def CD:Nat:=246
def CE:Nat:=247
def SN:Nat:=248
def ME:Nat:=249
def SO:Nat:=250
def El:Nat:=251
def KV:Nat:=252
def Jd:Nat:=253
def SP:Nat:=254
def O2:Nat:=255
def Wu:Nat:=256
def SQ:Nat:=257
def Gb:Nat:=258
def mN:Nat:=259
def c8:Nat:=260
def aS:Nat:=261
def O3:Nat:=262
def zA:Nat:=263
def kf:Nat:=264
def MF:Nat:=265
def nK:Nat:=266
def ak:Nat:=267
def Je:Nat:=268
def kI:Nat:=269
def cmp_isNaN_int:Nat:=270
end Go.Ev.N
namespace Go.Ev.K
open Go.Ev
def c8:Fn:= { bo:=1,vars:=[2],body:= .fail,res:=[(0,none)],prim:=[2,N.ak]}
def aS:Fn:= { bo:=1,vars:=[0,1,2],body:=(q [w 1 (.bx v0 1),w 2 (.mv (.c (.und)))] [] (q [u (.mf N.ak [.v 1]),x 2 l0] [] .ret)),res:=[(2,none)]}
def kg:C:= (.its [u (.bin .lss v5 v4)] [] 0 .skip (.exit 0) (.seq (.blk 1 (q [a 1 v3 v5,g l0,x 2 l0] [] (.ite [m v0,m v2,u (.cw l1 0 [] [.l 0]),u (.un .not l0)] [] 0 .ret .skip))) (.reg [u (.bin .add v5 (.i 1)),x 5 l0] [])))
def ky:C:= .loop true [1,2] K.kg
def ak:Fn:= { bo:=2,vars:=[0,1,4,5,6,7],body:=(q [w 3 (.ld v1 1 false),w 4 (.ln l0),x 5 (.i 0)] [] (.blk 0 K.ky)),res:=[]}
end Go.Ev.K
namespace Go.Ev
class bM [Lib]:Prop where
 kh:Lib.fs N.c8=some K.c8
 fC:Lib.fs N.aS=some K.aS
 gT:Lib.fs N.ak=some K.ak
namespace K
variable [Lib] [bM]
theorem kh:Lib.fs N.c8=some K.c8:=bM.kh
theorem fC:Lib.fs N.aS=some K.aS:=bM.fC
theorem gT:Lib.fs N.ak=some K.ak:=bM.gT
end K
end Go.Ev
namespace Go.Ev
open Go
variable [Lib] [aZ] [bc] [cG] [cJ] [eC] [cL] [cM] [dG] [dE] [bI] [bM]
theorem Jf(l:List Int):aG 0 N.aS [.t (tL l)] []=some (.fn N.ak [.bp 0 0],[.box [.t (tL l)]]):=by
 refine ay K.fC rfl ?_
 simp(disch:=omega)only[go_sem,K.aS,↓reduceIte,reduceAdd,reduceSub]
theorem x7(l:List Int):sJ (tL l)=some l:=by
 unfold sJ
 simp only
 induction l with
 | nil=>rfl
 | cons x l ih=>
   simp only[List.map_cons,aW]at ih ⊢
   rw[ih];rfl
end Go.Ev
namespace Go.Ev
open Go
variable [Lib] [aZ] [bc]
def Em(m:aK)(b:Bel)(tag:Int):Int:=if ahb m b=false then 6 else if te (nth b.dD 0).tags tag<0 then 41 else 0
def afT(a b:Wh)(t:Int):Bool:=(List.range (min a.frm.length b.frm.length)).any fun p=>decide (nth a.frm p≤t∧nth b.frm p≤t)
def CF(m:aK)(tF:List Int)(t:Int)(j:Nat):List Wh:=(List.range j).map fun i=>(IE m (nth tF i) t).1
@[simp] theorem SR (m : aK) (tF : List Int) (t : Int) (j : Nat) : (CF m tF t j).length = j := by simp [CF]
def MG(m:aK)(tags tF:List Int)(t:Int):Bel×Int:=
 if tags.length=tF.length∧1≤tags.length∧tags.length≤12 then
  if Cx tags=true then match (List.range tags.length).find? (fun i=> !decide ((IE m (nth tF i) t).2=0))with
   | some i=>(⟨[]⟩,(IE m (nth tF i) t).2)
   | none=>(⟨[⟨tags,CF m tF t tags.length⟩]⟩,0)
  else(⟨[]⟩,41)
 else(⟨[]⟩,6)
@[go_sem] theorem ac4 : ([] : List D).all eW = true := (rfl)
@[go_sem] theorem Z3 (d : D) (r : List D) : (d :: r).all eW = (eW d && r.all eW) := (rfl)
@[go_sem] theorem SS (cs : List T) : eW (.t (.agg cs)) = false := (rfl)
@[go_sem] theorem Wv (cs : List T) : eW (.t (.sl cs)) = false := (rfl)
@[go_sem] theorem SU (k : IntKind) (n : Int) : eW (.t (.int k n)) = true := (rfl)
@[go_sem] theorem O4 (b : Bool) : eW (.t (.bool b)) = true := (rfl)
@[go_sem] theorem ahi (l : List Wh) (k : Nat) (a : Int) (b : List Int) : (List.map D.t (List.map Wh.e l)).set k (D.t (T.agg [tI a, tL b])) = List.map D.t (List.map Wh.e (l.set k ⟨a, b⟩)) := by
 rw[List.map_set,List.map_set]
def ac5(m:aK)(tag:Int)(l:List Int)(a b:Int)(x:World):Wh×Int:=aia m (nth x.whr (te x.tags tag).toNat) l a b
def ahj(tag:Int)(x:World)(w:Wh):World:=⟨x.tags,x.whr.set (te x.tags tag).toNat w⟩
def afU(tag:Int)(r:Wh×Int)(x:World)(out:List World):List World:=
 if r.2=43 then out else out++[if r.2=0 then ahj tag x r.1 else x]
def SV(m:aK)(tag:Int)(l:List Int)(a b:Int)(ws:List World):Nat→List World
 | 0=>[]
 | j+1=>afU tag (ac5 m tag l a b (nth ws j)) (nth ws j) (SV m tag l a b ws j)
def Z4(m:aK)(tag:Int)(l:List Int)(a b:Int)(ws:List World)(j:Nat):Bool:=decide ((ac5 m tag l a b (nth ws j)).2=6∨(ac5 m tag l a b (nth ws j)).2=8)
def Z5(m:aK)(b:Bel)(tag:Int)(l:List Int)(a c:Int):Bel×Int:=
 if Em m b tag≠0 then(b,Em m b tag)else match (List.range b.dD.length).find? (Z4 m tag l a c b.dD)with
  | some i=>(b,(ac5 m tag l a c (nth b.dD i)).2)
  | none=>if(SV m tag l a c b.dD b.dD.length).length=0 then(b,43)else(⟨SV m tag l a c b.dD b.dD.length⟩,0)
def ac6(m:aK)(tag:Int)(l:List Int)(a b bl:Int)(x:World):Wh×Int:=aib m (nth x.whr (te x.tags tag).toNat) l a b bl
def afV(tag:Int)(r:Wh×Int)(x:World)(out:List World):List World:=out++[if r.2=0 then ahj tag x r.1 else x]
def Z6(m:aK)(tag:Int)(l:List Int)(a b bl:Int)(ws:List World):Nat→List World
 | 0=>[]
 | j+1=>afV tag (ac6 m tag l a b bl (nth ws j)) (nth ws j) (Z6 m tag l a b bl ws j)
def Z7(m:aK)(tag:Int)(l:List Int)(a b bl:Int)(ws:List World)(j:Nat):Bool:=decide ((ac6 m tag l a b bl (nth ws j)).2=6∨(ac6 m tag l a b bl (nth ws j)).2=8)
def Z8(m:aK)(b:Bel)(tag:Int)(l:List Int)(a c bl:Int):Bel×Int:=
 if Em m b tag≠0 then(b,Em m b tag)else match (List.range b.dD.length).find? (Z7 m tag l a c bl b.dD)with
  | some i=>(b,(ac6 m tag l a c bl (nth b.dD i)).2)
  | none=>(⟨Z6 m tag l a c bl b.dD b.dD.length⟩,0)
theorem En{gc:Bool}{dead:List Nat}{c:C}{vs:List D}{H:ae}(P:Nat→St→Prop)(n:Nat)(Q:Ex×St→Prop)(h0:P 0 ⟨ir dead vs,H⟩)
 (hs:∀j st,j<n→P j st→∃st',iI gc dead st.H.length (exS aG c st)=some st'∧P (j+1) st')
 (he:∀st,P n st→∃q,exS aG c st=some q∧q.1≠ .normal∧Q q):∃q,exS aG (.loop gc dead c) ⟨vs,H⟩=some q∧Q q:=by
 have key:∀(k j:Nat) (st:St),j+k=n→P j st→∃q,jy gc dead (exS aG c) st=some q∧Q q:=by
  intro k
  induction k with
  | zero=>
    intro j st hj hp
    obtain⟨q,h1,h2,h3⟩:=he st (by rw[← hj];exact hp)
    exact⟨q,c7 h1 h2,h3⟩
  | succ k ih=>
    intro j st hj hp
    obtain⟨st',h1,h2⟩:=hs j st (by omega) hp
    obtain⟨q,h3,h4⟩:=ih (j+1) st' (by omega) h2
    exact⟨q,gK h1 h3,h4⟩
 exact key n 0 _ (by omega) h0
abbrev ints(l:List Int):List D:=(l.map (T.int .i64)).map .t
abbrev whs(l:List Wh):List D:=(l.map Wh.e).map .t
def Gc(out:List World)(x:World):Nat:=match (List.range out.length).find? (fun k=> !ZA (nth out k).tags x.tags)with
 | some k=>k
 | none=>out.length
def Z9(a b:List Wh):Nat→List Wh
 | 0=>a
 | p+1=>(Z9 a b p).set p (Mj (nth a p) (nth b p)).1
def aaa(a b:List Wh):List Wh:=Z9 a b (min a.length b.length)
def afW(out:List World)(x:World):List World:=
 if Gc out x<out.length∧(nth out (Gc out x)).tags=x.tags then out.set (Gc out x) ⟨x.tags,aaa (nth out (Gc out x)).whr x.whr⟩
 else out.take (Gc out x)++[x]++out.drop (Gc out x)
def aab(l:List World):Nat→List World
 | 0=>[]
 | j+1=>afW (aab l j) (nth l j)
def aac(l:List World):List World:=aab l l.length
structure Rp(H:ae)(id:Nat)(es:List D)(fa fb:Nat→Nat)(out:List World):Prop where
 arr:H[id]?=some (.arr 2 false 0 es)
 len:es.length=out.length
 el:∀j,j<out.length→es[j]?=some (.agg [.ref (fa j) 0 (nth out j).tags.length,.ref (fb j) 0 (nth out j).whr.length])
 ha:∀j,j<out.length→H[fa j]?=some (.arr 1 false 0 (ints (nth out j).tags))
 hb:∀j,j<out.length→H[fb j]?=some (.arr 2 false 0 (whs (nth out j).whr))
 na:∀j,j<out.length→fa j≠id
 nb:∀j,j<out.length→fb j≠id
 nab:∀i j,i<out.length→j<out.length→fa i≠fb j
 nbb:∀i j,i<out.length→j<out.length→i≠j→fb i≠fb j
@[go_sem] theorem ac7 (a b : Wh) : (Mj a b).1.e = .agg [tI (Mj a b).1.time, tL (Mj a b).1.frm] := rfl
theorem Rp.size{H:ae}{id:Nat}{es:List D}{fa fb:Nat→Nat}{out:List World}(hr:Rp H id es fa fb out):∀e∈es,e.cells.length=2:=by
 intro e he
 obtain⟨j,hj⟩:=aLf.1 he
 have hl:=(aLe.1 hj).1
 rw[hr.el j (by rw[← hr.len];exact hl)]at hj
 cases hj;rfl
theorem CG{α:Type} [Dat α](l:List α)(k:Nat)(hk:k<l.length)(x:α)(j:Nat):nth (l.set k x) j=if j=k then x else nth l j:=by
 unfold nth
 rw[aLl]
 by_cases h:j=k
 · rw[if_pos h,h,aLj hk];rfl
 · rw[if_neg h,aLi (fun e=>h e.symm),aLl]
theorem Rp.merge{H:ae}{id:Nat}{es:List D}{fa fb:Nat→Nat}{out:List World}(hr:Rp H id es fa fb out){k:Nat}(hk:k<out.length)(x:World)(ht:(nth out k).tags=x.tags)(hw:x.whr.length=(nth out k).whr.length):
 Rp (H.set (fb k) (.arr 2 false 0 (whs x.whr))) id es fa fb (out.set k x):=by
 have ol:(out.set k x).length=out.length:=List.length_set
 have nk:=hr.nb k hk
 have kl:=yT (hr.hb k hk)
 refine⟨by rw[oq nk];exact hr.arr,by rw[ol];exact hr.len,?_,?_,?_,by rw[ol];exact hr.na,by rw[ol];exact hr.nb,by rw[ol];exact hr.nab,by rw[ol];exact hr.nbb⟩
 · intro j hj
   rw[ol]at hj
   rw[hr.el j hj,CG out k hk]
   by_cases h:j=k
   · rw[if_pos h,h,ht,hw]
   · rw[if_neg h]
 · intro j hj
   rw[ol]at hj
   rw[oq (fun e=>hr.nab j k hj hk e.symm),hr.ha j hj,CG out k hk]
   by_cases h:j=k
   · rw[if_pos h,h,ht]
   · rw[if_neg h]
 · intro j hj
   rw[ol]at hj
   rw[CG out k hk]
   by_cases h:j=k
   · rw[if_pos h,h,F5 kl]
   · rw[if_neg h,oq (fun e=>hr.nbb j k hj hk h e.symm)];exact hr.hb j hj
theorem Rp.frz{H:ae}{id:Nat}{es:List D}{fa fb:Nat→Nat}{out:List World}(hr:Rp H id es fa fb out):
 aW (frz H 8) es=some (out.map World.e)∧∀i∈es.flatMap (dC H 8),i≠id:=by
 have hl:=hr.len
 have key:∀(j:Nat) (hj:j<out.length),Go.Ev.frz H 8 (.agg [.ref (fa j) 0 (nth out j).tags.length,.ref (fb j) 0 (nth out j).whr.length])=some (nth out j).e∧
  dC H 8 (.agg [.ref (fa j) 0 (nth out j).tags.length,.ref (fb j) 0 (nth out j).whr.length])=[fa j,fb j]:=by
  intro j hj
  have h1:=hr.ha j hj
  have h2:=hr.hb j hj
  simp(disch:=omega)only[go_sem,h1,h2,ints,whs,↓reduceIte]
 constructor
 · have:∀(es:List D) (ts:List T),es.length=ts.length→(∀(j:Nat) e t,es[j]?=some e→ts[j]?=some t→Go.Ev.frz H 8 e=some t)→aW (Go.Ev.frz H 8) es=some ts:=by
    intro es
    induction es with
    | nil=>intro ts h _;cases ts with
      | nil=>rfl
      | cons=>simp at h
    | cons e es ih=>
      intro ts h hh
      cases ts with
      | nil=>simp at h
      | cons t ts=>
        have h1:=hh 0 e t rfl rfl
        have h2:=ih ts (by simpa using h) fun j e t he ht=>hh (j+1) e t (by simpa using he) (by simpa using ht)
        simp only[aW,h1,aLq,h2,aLw]
   refine this es _ (by rw[List.length_map,hl]) fun j e t he ht=>?_
   have hj:j<out.length:=by rw[← hl];exact(aLe.1 he).1
   rw[hr.el j hj]at he
   rw[bz _ hj]at ht
   cases he;cases ht
   exact(key j hj).1
 · intro i hi
   obtain⟨e,he,hi⟩:=List.mem_flatMap.1 hi
   obtain⟨j,hj⟩:=aLf.1 he
   have hjl:j<out.length:=by rw[← hl];exact(aLe.1 hj).1
   rw[hr.el j hjl]at hj
   cases hj
   rw[(key j hjl).2]at hi
   simp only[List.mem_cons,List.not_mem_nil,or_false]at hi
   rcases hi with rfl | rfl
   · exact hr.na j hjl
   · exact hr.nb j hjl
end Go.Ev
