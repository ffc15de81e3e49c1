/- Parts of the proof: see the text that holds the theorem. -/
import Derived.Test.YtafioeehabcnhaaZ2
set_option linter.all false
set_option maxRecDepth 100000
namespace Go.Ev
open Go
abbrev I(n:Int):D:= .t (.int .i64 n)
abbrev B(b:Bool):D:= .t (.bool b)
def yo{β:Type}(call:aM):List R→List D→List D→ag→(List D→List D→ag→Option β)→Option β
 | rs,L,vs,H,K=>(evR call rs L vs H).bind fun q=>K q.1 q.2.1 q.2.2
def FW{β:Type}(call:aM)(rs:List R)(d:Option Nat)(L vs:List D)(K:List D→List D→ag→Option β)(p:D×ag):Option β:=
 yo call rs (p.1::L) (wr vs d p.1) p.2 K
@[go_sem] theorem PH {β : Type} (call : aM) (rs : List R) (d : Option Nat) (L vs : List D) (K : List D → List D → ag → Option β) (x : D) (H : ag) :
 FW call rs d L vs K (x,H)=yo call rs (x::L) (wr vs d x) H K:=(rfl)
@[go_sem] theorem PI {β : Type} (call : aM) (L vs : List D) (H : ag) (K : List D → List D → ag → Option β) : yo call [] L vs H K = K L vs H := (rfl)
@[go_sem] theorem Mv {β : Type} (call : aM) (o : O) (d : Option Nat) (rs : List R) (L vs : List D) (H : ag) (K : List D → List D → ag → Option β) :
 yo call (⟨o,d,none⟩::rs) L vs H K=(evO call (X.get vs L) H o).bind (FW call rs d L vs K):=by
 simp[yo,evR,bK,Option.bind_assoc]
 rfl
def gate{β:Type}(c:Option D)(w:Bool)(a b:Option β):Option β:=match c with
 | some (.t (.bool x))=>if x=w then a else b
 | some (.tup [])=>b
 | _=>none
@[congr] theorem JD {β : Type} {c c' : Option D} {w : Bool} {a b : Option β} (h : True → c = c') : gate c w a b = gate c' w a b := by rw [h trivial]
@[go_sem] theorem PJ {β : Type} (p : Prop) [Decidable p] (a b : Option β) : gate (some (.t (.bool (decide p)))) true a b = if p then a else b := by
 by_cases h:p<;>simp[gate,h]
@[go_sem] theorem Mw {β : Type} (p : Prop) [Decidable p] (a b : Option β) : gate (some (.t (.bool (decide p)))) false a b = if p then b else a := by
 by_cases h:p<;>simp[gate,h]
@[go_sem] theorem Mx {β : Type} (x : Bool) (a b : Option β) : gate (some (.t (.bool x))) true a b = if x = true then a else b := (rfl)
@[go_sem] theorem JE {β : Type} (x : Bool) (a b : Option β) : gate (some (.t (.bool x))) false a b = if x = true then b else a := by cases x <;> rfl
@[go_sem] theorem My {β : Type} (w : Bool) (a b : Option β) : gate (some (.tup [])) w a b = b := (rfl)
@[go_sem] theorem Mz {β : Type} (call : aM) (o : O) (d : Option Nat) (k : Nat) (w : Bool) (rs : List R) (L vs : List D) (H : ag) (K : List D → List D → ag → Option β) :
 yo call (⟨o,d,some (k,w)⟩::rs) L vs H K=gate L[k]? w ((evO call (X.get vs L) H o).bind (FW call rs d L vs K)) (yo call rs (.tup []::L) (wr vs d (.tup [])) H K):=by
 simp only[yo,evR,bK]
 cases hL:L[k]? with
 | none=>simp[gate]
 | some c=>
   simp only[Option.bind_some]
   cases c with
   | t x=>
     cases x with
     | bool b=>cases b<;>cases w<;>simp[gate,Option.bind_assoc]<;>rfl
     | _=>simp[gate]
   | tup ds=>
     cases ds with
     | nil=>simp[gate]
     | cons=>simp[gate]
   | _=>simp[gate]
open Classical in
noncomputable def nV{β:Type}(p:Prop)(x:Option β):Option β:=if p then x else none
@[go_sem] theorem FX {β : Type} (x : Option β) : nV True x = x := by simp [nV]
noncomputable def sY{β:Type}(call:aM)(all:List R)(n:Nat)(ps:List (Nat×Nat))(rs:List R)(L vs:List D)(H:ag)(acc:List Tr)(K:List D→List D→ag→Option β):Option β:=
 (evR call rs L vs H).bind fun q=>nV (jV call all n ((trace call rs L vs H).reverse++acc) ps) (K q.1 q.2.1 q.2.2)
noncomputable def zl{β:Type}(call:aM)(all:List R)(n:Nat)(ps:List (Nat×Nat))(rs:List R)(d:Option Nat)(L vs:List D)(H:ag)(acc:List Tr)(K:List D→List D→ag→Option β)(p:D×ag):Option β:=
 sY call all n ps rs (p.1::L) (wr vs d p.1) p.2 ((L,vs,H)::acc) K
@[go_sem] theorem PL {β : Type} (call : aM) (all : List R) (n : Nat) (ps : List (Nat × Nat)) (rs : List R) (d : Option Nat) (L vs : List D) (H : ag) (acc : List Tr) (K : List D → List D → ag → Option β) (x : D) (H' : ag) :
 zl call all n ps rs d L vs H acc K (x,H')=sY call all n ps rs (x::L) (wr vs d x) H' ((L,vs,H)::acc) K:=(rfl)
@[go_sem] theorem PM {β : Type} (call : aM) (all : List R) (n : Nat) (ps : List (Nat × Nat)) (L vs : List D) (H : ag) (acc : List Tr) (K : List D → List D → ag → Option β) :
 sY call all n ps [] L vs H acc K=nV (jV call all n ((L,vs,H)::acc) ps) (K L vs H):=by
 simp[sY,evR,trace]
theorem s4{β:Type}(call:aM)(all:List R)(n:Nat)(ps:List (Nat×Nat))(r:R)(rs:List R)(L vs:List D)(H:ag)(acc:List Tr)(K:List D→List D→ag→Option β):
 sY call all n ps (r::rs) L vs H acc K=(bK L r.g).bind fun w=>
  if w then(evO call (X.get vs L) H r.o).bind (zl call all n ps rs r.d L vs H acc K)else sY call all n ps rs (.tup []::L) (wr vs r.d (.tup [])) H ((L,vs,H)::acc) K:=by
 obtain hw | ⟨w,hw⟩:bK L r.g=none∨∃w,bK L r.g=some w:=by cases bK L r.g<;>simp
 · simp[sY,evR,trace,hw]
 · cases w with
   | true=>
     obtain hq | ⟨q,hq⟩:evO call (X.get vs L) H r.o=none∨∃q,evO call (X.get vs L) H r.o=some q:=by cases evO call (X.get vs L) H r.o<;>simp
     · simp[sY,evR,trace,hw,hq]
     · simp[sY,evR,trace,hw,hq,zl]
   | false=>simp[sY,evR,trace,hw]
@[go_sem] theorem MA {β : Type} (call : aM) (all : List R) (n : Nat) (ps : List (Nat × Nat)) (o : O) (d : Option Nat) (rs : List R) (L vs : List D) (H : ag) (acc : List Tr) (K : List D → List D → ag → Option β) :
 sY call all n ps (⟨o,d,none⟩::rs) L vs H acc K=(evO call (X.get vs L) H o).bind (zl call all n ps rs d L vs H acc K):=by
 rw[s4];simp[bK]
@[go_sem] theorem MB {β : Type} (call : aM) (all : List R) (n : Nat) (ps : List (Nat × Nat)) (o : O) (d : Option Nat) (k : Nat) (w : Bool) (rs : List R) (L vs : List D) (H : ag) (acc : List Tr) (K : List D → List D → ag → Option β) :
 sY call all n ps (⟨o,d,some (k,w)⟩::rs) L vs H acc K=
  gate L[k]? w ((evO call (X.get vs L) H o).bind (zl call all n ps rs d L vs H acc K)) (sY call all n ps rs (.tup []::L) (wr vs d (.tup [])) H ((L,vs,H)::acc) K):=by
 rw[s4]
 simp only[bK]
 cases hL:L[k]? with
 | none=>simp[gate]
 | some c=>
   simp only[Option.bind_some]
   cases c with
   | t x=>
     cases x with
     | bool b=>cases b<;>cases w<;>simp[gate]
     | _=>simp[gate]
   | tup ds=>
     cases ds with
     | nil=>simp[gate]
     | cons=>simp[gate]
   | _=>simp[gate]
def ou(call:aM):Option R→Option Tr→Option Tr→Option Tr→Prop
 | some r,some s,some a,some s'=>(match r.o with
   | .al _ _=>a.2.2[s.2.2.length]?=s'.2.2[s.2.2.length]?
   | .bs xs _=>bK s.1 r.g=some false∨((bF (X.get s.2.1 s.1) xs).bind jq).isSome=true
   | o=>kW o=true∧(bK s.1 r.g=some false∨qC (evO call (X.get s.2.1 s.1) a.2.2 o)=qC (evO call (X.get s.2.1 s.1) s.2.2 o)))
 | _,_,_,_=>False
@[go_sem] theorem JF (call : aM) (all : List R) (n : Nat) (acc : List Tr) : jV call all n acc [] = True := (rfl)
@[go_sem] theorem FY (call : aM) (all : List R) (n : Nat) (acc : List Tr) (p m : Nat) (r : List (Nat × Nat)) :
 jV call all n acc ((p,m)::r)=(ou call all[p]? acc[n-p]? acc[n-m]? acc[n-(p+1)]?∧m≤n∧jV call all n acc r):=by
 simp only[jV,FV,ou]
 try rfl
section
variable (call : aM) (d : Option Nat) (gd : Option (Nat × Bool)) (L vs L' vs' : List D) (H H' : ag) (s' : Tr)
@[go_sem] theorem PN (x : X) (n : Nat) (agg : Bool) : ou call (some ⟨.ld x n agg, d, gd⟩) (some (L, vs, H)) (some (L', vs', H')) (some s') =
 (bK L gd=some false∨qC (evO call (X.get vs L) H' (.ld x n agg))=qC (evO call (X.get vs L) H (.ld x n agg))):=by simp[ou,kW]
@[go_sem] theorem PO (x i : X) (sz : Nat) : ou call (some ⟨.ia x i sz, d, gd⟩) (some (L, vs, H)) (some (L', vs', H')) (some s') =
 (bK L gd=some false∨qC (evO call (X.get vs L) H' (.ia x i sz))=qC (evO call (X.get vs L) H (.ia x i sz))):=by simp[ou,kW]
@[go_sem] theorem PQ (x : X) (lo hi : Option X) (sz : Nat) : ou call (some ⟨.sc x lo hi sz, d, gd⟩) (some (L, vs, H)) (some (L', vs', H')) (some s') =
 (bK L gd=some false∨qC (evO call (X.get vs L) H' (.sc x lo hi sz))=qC (evO call (X.get vs L) H (.sc x lo hi sz))):=by simp[ou,kW]
@[go_sem] theorem MC (x : X) (z : T) (sz : Nat) : ou call (some ⟨.mkt x z sz, d, gd⟩) (some (L, vs, H)) (some (L', vs', H')) (some s') =
 (bK L gd=some false∨qC (evO call (X.get vs L) H' (.mkt x z sz))=qC (evO call (X.get vs L) H (.mkt x z sz))):=by simp[ou,kW]
@[go_sem] theorem PR (z : List D) (l : List (Nat × Nat)) (L2 vs2 : List D) (H2 : ag) : ou call (some ⟨.al z l, d, gd⟩) (some (L, vs, H)) (some (L', vs', H')) (some (L2, vs2, H2)) = (H'[H.length]? = H2[H.length]?) := (rfl)
@[go_sem] theorem PS (xs : List X) (sz : Nat) : ou call (some ⟨.bs xs sz, d, gd⟩) (some (L, vs, H)) (some (L', vs', H')) (some s') =
 (bK L gd=some false∨((bF (X.get vs L) xs).bind jq).isSome=true):=(rfl)
@[go_sem] theorem DO (L : List D) : bK L none = some true := (rfl)
def FZ(w:Bool):Option D→Option Bool
 | some (.t (.bool b))=>some (b==w)
 | some (.tup [])=>some false
 | _=>none
@[go_sem] theorem JG (w b : Bool) : FZ w (some (.t (.bool b))) = some (b == w) := (rfl)
@[go_sem] theorem MD (w : Bool) : FZ w (some (.tup [])) = some false := (rfl)
@[go_sem] theorem DP (L : List D) (k : Nat) (w : Bool) : bK L (some (k, w)) = FZ w L[k]? := by
 simp only[bK]
 cases L[k]? with
 | none=>rfl
 | some c=>cases c with
   | t x=>cases x<;>rfl
   | tup ds=>cases ds<;>rfl
   | _=>rfl
@[go_sem] theorem ME (x : D) : qC (some (x, H)) = some x := (rfl)
attribute [go_sem] beq_true beq_false or_true true_or or_self
end
theorem wu(call:aM)(rs:List R)(vs:List D)(H:ag):yn call rs [] vs H=evR call rs [] vs H:=by
 simp[yn,jV]
def R7(L vs:List D)(H:ag):Option (Ex×St):=some (.normal,⟨vs,H⟩)
noncomputable def R8(call:aM)(k:Nat)(a b:C)(L vs:List D)(H:ag):Option (Ex×St):=dH L[k]? (exS call a ⟨vs,H⟩) (exS call b ⟨vs,H⟩)
@[go_sem] theorem R9 (L vs : List D) (H : ag) : R7 L vs H = some (.normal, ⟨vs, H⟩) := (rfl)
@[go_sem] theorem Sa (call : aM) (k : Nat) (a b : C) (L vs : List D) (H : ag) : R8 call k a b L vs H = dH L[k]? (exS call a ⟨vs, H⟩) (exS call b ⟨vs, H⟩) := (rfl)
def andThen(x:Option (Ex×St))(k:St→Option (Ex×St)):Option (Ex×St):=x.bind fun p=>dR p k
@[go_sem] theorem Bf (st : St) (k : St → Option (Ex × St)) : andThen (some (.normal, st)) k = k st := (rfl)
@[go_sem] theorem F3 (st : St) (k : St → Option (Ex × St)) : andThen (some (.ret, st)) k = some (.ret, st) := (rfl)
@[go_sem] theorem DQ (i : Nat) (st : St) (k : St → Option (Ex × St)) : andThen (some (.exit i, st)) k = some (.exit i, st) := (rfl)
@[go_sem] theorem DR (k : St → Option (Ex × St)) : andThen none k = none := (rfl)
@[go_sem] theorem andThen_ite (c : Prop) [Decidable c] (a b : Option (Ex × St)) (k : St → Option (Ex × St)) : andThen (if c then a else b) k = if c then andThen a k else andThen b k := by
 split<;>rfl
@[go_sem] theorem PT (call : aM) (st : St) : exS call .skip st = some (.normal, st) := (rfl)
@[go_sem] theorem Sc (call : aM) (rs : List R) (vs : List D) (H : ag) : exS call (.reg rs []) ⟨vs, H⟩ = yo call rs [] vs H R7 := by
 simp only[exS,wu,yo]
 cases evR call rs [] vs H<;>rfl
@[go_sem] theorem PU (call : aM) (rs : List R) (p : Nat × Nat) (ps : List (Nat × Nat)) (vs : List D) (H : ag) :
 exS call (.reg rs (p::ps)) ⟨vs,H⟩=sY call rs rs.length (p::ps) rs [] vs H [] R7:=by
 simp only[exS,yn,sY,List.append_nil]
 by_cases h:jV call rs rs.length (trace call rs [] vs H).reverse (p::ps)
 · rw[if_pos h]
   simp only[nV,if_pos h]
   cases evR call rs [] vs H<;>rfl
 · rw[if_neg h]
   simp only[nV,if_neg h]
   cases evR call rs [] vs H<;>rfl
@[go_sem] theorem Sd (call : aM) (a b : C) (st : St) : exS call (.seq a b) st = andThen (exS call a st) (exS call b) := (rfl)
@[go_sem] theorem Se (call : aM) (rs : List R) (k : Nat) (a b : C) (vs : List D) (H : ag) : exS call (.ite rs [] k a b) ⟨vs, H⟩ = yo call rs [] vs H (R8 call k a b) := by
 simp only[exS,wu,yo]
 cases evR call rs [] vs H<;>rfl
@[go_sem] theorem PV (call : aM) (rs : List R) (p : Nat × Nat) (ps : List (Nat × Nat)) (k : Nat) (a b : C) (vs : List D) (H : ag) :
 exS call (.ite rs (p::ps) k a b) ⟨vs,H⟩=sY call rs rs.length (p::ps) rs [] vs H [] (R8 call k a b):=by
 simp only[exS,yn,sY,List.append_nil]
 by_cases h:jV call rs rs.length (trace call rs [] vs H).reverse (p::ps)
 · rw[if_pos h]
   simp only[nV,if_pos h]
   cases evR call rs [] vs H<;>rfl
 · rw[if_neg h]
   simp only[nV,if_neg h]
   cases evR call rs [] vs H<;>rfl
@[go_sem] theorem Sf (call : aM) (rs : List R) (ps : List (Nat × Nat)) (k : Nat) (a b c : C) (st : St) : exS call (.its rs ps k a b c) st = andThen (exS call (.ite rs ps k a b) st) (exS call c) := (rfl)
@[go_sem] theorem Sg (call : aM) (rs : List R) (ps : List (Nat × Nat)) (k : Nat) (a b c : C) (st : St) : exS call (.itk rs ps k a b c) st = exS call (.ite rs ps k (.seq a c) (.seq b c)) st := (rfl)
@[go_sem] theorem Si (call : aM) (j : Nat) (a b : C) (vs : List D) (H : ag) : exS call (.itv j a b) ⟨vs, H⟩ = dH vs[j]? (exS call a ⟨vs, H⟩) (exS call b ⟨vs, H⟩) := (rfl)
@[go_sem] theorem PW (call : aM) (id : Nat) (st : St) : exS call (.exit id) st = some (.exit id, st) := (rfl)
@[go_sem] theorem Sj (call : aM) (st : St) : exS call .ret st = some (.ret, st) := (rfl)
@[go_sem] theorem PX (call : aM) (st : St) : exS call .fail st = none := (rfl)
@[go_sem] theorem Sk (call : aM) (x p f : Nat) (r1 : List R) (p1 : List (Nat × Nat)) (r2 : List R) (p2 : List (Nat × Nat)) (vs : List D) (H : ag) : exS call (.rng x p f r1 p1 r2 p2) ⟨vs, H⟩ = (yj (stepG (yn call) vs p r1 p1 r2 p2) (Be f vs[x]?) H).map fun H => (.normal, ⟨vs, H⟩) := (rfl)
@[go_sem] theorem Sl (call : aM) (v : Bool) (c : C) (st : St) : exS call (.cnd v c) st = exS call c st := (rfl)
def lD(id:Nat)(x:Option (Ex×St)):Option (Ex×St):=x.map (leave id)
@[go_sem] theorem Sm (call : aM) (id : Nat) (c : C) (st : St) : exS call (.blk id c) st = lD id (exS call c st) := (rfl)
@[go_sem] theorem DT (id : Nat) (st : St) : lD id (some (.normal, st)) = some (.normal, st) := by simp [lD, leave]
@[go_sem] theorem MF (id : Nat) (st : St) : lD id (some (.ret, st)) = some (.ret, st) := by simp [lD, leave]
@[go_sem] theorem JH (id i : Nat) (st : St) : lD id (some (.exit i, st)) = if i = id then some (.normal, st) else some (.exit i, st) := by
 simp only[lD,leave,Option.map_some,Ex.exit.injEq]
 split<;>rfl
@[go_sem] theorem JI (id : Nat) : lD id none = none := (rfl)
@[go_sem] theorem MG (id : Nat) (c : Prop) [Decidable c] (a b : Option (Ex × St)) : lD id (if c then a else b) = if c then lD id a else lD id b := by
 split<;>rfl
@[congr] theorem F4 {c c' : Option D} {a b : Option (Ex × St)} (h : True → c = c') : dH c a b = dH c' a b := by rw [h trivial]
@[go_sem] theorem MH (p : Prop) [Decidable p] (a b : Option (Ex × St)) : dH (some (.t (.bool (decide p)))) a b = if p then a else b := by
 by_cases h:p<;>simp[dH,h]
@[go_sem] theorem JJ (p : Prop) [Decidable p] (a b : Option (Ex × St)) : dH (some (.t (.bool (!decide p)))) a b = if p then b else a := by
 by_cases h:p<;>simp[dH,h]
@[go_sem] theorem PY (a : Option (Ex × St)) : dH (some .ub) a a = a := by simp [dH]
@[go_sem] theorem JK (x : Bool) (a b : Option (Ex × St)) : dH (some (.t (.bool x))) a b = if x = true then a else b := (rfl)
def fg(gc:Bool)(dead:List Nat)(k:Nat)(x:Option (Ex×St)):Option St:=x.bind fun p=>match p.1 with
 | .normal=>tidy gc dead k p.2
 | _=>none
@[go_sem] theorem Cf (gc : Bool) (dead : List Nat) (k : Nat) (st : St) : fg gc dead k (some (.normal, st)) = tidy gc dead k st := (rfl)
@[go_sem] theorem JL (gc : Bool) (dead : List Nat) (k : Nat) (c : Prop) [Decidable c] (a b : Option (Ex × St)) : fg gc dead k (if c then a else b) = if c then fg gc dead k a else fg gc dead k b := by
 split<;>rfl
theorem bT{gc:Bool}{dead:List Nat}{body:St→Option (Ex×St)}{st st2:St}(h:fg gc dead st.H.length (body st)=some st2)
 {p:Ex×St} (h2:jD gc dead body st2=some p):jD gc dead body st=some p:=by
 unfold fg at h
 obtain⟨⟨e,st1⟩,hq,h⟩:=Option.bind_eq_some_iff.1 h
 cases e with
 | normal=>exact qA hq h h2
 | ret=>cases h
 | exit=>cases h
theorem rE{gc:Bool}{dead:List Nat}{body:St→Option (Ex×St)}(s:Nat→St){p:Ex×St}(n:Nat)
 (h:∀j,j<n→fg gc dead (s j).H.length (body (s j))=some (s (j+1))) (he:jD gc dead body (s n)=some p):jD gc dead body (s 0)=some p:=by
 have:=nU (s:=s) n 0 (fun j _ hj=>by
  have h:=h j (by omega)
  unfold fg at h
  obtain⟨⟨e,st1⟩,hq,h⟩:=Option.bind_eq_some_iff.1 h
  cases e with
  | normal=>exact⟨st1,hq,h⟩
  | ret=>cases h
  | exit=>cases h) (by simpa using he)
 exact this
def JM(res:List (Nat×Option (Nat×Bool)))(k raw:Nat)(p:Ex×St):Option (D×ag):=match p.1 with
 | .exit _=>none
 | _=>(eY p.2 res).bind (finish k raw p.2.H)
@[go_sem] theorem PZ (res : List (Nat × Option (Nat × Bool))) (k raw : Nat) (vs : List D) (H : ag) : JM res k raw (.ret, ⟨vs, H⟩) = (eY ⟨vs, H⟩ res).bind (finish k raw H) := (rfl)
@[go_sem] theorem F5 (res : List (Nat × Option (Nat × Bool))) (k raw : Nat) (vs : List D) (H : ag) : JM res k raw (.normal, ⟨vs, H⟩) = (eY ⟨vs, H⟩ res).bind (finish k raw H) := (rfl)
theorem F6{fs:Nat→Option Fn}{raw f:Nat}{args:List D}{H:ag}{fn:Fn}{r:D×ag}(hf:fs f=some fn)(hn:fn.nargs=args.length)
 (h:(exS (gY fs) fn.body ⟨jS args fn.vars,H⟩).bind (JM fn.res H.length raw)=some r) (h0:fn.prim=[]:=by rfl):gY fs raw f args H=some r:=by
 obtain⟨p,hp,he⟩:=Option.bind_eq_some_iff.1 h
 exact Ca hf hn (Ce _ _ _ hp) he h0
@[go_sem] theorem P0 {α β : Type} (c : Prop) [Decidable c] (a b : Option α) (k : α → Option β) : (if c then a else b).bind k = if c then a.bind k else b.bind k := by
 split<;>rfl
@[go_sem] theorem Sn {α β : Type} (c : Prop) [Decidable c] (a b : Option α) (k : α → β) : (if c then a else b).map k = if c then a.map k else b.map k := by
 split<;>rfl
theorem MI(a b:Int):(a==b)=decide (a=b):=by rw[Bool.eq_iff_iff];simp
theorem uU{n:Int}(h1: -9223372036854775808≤n)(h2:n≤9223372036854775807):IntKind.i64.wrap n=n:=by
 have e:IntKind.i64.wrap n=if n % 18446744073709551616≥9223372036854775808 then n % 18446744073709551616-18446744073709551616 else n % 18446744073709551616:=by
  simp[IntKind.wrap,IntKind.signed,IntKind.bits]
 rw[e];split<;>omega
section
variable {α β : Type}
@[go_sem] theorem F7 (a : α) (f : α → Option β) : (some a).bind f = f a := (rfl)
@[go_sem] theorem JN (a : α) (f : α → β) : (some a).map f = some (f a) := (rfl)
@[go_sem] theorem F8 (f : α → Option β) : (none : Option α).bind f = none := (rfl)
@[go_sem] theorem JO (f : α → β) : (none : Option α).map f = none := (rfl)
@[go_sem] theorem JP (a : α) (l : List α) (f : α → β) : (a :: l).map f = f a :: l.map f := (rfl)
@[go_sem] theorem MJ (f : α → β) : ([] : List α).map f = [] := (rfl)
@[go_sem] theorem JQ (a : α) (l : List α) : (a :: l)[0]? = some a := (rfl)
@[go_sem] theorem JR (a : α) (l : List α) (n : Nat) : (a :: l)[n + 1]? = l[n]? := (rfl)
@[go_sem] theorem F9 (a d : α) (l : List α) : (a :: l).getD 0 d = a := (rfl)
@[go_sem] theorem Ga (a d : α) (l : List α) (n : Nat) : (a :: l).getD (n + 1) d = l.getD n d := (rfl)
@[go_sem] theorem JS (d : α) (n : Nat) : ([] : List α).getD n d = d := by simp
@[go_sem] theorem JT (a b : α) (l : List α) : (a :: l).set 0 b = b :: l := (rfl)
@[go_sem] theorem JU (a b : α) (l : List α) (n : Nat) : (a :: l).set (n + 1) b = a :: l.set n b := (rfl)
@[go_sem] theorem Cg (a : α) (l m : List α) : (a :: l) ++ m = a :: (l ++ m) := (rfl)
@[go_sem] theorem DU (l : List α) : [] ++ l = l := (rfl)
@[go_sem] theorem DV (l : List α) : l ++ [] = l := by simp
@[go_sem] theorem Bg (a : α) (l : List α) (f : α → List β) : (a :: l).flatMap f = f a ++ l.flatMap f := by simp
@[go_sem] theorem Ch (f : α → List β) : ([] : List α).flatMap f = [] := by simp
@[go_sem] theorem DW : ([] : List α).length = 0 := (rfl)
@[go_sem] theorem Ci (a : α) (l : List α) : (a :: l).length = l.length + 1 := (rfl)
@[go_sem] theorem DX (l : List α) (f : α → β) : (l.map f).length = l.length := by simp
@[go_sem] theorem zm (l m : List α) : (l ++ m).length = l.length + m.length := by simp
@[go_sem] theorem wx (n : Nat) (a : α) : (List.replicate n a).length = n := by simp
@[go_sem] theorem DY (l : List α) (i : Nat) (a : α) : (l.set i a).length = l.length := by simp
@[go_sem] theorem Gb (l : List α) : l.drop 0 = l := (rfl)
@[go_sem] theorem Gc (a : α) (l : List α) (n : Nat) : (a :: l).drop (n + 1) = l.drop n := (rfl)
@[go_sem] theorem JV (n : Nat) : ([] : List α).drop n = [] := by simp
@[go_sem] theorem Gd (l : List α) : l.take 0 = [] := (rfl)
@[go_sem] theorem Ge (a : α) (l : List α) (n : Nat) : (a :: l).take (n + 1) = a :: l.take n := (rfl)
@[go_sem] theorem JW (n : Nat) : ([] : List α).take n = [] := by simp
@[go_sem] theorem Gf (a b : α) : (bif true then a else b) = a := (rfl)
@[go_sem] theorem DZ (a b : α) : (bif false then a else b) = b := (rfl)
@[go_sem] theorem JX (n : Nat) : n + 0 = n := (rfl)
@[go_sem] theorem JY (n : Nat) : 0 + n = n := by simp
@[go_sem] theorem JZ (a b : α) : (some a = some b) = (a = b) := by simp
@[go_sem] theorem P1 (a : α) : (some a).isSome = true := (rfl)
end
attribute [go_sem] decide_true decide_false if_true if_false Bool.false_eq_true Bool.true_eq_false decide_eq_true_eq decide_eq_false_iff_not Bool.and_eq_true Bool.or_eq_true Bool.not_eq_true' Bool.not_eq_true Bool.not_eq_false
 Bool.and_true Bool.true_and Bool.and_false Bool.false_and Bool.or_true Bool.true_or Bool.or_false Bool.false_or and_true true_and and_self not_true_eq_false not_false_eq_true beq_iff_eq bne_iff_ne ne_eq
@[go_sem] theorem J0 : (!true) = false := (rfl)
@[go_sem] theorem Gg : (!false) = true := (rfl)
@[go_sem] theorem Wc (vs L : List D) (j : Nat) : X.get vs L (.v j) = vs[j]? := (rfl)
@[go_sem] theorem Wd (vs L : List D) (k : Nat) : X.get vs L (.l k) = L[k]? := (rfl)
@[go_sem] theorem We (vs L : List D) (d : D) : X.get vs L (.c d) = some d := (rfl)
@[go_sem] theorem Wf (vs L : List D) (n : Int) : X.get vs L (.i n) = some (I n) := (rfl)
@[go_sem] theorem Wg (vs L : List D) (x : Bool) : X.get vs L (.b x) = some (B x) := (rfl)
@[go_sem] theorem Sp (vs : List D) (x : D) : wr vs none x = vs := (rfl)
@[go_sem] theorem Sq (vs : List D) (s : Nat) (x : D) : wr vs (some s) x = vs.set s x := (rfl)
@[go_sem] theorem J1 (args : List D) : jS args [] = [] := (rfl)
@[go_sem] theorem Gi (args : List D) (s : Nat) (r : List Nat) : jS args (s :: r) = args.getD s .und :: jS args r := (rfl)
def Sr(H:ag)(d:D):Option (D×ag):=some (d,H)
@[go_sem] theorem Ss (H : ag) (d : D) : Sr H d = some (d, H) := (rfl)
def gl{α:Type}(a:α)(l:Option (List α)):Option (List α):=l.map (a:: ·)
@[go_sem] theorem J2 {α : Type} (a : α) (l : List α) : gl a (some l) = some (a :: l) := (rfl)
@[go_sem] theorem J3 {α : Type} (a : α) : gl a none = none := (rfl)
@[go_sem] theorem P2 {α β : Type} (f : α → Option β) : bF f [] = some [] := (rfl)
def U1{α β:Type}(f:α→Option β)(r:List α)(y:β):Option (List β):=gl y (bF f r)
@[go_sem] theorem Gj {α β : Type} (f : α → Option β) (r : List α) (y : β) : U1 f r y = gl y (bF f r) := (rfl)
@[go_sem] theorem s8 {α β : Type} (f : α → Option β) (x : α) (r : List α) : bF f (x :: r) = (f x).bind (U1 f r) := (rfl)
section
variable (call : aM) (get : X → Option D) (H : ag)
@[go_sem] theorem Wi (x : X) : evO call get H (.mv x) = (get x).bind (Sr H) := by simp only [evO]; cases get x <;> rfl
def P3(c a b:Option D):Option (D×ag):=c.bind fun c=>a.bind fun a=>b.bind fun b=>(BU c a b).map fun d=>(d,H)
@[go_sem] theorem Wj (c a b : X) : evO call get H (.pk c a b) = P3 H (get c) (get a) (get b) := (rfl)
@[go_sem] theorem MK (x p q : Bool) : P3 H (some (.t (.bool x))) (some (.t (.bool p))) (some (.t (.bool q))) = some (.t (.bool (bif x then p else q)), H) := by cases x <;> rfl
@[go_sem] theorem ML (a b : D) : P3 H (some (.t (.bool true))) (some a) (some b) = some (a, H) := (rfl)
@[go_sem] theorem J4 (a b : D) : P3 H (some (.t (.bool false))) (some a) (some b) = some (b, H) := (rfl)
@[go_sem] theorem P4 (x p : Bool) : (bif x then p else false) = (x && p) := by cases x <;> rfl
@[go_sem] theorem Su (x q : Bool) : (bif x then true else q) = (x || q) := by cases x <;> rfl
def eI(f:BinOp)(x y:Option D):Option (D×ag):=x.bind fun a=>y.bind fun b=>(qk f a b).map fun d=>(d,H)
@[go_sem] theorem U2 (f : BinOp) (x y : X) : evO call get H (.bin f x y) = eI H f (get x) (get y) := (rfl)
section
variable (k j : IntKind) (a b : Int)
@[go_sem] theorem MM : eI H .add (some (.t (.int k a))) (some (.t (.int k b))) = some (.t (.int k (k.wrap (a + b))), H) := by simp [eI, qk, ud]
@[go_sem] theorem MN : eI H .sub (some (.t (.int k a))) (some (.t (.int k b))) = some (.t (.int k (k.wrap (a - b))), H) := by simp [eI, qk, ud]
@[go_sem] theorem MO : eI H .mul (some (.t (.int k a))) (some (.t (.int k b))) = some (.t (.int k (k.wrap (a * b))), H) := by simp [eI, qk, ud]
@[go_sem] theorem MP : eI H .quo (some (.t (.int k a))) (some (.t (.int k b))) = if b = 0 then none else some (.t (.int k (k.wrap (a.tdiv b))), H) := by simp only [eI, qk, ud]; by_cases h : b = 0 <;> simp [h]
@[go_sem] theorem MQ : eI H .rem (some (.t (.int k a))) (some (.t (.int k b))) = if b = 0 then none else some (.t (.int k (a.tmod b)), H) := by simp only [eI, qk, ud]; by_cases h : b = 0 <;> simp [h]
@[go_sem] theorem MR : eI H .eql (some (.t (.int k a))) (some (.t (.int k b))) = some (.t (.bool (decide (a = b))), H) := by simp [eI, qk, ud, MI]
@[go_sem] theorem MS : eI H .neq (some (.t (.int k a))) (some (.t (.int k b))) = some (.t (.bool (decide (¬ a = b))), H) := by simp [eI, qk, ud, bne, MI]
@[go_sem] theorem MT : eI H .lss (some (.t (.int k a))) (some (.t (.int k b))) = some (.t (.bool (decide (a < b))), H) := by simp [eI, qk, ud]
@[go_sem] theorem MU : eI H .leq (some (.t (.int k a))) (some (.t (.int k b))) = some (.t (.bool (decide (a ≤ b))), H) := by simp [eI, qk, ud]
@[go_sem] theorem MV : eI H .gtr (some (.t (.int k a))) (some (.t (.int k b))) = some (.t (.bool (decide (b < a))), H) := by simp [eI, qk, ud]
@[go_sem] theorem MW : eI H .geq (some (.t (.int k a))) (some (.t (.int k b))) = some (.t (.bool (decide (b ≤ a))), H) := by simp [eI, qk, ud]
@[go_sem] theorem MX (h : 0 ≤ b) : eI H .shl (some (.t (.int k a))) (some (.t (.int j b))) = some (.t (.int k (k.wrap (a * 2 ^ min b.toNat k.bits))), H) := by simp [eI, qk, qi, Int.not_lt.2 h]
@[go_sem] theorem zn (h : 0 ≤ b) : eI H .shr (some (.t (.int k a))) (some (.t (.int j b))) = some (.t (.int k (a.fdiv (2 ^ min b.toNat k.bits))), H) := by simp [eI, qk, qi, Int.not_lt.2 h]
@[go_sem] theorem zo : eI H .and (some (.t (.int k a))) (some (.t (.int k b))) = some (.t (.int k (k.wrap (BitVec.ofInt k.bits a &&& BitVec.ofInt k.bits b).toNat)), H) := by simp [eI, qk, ud]
@[go_sem] theorem P5 : eI H .or (some (.t (.int k a))) (some (.t (.int k b))) = some (.t (.int k (k.wrap (BitVec.ofInt k.bits a ||| BitVec.ofInt k.bits b).toNat)), H) := by simp [eI, qk, ud]
@[go_sem] theorem MY : eI H .xor (some (.t (.int k a))) (some (.t (.int k b))) = some (.t (.int k (k.wrap (BitVec.ofInt k.bits a ^^^ BitVec.ofInt k.bits b).toNat)), H) := by simp [eI, qk, ud]
def Sv(f:UnOp)(a:D):Option (D×ag):=(unD f a).map fun d=>(d,H)
@[go_sem] theorem Wk (f : UnOp) (x : X) : evO call get H (.un f x) = (get x).bind (Sv H f) := (rfl)
@[go_sem] theorem P6 (x : Bool) : Sv H .not (.t (.bool x)) = some (.t (.bool (!x)), H) := (rfl)
@[go_sem] theorem P7 : Sv H .neg (.t (.int k a)) = some (.t (.int k (k.wrap (0 - a))), H) := (rfl)
def U3(k:IntKind)(a:D):Option (D×ag):=(Fi k a).map fun d=>(d,H)
@[go_sem] theorem Wl (x : X) : evO call get H (.cv k x) = (get x).bind (U3 H k) := (rfl)
@[go_sem] theorem P8 : U3 H k (.t (.int j a)) = some (.t (.int k (k.wrap a)), H) := (rfl)
end
def kN(q:EqK)(neg:Bool)(x y:Option D):Option (D×ag):=x.bind fun a=>y.bind fun b=>(DI q neg a b).map fun d=>(d,H)
@[go_sem] theorem U4 (q : EqK) (neg : Bool) (x y : X) : evO call get H (.eqk q neg x y) = kN H q neg (get x) (get y) := (rfl)
@[go_sem] theorem J5 (x y : Bool) : kN H .bool false (some (.t (.bool x))) (some (.t (.bool y))) = some (.t (.bool (x == y)), H) := (rfl)
@[go_sem] theorem Gk (x y : Bool) : kN H .bool true (some (.t (.bool x))) (some (.t (.bool y))) = some (.t (.bool (!(x == y))), H) := (rfl)
def D0:List T→List T→Bool
 | .int _ a::xs,.int _ b::ys=>decide (a=b)&&D0 xs ys
 | _,_=>true
def xv:Nat→List T→List T→Bool
 | 0,[],[]=>true
 | n+1,.int j _::xs,.int k _::ys=>decide (j=k)&&xv n xs ys
 | _,_,_=>false
@[go_sem] theorem MZ (k j : IntKind) (a b : Int) (xs ys : List T) : D0 (.int k a :: xs) (.int j b :: ys) = (decide (a = b) && D0 xs ys) := (rfl)
@[go_sem] theorem P9 : D0 [] [] = true := (rfl)
@[go_sem] theorem Qa : xv 0 [] [] = true := (rfl)
@[go_sem] theorem M0 (n : Nat) (k : IntKind) (a b : Int) (xs ys : List T) : xv (n + 1) (.int k a :: xs) (.int k b :: ys) = xv n xs ys := by simp [xv]
theorem pF:∀ {n:Nat} {xs ys:List T},xv n xs ys=true→xs.length=n∧gM xs ys=some (D0 xs ys)
 | 0,[],[],_=>⟨rfl,rfl⟩
 | 0,[],_::_,h=>by simp[xv]at h
 | 0,_::_,_,h=>by simp[xv]at h
 | n+1,[],_,h=>by simp[xv]at h
 | n+1,x::xs,[],h=>by cases x<;>simp[xv]at h
 | n+1,x::xs,y::ys,h=>by
   cases x<;>cases y<;>simp only[xv,Bool.and_eq_true,decide_eq_true_eq,Bool.false_eq_true]at h
   obtain⟨rfl,h⟩:=h
   obtain⟨h1,h2⟩:=pF h
   exact⟨by simp[h1],by simp[gM,h2,D0,MI]⟩
@[go_sem] theorem J6 (n : Nat) (xs ys : List T) (h : xv n xs ys = true) : kN H (.ints n) false (some (.t (.agg xs))) (some (.t (.agg ys))) = some (.t (.bool (D0 xs ys)), H) := by
 obtain⟨h1,h2⟩:=pF h;simp[kN,DI,eqD,h1,h2]
@[go_sem] theorem Gl (n : Nat) (xs ys : List T) (h : xv n xs ys = true) : kN H (.ints n) true (some (.t (.agg xs))) (some (.t (.agg ys))) = some (.t (.bool (!D0 xs ys)), H) := by
 obtain⟨h1,h2⟩:=pF h;simp[kN,DI,eqD,h1,h2]
@[go_sem] theorem M1 : kN H .sl false (some .nil) (some .nil) = some (.t (.bool true), H) := (rfl)
@[go_sem] theorem M3 : kN H .sl false (some (.t (.sl []))) (some .nil) = some (.ub, H) := (rfl)
@[go_sem] theorem J7 : kN H .sl true (some (.t (.sl []))) (some .nil) = some (.ub, H) := (rfl)
@[go_sem] theorem J8 : kN H .sl true (some .nil) (some .nil) = some (.t (.bool false), H) := (rfl)
theorem kF(es:List T)(h:es≠[]):kN H .sl false (some (.t (.sl es))) (some .nil)=some (.t (.bool false),H):=by cases es<;>first | exact(h rfl).elim | rfl
def Qb(a:D):Option (D×ag):=(PC a).map fun d=>(d,H)
@[go_sem] theorem Wm (x : X) : evO call get H (.nc x) = (get x).bind (Qb H) := (rfl)
@[go_sem] theorem Sw (id off : Nat) : Qb H (.bp id off) = some (.bp id off, H) := (rfl)
@[go_sem] theorem Sx (id ep n i off : Nat) : Qb H (.ap id ep n i off) = some (.ap id ep n i off, H) := (rfl)
@[go_sem] theorem Sy (cs : List T) : Qb H (.ep cs) = some (.ep cs, H) := (rfl)
def J9(off:Nat)(a:D):Option (D×ag):=(w8 a off).map fun d=>(d,H)
@[go_sem] theorem Wn (x : X) (off : Nat) : evO call get H (.fa x off) = (get x).bind (J9 H off) := (rfl)
@[go_sem] theorem Sz (id o off : Nat) : J9 H off (.bp id o) = some (.bp id (o + off), H) := (rfl)
@[go_sem] theorem SA (id ep n i o off : Nat) : J9 H off (.ap id ep n i o) = some (.ap id ep n i (o + off), H) := (rfl)
@[go_sem] theorem SB (cs : List T) (off : Nat) : J9 H off (.ep cs) = some (.ep (cs.drop off), H) := (rfl)
@[go_sem] theorem Wo (cs : List D) : cut cs 0 0 = some [] := by simp [cut]
@[go_sem] theorem Wp (c : D) (cs : List D) : cut (c :: cs) 0 1 = some [c] := by simp [cut]
@[go_sem] theorem Wq (c : D) (cs : List D) (n : Nat) : cut (c :: cs) 0 (n + 1) = gl c (cut cs 0 n) := by
 simp only[cut,gl];by_cases h:n≤cs.length<;>simp[h]
@[go_sem] theorem Ws (c : D) (cs : List D) (off n : Nat) : cut (c :: cs) (off + 1) n = cut cs off n := by
 simp only[cut,List.length_cons,List.drop_succ_cons]
 by_cases h:off+n≤cs.length
 · rw[if_pos h,if_pos (by omega)]
 · rw[if_neg h,if_neg (by omega)]
@[go_sem] theorem M4 (c : D) : cT false [c] = some c := (rfl)
@[go_sem] theorem M5 (cs : List D) : cT true cs = some (kK cs) := (rfl)
def mkA(cs:List D):Option (List T)→D
 | some ts=> .t (.agg ts)
 | none=> .agg cs
@[go_sem] theorem Qc (cs : List D) (ts : List T) : mkA cs (some ts) = .t (.agg ts) := (rfl)
@[go_sem] theorem Qd (cs : List D) : mkA cs none = .agg cs := (rfl)
@[go_sem] theorem Qe (cs : List D) : kK cs = mkA cs (jq cs) := by unfold kK; cases jq cs <;> rfl
@[go_sem] theorem Qf : jq [] = some [] := (rfl)
@[go_sem] theorem U5 (x : T) (r : List D) : jq (.t x :: r) = gl x (jq r) := (rfl)
@[go_sem] theorem U6 (r : List D) : jq (.nil :: r) = none := (rfl)
@[go_sem] theorem Qg (a b c : Nat) (r : List D) : jq (.ref a b c :: r) = none := (rfl)
@[go_sem] theorem Qh (a b c d e : Nat) (r : List D) : jq (.sub a b c d e :: r) = none := (rfl)
@[go_sem] theorem Cj (l : List T) : jq (l.map .t) = some l := by induction l with | nil => rfl | cons a l ih => simp [jq, ih]
def M6(off n:Nat)(agg:Bool)(a:D):Option (D×ag):=(lX a off n agg).map fun d=>(d,H)
@[go_sem] theorem Wt (x : X) (off n : Nat) (agg : Bool) : evO call get H (.fl x off n agg) = (get x).bind (M6 H off n agg) := (rfl)
def ofC(agg:Bool)(cs:Option (List D)):Option (D×ag):=(cs.bind (cT agg)).bind (Sr H)
@[go_sem] theorem Wu (c : D) : ofC H false (some [c]) = some (c, H) := (rfl)
@[go_sem] theorem Wv (cs : List D) : ofC H true (some cs) = some (kK cs, H) := (rfl)
@[go_sem] theorem U7 (cs : List T) (off n : Nat) (agg : Bool) : M6 H off n agg (.t (.agg cs)) = ofC H agg (cut (cs.map .t) off n) := by
 simp only[M6,lX,D.isAgg,if_true,D.cells,T.cells,ofC];cases (cut (cs.map .t) off n).bind (cT agg)<;>rfl
@[go_sem] theorem Qi (cs : List D) (off n : Nat) (agg : Bool) : M6 H off n agg (.agg cs) = ofC H agg (cut cs off n) := by
 simp only[M6,lX,D.isAgg,if_true,D.cells,ofC];cases (cut cs off n).bind (cT agg)<;>rfl
@[go_sem] theorem SC (n : Nat) : idx (n : Int) = some n := by simp [idx]
@[go_sem] theorem Ww : idx 0 = some 0 := (rfl)
theorem Gm{i:Int}(h:0≤i):idx i=some i.toNat:=by simp[idx,h]
def Gn(sz:Nat)(x i:Option D):Option (D×ag):=x.bind fun a=>(i.bind intOf).bind fun n=>(qV H a n sz).map fun d=>(d,H)
@[go_sem] theorem Wx (x i : X) (sz : Nat) : evO call get H (.ia x i sz) = Gn H sz (get x) (get i) := (rfl)
def Ck(sz:Nat)(e:T):Option (D×ag):=if e.cells.length=sz then some (.ep e.cells,H)else none
def SD(sz:Nat)(es:List T)(j:Nat):Option (D×ag):=es[j]?.bind (Ck H sz)
@[go_sem] theorem SE (sz : Nat) (es : List T) (j : Nat) : SD H sz es j = es[j]?.bind (Ck H sz) := (rfl)
@[go_sem] theorem SF (k : IntKind) (es : List T) (n : Int) (sz : Nat) : Gn H sz (some (.t (.sl es))) (some (.t (.int k n))) = (idx n).bind (SD H sz es) := by
 simp only[Gn,Option.bind_some,intOf,qV]
 cases idx n with
 | none=>rfl
 | some j=>
   simp only[Option.bind_some,SD]
   cases es[j]? with
   | none=>rfl
   | some e=>simp only[Option.bind_some,Ck];split<;>rfl
@[go_sem] theorem Qj (k : IntKind) (n : Int) : Ck H 1 (.int k n) = some (.ep [.int k n], H) := (rfl)
@[go_sem] theorem M7 (b : Bool) : Ck H 1 (.bool b) = some (.ep [.bool b], H) := (rfl)
@[go_sem] theorem SG (es : List T) : Ck H 1 (.sl es) = some (.ep [.sl es], H) := (rfl)
def iP{α:Type}:Nat→List α→Bool
 | 0,[]=>true
 | n+1,_::r=>iP n r
 | _,_=>false
@[go_sem] theorem SI {α : Type} : iP 0 ([] : List α) = true := (rfl)
@[go_sem] theorem SJ {α : Type} (n : Nat) (a : α) (l : List α) : iP (n + 1) (a :: l) = iP n l := (rfl)
theorem dD{α:Type}:∀ {n:Nat} {l:List α},iP n l=true↔l.length=n
 | 0,[]=>by simp[iP]
 | 0,_::_=>by simp[iP]
 | n+1,[]=>by simp[iP]
 | n+1,_::r=>by simp only[iP,List.length_cons,Nat.add_right_cancel_iff];exact dD
@[go_sem] theorem Qk (cs : List T) (sz : Nat) : Ck H sz (.agg cs) = if iP sz cs = true then some (.ep cs, H) else none := by
 by_cases h:cs.length=sz
 · rw[Ck,if_pos (show(T.agg cs).cells.length=sz from h),if_pos (dD.2 h)];rfl
 · rw[Ck,if_neg (show ¬(T.agg cs).cells.length=sz from h),if_neg fun e=>h (dD.1 e)]
def Gp(sz id ep n j:Nat):Option Obj→Option (D×ag)
 | some (.arr sz' _ ep' es)=>if ep=ep'∧n=es.length then(if j<n∧sz'=sz then some (.ap id ep n j 0,H)else none)else none
 | _=>none
@[go_sem] theorem Ql (k : IntKind) (id ep n : Nat) (i : Int) (sz : Nat) : Gn H sz (some (.ref id ep n)) (some (.t (.int k i))) = (idx i).bind fun j => Gp H sz id ep n j H[id]? := by
 simp only[Gn,Option.bind_some,intOf,qV]
 cases idx i with
 | none=>rfl
 | some j=>
   simp only[Option.bind_some,dN]
   generalize H[id]?=o
   rcases o with _ | (_ | ⟨sz',pin,ep',es⟩)
   · rfl
   · rfl
   · simp only[Gp]
     by_cases h:ep=ep'∧n=es.length
     · rw[if_pos h,if_pos h,Option.bind_some];split<;>rfl
     · rw[if_neg h,if_neg h];rfl
@[go_sem] theorem M8 (sz id ep n j sz' : Nat) (pin : Bool) (ep' : Nat) (es : List D) : Gp H sz id ep n j (some (.arr sz' pin ep' es)) =
 if ep=ep'∧n=es.length then(if j<n∧sz'=sz then some (.ap id ep n j 0,H)else none)else none:=(rfl)
def Gq(sz id ep n lo hi j:Nat):Option Obj→Option (D×ag)
 | some (.arr sz' _ ep' es)=>if ep=ep'∧n=es.length then(if lo+j<hi∧hi≤n∧sz'=sz then some (.ap id ep n (lo+j) 0,H)else none)else none
 | _=>none
@[go_sem] theorem Qm (k : IntKind) (id ep n lo hi : Nat) (i : Int) (sz : Nat) : Gn H sz (some (.sub id ep n lo hi)) (some (.t (.int k i))) = (idx i).bind fun j => Gq H sz id ep n lo hi j H[id]? := by
 simp only[Gn,Option.bind_some,intOf,qV]
 cases idx i with
 | none=>rfl
 | some j=>
   simp only[Option.bind_some,dN]
   generalize H[id]?=o
   rcases o with _ | (_ | ⟨sz',pin,ep',es⟩)
   · rfl
   · rfl
   · simp only[Gq]
     by_cases h:ep=ep'∧n=es.length
     · rw[if_pos h,if_pos h,Option.bind_some];split<;>rfl
     · rw[if_neg h,if_neg h];rfl
@[go_sem] theorem M9 (sz id ep n lo hi j sz' : Nat) (pin : Bool) (ep' : Nat) (es : List D) : Gq H sz id ep n lo hi j (some (.arr sz' pin ep' es)) =
 if ep=ep'∧n=es.length then(if lo+j<hi∧hi≤n∧sz'=sz then some (.ap id ep n (lo+j) 0,H)else none)else none:=(rfl)
def SK(len sz:Nat)(agg:Bool)(x i:Option D):Option (D×ag):=x.bind fun a=>(i.bind intOf).bind fun n=>(idx n).bind fun j=>(qm a j len sz agg).map fun d=>(d,H)
def Na(len sz:Nat)(agg:Bool)(a:D)(j:Nat):Option (D×ag):=(qm a j len sz agg).map fun d=>(d,H)
@[go_sem] theorem Wy (x i : X) (len sz : Nat) (agg : Bool) : evO call get H (.ix x i len sz agg) = SK H len sz agg (get x) (get i) := (rfl)
@[go_sem] theorem SL (len sz : Nat) (agg : Bool) (a : D) (k : IntKind) (n : Int) : SK H len sz agg (some a) (some (.t (.int k n))) = (idx n).bind (Na H len sz agg a) := by
 simp only[SK,Option.bind_some,intOf];cases idx n<;>rfl
@[go_sem] theorem Qn (len j : Nat) (ts : List T) (h : j < len) (hs : (ts.all fun t => t.scalar) = true) : Na H len 1 false (.t (.agg ts)) j = (ts[j]?).map fun t => (.t t, H) := by
 have h0:len≠0:=by omega
 unfold Na qm
 rw[if_neg h0,if_pos h]
 unfold lX cut
 simp only[D.isAgg,D.cells,T.cells,if_true,Nat.mul_one,List.length_map]
 by_cases hj:j<ts.length
 · rw[if_pos (by omega),List.getElem?_eq_getElem hj]
   have e:((ts.map D.t).drop j).take 1=[D.t ts[j]]:=by
    rw[List.drop_eq_getElem_cons (by simpa using hj)];simp
   rw[e];rfl
 · rw[if_neg (by omega),List.getElem?_eq_none (by omega)];rfl
def Gr(len sz:Nat)(x i:Option D):Option (D×ag):=x.bind fun a=>(i.bind intOf).bind fun n=>(idx n).bind fun j=>if j<len then(w8 a (j*sz)).map fun d=>(d,H)else none
@[go_sem] theorem U8 (x i : X) (len sz : Nat) : evO call get H (.iaa x i len sz) = Gr H len sz (get x) (get i) := (rfl)
def U9(len sz:Nat)(a:D)(j:Nat):Option (D×ag):=if j<len then J9 H (j*sz) a else none
@[go_sem] theorem SM (len sz : Nat) (a : D) (j : Nat) : U9 H len sz a j = if j < len then J9 H (j * sz) a else none := (rfl)
@[go_sem] theorem Qo (len sz : Nat) (a : D) (k : IntKind) (n : Int) : Gr H len sz (some a) (some (.t (.int k n))) = (idx n).bind (U9 H len sz a) := by
 simp only[Gr,Option.bind_some,intOf];cases idx n<;>rfl
def Bh(n:Nat)(agg:Bool)(a:D):Option (D×ag):=(mW H a n agg).map fun d=>(d,H)
@[go_sem] theorem Wz (x : X) (n : Nat) (agg : Bool) : evO call get H (.ld x n agg) = (get x).bind (Bh H n agg) := (rfl)
def Cl(off n:Nat)(agg:Bool):Option Obj→Option (D×ag)
 | some (.box cs)=>ofC H agg (cut cs off n)
 | _=>none
@[go_sem] theorem Qp (off n : Nat) (agg : Bool) (cs : List D) : Cl H off n agg (some (.box cs)) = ofC H agg (cut cs off n) := (rfl)
@[go_sem] theorem SN (id off n : Nat) (agg : Bool) : Bh H n agg (.bp id off) = Cl H off n agg H[id]? := by
 simp only[Bh,mW]
 generalize H[id]?=o
 rcases o with _ | (cs | _)
 · rfl
 · simp only[Cl,ofC];cases (cut cs off n).bind (cT agg)<;>rfl
 · rfl
@[go_sem] theorem SO (cs : List T) (n : Nat) (agg : Bool) : Bh H n agg (.ep cs) = ofC H agg (cut (cs.map .t) 0 n) := by
 simp only[Bh,mW,ofC];cases (cut _ 0 n).bind (cT agg)<;>rfl
def Qq(off n:Nat)(agg:Bool)(e:D):Option (D×ag):=ofC H agg (cut e.cells off n)
@[go_sem] theorem SP (off n : Nat) (agg : Bool) (e : D) : Qq H off n agg e = ofC H agg (cut e.cells off n) := (rfl)
def Gs(ep m i off n:Nat)(agg:Bool):Option Obj→Option (D×ag)
 | some (.arr _ _ ep' es)=>if ep=ep'∧m=es.length then es[i]?.bind (Qq H off n agg)else none
 | _=>none
@[go_sem] theorem Qr (ep m i off n : Nat) (agg : Bool) (sz : Nat) (pin : Bool) (ep' : Nat) (es : List D) :
 Gs H ep m i off n agg (some (.arr sz pin ep' es))=if ep=ep'∧m=es.length then es[i]?.bind (Qq H off n agg)else none:=(rfl)
@[go_sem] theorem SQ (id ep m i off n : Nat) (agg : Bool) : Bh H n agg (.ap id ep m i off) = Gs H ep m i off n agg H[id]? := by
 simp only[Bh,mW,dN]
 generalize H[id]?=o
 rcases o with _ | (_ | ⟨sz',pin,ep',es⟩)
 · rfl
 · rfl
 · simp only[Gs]
   by_cases h:ep=ep'∧m=es.length
   · rw[if_pos h,if_pos h,Option.bind_some]
     cases es[i]? with
     | none=>rfl
     | some e=>simp only[Option.bind_some,Qq,ofC];cases (cut e.cells off n).bind (cT agg)<;>rfl
   · rw[if_neg h,if_neg h];rfl
@[go_sem] theorem Ka (cs : List D) : (D.agg cs).cells = cs := (rfl)
@[go_sem] theorem Qs (x : T) : (D.t x).cells = x.cells.map .t := (rfl)
@[go_sem] theorem Kb : D.nil.cells = [.nil] := (rfl)
@[go_sem] theorem Nb (a b : Nat) : (D.bp a b).cells = [.bp a b] := (rfl)
@[go_sem] theorem Kc (a b c : Nat) : (D.ref a b c).cells = [.ref a b c] := (rfl)
@[go_sem] theorem Kd (a b c d e : Nat) : (D.sub a b c d e).cells = [.sub a b c d e] := (rfl)
@[go_sem] theorem Nc (f : Nat) (cs : List D) : (D.fn f cs).cells = [.fn f cs] := (rfl)
@[go_sem] theorem Gt : D.nilp.cells = [.nilp] := (rfl)
@[go_sem] theorem Ke (cs : List T) : (T.agg cs).cells = cs := (rfl)
@[go_sem] theorem Kf (k : IntKind) (n : Int) : (T.int k n).cells = [.int k n] := (rfl)
@[go_sem] theorem Gu (b : Bool) : (T.bool b).cells = [.bool b] := (rfl)
@[go_sem] theorem Kg (b : ByteArray) : (T.str b).cells = [.str b] := (rfl)
@[go_sem] theorem Nd (es : List T) : (T.sl es).cells = [.sl es] := (rfl)
def fits(n:Nat)(v:D):Bool:=decide (v.cells.length=n)&&v.eS
section
variable (n : Nat)
@[go_sem] theorem fits_int (k : IntKind) (a : Int) : fits 1 (.t (.int k a)) = true := (rfl)
@[go_sem] theorem fits_bool (b : Bool) : fits 1 (.t (.bool b)) = true := (rfl)
@[go_sem] theorem SR (es : List T) : fits 1 (.t (.sl es)) = true := (rfl)
@[go_sem] theorem Qt : fits 1 .nil = true := (rfl)
@[go_sem] theorem Qu (a b c : Nat) : fits 1 (.ref a b c) = true := (rfl)
@[go_sem] theorem Qv (a b c d e : Nat) : fits 1 (.sub a b c d e) = true := (rfl)
@[go_sem] theorem SS (a b : Nat) : fits 1 (.bp a b) = true := (rfl)
@[go_sem] theorem SU (f : Nat) (cs : List D) : fits 1 (.fn f cs) = true := (rfl)
@[go_sem] theorem Qw (cs : List D) : fits n (.agg cs) = iP n cs := by rw [Bool.eq_iff_iff, dD]; show (decide (cs.length = n) && true) = true ↔ _; simp
@[go_sem] theorem Nf (cs : List T) : fits n (.t (.agg cs)) = iP n cs := by rw [Bool.eq_iff_iff, dD]; simp [fits, D.cells, T.cells, D.eS]
end
@[go_sem] theorem Gv {α : Type} (cs : List α) : aS cs 0 [] = some cs := by simp [aS]
@[go_sem] theorem Gw {α : Type} (c x : α) (cs xs : List α) : aS (c :: cs) 0 (x :: xs) = gl x (aS cs 0 xs) := by
 simp only[aS,gl];by_cases h:xs.length≤cs.length<;>simp[h]
@[go_sem] theorem Gx {α : Type} (c : α) (cs : List α) (off : Nat) (xs : List α) : aS (c :: cs) (off + 1) xs = gl c (aS cs off xs) := by
 simp only[aS,gl,List.length_cons]
 by_cases h:off+xs.length≤cs.length
 · rw[if_pos h,if_pos (by omega)];simp[show off+1+xs.length=(off+xs.length)+1 by omega]
 · rw[if_neg h,if_neg (by omega)];rfl
def Gy(n:Nat)(live:List (Nat×Nat))(a x:Option D):Option (D×ag):=a.bind fun p=>x.bind fun d=>(nH H p d n).bind fun H'=>(ju H' p live).map fun H''=>(.tup [],H'')
@[go_sem] theorem WA (a x : X) (n : Nat) (live : List (Nat × Nat)) : evO call get H (.st a x n live) = Gy H n live (get a) (get x) := (rfl)
def qD(H:ag)(id:Nat)(live:List (Nat×Nat)):Option (D×ag):=(ju H (.bp id 0) live).map fun H'=>(.tup [],H')
def wy(id:Nat)(live:List (Nat×Nat))(cs:List D):Option (D×ag):=qD (H.set id (.box cs)) id live
@[go_sem] theorem Ng (id : Nat) (live : List (Nat × Nat)) (cs : List D) : wy H id live cs = qD (H.set id (.box cs)) id live := (rfl)
@[go_sem] theorem Kh (H : ag) (id : Nat) : qD H id [] = some (.tup [], H) := (rfl)
def Gz(id off:Nat)(live:List (Nat×Nat))(xs:List D):Option Obj→Option (D×ag)
 | some (.box cs)=>(aS cs off xs).bind (wy H id live)
 | _=>none
@[go_sem] theorem Qx (id off : Nat) (live : List (Nat × Nat)) (xs cs : List D) : Gz H id off live xs (some (.box cs)) = (aS cs off xs).bind (wy H id live) := (rfl)
@[go_sem] theorem SV (n id off : Nat) (live : List (Nat × Nat)) (v : D) : Gy H n live (some (.bp id off)) (some v) = if fits n v = true then Gz H id off live v.cells H[id]? else none := by
 by_cases h:fits n v=true
 case neg=>
  rw[if_neg h]
  simp only[fits,Bool.and_eq_true,decide_eq_true_eq]at h
  simp only[Gy,Option.bind_some,nH,if_neg h];rfl
 rw[if_pos h]
 simp only[fits,Bool.and_eq_true,decide_eq_true_eq]at h
 simp only[Gy,Option.bind_some,nH,h.1,h.2,and_self,if_true]
 generalize H[id]?=o
 rcases o with _ | (cs | _)
 · rfl
 · simp only[Gz]
   cases aS cs off v.cells with
   | none=>rfl
   | some cs'=>simp only[Option.map_some,Option.bind_some,wy,qD,ju]
 · rfl
def s9(id sz ep i:Nat)(es:List D)(agg:Bool)(cs:List D):Option (D×ag):=(cT agg cs).bind fun e=>if e.eS then some (.tup [],H.set id (.arr sz false ep (es.set i e)))else none
def Qy(id sz ep i off:Nat)(es xs:List D)(e:D):Option (D×ag):=(aS e.cells off xs).bind (s9 H id sz ep i es e.isAgg)
@[go_sem] theorem SW (id sz ep i off : Nat) (es xs : List D) (e : D) : Qy H id sz ep i off es xs e = (aS e.cells off xs).bind (s9 H id sz ep i es e.isAgg) := (rfl)
@[go_sem] theorem Nh (cs : List D) : (D.agg cs).isAgg = true := (rfl)
@[go_sem] theorem Ki (cs : List T) : (D.t (.agg cs)).isAgg = true := (rfl)
@[go_sem] theorem Ni (k : IntKind) (n : Int) : (D.t (.int k n)).isAgg = false := (rfl)
@[go_sem] theorem Kj (b : Bool) : (D.t (.bool b)).isAgg = false := (rfl)
@[go_sem] theorem Nj (b : ByteArray) : (D.t (.str b)).isAgg = false := (rfl)
@[go_sem] theorem Qz (es : List T) : (D.t (.sl es)).isAgg = false := (rfl)
@[go_sem] theorem Nk : D.nil.isAgg = false := (rfl)
@[go_sem] theorem Nl (a b c : Nat) : (D.ref a b c).isAgg = false := (rfl)
@[go_sem] theorem Nn (a b c d e : Nat) : (D.sub a b c d e).isAgg = false := (rfl)
@[go_sem] theorem SX (id sz ep i : Nat) (es : List D) (x : T) : s9 H id sz ep i es false [.t x] = some (.tup [], H.set id (.arr sz false ep (es.set i (.t x)))) := (rfl)
@[go_sem] theorem No (id sz ep i : Nat) (es : List D) : s9 H id sz ep i es false [.nil] = some (.tup [], H.set id (.arr sz false ep (es.set i .nil))) := (rfl)
@[go_sem] theorem Np (id sz ep i a b c : Nat) (es : List D) : s9 H id sz ep i es false [.ref a b c] = some (.tup [], H.set id (.arr sz false ep (es.set i (.ref a b c)))) := (rfl)
theorem uV(cs:List D):(kK cs).eS=true:=by unfold kK;cases jq cs<;>rfl
@[go_sem] theorem SY (id sz ep i : Nat) (es cs : List D) : s9 H id sz ep i es true cs = some (.tup [], H.set id (.arr sz false ep (es.set i (kK cs)))) := by
 simp[s9,cT,uV]
def GA(id ep m i off:Nat)(xs:List D):Option Obj→Option (D×ag)
 | some (.arr sz pin ep' es)=>if ep=ep'∧m=es.length then(if pin then none else es[i]?.bind (Qy H id sz ep i off es xs))else none
 | _=>none
@[go_sem] theorem QA (id ep m i off : Nat) (xs : List D) (sz : Nat) (pin : Bool) (ep' : Nat) (es : List D) :
 GA H id ep m i off xs (some (.arr sz pin ep' es))=if ep=ep'∧m=es.length then(if pin=true then none else es[i]?.bind (Qy H id sz ep i off es xs))else none:=(rfl)
@[go_sem] theorem SZ (n id ep m i off : Nat) (v : D) : Gy H n [] (some (.ap id ep m i off)) (some v) = if fits n v = true then GA H id ep m i off v.cells H[id]? else none := by
 by_cases h:fits n v=true
 case neg=>
  rw[if_neg h]
  simp only[fits,Bool.and_eq_true,decide_eq_true_eq]at h
  simp only[Gy,Option.bind_some,nH,if_neg h];rfl
 rw[if_pos h]
 simp only[fits,Bool.and_eq_true,decide_eq_true_eq]at h
 simp only[Gy,Option.bind_some,nH,h.1,h.2,and_self,if_true,dN]
 generalize H[id]?=o
 rcases o with _ | (_ | ⟨sz',pin,ep',es⟩)
 · rfl
 · rfl
 · simp only[GA]
   by_cases h:ep=ep'∧m=es.length
   · rw[if_pos h,if_pos h,Option.bind_some]
     cases pin with
     | true=>rfl
     | false=>
       simp only[Bool.false_eq_true,if_false]
       cases es[i]? with
       | none=>rfl
       | some e=>
         simp only[Option.bind_some,Qy]
         cases aS e.cells off v.cells with
         | none=>rfl
         | some cs'=>
           simp only[Option.bind_some,s9]
           cases cT e.isAgg cs' with
           | none=>rfl
           | some e'=>
             simp only[Option.bind_some]
             by_cases h3:e'.eS=true
             · rw[if_pos h3,if_pos h3,h.1];rfl
             · rw[if_neg h3,if_neg h3];rfl
   · rw[if_neg h,if_neg h];rfl
def GB(zero:List D)(ps:List (Nat×Nat×D)):Option (D×ag):=(lV zero ps).map fun cs=>(kK cs,H)
@[go_sem] theorem WB (zero : List D) (parts : List (Nat × Nat × X)) : evO call get H (.bd zero parts) = (gN get parts).bind (GB H zero) := (rfl)
@[go_sem] theorem D1 : gN get [] = some [] := (rfl)
def Nq(off n:Nat)(r:List (Nat×Nat×X))(d:D):Option (List (Nat×Nat×D)):=gl (off,n,d) (gN get r)
@[go_sem] theorem QB (off n : Nat) (r : List (Nat × Nat × X)) (d : D) : Nq get off n r d = gl (off, n, d) (gN get r) := (rfl)
@[go_sem] theorem Cm (off n : Nat) (x : X) (r : List (Nat × Nat × X)) : gN get ((off, n, x) :: r) = (get x).bind (Nq get off n r) := (rfl)
@[go_sem] theorem QC (zero : List D) : GB H zero [] = some (kK zero, H) := (rfl)
def bdC(r:List (Nat×Nat×D))(z:List D):Option (D×ag):=GB H z r
@[go_sem] theorem Va (r : List (Nat × Nat × D)) (z : List D) : bdC H r z = GB H z r := (rfl)
@[go_sem] theorem Nr (zero : List D) (off n : Nat) (x : D) (r : List (Nat × Nat × D)) : GB H zero ((off, n, x) :: r) = if fits n x = true then (aS zero off x.cells).bind (bdC H r) else none := by
 by_cases h:fits n x=true
 case neg=>
  rw[if_neg h]
  have h2:(x.eS&&x.cells.length==n)=false:=by rw[← Bool.not_eq_true,Bool.and_comm];simpa [fits]using h
  simp only[GB,lV,h2];rfl
 rw[if_pos h]
 simp only[fits,Bool.and_eq_true,decide_eq_true_eq]at h
 simp only[GB,lV,h.1,h.2,beq_self_eq_true,Bool.and_self,if_true]
 cases aS zero off x.cells<;>rfl
def bu(n:Nat):List T→Bool
 | []=>true
 | x::r=>iP n x.cells&&bu n r
@[go_sem] theorem D2 (n : Nat) : bu n [] = true := (rfl)
@[go_sem] theorem mC (n : Nat) (x : T) (r : List T) : bu n (x :: r) = (iP n x.cells && bu n r) := (rfl)
def qE(sz:Nat)(ds:List D):Option (D×ag):=if ds.all (fun d=>d.cells.length==sz)then(bF (frz H depth) ds).map fun ts=>(.t (.sl ts),pins H (ds.flatMap (di H depth)))else none
@[go_sem] theorem WC (xs : List X) (sz : Nat) : evO call get H (.bs xs sz) = (bF get xs).bind (qE H sz) := (rfl)
theorem Ns(sz:Nat)(ds:List D)(ts:List T)(h:jq ds=some ts)(hc:bu sz ts=true):qE H sz ds=some (.t (.sl ts),H):=by
 have key:∀(ds:List D) (ts:List T),jq ds=some ts→bu sz ts=true→ds.all (fun d=>d.cells.length==sz)=true∧bF (frz H depth) ds=some ts∧ds.flatMap (di H depth)=[]:=by
  intro ds
  induction ds with
  | nil=>intro ts h hc;simp[jq]at h;subst h;simp[bF]
  | cons d ds ih=>
    intro ts h hc
    cases d with
    | t x=>
      simp only[jq,Option.map_eq_some_iff]at h
      obtain⟨r,hr,rfl⟩:=h
      simp only[bu,Bool.and_eq_true,dD]at hc
      obtain⟨h1,h2,h3⟩:=ih r hr hc.2
      refine⟨by rw[List.all_cons,h1,Bool.and_true];simp[D.cells,hc.1],by simp[bF,frz,h2],by rw[List.flatMap_cons,h3];simp[di]⟩
    | _=>simp[jq]at h
 obtain⟨h1,h2,h3⟩:=key ds ts h hc
 simp[qE,h1,h2,h3,pins]
theorem ke(sz:Nat)(ts:List T):qE H sz (ts.map D.t)=if bu sz ts=true then some (.t (.sl ts),H)else none:=by
 by_cases h:bu sz ts=true
 · rw[if_pos h];exact Ns H sz _ ts (Cj ts) h
 · rw[if_neg h]
   have:(ts.map D.t).all (fun d=>d.cells.length==sz)=false:=by
    rw[← Bool.not_eq_true];intro ha;apply h
    clear h
    induction ts with
    | nil=>rfl
    | cons a r ih=>
      simp only[List.map_cons,List.all_cons,Bool.and_eq_true,beq_iff_eq]at ha
      simp only[bu,Bool.and_eq_true,dD]
      exact⟨by simpa [D.cells]using ha.1,ih ha.2⟩
   simp only[qE,this];rfl
@[go_sem] theorem Vb (sz : Nat) : qE H sz [] = some (.t (.sl []), H) := (rfl)
@[go_sem] theorem Vc (sz : Nat) (a : T) : qE H sz [.t a] = if bu sz [a] = true then some (.t (.sl [a]), H) else none := ke H sz [a]
@[go_sem] theorem Vd (sz : Nat) (a b : T) : qE H sz [.t a, .t b] = if bu sz [a, b] = true then some (.t (.sl [a, b]), H) else none := ke H sz [a, b]
@[go_sem] theorem Ve (sz : Nat) (a b c : T) : qE H sz [.t a, .t b, .t c] = if bu sz [a, b, c] = true then some (.t (.sl [a, b, c]), H) else none := ke H sz [a, b, c]
@[go_sem] theorem Vf (sz : Nat) (a b c d : T) : qE H sz [.t a, .t b, .t c, .t d] = if bu sz [a, b, c, d] = true then some (.t (.sl [a, b, c, d]), H) else none := ke H sz [a, b, c, d]
@[go_sem] theorem Vg (sz : Nat) (a b c d e : T) : qE H sz [.t a, .t b, .t c, .t d, .t e] = if bu sz [a, b, c, d, e] = true then some (.t (.sl [a, b, c, d, e]), H) else none := ke H sz [a, b, c, d, e]
def Nt(a:D):Option (D×ag):=(PB a).map fun(n:Nat)=>(D.t (.int .i64 (n:Int)),H)
@[go_sem] theorem WD (x : X) : evO call get H (.ln x) = (get x).bind (Nt H) := (rfl)
@[go_sem] theorem S2 (es : List T) : Nt H (.t (.sl es)) = some (I es.length, H) := (rfl)
@[go_sem] theorem QD : Nt H .nil = some (I 0, H) := (rfl)
@[go_sem] theorem QE (id ep n : Nat) : Nt H (.ref id ep n) = some (I n, H) := (rfl)
@[go_sem] theorem QF (id ep n lo hi : Nat) : Nt H (.sub id ep n lo hi) = some (I ((hi - lo : Nat) : Int), H) := (rfl)
def Nu(ds:List D):Option (D×ag):=(L5 ds).map fun d=>(d,H)
def Nv(ds:List D):Option (D×ag):=(L6 ds).map fun d=>(d,H)
@[go_sem] theorem WE (xs : List X) : evO call get H (.mn xs) = (bF get xs).bind (Nu H) := (rfl)
@[go_sem] theorem WG (xs : List X) : evO call get H (.mx xs) = (bF get xs).bind (Nv H) := (rfl)
@[go_sem] theorem Vh (k : IntKind) (a b : Int) : Nu H [.t (.int k a), .t (.int k b)] = some (.t (.int k (min a b)), H) := by
 simp only[Nu,L5,p0,if_true,Option.map_some];congr 4;omega
@[go_sem] theorem Vi (k : IntKind) (a b : Int) : Nv H [.t (.int k a), .t (.int k b)] = some (.t (.int k (max a b)), H) := by
 simp only[Nv,L6,p0,if_true,Option.map_some];congr 4;omega
@[go_sem] theorem Vj (k : IntKind) (a b c : Int) : Nu H [.t (.int k a), .t (.int k b), .t (.int k c)] = some (.t (.int k (min (min a b) c)), H) := by
 simp only[Nu,L5,p0,if_true,Option.map_some];congr 4;omega
@[go_sem] theorem Vk (k : IntKind) (a b c : Int) : Nv H [.t (.int k a), .t (.int k b), .t (.int k c)] = some (.t (.int k (max (max a b) c)), H) := by
 simp only[Nv,L6,p0,if_true,Option.map_some];congr 4;omega
def ta(sz:Nat)(x:Option D)(lo hi:Option (Option Int)):Option (D×ag):=x.bind fun a=>lo.bind fun l=>hi.bind fun h=>(iE H a l h sz).map fun d=>(d,H)
@[go_sem] theorem WH (x : X) (lo hi : Option X) (sz : Nat) : evO call get H (.sc x lo hi sz) = ta H sz (get x) (xa get lo) (xa get hi) := (rfl)
def Nw:D→Option (Option Int)
 | .t (.int _ n)=>some (some n)
 | _=>none
@[go_sem] theorem QG (k : IntKind) (n : Int) : Nw (.t (.int k n)) = some (some n) := (rfl)
@[go_sem] theorem Nx : xa get none = some none := (rfl)
@[go_sem] theorem Ny (x : X) : xa get (some x) = (get x).bind Nw := by
 simp only[xa];cases get x with
 | none=>rfl
 | some d=>cases d with
   | t y=>cases y<;>rfl
   | _=>rfl
def S3(i:Nat)(a:D):Option (D×ag):=(L7 i a).map fun d=>(d,H)
@[go_sem] theorem WI (x : X) (i : Nat) : evO call get H (.ex x i) = (get x).bind (S3 H i) := (rfl)
def exO:Option D→Option (D×ag)
 | some d=>some (d,H)
 | none=>none
@[go_sem] theorem QH (d : D) : exO H (some d) = some (d, H) := (rfl)
@[go_sem] theorem QI (i : Nat) (ds : List D) : S3 H i (.tup ds) = exO H ds[i]? := by simp only [S3, L7, exO]; cases ds[i]? <;> rfl
def S4(f:Nat)(ds:List D):Option (D×ag):=some (.fn f ds,H)
@[go_sem] theorem S5 (f : Nat) (ds : List D) : S4 H f ds = some (.fn f ds, H) := (rfl)
@[go_sem] theorem WJ (f : Nat) (caps : List X) : evO call get H (.mf f caps) = (bF get caps).bind (S4 H f) := by simp only [evO, S4]; cases bF get caps <;> rfl
@[go_sem] theorem WK (sz : Nat) : evO call get H (.nw sz) = some (.ref H.length 0 0, H ++ [.arr sz false 0 []]) := (rfl)
def alP(p:List D×ag):Option (D×ag):=some (.bp H.length 0,H++ .box p.1::p.2)
@[go_sem] theorem Vl (cs : List D) (os : ag) : alP H (cs, os) = some (.bp H.length 0, H ++ .box cs :: os) := (rfl)
@[go_sem] theorem WL (zero : List D) (live : List (Nat × Nat)) : evO call get H (.al zero live) = alP H (bo (H.length + 1) zero live) := (rfl)
@[go_sem] theorem GC (base : Nat) (cs : List D) : bo base cs [] = (cs, []) := (rfl)
def S6(n:Nat)(a:D):Option (D×ag):=if a.cells.length=n∧a.eS then some (.bp H.length 0,H++[.box a.cells])else none
@[go_sem] theorem WM (x : X) (n : Nat) : evO call get H (.bx x n) = (get x).bind (S6 H n) := (rfl)
@[go_sem] theorem S7 (n : Nat) (a : D) : S6 H n a = if fits n a = true then some (.bp H.length 0, H ++ [.box a.cells]) else none := by
 simp[S6,fits]
def QJ(sz:Nat)(zero:D)(n:Option Nat):Option (D×ag):=n.bind fun m=>if m≤lim then some (.ref H.length 0 m,H++[.arr sz false 0 (List.replicate m zero)])else none
def mkN(sz:Nat)(zero:D):D→Option (D×ag)
 | .t (.int _ n)=>QJ H sz zero (idx n)
 | _=>none
@[go_sem] theorem S8 (sz : Nat) (zero : D) (k : IntKind) (n : Int) : mkN H sz zero (.t (.int k n)) = QJ H sz zero (idx n) := (rfl)
@[go_sem] theorem WN (len : X) (zero : D) (sz : Nat) : evO call get H (.mk len zero sz) = (get len).bind (mkN H sz zero) := by
 simp only[evO];cases get len with
 | none=>rfl
 | some d=>cases d with
   | t y=>cases y<;>rfl
   | _=>rfl
@[go_sem] theorem S9 (sz : Nat) (zero : D) (m : Nat) (h : m ≤ 4294967296) : QJ H sz zero (some m) = some (.ref H.length 0 m, H ++ [.arr sz false 0 (List.replicate m zero)]) := by
 simp[QJ,lim,h]
def Cn(zero:T)(n:Option Nat):Option (D×ag):=n.bind fun m=>if m≤lim then some (.t (.sl (List.replicate m zero)),H)else none
def Vm(zero:T):D→Option (D×ag)
 | .t (.int _ n)=>Cn H zero (idx n)
 | _=>none
@[go_sem] theorem QK (zero : T) (k : IntKind) (n : Int) : Vm H zero (.t (.int k n)) = Cn H zero (idx n) := (rfl)
@[go_sem] theorem Vn (len : X) (zero : T) (sz : Nat) : evO call get H (.mkt len zero sz) = (get len).bind (Vm H zero) := by
 simp only[evO];cases get len with
 | none=>rfl
 | some d=>cases d with
   | t y=>cases y<;>rfl
   | _=>rfl
@[go_sem] theorem QL (zero : T) (m : Nat) (h : m ≤ 4294967296) : Cn H zero (some m) = some (.t (.sl (List.replicate m zero)), H) := by
 simp[Cn,lim,h]
def iA(sz:Nat)(fz:Bool)(x y:Option D):Option (D×ag):=x.bind fun a=>y.bind fun b=>gA H a b fz sz
@[go_sem] theorem Vo (x y : X) (fz : Bool) (sz : Nat) : evO call get H (.app x y fz sz) = iA H sz fz (get x) (get y) := (rfl)
def nW(sz id ep n:Nat)(ys:List D):Option Obj→Option (D×ag)
 | some (.arr sz' pin ep' es)=>if ep=ep'∧n=es.length∧sz'=sz∧n+ys.length≤lim then some (.ref id ep (n+ys.length),H.set id (.arr sz pin ep (es++ys)))else none
 | _=>none
@[go_sem] theorem Nz (sz id ep n : Nat) (ys : List D) (pin : Bool) (es : List D) :
 nW H sz id ep n ys (some (.arr sz pin ep es))=if n=es.length then(if n+ys.length≤4294967296 then some (.ref id ep (n+ys.length),H.set id (.arr sz pin ep (es++ys)))else none)else none:=by
 simp only[nW,lim]
 by_cases h1:n=es.length
 · rw[if_pos h1]
   by_cases h2:n+ys.length≤4294967296
   · rw[if_pos h2,if_pos ⟨trivial,h1,trivial,h2⟩]
   · rw[if_neg h2,if_neg fun h=>h2 h.2.2.2]
 · rw[if_neg h1,if_neg fun h=>h1 h.2.1]
theorem mD(ts:List T):bF (fun d=>(frz H depth d).map D.t) (ts.map D.t)=some (ts.map D.t):=by
 induction ts with
 | nil=>rfl
 | cons t ts ih=>simp[bF,frz,ih]
theorem zp(ts:List T):(ts.map D.t).flatMap (di H depth)=[]:=by
 induction ts with
 | nil=>rfl
 | cons t ts ih=>rw[List.map_cons,List.flatMap_cons,ih];simp[di,depth]
theorem tc(sz:Nat)(fz:Bool)(x:D)(ts:List T)(h:b6 sz (ts.map D.t)=false):iA H sz fz (some x) (some (.t (.sl ts)))=none:=by
 have e1:(if fz then bF (fun d=>(frz H depth d).map D.t) (ts.map D.t)else some (ts.map D.t))=some (ts.map D.t):=by
  cases fz<;>simp[mD]
 simp only[iA,Option.bind_some,gA,elems,e1,h,Bool.false_eq_true,if_false]
def gP(sz:Nat)(ts:List T):Bool:=b6 sz (ts.map D.t)
theorem zq(sz id ep n:Nat)(fz:Bool)(ts:List T)(h:gP sz ts=true):iA H sz fz (some (.ref id ep n)) (some (.t (.sl ts)))=nW H sz id ep n (ts.map .t) H[id]?:=by
 have e1:(if fz then bF (fun d=>(frz H depth d).map D.t) (ts.map D.t)else some (ts.map D.t))=some (ts.map D.t):=by
  cases fz<;>simp[mD]
 have e2:(if fz then pins H ((ts.map D.t).flatMap (di H depth))else H)=H:=by
  cases fz
  · rfl
  · simp only[if_true];rw[zp];rfl
 unfold gP at h
 simp only[iA,Option.bind_some,gA,elems,e1,h,if_true,e2,dN]
 generalize H[id]?=o
 rcases o with _ | (_ | ⟨sz',pin,ep',es⟩)
 · rfl
 · rfl
 · simp only[nW]
   by_cases h1:ep=ep'∧n=es.length
   · rw[if_pos h1,Option.bind_some]
     by_cases h2:sz'=sz∧n+(ts.map D.t).length≤lim
     · rw[if_pos h2,if_pos ⟨h1.1,h1.2,h2⟩]
     · rw[if_neg h2,if_neg fun h=>h2 h.2.2]
   · rw[if_neg h1,if_neg fun h=>h1 ⟨h.1,h.2.1⟩];rfl
@[go_sem] theorem NA (sz id ep n : Nat) (fz : Bool) (ts : List T) : iA H sz fz (some (.ref id ep n)) (some (.t (.sl ts))) = if gP sz ts = true then nW H sz id ep n (ts.map .t) H[id]? else none := by
 by_cases h:gP sz ts=true
 · rw[if_pos h,zq H sz id ep n fz ts h]
 · rw[if_neg h];exact tc H sz fz _ ts (by simpa [gP]using h)
@[go_sem] theorem NB (sz : Nat) (fz : Bool) (ts : List T) : iA H sz fz (some .nil) (some (.t (.sl ts))) =
 if gP sz ts=true then(if ts.length≤4294967296 then some (.ref H.length 0 ts.length,H++[.arr sz false 0 (ts.map .t)])else none)else none:=by
 by_cases h:gP sz ts=true
 · rw[if_pos h]
   have e1:(if fz then bF (fun d=>(frz H depth d).map D.t) (ts.map D.t)else some (ts.map D.t))=some (ts.map D.t):=by
    cases fz<;>simp[mD]
   have e2:(if fz then pins H ((ts.map D.t).flatMap (di H depth))else H)=H:=by
    cases fz
    · rfl
    · simp only[if_true];rw[zp];rfl
   unfold gP at h
   simp only[iA,Option.bind_some,gA,elems,e1,h,if_true,e2,lim,List.length_map]
 · rw[if_neg h];exact tc H sz fz _ ts (by simpa [gP]using h)
@[go_sem] theorem NC (sz : Nat) : gP sz [] = true := (rfl)
@[go_sem] theorem Kk (sz : Nat) (x : T) (r : List T) : gP sz (x :: r) = iP sz x.cells := by
 rw[Bool.eq_iff_iff,dD];simp[gP,b6,D.cells]
@[go_sem] theorem ND (l : List Int) (k : IntKind) : gP 1 (l.map (.int k)) = true := by cases l <;> rfl
@[go_sem] theorem Kl (l : List Bool) : gP 1 (l.map .bool) = true := by cases l <;> rfl
@[go_sem] theorem QM (l : List (List T)) : gP 1 (l.map .sl) = true := by cases l <;> rfl
def xw(call:aM)(f raw:Nat)(keep:List Nat)(ds:List D):Option (D×ag):=lW call H f raw keep ds
@[go_sem] theorem WO (f raw : Nat) (keep : List Nat) (xs : List X) : evO call get H (.ca f raw keep xs) = (bF get xs).bind (xw H call f raw keep) := (rfl)
def Vp(call:aM)(raw:Nat)(keep:List Nat)(x:Option D)(xs:Option (List D)):Option (D×ag):=x.bind fun
 | .fn f caps=>xs.bind fun ds=>lW call H f raw keep (ds++caps)
 | _=>none
@[go_sem] theorem WQ (x : X) (raw : Nat) (keep : List Nat) (xs : List X) : evO call get H (.cw x raw keep xs) = Vp H call raw keep (get x) (bF get xs) := (rfl)
@[go_sem] theorem Ta (raw : Nat) (keep : List Nat) (f : Nat) (caps ds : List D) : Vp H call raw keep (some (.fn f caps)) (some ds) = xw H call f raw keep (ds ++ caps) := (rfl)
def gQ(H:ag):List D→Option (List T)
 | []=>some []
 | .t x::r=>gl x (gQ H r)
 | .nil::r=>gl (.sl []) (gQ H r)
 | _::_=>none
@[go_sem] theorem Tb : gQ H [] = some [] := (rfl)
@[go_sem] theorem Tc (x : T) (r : List D) : gQ H (.t x :: r) = gl x (gQ H r) := (rfl)
@[go_sem] theorem NF (r : List D) : gQ H (.nil :: r) = gl (.sl []) (gQ H r) := (rfl)
@[go_sem] theorem NG (cs : List D) (r : List D) : gQ H (.agg cs :: r) = none := (rfl)
@[go_sem] theorem QN (a b : Nat) (r : List D) : gQ H (.bp a b :: r) = none := (rfl)
@[go_sem] theorem NH (a b c : Nat) (r : List D) : gQ H (.ref a b c :: r) = none := (rfl)
@[go_sem] theorem NI (a b c d e : Nat) (r : List D) : gQ H (.sub a b c d e :: r) = none := (rfl)
@[go_sem] theorem QO (f : Nat) (cs : List D) (r : List D) : gQ H (.fn f cs :: r) = none := (rfl)
@[go_sem] theorem QP (a b c d e : Nat) (r : List D) : gQ H (.ap a b c d e :: r) = none := (rfl)
@[go_sem] theorem QQ (cs : List T) (r : List D) : gQ H (.ep cs :: r) = none := (rfl)
@[go_sem] theorem Km (r : List D) : gQ H (.nilp :: r) = none := (rfl)
@[go_sem] theorem NJ (r : List D) : gQ H (.und :: r) = none := (rfl)
end
theorem lE(H:ag):∀ {ds:List D} {ts:List T},gQ H ds=some ts→∀i,jt H [] i ds=some (ts.map .t)∧bS H [] i ds=[]
 | [],ts,h,i=>by simp[gQ]at h;subst h;exact⟨rfl,rfl⟩
 | d::r,ts,h,i=>by
   cases d with
   | t x=>
     simp only[gQ,gl,Option.map_eq_some_iff]at h
     obtain⟨l,hl,rfl⟩:=h
     obtain⟨h1,h2⟩:=lE H hl (i+1)
     exact⟨by simp[jt,lp,h1],by simp[bS,di,depth,h2]⟩
   | nil=>
     simp only[gQ,gl,Option.map_eq_some_iff]at h
     obtain⟨l,hl,rfl⟩:=h
     obtain⟨h1,h2⟩:=lE H hl (i+1)
     exact⟨by simp[jt,lp,h1],by simp[bS,di,depth,h2]⟩
   | _=>simp[gQ]at h
theorem zr(ts:List T)(n:Nat):(ts.map D.t).flatMap (ids n)=[]:=by
 induction ts with
 | nil=>rfl
 | cons t ts ih=>rw[List.map_cons,List.flatMap_cons,ih];simp[ids]
theorem GD(f:Nat→Option Nat)(ts:List T):bF (ren f depth) (ts.map .t)=some (ts.map .t):=by
 induction ts with
 | nil=>rfl
 | cons t ts ih=>simp[bF,ren,depth]at ih ⊢;exact ih
def ov:D→Bool
 | .t _=>true
 | .tup ds=>ds.all fun | .t _=>true | _=>false
 | _=>false
theorem rF{f:Nat→Option Nat}{d:D}(h:ov d=true):ren f depth d=some d:=by
 cases d with
 | t x=>rfl
 | tup ds=>
   simp only[ov]at h
   have:bF (ren f 7) ds=some ds:=by
    induction ds with
    | nil=>rfl
    | cons d ds ih=>
      simp only[List.all_cons,Bool.and_eq_true]at h
      cases d with
      | t x=>simp[bF,ren,ih h.2]
      | _=>simp at h
   simp[ren,depth,this]
 | _=>simp[ov]at h
def pG(H:ag)(p:D×ag):Option (D×ag):=if ov p.1&&p.2.isEmpty then some (p.1,H)else
 (ren (cO [] H.length) depth p.1).bind fun r'=>(bF (ei (cO [] H.length)) p.2).map fun os=>(r',H++os)
@[go_sem] theorem Td (H : ag) (x : T) : pG H (.t x, []) = some (.t x, H) := (rfl)
@[go_sem] theorem Te (H : ag) : pG H (.tup [], []) = some (.tup [], H) := (rfl)
@[go_sem] theorem Tf (H : ag) (x y : T) : pG H (.tup [.t x, .t y], []) = some (.tup [.t x, .t y], H) := (rfl)
@[go_sem] theorem Tg (H : ag) (x y z : T) : pG H (.tup [.t x, .t y, .t z], []) = some (.tup [.t x, .t y, .t z], H) := (rfl)
@[go_sem] theorem Th (H : ag) (x y z u : T) : pG H (.tup [.t x, .t y, .t z, .t u], []) = some (.tup [.t x, .t y, .t z, .t u], H) := (rfl)
theorem zt(H:ag)(call:aM)(f raw:Nat)(ds:List D)(ts:List T)(h:gQ H ds=some ts):
 xw H call f raw [] ds=(call raw f (ts.map .t) []).bind (pG H):=by
 obtain⟨h1,h2⟩:=lE H h 0
 simp only[xw,lW,h1,Option.bind_some,zr,dw,reach,j4,List.flatMap_nil,h2,pins,GD,pick,bF]
 cases hc:call raw f (ts.map .t) []with
 | none=>rfl
 | some p=>
   obtain⟨d,os⟩:=p
   simp only[Option.bind_some,List.isEmpty_nil,Bool.true_and,pG]
   by_cases h3:os=[]
   · subst h3
     simp only[List.isEmpty_nil,Bool.true_and,Bool.and_true,bF,Option.map_some,List.length_nil,List.take_nil,cg,List.drop_nil,List.append_nil]
     by_cases h4:ov d=true
     · rw[if_pos h4]
       split
       · rfl
       · rw[rF h4];rfl
     · rw[if_neg h4]
       split
       · rename_i h5
         exfalso
         apply h4
         cases d with
         | t x=>rfl
         | tup ds=>
           simp only[jr,List.all_eq_true]at h5
           simp only[ov,List.all_eq_true]
           intro y hy
           have:=h5 y hy
           cases y<;>simp_all [cG]
         | _=>simp[jr]at h5
       · rfl
   · have:os.isEmpty=false:=by cases os<;>simp_all
     simp only[this,Bool.false_and,Bool.and_false,if_false,Bool.false_eq_true,List.length_nil,List.take_zero,cg,List.drop_zero]
@[go_sem] theorem Kn (st : St) : eY st [] = some [] := (rfl)
def Vq(st:St)(r:List (Nat×Option (Nat×Bool)))(d:D):Option (List D):=gl d (eY st r)
@[go_sem] theorem Tj (vs : List D) (H : ag) (r : List (Nat × Option (Nat × Bool))) (d : D) : Vq ⟨vs, H⟩ r d = gl d (eY ⟨vs, H⟩ r) := (rfl)
@[go_sem] theorem Ko (vs : List D) (H : ag) (j : Nat) (r : List (Nat × Option (Nat × Bool))) : eY ⟨vs, H⟩ ((j, none) :: r) = vs[j]?.bind (Vq ⟨vs, H⟩ r) := (rfl)
def Tl(st:St)(r:List (Nat×Option (Nat×Bool)))(p:D×ag):Option (List D):=gl p.1 (eY st r)
@[go_sem] theorem Tm (vs : List D) (H : ag) (r : List (Nat × Option (Nat × Bool))) (d : D) (H' : ag) : Tl ⟨vs, H⟩ r (d, H') = gl d (eY ⟨vs, H⟩ r) := (rfl)
def Tn(st:St)(n:Nat)(agg:Bool)(r:List (Nat×Option (Nat×Bool)))(p:D):Option (List D):=(Bh st.H n agg p).bind (Tl st r)
@[go_sem] theorem To (vs : List D) (H : ag) (n : Nat) (agg : Bool) (r : List (Nat × Option (Nat × Bool))) (p : D) : Tn ⟨vs, H⟩ n agg r p = (Bh H n agg p).bind (Tl ⟨vs, H⟩ r) := (rfl)
@[go_sem] theorem GF (vs : List D) (H : ag) (j n : Nat) (agg : Bool) (r : List (Nat × Option (Nat × Bool))) : eY ⟨vs, H⟩ ((j, some (n, agg)) :: r) = vs[j]?.bind (Tn ⟨vs, H⟩ n agg r) := by
 simp only[eY]
 cases vs[j]? with
 | none=>rfl
 | some p=>
   simp only[Option.bind_some,Tn,Bh]
   cases mW H p n agg<;>rfl
@[go_sem] theorem Tp (H : ag) (n : Nat) (x : T) : frz H n (.t x) = some x := by cases n <;> rfl
@[go_sem] theorem Tq (H : ag) (n : Nat) : frz H n .nil = some (.sl []) := by cases n <;> rfl
@[go_sem] theorem Ts (H : ag) (n : Nat) (cs : List D) : frz H (n + 1) (.agg cs) = (bF (frz H n) cs).map .agg := (rfl)
@[go_sem] theorem xx (H : ag) (n : Nat) (ts : List T) : bF (frz H n) (ts.map .t) = some ts := by
 induction ts with
 | nil=>rfl
 | cons t ts ih=>simp[bF,Tp,ih]
def frA(H:ag)(n ep m lo hi:Nat):Option Obj→Option T
 | some (.arr _ _ ep' es)=>if ep=ep'∧m=es.length then(bF (frz H n) ((es.drop lo).take (hi-lo))).map .sl else none
 | _=>none
def frR(H:ag)(n ep m:Nat):Option Obj→Option T
 | some (.arr _ _ ep' es)=>if ep=ep'∧m=es.length then(bF (frz H n) es).map .sl else none
 | _=>none
@[go_sem] theorem Tt (H : ag) (n id ep m : Nat) : frz H (n + 1) (.ref id ep m) = frR H n ep m H[id]? := by
 simp only[frz,dN]
 generalize H[id]?=o
 rcases o with _ | (_ | ⟨sz',pin,ep',es⟩)
 · rfl
 · rfl
 · simp only[frR]
   by_cases h:ep=ep'∧m=es.length
   · rw[if_pos h,if_pos h];rfl
   · rw[if_neg h,if_neg h];rfl
@[go_sem] theorem Tu (H : ag) (n id ep m lo hi : Nat) : frz H (n + 1) (.sub id ep m lo hi) = frA H n ep m lo hi H[id]? := by
 simp only[frz,dN]
 generalize H[id]?=o
 rcases o with _ | (_ | ⟨sz',pin,ep',es⟩)
 · rfl
 · rfl
 · simp only[frA]
   by_cases h:ep=ep'∧m=es.length
   · rw[if_pos h,if_pos h];rfl
   · rw[if_neg h,if_neg h];rfl
@[go_sem] theorem Tv (H : ag) (n ep m sz : Nat) (pin : Bool) (es : List D) : frR H n ep m (some (.arr sz pin ep es)) = if m = es.length then (bF (frz H n) es).map .sl else none := by simp [frR]
@[go_sem] theorem Tw (H : ag) (n ep m lo hi sz : Nat) (pin : Bool) (es : List D) : frA H n ep m lo hi (some (.arr sz pin ep es)) = if m = es.length then (bF (frz H n) ((es.drop lo).take (hi - lo))).map .sl else none := by simp [frA]
@[go_sem] theorem NK (H : ag) (x : T) : lp H (.t x) = some (.t x) := (rfl)
@[go_sem] theorem QR (H : ag) : lp H .nil = some (.t (.sl [])) := (rfl)
@[go_sem] theorem QS (H : ag) (cs : List D) : lp H (.agg cs) = (frz H 8 (.agg cs)).map .t := (rfl)
@[go_sem] theorem QT (H : ag) (id ep n : Nat) : lp H (.ref id ep n) = (frz H 8 (.ref id ep n)).map .t := (rfl)
@[go_sem] theorem QU (H : ag) (id ep n lo hi : Nat) : lp H (.sub id ep n lo hi) = (frz H 8 (.sub id ep n lo hi)).map .t := (rfl)
@[go_sem] theorem GG (H : ag) (id off : Nat) : lp H (.bp id off) = some (.bp id off) := (rfl)
@[go_sem] theorem Tx (H : ag) (id ep n i off : Nat) : lp H (.ap id ep n i off) = some (.ap id ep n i off) := (rfl)
@[go_sem] theorem Ty (H : ag) (cs : List T) : lp H (.ep cs) = some (.ep cs) := (rfl)
@[go_sem] theorem Tz (H : ag) (f : Nat) (cs : List D) : lp H (.fn f cs) = some (.fn f cs) := (rfl)
def ltB:Nat→Nat→Bool
 | _,0=>false
 | 0,_+1=>true
 | m+1,n+1=>ltB m n
@[go_sem] theorem WR (m : Nat) : ltB m 0 = false := by cases m <;> rfl
@[go_sem] theorem Vr (n : Nat) : ltB 0 (n + 1) = true := (rfl)
@[go_sem] theorem Vs (m n : Nat) : ltB (m + 1) (n + 1) = ltB m n := (rfl)
theorem jE:∀ {m n:Nat},ltB m n=decide (m<n)
 | m,0=>by cases m<;>simp[ltB]
 | 0,n+1=>by simp[ltB]
 | m+1,n+1=>by simp[ltB,jE (m:=m) (n:=n)]
def eqB:Nat→Nat→Bool
 | 0,0=>true
 | m+1,n+1=>eqB m n
 | _,_=>false
@[go_sem] theorem Vt : eqB 0 0 = true := (rfl)
@[go_sem] theorem Vu (n : Nat) : eqB 0 (n + 1) = false := (rfl)
@[go_sem] theorem Vv (n : Nat) : eqB (n + 1) 0 = false := (rfl)
@[go_sem] theorem Vw (m n : Nat) : eqB (m + 1) (n + 1) = eqB m n := (rfl)
theorem uW:∀ {m n:Nat},eqB m n=decide (m=n)
 | 0,0=>rfl
 | 0,n+1=>rfl
 | m+1,0=>rfl
 | m+1,n+1=>by simp[eqB,uW (m:=m) (n:=n)]
section
variable (k n : Nat)
@[go_sem] theorem TA (x : T) : old k n (.t x) = true := by cases n <;> rfl
@[go_sem] theorem TC : old k n .nil = true := by cases n <;> rfl
@[go_sem] theorem Vx (cs : List T) : old k n (.ep cs) = true := by cases n <;> rfl
@[go_sem] theorem QV : old k n .nilp = true := by cases n <;> rfl
@[go_sem] theorem TD : old k n .und = true := by cases n <;> rfl
@[go_sem] theorem NL (id off : Nat) : old k n (.bp id off) = ltB id k := by cases n <;> simp [old, jE]
@[go_sem] theorem Vy (id ep m i off : Nat) : old k n (.ap id ep m i off) = ltB id k := by cases n <;> simp [old, jE]
@[go_sem] theorem TE (id ep m : Nat) : old k n (.ref id ep m) = ltB id k := by cases n <;> simp [old, jE]
@[go_sem] theorem TF (id ep m lo hi : Nat) : old k n (.sub id ep m lo hi) = ltB id k := by cases n <;> simp [old, jE]
def dU(n:Nat)(cs:List D):Bool:=cs.all (old k n)
@[go_sem] theorem Kp : dU k n [] = true := (rfl)
@[go_sem] theorem uX (d : D) (r : List D) : dU k n (d :: r) = (old k n d && dU k n r) := (rfl)
@[go_sem] theorem wz (ts : List T) : dU k n (ts.map .t) = true := by
 induction ts with
 | nil=>rfl
 | cons t ts ih=>rw[List.map_cons,uX,TA,ih];rfl
@[go_sem] theorem Kq (m : Nat) (x : T) : dU k n (List.replicate m (.t x)) = true := by
 have:List.replicate m (D.t x)=(List.replicate m x).map .t:=by simp
 rw[this,wz]
@[go_sem] theorem Kr (a b : List D) : dU k n (a ++ b) = (dU k n a && dU k n b) := by simp [dU]
@[go_sem] theorem TG (cs : List D) : old k (n + 1) (.agg cs) = dU k n cs := (rfl)
@[go_sem] theorem TH (cs : List D) : old k (n + 1) (.tup cs) = dU k n cs := (rfl)
@[go_sem] theorem Vz (f : Nat) (cs : List D) : old k (n + 1) (.fn f cs) = dU k n cs := (rfl)
end
def dz(k:Nat):ag→Bool
 | []=>true
 | .box cs::r=>dU k 8 cs&&dz k r
 | .arr _ _ _ es::r=>dU k 8 es&&dz k r
@[go_sem] theorem GH (k : Nat) : dz k [] = true := (rfl)
@[go_sem] theorem GI (k : Nat) (cs : List D) (r : ag) : dz k (.box cs :: r) = (dU k 8 cs && dz k r) := (rfl)
@[go_sem] theorem GJ (k sz ep : Nat) (pin : Bool) (es : List D) (r : ag) : dz k (.arr sz pin ep es :: r) = (dU k 8 es && dz k r) := (rfl)
theorem gS(k:Nat)(H:ag):H.all (fun o=>o.ds.all (old k depth))=dz k H:=by
 induction H with
 | nil=>rfl
 | cons o r ih=>rw[List.all_cons,ih];cases o<;>rfl
def GK(d:D)(b:Bool):D:=if b then d else .und
@[go_sem] theorem Ks (d : D) : GK d true = d := (rfl)
@[go_sem] theorem GL (d : D) : GK d false = .und := (rfl)
@[go_sem] theorem TI (k : Nat) (d : D) : kill k d = GK d (old k 8 d) := (rfl)
def xy(k:Nat):List D→List D
 | []=>[]
 | d::r=>kill k d::xy k r
@[go_sem] theorem NM (k : Nat) : xy k [] = [] := (rfl)
@[go_sem] theorem Kt (k : Nat) (d : D) (r : List D) : xy k (d :: r) = kill k d :: xy k r := (rfl)
theorem Co(k:Nat)(vs:List D):vs.map (kill k)=xy k vs:=by
 induction vs with
 | nil=>rfl
 | cons d r ih=>rw[List.map_cons,ih];rfl
@[go_sem] theorem QW (k : Nat) (vs : List D) (H : ag) : xb k ⟨vs, H⟩ = if dz k (H.take k) = true then some ⟨xy k vs, H.take k⟩ else none := by
 simp only[xb,gS,Co]
@[go_sem] theorem zu (H : ag) (n : Nat) (x : T) : di H n (.t x) = [] := by cases n <;> rfl
@[go_sem] theorem QX (H : ag) (n : Nat) : di H n .nil = [] := by cases n <;> rfl
@[go_sem] theorem GM (H : ag) (n id off : Nat) : di H n (.bp id off) = [] := by cases n <;> rfl
@[go_sem] theorem TJ (H : ag) (n f : Nat) (cs : List D) : di H n (.fn f cs) = [] := by cases n <;> rfl
@[go_sem] theorem TK (H : ag) (n : Nat) (cs : List T) : di H n (.ep cs) = [] := by cases n <;> rfl
@[go_sem] theorem TL (H : ag) (n a b c d e : Nat) : di H n (.ap a b c d e) = [] := by cases n <;> rfl
def kO(H:ag)(n:Nat)(cs:List D):List Nat:=cs.flatMap (di H n)
@[go_sem] theorem NN (H : ag) (n : Nat) : kO H n [] = [] := (rfl)
@[go_sem] theorem xz (H : ag) (n : Nat) (d : D) (r : List D) : kO H n (d :: r) = di H n d ++ kO H n r := (rfl)
@[go_sem] theorem TM (H : ag) (n : Nat) (ts : List T) : kO H n (ts.map .t) = [] := by
 induction ts with
 | nil=>rfl
 | cons t ts ih=>rw[List.map_cons,xz,ih,zu];rfl
@[go_sem] theorem NQ (H : ag) (n : Nat) (a b : List D) : kO H n (a ++ b) = kO H n a ++ kO H n b := by simp [kO]
@[go_sem] theorem QY (H : ag) (n : Nat) (cs : List D) : di H (n + 1) (.agg cs) = kO H n cs := (rfl)
def GN(H:ag)(n:Nat):Option Obj→List Nat
 | some (.arr _ _ _ es)=>kO H n es
 | _=>[]
@[go_sem] theorem NR (H : ag) (n sz ep : Nat) (pin : Bool) (es : List D) : GN H n (some (.arr sz pin ep es)) = kO H n es := (rfl)
@[go_sem] theorem QZ (H : ag) (n id ep m : Nat) : di H (n + 1) (.ref id ep m) = id :: GN H n H[id]? := (rfl)
@[go_sem] theorem Q0 (H : ag) (n id ep m lo hi : Nat) : di H (n + 1) (.sub id ep m lo hi) = id :: GN H n H[id]? := (rfl)
@[go_sem] theorem TN : om [] = .tup [] := (rfl)
@[go_sem] theorem TO (d : D) : om [d] = d := (rfl)
@[go_sem] theorem TP (a b : D) (r : List D) : om (a :: b :: r) = .tup (a :: b :: r) := (rfl)
def td(k:Nat):List Nat→Bool
 | []=>true
 | i::r=> !ltB i k&&td k r
@[go_sem] theorem NS (k : Nat) : td k [] = true := (rfl)
@[go_sem] theorem Ku (k i : Nat) (r : List Nat) : td k (i :: r) = (!ltB i k && td k r) := (rfl)
theorem wA(k:Nat)(l:List Nat):l.all (fun i=>decide (k≤i))=td k l:=by
 induction l with
 | nil=>rfl
 | cons i r ih=>
   rw[List.all_cons,ih]
   simp only[td,jE]
   congr 1
   rw[Bool.eq_iff_iff];simp
def Q1(k raw:Nat)(H:ag)(ds rs:List D):Option (D×ag):=
 (iF H (max raw 1) (List.range k) (rs.flatMap (ids depth)++j4 H (List.range k))).bind fun q=>
  if(fw H raw ds).all (fun i=> !(List.range k++q.1).contains i)then
   (bF (ren (idxOf (List.range k++q.1)) depth) rs).bind fun rs'=>
    (bF (ei (idxOf (List.range k++q.1))) (H.take k++q.2)).map fun hs'=>(om rs',hs')
  else none
def Kv(k raw:Nat)(H:ag)(ds rs:List D)(b:Bool):Option (D×ag):=
 if b then(if td k (fw H raw ds)=true then some (om rs,H.take k)else none)else Q1 k raw H ds rs
@[go_sem] theorem NT (k raw : Nat) (H : ag) (ds rs : List D) : Kv k raw H ds rs true = if td k (fw H raw ds) = true then some (om rs, H.take k) else none := (rfl)
def NU(k raw:Nat)(H:ag)(ds rs:List D):Option (D×ag):=Kv k raw H ds rs (dU k 8 rs&&dz k (H.take k))
@[go_sem] theorem TQ (k raw : Nat) (H : ag) (ds rs : List D) : NU k raw H ds rs = Kv k raw H ds rs (dU k 8 rs && dz k (H.take k)) := (rfl)
@[go_sem] theorem NV (k : Nat) (H : ag) (ds : List D) : finish k 0 H ds = (bF (lp H) ds).bind (NU k 0 H ds) := by
 simp only[finish,if_true,gS,wA]
 cases bF (lp H) ds with
 | none=>rfl
 | some rs=>
   simp only[Option.bind_some,NU,Kv]
   show(if(dU k 8 rs&&dz k (H.take k))=true then _ else _)=_
   cases (dU k 8 rs&&dz k (H.take k))<;>rfl
@[go_sem] theorem NW (H : ag) (ds : List D) : fw H 0 ds = kO H 8 ds := (rfl)
@[go_sem] theorem NX (vs : List D) : dj [] vs = vs := (rfl)
@[go_sem] theorem Kw (i : Nat) (r : List Nat) (vs : List D) : dj (i :: r) vs = dj r (vs.set i .und) := (rfl)
@[go_sem] theorem TR (dead : List Nat) (k : Nat) (vs : List D) (H : ag) : tidy false dead k ⟨vs, H⟩ = some ⟨dj dead vs, H⟩ := (rfl)
@[go_sem] theorem TS (dead : List Nat) (k : Nat) (vs : List D) (H : ag) : tidy true dead k ⟨vs, H⟩ = xb k ⟨dj dead vs, H⟩ := (rfl)
section
variable (H : ag) (call : aM) (f raw : Nat) (keep : List Nat) (ds : List D)
def rG(H1:ag)(n:Nat)(sel:List Nat)(p:D×ag):Option (D×ag):=
 (ren (cO sel n) depth p.1).bind fun r'=>(bF (ei (cO sel n)) p.2).map fun os=>(r',cg H1 sel (os.take sel.length)++os.drop sel.length)
def lF(H1:ag)(sel:List Nat)(p:D×ag):Option (D×ag):=
 if sel.isEmpty&&p.2.isEmpty&&jr p.1 then some (p.1,H)else rG H1 H.length sel p
def GO(args:List D)(H1:ag)(sel:List Nat)(hs:ag):Option (D×ag):=(call raw f args hs).bind (lF H H1 sel)
def GP(args:List D)(H1:ag)(sel:List Nat)(hs:ag):Option (D×ag):=(bF (ei (idxOf sel)) hs).bind (GO H call f raw args H1 sel)
def GQ(H1:ag)(sel:List Nat)(args:List D):Option (D×ag):=(pick H1 sel).bind (GP H call f raw args H1 sel)
def GR(args:List D)(sel:List Nat):Option (D×ag):=(bF (ren (idxOf sel) depth) args).bind (GQ H call f raw (pins H (bS H keep 0 ds)) sel)
def pH(n:Nat)(cs:List D):List Nat:=cs.flatMap (ids n)
def GS(args:List D):Option (D×ag):=GR H call f raw keep ds args (reach H 3 (dw [] (pH 8 args)))
def zv:Option (D×ag):=(jt H keep 0 ds).bind (GS H call f raw keep ds)
theorem Cp:xw H call f raw keep ds=zv H call f raw keep ds:=(rfl)
@[go_sem] theorem Cq : zv H call f raw keep ds = (jt H keep 0 ds).bind (GS H call f raw keep ds) := (rfl)
@[go_sem] theorem Cr (args : List D) : GS H call f raw keep ds args = GR H call f raw keep ds args (reach H 3 (dw [] (pH 8 args))) := (rfl)
@[go_sem] theorem Cs (args : List D) (sel : List Nat) : GR H call f raw keep ds args sel = (bF (ren (idxOf sel) 8) args).bind (GQ H call f raw (pins H (bS H keep 0 ds)) sel) := (rfl)
@[go_sem] theorem Ct (H1 : ag) (sel : List Nat) (args : List D) : GQ H call f raw H1 sel args = (pick H1 sel).bind (GP H call f raw args H1 sel) := (rfl)
@[go_sem] theorem Cu (args : List D) (H1 : ag) (sel : List Nat) (hs : ag) : GP H call f raw args H1 sel hs = (bF (ei (idxOf sel)) hs).bind (GO H call f raw args H1 sel) := (rfl)
@[go_sem] theorem Cv (args : List D) (H1 : ag) (sel : List Nat) (hs : ag) : GO H call f raw args H1 sel hs = (call raw f args hs).bind (lF H H1 sel) := (rfl)
def Cw(H1:ag)(sel:List Nat)(r:D)(os:ag):Option (D×ag):=some (r,cg H1 sel (os.take sel.length)++os.drop sel.length)
@[go_sem] theorem Cx (H1 : ag) (sel : List Nat) (r : D) (os : ag) : Cw H1 sel r os = some (r, cg H1 sel (os.take sel.length) ++ os.drop sel.length) := (rfl)
def GU(H1:ag)(n:Nat)(sel:List Nat)(os:ag)(r:D):Option (D×ag):=(bF (ei (cO sel n)) os).bind (Cw H1 sel r)
@[go_sem] theorem wB (H1 : ag) (n : Nat) (sel : List Nat) (os : ag) (r : D) : GU H1 n sel os r = (bF (ei (cO sel n)) os).bind (Cw H1 sel r) := (rfl)
@[go_sem] theorem wC (H1 : ag) (n : Nat) (sel : List Nat) (r : D) (os : ag) : rG H1 n sel (r, os) = (ren (cO sel n) 8 r).bind (GU H1 n sel os) := by
 simp only[rG,depth]
 cases ren (cO sel n) 8 r with
 | none=>rfl
 | some r'=>simp only[Option.bind_some,GU];cases bF (ei (cO sel n)) os<;>rfl
@[go_sem] theorem NY (H1 : ag) (i : Nat) (sel : List Nat) (p : D × ag) : lF H H1 (i :: sel) p = rG H1 H.length (i :: sel) p := (rfl)
@[go_sem] theorem Q2 (H1 : ag) (sel : List Nat) (r : D) (o : Obj) (os : ag) : lF H H1 sel (r, o :: os) = rG H1 H.length sel (r, o :: os) := by
 simp[lF]
@[go_sem] theorem TT (H1 : ag) (k : IntKind) (n : Int) : lF H H1 [] (.t (.int k n), []) = some (.t (.int k n), H) := (rfl)
@[go_sem] theorem TU (H1 : ag) (b : Bool) : lF H H1 [] (.t (.bool b), []) = some (.t (.bool b), H) := (rfl)
@[go_sem] theorem Q3 (H1 : ag) (es : List T) : lF H H1 [] (.t (.sl es), []) = some (.t (.sl es), H1) := by simp [lF, rG, jr, T.scalar, ren, depth, bF, cg]
@[go_sem] theorem NZ (H1 : ag) (es : List T) : lF H H1 [] (.t (.agg es), []) = some (.t (.agg es), H1) := by simp [lF, rG, jr, T.scalar, ren, depth, bF, cg]
@[go_sem] theorem N0 (H1 : ag) (ds : List D) : lF H H1 [] (.tup ds, []) = if ds.all cG then some (.tup ds, H) else rG H1 H.length [] (.tup ds, []) := by
 simp[lF,jr]
def GV:Option (List T)→Option (D×ag)
 | some ts=>(call raw f (ts.map .t) []).bind (pG H)
 | none=>zv H call f raw [] ds
@[go_sem] theorem Kx (ts : List T) : GV H call f raw ds (some ts) = (call raw f (ts.map .t) []).bind (pG H) := (rfl)
@[go_sem] theorem Ky : GV H call f raw ds none = zv H call f raw [] ds := (rfl)
@[go_sem] theorem TV : xw H call f raw [] ds = GV H call f raw ds (gQ H ds) := by
 cases h:gQ H ds with
 | none=>rfl
 | some ts=>exact zt H call f raw ds ts h
@[go_sem] theorem VA (k : Nat) : xw H call f raw (k :: keep) ds = zv H call f raw (k :: keep) ds := (rfl)
end
section
variable (H : ag) (keep : List Nat)
@[go_sem] theorem N1 (i : Nat) : jt H keep i [] = some [] := (rfl)
def uf(i:Nat):List Nat→Bool
 | []=>false
 | j::r=>eqB i j||uf i r
@[go_sem] theorem Q4 (i : Nat) : uf i [] = false := (rfl)
@[go_sem] theorem N2 (i j : Nat) (r : List Nat) : uf i (j :: r) = (eqB i j || uf i r) := (rfl)
theorem rH(i:Nat)(l:List Nat):l.contains i=uf i l:=by
 induction l with
 | nil=>rfl
 | cons j r ih=>rw[List.contains_cons,ih];simp only[uf,uW];rw[beq_eq_decide_nat]
where beq_eq_decide_nat {a b:Nat}:(a==b)=decide (a=b):=by rw[Bool.eq_iff_iff];simp
def TW(d:D):Bool→Option D
 | true=>some d
 | false=>lp H d
@[go_sem] theorem VB (d : D) : TW H d true = some d := (rfl)
@[go_sem] theorem D3 (d : D) : TW H d false = lp H d := (rfl)
def VC(i:Nat)(r:List D)(x:D):Option (List D):=gl x (jt H keep (i+1) r)
@[go_sem] theorem zw (i : Nat) (r : List D) (x : D) : VC H keep i r x = gl x (jt H keep (i + 1) r) := (rfl)
@[go_sem] theorem qF (i : Nat) (d : D) (r : List D) : jt H keep i (d :: r) = (TW H d (uf i keep)).bind (VC H keep i r) := by
 simp only[jt,rH]
 cases uf i keep<;>rfl
@[go_sem] theorem Bi (i : Nat) : bS H keep i [] = [] := (rfl)
def frK(l:List Nat):Bool→List Nat
 | true=>[]
 | false=>l
@[go_sem] theorem WS (l : List Nat) : frK l true = [] := (rfl)
@[go_sem] theorem N3 (l : List Nat) : frK l false = l := (rfl)
@[go_sem] theorem kf (i : Nat) (d : D) (r : List D) : bS H keep i (d :: r) = frK (di H 8 d) (uf i keep) ++ bS H keep (i + 1) r := by
 simp only[bS,rH]
 cases uf i keep<;>rfl
@[go_sem] theorem Q5 (H : ag) : pins H [] = H := (rfl)
@[go_sem] theorem N4 (H : ag) (i : Nat) (r : List Nat) : pins H (i :: r) = pins (H.modify i vN) r := (rfl)
def xA(i:Nat):Option Obj→ag
 | some (.arr sz _ ep es)=>H.set i (.arr sz true ep es)
 | _=>H
@[go_sem] theorem N5 (i : Nat) (cs : List D) : xA H i (some (.box cs)) = H := (rfl)
@[go_sem] theorem N6 (i sz ep : Nat) (pin : Bool) (es : List D) : xA H i (some (.arr sz pin ep es)) = H.set i (.arr sz true ep es) := (rfl)
theorem Cy{α:Type}{l:List α}{i:Nat}{x:α}(h:l[i]?=some x):l.set i x=l:=by
 apply List.ext_getElem?
 intro j
 rw[List.getElem?_set]
 split
 · rename_i e;subst e
   split
   · exact h.symm
   · rename_i hl;rw[List.getElem?_eq_none (by omega)]at h;cases h
 · rfl
@[go_sem] theorem Kz (i : Nat) : List.modify H i vN = xA H i H[i]? := by
 apply List.ext_getElem?
 intro j
 rw[List.getElem?_modify]
 cases h:H[i]? with
 | none=>
   simp only[xA]
   by_cases e:i=j
   · subst e;rw[h];simp
   · simp[e]
 | some o=>
   have hi:i<H.length:=(List.getElem?_eq_some_iff.1 h).1
   cases o with
   | box cs=>
     simp only[xA]
     by_cases e:i=j
     · subst e;rw[h];simp[vN]
     · simp[e]
   | arr sz pin ep es=>
     simp only[xA]
     rw[List.getElem?_set]
     by_cases e:i=j
     · subst e;rw[h];simp[vN,hi]
     · simp[e]
section
variable (n : Nat)
@[go_sem] theorem WT (x : T) : ids n (.t x) = [] := by cases n <;> rfl
@[go_sem] theorem TX : ids n .nil = [] := by cases n <;> rfl
@[go_sem] theorem Q6 : ids n .nilp = [] := by cases n <;> rfl
@[go_sem] theorem TY : ids n .und = [] := by cases n <;> rfl
@[go_sem] theorem VD (cs : List T) : ids n (.ep cs) = [] := by cases n <;> rfl
@[go_sem] theorem N7 (id off : Nat) : ids n (.bp id off) = [id] := by cases n <;> rfl
@[go_sem] theorem VE (id ep m i off : Nat) : ids n (.ap id ep m i off) = [id] := by cases n <;> rfl
@[go_sem] theorem TZ (id ep m : Nat) : ids n (.ref id ep m) = [id] := by cases n <;> rfl
@[go_sem] theorem T0 (id ep m lo hi : Nat) : ids n (.sub id ep m lo hi) = [id] := by cases n <;> rfl
@[go_sem] theorem T1 (cs : List D) : ids (n + 1) (.agg cs) = pH n cs := (rfl)
@[go_sem] theorem T2 (cs : List D) : ids (n + 1) (.tup cs) = pH n cs := (rfl)
@[go_sem] theorem N8 (f : Nat) (cs : List D) : ids (n + 1) (.fn f cs) = pH n cs := (rfl)
@[go_sem] theorem Cz : pH n [] = [] := (rfl)
@[go_sem] theorem zx (d : D) (r : List D) : pH n (d :: r) = ids n d ++ pH n r := (rfl)
@[go_sem] theorem wD (ts : List T) : pH n (ts.map .t) = [] := zr ts n
@[go_sem] theorem wE (a b : List D) : pH n (a ++ b) = pH n a ++ pH n b := by simp [pH]
@[go_sem] theorem Q7 (m : Nat) (x : T) : pH n (List.replicate m (.t x)) = [] := by
 have:List.replicate m (D.t x)=(List.replicate m x).map .t:=by simp
 rw[this,wD]
end
def zy(sel:List Nat)(i:Nat):Bool→List Nat
 | true=>sel
 | false=>sel++[i]
@[go_sem] theorem Q8 (sel : List Nat) (i : Nat) : zy sel i true = sel := (rfl)
@[go_sem] theorem Q9 (sel : List Nat) (i : Nat) : zy sel i false = sel ++ [i] := (rfl)
@[go_sem] theorem KA (sel : List Nat) : dw sel [] = sel := (rfl)
@[go_sem] theorem GW (sel : List Nat) (i : Nat) (r : List Nat) : dw sel (i :: r) = dw (zy sel i (uf i sel)) r := by
 simp only[dw,rH]
 cases uf i sel<;>rfl
def wF:Option Obj→List Nat
 | some (.box cs)=>pH 8 cs
 | some (.arr _ _ _ es)=>pH 8 es
 | none=>[]
@[go_sem] theorem KB (cs : List D) : wF (some (.box cs)) = pH 8 cs := (rfl)
@[go_sem] theorem KC (sz ep : Nat) (pin : Bool) (es : List D) : wF (some (.arr sz pin ep es)) = pH 8 es := (rfl)
@[go_sem] theorem N9 : j4 H [] = [] := (rfl)
@[go_sem] theorem KD (i : Nat) (r : List Nat) : j4 H (i :: r) = wF H[i]? ++ j4 H r := by
 simp only[j4,List.flatMap_cons]
 congr 1
 cases H[i]? with
 | none=>rfl
 | some o=>cases o<;>rfl
@[go_sem] theorem T3 (sel : List Nat) : reach H 0 sel = sel := (rfl)
@[go_sem] theorem T4 (n : Nat) (sel : List Nat) : reach H (n + 1) sel = reach H n (dw sel (j4 H sel)) := (rfl)
@[go_sem] theorem Ra : pick H [] = some [] := (rfl)
def Oa(r:List Nat)(o:Obj):Option ag:=gl o (pick H r)
@[go_sem] theorem CA (r : List Nat) (o : Obj) : Oa H r o = gl o (pick H r) := (rfl)
@[go_sem] theorem zz (i : Nat) (r : List Nat) : pick H (i :: r) = H[i]?.bind (Oa H r) := (rfl)
end
section
variable (f : Nat → Option Nat) (n : Nat)
@[go_sem] theorem T5 (x : T) : ren f n (.t x) = some (.t x) := by cases n <;> rfl
@[go_sem] theorem T6 : ren f n .nil = some .nil := by cases n <;> rfl
@[go_sem] theorem Rb : ren f n .nilp = some .nilp := by cases n <;> rfl
@[go_sem] theorem T7 : ren f n .und = some .und := by cases n <;> rfl
@[go_sem] theorem VF (cs : List T) : ren f n (.ep cs) = some (.ep cs) := by cases n <;> rfl
def VG(off:Nat)(i:Nat):D:= .bp i off
@[go_sem] theorem T8 (off i : Nat) : VG off i = .bp i off := (rfl)
@[go_sem] theorem Ob (id off : Nat) : ren f n (.bp id off) = (f id).map (VG off) := by cases n <;> rfl
def VH(ep m i off:Nat)(j:Nat):D:= .ap j ep m i off
@[go_sem] theorem T9 (ep m i off j : Nat) : VH ep m i off j = .ap j ep m i off := (rfl)
@[go_sem] theorem VI (id ep m i off : Nat) : ren f n (.ap id ep m i off) = (f id).map (VH ep m i off) := by cases n <;> rfl
def Oc(ep m:Nat)(j:Nat):D:= .ref j ep m
@[go_sem] theorem Rc (ep m j : Nat) : Oc ep m j = .ref j ep m := (rfl)
@[go_sem] theorem Ua (id ep m : Nat) : ren f n (.ref id ep m) = (f id).map (Oc ep m) := by cases n <;> rfl
def Od(ep m lo hi:Nat)(j:Nat):D:= .sub j ep m lo hi
@[go_sem] theorem Re (ep m lo hi j : Nat) : Od ep m lo hi j = .sub j ep m lo hi := (rfl)
@[go_sem] theorem Ub (id ep m lo hi : Nat) : ren f n (.sub id ep m lo hi) = (f id).map (Od ep m lo hi) := by cases n <;> rfl
@[go_sem] theorem Oe (g : Nat) (cs : List D) : ren f (n + 1) (.fn g cs) = (bF (ren f n) cs).map (.fn g) := (rfl)
@[go_sem] theorem Uc (cs : List D) : ren f (n + 1) (.agg cs) = (bF (ren f n) cs).map .agg := (rfl)
@[go_sem] theorem Ud (cs : List D) : ren f (n + 1) (.tup cs) = (bF (ren f n) cs).map .tup := (rfl)
@[go_sem] theorem kG (ts : List T) : bF (ren f n) (ts.map .t) = some (ts.map .t) := by
 induction ts with
 | nil=>rfl
 | cons t ts ih=>rw[List.map_cons,s8,T5,Option.bind_some,Gj,ih];rfl
@[go_sem] theorem D4 (m : Nat) (x : T) : bF (ren f n) (List.replicate m (.t x)) = some (List.replicate m (.t x)) := by
 have:List.replicate m (D.t x)=(List.replicate m x).map .t:=by simp
 rw[this,kG]
@[go_sem] theorem xB (cs : List D) : ei f (.box cs) = (bF (ren f 8) cs).map .box := (rfl)
@[go_sem] theorem KE (sz ep : Nat) (pin : Bool) (es : List D) : ei f (.arr sz pin ep es) = (bF (ren f 8) es).map (.arr sz pin ep) := (rfl)
end
def KF(x:Option Nat):Bool→Option Nat
 | true=>some 0
 | false=>x.map (· +1)
@[go_sem] theorem VJ (x : Option Nat) : KF x true = some 0 := (rfl)
@[go_sem] theorem VK (k : Nat) : KF (some k) false = some (k + 1) := (rfl)
@[go_sem] theorem VL : KF none false = none := (rfl)
@[go_sem] theorem idxOf_nil (i : Nat) : idxOf [] i = none := (rfl)
@[go_sem] theorem idxOf_cons (j i : Nat) (r : List Nat) : idxOf (j :: r) i = KF (idxOf r i) (eqB j i) := by
 simp only[idxOf,uW]
 by_cases h:j=i
 · simp[h,KF]
 · simp[h,KF]
@[go_sem] theorem KG (n i : Nat) : cO [] n i = some (n + i) := by simp [cO]
@[go_sem] theorem Rf (j n : Nat) (r : List Nat) : cO (j :: r) n 0 = some j := by simp [cO]
@[go_sem] theorem Rg (j n i : Nat) (r : List Nat) : cO (j :: r) n (i + 1) = cO r n i := by
 simp only[cO,List.length_cons,Nat.add_lt_add_iff_right,List.getElem?_cons_succ,Nat.add_sub_add_right]
@[go_sem] theorem GX {α : Type} (H os : List α) : cg H [] os = H := by cases os <;> rfl
@[go_sem] theorem D5 {α : Type} (H : List α) (i : Nat) (r : List Nat) (o : α) (os : List α) : cg H (i :: r) (o :: os) = cg (H.set i o) r os := (rfl)
def lbP(sz:Nat)(p:List D×ag):List D×ag:=(p.1,.arr sz false 0 []::p.2)
@[go_sem] theorem VM (sz : Nat) (cs : List D) (os : ag) : lbP sz (cs, os) = (cs, .arr sz false 0 [] :: os) := (rfl)
def lbC(base:Nat)(cs:List D)(off sz:Nat)(r:List (Nat×Nat)):Option D→List D×ag
 | some .nil=>lbP sz (bo (base+1) (cs.set off (.ref base 0 0)) r)
 | _=>bo base cs r
@[go_sem] theorem Ue (base : Nat) (cs : List D) (off sz : Nat) (r : List (Nat × Nat)) : lbC base cs off sz r (some .nil) = lbP sz (bo (base + 1) (cs.set off (.ref base 0 0)) r) := (rfl)
@[go_sem] theorem WU (base : Nat) (cs : List D) (off sz : Nat) (r : List (Nat × Nat)) (x : T) : lbC base cs off sz r (some (.t x)) = bo base cs r := (rfl)
@[go_sem] theorem Uf (base : Nat) (cs : List D) (off sz : Nat) (r : List (Nat × Nat)) (a b c : Nat) : lbC base cs off sz r (some (.ref a b c)) = bo base cs r := (rfl)
@[go_sem] theorem D6 (base : Nat) (cs : List D) (off sz : Nat) (r : List (Nat × Nat)) : bo base cs ((off, sz) :: r) = lbC base cs off sz r cs[off]? := by
 simp only[bo,lbC]
 split<;>split<;>simp_all [lbP]
def lvP(H:ag)(id:Nat)(p:List D×ag):Option (D×ag):=some (.tup [],H.set id (.box p.1)++p.2)
@[go_sem] theorem VN (H : ag) (id : Nat) (cs : List D) (os : ag) : lvP H id (cs, os) = some (.tup [], H.set id (.box cs) ++ os) := (rfl)
def lvB(H:ag)(id:Nat)(l:List (Nat×Nat)):Option Obj→Option (D×ag)
 | some (.box cs)=>lvP H id (bo H.length cs l)
 | _=>none
@[go_sem] theorem VO (H : ag) (id : Nat) (l : List (Nat × Nat)) (cs : List D) : lvB H id l (some (.box cs)) = lvP H id (bo H.length cs l) := (rfl)
@[go_sem] theorem GY (H : ag) (id : Nat) (x : Nat × Nat) (r : List (Nat × Nat)) : qD H id (x :: r) = lvB H id (x :: r) H[id]? := by
 simp only[qD,ju]
 generalize H[id]?=o
 rcases o with _ | (cs | _)
 · rfl
 · rfl
 · rfl
section
variable (H : ag)
def klE(n:Nat)(sel new:List Nat)(os:ag)(q:List Nat×ag):Option (List Nat×ag):=some (new++q.1,os++q.2)
@[go_sem] theorem VP (n : Nat) (sel new : List Nat) (os : ag) (a : List Nat) (b : ag) : klE n sel new os (a, b) = some (new ++ a, os ++ b) := (rfl)
def klD(n:Nat)(sel new:List Nat)(os:ag):Option (List Nat×ag):=(iF H n (sel++new) (j4 H new)).bind (klE n sel new os)
@[go_sem] theorem VQ (n : Nat) (sel new : List Nat) (os : ag) : klD H n sel new os = (iF H n (sel ++ new) (j4 H new)).bind (klE n sel new os) := (rfl)
def nX(sel:List Nat):List Nat→Bool
 | []=>true
 | i::r=> !uf i sel&&nX sel r
@[go_sem] theorem KH (sel : List Nat) : nX sel [] = true := (rfl)
@[go_sem] theorem GZ (sel : List Nat) (i : Nat) (r : List Nat) : nX sel (i :: r) = (!uf i sel && nX sel r) := (rfl)
theorem te(sel l:List Nat):l.all (fun i=> !sel.contains i)=nX sel l:=by
 induction l with
 | nil=>rfl
 | cons i r ih=>rw[List.all_cons,ih,rH];rfl
def klC(n:Nat)(sel new:List Nat)(os:ag):Option (List Nat×ag):=
 (if n=0 then(if(os.flatMap fun o=>o.ds.flatMap (di H depth)).all (fun i=> !(sel++new).contains i)then bF (c9 H) os else none)else some os).bind (klD H n sel new)
def mE:ag→List Nat
 | []=>[]
 | .box cs::r=>kO H 8 cs++mE r
 | .arr _ _ _ es::r=>kO H 8 es++mE r
@[go_sem] theorem KI : mE H [] = [] := (rfl)
@[go_sem] theorem KJ (cs : List D) (r : ag) : mE H (.box cs :: r) = kO H 8 cs ++ mE H r := (rfl)
@[go_sem] theorem KK (sz ep : Nat) (pin : Bool) (es : List D) (r : ag) : mE H (.arr sz pin ep es :: r) = kO H 8 es ++ mE H r := (rfl)
theorem zA(os:ag):(os.flatMap fun o=>o.ds.flatMap (di H depth))=mE H os:=by
 induction os with
 | nil=>rfl
 | cons o r ih=>rw[List.flatMap_cons,ih];cases o<;>rfl
@[go_sem] theorem WW (sel new : List Nat) (os : ag) : klC H 0 sel new os = (if nX (sel ++ new) (mE H os) = true then bF (c9 H) os else none).bind (klD H 0 sel new) := by
 simp only[klC,zA,te,if_true]
@[go_sem] theorem WX (n : Nat) (sel new : List Nat) (os : ag) : klC H (n + 1) sel new os = klD H (n + 1) sel new os := by
 simp[klC]
def klN(n:Nat)(sel new:List Nat):Option (List Nat×ag):=(pick H new).bind (klC H n sel new)
@[go_sem] theorem VR (n : Nat) (sel new : List Nat) : klN H n sel new = (pick H new).bind (klC H n sel new) := (rfl)
@[go_sem] theorem Rh (sel front : List Nat) : iF H 0 sel front = some ([], []) := (rfl)
@[go_sem] theorem Ri (n : Nat) (sel front : List Nat) : iF H (n + 1) sel front = klN H n sel ((dw sel front).drop sel.length) := by
 simp only[iF,klN]
 generalize (dw sel front).drop sel.length=new
 cases pick H new with
 | none=>rfl
 | some os=>
   simp only[Option.bind_some,klC]
   congr 1
   funext os'
   simp only[klD]
   cases iF H n (sel++new) (j4 H new)<;>rfl
@[go_sem] theorem CB (cs : List D) : c9 H (.box cs) = (bF (lp H) cs).map .box := (rfl)
@[go_sem] theorem rI (sz ep : Nat) (pin : Bool) (ts : List T) : c9 H (.arr sz pin ep (ts.map .t)) = some (.arr sz pin ep (ts.map .t)) := by
 simp only[c9,mD,Option.map_some]
@[go_sem] theorem CC (sz ep : Nat) (pin : Bool) : c9 H (.arr sz pin ep []) = some (.arr sz pin ep []) := (rfl)
@[go_sem] theorem CD (sz ep : Nat) (pin : Bool) (m : Nat) (x : T) : c9 H (.arr sz pin ep (List.replicate m (.t x))) = some (.arr sz pin ep (List.replicate m (.t x))) := by
 have:List.replicate m (D.t x)=(List.replicate m x).map .t:=by simp
 rw[this,rI]
def Ug(k raw:Nat)(H:ag)(ds rs:List D)(q:List Nat×ag):Option (D×ag):=
 if nX (List.range k++q.1) (fw H raw ds)=true then
  (bF (ren (idxOf (List.range k++q.1)) depth) rs).bind fun rs'=>(bF (ei (idxOf (List.range k++q.1))) (H.take k++q.2)).map fun hs'=>(om rs',hs')
 else none
def zB(sel:List Nat)(H2:ag)(rs':List D):Option (D×ag):=(bF (ei (idxOf sel)) H2).bind (finT3 rs')
where finT3 (rs':List D) (hs:ag):Option (D×ag):=some (om rs',hs)
@[go_sem] theorem Rj (rs' : List D) (hs : ag) : zB.finT3 rs' hs = some (om rs', hs) := (rfl)
@[go_sem] theorem Rk (sel : List Nat) (H2 : ag) (rs' : List D) : zB sel H2 rs' = (bF (ei (idxOf sel)) H2).bind (zB.finT3 rs') := (rfl)
@[go_sem] theorem Uh (k raw : Nat) (ds rs : List D) (sel : List Nat) (os : ag) : Ug k raw H ds rs (sel, os) =
 if nX (List.range k++sel) (fw H raw ds)=true then(bF (ren (idxOf (List.range k++sel)) 8) rs).bind (zB (List.range k++sel) (H.take k++os))else none:=by
 simp only[Ug,depth]
 split
 · cases bF (ren (idxOf (List.range k++sel)) 8) rs with
   | none=>rfl
   | some rs'=>simp only[Option.bind_some,zB];cases bF (ei (idxOf (List.range k++sel))) (H.take k++os)<;>rfl
 · rfl
@[go_sem] theorem Ui (k raw : Nat) (ds rs : List D) : Q1 k raw H ds rs = (iF H (max raw 1) (List.range k) (pH 8 rs ++ j4 H (List.range k))).bind (Ug k raw H ds rs) := by
 simp only[Q1,te,pH,depth];rfl
@[go_sem] theorem KL (k raw : Nat) (ds rs : List D) : Kv k raw H ds rs false = Q1 k raw H ds rs := (rfl)
@[go_sem] theorem KM (k raw : Nat) (ds : List D) : finish k (raw + 1) H ds = NU k (raw + 1) H ds ds := by
 simp only[finish,Nat.add_one_ne_zero,if_false,Option.bind_some,gS,wA,NU,Kv]
 show(if(dU k 8 ds&&dz k (H.take k))=true then _ else _)=_
 cases (dU k 8 ds&&dz k (H.take k))<;>rfl
@[go_sem] theorem G0 (raw : Nat) (ds : List D) : fw H (raw + 1) ds = [] := by simp [fw]
@[go_sem] theorem Rl : max 0 1 = 1 := (rfl)
@[go_sem] theorem Uj (r : Nat) : max (r + 1) 1 = r + 1 := by omega
@[go_sem] theorem KN : List.range 0 = [] := (rfl)
@[go_sem] theorem KO : List.range 1 = [0] := (rfl)
@[go_sem] theorem KP : List.range 2 = [0, 1] := (rfl)
@[go_sem] theorem KQ : List.range 3 = [0, 1, 2] := (rfl)
@[go_sem] theorem KR : List.range 4 = [0, 1, 2, 3] := (rfl)
end
theorem wG{α:Type}(f:α→T)(l:List α)(i:Nat)(x:α)(y:D)(h:y= .t (f x)):((l.map f).map D.t).set i y=((l.set i x).map f).map D.t:=by
 rw[h,List.map_map,List.map_map]
 exact(List.map_set (f:=D.t ∘ f)).symm
@[go_sem] theorem Uk (l : List Int) (i : Nat) (k : IntKind) (x : Int) : ((l.map (T.int k)).map D.t).set i (.t (.int k x)) = ((l.set i x).map (T.int k)).map D.t := wG _ l i x _ rfl
@[go_sem] theorem Rm (l : List Bool) (i : Nat) (x : Bool) : ((l.map T.bool).map D.t).set i (.t (.bool x)) = ((l.set i x).map T.bool).map D.t := wG _ l i x _ rfl
end Go.Ev
namespace Go.Ev
class Lib where
 fs:Nat→Option Fn
end Go.Ev
namespace Go.Ev.K
abbrev u(x:O):R:={ o:=x}
abbrev w(n:Nat)(x:O):R:={ o:=x,d:=some n}
abbrev y(n:Nat)(b:Bool)(x:O):R:={ o:=x,g:=some (n,b)}
abbrev m(x:X):R:={ o:= .mv x}
abbrev g(x:X):R:={ o:= .ld x 1 false}
abbrev h(n:Nat)(x:X):R:={ o:= .ld x n true}
abbrev f(n:Nat)(x:X):R:={ o:= .fa x n}
abbrev a(n:Nat)(x z:X):R:={ o:= .ia x z n}
abbrev l0:X:= .l 0
abbrev l1:X:= .l 1
abbrev l2:X:= .l 2
abbrev l3:X:= .l 3
abbrev l4:X:= .l 4
abbrev l5:X:= .l 5
abbrev l6:X:= .l 6
abbrev l7:X:= .l 7
abbrev l8:X:= .l 8
abbrev l9:X:= .l 9
abbrev l10:X:= .l 10
abbrev l11:X:= .l 11
abbrev v0:X:= .v 0
abbrev v1:X:= .v 1
abbrev v2:X:= .v 2
abbrev v3:X:= .v 3
abbrev v4:X:= .v 4
abbrev v5:X:= .v 5
abbrev v6:X:= .v 6
abbrev v7:X:= .v 7
abbrev v8:X:= .v 8
abbrev v9:X:= .v 9
abbrev v10:X:= .v 10
abbrev v11:X:= .v 11
abbrev v12:X:= .v 12
abbrev v13:X:= .v 13
abbrev v14:X:= .v 14
abbrev v15:X:= .v 15
abbrev v16:X:= .v 16
abbrev v17:X:= .v 17
abbrev v18:X:= .v 18
abbrev v19:X:= .v 19
abbrev v20:X:= .v 20
abbrev v21:X:= .v 21
abbrev v22:X:= .v 22
abbrev v23:X:= .v 23
end Go.Ev.K
namespace Go.Ev.N
def uY:Nat:=0
def ez:Nat:=1
def G1:Nat:=2
def fh:Nat:=3
def bQ:Nat:=4
def KS:Nat:=5
def yp:Nat:=6
def zC:Nat:=7
def yq:Nat:=8
def aG:Nat:=9
def ba:Nat:=10
def xC:Nat:=11
def dn:Nat:=12
def Bj:Nat:=13
def zD:Nat:=14
def bI:Nat:=15
def bR:Nat:=16
def G2:Nat:=17
def D7:Nat:=18
def G3:Nat:=19
def Bk:Nat:=20
def Of:Nat:=21
def D8:Nat:=22
def fq:Nat:=23
def D9:Nat:=24
def zE:Nat:=25
def Bl:Nat:=26
def Bm:Nat:=27
def G4:Nat:=28
def G5:Nat:=29
def Og:Nat:=30
def G6:Nat:=31
def KT:Nat:=32
def G7:Nat:=33
def Ea:Nat:=34
def Eb:Nat:=35
def G8:Nat:=36
def KU:Nat:=37
def G9:Nat:=38
def zF:Nat:=39
def KV:Nat:=40
def Hc:Nat:=41
def KW:Nat:=42
def Hd:Nat:=43
def Ec:Nat:=44
def Oh:Nat:=45
def Ed:Nat:=46
def He:Nat:=47
def Bo:Nat:=48
def aF:Nat:=49
def xD:Nat:=50
def aQ:Nat:=51
def yr:Nat:=52
def Bp:Nat:=53
def KX:Nat:=54
def KY:Nat:=55
def Ee:Nat:=56
def Hf:Nat:=57
def Hg:Nat:=58
def KZ:Nat:=59
def Hh:Nat:=60
def K0:Nat:=61
def Bq:Nat:=62
def K1:Nat:=63
def Hi:Nat:=64
def Hj:Nat:=65
def aR:Nat:=66
def bc:Nat:=67
def yt:Nat:=68
def kg:Nat:=69
def wH:Nat:=70
def bJ:Nat:=71
def Hk:Nat:=72
def Hl:Nat:=73
def K2:Nat:=74
def kX:Nat:=75
def Ef:Nat:=76
def K3:Nat:=77
end Go.Ev.N
namespace Go.Ev.K
open Go.Ev
def ez:Fn:={ nargs:=1,vars:=[0,2],body:=(.seq (.reg [w 1 (.mv (.b false))] []) (.seq (.reg [m v0,u (.ln l0),u (.bin .leq l0 (.i 400)),w 1 (.mv l0)] []) .ret)),res:=[(1,none)]}
def fh:Fn:={ nargs:=1,vars:=[0,2],body:=(.seq (.reg [w 1 (.mv (.c (.nilp)))] []) (.seq (.reg [m v0,u (.bd [.nil,.t (.int .i64 (0))] [(0,1,.l 0)]),u (.bx l0 2),w 1 (.mv l0)] []) .ret)),res:=[(1,none)]}
def eF:C:=(.seq (.ite [m v4,m v3,u (.bin .lss l1 l0)] [] 0 .skip (.exit 0)) (.seq (.blk 1 (.reg [f 0 v2,g l0,m v0,u (.ca N.aG 0 [] [.l 0,.i 4]),u (.bin .mul (.i (-10)) l0),m v4,u (.bin .eql l0 (.i 0)),m l0,y 0 false (.mv v0),y 1 false (.ca N.bI 0 [] [.l 0,.i 6]),u (.pk l2 (.b true) l0),u (.bd [.t (.int .i64 (0)),.t (.bool false)] [(0,1,.l 6),(1,1,.l 0)]),u (.bs [.l 0] 2),u (.app l11 l0 true 2),f 0 v2,u (.st l0 l1 1 [])] [(1,4),(1,10),(1,13)])) (.reg [m v4,u (.bin .add l0 (.i 1)),w 4 (.mv l0)] [])))
def jc:C:= .loop true [5,6,7,8,9] K.eF
def fN:C:=(.seq (.ite [m v6,m v3,u (.bin .lss l1 l0)] [] 0 .skip (.exit 2)) (.seq (.blk 3 (.seq (.reg [h 10 v5,w 7 (.al [.t (.int .i64 (0)),.t (.int .i64 (0)),.t (.int .i64 (0)),.t (.int .i64 (0)),.t (.bool false),.t (.bool false),.t (.int .i64 (0)),.t (.int .i64 (0)),.t (.int .i64 (0)),.t (.int .i64 (0))] []),u (.st l0 l1 10 [])] []) (.seq (.reg [m v6,u (.bin .sub l0 (.i 1)),m v0,m v6,u (.mn [.l 0,.i 2]),u (.ca N.aG 0 [] [.l 2,.l 0]),u (.bin .sub l4 l0),m v6,m v0,u (.bs [.i 11,.i 59,.i 119,.i 4] 1),u (.ca N.ba 0 [] [.l 1,.l 0]),u (.bin .add (.i 1) l0),m v0,u (.bs [.i 9,.i 3,.i 19] 1),u (.ca N.ba 0 [] [.l 1,.l 0]),u (.bin .add (.i 1) l0),f 0 v7,u (.st l0 l10 1 []),f 1 v7,u (.st l0 l11 1 []),f 2 v7,u (.st l0 l9 1 []),f 3 v7,u (.st l0 l7 1 [])] []) (.reg [f 1 v2,g l0,h 10 v7,u (.bs [.l 0] 10),u (.app l2 l0 true 10),f 1 v2,u (.st l0 l1 1 [])] [])))) (.reg [m v6,u (.bin .add l0 (.i 1)),w 6 (.mv l0)] [])))
def jd:C:= .loop true [4,7,8,9] K.fN
def cu:C:=(.seq (.ite [m v8,u (.bin .gtr l0 (.i 0)),m l0,y 0 true (.fa v2 1),y 1 true (.ld l0 1 false),y 2 true (.ln l0),y 3 true (.bin .lss l0 (.i 10)),u (.pk l4 l0 (.b false))] [] 0 .skip (.exit 4)) (.seq (.blk 5 (.seq (.reg [h 10 v5,w 9 (.al [.t (.int .i64 (0)),.t (.int .i64 (0)),.t (.int .i64 (0)),.t (.int .i64 (0)),.t (.bool false),.t (.bool false),.t (.int .i64 (0)),.t (.int .i64 (0)),.t (.int .i64 (0)),.t (.int .i64 (0))] []),u (.st l0 l1 10 [])] []) (.seq (.reg [m v0,m v3,u (.ca N.aG 0 [] [.l 1,.l 0]),m v0,m v3,u (.ca N.aG 0 [] [.l 1,.l 0]),m v0,u (.bs [.i 11,.i 59,.i 199] 1),u (.ca N.ba 0 [] [.l 1,.l 0]),u (.bin .add (.i 1) l0),m v0,u (.bs [.i 9,.i 3] 1),u (.ca N.ba 0 [] [.l 1,.l 0]),u (.bin .add (.i 1) l0),f 0 v9,u (.st l0 (.l 12) 1 []),f 1 v9,u (.st l0 l11 1 []),f 2 v9,u (.st l0 l9 1 []),f 3 v9,u (.st l0 l7 1 [])] []) (.seq (.reg [m v0,u (.ca N.aG 0 [] [.l 0,.i 5]),u (.bin .gtr l0 (.i 0)),m v0,u (.ca N.bI 0 [] [.l 0,.i 6]),f 4 v9,u (.st l0 l3 1 []),f 5 v9,u (.st l0 l3 1 [])] []) (.ite [f 0 v9,g l0,f 1 v9,g l0,u (.bin .neq l2 l0)] [] 0 (.reg [f 1 v2,g l0,h 10 v9,u (.bs [.l 0] 10),u (.app l2 l0 true 10),f 1 v2,u (.st l0 l1 1 [])] []) .skip))))) (.reg [m v8,u (.bin .sub l0 (.i 1)),w 8 (.mv l0)] [])))
def je:C:= .loop true [4,6,7,9] K.cu
def bQ:Fn:={ nargs:=1,vars:=[0,2,3,4,5,6,7,8,9,10],body:=(.seq (.reg [w 1 (.al [.nil,.nil] [])] []) (.seq (.reg [w 2 (.al [.nil,.nil] [(0,2),(1,10)])] []) (.seq (.reg [m v0,u (.ca N.aG 0 [] [.l 0,.i 6]),u (.bin .add (.i 2) l0),w 3 (.mv l0)] []) (.seq (.ite [m v0,u (.nc l0),f 0 l0,g l0,u (.ln l0),u (.bin .eql l0 (.i 0))] [] 0 (.reg [w 3 (.mv (.i 4))] []) .skip) (.seq (.seq (.reg [w 4 (.mv (.i 0))] []) (.blk 0 K.jc)) (.seq (.reg [u (.bd [.t (.int .i64 (0)),.t (.int .i64 (0))] [(0,1,.i 1),(1,1,.i 1)]),u (.bd [.t (.int .i64 (0)),.t (.int .i64 (0)),.t (.int .i64 (0)),.t (.int .i64 (0)),.t (.bool false),.t (.bool false),.t (.int .i64 (0)),.t (.int .i64 (0)),.t (.int .i64 (0)),.t (.int .i64 (0))] [(2,1,.i 12),(3,1,.i 10),(4,1,.b true),(6,2,.l 0)]),w 5 (.al [.t (.int .i64 (0)),.t (.int .i64 (0)),.t (.int .i64 (0)),.t (.int .i64 (0)),.t (.bool false),.t (.bool false),.t (.int .i64 (0)),.t (.int .i64 (0)),.t (.int .i64 (0)),.t (.int .i64 (0))] []),u (.st l0 l1 10 [])] []) (.seq (.seq (.reg [w 6 (.mv (.i 1))] []) (.blk 2 K.jd)) (.seq (.seq (.reg [m v0,u (.ca N.aG 0 [] [.l 0,.i 4]),w 8 (.mv l0)] []) (.blk 4 K.je)) (.seq (.reg [h 2 v2,u (.st v1 l0 2 [])] []) .ret))))))))),res:=[(1,some (2,true))]}
def aG:Fn:={ nargs:=2,vars:=[0,1,4],body:=(.seq (.reg [w 2 (.mv (.i 0))] []) (.seq (.ite [m v0,u (.nc l0),f 1 l0,g l0,m v0,u (.nc l0),f 0 l0,g l0,u (.ln l0),u (.bin .geq l5 l0)] [] 0 (.seq (.reg [w 2 (.mv (.i 0))] []) .ret) .skip) (.seq (.reg [m v0,u (.nc l0),f 1 l0,g l0,u (.bin .add l0 (.i 1)),u (.nc l4),f 1 l0,u (.st l0 l2 1 [])] []) (.seq (.reg [m v0,u (.nc l0),f 0 l0,g l0,m v0,u (.nc l0),f 1 l0,g l0,u (.bin .sub l0 (.i 1)),a 1 l5 l0,g l0,m v1,u (.ca N.fq 0 [] [.l 1,.l 0]),w 2 (.mv l0)] []) .ret)))),res:=[(2,none)]}
def ba:Fn:={ nargs:=2,vars:=[0,1,4],body:=(.seq (.reg [w 2 (.mv (.i 0))] []) (.seq (.reg [m v1,m v0,m v1,u (.ln l0),u (.ca N.aG 0 [] [.l 2,.l 0]),a 1 l4 l0,g l0,w 2 (.mv l0)] []) .ret)),res:=[(2,none)]}
def gR:C:=(.seq (.ite [m v3,m v0,u (.ln l0),u (.bin .lss l2 l0)] [] 0 .skip (.exit 0)) (.seq (.blk 1 (.ite [m v0,m v3,a 1 l1 l0,g l0,m v1,u (.bin .eql l1 l0)] [] 0 (.seq (.reg [w 2 (.mv (.b true))] []) .ret) .skip)) (.reg [m v3,u (.bin .add l0 (.i 1)),w 3 (.mv l0)] [])))
def nY:C:= .loop true [2] K.gR
def dn:Fn:={ nargs:=2,vars:=[0,1,4,5],body:=(.seq (.reg [w 2 (.mv (.b false))] []) (.seq (.seq (.reg [w 3 (.mv (.i 0))] []) (.blk 0 K.nY)) (.seq (.reg [w 2 (.mv (.b false))] []) .ret))),res:=[(2,none)]}
def bI:Fn:={ nargs:=2,vars:=[0,1,4],body:=(.seq (.reg [w 2 (.mv (.b false))] []) (.seq (.reg [m v0,m v1,u (.ca N.aG 0 [] [.l 1,.l 0]),m v1,u (.bin .sub l0 (.i 1)),u (.bin .eql l2 l0),w 2 (.mv l0)] []) .ret)),res:=[(2,none)]}
def eG:C:=(.seq (.ite [m v4,m v1,u (.bin .lss l1 l0)] [] 0 .skip (.exit 0)) (.seq (.blk 1 (.ite [m v0,u (.ca N.aG 0 [] [.l 0,.i 3]),u (.bin .eql l0 (.i 0))] [] 0 (.reg [m v3,m v4,u (.bs [.l 0] 1),u (.app l2 l0 true 1),w 3 (.mv l0)] []) .skip)) (.reg [m v4,u (.bin .add l0 (.i 1)),w 4 (.mv l0)] [])))
def jf:C:= .loop true [2] K.eG
def bR:Fn:={ nargs:=2,vars:=[0,1,4,5,6],body:=(.seq (.reg [w 2 (.mv (.c (.nil)))] []) (.seq (.reg [w 3 (.nw 1)] []) (.seq (.seq (.reg [w 4 (.mv (.i 0))] []) (.blk 0 K.jf)) (.seq (.reg [m v3,w 2 (.mv l0)] []) .ret)))),res:=[(2,none)]}
def fq:Fn:={ nargs:=2,vars:=[0,1,4],body:=(.seq (.reg [w 2 (.mv (.i 0))] []) (.seq (.ite [m v1,u (.bin .lss l0 (.i 1))] [] 0 (.seq (.reg [w 2 (.mv (.i 0))] []) .ret) .skip) (.seq (.reg [m v0,m v1,u (.bin .rem l1 l0),w 0 (.mv l0)] []) (.seq (.ite [m v0,u (.bin .lss l0 (.i 0))] [] 0 (.reg [m v0,m v1,u (.bin .add l1 l0),w 0 (.mv l0)] []) .skip) (.seq (.reg [m v0,w 2 (.mv l0)] []) .ret))))),res:=[(2,none)]}
end Go.Ev.K
namespace Go.Ev
class bz [Lib]:Prop where
 kh:Lib.fs N.ez=some K.ez
 lG:Lib.fs N.fh=some K.fh
 gD:Lib.fs N.bQ=some K.bQ
 gE:Lib.fs N.aG=some K.aG
 iQ:Lib.fs N.ba=some K.ba
 lH:Lib.fs N.dn=some K.dn
 gZ:Lib.fs N.bI=some K.bI
 gF:Lib.fs N.bR=some K.bR
 nj:Lib.fs N.fq=some K.fq
namespace K
variable [Lib] [bz]
theorem kh:Lib.fs N.ez=some K.ez:=bz.kh
theorem lG:Lib.fs N.fh=some K.fh:=bz.lG
theorem gD:Lib.fs N.bQ=some K.bQ:=bz.gD
theorem gE:Lib.fs N.aG=some K.aG:=bz.gE
theorem iQ:Lib.fs N.ba=some K.ba:=bz.iQ
theorem lH:Lib.fs N.dn=some K.dn:=bz.lH
theorem gZ:Lib.fs N.bI=some K.bI:=bz.gZ
theorem gF:Lib.fs N.bR=some K.bR:=bz.gF
theorem nj:Lib.fs N.fq=some K.fq:=bz.nj
end K
end Go.Ev
namespace Go.Ev.K
open Go.Ev
def aF:Fn:={ nargs:=2,vars:=[0,1,4],body:=(.seq (.reg [w 2 (.mv (.b false))] []) (.seq (.reg [m v0,m v1,u (.ca N.aR 0 [] [.l 1,.l 0]),u (.bin .geq l0 (.i 0)),w 2 (.mv l0)] []) .ret)),res:=[(2,none)]}
def aQ:Fn:={ nargs:=2,vars:=[0,1,4],body:=(.seq (.reg [w 2 (.mv (.b false))] []) (.seq (.reg [m v0,m v1,u (.ca N.bc 0 [] [.l 1,.l 0]),u (.bin .geq l0 (.i 0)),w 2 (.mv l0)] []) .ret)),res:=[(2,none)]}
def cn:C:=(.its [u (.bin .lss v5 v4)] [] 0 .skip (.exit 0) (.seq (.blk 1 (.seq (.reg [m v5,w 3 (.mv l0)] []) (.ite [m v1,m v0,m v3,a 1 l1 l0,g l0,u (.cw l4 0 [] [.l 0])] [] 0 (.seq (.reg [m v3,w 2 (.mv l0)] []) .ret) .skip))) (.reg [u (.bin .add v5 (.i 1)),w 5 (.mv l0)] [])))
def eM:C:= .loop true [2,3] K.cn
def aR:Fn:={ nargs:=2,vars:=[0,1,4,5,7,8],body:=(.seq (.reg [w 2 (.mv (.i 0))] []) (.seq (.seq (.reg [m v0,w 4 (.ln l0),w 5 (.mv (.i 0))] []) (.blk 0 K.eM)) (.seq (.reg [w 2 (.mv (.i (-1)))] []) .ret))),res:=[(2,none)]}
def cP:C:=(.its [u (.bin .lss v5 v4)] [] 0 .skip (.exit 0) (.seq (.blk 1 (.seq (.reg [m v5,w 3 (.mv l0)] []) (.ite [m v1,m v0,m v3,a 1 l1 l0,g l0,u (.bin .eql l4 l0)] [] 0 (.seq (.reg [m v3,w 2 (.mv l0)] []) .ret) .skip))) (.reg [u (.bin .add v5 (.i 1)),w 5 (.mv l0)] [])))
def fO:C:= .loop true [2,3] K.cP
def bc:Fn:={ nargs:=2,vars:=[0,1,4,5,7,8],body:=(.seq (.reg [w 2 (.mv (.i 0))] []) (.seq (.seq (.reg [m v0,w 4 (.ln l0),w 5 (.mv (.i 0))] []) (.blk 0 K.fO)) (.seq (.reg [w 2 (.mv (.i (-1)))] []) .ret))),res:=[(2,none)]}
def bJ:Fn:={ nargs:=3,vars:=[0,1,2,6],body:=(.seq (.reg [w 3 (.mv (.b false))] []) (.seq (.reg [m v0,m v1,u (.bin .geq l1 l0),m l0,y 0 true (.mv v0),y 1 true (.mv v2),y 2 true (.bin .leq l1 l0),u (.pk l3 l0 (.b false)),w 3 (.mv l0)] []) .ret)),res:=[(3,none)]}
end Go.Ev.K
namespace Go.Ev
class bD [Lib]:Prop where
 cU:Lib.fs N.aF=some K.aF
 dI:Lib.fs N.aQ=some K.aQ
 dA:Lib.fs N.aR=some K.aR
 eD:Lib.fs N.bc=some K.bc
 nq:Lib.fs N.bJ=some K.bJ
namespace K
variable [Lib] [bD]
theorem cU:Lib.fs N.aF=some K.aF:=bD.cU
theorem dI:Lib.fs N.aQ=some K.aQ:=bD.dI
theorem dA:Lib.fs N.aR=some K.aR:=bD.dA
theorem eD:Lib.fs N.bc=some K.bc:=bD.eD
theorem nq:Lib.fs N.bJ=some K.bJ:=bD.nq
end K
end Go.Ev
namespace Go.Ev
open Go
variable [Lib]
noncomputable def aX:aM:=gY Lib.fs
theorem aO{raw f:Nat}{args:List D}{H:ag}{fn:Fn}{r:D×ag}(hf:Lib.fs f=some fn)(hn:fn.nargs=args.length)
 (h:(exS aX fn.body ⟨jS args fn.vars,H⟩).bind (JM fn.res H.length raw)=some r) (h0:fn.prim=[]:=by rfl):aX raw f args H=some r:=F6 hf hn h h0
theorem tf{raw f:Nat}{args:List D}{H:ag}{fn:Fn}{r:D×ag}(hf:Lib.fs f=some fn)(h0:fn.prim≠[])(h:oM fn.prim args H=some r):aX raw f args H=some r:=xt hf h0 h
theorem fy{gc:Bool}{dead:List Nat}{c:C}{vs:List D}{H:ag}(s:Nat→St)(n:Nat){e:Ex}{st:St}
 (h0:(⟨dj dead vs,H⟩:St)=s 0) (h:∀j,j<n→fg gc dead (s j).H.length (exS aX c (s j))=some (s (j+1)))
 (he:exS aX c (s n)=some (e,st)) (hn:e≠ .normal):exS aX (.loop gc dead c) ⟨vs,H⟩=some (e,st):=by
 show jD gc dead (exS aX c) ⟨dj dead vs,H⟩=_
 rw[h0]
 exact rE s n h (bC he hn)
theorem gn{gc:Bool}{dead:List Nat}{c:C}{vs:List D}{H:ag}{p:Ex×St}(h:jD gc dead (exS aX c) ⟨dj dead vs,H⟩=some p):exS aX (.loop gc dead c) ⟨vs,H⟩=some p:=h
class Dat (α:Type) where
 dflt:α
instance : Dat Int := ⟨0⟩
instance : Dat Nat := ⟨0⟩
instance : Dat Bool := ⟨false⟩
instance {α : Type} : Dat (List α) := ⟨[]⟩
def nth{α:Type} [Dat α](l:List α)(j:Nat):α:=l.getD j Dat.dflt
theorem mF{α:Type} [Dat α]{l:List α}{j:Nat}(h:j<l.length):l[j]?=some (nth l j):=by simp[nth,h]
theorem aU{α β:Type} [Dat α](f:α→β){l:List α}{j:Nat}(h:j<l.length):(l.map f)[j]?=some (f (nth l j)):=by rw[List.getElem?_map,mF h];rfl
theorem wI{α β γ:Type} [Dat α](f:β→γ)(g:α→β){l:List α}{j:Nat}(h:j<l.length):((l.map g).map f)[j]?=some (f (g (nth l j))):=by rw[List.getElem?_map,aU g h];rfl
theorem bA{α:Type} [Dat α]{l:List α}{j:Nat}(h:j<l.length):nth l j∈l:=List.mem_of_getElem? (mF h)
theorem eH{α:Type} [Dat α]{l:List α}{j:Nat}{x:α}(h:l[j]?=some x):nth l j=x:=by simp[nth,h]
theorem jF{α:Type} [Dat α]{l:List α}{j:Nat}(h:j<l.length):l.take (j+1)=l.take j++[nth l j]:=by
 rw[List.take_succ_eq_append_getElem h];simp[nth,h]
theorem Ul{a b:Int}(h:a<b):(a<b)=True:=by simp[h]
theorem Um{a b:Int}(h:b≤a):(a<b)=False:=by simp[Int.not_lt.2 h]
theorem Un{a b:Int}(h:a≤b):(a≤b)=True:=by simp[h]
theorem Uo{a b:Int}(h:b<a):(a≤b)=False:=by simp[Int.not_le.2 h]
theorem Up{a b:Int}(h:a=b):(a=b)=True:=by simp[h]
theorem Uq{a b:Int}(h:a≠b):(a=b)=False:=by simp[h]
theorem Ur{a b:Nat}(h:a<b):(a<b)=True:=by simp[h]
theorem Us{a b:Nat}(h:b≤a):(a<b)=False:=by simp[Nat.not_lt.2 h]
theorem Ut{a b:Nat}(h:a≤b):(a≤b)=True:=by simp[h]
theorem Uu{a b:Nat}(h:b<a):(a≤b)=False:=by simp[Nat.not_le.2 h]
theorem Uv{a b:Nat}(h:a=b):(a=b)=True:=by simp[h]
theorem Uw{a b:Nat}(h:a≠b):(a=b)=False:=by simp[h]
attribute [go_sem] Uv Uw Ul Um Un Uo Up Uq Ur Us Ut Uu uU aU wI Gm
@[go_sem] theorem K4 (a b : Nat) : ((a + b : Nat) : Int) = (a : Int) + (b : Int) := (rfl)
@[go_sem] theorem K5 : ((1 : Nat) : Int) = 1 := (rfl)
@[go_sem] theorem Hm : ((0 : Nat) : Int) = 0 := (rfl)
@[go_sem] theorem Oi (a b : Int) : a + b - b = a := Int.add_sub_cancel a b
@[go_sem] theorem Eg : (0 : Int).toNat = 0 := (rfl)
@[go_sem] theorem Hn (n : Nat) : (n : Int).toNat = n := (rfl)
@[go_sem] theorem Ho (n : Nat) : ((n : Int) + 1).toNat = n + 1 := (rfl)
@[go_sem] theorem Hp (a : Int) : 0 + a = a := Int.zero_add a
@[go_sem] theorem Hq (a : Int) : a + 0 = a := Int.add_zero a
@[go_sem] theorem Hr (a : Int) : a - 0 = a := Int.sub_zero a
abbrev tI(n:Int):T:= .int .i64 n
abbrev tL(l:List Int):T:= .sl (l.map (.int .i64))
@[go_sem] theorem CE (H : ag) (n : Nat) (ts : List T) (x : T) : bF (frz H n) (ts.map .t ++ [.t x]) = some (ts ++ [x]) := by
 have:ts.map D.t++[.t x]=(ts++[x]).map .t:=by simp
 rw[this,xx]
@[go_sem] theorem Eh {α β : Type} (f : α → β) (a b : List α) : (a ++ b).map f = a.map f ++ b.map f := List.map_append
end Go.Ev
namespace Go.Ev
open Go
variable [Lib] [bz] [bD]
theorem gT{gc:Bool}{dead:List Nat}{c:C}{vs:List D}{H:ag}(s:Nat→St)(n:Nat)(p:Nat→Bool)(e:Nat→Ex×St)(eN:Ex×St)
 (h0:(⟨dj dead vs,H⟩:St)=s 0) (hs:∀j,j<n→p j=false→fg gc dead (s j).H.length (exS aX c (s j))=some (s (j+1)))
 (he:∀j,j<n→p j=true→exS aX c (s j)=some (e j)∧(e j).1≠ .normal) (hN:exS aX c (s n)=some eN) (hn:eN.1≠ .normal):
 exS aX (.loop gc dead c) ⟨vs,H⟩=some (match (List.range n).find? p with | some j=>e j | none=>eN):=by
 show jD gc dead (exS aX c) ⟨dj dead vs,H⟩=_
 rw[h0]
 cases hf:(List.range n).find? p with
 | none=>
   refine rE s n (fun j hj=>hs j hj ?_) (bC hN hn)
   have:=List.find?_eq_none.1 hf j (List.mem_range.2 hj)
   simpa using this
 | some k=>
   obtain⟨h1,as,bs,h2,h3⟩:=List.find?_eq_some_iff_append.1 hf
   have hk:k<n:=List.mem_range.1 (List.mem_of_find?_eq_some hf)
   have hlt:∀j,j<k→p j=false:=by
    intro j hj
    have hlen:as.length=k:=by
     have h4:(List.range n)[as.length]?=some k:=by rw[h2];simp
     have h5:as.length<n:=by
      have:=congrArg List.length h2;simp at this;omega
     rw[List.getElem?_range h5]at h4
     exact Option.some.inj h4
    have:j∈as:=by
     have h6:(List.range n)[j]?=some j:=List.getElem?_range (by omega)
     rw[h2,List.getElem?_append_left (by omega)]at h6
     exact List.mem_of_getElem? h6
    simpa using h3 j this
   obtain⟨k1,k2⟩:=he k hk h1
   exact rE s k (fun j hj=>hs j (by omega) (hlt j hj)) (bC k1 k2)
def zG{α:Type}(f:α→α×Bool):Nat→α→α
 | 0,l=>l
 | n+1,l=>if(f l).2 then zG f n (f l).1 else(f l).1
theorem CF{n:Nat}{p:Nat→Bool}:((List.range n).find? p).isSome=(List.range n).any p:=by
 rw[List.isSome_find?]
theorem zH{n j:Nat}{p:Nat→Bool}(h:(List.range n).find? p=some j):j<n∧p j=true:=⟨List.mem_range.1 (List.mem_of_find?_eq_some h),List.find?_some h⟩
def dJ(m:Nat):List D:=(List.range m).map fun i=> .bp i 0
def aN(bs:List (List T)):ag:=bs.map fun cs=> .box (cs.map .t)
theorem qG{bs:List (List T)}{i:Nat}(h:i<bs.length):(aN bs)[i]?=some (.box (bs[i].map .t)):=by simp[aN,h]
theorem dg(bs:List (List T)):(aN bs).length=bs.length:=by simp[aN]
theorem ns:∀(l sel:List Nat),(sel++l).Nodup→dw sel l=sel++l
 | [],sel,_=>by simp[dw]
 | i::r,sel,h=>by
   have:sel.contains i=false:=by
    rw[← Bool.not_eq_true,List.contains_iff_mem]
    intro hm
    have:=List.nodup_append.1 h
    exact this.2.2 i hm i List.mem_cons_self rfl
   simp only[dw,this,Bool.false_eq_true,if_false]
   rw[ns r (sel++[i]) (by simpa using h)]
   simp
theorem nZ:∀(l:List Nat) (i k:Nat),l.Nodup→l[k]?=some i→idxOf l i=some k
 | [],i,k,_,h=>by simp at h
 | a::l,i,0,_,h=>by simp at h;simp[idxOf,h]
 | a::l,i,k+1,hn,h=>by
   simp at h
   have hne:a≠i:=fun e=>(List.nodup_cons.1 hn).1 (e▸List.mem_of_getElem? h)
   simp only[idxOf,if_neg hne,nZ l i k (List.nodup_cons.1 hn).2 h,Option.map_some]
theorem uZ{m i:Nat}(h:i<m):idxOf (List.range m) i=some i:=nZ _ _ _ List.nodup_range (List.getElem?_range h)
theorem u9{α:Type}{f:α→Option α}:∀ {l:List α},(∀x∈l,f x=some x)→bF f l=some l
 | [],_=>rfl
 | a::l,h=>by
   simp only[bF,h a List.mem_cons_self,Option.bind_some,u9 fun x hx=>h x (List.mem_cons_of_mem _ hx),Option.map_some]
theorem vd(f:Nat→Option Nat)(cs:List T):ei f (.box (cs.map .t))=some (.box (cs.map .t)):=by
 simp only[xB,kG,Option.map_some]
theorem th{H:ag}:∀ {l:List Nat} {hs:ag},l.length=hs.length→(∀(k i:Nat) (o:Obj),l[k]?=some i→hs[k]?=some o→H[i]?=some o)→pick H l=some hs
 | [],[],_,_=>rfl
 | [],_::_,h,_=>by simp at h
 | _::_,[],h,_=>by simp at h
 | i::l,o::hs,h,hg=>by
   rw[zz,hg 0 i o rfl rfl,Option.bind_some,CA,th (l:=l) (hs:=hs) (by simpa using h) fun k i o hk ho=>hg (k+1) i o (by simpa using hk) (by simpa using ho)]
   rfl
theorem n0{H:ag}:∀ {l:List Nat} {os:ag},(∀(k i:Nat) (o:Obj),l[k]?=some i→os[k]?=some o→H[i]?=some o)→cg H l os=H
 | [],os,_=>by cases os<;>rfl
 | i::l,[],_=>rfl
 | i::l,o::os,hg=>by
   simp only[cg]
   rw[Cy (hg 0 i o rfl rfl)]
   exact n0 fun k i o hk ho=>hg (k+1) i o (by simpa using hk) (by simpa using ho)
theorem tj(call:aM)(bs:List (List T))(E:ag)(f raw:Nat)(args:List D){r:D}(h:call raw f args (aN bs)=some (r,aN bs))(hr:ov r=true)
 (ha:∀H:ag,jt H [] 0 args=some args∧bS H [] 0 args=[]) (hids:dw [] (pH 8 args)=List.range bs.length)
 (hren:bF (ren (idxOf (List.range bs.length)) 8) args=some args):xw (aN bs++E) call f raw [] args=some (r,aN bs++E):=by
 generalize hH:aN bs++E=H
 have hget:∀i (hi:i<bs.length),H[i]?=some (.box (bs[i].map .t)):=fun i hi=>by
  rw[← hH,List.getElem?_append_left (by rw[dg];exact hi),qG hi]
 obtain⟨ha,hfz⟩:=ha H
 have hno:j4 H (List.range bs.length)=[]:=by
  simp only[j4,List.flatMap_eq_nil_iff,List.mem_range]
  intro i hi
  rw[hget i hi]
  exact wD 8 bs[i]
 have hsel:reach H 3 (List.range bs.length)=List.range bs.length:=by
  simp only[reach,hno,dw]
 have hget2:∀(k i:Nat) (o:Obj),(List.range bs.length)[k]?=some i→(aN bs)[k]?=some o→H[i]?=some o:=by
  intro k i o hk ho
  have hkl:k<bs.length:=by have:=(List.getElem?_eq_some_iff.1 hk).1;simpa using this
  rw[List.getElem?_range hkl]at hk
  cases hk
  rw[qG hkl]at ho
  rw[hget k hkl,←ho]
 have hpick:pick H (List.range bs.length)=some (aN bs):=th (by simp[dg]) hget2
 have hro:∀f:Nat→Option Nat,bF (ei f) (aN bs)=some (aN bs):=fun f=>u9 fun o ho=>by
  simp only[aN,List.mem_map]at ho
  obtain⟨cs,_,rfl⟩:=ho
  exact vd f cs
 have hput:cg H (List.range bs.length) (aN bs)=H:=n0 hget2
 rw[Cp,Cq,ha,Option.bind_some,Cr,hids,hsel,Cs,hren,Option.bind_some,hfz,Ct]
 simp only[pins]
 rw[hpick,Option.bind_some,Cu,hro,Option.bind_some,Cv,h,Option.bind_some]
 cases hb:bs with
 | nil=>
   subst hb
   have hrr:=rF (f:=cO [] H.length) hr
   simp only[depth]at hrr
   simp only[List.length_nil,List.range_zero,aN,List.map_nil]
   unfold lF
   split
   · rfl
   · rw[wC,hrr,Option.bind_some,wB]
     simp[bF,Cw,cg]
 | cons b bt=>
   rw[← hb]
   have hne:List.range bs.length=0::(List.range' 1 bt.length):=by rw[hb];simp[List.range_eq_range',List.range'_succ]
   have hrr:=rF (f:=cO (List.range bs.length) H.length) hr
   simp only[depth]at hrr
   have hw:lF H H (List.range bs.length) (r,aN bs)=rG H H.length (List.range bs.length) (r,aN bs):=by
    rw[hne];rfl
   rw[hw,wC,hrr,Option.bind_some,wB,hro,Option.bind_some,Cx,List.length_range,List.take_of_length_le (by rw[dg];exact Nat.le_refl _),hput,
    List.drop_eq_nil_of_le (by rw[dg];exact Nat.le_refl _),List.append_nil]
theorem ve(H:ag)(cs:List D)(hc:∀i,jt H [] i cs=some cs∧bS H [] i cs=[]):∀(ts:List T) (i:Nat),jt H [] i (ts.map .t++cs)=some (ts.map .t++cs)∧bS H [] i (ts.map .t++cs)=[]
 | [],i=>hc i
 | t::ts,i=>by
   obtain⟨h1,h2⟩:=ve H cs hc ts (i+1)
   simp only[List.map_cons,List.cons_append,qF,kf,uf,D3,NK,Option.bind_some,zw,h1,h2,N3,zu]
   exact⟨rfl,rfl⟩
theorem tq(H:ag):∀(l:List Nat) (i:Nat),jt H [] i (l.map fun i=> .bp i 0)=some (l.map fun i=> .bp i 0)∧bS H [] i (l.map fun i=> .bp i 0)=[]
 | [],i=>⟨rfl,rfl⟩
 | a::l,i=>by
   obtain⟨h1,h2⟩:=tq H l (i+1)
   simp only[List.map_cons,qF,kf,uf,D3,GG,Option.bind_some,zw,h1,h2,N3,GM]
   exact⟨rfl,rfl⟩
theorem tu(n m:Nat):pH n (dJ m)=List.range m:=by
 simp only[pH,dJ,List.flatMap_map]
 have:∀l:List Nat,(l.flatMap fun a=>ids n (.bp a 0))=l:=by
  intro l
  induction l with
  | nil=>rfl
  | cons a l ih=>rw[List.flatMap_cons,ih,N7];rfl
 exact this _
theorem wJ(n m:Nat):bF (ren (idxOf (List.range m)) n) (dJ m)=some (dJ m):=u9 fun d hd=>by
 simp only[dJ,List.mem_map,List.mem_range]at hd
 obtain⟨k,hk,rfl⟩:=hd
 rw[Ob,uZ hk];rfl
theorem rJ{α β:Type}{f:α→Option β}:∀ {a b:List α} {x y:List β},bF f a=some x→bF f b=some y→bF f (a++b)=some (x++y)
 | [],b,x,y,h1,h2=>by simp[bF]at h1;subst h1;exact h2
 | c::a,b,x,y,h1,h2=>by
   simp only[bF,Option.bind_eq_some_iff,Option.map_eq_some_iff]at h1
   obtain⟨z,hz,r,hr,rfl⟩:=h1
   simp only[List.cons_append,bF,hz,Option.bind_some,rJ hr h2,Option.map_some]
theorem zI(call:aM)(bs:List (List T))(E:ag)(f raw:Nat)(ts:List T){r:D}(h:call raw f (ts.map .t++dJ bs.length) (aN bs)=some (r,aN bs))(hr:ov r=true):
 xw (aN bs++E) call f raw [] (ts.map .t++dJ bs.length)=some (r,aN bs++E):=
 tj call bs E f raw _ h hr (fun H=>ve H _ (tq H _) ts 0)
  (by rw[wE,wD,List.nil_append,tu,ns _ _ (by simpa using List.nodup_range),List.nil_append])
  (rJ (kG _ _ _) (wJ _ _))
theorem Ht(call:aM)(bs:List (List T))(E:ag)(g f raw:Nat)(ts:List T){r:D}(h:call raw f (ts.map .t++[.fn g (dJ bs.length)]) (aN bs)=some (r,aN bs))(hr:ov r=true):
 xw (aN bs++E) call f raw [] (ts.map .t++[.fn g (dJ bs.length)])=some (r,aN bs++E):=
 tj call bs E f raw _ h hr (fun H=>ve H _ (fun i=>⟨rfl,rfl⟩) ts 0)
  (by rw[wE,wD,List.nil_append,zx,N8,tu,Cz,List.append_nil,ns _ _ (by simpa using List.nodup_range),List.nil_append])
  (rJ (kG _ _ _) (by rw[s8,Oe,wJ];rfl))
theorem zJ{f:Nat}{bs:List (List T)}{x:T}{r:D}(E:ag)(h:aX 0 f (.t x::dJ bs.length) (aN bs)=some (r,aN bs))(hr:ov r=true):
 xw (aN bs++E) aX f 0 [] (.t x::dJ bs.length)=some (r,aN bs++E):=zI aX bs E f 0 [x] h hr
theorem gU{f:Nat}{bs:List (List T)}{x:T}{r:D}(h:aX 0 f (.t x::dJ bs.length) (aN bs)=some (r,aN bs))(hr:ov r=true):
 xw (aN bs) aX f 0 [] (.t x::dJ bs.length)=some (r,aN bs):=by
 have:=zJ [] h hr;rwa [List.append_nil]at this
theorem nv(call:aM)(bs:List (List T))(g f raw:Nat)(x:T){r:D}(h:call raw f [.t x,.fn g (dJ bs.length)] (aN bs)=some (r,aN bs))(hr:ov r=true):
 xw (aN bs) call f raw [] [.t x,.fn g (dJ bs.length)]=some (r,aN bs):=by
 have:=Ht call bs [] g f raw [x] h hr
 rwa [List.append_nil]at this
section
variable (bs : List (List T)) (o o' : Obj)
@[go_sem] theorem CG : (aN bs).length = bs.length := dg bs
@[go_sem] theorem K6 : (aN bs ++ [o])[bs.length]? = some o := by
 rw[List.getElem?_append_right (by rw[dg];exact Nat.le_refl _),dg];simp
@[go_sem] theorem Oj : (aN bs ++ [o]).set bs.length o' = aN bs ++ [o'] := by
 rw[List.set_append_right _ _ (by rw[dg];exact Nat.le_refl _),dg];simp
@[go_sem] theorem K7 : (aN bs ++ [o]).take bs.length = aN bs := by
 rw[List.take_append_of_le_length (by rw[dg];exact Nat.le_refl _),List.take_of_length_le (by rw[dg];exact Nat.le_refl _)]
@[go_sem] theorem Hu : (aN bs ++ [o]).take (bs.length + 1) = aN bs ++ [o] := List.take_of_length_le (by simp [dg])
@[go_sem] theorem Hv : (aN bs).take bs.length = aN bs := List.take_of_length_le (by simp [dg])
@[go_sem] theorem Hw (k : Nat) (a b : ag) : dz k (a ++ b) = (dz k a && dz k b) := by
 rw[← gS,←gS,←gS,List.all_append]
@[go_sem] theorem CH (k : Nat) : dz k (aN bs) = true := by
 induction bs with
 | nil=>rfl
 | cons b r ih=>
   show(dU k 8 (b.map .t)&&dz k (aN r))=true
   rw[wz,ih];rfl
@[go_sem] theorem Rn (n : Nat) : ltB n (n + 1) = true := by rw [jE]; simp
@[go_sem] theorem Ro (n : Nat) : ltB n n = false := by rw [jE]; simp
theorem n5(k n m:Nat)(h:m≤k):dU k n (dJ m)=true:=by
 unfold dU dJ
 rw[List.all_eq_true]
 intro d hd
 obtain⟨i,hi,rfl⟩:=List.mem_map.1 hd
 rw[NL,jE]
 have:=List.mem_range.1 hi
 simp;omega
@[go_sem] theorem Hx (n m : Nat) : dU m n (dJ m) = true := n5 _ _ _ (Nat.le_refl _)
@[go_sem] theorem Ei (n m : Nat) : dU (m + 1) n (dJ m) = true := n5 _ _ _ (Nat.le_succ _)
end
end Go.Ev
namespace Go.Ev
open Go
variable [Lib] [bz] [bD]
theorem eO{α:Type}(sz:Nat)(f:α→T)(h:∀a,iP sz (f a).cells=true):∀l:List α,bu sz (l.map f)=true
 | []=>rfl
 | a::l=>by rw[List.map_cons,mC,h,eO sz f h l];rfl
@[go_sem] theorem Ej (k : IntKind) (l : List Int) : bu 1 (l.map (.int k)) = true := eO 1 _ (fun _ => rfl) l
theorem mG(sz:Nat):∀ts:List T,(ts.all fun e=>e.cells.length==sz)=bu sz ts
 | []=>rfl
 | t::ts=>by
   rw[List.all_cons,mC,mG sz ts]
   congr 1
   rw[Bool.eq_iff_iff,dD];simp
section
variable (H : ag) (sz : Nat) (ts : List T) (i j : Int)
@[go_sem] theorem Ux : ta H sz (some (.t (.sl ts))) (some none) (some (some i)) = if 0 ≤ i then (if i ≤ ts.length then (if bu sz ts = true then some (.t (.sl (ts.take i.toNat)), H) else none) else none) else none := by
 simp only[ta,Option.bind_some,iE,bound,mG,idx]
 by_cases h1:0≤i
 · rw[if_pos h1,if_pos h1,Option.bind_some]
   by_cases h2:i≤ts.length
   · rw[if_pos h2]
     by_cases h3:bu sz ts=true
     · rw[if_pos h3,if_pos ⟨by omega,by omega,h3⟩];rfl
     · rw[if_neg h3,if_neg fun h=>h3 h.2.2];rfl
   · rw[if_neg h2,if_neg fun h=>h2 (by omega)];rfl
 · rw[if_neg h1,if_neg h1];rfl
@[go_sem] theorem Uy : ta H sz (some (.t (.sl ts))) (some (some i)) (some none) = if 0 ≤ i then (if i ≤ ts.length then (if bu sz ts = true then some (.t (.sl (ts.drop i.toNat)), H) else none) else none) else none := by
 simp only[ta,Option.bind_some,iE,bound,mG,idx]
 by_cases h1:0≤i
 · rw[if_pos h1,if_pos h1,Option.bind_some]
   by_cases h2:i≤ts.length
   · rw[if_pos h2]
     by_cases h3:bu sz ts=true
     · rw[if_pos h3,if_pos ⟨by omega,by omega,h3⟩,List.take_of_length_le (by simp)];rfl
     · rw[if_neg h3,if_neg fun h=>h3 h.2.2];rfl
   · rw[if_neg h2,if_neg fun h=>h2 (by omega)];rfl
 · rw[if_neg h1,if_neg h1];rfl
@[go_sem] theorem Ol : ta H sz (some (.t (.sl ts))) (some (some i)) (some (some j)) = if 0 ≤ i then (if i ≤ j then (if j ≤ ts.length then (if bu sz ts = true then some (.t (.sl ((ts.drop i.toNat).take (j.toNat - i.toNat))), H) else none) else none) else none) else none := by
 simp only[ta,Option.bind_some,iE,bound,mG,idx]
 by_cases h1:0≤i
 · rw[if_pos h1,if_pos h1,Option.bind_some]
   by_cases h0:i≤j
   · rw[if_pos h0,if_pos (by omega:0≤j),Option.bind_some]
     by_cases h2:j≤ts.length
     · rw[if_pos h2]
       by_cases h3:bu sz ts=true
       · rw[if_pos h3,if_pos ⟨by omega,by omega,h3⟩];rfl
       · rw[if_neg h3,if_neg fun h=>h3 h.2.2];rfl
     · rw[if_neg h2,if_neg fun h=>h2 (by omega)];rfl
   · rw[if_neg h0]
     by_cases h2:0≤j
     · rw[if_pos h2,Option.bind_some,if_neg fun h=>h0 (by omega)];rfl
     · rw[if_neg h2];rfl
 · rw[if_neg h1,if_neg h1];rfl
end
def bsK(H:ag)(l:List Nat):Option T→Option (D×ag)
 | some t=>some (.t (.sl [t]),pins H l)
 | none=>none
@[go_sem] theorem Rr (H : ag) (l : List Nat) (t : T) : bsK H l (some t) = some (.t (.sl [t]), pins H l) := (rfl)
@[go_sem] theorem Rs (H : ag) (sz : Nat) (cs : List D) : qE H sz [.agg cs] = if iP sz cs = true then bsK H (di H 8 (.agg cs)) (frz H 8 (.agg cs)) else none := by
 simp only[qE,List.all_cons,List.all_nil,Bool.and_true,D.cells]
 by_cases h:iP sz cs=true
 · rw[if_pos h,if_pos (by simpa using dD.1 h)]
   simp only[bF,depth,List.flatMap_cons,List.flatMap_nil,List.append_nil]
   cases frz H 8 (.agg cs)<;>rfl
 · rw[if_neg h,if_neg (by intro e;exact h (dD.2 (by simpa using e)))]
@[go_sem] theorem Rt (H : ag) (id ep n : Nat) : qE H 1 [.ref id ep n] = bsK H (di H 8 (.ref id ep n)) (frz H 8 (.ref id ep n)) := by
 simp only[qE,List.all_cons,List.all_nil,Bool.and_true,D.cells,List.length_cons,List.length_nil,beq_self_eq_true,if_true,bF,depth,List.flatMap_cons,List.flatMap_nil,List.append_nil]
 cases frz H 8 (.ref id ep n)<;>rfl
def Hy(H:ag)(r:D)(os:ag):D×ag:=(r,H++os)
@[go_sem] theorem Ru (H : ag) (r : D) (os : ag) : Hy H r os = (r, H ++ os) := (rfl)
def Om(H:ag)(os:ag)(r:D):Option (D×ag):=(bF (ei (cO [] H.length)) os).map (Hy H r)
@[go_sem] theorem Rv (H : ag) (os : ag) (r : D) : Om H os r = (bF (ei (cO [] H.length)) os).map (Hy H r) := (rfl)
@[go_sem] theorem On (H : ag) (r : D) (o : Obj) (os : ag) : pG H (r, o :: os) = (ren (cO [] H.length) 8 r).bind (Om H (o :: os)) := by
 simp only[pG,List.isEmpty_cons,Bool.and_false,Bool.false_eq_true,if_false]
 rfl
end Go.Ev
namespace Go.Ev
open Go
variable [Lib] [bz] [bD]
@[go_sem] theorem Uz (H : ag) (a b : List T) : qE H 1 [.t (.sl a), .t (.sl b), .nil] = some (.t (.sl [.sl a, .sl b, .sl []]), H) := by
 simp only[qE,List.all_cons,List.all_nil,D.cells,T.cells,List.map_cons,List.map_nil,List.length_cons,List.length_nil,bF,frz,depth,di,List.flatMap_cons,List.flatMap_nil,pins]
 rfl
def CI(c:Bool):Option Bool→Option Bool
 | some d=>some (c&&d)
 | none=>none
@[go_sem] theorem K8 (c d : Bool) : CI c (some d) = some (c && d) := (rfl)
@[go_sem] theorem K9 : gM [] [] = some true := (rfl)
@[go_sem] theorem Hz (k : IntKind) (a b : Int) (xs ys : List T) : gM (.int k a :: xs) (.int k b :: ys) = CI (decide (a = b)) (gM xs ys) := by
 simp only[gM,if_true,MI]
 cases gM xs ys<;>rfl
def CJ(H:ag)(neg:Bool):Option Bool→Option (D×ag)
 | some r=>some (.t (.bool (bif neg then !r else r)),H)
 | none=>none
@[go_sem] theorem La (H : ag) (r : Bool) : CJ H true (some r) = some (.t (.bool (!r)), H) := (rfl)
@[go_sem] theorem HA (H : ag) (r : Bool) : CJ H false (some r) = some (.t (.bool r), H) := (rfl)
@[go_sem] theorem HB (H : ag) (n : Nat) (neg : Bool) (xs ys : List T) : kN H (.ints n) neg (some (.t (.agg xs))) (some (.t (.agg ys))) = if xs.length = n then CJ H neg (gM xs ys) else none := by
 simp only[kN,Option.bind_some,DI,eqD]
 by_cases h:xs.length=n
 · simp only[if_pos h]
   cases gM xs ys with
   | none=>rfl
   | some r=>cases neg<;>rfl
 · simp only[if_neg h];rfl
@[go_sem] theorem Lb : ((2 : Nat) : Int) = 2 := (rfl)
@[go_sem] theorem Ek : ((3 : Nat) : Int) = 3 := (rfl)
def tv(n:Nat)(p:Nat→Bool):Nat:=((List.range n).find? p).getD 0
theorem zK{gc:Bool}{dead:List Nat}{c:C}{vs:List D}{H:ag}(s:Nat→St)(n:Nat)(p:Nat→Bool)(e:Nat→Ex×St)(eN:Ex×St)
 (h0:(⟨dj dead vs,H⟩:St)=s 0)
 (hs:∀j,j<n→p j=false→fg gc dead (s j).H.length (exS aX c (s j))=some (s (j+1)))
 (he:∀j,j<n→p j=true→exS aX c (s j)=some (e j)∧(e j).1≠ .normal)
 (hN:exS aX c (s n)=some eN) (hn:eN.1≠ .normal):
 exS aX (.loop gc dead c) ⟨vs,H⟩=some (if(List.range n).any p=true then e (tv n p)else eN):=by
 rw[gT s n p e eN h0 hs he hN hn,←CF]
 unfold tv
 cases hf:(List.range n).find? p with
 | none=>simp
 | some k=>simp
theorem HC(n:Nat)(p:Nat→Bool):(List.range n).all p= !((List.range n).any fun j=> !p j):=by
 rw[List.all_eq_not_any_not]
@[go_sem] theorem Oo : fI [] [] [] = some true := (rfl)
@[go_sem] theorem Oq (ks : List Bool) (k : IntKind) (a b : Int) (xs ys : List T) : fI (true :: ks) (.int k a :: xs) (.int k b :: ys) = CI (decide (a = b)) (fI ks xs ys) := by
 simp only[fI,if_true,MI]
 cases fI ks xs ys<;>rfl
@[go_sem] theorem Lc (ks : List Bool) (a b : Bool) (xs ys : List T) : fI (false :: ks) (.bool a :: xs) (.bool b :: ys) = CI (decide (a = b)) (fI ks xs ys) := by
 simp only[fI,show(a==b)=decide (a=b)from rfl]
 cases fI ks xs ys<;>rfl
@[go_sem] theorem Rw (H : ag) (ks : List Bool) (neg : Bool) (xs ys : List T) : kN H (.sc ks) neg (some (.t (.agg xs))) (some (.t (.agg ys))) = CJ H neg (fI ks xs ys) := by
 simp only[kN,Option.bind_some,DI,eqD]
 cases fI ks xs ys with
 | none=>rfl
 | some r=>cases neg<;>rfl
def Mod(n m:Int):Int:=if m<1 then 0 else if n.tmod m<0 then n.tmod m+m else n.tmod m
theorem Ot(n m:Int):0≤Mod n m:=by
 unfold Mod
 split
 · omega
 · have h5:=Int.lt_tmod_of_pos n (b:=m) (by omega)
   split<;>omega
theorem Ou(n m:Int)(h:1≤m):Mod n m<m:=by
 unfold Mod
 rw[if_neg (by omega)]
 have h3:=Int.tmod_lt_of_pos n (b:=m) (by omega)
 split<;>omega
theorem Ov(n m:Int)(hm:m≤4611686018427387904):aX 0 N.fq [I n,I m] []=some (I (Mod n m),[]):=by
 refine aO K.nj rfl ?_
 unfold Mod
 by_cases h1:m<1
 · simp only[go_sem,K.fq,h1,↓reduceIte]
 · have h2:m≠0:=by omega
   have h3:=Int.tmod_lt_of_pos n (b:=m) (by omega)
   have h5:=Int.lt_tmod_of_pos n (b:=m) (by omega)
   by_cases h4:n.tmod m<0
   · simp (disch:=omega) only[go_sem,K.fq,h1,↓reduceIte,h2,h4]
   · simp (disch:=omega) only[go_sem,K.fq,h1,↓reduceIte,h2,h4]
theorem CK(l:List Int):aX 0 N.ez [.t (tL l)] []=some (B (decide (l.length≤400)),[]):=by
 refine aO K.kh rfl ?_
 simp (disch:=omega) only[go_sem,K.ez,↓reduceIte]
 simp only[show((l.length:Int)≤400)=(l.length≤400)by rw[eq_iff_iff];omega]
structure aL where
 L:List Int
 at_:Nat
def aL.obj(d:aL):Obj:= .box [.t (tL d.L),I d.at_]
def aL.dh(d:aL):Prop:=d.L.length≤400
def aL.next(d:aL)(n:Int):Int×aL:=if d.at_<d.L.length then(Mod (nth d.L d.at_) n,⟨d.L,d.at_+1⟩)else(0,d)
theorem aL.El(d:aL)(n:Int):(d.next n).2.L=d.L:=by unfold aL.next;split<;>rfl
theorem aL.bU{d:aL}(h:d.dh)(n:Int):(d.next n).2.dh:=by unfold aL.dh;rw[d.El];exact h
theorem aL.gG(d:aL)(n:Int):0≤(d.next n).1:=by unfold aL.next;split<;>simp[Ot]
theorem aL.gH(d:aL){n:Int}(h:1≤n):(d.next n).1<n:=by unfold aL.next;split<;>simp[Ou _ _ h];omega
theorem hT(d:aL)(n:Int)(hn:n≤4611686018427387904)(hd:d.dh):aX 0 N.aG [.bp 0 0,I n] [d.obj]=some (I (d.next n).1,[(d.next n).2.obj]):=by
 refine aO K.gE rfl ?_
 have hm:=Ov (nth d.L d.at_) n hn
 unfold aL.dh at hd
 unfold aL.next aL.obj
 by_cases h1:d.at_<d.L.length
 · simp (disch:=omega) only[go_sem,K.aG,↓reduceIte,↓if_pos,↓if_neg,Int.add_sub_cancel,hm,Int.natCast_add]
 · simp (disch:=omega) only[go_sem,K.aG,↓reduceIte,↓if_pos,↓if_neg]
@[go_sem] theorem Rx (d : aL) : wF (some d.obj) = [] := by simp only [aL.obj, go_sem]
@[go_sem] theorem Ry (f : Nat → Option Nat) (d : aL) : ei f d.obj = some d.obj := by simp only [aL.obj, go_sem]
@[go_sem] theorem Rz (k : Nat) (d : aL) (r : ag) : dz k (d.obj :: r) = dz k r := by simp only [aL.obj, go_sem]
def aL.one(d:aL)(n:Int):Bool×aL:=(decide ((d.next n).1=n-1),(d.next n).2)
theorem aL.pI{d:aL}(h:d.dh)(n:Int):(d.one n).2.dh:=aL.bU h n
theorem zL(d:aL)(n:Int)(h1:0≤n)(hn:n≤4611686018427387904)(hd:d.dh):aX 0 N.bI [.bp 0 0,I n] [d.obj]=some (B (d.one n).1,[(d.one n).2.obj]):=by
 refine aO K.gZ rfl ?_
 have hm:=hT d n hn hd
 unfold aL.one
 simp (disch:=omega) only[go_sem,K.bI,↓reduceIte,hm]
def aL.of(d:aL)(l:List Int):Int×aL:=(nth l (d.next l.length).1.toNat,(d.next l.length).2)
theorem aL.iH{d:aL}(h:d.dh)(l:List Int):(d.of l).2.dh:=aL.bU h _
theorem aL.mH(d:aL){l:List Int}(h:l≠[]):(d.of l).1∈l:=by
 unfold aL.of
 have hl:0<l.length:=List.length_pos_iff.2 h
 have:=d.gG l.length
 have:=d.gH (n:=l.length) (by omega)
 exact bA (by omega)
theorem zM(d:aL)(l:List Int)(hl:l≠[])(hl2:l.length≤4294967296)(hd:d.dh):aX 0 N.ba [.bp 0 0,.t (tL l)] [d.obj]=some (I (d.of l).1,[(d.of l).2.obj]):=by
 refine aO K.iQ rfl ?_
 have hm:=hT d l.length (by omega) hd
 have h0:0<l.length:=List.length_pos_iff.2 hl
 have h1:=d.gG l.length
 have h2:=d.gH (n:=l.length) (by omega)
 unfold aL.of
 simp (disch:=omega) only[go_sem,K.ba,↓reduceIte,hm]
def aL.hU(d:aL):Nat→List Int×aL
 | 0=>([],d)
 | k+1=>(if((d.hU k).2.next 3).1=0 then(d.hU k).1++[(k:Int)]else(d.hU k).1,((d.hU k).2.next 3).2)
theorem aL.lI{d:aL}(h:d.dh):∀n,(d.hU n).2.dh
 | 0=>h
 | n+1=>aL.bU (aL.lI h n) 3
theorem aL.pJ(d:aL):∀n,(d.hU n).1.length≤n
 | 0=>Nat.le_refl _
 | n+1=>by
   have:=d.pJ n
   unfold aL.hU
   simp only
   split<;>simp<;>omega
theorem HD(d:aL)(n:Nat)(hn:n≤1000000)(hd:d.dh):aX 0 N.bR [.bp 0 0,I n] [d.obj]=some (.t (tL (d.hU n).1),[(d.hU n).2.obj]):=by
 refine aO K.gF rfl ?_
 have hlen:=d.pJ
 have loop:exS aX K.jf ⟨[.bp 0 0,I n,.nil,.ref 1 0 0,I 0],[d.obj,.arr 1 false 0 []]⟩=
  some (.exit 0,⟨[.bp 0 0,I n,.und,.ref 1 0 (d.hU n).1.length,I n],[(d.hU n).2.obj,.arr 1 false 0 (((d.hU n).1.map (T.int .i64)).map .t)]⟩):=by
  refine fy (fun j=>⟨[.bp 0 0,I n,.und,.ref 1 0 (d.hU j).1.length,I j],[(d.hU j).2.obj,.arr 1 false 0 (((d.hU j).1.map (T.int .i64)).map .t)]⟩) n rfl ?_ ?_ (by simp)
  · intro j hj
    have hm:=hT (d.hU j).2 3 (by omega) (aL.lI hd j)
    have:=hlen j
    by_cases h:((d.hU j).2.next 3).1=0
    · simp (disch:=omega) only[go_sem,K.eG,hm,h,aL.hU,↓reduceIte]
    · simp (disch:=omega) only[go_sem,K.eG,hm,h,aL.hU,↓reduceIte]
  · simp (disch:=omega) only[go_sem,K.eG,↓reduceIte]
 simp (disch:=omega) only[go_sem,K.bR,↓reduceIte,loop]
structure Place where
 h:Int
 surf:Bool
instance : Dat Place := ⟨⟨0, false⟩⟩
abbrev Place.e(p:Place):T:= .agg [tI p.h,.bool p.surf]
structure Road where
 frm:Int
 to:Int
 len:Int
 area:Int
 walk:Bool
 closed:Bool
 restL:Int
 restH:Int
 liftL:Int
 liftH:Int
instance : Dat Road := ⟨⟨0, 0, 0, 0, false, false, 0, 0, 0, 0⟩⟩
abbrev Road.e(r:Road):T:= .agg [tI r.frm,tI r.to,tI r.len,tI r.area,.bool r.walk,.bool r.closed,tI r.restL,tI r.restH,tI r.liftL,tI r.liftH]
structure bV where
 places:List Place
 roads:List Road
instance : Dat bV := ⟨⟨[], []⟩⟩
abbrev bV.e(m:bV):T:= .agg [.sl (m.places.map Place.e),.sl (m.roads.map Road.e)]
structure Road.ok(n:Nat)(r:Road):Prop where
 f0:0≤r.frm
 f1:r.frm<n
 t0:0≤r.to
 t1:r.to<n
 ne:r.frm≠r.to
 l0:1≤r.len
 l1:r.len≤100000
 a0:1≤r.area
 a1:r.area≤1000
 r0:1≤r.restL
 r1:r.restL≤r.restH
 r2:r.restH≤262144
 i0: -2199023255552≤r.liftL
 i1:r.liftL≤r.liftH
 i2:r.liftH≤2199023255552
structure bV.ok(m:bV):Prop where
 np:m.places.length≤64
 nr:m.roads.length≤128
 hs:∀p∈m.places, -10000≤p.h∧p.h≤10000
 rs:∀r∈m.roads,r.ok m.places.length
theorem vf{l:List Int}{p:Int→Bool}:((List.range l.length).find? fun j=>p (nth l j)).isSome=l.any p:=by
 rw[List.isSome_find?,Bool.eq_iff_iff,List.any_eq_true,List.any_eq_true]
 constructor
 · rintro ⟨j,hj,h⟩
   exact⟨_,bA (List.mem_range.1 hj),h⟩
 · rintro ⟨x,hx,h⟩
   obtain⟨j,hj⟩:=List.mem_iff_getElem?.1 hx
   exact⟨j,List.mem_range.2 (List.getElem?_eq_some_iff.1 hj).1,by rw[eH hj];exact h⟩
theorem zN(l:List Int)(x:Int)(hl:l.length≤4294967296):aX 0 N.dn [.t (tL l),I x] []=some (B (decide (x∈l)),[]):=by
 refine aO K.lH rfl ?_
 have loop:∀a:D,exS aX K.nY ⟨[.t (tL l),I x,a,I 0],[]⟩=
  some (match (List.range l.length).find? (fun j=>decide (nth l j=x))with
   | some j=>(.ret,⟨[.t (tL l),I x,B true,I j],[]⟩)
   | none=>(.exit 0,⟨[.t (tL l),I x,.und,I l.length],[]⟩)):=by
  intro a
  refine gT (fun j=>⟨[.t (tL l),I x,.und,I j],[]⟩) l.length (fun j=>decide (nth l j=x)) _ _ rfl ?_ ?_ ?_ (by simp)
  · intro j hj hp
    have hp:¬nth l j=x:=of_decide_eq_false hp
    simp (disch:=omega) only[go_sem,K.gR,↓reduceIte]
  · intro j hj hp
    have hp:nth l j=x:=of_decide_eq_true hp
    simp (disch:=omega) only[go_sem,K.gR,↓reduceIte,hp]
    simp
  · simp (disch:=omega) only[go_sem,K.gR,↓reduceIte]
 have e:=vf (l:=l) (p:=fun y=>decide (y=x))
 have e2:l.any (fun y=>decide (y=x))=decide (x∈l):=by rw[Bool.eq_iff_iff];simp
 rw[e2]at e
 simp only[go_sem,K.dn,↓reduceIte,loop]
 cases hf:(List.range l.length).find? (fun j=>decide (nth l j=x))with
 | some j=>rw[hf]at e;simp (disch:=omega) only[go_sem,↓reduceIte,←e]
 | none=>rw[hf]at e;simp (disch:=omega) only[go_sem,↓reduceIte,←e,Option.isSome_none]
def vg(l:List Int)(n:Int):Bool:=(List.range l.length).all fun j=>decide (0≤nth l j∧nth l j<n∧(0<j→nth l (j-1)<nth l j))
theorem eP(x lo hi:Int):aX 0 N.bJ [I x,I lo,I hi] []=some (B (decide (lo≤x∧x≤hi)),[]):=by
 refine aO K.nq rfl ?_
 by_cases h1:lo≤x<;>by_cases h2:x≤hi<;>simp (disch:=omega) only[go_sem,K.bJ,↓reduceIte]
theorem CL(l:List Int)(x:Int)(hl:l.length≤4294967296):aX 0 N.bc [.t (tL l),I x] []=
 some (I (match (List.range l.length).find? (fun j=>decide (nth l j=x))with | some j=>(j:Int) | none=> -1),[]):=by
 refine aO K.eD rfl ?_
 have loop:∀a b:D,exS aX K.fO ⟨[.t (tL l),I x,a,b,I l.length,I 0],[]⟩=
  some (match (List.range l.length).find? (fun j=>decide (nth l j=x))with
   | some j=>(.ret,⟨[.t (tL l),I x,I j,I j,I l.length,I j],[]⟩)
   | none=>(.exit 0,⟨[.t (tL l),I x,.und,.und,I l.length,I l.length],[]⟩)):=by
  intro a b
  refine gT (fun j=>⟨[.t (tL l),I x,.und,.und,I l.length,I j],[]⟩) l.length (fun j=>decide (nth l j=x)) _ _ rfl ?_ ?_ ?_ (by simp)
  · intro j hj hp
    have hp:¬nth l j=x:=of_decide_eq_false hp
    simp (disch:=omega) only[go_sem,K.cP,↓reduceIte]
  · intro j hj hp
    have hp:nth l j=x:=of_decide_eq_true hp
    simp (disch:=omega) only[go_sem,K.cP,↓reduceIte,hp]
    simp
  · simp (disch:=omega) only[go_sem,K.cP,↓reduceIte]
 simp (disch:=omega) only[go_sem,K.bc,↓reduceIte,loop]
 cases hf:(List.range l.length).find? (fun j=>decide (nth l j=x))with
 | some j=>simp (disch:=omega) only[go_sem,↓reduceIte]
 | none=>simp (disch:=omega) only[go_sem,↓reduceIte]
theorem gq(l:List Int)(x:Int)(hl:l.length≤4294967296):aX 0 N.aQ [.t (tL l),I x] []=some (B (decide (x∈l)),[]):=by
 refine aO K.dI rfl ?_
 have h:=CL l x hl
 have e:=vf (l:=l) (p:=fun y=>decide (y=x))
 have e2:l.any (fun y=>decide (y=x))=decide (x∈l):=by rw[Bool.eq_iff_iff];simp
 rw[e2]at e
 cases hf:(List.range l.length).find? (fun j=>decide (nth l j=x))with
 | some j=>rw[hf]at e h;simp (disch:=omega) only[go_sem,K.aQ,↓reduceIte,←e,h]
 | none=>rw[hf]at e h;simp (disch:=omega) only[go_sem,K.aQ,↓reduceIte,←e,h,Option.isSome_none]
theorem tw(l:List Int)(hl:l.length≤4294967296)(f:Nat)(bs:List (List T))(p:Int→Bool)(h:∀x,x∈l→aX 0 f (I x::dJ bs.length) (aN bs)=some (B (p x),aN bs)):
 aX 0 N.aR [.t (tL l),.fn f (dJ bs.length)] (aN bs)=
 some (I (match (List.range l.length).find? (fun j=>p (nth l j))with | some j=>(j:Int) | none=> -1),aN bs):=by
 refine aO K.dA rfl ?_
 have loop:∀a b:D,exS aX K.eM ⟨[.t (tL l),.fn f (dJ bs.length),a,b,I l.length,I 0],aN bs⟩=
  some (match (List.range l.length).find? (fun j=>p (nth l j))with
   | some j=>(.ret,⟨[.t (tL l),.fn f (dJ bs.length),I j,I j,I l.length,I j],aN bs⟩)
   | none=>(.exit 0,⟨[.t (tL l),.fn f (dJ bs.length),.und,.und,I l.length,I l.length],aN bs⟩)):=by
  intro a b
  refine gT (fun j=>⟨[.t (tL l),.fn f (dJ bs.length),.und,.und,I l.length,I j],aN bs⟩) l.length (fun j=>p (nth l j)) _ _ rfl ?_ ?_ ?_ (by simp)
  · intro j hj hp
    have hc:=gU (h _ (bA hj)) rfl
    simp (disch:=omega) only[go_sem,K.cn,↓reduceIte,hc,hp]
  · intro j hj hp
    have hc:=gU (h _ (bA hj)) rfl
    simp (disch:=omega) only[go_sem,K.cn,↓reduceIte,hp,hc]
    simp
  · simp (disch:=omega) only[go_sem,K.cn,↓reduceIte]
 simp (disch:=omega) only[go_sem,K.aR,↓reduceIte,loop]
 cases hf:(List.range l.length).find? (fun j=>p (nth l j))with
 | some j=>simp (disch:=omega) only[go_sem,↓reduceIte]
 | none=>simp (disch:=omega) only[go_sem,↓reduceIte]
theorem kj(l:List Int)(hl:l.length≤4294967296)(f:Nat)(bs:List (List T))(p:Int→Bool)(h:∀x,x∈l→aX 0 f (I x::dJ bs.length) (aN bs)=some (B (p x),aN bs)):
 aX 0 N.aF [.t (tL l),.fn f (dJ bs.length)] (aN bs)=some (B (l.any p),aN bs):=by
 refine aO K.cU rfl ?_
 have h:=tw l hl f bs p h
 have hc:=nv aX bs f _ 0 (tL l) h rfl
 have e:=vf (l:=l) (p:=p)
 cases hf:(List.range l.length).find? (fun j=>p (nth l j))with
 | some j=>rw[hf]at e hc;simp (disch:=omega) only[go_sem,K.aF,↓reduceIte,←e,hc]
 | none=>rw[hf]at e hc;simp (disch:=omega) only[go_sem,K.aF,↓reduceIte,←e,hc,Option.isSome_none]
def iR(m:bV)(k:Nat)(back:Bool)(up down level:Int):Int:=
 let x:=nth m.roads k
 if x.closed=true∨x.walk=false then -1 else
 let a:=if back then x.to else x.frm
 let b:=if back then x.frm else x.to
 let rise:=(nth m.places b.toNat).h-(nth m.places a.toNat).h
 let speed:=if -10*rise>x.len then down else if 10*rise>x.len then up else level
 (10*x.len+speed-1).tdiv speed
theorem rK{a b:Int}(ha:0≤a)(hb:1≤b):0≤a.tdiv b∧a.tdiv b≤a:=by
 rw[Int.tdiv_eq_ediv_of_nonneg ha]
 exact⟨Int.ediv_nonneg ha (by omega),Int.ediv_le_self _ ha⟩
theorem wK{m:bV}(h:m.ok)(k:Nat)(hk:k<m.roads.length)(back:Bool): -1≤iR m k back 6 9 12∧iR m k back 6 9 12≤1000012:=by
 have l0:=(h.rs _ (bA hk)).l0
 have l1:=(h.rs _ (bA hk)).l1
 unfold iR
 simp only
 split
 · omega
 · generalize hs:(if -10*_>(nth m.roads k).len then(9:Int)else _)=s
   have h1:1≤s∧s≤12:=by
    rw[← hs]
    split
    · omega
    · split<;>omega
   have g1:=rK (a:=10*(nth m.roads k).len+s-1) (b:=s) (by omega) h1.1
   omega
def bnd(l:List Int):Prop:=∀x∈l,0≤x∧x≤1099511627776
def Em(l:List Int)(p q:Nat)(walk t:Int):Bool:=
 decide (0≤walk)&&decide (nth l p<1099511627776)&&decide (max t (nth l p+walk)≤2147483648)&&decide (max t (nth l p+walk)<nth l q)
def Ow(l:List Int)(p q:Nat)(walk t:Int):List Int:=if Em l p q walk t=true then l.set q (max t (nth l p+walk))else l
def VS(into:Option (List Int))(p:Int):Bool:=match into with
 | none=>true
 | some l=>decide (p∈l)
def Ox(into:Option (List Int)):D:=match into with
 | none=> .nil
 | some l=> .t (tL l)
def Road.src(r:Road)(back:Bool):Int:=if back then r.to else r.frm
def Road.dst(r:Road)(back:Bool):Int:=if back then r.frm else r.to
theorem Road.vQ{n:Nat}{r:Road}(h:r.ok n)(back:Bool):0≤r.src back∧r.src back<n:=by
 unfold Road.src;have:=h.f0;have:=h.f1;have:=h.t0;have:=h.t1;cases back<;>simp<;>omega
def Oy(m:bV)(t:Int)(into:Option (List Int))(k:Nat)(back:Bool)(l:List Int):List Int×Bool:=
 if VS into ((nth m.roads k).dst back)=true then
  (Ow l ((nth m.roads k).src back).toNat ((nth m.roads k).dst back).toNat (iR m k back 6 9 12) t,Em l ((nth m.roads k).src back).toNat ((nth m.roads k).dst back).toNat (iR m k back 6 9 12) t)
 else(l,false)
def UA(m:bV)(t:Int)(into:Option (List Int))(k:Nat)(s:List Int×Bool):List Int×Bool:=
 let a:=Oy m t into k false s.1
 let b:=Oy m t into k true a.1
 (b.1,s.2||a.2||b.2)
def En(m:bV)(t:Int)(into:Option (List Int))(l:List Int):Nat→List Int×Bool
 | 0=>(l,false)
 | k+1=>UA m t into k (En m t into l k)
def Oz(m:bV)(t:Int)(into:Option (List Int))(l:List Int):List Int×Bool:=En m t into l m.roads.length
theorem HE{l:List Int}(h:bnd l){q:Nat}{x:Int}(h0:0≤x)(h1:x≤1099511627776):bnd (l.set q x):=by
 intro y hy
 rcases List.mem_or_eq_of_mem_set hy with hy | hy
 · exact h y hy
 · subst hy;exact⟨h0,h1⟩
section
variable {m : bV} (h : m.ok) {t : Int} {into : Option (List Int)}
include h
end
def VT(l:List Int):Nat:=(l.map Int.toNat).sum
section
variable {m : bV} (h : m.ok) {t : Int} {into : Option (List Int)}
include h
end
end Go.Ev
namespace Go.Ev
open Go
variable [Lib] [bz] [bD]
abbrev aH(m:bV):List D:=[.t (.sl (m.places.map Place.e)),.t (.sl (m.roads.map Road.e))]
@[go_sem] theorem OA (k n : Nat) (into : Option (List Int)) : old k n (Ox into) = true := by
 cases into<;>simp only[Ox,go_sem]
structure Wh where
 time:Int
 frm:List Int
instance : Dat Wh := ⟨⟨0, []⟩⟩
abbrev Wh.e(w:Wh):T:= .agg [tI w.time,tL w.frm]
def pK(m:bV)(t:Int)(into:Option (List Int))(l:List Int):List Int:=zG (Oz m t into) (VT l+1) l
def inT(t:Int):Prop:=0≤t∧t≤2147483648
instance (t : Int) : Decidable (inT t) := by unfold inT; infer_instance
def plT(x:Int):Prop:=x=1099511627776∨inT x
instance (t : Int) : Decidable (plT t) := by unfold plT; infer_instance
def zO(w:Wh)(n:Int):Bool:=decide ((w.frm.length:Int)=n∧inT w.time)&&(List.range w.frm.length).all fun j=>decide (plT (nth w.frm j))
def tx(m:bV)(w:Wh):Bool:=zO w m.places.length&&decide (pK m w.time none w.frm=w.frm)
theorem vh{w:Wh}{n:Int}(h:zO w n=true):(w.frm.length:Int)=n∧inT w.time∧∀x∈w.frm,plT x:=by
 simp only[zO,Bool.and_eq_true,decide_eq_true_eq,List.all_eq_true,List.mem_range]at h
 refine⟨h.1.1,h.1.2,fun x hx=>?_⟩
 obtain⟨j,hj⟩:=List.mem_iff_getElem?.1 hx
 have:=h.2 j (List.getElem?_eq_some_iff.1 hj).1
 rwa [eH hj]at this
def zP(n:Nat):List Int:=List.replicate n 1099511627776
@[simp] theorem Ld (n : Nat) : (zP n).length = n := List.length_replicate
def zQ(m:bV)(p t:Int):Wh×Int:=
 if p<0∨(m.places.length:Int)≤p then(⟨0,[]⟩,3)else if inT t then(⟨t,pK m t none ((zP m.places.length).set p.toNat t)⟩,0)else(⟨0,[]⟩,8)
def zR(w:Wh)(t:Int):Wh×Int:=if t<w.time∨2147483648<t then(w,8)else(⟨t,w.frm⟩,0)
def wL(m:bV)(w:Wh)(places:List Int)(a b:Int):Int:=
 if tx m w=true∧places≠[]∧vg places m.places.length=true then(if inT a∧inT b∧a≤b then 0 else 8)else 6
def HF(w:Wh)(t p:Int)(s:List Int×Bool):List Int×Bool:=if nth w.frm p.toNat≤t then(s.1.set p.toNat (nth w.frm p.toNat),true)else s
def UB(w:Wh)(l:List Int)(t:Int)(n:Nat):Nat→List Int×Bool
 | 0=>(zP n,false)
 | j+1=>HF w t (nth l j) (UB w l t n j)
def VU(m:bV)(w:Wh)(l:List Int)(a b:Int):Wh×Int:=
 if wL m w l a b≠0 then(w,wL m w l a b)else if a<w.time then(w,42)else
 if(UB w l b m.places.length l.length).2=true then(⟨b,pK m a none (UB w l b m.places.length l.length).1⟩,0)else(w,43)
theorem vi{m:bV}{w:Wh}(h:tx m w=true):w.frm.length=m.places.length∧inT w.time∧(∀x∈w.frm,plT x)∧pK m w.time none w.frm=w.frm:=by
 simp only[tx,Bool.and_eq_true,decide_eq_true_eq]at h
 obtain⟨h1,h2,h3⟩:=vh h.1
 exact⟨by omega,h2,h3,h.2⟩
def VV(l0 l:List Int):Nat→List Int
 | 0=>l0
 | j+1=>(VV l0 l j).set (nth l j).toNat 1099511627776
def VW(m:bV)(w:Wh)(l:List Int)(a b bl:Int):Wh×Int:=
 if wL m w l a b≠0 then(w,wL m w l a b)else if ¬inT bl then(w,8)else if b<w.time then(w,42)else if b-max a w.time≤bl then(w,0)else
 (⟨b,pK m b none (pK m (b-bl) (some l) (VV w.frm l l.length))⟩,0)
def VX(a b:List Int):Nat→List Int
 | 0=>[]
 | j+1=>VX a b j++[min (nth a j) (nth b j)]
def zS(a b:Wh):Wh×Int:=if a.frm.length=b.frm.length then(⟨max a.time b.time,VX a.frm b.frm a.frm.length⟩,0)else(⟨0,[]⟩,6)
structure Spn where
 low:Int
 high:Int
instance : Dat Spn := ⟨⟨0, 0⟩⟩
abbrev Spn.e(f:Spn):T:= .agg [tI f.low,tI f.high]
def Spn.ok(f:Spn):Prop:= -1125899906842624≤f.low∧f.high≤1125899906842624∧f.low≤f.high
instance (f : Spn) : Decidable f.ok := by unfold Spn.ok; infer_instance
def zT(m:bV)(l:List Spn):Bool:=(List.range l.length).all (fun j=>decide (nth l j).ok)&&decide (l.length=m.roads.length)
def nx(x:Road)(f:Spn)(back:Bool):Int:=
 if x.closed=true then -1 else
 let g:=if back then -f.low else f.high
 let out:=if 0<g then(x.len*x.area*1000).tdiv g else -1
 if(if back then f.low<500*x.area else -500*x.area<f.high)∧(out<0∨x.len<out)then x.len else out
def OB(l:List Int)(p q:Nat)(t:Int):Bool:=decide (0≤t∧nth l p+t<nth l q)
def UC(l:List Int)(p q:Nat)(t:Int):List Int:=if OB l p q t=true then l.set q (nth l p+t)else l
def Eo(m:bV)(fl:List Spn)(k:Nat)(back:Bool)(l:List Int):List Int×Bool:=
 (UC l ((nth m.roads k).src back).toNat ((nth m.roads k).dst back).toNat (nx (nth m.roads k) (nth fl k) back),OB l ((nth m.roads k).src back).toNat ((nth m.roads k).dst back).toNat (nx (nth m.roads k) (nth fl k) back))
def OC(m:bV)(fl:List Spn)(k:Nat)(s:List Int×Bool):List Int×Bool:=
 let a:=Eo m fl k false s.1
 let b:=Eo m fl k true a.1
 (b.1,s.2||a.2||b.2)
def zU(m:bV)(fl:List Spn)(l:List Int):Nat→List Int×Bool
 | 0=>(l,false)
 | k+1=>OC m fl k (zU m fl l k)
def HG(m:bV)(fl:List Spn)(l:List Int):List Int×Bool:=zU m fl l m.roads.length
section
variable {m : bV} (h : m.ok) {fl : List Spn}
include h
end
def RA(l:List Int):Nat→List Int
 | 0=>l
 | j+1=>if 2147483648<nth (RA l j) j then(RA l j).set j 1099511627776 else RA l j
def Ep(m:bV)(fl:List Spn)(l:List Int):List Int:=RA (zG (HG m fl) (VT l+1) l) m.places.length
end Go.Ev
namespace Go.Ev
open Go
variable [Lib] [bz] [bD]
def plS(t x:Int):Prop:=x=1099511627776∨(t≤x∧x≤2147483648)
instance (t x : Int) : Decidable (plS t x) := by unfold plS; infer_instance
def zV(m:bV)(s:Wh):Bool:=(List.range s.frm.length).all (fun j=>decide (plS s.time (nth s.frm j)))&&decide (s.frm.length=m.places.length∧inT s.time)
def HH(l:List Int)(t:Int)(n:Nat):List Int:=(List.range n).map fun(p:Nat)=>if(p:Int)∈l then t else 1099511627776
@[simp] theorem OD (l : List Int) (t : Int) (n : Nat) : (HH l t n).length = n := by simp [HH]
def OE(m:bV)(fl:List Spn)(l:List Int)(t:Int):Wh×Int:=
 if zT m fl=false then(⟨0,[]⟩,6)else if vg l m.places.length=false then(⟨0,[]⟩,3)else if ¬inT t then(⟨0,[]⟩,8)else
 (⟨t,Ep m fl (HH l t m.places.length)⟩,0)
def Er(m:bV)(fl:List Spn)(frm:List Int)(t:Int)(k:Nat)(back:Bool)(l:List Int):List Int:=
 if nth frm ((nth m.roads k).src back).toNat≤t∧0≤nx (nth m.roads k) (nth fl k) back then l.set ((nth m.roads k).dst back).toNat (min (nth l ((nth m.roads k).dst back).toNat) t)else l
def OF(m:bV)(fl:List Spn)(frm:List Int)(t:Int)(k:Nat)(l:List Int):List Int:=Er m fl frm t k true (Er m fl frm t k false l)
def chN(m:bV)(fl:List Spn)(frm:List Int)(t:Int):Nat→List Int
 | 0=>frm
 | k+1=>OF m fl frm t k (chN m fl frm t k)
def UD(t:Int)(l:List Int):Nat→List Int
 | 0=>l
 | k+1=>(UD t l k).set k (max (nth (UD t l k) k) t)
def HI(m:bV)(old:List Spn)(next:bV)(fl:List Spn)(s:Wh)(t:Int):Wh×Int:=
 if zV m s=false∨zT m old=false∨zT next fl=false∨next.places.length≠m.places.length then(s,6)else
 if t<s.time∨2147483648<t then(s,8)else(⟨t,Ep next fl (UD t (chN m old s.frm t m.roads.length) m.places.length)⟩,0)
def OH(a b:List Int):Bool:=match (List.range (min a.length b.length)).find? (fun j=>decide (nth a j≠nth b j))with
 | some j=>decide (nth a j<nth b j)
 | none=>decide (a.length<b.length)
def eV(l:List Int)(x:Int):Int:=match (List.range l.length).find? (fun j=>decide (nth l j=x))with
 | some j=>j
 | none=> -1
theorem xE{l:List Int}{x:Int}(h:0≤eV l x):eV l x<l.length∧nth l (eV l x).toNat=x:=by
 unfold eV at h ⊢
 cases hf:(List.range l.length).find? (fun j=>decide (nth l j=x))with
 | some j=>
   obtain⟨h1,h2⟩:=zH hf
   simp only[Int.toNat_natCast]
   exact⟨by omega,of_decide_eq_true h2⟩
 | none=>rw[hf]at h;simp at h
def rL(l:List Int)(j:Nat):Bool:=decide (1≤nth l j∧nth l j≤65535∧eV (l.take j) (nth l j)<0)
def fA(l:List Int):Bool:=(List.range l.length).all (rL l)
structure World where
 tags:List Int
 whr:List Wh
instance : Dat World := ⟨⟨[], []⟩⟩
abbrev World.e(x:World):T:= .agg [tL x.tags,.sl (x.whr.map Wh.e)]
structure Bel where
 worlds:List World
instance : Dat Bel := ⟨⟨[]⟩⟩
abbrev Bel.e(b:Bel):T:= .agg [.sl (b.worlds.map World.e)]
def World.sz(x:World):Prop:=x.tags.length≤1000000∧x.whr.length≤1000000∧∀w∈x.whr,w.frm.length≤1000000
def Bel.sz(b:Bel):Prop:=b.worlds.length≤1000000∧∀x∈b.worlds,x.sz
@[go_sem] theorem HJ (l : List Wh) : bu 2 (l.map Wh.e) = true := eO 2 _ (fun _ => rfl) l
@[go_sem] theorem Br (l : List World) : bu 2 (l.map World.e) = true := eO 2 _ (fun _ => rfl) l
@[go_sem] theorem RB (l : List Wh) : gP 2 (l.map Wh.e) = true := by cases l <;> rfl
@[go_sem] theorem HK (l : List World) : gP 2 (l.map World.e) = true := by cases l <;> rfl
def WY(m:bV)(first:List Int)(x:World)(k:Nat):Bool:=decide (0≤eV first (nth x.tags k))&&tx m (nth x.whr k)
def OI(m:bV)(ws:List World)(first:List Int)(i:Nat):Bool:=
 decide ((nth ws i).tags.length=first.length∧(nth ws i).whr.length=first.length)&&fA (nth ws i).tags&&(decide (i=0)||OH (nth ws (i-1)).tags (nth ws i).tags)&&(List.range (nth ws i).tags.length).all (WY m first (nth ws i))
def VY(m:bV)(b:Bel):Bool:=
 decide (1≤b.worlds.length∧b.worlds.length≤24)&&decide (1≤(nth b.worlds 0).tags.length∧(nth b.worlds 0).tags.length≤12)&&(List.range b.worlds.length).all (OI m b.worlds (nth b.worlds 0).tags)
end Go.Ev
namespace Go.Ev.N
def zW:Nat:=78
def yu:Nat:=79
def xF:Nat:=80
def HL:Nat:=81
def Bt:Nat:=82
def HM:Nat:=83
def HN:Nat:=84
def HO:Nat:=85
def Le:Nat:=86
def Es:Nat:=87
def HP:Nat:=88
def Et:Nat:=89
def Eu:Nat:=90
def Lf:Nat:=91
def Ew:Nat:=92
def Lg:Nat:=93
def OJ:Nat:=94
def OK:Nat:=95
def HQ:Nat:=96
def Lh:Nat:=97
def HR:Nat:=98
def HT:Nat:=99
def HU:Nat:=100
def Li:Nat:=101
def OL:Nat:=102
def ug:Nat:=103
def CM:Nat:=104
def cJ:Nat:=105
def Ey:Nat:=106
def Lj:Nat:=107
def Ll:Nat:=108
def HV:Nat:=109
def Lm:Nat:=110
def Ln:Nat:=111
def HW:Nat:=112
def HX:Nat:=113
def Lo:Nat:=114
def Ez:Nat:=115
def Lp:Nat:=116
def Lq:Nat:=117
def EA:Nat:=118
def EB:Nat:=119
def CN:Nat:=120
def CO:Nat:=121
def wM:Nat:=122
end Go.Ev.N
namespace Go.Ev.K
open Go.Ev
end Go.Ev.K
namespace Go.Ev
class cZ [Lib]:Prop where
namespace K
variable [Lib] [cZ]
end K
end Go.Ev
namespace Go.Ev.K
open Go.Ev
def cV:C:=(.its [u (.bin .lss v8 v7)] [] 0 .skip (.exit 0) (.seq (.blk 1 (.seq (.reg [m v8,a 1 v6 v8,g l0,w 4 (.mv l2),w 5 (.mv l1)] []) (.ite [m v5,m v1,u (.bin .lss l1 l0),m l0,y 0 false (.mv v5),y 1 false (.mv v2),y 2 false (.bin .gtr l1 l0),u (.pk l3 (.b true) l0),m l0,y 0 false (.mv v4),y 1 false (.bin .gtr l0 (.i 0)),y 2 false (.mv l0),y 0 true (.mv v5),y 1 true (.mv v0),y 2 true (.mv v4),y 3 true (.bin .sub l0 (.i 1)),y 4 true (.ia l2 l0 1),y 5 true (.ld l0 1 false),y 6 true (.bin .leq l5 l0),y 10 false (.pk l7 l0 (.b false)),u (.pk l11 (.b true) l0)] [] 0 (.seq (.reg [w 3 (.mv (.b false))] []) .ret) .skip))) (.reg [u (.bin .add v8 (.i 1)),w 8 (.mv l0)] [])))
def km:C:= .loop true [3,4,5] K.cV
def cJ:Fn:={ nargs:=3,vars:=[0,1,2,6,7,8,9,10,11],body:=(.seq (.reg [w 3 (.mv (.b false))] []) (.seq (.seq (.reg [w 6 (.mv v0),w 7 (.ln l0),w 8 (.mv (.i 0))] []) (.blk 0 K.km)) (.seq (.reg [w 3 (.mv (.b true))] []) .ret))),res:=[(3,none)]}
end Go.Ev.K
namespace Go.Ev
class c7 [Lib]:Prop where
 iS:Lib.fs N.cJ=some K.cJ
namespace K
variable [Lib] [c7]
theorem iS:Lib.fs N.cJ=some K.cJ:=c7.iS
end K
end Go.Ev
namespace Go.Ev
open Go
variable [Lib] [bz] [bD] [cZ] [c7]
def zX(l:List Int)(lo hi:Int)(j:Nat):Bool:= !decide (lo≤nth l j∧nth l j≤hi∧(0<j→nth l (j-1)<nth l j))
def EC(l:List Int)(lo hi:Int):Bool:= !((List.range l.length).any (zX l lo hi))
theorem tz(l:List Int)(lo hi:Int)(hl:l.length≤4294967296):aX 0 N.cJ [.t (tL l),I lo,I hi] []=some (B (EC l lo hi),[]):=by
 refine aO K.iS rfl ?_
 have loop:∀a b c:D,exS aX K.km ⟨[.t (tL l),I lo,I hi,a,b,c,.t (tL l),I l.length,I 0],[]⟩=
  some (if(List.range l.length).any (zX l lo hi)=true
   then(.ret,⟨[.t (tL l),I lo,I hi,B false,I (tv l.length (zX l lo hi)),I (nth l (tv l.length (zX l lo hi))),.t (tL l),I l.length,I (tv l.length (zX l lo hi))],[]⟩)
   else(.exit 0,⟨[.t (tL l),I lo,I hi,.und,.und,.und,.t (tL l),I l.length,I l.length],[]⟩)):=by
  intro a b c
  refine zK (fun j=>⟨[.t (tL l),I lo,I hi,.und,.und,.und,.t (tL l),I l.length,I j],[]⟩) l.length (zX l lo hi) (fun j=>(.ret,⟨[.t (tL l),I lo,I hi,B false,I j,I (nth l j),.t (tL l),I l.length,I j],[]⟩)) _ rfl ?_ ?_ ?_ (by simp)
  · intro j hj hp
    simp only[zX,Bool.not_eq_false',decide_eq_true_eq]at hp
    obtain⟨h1,h2,h3⟩:=hp
    cases j with
    | zero=>simp (disch:=omega) only[go_sem,K.cV,↓reduceIte]
    | succ j=>
      have h3:=h3 (by omega)
      rw[Nat.add_sub_cancel]at h3
      simp (disch:=omega) only[go_sem,K.cV,↓reduceIte]
  · intro j hj hp
    simp only[zX,Bool.not_eq_true',decide_eq_false_iff_not]at hp
    refine⟨?_,by simp⟩
    by_cases h1:lo≤nth l j
    · by_cases h2:nth l j≤hi
      · cases j with
        | zero=>exact absurd ⟨h1,h2,fun h=>absurd h (by omega)⟩ hp
        | succ j=>
          have h3:¬nth l j<nth l (j+1):=fun h=>hp ⟨h1,h2,fun _=>by simpa using h⟩
          simp (disch:=omega) only[go_sem,K.cV,↓reduceIte]
      · simp (disch:=omega) only[go_sem,K.cV,↓reduceIte]
    · simp (disch:=omega) only[go_sem,K.cV,↓reduceIte]
  · simp (disch:=omega) only[go_sem,K.cV,↓reduceIte]
 unfold EC
 simp (disch:=omega) only[go_sem,K.cJ,↓reduceIte,loop]
 cases hf:(List.range l.length).any (zX l lo hi)with
 | true=>simp (disch:=omega) only[go_sem,↓reduceIte]
 | false=>simp (disch:=omega) only[go_sem,↓reduceIte,Bool.false_eq_true]
theorem HY(l:List Int)(n:Int):EC l 0 (n-1)=vg l n:=by
 unfold EC vg
 rw[HC]
 refine congrArg (!·) (congrArg _ (funext fun j=>?_))
 unfold zX
 refine congrArg (!·) (decide_eq_decide.2 ⟨fun h=>⟨h.1,by omega,h.2.2⟩,fun h=>⟨h.1,by omega,h.2.2⟩⟩)
structure RC where
 st:Int
 fi:Int
 se:Int
 ti:Int
abbrev RC.e(s:RC):T:= .agg [tI s.st,tI s.fi,tI s.se,tI s.ti]
structure CP where
 area:List Int
 hold:Int
 mis:Int
abbrev CP.e(x:CP):T:= .agg [tL x.area,tI x.hold,tI x.mis]
structure Keys where
 roads:List Int
 keys:List Int
 out:Bool
abbrev Keys.e(k:Keys):T:= .agg [tL k.roads,tL k.keys,.bool k.out]
end Go.Ev
namespace Go.Ev
open Go
variable [Lib] [bz] [bD]
@[go_sem] theorem HZ (l : List Place) : gP 2 (l.map Place.e) = true := by cases l <;> rfl
@[go_sem] theorem Lr (l : List Road) : gP 10 (l.map Road.e) = true := by cases l <;> rfl
@[go_sem] theorem Lt (H : ag) (d : aL) : Cl H 0 1 false (some d.obj) = some (.t (tL d.L), H) := by simp only [aL.obj, go_sem]
def aL.cK(d:aL):Nat→List Place×aL
 | 0=>([],d)
 | k+1=>if k=0 then((d.cK k).1++[⟨-10*((d.cK k).2.next 4).1,true⟩],((d.cK k).2.next 4).2)
   else((d.cK k).1++[⟨-10*((d.cK k).2.next 4).1,(((d.cK k).2.next 4).2.one 6).1⟩],(((d.cK k).2.next 4).2.one 6).2)
def aL.xG(d:aL)(i:Int):Road×aL:=
 (⟨i-1-(d.next (min i 2)).1,i,1+((d.next (min i 2)).2.of [11,59,119,4]).1,1+(((d.next (min i 2)).2.of [11,59,119,4]).2.of [9,3,19]).1,true,false,1,1,0,0⟩,
   (((d.next (min i 2)).2.of [11,59,119,4]).2.of [9,3,19]).2)
def aL.fP(d:aL):Nat→List Road×aL
 | 0=>([],d)
 | k+1=>((d.fP k).1++[((d.fP k).2.xG (k+1)).1],((d.fP k).2.xG (k+1)).2)
def aL.jG(d:aL)(n:Int):Road×aL:=
 let a:=d.next n
 let b:=a.2.next n
 let l:=b.2.of [11,59,199]
 let r:=l.2.of [9,3]
 let w:=r.2.next 5
 let c:=w.2.one 6
 (⟨a.1,b.1,1+l.1,1+r.1,decide (0<w.1),c.1,1,1,0,0⟩,c.2)
def aL.more(n:Int)(l:List Road)(d:aL):Nat→List Road×aL
 | 0=>(l,d)
 | k+1=>if l.length<10 then aL.more n (if(d.jG n).1.frm=(d.jG n).1.to then l else l++[(d.jG n).1]) (d.jG n).2 k else(l,d)
def aL.lJ(d:aL):Nat:=if d.L.length=0 then 4 else(2+(d.next 6).1).toNat
def aL.zY(d:aL):List Place×aL:=(d.next 6).2.cK d.lJ
def aL.rM(d:aL):List Road×aL:=d.zY.2.fP (d.lJ-1)
def aL.CQ(d:aL):List Road×aL:=aL.more d.lJ d.rM.1 (d.rM.2.next 4).2 (d.rM.2.next 4).1.toNat
def aL.iT(d:aL):bV×aL:=(⟨d.zY.1,d.CQ.1⟩,d.CQ.2)
theorem aL.fQ{d:aL}(h:d.dh):∀n,(d.cK n).2.dh
 | 0=>h
 | n+1=>by
   unfold aL.cK
   split
   · exact aL.bU (aL.fQ h n) 4
   · exact aL.pI (aL.bU (aL.fQ h n) 4) 6
theorem aL.jH(d:aL):∀n,(d.cK n).1.length=n
 | 0=>rfl
 | n+1=>by
   unfold aL.cK
   split<;>simp[d.jH n]
theorem aL.vj{d:aL}(h:d.dh)(i:Int):(d.xG i).2.dh:=aL.iH (aL.iH (aL.bU h _) _) _
theorem aL.iI{d:aL}(h:d.dh):∀n,(d.fP n).2.dh
 | 0=>h
 | n+1=>aL.vj (aL.iI h n) _
theorem aL.kH(d:aL):∀n,(d.fP n).1.length=n
 | 0=>rfl
 | n+1=>by simp[aL.fP,d.kH n]
theorem aL.pL{d:aL}(h:d.dh)(n:Int):(d.jG n).2.dh:=by
 unfold aL.jG;simp only
 exact aL.pI (aL.bU (aL.iH (aL.iH (aL.bU (aL.bU h _) _) _) _) _) _
theorem aL.qH(n:Int):∀(k:Nat) (l:List Road) {d:aL},d.dh→(aL.more n l d k).2.dh
 | 0,l,d,h=>h
 | k+1,l,d,h=>by
   unfold aL.more
   split
   · exact aL.qH n k _ (aL.pL h n)
   · exact h
theorem aL.xH{d:aL}(h:d.dh):d.iT.2.dh:=
 aL.qH _ _ _ (aL.bU (aL.iI (aL.fQ (aL.bU h _) _) _) _)
abbrev rN:List D:=[I 0,I 0,I 12,I 10,B true,B false,I 1,I 1,I 0,I 0]
theorem xI(d:aL)(hd:d.dh)(n:Nat)(hn:n≤8)(a b c e f:D):
 exS aX K.jc ⟨[.bp 0 0,.bp 1 0,.bp 2 0,I n,I 0,a,b,c,e,f],[d.obj,.box [.nil,.nil],.box [.ref 3 0 0,.ref 4 0 0],.arr 2 false 0 [],.arr 10 false 0 []]⟩=
 some (.exit 0,⟨[.bp 0 0,.bp 1 0,.bp 2 0,I n,I n,.und,.und,.und,.und,.und],[(d.cK n).2.obj,.box [.nil,.nil],.box [.ref 3 0 (d.cK n).1.length,.ref 4 0 0],.arr 2 false 0 (((d.cK n).1.map Place.e).map .t),.arr 10 false 0 []]⟩):=by
 refine fy (fun j=>⟨[.bp 0 0,.bp 1 0,.bp 2 0,I n,I j,.und,.und,.und,.und,.und],[(d.cK j).2.obj,.box [.nil,.nil],.box [.ref 3 0 (d.cK j).1.length,.ref 4 0 0],.arr 2 false 0 (((d.cK j).1.map Place.e).map .t),.arr 10 false 0 []]⟩) n rfl ?_ ?_ (by simp)
 · intro j hj
   have ln:=d.jH j
   have lt:=aL.fQ hd j
   simp only[aL.cK]
   generalize d.cK j=s at*
   obtain⟨l,d1⟩:=s
   simp only at ln lt ⊢
   have h1:=hT d1 4 (by omega) lt
   have b1:=d1.gG 4
   have b2:=d1.gH (n:=4) (by omega)
   have l1:=aL.bU lt 4
   generalize d1.next 4=a1 at*
   obtain⟨x,d2⟩:=a1
   simp only at h1 b1 b2 l1 ⊢
   by_cases j0:j=0
   · subst j0
     simp (disch:=omega) only[go_sem,K.eF,h1,↓reduceIte,Nat.reduceAdd,Nat.reduceSub]
   · have h2:=zL d2 6 (by omega) (by omega) l1
     simp (disch:=omega) only[go_sem,K.eF,h1,h2,j0,↓reduceIte,Nat.reduceAdd,Nat.reduceSub]
 · simp (disch:=omega) only[go_sem,K.eF,↓reduceIte]
theorem xJ(d:aL)(hd:d.dh)(n:Nat)(hn:n≤8)(h1:1≤n)(ps:List Place)(a b c e:D):
 exS aX K.jd ⟨[.bp 0 0,.bp 1 0,.bp 2 0,I n,a,.bp 5 0,I 1,b,c,e],[d.obj,.box [.nil,.nil],.box [.ref 3 0 ps.length,.ref 4 0 0],.arr 2 false 0 ((ps.map Place.e).map .t),.arr 10 false 0 [],.box rN]⟩=
 some (.exit 2,⟨[.bp 0 0,.bp 1 0,.bp 2 0,I n,.und,.bp 5 0,I n,.und,.und,.und],[(d.fP (n-1)).2.obj,.box [.nil,.nil],.box [.ref 3 0 ps.length,.ref 4 0 (d.fP (n-1)).1.length],.arr 2 false 0 ((ps.map Place.e).map .t),.arr 10 false 0 (((d.fP (n-1)).1.map Road.e).map .t),.box rN]⟩):=by
 refine fy (fun j=>⟨[.bp 0 0,.bp 1 0,.bp 2 0,I n,.und,.bp 5 0,I (j+1),.und,.und,.und],[(d.fP j).2.obj,.box [.nil,.nil],.box [.ref 3 0 ps.length,.ref 4 0 (d.fP j).1.length],.arr 2 false 0 ((ps.map Place.e).map .t),.arr 10 false 0 (((d.fP j).1.map Road.e).map .t),.box rN]⟩) (n-1) rfl ?_ ?_ (by simp)
 · intro j hj
   have ln:=d.kH j
   have lt:=aL.iI hd j
   simp only[aL.fP]
   generalize d.fP j=s at*
   obtain⟨l,d1⟩:=s
   simp only[aL.xG]at ln lt ⊢
   have h1:=hT d1 (min ((j:Int)+1) 2) (by omega) lt
   have b1:=d1.gG (min ((j:Int)+1) 2)
   have b2:=d1.gH (n:=min ((j:Int)+1) 2) (by omega)
   have l1:=aL.bU lt (min ((j:Int)+1) 2)
   generalize d1.next (min ((j:Int)+1) 2)=a1 at*
   obtain⟨x,d2⟩:=a1
   simp only at h1 b1 b2 l1 ⊢
   have h2:=zM d2 [11,59,119,4] (by simp) (by simp) l1
   have m2:=d2.mH (l:=[11,59,119,4]) (by simp)
   have l2:=aL.iH l1 [11,59,119,4]
   generalize d2.of [11,59,119,4]=a2 at*
   obtain⟨y,d3⟩:=a2
   simp only[tL,List.map_cons,List.map_nil]at h2 m2 l2 ⊢
   have h3:=zM d3 [9,3,19] (by simp) (by simp) l2
   have m3:=d3.mH (l:=[9,3,19]) (by simp)
   generalize d3.of [9,3,19]=a3 at*
   obtain⟨z,d4⟩:=a3
   simp only[tL,List.map_cons,List.map_nil,List.mem_cons,List.not_mem_nil,or_false]at h3 m2 m3 ⊢
   simp (disch:=omega) only[go_sem,K.fN,h1,h2,h3,↓reduceIte,Nat.reduceAdd,Nat.reduceSub]
 · simp (disch:=omega) only[go_sem,K.fN,↓reduceIte]
   rw[show((n-1:Nat):Int)+1=n by omega]
abbrev tA(d:aL)(ps:List Place)(l:List Road):ag:=[d.obj,.box [.nil,.nil],.box [.ref 3 0 ps.length,.ref 4 0 l.length],.arr 2 false 0 ((ps.map Place.e).map .t),.arr 10 false 0 ((l.map Road.e).map .t),.box rN]
theorem xK(d:aL)(hd:d.dh)(n:Int)(hn:1≤n)(hn2:n≤8)(ps:List Place)(l:List Road)(hl:l.length<10)(k:Nat)(hk:k≤10):
 fg true [4,6,7,9] 6 (exS aX K.cu ⟨[.bp 0 0,.bp 1 0,.bp 2 0,I n,.und,.bp 5 0,.und,.und,I (k+1),.und],tA d ps l⟩)=
 some ⟨[.bp 0 0,.bp 1 0,.bp 2 0,I n,.und,.bp 5 0,.und,.und,I k,.und],tA (d.jG n).2 ps (if(d.jG n).1.frm=(d.jG n).1.to then l else l++[(d.jG n).1])⟩:=by
 unfold aL.jG tA
 simp only
 have h1:=hT d n (by omega) hd
 have l1:=aL.bU hd n
 generalize d.next n=a1 at*
 obtain⟨x1,d1⟩:=a1
 simp only at h1 l1 ⊢
 have h2:=hT d1 n (by omega) l1
 have l2:=aL.bU l1 n
 generalize d1.next n=a2 at*
 obtain⟨x2,d2⟩:=a2
 simp only at h2 l2 ⊢
 have h3:=zM d2 [11,59,199] (by simp) (by simp) l2
 have m3:=d2.mH (l:=[11,59,199]) (by simp)
 have l3:=aL.iH l2 [11,59,199]
 generalize d2.of [11,59,199]=a3 at*
 obtain⟨x3,d3⟩:=a3
 simp only[tL,List.map_cons,List.map_nil]at h3 m3 l3 ⊢
 have h4:=zM d3 [9,3] (by simp) (by simp) l3
 have m4:=d3.mH (l:=[9,3]) (by simp)
 have l4:=aL.iH l3 [9,3]
 generalize d3.of [9,3]=a4 at*
 obtain⟨x4,d4⟩:=a4
 simp only[tL,List.map_cons,List.map_nil]at h4 m4 l4 ⊢
 have h5:=hT d4 5 (by omega) l4
 have l5:=aL.bU l4 5
 generalize d4.next 5=a5 at*
 obtain⟨x5,d5⟩:=a5
 simp only at h5 l5 ⊢
 have h6:=zL d5 6 (by omega) (by omega) l5
 generalize d5.one 6=a6 at*
 obtain⟨x6,d6⟩:=a6
 simp only[List.mem_cons,List.not_mem_nil,or_false]at h6 m3 m4 ⊢
 by_cases e:x1=x2
 · simp (disch:=omega) only[go_sem,K.cu,h1,h2,h3,h4,h5,h6,e,↓reduceIte,Nat.reduceAdd,Nat.reduceSub]
 · simp (disch:=omega) only[go_sem,K.cu,h1,h2,h3,h4,h5,h6,e,↓reduceIte,Nat.reduceAdd,Nat.reduceSub]
theorem qI(n:Int)(hn:1≤n)(hn2:n≤8)(ps:List Place):∀(k:Nat) (d:aL) (l:List Road),d.dh→l.length≤10→k≤10→
 ∃z:Int,jD true [4,6,7,9] (exS aX K.cu) ⟨[.bp 0 0,.bp 1 0,.bp 2 0,I n,.und,.bp 5 0,.und,.und,I k,.und],tA d ps l⟩=
 some (.exit 4,⟨[.bp 0 0,.bp 1 0,.bp 2 0,I n,.und,.bp 5 0,.und,.und,I z,.und],tA (aL.more n l d k).2 ps (aL.more n l d k).1⟩)
 | 0,d,l,hd,hl,hk=>by
   refine⟨0,bC ?_ (by simp)⟩
   simp (disch:=omega) only[go_sem,K.cu,aL.more,↓reduceIte,Nat.reduceAdd,Nat.reduceSub]
 | k+1,d,l,hd,hl,hk=>by
   by_cases h:l.length<10
   · have hr:=xK d hd n hn hn2 ps l h k (by omega)
     obtain⟨z,hz⟩:=qI n hn hn2 ps k (d.jG n).2 (if(d.jG n).1.frm=(d.jG n).1.to then l else l++[(d.jG n).1]) (aL.pL hd n) (by split<;>(try rw[List.length_append,List.length_singleton])<;>omega) (by omega)
     refine⟨z,bT hr ?_⟩
     rw[hz]
     simp only[aL.more,if_pos h]
   · refine⟨(k:Int)+1,bC ?_ (by simp)⟩
     simp (disch:=omega) only[go_sem,K.cu,aL.more,↓reduceIte,Nat.reduceAdd,Nat.reduceSub]
theorem aL.wN(n:Int):∀(k:Nat) (l:List Road) (d:aL),l.length≤10→(aL.more n l d k).1.length≤10
 | 0,l,d,h=>h
 | k+1,l,d,h=>by
   unfold aL.more
   split
   · exact aL.wN n k _ _ (by split<;>(try rw[List.length_append,List.length_singleton])<;>omega)
   · exact h
theorem aL.oI(d:aL):2≤d.lJ∧d.lJ≤7:=by
 unfold aL.lJ
 have:=d.gG 6
 have:=d.gH (n:=6) (by omega)
 split<;>omega
theorem H3(d:aL)(hd:d.dh):aX 0 N.bQ [.bp 0 0] [d.obj]=some (.t d.iT.1.e,[d.iT.2.obj]):=by
 refine aO K.gD rfl ?_
 have nb:=d.oI
 unfold aL.iT
 have h0:=hT d 6 (by omega) hd
 have l0:=aL.bU hd 6
 have b1:=d.gG 6
 have b2:=d.gH (n:=6) (by omega)
 have hL:=d.El 6
 have hN:(d.lJ:Int)=if d.L.length=0 then 4 else 2+(d.next 6).1:=by unfold aL.lJ;split<;>omega
 have e1:d.CQ=aL.more d.lJ d.rM.1 (d.rM.2.next 4).2 (d.rM.2.next 4).1.toNat:=rfl
 have e2:d.rM=d.zY.2.fP (d.lJ-1):=rfl
 have e3:d.zY=(d.next 6).2.cK d.lJ:=rfl
 generalize d.CQ=X at*
 generalize d.rM=R at*
 generalize d.zY=P at*
 generalize d.lJ=n at*
 generalize d.next 6=a at*
 obtain⟨x,d1⟩:=a
 simp only at h0 l0 b1 b2 hL hN e3 ⊢
 have q1:=xI d1 l0 n (by omega)
 have lP:=aL.fQ l0 n
 have nP:=d1.jH n
 rw[← e3]at q1 lP nP
 obtain⟨ps,d2⟩:=P
 simp only at q1 lP nP e2 ⊢
 have q2:=xJ d2 lP n (by omega) (by omega) ps
 have lR:=aL.iI lP (n-1)
 have nR:=d2.kH (n-1)
 rw[← e2]at q2 lR nR
 obtain⟨rs,d3⟩:=R
 simp only at q2 lR nR e1 ⊢
 have h4:=hT d3 4 (by omega) lR
 have l4:=aL.bU lR 4
 have b3:=d3.gG 4
 have b4:=d3.gH (n:=4) (by omega)
 generalize d3.next 4=c at*
 obtain⟨y,d4⟩:=c
 simp only at h4 l4 b3 b4 e1 ⊢
 obtain⟨z,q3⟩:=qI n (by omega) (by omega) ps y.toNat d4 rs l4 (by omega) (by omega)
 rw[← e1]at q3
 have q3:=gn (vs:=[.bp 0 0,.bp 1 0,.bp 2 0,I n,.und,.bp 5 0,I n,.und,I y.toNat,.und]) q3
 have ey:(y.toNat:Int)=y:=by omega
 rw[ey]at q3
 obtain⟨xs,d5⟩:=X
 have fin:∀k:Int,(exS aX K.je ⟨[.bp 0 0,.bp 1 0,.bp 2 0,I n,.und,.bp 5 0,I n,.und,I y,.und],tA d4 ps rs⟩)=
  some (.exit 4,⟨[.bp 0 0,.bp 1 0,.bp 2 0,I n,.und,.bp 5 0,.und,.und,I z,.und],tA d5 ps xs⟩):=fun _=>q3
 clear q3
 have q3:=fin 0
 clear fin
 simp only[tA]at q3
 by_cases c0:d.L.length=0
 · rw[if_pos c0]at hN
   obtain rfl:n=4:=by omega
   have e4:((4:Nat):Int)=4:=rfl
   simp only[e4]at q1 q2 q3
   simp (disch:=omega) only[go_sem,K.bQ,↓reduceIte,h0,c0,q1,q2,q3,h4,hL,Nat.reduceAdd,Nat.reduceSub]
 · rw[if_neg c0]at hN
   simp (disch:=omega) only[go_sem,K.bQ,↓reduceIte,h0,c0,q1,q2,q3,h4,hL,hN.symm,Nat.reduceAdd,Nat.reduceSub]
theorem aL.CR(d:aL){n:Nat}{i:Int}(h1:1≤i)(h2:i<n):(d.xG i).1.ok n:=by
 have b1:=d.gG (min i 2)
 have b2:=d.gH (n:=min i 2) (by omega)
 have m2:=(d.next (min i 2)).2.mH (l:=[11,59,119,4]) (by simp)
 have m3:=((d.next (min i 2)).2.of [11,59,119,4]).2.mH (l:=[9,3,19]) (by simp)
 simp only[List.mem_cons,List.not_mem_nil,or_false]at m2 m3
 unfold aL.xG
 constructor<;>(simp only;omega)
theorem aL.tB(d:aL){n:Nat}:∀k,k+1≤n→∀r∈(d.fP k).1,r.ok n
 | 0,_,r,hr=>by simp[aL.fP]at hr
 | k+1,h,r,hr=>by
   simp only[aL.fP,List.mem_append,List.mem_singleton]at hr
   rcases hr with hr | rfl
   · exact d.tB k (by omega) r hr
   · exact aL.CR _ (by omega) (by omega)
theorem aL.CS(d:aL){n:Nat}(hn:1≤n)(hne:(d.jG n).1.frm≠(d.jG n).1.to):(d.jG n).1.ok n:=by
 unfold aL.jG at hne ⊢
 simp only at hne ⊢
 have b1:=d.gG n
 have b2:=d.gH (n:=(n:Int)) (by omega)
 generalize d.next n=a1 at*
 obtain⟨x1,d1⟩:=a1
 simp only at*
 have c1:=d1.gG n
 have c2:=d1.gH (n:=(n:Int)) (by omega)
 generalize d1.next n=a2 at*
 obtain⟨x2,d2⟩:=a2
 simp only at*
 have m3:=d2.mH (l:=[11,59,199]) (by simp)
 generalize d2.of [11,59,199]=a3 at*
 obtain⟨x3,d3⟩:=a3
 simp only at*
 have m4:=d3.mH (l:=[9,3]) (by simp)
 generalize d3.of [9,3]=a4 at*
 obtain⟨x4,d4⟩:=a4
 simp only[List.mem_cons,List.not_mem_nil,or_false]at m3 m4 ⊢
 constructor<;>(simp only;omega)
theorem aL.zZ{n:Nat}(hn:1≤n):∀(k:Nat) (l:List Road) (d:aL),(∀r∈l,r.ok n)→∀r∈(aL.more n l d k).1,r.ok n
 | 0,l,d,h=>h
 | k+1,l,d,h=>by
   unfold aL.more
   split
   · refine aL.zZ hn k _ _ ?_
     split
     · exact h
     · rename_i hne
       intro r hr
       rcases List.mem_append.1 hr with hr | hr
       · exact h r hr
       · rw[List.mem_singleton.1 hr];exact d.CS hn hne
   · exact h
theorem aL.tC(n:Int):∀(k:Nat) (l:List Road) (d:aL),l.length≤(aL.more n l d k).1.length
 | 0,l,d=>Nat.le_refl _
 | k+1,l,d=>by
   unfold aL.more
   split
   · refine Nat.le_trans ?_ (aL.tC n k _ _)
     split<;>(try rw[List.length_append])<;>omega
   · exact Nat.le_refl _
theorem aL.tD(d:aL):∀k,∀p∈(d.cK k).1, -30≤p.h∧p.h≤0
 | 0,p,hp=>by simp[aL.cK]at hp
 | k+1,p,hp=>by
   have b1:=(d.cK k).2.gG 4
   have b2:=(d.cK k).2.gH (n:=4) (by omega)
   unfold aL.cK at hp
   split at hp
   all_goals
    simp only[List.mem_append,List.mem_singleton]at hp
    rcases hp with hp | rfl
    · exact d.tD k p hp
    · simp only;omega
theorem aL.pM(d:aL):d.iT.1.places.length=d.lJ:=aL.jH _ _
theorem aL.qJ(d:aL):d.lJ-1≤d.iT.1.roads.length∧d.iT.1.roads.length≤10:=by
 have nb:=d.oI
 have e:d.rM.1.length=d.lJ-1:=aL.kH _ _
 constructor
 · rw[← e];exact aL.tC _ _ _ _
 · exact aL.wN _ _ _ _ (by omega)
theorem aL.Aa(d:aL):d.iT.1.ok:=by
 have nb:=d.oI
 have h1:=d.pM
 have h2:=d.qJ
 refine⟨by omega,by omega,fun p hp=>?_,?_⟩
 · have:=aL.tD _ _ p hp;omega
 · rw[h1]
   exact aL.zZ (by omega) _ _ _ (aL.tB _ _ (by omega))
@[go_sem] theorem OM (l : List Spn) : gP 2 (l.map Spn.e) = true := by cases l <;> rfl
@[go_sem] theorem UE (l : List Spn) (k : Nat) (a b : Int) : (List.map D.t (List.map Spn.e l)).set k (D.t (T.agg [tI a, tI b])) = List.map D.t (List.map Spn.e (l.set k ⟨a, b⟩)) := by
 rw[List.map_set,List.map_set]
@[go_sem] theorem VZ (H : ag) (sz : Nat) (a b c d e f : T) : qE H sz [.t a, .t b, .t c, .t d, .t e, .t f] = if bu sz [a, b, c, d, e, f] = true then some (.t (.sl [a, b, c, d, e, f]), H) else none := ke H sz [a, b, c, d, e, f]
@[go_sem] theorem V0 (H : ag) (sz : Nat) (a b c d e f g : T) : qE H sz [.t a, .t b, .t c, .t d, .t e, .t f, .t g] = if bu sz [a, b, c, d, e, f, g] = true then some (.t (.sl [a, b, c, d, e, f, g]), H) else none := ke H sz [a, b, c, d, e, f, g]
@[go_sem] theorem V1 (H : ag) (sz : Nat) (a b c d e f g h : T) : qE H sz [.t a, .t b, .t c, .t d, .t e, .t f, .t g, .t h] = if bu sz [a, b, c, d, e, f, g, h] = true then some (.t (.sl [a, b, c, d, e, f, g, h]), H) else none := ke H sz [a, b, c, d, e, f, g, h]
@[go_sem] theorem ON {α β γ : Type} {l : List α} {g : α → β} {f : β → γ} {x : γ} {j : Nat} (h : j = l.length) : (List.map f (List.map g l) ++ [x])[j]? = some x := by
 rw[List.getElem?_append_right (by simp;omega)];simp[h]
@[go_sem] theorem RD {α β γ : Type} {l : List α} {g : α → β} {f : β → γ} {x y : γ} {j : Nat} (h : j = l.length) : (List.map f (List.map g l) ++ [x]).set j y = List.map f (List.map g l) ++ [y] := by
 rw[List.set_append_right _ _ (by simp;omega)];simp[h]
def aL.OO(d:aL):Spn×aL:=
 let a:=d.of [0,1000,5000,20000, -5000, -20000,4999,100]
 let b:=a.2.of [0,1,1000,6000]
 let c:=b.2.of [0,1,500]
 let w:=c.2.one 9
 (if w.1=true then⟨-1125899906842624,1125899906842624⟩else⟨a.1-b.1,a.1+c.1⟩,w.2)
def aL.wO(d:aL):Nat→List Spn×aL
 | 0=>([],d)
 | k+1=>((d.wO k).1++[((d.wO k).2.OO).1],((d.wO k).2.OO).2)
def aL.UF(d:aL)(m:bV):List Spn×aL:=d.wO m.roads.length
theorem Ac{gc:Bool}{dead:List Nat}{c:C}{vs:List D}{H:ag}(P:Nat→St→Prop)(n:Nat)(Q:Ex×St→Prop)(h0:P 0 ⟨dj dead vs,H⟩)
 (hs:∀j st,j<n→P j st→(∃st',fg gc dead st.H.length (exS aX c st)=some st'∧P (j+1) st')∨∃q,exS aX c st=some q∧q.1≠ .normal∧Q q)
 (he:∀st,P n st→∃q,exS aX c st=some q∧q.1≠ .normal∧Q q):∃q,exS aX (.loop gc dead c) ⟨vs,H⟩=some q∧Q q:=by
 have key:∀(k j:Nat) (st:St),j+k=n→P j st→∃q,jD gc dead (exS aX c) st=some q∧Q q:=by
  intro k
  induction k with
  | zero=>
    intro j st hj hp
    obtain⟨q,h1,h2,h3⟩:=he st (by rw[← hj];exact hp)
    exact⟨q,bC h1 h2,h3⟩
  | succ k ih=>
    intro j st hj hp
    rcases hs j st (by omega) hp with⟨st',h1,h2⟩ | ⟨q,h1,h2,h3⟩
    · obtain⟨q,h3,h4⟩:=ih (j+1) st' (by omega) h2
      exact⟨q,bT h1 h3,h4⟩
    · exact⟨q,bC h1 h2,h3⟩
 exact key n 0 _ (by omega) h0
theorem OP(l:List Int):aX 0 N.fh [.t (tL l)] []=some (.bp 0 0,[aL.obj ⟨l,0⟩]):=by
 refine aO K.lG rfl ?_
 simp (disch:=omega) only[go_sem,K.fh,↓reduceIte,aL.obj,Nat.reduceAdd,Nat.reduceSub]
theorem qK{d:aL}(hd:d.dh)(n:Int)(h1:1≤n)(hn:n≤4611686018427387904):
 ∃(v:Int) (e:aL),aX 0 N.aG [.bp 0 0,I n] [d.obj]=some (I v,[e.obj])∧e.dh∧0≤v∧v<n:=
 ⟨_,_,hT d n hn hd,aL.bU hd n,d.gG n,d.gH h1⟩
theorem OQ{d:aL}(hd:d.dh)(n:Int)(h1:0≤n)(hn:n≤4611686018427387904):
 ∃(b:Bool) (e:aL),aX 0 N.bI [.bp 0 0,I n] [d.obj]=some (B b,[e.obj])∧e.dh:=
 ⟨_,_,zL d n h1 hn hd,aL.pI hd n⟩
theorem OR{d:aL}(hd:d.dh)(l:List Int)(hl:l≠[])(hn:l.length≤4294967296):
 ∃(v:Int) (e:aL),aX 0 N.ba [.bp 0 0,.t (tL l)] [d.obj]=some (I v,[e.obj])∧e.dh∧v∈l:=
 ⟨_,_,zM d l hl hn hd,aL.iH hd l,d.mH hl⟩
theorem OS{d:aL}(hd:d.dh):
 ∃(m:bV) (e:aL),aX 0 N.bQ [.bp 0 0] [d.obj]=some (.t m.e,[e.obj])∧e.dh∧m.ok∧2≤m.places.length∧m.places.length≤7∧1≤m.roads.length∧m.roads.length≤10:=by
 have b:=d.oI
 have p:=d.pM
 have r:=d.qJ
 exact⟨_,_,H3 d hd,aL.xH hd,d.Aa,by omega,by omega,by omega,by omega⟩
end Go.Ev
namespace Go.Ev
open Go
variable [Lib] [bz] [bD] [cZ] [c7]
abbrev never:Int:=1099511627776
abbrev Wh.box(w:Wh):Obj:= .box [I w.time,.t (tL w.frm)]
structure Req where
 x:CP
 s:RC
 k:Keys
 b:Bel
 t:Int
 from_:Int
abbrev Req.e(r:Req):T:= .agg [tL r.x.area,tI r.x.hold,tI r.x.mis,tI r.s.st,tI r.s.fi,tI r.s.se,tI r.s.ti,tL r.k.roads,tL r.k.keys,.bool r.k.out,.sl (r.b.worlds.map World.e),tI r.t,tI r.from_]
structure Req.sz(r:Req):Prop where
 hx:r.x.area.length≤1000000
 hk:r.k.roads.length≤1000000
 hk2:r.k.keys.length≤1000000
 hb:r.b.sz
section
variable (x : CP) (s : RC) (k : Keys) (b : Bel) (hx : x.area.length ≤ 1000000) (hk : k.roads.length ≤ 1000000) (hk2 : k.keys.length ≤ 1000000) (hb : b.sz)
include hx hk hk2 hb
end
end Go.Ev
namespace Go.Ev
open Go
variable [Lib] [bz] [bD] [cZ] [c7]
section
variable (area : List Int) (ha : area.length ≤ 1000000) (xs : List World) (hx : xs.length ≤ 1000000)
include ha hx
end
end Go.Ev
namespace Go.Ev
open Go
section
variable (H : ag) (sz id ep n lo hi : Nat) (i j : Int) (fz : Bool)
def scO(r:D):Option Obj→Option (D×ag)
 | some (.arr sz' _ ep' es)=>if ep=ep'∧n=es.length then(if sz'=sz then some (r,H)else none)else none
 | _=>none
@[go_sem] theorem UG (r : D) (sz' : Nat) (pin : Bool) (es : List D) : scO H sz ep n r (some (.arr sz' pin ep es)) = if n = es.length then (if sz' = sz then some (r, H) else none) else none := by simp [scO]
theorem scR{l h:Nat}:((dN H id ep n).bind fun a=>if l≤h∧h≤n∧a.1=sz then some (D.sub id ep n l h)else none).map (fun d=>(d,H))=if l≤h then(if h≤n then scO H sz ep n (.sub id ep n l h) H[id]? else none)else none:=by
 simp only[dN]
 generalize H[id]?=o
 by_cases h1:l≤h
 · by_cases h2:h≤n
   · rw[if_pos h1,if_pos h2]
     rcases o with _ | (_ | ⟨sz',pin,ep',es⟩)
     · rfl
     · rfl
     · simp only[scO]
       by_cases h3:ep=ep'∧n=es.length
       · rw[if_pos h3,if_pos h3,Option.bind_some]
         by_cases h4:sz'=sz
         · rw[if_pos h4,if_pos ⟨h1,h2,h4⟩];rfl
         · rw[if_neg h4,if_neg fun h=>h4 h.2.2];rfl
       · rw[if_neg h3,if_neg h3];rfl
   · rw[if_pos h1,if_neg h2]
     rcases o with _ | (_ | ⟨sz',pin,ep',es⟩)
     · rfl
     · rfl
     · by_cases h3:ep=ep'∧n=es.length
       · simp only[if_pos h3,Option.bind_some];rw[if_neg fun h=>h2 h.2.1];rfl
       · simp only[if_neg h3];rfl
 · rw[if_neg h1]
   rcases o with _ | (_ | ⟨sz',pin,ep',es⟩)
   · rfl
   · rfl
   · by_cases h3:ep=ep'∧n=es.length
     · simp only[if_pos h3,Option.bind_some];rw[if_neg fun h=>h1 h.1];rfl
     · simp only[if_neg h3];rfl
@[go_sem] theorem H4 : ta H sz (some (.ref id ep n)) (some none) (some (some i)) = if 0 ≤ i then (if i ≤ n then scO H sz ep n (.sub id ep n 0 i.toNat) H[id]? else none) else none := by
 simp only[ta,Option.bind_some,iE,bound,idx]
 by_cases h1:0≤i
 · rw[if_pos h1,if_pos h1,Option.bind_some,scR,if_pos (Nat.zero_le _)]
   by_cases h2:i≤n
   · rw[if_pos h2,if_pos (by omega)]
   · rw[if_neg h2,if_neg (by omega)]
 · rw[if_neg h1,if_neg h1];rfl
@[go_sem] theorem H5 : ta H sz (some (.ref id ep n)) (some (some i)) (some none) = if 0 ≤ i then (if i ≤ n then scO H sz ep n (.sub id ep n i.toNat n) H[id]? else none) else none := by
 simp only[ta,Option.bind_some,iE,bound,idx]
 by_cases h1:0≤i
 · rw[if_pos h1,if_pos h1,Option.bind_some,scR]
   by_cases h2:i≤n
   · rw[if_pos h2,if_pos (by omega),if_pos (by omega)]
   · rw[if_neg h2,if_neg (by omega)]
 · rw[if_neg h1,if_neg h1];rfl
@[go_sem] theorem CT : ta H sz (some (.ref id ep n)) (some (some i)) (some (some j)) = if 0 ≤ i then (if i ≤ j then (if j ≤ n then scO H sz ep n (.sub id ep n i.toNat j.toNat) H[id]? else none) else none) else none := by
 simp only[ta,Option.bind_some,iE,bound,idx]
 by_cases h1:0≤i
 · rw[if_pos h1,if_pos h1,Option.bind_some]
   by_cases h0:i≤j
   · rw[if_pos h0,if_pos (by omega),Option.bind_some,scR,if_pos (by omega)]
     by_cases h2:j≤n
     · rw[if_pos h2,if_pos (by omega)]
     · rw[if_neg h2,if_neg (by omega)]
   · rw[if_neg h0]
     by_cases h2:0≤j
     · rw[if_pos h2,Option.bind_some,scR,if_neg (by omega)]
     · rw[if_neg h2];rfl
 · rw[if_neg h1,if_neg h1];rfl
@[go_sem] theorem H6 : ta H sz (some .nil) (some none) (some (some i)) = if i = 0 then some (.nil, H) else none := by
 simp only[ta,Option.bind_some,iE,bound,idx]
 by_cases h1:0≤i
 · rw[if_pos h1,Option.bind_some]
   by_cases h2:i=0
   · rw[if_pos h2,if_pos (by omega)];rfl
   · rw[if_neg h2,if_neg (by omega)];rfl
 · rw[if_neg h1,if_neg (by omega)];rfl
@[go_sem] theorem H7 : ta H sz (some .nil) (some (some i)) (some none) = if i = 0 then some (.nil, H) else none := by
 simp only[ta,Option.bind_some,iE,bound,idx]
 by_cases h1:0≤i
 · rw[if_pos h1,Option.bind_some]
   by_cases h2:i=0
   · rw[if_pos h2,if_pos (by omega)];rfl
   · rw[if_neg h2,if_neg (by omega)];rfl
 · rw[if_neg h1,if_neg (by omega)];rfl
def vk(x:D)(ys:List D):Option (D×ag):=if b6 sz ys=true then(match x with
 | .nil=>if ys.length≤4294967296 then some (.ref H.length 0 ys.length,H++[.arr sz false 0 ys])else none
 | .ref id ep n=>nW H sz id ep n ys H[id]?
 | _=>none)else none
@[go_sem] theorem RE (ys : List D) : vk H sz .nil ys = if b6 sz ys = true then (if ys.length ≤ 4294967296 then some (.ref H.length 0 ys.length, H ++ [.arr sz false 0 ys]) else none) else none := (rfl)
@[go_sem] theorem RF (ys : List D) : vk H sz (.ref id ep n) ys = if b6 sz ys = true then nW H sz id ep n ys H[id]? else none := (rfl)
@[go_sem] theorem ED : b6 sz [] = true := (rfl)
@[go_sem] theorem CU (d : D) (r : List D) : b6 sz (d :: r) = iP sz d.cells := by
 rw[Bool.eq_iff_iff,dD];simp[b6]
def OT(x:D):Option Obj→Option (D×ag)
 | some (.arr _ _ ep' es)=>if ep=ep'∧n=es.length then vk H sz x ((es.drop lo).take (hi-lo))else none
 | _=>none
def OU(x:D):Option Obj→Option (D×ag)
 | some (.arr _ _ ep' es)=>if ep=ep'∧n=es.length then vk H sz x es else none
 | _=>none
@[go_sem] theorem RG (x : D) (sz' : Nat) (pin : Bool) (es : List D) : OT H sz ep n lo hi x (some (.arr sz' pin ep es)) = if n = es.length then vk H sz x ((es.drop lo).take (hi - lo)) else none := by simp [OT]
@[go_sem] theorem RH (x : D) (sz' : Nat) (pin : Bool) (es : List D) : OU H sz ep n x (some (.arr sz' pin ep es)) = if n = es.length then vk H sz x es else none := by simp [OU]
theorem vl(x:D)(ys:List D):(if b6 sz ys=true then(match x with
 | .nil=>if ys.length≤lim then some (D.ref H.length 0 ys.length,H++[.arr sz false 0 ys])else none
 | .ref id ep n=>(dN H id ep n).bind fun a=>if a.1=sz∧n+ys.length≤lim then some (.ref id ep (n+ys.length),H.set id (.arr sz a.2.1 ep (a.2.2++ys)))else none
 | _=>none)else none)=vk H sz x ys:=by
 unfold vk
 split
 · cases x with
   | ref id ep n=>
     simp only[dN]
     generalize H[id]?=o
     rcases o with _ | (_ | ⟨sz',pin,ep',es⟩)
     · rfl
     · rfl
     · simp only[nW]
       by_cases h1:ep=ep'∧n=es.length
       · rw[if_pos h1,Option.bind_some]
         by_cases h2:sz'=sz∧n+ys.length≤lim
         · rw[if_pos h2,if_pos ⟨h1.1,h1.2,h2⟩]
         · rw[if_neg h2,if_neg fun h=>h2 h.2.2]
       · rw[if_neg h1,if_neg fun h=>h1 ⟨h.1,h.2.1⟩];rfl
   | _=>rfl
 · rfl
theorem ny(x y:D)(ys:List D)(h:elems H y=some ys):iA H sz false (some x) (some y)=vk H sz x ys:=by
 simp only[iA,Option.bind_some,gA,h,Bool.false_eq_true,if_false]
 exact vl H sz x ys
@[go_sem] theorem Bu (x : D) : iA H sz false (some x) (some .nil) = vk H sz x [] := ny H sz x .nil [] rfl
@[go_sem] theorem Bv (x : D) : iA H sz false (some x) (some (.ref id ep n)) = OU H sz ep n x H[id]? := by
 cases he:elems H (.ref id ep n)with
 | some ys=>
   rw[ny H sz x _ ys he]
   simp only[elems,dN]at he
   generalize H[id]?=o at he
   rcases o with _ | (_ | ⟨sz',pin,ep',es⟩)
   · cases he
   · cases he
   · simp only[OU]
     by_cases h1:ep=ep'∧n=es.length
     · simp only[if_pos h1]at he ⊢;cases he;rfl
     · simp only[if_neg h1]at he;cases he
 | none=>
   have:iA H sz false (some x) (some (.ref id ep n))=none:=by simp only[iA,Option.bind_some,gA,he];rfl
   rw[this]
   simp only[elems,dN]at he
   generalize H[id]?=o at he
   rcases o with _ | (_ | ⟨sz',pin,ep',es⟩)
   · rfl
   · rfl
   · simp only[OU]
     by_cases h1:ep=ep'∧n=es.length
     · simp only[if_pos h1]at he;cases he
     · simp only[if_neg h1]
@[go_sem] theorem Bw (x : D) : iA H sz false (some x) (some (.sub id ep n lo hi)) = OT H sz ep n lo hi x H[id]? := by
 cases he:elems H (.sub id ep n lo hi)with
 | some ys=>
   rw[ny H sz x _ ys he]
   simp only[elems,dN]at he
   generalize H[id]?=o at he
   rcases o with _ | (_ | ⟨sz',pin,ep',es⟩)
   · cases he
   · cases he
   · simp only[OT]
     by_cases h1:ep=ep'∧n=es.length
     · simp only[if_pos h1]at he ⊢;cases he;rfl
     · simp only[if_neg h1]at he;cases he
 | none=>
   have:iA H sz false (some x) (some (.sub id ep n lo hi))=none:=by simp only[iA,Option.bind_some,gA,he];rfl
   rw[this]
   simp only[elems,dN]at he
   generalize H[id]?=o at he
   rcases o with _ | (_ | ⟨sz',pin,ep',es⟩)
   · rfl
   · rfl
   · simp only[OT]
     by_cases h1:ep=ep'∧n=es.length
     · simp only[if_pos h1]at he;cases he
     · simp only[if_neg h1]
def Lu(ep n lo hi:Nat):Option Obj→Option (List D)
 | some (.arr _ _ ep' es)=>if ep=ep'∧n=es.length then some ((es.drop lo).take (hi-lo))else none
 | _=>none
def RI(x:D):Option (List D)→Option (D×ag)
 | some ys0=>(bF (fun d=>(frz H depth d).map .t) ys0).bind fun ys=>if b6 sz ys then vk (pins H (ys0.flatMap (di H depth))) sz x ys else none
 | none=>none
@[go_sem] theorem V2 (x : D) (ts : List T) : RI H sz x (some (ts.map .t)) = vk H sz x (ts.map .t) := by
 simp only[RI,mD,Option.bind_some,zp,pins]
 by_cases h:b6 sz (ts.map D.t)=true
 · rw[if_pos h]
 · rw[if_neg h];unfold vk;rw[if_neg h]
@[go_sem] theorem CV (x : D) : iA H sz true (some x) (some (.sub id ep n lo hi)) = RI H sz x (Lu ep n lo hi H[id]?) := by
 have e:elems H (.sub id ep n lo hi)=Lu ep n lo hi H[id]?:=by
  simp only[elems,dN]
  generalize H[id]?=o
  rcases o with _ | (_ | ⟨sz',pin,ep',es⟩)
  · rfl
  · rfl
  · simp only[Lu]
    by_cases h1:ep=ep'∧n=es.length
    · simp only[if_pos h1];rfl
    · simp only[if_neg h1];rfl
 simp only[iA,Option.bind_some,gA,e]
 cases Lu ep n lo hi H[id]? with
 | none=>rfl
 | some ys0=>
   simp only[Option.bind_some,RI,if_true]
   cases hm:bF (fun d=>(frz H depth d).map D.t) ys0 with
   | none=>rfl
   | some ys=>
     simp only[Option.bind_some]
     refine(vl _ _ _ _).trans ?_
     by_cases h:b6 sz ys=true
     · rw[if_pos h]
     · rw[if_neg h];unfold vk;rw[if_neg h]
@[go_sem] theorem RJ (ep n lo hi sz : Nat) (pin : Bool) (ts : List T) : Lu ep n lo hi (some (.arr sz pin ep (ts.map .t))) = if n = ts.length then some (((ts.drop lo).take (hi - lo)).map .t) else none := by
 simp only[Lu,true_and,List.length_map,List.map_take,List.map_drop]
def vm(ds:List D):Option (D×ag):=if ds.all (fun d=>d.cells.length==sz&&d.eS)then some (.ref H.length 0 ds.length,H++[.arr sz false 0 ds])else none
@[go_sem] theorem V3 (call : aM) (get : X → Option D) (xs : List X) : evO call get H (.bsr xs sz) = (bF get xs).bind (vm H sz) := (rfl)
@[go_sem] theorem OV : vm H sz [] = some (.ref H.length 0 0, H ++ [.arr sz false 0 []]) := (rfl)
@[go_sem] theorem OW (k : IntKind) (n : Int) : vm H 1 [.t (.int k n)] = some (.ref H.length 0 1, H ++ [.arr 1 false 0 [.t (.int k n)]]) := (rfl)
@[go_sem] theorem OX (cs : List D) : vm H sz [.agg cs] = if iP sz cs = true then some (.ref H.length 0 1, H ++ [.arr sz false 0 [.agg cs]]) else none := by
 simp only[vm,List.all_cons,List.all_nil,Bool.and_true,D.cells,D.eS]
 by_cases h:iP sz cs=true
 · rw[if_pos h,if_pos (by simpa using dD.1 h)];rfl
 · rw[if_neg h,if_neg (by intro e;exact h (dD.2 (by simpa using e)))]
end
@[go_sem] theorem EE : (1 : Int).toNat = 1 := (rfl)
@[go_sem] theorem H8 : (2 : Int).toNat = 2 := (rfl)
@[go_sem] theorem CW : (3 : Int).toNat = 3 := (rfl)
section
variable {H t : ag} {i j k : Nat} {o o' : Obj}
theorem kY(h:i<H.length):(H++t)[i]?=H[i]?:=List.getElem?_append_left h
theorem qL(h:i<H.length):(H.set i o)[i]?=some o:=by simp[h]
theorem jg(h:i≠j):(H.set i o)[j]?=H[j]?:=List.getElem?_set_ne h
theorem pN(h:H[i]?=some o):i<H.length:=(List.getElem?_eq_some_iff.1 h).1
end
end Go.Ev
namespace Go.Ev.N
def Ad:Nat:=123
def yv:Nat:=124
def Bx:Nat:=125
def Ae:Nat:=126
def H9:Nat:=127
def Ia:Nat:=128
def Ib:Nat:=129
def Lv:Nat:=130
def Lw:Nat:=131
def Ic:Nat:=132
def Ie:Nat:=133
def CY:Nat:=134
def CZ:Nat:=135
def Lx:Nat:=136
def Ig:Nat:=137
def C0:Nat:=138
def EF:Nat:=139
def By:Nat:=140
def EG:Nat:=141
def C1:Nat:=142
def Af:Nat:=143
def Ag:Nat:=144
def Ah:Nat:=145
def EH:Nat:=146
def EI:Nat:=147
def xL:Nat:=148
end Go.Ev.N
namespace Go.Ev.N
def wP:Nat:=149
def Ai:Nat:=150
def Aj:Nat:=151
def yw:Nat:=152
def Ih:Nat:=153
def Ii:Nat:=154
def EJ:Nat:=155
def EK:Nat:=156
def Ij:Nat:=157
def Lz:Nat:=158
def Ik:Nat:=159
def tE:Nat:=160
def wQ:Nat:=161
def Il:Nat:=162
def LA:Nat:=163
def EL:Nat:=164
def LB:Nat:=165
def EM:Nat:=166
def dV:Nat:=167
def kP:Nat:=168
def C2:Nat:=169
def C3:Nat:=170
def xM:Nat:=171
def C4:Nat:=172
def eB:Nat:=173
def lU:Nat:=174
def Ak:Nat:=175
def Al:Nat:=176
def dq:Nat:=177
end Go.Ev.N
namespace Go.Ev.K
open Go.Ev
def dV:Fn:={ nargs:=1,vars:=[0,1,2],body:=(.seq (.reg [w 1 (.bx v0 2),w 2 (.mv (.b false))] []) (.seq (.reg [h 2 v1,u (.ca N.eB 0 [] [.l 0]),u (.bin .eql l0 (.i 0)),w 2 (.mv l0)] []) .ret)),res:=[(2,none)]}
end Go.Ev.K
namespace Go.Ev
class cL [Lib]:Prop where
 kn:Lib.fs N.dV=some K.dV
namespace K
variable [Lib] [cL]
theorem kn:Lib.fs N.dV=some K.dV:=cL.kn
end K
end Go.Ev
namespace Go.Ev.K
open Go.Ev
def iU:C:=(.its [u (.bin .lss v8 v7)] [] 0 .skip (.exit 0) (.seq (.blk 1 (.seq (.reg [a 2 v6 v8,h 2 l0,w 3 (.al [.t (.int .i64 (0)),.t (.bool false)] []),u (.st l0 l1 2 [])] []) (.ite [f 0 v3,g l0,u (.bin .lss l0 (.i (-10000))),m l0,y 0 false (.fa v3 0),y 1 false (.ld l0 1 false),y 2 false (.bin .gtr l0 (.i 10000)),u (.pk l3 (.b true) l0)] [] 0 (.seq (.reg [w 2 (.mv (.i 1))] []) .ret) .skip))) (.reg [u (.bin .add v8 (.i 1)),w 8 (.mv l0)] [])))
def mI:C:= .loop true [0,2,3,4,5,9,10,11] K.iU
def iV:C:=(.its [u (.bin .lss v11 v10)] [] 0 .skip (.exit 2) (.seq (.blk 3 (.seq (.reg [a 10 v9 v11,h 10 l0,w 5 (.al [.t (.int .i64 (0)),.t (.int .i64 (0)),.t (.int .i64 (0)),.t (.int .i64 (0)),.t (.bool false),.t (.bool false),.t (.int .i64 (0)),.t (.int .i64 (0)),.t (.int .i64 (0)),.t (.int .i64 (0))] []),u (.st l0 l1 10 [])] []) (.seq (.ite [f 0 v5,g l0,u (.bin .lss l0 (.i 0)),m l0,y 0 false (.fa v5 0),y 1 false (.ld l0 1 false),y 2 false (.mv v4),y 3 false (.bin .geq l1 l0),u (.pk l4 (.b true) l0),m l0,y 0 false (.fa v5 1),y 1 false (.ld l0 1 false),y 2 false (.bin .lss l0 (.i 0)),u (.pk l3 (.b true) l0),m l0,y 0 false (.fa v5 1),y 1 false (.ld l0 1 false),y 2 false (.mv v4),y 3 false (.bin .geq l1 l0),u (.pk l4 (.b true) l0),m l0,y 0 false (.fa v5 0),y 1 false (.ld l0 1 false),y 2 false (.fa v5 1),y 3 false (.ld l0 1 false),y 4 false (.bin .eql l2 l0),u (.pk l5 (.b true) l0)] [] 0 (.seq (.reg [w 2 (.mv (.i 4))] []) .ret) .skip) (.seq (.ite [f 2 v5,g l0,u (.bin .lss l0 (.i 1)),m l0,y 0 false (.fa v5 2),y 1 false (.ld l0 1 false),y 2 false (.bin .gtr l0 (.i 100000)),u (.pk l3 (.b true) l0),m l0,y 0 false (.fa v5 3),y 1 false (.ld l0 1 false),y 2 false (.bin .lss l0 (.i 1)),u (.pk l3 (.b true) l0),m l0,y 0 false (.fa v5 3),y 1 false (.ld l0 1 false),y 2 false (.bin .gtr l0 (.i 1000)),u (.pk l3 (.b true) l0)] [] 0 (.seq (.reg [w 2 (.mv (.i 1))] []) .ret) .skip) (.ite [f 6 v5,h 2 l0,u (.ca N.dq 0 [] [.l 0,.i 1,.i 262144]),u (.un .not l0),m l0,y 0 false (.fa v5 8),y 1 false (.ld l0 2 true),y 2 false (.ca N.dq 0 [] [.l 0,.i (-2199023255552),.i 2199023255552]),y 3 false (.un .not l0),u (.pk l4 (.b true) l0)] [] 0 (.seq (.reg [w 2 (.mv (.i 1))] []) .ret) .skip))))) (.reg [u (.bin .add v11 (.i 1)),w 11 (.mv l0)] [])))
def mJ:C:= .loop true [0,1,2,3,5,6,7,8] K.iV
def eB:Fn:={ nargs:=1,vars:=[0,1,2,4,5,7,19,20,21,38,39,40],body:=(.seq (.reg [w 1 (.bx v0 2),w 2 (.mv (.i 0))] []) (.seq (.ite [f 0 v1,g l0,u (.ln l0),u (.bin .gtr l0 (.i 64)),m l0,y 0 false (.fa v1 1),y 1 false (.ld l0 1 false),y 2 false (.ln l0),y 3 false (.bin .gtr l0 (.i 128)),u (.pk l4 (.b true) l0)] [] 0 (.seq (.reg [w 2 (.mv (.i 2))] []) .ret) .skip) (.seq (.seq (.reg [f 0 v1,w 6 (.ld l0 1 false),w 7 (.ln l0),w 8 (.mv (.i 0))] []) (.blk 0 K.mI)) (.seq (.reg [f 0 v1,g l0,u (.ln l0),w 4 (.mv l0)] []) (.seq (.seq (.reg [f 1 v1,w 9 (.ld l0 1 false),w 10 (.ln l0),w 11 (.mv (.i 0))] []) (.blk 2 K.mJ)) (.seq (.reg [w 2 (.mv (.i 0))] []) .ret)))))),res:=[(2,none)]}
def dq:Fn:={ nargs:=3,vars:=[0,1,2,3,6],body:=(.seq (.reg [w 3 (.bx v0 2),w 4 (.mv (.b false))] []) (.seq (.reg [m v1,f 0 v3,g l0,u (.bin .leq l2 l0),m l0,y 0 true (.fa v3 0),y 1 true (.ld l0 1 false),y 2 true (.fa v3 1),y 3 true (.ld l0 1 false),y 4 true (.bin .leq l2 l0),u (.pk l5 l0 (.b false)),m l0,y 0 true (.fa v3 1),y 1 true (.ld l0 1 false),y 2 true (.mv v2),y 3 true (.bin .leq l1 l0),u (.pk l4 l0 (.b false)),w 4 (.mv l0)] []) .ret)),res:=[(4,none)]}
end Go.Ev.K
namespace Go.Ev
class cI [Lib]:Prop where
 ko:Lib.fs N.eB=some K.eB
 jI:Lib.fs N.dq=some K.dq
namespace K
variable [Lib] [cI]
theorem ko:Lib.fs N.eB=some K.eB:=cI.ko
theorem jI:Lib.fs N.dq=some K.dq:=cI.jI
end K
end Go.Ev
namespace Go.Ev
open Go
variable [Lib] [bz] [bD] [cL] [cI]
section
variable (H : ag) (sz : Nat)
def EN(id ep n lo hi:Nat)(ys:List D):Option Obj→Option (D×ag)
 | some (.arr sz' pin ep' es)=>if ep=ep'∧n=es.length then Fh H id ep (sz',pin,es) lo hi ys sz else none
 | _=>none
def cpD(x:D)(ys:List D):Option (D×ag):=if b6 sz ys=true then(match x with
 | .ref id ep n=>EN H sz id ep n 0 n ys H[id]?
 | .sub id ep n lo hi=>EN H sz id ep n lo hi ys H[id]?
 | _=>none)else none
def RK(x y:Option D):Option (D×ag):=x.bind fun a=>y.bind fun b=>qW H a b sz
@[go_sem] theorem WZ (call : aM) (get : X → Option D) (x y : X) : evO call get H (.cp x y sz) = RK H sz (get x) (get y) := (rfl)
theorem wR(x y:D)(ys:List D)(h:elems H y=some ys):qW H x y sz=cpD H sz x ys:=by
 unfold qW cpD
 rw[h,Option.bind_some]
 split
 · rename_i hh
   cases x with
   | ref id ep n=>
     simp only[dN,EN]
     cases H[id]? with
     | none=>rfl
     | some o=>
       cases o with
       | box cs=>rfl
       | arr sz' pin ep' es=>
         simp only
         by_cases c:ep=ep'∧n=es.length
         · rw[if_pos c,if_pos c];rfl
         · rw[if_neg c,if_neg c];rfl
   | sub id ep n lo hi=>
     simp only[dN,EN]
     cases H[id]? with
     | none=>rfl
     | some o=>
       cases o with
       | box cs=>rfl
       | arr sz' pin ep' es=>
         simp only
         by_cases c:ep=ep'∧n=es.length
         · rw[if_pos c,if_pos c];rfl
         · rw[if_neg c,if_neg c];rfl
   | _=>rfl
 · rfl
@[go_sem] theorem V4 (x : D) (ts : List T) : RK H sz (some x) (some (.t (.sl ts))) = cpD H sz x (ts.map .t) := wR H sz x (.t (.sl ts)) (ts.map .t) rfl
def cpE(x:D)(ep n lo hi:Nat):Option Obj→Option (D×ag)
 | some (.arr _ _ ep' es)=>if ep=ep'∧n=es.length then cpD H sz x ((es.drop lo).take (hi-lo))else none
 | _=>none
@[go_sem] theorem UH (x : D) (n lo hi sz' : Nat) (pin : Bool) (ep : Nat) (es : List D) : cpE H sz x ep n lo hi (some (.arr sz' pin ep es)) = if n = es.length then cpD H sz x ((es.drop lo).take (hi - lo)) else none := by simp [cpE]
@[go_sem] theorem RL (x : D) (id ep n lo hi : Nat) : RK H sz (some x) (some (.sub id ep n lo hi)) = cpE H sz x ep n lo hi H[id]? := by
 unfold RK
 simp only[Option.bind_some]
 cases h:H[id]? with
 | none=>simp[qW,elems,dN,h,cpE]
 | some o=>
   cases o with
   | box cs=>simp[qW,elems,dN,h,cpE]
   | arr sz' pin ep' es=>
     by_cases c:ep=ep'∧n=es.length
     · rw[wR H sz x _ ((es.drop lo).take (hi-lo)) (by simp[elems,dN,h,c])]
       simp only[cpE,if_pos c]
     · simp[qW,elems,dN,h,cpE,c]
@[go_sem] theorem UI (id ep n : Nat) (ys : List D) : cpD H sz (.ref id ep n) ys = if b6 sz ys = true then EN H sz id ep n 0 n ys H[id]? else none := (rfl)
@[go_sem] theorem UJ (id ep n lo hi : Nat) (ys : List D) : cpD H sz (.sub id ep n lo hi) ys = if b6 sz ys = true then EN H sz id ep n lo hi ys H[id]? else none := (rfl)
@[go_sem] theorem RM (id n lo hi : Nat) (ys : List D) (ep : Nat) (es : List D) : EN H sz id ep n lo hi ys (some (.arr sz false ep es)) =
 if n=es.length then(if min ys.length (hi-lo)=0 then some (.t (.int .i64 0),H)else some (.t (.int .i64 ((min ys.length (hi-lo):Nat):Int)),H.set id (.arr sz false ep (es.take lo++ys.take (min ys.length (hi-lo))++es.drop (lo+min ys.length (hi-lo))))))else none:=by
 simp[EN,Fh]
end
end Go.Ev
namespace Go.Ev
open Go
variable [Lib] [bz] [bD] [cL] [cI]
theorem tF(a b lo hi:Int)(h1:lo≤a)(h2:a≤b)(h3:b≤hi):aX 0 N.dq [.t (.agg [tI a,tI b]),I lo,I hi] []=some (B true,[]):=by
 refine aO K.jI rfl ?_
 simp (disch:=omega) only[go_sem,K.dq,↓reduceIte,Nat.reduceAdd,Nat.reduceSub]
theorem tG{m:bV}(h:m.ok):aX 0 N.eB [.t m.e] []=some (I 0,[]):=by
 refine aO K.ko rfl ?_
 have np:=h.np
 have nr:=h.nr
 have hs:=h.hs
 have rs:=h.rs
 obtain⟨places,roads⟩:=m
 simp only at np nr hs rs
 have l1:∀z0 z2 z3 z4 z5 z9 z10 z11:D,exS aX K.mI ⟨[z0,.bp 0 0,z2,z3,z4,z5,.t (.sl (places.map Place.e)),I places.length,I 0,z9,z10,z11],[.box (aH ⟨places,roads⟩)]⟩=
  some (.exit 0,⟨[.und,.bp 0 0,.und,.und,.und,.und,.t (.sl (places.map Place.e)),I places.length,I places.length,.und,.und,.und],[.box (aH ⟨places,roads⟩)]⟩):=by
  intro z0 z2 z3 z4 z5 z9 z10 z11
  refine fy (fun j=>⟨[.und,.bp 0 0,.und,.und,.und,.und,.t (.sl (places.map Place.e)),I places.length,I j,.und,.und,.und],[.box (aH ⟨places,roads⟩)]⟩) places.length rfl ?_ ?_ (by simp)
  · intro j hj
    have g:(places.map Place.e)[j]?=some (nth places j).e:=aU _ hj
    have q:=hs _ (bA hj)
    generalize nth places j=x at*
    obtain⟨hh,sf⟩:=x
    simp only[aH]at*
    simp (disch:=omega) only[go_sem,K.iU,↓reduceIte,g,Nat.reduceAdd,Nat.reduceSub]
  · simp (disch:=omega) only[go_sem,K.iU,↓reduceIte,aH,Nat.reduceAdd,Nat.reduceSub]
 have l2:∀z0 z1 z2 z3 z5 z6 z7 z8:D,exS aX K.mJ ⟨[z0,z1,z2,z3,I places.length,z5,z6,z7,z8,.t (.sl (roads.map Road.e)),I roads.length,I 0],[.box (aH ⟨places,roads⟩)]⟩=
  some (.exit 2,⟨[.und,.und,.und,.und,I places.length,.und,.und,.und,.und,.t (.sl (roads.map Road.e)),I roads.length,I roads.length],[.box (aH ⟨places,roads⟩)]⟩):=by
  intro z0 z1 z2 z3 z5 z6 z7 z8
  refine fy (fun j=>⟨[.und,.und,.und,.und,I places.length,.und,.und,.und,.und,.t (.sl (roads.map Road.e)),I roads.length,I j],[.box (aH ⟨places,roads⟩)]⟩) roads.length rfl ?_ ?_ (by simp)
  · intro j hj
    have g:(roads.map Road.e)[j]?=some (nth roads j).e:=aU _ hj
    have q:=rs _ (bA hj)
    generalize nth roads j=x at*
    have f0:=q.f0;have f1:=q.f1;have t0:=q.t0;have t1:=q.t1;have ne:=q.ne;have l0:=q.l0;have l1:=q.l1;have a0:=q.a0;have a1:=q.a1
    have r0:=q.r0;have r1:=q.r1;have r2:=q.r2;have i0:=q.i0;have i1:=q.i1;have i2:=q.i2
    clear q
    obtain⟨frm,to,len,area,walk,closed,rl,rh,ll,lh⟩:=x
    simp only[aH]at*
    have s1:=tF rl rh 1 262144 r0 r1 r2
    have s2:=tF ll lh (-2199023255552) 2199023255552 i0 i1 i2
    simp (disch:=omega) only[go_sem,K.iV,↓reduceIte,g,s1,s2,Nat.reduceAdd,Nat.reduceSub]
  · simp (disch:=omega) only[go_sem,K.iV,↓reduceIte,aH,Nat.reduceAdd,Nat.reduceSub]
 simp only[aH]at l1 l2
 simp (disch:=omega) only[go_sem,K.eB,↓reduceIte,l1,l2,Nat.reduceAdd,Nat.reduceSub]
theorem n9{m:bV}(h:m.ok):aX 0 N.dV [.t m.e] []=some (B true,[]):=by
 refine aO K.kn rfl ?_
 have c:=tG h
 obtain⟨places,roads⟩:=m
 simp (disch:=omega) only[go_sem,K.dV,↓reduceIte,c,Nat.reduceAdd,Nat.reduceSub]
end Go.Ev
namespace Go.Ev.N
def xN:Nat:=178
def xO:Nat:=179
def yx:Nat:=180
def xP:Nat:=181
def yy:Nat:=182
def Am:Nat:=183
def yz:Nat:=184
def Im:Nat:=185
def EO:Nat:=186
def Io:Nat:=187
def An:Nat:=188
def Ip:Nat:=189
def EP:Nat:=190
def ER:Nat:=191
def LC:Nat:=192
def C5:Nat:=193
def ES:Nat:=194
def Iq:Nat:=195
def LD:Nat:=196
def OY:Nat:=197
def Bz:Nat:=198
def BA:Nat:=199
def LF:Nat:=200
def C6:Nat:=201
def uh:Nat:=202
def ET:Nat:=203
def au:Nat:=204
def Ao:Nat:=205
def Ir:Nat:=206
def EU:Nat:=207
def Aq:Nat:=208
def yA:Nat:=209
def Ar:Nat:=210
def eQ:Nat:=211
def fj:Nat:=212
def cM:Nat:=213
def eC:Nat:=214
end Go.Ev.N
namespace Go.Ev.K
open Go.Ev
end Go.Ev.K
namespace Go.Ev
class dE [Lib]:Prop where
namespace K
variable [Lib] [dE]
end K
end Go.Ev
namespace Go.Ev.K
open Go.Ev
def au:Fn:={ nargs:=1,vars:=[0,2],body:=(.seq (.reg [w 1 (.mv (.c (.nil)))] []) (.itk [m v0,u (.eqk (.sl) false l0 (.c (.nil)))] [] 0 (.seq (.reg [w 1 (.nw 1)] []) .ret) .skip (.seq (.reg [u (.bsr [] 1),m v0,u (.app l1 l0 false 1),w 1 (.mv l0)] []) .ret))),res:=[(1,none)]}
def eQ:Fn:={ nargs:=3,vars:=[0,1,2,3,6],body:=(.seq (.reg [w 3 (.bx v0 2),w 4 (.mv (.i 0))] []) (.seq (.ite [h 2 v3,u (.ca N.dV 0 [] [.l 0]),u (.un .not l0),m l0,y 0 false (.mv v1),y 1 false (.bin .lss l0 (.i 0)),u (.pk l2 (.b true) l0),m l0,y 0 false (.mv v1),y 1 false (.fa v3 1),y 2 false (.ld l0 1 false),y 3 false (.ln l0),y 4 false (.bin .geq l3 l0),u (.pk l5 (.b true) l0)] [] 0 (.seq (.reg [w 4 (.mv (.i (-1)))] []) .ret) .skip) (.seq (.reg [h 2 v3,m v1,m v2,u (.ca N.fj 0 [] [.l 2,.l 1,.l 0]),w 4 (.mv l0)] []) .ret))),res:=[(4,none)]}
def fj:Fn:={ nargs:=3,vars:=[0,1,2,3,6],body:=(.seq (.reg [w 3 (.bx v0 2),w 4 (.mv (.i 0))] []) (.seq (.reg [h 2 v3,m v1,m v2,u (.ca N.eC 0 [] []),u (.ca N.cM 0 [] [.l 3,.l 2,.l 1,.l 0]),w 4 (.mv l0)] [(0,4)]) .ret)),res:=[(4,none)]}
def cM:Fn:={ nargs:=4,vars:=[0,1,2,3,4,7,8,9,10,11],body:=(.seq (.reg [w 4 (.bx v0 2),w 5 (.bx v3 3),w 6 (.mv (.i 0))] []) (.seq (.reg [f 1 v4,g l0,m v1,a 10 l1 l0,h 10 l0,w 7 (.al [.t (.int .i64 (0)),.t (.int .i64 (0)),.t (.int .i64 (0)),.t (.int .i64 (0)),.t (.bool false),.t (.bool false),.t (.int .i64 (0)),.t (.int .i64 (0)),.t (.int .i64 (0)),.t (.int .i64 (0))] []),u (.st l0 l1 10 [])] []) (.seq (.ite [f 5 v7,g l0,m l0,y 0 false (.fa v7 4),y 1 false (.ld l0 1 false),y 2 false (.un .not l0),u (.pk l3 (.b true) l0)] [] 0 (.seq (.reg [w 6 (.mv (.i (-1)))] []) .ret) .skip) (.seq (.reg [f 0 v4,g l0,f 1 v7,g l0,a 2 l2 l0,f 0 l0,g l0,f 0 v4,g l0,f 0 v7,g l0,a 2 l2 l0,f 0 l0,g l0,u (.bin .sub l7 l0),w 8 (.mv l0)] []) (.seq (.ite [m v2] [] 0 (.reg [m v8,u (.un .neg l0),w 8 (.mv l0)] []) .skip) (.seq (.reg [f 2 v5,g l0,w 9 (.mv l0)] []) (.seq (.blk 0 (.ite [m v8,u (.bin .mul (.i 10) l0),f 2 v7,g l0,u (.bin .gtr l2 l0),m l0] [] 0 (.reg [f 0 v5,g l0,w 9 (.mv l0)] []) (.ite [m v8,u (.bin .mul (.i (-10)) l0),f 2 v7,g l0,u (.bin .gtr l2 l0),m l0] [] 0 (.reg [f 1 v5,g l0,w 9 (.mv l0)] []) .skip))) (.seq (.reg [f 2 v7,g l0,u (.bin .mul (.i 10) l0),m v9,u (.bin .add l1 l0),u (.bin .sub l0 (.i 1)),m v9,u (.bin .quo l1 l0),w 6 (.mv l0)] []) .ret)))))))),res:=[(6,none)]}
def eC:Fn:={ nargs:=0,vars:=[0],body:=(.seq (.reg [w 0 (.al [.t (.int .i64 (0)),.t (.int .i64 (0)),.t (.int .i64 (0))] [])] []) (.seq (.reg [u (.bd [.t (.int .i64 (0)),.t (.int .i64 (0)),.t (.int .i64 (0))] [(0,1,.i 6),(1,1,.i 9),(2,1,.i 12)]),u (.st v0 l0 3 [])] []) .ret)),res:=[(0,some (3,true))]}
end Go.Ev.K
namespace Go.Ev
class dt [Lib]:Prop where
 du:Lib.fs N.au=some K.au
 lK:Lib.fs N.eQ=some K.eQ
 lL:Lib.fs N.fj=some K.fj
 lM:Lib.fs N.cM=some K.cM
 kp:Lib.fs N.eC=some K.eC
namespace K
variable [Lib] [dt]
theorem du:Lib.fs N.au=some K.au:=dt.du
theorem lK:Lib.fs N.eQ=some K.eQ:=dt.lK
theorem lL:Lib.fs N.fj=some K.fj:=dt.lL
theorem lM:Lib.fs N.cM=some K.cM:=dt.lM
theorem kp:Lib.fs N.eC=some K.eC:=dt.kp
end K
end Go.Ev
namespace Go.Ev
open Go
variable [Lib] [bz] [bD] [cL] [cI] [dE] [dt]
abbrev jW(l:List Int):Obj:= .arr 1 false 0 ((l.map (T.int .i64)).map .t)
theorem cy(l:List Int)(hl:l.length≤1000000):aX 0 N.au [.t (tL l)] []=some (.t (tL l),[]):=by
 refine aO K.du rfl ?_
 by_cases h0:l=[]
 · subst h0
   simp only[tL,List.map_nil]
   simp (disch:=omega) only[go_sem,K.au,↓reduceIte,List.map_nil,Nat.reduceAdd,Nat.reduceSub]
 · have e:=fun H=>kF H (l.map (T.int .i64)) (by simpa using h0)
   simp (disch:=omega) only[go_sem,K.au,↓reduceIte,e,Nat.reduceAdd,Nat.reduceSub]
theorem eo(l:List Int)(hl:l.length≤1000000):aX 1 N.au [.t (tL l)] []=some (.ref 0 0 l.length,[jW l]):=by
 refine aO K.du rfl ?_
 by_cases h0:l=[]
 · subst h0
   simp only[tL,List.map_nil]
   simp (disch:=omega) only[go_sem,K.au,↓reduceIte,List.map_nil,List.length_nil,Nat.reduceAdd,Nat.reduceSub]
   rfl
 · have e:=fun H=>kF H (l.map (T.int .i64)) (by simpa using h0)
   simp (disch:=omega) only[go_sem,K.au,↓reduceIte,e,Nat.reduceAdd,Nat.reduceSub]
theorem C7:aX 0 N.eC [] []=some (.t (.agg [tI 6,tI 9,tI 12]),[]):=by
 refine aO K.kp rfl ?_
 simp (disch:=omega) only[go_sem,K.eC,↓reduceIte,Nat.reduceAdd,Nat.reduceSub]
theorem Is{m:bV}(h:m.ok)(k:Nat)(hk:k<m.roads.length)(back:Bool)(up down level:Int)(hu:1≤up)(hu2:up≤100)(hd:1≤down)(hd2:down≤100)(hl:1≤level)(hl2:level≤100):
 aX 0 N.cM [.t m.e,I k,B back,.t (.agg [tI up,tI down,tI level])] []=some (I (iR m k back up down level),[]):=by
 refine aO K.lM rfl ?_
 have nr:=h.nr
 have np:=h.np
 obtain⟨f0,f1,t0,t1, -,l0,l1, -, -, -, -, -, -, -, -⟩:=h.rs _ (bA hk)
 have b1:=h.hs _ (bA (l:=m.places) (j:=(nth m.roads k).frm.toNat) (by omega))
 have b2:=h.hs _ (bA (l:=m.places) (j:=(nth m.roads k).to.toNat) (by omega))
 have g:(m.roads.map Road.e)[k]?=some (nth m.roads k).e:=aU _ hk
 have p1:(m.places.map Place.e)[(nth m.roads k).frm.toNat]?=some (nth m.places (nth m.roads k).frm.toNat).e:=aU _ (by omega)
 have p2:(m.places.map Place.e)[(nth m.roads k).to.toNat]?=some (nth m.places (nth m.roads k).to.toNat).e:=aU _ (by omega)
 have key:∀h1 h2:Int, -10000≤h1→h1≤10000→ -10000≤h2→h2≤10000→IntKind.i64.wrap (h1-h2)=h1-h2∧IntKind.i64.wrap (-(h1-h2))=h2-h1:=fun h1 h2 _ _ _ _=>⟨uU (by omega) (by omega),by rw[uU (by omega) (by omega)];omega⟩
 unfold iR
 generalize nth m.roads k=x at*
 obtain⟨frm,to,len,area,walk,closed,rl,rh,ll,lh⟩:=x
 simp only at f0 f1 t0 t1 l0 l1 b1 b2 p1 p2 ⊢
 cases closed with
 | true=>
   obtain⟨places,roads⟩:=m
   simp (disch:=omega) only[go_sem,K.cM,↓reduceIte,g,Nat.reduceAdd,Nat.reduceSub]
 | false=>
   cases walk with
   | false=>
     obtain⟨places,roads⟩:=m
     simp (disch:=omega) only[go_sem,K.cM,↓reduceIte,g,Nat.reduceAdd,Nat.reduceSub]
   | true=>
     have g1:=rK (a:=10*len+up-1) (b:=up) (by omega) hu
     have g2:=rK (a:=10*len+down-1) (b:=down) (by omega) hd
     have g3:=rK (a:=10*len+level-1) (b:=level) (by omega) hl
     cases back with
     | true=>
       simp only[↓reduceIte]
       generalize nth m.places frm.toNat=q1 at*
       generalize nth m.places to.toNat=q2 at*
       obtain⟨h1,s1⟩:=q1
       obtain⟨h2,s2⟩:=q2
       obtain⟨places,roads⟩:=m
       simp only at*
       obtain⟨w2,w3⟩:=key h2 h1 (by omega) (by omega) (by omega) (by omega)
       by_cases c2:len< -10*(h1-h2)
       · simp (disch:=omega) only[go_sem,K.cM,↓reduceIte,g,p1,p2,w2,w3,gt_iff_lt,Int.zero_sub,Nat.reduceAdd,Nat.reduceSub]
       · by_cases c1:len<10*(h1-h2)
         · simp (disch:=omega) only[go_sem,K.cM,↓reduceIte,g,p1,p2,w2,w3,gt_iff_lt,Int.zero_sub,Nat.reduceAdd,Nat.reduceSub]
         · simp (disch:=omega) only[go_sem,K.cM,↓reduceIte,g,p1,p2,w2,w3,gt_iff_lt,Int.zero_sub,Nat.reduceAdd,Nat.reduceSub]
     | false=>
       simp only[Bool.false_eq_true,↓reduceIte]
       generalize nth m.places frm.toNat=q1 at*
       generalize nth m.places to.toNat=q2 at*
       obtain⟨h1,s1⟩:=q1
       obtain⟨h2,s2⟩:=q2
       obtain⟨places,roads⟩:=m
       simp only at*
       obtain⟨w2,w3⟩:=key h2 h1 (by omega) (by omega) (by omega) (by omega)
       by_cases c2:len< -10*(h2-h1)
       · simp (disch:=omega) only[go_sem,K.cM,↓reduceIte,g,p1,p2,w2,gt_iff_lt,Nat.reduceAdd,Nat.reduceSub]
       · by_cases c1:len<10*(h2-h1)
         · simp (disch:=omega) only[go_sem,K.cM,↓reduceIte,g,p1,p2,w2,gt_iff_lt,Nat.reduceAdd,Nat.reduceSub]
         · simp (disch:=omega) only[go_sem,K.cM,↓reduceIte,g,p1,p2,w2,gt_iff_lt,Nat.reduceAdd,Nat.reduceSub]
theorem wS{m:bV}(h:m.ok)(k:Nat)(hk:k<m.roads.length)(back:Bool):aX 0 N.eQ [.t m.e,I k,B back] []=some (I (iR m k back 6 9 12),[]):=by
 have q:=C7
 have w:=Is h k hk back 6 9 12 (by omega) (by omega) (by omega) (by omega) (by omega) (by omega)
 have v:=n9 h
 have nr:=h.nr
 have s:aX 0 N.fj [.t m.e,I k,B back] []=some (I (iR m k back 6 9 12),[]):=by
  refine aO K.lL rfl ?_
  generalize iR m k back 6 9 12=r at*
  obtain⟨places,roads⟩:=m
  simp (disch:=omega) only[go_sem,K.fj,↓reduceIte,q,w,Nat.reduceAdd,Nat.reduceSub]
 refine aO K.lK rfl ?_
 generalize iR m k back 6 9 12=r at*
 obtain⟨places,roads⟩:=m
 simp only at*
 simp (disch:=omega) only[go_sem,K.eQ,↓reduceIte,v,s,Nat.reduceAdd,Nat.reduceSub]
end Go.Ev
namespace Go.Ev.K
open Go.Ev
end Go.Ev.K
namespace Go.Ev
class dZ [Lib]:Prop where
namespace K
variable [Lib] [dZ]
end K
end Go.Ev
namespace Go.Ev.N
def BB:Nat:=215
def BD:Nat:=216
def BE:Nat:=217
def It:Nat:=218
def Iu:Nat:=219
def Iv:Nat:=220
def LG:Nat:=221
def LH:Nat:=222
def LI:Nat:=223
def OZ:Nat:=224
def Iw:Nat:=225
def Ix:Nat:=226
def Iy:Nat:=227
def O0:Nat:=228
def Iz:Nat:=229
def IA:Nat:=230
def LJ:Nat:=231
def EW:Nat:=232
def LK:Nat:=233
def EX:Nat:=234
def EY:Nat:=235
def EZ:Nat:=236
def LL:Nat:=237
def E1:Nat:=238
def O1:Nat:=239
def O2:Nat:=240
def a8:Nat:=241
def LM:Nat:=242
def IB:Nat:=243
def BF:Nat:=244
end Go.Ev.N
namespace Go.Ev.K
open Go.Ev
def a8:Fn:={ nargs:=1,vars:=[],body:= .fail,res:=[],prim:=[1]}
end Go.Ev.K
namespace Go.Ev
class bM [Lib]:Prop where
 eR:Lib.fs N.a8=some K.a8
namespace K
variable [Lib] [bM]
theorem eR:Lib.fs N.a8=some K.a8:=bM.eR
end K
end Go.Ev
namespace Go.Ev
open Go
variable [Lib] [bz] [bD] [cZ] [c7] [dZ] [cL] [cI] [dE] [dt] [bM]
end Go.Ev
namespace Go.Ev
open Go
theorem vn{d:D}{n:Int}(h:qn d=some n):d= .t (.int .i64 n):=by
 unfold qn at h
 split at h
 · cases h;rfl
 · cases h
theorem As:∀ {es:List D} {l:List Int},bF qn es=some l→es=l.map fun x=> .t (.int .i64 x)
 | [],l,h=>by simp[bF]at h;subst h;rfl
 | e::r,l,h=>by
   simp only[bF,Option.bind_eq_some_iff,Option.map_eq_some_iff]at h
   obtain⟨x,hx,y,hy,rfl⟩:=h
   rw[vn hx,As hy];rfl
theorem pO(x:Int):∀l,(Fj x l).Perm (x::l)
 | []=> .refl _
 | y::r=>by
   unfold Fj
   split
   · exact .refl _
   · exact((pO x r).cons y).trans (.swap x y r)
theorem kI:∀l,(eZ l).Perm l
 | []=> .refl _
 | x::r=>(pO x _).trans ((kI r).cons x)
theorem Au{x:Int}:∀ {l:List Int},l.Pairwise (· ≤ ·)→(Fj x l).Pairwise (· ≤ ·)
 | [],_=>by simp[Fj]
 | y::r,h=>by
   unfold Fj
   split
   · rename_i hx
     refine List.pairwise_cons.2 ⟨fun z hz=>?_,h⟩
     rcases List.mem_cons.1 hz with rfl | hz
     · exact hx
     · have:=(List.pairwise_cons.1 h).1 z hz;omega
   · rename_i hx
     have h':=List.pairwise_cons.1 h
     refine List.pairwise_cons.2 ⟨fun z hz=>?_,Au h'.2⟩
     have hz:=(pO x r).mem_iff.1 hz
     rcases List.mem_cons.1 hz with rfl | hz
     · omega
     · exact h'.1 z hz
theorem rO:∀l,(eZ l).Pairwise (· ≤ ·)
 | []=> .nil
 | x::r=>Au (rO r)
theorem eu(l:List Int):(eZ l).length=l.length:=(kI l).length_eq
theorem wT(l:List Int):(l.mergeSort fun x y=>decide (x≤y))=eZ l:=by
 refine List.Perm.eq_of_pairwise (le:=(· ≤ ·)) (fun a b _ _ h1 h2=>by omega) ?_ (rO l) ((List.mergeSort_perm _ _).trans (kI l).symm)
 have:=List.pairwise_mergeSort (le:=fun x y:Int=>decide (x≤y)) (fun a b c=>by simp;omega) (fun a b=>by simp;omega) l
 exact this.imp (by simp)
end Go.Ev
namespace Go.Ev
open Go
variable [Lib] [bz] [bD] [cZ] [c7] [dZ] [cL] [cI] [dE] [dt] [bM]
section
variable (k : Keys) (hl : k.keys.length ≤ 1000000) (hr : k.roads.length ≤ 1000000)
include hl hr
end
end Go.Ev
namespace Go.Ev
open Go
variable [Lib] [bz] [bD] [cZ] [c7] [dZ] [cL] [cI] [dE] [dt] [bM]
theorem tH:∀l:List Int,bF qn ((l.map (T.int .i64)).map .t)=some l
 | []=>rfl
 | x::r=>by simp only[List.map_cons,bF,qn,Option.bind_some,tH r,Option.map_some]
theorem nz(raw:Nat)(l:List Int)(hl:l.length≤4294967296):aX raw N.a8 [.ref 0 0 l.length] [jW l]=some (.tup [],[jW (eZ l)]):=by
 refine tf K.eR (by simp[K.a8]) ?_
 have m:=tH l
 simp only[K.a8,oM,jW,List.getElem?_cons_zero,List.length_map,lim,hl,and_self,↓reduceIte,m,Option.map_some,List.set_cons_zero]
 rw[List.map_map]
 rfl
section
variable (b u v y : Obj) (ds : ag)
end
end Go.Ev
namespace Go.Ev.N
def wU:Nat:=245
def vo:Nat:=246
def vq:Nat:=247
def IC:Nat:=248
def C8:Nat:=249
def ID:Nat:=250
def wV:Nat:=251
def BG:Nat:=252
def Av:Nat:=253
def IE:Nat:=254
def E2:Nat:=255
def LN:Nat:=256
def IF:Nat:=257
def xQ:Nat:=258
def jJ:Nat:=259
def bW:Nat:=260
def aY:Nat:=261
def E3:Nat:=262
def si:Nat:=263
def hX:Nat:=264
def C9:Nat:=265
def j3:Nat:=266
def aK:Nat:=267
def Aw:Nat:=268
def iJ:Nat:=269
def cmp_isNaN_int:Nat:=270
end Go.Ev.N
namespace Go.Ev.K
open Go.Ev
def bW:Fn:={ nargs:=1,vars:=[2],body:= .fail,res:=[(0,none)],prim:=[2,N.aK]}
def aY:Fn:={ nargs:=1,vars:=[0,1,2],body:=(.seq (.reg [w 1 (.bx v0 1),w 2 (.mv (.c (.und)))] []) (.seq (.reg [u (.mf N.aK [.v 1]),w 2 (.mv l0)] []) .ret)),res:=[(2,none)]}
def ib:C:=(.its [u (.bin .lss v5 v4)] [] 0 .skip (.exit 0) (.seq (.blk 1 (.seq (.reg [a 1 v3 v5,g l0,w 2 (.mv l0)] []) (.ite [m v0,m v2,u (.cw l1 0 [] [.l 0]),u (.un .not l0)] [] 0 .ret .skip))) (.reg [u (.bin .add v5 (.i 1)),w 5 (.mv l0)] [])))
def iC:C:= .loop true [1,2] K.ib
def aK:Fn:={ nargs:=2,vars:=[0,1,4,5,6,7],body:=(.seq (.reg [w 3 (.ld v1 1 false),w 4 (.ln l0),w 5 (.mv (.i 0))] []) (.blk 0 K.iC)),res:=[]}
end Go.Ev.K
namespace Go.Ev
class bZ [Lib]:Prop where
 fB:Lib.fs N.bW=some K.bW
 ec:Lib.fs N.aY=some K.aY
 fk:Lib.fs N.aK=some K.aK
namespace K
variable [Lib] [bZ]
theorem fB:Lib.fs N.bW=some K.bW:=bZ.fB
theorem ec:Lib.fs N.aY=some K.aY:=bZ.ec
theorem fk:Lib.fs N.aK=some K.aK:=bZ.fk
end K
end Go.Ev
namespace Go.Ev
open Go
variable [Lib] [bz] [bD] [cZ] [c7] [dZ] [cL] [cI] [dE] [dt] [bM] [bZ]
theorem Ax(l:List Int):aX 0 N.aY [.t (tL l)] []=some (.fn N.aK [.bp 0 0],[.box [.t (tL l)]]):=by
 refine aO K.ec rfl ?_
 simp (disch:=omega) only[go_sem,K.aY,↓reduceIte,Nat.reduceAdd,Nat.reduceSub]
theorem xR(l:List Int):oK (tL l)=some l:=by
 unfold oK
 simp only
 induction l with
 | nil=>rfl
 | cons x l ih=>
   simp only[List.map_cons,bF]at ih ⊢
   rw[ih];rfl
theorem Ay(l:List Int)(hl:l.length≤1000000):aX 0 N.bW [.fn N.aK [.bp 0 0]] [.box [.t (tL l)]]=some (.t (tL (eZ l)),[.box [.t (tL l)]]):=by
 refine tf K.fB (by decide) ?_
 show oM [2,N.aK] _ _=_
 simp only[oM,if_true,List.getElem?_cons_zero,lp,Option.bind_some,xR]
 rw[if_pos (by unfold lim;omega)]
end Go.Ev
namespace Go.Ev
open Go
variable [Lib] [bz] [bD]
theorem vt{l:List Int}{x:Int}:0≤eV l x↔x∈l:=by
 unfold eV
 cases hf:(List.range l.length).find? (fun j=>decide (nth l j=x))with
 | some j=>
   obtain⟨h1,h2⟩:=zH hf
   have:=bA h1
   rw[of_decide_eq_true h2]at this
   simp[this]
 | none=>
   have:=List.find?_eq_none.1 hf
   simp only[Int.reduceNeg]
   constructor
   · intro h;simp at h
   · intro h
     obtain⟨j,hj⟩:=List.mem_iff_getElem?.1 h
     have hl:=(List.getElem?_eq_some_iff.1 hj).1
     have:=this j (List.mem_range.2 hl)
     rw[eH hj]at this
     simp at this
theorem rP{l:List Int}(h:fA l=true):l.Nodup:=by
 simp only[fA,List.all_eq_true,List.mem_range,rL,decide_eq_true_eq]at h
 refine List.pairwise_iff_getElem.2 fun i j hi hj hij e=>?_
 obtain⟨-, -,h3⟩:=h j hj
 have h4:¬nth l j∈l.take j:=fun hm=>by have:=vt.2 hm;omega
 apply h4
 apply List.mem_iff_getElem?.2
 refine⟨i,?_⟩
 rw[List.getElem?_take_of_lt hij,List.getElem?_eq_getElem hi,e,←List.getElem?_eq_getElem hj,mF hj]
def wW(m:bV)(b:Bel)(tag:Int):Int:=if VY m b=false then 6 else if eV (nth b.worlds 0).tags tag<0 then 41 else 0
def UK(a b:Wh)(t:Int):Bool:=(List.range (min a.frm.length b.frm.length)).any fun p=>decide (nth a.frm p≤t∧nth b.frm p≤t)
def vu(m:bV)(starts:List Int)(t:Int)(j:Nat):List Wh:=(List.range j).map fun i=>(zQ m (nth starts i) t).1
@[simp] theorem IG (m : bV) (starts : List Int) (t : Int) (j : Nat) : (vu m starts t j).length = j := by simp [vu]
def Da(m:bV)(tags starts:List Int)(t:Int):Bel×Int:=
 if tags.length=starts.length∧1≤tags.length∧tags.length≤12 then
  if fA tags=true then match (List.range tags.length).find? (fun i=> !decide ((zQ m (nth starts i) t).2=0))with
   | some i=>(⟨[]⟩,(zQ m (nth starts i) t).2)
   | none=>(⟨[⟨tags,vu m starts t tags.length⟩]⟩,0)
  else(⟨[]⟩,41)
 else(⟨[]⟩,6)
@[go_sem] theorem RN : ([] : List D).all cG = true := (rfl)
@[go_sem] theorem O3 (d : D) (r : List D) : (d :: r).all cG = (cG d && r.all cG) := (rfl)
@[go_sem] theorem IH (cs : List T) : cG (.t (.agg cs)) = false := (rfl)
@[go_sem] theorem LO (cs : List T) : cG (.t (.sl cs)) = false := (rfl)
@[go_sem] theorem II (k : IntKind) (n : Int) : cG (.t (.int k n)) = true := (rfl)
@[go_sem] theorem E4 (b : Bool) : cG (.t (.bool b)) = true := (rfl)
@[go_sem] theorem V5 (l : List Wh) (k : Nat) (a : Int) (b : List Int) : (List.map D.t (List.map Wh.e l)).set k (D.t (T.agg [tI a, tL b])) = List.map D.t (List.map Wh.e (l.set k ⟨a, b⟩)) := by
 rw[List.map_set,List.map_set]
def RO(m:bV)(tag:Int)(l:List Int)(a b:Int)(x:World):Wh×Int:=VU m (nth x.whr (eV x.tags tag).toNat) l a b
def RP(tag:Int)(x:World)(w:Wh):World:=⟨x.tags,x.whr.set (eV x.tags tag).toNat w⟩
def UL(tag:Int)(r:Wh×Int)(x:World)(out:List World):List World:=
 if r.2=43 then out else out++[if r.2=0 then RP tag x r.1 else x]
def IJ(m:bV)(tag:Int)(l:List Int)(a b:Int)(ws:List World):Nat→List World
 | 0=>[]
 | j+1=>UL tag (RO m tag l a b (nth ws j)) (nth ws j) (IJ m tag l a b ws j)
def O4(m:bV)(tag:Int)(l:List Int)(a b:Int)(ws:List World)(j:Nat):Bool:=decide ((RO m tag l a b (nth ws j)).2=6∨(RO m tag l a b (nth ws j)).2=8)
def O5(m:bV)(b:Bel)(tag:Int)(l:List Int)(a c:Int):Bel×Int:=
 if wW m b tag≠0 then(b,wW m b tag)else match (List.range b.worlds.length).find? (O4 m tag l a c b.worlds)with
  | some i=>(b,(RO m tag l a c (nth b.worlds i)).2)
  | none=>if(IJ m tag l a c b.worlds b.worlds.length).length=0 then(b,43)else(⟨IJ m tag l a c b.worlds b.worlds.length⟩,0)
def RQ(m:bV)(tag:Int)(l:List Int)(a b bl:Int)(x:World):Wh×Int:=VW m (nth x.whr (eV x.tags tag).toNat) l a b bl
def UM(tag:Int)(r:Wh×Int)(x:World)(out:List World):List World:=out++[if r.2=0 then RP tag x r.1 else x]
def O6(m:bV)(tag:Int)(l:List Int)(a b bl:Int)(ws:List World):Nat→List World
 | 0=>[]
 | j+1=>UM tag (RQ m tag l a b bl (nth ws j)) (nth ws j) (O6 m tag l a b bl ws j)
def O7(m:bV)(tag:Int)(l:List Int)(a b bl:Int)(ws:List World)(j:Nat):Bool:=decide ((RQ m tag l a b bl (nth ws j)).2=6∨(RQ m tag l a b bl (nth ws j)).2=8)
def O8(m:bV)(b:Bel)(tag:Int)(l:List Int)(a c bl:Int):Bel×Int:=
 if wW m b tag≠0 then(b,wW m b tag)else match (List.range b.worlds.length).find? (O7 m tag l a c bl b.worlds)with
  | some i=>(b,(RQ m tag l a c bl (nth b.worlds i)).2)
  | none=>(⟨O6 m tag l a c bl b.worlds b.worlds.length⟩,0)
abbrev ints(l:List Int):List D:=(l.map (T.int .i64)).map .t
abbrev whs(l:List Wh):List D:=(l.map Wh.e).map .t
def xS(out:List World)(x:World):Nat:=match (List.range out.length).find? (fun k=> !OH (nth out k).tags x.tags)with
 | some k=>k
 | none=>out.length
def O9(a b:List Wh):Nat→List Wh
 | 0=>a
 | p+1=>(O9 a b p).set p (zS (nth a p) (nth b p)).1
def Pa(a b:List Wh):List Wh:=O9 a b (min a.length b.length)
def UN(out:List World)(x:World):List World:=
 if xS out x<out.length∧(nth out (xS out x)).tags=x.tags then out.set (xS out x) ⟨x.tags,Pa (nth out (xS out x)).whr x.whr⟩
 else out.take (xS out x)++[x]++out.drop (xS out x)
def Pb(l:List World):Nat→List World
 | 0=>[]
 | j+1=>UN (Pb l j) (nth l j)
def Pc(l:List World):List World:=Pb l l.length
structure Rp(H:ag)(id:Nat)(es:List D)(fa fb:Nat→Nat)(out:List World):Prop where
 arr:H[id]?=some (.arr 2 false 0 es)
 len:es.length=out.length
 el:∀j,j<out.length→es[j]?=some (.agg [.ref (fa j) 0 (nth out j).tags.length,.ref (fb j) 0 (nth out j).whr.length])
 ha:∀j,j<out.length→H[fa j]?=some (.arr 1 false 0 (ints (nth out j).tags))
 hb:∀j,j<out.length→H[fb j]?=some (.arr 2 false 0 (whs (nth out j).whr))
 na:∀j,j<out.length→fa j≠id
 nb:∀j,j<out.length→fb j≠id
 nab:∀i j,i<out.length→j<out.length→fa i≠fb j
 nbb:∀i j,i<out.length→j<out.length→i≠j→fb i≠fb j
@[go_sem] theorem RR (a b : Wh) : (zS a b).1.e = .agg [tI (zS a b).1.time, tL (zS a b).1.frm] := rfl
theorem Rp.size{H:ag}{id:Nat}{es:List D}{fa fb:Nat→Nat}{out:List World}(hr:Rp H id es fa fb out):∀e∈es,e.cells.length=2:=by
 intro e he
 obtain⟨j,hj⟩:=List.mem_iff_getElem?.1 he
 have hl:=(List.getElem?_eq_some_iff.1 hj).1
 rw[hr.el j (by rw[← hr.len];exact hl)]at hj
 cases hj;rfl
theorem vv{α:Type} [Dat α](l:List α)(k:Nat)(hk:k<l.length)(x:α)(j:Nat):nth (l.set k x) j=if j=k then x else nth l j:=by
 unfold nth
 rw[List.getD_eq_getElem?_getD]
 by_cases h:j=k
 · rw[if_pos h,h,List.getElem?_set_self hk];rfl
 · rw[if_neg h,List.getElem?_set_ne (fun e=>h e.symm),List.getD_eq_getElem?_getD]
theorem Rp.merge{H:ag}{id:Nat}{es:List D}{fa fb:Nat→Nat}{out:List World}(hr:Rp H id es fa fb out){k:Nat}(hk:k<out.length)(x:World)(ht:(nth out k).tags=x.tags)(hw:x.whr.length=(nth out k).whr.length):
 Rp (H.set (fb k) (.arr 2 false 0 (whs x.whr))) id es fa fb (out.set k x):=by
 have ol:(out.set k x).length=out.length:=List.length_set
 have nk:=hr.nb k hk
 have kl:=pN (hr.hb k hk)
 refine⟨by rw[jg nk];exact hr.arr,by rw[ol];exact hr.len,?_,?_,?_,by rw[ol];exact hr.na,by rw[ol];exact hr.nb,by rw[ol];exact hr.nab,by rw[ol];exact hr.nbb⟩
 · intro j hj
   rw[ol]at hj
   rw[hr.el j hj,vv out k hk]
   by_cases h:j=k
   · rw[if_pos h,h,ht,hw]
   · rw[if_neg h]
 · intro j hj
   rw[ol]at hj
   rw[jg (fun e=>hr.nab j k hj hk e.symm),hr.ha j hj,vv out k hk]
   by_cases h:j=k
   · rw[if_pos h,h,ht]
   · rw[if_neg h]
 · intro j hj
   rw[ol]at hj
   rw[vv out k hk]
   by_cases h:j=k
   · rw[if_pos h,h,qL kl]
   · rw[if_neg h,jg (fun e=>hr.nbb j k hj hk h e.symm)];exact hr.hb j hj
theorem Rp.frz{H:ag}{id:Nat}{es:List D}{fa fb:Nat→Nat}{out:List World}(hr:Rp H id es fa fb out):
 bF (frz H 8) es=some (out.map World.e)∧∀i∈es.flatMap (di H 8),i≠id:=by
 have hl:=hr.len
 have key:∀(j:Nat) (hj:j<out.length),Go.Ev.frz H 8 (.agg [.ref (fa j) 0 (nth out j).tags.length,.ref (fb j) 0 (nth out j).whr.length])=some (nth out j).e∧
  di H 8 (.agg [.ref (fa j) 0 (nth out j).tags.length,.ref (fb j) 0 (nth out j).whr.length])=[fa j,fb j]:=by
  intro j hj
  have h1:=hr.ha j hj
  have h2:=hr.hb j hj
  simp (disch:=omega) only[go_sem,h1,h2,ints,whs,↓reduceIte]
 constructor
 · have:∀(es:List D) (ts:List T),es.length=ts.length→(∀(j:Nat) e t,es[j]?=some e→ts[j]?=some t→Go.Ev.frz H 8 e=some t)→bF (Go.Ev.frz H 8) es=some ts:=by
    intro es
    induction es with
    | nil=>intro ts h _;cases ts with
      | nil=>rfl
      | cons=>simp at h
    | cons e es ih=>
      intro ts h hh
      cases ts with
      | nil=>simp at h
      | cons t ts=>
        have h1:=hh 0 e t rfl rfl
        have h2:=ih ts (by simpa using h) fun j e t he ht=>hh (j+1) e t (by simpa using he) (by simpa using ht)
        simp only[bF,h1,Option.bind_some,h2,Option.map_some]
   refine this es _ (by rw[List.length_map,hl]) fun j e t he ht=>?_
   have hj:j<out.length:=by rw[← hl];exact(List.getElem?_eq_some_iff.1 he).1
   rw[hr.el j hj]at he
   rw[aU _ hj]at ht
   cases he;cases ht
   exact(key j hj).1
 · intro i hi
   obtain⟨e,he,hi⟩:=List.mem_flatMap.1 hi
   obtain⟨j,hj⟩:=List.mem_iff_getElem?.1 he
   have hjl:j<out.length:=by rw[← hl];exact(List.getElem?_eq_some_iff.1 hj).1
   rw[hr.el j hjl]at hj
   cases hj
   rw[(key j hjl).2]at hi
   simp only[List.mem_cons,List.not_mem_nil,or_false]at hi
   rcases hi with rfl | rfl
   · exact hr.na j hjl
   · exact hr.nb j hjl
@[go_sem] theorem E5 {α β γ : Type} [Dat α] (f : β → γ) (g : α → β) {l : List α} {i j : Nat} {x : α} (h : j < l.length) : (((l.set i x).map g).map f)[j]? = some (f (g (nth (l.set i x) j))) := wI f g (by rw [List.length_set]; exact h)
def UO(l:List Int)(i j:Nat):List Int:=(l.set i (nth l j)).set j (nth l i)
def UP(i j:Nat)(t:Int)(x:World):World:=⟨UO x.tags i j,(x.whr.set i (zR (nth x.whr i) t).1).set j (zR (nth x.whr j) t).1⟩
def UQ(i j:Nat)(t:Int)(x:World)(out:List World):List World:=if UK (nth x.whr i) (nth x.whr j) t=true then out++[UP i j t x]else out
def Az(i j:Nat)(t:Int)(ws:List World):Nat→List World
 | 0=>ws
 | k+1=>UQ i j t (nth ws k) (Az i j t ws k)
def IK(m:bV)(b:Bel)(i j t:Int):Bel×Int:=
 if VY m b=false then(b,6)else if i<0∨((nth b.worlds 0).tags.length:Int)≤i∨j<0∨((nth b.worlds 0).tags.length:Int)≤j∨i=j then(b,19)
 else if ¬inT t then(b,8)else if 24<(Pc (Az i.toNat j.toNat t b.worlds b.worlds.length)).length then(b,44)else(⟨Pc (Az i.toNat j.toNat t b.worlds b.worlds.length)⟩,0)
def Pd:Nat→List Int
 | 0=>[]
 | k+1=>Pd k++[3+(k:Int)*2]
def aL.wX(d:aL)(n:Int):Nat→List Int×aL
 | 0=>([],d)
 | k+1=>((d.wX n k).1++[((d.wX n k).2.next n).1],((d.wX n k).2.next n).2)
structure BSt where
 b:Bel
 t:Int
 d:aL
def aL.IL(m:bV)(n:Int)(s:BSt):BSt:=
 let a:=s.d.next 60
 let c:=a.2.next 3
 if c.1=0 then
  let i:=c.2.next n
  let j:=i.2.next n
  let r:=IK m s.b i.1 j.1 (s.t+a.1)
  ⟨if r.2=0 then r.1 else s.b,s.t+a.1,j.2⟩
 else if c.1=1 then
  let g:=c.2.next n
  let l:=g.2.hU m.places.length
  let e:=l.2.next 9
  let r:=O5 m s.b (3+2*g.1) l.1 (s.t+a.1) (s.t+a.1+e.1)
  ⟨if r.2=0 then r.1 else s.b,s.t+a.1,e.2⟩
 else
  let g:=c.2.next n
  let l:=g.2.hU m.places.length
  let e:=l.2.next 40
  let r:=O8 m s.b (3+2*g.1) l.1 (s.t+a.1) (s.t+a.1+50) e.1
  ⟨if r.2=0 then r.1 else s.b,s.t+a.1,e.2⟩
def aL.V6(m:bV)(n:Int)(s:BSt):Nat→BSt
 | 0=>s
 | k+1=>aL.IL m n (aL.V6 m n s k)
def aL.UR(d:aL):Nat:=(1+(d.next 3).1).toNat
def aL.RS(d:aL)(m:bV):List Int×aL:=(d.next 3).2.wX m.places.length d.UR
def aL.W4(d:aL)(m:bV):BSt:=⟨(Da m (Pd d.UR) (d.RS m).1 ((d.RS m).2.next 100).1).1,100,(((d.RS m).2.next 100).2.next 5).2⟩
def aL.W5(d:aL)(m:bV):Nat:=(((d.RS m).2.next 100).2.next 5).1.toNat
def aL.V7(d:aL)(m:bV):BSt:=aL.V6 m d.UR (d.W4 m) (d.W5 m)
def aL.V8(d:aL)(m:bV):Bel×aL:=((d.V7 m).b,(d.V7 m).d)
structure WOk(m:bV)(N:Nat)(x:World):Prop where
 tg:x.tags.length=N
 wh:x.whr.length=N
 fr:∀w∈x.whr,w.frm.length=m.places.length
 ti:∀w∈x.whr,inT w.time
structure BOk(m:bV)(N:Nat)(b:Bel):Prop where
 w1:1≤b.worlds.length
 w2:b.worlds.length≤24
 n1:1≤N
 n2:N≤12
 ws:∀x∈b.worlds,WOk m N x
theorem WOk.sz{m:bV}{N:Nat}{x:World}(h:WOk m N x)(hm:m.ok)(hn:N≤12):x.sz:=by
 have np:=hm.np
 obtain⟨t1,t2,t3, -⟩:=h
 exact⟨by omega,by omega,fun w hw=>by rw[t3 w hw];omega⟩
theorem BOk.sz{m:bV}{N:Nat}{b:Bel}(h:BOk m N b)(hm:m.ok):b.sz:=
 ⟨by have:=h.w2;omega,fun x hx=>(h.ws x hx).sz hm h.n2⟩
def aL.spread(d:aL)(m:bV)(fl:List Spn):Wh×aL:=
 let p:=d.next m.places.length
 let t:=p.2.next 200
 let s:=OE m fl [p.1] t.1
 let o:=t.2.one 2
 if o.1=true then
  let f:=o.2.UF m
  let a:=f.2.next 100
  let r:=HI m fl m f.1 s.1 (s.1.time+a.1)
  if r.2=0 then(r.1,a.2)else(s.1,a.2)
 else(s.1,o.2)
structure Mch where
 kind:Int
 num:Int
 pl:List Int
instance : Dat Mch := ⟨⟨0, 0, []⟩⟩
abbrev Mch.e(x:Mch):T:= .agg [tI x.kind,tI x.num,tL x.pl]
@[go_sem] theorem Pe (l : List Mch) : gP 3 (l.map Mch.e) = true := by cases l <;> rfl
theorem wY{α:Type} [Dat α]{l:List α}{p:α→Bool}:((List.range l.length).find? fun j=>p (nth l j)).isSome=l.any p:=by
 rw[List.isSome_find?,Bool.eq_iff_iff,List.any_eq_true,List.any_eq_true]
 constructor
 · rintro ⟨j,hj,h⟩
   exact⟨_,bA (List.mem_range.1 hj),h⟩
 · rintro ⟨x,hx,h⟩
   obtain⟨j,hj⟩:=List.mem_iff_getElem?.1 hx
   exact⟨j,List.mem_range.2 (List.getElem?_eq_some_iff.1 hj).1,by rw[eH hj];exact h⟩
end Go.Ev
namespace Go.Ev
open Go
variable [Lib] [bz] [bD] [cZ] [c7] [dZ] [cL] [cI] [dE] [dt] [bM] [bZ]
theorem pP{l:List Int}:fA l=true↔l.Nodup∧∀x∈l,1≤x∧x≤65535:=by
 constructor
 · intro h
   refine⟨rP h,fun x hx=>?_⟩
   simp only[fA,List.all_eq_true,List.mem_range,rL,decide_eq_true_eq]at h
   obtain⟨j,hj⟩:=List.mem_iff_getElem?.1 hx
   have:=h j (List.getElem?_eq_some_iff.1 hj).1
   rw[eH hj]at this
   exact⟨this.1,this.2.1⟩
 · rintro ⟨h1,h2⟩
   simp only[fA,List.all_eq_true,List.mem_range,rL,decide_eq_true_eq]
   intro j hj
   obtain⟨a,b⟩:=h2 _ (bA hj)
   refine⟨a,b,Decidable.byContradiction fun c=>?_⟩
   obtain⟨d,e⟩:=xE (l:=l.take j) (x:=nth l j) (by omega)
   have z:0≤eV (l.take j) (nth l j):=by omega
   generalize eV (l.take j) (nth l j)=k at*
   rw[List.length_take]at d
   have k1:k.toNat<j:=by omega
   have e1:(l.take j)[k.toNat]?=l[k.toNat]?:=List.getElem?_take_of_lt k1
   have e2:l[k.toNat]?=some l[k.toNat]:=List.getElem?_eq_getElem (by omega)
   rw[eH (e1.trans e2),←eH e2]at e
   have n2:=(List.getElem?_inj (by omega:k.toNat<l.length) h1).1 (show l[k.toNat]?=l[j]? by rw[mF (by omega),mF hj,e])
   omega
theorem Db{l:List Int}{lo hi:Int}:EC l lo hi=true↔l.Pairwise (· < ·)∧∀x∈l,lo≤x∧x≤hi:=by
 have e:EC l lo hi=true↔∀j,j<l.length→lo≤nth l j∧nth l j≤hi∧(0<j→nth l (j-1)<nth l j):=by
  simp only[EC,Bool.not_eq_true',List.any_eq_false,List.mem_range,zX,Bool.not_eq_true]
  constructor
  · intro h j hj
    have:=h j hj
    exact Decidable.byContradiction fun c=>this (decide_eq_false c)
  · intro h j hj c
    exact(of_decide_eq_false c) (h j hj)
 rw[e]
 constructor
 · intro h
   refine⟨?_,fun x hx=>?_⟩
   · have key:∀d i,i+d+1<l.length→nth l i<nth l (i+d+1):=by
      intro d
      induction d with
      | zero=>intro i hi;have:=(h (i+0+1) hi).2.2 (by omega);simpa using this
      | succ d ih=>
        intro i hi
        have a:=ih i (by omega)
        have b:=(h (i+(d+1)+1) hi).2.2 (by omega)
        rw[show i+(d+1)+1-1=i+d+1 by omega]at b
        omega
     rw[List.pairwise_iff_getElem]
     intro i j hi hj hij
     have:=key (j-i-1) i (by omega)
     rw[show i+(j-i-1)+1=j by omega,eH (List.getElem?_eq_getElem hi),eH (List.getElem?_eq_getElem hj)]at this
     exact this
   · obtain⟨j,hj⟩:=List.mem_iff_getElem?.1 hx
     have:=h j (List.getElem?_eq_some_iff.1 hj).1
     rw[eH hj]at this
     exact⟨this.1,this.2.1⟩
 · rintro ⟨h1,h2⟩ j hj
   refine⟨(h2 _ (bA hj)).1,(h2 _ (bA hj)).2,fun h0=>?_⟩
   have:=(List.pairwise_iff_getElem.1 h1) (j-1) j (by omega) hj (by omega)
   rwa [← eH (List.getElem?_eq_getElem (by omega:j-1<l.length)),←eH (List.getElem?_eq_getElem hj)]at this
theorem xU(l:List Int):EC (eZ l) 1 65535=fA l:=by
 rw[Bool.eq_iff_iff,Db,pP]
 have p:=kI l
 have u:=rO l
 constructor
 · rintro ⟨h1,h2⟩
   refine⟨p.nodup_iff.1 (h1.imp fun h=>by omega),fun x hx=>h2 x (p.mem_iff.2 hx)⟩
 · rintro ⟨h1,h2⟩
   have nd:(eZ l).Nodup:=p.nodup_iff.2 h1
   refine⟨?_,fun x hx=>h2 x (p.mem_iff.1 hx)⟩
   have:=List.Pairwise.and u nd
   exact this.imp fun h=>by omega
end Go.Ev
namespace Go.Ev
open Go
variable [Lib] [bz] [bD]
theorem Dc{α:Type} [Dat α](l:List α)(k:Nat)(hk:k<l.length)(x:α)(j:Nat):nth (l.set k x) j=if j=k then x else nth l j:=by
 unfold nth
 by_cases h:j=k
 · subst h;rw[if_pos rfl];simp[hk]
 · rw[if_neg h]
   have:¬k=j:=fun e=>h e.symm
   simp[List.getElem?_set,this]
def clW(m:bV)(t:Int)(into:Option (List Int))(y:List Int):Prop:=∀k,k<m.roads.length→∀back,VS into ((nth m.roads k).dst back)=true→0≤iR m k back 6 9 12→
 nth y ((nth m.roads k).src back).toNat<1099511627776→max t (nth y ((nth m.roads k).src back).toNat+iR m k back 6 9 12)≤2147483648→
 nth y ((nth m.roads k).dst back).toNat≤max t (nth y ((nth m.roads k).src back).toNat+iR m k back 6 9 12)
section
variable {m : bV} (h : m.ok) {t : Int} {into : Option (List Int)}
include h
end
end Go.Ev
namespace Go.Ev
open Go
variable [Lib] [bz] [bD]
structure OfI(m:bV)(p:Nat)(l:List Int):Prop where
 ln:l.length=m.places.length
 bd:bnd l
 z:nth l p=0
theorem OfI.set{m:bV}{p:Nat}{l:List Int}(h:OfI m p l){q:Nat}{x:Int}(hq:q<l.length)(h0:0<x)(hx:x<nth l q):OfI m p (l.set q x):=by
 have b1:=h.bd _ (bA hq)
 refine⟨by rw[List.length_set];exact h.ln,HE h.bd (by omega) (by omega),?_⟩
 rw[Dc _ _ hq]
 split
 · rename_i e;subst e;have:=h.z;omega
 · exact h.z
end Go.Ev
namespace Go.Ev
open Go
variable [Lib] [bz] [bD] [cL] [cI] [dE] [dt]
@[go_sem] theorem V9 (H : ag) (len j : Nat) (ts : List T) (h : j < len) : Na H len 1 false (.t (.agg ts)) j = (ts[j]?).map fun t => (.t t, H) := by
 have h0:len≠0:=by omega
 unfold Na qm
 rw[if_neg h0,if_pos h]
 unfold lX cut
 simp only[D.isAgg,D.cells,T.cells,if_true,Nat.mul_one,List.length_map]
 by_cases hj:j<ts.length
 · rw[if_pos (by omega),List.getElem?_eq_getElem hj]
   have e:((ts.map D.t).drop j).take 1=[D.t ts[j]]:=by
    rw[List.drop_eq_getElem_cons (by simpa using hj)];simp
   rw[e];rfl
 · rw[if_neg (by omega),List.getElem?_eq_none (by omega)];rfl
section
variable (a0 a1 a2 a3 a4 a5 x y : Obj) (ds : ag)
end
@[go_sem] theorem RT (n : Nat) : eqB n n = true := by
 induction n with
 | zero=>rfl
 | succ n ih=>exact ih
end Go.Ev
namespace Go.Ev
open Go
variable [Lib] [bz] [bD] [cZ] [c7] [cL] [cI] [dE] [dt]
end Go.Ev
namespace Go.Ev.N
def xV:Nat:=271
def AA:Nat:=272
def AB:Nat:=273
def yB:Nat:=274
def BH:Nat:=275
def AD:Nat:=276
def IM:Nat:=277
def IN:Nat:=278
def LP:Nat:=279
def LQ:Nat:=280
def BI:Nat:=281
def Pf:Nat:=282
def E6:Nat:=283
def IP:Nat:=284
def IQ:Nat:=285
def LR:Nat:=286
def mU:Nat:=287
def LS:Nat:=288
def IS:Nat:=289
def IT:Nat:=290
def IU:Nat:=291
def IV:Nat:=292
def BJ:Nat:=293
def IW:Nat:=294
def IX:Nat:=295
def E7:Nat:=296
def mK:Nat:=297
def mL:Nat:=298
def Dd:Nat:=299
def qM:Nat:=300
def jX:Nat:=301
def lN:Nat:=302
def oa:Nat:=303
def kQ:Nat:=304
def mV:Nat:=305
def oc:Nat:=306
def mM:Nat:=307
def BK:Nat:=308
end Go.Ev.N
namespace Go.Ev.N
def E8:Nat:=309
def AE:Nat:=310
def BL:Nat:=311
def BM:Nat:=312
def AF:Nat:=313
def IY:Nat:=314
def US:Nat:=315
def Pg:Nat:=316
def IZ:Nat:=317
def I3:Nat:=318
def I4:Nat:=319
def I5:Nat:=320
def Ph:Nat:=321
def Pj:Nat:=322
def I6:Nat:=323
def De:Nat:=324
def Pk:Nat:=325
def RU:Nat:=326
def BN:Nat:=327
def E9:Nat:=328
def Df:Nat:=329
def ay:Nat:=330
def aB:Nat:=331
def Dg:Nat:=332
def AG:Nat:=333
end Go.Ev.N
namespace Go.Ev.K
open Go.Ev
end Go.Ev.K
namespace Go.Ev
class dO [Lib]:Prop where
namespace K
variable [Lib] [dO]
end K
end Go.Ev
namespace Go.Ev.K
open Go.Ev
def ay:Fn:={ nargs:=1,vars:=[0,2],body:=(.seq (.reg [w 1 (.mv (.c (.nil)))] []) (.itk [m v0,u (.eqk (.sl) false l0 (.c (.nil)))] [] 0 (.seq (.reg [w 1 (.nw 2)] []) .ret) .skip (.seq (.reg [u (.bsr [] 2),m v0,u (.app l1 l0 false 2),w 1 (.mv l0)] []) .ret))),res:=[(1,none)]}
def aB:Fn:={ nargs:=1,vars:=[0,2],body:=(.seq (.reg [w 1 (.mv (.c (.nil)))] []) (.itk [m v0,u (.eqk (.sl) false l0 (.c (.nil)))] [] 0 (.seq (.reg [w 1 (.nw 10)] []) .ret) .skip (.seq (.reg [u (.bsr [] 10),m v0,u (.app l1 l0 false 10),w 1 (.mv l0)] []) .ret))),res:=[(1,none)]}
end Go.Ev.K
namespace Go.Ev
class dF [Lib]:Prop where
 cq:Lib.fs N.ay=some K.ay
 cD:Lib.fs N.aB=some K.aB
namespace K
variable [Lib] [dF]
theorem cq:Lib.fs N.ay=some K.ay:=dF.cq
theorem cD:Lib.fs N.aB=some K.aB:=dF.cD
end K
end Go.Ev
namespace Go.Ev
open Go
variable [Lib] [bz] [bD] [cZ] [c7] [cL] [cI] [dE] [dt] [dO] [dF]
end Go.Ev
namespace Go.Ev
open Go
variable [Lib] [bz] [bD] [cZ] [c7] [dZ] [cL] [cI] [dE] [dt] [bM] [bZ]
end Go.Ev
namespace Go.Ev
open Go
variable [Lib] [bz] [bD] [dE] [dt]
end Go.Ev
namespace Go.Ev
open Go
variable [Lib] [bz] [bD] [cZ] [c7] [cL] [cI] [dE] [dt]
end Go.Ev
namespace Go.Ev
open Go
variable [Lib] [bz] [bD]
section
variable {m : bV} (hm : m.ok) {N : Nat} {b : Bel} (hb : BOk m N b) {s : Wh} (hs : s.frm.length = m.places.length) {l : List Mch}
variable (hl : ∀ y ∈ l, y.pl.length ≤ m.places.length ∧ 1 ≤ y.pl.length ∧ ∀ x ∈ y.pl, 0 ≤ x ∧ x < m.places.length) {t a : Int} (t0 : 0 ≤ t) (t1 : t ≤ 10000) (a0 : 0 ≤ a) (a1 : a ≤ 10000) (d : aL)
include hm hb hs hl t0 t1 a0 a1
omit hm hb t0 t1 a1 in
end
def aL.skip(d:aL)(n:Int):Nat→aL
 | 0=>d
 | k+1=>((d.skip n k).next n).2
end Go.Ev
namespace Go.Ev
open Go
variable [Lib] [bz] [bD] [dZ]
end Go.Ev
namespace Go.Ev
open Go
variable [Lib] [bz] [bD] [cZ] [c7] [dZ] [cL] [cI] [dE] [dt]
end Go.Ev
namespace Go.Ev
open Go
variable [Lib] [bz] [bD] [cZ] [c7] [dZ] [cL] [cI] [dE] [dt] [bM] [bZ]
def lexB:List Int→List Int→Bool
 | _,[]=>false
 | [],_::_=>true
 | a::r,b::s=>decide (a<b)||(decide (a=b)&&lexB r s)
structure WV(m:bV)(first:List Int)(x:World):Prop where
 pm:x.tags.Perm first
 wl:x.whr.length=first.length
 wv:∀w∈x.whr,tx m w=true
structure BV(m:bV)(first:List Int)(ws:List World):Prop where
 pr:fA first=true
 f1:1≤first.length
 f2:first.length≤12
 wv:∀x∈ws,WV m first x
 up:ws.Pairwise fun x y=>lexB x.tags y.tags=true
end Go.Ev
namespace Go.Ev.K
open Go.Ev
end Go.Ev.K
namespace Go.Ev
class cW [Lib]:Prop where
namespace K
variable [Lib] [cW]
end K
end Go.Ev
namespace Go.Ev.K
open Go.Ev
end Go.Ev.K
namespace Go.Ev
class cX [Lib]:Prop where
namespace K
variable [Lib] [cX]
end K
end Go.Ev
namespace Go.Ev
open Go
variable [Lib] [bz] [bD] [cZ] [c7] [dZ] [cL] [cI] [dE] [dt] [bM] [bZ] [cW] [cX]
end Go.Ev
namespace Go.Ev
open Go
variable [Lib] [bz] [bD] [cZ] [c7] [dZ] [cL] [cI] [dE] [dt]
end Go.Ev
namespace Go.Ev
open Go
variable [Lib] [bz] [bD] [cZ] [c7] [dZ] [cL] [cI] [dE] [dt] [bM] [bZ]
structure SH(n p:Nat)(l:List Wh):Prop where
 ln:l.length=n
 fr:∀w∈l,w.frm.length=p
theorem WV.sh{m:bV}{first:List Int}{x:World}(h:WV m first x):SH first.length m.places.length x.whr:=
 ⟨h.wl,fun w hw=>(vi (h.wv w hw)).1⟩
end Go.Ev
namespace Go.Ev
open Go
variable [Lib] [bz] [bD] [cZ] [c7] [dZ] [cL] [cI] [dE] [dt] [bM] [bZ] [cW] [cX]
theorem Rp.more{H:ag}{id:Nat}{es:List D}{fa fb:Nat→Nat}{out:List World}(hr:Rp H id es fa fb out)(t:ag):Rp (H++t) id es fa fb out:=
 ⟨by rw[kY (pN hr.arr)];exact hr.arr,hr.len,hr.el,fun j hj=>by rw[kY (pN (hr.ha j hj))];exact hr.ha j hj,fun j hj=>by rw[kY (pN (hr.hb j hj))];exact hr.hb j hj,hr.na,hr.nb,hr.nab,hr.nbb⟩
end Go.Ev
namespace Go.Ev
open Go
variable [Lib] [bz] [bD] [cZ] [c7] [dZ] [cL] [cI] [dE] [dt] [bM] [bZ]
end Go.Ev
namespace Go.Ev
open Go
variable [Lib] [bz] [bD] [cL] [cI]
abbrev Dh:Int:=2147483648
section
variable {m : bV} (h : m.ok) {fl : List Spn}
include h
end
end Go.Ev
namespace Go.Ev
open Go
def clP(m:bV)(fl:List Spn)(y:List Int):Prop:=∀k,k<m.roads.length→∀back,0≤nx (nth m.roads k) (nth fl k) back→
 nth y ((nth m.roads k).src back).toNat+nx (nth m.roads k) (nth fl k) back≤Dh→
 nth y ((nth m.roads k).dst back).toNat≤nth y ((nth m.roads k).src back).toNat+nx (nth m.roads k) (nth fl k) back
variable [Lib] [bz] [bD] [cL] [cI]
end Go.Ev
namespace Go.Ev
open Go
variable [Lib] [bz] [bD] [cL] [cI]
def UT(l:List Int):Prop:=∀x∈l,0≤x∧(x≤Dh∨x=1099511627776)
theorem UT.bnd{l:List Int}(h:UT l):bnd l:=fun x hx=>by have:=h x hx;simp only[Dh]at this;omega
end Go.Ev
namespace Go.Ev
open Go
variable [Lib] [bz] [bD] [cZ] [c7] [cL] [cI]
structure Pl(m:bV)(fl:List Spn)(s:Wh):Prop where
 ln:s.frm.length=m.places.length
 ti:inT s.time
 tm:UT s.frm
 lo:∀x∈s.frm,s.time≤x
 cl:clP m fl s.frm
theorem Pl.valid{m:bV}{fl:List Spn}{s:Wh}(h:Pl m fl s):zV m s=true:=by
 simp only[zV,Bool.and_eq_true,decide_eq_true_eq,List.all_eq_true,List.mem_range]
 refine⟨fun j hj=>?_,h.ln,h.ti⟩
 have a:=h.tm _ (bA hj)
 have b:=h.lo _ (bA hj)
 unfold plS
 simp only[Dh]at a
 omega
end Go.Ev
namespace Go.Ev
open Go
variable [Lib] [bz] [bD] [cZ] [c7] [dZ] [cL] [cI] [dE] [dt] [bM] [bZ]
section
variable {m : bV} (hm : m.ok) (l : List Mch) (hl : l.length ≤ 1000) (hp : ∀ x ∈ l, x.pl.length ≤ 1000000) (s : Wh) (hs : s.frm.length ≤ 1000000) (b : Bel) (hb : b.sz) (t a : Int)
include hm hl hp hs hb
end
end Go.Ev
namespace Go.Ev
open Go
variable [Lib] [bz] [bD] [cZ] [c7] [cL] [cI]
end Go.Ev
namespace Go.Ev
open Go
variable [Lib] [bz] [bD]
def sh(s x:Int):Int:=if x<1099511627776 then x+s else x
def shL(s:Int)(l:List Int):List Int:=l.map (sh s)
@[simp] theorem UU (s : Int) (l : List Int) : (shL s l).length = l.length := List.length_map ..
end Go.Ev
namespace Go.Ev
open Go
variable [Lib] [bz] [bD] [cZ] [c7] [dZ] [cL] [cI] [dE] [dt]
theorem pQ(l:List Int)(x:Int){j:Nat}(hj:j<l.length):nth (l++[x]) j=nth l j:=by
 unfold nth;simp[List.getD_eq_getElem?_getD,List.getElem?_append_left hj]
theorem AH(l:List Int)(x:Int):nth (l++[x]) l.length=x:=by
 unfold nth;simp[List.getD_eq_getElem?_getD]
theorem AI{l:List Int}{n:Nat}(h:vg l n=true):vg l ((n+1:Nat):Int)=true∧vg (l++[(n:Int)]) ((n+1:Nat):Int)=true:=by
 simp only[vg,List.all_eq_true,List.mem_range,decide_eq_true_eq]at h ⊢
 refine⟨fun j hj=>?_,fun j hj=>?_⟩
 · obtain⟨a,b,c⟩:=h j hj;exact⟨a,by omega,c⟩
 · by_cases c:j<l.length
   · obtain⟨a,b,c⟩:=h j c
     rw[pQ _ _ (by omega)]
     refine⟨a,by omega,fun hj=>?_⟩
     rw[pQ _ _ (by omega)];exact c hj
   · have e:j=l.length:=by simp at hj;omega
     subst e
     rw[AH]
     refine⟨by omega,by omega,fun hj=>?_⟩
     rw[pQ _ _ (by omega)]
     exact(h (l.length-1) (by omega)).2.1
theorem qN(d:aL):∀n:Nat,vg (d.hU n).1 n=true
 | 0=>rfl
 | n+1=>by
   have ih:=qN d n
   have:=AI ih
   simp only[aL.hU]
   split
   · exact this.2
   · exact this.1
end Go.Ev
namespace Go.Ev
open Go
variable [Lib] [bz] [bD] [cZ] [c7] [dZ] [cL] [cI] [dE] [dt] [bM] [bZ]
end Go.Ev
namespace Go.Ev
open Go
variable [Lib] [bz] [bD] [cZ] [c7] [dZ] [cL] [cI] [dE] [dt] [bM] [bZ] [cW] [cX]
end Go.Ev
namespace Go.Ev
open Go
variable [Lib] [bz] [bD] [cZ] [c7]
def Di(l:List Int)(t:Int):Nat→List Int
 | 0=>l
 | p+1=>if t<nth (Di l t p) p then(Di l t p).set p never else Di l t p
def Dj(m:bV)(w:Wh)(t:Int):Wh:=⟨t,pK m t none (Di w.frm t w.frm.length)⟩
theorem tJ{H H':ag}:∀(k:Nat) (d:D),(∀i∈di H k d,∃sz pin pin' ep es,H[i]?=some (.arr sz pin ep es)∧H'[i]?=some (.arr sz pin' ep es))→frz H' k d=frz H k d∧di H' k d=di H k d:=by
 intro k
 induction k with
 | zero=>intro d _;cases d<;>exact⟨rfl,rfl⟩
 | succ k ih=>
   intro d h
   have list:∀es:List D,(∀i∈es.flatMap (di H k),∃sz pin pin' ep es,H[i]?=some (.arr sz pin ep es)∧H'[i]?=some (.arr sz pin' ep es))→bF (frz H' k) es=bF (frz H k) es∧es.flatMap (di H' k)=es.flatMap (di H k):=by
    intro es
    induction es with
    | nil=>intro _;exact⟨rfl,rfl⟩
    | cons e es ihl=>
      intro he
      obtain⟨a1,a2⟩:=ih e fun i hi=>he i (by simp[hi])
      obtain⟨b1,b2⟩:=ihl fun i hi=>he i (by rw[List.flatMap_cons];exact List.mem_append_right _ hi)
      exact⟨by simp only[bF,a1,b1],by simp only[List.flatMap_cons,a2,b2]⟩
   cases d with
   | agg cs=>
     simp only[di]at h
     obtain⟨a1,a2⟩:=list cs h
     exact⟨by simp only[frz,a1],by simp only[di,a2]⟩
   | ref id ep n=>
     obtain⟨sz,pin,pin',ep',es,e1,e2⟩:=h id (by simp[di])
     have:∀i∈es.flatMap (di H k),∃sz pin pin' ep es,H[i]?=some (.arr sz pin ep es)∧H'[i]?=some (.arr sz pin' ep es):=fun i hi=>h i (by simp only[di,e1];exact List.mem_cons_of_mem _ hi)
     obtain⟨a1,a2⟩:=list es this
     refine⟨?_,by simp only[di,e1,e2,a2]⟩
     simp only[frz,dN,e1,e2]
     by_cases c:ep=ep'∧n=es.length
     · simp only[if_pos c,Option.bind_some,a1]
     · simp only[if_neg c,Option.bind_none]
   | sub id ep n lo hi=>
     obtain⟨sz,pin,pin',ep',es,e1,e2⟩:=h id (by simp[di])
     have:∀i∈es.flatMap (di H k),∃sz pin pin' ep es,H[i]?=some (.arr sz pin ep es)∧H'[i]?=some (.arr sz pin' ep es):=fun i hi=>h i (by simp only[di,e1];exact List.mem_cons_of_mem _ hi)
     obtain⟨a1,a2⟩:=list es this
     have:∀i∈((es.drop lo).take (hi-lo)).flatMap (di H k),∃sz pin pin' ep es,H[i]?=some (.arr sz pin ep es)∧H'[i]?=some (.arr sz pin' ep es):=fun i hi=>by
      obtain⟨e,he,hi⟩:=List.mem_flatMap.1 hi
      exact this i (List.mem_flatMap.2 ⟨e,List.mem_of_mem_drop (List.mem_of_mem_take he),hi⟩)
     obtain⟨b1,b2⟩:=list _ this
     refine⟨?_,by simp only[di,e1,e2,a2]⟩
     simp only[frz,dN,e1,e2]
     by_cases c:ep=ep'∧n=es.length
     · simp only[if_pos c,Option.bind_some,b1]
     · simp only[if_neg c,Option.bind_none]
   | _=>exact⟨rfl,rfl⟩
section
variable {bm : bV} (hm : bm.ok) {t : Int} (i : Nat) {H : ag} {io iB iO n a fbi tl : Nat} {es : List D} {whr : List Wh} (e1 : H[iO]? = some (.box [.ref io 0 n])) (e2 : H[io]? = some (.arr 2 false 0 es)) (e3 : es.length = n)
 (e4:es[i]?=some (.agg [.ref a 0 tl,.ref fbi 0 whr.length])) (e5:H[fbi]?=some (.arr 2 false 0 (whs whr))) (e6:H[iB]?=some (.box (aH bm))) (hi:i<n) (hn:n≤1000000) (hl:whr.length≤1000000)
include hm e1 e2 e3 e4 e5 e6 hi hn hl
end
theorem Rp.app{H:ag}{id:Nat}{es:List D}{fa fb:Nat→Nat}{out:List World}(hr:Rp H id es fa fb out)(t:ag):Rp (H++t) id es fa fb out:=
 ⟨by rw[kY (pN hr.arr)];exact hr.arr,hr.len,hr.el,fun j hj=>by rw[kY (pN (hr.ha j hj))];exact hr.ha j hj,fun j hj=>by rw[kY (pN (hr.hb j hj))];exact hr.hb j hj,hr.na,hr.nb,hr.nab,hr.nbb⟩
structure SlH(H:ag)(b:List World)(bm:bV)(iB iO io:Nat)(es:List D)(fa fb:Nat→Nat)(A:List Nat)(O:List World):Prop where
 h1:H[1]?=some (.box [.ref 3 0 b.length])
 h2:H[2]?=some (.box [.nil])
 hB:H[iB]?=some (.box (aH bm))
 hO:H[iO]?=some (.box [.ref io 0 O.length])
 rp:Rp H io es fa fb O
 ar:∀i∈A,∃sz pin ep es,H[i]?=some (.arr sz pin ep es)
 nA:∀i∈A,∀j,j<O.length→i≠fb j
 eA:di H 7 (.ref 3 0 b.length)=A
 fr:frz H 7 (.ref 3 0 b.length)=some (.sl (b.map World.e))
theorem SlH.step{H:ag}{b:List World}{bm:bV}{iB iO io:Nat}{es:List D}{fa fb:Nat→Nat}{A:List Nat}{O:List World}(h:SlH H b bm iB iO io es fa fb A O){i:Nat}(hi:i<O.length)(x:World)(ht:(nth O i).tags=x.tags)
 (hw:x.whr.length=(nth O i).whr.length) (o:Obj):SlH (H.set (fb i) (.arr 2 false 0 (whs x.whr))++[o]) b bm iB iO io es fa fb A (O.set i x):=by
 have hb:=h.rp.hb i hi
 have nb:∀ {k:Nat} {cs:List D},H[k]?=some (.box cs)→(H.set (fb i) (.arr 2 false 0 (whs x.whr))++[o])[k]?=some (.box cs):=fun{k cs} hk=>by
  have ne:fb i≠k:=fun e=>by rw[e,hk]at hb;cases hb
  rw[kY (by rw[List.length_set];exact pN hk),jg ne];exact hk
 have na:∀k∈A,(H.set (fb i) (.arr 2 false 0 (whs x.whr))++[o])[k]?=H[k]?:=fun k hk=>by
  obtain⟨sz,pin,ep,es',e⟩:=h.ar k hk
  rw[kY (by rw[List.length_set];exact pN e),jg (fun e=>h.nA k hk i hi e.symm)]
 have fc:=tJ (H:=H) (H':=H.set (fb i) (.arr 2 false 0 (whs x.whr))++[o]) 7 (.ref 3 0 b.length) (fun k hk=>by
  rw[h.eA]at hk
  obtain⟨sz,pin,ep,es',e⟩:=h.ar k hk
  exact⟨sz,pin,pin,ep,es',e,by rw[na k hk];exact e⟩)
 refine⟨nb h.h1,nb h.h2,nb h.hB,by rw[List.length_set];exact nb h.hO,(h.rp.merge hi x ht hw).app _,fun k hk=>?_,by rw[List.length_set];exact h.nA,by rw[fc.2];exact h.eA,by rw[fc.1];exact h.fr⟩
 obtain⟨sz,pin,ep,es',e⟩:=h.ar k hk
 exact⟨sz,pin,ep,es',by rw[na k hk];exact e⟩
def SlE(b:List World)(H:ag):Prop:=H[2]?=some (.box [.ref 3 0 b.length])∧frz H 7 (.ref 3 0 b.length)=some (.sl (b.map World.e))
theorem SlH.late{H:ag}{b:List World}{bm:bV}{iB iO io:Nat}{es:List D}{fa fb:Nat→Nat}{A:List Nat}{O:List World}(h:SlH H b bm iB iO io es fa fb A O)(o:Obj):SlE b (H.set 2 (.box [.ref 3 0 b.length])++[o]):=by
 have l2:=pN h.h2
 have fc:=tJ (H:=H) (H':=H.set 2 (.box [.ref 3 0 b.length])++[o]) 7 (.ref 3 0 b.length) (fun k hk=>by
  rw[h.eA]at hk
  obtain⟨sz,pin,ep,es',e⟩:=h.ar k hk
  have ne:2≠k:=fun e2=>by rw[← e2,h.h2]at e;cases e
  exact⟨sz,pin,pin,ep,es',e,by rw[kY (by rw[List.length_set];exact pN e),jg ne];exact e⟩)
 exact⟨by rw[kY (by rw[List.length_set];exact l2),qL l2],by rw[fc.1];exact h.fr⟩
end Go.Ev
namespace Go.Ev
open Go
variable [Lib] [bz] [bD] [cZ] [c7]
end Go.Ev
namespace Go.Ev
open Go
variable [Lib] [bz] [bD] [cZ] [c7] [dZ] [cL] [cI] [dE] [dt] [bM] [bZ] [cW] [cX] [dO] [dF]
theorem jh(l:List Place)(hl:l.length≤1000000):aX 0 N.ay [.t (.sl (l.map Place.e))] []=some (.t (.sl (l.map Place.e)),[]):=by
 refine aO K.cq rfl ?_
 by_cases h0:l=[]
 · subst h0
   simp only[List.map_nil]
   simp (disch:=omega) only[go_sem,K.ay,↓reduceIte,List.map_nil,Nat.reduceAdd,Nat.reduceSub]
 · have e:=fun H=>kF H (l.map Place.e) (by simpa using h0)
   simp (disch:=omega) only[go_sem,K.ay,↓reduceIte,e,Nat.reduceAdd,Nat.reduceSub]
end Go.Ev
namespace Go.Ev
open Go
variable [Lib] [bz] [bD] [cZ] [c7] [dZ] [cL] [cI] [dE] [dt] [bM] [bZ]
def AW(P:Wh→Prop)(ws:List World):Prop:=∀x∈ws,∀w∈x.whr,P w
structure Kept(m:bV)(T:Int)(P:Wh→Prop):Prop where
 see:∀w l a b,P w→b≤T→P (VU m w l a b).1
 abs:∀w l a b bl,P w→b≤T→P (VW m w l a b bl).1
 raise:∀w t,P w→t≤T→P (zR w t).1
 join:∀a b,P a→P b→a.frm.length=b.frm.length→P (zS a b).1
theorem AW.set{P:Wh→Prop}{x:World}(h:∀w∈x.whr,P w)(tag:Int){w:Wh}(hw:(eV x.tags tag).toNat<x.whr.length→P w):∀y∈(RP tag x w).whr,P y:=by
 intro y hy
 simp only[RP]at hy
 by_cases c:(eV x.tags tag).toNat<x.whr.length
 · rcases List.mem_or_eq_of_mem_set hy with a | rfl
   · exact h y a
   · exact hw c
 · rw[List.set_eq_of_length_le (by omega)]at hy;exact h y hy
end Go.Ev
namespace Go.Ev
open Go
variable [Lib] [bz] [bD] [cZ]
end Go.Ev
namespace Go.Ev
open Go
variable [Lib] [bz] [bD] [cZ] [c7] [dZ] [cL] [cI] [dE] [dt] [bM] [bZ] [cW] [cX] [dO] [dF]
structure SlF(bm:bV)(w:Wh)(t:Int):Prop where
 ln:(Dj bm w t).frm.length=bm.places.length
 bd:bnd (Dj bm w t).frm
 cl:clW bm t none (Dj bm w t).frm
 le:∀j,j<bm.places.length→nth (Dj bm w t).frm j≤if t<nth w.frm j then 1099511627776 else nth w.frm j
theorem Pm{d:aL}(hd:d.dh)(n:Nat)(hn:n≤1000000):
 ∃(l:List Int) (e:aL),aX 0 N.bR [.bp 0 0,I n] [d.obj]=some (.t (tL l),[e.obj])∧e.dh∧l.length≤n∧vg l n=true:=
 ⟨_,_,HD d n hn hd,aL.lI hd n,d.pJ n,qN d n⟩
section
variable (e : aL) {m bm : bV} (b c : Bel) (t : Int) (l : List Int)
end
end Go.Ev
namespace Go.Ev.N
def xW:Nat:=334
def bG:Nat:=335
def yC:Nat:=336
def dK:Nat:=337
def xX:Nat:=338
def bN:Nat:=339
def I7:Nat:=340
def LU:Nat:=341
def cj:Nat:=342
def cQ:Nat:=343
def ae:Nat:=344
def ed:Nat:=345
def cr:Nat:=346
def dL:Nat:=347
def LV:Nat:=348
def fH:Nat:=349
def bH:Nat:=350
def b7:Nat:=351
def cN:Nat:=352
def df:Nat:=353
def I8:Nat:=354
def BO:Nat:=355
def LW:Nat:=356
def LX:Nat:=357
def bX:Nat:=358
def bO:Nat:=359
def cY:Nat:=360
def dW:Nat:=361
def br:Nat:=362
def bY:Nat:=363
def I9:Nat:=364
def LY:Nat:=365
def LZ:Nat:=366
def L0:Nat:=367
def L3:Nat:=368
def aZ:Nat:=369
def ai:Nat:=370
def aj:Nat:=371
def b8:Nat:=372
def aq:Nat:=373
def b9:Nat:=374
def cz:Nat:=375
def Ja:Nat:=376
def Jb:Nat:=377
def BP:Nat:=378
def ax:Nat:=379
def aA:Nat:=380
def bP:Nat:=381
def Dk:Nat:=382
def aP:Nat:=383
end Go.Ev.N
