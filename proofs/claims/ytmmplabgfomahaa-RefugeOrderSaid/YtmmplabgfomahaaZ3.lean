/- Parts of the proof: see the text that holds the theorem. -/
import Derived.Test.YtmmplabgfomahaaZ2
set_option linter.all false
open Nat (reduceAdd reduceSub)
set_option maxRecDepth 100000
namespace Go.Ev
open Go
abbrev I(n:Int):D:= .t (.int .i64 n)
abbrev B(b:Bool):D:= .t (.bool b)
def tO{β:Type}(call:ai):List R→List D→List D→ab→(List D→List D→ab→Option β)→Option β
 | rs,L,vs,H,K=>(evR call rs L vs H).bind fun q=>K q.1 q.2.1 q.2.2
def Ca{β:Type}(call:ai)(rs:List R)(d:Option Nat)(L vs:List D)(K:List D→List D→ab→Option β)(p:D×ab):Option β:=
 tO call rs (p.1::L) (wr vs d p.1) p.2 K
@[go_sem] theorem MX {β : Type} (call : ai) (rs : List R) (d : Option Nat) (L vs : List D) (K : List D → List D → ab → Option β) (x : D) (H : ab) :
 Ca call rs d L vs K (x,H)=tO call rs (x::L) (wr vs d x) H K:=(rfl)
@[go_sem] theorem MY {β : Type} (call : ai) (L vs : List D) (H : ab) (K : List D → List D → ab → Option β) : tO call [] L vs H K = K L vs H := (rfl)
@[go_sem] theorem Jx {β : Type} (call : ai) (o : O) (d : Option Nat) (rs : List R) (L vs : List D) (H : ab) (K : List D → List D → ab → Option β) :
 tO call (⟨o,d,none⟩::rs) L vs H K=(evO call (X.get vs L) H o).bind (Ca call rs d L vs K):=by
 simp[tO,evR,aH,Option.bind_assoc]
 rfl
def gate{β:Type}(c:Option D)(w:Bool)(a b:Option β):Option β:=match c with
 | some (.t (.bool x))=>if x=w then a else b
 | some (.tup [])=>b
 | _=>none
@[congr] theorem FU {β : Type} {c c' : Option D} {w : Bool} {a b : Option β} (h : True → c = c') : gate c w a b = gate c' w a b := by rw [h trivial]
@[go_sem] theorem MZ {β : Type} (p : Prop) [Decidable p] (a b : Option β) : gate (some (.t (.bool (decide p)))) true a b = if p then a else b := by
 by_cases h:p<;>simp[gate,h]
@[go_sem] theorem Jy {β : Type} (p : Prop) [Decidable p] (a b : Option β) : gate (some (.t (.bool (decide p)))) false a b = if p then b else a := by
 by_cases h:p<;>simp[gate,h]
@[go_sem] theorem Jz {β : Type} (x : Bool) (a b : Option β) : gate (some (.t (.bool x))) true a b = if x = true then a else b := (rfl)
@[go_sem] theorem FV {β : Type} (x : Bool) (a b : Option β) : gate (some (.t (.bool x))) false a b = if x = true then b else a := by cases x <;> rfl
@[go_sem] theorem JA {β : Type} (w : Bool) (a b : Option β) : gate (some (.tup [])) w a b = b := (rfl)
@[go_sem] theorem JB {β : Type} (call : ai) (o : O) (d : Option Nat) (k : Nat) (w : Bool) (rs : List R) (L vs : List D) (H : ab) (K : List D → List D → ab → Option β) :
 tO call (⟨o,d,some (k,w)⟩::rs) L vs H K=gate L[k]? w ((evO call (X.get vs L) H o).bind (Ca call rs d L vs K)) (tO call rs (.tup []::L) (wr vs d (.tup [])) H K):=by
 simp only[tO,evR,aH]
 cases hL:L[k]? with
 | none=>simp[gate]
 | some c=>
   simp only[aLq]
   cases c with
   | t x=>
     cases x with
     | bool b=>cases b<;>cases w<;>simp[gate,Option.bind_assoc]<;>rfl
     | _=>simp[gate]
   | tup ds=>
     cases ds with
     | nil=>simp[gate]
     | cons=>simp[gate]
   | _=>simp[gate]
open Classical in
noncomputable def kd{β:Type}(p:Prop)(x:Option β):Option β:=if p then x else none
@[go_sem] theorem Cb {β : Type} (x : Option β) : kd True x = x := by simp [kd]
noncomputable def oR{β:Type}(call:ai)(all:List R)(n:Nat)(ps:List (Nat×Nat))(rs:List R)(L vs:List D)(H:ab)(acc:List Tr)(K:List D→List D→ab→Option β):Option β:=
 (evR call rs L vs H).bind fun q=>kd (fE call all n ((trace call rs L vs H).reverse++acc) ps) (K q.1 q.2.1 q.2.2)
noncomputable def vn{β:Type}(call:ai)(all:List R)(n:Nat)(ps:List (Nat×Nat))(rs:List R)(d:Option Nat)(L vs:List D)(H:ab)(acc:List Tr)(K:List D→List D→ab→Option β)(p:D×ab):Option β:=
 oR call all n ps rs (p.1::L) (wr vs d p.1) p.2 ((L,vs,H)::acc) K
@[go_sem] theorem M0 {β : Type} (call : ai) (all : List R) (n : Nat) (ps : List (Nat × Nat)) (rs : List R) (d : Option Nat) (L vs : List D) (H : ab) (acc : List Tr) (K : List D → List D → ab → Option β) (x : D) (H' : ab) :
 vn call all n ps rs d L vs H acc K (x,H')=oR call all n ps rs (x::L) (wr vs d x) H' ((L,vs,H)::acc) K:=(rfl)
@[go_sem] theorem M1 {β : Type} (call : ai) (all : List R) (n : Nat) (ps : List (Nat × Nat)) (L vs : List D) (H : ab) (acc : List Tr) (K : List D → List D → ab → Option β) :
 oR call all n ps [] L vs H acc K=kd (fE call all n ((L,vs,H)::acc) ps) (K L vs H):=by
 simp[oR,evR,trace]
theorem oS{β:Type}(call:ai)(all:List R)(n:Nat)(ps:List (Nat×Nat))(r:R)(rs:List R)(L vs:List D)(H:ab)(acc:List Tr)(K:List D→List D→ab→Option β):
 oR call all n ps (r::rs) L vs H acc K=(aH L r.g).bind fun w=>
  if w then(evO call (X.get vs L) H r.o).bind (vn call all n ps rs r.d L vs H acc K)else oR call all n ps rs (.tup []::L) (wr vs r.d (.tup [])) H ((L,vs,H)::acc) K:=by
 obtain hw | ⟨w,hw⟩:aH L r.g=none∨∃w,aH L r.g=some w:=by cases aH L r.g<;>simp
 · simp[oR,evR,trace,hw]
 · cases w with
   | true=>
     obtain hq | ⟨q,hq⟩:evO call (X.get vs L) H r.o=none∨∃q,evO call (X.get vs L) H r.o=some q:=by cases evO call (X.get vs L) H r.o<;>simp
     · simp[oR,evR,trace,hw,hq]
     · simp[oR,evR,trace,hw,hq,vn]
   | false=>simp[oR,evR,trace,hw]
@[go_sem] theorem JC {β : Type} (call : ai) (all : List R) (n : Nat) (ps : List (Nat × Nat)) (o : O) (d : Option Nat) (rs : List R) (L vs : List D) (H : ab) (acc : List Tr) (K : List D → List D → ab → Option β) :
 oR call all n ps (⟨o,d,none⟩::rs) L vs H acc K=(evO call (X.get vs L) H o).bind (vn call all n ps rs d L vs H acc K):=by
 rw[oS];simp[aH]
@[go_sem] theorem JD {β : Type} (call : ai) (all : List R) (n : Nat) (ps : List (Nat × Nat)) (o : O) (d : Option Nat) (k : Nat) (w : Bool) (rs : List R) (L vs : List D) (H : ab) (acc : List Tr) (K : List D → List D → ab → Option β) :
 oR call all n ps (⟨o,d,some (k,w)⟩::rs) L vs H acc K=
  gate L[k]? w ((evO call (X.get vs L) H o).bind (vn call all n ps rs d L vs H acc K)) (oR call all n ps rs (.tup []::L) (wr vs d (.tup [])) H ((L,vs,H)::acc) K):=by
 rw[oS]
 simp only[aH]
 cases hL:L[k]? with
 | none=>simp[gate]
 | some c=>
   simp only[aLq]
   cases c with
   | t x=>
     cases x with
     | bool b=>cases b<;>cases w<;>simp[gate]
     | _=>simp[gate]
   | tup ds=>
     cases ds with
     | nil=>simp[gate]
     | cons=>simp[gate]
   | _=>simp[gate]
def ku(call:ai):Option R→Option Tr→Option Tr→Option Tr→Prop
 | some r,some s,some a,some s'=>(match r.o with
   | .al _ _=>a.2.2[s.2.2.length]?=s'.2.2[s.2.2.length]?
   | .bs xs _=>aH s.1 r.g=some false∨((az (X.get s.2.1 s.1) xs).bind eZ).isSome=true
   | o=>gQ o=true∧(aH s.1 r.g=some false∨mN (evO call (X.get s.2.1 s.1) a.2.2 o)=mN (evO call (X.get s.2.1 s.1) s.2.2 o)))
 | _,_,_,_=>False
@[go_sem] theorem FW (call : ai) (all : List R) (n : Nat) (acc : List Tr) : fE call all n acc [] = True := (rfl)
@[go_sem] theorem Cc (call : ai) (all : List R) (n : Nat) (acc : List Tr) (p m : Nat) (r : List (Nat × Nat)) :
 fE call all n acc ((p,m)::r)=(ku call all[p]? acc[n-p]? acc[n-m]? acc[n-(p+1)]?∧m≤n∧fE call all n acc r):=by
 simp only[fE,B9,ku]
 try rfl
section
variable (call : ai) (d : Option Nat) (gd : Option (Nat × Bool)) (L vs L' vs' : List D) (H H' : ab) (s' : Tr)
@[go_sem] theorem M3 (x : X) (n : Nat) (agg : Bool) : ku call (some ⟨.ld x n agg, d, gd⟩) (some (L, vs, H)) (some (L', vs', H')) (some s') =
 (aH L gd=some false∨mN (evO call (X.get vs L) H' (.ld x n agg))=mN (evO call (X.get vs L) H (.ld x n agg))):=by simp[ku,gQ]
@[go_sem] theorem M4 (x i : X) (sz : Nat) : ku call (some ⟨.ia x i sz, d, gd⟩) (some (L, vs, H)) (some (L', vs', H')) (some s') =
 (aH L gd=some false∨mN (evO call (X.get vs L) H' (.ia x i sz))=mN (evO call (X.get vs L) H (.ia x i sz))):=by simp[ku,gQ]
@[go_sem] theorem M5 (x : X) (lo hi : Option X) (sz : Nat) : ku call (some ⟨.sc x lo hi sz, d, gd⟩) (some (L, vs, H)) (some (L', vs', H')) (some s') =
 (aH L gd=some false∨mN (evO call (X.get vs L) H' (.sc x lo hi sz))=mN (evO call (X.get vs L) H (.sc x lo hi sz))):=by simp[ku,gQ]
@[go_sem] theorem JE (x : X) (z : T) (sz : Nat) : ku call (some ⟨.mkt x z sz, d, gd⟩) (some (L, vs, H)) (some (L', vs', H')) (some s') =
 (aH L gd=some false∨mN (evO call (X.get vs L) H' (.mkt x z sz))=mN (evO call (X.get vs L) H (.mkt x z sz))):=by simp[ku,gQ]
@[go_sem] theorem M6 (z : List D) (l : List (Nat × Nat)) (L2 vs2 : List D) (H2 : ab) : ku call (some ⟨.al z l, d, gd⟩) (some (L, vs, H)) (some (L', vs', H')) (some (L2, vs2, H2)) = (H'[H.length]? = H2[H.length]?) := (rfl)
@[go_sem] theorem M7 (xs : List X) (sz : Nat) : ku call (some ⟨.bs xs sz, d, gd⟩) (some (L, vs, H)) (some (L', vs', H')) (some s') =
 (aH L gd=some false∨((az (X.get vs L) xs).bind eZ).isSome=true):=(rfl)
@[go_sem] theorem zG (L : List D) : aH L none = some true := (rfl)
def Cd(w:Bool):Option D→Option Bool
 | some (.t (.bool b))=>some (b==w)
 | some (.tup [])=>some false
 | _=>none
@[go_sem] theorem FX (w b : Bool) : Cd w (some (.t (.bool b))) = some (b == w) := (rfl)
@[go_sem] theorem JF (w : Bool) : Cd w (some (.tup [])) = some false := (rfl)
@[go_sem] theorem zH (L : List D) (k : Nat) (w : Bool) : aH L (some (k, w)) = Cd w L[k]? := by
 simp only[aH]
 cases L[k]? with
 | none=>rfl
 | some c=>cases c with
   | t x=>cases x<;>rfl
   | tup ds=>cases ds<;>rfl
   | _=>rfl
@[go_sem] theorem JG (x : D) : mN (some (x, H)) = some x := (rfl)
attribute [go_sem] beq_true beq_false or_true true_or or_self
end
theorem q7(call:ai)(rs:List R)(vs:List D)(H:ab):tN call rs [] vs H=evR call rs [] vs H:=by
 simp[tN,fE]
def PC(L vs:List D)(H:ab):Option (Ex×St):=some (.normal,⟨vs,H⟩)
noncomputable def PD(call:ai)(k:Nat)(a b:C)(L vs:List D)(H:ab):Option (Ex×St):=bC L[k]? (exS call a ⟨vs,H⟩) (exS call b ⟨vs,H⟩)
@[go_sem] theorem PE (L vs : List D) (H : ab) : PC L vs H = some (.normal, ⟨vs, H⟩) := (rfl)
@[go_sem] theorem PF (call : ai) (k : Nat) (a b : C) (L vs : List D) (H : ab) : PD call k a b L vs H = bC L[k]? (exS call a ⟨vs, H⟩) (exS call b ⟨vs, H⟩) := (rfl)
def andThen(x:Option (Ex×St))(k:St→Option (Ex×St)):Option (Ex×St):=x.bind fun p=>bI p k
@[go_sem] theorem xh (st : St) (k : St → Option (Ex × St)) : andThen (some (.normal, st)) k = k st := (rfl)
@[go_sem] theorem Ce (st : St) (k : St → Option (Ex × St)) : andThen (some (.ret, st)) k = some (.ret, st) := (rfl)
@[go_sem] theorem zI (i : Nat) (st : St) (k : St → Option (Ex × St)) : andThen (some (.exit i, st)) k = some (.exit i, st) := (rfl)
@[go_sem] theorem zJ (k : St → Option (Ex × St)) : andThen none k = none := (rfl)
@[go_sem] theorem andThen_ite (c : Prop) [Decidable c] (a b : Option (Ex × St)) (k : St → Option (Ex × St)) : andThen (if c then a else b) k = if c then andThen a k else andThen b k := by
 split<;>rfl
@[go_sem] theorem M8 (call : ai) (st : St) : exS call .skip st = some (.normal, st) := (rfl)
@[go_sem] theorem PG (call : ai) (rs : List R) (vs : List D) (H : ab) : exS call (.reg rs []) ⟨vs, H⟩ = tO call rs [] vs H PC := by
 simp only[exS,q7,tO]
 cases evR call rs [] vs H<;>rfl
@[go_sem] theorem M9 (call : ai) (rs : List R) (p : Nat × Nat) (ps : List (Nat × Nat)) (vs : List D) (H : ab) :
 exS call (.reg rs (p::ps)) ⟨vs,H⟩=oR call rs rs.length (p::ps) rs [] vs H [] PC:=by
 simp only[exS,tN,oR,List.append_nil]
 by_cases h:fE call rs rs.length (trace call rs [] vs H).reverse (p::ps)
 · rw[if_pos h]
   simp only[kd,if_pos h]
   cases evR call rs [] vs H<;>rfl
 · rw[if_neg h]
   simp only[kd,if_neg h]
   cases evR call rs [] vs H<;>rfl
@[go_sem] theorem PH (call : ai) (a b : C) (st : St) : exS call (.seq a b) st = andThen (exS call a st) (exS call b) := (rfl)
@[go_sem] theorem PI (call : ai) (rs : List R) (k : Nat) (a b : C) (vs : List D) (H : ab) : exS call (.ite rs [] k a b) ⟨vs, H⟩ = tO call rs [] vs H (PD call k a b) := by
 simp only[exS,q7,tO]
 cases evR call rs [] vs H<;>rfl
@[go_sem] theorem Na (call : ai) (rs : List R) (p : Nat × Nat) (ps : List (Nat × Nat)) (k : Nat) (a b : C) (vs : List D) (H : ab) :
 exS call (.ite rs (p::ps) k a b) ⟨vs,H⟩=oR call rs rs.length (p::ps) rs [] vs H [] (PD call k a b):=by
 simp only[exS,tN,oR,List.append_nil]
 by_cases h:fE call rs rs.length (trace call rs [] vs H).reverse (p::ps)
 · rw[if_pos h]
   simp only[kd,if_pos h]
   cases evR call rs [] vs H<;>rfl
 · rw[if_neg h]
   simp only[kd,if_neg h]
   cases evR call rs [] vs H<;>rfl
@[go_sem] theorem PJ (call : ai) (rs : List R) (ps : List (Nat × Nat)) (k : Nat) (a b c : C) (st : St) : exS call (.its rs ps k a b c) st = andThen (exS call (.ite rs ps k a b) st) (exS call c) := (rfl)
@[go_sem] theorem PL (call : ai) (rs : List R) (ps : List (Nat × Nat)) (k : Nat) (a b c : C) (st : St) : exS call (.itk rs ps k a b c) st = exS call (.ite rs ps k (.seq a c) (.seq b c)) st := (rfl)
@[go_sem] theorem PM (call : ai) (j : Nat) (a b : C) (vs : List D) (H : ab) : exS call (.itv j a b) ⟨vs, H⟩ = bC vs[j]? (exS call a ⟨vs, H⟩) (exS call b ⟨vs, H⟩) := (rfl)
@[go_sem] theorem Nb (call : ai) (id : Nat) (st : St) : exS call (.exit id) st = some (.exit id, st) := (rfl)
@[go_sem] theorem PN (call : ai) (st : St) : exS call .ret st = some (.ret, st) := (rfl)
@[go_sem] theorem Nc (call : ai) (st : St) : exS call .fail st = none := (rfl)
@[go_sem] theorem PO (call : ai) (x p f : Nat) (r1 : List R) (p1 : List (Nat × Nat)) (r2 : List R) (p2 : List (Nat × Nat)) (vs : List D) (H : ab) : exS call (.rng x p f r1 p1 r2 p2) ⟨vs, H⟩ = (tH (stepG (tN call) vs p r1 p1 r2 p2) (xf f vs[x]?) H).map fun H => (.normal, ⟨vs, H⟩) := (rfl)
@[go_sem] theorem PQ (call : ai) (v : Bool) (c : C) (st : St) : exS call (.cnd v c) st = exS call c st := (rfl)
def lI(id:Nat)(x:Option (Ex×St)):Option (Ex×St):=x.map (leave id)
@[go_sem] theorem PR (call : ai) (id : Nat) (c : C) (st : St) : exS call (.blk id c) st = lI id (exS call c st) := (rfl)
@[go_sem] theorem zK (id : Nat) (st : St) : lI id (some (.normal, st)) = some (.normal, st) := by simp [lI, leave]
@[go_sem] theorem JH (id : Nat) (st : St) : lI id (some (.ret, st)) = some (.ret, st) := by simp [lI, leave]
@[go_sem] theorem FY (id i : Nat) (st : St) : lI id (some (.exit i, st)) = if i = id then some (.normal, st) else some (.exit i, st) := by
 simp only[lI,leave,aLw,Ex.exit.injEq]
 split<;>rfl
@[go_sem] theorem FZ (id : Nat) : lI id none = none := (rfl)
@[go_sem] theorem JI (id : Nat) (c : Prop) [Decidable c] (a b : Option (Ex × St)) : lI id (if c then a else b) = if c then lI id a else lI id b := by
 split<;>rfl
@[congr] theorem Cf {c c' : Option D} {a b : Option (Ex × St)} (h : True → c = c') : bC c a b = bC c' a b := by rw [h trivial]
@[go_sem] theorem JJ (p : Prop) [Decidable p] (a b : Option (Ex × St)) : bC (some (.t (.bool (decide p)))) a b = if p then a else b := by
 by_cases h:p<;>simp[bC,h]
@[go_sem] theorem F3 (p : Prop) [Decidable p] (a b : Option (Ex × St)) : bC (some (.t (.bool (!decide p)))) a b = if p then b else a := by
 by_cases h:p<;>simp[bC,h]
@[go_sem] theorem Nd (a : Option (Ex × St)) : bC (some .ub) a a = a := by simp [bC]
@[go_sem] theorem F4 (x : Bool) (a b : Option (Ex × St)) : bC (some (.t (.bool x))) a b = if x = true then a else b := (rfl)
def gR(gc:Bool)(dead:List Nat)(k:Nat)(x:Option (Ex×St)):Option St:=x.bind fun p=>match p.1 with
 | .normal=>tidy gc dead k p.2
 | _=>none
@[go_sem] theorem yo (gc : Bool) (dead : List Nat) (k : Nat) (st : St) : gR gc dead k (some (.normal, st)) = tidy gc dead k st := (rfl)
@[go_sem] theorem F5 (gc : Bool) (dead : List Nat) (k : Nat) (c : Prop) [Decidable c] (a b : Option (Ex × St)) : gR gc dead k (if c then a else b) = if c then gR gc dead k a else gR gc dead k b := by
 split<;>rfl
theorem sJ{gc:Bool}{dead:List Nat}{body:St→Option (Ex×St)}{st st2:St}(h:gR gc dead st.H.length (body st)=some st2)
 {p:Ex×St} (h2:i6 gc dead body st2=some p):i6 gc dead body st=some p:=by
 unfold gR at h
 obtain⟨⟨e,st1⟩,hq,h⟩:=aLa.1 h
 cases e with
 | normal=>exact mL hq h h2
 | ret=>cases h
 | exit=>cases h
theorem yp{gc:Bool}{dead:List Nat}{body:St→Option (Ex×St)}(s:Nat→St){p:Ex×St}(n:Nat)
 (h:∀j,j<n→gR gc dead (s j).H.length (body (s j))=some (s (j+1))) (he:i6 gc dead body (s n)=some p):i6 gc dead body (s 0)=some p:=by
 have:=kc (s:=s) n 0 (fun j _ hj=>by
  have h:=h j (by omega)
  unfold gR at h
  obtain⟨⟨e,st1⟩,hq,h⟩:=aLa.1 h
  cases e with
  | normal=>exact⟨st1,hq,h⟩
  | ret=>cases h
  | exit=>cases h) (by simpa using he)
 exact this
def Nf(res:List (Nat×Option (Nat×Bool)))(k raw:Nat)(p:Ex×St):Option (D×ab):=match p.1 with
 | .exit _=>none
 | _=>(cq p.2 res).bind (finish k raw p.2.H)
@[go_sem] theorem Ng (res : List (Nat × Option (Nat × Bool))) (k raw : Nat) (vs : List D) (H : ab) : Nf res k raw (.ret, ⟨vs, H⟩) = (cq ⟨vs, H⟩ res).bind (finish k raw H) := (rfl)
@[go_sem] theorem Cg (res : List (Nat × Option (Nat × Bool))) (k raw : Nat) (vs : List D) (H : ab) : Nf res k raw (.normal, ⟨vs, H⟩) = (cq ⟨vs, H⟩ res).bind (finish k raw H) := (rfl)
theorem Ch{fs:Nat→Option Fn}{raw f:Nat}{args:List D}{H:ab}{fn:Fn}{r:D×ab}(hf:fs f=some fn)(hn:fn.cI=args.length)
 (h:(exS (ea fs) fn.body ⟨gL args fn.vars,H⟩).bind (Nf fn.res H.length raw)=some r) (h0:fn.prim=[]:=by rfl):ea fs raw f args H=some r:=by
 obtain⟨p,hp,he⟩:=aLa.1 h
 exact yj hf hn (yn _ _ _ hp) he h0
@[go_sem] theorem Nh {α β : Type} (c : Prop) [Decidable c] (a b : Option α) (k : α → Option β) : (if c then a else b).bind k = if c then a.bind k else b.bind k := by
 split<;>rfl
@[go_sem] theorem PS {α β : Type} (c : Prop) [Decidable c] (a b : Option α) (k : α → β) : (if c then a else b).map k = if c then a.map k else b.map k := by
 split<;>rfl
theorem Ni(a b:Int):(a==b)=decide (a=b):=by rw[Bool.eq_iff_iff];simp
theorem eB{n:Int}(h1: -9223372036854775808≤n)(h2:n≤9223372036854775807):IntKind.i64.wrap n=n:=by
 have e:IntKind.i64.wrap n=if n % 18446744073709551616≥9223372036854775808 then n % 18446744073709551616-18446744073709551616 else n % 18446744073709551616:=by
  simp[IntKind.wrap,IntKind.signed,IntKind.bits]
 rw[e];split<;>omega
section
variable {α β : Type}
@[go_sem] theorem Ci (a : α) (f : α → Option β) : (some a).bind f = f a := (rfl)
@[go_sem] theorem F6 (a : α) (f : α → β) : (some a).map f = some (f a) := (rfl)
@[go_sem] theorem Cj (f : α → Option β) : (none : Option α).bind f = none := (rfl)
@[go_sem] theorem F7 (f : α → β) : (none : Option α).map f = none := (rfl)
@[go_sem] theorem F8 (a : α) (l : List α) (f : α → β) : (a :: l).map f = f a :: l.map f := (rfl)
@[go_sem] theorem JK (f : α → β) : ([] : List α).map f = [] := (rfl)
@[go_sem] theorem F9 (a : α) (l : List α) : (a :: l)[0]? = some a := (rfl)
@[go_sem] theorem Ga (a : α) (l : List α) (n : Nat) : (a :: l)[n + 1]? = l[n]? := (rfl)
@[go_sem] theorem Ck (a d : α) (l : List α) : (a :: l).getD 0 d = a := (rfl)
@[go_sem] theorem Cl (a d : α) (l : List α) (n : Nat) : (a :: l).getD (n + 1) d = l.getD n d := (rfl)
@[go_sem] theorem Gb (d : α) (n : Nat) : ([] : List α).getD n d = d := by simp
@[go_sem] theorem Gc (a b : α) (l : List α) : (a :: l).set 0 b = b :: l := (rfl)
@[go_sem] theorem Gd (a b : α) (l : List α) (n : Nat) : (a :: l).set (n + 1) b = a :: l.set n b := (rfl)
@[go_sem] theorem yq (a : α) (l m : List α) : (a :: l) ++ m = a :: (l ++ m) := (rfl)
@[go_sem] theorem zL (l : List α) : [] ++ l = l := (rfl)
@[go_sem] theorem zM (l : List α) : l ++ [] = l := by simp
@[go_sem] theorem xi (a : α) (l : List α) (f : α → List β) : (a :: l).flatMap f = f a ++ l.flatMap f := by simp
@[go_sem] theorem yr (f : α → List β) : ([] : List α).flatMap f = [] := by simp
@[go_sem] theorem zN : ([] : List α).length = 0 := (rfl)
@[go_sem] theorem yt (a : α) (l : List α) : (a :: l).length = l.length + 1 := (rfl)
@[go_sem] theorem zO (l : List α) (f : α → β) : (l.map f).length = l.length := by simp
@[go_sem] theorem vo (l m : List α) : (l ++ m).length = l.length + m.length := by simp
@[go_sem] theorem q8 (n : Nat) (a : α) : (List.replicate n a).length = n := by simp
@[go_sem] theorem zP (l : List α) (i : Nat) (a : α) : (l.set i a).length = l.length := by simp
@[go_sem] theorem Cm (l : List α) : l.drop 0 = l := (rfl)
@[go_sem] theorem Cn (a : α) (l : List α) (n : Nat) : (a :: l).drop (n + 1) = l.drop n := (rfl)
@[go_sem] theorem Ge (n : Nat) : ([] : List α).drop n = [] := by simp
@[go_sem] theorem Co (l : List α) : l.take 0 = [] := (rfl)
@[go_sem] theorem Cp (a : α) (l : List α) (n : Nat) : (a :: l).take (n + 1) = a :: l.take n := (rfl)
@[go_sem] theorem Gf (n : Nat) : ([] : List α).take n = [] := by simp
@[go_sem] theorem Cq (a b : α) : (bif true then a else b) = a := (rfl)
@[go_sem] theorem zQ (a b : α) : (bif false then a else b) = b := (rfl)
@[go_sem] theorem Gg (n : Nat) : n + 0 = n := (rfl)
@[go_sem] theorem Gi (n : Nat) : 0 + n = n := by simp
@[go_sem] theorem Gj (a b : α) : (some a = some b) = (a = b) := by simp
@[go_sem] theorem Nj (a : α) : (some a).isSome = true := (rfl)
end
attribute [go_sem] decide_true decide_false if_true if_false aLt Bool.true_eq_false decide_eq_true_eq decide_eq_false_iff_not aLr Bool.or_eq_true Bool.not_eq_true' Bool.not_eq_true Bool.not_eq_false
 Bool.and_true Bool.true_and Bool.and_false Bool.false_and Bool.or_true Bool.true_or Bool.or_false Bool.false_or and_true true_and and_self not_true_eq_false not_false_eq_true beq_iff_eq bne_iff_ne ne_eq
@[go_sem] theorem Gk : (!true) = false := (rfl)
@[go_sem] theorem Cr : (!false) = true := (rfl)
@[go_sem] theorem TR (vs L : List D) (j : Nat) : X.get vs L (.v j) = vs[j]? := (rfl)
@[go_sem] theorem TS (vs L : List D) (k : Nat) : X.get vs L (.l k) = L[k]? := (rfl)
@[go_sem] theorem TT (vs L : List D) (d : D) : X.get vs L (.c d) = some d := (rfl)
@[go_sem] theorem TU (vs L : List D) (n : Int) : X.get vs L (.i n) = some (I n) := (rfl)
@[go_sem] theorem TV (vs L : List D) (x : Bool) : X.get vs L (.b x) = some (B x) := (rfl)
@[go_sem] theorem PT (vs : List D) (x : D) : wr vs none x = vs := (rfl)
@[go_sem] theorem PU (vs : List D) (s : Nat) (x : D) : wr vs (some s) x = vs.set s x := (rfl)
@[go_sem] theorem Gl (args : List D) : gL args [] = [] := (rfl)
@[go_sem] theorem Cs (args : List D) (s : Nat) (r : List Nat) : gL args (s :: r) = args.getD s .und :: gL args r := (rfl)
def PV(H:ab)(d:D):Option (D×ab):=some (d,H)
@[go_sem] theorem PW (H : ab) (d : D) : PV H d = some (d, H) := (rfl)
def c7{α:Type}(a:α)(l:Option (List α)):Option (List α):=l.map (a:: ·)
@[go_sem] theorem Gm {α : Type} (a : α) (l : List α) : c7 a (some l) = some (a :: l) := (rfl)
@[go_sem] theorem Gn {α : Type} (a : α) : c7 a none = none := (rfl)
@[go_sem] theorem Nk {α β : Type} (f : α → Option β) : az f [] = some [] := (rfl)
def Sv{α β:Type}(f:α→Option β)(r:List α)(y:β):Option (List β):=c7 y (az f r)
@[go_sem] theorem Ct {α β : Type} (f : α → Option β) (r : List α) (y : β) : Sv f r y = c7 y (az f r) := (rfl)
@[go_sem] theorem vq {α β : Type} (f : α → Option β) (x : α) (r : List α) : az f (x :: r) = (f x).bind (Sv f r) := (rfl)
section
variable (call : ai) (get : X → Option D) (H : ab)
@[go_sem] theorem TW (x : X) : evO call get H (.mv x) = (get x).bind (PV H) := by simp only [evO]; cases get x <;> rfl
def Nl(c a b:Option D):Option (D×ab):=c.bind fun c=>a.bind fun a=>b.bind fun b=>(x3 c a b).map fun d=>(d,H)
@[go_sem] theorem TX (c a b : X) : evO call get H (.pk c a b) = Nl H (get c) (get a) (get b) := (rfl)
@[go_sem] theorem JL (x p q : Bool) : Nl H (some (.t (.bool x))) (some (.t (.bool p))) (some (.t (.bool q))) = some (.t (.bool (bif x then p else q)), H) := by cases x <;> rfl
@[go_sem] theorem JM (a b : D) : Nl H (some (.t (.bool true))) (some a) (some b) = some (a, H) := (rfl)
@[go_sem] theorem Gp (a b : D) : Nl H (some (.t (.bool false))) (some a) (some b) = some (b, H) := (rfl)
@[go_sem] theorem Nn (x p : Bool) : (bif x then p else false) = (x && p) := by cases x <;> rfl
@[go_sem] theorem PX (x q : Bool) : (bif x then true else q) = (x || q) := by cases x <;> rfl
def cm(f:BinOp)(x y:Option D):Option (D×ab):=x.bind fun a=>y.bind fun b=>(mw f a b).map fun d=>(d,H)
@[go_sem] theorem Sw (f : BinOp) (x y : X) : evO call get H (.bin f x y) = cm H f (get x) (get y) := (rfl)
section
variable (k j : IntKind) (a b : Int)
@[go_sem] theorem JN : cm H .add (some (.t (.int k a))) (some (.t (.int k b))) = some (.t (.int k (k.wrap (a + b))), H) := by simp [cm, mw, ph]
@[go_sem] theorem JO : cm H .sub (some (.t (.int k a))) (some (.t (.int k b))) = some (.t (.int k (k.wrap (a - b))), H) := by simp [cm, mw, ph]
@[go_sem] theorem JP : cm H .mul (some (.t (.int k a))) (some (.t (.int k b))) = some (.t (.int k (k.wrap (a * b))), H) := by simp [cm, mw, ph]
@[go_sem] theorem JQ : cm H .quo (some (.t (.int k a))) (some (.t (.int k b))) = if b = 0 then none else some (.t (.int k (k.wrap (a.tdiv b))), H) := by simp only [cm, mw, ph]; by_cases h : b = 0 <;> simp [h]
@[go_sem] theorem JR : cm H .rem (some (.t (.int k a))) (some (.t (.int k b))) = if b = 0 then none else some (.t (.int k (a.tmod b)), H) := by simp only [cm, mw, ph]; by_cases h : b = 0 <;> simp [h]
@[go_sem] theorem JS : cm H .eql (some (.t (.int k a))) (some (.t (.int k b))) = some (.t (.bool (decide (a = b))), H) := by simp [cm, mw, ph, Ni]
@[go_sem] theorem JT : cm H .neq (some (.t (.int k a))) (some (.t (.int k b))) = some (.t (.bool (decide (¬ a = b))), H) := by simp [cm, mw, ph, bne, Ni]
@[go_sem] theorem JU : cm H .lss (some (.t (.int k a))) (some (.t (.int k b))) = some (.t (.bool (decide (a < b))), H) := by simp [cm, mw, ph]
@[go_sem] theorem JV : cm H .leq (some (.t (.int k a))) (some (.t (.int k b))) = some (.t (.bool (decide (a ≤ b))), H) := by simp [cm, mw, ph]
@[go_sem] theorem JW : cm H .gtr (some (.t (.int k a))) (some (.t (.int k b))) = some (.t (.bool (decide (b < a))), H) := by simp [cm, mw, ph]
@[go_sem] theorem JX : cm H .geq (some (.t (.int k a))) (some (.t (.int k b))) = some (.t (.bool (decide (b ≤ a))), H) := by simp [cm, mw, ph]
@[go_sem] theorem JY (h : 0 ≤ b) : cm H .shl (some (.t (.int k a))) (some (.t (.int j b))) = some (.t (.int k (k.wrap (a * 2 ^ min b.toNat k.bits))), H) := by simp [cm, mw, mu, Int.not_lt.2 h]
@[go_sem] theorem JZ (h : 0 ≤ b) : cm H .shr (some (.t (.int k a))) (some (.t (.int j b))) = some (.t (.int k (a.fdiv (2 ^ min b.toNat k.bits))), H) := by simp [cm, mw, mu, Int.not_lt.2 h]
@[go_sem] theorem J0 : cm H .and (some (.t (.int k a))) (some (.t (.int k b))) = some (.t (.int k (k.wrap (BitVec.ofInt k.bits a &&& BitVec.ofInt k.bits b).toNat)), H) := by simp [cm, mw, ph]
@[go_sem] theorem No : cm H .or (some (.t (.int k a))) (some (.t (.int k b))) = some (.t (.int k (k.wrap (BitVec.ofInt k.bits a ||| BitVec.ofInt k.bits b).toNat)), H) := by simp [cm, mw, ph]
@[go_sem] theorem J1 : cm H .xor (some (.t (.int k a))) (some (.t (.int k b))) = some (.t (.int k (k.wrap (BitVec.ofInt k.bits a ^^^ BitVec.ofInt k.bits b).toNat)), H) := by simp [cm, mw, ph]
def PY(f:UnOp)(a:D):Option (D×ab):=(unD f a).map fun d=>(d,H)
@[go_sem] theorem TY (f : UnOp) (x : X) : evO call get H (.un f x) = (get x).bind (PY H f) := (rfl)
@[go_sem] theorem Np (x : Bool) : PY H .not (.t (.bool x)) = some (.t (.bool (!x)), H) := (rfl)
@[go_sem] theorem Nq : PY H .neg (.t (.int k a)) = some (.t (.int k (k.wrap (0 - a))), H) := (rfl)
def Sx(k:IntKind)(a:D):Option (D×ab):=(Bx k a).map fun d=>(d,H)
@[go_sem] theorem TZ (x : X) : evO call get H (.cv k x) = (get x).bind (Sx H k) := (rfl)
@[go_sem] theorem Nr : Sx H k (.t (.int j a)) = some (.t (.int k (k.wrap a)), H) := (rfl)
end
def jb(q:EqK)(neg:Bool)(x y:Option D):Option (D×ab):=x.bind fun a=>y.bind fun b=>(Bu q neg a b).map fun d=>(d,H)
@[go_sem] theorem Sy (q : EqK) (neg : Bool) (x y : X) : evO call get H (.eqk q neg x y) = jb H q neg (get x) (get y) := (rfl)
@[go_sem] theorem Gq (x y : Bool) : jb H .bool false (some (.t (.bool x))) (some (.t (.bool y))) = some (.t (.bool (x == y)), H) := (rfl)
@[go_sem] theorem Cu (x y : Bool) : jb H .bool true (some (.t (.bool x))) (some (.t (.bool y))) = some (.t (.bool (!(x == y))), H) := (rfl)
def zR:List T→List T→Bool
 | .int _ a::xs,.int _ b::ys=>decide (a=b)&&zR xs ys
 | _,_=>true
def sK:Nat→List T→List T→Bool
 | 0,[],[]=>true
 | n+1,.int j _::xs,.int k _::ys=>decide (j=k)&&sK n xs ys
 | _,_,_=>false
@[go_sem] theorem J3 (k j : IntKind) (a b : Int) (xs ys : List T) : zR (.int k a :: xs) (.int j b :: ys) = (decide (a = b) && zR xs ys) := (rfl)
@[go_sem] theorem Ns : zR [] [] = true := (rfl)
@[go_sem] theorem Nt : sK 0 [] [] = true := (rfl)
@[go_sem] theorem J4 (n : Nat) (k : IntKind) (a b : Int) (xs ys : List T) : sK (n + 1) (.int k a :: xs) (.int k b :: ys) = sK n xs ys := by simp [sK]
theorem lJ:∀ {n:Nat} {xs ys:List T},sK n xs ys=true→xs.length=n∧dB xs ys=some (zR xs ys)
 | 0,[],[],_=>⟨rfl,rfl⟩
 | 0,[],_::_,h=>by simp[sK]at h
 | 0,_::_,_,h=>by simp[sK]at h
 | n+1,[],_,h=>by simp[sK]at h
 | n+1,x::xs,[],h=>by cases x<;>simp[sK]at h
 | n+1,x::xs,y::ys,h=>by
   cases x<;>cases y<;>simp only[sK,aLr,decide_eq_true_eq,aLt]at h
   obtain⟨rfl,h⟩:=h
   obtain⟨h1,h2⟩:=lJ h
   exact⟨by simp[h1],by simp[dB,h2,zR,Ni]⟩
@[go_sem] theorem Gr (n : Nat) (xs ys : List T) (h : sK n xs ys = true) : jb H (.ints n) false (some (.t (.agg xs))) (some (.t (.agg ys))) = some (.t (.bool (zR xs ys)), H) := by
 obtain⟨h1,h2⟩:=lJ h;simp[jb,Bu,eqD,h1,h2]
@[go_sem] theorem Cv (n : Nat) (xs ys : List T) (h : sK n xs ys = true) : jb H (.ints n) true (some (.t (.agg xs))) (some (.t (.agg ys))) = some (.t (.bool (!zR xs ys)), H) := by
 obtain⟨h1,h2⟩:=lJ h;simp[jb,Bu,eqD,h1,h2]
@[go_sem] theorem J5 (id ep n : Nat) (h : 0 < n) : jb H .sl false (some (.ref id ep n)) (some .nil) = some (.t (.bool false), H) := by
 cases n with
 | zero=>omega
 | succ n=>rfl
@[go_sem] theorem J6 : jb H .sl false (some .nil) (some .nil) = some (.t (.bool true), H) := (rfl)
@[go_sem] theorem J7 : jb H .sl false (some (.t (.sl []))) (some .nil) = some (.ub, H) := (rfl)
@[go_sem] theorem Gs : jb H .sl true (some (.t (.sl []))) (some .nil) = some (.ub, H) := (rfl)
@[go_sem] theorem Gt : jb H .sl true (some .nil) (some .nil) = some (.t (.bool false), H) := (rfl)
def Nu(a:D):Option (D×ab):=(MS a).map fun d=>(d,H)
@[go_sem] theorem T0 (x : X) : evO call get H (.nc x) = (get x).bind (Nu H) := (rfl)
@[go_sem] theorem PZ (id off : Nat) : Nu H (.bp id off) = some (.bp id off, H) := (rfl)
@[go_sem] theorem P0 (id ep n i off : Nat) : Nu H (.ap id ep n i off) = some (.ap id ep n i off, H) := (rfl)
@[go_sem] theorem P1 (cs : List T) : Nu H (.ep cs) = some (.ep cs, H) := (rfl)
def Gu(off:Nat)(a:D):Option (D×ab):=(sj a off).map fun d=>(d,H)
@[go_sem] theorem T4 (x : X) (off : Nat) : evO call get H (.fa x off) = (get x).bind (Gu H off) := (rfl)
@[go_sem] theorem P2 (id o off : Nat) : Gu H off (.bp id o) = some (.bp id (o + off), H) := (rfl)
@[go_sem] theorem P3 (id ep n i o off : Nat) : Gu H off (.ap id ep n i o) = some (.ap id ep n i (o + off), H) := (rfl)
@[go_sem] theorem P4 (cs : List T) (off : Nat) : Gu H off (.ep cs) = some (.ep (cs.drop off), H) := (rfl)
@[go_sem] theorem T5 (cs : List D) : cut cs 0 0 = some [] := by simp [cut]
@[go_sem] theorem T6 (c : D) (cs : List D) : cut (c :: cs) 0 1 = some [c] := by simp [cut]
@[go_sem] theorem T7 (c : D) (cs : List D) (n : Nat) : cut (c :: cs) 0 (n + 1) = c7 c (cut cs 0 n) := by
 simp only[cut,c7];by_cases h:n≤cs.length<;>simp[h]
@[go_sem] theorem T8 (c : D) (cs : List D) (off n : Nat) : cut (c :: cs) (off + 1) n = cut cs off n := by
 simp only[cut,List.length_cons,List.drop_succ_cons]
 by_cases h:off+n≤cs.length
 · rw[if_pos h,if_pos (by omega)]
 · rw[if_neg h,if_neg (by omega)]
@[go_sem] theorem J8 (c : D) : ba false [c] = some c := (rfl)
@[go_sem] theorem J9 (cs : List D) : ba true cs = some (gA cs) := (rfl)
def mkA(cs:List D):Option (List T)→D
 | some ts=> .t (.agg ts)
 | none=> .agg cs
@[go_sem] theorem Nv (cs : List D) (ts : List T) : mkA cs (some ts) = .t (.agg ts) := (rfl)
@[go_sem] theorem Nw (cs : List D) : mkA cs none = .agg cs := (rfl)
@[go_sem] theorem Nx (cs : List D) : gA cs = mkA cs (eZ cs) := by unfold gA; cases eZ cs <;> rfl
@[go_sem] theorem Ny : eZ [] = some [] := (rfl)
@[go_sem] theorem Sz (x : T) (r : List D) : eZ (.t x :: r) = c7 x (eZ r) := (rfl)
@[go_sem] theorem SA (r : List D) : eZ (.nil :: r) = none := (rfl)
@[go_sem] theorem Nz (a b c : Nat) (r : List D) : eZ (.ref a b c :: r) = none := (rfl)
@[go_sem] theorem NA (a b c d e : Nat) (r : List D) : eZ (.sub a b c d e :: r) = none := (rfl)
@[go_sem] theorem yu (l : List T) : eZ (l.map .t) = some l := by induction l with | nil => rfl | cons a l ih => simp [eZ, ih]
def Ka(off n:Nat)(agg:Bool)(a:D):Option (D×ab):=(iH a off n agg).map fun d=>(d,H)
@[go_sem] theorem T9 (x : X) (off n : Nat) (agg : Bool) : evO call get H (.fl x off n agg) = (get x).bind (Ka H off n agg) := (rfl)
def ofC(agg:Bool)(cs:Option (List D)):Option (D×ab):=(cs.bind (ba agg)).bind (PV H)
@[go_sem] theorem Ua (c : D) : ofC H false (some [c]) = some (c, H) := (rfl)
@[go_sem] theorem Ub (cs : List D) : ofC H true (some cs) = some (gA cs, H) := (rfl)
@[go_sem] theorem SB (cs : List T) (off n : Nat) (agg : Bool) : Ka H off n agg (.t (.agg cs)) = ofC H agg (cut (cs.map .t) off n) := by
 simp only[Ka,iH,D.isAgg,if_true,D.cells,T.cells,ofC];cases (cut (cs.map .t) off n).bind (ba agg)<;>rfl
@[go_sem] theorem NB (cs : List D) (off n : Nat) (agg : Bool) : Ka H off n agg (.agg cs) = ofC H agg (cut cs off n) := by
 simp only[Ka,iH,D.isAgg,if_true,D.cells,ofC];cases (cut cs off n).bind (ba agg)<;>rfl
@[go_sem] theorem P5 (n : Nat) : idx (n : Int) = some n := by simp [idx]
@[go_sem] theorem Uc : idx 0 = some 0 := (rfl)
theorem Cw{i:Int}(h:0≤i):idx i=some i.toNat:=by simp[idx,h]
def Cx(sz:Nat)(x i:Option D):Option (D×ab):=x.bind fun a=>(i.bind intOf).bind fun n=>(mV H a n sz).map fun d=>(d,H)
@[go_sem] theorem Ud (x i : X) (sz : Nat) : evO call get H (.ia x i sz) = Cx H sz (get x) (get i) := (rfl)
def yv(sz:Nat)(e:T):Option (D×ab):=if e.cells.length=sz then some (.ep e.cells,H)else none
def P6(sz:Nat)(es:List T)(j:Nat):Option (D×ab):=es[j]?.bind (yv H sz)
@[go_sem] theorem P7 (sz : Nat) (es : List T) (j : Nat) : P6 H sz es j = es[j]?.bind (yv H sz) := (rfl)
@[go_sem] theorem P8 (k : IntKind) (es : List T) (n : Int) (sz : Nat) : Cx H sz (some (.t (.sl es))) (some (.t (.int k n))) = (idx n).bind (P6 H sz es) := by
 simp only[Cx,aLq,intOf,mV]
 cases idx n with
 | none=>rfl
 | some j=>
   simp only[aLq,P6]
   cases es[j]? with
   | none=>rfl
   | some e=>simp only[aLq,yv];split<;>rfl
@[go_sem] theorem NC (k : IntKind) (n : Int) : yv H 1 (.int k n) = some (.ep [.int k n], H) := (rfl)
@[go_sem] theorem Kb (b : Bool) : yv H 1 (.bool b) = some (.ep [.bool b], H) := (rfl)
@[go_sem] theorem P9 (es : List T) : yv H 1 (.sl es) = some (.ep [.sl es], H) := (rfl)
def eC{α:Type}:Nat→List α→Bool
 | 0,[]=>true
 | n+1,_::r=>eC n r
 | _,_=>false
@[go_sem] theorem Qa {α : Type} : eC 0 ([] : List α) = true := (rfl)
@[go_sem] theorem Qb {α : Type} (n : Nat) (a : α) (l : List α) : eC (n + 1) (a :: l) = eC n l := (rfl)
theorem bA{α:Type}:∀ {n:Nat} {l:List α},eC n l=true↔l.length=n
 | 0,[]=>by simp[eC]
 | 0,_::_=>by simp[eC]
 | n+1,[]=>by simp[eC]
 | n+1,_::r=>by simp only[eC,List.length_cons,Nat.add_right_cancel_iff];exact bA
@[go_sem] theorem ND (cs : List T) (sz : Nat) : yv H sz (.agg cs) = if eC sz cs = true then some (.ep cs, H) else none := by
 by_cases h:cs.length=sz
 · rw[yv,if_pos (show(T.agg cs).cells.length=sz from h),if_pos (bA.2 h)];rfl
 · rw[yv,if_neg (show ¬(T.agg cs).cells.length=sz from h),if_neg fun e=>h (bA.1 e)]
def Cy(sz id ep n j:Nat):Option Obj→Option (D×ab)
 | some (.arr sz' _ ep' es)=>if ep=ep'∧n=es.length then(if j<n∧sz'=sz then some (.ap id ep n j 0,H)else none)else none
 | _=>none
@[go_sem] theorem NF (k : IntKind) (id ep n : Nat) (i : Int) (sz : Nat) : Cx H sz (some (.ref id ep n)) (some (.t (.int k i))) = (idx i).bind fun j => Cy H sz id ep n j H[id]? := by
 simp only[Cx,aLq,intOf,mV]
 cases idx i with
 | none=>rfl
 | some j=>
   simp only[aLq,bE]
   generalize H[id]?=o
   rcases o with _ | (_ | ⟨sz',pin,ep',es⟩)
   · rfl
   · rfl
   · simp only[Cy]
     by_cases h:ep=ep'∧n=es.length
     · rw[if_pos h,if_pos h,aLq];split<;>rfl
     · rw[if_neg h,if_neg h];rfl
@[go_sem] theorem Kc (sz id ep n j sz' : Nat) (pin : Bool) (ep' : Nat) (es : List D) : Cy H sz id ep n j (some (.arr sz' pin ep' es)) =
 if ep=ep'∧n=es.length then(if j<n∧sz'=sz then some (.ap id ep n j 0,H)else none)else none:=(rfl)
def Cz(sz id ep n lo hi j:Nat):Option Obj→Option (D×ab)
 | some (.arr sz' _ ep' es)=>if ep=ep'∧n=es.length then(if lo+j<hi∧hi≤n∧sz'=sz then some (.ap id ep n (lo+j) 0,H)else none)else none
 | _=>none
@[go_sem] theorem NG (k : IntKind) (id ep n lo hi : Nat) (i : Int) (sz : Nat) : Cx H sz (some (.sub id ep n lo hi)) (some (.t (.int k i))) = (idx i).bind fun j => Cz H sz id ep n lo hi j H[id]? := by
 simp only[Cx,aLq,intOf,mV]
 cases idx i with
 | none=>rfl
 | some j=>
   simp only[aLq,bE]
   generalize H[id]?=o
   rcases o with _ | (_ | ⟨sz',pin,ep',es⟩)
   · rfl
   · rfl
   · simp only[Cz]
     by_cases h:ep=ep'∧n=es.length
     · rw[if_pos h,if_pos h,aLq];split<;>rfl
     · rw[if_neg h,if_neg h];rfl
@[go_sem] theorem Kd (sz id ep n lo hi j sz' : Nat) (pin : Bool) (ep' : Nat) (es : List D) : Cz H sz id ep n lo hi j (some (.arr sz' pin ep' es)) =
 if ep=ep'∧n=es.length then(if lo+j<hi∧hi≤n∧sz'=sz then some (.ap id ep n (lo+j) 0,H)else none)else none:=(rfl)
def Qc(len sz:Nat)(agg:Bool)(x i:Option D):Option (D×ab):=x.bind fun a=>(i.bind intOf).bind fun n=>(idx n).bind fun j=>(my a j len sz agg).map fun d=>(d,H)
def Ke(len sz:Nat)(agg:Bool)(a:D)(j:Nat):Option (D×ab):=(my a j len sz agg).map fun d=>(d,H)
@[go_sem] theorem Ue (x i : X) (len sz : Nat) (agg : Bool) : evO call get H (.ix x i len sz agg) = Qc H len sz agg (get x) (get i) := (rfl)
@[go_sem] theorem Qd (len sz : Nat) (agg : Bool) (a : D) (k : IntKind) (n : Int) : Qc H len sz agg (some a) (some (.t (.int k n))) = (idx n).bind (Ke H len sz agg a) := by
 simp only[Qc,aLq,intOf];cases idx n<;>rfl
@[go_sem] theorem NH (len j : Nat) (ts : List T) (h : j < len) (hs : (ts.all fun t => t.scalar) = true) : Ke H len 1 false (.t (.agg ts)) j = (ts[j]?).map fun t => (.t t, H) := by
 have h0:len≠0:=by omega
 unfold Ke my
 rw[if_neg h0,if_pos h]
 unfold iH cut
 simp only[D.isAgg,D.cells,T.cells,if_true,Nat.mul_one,List.length_map]
 by_cases hj:j<ts.length
 · rw[if_pos (by omega),aLc hj]
   have e:((ts.map D.t).drop j).take 1=[D.t ts[j]]:=by
    rw[List.drop_eq_getElem_cons (by simpa using hj)];simp
   rw[e];rfl
 · rw[if_neg (by omega),aLm (by omega)];rfl
def CA(len sz:Nat)(x i:Option D):Option (D×ab):=x.bind fun a=>(i.bind intOf).bind fun n=>(idx n).bind fun j=>if j<len then(sj a (j*sz)).map fun d=>(d,H)else none
@[go_sem] theorem SC (x i : X) (len sz : Nat) : evO call get H (.iaa x i len sz) = CA H len sz (get x) (get i) := (rfl)
def SD(len sz:Nat)(a:D)(j:Nat):Option (D×ab):=if j<len then Gu H (j*sz) a else none
@[go_sem] theorem Qe (len sz : Nat) (a : D) (j : Nat) : SD H len sz a j = if j < len then Gu H (j * sz) a else none := (rfl)
@[go_sem] theorem NI (len sz : Nat) (a : D) (k : IntKind) (n : Int) : CA H len sz (some a) (some (.t (.int k n))) = (idx n).bind (SD H len sz a) := by
 simp only[CA,aLq,intOf];cases idx n<;>rfl
def xj(n:Nat)(agg:Bool)(a:D):Option (D×ab):=(jt H a n agg).map fun d=>(d,H)
@[go_sem] theorem Uf (x : X) (n : Nat) (agg : Bool) : evO call get H (.ld x n agg) = (get x).bind (xj H n agg) := (rfl)
def yw(off n:Nat)(agg:Bool):Option Obj→Option (D×ab)
 | some (.box cs)=>ofC H agg (cut cs off n)
 | _=>none
@[go_sem] theorem NJ (off n : Nat) (agg : Bool) (cs : List D) : yw H off n agg (some (.box cs)) = ofC H agg (cut cs off n) := (rfl)
@[go_sem] theorem Qf (id off n : Nat) (agg : Bool) : xj H n agg (.bp id off) = yw H off n agg H[id]? := by
 simp only[xj,jt]
 generalize H[id]?=o
 rcases o with _ | (cs | _)
 · rfl
 · simp only[yw,ofC];cases (cut cs off n).bind (ba agg)<;>rfl
 · rfl
@[go_sem] theorem Qg (cs : List T) (n : Nat) (agg : Bool) : xj H n agg (.ep cs) = ofC H agg (cut (cs.map .t) 0 n) := by
 simp only[xj,jt,ofC];cases (cut _ 0 n).bind (ba agg)<;>rfl
def NK(off n:Nat)(agg:Bool)(e:D):Option (D×ab):=ofC H agg (cut e.cells off n)
@[go_sem] theorem Qh (off n : Nat) (agg : Bool) (e : D) : NK H off n agg e = ofC H agg (cut e.cells off n) := (rfl)
def CB(ep m i off n:Nat)(agg:Bool):Option Obj→Option (D×ab)
 | some (.arr _ _ ep' es)=>if ep=ep'∧m=es.length then es[i]?.bind (NK H off n agg)else none
 | _=>none
@[go_sem] theorem NL (ep m i off n : Nat) (agg : Bool) (sz : Nat) (pin : Bool) (ep' : Nat) (es : List D) :
 CB H ep m i off n agg (some (.arr sz pin ep' es))=if ep=ep'∧m=es.length then es[i]?.bind (NK H off n agg)else none:=(rfl)
@[go_sem] theorem Qi (id ep m i off n : Nat) (agg : Bool) : xj H n agg (.ap id ep m i off) = CB H ep m i off n agg H[id]? := by
 simp only[xj,jt,bE]
 generalize H[id]?=o
 rcases o with _ | (_ | ⟨sz',pin,ep',es⟩)
 · rfl
 · rfl
 · simp only[CB]
   by_cases h:ep=ep'∧m=es.length
   · rw[if_pos h,if_pos h,aLq]
     cases es[i]? with
     | none=>rfl
     | some e=>simp only[aLq,NK,ofC];cases (cut e.cells off n).bind (ba agg)<;>rfl
   · rw[if_neg h,if_neg h];rfl
@[go_sem] theorem Gv (cs : List D) : (D.agg cs).cells = cs := (rfl)
@[go_sem] theorem NM (x : T) : (D.t x).cells = x.cells.map .t := (rfl)
@[go_sem] theorem Gw : D.nil.cells = [.nil] := (rfl)
@[go_sem] theorem Kf (a b : Nat) : (D.bp a b).cells = [.bp a b] := (rfl)
@[go_sem] theorem Gx (a b c : Nat) : (D.ref a b c).cells = [.ref a b c] := (rfl)
@[go_sem] theorem Gy (a b c d e : Nat) : (D.sub a b c d e).cells = [.sub a b c d e] := (rfl)
@[go_sem] theorem Kg (f : Nat) (cs : List D) : (D.fn f cs).cells = [.fn f cs] := (rfl)
@[go_sem] theorem CC : D.nilp.cells = [.nilp] := (rfl)
@[go_sem] theorem Gz (cs : List T) : (T.agg cs).cells = cs := (rfl)
@[go_sem] theorem GA (k : IntKind) (n : Int) : (T.int k n).cells = [.int k n] := (rfl)
@[go_sem] theorem CD (b : Bool) : (T.bool b).cells = [.bool b] := (rfl)
@[go_sem] theorem GB (b : ByteArray) : (T.str b).cells = [.str b] := (rfl)
@[go_sem] theorem Kh (es : List T) : (T.sl es).cells = [.sl es] := (rfl)
def fits(n:Nat)(v:D):Bool:=decide (v.cells.length=n)&&v.b6
section
variable (n : Nat)
@[go_sem] theorem fits_int (k : IntKind) (a : Int) : fits 1 (.t (.int k a)) = true := (rfl)
@[go_sem] theorem fits_bool (b : Bool) : fits 1 (.t (.bool b)) = true := (rfl)
@[go_sem] theorem Qj (es : List T) : fits 1 (.t (.sl es)) = true := (rfl)
@[go_sem] theorem NN : fits 1 .nil = true := (rfl)
@[go_sem] theorem NQ (a b c : Nat) : fits 1 (.ref a b c) = true := (rfl)
@[go_sem] theorem NR (a b c d e : Nat) : fits 1 (.sub a b c d e) = true := (rfl)
@[go_sem] theorem Qk (a b : Nat) : fits 1 (.bp a b) = true := (rfl)
@[go_sem] theorem Ql (f : Nat) (cs : List D) : fits 1 (.fn f cs) = true := (rfl)
@[go_sem] theorem NS (cs : List D) : fits n (.agg cs) = eC n cs := by rw [Bool.eq_iff_iff, bA]; show (decide (cs.length = n) && true) = true ↔ _; simp
@[go_sem] theorem Ki (cs : List T) : fits n (.t (.agg cs)) = eC n cs := by rw [Bool.eq_iff_iff, bA]; simp [fits, D.cells, T.cells, D.b6]
end
@[go_sem] theorem CE {α : Type} (cs : List α) : ao cs 0 [] = some cs := by simp [ao]
@[go_sem] theorem CF {α : Type} (c x : α) (cs xs : List α) : ao (c :: cs) 0 (x :: xs) = c7 x (ao cs 0 xs) := by
 simp only[ao,c7];by_cases h:xs.length≤cs.length<;>simp[h]
@[go_sem] theorem CG {α : Type} (c : α) (cs : List α) (off : Nat) (xs : List α) : ao (c :: cs) (off + 1) xs = c7 c (ao cs off xs) := by
 simp only[ao,c7,List.length_cons]
 by_cases h:off+xs.length≤cs.length
 · rw[if_pos h,if_pos (by omega)];simp[show off+1+xs.length=(off+xs.length)+1 by omega]
 · rw[if_neg h,if_neg (by omega)];rfl
def CH(n:Nat)(live:List (Nat×Nat))(a x:Option D):Option (D×ab):=a.bind fun p=>x.bind fun d=>(jX H p d n).bind fun H'=>(fg H' p live).map fun H''=>(.tup [],H'')
@[go_sem] theorem Ug (a x : X) (n : Nat) (live : List (Nat × Nat)) : evO call get H (.st a x n live) = CH H n live (get a) (get x) := (rfl)
def mO(H:ab)(id:Nat)(live:List (Nat×Nat)):Option (D×ab):=(fg H (.bp id 0) live).map fun H'=>(.tup [],H')
def q9(id:Nat)(live:List (Nat×Nat))(cs:List D):Option (D×ab):=mO (H.set id (.box cs)) id live
@[go_sem] theorem Kj (id : Nat) (live : List (Nat × Nat)) (cs : List D) : q9 H id live cs = mO (H.set id (.box cs)) id live := (rfl)
@[go_sem] theorem GC (H : ab) (id : Nat) : mO H id [] = some (.tup [], H) := (rfl)
def CI(id off:Nat)(live:List (Nat×Nat))(xs:List D):Option Obj→Option (D×ab)
 | some (.box cs)=>(ao cs off xs).bind (q9 H id live)
 | _=>none
@[go_sem] theorem NT (id off : Nat) (live : List (Nat × Nat)) (xs cs : List D) : CI H id off live xs (some (.box cs)) = (ao cs off xs).bind (q9 H id live) := (rfl)
@[go_sem] theorem Qm (n id off : Nat) (live : List (Nat × Nat)) (v : D) : CH H n live (some (.bp id off)) (some v) = if fits n v = true then CI H id off live v.cells H[id]? else none := by
 by_cases h:fits n v=true
 case neg=>
  rw[if_neg h]
  simp only[fits,aLr,decide_eq_true_eq]at h
  simp only[CH,aLq,jX,if_neg h];rfl
 rw[if_pos h]
 simp only[fits,aLr,decide_eq_true_eq]at h
 simp only[CH,aLq,jX,h.1,h.2,and_self,if_true]
 generalize H[id]?=o
 rcases o with _ | (cs | _)
 · rfl
 · simp only[CI]
   cases ao cs off v.cells with
   | none=>rfl
   | some cs'=>simp only[aLw,aLq,q9,mO,fg]
 · rfl
def oT(id sz ep i:Nat)(es:List D)(agg:Bool)(cs:List D):Option (D×ab):=(ba agg cs).bind fun e=>if e.b6 then some (.tup [],H.set id (.arr sz false ep (es.set i e)))else none
def NU(id sz ep i off:Nat)(es xs:List D)(e:D):Option (D×ab):=(ao e.cells off xs).bind (oT H id sz ep i es e.isAgg)
@[go_sem] theorem Qn (id sz ep i off : Nat) (es xs : List D) (e : D) : NU H id sz ep i off es xs e = (ao e.cells off xs).bind (oT H id sz ep i es e.isAgg) := (rfl)
@[go_sem] theorem Kk (cs : List D) : (D.agg cs).isAgg = true := (rfl)
@[go_sem] theorem GD (cs : List T) : (D.t (.agg cs)).isAgg = true := (rfl)
@[go_sem] theorem Kl (k : IntKind) (n : Int) : (D.t (.int k n)).isAgg = false := (rfl)
@[go_sem] theorem GF (b : Bool) : (D.t (.bool b)).isAgg = false := (rfl)
@[go_sem] theorem Km (b : ByteArray) : (D.t (.str b)).isAgg = false := (rfl)
@[go_sem] theorem NV (es : List T) : (D.t (.sl es)).isAgg = false := (rfl)
@[go_sem] theorem Kn : D.nil.isAgg = false := (rfl)
@[go_sem] theorem Ko (a b c : Nat) : (D.ref a b c).isAgg = false := (rfl)
@[go_sem] theorem Kp (a b c d e : Nat) : (D.sub a b c d e).isAgg = false := (rfl)
@[go_sem] theorem Qo (id sz ep i : Nat) (es : List D) (x : T) : oT H id sz ep i es false [.t x] = some (.tup [], H.set id (.arr sz false ep (es.set i (.t x)))) := (rfl)
@[go_sem] theorem Kq (id sz ep i : Nat) (es : List D) : oT H id sz ep i es false [.nil] = some (.tup [], H.set id (.arr sz false ep (es.set i .nil))) := (rfl)
@[go_sem] theorem Kr (id sz ep i a b c : Nat) (es : List D) : oT H id sz ep i es false [.ref a b c] = some (.tup [], H.set id (.arr sz false ep (es.set i (.ref a b c)))) := (rfl)
theorem p9(cs:List D):(gA cs).b6=true:=by unfold gA;cases eZ cs<;>rfl
@[go_sem] theorem Qp (id sz ep i : Nat) (es cs : List D) : oT H id sz ep i es true cs = some (.tup [], H.set id (.arr sz false ep (es.set i (gA cs)))) := by
 simp[oT,ba,p9]
def CJ(id ep m i off:Nat)(xs:List D):Option Obj→Option (D×ab)
 | some (.arr sz pin ep' es)=>if ep=ep'∧m=es.length then(if pin then none else es[i]?.bind (NU H id sz ep i off es xs))else none
 | _=>none
@[go_sem] theorem NW (id ep m i off : Nat) (xs : List D) (sz : Nat) (pin : Bool) (ep' : Nat) (es : List D) :
 CJ H id ep m i off xs (some (.arr sz pin ep' es))=if ep=ep'∧m=es.length then(if pin=true then none else es[i]?.bind (NU H id sz ep i off es xs))else none:=(rfl)
@[go_sem] theorem Qq (n id ep m i off : Nat) (v : D) : CH H n [] (some (.ap id ep m i off)) (some v) = if fits n v = true then CJ H id ep m i off v.cells H[id]? else none := by
 by_cases h:fits n v=true
 case neg=>
  rw[if_neg h]
  simp only[fits,aLr,decide_eq_true_eq]at h
  simp only[CH,aLq,jX,if_neg h];rfl
 rw[if_pos h]
 simp only[fits,aLr,decide_eq_true_eq]at h
 simp only[CH,aLq,jX,h.1,h.2,and_self,if_true,bE]
 generalize H[id]?=o
 rcases o with _ | (_ | ⟨sz',pin,ep',es⟩)
 · rfl
 · rfl
 · simp only[CJ]
   by_cases h:ep=ep'∧m=es.length
   · rw[if_pos h,if_pos h,aLq]
     cases pin with
     | true=>rfl
     | false=>
       simp only[aLt,if_false]
       cases es[i]? with
       | none=>rfl
       | some e=>
         simp only[aLq,NU]
         cases ao e.cells off v.cells with
         | none=>rfl
         | some cs'=>
           simp only[aLq,oT]
           cases ba e.isAgg cs' with
           | none=>rfl
           | some e'=>
             simp only[aLq]
             by_cases h3:e'.b6=true
             · rw[if_pos h3,if_pos h3,h.1];rfl
             · rw[if_neg h3,if_neg h3];rfl
   · rw[if_neg h,if_neg h];rfl
def CK(zero:List D)(ps:List (Nat×Nat×D)):Option (D×ab):=(iF zero ps).map fun cs=>(gA cs,H)
@[go_sem] theorem Uh (zero : List D) (parts : List (Nat × Nat × X)) : evO call get H (.bd zero parts) = (dG get parts).bind (CK H zero) := (rfl)
@[go_sem] theorem zS : dG get [] = some [] := (rfl)
def Ks(off n:Nat)(r:List (Nat×Nat×X))(d:D):Option (List (Nat×Nat×D)):=c7 (off,n,d) (dG get r)
@[go_sem] theorem NX (off n : Nat) (r : List (Nat × Nat × X)) (d : D) : Ks get off n r d = c7 (off, n, d) (dG get r) := (rfl)
@[go_sem] theorem yx (off n : Nat) (x : X) (r : List (Nat × Nat × X)) : dG get ((off, n, x) :: r) = (get x).bind (Ks get off n r) := (rfl)
@[go_sem] theorem NY (zero : List D) : CK H zero [] = some (gA zero, H) := (rfl)
def bdC(r:List (Nat×Nat×D))(z:List D):Option (D×ab):=CK H z r
@[go_sem] theorem SE (r : List (Nat × Nat × D)) (z : List D) : bdC H r z = CK H z r := (rfl)
@[go_sem] theorem Kt (zero : List D) (off n : Nat) (x : D) (r : List (Nat × Nat × D)) : CK H zero ((off, n, x) :: r) = if fits n x = true then (ao zero off x.cells).bind (bdC H r) else none := by
 by_cases h:fits n x=true
 case neg=>
  rw[if_neg h]
  have h2:(x.b6&&x.cells.length==n)=false:=by rw[← Bool.not_eq_true,Bool.and_comm];simpa [fits]using h
  simp only[CK,iF,h2];rfl
 rw[if_pos h]
 simp only[fits,aLr,decide_eq_true_eq]at h
 simp only[CK,iF,h.1,h.2,beq_self_eq_true,Bool.and_self,if_true]
 cases ao zero off x.cells<;>rfl
def aK(n:Nat):List T→Bool
 | []=>true
 | x::r=>eC n x.cells&&aK n r
@[go_sem] theorem zT (n : Nat) : aK n [] = true := (rfl)
@[go_sem] theorem jc (n : Nat) (x : T) (r : List T) : aK n (x :: r) = (eC n x.cells && aK n r) := (rfl)
def mP(sz:Nat)(ds:List D):Option (D×ab):=if ds.all (fun d=>d.cells.length==sz)then(az (frz H depth) ds).map fun ts=>(.t (.sl ts),pins H (ds.flatMap (bf H depth)))else none
@[go_sem] theorem Ui (xs : List X) (sz : Nat) : evO call get H (.bs xs sz) = (az get xs).bind (mP H sz) := (rfl)
theorem Ku(sz:Nat)(ds:List D)(ts:List T)(h:eZ ds=some ts)(hc:aK sz ts=true):mP H sz ds=some (.t (.sl ts),H):=by
 have key:∀(ds:List D) (ts:List T),eZ ds=some ts→aK sz ts=true→ds.all (fun d=>d.cells.length==sz)=true∧az (frz H depth) ds=some ts∧ds.flatMap (bf H depth)=[]:=by
  intro ds
  induction ds with
  | nil=>intro ts h hc;simp[eZ]at h;subst h;simp[az]
  | cons d ds ih=>
    intro ts h hc
    cases d with
    | t x=>
      simp only[eZ,aLb]at h
      obtain⟨r,hr,rfl⟩:=h
      simp only[aK,aLr,bA]at hc
      obtain⟨h1,h2,h3⟩:=ih r hr hc.2
      refine⟨by rw[List.all_cons,h1,Bool.and_true];simp[D.cells,hc.1],by simp[az,frz,h2],by rw[List.flatMap_cons,h3];simp[bf]⟩
    | _=>simp[eZ]at h
 obtain⟨h1,h2,h3⟩:=key ds ts h hc
 simp[mP,h1,h2,h3,pins]
theorem fS(sz:Nat)(ts:List T):mP H sz (ts.map D.t)=if aK sz ts=true then some (.t (.sl ts),H)else none:=by
 by_cases h:aK sz ts=true
 · rw[if_pos h];exact Ku H sz _ ts (yu ts) h
 · rw[if_neg h]
   have:(ts.map D.t).all (fun d=>d.cells.length==sz)=false:=by
    rw[← Bool.not_eq_true];intro ha;apply h
    clear h
    induction ts with
    | nil=>rfl
    | cons a r ih=>
      simp only[List.map_cons,List.all_cons,aLr,beq_iff_eq]at ha
      simp only[aK,aLr,bA]
      exact⟨by simpa [D.cells]using ha.1,ih ha.2⟩
   simp only[mP,this];rfl
@[go_sem] theorem SF (sz : Nat) : mP H sz [] = some (.t (.sl []), H) := (rfl)
@[go_sem] theorem SG (sz : Nat) (a : T) : mP H sz [.t a] = if aK sz [a] = true then some (.t (.sl [a]), H) else none := fS H sz [a]
@[go_sem] theorem SI (sz : Nat) (a b : T) : mP H sz [.t a, .t b] = if aK sz [a, b] = true then some (.t (.sl [a, b]), H) else none := fS H sz [a, b]
@[go_sem] theorem SJ (sz : Nat) (a b c : T) : mP H sz [.t a, .t b, .t c] = if aK sz [a, b, c] = true then some (.t (.sl [a, b, c]), H) else none := fS H sz [a, b, c]
@[go_sem] theorem SK (sz : Nat) (a b c d : T) : mP H sz [.t a, .t b, .t c, .t d] = if aK sz [a, b, c, d] = true then some (.t (.sl [a, b, c, d]), H) else none := fS H sz [a, b, c, d]
@[go_sem] theorem SL (sz : Nat) (a b c d e : T) : mP H sz [.t a, .t b, .t c, .t d, .t e] = if aK sz [a, b, c, d, e] = true then some (.t (.sl [a, b, c, d, e]), H) else none := fS H sz [a, b, c, d, e]
def Kv(a:D):Option (D×ab):=(MR a).map fun(n:Nat)=>(D.t (.int .i64 (n:Int)),H)
@[go_sem] theorem Uj (x : X) : evO call get H (.ln x) = (get x).bind (Kv H) := (rfl)
@[go_sem] theorem Qr (es : List T) : Kv H (.t (.sl es)) = some (I es.length, H) := (rfl)
@[go_sem] theorem NZ : Kv H .nil = some (I 0, H) := (rfl)
@[go_sem] theorem N0 (id ep n : Nat) : Kv H (.ref id ep n) = some (I n, H) := (rfl)
@[go_sem] theorem N1 (id ep n lo hi : Nat) : Kv H (.sub id ep n lo hi) = some (I ((hi - lo : Nat) : Int), H) := (rfl)
def Kw(ds:List D):Option (D×ab):=(I5 ds).map fun d=>(d,H)
def Kx(ds:List D):Option (D×ab):=(I6 ds).map fun d=>(d,H)
@[go_sem] theorem Uk (xs : List X) : evO call get H (.mn xs) = (az get xs).bind (Kw H) := (rfl)
@[go_sem] theorem Ul (xs : List X) : evO call get H (.mx xs) = (az get xs).bind (Kx H) := (rfl)
@[go_sem] theorem SM (k : IntKind) (a b : Int) : Kw H [.t (.int k a), .t (.int k b)] = some (.t (.int k (min a b)), H) := by
 simp only[Kw,I5,lZ,if_true,aLw];congr 4;omega
@[go_sem] theorem SN (k : IntKind) (a b : Int) : Kx H [.t (.int k a), .t (.int k b)] = some (.t (.int k (max a b)), H) := by
 simp only[Kx,I6,lZ,if_true,aLw];congr 4;omega
@[go_sem] theorem SO (k : IntKind) (a b c : Int) : Kw H [.t (.int k a), .t (.int k b), .t (.int k c)] = some (.t (.int k (min (min a b) c)), H) := by
 simp only[Kw,I5,lZ,if_true,aLw];congr 4;omega
@[go_sem] theorem SP (k : IntKind) (a b c : Int) : Kx H [.t (.int k a), .t (.int k b), .t (.int k c)] = some (.t (.int k (max (max a b) c)), H) := by
 simp only[Kx,I6,lZ,if_true,aLw];congr 4;omega
def oU(sz:Nat)(x:Option D)(lo hi:Option (Option Int)):Option (D×ab):=x.bind fun a=>lo.bind fun l=>hi.bind fun h=>(eh H a l h sz).map fun d=>(d,H)
@[go_sem] theorem Um (x : X) (lo hi : Option X) (sz : Nat) : evO call get H (.sc x lo hi sz) = oU H sz (get x) (sk get lo) (sk get hi) := (rfl)
def Ky:D→Option (Option Int)
 | .t (.int _ n)=>some (some n)
 | _=>none
@[go_sem] theorem N2 (k : IntKind) (n : Int) : Ky (.t (.int k n)) = some (some n) := (rfl)
@[go_sem] theorem Kz : sk get none = some none := (rfl)
@[go_sem] theorem KA (x : X) : sk get (some x) = (get x).bind Ky := by
 simp only[sk];cases get x with
 | none=>rfl
 | some d=>cases d with
   | t y=>cases y<;>rfl
   | _=>rfl
def Qs(i:Nat)(a:D):Option (D×ab):=(I7 i a).map fun d=>(d,H)
@[go_sem] theorem Un (x : X) (i : Nat) : evO call get H (.ex x i) = (get x).bind (Qs H i) := (rfl)
def exO:Option D→Option (D×ab)
 | some d=>some (d,H)
 | none=>none
@[go_sem] theorem N3 (d : D) : exO H (some d) = some (d, H) := (rfl)
@[go_sem] theorem N4 (i : Nat) (ds : List D) : Qs H i (.tup ds) = exO H ds[i]? := by simp only [Qs, I7, exO]; cases ds[i]? <;> rfl
def Qt(f:Nat)(ds:List D):Option (D×ab):=some (.fn f ds,H)
@[go_sem] theorem Qu (f : Nat) (ds : List D) : Qt H f ds = some (.fn f ds, H) := (rfl)
@[go_sem] theorem Uo (f : Nat) (caps : List X) : evO call get H (.mf f caps) = (az get caps).bind (Qt H f) := by simp only [evO, Qt]; cases az get caps <;> rfl
@[go_sem] theorem Up (sz : Nat) : evO call get H (.nw sz) = some (.ref H.length 0 0, H ++ [.arr sz false 0 []]) := (rfl)
def alP(p:List D×ab):Option (D×ab):=some (.bp H.length 0,H++ .box p.1::p.2)
@[go_sem] theorem SQ (cs : List D) (os : ab) : alP H (cs, os) = some (.bp H.length 0, H ++ .box cs :: os) := (rfl)
@[go_sem] theorem Uq (zero : List D) (live : List (Nat × Nat)) : evO call get H (.al zero live) = alP H (aB (H.length + 1) zero live) := (rfl)
@[go_sem] theorem CL (base : Nat) (cs : List D) : aB base cs [] = (cs, []) := (rfl)
def Qv(n:Nat)(a:D):Option (D×ab):=if a.cells.length=n∧a.b6 then some (.bp H.length 0,H++[.box a.cells])else none
@[go_sem] theorem Ur (x : X) (n : Nat) : evO call get H (.bx x n) = (get x).bind (Qv H n) := (rfl)
@[go_sem] theorem Qw (n : Nat) (a : D) : Qv H n a = if fits n a = true then some (.bp H.length 0, H ++ [.box a.cells]) else none := by
 simp[Qv,fits]
def N5(sz:Nat)(zero:D)(n:Option Nat):Option (D×ab):=n.bind fun m=>if m≤lim then some (.ref H.length 0 m,H++[.arr sz false 0 (List.replicate m zero)])else none
def mkN(sz:Nat)(zero:D):D→Option (D×ab)
 | .t (.int _ n)=>N5 H sz zero (idx n)
 | _=>none
@[go_sem] theorem Qx (sz : Nat) (zero : D) (k : IntKind) (n : Int) : mkN H sz zero (.t (.int k n)) = N5 H sz zero (idx n) := (rfl)
@[go_sem] theorem Us (len : X) (zero : D) (sz : Nat) : evO call get H (.mk len zero sz) = (get len).bind (mkN H sz zero) := by
 simp only[evO];cases get len with
 | none=>rfl
 | some d=>cases d with
   | t y=>cases y<;>rfl
   | _=>rfl
@[go_sem] theorem Qy (sz : Nat) (zero : D) (m : Nat) (h : m ≤ 4294967296) : N5 H sz zero (some m) = some (.ref H.length 0 m, H ++ [.arr sz false 0 (List.replicate m zero)]) := by
 simp[N5,lim,h]
def yy(zero:T)(n:Option Nat):Option (D×ab):=n.bind fun m=>if m≤lim then some (.t (.sl (List.replicate m zero)),H)else none
def SR(zero:T):D→Option (D×ab)
 | .t (.int _ n)=>yy H zero (idx n)
 | _=>none
@[go_sem] theorem N6 (zero : T) (k : IntKind) (n : Int) : SR H zero (.t (.int k n)) = yy H zero (idx n) := (rfl)
@[go_sem] theorem SS (len : X) (zero : T) (sz : Nat) : evO call get H (.mkt len zero sz) = (get len).bind (SR H zero) := by
 simp only[evO];cases get len with
 | none=>rfl
 | some d=>cases d with
   | t y=>cases y<;>rfl
   | _=>rfl
@[go_sem] theorem N7 (zero : T) (m : Nat) (h : m ≤ 4294967296) : yy H zero (some m) = some (.t (.sl (List.replicate m zero)), H) := by
 simp[yy,lim,h]
def yz(sz:Nat)(zero:T)(n:Option Nat):Option (D×ab):=n.bind fun m=>if m≤lim∧0<m then some (.ref H.length 0 m,H++[.arr sz false 0 (List.replicate m (.t zero))])else none
def SU(sz:Nat)(zero:T):D→Option (D×ab)
 | .t (.int _ n)=>yz H sz zero (idx n)
 | _=>none
@[go_sem] theorem N8 (sz : Nat) (zero : T) (k : IntKind) (n : Int) : SU H sz zero (.t (.int k n)) = yz H sz zero (idx n) := (rfl)
@[go_sem] theorem SV (len : X) (zero : T) (sz : Nat) : evO call get H (.mkn len zero sz) = (get len).bind (SU H sz zero) := by
 simp only[evO];cases get len with
 | none=>rfl
 | some d=>cases d with
   | t y=>cases y<;>rfl
   | _=>rfl
@[go_sem] theorem N9 (sz : Nat) (zero : T) (m : Nat) (h : m ≤ 4294967296) (h0 : 0 < m) : yz H sz zero (some m) = some (.ref H.length 0 m, H ++ [.arr sz false 0 (List.replicate m (.t zero))]) := by
 simp[yz,lim,h,h0]
def fw(sz:Nat)(fz:Bool)(x y:Option D):Option (D×ab):=x.bind fun a=>y.bind fun b=>dO H a b fz sz
@[go_sem] theorem SW (x y : X) (fz : Bool) (sz : Nat) : evO call get H (.app x y fz sz) = fw H sz fz (get x) (get y) := (rfl)
def ke(sz id ep n:Nat)(ys:List D):Option Obj→Option (D×ab)
 | some (.arr sz' pin ep' es)=>if ep=ep'∧n=es.length∧sz'=sz∧n+ys.length≤lim then some (.ref id ep (n+ys.length),H.set id (.arr sz pin ep (es++ys)))else none
 | _=>none
@[go_sem] theorem KB (sz id ep n : Nat) (ys : List D) (pin : Bool) (es : List D) :
 ke H sz id ep n ys (some (.arr sz pin ep es))=if n=es.length then(if n+ys.length≤4294967296 then some (.ref id ep (n+ys.length),H.set id (.arr sz pin ep (es++ys)))else none)else none:=by
 simp only[ke,lim]
 by_cases h1:n=es.length
 · rw[if_pos h1]
   by_cases h2:n+ys.length≤4294967296
   · rw[if_pos h2,if_pos ⟨trivial,h1,trivial,h2⟩]
   · rw[if_neg h2,if_neg fun h=>h2 h.2.2.2]
 · rw[if_neg h1,if_neg fun h=>h1 h.2.1]
theorem jd(ts:List T):az (fun d=>(frz H depth d).map D.t) (ts.map D.t)=some (ts.map D.t):=by
 induction ts with
 | nil=>rfl
 | cons t ts ih=>simp[az,frz,ih]
theorem vr(ts:List T):(ts.map D.t).flatMap (bf H depth)=[]:=by
 induction ts with
 | nil=>rfl
 | cons t ts ih=>rw[List.map_cons,List.flatMap_cons,ih];simp[bf,depth]
theorem oV(sz:Nat)(fz:Bool)(x:D)(ts:List T)(h:aE sz (ts.map D.t)=false):fw H sz fz (some x) (some (.t (.sl ts)))=none:=by
 have e1:(if fz then az (fun d=>(frz H depth d).map D.t) (ts.map D.t)else some (ts.map D.t))=some (ts.map D.t):=by
  cases fz<;>simp[jd]
 simp only[fw,aLq,dO,elems,e1,h,aLt,if_false]
def eD(sz:Nat)(ts:List T):Bool:=aE sz (ts.map D.t)
theorem vt(sz id ep n:Nat)(fz:Bool)(ts:List T)(h:eD sz ts=true):fw H sz fz (some (.ref id ep n)) (some (.t (.sl ts)))=ke H sz id ep n (ts.map .t) H[id]?:=by
 have e1:(if fz then az (fun d=>(frz H depth d).map D.t) (ts.map D.t)else some (ts.map D.t))=some (ts.map D.t):=by
  cases fz<;>simp[jd]
 have e2:(if fz then pins H ((ts.map D.t).flatMap (bf H depth))else H)=H:=by
  cases fz
  · rfl
  · simp only[if_true];rw[vr];rfl
 unfold eD at h
 simp only[fw,aLq,dO,elems,e1,h,if_true,e2,bE]
 generalize H[id]?=o
 rcases o with _ | (_ | ⟨sz',pin,ep',es⟩)
 · rfl
 · rfl
 · simp only[ke]
   by_cases h1:ep=ep'∧n=es.length
   · rw[if_pos h1,aLq]
     by_cases h2:sz'=sz∧n+(ts.map D.t).length≤lim
     · rw[if_pos h2,if_pos ⟨h1.1,h1.2,h2⟩]
     · rw[if_neg h2,if_neg fun h=>h2 h.2.2]
   · rw[if_neg h1,if_neg fun h=>h1 ⟨h.1,h.2.1⟩];rfl
@[go_sem] theorem KC (sz id ep n : Nat) (fz : Bool) (ts : List T) : fw H sz fz (some (.ref id ep n)) (some (.t (.sl ts))) = if eD sz ts = true then ke H sz id ep n (ts.map .t) H[id]? else none := by
 by_cases h:eD sz ts=true
 · rw[if_pos h,vt H sz id ep n fz ts h]
 · rw[if_neg h];exact oV H sz fz _ ts (by simpa [eD]using h)
@[go_sem] theorem KD (sz : Nat) (fz : Bool) (ts : List T) : fw H sz fz (some .nil) (some (.t (.sl ts))) =
 if eD sz ts=true then(if ts.length≤4294967296 then some (.ref H.length 0 ts.length,H++[.arr sz false 0 (ts.map .t)])else none)else none:=by
 by_cases h:eD sz ts=true
 · rw[if_pos h]
   have e1:(if fz then az (fun d=>(frz H depth d).map D.t) (ts.map D.t)else some (ts.map D.t))=some (ts.map D.t):=by
    cases fz<;>simp[jd]
   have e2:(if fz then pins H ((ts.map D.t).flatMap (bf H depth))else H)=H:=by
    cases fz
    · rfl
    · simp only[if_true];rw[vr];rfl
   unfold eD at h
   simp only[fw,aLq,dO,elems,e1,h,if_true,e2,lim,List.length_map]
 · rw[if_neg h];exact oV H sz fz _ ts (by simpa [eD]using h)
@[go_sem] theorem KE (sz : Nat) : eD sz [] = true := (rfl)
@[go_sem] theorem GH (sz : Nat) (x : T) (r : List T) : eD sz (x :: r) = eC sz x.cells := by
 rw[Bool.eq_iff_iff,bA];simp[eD,aE,D.cells]
@[go_sem] theorem KF (l : List Int) (k : IntKind) : eD 1 (l.map (.int k)) = true := by cases l <;> rfl
@[go_sem] theorem GJ (l : List Bool) : eD 1 (l.map .bool) = true := by cases l <;> rfl
@[go_sem] theorem Oa (l : List (List T)) : eD 1 (l.map .sl) = true := by cases l <;> rfl
def vu(call:ai)(f raw:Nat)(keep:List Nat)(ds:List D):Option (D×ab):=iG call H f raw keep ds
@[go_sem] theorem Ut (f raw : Nat) (keep : List Nat) (xs : List X) : evO call get H (.ca f raw keep xs) = (az get xs).bind (vu H call f raw keep) := (rfl)
def SX(call:ai)(raw:Nat)(keep:List Nat)(x:Option D)(xs:Option (List D)):Option (D×ab):=x.bind fun
 | .fn f caps=>xs.bind fun ds=>iG call H f raw keep (ds++caps)
 | _=>none
@[go_sem] theorem Uu (x : X) (raw : Nat) (keep : List Nat) (xs : List X) : evO call get H (.cw x raw keep xs) = SX H call raw keep (get x) (az get xs) := (rfl)
@[go_sem] theorem Qz (raw : Nat) (keep : List Nat) (f : Nat) (caps ds : List D) : SX H call raw keep (some (.fn f caps)) (some ds) = vu H call f raw keep (ds ++ caps) := (rfl)
def dJ(H:ab):List D→Option (List T)
 | []=>some []
 | .t x::r=>c7 x (dJ H r)
 | .nil::r=>c7 (.sl []) (dJ H r)
 | _::_=>none
@[go_sem] theorem QA : dJ H [] = some [] := (rfl)
@[go_sem] theorem QB (x : T) (r : List D) : dJ H (.t x :: r) = c7 x (dJ H r) := (rfl)
@[go_sem] theorem KG (r : List D) : dJ H (.nil :: r) = c7 (.sl []) (dJ H r) := (rfl)
@[go_sem] theorem KH (cs : List D) (r : List D) : dJ H (.agg cs :: r) = none := (rfl)
@[go_sem] theorem Ob (a b : Nat) (r : List D) : dJ H (.bp a b :: r) = none := (rfl)
@[go_sem] theorem KI (a b c : Nat) (r : List D) : dJ H (.ref a b c :: r) = none := (rfl)
@[go_sem] theorem KJ (a b c d e : Nat) (r : List D) : dJ H (.sub a b c d e :: r) = none := (rfl)
@[go_sem] theorem Oc (f : Nat) (cs : List D) (r : List D) : dJ H (.fn f cs :: r) = none := (rfl)
@[go_sem] theorem Od (a b c d e : Nat) (r : List D) : dJ H (.ap a b c d e :: r) = none := (rfl)
@[go_sem] theorem Oe (cs : List T) (r : List D) : dJ H (.ep cs :: r) = none := (rfl)
@[go_sem] theorem GK (r : List D) : dJ H (.nilp :: r) = none := (rfl)
@[go_sem] theorem KK (r : List D) : dJ H (.und :: r) = none := (rfl)
end
theorem ik(H:ab):∀ {ds:List D} {ts:List T},dJ H ds=some ts→∀i,gC H [] i ds=some (ts.map .t)∧aV H [] i ds=[]
 | [],ts,h,i=>by simp[dJ]at h;subst h;exact⟨rfl,rfl⟩
 | d::r,ts,h,i=>by
   cases d with
   | t x=>
     simp only[dJ,c7,aLb]at h
     obtain⟨l,hl,rfl⟩:=h
     obtain⟨h1,h2⟩:=ik H hl (i+1)
     exact⟨by simp[gC,gB,h1],by simp[aV,bf,depth,h2]⟩
   | nil=>
     simp only[dJ,c7,aLb]at h
     obtain⟨l,hl,rfl⟩:=h
     obtain⟨h1,h2⟩:=ik H hl (i+1)
     exact⟨by simp[gC,gB,h1],by simp[aV,bf,depth,h2]⟩
   | _=>simp[dJ]at h
theorem vv(ts:List T)(n:Nat):(ts.map D.t).flatMap (ids n)=[]:=by
 induction ts with
 | nil=>rfl
 | cons t ts ih=>rw[List.map_cons,List.flatMap_cons,ih];simp[ids]
theorem fx(f:Nat→Option Nat)(ts:List T):az (ren f depth) (ts.map .t)=some (ts.map .t):=by
 induction ts with
 | nil=>rfl
 | cons t ts ih=>simp[az,ren,depth]at ih ⊢;exact ih
def sL:D→Bool
 | .t _=>true
 | .tup ds=>ds.all fun | .t _=>true | _=>false
 | _=>false
theorem yA{f:Nat→Option Nat}{d:D}(h:sL d=true):ren f depth d=some d:=by
 cases d with
 | t x=>rfl
 | tup ds=>
   simp only[sL]at h
   have:az (ren f 7) ds=some ds:=by
    induction ds with
    | nil=>rfl
    | cons d ds ih=>
      simp only[List.all_cons,aLr]at h
      cases d with
      | t x=>simp[az,ren,ih h.2]
      | _=>simp at h
   simp[ren,depth,this]
 | _=>simp[sL]at h
def lK(H:ab)(p:D×ab):Option (D×ab):=if sL p.1&&p.2.isEmpty then some (p.1,H)else
 (ren (aJ [] H.length) depth p.1).bind fun r'=>(az (aN (aJ [] H.length)) p.2).map fun os=>(r',H++os)
@[go_sem] theorem QC (H : ab) (x : T) : lK H (.t x, []) = some (.t x, H) := (rfl)
@[go_sem] theorem QD (H : ab) : lK H (.tup [], []) = some (.tup [], H) := (rfl)
@[go_sem] theorem QE (H : ab) (x y : T) : lK H (.tup [.t x, .t y], []) = some (.tup [.t x, .t y], H) := (rfl)
@[go_sem] theorem QF (H : ab) (x y z : T) : lK H (.tup [.t x, .t y, .t z], []) = some (.tup [.t x, .t y, .t z], H) := (rfl)
@[go_sem] theorem QG (H : ab) (x y z u : T) : lK H (.tup [.t x, .t y, .t z, .t u], []) = some (.tup [.t x, .t y, .t z, .t u], H) := (rfl)
theorem vw(H:ab)(call:ai)(f raw:Nat)(ds:List D)(ts:List T)(h:dJ H ds=some ts):
 vu H call f raw [] ds=(call raw f (ts.map .t) []).bind (lK H):=by
 obtain⟨h1,h2⟩:=ik H h 0
 simp only[vu,iG,h1,aLq,vv,aS,reach,cT,List.flatMap_nil,h2,pins,fx,pick,az]
 cases hc:call raw f (ts.map .t) []with
 | none=>rfl
 | some p=>
   obtain⟨d,os⟩:=p
   simp only[aLq,List.isEmpty_nil,Bool.true_and,lK]
   by_cases h3:os=[]
   · subst h3
     simp only[List.isEmpty_nil,Bool.true_and,Bool.and_true,az,aLw,List.length_nil,List.take_nil,ay,List.drop_nil,List.append_nil]
     by_cases h4:sL d=true
     · rw[if_pos h4]
       split
       · rfl
       · rw[yA h4];rfl
     · rw[if_neg h4]
       split
       · rename_i h5
         exfalso
         apply h4
         cases d with
         | t x=>rfl
         | tup ds=>
           simp only[fe,aLx]at h5
           simp only[sL,aLx]
           intro y hy
           have:=h5 y hy
           cases y<;>simp_all [cU]
         | _=>simp[fe]at h5
       · rfl
   · have:os.isEmpty=false:=by cases os<;>simp_all
     simp only[this,Bool.false_and,Bool.and_false,if_false,aLt,List.length_nil,List.take_zero,ay,List.drop_zero]
@[go_sem] theorem GL (st : St) : cq st [] = some [] := (rfl)
def SY(st:St)(r:List (Nat×Option (Nat×Bool)))(d:D):Option (List D):=c7 d (cq st r)
@[go_sem] theorem QH (vs : List D) (H : ab) (r : List (Nat × Option (Nat × Bool))) (d : D) : SY ⟨vs, H⟩ r d = c7 d (cq ⟨vs, H⟩ r) := (rfl)
@[go_sem] theorem GM (vs : List D) (H : ab) (j : Nat) (r : List (Nat × Option (Nat × Bool))) : cq ⟨vs, H⟩ ((j, none) :: r) = vs[j]?.bind (SY ⟨vs, H⟩ r) := (rfl)
def QI(st:St)(r:List (Nat×Option (Nat×Bool)))(p:D×ab):Option (List D):=c7 p.1 (cq st r)
@[go_sem] theorem QJ (vs : List D) (H : ab) (r : List (Nat × Option (Nat × Bool))) (d : D) (H' : ab) : QI ⟨vs, H⟩ r (d, H') = c7 d (cq ⟨vs, H⟩ r) := (rfl)
def QK(st:St)(n:Nat)(agg:Bool)(r:List (Nat×Option (Nat×Bool)))(p:D):Option (List D):=(xj st.H n agg p).bind (QI st r)
@[go_sem] theorem QL (vs : List D) (H : ab) (n : Nat) (agg : Bool) (r : List (Nat × Option (Nat × Bool))) (p : D) : QK ⟨vs, H⟩ n agg r p = (xj H n agg p).bind (QI ⟨vs, H⟩ r) := (rfl)
@[go_sem] theorem CM (vs : List D) (H : ab) (j n : Nat) (agg : Bool) (r : List (Nat × Option (Nat × Bool))) : cq ⟨vs, H⟩ ((j, some (n, agg)) :: r) = vs[j]?.bind (QK ⟨vs, H⟩ n agg r) := by
 simp only[cq]
 cases vs[j]? with
 | none=>rfl
 | some p=>
   simp only[aLq,QK,xj]
   cases jt H p n agg<;>rfl
@[go_sem] theorem QM (H : ab) (n : Nat) (x : T) : frz H n (.t x) = some x := by cases n <;> rfl
@[go_sem] theorem QN (H : ab) (n : Nat) : frz H n .nil = some (.sl []) := by cases n <;> rfl
@[go_sem] theorem QO (H : ab) (n : Nat) (cs : List D) : frz H (n + 1) (.agg cs) = (az (frz H n) cs).map .agg := (rfl)
@[go_sem] theorem sM (H : ab) (n : Nat) (ts : List T) : az (frz H n) (ts.map .t) = some ts := by
 induction ts with
 | nil=>rfl
 | cons t ts ih=>simp[az,QM,ih]
def frA(H:ab)(n ep m lo hi:Nat):Option Obj→Option T
 | some (.arr _ _ ep' es)=>if ep=ep'∧m=es.length then(az (frz H n) ((es.drop lo).take (hi-lo))).map .sl else none
 | _=>none
def frR(H:ab)(n ep m:Nat):Option Obj→Option T
 | some (.arr _ _ ep' es)=>if ep=ep'∧m=es.length then(az (frz H n) es).map .sl else none
 | _=>none
@[go_sem] theorem QP (H : ab) (n id ep m : Nat) : frz H (n + 1) (.ref id ep m) = frR H n ep m H[id]? := by
 simp only[frz,bE]
 generalize H[id]?=o
 rcases o with _ | (_ | ⟨sz',pin,ep',es⟩)
 · rfl
 · rfl
 · simp only[frR]
   by_cases h:ep=ep'∧m=es.length
   · rw[if_pos h,if_pos h];rfl
   · rw[if_neg h,if_neg h];rfl
@[go_sem] theorem QQ (H : ab) (n id ep m lo hi : Nat) : frz H (n + 1) (.sub id ep m lo hi) = frA H n ep m lo hi H[id]? := by
 simp only[frz,bE]
 generalize H[id]?=o
 rcases o with _ | (_ | ⟨sz',pin,ep',es⟩)
 · rfl
 · rfl
 · simp only[frA]
   by_cases h:ep=ep'∧m=es.length
   · rw[if_pos h,if_pos h];rfl
   · rw[if_neg h,if_neg h];rfl
@[go_sem] theorem QR (H : ab) (n ep m sz : Nat) (pin : Bool) (es : List D) : frR H n ep m (some (.arr sz pin ep es)) = if m = es.length then (az (frz H n) es).map .sl else none := by simp [frR]
@[go_sem] theorem QS (H : ab) (n ep m lo hi sz : Nat) (pin : Bool) (es : List D) : frA H n ep m lo hi (some (.arr sz pin ep es)) = if m = es.length then (az (frz H n) ((es.drop lo).take (hi - lo))).map .sl else none := by simp [frA]
@[go_sem] theorem SZ (H : ab) (x : T) : gB H (.t x) = some (.t x) := (rfl)
@[go_sem] theorem Of (H : ab) : gB H .nil = some (.t (.sl [])) := (rfl)
@[go_sem] theorem Og (H : ab) (cs : List D) : gB H (.agg cs) = (frz H 8 (.agg cs)).map .t := (rfl)
@[go_sem] theorem Oh (H : ab) (id ep n : Nat) : gB H (.ref id ep n) = (frz H 8 (.ref id ep n)).map .t := (rfl)
@[go_sem] theorem Oi (H : ab) (id ep n lo hi : Nat) : gB H (.sub id ep n lo hi) = (frz H 8 (.sub id ep n lo hi)).map .t := (rfl)
@[go_sem] theorem QT (H : ab) (id off : Nat) : gB H (.bp id off) = some (.bp id off) := (rfl)
@[go_sem] theorem QU (H : ab) (id ep n i off : Nat) : gB H (.ap id ep n i off) = some (.ap id ep n i off) := (rfl)
@[go_sem] theorem QV (H : ab) (cs : List T) : gB H (.ep cs) = some (.ep cs) := (rfl)
@[go_sem] theorem QW (H : ab) (f : Nat) (cs : List D) : gB H (.fn f cs) = some (.fn f cs) := (rfl)
def ltB:Nat→Nat→Bool
 | _,0=>false
 | 0,_+1=>true
 | m+1,n+1=>ltB m n
@[go_sem] theorem Uv (m : Nat) : ltB m 0 = false := by cases m <;> rfl
@[go_sem] theorem S0 (n : Nat) : ltB 0 (n + 1) = true := (rfl)
@[go_sem] theorem S1 (m n : Nat) : ltB (m + 1) (n + 1) = ltB m n := (rfl)
theorem cn:∀ {m n:Nat},ltB m n=decide (m<n)
 | m,0=>by cases m<;>simp[ltB]
 | 0,n+1=>by simp[ltB]
 | m+1,n+1=>by simp[ltB,cn (m:=m) (n:=n)]
def eqB:Nat→Nat→Bool
 | 0,0=>true
 | m+1,n+1=>eqB m n
 | _,_=>false
@[go_sem] theorem S3 : eqB 0 0 = true := (rfl)
@[go_sem] theorem S4 (n : Nat) : eqB 0 (n + 1) = false := (rfl)
@[go_sem] theorem S5 (n : Nat) : eqB (n + 1) 0 = false := (rfl)
@[go_sem] theorem S6 (m n : Nat) : eqB (m + 1) (n + 1) = eqB m n := (rfl)
theorem qa:∀ {m n:Nat},eqB m n=decide (m=n)
 | 0,0=>rfl
 | 0,n+1=>rfl
 | m+1,0=>rfl
 | m+1,n+1=>by simp[eqB,qa (m:=m) (n:=n)]
section
variable (k n : Nat)
@[go_sem] theorem QX (x : T) : old k n (.t x) = true := by cases n <;> rfl
@[go_sem] theorem QY : old k n .nil = true := by cases n <;> rfl
@[go_sem] theorem S7 (cs : List T) : old k n (.ep cs) = true := by cases n <;> rfl
@[go_sem] theorem Oj : old k n .nilp = true := by cases n <;> rfl
@[go_sem] theorem QZ : old k n .und = true := by cases n <;> rfl
@[go_sem] theorem KL (id off : Nat) : old k n (.bp id off) = ltB id k := by cases n <;> simp [old, cn]
@[go_sem] theorem S8 (id ep m i off : Nat) : old k n (.ap id ep m i off) = ltB id k := by cases n <;> simp [old, cn]
@[go_sem] theorem Q0 (id ep m : Nat) : old k n (.ref id ep m) = ltB id k := by cases n <;> simp [old, cn]
@[go_sem] theorem Q1 (id ep m lo hi : Nat) : old k n (.sub id ep m lo hi) = ltB id k := by cases n <;> simp [old, cn]
def bL(n:Nat)(cs:List D):Bool:=cs.all (old k n)
@[go_sem] theorem GN : bL k n [] = true := (rfl)
@[go_sem] theorem qb (d : D) (r : List D) : bL k n (d :: r) = (old k n d && bL k n r) := (rfl)
@[go_sem] theorem rf (ts : List T) : bL k n (ts.map .t) = true := by
 induction ts with
 | nil=>rfl
 | cons t ts ih=>rw[List.map_cons,qb,QX,ih];rfl
@[go_sem] theorem GO (m : Nat) (x : T) : bL k n (List.replicate m (.t x)) = true := by
 have:List.replicate m (D.t x)=(List.replicate m x).map .t:=by simp
 rw[this,rf]
@[go_sem] theorem GP (a b : List D) : bL k n (a ++ b) = (bL k n a && bL k n b) := by simp [bL]
@[go_sem] theorem Q2 (cs : List D) : old k (n + 1) (.agg cs) = bL k n cs := (rfl)
@[go_sem] theorem Q3 (cs : List D) : old k (n + 1) (.tup cs) = bL k n cs := (rfl)
@[go_sem] theorem S9 (f : Nat) (cs : List D) : old k (n + 1) (.fn f cs) = bL k n cs := (rfl)
end
def br(k:Nat):ab→Bool
 | []=>true
 | .box cs::r=>bL k 8 cs&&br k r
 | .arr _ _ _ es::r=>bL k 8 es&&br k r
@[go_sem] theorem CN (k : Nat) : br k [] = true := (rfl)
@[go_sem] theorem CO (k : Nat) (cs : List D) (r : ab) : br k (.box cs :: r) = (bL k 8 cs && br k r) := (rfl)
@[go_sem] theorem CP (k sz ep : Nat) (pin : Bool) (es : List D) (r : ab) : br k (.arr sz pin ep es :: r) = (bL k 8 es && br k r) := (rfl)
theorem c8(k:Nat)(H:ab):H.all (fun o=>o.ds.all (old k depth))=br k H:=by
 induction H with
 | nil=>rfl
 | cons o r ih=>rw[List.all_cons,ih];cases o<;>rfl
def CQ(d:D)(b:Bool):D:=if b then d else .und
@[go_sem] theorem GQ (d : D) : CQ d true = d := (rfl)
@[go_sem] theorem CR (d : D) : CQ d false = .und := (rfl)
@[go_sem] theorem Q4 (k : Nat) (d : D) : kill k d = CQ d (old k 8 d) := (rfl)
def sN(k:Nat):List D→List D
 | []=>[]
 | d::r=>kill k d::sN k r
@[go_sem] theorem KM (k : Nat) : sN k [] = [] := (rfl)
@[go_sem] theorem GR (k : Nat) (d : D) (r : List D) : sN k (d :: r) = kill k d :: sN k r := (rfl)
theorem yB(k:Nat)(vs:List D):vs.map (kill k)=sN k vs:=by
 induction vs with
 | nil=>rfl
 | cons d r ih=>rw[List.map_cons,ih];rfl
@[go_sem] theorem Ol (k : Nat) (vs : List D) (H : ab) : sm k ⟨vs, H⟩ = if br k (H.take k) = true then some ⟨sN k vs, H.take k⟩ else none := by
 simp only[sm,c8,yB]
@[go_sem] theorem CS (H : ab) (n : Nat) (x : T) : bf H n (.t x) = [] := by cases n <;> rfl
@[go_sem] theorem Om (H : ab) (n : Nat) : bf H n .nil = [] := by cases n <;> rfl
@[go_sem] theorem Q5 (H : ab) (n id off : Nat) : bf H n (.bp id off) = [] := by cases n <;> rfl
@[go_sem] theorem Q6 (H : ab) (n f : Nat) (cs : List D) : bf H n (.fn f cs) = [] := by cases n <;> rfl
@[go_sem] theorem Q7 (H : ab) (n : Nat) (cs : List T) : bf H n (.ep cs) = [] := by cases n <;> rfl
@[go_sem] theorem Q8 (H : ab) (n a b c d e : Nat) : bf H n (.ap a b c d e) = [] := by cases n <;> rfl
def gF(H:ab)(n:Nat)(cs:List D):List Nat:=cs.flatMap (bf H n)
@[go_sem] theorem KN (H : ab) (n : Nat) : gF H n [] = [] := (rfl)
@[go_sem] theorem sO (H : ab) (n : Nat) (d : D) (r : List D) : gF H n (d :: r) = bf H n d ++ gF H n r := (rfl)
@[go_sem] theorem Q9 (H : ab) (n : Nat) (ts : List T) : gF H n (ts.map .t) = [] := by
 induction ts with
 | nil=>rfl
 | cons t ts ih=>rw[List.map_cons,sO,ih,CS];rfl
@[go_sem] theorem KO (H : ab) (n : Nat) (a b : List D) : gF H n (a ++ b) = gF H n a ++ gF H n b := by simp [gF]
@[go_sem] theorem On (H : ab) (n : Nat) (cs : List D) : bf H (n + 1) (.agg cs) = gF H n cs := (rfl)
def CT(H:ab)(n:Nat):Option Obj→List Nat
 | some (.arr _ _ _ es)=>gF H n es
 | _=>[]
@[go_sem] theorem KP (H : ab) (n sz ep : Nat) (pin : Bool) (es : List D) : CT H n (some (.arr sz pin ep es)) = gF H n es := (rfl)
@[go_sem] theorem Oo (H : ab) (n id ep m : Nat) : bf H (n + 1) (.ref id ep m) = id :: CT H n H[id]? := (rfl)
@[go_sem] theorem Oq (H : ab) (n id ep m lo hi : Nat) : bf H (n + 1) (.sub id ep m lo hi) = id :: CT H n H[id]? := (rfl)
@[go_sem] theorem Ra : iI [] = .tup [] := (rfl)
@[go_sem] theorem Rb (d : D) : iI [d] = d := (rfl)
@[go_sem] theorem Rc (a b : D) (r : List D) : iI (a :: b :: r) = .tup (a :: b :: r) := (rfl)
def oW(k:Nat):List Nat→Bool
 | []=>true
 | i::r=> !ltB i k&&oW k r
@[go_sem] theorem KQ (k : Nat) : oW k [] = true := (rfl)
@[go_sem] theorem GS (k i : Nat) (r : List Nat) : oW k (i :: r) = (!ltB i k && oW k r) := (rfl)
theorem rh(k:Nat)(l:List Nat):l.all (fun i=>decide (k≤i))=oW k l:=by
 induction l with
 | nil=>rfl
 | cons i r ih=>
   rw[List.all_cons,ih]
   simp only[oW,cn]
   congr 1
   rw[Bool.eq_iff_iff];simp
def Ot(k raw:Nat)(H:ab)(ds rs:List D):Option (D×ab):=
 (de H (max raw 1) (List.range k) (rs.flatMap (ids depth)++cT H (List.range k))).bind fun q=>
  if(bZ H raw ds).all (fun i=> !(List.range k++q.1).contains i)then
   (az (ren (idxOf (List.range k++q.1)) depth) rs).bind fun rs'=>
    (az (aN (idxOf (List.range k++q.1))) (H.take k++q.2)).map fun hs'=>(iI rs',hs')
  else none
def GU(k raw:Nat)(H:ab)(ds rs:List D)(b:Bool):Option (D×ab):=
 if b then(if oW k (bZ H raw ds)=true then some (iI rs,H.take k)else none)else Ot k raw H ds rs
@[go_sem] theorem KR (k raw : Nat) (H : ab) (ds rs : List D) : GU k raw H ds rs true = if oW k (bZ H raw ds) = true then some (iI rs, H.take k) else none := (rfl)
def KS(k raw:Nat)(H:ab)(ds rs:List D):Option (D×ab):=GU k raw H ds rs (bL k 8 rs&&br k (H.take k))
@[go_sem] theorem Re (k raw : Nat) (H : ab) (ds rs : List D) : KS k raw H ds rs = GU k raw H ds rs (bL k 8 rs && br k (H.take k)) := (rfl)
@[go_sem] theorem KT (k : Nat) (H : ab) (ds : List D) : finish k 0 H ds = (az (gB H) ds).bind (KS k 0 H ds) := by
 simp only[finish,if_true,c8,rh]
 cases az (gB H) ds with
 | none=>rfl
 | some rs=>
   simp only[aLq,KS,GU]
   show(if(bL k 8 rs&&br k (H.take k))=true then _ else _)=_
   cases (bL k 8 rs&&br k (H.take k))<;>rfl
@[go_sem] theorem KU (H : ab) (ds : List D) : bZ H 0 ds = gF H 8 ds := (rfl)
@[go_sem] theorem KV (vs : List D) : dX [] vs = vs := (rfl)
@[go_sem] theorem GV (i : Nat) (r : List Nat) (vs : List D) : dX (i :: r) vs = dX r (vs.set i .und) := (rfl)
@[go_sem] theorem Rf (dead : List Nat) (k : Nat) (vs : List D) (H : ab) : tidy false dead k ⟨vs, H⟩ = some ⟨dX dead vs, H⟩ := (rfl)
@[go_sem] theorem Rg (dead : List Nat) (k : Nat) (vs : List D) (H : ab) : tidy true dead k ⟨vs, H⟩ = sm k ⟨dX dead vs, H⟩ := (rfl)
section
variable (H : ab) (call : ai) (f raw : Nat) (keep : List Nat) (ds : List D)
def oX(H1:ab)(n:Nat)(sel:List Nat)(p:D×ab):Option (D×ab):=
 (ren (aJ sel n) depth p.1).bind fun r'=>(az (aN (aJ sel n)) p.2).map fun os=>(r',ay H1 sel (os.take sel.length)++os.drop sel.length)
def eT(H1:ab)(sel:List Nat)(p:D×ab):Option (D×ab):=
 if sel.isEmpty&&p.2.isEmpty&&fe p.1 then some (p.1,H)else oX H1 H.length sel p
def CU(args:List D)(H1:ab)(sel:List Nat)(hs:ab):Option (D×ab):=(call raw f args hs).bind (eT H H1 sel)
def CV(args:List D)(H1:ab)(sel:List Nat)(hs:ab):Option (D×ab):=(az (aN (idxOf sel)) hs).bind (CU H call f raw args H1 sel)
def CW(H1:ab)(sel:List Nat)(args:List D):Option (D×ab):=(pick H1 sel).bind (CV H call f raw args H1 sel)
def CY(args:List D)(sel:List Nat):Option (D×ab):=(az (ren (idxOf sel) depth) args).bind (CW H call f raw (pins H (aV H keep 0 ds)) sel)
def lY(n:Nat)(cs:List D):List Nat:=cs.flatMap (ids n)
def CZ(args:List D):Option (D×ab):=CY H call f raw keep ds args (reach H 3 (aS [] (lY 8 args)))
def vz:Option (D×ab):=(gC H keep 0 ds).bind (CZ H call f raw keep ds)
theorem yC:vu H call f raw keep ds=vz H call f raw keep ds:=(rfl)
@[go_sem] theorem yD : vz H call f raw keep ds = (gC H keep 0 ds).bind (CZ H call f raw keep ds) := (rfl)
@[go_sem] theorem yE (args : List D) : CZ H call f raw keep ds args = CY H call f raw keep ds args (reach H 3 (aS [] (lY 8 args))) := (rfl)
@[go_sem] theorem yF (args : List D) (sel : List Nat) : CY H call f raw keep ds args sel = (az (ren (idxOf sel) 8) args).bind (CW H call f raw (pins H (aV H keep 0 ds)) sel) := (rfl)
@[go_sem] theorem yG (H1 : ab) (sel : List Nat) (args : List D) : CW H call f raw H1 sel args = (pick H1 sel).bind (CV H call f raw args H1 sel) := (rfl)
@[go_sem] theorem yH (args : List D) (H1 : ab) (sel : List Nat) (hs : ab) : CV H call f raw args H1 sel hs = (az (aN (idxOf sel)) hs).bind (CU H call f raw args H1 sel) := (rfl)
@[go_sem] theorem yI (args : List D) (H1 : ab) (sel : List Nat) (hs : ab) : CU H call f raw args H1 sel hs = (call raw f args hs).bind (eT H H1 sel) := (rfl)
def C0(H1:ab)(sel:List Nat)(r:D)(os:ab):Option (D×ab):=some (r,ay H1 sel (os.take sel.length)++os.drop sel.length)
@[go_sem] theorem Ou (H1 : ab) (sel : List Nat) (r : D) (os : ab) : C0 H1 sel r os = some (r, ay H1 sel (os.take sel.length) ++ os.drop sel.length) := (rfl)
def C1(H1:ab)(n:Nat)(sel:List Nat)(os:ab)(r:D):Option (D×ab):=(az (aN (aJ sel n)) os).bind (C0 H1 sel r)
@[go_sem] theorem Ov (H1 : ab) (n : Nat) (sel : List Nat) (os : ab) (r : D) : C1 H1 n sel os r = (az (aN (aJ sel n)) os).bind (C0 H1 sel r) := (rfl)
@[go_sem] theorem Ow (H1 : ab) (n : Nat) (sel : List Nat) (r : D) (os : ab) : oX H1 n sel (r, os) = (ren (aJ sel n) 8 r).bind (C1 H1 n sel os) := by
 simp only[oX,depth]
 cases ren (aJ sel n) 8 r with
 | none=>rfl
 | some r'=>simp only[aLq,C1];cases az (aN (aJ sel n)) os<;>rfl
@[go_sem] theorem KW (H1 : ab) (i : Nat) (sel : List Nat) (p : D × ab) : eT H H1 (i :: sel) p = oX H1 H.length (i :: sel) p := (rfl)
@[go_sem] theorem Ox (H1 : ab) (sel : List Nat) (r : D) (o : Obj) (os : ab) : eT H H1 sel (r, o :: os) = oX H1 H.length sel (r, o :: os) := by
 simp[eT]
@[go_sem] theorem Rh (H1 : ab) (k : IntKind) (n : Int) : eT H H1 [] (.t (.int k n), []) = some (.t (.int k n), H) := (rfl)
@[go_sem] theorem Ri (H1 : ab) (b : Bool) : eT H H1 [] (.t (.bool b), []) = some (.t (.bool b), H) := (rfl)
@[go_sem] theorem Oy (H1 : ab) (es : List T) : eT H H1 [] (.t (.sl es), []) = some (.t (.sl es), H1) := by simp [eT, oX, fe, T.scalar, ren, depth, az, ay]
@[go_sem] theorem KX (H1 : ab) (es : List T) : eT H H1 [] (.t (.agg es), []) = some (.t (.agg es), H1) := by simp [eT, oX, fe, T.scalar, ren, depth, az, ay]
@[go_sem] theorem KY (H1 : ab) (ds : List D) : eT H H1 [] (.tup ds, []) = if ds.all cU then some (.tup ds, H) else oX H1 H.length [] (.tup ds, []) := by
 simp[eT,fe]
def C2:Option (List T)→Option (D×ab)
 | some ts=>(call raw f (ts.map .t) []).bind (lK H)
 | none=>vz H call f raw [] ds
@[go_sem] theorem GW (ts : List T) : C2 H call f raw ds (some ts) = (call raw f (ts.map .t) []).bind (lK H) := (rfl)
@[go_sem] theorem GX : C2 H call f raw ds none = vz H call f raw [] ds := (rfl)
@[go_sem] theorem Rj : vu H call f raw [] ds = C2 H call f raw ds (dJ H ds) := by
 cases h:dJ H ds with
 | none=>rfl
 | some ts=>exact vw H call f raw ds ts h
@[go_sem] theorem Ta (k : Nat) : vu H call f raw (k :: keep) ds = vz H call f raw (k :: keep) ds := (rfl)
end
section
variable (H : ab) (keep : List Nat)
@[go_sem] theorem KZ (i : Nat) : gC H keep i [] = some [] := (rfl)
def ri(i:Nat):List Nat→Bool
 | []=>false
 | j::r=>eqB i j||ri i r
@[go_sem] theorem Oz (i : Nat) : ri i [] = false := (rfl)
@[go_sem] theorem K0 (i j : Nat) (r : List Nat) : ri i (j :: r) = (eqB i j || ri i r) := (rfl)
theorem nE(i:Nat)(l:List Nat):l.contains i=ri i l:=by
 induction l with
 | nil=>rfl
 | cons j r ih=>rw[List.contains_cons,ih];simp only[ri,qa];rw[beq_eq_decide_nat]
where beq_eq_decide_nat {a b:Nat}:(a==b)=decide (a=b):=by rw[Bool.eq_iff_iff];simp
def Rk(d:D):Bool→Option D
 | true=>some d
 | false=>gB H d
@[go_sem] theorem Tc (d : D) : Rk H d true = some d := (rfl)
@[go_sem] theorem Td (d : D) : Rk H d false = gB H d := (rfl)
def Te(i:Nat)(r:List D)(x:D):Option (List D):=c7 x (gC H keep (i+1) r)
@[go_sem] theorem Rl (i : Nat) (r : List D) (x : D) : Te H keep i r x = c7 x (gC H keep (i + 1) r) := (rfl)
@[go_sem] theorem GY (i : Nat) (d : D) (r : List D) : gC H keep i (d :: r) = (Rk H d (ri i keep)).bind (Te H keep i r) := by
 simp only[gC,nE]
 cases ri i keep<;>rfl
@[go_sem] theorem xk (i : Nat) : aV H keep i [] = [] := (rfl)
def frK(l:List Nat):Bool→List Nat
 | true=>[]
 | false=>l
@[go_sem] theorem Uw (l : List Nat) : frK l true = [] := (rfl)
@[go_sem] theorem Ux (l : List Nat) : frK l false = l := (rfl)
@[go_sem] theorem vA (i : Nat) (d : D) (r : List D) : aV H keep i (d :: r) = frK (bf H 8 d) (ri i keep) ++ aV H keep (i + 1) r := by
 simp only[aV,nE]
 cases ri i keep<;>rfl
@[go_sem] theorem OA (H : ab) : pins H [] = H := (rfl)
@[go_sem] theorem K5 (H : ab) (i : Nat) (r : List Nat) : pins H (i :: r) = pins (H.modify i qH) r := (rfl)
def sP(i:Nat):Option Obj→ab
 | some (.arr sz _ ep es)=>H.set i (.arr sz true ep es)
 | _=>H
@[go_sem] theorem K6 (i : Nat) (cs : List D) : sP H i (some (.box cs)) = H := (rfl)
@[go_sem] theorem K7 (i sz ep : Nat) (pin : Bool) (es : List D) : sP H i (some (.arr sz pin ep es)) = H.set i (.arr sz true ep es) := (rfl)
@[go_sem] theorem GZ (i : Nat) : List.modify H i qH = sP H i H[i]? := by
 apply List.ext_getElem?
 intro j
 rw[List.getElem?_modify]
 cases h:H[i]? with
 | none=>
   simp only[sP]
   by_cases e:i=j
   · subst e;rw[h];simp
   · simp[e]
 | some o=>
   have hi:i<H.length:=(aLe.1 h).1
   cases o with
   | box cs=>
     simp only[sP]
     by_cases e:i=j
     · subst e;rw[h];simp[qH]
     · simp[e]
   | arr sz pin ep es=>
     simp only[sP]
     rw[List.getElem?_set]
     by_cases e:i=j
     · subst e;rw[h];simp[qH,hi]
     · simp[e]
section
variable (n : Nat)
@[go_sem] theorem Uy (x : T) : ids n (.t x) = [] := by cases n <;> rfl
@[go_sem] theorem Rm : ids n .nil = [] := by cases n <;> rfl
@[go_sem] theorem OB : ids n .nilp = [] := by cases n <;> rfl
@[go_sem] theorem Rn : ids n .und = [] := by cases n <;> rfl
@[go_sem] theorem Tf (cs : List T) : ids n (.ep cs) = [] := by cases n <;> rfl
@[go_sem] theorem Tg (id off : Nat) : ids n (.bp id off) = [id] := by cases n <;> rfl
@[go_sem] theorem Th (id ep m i off : Nat) : ids n (.ap id ep m i off) = [id] := by cases n <;> rfl
@[go_sem] theorem Ro (id ep m : Nat) : ids n (.ref id ep m) = [id] := by cases n <;> rfl
@[go_sem] theorem Rq (id ep m lo hi : Nat) : ids n (.sub id ep m lo hi) = [id] := by cases n <;> rfl
@[go_sem] theorem Rr (cs : List D) : ids (n + 1) (.agg cs) = lY n cs := (rfl)
@[go_sem] theorem Rs (cs : List D) : ids (n + 1) (.tup cs) = lY n cs := (rfl)
@[go_sem] theorem Ti (f : Nat) (cs : List D) : ids (n + 1) (.fn f cs) = lY n cs := (rfl)
@[go_sem] theorem OC : lY n [] = [] := (rfl)
@[go_sem] theorem K8 (d : D) (r : List D) : lY n (d :: r) = ids n d ++ lY n r := (rfl)
@[go_sem] theorem vB (ts : List T) : lY n (ts.map .t) = [] := vv ts n
@[go_sem] theorem OD (a b : List D) : lY n (a ++ b) = lY n a ++ lY n b := by simp [lY]
@[go_sem] theorem OE (m : Nat) (x : T) : lY n (List.replicate m (.t x)) = [] := by
 have:List.replicate m (D.t x)=(List.replicate m x).map .t:=by simp
 rw[this,vB]
end
def vC(sel:List Nat)(i:Nat):Bool→List Nat
 | true=>sel
 | false=>sel++[i]
@[go_sem] theorem OF (sel : List Nat) (i : Nat) : vC sel i true = sel := (rfl)
@[go_sem] theorem OH (sel : List Nat) (i : Nat) : vC sel i false = sel ++ [i] := (rfl)
@[go_sem] theorem G0 (sel : List Nat) : aS sel [] = sel := (rfl)
@[go_sem] theorem C3 (sel : List Nat) (i : Nat) (r : List Nat) : aS sel (i :: r) = aS (vC sel i (ri i sel)) r := by
 simp only[aS,nE]
 cases ri i sel<;>rfl
def rj:Option Obj→List Nat
 | some (.box cs)=>lY 8 cs
 | some (.arr _ _ _ es)=>lY 8 es
 | none=>[]
@[go_sem] theorem G4 (cs : List D) : rj (some (.box cs)) = lY 8 cs := (rfl)
@[go_sem] theorem G5 (sz ep : Nat) (pin : Bool) (es : List D) : rj (some (.arr sz pin ep es)) = lY 8 es := (rfl)
@[go_sem] theorem K9 : cT H [] = [] := (rfl)
@[go_sem] theorem G6 (i : Nat) (r : List Nat) : cT H (i :: r) = rj H[i]? ++ cT H r := by
 simp only[cT,List.flatMap_cons]
 congr 1
 cases H[i]? with
 | none=>rfl
 | some o=>cases o<;>rfl
@[go_sem] theorem Rt (sel : List Nat) : reach H 0 sel = sel := (rfl)
@[go_sem] theorem Ru (n : Nat) (sel : List Nat) : reach H (n + 1) sel = reach H n (aS sel (cT H sel)) := (rfl)
@[go_sem] theorem OI : pick H [] = some [] := (rfl)
def La(r:List Nat)(o:Obj):Option ab:=c7 o (pick H r)
@[go_sem] theorem OJ (r : List Nat) (o : Obj) : La H r o = c7 o (pick H r) := (rfl)
@[go_sem] theorem Lb (i : Nat) (r : List Nat) : pick H (i :: r) = H[i]?.bind (La H r) := (rfl)
end
section
variable (f : Nat → Option Nat) (n : Nat)
@[go_sem] theorem Rv (x : T) : ren f n (.t x) = some (.t x) := by cases n <;> rfl
@[go_sem] theorem Rw : ren f n .nil = some .nil := by cases n <;> rfl
@[go_sem] theorem OK : ren f n .nilp = some .nilp := by cases n <;> rfl
@[go_sem] theorem Rx : ren f n .und = some .und := by cases n <;> rfl
@[go_sem] theorem Tj (cs : List T) : ren f n (.ep cs) = some (.ep cs) := by cases n <;> rfl
def Tk(off:Nat)(i:Nat):D:= .bp i off
@[go_sem] theorem Ry (off i : Nat) : Tk off i = .bp i off := (rfl)
@[go_sem] theorem Tl (id off : Nat) : ren f n (.bp id off) = (f id).map (Tk off) := by cases n <;> rfl
def Tm(ep m i off:Nat)(j:Nat):D:= .ap j ep m i off
@[go_sem] theorem Rz (ep m i off j : Nat) : Tm ep m i off j = .ap j ep m i off := (rfl)
@[go_sem] theorem Tn (id ep m i off : Nat) : ren f n (.ap id ep m i off) = (f id).map (Tm ep m i off) := by cases n <;> rfl
def Lc(ep m:Nat)(j:Nat):D:= .ref j ep m
@[go_sem] theorem OL (ep m j : Nat) : Lc ep m j = .ref j ep m := (rfl)
@[go_sem] theorem RA (id ep m : Nat) : ren f n (.ref id ep m) = (f id).map (Lc ep m) := by cases n <;> rfl
def Ld(ep m lo hi:Nat)(j:Nat):D:= .sub j ep m lo hi
@[go_sem] theorem OM (ep m lo hi j : Nat) : Ld ep m lo hi j = .sub j ep m lo hi := (rfl)
@[go_sem] theorem RB (id ep m lo hi : Nat) : ren f n (.sub id ep m lo hi) = (f id).map (Ld ep m lo hi) := by cases n <;> rfl
@[go_sem] theorem To (g : Nat) (cs : List D) : ren f (n + 1) (.fn g cs) = (az (ren f n) cs).map (.fn g) := (rfl)
@[go_sem] theorem RC (cs : List D) : ren f (n + 1) (.agg cs) = (az (ren f n) cs).map .agg := (rfl)
@[go_sem] theorem RD (cs : List D) : ren f (n + 1) (.tup cs) = (az (ren f n) cs).map .tup := (rfl)
@[go_sem] theorem sQ (ts : List T) : az (ren f n) (ts.map .t) = some (ts.map .t) := by
 induction ts with
 | nil=>rfl
 | cons t ts ih=>rw[List.map_cons,vq,Rv,aLq,Ct,ih];rfl
@[go_sem] theorem zU (m : Nat) (x : T) : az (ren f n) (List.replicate m (.t x)) = some (List.replicate m (.t x)) := by
 have:List.replicate m (D.t x)=(List.replicate m x).map .t:=by simp
 rw[this,sQ]
@[go_sem] theorem G7 (cs : List D) : aN f (.box cs) = (az (ren f 8) cs).map .box := (rfl)
@[go_sem] theorem G8 (sz ep : Nat) (pin : Bool) (es : List D) : aN f (.arr sz pin ep es) = (az (ren f 8) es).map (.arr sz pin ep) := (rfl)
end
def G9(x:Option Nat):Bool→Option Nat
 | true=>some 0
 | false=>x.map (· +1)
@[go_sem] theorem Tp (x : Option Nat) : G9 x true = some 0 := (rfl)
@[go_sem] theorem Tq (k : Nat) : G9 (some k) false = some (k + 1) := (rfl)
@[go_sem] theorem Ts : G9 none false = none := (rfl)
@[go_sem] theorem idxOf_nil (i : Nat) : idxOf [] i = none := (rfl)
@[go_sem] theorem idxOf_cons (j i : Nat) (r : List Nat) : idxOf (j :: r) i = G9 (idxOf r i) (eqB j i) := by
 simp only[idxOf,qa]
 by_cases h:j=i
 · simp[h,G9]
 · simp[h,G9]
@[go_sem] theorem Hc (n i : Nat) : aJ [] n i = some (n + i) := by simp [aJ]
@[go_sem] theorem ON (j n : Nat) (r : List Nat) : aJ (j :: r) n 0 = some j := by simp [aJ]
@[go_sem] theorem OO (j n i : Nat) (r : List Nat) : aJ (j :: r) n (i + 1) = aJ r n i := by
 simp only[aJ,List.length_cons,Nat.add_lt_add_iff_right,List.getElem?_cons_succ,Nat.add_sub_add_right]
@[go_sem] theorem C4 {α : Type} (H os : List α) : ay H [] os = H := by cases os <;> rfl
@[go_sem] theorem zV {α : Type} (H : List α) (i : Nat) (r : List Nat) (o : α) (os : List α) : ay H (i :: r) (o :: os) = ay (H.set i o) r os := (rfl)
def lbP(sz:Nat)(p:List D×ab):List D×ab:=(p.1,.arr sz false 0 []::p.2)
@[go_sem] theorem Tt (sz : Nat) (cs : List D) (os : ab) : lbP sz (cs, os) = (cs, .arr sz false 0 [] :: os) := (rfl)
def lbC(base:Nat)(cs:List D)(off sz:Nat)(r:List (Nat×Nat)):Option D→List D×ab
 | some .nil=>lbP sz (aB (base+1) (cs.set off (.ref base 0 0)) r)
 | _=>aB base cs r
@[go_sem] theorem RE (base : Nat) (cs : List D) (off sz : Nat) (r : List (Nat × Nat)) : lbC base cs off sz r (some .nil) = lbP sz (aB (base + 1) (cs.set off (.ref base 0 0)) r) := (rfl)
@[go_sem] theorem Uz (base : Nat) (cs : List D) (off sz : Nat) (r : List (Nat × Nat)) (x : T) : lbC base cs off sz r (some (.t x)) = aB base cs r := (rfl)
@[go_sem] theorem RF (base : Nat) (cs : List D) (off sz : Nat) (r : List (Nat × Nat)) (a b c : Nat) : lbC base cs off sz r (some (.ref a b c)) = aB base cs r := (rfl)
@[go_sem] theorem zW (base : Nat) (cs : List D) (off sz : Nat) (r : List (Nat × Nat)) : aB base cs ((off, sz) :: r) = lbC base cs off sz r cs[off]? := by
 simp only[aB,lbC]
 split<;>split<;>simp_all [lbP]
def lvP(H:ab)(id:Nat)(p:List D×ab):Option (D×ab):=some (.tup [],H.set id (.box p.1)++p.2)
@[go_sem] theorem Tu (H : ab) (id : Nat) (cs : List D) (os : ab) : lvP H id (cs, os) = some (.tup [], H.set id (.box cs) ++ os) := (rfl)
def lvB(H:ab)(id:Nat)(l:List (Nat×Nat)):Option Obj→Option (D×ab)
 | some (.box cs)=>lvP H id (aB H.length cs l)
 | _=>none
@[go_sem] theorem Tv (H : ab) (id : Nat) (l : List (Nat × Nat)) (cs : List D) : lvB H id l (some (.box cs)) = lvP H id (aB H.length cs l) := (rfl)
@[go_sem] theorem C5 (H : ab) (id : Nat) (x : Nat × Nat) (r : List (Nat × Nat)) : mO H id (x :: r) = lvB H id (x :: r) H[id]? := by
 simp only[mO,fg]
 generalize H[id]?=o
 rcases o with _ | (cs | _)
 · rfl
 · rfl
 · rfl
section
variable (H : ab)
def klE(n:Nat)(sel new:List Nat)(os:ab)(q:List Nat×ab):Option (List Nat×ab):=some (new++q.1,os++q.2)
@[go_sem] theorem Tw (n : Nat) (sel new : List Nat) (os : ab) (a : List Nat) (b : ab) : klE n sel new os (a, b) = some (new ++ a, os ++ b) := (rfl)
def klD(n:Nat)(sel new:List Nat)(os:ab):Option (List Nat×ab):=(de H n (sel++new) (cT H new)).bind (klE n sel new os)
@[go_sem] theorem Tx (n : Nat) (sel new : List Nat) (os : ab) : klD H n sel new os = (de H n (sel ++ new) (cT H new)).bind (klE n sel new os) := (rfl)
def kf(sel:List Nat):List Nat→Bool
 | []=>true
 | i::r=> !ri i sel&&kf sel r
@[go_sem] theorem Hd (sel : List Nat) : kf sel [] = true := (rfl)
@[go_sem] theorem C6 (sel : List Nat) (i : Nat) (r : List Nat) : kf sel (i :: r) = (!ri i sel && kf sel r) := (rfl)
theorem oY(sel l:List Nat):l.all (fun i=> !sel.contains i)=kf sel l:=by
 induction l with
 | nil=>rfl
 | cons i r ih=>rw[List.all_cons,ih,nE];rfl
def klC(n:Nat)(sel new:List Nat)(os:ab):Option (List Nat×ab):=
 (if n=0 then(if(os.flatMap fun o=>o.ds.flatMap (bf H depth)).all (fun i=> !(sel++new).contains i)then az (aZ H) os else none)else some os).bind (klD H n sel new)
def je:ab→List Nat
 | []=>[]
 | .box cs::r=>gF H 8 cs++je r
 | .arr _ _ _ es::r=>gF H 8 es++je r
@[go_sem] theorem He : je H [] = [] := (rfl)
@[go_sem] theorem Hf (cs : List D) (r : ab) : je H (.box cs :: r) = gF H 8 cs ++ je H r := (rfl)
@[go_sem] theorem Hg (sz ep : Nat) (pin : Bool) (es : List D) (r : ab) : je H (.arr sz pin ep es :: r) = gF H 8 es ++ je H r := (rfl)
theorem vD(os:ab):(os.flatMap fun o=>o.ds.flatMap (bf H depth))=je H os:=by
 induction os with
 | nil=>rfl
 | cons o r ih=>rw[List.flatMap_cons,ih];cases o<;>rfl
@[go_sem] theorem UA (sel new : List Nat) (os : ab) : klC H 0 sel new os = (if kf (sel ++ new) (je H os) = true then az (aZ H) os else none).bind (klD H 0 sel new) := by
 simp only[klC,vD,oY,if_true]
@[go_sem] theorem UB (n : Nat) (sel new : List Nat) (os : ab) : klC H (n + 1) sel new os = klD H (n + 1) sel new os := by
 simp[klC]
def klN(n:Nat)(sel new:List Nat):Option (List Nat×ab):=(pick H new).bind (klC H n sel new)
@[go_sem] theorem Ty (n : Nat) (sel new : List Nat) : klN H n sel new = (pick H new).bind (klC H n sel new) := (rfl)
@[go_sem] theorem OP (sel front : List Nat) : de H 0 sel front = some ([], []) := (rfl)
@[go_sem] theorem OQ (n : Nat) (sel front : List Nat) : de H (n + 1) sel front = klN H n sel ((aS sel front).drop sel.length) := by
 simp only[de,klN]
 generalize (aS sel front).drop sel.length=new
 cases pick H new with
 | none=>rfl
 | some os=>
   simp only[aLq,klC]
   congr 1
   funext os'
   simp only[klD]
   cases de H n (sel++new) (cT H new)<;>rfl
@[go_sem] theorem yJ (cs : List D) : aZ H (.box cs) = (az (gB H) cs).map .box := (rfl)
@[go_sem] theorem nF (sz ep : Nat) (pin : Bool) (ts : List T) : aZ H (.arr sz pin ep (ts.map .t)) = some (.arr sz pin ep (ts.map .t)) := by
 simp only[aZ,jd,aLw]
@[go_sem] theorem yK (sz ep : Nat) (pin : Bool) : aZ H (.arr sz pin ep []) = some (.arr sz pin ep []) := (rfl)
@[go_sem] theorem yL (sz ep : Nat) (pin : Bool) (m : Nat) (x : T) : aZ H (.arr sz pin ep (List.replicate m (.t x))) = some (.arr sz pin ep (List.replicate m (.t x))) := by
 have:List.replicate m (D.t x)=(List.replicate m x).map .t:=by simp
 rw[this,nF]
def RG(k raw:Nat)(H:ab)(ds rs:List D)(q:List Nat×ab):Option (D×ab):=
 if kf (List.range k++q.1) (bZ H raw ds)=true then
  (az (ren (idxOf (List.range k++q.1)) depth) rs).bind fun rs'=>(az (aN (idxOf (List.range k++q.1))) (H.take k++q.2)).map fun hs'=>(iI rs',hs')
 else none
def vE(sel:List Nat)(H2:ab)(rs':List D):Option (D×ab):=(az (aN (idxOf sel)) H2).bind (finT3 rs')
where finT3 (rs':List D) (hs:ab):Option (D×ab):=some (iI rs',hs)
@[go_sem] theorem OR (rs' : List D) (hs : ab) : vE.finT3 rs' hs = some (iI rs', hs) := (rfl)
@[go_sem] theorem OS (sel : List Nat) (H2 : ab) (rs' : List D) : vE sel H2 rs' = (az (aN (idxOf sel)) H2).bind (vE.finT3 rs') := (rfl)
@[go_sem] theorem RH (k raw : Nat) (ds rs : List D) (sel : List Nat) (os : ab) : RG k raw H ds rs (sel, os) =
 if kf (List.range k++sel) (bZ H raw ds)=true then(az (ren (idxOf (List.range k++sel)) 8) rs).bind (vE (List.range k++sel) (H.take k++os))else none:=by
 simp only[RG,depth]
 split
 · cases az (ren (idxOf (List.range k++sel)) 8) rs with
   | none=>rfl
   | some rs'=>simp only[aLq,vE];cases az (aN (idxOf (List.range k++sel))) (H.take k++os)<;>rfl
 · rfl
@[go_sem] theorem RI (k raw : Nat) (ds rs : List D) : Ot k raw H ds rs = (de H (max raw 1) (List.range k) (lY 8 rs ++ cT H (List.range k))).bind (RG k raw H ds rs) := by
 simp only[Ot,oY,lY,depth];rfl
@[go_sem] theorem Hh (k raw : Nat) (ds rs : List D) : GU k raw H ds rs false = Ot k raw H ds rs := (rfl)
@[go_sem] theorem Hi (k raw : Nat) (ds : List D) : finish k (raw + 1) H ds = KS k (raw + 1) H ds ds := by
 simp only[finish,Nat.add_one_ne_zero,if_false,aLq,c8,rh,KS,GU]
 show(if(bL k 8 ds&&br k (H.take k))=true then _ else _)=_
 cases (bL k 8 ds&&br k (H.take k))<;>rfl
@[go_sem] theorem C7 (raw : Nat) (ds : List D) : bZ H (raw + 1) ds = [] := by simp [bZ]
@[go_sem] theorem OT : max 0 1 = 1 := (rfl)
@[go_sem] theorem RJ (r : Nat) : max (r + 1) 1 = r + 1 := by omega
@[go_sem] theorem Hj : List.range 0 = [] := (rfl)
@[go_sem] theorem Hk : List.range 1 = [0] := (rfl)
@[go_sem] theorem Hl : List.range 2 = [0, 1] := (rfl)
@[go_sem] theorem Hm : List.range 3 = [0, 1, 2] := (rfl)
@[go_sem] theorem Hn : List.range 4 = [0, 1, 2, 3] := (rfl)
end
theorem rm{α:Type}(f:α→T)(l:List α)(i:Nat)(x:α)(y:D)(h:y= .t (f x)):((l.map f).map D.t).set i y=((l.set i x).map f).map D.t:=by
 rw[h,List.map_map,List.map_map]
 exact(List.map_set (f:=D.t ∘ f)).symm
@[go_sem] theorem RK (l : List Int) (i : Nat) (k : IntKind) (x : Int) : ((l.map (T.int k)).map D.t).set i (.t (.int k x)) = ((l.set i x).map (T.int k)).map D.t := rm _ l i x _ rfl
@[go_sem] theorem OU (l : List Bool) (i : Nat) (x : Bool) : ((l.map T.bool).map D.t).set i (.t (.bool x)) = ((l.set i x).map T.bool).map D.t := rm _ l i x _ rfl
end Go.Ev
namespace Go.Ev
class Lib where
 fs:Nat→Option Fn
end Go.Ev
namespace Go.Ev.K
abbrev u(x:O):R:={ o:=x}
abbrev w(n:Nat)(x:O):R:={ o:=x,d:=some n}
abbrev y(n:Nat)(b:Bool)(x:O):R:={ o:=x,g:=some (n,b)}
abbrev m(x:X):R:={ o:= .mv x}
abbrev g(x:X):R:={ o:= .ld x 1 false}
abbrev h(n:Nat)(x:X):R:={ o:= .ld x n true}
abbrev f(n:Nat)(x:X):R:={ o:= .fa x n}
abbrev a(n:Nat)(x z:X):R:={ o:= .ia x z n}
abbrev l0:X:= .l 0
abbrev l1:X:= .l 1
abbrev l2:X:= .l 2
abbrev l3:X:= .l 3
abbrev l4:X:= .l 4
abbrev l5:X:= .l 5
abbrev l6:X:= .l 6
abbrev l7:X:= .l 7
abbrev l8:X:= .l 8
abbrev l9:X:= .l 9
abbrev l10:X:= .l 10
abbrev l11:X:= .l 11
abbrev v0:X:= .v 0
abbrev v1:X:= .v 1
abbrev v2:X:= .v 2
abbrev v3:X:= .v 3
abbrev v4:X:= .v 4
abbrev v5:X:= .v 5
abbrev v6:X:= .v 6
abbrev v7:X:= .v 7
abbrev v8:X:= .v 8
abbrev v9:X:= .v 9
abbrev v10:X:= .v 10
abbrev v11:X:= .v 11
abbrev v12:X:= .v 12
abbrev v13:X:= .v 13
abbrev v14:X:= .v 14
abbrev v15:X:= .v 15
abbrev v16:X:= .v 16
abbrev v17:X:= .v 17
abbrev v18:X:= .v 18
abbrev v19:X:= .v 19
abbrev v20:X:= .v 20
abbrev v21:X:= .v 21
abbrev v22:X:= .v 22
abbrev v23:X:= .v 23
end Go.Ev.K
namespace Go.Ev.K
abbrev q(a:List R)(p:List (Nat×Nat))(c:C):C:= .seq (.reg a p) c
abbrev z0:D:= .t (.int .i64 (0))
abbrev z1:D:= .t (.bool false)
abbrev x(n:Nat)(z:X):R:={ o:= .mv z,d:=some n}
abbrev e(n:Nat)(b:Bool)(z:X):R:={ o:= .mv z,g:=some (n,b)}
abbrev i(n:Nat)(b:Bool)(z:X):R:={ o:= .ld z 1 false,g:=some (n,b)}
end Go.Ev.K
namespace Go.Ev.N
def qc:Nat:=0
def bX:Nat:=1
def C8:Nat:=2
def cu:Nat:=3
def xm:Nat:=4
def Ho:Nat:=5
def tP:Nat:=6
def vF:Nat:=7
def tQ:Nat:=8
def av:Nat:=9
def aY:Nat:=10
def sR:Nat:=11
def Le:Nat:=12
def xn:Nat:=13
def vG:Nat:=14
def nG:Nat:=15
def xo:Nat:=16
def C9:Nat:=17
def zX:Nat:=18
def Da:Nat:=19
def xp:Nat:=20
def Lf:Nat:=21
def zY:Nat:=22
def cz:Nat:=23
def zZ:Nat:=24
def vH:Nat:=25
def xq:Nat:=26
def xr:Nat:=27
def Db:Nat:=28
def Dc:Nat:=29
def Lg:Nat:=30
def Dd:Nat:=31
def Hp:Nat:=32
def De:Nat:=33
def Aa:Nat:=34
def Ab:Nat:=35
def Df:Nat:=36
def Hq:Nat:=37
def Dg:Nat:=38
def vI:Nat:=39
def Hr:Nat:=40
def Dh:Nat:=41
def Ht:Nat:=42
def Di:Nat:=43
def Ac:Nat:=44
def Lh:Nat:=45
def Ad:Nat:=46
def Dj:Nat:=47
def xt:Nat:=48
def lL:Nat:=49
def sT:Nat:=50
def nH:Nat:=51
def tR:Nat:=52
def xu:Nat:=53
def Hu:Nat:=54
def Hv:Nat:=55
def Ae:Nat:=56
def Dk:Nat:=57
def Dl:Nat:=58
def Hw:Nat:=59
def Dm:Nat:=60
def Hx:Nat:=61
def xv:Nat:=62
def Hy:Nat:=63
def Dn:Nat:=64
def Dp:Nat:=65
def mQ:Nat:=66
def pq:Nat:=67
def tS:Nat:=68
def fT:Nat:=69
def rq:Nat:=70
def cM:Nat:=71
def Dq:Nat:=72
def Dr:Nat:=73
def Hz:Nat:=74
def gS:Nat:=75
def Af:Nat:=76
def HA:Nat:=77
end Go.Ev.N
namespace Go.Ev.K
open Go.Ev
def bX:Fn:= { cI:=1,vars:=[0,2],body:=(q [x 1 (.b false)] [] (q [m v0,u (.ln l0),u (.bin .leq l0 (.i 400)),x 1 l0] [] .ret)),res:=[(1,none)]}
def cu:Fn:= { cI:=1,vars:=[0,2],body:=(q [w 1 (.mv (.c (.nilp)))] [] (q [m v0,u (.bd [.nil,z0] [(0,1,.l 0)]),u (.bx l0 2),x 1 l0] [] .ret)),res:=[(1,none)]}
def av:Fn:= { cI:=2,vars:=[0,1,4],body:=(q [x 2 (.i 0)] [] (.seq (.ite [m v0,u (.nc l0),f 1 l0,g l0,m v0,u (.nc l0),f 0 l0,g l0,u (.ln l0),u (.bin .geq l5 l0)] [] 0 (q [x 2 (.i 0)] [] .ret) .skip) (q [m v0,u (.nc l0),f 1 l0,g l0,u (.bin .add l0 (.i 1)),u (.nc l4),f 1 l0,u (.st l0 l2 1 [])] [] (q [m v0,u (.nc l0),f 0 l0,g l0,m v0,u (.nc l0),f 1 l0,g l0,u (.bin .sub l0 (.i 1)),a 1 l5 l0,g l0,m v1,u (.ca N.cz 0 [] [.l 1,.l 0]),x 2 l0] [] .ret)))),res:=[(2,none)]}
def aY:Fn:= { cI:=2,vars:=[0,1,4],body:=(q [x 2 (.i 0)] [] (q [m v1,m v0,m v1,u (.ln l0),u (.ca N.av 0 [] [.l 2,.l 0]),a 1 l4 l0,g l0,x 2 l0] [] .ret)),res:=[(2,none)]}
def cz:Fn:= { cI:=2,vars:=[0,1,4],body:=(q [x 2 (.i 0)] [] (.seq (.ite [m v1,u (.bin .lss l0 (.i 1))] [] 0 (q [x 2 (.i 0)] [] .ret) .skip) (q [m v0,m v1,u (.bin .rem l1 l0),x 0 l0] [] (.seq (.ite [m v0,u (.bin .lss l0 (.i 0))] [] 0 (.reg [m v0,m v1,u (.bin .add l1 l0),x 0 l0] []) .skip) (q [m v0,x 2 l0] [] .ret))))),res:=[(2,none)]}
end Go.Ev.K
namespace Go.Ev
class aM [Lib]:Prop where
 fU:Lib.fs N.bX=some K.bX
 im:Lib.fs N.cu=some K.cu
 dv:Lib.fs N.av=some K.av
 eE:Lib.fs N.aY=some K.aY
 jI:Lib.fs N.cz=some K.cz
namespace K
variable [Lib] [aM]
theorem fU:Lib.fs N.bX=some K.bX:=aM.fU
theorem im:Lib.fs N.cu=some K.cu:=aM.im
theorem dv:Lib.fs N.av=some K.av:=aM.dv
theorem eE:Lib.fs N.aY=some K.aY:=aM.eE
theorem jI:Lib.fs N.cz=some K.cz:=aM.jI
end K
end Go.Ev
namespace Go.Ev.K
open Go.Ev
def cM:Fn:= { cI:=3,vars:=[0,1,2,6],body:=(q [x 3 (.b false)] [] (q [m v0,m v1,u (.bin .geq l1 l0),m l0,e 0 true v0,e 1 true v2,y 2 true (.bin .leq l1 l0),u (.pk l3 l0 (.b false)),x 3 l0] [] .ret)),res:=[(3,none)]}
end Go.Ev.K
namespace Go.Ev
class aO [Lib]:Prop where
 jJ:Lib.fs N.cM=some K.cM
namespace K
variable [Lib] [aO]
theorem jJ:Lib.fs N.cM=some K.cM:=aO.jJ
end K
end Go.Ev
namespace Go.Ev
open Go
variable [Lib]
noncomputable def c9:ai:=ea Lib.fs
theorem dw{raw f:Nat}{args:List D}{H:ab}{fn:Fn}{r:D×ab}(hf:Lib.fs f=some fn)(hn:fn.cI=args.length)
 (h:(exS c9 fn.body ⟨gL args fn.vars,H⟩).bind (Nf fn.res H.length raw)=some r) (h0:fn.prim=[]:=by rfl):c9 raw f args H=some r:=Ch hf hn h h0
theorem iq{gc:Bool}{dead:List Nat}{c:C}{vs:List D}{H:ab}(s:Nat→St)(n:Nat){e:Ex}{st:St}
 (h0:(⟨dX dead vs,H⟩:St)=s 0) (h:∀j,j<n→gR gc dead (s j).H.length (exS c9 c (s j))=some (s (j+1)))
 (he:exS c9 c (s n)=some (e,st)) (hn:e≠ .normal):exS c9 (.loop gc dead c) ⟨vs,H⟩=some (e,st):=by
 show i6 gc dead (exS c9 c) ⟨dX dead vs,H⟩=_
 rw[h0]
 exact yp s n h (jE he hn)
class Dat (α:Type) where
 dflt:α
instance : Dat Int := ⟨0⟩
instance : Dat Nat := ⟨0⟩
instance : Dat Bool := ⟨false⟩
instance {α : Type} : Dat (List α) := ⟨[]⟩
def nth{α:Type} [Dat α](l:List α)(j:Nat):α:=l.getD j Dat.dflt
theorem rr{α:Type} [Dat α]{l:List α}{j:Nat}(h:j<l.length):l[j]?=some (nth l j):=by simp[nth,h]
theorem ir{α β:Type} [Dat α](f:α→β){l:List α}{j:Nat}(h:j<l.length):(l.map f)[j]?=some (f (nth l j)):=by rw[aLn,rr h];rfl
theorem nI{α β γ:Type} [Dat α](f:β→γ)(g:α→β){l:List α}{j:Nat}(h:j<l.length):((l.map g).map f)[j]?=some (f (g (nth l j))):=by rw[aLn,ir g h];rfl
theorem jK{α:Type} [Dat α]{l:List α}{j:Nat}(h:j<l.length):nth l j∈l:=aLd (rr h)
theorem Li{α:Type} [Dat α]{l:List α}{j:Nat}{x:α}(h:l[j]?=some x):nth l j=x:=by simp[nth,h]
theorem ru{α:Type} [Dat α]{l:List α}{j:Nat}(h:j<l.length):l.take (j+1)=l.take j++[nth l j]:=by
 rw[List.take_succ_eq_append_getElem h];simp[nth,h]
theorem RL{a b:Int}(h:a<b):(a<b)=True:=by simp[h]
theorem RM{a b:Int}(h:b≤a):(a<b)=False:=by simp[Int.not_lt.2 h]
theorem RN{a b:Int}(h:a≤b):(a≤b)=True:=by simp[h]
theorem RO{a b:Int}(h:b<a):(a≤b)=False:=by simp[Int.not_le.2 h]
theorem RP{a b:Int}(h:a=b):(a=b)=True:=by simp[h]
theorem RQ{a b:Int}(h:a≠b):(a=b)=False:=by simp[h]
theorem RR{a b:Nat}(h:a<b):(a<b)=True:=by simp[h]
theorem RS{a b:Nat}(h:b≤a):(a<b)=False:=by simp[Nat.not_lt.2 h]
theorem RT{a b:Nat}(h:a≤b):(a≤b)=True:=by simp[h]
theorem RU{a b:Nat}(h:b<a):(a≤b)=False:=by simp[Nat.not_le.2 h]
theorem RV{a b:Nat}(h:a=b):(a=b)=True:=by simp[h]
theorem RW{a b:Nat}(h:a≠b):(a=b)=False:=by simp[h]
attribute [go_sem] RV RW RL RM RN RO RP RQ RR RS RT RU eB ir nI Cw
@[go_sem] theorem HB (a b : Nat) : ((a + b : Nat) : Int) = (a : Int) + (b : Int) := (rfl)
@[go_sem] theorem HC : ((1 : Nat) : Int) = 1 := (rfl)
@[go_sem] theorem Dt : ((0 : Nat) : Int) = 0 := (rfl)
@[go_sem] theorem Lj (a b : Int) : a + b - b = a := Int.add_sub_cancel a b
@[go_sem] theorem Ag : (0 : Int).toNat = 0 := (rfl)
@[go_sem] theorem Du (n : Nat) : (n : Int).toNat = n := (rfl)
@[go_sem] theorem Dv (n : Nat) : ((n : Int) + 1).toNat = n + 1 := (rfl)
@[go_sem] theorem Dw (a : Int) : 0 + a = a := Int.zero_add a
@[go_sem] theorem Dx (a : Int) : a + 0 = a := Int.add_zero a
@[go_sem] theorem Dy (a : Int) : a - 0 = a := Int.sub_zero a
abbrev tI(n:Int):T:= .int .i64 n
abbrev tL(l:List Int):T:= .sl (l.map (.int .i64))
@[go_sem] theorem yM (H : ab) (n : Nat) (ts : List T) (x : T) : az (frz H n) (ts.map .t ++ [.t x]) = some (ts ++ [x]) := by
 have:ts.map D.t++[.t x]=(ts++[x]).map .t:=by simp
 rw[this,sM]
@[go_sem] theorem Ah {α β : Type} (f : α → β) (a b : List α) : (a ++ b).map f = a.map f ++ b.map f := List.map_append
end Go.Ev
namespace Go.Ev
open Go
variable [Lib] [aM] [aO]
def vJ{α:Type}(f:α→α×Bool):Nat→α→α
 | 0,l=>l
 | n+1,l=>if(f l).2 then vJ f n (f l).1 else(f l).1
def yN(m:Nat):List D:=(List.range m).map fun i=> .bp i 0
def eu(bs:List (List T)):ab:=bs.map fun cs=> .box (cs.map .t)
theorem ck(bs:List (List T)):(eu bs).length=bs.length:=by simp[eu]
theorem cE:∀(l:List Nat) (i k:Nat),l.Nodup→l[k]?=some i→idxOf l i=some k
 | [],i,k,_,h=>by simp at h
 | a::l,i,0,_,h=>by simp at h;simp[idxOf,h]
 | a::l,i,k+1,hn,h=>by
   simp at h
   have hne:a≠i:=fun e=>(List.nodup_cons.1 hn).1 (e▸aLd h)
   simp only[idxOf,if_neg hne,cE l i k (List.nodup_cons.1 hn).2 h,aLw]
theorem nJ{α:Type}{f:α→Option α}:∀ {l:List α},(∀x∈l,f x=some x)→az f l=some l
 | [],_=>rfl
 | a::l,h=>by
   simp only[az,h a List.mem_cons_self,aLq,nJ fun x hx=>h x (List.mem_cons_of_mem _ hx),aLw]
theorem kF{α β:Type}{f:α→Option β}:∀ {a b:List α} {x y:List β},az f a=some x→az f b=some y→az f (a++b)=some (x++y)
 | [],b,x,y,h1,h2=>by simp[az]at h1;subst h1;exact h2
 | c::a,b,x,y,h1,h2=>by
   simp only[az,aLa,aLb]at h1
   obtain⟨z,hz,r,hr,rfl⟩:=h1
   simp only[List.cons_append,az,hz,aLq,kF hr h2,aLw]
section
variable (bs : List (List T)) (o o' : Obj)
@[go_sem] theorem yO : (eu bs).length = bs.length := ck bs
@[go_sem] theorem HD : (eu bs ++ [o])[bs.length]? = some o := by
 rw[aLh (by rw[ck];exact aLs _),ck];simp
@[go_sem] theorem Lk : (eu bs ++ [o]).set bs.length o' = eu bs ++ [o'] := by
 rw[List.set_append_right _ _ (by rw[ck];exact aLs _),ck];simp
@[go_sem] theorem HE : (eu bs ++ [o]).take bs.length = eu bs := by
 rw[List.take_append_of_le_length (by rw[ck];exact aLs _),List.take_of_length_le (by rw[ck];exact aLs _)]
@[go_sem] theorem Dz : (eu bs ++ [o]).take (bs.length + 1) = eu bs ++ [o] := List.take_of_length_le (by simp [ck])
@[go_sem] theorem DA : (eu bs).take bs.length = eu bs := List.take_of_length_le (by simp [ck])
@[go_sem] theorem DB (k : Nat) (a b : ab) : br k (a ++ b) = (br k a && br k b) := by
 rw[← c8,←c8,←c8,List.all_append]
@[go_sem] theorem yP (k : Nat) : br k (eu bs) = true := by
 induction bs with
 | nil=>rfl
 | cons b r ih=>
   show(bL k 8 (b.map .t)&&br k (eu r))=true
   rw[rf,ih];rfl
@[go_sem] theorem OV (n : Nat) : ltB n (n + 1) = true := by rw [cn]; simp
@[go_sem] theorem OW (n : Nat) : ltB n n = false := by rw [cn]; simp
theorem kg(k n m:Nat)(h:m≤k):bL k n (yN m)=true:=by
 unfold bL yN
 rw[aLx]
 intro d hd
 obtain⟨i,hi,rfl⟩:=List.mem_map.1 hd
 rw[KL,cn]
 have:=aLu.1 hi
 simp;omega
@[go_sem] theorem DC (n m : Nat) : bL m n (yN m) = true := kg _ _ _ (aLs _)
@[go_sem] theorem Ai (n m : Nat) : bL (m + 1) n (yN m) = true := kg _ _ _ (Nat.le_succ _)
end
end Go.Ev
namespace Go.Ev
open Go
variable [Lib] [aM] [aO]
theorem ew{α:Type}(sz:Nat)(f:α→T)(h:∀a,eC sz (f a).cells=true):∀l:List α,aK sz (l.map f)=true
 | []=>rfl
 | a::l=>by rw[List.map_cons,jc,h,ew sz f h l];rfl
@[go_sem] theorem Aj (k : IntKind) (l : List Int) : aK 1 (l.map (.int k)) = true := ew 1 _ (fun _ => rfl) l
theorem jf(sz:Nat):∀ts:List T,(ts.all fun e=>e.cells.length==sz)=aK sz ts
 | []=>rfl
 | t::ts=>by
   rw[List.all_cons,jc,jf sz ts]
   congr 1
   rw[Bool.eq_iff_iff,bA];simp
section
variable (H : ab) (sz : Nat) (ts : List T) (i j : Int)
@[go_sem] theorem RX : oU H sz (some (.t (.sl ts))) (some none) (some (some i)) = if 0 ≤ i then (if i ≤ ts.length then (if aK sz ts = true then some (.t (.sl (ts.take i.toNat)), H) else none) else none) else none := by
 simp only[oU,aLq,eh,bound,jf,idx]
 by_cases h1:0≤i
 · rw[if_pos h1,if_pos h1,aLq]
   by_cases h2:i≤ts.length
   · rw[if_pos h2]
     by_cases h3:aK sz ts=true
     · rw[if_pos h3,if_pos ⟨by omega,by omega,h3⟩];rfl
     · rw[if_neg h3,if_neg fun h=>h3 h.2.2];rfl
   · rw[if_neg h2,if_neg fun h=>h2 (by omega)];rfl
 · rw[if_neg h1,if_neg h1];rfl
@[go_sem] theorem RY : oU H sz (some (.t (.sl ts))) (some (some i)) (some none) = if 0 ≤ i then (if i ≤ ts.length then (if aK sz ts = true then some (.t (.sl (ts.drop i.toNat)), H) else none) else none) else none := by
 simp only[oU,aLq,eh,bound,jf,idx]
 by_cases h1:0≤i
 · rw[if_pos h1,if_pos h1,aLq]
   by_cases h2:i≤ts.length
   · rw[if_pos h2]
     by_cases h3:aK sz ts=true
     · rw[if_pos h3,if_pos ⟨by omega,by omega,h3⟩,List.take_of_length_le (by simp)];rfl
     · rw[if_neg h3,if_neg fun h=>h3 h.2.2];rfl
   · rw[if_neg h2,if_neg fun h=>h2 (by omega)];rfl
 · rw[if_neg h1,if_neg h1];rfl
@[go_sem] theorem Ll : oU H sz (some (.t (.sl ts))) (some (some i)) (some (some j)) = if 0 ≤ i then (if i ≤ j then (if j ≤ ts.length then (if aK sz ts = true then some (.t (.sl ((ts.drop i.toNat).take (j.toNat - i.toNat))), H) else none) else none) else none) else none := by
 simp only[oU,aLq,eh,bound,jf,idx]
 by_cases h1:0≤i
 · rw[if_pos h1,if_pos h1,aLq]
   by_cases h0:i≤j
   · rw[if_pos h0,if_pos (by omega:0≤j),aLq]
     by_cases h2:j≤ts.length
     · rw[if_pos h2]
       by_cases h3:aK sz ts=true
       · rw[if_pos h3,if_pos ⟨by omega,by omega,h3⟩];rfl
       · rw[if_neg h3,if_neg fun h=>h3 h.2.2];rfl
     · rw[if_neg h2,if_neg fun h=>h2 (by omega)];rfl
   · rw[if_neg h0]
     by_cases h2:0≤j
     · rw[if_pos h2,aLq,if_neg fun h=>h0 (by omega)];rfl
     · rw[if_neg h2];rfl
 · rw[if_neg h1,if_neg h1];rfl
end
def bsK(H:ab)(l:List Nat):Option T→Option (D×ab)
 | some t=>some (.t (.sl [t]),pins H l)
 | none=>none
@[go_sem] theorem OX (H : ab) (l : List Nat) (t : T) : bsK H l (some t) = some (.t (.sl [t]), pins H l) := (rfl)
@[go_sem] theorem OY (H : ab) (sz : Nat) (cs : List D) : mP H sz [.agg cs] = if eC sz cs = true then bsK H (bf H 8 (.agg cs)) (frz H 8 (.agg cs)) else none := by
 simp only[mP,List.all_cons,List.all_nil,Bool.and_true,D.cells]
 by_cases h:eC sz cs=true
 · rw[if_pos h,if_pos (by simpa using bA.1 h)]
   simp only[az,depth,List.flatMap_cons,List.flatMap_nil,List.append_nil]
   cases frz H 8 (.agg cs)<;>rfl
 · rw[if_neg h,if_neg (by intro e;exact h (bA.2 (by simpa using e)))]
@[go_sem] theorem OZ (H : ab) (id ep n : Nat) : mP H 1 [.ref id ep n] = bsK H (bf H 8 (.ref id ep n)) (frz H 8 (.ref id ep n)) := by
 simp only[mP,List.all_cons,List.all_nil,Bool.and_true,D.cells,List.length_cons,List.length_nil,beq_self_eq_true,if_true,az,depth,List.flatMap_cons,List.flatMap_nil,List.append_nil]
 cases frz H 8 (.ref id ep n)<;>rfl
def DD(H:ab)(r:D)(os:ab):D×ab:=(r,H++os)
@[go_sem] theorem O0 (H : ab) (r : D) (os : ab) : DD H r os = (r, H ++ os) := (rfl)
def Lm(H:ab)(os:ab)(r:D):Option (D×ab):=(az (aN (aJ [] H.length)) os).map (DD H r)
@[go_sem] theorem O1 (H : ab) (os : ab) (r : D) : Lm H os r = (az (aN (aJ [] H.length)) os).map (DD H r) := (rfl)
@[go_sem] theorem Ln (H : ab) (r : D) (o : Obj) (os : ab) : lK H (r, o :: os) = (ren (aJ [] H.length) 8 r).bind (Lm H (o :: os)) := by
 simp only[lK,List.isEmpty_cons,Bool.and_false,aLt,if_false]
 rfl
end Go.Ev
namespace Go.Ev
open Go
variable [Lib] [aM] [aO]
@[go_sem] theorem RZ (H : ab) (a b : List T) : mP H 1 [.t (.sl a), .t (.sl b), .nil] = some (.t (.sl [.sl a, .sl b, .sl []]), H) := by
 simp only[mP,List.all_cons,List.all_nil,D.cells,T.cells,List.map_cons,List.map_nil,List.length_cons,List.length_nil,az,frz,depth,bf,List.flatMap_cons,List.flatMap_nil,pins]
 rfl
def Lo(c:Bool):Option Bool→Option Bool
 | some d=>some (c&&d)
 | none=>none
@[go_sem] theorem HF (c d : Bool) : Lo c (some d) = some (c && d) := (rfl)
@[go_sem] theorem HG : dB [] [] = some true := (rfl)
@[go_sem] theorem DE (k : IntKind) (a b : Int) (xs ys : List T) : dB (.int k a :: xs) (.int k b :: ys) = Lo (decide (a = b)) (dB xs ys) := by
 simp only[dB,if_true,Ni]
 cases dB xs ys<;>rfl
def DF(H:ab)(neg:Bool):Option Bool→Option (D×ab)
 | some r=>some (.t (.bool (bif neg then !r else r)),H)
 | none=>none
@[go_sem] theorem HH (H : ab) (r : Bool) : DF H true (some r) = some (.t (.bool (!r)), H) := (rfl)
@[go_sem] theorem DG (H : ab) (r : Bool) : DF H false (some r) = some (.t (.bool r), H) := (rfl)
@[go_sem] theorem DH (H : ab) (n : Nat) (neg : Bool) (xs ys : List T) : jb H (.ints n) neg (some (.t (.agg xs))) (some (.t (.agg ys))) = if xs.length = n then DF H neg (dB xs ys) else none := by
 simp only[jb,aLq,Bu,eqD]
 by_cases h:xs.length=n
 · simp only[if_pos h]
   cases dB xs ys with
   | none=>rfl
   | some r=>cases neg<;>rfl
 · simp only[if_neg h];rfl
@[go_sem] theorem HI : ((2 : Nat) : Int) = 2 := (rfl)
@[go_sem] theorem Ak : ((3 : Nat) : Int) = 3 := (rfl)
end Go.Ev
namespace Go.Ev
open Go
instance : Dat (List Int) := ⟨[]⟩
def LU(p:Nat→Prop) [DecidablePred p](G:List (List Int)):Nat→List Int
 | 0=>[]
 | m+1=>LU p G m++if p m then nth G m else []
theorem rv{p:Nat→Prop} [DecidablePred p]{G:List (List Int)}{i:Int}:∀ {m:Nat},i∈LU p G m↔∃n,n<m∧p n∧i∈nth G n
 | 0=>by simp[LU]
 | m+1=>by
   rw[LU,List.mem_append,rv]
   constructor
   · rintro (⟨n,a,b,c⟩ | h)
     · exact⟨n,by omega,b,c⟩
     · split at h
       · rename_i hp;exact⟨m,by omega,hp,h⟩
       · simp at h
   · rintro ⟨n,a,b,c⟩
     by_cases e:n=m
     · subst e;right;rw[if_pos b];exact c
     · exact .inl ⟨n,by omega,b,c⟩
theorem nK(p:Nat→Prop) [DecidablePred p](G:List (List Int)):∀m,(LU (fun _=>True) G m).length=(LU p G m).length+(LU (fun n=>¬p n) G m).length
 | 0=>rfl
 | m+1=>by
   have ih:=nK p G m
   simp only[LU,aLv,if_true]
   by_cases h:p m
   · simp only[h,if_true,not_true_eq_false,if_false,List.length_nil];omega
   · simp only[h,if_false,not_false_eq_true,if_true,List.length_nil];omega
theorem Lp{p:Nat→Prop} [DecidablePred p]{G G2:List (List Int)}:∀m,(∀n,n<m→p n→(nth G2 n).length≤(nth G n).length)→(LU p G2 m).length≤(LU p G m).length
 | 0,_=>aLs _
 | m+1,h=>by
   have ih:=Lp m fun n hn hp=>h n (by omega) hp
   simp only[LU,aLv]
   split
   · rename_i hp;have:=h m (by omega) hp;omega
   · simpa using ih
theorem Al(p:Nat→Prop) [DecidablePred p](G:List (List Int)):∀m,List.Sublist (LU p G m) (LU (fun _=>True) G m)
 | 0=>List.Sublist.refl _
 | m+1=>by
   have ih:=Al p G m
   simp only[LU,if_true]
   refine List.Sublist.append ih ?_
   split
   · exact List.Sublist.refl _
   · exact List.nil_sublist _
abbrev gG(G:List (List Int)):List Int:=LU (fun _=>True) G G.length
theorem gT:∀ {a b:List Int},a.Nodup→(∀x∈a,x∈b)→a.length≤b.length
 | [],b,_,_=>Nat.zero_le _
 | x::a,b,h,hs=>by
   obtain⟨h1,h2⟩:=List.nodup_cons.1 h
   obtain⟨s,t,rfl⟩:=List.append_of_mem (hs x List.mem_cons_self)
   have:=gT (a:=a) (b:=s++t) h2 fun y hy=>by
    have:=hs y (List.mem_cons_of_mem _ hy)
    rw[List.mem_append,List.mem_cons]at this
    rcases this with k | k | k
    · exact List.mem_append.2 (.inl k)
    · subst k;exact absurd hy h1
    · exact List.mem_append.2 (.inr k)
   simp only[aLv,List.length_cons]at this ⊢
   omega
structure GI(W:List (List Int))(S:List Int)(G:List (List Int)):Prop where
 len:G.length=S.length
 cap:∀n,n<S.length→nth G n≠[]→((nth G n).length:Int)≤nth S n
 wnt:∀n,n<S.length→∀i∈nth G n,0≤i∧i<W.length∧(n:Int)∈nth W i.toNat
structure Am(W:List (List Int))(S:List Int)(G:List (List Int)):Prop extends GI W S G where
 nd:(gG G).Nodup
def eU(W:List (List Int))(S:List Int)(c:Nat):Prop:=(∃G,Am W S G∧(gG G).length=c)∧∀G,Am W S G→(gG G).length≤c
theorem eU.uniq{W:List (List Int)}{S:List Int}{c d:Nat}(h:eU W S c)(g:eU W S d):c=d:=by
 obtain⟨⟨G,a,b⟩,u⟩:=h
 obtain⟨⟨G2,a2,b2⟩,u2⟩:=g
 have:=u _ a2
 have:=u2 _ a
 omega
def Clo(W:List (List Int))(S:List Int)(G:List (List Int))(U:Nat→Prop):Prop:=
 ∀n,n<S.length→U n→nth S n≤(nth G n).length∧∀i∈nth G n,∀x:Nat,x<S.length→(x:Int)∈nth W i.toNat→U x
def sU(W:List (List Int))(S:List Int)(i:Int)(U:Nat→Prop):Prop:=∀x:Nat,x<S.length→(x:Int)∈nth W i.toNat→U x
theorem DI{W:List (List Int)}{S:List Int}{G:List (List Int)}(h:Am W S G){U:Nat→Prop} [DecidablePred U](hc:Clo W S G U)(hf:∀i:Nat,i<W.length→(i:Int)∈gG G∨sU W S i U):eU W S (gG G).length:=by
 refine⟨⟨G,h,rfl⟩,fun G2 h2=>?_⟩
 have l1:=h.len
 have l2:=h2.len
 unfold gG
 rw[nK U G2,nK U G,l1,l2]
 have a1:(LU U G2 S.length).length≤(LU U G S.length).length:=Lp _ fun n hn hu=>by
  by_cases e:nth G2 n=[]
  · rw[e];exact Nat.zero_le _
  · have:=h2.cap n hn e
    have:=(hc n hn hu).1
    omega
 have nd:=(h2.nd.sublist (by unfold gG;exact Al (fun n=>¬U n) G2 G2.length))
 rw[l2]at nd
 have a2:(LU (fun n=>¬U n) G2 S.length).length≤(LU (fun n=>¬U n) G S.length).length:=gT nd fun i hi=>by
  obtain⟨n,hn,hu,hm⟩:=rv.1 hi
  obtain⟨w1,w2,w3⟩:=h2.wnt n hn i hm
  have ei:((i.toNat:Nat):Int)=i:=Int.toNat_of_nonneg w1
  have no:¬sU W S i U:=fun hw=>hu (hw n hn w3)
  rcases hf i.toNat (by omega)with k | k
  · rw[ei]at k
    obtain⟨m,hm1, -,hm2⟩:=rv.1 k
    refine rv.2 ⟨m,by omega,fun um=>?_,hm2⟩
    exact no fun x hx hw=>(hc m (by omega) um).2 i hm2 x hx hw
  · rw[ei]at k
    exact absurd k no
 omega
theorem sV{W W2:List (List Int)}{S:List Int}{c:Nat}(h:eU W S c)(e:W2.length=W.length)(he:∀i,i<W.length→nth W2 (W.length-1-i)=nth W i):eU W2 S c:=by
 have go:∀ {W W2:List (List Int)},W2.length=W.length→(∀i,i<W.length→nth W2 (W.length-1-i)=nth W i)→∀G,Am W S G→∃G2,Am W2 S G2∧(gG G2).length=(gG G).length:=by
  intro W W2 e he G hG
  have ng:∀n,nth (G.map fun l=>l.map fun i=>(W.length:Int)-1-i) n=(nth G n).map fun i=>(W.length:Int)-1-i:=fun n=>by
   unfold nth
   rw[aLl,aLl,aLn]
   cases G[n]?<;>rfl
  have lu:∀m,LU (fun _=>True) (G.map fun l=>l.map fun i=>(W.length:Int)-1-i) m=(LU (fun _=>True) G m).map fun i=>(W.length:Int)-1-i:=by
   intro m
   induction m with
   | zero=>rfl
   | succ m ih=>simp only[LU,if_true,ih,ng,List.map_append]
  refine⟨G.map fun l=>l.map fun i=>(W.length:Int)-1-i,⟨⟨by simp[hG.len],fun n hn hne=>?_,fun n hn i hi=>?_⟩,?_⟩,?_⟩
  · rw[ng]at hne ⊢
    rw[List.length_map]
    exact hG.cap n hn fun h=>hne (by rw[h];rfl)
  · rw[ng]at hi
    obtain⟨j,hj,rfl⟩:=List.mem_map.1 hi
    obtain⟨w1,w2,w3⟩:=hG.wnt n hn j hj
    refine⟨by omega,by omega,?_⟩
    have:=he j.toNat (by omega)
    rw[show((W.length:Int)-1-j).toNat=W.length-1-j.toNat by omega,this]
    exact w3
  · unfold gG
    rw[lu,List.length_map]
    have nd:=hG.nd
    unfold gG at nd
    rw[List.Nodup,List.pairwise_map]
    exact nd.imp fun{a b} h k=>h (by omega)
  · unfold gG
    rw[lu,List.length_map,List.length_map]
 obtain⟨⟨G,a,b⟩,u⟩:=h
 refine⟨?_,fun G2 h2=>?_⟩
 · obtain⟨G2,a2,b2⟩:=go e he G a
   exact⟨G2,a2,b2.trans b⟩
 · obtain⟨G3,a3,b3⟩:=go (W:=W2) (W2:=W) e.symm (fun i hi=>by
    rw[e]at hi ⊢
    have:=he (W.length-1-i) (by omega)
    rw[show W.length-1-(W.length-1-i)=i by omega]at this
    exact this.symm) G2 h2
   have:=u _ a3
   omega
end Go.Ev
namespace Go.Ev
open Go
theorem vK(G:List (List Int)):∀m,m≤G.length→LU (fun _=>True) G m=(G.take m).flatten
 | 0,_=>rfl
 | m+1,h=>by
   have e:G[m]?=some (nth G m):=by
    have hm:m<G.length:=by omega
    unfold nth
    rw[aLl,aLc hm];rfl
   rw[LU,vK G m (by omega),if_pos trivial,List.take_add_one,e]
   simp
theorem fV(G:List (List Int)):gG G=G.flatten:=by
 unfold gG
 rw[vK G _ (aLs _),List.take_length]
theorem lM{α:Type} [Dat α](l:List α){n:Nat}(h:n<l.length):nth l.reverse n=nth l (l.length-1-n):=by
 unfold nth
 rw[aLl,aLl,List.getElem?_reverse h]
theorem sW{W W2:List (List Int)}{S:List Int}{c:Nat}(h:eU W S c)(e:W2.length=W.length)(he:∀i,i<W.length→nth W2 i=(nth W i).map fun x=>(S.length:Int)-1-x):eU W2 S.reverse c:=by
 have go:∀ {W W2:List (List Int)} {S:List Int},W2.length=W.length→(∀i,i<W.length→nth W2 i=(nth W i).map fun x=>(S.length:Int)-1-x)→∀G,Am W S G→∃G2,Am W2 S.reverse G2∧(gG G2).length=(gG G).length:=by
  intro W W2 S e he G hG
  have gl:=hG.len
  have pm:(gG G.reverse).Perm (gG G):=by
   rw[fV,fV]
   exact(List.reverse_perm G).flatten
  refine⟨G.reverse,⟨⟨by simp[gl],fun n hn hne=>?_,fun n hn i hi=>?_⟩,pm.nodup_iff.2 hG.nd⟩,pm.length_eq⟩
  · rw[List.length_reverse]at hn
    rw[lM G (by omega),gl]at hne ⊢
    rw[lM S (by omega)]
    exact hG.cap _ (by omega) hne
  · rw[List.length_reverse]at hn
    rw[lM G (by omega),gl]at hi
    obtain⟨w1,w2,w3⟩:=hG.wnt _ (by omega) i hi
    refine⟨w1,by omega,?_⟩
    rw[he _ (by omega),List.mem_map]
    exact⟨_,w3,by omega⟩
 obtain⟨⟨G,a,b⟩,u⟩:=h
 refine⟨?_,fun G2 h2=>?_⟩
 · obtain⟨G2,a2,b2⟩:=go e he G a
   exact⟨G2,a2,b2.trans b⟩
 · obtain⟨G3,a3,b3⟩:=go (W:=W2) (W2:=W) (S:=S.reverse) e.symm (fun i hi=>by
    rw[he i (by omega),List.map_map,List.length_reverse]
    have:((fun x:Int=>(S.length:Int)-1-x) ∘ fun x=>(S.length:Int)-1-x)=id:=by funext x;simp;omega
    rw[this,List.map_id]) G2 h2
   rw[List.reverse_reverse]at a3
   have:=u _ a3
   omega
theorem Lq{W:List (List Int)}{S:List Int}{G:List (List Int)}{U V:Nat→Prop}(h:Clo W S G U)(g:Clo W S G V):Clo W S G (fun n=>U n∨V n):=by
 intro n hn hu
 rcases hu with a | a
 · obtain⟨p,q⟩:=h n hn a
   exact⟨p,fun i hi x hx hw=> .inl (q i hi x hx hw)⟩
 · obtain⟨p,q⟩:=g n hn a
   exact⟨p,fun i hi x hx hw=> .inr (q i hi x hx hw)⟩
structure eF(W:List (List Int))(S:List Int)(G:List (List Int))(i:Int)(T:Nat→Bool)(G2:List (List Int)):Prop where
 gi:GI W S G2
 pm:(gG G2).Perm (i::gG G)
 old:∀n,T n=true→nth G2 n=nth G n
 clo:∀U:Nat→Prop,Clo W S G U→(∀n,n<S.length→U n→nth G2 n=nth G n)∧¬sU W S i U
structure lN(W:List (List Int))(S:List Int)(G:List (List Int))(i:Int)(T T2:Nat→Bool):Prop where
 sub:∀n,T n=true→T2 n=true
 clo:∀n,n<S.length→T2 n=true→T n=false→nth S n≤(nth G n).length∧∀j∈nth G n,sU W S j fun x=>T2 x=true
 wnt:sU W S i fun x=>T2 x=true
structure MI(W:List (List Int))(S:List Int)(G:List (List Int))(j c:Nat)(U:Nat→Prop):Prop where
 st:Am W S G
 lt:∀i∈gG G,i<j
 cnt:(gG G).length=c
 clo:Clo W S G U
 out:∀i:Nat,i<j→(i:Int)∈gG G∨sU W S i U
theorem MI.ok{W:List (List Int)}{S:List Int}{G G2:List (List Int)}{j c:Nat}{U:Nat→Prop}{T:Nat→Bool}(h:MI W S G j c U)(p:eF W S G j T G2):MI W S G2 (j+1) (c+1) U:=by
 obtain⟨k1,k2⟩:=p.clo U h.clo
 have nd:(gG G2).Nodup:=by
  rw[p.pm.nodup_iff,List.nodup_cons]
  refine⟨fun hm=>?_,h.st.nd⟩
  have:=h.lt _ hm
  omega
 refine⟨⟨p.gi,nd⟩,fun i hi=>?_,by rw[p.pm.length_eq,List.length_cons,h.cnt],fun n hn hu=>?_,fun i hi=>?_⟩
 · rcases List.mem_cons.1 (p.pm.mem_iff.1 hi)with e | e
   · omega
   · have:=h.lt i e;omega
 · rw[k1 n hn hu];exact h.clo n hn hu
 · by_cases e:i=j
   · subst e;exact .inl (p.pm.mem_iff.2 List.mem_cons_self)
   · rcases h.out i (by omega)with a | a
     · exact .inl (p.pm.mem_iff.2 (List.mem_cons_of_mem _ a))
     · exact .inr a
theorem MI.no{W:List (List Int)}{S:List Int}{G:List (List Int)}{j c:Nat}{U:Nat→Prop}{T T2:Nat→Bool}(h:MI W S G j c U)(h0:∀n,T n=false)(p:lN W S G j T T2):MI W S G (j+1) c (fun n=>U n∨T2 n=true):=by
 refine⟨h.st,fun i hi=>by have:=h.lt i hi;omega,h.cnt,Lq h.clo (fun n hn hu=>?_),fun i hi=>?_⟩
 · exact p.clo n hn hu (h0 n)
 · by_cases e:i=j
   · subst e;exact .inr fun x hx hw=> .inr (p.wnt x hx hw)
   · rcases h.out i (by omega)with a | a
     · exact .inl a
     · exact .inr fun x hx hw=> .inl (a x hx hw)
open Classical in
theorem MI.O2{W:List (List Int)}{S:List Int}{G:List (List Int)}{c:Nat}{U:Nat→Prop}(h:MI W S G W.length c U):eU W S c:=by
 rw[← h.cnt]
 exact DI h.st h.clo h.out
theorem MI.zero(W:List (List Int))(S:List Int):MI W S (List.replicate S.length []) 0 0 (fun _=>False):=by
 have e:gG (List.replicate S.length ([]:List Int))=[]:=by rw[fV];simp
 have nn:∀n,nth (List.replicate S.length ([]:List Int)) n=[]:=fun n=>by
  unfold nth
  rw[aLl,List.getElem?_replicate]
  split<;>rfl
 refine⟨⟨⟨by simp,fun n hn hne=>absurd (nn n) hne,fun n hn i hi=>by rw[nn n]at hi;simp at hi⟩,by rw[e];simp⟩,by rw[e];simp,by rw[e];rfl,fun n hn hu=>hu.elim,fun i hi=>absurd hi (by omega)⟩
end Go.Ev
namespace Go.Ev
open Go
variable [Lib] [aM] [aO]
def Mod(n m:Int):Int:=if m<1 then 0 else if n.tmod m<0 then n.tmod m+m else n.tmod m
theorem Lr(n m:Int):0≤Mod n m:=by
 unfold Mod
 split
 · omega
 · have h5:=Int.lt_tmod_of_pos n (b:=m) (by omega)
   split<;>omega
theorem Lt(n m:Int)(h:1≤m):Mod n m<m:=by
 unfold Mod
 rw[if_neg (by omega)]
 have h3:=Int.tmod_lt_of_pos n (b:=m) (by omega)
 split<;>omega
theorem Lu(n m:Int)(hm:m≤4611686018427387904):c9 0 N.cz [I n,I m] []=some (I (Mod n m),[]):=by
 refine dw K.jI rfl ?_
 unfold Mod
 by_cases h1:m<1
 · simp only[go_sem,K.cz,h1,↓reduceIte]
 · have h2:m≠0:=by omega
   have h3:=Int.tmod_lt_of_pos n (b:=m) (by omega)
   have h5:=Int.lt_tmod_of_pos n (b:=m) (by omega)
   by_cases h4:n.tmod m<0
   · simp(disch:=omega)only[go_sem,K.cz,h1,↓reduceIte,h2,h4]
   · simp(disch:=omega)only[go_sem,K.cz,h1,↓reduceIte,h2,h4]
theorem yQ(l:List Int):c9 0 N.bX [.t (tL l)] []=some (B (decide (l.length≤400)),[]):=by
 refine dw K.fU rfl ?_
 simp(disch:=omega)only[go_sem,K.bX,↓reduceIte]
 simp only[show((l.length:Int)≤400)=(l.length≤400)by rw[eq_iff_iff];omega]
structure au where
 L:List Int
 at_:Nat
def au.obj(d:au):Obj:= .box [.t (tL d.L),I d.at_]
def au.dS(d:au):Prop:=d.L.length≤400
def au.next(d:au)(n:Int):Int×au:=if d.at_<d.L.length then(Mod (nth d.L d.at_) n,⟨d.L,d.at_+1⟩)else(0,d)
theorem au.Lv(d:au)(n:Int):(d.next n).2.L=d.L:=by unfold au.next;split<;>rfl
theorem au.dN{d:au}(h:d.dS)(n:Int):(d.next n).2.dS:=by unfold au.dS;rw[d.Lv];exact h
theorem au.iu(d:au)(n:Int):0≤(d.next n).1:=by unfold au.next;split<;>simp[Lr]
theorem au.fW(d:au){n:Int}(h:1≤n):(d.next n).1<n:=by unfold au.next;split<;>simp[Lt _ _ h];omega
theorem lO(d:au)(n:Int)(hn:n≤4611686018427387904)(hd:d.dS):c9 0 N.av [.bp 0 0,I n] [d.obj]=some (I (d.next n).1,[(d.next n).2.obj]):=by
 refine dw K.dv rfl ?_
 have hm:=Lu (nth d.L d.at_) n hn
 unfold au.dS at hd
 unfold au.next au.obj
 by_cases h1:d.at_<d.L.length
 · simp(disch:=omega)only[go_sem,K.av,↓reduceIte,↓if_pos,↓if_neg,Int.add_sub_cancel,hm,Int.natCast_add]
 · simp(disch:=omega)only[go_sem,K.av,↓reduceIte,↓if_pos,↓if_neg]
@[go_sem] theorem O3 (d : au) : rj (some d.obj) = [] := by simp only [au.obj, go_sem]
@[go_sem] theorem O4 (f : Nat → Option Nat) (d : au) : aN f d.obj = some d.obj := by simp only [au.obj, go_sem]
@[go_sem] theorem O5 (k : Nat) (d : au) (r : ab) : br k (d.obj :: r) = br k r := by simp only [au.obj, go_sem]
def au.one(d:au)(n:Int):Bool×au:=(decide ((d.next n).1=n-1),(d.next n).2)
def au.of(d:au)(l:List Int):Int×au:=(nth l (d.next l.length).1.toNat,(d.next l.length).2)
theorem au.yR{d:au}(h:d.dS)(l:List Int):(d.of l).2.dS:=au.dN h _
theorem au.Lw(d:au){l:List Int}(h:l≠[]):(d.of l).1∈l:=by
 unfold au.of
 have hl:0<l.length:=List.length_pos_iff.2 h
 have:=d.iu l.length
 have:=d.fW (n:=l.length) (by omega)
 exact jK (by omega)
theorem R0(d:au)(l:List Int)(hl:l≠[])(hl2:l.length≤4294967296)(hd:d.dS):c9 0 N.aY [.bp 0 0,.t (tL l)] [d.obj]=some (I (d.of l).1,[(d.of l).2.obj]):=by
 refine dw K.eE rfl ?_
 have hm:=lO d l.length (by omega) hd
 have h0:0<l.length:=List.length_pos_iff.2 hl
 have h1:=d.iu l.length
 have h2:=d.fW (n:=l.length) (by omega)
 unfold au.of
 simp(disch:=omega)only[go_sem,K.aY,↓reduceIte,hm]
def au.sX(d:au):Nat→List Int×au
 | 0=>([],d)
 | k+1=>(if((d.sX k).2.next 3).1=0 then(d.sX k).1++[(k:Int)]else(d.sX k).1,((d.sX k).2.next 3).2)
structure Place where
 h:Int
 surf:Bool
instance : Dat Place := ⟨⟨0, false⟩⟩
abbrev Place.e(p:Place):T:= .agg [tI p.h,.bool p.surf]
structure Road where
 frm:Int
 to:Int
 len:Int
 area:Int
 walk:Bool
 closed:Bool
 restL:Int
 restH:Int
 liftL:Int
 liftH:Int
instance : Dat Road := ⟨⟨0, 0, 0, 0, false, false, 0, 0, 0, 0⟩⟩
abbrev Road.e(r:Road):T:= .agg [tI r.frm,tI r.to,tI r.len,tI r.area,.bool r.walk,.bool r.closed,tI r.restL,tI r.restH,tI r.liftL,tI r.liftH]
structure bT where
 a8:List Place
 roads:List Road
instance : Dat bT := ⟨⟨[], []⟩⟩
abbrev bT.e(m:bT):T:= .agg [.sl (m.a8.map Place.e),.sl (m.roads.map Road.e)]
structure Road.ok(n:Nat)(r:Road):Prop where
 f0:0≤r.frm
 f1:r.frm<n
 t0:0≤r.to
 t1:r.to<n
 ne:r.frm≠r.to
 l0:1≤r.len
 l1:r.len≤100000
 a0:1≤r.area
 a1:r.area≤1000
 r0:1≤r.restL
 r1:r.restL≤r.restH
 r2:r.restH≤262144
 i0: -2199023255552≤r.liftL
 i1:r.liftL≤r.liftH
 i2:r.liftH≤2199023255552
structure bT.ok(m:bT):Prop where
 np:m.a8.length≤64
 nr:m.roads.length≤128
 hs:∀p∈m.a8, -10000≤p.h∧p.h≤10000
 rs:∀r∈m.roads,r.ok m.a8.length
def Tz(l:List Int)(n:Int):Bool:=(List.range l.length).all fun j=>decide (0≤nth l j∧nth l j<n∧(0<j→nth l (j-1)<nth l j))
theorem R1(x lo hi:Int):c9 0 N.cM [I x,I lo,I hi] []=some (B (decide (lo≤x∧x≤hi)),[]):=by
 refine dw K.jJ rfl ?_
 by_cases h1:lo≤x<;>by_cases h2:x≤hi<;>simp(disch:=omega)only[go_sem,K.cM,↓reduceIte]
def Lx(m:bT)(k:Nat)(back:Bool)(up down level:Int):Int:=
 let x:=nth m.roads k
 if x.closed=true∨x.walk=false then -1 else
 let a:=if back then x.to else x.frm
 let b:=if back then x.frm else x.to
 let rise:=(nth m.a8 b.toNat).h-(nth m.a8 a.toNat).h
 let speed:=if -10*rise>x.len then down else if 10*rise>x.len then up else level
 (10*x.len+speed-1).tdiv speed
def An(l:List Int)(p q:Nat)(walk t:Int):Bool:=
 decide (0≤walk)&&decide (nth l p<1099511627776)&&decide (max t (nth l p+walk)≤2147483648)&&decide (max t (nth l p+walk)<nth l q)
def Lz(l:List Int)(p q:Nat)(walk t:Int):List Int:=if An l p q walk t=true then l.set q (max t (nth l p+walk))else l
def UC(into:Option (List Int))(p:Int):Bool:=match into with
 | none=>true
 | some l=>decide (p∈l)
def LA(into:Option (List Int)):D:=match into with
 | none=> .nil
 | some l=> .t (tL l)
def Road.src(r:Road)(back:Bool):Int:=if back then r.to else r.frm
def Road.dst(r:Road)(back:Bool):Int:=if back then r.frm else r.to
theorem Road.oB{n:Nat}{r:Road}(h:r.ok n)(back:Bool):0≤r.src back∧r.src back<n:=by
 unfold Road.src;have:=h.f0;have:=h.f1;have:=h.t0;have:=h.t1;cases back<;>simp<;>omega
def LB(m:bT)(t:Int)(into:Option (List Int))(k:Nat)(back:Bool)(l:List Int):List Int×Bool:=
 if UC into ((nth m.roads k).dst back)=true then
  (Lz l ((nth m.roads k).src back).toNat ((nth m.roads k).dst back).toNat (Lx m k back 6 9 12) t,An l ((nth m.roads k).src back).toNat ((nth m.roads k).dst back).toNat (Lx m k back 6 9 12) t)
 else(l,false)
def R3(m:bT)(t:Int)(into:Option (List Int))(k:Nat)(s:List Int×Bool):List Int×Bool:=
 let a:=LB m t into k false s.1
 let b:=LB m t into k true a.1
 (b.1,s.2||a.2||b.2)
def Ao(m:bT)(t:Int)(into:Option (List Int))(l:List Int):Nat→List Int×Bool
 | 0=>(l,false)
 | k+1=>R3 m t into k (Ao m t into l k)
def LC(m:bT)(t:Int)(into:Option (List Int))(l:List Int):List Int×Bool:=Ao m t into l m.roads.length
section
variable {m : bT} (h : m.ok) {t : Int} {into : Option (List Int)}
include h
end
def TA(l:List Int):Nat:=(l.map Int.toNat).sum
section
variable {m : bT} (h : m.ok) {t : Int} {into : Option (List Int)}
include h
end
end Go.Ev
namespace Go.Ev
open Go
variable [Lib] [aM] [aO]
abbrev oZ(m:bT):List D:=[.t (.sl (m.a8.map Place.e)),.t (.sl (m.roads.map Road.e))]
@[go_sem] theorem LD (k n : Nat) (into : Option (List Int)) : old k n (LA into) = true := by
 cases into<;>simp only[LA,go_sem]
structure Wh where
 time:Int
 frm:List Int
instance : Dat Wh := ⟨⟨0, []⟩⟩
abbrev Wh.e(w:Wh):T:= .agg [tI w.time,tL w.frm]
def mR(m:bT)(t:Int)(into:Option (List Int))(l:List Int):List Int:=vJ (LC m t into) (TA l+1) l
def inT(t:Int):Prop:=0≤t∧t≤2147483648
instance (t : Int) : Decidable (inT t) := by unfold inT; infer_instance
def plT(x:Int):Prop:=x=1099511627776∨inT x
instance (t : Int) : Decidable (plT t) := by unfold plT; infer_instance
def vL(w:Wh)(n:Int):Bool:=decide ((w.frm.length:Int)=n∧inT w.time)&&(List.range w.frm.length).all fun j=>decide (plT (nth w.frm j))
def o5(m:bT)(w:Wh):Bool:=vL w m.a8.length&&decide (mR m w.time none w.frm=w.frm)
theorem qd{w:Wh}{n:Int}(h:vL w n=true):(w.frm.length:Int)=n∧inT w.time∧∀x∈w.frm,plT x:=by
 simp only[vL,aLr,decide_eq_true_eq,aLx,aLu]at h
 refine⟨h.1.1,h.1.2,fun x hx=>?_⟩
 obtain⟨j,hj⟩:=aLf.1 hx
 have:=h.2 j (aLe.1 hj).1
 rwa [Li hj]at this
def vM(n:Nat):List Int:=List.replicate n 1099511627776
@[simp] theorem HJ (n : Nat) : (vM n).length = n := List.length_replicate
def vN(m:bT)(p t:Int):Wh×Int:=
 if p<0∨(m.a8.length:Int)≤p then(⟨0,[]⟩,3)else if inT t then(⟨t,mR m t none ((vM m.a8.length).set p.toNat t)⟩,0)else(⟨0,[]⟩,8)
def Aq(w:Wh)(t:Int):Wh×Int:=if t<w.time∨2147483648<t then(w,8)else(⟨t,w.frm⟩,0)
def rz(m:bT)(w:Wh)(a8:List Int)(a b:Int):Int:=
 if o5 m w=true∧a8≠[]∧Tz a8 m.a8.length=true then(if inT a∧inT b∧a≤b then 0 else 8)else 6
def DJ(w:Wh)(t p:Int)(s:List Int×Bool):List Int×Bool:=if nth w.frm p.toNat≤t then(s.1.set p.toNat (nth w.frm p.toNat),true)else s
def R4(w:Wh)(l:List Int)(t:Int)(n:Nat):Nat→List Int×Bool
 | 0=>(vM n,false)
 | j+1=>DJ w t (nth l j) (R4 w l t n j)
def UD(m:bT)(w:Wh)(l:List Int)(a b:Int):Wh×Int:=
 if rz m w l a b≠0 then(w,rz m w l a b)else if a<w.time then(w,42)else
 if(R4 w l b m.a8.length l.length).2=true then(⟨b,mR m a none (R4 w l b m.a8.length l.length).1⟩,0)else(w,43)
theorem qe{m:bT}{w:Wh}(h:o5 m w=true):w.frm.length=m.a8.length∧inT w.time∧(∀x∈w.frm,plT x)∧mR m w.time none w.frm=w.frm:=by
 simp only[o5,aLr,decide_eq_true_eq]at h
 obtain⟨h1,h2,h3⟩:=qd h.1
 exact⟨by omega,h2,h3,h.2⟩
def TC(l0 l:List Int):Nat→List Int
 | 0=>l0
 | j+1=>(TC l0 l j).set (nth l j).toNat 1099511627776
def UE(m:bT)(w:Wh)(l:List Int)(a b bl:Int):Wh×Int:=
 if rz m w l a b≠0 then(w,rz m w l a b)else if ¬inT bl then(w,8)else if b<w.time then(w,42)else if b-max a w.time≤bl then(w,0)else
 (⟨b,mR m b none (mR m (b-bl) (some l) (TC w.frm l l.length))⟩,0)
def TD(a b:List Int):Nat→List Int
 | 0=>[]
 | j+1=>TD a b j++[min (nth a j) (nth b j)]
def yS(a b:Wh):Wh×Int:=if a.frm.length=b.frm.length then(⟨max a.time b.time,TD a.frm b.frm a.frm.length⟩,0)else(⟨0,[]⟩,6)
structure Spn where
 low:Int
 high:Int
instance : Dat Spn := ⟨⟨0, 0⟩⟩
abbrev Spn.e(f:Spn):T:= .agg [tI f.low,tI f.high]
def Spn.ok(f:Spn):Prop:= -1125899906842624≤f.low∧f.high≤1125899906842624∧f.low≤f.high
instance (f : Spn) : Decidable f.ok := by unfold Spn.ok; infer_instance
def vO(m:bT)(l:List Spn):Bool:=(List.range l.length).all (fun j=>decide (nth l j).ok)&&decide (l.length=m.roads.length)
def jL(x:Road)(f:Spn)(back:Bool):Int:=
 if x.closed=true then -1 else
 let g:=if back then -f.low else f.high
 let out:=if 0<g then(x.len*x.area*1000).tdiv g else -1
 if(if back then f.low<500*x.area else -500*x.area<f.high)∧(out<0∨x.len<out)then x.len else out
def LF(l:List Int)(p q:Nat)(t:Int):Bool:=decide (0≤t∧nth l p+t<nth l q)
def R5(l:List Int)(p q:Nat)(t:Int):List Int:=if LF l p q t=true then l.set q (nth l p+t)else l
def Ar(m:bT)(fl:List Spn)(k:Nat)(back:Bool)(l:List Int):List Int×Bool:=
 (R5 l ((nth m.roads k).src back).toNat ((nth m.roads k).dst back).toNat (jL (nth m.roads k) (nth fl k) back),LF l ((nth m.roads k).src back).toNat ((nth m.roads k).dst back).toNat (jL (nth m.roads k) (nth fl k) back))
def LG(m:bT)(fl:List Spn)(k:Nat)(s:List Int×Bool):List Int×Bool:=
 let a:=Ar m fl k false s.1
 let b:=Ar m fl k true a.1
 (b.1,s.2||a.2||b.2)
def vP(m:bT)(fl:List Spn)(l:List Int):Nat→List Int×Bool
 | 0=>(l,false)
 | k+1=>LG m fl k (vP m fl l k)
def DK(m:bT)(fl:List Spn)(l:List Int):List Int×Bool:=vP m fl l m.roads.length
section
variable {m : bT} (h : m.ok) {fl : List Spn}
include h
end
def O6(l:List Int):Nat→List Int
 | 0=>l
 | j+1=>if 2147483648<nth (O6 l j) j then(O6 l j).set j 1099511627776 else O6 l j
def As(m:bT)(fl:List Spn)(l:List Int):List Int:=O6 (vJ (DK m fl) (TA l+1) l) m.a8.length
end Go.Ev
namespace Go.Ev
open Go
variable [Lib] [aM] [aO]
def plS(t x:Int):Prop:=x=1099511627776∨(t≤x∧x≤2147483648)
instance (t x : Int) : Decidable (plS t x) := by unfold plS; infer_instance
def vQ(m:bT)(s:Wh):Bool:=(List.range s.frm.length).all (fun j=>decide (plS s.time (nth s.frm j)))&&decide (s.frm.length=m.a8.length∧inT s.time)
def DL(l:List Int)(t:Int)(n:Nat):List Int:=(List.range n).map fun(p:Nat)=>if(p:Int)∈l then t else 1099511627776
@[simp] theorem LH (l : List Int) (t : Int) (n : Nat) : (DL l t n).length = n := by simp [DL]
def LI(m:bT)(fl:List Spn)(l:List Int)(t:Int):Wh×Int:=
 if vO m fl=false then(⟨0,[]⟩,6)else if Tz l m.a8.length=false then(⟨0,[]⟩,3)else if ¬inT t then(⟨0,[]⟩,8)else
 (⟨t,As m fl (DL l t m.a8.length)⟩,0)
def Au(m:bT)(fl:List Spn)(frm:List Int)(t:Int)(k:Nat)(back:Bool)(l:List Int):List Int:=
 if nth frm ((nth m.roads k).src back).toNat≤t∧0≤jL (nth m.roads k) (nth fl k) back then l.set ((nth m.roads k).dst back).toNat (min (nth l ((nth m.roads k).dst back).toNat) t)else l
def LJ(m:bT)(fl:List Spn)(frm:List Int)(t:Int)(k:Nat)(l:List Int):List Int:=Au m fl frm t k true (Au m fl frm t k false l)
def chN(m:bT)(fl:List Spn)(frm:List Int)(t:Int):Nat→List Int
 | 0=>frm
 | k+1=>LJ m fl frm t k (chN m fl frm t k)
def R6(t:Int)(l:List Int):Nat→List Int
 | 0=>l
 | k+1=>(R6 t l k).set k (max (nth (R6 t l k) k) t)
def DM(m:bT)(old:List Spn)(next:bT)(fl:List Spn)(s:Wh)(t:Int):Wh×Int:=
 if vQ m s=false∨vO m old=false∨vO next fl=false∨next.a8.length≠m.a8.length then(s,6)else
 if t<s.time∨2147483648<t then(s,8)else(⟨t,As next fl (R6 t (chN m old s.frm t m.roads.length) m.a8.length)⟩,0)
def LK(a b:List Int):Bool:=match (List.range (min a.length b.length)).find? (fun j=>decide (nth a j≠nth b j))with
 | some j=>decide (nth a j<nth b j)
 | none=>decide (a.length<b.length)
def jM(l:List Int)(x:Int):Int:=match (List.range l.length).find? (fun j=>decide (nth l j=x))with
 | some j=>j
 | none=> -1
def DN(l:List Int)(j:Nat):Bool:=decide (1≤nth l j∧nth l j≤65535∧jM (l.take j) (nth l j)<0)
def qf(l:List Int):Bool:=(List.range l.length).all (DN l)
structure World where
 tags:List Int
 whr:List Wh
instance : Dat World := ⟨⟨[], []⟩⟩
abbrev World.e(x:World):T:= .agg [tL x.tags,.sl (x.whr.map Wh.e)]
structure Bel where
 bc:List World
instance : Dat Bel := ⟨⟨[]⟩⟩
abbrev Bel.e(b:Bel):T:= .agg [.sl (b.bc.map World.e)]
def World.sz(x:World):Prop:=x.tags.length≤1000000∧x.whr.length≤1000000∧∀w∈x.whr,w.frm.length≤1000000
def Bel.sz(b:Bel):Prop:=b.bc.length≤1000000∧∀x∈b.bc,x.sz
@[go_sem] theorem DO (l : List Wh) : aK 2 (l.map Wh.e) = true := ew 2 _ (fun _ => rfl) l
@[go_sem] theorem xw (l : List World) : aK 2 (l.map World.e) = true := ew 2 _ (fun _ => rfl) l
@[go_sem] theorem O7 (l : List Wh) : eD 2 (l.map Wh.e) = true := by cases l <;> rfl
@[go_sem] theorem DP (l : List World) : eD 2 (l.map World.e) = true := by cases l <;> rfl
def UF(m:bT)(first:List Int)(x:World)(k:Nat):Bool:=decide (0≤jM first (nth x.tags k))&&o5 m (nth x.whr k)
def LL(m:bT)(ws:List World)(first:List Int)(i:Nat):Bool:=
 decide ((nth ws i).tags.length=first.length∧(nth ws i).whr.length=first.length)&&qf (nth ws i).tags&&(decide (i=0)||LK (nth ws (i-1)).tags (nth ws i).tags)&&(List.range (nth ws i).tags.length).all (UF m first (nth ws i))
def TE(m:bT)(b:Bel):Bool:=
 decide (1≤b.bc.length∧b.bc.length≤24)&&decide (1≤(nth b.bc 0).tags.length∧(nth b.bc 0).tags.length≤12)&&(List.range b.bc.length).all (LL m b.bc (nth b.bc 0).tags)
end Go.Ev
namespace Go.Ev.N
def vR:Nat:=78
def tT:Nat:=79
def sY:Nat:=80
def DQ:Nat:=81
def aR:Nat:=82
def DR:Nat:=83
def DT:Nat:=84
def DU:Nat:=85
def HK:Nat:=86
def Av:Nat:=87
def DV:Nat:=88
def Aw:Nat:=89
def Ax:Nat:=90
def HL:Nat:=91
def Ay:Nat:=92
def HM:Nat:=93
def LM:Nat:=94
def LN:Nat:=95
def DW:Nat:=96
def HN:Nat:=97
def DX:Nat:=98
def DY:Nat:=99
def DZ:Nat:=100
def HO:Nat:=101
def LO:Nat:=102
def pt:Nat:=103
def yT:Nat:=104
def Az:Nat:=105
def AA:Nat:=106
def HP:Nat:=107
def HQ:Nat:=108
def D0:Nat:=109
def HR:Nat:=110
def HT:Nat:=111
def D1:Nat:=112
def D2:Nat:=113
def HU:Nat:=114
def AB:Nat:=115
def HV:Nat:=116
def HW:Nat:=117
def AD:Nat:=118
def AE:Nat:=119
def yU:Nat:=120
def yV:Nat:=121
def rA:Nat:=122
end Go.Ev.N
namespace Go.Ev.K
open Go.Ev
def cN:C:= (.seq (.ite [m v3,u (.bin .gtr l0 (.i 0))] [] 0 .skip (.exit 0)) (.seq (.blk 1 (.reg [m v2,m v0,u (.ca N.av 0 [] [.l 0,.i 9]),u (.bin .sub l0 (.i 1)),u (.bs [.l 0] 1),u (.app l4 l0 true 1),x 2 l0] [])) (.reg [m v3,u (.bin .sub l0 (.i 1)),x 3 l0] [])))
def eV:C:= .loop true [1] K.cN
def aR:Fn:= { cI:=1,vars:=[0,2,3,4],body:=(q [w 1 (.mv (.c (.nil)))] [] (q [w 2 (.nw 1)] [] (.seq (q [m v0,u (.ca N.av 0 [] [.l 0,.i 5]),x 3 l0] [] (.blk 0 K.eV)) (q [m v2,x 1 l0] [] .ret)))),res:=[(1,none)]}
end Go.Ev.K
namespace Go.Ev
class bM [Lib]:Prop where
 dy:Lib.fs N.aR=some K.aR
namespace K
variable [Lib] [bM]
theorem dy:Lib.fs N.aR=some K.aR:=bM.dy
end K
end Go.Ev
namespace Go.Ev.K
open Go.Ev
end Go.Ev.K
namespace Go.Ev
class bP [Lib]:Prop where
namespace K
variable [Lib] [bP]
end K
end Go.Ev
namespace Go.Ev
open Go
variable [Lib] [aM] [aO] [bM] [bP]
structure LP where
 st:Int
 fi:Int
 se:Int
 ti:Int
abbrev LP.e(s:LP):T:= .agg [tI s.st,tI s.fi,tI s.se,tI s.ti]
structure s4 where
 area:List Int
 hold:Int
 mis:Int
abbrev s4.e(x:s4):T:= .agg [tL x.area,tI x.hold,tI x.mis]
structure Keys where
 roads:List Int
 keys:List Int
 out:Bool
abbrev Keys.e(k:Keys):T:= .agg [tL k.roads,tL k.keys,.bool k.out]
end Go.Ev
namespace Go.Ev
open Go
variable [Lib] [aM] [aO]
@[go_sem] theorem D3 (l : List Place) : eD 2 (l.map Place.e) = true := by cases l <;> rfl
@[go_sem] theorem HX (l : List Road) : eD 10 (l.map Road.e) = true := by cases l <;> rfl
@[go_sem] theorem HY (H : ab) (d : au) : yw H 0 1 false (some d.obj) = some (.t (tL d.L), H) := by simp only [au.obj, go_sem]
def au.fX(d:au):Nat→List Place×au
 | 0=>([],d)
 | k+1=>if k=0 then((d.fX k).1++[⟨-10*((d.fX k).2.next 4).1,true⟩],((d.fX k).2.next 4).2)
   else((d.fX k).1++[⟨-10*((d.fX k).2.next 4).1,(((d.fX k).2.next 4).2.one 6).1⟩],(((d.fX k).2.next 4).2.one 6).2)
def au.LQ(d:au)(i:Int):Road×au:=
 (⟨i-1-(d.next (min i 2)).1,i,1+((d.next (min i 2)).2.of [11,59,119,4]).1,1+(((d.next (min i 2)).2.of [11,59,119,4]).2.of [9,3,19]).1,true,false,1,1,0,0⟩,
   (((d.next (min i 2)).2.of [11,59,119,4]).2.of [9,3,19]).2)
def au.rB(d:au):Nat→List Road×au
 | 0=>([],d)
 | k+1=>((d.rB k).1++[((d.rB k).2.LQ (k+1)).1],((d.rB k).2.LQ (k+1)).2)
def au.yW(d:au)(n:Int):Road×au:=
 let a:=d.next n
 let b:=a.2.next n
 let l:=b.2.of [11,59,199]
 let r:=l.2.of [9,3]
 let w:=r.2.next 5
 let c:=w.2.one 6
 (⟨a.1,b.1,1+l.1,1+r.1,decide (0<w.1),c.1,1,1,0,0⟩,c.2)
def au.more(n:Int)(l:List Road)(d:au):Nat→List Road×au
 | 0=>(l,d)
 | k+1=>if l.length<10 then au.more n (if(d.yW n).1.frm=(d.yW n).1.to then l else l++[(d.yW n).1]) (d.yW n).2 k else(l,d)
def au.D4(d:au):Nat:=if d.L.length=0 then 4 else(2+(d.next 6).1).toNat
def au.LR(d:au):List Place×au:=(d.next 6).2.fX d.D4
def au.D5(d:au):List Road×au:=d.LR.2.rB (d.D4-1)
def au.LS(d:au):List Road×au:=au.more d.D4 d.D5.1 (d.D5.2.next 4).2 (d.D5.2.next 4).1.toNat
def au.UK(d:au):bT×au:=(⟨d.LR.1,d.LS.1⟩,d.LS.2)
@[go_sem] theorem LV (l : List Spn) : eD 2 (l.map Spn.e) = true := by cases l <;> rfl
@[go_sem] theorem R7 (l : List Spn) (k : Nat) (a b : Int) : (List.map D.t (List.map Spn.e l)).set k (D.t (T.agg [tI a, tI b])) = List.map D.t (List.map Spn.e (l.set k ⟨a, b⟩)) := by
 rw[List.map_set,List.map_set]
@[go_sem] theorem TF (H : ab) (sz : Nat) (a b c d e f : T) : mP H sz [.t a, .t b, .t c, .t d, .t e, .t f] = if aK sz [a, b, c, d, e, f] = true then some (.t (.sl [a, b, c, d, e, f]), H) else none := fS H sz [a, b, c, d, e, f]
@[go_sem] theorem TG (H : ab) (sz : Nat) (a b c d e f g : T) : mP H sz [.t a, .t b, .t c, .t d, .t e, .t f, .t g] = if aK sz [a, b, c, d, e, f, g] = true then some (.t (.sl [a, b, c, d, e, f, g]), H) else none := fS H sz [a, b, c, d, e, f, g]
@[go_sem] theorem TH (H : ab) (sz : Nat) (a b c d e f g h : T) : mP H sz [.t a, .t b, .t c, .t d, .t e, .t f, .t g, .t h] = if aK sz [a, b, c, d, e, f, g, h] = true then some (.t (.sl [a, b, c, d, e, f, g, h]), H) else none := fS H sz [a, b, c, d, e, f, g, h]
@[go_sem] theorem LW {α β γ : Type} {l : List α} {g : α → β} {f : β → γ} {x : γ} {j : Nat} (h : j = l.length) : (List.map f (List.map g l) ++ [x])[j]? = some x := by
 rw[aLh (by simp;omega)];simp[h]
@[go_sem] theorem O8 {α β γ : Type} {l : List α} {g : α → β} {f : β → γ} {x y : γ} {j : Nat} (h : j = l.length) : (List.map f (List.map g l) ++ [x]).set j y = List.map f (List.map g l) ++ [y] := by
 rw[List.set_append_right _ _ (by simp;omega)];simp[h]
def au.LX(d:au):Spn×au:=
 let a:=d.of [0,1000,5000,20000, -5000, -20000,4999,100]
 let b:=a.2.of [0,1,1000,6000]
 let c:=b.2.of [0,1,500]
 let w:=c.2.one 9
 (if w.1=true then⟨-1125899906842624,1125899906842624⟩else⟨a.1-b.1,a.1+c.1⟩,w.2)
def au.rC(d:au):Nat→List Spn×au
 | 0=>([],d)
 | k+1=>((d.rC k).1++[((d.rC k).2.LX).1],((d.rC k).2.LX).2)
def au.R8(d:au)(m:bT):List Spn×au:=d.rC m.roads.length
theorem vS{gc:Bool}{dead:List Nat}{c:C}{vs:List D}{H:ab}(P:Nat→St→Prop)(n:Nat)(Q:Ex×St→Prop)(h0:P 0 ⟨dX dead vs,H⟩)
 (hs:∀j st,j<n→P j st→(∃st',gR gc dead st.H.length (exS c9 c st)=some st'∧P (j+1) st')∨∃q,exS c9 c st=some q∧q.1≠ .normal∧Q q)
 (he:∀st,P n st→∃q,exS c9 c st=some q∧q.1≠ .normal∧Q q):∃q,exS c9 (.loop gc dead c) ⟨vs,H⟩=some q∧Q q:=by
 have key:∀(k j:Nat) (st:St),j+k=n→P j st→∃q,i6 gc dead (exS c9 c) st=some q∧Q q:=by
  intro k
  induction k with
  | zero=>
    intro j st hj hp
    obtain⟨q,h1,h2,h3⟩:=he st (by rw[← hj];exact hp)
    exact⟨q,jE h1 h2,h3⟩
  | succ k ih=>
    intro j st hj hp
    rcases hs j st (by omega) hp with⟨st',h1,h2⟩ | ⟨q,h1,h2,h3⟩
    · obtain⟨q,h3,h4⟩:=ih (j+1) st' (by omega) h2
      exact⟨q,sJ h1 h3,h4⟩
    · exact⟨q,jE h1 h2,h3⟩
 exact key n 0 _ (by omega) h0
theorem LY(l:List Int):c9 0 N.cu [.t (tL l)] []=some (.bp 0 0,[au.obj ⟨l,0⟩]):=by
 refine dw K.im rfl ?_
 simp(disch:=omega)only[go_sem,K.cu,↓reduceIte,au.obj,reduceAdd,reduceSub]
end Go.Ev
namespace Go.Ev
open Go
variable [Lib] [aM] [aO] [bM] [bP]
abbrev never:Int:=1099511627776
abbrev Wh.box(w:Wh):Obj:= .box [I w.time,.t (tL w.frm)]
structure Req where
 x:s4
 s:LP
 k:Keys
 b:Bel
 t:Int
 from_:Int
abbrev Req.e(r:Req):T:= .agg [tL r.x.area,tI r.x.hold,tI r.x.mis,tI r.s.st,tI r.s.fi,tI r.s.se,tI r.s.ti,tL r.k.roads,tL r.k.keys,.bool r.k.out,.sl (r.b.bc.map World.e),tI r.t,tI r.from_]
structure Req.sz(r:Req):Prop where
 hx:r.x.area.length≤1000000
 hk:r.k.roads.length≤1000000
 hk2:r.k.keys.length≤1000000
 hb:r.b.sz
section
variable (x : s4) (s : LP) (k : Keys) (b : Bel) (hx : x.area.length ≤ 1000000) (hk : k.roads.length ≤ 1000000) (hk2 : k.keys.length ≤ 1000000) (hb : b.sz)
include hx hk hk2 hb
end
end Go.Ev
namespace Go.Ev
open Go
variable [Lib] [aM] [aO] [bM] [bP]
section
variable (area : List Int) (ha : area.length ≤ 1000000) (xs : List World) (hx : xs.length ≤ 1000000)
include ha hx
end
end Go.Ev
namespace Go.Ev
open Go
section
variable (H : ab) (sz id ep n lo hi : Nat) (i j : Int) (fz : Bool)
def scO(r:D):Option Obj→Option (D×ab)
 | some (.arr sz' _ ep' es)=>if ep=ep'∧n=es.length then(if sz'=sz then some (r,H)else none)else none
 | _=>none
@[go_sem] theorem R9 (r : D) (sz' : Nat) (pin : Bool) (es : List D) : scO H sz ep n r (some (.arr sz' pin ep es)) = if n = es.length then (if sz' = sz then some (r, H) else none) else none := by simp [scO]
theorem scR{l h:Nat}:((bE H id ep n).bind fun a=>if l≤h∧h≤n∧a.1=sz then some (D.sub id ep n l h)else none).map (fun d=>(d,H))=if l≤h then(if h≤n then scO H sz ep n (.sub id ep n l h) H[id]? else none)else none:=by
 simp only[bE]
 generalize H[id]?=o
 by_cases h1:l≤h
 · by_cases h2:h≤n
   · rw[if_pos h1,if_pos h2]
     rcases o with _ | (_ | ⟨sz',pin,ep',es⟩)
     · rfl
     · rfl
     · simp only[scO]
       by_cases h3:ep=ep'∧n=es.length
       · rw[if_pos h3,if_pos h3,aLq]
         by_cases h4:sz'=sz
         · rw[if_pos h4,if_pos ⟨h1,h2,h4⟩];rfl
         · rw[if_neg h4,if_neg fun h=>h4 h.2.2];rfl
       · rw[if_neg h3,if_neg h3];rfl
   · rw[if_pos h1,if_neg h2]
     rcases o with _ | (_ | ⟨sz',pin,ep',es⟩)
     · rfl
     · rfl
     · by_cases h3:ep=ep'∧n=es.length
       · simp only[if_pos h3,aLq];rw[if_neg fun h=>h2 h.2.1];rfl
       · simp only[if_neg h3];rfl
 · rw[if_neg h1]
   rcases o with _ | (_ | ⟨sz',pin,ep',es⟩)
   · rfl
   · rfl
   · by_cases h3:ep=ep'∧n=es.length
     · simp only[if_pos h3,aLq];rw[if_neg fun h=>h1 h.1];rfl
     · simp only[if_neg h3];rfl
@[go_sem] theorem D6 : oU H sz (some (.ref id ep n)) (some none) (some (some i)) = if 0 ≤ i then (if i ≤ n then scO H sz ep n (.sub id ep n 0 i.toNat) H[id]? else none) else none := by
 simp only[oU,aLq,eh,bound,idx]
 by_cases h1:0≤i
 · rw[if_pos h1,if_pos h1,aLq,scR,if_pos (Nat.zero_le _)]
   by_cases h2:i≤n
   · rw[if_pos h2,if_pos (by omega)]
   · rw[if_neg h2,if_neg (by omega)]
 · rw[if_neg h1,if_neg h1];rfl
@[go_sem] theorem D7 : oU H sz (some (.ref id ep n)) (some (some i)) (some none) = if 0 ≤ i then (if i ≤ n then scO H sz ep n (.sub id ep n i.toNat n) H[id]? else none) else none := by
 simp only[oU,aLq,eh,bound,idx]
 by_cases h1:0≤i
 · rw[if_pos h1,if_pos h1,aLq,scR]
   by_cases h2:i≤n
   · rw[if_pos h2,if_pos (by omega),if_pos (by omega)]
   · rw[if_neg h2,if_neg (by omega)]
 · rw[if_neg h1,if_neg h1];rfl
@[go_sem] theorem yX : oU H sz (some (.ref id ep n)) (some (some i)) (some (some j)) = if 0 ≤ i then (if i ≤ j then (if j ≤ n then scO H sz ep n (.sub id ep n i.toNat j.toNat) H[id]? else none) else none) else none := by
 simp only[oU,aLq,eh,bound,idx]
 by_cases h1:0≤i
 · rw[if_pos h1,if_pos h1,aLq]
   by_cases h0:i≤j
   · rw[if_pos h0,if_pos (by omega),aLq,scR,if_pos (by omega)]
     by_cases h2:j≤n
     · rw[if_pos h2,if_pos (by omega)]
     · rw[if_neg h2,if_neg (by omega)]
   · rw[if_neg h0]
     by_cases h2:0≤j
     · rw[if_pos h2,aLq,scR,if_neg (by omega)]
     · rw[if_neg h2];rfl
 · rw[if_neg h1,if_neg h1];rfl
@[go_sem] theorem D8 : oU H sz (some .nil) (some none) (some (some i)) = if i = 0 then some (.nil, H) else none := by
 simp only[oU,aLq,eh,bound,idx]
 by_cases h1:0≤i
 · rw[if_pos h1,aLq]
   by_cases h2:i=0
   · rw[if_pos h2,if_pos (by omega)];rfl
   · rw[if_neg h2,if_neg (by omega)];rfl
 · rw[if_neg h1,if_neg (by omega)];rfl
@[go_sem] theorem D9 : oU H sz (some .nil) (some (some i)) (some none) = if i = 0 then some (.nil, H) else none := by
 simp only[oU,aLq,eh,bound,idx]
 by_cases h1:0≤i
 · rw[if_pos h1,aLq]
   by_cases h2:i=0
   · rw[if_pos h2,if_pos (by omega)];rfl
   · rw[if_neg h2,if_neg (by omega)];rfl
 · rw[if_neg h1,if_neg (by omega)];rfl
def qg(x:D)(ys:List D):Option (D×ab):=if aE sz ys=true then(match x with
 | .nil=>if ys.length≤4294967296 then some (.ref H.length 0 ys.length,H++[.arr sz false 0 ys])else none
 | .ref id ep n=>ke H sz id ep n ys H[id]?
 | .cl es=>if 0<ys.length∧es.length+ys.length≤lim∧aE sz (es.map .t)=true then some (.ref H.length 0 (es.map D.t++ys).length,H++[.arr sz false 0 (es.map .t++ys)])else none
 | _=>none)else none
@[go_sem] theorem O9 (ys : List D) : qg H sz .nil ys = if aE sz ys = true then (if ys.length ≤ 4294967296 then some (.ref H.length 0 ys.length, H ++ [.arr sz false 0 ys]) else none) else none := (rfl)
@[go_sem] theorem Pa (ys : List D) : qg H sz (.ref id ep n) ys = if aE sz ys = true then ke H sz id ep n ys H[id]? else none := (rfl)
@[go_sem] theorem Sa (es : List T) (ys : List D) : qg H sz (.cl es) ys = if aE sz ys = true then (if 0 < ys.length ∧ es.length + ys.length ≤ 4294967296 ∧ aE sz (es.map .t) = true then some (.ref H.length 0 (es.map D.t ++ ys).length, H ++ [.arr sz false 0 (es.map .t ++ ys)]) else none) else none := (rfl)
@[go_sem] theorem AF : aE sz [] = true := (rfl)
@[go_sem] theorem yY (d : D) (r : List D) : aE sz (d :: r) = eC sz d.cells := by
 rw[Bool.eq_iff_iff,bA];simp[aE]
def LZ(x:D):Option Obj→Option (D×ab)
 | some (.arr _ _ ep' es)=>if ep=ep'∧n=es.length then qg H sz x ((es.drop lo).take (hi-lo))else none
 | _=>none
def L0(x:D):Option Obj→Option (D×ab)
 | some (.arr _ _ ep' es)=>if ep=ep'∧n=es.length then qg H sz x es else none
 | _=>none
@[go_sem] theorem Pb (x : D) (sz' : Nat) (pin : Bool) (es : List D) : LZ H sz ep n lo hi x (some (.arr sz' pin ep es)) = if n = es.length then qg H sz x ((es.drop lo).take (hi - lo)) else none := by simp [LZ]
@[go_sem] theorem Pc (x : D) (sz' : Nat) (pin : Bool) (es : List D) : L0 H sz ep n x (some (.arr sz' pin ep es)) = if n = es.length then qg H sz x es else none := by simp [L0]
theorem vT(x:D)(ys:List D):(if aE sz ys=true then(match x with
 | .nil=>if ys.length≤lim then some (D.ref H.length 0 ys.length,H++[.arr sz false 0 ys])else none
 | .ref id ep n=>(bE H id ep n).bind fun a=>if a.1=sz∧n+ys.length≤lim then some (.ref id ep (n+ys.length),H.set id (.arr sz a.2.1 ep (a.2.2++ys)))else none
 | .cl es=>if 0<ys.length∧es.length+ys.length≤lim∧aE sz (es.map .t)=true then some (.ref H.length 0 (es.map D.t++ys).length,H++[.arr sz false 0 (es.map .t++ys)])else none
 | _=>none)else none)=qg H sz x ys:=by
 unfold qg
 split
 · cases x with
   | ref id ep n=>
     simp only[bE]
     generalize H[id]?=o
     rcases o with _ | (_ | ⟨sz',pin,ep',es⟩)
     · rfl
     · rfl
     · simp only[ke]
       by_cases h1:ep=ep'∧n=es.length
       · rw[if_pos h1,aLq]
         by_cases h2:sz'=sz∧n+ys.length≤lim
         · rw[if_pos h2,if_pos ⟨h1.1,h1.2,h2⟩]
         · rw[if_neg h2,if_neg fun h=>h2 h.2.2]
       · rw[if_neg h1,if_neg fun h=>h1 ⟨h.1,h.2.1⟩];rfl
   | _=>rfl
 · rfl
theorem jN(x y:D)(ys:List D)(h:elems H y=some ys):fw H sz false (some x) (some y)=qg H sz x ys:=by
 simp only[fw,aLq,dO,h,aLt,if_false]
 exact vT H sz x ys
@[go_sem] theorem xx (x : D) : fw H sz false (some x) (some .nil) = qg H sz x [] := jN H sz x .nil [] rfl
@[go_sem] theorem xy (x : D) : fw H sz false (some x) (some (.ref id ep n)) = L0 H sz ep n x H[id]? := by
 cases he:elems H (.ref id ep n)with
 | some ys=>
   rw[jN H sz x _ ys he]
   simp only[elems,bE]at he
   generalize H[id]?=o at he
   rcases o with _ | (_ | ⟨sz',pin,ep',es⟩)
   · cases he
   · cases he
   · simp only[L0]
     by_cases h1:ep=ep'∧n=es.length
     · simp only[if_pos h1]at he ⊢;cases he;rfl
     · simp only[if_neg h1]at he;cases he
 | none=>
   have:fw H sz false (some x) (some (.ref id ep n))=none:=by simp only[fw,aLq,dO,he];rfl
   rw[this]
   simp only[elems,bE]at he
   generalize H[id]?=o at he
   rcases o with _ | (_ | ⟨sz',pin,ep',es⟩)
   · rfl
   · rfl
   · simp only[L0]
     by_cases h1:ep=ep'∧n=es.length
     · simp only[if_pos h1]at he;cases he
     · simp only[if_neg h1]
@[go_sem] theorem xz (x : D) : fw H sz false (some x) (some (.sub id ep n lo hi)) = LZ H sz ep n lo hi x H[id]? := by
 cases he:elems H (.sub id ep n lo hi)with
 | some ys=>
   rw[jN H sz x _ ys he]
   simp only[elems,bE]at he
   generalize H[id]?=o at he
   rcases o with _ | (_ | ⟨sz',pin,ep',es⟩)
   · cases he
   · cases he
   · simp only[LZ]
     by_cases h1:ep=ep'∧n=es.length
     · simp only[if_pos h1]at he ⊢;cases he;rfl
     · simp only[if_neg h1]at he;cases he
 | none=>
   have:fw H sz false (some x) (some (.sub id ep n lo hi))=none:=by simp only[fw,aLq,dO,he];rfl
   rw[this]
   simp only[elems,bE]at he
   generalize H[id]?=o at he
   rcases o with _ | (_ | ⟨sz',pin,ep',es⟩)
   · rfl
   · rfl
   · simp only[LZ]
     by_cases h1:ep=ep'∧n=es.length
     · simp only[if_pos h1]at he;cases he
     · simp only[if_neg h1]
def HZ(ep n lo hi:Nat):Option Obj→Option (List D)
 | some (.arr _ _ ep' es)=>if ep=ep'∧n=es.length then some ((es.drop lo).take (hi-lo))else none
 | _=>none
def Pd(x:D):Option (List D)→Option (D×ab)
 | some ys0=>(az (fun d=>(frz H depth d).map .t) ys0).bind fun ys=>if aE sz ys then qg (pins H (ys0.flatMap (bf H depth))) sz x ys else none
 | none=>none
@[go_sem] theorem TI (x : D) (ts : List T) : Pd H sz x (some (ts.map .t)) = qg H sz x (ts.map .t) := by
 simp only[Pd,jd,aLq,vr,pins]
 by_cases h:aE sz (ts.map D.t)=true
 · rw[if_pos h]
 · rw[if_neg h];unfold qg;rw[if_neg h]
@[go_sem] theorem yZ (x : D) : fw H sz true (some x) (some (.sub id ep n lo hi)) = Pd H sz x (HZ ep n lo hi H[id]?) := by
 have e:elems H (.sub id ep n lo hi)=HZ ep n lo hi H[id]?:=by
  simp only[elems,bE]
  generalize H[id]?=o
  rcases o with _ | (_ | ⟨sz',pin,ep',es⟩)
  · rfl
  · rfl
  · simp only[HZ]
    by_cases h1:ep=ep'∧n=es.length
    · simp only[if_pos h1];rfl
    · simp only[if_neg h1];rfl
 simp only[fw,aLq,dO,e]
 cases HZ ep n lo hi H[id]? with
 | none=>rfl
 | some ys0=>
   simp only[aLq,Pd,if_true]
   cases hm:az (fun d=>(frz H depth d).map D.t) ys0 with
   | none=>rfl
   | some ys=>
     simp only[aLq]
     refine(vT _ _ _ _).trans ?_
     by_cases h:aE sz ys=true
     · rw[if_pos h]
     · rw[if_neg h];unfold qg;rw[if_neg h]
@[go_sem] theorem Pe (ep n lo hi sz : Nat) (pin : Bool) (ts : List T) : HZ ep n lo hi (some (.arr sz pin ep (ts.map .t))) = if n = ts.length then some (((ts.drop lo).take (hi - lo)).map .t) else none := by
 simp only[HZ,true_and,List.length_map,List.map_take,List.map_drop]
def vU(ds:List D):Option (D×ab):=if ds.all (fun d=>d.cells.length==sz&&d.b6)then some (.ref H.length 0 ds.length,H++[.arr sz false 0 ds])else none
@[go_sem] theorem TJ (call : ai) (get : X → Option D) (xs : List X) : evO call get H (.bsr xs sz) = (az get xs).bind (vU H sz) := (rfl)
@[go_sem] theorem L3 : vU H sz [] = some (.ref H.length 0 0, H ++ [.arr sz false 0 []]) := (rfl)
@[go_sem] theorem L4 (k : IntKind) (n : Int) : vU H 1 [.t (.int k n)] = some (.ref H.length 0 1, H ++ [.arr 1 false 0 [.t (.int k n)]]) := (rfl)
@[go_sem] theorem L5 (cs : List D) : vU H sz [.agg cs] = if eC sz cs = true then some (.ref H.length 0 1, H ++ [.arr sz false 0 [.agg cs]]) else none := by
 simp only[vU,List.all_cons,List.all_nil,Bool.and_true,D.cells,D.b6]
 by_cases h:eC sz cs=true
 · rw[if_pos h,if_pos (by simpa using bA.1 h)];rfl
 · rw[if_neg h,if_neg (by intro e;exact h (bA.2 (by simpa using e)))]
end
@[go_sem] theorem AG : (1 : Int).toNat = 1 := (rfl)
@[go_sem] theorem Ea : (2 : Int).toNat = 2 := (rfl)
@[go_sem] theorem y0 : (3 : Int).toNat = 3 := (rfl)
section
variable {H t : ab} {i j k : Nat} {o o' : Obj}
theorem kh(h:i<H.length):(H++t)[i]?=H[i]?:=aLg h
theorem s5(h:i<H.length):(H.set i o)[i]?=some o:=by simp[h]
theorem fY(h:i≠j):(H.set i o)[j]?=H[j]?:=aLi h
theorem nL(h:H[i]?=some o):i<H.length:=(aLe.1 h).1
end
end Go.Ev
namespace Go.Ev.N
def vV:Nat:=123
def tU:Nat:=124
def xA:Nat:=125
def vW:Nat:=126
def Eb:Nat:=127
def Ec:Nat:=128
def Ed:Nat:=129
def H3:Nat:=130
def H4:Nat:=131
def Ee:Nat:=132
def Ef:Nat:=133
def y3:Nat:=134
def y4:Nat:=135
def H5:Nat:=136
def Eg:Nat:=137
def y5:Nat:=138
def AH:Nat:=139
def xB:Nat:=140
def AI:Nat:=141
def y6:Nat:=142
def vX:Nat:=143
def vY:Nat:=144
def vZ:Nat:=145
def AJ:Nat:=146
def AK:Nat:=147
def s6:Nat:=148
end Go.Ev.N
namespace Go.Ev.N
def rD:Nat:=149
def wa:Nat:=150
def wc:Nat:=151
def tV:Nat:=152
def Eh:Nat:=153
def Ei:Nat:=154
def AL:Nat:=155
def AM:Nat:=156
def Ej:Nat:=157
def H6:Nat:=158
def Ek:Nat:=159
def o6:Nat:=160
def rE:Nat:=161
def El:Nat:=162
def H7:Nat:=163
def AN:Nat:=164
def H8:Nat:=165
def AO:Nat:=166
def H9:Nat:=167
def gH:Nat:=168
def y7:Nat:=169
def y8:Nat:=170
def s7:Nat:=171
def y9:Nat:=172
def Ia:Nat:=173
def iD:Nat:=174
def we:Nat:=175
def wi:Nat:=176
def Em:Nat:=177
end Go.Ev.N
namespace Go.Ev.K
open Go.Ev
end Go.Ev.K
namespace Go.Ev
class bU [Lib]:Prop where
namespace K
variable [Lib] [bU]
end K
end Go.Ev
namespace Go.Ev.K
open Go.Ev
end Go.Ev.K
namespace Go.Ev
class bV [Lib]:Prop where
namespace K
variable [Lib] [bV]
end K
end Go.Ev
namespace Go.Ev
open Go
variable [Lib] [aM] [aO] [bU] [bV]
section
variable (H : ab) (sz : Nat)
def AP(id ep n lo hi:Nat)(ys:List D):Option Obj→Option (D×ab)
 | some (.arr sz' pin ep' es)=>if ep=ep'∧n=es.length then Bv H id ep (sz',pin,es) lo hi ys sz else none
 | _=>none
def cpD(x:D)(ys:List D):Option (D×ab):=if aE sz ys=true then(match x with
 | .ref id ep n=>AP H sz id ep n 0 n ys H[id]?
 | .sub id ep n lo hi=>AP H sz id ep n lo hi ys H[id]?
 | _=>none)else none
def Pf(x y:Option D):Option (D×ab):=x.bind fun a=>y.bind fun b=>mX H a b sz
@[go_sem] theorem UG (call : ai) (get : X → Option D) (x y : X) : evO call get H (.cp x y sz) = Pf H sz (get x) (get y) := (rfl)
theorem rF(x y:D)(ys:List D)(h:elems H y=some ys):mX H x y sz=cpD H sz x ys:=by
 unfold mX cpD
 rw[h,aLq]
 split
 · rename_i hh
   cases x with
   | ref id ep n=>
     simp only[bE,AP]
     cases H[id]? with
     | none=>rfl
     | some o=>
       cases o with
       | box cs=>rfl
       | arr sz' pin ep' es=>
         simp only
         by_cases c:ep=ep'∧n=es.length
         · rw[if_pos c,if_pos c];rfl
         · rw[if_neg c,if_neg c];rfl
   | sub id ep n lo hi=>
     simp only[bE,AP]
     cases H[id]? with
     | none=>rfl
     | some o=>
       cases o with
       | box cs=>rfl
       | arr sz' pin ep' es=>
         simp only
         by_cases c:ep=ep'∧n=es.length
         · rw[if_pos c,if_pos c];rfl
         · rw[if_neg c,if_neg c];rfl
   | _=>rfl
 · rfl
@[go_sem] theorem TK (x : D) (ts : List T) : Pf H sz (some x) (some (.t (.sl ts))) = cpD H sz x (ts.map .t) := rF H sz x (.t (.sl ts)) (ts.map .t) rfl
def cpE(x:D)(ep n lo hi:Nat):Option Obj→Option (D×ab)
 | some (.arr _ _ ep' es)=>if ep=ep'∧n=es.length then cpD H sz x ((es.drop lo).take (hi-lo))else none
 | _=>none
@[go_sem] theorem Sb (x : D) (n lo hi sz' : Nat) (pin : Bool) (ep : Nat) (es : List D) : cpE H sz x ep n lo hi (some (.arr sz' pin ep es)) = if n = es.length then cpD H sz x ((es.drop lo).take (hi - lo)) else none := by simp [cpE]
@[go_sem] theorem Pg (x : D) (id ep n lo hi : Nat) : Pf H sz (some x) (some (.sub id ep n lo hi)) = cpE H sz x ep n lo hi H[id]? := by
 unfold Pf
 simp only[aLq]
 cases h:H[id]? with
 | none=>simp[mX,elems,bE,h,cpE]
 | some o=>
   cases o with
   | box cs=>simp[mX,elems,bE,h,cpE]
   | arr sz' pin ep' es=>
     by_cases c:ep=ep'∧n=es.length
     · rw[rF H sz x _ ((es.drop lo).take (hi-lo)) (by simp[elems,bE,h,c])]
       simp only[cpE,if_pos c]
     · simp[mX,elems,bE,h,cpE,c]
@[go_sem] theorem Sc (id ep n : Nat) (ys : List D) : cpD H sz (.ref id ep n) ys = if aE sz ys = true then AP H sz id ep n 0 n ys H[id]? else none := (rfl)
@[go_sem] theorem Sd (id ep n lo hi : Nat) (ys : List D) : cpD H sz (.sub id ep n lo hi) ys = if aE sz ys = true then AP H sz id ep n lo hi ys H[id]? else none := (rfl)
@[go_sem] theorem Ph (id n lo hi : Nat) (ys : List D) (ep : Nat) (es : List D) : AP H sz id ep n lo hi ys (some (.arr sz false ep es)) =
 if n=es.length then(if min ys.length (hi-lo)=0 then some (.t (.int .i64 0),H)else some (.t (.int .i64 ((min ys.length (hi-lo):Nat):Int)),H.set id (.arr sz false ep (es.take lo++ys.take (min ys.length (hi-lo))++es.drop (lo+min ys.length (hi-lo))))))else none:=by
 simp[AP,Bv]
end
end Go.Ev
namespace Go.Ev
open Go
variable [Lib] [aM] [aO] [bU] [bV]
end Go.Ev
namespace Go.Ev.N
def s8:Nat:=178
def s9:Nat:=179
def tW:Nat:=180
def ta:Nat:=181
def tX:Nat:=182
def wj:Nat:=183
def tY:Nat:=184
def En:Nat:=185
def AQ:Nat:=186
def Eo:Nat:=187
def wm:Nat:=188
def Ep:Nat:=189
def AR:Nat:=190
def AS:Nat:=191
def Ib:Nat:=192
def za:Nat:=193
def AT:Nat:=194
def Er:Nat:=195
def Ic:Nat:=196
def L6:Nat:=197
def xC:Nat:=198
def xD:Nat:=199
def Ie:Nat:=200
def zb:Nat:=201
def pv:Nat:=202
def AU:Nat:=203
def aG:Nat:=204
def wq:Nat:=205
def Es:Nat:=206
def AV:Nat:=207
def wt:Nat:=208
def tZ:Nat:=209
def wu:Nat:=210
def L7:Nat:=211
def L8:Nat:=212
def L9:Nat:=213
def Ig:Nat:=214
end Go.Ev.N
namespace Go.Ev.K
open Go.Ev
end Go.Ev.K
namespace Go.Ev
class cH [Lib]:Prop where
namespace K
variable [Lib] [cH]
end K
end Go.Ev
namespace Go.Ev.K
open Go.Ev
def aG:Fn:= { cI:=1,vars:=[0,2],body:=(q [w 1 (.mv (.c (.nil)))] [] (.itk [m v0,u (.eqk (.sl) false l0 (.c (.nil)))] [] 0 (q [w 1 (.nw 1)] [] .ret) .skip (q [u (.bsr [] 1),m v0,u (.app l1 l0 false 1),x 1 l0] [] .ret))),res:=[(1,none)]}
end Go.Ev.K
namespace Go.Ev
class cG [Lib]:Prop where
 cR:Lib.fs N.aG=some K.aG
namespace K
variable [Lib] [cG]
theorem cR:Lib.fs N.aG=some K.aG:=cG.cR
end K
end Go.Ev
namespace Go.Ev
open Go
variable [Lib] [aM] [aO] [bU] [bV] [cH] [cG]
end Go.Ev
namespace Go.Ev.K
open Go.Ev
end Go.Ev.K
namespace Go.Ev
class di [Lib]:Prop where
namespace K
variable [Lib] [di]
end K
end Go.Ev
namespace Go.Ev.N
def xE:Nat:=215
def xF:Nat:=216
def xG:Nat:=217
def Et:Nat:=218
def Eu:Nat:=219
def Ew:Nat:=220
def Ih:Nat:=221
def Ii:Nat:=222
def Ij:Nat:=223
def Ma:Nat:=224
def Ey:Nat:=225
def Ez:Nat:=226
def EA:Nat:=227
def Mb:Nat:=228
def EB:Nat:=229
def EC:Nat:=230
def Ik:Nat:=231
def AX:Nat:=232
def Il:Nat:=233
def AY:Nat:=234
def AZ:Nat:=235
def A0:Nat:=236
def Im:Nat:=237
def A1:Nat:=238
def Mc:Nat:=239
def Md:Nat:=240
def qh:Nat:=241
def Io:Nat:=242
def ED:Nat:=243
def xH:Nat:=244
end Go.Ev.N
namespace Go.Ev.K
open Go.Ev
end Go.Ev.K
namespace Go.Ev
class bG [Lib]:Prop where
namespace K
variable [Lib] [bG]
end K
end Go.Ev
namespace Go.Ev
open Go
variable [Lib] [aM] [aO] [bM] [bP] [di] [bU] [bV] [cH] [cG] [bG]
end Go.Ev
namespace Go.Ev
open Go
theorem qi{d:D}{n:Int}(h:qI d=some n):d= .t (.int .i64 n):=by
 unfold qI at h
 split at h
 · cases h;rfl
 · cases h
theorem wx:∀ {es:List D} {l:List Int},az qI es=some l→es=l.map fun x=> .t (.int .i64 x)
 | [],l,h=>by simp[az]at h;subst h;rfl
 | e::r,l,h=>by
   simp only[az,aLa,aLb]at h
   obtain⟨x,hx,y,hy,rfl⟩:=h
   rw[qi hx,wx hy];rfl
theorem lP(x:Int):∀l,(By x l).Perm (x::l)
 | []=> .refl _
 | y::r=>by
   unfold By
   split
   · exact .refl _
   · exact((lP x r).cons y).trans (.swap x y r)
theorem jO:∀l,(fh l).Perm l
 | []=> .refl _
 | x::r=>(lP x _).trans ((jO r).cons x)
theorem wy{x:Int}:∀ {l:List Int},l.Pairwise (· ≤ ·)→(By x l).Pairwise (· ≤ ·)
 | [],_=>by simp[By]
 | y::r,h=>by
   unfold By
   split
   · rename_i hx
     refine List.pairwise_cons.2 ⟨fun z hz=>?_,h⟩
     rcases List.mem_cons.1 hz with rfl | hz
     · exact hx
     · have:=(List.pairwise_cons.1 h).1 z hz;omega
   · rename_i hx
     have h':=List.pairwise_cons.1 h
     refine List.pairwise_cons.2 ⟨fun z hz=>?_,wy h'.2⟩
     have hz:=(lP x r).mem_iff.1 hz
     rcases List.mem_cons.1 hz with rfl | hz
     · omega
     · exact h'.1 z hz
theorem rG:∀l,(fh l).Pairwise (· ≤ ·)
 | []=> .nil
 | x::r=>wy (rG r)
theorem fZ(l:List Int):(fh l).length=l.length:=(jO l).length_eq
theorem rH(l:List Int):(l.mergeSort fun x y=>decide (x≤y))=fh l:=by
 refine List.Perm.eq_of_pairwise (le:=(· ≤ ·)) (fun a b _ _ h1 h2=>by omega) ?_ (rG l) ((List.mergeSort_perm _ _).trans (jO l).symm)
 have:=List.pairwise_mergeSort (le:=fun x y:Int=>decide (x≤y)) (fun a b c=>by simp;omega) (fun a b=>by simp;omega) l
 exact this.imp (by simp)
end Go.Ev
namespace Go.Ev
open Go
variable [Lib] [aM] [aO] [bM] [bP] [di] [bU] [bV] [cH] [cG] [bG]
section
variable (k : Keys) (hl : k.keys.length ≤ 1000000) (hr : k.roads.length ≤ 1000000)
include hl hr
end
end Go.Ev
namespace Go.Ev
open Go
variable [Lib] [aM] [aO] [bM] [bP] [di] [bU] [bV] [cH] [cG] [bG]
section
variable (b u v y : Obj) (ds : ab)
end
end Go.Ev
namespace Go.Ev.N
def rI:Nat:=245
def qj:Nat:=246
def qk:Nat:=247
def EE:Nat:=248
def zc:Nat:=249
def EF:Nat:=250
def rJ:Nat:=251
def xI:Nat:=252
def wz:Nat:=253
def EG:Nat:=254
def A2:Nat:=255
def Ip:Nat:=256
def EH:Nat:=257
def tc:Nat:=258
def fy:Nat:=259
def aQ:Nat:=260
def aD:Nat:=261
def A3:Nat:=262
def n5:Nat:=263
def dT:Nat:=264
def zd:Nat:=265
def fJ:Nat:=266
def ak:Nat:=267
def wA:Nat:=268
def ez:Nat:=269
def cmp_isNaN_int:Nat:=270
end Go.Ev.N
namespace Go.Ev.K
open Go.Ev
def aQ:Fn:= { cI:=1,vars:=[2],body:= .fail,res:=[(0,none)],prim:=[2,N.ak]}
def aD:Fn:= { cI:=1,vars:=[0,1,2],body:=(q [w 1 (.bx v0 1),w 2 (.mv (.c (.und)))] [] (q [u (.mf N.ak [.v 1]),x 2 l0] [] .ret)),res:=[(2,none)]}
def dU:C:= (.its [u (.bin .lss v5 v4)] [] 0 .skip (.exit 0) (.seq (.blk 1 (q [a 1 v3 v5,g l0,x 2 l0] [] (.ite [m v0,m v2,u (.cw l1 0 [] [.l 0]),u (.un .not l0)] [] 0 .ret .skip))) (.reg [u (.bin .add v5 (.i 1)),x 5 l0] [])))
def eb:C:= .loop true [1,2] K.dU
def ak:Fn:= { cI:=2,vars:=[0,1,4,5,6,7],body:=(q [w 3 (.ld v1 1 false),w 4 (.ln l0),x 5 (.i 0)] [] (.blk 0 K.eb)),res:=[]}
end Go.Ev.K
namespace Go.Ev
class bN [Lib]:Prop where
 dV:Lib.fs N.aQ=some K.aQ
 cO:Lib.fs N.aD=some K.aD
 cy:Lib.fs N.ak=some K.ak
namespace K
variable [Lib] [bN]
theorem dV:Lib.fs N.aQ=some K.aQ:=bN.dV
theorem cO:Lib.fs N.aD=some K.aD:=bN.cO
theorem cy:Lib.fs N.ak=some K.ak:=bN.cy
end K
end Go.Ev
namespace Go.Ev
open Go
variable [Lib] [aM] [aO] [bM] [bP] [di] [bU] [bV] [cH] [cG] [bG] [bN]
end Go.Ev
namespace Go.Ev
open Go
variable [Lib] [aM] [aO]
def rK(m:bT)(b:Bel)(tag:Int):Int:=if TE m b=false then 6 else if jM (nth b.bc 0).tags tag<0 then 41 else 0
def Se(a b:Wh)(t:Int):Bool:=(List.range (min a.frm.length b.frm.length)).any fun p=>decide (nth a.frm p≤t∧nth b.frm p≤t)
def qm(m:bT)(jW:List Int)(t:Int)(j:Nat):List Wh:=(List.range j).map fun i=>(vN m (nth jW i) t).1
@[simp] theorem EI (m : bT) (jW : List Int) (t : Int) (j : Nat) : (qm m jW t j).length = j := by simp [qm]
def ze(m:bT)(tags jW:List Int)(t:Int):Bel×Int:=
 if tags.length=jW.length∧1≤tags.length∧tags.length≤12 then
  if qf tags=true then match (List.range tags.length).find? (fun i=> !decide ((vN m (nth jW i) t).2=0))with
   | some i=>(⟨[]⟩,(vN m (nth jW i) t).2)
   | none=>(⟨[⟨tags,qm m jW t tags.length⟩]⟩,0)
  else(⟨[]⟩,41)
 else(⟨[]⟩,6)
@[go_sem] theorem Pj : ([] : List D).all cU = true := (rfl)
@[go_sem] theorem Me (d : D) (r : List D) : (d :: r).all cU = (cU d && r.all cU) := (rfl)
@[go_sem] theorem EJ (cs : List T) : cU (.t (.agg cs)) = false := (rfl)
@[go_sem] theorem Iq (cs : List T) : cU (.t (.sl cs)) = false := (rfl)
@[go_sem] theorem EK (k : IntKind) (n : Int) : cU (.t (.int k n)) = true := (rfl)
@[go_sem] theorem A4 (b : Bool) : cU (.t (.bool b)) = true := (rfl)
@[go_sem] theorem TL (l : List Wh) (k : Nat) (a : Int) (b : List Int) : (List.map D.t (List.map Wh.e l)).set k (D.t (T.agg [tI a, tL b])) = List.map D.t (List.map Wh.e (l.set k ⟨a, b⟩)) := by
 rw[List.map_set,List.map_set]
def Pk(m:bT)(tag:Int)(l:List Int)(a b:Int)(x:World):Wh×Int:=UD m (nth x.whr (jM x.tags tag).toNat) l a b
def TM(tag:Int)(x:World)(w:Wh):World:=⟨x.tags,x.whr.set (jM x.tags tag).toNat w⟩
def Sf(tag:Int)(r:Wh×Int)(x:World)(out:List World):List World:=
 if r.2=43 then out else out++[if r.2=0 then TM tag x r.1 else x]
def EL(m:bT)(tag:Int)(l:List Int)(a b:Int)(ws:List World):Nat→List World
 | 0=>[]
 | j+1=>Sf tag (Pk m tag l a b (nth ws j)) (nth ws j) (EL m tag l a b ws j)
def Mf(m:bT)(tag:Int)(l:List Int)(a b:Int)(ws:List World)(j:Nat):Bool:=decide ((Pk m tag l a b (nth ws j)).2=6∨(Pk m tag l a b (nth ws j)).2=8)
def Mg(m:bT)(b:Bel)(tag:Int)(l:List Int)(a c:Int):Bel×Int:=
 if rK m b tag≠0 then(b,rK m b tag)else match (List.range b.bc.length).find? (Mf m tag l a c b.bc)with
  | some i=>(b,(Pk m tag l a c (nth b.bc i)).2)
  | none=>if(EL m tag l a c b.bc b.bc.length).length=0 then(b,43)else(⟨EL m tag l a c b.bc b.bc.length⟩,0)
def Pl(m:bT)(tag:Int)(l:List Int)(a b bl:Int)(x:World):Wh×Int:=UE m (nth x.whr (jM x.tags tag).toNat) l a b bl
def Sg(tag:Int)(r:Wh×Int)(x:World)(out:List World):List World:=out++[if r.2=0 then TM tag x r.1 else x]
def Mh(m:bT)(tag:Int)(l:List Int)(a b bl:Int)(ws:List World):Nat→List World
 | 0=>[]
 | j+1=>Sg tag (Pl m tag l a b bl (nth ws j)) (nth ws j) (Mh m tag l a b bl ws j)
def Mi(m:bT)(tag:Int)(l:List Int)(a b bl:Int)(ws:List World)(j:Nat):Bool:=decide ((Pl m tag l a b bl (nth ws j)).2=6∨(Pl m tag l a b bl (nth ws j)).2=8)
def Mj(m:bT)(b:Bel)(tag:Int)(l:List Int)(a c bl:Int):Bel×Int:=
 if rK m b tag≠0 then(b,rK m b tag)else match (List.range b.bc.length).find? (Mi m tag l a c bl b.bc)with
  | some i=>(b,(Pl m tag l a c bl (nth b.bc i)).2)
  | none=>(⟨Mh m tag l a c bl b.bc b.bc.length⟩,0)
abbrev ints(l:List Int):List D:=(l.map (T.int .i64)).map .t
abbrev whs(l:List Wh):List D:=(l.map Wh.e).map .t
def td(out:List World)(x:World):Nat:=match (List.range out.length).find? (fun k=> !LK (nth out k).tags x.tags)with
 | some k=>k
 | none=>out.length
def Mk(a b:List Wh):Nat→List Wh
 | 0=>a
 | p+1=>(Mk a b p).set p (yS (nth a p) (nth b p)).1
def Ml(a b:List Wh):List Wh:=Mk a b (min a.length b.length)
def Si(out:List World)(x:World):List World:=
 if td out x<out.length∧(nth out (td out x)).tags=x.tags then out.set (td out x) ⟨x.tags,Ml (nth out (td out x)).whr x.whr⟩
 else out.take (td out x)++[x]++out.drop (td out x)
def Mm(l:List World):Nat→List World
 | 0=>[]
 | j+1=>Si (Mm l j) (nth l j)
def Mn(l:List World):List World:=Mm l l.length
structure Rp(H:ab)(id:Nat)(es:List D)(fa fb:Nat→Nat)(out:List World):Prop where
 arr:H[id]?=some (.arr 2 false 0 es)
 len:es.length=out.length
 el:∀j,j<out.length→es[j]?=some (.agg [.ref (fa j) 0 (nth out j).tags.length,.ref (fb j) 0 (nth out j).whr.length])
 ha:∀j,j<out.length→H[fa j]?=some (.arr 1 false 0 (ints (nth out j).tags))
 hb:∀j,j<out.length→H[fb j]?=some (.arr 2 false 0 (whs (nth out j).whr))
 na:∀j,j<out.length→fa j≠id
 nb:∀j,j<out.length→fb j≠id
 nab:∀i j,i<out.length→j<out.length→fa i≠fb j
 nbb:∀i j,i<out.length→j<out.length→i≠j→fb i≠fb j
@[go_sem] theorem Pm (a b : Wh) : (yS a b).1.e = .agg [tI (yS a b).1.time, tL (yS a b).1.frm] := rfl
theorem Rp.size{H:ab}{id:Nat}{es:List D}{fa fb:Nat→Nat}{out:List World}(hr:Rp H id es fa fb out):∀e∈es,e.cells.length=2:=by
 intro e he
 obtain⟨j,hj⟩:=aLf.1 he
 have hl:=(aLe.1 hj).1
 rw[hr.el j (by rw[← hr.len];exact hl)]at hj
 cases hj;rfl
theorem qn{α:Type} [Dat α](l:List α)(k:Nat)(hk:k<l.length)(x:α)(j:Nat):nth (l.set k x) j=if j=k then x else nth l j:=by
 unfold nth
 rw[aLl]
 by_cases h:j=k
 · rw[if_pos h,h,aLj hk];rfl
 · rw[if_neg h,aLi (fun e=>h e.symm),aLl]
theorem Rp.merge{H:ab}{id:Nat}{es:List D}{fa fb:Nat→Nat}{out:List World}(hr:Rp H id es fa fb out){k:Nat}(hk:k<out.length)(x:World)(ht:(nth out k).tags=x.tags)(hw:x.whr.length=(nth out k).whr.length):
 Rp (H.set (fb k) (.arr 2 false 0 (whs x.whr))) id es fa fb (out.set k x):=by
 have ol:(out.set k x).length=out.length:=List.length_set
 have nk:=hr.nb k hk
 have kl:=nL (hr.hb k hk)
 refine⟨by rw[fY nk];exact hr.arr,by rw[ol];exact hr.len,?_,?_,?_,by rw[ol];exact hr.na,by rw[ol];exact hr.nb,by rw[ol];exact hr.nab,by rw[ol];exact hr.nbb⟩
 · intro j hj
   rw[ol]at hj
   rw[hr.el j hj,qn out k hk]
   by_cases h:j=k
   · rw[if_pos h,h,ht,hw]
   · rw[if_neg h]
 · intro j hj
   rw[ol]at hj
   rw[fY (fun e=>hr.nab j k hj hk e.symm),hr.ha j hj,qn out k hk]
   by_cases h:j=k
   · rw[if_pos h,h,ht]
   · rw[if_neg h]
 · intro j hj
   rw[ol]at hj
   rw[qn out k hk]
   by_cases h:j=k
   · rw[if_pos h,h,s5 kl]
   · rw[if_neg h,fY (fun e=>hr.nbb j k hj hk h e.symm)];exact hr.hb j hj
theorem Rp.frz{H:ab}{id:Nat}{es:List D}{fa fb:Nat→Nat}{out:List World}(hr:Rp H id es fa fb out):
 az (frz H 8) es=some (out.map World.e)∧∀i∈es.flatMap (bf H 8),i≠id:=by
 have hl:=hr.len
 have key:∀(j:Nat) (hj:j<out.length),Go.Ev.frz H 8 (.agg [.ref (fa j) 0 (nth out j).tags.length,.ref (fb j) 0 (nth out j).whr.length])=some (nth out j).e∧
  bf H 8 (.agg [.ref (fa j) 0 (nth out j).tags.length,.ref (fb j) 0 (nth out j).whr.length])=[fa j,fb j]:=by
  intro j hj
  have h1:=hr.ha j hj
  have h2:=hr.hb j hj
  simp(disch:=omega)only[go_sem,h1,h2,ints,whs,↓reduceIte]
 constructor
 · have:∀(es:List D) (ts:List T),es.length=ts.length→(∀(j:Nat) e t,es[j]?=some e→ts[j]?=some t→Go.Ev.frz H 8 e=some t)→az (Go.Ev.frz H 8) es=some ts:=by
    intro es
    induction es with
    | nil=>intro ts h _;cases ts with
      | nil=>rfl
      | cons=>simp at h
    | cons e es ih=>
      intro ts h hh
      cases ts with
      | nil=>simp at h
      | cons t ts=>
        have h1:=hh 0 e t rfl rfl
        have h2:=ih ts (by simpa using h) fun j e t he ht=>hh (j+1) e t (by simpa using he) (by simpa using ht)
        simp only[az,h1,aLq,h2,aLw]
   refine this es _ (by rw[List.length_map,hl]) fun j e t he ht=>?_
   have hj:j<out.length:=by rw[← hl];exact(aLe.1 he).1
   rw[hr.el j hj]at he
   rw[ir _ hj]at ht
   cases he;cases ht
   exact(key j hj).1
 · intro i hi
   obtain⟨e,he,hi⟩:=List.mem_flatMap.1 hi
   obtain⟨j,hj⟩:=aLf.1 he
   have hjl:j<out.length:=by rw[← hl];exact(aLe.1 hj).1
   rw[hr.el j hjl]at hj
   cases hj
   rw[(key j hjl).2]at hi
   simp only[List.mem_cons,List.not_mem_nil,or_false]at hi
   rcases hi with rfl | rfl
   · exact hr.na j hjl
   · exact hr.nb j hjl
@[go_sem] theorem A5 {α β γ : Type} [Dat α] (f : β → γ) (g : α → β) {l : List α} {i j : Nat} {x : α} (h : j < l.length) : (((l.set i x).map g).map f)[j]? = some (f (g (nth (l.set i x) j))) := nI f g (by rw [List.length_set]; exact h)
def Sj(l:List Int)(i j:Nat):List Int:=(l.set i (nth l j)).set j (nth l i)
def Sk(i j:Nat)(t:Int)(x:World):World:=⟨Sj x.tags i j,(x.whr.set i (Aq (nth x.whr i) t).1).set j (Aq (nth x.whr j) t).1⟩
def Sl(i j:Nat)(t:Int)(x:World)(out:List World):List World:=if Se (nth x.whr i) (nth x.whr j) t=true then out++[Sk i j t x]else out
def wB(i j:Nat)(t:Int)(ws:List World):Nat→List World
 | 0=>ws
 | k+1=>Sl i j t (nth ws k) (wB i j t ws k)
def EM(m:bT)(b:Bel)(i j t:Int):Bel×Int:=
 if TE m b=false then(b,6)else if i<0∨((nth b.bc 0).tags.length:Int)≤i∨j<0∨((nth b.bc 0).tags.length:Int)≤j∨i=j then(b,19)
 else if ¬inT t then(b,8)else if 24<(Mn (wB i.toNat j.toNat t b.bc b.bc.length)).length then(b,44)else(⟨Mn (wB i.toNat j.toNat t b.bc b.bc.length)⟩,0)
def Mo:Nat→List Int
 | 0=>[]
 | k+1=>Mo k++[3+(k:Int)*2]
def au.rL(d:au)(n:Int):Nat→List Int×au
 | 0=>([],d)
 | k+1=>((d.rL n k).1++[((d.rL n k).2.next n).1],((d.rL n k).2.next n).2)
structure BSt where
 b:Bel
 t:Int
 d:au
def au.EN(m:bT)(n:Int)(s:BSt):BSt:=
 let a:=s.d.next 60
 let c:=a.2.next 3
 if c.1=0 then
  let i:=c.2.next n
  let j:=i.2.next n
  let r:=EM m s.b i.1 j.1 (s.t+a.1)
  ⟨if r.2=0 then r.1 else s.b,s.t+a.1,j.2⟩
 else if c.1=1 then
  let g:=c.2.next n
  let l:=g.2.sX m.a8.length
  let e:=l.2.next 9
  let r:=Mg m s.b (3+2*g.1) l.1 (s.t+a.1) (s.t+a.1+e.1)
  ⟨if r.2=0 then r.1 else s.b,s.t+a.1,e.2⟩
 else
  let g:=c.2.next n
  let l:=g.2.sX m.a8.length
  let e:=l.2.next 40
  let r:=Mj m s.b (3+2*g.1) l.1 (s.t+a.1) (s.t+a.1+50) e.1
  ⟨if r.2=0 then r.1 else s.b,s.t+a.1,e.2⟩
def au.TN(m:bT)(n:Int)(s:BSt):Nat→BSt
 | 0=>s
 | k+1=>au.EN m n (au.TN m n s k)
def au.Sm(d:au):Nat:=(1+(d.next 3).1).toNat
def au.Pn(d:au)(m:bT):List Int×au:=(d.next 3).2.rL m.a8.length d.Sm
def au.UH(d:au)(m:bT):BSt:=⟨(ze m (Mo d.Sm) (d.Pn m).1 ((d.Pn m).2.next 100).1).1,100,(((d.Pn m).2.next 100).2.next 5).2⟩
def au.UI(d:au)(m:bT):Nat:=(((d.Pn m).2.next 100).2.next 5).1.toNat
def au.TO(d:au)(m:bT):BSt:=au.TN m d.Sm (d.UH m) (d.UI m)
def au.TP(d:au)(m:bT):Bel×au:=((d.TO m).b,(d.TO m).d)
structure WOk(m:bT)(N:Nat)(x:World):Prop where
 tg:x.tags.length=N
 wh:x.whr.length=N
 fr:∀w∈x.whr,w.frm.length=m.a8.length
 ti:∀w∈x.whr,inT w.time
structure BOk(m:bT)(N:Nat)(b:Bel):Prop where
 w1:1≤b.bc.length
 w2:b.bc.length≤24
 n1:1≤N
 n2:N≤12
 ws:∀x∈b.bc,WOk m N x
theorem WOk.sz{m:bT}{N:Nat}{x:World}(h:WOk m N x)(hm:m.ok)(hn:N≤12):x.sz:=by
 have np:=hm.np
 obtain⟨t1,t2,t3, -⟩:=h
 exact⟨by omega,by omega,fun w hw=>by rw[t3 w hw];omega⟩
theorem BOk.sz{m:bT}{N:Nat}{b:Bel}(h:BOk m N b)(hm:m.ok):b.sz:=
 ⟨by have:=h.w2;omega,fun x hx=>(h.ws x hx).sz hm h.n2⟩
def au.spread(d:au)(m:bT)(fl:List Spn):Wh×au:=
 let p:=d.next m.a8.length
 let t:=p.2.next 200
 let s:=LI m fl [p.1] t.1
 let o:=t.2.one 2
 if o.1=true then
  let f:=o.2.R8 m
  let a:=f.2.next 100
  let r:=DM m fl m f.1 s.1 (s.1.time+a.1)
  if r.2=0 then(r.1,a.2)else(s.1,a.2)
 else(s.1,o.2)
structure Mch where
 kind:Int
 num:Int
 pl:List Int
instance : Dat Mch := ⟨⟨0, 0, []⟩⟩
abbrev Mch.e(x:Mch):T:= .agg [tI x.kind,tI x.num,tL x.pl]
@[go_sem] theorem Mp (l : List Mch) : eD 3 (l.map Mch.e) = true := by cases l <;> rfl
end Go.Ev
namespace Go.Ev
open Go
variable [Lib] [aM] [aO] [bM] [bP] [di] [bU] [bV] [cH] [cG] [bG] [bN]
end Go.Ev
namespace Go.Ev
open Go
variable [Lib] [aM] [aO] [bU] [bV] [cH] [cG]
@[go_sem] theorem TQ (H : ab) (len j : Nat) (ts : List T) (h : j < len) : Ke H len 1 false (.t (.agg ts)) j = (ts[j]?).map fun t => (.t t, H) := by
 have h0:len≠0:=by omega
 unfold Ke my
 rw[if_neg h0,if_pos h]
 unfold iH cut
 simp only[D.isAgg,D.cells,T.cells,if_true,Nat.mul_one,List.length_map]
 by_cases hj:j<ts.length
 · rw[if_pos (by omega),aLc hj]
   have e:((ts.map D.t).drop j).take 1=[D.t ts[j]]:=by
    rw[List.drop_eq_getElem_cons (by simpa using hj)];simp
   rw[e];rfl
 · rw[if_neg (by omega),aLm (by omega)];rfl
section
variable (a0 a1 a2 a3 a4 a5 x y : Obj) (ds : ab)
end
@[go_sem] theorem Po (n : Nat) : eqB n n = true := by
 induction n with
 | zero=>rfl
 | succ n ih=>exact ih
end Go.Ev
namespace Go.Ev
open Go
variable [Lib] [aM] [aO] [bM] [bP] [bU] [bV] [cH] [cG]
end Go.Ev
namespace Go.Ev
open Go
variable [Lib] [aM] [aO] [bM] [bP] [di] [bU] [bV] [cH] [cG] [bG] [bN]
end Go.Ev
namespace Go.Ev
open Go
variable [Lib] [aM] [aO]
section
variable {m : bT} (h : m.ok) {t : Int} {into : Option (List Int)}
include h
end
end Go.Ev
namespace Go.Ev
open Go
variable [Lib] [aM] [aO] [cH] [cG]
end Go.Ev
namespace Go.Ev
open Go
variable [Lib] [aM] [aO] [bM] [bP] [bU] [bV] [cH] [cG]
end Go.Ev
namespace Go.Ev
open Go
variable [Lib] [aM] [aO]
section
variable {m : bT} (hm : m.ok) {N : Nat} {b : Bel} (hb : BOk m N b) {s : Wh} (hs : s.frm.length = m.a8.length) {l : List Mch}
variable (hl : ∀ y ∈ l, y.pl.length ≤ m.a8.length ∧ 1 ≤ y.pl.length ∧ ∀ x ∈ y.pl, 0 ≤ x ∧ x < m.a8.length) {t a : Int} (t0 : 0 ≤ t) (t1 : t ≤ 10000) (a0 : 0 ≤ a) (a1 : a ≤ 10000) (d : au)
include hm hb hs hl t0 t1 a0 a1
omit hm hb t0 t1 a1 in
end
def au.skip(d:au)(n:Int):Nat→au
 | 0=>d
 | k+1=>((d.skip n k).next n).2
end Go.Ev
namespace Go.Ev
open Go
variable [Lib] [aM] [aO] [di]
end Go.Ev
namespace Go.Ev
open Go
variable [Lib] [aM] [aO] [bM] [bP] [di] [bU] [bV] [cH] [cG]
end Go.Ev
namespace Go.Ev
open Go
variable [Lib] [aM] [aO] [bM] [bP] [di] [bU] [bV] [cH] [cG] [bG] [bN]
def lexB:List Int→List Int→Bool
 | _,[]=>false
 | [],_::_=>true
 | a::r,b::s=>decide (a<b)||(decide (a=b)&&lexB r s)
structure WV(m:bT)(first:List Int)(x:World):Prop where
 pm:x.tags.Perm first
 wl:x.whr.length=first.length
 wv:∀w∈x.whr,o5 m w=true
structure BV(m:bT)(first:List Int)(ws:List World):Prop where
 pr:qf first=true
 f1:1≤first.length
 f2:first.length≤12
 wv:∀x∈ws,WV m first x
 up:ws.Pairwise fun x y=>lexB x.tags y.tags=true
end Go.Ev
namespace Go.Ev.N
def te:Nat:=271
def wC:Nat:=272
def qo:Nat:=273
def ua:Nat:=274
def xJ:Nat:=275
def wD:Nat:=276
def EO:Nat:=277
def EP:Nat:=278
def Ir:Nat:=279
def Is:Nat:=280
def xK:Nat:=281
def Mq:Nat:=282
def A6:Nat:=283
def ER:Nat:=284
def ES:Nat:=285
def It:Nat:=286
def jo:Nat:=287
def Iu:Nat:=288
def ET:Nat:=289
def EU:Nat:=290
def EW:Nat:=291
def EX:Nat:=292
def xL:Nat:=293
def EY:Nat:=294
def EZ:Nat:=295
def A7:Nat:=296
def jg:Nat:=297
def jh:Nat:=298
def zf:Nat:=299
def mS:Nat:=300
def fF:Nat:=301
def iv:Nat:=302
def kj:Nat:=303
def gI:Nat:=304
def jq:Nat:=305
def km:Nat:=306
def ji:Nat:=307
def xM:Nat:=308
end Go.Ev.N
namespace Go.Ev.K
open Go.Ev
end Go.Ev.K
namespace Go.Ev
class dK [Lib]:Prop where
namespace K
variable [Lib] [dK]
end K
end Go.Ev
namespace Go.Ev.K
open Go.Ev
end Go.Ev.K
namespace Go.Ev
class dL [Lib]:Prop where
namespace K
variable [Lib] [dL]
end K
end Go.Ev
namespace Go.Ev
open Go
variable [Lib] [aM] [aO] [bM] [bP] [di] [bU] [bV] [cH] [cG] [bG] [bN] [dK] [dL]
end Go.Ev
namespace Go.Ev
open Go
variable [Lib] [aM] [aO] [bM] [bP] [di] [bU] [bV] [cH] [cG]
end Go.Ev
namespace Go.Ev
open Go
variable [Lib] [aM] [aO] [bM] [bP] [di] [bU] [bV] [cH] [cG] [bG] [bN]
structure SH(n p:Nat)(l:List Wh):Prop where
 ln:l.length=n
 fr:∀w∈l,w.frm.length=p
theorem WV.sh{m:bT}{first:List Int}{x:World}(h:WV m first x):SH first.length m.a8.length x.whr:=
 ⟨h.wl,fun w hw=>(qe (h.wv w hw)).1⟩
end Go.Ev
namespace Go.Ev
open Go
variable [Lib] [aM] [aO] [bM] [bP] [di] [bU] [bV] [cH] [cG] [bG] [bN] [dK] [dL]
theorem Rp.more{H:ab}{id:Nat}{es:List D}{fa fb:Nat→Nat}{out:List World}(hr:Rp H id es fa fb out)(t:ab):Rp (H++t) id es fa fb out:=
 ⟨by rw[kh (nL hr.arr)];exact hr.arr,hr.len,hr.el,fun j hj=>by rw[kh (nL (hr.ha j hj))];exact hr.ha j hj,fun j hj=>by rw[kh (nL (hr.hb j hj))];exact hr.hb j hj,hr.na,hr.nb,hr.nab,hr.nbb⟩
end Go.Ev
namespace Go.Ev
open Go
variable [Lib] [aM] [aO] [bM] [bP] [di] [bU] [bV] [cH] [cG] [bG] [bN]
end Go.Ev
namespace Go.Ev
open Go
variable [Lib] [aM] [aO] [bU] [bV]
abbrev E1:Int:=2147483648
section
variable {m : bT} (h : m.ok) {fl : List Spn}
include h
end
end Go.Ev
namespace Go.Ev
open Go
def clP(m:bT)(fl:List Spn)(y:List Int):Prop:=∀k,k<m.roads.length→∀back,0≤jL (nth m.roads k) (nth fl k) back→
 nth y ((nth m.roads k).src back).toNat+jL (nth m.roads k) (nth fl k) back≤E1→
 nth y ((nth m.roads k).dst back).toNat≤nth y ((nth m.roads k).src back).toNat+jL (nth m.roads k) (nth fl k) back
variable [Lib] [aM] [aO] [bU] [bV]
end Go.Ev
namespace Go.Ev
open Go
variable [Lib] [aM] [aO] [bU] [bV]
def UJ(l:List Int):Prop:=∀x∈l,0≤x∧(x≤E1∨x=1099511627776)
end Go.Ev
namespace Go.Ev
open Go
variable [Lib] [aM] [aO] [bM] [bP] [bU] [bV]
structure Mr(m:bT)(fl:List Spn)(s:Wh):Prop where
 ln:s.frm.length=m.a8.length
 ti:inT s.time
 tm:UJ s.frm
 lo:∀x∈s.frm,s.time≤x
 cl:clP m fl s.frm
theorem Mr.valid{m:bT}{fl:List Spn}{s:Wh}(h:Mr m fl s):vQ m s=true:=by
 simp only[vQ,aLr,decide_eq_true_eq,aLx,aLu]
 refine⟨fun j hj=>?_,h.ln,h.ti⟩
 have a:=h.tm _ (jK hj)
 have b:=h.lo _ (jK hj)
 unfold plS
 simp only[E1]at a
 omega
end Go.Ev
namespace Go.Ev
open Go
variable [Lib] [aM] [aO] [bM] [bP] [di] [bU] [bV] [cH] [cG] [bG] [bN]
section
variable {m : bT} (hm : m.ok) (l : List Mch) (hl : l.length ≤ 1000) (hp : ∀ x ∈ l, x.pl.length ≤ 1000000) (s : Wh) (hs : s.frm.length ≤ 1000000) (b : Bel) (hb : b.sz) (t a : Int)
include hm hl hp hs hb
end
end Go.Ev
namespace Go.Ev
open Go
variable [Lib] [aM] [aO] [bM] [bP] [bU] [bV]
end Go.Ev
namespace Go.Ev
open Go
variable [Lib] [aM] [aO]
def sh(s x:Int):Int:=if x<1099511627776 then x+s else x
def shL(s:Int)(l:List Int):List Int:=l.map (sh s)
@[simp] theorem Sn (s : Int) (l : List Int) : (shL s l).length = l.length := List.length_map ..
end Go.Ev
namespace Go.Ev
open Go
variable [Lib] [aM] [aO] [bM] [bP] [di] [bU] [bV] [cH] [cG]
end Go.Ev
namespace Go.Ev
open Go
variable [Lib] [aM] [aO] [bM] [bP] [di] [bU] [bV] [cH] [cG] [bG] [bN]
end Go.Ev
namespace Go.Ev
open Go
variable [Lib] [aM] [aO] [bM] [bP] [di] [bU] [bV] [cH] [cG] [bG] [bN] [dK] [dL]
end Go.Ev
namespace Go.Ev.N
def A8:Nat:=309
def wE:Nat:=310
def xN:Nat:=311
def xO:Nat:=312
def wF:Nat:=313
def E2:Nat:=314
def Sp:Nat:=315
def Ms:Nat:=316
def E3:Nat:=317
def E4:Nat:=318
def E5:Nat:=319
def E6:Nat:=320
def Mt:Nat:=321
def Mu:Nat:=322
def E7:Nat:=323
def zg:Nat:=324
def Mv:Nat:=325
def Pp:Nat:=326
def xP:Nat:=327
def A9:Nat:=328
def zh:Nat:=329
def jr:Nat:=330
def kn:Nat:=331
def zi:Nat:=332
def wG:Nat:=333
end Go.Ev.N
namespace Go.Ev.N
def tf:Nat:=334
def uc:Nat:=335
def ud:Nat:=336
def E8:Nat:=337
def th:Nat:=338
def E9:Nat:=339
def Fa:Nat:=340
def Iv:Nat:=341
def Fb:Nat:=342
def Iw:Nat:=343
def Ix:Nat:=344
def Pq:Nat:=345
def xQ:Nat:=346
def Fc:Nat:=347
def Iy:Nat:=348
def Iz:Nat:=349
def wH:Nat:=350
def zj:Nat:=351
def Ba:Nat:=352
def Bb:Nat:=353
def Fe:Nat:=354
def xR:Nat:=355
def IA:Nat:=356
def IB:Nat:=357
def zk:Nat:=358
def Bc:Nat:=359
def Ff:Nat:=360
def IC:Nat:=361
def Fg:Nat:=362
def zl:Nat:=363
def Fh:Nat:=364
def ID:Nat:=365
def IE:Nat:=366
def IF:Nat:=367
def IG:Nat:=368
def tj:Nat:=369
def eH:Nat:=370
def iE:Nat:=371
def zm:Nat:=372
def fG:Nat:=373
def zn:Nat:=374
def zo:Nat:=375
def Fi:Nat:=376
def Fj:Nat:=377
def xS:Nat:=378
def eY:Nat:=379
def gy:Nat:=380
def wI:Nat:=381
def zp:Nat:=382
def wJ:Nat:=383
end Go.Ev.N
namespace Go.Ev.N
def zq:Nat:=384
def xT:Nat:=385
def wK:Nat:=386
def xU:Nat:=387
def wL:Nat:=388
def Fk:Nat:=389
def Fl:Nat:=390
def II:Nat:=391
def ue:Nat:=392
def Fm:Nat:=393
def Fo:Nat:=394
def uf:Nat:=395
def IJ:Nat:=396
def ug:Nat:=397
def tn:Nat:=398
def Mw:Nat:=399
def IK:Nat:=400
def IL:Nat:=401
def wM:Nat:=402
def IM:Nat:=403
def Mx:Nat:=404
def IN:Nat:=405
def IP:Nat:=406
def My:Nat:=407
def rM:Nat:=408
def rN:Nat:=409
def IQ:Nat:=410
def Mz:Nat:=411
def Bd:Nat:=412
def n9:Nat:=413
def MA:Nat:=414
def mT:Nat:=415
end Go.Ev.N
namespace Go.Ev.N
def o7:Nat:=416
def pw:Nat:=417
def px:Nat:=418
def o8:Nat:=419
def Fp:Nat:=420
def uh:Nat:=421
def tq:Nat:=422
def Be:Nat:=423
def ui:Nat:=424
def uj:Nat:=425
def Fq:Nat:=426
def uk:Nat:=427
def rO:Nat:=428
def uo:Nat:=429
def me:Nat:=430
def qp:Nat:=431
def MB:Nat:=432
def MC:Nat:=433
def IS:Nat:=434
def rP:Nat:=435
def IT:Nat:=436
def rQ:Nat:=437
def Fs:Nat:=438
def Ft:Nat:=439
def Fu:Nat:=440
def Bf:Nat:=441
def Fv:Nat:=442
def Fw:Nat:=443
def rR:Nat:=444
def IU:Nat:=445
def zr:Nat:=446
def IV:Nat:=447
def Fx:Nat:=448
def IW:Nat:=449
def Fy:Nat:=450
def Pr:Nat:=451
def Ps:Nat:=452
def MD:Nat:=453
def o9:Nat:=454
def aA:Nat:=455
def Bg:Nat:=456
def ME:Nat:=457
def IX:Nat:=458
def MF:Nat:=459
def uq:Nat:=460
def gJ:Nat:=461
def IY:Nat:=462
def MG:Nat:=463
def qq:Nat:=464
def Bh:Nat:=465
def tu:Nat:=466
def gU:Nat:=467
def rS:Nat:=468
def rT:Nat:=469
def MH:Nat:=470
def xV:Nat:=471
end Go.Ev.N
namespace Go.Ev.N
def wN:Nat:=472
def xW:Nat:=473
def wO:Nat:=474
end Go.Ev.N
namespace Go.Ev.K
open Go.Ev
end Go.Ev.K
namespace Go.Ev
class iw [Lib]:Prop where
namespace K
variable [Lib] [iw]
end K
end Go.Ev
namespace Go.Ev
open Go
variable [Lib] [aM] [aO] [bM] [bP] [di] [bU] [bV] [cH] [cG] [bG] [bN] [dK] [dL] [iw]
end Go.Ev
namespace Go.Ev.N
def wP:Nat:=475
def tv:Nat:=476
def aF:Nat:=477
def qs:Nat:=478
def bD:Nat:=479
def FA:Nat:=480
def bj:Nat:=481
def bB:Nat:=482
def aI:Nat:=483
def bO:Nat:=484
def Bi:Nat:=485
def Bj:Nat:=486
def IZ:Nat:=487
def FB:Nat:=488
def ah:Nat:=489
def bQ:Nat:=490
def Bk:Nat:=491
def xX:Nat:=492
def Bl:Nat:=493
def ur:Nat:=494
def FC:Nat:=495
def I0:Nat:=496
def I3:Nat:=497
def aL:Nat:=498
def fH:Nat:=499
def xY:Nat:=500
def xZ:Nat:=501
def gz:Nat:=502
end Go.Ev.N
namespace Go.Ev.K
open Go.Ev
def b8:C:= (.seq (.ite [m v6,u (.bin .geq l0 (.i 0))] [] 0 .skip (.exit 0)) (.seq (.blk 1 (.reg [m v5,m v3,m v6,a 1 l1 l0,g l0,u (.bs [.l 0] 1),u (.app l5 l0 true 1),x 5 l0] [])) (.reg [m v6,u (.bin .sub l0 (.i 1)),x 6 l0] [])))
def dC:C:= .loop true [0,1,2,7,8,9,10,11,12,13] K.b8
def b9:C:= (.seq (.ite [m v8,u (.bin .geq l0 (.i 0))] [] 0 .skip (.exit 2)) (.seq (.blk 3 (.reg [m v7,m v4,m v8,a 1 l1 l0,g l0,u (.bs [.l 0] 1),u (.app l5 l0 true 1),x 7 l0] [])) (.reg [m v8,u (.bin .sub l0 (.i 1)),x 8 l0] [])))
def dD:C:= .loop true [0,1,2,6,9,10,11,12,13] K.b9
def cf:C:= (.seq (.ite [m v12,m v3,m v10,a 1 l1 l0,g l0,u (.ln l0),u (.bin .lss l5 l0)] [] 0 .skip (.exit 6)) (.seq (.blk 7 (.reg [m v11,m v4,u (.ln l0),u (.bin .sub l0 (.i 1)),m v3,m v10,a 1 l1 l0,g l0,m v12,a 1 l1 l0,g l0,u (.bin .sub l7 l0),u (.bs [.l 0] 1),u (.app (.l 12) l0 true 1),x 11 l0] [])) (.reg [m v12,u (.bin .add l0 (.i 1)),x 12 l0] [])))
def dE:C:= .loop true [0,1,2,6,8,13] K.cf
def cg:C:= (.seq (.ite [m v10,m v3,u (.ln l0),u (.bin .lss l2 l0)] [] 0 .skip (.exit 4)) (.seq (.blk 5 (q [w 11 (.nw 1)] [] (.seq (q [x 12 (.i 0)] [] (.blk 6 K.dE)) (.reg [m v9,m v11,u (.bs [.l 0] 1),u (.app l2 l0 true 1),x 9 l0] [])))) (.reg [m v10,u (.bin .add l0 (.i 1)),x 10 l0] [])))
def dF:C:= .loop true [0,1,2,6,8,11,12,13] K.cg
def aF:Fn:= { cI:=1,vars:=[0,2,3,4,5,6,7,8,9,10,11,12,13,14],body:=(q [x 1 (.b false)] [] (.seq (.ite [m v0,u (.ca N.bX 0 [] [.l 0]),u (.un .not l0)] [] 0 (q [u (.ca N.bD 0 [] []),x 1 l0] [] .ret) .skip) (q [m v0,u (.ca N.cu 0 [] [.l 0]),x 2 l0] [] (q [m v2,u (.ca N.bj 0 [] [.l 0]),m l0,u (.ex l0 0),u (.ex l1 1),x 3 l1,x 4 l1] [] (q [w 5 (.nw 1)] [] (.seq (q [m v3,u (.ln l0),u (.bin .sub l0 (.i 1)),x 6 l0] [] (.blk 0 K.dC)) (q [w 7 (.nw 1)] [] (.seq (q [m v4,u (.ln l0),u (.bin .sub l0 (.i 1)),x 8 l0] [] (.blk 2 K.dD)) (q [w 9 (.nw 1)] [] (.seq (q [x 10 (.i 0)] [] (.blk 4 K.dF)) (q [m v3,m v4,u (.ca N.aI 0 [] [.l 1,.l 0]),x 13 l0] [] (q [u (.ca N.bD 0 [] []),m l0,e 0 true v5,e 1 true v4,y 2 true (.ca N.aI 0 [] [.l 1,.l 0]),e 3 true v13,y 4 true (.bin .eql l1 l0),u (.pk l5 l0 (.b false)),m l0,e 0 true v9,e 1 true v7,y 2 true (.ca N.aI 0 [] [.l 1,.l 0]),e 3 true v13,y 4 true (.bin .eql l1 l0),u (.pk l5 l0 (.b false)),x 1 l0] [] .ret)))))))))))),res:=[(1,none)]}
def bD:Fn:= { cI:=0,vars:=[0,1,2,3],body:=(q [x 0 (.b false)] [] (q [u (.bs [.i 0,.i 1] 1),u (.bs [.i 0] 1),u (.bs [.l 1,.l 0] 1),u (.bs [.i 1,.i 1] 1),u (.ca N.bB 0 [] [.l 1,.l 0]),m l0,u (.ex l0 0),u (.ex l1 1),x 1 l1,x 2 l1] [] (q [u (.bs [.i 0] 1),u (.bs [.i 0] 1),u (.bs [.l 1,.l 0] 1),u (.bs [.i 1] 1),u (.ca N.bO 0 [] [.l 1,.l 0]),x 3 l0] [] (q [u (.bs [.i 0] 1),u (.bs [.i 0] 1),u (.bs [.l 1,.l 0] 1),u (.bs [.i 1] 1),u (.ca N.aI 0 [] [.l 1,.l 0]),u (.bin .eql l0 (.i 1)),m l0,e 0 true v2,u (.pk l1 l0 (.b false)),m l0,e 0 true v1,y 1 true (.ln l0),y 2 true (.bin .eql l0 (.i 2)),u (.pk l3 l0 (.b false)),m l0,e 0 true v1,y 1 true (.ia l0 (.i 0) 1),i 2 true l0,y 3 true (.bin .eql l0 (.i 1)),u (.pk l4 l0 (.b false)),m l0,e 0 true v1,y 1 true (.ia l0 (.i 1) 1),i 2 true l0,y 3 true (.bin .eql l0 (.i 0)),u (.pk l4 l0 (.b false)),m l0,e 0 true v3,y 1 true (.ln l0),y 2 true (.bin .eql l0 (.i 2)),u (.pk l3 l0 (.b false)),x 0 l0] [] .ret)))),res:=[(0,none)]}
def dz:C:= (.seq (.ite [m v4,u (.bin .gtr l0 (.i 0))] [] 0 .skip (.exit 0)) (.seq (.blk 1 (.reg [m v3,m v0,u (.ca N.aR 0 [] [.l 0]),u (.bs [.l 0] 1),u (.app l3 l0 true 1),x 3 l0] [])) (.reg [m v4,u (.bin .sub l0 (.i 1)),x 4 l0] [])))
def ga:C:= .loop true [1,2,5,6] K.dz
def dA:C:= (.seq (.ite [m v6,u (.bin .gtr l0 (.i 0))] [] 0 .skip (.exit 2)) (.seq (.blk 3 (.reg [m v5,m v0,u (.bs [.i 1,.i 0,.i 2,.i (-1),.i 100] 1),u (.ca N.aY 0 [] [.l 1,.l 0]),u (.bs [.l 0] 1),u (.app l4 l0 true 1),x 5 l0] [])) (.reg [m v6,u (.bin .sub l0 (.i 1)),x 6 l0] [])))
def gg:C:= .loop true [1,2,4] K.dA
def bj:Fn:= { cI:=1,vars:=[0,2,3,4,5,6,7],body:=(q [w 1 (.mv (.c (.nil))),w 2 (.mv (.c (.nil)))] [] (q [w 3 (.nw 1)] [] (.seq (q [m v0,u (.ca N.av 0 [] [.l 0,.i 7]),x 4 l0] [] (.blk 0 K.ga)) (q [w 5 (.nw 1)] [] (.seq (q [m v0,u (.ca N.av 0 [] [.l 0,.i 6]),x 6 l0] [] (.blk 2 K.gg)) (q [m v3,m v5,x 1 l1,x 2 l1] [] .ret)))))),res:=[(1,none),(2,none)]}
def jP:C:= (.its [u (.bin .lss v14 v13)] [] 0 .skip (.exit 2) (.seq (.blk 3 (q [a 1 v12 v14,g l0,x 8 l0] [] (.seq (.ite [m v8,m v4,u (.ln l0),u (.bin .sub l0 (.i 1)),u (.ca N.cM 0 [] [.l 3,.i 0,.l 0]),u (.un .not l0),m l0,e 0 false v4,e 1 false v8,y 2 false (.ia l1 l0 1),i 3 false l0,y 4 false (.bin .lss l0 (.i 1)),u (.pk l5 (.b true) l0)] [] 0 (.exit 3) .skip) (q [m v4,m v8,a 1 l1 l0,g l0,u (.bin .sub l0 (.i 1)),a 1 l4 l3,u (.st l0 l1 1 [])] [] (.seq (.ite [m v0,m v6,u (.bin .add l0 (.i 1)),u (.sc l2 (some l0) none 1),m v4,u (.ca N.aI 0 [1] [.l 1,.l 0]),m v0,u (.ln l0),m v6,u (.bin .sub l1 l0),u (.bin .sub l0 (.i 1)),u (.bin .eql l5 l0)] [] 0 (q [m v5,m v8,u (.bs [.l 0] 1),u (.app l2 l0 true 1),x 5 l0] [] (.exit 2)) .skip) (.reg [m v4,m v8,a 1 l1 l0,g l0,u (.bin .add l0 (.i 1)),a 1 l4 l3,u (.st l0 l1 1 [])] [])))))) (.reg [u (.bin .add v14 (.i 1)),x 14 l0] [])))
def kv:C:= .loop true [1,2,3,7,8] K.jP
def jQ:C:= (.its [u (.bin .lss v11 v10)] [] 0 .skip (.exit 0) (.seq (.blk 1 (q [m v11,a 1 v9 v11,g l0,x 6 l2,x 7 l1] [] (q [m v7,u (.ca N.aD 0 [] [.l 0]),u (.ca N.aQ 0 [] [.l 0]),w 12 (.ca N.aA 0 [0] [.l 0]),w 13 (.ln l0),x 14 (.i 0)] [] (.blk 2 K.kv)))) (.reg [u (.bin .add v11 (.i 1)),x 11 l0] [])))
def kx:C:= .loop true [1,2,3,6,7,8,12,13,14] K.jQ
def bB:Fn:= { cI:=2,vars:=[0,1,4,5,6,7,8,9,11,20,21,22,30,31,32],body:=(q [w 2 (.mv (.c (.nil))),x 3 (.b false)] [] (.seq (.ite [m v0,m v1,u (.ca N.aI 0 [1] [.l 1,.l 0]),m v0,u (.ln l0),u (.bin .lss l2 l0)] [] 0 (q [w 2 (.mv (.c (.nil))),x 3 (.b false)] [] .ret) .skip) (q [m v1,u (.ca N.aG 1 [] [.l 0]),x 4 l0] [] (q [w 5 (.nw 1)] [] (.seq (q [x 9 v0,w 10 (.ln l0),x 11 (.i 0)] [] (.blk 0 K.kx)) (q [m v5,x 2 l0,x 3 (.b true)] [] .ret)))))),res:=[(2,none),(3,none)]}
def cP:C:= (.its [u (.bin .lss v7 v6)] [] 0 .skip (.exit 0) (.seq (.blk 1 (q [m v7,x 5 l0] [] (.ite [m v5,m v1,u (.ln l0),u (.mk l0 (z1) 1),u (.ca N.ah 0 [2] [.v 3,.l 3,.l 0])] [] 0 (.reg [m v4,u (.bin .add l0 (.i 1)),x 4 l0] []) .skip))) (.reg [u (.bin .add v7 (.i 1)),x 7 l0] [])))
def gV:C:= .loop false [0,2,5] K.cP
def aI:Fn:= { cI:=2,vars:=[0,1,4,5,6,7,15,16],body:=(q [x 2 (.i 0)] [] (q [m v0,m v1,m v1,u (.ln l0),u (.mk l0 .nil 1),u (.bd [.nil,.nil,.nil] [(0,1,.l 4),(1,1,.l 3),(2,1,.l 0)]),w 3 (.al [.nil,.nil,.nil] []),u (.st l0 l1 3 [])] [] (q [x 4 (.i 0)] [] (.seq (q [m v0,w 6 (.ln l0),x 7 (.i 0)] [] (.blk 0 K.gV)) (q [m v4,x 2 l0] [] .ret))))),res:=[(2,none)]}
def ky:C:= (.seq (.ite [m v3,m v0,u (.ln l0),u (.mn [.l 0,.i 12]),u (.bin .leq l3 l0)] [] 0 .skip (.exit 0)) (.seq (.blk 1 (q [m v0,m v1,m v3,u (.ca N.bQ 1 [] [.l 2,.l 1,.c (.nil),.i 0,.l 0]),x 4 l0] [] (.ite [m v4,u (.eqk (.sl) true l0 (.c (.nil)))] [] 0 (q [m v4,x 2 l0] [] .ret) .skip))) (.reg [m v3,u (.bin .add l0 (.i 1)),x 3 l0] [])))
def lQ:C:= .loop true [2,4] K.ky
def bO:Fn:= { cI:=2,vars:=[0,1,4,5,6],body:=(q [w 2 (.mv (.c (.nil)))] [] (.seq (q [x 3 (.i 1)] [] (.blk 0 K.lQ)) (q [w 2 (.mv (.c (.nil)))] [] .ret))),res:=[(2,none)]}
def a6:C:= (.its [u (.bin .lss v12 v11)] [] 0 .skip (.exit 2) (.seq (.blk 3 (q [m v12,a 1 v10 v12,g l0,x 5 l2,x 6 l1] [] (.ite [m v0,m v6,m v2,u (.ca N.ah 0 [2] [.l 2,.l 1,.l 0])] [] 0 (q [m v0,u (.nc l0),f 2 l0,g l0,m v4,a 1 l1 l0,g l0,m v5,m v1,a 1 l2 l1,u (.st l0 l1 1 [])] [] (q [x 3 (.b true)] [] .ret)) .skip))) (.reg [u (.bin .add v12 (.i 1)),x 12 l0] [])))
def dm:C:= .loop true [3,5,6] K.a6
def aj:C:= (.its [u (.bin .lss v9 v8)] [] 0 .skip (.exit 0) (.seq (.blk 1 (q [a 1 v7 v9,g l0,x 4 l0] [] (.seq (.ite [m v4,m v0,u (.nc l0),f 1 l0,g l0,u (.ln l0),u (.bin .sub l0 (.i 1)),u (.ca N.cM 0 [] [.l 6,.i 0,.l 0]),u (.un .not l0),m l0,e 0 false v2,e 1 false v4,y 2 false (.ia l1 l0 1),i 3 false l0,u (.pk l4 (.b true) l0)] [] 0 (.exit 1) .skip) (q [m v2,m v4,a 1 l1 l0,u (.st l0 (.b true) 1 [])] [] (.seq (.ite [m v0,u (.nc l0),f 2 l0,g l0,m v4,a 1 l1 l0,g l0,u (.ln l0),m v0,u (.nc l0),f 1 l0,g l0,m v4,a 1 l1 l0,g l0,u (.bin .lss l7 l0)] [] 0 (q [m v0,u (.nc l0),f 2 l0,g l0,m v4,m v0,u (.nc l0),f 2 l0,g l0,m v4,a 1 l1 l0,g l0,m v1,u (.bs [.l 0] 1),u (.app l2 l0 true 1),a 1 l11 l10,u (.st l0 l1 1 [])] [(3,14),(3,15),(8,14),(10,14),(11,14)] (q [x 3 (.b true)] [] .ret)) .skip) (q [m v0,u (.nc l0),f 2 l0,g l0,m v4,a 1 l1 l0,w 10 (.ld l0 1 false),w 11 (.ln l0),x 12 (.i 0)] [] (.blk 2 K.dm))))))) (.reg [u (.bin .add v9 (.i 1)),x 9 l0] [])))
def dq:C:= .loop true [3,4,5,6,10,11,12] K.aj
def ah:Fn:= { cI:=3,vars:=[0,1,2,6,8,9,10,17,18,19,79,80,81],body:=(q [x 3 (.b false)] [] (.seq (q [m v0,u (.nc l0),f 0 l0,g l0,m v1,a 1 l1 l0,w 7 (.ld l0 1 false),w 8 (.ln l0),x 9 (.i 0)] [] (.blk 0 K.dq)) (q [x 3 (.b false)] [] .ret))),res:=[(3,none)]}
def lR:C:= (.its [u (.bin .lss v12 v11)] [] 0 .skip (.exit 0) (.seq (.blk 1 (q [a 1 v10 v12,g l0,x 7 l0] [] (.reg [m v6,m v0,m v7,a 1 l1 l0,g l0,u (.bs [.l 0] 1),u (.app l5 l0 true 1),x 6 l0] []))) (.reg [u (.bin .add v12 (.i 1)),x 12 l0] [])))
def mg:C:= .loop true [3,5,7,8,9] K.lR
def lS:C:= (.seq (.ite [m v8,m v0,u (.ln l0),u (.bin .lss l2 l0)] [] 0 .skip (.exit 2)) (.seq (.blk 3 (q [m v0,m v1,m v2,u (.ca N.aL 1 [] [.l 0]),m v8,u (.bs [.l 0] 1),u (.app l2 l0 true 1),m v8,u (.bin .add l0 (.i 1)),m v4,u (.ca N.bQ 1 [] [.l 9,.l 8,.l 3,.l 1,.l 0]),x 9 l0] [] (.ite [m v9,u (.eqk (.sl) true l0 (.c (.nil)))] [] 0 (q [m v9,x 5 l0] [] .ret) .skip))) (.reg [m v8,u (.bin .add l0 (.i 1)),x 8 l0] [])))
def mh:C:= .loop true [3,5,6,7,9,10,11,12] K.lS
def bQ:Fn:= { cI:=5,vars:=[0,1,2,3,4,10,11,13,14,15,20,21,22],body:=(q [w 5 (.mv (.c (.nil)))] [] (.seq (.ite [m v2,u (.ln l0),m v4,u (.bin .eql l1 l0)] [] 0 (q [w 6 (.nw 1)] [] (.seq (q [x 10 v2,w 11 (.ln l0),x 12 (.i 0)] [] (.blk 0 K.mg)) (.seq (.ite [m v6,m v1,u (.ca N.aI 0 [] [.l 1,.l 0]),m v4,u (.bin .lss l1 l0)] [] 0 (q [m v2,x 5 l0] [] .ret) .skip) (q [w 5 (.mv (.c (.nil)))] [] .ret)))) .skip) (.seq (q [m v3,x 8 l0] [] (.blk 2 K.mh)) (q [w 5 (.mv (.c (.nil)))] [] .ret)))),res:=[(5,none)]}
end Go.Ev.K
namespace Go.Ev
class ec [Lib]:Prop where
 cB:Lib.fs N.aF=some K.aF
 jj:Lib.fs N.bD=some K.bD
 eI:Lib.fs N.bj=some K.bj
 gj:Lib.fs N.bB=some K.bB
 fA:Lib.fs N.aI=some K.aI
 gW:Lib.fs N.bO=some K.bO
 bH:Lib.fs N.ah=some K.ah
 jk:Lib.fs N.bQ=some K.bQ
namespace K
variable [Lib] [ec]
theorem cB:Lib.fs N.aF=some K.aF:=ec.cB
theorem jj:Lib.fs N.bD=some K.bD:=ec.jj
theorem eI:Lib.fs N.bj=some K.bj:=ec.eI
theorem gj:Lib.fs N.bB=some K.bB:=ec.gj
theorem fA:Lib.fs N.aI=some K.aI:=ec.fA
theorem gW:Lib.fs N.bO=some K.bO:=ec.gW
theorem bH:Lib.fs N.ah=some K.ah:=ec.bH
theorem jk:Lib.fs N.bQ=some K.bQ:=ec.jk
end K
end Go.Ev
namespace Go.Ev
open Go
variable [Lib] [aM] [aO] [bM] [bP]
theorem wQ{α β γ:Type}{f:β→Option γ}{g:α→β}{h:α→γ}:∀ {l:List α},(∀x∈l,f (g x)=some (h x))→az f (l.map g)=some (l.map h)
 | [],_=>rfl
 | a::l,hh=>by
   have ih:=wQ (f:=f) (g:=g) (h:=h) (l:=l) fun x hx=>hh x (List.mem_cons_of_mem _ hx)
   simp only[List.map_cons,az,hh a List.mem_cons_self,aLq,ih,aLw]
theorem nM{H:ab}:∀ {a b:List Nat} {x y:ab},pick H a=some x→pick H b=some y→pick H (a++b)=some (x++y)
 | [],b,x,y,hx,hy=>by cases hx;exact hy
 | i::a,b,x,y,hx,hy=>by
   simp only[pick]at hx
   cases ho:H[i]? with
   | none=>rw[ho]at hx;simp at hx
   | some o=>
     rw[ho,aLq]at hx
     cases hp:pick H a with
     | none=>rw[hp]at hx;simp at hx
     | some z=>
       rw[hp]at hx
       simp only[aLw,Option.some.injEq]at hx
       subst hx
       simp only[List.cons_append,pick,ho,aLq,nM hp hy,aLw]
end Go.Ev
namespace Go.Ev
open Go
variable [Lib] [aM] [aO] [bM] [bP] [di] [bU] [bV] [cH] [cG] [bG] [bN] [dK] [dL] [iw] [ec]
abbrev bls(l:List Bool):List D:=(l.map Ev.T.bool).map .t
abbrev arA(l:List Int):Obj:= .arr 1 false 0 (ints l)
def rk(G:List (List Int)):Nat→Nat
 | 0=>0
 | n+1=>rk G n+if nth G n=[]then 0 else 1
def idT(G:List (List Int))(f:Nat→Nat):Nat→List Nat
 | 0=>[]
 | m+1=>idT G f m++if nth G m=[]then []else [f m]
def esT(G:List (List Int))(f:Nat→Nat):Nat→List D
 | 0=>[]
 | m+1=>esT G f m++[if nth G m=[]then .nil else .ref (f m) 0 (nth G m).length]
def aT(G G2:List (List Int)):Nat→ab
 | 0=>[]
 | m+1=>aT G G2 m++if nth G m=[]then []else [arA (nth G2 m)]
theorem jR(G:List (List Int))(f:Nat→Nat):∀m,(idT G f m).length=rk G m
 | 0=>rfl
 | m+1=>by
   have ih:=jR G f m
   rw[idT,rk,aLv,ih]
   split<;>rfl
theorem dW(G G2:List (List Int)):∀m,(aT G G2 m).length=rk G m
 | 0=>rfl
 | m+1=>by
   have ih:=dW G G2 m
   rw[aT,rk,aLv,ih]
   split<;>rfl
theorem eJ(G:List (List Int))(f:Nat→Nat):∀m,(esT G f m).length=m
 | 0=>rfl
 | m+1=>by rw[esT,aLv,eJ G f m];rfl
theorem FD(G:List (List Int)){n m:Nat}(h:n≤m):rk G n≤rk G m:=by
 induction m with
 | zero=>rw[show n=0 by omega];exact aLs _
 | succ m ih=>
   by_cases e:n=m+1
   · rw[e];exact aLs _
   · have:=ih (by omega)
     rw[rk];omega
theorem lT(G:List (List Int)){n m:Nat}(h:n<m)(hn:nth G n≠[]):rk G n<rk G m:=by
 have:=FD G (n:=n+1) (m:=m) (by omega)
 rw[rk,if_neg hn]at this
 omega
theorem nN(G:List (List Int))(f:Nat→Nat){n:Nat}(hn:nth G n≠[]):∀m,n<m→(idT G f m)[rk G n]?=some (f n)
 | 0,h=>by omega
 | m+1,h=>by
   rw[idT]
   by_cases e:n=m
   · subst e
     rw[if_neg hn,aLh (by rw[jR];exact aLs _),jR,Nat.sub_self];rfl
   · have ih:=nN G f hn m (by omega)
     rw[aLg (by rw[jR];exact lT G (by omega) hn)]
     exact ih
theorem rU(G G2:List (List Int)){n:Nat}(hn:nth G n≠[]):∀m,n<m→(aT G G2 m)[rk G n]?=some (arA (nth G2 n))
 | 0,h=>by omega
 | m+1,h=>by
   rw[aT]
   by_cases e:n=m
   · subst e
     rw[if_neg hn,aLh (by rw[dW];exact aLs _),dW,Nat.sub_self];rfl
   · have ih:=rU G G2 hn m (by omega)
     rw[aLg (by rw[dW];exact lT G (by omega) hn)]
     exact ih
theorem nO(G:List (List Int))(f:Nat→Nat){n:Nat}:∀m,n<m→(esT G f m)[n]?=some (if nth G n=[]then .nil else .ref (f n) 0 (nth G n).length)
 | 0,h=>by omega
 | m+1,h=>by
   rw[esT]
   by_cases e:n=m
   · subst e
     rw[aLh (by rw[eJ];exact aLs _),eJ,Nat.sub_self];rfl
   · rw[aLg (by rw[eJ];omega)]
     exact nO G f m (by omega)
theorem nP(G:List (List Int))(f:Nat→Nat):∀m,(esT G f m).flatMap (ids depth)=idT G f m
 | 0=>rfl
 | m+1=>by
   rw[esT,idT,List.flatMap_append,nP G f m]
   congr 1
   split<;>rfl
theorem jl:∀ {l sel:List Nat},(sel++l).Nodup→aS sel l=sel++l
 | [],sel,_=>by simp[aS]
 | i::r,sel,h=>by
   have hi:sel.contains i=false:=by
    rw[Bool.eq_false_iff]
    intro hc
    have hc:=List.contains_iff_mem.1 hc
    exact(List.nodup_append.1 h).2.2 i hc i List.mem_cons_self rfl
   rw[aS,hi]
   simp only[aLt,if_false]
   rw[jl (by simpa using h)]
   simp
theorem jS:∀ {l sel:List Nat},(∀x∈l,x∈sel)→aS sel l=sel
 | [],sel,_=>rfl
 | i::r,sel,h=>by
   have hi:sel.contains i=true:=List.contains_iff_mem.2 (h i List.mem_cons_self)
   rw[aS,hi]
   simp only[if_true]
   exact jS fun x hx=>h x (List.mem_cons_of_mem _ hx)
structure pz(K:ab)(b q g:Nat)(f:Nat→Nat)(W:List (List Int))(S:List Int)(T:List Bool)(G:List (List Int)):Prop where
 hb:K[b]?=some (.box [.t (.sl (W.map tL)),.t (tL S),.ref g 0 G.length])
 hq:K[q]?=some (.arr 1 false 0 (bls T))
 hg:K[g]?=some (.arr 1 false 0 (esT G f G.length))
 hf:∀n,n<G.length→nth G n≠[]→K[f n]?=some (arA (nth G n))
 nd:([b,q,g]++idT G f G.length).Nodup
abbrev dt(W:List (List Int))(S:List Int)(T:List Bool)(G2:List (List Int))(f:Nat→Nat)(A:ab):ab:= .box [.t (.sl (W.map tL)),.t (tL S),.ref 2 0 G2.length]:: .arr 1 false 0 (bls T):: .arr 1 false 0 (esT G2 f G2.length)::A
abbrev bY(W:List (List Int))(S:List Int)(T:List Bool)(G:List (List Int)):ab:=dt W S T G (fun n=>3+rk G n) (aT G G G.length)
theorem qt(T:List Bool):(bls T).flatMap (ids depth)=[]:=vB 8 _
theorem qu(l:List Int):(arA l).ds.flatMap (ids depth)=[]:=vB 8 _
theorem pz.rch{K:ab}{b q g:Nat}{f:Nat→Nat}{W:List (List Int)}{S:List Int}{T:List Bool}{G:List (List Int)}(h:pz K b q g f W S T G)(i:Int)(n:Nat):
 reach K 3 (aS [] (lY 8 [.bp b 0,I i,.ref q 0 n]))=[b,q,g]++idT G f G.length:=by
 have nd:=h.nd
 have n3:([b,q,g]:List Nat).Nodup:=(List.nodup_append.1 nd).1
 have n2:([b,q]:List Nat).Nodup:=by
  have:List.Sublist [b,q] [b,q,g]:=by simp
  exact n3.sublist this
 have s0:aS [] (lY 8 [.bp b 0,I i,.ref q 0 n])=[b,q]:=jl (l:=[b,q]) (sel:=[]) n2
 have i2:cT K [b,q]=[g]:=by
  simp only[cT,List.flatMap_cons,List.flatMap_nil,h.hb,h.hq,Obj.ds,qt]
  rfl
 have s1:aS [b,q] [g]=[b,q,g]:=jl (l:=[g]) (sel:=[b,q]) n3
 have i3:cT K [b,q,g]=g::idT G f G.length:=by
  simp only[cT,List.flatMap_cons,List.flatMap_nil,h.hb,h.hq,h.hg,Obj.ds,qt,nP]
  simp[ids,depth]
 have s2:aS [b,q,g] (g::idT G f G.length)=[b,q,g]++idT G f G.length:=by
  have:([b,q,g]:List Nat).contains g=true:=List.contains_iff_mem.2 (by simp)
  rw[aS,this]
  simp only[if_true]
  exact jl nd
 have i4:∀x∈cT K ([b,q,g]++idT G f G.length),x∈[b,q,g]++idT G f G.length:=by
  intro x hx
  unfold cT at hx
  rw[List.flatMap_append,List.mem_append]at hx
  rcases hx with hx | hx
  · have hx:x∈cT K [b,q,g]:=hx
    rw[i3]at hx
    rcases List.mem_cons.1 hx with e | e
    · subst e;simp
    · exact List.mem_append_right _ e
  · obtain⟨j,hj,hx⟩:=List.mem_flatMap.1 hx
    have:∃n,n<G.length∧nth G n≠[]∧j=f n:=by
     have key:∀m,j∈idT G f m→∃n,n<m∧nth G n≠[]∧j=f n:=by
      intro m
      induction m with
      | zero=>intro h;simp[idT]at h
      | succ m ih=>
        intro h
        rw[idT,List.mem_append]at h
        rcases h with h | h
        · obtain⟨n,a,b,c⟩:=ih h;exact⟨n,by omega,b,c⟩
        · split at h
          · simp at h
          · rename_i hm;exact⟨m,by omega,hm,by simpa using h⟩
     exact key _ hj
    obtain⟨n,hn,hne,rfl⟩:=this
    rw[h.hf n hn hne]at hx
    simp only[qu]at hx
    simp at hx
 simp only[reach,s0,i2,s1,i3,s2,jS i4]
theorem pz.qv{K:ab}{b q g:Nat}{f:Nat→Nat}{W:List (List Int)}{S:List Int}{T:List Bool}{G:List (List Int)}(h:pz K b q g f W S T G){n:Nat}(hn:n<G.length)(hne:nth G n≠[]):
 ([b,q,g]++idT G f G.length)[3+rk G n]?=some (f n):=by
 rw[aLh (by simp),show 3+rk G n-[b,q,g].length=rk G n by simp]
 exact nN G f hne _ hn
theorem pz.ix{K:ab}{b q g:Nat}{f:Nat→Nat}{W:List (List Int)}{S:List Int}{T:List Bool}{G:List (List Int)}(h:pz K b q g f W S T G){n:Nat}(hn:n<G.length)(hne:nth G n≠[]):
 idxOf ([b,q,g]++idT G f G.length) (f n)=some (3+rk G n):=cE _ _ _ h.nd (h.qv hn hne)
theorem pz.ix3{K:ab}{b q g:Nat}{f:Nat→Nat}{W:List (List Int)}{S:List Int}{T:List Bool}{G:List (List Int)}(h:pz K b q g f W S T G):
 idxOf ([b,q,g]++idT G f G.length) b=some 0∧idxOf ([b,q,g]++idT G f G.length) q=some 1∧idxOf ([b,q,g]++idT G f G.length) g=some 2:=
 ⟨cE _ _ _ h.nd rfl,cE _ _ _ h.nd rfl,cE _ _ _ h.nd rfl⟩
theorem lU{u:Nat→Option Nat}{G:List (List Int)}{f f2:Nat→Nat}:∀m,(∀n,n<m→nth G n≠[]→u (f n)=some (f2 n))→az (ren u depth) (esT G f m)=some (esT G f2 m)
 | 0,_=>rfl
 | m+1,h=>by
   have ih:=lU m fun n hn=>h n (by omega)
   rw[esT,esT]
   refine kF ih ?_
   by_cases e:nth G m=[]
   · rw[if_pos e,if_pos e];rfl
   · rw[if_neg e,if_neg e]
     have:=h m (by omega) e
     simp only[az,ren,depth,this,aLw,aLq]
theorem Bm{u:Nat→Option Nat}{G G2:List (List Int)}:∀m,az (aN u) (aT G G2 m)=some (aT G G2 m)
 | 0=>rfl
 | m+1=>by
   rw[aT]
   refine kF (Bm m) ?_
   split
   · rfl
   · simp only[az,aN,ints,fx,aLw,aLq]
theorem pz.pk{K:ab}{b q g:Nat}{f:Nat→Nat}{W:List (List Int)}{S:List Int}{T:List Bool}{G:List (List Int)}(h:pz K b q g f W S T G):
 pick K ([b,q,g]++idT G f G.length)=some ([.box [.t (.sl (W.map tL)),.t (tL S),.ref g 0 G.length],.arr 1 false 0 (bls T),.arr 1 false 0 (esT G f G.length)]++aT G G G.length):=by
 have p3:pick K [b,q,g]=some [.box [.t (.sl (W.map tL)),.t (tL S),.ref g 0 G.length],.arr 1 false 0 (bls T),.arr 1 false 0 (esT G f G.length)]:=by
  simp only[pick,h.hb,h.hq,h.hg,aLq,aLw]
 have key:∀m,m≤G.length→pick K (idT G f m)=some (aT G G m):=by
  intro m
  induction m with
  | zero=>intro _;rfl
  | succ m ih=>
    intro hm
    rw[idT,aT]
    refine nM (ih (by omega)) ?_
    by_cases e:nth G m=[]
    · rw[if_pos e,if_pos e];rfl
    · rw[if_neg e,if_neg e]
      simp only[pick,h.hf m (by omega) e,aLq,aLw]
 exact nM p3 (key _ (aLs _))
theorem pz.call{K:ab}{b q g:Nat}{f:Nat→Nat}{W:List (List Int)}{S:List Int}{T:List Bool}{G:List (List Int)}(h:pz K b q g f W S T G)(i:Int)(n:Nat):
 vu K c9 N.ah 0 [2] [.bp b 0,I i,.ref q 0 n]=(c9 0 N.ah [.bp 0 0,I i,.ref 1 0 n] (bY W S T G)).bind (eT K K ([b,q,g]++idT G f G.length)):=by
 obtain⟨x0,x1,x2⟩:=h.ix3
 have ar:gC K [2] 0 [.bp b 0,I i,.ref q 0 n]=some [.bp b 0,I i,.ref q 0 n]:=by simp only[go_sem]
 have fz:aV K [2] 0 [.bp b 0,I i,.ref q 0 n]=[]:=by simp only[go_sem]
 have rn:az (ren (idxOf ([b,q,g]++idT G f G.length)) 8) [.bp b 0,I i,.ref q 0 n]=some [.bp 0 0,I i,.ref 1 0 n]:=by
  simp only[az,ren,x0,x1,aLw,aLq]
 have ro:az (aN (idxOf ([b,q,g]++idT G f G.length))) ([.box [.t (.sl (W.map tL)),.t (tL S),.ref g 0 G.length],.arr 1 false 0 (bls T),.arr 1 false 0 (esT G f G.length)]++aT G G G.length)=some (bY W S T G):=by
  refine kF (x:=[.box [.t (.sl (W.map tL)),.t (tL S),.ref 2 0 G.length],.arr 1 false 0 (bls T),.arr 1 false 0 (esT G (fun n=>3+rk G n) G.length)]) ?_ (Bm _)
  have e1:az (ren (idxOf ([b,q,g]++idT G f G.length)) 8) (esT G f G.length)=some (esT G (fun n=>3+rk G n) G.length):=lU (u:=idxOf ([b,q,g]++idT G f G.length)) (f2:=fun n=>3+rk G n) G.length (fun n hn hne=>h.ix hn hne)
  have e2:az (ren (idxOf ([b,q,g]++idT G f G.length)) 8) (bls T)=some (bls T):=fx _ _
  simp only[az,aN,ren,depth,x2,aLw,aLq]
  rw[e1,e2]
  rfl
 rw[yC,yD,ar,aLq,yE,h.rch,yF,rn,aLq,fz,yG]
 simp only[pins]
 rw[h.pk,aLq,yH,ro,aLq,yI]
theorem wR(G:List (List Int)):∀m,idT G (fun n=>3+rk G n) m=List.range' 3 (rk G m)
 | 0=>rfl
 | m+1=>by
   rw[idT,wR G m,rk]
   split
   · simp
   · rw[List.range'_concat];simp
theorem eK(W:List (List Int))(S:List Int)(T:List Bool)(G:List (List Int)):(bY W S T G).length=3+rk G G.length:=by
 simp only[bY,dt,List.length_cons,dW];omega
theorem wS(W:List (List Int))(S:List Int)(T:List Bool)(G:List (List Int)):[0,1,2]++idT G (fun n=>3+rk G n) G.length=List.range (bY W S T G).length:=by
 rw[wR,eK,List.range_eq_range',show [0,1,2]=List.range' 0 3 from rfl]
 have:=List.range'_append (s:=0) (m:=3) (n:=rk G G.length) (step:=1)
 simpa using this
theorem qw(W:List (List Int))(S:List Int)(T:List Bool)(G:List (List Int)):pz (bY W S T G) 0 1 2 (fun n=>3+rk G n) W S T G where
 hb:=rfl
 hq:=rfl
 hg:=rfl
 hf n hn hne:=by
  have:=rU G G hne G.length hn
  show(bY W S T G)[3+rk G n]?=_
  rw[show 3+rk G n=rk G n+1+1+1 by omega]
  simp only[bY,dt,List.getElem?_cons_succ]
  exact this
 nd:=by rw[wS W S T G];exact List.nodup_range
theorem tw(n:Nat):aJ (List.range n) n=some:=by
 funext i
 unfold aJ
 rw[List.length_range]
 split
 · rename_i h;rw[aLp h]
 · congr 1;omega
theorem nQ{α:Type}:∀(a b:List α),a.length=b.length→ay a (List.range a.length) b=b:=by
 have key:∀(b a pre:List α),a.length=b.length→ay (pre++a) (List.range' pre.length a.length) b=pre++b:=by
  intro b
  induction b with
  | nil=>
    intro a pre h
    have:a=[]:=List.length_eq_zero_iff.1 h
    subst this;rfl
  | cons x b ih=>
    intro a pre h
    cases a with
    | nil=>simp at h
    | cons y a=>
      simp only[List.length_cons,List.range'_succ,ay]
      rw[List.set_append_right _ _ (aLs _),Nat.sub_self,List.set_cons_zero]
      have:=ih a (pre++[x]) (by simpa using h)
      simp only[aLv,List.length_cons,List.length_nil,Nat.zero_add,List.append_assoc,List.singleton_append]at this
      exact this
 intro a b h
 have:=key b a [] h
 rw[List.range_eq_range']
 simpa using this
theorem zt{K os:ab}(hk:0<K.length)(hl:K.length≤os.length)(ho:az (aN some) os=some os)(x:Bool):eT K K (List.range K.length) (B x,os)=some (B x,os):=by
 have e:eT K K (List.range K.length) (B x,os)=(ren (aJ (List.range K.length) K.length) depth (B x)).bind fun r'=>(az (aN (aJ (List.range K.length) K.length)) os).map fun os=>(r',ay K (List.range K.length) (os.take (List.range K.length).length)++os.drop (List.range K.length).length):=by
  unfold eT
  have:(List.range K.length).isEmpty=false:=by
   cases K with
   | nil=>simp at hk
   | cons a r=>simp[List.range_succ]
  simp only[this,Bool.false_and,aLt,if_false]
  rfl
 rw[e,tw,ho]
 simp only[ren,depth,aLq,aLw,List.length_range]
 rw[nQ _ _ (by rw[List.length_take];omega),List.take_append_drop]
theorem rV{W:List (List Int)}{S:List Int}{T:List Bool}{G:List (List Int)}{f:Nat→Nat}{A:ab}(hA:∀o∈A,∃l,o=arA l):az (aN some) (dt W S T G f A)=some (dt W S T G f A):=by
 have e1:az (ren some 8) (esT G f G.length)=some (esT G f G.length):=lU (u:=some) (f2:=f) G.length (fun n _ _=>rfl)
 have e2:az (ren some 8) (bls T)=some (bls T):=fx _ _
 have e3:az (aN some) A=some A:=by
  refine nJ fun o ho=>?_
  obtain⟨l,rfl⟩:=hA o ho
  simp only[aN,ints,fx,aLw]
 simp only[dt,az,aN,ren,depth,aLw,aLq]
 rw[e1,e2,e3];rfl
theorem ko(G G2:List (List Int)):∀m,∀o∈aT G G2 m,∃l,o=arA l
 | 0,o,h=>by simp[aT]at h
 | m+1,o,h=>by
   rw[aT,List.mem_append]at h
   rcases h with h | h
   · exact ko G G2 m o h
   · split at h
     · simp at h
     · exact⟨_,List.mem_singleton.1 h⟩
theorem zu(W:List (List Int))(S:List Int)(T:List Bool)(G:List (List Int))(i:Int)(n:Nat){x:Bool}{os:ab}(h:c9 0 N.ah [.bp 0 0,I i,.ref 1 0 n] (bY W S T G)=some (B x,os))(hl:3+rk G G.length≤os.length)(ho:az (aN some) os=some os):
 vu (bY W S T G) c9 N.ah 0 [2] [.bp 0 0,I i,.ref 1 0 n]=some (B x,os):=by
 rw[(qw W S T G).call i n,h,aLq,wS W S T G]
 exact zt (by rw[eK];omega) (by rw[eK];exact hl) ho x
abbrev Tb(T:List Bool):Nat→Bool:=fun n=>nth T n
def left(T:List Bool):Nat:=(T.filter fun x=> !x).length
theorem rW:∀ {T:List Bool} {n:Nat},n<T.length→nth T n=false→left (T.set n true)<left T
 | [],n,h,_=>by simp at h
 | a::r,0,h,e=>by
   have:a=false:=e
   subst this
   simp[left]
 | a::r,n+1,h,e=>by
   have ih:=rW (T:=r) (n:=n) (by simpa using h) e
   unfold left at ih ⊢
   simp only[List.set_cons_succ,List.filter_cons]
   split
   · simp only[List.length_cons];omega
   · exact ih
def fK(G:List (List Int))(n:Nat):Nat:=if nth G n=[]then 3+rk G G.length else 3+rk G n
structure rX(G G2:List (List Int))(x:ab):Prop where
 keep:∀n,nth G n≠[]→nth G2 n≠[]
 new:(x=[]∧∀n,nth G n=[]→nth G2 n=[])∨∃n0,n0<G.length∧nth G n0=[]∧nth G2 n0≠[]∧x=[arA (nth G2 n0)]∧∀n,n≠n0→nth G n=[]→nth G2 n=[]
def zv(W:List (List Int))(S:List Int)(G:List (List Int))(i:Int)(T:List Bool)(r:Bool×ab):Prop:=
 (∃G2 T2 x,r=(true,dt W S T2 G2 (fK G) (aT G G2 G.length++x))∧eF W S G i (Tb T) G2∧rX G G2 x∧T2.length=T.length)∨
 ∃T2,r=(false,bY W S T2 G)∧lN W S G i (Tb T) (Tb T2)∧T2.length=T.length∧left T2≤left T
theorem rY{G G2:List (List Int)}{x:ab}(h:rX G G2 x):∀o∈aT G G2 G.length++x,∃l,o=arA l:=by
 intro o ho
 rcases List.mem_append.1 ho with a | a
 · exact ko _ _ _ o a
 · rcases h.new with⟨e,_⟩ | ⟨n0,_,_,_,e,_⟩
   · rw[e]at a;simp at a
   · rw[e]at a;exact⟨_,List.mem_singleton.1 a⟩
theorem tx{W:List (List Int)}{S:List Int}{T:List Bool}{G:List (List Int)}{i:Int}{n:Nat}{r:Bool×ab}(h:c9 0 N.ah [.bp 0 0,I i,.ref 1 0 n] (bY W S T G)=some (B r.1,r.2))(d:zv W S G i T r):
 vu (bY W S T G) c9 N.ah 0 [2] [.bp 0 0,I i,.ref 1 0 n]=some (B r.1,r.2):=by
 refine zu W S T G i n h ?_ ?_
 · rcases d with⟨G2,T2,x,rfl, -,nx, -⟩ | ⟨T2,rfl, -⟩
   · simp only[dt,List.length_cons,aLv,dW];omega
   · rw[eK];exact aLs _
 · rcases d with⟨G2,T2,x,rfl, -,nx, -⟩ | ⟨T2,rfl, -⟩
   · exact rV (rY nx)
   · exact rV (ko _ _ _)
theorem nR{G:List (List Int)}{n:Nat}(hn:n<G.length)(l:List Int){a:Int}(h:l.Perm (a::nth G n)):(gG (G.set n l)).Perm (a::gG G):=by
 have e:G=G.take n++nth G n::G.drop (n+1):=by
  have:nth G n=G[n]:=by unfold nth;rw[aLl,aLc hn];rfl
  rw[this,←List.drop_eq_getElem_cons hn,List.take_append_drop]
 rw[fV,fV,List.set_eq_take_append_cons_drop,if_pos hn]
 conv=>rhs;rw[e]
 simp only[List.flatten_append,List.flatten_cons]
 refine(List.Perm.append_left _ (List.Perm.append_right _ h)).trans ?_
 simp only[List.cons_append]
 exact List.perm_middle
theorem bR{l:List (List Int)}{i:Nat}{a:List Int}(h:i<l.length):nth (l.set i a) i=a:=by
 unfold nth
 rw[aLl,aLj h];rfl
theorem aU{l:List (List Int)}{i j:Nat}{a:List Int}(h:j≠i):nth (l.set j a) i=nth l i:=by
 unfold nth
 rw[aLl,aLl,aLi h]
theorem eW{l:List Int}{k:Nat}(h:k<l.length):l[k]?=some (nth l k):=by
 unfold nth
 rw[aLc h,aLl,aLc h];rfl
theorem tz{W:List (List Int)}{S:List Int}{G:List (List Int)}(h:GI W S G){i n:Nat}(hi:i<W.length)(hn:n<S.length)(hw:(n:Int)∈nth W i)(hc:((nth G n).length:Int)<nth S n){T:List Bool}(ht:nth T n=false):
 eF W S G i (Tb T) (G.set n (nth G n++[(i:Int)])):=by
 have gl:=h.len
 refine⟨⟨by simpa using gl,fun m hm hne=>?_,fun m hm j hj=>?_⟩,nR (by omega) _ ?_,fun m hm=>?_,fun U hU=>⟨fun m hm hu=>?_,fun hs=>?_⟩⟩
 · by_cases e:m=n
   · subst e;rw[bR (by omega)];simp only[aLv,List.length_singleton];omega
   · rw[aU (fun k=>e k.symm)]at hne ⊢;exact h.cap m hm hne
 · by_cases e:m=n
   · subst e
     rw[bR (by omega)]at hj
     rcases List.mem_append.1 hj with a | a
     · exact h.wnt m hm j a
     · rw[List.mem_singleton.1 a];exact⟨by omega,by omega,by simpa using hw⟩
   · rw[aU (fun k=>e k.symm)]at hj;exact h.wnt m hm j hj
 · exact List.perm_append_singleton _ _
 · have e:n≠m:=fun k=>by subst k;simp only[Tb]at hm;rw[ht]at hm;simp at hm
   rw[aU e]
 · have e:n≠m:=fun k=>by subst k;have:=(hU n hn hu).1;omega
   rw[aU e]
 · have:=(hU n hn (hs n hn (by simpa using hw))).1;omega
theorem tA{W:List (List Int)}{S:List Int}{G G1:List (List Int)}(h:GI W S G){i n k:Nat}(hi:i<W.length)(hn:n<S.length)(hw:(n:Int)∈nth W i)(hk:k<(nth G n).length){T T1:List Bool}(ht:nth T n=false)
 (hT:∀m,nth T m=true→nth T1 m=true) (h1:nth T1 n=true) (p:eF W S G (nth (nth G n) k) (Tb T1) G1):eF W S G i (Tb T) (G1.set n ((nth G n).set k i)):=by
 have gl:=p.gi.len
 have e1:nth G1 n=nth G n:=p.old n h1
 have hp:((nth G n).set k (i:Int)).length=(nth G1 n).length:=by rw[List.length_set,e1]
 refine⟨⟨by simpa using gl,fun m hm hne=>?_,fun m hm j hj=>?_⟩,?_,fun m hm=>?_,fun U hU=>?_⟩
 · by_cases e:m=n
   · subst e;rw[bR (by omega),hp];exact p.gi.cap m hm (fun k=>by rw[e1]at k;rw[k]at hk;simp at hk)
   · rw[aU (fun k=>e k.symm)]at hne ⊢;exact p.gi.cap m hm hne
 · by_cases e:m=n
   · subst e
     rw[bR (by omega)]at hj
     rcases aLk hj with a | a
     · exact h.wnt m hm j a
     · rw[a];exact⟨by omega,by omega,by simpa using hw⟩
   · rw[aU (fun k=>e k.symm)]at hj;exact p.gi.wnt m hm j hj
 · -- the other list is placed elsewhere,this one has its seat
   have ek:(nth G n)[k]?=some (nth (nth G n) k):=eW hk
   have c1:((nth G n).set k (i:Int)).Perm (i::(nth G n).eraseIdx k):=by
    rw[List.set_eq_take_append_cons_drop,if_pos hk,List.eraseIdx_eq_take_drop_succ]
    exact List.perm_middle
   have c2:(nth G n).Perm (nth (nth G n) k::(nth G n).eraseIdx k):=by
    have:nth G n=(nth G n).take k++nth (nth G n) k::(nth G n).drop (k+1):=by
     have q:nth (nth G n) k=(nth G n)[k]:=by have:=ek;rw[aLc hk]at this;exact(Option.some.inj this).symm
     rw[q,←List.drop_eq_getElem_cons hk,List.take_append_drop]
    rw[List.eraseIdx_eq_take_drop_succ]
    exact(List.Perm.of_eq this).trans List.perm_middle
   have q1:(gG (G1.set n ((nth G n).set k (i:Int)))).Perm (i::gG (G1.set n ((nth G n).eraseIdx k))):=by
    have:=nR (G:=G1.set n ((nth G n).eraseIdx k)) (n:=n) (by simpa using by omega) ((nth G n).set k (i:Int)) (a:=i) (by rw[bR (by omega)];exact c1)
    rw[List.set_set]at this
    exact this
   have q2:(gG G1).Perm (nth (nth G n) k::gG (G1.set n ((nth G n).eraseIdx k))):=by
    have:=nR (G:=G1.set n ((nth G n).eraseIdx k)) (n:=n) (by simpa using by omega) (nth G n) (a:=nth (nth G n) k) (by rw[bR (by omega)];exact c2)
    rw[List.set_set]at this
    have eG:G1.set n (nth G n)=G1:=by
     apply List.ext_getElem?
     intro m
     by_cases e:n=m
     · subst e
       rw[aLj (by omega),←e1]
       unfold nth
       rw[aLl,aLc (by omega)];rfl
     · rw[aLi e]
    rwa [eG]at this
   have q3:(gG (G1.set n ((nth G n).eraseIdx k))).Perm (gG G):=List.Perm.cons_inv (q2.symm.trans p.pm)
   exact q1.trans (q3.cons _)
 · have e:n≠m:=fun k=>by subst k;simp only[Tb]at hm;rw[ht]at hm;simp at hm
   rw[aU e]
   exact p.old m (hT m hm)
 · obtain⟨u1,u2⟩:=p.clo U hU
   have nu:¬U n:=fun hu=>u2 fun x hx hx2=>(hU n hn hu).2 _ (aLd (eW hk)) x hx hx2
   refine⟨fun m hm hu=>?_,fun hs=>nu (hs n hn (by simpa using hw))⟩
   have e:n≠m:=fun k=>by subst k;exact nu hu
   rw[aU e]
   exact u1 m hm hu
theorem jm{G G2:List (List Int)}{f f2:Nat→Nat}:∀m,(∀n,n<m→(nth G n=[]↔nth G2 n=[])∧(nth G n≠[]→f n=f2 n∧(nth G n).length=(nth G2 n).length))→esT G f m=esT G2 f2 m
 | 0,_=>rfl
 | m+1,h=>by
   rw[esT,esT,jm m fun n hn=>h n (by omega)]
   obtain⟨h1,h2⟩:=h m (by omega)
   by_cases e:nth G m=[]
   · rw[if_pos e,if_pos (h1.1 e)]
   · obtain⟨a,b⟩:=h2 e
     rw[if_neg e,if_neg (fun k=>e (h1.2 k)),a,b]
theorem qx{G G2:List (List Int)}{f f2:Nat→Nat}{n:Nat}:∀m,n<m→(∀k,k<m→k≠n→(nth G k=[]↔nth G2 k=[])∧(nth G k≠[]→f k=f2 k∧(nth G k).length=(nth G2 k).length))→
 (esT G f m).set n (if nth G2 n=[]then .nil else .ref (f2 n) 0 (nth G2 n).length)=esT G2 f2 m
 | 0,h,_=>by omega
 | m+1,h,hh=>by
   rw[esT,esT]
   by_cases e:n=m
   · subst e
     rw[List.set_append_right _ _ (by rw[eJ];exact aLs _),eJ,Nat.sub_self,List.set_cons_zero,jm n fun k hk=>hh k (by omega) (by omega)]
   · rw[List.set_append_left _ _ (by rw[eJ];omega),qx m (by omega) fun k hk hne=>hh k (by omega) hne]
     obtain⟨h1,h2⟩:=hh m (by omega) (fun k=>e k.symm)
     congr 2
     by_cases e2:nth G m=[]
     · rw[if_pos e2,if_pos (h1.1 e2)]
     · obtain⟨a,b⟩:=h2 e2
       rw[if_neg e2,if_neg (fun k=>e2 (h1.2 k)),a,b]
theorem nS{G G1 G2:List (List Int)}:∀m,(∀n,n<m→nth G n≠[]→nth G1 n=nth G2 n)→aT G G1 m=aT G G2 m
 | 0,_=>rfl
 | m+1,h=>by
   rw[aT,aT,nS m fun n hn=>h n (by omega)]
   by_cases e:nth G m=[]
   · rw[if_pos e,if_pos e]
   · rw[if_neg e,if_neg e,h m (by omega) e]
theorem wT{G G1 G2:List (List Int)}{n:Nat}(hn:nth G n≠[]):∀m,n<m→(∀k,k<m→k≠n→nth G k≠[]→nth G1 k=nth G2 k)→(aT G G1 m).set (rk G n) (arA (nth G2 n))=aT G G2 m
 | 0,h,_=>by omega
 | m+1,h,hh=>by
   rw[aT,aT]
   by_cases e:n=m
   · subst e
     rw[if_neg hn,if_neg hn,List.set_append_right _ _ (by rw[dW];exact aLs _),dW,Nat.sub_self,List.set_cons_zero,nS n fun k hk hne=>hh k (by omega) (by omega) hne]
   · rw[List.set_append_left _ _ (by rw[dW];exact lT G (by omega) hn),wT hn m (by omega) fun k hk hne=>hh k (by omega) hne]
     congr 1
     by_cases e2:nth G m=[]
     · rw[if_pos e2,if_pos e2]
     · rw[if_neg e2,if_neg e2,hh m (by omega) (fun k=>e k.symm) e2]
theorem FE(T:List Bool)(n:Nat)(x:Bool):(bls T).set n (B x)=bls (T.set n x):=by simp[bls]
theorem FF(T:List Bool):(bls T).length=T.length:=by simp[bls]
theorem wU{l:List Bool}{k:Nat}(h:k<l.length):l[k]?=some (nth l k):=by
 unfold nth
 rw[aLc h,aLl,aLc h];rfl
theorem FH{T:List Bool}{n:Nat}(h:n<T.length):(bls T)[n]?=some (B (nth T n)):=by
 unfold bls
 rw[aLn,aLn,wU h];rfl
structure Acc(W:List (List Int))(S:List Int)(G:List (List Int))(T T2:Nat→Bool):Prop where
 sub:∀n,T n=true→T2 n=true
 clo:∀n,n<S.length→T2 n=true→T n=false→nth S n≤(nth G n).length∧∀j∈nth G n,sU W S j fun x=>T2 x=true
theorem Acc.refl(W:List (List Int))(S:List Int)(G:List (List Int))(T:Nat→Bool):Acc W S G T T:=⟨fun _ h=>h,fun n _ h k=>by rw[h]at k;cases k⟩
theorem sU.mono{W:List (List Int)}{S:List Int}{i:Int}{U V:Nat→Prop}(h:sU W S i U)(s:∀n,U n→V n):sU W S i V:=fun x hx hw=>s x (h x hx hw)
theorem Acc.trans{W:List (List Int)}{S:List Int}{G:List (List Int)}{T T2 T3:Nat→Bool}(h:Acc W S G T T2)(g:Acc W S G T2 T3):Acc W S G T T3:=by
 refine⟨fun n hn=>g.sub n (h.sub n hn),fun n hn h3 h1=>?_⟩
 cases h2:T2 n with
 | true=>
   obtain⟨a,b⟩:=h.clo n hn h2 h1
   exact⟨a,fun j hj=>(b j hj).mono g.sub⟩
 | false=>exact g.clo n hn h3 h2
theorem lN.acc{W:List (List Int)}{S:List Int}{G:List (List Int)}{i:Int}{T T2:Nat→Bool}(h:lN W S G i T T2):Acc W S G T T2:=⟨h.sub,h.clo⟩
theorem Acc.num{W:List (List Int)}{S:List Int}{G:List (List Int)}{T T2:List Bool}{n:Nat}(hn:n<T.length)(h:Acc W S G (Tb (T.set n true)) (Tb T2))(hf:nth S n≤(nth G n).length)(hm:∀j∈nth G n,sU W S j fun x=>Tb T2 x=true):Acc W S G (Tb T) (Tb T2):=by
 have e1:nth (T.set n true) n=true:=by
  unfold nth
  rw[aLl,aLj hn];rfl
 have e2:∀m,m≠n→nth (T.set n true) m=nth T m:=fun m hm=>by
  unfold nth
  rw[aLl,aLl,aLi (fun k=>hm k.symm)]
 refine⟨fun m hm=>h.sub m ?_,fun m hm h2 h1=>?_⟩
 · by_cases e:m=n
   · subst e;exact e1
   · simp only[Tb]at hm ⊢;rw[e2 m e];exact hm
 · by_cases e:m=n
   · subst e;exact⟨hf,hm⟩
   · refine h.clo m hm h2 ?_
     simp only[Tb]at h1 ⊢;rw[e2 m e];exact h1
theorem MJ{W:List (List Int)}{S:List Int}{T:List Bool}{G:List (List Int)}:finish (3+rk G G.length) 0 (bY W S T G) [B false]=some (B false,bY W S T G):=by
 have el:=eK W S T G
 have ho:((bY W S T G).take (3+rk G G.length)).all (fun o=>o.ds.all (old (3+rk G G.length) depth))=true:=by
  rw[List.take_of_length_le (by omega),aLx]
  intro o ho
  have ht:∀ts:List Ev.T,(ts.map D.t).all (old (3+rk G G.length) depth)=true:=fun ts=>by
   rw[aLx];intro d hd;obtain⟨t,_,rfl⟩:=List.mem_map.1 hd;rfl
  simp only[bY,dt,List.mem_cons]at ho
  rcases ho with rfl | rfl | rfl | ho
  · simp[Obj.ds,old,depth];omega
  · exact ht _
  · have:∀m,m≤G.length→(esT G (fun n=>3+rk G n) m).all (old (3+rk G G.length) depth)=true:=by
     intro m
     induction m with
     | zero=>intro _;rfl
     | succ m ih=>
       intro hm
       rw[esT,List.all_append,ih (by omega)]
       by_cases e:nth G m=[]
       · simp[e,old,depth]
       · have:=lT G (n:=m) (m:=G.length) (by omega) e
         simp[e,old,depth];omega
    exact this _ (aLs _)
  · obtain⟨l,rfl⟩:=ko _ _ _ o ho
    exact ht _
 have hr:([B false].all (old (3+rk G G.length) depth))=true:=rfl
 unfold finish
 simp only[if_true,az,gB,aLq,aLw]
 rw[hr,ho]
 simp only[Bool.and_self,if_true,bZ,List.flatMap_cons,List.flatMap_nil,bf,List.append_nil,List.all_nil,iI]
 rw[List.take_of_length_le (by omega)]
 rfl
theorem mU{sel:List Nat}{k:Nat}(hk:k∉sel):∀ {l:List Nat},(∀x∈l,x∈sel∨x=k)→k∈l→aS sel l=sel++[k]
 | [],_,h=>by simp at h
 | i::r,h,hm=>by
   by_cases e:i=k
   · subst e
     have:sel.contains i=false:=by rw[Bool.eq_false_iff];exact fun hc=>hk (List.contains_iff_mem.1 hc)
     rw[aS,this]
     simp only[aLt,if_false]
     exact jS fun x hx=>by
      rcases h x (List.mem_cons_of_mem _ hx)with a | a
      · exact List.mem_append_left _ a
      · subst a;simp
   · have hi:i∈sel:=by rcases h i List.mem_cons_self with a | a;exact a;exact absurd a e
     rw[aS,List.contains_iff_mem.2 hi]
     simp only[if_true]
     refine mU hk (fun x hx=>h x (List.mem_cons_of_mem _ hx)) ?_
     rcases List.mem_cons.1 hm with a | a
     · exact absurd a.symm e
     · exact a
theorem wV{n i:Nat}(h:i<n):idxOf (List.range n) i=some i:=cE _ _ _ List.nodup_range (aLp h)
theorem nT(k:Nat)(ts:List Ev.T):(ts.map D.t).all (old k depth)=true:=by
 rw[aLx];intro d hd;obtain⟨t,_,rfl⟩:=List.mem_map.1 hd;rfl
theorem jT{G:List (List Int)}{f:Nat→Nat}{j:Nat}:∀ {m:Nat},j∈idT G f m↔∃n,n<m∧nth G n≠[]∧j=f n
 | 0=>by simp[idT]
 | m+1=>by
   rw[idT,List.mem_append,jT]
   constructor
   · rintro (⟨n,a,b,c⟩ | h)
     · exact⟨n,by omega,b,c⟩
     · split at h
       · simp at h
       · rename_i hm;exact⟨m,by omega,hm,by simpa using h⟩
   · rintro ⟨n,a,b,c⟩
     by_cases e:n=m
     · subst e;right;rw[if_neg b];simp[c]
     · exact .inl ⟨n,by omega,b,c⟩
theorem qy{G:List (List Int)}{f:Nat→Nat}{k:Nat}:∀m,(∀n,n<m→nth G n≠[]→f n<k)→(esT G f m).all (old k depth)=true
 | 0,_=>rfl
 | m+1,h=>by
   rw[esT,List.all_append,qy m fun n hn=>h n (by omega)]
   by_cases e:nth G m=[]
   · simp[e,old,depth]
   · have:=h m (by omega) e
     simp[e,old,depth,this]
theorem MK{W:List (List Int)}{S:List Int}{T:List Bool}{G G2:List (List Int)}{x:ab}(gl:G2.length=G.length)(h:rX G G2 x):finish (3+rk G G.length) 0 (dt W S T G2 (fK G) (aT G G2 G.length++x)) [B true]=some (B true,dt W S T G2 (fK G) (aT G G2 G.length++x)):=by
 have al:=dW G G2 G.length
 have fk:∀n,n<G.length→nth G n≠[]→fK G n<3+rk G G.length:=fun n hn hne=>by
  have:=lT G (n:=n) (m:=G.length) hn hne
  unfold fK;rw[if_neg hne];omega
 have hr:([B true].all (old (3+rk G G.length) depth))=true:=rfl
 have ra:∀K:ab,bf K depth (B true)=[]:=fun _=>rfl
 rcases h.new with⟨rfl,hn⟩ | ⟨n0,n1,n2,n3,rfl,n4⟩
 · have el:(dt W S T G2 (fK G) (aT G G2 G.length++[])).length=3+rk G G.length:=by simp only[dt,List.append_nil,List.length_cons,al];omega
   have ho:((dt W S T G2 (fK G) (aT G G2 G.length++[])).take (3+rk G G.length)).all (fun o=>o.ds.all (old (3+rk G G.length) depth))=true:=by
    rw[List.take_of_length_le (by omega),aLx]
    intro o ho
    simp only[dt,List.append_nil,List.mem_cons]at ho
    rcases ho with rfl | rfl | rfl | ho
    · simp[Obj.ds,old,depth];omega
    · exact nT _ _
    · refine qy _ fun n hn' hne=>fk n (by omega) fun e=>hne (hn n e)
    · obtain⟨l,rfl⟩:=ko _ _ _ o ho
      exact nT _ _
   unfold finish
   simp only[if_true,az,gB,aLq,aLw]
   rw[hr,ho]
   simp only[Bool.and_self,if_true,bZ,List.flatMap_cons,List.flatMap_nil,ra,List.append_nil,List.all_nil,iI]
   rw[List.take_of_length_le (by simp only[dt,List.length_cons,al];omega)]
 · generalize hk:3+rk G G.length=k at*
   generalize hK:dt W S T G2 (fK G) (aT G G2 G.length++[arA (nth G2 n0)])=K at*
   have el:K.length=k+1:=by rw[← hK];simp only[dt,List.length_cons,aLv,al,List.length_nil];omega
   have f0:fK G n0=k:=by unfold fK;rw[if_pos n2];exact hk
   have kk:K[k]?=some (arA (nth G2 n0)):=by
    rw[← hK,←hk,show 3+rk G G.length=rk G G.length+1+1+1 by omega]
    simp only[dt,List.getElem?_cons_succ]
    rw[aLh (by omega),al,Nat.sub_self];rfl
   have hg:K[2]?=some (.arr 1 false 0 (esT G2 (fK G) G2.length)):=by rw[← hK];rfl
   have k3:3≤k:=by omega
   -- the names that the old objects hold
   have ids_:∀i,i<k→∀j∈(match K[i]? with | some o=>o.ds.flatMap (ids depth) | none=>[]),j<k∨j=k:=by
    intro i hi j hj
    have mem:∃o,K[i]?=some o∧j∈o.ds.flatMap (ids depth):=by
     cases ho:K[i]? with
     | none=>rw[ho]at hj;simp at hj
     | some o=>rw[ho]at hj;exact⟨o,rfl,hj⟩
    obtain⟨o,ho,hj⟩:=mem
    have hm:o∈K:=aLd ho
    rw[← hK]at hm
    simp only[dt,List.mem_cons,List.mem_append,List.not_mem_nil,or_false]at hm
    rcases hm with rfl | rfl | rfl | hm | rfl
    · have:j=2:=by simpa [Obj.ds,ids,depth]using hj
      omega
    · rw[show(Obj.arr 1 false 0 (bls T)).ds.flatMap (ids depth)=[]from qt T]at hj;simp at hj
    · rw[show(Obj.arr 1 false 0 (esT G2 (fK G) G2.length)).ds.flatMap (ids depth)=_ from nP _ _ _]at hj
      obtain⟨n,a,b,rfl⟩:=jT.1 hj
      by_cases e:nth G n=[]
      · right;unfold fK;rw[if_pos e];exact hk
      · left;exact fk n (by omega) e
    · obtain⟨l,rfl⟩:=ko _ _ _ o hm
      rw[qu]at hj;simp at hj
    · rw[qu]at hj;simp at hj
   have fr:aS (List.range k) (cT K (List.range k))=List.range k++[k]:=by
    refine mU (by simp) (fun j hj=>?_) ?_
    · unfold cT at hj
      obtain⟨i,hi,hj⟩:=List.mem_flatMap.1 hj
      rcases ids_ i (aLu.1 hi) j hj with a | a
      · exact .inl (aLu.2 a)
      · exact .inr a
    · unfold cT
      refine List.mem_flatMap.2 ⟨2,aLu.2 (by omega),?_⟩
      rw[hg]
      show k∈(esT G2 (fK G) G2.length).flatMap (ids depth)
      rw[nP]
      exact jT.2 ⟨n0,by omega,n3,f0.symm⟩
   have no:((K.take k).all (fun o=>o.ds.all (old k depth)))=false:=by
    rw[Bool.eq_false_iff]
    intro hh
    rw[aLx]at hh
    have h2:(Obj.arr 1 false 0 (esT G2 (fK G) G2.length))∈K.take k:=by
     refine aLd (i:=2) ?_
     rw[List.getElem?_take_of_lt (by omega)];exact hg
    have h3:=hh _ h2
    simp only[Obj.ds,aLx]at h3
    have h4:=h3 (.ref (fK G n0) 0 (nth G2 n0).length) (by
     have:=nO G2 (fK G) (n:=n0) G2.length (by omega)
     rw[if_neg n3]at this
     exact aLd this)
    rw[f0]at h4
    simp[old,depth]at h4
   have pk1:pick K [k]=some [arA (nth G2 n0)]:=by simp only[pick,kk,aLq,aLw]
   have fz:aZ K (arA (nth G2 n0))=some (arA (nth G2 n0)):=by
    have e:∀ts:List Ev.T,az (fun d=>(frz K depth d).map D.t) (ts.map D.t)=some (ts.map D.t):=fun ts=>wQ fun t _=>rfl
    simp only[aZ,ints,e,aLw]
   have ar0:(arA (nth G2 n0)).ds.flatMap (bf K depth)=[]:=by
    rw[List.flatMap_eq_nil_iff]
    intro d hd
    simp only[Obj.ds,ints]at hd
    obtain⟨t,_,rfl⟩:=List.mem_map.1 hd
    rfl
   have kl:de K (max 0 1) (List.range k) (cT K (List.range k))=some ([k],[arA (nth G2 n0)]):=by
    show de K (0+1) (List.range k) (cT K (List.range k))=_
    simp only[de]
    rw[fr]
    have d1:(List.range k++[k]).drop (List.range k).length=[k]:=List.drop_left
    rw[d1,pk1]
    simp only[aLq,if_true,List.flatMap_cons,List.flatMap_nil,ar0,List.append_nil,List.all_nil,az,fz,aLw]
   have ix:∀j,j<k∨j=k→idxOf (List.range k++[k]) j=some j:=fun j hj=>by
    rw[← List.range_succ];exact wV (by omega)
   have rn:az (aN (idxOf (List.range k++[k]))) K=some K:=by
    have e1:az (ren (idxOf (List.range k++[k])) 8) (esT G2 (fK G) G2.length)=some (esT G2 (fK G) G2.length):=lU (u:=idxOf (List.range k++[k])) (f2:=fK G) G2.length (fun n hn hne=>by
     refine ix _ ?_
     by_cases e:nth G n=[]
     · right;unfold fK;rw[if_pos e];exact hk
     · left;exact fk n (by omega) e)
    have e2:az (ren (idxOf (List.range k++[k])) 8) (bls T)=some (bls T):=fx _ _
    have e3:az (aN (idxOf (List.range k++[k]))) (aT G G2 G.length++[arA (nth G2 n0)])=some (aT G G2 G.length++[arA (nth G2 n0)]):=by
     refine nJ fun o ho=>?_
     have:∃l,o=arA l:=by
      rcases List.mem_append.1 ho with a | a
      · exact ko _ _ _ o a
      · exact⟨_,List.mem_singleton.1 a⟩
     obtain⟨l,rfl⟩:=this
     simp only[aN,ints,fx,aLw]
    have e4:=ix 2 (by omega)
    rw[← hK]
    simp only[dt,az,aN,ren,depth,e4,aLw,aLq]
    rw[e1,e2,e3];rfl
   have tk:K.take k++[arA (nth G2 n0)]=K:=by
    have:=List.take_append_drop k K
    have d:K.drop k=[arA (nth G2 n0)]:=by
     apply List.ext_getElem?
     intro j
     rw[List.getElem?_drop]
     cases j with
     | zero=>exact kk
     | succ j=>rw[aLm (by omega),aLm (by simp)]
    rw[d]at this
    exact this
   have i0:([B true].flatMap (ids depth))=[]:=rfl
   unfold finish
   simp only[if_true,az,gB,aLq,aLw]
   rw[hr,no]
   simp only[Bool.and_false,aLt,if_false]
   rw[i0,List.nil_append,kl]
   simp only[aLq,bZ,if_true,List.flatMap_cons,List.flatMap_nil,ra,List.append_nil,List.all_nil]
   rw[tk,rn]
   rfl
theorem wW(l:List Int):(ints l).length=l.length:=by simp[ints]
theorem kG(W:List (List Int))(S:List Int)(T:List Bool)(G:List (List Int)):br (3+rk G G.length) (bY W S T G)=true:=by
 have h:(bY W S T G).all (fun o=>o.ds.all (old (3+rk G G.length) depth))=true:=by
  rw[aLx]
  intro o ho
  simp only[bY,dt,List.mem_cons]at ho
  rcases ho with rfl | rfl | rfl | ho
  · simp[Obj.ds,old,depth];omega
  · exact nT _ _
  · exact qy _ fun n hn hne=>by have:=lT G (n:=n) (m:=G.length) hn hne;omega
  · obtain⟨l,rfl⟩:=ko _ _ _ o ho
    exact nT _ _
 rw[← c8];exact h
theorem zw{W:List (List Int)}{S:List Int}{T:List Bool}{G G1:List (List Int)}{x:ab}{n:Nat}(hl:G1.length=G.length)(hn:n<G.length)(hne:nth G n≠[]){l:List Int}(hll:l.length=(nth G1 n).length)(h1:nth G1 n≠[]):
 (dt W S T G1 (fK G) (aT G G1 G.length++x)).set (3+rk G n) (arA l)=dt W S T (G1.set n l) (fK G) (aT G (G1.set n l) G.length++x):=by
 have e1:esT G1 (fK G) G1.length=esT (G1.set n l) (fK G) (G1.set n l).length:=by
  rw[List.length_set]
  refine jm _ fun m hm=>?_
  by_cases e:m=n
  · subst e
    rw[bR hm]
    refine⟨⟨fun k=>absurd k h1,fun k=>?_⟩,fun _=>⟨rfl,hll.symm⟩⟩
    rw[k]at hll;exact List.length_eq_zero_iff.1 hll.symm
  · rw[aU (fun k=>e k.symm)]
    exact⟨Iff.rfl,fun _=>⟨rfl,rfl⟩⟩
 have e2:(aT G G1 G.length++x).set (rk G n) (arA l)=aT G (G1.set n l) G.length++x:=by
  rw[List.set_append_left _ _ (by rw[dW];exact lT G hn hne)]
  have:=wT (G1:=G1) (G2:=G1.set n l) hne G.length hn fun k hk hkn _=>by rw[aU (fun z=>hkn z.symm)]
  rw[bR (by omega)]at this
  rw[this]
 rw[show 3+rk G n=rk G n+1+1+1 by omega]
 rw[List.length_set]at e1
 simp only[dt,List.set_cons_succ,e2,List.length_set,←e1]
abbrev inV(i n j k L wl:Nat)(l:List Int)(gD:D)(gl:Nat):List D:=[.bp 0 0,I i,.ref 1 0 L,.und,I n,.und,.und,.t (tL l),I wl,I j,gD,I gl,I k]
def rZ(G:List (List Int))(n:Nat):D:=if nth G n=[]then .nil else .ref (3+rk G n) 0 (nth G n).length
theorem Sq{W:List (List Int)}{S:List Int}{G:List (List Int)}(hW:W.length≤1000)(hS:S.length≤1000)(hG:GI W S G)(hc:∀n,(nth G n).length≤1000000){i n:Nat}(hi:i<W.length)(hn:n<S.length)(hw:(n:Int)∈nth W i){T T1:List Bool}(ht:nth T n=false)(hT:∀m,nth T m=true→nth T1 m=true)(h1:nth T1 n=true)(tl:T1.length=S.length)
 (ih:∀T':List Bool,T'.length=S.length→left T'≤left T1→∀o:Nat,o<W.length→∃r,c9 0 N.ah [.bp 0 0,I o,.ref 1 0 S.length] (bY W S T' G)=some (B r.1,r.2)∧zv W S G o T' r) (j wl:Nat) (z3 z5 z6:D):
 ∃q,exS c9 K.dm ⟨[.bp 0 0,I i,.ref 1 0 S.length,z3,I n,z5,z6,.t (tL (nth W i)),I wl,I j,rZ G n,I (nth G n).length,I 0],bY W S T1 G⟩=some q∧
  ((∃T2:List Bool,q=(.exit 2,⟨inV i n j (nth G n).length S.length wl (nth W i) (rZ G n) (nth G n).length,bY W S T2 G⟩)∧T2.length=S.length∧Acc W S G (Tb T1) (Tb T2)∧left T2≤left T1∧∀o∈nth G n,sU W S o fun x=>Tb T2 x=true)∨
   ∃(T2:List Bool) (G2:List (List Int)) (x:ab) (vs:List D),q=(.ret,⟨vs,dt W S T2 G2 (fK G) (aT G G2 G.length++x)⟩)∧vs[3]?=some (B true)∧T2.length=S.length∧rX G G2 x∧eF W S G i (Tb T) G2):=by
 have gl:=hG.len
 refine vS (fun k st=>∃T':List Bool,T'.length=S.length∧Acc W S G (Tb T1) (Tb T')∧left T'≤left T1∧(∀q,q<k→sU W S (nth (nth G n) q) fun x=>Tb T' x=true)∧st=⟨inV i n j k S.length wl (nth W i) (rZ G n) (nth G n).length,bY W S T' G⟩) (nth G n).length _ ⟨T1,tl,Acc.refl _ _ _ _,aLs _,fun q hq=>by omega,by simp only[go_sem,inV,Int.natCast_zero]⟩ ?_ ?_
 · rintro k st hk ⟨T',tl',acc,lf,ws,rfl⟩
   have hne:nth G n≠[]:=fun e=>by rw[e]at hk;simp at hk
   have gD:rZ G n= .ref (3+rk G n) 0 (nth G n).length:=if_neg hne
   obtain⟨o1,o2,o3⟩:=hG.wnt n hn _ (aLd (eW hk))
   obtain⟨r,hr,dn⟩:=ih T' tl' lf (nth (nth G n) k).toNat (by omega)
   rw[Int.toNat_of_nonneg o1]at hr dn
   have oc:=tx (n:=S.length) hr dn
   have rl:=lT G (n:=n) (m:=G.length) (by omega) hne
   have cl:=eK W S T' G
   have ka:(bY W S T' G)[3+rk G n]?=some (arA (nth G n)):=(qw W S T' G).hf n (by omega) hne
   have eg:(ints (nth G n))[k]?=some (I (nth (nth G n) k)):=nI _ _ hk
   have el:=wW (nth G n)
   have glb:=hc n
   rcases dn with⟨G1,T2,x,rfl,p,nx,tl2⟩ | ⟨T2,rfl,p,tl2,lf2⟩
   · right
     have g1:=p.gi.len
     have pn:nth G1 n=nth G n:=p.old n (by
      by_cases e:Tb T1 n=true
      · exact acc.sub n e
      · exact absurd h1 e)
     have st:=zw (W:=W) (S:=S) (T:=T2) (G:=G) (G1:=G1) (x:=x) (by omega) (by omega) hne (l:=(nth G n).set k i) (by rw[List.length_set,pn]) (by rw[pn];exact hne)
     have st2:arA ((nth G n).set k (i:Int))= .arr 1 false 0 ((ints (nth G n)).set k (I i)):=by simp[arA,ints]
     rw[st2]at st
     have mv:=tA hG hi hn hw hk ht (fun m hm=>acc.sub m (hT m hm)) (acc.sub n h1) p
     have nx2:rX G (G1.set n ((nth G n).set k (i:Int))) x:=by
      have en:nth (G1.set n ((nth G n).set k (i:Int))) n≠[]:=by
       rw[bR (by omega)]
       intro e
       have:=congrArg List.length e
       rw[List.length_set]at this
       simp at this
       exact hne this
      refine⟨fun m hm=>?_,?_⟩
      · by_cases e:m=n
        · subst e;exact en
        · rw[aU (fun z=>e z.symm)];exact nx.keep m hm
      · rcases nx.new with⟨a,b⟩ | ⟨n0,a,b,c,d,e⟩
        · refine .inl ⟨a,fun m hm=>?_⟩
          have:m≠n:=fun z=>by subst z;exact hne hm
          rw[aU (fun z=>this z.symm)];exact b m hm
        · have e0:n≠n0:=fun z=>by subst z;exact hne b
          refine .inr ⟨n0,a,b,by rw[aU e0];exact c,by rw[aU e0];exact d,fun m hm1 hm2=>?_⟩
          have:n≠m:=fun z=>by subst z;exact hne hm2
          rw[aU this];exact e m hm1 hm2
     have k0:(dt W S T2 G1 (fK G) (aT G G1 G.length++x))[0]?=some (.box [.t (.sl (W.map tL)),.t (tL S),.ref 2 0 G1.length]):=rfl
     have k2:(dt W S T2 G1 (fK G) (aT G G1 G.length++x))[2]?=some (.arr 1 false 0 (esT G1 (fK G) G1.length)):=rfl
     have k3:(dt W S T2 G1 (fK G) (aT G G1 G.length++x))[3+rk G n]?=some (arA (nth G n)):=by
      rw[show 3+rk G n=rk G n+1+1+1 by omega]
      simp only[dt,List.getElem?_cons_succ]
      rw[aLg (by rw[dW];exact rl),rU G G1 hne G.length (by omega),pn]
     have ee:(esT G1 (fK G) G1.length)[n]?=some (.ref (3+rk G n) 0 (nth G n).length):=by
      rw[nO G1 (fK G) G1.length (by omega),pn,if_neg hne]
      unfold fK;rw[if_neg hne]
     have e3:=eJ G1 (fK G) G1.length
     simp only at oc tl2
     have fin:∃vs,exS c9 K.a6 ⟨inV i n j k S.length wl (nth W i) (rZ G n) (nth G n).length,bY W S T' G⟩=some (.ret,⟨vs,dt W S T2 (G1.set n ((nth G n).set k (i:Int))) (fK G) (aT G (G1.set n ((nth G n).set k (i:Int))) G.length++x)⟩)∧vs[3]?=some (B true):=by
      rw[gD]
      generalize dt W S T2 (G1.set n ((nth G n).set k (i:Int))) (fK G) (aT G (G1.set n ((nth G n).set k (i:Int))) G.length++x)=K3 at*
      generalize dt W S T2 G1 (fK G) (aT G G1 G.length++x)=K2 at*
      generalize bY W S T' G=K1 at*
      generalize esT G1 (fK G) G1.length=E at*
      generalize nth (nth G n) k=oth at*
      generalize (nth G n).length=gln at*
      clear ih hT nx nx2 mv p pn ws acc
      simp only[arA]at*
      generalize ints (nth G n)=GG at*
      generalize 3+rk G n=id at*
      apply Exists.intro
      apply And.intro
      · simp(disch:=omega)only[go_sem,K.a6,↓reduceIte,ka,eg,el,oc,k0,k2,k3,ee,e3,st,reduceAdd,reduceSub]
        rfl
      · rfl
     obtain⟨vs,f1,f2⟩:=fin
     exact⟨_,f1,by simp,.inr ⟨T2,_,x,vs,rfl,f2,by omega,nx2,mv⟩⟩
   · left
     simp only at oc tl2 lf2
     refine⟨⟨inV i n j (k+1) S.length wl (nth W i) (rZ G n) (nth G n).length,bY W S T2 G⟩,?_,T2,by omega,acc.trans p.acc,by omega,fun q hq=>?_,rfl⟩
     · have ho:=kG W S T2 G
       have cl2:=eK W S T2 G
       have tk:(bY W S T2 G).take (3+rk G G.length)=bY W S T2 G:=List.take_of_length_le (by omega)
       rw[gD,cl]
       generalize bY W S T2 G=K2 at*
       generalize bY W S T' G=K1 at*
       generalize nth (nth G n) k=oth at*
       generalize (nth G n).length=gln at*
       clear ih hT p ws acc
       simp only[arA]at*
       generalize ints (nth G n)=GG at*
       have k3:3≤3+rk G G.length:=by omega
       have i3:3+rk G n<3+rk G G.length:=by omega
       generalize 3+rk G n=id at*
       generalize 3+rk G G.length=kL at*
       have b0:ltB 0 kL=true:=by rw[cn];simp;omega
       have b1:ltB 1 kL=true:=by rw[cn];simp;omega
       have b2:ltB id kL=true:=by rw[cn];simp;omega
       simp(disch:=omega)only[go_sem,K.a6,↓reduceIte,ka,eg,el,oc,ho,tk,cl2,b0,b1,b2,reduceAdd,reduceSub]
       rfl
     · by_cases e:q=k
       · subst e;exact p.wnt
       · exact(ws q (by omega)).mono p.sub
 · rintro st ⟨T',tl',acc,lf,ws,rfl⟩
   refine⟨(.exit 2,⟨inV i n j (nth G n).length S.length wl (nth W i) (rZ G n) (nth G n).length,bY W S T' G⟩),?_,by simp,.inl ⟨T',rfl,tl',acc,lf,fun o ho=>?_⟩⟩
   · generalize bY W S T' G=K1
     generalize (nth G n).length=gln
     simp(disch:=omega)only[go_sem,K.a6,↓reduceIte,reduceAdd,reduceSub]
   · obtain⟨k,hk⟩:=aLf.1 ho
     have kl:=(aLe.1 hk).1
     have:=ws k kl
     have e:nth (nth G n) k=o:=by have:=eW kl;rw[hk]at this;exact(Option.some.inj this).symm
     rwa [e]at this
end Go.Ev
