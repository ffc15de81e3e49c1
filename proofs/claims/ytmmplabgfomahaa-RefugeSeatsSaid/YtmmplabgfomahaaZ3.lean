/- Parts of the proof: see the text that holds the theorem. -/
import Derived.Test.YtmmplabgfomahaaZ2
set_option linter.all false
open Nat (reduceAdd reduceSub)
set_option maxRecDepth 100000
namespace Go.Ev
open Go
abbrev I(n:Int):D:= .t (.int .i64 n)
abbrev B(b:Bool):D:= .t (.bool b)
def xi{β:Type}(call:ak):List R→List D→List D→ab→(List D→List D→ab→Option β)→Option β
 | rs,L,vs,H,K=>(evR call rs L vs H).bind fun q=>K q.1 q.2.1 q.2.2
def FO{β:Type}(call:ak)(rs:List R)(d:Option Nat)(L vs:List D)(K:List D→List D→ab→Option β)(p:D×ab):Option β:=
 xi call rs (p.1::L) (wr vs d p.1) p.2 K
@[go_sem] theorem QR {β : Type} (call : ak) (rs : List R) (d : Option Nat) (L vs : List D) (K : List D → List D → ab → Option β) (x : D) (H : ab) :
 FO call rs d L vs K (x,H)=xi call rs (x::L) (wr vs d x) H K:=(rfl)
@[go_sem] theorem QS {β : Type} (call : ak) (L vs : List D) (H : ab) (K : List D → List D → ab → Option β) : xi call [] L vs H K = K L vs H := (rfl)
@[go_sem] theorem Ni {β : Type} (call : ak) (o : O) (d : Option Nat) (rs : List R) (L vs : List D) (H : ab) (K : List D → List D → ab → Option β) :
 xi call (⟨o,d,none⟩::rs) L vs H K=(evO call (X.get vs L) H o).bind (FO call rs d L vs K):=by
 simp[xi,evR,aQ,Option.bind_assoc]
 rfl
def gate{β:Type}(c:Option D)(w:Bool)(a b:Option β):Option β:=match c with
 | some (.t (.bool x))=>if x=w then a else b
 | some (.tup [])=>b
 | _=>none
@[congr] theorem JQ {β : Type} {c c' : Option D} {w : Bool} {a b : Option β} (h : True → c = c') : gate c w a b = gate c' w a b := by rw [h trivial]
@[go_sem] theorem QT {β : Type} (p : Prop) [Decidable p] (a b : Option β) : gate (some (.t (.bool (decide p)))) true a b = if p then a else b := by
 by_cases h:p<;>simp[gate,h]
@[go_sem] theorem Nj {β : Type} (p : Prop) [Decidable p] (a b : Option β) : gate (some (.t (.bool (decide p)))) false a b = if p then b else a := by
 by_cases h:p<;>simp[gate,h]
@[go_sem] theorem Nk {β : Type} (x : Bool) (a b : Option β) : gate (some (.t (.bool x))) true a b = if x = true then a else b := (rfl)
@[go_sem] theorem JR {β : Type} (x : Bool) (a b : Option β) : gate (some (.t (.bool x))) false a b = if x = true then b else a := by cases x <;> rfl
@[go_sem] theorem Nl {β : Type} (w : Bool) (a b : Option β) : gate (some (.tup [])) w a b = b := (rfl)
@[go_sem] theorem Nn {β : Type} (call : ak) (o : O) (d : Option Nat) (k : Nat) (w : Bool) (rs : List R) (L vs : List D) (H : ab) (K : List D → List D → ab → Option β) :
 xi call (⟨o,d,some (k,w)⟩::rs) L vs H K=gate L[k]? w ((evO call (X.get vs L) H o).bind (FO call rs d L vs K)) (xi call rs (.tup []::L) (wr vs d (.tup [])) H K):=by
 simp only[xi,evR,aQ]
 cases hL:L[k]? with
 | none=>simp[gate]
 | some c=>
   simp only[aLq]
   cases c with
   | t x=>
     cases x with
     | bool b=>cases b<;>cases w<;>simp[gate,Option.bind_assoc]<;>rfl
     | _=>simp[gate]
   | tup ds=>
     cases ds with
     | nil=>simp[gate]
     | cons=>simp[gate]
   | _=>simp[gate]
open Classical in
noncomputable def mm{β:Type}(p:Prop)(x:Option β):Option β:=if p then x else none
@[go_sem] theorem FP {β : Type} (x : Option β) : mm True x = x := by simp [mm]
noncomputable def q6{β:Type}(call:ak)(all:List R)(n:Nat)(ps:List (Nat×Nat))(rs:List R)(L vs:List D)(H:ab)(acc:List Tr)(K:List D→List D→ab→Option β):Option β:=
 (evR call rs L vs H).bind fun q=>mm (gW call all n ((trace call rs L vs H).reverse++acc) ps) (K q.1 q.2.1 q.2.2)
noncomputable def yx{β:Type}(call:ak)(all:List R)(n:Nat)(ps:List (Nat×Nat))(rs:List R)(d:Option Nat)(L vs:List D)(H:ab)(acc:List Tr)(K:List D→List D→ab→Option β)(p:D×ab):Option β:=
 q6 call all n ps rs (p.1::L) (wr vs d p.1) p.2 ((L,vs,H)::acc) K
@[go_sem] theorem QU {β : Type} (call : ak) (all : List R) (n : Nat) (ps : List (Nat × Nat)) (rs : List R) (d : Option Nat) (L vs : List D) (H : ab) (acc : List Tr) (K : List D → List D → ab → Option β) (x : D) (H' : ab) :
 yx call all n ps rs d L vs H acc K (x,H')=q6 call all n ps rs (x::L) (wr vs d x) H' ((L,vs,H)::acc) K:=(rfl)
@[go_sem] theorem QV {β : Type} (call : ak) (all : List R) (n : Nat) (ps : List (Nat × Nat)) (L vs : List D) (H : ab) (acc : List Tr) (K : List D → List D → ab → Option β) :
 q6 call all n ps [] L vs H acc K=mm (gW call all n ((L,vs,H)::acc) ps) (K L vs H):=by
 simp[q6,evR,trace]
theorem q7{β:Type}(call:ak)(all:List R)(n:Nat)(ps:List (Nat×Nat))(r:R)(rs:List R)(L vs:List D)(H:ab)(acc:List Tr)(K:List D→List D→ab→Option β):
 q6 call all n ps (r::rs) L vs H acc K=(aQ L r.g).bind fun w=>
  if w then(evO call (X.get vs L) H r.o).bind (yx call all n ps rs r.d L vs H acc K)else q6 call all n ps rs (.tup []::L) (wr vs r.d (.tup [])) H ((L,vs,H)::acc) K:=by
 obtain hw | ⟨w,hw⟩:aQ L r.g=none∨∃w,aQ L r.g=some w:=by cases aQ L r.g<;>simp
 · simp[q6,evR,trace,hw]
 · cases w with
   | true=>
     obtain hq | ⟨q,hq⟩:evO call (X.get vs L) H r.o=none∨∃q,evO call (X.get vs L) H r.o=some q:=by cases evO call (X.get vs L) H r.o<;>simp
     · simp[q6,evR,trace,hw,hq]
     · simp[q6,evR,trace,hw,hq,yx]
   | false=>simp[q6,evR,trace,hw]
@[go_sem] theorem No {β : Type} (call : ak) (all : List R) (n : Nat) (ps : List (Nat × Nat)) (o : O) (d : Option Nat) (rs : List R) (L vs : List D) (H : ab) (acc : List Tr) (K : List D → List D → ab → Option β) :
 q6 call all n ps (⟨o,d,none⟩::rs) L vs H acc K=(evO call (X.get vs L) H o).bind (yx call all n ps rs d L vs H acc K):=by
 rw[q7];simp[aQ]
@[go_sem] theorem Np {β : Type} (call : ak) (all : List R) (n : Nat) (ps : List (Nat × Nat)) (o : O) (d : Option Nat) (k : Nat) (w : Bool) (rs : List R) (L vs : List D) (H : ab) (acc : List Tr) (K : List D → List D → ab → Option β) :
 q6 call all n ps (⟨o,d,some (k,w)⟩::rs) L vs H acc K=
  gate L[k]? w ((evO call (X.get vs L) H o).bind (yx call all n ps rs d L vs H acc K)) (q6 call all n ps rs (.tup []::L) (wr vs d (.tup [])) H ((L,vs,H)::acc) K):=by
 rw[q7]
 simp only[aQ]
 cases hL:L[k]? with
 | none=>simp[gate]
 | some c=>
   simp only[aLq]
   cases c with
   | t x=>
     cases x with
     | bool b=>cases b<;>cases w<;>simp[gate]
     | _=>simp[gate]
   | tup ds=>
     cases ds with
     | nil=>simp[gate]
     | cons=>simp[gate]
   | _=>simp[gate]
def mJ(call:ak):Option R→Option Tr→Option Tr→Option Tr→Prop
 | some r,some s,some a,some s'=>(match r.o with
   | .al _ _=>a.2.2[s.2.2.length]?=s'.2.2[s.2.2.length]?
   | .bs xs _=>aQ s.1 r.g=some false∨((aE (X.get s.2.1 s.1) xs).bind gC).isSome=true
   | o=>jw o=true∧(aQ s.1 r.g=some false∨oV (evO call (X.get s.2.1 s.1) a.2.2 o)=oV (evO call (X.get s.2.1 s.1) s.2.2 o)))
 | _,_,_,_=>False
@[go_sem] theorem JS (call : ak) (all : List R) (n : Nat) (acc : List Tr) : gW call all n acc [] = True := (rfl)
@[go_sem] theorem FQ (call : ak) (all : List R) (n : Nat) (acc : List Tr) (p m : Nat) (r : List (Nat × Nat)) :
 gW call all n acc ((p,m)::r)=(mJ call all[p]? acc[n-p]? acc[n-m]? acc[n-(p+1)]?∧m≤n∧gW call all n acc r):=by
 simp only[gW,FN,mJ]
 try rfl
section
variable (call : ak) (d : Option Nat) (gd : Option (Nat × Bool)) (L vs L' vs' : List D) (H H' : ab) (s' : Tr)
@[go_sem] theorem QW (x : X) (n : Nat) (agg : Bool) : mJ call (some ⟨.ld x n agg, d, gd⟩) (some (L, vs, H)) (some (L', vs', H')) (some s') =
 (aQ L gd=some false∨oV (evO call (X.get vs L) H' (.ld x n agg))=oV (evO call (X.get vs L) H (.ld x n agg))):=by simp[mJ,jw]
@[go_sem] theorem QX (x i : X) (sz : Nat) : mJ call (some ⟨.ia x i sz, d, gd⟩) (some (L, vs, H)) (some (L', vs', H')) (some s') =
 (aQ L gd=some false∨oV (evO call (X.get vs L) H' (.ia x i sz))=oV (evO call (X.get vs L) H (.ia x i sz))):=by simp[mJ,jw]
@[go_sem] theorem QY (x : X) (lo hi : Option X) (sz : Nat) : mJ call (some ⟨.sc x lo hi sz, d, gd⟩) (some (L, vs, H)) (some (L', vs', H')) (some s') =
 (aQ L gd=some false∨oV (evO call (X.get vs L) H' (.sc x lo hi sz))=oV (evO call (X.get vs L) H (.sc x lo hi sz))):=by simp[mJ,jw]
@[go_sem] theorem Nq (x : X) (z : T) (sz : Nat) : mJ call (some ⟨.mkt x z sz, d, gd⟩) (some (L, vs, H)) (some (L', vs', H')) (some s') =
 (aQ L gd=some false∨oV (evO call (X.get vs L) H' (.mkt x z sz))=oV (evO call (X.get vs L) H (.mkt x z sz))):=by simp[mJ,jw]
@[go_sem] theorem QZ (z : List D) (l : List (Nat × Nat)) (L2 vs2 : List D) (H2 : ab) : mJ call (some ⟨.al z l, d, gd⟩) (some (L, vs, H)) (some (L', vs', H')) (some (L2, vs2, H2)) = (H'[H.length]? = H2[H.length]?) := (rfl)
@[go_sem] theorem Q0 (xs : List X) (sz : Nat) : mJ call (some ⟨.bs xs sz, d, gd⟩) (some (L, vs, H)) (some (L', vs', H')) (some s') =
 (aQ L gd=some false∨((aE (X.get vs L) xs).bind gC).isSome=true):=(rfl)
@[go_sem] theorem Dl (L : List D) : aQ L none = some true := (rfl)
def FR(w:Bool):Option D→Option Bool
 | some (.t (.bool b))=>some (b==w)
 | some (.tup [])=>some false
 | _=>none
@[go_sem] theorem JT (w b : Bool) : FR w (some (.t (.bool b))) = some (b == w) := (rfl)
@[go_sem] theorem Nr (w : Bool) : FR w (some (.tup [])) = some false := (rfl)
@[go_sem] theorem Dm (L : List D) (k : Nat) (w : Bool) : aQ L (some (k, w)) = FR w L[k]? := by
 simp only[aQ]
 cases L[k]? with
 | none=>rfl
 | some c=>cases c with
   | t x=>cases x<;>rfl
   | tup ds=>cases ds<;>rfl
   | _=>rfl
@[go_sem] theorem Ns (x : D) : oV (some (x, H)) = some x := (rfl)
attribute [go_sem] beq_true beq_false or_true true_or or_self
end
theorem ux(call:ak)(rs:List R)(vs:List D)(H:ab):xh call rs [] vs H=evR call rs [] vs H:=by
 simp[xh,gW]
def Tv(L vs:List D)(H:ab):Option (Ex×St):=some (.normal,⟨vs,H⟩)
noncomputable def Tw(call:ak)(k:Nat)(a b:C)(L vs:List D)(H:ab):Option (Ex×St):=b8 L[k]? (exS call a ⟨vs,H⟩) (exS call b ⟨vs,H⟩)
@[go_sem] theorem Tx (L vs : List D) (H : ab) : Tv L vs H = some (.normal, ⟨vs, H⟩) := (rfl)
@[go_sem] theorem Ty (call : ak) (k : Nat) (a b : C) (L vs : List D) (H : ab) : Tw call k a b L vs H = b8 L[k]? (exS call a ⟨vs, H⟩) (exS call b ⟨vs, H⟩) := (rfl)
def andThen(x:Option (Ex×St))(k:St→Option (Ex×St)):Option (Ex×St):=x.bind fun p=>cn p k
@[go_sem] theorem Az (st : St) (k : St → Option (Ex × St)) : andThen (some (.normal, st)) k = k st := (rfl)
@[go_sem] theorem FT (st : St) (k : St → Option (Ex × St)) : andThen (some (.ret, st)) k = some (.ret, st) := (rfl)
@[go_sem] theorem Dn (i : Nat) (st : St) (k : St → Option (Ex × St)) : andThen (some (.exit i, st)) k = some (.exit i, st) := (rfl)
@[go_sem] theorem Dp (k : St → Option (Ex × St)) : andThen none k = none := (rfl)
@[go_sem] theorem andThen_ite (c : Prop) [Decidable c] (a b : Option (Ex × St)) (k : St → Option (Ex × St)) : andThen (if c then a else b) k = if c then andThen a k else andThen b k := by
 split<;>rfl
@[go_sem] theorem Q1 (call : ak) (st : St) : exS call .skip st = some (.normal, st) := (rfl)
@[go_sem] theorem Tz (call : ak) (rs : List R) (vs : List D) (H : ab) : exS call (.reg rs []) ⟨vs, H⟩ = xi call rs [] vs H Tv := by
 simp only[exS,ux,xi]
 cases evR call rs [] vs H<;>rfl
@[go_sem] theorem Q2 (call : ak) (rs : List R) (p : Nat × Nat) (ps : List (Nat × Nat)) (vs : List D) (H : ab) :
 exS call (.reg rs (p::ps)) ⟨vs,H⟩=q6 call rs rs.length (p::ps) rs [] vs H [] Tv:=by
 simp only[exS,xh,q6,List.append_nil]
 by_cases h:gW call rs rs.length (trace call rs [] vs H).reverse (p::ps)
 · rw[if_pos h]
   simp only[mm,if_pos h]
   cases evR call rs [] vs H<;>rfl
 · rw[if_neg h]
   simp only[mm,if_neg h]
   cases evR call rs [] vs H<;>rfl
@[go_sem] theorem TA (call : ak) (a b : C) (st : St) : exS call (.seq a b) st = andThen (exS call a st) (exS call b) := (rfl)
@[go_sem] theorem TC (call : ak) (rs : List R) (k : Nat) (a b : C) (vs : List D) (H : ab) : exS call (.ite rs [] k a b) ⟨vs, H⟩ = xi call rs [] vs H (Tw call k a b) := by
 simp only[exS,ux,xi]
 cases evR call rs [] vs H<;>rfl
@[go_sem] theorem Q3 (call : ak) (rs : List R) (p : Nat × Nat) (ps : List (Nat × Nat)) (k : Nat) (a b : C) (vs : List D) (H : ab) :
 exS call (.ite rs (p::ps) k a b) ⟨vs,H⟩=q6 call rs rs.length (p::ps) rs [] vs H [] (Tw call k a b):=by
 simp only[exS,xh,q6,List.append_nil]
 by_cases h:gW call rs rs.length (trace call rs [] vs H).reverse (p::ps)
 · rw[if_pos h]
   simp only[mm,if_pos h]
   cases evR call rs [] vs H<;>rfl
 · rw[if_neg h]
   simp only[mm,if_neg h]
   cases evR call rs [] vs H<;>rfl
@[go_sem] theorem TD (call : ak) (rs : List R) (ps : List (Nat × Nat)) (k : Nat) (a b c : C) (st : St) : exS call (.its rs ps k a b c) st = andThen (exS call (.ite rs ps k a b) st) (exS call c) := (rfl)
@[go_sem] theorem TE (call : ak) (rs : List R) (ps : List (Nat × Nat)) (k : Nat) (a b c : C) (st : St) : exS call (.itk rs ps k a b c) st = exS call (.ite rs ps k (.seq a c) (.seq b c)) st := (rfl)
@[go_sem] theorem TF (call : ak) (j : Nat) (a b : C) (vs : List D) (H : ab) : exS call (.itv j a b) ⟨vs, H⟩ = b8 vs[j]? (exS call a ⟨vs, H⟩) (exS call b ⟨vs, H⟩) := (rfl)
@[go_sem] theorem Q4 (call : ak) (id : Nat) (st : St) : exS call (.exit id) st = some (.exit id, st) := (rfl)
@[go_sem] theorem TG (call : ak) (st : St) : exS call .ret st = some (.ret, st) := (rfl)
@[go_sem] theorem Q5 (call : ak) (st : St) : exS call .fail st = none := (rfl)
@[go_sem] theorem TH (call : ak) (x p f : Nat) (r1 : List R) (p1 : List (Nat × Nat)) (r2 : List R) (p2 : List (Nat × Nat)) (vs : List D) (H : ab) : exS call (.rng x p f r1 p1 r2 p2) ⟨vs, H⟩ = (xd (stepG (xh call) vs p r1 p1 r2 p2) (Ay f vs[x]?) H).map fun H => (.normal, ⟨vs, H⟩) := (rfl)
@[go_sem] theorem TI (call : ak) (v : Bool) (c : C) (st : St) : exS call (.cnd v c) st = exS call c st := (rfl)
def lB(id:Nat)(x:Option (Ex×St)):Option (Ex×St):=x.map (leave id)
@[go_sem] theorem TJ (call : ak) (id : Nat) (c : C) (st : St) : exS call (.blk id c) st = lB id (exS call c st) := (rfl)
@[go_sem] theorem Dq (id : Nat) (st : St) : lB id (some (.normal, st)) = some (.normal, st) := by simp [lB, leave]
@[go_sem] theorem Nt (id : Nat) (st : St) : lB id (some (.ret, st)) = some (.ret, st) := by simp [lB, leave]
@[go_sem] theorem JU (id i : Nat) (st : St) : lB id (some (.exit i, st)) = if i = id then some (.normal, st) else some (.exit i, st) := by
 simp only[lB,leave,aLw,Ex.exit.injEq]
 split<;>rfl
@[go_sem] theorem JV (id : Nat) : lB id none = none := (rfl)
@[go_sem] theorem Nu (id : Nat) (c : Prop) [Decidable c] (a b : Option (Ex × St)) : lB id (if c then a else b) = if c then lB id a else lB id b := by
 split<;>rfl
@[congr] theorem FU {c c' : Option D} {a b : Option (Ex × St)} (h : True → c = c') : b8 c a b = b8 c' a b := by rw [h trivial]
@[go_sem] theorem Nv (p : Prop) [Decidable p] (a b : Option (Ex × St)) : b8 (some (.t (.bool (decide p)))) a b = if p then a else b := by
 by_cases h:p<;>simp[b8,h]
@[go_sem] theorem JW (p : Prop) [Decidable p] (a b : Option (Ex × St)) : b8 (some (.t (.bool (!decide p)))) a b = if p then b else a := by
 by_cases h:p<;>simp[b8,h]
@[go_sem] theorem Q6 (a : Option (Ex × St)) : b8 (some .ub) a a = a := by simp [b8]
@[go_sem] theorem JX (x : Bool) (a b : Option (Ex × St)) : b8 (some (.t (.bool x))) a b = if x = true then a else b := (rfl)
def gX(gc:Bool)(dead:List Nat)(k:Nat)(x:Option (Ex×St)):Option St:=x.bind fun p=>match p.1 with
 | .normal=>tidy gc dead k p.2
 | _=>none
@[go_sem] theorem BJ (gc : Bool) (dead : List Nat) (k : Nat) (st : St) : gX gc dead k (some (.normal, st)) = tidy gc dead k st := (rfl)
@[go_sem] theorem JY (gc : Bool) (dead : List Nat) (k : Nat) (c : Prop) [Decidable c] (a b : Option (Ex × St)) : gX gc dead k (if c then a else b) = if c then gX gc dead k a else gX gc dead k b := by
 split<;>rfl
theorem oW{gc:Bool}{dead:List Nat}{body:St→Option (Ex×St)}{st st2:St}(h:gX gc dead st.H.length (body st)=some st2)
 {p:Ex×St} (h2:ji gc dead body st2=some p):ji gc dead body st=some p:=by
 unfold gX at h
 obtain⟨⟨e,st1⟩,hq,h⟩:=aLa.1 h
 cases e with
 | normal=>exact oT hq h h2
 | ret=>cases h
 | exit=>cases h
theorem pQ{gc:Bool}{dead:List Nat}{body:St→Option (Ex×St)}(s:Nat→St){p:Ex×St}(n:Nat)
 (h:∀j,j<n→gX gc dead (s j).H.length (body (s j))=some (s (j+1))) (he:ji gc dead body (s n)=some p):ji gc dead body (s 0)=some p:=by
 have:=ml (s:=s) n 0 (fun j _ hj=>by
  have h:=h j (by omega)
  unfold gX at h
  obtain⟨⟨e,st1⟩,hq,h⟩:=aLa.1 h
  cases e with
  | normal=>exact⟨st1,hq,h⟩
  | ret=>cases h
  | exit=>cases h) (by simpa using he)
 exact this
def Q7(res:List (Nat×Option (Nat×Bool)))(k raw:Nat)(p:Ex×St):Option (D×ab):=match p.1 with
 | .exit _=>none
 | _=>(di p.2 res).bind (finish k raw p.2.H)
@[go_sem] theorem Q8 (res : List (Nat × Option (Nat × Bool))) (k raw : Nat) (vs : List D) (H : ab) : Q7 res k raw (.ret, ⟨vs, H⟩) = (di ⟨vs, H⟩ res).bind (finish k raw H) := (rfl)
@[go_sem] theorem FV (res : List (Nat × Option (Nat × Bool))) (k raw : Nat) (vs : List D) (H : ab) : Q7 res k raw (.normal, ⟨vs, H⟩) = (di ⟨vs, H⟩ res).bind (finish k raw H) := (rfl)
theorem FW{fs:Nat→Option Fn}{raw f:Nat}{args:List D}{H:ab}{fn:Fn}{r:D×ab}(hf:fs f=some fn)(hn:fn.dC=args.length)
 (h:(exS (fh fs) fn.body ⟨jq args fn.vars,H⟩).bind (Q7 fn.res H.length raw)=some r) (h0:fn.prim=[]:=by rfl):fh fs raw f args H=some r:=by
 obtain⟨p,hp,he⟩:=aLa.1 h
 exact BE hf hn (BI _ _ _ hp) he h0
@[go_sem] theorem Q9 {α β : Type} (c : Prop) [Decidable c] (a b : Option α) (k : α → Option β) : (if c then a else b).bind k = if c then a.bind k else b.bind k := by
 split<;>rfl
@[go_sem] theorem TK {α β : Type} (c : Prop) [Decidable c] (a b : Option α) (k : α → β) : (if c then a else b).map k = if c then a.map k else b.map k := by
 split<;>rfl
theorem Nw(a b:Int):(a==b)=decide (a=b):=by rw[Bool.eq_iff_iff];simp
theorem c9{n:Int}(h1: -9223372036854775808≤n)(h2:n≤9223372036854775807):IntKind.i64.wrap n=n:=by
 have e:IntKind.i64.wrap n=if n % 18446744073709551616≥9223372036854775808 then n % 18446744073709551616-18446744073709551616 else n % 18446744073709551616:=by
  simp[IntKind.wrap,IntKind.signed,IntKind.bits]
 rw[e];split<;>omega
section
variable {α β : Type}
@[go_sem] theorem FX (a : α) (f : α → Option β) : (some a).bind f = f a := (rfl)
@[go_sem] theorem JZ (a : α) (f : α → β) : (some a).map f = some (f a) := (rfl)
@[go_sem] theorem FY (f : α → Option β) : (none : Option α).bind f = none := (rfl)
@[go_sem] theorem J0 (f : α → β) : (none : Option α).map f = none := (rfl)
@[go_sem] theorem J1 (a : α) (l : List α) (f : α → β) : (a :: l).map f = f a :: l.map f := (rfl)
@[go_sem] theorem Nx (f : α → β) : ([] : List α).map f = [] := (rfl)
@[go_sem] theorem J3 (a : α) (l : List α) : (a :: l)[0]? = some a := (rfl)
@[go_sem] theorem J4 (a : α) (l : List α) (n : Nat) : (a :: l)[n + 1]? = l[n]? := (rfl)
@[go_sem] theorem FZ (a d : α) (l : List α) : (a :: l).getD 0 d = a := (rfl)
@[go_sem] theorem F3 (a d : α) (l : List α) (n : Nat) : (a :: l).getD (n + 1) d = l.getD n d := (rfl)
@[go_sem] theorem J5 (d : α) (n : Nat) : ([] : List α).getD n d = d := by simp
@[go_sem] theorem J6 (a b : α) (l : List α) : (a :: l).set 0 b = b :: l := (rfl)
@[go_sem] theorem J7 (a b : α) (l : List α) (n : Nat) : (a :: l).set (n + 1) b = a :: l.set n b := (rfl)
@[go_sem] theorem BK (a : α) (l m : List α) : (a :: l) ++ m = a :: (l ++ m) := (rfl)
@[go_sem] theorem Dr (l : List α) : [] ++ l = l := (rfl)
@[go_sem] theorem Dt (l : List α) : l ++ [] = l := by simp
@[go_sem] theorem AA (a : α) (l : List α) (f : α → List β) : (a :: l).flatMap f = f a ++ l.flatMap f := by simp
@[go_sem] theorem BL (f : α → List β) : ([] : List α).flatMap f = [] := by simp
@[go_sem] theorem Du : ([] : List α).length = 0 := (rfl)
@[go_sem] theorem BM (a : α) (l : List α) : (a :: l).length = l.length + 1 := (rfl)
@[go_sem] theorem Dv (l : List α) (f : α → β) : (l.map f).length = l.length := by simp
@[go_sem] theorem yy (l m : List α) : (l ++ m).length = l.length + m.length := by simp
@[go_sem] theorem uy (n : Nat) (a : α) : (List.replicate n a).length = n := by simp
@[go_sem] theorem Dw (l : List α) (i : Nat) (a : α) : (l.set i a).length = l.length := by simp
@[go_sem] theorem F4 (l : List α) : l.drop 0 = l := (rfl)
@[go_sem] theorem F5 (a : α) (l : List α) (n : Nat) : (a :: l).drop (n + 1) = l.drop n := (rfl)
@[go_sem] theorem J8 (n : Nat) : ([] : List α).drop n = [] := by simp
@[go_sem] theorem F6 (l : List α) : l.take 0 = [] := (rfl)
@[go_sem] theorem F7 (a : α) (l : List α) (n : Nat) : (a :: l).take (n + 1) = a :: l.take n := (rfl)
@[go_sem] theorem J9 (n : Nat) : ([] : List α).take n = [] := by simp
@[go_sem] theorem F8 (a b : α) : (bif true then a else b) = a := (rfl)
@[go_sem] theorem Dx (a b : α) : (bif false then a else b) = b := (rfl)
@[go_sem] theorem Ka (n : Nat) : n + 0 = n := (rfl)
@[go_sem] theorem Kb (n : Nat) : 0 + n = n := by simp
@[go_sem] theorem Kc (a b : α) : (some a = some b) = (a = b) := by simp
@[go_sem] theorem Ra (a : α) : (some a).isSome = true := (rfl)
end
attribute [go_sem] decide_true decide_false if_true if_false aLt Bool.true_eq_false decide_eq_true_eq decide_eq_false_iff_not aLr Bool.or_eq_true Bool.not_eq_true' Bool.not_eq_true Bool.not_eq_false
 Bool.and_true Bool.true_and Bool.and_false Bool.false_and Bool.or_true Bool.true_or Bool.or_false Bool.false_or and_true true_and and_self not_true_eq_false not_false_eq_true beq_iff_eq bne_iff_ne ne_eq
@[go_sem] theorem Kd : (!true) = false := (rfl)
@[go_sem] theorem F9 : (!false) = true := (rfl)
@[go_sem] theorem X2 (vs L : List D) (j : Nat) : X.get vs L (.v j) = vs[j]? := (rfl)
@[go_sem] theorem X3 (vs L : List D) (k : Nat) : X.get vs L (.l k) = L[k]? := (rfl)
@[go_sem] theorem X4 (vs L : List D) (d : D) : X.get vs L (.c d) = some d := (rfl)
@[go_sem] theorem X5 (vs L : List D) (n : Int) : X.get vs L (.i n) = some (I n) := (rfl)
@[go_sem] theorem X6 (vs L : List D) (x : Bool) : X.get vs L (.b x) = some (B x) := (rfl)
@[go_sem] theorem TL (vs : List D) (x : D) : wr vs none x = vs := (rfl)
@[go_sem] theorem TM (vs : List D) (s : Nat) (x : D) : wr vs (some s) x = vs.set s x := (rfl)
@[go_sem] theorem Ke (args : List D) : jq args [] = [] := (rfl)
@[go_sem] theorem Ga (args : List D) (s : Nat) (r : List Nat) : jq args (s :: r) = args.getD s .und :: jq args r := (rfl)
def TN(H:ab)(d:D):Option (D×ab):=some (d,H)
@[go_sem] theorem TO (H : ab) (d : D) : TN H d = some (d, H) := (rfl)
def ea{α:Type}(a:α)(l:Option (List α)):Option (List α):=l.map (a:: ·)
@[go_sem] theorem Kf {α : Type} (a : α) (l : List α) : ea a (some l) = some (a :: l) := (rfl)
@[go_sem] theorem Kg {α : Type} (a : α) : ea a none = none := (rfl)
@[go_sem] theorem Rb {α β : Type} (f : α → Option β) : aE f [] = some [] := (rfl)
def Wy{α β:Type}(f:α→Option β)(r:List α)(y:β):Option (List β):=ea y (aE f r)
@[go_sem] theorem Gb {α β : Type} (f : α → Option β) (r : List α) (y : β) : Wy f r y = ea y (aE f r) := (rfl)
@[go_sem] theorem yz {α β : Type} (f : α → Option β) (x : α) (r : List α) : aE f (x :: r) = (f x).bind (Wy f r) := (rfl)
section
variable (call : ak) (get : X → Option D) (H : ab)
@[go_sem] theorem X7 (x : X) : evO call get H (.mv x) = (get x).bind (TN H) := by simp only [evO]; cases get x <;> rfl
def Rc(c a b:Option D):Option (D×ab):=c.bind fun c=>a.bind fun a=>b.bind fun b=>(Bl c a b).map fun d=>(d,H)
@[go_sem] theorem X8 (c a b : X) : evO call get H (.pk c a b) = Rc H (get c) (get a) (get b) := (rfl)
@[go_sem] theorem Ny (x p q : Bool) : Rc H (some (.t (.bool x))) (some (.t (.bool p))) (some (.t (.bool q))) = some (.t (.bool (bif x then p else q)), H) := by cases x <;> rfl
@[go_sem] theorem Nz (a b : D) : Rc H (some (.t (.bool true))) (some a) (some b) = some (a, H) := (rfl)
@[go_sem] theorem Kh (a b : D) : Rc H (some (.t (.bool false))) (some a) (some b) = some (b, H) := (rfl)
@[go_sem] theorem Re (x p : Bool) : (bif x then p else false) = (x && p) := by cases x <;> rfl
@[go_sem] theorem TP (x q : Bool) : (bif x then true else q) = (x || q) := by cases x <;> rfl
def de(f:BinOp)(x y:Option D):Option (D×ab):=x.bind fun a=>y.bind fun b=>(oF f a b).map fun d=>(d,H)
@[go_sem] theorem Wz (f : BinOp) (x y : X) : evO call get H (.bin f x y) = de H f (get x) (get y) := (rfl)
section
variable (k j : IntKind) (a b : Int)
@[go_sem] theorem NA : de H .add (some (.t (.int k a))) (some (.t (.int k b))) = some (.t (.int k (k.wrap (a + b))), H) := by simp [de, oF, rO]
@[go_sem] theorem NB : de H .sub (some (.t (.int k a))) (some (.t (.int k b))) = some (.t (.int k (k.wrap (a - b))), H) := by simp [de, oF, rO]
@[go_sem] theorem NC : de H .mul (some (.t (.int k a))) (some (.t (.int k b))) = some (.t (.int k (k.wrap (a * b))), H) := by simp [de, oF, rO]
@[go_sem] theorem ND : de H .quo (some (.t (.int k a))) (some (.t (.int k b))) = if b = 0 then none else some (.t (.int k (k.wrap (a.tdiv b))), H) := by simp only [de, oF, rO]; by_cases h : b = 0 <;> simp [h]
@[go_sem] theorem NF : de H .rem (some (.t (.int k a))) (some (.t (.int k b))) = if b = 0 then none else some (.t (.int k (a.tmod b)), H) := by simp only [de, oF, rO]; by_cases h : b = 0 <;> simp [h]
@[go_sem] theorem NG : de H .eql (some (.t (.int k a))) (some (.t (.int k b))) = some (.t (.bool (decide (a = b))), H) := by simp [de, oF, rO, Nw]
@[go_sem] theorem NH : de H .neq (some (.t (.int k a))) (some (.t (.int k b))) = some (.t (.bool (decide (¬ a = b))), H) := by simp [de, oF, rO, bne, Nw]
@[go_sem] theorem NI : de H .lss (some (.t (.int k a))) (some (.t (.int k b))) = some (.t (.bool (decide (a < b))), H) := by simp [de, oF, rO]
@[go_sem] theorem NJ : de H .leq (some (.t (.int k a))) (some (.t (.int k b))) = some (.t (.bool (decide (a ≤ b))), H) := by simp [de, oF, rO]
@[go_sem] theorem NK : de H .gtr (some (.t (.int k a))) (some (.t (.int k b))) = some (.t (.bool (decide (b < a))), H) := by simp [de, oF, rO]
@[go_sem] theorem NL : de H .geq (some (.t (.int k a))) (some (.t (.int k b))) = some (.t (.bool (decide (b ≤ a))), H) := by simp [de, oF, rO]
@[go_sem] theorem NM (h : 0 ≤ b) : de H .shl (some (.t (.int k a))) (some (.t (.int j b))) = some (.t (.int k (k.wrap (a * 2 ^ min b.toNat k.bits))), H) := by simp [de, oF, oE, Int.not_lt.2 h]
@[go_sem] theorem NN (h : 0 ≤ b) : de H .shr (some (.t (.int k a))) (some (.t (.int j b))) = some (.t (.int k (a.fdiv (2 ^ min b.toNat k.bits))), H) := by simp [de, oF, oE, Int.not_lt.2 h]
@[go_sem] theorem NQ : de H .and (some (.t (.int k a))) (some (.t (.int k b))) = some (.t (.int k (k.wrap (BitVec.ofInt k.bits a &&& BitVec.ofInt k.bits b).toNat)), H) := by simp [de, oF, rO]
@[go_sem] theorem Rf : de H .or (some (.t (.int k a))) (some (.t (.int k b))) = some (.t (.int k (k.wrap (BitVec.ofInt k.bits a ||| BitVec.ofInt k.bits b).toNat)), H) := by simp [de, oF, rO]
@[go_sem] theorem NR : de H .xor (some (.t (.int k a))) (some (.t (.int k b))) = some (.t (.int k (k.wrap (BitVec.ofInt k.bits a ^^^ BitVec.ofInt k.bits b).toNat)), H) := by simp [de, oF, rO]
def TQ(f:UnOp)(a:D):Option (D×ab):=(unD f a).map fun d=>(d,H)
@[go_sem] theorem X9 (f : UnOp) (x : X) : evO call get H (.un f x) = (get x).bind (TQ H f) := (rfl)
@[go_sem] theorem Rg (x : Bool) : TQ H .not (.t (.bool x)) = some (.t (.bool (!x)), H) := (rfl)
@[go_sem] theorem Rh : TQ H .neg (.t (.int k a)) = some (.t (.int k (k.wrap (0 - a))), H) := (rfl)
def WA(k:IntKind)(a:D):Option (D×ab):=(E9 k a).map fun d=>(d,H)
@[go_sem] theorem Ya (x : X) : evO call get H (.cv k x) = (get x).bind (WA H k) := (rfl)
@[go_sem] theorem Ri : WA H k (.t (.int j a)) = some (.t (.int k (k.wrap a)), H) := (rfl)
end
def ib(q:EqK)(neg:Bool)(x y:Option D):Option (D×ab):=x.bind fun a=>y.bind fun b=>(Dg q neg a b).map fun d=>(d,H)
@[go_sem] theorem WC (q : EqK) (neg : Bool) (x y : X) : evO call get H (.eqk q neg x y) = ib H q neg (get x) (get y) := (rfl)
@[go_sem] theorem Ki (x y : Bool) : ib H .bool false (some (.t (.bool x))) (some (.t (.bool y))) = some (.t (.bool (x == y)), H) := (rfl)
@[go_sem] theorem Gc (x y : Bool) : ib H .bool true (some (.t (.bool x))) (some (.t (.bool y))) = some (.t (.bool (!(x == y))), H) := (rfl)
def Dy:List T→List T→Bool
 | .int _ a::xs,.int _ b::ys=>decide (a=b)&&Dy xs ys
 | _,_=>true
def vZ:Nat→List T→List T→Bool
 | 0,[],[]=>true
 | n+1,.int j _::xs,.int k _::ys=>decide (j=k)&&vZ n xs ys
 | _,_,_=>false
@[go_sem] theorem NS (k j : IntKind) (a b : Int) (xs ys : List T) : Dy (.int k a :: xs) (.int j b :: ys) = (decide (a = b) && Dy xs ys) := (rfl)
@[go_sem] theorem Rj : Dy [] [] = true := (rfl)
@[go_sem] theorem Rk : vZ 0 [] [] = true := (rfl)
@[go_sem] theorem NT (n : Nat) (k : IntKind) (a b : Int) (xs ys : List T) : vZ (n + 1) (.int k a :: xs) (.int k b :: ys) = vZ n xs ys := by simp [vZ]
theorem nT:∀ {n:Nat} {xs ys:List T},vZ n xs ys=true→xs.length=n∧eP xs ys=some (Dy xs ys)
 | 0,[],[],_=>⟨rfl,rfl⟩
 | 0,[],_::_,h=>by simp[vZ]at h
 | 0,_::_,_,h=>by simp[vZ]at h
 | n+1,[],_,h=>by simp[vZ]at h
 | n+1,x::xs,[],h=>by cases x<;>simp[vZ]at h
 | n+1,x::xs,y::ys,h=>by
   cases x<;>cases y<;>simp only[vZ,aLr,decide_eq_true_eq,aLt]at h
   obtain⟨rfl,h⟩:=h
   obtain⟨h1,h2⟩:=nT h
   exact⟨by simp[h1],by simp[eP,h2,Dy,Nw]⟩
@[go_sem] theorem Kj (n : Nat) (xs ys : List T) (h : vZ n xs ys = true) : ib H (.ints n) false (some (.t (.agg xs))) (some (.t (.agg ys))) = some (.t (.bool (Dy xs ys)), H) := by
 obtain⟨h1,h2⟩:=nT h;simp[ib,Dg,eqD,h1,h2]
@[go_sem] theorem Gd (n : Nat) (xs ys : List T) (h : vZ n xs ys = true) : ib H (.ints n) true (some (.t (.agg xs))) (some (.t (.agg ys))) = some (.t (.bool (!Dy xs ys)), H) := by
 obtain⟨h1,h2⟩:=nT h;simp[ib,Dg,eqD,h1,h2]
@[go_sem] theorem NU (id ep n : Nat) (h : 0 < n) : ib H .sl false (some (.ref id ep n)) (some .nil) = some (.t (.bool false), H) := by
 cases n with
 | zero=>omega
 | succ n=>rfl
@[go_sem] theorem NV : ib H .sl false (some .nil) (some .nil) = some (.t (.bool true), H) := (rfl)
@[go_sem] theorem NW : ib H .sl false (some (.t (.sl []))) (some .nil) = some (.ub, H) := (rfl)
@[go_sem] theorem Kk : ib H .sl true (some (.t (.sl []))) (some .nil) = some (.ub, H) := (rfl)
@[go_sem] theorem Kl : ib H .sl true (some .nil) (some .nil) = some (.t (.bool false), H) := (rfl)
theorem BN(es:List T)(h:es≠[]):ib H .sl false (some (.t (.sl es))) (some .nil)=some (.t (.bool false),H):=by cases es<;>first | exact(h rfl).elim | rfl
def Rl(a:D):Option (D×ab):=(QM a).map fun d=>(d,H)
@[go_sem] theorem Yb (x : X) : evO call get H (.nc x) = (get x).bind (Rl H) := (rfl)
@[go_sem] theorem TR (id off : Nat) : Rl H (.bp id off) = some (.bp id off, H) := (rfl)
@[go_sem] theorem TS (id ep n i off : Nat) : Rl H (.ap id ep n i off) = some (.ap id ep n i off, H) := (rfl)
@[go_sem] theorem TT (cs : List T) : Rl H (.ep cs) = some (.ep cs, H) := (rfl)
def Km(off:Nat)(a:D):Option (D×ab):=(vI a off).map fun d=>(d,H)
@[go_sem] theorem Yc (x : X) (off : Nat) : evO call get H (.fa x off) = (get x).bind (Km H off) := (rfl)
@[go_sem] theorem TU (id o off : Nat) : Km H off (.bp id o) = some (.bp id (o + off), H) := (rfl)
@[go_sem] theorem TV (id ep n i o off : Nat) : Km H off (.ap id ep n i o) = some (.ap id ep n i (o + off), H) := (rfl)
@[go_sem] theorem TW (cs : List T) (off : Nat) : Km H off (.ep cs) = some (.ep (cs.drop off), H) := (rfl)
@[go_sem] theorem Yd (cs : List D) : cut cs 0 0 = some [] := by simp [cut]
@[go_sem] theorem Ye (c : D) (cs : List D) : cut (c :: cs) 0 1 = some [c] := by simp [cut]
@[go_sem] theorem Yf (c : D) (cs : List D) (n : Nat) : cut (c :: cs) 0 (n + 1) = ea c (cut cs 0 n) := by
 simp only[cut,ea];by_cases h:n≤cs.length<;>simp[h]
@[go_sem] theorem Yg (c : D) (cs : List D) (off n : Nat) : cut (c :: cs) (off + 1) n = cut cs off n := by
 simp only[cut,List.length_cons,List.drop_succ_cons]
 by_cases h:off+n≤cs.length
 · rw[if_pos h,if_pos (by omega)]
 · rw[if_neg h,if_neg (by omega)]
@[go_sem] theorem NX (c : D) : bE false [c] = some c := (rfl)
@[go_sem] theorem NY (cs : List D) : bE true cs = some (jf cs) := (rfl)
def mkA(cs:List D):Option (List T)→D
 | some ts=> .t (.agg ts)
 | none=> .agg cs
@[go_sem] theorem Rm (cs : List D) (ts : List T) : mkA cs (some ts) = .t (.agg ts) := (rfl)
@[go_sem] theorem Rn (cs : List D) : mkA cs none = .agg cs := (rfl)
@[go_sem] theorem Ro (cs : List D) : jf cs = mkA cs (gC cs) := by unfold jf; cases gC cs <;> rfl
@[go_sem] theorem Rq : gC [] = some [] := (rfl)
@[go_sem] theorem WD (x : T) (r : List D) : gC (.t x :: r) = ea x (gC r) := (rfl)
@[go_sem] theorem WE (r : List D) : gC (.nil :: r) = none := (rfl)
@[go_sem] theorem Rr (a b c : Nat) (r : List D) : gC (.ref a b c :: r) = none := (rfl)
@[go_sem] theorem Rs (a b c d e : Nat) (r : List D) : gC (.sub a b c d e :: r) = none := (rfl)
@[go_sem] theorem BO (l : List T) : gC (l.map .t) = some l := by induction l with | nil => rfl | cons a l ih => simp [gC, ih]
def NZ(off n:Nat)(agg:Bool)(a:D):Option (D×ab):=(j0 a off n agg).map fun d=>(d,H)
@[go_sem] theorem Yh (x : X) (off n : Nat) (agg : Bool) : evO call get H (.fl x off n agg) = (get x).bind (NZ H off n agg) := (rfl)
def ofC(agg:Bool)(cs:Option (List D)):Option (D×ab):=(cs.bind (bE agg)).bind (TN H)
@[go_sem] theorem Yi (c : D) : ofC H false (some [c]) = some (c, H) := (rfl)
@[go_sem] theorem Yj (cs : List D) : ofC H true (some cs) = some (jf cs, H) := (rfl)
@[go_sem] theorem WG (cs : List T) (off n : Nat) (agg : Bool) : NZ H off n agg (.t (.agg cs)) = ofC H agg (cut (cs.map .t) off n) := by
 simp only[NZ,j0,D.isAgg,if_true,D.cells,T.cells,ofC];cases (cut (cs.map .t) off n).bind (bE agg)<;>rfl
@[go_sem] theorem Rt (cs : List D) (off n : Nat) (agg : Bool) : NZ H off n agg (.agg cs) = ofC H agg (cut cs off n) := by
 simp only[NZ,j0,D.isAgg,if_true,D.cells,ofC];cases (cut cs off n).bind (bE agg)<;>rfl
@[go_sem] theorem TX (n : Nat) : idx (n : Int) = some n := by simp [idx]
@[go_sem] theorem Yk : idx 0 = some 0 := (rfl)
theorem Ge{i:Int}(h:0≤i):idx i=some i.toNat:=by simp[idx,h]
def Gf(sz:Nat)(x i:Option D):Option (D×ab):=x.bind fun a=>(i.bind intOf).bind fun n=>(pt H a n sz).map fun d=>(d,H)
@[go_sem] theorem Yl (x i : X) (sz : Nat) : evO call get H (.ia x i sz) = Gf H sz (get x) (get i) := (rfl)
def BP(sz:Nat)(e:T):Option (D×ab):=if e.cells.length=sz then some (.ep e.cells,H)else none
def TY(sz:Nat)(es:List T)(j:Nat):Option (D×ab):=es[j]?.bind (BP H sz)
@[go_sem] theorem TZ (sz : Nat) (es : List T) (j : Nat) : TY H sz es j = es[j]?.bind (BP H sz) := (rfl)
@[go_sem] theorem T0 (k : IntKind) (es : List T) (n : Int) (sz : Nat) : Gf H sz (some (.t (.sl es))) (some (.t (.int k n))) = (idx n).bind (TY H sz es) := by
 simp only[Gf,aLq,intOf,pt]
 cases idx n with
 | none=>rfl
 | some j=>
   simp only[aLq,TY]
   cases es[j]? with
   | none=>rfl
   | some e=>simp only[aLq,BP];split<;>rfl
@[go_sem] theorem Ru (k : IntKind) (n : Int) : BP H 1 (.int k n) = some (.ep [.int k n], H) := (rfl)
@[go_sem] theorem N0 (b : Bool) : BP H 1 (.bool b) = some (.ep [.bool b], H) := (rfl)
@[go_sem] theorem T4 (es : List T) : BP H 1 (.sl es) = some (.ep [.sl es], H) := (rfl)
def fM{α:Type}:Nat→List α→Bool
 | 0,[]=>true
 | n+1,_::r=>fM n r
 | _,_=>false
@[go_sem] theorem T5 {α : Type} : fM 0 ([] : List α) = true := (rfl)
@[go_sem] theorem T6 {α : Type} (n : Nat) (a : α) (l : List α) : fM (n + 1) (a :: l) = fM n l := (rfl)
theorem b7{α:Type}:∀ {n:Nat} {l:List α},fM n l=true↔l.length=n
 | 0,[]=>by simp[fM]
 | 0,_::_=>by simp[fM]
 | n+1,[]=>by simp[fM]
 | n+1,_::r=>by simp only[fM,List.length_cons,Nat.add_right_cancel_iff];exact b7
@[go_sem] theorem Rv (cs : List T) (sz : Nat) : BP H sz (.agg cs) = if fM sz cs = true then some (.ep cs, H) else none := by
 by_cases h:cs.length=sz
 · rw[BP,if_pos (show(T.agg cs).cells.length=sz from h),if_pos (b7.2 h)];rfl
 · rw[BP,if_neg (show ¬(T.agg cs).cells.length=sz from h),if_neg fun e=>h (b7.1 e)]
def Gg(sz id ep n j:Nat):Option Obj→Option (D×ab)
 | some (.arr sz' _ ep' es)=>if ep=ep'∧n=es.length then(if j<n∧sz'=sz then some (.ap id ep n j 0,H)else none)else none
 | _=>none
@[go_sem] theorem Rw (k : IntKind) (id ep n : Nat) (i : Int) (sz : Nat) : Gf H sz (some (.ref id ep n)) (some (.t (.int k i))) = (idx i).bind fun j => Gg H sz id ep n j H[id]? := by
 simp only[Gf,aLq,intOf,pt]
 cases idx i with
 | none=>rfl
 | some j=>
   simp only[aLq,b5]
   generalize H[id]?=o
   rcases o with _ | (_ | ⟨sz',pin,ep',es⟩)
   · rfl
   · rfl
   · simp only[Gg]
     by_cases h:ep=ep'∧n=es.length
     · rw[if_pos h,if_pos h,aLq];split<;>rfl
     · rw[if_neg h,if_neg h];rfl
@[go_sem] theorem N1 (sz id ep n j sz' : Nat) (pin : Bool) (ep' : Nat) (es : List D) : Gg H sz id ep n j (some (.arr sz' pin ep' es)) =
 if ep=ep'∧n=es.length then(if j<n∧sz'=sz then some (.ap id ep n j 0,H)else none)else none:=(rfl)
def Gi(sz id ep n lo hi j:Nat):Option Obj→Option (D×ab)
 | some (.arr sz' _ ep' es)=>if ep=ep'∧n=es.length then(if lo+j<hi∧hi≤n∧sz'=sz then some (.ap id ep n (lo+j) 0,H)else none)else none
 | _=>none
@[go_sem] theorem Rx (k : IntKind) (id ep n lo hi : Nat) (i : Int) (sz : Nat) : Gf H sz (some (.sub id ep n lo hi)) (some (.t (.int k i))) = (idx i).bind fun j => Gi H sz id ep n lo hi j H[id]? := by
 simp only[Gf,aLq,intOf,pt]
 cases idx i with
 | none=>rfl
 | some j=>
   simp only[aLq,b5]
   generalize H[id]?=o
   rcases o with _ | (_ | ⟨sz',pin,ep',es⟩)
   · rfl
   · rfl
   · simp only[Gi]
     by_cases h:ep=ep'∧n=es.length
     · rw[if_pos h,if_pos h,aLq];split<;>rfl
     · rw[if_neg h,if_neg h];rfl
@[go_sem] theorem N2 (sz id ep n lo hi j sz' : Nat) (pin : Bool) (ep' : Nat) (es : List D) : Gi H sz id ep n lo hi j (some (.arr sz' pin ep' es)) =
 if ep=ep'∧n=es.length then(if lo+j<hi∧hi≤n∧sz'=sz then some (.ap id ep n (lo+j) 0,H)else none)else none:=(rfl)
def T7(len sz:Nat)(agg:Bool)(x i:Option D):Option (D×ab):=x.bind fun a=>(i.bind intOf).bind fun n=>(idx n).bind fun j=>(oG a j len sz agg).map fun d=>(d,H)
def N3(len sz:Nat)(agg:Bool)(a:D)(j:Nat):Option (D×ab):=(oG a j len sz agg).map fun d=>(d,H)
@[go_sem] theorem Ym (x i : X) (len sz : Nat) (agg : Bool) : evO call get H (.ix x i len sz agg) = T7 H len sz agg (get x) (get i) := (rfl)
@[go_sem] theorem T8 (len sz : Nat) (agg : Bool) (a : D) (k : IntKind) (n : Int) : T7 H len sz agg (some a) (some (.t (.int k n))) = (idx n).bind (N3 H len sz agg a) := by
 simp only[T7,aLq,intOf];cases idx n<;>rfl
@[go_sem] theorem Ry (len j : Nat) (ts : List T) (h : j < len) (hs : (ts.all fun t => t.scalar) = true) : N3 H len 1 false (.t (.agg ts)) j = (ts[j]?).map fun t => (.t t, H) := by
 have h0:len≠0:=by omega
 unfold N3 oG
 rw[if_neg h0,if_pos h]
 unfold j0 cut
 simp only[D.isAgg,D.cells,T.cells,if_true,Nat.mul_one,List.length_map]
 by_cases hj:j<ts.length
 · rw[if_pos (by omega),aLc hj]
   have e:((ts.map D.t).drop j).take 1=[D.t ts[j]]:=by
    rw[List.drop_eq_getElem_cons (by simpa using hj)];simp
   rw[e];rfl
 · rw[if_neg (by omega),aLm (by omega)];rfl
def Gj(len sz:Nat)(x i:Option D):Option (D×ab):=x.bind fun a=>(i.bind intOf).bind fun n=>(idx n).bind fun j=>if j<len then(vI a (j*sz)).map fun d=>(d,H)else none
@[go_sem] theorem WH (x i : X) (len sz : Nat) : evO call get H (.iaa x i len sz) = Gj H len sz (get x) (get i) := (rfl)
def WI(len sz:Nat)(a:D)(j:Nat):Option (D×ab):=if j<len then Km H (j*sz) a else none
@[go_sem] theorem T9 (len sz : Nat) (a : D) (j : Nat) : WI H len sz a j = if j < len then Km H (j * sz) a else none := (rfl)
@[go_sem] theorem Rz (len sz : Nat) (a : D) (k : IntKind) (n : Int) : Gj H len sz (some a) (some (.t (.int k n))) = (idx n).bind (WI H len sz a) := by
 simp only[Gj,aLq,intOf];cases idx n<;>rfl
def AB(n:Nat)(agg:Bool)(a:D):Option (D×ab):=(kT H a n agg).map fun d=>(d,H)
@[go_sem] theorem Yn (x : X) (n : Nat) (agg : Bool) : evO call get H (.ld x n agg) = (get x).bind (AB H n agg) := (rfl)
def BQ(off n:Nat)(agg:Bool):Option Obj→Option (D×ab)
 | some (.box cs)=>ofC H agg (cut cs off n)
 | _=>none
@[go_sem] theorem RA (off n : Nat) (agg : Bool) (cs : List D) : BQ H off n agg (some (.box cs)) = ofC H agg (cut cs off n) := (rfl)
@[go_sem] theorem Ua (id off n : Nat) (agg : Bool) : AB H n agg (.bp id off) = BQ H off n agg H[id]? := by
 simp only[AB,kT]
 generalize H[id]?=o
 rcases o with _ | (cs | _)
 · rfl
 · simp only[BQ,ofC];cases (cut cs off n).bind (bE agg)<;>rfl
 · rfl
@[go_sem] theorem Ub (cs : List T) (n : Nat) (agg : Bool) : AB H n agg (.ep cs) = ofC H agg (cut (cs.map .t) 0 n) := by
 simp only[AB,kT,ofC];cases (cut _ 0 n).bind (bE agg)<;>rfl
def RB(off n:Nat)(agg:Bool)(e:D):Option (D×ab):=ofC H agg (cut e.cells off n)
@[go_sem] theorem Uc (off n : Nat) (agg : Bool) (e : D) : RB H off n agg e = ofC H agg (cut e.cells off n) := (rfl)
def Gk(ep m i off n:Nat)(agg:Bool):Option Obj→Option (D×ab)
 | some (.arr _ _ ep' es)=>if ep=ep'∧m=es.length then es[i]?.bind (RB H off n agg)else none
 | _=>none
@[go_sem] theorem RC (ep m i off n : Nat) (agg : Bool) (sz : Nat) (pin : Bool) (ep' : Nat) (es : List D) :
 Gk H ep m i off n agg (some (.arr sz pin ep' es))=if ep=ep'∧m=es.length then es[i]?.bind (RB H off n agg)else none:=(rfl)
@[go_sem] theorem Ud (id ep m i off n : Nat) (agg : Bool) : AB H n agg (.ap id ep m i off) = Gk H ep m i off n agg H[id]? := by
 simp only[AB,kT,b5]
 generalize H[id]?=o
 rcases o with _ | (_ | ⟨sz',pin,ep',es⟩)
 · rfl
 · rfl
 · simp only[Gk]
   by_cases h:ep=ep'∧m=es.length
   · rw[if_pos h,if_pos h,aLq]
     cases es[i]? with
     | none=>rfl
     | some e=>simp only[aLq,RB,ofC];cases (cut e.cells off n).bind (bE agg)<;>rfl
   · rw[if_neg h,if_neg h];rfl
@[go_sem] theorem Kn (cs : List D) : (D.agg cs).cells = cs := (rfl)
@[go_sem] theorem RD (x : T) : (D.t x).cells = x.cells.map .t := (rfl)
@[go_sem] theorem Ko : D.nil.cells = [.nil] := (rfl)
@[go_sem] theorem N4 (a b : Nat) : (D.bp a b).cells = [.bp a b] := (rfl)
@[go_sem] theorem Kp (a b c : Nat) : (D.ref a b c).cells = [.ref a b c] := (rfl)
@[go_sem] theorem Kq (a b c d e : Nat) : (D.sub a b c d e).cells = [.sub a b c d e] := (rfl)
@[go_sem] theorem N5 (f : Nat) (cs : List D) : (D.fn f cs).cells = [.fn f cs] := (rfl)
@[go_sem] theorem Gl : D.nilp.cells = [.nilp] := (rfl)
@[go_sem] theorem Kr (cs : List T) : (T.agg cs).cells = cs := (rfl)
@[go_sem] theorem Ks (k : IntKind) (n : Int) : (T.int k n).cells = [.int k n] := (rfl)
@[go_sem] theorem Gm (b : Bool) : (T.bool b).cells = [.bool b] := (rfl)
@[go_sem] theorem Kt (b : ByteArray) : (T.str b).cells = [.str b] := (rfl)
@[go_sem] theorem N6 (es : List T) : (T.sl es).cells = [.sl es] := (rfl)
def fits(n:Nat)(v:D):Bool:=decide (v.cells.length=n)&&v.cV
section
variable (n : Nat)
@[go_sem] theorem fits_int (k : IntKind) (a : Int) : fits 1 (.t (.int k a)) = true := (rfl)
@[go_sem] theorem fits_bool (b : Bool) : fits 1 (.t (.bool b)) = true := (rfl)
@[go_sem] theorem Ue (es : List T) : fits 1 (.t (.sl es)) = true := (rfl)
@[go_sem] theorem RE : fits 1 .nil = true := (rfl)
@[go_sem] theorem RF (a b c : Nat) : fits 1 (.ref a b c) = true := (rfl)
@[go_sem] theorem RG (a b c d e : Nat) : fits 1 (.sub a b c d e) = true := (rfl)
@[go_sem] theorem Uf (a b : Nat) : fits 1 (.bp a b) = true := (rfl)
@[go_sem] theorem Ug (f : Nat) (cs : List D) : fits 1 (.fn f cs) = true := (rfl)
@[go_sem] theorem RH (cs : List D) : fits n (.agg cs) = fM n cs := by rw [Bool.eq_iff_iff, b7]; show (decide (cs.length = n) && true) = true ↔ _; simp
@[go_sem] theorem N7 (cs : List T) : fits n (.t (.agg cs)) = fM n cs := by rw [Bool.eq_iff_iff, b7]; simp [fits, D.cells, T.cells, D.cV]
end
@[go_sem] theorem Gn {α : Type} (cs : List α) : au cs 0 [] = some cs := by simp [au]
@[go_sem] theorem Gp {α : Type} (c x : α) (cs xs : List α) : au (c :: cs) 0 (x :: xs) = ea x (au cs 0 xs) := by
 simp only[au,ea];by_cases h:xs.length≤cs.length<;>simp[h]
@[go_sem] theorem Gq {α : Type} (c : α) (cs : List α) (off : Nat) (xs : List α) : au (c :: cs) (off + 1) xs = ea c (au cs off xs) := by
 simp only[au,ea,List.length_cons]
 by_cases h:off+xs.length≤cs.length
 · rw[if_pos h,if_pos (by omega)];simp[show off+1+xs.length=(off+xs.length)+1 by omega]
 · rw[if_neg h,if_neg (by omega)];rfl
def Gr(n:Nat)(live:List (Nat×Nat))(a x:Option D):Option (D×ab):=a.bind fun p=>x.bind fun d=>(lS H p d n).bind fun H'=>(gE H' p live).map fun H''=>(.tup [],H'')
@[go_sem] theorem Yo (a x : X) (n : Nat) (live : List (Nat × Nat)) : evO call get H (.st a x n live) = Gr H n live (get a) (get x) := (rfl)
def oX(H:ab)(id:Nat)(live:List (Nat×Nat)):Option (D×ab):=(gE H (.bp id 0) live).map fun H'=>(.tup [],H')
def uz(id:Nat)(live:List (Nat×Nat))(cs:List D):Option (D×ab):=oX (H.set id (.box cs)) id live
@[go_sem] theorem N8 (id : Nat) (live : List (Nat × Nat)) (cs : List D) : uz H id live cs = oX (H.set id (.box cs)) id live := (rfl)
@[go_sem] theorem Ku (H : ab) (id : Nat) : oX H id [] = some (.tup [], H) := (rfl)
def Gs(id off:Nat)(live:List (Nat×Nat))(xs:List D):Option Obj→Option (D×ab)
 | some (.box cs)=>(au cs off xs).bind (uz H id live)
 | _=>none
@[go_sem] theorem RI (id off : Nat) (live : List (Nat × Nat)) (xs cs : List D) : Gs H id off live xs (some (.box cs)) = (au cs off xs).bind (uz H id live) := (rfl)
@[go_sem] theorem Uh (n id off : Nat) (live : List (Nat × Nat)) (v : D) : Gr H n live (some (.bp id off)) (some v) = if fits n v = true then Gs H id off live v.cells H[id]? else none := by
 by_cases h:fits n v=true
 case neg=>
  rw[if_neg h]
  simp only[fits,aLr,decide_eq_true_eq]at h
  simp only[Gr,aLq,lS,if_neg h];rfl
 rw[if_pos h]
 simp only[fits,aLr,decide_eq_true_eq]at h
 simp only[Gr,aLq,lS,h.1,h.2,and_self,if_true]
 generalize H[id]?=o
 rcases o with _ | (cs | _)
 · rfl
 · simp only[Gs]
   cases au cs off v.cells with
   | none=>rfl
   | some cs'=>simp only[aLw,aLq,uz,oX,gE]
 · rfl
def q8(id sz ep i:Nat)(es:List D)(agg:Bool)(cs:List D):Option (D×ab):=(bE agg cs).bind fun e=>if e.cV then some (.tup [],H.set id (.arr sz false ep (es.set i e)))else none
def RJ(id sz ep i off:Nat)(es xs:List D)(e:D):Option (D×ab):=(au e.cells off xs).bind (q8 H id sz ep i es e.isAgg)
@[go_sem] theorem Ui (id sz ep i off : Nat) (es xs : List D) (e : D) : RJ H id sz ep i off es xs e = (au e.cells off xs).bind (q8 H id sz ep i es e.isAgg) := (rfl)
@[go_sem] theorem N9 (cs : List D) : (D.agg cs).isAgg = true := (rfl)
@[go_sem] theorem Kv (cs : List T) : (D.t (.agg cs)).isAgg = true := (rfl)
@[go_sem] theorem Oa (k : IntKind) (n : Int) : (D.t (.int k n)).isAgg = false := (rfl)
@[go_sem] theorem Kw (b : Bool) : (D.t (.bool b)).isAgg = false := (rfl)
@[go_sem] theorem Ob (b : ByteArray) : (D.t (.str b)).isAgg = false := (rfl)
@[go_sem] theorem RK (es : List T) : (D.t (.sl es)).isAgg = false := (rfl)
@[go_sem] theorem Oc : D.nil.isAgg = false := (rfl)
@[go_sem] theorem Od (a b c : Nat) : (D.ref a b c).isAgg = false := (rfl)
@[go_sem] theorem Oe (a b c d e : Nat) : (D.sub a b c d e).isAgg = false := (rfl)
@[go_sem] theorem Uj (id sz ep i : Nat) (es : List D) (x : T) : q8 H id sz ep i es false [.t x] = some (.tup [], H.set id (.arr sz false ep (es.set i (.t x)))) := (rfl)
@[go_sem] theorem Of (id sz ep i : Nat) (es : List D) : q8 H id sz ep i es false [.nil] = some (.tup [], H.set id (.arr sz false ep (es.set i .nil))) := (rfl)
@[go_sem] theorem Og (id sz ep i a b c : Nat) (es : List D) : q8 H id sz ep i es false [.ref a b c] = some (.tup [], H.set id (.arr sz false ep (es.set i (.ref a b c)))) := (rfl)
theorem sR(cs:List D):(jf cs).cV=true:=by unfold jf;cases gC cs<;>rfl
@[go_sem] theorem Uk (id sz ep i : Nat) (es cs : List D) : q8 H id sz ep i es true cs = some (.tup [], H.set id (.arr sz false ep (es.set i (jf cs)))) := by
 simp[q8,bE,sR]
def Gt(id ep m i off:Nat)(xs:List D):Option Obj→Option (D×ab)
 | some (.arr sz pin ep' es)=>if ep=ep'∧m=es.length then(if pin then none else es[i]?.bind (RJ H id sz ep i off es xs))else none
 | _=>none
@[go_sem] theorem RL (id ep m i off : Nat) (xs : List D) (sz : Nat) (pin : Bool) (ep' : Nat) (es : List D) :
 Gt H id ep m i off xs (some (.arr sz pin ep' es))=if ep=ep'∧m=es.length then(if pin=true then none else es[i]?.bind (RJ H id sz ep i off es xs))else none:=(rfl)
@[go_sem] theorem Ul (n id ep m i off : Nat) (v : D) : Gr H n [] (some (.ap id ep m i off)) (some v) = if fits n v = true then Gt H id ep m i off v.cells H[id]? else none := by
 by_cases h:fits n v=true
 case neg=>
  rw[if_neg h]
  simp only[fits,aLr,decide_eq_true_eq]at h
  simp only[Gr,aLq,lS,if_neg h];rfl
 rw[if_pos h]
 simp only[fits,aLr,decide_eq_true_eq]at h
 simp only[Gr,aLq,lS,h.1,h.2,and_self,if_true,b5]
 generalize H[id]?=o
 rcases o with _ | (_ | ⟨sz',pin,ep',es⟩)
 · rfl
 · rfl
 · simp only[Gt]
   by_cases h:ep=ep'∧m=es.length
   · rw[if_pos h,if_pos h,aLq]
     cases pin with
     | true=>rfl
     | false=>
       simp only[aLt,if_false]
       cases es[i]? with
       | none=>rfl
       | some e=>
         simp only[aLq,RJ]
         cases au e.cells off v.cells with
         | none=>rfl
         | some cs'=>
           simp only[aLq,q8]
           cases bE e.isAgg cs' with
           | none=>rfl
           | some e'=>
             simp only[aLq]
             by_cases h3:e'.cV=true
             · rw[if_pos h3,if_pos h3,h.1];rfl
             · rw[if_neg h3,if_neg h3];rfl
   · rw[if_neg h,if_neg h];rfl
def Gu(zero:List D)(ps:List (Nat×Nat×D)):Option (D×ab):=(jY zero ps).map fun cs=>(jf cs,H)
@[go_sem] theorem Yp (zero : List D) (parts : List (Nat × Nat × X)) : evO call get H (.bd zero parts) = (eR get parts).bind (Gu H zero) := (rfl)
@[go_sem] theorem Dz : eR get [] = some [] := (rfl)
def Oh(off n:Nat)(r:List (Nat×Nat×X))(d:D):Option (List (Nat×Nat×D)):=ea (off,n,d) (eR get r)
@[go_sem] theorem RM (off n : Nat) (r : List (Nat × Nat × X)) (d : D) : Oh get off n r d = ea (off, n, d) (eR get r) := (rfl)
@[go_sem] theorem BR (off n : Nat) (x : X) (r : List (Nat × Nat × X)) : eR get ((off, n, x) :: r) = (get x).bind (Oh get off n r) := (rfl)
@[go_sem] theorem RN (zero : List D) : Gu H zero [] = some (jf zero, H) := (rfl)
def bdC(r:List (Nat×Nat×D))(z:List D):Option (D×ab):=Gu H z r
@[go_sem] theorem WJ (r : List (Nat × Nat × D)) (z : List D) : bdC H r z = Gu H z r := (rfl)
@[go_sem] theorem Oi (zero : List D) (off n : Nat) (x : D) (r : List (Nat × Nat × D)) : Gu H zero ((off, n, x) :: r) = if fits n x = true then (au zero off x.cells).bind (bdC H r) else none := by
 by_cases h:fits n x=true
 case neg=>
  rw[if_neg h]
  have h2:(x.cV&&x.cells.length==n)=false:=by rw[← Bool.not_eq_true,Bool.and_comm];simpa [fits]using h
  simp only[Gu,jY,h2];rfl
 rw[if_pos h]
 simp only[fits,aLr,decide_eq_true_eq]at h
 simp only[Gu,jY,h.1,h.2,beq_self_eq_true,Bool.and_self,if_true]
 cases au zero off x.cells<;>rfl
def aP(n:Nat):List T→Bool
 | []=>true
 | x::r=>fM n x.cells&&aP n r
@[go_sem] theorem DA (n : Nat) : aP n [] = true := (rfl)
@[go_sem] theorem kv (n : Nat) (x : T) (r : List T) : aP n (x :: r) = (fM n x.cells && aP n r) := (rfl)
def oY(sz:Nat)(ds:List D):Option (D×ab):=if ds.all (fun d=>d.cells.length==sz)then(aE (frz H depth) ds).map fun ts=>(.t (.sl ts),pins H (ds.flatMap (bH H depth)))else none
@[go_sem] theorem Yq (xs : List X) (sz : Nat) : evO call get H (.bs xs sz) = (aE get xs).bind (oY H sz) := (rfl)
theorem Oj(sz:Nat)(ds:List D)(ts:List T)(h:gC ds=some ts)(hc:aP sz ts=true):oY H sz ds=some (.t (.sl ts),H):=by
 have key:∀(ds:List D) (ts:List T),gC ds=some ts→aP sz ts=true→ds.all (fun d=>d.cells.length==sz)=true∧aE (frz H depth) ds=some ts∧ds.flatMap (bH H depth)=[]:=by
  intro ds
  induction ds with
  | nil=>intro ts h hc;simp[gC]at h;subst h;simp[aE]
  | cons d ds ih=>
    intro ts h hc
    cases d with
    | t x=>
      simp only[gC,aLb]at h
      obtain⟨r,hr,rfl⟩:=h
      simp only[aP,aLr,b7]at hc
      obtain⟨h1,h2,h3⟩:=ih r hr hc.2
      refine⟨by rw[List.all_cons,h1,Bool.and_true];simp[D.cells,hc.1],by simp[aE,frz,h2],by rw[List.flatMap_cons,h3];simp[bH]⟩
    | _=>simp[gC]at h
 obtain⟨h1,h2,h3⟩:=key ds ts h hc
 simp[oY,h1,h2,h3,pins]
theorem iI(sz:Nat)(ts:List T):oY H sz (ts.map D.t)=if aP sz ts=true then some (.t (.sl ts),H)else none:=by
 by_cases h:aP sz ts=true
 · rw[if_pos h];exact Oj H sz _ ts (BO ts) h
 · rw[if_neg h]
   have:(ts.map D.t).all (fun d=>d.cells.length==sz)=false:=by
    rw[← Bool.not_eq_true];intro ha;apply h
    clear h
    induction ts with
    | nil=>rfl
    | cons a r ih=>
      simp only[List.map_cons,List.all_cons,aLr,beq_iff_eq]at ha
      simp only[aP,aLr,b7]
      exact⟨by simpa [D.cells]using ha.1,ih ha.2⟩
   simp only[oY,this];rfl
@[go_sem] theorem WK (sz : Nat) : oY H sz [] = some (.t (.sl []), H) := (rfl)
@[go_sem] theorem WL (sz : Nat) (a : T) : oY H sz [.t a] = if aP sz [a] = true then some (.t (.sl [a]), H) else none := iI H sz [a]
@[go_sem] theorem WM (sz : Nat) (a b : T) : oY H sz [.t a, .t b] = if aP sz [a, b] = true then some (.t (.sl [a, b]), H) else none := iI H sz [a, b]
@[go_sem] theorem WN (sz : Nat) (a b c : T) : oY H sz [.t a, .t b, .t c] = if aP sz [a, b, c] = true then some (.t (.sl [a, b, c]), H) else none := iI H sz [a, b, c]
@[go_sem] theorem WO (sz : Nat) (a b c d : T) : oY H sz [.t a, .t b, .t c, .t d] = if aP sz [a, b, c, d] = true then some (.t (.sl [a, b, c, d]), H) else none := iI H sz [a, b, c, d]
@[go_sem] theorem WQ (sz : Nat) (a b c d e : T) : oY H sz [.t a, .t b, .t c, .t d, .t e] = if aP sz [a, b, c, d, e] = true then some (.t (.sl [a, b, c, d, e]), H) else none := iI H sz [a, b, c, d, e]
def Ol(a:D):Option (D×ab):=(QL a).map fun(n:Nat)=>(D.t (.int .i64 (n:Int)),H)
@[go_sem] theorem Yr (x : X) : evO call get H (.ln x) = (get x).bind (Ol H) := (rfl)
@[go_sem] theorem Um (es : List T) : Ol H (.t (.sl es)) = some (I es.length, H) := (rfl)
@[go_sem] theorem RO : Ol H .nil = some (I 0, H) := (rfl)
@[go_sem] theorem RP (id ep n : Nat) : Ol H (.ref id ep n) = some (I n, H) := (rfl)
@[go_sem] theorem RQ (id ep n lo hi : Nat) : Ol H (.sub id ep n lo hi) = some (I ((hi - lo : Nat) : Int), H) := (rfl)
def Om(ds:List D):Option (D×ab):=(MO ds).map fun d=>(d,H)
def On(ds:List D):Option (D×ab):=(MP ds).map fun d=>(d,H)
@[go_sem] theorem Ys (xs : List X) : evO call get H (.mn xs) = (aE get xs).bind (Om H) := (rfl)
@[go_sem] theorem Yt (xs : List X) : evO call get H (.mx xs) = (aE get xs).bind (On H) := (rfl)
@[go_sem] theorem WR (k : IntKind) (a b : Int) : Om H [.t (.int k a), .t (.int k b)] = some (.t (.int k (min a b)), H) := by
 simp only[Om,MO,ot,if_true,aLw];congr 4;omega
@[go_sem] theorem WT (k : IntKind) (a b : Int) : On H [.t (.int k a), .t (.int k b)] = some (.t (.int k (max a b)), H) := by
 simp only[On,MP,ot,if_true,aLw];congr 4;omega
@[go_sem] theorem WU (k : IntKind) (a b c : Int) : Om H [.t (.int k a), .t (.int k b), .t (.int k c)] = some (.t (.int k (min (min a b) c)), H) := by
 simp only[Om,MO,ot,if_true,aLw];congr 4;omega
@[go_sem] theorem WW (k : IntKind) (a b c : Int) : On H [.t (.int k a), .t (.int k b), .t (.int k c)] = some (.t (.int k (max (max a b) c)), H) := by
 simp only[On,MP,ot,if_true,aLw];congr 4;omega
def q9(sz:Nat)(x:Option D)(lo hi:Option (Option Int)):Option (D×ab):=x.bind fun a=>lo.bind fun l=>hi.bind fun h=>(fF H a l h sz).map fun d=>(d,H)
@[go_sem] theorem Yu (x : X) (lo hi : Option X) (sz : Nat) : evO call get H (.sc x lo hi sz) = q9 H sz (get x) (vJ get lo) (vJ get hi) := (rfl)
def Oo:D→Option (Option Int)
 | .t (.int _ n)=>some (some n)
 | _=>none
@[go_sem] theorem RR (k : IntKind) (n : Int) : Oo (.t (.int k n)) = some (some n) := (rfl)
@[go_sem] theorem Oq : vJ get none = some none := (rfl)
@[go_sem] theorem Ot (x : X) : vJ get (some x) = (get x).bind Oo := by
 simp only[vJ];cases get x with
 | none=>rfl
 | some d=>cases d with
   | t y=>cases y<;>rfl
   | _=>rfl
def Un(i:Nat)(a:D):Option (D×ab):=(MQ i a).map fun d=>(d,H)
@[go_sem] theorem Yv (x : X) (i : Nat) : evO call get H (.ex x i) = (get x).bind (Un H i) := (rfl)
def exO:Option D→Option (D×ab)
 | some d=>some (d,H)
 | none=>none
@[go_sem] theorem RS (d : D) : exO H (some d) = some (d, H) := (rfl)
@[go_sem] theorem RT (i : Nat) (ds : List D) : Un H i (.tup ds) = exO H ds[i]? := by simp only [Un, MQ, exO]; cases ds[i]? <;> rfl
def Uo(f:Nat)(ds:List D):Option (D×ab):=some (.fn f ds,H)
@[go_sem] theorem Up (f : Nat) (ds : List D) : Uo H f ds = some (.fn f ds, H) := (rfl)
@[go_sem] theorem Yw (f : Nat) (caps : List X) : evO call get H (.mf f caps) = (aE get caps).bind (Uo H f) := by simp only [evO, Uo]; cases aE get caps <;> rfl
@[go_sem] theorem Yx (sz : Nat) : evO call get H (.nw sz) = some (.ref H.length 0 0, H ++ [.arr sz false 0 []]) := (rfl)
def alP(p:List D×ab):Option (D×ab):=some (.bp H.length 0,H++ .box p.1::p.2)
@[go_sem] theorem WX (cs : List D) (os : ab) : alP H (cs, os) = some (.bp H.length 0, H ++ .box cs :: os) := (rfl)
@[go_sem] theorem Yy (zero : List D) (live : List (Nat × Nat)) : evO call get H (.al zero live) = alP H (aI (H.length + 1) zero live) := (rfl)
@[go_sem] theorem Gv (base : Nat) (cs : List D) : aI base cs [] = (cs, []) := (rfl)
def Uq(n:Nat)(a:D):Option (D×ab):=if a.cells.length=n∧a.cV then some (.bp H.length 0,H++[.box a.cells])else none
@[go_sem] theorem Yz (x : X) (n : Nat) : evO call get H (.bx x n) = (get x).bind (Uq H n) := (rfl)
@[go_sem] theorem Ur (n : Nat) (a : D) : Uq H n a = if fits n a = true then some (.bp H.length 0, H ++ [.box a.cells]) else none := by
 simp[Uq,fits]
def RU(sz:Nat)(zero:D)(n:Option Nat):Option (D×ab):=n.bind fun m=>if m≤lim then some (.ref H.length 0 m,H++[.arr sz false 0 (List.replicate m zero)])else none
def mkN(sz:Nat)(zero:D):D→Option (D×ab)
 | .t (.int _ n)=>RU H sz zero (idx n)
 | _=>none
@[go_sem] theorem Us (sz : Nat) (zero : D) (k : IntKind) (n : Int) : mkN H sz zero (.t (.int k n)) = RU H sz zero (idx n) := (rfl)
@[go_sem] theorem YA (len : X) (zero : D) (sz : Nat) : evO call get H (.mk len zero sz) = (get len).bind (mkN H sz zero) := by
 simp only[evO];cases get len with
 | none=>rfl
 | some d=>cases d with
   | t y=>cases y<;>rfl
   | _=>rfl
@[go_sem] theorem Ut (sz : Nat) (zero : D) (m : Nat) (h : m ≤ 4294967296) : RU H sz zero (some m) = some (.ref H.length 0 m, H ++ [.arr sz false 0 (List.replicate m zero)]) := by
 simp[RU,lim,h]
def BS(zero:T)(n:Option Nat):Option (D×ab):=n.bind fun m=>if m≤lim then some (.t (.sl (List.replicate m zero)),H)else none
def WY(zero:T):D→Option (D×ab)
 | .t (.int _ n)=>BS H zero (idx n)
 | _=>none
@[go_sem] theorem RV (zero : T) (k : IntKind) (n : Int) : WY H zero (.t (.int k n)) = BS H zero (idx n) := (rfl)
@[go_sem] theorem WZ (len : X) (zero : T) (sz : Nat) : evO call get H (.mkt len zero sz) = (get len).bind (WY H zero) := by
 simp only[evO];cases get len with
 | none=>rfl
 | some d=>cases d with
   | t y=>cases y<;>rfl
   | _=>rfl
@[go_sem] theorem RW (zero : T) (m : Nat) (h : m ≤ 4294967296) : BS H zero (some m) = some (.t (.sl (List.replicate m zero)), H) := by
 simp[BS,lim,h]
def BT(sz:Nat)(zero:T)(n:Option Nat):Option (D×ab):=n.bind fun m=>if m≤lim∧0<m then some (.ref H.length 0 m,H++[.arr sz false 0 (List.replicate m (.t zero))])else none
def W4(sz:Nat)(zero:T):D→Option (D×ab)
 | .t (.int _ n)=>BT H sz zero (idx n)
 | _=>none
@[go_sem] theorem RX (sz : Nat) (zero : T) (k : IntKind) (n : Int) : W4 H sz zero (.t (.int k n)) = BT H sz zero (idx n) := (rfl)
@[go_sem] theorem W5 (len : X) (zero : T) (sz : Nat) : evO call get H (.mkn len zero sz) = (get len).bind (W4 H sz zero) := by
 simp only[evO];cases get len with
 | none=>rfl
 | some d=>cases d with
   | t y=>cases y<;>rfl
   | _=>rfl
@[go_sem] theorem RY (sz : Nat) (zero : T) (m : Nat) (h : m ≤ 4294967296) (h0 : 0 < m) : BT H sz zero (some m) = some (.ref H.length 0 m, H ++ [.arr sz false 0 (List.replicate m (.t zero))]) := by
 simp[BT,lim,h,h0]
def fN(sz:Nat)(fz:Bool)(x y:Option D):Option (D×ab):=x.bind fun a=>y.bind fun b=>eD H a b fz sz
@[go_sem] theorem W6 (x y : X) (fz : Bool) (sz : Nat) : evO call get H (.app x y fz sz) = fN H sz fz (get x) (get y) := (rfl)
def mq(sz id ep n:Nat)(ys:List D):Option Obj→Option (D×ab)
 | some (.arr sz' pin ep' es)=>if ep=ep'∧n=es.length∧sz'=sz∧n+ys.length≤lim then some (.ref id ep (n+ys.length),H.set id (.arr sz pin ep (es++ys)))else none
 | _=>none
@[go_sem] theorem Ou (sz id ep n : Nat) (ys : List D) (pin : Bool) (es : List D) :
 mq H sz id ep n ys (some (.arr sz pin ep es))=if n=es.length then(if n+ys.length≤4294967296 then some (.ref id ep (n+ys.length),H.set id (.arr sz pin ep (es++ys)))else none)else none:=by
 simp only[mq,lim]
 by_cases h1:n=es.length
 · rw[if_pos h1]
   by_cases h2:n+ys.length≤4294967296
   · rw[if_pos h2,if_pos ⟨trivial,h1,trivial,h2⟩]
   · rw[if_neg h2,if_neg fun h=>h2 h.2.2.2]
 · rw[if_neg h1,if_neg fun h=>h1 h.2.1]
theorem kx(ts:List T):aE (fun d=>(frz H depth d).map D.t) (ts.map D.t)=some (ts.map D.t):=by
 induction ts with
 | nil=>rfl
 | cons t ts ih=>simp[aE,frz,ih]
theorem yA(ts:List T):(ts.map D.t).flatMap (bH H depth)=[]:=by
 induction ts with
 | nil=>rfl
 | cons t ts ih=>rw[List.map_cons,List.flatMap_cons,ih];simp[bH,depth]
theorem rf(sz:Nat)(fz:Bool)(x:D)(ts:List T)(h:aJ sz (ts.map D.t)=false):fN H sz fz (some x) (some (.t (.sl ts)))=none:=by
 have e1:(if fz then aE (fun d=>(frz H depth d).map D.t) (ts.map D.t)else some (ts.map D.t))=some (ts.map D.t):=by
  cases fz<;>simp[kx]
 simp only[fN,aLq,eD,elems,e1,h,aLt,if_false]
def fO(sz:Nat)(ts:List T):Bool:=aJ sz (ts.map D.t)
theorem yB(sz id ep n:Nat)(fz:Bool)(ts:List T)(h:fO sz ts=true):fN H sz fz (some (.ref id ep n)) (some (.t (.sl ts)))=mq H sz id ep n (ts.map .t) H[id]?:=by
 have e1:(if fz then aE (fun d=>(frz H depth d).map D.t) (ts.map D.t)else some (ts.map D.t))=some (ts.map D.t):=by
  cases fz<;>simp[kx]
 have e2:(if fz then pins H ((ts.map D.t).flatMap (bH H depth))else H)=H:=by
  cases fz
  · rfl
  · simp only[if_true];rw[yA];rfl
 unfold fO at h
 simp only[fN,aLq,eD,elems,e1,h,if_true,e2,b5]
 generalize H[id]?=o
 rcases o with _ | (_ | ⟨sz',pin,ep',es⟩)
 · rfl
 · rfl
 · simp only[mq]
   by_cases h1:ep=ep'∧n=es.length
   · rw[if_pos h1,aLq]
     by_cases h2:sz'=sz∧n+(ts.map D.t).length≤lim
     · rw[if_pos h2,if_pos ⟨h1.1,h1.2,h2⟩]
     · rw[if_neg h2,if_neg fun h=>h2 h.2.2]
   · rw[if_neg h1,if_neg fun h=>h1 ⟨h.1,h.2.1⟩];rfl
@[go_sem] theorem Ov (sz id ep n : Nat) (fz : Bool) (ts : List T) : fN H sz fz (some (.ref id ep n)) (some (.t (.sl ts))) = if fO sz ts = true then mq H sz id ep n (ts.map .t) H[id]? else none := by
 by_cases h:fO sz ts=true
 · rw[if_pos h,yB H sz id ep n fz ts h]
 · rw[if_neg h];exact rf H sz fz _ ts (by simpa [fO]using h)
@[go_sem] theorem Ow (sz : Nat) (fz : Bool) (ts : List T) : fN H sz fz (some .nil) (some (.t (.sl ts))) =
 if fO sz ts=true then(if ts.length≤4294967296 then some (.ref H.length 0 ts.length,H++[.arr sz false 0 (ts.map .t)])else none)else none:=by
 by_cases h:fO sz ts=true
 · rw[if_pos h]
   have e1:(if fz then aE (fun d=>(frz H depth d).map D.t) (ts.map D.t)else some (ts.map D.t))=some (ts.map D.t):=by
    cases fz<;>simp[kx]
   have e2:(if fz then pins H ((ts.map D.t).flatMap (bH H depth))else H)=H:=by
    cases fz
    · rfl
    · simp only[if_true];rw[yA];rfl
   unfold fO at h
   simp only[fN,aLq,eD,elems,e1,h,if_true,e2,lim,List.length_map]
 · rw[if_neg h];exact rf H sz fz _ ts (by simpa [fO]using h)
@[go_sem] theorem Ox (sz : Nat) : fO sz [] = true := (rfl)
@[go_sem] theorem Kx (sz : Nat) (x : T) (r : List T) : fO sz (x :: r) = fM sz x.cells := by
 rw[Bool.eq_iff_iff,b7];simp[fO,aJ,D.cells]
@[go_sem] theorem Oy (l : List Int) (k : IntKind) : fO 1 (l.map (.int k)) = true := by cases l <;> rfl
@[go_sem] theorem Ky (l : List Bool) : fO 1 (l.map .bool) = true := by cases l <;> rfl
@[go_sem] theorem RZ (l : List (List T)) : fO 1 (l.map .sl) = true := by cases l <;> rfl
def yC(call:ak)(f raw:Nat)(keep:List Nat)(ds:List D):Option (D×ab):=jZ call H f raw keep ds
@[go_sem] theorem YB (f raw : Nat) (keep : List Nat) (xs : List X) : evO call get H (.ca f raw keep xs) = (aE get xs).bind (yC H call f raw keep) := (rfl)
def W7(call:ak)(raw:Nat)(keep:List Nat)(x:Option D)(xs:Option (List D)):Option (D×ab):=x.bind fun
 | .fn f caps=>xs.bind fun ds=>jZ call H f raw keep (ds++caps)
 | _=>none
@[go_sem] theorem YC (x : X) (raw : Nat) (keep : List Nat) (xs : List X) : evO call get H (.cw x raw keep xs) = W7 H call raw keep (get x) (aE get xs) := (rfl)
@[go_sem] theorem Uu (raw : Nat) (keep : List Nat) (f : Nat) (caps ds : List D) : W7 H call raw keep (some (.fn f caps)) (some ds) = yC H call f raw keep (ds ++ caps) := (rfl)
def eU(H:ab):List D→Option (List T)
 | []=>some []
 | .t x::r=>ea x (eU H r)
 | .nil::r=>ea (.sl []) (eU H r)
 | _::_=>none
@[go_sem] theorem Uv : eU H [] = some [] := (rfl)
@[go_sem] theorem Uw (x : T) (r : List D) : eU H (.t x :: r) = ea x (eU H r) := (rfl)
@[go_sem] theorem Oz (r : List D) : eU H (.nil :: r) = ea (.sl []) (eU H r) := (rfl)
@[go_sem] theorem OA (cs : List D) (r : List D) : eU H (.agg cs :: r) = none := (rfl)
@[go_sem] theorem R0 (a b : Nat) (r : List D) : eU H (.bp a b :: r) = none := (rfl)
@[go_sem] theorem OB (a b c : Nat) (r : List D) : eU H (.ref a b c :: r) = none := (rfl)
@[go_sem] theorem OC (a b c d e : Nat) (r : List D) : eU H (.sub a b c d e :: r) = none := (rfl)
@[go_sem] theorem R1 (f : Nat) (cs : List D) (r : List D) : eU H (.fn f cs :: r) = none := (rfl)
@[go_sem] theorem R2 (a b c d e : Nat) (r : List D) : eU H (.ap a b c d e :: r) = none := (rfl)
@[go_sem] theorem R3 (cs : List T) (r : List D) : eU H (.ep cs :: r) = none := (rfl)
@[go_sem] theorem Kz (r : List D) : eU H (.nilp :: r) = none := (rfl)
@[go_sem] theorem OD (r : List D) : eU H (.und :: r) = none := (rfl)
end
theorem jL(H:ab):∀ {ds:List D} {ts:List T},eU H ds=some ts→∀i,jg H [] i ds=some (ts.map .t)∧bj H [] i ds=[]
 | [],ts,h,i=>by simp[eU]at h;subst h;exact⟨rfl,rfl⟩
 | d::r,ts,h,i=>by
   cases d with
   | t x=>
     simp only[eU,ea,aLb]at h
     obtain⟨l,hl,rfl⟩:=h
     obtain⟨h1,h2⟩:=jL H hl (i+1)
     exact⟨by simp[jg,iw,h1],by simp[bj,bH,depth,h2]⟩
   | nil=>
     simp only[eU,ea,aLb]at h
     obtain⟨l,hl,rfl⟩:=h
     obtain⟨h1,h2⟩:=jL H hl (i+1)
     exact⟨by simp[jg,iw,h1],by simp[bj,bH,depth,h2]⟩
   | _=>simp[eU]at h
theorem yD(ts:List T)(n:Nat):(ts.map D.t).flatMap (ids n)=[]:=by
 induction ts with
 | nil=>rfl
 | cons t ts ih=>rw[List.map_cons,List.flatMap_cons,ih];simp[ids]
theorem gM(f:Nat→Option Nat)(ts:List T):aE (ren f depth) (ts.map .t)=some (ts.map .t):=by
 induction ts with
 | nil=>rfl
 | cons t ts ih=>simp[aE,ren,depth]at ih ⊢;exact ih
def rh:D→Bool
 | .t _=>true
 | .tup ds=>ds.all fun | .t _=>true | _=>false
 | _=>false
theorem BU{f:Nat→Option Nat}{d:D}(h:rh d=true):ren f depth d=some d:=by
 cases d with
 | t x=>rfl
 | tup ds=>
   simp only[rh]at h
   have:aE (ren f 7) ds=some ds:=by
    induction ds with
    | nil=>rfl
    | cons d ds ih=>
      simp only[List.all_cons,aLr]at h
      cases d with
      | t x=>simp[aE,ren,ih h.2]
      | _=>simp at h
   simp[ren,depth,this]
 | _=>simp[rh]at h
def jM(H:ab)(p:D×ab):Option (D×ab):=if rh p.1&&p.2.isEmpty then some (p.1,H)else
 (ren (aR [] H.length) depth p.1).bind fun r'=>(aE (aX (aR [] H.length)) p.2).map fun os=>(r',H++os)
@[go_sem] theorem Ux (H : ab) (x : T) : jM H (.t x, []) = some (.t x, H) := (rfl)
@[go_sem] theorem Uy (H : ab) : jM H (.tup [], []) = some (.tup [], H) := (rfl)
@[go_sem] theorem Uz (H : ab) (x y : T) : jM H (.tup [.t x, .t y], []) = some (.tup [.t x, .t y], H) := (rfl)
@[go_sem] theorem UA (H : ab) (x y z : T) : jM H (.tup [.t x, .t y, .t z], []) = some (.tup [.t x, .t y, .t z], H) := (rfl)
@[go_sem] theorem UB (H : ab) (x y z u : T) : jM H (.tup [.t x, .t y, .t z, .t u], []) = some (.tup [.t x, .t y, .t z, .t u], H) := (rfl)
theorem yE(H:ab)(call:ak)(f raw:Nat)(ds:List D)(ts:List T)(h:eU H ds=some ts):
 yC H call f raw [] ds=(call raw f (ts.map .t) []).bind (jM H):=by
 obtain⟨h1,h2⟩:=jL H h 0
 simp only[yC,jZ,h1,aLq,yD,bc,reach,dU,List.flatMap_nil,h2,pins,gM,pick,aE]
 cases hc:call raw f (ts.map .t) []with
 | none=>rfl
 | some p=>
   obtain⟨d,os⟩:=p
   simp only[aLq,List.isEmpty_nil,Bool.true_and,jM]
   by_cases h3:os=[]
   · subst h3
     simp only[List.isEmpty_nil,Bool.true_and,Bool.and_true,aE,aLw,List.length_nil,List.take_nil,aD,List.drop_nil,List.append_nil]
     by_cases h4:rh d=true
     · rw[if_pos h4]
       split
       · rfl
       · rw[BU h4];rfl
     · rw[if_neg h4]
       split
       · rename_i h5
         exfalso
         apply h4
         cases d with
         | t x=>rfl
         | tup ds=>
           simp only[fL,aLx]at h5
           simp only[rh,aLx]
           intro y hy
           have:=h5 y hy
           cases y<;>simp_all [dL]
         | _=>simp[fL]at h5
       · rfl
   · have:os.isEmpty=false:=by cases os<;>simp_all
     simp only[this,Bool.false_and,Bool.and_false,if_false,aLt,List.length_nil,List.take_zero,aD,List.drop_zero]
@[go_sem] theorem KA (st : St) : di st [] = some [] := (rfl)
def W8(st:St)(r:List (Nat×Option (Nat×Bool)))(d:D):Option (List D):=ea d (di st r)
@[go_sem] theorem UC (vs : List D) (H : ab) (r : List (Nat × Option (Nat × Bool))) (d : D) : W8 ⟨vs, H⟩ r d = ea d (di ⟨vs, H⟩ r) := (rfl)
@[go_sem] theorem KB (vs : List D) (H : ab) (j : Nat) (r : List (Nat × Option (Nat × Bool))) : di ⟨vs, H⟩ ((j, none) :: r) = vs[j]?.bind (W8 ⟨vs, H⟩ r) := (rfl)
def UD(st:St)(r:List (Nat×Option (Nat×Bool)))(p:D×ab):Option (List D):=ea p.1 (di st r)
@[go_sem] theorem UE (vs : List D) (H : ab) (r : List (Nat × Option (Nat × Bool))) (d : D) (H' : ab) : UD ⟨vs, H⟩ r (d, H') = ea d (di ⟨vs, H⟩ r) := (rfl)
def UF(st:St)(n:Nat)(agg:Bool)(r:List (Nat×Option (Nat×Bool)))(p:D):Option (List D):=(AB st.H n agg p).bind (UD st r)
@[go_sem] theorem UG (vs : List D) (H : ab) (n : Nat) (agg : Bool) (r : List (Nat × Option (Nat × Bool))) (p : D) : UF ⟨vs, H⟩ n agg r p = (AB H n agg p).bind (UD ⟨vs, H⟩ r) := (rfl)
@[go_sem] theorem Gw (vs : List D) (H : ab) (j n : Nat) (agg : Bool) (r : List (Nat × Option (Nat × Bool))) : di ⟨vs, H⟩ ((j, some (n, agg)) :: r) = vs[j]?.bind (UF ⟨vs, H⟩ n agg r) := by
 simp only[di]
 cases vs[j]? with
 | none=>rfl
 | some p=>
   simp only[aLq,UF,AB]
   cases kT H p n agg<;>rfl
@[go_sem] theorem UH (H : ab) (n : Nat) (x : T) : frz H n (.t x) = some x := by cases n <;> rfl
@[go_sem] theorem UI (H : ab) (n : Nat) : frz H n .nil = some (.sl []) := by cases n <;> rfl
@[go_sem] theorem UJ (H : ab) (n : Nat) (cs : List D) : frz H (n + 1) (.agg cs) = (aE (frz H n) cs).map .agg := (rfl)
@[go_sem] theorem wa (H : ab) (n : Nat) (ts : List T) : aE (frz H n) (ts.map .t) = some ts := by
 induction ts with
 | nil=>rfl
 | cons t ts ih=>simp[aE,UH,ih]
def frA(H:ab)(n ep m lo hi:Nat):Option Obj→Option T
 | some (.arr _ _ ep' es)=>if ep=ep'∧m=es.length then(aE (frz H n) ((es.drop lo).take (hi-lo))).map .sl else none
 | _=>none
def frR(H:ab)(n ep m:Nat):Option Obj→Option T
 | some (.arr _ _ ep' es)=>if ep=ep'∧m=es.length then(aE (frz H n) es).map .sl else none
 | _=>none
@[go_sem] theorem UK (H : ab) (n id ep m : Nat) : frz H (n + 1) (.ref id ep m) = frR H n ep m H[id]? := by
 simp only[frz,b5]
 generalize H[id]?=o
 rcases o with _ | (_ | ⟨sz',pin,ep',es⟩)
 · rfl
 · rfl
 · simp only[frR]
   by_cases h:ep=ep'∧m=es.length
   · rw[if_pos h,if_pos h];rfl
   · rw[if_neg h,if_neg h];rfl
@[go_sem] theorem UL (H : ab) (n id ep m lo hi : Nat) : frz H (n + 1) (.sub id ep m lo hi) = frA H n ep m lo hi H[id]? := by
 simp only[frz,b5]
 generalize H[id]?=o
 rcases o with _ | (_ | ⟨sz',pin,ep',es⟩)
 · rfl
 · rfl
 · simp only[frA]
   by_cases h:ep=ep'∧m=es.length
   · rw[if_pos h,if_pos h];rfl
   · rw[if_neg h,if_neg h];rfl
@[go_sem] theorem UM (H : ab) (n ep m sz : Nat) (pin : Bool) (es : List D) : frR H n ep m (some (.arr sz pin ep es)) = if m = es.length then (aE (frz H n) es).map .sl else none := by simp [frR]
@[go_sem] theorem UN (H : ab) (n ep m lo hi sz : Nat) (pin : Bool) (es : List D) : frA H n ep m lo hi (some (.arr sz pin ep es)) = if m = es.length then (aE (frz H n) ((es.drop lo).take (hi - lo))).map .sl else none := by simp [frA]
@[go_sem] theorem W9 (H : ab) (x : T) : iw H (.t x) = some (.t x) := (rfl)
@[go_sem] theorem R4 (H : ab) : iw H .nil = some (.t (.sl [])) := (rfl)
@[go_sem] theorem R5 (H : ab) (cs : List D) : iw H (.agg cs) = (frz H 8 (.agg cs)).map .t := (rfl)
@[go_sem] theorem R6 (H : ab) (id ep n : Nat) : iw H (.ref id ep n) = (frz H 8 (.ref id ep n)).map .t := (rfl)
@[go_sem] theorem R7 (H : ab) (id ep n lo hi : Nat) : iw H (.sub id ep n lo hi) = (frz H 8 (.sub id ep n lo hi)).map .t := (rfl)
@[go_sem] theorem UO (H : ab) (id off : Nat) : iw H (.bp id off) = some (.bp id off) := (rfl)
@[go_sem] theorem UP (H : ab) (id ep n i off : Nat) : iw H (.ap id ep n i off) = some (.ap id ep n i off) := (rfl)
@[go_sem] theorem UQ (H : ab) (cs : List T) : iw H (.ep cs) = some (.ep cs) := (rfl)
@[go_sem] theorem UR (H : ab) (f : Nat) (cs : List D) : iw H (.fn f cs) = some (.fn f cs) := (rfl)
def ltB:Nat→Nat→Bool
 | _,0=>false
 | 0,_+1=>true
 | m+1,n+1=>ltB m n
@[go_sem] theorem YD (m : Nat) : ltB m 0 = false := by cases m <;> rfl
@[go_sem] theorem Xa (n : Nat) : ltB 0 (n + 1) = true := (rfl)
@[go_sem] theorem Xb (m n : Nat) : ltB (m + 1) (n + 1) = ltB m n := (rfl)
theorem df:∀ {m n:Nat},ltB m n=decide (m<n)
 | m,0=>by cases m<;>simp[ltB]
 | 0,n+1=>by simp[ltB]
 | m+1,n+1=>by simp[ltB,df (m:=m) (n:=n)]
def eqB:Nat→Nat→Bool
 | 0,0=>true
 | m+1,n+1=>eqB m n
 | _,_=>false
@[go_sem] theorem Xc : eqB 0 0 = true := (rfl)
@[go_sem] theorem Xd (n : Nat) : eqB 0 (n + 1) = false := (rfl)
@[go_sem] theorem Xe (n : Nat) : eqB (n + 1) 0 = false := (rfl)
@[go_sem] theorem Xf (m n : Nat) : eqB (m + 1) (n + 1) = eqB m n := (rfl)
theorem sT:∀ {m n:Nat},eqB m n=decide (m=n)
 | 0,0=>rfl
 | 0,n+1=>rfl
 | m+1,0=>rfl
 | m+1,n+1=>by simp[eqB,sT (m:=m) (n:=n)]
section
variable (k n : Nat)
@[go_sem] theorem US (x : T) : old k n (.t x) = true := by cases n <;> rfl
@[go_sem] theorem UT : old k n .nil = true := by cases n <;> rfl
@[go_sem] theorem Xg (cs : List T) : old k n (.ep cs) = true := by cases n <;> rfl
@[go_sem] theorem R8 : old k n .nilp = true := by cases n <;> rfl
@[go_sem] theorem UU : old k n .und = true := by cases n <;> rfl
@[go_sem] theorem OE (id off : Nat) : old k n (.bp id off) = ltB id k := by cases n <;> simp [old, df]
@[go_sem] theorem Xh (id ep m i off : Nat) : old k n (.ap id ep m i off) = ltB id k := by cases n <;> simp [old, df]
@[go_sem] theorem UW (id ep m : Nat) : old k n (.ref id ep m) = ltB id k := by cases n <;> simp [old, df]
@[go_sem] theorem UX (id ep m lo hi : Nat) : old k n (.sub id ep m lo hi) = ltB id k := by cases n <;> simp [old, df]
def cz(n:Nat)(cs:List D):Bool:=cs.all (old k n)
@[go_sem] theorem KC : cz k n [] = true := (rfl)
@[go_sem] theorem sU (d : D) (r : List D) : cz k n (d :: r) = (old k n d && cz k n r) := (rfl)
@[go_sem] theorem uA (ts : List T) : cz k n (ts.map .t) = true := by
 induction ts with
 | nil=>rfl
 | cons t ts ih=>rw[List.map_cons,sU,US,ih];rfl
@[go_sem] theorem KD (m : Nat) (x : T) : cz k n (List.replicate m (.t x)) = true := by
 have:List.replicate m (D.t x)=(List.replicate m x).map .t:=by simp
 rw[this,uA]
@[go_sem] theorem KE (a b : List D) : cz k n (a ++ b) = (cz k n a && cz k n b) := by simp [cz]
@[go_sem] theorem UY (cs : List D) : old k (n + 1) (.agg cs) = cz k n cs := (rfl)
@[go_sem] theorem UZ (cs : List D) : old k (n + 1) (.tup cs) = cz k n cs := (rfl)
@[go_sem] theorem Xi (f : Nat) (cs : List D) : old k (n + 1) (.fn f cs) = cz k n cs := (rfl)
end
def bR(k:Nat):ab→Bool
 | []=>true
 | .box cs::r=>cz k 8 cs&&bR k r
 | .arr _ _ _ es::r=>cz k 8 es&&bR k r
@[go_sem] theorem Gx (k : Nat) : bR k [] = true := (rfl)
@[go_sem] theorem Gy (k : Nat) (cs : List D) (r : ab) : bR k (.box cs :: r) = (cz k 8 cs && bR k r) := (rfl)
@[go_sem] theorem Gz (k sz ep : Nat) (pin : Bool) (es : List D) (r : ab) : bR k (.arr sz pin ep es :: r) = (cz k 8 es && bR k r) := (rfl)
theorem eb(k:Nat)(H:ab):H.all (fun o=>o.ds.all (old k depth))=bR k H:=by
 induction H with
 | nil=>rfl
 | cons o r ih=>rw[List.all_cons,ih];cases o<;>rfl
def GA(d:D)(b:Bool):D:=if b then d else .und
@[go_sem] theorem KF (d : D) : GA d true = d := (rfl)
@[go_sem] theorem GB (d : D) : GA d false = .und := (rfl)
@[go_sem] theorem U0 (k : Nat) (d : D) : kill k d = GA d (old k 8 d) := (rfl)
def wc(k:Nat):List D→List D
 | []=>[]
 | d::r=>kill k d::wc k r
@[go_sem] theorem OF (k : Nat) : wc k [] = [] := (rfl)
@[go_sem] theorem KG (k : Nat) (d : D) (r : List D) : wc k (d :: r) = kill k d :: wc k r := (rfl)
theorem BW(k:Nat)(vs:List D):vs.map (kill k)=wc k vs:=by
 induction vs with
 | nil=>rfl
 | cons d r ih=>rw[List.map_cons,ih];rfl
@[go_sem] theorem R9 (k : Nat) (vs : List D) (H : ab) : vK k ⟨vs, H⟩ = if bR k (H.take k) = true then some ⟨wc k vs, H.take k⟩ else none := by
 simp only[vK,eb,BW]
@[go_sem] theorem GC (H : ab) (n : Nat) (x : T) : bH H n (.t x) = [] := by cases n <;> rfl
@[go_sem] theorem Sa (H : ab) (n : Nat) : bH H n .nil = [] := by cases n <;> rfl
@[go_sem] theorem U1 (H : ab) (n id off : Nat) : bH H n (.bp id off) = [] := by cases n <;> rfl
@[go_sem] theorem U3 (H : ab) (n f : Nat) (cs : List D) : bH H n (.fn f cs) = [] := by cases n <;> rfl
@[go_sem] theorem U4 (H : ab) (n : Nat) (cs : List T) : bH H n (.ep cs) = [] := by cases n <;> rfl
@[go_sem] theorem U5 (H : ab) (n a b c d e : Nat) : bH H n (.ap a b c d e) = [] := by cases n <;> rfl
def jj(H:ab)(n:Nat)(cs:List D):List Nat:=cs.flatMap (bH H n)
@[go_sem] theorem OH (H : ab) (n : Nat) : jj H n [] = [] := (rfl)
@[go_sem] theorem we (H : ab) (n : Nat) (d : D) (r : List D) : jj H n (d :: r) = bH H n d ++ jj H n r := (rfl)
@[go_sem] theorem U6 (H : ab) (n : Nat) (ts : List T) : jj H n (ts.map .t) = [] := by
 induction ts with
 | nil=>rfl
 | cons t ts ih=>rw[List.map_cons,we,ih,GC];rfl
@[go_sem] theorem OI (H : ab) (n : Nat) (a b : List D) : jj H n (a ++ b) = jj H n a ++ jj H n b := by simp [jj]
@[go_sem] theorem Sb (H : ab) (n : Nat) (cs : List D) : bH H (n + 1) (.agg cs) = jj H n cs := (rfl)
def GD(H:ab)(n:Nat):Option Obj→List Nat
 | some (.arr _ _ _ es)=>jj H n es
 | _=>[]
@[go_sem] theorem OJ (H : ab) (n sz ep : Nat) (pin : Bool) (es : List D) : GD H n (some (.arr sz pin ep es)) = jj H n es := (rfl)
@[go_sem] theorem Sc (H : ab) (n id ep m : Nat) : bH H (n + 1) (.ref id ep m) = id :: GD H n H[id]? := (rfl)
@[go_sem] theorem Sd (H : ab) (n id ep m lo hi : Nat) : bH H (n + 1) (.sub id ep m lo hi) = id :: GD H n H[id]? := (rfl)
@[go_sem] theorem U7 : j3 [] = .tup [] := (rfl)
@[go_sem] theorem U8 (d : D) : j3 [d] = d := (rfl)
@[go_sem] theorem U9 (a b : D) (r : List D) : j3 (a :: b :: r) = .tup (a :: b :: r) := (rfl)
def ri(k:Nat):List Nat→Bool
 | []=>true
 | i::r=> !ltB i k&&ri k r
@[go_sem] theorem OK (k : Nat) : ri k [] = true := (rfl)
@[go_sem] theorem KH (k i : Nat) (r : List Nat) : ri k (i :: r) = (!ltB i k && ri k r) := (rfl)
theorem uC(k:Nat)(l:List Nat):l.all (fun i=>decide (k≤i))=ri k l:=by
 induction l with
 | nil=>rfl
 | cons i r ih=>
   rw[List.all_cons,ih]
   simp only[ri,df]
   congr 1
   rw[Bool.eq_iff_iff];simp
def Se(k raw:Nat)(H:ab)(ds rs:List D):Option (D×ab):=
 (eh H (max raw 1) (List.range k) (rs.flatMap (ids depth)++dU H (List.range k))).bind fun q=>
  if(cM H raw ds).all (fun i=> !(List.range k++q.1).contains i)then
   (aE (ren (idxOf (List.range k++q.1)) depth) rs).bind fun rs'=>
    (aE (aX (idxOf (List.range k++q.1))) (H.take k++q.2)).map fun hs'=>(j3 rs',hs')
  else none
def KI(k raw:Nat)(H:ab)(ds rs:List D)(b:Bool):Option (D×ab):=
 if b then(if ri k (cM H raw ds)=true then some (j3 rs,H.take k)else none)else Se k raw H ds rs
@[go_sem] theorem OL (k raw : Nat) (H : ab) (ds rs : List D) : KI k raw H ds rs true = if ri k (cM H raw ds) = true then some (j3 rs, H.take k) else none := (rfl)
def OM(k raw:Nat)(H:ab)(ds rs:List D):Option (D×ab):=KI k raw H ds rs (cz k 8 rs&&bR k (H.take k))
@[go_sem] theorem Va (k raw : Nat) (H : ab) (ds rs : List D) : OM k raw H ds rs = KI k raw H ds rs (cz k 8 rs && bR k (H.take k)) := (rfl)
@[go_sem] theorem ON (k : Nat) (H : ab) (ds : List D) : finish k 0 H ds = (aE (iw H) ds).bind (OM k 0 H ds) := by
 simp only[finish,if_true,eb,uC]
 cases aE (iw H) ds with
 | none=>rfl
 | some rs=>
   simp only[aLq,OM,KI]
   show(if(cz k 8 rs&&bR k (H.take k))=true then _ else _)=_
   cases (cz k 8 rs&&bR k (H.take k))<;>rfl
@[go_sem] theorem OO (H : ab) (ds : List D) : cM H 0 ds = jj H 8 ds := (rfl)
@[go_sem] theorem OP (vs : List D) : eE [] vs = vs := (rfl)
@[go_sem] theorem KJ (i : Nat) (r : List Nat) (vs : List D) : eE (i :: r) vs = eE r (vs.set i .und) := (rfl)
@[go_sem] theorem Vb (dead : List Nat) (k : Nat) (vs : List D) (H : ab) : tidy false dead k ⟨vs, H⟩ = some ⟨eE dead vs, H⟩ := (rfl)
@[go_sem] theorem Vc (dead : List Nat) (k : Nat) (vs : List D) (H : ab) : tidy true dead k ⟨vs, H⟩ = vK k ⟨eE dead vs, H⟩ := (rfl)
section
variable (H : ab) (call : ak) (f raw : Nat) (keep : List Nat) (ds : List D)
def pR(H1:ab)(n:Nat)(sel:List Nat)(p:D×ab):Option (D×ab):=
 (ren (aR sel n) depth p.1).bind fun r'=>(aE (aX (aR sel n)) p.2).map fun os=>(r',aD H1 sel (os.take sel.length)++os.drop sel.length)
def fD(H1:ab)(sel:List Nat)(p:D×ab):Option (D×ab):=
 if sel.isEmpty&&p.2.isEmpty&&fL p.1 then some (p.1,H)else pR H1 H.length sel p
def GF(args:List D)(H1:ab)(sel:List Nat)(hs:ab):Option (D×ab):=(call raw f args hs).bind (fD H H1 sel)
def GH(args:List D)(H1:ab)(sel:List Nat)(hs:ab):Option (D×ab):=(aE (aX (idxOf sel)) hs).bind (GF H call f raw args H1 sel)
def GJ(H1:ab)(sel:List Nat)(args:List D):Option (D×ab):=(pick H1 sel).bind (GH H call f raw args H1 sel)
def GK(args:List D)(sel:List Nat):Option (D×ab):=(aE (ren (idxOf sel) depth) args).bind (GJ H call f raw (pins H (bj H keep 0 ds)) sel)
def oq(n:Nat)(cs:List D):List Nat:=cs.flatMap (ids n)
def GL(args:List D):Option (D×ab):=GK H call f raw keep ds args (reach H 3 (bc [] (oq 8 args)))
def yF:Option (D×ab):=(jg H keep 0 ds).bind (GL H call f raw keep ds)
theorem BX:yC H call f raw keep ds=yF H call f raw keep ds:=(rfl)
@[go_sem] theorem BZ : yF H call f raw keep ds = (jg H keep 0 ds).bind (GL H call f raw keep ds) := (rfl)
@[go_sem] theorem B0 (args : List D) : GL H call f raw keep ds args = GK H call f raw keep ds args (reach H 3 (bc [] (oq 8 args))) := (rfl)
@[go_sem] theorem B1 (args : List D) (sel : List Nat) : GK H call f raw keep ds args sel = (aE (ren (idxOf sel) 8) args).bind (GJ H call f raw (pins H (bj H keep 0 ds)) sel) := (rfl)
@[go_sem] theorem B2 (H1 : ab) (sel : List Nat) (args : List D) : GJ H call f raw H1 sel args = (pick H1 sel).bind (GH H call f raw args H1 sel) := (rfl)
@[go_sem] theorem B3 (args : List D) (H1 : ab) (sel : List Nat) (hs : ab) : GH H call f raw args H1 sel hs = (aE (aX (idxOf sel)) hs).bind (GF H call f raw args H1 sel) := (rfl)
@[go_sem] theorem B4 (args : List D) (H1 : ab) (sel : List Nat) (hs : ab) : GF H call f raw args H1 sel hs = (call raw f args hs).bind (fD H H1 sel) := (rfl)
def GM(H1:ab)(sel:List Nat)(r:D)(os:ab):Option (D×ab):=some (r,aD H1 sel (os.take sel.length)++os.drop sel.length)
@[go_sem] theorem Sf (H1 : ab) (sel : List Nat) (r : D) (os : ab) : GM H1 sel r os = some (r, aD H1 sel (os.take sel.length) ++ os.drop sel.length) := (rfl)
def GN(H1:ab)(n:Nat)(sel:List Nat)(os:ab)(r:D):Option (D×ab):=(aE (aX (aR sel n)) os).bind (GM H1 sel r)
@[go_sem] theorem Sg (H1 : ab) (n : Nat) (sel : List Nat) (os : ab) (r : D) : GN H1 n sel os r = (aE (aX (aR sel n)) os).bind (GM H1 sel r) := (rfl)
@[go_sem] theorem Si (H1 : ab) (n : Nat) (sel : List Nat) (r : D) (os : ab) : pR H1 n sel (r, os) = (ren (aR sel n) 8 r).bind (GN H1 n sel os) := by
 simp only[pR,depth]
 cases ren (aR sel n) 8 r with
 | none=>rfl
 | some r'=>simp only[aLq,GN];cases aE (aX (aR sel n)) os<;>rfl
@[go_sem] theorem OQ (H1 : ab) (i : Nat) (sel : List Nat) (p : D × ab) : fD H H1 (i :: sel) p = pR H1 H.length (i :: sel) p := (rfl)
@[go_sem] theorem Sj (H1 : ab) (sel : List Nat) (r : D) (o : Obj) (os : ab) : fD H H1 sel (r, o :: os) = pR H1 H.length sel (r, o :: os) := by
 simp[fD]
@[go_sem] theorem Vd (H1 : ab) (k : IntKind) (n : Int) : fD H H1 [] (.t (.int k n), []) = some (.t (.int k n), H) := (rfl)
@[go_sem] theorem Ve (H1 : ab) (b : Bool) : fD H H1 [] (.t (.bool b), []) = some (.t (.bool b), H) := (rfl)
@[go_sem] theorem Sk (H1 : ab) (es : List T) : fD H H1 [] (.t (.sl es), []) = some (.t (.sl es), H1) := by simp [fD, pR, fL, T.scalar, ren, depth, aE, aD]
@[go_sem] theorem OR (H1 : ab) (es : List T) : fD H H1 [] (.t (.agg es), []) = some (.t (.agg es), H1) := by simp [fD, pR, fL, T.scalar, ren, depth, aE, aD]
@[go_sem] theorem OS (H1 : ab) (ds : List D) : fD H H1 [] (.tup ds, []) = if ds.all dL then some (.tup ds, H) else pR H1 H.length [] (.tup ds, []) := by
 simp[fD,fL]
def GO:Option (List T)→Option (D×ab)
 | some ts=>(call raw f (ts.map .t) []).bind (jM H)
 | none=>yF H call f raw [] ds
@[go_sem] theorem KK (ts : List T) : GO H call f raw ds (some ts) = (call raw f (ts.map .t) []).bind (jM H) := (rfl)
@[go_sem] theorem KL : GO H call f raw ds none = yF H call f raw [] ds := (rfl)
@[go_sem] theorem Vf : yC H call f raw [] ds = GO H call f raw ds (eU H ds) := by
 cases h:eU H ds with
 | none=>rfl
 | some ts=>exact yE H call f raw ds ts h
@[go_sem] theorem Xj (k : Nat) : yC H call f raw (k :: keep) ds = yF H call f raw (k :: keep) ds := (rfl)
end
section
variable (H : ab) (keep : List Nat)
@[go_sem] theorem OT (i : Nat) : jg H keep i [] = some [] := (rfl)
def uD(i:Nat):List Nat→Bool
 | []=>false
 | j::r=>eqB i j||uD i r
@[go_sem] theorem Sl (i : Nat) : uD i [] = false := (rfl)
@[go_sem] theorem OU (i j : Nat) (r : List Nat) : uD i (j :: r) = (eqB i j || uD i r) := (rfl)
theorem pS(i:Nat)(l:List Nat):l.contains i=uD i l:=by
 induction l with
 | nil=>rfl
 | cons j r ih=>rw[List.contains_cons,ih];simp only[uD,sT];rw[beq_eq_decide_nat]
where beq_eq_decide_nat {a b:Nat}:(a==b)=decide (a=b):=by rw[Bool.eq_iff_iff];simp
def Vg(d:D):Bool→Option D
 | true=>some d
 | false=>iw H d
@[go_sem] theorem Xk (d : D) : Vg H d true = some d := (rfl)
@[go_sem] theorem Xl (d : D) : Vg H d false = iw H d := (rfl)
def Xm(i:Nat)(r:List D)(x:D):Option (List D):=ea x (jg H keep (i+1) r)
@[go_sem] theorem Vh (i : Nat) (r : List D) (x : D) : Xm H keep i r x = ea x (jg H keep (i + 1) r) := (rfl)
@[go_sem] theorem KM (i : Nat) (d : D) (r : List D) : jg H keep i (d :: r) = (Vg H d (uD i keep)).bind (Xm H keep i r) := by
 simp only[jg,pS]
 cases uD i keep<;>rfl
@[go_sem] theorem AD (i : Nat) : bj H keep i [] = [] := (rfl)
def frK(l:List Nat):Bool→List Nat
 | true=>[]
 | false=>l
@[go_sem] theorem YE (l : List Nat) : frK l true = [] := (rfl)
@[go_sem] theorem YF (l : List Nat) : frK l false = l := (rfl)
@[go_sem] theorem yG (i : Nat) (d : D) (r : List D) : bj H keep i (d :: r) = frK (bH H 8 d) (uD i keep) ++ bj H keep (i + 1) r := by
 simp only[bj,pS]
 cases uD i keep<;>rfl
@[go_sem] theorem Sm (H : ab) : pins H [] = H := (rfl)
@[go_sem] theorem OV (H : ab) (i : Nat) (r : List Nat) : pins H (i :: r) = pins (H.modify i tU) r := (rfl)
def wq(i:Nat):Option Obj→ab
 | some (.arr sz _ ep es)=>H.set i (.arr sz true ep es)
 | _=>H
@[go_sem] theorem OW (i : Nat) (cs : List D) : wq H i (some (.box cs)) = H := (rfl)
@[go_sem] theorem OX (i sz ep : Nat) (pin : Bool) (es : List D) : wq H i (some (.arr sz pin ep es)) = H.set i (.arr sz true ep es) := (rfl)
@[go_sem] theorem KN (i : Nat) : List.modify H i tU = wq H i H[i]? := by
 apply List.ext_getElem?
 intro j
 rw[List.getElem?_modify]
 cases h:H[i]? with
 | none=>
   simp only[wq]
   by_cases e:i=j
   · subst e;rw[h];simp
   · simp[e]
 | some o=>
   have hi:i<H.length:=(aLe.1 h).1
   cases o with
   | box cs=>
     simp only[wq]
     by_cases e:i=j
     · subst e;rw[h];simp[tU]
     · simp[e]
   | arr sz pin ep es=>
     simp only[wq]
     rw[List.getElem?_set]
     by_cases e:i=j
     · subst e;rw[h];simp[tU,hi]
     · simp[e]
section
variable (n : Nat)
@[go_sem] theorem YG (x : T) : ids n (.t x) = [] := by cases n <;> rfl
@[go_sem] theorem Vi : ids n .nil = [] := by cases n <;> rfl
@[go_sem] theorem Sn : ids n .nilp = [] := by cases n <;> rfl
@[go_sem] theorem Vj : ids n .und = [] := by cases n <;> rfl
@[go_sem] theorem Xn (cs : List T) : ids n (.ep cs) = [] := by cases n <;> rfl
@[go_sem] theorem Xo (id off : Nat) : ids n (.bp id off) = [id] := by cases n <;> rfl
@[go_sem] theorem Xp (id ep m i off : Nat) : ids n (.ap id ep m i off) = [id] := by cases n <;> rfl
@[go_sem] theorem Vk (id ep m : Nat) : ids n (.ref id ep m) = [id] := by cases n <;> rfl
@[go_sem] theorem Vl (id ep m lo hi : Nat) : ids n (.sub id ep m lo hi) = [id] := by cases n <;> rfl
@[go_sem] theorem Vm (cs : List D) : ids (n + 1) (.agg cs) = oq n cs := (rfl)
@[go_sem] theorem Vn (cs : List D) : ids (n + 1) (.tup cs) = oq n cs := (rfl)
@[go_sem] theorem Xq (f : Nat) (cs : List D) : ids (n + 1) (.fn f cs) = oq n cs := (rfl)
@[go_sem] theorem Sp : oq n [] = [] := (rfl)
@[go_sem] theorem OY (d : D) (r : List D) : oq n (d :: r) = ids n d ++ oq n r := (rfl)
@[go_sem] theorem yH (ts : List T) : oq n (ts.map .t) = [] := yD ts n
@[go_sem] theorem Sq (a b : List D) : oq n (a ++ b) = oq n a ++ oq n b := by simp [oq]
@[go_sem] theorem Sr (m : Nat) (x : T) : oq n (List.replicate m (.t x)) = [] := by
 have:List.replicate m (D.t x)=(List.replicate m x).map .t:=by simp
 rw[this,yH]
end
def yI(sel:List Nat)(i:Nat):Bool→List Nat
 | true=>sel
 | false=>sel++[i]
@[go_sem] theorem Ss (sel : List Nat) (i : Nat) : yI sel i true = sel := (rfl)
@[go_sem] theorem Su (sel : List Nat) (i : Nat) : yI sel i false = sel ++ [i] := (rfl)
@[go_sem] theorem KO (sel : List Nat) : bc sel [] = sel := (rfl)
@[go_sem] theorem GP (sel : List Nat) (i : Nat) (r : List Nat) : bc sel (i :: r) = bc (yI sel i (uD i sel)) r := by
 simp only[bc,pS]
 cases uD i sel<;>rfl
def uE:Option Obj→List Nat
 | some (.box cs)=>oq 8 cs
 | some (.arr _ _ _ es)=>oq 8 es
 | none=>[]
@[go_sem] theorem KP (cs : List D) : uE (some (.box cs)) = oq 8 cs := (rfl)
@[go_sem] theorem KQ (sz ep : Nat) (pin : Bool) (es : List D) : uE (some (.arr sz pin ep es)) = oq 8 es := (rfl)
@[go_sem] theorem OZ : dU H [] = [] := (rfl)
@[go_sem] theorem KR (i : Nat) (r : List Nat) : dU H (i :: r) = uE H[i]? ++ dU H r := by
 simp only[dU,List.flatMap_cons]
 congr 1
 cases H[i]? with
 | none=>rfl
 | some o=>cases o<;>rfl
@[go_sem] theorem Vo (sel : List Nat) : reach H 0 sel = sel := (rfl)
@[go_sem] theorem Vp (n : Nat) (sel : List Nat) : reach H (n + 1) sel = reach H n (bc sel (dU H sel)) := (rfl)
@[go_sem] theorem Sv : pick H [] = some [] := (rfl)
def O0(r:List Nat)(o:Obj):Option ab:=ea o (pick H r)
@[go_sem] theorem Sw (r : List Nat) (o : Obj) : O0 H r o = ea o (pick H r) := (rfl)
@[go_sem] theorem O1 (i : Nat) (r : List Nat) : pick H (i :: r) = H[i]?.bind (O0 H r) := (rfl)
end
section
variable (f : Nat → Option Nat) (n : Nat)
@[go_sem] theorem Vq (x : T) : ren f n (.t x) = some (.t x) := by cases n <;> rfl
@[go_sem] theorem Vr : ren f n .nil = some .nil := by cases n <;> rfl
@[go_sem] theorem Sx : ren f n .nilp = some .nilp := by cases n <;> rfl
@[go_sem] theorem Vs : ren f n .und = some .und := by cases n <;> rfl
@[go_sem] theorem Xr (cs : List T) : ren f n (.ep cs) = some (.ep cs) := by cases n <;> rfl
def Xs(off:Nat)(i:Nat):D:= .bp i off
@[go_sem] theorem Vt (off i : Nat) : Xs off i = .bp i off := (rfl)
@[go_sem] theorem Xt (id off : Nat) : ren f n (.bp id off) = (f id).map (Xs off) := by cases n <;> rfl
def Xu(ep m i off:Nat)(j:Nat):D:= .ap j ep m i off
@[go_sem] theorem Vu (ep m i off j : Nat) : Xu ep m i off j = .ap j ep m i off := (rfl)
@[go_sem] theorem Xv (id ep m i off : Nat) : ren f n (.ap id ep m i off) = (f id).map (Xu ep m i off) := by cases n <;> rfl
def O2(ep m:Nat)(j:Nat):D:= .ref j ep m
@[go_sem] theorem Sy (ep m j : Nat) : O2 ep m j = .ref j ep m := (rfl)
@[go_sem] theorem Vv (id ep m : Nat) : ren f n (.ref id ep m) = (f id).map (O2 ep m) := by cases n <;> rfl
def O3(ep m lo hi:Nat)(j:Nat):D:= .sub j ep m lo hi
@[go_sem] theorem Sz (ep m lo hi j : Nat) : O3 ep m lo hi j = .sub j ep m lo hi := (rfl)
@[go_sem] theorem Vw (id ep m lo hi : Nat) : ren f n (.sub id ep m lo hi) = (f id).map (O3 ep m lo hi) := by cases n <;> rfl
@[go_sem] theorem Xw (g : Nat) (cs : List D) : ren f (n + 1) (.fn g cs) = (aE (ren f n) cs).map (.fn g) := (rfl)
@[go_sem] theorem Vx (cs : List D) : ren f (n + 1) (.agg cs) = (aE (ren f n) cs).map .agg := (rfl)
@[go_sem] theorem Vy (cs : List D) : ren f (n + 1) (.tup cs) = (aE (ren f n) cs).map .tup := (rfl)
@[go_sem] theorem wt (ts : List T) : aE (ren f n) (ts.map .t) = some (ts.map .t) := by
 induction ts with
 | nil=>rfl
 | cons t ts ih=>rw[List.map_cons,yz,Vq,aLq,Gb,ih];rfl
@[go_sem] theorem DB (m : Nat) (x : T) : aE (ren f n) (List.replicate m (.t x)) = some (List.replicate m (.t x)) := by
 have:List.replicate m (D.t x)=(List.replicate m x).map .t:=by simp
 rw[this,wt]
@[go_sem] theorem KS (cs : List D) : aX f (.box cs) = (aE (ren f 8) cs).map .box := (rfl)
@[go_sem] theorem KT (sz ep : Nat) (pin : Bool) (es : List D) : aX f (.arr sz pin ep es) = (aE (ren f 8) es).map (.arr sz pin ep) := (rfl)
end
def KU(x:Option Nat):Bool→Option Nat
 | true=>some 0
 | false=>x.map (· +1)
@[go_sem] theorem Xx (x : Option Nat) : KU x true = some 0 := (rfl)
@[go_sem] theorem Xy (k : Nat) : KU (some k) false = some (k + 1) := (rfl)
@[go_sem] theorem Xz : KU none false = none := (rfl)
@[go_sem] theorem idxOf_nil (i : Nat) : idxOf [] i = none := (rfl)
@[go_sem] theorem idxOf_cons (j i : Nat) (r : List Nat) : idxOf (j :: r) i = KU (idxOf r i) (eqB j i) := by
 simp only[idxOf,sT]
 by_cases h:j=i
 · simp[h,KU]
 · simp[h,KU]
@[go_sem] theorem KV (n i : Nat) : aR [] n i = some (n + i) := by simp [aR]
@[go_sem] theorem SA (j n : Nat) (r : List Nat) : aR (j :: r) n 0 = some j := by simp [aR]
@[go_sem] theorem SB (j n i : Nat) (r : List Nat) : aR (j :: r) n (i + 1) = aR r n i := by
 simp only[aR,List.length_cons,Nat.add_lt_add_iff_right,List.getElem?_cons_succ,Nat.add_sub_add_right]
@[go_sem] theorem GQ {α : Type} (H os : List α) : aD H [] os = H := by cases os <;> rfl
@[go_sem] theorem DC {α : Type} (H : List α) (i : Nat) (r : List Nat) (o : α) (os : List α) : aD H (i :: r) (o :: os) = aD (H.set i o) r os := (rfl)
def lbP(sz:Nat)(p:List D×ab):List D×ab:=(p.1,.arr sz false 0 []::p.2)
@[go_sem] theorem XA (sz : Nat) (cs : List D) (os : ab) : lbP sz (cs, os) = (cs, .arr sz false 0 [] :: os) := (rfl)
def lbC(base:Nat)(cs:List D)(off sz:Nat)(r:List (Nat×Nat)):Option D→List D×ab
 | some .nil=>lbP sz (aI (base+1) (cs.set off (.ref base 0 0)) r)
 | _=>aI base cs r
@[go_sem] theorem Vz (base : Nat) (cs : List D) (off sz : Nat) (r : List (Nat × Nat)) : lbC base cs off sz r (some .nil) = lbP sz (aI (base + 1) (cs.set off (.ref base 0 0)) r) := (rfl)
@[go_sem] theorem YH (base : Nat) (cs : List D) (off sz : Nat) (r : List (Nat × Nat)) (x : T) : lbC base cs off sz r (some (.t x)) = aI base cs r := (rfl)
@[go_sem] theorem VA (base : Nat) (cs : List D) (off sz : Nat) (r : List (Nat × Nat)) (a b c : Nat) : lbC base cs off sz r (some (.ref a b c)) = aI base cs r := (rfl)
@[go_sem] theorem DD (base : Nat) (cs : List D) (off sz : Nat) (r : List (Nat × Nat)) : aI base cs ((off, sz) :: r) = lbC base cs off sz r cs[off]? := by
 simp only[aI,lbC]
 split<;>split<;>simp_all [lbP]
def lvP(H:ab)(id:Nat)(p:List D×ab):Option (D×ab):=some (.tup [],H.set id (.box p.1)++p.2)
@[go_sem] theorem XB (H : ab) (id : Nat) (cs : List D) (os : ab) : lvP H id (cs, os) = some (.tup [], H.set id (.box cs) ++ os) := (rfl)
def lvB(H:ab)(id:Nat)(l:List (Nat×Nat)):Option Obj→Option (D×ab)
 | some (.box cs)=>lvP H id (aI H.length cs l)
 | _=>none
@[go_sem] theorem XC (H : ab) (id : Nat) (l : List (Nat × Nat)) (cs : List D) : lvB H id l (some (.box cs)) = lvP H id (aI H.length cs l) := (rfl)
@[go_sem] theorem GR (H : ab) (id : Nat) (x : Nat × Nat) (r : List (Nat × Nat)) : oX H id (x :: r) = lvB H id (x :: r) H[id]? := by
 simp only[oX,gE]
 generalize H[id]?=o
 rcases o with _ | (cs | _)
 · rfl
 · rfl
 · rfl
section
variable (H : ab)
def klE(n:Nat)(sel new:List Nat)(os:ab)(q:List Nat×ab):Option (List Nat×ab):=some (new++q.1,os++q.2)
@[go_sem] theorem XD (n : Nat) (sel new : List Nat) (os : ab) (a : List Nat) (b : ab) : klE n sel new os (a, b) = some (new ++ a, os ++ b) := (rfl)
def klD(n:Nat)(sel new:List Nat)(os:ab):Option (List Nat×ab):=(eh H n (sel++new) (dU H new)).bind (klE n sel new os)
@[go_sem] theorem XE (n : Nat) (sel new : List Nat) (os : ab) : klD H n sel new os = (eh H n (sel ++ new) (dU H new)).bind (klE n sel new os) := (rfl)
def mu(sel:List Nat):List Nat→Bool
 | []=>true
 | i::r=> !uD i sel&&mu sel r
@[go_sem] theorem KW (sel : List Nat) : mu sel [] = true := (rfl)
@[go_sem] theorem GS (sel : List Nat) (i : Nat) (r : List Nat) : mu sel (i :: r) = (!uD i sel && mu sel r) := (rfl)
theorem rj(sel l:List Nat):l.all (fun i=> !sel.contains i)=mu sel l:=by
 induction l with
 | nil=>rfl
 | cons i r ih=>rw[List.all_cons,ih,pS];rfl
def klC(n:Nat)(sel new:List Nat)(os:ab):Option (List Nat×ab):=
 (if n=0 then(if(os.flatMap fun o=>o.ds.flatMap (bH H depth)).all (fun i=> !(sel++new).contains i)then aE (bz H) os else none)else some os).bind (klD H n sel new)
def ky:ab→List Nat
 | []=>[]
 | .box cs::r=>jj H 8 cs++ky r
 | .arr _ _ _ es::r=>jj H 8 es++ky r
@[go_sem] theorem KX : ky H [] = [] := (rfl)
@[go_sem] theorem KY (cs : List D) (r : ab) : ky H (.box cs :: r) = jj H 8 cs ++ ky H r := (rfl)
@[go_sem] theorem KZ (sz ep : Nat) (pin : Bool) (es : List D) (r : ab) : ky H (.arr sz pin ep es :: r) = jj H 8 es ++ ky H r := (rfl)
theorem yJ(os:ab):(os.flatMap fun o=>o.ds.flatMap (bH H depth))=ky H os:=by
 induction os with
 | nil=>rfl
 | cons o r ih=>rw[List.flatMap_cons,ih];cases o<;>rfl
@[go_sem] theorem YI (sel new : List Nat) (os : ab) : klC H 0 sel new os = (if mu (sel ++ new) (ky H os) = true then aE (bz H) os else none).bind (klD H 0 sel new) := by
 simp only[klC,yJ,rj,if_true]
@[go_sem] theorem YJ (n : Nat) (sel new : List Nat) (os : ab) : klC H (n + 1) sel new os = klD H (n + 1) sel new os := by
 simp[klC]
def klN(n:Nat)(sel new:List Nat):Option (List Nat×ab):=(pick H new).bind (klC H n sel new)
@[go_sem] theorem XF (n : Nat) (sel new : List Nat) : klN H n sel new = (pick H new).bind (klC H n sel new) := (rfl)
@[go_sem] theorem SC (sel front : List Nat) : eh H 0 sel front = some ([], []) := (rfl)
@[go_sem] theorem SD (n : Nat) (sel front : List Nat) : eh H (n + 1) sel front = klN H n sel ((bc sel front).drop sel.length) := by
 simp only[eh,klN]
 generalize (bc sel front).drop sel.length=new
 cases pick H new with
 | none=>rfl
 | some os=>
   simp only[aLq,klC]
   congr 1
   funext os'
   simp only[klD]
   cases eh H n (sel++new) (dU H new)<;>rfl
@[go_sem] theorem B5 (cs : List D) : bz H (.box cs) = (aE (iw H) cs).map .box := (rfl)
@[go_sem] theorem pT (sz ep : Nat) (pin : Bool) (ts : List T) : bz H (.arr sz pin ep (ts.map .t)) = some (.arr sz pin ep (ts.map .t)) := by
 simp only[bz,kx,aLw]
@[go_sem] theorem B6 (sz ep : Nat) (pin : Bool) : bz H (.arr sz pin ep []) = some (.arr sz pin ep []) := (rfl)
@[go_sem] theorem B7 (sz ep : Nat) (pin : Bool) (m : Nat) (x : T) : bz H (.arr sz pin ep (List.replicate m (.t x))) = some (.arr sz pin ep (List.replicate m (.t x))) := by
 have:List.replicate m (D.t x)=(List.replicate m x).map .t:=by simp
 rw[this,pT]
def VB(k raw:Nat)(H:ab)(ds rs:List D)(q:List Nat×ab):Option (D×ab):=
 if mu (List.range k++q.1) (cM H raw ds)=true then
  (aE (ren (idxOf (List.range k++q.1)) depth) rs).bind fun rs'=>(aE (aX (idxOf (List.range k++q.1))) (H.take k++q.2)).map fun hs'=>(j3 rs',hs')
 else none
def yK(sel:List Nat)(H2:ab)(rs':List D):Option (D×ab):=(aE (aX (idxOf sel)) H2).bind (finT3 rs')
where finT3 (rs':List D) (hs:ab):Option (D×ab):=some (j3 rs',hs)
@[go_sem] theorem SE (rs' : List D) (hs : ab) : yK.finT3 rs' hs = some (j3 rs', hs) := (rfl)
@[go_sem] theorem SF (sel : List Nat) (H2 : ab) (rs' : List D) : yK sel H2 rs' = (aE (aX (idxOf sel)) H2).bind (yK.finT3 rs') := (rfl)
@[go_sem] theorem VC (k raw : Nat) (ds rs : List D) (sel : List Nat) (os : ab) : VB k raw H ds rs (sel, os) =
 if mu (List.range k++sel) (cM H raw ds)=true then(aE (ren (idxOf (List.range k++sel)) 8) rs).bind (yK (List.range k++sel) (H.take k++os))else none:=by
 simp only[VB,depth]
 split
 · cases aE (ren (idxOf (List.range k++sel)) 8) rs with
   | none=>rfl
   | some rs'=>simp only[aLq,yK];cases aE (aX (idxOf (List.range k++sel))) (H.take k++os)<;>rfl
 · rfl
@[go_sem] theorem VD (k raw : Nat) (ds rs : List D) : Se k raw H ds rs = (eh H (max raw 1) (List.range k) (oq 8 rs ++ dU H (List.range k))).bind (VB k raw H ds rs) := by
 simp only[Se,rj,oq,depth];rfl
@[go_sem] theorem K0 (k raw : Nat) (ds rs : List D) : KI k raw H ds rs false = Se k raw H ds rs := (rfl)
@[go_sem] theorem K5 (k raw : Nat) (ds : List D) : finish k (raw + 1) H ds = OM k (raw + 1) H ds ds := by
 simp only[finish,Nat.add_one_ne_zero,if_false,aLq,eb,uC,OM,KI]
 show(if(cz k 8 ds&&bR k (H.take k))=true then _ else _)=_
 cases (cz k 8 ds&&bR k (H.take k))<;>rfl
@[go_sem] theorem GU (raw : Nat) (ds : List D) : cM H (raw + 1) ds = [] := by simp [cM]
@[go_sem] theorem SG : max 0 1 = 1 := (rfl)
@[go_sem] theorem VE (r : Nat) : max (r + 1) 1 = r + 1 := by omega
@[go_sem] theorem K6 : List.range 0 = [] := (rfl)
@[go_sem] theorem K7 : List.range 1 = [0] := (rfl)
@[go_sem] theorem K8 : List.range 2 = [0, 1] := (rfl)
@[go_sem] theorem K9 : List.range 3 = [0, 1, 2] := (rfl)
@[go_sem] theorem La : List.range 4 = [0, 1, 2, 3] := (rfl)
end
theorem uF{α:Type}(f:α→T)(l:List α)(i:Nat)(x:α)(y:D)(h:y= .t (f x)):((l.map f).map D.t).set i y=((l.set i x).map f).map D.t:=by
 rw[h,List.map_map,List.map_map]
 exact(List.map_set (f:=D.t ∘ f)).symm
@[go_sem] theorem GV (l : List Int) (i : Nat) (k : IntKind) (x : Int) : ((l.map (T.int k)).map D.t).set i (.t (.int k x)) = ((l.set i x).map (T.int k)).map D.t := uF _ l i x _ rfl
@[go_sem] theorem SI (l : List Bool) (i : Nat) (x : Bool) : ((l.map T.bool).map D.t).set i (.t (.bool x)) = ((l.set i x).map T.bool).map D.t := uF _ l i x _ rfl
end Go.Ev
namespace Go.Ev
class Lib where
 fs:Nat→Option Fn
end Go.Ev
namespace Go.Ev.K
abbrev u(x:O):R:={ o:=x}
abbrev w(n:Nat)(x:O):R:={ o:=x,d:=some n}
abbrev y(n:Nat)(b:Bool)(x:O):R:={ o:=x,g:=some (n,b)}
abbrev m(x:X):R:={ o:= .mv x}
abbrev g(x:X):R:={ o:= .ld x 1 false}
abbrev h(n:Nat)(x:X):R:={ o:= .ld x n true}
abbrev f(n:Nat)(x:X):R:={ o:= .fa x n}
abbrev a(n:Nat)(x z:X):R:={ o:= .ia x z n}
abbrev l0:X:= .l 0
abbrev l1:X:= .l 1
abbrev l2:X:= .l 2
abbrev l3:X:= .l 3
abbrev l4:X:= .l 4
abbrev l5:X:= .l 5
abbrev l6:X:= .l 6
abbrev l7:X:= .l 7
abbrev l8:X:= .l 8
abbrev l9:X:= .l 9
abbrev l10:X:= .l 10
abbrev l11:X:= .l 11
abbrev v0:X:= .v 0
abbrev v1:X:= .v 1
abbrev v2:X:= .v 2
abbrev v3:X:= .v 3
abbrev v4:X:= .v 4
abbrev v5:X:= .v 5
abbrev v6:X:= .v 6
abbrev v7:X:= .v 7
abbrev v8:X:= .v 8
abbrev v9:X:= .v 9
abbrev v10:X:= .v 10
abbrev v11:X:= .v 11
abbrev v12:X:= .v 12
abbrev v13:X:= .v 13
abbrev v14:X:= .v 14
abbrev v15:X:= .v 15
abbrev v16:X:= .v 16
abbrev v17:X:= .v 17
abbrev v18:X:= .v 18
abbrev v19:X:= .v 19
abbrev v20:X:= .v 20
abbrev v21:X:= .v 21
abbrev v22:X:= .v 22
abbrev v23:X:= .v 23
end Go.Ev.K
namespace Go.Ev.K
abbrev q(a:List R)(p:List (Nat×Nat))(c:C):C:= .seq (.reg a p) c
abbrev z0:D:= .t (.int .i64 (0))
abbrev z1:D:= .t (.bool false)
abbrev x(n:Nat)(z:X):R:={ o:= .mv z,d:=some n}
abbrev e(n:Nat)(b:Bool)(z:X):R:={ o:= .mv z,g:=some (n,b)}
abbrev i(n:Nat)(b:Bool)(z:X):R:={ o:= .ld z 1 false,g:=some (n,b)}
end Go.Ev.K
namespace Go.Ev.N
def sV:Nat:=0
def cJ:Nat:=1
def GW:Nat:=2
def dr:Nat:=3
def AE:Nat:=4
def Lb:Nat:=5
def xj:Nat:=6
def yL:Nat:=7
def xk:Nat:=8
def av:Nat:=9
def br:Nat:=10
def wu:Nat:=11
def dt:Nat:=12
def AF:Nat:=13
def yM:Nat:=14
def pU:Nat:=15
def AG:Nat:=16
def GX:Nat:=17
def DE:Nat:=18
def GY:Nat:=19
def AH:Nat:=20
def O4:Nat:=21
def DF:Nat:=22
def dA:Nat:=23
def DG:Nat:=24
def yN:Nat:=25
def AI:Nat:=26
def AJ:Nat:=27
def GZ:Nat:=28
def G0:Nat:=29
def O5:Nat:=30
def G3:Nat:=31
def Lc:Nat:=32
def G4:Nat:=33
def DH:Nat:=34
def DI:Nat:=35
def G5:Nat:=36
def Ld:Nat:=37
def G6:Nat:=38
def yO:Nat:=39
def Le:Nat:=40
def G7:Nat:=41
def Lf:Nat:=42
def G8:Nat:=43
def DJ:Nat:=44
def O6:Nat:=45
def DK:Nat:=46
def G9:Nat:=47
def AK:Nat:=48
def nU:Nat:=49
def wx:Nat:=50
def pV:Nat:=51
def xm:Nat:=52
def AL:Nat:=53
def Lg:Nat:=54
def Lh:Nat:=55
def DL:Nat:=56
def Hc:Nat:=57
def Hd:Nat:=58
def Li:Nat:=59
def He:Nat:=60
def Lj:Nat:=61
def AM:Nat:=62
def Lk:Nat:=63
def Hf:Nat:=64
def Hg:Nat:=65
def oZ:Nat:=66
def rQ:Nat:=67
def xn:Nat:=68
def iJ:Nat:=69
def uG:Nat:=70
def dQ:Nat:=71
def Hh:Nat:=72
def Hi:Nat:=73
def Ll:Nat:=74
def jx:Nat:=75
def DM:Nat:=76
def Lm:Nat:=77
end Go.Ev.N
namespace Go.Ev.K
open Go.Ev
def cJ:Fn:= { dC:=1,vars:=[0,2],body:=(q [x 1 (.b false)] [] (q [m v0,u (.ln l0),u (.bin .leq l0 (.i 400)),x 1 l0] [] .ret)),res:=[(1,none)]}
def dr:Fn:= { dC:=1,vars:=[0,2],body:=(q [w 1 (.mv (.c (.nilp)))] [] (q [m v0,u (.bd [.nil,z0] [(0,1,.l 0)]),u (.bx l0 2),x 1 l0] [] .ret)),res:=[(1,none)]}
def av:Fn:= { dC:=2,vars:=[0,1,4],body:=(q [x 2 (.i 0)] [] (.seq (.ite [m v0,u (.nc l0),f 1 l0,g l0,m v0,u (.nc l0),f 0 l0,g l0,u (.ln l0),u (.bin .geq l5 l0)] [] 0 (q [x 2 (.i 0)] [] .ret) .skip) (q [m v0,u (.nc l0),f 1 l0,g l0,u (.bin .add l0 (.i 1)),u (.nc l4),f 1 l0,u (.st l0 l2 1 [])] [] (q [m v0,u (.nc l0),f 0 l0,g l0,m v0,u (.nc l0),f 1 l0,g l0,u (.bin .sub l0 (.i 1)),a 1 l5 l0,g l0,m v1,u (.ca N.dA 0 [] [.l 1,.l 0]),x 2 l0] [] .ret)))),res:=[(2,none)]}
def br:Fn:= { dC:=2,vars:=[0,1,4],body:=(q [x 2 (.i 0)] [] (q [m v1,m v0,m v1,u (.ln l0),u (.ca N.av 0 [] [.l 2,.l 0]),a 1 l4 l0,g l0,x 2 l0] [] .ret)),res:=[(2,none)]}
def eV:C:= (.seq (.ite [m v3,m v0,u (.ln l0),u (.bin .lss l2 l0)] [] 0 .skip (.exit 0)) (.seq (.blk 1 (.ite [m v0,m v3,a 1 l1 l0,g l0,m v1,u (.bin .eql l1 l0)] [] 0 (q [x 2 (.b true)] [] .ret) .skip)) (.reg [m v3,u (.bin .add l0 (.i 1)),x 3 l0] [])))
def mw:C:= .loop true [2] K.eV
def dt:Fn:= { dC:=2,vars:=[0,1,4,5],body:=(q [x 2 (.b false)] [] (.seq (q [x 3 (.i 0)] [] (.blk 0 K.mw)) (q [x 2 (.b false)] [] .ret))),res:=[(2,none)]}
def dA:Fn:= { dC:=2,vars:=[0,1,4],body:=(q [x 2 (.i 0)] [] (.seq (.ite [m v1,u (.bin .lss l0 (.i 1))] [] 0 (q [x 2 (.i 0)] [] .ret) .skip) (q [m v0,m v1,u (.bin .rem l1 l0),x 0 l0] [] (.seq (.ite [m v0,u (.bin .lss l0 (.i 0))] [] 0 (.reg [m v0,m v1,u (.bin .add l1 l0),x 0 l0] []) .skip) (q [m v0,x 2 l0] [] .ret))))),res:=[(2,none)]}
end Go.Ev.K
namespace Go.Ev
class aL [Lib]:Prop where
 iK:Lib.fs N.cJ=some K.cJ
 jN:Lib.fs N.dr=some K.dr
 eI:Lib.fs N.av=some K.av
 fP:Lib.fs N.br=some K.br
 jO:Lib.fs N.dt=some K.dt
 lC:Lib.fs N.dA=some K.dA
namespace K
variable [Lib] [aL]
theorem iK:Lib.fs N.cJ=some K.cJ:=aL.iK
theorem jN:Lib.fs N.dr=some K.dr:=aL.jN
theorem eI:Lib.fs N.av=some K.av:=aL.eI
theorem fP:Lib.fs N.br=some K.br:=aL.fP
theorem jO:Lib.fs N.dt=some K.dt:=aL.jO
theorem lC:Lib.fs N.dA=some K.dA:=aL.lC
end K
end Go.Ev
namespace Go.Ev.K
open Go.Ev
def dQ:Fn:= { dC:=3,vars:=[0,1,2,6],body:=(q [x 3 (.b false)] [] (q [m v0,m v1,u (.bin .geq l1 l0),m l0,e 0 true v0,e 1 true v2,y 2 true (.bin .leq l1 l0),u (.pk l3 l0 (.b false)),x 3 l0] [] .ret)),res:=[(3,none)]}
end Go.Ev.K
namespace Go.Ev
class aN [Lib]:Prop where
 lD:Lib.fs N.dQ=some K.dQ
namespace K
variable [Lib] [aN]
theorem lD:Lib.fs N.dQ=some K.dQ:=aN.lD
end K
end Go.Ev
namespace Go.Ev
open Go
variable [Lib]
noncomputable def bV:ak:=fh Lib.fs
theorem bS{raw f:Nat}{args:List D}{H:ab}{fn:Fn}{r:D×ab}(hf:Lib.fs f=some fn)(hn:fn.dC=args.length)
 (h:(exS bV fn.body ⟨jq args fn.vars,H⟩).bind (Q7 fn.res H.length raw)=some r) (h0:fn.prim=[]:=by rfl):bV raw f args H=some r:=FW hf hn h h0
theorem rm{raw f:Nat}{args:List D}{H:ab}{fn:Fn}{r:D×ab}(hf:Lib.fs f=some fn)(h0:fn.prim≠[])(h:kW fn.prim args H=some r):bV raw f args H=some r:=vX hf h0 h
theorem ec{gc:Bool}{dead:List Nat}{c:C}{vs:List D}{H:ab}(s:Nat→St)(n:Nat){e:Ex}{st:St}
 (h0:(⟨eE dead vs,H⟩:St)=s 0) (h:∀j,j<n→gX gc dead (s j).H.length (exS bV c (s j))=some (s (j+1)))
 (he:exS bV c (s n)=some (e,st)) (hn:e≠ .normal):exS bV (.loop gc dead c) ⟨vs,H⟩=some (e,st):=by
 show ji gc dead (exS bV c) ⟨eE dead vs,H⟩=_
 rw[h0]
 exact pQ s n h (eY he hn)
class Dat (α:Type) where
 dflt:α
instance : Dat Int := ⟨0⟩
instance : Dat Nat := ⟨0⟩
instance : Dat Bool := ⟨false⟩
instance {α : Type} : Dat (List α) := ⟨[]⟩
def nth{α:Type} [Dat α](l:List α)(j:Nat):α:=l.getD j Dat.dflt
theorem mR{α:Type} [Dat α]{l:List α}{j:Nat}(h:j<l.length):l[j]?=some (nth l j):=by simp[nth,h]
theorem cO{α β:Type} [Dat α](f:α→β){l:List α}{j:Nat}(h:j<l.length):(l.map f)[j]?=some (f (nth l j)):=by rw[aLn,mR h];rfl
theorem pW{α β γ:Type} [Dat α](f:β→γ)(g:α→β){l:List α}{j:Nat}(h:j<l.length):((l.map g).map f)[j]?=some (f (g (nth l j))):=by rw[aLn,cO g h];rfl
theorem dE{α:Type} [Dat α]{l:List α}{j:Nat}(h:j<l.length):nth l j∈l:=aLd (mR h)
theorem iL{α:Type} [Dat α]{l:List α}{j:Nat}{x:α}(h:l[j]?=some x):nth l j=x:=by simp[nth,h]
theorem pX{α:Type} [Dat α]{l:List α}{j:Nat}(h:j<l.length):l.take (j+1)=l.take j++[nth l j]:=by
 rw[List.take_succ_eq_append_getElem h];simp[nth,h]
theorem VF{a b:Int}(h:a<b):(a<b)=True:=by simp[h]
theorem VG{a b:Int}(h:b≤a):(a<b)=False:=by simp[Int.not_lt.2 h]
theorem VH{a b:Int}(h:a≤b):(a≤b)=True:=by simp[h]
theorem VI{a b:Int}(h:b<a):(a≤b)=False:=by simp[Int.not_le.2 h]
theorem VJ{a b:Int}(h:a=b):(a=b)=True:=by simp[h]
theorem VK{a b:Int}(h:a≠b):(a=b)=False:=by simp[h]
theorem VL{a b:Nat}(h:a<b):(a<b)=True:=by simp[h]
theorem VM{a b:Nat}(h:b≤a):(a<b)=False:=by simp[Nat.not_lt.2 h]
theorem VN{a b:Nat}(h:a≤b):(a≤b)=True:=by simp[h]
theorem VO{a b:Nat}(h:b<a):(a≤b)=False:=by simp[Nat.not_le.2 h]
theorem VP{a b:Nat}(h:a=b):(a=b)=True:=by simp[h]
theorem VQ{a b:Nat}(h:a≠b):(a=b)=False:=by simp[h]
attribute [go_sem] VP VQ VF VG VH VI VJ VK VL VM VN VO c9 cO pW Ge
@[go_sem] theorem Ln (a b : Nat) : ((a + b : Nat) : Int) = (a : Int) + (b : Int) := (rfl)
@[go_sem] theorem Lo : ((1 : Nat) : Int) = 1 := (rfl)
@[go_sem] theorem Hj : ((0 : Nat) : Int) = 0 := (rfl)
@[go_sem] theorem O7 (a b : Int) : a + b - b = a := Int.add_sub_cancel a b
@[go_sem] theorem DN : (0 : Int).toNat = 0 := (rfl)
@[go_sem] theorem Hk (n : Nat) : (n : Int).toNat = n := (rfl)
@[go_sem] theorem Hl (n : Nat) : ((n : Int) + 1).toNat = n + 1 := (rfl)
@[go_sem] theorem Hm (a : Int) : 0 + a = a := Int.zero_add a
@[go_sem] theorem Hn (a : Int) : a + 0 = a := Int.add_zero a
@[go_sem] theorem Ho (a : Int) : a - 0 = a := Int.sub_zero a
abbrev tI(n:Int):T:= .int .i64 n
abbrev tL(l:List Int):T:= .sl (l.map (.int .i64))
@[go_sem] theorem B8 (H : ab) (n : Nat) (ts : List T) (x : T) : aE (frz H n) (ts.map .t ++ [.t x]) = some (ts ++ [x]) := by
 have:ts.map D.t++[.t x]=(ts++[x]).map .t:=by simp
 rw[this,wa]
@[go_sem] theorem DO {α β : Type} (f : α → β) (a b : List α) : (a ++ b).map f = a.map f ++ b.map f := List.map_append
end Go.Ev
namespace Go.Ev
open Go
variable [Lib] [aL] [aN]
theorem i7{gc:Bool}{dead:List Nat}{c:C}{vs:List D}{H:ab}(s:Nat→St)(n:Nat)(p:Nat→Bool)(e:Nat→Ex×St)(eN:Ex×St)
 (h0:(⟨eE dead vs,H⟩:St)=s 0) (hs:∀j,j<n→p j=false→gX gc dead (s j).H.length (exS bV c (s j))=some (s (j+1)))
 (he:∀j,j<n→p j=true→exS bV c (s j)=some (e j)∧(e j).1≠ .normal) (hN:exS bV c (s n)=some eN) (hn:eN.1≠ .normal):
 exS bV (.loop gc dead c) ⟨vs,H⟩=some (match (List.range n).find? p with | some j=>e j | none=>eN):=by
 show ji gc dead (exS bV c) ⟨eE dead vs,H⟩=_
 rw[h0]
 cases hf:(List.range n).find? p with
 | none=>
   refine pQ s n (fun j hj=>hs j hj ?_) (eY hN hn)
   have:=List.find?_eq_none.1 hf j (aLu.2 hj)
   simpa using this
 | some k=>
   obtain⟨h1,as,bs,h2,h3⟩:=List.find?_eq_some_iff_append.1 hf
   have hk:k<n:=aLu.1 (List.mem_of_find?_eq_some hf)
   have hlt:∀j,j<k→p j=false:=by
    intro j hj
    have hlen:as.length=k:=by
     have h4:(List.range n)[as.length]?=some k:=by rw[h2];simp
     have h5:as.length<n:=by
      have:=congrArg List.length h2;simp at this;omega
     rw[aLp h5]at h4
     exact Option.some.inj h4
    have:j∈as:=by
     have h6:(List.range n)[j]?=some j:=aLp (by omega)
     rw[h2,aLg (by omega)]at h6
     exact aLd h6
    simpa using h3 j this
   obtain⟨k1,k2⟩:=he k hk h1
   exact pQ s k (fun j hj=>hs j (by omega) (hlt j hj)) (eY k1 k2)
def uH{α:Type}(f:α→α×Bool):Nat→α→α
 | 0,l=>l
 | n+1,l=>if(f l).2 then uH f n (f l).1 else(f l).1
def B9(m:Nat):List D:=(List.range m).map fun i=> .bp i 0
def fI(bs:List (List T)):ab:=bs.map fun cs=> .box (cs.map .t)
theorem c8(bs:List (List T)):(fI bs).length=bs.length:=by simp[fI]
theorem dJ:∀(l:List Nat) (i k:Nat),l.Nodup→l[k]?=some i→idxOf l i=some k
 | [],i,k,_,h=>by simp at h
 | a::l,i,0,_,h=>by simp at h;simp[idxOf,h]
 | a::l,i,k+1,hn,h=>by
   simp at h
   have hne:a≠i:=fun e=>(List.nodup_cons.1 hn).1 (e▸aLd h)
   simp only[idxOf,if_neg hne,dJ l i k (List.nodup_cons.1 hn).2 h,aLw]
theorem pY{α:Type}{f:α→Option α}:∀ {l:List α},(∀x∈l,f x=some x)→aE f l=some l
 | [],_=>rfl
 | a::l,h=>by
   simp only[aE,h a List.mem_cons_self,aLq,pY fun x hx=>h x (List.mem_cons_of_mem _ hx),aLw]
theorem mS{α β:Type}{f:α→Option β}:∀ {a b:List α} {x y:List β},aE f a=some x→aE f b=some y→aE f (a++b)=some (x++y)
 | [],b,x,y,h1,h2=>by simp[aE]at h1;subst h1;exact h2
 | c::a,b,x,y,h1,h2=>by
   simp only[aE,aLa,aLb]at h1
   obtain⟨z,hz,r,hr,rfl⟩:=h1
   simp only[List.cons_append,aE,hz,aLq,mS hr h2,aLw]
section
variable (bs : List (List T)) (o o' : Obj)
@[go_sem] theorem Ca : (fI bs).length = bs.length := c8 bs
@[go_sem] theorem Lp : (fI bs ++ [o])[bs.length]? = some o := by
 rw[aLh (by rw[c8];exact aLs _),c8];simp
@[go_sem] theorem O8 : (fI bs ++ [o]).set bs.length o' = fI bs ++ [o'] := by
 rw[List.set_append_right _ _ (by rw[c8];exact aLs _),c8];simp
@[go_sem] theorem Lq : (fI bs ++ [o]).take bs.length = fI bs := by
 rw[List.take_append_of_le_length (by rw[c8];exact aLs _),List.take_of_length_le (by rw[c8];exact aLs _)]
@[go_sem] theorem Hp : (fI bs ++ [o]).take (bs.length + 1) = fI bs ++ [o] := List.take_of_length_le (by simp [c8])
@[go_sem] theorem Hq : (fI bs).take bs.length = fI bs := List.take_of_length_le (by simp [c8])
@[go_sem] theorem Hr (k : Nat) (a b : ab) : bR k (a ++ b) = (bR k a && bR k b) := by
 rw[← eb,←eb,←eb,List.all_append]
@[go_sem] theorem Cb (k : Nat) : bR k (fI bs) = true := by
 induction bs with
 | nil=>rfl
 | cons b r ih=>
   show(cz k 8 (b.map .t)&&bR k (fI r))=true
   rw[uA,ih];rfl
@[go_sem] theorem SJ (n : Nat) : ltB n (n + 1) = true := by rw [df]; simp
@[go_sem] theorem SK (n : Nat) : ltB n n = false := by rw [df]; simp
theorem my(k n m:Nat)(h:m≤k):cz k n (B9 m)=true:=by
 unfold cz B9
 rw[aLx]
 intro d hd
 obtain⟨i,hi,rfl⟩:=List.mem_map.1 hd
 rw[OE,df]
 have:=aLu.1 hi
 simp;omega
@[go_sem] theorem Ht (n m : Nat) : cz m n (B9 m) = true := my _ _ _ (aLs _)
@[go_sem] theorem DP (n m : Nat) : cz (m + 1) n (B9 m) = true := my _ _ _ (Nat.le_succ _)
end
end Go.Ev
namespace Go.Ev
open Go
variable [Lib] [aL] [aN]
theorem ew{α:Type}(sz:Nat)(f:α→T)(h:∀a,fM sz (f a).cells=true):∀l:List α,aP sz (l.map f)=true
 | []=>rfl
 | a::l=>by rw[List.map_cons,kv,h,ew sz f h l];rfl
@[go_sem] theorem DQ (k : IntKind) (l : List Int) : aP 1 (l.map (.int k)) = true := ew 1 _ (fun _ => rfl) l
theorem kz(sz:Nat):∀ts:List T,(ts.all fun e=>e.cells.length==sz)=aP sz ts
 | []=>rfl
 | t::ts=>by
   rw[List.all_cons,kv,kz sz ts]
   congr 1
   rw[Bool.eq_iff_iff,b7];simp
section
variable (H : ab) (sz : Nat) (ts : List T) (i j : Int)
@[go_sem] theorem VR : q9 H sz (some (.t (.sl ts))) (some none) (some (some i)) = if 0 ≤ i then (if i ≤ ts.length then (if aP sz ts = true then some (.t (.sl (ts.take i.toNat)), H) else none) else none) else none := by
 simp only[q9,aLq,fF,bound,kz,idx]
 by_cases h1:0≤i
 · rw[if_pos h1,if_pos h1,aLq]
   by_cases h2:i≤ts.length
   · rw[if_pos h2]
     by_cases h3:aP sz ts=true
     · rw[if_pos h3,if_pos ⟨by omega,by omega,h3⟩];rfl
     · rw[if_neg h3,if_neg fun h=>h3 h.2.2];rfl
   · rw[if_neg h2,if_neg fun h=>h2 (by omega)];rfl
 · rw[if_neg h1,if_neg h1];rfl
@[go_sem] theorem VS : q9 H sz (some (.t (.sl ts))) (some (some i)) (some none) = if 0 ≤ i then (if i ≤ ts.length then (if aP sz ts = true then some (.t (.sl (ts.drop i.toNat)), H) else none) else none) else none := by
 simp only[q9,aLq,fF,bound,kz,idx]
 by_cases h1:0≤i
 · rw[if_pos h1,if_pos h1,aLq]
   by_cases h2:i≤ts.length
   · rw[if_pos h2]
     by_cases h3:aP sz ts=true
     · rw[if_pos h3,if_pos ⟨by omega,by omega,h3⟩,List.take_of_length_le (by simp)];rfl
     · rw[if_neg h3,if_neg fun h=>h3 h.2.2];rfl
   · rw[if_neg h2,if_neg fun h=>h2 (by omega)];rfl
 · rw[if_neg h1,if_neg h1];rfl
@[go_sem] theorem O9 : q9 H sz (some (.t (.sl ts))) (some (some i)) (some (some j)) = if 0 ≤ i then (if i ≤ j then (if j ≤ ts.length then (if aP sz ts = true then some (.t (.sl ((ts.drop i.toNat).take (j.toNat - i.toNat))), H) else none) else none) else none) else none := by
 simp only[q9,aLq,fF,bound,kz,idx]
 by_cases h1:0≤i
 · rw[if_pos h1,if_pos h1,aLq]
   by_cases h0:i≤j
   · rw[if_pos h0,if_pos (by omega:0≤j),aLq]
     by_cases h2:j≤ts.length
     · rw[if_pos h2]
       by_cases h3:aP sz ts=true
       · rw[if_pos h3,if_pos ⟨by omega,by omega,h3⟩];rfl
       · rw[if_neg h3,if_neg fun h=>h3 h.2.2];rfl
     · rw[if_neg h2,if_neg fun h=>h2 (by omega)];rfl
   · rw[if_neg h0]
     by_cases h2:0≤j
     · rw[if_pos h2,aLq,if_neg fun h=>h0 (by omega)];rfl
     · rw[if_neg h2];rfl
 · rw[if_neg h1,if_neg h1];rfl
end
def bsK(H:ab)(l:List Nat):Option T→Option (D×ab)
 | some t=>some (.t (.sl [t]),pins H l)
 | none=>none
@[go_sem] theorem SL (H : ab) (l : List Nat) (t : T) : bsK H l (some t) = some (.t (.sl [t]), pins H l) := (rfl)
@[go_sem] theorem SM (H : ab) (sz : Nat) (cs : List D) : oY H sz [.agg cs] = if fM sz cs = true then bsK H (bH H 8 (.agg cs)) (frz H 8 (.agg cs)) else none := by
 simp only[oY,List.all_cons,List.all_nil,Bool.and_true,D.cells]
 by_cases h:fM sz cs=true
 · rw[if_pos h,if_pos (by simpa using b7.1 h)]
   simp only[aE,depth,List.flatMap_cons,List.flatMap_nil,List.append_nil]
   cases frz H 8 (.agg cs)<;>rfl
 · rw[if_neg h,if_neg (by intro e;exact h (b7.2 (by simpa using e)))]
@[go_sem] theorem SN (H : ab) (id ep n : Nat) : oY H 1 [.ref id ep n] = bsK H (bH H 8 (.ref id ep n)) (frz H 8 (.ref id ep n)) := by
 simp only[oY,List.all_cons,List.all_nil,Bool.and_true,D.cells,List.length_cons,List.length_nil,beq_self_eq_true,if_true,aE,depth,List.flatMap_cons,List.flatMap_nil,List.append_nil]
 cases frz H 8 (.ref id ep n)<;>rfl
def Hu(H:ab)(r:D)(os:ab):D×ab:=(r,H++os)
@[go_sem] theorem SO (H : ab) (r : D) (os : ab) : Hu H r os = (r, H ++ os) := (rfl)
def Pa(H:ab)(os:ab)(r:D):Option (D×ab):=(aE (aX (aR [] H.length)) os).map (Hu H r)
@[go_sem] theorem SP (H : ab) (os : ab) (r : D) : Pa H os r = (aE (aX (aR [] H.length)) os).map (Hu H r) := (rfl)
@[go_sem] theorem Pb (H : ab) (r : D) (o : Obj) (os : ab) : jM H (r, o :: os) = (ren (aR [] H.length) 8 r).bind (Pa H (o :: os)) := by
 simp only[jM,List.isEmpty_cons,Bool.and_false,aLt,if_false]
 rfl
end Go.Ev
namespace Go.Ev
open Go
variable [Lib] [aL] [aN]
@[go_sem] theorem VT (H : ab) (a b : List T) : oY H 1 [.t (.sl a), .t (.sl b), .nil] = some (.t (.sl [.sl a, .sl b, .sl []]), H) := by
 simp only[oY,List.all_cons,List.all_nil,D.cells,T.cells,List.map_cons,List.map_nil,List.length_cons,List.length_nil,aE,frz,depth,bH,List.flatMap_cons,List.flatMap_nil,pins]
 rfl
def Cc(c:Bool):Option Bool→Option Bool
 | some d=>some (c&&d)
 | none=>none
@[go_sem] theorem Lr (c d : Bool) : Cc c (some d) = some (c && d) := (rfl)
@[go_sem] theorem Lt : eP [] [] = some true := (rfl)
@[go_sem] theorem Hv (k : IntKind) (a b : Int) (xs ys : List T) : eP (.int k a :: xs) (.int k b :: ys) = Cc (decide (a = b)) (eP xs ys) := by
 simp only[eP,if_true,Nw]
 cases eP xs ys<;>rfl
def Cd(H:ab)(neg:Bool):Option Bool→Option (D×ab)
 | some r=>some (.t (.bool (bif neg then !r else r)),H)
 | none=>none
@[go_sem] theorem Lu (H : ab) (r : Bool) : Cd H true (some r) = some (.t (.bool (!r)), H) := (rfl)
@[go_sem] theorem Hw (H : ab) (r : Bool) : Cd H false (some r) = some (.t (.bool r), H) := (rfl)
@[go_sem] theorem Hx (H : ab) (n : Nat) (neg : Bool) (xs ys : List T) : ib H (.ints n) neg (some (.t (.agg xs))) (some (.t (.agg ys))) = if xs.length = n then Cd H neg (eP xs ys) else none := by
 simp only[ib,aLq,Dg,eqD]
 by_cases h:xs.length=n
 · simp only[if_pos h]
   cases eP xs ys with
   | none=>rfl
   | some r=>cases neg<;>rfl
 · simp only[if_neg h];rfl
@[go_sem] theorem Lv : ((2 : Nat) : Int) = 2 := (rfl)
@[go_sem] theorem DR : ((3 : Nat) : Int) = 3 := (rfl)
end Go.Ev
namespace Go.Ev
open Go
instance : Dat (List Int) := ⟨[]⟩
def LU(p:Nat→Prop) [DecidablePred p](G:List (List Int)):Nat→List Int
 | 0=>[]
 | m+1=>LU p G m++if p m then nth G m else []
theorem gY{p:Nat→Prop} [DecidablePred p]{G:List (List Int)}{i:Int}:∀ {m:Nat},i∈LU p G m↔∃n,n<m∧p n∧i∈nth G n
 | 0=>by simp[LU]
 | m+1=>by
   rw[LU,List.mem_append,gY]
   constructor
   · rintro (⟨n,a,b,c⟩ | h)
     · exact⟨n,by omega,b,c⟩
     · split at h
       · rename_i hp;exact⟨m,by omega,hp,h⟩
       · simp at h
   · rintro ⟨n,a,b,c⟩
     by_cases e:n=m
     · subst e;right;rw[if_pos b];exact c
     · exact .inl ⟨n,by omega,b,c⟩
theorem kB(p:Nat→Prop) [DecidablePred p](G:List (List Int)):∀m,(LU (fun _=>True) G m).length=(LU p G m).length+(LU (fun n=>¬p n) G m).length
 | 0=>rfl
 | m+1=>by
   have ih:=kB p G m
   simp only[LU,aLv,if_true]
   by_cases h:p m
   · simp only[h,if_true,not_true_eq_false,if_false,List.length_nil];omega
   · simp only[h,if_false,not_false_eq_true,if_true,List.length_nil];omega
theorem Pc{p:Nat→Prop} [DecidablePred p]{G G2:List (List Int)}:∀m,(∀n,n<m→p n→(nth G2 n).length≤(nth G n).length)→(LU p G2 m).length≤(LU p G m).length
 | 0,_=>aLs _
 | m+1,h=>by
   have ih:=Pc m fun n hn hp=>h n (by omega) hp
   simp only[LU,aLv]
   split
   · rename_i hp;have:=h m (by omega) hp;omega
   · simpa using ih
theorem uI(p:Nat→Prop) [DecidablePred p](G:List (List Int)):∀m,List.Sublist (LU p G m) (LU (fun _=>True) G m)
 | 0=>List.Sublist.refl _
 | m+1=>by
   have ih:=uI p G m
   simp only[LU,if_true]
   refine List.Sublist.append ih ?_
   split
   · exact List.Sublist.refl _
   · exact List.nil_sublist _
abbrev gA(G:List (List Int)):List Int:=LU (fun _=>True) G G.length
theorem bD:∀ {a b:List Int},a.Nodup→(∀x∈a,x∈b)→a.length≤b.length
 | [],b,_,_=>Nat.zero_le _
 | x::a,b,h,hs=>by
   obtain⟨h1,h2⟩:=List.nodup_cons.1 h
   obtain⟨s,t,rfl⟩:=List.append_of_mem (hs x List.mem_cons_self)
   have:=bD (a:=a) (b:=s++t) h2 fun y hy=>by
    have:=hs y (List.mem_cons_of_mem _ hy)
    rw[List.mem_append,List.mem_cons]at this
    rcases this with k | k | k
    · exact List.mem_append.2 (.inl k)
    · subst k;exact absurd hy h1
    · exact List.mem_append.2 (.inr k)
   simp only[aLv,List.length_cons]at this ⊢
   omega
structure GI(W:List (List Int))(S:List Int)(G:List (List Int)):Prop where
 len:G.length=S.length
 cap:∀n,n<S.length→nth G n≠[]→((nth G n).length:Int)≤nth S n
 wnt:∀n,n<S.length→∀i∈nth G n,0≤i∧i<W.length∧(n:Int)∈nth W i.toNat
structure AN(W:List (List Int))(S:List Int)(G:List (List Int)):Prop extends GI W S G where
 nd:(gA G).Nodup
def uJ(W:List (List Int))(S:List Int)(c:Nat):Prop:=(∃G,AN W S G∧(gA G).length=c)∧∀G,AN W S G→(gA G).length≤c
def Clo(W:List (List Int))(S:List Int)(G:List (List Int))(U:Nat→Prop):Prop:=
 ∀n,n<S.length→U n→nth S n≤(nth G n).length∧∀i∈nth G n,∀x:Nat,x<S.length→(x:Int)∈nth W i.toNat→U x
def pZ(W:List (List Int))(S:List Int)(i:Int)(U:Nat→Prop):Prop:=∀x:Nat,x<S.length→(x:Int)∈nth W i.toNat→U x
theorem Hy{W:List (List Int)}{S:List Int}{G:List (List Int)}(h:AN W S G){U:Nat→Prop} [DecidablePred U](hc:Clo W S G U)(hf:∀i:Nat,i<W.length→(i:Int)∈gA G∨pZ W S i U):uJ W S (gA G).length:=by
 refine⟨⟨G,h,rfl⟩,fun G2 h2=>?_⟩
 have l1:=h.len
 have l2:=h2.len
 unfold gA
 rw[kB U G2,kB U G,l1,l2]
 have a1:(LU U G2 S.length).length≤(LU U G S.length).length:=Pc _ fun n hn hu=>by
  by_cases e:nth G2 n=[]
  · rw[e];exact Nat.zero_le _
  · have:=h2.cap n hn e
    have:=(hc n hn hu).1
    omega
 have nd:=(h2.nd.sublist (by unfold gA;exact uI (fun n=>¬U n) G2 G2.length))
 rw[l2]at nd
 have a2:(LU (fun n=>¬U n) G2 S.length).length≤(LU (fun n=>¬U n) G S.length).length:=bD nd fun i hi=>by
  obtain⟨n,hn,hu,hm⟩:=gY.1 hi
  obtain⟨w1,w2,w3⟩:=h2.wnt n hn i hm
  have ei:((i.toNat:Nat):Int)=i:=Int.toNat_of_nonneg w1
  have no:¬pZ W S i U:=fun hw=>hu (hw n hn w3)
  rcases hf i.toNat (by omega)with k | k
  · rw[ei]at k
    obtain⟨m,hm1, -,hm2⟩:=gY.1 k
    refine gY.2 ⟨m,by omega,fun um=>?_,hm2⟩
    exact no fun x hx hw=>(hc m (by omega) um).2 i hm2 x hx hw
  · rw[ei]at k
    exact absurd k no
 omega
end Go.Ev
namespace Go.Ev
open Go
theorem yP(G:List (List Int)):∀m,m≤G.length→LU (fun _=>True) G m=(G.take m).flatten
 | 0,_=>rfl
 | m+1,h=>by
   have e:G[m]?=some (nth G m):=by
    have hm:m<G.length:=by omega
    unfold nth
    rw[aLl,aLc hm];rfl
   rw[LU,yP G m (by omega),if_pos trivial,List.take_add_one,e]
   simp
theorem du(G:List (List Int)):gA G=G.flatten:=by
 unfold gA
 rw[yP G _ (aLs _),List.take_length]
theorem Pd{W:List (List Int)}{S:List Int}{G:List (List Int)}{U V:Nat→Prop}(h:Clo W S G U)(g:Clo W S G V):Clo W S G (fun n=>U n∨V n):=by
 intro n hn hu
 rcases hu with a | a
 · obtain⟨p,q⟩:=h n hn a
   exact⟨p,fun i hi x hx hw=> .inl (q i hi x hx hw)⟩
 · obtain⟨p,q⟩:=g n hn a
   exact⟨p,fun i hi x hx hw=> .inr (q i hi x hx hw)⟩
structure fQ(W:List (List Int))(S:List Int)(G:List (List Int))(i:Int)(T:Nat→Bool)(G2:List (List Int)):Prop where
 gi:GI W S G2
 pm:(gA G2).Perm (i::gA G)
 old:∀n,T n=true→nth G2 n=nth G n
 clo:∀U:Nat→Prop,Clo W S G U→(∀n,n<S.length→U n→nth G2 n=nth G n)∧¬pZ W S i U
structure nV(W:List (List Int))(S:List Int)(G:List (List Int))(i:Int)(T T2:Nat→Bool):Prop where
 sub:∀n,T n=true→T2 n=true
 clo:∀n,n<S.length→T2 n=true→T n=false→nth S n≤(nth G n).length∧∀j∈nth G n,pZ W S j fun x=>T2 x=true
 wnt:pZ W S i fun x=>T2 x=true
structure MI(W:List (List Int))(S:List Int)(G:List (List Int))(j c:Nat)(U:Nat→Prop):Prop where
 st:AN W S G
 lt:∀i∈gA G,i<j
 cnt:(gA G).length=c
 clo:Clo W S G U
 out:∀i:Nat,i<j→(i:Int)∈gA G∨pZ W S i U
theorem MI.ok{W:List (List Int)}{S:List Int}{G G2:List (List Int)}{j c:Nat}{U:Nat→Prop}{T:Nat→Bool}(h:MI W S G j c U)(p:fQ W S G j T G2):MI W S G2 (j+1) (c+1) U:=by
 obtain⟨k1,k2⟩:=p.clo U h.clo
 have nd:(gA G2).Nodup:=by
  rw[p.pm.nodup_iff,List.nodup_cons]
  refine⟨fun hm=>?_,h.st.nd⟩
  have:=h.lt _ hm
  omega
 refine⟨⟨p.gi,nd⟩,fun i hi=>?_,by rw[p.pm.length_eq,List.length_cons,h.cnt],fun n hn hu=>?_,fun i hi=>?_⟩
 · rcases List.mem_cons.1 (p.pm.mem_iff.1 hi)with e | e
   · omega
   · have:=h.lt i e;omega
 · rw[k1 n hn hu];exact h.clo n hn hu
 · by_cases e:i=j
   · subst e;exact .inl (p.pm.mem_iff.2 List.mem_cons_self)
   · rcases h.out i (by omega)with a | a
     · exact .inl (p.pm.mem_iff.2 (List.mem_cons_of_mem _ a))
     · exact .inr a
theorem MI.no{W:List (List Int)}{S:List Int}{G:List (List Int)}{j c:Nat}{U:Nat→Prop}{T T2:Nat→Bool}(h:MI W S G j c U)(h0:∀n,T n=false)(p:nV W S G j T T2):MI W S G (j+1) c (fun n=>U n∨T2 n=true):=by
 refine⟨h.st,fun i hi=>by have:=h.lt i hi;omega,h.cnt,Pd h.clo (fun n hn hu=>?_),fun i hi=>?_⟩
 · exact p.clo n hn hu (h0 n)
 · by_cases e:i=j
   · subst e;exact .inr fun x hx hw=> .inr (p.wnt x hx hw)
   · rcases h.out i (by omega)with a | a
     · exact .inl a
     · exact .inr fun x hx hw=> .inl (a x hx hw)
open Classical in
theorem MI.YK{W:List (List Int)}{S:List Int}{G:List (List Int)}{c:Nat}{U:Nat→Prop}(h:MI W S G W.length c U):uJ W S c:=by
 rw[← h.cnt]
 exact Hy h.st h.clo h.out
theorem MI.zero(W:List (List Int))(S:List Int):MI W S (List.replicate S.length []) 0 0 (fun _=>False):=by
 have e:gA (List.replicate S.length ([]:List Int))=[]:=by rw[du];simp
 have nn:∀n,nth (List.replicate S.length ([]:List Int)) n=[]:=fun n=>by
  unfold nth
  rw[aLl,List.getElem?_replicate]
  split<;>rfl
 refine⟨⟨⟨by simp,fun n hn hne=>absurd (nn n) hne,fun n hn i hi=>by rw[nn n]at hi;simp at hi⟩,by rw[e];simp⟩,by rw[e];simp,by rw[e];rfl,fun n hn hu=>hu.elim,fun i hi=>absurd hi (by omega)⟩
end Go.Ev
namespace Go.Ev
open Go
variable [Lib] [aL] [aN]
def Mod(n m:Int):Int:=if m<1 then 0 else if n.tmod m<0 then n.tmod m+m else n.tmod m
theorem Pe(n m:Int):0≤Mod n m:=by
 unfold Mod
 split
 · omega
 · have h5:=Int.lt_tmod_of_pos n (b:=m) (by omega)
   split<;>omega
theorem Pf(n m:Int)(h:1≤m):Mod n m<m:=by
 unfold Mod
 rw[if_neg (by omega)]
 have h3:=Int.tmod_lt_of_pos n (b:=m) (by omega)
 split<;>omega
theorem Pg(n m:Int)(hm:m≤4611686018427387904):bV 0 N.dA [I n,I m] []=some (I (Mod n m),[]):=by
 refine bS K.lC rfl ?_
 unfold Mod
 by_cases h1:m<1
 · simp only[go_sem,K.dA,h1,↓reduceIte]
 · have h2:m≠0:=by omega
   have h3:=Int.tmod_lt_of_pos n (b:=m) (by omega)
   have h5:=Int.lt_tmod_of_pos n (b:=m) (by omega)
   by_cases h4:n.tmod m<0
   · simp(disch:=omega)only[go_sem,K.dA,h1,↓reduceIte,h2,h4]
   · simp(disch:=omega)only[go_sem,K.dA,h1,↓reduceIte,h2,h4]
theorem Ce(l:List Int):bV 0 N.cJ [.t (tL l)] []=some (B (decide (l.length≤400)),[]):=by
 refine bS K.iK rfl ?_
 simp(disch:=omega)only[go_sem,K.cJ,↓reduceIte]
 simp only[show((l.length:Int)≤400)=(l.length≤400)by rw[eq_iff_iff];omega]
structure ay where
 L:List Int
 at_:Nat
def ay.obj(d:ay):Obj:= .box [.t (tL d.L),I d.at_]
def ay.fj(d:ay):Prop:=d.L.length≤400
def ay.next(d:ay)(n:Int):Int×ay:=if d.at_<d.L.length then(Mod (nth d.L d.at_) n,⟨d.L,d.at_+1⟩)else(0,d)
theorem ay.Ph(d:ay)(n:Int):(d.next n).2.L=d.L:=by unfold ay.next;split<;>rfl
theorem ay.eZ{d:ay}(h:d.fj)(n:Int):(d.next n).2.fj:=by unfold ay.fj;rw[d.Ph];exact h
theorem ay.iM(d:ay)(n:Int):0≤(d.next n).1:=by unfold ay.next;split<;>simp[Pe]
theorem ay.gN(d:ay){n:Int}(h:1≤n):(d.next n).1<n:=by unfold ay.next;split<;>simp[Pf _ _ h];omega
theorem lE(d:ay)(n:Int)(hn:n≤4611686018427387904)(hd:d.fj):bV 0 N.av [.bp 0 0,I n] [d.obj]=some (I (d.next n).1,[(d.next n).2.obj]):=by
 refine bS K.eI rfl ?_
 have hm:=Pg (nth d.L d.at_) n hn
 unfold ay.fj at hd
 unfold ay.next ay.obj
 by_cases h1:d.at_<d.L.length
 · simp(disch:=omega)only[go_sem,K.av,↓reduceIte,↓if_pos,↓if_neg,Int.add_sub_cancel,hm,Int.natCast_add]
 · simp(disch:=omega)only[go_sem,K.av,↓reduceIte,↓if_pos,↓if_neg]
@[go_sem] theorem SQ (d : ay) : uE (some d.obj) = [] := by simp only [ay.obj, go_sem]
@[go_sem] theorem SR (f : Nat → Option Nat) (d : ay) : aX f d.obj = some d.obj := by simp only [ay.obj, go_sem]
@[go_sem] theorem SS (k : Nat) (d : ay) (r : ab) : bR k (d.obj :: r) = bR k r := by simp only [ay.obj, go_sem]
def ay.one(d:ay)(n:Int):Bool×ay:=(decide ((d.next n).1=n-1),(d.next n).2)
def ay.of(d:ay)(l:List Int):Int×ay:=(nth l (d.next l.length).1.toNat,(d.next l.length).2)
theorem ay.Cf{d:ay}(h:d.fj)(l:List Int):(d.of l).2.fj:=ay.eZ h _
theorem ay.Pj(d:ay){l:List Int}(h:l≠[]):(d.of l).1∈l:=by
 unfold ay.of
 have hl:0<l.length:=List.length_pos_iff.2 h
 have:=d.iM l.length
 have:=d.gN (n:=l.length) (by omega)
 exact dE (by omega)
theorem VU(d:ay)(l:List Int)(hl:l≠[])(hl2:l.length≤4294967296)(hd:d.fj):bV 0 N.br [.bp 0 0,.t (tL l)] [d.obj]=some (I (d.of l).1,[(d.of l).2.obj]):=by
 refine bS K.fP rfl ?_
 have hm:=lE d l.length (by omega) hd
 have h0:0<l.length:=List.length_pos_iff.2 hl
 have h1:=d.iM l.length
 have h2:=d.gN (n:=l.length) (by omega)
 unfold ay.of
 simp(disch:=omega)only[go_sem,K.br,↓reduceIte,hm]
def ay.wy(d:ay):Nat→List Int×ay
 | 0=>([],d)
 | k+1=>(if((d.wy k).2.next 3).1=0 then(d.wy k).1++[(k:Int)]else(d.wy k).1,((d.wy k).2.next 3).2)
structure Place where
 h:Int
 surf:Bool
instance : Dat Place := ⟨⟨0, false⟩⟩
abbrev Place.e(p:Place):T:= .agg [tI p.h,.bool p.surf]
structure Road where
 frm:Int
 to:Int
 len:Int
 area:Int
 walk:Bool
 closed:Bool
 restL:Int
 restH:Int
 liftL:Int
 liftH:Int
instance : Dat Road := ⟨⟨0, 0, 0, 0, false, false, 0, 0, 0, 0⟩⟩
abbrev Road.e(r:Road):T:= .agg [tI r.frm,tI r.to,tI r.len,tI r.area,.bool r.walk,.bool r.closed,tI r.restL,tI r.restH,tI r.liftL,tI r.liftH]
structure bW where
 a8:List Place
 roads:List Road
instance : Dat bW := ⟨⟨[], []⟩⟩
abbrev bW.e(m:bW):T:= .agg [.sl (m.a8.map Place.e),.sl (m.roads.map Road.e)]
structure Road.ok(n:Nat)(r:Road):Prop where
 f0:0≤r.frm
 f1:r.frm<n
 t0:0≤r.to
 t1:r.to<n
 ne:r.frm≠r.to
 l0:1≤r.len
 l1:r.len≤100000
 a0:1≤r.area
 a1:r.area≤1000
 r0:1≤r.restL
 r1:r.restL≤r.restH
 r2:r.restH≤262144
 i0: -2199023255552≤r.liftL
 i1:r.liftL≤r.liftH
 i2:r.liftH≤2199023255552
structure bW.ok(m:bW):Prop where
 np:m.a8.length≤64
 nr:m.roads.length≤128
 hs:∀p∈m.a8, -10000≤p.h∧p.h≤10000
 rs:∀r∈m.roads,r.ok m.a8.length
theorem Hz{l:List Int}{p:Int→Bool}:((List.range l.length).find? fun j=>p (nth l j)).isSome=l.any p:=by
 rw[List.isSome_find?,Bool.eq_iff_iff,List.any_eq_true,List.any_eq_true]
 constructor
 · rintro ⟨j,hj,h⟩
   exact⟨_,dE (aLu.1 hj),h⟩
 · rintro ⟨x,hx,h⟩
   obtain⟨j,hj⟩:=aLf.1 hx
   exact⟨j,aLu.2 (aLe.1 hj).1,by rw[iL hj];exact h⟩
theorem Pk(l:List Int)(x:Int)(hl:l.length≤4294967296):bV 0 N.dt [.t (tL l),I x] []=some (B (decide (x∈l)),[]):=by
 refine bS K.jO rfl ?_
 have loop:∀a:D,exS bV K.mw ⟨[.t (tL l),I x,a,I 0],[]⟩=
  some (match (List.range l.length).find? (fun j=>decide (nth l j=x))with
   | some j=>(.ret,⟨[.t (tL l),I x,B true,I j],[]⟩)
   | none=>(.exit 0,⟨[.t (tL l),I x,.und,I l.length],[]⟩)):=by
  intro a
  refine i7 (fun j=>⟨[.t (tL l),I x,.und,I j],[]⟩) l.length (fun j=>decide (nth l j=x)) _ _ rfl ?_ ?_ ?_ (by simp)
  · intro j hj hp
    have hp:¬nth l j=x:=of_decide_eq_false hp
    simp(disch:=omega)only[go_sem,K.eV,↓reduceIte]
  · intro j hj hp
    have hp:nth l j=x:=of_decide_eq_true hp
    simp(disch:=omega)only[go_sem,K.eV,↓reduceIte,hp]
    simp
  · simp(disch:=omega)only[go_sem,K.eV,↓reduceIte]
 have e:=Hz (l:=l) (p:=fun y=>decide (y=x))
 have e2:l.any (fun y=>decide (y=x))=decide (x∈l):=by rw[Bool.eq_iff_iff];simp
 rw[e2]at e
 simp only[go_sem,K.dt,↓reduceIte,loop]
 cases hf:(List.range l.length).find? (fun j=>decide (nth l j=x))with
 | some j=>rw[hf]at e;simp(disch:=omega)only[go_sem,↓reduceIte,←e]
 | none=>rw[hf]at e;simp(disch:=omega)only[go_sem,↓reduceIte,←e,Option.isSome_none]
def Cg(l:List Int)(n:Int):Bool:=(List.range l.length).all fun j=>decide (0≤nth l j∧nth l j<n∧(0<j→nth l (j-1)<nth l j))
theorem Pl(x lo hi:Int):bV 0 N.dQ [I x,I lo,I hi] []=some (B (decide (lo≤x∧x≤hi)),[]):=by
 refine bS K.lD rfl ?_
 by_cases h1:lo≤x<;>by_cases h2:x≤hi<;>simp(disch:=omega)only[go_sem,K.dQ,↓reduceIte]
def HA(m:bW)(k:Nat)(back:Bool)(up down level:Int):Int:=
 let x:=nth m.roads k
 if x.closed=true∨x.walk=false then -1 else
 let a:=if back then x.to else x.frm
 let b:=if back then x.frm else x.to
 let rise:=(nth m.a8 b.toNat).h-(nth m.a8 a.toNat).h
 let speed:=if -10*rise>x.len then down else if 10*rise>x.len then up else level
 (10*x.len+speed-1).tdiv speed
def bnd(l:List Int):Prop:=∀x∈l,0≤x∧x≤1099511627776
def DT(l:List Int)(p q:Nat)(walk t:Int):Bool:=
 decide (0≤walk)&&decide (nth l p<1099511627776)&&decide (max t (nth l p+walk)≤2147483648)&&decide (max t (nth l p+walk)<nth l q)
def Pm(l:List Int)(p q:Nat)(walk t:Int):List Int:=if DT l p q walk t=true then l.set q (max t (nth l p+walk))else l
def YL(into:Option (List Int))(p:Int):Bool:=match into with
 | none=>true
 | some l=>decide (p∈l)
def Pn(into:Option (List Int)):D:=match into with
 | none=> .nil
 | some l=> .t (tL l)
def Road.src(r:Road)(back:Bool):Int:=if back then r.to else r.frm
def Road.dst(r:Road)(back:Bool):Int:=if back then r.frm else r.to
theorem Road.qK{n:Nat}{r:Road}(h:r.ok n)(back:Bool):0≤r.src back∧r.src back<n:=by
 unfold Road.src;have:=h.f0;have:=h.f1;have:=h.t0;have:=h.t1;cases back<;>simp<;>omega
def Po(m:bW)(t:Int)(into:Option (List Int))(k:Nat)(back:Bool)(l:List Int):List Int×Bool:=
 if YL into ((nth m.roads k).dst back)=true then
  (Pm l ((nth m.roads k).src back).toNat ((nth m.roads k).dst back).toNat (HA m k back 6 9 12) t,DT l ((nth m.roads k).src back).toNat ((nth m.roads k).dst back).toNat (HA m k back 6 9 12) t)
 else(l,false)
def VV(m:bW)(t:Int)(into:Option (List Int))(k:Nat)(s:List Int×Bool):List Int×Bool:=
 let a:=Po m t into k false s.1
 let b:=Po m t into k true a.1
 (b.1,s.2||a.2||b.2)
def DU(m:bW)(t:Int)(into:Option (List Int))(l:List Int):Nat→List Int×Bool
 | 0=>(l,false)
 | k+1=>VV m t into k (DU m t into l k)
def Pp(m:bW)(t:Int)(into:Option (List Int))(l:List Int):List Int×Bool:=DU m t into l m.roads.length
theorem HB{l:List Int}(h:bnd l){q:Nat}{x:Int}(h0:0≤x)(h1:x≤1099511627776):bnd (l.set q x):=by
 intro y hy
 rcases aLk hy with hy | hy
 · exact h y hy
 · subst hy;exact⟨h0,h1⟩
section
variable {m : bW} (h : m.ok) {t : Int} {into : Option (List Int)}
include h
end
def XG(l:List Int):Nat:=(l.map Int.toNat).sum
section
variable {m : bW} (h : m.ok) {t : Int} {into : Option (List Int)}
include h
end
end Go.Ev
namespace Go.Ev
open Go
variable [Lib] [aL] [aN]
abbrev rq(m:bW):List D:=[.t (.sl (m.a8.map Place.e)),.t (.sl (m.roads.map Road.e))]
@[go_sem] theorem Pq (k n : Nat) (into : Option (List Int)) : old k n (Pn into) = true := by
 cases into<;>simp only[Pn,go_sem]
structure Wh where
 time:Int
 frm:List Int
instance : Dat Wh := ⟨⟨0, []⟩⟩
abbrev Wh.e(w:Wh):T:= .agg [tI w.time,tL w.frm]
def o5(m:bW)(t:Int)(into:Option (List Int))(l:List Int):List Int:=uH (Pp m t into) (XG l+1) l
def inT(t:Int):Prop:=0≤t∧t≤2147483648
instance (t : Int) : Decidable (inT t) := by unfold inT; infer_instance
def plT(x:Int):Prop:=x=1099511627776∨inT x
instance (t : Int) : Decidable (plT t) := by unfold plT; infer_instance
def yQ(w:Wh)(n:Int):Bool:=decide ((w.frm.length:Int)=n∧inT w.time)&&(List.range w.frm.length).all fun j=>decide (plT (nth w.frm j))
def rr(m:bW)(w:Wh):Bool:=yQ w m.a8.length&&decide (o5 m w.time none w.frm=w.frm)
theorem sW{w:Wh}{n:Int}(h:yQ w n=true):(w.frm.length:Int)=n∧inT w.time∧∀x∈w.frm,plT x:=by
 simp only[yQ,aLr,decide_eq_true_eq,aLx,aLu]at h
 refine⟨h.1.1,h.1.2,fun x hx=>?_⟩
 obtain⟨j,hj⟩:=aLf.1 hx
 have:=h.2 j (aLe.1 hj).1
 rwa [iL hj]at this
def yR(n:Nat):List Int:=List.replicate n 1099511627776
@[simp] theorem Lw (n : Nat) : (yR n).length = n := List.length_replicate
def yS(m:bW)(p t:Int):Wh×Int:=
 if p<0∨(m.a8.length:Int)≤p then(⟨0,[]⟩,3)else if inT t then(⟨t,o5 m t none ((yR m.a8.length).set p.toNat t)⟩,0)else(⟨0,[]⟩,8)
def DV(w:Wh)(t:Int):Wh×Int:=if t<w.time∨2147483648<t then(w,8)else(⟨t,w.frm⟩,0)
def uK(m:bW)(w:Wh)(a8:List Int)(a b:Int):Int:=
 if rr m w=true∧a8≠[]∧Cg a8 m.a8.length=true then(if inT a∧inT b∧a≤b then 0 else 8)else 6
theorem p0{l:List Int}{n:Int}(h:Cg l n=true){j:Nat}(hj:j<l.length):0≤nth l j∧nth l j<n∧(0<j→nth l (j-1)<nth l j):=by
 simp only[Cg,aLx,aLu,decide_eq_true_eq]at h
 exact h j hj
theorem yT{l:List Int}{n:Int}(h:Cg l n=true):∀ {j:Nat},j<l.length→(j:Int)≤nth l j
 | 0,hj=>by have:=p0 h hj;omega
 | j+1,hj=>by
   have h1:=yT h (j:=j) (by omega)
   have:=(p0 h hj).2.2 (by omega)
   simp only[Nat.add_sub_cancel]at this
   omega
theorem p4{l:List Int}{n:Nat}(h:Cg l n=true):l.length≤n:=by
 cases hl:l.length with
 | zero=>omega
 | succ k=>
   have h1:=yT h (j:=k) (by omega)
   have h2:=(p0 h (j:=k) (by omega)).2.1
   omega
def HC(w:Wh)(t p:Int)(s:List Int×Bool):List Int×Bool:=if nth w.frm p.toNat≤t then(s.1.set p.toNat (nth w.frm p.toNat),true)else s
def VW(w:Wh)(l:List Int)(t:Int)(n:Nat):Nat→List Int×Bool
 | 0=>(yR n,false)
 | j+1=>HC w t (nth l j) (VW w l t n j)
def YM(m:bW)(w:Wh)(l:List Int)(a b:Int):Wh×Int:=
 if uK m w l a b≠0 then(w,uK m w l a b)else if a<w.time then(w,42)else
 if(VW w l b m.a8.length l.length).2=true then(⟨b,o5 m a none (VW w l b m.a8.length l.length).1⟩,0)else(w,43)
theorem sX{m:bW}{w:Wh}(h:rr m w=true):w.frm.length=m.a8.length∧inT w.time∧(∀x∈w.frm,plT x)∧o5 m w.time none w.frm=w.frm:=by
 simp only[rr,aLr,decide_eq_true_eq]at h
 obtain⟨h1,h2,h3⟩:=sW h.1
 exact⟨by omega,h2,h3,h.2⟩
def XH(l0 l:List Int):Nat→List Int
 | 0=>l0
 | j+1=>(XH l0 l j).set (nth l j).toNat 1099511627776
def YN(m:bW)(w:Wh)(l:List Int)(a b bl:Int):Wh×Int:=
 if uK m w l a b≠0 then(w,uK m w l a b)else if ¬inT bl then(w,8)else if b<w.time then(w,42)else if b-max a w.time≤bl then(w,0)else
 (⟨b,o5 m b none (o5 m (b-bl) (some l) (XH w.frm l l.length))⟩,0)
def XI(a b:List Int):Nat→List Int
 | 0=>[]
 | j+1=>XI a b j++[min (nth a j) (nth b j)]
def Ch(a b:Wh):Wh×Int:=if a.frm.length=b.frm.length then(⟨max a.time b.time,XI a.frm b.frm a.frm.length⟩,0)else(⟨0,[]⟩,6)
structure Spn where
 low:Int
 high:Int
instance : Dat Spn := ⟨⟨0, 0⟩⟩
abbrev Spn.e(f:Spn):T:= .agg [tI f.low,tI f.high]
def Spn.ok(f:Spn):Prop:= -1125899906842624≤f.low∧f.high≤1125899906842624∧f.low≤f.high
instance (f : Spn) : Decidable f.ok := by unfold Spn.ok; infer_instance
def yU(m:bW)(l:List Spn):Bool:=(List.range l.length).all (fun j=>decide (nth l j).ok)&&decide (l.length=m.roads.length)
def lF(x:Road)(f:Spn)(back:Bool):Int:=
 if x.closed=true then -1 else
 let g:=if back then -f.low else f.high
 let out:=if 0<g then(x.len*x.area*1000).tdiv g else -1
 if(if back then f.low<500*x.area else -500*x.area<f.high)∧(out<0∨x.len<out)then x.len else out
def Pr(l:List Int)(p q:Nat)(t:Int):Bool:=decide (0≤t∧nth l p+t<nth l q)
def VX(l:List Int)(p q:Nat)(t:Int):List Int:=if Pr l p q t=true then l.set q (nth l p+t)else l
def DW(m:bW)(fl:List Spn)(k:Nat)(back:Bool)(l:List Int):List Int×Bool:=
 (VX l ((nth m.roads k).src back).toNat ((nth m.roads k).dst back).toNat (lF (nth m.roads k) (nth fl k) back),Pr l ((nth m.roads k).src back).toNat ((nth m.roads k).dst back).toNat (lF (nth m.roads k) (nth fl k) back))
def Ps(m:bW)(fl:List Spn)(k:Nat)(s:List Int×Bool):List Int×Bool:=
 let a:=DW m fl k false s.1
 let b:=DW m fl k true a.1
 (b.1,s.2||a.2||b.2)
def yV(m:bW)(fl:List Spn)(l:List Int):Nat→List Int×Bool
 | 0=>(l,false)
 | k+1=>Ps m fl k (yV m fl l k)
def HD(m:bW)(fl:List Spn)(l:List Int):List Int×Bool:=yV m fl l m.roads.length
section
variable {m : bW} (h : m.ok) {fl : List Spn}
include h
end
def SU(l:List Int):Nat→List Int
 | 0=>l
 | j+1=>if 2147483648<nth (SU l j) j then(SU l j).set j 1099511627776 else SU l j
def DX(m:bW)(fl:List Spn)(l:List Int):List Int:=SU (uH (HD m fl) (XG l+1) l) m.a8.length
end Go.Ev
namespace Go.Ev
open Go
variable [Lib] [aL] [aN]
def plS(t x:Int):Prop:=x=1099511627776∨(t≤x∧x≤2147483648)
instance (t x : Int) : Decidable (plS t x) := by unfold plS; infer_instance
def yW(m:bW)(s:Wh):Bool:=(List.range s.frm.length).all (fun j=>decide (plS s.time (nth s.frm j)))&&decide (s.frm.length=m.a8.length∧inT s.time)
def HE(l:List Int)(t:Int)(n:Nat):List Int:=(List.range n).map fun(p:Nat)=>if(p:Int)∈l then t else 1099511627776
@[simp] theorem Pt (l : List Int) (t : Int) (n : Nat) : (HE l t n).length = n := by simp [HE]
def Pu(m:bW)(fl:List Spn)(l:List Int)(t:Int):Wh×Int:=
 if yU m fl=false then(⟨0,[]⟩,6)else if Cg l m.a8.length=false then(⟨0,[]⟩,3)else if ¬inT t then(⟨0,[]⟩,8)else
 (⟨t,DX m fl (HE l t m.a8.length)⟩,0)
def DY(m:bW)(fl:List Spn)(frm:List Int)(t:Int)(k:Nat)(back:Bool)(l:List Int):List Int:=
 if nth frm ((nth m.roads k).src back).toNat≤t∧0≤lF (nth m.roads k) (nth fl k) back then l.set ((nth m.roads k).dst back).toNat (min (nth l ((nth m.roads k).dst back).toNat) t)else l
def Pv(m:bW)(fl:List Spn)(frm:List Int)(t:Int)(k:Nat)(l:List Int):List Int:=DY m fl frm t k true (DY m fl frm t k false l)
def chN(m:bW)(fl:List Spn)(frm:List Int)(t:Int):Nat→List Int
 | 0=>frm
 | k+1=>Pv m fl frm t k (chN m fl frm t k)
def VY(t:Int)(l:List Int):Nat→List Int
 | 0=>l
 | k+1=>(VY t l k).set k (max (nth (VY t l k) k) t)
def HF(m:bW)(old:List Spn)(next:bW)(fl:List Spn)(s:Wh)(t:Int):Wh×Int:=
 if yW m s=false∨yU m old=false∨yU next fl=false∨next.a8.length≠m.a8.length then(s,6)else
 if t<s.time∨2147483648<t then(s,8)else(⟨t,DX next fl (VY t (chN m old s.frm t m.roads.length) m.a8.length)⟩,0)
def Pw(a b:List Int):Bool:=match (List.range (min a.length b.length)).find? (fun j=>decide (nth a j≠nth b j))with
 | some j=>decide (nth a j<nth b j)
 | none=>decide (a.length<b.length)
def lG(l:List Int)(x:Int):Int:=match (List.range l.length).find? (fun j=>decide (nth l j=x))with
 | some j=>j
 | none=> -1
def HG(l:List Int)(j:Nat):Bool:=decide (1≤nth l j∧nth l j≤65535∧lG (l.take j) (nth l j)<0)
def sY(l:List Int):Bool:=(List.range l.length).all (HG l)
structure World where
 tags:List Int
 whr:List Wh
instance : Dat World := ⟨⟨[], []⟩⟩
abbrev World.e(x:World):T:= .agg [tL x.tags,.sl (x.whr.map Wh.e)]
structure Bel where
 bI:List World
instance : Dat Bel := ⟨⟨[]⟩⟩
abbrev Bel.e(b:Bel):T:= .agg [.sl (b.bI.map World.e)]
def World.sz(x:World):Prop:=x.tags.length≤1000000∧x.whr.length≤1000000∧∀w∈x.whr,w.frm.length≤1000000
def Bel.sz(b:Bel):Prop:=b.bI.length≤1000000∧∀x∈b.bI,x.sz
@[go_sem] theorem HH (l : List Wh) : aP 2 (l.map Wh.e) = true := ew 2 _ (fun _ => rfl) l
@[go_sem] theorem AO (l : List World) : aP 2 (l.map World.e) = true := ew 2 _ (fun _ => rfl) l
@[go_sem] theorem SV (l : List Wh) : fO 2 (l.map Wh.e) = true := by cases l <;> rfl
@[go_sem] theorem HI (l : List World) : fO 2 (l.map World.e) = true := by cases l <;> rfl
def YO(m:bW)(first:List Int)(x:World)(k:Nat):Bool:=decide (0≤lG first (nth x.tags k))&&rr m (nth x.whr k)
def Px(m:bW)(ws:List World)(first:List Int)(i:Nat):Bool:=
 decide ((nth ws i).tags.length=first.length∧(nth ws i).whr.length=first.length)&&sY (nth ws i).tags&&(decide (i=0)||Pw (nth ws (i-1)).tags (nth ws i).tags)&&(List.range (nth ws i).tags.length).all (YO m first (nth ws i))
def XJ(m:bW)(b:Bel):Bool:=
 decide (1≤b.bI.length∧b.bI.length≤24)&&decide (1≤(nth b.bI 0).tags.length∧(nth b.bI 0).tags.length≤12)&&(List.range b.bI.length).all (Px m b.bI (nth b.bI 0).tags)
end Go.Ev
namespace Go.Ev.N
def yX:Nat:=78
def xo:Nat:=79
def wz:Nat:=80
def HJ:Nat:=81
def ba:Nat:=82
def HK:Nat:=83
def HL:Nat:=84
def HM:Nat:=85
def Lx:Nat:=86
def DZ:Nat:=87
def HN:Nat:=88
def D0:Nat:=89
def D1:Nat:=90
def Lz:Nat:=91
def D2:Nat:=92
def LA:Nat:=93
def Py:Nat:=94
def Pz:Nat:=95
def HO:Nat:=96
def LB:Nat:=97
def HP:Nat:=98
def HQ:Nat:=99
def HR:Nat:=100
def LC:Nat:=101
def PA:Nat:=102
def rR:Nat:=103
def Ci:Nat:=104
def D3:Nat:=105
def D4:Nat:=106
def LD:Nat:=107
def LF:Nat:=108
def HT:Nat:=109
def LG:Nat:=110
def LH:Nat:=111
def HU:Nat:=112
def HV:Nat:=113
def LI:Nat:=114
def D5:Nat:=115
def LJ:Nat:=116
def LK:Nat:=117
def D6:Nat:=118
def D7:Nat:=119
def Cj:Nat:=120
def Ck:Nat:=121
def uL:Nat:=122
end Go.Ev.N
namespace Go.Ev.K
open Go.Ev
def dR:C:= (.seq (.ite [m v3,u (.bin .gtr l0 (.i 0))] [] 0 .skip (.exit 0)) (.seq (.blk 1 (.reg [m v2,m v0,u (.ca N.av 0 [] [.l 0,.i 9]),u (.bin .sub l0 (.i 1)),u (.bs [.l 0] 1),u (.app l4 l0 true 1),x 2 l0] [])) (.reg [m v3,u (.bin .sub l0 (.i 1)),x 3 l0] [])))
def gp:C:= .loop true [1] K.dR
def ba:Fn:= { dC:=1,vars:=[0,2,3,4],body:=(q [w 1 (.mv (.c (.nil)))] [] (q [w 2 (.nw 1)] [] (.seq (q [m v0,u (.ca N.av 0 [] [.l 0,.i 5]),x 3 l0] [] (.blk 0 K.gp)) (q [m v2,x 1 l0] [] .ret)))),res:=[(1,none)]}
end Go.Ev.K
namespace Go.Ev
class bF [Lib]:Prop where
 eJ:Lib.fs N.ba=some K.ba
namespace K
variable [Lib] [bF]
theorem eJ:Lib.fs N.ba=some K.ba:=bF.eJ
end K
end Go.Ev
namespace Go.Ev.K
open Go.Ev
end Go.Ev.K
namespace Go.Ev
class bJ [Lib]:Prop where
namespace K
variable [Lib] [bJ]
end K
end Go.Ev
namespace Go.Ev
open Go
variable [Lib] [aL] [aN] [bF] [bJ]
structure PB where
 st:Int
 fi:Int
 se:Int
 ti:Int
abbrev PB.e(s:PB):T:= .agg [tI s.st,tI s.fi,tI s.se,tI s.ti]
structure wA where
 area:List Int
 hold:Int
 mis:Int
abbrev wA.e(x:wA):T:= .agg [tL x.area,tI x.hold,tI x.mis]
structure Keys where
 roads:List Int
 keys:List Int
 out:Bool
abbrev Keys.e(k:Keys):T:= .agg [tL k.roads,tL k.keys,.bool k.out]
end Go.Ev
namespace Go.Ev
open Go
variable [Lib] [aL] [aN]
@[go_sem] theorem HW (l : List Place) : fO 2 (l.map Place.e) = true := by cases l <;> rfl
@[go_sem] theorem LL (l : List Road) : fO 10 (l.map Road.e) = true := by cases l <;> rfl
@[go_sem] theorem LM (H : ab) (d : ay) : BQ H 0 1 false (some d.obj) = some (.t (tL d.L), H) := by simp only [ay.obj, go_sem]
def ay.iN(d:ay):Nat→List Place×ay
 | 0=>([],d)
 | k+1=>if k=0 then((d.iN k).1++[⟨-10*((d.iN k).2.next 4).1,true⟩],((d.iN k).2.next 4).2)
   else((d.iN k).1++[⟨-10*((d.iN k).2.next 4).1,(((d.iN k).2.next 4).2.one 6).1⟩],(((d.iN k).2.next 4).2.one 6).2)
def ay.PC(d:ay)(i:Int):Road×ay:=
 (⟨i-1-(d.next (min i 2)).1,i,1+((d.next (min i 2)).2.of [11,59,119,4]).1,1+(((d.next (min i 2)).2.of [11,59,119,4]).2.of [9,3,19]).1,true,false,1,1,0,0⟩,
   (((d.next (min i 2)).2.of [11,59,119,4]).2.of [9,3,19]).2)
def ay.uM(d:ay):Nat→List Road×ay
 | 0=>([],d)
 | k+1=>((d.uM k).1++[((d.uM k).2.PC (k+1)).1],((d.uM k).2.PC (k+1)).2)
def ay.Cl(d:ay)(n:Int):Road×ay:=
 let a:=d.next n
 let b:=a.2.next n
 let l:=b.2.of [11,59,199]
 let r:=l.2.of [9,3]
 let w:=r.2.next 5
 let c:=w.2.one 6
 (⟨a.1,b.1,1+l.1,1+r.1,decide (0<w.1),c.1,1,1,0,0⟩,c.2)
def ay.more(n:Int)(l:List Road)(d:ay):Nat→List Road×ay
 | 0=>(l,d)
 | k+1=>if l.length<10 then ay.more n (if(d.Cl n).1.frm=(d.Cl n).1.to then l else l++[(d.Cl n).1]) (d.Cl n).2 k else(l,d)
def ay.HX(d:ay):Nat:=if d.L.length=0 then 4 else(2+(d.next 6).1).toNat
def ay.PD(d:ay):List Place×ay:=(d.next 6).2.iN d.HX
def ay.HY(d:ay):List Road×ay:=d.PD.2.uM (d.HX-1)
def ay.PE(d:ay):List Road×ay:=ay.more d.HX d.HY.1 (d.HY.2.next 4).2 (d.HY.2.next 4).1.toNat
def ay.Y0(d:ay):bW×ay:=(⟨d.PD.1,d.PE.1⟩,d.PE.2)
@[go_sem] theorem PF (l : List Spn) : fO 2 (l.map Spn.e) = true := by cases l <;> rfl
@[go_sem] theorem VZ (l : List Spn) (k : Nat) (a b : Int) : (List.map D.t (List.map Spn.e l)).set k (D.t (T.agg [tI a, tI b])) = List.map D.t (List.map Spn.e (l.set k ⟨a, b⟩)) := by
 rw[List.map_set,List.map_set]
@[go_sem] theorem XK (H : ab) (sz : Nat) (a b c d e f : T) : oY H sz [.t a, .t b, .t c, .t d, .t e, .t f] = if aP sz [a, b, c, d, e, f] = true then some (.t (.sl [a, b, c, d, e, f]), H) else none := iI H sz [a, b, c, d, e, f]
@[go_sem] theorem XL (H : ab) (sz : Nat) (a b c d e f g : T) : oY H sz [.t a, .t b, .t c, .t d, .t e, .t f, .t g] = if aP sz [a, b, c, d, e, f, g] = true then some (.t (.sl [a, b, c, d, e, f, g]), H) else none := iI H sz [a, b, c, d, e, f, g]
@[go_sem] theorem XM (H : ab) (sz : Nat) (a b c d e f g h : T) : oY H sz [.t a, .t b, .t c, .t d, .t e, .t f, .t g, .t h] = if aP sz [a, b, c, d, e, f, g, h] = true then some (.t (.sl [a, b, c, d, e, f, g, h]), H) else none := iI H sz [a, b, c, d, e, f, g, h]
@[go_sem] theorem PG {α β γ : Type} {l : List α} {g : α → β} {f : β → γ} {x : γ} {j : Nat} (h : j = l.length) : (List.map f (List.map g l) ++ [x])[j]? = some x := by
 rw[aLh (by simp;omega)];simp[h]
@[go_sem] theorem SW {α β γ : Type} {l : List α} {g : α → β} {f : β → γ} {x y : γ} {j : Nat} (h : j = l.length) : (List.map f (List.map g l) ++ [x]).set j y = List.map f (List.map g l) ++ [y] := by
 rw[List.set_append_right _ _ (by simp;omega)];simp[h]
def ay.PH(d:ay):Spn×ay:=
 let a:=d.of [0,1000,5000,20000, -5000, -20000,4999,100]
 let b:=a.2.of [0,1,1000,6000]
 let c:=b.2.of [0,1,500]
 let w:=c.2.one 9
 (if w.1=true then⟨-1125899906842624,1125899906842624⟩else⟨a.1-b.1,a.1+c.1⟩,w.2)
def ay.uN(d:ay):Nat→List Spn×ay
 | 0=>([],d)
 | k+1=>((d.uN k).1++[((d.uN k).2.PH).1],((d.uN k).2.PH).2)
def ay.V0(d:ay)(m:bW):List Spn×ay:=d.uN m.roads.length
theorem yY{gc:Bool}{dead:List Nat}{c:C}{vs:List D}{H:ab}(P:Nat→St→Prop)(n:Nat)(Q:Ex×St→Prop)(h0:P 0 ⟨eE dead vs,H⟩)
 (hs:∀j st,j<n→P j st→(∃st',gX gc dead st.H.length (exS bV c st)=some st'∧P (j+1) st')∨∃q,exS bV c st=some q∧q.1≠ .normal∧Q q)
 (he:∀st,P n st→∃q,exS bV c st=some q∧q.1≠ .normal∧Q q):∃q,exS bV (.loop gc dead c) ⟨vs,H⟩=some q∧Q q:=by
 have key:∀(k j:Nat) (st:St),j+k=n→P j st→∃q,ji gc dead (exS bV c) st=some q∧Q q:=by
  intro k
  induction k with
  | zero=>
    intro j st hj hp
    obtain⟨q,h1,h2,h3⟩:=he st (by rw[← hj];exact hp)
    exact⟨q,eY h1 h2,h3⟩
  | succ k ih=>
    intro j st hj hp
    rcases hs j st (by omega) hp with⟨st',h1,h2⟩ | ⟨q,h1,h2,h3⟩
    · obtain⟨q,h3,h4⟩:=ih (j+1) st' (by omega) h2
      exact⟨q,oW h1 h3,h4⟩
    · exact⟨q,eY h1 h2,h3⟩
 exact key n 0 _ (by omega) h0
theorem PI(l:List Int):bV 0 N.dr [.t (tL l)] []=some (.bp 0 0,[ay.obj ⟨l,0⟩]):=by
 refine bS K.jN rfl ?_
 simp(disch:=omega)only[go_sem,K.dr,↓reduceIte,ay.obj,reduceAdd,reduceSub]
end Go.Ev
namespace Go.Ev
open Go
variable [Lib] [aL] [aN] [bF] [bJ]
abbrev never:Int:=1099511627776
abbrev Wh.box(w:Wh):Obj:= .box [I w.time,.t (tL w.frm)]
structure Req where
 x:wA
 s:PB
 k:Keys
 b:Bel
 t:Int
 from_:Int
abbrev Req.e(r:Req):T:= .agg [tL r.x.area,tI r.x.hold,tI r.x.mis,tI r.s.st,tI r.s.fi,tI r.s.se,tI r.s.ti,tL r.k.roads,tL r.k.keys,.bool r.k.out,.sl (r.b.bI.map World.e),tI r.t,tI r.from_]
structure Req.sz(r:Req):Prop where
 hx:r.x.area.length≤1000000
 hk:r.k.roads.length≤1000000
 hk2:r.k.keys.length≤1000000
 hb:r.b.sz
section
variable (x : wA) (s : PB) (k : Keys) (b : Bel) (hx : x.area.length ≤ 1000000) (hk : k.roads.length ≤ 1000000) (hk2 : k.keys.length ≤ 1000000) (hb : b.sz)
include hx hk hk2 hb
end
end Go.Ev
namespace Go.Ev
open Go
variable [Lib] [aL] [aN] [bF] [bJ]
section
variable (area : List Int) (ha : area.length ≤ 1000000) (xs : List World) (hx : xs.length ≤ 1000000)
include ha hx
end
end Go.Ev
namespace Go.Ev
open Go
section
variable (H : ab) (sz id ep n lo hi : Nat) (i j : Int) (fz : Bool)
def scO(r:D):Option Obj→Option (D×ab)
 | some (.arr sz' _ ep' es)=>if ep=ep'∧n=es.length then(if sz'=sz then some (r,H)else none)else none
 | _=>none
@[go_sem] theorem V1 (r : D) (sz' : Nat) (pin : Bool) (es : List D) : scO H sz ep n r (some (.arr sz' pin ep es)) = if n = es.length then (if sz' = sz then some (r, H) else none) else none := by simp [scO]
theorem scR{l h:Nat}:((b5 H id ep n).bind fun a=>if l≤h∧h≤n∧a.1=sz then some (D.sub id ep n l h)else none).map (fun d=>(d,H))=if l≤h then(if h≤n then scO H sz ep n (.sub id ep n l h) H[id]? else none)else none:=by
 simp only[b5]
 generalize H[id]?=o
 by_cases h1:l≤h
 · by_cases h2:h≤n
   · rw[if_pos h1,if_pos h2]
     rcases o with _ | (_ | ⟨sz',pin,ep',es⟩)
     · rfl
     · rfl
     · simp only[scO]
       by_cases h3:ep=ep'∧n=es.length
       · rw[if_pos h3,if_pos h3,aLq]
         by_cases h4:sz'=sz
         · rw[if_pos h4,if_pos ⟨h1,h2,h4⟩];rfl
         · rw[if_neg h4,if_neg fun h=>h4 h.2.2];rfl
       · rw[if_neg h3,if_neg h3];rfl
   · rw[if_pos h1,if_neg h2]
     rcases o with _ | (_ | ⟨sz',pin,ep',es⟩)
     · rfl
     · rfl
     · by_cases h3:ep=ep'∧n=es.length
       · simp only[if_pos h3,aLq];rw[if_neg fun h=>h2 h.2.1];rfl
       · simp only[if_neg h3];rfl
 · rw[if_neg h1]
   rcases o with _ | (_ | ⟨sz',pin,ep',es⟩)
   · rfl
   · rfl
   · by_cases h3:ep=ep'∧n=es.length
     · simp only[if_pos h3,aLq];rw[if_neg fun h=>h1 h.1];rfl
     · simp only[if_neg h3];rfl
@[go_sem] theorem HZ : q9 H sz (some (.ref id ep n)) (some none) (some (some i)) = if 0 ≤ i then (if i ≤ n then scO H sz ep n (.sub id ep n 0 i.toNat) H[id]? else none) else none := by
 simp only[q9,aLq,fF,bound,idx]
 by_cases h1:0≤i
 · rw[if_pos h1,if_pos h1,aLq,scR,if_pos (Nat.zero_le _)]
   by_cases h2:i≤n
   · rw[if_pos h2,if_pos (by omega)]
   · rw[if_neg h2,if_neg (by omega)]
 · rw[if_neg h1,if_neg h1];rfl
@[go_sem] theorem H3 : q9 H sz (some (.ref id ep n)) (some (some i)) (some none) = if 0 ≤ i then (if i ≤ n then scO H sz ep n (.sub id ep n i.toNat n) H[id]? else none) else none := by
 simp only[q9,aLq,fF,bound,idx]
 by_cases h1:0≤i
 · rw[if_pos h1,if_pos h1,aLq,scR]
   by_cases h2:i≤n
   · rw[if_pos h2,if_pos (by omega),if_pos (by omega)]
   · rw[if_neg h2,if_neg (by omega)]
 · rw[if_neg h1,if_neg h1];rfl
@[go_sem] theorem Cm : q9 H sz (some (.ref id ep n)) (some (some i)) (some (some j)) = if 0 ≤ i then (if i ≤ j then (if j ≤ n then scO H sz ep n (.sub id ep n i.toNat j.toNat) H[id]? else none) else none) else none := by
 simp only[q9,aLq,fF,bound,idx]
 by_cases h1:0≤i
 · rw[if_pos h1,if_pos h1,aLq]
   by_cases h0:i≤j
   · rw[if_pos h0,if_pos (by omega),aLq,scR,if_pos (by omega)]
     by_cases h2:j≤n
     · rw[if_pos h2,if_pos (by omega)]
     · rw[if_neg h2,if_neg (by omega)]
   · rw[if_neg h0]
     by_cases h2:0≤j
     · rw[if_pos h2,aLq,scR,if_neg (by omega)]
     · rw[if_neg h2];rfl
 · rw[if_neg h1,if_neg h1];rfl
@[go_sem] theorem H4 : q9 H sz (some .nil) (some none) (some (some i)) = if i = 0 then some (.nil, H) else none := by
 simp only[q9,aLq,fF,bound,idx]
 by_cases h1:0≤i
 · rw[if_pos h1,aLq]
   by_cases h2:i=0
   · rw[if_pos h2,if_pos (by omega)];rfl
   · rw[if_neg h2,if_neg (by omega)];rfl
 · rw[if_neg h1,if_neg (by omega)];rfl
@[go_sem] theorem H5 : q9 H sz (some .nil) (some (some i)) (some none) = if i = 0 then some (.nil, H) else none := by
 simp only[q9,aLq,fF,bound,idx]
 by_cases h1:0≤i
 · rw[if_pos h1,aLq]
   by_cases h2:i=0
   · rw[if_pos h2,if_pos (by omega)];rfl
   · rw[if_neg h2,if_neg (by omega)];rfl
 · rw[if_neg h1,if_neg (by omega)];rfl
def s7(x:D)(ys:List D):Option (D×ab):=if aJ sz ys=true then(match x with
 | .nil=>if ys.length≤4294967296 then some (.ref H.length 0 ys.length,H++[.arr sz false 0 ys])else none
 | .ref id ep n=>mq H sz id ep n ys H[id]?
 | .cl es=>if 0<ys.length∧es.length+ys.length≤lim∧aJ sz (es.map .t)=true then some (.ref H.length 0 (es.map D.t++ys).length,H++[.arr sz false 0 (es.map .t++ys)])else none
 | _=>none)else none
@[go_sem] theorem SX (ys : List D) : s7 H sz .nil ys = if aJ sz ys = true then (if ys.length ≤ 4294967296 then some (.ref H.length 0 ys.length, H ++ [.arr sz false 0 ys]) else none) else none := (rfl)
@[go_sem] theorem SY (ys : List D) : s7 H sz (.ref id ep n) ys = if aJ sz ys = true then mq H sz id ep n ys H[id]? else none := (rfl)
@[go_sem] theorem V2 (es : List T) (ys : List D) : s7 H sz (.cl es) ys = if aJ sz ys = true then (if 0 < ys.length ∧ es.length + ys.length ≤ 4294967296 ∧ aJ sz (es.map .t) = true then some (.ref H.length 0 (es.map D.t ++ ys).length, H ++ [.arr sz false 0 (es.map .t ++ ys)]) else none) else none := (rfl)
@[go_sem] theorem D8 : aJ sz [] = true := (rfl)
@[go_sem] theorem Cn (d : D) (r : List D) : aJ sz (d :: r) = fM sz d.cells := by
 rw[Bool.eq_iff_iff,b7];simp[aJ]
def PJ(x:D):Option Obj→Option (D×ab)
 | some (.arr _ _ ep' es)=>if ep=ep'∧n=es.length then s7 H sz x ((es.drop lo).take (hi-lo))else none
 | _=>none
def PL(x:D):Option Obj→Option (D×ab)
 | some (.arr _ _ ep' es)=>if ep=ep'∧n=es.length then s7 H sz x es else none
 | _=>none
@[go_sem] theorem SZ (x : D) (sz' : Nat) (pin : Bool) (es : List D) : PJ H sz ep n lo hi x (some (.arr sz' pin ep es)) = if n = es.length then s7 H sz x ((es.drop lo).take (hi - lo)) else none := by simp [PJ]
@[go_sem] theorem S0 (x : D) (sz' : Nat) (pin : Bool) (es : List D) : PL H sz ep n x (some (.arr sz' pin ep es)) = if n = es.length then s7 H sz x es else none := by simp [PL]
theorem yZ(x:D)(ys:List D):(if aJ sz ys=true then(match x with
 | .nil=>if ys.length≤lim then some (D.ref H.length 0 ys.length,H++[.arr sz false 0 ys])else none
 | .ref id ep n=>(b5 H id ep n).bind fun a=>if a.1=sz∧n+ys.length≤lim then some (.ref id ep (n+ys.length),H.set id (.arr sz a.2.1 ep (a.2.2++ys)))else none
 | .cl es=>if 0<ys.length∧es.length+ys.length≤lim∧aJ sz (es.map .t)=true then some (.ref H.length 0 (es.map D.t++ys).length,H++[.arr sz false 0 (es.map .t++ys)])else none
 | _=>none)else none)=s7 H sz x ys:=by
 unfold s7
 split
 · cases x with
   | ref id ep n=>
     simp only[b5]
     generalize H[id]?=o
     rcases o with _ | (_ | ⟨sz',pin,ep',es⟩)
     · rfl
     · rfl
     · simp only[mq]
       by_cases h1:ep=ep'∧n=es.length
       · rw[if_pos h1,aLq]
         by_cases h2:sz'=sz∧n+ys.length≤lim
         · rw[if_pos h2,if_pos ⟨h1.1,h1.2,h2⟩]
         · rw[if_neg h2,if_neg fun h=>h2 h.2.2]
       · rw[if_neg h1,if_neg fun h=>h1 ⟨h.1,h.2.1⟩];rfl
   | _=>rfl
 · rfl
theorem lH(x y:D)(ys:List D)(h:elems H y=some ys):fN H sz false (some x) (some y)=s7 H sz x ys:=by
 simp only[fN,aLq,eD,h,aLt,if_false]
 exact yZ H sz x ys
@[go_sem] theorem AP (x : D) : fN H sz false (some x) (some .nil) = s7 H sz x [] := lH H sz x .nil [] rfl
@[go_sem] theorem AQ (x : D) : fN H sz false (some x) (some (.ref id ep n)) = PL H sz ep n x H[id]? := by
 cases he:elems H (.ref id ep n)with
 | some ys=>
   rw[lH H sz x _ ys he]
   simp only[elems,b5]at he
   generalize H[id]?=o at he
   rcases o with _ | (_ | ⟨sz',pin,ep',es⟩)
   · cases he
   · cases he
   · simp only[PL]
     by_cases h1:ep=ep'∧n=es.length
     · simp only[if_pos h1]at he ⊢;cases he;rfl
     · simp only[if_neg h1]at he;cases he
 | none=>
   have:fN H sz false (some x) (some (.ref id ep n))=none:=by simp only[fN,aLq,eD,he];rfl
   rw[this]
   simp only[elems,b5]at he
   generalize H[id]?=o at he
   rcases o with _ | (_ | ⟨sz',pin,ep',es⟩)
   · rfl
   · rfl
   · simp only[PL]
     by_cases h1:ep=ep'∧n=es.length
     · simp only[if_pos h1]at he;cases he
     · simp only[if_neg h1]
@[go_sem] theorem AR (x : D) : fN H sz false (some x) (some (.sub id ep n lo hi)) = PJ H sz ep n lo hi x H[id]? := by
 cases he:elems H (.sub id ep n lo hi)with
 | some ys=>
   rw[lH H sz x _ ys he]
   simp only[elems,b5]at he
   generalize H[id]?=o at he
   rcases o with _ | (_ | ⟨sz',pin,ep',es⟩)
   · cases he
   · cases he
   · simp only[PJ]
     by_cases h1:ep=ep'∧n=es.length
     · simp only[if_pos h1]at he ⊢;cases he;rfl
     · simp only[if_neg h1]at he;cases he
 | none=>
   have:fN H sz false (some x) (some (.sub id ep n lo hi))=none:=by simp only[fN,aLq,eD,he];rfl
   rw[this]
   simp only[elems,b5]at he
   generalize H[id]?=o at he
   rcases o with _ | (_ | ⟨sz',pin,ep',es⟩)
   · rfl
   · rfl
   · simp only[PJ]
     by_cases h1:ep=ep'∧n=es.length
     · simp only[if_pos h1]at he;cases he
     · simp only[if_neg h1]
def LN(ep n lo hi:Nat):Option Obj→Option (List D)
 | some (.arr _ _ ep' es)=>if ep=ep'∧n=es.length then some ((es.drop lo).take (hi-lo))else none
 | _=>none
def S1(x:D):Option (List D)→Option (D×ab)
 | some ys0=>(aE (fun d=>(frz H depth d).map .t) ys0).bind fun ys=>if aJ sz ys then s7 (pins H (ys0.flatMap (bH H depth))) sz x ys else none
 | none=>none
@[go_sem] theorem XN (x : D) (ts : List T) : S1 H sz x (some (ts.map .t)) = s7 H sz x (ts.map .t) := by
 simp only[S1,kx,aLq,yA,pins]
 by_cases h:aJ sz (ts.map D.t)=true
 · rw[if_pos h]
 · rw[if_neg h];unfold s7;rw[if_neg h]
@[go_sem] theorem Co (x : D) : fN H sz true (some x) (some (.sub id ep n lo hi)) = S1 H sz x (LN ep n lo hi H[id]?) := by
 have e:elems H (.sub id ep n lo hi)=LN ep n lo hi H[id]?:=by
  simp only[elems,b5]
  generalize H[id]?=o
  rcases o with _ | (_ | ⟨sz',pin,ep',es⟩)
  · rfl
  · rfl
  · simp only[LN]
    by_cases h1:ep=ep'∧n=es.length
    · simp only[if_pos h1];rfl
    · simp only[if_neg h1];rfl
 simp only[fN,aLq,eD,e]
 cases LN ep n lo hi H[id]? with
 | none=>rfl
 | some ys0=>
   simp only[aLq,S1,if_true]
   cases hm:aE (fun d=>(frz H depth d).map D.t) ys0 with
   | none=>rfl
   | some ys=>
     simp only[aLq]
     refine(yZ _ _ _ _).trans ?_
     by_cases h:aJ sz ys=true
     · rw[if_pos h]
     · rw[if_neg h];unfold s7;rw[if_neg h]
@[go_sem] theorem S3 (ep n lo hi sz : Nat) (pin : Bool) (ts : List T) : LN ep n lo hi (some (.arr sz pin ep (ts.map .t))) = if n = ts.length then some (((ts.drop lo).take (hi - lo)).map .t) else none := by
 simp only[LN,true_and,List.length_map,List.map_take,List.map_drop]
def y4(ds:List D):Option (D×ab):=if ds.all (fun d=>d.cells.length==sz&&d.cV)then some (.ref H.length 0 ds.length,H++[.arr sz false 0 ds])else none
@[go_sem] theorem XO (call : ak) (get : X → Option D) (xs : List X) : evO call get H (.bsr xs sz) = (aE get xs).bind (y4 H sz) := (rfl)
@[go_sem] theorem PM : y4 H sz [] = some (.ref H.length 0 0, H ++ [.arr sz false 0 []]) := (rfl)
@[go_sem] theorem PN (k : IntKind) (n : Int) : y4 H 1 [.t (.int k n)] = some (.ref H.length 0 1, H ++ [.arr 1 false 0 [.t (.int k n)]]) := (rfl)
@[go_sem] theorem PO (cs : List D) : y4 H sz [.agg cs] = if fM sz cs = true then some (.ref H.length 0 1, H ++ [.arr sz false 0 [.agg cs]]) else none := by
 simp only[y4,List.all_cons,List.all_nil,Bool.and_true,D.cells,D.cV]
 by_cases h:fM sz cs=true
 · rw[if_pos h,if_pos (by simpa using b7.1 h)];rfl
 · rw[if_neg h,if_neg (by intro e;exact h (b7.2 (by simpa using e)))]
end
@[go_sem] theorem D9 : (1 : Int).toNat = 1 := (rfl)
@[go_sem] theorem H6 : (2 : Int).toNat = 2 := (rfl)
@[go_sem] theorem Cp : (3 : Int).toNat = 3 := (rfl)
section
variable {H t : ab} {i j k : Nat} {o o' : Obj}
theorem mz(h:i<H.length):(H++t)[i]?=H[i]?:=aLg h
theorem wB(h:i<H.length):(H.set i o)[i]?=some o:=by simp[h]
theorem iP(h:i≠j):(H.set i o)[j]?=H[j]?:=aLi h
theorem p5(h:H[i]?=some o):i<H.length:=(aLe.1 h).1
end
end Go.Ev
namespace Go.Ev.N
def y5:Nat:=123
def xp:Nat:=124
def AS:Nat:=125
def y6:Nat:=126
def H7:Nat:=127
def H8:Nat:=128
def H9:Nat:=129
def LO:Nat:=130
def LP:Nat:=131
def Ia:Nat:=132
def Ib:Nat:=133
def Cq:Nat:=134
def Cr:Nat:=135
def LQ:Nat:=136
def Ic:Nat:=137
def Cs:Nat:=138
def Ea:Nat:=139
def AT:Nat:=140
def Eb:Nat:=141
def Ct:Nat:=142
def y7:Nat:=143
def y8:Nat:=144
def y9:Nat:=145
def Ec:Nat:=146
def Ed:Nat:=147
def wC:Nat:=148
end Go.Ev.N
namespace Go.Ev.N
def uO:Nat:=149
def za:Nat:=150
def zb:Nat:=151
def xq:Nat:=152
def Ie:Nat:=153
def Ig:Nat:=154
def Ee:Nat:=155
def Ef:Nat:=156
def Ih:Nat:=157
def LR:Nat:=158
def Ii:Nat:=159
def ru:Nat:=160
def uP:Nat:=161
def Ij:Nat:=162
def LS:Nat:=163
def Eg:Nat:=164
def LV:Nat:=165
def Eh:Nat:=166
def LW:Nat:=167
def jk:Nat:=168
def Cu:Nat:=169
def Cv:Nat:=170
def wD:Nat:=171
def Cw:Nat:=172
def LX:Nat:=173
def jW:Nat:=174
def zc:Nat:=175
def zd:Nat:=176
def Ik:Nat:=177
end Go.Ev.N
namespace Go.Ev.K
open Go.Ev
end Go.Ev.K
namespace Go.Ev
class bL [Lib]:Prop where
namespace K
variable [Lib] [bL]
end K
end Go.Ev
namespace Go.Ev.K
open Go.Ev
end Go.Ev.K
namespace Go.Ev
class bM [Lib]:Prop where
namespace K
variable [Lib] [bM]
end K
end Go.Ev
namespace Go.Ev
open Go
variable [Lib] [aL] [aN] [bL] [bM]
section
variable (H : ab) (sz : Nat)
def Ei(id ep n lo hi:Nat)(ys:List D):Option Obj→Option (D×ab)
 | some (.arr sz' pin ep' es)=>if ep=ep'∧n=es.length then E8 H id ep (sz',pin,es) lo hi ys sz else none
 | _=>none
def cpD(x:D)(ys:List D):Option (D×ab):=if aJ sz ys=true then(match x with
 | .ref id ep n=>Ei H sz id ep n 0 n ys H[id]?
 | .sub id ep n lo hi=>Ei H sz id ep n lo hi ys H[id]?
 | _=>none)else none
def S4(x y:Option D):Option (D×ab):=x.bind fun a=>y.bind fun b=>pv H a b sz
@[go_sem] theorem YP (call : ak) (get : X → Option D) (x y : X) : evO call get H (.cp x y sz) = S4 H sz (get x) (get y) := (rfl)
theorem uQ(x y:D)(ys:List D)(h:elems H y=some ys):pv H x y sz=cpD H sz x ys:=by
 unfold pv cpD
 rw[h,aLq]
 split
 · rename_i hh
   cases x with
   | ref id ep n=>
     simp only[b5,Ei]
     cases H[id]? with
     | none=>rfl
     | some o=>
       cases o with
       | box cs=>rfl
       | arr sz' pin ep' es=>
         simp only
         by_cases c:ep=ep'∧n=es.length
         · rw[if_pos c,if_pos c];rfl
         · rw[if_neg c,if_neg c];rfl
   | sub id ep n lo hi=>
     simp only[b5,Ei]
     cases H[id]? with
     | none=>rfl
     | some o=>
       cases o with
       | box cs=>rfl
       | arr sz' pin ep' es=>
         simp only
         by_cases c:ep=ep'∧n=es.length
         · rw[if_pos c,if_pos c];rfl
         · rw[if_neg c,if_neg c];rfl
   | _=>rfl
 · rfl
@[go_sem] theorem XP (x : D) (ts : List T) : S4 H sz (some x) (some (.t (.sl ts))) = cpD H sz x (ts.map .t) := uQ H sz x (.t (.sl ts)) (ts.map .t) rfl
def cpE(x:D)(ep n lo hi:Nat):Option Obj→Option (D×ab)
 | some (.arr _ _ ep' es)=>if ep=ep'∧n=es.length then cpD H sz x ((es.drop lo).take (hi-lo))else none
 | _=>none
@[go_sem] theorem V3 (x : D) (n lo hi sz' : Nat) (pin : Bool) (ep : Nat) (es : List D) : cpE H sz x ep n lo hi (some (.arr sz' pin ep es)) = if n = es.length then cpD H sz x ((es.drop lo).take (hi - lo)) else none := by simp [cpE]
@[go_sem] theorem S5 (x : D) (id ep n lo hi : Nat) : S4 H sz (some x) (some (.sub id ep n lo hi)) = cpE H sz x ep n lo hi H[id]? := by
 unfold S4
 simp only[aLq]
 cases h:H[id]? with
 | none=>simp[pv,elems,b5,h,cpE]
 | some o=>
   cases o with
   | box cs=>simp[pv,elems,b5,h,cpE]
   | arr sz' pin ep' es=>
     by_cases c:ep=ep'∧n=es.length
     · rw[uQ H sz x _ ((es.drop lo).take (hi-lo)) (by simp[elems,b5,h,c])]
       simp only[cpE,if_pos c]
     · simp[pv,elems,b5,h,cpE,c]
@[go_sem] theorem V4 (id ep n : Nat) (ys : List D) : cpD H sz (.ref id ep n) ys = if aJ sz ys = true then Ei H sz id ep n 0 n ys H[id]? else none := (rfl)
@[go_sem] theorem V5 (id ep n lo hi : Nat) (ys : List D) : cpD H sz (.sub id ep n lo hi) ys = if aJ sz ys = true then Ei H sz id ep n lo hi ys H[id]? else none := (rfl)
@[go_sem] theorem S6 (id n lo hi : Nat) (ys : List D) (ep : Nat) (es : List D) : Ei H sz id ep n lo hi ys (some (.arr sz false ep es)) =
 if n=es.length then(if min ys.length (hi-lo)=0 then some (.t (.int .i64 0),H)else some (.t (.int .i64 ((min ys.length (hi-lo):Nat):Int)),H.set id (.arr sz false ep (es.take lo++ys.take (min ys.length (hi-lo))++es.drop (lo+min ys.length (hi-lo))))))else none:=by
 simp[Ei,E8]
end
end Go.Ev
namespace Go.Ev
open Go
variable [Lib] [aL] [aN] [bL] [bM]
end Go.Ev
namespace Go.Ev.N
def wE:Nat:=178
def wF:Nat:=179
def xr:Nat:=180
def wG:Nat:=181
def xt:Nat:=182
def ze:Nat:=183
def xv:Nat:=184
def Il:Nat:=185
def Ej:Nat:=186
def Im:Nat:=187
def zf:Nat:=188
def Io:Nat:=189
def Ek:Nat:=190
def El:Nat:=191
def LY:Nat:=192
def Cx:Nat:=193
def Em:Nat:=194
def Ip:Nat:=195
def LZ:Nat:=196
def PQ:Nat:=197
def AU:Nat:=198
def AV:Nat:=199
def L0:Nat:=200
def Cy:Nat:=201
def rS:Nat:=202
def En:Nat:=203
def az:Nat:=204
def zg:Nat:=205
def Iq:Nat:=206
def Eo:Nat:=207
def zh:Nat:=208
def xw:Nat:=209
def zi:Nat:=210
def PR:Nat:=211
def PS:Nat:=212
def PT:Nat:=213
def L3:Nat:=214
end Go.Ev.N
namespace Go.Ev.K
open Go.Ev
end Go.Ev.K
namespace Go.Ev
class cC [Lib]:Prop where
namespace K
variable [Lib] [cC]
end K
end Go.Ev
namespace Go.Ev.K
open Go.Ev
def az:Fn:= { dC:=1,vars:=[0,2],body:=(q [w 1 (.mv (.c (.nil)))] [] (.itk [m v0,u (.eqk (.sl) false l0 (.c (.nil)))] [] 0 (q [w 1 (.nw 1)] [] .ret) .skip (q [u (.bsr [] 1),m v0,u (.app l1 l0 false 1),x 1 l0] [] .ret))),res:=[(1,none)]}
end Go.Ev.K
namespace Go.Ev
class cA [Lib]:Prop where
 cP:Lib.fs N.az=some K.az
namespace K
variable [Lib] [cA]
theorem cP:Lib.fs N.az=some K.az:=cA.cP
end K
end Go.Ev
namespace Go.Ev
open Go
variable [Lib] [aL] [aN] [bL] [bM] [cC] [cA]
abbrev cK(l:List Int):Obj:= .arr 1 false 0 ((l.map (T.int .i64)).map .t)
theorem zj(l:List Int)(hl:l.length≤1000000):bV 1 N.az [.t (tL l)] []=some (.ref 0 0 l.length,[cK l]):=by
 refine bS K.cP rfl ?_
 by_cases h0:l=[]
 · subst h0
   simp only[tL,List.map_nil]
   simp(disch:=omega)only[go_sem,K.az,↓reduceIte,List.map_nil,List.length_nil,reduceAdd,reduceSub]
   rfl
 · have e:=fun H=>BN H (l.map (T.int .i64)) (by simpa using h0)
   simp(disch:=omega)only[go_sem,K.az,↓reduceIte,e,reduceAdd,reduceSub]
end Go.Ev
namespace Go.Ev.K
open Go.Ev
end Go.Ev.K
namespace Go.Ev
class cT [Lib]:Prop where
namespace K
variable [Lib] [cT]
end K
end Go.Ev
namespace Go.Ev.N
def AX:Nat:=215
def AY:Nat:=216
def AZ:Nat:=217
def Ir:Nat:=218
def Is:Nat:=219
def It:Nat:=220
def L4:Nat:=221
def L5:Nat:=222
def L6:Nat:=223
def PU:Nat:=224
def Iu:Nat:=225
def Iv:Nat:=226
def Iw:Nat:=227
def PV:Nat:=228
def Ix:Nat:=229
def Iy:Nat:=230
def L7:Nat:=231
def Ep:Nat:=232
def L8:Nat:=233
def Er:Nat:=234
def Es:Nat:=235
def Et:Nat:=236
def L9:Nat:=237
def Eu:Nat:=238
def PW:Nat:=239
def PX:Nat:=240
def s8:Nat:=241
def Ma:Nat:=242
def Iz:Nat:=243
def A0:Nat:=244
end Go.Ev.N
namespace Go.Ev.K
open Go.Ev
end Go.Ev.K
namespace Go.Ev
class aZ [Lib]:Prop where
namespace K
variable [Lib] [aZ]
end K
end Go.Ev
namespace Go.Ev
open Go
variable [Lib] [aL] [aN] [bF] [bJ] [cT] [bL] [bM] [cC] [cA] [aZ]
end Go.Ev
namespace Go.Ev
open Go
theorem s9{d:D}{n:Int}(h:tV d=some n):d= .t (.int .i64 n):=by
 unfold tV at h
 split at h
 · cases h;rfl
 · cases h
theorem zk:∀ {es:List D} {l:List Int},aE tV es=some l→es=l.map fun x=> .t (.int .i64 x)
 | [],l,h=>by simp[aE]at h;subst h;rfl
 | e::r,l,h=>by
   simp only[aE,aLa,aLb]at h
   obtain⟨x,hx,y,hy,rfl⟩:=h
   rw[s9 hx,zk hy];rfl
theorem nW(x:Int):∀l,(Fa x l).Perm (x::l)
 | []=> .refl _
 | y::r=>by
   unfold Fa
   split
   · exact .refl _
   · exact((nW x r).cons y).trans (.swap x y r)
theorem i9:∀l,(cU l).Perm l
 | []=> .refl _
 | x::r=>(nW x _).trans ((i9 r).cons x)
theorem zl{x:Int}:∀ {l:List Int},l.Pairwise (· ≤ ·)→(Fa x l).Pairwise (· ≤ ·)
 | [],_=>by simp[Fa]
 | y::r,h=>by
   unfold Fa
   split
   · rename_i hx
     refine List.pairwise_cons.2 ⟨fun z hz=>?_,h⟩
     rcases List.mem_cons.1 hz with rfl | hz
     · exact hx
     · have:=(List.pairwise_cons.1 h).1 z hz;omega
   · rename_i hx
     have h':=List.pairwise_cons.1 h
     refine List.pairwise_cons.2 ⟨fun z hz=>?_,zl h'.2⟩
     have hz:=(nW x r).mem_iff.1 hz
     rcases List.mem_cons.1 hz with rfl | hz
     · omega
     · exact h'.1 z hz
theorem mT:∀l,(cU l).Pairwise (· ≤ ·)
 | []=> .nil
 | x::r=>zl (mT r)
theorem dv(l:List Int):(cU l).length=l.length:=(i9 l).length_eq
theorem p6(l:List Int):(l.mergeSort fun x y=>decide (x≤y))=cU l:=by
 refine List.Perm.eq_of_pairwise (le:=(· ≤ ·)) (fun a b _ _ h1 h2=>by omega) ?_ (mT l) ((List.mergeSort_perm _ _).trans (i9 l).symm)
 have:=List.pairwise_mergeSort (le:=fun x y:Int=>decide (x≤y)) (fun a b c=>by simp;omega) (fun a b=>by simp;omega) l
 exact this.imp (by simp)
end Go.Ev
namespace Go.Ev
open Go
variable [Lib] [aL] [aN] [bF] [bJ] [cT] [bL] [bM] [cC] [cA] [aZ]
section
variable (k : Keys) (hl : k.keys.length ≤ 1000000) (hr : k.roads.length ≤ 1000000)
include hl hr
end
end Go.Ev
namespace Go.Ev
open Go
variable [Lib] [aL] [aN] [bF] [bJ] [cT] [bL] [bM] [cC] [cA] [aZ]
section
variable (b u v y : Obj) (ds : ab)
end
end Go.Ev
namespace Go.Ev.N
def uR:Nat:=245
def tc:Nat:=246
def td:Nat:=247
def IA:Nat:=248
def Cz:Nat:=249
def IB:Nat:=250
def uS:Nat:=251
def A1:Nat:=252
def zm:Nat:=253
def IC:Nat:=254
def Ew:Nat:=255
def Mb:Nat:=256
def ID:Nat:=257
def wH:Nat:=258
def gO:Nat:=259
def bB:Nat:=260
def aA:Nat:=261
def Ey:Nat:=262
def qq:Nat:=263
def fo:Nat:=264
def CA:Nat:=265
def iy:Nat:=266
def af:Nat:=267
def zn:Nat:=268
def fJ:Nat:=269
def cmp_isNaN_int:Nat:=270
end Go.Ev.N
namespace Go.Ev.K
open Go.Ev
def bB:Fn:= { dC:=1,vars:=[2],body:= .fail,res:=[(0,none)],prim:=[2,N.af]}
def aA:Fn:= { dC:=1,vars:=[0,1,2],body:=(q [w 1 (.bx v0 1),w 2 (.mv (.c (.und)))] [] (q [u (.mf N.af [.v 1]),x 2 l0] [] .ret)),res:=[(2,none)]}
def fp:C:= (.its [u (.bin .lss v5 v4)] [] 0 .skip (.exit 0) (.seq (.blk 1 (q [a 1 v3 v5,g l0,x 2 l0] [] (.ite [m v0,m v2,u (.cw l1 0 [] [.l 0]),u (.un .not l0)] [] 0 .ret .skip))) (.reg [u (.bin .add v5 (.i 1)),x 5 l0] [])))
def fE:C:= .loop true [1,2] K.fp
def af:Fn:= { dC:=2,vars:=[0,1,4,5,6,7],body:=(q [w 3 (.ld v1 1 false),w 4 (.ln l0),x 5 (.i 0)] [] (.blk 0 K.fE)),res:=[]}
end Go.Ev.K
namespace Go.Ev
class a7 [Lib]:Prop where
 fq:Lib.fs N.bB=some K.bB
 cE:Lib.fs N.aA=some K.aA
 dw:Lib.fs N.af=some K.af
namespace K
variable [Lib] [a7]
theorem fq:Lib.fs N.bB=some K.bB:=a7.fq
theorem cE:Lib.fs N.aA=some K.aA:=a7.cE
theorem dw:Lib.fs N.af=some K.af:=a7.dw
end K
end Go.Ev
namespace Go.Ev
open Go
variable [Lib] [aL] [aN] [bF] [bJ] [cT] [bL] [bM] [cC] [cA] [aZ] [a7]
theorem zo(l:List Int):bV 0 N.aA [.t (tL l)] []=some (.fn N.af [.bp 0 0],[.box [.t (tL l)]]):=by
 refine bS K.cE rfl ?_
 simp(disch:=omega)only[go_sem,K.aA,↓reduceIte,reduceAdd,reduceSub]
theorem o6(l:List Int):kV (tL l)=some l:=by
 unfold kV
 simp only
 induction l with
 | nil=>rfl
 | cons x l ih=>
   simp only[List.map_cons,aE]at ih ⊢
   rw[ih];rfl
end Go.Ev
namespace Go.Ev
open Go
variable [Lib] [aL] [aN]
def uT(m:bW)(b:Bel)(tag:Int):Int:=if XJ m b=false then 6 else if lG (nth b.bI 0).tags tag<0 then 41 else 0
def V6(a b:Wh)(t:Int):Bool:=(List.range (min a.frm.length b.frm.length)).any fun p=>decide (nth a.frm p≤t∧nth b.frm p≤t)
def te(m:bW)(lR:List Int)(t:Int)(j:Nat):List Wh:=(List.range j).map fun i=>(yS m (nth lR i) t).1
@[simp] theorem IE (m : bW) (lR : List Int) (t : Int) (j : Nat) : (te m lR t j).length = j := by simp [te]
def CB(m:bW)(tags lR:List Int)(t:Int):Bel×Int:=
 if tags.length=lR.length∧1≤tags.length∧tags.length≤12 then
  if sY tags=true then match (List.range tags.length).find? (fun i=> !decide ((yS m (nth lR i) t).2=0))with
   | some i=>(⟨[]⟩,(yS m (nth lR i) t).2)
   | none=>(⟨[⟨tags,te m lR t tags.length⟩]⟩,0)
  else(⟨[]⟩,41)
 else(⟨[]⟩,6)
@[go_sem] theorem S7 : ([] : List D).all dL = true := (rfl)
@[go_sem] theorem PY (d : D) (r : List D) : (d :: r).all dL = (dL d && r.all dL) := (rfl)
@[go_sem] theorem IF (cs : List T) : dL (.t (.agg cs)) = false := (rfl)
@[go_sem] theorem Mc (cs : List T) : dL (.t (.sl cs)) = false := (rfl)
@[go_sem] theorem IG (k : IntKind) (n : Int) : dL (.t (.int k n)) = true := (rfl)
@[go_sem] theorem Ez (b : Bool) : dL (.t (.bool b)) = true := (rfl)
@[go_sem] theorem XQ (l : List Wh) (k : Nat) (a : Int) (b : List Int) : (List.map D.t (List.map Wh.e l)).set k (D.t (T.agg [tI a, tL b])) = List.map D.t (List.map Wh.e (l.set k ⟨a, b⟩)) := by
 rw[List.map_set,List.map_set]
def S8(m:bW)(tag:Int)(l:List Int)(a b:Int)(x:World):Wh×Int:=YM m (nth x.whr (lG x.tags tag).toNat) l a b
def XR(tag:Int)(x:World)(w:Wh):World:=⟨x.tags,x.whr.set (lG x.tags tag).toNat w⟩
def V7(tag:Int)(r:Wh×Int)(x:World)(out:List World):List World:=
 if r.2=43 then out else out++[if r.2=0 then XR tag x r.1 else x]
def II(m:bW)(tag:Int)(l:List Int)(a b:Int)(ws:List World):Nat→List World
 | 0=>[]
 | j+1=>V7 tag (S8 m tag l a b (nth ws j)) (nth ws j) (II m tag l a b ws j)
def PZ(m:bW)(tag:Int)(l:List Int)(a b:Int)(ws:List World)(j:Nat):Bool:=decide ((S8 m tag l a b (nth ws j)).2=6∨(S8 m tag l a b (nth ws j)).2=8)
def P0(m:bW)(b:Bel)(tag:Int)(l:List Int)(a c:Int):Bel×Int:=
 if uT m b tag≠0 then(b,uT m b tag)else match (List.range b.bI.length).find? (PZ m tag l a c b.bI)with
  | some i=>(b,(S8 m tag l a c (nth b.bI i)).2)
  | none=>if(II m tag l a c b.bI b.bI.length).length=0 then(b,43)else(⟨II m tag l a c b.bI b.bI.length⟩,0)
def S9(m:bW)(tag:Int)(l:List Int)(a b bl:Int)(x:World):Wh×Int:=YN m (nth x.whr (lG x.tags tag).toNat) l a b bl
def V8(tag:Int)(r:Wh×Int)(x:World)(out:List World):List World:=out++[if r.2=0 then XR tag x r.1 else x]
def P1(m:bW)(tag:Int)(l:List Int)(a b bl:Int)(ws:List World):Nat→List World
 | 0=>[]
 | j+1=>V8 tag (S9 m tag l a b bl (nth ws j)) (nth ws j) (P1 m tag l a b bl ws j)
def P2(m:bW)(tag:Int)(l:List Int)(a b bl:Int)(ws:List World)(j:Nat):Bool:=decide ((S9 m tag l a b bl (nth ws j)).2=6∨(S9 m tag l a b bl (nth ws j)).2=8)
def P3(m:bW)(b:Bel)(tag:Int)(l:List Int)(a c bl:Int):Bel×Int:=
 if uT m b tag≠0 then(b,uT m b tag)else match (List.range b.bI.length).find? (P2 m tag l a c bl b.bI)with
  | some i=>(b,(S9 m tag l a c bl (nth b.bI i)).2)
  | none=>(⟨P1 m tag l a c bl b.bI b.bI.length⟩,0)
theorem CC{gc:Bool}{dead:List Nat}{c:C}{vs:List D}{H:ab}(P:Nat→St→Prop)(n:Nat)(Q:Ex×St→Prop)(h0:P 0 ⟨eE dead vs,H⟩)
 (hs:∀j st,j<n→P j st→∃st',gX gc dead st.H.length (exS bV c st)=some st'∧P (j+1) st')
 (he:∀st,P n st→∃q,exS bV c st=some q∧q.1≠ .normal∧Q q):∃q,exS bV (.loop gc dead c) ⟨vs,H⟩=some q∧Q q:=by
 have key:∀(k j:Nat) (st:St),j+k=n→P j st→∃q,ji gc dead (exS bV c) st=some q∧Q q:=by
  intro k
  induction k with
  | zero=>
    intro j st hj hp
    obtain⟨q,h1,h2,h3⟩:=he st (by rw[← hj];exact hp)
    exact⟨q,eY h1 h2,h3⟩
  | succ k ih=>
    intro j st hj hp
    obtain⟨st',h1,h2⟩:=hs j st (by omega) hp
    obtain⟨q,h3,h4⟩:=ih (j+1) st' (by omega) h2
    exact⟨q,oW h1 h3,h4⟩
 exact key n 0 _ (by omega) h0
abbrev ints(l:List Int):List D:=(l.map (T.int .i64)).map .t
abbrev whs(l:List Wh):List D:=(l.map Wh.e).map .t
def wI(out:List World)(x:World):Nat:=match (List.range out.length).find? (fun k=> !Pw (nth out k).tags x.tags)with
 | some k=>k
 | none=>out.length
def P4(a b:List Wh):Nat→List Wh
 | 0=>a
 | p+1=>(P4 a b p).set p (Ch (nth a p) (nth b p)).1
def P5(a b:List Wh):List Wh:=P4 a b (min a.length b.length)
def V9(out:List World)(x:World):List World:=
 if wI out x<out.length∧(nth out (wI out x)).tags=x.tags then out.set (wI out x) ⟨x.tags,P5 (nth out (wI out x)).whr x.whr⟩
 else out.take (wI out x)++[x]++out.drop (wI out x)
def P6(l:List World):Nat→List World
 | 0=>[]
 | j+1=>V9 (P6 l j) (nth l j)
def P7(l:List World):List World:=P6 l l.length
structure Rp(H:ab)(id:Nat)(es:List D)(fa fb:Nat→Nat)(out:List World):Prop where
 arr:H[id]?=some (.arr 2 false 0 es)
 len:es.length=out.length
 el:∀j,j<out.length→es[j]?=some (.agg [.ref (fa j) 0 (nth out j).tags.length,.ref (fb j) 0 (nth out j).whr.length])
 ha:∀j,j<out.length→H[fa j]?=some (.arr 1 false 0 (ints (nth out j).tags))
 hb:∀j,j<out.length→H[fb j]?=some (.arr 2 false 0 (whs (nth out j).whr))
 na:∀j,j<out.length→fa j≠id
 nb:∀j,j<out.length→fb j≠id
 nab:∀i j,i<out.length→j<out.length→fa i≠fb j
 nbb:∀i j,i<out.length→j<out.length→i≠j→fb i≠fb j
@[go_sem] theorem Ta (a b : Wh) : (Ch a b).1.e = .agg [tI (Ch a b).1.time, tL (Ch a b).1.frm] := rfl
theorem Rp.size{H:ab}{id:Nat}{es:List D}{fa fb:Nat→Nat}{out:List World}(hr:Rp H id es fa fb out):∀e∈es,e.cells.length=2:=by
 intro e he
 obtain⟨j,hj⟩:=aLf.1 he
 have hl:=(aLe.1 hj).1
 rw[hr.el j (by rw[← hr.len];exact hl)]at hj
 cases hj;rfl
theorem tf{α:Type} [Dat α](l:List α)(k:Nat)(hk:k<l.length)(x:α)(j:Nat):nth (l.set k x) j=if j=k then x else nth l j:=by
 unfold nth
 rw[aLl]
 by_cases h:j=k
 · rw[if_pos h,h,aLj hk];rfl
 · rw[if_neg h,aLi (fun e=>h e.symm),aLl]
theorem Rp.merge{H:ab}{id:Nat}{es:List D}{fa fb:Nat→Nat}{out:List World}(hr:Rp H id es fa fb out){k:Nat}(hk:k<out.length)(x:World)(ht:(nth out k).tags=x.tags)(hw:x.whr.length=(nth out k).whr.length):
 Rp (H.set (fb k) (.arr 2 false 0 (whs x.whr))) id es fa fb (out.set k x):=by
 have ol:(out.set k x).length=out.length:=List.length_set
 have nk:=hr.nb k hk
 have kl:=p5 (hr.hb k hk)
 refine⟨by rw[iP nk];exact hr.arr,by rw[ol];exact hr.len,?_,?_,?_,by rw[ol];exact hr.na,by rw[ol];exact hr.nb,by rw[ol];exact hr.nab,by rw[ol];exact hr.nbb⟩
 · intro j hj
   rw[ol]at hj
   rw[hr.el j hj,tf out k hk]
   by_cases h:j=k
   · rw[if_pos h,h,ht,hw]
   · rw[if_neg h]
 · intro j hj
   rw[ol]at hj
   rw[iP (fun e=>hr.nab j k hj hk e.symm),hr.ha j hj,tf out k hk]
   by_cases h:j=k
   · rw[if_pos h,h,ht]
   · rw[if_neg h]
 · intro j hj
   rw[ol]at hj
   rw[tf out k hk]
   by_cases h:j=k
   · rw[if_pos h,h,wB kl]
   · rw[if_neg h,iP (fun e=>hr.nbb j k hj hk h e.symm)];exact hr.hb j hj
theorem Rp.frz{H:ab}{id:Nat}{es:List D}{fa fb:Nat→Nat}{out:List World}(hr:Rp H id es fa fb out):
 aE (frz H 8) es=some (out.map World.e)∧∀i∈es.flatMap (bH H 8),i≠id:=by
 have hl:=hr.len
 have key:∀(j:Nat) (hj:j<out.length),Go.Ev.frz H 8 (.agg [.ref (fa j) 0 (nth out j).tags.length,.ref (fb j) 0 (nth out j).whr.length])=some (nth out j).e∧
  bH H 8 (.agg [.ref (fa j) 0 (nth out j).tags.length,.ref (fb j) 0 (nth out j).whr.length])=[fa j,fb j]:=by
  intro j hj
  have h1:=hr.ha j hj
  have h2:=hr.hb j hj
  simp(disch:=omega)only[go_sem,h1,h2,ints,whs,↓reduceIte]
 constructor
 · have:∀(es:List D) (ts:List T),es.length=ts.length→(∀(j:Nat) e t,es[j]?=some e→ts[j]?=some t→Go.Ev.frz H 8 e=some t)→aE (Go.Ev.frz H 8) es=some ts:=by
    intro es
    induction es with
    | nil=>intro ts h _;cases ts with
      | nil=>rfl
      | cons=>simp at h
    | cons e es ih=>
      intro ts h hh
      cases ts with
      | nil=>simp at h
      | cons t ts=>
        have h1:=hh 0 e t rfl rfl
        have h2:=ih ts (by simpa using h) fun j e t he ht=>hh (j+1) e t (by simpa using he) (by simpa using ht)
        simp only[aE,h1,aLq,h2,aLw]
   refine this es _ (by rw[List.length_map,hl]) fun j e t he ht=>?_
   have hj:j<out.length:=by rw[← hl];exact(aLe.1 he).1
   rw[hr.el j hj]at he
   rw[cO _ hj]at ht
   cases he;cases ht
   exact(key j hj).1
 · intro i hi
   obtain⟨e,he,hi⟩:=List.mem_flatMap.1 hi
   obtain⟨j,hj⟩:=aLf.1 he
   have hjl:j<out.length:=by rw[← hl];exact(aLe.1 hj).1
   rw[hr.el j hjl]at hj
   cases hj
   rw[(key j hjl).2]at hi
   simp only[List.mem_cons,List.not_mem_nil,or_false]at hi
   rcases hi with rfl | rfl
   · exact hr.na j hjl
   · exact hr.nb j hjl
@[go_sem] theorem EA {α β γ : Type} [Dat α] (f : β → γ) (g : α → β) {l : List α} {i j : Nat} {x : α} (h : j < l.length) : (((l.set i x).map g).map f)[j]? = some (f (g (nth (l.set i x) j))) := pW f g (by rw [List.length_set]; exact h)
def Wa(l:List Int)(i j:Nat):List Int:=(l.set i (nth l j)).set j (nth l i)
def Wb(i j:Nat)(t:Int)(x:World):World:=⟨Wa x.tags i j,(x.whr.set i (DV (nth x.whr i) t).1).set j (DV (nth x.whr j) t).1⟩
def Wc(i j:Nat)(t:Int)(x:World)(out:List World):List World:=if V6 (nth x.whr i) (nth x.whr j) t=true then out++[Wb i j t x]else out
def zp(i j:Nat)(t:Int)(ws:List World):Nat→List World
 | 0=>ws
 | k+1=>Wc i j t (nth ws k) (zp i j t ws k)
def IJ(m:bW)(b:Bel)(i j t:Int):Bel×Int:=
 if XJ m b=false then(b,6)else if i<0∨((nth b.bI 0).tags.length:Int)≤i∨j<0∨((nth b.bI 0).tags.length:Int)≤j∨i=j then(b,19)
 else if ¬inT t then(b,8)else if 24<(P7 (zp i.toNat j.toNat t b.bI b.bI.length)).length then(b,44)else(⟨P7 (zp i.toNat j.toNat t b.bI b.bI.length)⟩,0)
def P8:Nat→List Int
 | 0=>[]
 | k+1=>P8 k++[3+(k:Int)*2]
def ay.uU(d:ay)(n:Int):Nat→List Int×ay
 | 0=>([],d)
 | k+1=>((d.uU n k).1++[((d.uU n k).2.next n).1],((d.uU n k).2.next n).2)
structure BSt where
 b:Bel
 t:Int
 d:ay
def ay.IK(m:bW)(n:Int)(s:BSt):BSt:=
 let a:=s.d.next 60
 let c:=a.2.next 3
 if c.1=0 then
  let i:=c.2.next n
  let j:=i.2.next n
  let r:=IJ m s.b i.1 j.1 (s.t+a.1)
  ⟨if r.2=0 then r.1 else s.b,s.t+a.1,j.2⟩
 else if c.1=1 then
  let g:=c.2.next n
  let l:=g.2.wy m.a8.length
  let e:=l.2.next 9
  let r:=P0 m s.b (3+2*g.1) l.1 (s.t+a.1) (s.t+a.1+e.1)
  ⟨if r.2=0 then r.1 else s.b,s.t+a.1,e.2⟩
 else
  let g:=c.2.next n
  let l:=g.2.wy m.a8.length
  let e:=l.2.next 40
  let r:=P3 m s.b (3+2*g.1) l.1 (s.t+a.1) (s.t+a.1+50) e.1
  ⟨if r.2=0 then r.1 else s.b,s.t+a.1,e.2⟩
def ay.XT(m:bW)(n:Int)(s:BSt):Nat→BSt
 | 0=>s
 | k+1=>ay.IK m n (ay.XT m n s k)
def ay.Wd(d:ay):Nat:=(1+(d.next 3).1).toNat
def ay.Tc(d:ay)(m:bW):List Int×ay:=(d.next 3).2.uU m.a8.length d.Wd
def ay.YQ(d:ay)(m:bW):BSt:=⟨(CB m (P8 d.Wd) (d.Tc m).1 ((d.Tc m).2.next 100).1).1,100,(((d.Tc m).2.next 100).2.next 5).2⟩
def ay.YR(d:ay)(m:bW):Nat:=(((d.Tc m).2.next 100).2.next 5).1.toNat
def ay.XU(d:ay)(m:bW):BSt:=ay.XT m d.Wd (d.YQ m) (d.YR m)
def ay.XV(d:ay)(m:bW):Bel×ay:=((d.XU m).b,(d.XU m).d)
structure WOk(m:bW)(N:Nat)(x:World):Prop where
 tg:x.tags.length=N
 wh:x.whr.length=N
 fr:∀w∈x.whr,w.frm.length=m.a8.length
 ti:∀w∈x.whr,inT w.time
structure BOk(m:bW)(N:Nat)(b:Bel):Prop where
 w1:1≤b.bI.length
 w2:b.bI.length≤24
 n1:1≤N
 n2:N≤12
 ws:∀x∈b.bI,WOk m N x
theorem WOk.sz{m:bW}{N:Nat}{x:World}(h:WOk m N x)(hm:m.ok)(hn:N≤12):x.sz:=by
 have np:=hm.np
 obtain⟨t1,t2,t3, -⟩:=h
 exact⟨by omega,by omega,fun w hw=>by rw[t3 w hw];omega⟩
theorem BOk.sz{m:bW}{N:Nat}{b:Bel}(h:BOk m N b)(hm:m.ok):b.sz:=
 ⟨by have:=h.w2;omega,fun x hx=>(h.ws x hx).sz hm h.n2⟩
def ay.spread(d:ay)(m:bW)(fl:List Spn):Wh×ay:=
 let p:=d.next m.a8.length
 let t:=p.2.next 200
 let s:=Pu m fl [p.1] t.1
 let o:=t.2.one 2
 if o.1=true then
  let f:=o.2.V0 m
  let a:=f.2.next 100
  let r:=HF m fl m f.1 s.1 (s.1.time+a.1)
  if r.2=0 then(r.1,a.2)else(s.1,a.2)
 else(s.1,o.2)
structure Mch where
 kind:Int
 num:Int
 pl:List Int
instance : Dat Mch := ⟨⟨0, 0, []⟩⟩
abbrev Mch.e(x:Mch):T:= .agg [tI x.kind,tI x.num,tL x.pl]
@[go_sem] theorem P9 (l : List Mch) : fO 3 (l.map Mch.e) = true := by cases l <;> rfl
end Go.Ev
namespace Go.Ev
open Go
variable [Lib] [aL] [aN] [bF] [bJ] [cT] [bL] [bM] [cC] [cA] [aZ] [a7]
end Go.Ev
namespace Go.Ev
open Go
variable [Lib] [aL] [aN] [bL] [bM] [cC] [cA]
@[go_sem] theorem XW (H : ab) (len j : Nat) (ts : List T) (h : j < len) : N3 H len 1 false (.t (.agg ts)) j = (ts[j]?).map fun t => (.t t, H) := by
 have h0:len≠0:=by omega
 unfold N3 oG
 rw[if_neg h0,if_pos h]
 unfold j0 cut
 simp only[D.isAgg,D.cells,T.cells,if_true,Nat.mul_one,List.length_map]
 by_cases hj:j<ts.length
 · rw[if_pos (by omega),aLc hj]
   have e:((ts.map D.t).drop j).take 1=[D.t ts[j]]:=by
    rw[List.drop_eq_getElem_cons (by simpa using hj)];simp
   rw[e];rfl
 · rw[if_neg (by omega),aLm (by omega)];rfl
section
variable (a0 a1 a2 a3 a4 a5 x y : Obj) (ds : ab)
end
@[go_sem] theorem Td (n : Nat) : eqB n n = true := by
 induction n with
 | zero=>rfl
 | succ n ih=>exact ih
end Go.Ev
namespace Go.Ev
open Go
variable [Lib] [aL] [aN] [bF] [bJ] [bL] [bM] [cC] [cA]
end Go.Ev
namespace Go.Ev
open Go
variable [Lib] [aL] [aN] [bF] [bJ] [cT] [bL] [bM] [cC] [cA] [aZ] [a7]
end Go.Ev
namespace Go.Ev
open Go
variable [Lib] [aL] [aN]
theorem CD{α:Type} [Dat α](l:List α)(k:Nat)(hk:k<l.length)(x:α)(j:Nat):nth (l.set k x) j=if j=k then x else nth l j:=by
 unfold nth
 by_cases h:j=k
 · subst h;rw[if_pos rfl];simp[hk]
 · rw[if_neg h]
   have:¬k=j:=fun e=>h e.symm
   simp[List.getElem?_set,this]
section
variable {m : bW} (h : m.ok) {t : Int} {into : Option (List Int)}
include h
end
end Go.Ev
namespace Go.Ev
open Go
variable [Lib] [aL] [aN] [cC] [cA]
end Go.Ev
namespace Go.Ev
open Go
variable [Lib] [aL] [aN] [bF] [bJ] [bL] [bM] [cC] [cA]
end Go.Ev
namespace Go.Ev
open Go
variable [Lib] [aL] [aN]
section
variable {m : bW} (hm : m.ok) {N : Nat} {b : Bel} (hb : BOk m N b) {s : Wh} (hs : s.frm.length = m.a8.length) {l : List Mch}
variable (hl : ∀ y ∈ l, y.pl.length ≤ m.a8.length ∧ 1 ≤ y.pl.length ∧ ∀ x ∈ y.pl, 0 ≤ x ∧ x < m.a8.length) {t a : Int} (t0 : 0 ≤ t) (t1 : t ≤ 10000) (a0 : 0 ≤ a) (a1 : a ≤ 10000) (d : ay)
include hm hb hs hl t0 t1 a0 a1
omit hm hb t0 t1 a1 in
end
def ay.skip(d:ay)(n:Int):Nat→ay
 | 0=>d
 | k+1=>((d.skip n k).next n).2
end Go.Ev
namespace Go.Ev
open Go
variable [Lib] [aL] [aN] [cT]
end Go.Ev
namespace Go.Ev
open Go
variable [Lib] [aL] [aN] [bF] [bJ] [cT] [bL] [bM] [cC] [cA]
end Go.Ev
namespace Go.Ev
open Go
variable [Lib] [aL] [aN] [bF] [bJ] [cT] [bL] [bM] [cC] [cA] [aZ] [a7]
def lexB:List Int→List Int→Bool
 | _,[]=>false
 | [],_::_=>true
 | a::r,b::s=>decide (a<b)||(decide (a=b)&&lexB r s)
structure WV(m:bW)(first:List Int)(x:World):Prop where
 pm:x.tags.Perm first
 wl:x.whr.length=first.length
 wv:∀w∈x.whr,rr m w=true
structure BV(m:bW)(first:List Int)(ws:List World):Prop where
 pr:sY first=true
 f1:1≤first.length
 f2:first.length≤12
 wv:∀x∈ws,WV m first x
 up:ws.Pairwise fun x y=>lexB x.tags y.tags=true
end Go.Ev
namespace Go.Ev.N
def wJ:Nat:=271
def zq:Nat:=272
def th:Nat:=273
def xx:Nat:=274
def A2:Nat:=275
def zr:Nat:=276
def IL:Nat:=277
def IM:Nat:=278
def Md:Nat:=279
def Me:Nat:=280
def A3:Nat:=281
def Qa:Nat:=282
def EB:Nat:=283
def IN:Nat:=284
def IP:Nat:=285
def Mf:Nat:=286
def kQ:Nat:=287
def Mg:Nat:=288
def IQ:Nat:=289
def IS:Nat:=290
def IT:Nat:=291
def IU:Nat:=292
def A4:Nat:=293
def IV:Nat:=294
def IW:Nat:=295
def EC:Nat:=296
def kC:Nat:=297
def kD:Nat:=298
def CE:Nat:=299
def o7:Nat:=300
def ie:Nat:=301
def jP:Nat:=302
def mA:Nat:=303
def jm:Nat:=304
def kR:Nat:=305
def mB:Nat:=306
def kE:Nat:=307
def A5:Nat:=308
end Go.Ev.N
namespace Go.Ev.K
open Go.Ev
end Go.Ev.K
namespace Go.Ev
class bX [Lib]:Prop where
namespace K
variable [Lib] [bX]
end K
end Go.Ev
namespace Go.Ev.K
open Go.Ev
end Go.Ev.K
namespace Go.Ev
class bY [Lib]:Prop where
namespace K
variable [Lib] [bY]
end K
end Go.Ev
namespace Go.Ev
open Go
variable [Lib] [aL] [aN] [bF] [bJ] [cT] [bL] [bM] [cC] [cA] [aZ] [a7] [bX] [bY]
end Go.Ev
namespace Go.Ev
open Go
variable [Lib] [aL] [aN] [bF] [bJ] [cT] [bL] [bM] [cC] [cA]
end Go.Ev
namespace Go.Ev
open Go
variable [Lib] [aL] [aN] [bF] [bJ] [cT] [bL] [bM] [cC] [cA] [aZ] [a7]
structure SH(n p:Nat)(l:List Wh):Prop where
 ln:l.length=n
 fr:∀w∈l,w.frm.length=p
theorem WV.sh{m:bW}{first:List Int}{x:World}(h:WV m first x):SH first.length m.a8.length x.whr:=
 ⟨h.wl,fun w hw=>(sX (h.wv w hw)).1⟩
end Go.Ev
namespace Go.Ev
open Go
variable [Lib] [aL] [aN] [bF] [bJ] [cT] [bL] [bM] [cC] [cA] [aZ] [a7] [bX] [bY]
theorem Rp.more{H:ab}{id:Nat}{es:List D}{fa fb:Nat→Nat}{out:List World}(hr:Rp H id es fa fb out)(t:ab):Rp (H++t) id es fa fb out:=
 ⟨by rw[mz (p5 hr.arr)];exact hr.arr,hr.len,hr.el,fun j hj=>by rw[mz (p5 (hr.ha j hj))];exact hr.ha j hj,fun j hj=>by rw[mz (p5 (hr.hb j hj))];exact hr.hb j hj,hr.na,hr.nb,hr.nab,hr.nbb⟩
end Go.Ev
namespace Go.Ev
open Go
variable [Lib] [aL] [aN] [bF] [bJ] [cT] [bL] [bM] [cC] [cA] [aZ] [a7]
end Go.Ev
namespace Go.Ev
open Go
variable [Lib] [aL] [aN] [bL] [bM]
abbrev CF:Int:=2147483648
section
variable {m : bW} (h : m.ok) {fl : List Spn}
include h
end
end Go.Ev
namespace Go.Ev
open Go
def clP(m:bW)(fl:List Spn)(y:List Int):Prop:=∀k,k<m.roads.length→∀back,0≤lF (nth m.roads k) (nth fl k) back→
 nth y ((nth m.roads k).src back).toNat+lF (nth m.roads k) (nth fl k) back≤CF→
 nth y ((nth m.roads k).dst back).toNat≤nth y ((nth m.roads k).src back).toNat+lF (nth m.roads k) (nth fl k) back
variable [Lib] [aL] [aN] [bL] [bM]
end Go.Ev
namespace Go.Ev
open Go
variable [Lib] [aL] [aN] [bL] [bM]
def We(l:List Int):Prop:=∀x∈l,0≤x∧(x≤CF∨x=1099511627776)
theorem We.bnd{l:List Int}(h:We l):bnd l:=fun x hx=>by have:=h x hx;simp only[CF]at this;omega
end Go.Ev
namespace Go.Ev
open Go
variable [Lib] [aL] [aN] [bF] [bJ] [bL] [bM]
structure Qb(m:bW)(fl:List Spn)(s:Wh):Prop where
 ln:s.frm.length=m.a8.length
 ti:inT s.time
 tm:We s.frm
 lo:∀x∈s.frm,s.time≤x
 cl:clP m fl s.frm
theorem Qb.valid{m:bW}{fl:List Spn}{s:Wh}(h:Qb m fl s):yW m s=true:=by
 simp only[yW,aLr,decide_eq_true_eq,aLx,aLu]
 refine⟨fun j hj=>?_,h.ln,h.ti⟩
 have a:=h.tm _ (dE hj)
 have b:=h.lo _ (dE hj)
 unfold plS
 simp only[CF]at a
 omega
end Go.Ev
namespace Go.Ev
open Go
variable [Lib] [aL] [aN] [bF] [bJ] [cT] [bL] [bM] [cC] [cA] [aZ] [a7]
section
variable {m : bW} (hm : m.ok) (l : List Mch) (hl : l.length ≤ 1000) (hp : ∀ x ∈ l, x.pl.length ≤ 1000000) (s : Wh) (hs : s.frm.length ≤ 1000000) (b : Bel) (hb : b.sz) (t a : Int)
include hm hl hp hs hb
end
end Go.Ev
namespace Go.Ev
open Go
variable [Lib] [aL] [aN] [bF] [bJ] [bL] [bM]
end Go.Ev
namespace Go.Ev
open Go
variable [Lib] [aL] [aN]
def sh(s x:Int):Int:=if x<1099511627776 then x+s else x
def shL(s:Int)(l:List Int):List Int:=l.map (sh s)
@[simp] theorem Wf (s : Int) (l : List Int) : (shL s l).length = l.length := List.length_map ..
end Go.Ev
namespace Go.Ev
open Go
variable [Lib] [aL] [aN] [bF] [bJ] [cT] [bL] [bM] [cC] [cA]
end Go.Ev
namespace Go.Ev
open Go
variable [Lib] [aL] [aN] [bF] [bJ] [cT] [bL] [bM] [cC] [cA] [aZ] [a7]
end Go.Ev
namespace Go.Ev
open Go
variable [Lib] [aL] [aN] [bF] [bJ] [cT] [bL] [bM] [cC] [cA] [aZ] [a7] [bX] [bY]
end Go.Ev
namespace Go.Ev.N
def ED:Nat:=309
def zt:Nat:=310
def A6:Nat:=311
def A7:Nat:=312
def zu:Nat:=313
def IX:Nat:=314
def Wg:Nat:=315
def Qc:Nat:=316
def IY:Nat:=317
def IZ:Nat:=318
def I0:Nat:=319
def I3:Nat:=320
def Qd:Nat:=321
def Qe:Nat:=322
def I4:Nat:=323
def CG:Nat:=324
def Qf:Nat:=325
def Te:Nat:=326
def A8:Nat:=327
def EE:Nat:=328
def CH:Nat:=329
def kS:Nat:=330
def mC:Nat:=331
def CI:Nat:=332
def zv:Nat:=333
end Go.Ev.N
namespace Go.Ev.N
def wK:Nat:=334
def xy:Nat:=335
def xz:Nat:=336
def I5:Nat:=337
def wM:Nat:=338
def I6:Nat:=339
def I7:Nat:=340
def Mh:Nat:=341
def I8:Nat:=342
def Mi:Nat:=343
def Mj:Nat:=344
def Tf:Nat:=345
def A9:Nat:=346
def I9:Nat:=347
def Mk:Nat:=348
def Ml:Nat:=349
def zw:Nat:=350
def CJ:Nat:=351
def EF:Nat:=352
def EG:Nat:=353
def Ja:Nat:=354
def Ba:Nat:=355
def Mm:Nat:=356
def Mn:Nat:=357
def CK:Nat:=358
def EH:Nat:=359
def Jb:Nat:=360
def Mo:Nat:=361
def Jc:Nat:=362
def CL:Nat:=363
def Jd:Nat:=364
def Mp:Nat:=365
def Mq:Nat:=366
def Mr:Nat:=367
def Ms:Nat:=368
def wN:Nat:=369
def fR:Nat:=370
def jX:Nat:=371
def CM:Nat:=372
def ij:Nat:=373
def CN:Nat:=374
def CO:Nat:=375
def Je:Nat:=376
def Jf:Nat:=377
def Bb:Nat:=378
def gB:Nat:=379
def ja:Nat:=380
def zx:Nat:=381
def CP:Nat:=382
def zy:Nat:=383
end Go.Ev.N
namespace Go.Ev.N
def CQ:Nat:=384
def Bc:Nat:=385
def zz:Nat:=386
def Bd:Nat:=387
def zA:Nat:=388
def Jg:Nat:=389
def Jh:Nat:=390
def Mt:Nat:=391
def xA:Nat:=392
def Ji:Nat:=393
def Jj:Nat:=394
def xB:Nat:=395
def Mu:Nat:=396
def xC:Nat:=397
def wO:Nat:=398
def Qg:Nat:=399
def Mv:Nat:=400
def Mw:Nat:=401
def zB:Nat:=402
def Mx:Nat:=403
def Qh:Nat:=404
def My:Nat:=405
def Mz:Nat:=406
def Qi:Nat:=407
def uV:Nat:=408
def uW:Nat:=409
def MA:Nat:=410
def Qj:Nat:=411
def EI:Nat:=412
def qs:Nat:=413
def Qk:Nat:=414
def o8:Nat:=415
end Go.Ev.N
namespace Go.Ev.N
def rv:Nat:=416
def rT:Nat:=417
def rU:Nat:=418
def rz:Nat:=419
def Jk:Nat:=420
def xD:Nat:=421
def wP:Nat:=422
def EJ:Nat:=423
def xE:Nat:=424
def xF:Nat:=425
def Jl:Nat:=426
def xG:Nat:=427
def uX:Nat:=428
def xH:Nat:=429
def ox:Nat:=430
def tj:Nat:=431
def Ql:Nat:=432
def Qm:Nat:=433
def MB:Nat:=434
def uY:Nat:=435
def MC:Nat:=436
def uZ:Nat:=437
def Jm:Nat:=438
def Jn:Nat:=439
def Jo:Nat:=440
def EK:Nat:=441
def Jp:Nat:=442
def Jq:Nat:=443
def u9:Nat:=444
def MD:Nat:=445
def CR:Nat:=446
def ME:Nat:=447
def Jr:Nat:=448
def MF:Nat:=449
def Js:Nat:=450
def Tg:Nat:=451
def Th:Nat:=452
def Qn:Nat:=453
def rA:Nat:=454
def aj:Nat:=455
def EL:Nat:=456
def Qo:Nat:=457
def MG:Nat:=458
def Qp:Nat:=459
def xI:Nat:=460
def jn:Nat:=461
def MH:Nat:=462
def Qq:Nat:=463
def tq:Nat:=464
def EM:Nat:=465
def wQ:Nat:=466
def jy:Nat:=467
def vd:Nat:=468
def ve:Nat:=469
def Qr:Nat:=470
def Be:Nat:=471
end Go.Ev.N
namespace Go.Ev.N
def zC:Nat:=472
def Bf:Nat:=473
def zD:Nat:=474
end Go.Ev.N
namespace Go.Ev.K
open Go.Ev
end Go.Ev.K
namespace Go.Ev
class eK [Lib]:Prop where
namespace K
variable [Lib] [eK]
end K
end Go.Ev
namespace Go.Ev
open Go
variable [Lib] [aL] [aN] [bF] [bJ] [cT] [bL] [bM] [cC] [cA] [aZ] [a7] [bX] [bY] [eK]
end Go.Ev
namespace Go.Ev.N
def zE:Nat:=475
def aB:Nat:=476
def wR:Nat:=477
def tu:Nat:=478
def b9:Nat:=479
def Jt:Nat:=480
def bO:Nat:=481
def aV:Nat:=482
def aS:Nat:=483
def bu:Nat:=484
def EN:Nat:=485
def EO:Nat:=486
def MJ:Nat:=487
def Ju:Nat:=488
def ai:Nat:=489
def aW:Nat:=490
def EP:Nat:=491
def Bg:Nat:=492
def ER:Nat:=493
def xJ:Nat:=494
def Jv:Nat:=495
def MK:Nat:=496
def ML:Nat:=497
def aH:Nat:=498
def im:Nat:=499
def Bh:Nat:=500
def Bi:Nat:=501
def jc:Nat:=502
def aF:Nat:=503
end Go.Ev.N
namespace Go.Ev.K
open Go.Ev
def cX:C:= (.seq (.ite [m v9,m v5,u (.ln l0),u (.bin .lss l2 l0)] [] 0 .skip (.exit 0)) (.seq (.blk 1 (.seq (.ite [m v5,m v9,a 1 l1 l0,g l0,u (.bin .lss l0 (.i 0)),m l0,e 0 false v5,e 1 false v9,y 2 false (.ia l1 l0 1),i 3 false l0,e 4 false v4,y 5 false (.ln l0),y 6 false (.bin .geq l2 l0),u (.pk l7 (.b true) l0),m l0,e 0 false v3,e 1 false v9,y 2 false (.ia l1 l0 1),i 3 false l0,e 4 false v5,e 5 false v9,y 6 false (.ia l1 l0 1),i 7 false l0,y 8 false (.ca N.dt 0 [] [.l 4,.l 0]),y 9 false (.un .not l0),u (.pk l10 (.b true) l0)] [] 0 (q [x 1 (.b false)] [] .ret) .skip) (q [m v8,m v5,m v9,a 1 l1 l0,g l0,a 1 l4 l0,g l0,u (.bin .add l0 (.i 1)),a 1 l7 l3,u (.st l0 l1 1 [])] [] (.ite [m v8,m v5,m v9,a 1 l1 l0,g l0,a 1 l4 l0,g l0,m v4,m v5,m v9,a 1 l1 l0,g l0,a 1 l4 l0,g l0,u (.bin .gtr l7 l0)] [] 0 (q [x 1 (.b false)] [] .ret) .skip)))) (.reg [m v9,u (.bin .add l0 (.i 1)),x 9 l0] [])))
def eQ:C:= .loop true [0,1,10,11,12,13,14,15,16] K.cX
def aU:C:= (.seq (.ite [m v15,m v12,u (.ln l0),u (.bin .lss l2 l0)] [] 0 .skip (.exit 4)) (.seq (.blk 5 (.seq (.ite [m v12,m v15,a 1 l1 l0,g l0,u (.bin .lss l0 (.i 0)),m l0,e 0 false v12,e 1 false v15,y 2 false (.ia l1 l0 1),i 3 false l0,e 4 false v3,y 5 false (.ln l0),y 6 false (.bin .geq l2 l0),u (.pk l7 (.b true) l0)] [] 0 (q [x 1 (.b false)] [] .ret) .skip) (.ite [m v15,m v13,u (.bin .neq l1 l0)] [] 0 (.reg [m v14,m v3,m v12,m v15,a 1 l1 l0,g l0,a 1 l4 l0,g l0,u (.bs [.l 0] 1),u (.app l8 l0 true 1),x 14 l0] []) .skip))) (.reg [m v15,u (.bin .add l0 (.i 1)),x 15 l0] [])))
def dg:C:= .loop true [0,1,2,5,6,7,8,9,10,11,16] K.aU
def aG:C:= (.seq (.ite [m v13,m v12,u (.ln l0),u (.bin .lss l2 l0)] [] 0 .skip (.exit 2)) (.seq (.blk 3 (q [w 14 (.nw 1)] [] (.seq (q [x 15 (.i 0)] [] (.blk 4 K.dg)) (q [m v14,m v4,u (.ca N.aV 0 [] [.l 1,.l 0]),m l0,u (.ex l0 0),u (.ex l1 1),m l1,x 16 l1] [] (.ite [m v12,u (.ln l0),u (.bin .gtr l0 (.i 0)),m l0,e 0 true v16,e 1 true v13,y 2 true (.bin .geq l0 (.i 0)),y 3 true (.eqk (.bool) true l2 l0),u (.pk l4 l0 (.b false))] [] 0 (q [x 1 (.b false)] [] .ret) .skip))))) (.reg [m v13,u (.bin .add l0 (.i 1)),x 13 l0] [])))
def dh:C:= .loop true [0,1,2,5,6,7,8,9,10,11,14,15,16] K.aG
def aB:Fn:= { dC:=1,vars:=[0,2,3,4,5,6,7,8,9,10,11,12,13,14,15,16,18],body:=(q [x 1 (.b false)] [] (.seq (.ite [m v0,u (.ca N.cJ 0 [] [.l 0]),u (.un .not l0)] [] 0 (q [u (.ca N.b9 0 [] []),x 1 l0] [] .ret) .skip) (q [m v0,u (.ca N.dr 0 [] [.l 0]),x 2 l0] [] (q [m v2,u (.ca N.bO 0 [] [.l 0]),m l0,u (.ex l0 0),u (.ex l1 1),x 3 l1,x 4 l1] [] (q [m v3,m v4,u (.ca N.aV 0 [] [.l 1,.l 0]),m l0,u (.ex l0 0),u (.ex l1 1),x 5 l1,x 6 l1] [] (q [m v3,m v4,u (.ca N.aS 0 [] [.l 1,.l 0]),x 7 l0] [] (.seq (.ite [m v6,m v7,m v3,u (.ln l0),u (.bin .eql l2 l0),u (.eqk (.bool) true l4 l0),m l0,e 0 false v6,e 1 false l0,e 0 true v5,y 1 true (.ln l0),e 2 true v3,y 3 true (.ln l0),y 4 true (.bin .neq l2 l0),y 7 false (.pk l5 l0 (.b false)),u (.pk l8 (.b true) l0)] [] 0 (q [x 1 (.b false)] [] .ret) .skip) (q [m v4,u (.ln l0),u (.mk l0 (z0) 1),x 8 l0] [] (.seq (q [x 9 (.i 0)] [] (.blk 0 K.eQ)) (.seq (.ite [m v4,u (.ln l0),u (.bin .gtr l0 (.i 0))] [] 0 (q [m v4,u (.app (.c (.nil)) l0 true 1),x 10 l0] [] (q [m v10,m v2,m v10,u (.ln l0),u (.ca N.av 0 [] [.l 2,.l 0]),a 1 l4 l0,g l0,u (.bin .add l0 (.i 1)),a 1 l7 l3,u (.st l0 l1 1 [])] [] (q [m v3,m v10,u (.ca N.aS 0 [] [.l 1,.l 0]),x 11 l0] [] (.ite [m v11,m v7,u (.bin .lss l1 l0),m l0,e 0 false v11,e 1 false v7,y 2 false (.bin .add l0 (.i 1)),y 3 false (.bin .gtr l2 l0),u (.pk l4 (.b true) l0)] [] 0 (q [x 1 (.b false)] [] .ret) .skip)))) .skip) (q [m v3,m v4,u (.ca N.bu 0 [] [.l 1,.l 0]),x 12 l0] [] (.seq (.ite [m v12,u (.ln l0),u (.bin .eql l0 (.i 0)),m v6,u (.eqk (.bool) true l1 l0)] [] 0 (q [x 1 (.b false)] [] .ret) .skip) (.seq (q [w 13 (.mv (.i (-1)))] [] (.blk 2 K.dh)) (q [u (.ca N.b9 0 [] []),x 1 l0] [] .ret)))))))))))))),res:=[(1,none)]}
def b9:Fn:= { dC:=0,vars:=[0,1,2,3],body:=(q [x 0 (.b false)] [] (q [u (.bs [.i 0,.i 1] 1),u (.bs [.i 0] 1),u (.bs [.l 1,.l 0] 1),u (.bs [.i 1,.i 1] 1),u (.ca N.aV 0 [] [.l 1,.l 0]),m l0,u (.ex l0 0),u (.ex l1 1),x 1 l1,x 2 l1] [] (q [u (.bs [.i 0] 1),u (.bs [.i 0] 1),u (.bs [.l 1,.l 0] 1),u (.bs [.i 1] 1),u (.ca N.bu 0 [] [.l 1,.l 0]),x 3 l0] [] (q [u (.bs [.i 0] 1),u (.bs [.i 0] 1),u (.bs [.l 1,.l 0] 1),u (.bs [.i 1] 1),u (.ca N.aS 0 [] [.l 1,.l 0]),u (.bin .eql l0 (.i 1)),m l0,e 0 true v2,u (.pk l1 l0 (.b false)),m l0,e 0 true v1,y 1 true (.ln l0),y 2 true (.bin .eql l0 (.i 2)),u (.pk l3 l0 (.b false)),m l0,e 0 true v1,y 1 true (.ia l0 (.i 0) 1),i 2 true l0,y 3 true (.bin .eql l0 (.i 1)),u (.pk l4 l0 (.b false)),m l0,e 0 true v1,y 1 true (.ia l0 (.i 1) 1),i 2 true l0,y 3 true (.bin .eql l0 (.i 0)),u (.pk l4 l0 (.b false)),m l0,e 0 true v3,y 1 true (.ln l0),y 2 true (.bin .eql l0 (.i 2)),u (.pk l3 l0 (.b false)),x 0 l0] [] .ret)))),res:=[(0,none)]}
def eL:C:= (.seq (.ite [m v4,u (.bin .gtr l0 (.i 0))] [] 0 .skip (.exit 0)) (.seq (.blk 1 (.reg [m v3,m v0,u (.ca N.ba 0 [] [.l 0]),u (.bs [.l 0] 1),u (.app l3 l0 true 1),x 3 l0] [])) (.reg [m v4,u (.bin .sub l0 (.i 1)),x 4 l0] [])))
def iQ:C:= .loop true [1,2,5,6] K.eL
def eM:C:= (.seq (.ite [m v6,u (.bin .gtr l0 (.i 0))] [] 0 .skip (.exit 2)) (.seq (.blk 3 (.reg [m v5,m v0,u (.bs [.i 1,.i 0,.i 2,.i (-1),.i 100] 1),u (.ca N.br 0 [] [.l 1,.l 0]),u (.bs [.l 0] 1),u (.app l4 l0 true 1),x 5 l0] [])) (.reg [m v6,u (.bin .sub l0 (.i 1)),x 6 l0] [])))
def iR:C:= .loop true [1,2,4] K.eM
def bO:Fn:= { dC:=1,vars:=[0,2,3,4,5,6,7],body:=(q [w 1 (.mv (.c (.nil))),w 2 (.mv (.c (.nil)))] [] (q [w 3 (.nw 1)] [] (.seq (q [m v0,u (.ca N.av 0 [] [.l 0,.i 7]),x 4 l0] [] (.blk 0 K.iQ)) (q [w 5 (.nw 1)] [] (.seq (q [m v0,u (.ca N.av 0 [] [.l 0,.i 6]),x 6 l0] [] (.blk 2 K.iR)) (q [m v3,m v5,x 1 l1,x 2 l1] [] .ret)))))),res:=[(1,none),(2,none)]}
def bC:C:= (.its [u (.bin .lss v14 v13)] [] 0 .skip (.exit 2) (.seq (.blk 3 (q [a 1 v12 v14,g l0,x 8 l0] [] (.seq (.ite [m v8,m v4,u (.ln l0),u (.bin .sub l0 (.i 1)),u (.ca N.dQ 0 [] [.l 3,.i 0,.l 0]),u (.un .not l0),m l0,e 0 false v4,e 1 false v8,y 2 false (.ia l1 l0 1),i 3 false l0,y 4 false (.bin .lss l0 (.i 1)),u (.pk l5 (.b true) l0)] [] 0 (.exit 3) .skip) (q [m v4,m v8,a 1 l1 l0,g l0,u (.bin .sub l0 (.i 1)),a 1 l4 l3,u (.st l0 l1 1 [])] [] (.seq (.ite [m v0,m v6,u (.bin .add l0 (.i 1)),u (.sc l2 (some l0) none 1),m v4,u (.ca N.aS 0 [] [.l 1,.l 0]),m v0,u (.ln l0),m v6,u (.bin .sub l1 l0),u (.bin .sub l0 (.i 1)),u (.bin .eql l5 l0)] [] 0 (q [m v5,m v8,u (.bs [.l 0] 1),u (.app l2 l0 true 1),x 5 l0] [] (.exit 2)) .skip) (.reg [m v4,m v8,a 1 l1 l0,g l0,u (.bin .add l0 (.i 1)),a 1 l4 l3,u (.st l0 l1 1 [])] [])))))) (.reg [u (.bin .add v14 (.i 1)),x 14 l0] [])))
def eO:C:= .loop true [1,2,3,7,8] K.bC
def cB:C:= (.its [u (.bin .lss v11 v10)] [] 0 .skip (.exit 0) (.seq (.blk 1 (q [m v11,a 1 v9 v11,g l0,x 6 l2,x 7 l1] [] (q [m v7,u (.ca N.aA 0 [] [.l 0]),u (.ca N.aF 0 [] [.l 0]),w 12 (.ca N.aj 1 [0] [.l 0]),w 13 (.ln l0),x 14 (.i 0)] [] (.blk 2 K.eO)))) (.reg [u (.bin .add v11 (.i 1)),x 11 l0] [])))
def gZ:C:= .loop true [1,2,3,6,7,8,12,13,14] K.cB
def aV:Fn:= { dC:=2,vars:=[0,1,4,5,6,7,8,9,11,20,21,22,30,31,32],body:=(q [w 2 (.mv (.c (.nil))),x 3 (.b false)] [] (.seq (.ite [m v0,m v1,u (.ca N.aS 0 [] [.l 1,.l 0]),m v0,u (.ln l0),u (.bin .lss l2 l0)] [] 0 (q [w 2 (.mv (.c (.nil))),x 3 (.b false)] [] .ret) .skip) (q [m v1,u (.ca N.az 1 [] [.l 0]),x 4 l0] [] (q [w 5 (.nw 1)] [] (.seq (q [x 9 v0,w 10 (.ln l0),x 11 (.i 0)] [] (.blk 0 K.gZ)) (q [m v5,x 2 l0,x 3 (.b true)] [] .ret)))))),res:=[(2,none),(3,none)]}
def dS:C:= (.its [u (.bin .lss v7 v6)] [] 0 .skip (.exit 0) (.seq (.blk 1 (q [m v7,x 5 l0] [] (.ite [m v5,m v1,u (.ln l0),u (.mk l0 (z1) 1),u (.ca N.ai 0 [2] [.v 3,.l 3,.l 0])] [] 0 (.reg [m v4,u (.bin .add l0 (.i 1)),x 4 l0] []) .skip))) (.reg [u (.bin .add v7 (.i 1)),x 7 l0] [])))
def jz:C:= .loop false [0,2,5] K.dS
def aS:Fn:= { dC:=2,vars:=[0,1,4,5,6,7,15,16],body:=(q [x 2 (.i 0)] [] (q [m v0,m v1,m v1,u (.ln l0),u (.mk l0 .nil 1),u (.bd [.nil,.nil,.nil] [(0,1,.l 4),(1,1,.l 3),(2,1,.l 0)]),w 3 (.al [.nil,.nil,.nil] []),u (.st l0 l1 3 [])] [] (q [x 4 (.i 0)] [] (.seq (q [m v0,w 6 (.ln l0),x 7 (.i 0)] [] (.blk 0 K.jz)) (q [m v4,x 2 l0] [] .ret))))),res:=[(2,none)]}
def dB:C:= (.seq (.ite [m v3,m v0,u (.ln l0),u (.mn [.l 0,.i 12]),u (.bin .leq l3 l0)] [] 0 .skip (.exit 0)) (.seq (.blk 1 (q [m v0,m v1,m v3,u (.ca N.aW 1 [] [.l 2,.l 1,.c (.nil),.i 0,.l 0]),x 4 l0] [] (.ite [m v4,u (.eqk (.sl) true l0 (.c (.nil)))] [] 0 (q [m v4,x 2 l0] [] .ret) .skip))) (.reg [m v3,u (.bin .add l0 (.i 1)),x 3 l0] [])))
def iS:C:= .loop true [2,4] K.dB
def bu:Fn:= { dC:=2,vars:=[0,1,4,5,6],body:=(q [w 2 (.mv (.c (.nil)))] [] (.seq (q [x 3 (.i 1)] [] (.blk 0 K.iS)) (q [w 2 (.mv (.c (.nil)))] [] .ret))),res:=[(2,none)]}
def bA:C:= (.its [u (.bin .lss v12 v11)] [] 0 .skip (.exit 2) (.seq (.blk 3 (q [m v12,a 1 v10 v12,g l0,x 5 l2,x 6 l1] [] (.ite [m v0,m v6,m v2,u (.ca N.ai 0 [2] [.l 2,.l 1,.l 0])] [] 0 (q [m v0,u (.nc l0),f 2 l0,g l0,m v4,a 1 l1 l0,g l0,m v5,m v1,a 1 l2 l1,u (.st l0 l1 1 [])] [] (q [x 3 (.b true)] [] .ret)) .skip))) (.reg [u (.bin .add v12 (.i 1)),x 12 l0] [])))
def ez:C:= .loop true [3,5,6] K.bA
def aq:C:= (.its [u (.bin .lss v9 v8)] [] 0 .skip (.exit 0) (.seq (.blk 1 (q [a 1 v7 v9,g l0,x 4 l0] [] (.seq (.ite [m v4,m v0,u (.nc l0),f 1 l0,g l0,u (.ln l0),u (.bin .sub l0 (.i 1)),u (.ca N.dQ 0 [] [.l 6,.i 0,.l 0]),u (.un .not l0),m l0,e 0 false v2,e 1 false v4,y 2 false (.ia l1 l0 1),i 3 false l0,u (.pk l4 (.b true) l0)] [] 0 (.exit 1) .skip) (q [m v2,m v4,a 1 l1 l0,u (.st l0 (.b true) 1 [])] [] (.seq (.ite [m v0,u (.nc l0),f 2 l0,g l0,m v4,a 1 l1 l0,g l0,u (.ln l0),m v0,u (.nc l0),f 1 l0,g l0,m v4,a 1 l1 l0,g l0,u (.bin .lss l7 l0)] [] 0 (q [m v0,u (.nc l0),f 2 l0,g l0,m v4,m v0,u (.nc l0),f 2 l0,g l0,m v4,a 1 l1 l0,g l0,m v1,u (.bs [.l 0] 1),u (.app l2 l0 true 1),a 1 l11 l10,u (.st l0 l1 1 [])] [(3,14),(3,15),(8,14),(10,14),(11,14)] (q [x 3 (.b true)] [] .ret)) .skip) (q [m v0,u (.nc l0),f 2 l0,g l0,m v4,a 1 l1 l0,w 10 (.ld l0 1 false),w 11 (.ln l0),x 12 (.i 0)] [] (.blk 2 K.ez))))))) (.reg [u (.bin .add v9 (.i 1)),x 9 l0] [])))
def eB:C:= .loop true [3,4,5,6,10,11,12] K.aq
def ai:Fn:= { dC:=3,vars:=[0,1,2,6,8,9,10,17,18,19,79,80,81],body:=(q [x 3 (.b false)] [] (.seq (q [m v0,u (.nc l0),f 0 l0,g l0,m v1,a 1 l1 l0,w 7 (.ld l0 1 false),w 8 (.ln l0),x 9 (.i 0)] [] (.blk 0 K.eB)) (q [x 3 (.b false)] [] .ret))),res:=[(3,none)]}
def fv:C:= (.its [u (.bin .lss v12 v11)] [] 0 .skip (.exit 0) (.seq (.blk 1 (q [a 1 v10 v12,g l0,x 7 l0] [] (.reg [m v6,m v0,m v7,a 1 l1 l0,g l0,u (.bs [.l 0] 1),u (.app l5 l0 true 1),x 6 l0] []))) (.reg [u (.bin .add v12 (.i 1)),x 12 l0] [])))
def jA:C:= .loop true [3,5,7,8,9] K.fv
def dT:C:= (.seq (.ite [m v8,m v0,u (.ln l0),u (.bin .lss l2 l0)] [] 0 .skip (.exit 2)) (.seq (.blk 3 (q [m v0,m v1,m v2,u (.ca N.aH 1 [] [.l 0]),m v8,u (.bs [.l 0] 1),u (.app l2 l0 true 1),m v8,u (.bin .add l0 (.i 1)),m v4,u (.ca N.aW 1 [] [.l 9,.l 8,.l 3,.l 1,.l 0]),x 9 l0] [] (.ite [m v9,u (.eqk (.sl) true l0 (.c (.nil)))] [] 0 (q [m v9,x 5 l0] [] .ret) .skip))) (.reg [m v8,u (.bin .add l0 (.i 1)),x 8 l0] [])))
def ef:C:= .loop true [3,5,6,7,9,10,11,12] K.dT
def aW:Fn:= { dC:=5,vars:=[0,1,2,3,4,10,11,13,14,15,20,21,22],body:=(q [w 5 (.mv (.c (.nil)))] [] (.seq (.ite [m v2,u (.ln l0),m v4,u (.bin .eql l1 l0)] [] 0 (q [w 6 (.nw 1)] [] (.seq (q [x 10 v2,w 11 (.ln l0),x 12 (.i 0)] [] (.blk 0 K.jA)) (.seq (.ite [m v6,m v1,u (.ca N.aS 0 [] [.l 1,.l 0]),m v4,u (.bin .lss l1 l0)] [] 0 (q [m v2,x 5 l0] [] .ret) .skip) (q [w 5 (.mv (.c (.nil)))] [] .ret)))) .skip) (.seq (q [m v3,x 8 l0] [] (.blk 2 K.ef)) (q [w 5 (.mv (.c (.nil)))] [] .ret)))),res:=[(5,none)]}
end Go.Ev.K
namespace Go.Ev
class dy [Lib]:Prop where
 dF:Lib.fs N.aB=some K.aB
 kF:Lib.fs N.b9=some K.b9
 fS:Lib.fs N.bO=some K.bO
 fw:Lib.fs N.aV=some K.aV
 gP:Lib.fs N.aS=some K.aS
 fT:Lib.fs N.bu=some K.bu
 ch:Lib.fs N.ai=some K.ai
 eW:Lib.fs N.aW=some K.aW
namespace K
variable [Lib] [dy]
theorem dF:Lib.fs N.aB=some K.aB:=dy.dF
theorem kF:Lib.fs N.b9=some K.b9:=dy.kF
theorem fS:Lib.fs N.bO=some K.bO:=dy.fS
theorem fw:Lib.fs N.aV=some K.aV:=dy.fw
theorem gP:Lib.fs N.aS=some K.aS:=dy.gP
theorem fT:Lib.fs N.bu=some K.bu:=dy.fT
theorem ch:Lib.fs N.ai=some K.ai:=dy.ch
theorem eW:Lib.fs N.aW=some K.aW:=dy.eW
end K
end Go.Ev
namespace Go.Ev
open Go
variable [Lib] [aL] [aN] [bF] [bJ]
theorem zF{α β γ:Type}{f:β→Option γ}{g:α→β}{h:α→γ}:∀ {l:List α},(∀x∈l,f (g x)=some (h x))→aE f (l.map g)=some (l.map h)
 | [],_=>rfl
 | a::l,hh=>by
   have ih:=zF (f:=f) (g:=g) (h:=h) (l:=l) fun x hx=>hh x (List.mem_cons_of_mem _ hx)
   simp only[List.map_cons,aE,hh a List.mem_cons_self,aLq,ih,aLw]
theorem p7{H:ab}:∀ {a b:List Nat} {x y:ab},pick H a=some x→pick H b=some y→pick H (a++b)=some (x++y)
 | [],b,x,y,hx,hy=>by cases hx;exact hy
 | i::a,b,x,y,hx,hy=>by
   simp only[pick]at hx
   cases ho:H[i]? with
   | none=>rw[ho]at hx;simp at hx
   | some o=>
     rw[ho,aLq]at hx
     cases hp:pick H a with
     | none=>rw[hp]at hx;simp at hx
     | some z=>
       rw[hp]at hx
       simp only[aLw,Option.some.injEq]at hx
       subst hx
       simp only[List.cons_append,pick,ho,aLq,p7 hp hy,aLw]
end Go.Ev
namespace Go.Ev
open Go
variable [Lib] [aL] [aN] [bF] [bJ] [cT] [bL] [bM] [cC] [cA] [aZ] [a7] [bX] [bY] [eK] [dy]
abbrev bls(l:List Bool):List D:=(l.map Ev.T.bool).map .t
abbrev arA(l:List Int):Obj:= .arr 1 false 0 (ints l)
def rk(G:List (List Int)):Nat→Nat
 | 0=>0
 | n+1=>rk G n+if nth G n=[]then 0 else 1
def idT(G:List (List Int))(f:Nat→Nat):Nat→List Nat
 | 0=>[]
 | m+1=>idT G f m++if nth G m=[]then []else [f m]
def esT(G:List (List Int))(f:Nat→Nat):Nat→List D
 | 0=>[]
 | m+1=>esT G f m++[if nth G m=[]then .nil else .ref (f m) 0 (nth G m).length]
def aT(G G2:List (List Int)):Nat→ab
 | 0=>[]
 | m+1=>aT G G2 m++if nth G m=[]then []else [arA (nth G2 m)]
theorem lI(G:List (List Int))(f:Nat→Nat):∀m,(idT G f m).length=rk G m
 | 0=>rfl
 | m+1=>by
   have ih:=lI G f m
   rw[idT,rk,aLv,ih]
   split<;>rfl
theorem fy(G G2:List (List Int)):∀m,(aT G G2 m).length=rk G m
 | 0=>rfl
 | m+1=>by
   have ih:=fy G G2 m
   rw[aT,rk,aLv,ih]
   split<;>rfl
theorem fU(G:List (List Int))(f:Nat→Nat):∀m,(esT G f m).length=m
 | 0=>rfl
 | m+1=>by rw[esT,aLv,fU G f m];rfl
theorem Jw(G:List (List Int)){n m:Nat}(h:n≤m):rk G n≤rk G m:=by
 induction m with
 | zero=>rw[show n=0 by omega];exact aLs _
 | succ m ih=>
   by_cases e:n=m+1
   · rw[e];exact aLs _
   · have:=ih (by omega)
     rw[rk];omega
theorem nX(G:List (List Int)){n m:Nat}(h:n<m)(hn:nth G n≠[]):rk G n<rk G m:=by
 have:=Jw G (n:=n+1) (m:=m) (by omega)
 rw[rk,if_neg hn]at this
 omega
theorem p8(G:List (List Int))(f:Nat→Nat){n:Nat}(hn:nth G n≠[]):∀m,n<m→(idT G f m)[rk G n]?=some (f n)
 | 0,h=>by omega
 | m+1,h=>by
   rw[idT]
   by_cases e:n=m
   · subst e
     rw[if_neg hn,aLh (by rw[lI];exact aLs _),lI,Nat.sub_self];rfl
   · have ih:=p8 G f hn m (by omega)
     rw[aLg (by rw[lI];exact nX G (by omega) hn)]
     exact ih
theorem vf(G G2:List (List Int)){n:Nat}(hn:nth G n≠[]):∀m,n<m→(aT G G2 m)[rk G n]?=some (arA (nth G2 n))
 | 0,h=>by omega
 | m+1,h=>by
   rw[aT]
   by_cases e:n=m
   · subst e
     rw[if_neg hn,aLh (by rw[fy];exact aLs _),fy,Nat.sub_self];rfl
   · have ih:=vf G G2 hn m (by omega)
     rw[aLg (by rw[fy];exact nX G (by omega) hn)]
     exact ih
theorem p9(G:List (List Int))(f:Nat→Nat){n:Nat}:∀m,n<m→(esT G f m)[n]?=some (if nth G n=[]then .nil else .ref (f n) 0 (nth G n).length)
 | 0,h=>by omega
 | m+1,h=>by
   rw[esT]
   by_cases e:n=m
   · subst e
     rw[aLh (by rw[fU];exact aLs _),fU,Nat.sub_self];rfl
   · rw[aLg (by rw[fU];omega)]
     exact p9 G f m (by omega)
theorem qa(G:List (List Int))(f:Nat→Nat):∀m,(esT G f m).flatMap (ids depth)=idT G f m
 | 0=>rfl
 | m+1=>by
   rw[esT,idT,List.flatMap_append,qa G f m]
   congr 1
   split<;>rfl
theorem kG:∀ {l sel:List Nat},(sel++l).Nodup→bc sel l=sel++l
 | [],sel,_=>by simp[bc]
 | i::r,sel,h=>by
   have hi:sel.contains i=false:=by
    rw[Bool.eq_false_iff]
    intro hc
    have hc:=List.contains_iff_mem.1 hc
    exact(List.nodup_append.1 h).2.2 i hc i List.mem_cons_self rfl
   rw[bc,hi]
   simp only[aLt,if_false]
   rw[kG (by simpa using h)]
   simp
theorem lJ:∀ {l sel:List Nat},(∀x∈l,x∈sel)→bc sel l=sel
 | [],sel,_=>rfl
 | i::r,sel,h=>by
   have hi:sel.contains i=true:=List.contains_iff_mem.2 (h i List.mem_cons_self)
   rw[bc,hi]
   simp only[if_true]
   exact lJ fun x hx=>h x (List.mem_cons_of_mem _ hx)
structure rV(K:ab)(b q g:Nat)(f:Nat→Nat)(W:List (List Int))(S:List Int)(T:List Bool)(G:List (List Int)):Prop where
 hb:K[b]?=some (.box [.t (.sl (W.map tL)),.t (tL S),.ref g 0 G.length])
 hq:K[q]?=some (.arr 1 false 0 (bls T))
 hg:K[g]?=some (.arr 1 false 0 (esT G f G.length))
 hf:∀n,n<G.length→nth G n≠[]→K[f n]?=some (arA (nth G n))
 nd:([b,q,g]++idT G f G.length).Nodup
abbrev eC(W:List (List Int))(S:List Int)(T:List Bool)(G2:List (List Int))(f:Nat→Nat)(A:ab):ab:= .box [.t (.sl (W.map tL)),.t (tL S),.ref 2 0 G2.length]:: .arr 1 false 0 (bls T):: .arr 1 false 0 (esT G2 f G2.length)::A
abbrev cL(W:List (List Int))(S:List Int)(T:List Bool)(G:List (List Int)):ab:=eC W S T G (fun n=>3+rk G n) (aT G G G.length)
theorem tv(T:List Bool):(bls T).flatMap (ids depth)=[]:=yH 8 _
theorem tw(l:List Int):(arA l).ds.flatMap (ids depth)=[]:=yH 8 _
theorem rV.rch{K:ab}{b q g:Nat}{f:Nat→Nat}{W:List (List Int)}{S:List Int}{T:List Bool}{G:List (List Int)}(h:rV K b q g f W S T G)(i:Int)(n:Nat):
 reach K 3 (bc [] (oq 8 [.bp b 0,I i,.ref q 0 n]))=[b,q,g]++idT G f G.length:=by
 have nd:=h.nd
 have n3:([b,q,g]:List Nat).Nodup:=(List.nodup_append.1 nd).1
 have n2:([b,q]:List Nat).Nodup:=by
  have:List.Sublist [b,q] [b,q,g]:=by simp
  exact n3.sublist this
 have s0:bc [] (oq 8 [.bp b 0,I i,.ref q 0 n])=[b,q]:=kG (l:=[b,q]) (sel:=[]) n2
 have i2:dU K [b,q]=[g]:=by
  simp only[dU,List.flatMap_cons,List.flatMap_nil,h.hb,h.hq,Obj.ds,tv]
  rfl
 have s1:bc [b,q] [g]=[b,q,g]:=kG (l:=[g]) (sel:=[b,q]) n3
 have i3:dU K [b,q,g]=g::idT G f G.length:=by
  simp only[dU,List.flatMap_cons,List.flatMap_nil,h.hb,h.hq,h.hg,Obj.ds,tv,qa]
  simp[ids,depth]
 have s2:bc [b,q,g] (g::idT G f G.length)=[b,q,g]++idT G f G.length:=by
  have:([b,q,g]:List Nat).contains g=true:=List.contains_iff_mem.2 (by simp)
  rw[bc,this]
  simp only[if_true]
  exact kG nd
 have i4:∀x∈dU K ([b,q,g]++idT G f G.length),x∈[b,q,g]++idT G f G.length:=by
  intro x hx
  unfold dU at hx
  rw[List.flatMap_append,List.mem_append]at hx
  rcases hx with hx | hx
  · have hx:x∈dU K [b,q,g]:=hx
    rw[i3]at hx
    rcases List.mem_cons.1 hx with e | e
    · subst e;simp
    · exact List.mem_append_right _ e
  · obtain⟨j,hj,hx⟩:=List.mem_flatMap.1 hx
    have:∃n,n<G.length∧nth G n≠[]∧j=f n:=by
     have key:∀m,j∈idT G f m→∃n,n<m∧nth G n≠[]∧j=f n:=by
      intro m
      induction m with
      | zero=>intro h;simp[idT]at h
      | succ m ih=>
        intro h
        rw[idT,List.mem_append]at h
        rcases h with h | h
        · obtain⟨n,a,b,c⟩:=ih h;exact⟨n,by omega,b,c⟩
        · split at h
          · simp at h
          · rename_i hm;exact⟨m,by omega,hm,by simpa using h⟩
     exact key _ hj
    obtain⟨n,hn,hne,rfl⟩:=this
    rw[h.hf n hn hne]at hx
    simp only[tw]at hx
    simp at hx
 simp only[reach,s0,i2,s1,i3,s2,lJ i4]
theorem rV.tx{K:ab}{b q g:Nat}{f:Nat→Nat}{W:List (List Int)}{S:List Int}{T:List Bool}{G:List (List Int)}(h:rV K b q g f W S T G){n:Nat}(hn:n<G.length)(hne:nth G n≠[]):
 ([b,q,g]++idT G f G.length)[3+rk G n]?=some (f n):=by
 rw[aLh (by simp),show 3+rk G n-[b,q,g].length=rk G n by simp]
 exact p8 G f hne _ hn
theorem rV.ix{K:ab}{b q g:Nat}{f:Nat→Nat}{W:List (List Int)}{S:List Int}{T:List Bool}{G:List (List Int)}(h:rV K b q g f W S T G){n:Nat}(hn:n<G.length)(hne:nth G n≠[]):
 idxOf ([b,q,g]++idT G f G.length) (f n)=some (3+rk G n):=dJ _ _ _ h.nd (h.tx hn hne)
theorem rV.ix3{K:ab}{b q g:Nat}{f:Nat→Nat}{W:List (List Int)}{S:List Int}{T:List Bool}{G:List (List Int)}(h:rV K b q g f W S T G):
 idxOf ([b,q,g]++idT G f G.length) b=some 0∧idxOf ([b,q,g]++idT G f G.length) q=some 1∧idxOf ([b,q,g]++idT G f G.length) g=some 2:=
 ⟨dJ _ _ _ h.nd rfl,dJ _ _ _ h.nd rfl,dJ _ _ _ h.nd rfl⟩
theorem nY{u:Nat→Option Nat}{G:List (List Int)}{f f2:Nat→Nat}:∀m,(∀n,n<m→nth G n≠[]→u (f n)=some (f2 n))→aE (ren u depth) (esT G f m)=some (esT G f2 m)
 | 0,_=>rfl
 | m+1,h=>by
   have ih:=nY m fun n hn=>h n (by omega)
   rw[esT,esT]
   refine mS ih ?_
   by_cases e:nth G m=[]
   · rw[if_pos e,if_pos e];rfl
   · rw[if_neg e,if_neg e]
     have:=h m (by omega) e
     simp only[aE,ren,depth,this,aLw,aLq]
theorem ES{u:Nat→Option Nat}{G G2:List (List Int)}:∀m,aE (aX u) (aT G G2 m)=some (aT G G2 m)
 | 0=>rfl
 | m+1=>by
   rw[aT]
   refine mS (ES m) ?_
   split
   · rfl
   · simp only[aE,aX,ints,gM,aLw,aLq]
theorem rV.pk{K:ab}{b q g:Nat}{f:Nat→Nat}{W:List (List Int)}{S:List Int}{T:List Bool}{G:List (List Int)}(h:rV K b q g f W S T G):
 pick K ([b,q,g]++idT G f G.length)=some ([.box [.t (.sl (W.map tL)),.t (tL S),.ref g 0 G.length],.arr 1 false 0 (bls T),.arr 1 false 0 (esT G f G.length)]++aT G G G.length):=by
 have p3:pick K [b,q,g]=some [.box [.t (.sl (W.map tL)),.t (tL S),.ref g 0 G.length],.arr 1 false 0 (bls T),.arr 1 false 0 (esT G f G.length)]:=by
  simp only[pick,h.hb,h.hq,h.hg,aLq,aLw]
 have key:∀m,m≤G.length→pick K (idT G f m)=some (aT G G m):=by
  intro m
  induction m with
  | zero=>intro _;rfl
  | succ m ih=>
    intro hm
    rw[idT,aT]
    refine p7 (ih (by omega)) ?_
    by_cases e:nth G m=[]
    · rw[if_pos e,if_pos e];rfl
    · rw[if_neg e,if_neg e]
      simp only[pick,h.hf m (by omega) e,aLq,aLw]
 exact p7 p3 (key _ (aLs _))
theorem rV.call{K:ab}{b q g:Nat}{f:Nat→Nat}{W:List (List Int)}{S:List Int}{T:List Bool}{G:List (List Int)}(h:rV K b q g f W S T G)(i:Int)(n:Nat):
 yC K bV N.ai 0 [2] [.bp b 0,I i,.ref q 0 n]=(bV 0 N.ai [.bp 0 0,I i,.ref 1 0 n] (cL W S T G)).bind (fD K K ([b,q,g]++idT G f G.length)):=by
 obtain⟨x0,x1,x2⟩:=h.ix3
 have ar:jg K [2] 0 [.bp b 0,I i,.ref q 0 n]=some [.bp b 0,I i,.ref q 0 n]:=by simp only[go_sem]
 have fz:bj K [2] 0 [.bp b 0,I i,.ref q 0 n]=[]:=by simp only[go_sem]
 have rn:aE (ren (idxOf ([b,q,g]++idT G f G.length)) 8) [.bp b 0,I i,.ref q 0 n]=some [.bp 0 0,I i,.ref 1 0 n]:=by
  simp only[aE,ren,x0,x1,aLw,aLq]
 have ro:aE (aX (idxOf ([b,q,g]++idT G f G.length))) ([.box [.t (.sl (W.map tL)),.t (tL S),.ref g 0 G.length],.arr 1 false 0 (bls T),.arr 1 false 0 (esT G f G.length)]++aT G G G.length)=some (cL W S T G):=by
  refine mS (x:=[.box [.t (.sl (W.map tL)),.t (tL S),.ref 2 0 G.length],.arr 1 false 0 (bls T),.arr 1 false 0 (esT G (fun n=>3+rk G n) G.length)]) ?_ (ES _)
  have e1:aE (ren (idxOf ([b,q,g]++idT G f G.length)) 8) (esT G f G.length)=some (esT G (fun n=>3+rk G n) G.length):=nY (u:=idxOf ([b,q,g]++idT G f G.length)) (f2:=fun n=>3+rk G n) G.length (fun n hn hne=>h.ix hn hne)
  have e2:aE (ren (idxOf ([b,q,g]++idT G f G.length)) 8) (bls T)=some (bls T):=gM _ _
  simp only[aE,aX,ren,depth,x2,aLw,aLq]
  rw[e1,e2]
  rfl
 rw[BX,BZ,ar,aLq,B0,h.rch,B1,rn,aLq,fz,B2]
 simp only[pins]
 rw[h.pk,aLq,B3,ro,aLq,B4]
theorem zG(G:List (List Int)):∀m,idT G (fun n=>3+rk G n) m=List.range' 3 (rk G m)
 | 0=>rfl
 | m+1=>by
   rw[idT,zG G m,rk]
   split
   · simp
   · rw[List.range'_concat];simp
theorem fV(W:List (List Int))(S:List Int)(T:List Bool)(G:List (List Int)):(cL W S T G).length=3+rk G G.length:=by
 simp only[cL,eC,List.length_cons,fy];omega
theorem zH(W:List (List Int))(S:List Int)(T:List Bool)(G:List (List Int)):[0,1,2]++idT G (fun n=>3+rk G n) G.length=List.range (cL W S T G).length:=by
 rw[zG,fV,List.range_eq_range',show [0,1,2]=List.range' 0 3 from rfl]
 have:=List.range'_append (s:=0) (m:=3) (n:=rk G G.length) (step:=1)
 simpa using this
theorem tz(W:List (List Int))(S:List Int)(T:List Bool)(G:List (List Int)):rV (cL W S T G) 0 1 2 (fun n=>3+rk G n) W S T G where
 hb:=rfl
 hq:=rfl
 hg:=rfl
 hf n hn hne:=by
  have:=vf G G hne G.length hn
  show(cL W S T G)[3+rk G n]?=_
  rw[show 3+rk G n=rk G n+1+1+1 by omega]
  simp only[cL,eC,List.getElem?_cons_succ]
  exact this
 nd:=by rw[zH W S T G];exact List.nodup_range
theorem wS(n:Nat):aR (List.range n) n=some:=by
 funext i
 unfold aR
 rw[List.length_range]
 split
 · rename_i h;rw[aLp h]
 · congr 1;omega
theorem qb{α:Type}:∀(a b:List α),a.length=b.length→aD a (List.range a.length) b=b:=by
 have key:∀(b a pre:List α),a.length=b.length→aD (pre++a) (List.range' pre.length a.length) b=pre++b:=by
  intro b
  induction b with
  | nil=>
    intro a pre h
    have:a=[]:=List.length_eq_zero_iff.1 h
    subst this;rfl
  | cons x b ih=>
    intro a pre h
    cases a with
    | nil=>simp at h
    | cons y a=>
      simp only[List.length_cons,List.range'_succ,aD]
      rw[List.set_append_right _ _ (aLs _),Nat.sub_self,List.set_cons_zero]
      have:=ih a (pre++[x]) (by simpa using h)
      simp only[aLv,List.length_cons,List.length_nil,Nat.zero_add,List.append_assoc,List.singleton_append]at this
      exact this
 intro a b h
 have:=key b a [] h
 rw[List.range_eq_range']
 simpa using this
theorem CS{K os:ab}(hk:0<K.length)(hl:K.length≤os.length)(ho:aE (aX some) os=some os)(x:Bool):fD K K (List.range K.length) (B x,os)=some (B x,os):=by
 have e:fD K K (List.range K.length) (B x,os)=(ren (aR (List.range K.length) K.length) depth (B x)).bind fun r'=>(aE (aX (aR (List.range K.length) K.length)) os).map fun os=>(r',aD K (List.range K.length) (os.take (List.range K.length).length)++os.drop (List.range K.length).length):=by
  unfold fD
  have:(List.range K.length).isEmpty=false:=by
   cases K with
   | nil=>simp at hk
   | cons a r=>simp[List.range_succ]
  simp only[this,Bool.false_and,aLt,if_false]
  rfl
 rw[e,wS,ho]
 simp only[ren,depth,aLq,aLw,List.length_range]
 rw[qb _ _ (by rw[List.length_take];omega),List.take_append_drop]
theorem vg{W:List (List Int)}{S:List Int}{T:List Bool}{G:List (List Int)}{f:Nat→Nat}{A:ab}(hA:∀o∈A,∃l,o=arA l):aE (aX some) (eC W S T G f A)=some (eC W S T G f A):=by
 have e1:aE (ren some 8) (esT G f G.length)=some (esT G f G.length):=nY (u:=some) (f2:=f) G.length (fun n _ _=>rfl)
 have e2:aE (ren some 8) (bls T)=some (bls T):=gM _ _
 have e3:aE (aX some) A=some A:=by
  refine pY fun o ho=>?_
  obtain⟨l,rfl⟩:=hA o ho
  simp only[aX,ints,gM,aLw]
 simp only[eC,aE,aX,ren,depth,aLw,aLq]
 rw[e1,e2,e3];rfl
theorem mD(G G2:List (List Int)):∀m,∀o∈aT G G2 m,∃l,o=arA l
 | 0,o,h=>by simp[aT]at h
 | m+1,o,h=>by
   rw[aT,List.mem_append]at h
   rcases h with h | h
   · exact mD G G2 m o h
   · split at h
     · simp at h
     · exact⟨_,List.mem_singleton.1 h⟩
theorem CT(W:List (List Int))(S:List Int)(T:List Bool)(G:List (List Int))(i:Int)(n:Nat){x:Bool}{os:ab}(h:bV 0 N.ai [.bp 0 0,I i,.ref 1 0 n] (cL W S T G)=some (B x,os))(hl:3+rk G G.length≤os.length)(ho:aE (aX some) os=some os):
 yC (cL W S T G) bV N.ai 0 [2] [.bp 0 0,I i,.ref 1 0 n]=some (B x,os):=by
 rw[(tz W S T G).call i n,h,aLq,zH W S T G]
 exact CS (by rw[fV];omega) (by rw[fV];exact hl) ho x
abbrev Tb(T:List Bool):Nat→Bool:=fun n=>nth T n
def left(T:List Bool):Nat:=(T.filter fun x=> !x).length
theorem vi:∀ {T:List Bool} {n:Nat},n<T.length→nth T n=false→left (T.set n true)<left T
 | [],n,h,_=>by simp at h
 | a::r,0,h,e=>by
   have:a=false:=e
   subst this
   simp[left]
 | a::r,n+1,h,e=>by
   have ih:=vi (T:=r) (n:=n) (by simpa using h) e
   unfold left at ih ⊢
   simp only[List.set_cons_succ,List.filter_cons]
   split
   · simp only[List.length_cons];omega
   · exact ih
def fK(G:List (List Int))(n:Nat):Nat:=if nth G n=[]then 3+rk G G.length else 3+rk G n
structure vj(G G2:List (List Int))(x:ab):Prop where
 keep:∀n,nth G n≠[]→nth G2 n≠[]
 new:(x=[]∧∀n,nth G n=[]→nth G2 n=[])∨∃n0,n0<G.length∧nth G n0=[]∧nth G2 n0≠[]∧x=[arA (nth G2 n0)]∧∀n,n≠n0→nth G n=[]→nth G2 n=[]
def CU(W:List (List Int))(S:List Int)(G:List (List Int))(i:Int)(T:List Bool)(r:Bool×ab):Prop:=
 (∃G2 T2 x,r=(true,eC W S T2 G2 (fK G) (aT G G2 G.length++x))∧fQ W S G i (Tb T) G2∧vj G G2 x∧T2.length=T.length)∨
 ∃T2,r=(false,cL W S T2 G)∧nV W S G i (Tb T) (Tb T2)∧T2.length=T.length∧left T2≤left T
theorem vk{G G2:List (List Int)}{x:ab}(h:vj G G2 x):∀o∈aT G G2 G.length++x,∃l,o=arA l:=by
 intro o ho
 rcases List.mem_append.1 ho with a | a
 · exact mD _ _ _ o a
 · rcases h.new with⟨e,_⟩ | ⟨n0,_,_,_,e,_⟩
   · rw[e]at a;simp at a
   · rw[e]at a;exact⟨_,List.mem_singleton.1 a⟩
theorem wT{W:List (List Int)}{S:List Int}{T:List Bool}{G:List (List Int)}{i:Int}{n:Nat}{r:Bool×ab}(h:bV 0 N.ai [.bp 0 0,I i,.ref 1 0 n] (cL W S T G)=some (B r.1,r.2))(d:CU W S G i T r):
 yC (cL W S T G) bV N.ai 0 [2] [.bp 0 0,I i,.ref 1 0 n]=some (B r.1,r.2):=by
 refine CT W S T G i n h ?_ ?_
 · rcases d with⟨G2,T2,x,rfl, -,nx, -⟩ | ⟨T2,rfl, -⟩
   · simp only[eC,List.length_cons,aLv,fy];omega
   · rw[fV];exact aLs _
 · rcases d with⟨G2,T2,x,rfl, -,nx, -⟩ | ⟨T2,rfl, -⟩
   · exact vg (vk nx)
   · exact vg (mD _ _ _)
theorem qc{G:List (List Int)}{n:Nat}(hn:n<G.length)(l:List Int){a:Int}(h:l.Perm (a::nth G n)):(gA (G.set n l)).Perm (a::gA G):=by
 have e:G=G.take n++nth G n::G.drop (n+1):=by
  have:nth G n=G[n]:=by unfold nth;rw[aLl,aLc hn];rfl
  rw[this,←List.drop_eq_getElem_cons hn,List.take_append_drop]
 rw[du,du,List.set_eq_take_append_cons_drop,if_pos hn]
 conv=>rhs;rw[e]
 simp only[List.flatten_append,List.flatten_cons]
 refine(List.Perm.append_left _ (List.Perm.append_right _ h)).trans ?_
 simp only[List.cons_append]
 exact List.perm_middle
theorem cF{l:List (List Int)}{i:Nat}{a:List Int}(h:i<l.length):nth (l.set i a) i=a:=by
 unfold nth
 rw[aLl,aLj h];rfl
theorem bh{l:List (List Int)}{i j:Nat}{a:List Int}(h:j≠i):nth (l.set j a) i=nth l i:=by
 unfold nth
 rw[aLl,aLl,aLi h]
theorem gq{l:List Int}{k:Nat}(h:k<l.length):l[k]?=some (nth l k):=by
 unfold nth
 rw[aLc h,aLl,aLc h];rfl
theorem wU{W:List (List Int)}{S:List Int}{G:List (List Int)}(h:GI W S G){i n:Nat}(hi:i<W.length)(hn:n<S.length)(hw:(n:Int)∈nth W i)(hc:((nth G n).length:Int)<nth S n){T:List Bool}(ht:nth T n=false):
 fQ W S G i (Tb T) (G.set n (nth G n++[(i:Int)])):=by
 have gl:=h.len
 refine⟨⟨by simpa using gl,fun m hm hne=>?_,fun m hm j hj=>?_⟩,qc (by omega) _ ?_,fun m hm=>?_,fun U hU=>⟨fun m hm hu=>?_,fun hs=>?_⟩⟩
 · by_cases e:m=n
   · subst e;rw[cF (by omega)];simp only[aLv,List.length_singleton];omega
   · rw[bh (fun k=>e k.symm)]at hne ⊢;exact h.cap m hm hne
 · by_cases e:m=n
   · subst e
     rw[cF (by omega)]at hj
     rcases List.mem_append.1 hj with a | a
     · exact h.wnt m hm j a
     · rw[List.mem_singleton.1 a];exact⟨by omega,by omega,by simpa using hw⟩
   · rw[bh (fun k=>e k.symm)]at hj;exact h.wnt m hm j hj
 · exact List.perm_append_singleton _ _
 · have e:n≠m:=fun k=>by subst k;simp only[Tb]at hm;rw[ht]at hm;simp at hm
   rw[bh e]
 · have e:n≠m:=fun k=>by subst k;have:=(hU n hn hu).1;omega
   rw[bh e]
 · have:=(hU n hn (hs n hn (by simpa using hw))).1;omega
theorem wV{W:List (List Int)}{S:List Int}{G G1:List (List Int)}(h:GI W S G){i n k:Nat}(hi:i<W.length)(hn:n<S.length)(hw:(n:Int)∈nth W i)(hk:k<(nth G n).length){T T1:List Bool}(ht:nth T n=false)
 (hT:∀m,nth T m=true→nth T1 m=true) (h1:nth T1 n=true) (p:fQ W S G (nth (nth G n) k) (Tb T1) G1):fQ W S G i (Tb T) (G1.set n ((nth G n).set k i)):=by
 have gl:=p.gi.len
 have e1:nth G1 n=nth G n:=p.old n h1
 have hp:((nth G n).set k (i:Int)).length=(nth G1 n).length:=by rw[List.length_set,e1]
 refine⟨⟨by simpa using gl,fun m hm hne=>?_,fun m hm j hj=>?_⟩,?_,fun m hm=>?_,fun U hU=>?_⟩
 · by_cases e:m=n
   · subst e;rw[cF (by omega),hp];exact p.gi.cap m hm (fun k=>by rw[e1]at k;rw[k]at hk;simp at hk)
   · rw[bh (fun k=>e k.symm)]at hne ⊢;exact p.gi.cap m hm hne
 · by_cases e:m=n
   · subst e
     rw[cF (by omega)]at hj
     rcases aLk hj with a | a
     · exact h.wnt m hm j a
     · rw[a];exact⟨by omega,by omega,by simpa using hw⟩
   · rw[bh (fun k=>e k.symm)]at hj;exact p.gi.wnt m hm j hj
 · -- the other list is placed elsewhere,this one has its seat
   have ek:(nth G n)[k]?=some (nth (nth G n) k):=gq hk
   have c1:((nth G n).set k (i:Int)).Perm (i::(nth G n).eraseIdx k):=by
    rw[List.set_eq_take_append_cons_drop,if_pos hk,List.eraseIdx_eq_take_drop_succ]
    exact List.perm_middle
   have c2:(nth G n).Perm (nth (nth G n) k::(nth G n).eraseIdx k):=by
    have:nth G n=(nth G n).take k++nth (nth G n) k::(nth G n).drop (k+1):=by
     have q:nth (nth G n) k=(nth G n)[k]:=by have:=ek;rw[aLc hk]at this;exact(Option.some.inj this).symm
     rw[q,←List.drop_eq_getElem_cons hk,List.take_append_drop]
    rw[List.eraseIdx_eq_take_drop_succ]
    exact(List.Perm.of_eq this).trans List.perm_middle
   have q1:(gA (G1.set n ((nth G n).set k (i:Int)))).Perm (i::gA (G1.set n ((nth G n).eraseIdx k))):=by
    have:=qc (G:=G1.set n ((nth G n).eraseIdx k)) (n:=n) (by simpa using by omega) ((nth G n).set k (i:Int)) (a:=i) (by rw[cF (by omega)];exact c1)
    rw[List.set_set]at this
    exact this
   have q2:(gA G1).Perm (nth (nth G n) k::gA (G1.set n ((nth G n).eraseIdx k))):=by
    have:=qc (G:=G1.set n ((nth G n).eraseIdx k)) (n:=n) (by simpa using by omega) (nth G n) (a:=nth (nth G n) k) (by rw[cF (by omega)];exact c2)
    rw[List.set_set]at this
    have eG:G1.set n (nth G n)=G1:=by
     apply List.ext_getElem?
     intro m
     by_cases e:n=m
     · subst e
       rw[aLj (by omega),←e1]
       unfold nth
       rw[aLl,aLc (by omega)];rfl
     · rw[aLi e]
    rwa [eG]at this
   have q3:(gA (G1.set n ((nth G n).eraseIdx k))).Perm (gA G):=List.Perm.cons_inv (q2.symm.trans p.pm)
   exact q1.trans (q3.cons _)
 · have e:n≠m:=fun k=>by subst k;simp only[Tb]at hm;rw[ht]at hm;simp at hm
   rw[bh e]
   exact p.old m (hT m hm)
 · obtain⟨u1,u2⟩:=p.clo U hU
   have nu:¬U n:=fun hu=>u2 fun x hx hx2=>(hU n hn hu).2 _ (aLd (gq hk)) x hx hx2
   refine⟨fun m hm hu=>?_,fun hs=>nu (hs n hn (by simpa using hw))⟩
   have e:n≠m:=fun k=>by subst k;exact nu hu
   rw[bh e]
   exact u1 m hm hu
theorem kH{G G2:List (List Int)}{f f2:Nat→Nat}:∀m,(∀n,n<m→(nth G n=[]↔nth G2 n=[])∧(nth G n≠[]→f n=f2 n∧(nth G n).length=(nth G2 n).length))→esT G f m=esT G2 f2 m
 | 0,_=>rfl
 | m+1,h=>by
   rw[esT,esT,kH m fun n hn=>h n (by omega)]
   obtain⟨h1,h2⟩:=h m (by omega)
   by_cases e:nth G m=[]
   · rw[if_pos e,if_pos (h1.1 e)]
   · obtain⟨a,b⟩:=h2 e
     rw[if_neg e,if_neg (fun k=>e (h1.2 k)),a,b]
theorem tA{G G2:List (List Int)}{f f2:Nat→Nat}{n:Nat}:∀m,n<m→(∀k,k<m→k≠n→(nth G k=[]↔nth G2 k=[])∧(nth G k≠[]→f k=f2 k∧(nth G k).length=(nth G2 k).length))→
 (esT G f m).set n (if nth G2 n=[]then .nil else .ref (f2 n) 0 (nth G2 n).length)=esT G2 f2 m
 | 0,h,_=>by omega
 | m+1,h,hh=>by
   rw[esT,esT]
   by_cases e:n=m
   · subst e
     rw[List.set_append_right _ _ (by rw[fU];exact aLs _),fU,Nat.sub_self,List.set_cons_zero,kH n fun k hk=>hh k (by omega) (by omega)]
   · rw[List.set_append_left _ _ (by rw[fU];omega),tA m (by omega) fun k hk hne=>hh k (by omega) hne]
     obtain⟨h1,h2⟩:=hh m (by omega) (fun k=>e k.symm)
     congr 2
     by_cases e2:nth G m=[]
     · rw[if_pos e2,if_pos (h1.1 e2)]
     · obtain⟨a,b⟩:=h2 e2
       rw[if_neg e2,if_neg (fun k=>e2 (h1.2 k)),a,b]
theorem qd{G G1 G2:List (List Int)}:∀m,(∀n,n<m→nth G n≠[]→nth G1 n=nth G2 n)→aT G G1 m=aT G G2 m
 | 0,_=>rfl
 | m+1,h=>by
   rw[aT,aT,qd m fun n hn=>h n (by omega)]
   by_cases e:nth G m=[]
   · rw[if_pos e,if_pos e]
   · rw[if_neg e,if_neg e,h m (by omega) e]
theorem zI{G G1 G2:List (List Int)}{n:Nat}(hn:nth G n≠[]):∀m,n<m→(∀k,k<m→k≠n→nth G k≠[]→nth G1 k=nth G2 k)→(aT G G1 m).set (rk G n) (arA (nth G2 n))=aT G G2 m
 | 0,h,_=>by omega
 | m+1,h,hh=>by
   rw[aT,aT]
   by_cases e:n=m
   · subst e
     rw[if_neg hn,if_neg hn,List.set_append_right _ _ (by rw[fy];exact aLs _),fy,Nat.sub_self,List.set_cons_zero,qd n fun k hk hne=>hh k (by omega) (by omega) hne]
   · rw[List.set_append_left _ _ (by rw[fy];exact nX G (by omega) hn),zI hn m (by omega) fun k hk hne=>hh k (by omega) hne]
     congr 1
     by_cases e2:nth G m=[]
     · rw[if_pos e2,if_pos e2]
     · rw[if_neg e2,if_neg e2,hh m (by omega) (fun k=>e k.symm) e2]
theorem Jx(T:List Bool)(n:Nat)(x:Bool):(bls T).set n (B x)=bls (T.set n x):=by simp[bls]
theorem Jy(T:List Bool):(bls T).length=T.length:=by simp[bls]
theorem zJ{l:List Bool}{k:Nat}(h:k<l.length):l[k]?=some (nth l k):=by
 unfold nth
 rw[aLc h,aLl,aLc h];rfl
theorem Jz{T:List Bool}{n:Nat}(h:n<T.length):(bls T)[n]?=some (B (nth T n)):=by
 unfold bls
 rw[aLn,aLn,zJ h];rfl
structure Acc(W:List (List Int))(S:List Int)(G:List (List Int))(T T2:Nat→Bool):Prop where
 sub:∀n,T n=true→T2 n=true
 clo:∀n,n<S.length→T2 n=true→T n=false→nth S n≤(nth G n).length∧∀j∈nth G n,pZ W S j fun x=>T2 x=true
theorem Acc.refl(W:List (List Int))(S:List Int)(G:List (List Int))(T:Nat→Bool):Acc W S G T T:=⟨fun _ h=>h,fun n _ h k=>by rw[h]at k;cases k⟩
theorem pZ.mono{W:List (List Int)}{S:List Int}{i:Int}{U V:Nat→Prop}(h:pZ W S i U)(s:∀n,U n→V n):pZ W S i V:=fun x hx hw=>s x (h x hx hw)
theorem Acc.trans{W:List (List Int)}{S:List Int}{G:List (List Int)}{T T2 T3:Nat→Bool}(h:Acc W S G T T2)(g:Acc W S G T2 T3):Acc W S G T T3:=by
 refine⟨fun n hn=>g.sub n (h.sub n hn),fun n hn h3 h1=>?_⟩
 cases h2:T2 n with
 | true=>
   obtain⟨a,b⟩:=h.clo n hn h2 h1
   exact⟨a,fun j hj=>(b j hj).mono g.sub⟩
 | false=>exact g.clo n hn h3 h2
theorem nV.acc{W:List (List Int)}{S:List Int}{G:List (List Int)}{i:Int}{T T2:Nat→Bool}(h:nV W S G i T T2):Acc W S G T T2:=⟨h.sub,h.clo⟩
theorem Acc.num{W:List (List Int)}{S:List Int}{G:List (List Int)}{T T2:List Bool}{n:Nat}(hn:n<T.length)(h:Acc W S G (Tb (T.set n true)) (Tb T2))(hf:nth S n≤(nth G n).length)(hm:∀j∈nth G n,pZ W S j fun x=>Tb T2 x=true):Acc W S G (Tb T) (Tb T2):=by
 have e1:nth (T.set n true) n=true:=by
  unfold nth
  rw[aLl,aLj hn];rfl
 have e2:∀m,m≠n→nth (T.set n true) m=nth T m:=fun m hm=>by
  unfold nth
  rw[aLl,aLl,aLi (fun k=>hm k.symm)]
 refine⟨fun m hm=>h.sub m ?_,fun m hm h2 h1=>?_⟩
 · by_cases e:m=n
   · subst e;exact e1
   · simp only[Tb]at hm ⊢;rw[e2 m e];exact hm
 · by_cases e:m=n
   · subst e;exact⟨hf,hm⟩
   · refine h.clo m hm h2 ?_
     simp only[Tb]at h1 ⊢;rw[e2 m e];exact h1
theorem Qs{W:List (List Int)}{S:List Int}{T:List Bool}{G:List (List Int)}:finish (3+rk G G.length) 0 (cL W S T G) [B false]=some (B false,cL W S T G):=by
 have el:=fV W S T G
 have ho:((cL W S T G).take (3+rk G G.length)).all (fun o=>o.ds.all (old (3+rk G G.length) depth))=true:=by
  rw[List.take_of_length_le (by omega),aLx]
  intro o ho
  have ht:∀ts:List Ev.T,(ts.map D.t).all (old (3+rk G G.length) depth)=true:=fun ts=>by
   rw[aLx];intro d hd;obtain⟨t,_,rfl⟩:=List.mem_map.1 hd;rfl
  simp only[cL,eC,List.mem_cons]at ho
  rcases ho with rfl | rfl | rfl | ho
  · simp[Obj.ds,old,depth];omega
  · exact ht _
  · have:∀m,m≤G.length→(esT G (fun n=>3+rk G n) m).all (old (3+rk G G.length) depth)=true:=by
     intro m
     induction m with
     | zero=>intro _;rfl
     | succ m ih=>
       intro hm
       rw[esT,List.all_append,ih (by omega)]
       by_cases e:nth G m=[]
       · simp[e,old,depth]
       · have:=nX G (n:=m) (m:=G.length) (by omega) e
         simp[e,old,depth];omega
    exact this _ (aLs _)
  · obtain⟨l,rfl⟩:=mD _ _ _ o ho
    exact ht _
 have hr:([B false].all (old (3+rk G G.length) depth))=true:=rfl
 unfold finish
 simp only[if_true,aE,iw,aLq,aLw]
 rw[hr,ho]
 simp only[Bool.and_self,if_true,cM,List.flatMap_cons,List.flatMap_nil,bH,List.append_nil,List.all_nil,j3]
 rw[List.take_of_length_le (by omega)]
 rfl
theorem o9{sel:List Nat}{k:Nat}(hk:k∉sel):∀ {l:List Nat},(∀x∈l,x∈sel∨x=k)→k∈l→bc sel l=sel++[k]
 | [],_,h=>by simp at h
 | i::r,h,hm=>by
   by_cases e:i=k
   · subst e
     have:sel.contains i=false:=by rw[Bool.eq_false_iff];exact fun hc=>hk (List.contains_iff_mem.1 hc)
     rw[bc,this]
     simp only[aLt,if_false]
     exact lJ fun x hx=>by
      rcases h x (List.mem_cons_of_mem _ hx)with a | a
      · exact List.mem_append_left _ a
      · subst a;simp
   · have hi:i∈sel:=by rcases h i List.mem_cons_self with a | a;exact a;exact absurd a e
     rw[bc,List.contains_iff_mem.2 hi]
     simp only[if_true]
     refine o9 hk (fun x hx=>h x (List.mem_cons_of_mem _ hx)) ?_
     rcases List.mem_cons.1 hm with a | a
     · exact absurd a.symm e
     · exact a
theorem zK{n i:Nat}(h:i<n):idxOf (List.range n) i=some i:=dJ _ _ _ List.nodup_range (aLp h)
theorem qe(k:Nat)(ts:List Ev.T):(ts.map D.t).all (old k depth)=true:=by
 rw[aLx];intro d hd;obtain⟨t,_,rfl⟩:=List.mem_map.1 hd;rfl
theorem lK{G:List (List Int)}{f:Nat→Nat}{j:Nat}:∀ {m:Nat},j∈idT G f m↔∃n,n<m∧nth G n≠[]∧j=f n
 | 0=>by simp[idT]
 | m+1=>by
   rw[idT,List.mem_append,lK]
   constructor
   · rintro (⟨n,a,b,c⟩ | h)
     · exact⟨n,by omega,b,c⟩
     · split at h
       · simp at h
       · rename_i hm;exact⟨m,by omega,hm,by simpa using h⟩
   · rintro ⟨n,a,b,c⟩
     by_cases e:n=m
     · subst e;right;rw[if_neg b];simp[c]
     · exact .inl ⟨n,by omega,b,c⟩
theorem tB{G:List (List Int)}{f:Nat→Nat}{k:Nat}:∀m,(∀n,n<m→nth G n≠[]→f n<k)→(esT G f m).all (old k depth)=true
 | 0,_=>rfl
 | m+1,h=>by
   rw[esT,List.all_append,tB m fun n hn=>h n (by omega)]
   by_cases e:nth G m=[]
   · simp[e,old,depth]
   · have:=h m (by omega) e
     simp[e,old,depth,this]
theorem Qt{W:List (List Int)}{S:List Int}{T:List Bool}{G G2:List (List Int)}{x:ab}(gl:G2.length=G.length)(h:vj G G2 x):finish (3+rk G G.length) 0 (eC W S T G2 (fK G) (aT G G2 G.length++x)) [B true]=some (B true,eC W S T G2 (fK G) (aT G G2 G.length++x)):=by
 have al:=fy G G2 G.length
 have fk:∀n,n<G.length→nth G n≠[]→fK G n<3+rk G G.length:=fun n hn hne=>by
  have:=nX G (n:=n) (m:=G.length) hn hne
  unfold fK;rw[if_neg hne];omega
 have hr:([B true].all (old (3+rk G G.length) depth))=true:=rfl
 have ra:∀K:ab,bH K depth (B true)=[]:=fun _=>rfl
 rcases h.new with⟨rfl,hn⟩ | ⟨n0,n1,n2,n3,rfl,n4⟩
 · have el:(eC W S T G2 (fK G) (aT G G2 G.length++[])).length=3+rk G G.length:=by simp only[eC,List.append_nil,List.length_cons,al];omega
   have ho:((eC W S T G2 (fK G) (aT G G2 G.length++[])).take (3+rk G G.length)).all (fun o=>o.ds.all (old (3+rk G G.length) depth))=true:=by
    rw[List.take_of_length_le (by omega),aLx]
    intro o ho
    simp only[eC,List.append_nil,List.mem_cons]at ho
    rcases ho with rfl | rfl | rfl | ho
    · simp[Obj.ds,old,depth];omega
    · exact qe _ _
    · refine tB _ fun n hn' hne=>fk n (by omega) fun e=>hne (hn n e)
    · obtain⟨l,rfl⟩:=mD _ _ _ o ho
      exact qe _ _
   unfold finish
   simp only[if_true,aE,iw,aLq,aLw]
   rw[hr,ho]
   simp only[Bool.and_self,if_true,cM,List.flatMap_cons,List.flatMap_nil,ra,List.append_nil,List.all_nil,j3]
   rw[List.take_of_length_le (by simp only[eC,List.length_cons,al];omega)]
 · generalize hk:3+rk G G.length=k at*
   generalize hK:eC W S T G2 (fK G) (aT G G2 G.length++[arA (nth G2 n0)])=K at*
   have el:K.length=k+1:=by rw[← hK];simp only[eC,List.length_cons,aLv,al,List.length_nil];omega
   have f0:fK G n0=k:=by unfold fK;rw[if_pos n2];exact hk
   have kk:K[k]?=some (arA (nth G2 n0)):=by
    rw[← hK,←hk,show 3+rk G G.length=rk G G.length+1+1+1 by omega]
    simp only[eC,List.getElem?_cons_succ]
    rw[aLh (by omega),al,Nat.sub_self];rfl
   have hg:K[2]?=some (.arr 1 false 0 (esT G2 (fK G) G2.length)):=by rw[← hK];rfl
   have k3:3≤k:=by omega
   -- the names that the old objects hold
   have ids_:∀i,i<k→∀j∈(match K[i]? with | some o=>o.ds.flatMap (ids depth) | none=>[]),j<k∨j=k:=by
    intro i hi j hj
    have mem:∃o,K[i]?=some o∧j∈o.ds.flatMap (ids depth):=by
     cases ho:K[i]? with
     | none=>rw[ho]at hj;simp at hj
     | some o=>rw[ho]at hj;exact⟨o,rfl,hj⟩
    obtain⟨o,ho,hj⟩:=mem
    have hm:o∈K:=aLd ho
    rw[← hK]at hm
    simp only[eC,List.mem_cons,List.mem_append,List.not_mem_nil,or_false]at hm
    rcases hm with rfl | rfl | rfl | hm | rfl
    · have:j=2:=by simpa [Obj.ds,ids,depth]using hj
      omega
    · rw[show(Obj.arr 1 false 0 (bls T)).ds.flatMap (ids depth)=[]from tv T]at hj;simp at hj
    · rw[show(Obj.arr 1 false 0 (esT G2 (fK G) G2.length)).ds.flatMap (ids depth)=_ from qa _ _ _]at hj
      obtain⟨n,a,b,rfl⟩:=lK.1 hj
      by_cases e:nth G n=[]
      · right;unfold fK;rw[if_pos e];exact hk
      · left;exact fk n (by omega) e
    · obtain⟨l,rfl⟩:=mD _ _ _ o hm
      rw[tw]at hj;simp at hj
    · rw[tw]at hj;simp at hj
   have fr:bc (List.range k) (dU K (List.range k))=List.range k++[k]:=by
    refine o9 (by simp) (fun j hj=>?_) ?_
    · unfold dU at hj
      obtain⟨i,hi,hj⟩:=List.mem_flatMap.1 hj
      rcases ids_ i (aLu.1 hi) j hj with a | a
      · exact .inl (aLu.2 a)
      · exact .inr a
    · unfold dU
      refine List.mem_flatMap.2 ⟨2,aLu.2 (by omega),?_⟩
      rw[hg]
      show k∈(esT G2 (fK G) G2.length).flatMap (ids depth)
      rw[qa]
      exact lK.2 ⟨n0,by omega,n3,f0.symm⟩
   have no:((K.take k).all (fun o=>o.ds.all (old k depth)))=false:=by
    rw[Bool.eq_false_iff]
    intro hh
    rw[aLx]at hh
    have h2:(Obj.arr 1 false 0 (esT G2 (fK G) G2.length))∈K.take k:=by
     refine aLd (i:=2) ?_
     rw[List.getElem?_take_of_lt (by omega)];exact hg
    have h3:=hh _ h2
    simp only[Obj.ds,aLx]at h3
    have h4:=h3 (.ref (fK G n0) 0 (nth G2 n0).length) (by
     have:=p9 G2 (fK G) (n:=n0) G2.length (by omega)
     rw[if_neg n3]at this
     exact aLd this)
    rw[f0]at h4
    simp[old,depth]at h4
   have pk1:pick K [k]=some [arA (nth G2 n0)]:=by simp only[pick,kk,aLq,aLw]
   have fz:bz K (arA (nth G2 n0))=some (arA (nth G2 n0)):=by
    have e:∀ts:List Ev.T,aE (fun d=>(frz K depth d).map D.t) (ts.map D.t)=some (ts.map D.t):=fun ts=>zF fun t _=>rfl
    simp only[bz,ints,e,aLw]
   have ar0:(arA (nth G2 n0)).ds.flatMap (bH K depth)=[]:=by
    rw[List.flatMap_eq_nil_iff]
    intro d hd
    simp only[Obj.ds,ints]at hd
    obtain⟨t,_,rfl⟩:=List.mem_map.1 hd
    rfl
   have kl:eh K (max 0 1) (List.range k) (dU K (List.range k))=some ([k],[arA (nth G2 n0)]):=by
    show eh K (0+1) (List.range k) (dU K (List.range k))=_
    simp only[eh]
    rw[fr]
    have d1:(List.range k++[k]).drop (List.range k).length=[k]:=List.drop_left
    rw[d1,pk1]
    simp only[aLq,if_true,List.flatMap_cons,List.flatMap_nil,ar0,List.append_nil,List.all_nil,aE,fz,aLw]
   have ix:∀j,j<k∨j=k→idxOf (List.range k++[k]) j=some j:=fun j hj=>by
    rw[← List.range_succ];exact zK (by omega)
   have rn:aE (aX (idxOf (List.range k++[k]))) K=some K:=by
    have e1:aE (ren (idxOf (List.range k++[k])) 8) (esT G2 (fK G) G2.length)=some (esT G2 (fK G) G2.length):=nY (u:=idxOf (List.range k++[k])) (f2:=fK G) G2.length (fun n hn hne=>by
     refine ix _ ?_
     by_cases e:nth G n=[]
     · right;unfold fK;rw[if_pos e];exact hk
     · left;exact fk n (by omega) e)
    have e2:aE (ren (idxOf (List.range k++[k])) 8) (bls T)=some (bls T):=gM _ _
    have e3:aE (aX (idxOf (List.range k++[k]))) (aT G G2 G.length++[arA (nth G2 n0)])=some (aT G G2 G.length++[arA (nth G2 n0)]):=by
     refine pY fun o ho=>?_
     have:∃l,o=arA l:=by
      rcases List.mem_append.1 ho with a | a
      · exact mD _ _ _ o a
      · exact⟨_,List.mem_singleton.1 a⟩
     obtain⟨l,rfl⟩:=this
     simp only[aX,ints,gM,aLw]
    have e4:=ix 2 (by omega)
    rw[← hK]
    simp only[eC,aE,aX,ren,depth,e4,aLw,aLq]
    rw[e1,e2,e3];rfl
   have tk:K.take k++[arA (nth G2 n0)]=K:=by
    have:=List.take_append_drop k K
    have d:K.drop k=[arA (nth G2 n0)]:=by
     apply List.ext_getElem?
     intro j
     rw[List.getElem?_drop]
     cases j with
     | zero=>exact kk
     | succ j=>rw[aLm (by omega),aLm (by simp)]
    rw[d]at this
    exact this
   have i0:([B true].flatMap (ids depth))=[]:=rfl
   unfold finish
   simp only[if_true,aE,iw,aLq,aLw]
   rw[hr,no]
   simp only[Bool.and_false,aLt,if_false]
   rw[i0,List.nil_append,kl]
   simp only[aLq,cM,if_true,List.flatMap_cons,List.flatMap_nil,ra,List.append_nil,List.all_nil]
   rw[tk,rn]
   rfl
theorem zL(l:List Int):(ints l).length=l.length:=by simp[ints]
theorem mU(W:List (List Int))(S:List Int)(T:List Bool)(G:List (List Int)):bR (3+rk G G.length) (cL W S T G)=true:=by
 have h:(cL W S T G).all (fun o=>o.ds.all (old (3+rk G G.length) depth))=true:=by
  rw[aLx]
  intro o ho
  simp only[cL,eC,List.mem_cons]at ho
  rcases ho with rfl | rfl | rfl | ho
  · simp[Obj.ds,old,depth];omega
  · exact qe _ _
  · exact tB _ fun n hn hne=>by have:=nX G (n:=n) (m:=G.length) hn hne;omega
  · obtain⟨l,rfl⟩:=mD _ _ _ o ho
    exact qe _ _
 rw[← eb];exact h
theorem CV{W:List (List Int)}{S:List Int}{T:List Bool}{G G1:List (List Int)}{x:ab}{n:Nat}(hl:G1.length=G.length)(hn:n<G.length)(hne:nth G n≠[]){l:List Int}(hll:l.length=(nth G1 n).length)(h1:nth G1 n≠[]):
 (eC W S T G1 (fK G) (aT G G1 G.length++x)).set (3+rk G n) (arA l)=eC W S T (G1.set n l) (fK G) (aT G (G1.set n l) G.length++x):=by
 have e1:esT G1 (fK G) G1.length=esT (G1.set n l) (fK G) (G1.set n l).length:=by
  rw[List.length_set]
  refine kH _ fun m hm=>?_
  by_cases e:m=n
  · subst e
    rw[cF hm]
    refine⟨⟨fun k=>absurd k h1,fun k=>?_⟩,fun _=>⟨rfl,hll.symm⟩⟩
    rw[k]at hll;exact List.length_eq_zero_iff.1 hll.symm
  · rw[bh (fun k=>e k.symm)]
    exact⟨Iff.rfl,fun _=>⟨rfl,rfl⟩⟩
 have e2:(aT G G1 G.length++x).set (rk G n) (arA l)=aT G (G1.set n l) G.length++x:=by
  rw[List.set_append_left _ _ (by rw[fy];exact nX G hn hne)]
  have:=zI (G1:=G1) (G2:=G1.set n l) hne G.length hn fun k hk hkn _=>by rw[bh (fun z=>hkn z.symm)]
  rw[cF (by omega)]at this
  rw[this]
 rw[show 3+rk G n=rk G n+1+1+1 by omega]
 rw[List.length_set]at e1
 simp only[eC,List.set_cons_succ,e2,List.length_set,←e1]
abbrev inV(i n j k L wl:Nat)(l:List Int)(gD:D)(gl:Nat):List D:=[.bp 0 0,I i,.ref 1 0 L,.und,I n,.und,.und,.t (tL l),I wl,I j,gD,I gl,I k]
def vl(G:List (List Int))(n:Nat):D:=if nth G n=[]then .nil else .ref (3+rk G n) 0 (nth G n).length
theorem Wi{W:List (List Int)}{S:List Int}{G:List (List Int)}(hW:W.length≤1000)(hS:S.length≤1000)(hG:GI W S G)(hc:∀n,(nth G n).length≤1000000){i n:Nat}(hi:i<W.length)(hn:n<S.length)(hw:(n:Int)∈nth W i){T T1:List Bool}(ht:nth T n=false)(hT:∀m,nth T m=true→nth T1 m=true)(h1:nth T1 n=true)(tl:T1.length=S.length)
 (ih:∀T':List Bool,T'.length=S.length→left T'≤left T1→∀o:Nat,o<W.length→∃r,bV 0 N.ai [.bp 0 0,I o,.ref 1 0 S.length] (cL W S T' G)=some (B r.1,r.2)∧CU W S G o T' r) (j wl:Nat) (z3 z5 z6:D):
 ∃q,exS bV K.ez ⟨[.bp 0 0,I i,.ref 1 0 S.length,z3,I n,z5,z6,.t (tL (nth W i)),I wl,I j,vl G n,I (nth G n).length,I 0],cL W S T1 G⟩=some q∧
  ((∃T2:List Bool,q=(.exit 2,⟨inV i n j (nth G n).length S.length wl (nth W i) (vl G n) (nth G n).length,cL W S T2 G⟩)∧T2.length=S.length∧Acc W S G (Tb T1) (Tb T2)∧left T2≤left T1∧∀o∈nth G n,pZ W S o fun x=>Tb T2 x=true)∨
   ∃(T2:List Bool) (G2:List (List Int)) (x:ab) (vs:List D),q=(.ret,⟨vs,eC W S T2 G2 (fK G) (aT G G2 G.length++x)⟩)∧vs[3]?=some (B true)∧T2.length=S.length∧vj G G2 x∧fQ W S G i (Tb T) G2):=by
 have gl:=hG.len
 refine yY (fun k st=>∃T':List Bool,T'.length=S.length∧Acc W S G (Tb T1) (Tb T')∧left T'≤left T1∧(∀q,q<k→pZ W S (nth (nth G n) q) fun x=>Tb T' x=true)∧st=⟨inV i n j k S.length wl (nth W i) (vl G n) (nth G n).length,cL W S T' G⟩) (nth G n).length _ ⟨T1,tl,Acc.refl _ _ _ _,aLs _,fun q hq=>by omega,by simp only[go_sem,inV,Int.natCast_zero]⟩ ?_ ?_
 · rintro k st hk ⟨T',tl',acc,lf,ws,rfl⟩
   have hne:nth G n≠[]:=fun e=>by rw[e]at hk;simp at hk
   have gD:vl G n= .ref (3+rk G n) 0 (nth G n).length:=if_neg hne
   obtain⟨o1,o2,o3⟩:=hG.wnt n hn _ (aLd (gq hk))
   obtain⟨r,hr,dn⟩:=ih T' tl' lf (nth (nth G n) k).toNat (by omega)
   rw[Int.toNat_of_nonneg o1]at hr dn
   have oc:=wT (n:=S.length) hr dn
   have rl:=nX G (n:=n) (m:=G.length) (by omega) hne
   have cl:=fV W S T' G
   have ka:(cL W S T' G)[3+rk G n]?=some (arA (nth G n)):=(tz W S T' G).hf n (by omega) hne
   have eg:(ints (nth G n))[k]?=some (I (nth (nth G n) k)):=pW _ _ hk
   have el:=zL (nth G n)
   have glb:=hc n
   rcases dn with⟨G1,T2,x,rfl,p,nx,tl2⟩ | ⟨T2,rfl,p,tl2,lf2⟩
   · right
     have g1:=p.gi.len
     have pn:nth G1 n=nth G n:=p.old n (by
      by_cases e:Tb T1 n=true
      · exact acc.sub n e
      · exact absurd h1 e)
     have st:=CV (W:=W) (S:=S) (T:=T2) (G:=G) (G1:=G1) (x:=x) (by omega) (by omega) hne (l:=(nth G n).set k i) (by rw[List.length_set,pn]) (by rw[pn];exact hne)
     have st2:arA ((nth G n).set k (i:Int))= .arr 1 false 0 ((ints (nth G n)).set k (I i)):=by simp[arA,ints]
     rw[st2]at st
     have mv:=wV hG hi hn hw hk ht (fun m hm=>acc.sub m (hT m hm)) (acc.sub n h1) p
     have nx2:vj G (G1.set n ((nth G n).set k (i:Int))) x:=by
      have en:nth (G1.set n ((nth G n).set k (i:Int))) n≠[]:=by
       rw[cF (by omega)]
       intro e
       have:=congrArg List.length e
       rw[List.length_set]at this
       simp at this
       exact hne this
      refine⟨fun m hm=>?_,?_⟩
      · by_cases e:m=n
        · subst e;exact en
        · rw[bh (fun z=>e z.symm)];exact nx.keep m hm
      · rcases nx.new with⟨a,b⟩ | ⟨n0,a,b,c,d,e⟩
        · refine .inl ⟨a,fun m hm=>?_⟩
          have:m≠n:=fun z=>by subst z;exact hne hm
          rw[bh (fun z=>this z.symm)];exact b m hm
        · have e0:n≠n0:=fun z=>by subst z;exact hne b
          refine .inr ⟨n0,a,b,by rw[bh e0];exact c,by rw[bh e0];exact d,fun m hm1 hm2=>?_⟩
          have:n≠m:=fun z=>by subst z;exact hne hm2
          rw[bh this];exact e m hm1 hm2
     have k0:(eC W S T2 G1 (fK G) (aT G G1 G.length++x))[0]?=some (.box [.t (.sl (W.map tL)),.t (tL S),.ref 2 0 G1.length]):=rfl
     have k2:(eC W S T2 G1 (fK G) (aT G G1 G.length++x))[2]?=some (.arr 1 false 0 (esT G1 (fK G) G1.length)):=rfl
     have k3:(eC W S T2 G1 (fK G) (aT G G1 G.length++x))[3+rk G n]?=some (arA (nth G n)):=by
      rw[show 3+rk G n=rk G n+1+1+1 by omega]
      simp only[eC,List.getElem?_cons_succ]
      rw[aLg (by rw[fy];exact rl),vf G G1 hne G.length (by omega),pn]
     have ee:(esT G1 (fK G) G1.length)[n]?=some (.ref (3+rk G n) 0 (nth G n).length):=by
      rw[p9 G1 (fK G) G1.length (by omega),pn,if_neg hne]
      unfold fK;rw[if_neg hne]
     have e3:=fU G1 (fK G) G1.length
     simp only at oc tl2
     have fin:∃vs,exS bV K.bA ⟨inV i n j k S.length wl (nth W i) (vl G n) (nth G n).length,cL W S T' G⟩=some (.ret,⟨vs,eC W S T2 (G1.set n ((nth G n).set k (i:Int))) (fK G) (aT G (G1.set n ((nth G n).set k (i:Int))) G.length++x)⟩)∧vs[3]?=some (B true):=by
      rw[gD]
      generalize eC W S T2 (G1.set n ((nth G n).set k (i:Int))) (fK G) (aT G (G1.set n ((nth G n).set k (i:Int))) G.length++x)=K3 at*
      generalize eC W S T2 G1 (fK G) (aT G G1 G.length++x)=K2 at*
      generalize cL W S T' G=K1 at*
      generalize esT G1 (fK G) G1.length=E at*
      generalize nth (nth G n) k=oth at*
      generalize (nth G n).length=gln at*
      clear ih hT nx nx2 mv p pn ws acc
      simp only[arA]at*
      generalize ints (nth G n)=GG at*
      generalize 3+rk G n=id at*
      apply Exists.intro
      apply And.intro
      · simp(disch:=omega)only[go_sem,K.bA,↓reduceIte,ka,eg,el,oc,k0,k2,k3,ee,e3,st,reduceAdd,reduceSub]
        rfl
      · rfl
     obtain⟨vs,f1,f2⟩:=fin
     exact⟨_,f1,by simp,.inr ⟨T2,_,x,vs,rfl,f2,by omega,nx2,mv⟩⟩
   · left
     simp only at oc tl2 lf2
     refine⟨⟨inV i n j (k+1) S.length wl (nth W i) (vl G n) (nth G n).length,cL W S T2 G⟩,?_,T2,by omega,acc.trans p.acc,by omega,fun q hq=>?_,rfl⟩
     · have ho:=mU W S T2 G
       have cl2:=fV W S T2 G
       have tk:(cL W S T2 G).take (3+rk G G.length)=cL W S T2 G:=List.take_of_length_le (by omega)
       rw[gD,cl]
       generalize cL W S T2 G=K2 at*
       generalize cL W S T' G=K1 at*
       generalize nth (nth G n) k=oth at*
       generalize (nth G n).length=gln at*
       clear ih hT p ws acc
       simp only[arA]at*
       generalize ints (nth G n)=GG at*
       have k3:3≤3+rk G G.length:=by omega
       have i3:3+rk G n<3+rk G G.length:=by omega
       generalize 3+rk G n=id at*
       generalize 3+rk G G.length=kL at*
       have b0:ltB 0 kL=true:=by rw[df];simp;omega
       have b1:ltB 1 kL=true:=by rw[df];simp;omega
       have b2:ltB id kL=true:=by rw[df];simp;omega
       simp(disch:=omega)only[go_sem,K.bA,↓reduceIte,ka,eg,el,oc,ho,tk,cl2,b0,b1,b2,reduceAdd,reduceSub]
       rfl
     · by_cases e:q=k
       · subst e;exact p.wnt
       · exact(ws q (by omega)).mono p.sub
 · rintro st ⟨T',tl',acc,lf,ws,rfl⟩
   refine⟨(.exit 2,⟨inV i n j (nth G n).length S.length wl (nth W i) (vl G n) (nth G n).length,cL W S T' G⟩),?_,by simp,.inl ⟨T',rfl,tl',acc,lf,fun o ho=>?_⟩⟩
   · generalize cL W S T' G=K1
     generalize (nth G n).length=gln
     simp(disch:=omega)only[go_sem,K.bA,↓reduceIte,reduceAdd,reduceSub]
   · obtain⟨k,hk⟩:=aLf.1 ho
     have kl:=(aLe.1 hk).1
     have:=ws k kl
     have e:nth (nth G n) k=o:=by have:=gq kl;rw[hk]at this;exact(Option.some.inj this).symm
     rwa [e]at this
end Go.Ev
