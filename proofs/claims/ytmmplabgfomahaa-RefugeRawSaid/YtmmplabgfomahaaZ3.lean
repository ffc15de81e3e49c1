/- Parts of the proof: see the text that holds the theorem. -/
import Derived.Test.YtmmplabgfomahaaZ2
set_option linter.all false
open Nat (reduceAdd reduceSub)
set_option maxRecDepth 100000
namespace Go.Ev
open Go
abbrev I(n:Int):D:= .t (.int .i64 n)
abbrev B(b:Bool):D:= .t (.bool b)
def xr{β:Type}(call:ak):List R→List D→List D→ab→(List D→List D→ab→Option β)→Option β
 | rs,L,vs,H,K=>(evR call rs L vs H).bind fun q=>K q.1 q.2.1 q.2.2
def F6{β:Type}(call:ak)(rs:List R)(d:Option Nat)(L vs:List D)(K:List D→List D→ab→Option β)(p:D×ab):Option β:=
 xr call rs (p.1::L) (wr vs d p.1) p.2 K
@[go_sem] theorem QQ {β : Type} (call : ak) (rs : List R) (d : Option Nat) (L vs : List D) (K : List D → List D → ab → Option β) (x : D) (H : ab) :
 F6 call rs d L vs K (x,H)=xr call rs (x::L) (wr vs d x) H K:=(rfl)
@[go_sem] theorem QR {β : Type} (call : ak) (L vs : List D) (H : ab) (K : List D → List D → ab → Option β) : xr call [] L vs H K = K L vs H := (rfl)
@[go_sem] theorem Nu {β : Type} (call : ak) (o : O) (d : Option Nat) (rs : List R) (L vs : List D) (H : ab) (K : List D → List D → ab → Option β) :
 xr call (⟨o,d,none⟩::rs) L vs H K=(evO call (X.get vs L) H o).bind (F6 call rs d L vs K):=by
 simp[xr,evR,aL,Option.bind_assoc]
 rfl
def gate{β:Type}(c:Option D)(w:Bool)(a b:Option β):Option β:=match c with
 | some (.t (.bool x))=>if x=w then a else b
 | some (.tup [])=>b
 | _=>none
@[congr] theorem J5 {β : Type} {c c' : Option D} {w : Bool} {a b : Option β} (h : True → c = c') : gate c w a b = gate c' w a b := by rw [h trivial]
@[go_sem] theorem QS {β : Type} (p : Prop) [Decidable p] (a b : Option β) : gate (some (.t (.bool (decide p)))) true a b = if p then a else b := by
 by_cases h:p<;>simp[gate,h]
@[go_sem] theorem Nv {β : Type} (p : Prop) [Decidable p] (a b : Option β) : gate (some (.t (.bool (decide p)))) false a b = if p then b else a := by
 by_cases h:p<;>simp[gate,h]
@[go_sem] theorem Nw {β : Type} (x : Bool) (a b : Option β) : gate (some (.t (.bool x))) true a b = if x = true then a else b := (rfl)
@[go_sem] theorem J6 {β : Type} (x : Bool) (a b : Option β) : gate (some (.t (.bool x))) false a b = if x = true then b else a := by cases x <;> rfl
@[go_sem] theorem Nx {β : Type} (w : Bool) (a b : Option β) : gate (some (.tup [])) w a b = b := (rfl)
@[go_sem] theorem Ny {β : Type} (call : ak) (o : O) (d : Option Nat) (k : Nat) (w : Bool) (rs : List R) (L vs : List D) (H : ab) (K : List D → List D → ab → Option β) :
 xr call (⟨o,d,some (k,w)⟩::rs) L vs H K=gate L[k]? w ((evO call (X.get vs L) H o).bind (F6 call rs d L vs K)) (xr call rs (.tup []::L) (wr vs d (.tup [])) H K):=by
 simp only[xr,evR,aL]
 cases hL:L[k]? with
 | none=>simp[gate]
 | some c=>
   simp only[aLq]
   cases c with
   | t x=>
     cases x with
     | bool b=>cases b<;>cases w<;>simp[gate,Option.bind_assoc]<;>rfl
     | _=>simp[gate]
   | tup ds=>
     cases ds with
     | nil=>simp[gate]
     | cons=>simp[gate]
   | _=>simp[gate]
open Classical in
noncomputable def mG{β:Type}(p:Prop)(x:Option β):Option β:=if p then x else none
@[go_sem] theorem F7 {β : Type} (x : Option β) : mG True x = x := by simp [mG]
noncomputable def rf{β:Type}(call:ak)(all:List R)(n:Nat)(ps:List (Nat×Nat))(rs:List R)(L vs:List D)(H:ab)(acc:List Tr)(K:List D→List D→ab→Option β):Option β:=
 (evR call rs L vs H).bind fun q=>mG (gY call all n ((trace call rs L vs H).reverse++acc) ps) (K q.1 q.2.1 q.2.2)
noncomputable def yE{β:Type}(call:ak)(all:List R)(n:Nat)(ps:List (Nat×Nat))(rs:List R)(d:Option Nat)(L vs:List D)(H:ab)(acc:List Tr)(K:List D→List D→ab→Option β)(p:D×ab):Option β:=
 rf call all n ps rs (p.1::L) (wr vs d p.1) p.2 ((L,vs,H)::acc) K
@[go_sem] theorem QT {β : Type} (call : ak) (all : List R) (n : Nat) (ps : List (Nat × Nat)) (rs : List R) (d : Option Nat) (L vs : List D) (H : ab) (acc : List Tr) (K : List D → List D → ab → Option β) (x : D) (H' : ab) :
 yE call all n ps rs d L vs H acc K (x,H')=rf call all n ps rs (x::L) (wr vs d x) H' ((L,vs,H)::acc) K:=(rfl)
@[go_sem] theorem QU {β : Type} (call : ak) (all : List R) (n : Nat) (ps : List (Nat × Nat)) (L vs : List D) (H : ab) (acc : List Tr) (K : List D → List D → ab → Option β) :
 rf call all n ps [] L vs H acc K=mG (gY call all n ((L,vs,H)::acc) ps) (K L vs H):=by
 simp[rf,evR,trace]
theorem rh{β:Type}(call:ak)(all:List R)(n:Nat)(ps:List (Nat×Nat))(r:R)(rs:List R)(L vs:List D)(H:ab)(acc:List Tr)(K:List D→List D→ab→Option β):
 rf call all n ps (r::rs) L vs H acc K=(aL L r.g).bind fun w=>
  if w then(evO call (X.get vs L) H r.o).bind (yE call all n ps rs r.d L vs H acc K)else rf call all n ps rs (.tup []::L) (wr vs r.d (.tup [])) H ((L,vs,H)::acc) K:=by
 obtain hw | ⟨w,hw⟩:aL L r.g=none∨∃w,aL L r.g=some w:=by cases aL L r.g<;>simp
 · simp[rf,evR,trace,hw]
 · cases w with
   | true=>
     obtain hq | ⟨q,hq⟩:evO call (X.get vs L) H r.o=none∨∃q,evO call (X.get vs L) H r.o=some q:=by cases evO call (X.get vs L) H r.o<;>simp
     · simp[rf,evR,trace,hw,hq]
     · simp[rf,evR,trace,hw,hq,yE]
   | false=>simp[rf,evR,trace,hw]
@[go_sem] theorem Nz {β : Type} (call : ak) (all : List R) (n : Nat) (ps : List (Nat × Nat)) (o : O) (d : Option Nat) (rs : List R) (L vs : List D) (H : ab) (acc : List Tr) (K : List D → List D → ab → Option β) :
 rf call all n ps (⟨o,d,none⟩::rs) L vs H acc K=(evO call (X.get vs L) H o).bind (yE call all n ps rs d L vs H acc K):=by
 rw[rh];simp[aL]
@[go_sem] theorem NA {β : Type} (call : ak) (all : List R) (n : Nat) (ps : List (Nat × Nat)) (o : O) (d : Option Nat) (k : Nat) (w : Bool) (rs : List R) (L vs : List D) (H : ab) (acc : List Tr) (K : List D → List D → ab → Option β) :
 rf call all n ps (⟨o,d,some (k,w)⟩::rs) L vs H acc K=
  gate L[k]? w ((evO call (X.get vs L) H o).bind (yE call all n ps rs d L vs H acc K)) (rf call all n ps rs (.tup []::L) (wr vs d (.tup [])) H ((L,vs,H)::acc) K):=by
 rw[rh]
 simp only[aL]
 cases hL:L[k]? with
 | none=>simp[gate]
 | some c=>
   simp only[aLq]
   cases c with
   | t x=>
     cases x with
     | bool b=>cases b<;>cases w<;>simp[gate]
     | _=>simp[gate]
   | tup ds=>
     cases ds with
     | nil=>simp[gate]
     | cons=>simp[gate]
   | _=>simp[gate]
def mV(call:ak):Option R→Option Tr→Option Tr→Option Tr→Prop
 | some r,some s,some a,some s'=>(match r.o with
   | .al _ _=>a.2.2[s.2.2.length]?=s'.2.2[s.2.2.length]?
   | .bs xs _=>aL s.1 r.g=some false∨((aB (X.get s.2.1 s.1) xs).bind gA).isSome=true
   | o=>jy o=true∧(aL s.1 r.g=some false∨o8 (evO call (X.get s.2.1 s.1) a.2.2 o)=o8 (evO call (X.get s.2.1 s.1) s.2.2 o)))
 | _,_,_,_=>False
@[go_sem] theorem J7 (call : ak) (all : List R) (n : Nat) (acc : List Tr) : gY call all n acc [] = True := (rfl)
@[go_sem] theorem F8 (call : ak) (all : List R) (n : Nat) (acc : List Tr) (p m : Nat) (r : List (Nat × Nat)) :
 gY call all n acc ((p,m)::r)=(mV call all[p]? acc[n-p]? acc[n-m]? acc[n-(p+1)]?∧m≤n∧gY call all n acc r):=by
 simp only[gY,F5,mV]
 try rfl
section
variable (call : ak) (d : Option Nat) (gd : Option (Nat × Bool)) (L vs L' vs' : List D) (H H' : ab) (s' : Tr)
@[go_sem] theorem QV (x : X) (n : Nat) (agg : Bool) : mV call (some ⟨.ld x n agg, d, gd⟩) (some (L, vs, H)) (some (L', vs', H')) (some s') =
 (aL L gd=some false∨o8 (evO call (X.get vs L) H' (.ld x n agg))=o8 (evO call (X.get vs L) H (.ld x n agg))):=by simp[mV,jy]
@[go_sem] theorem QW (x i : X) (sz : Nat) : mV call (some ⟨.ia x i sz, d, gd⟩) (some (L, vs, H)) (some (L', vs', H')) (some s') =
 (aL L gd=some false∨o8 (evO call (X.get vs L) H' (.ia x i sz))=o8 (evO call (X.get vs L) H (.ia x i sz))):=by simp[mV,jy]
@[go_sem] theorem QX (x : X) (lo hi : Option X) (sz : Nat) : mV call (some ⟨.sc x lo hi sz, d, gd⟩) (some (L, vs, H)) (some (L', vs', H')) (some s') =
 (aL L gd=some false∨o8 (evO call (X.get vs L) H' (.sc x lo hi sz))=o8 (evO call (X.get vs L) H (.sc x lo hi sz))):=by simp[mV,jy]
@[go_sem] theorem NB (x : X) (z : T) (sz : Nat) : mV call (some ⟨.mkt x z sz, d, gd⟩) (some (L, vs, H)) (some (L', vs', H')) (some s') =
 (aL L gd=some false∨o8 (evO call (X.get vs L) H' (.mkt x z sz))=o8 (evO call (X.get vs L) H (.mkt x z sz))):=by simp[mV,jy]
@[go_sem] theorem QY (z : List D) (l : List (Nat × Nat)) (L2 vs2 : List D) (H2 : ab) : mV call (some ⟨.al z l, d, gd⟩) (some (L, vs, H)) (some (L', vs', H')) (some (L2, vs2, H2)) = (H'[H.length]? = H2[H.length]?) := (rfl)
@[go_sem] theorem QZ (xs : List X) (sz : Nat) : mV call (some ⟨.bs xs sz, d, gd⟩) (some (L, vs, H)) (some (L', vs', H')) (some s') =
 (aL L gd=some false∨((aB (X.get vs L) xs).bind gA).isSome=true):=(rfl)
@[go_sem] theorem DB (L : List D) : aL L none = some true := (rfl)
def F9(w:Bool):Option D→Option Bool
 | some (.t (.bool b))=>some (b==w)
 | some (.tup [])=>some false
 | _=>none
@[go_sem] theorem J8 (w b : Bool) : F9 w (some (.t (.bool b))) = some (b == w) := (rfl)
@[go_sem] theorem NC (w : Bool) : F9 w (some (.tup [])) = some false := (rfl)
@[go_sem] theorem DC (L : List D) (k : Nat) (w : Bool) : aL L (some (k, w)) = F9 w L[k]? := by
 simp only[aL]
 cases L[k]? with
 | none=>rfl
 | some c=>cases c with
   | t x=>cases x<;>rfl
   | tup ds=>cases ds<;>rfl
   | _=>rfl
@[go_sem] theorem ND (x : D) : o8 (some (x, H)) = some x := (rfl)
attribute [go_sem] beq_true beq_false or_true true_or or_self
end
theorem uF(call:ak)(rs:List R)(vs:List D)(H:ab):xq call rs [] vs H=evR call rs [] vs H:=by
 simp[xq,gY]
def Tv(L vs:List D)(H:ab):Option (Ex×St):=some (.normal,⟨vs,H⟩)
noncomputable def Tw(call:ak)(k:Nat)(a b:C)(L vs:List D)(H:ab):Option (Ex×St):=cf L[k]? (exS call a ⟨vs,H⟩) (exS call b ⟨vs,H⟩)
@[go_sem] theorem Tx (L vs : List D) (H : ab) : Tv L vs H = some (.normal, ⟨vs, H⟩) := (rfl)
@[go_sem] theorem Ty (call : ak) (k : Nat) (a b : C) (L vs : List D) (H : ab) : Tw call k a b L vs H = cf L[k]? (exS call a ⟨vs, H⟩) (exS call b ⟨vs, H⟩) := (rfl)
def andThen(x:Option (Ex×St))(k:St→Option (Ex×St)):Option (Ex×St):=x.bind fun p=>cn p k
@[go_sem] theorem AK (st : St) (k : St → Option (Ex × St)) : andThen (some (.normal, st)) k = k st := (rfl)
@[go_sem] theorem Ga (st : St) (k : St → Option (Ex × St)) : andThen (some (.ret, st)) k = some (.ret, st) := (rfl)
@[go_sem] theorem DD (i : Nat) (st : St) (k : St → Option (Ex × St)) : andThen (some (.exit i, st)) k = some (.exit i, st) := (rfl)
@[go_sem] theorem DE (k : St → Option (Ex × St)) : andThen none k = none := (rfl)
@[go_sem] theorem andThen_ite (c : Prop) [Decidable c] (a b : Option (Ex × St)) (k : St → Option (Ex × St)) : andThen (if c then a else b) k = if c then andThen a k else andThen b k := by
 split<;>rfl
@[go_sem] theorem Q0 (call : ak) (st : St) : exS call .skip st = some (.normal, st) := (rfl)
@[go_sem] theorem Tz (call : ak) (rs : List R) (vs : List D) (H : ab) : exS call (.reg rs []) ⟨vs, H⟩ = xr call rs [] vs H Tv := by
 simp only[exS,uF,xr]
 cases evR call rs [] vs H<;>rfl
@[go_sem] theorem Q1 (call : ak) (rs : List R) (p : Nat × Nat) (ps : List (Nat × Nat)) (vs : List D) (H : ab) :
 exS call (.reg rs (p::ps)) ⟨vs,H⟩=rf call rs rs.length (p::ps) rs [] vs H [] Tv:=by
 simp only[exS,xq,rf,List.append_nil]
 by_cases h:gY call rs rs.length (trace call rs [] vs H).reverse (p::ps)
 · rw[if_pos h]
   simp only[mG,if_pos h]
   cases evR call rs [] vs H<;>rfl
 · rw[if_neg h]
   simp only[mG,if_neg h]
   cases evR call rs [] vs H<;>rfl
@[go_sem] theorem TA (call : ak) (a b : C) (st : St) : exS call (.seq a b) st = andThen (exS call a st) (exS call b) := (rfl)
@[go_sem] theorem TC (call : ak) (rs : List R) (k : Nat) (a b : C) (vs : List D) (H : ab) : exS call (.ite rs [] k a b) ⟨vs, H⟩ = xr call rs [] vs H (Tw call k a b) := by
 simp only[exS,uF,xr]
 cases evR call rs [] vs H<;>rfl
@[go_sem] theorem Q2 (call : ak) (rs : List R) (p : Nat × Nat) (ps : List (Nat × Nat)) (k : Nat) (a b : C) (vs : List D) (H : ab) :
 exS call (.ite rs (p::ps) k a b) ⟨vs,H⟩=rf call rs rs.length (p::ps) rs [] vs H [] (Tw call k a b):=by
 simp only[exS,xq,rf,List.append_nil]
 by_cases h:gY call rs rs.length (trace call rs [] vs H).reverse (p::ps)
 · rw[if_pos h]
   simp only[mG,if_pos h]
   cases evR call rs [] vs H<;>rfl
 · rw[if_neg h]
   simp only[mG,if_neg h]
   cases evR call rs [] vs H<;>rfl
@[go_sem] theorem TD (call : ak) (rs : List R) (ps : List (Nat × Nat)) (k : Nat) (a b c : C) (st : St) : exS call (.its rs ps k a b c) st = andThen (exS call (.ite rs ps k a b) st) (exS call c) := (rfl)
@[go_sem] theorem TE (call : ak) (rs : List R) (ps : List (Nat × Nat)) (k : Nat) (a b c : C) (st : St) : exS call (.itk rs ps k a b c) st = exS call (.ite rs ps k (.seq a c) (.seq b c)) st := (rfl)
@[go_sem] theorem TF (call : ak) (j : Nat) (a b : C) (vs : List D) (H : ab) : exS call (.itv j a b) ⟨vs, H⟩ = cf vs[j]? (exS call a ⟨vs, H⟩) (exS call b ⟨vs, H⟩) := (rfl)
@[go_sem] theorem Q3 (call : ak) (id : Nat) (st : St) : exS call (.exit id) st = some (.exit id, st) := (rfl)
@[go_sem] theorem TG (call : ak) (st : St) : exS call .ret st = some (.ret, st) := (rfl)
@[go_sem] theorem Q4 (call : ak) (st : St) : exS call .fail st = none := (rfl)
@[go_sem] theorem TH (call : ak) (x p f : Nat) (r1 : List R) (p1 : List (Nat × Nat)) (r2 : List R) (p2 : List (Nat × Nat)) (vs : List D) (H : ab) : exS call (.rng x p f r1 p1 r2 p2) ⟨vs, H⟩ = (xm (stepG (xq call) vs p r1 p1 r2 p2) (AJ f vs[x]?) H).map fun H => (.normal, ⟨vs, H⟩) := (rfl)
@[go_sem] theorem TI (call : ak) (v : Bool) (c : C) (st : St) : exS call (.cnd v c) st = exS call c st := (rfl)
def lP(id:Nat)(x:Option (Ex×St)):Option (Ex×St):=x.map (leave id)
@[go_sem] theorem TJ (call : ak) (id : Nat) (c : C) (st : St) : exS call (.blk id c) st = lP id (exS call c st) := (rfl)
@[go_sem] theorem DF (id : Nat) (st : St) : lP id (some (.normal, st)) = some (.normal, st) := by simp [lP, leave]
@[go_sem] theorem NF (id : Nat) (st : St) : lP id (some (.ret, st)) = some (.ret, st) := by simp [lP, leave]
@[go_sem] theorem J9 (id i : Nat) (st : St) : lP id (some (.exit i, st)) = if i = id then some (.normal, st) else some (.exit i, st) := by
 simp only[lP,leave,aLw,Ex.exit.injEq]
 split<;>rfl
@[go_sem] theorem Ka (id : Nat) : lP id none = none := (rfl)
@[go_sem] theorem NG (id : Nat) (c : Prop) [Decidable c] (a b : Option (Ex × St)) : lP id (if c then a else b) = if c then lP id a else lP id b := by
 split<;>rfl
@[congr] theorem Gb {c c' : Option D} {a b : Option (Ex × St)} (h : True → c = c') : cf c a b = cf c' a b := by rw [h trivial]
@[go_sem] theorem NH (p : Prop) [Decidable p] (a b : Option (Ex × St)) : cf (some (.t (.bool (decide p)))) a b = if p then a else b := by
 by_cases h:p<;>simp[cf,h]
@[go_sem] theorem Kb (p : Prop) [Decidable p] (a b : Option (Ex × St)) : cf (some (.t (.bool (!decide p)))) a b = if p then b else a := by
 by_cases h:p<;>simp[cf,h]
@[go_sem] theorem Q5 (a : Option (Ex × St)) : cf (some .ub) a a = a := by simp [cf]
@[go_sem] theorem Kc (x : Bool) (a b : Option (Ex × St)) : cf (some (.t (.bool x))) a b = if x = true then a else b := (rfl)
def gq(gc:Bool)(dead:List Nat)(k:Nat)(x:Option (Ex×St)):Option St:=x.bind fun p=>match p.1 with
 | .normal=>tidy gc dead k p.2
 | _=>none
@[go_sem] theorem BS (gc : Bool) (dead : List Nat) (k : Nat) (st : St) : gq gc dead k (some (.normal, st)) = tidy gc dead k st := (rfl)
@[go_sem] theorem Kd (gc : Bool) (dead : List Nat) (k : Nat) (c : Prop) [Decidable c] (a b : Option (Ex × St)) : gq gc dead k (if c then a else b) = if c then gq gc dead k a else gq gc dead k b := by
 split<;>rfl
theorem lQ{gc:Bool}{dead:List Nat}{body:St→Option (Ex×St)}{st st2:St}(h:gq gc dead st.H.length (body st)=some st2)
 {p:Ex×St} (h2:iD gc dead body st2=some p):iD gc dead body st=some p:=by
 unfold gq at h
 obtain⟨⟨e,st1⟩,hq,h⟩:=aLa.1 h
 cases e with
 | normal=>exact o6 hq h h2
 | ret=>cases h
 | exit=>cases h
theorem pT{gc:Bool}{dead:List Nat}{body:St→Option (Ex×St)}(s:Nat→St){p:Ex×St}(n:Nat)
 (h:∀j,j<n→gq gc dead (s j).H.length (body (s j))=some (s (j+1))) (he:iD gc dead body (s n)=some p):iD gc dead body (s 0)=some p:=by
 have:=mF (s:=s) n 0 (fun j _ hj=>by
  have h:=h j (by omega)
  unfold gq at h
  obtain⟨⟨e,st1⟩,hq,h⟩:=aLa.1 h
  cases e with
  | normal=>exact⟨st1,hq,h⟩
  | ret=>cases h
  | exit=>cases h) (by simpa using he)
 exact this
def Q6(res:List (Nat×Option (Nat×Bool)))(k raw:Nat)(p:Ex×St):Option (D×ab):=match p.1 with
 | .exit _=>none
 | _=>(dk p.2 res).bind (finish k raw p.2.H)
@[go_sem] theorem Q7 (res : List (Nat × Option (Nat × Bool))) (k raw : Nat) (vs : List D) (H : ab) : Q6 res k raw (.ret, ⟨vs, H⟩) = (dk ⟨vs, H⟩ res).bind (finish k raw H) := (rfl)
@[go_sem] theorem Gc (res : List (Nat × Option (Nat × Bool))) (k raw : Nat) (vs : List D) (H : ab) : Q6 res k raw (.normal, ⟨vs, H⟩) = (dk ⟨vs, H⟩ res).bind (finish k raw H) := (rfl)
theorem Gd{fs:Nat→Option Fn}{raw f:Nat}{args:List D}{H:ab}{fn:Fn}{r:D×ab}(hf:fs f=some fn)(hn:fn.dj=args.length)
 (h:(exS (eY fs) fn.body ⟨jt args fn.vars,H⟩).bind (Q6 fn.res H.length raw)=some r) (h0:fn.prim=[]:=by rfl):eY fs raw f args H=some r:=by
 obtain⟨p,hp,he⟩:=aLa.1 h
 exact BN hf hn (BR _ _ _ hp) he h0
@[go_sem] theorem Q8 {α β : Type} (c : Prop) [Decidable c] (a b : Option α) (k : α → Option β) : (if c then a else b).bind k = if c then a.bind k else b.bind k := by
 split<;>rfl
@[go_sem] theorem TK {α β : Type} (c : Prop) [Decidable c] (a b : Option α) (k : α → β) : (if c then a else b).map k = if c then a.map k else b.map k := by
 split<;>rfl
theorem NI(a b:Int):(a==b)=decide (a=b):=by rw[Bool.eq_iff_iff];simp
theorem bY{n:Int}(h1: -9223372036854775808≤n)(h2:n≤9223372036854775807):IntKind.i64.wrap n=n:=by
 have e:IntKind.i64.wrap n=if n % 18446744073709551616≥9223372036854775808 then n % 18446744073709551616-18446744073709551616 else n % 18446744073709551616:=by
  simp[IntKind.wrap,IntKind.signed,IntKind.bits]
 rw[e];split<;>omega
section
variable {α β : Type}
@[go_sem] theorem Ge (a : α) (f : α → Option β) : (some a).bind f = f a := (rfl)
@[go_sem] theorem Ke (a : α) (f : α → β) : (some a).map f = some (f a) := (rfl)
@[go_sem] theorem Gf (f : α → Option β) : (none : Option α).bind f = none := (rfl)
@[go_sem] theorem Kf (f : α → β) : (none : Option α).map f = none := (rfl)
@[go_sem] theorem Kg (a : α) (l : List α) (f : α → β) : (a :: l).map f = f a :: l.map f := (rfl)
@[go_sem] theorem NJ (f : α → β) : ([] : List α).map f = [] := (rfl)
@[go_sem] theorem Kh (a : α) (l : List α) : (a :: l)[0]? = some a := (rfl)
@[go_sem] theorem Ki (a : α) (l : List α) (n : Nat) : (a :: l)[n + 1]? = l[n]? := (rfl)
@[go_sem] theorem Gg (a d : α) (l : List α) : (a :: l).getD 0 d = a := (rfl)
@[go_sem] theorem Gi (a d : α) (l : List α) (n : Nat) : (a :: l).getD (n + 1) d = l.getD n d := (rfl)
@[go_sem] theorem Kj (d : α) (n : Nat) : ([] : List α).getD n d = d := by simp
@[go_sem] theorem Kk (a b : α) (l : List α) : (a :: l).set 0 b = b :: l := (rfl)
@[go_sem] theorem Kl (a b : α) (l : List α) (n : Nat) : (a :: l).set (n + 1) b = a :: l.set n b := (rfl)
@[go_sem] theorem BT (a : α) (l m : List α) : (a :: l) ++ m = a :: (l ++ m) := (rfl)
@[go_sem] theorem DG (l : List α) : [] ++ l = l := (rfl)
@[go_sem] theorem DH (l : List α) : l ++ [] = l := by simp
@[go_sem] theorem AL (a : α) (l : List α) (f : α → List β) : (a :: l).flatMap f = f a ++ l.flatMap f := by simp
@[go_sem] theorem BU (f : α → List β) : ([] : List α).flatMap f = [] := by simp
@[go_sem] theorem DI : ([] : List α).length = 0 := (rfl)
@[go_sem] theorem BW (a : α) (l : List α) : (a :: l).length = l.length + 1 := (rfl)
@[go_sem] theorem DJ (l : List α) (f : α → β) : (l.map f).length = l.length := by simp
@[go_sem] theorem yF (l m : List α) : (l ++ m).length = l.length + m.length := by simp
@[go_sem] theorem uG (n : Nat) (a : α) : (List.replicate n a).length = n := by simp
@[go_sem] theorem DK (l : List α) (i : Nat) (a : α) : (l.set i a).length = l.length := by simp
@[go_sem] theorem Gj (l : List α) : l.drop 0 = l := (rfl)
@[go_sem] theorem Gk (a : α) (l : List α) (n : Nat) : (a :: l).drop (n + 1) = l.drop n := (rfl)
@[go_sem] theorem Km (n : Nat) : ([] : List α).drop n = [] := by simp
@[go_sem] theorem Gl (l : List α) : l.take 0 = [] := (rfl)
@[go_sem] theorem Gm (a : α) (l : List α) (n : Nat) : (a :: l).take (n + 1) = a :: l.take n := (rfl)
@[go_sem] theorem Kn (n : Nat) : ([] : List α).take n = [] := by simp
@[go_sem] theorem Gn (a b : α) : (bif true then a else b) = a := (rfl)
@[go_sem] theorem DL (a b : α) : (bif false then a else b) = b := (rfl)
@[go_sem] theorem Ko (n : Nat) : n + 0 = n := (rfl)
@[go_sem] theorem Kp (n : Nat) : 0 + n = n := by simp
@[go_sem] theorem Kq (a b : α) : (some a = some b) = (a = b) := by simp
@[go_sem] theorem Q9 (a : α) : (some a).isSome = true := (rfl)
end
attribute [go_sem] decide_true decide_false if_true if_false aLt Bool.true_eq_false decide_eq_true_eq decide_eq_false_iff_not aLr Bool.or_eq_true Bool.not_eq_true' Bool.not_eq_true Bool.not_eq_false
 Bool.and_true Bool.true_and Bool.and_false Bool.false_and Bool.or_true Bool.true_or Bool.or_false Bool.false_or and_true true_and and_self not_true_eq_false not_false_eq_true beq_iff_eq bne_iff_ne ne_eq
@[go_sem] theorem Kr : (!true) = false := (rfl)
@[go_sem] theorem Gp : (!false) = true := (rfl)
@[go_sem] theorem XZ (vs L : List D) (j : Nat) : X.get vs L (.v j) = vs[j]? := (rfl)
@[go_sem] theorem X0 (vs L : List D) (k : Nat) : X.get vs L (.l k) = L[k]? := (rfl)
@[go_sem] theorem X1 (vs L : List D) (d : D) : X.get vs L (.c d) = some d := (rfl)
@[go_sem] theorem X2 (vs L : List D) (n : Int) : X.get vs L (.i n) = some (I n) := (rfl)
@[go_sem] theorem X3 (vs L : List D) (x : Bool) : X.get vs L (.b x) = some (B x) := (rfl)
@[go_sem] theorem TL (vs : List D) (x : D) : wr vs none x = vs := (rfl)
@[go_sem] theorem TM (vs : List D) (s : Nat) (x : D) : wr vs (some s) x = vs.set s x := (rfl)
@[go_sem] theorem Ks (args : List D) : jt args [] = [] := (rfl)
@[go_sem] theorem Gq (args : List D) (s : Nat) (r : List Nat) : jt args (s :: r) = args.getD s .und :: jt args r := (rfl)
def TN(H:ab)(d:D):Option (D×ab):=some (d,H)
@[go_sem] theorem TO (H : ab) (d : D) : TN H d = some (d, H) := (rfl)
def dY{α:Type}(a:α)(l:Option (List α)):Option (List α):=l.map (a:: ·)
@[go_sem] theorem Kt {α : Type} (a : α) (l : List α) : dY a (some l) = some (a :: l) := (rfl)
@[go_sem] theorem Ku {α : Type} (a : α) : dY a none = none := (rfl)
@[go_sem] theorem Ra {α β : Type} (f : α → Option β) : aB f [] = some [] := (rfl)
def Wx{α β:Type}(f:α→Option β)(r:List α)(y:β):Option (List β):=dY y (aB f r)
@[go_sem] theorem Gr {α β : Type} (f : α → Option β) (r : List α) (y : β) : Wx f r y = dY y (aB f r) := (rfl)
@[go_sem] theorem yG {α β : Type} (f : α → Option β) (x : α) (r : List α) : aB f (x :: r) = (f x).bind (Wx f r) := (rfl)
section
variable (call : ak) (get : X → Option D) (H : ab)
@[go_sem] theorem X4 (x : X) : evO call get H (.mv x) = (get x).bind (TN H) := by simp only [evO]; cases get x <;> rfl
def Rb(c a b:Option D):Option (D×ab):=c.bind fun c=>a.bind fun a=>b.bind fun b=>(Bw c a b).map fun d=>(d,H)
@[go_sem] theorem X5 (c a b : X) : evO call get H (.pk c a b) = Rb H (get c) (get a) (get b) := (rfl)
@[go_sem] theorem NK (x p q : Bool) : Rb H (some (.t (.bool x))) (some (.t (.bool p))) (some (.t (.bool q))) = some (.t (.bool (bif x then p else q)), H) := by cases x <;> rfl
@[go_sem] theorem NL (a b : D) : Rb H (some (.t (.bool true))) (some a) (some b) = some (a, H) := (rfl)
@[go_sem] theorem Kv (a b : D) : Rb H (some (.t (.bool false))) (some a) (some b) = some (b, H) := (rfl)
@[go_sem] theorem Rc (x p : Bool) : (bif x then p else false) = (x && p) := by cases x <;> rfl
@[go_sem] theorem TP (x q : Bool) : (bif x then true else q) = (x || q) := by cases x <;> rfl
def cP(f:BinOp)(x y:Option D):Option (D×ab):=x.bind fun a=>y.bind fun b=>(oN f a b).map fun d=>(d,H)
@[go_sem] theorem Wy (f : BinOp) (x y : X) : evO call get H (.bin f x y) = cP H f (get x) (get y) := (rfl)
section
variable (k j : IntKind) (a b : Int)
@[go_sem] theorem NM : cP H .add (some (.t (.int k a))) (some (.t (.int k b))) = some (.t (.int k (k.wrap (a + b))), H) := by simp [cP, oN, rV]
@[go_sem] theorem NN : cP H .sub (some (.t (.int k a))) (some (.t (.int k b))) = some (.t (.int k (k.wrap (a - b))), H) := by simp [cP, oN, rV]
@[go_sem] theorem NQ : cP H .mul (some (.t (.int k a))) (some (.t (.int k b))) = some (.t (.int k (k.wrap (a * b))), H) := by simp [cP, oN, rV]
@[go_sem] theorem NR : cP H .quo (some (.t (.int k a))) (some (.t (.int k b))) = if b = 0 then none else some (.t (.int k (k.wrap (a.tdiv b))), H) := by simp only [cP, oN, rV]; by_cases h : b = 0 <;> simp [h]
@[go_sem] theorem NS : cP H .rem (some (.t (.int k a))) (some (.t (.int k b))) = if b = 0 then none else some (.t (.int k (a.tmod b)), H) := by simp only [cP, oN, rV]; by_cases h : b = 0 <;> simp [h]
@[go_sem] theorem NT : cP H .eql (some (.t (.int k a))) (some (.t (.int k b))) = some (.t (.bool (decide (a = b))), H) := by simp [cP, oN, rV, NI]
@[go_sem] theorem NU : cP H .neq (some (.t (.int k a))) (some (.t (.int k b))) = some (.t (.bool (decide (¬ a = b))), H) := by simp [cP, oN, rV, bne, NI]
@[go_sem] theorem NV : cP H .lss (some (.t (.int k a))) (some (.t (.int k b))) = some (.t (.bool (decide (a < b))), H) := by simp [cP, oN, rV]
@[go_sem] theorem NW : cP H .leq (some (.t (.int k a))) (some (.t (.int k b))) = some (.t (.bool (decide (a ≤ b))), H) := by simp [cP, oN, rV]
@[go_sem] theorem NX : cP H .gtr (some (.t (.int k a))) (some (.t (.int k b))) = some (.t (.bool (decide (b < a))), H) := by simp [cP, oN, rV]
@[go_sem] theorem NY : cP H .geq (some (.t (.int k a))) (some (.t (.int k b))) = some (.t (.bool (decide (b ≤ a))), H) := by simp [cP, oN, rV]
@[go_sem] theorem yH (h : 0 ≤ b) : cP H .shl (some (.t (.int k a))) (some (.t (.int j b))) = some (.t (.int k (k.wrap (a * 2 ^ min b.toNat k.bits))), H) := by simp [cP, oN, oM, Int.not_lt.2 h]
@[go_sem] theorem yI (h : 0 ≤ b) : cP H .shr (some (.t (.int k a))) (some (.t (.int j b))) = some (.t (.int k (a.fdiv (2 ^ min b.toNat k.bits))), H) := by simp [cP, oN, oM, Int.not_lt.2 h]
@[go_sem] theorem yJ : cP H .and (some (.t (.int k a))) (some (.t (.int k b))) = some (.t (.int k (k.wrap (BitVec.ofInt k.bits a &&& BitVec.ofInt k.bits b).toNat)), H) := by simp [cP, oN, rV]
@[go_sem] theorem Re : cP H .or (some (.t (.int k a))) (some (.t (.int k b))) = some (.t (.int k (k.wrap (BitVec.ofInt k.bits a ||| BitVec.ofInt k.bits b).toNat)), H) := by simp [cP, oN, rV]
@[go_sem] theorem NZ : cP H .xor (some (.t (.int k a))) (some (.t (.int k b))) = some (.t (.int k (k.wrap (BitVec.ofInt k.bits a ^^^ BitVec.ofInt k.bits b).toNat)), H) := by simp [cP, oN, rV]
def TQ(f:UnOp)(a:D):Option (D×ab):=(unD f a).map fun d=>(d,H)
@[go_sem] theorem X6 (f : UnOp) (x : X) : evO call get H (.un f x) = (get x).bind (TQ H f) := (rfl)
@[go_sem] theorem Rf (x : Bool) : TQ H .not (.t (.bool x)) = some (.t (.bool (!x)), H) := (rfl)
@[go_sem] theorem Rg : TQ H .neg (.t (.int k a)) = some (.t (.int k (k.wrap (0 - a))), H) := (rfl)
def Wz(k:IntKind)(a:D):Option (D×ab):=(Fp k a).map fun d=>(d,H)
@[go_sem] theorem X7 (x : X) : evO call get H (.cv k x) = (get x).bind (Wz H k) := (rfl)
@[go_sem] theorem Rh : Wz H k (.t (.int j a)) = some (.t (.int k (k.wrap a)), H) := (rfl)
end
def gK(q:EqK)(neg:Bool)(x y:Option D):Option (D×ab):=x.bind fun a=>y.bind fun b=>(Dw q neg a b).map fun d=>(d,H)
@[go_sem] theorem WA (q : EqK) (neg : Bool) (x y : X) : evO call get H (.eqk q neg x y) = gK H q neg (get x) (get y) := (rfl)
@[go_sem] theorem Kw (x y : Bool) : gK H .bool false (some (.t (.bool x))) (some (.t (.bool y))) = some (.t (.bool (x == y)), H) := (rfl)
@[go_sem] theorem Gs (x y : Bool) : gK H .bool true (some (.t (.bool x))) (some (.t (.bool y))) = some (.t (.bool (!(x == y))), H) := (rfl)
def DM:List T→List T→Bool
 | .int _ a::xs,.int _ b::ys=>decide (a=b)&&DM xs ys
 | _,_=>true
def wz:Nat→List T→List T→Bool
 | 0,[],[]=>true
 | n+1,.int j _::xs,.int k _::ys=>decide (j=k)&&wz n xs ys
 | _,_,_=>false
@[go_sem] theorem N0 (k j : IntKind) (a b : Int) (xs ys : List T) : DM (.int k a :: xs) (.int j b :: ys) = (decide (a = b) && DM xs ys) := (rfl)
@[go_sem] theorem Ri : DM [] [] = true := (rfl)
@[go_sem] theorem Rj : wz 0 [] [] = true := (rfl)
@[go_sem] theorem N1 (n : Nat) (k : IntKind) (a b : Int) (xs ys : List T) : wz (n + 1) (.int k a :: xs) (.int k b :: ys) = wz n xs ys := by simp [wz]
theorem oh:∀ {n:Nat} {xs ys:List T},wz n xs ys=true→xs.length=n∧eL xs ys=some (DM xs ys)
 | 0,[],[],_=>⟨rfl,rfl⟩
 | 0,[],_::_,h=>by simp[wz]at h
 | 0,_::_,_,h=>by simp[wz]at h
 | n+1,[],_,h=>by simp[wz]at h
 | n+1,x::xs,[],h=>by cases x<;>simp[wz]at h
 | n+1,x::xs,y::ys,h=>by
   cases x<;>cases y<;>simp only[wz,aLr,decide_eq_true_eq,aLt]at h
   obtain⟨rfl,h⟩:=h
   obtain⟨h1,h2⟩:=oh h
   exact⟨by simp[h1],by simp[eL,h2,DM,NI]⟩
@[go_sem] theorem Kx (n : Nat) (xs ys : List T) (h : wz n xs ys = true) : gK H (.ints n) false (some (.t (.agg xs))) (some (.t (.agg ys))) = some (.t (.bool (DM xs ys)), H) := by
 obtain⟨h1,h2⟩:=oh h;simp[gK,Dw,eqD,h1,h2]
@[go_sem] theorem Gt (n : Nat) (xs ys : List T) (h : wz n xs ys = true) : gK H (.ints n) true (some (.t (.agg xs))) (some (.t (.agg ys))) = some (.t (.bool (!DM xs ys)), H) := by
 obtain⟨h1,h2⟩:=oh h;simp[gK,Dw,eqD,h1,h2]
@[go_sem] theorem N2 (id ep n : Nat) (h : 0 < n) : gK H .sl false (some (.ref id ep n)) (some .nil) = some (.t (.bool false), H) := by
 cases n with
 | zero=>omega
 | succ n=>rfl
@[go_sem] theorem N3 : gK H .sl false (some .nil) (some .nil) = some (.t (.bool true), H) := (rfl)
@[go_sem] theorem N4 : gK H .sl false (some (.t (.sl []))) (some .nil) = some (.ub, H) := (rfl)
@[go_sem] theorem Ky : gK H .sl true (some (.t (.sl []))) (some .nil) = some (.ub, H) := (rfl)
@[go_sem] theorem Kz : gK H .sl true (some .nil) (some .nil) = some (.t (.bool false), H) := (rfl)
theorem BX(es:List T)(h:es≠[]):gK H .sl false (some (.t (.sl es))) (some .nil)=some (.t (.bool false),H):=by cases es<;>first | exact(h rfl).elim | rfl
def Rk(a:D):Option (D×ab):=(QL a).map fun d=>(d,H)
@[go_sem] theorem X8 (x : X) : evO call get H (.nc x) = (get x).bind (Rk H) := (rfl)
@[go_sem] theorem TR (id off : Nat) : Rk H (.bp id off) = some (.bp id off, H) := (rfl)
@[go_sem] theorem TS (id ep n i off : Nat) : Rk H (.ap id ep n i off) = some (.ap id ep n i off, H) := (rfl)
@[go_sem] theorem TT (cs : List T) : Rk H (.ep cs) = some (.ep cs, H) := (rfl)
def KA(off:Nat)(a:D):Option (D×ab):=(vR a off).map fun d=>(d,H)
@[go_sem] theorem X9 (x : X) (off : Nat) : evO call get H (.fa x off) = (get x).bind (KA H off) := (rfl)
@[go_sem] theorem TU (id o off : Nat) : KA H off (.bp id o) = some (.bp id (o + off), H) := (rfl)
@[go_sem] theorem TV (id ep n i o off : Nat) : KA H off (.ap id ep n i o) = some (.ap id ep n i (o + off), H) := (rfl)
@[go_sem] theorem TW (cs : List T) (off : Nat) : KA H off (.ep cs) = some (.ep (cs.drop off), H) := (rfl)
@[go_sem] theorem Ya (cs : List D) : cut cs 0 0 = some [] := by simp [cut]
@[go_sem] theorem Yb (c : D) (cs : List D) : cut (c :: cs) 0 1 = some [c] := by simp [cut]
@[go_sem] theorem Yc (c : D) (cs : List D) (n : Nat) : cut (c :: cs) 0 (n + 1) = dY c (cut cs 0 n) := by
 simp only[cut,dY];by_cases h:n≤cs.length<;>simp[h]
@[go_sem] theorem Yd (c : D) (cs : List D) (off n : Nat) : cut (c :: cs) (off + 1) n = cut cs off n := by
 simp only[cut,List.length_cons,List.drop_succ_cons]
 by_cases h:off+n≤cs.length
 · rw[if_pos h,if_pos (by omega)]
 · rw[if_neg h,if_neg (by omega)]
@[go_sem] theorem N5 (c : D) : bE false [c] = some c := (rfl)
@[go_sem] theorem N6 (cs : List D) : bE true cs = some (jg cs) := (rfl)
def mkA(cs:List D):Option (List T)→D
 | some ts=> .t (.agg ts)
 | none=> .agg cs
@[go_sem] theorem Rl (cs : List D) (ts : List T) : mkA cs (some ts) = .t (.agg ts) := (rfl)
@[go_sem] theorem Rm (cs : List D) : mkA cs none = .agg cs := (rfl)
@[go_sem] theorem Rn (cs : List D) : jg cs = mkA cs (gA cs) := by unfold jg; cases gA cs <;> rfl
@[go_sem] theorem Ro : gA [] = some [] := (rfl)
@[go_sem] theorem WB (x : T) (r : List D) : gA (.t x :: r) = dY x (gA r) := (rfl)
@[go_sem] theorem WC (r : List D) : gA (.nil :: r) = none := (rfl)
@[go_sem] theorem Rq (a b c : Nat) (r : List D) : gA (.ref a b c :: r) = none := (rfl)
@[go_sem] theorem Rr (a b c d e : Nat) (r : List D) : gA (.sub a b c d e :: r) = none := (rfl)
@[go_sem] theorem BZ (l : List T) : gA (l.map .t) = some l := by induction l with | nil => rfl | cons a l ih => simp [gA, ih]
def N7(off n:Nat)(agg:Bool)(a:D):Option (D×ab):=(j8 a off n agg).map fun d=>(d,H)
@[go_sem] theorem Ye (x : X) (off n : Nat) (agg : Bool) : evO call get H (.fl x off n agg) = (get x).bind (N7 H off n agg) := (rfl)
def ofC(agg:Bool)(cs:Option (List D)):Option (D×ab):=(cs.bind (bE agg)).bind (TN H)
@[go_sem] theorem Yf (c : D) : ofC H false (some [c]) = some (c, H) := (rfl)
@[go_sem] theorem Yg (cs : List D) : ofC H true (some cs) = some (jg cs, H) := (rfl)
@[go_sem] theorem WD (cs : List T) (off n : Nat) (agg : Bool) : N7 H off n agg (.t (.agg cs)) = ofC H agg (cut (cs.map .t) off n) := by
 simp only[N7,j8,D.isAgg,if_true,D.cells,T.cells,ofC];cases (cut (cs.map .t) off n).bind (bE agg)<;>rfl
@[go_sem] theorem Rs (cs : List D) (off n : Nat) (agg : Bool) : N7 H off n agg (.agg cs) = ofC H agg (cut cs off n) := by
 simp only[N7,j8,D.isAgg,if_true,D.cells,ofC];cases (cut cs off n).bind (bE agg)<;>rfl
@[go_sem] theorem TX (n : Nat) : idx (n : Int) = some n := by simp [idx]
@[go_sem] theorem Yh : idx 0 = some 0 := (rfl)
theorem Gu{i:Int}(h:0≤i):idx i=some i.toNat:=by simp[idx,h]
def Gv(sz:Nat)(x i:Option D):Option (D×ab):=x.bind fun a=>(i.bind intOf).bind fun n=>(pz H a n sz).map fun d=>(d,H)
@[go_sem] theorem Yi (x i : X) (sz : Nat) : evO call get H (.ia x i sz) = Gv H sz (get x) (get i) := (rfl)
def B0(sz:Nat)(e:T):Option (D×ab):=if e.cells.length=sz then some (.ep e.cells,H)else none
def TY(sz:Nat)(es:List T)(j:Nat):Option (D×ab):=es[j]?.bind (B0 H sz)
@[go_sem] theorem TZ (sz : Nat) (es : List T) (j : Nat) : TY H sz es j = es[j]?.bind (B0 H sz) := (rfl)
@[go_sem] theorem T0 (k : IntKind) (es : List T) (n : Int) (sz : Nat) : Gv H sz (some (.t (.sl es))) (some (.t (.int k n))) = (idx n).bind (TY H sz es) := by
 simp only[Gv,aLq,intOf,pz]
 cases idx n with
 | none=>rfl
 | some j=>
   simp only[aLq,TY]
   cases es[j]? with
   | none=>rfl
   | some e=>simp only[aLq,B0];split<;>rfl
@[go_sem] theorem Rt (k : IntKind) (n : Int) : B0 H 1 (.int k n) = some (.ep [.int k n], H) := (rfl)
@[go_sem] theorem N8 (b : Bool) : B0 H 1 (.bool b) = some (.ep [.bool b], H) := (rfl)
@[go_sem] theorem T4 (es : List T) : B0 H 1 (.sl es) = some (.ep [.sl es], H) := (rfl)
def fJ{α:Type}:Nat→List α→Bool
 | 0,[]=>true
 | n+1,_::r=>fJ n r
 | _,_=>false
@[go_sem] theorem T5 {α : Type} : fJ 0 ([] : List α) = true := (rfl)
@[go_sem] theorem T6 {α : Type} (n : Nat) (a : α) (l : List α) : fJ (n + 1) (a :: l) = fJ n l := (rfl)
theorem b9{α:Type}:∀ {n:Nat} {l:List α},fJ n l=true↔l.length=n
 | 0,[]=>by simp[fJ]
 | 0,_::_=>by simp[fJ]
 | n+1,[]=>by simp[fJ]
 | n+1,_::r=>by simp only[fJ,List.length_cons,Nat.add_right_cancel_iff];exact b9
@[go_sem] theorem Ru (cs : List T) (sz : Nat) : B0 H sz (.agg cs) = if fJ sz cs = true then some (.ep cs, H) else none := by
 by_cases h:cs.length=sz
 · rw[B0,if_pos (show(T.agg cs).cells.length=sz from h),if_pos (b9.2 h)];rfl
 · rw[B0,if_neg (show ¬(T.agg cs).cells.length=sz from h),if_neg fun e=>h (b9.1 e)]
def Gw(sz id ep n j:Nat):Option Obj→Option (D×ab)
 | some (.arr sz' _ ep' es)=>if ep=ep'∧n=es.length then(if j<n∧sz'=sz then some (.ap id ep n j 0,H)else none)else none
 | _=>none
@[go_sem] theorem Rv (k : IntKind) (id ep n : Nat) (i : Int) (sz : Nat) : Gv H sz (some (.ref id ep n)) (some (.t (.int k i))) = (idx i).bind fun j => Gw H sz id ep n j H[id]? := by
 simp only[Gv,aLq,intOf,pz]
 cases idx i with
 | none=>rfl
 | some j=>
   simp only[aLq,b7]
   generalize H[id]?=o
   rcases o with _ | (_ | ⟨sz',pin,ep',es⟩)
   · rfl
   · rfl
   · simp only[Gw]
     by_cases h:ep=ep'∧n=es.length
     · rw[if_pos h,if_pos h,aLq];split<;>rfl
     · rw[if_neg h,if_neg h];rfl
@[go_sem] theorem N9 (sz id ep n j sz' : Nat) (pin : Bool) (ep' : Nat) (es : List D) : Gw H sz id ep n j (some (.arr sz' pin ep' es)) =
 if ep=ep'∧n=es.length then(if j<n∧sz'=sz then some (.ap id ep n j 0,H)else none)else none:=(rfl)
def Gx(sz id ep n lo hi j:Nat):Option Obj→Option (D×ab)
 | some (.arr sz' _ ep' es)=>if ep=ep'∧n=es.length then(if lo+j<hi∧hi≤n∧sz'=sz then some (.ap id ep n (lo+j) 0,H)else none)else none
 | _=>none
@[go_sem] theorem Rw (k : IntKind) (id ep n lo hi : Nat) (i : Int) (sz : Nat) : Gv H sz (some (.sub id ep n lo hi)) (some (.t (.int k i))) = (idx i).bind fun j => Gx H sz id ep n lo hi j H[id]? := by
 simp only[Gv,aLq,intOf,pz]
 cases idx i with
 | none=>rfl
 | some j=>
   simp only[aLq,b7]
   generalize H[id]?=o
   rcases o with _ | (_ | ⟨sz',pin,ep',es⟩)
   · rfl
   · rfl
   · simp only[Gx]
     by_cases h:ep=ep'∧n=es.length
     · rw[if_pos h,if_pos h,aLq];split<;>rfl
     · rw[if_neg h,if_neg h];rfl
@[go_sem] theorem Oa (sz id ep n lo hi j sz' : Nat) (pin : Bool) (ep' : Nat) (es : List D) : Gx H sz id ep n lo hi j (some (.arr sz' pin ep' es)) =
 if ep=ep'∧n=es.length then(if lo+j<hi∧hi≤n∧sz'=sz then some (.ap id ep n (lo+j) 0,H)else none)else none:=(rfl)
def T7(len sz:Nat)(agg:Bool)(x i:Option D):Option (D×ab):=x.bind fun a=>(i.bind intOf).bind fun n=>(idx n).bind fun j=>(oO a j len sz agg).map fun d=>(d,H)
def Ob(len sz:Nat)(agg:Bool)(a:D)(j:Nat):Option (D×ab):=(oO a j len sz agg).map fun d=>(d,H)
@[go_sem] theorem Yj (x i : X) (len sz : Nat) (agg : Bool) : evO call get H (.ix x i len sz agg) = T7 H len sz agg (get x) (get i) := (rfl)
@[go_sem] theorem T8 (len sz : Nat) (agg : Bool) (a : D) (k : IntKind) (n : Int) : T7 H len sz agg (some a) (some (.t (.int k n))) = (idx n).bind (Ob H len sz agg a) := by
 simp only[T7,aLq,intOf];cases idx n<;>rfl
@[go_sem] theorem Rx (len j : Nat) (ts : List T) (h : j < len) (hs : (ts.all fun t => t.scalar) = true) : Ob H len 1 false (.t (.agg ts)) j = (ts[j]?).map fun t => (.t t, H) := by
 have h0:len≠0:=by omega
 unfold Ob oO
 rw[if_neg h0,if_pos h]
 unfold j8 cut
 simp only[D.isAgg,D.cells,T.cells,if_true,Nat.mul_one,List.length_map]
 by_cases hj:j<ts.length
 · rw[if_pos (by omega),aLc hj]
   have e:((ts.map D.t).drop j).take 1=[D.t ts[j]]:=by
    rw[List.drop_eq_getElem_cons (by simpa using hj)];simp
   rw[e];rfl
 · rw[if_neg (by omega),aLm (by omega)];rfl
def Gy(len sz:Nat)(x i:Option D):Option (D×ab):=x.bind fun a=>(i.bind intOf).bind fun n=>(idx n).bind fun j=>if j<len then(vR a (j*sz)).map fun d=>(d,H)else none
@[go_sem] theorem WE (x i : X) (len sz : Nat) : evO call get H (.iaa x i len sz) = Gy H len sz (get x) (get i) := (rfl)
def WG(len sz:Nat)(a:D)(j:Nat):Option (D×ab):=if j<len then KA H (j*sz) a else none
@[go_sem] theorem T9 (len sz : Nat) (a : D) (j : Nat) : WG H len sz a j = if j < len then KA H (j * sz) a else none := (rfl)
@[go_sem] theorem Ry (len sz : Nat) (a : D) (k : IntKind) (n : Int) : Gy H len sz (some a) (some (.t (.int k n))) = (idx n).bind (WG H len sz a) := by
 simp only[Gy,aLq,intOf];cases idx n<;>rfl
def AM(n:Nat)(agg:Bool)(a:D):Option (D×ab):=(lz H a n agg).map fun d=>(d,H)
@[go_sem] theorem Yk (x : X) (n : Nat) (agg : Bool) : evO call get H (.ld x n agg) = (get x).bind (AM H n agg) := (rfl)
def B1(off n:Nat)(agg:Bool):Option Obj→Option (D×ab)
 | some (.box cs)=>ofC H agg (cut cs off n)
 | _=>none
@[go_sem] theorem Rz (off n : Nat) (agg : Bool) (cs : List D) : B1 H off n agg (some (.box cs)) = ofC H agg (cut cs off n) := (rfl)
@[go_sem] theorem Ua (id off n : Nat) (agg : Bool) : AM H n agg (.bp id off) = B1 H off n agg H[id]? := by
 simp only[AM,lz]
 generalize H[id]?=o
 rcases o with _ | (cs | _)
 · rfl
 · simp only[B1,ofC];cases (cut cs off n).bind (bE agg)<;>rfl
 · rfl
@[go_sem] theorem Ub (cs : List T) (n : Nat) (agg : Bool) : AM H n agg (.ep cs) = ofC H agg (cut (cs.map .t) 0 n) := by
 simp only[AM,lz,ofC];cases (cut _ 0 n).bind (bE agg)<;>rfl
def RA(off n:Nat)(agg:Bool)(e:D):Option (D×ab):=ofC H agg (cut e.cells off n)
@[go_sem] theorem Uc (off n : Nat) (agg : Bool) (e : D) : RA H off n agg e = ofC H agg (cut e.cells off n) := (rfl)
def Gz(ep m i off n:Nat)(agg:Bool):Option Obj→Option (D×ab)
 | some (.arr _ _ ep' es)=>if ep=ep'∧m=es.length then es[i]?.bind (RA H off n agg)else none
 | _=>none
@[go_sem] theorem RB (ep m i off n : Nat) (agg : Bool) (sz : Nat) (pin : Bool) (ep' : Nat) (es : List D) :
 Gz H ep m i off n agg (some (.arr sz pin ep' es))=if ep=ep'∧m=es.length then es[i]?.bind (RA H off n agg)else none:=(rfl)
@[go_sem] theorem Ud (id ep m i off n : Nat) (agg : Bool) : AM H n agg (.ap id ep m i off) = Gz H ep m i off n agg H[id]? := by
 simp only[AM,lz,b7]
 generalize H[id]?=o
 rcases o with _ | (_ | ⟨sz',pin,ep',es⟩)
 · rfl
 · rfl
 · simp only[Gz]
   by_cases h:ep=ep'∧m=es.length
   · rw[if_pos h,if_pos h,aLq]
     cases es[i]? with
     | none=>rfl
     | some e=>simp only[aLq,RA,ofC];cases (cut e.cells off n).bind (bE agg)<;>rfl
   · rw[if_neg h,if_neg h];rfl
@[go_sem] theorem KB (cs : List D) : (D.agg cs).cells = cs := (rfl)
@[go_sem] theorem RC (x : T) : (D.t x).cells = x.cells.map .t := (rfl)
@[go_sem] theorem KC : D.nil.cells = [.nil] := (rfl)
@[go_sem] theorem Oc (a b : Nat) : (D.bp a b).cells = [.bp a b] := (rfl)
@[go_sem] theorem KD (a b c : Nat) : (D.ref a b c).cells = [.ref a b c] := (rfl)
@[go_sem] theorem KE (a b c d e : Nat) : (D.sub a b c d e).cells = [.sub a b c d e] := (rfl)
@[go_sem] theorem Od (f : Nat) (cs : List D) : (D.fn f cs).cells = [.fn f cs] := (rfl)
@[go_sem] theorem GA : D.nilp.cells = [.nilp] := (rfl)
@[go_sem] theorem KF (cs : List T) : (T.agg cs).cells = cs := (rfl)
@[go_sem] theorem KG (k : IntKind) (n : Int) : (T.int k n).cells = [.int k n] := (rfl)
@[go_sem] theorem GB (b : Bool) : (T.bool b).cells = [.bool b] := (rfl)
@[go_sem] theorem KH (b : ByteArray) : (T.str b).cells = [.str b] := (rfl)
@[go_sem] theorem Oe (es : List T) : (T.sl es).cells = [.sl es] := (rfl)
def fits(n:Nat)(v:D):Bool:=decide (v.cells.length=n)&&v.c7
section
variable (n : Nat)
@[go_sem] theorem fits_int (k : IntKind) (a : Int) : fits 1 (.t (.int k a)) = true := (rfl)
@[go_sem] theorem fits_bool (b : Bool) : fits 1 (.t (.bool b)) = true := (rfl)
@[go_sem] theorem Ue (es : List T) : fits 1 (.t (.sl es)) = true := (rfl)
@[go_sem] theorem RD : fits 1 .nil = true := (rfl)
@[go_sem] theorem RE (a b c : Nat) : fits 1 (.ref a b c) = true := (rfl)
@[go_sem] theorem RF (a b c d e : Nat) : fits 1 (.sub a b c d e) = true := (rfl)
@[go_sem] theorem Uf (a b : Nat) : fits 1 (.bp a b) = true := (rfl)
@[go_sem] theorem Ug (f : Nat) (cs : List D) : fits 1 (.fn f cs) = true := (rfl)
@[go_sem] theorem RG (cs : List D) : fits n (.agg cs) = fJ n cs := by rw [Bool.eq_iff_iff, b9]; show (decide (cs.length = n) && true) = true ↔ _; simp
@[go_sem] theorem Of (cs : List T) : fits n (.t (.agg cs)) = fJ n cs := by rw [Bool.eq_iff_iff, b9]; simp [fits, D.cells, T.cells, D.c7]
end
@[go_sem] theorem GC {α : Type} (cs : List α) : aq cs 0 [] = some cs := by simp [aq]
@[go_sem] theorem GD {α : Type} (c x : α) (cs xs : List α) : aq (c :: cs) 0 (x :: xs) = dY x (aq cs 0 xs) := by
 simp only[aq,dY];by_cases h:xs.length≤cs.length<;>simp[h]
@[go_sem] theorem GF {α : Type} (c : α) (cs : List α) (off : Nat) (xs : List α) : aq (c :: cs) (off + 1) xs = dY c (aq cs off xs) := by
 simp only[aq,dY,List.length_cons]
 by_cases h:off+xs.length≤cs.length
 · rw[if_pos h,if_pos (by omega)];simp[show off+1+xs.length=(off+xs.length)+1 by omega]
 · rw[if_neg h,if_neg (by omega)];rfl
def GH(n:Nat)(live:List (Nat×Nat))(a x:Option D):Option (D×ab):=a.bind fun p=>x.bind fun d=>(mh H p d n).bind fun H'=>(gB H' p live).map fun H''=>(.tup [],H'')
@[go_sem] theorem Yl (a x : X) (n : Nat) (live : List (Nat × Nat)) : evO call get H (.st a x n live) = GH H n live (get a) (get x) := (rfl)
def o9(H:ab)(id:Nat)(live:List (Nat×Nat)):Option (D×ab):=(gB H (.bp id 0) live).map fun H'=>(.tup [],H')
def uH(id:Nat)(live:List (Nat×Nat))(cs:List D):Option (D×ab):=o9 (H.set id (.box cs)) id live
@[go_sem] theorem Og (id : Nat) (live : List (Nat × Nat)) (cs : List D) : uH H id live cs = o9 (H.set id (.box cs)) id live := (rfl)
@[go_sem] theorem KI (H : ab) (id : Nat) : o9 H id [] = some (.tup [], H) := (rfl)
def GJ(id off:Nat)(live:List (Nat×Nat))(xs:List D):Option Obj→Option (D×ab)
 | some (.box cs)=>(aq cs off xs).bind (uH H id live)
 | _=>none
@[go_sem] theorem RH (id off : Nat) (live : List (Nat × Nat)) (xs cs : List D) : GJ H id off live xs (some (.box cs)) = (aq cs off xs).bind (uH H id live) := (rfl)
@[go_sem] theorem Uh (n id off : Nat) (live : List (Nat × Nat)) (v : D) : GH H n live (some (.bp id off)) (some v) = if fits n v = true then GJ H id off live v.cells H[id]? else none := by
 by_cases h:fits n v=true
 case neg=>
  rw[if_neg h]
  simp only[fits,aLr,decide_eq_true_eq]at h
  simp only[GH,aLq,mh,if_neg h];rfl
 rw[if_pos h]
 simp only[fits,aLr,decide_eq_true_eq]at h
 simp only[GH,aLq,mh,h.1,h.2,and_self,if_true]
 generalize H[id]?=o
 rcases o with _ | (cs | _)
 · rfl
 · simp only[GJ]
   cases aq cs off v.cells with
   | none=>rfl
   | some cs'=>simp only[aLw,aLq,uH,o9,gB]
 · rfl
def ri(id sz ep i:Nat)(es:List D)(agg:Bool)(cs:List D):Option (D×ab):=(bE agg cs).bind fun e=>if e.c7 then some (.tup [],H.set id (.arr sz false ep (es.set i e)))else none
def RI(id sz ep i off:Nat)(es xs:List D)(e:D):Option (D×ab):=(aq e.cells off xs).bind (ri H id sz ep i es e.isAgg)
@[go_sem] theorem Ui (id sz ep i off : Nat) (es xs : List D) (e : D) : RI H id sz ep i off es xs e = (aq e.cells off xs).bind (ri H id sz ep i es e.isAgg) := (rfl)
@[go_sem] theorem Oh (cs : List D) : (D.agg cs).isAgg = true := (rfl)
@[go_sem] theorem KJ (cs : List T) : (D.t (.agg cs)).isAgg = true := (rfl)
@[go_sem] theorem Oi (k : IntKind) (n : Int) : (D.t (.int k n)).isAgg = false := (rfl)
@[go_sem] theorem KK (b : Bool) : (D.t (.bool b)).isAgg = false := (rfl)
@[go_sem] theorem Oj (b : ByteArray) : (D.t (.str b)).isAgg = false := (rfl)
@[go_sem] theorem RJ (es : List T) : (D.t (.sl es)).isAgg = false := (rfl)
@[go_sem] theorem Ol : D.nil.isAgg = false := (rfl)
@[go_sem] theorem Om (a b c : Nat) : (D.ref a b c).isAgg = false := (rfl)
@[go_sem] theorem On (a b c d e : Nat) : (D.sub a b c d e).isAgg = false := (rfl)
@[go_sem] theorem Uj (id sz ep i : Nat) (es : List D) (x : T) : ri H id sz ep i es false [.t x] = some (.tup [], H.set id (.arr sz false ep (es.set i (.t x)))) := (rfl)
@[go_sem] theorem Oo (id sz ep i : Nat) (es : List D) : ri H id sz ep i es false [.nil] = some (.tup [], H.set id (.arr sz false ep (es.set i .nil))) := (rfl)
@[go_sem] theorem Oq (id sz ep i a b c : Nat) (es : List D) : ri H id sz ep i es false [.ref a b c] = some (.tup [], H.set id (.arr sz false ep (es.set i (.ref a b c)))) := (rfl)
theorem sY(cs:List D):(jg cs).c7=true:=by unfold jg;cases gA cs<;>rfl
@[go_sem] theorem Uk (id sz ep i : Nat) (es cs : List D) : ri H id sz ep i es true cs = some (.tup [], H.set id (.arr sz false ep (es.set i (jg cs)))) := by
 simp[ri,bE,sY]
def GK(id ep m i off:Nat)(xs:List D):Option Obj→Option (D×ab)
 | some (.arr sz pin ep' es)=>if ep=ep'∧m=es.length then(if pin then none else es[i]?.bind (RI H id sz ep i off es xs))else none
 | _=>none
@[go_sem] theorem RK (id ep m i off : Nat) (xs : List D) (sz : Nat) (pin : Bool) (ep' : Nat) (es : List D) :
 GK H id ep m i off xs (some (.arr sz pin ep' es))=if ep=ep'∧m=es.length then(if pin=true then none else es[i]?.bind (RI H id sz ep i off es xs))else none:=(rfl)
@[go_sem] theorem Ul (n id ep m i off : Nat) (v : D) : GH H n [] (some (.ap id ep m i off)) (some v) = if fits n v = true then GK H id ep m i off v.cells H[id]? else none := by
 by_cases h:fits n v=true
 case neg=>
  rw[if_neg h]
  simp only[fits,aLr,decide_eq_true_eq]at h
  simp only[GH,aLq,mh,if_neg h];rfl
 rw[if_pos h]
 simp only[fits,aLr,decide_eq_true_eq]at h
 simp only[GH,aLq,mh,h.1,h.2,and_self,if_true,b7]
 generalize H[id]?=o
 rcases o with _ | (_ | ⟨sz',pin,ep',es⟩)
 · rfl
 · rfl
 · simp only[GK]
   by_cases h:ep=ep'∧m=es.length
   · rw[if_pos h,if_pos h,aLq]
     cases pin with
     | true=>rfl
     | false=>
       simp only[aLt,if_false]
       cases es[i]? with
       | none=>rfl
       | some e=>
         simp only[aLq,RI]
         cases aq e.cells off v.cells with
         | none=>rfl
         | some cs'=>
           simp only[aLq,ri]
           cases bE e.isAgg cs' with
           | none=>rfl
           | some e'=>
             simp only[aLq]
             by_cases h3:e'.c7=true
             · rw[if_pos h3,if_pos h3,h.1];rfl
             · rw[if_neg h3,if_neg h3];rfl
   · rw[if_neg h,if_neg h];rfl
def GL(zero:List D)(ps:List (Nat×Nat×D)):Option (D×ab):=(j6 zero ps).map fun cs=>(jg cs,H)
@[go_sem] theorem Ym (zero : List D) (parts : List (Nat × Nat × X)) : evO call get H (.bd zero parts) = (eM get parts).bind (GL H zero) := (rfl)
@[go_sem] theorem DN : eM get [] = some [] := (rfl)
def Ot(off n:Nat)(r:List (Nat×Nat×X))(d:D):Option (List (Nat×Nat×D)):=dY (off,n,d) (eM get r)
@[go_sem] theorem RL (off n : Nat) (r : List (Nat × Nat × X)) (d : D) : Ot get off n r d = dY (off, n, d) (eM get r) := (rfl)
@[go_sem] theorem B2 (off n : Nat) (x : X) (r : List (Nat × Nat × X)) : eM get ((off, n, x) :: r) = (get x).bind (Ot get off n r) := (rfl)
@[go_sem] theorem RM (zero : List D) : GL H zero [] = some (jg zero, H) := (rfl)
def bdC(r:List (Nat×Nat×D))(z:List D):Option (D×ab):=GL H z r
@[go_sem] theorem WH (r : List (Nat × Nat × D)) (z : List D) : bdC H r z = GL H z r := (rfl)
@[go_sem] theorem Ou (zero : List D) (off n : Nat) (x : D) (r : List (Nat × Nat × D)) : GL H zero ((off, n, x) :: r) = if fits n x = true then (aq zero off x.cells).bind (bdC H r) else none := by
 by_cases h:fits n x=true
 case neg=>
  rw[if_neg h]
  have h2:(x.c7&&x.cells.length==n)=false:=by rw[← Bool.not_eq_true,Bool.and_comm];simpa [fits]using h
  simp only[GL,j6,h2];rfl
 rw[if_pos h]
 simp only[fits,aLr,decide_eq_true_eq]at h
 simp only[GL,j6,h.1,h.2,beq_self_eq_true,Bool.and_self,if_true]
 cases aq zero off x.cells<;>rfl
def aI(n:Nat):List T→Bool
 | []=>true
 | x::r=>fJ n x.cells&&aI n r
@[go_sem] theorem DO (n : Nat) : aI n [] = true := (rfl)
@[go_sem] theorem kD (n : Nat) (x : T) (r : List T) : aI n (x :: r) = (fJ n x.cells && aI n r) := (rfl)
def pb(sz:Nat)(ds:List D):Option (D×ab):=if ds.all (fun d=>d.cells.length==sz)then(aB (frz H depth) ds).map fun ts=>(.t (.sl ts),pins H (ds.flatMap (bF H depth)))else none
@[go_sem] theorem Yn (xs : List X) (sz : Nat) : evO call get H (.bs xs sz) = (aB get xs).bind (pb H sz) := (rfl)
theorem Ov(sz:Nat)(ds:List D)(ts:List T)(h:gA ds=some ts)(hc:aI sz ts=true):pb H sz ds=some (.t (.sl ts),H):=by
 have key:∀(ds:List D) (ts:List T),gA ds=some ts→aI sz ts=true→ds.all (fun d=>d.cells.length==sz)=true∧aB (frz H depth) ds=some ts∧ds.flatMap (bF H depth)=[]:=by
  intro ds
  induction ds with
  | nil=>intro ts h hc;simp[gA]at h;subst h;simp[aB]
  | cons d ds ih=>
    intro ts h hc
    cases d with
    | t x=>
      simp only[gA,aLb]at h
      obtain⟨r,hr,rfl⟩:=h
      simp only[aI,aLr,b9]at hc
      obtain⟨h1,h2,h3⟩:=ih r hr hc.2
      refine⟨by rw[List.all_cons,h1,Bool.and_true];simp[D.cells,hc.1],by simp[aB,frz,h2],by rw[List.flatMap_cons,h3];simp[bF]⟩
    | _=>simp[gA]at h
 obtain⟨h1,h2,h3⟩:=key ds ts h hc
 simp[pb,h1,h2,h3,pins]
theorem iG(sz:Nat)(ts:List T):pb H sz (ts.map D.t)=if aI sz ts=true then some (.t (.sl ts),H)else none:=by
 by_cases h:aI sz ts=true
 · rw[if_pos h];exact Ov H sz _ ts (BZ ts) h
 · rw[if_neg h]
   have:(ts.map D.t).all (fun d=>d.cells.length==sz)=false:=by
    rw[← Bool.not_eq_true];intro ha;apply h
    clear h
    induction ts with
    | nil=>rfl
    | cons a r ih=>
      simp only[List.map_cons,List.all_cons,aLr,beq_iff_eq]at ha
      simp only[aI,aLr,b9]
      exact⟨by simpa [D.cells]using ha.1,ih ha.2⟩
   simp only[pb,this];rfl
@[go_sem] theorem WI (sz : Nat) : pb H sz [] = some (.t (.sl []), H) := (rfl)
@[go_sem] theorem WJ (sz : Nat) (a : T) : pb H sz [.t a] = if aI sz [a] = true then some (.t (.sl [a]), H) else none := iG H sz [a]
@[go_sem] theorem WK (sz : Nat) (a b : T) : pb H sz [.t a, .t b] = if aI sz [a, b] = true then some (.t (.sl [a, b]), H) else none := iG H sz [a, b]
@[go_sem] theorem WL (sz : Nat) (a b c : T) : pb H sz [.t a, .t b, .t c] = if aI sz [a, b, c] = true then some (.t (.sl [a, b, c]), H) else none := iG H sz [a, b, c]
@[go_sem] theorem WM (sz : Nat) (a b c d : T) : pb H sz [.t a, .t b, .t c, .t d] = if aI sz [a, b, c, d] = true then some (.t (.sl [a, b, c, d]), H) else none := iG H sz [a, b, c, d]
@[go_sem] theorem WN (sz : Nat) (a b c d e : T) : pb H sz [.t a, .t b, .t c, .t d, .t e] = if aI sz [a, b, c, d, e] = true then some (.t (.sl [a, b, c, d, e]), H) else none := iG H sz [a, b, c, d, e]
def Ow(a:D):Option (D×ab):=(QK a).map fun(n:Nat)=>(D.t (.int .i64 (n:Int)),H)
@[go_sem] theorem Yo (x : X) : evO call get H (.ln x) = (get x).bind (Ow H) := (rfl)
@[go_sem] theorem Um (es : List T) : Ow H (.t (.sl es)) = some (I es.length, H) := (rfl)
@[go_sem] theorem RN : Ow H .nil = some (I 0, H) := (rfl)
@[go_sem] theorem RO (id ep n : Nat) : Ow H (.ref id ep n) = some (I n, H) := (rfl)
@[go_sem] theorem RP (id ep n lo hi : Nat) : Ow H (.sub id ep n lo hi) = some (I ((hi - lo : Nat) : Int), H) := (rfl)
def Ox(ds:List D):Option (D×ab):=(M0 ds).map fun d=>(d,H)
def Oy(ds:List D):Option (D×ab):=(M1 ds).map fun d=>(d,H)
@[go_sem] theorem Yp (xs : List X) : evO call get H (.mn xs) = (aB get xs).bind (Ox H) := (rfl)
@[go_sem] theorem Yq (xs : List X) : evO call get H (.mx xs) = (aB get xs).bind (Oy H) := (rfl)
@[go_sem] theorem WO (k : IntKind) (a b : Int) : Ox H [.t (.int k a), .t (.int k b)] = some (.t (.int k (min a b)), H) := by
 simp only[Ox,M0,oE,if_true,aLw];congr 4;omega
@[go_sem] theorem WQ (k : IntKind) (a b : Int) : Oy H [.t (.int k a), .t (.int k b)] = some (.t (.int k (max a b)), H) := by
 simp only[Oy,M1,oE,if_true,aLw];congr 4;omega
@[go_sem] theorem WR (k : IntKind) (a b c : Int) : Ox H [.t (.int k a), .t (.int k b), .t (.int k c)] = some (.t (.int k (min (min a b) c)), H) := by
 simp only[Ox,M0,oE,if_true,aLw];congr 4;omega
@[go_sem] theorem WS (k : IntKind) (a b c : Int) : Oy H [.t (.int k a), .t (.int k b), .t (.int k c)] = some (.t (.int k (max (max a b) c)), H) := by
 simp only[Oy,M1,oE,if_true,aLw];congr 4;omega
def rj(sz:Nat)(x:Option D)(lo hi:Option (Option Int)):Option (D×ab):=x.bind fun a=>lo.bind fun l=>hi.bind fun h=>(fA H a l h sz).map fun d=>(d,H)
@[go_sem] theorem Yr (x : X) (lo hi : Option X) (sz : Nat) : evO call get H (.sc x lo hi sz) = rj H sz (get x) (vS get lo) (vS get hi) := (rfl)
def Oz:D→Option (Option Int)
 | .t (.int _ n)=>some (some n)
 | _=>none
@[go_sem] theorem RQ (k : IntKind) (n : Int) : Oz (.t (.int k n)) = some (some n) := (rfl)
@[go_sem] theorem OA : vS get none = some none := (rfl)
@[go_sem] theorem OB (x : X) : vS get (some x) = (get x).bind Oz := by
 simp only[vS];cases get x with
 | none=>rfl
 | some d=>cases d with
   | t y=>cases y<;>rfl
   | _=>rfl
def Un(i:Nat)(a:D):Option (D×ab):=(M3 i a).map fun d=>(d,H)
@[go_sem] theorem Ys (x : X) (i : Nat) : evO call get H (.ex x i) = (get x).bind (Un H i) := (rfl)
def exO:Option D→Option (D×ab)
 | some d=>some (d,H)
 | none=>none
@[go_sem] theorem RR (d : D) : exO H (some d) = some (d, H) := (rfl)
@[go_sem] theorem RS (i : Nat) (ds : List D) : Un H i (.tup ds) = exO H ds[i]? := by simp only [Un, M3, exO]; cases ds[i]? <;> rfl
def Uo(f:Nat)(ds:List D):Option (D×ab):=some (.fn f ds,H)
@[go_sem] theorem Up (f : Nat) (ds : List D) : Uo H f ds = some (.fn f ds, H) := (rfl)
@[go_sem] theorem Yt (f : Nat) (caps : List X) : evO call get H (.mf f caps) = (aB get caps).bind (Uo H f) := by simp only [evO, Uo]; cases aB get caps <;> rfl
@[go_sem] theorem Yu (sz : Nat) : evO call get H (.nw sz) = some (.ref H.length 0 0, H ++ [.arr sz false 0 []]) := (rfl)
def alP(p:List D×ab):Option (D×ab):=some (.bp H.length 0,H++ .box p.1::p.2)
@[go_sem] theorem WT (cs : List D) (os : ab) : alP H (cs, os) = some (.bp H.length 0, H ++ .box cs :: os) := (rfl)
@[go_sem] theorem Yv (zero : List D) (live : List (Nat × Nat)) : evO call get H (.al zero live) = alP H (aE (H.length + 1) zero live) := (rfl)
@[go_sem] theorem GM (base : Nat) (cs : List D) : aE base cs [] = (cs, []) := (rfl)
def Uq(n:Nat)(a:D):Option (D×ab):=if a.cells.length=n∧a.c7 then some (.bp H.length 0,H++[.box a.cells])else none
@[go_sem] theorem Yw (x : X) (n : Nat) : evO call get H (.bx x n) = (get x).bind (Uq H n) := (rfl)
@[go_sem] theorem Ur (n : Nat) (a : D) : Uq H n a = if fits n a = true then some (.bp H.length 0, H ++ [.box a.cells]) else none := by
 simp[Uq,fits]
def RT(sz:Nat)(zero:D)(n:Option Nat):Option (D×ab):=n.bind fun m=>if m≤lim then some (.ref H.length 0 m,H++[.arr sz false 0 (List.replicate m zero)])else none
def mkN(sz:Nat)(zero:D):D→Option (D×ab)
 | .t (.int _ n)=>RT H sz zero (idx n)
 | _=>none
@[go_sem] theorem Us (sz : Nat) (zero : D) (k : IntKind) (n : Int) : mkN H sz zero (.t (.int k n)) = RT H sz zero (idx n) := (rfl)
@[go_sem] theorem Yx (len : X) (zero : D) (sz : Nat) : evO call get H (.mk len zero sz) = (get len).bind (mkN H sz zero) := by
 simp only[evO];cases get len with
 | none=>rfl
 | some d=>cases d with
   | t y=>cases y<;>rfl
   | _=>rfl
@[go_sem] theorem Ut (sz : Nat) (zero : D) (m : Nat) (h : m ≤ 4294967296) : RT H sz zero (some m) = some (.ref H.length 0 m, H ++ [.arr sz false 0 (List.replicate m zero)]) := by
 simp[RT,lim,h]
def B3(zero:T)(n:Option Nat):Option (D×ab):=n.bind fun m=>if m≤lim then some (.t (.sl (List.replicate m zero)),H)else none
def WU(zero:T):D→Option (D×ab)
 | .t (.int _ n)=>B3 H zero (idx n)
 | _=>none
@[go_sem] theorem RU (zero : T) (k : IntKind) (n : Int) : WU H zero (.t (.int k n)) = B3 H zero (idx n) := (rfl)
@[go_sem] theorem WW (len : X) (zero : T) (sz : Nat) : evO call get H (.mkt len zero sz) = (get len).bind (WU H zero) := by
 simp only[evO];cases get len with
 | none=>rfl
 | some d=>cases d with
   | t y=>cases y<;>rfl
   | _=>rfl
@[go_sem] theorem RV (zero : T) (m : Nat) (h : m ≤ 4294967296) : B3 H zero (some m) = some (.t (.sl (List.replicate m zero)), H) := by
 simp[B3,lim,h]
def B4(sz:Nat)(zero:T)(n:Option Nat):Option (D×ab):=n.bind fun m=>if m≤lim∧0<m then some (.ref H.length 0 m,H++[.arr sz false 0 (List.replicate m (.t zero))])else none
def WX(sz:Nat)(zero:T):D→Option (D×ab)
 | .t (.int _ n)=>B4 H sz zero (idx n)
 | _=>none
@[go_sem] theorem RW (sz : Nat) (zero : T) (k : IntKind) (n : Int) : WX H sz zero (.t (.int k n)) = B4 H sz zero (idx n) := (rfl)
@[go_sem] theorem WY (len : X) (zero : T) (sz : Nat) : evO call get H (.mkn len zero sz) = (get len).bind (WX H sz zero) := by
 simp only[evO];cases get len with
 | none=>rfl
 | some d=>cases d with
   | t y=>cases y<;>rfl
   | _=>rfl
@[go_sem] theorem RX (sz : Nat) (zero : T) (m : Nat) (h : m ≤ 4294967296) (h0 : 0 < m) : B4 H sz zero (some m) = some (.ref H.length 0 m, H ++ [.arr sz false 0 (List.replicate m (.t zero))]) := by
 simp[B4,lim,h,h0]
def fL(sz:Nat)(fz:Bool)(x y:Option D):Option (D×ab):=x.bind fun a=>y.bind fun b=>eF H a b fz sz
@[go_sem] theorem WZ (x y : X) (fz : Bool) (sz : Nat) : evO call get H (.app x y fz sz) = fL H sz fz (get x) (get y) := (rfl)
def mH(sz id ep n:Nat)(ys:List D):Option Obj→Option (D×ab)
 | some (.arr sz' pin ep' es)=>if ep=ep'∧n=es.length∧sz'=sz∧n+ys.length≤lim then some (.ref id ep (n+ys.length),H.set id (.arr sz pin ep (es++ys)))else none
 | _=>none
@[go_sem] theorem OC (sz id ep n : Nat) (ys : List D) (pin : Bool) (es : List D) :
 mH H sz id ep n ys (some (.arr sz pin ep es))=if n=es.length then(if n+ys.length≤4294967296 then some (.ref id ep (n+ys.length),H.set id (.arr sz pin ep (es++ys)))else none)else none:=by
 simp only[mH,lim]
 by_cases h1:n=es.length
 · rw[if_pos h1]
   by_cases h2:n+ys.length≤4294967296
   · rw[if_pos h2,if_pos ⟨trivial,h1,trivial,h2⟩]
   · rw[if_neg h2,if_neg fun h=>h2 h.2.2.2]
 · rw[if_neg h1,if_neg fun h=>h1 h.2.1]
theorem kE(ts:List T):aB (fun d=>(frz H depth d).map D.t) (ts.map D.t)=some (ts.map D.t):=by
 induction ts with
 | nil=>rfl
 | cons t ts ih=>simp[aB,frz,ih]
theorem yK(ts:List T):(ts.map D.t).flatMap (bF H depth)=[]:=by
 induction ts with
 | nil=>rfl
 | cons t ts ih=>rw[List.map_cons,List.flatMap_cons,ih];simp[bF,depth]
theorem rq(sz:Nat)(fz:Bool)(x:D)(ts:List T)(h:aF sz (ts.map D.t)=false):fL H sz fz (some x) (some (.t (.sl ts)))=none:=by
 have e1:(if fz then aB (fun d=>(frz H depth d).map D.t) (ts.map D.t)else some (ts.map D.t))=some (ts.map D.t):=by
  cases fz<;>simp[kE]
 simp only[fL,aLq,eF,elems,e1,h,aLt,if_false]
def fM(sz:Nat)(ts:List T):Bool:=aF sz (ts.map D.t)
theorem yL(sz id ep n:Nat)(fz:Bool)(ts:List T)(h:fM sz ts=true):fL H sz fz (some (.ref id ep n)) (some (.t (.sl ts)))=mH H sz id ep n (ts.map .t) H[id]?:=by
 have e1:(if fz then aB (fun d=>(frz H depth d).map D.t) (ts.map D.t)else some (ts.map D.t))=some (ts.map D.t):=by
  cases fz<;>simp[kE]
 have e2:(if fz then pins H ((ts.map D.t).flatMap (bF H depth))else H)=H:=by
  cases fz
  · rfl
  · simp only[if_true];rw[yK];rfl
 unfold fM at h
 simp only[fL,aLq,eF,elems,e1,h,if_true,e2,b7]
 generalize H[id]?=o
 rcases o with _ | (_ | ⟨sz',pin,ep',es⟩)
 · rfl
 · rfl
 · simp only[mH]
   by_cases h1:ep=ep'∧n=es.length
   · rw[if_pos h1,aLq]
     by_cases h2:sz'=sz∧n+(ts.map D.t).length≤lim
     · rw[if_pos h2,if_pos ⟨h1.1,h1.2,h2⟩]
     · rw[if_neg h2,if_neg fun h=>h2 h.2.2]
   · rw[if_neg h1,if_neg fun h=>h1 ⟨h.1,h.2.1⟩];rfl
@[go_sem] theorem OD (sz id ep n : Nat) (fz : Bool) (ts : List T) : fL H sz fz (some (.ref id ep n)) (some (.t (.sl ts))) = if fM sz ts = true then mH H sz id ep n (ts.map .t) H[id]? else none := by
 by_cases h:fM sz ts=true
 · rw[if_pos h,yL H sz id ep n fz ts h]
 · rw[if_neg h];exact rq H sz fz _ ts (by simpa [fM]using h)
@[go_sem] theorem OE (sz : Nat) (fz : Bool) (ts : List T) : fL H sz fz (some .nil) (some (.t (.sl ts))) =
 if fM sz ts=true then(if ts.length≤4294967296 then some (.ref H.length 0 ts.length,H++[.arr sz false 0 (ts.map .t)])else none)else none:=by
 by_cases h:fM sz ts=true
 · rw[if_pos h]
   have e1:(if fz then aB (fun d=>(frz H depth d).map D.t) (ts.map D.t)else some (ts.map D.t))=some (ts.map D.t):=by
    cases fz<;>simp[kE]
   have e2:(if fz then pins H ((ts.map D.t).flatMap (bF H depth))else H)=H:=by
    cases fz
    · rfl
    · simp only[if_true];rw[yK];rfl
   unfold fM at h
   simp only[fL,aLq,eF,elems,e1,h,if_true,e2,lim,List.length_map]
 · rw[if_neg h];exact rq H sz fz _ ts (by simpa [fM]using h)
@[go_sem] theorem OF (sz : Nat) : fM sz [] = true := (rfl)
@[go_sem] theorem KL (sz : Nat) (x : T) (r : List T) : fM sz (x :: r) = fJ sz x.cells := by
 rw[Bool.eq_iff_iff,b9];simp[fM,aF,D.cells]
@[go_sem] theorem OH (l : List Int) (k : IntKind) : fM 1 (l.map (.int k)) = true := by cases l <;> rfl
@[go_sem] theorem KM (l : List Bool) : fM 1 (l.map .bool) = true := by cases l <;> rfl
@[go_sem] theorem RY (l : List (List T)) : fM 1 (l.map .sl) = true := by cases l <;> rfl
def yM(call:ak)(f raw:Nat)(keep:List Nat)(ds:List D):Option (D×ab):=j7 call H f raw keep ds
@[go_sem] theorem Yy (f raw : Nat) (keep : List Nat) (xs : List X) : evO call get H (.ca f raw keep xs) = (aB get xs).bind (yM H call f raw keep) := (rfl)
def W4(call:ak)(raw:Nat)(keep:List Nat)(x:Option D)(xs:Option (List D)):Option (D×ab):=x.bind fun
 | .fn f caps=>xs.bind fun ds=>j7 call H f raw keep (ds++caps)
 | _=>none
@[go_sem] theorem Yz (x : X) (raw : Nat) (keep : List Nat) (xs : List X) : evO call get H (.cw x raw keep xs) = W4 H call raw keep (get x) (aB get xs) := (rfl)
@[go_sem] theorem Uu (raw : Nat) (keep : List Nat) (f : Nat) (caps ds : List D) : W4 H call raw keep (some (.fn f caps)) (some ds) = yM H call f raw keep (ds ++ caps) := (rfl)
def eQ(H:ab):List D→Option (List T)
 | []=>some []
 | .t x::r=>dY x (eQ H r)
 | .nil::r=>dY (.sl []) (eQ H r)
 | _::_=>none
@[go_sem] theorem Uv : eQ H [] = some [] := (rfl)
@[go_sem] theorem Uw (x : T) (r : List D) : eQ H (.t x :: r) = dY x (eQ H r) := (rfl)
@[go_sem] theorem OI (r : List D) : eQ H (.nil :: r) = dY (.sl []) (eQ H r) := (rfl)
@[go_sem] theorem OJ (cs : List D) (r : List D) : eQ H (.agg cs :: r) = none := (rfl)
@[go_sem] theorem RZ (a b : Nat) (r : List D) : eQ H (.bp a b :: r) = none := (rfl)
@[go_sem] theorem OK (a b c : Nat) (r : List D) : eQ H (.ref a b c :: r) = none := (rfl)
@[go_sem] theorem OL (a b c d e : Nat) (r : List D) : eQ H (.sub a b c d e :: r) = none := (rfl)
@[go_sem] theorem R0 (f : Nat) (cs : List D) (r : List D) : eQ H (.fn f cs :: r) = none := (rfl)
@[go_sem] theorem R1 (a b c d e : Nat) (r : List D) : eQ H (.ap a b c d e :: r) = none := (rfl)
@[go_sem] theorem R2 (cs : List T) (r : List D) : eQ H (.ep cs :: r) = none := (rfl)
@[go_sem] theorem KN (r : List D) : eQ H (.nilp :: r) = none := (rfl)
@[go_sem] theorem OM (r : List D) : eQ H (.und :: r) = none := (rfl)
end
theorem jS(H:ab):∀ {ds:List D} {ts:List T},eQ H ds=some ts→∀i,jh H [] i ds=some (ts.map .t)∧bf H [] i ds=[]
 | [],ts,h,i=>by simp[eQ]at h;subst h;exact⟨rfl,rfl⟩
 | d::r,ts,h,i=>by
   cases d with
   | t x=>
     simp only[eQ,dY,aLb]at h
     obtain⟨l,hl,rfl⟩:=h
     obtain⟨h1,h2⟩:=jS H hl (i+1)
     exact⟨by simp[jh,ir,h1],by simp[bf,bF,depth,h2]⟩
   | nil=>
     simp only[eQ,dY,aLb]at h
     obtain⟨l,hl,rfl⟩:=h
     obtain⟨h1,h2⟩:=jS H hl (i+1)
     exact⟨by simp[jh,ir,h1],by simp[bf,bF,depth,h2]⟩
   | _=>simp[eQ]at h
theorem yN(ts:List T)(n:Nat):(ts.map D.t).flatMap (ids n)=[]:=by
 induction ts with
 | nil=>rfl
 | cons t ts ih=>rw[List.map_cons,List.flatMap_cons,ih];simp[ids]
theorem gL(f:Nat→Option Nat)(ts:List T):aB (ren f depth) (ts.map .t)=some (ts.map .t):=by
 induction ts with
 | nil=>rfl
 | cons t ts ih=>simp[aB,ren,depth]at ih ⊢;exact ih
def rr:D→Bool
 | .t _=>true
 | .tup ds=>ds.all fun | .t _=>true | _=>false
 | _=>false
theorem B5{f:Nat→Option Nat}{d:D}(h:rr d=true):ren f depth d=some d:=by
 cases d with
 | t x=>rfl
 | tup ds=>
   simp only[rr]at h
   have:aB (ren f 7) ds=some ds:=by
    induction ds with
    | nil=>rfl
    | cons d ds ih=>
      simp only[List.all_cons,aLr]at h
      cases d with
      | t x=>simp[aB,ren,ih h.2]
      | _=>simp at h
   simp[ren,depth,this]
 | _=>simp[rr]at h
def jT(H:ab)(p:D×ab):Option (D×ab):=if rr p.1&&p.2.isEmpty then some (p.1,H)else
 (ren (aM [] H.length) depth p.1).bind fun r'=>(aB (aS (aM [] H.length)) p.2).map fun os=>(r',H++os)
@[go_sem] theorem Ux (H : ab) (x : T) : jT H (.t x, []) = some (.t x, H) := (rfl)
@[go_sem] theorem Uy (H : ab) : jT H (.tup [], []) = some (.tup [], H) := (rfl)
@[go_sem] theorem Uz (H : ab) (x y : T) : jT H (.tup [.t x, .t y], []) = some (.tup [.t x, .t y], H) := (rfl)
@[go_sem] theorem UA (H : ab) (x y z : T) : jT H (.tup [.t x, .t y, .t z], []) = some (.tup [.t x, .t y, .t z], H) := (rfl)
@[go_sem] theorem UB (H : ab) (x y z u : T) : jT H (.tup [.t x, .t y, .t z, .t u], []) = some (.tup [.t x, .t y, .t z, .t u], H) := (rfl)
theorem yO(H:ab)(call:ak)(f raw:Nat)(ds:List D)(ts:List T)(h:eQ H ds=some ts):
 yM H call f raw [] ds=(call raw f (ts.map .t) []).bind (jT H):=by
 obtain⟨h1,h2⟩:=jS H h 0
 simp only[yM,j7,h1,aLq,yN,a6,reach,dS,List.flatMap_nil,h2,pins,gL,pick,aB]
 cases hc:call raw f (ts.map .t) []with
 | none=>rfl
 | some p=>
   obtain⟨d,os⟩:=p
   simp only[aLq,List.isEmpty_nil,Bool.true_and,jT]
   by_cases h3:os=[]
   · subst h3
     simp only[List.isEmpty_nil,Bool.true_and,Bool.and_true,aB,aLw,List.length_nil,List.take_nil,aA,List.drop_nil,List.append_nil]
     by_cases h4:rr d=true
     · rw[if_pos h4]
       split
       · rfl
       · rw[B5 h4];rfl
     · rw[if_neg h4]
       split
       · rename_i h5
         exfalso
         apply h4
         cases d with
         | t x=>rfl
         | tup ds=>
           simp only[fI,aLx]at h5
           simp only[rr,aLx]
           intro y hy
           have:=h5 y hy
           cases y<;>simp_all [dH]
         | _=>simp[fI]at h5
       · rfl
   · have:os.isEmpty=false:=by cases os<;>simp_all
     simp only[this,Bool.false_and,Bool.and_false,if_false,aLt,List.length_nil,List.take_zero,aA,List.drop_zero]
@[go_sem] theorem KO (st : St) : dk st [] = some [] := (rfl)
def W5(st:St)(r:List (Nat×Option (Nat×Bool)))(d:D):Option (List D):=dY d (dk st r)
@[go_sem] theorem UC (vs : List D) (H : ab) (r : List (Nat × Option (Nat × Bool))) (d : D) : W5 ⟨vs, H⟩ r d = dY d (dk ⟨vs, H⟩ r) := (rfl)
@[go_sem] theorem KP (vs : List D) (H : ab) (j : Nat) (r : List (Nat × Option (Nat × Bool))) : dk ⟨vs, H⟩ ((j, none) :: r) = vs[j]?.bind (W5 ⟨vs, H⟩ r) := (rfl)
def UD(st:St)(r:List (Nat×Option (Nat×Bool)))(p:D×ab):Option (List D):=dY p.1 (dk st r)
@[go_sem] theorem UE (vs : List D) (H : ab) (r : List (Nat × Option (Nat × Bool))) (d : D) (H' : ab) : UD ⟨vs, H⟩ r (d, H') = dY d (dk ⟨vs, H⟩ r) := (rfl)
def UF(st:St)(n:Nat)(agg:Bool)(r:List (Nat×Option (Nat×Bool)))(p:D):Option (List D):=(AM st.H n agg p).bind (UD st r)
@[go_sem] theorem UG (vs : List D) (H : ab) (n : Nat) (agg : Bool) (r : List (Nat × Option (Nat × Bool))) (p : D) : UF ⟨vs, H⟩ n agg r p = (AM H n agg p).bind (UD ⟨vs, H⟩ r) := (rfl)
@[go_sem] theorem GN (vs : List D) (H : ab) (j n : Nat) (agg : Bool) (r : List (Nat × Option (Nat × Bool))) : dk ⟨vs, H⟩ ((j, some (n, agg)) :: r) = vs[j]?.bind (UF ⟨vs, H⟩ n agg r) := by
 simp only[dk]
 cases vs[j]? with
 | none=>rfl
 | some p=>
   simp only[aLq,UF,AM]
   cases lz H p n agg<;>rfl
@[go_sem] theorem UH (H : ab) (n : Nat) (x : T) : frz H n (.t x) = some x := by cases n <;> rfl
@[go_sem] theorem UI (H : ab) (n : Nat) : frz H n .nil = some (.sl []) := by cases n <;> rfl
@[go_sem] theorem UJ (H : ab) (n : Nat) (cs : List D) : frz H (n + 1) (.agg cs) = (aB (frz H n) cs).map .agg := (rfl)
@[go_sem] theorem wA (H : ab) (n : Nat) (ts : List T) : aB (frz H n) (ts.map .t) = some ts := by
 induction ts with
 | nil=>rfl
 | cons t ts ih=>simp[aB,UH,ih]
def frA(H:ab)(n ep m lo hi:Nat):Option Obj→Option T
 | some (.arr _ _ ep' es)=>if ep=ep'∧m=es.length then(aB (frz H n) ((es.drop lo).take (hi-lo))).map .sl else none
 | _=>none
def frR(H:ab)(n ep m:Nat):Option Obj→Option T
 | some (.arr _ _ ep' es)=>if ep=ep'∧m=es.length then(aB (frz H n) es).map .sl else none
 | _=>none
@[go_sem] theorem UK (H : ab) (n id ep m : Nat) : frz H (n + 1) (.ref id ep m) = frR H n ep m H[id]? := by
 simp only[frz,b7]
 generalize H[id]?=o
 rcases o with _ | (_ | ⟨sz',pin,ep',es⟩)
 · rfl
 · rfl
 · simp only[frR]
   by_cases h:ep=ep'∧m=es.length
   · rw[if_pos h,if_pos h];rfl
   · rw[if_neg h,if_neg h];rfl
@[go_sem] theorem UL (H : ab) (n id ep m lo hi : Nat) : frz H (n + 1) (.sub id ep m lo hi) = frA H n ep m lo hi H[id]? := by
 simp only[frz,b7]
 generalize H[id]?=o
 rcases o with _ | (_ | ⟨sz',pin,ep',es⟩)
 · rfl
 · rfl
 · simp only[frA]
   by_cases h:ep=ep'∧m=es.length
   · rw[if_pos h,if_pos h];rfl
   · rw[if_neg h,if_neg h];rfl
@[go_sem] theorem UM (H : ab) (n ep m sz : Nat) (pin : Bool) (es : List D) : frR H n ep m (some (.arr sz pin ep es)) = if m = es.length then (aB (frz H n) es).map .sl else none := by simp [frR]
@[go_sem] theorem UN (H : ab) (n ep m lo hi sz : Nat) (pin : Bool) (es : List D) : frA H n ep m lo hi (some (.arr sz pin ep es)) = if m = es.length then (aB (frz H n) ((es.drop lo).take (hi - lo))).map .sl else none := by simp [frA]
@[go_sem] theorem W6 (H : ab) (x : T) : ir H (.t x) = some (.t x) := (rfl)
@[go_sem] theorem R3 (H : ab) : ir H .nil = some (.t (.sl [])) := (rfl)
@[go_sem] theorem R4 (H : ab) (cs : List D) : ir H (.agg cs) = (frz H 8 (.agg cs)).map .t := (rfl)
@[go_sem] theorem R5 (H : ab) (id ep n : Nat) : ir H (.ref id ep n) = (frz H 8 (.ref id ep n)).map .t := (rfl)
@[go_sem] theorem R6 (H : ab) (id ep n lo hi : Nat) : ir H (.sub id ep n lo hi) = (frz H 8 (.sub id ep n lo hi)).map .t := (rfl)
@[go_sem] theorem UO (H : ab) (id off : Nat) : ir H (.bp id off) = some (.bp id off) := (rfl)
@[go_sem] theorem UP (H : ab) (id ep n i off : Nat) : ir H (.ap id ep n i off) = some (.ap id ep n i off) := (rfl)
@[go_sem] theorem UQ (H : ab) (cs : List T) : ir H (.ep cs) = some (.ep cs) := (rfl)
@[go_sem] theorem UR (H : ab) (f : Nat) (cs : List D) : ir H (.fn f cs) = some (.fn f cs) := (rfl)
def ltB:Nat→Nat→Bool
 | _,0=>false
 | 0,_+1=>true
 | m+1,n+1=>ltB m n
@[go_sem] theorem YA (m : Nat) : ltB m 0 = false := by cases m <;> rfl
@[go_sem] theorem W7 (n : Nat) : ltB 0 (n + 1) = true := (rfl)
@[go_sem] theorem W8 (m n : Nat) : ltB (m + 1) (n + 1) = ltB m n := (rfl)
theorem di:∀ {m n:Nat},ltB m n=decide (m<n)
 | m,0=>by cases m<;>simp[ltB]
 | 0,n+1=>by simp[ltB]
 | m+1,n+1=>by simp[ltB,di (m:=m) (n:=n)]
def eqB:Nat→Nat→Bool
 | 0,0=>true
 | m+1,n+1=>eqB m n
 | _,_=>false
@[go_sem] theorem W9 : eqB 0 0 = true := (rfl)
@[go_sem] theorem Xa (n : Nat) : eqB 0 (n + 1) = false := (rfl)
@[go_sem] theorem Xb (n : Nat) : eqB (n + 1) 0 = false := (rfl)
@[go_sem] theorem Xc (m n : Nat) : eqB (m + 1) (n + 1) = eqB m n := (rfl)
theorem s4:∀ {m n:Nat},eqB m n=decide (m=n)
 | 0,0=>rfl
 | 0,n+1=>rfl
 | m+1,0=>rfl
 | m+1,n+1=>by simp[eqB,s4 (m:=m) (n:=n)]
section
variable (k n : Nat)
@[go_sem] theorem US (x : T) : old k n (.t x) = true := by cases n <;> rfl
@[go_sem] theorem UT : old k n .nil = true := by cases n <;> rfl
@[go_sem] theorem Xd (cs : List T) : old k n (.ep cs) = true := by cases n <;> rfl
@[go_sem] theorem R7 : old k n .nilp = true := by cases n <;> rfl
@[go_sem] theorem UU : old k n .und = true := by cases n <;> rfl
@[go_sem] theorem ON (id off : Nat) : old k n (.bp id off) = ltB id k := by cases n <;> simp [old, di]
@[go_sem] theorem Xe (id ep m i off : Nat) : old k n (.ap id ep m i off) = ltB id k := by cases n <;> simp [old, di]
@[go_sem] theorem UW (id ep m : Nat) : old k n (.ref id ep m) = ltB id k := by cases n <;> simp [old, di]
@[go_sem] theorem UX (id ep m lo hi : Nat) : old k n (.sub id ep m lo hi) = ltB id k := by cases n <;> simp [old, di]
def cz(n:Nat)(cs:List D):Bool:=cs.all (old k n)
@[go_sem] theorem KQ : cz k n [] = true := (rfl)
@[go_sem] theorem s5 (d : D) (r : List D) : cz k n (d :: r) = (old k n d && cz k n r) := (rfl)
@[go_sem] theorem uI (ts : List T) : cz k n (ts.map .t) = true := by
 induction ts with
 | nil=>rfl
 | cons t ts ih=>rw[List.map_cons,s5,US,ih];rfl
@[go_sem] theorem KR (m : Nat) (x : T) : cz k n (List.replicate m (.t x)) = true := by
 have:List.replicate m (D.t x)=(List.replicate m x).map .t:=by simp
 rw[this,uI]
@[go_sem] theorem KS (a b : List D) : cz k n (a ++ b) = (cz k n a && cz k n b) := by simp [cz]
@[go_sem] theorem UY (cs : List D) : old k (n + 1) (.agg cs) = cz k n cs := (rfl)
@[go_sem] theorem UZ (cs : List D) : old k (n + 1) (.tup cs) = cz k n cs := (rfl)
@[go_sem] theorem Xf (f : Nat) (cs : List D) : old k (n + 1) (.fn f cs) = cz k n cs := (rfl)
end
def bN(k:Nat):ab→Bool
 | []=>true
 | .box cs::r=>cz k 8 cs&&bN k r
 | .arr _ _ _ es::r=>cz k 8 es&&bN k r
@[go_sem] theorem GO (k : Nat) : bN k [] = true := (rfl)
@[go_sem] theorem GP (k : Nat) (cs : List D) (r : ab) : bN k (.box cs :: r) = (cz k 8 cs && bN k r) := (rfl)
@[go_sem] theorem GQ (k sz ep : Nat) (pin : Bool) (es : List D) (r : ab) : bN k (.arr sz pin ep es :: r) = (cz k 8 es && bN k r) := (rfl)
theorem dZ(k:Nat)(H:ab):H.all (fun o=>o.ds.all (old k depth))=bN k H:=by
 induction H with
 | nil=>rfl
 | cons o r ih=>rw[List.all_cons,ih];cases o<;>rfl
def GR(d:D)(b:Bool):D:=if b then d else .und
@[go_sem] theorem KT (d : D) : GR d true = d := (rfl)
@[go_sem] theorem GS (d : D) : GR d false = .und := (rfl)
@[go_sem] theorem U0 (k : Nat) (d : D) : kill k d = GR d (old k 8 d) := (rfl)
def wB(k:Nat):List D→List D
 | []=>[]
 | d::r=>kill k d::wB k r
@[go_sem] theorem OO (k : Nat) : wB k [] = [] := (rfl)
@[go_sem] theorem KU (k : Nat) (d : D) (r : List D) : wB k (d :: r) = kill k d :: wB k r := (rfl)
theorem B6(k:Nat)(vs:List D):vs.map (kill k)=wB k vs:=by
 induction vs with
 | nil=>rfl
 | cons d r ih=>rw[List.map_cons,ih];rfl
@[go_sem] theorem R8 (k : Nat) (vs : List D) (H : ab) : vT k ⟨vs, H⟩ = if bN k (H.take k) = true then some ⟨wB k vs, H.take k⟩ else none := by
 simp only[vT,dZ,B6]
@[go_sem] theorem GU (H : ab) (n : Nat) (x : T) : bF H n (.t x) = [] := by cases n <;> rfl
@[go_sem] theorem R9 (H : ab) (n : Nat) : bF H n .nil = [] := by cases n <;> rfl
@[go_sem] theorem U1 (H : ab) (n id off : Nat) : bF H n (.bp id off) = [] := by cases n <;> rfl
@[go_sem] theorem U3 (H : ab) (n f : Nat) (cs : List D) : bF H n (.fn f cs) = [] := by cases n <;> rfl
@[go_sem] theorem U4 (H : ab) (n : Nat) (cs : List T) : bF H n (.ep cs) = [] := by cases n <;> rfl
@[go_sem] theorem U5 (H : ab) (n a b c d e : Nat) : bF H n (.ap a b c d e) = [] := by cases n <;> rfl
def jj(H:ab)(n:Nat)(cs:List D):List Nat:=cs.flatMap (bF H n)
@[go_sem] theorem OP (H : ab) (n : Nat) : jj H n [] = [] := (rfl)
@[go_sem] theorem wC (H : ab) (n : Nat) (d : D) (r : List D) : jj H n (d :: r) = bF H n d ++ jj H n r := (rfl)
@[go_sem] theorem U6 (H : ab) (n : Nat) (ts : List T) : jj H n (ts.map .t) = [] := by
 induction ts with
 | nil=>rfl
 | cons t ts ih=>rw[List.map_cons,wC,ih,GU];rfl
@[go_sem] theorem OQ (H : ab) (n : Nat) (a b : List D) : jj H n (a ++ b) = jj H n a ++ jj H n b := by simp [jj]
@[go_sem] theorem Sa (H : ab) (n : Nat) (cs : List D) : bF H (n + 1) (.agg cs) = jj H n cs := (rfl)
def GV(H:ab)(n:Nat):Option Obj→List Nat
 | some (.arr _ _ _ es)=>jj H n es
 | _=>[]
@[go_sem] theorem OR (H : ab) (n sz ep : Nat) (pin : Bool) (es : List D) : GV H n (some (.arr sz pin ep es)) = jj H n es := (rfl)
@[go_sem] theorem Sb (H : ab) (n id ep m : Nat) : bF H (n + 1) (.ref id ep m) = id :: GV H n H[id]? := (rfl)
@[go_sem] theorem Sc (H : ab) (n id ep m lo hi : Nat) : bF H (n + 1) (.sub id ep m lo hi) = id :: GV H n H[id]? := (rfl)
@[go_sem] theorem U7 : j9 [] = .tup [] := (rfl)
@[go_sem] theorem U8 (d : D) : j9 [d] = d := (rfl)
@[go_sem] theorem U9 (a b : D) (r : List D) : j9 (a :: b :: r) = .tup (a :: b :: r) := (rfl)
def ru(k:Nat):List Nat→Bool
 | []=>true
 | i::r=> !ltB i k&&ru k r
@[go_sem] theorem OS (k : Nat) : ru k [] = true := (rfl)
@[go_sem] theorem KV (k i : Nat) (r : List Nat) : ru k (i :: r) = (!ltB i k && ru k r) := (rfl)
theorem uJ(k:Nat)(l:List Nat):l.all (fun i=>decide (k≤i))=ru k l:=by
 induction l with
 | nil=>rfl
 | cons i r ih=>
   rw[List.all_cons,ih]
   simp only[ru,di]
   congr 1
   rw[Bool.eq_iff_iff];simp
def Sd(k raw:Nat)(H:ab)(ds rs:List D):Option (D×ab):=
 (er H (max raw 1) (List.range k) (rs.flatMap (ids depth)++dS H (List.range k))).bind fun q=>
  if(cV H raw ds).all (fun i=> !(List.range k++q.1).contains i)then
   (aB (ren (idxOf (List.range k++q.1)) depth) rs).bind fun rs'=>
    (aB (aS (idxOf (List.range k++q.1))) (H.take k++q.2)).map fun hs'=>(j9 rs',hs')
  else none
def KW(k raw:Nat)(H:ab)(ds rs:List D)(b:Bool):Option (D×ab):=
 if b then(if ru k (cV H raw ds)=true then some (j9 rs,H.take k)else none)else Sd k raw H ds rs
@[go_sem] theorem OT (k raw : Nat) (H : ab) (ds rs : List D) : KW k raw H ds rs true = if ru k (cV H raw ds) = true then some (j9 rs, H.take k) else none := (rfl)
def OU(k raw:Nat)(H:ab)(ds rs:List D):Option (D×ab):=KW k raw H ds rs (cz k 8 rs&&bN k (H.take k))
@[go_sem] theorem Va (k raw : Nat) (H : ab) (ds rs : List D) : OU k raw H ds rs = KW k raw H ds rs (cz k 8 rs && bN k (H.take k)) := (rfl)
@[go_sem] theorem OV (k : Nat) (H : ab) (ds : List D) : finish k 0 H ds = (aB (ir H) ds).bind (OU k 0 H ds) := by
 simp only[finish,if_true,dZ,uJ]
 cases aB (ir H) ds with
 | none=>rfl
 | some rs=>
   simp only[aLq,OU,KW]
   show(if(cz k 8 rs&&bN k (H.take k))=true then _ else _)=_
   cases (cz k 8 rs&&bN k (H.take k))<;>rfl
@[go_sem] theorem OW (H : ab) (ds : List D) : cV H 0 ds = jj H 8 ds := (rfl)
@[go_sem] theorem OX (vs : List D) : eo [] vs = vs := (rfl)
@[go_sem] theorem KX (i : Nat) (r : List Nat) (vs : List D) : eo (i :: r) vs = eo r (vs.set i .und) := (rfl)
@[go_sem] theorem Vb (dead : List Nat) (k : Nat) (vs : List D) (H : ab) : tidy false dead k ⟨vs, H⟩ = some ⟨eo dead vs, H⟩ := (rfl)
@[go_sem] theorem Vc (dead : List Nat) (k : Nat) (vs : List D) (H : ab) : tidy true dead k ⟨vs, H⟩ = vT k ⟨eo dead vs, H⟩ := (rfl)
section
variable (H : ab) (call : ak) (f raw : Nat) (keep : List Nat) (ds : List D)
def pU(H1:ab)(n:Nat)(sel:List Nat)(p:D×ab):Option (D×ab):=
 (ren (aM sel n) depth p.1).bind fun r'=>(aB (aS (aM sel n)) p.2).map fun os=>(r',aA H1 sel (os.take sel.length)++os.drop sel.length)
def ft(H1:ab)(sel:List Nat)(p:D×ab):Option (D×ab):=
 if sel.isEmpty&&p.2.isEmpty&&fI p.1 then some (p.1,H)else pU H1 H.length sel p
def GW(args:List D)(H1:ab)(sel:List Nat)(hs:ab):Option (D×ab):=(call raw f args hs).bind (ft H H1 sel)
def GX(args:List D)(H1:ab)(sel:List Nat)(hs:ab):Option (D×ab):=(aB (aS (idxOf sel)) hs).bind (GW H call f raw args H1 sel)
def GY(H1:ab)(sel:List Nat)(args:List D):Option (D×ab):=(pick H1 sel).bind (GX H call f raw args H1 sel)
def GZ(args:List D)(sel:List Nat):Option (D×ab):=(aB (ren (idxOf sel) depth) args).bind (GY H call f raw (pins H (bf H keep 0 ds)) sel)
def oD(n:Nat)(cs:List D):List Nat:=cs.flatMap (ids n)
def G0(args:List D):Option (D×ab):=GZ H call f raw keep ds args (reach H 3 (a6 [] (oD 8 args)))
def yP:Option (D×ab):=(jh H keep 0 ds).bind (G0 H call f raw keep ds)
theorem B7:yM H call f raw keep ds=yP H call f raw keep ds:=(rfl)
@[go_sem] theorem B8 : yP H call f raw keep ds = (jh H keep 0 ds).bind (G0 H call f raw keep ds) := (rfl)
@[go_sem] theorem B9 (args : List D) : G0 H call f raw keep ds args = GZ H call f raw keep ds args (reach H 3 (a6 [] (oD 8 args))) := (rfl)
@[go_sem] theorem Ca (args : List D) (sel : List Nat) : GZ H call f raw keep ds args sel = (aB (ren (idxOf sel) 8) args).bind (GY H call f raw (pins H (bf H keep 0 ds)) sel) := (rfl)
@[go_sem] theorem Cb (H1 : ab) (sel : List Nat) (args : List D) : GY H call f raw H1 sel args = (pick H1 sel).bind (GX H call f raw args H1 sel) := (rfl)
@[go_sem] theorem Cc (args : List D) (H1 : ab) (sel : List Nat) (hs : ab) : GX H call f raw args H1 sel hs = (aB (aS (idxOf sel)) hs).bind (GW H call f raw args H1 sel) := (rfl)
@[go_sem] theorem Cd (args : List D) (H1 : ab) (sel : List Nat) (hs : ab) : GW H call f raw args H1 sel hs = (call raw f args hs).bind (ft H H1 sel) := (rfl)
def G3(H1:ab)(sel:List Nat)(r:D)(os:ab):Option (D×ab):=some (r,aA H1 sel (os.take sel.length)++os.drop sel.length)
@[go_sem] theorem Se (H1 : ab) (sel : List Nat) (r : D) (os : ab) : G3 H1 sel r os = some (r, aA H1 sel (os.take sel.length) ++ os.drop sel.length) := (rfl)
def G4(H1:ab)(n:Nat)(sel:List Nat)(os:ab)(r:D):Option (D×ab):=(aB (aS (aM sel n)) os).bind (G3 H1 sel r)
@[go_sem] theorem Sf (H1 : ab) (n : Nat) (sel : List Nat) (os : ab) (r : D) : G4 H1 n sel os r = (aB (aS (aM sel n)) os).bind (G3 H1 sel r) := (rfl)
@[go_sem] theorem Sg (H1 : ab) (n : Nat) (sel : List Nat) (r : D) (os : ab) : pU H1 n sel (r, os) = (ren (aM sel n) 8 r).bind (G4 H1 n sel os) := by
 simp only[pU,depth]
 cases ren (aM sel n) 8 r with
 | none=>rfl
 | some r'=>simp only[aLq,G4];cases aB (aS (aM sel n)) os<;>rfl
@[go_sem] theorem OY (H1 : ab) (i : Nat) (sel : List Nat) (p : D × ab) : ft H H1 (i :: sel) p = pU H1 H.length (i :: sel) p := (rfl)
@[go_sem] theorem Si (H1 : ab) (sel : List Nat) (r : D) (o : Obj) (os : ab) : ft H H1 sel (r, o :: os) = pU H1 H.length sel (r, o :: os) := by
 simp[ft]
@[go_sem] theorem Vd (H1 : ab) (k : IntKind) (n : Int) : ft H H1 [] (.t (.int k n), []) = some (.t (.int k n), H) := (rfl)
@[go_sem] theorem Ve (H1 : ab) (b : Bool) : ft H H1 [] (.t (.bool b), []) = some (.t (.bool b), H) := (rfl)
@[go_sem] theorem Sj (H1 : ab) (es : List T) : ft H H1 [] (.t (.sl es), []) = some (.t (.sl es), H1) := by simp [ft, pU, fI, T.scalar, ren, depth, aB, aA]
@[go_sem] theorem OZ (H1 : ab) (es : List T) : ft H H1 [] (.t (.agg es), []) = some (.t (.agg es), H1) := by simp [ft, pU, fI, T.scalar, ren, depth, aB, aA]
@[go_sem] theorem O0 (H1 : ab) (ds : List D) : ft H H1 [] (.tup ds, []) = if ds.all dH then some (.tup ds, H) else pU H1 H.length [] (.tup ds, []) := by
 simp[ft,fI]
def G5:Option (List T)→Option (D×ab)
 | some ts=>(call raw f (ts.map .t) []).bind (jT H)
 | none=>yP H call f raw [] ds
@[go_sem] theorem KY (ts : List T) : G5 H call f raw ds (some ts) = (call raw f (ts.map .t) []).bind (jT H) := (rfl)
@[go_sem] theorem KZ : G5 H call f raw ds none = yP H call f raw [] ds := (rfl)
@[go_sem] theorem Vf : yM H call f raw [] ds = G5 H call f raw ds (eQ H ds) := by
 cases h:eQ H ds with
 | none=>rfl
 | some ts=>exact yO H call f raw ds ts h
@[go_sem] theorem Xg (k : Nat) : yM H call f raw (k :: keep) ds = yP H call f raw (k :: keep) ds := (rfl)
end
section
variable (H : ab) (keep : List Nat)
@[go_sem] theorem O1 (i : Nat) : jh H keep i [] = some [] := (rfl)
def uK(i:Nat):List Nat→Bool
 | []=>false
 | j::r=>eqB i j||uK i r
@[go_sem] theorem Sk (i : Nat) : uK i [] = false := (rfl)
@[go_sem] theorem O2 (i j : Nat) (r : List Nat) : uK i (j :: r) = (eqB i j || uK i r) := (rfl)
theorem pV(i:Nat)(l:List Nat):l.contains i=uK i l:=by
 induction l with
 | nil=>rfl
 | cons j r ih=>rw[List.contains_cons,ih];simp only[uK,s4];rw[beq_eq_decide_nat]
where beq_eq_decide_nat {a b:Nat}:(a==b)=decide (a=b):=by rw[Bool.eq_iff_iff];simp
def Vg(d:D):Bool→Option D
 | true=>some d
 | false=>ir H d
@[go_sem] theorem Xh (d : D) : Vg H d true = some d := (rfl)
@[go_sem] theorem Xi (d : D) : Vg H d false = ir H d := (rfl)
def Xj(i:Nat)(r:List D)(x:D):Option (List D):=dY x (jh H keep (i+1) r)
@[go_sem] theorem Vh (i : Nat) (r : List D) (x : D) : Xj H keep i r x = dY x (jh H keep (i + 1) r) := (rfl)
@[go_sem] theorem K0 (i : Nat) (d : D) (r : List D) : jh H keep i (d :: r) = (Vg H d (uK i keep)).bind (Xj H keep i r) := by
 simp only[jh,pV]
 cases uK i keep<;>rfl
@[go_sem] theorem AN (i : Nat) : bf H keep i [] = [] := (rfl)
def frK(l:List Nat):Bool→List Nat
 | true=>[]
 | false=>l
@[go_sem] theorem YB (l : List Nat) : frK l true = [] := (rfl)
@[go_sem] theorem YC (l : List Nat) : frK l false = l := (rfl)
@[go_sem] theorem yQ (i : Nat) (d : D) (r : List D) : bf H keep i (d :: r) = frK (bF H 8 d) (uK i keep) ++ bf H keep (i + 1) r := by
 simp only[bf,pV]
 cases uK i keep<;>rfl
@[go_sem] theorem Sl (H : ab) : pins H [] = H := (rfl)
@[go_sem] theorem O3 (H : ab) (i : Nat) (r : List Nat) : pins H (i :: r) = pins (H.modify i uc) r := (rfl)
def wD(i:Nat):Option Obj→ab
 | some (.arr sz _ ep es)=>H.set i (.arr sz true ep es)
 | _=>H
@[go_sem] theorem O4 (i : Nat) (cs : List D) : wD H i (some (.box cs)) = H := (rfl)
@[go_sem] theorem O5 (i sz ep : Nat) (pin : Bool) (es : List D) : wD H i (some (.arr sz pin ep es)) = H.set i (.arr sz true ep es) := (rfl)
@[go_sem] theorem K5 (i : Nat) : List.modify H i uc = wD H i H[i]? := by
 apply List.ext_getElem?
 intro j
 rw[List.getElem?_modify]
 cases h:H[i]? with
 | none=>
   simp only[wD]
   by_cases e:i=j
   · subst e;rw[h];simp
   · simp[e]
 | some o=>
   have hi:i<H.length:=(aLe.1 h).1
   cases o with
   | box cs=>
     simp only[wD]
     by_cases e:i=j
     · subst e;rw[h];simp[uc]
     · simp[e]
   | arr sz pin ep es=>
     simp only[wD]
     rw[List.getElem?_set]
     by_cases e:i=j
     · subst e;rw[h];simp[uc,hi]
     · simp[e]
section
variable (n : Nat)
@[go_sem] theorem YD (x : T) : ids n (.t x) = [] := by cases n <;> rfl
@[go_sem] theorem Vi : ids n .nil = [] := by cases n <;> rfl
@[go_sem] theorem Sm : ids n .nilp = [] := by cases n <;> rfl
@[go_sem] theorem Vj : ids n .und = [] := by cases n <;> rfl
@[go_sem] theorem Xk (cs : List T) : ids n (.ep cs) = [] := by cases n <;> rfl
@[go_sem] theorem Xl (id off : Nat) : ids n (.bp id off) = [id] := by cases n <;> rfl
@[go_sem] theorem Xm (id ep m i off : Nat) : ids n (.ap id ep m i off) = [id] := by cases n <;> rfl
@[go_sem] theorem Vk (id ep m : Nat) : ids n (.ref id ep m) = [id] := by cases n <;> rfl
@[go_sem] theorem Vl (id ep m lo hi : Nat) : ids n (.sub id ep m lo hi) = [id] := by cases n <;> rfl
@[go_sem] theorem Vm (cs : List D) : ids (n + 1) (.agg cs) = oD n cs := (rfl)
@[go_sem] theorem Vn (cs : List D) : ids (n + 1) (.tup cs) = oD n cs := (rfl)
@[go_sem] theorem Xn (f : Nat) (cs : List D) : ids (n + 1) (.fn f cs) = oD n cs := (rfl)
@[go_sem] theorem Sn : oD n [] = [] := (rfl)
@[go_sem] theorem O6 (d : D) (r : List D) : oD n (d :: r) = ids n d ++ oD n r := (rfl)
@[go_sem] theorem yR (ts : List T) : oD n (ts.map .t) = [] := yN ts n
@[go_sem] theorem Sp (a b : List D) : oD n (a ++ b) = oD n a ++ oD n b := by simp [oD]
@[go_sem] theorem Sq (m : Nat) (x : T) : oD n (List.replicate m (.t x)) = [] := by
 have:List.replicate m (D.t x)=(List.replicate m x).map .t:=by simp
 rw[this,yR]
end
def yS(sel:List Nat)(i:Nat):Bool→List Nat
 | true=>sel
 | false=>sel++[i]
@[go_sem] theorem Sr (sel : List Nat) (i : Nat) : yS sel i true = sel := (rfl)
@[go_sem] theorem Ss (sel : List Nat) (i : Nat) : yS sel i false = sel ++ [i] := (rfl)
@[go_sem] theorem K6 (sel : List Nat) : a6 sel [] = sel := (rfl)
@[go_sem] theorem G6 (sel : List Nat) (i : Nat) (r : List Nat) : a6 sel (i :: r) = a6 (yS sel i (uK i sel)) r := by
 simp only[a6,pV]
 cases uK i sel<;>rfl
def uL:Option Obj→List Nat
 | some (.box cs)=>oD 8 cs
 | some (.arr _ _ _ es)=>oD 8 es
 | none=>[]
@[go_sem] theorem K7 (cs : List D) : uL (some (.box cs)) = oD 8 cs := (rfl)
@[go_sem] theorem K8 (sz ep : Nat) (pin : Bool) (es : List D) : uL (some (.arr sz pin ep es)) = oD 8 es := (rfl)
@[go_sem] theorem O7 : dS H [] = [] := (rfl)
@[go_sem] theorem K9 (i : Nat) (r : List Nat) : dS H (i :: r) = uL H[i]? ++ dS H r := by
 simp only[dS,List.flatMap_cons]
 congr 1
 cases H[i]? with
 | none=>rfl
 | some o=>cases o<;>rfl
@[go_sem] theorem Vo (sel : List Nat) : reach H 0 sel = sel := (rfl)
@[go_sem] theorem Vp (n : Nat) (sel : List Nat) : reach H (n + 1) sel = reach H n (a6 sel (dS H sel)) := (rfl)
@[go_sem] theorem Su : pick H [] = some [] := (rfl)
def O8(r:List Nat)(o:Obj):Option ab:=dY o (pick H r)
@[go_sem] theorem Sv (r : List Nat) (o : Obj) : O8 H r o = dY o (pick H r) := (rfl)
@[go_sem] theorem O9 (i : Nat) (r : List Nat) : pick H (i :: r) = H[i]?.bind (O8 H r) := (rfl)
end
section
variable (f : Nat → Option Nat) (n : Nat)
@[go_sem] theorem Vq (x : T) : ren f n (.t x) = some (.t x) := by cases n <;> rfl
@[go_sem] theorem Vr : ren f n .nil = some .nil := by cases n <;> rfl
@[go_sem] theorem Sw : ren f n .nilp = some .nilp := by cases n <;> rfl
@[go_sem] theorem Vs : ren f n .und = some .und := by cases n <;> rfl
@[go_sem] theorem Xo (cs : List T) : ren f n (.ep cs) = some (.ep cs) := by cases n <;> rfl
def Xp(off:Nat)(i:Nat):D:= .bp i off
@[go_sem] theorem Vt (off i : Nat) : Xp off i = .bp i off := (rfl)
@[go_sem] theorem Xq (id off : Nat) : ren f n (.bp id off) = (f id).map (Xp off) := by cases n <;> rfl
def Xr(ep m i off:Nat)(j:Nat):D:= .ap j ep m i off
@[go_sem] theorem Vu (ep m i off j : Nat) : Xr ep m i off j = .ap j ep m i off := (rfl)
@[go_sem] theorem Xs (id ep m i off : Nat) : ren f n (.ap id ep m i off) = (f id).map (Xr ep m i off) := by cases n <;> rfl
def Pa(ep m:Nat)(j:Nat):D:= .ref j ep m
@[go_sem] theorem Sx (ep m j : Nat) : Pa ep m j = .ref j ep m := (rfl)
@[go_sem] theorem Vv (id ep m : Nat) : ren f n (.ref id ep m) = (f id).map (Pa ep m) := by cases n <;> rfl
def Pb(ep m lo hi:Nat)(j:Nat):D:= .sub j ep m lo hi
@[go_sem] theorem Sy (ep m lo hi j : Nat) : Pb ep m lo hi j = .sub j ep m lo hi := (rfl)
@[go_sem] theorem Vw (id ep m lo hi : Nat) : ren f n (.sub id ep m lo hi) = (f id).map (Pb ep m lo hi) := by cases n <;> rfl
@[go_sem] theorem Xt (g : Nat) (cs : List D) : ren f (n + 1) (.fn g cs) = (aB (ren f n) cs).map (.fn g) := (rfl)
@[go_sem] theorem Vx (cs : List D) : ren f (n + 1) (.agg cs) = (aB (ren f n) cs).map .agg := (rfl)
@[go_sem] theorem Vy (cs : List D) : ren f (n + 1) (.tup cs) = (aB (ren f n) cs).map .tup := (rfl)
@[go_sem] theorem wE (ts : List T) : aB (ren f n) (ts.map .t) = some (ts.map .t) := by
 induction ts with
 | nil=>rfl
 | cons t ts ih=>rw[List.map_cons,yG,Vq,aLq,Gr,ih];rfl
@[go_sem] theorem DP (m : Nat) (x : T) : aB (ren f n) (List.replicate m (.t x)) = some (List.replicate m (.t x)) := by
 have:List.replicate m (D.t x)=(List.replicate m x).map .t:=by simp
 rw[this,wE]
@[go_sem] theorem La (cs : List D) : aS f (.box cs) = (aB (ren f 8) cs).map .box := (rfl)
@[go_sem] theorem Lb (sz ep : Nat) (pin : Bool) (es : List D) : aS f (.arr sz pin ep es) = (aB (ren f 8) es).map (.arr sz pin ep) := (rfl)
end
def Lc(x:Option Nat):Bool→Option Nat
 | true=>some 0
 | false=>x.map (· +1)
@[go_sem] theorem Xu (x : Option Nat) : Lc x true = some 0 := (rfl)
@[go_sem] theorem Xv (k : Nat) : Lc (some k) false = some (k + 1) := (rfl)
@[go_sem] theorem Xw : Lc none false = none := (rfl)
@[go_sem] theorem idxOf_nil (i : Nat) : idxOf [] i = none := (rfl)
@[go_sem] theorem idxOf_cons (j i : Nat) (r : List Nat) : idxOf (j :: r) i = Lc (idxOf r i) (eqB j i) := by
 simp only[idxOf,s4]
 by_cases h:j=i
 · simp[h,Lc]
 · simp[h,Lc]
@[go_sem] theorem Ld (n i : Nat) : aM [] n i = some (n + i) := by simp [aM]
@[go_sem] theorem Sz (j n : Nat) (r : List Nat) : aM (j :: r) n 0 = some j := by simp [aM]
@[go_sem] theorem SA (j n i : Nat) (r : List Nat) : aM (j :: r) n (i + 1) = aM r n i := by
 simp only[aM,List.length_cons,Nat.add_lt_add_iff_right,List.getElem?_cons_succ,Nat.add_sub_add_right]
@[go_sem] theorem G7 {α : Type} (H os : List α) : aA H [] os = H := by cases os <;> rfl
@[go_sem] theorem DQ {α : Type} (H : List α) (i : Nat) (r : List Nat) (o : α) (os : List α) : aA H (i :: r) (o :: os) = aA (H.set i o) r os := (rfl)
def lbP(sz:Nat)(p:List D×ab):List D×ab:=(p.1,.arr sz false 0 []::p.2)
@[go_sem] theorem Xx (sz : Nat) (cs : List D) (os : ab) : lbP sz (cs, os) = (cs, .arr sz false 0 [] :: os) := (rfl)
def lbC(base:Nat)(cs:List D)(off sz:Nat)(r:List (Nat×Nat)):Option D→List D×ab
 | some .nil=>lbP sz (aE (base+1) (cs.set off (.ref base 0 0)) r)
 | _=>aE base cs r
@[go_sem] theorem Vz (base : Nat) (cs : List D) (off sz : Nat) (r : List (Nat × Nat)) : lbC base cs off sz r (some .nil) = lbP sz (aE (base + 1) (cs.set off (.ref base 0 0)) r) := (rfl)
@[go_sem] theorem YE (base : Nat) (cs : List D) (off sz : Nat) (r : List (Nat × Nat)) (x : T) : lbC base cs off sz r (some (.t x)) = aE base cs r := (rfl)
@[go_sem] theorem VA (base : Nat) (cs : List D) (off sz : Nat) (r : List (Nat × Nat)) (a b c : Nat) : lbC base cs off sz r (some (.ref a b c)) = aE base cs r := (rfl)
@[go_sem] theorem DR (base : Nat) (cs : List D) (off sz : Nat) (r : List (Nat × Nat)) : aE base cs ((off, sz) :: r) = lbC base cs off sz r cs[off]? := by
 simp only[aE,lbC]
 split<;>split<;>simp_all [lbP]
def lvP(H:ab)(id:Nat)(p:List D×ab):Option (D×ab):=some (.tup [],H.set id (.box p.1)++p.2)
@[go_sem] theorem Xy (H : ab) (id : Nat) (cs : List D) (os : ab) : lvP H id (cs, os) = some (.tup [], H.set id (.box cs) ++ os) := (rfl)
def lvB(H:ab)(id:Nat)(l:List (Nat×Nat)):Option Obj→Option (D×ab)
 | some (.box cs)=>lvP H id (aE H.length cs l)
 | _=>none
@[go_sem] theorem Xz (H : ab) (id : Nat) (l : List (Nat × Nat)) (cs : List D) : lvB H id l (some (.box cs)) = lvP H id (aE H.length cs l) := (rfl)
@[go_sem] theorem G8 (H : ab) (id : Nat) (x : Nat × Nat) (r : List (Nat × Nat)) : o9 H id (x :: r) = lvB H id (x :: r) H[id]? := by
 simp only[o9,gB]
 generalize H[id]?=o
 rcases o with _ | (cs | _)
 · rfl
 · rfl
 · rfl
section
variable (H : ab)
def klE(n:Nat)(sel new:List Nat)(os:ab)(q:List Nat×ab):Option (List Nat×ab):=some (new++q.1,os++q.2)
@[go_sem] theorem XA (n : Nat) (sel new : List Nat) (os : ab) (a : List Nat) (b : ab) : klE n sel new os (a, b) = some (new ++ a, os ++ b) := (rfl)
def klD(n:Nat)(sel new:List Nat)(os:ab):Option (List Nat×ab):=(er H n (sel++new) (dS H new)).bind (klE n sel new os)
@[go_sem] theorem XB (n : Nat) (sel new : List Nat) (os : ab) : klD H n sel new os = (er H n (sel ++ new) (dS H new)).bind (klE n sel new os) := (rfl)
def mI(sel:List Nat):List Nat→Bool
 | []=>true
 | i::r=> !uK i sel&&mI sel r
@[go_sem] theorem Le (sel : List Nat) : mI sel [] = true := (rfl)
@[go_sem] theorem G9 (sel : List Nat) (i : Nat) (r : List Nat) : mI sel (i :: r) = (!uK i sel && mI sel r) := (rfl)
theorem rv(sel l:List Nat):l.all (fun i=> !sel.contains i)=mI sel l:=by
 induction l with
 | nil=>rfl
 | cons i r ih=>rw[List.all_cons,ih,pV];rfl
def klC(n:Nat)(sel new:List Nat)(os:ab):Option (List Nat×ab):=
 (if n=0 then(if(os.flatMap fun o=>o.ds.flatMap (bF H depth)).all (fun i=> !(sel++new).contains i)then aB (bu H) os else none)else some os).bind (klD H n sel new)
def kF:ab→List Nat
 | []=>[]
 | .box cs::r=>jj H 8 cs++kF r
 | .arr _ _ _ es::r=>jj H 8 es++kF r
@[go_sem] theorem Lf : kF H [] = [] := (rfl)
@[go_sem] theorem Lg (cs : List D) (r : ab) : kF H (.box cs :: r) = jj H 8 cs ++ kF H r := (rfl)
@[go_sem] theorem Lh (sz ep : Nat) (pin : Bool) (es : List D) (r : ab) : kF H (.arr sz pin ep es :: r) = jj H 8 es ++ kF H r := (rfl)
theorem yT(os:ab):(os.flatMap fun o=>o.ds.flatMap (bF H depth))=kF H os:=by
 induction os with
 | nil=>rfl
 | cons o r ih=>rw[List.flatMap_cons,ih];cases o<;>rfl
@[go_sem] theorem YF (sel new : List Nat) (os : ab) : klC H 0 sel new os = (if mI (sel ++ new) (kF H os) = true then aB (bu H) os else none).bind (klD H 0 sel new) := by
 simp only[klC,yT,rv,if_true]
@[go_sem] theorem YG (n : Nat) (sel new : List Nat) (os : ab) : klC H (n + 1) sel new os = klD H (n + 1) sel new os := by
 simp[klC]
def klN(n:Nat)(sel new:List Nat):Option (List Nat×ab):=(pick H new).bind (klC H n sel new)
@[go_sem] theorem XC (n : Nat) (sel new : List Nat) : klN H n sel new = (pick H new).bind (klC H n sel new) := (rfl)
@[go_sem] theorem SB (sel front : List Nat) : er H 0 sel front = some ([], []) := (rfl)
@[go_sem] theorem SC (n : Nat) (sel front : List Nat) : er H (n + 1) sel front = klN H n sel ((a6 sel front).drop sel.length) := by
 simp only[er,klN]
 generalize (a6 sel front).drop sel.length=new
 cases pick H new with
 | none=>rfl
 | some os=>
   simp only[aLq,klC]
   congr 1
   funext os'
   simp only[klD]
   cases er H n (sel++new) (dS H new)<;>rfl
@[go_sem] theorem Ce (cs : List D) : bu H (.box cs) = (aB (ir H) cs).map .box := (rfl)
@[go_sem] theorem pW (sz ep : Nat) (pin : Bool) (ts : List T) : bu H (.arr sz pin ep (ts.map .t)) = some (.arr sz pin ep (ts.map .t)) := by
 simp only[bu,kE,aLw]
@[go_sem] theorem Cf (sz ep : Nat) (pin : Bool) : bu H (.arr sz pin ep []) = some (.arr sz pin ep []) := (rfl)
@[go_sem] theorem Cg (sz ep : Nat) (pin : Bool) (m : Nat) (x : T) : bu H (.arr sz pin ep (List.replicate m (.t x))) = some (.arr sz pin ep (List.replicate m (.t x))) := by
 have:List.replicate m (D.t x)=(List.replicate m x).map .t:=by simp
 rw[this,pW]
def VB(k raw:Nat)(H:ab)(ds rs:List D)(q:List Nat×ab):Option (D×ab):=
 if mI (List.range k++q.1) (cV H raw ds)=true then
  (aB (ren (idxOf (List.range k++q.1)) depth) rs).bind fun rs'=>(aB (aS (idxOf (List.range k++q.1))) (H.take k++q.2)).map fun hs'=>(j9 rs',hs')
 else none
def yU(sel:List Nat)(H2:ab)(rs':List D):Option (D×ab):=(aB (aS (idxOf sel)) H2).bind (finT3 rs')
where finT3 (rs':List D) (hs:ab):Option (D×ab):=some (j9 rs',hs)
@[go_sem] theorem SD (rs' : List D) (hs : ab) : yU.finT3 rs' hs = some (j9 rs', hs) := (rfl)
@[go_sem] theorem SE (sel : List Nat) (H2 : ab) (rs' : List D) : yU sel H2 rs' = (aB (aS (idxOf sel)) H2).bind (yU.finT3 rs') := (rfl)
@[go_sem] theorem VC (k raw : Nat) (ds rs : List D) (sel : List Nat) (os : ab) : VB k raw H ds rs (sel, os) =
 if mI (List.range k++sel) (cV H raw ds)=true then(aB (ren (idxOf (List.range k++sel)) 8) rs).bind (yU (List.range k++sel) (H.take k++os))else none:=by
 simp only[VB,depth]
 split
 · cases aB (ren (idxOf (List.range k++sel)) 8) rs with
   | none=>rfl
   | some rs'=>simp only[aLq,yU];cases aB (aS (idxOf (List.range k++sel))) (H.take k++os)<;>rfl
 · rfl
@[go_sem] theorem VD (k raw : Nat) (ds rs : List D) : Sd k raw H ds rs = (er H (max raw 1) (List.range k) (oD 8 rs ++ dS H (List.range k))).bind (VB k raw H ds rs) := by
 simp only[Sd,rv,oD,depth];rfl
@[go_sem] theorem Li (k raw : Nat) (ds rs : List D) : KW k raw H ds rs false = Sd k raw H ds rs := (rfl)
@[go_sem] theorem Lj (k raw : Nat) (ds : List D) : finish k (raw + 1) H ds = OU k (raw + 1) H ds ds := by
 simp only[finish,Nat.add_one_ne_zero,if_false,aLq,dZ,uJ,OU,KW]
 show(if(cz k 8 ds&&bN k (H.take k))=true then _ else _)=_
 cases (cz k 8 ds&&bN k (H.take k))<;>rfl
@[go_sem] theorem Hc (raw : Nat) (ds : List D) : cV H (raw + 1) ds = [] := by simp [cV]
@[go_sem] theorem SF : max 0 1 = 1 := (rfl)
@[go_sem] theorem VE (r : Nat) : max (r + 1) 1 = r + 1 := by omega
@[go_sem] theorem Lk : List.range 0 = [] := (rfl)
@[go_sem] theorem Ll : List.range 1 = [0] := (rfl)
@[go_sem] theorem Lm : List.range 2 = [0, 1] := (rfl)
@[go_sem] theorem Ln : List.range 3 = [0, 1, 2] := (rfl)
@[go_sem] theorem Lo : List.range 4 = [0, 1, 2, 3] := (rfl)
end
theorem uM{α:Type}(f:α→T)(l:List α)(i:Nat)(x:α)(y:D)(h:y= .t (f x)):((l.map f).map D.t).set i y=((l.set i x).map f).map D.t:=by
 rw[h,List.map_map,List.map_map]
 exact(List.map_set (f:=D.t ∘ f)).symm
@[go_sem] theorem Hd (l : List Int) (i : Nat) (k : IntKind) (x : Int) : ((l.map (T.int k)).map D.t).set i (.t (.int k x)) = ((l.set i x).map (T.int k)).map D.t := uM _ l i x _ rfl
@[go_sem] theorem SG (l : List Bool) (i : Nat) (x : Bool) : ((l.map T.bool).map D.t).set i (.t (.bool x)) = ((l.set i x).map T.bool).map D.t := uM _ l i x _ rfl
end Go.Ev
namespace Go.Ev
class Lib where
 fs:Nat→Option Fn
end Go.Ev
namespace Go.Ev.K
abbrev u(x:O):R:={ o:=x}
abbrev w(n:Nat)(x:O):R:={ o:=x,d:=some n}
abbrev y(n:Nat)(b:Bool)(x:O):R:={ o:=x,g:=some (n,b)}
abbrev m(x:X):R:={ o:= .mv x}
abbrev g(x:X):R:={ o:= .ld x 1 false}
abbrev h(n:Nat)(x:X):R:={ o:= .ld x n true}
abbrev f(n:Nat)(x:X):R:={ o:= .fa x n}
abbrev a(n:Nat)(x z:X):R:={ o:= .ia x z n}
abbrev l0:X:= .l 0
abbrev l1:X:= .l 1
abbrev l2:X:= .l 2
abbrev l3:X:= .l 3
abbrev l4:X:= .l 4
abbrev l5:X:= .l 5
abbrev l6:X:= .l 6
abbrev l7:X:= .l 7
abbrev l8:X:= .l 8
abbrev l9:X:= .l 9
abbrev l10:X:= .l 10
abbrev l11:X:= .l 11
abbrev v0:X:= .v 0
abbrev v1:X:= .v 1
abbrev v2:X:= .v 2
abbrev v3:X:= .v 3
abbrev v4:X:= .v 4
abbrev v5:X:= .v 5
abbrev v6:X:= .v 6
abbrev v7:X:= .v 7
abbrev v8:X:= .v 8
abbrev v9:X:= .v 9
abbrev v10:X:= .v 10
abbrev v11:X:= .v 11
abbrev v12:X:= .v 12
abbrev v13:X:= .v 13
abbrev v14:X:= .v 14
abbrev v15:X:= .v 15
abbrev v16:X:= .v 16
abbrev v17:X:= .v 17
abbrev v18:X:= .v 18
abbrev v19:X:= .v 19
abbrev v20:X:= .v 20
abbrev v21:X:= .v 21
abbrev v22:X:= .v 22
abbrev v23:X:= .v 23
end Go.Ev.K
namespace Go.Ev.K
abbrev q(a:List R)(p:List (Nat×Nat))(c:C):C:= .seq (.reg a p) c
abbrev z0:D:= .t (.int .i64 (0))
abbrev z1:D:= .t (.bool false)
abbrev x(n:Nat)(z:X):R:={ o:= .mv z,d:=some n}
abbrev e(n:Nat)(b:Bool)(z:X):R:={ o:= .mv z,g:=some (n,b)}
abbrev i(n:Nat)(b:Bool)(z:X):R:={ o:= .ld z 1 false,g:=some (n,b)}
end Go.Ev.K
namespace Go.Ev.N
def s6:Nat:=0
def Lp:Nat:=1
def He:Nat:=2
def Pc:Nat:=3
def AO:Nat:=4
def Lq:Nat:=5
def xt:Nat:=6
def yV:Nat:=7
def xv:Nat:=8
def AP:Nat:=9
def DT:Nat:=10
def wF:Nat:=11
def cA:Nat:=12
def AQ:Nat:=13
def yW:Nat:=14
def Ch:Nat:=15
def AR:Nat:=16
def Hf:Nat:=17
def DU:Nat:=18
def Hg:Nat:=19
def AS:Nat:=20
def Pd:Nat:=21
def DV:Nat:=22
def SI:Nat:=23
def DW:Nat:=24
def yX:Nat:=25
def AT:Nat:=26
def AU:Nat:=27
def Hh:Nat:=28
def Hi:Nat:=29
def Pe:Nat:=30
def Hj:Nat:=31
def Lr:Nat:=32
def Hk:Nat:=33
def DX:Nat:=34
def DY:Nat:=35
def Hl:Nat:=36
def Lt:Nat:=37
def Hm:Nat:=38
def yY:Nat:=39
def Lu:Nat:=40
def Hn:Nat:=41
def Lv:Nat:=42
def Ho:Nat:=43
def DZ:Nat:=44
def Pf:Nat:=45
def D0:Nat:=46
def Hp:Nat:=47
def AV:Nat:=48
def om:Nat:=49
def wG:Nat:=50
def pX:Nat:=51
def xw:Nat:=52
def AX:Nat:=53
def Lw:Nat:=54
def Lx:Nat:=55
def D1:Nat:=56
def Hq:Nat:=57
def Hr:Nat:=58
def Lz:Nat:=59
def Ht:Nat:=60
def LA:Nat:=61
def aP:Nat:=62
def LB:Nat:=63
def Hu:Nat:=64
def Hv:Nat:=65
def pc:Nat:=66
def rX:Nat:=67
def xx:Nat:=68
def iH:Nat:=69
def uN:Nat:=70
def dM:Nat:=71
def Hw:Nat:=72
def Hx:Nat:=73
def LC:Nat:=74
def jz:Nat:=75
def D2:Nat:=76
def LD:Nat:=77
end Go.Ev.N
namespace Go.Ev.K
open Go.Ev
def eR:C:= (.seq (.ite [m v3,m v0,u (.ln l0),u (.bin .lss l2 l0)] [] 0 .skip (.exit 0)) (.seq (.blk 1 (.ite [m v0,m v3,a 1 l1 l0,g l0,m v1,u (.bin .eql l1 l0)] [] 0 (q [x 2 (.b true)] [] .ret) .skip)) (.reg [m v3,u (.bin .add l0 (.i 1)),x 3 l0] [])))
def mJ:C:= .loop true [2] K.eR
def cA:Fn:= { dj:=2,vars:=[0,1,4,5],body:=(q [x 2 (.b false)] [] (.seq (q [x 3 (.i 0)] [] (.blk 0 K.mJ)) (q [x 2 (.b false)] [] .ret))),res:=[(2,none)]}
end Go.Ev.K
namespace Go.Ev
class aO [Lib]:Prop where
 jU:Lib.fs N.cA=some K.cA
namespace K
variable [Lib] [aO]
theorem jU:Lib.fs N.cA=some K.cA:=aO.jU
end K
end Go.Ev
namespace Go.Ev.K
open Go.Ev
def cY:C:= (.seq (.ite [m v3,m v0,u (.ln l0),u (.bin .lss l2 l0)] [] 0 .skip (.exit 0)) (.seq (.blk 1 (.ite [m v0,m v3,a 1 l1 l0,g l0,m v1,m v3,a 1 l1 l0,g l0,u (.bin .neq l4 l0)] [] 0 (q [x 2 (.b false)] [] .ret) .skip)) (.reg [m v3,u (.bin .add l0 (.i 1)),x 3 l0] [])))
def gr:C:= .loop true [2] K.cY
def aP:Fn:= { dj:=2,vars:=[0,1,4,5],body:=(q [x 2 (.b false)] [] (.seq (.ite [m v0,u (.ln l0),m v1,u (.ln l0),u (.bin .neq l2 l0)] [] 0 (q [x 2 (.b false)] [] .ret) .skip) (.seq (q [x 3 (.i 0)] [] (.blk 0 K.gr)) (q [x 2 (.b true)] [] .ret)))),res:=[(2,none)]}
def dM:Fn:= { dj:=3,vars:=[0,1,2,6],body:=(q [x 3 (.b false)] [] (q [m v0,m v1,u (.bin .geq l1 l0),m l0,e 0 true v0,e 1 true v2,y 2 true (.bin .leq l1 l0),u (.pk l3 l0 (.b false)),x 3 l0] [] .ret)),res:=[(3,none)]}
end Go.Ev.K
namespace Go.Ev
class aN [Lib]:Prop where
 eI:Lib.fs N.aP=some K.aP
 lR:Lib.fs N.dM=some K.dM
namespace K
variable [Lib] [aN]
theorem eI:Lib.fs N.aP=some K.aP:=aN.eI
theorem lR:Lib.fs N.dM=some K.dM:=aN.lR
end K
end Go.Ev
namespace Go.Ev
open Go
variable [Lib]
noncomputable def bD:ak:=eY Lib.fs
theorem bI{raw f:Nat}{args:List D}{H:ab}{fn:Fn}{r:D×ab}(hf:Lib.fs f=some fn)(hn:fn.dj=args.length)
 (h:(exS bD fn.body ⟨jt args fn.vars,H⟩).bind (Q6 fn.res H.length raw)=some r) (h0:fn.prim=[]:=by rfl):bD raw f args H=some r:=Gd hf hn h h0
theorem rz{raw f:Nat}{args:List D}{H:ab}{fn:Fn}{r:D×ab}(hf:Lib.fs f=some fn)(h0:fn.prim≠[])(h:lC fn.prim args H=some r):bD raw f args H=some r:=wx hf h0 h
theorem ea{gc:Bool}{dead:List Nat}{c:C}{vs:List D}{H:ab}(s:Nat→St)(n:Nat){e:Ex}{st:St}
 (h0:(⟨eo dead vs,H⟩:St)=s 0) (h:∀j,j<n→gq gc dead (s j).H.length (exS bD c (s j))=some (s (j+1)))
 (he:exS bD c (s n)=some (e,st)) (hn:e≠ .normal):exS bD (.loop gc dead c) ⟨vs,H⟩=some (e,st):=by
 show iD gc dead (exS bD c) ⟨eo dead vs,H⟩=_
 rw[h0]
 exact pT s n h (dB he hn)
class Dat (α:Type) where
 dflt:α
instance : Dat Int := ⟨0⟩
instance : Dat Nat := ⟨0⟩
instance : Dat Bool := ⟨false⟩
instance {α : Type} : Dat (List α) := ⟨[]⟩
def nth{α:Type} [Dat α](l:List α)(j:Nat):α:=l.getD j Dat.dflt
theorem fD{α:Type} [Dat α]{l:List α}{j:Nat}(h:j<l.length):l[j]?=some (nth l j):=by simp[nth,h]
theorem bB{α β:Type} [Dat α](f:α→β){l:List α}{j:Nat}(h:j<l.length):(l.map f)[j]?=some (f (nth l j)):=by rw[aLn,fD h];rfl
theorem pY{α β γ:Type} [Dat α](f:β→γ)(g:α→β){l:List α}{j:Nat}(h:j<l.length):((l.map g).map f)[j]?=some (f (g (nth l j))):=by rw[aLn,bB g h];rfl
theorem gM{α:Type} [Dat α]{l:List α}{j:Nat}(h:j<l.length):nth l j∈l:=aLd (fD h)
theorem kG{α:Type} [Dat α]{l:List α}{j:Nat}{x:α}(h:l[j]?=some x):nth l j=x:=by simp[nth,h]
theorem uO{α:Type} [Dat α]{l:List α}{j:Nat}(h:j<l.length):l.take (j+1)=l.take j++[nth l j]:=by
 rw[List.take_succ_eq_append_getElem h];simp[nth,h]
theorem VF{a b:Int}(h:a<b):(a<b)=True:=by simp[h]
theorem VG{a b:Int}(h:b≤a):(a<b)=False:=by simp[Int.not_lt.2 h]
theorem VH{a b:Int}(h:a≤b):(a≤b)=True:=by simp[h]
theorem VI{a b:Int}(h:b<a):(a≤b)=False:=by simp[Int.not_le.2 h]
theorem VJ{a b:Int}(h:a=b):(a=b)=True:=by simp[h]
theorem VK{a b:Int}(h:a≠b):(a=b)=False:=by simp[h]
theorem VL{a b:Nat}(h:a<b):(a<b)=True:=by simp[h]
theorem VM{a b:Nat}(h:b≤a):(a<b)=False:=by simp[Nat.not_lt.2 h]
theorem VN{a b:Nat}(h:a≤b):(a≤b)=True:=by simp[h]
theorem VO{a b:Nat}(h:b<a):(a≤b)=False:=by simp[Nat.not_le.2 h]
theorem VP{a b:Nat}(h:a=b):(a=b)=True:=by simp[h]
theorem VQ{a b:Nat}(h:a≠b):(a=b)=False:=by simp[h]
attribute [go_sem] VP VQ VF VG VH VI VJ VK VL VM VN VO bY bB pY Gu
@[go_sem] theorem LF (a b : Nat) : ((a + b : Nat) : Int) = (a : Int) + (b : Int) := (rfl)
@[go_sem] theorem LG : ((1 : Nat) : Int) = 1 := (rfl)
@[go_sem] theorem Hy : ((0 : Nat) : Int) = 0 := (rfl)
@[go_sem] theorem Pg (a b : Int) : a + b - b = a := Int.add_sub_cancel a b
@[go_sem] theorem D3 : (0 : Int).toNat = 0 := (rfl)
@[go_sem] theorem Hz (n : Nat) : (n : Int).toNat = n := (rfl)
@[go_sem] theorem HA (n : Nat) : ((n : Int) + 1).toNat = n + 1 := (rfl)
@[go_sem] theorem HB (a : Int) : 0 + a = a := Int.zero_add a
@[go_sem] theorem HC (a : Int) : a + 0 = a := Int.add_zero a
@[go_sem] theorem HD (a : Int) : a - 0 = a := Int.sub_zero a
abbrev tI(n:Int):T:= .int .i64 n
abbrev tL(l:List Int):T:= .sl (l.map (.int .i64))
@[go_sem] theorem Ci (H : ab) (n : Nat) (ts : List T) (x : T) : aB (frz H n) (ts.map .t ++ [.t x]) = some (ts ++ [x]) := by
 have:ts.map D.t++[.t x]=(ts++[x]).map .t:=by simp
 rw[this,wA]
@[go_sem] theorem D4 {α β : Type} (f : α → β) (a b : List α) : (a ++ b).map f = a.map f ++ b.map f := List.map_append
end Go.Ev
namespace Go.Ev
open Go
variable [Lib] [aO] [aN]
theorem dD{gc:Bool}{dead:List Nat}{c:C}{vs:List D}{H:ab}(s:Nat→St)(n:Nat)(p:Nat→Bool)(e:Nat→Ex×St)(eN:Ex×St)
 (h0:(⟨eo dead vs,H⟩:St)=s 0) (hs:∀j,j<n→p j=false→gq gc dead (s j).H.length (exS bD c (s j))=some (s (j+1)))
 (he:∀j,j<n→p j=true→exS bD c (s j)=some (e j)∧(e j).1≠ .normal) (hN:exS bD c (s n)=some eN) (hn:eN.1≠ .normal):
 exS bD (.loop gc dead c) ⟨vs,H⟩=some (match (List.range n).find? p with | some j=>e j | none=>eN):=by
 show iD gc dead (exS bD c) ⟨eo dead vs,H⟩=_
 rw[h0]
 cases hf:(List.range n).find? p with
 | none=>
   refine pT s n (fun j hj=>hs j hj ?_) (dB hN hn)
   have:=List.find?_eq_none.1 hf j (aLu.2 hj)
   simpa using this
 | some k=>
   obtain⟨h1,as,bs,h2,h3⟩:=List.find?_eq_some_iff_append.1 hf
   have hk:k<n:=aLu.1 (List.mem_of_find?_eq_some hf)
   have hlt:∀j,j<k→p j=false:=by
    intro j hj
    have hlen:as.length=k:=by
     have h4:(List.range n)[as.length]?=some k:=by rw[h2];simp
     have h5:as.length<n:=by
      have:=congrArg List.length h2;simp at this;omega
     rw[aLp h5]at h4
     exact Option.some.inj h4
    have:j∈as:=by
     have h6:(List.range n)[j]?=some j:=aLp (by omega)
     rw[h2,aLg (by omega)]at h6
     exact aLd h6
    simpa using h3 j this
   obtain⟨k1,k2⟩:=he k hk h1
   exact pT s k (fun j hj=>hs j (by omega) (hlt j hj)) (dB k1 k2)
def uP{α:Type}(f:α→α×Bool):Nat→α→α
 | 0,l=>l
 | n+1,l=>if(f l).2 then uP f n (f l).1 else(f l).1
def Cj(m:Nat):List D:=(List.range m).map fun i=> .bp i 0
def fE(bs:List (List T)):ab:=bs.map fun cs=> .box (cs.map .t)
theorem dh(bs:List (List T)):(fE bs).length=bs.length:=by simp[fE]
theorem dE:∀(l:List Nat) (i k:Nat),l.Nodup→l[k]?=some i→idxOf l i=some k
 | [],i,k,_,h=>by simp at h
 | a::l,i,0,_,h=>by simp at h;simp[idxOf,h]
 | a::l,i,k+1,hn,h=>by
   simp at h
   have hne:a≠i:=fun e=>(List.nodup_cons.1 hn).1 (e▸aLd h)
   simp only[idxOf,if_neg hne,dE l i k (List.nodup_cons.1 hn).2 h,aLw]
theorem pZ{α:Type}{f:α→Option α}:∀ {l:List α},(∀x∈l,f x=some x)→aB f l=some l
 | [],_=>rfl
 | a::l,h=>by
   simp only[aB,h a List.mem_cons_self,aLq,pZ fun x hx=>h x (List.mem_cons_of_mem _ hx),aLw]
theorem m8{α β:Type}{f:α→Option β}:∀ {a b:List α} {x y:List β},aB f a=some x→aB f b=some y→aB f (a++b)=some (x++y)
 | [],b,x,y,h1,h2=>by simp[aB]at h1;subst h1;exact h2
 | c::a,b,x,y,h1,h2=>by
   simp only[aB,aLa,aLb]at h1
   obtain⟨z,hz,r,hr,rfl⟩:=h1
   simp only[List.cons_append,aB,hz,aLq,m8 hr h2,aLw]
section
variable (bs : List (List T)) (o o' : Obj)
@[go_sem] theorem Ck : (fE bs).length = bs.length := dh bs
@[go_sem] theorem LH : (fE bs ++ [o])[bs.length]? = some o := by
 rw[aLh (by rw[dh];exact aLs _),dh];simp
@[go_sem] theorem Ph : (fE bs ++ [o]).set bs.length o' = fE bs ++ [o'] := by
 rw[List.set_append_right _ _ (by rw[dh];exact aLs _),dh];simp
@[go_sem] theorem LI : (fE bs ++ [o]).take bs.length = fE bs := by
 rw[List.take_append_of_le_length (by rw[dh];exact aLs _),List.take_of_length_le (by rw[dh];exact aLs _)]
@[go_sem] theorem HE : (fE bs ++ [o]).take (bs.length + 1) = fE bs ++ [o] := List.take_of_length_le (by simp [dh])
@[go_sem] theorem HF : (fE bs).take bs.length = fE bs := List.take_of_length_le (by simp [dh])
@[go_sem] theorem HG (k : Nat) (a b : ab) : bN k (a ++ b) = (bN k a && bN k b) := by
 rw[← dZ,←dZ,←dZ,List.all_append]
@[go_sem] theorem Cl (k : Nat) : bN k (fE bs) = true := by
 induction bs with
 | nil=>rfl
 | cons b r ih=>
   show(cz k 8 (b.map .t)&&bN k (fE r))=true
   rw[uI,ih];rfl
@[go_sem] theorem SJ (n : Nat) : ltB n (n + 1) = true := by rw [di]; simp
@[go_sem] theorem SK (n : Nat) : ltB n n = false := by rw [di]; simp
theorem mK(k n m:Nat)(h:m≤k):cz k n (Cj m)=true:=by
 unfold cz Cj
 rw[aLx]
 intro d hd
 obtain⟨i,hi,rfl⟩:=List.mem_map.1 hd
 rw[ON,di]
 have:=aLu.1 hi
 simp;omega
@[go_sem] theorem HH (n m : Nat) : cz m n (Cj m) = true := mK _ _ _ (aLs _)
@[go_sem] theorem D5 (n m : Nat) : cz (m + 1) n (Cj m) = true := mK _ _ _ (Nat.le_succ _)
end
end Go.Ev
namespace Go.Ev
open Go
variable [Lib] [aO] [aN]
theorem dF{α:Type}(sz:Nat)(f:α→T)(h:∀a,fJ sz (f a).cells=true):∀l:List α,aI sz (l.map f)=true
 | []=>rfl
 | a::l=>by rw[List.map_cons,kD,h,dF sz f h l];rfl
@[go_sem] theorem D6 (k : IntKind) (l : List Int) : aI 1 (l.map (.int k)) = true := dF 1 _ (fun _ => rfl) l
theorem kH(sz:Nat):∀ts:List T,(ts.all fun e=>e.cells.length==sz)=aI sz ts
 | []=>rfl
 | t::ts=>by
   rw[List.all_cons,kD,kH sz ts]
   congr 1
   rw[Bool.eq_iff_iff,b9];simp
section
variable (H : ab) (sz : Nat) (ts : List T) (i j : Int)
@[go_sem] theorem VR : rj H sz (some (.t (.sl ts))) (some none) (some (some i)) = if 0 ≤ i then (if i ≤ ts.length then (if aI sz ts = true then some (.t (.sl (ts.take i.toNat)), H) else none) else none) else none := by
 simp only[rj,aLq,fA,bound,kH,idx]
 by_cases h1:0≤i
 · rw[if_pos h1,if_pos h1,aLq]
   by_cases h2:i≤ts.length
   · rw[if_pos h2]
     by_cases h3:aI sz ts=true
     · rw[if_pos h3,if_pos ⟨by omega,by omega,h3⟩];rfl
     · rw[if_neg h3,if_neg fun h=>h3 h.2.2];rfl
   · rw[if_neg h2,if_neg fun h=>h2 (by omega)];rfl
 · rw[if_neg h1,if_neg h1];rfl
@[go_sem] theorem VS : rj H sz (some (.t (.sl ts))) (some (some i)) (some none) = if 0 ≤ i then (if i ≤ ts.length then (if aI sz ts = true then some (.t (.sl (ts.drop i.toNat)), H) else none) else none) else none := by
 simp only[rj,aLq,fA,bound,kH,idx]
 by_cases h1:0≤i
 · rw[if_pos h1,if_pos h1,aLq]
   by_cases h2:i≤ts.length
   · rw[if_pos h2]
     by_cases h3:aI sz ts=true
     · rw[if_pos h3,if_pos ⟨by omega,by omega,h3⟩,List.take_of_length_le (by simp)];rfl
     · rw[if_neg h3,if_neg fun h=>h3 h.2.2];rfl
   · rw[if_neg h2,if_neg fun h=>h2 (by omega)];rfl
 · rw[if_neg h1,if_neg h1];rfl
@[go_sem] theorem Pj : rj H sz (some (.t (.sl ts))) (some (some i)) (some (some j)) = if 0 ≤ i then (if i ≤ j then (if j ≤ ts.length then (if aI sz ts = true then some (.t (.sl ((ts.drop i.toNat).take (j.toNat - i.toNat))), H) else none) else none) else none) else none := by
 simp only[rj,aLq,fA,bound,kH,idx]
 by_cases h1:0≤i
 · rw[if_pos h1,if_pos h1,aLq]
   by_cases h0:i≤j
   · rw[if_pos h0,if_pos (by omega:0≤j),aLq]
     by_cases h2:j≤ts.length
     · rw[if_pos h2]
       by_cases h3:aI sz ts=true
       · rw[if_pos h3,if_pos ⟨by omega,by omega,h3⟩];rfl
       · rw[if_neg h3,if_neg fun h=>h3 h.2.2];rfl
     · rw[if_neg h2,if_neg fun h=>h2 (by omega)];rfl
   · rw[if_neg h0]
     by_cases h2:0≤j
     · rw[if_pos h2,aLq,if_neg fun h=>h0 (by omega)];rfl
     · rw[if_neg h2];rfl
 · rw[if_neg h1,if_neg h1];rfl
end
def bsK(H:ab)(l:List Nat):Option T→Option (D×ab)
 | some t=>some (.t (.sl [t]),pins H l)
 | none=>none
@[go_sem] theorem SL (H : ab) (l : List Nat) (t : T) : bsK H l (some t) = some (.t (.sl [t]), pins H l) := (rfl)
@[go_sem] theorem SM (H : ab) (sz : Nat) (cs : List D) : pb H sz [.agg cs] = if fJ sz cs = true then bsK H (bF H 8 (.agg cs)) (frz H 8 (.agg cs)) else none := by
 simp only[pb,List.all_cons,List.all_nil,Bool.and_true,D.cells]
 by_cases h:fJ sz cs=true
 · rw[if_pos h,if_pos (by simpa using b9.1 h)]
   simp only[aB,depth,List.flatMap_cons,List.flatMap_nil,List.append_nil]
   cases frz H 8 (.agg cs)<;>rfl
 · rw[if_neg h,if_neg (by intro e;exact h (b9.2 (by simpa using e)))]
@[go_sem] theorem SN (H : ab) (id ep n : Nat) : pb H 1 [.ref id ep n] = bsK H (bF H 8 (.ref id ep n)) (frz H 8 (.ref id ep n)) := by
 simp only[pb,List.all_cons,List.all_nil,Bool.and_true,D.cells,List.length_cons,List.length_nil,beq_self_eq_true,if_true,aB,depth,List.flatMap_cons,List.flatMap_nil,List.append_nil]
 cases frz H 8 (.ref id ep n)<;>rfl
def HI(H:ab)(r:D)(os:ab):D×ab:=(r,H++os)
@[go_sem] theorem SO (H : ab) (r : D) (os : ab) : HI H r os = (r, H ++ os) := (rfl)
def Pk(H:ab)(os:ab)(r:D):Option (D×ab):=(aB (aS (aM [] H.length)) os).map (HI H r)
@[go_sem] theorem SP (H : ab) (os : ab) (r : D) : Pk H os r = (aB (aS (aM [] H.length)) os).map (HI H r) := (rfl)
@[go_sem] theorem Pl (H : ab) (r : D) (o : Obj) (os : ab) : jT H (r, o :: os) = (ren (aM [] H.length) 8 r).bind (Pk H (o :: os)) := by
 simp only[jT,List.isEmpty_cons,Bool.and_false,aLt,if_false]
 rfl
end Go.Ev
namespace Go.Ev
open Go
variable [Lib] [aO] [aN]
@[go_sem] theorem VT (H : ab) (a b : List T) : pb H 1 [.t (.sl a), .t (.sl b), .nil] = some (.t (.sl [.sl a, .sl b, .sl []]), H) := by
 simp only[pb,List.all_cons,List.all_nil,D.cells,T.cells,List.map_cons,List.map_nil,List.length_cons,List.length_nil,aB,frz,depth,bF,List.flatMap_cons,List.flatMap_nil,pins]
 rfl
def Cm(c:Bool):Option Bool→Option Bool
 | some d=>some (c&&d)
 | none=>none
@[go_sem] theorem LJ (c d : Bool) : Cm c (some d) = some (c && d) := (rfl)
@[go_sem] theorem LK : eL [] [] = some true := (rfl)
@[go_sem] theorem HJ (k : IntKind) (a b : Int) (xs ys : List T) : eL (.int k a :: xs) (.int k b :: ys) = Cm (decide (a = b)) (eL xs ys) := by
 simp only[eL,if_true,NI]
 cases eL xs ys<;>rfl
def Cn(H:ab)(neg:Bool):Option Bool→Option (D×ab)
 | some r=>some (.t (.bool (bif neg then !r else r)),H)
 | none=>none
@[go_sem] theorem LL (H : ab) (r : Bool) : Cn H true (some r) = some (.t (.bool (!r)), H) := (rfl)
@[go_sem] theorem HK (H : ab) (r : Bool) : Cn H false (some r) = some (.t (.bool r), H) := (rfl)
@[go_sem] theorem HL (H : ab) (n : Nat) (neg : Bool) (xs ys : List T) : gK H (.ints n) neg (some (.t (.agg xs))) (some (.t (.agg ys))) = if xs.length = n then Cn H neg (eL xs ys) else none := by
 simp only[gK,aLq,Dw,eqD]
 by_cases h:xs.length=n
 · simp only[if_pos h]
   cases eL xs ys with
   | none=>rfl
   | some r=>cases neg<;>rfl
 · simp only[if_neg h];rfl
@[go_sem] theorem LM : ((2 : Nat) : Int) = 2 := (rfl)
@[go_sem] theorem D7 : ((3 : Nat) : Int) = 3 := (rfl)
end Go.Ev
namespace Go.Ev
open Go
instance : Dat (List Int) := ⟨[]⟩
def LU(p:Nat→Prop) [DecidablePred p](G:List (List Int)):Nat→List Int
 | 0=>[]
 | m+1=>LU p G m++if p m then nth G m else []
theorem jA{p:Nat→Prop} [DecidablePred p]{G:List (List Int)}{i:Int}:∀ {m:Nat},i∈LU p G m↔∃n,n<m∧p n∧i∈nth G n
 | 0=>by simp[LU]
 | m+1=>by
   rw[LU,List.mem_append,jA]
   constructor
   · rintro (⟨n,a,b,c⟩ | h)
     · exact⟨n,by omega,b,c⟩
     · split at h
       · rename_i hp;exact⟨m,by omega,hp,h⟩
       · simp at h
   · rintro ⟨n,a,b,c⟩
     by_cases e:n=m
     · subst e;right;rw[if_pos b];exact c
     · exact .inl ⟨n,by omega,b,c⟩
theorem kI(p:Nat→Prop) [DecidablePred p](G:List (List Int)):∀m,(LU (fun _=>True) G m).length=(LU p G m).length+(LU (fun n=>¬p n) G m).length
 | 0=>rfl
 | m+1=>by
   have ih:=kI p G m
   simp only[LU,aLv,if_true]
   by_cases h:p m
   · simp only[h,if_true,not_true_eq_false,if_false,List.length_nil];omega
   · simp only[h,if_false,not_false_eq_true,if_true,List.length_nil];omega
theorem Pm{p:Nat→Prop} [DecidablePred p]{G G2:List (List Int)}:∀m,(∀n,n<m→p n→(nth G2 n).length≤(nth G n).length)→(LU p G2 m).length≤(LU p G m).length
 | 0,_=>aLs _
 | m+1,h=>by
   have ih:=Pm m fun n hn hp=>h n (by omega) hp
   simp only[LU,aLv]
   split
   · rename_i hp;have:=h m (by omega) hp;omega
   · simpa using ih
theorem uQ(p:Nat→Prop) [DecidablePred p](G:List (List Int)):∀m,List.Sublist (LU p G m) (LU (fun _=>True) G m)
 | 0=>List.Sublist.refl _
 | m+1=>by
   have ih:=uQ p G m
   simp only[LU,if_true]
   refine List.Sublist.append ih ?_
   split
   · exact List.Sublist.refl _
   · exact List.nil_sublist _
abbrev kJ(G:List (List Int)):List Int:=LU (fun _=>True) G G.length
theorem bK:∀ {a b:List Int},a.Nodup→(∀x∈a,x∈b)→a.length≤b.length
 | [],b,_,_=>Nat.zero_le _
 | x::a,b,h,hs=>by
   obtain⟨h1,h2⟩:=List.nodup_cons.1 h
   obtain⟨s,t,rfl⟩:=List.append_of_mem (hs x List.mem_cons_self)
   have:=bK (a:=a) (b:=s++t) h2 fun y hy=>by
    have:=hs y (List.mem_cons_of_mem _ hy)
    rw[List.mem_append,List.mem_cons]at this
    rcases this with k | k | k
    · exact List.mem_append.2 (.inl k)
    · subst k;exact absurd hy h1
    · exact List.mem_append.2 (.inr k)
   simp only[aLv,List.length_cons]at this ⊢
   omega
structure GI(W:List (List Int))(S:List Int)(G:List (List Int)):Prop where
 len:G.length=S.length
 cap:∀n,n<S.length→nth G n≠[]→((nth G n).length:Int)≤nth S n
 wnt:∀n,n<S.length→∀i∈nth G n,0≤i∧i<W.length∧(n:Int)∈nth W i.toNat
structure HM(W:List (List Int))(S:List Int)(G:List (List Int)):Prop extends GI W S G where
 nd:(kJ G).Nodup
def yZ(W:List (List Int))(S:List Int)(c:Nat):Prop:=(∃G,HM W S G∧(kJ G).length=c)∧∀G,HM W S G→(kJ G).length≤c
def Clo(W:List (List Int))(S:List Int)(G:List (List Int))(U:Nat→Prop):Prop:=
 ∀n,n<S.length→U n→nth S n≤(nth G n).length∧∀i∈nth G n,∀x:Nat,x<S.length→(x:Int)∈nth W i.toNat→U x
def p4(W:List (List Int))(S:List Int)(i:Int)(U:Nat→Prop):Prop:=∀x:Nat,x<S.length→(x:Int)∈nth W i.toNat→U x
theorem HN{W:List (List Int)}{S:List Int}{G:List (List Int)}(h:HM W S G){U:Nat→Prop} [DecidablePred U](hc:Clo W S G U)(hf:∀i:Nat,i<W.length→(i:Int)∈kJ G∨p4 W S i U):yZ W S (kJ G).length:=by
 refine⟨⟨G,h,rfl⟩,fun G2 h2=>?_⟩
 have l1:=h.len
 have l2:=h2.len
 unfold kJ
 rw[kI U G2,kI U G,l1,l2]
 have a1:(LU U G2 S.length).length≤(LU U G S.length).length:=Pm _ fun n hn hu=>by
  by_cases e:nth G2 n=[]
  · rw[e];exact Nat.zero_le _
  · have:=h2.cap n hn e
    have:=(hc n hn hu).1
    omega
 have nd:=(h2.nd.sublist (by unfold kJ;exact uQ (fun n=>¬U n) G2 G2.length))
 rw[l2]at nd
 have a2:(LU (fun n=>¬U n) G2 S.length).length≤(LU (fun n=>¬U n) G S.length).length:=bK nd fun i hi=>by
  obtain⟨n,hn,hu,hm⟩:=jA.1 hi
  obtain⟨w1,w2,w3⟩:=h2.wnt n hn i hm
  have ei:((i.toNat:Nat):Int)=i:=Int.toNat_of_nonneg w1
  have no:¬p4 W S i U:=fun hw=>hu (hw n hn w3)
  rcases hf i.toNat (by omega)with k | k
  · rw[ei]at k
    obtain⟨m,hm1, -,hm2⟩:=jA.1 k
    refine jA.2 ⟨m,by omega,fun um=>?_,hm2⟩
    exact no fun x hx hw=>(hc m (by omega) um).2 i hm2 x hx hw
  · rw[ei]at k
    exact absurd k no
 omega
end Go.Ev
namespace Go.Ev
open Go
theorem y4(G:List (List Int)):∀m,m≤G.length→LU (fun _=>True) G m=(G.take m).flatten
 | 0,_=>rfl
 | m+1,h=>by
   have e:G[m]?=some (nth G m):=by
    have hm:m<G.length:=by omega
    unfold nth
    rw[aLl,aLc hm];rfl
   rw[LU,y4 G m (by omega),if_pos trivial,List.take_add_one,e]
   simp
theorem iI(G:List (List Int)):kJ G=G.flatten:=by
 unfold kJ
 rw[y4 G _ (aLs _),List.take_length]
theorem Pn{W:List (List Int)}{S:List Int}{G:List (List Int)}{U V:Nat→Prop}(h:Clo W S G U)(g:Clo W S G V):Clo W S G (fun n=>U n∨V n):=by
 intro n hn hu
 rcases hu with a | a
 · obtain⟨p,q⟩:=h n hn a
   exact⟨p,fun i hi x hx hw=> .inl (q i hi x hx hw)⟩
 · obtain⟨p,q⟩:=g n hn a
   exact⟨p,fun i hi x hx hw=> .inr (q i hi x hx hw)⟩
structure fN(W:List (List Int))(S:List Int)(G:List (List Int))(i:Int)(T:Nat→Bool)(G2:List (List Int)):Prop where
 gi:GI W S G2
 pm:(kJ G2).Perm (i::kJ G)
 old:∀n,T n=true→nth G2 n=nth G n
 clo:∀U:Nat→Prop,Clo W S G U→(∀n,n<S.length→U n→nth G2 n=nth G n)∧¬p4 W S i U
structure oo(W:List (List Int))(S:List Int)(G:List (List Int))(i:Int)(T T2:Nat→Bool):Prop where
 sub:∀n,T n=true→T2 n=true
 clo:∀n,n<S.length→T2 n=true→T n=false→nth S n≤(nth G n).length∧∀j∈nth G n,p4 W S j fun x=>T2 x=true
 wnt:p4 W S i fun x=>T2 x=true
structure MI(W:List (List Int))(S:List Int)(G:List (List Int))(j c:Nat)(U:Nat→Prop):Prop where
 st:HM W S G
 lt:∀i∈kJ G,i<j
 cnt:(kJ G).length=c
 clo:Clo W S G U
 out:∀i:Nat,i<j→(i:Int)∈kJ G∨p4 W S i U
theorem MI.ok{W:List (List Int)}{S:List Int}{G G2:List (List Int)}{j c:Nat}{U:Nat→Prop}{T:Nat→Bool}(h:MI W S G j c U)(p:fN W S G j T G2):MI W S G2 (j+1) (c+1) U:=by
 obtain⟨k1,k2⟩:=p.clo U h.clo
 have nd:(kJ G2).Nodup:=by
  rw[p.pm.nodup_iff,List.nodup_cons]
  refine⟨fun hm=>?_,h.st.nd⟩
  have:=h.lt _ hm
  omega
 refine⟨⟨p.gi,nd⟩,fun i hi=>?_,by rw[p.pm.length_eq,List.length_cons,h.cnt],fun n hn hu=>?_,fun i hi=>?_⟩
 · rcases List.mem_cons.1 (p.pm.mem_iff.1 hi)with e | e
   · omega
   · have:=h.lt i e;omega
 · rw[k1 n hn hu];exact h.clo n hn hu
 · by_cases e:i=j
   · subst e;exact .inl (p.pm.mem_iff.2 List.mem_cons_self)
   · rcases h.out i (by omega)with a | a
     · exact .inl (p.pm.mem_iff.2 (List.mem_cons_of_mem _ a))
     · exact .inr a
theorem MI.no{W:List (List Int)}{S:List Int}{G:List (List Int)}{j c:Nat}{U:Nat→Prop}{T T2:Nat→Bool}(h:MI W S G j c U)(h0:∀n,T n=false)(p:oo W S G j T T2):MI W S G (j+1) c (fun n=>U n∨T2 n=true):=by
 refine⟨h.st,fun i hi=>by have:=h.lt i hi;omega,h.cnt,Pn h.clo (fun n hn hu=>?_),fun i hi=>?_⟩
 · exact p.clo n hn hu (h0 n)
 · by_cases e:i=j
   · subst e;exact .inr fun x hx hw=> .inr (p.wnt x hx hw)
   · rcases h.out i (by omega)with a | a
     · exact .inl a
     · exact .inr fun x hx hw=> .inl (a x hx hw)
open Classical in
theorem MI.YH{W:List (List Int)}{S:List Int}{G:List (List Int)}{c:Nat}{U:Nat→Prop}(h:MI W S G W.length c U):yZ W S c:=by
 rw[← h.cnt]
 exact HN h.st h.clo h.out
theorem MI.zero(W:List (List Int))(S:List Int):MI W S (List.replicate S.length []) 0 0 (fun _=>False):=by
 have e:kJ (List.replicate S.length ([]:List Int))=[]:=by rw[iI];simp
 have nn:∀n,nth (List.replicate S.length ([]:List Int)) n=[]:=fun n=>by
  unfold nth
  rw[aLl,List.getElem?_replicate]
  split<;>rfl
 refine⟨⟨⟨by simp,fun n hn hne=>absurd (nn n) hne,fun n hn i hi=>by rw[nn n]at hi;simp at hi⟩,by rw[e];simp⟩,by rw[e];simp,by rw[e];rfl,fun n hn hu=>hu.elim,fun i hi=>absurd hi (by omega)⟩
end Go.Ev
namespace Go.Ev
open Go
variable [Lib] [aO] [aN]
def Mod(n m:Int):Int:=if m<1 then 0 else if n.tmod m<0 then n.tmod m+m else n.tmod m
structure bW where
 L:List Int
 at_:Nat
def bW.obj(d:bW):Obj:= .box [.t (tL d.L),I d.at_]
def bW.next(d:bW)(n:Int):Int×bW:=if d.at_<d.L.length then(Mod (nth d.L d.at_) n,⟨d.L,d.at_+1⟩)else(0,d)
@[go_sem] theorem SQ (d : bW) : uL (some d.obj) = [] := by simp only [bW.obj, go_sem]
@[go_sem] theorem SR (f : Nat → Option Nat) (d : bW) : aS f d.obj = some d.obj := by simp only [bW.obj, go_sem]
@[go_sem] theorem SS (k : Nat) (d : bW) (r : ab) : bN k (d.obj :: r) = bN k r := by simp only [bW.obj, go_sem]
def bW.one(d:bW)(n:Int):Bool×bW:=(decide ((d.next n).1=n-1),(d.next n).2)
def bW.of(d:bW)(l:List Int):Int×bW:=(nth l (d.next l.length).1.toNat,(d.next l.length).2)
def bW.wH(d:bW):Nat→List Int×bW
 | 0=>([],d)
 | k+1=>(if((d.wH k).2.next 3).1=0 then(d.wH k).1++[(k:Int)]else(d.wH k).1,((d.wH k).2.next 3).2)
structure Place where
 h:Int
 surf:Bool
instance : Dat Place := ⟨⟨0, false⟩⟩
abbrev Place.e(p:Place):T:= .agg [tI p.h,.bool p.surf]
structure Road where
 frm:Int
 to:Int
 len:Int
 area:Int
 walk:Bool
 closed:Bool
 restL:Int
 restH:Int
 liftL:Int
 liftH:Int
instance : Dat Road := ⟨⟨0, 0, 0, 0, false, false, 0, 0, 0, 0⟩⟩
abbrev Road.e(r:Road):T:= .agg [tI r.frm,tI r.to,tI r.len,tI r.area,.bool r.walk,.bool r.closed,tI r.restL,tI r.restH,tI r.liftL,tI r.liftH]
structure bX where
 aZ:List Place
 roads:List Road
instance : Dat bX := ⟨⟨[], []⟩⟩
abbrev bX.e(m:bX):T:= .agg [.sl (m.aZ.map Place.e),.sl (m.roads.map Road.e)]
structure Road.ok(n:Nat)(r:Road):Prop where
 f0:0≤r.frm
 f1:r.frm<n
 t0:0≤r.to
 t1:r.to<n
 ne:r.frm≠r.to
 l0:1≤r.len
 l1:r.len≤100000
 a0:1≤r.area
 a1:r.area≤1000
 r0:1≤r.restL
 r1:r.restL≤r.restH
 r2:r.restH≤262144
 i0: -2199023255552≤r.liftL
 i1:r.liftL≤r.liftH
 i2:r.liftH≤2199023255552
structure bX.ok(m:bX):Prop where
 np:m.aZ.length≤64
 nr:m.roads.length≤128
 hs:∀p∈m.aZ, -10000≤p.h∧p.h≤10000
 rs:∀r∈m.roads,r.ok m.aZ.length
theorem HO{l:List Int}{p:Int→Bool}:((List.range l.length).find? fun j=>p (nth l j)).isSome=l.any p:=by
 rw[List.isSome_find?,Bool.eq_iff_iff,List.any_eq_true,List.any_eq_true]
 constructor
 · rintro ⟨j,hj,h⟩
   exact⟨_,gM (aLu.1 hj),h⟩
 · rintro ⟨x,hx,h⟩
   obtain⟨j,hj⟩:=aLf.1 hx
   exact⟨j,aLu.2 (aLe.1 hj).1,by rw[kG hj];exact h⟩
theorem y5(l:List Int)(x:Int)(hl:l.length≤4294967296):bD 0 N.cA [.t (tL l),I x] []=some (B (decide (x∈l)),[]):=by
 refine bI K.jU rfl ?_
 have loop:∀a:D,exS bD K.mJ ⟨[.t (tL l),I x,a,I 0],[]⟩=
  some (match (List.range l.length).find? (fun j=>decide (nth l j=x))with
   | some j=>(.ret,⟨[.t (tL l),I x,B true,I j],[]⟩)
   | none=>(.exit 0,⟨[.t (tL l),I x,.und,I l.length],[]⟩)):=by
  intro a
  refine dD (fun j=>⟨[.t (tL l),I x,.und,I j],[]⟩) l.length (fun j=>decide (nth l j=x)) _ _ rfl ?_ ?_ ?_ (by simp)
  · intro j hj hp
    have hp:¬nth l j=x:=of_decide_eq_false hp
    simp(disch:=omega)only[go_sem,K.eR,↓reduceIte]
  · intro j hj hp
    have hp:nth l j=x:=of_decide_eq_true hp
    simp(disch:=omega)only[go_sem,K.eR,↓reduceIte,hp]
    simp
  · simp(disch:=omega)only[go_sem,K.eR,↓reduceIte]
 have e:=HO (l:=l) (p:=fun y=>decide (y=x))
 have e2:l.any (fun y=>decide (y=x))=decide (x∈l):=by rw[Bool.eq_iff_iff];simp
 rw[e2]at e
 simp only[go_sem,K.cA,↓reduceIte,loop]
 cases hf:(List.range l.length).find? (fun j=>decide (nth l j=x))with
 | some j=>rw[hf]at e;simp(disch:=omega)only[go_sem,↓reduceIte,←e]
 | none=>rw[hf]at e;simp(disch:=omega)only[go_sem,↓reduceIte,←e,Option.isSome_none]
theorem y6(a b:List Int)(hl:a.length≤4294967296):bD 0 N.aP [.t (tL a),.t (tL b)] []=some (B (decide (a=b)),[]):=by
 refine bI K.eI rfl ?_
 by_cases hlen:a.length=b.length
 · have loop:∀c:D,exS bD K.gr ⟨[.t (tL a),.t (tL b),c,I 0],[]⟩=
    some (match (List.range a.length).find? (fun j=>decide (nth a j≠nth b j))with
     | some j=>(.ret,⟨[.t (tL a),.t (tL b),B false,I j],[]⟩)
     | none=>(.exit 0,⟨[.t (tL a),.t (tL b),.und,I a.length],[]⟩)):=by
    intro c
    refine dD (fun j=>⟨[.t (tL a),.t (tL b),.und,I j],[]⟩) a.length (fun j=>decide (nth a j≠nth b j)) _ _ rfl ?_ ?_ ?_ (by simp)
    · intro j hj hp
      have hp:nth a j=nth b j:=by simpa using hp
      simp(disch:=omega)only[go_sem,K.cY,↓reduceIte]
    · intro j hj hp
      have hp:nth a j≠nth b j:=by simpa using hp
      simp(disch:=omega)only[go_sem,K.cY,↓reduceIte]
      simp
    · simp(disch:=omega)only[go_sem,K.cY,↓reduceIte]
   have e:(a=b)↔(List.range a.length).find? (fun j=>decide (nth a j≠nth b j))=none:=by
    rw[List.find?_eq_none]
    constructor
    · intro h j _;simp[h]
    · intro h
      apply List.ext_getElem?
      intro j
      by_cases hj:j<a.length
      · rw[fD hj,fD (by omega)]
        have:=h j (aLu.2 hj)
        simpa using this
      · rw[aLm (by omega),aLm (by omega)]
   simp(disch:=omega)only[go_sem,K.aP,↓reduceIte,loop]
   cases hf:(List.range a.length).find? (fun j=>decide (nth a j≠nth b j))with
   | some j=>rw[hf]at e;simp(disch:=omega)only[go_sem,↓reduceIte,e];simp
   | none=>rw[hf]at e;simp(disch:=omega)only[go_sem,↓reduceIte,e]
 · have hne:a≠b:=fun h=>hlen (by rw[h])
   simp(disch:=omega)only[go_sem,K.aP,↓reduceIte,hne]
def Co(l:List Int)(n:Int):Bool:=(List.range l.length).all fun j=>decide (0≤nth l j∧nth l j<n∧(0<j→nth l (j-1)<nth l j))
theorem Po(x lo hi:Int):bD 0 N.dM [I x,I lo,I hi] []=some (B (decide (lo≤x∧x≤hi)),[]):=by
 refine bI K.lR rfl ?_
 by_cases h1:lo≤x<;>by_cases h2:x≤hi<;>simp(disch:=omega)only[go_sem,K.dM,↓reduceIte]
def HP(m:bX)(k:Nat)(back:Bool)(up down level:Int):Int:=
 let x:=nth m.roads k
 if x.closed=true∨x.walk=false then -1 else
 let a:=if back then x.to else x.frm
 let b:=if back then x.frm else x.to
 let rise:=(nth m.aZ b.toNat).h-(nth m.aZ a.toNat).h
 let speed:=if -10*rise>x.len then down else if 10*rise>x.len then up else level
 (10*x.len+speed-1).tdiv speed
def bnd(l:List Int):Prop:=∀x∈l,0≤x∧x≤1099511627776
def D8(l:List Int)(p q:Nat)(walk t:Int):Bool:=
 decide (0≤walk)&&decide (nth l p<1099511627776)&&decide (max t (nth l p+walk)≤2147483648)&&decide (max t (nth l p+walk)<nth l q)
def Pp(l:List Int)(p q:Nat)(walk t:Int):List Int:=if D8 l p q walk t=true then l.set q (max t (nth l p+walk))else l
def YI(into:Option (List Int))(p:Int):Bool:=match into with
 | none=>true
 | some l=>decide (p∈l)
def Pq(into:Option (List Int)):D:=match into with
 | none=> .nil
 | some l=> .t (tL l)
def Road.src(r:Road)(back:Bool):Int:=if back then r.to else r.frm
def Road.dst(r:Road)(back:Bool):Int:=if back then r.frm else r.to
theorem Road.qO{n:Nat}{r:Road}(h:r.ok n)(back:Bool):0≤r.src back∧r.src back<n:=by
 unfold Road.src;have:=h.f0;have:=h.f1;have:=h.t0;have:=h.t1;cases back<;>simp<;>omega
def Pr(m:bX)(t:Int)(into:Option (List Int))(k:Nat)(back:Bool)(l:List Int):List Int×Bool:=
 if YI into ((nth m.roads k).dst back)=true then
  (Pp l ((nth m.roads k).src back).toNat ((nth m.roads k).dst back).toNat (HP m k back 6 9 12) t,D8 l ((nth m.roads k).src back).toNat ((nth m.roads k).dst back).toNat (HP m k back 6 9 12) t)
 else(l,false)
def VU(m:bX)(t:Int)(into:Option (List Int))(k:Nat)(s:List Int×Bool):List Int×Bool:=
 let a:=Pr m t into k false s.1
 let b:=Pr m t into k true a.1
 (b.1,s.2||a.2||b.2)
def D9(m:bX)(t:Int)(into:Option (List Int))(l:List Int):Nat→List Int×Bool
 | 0=>(l,false)
 | k+1=>VU m t into k (D9 m t into l k)
def Ps(m:bX)(t:Int)(into:Option (List Int))(l:List Int):List Int×Bool:=D9 m t into l m.roads.length
theorem HQ{l:List Int}(h:bnd l){q:Nat}{x:Int}(h0:0≤x)(h1:x≤1099511627776):bnd (l.set q x):=by
 intro y hy
 rcases aLk hy with hy | hy
 · exact h y hy
 · subst hy;exact⟨h0,h1⟩
section
variable {m : bX} (h : m.ok) {t : Int} {into : Option (List Int)}
include h
end
def XD(l:List Int):Nat:=(l.map Int.toNat).sum
section
variable {m : bX} (h : m.ok) {t : Int} {into : Option (List Int)}
include h
end
end Go.Ev
namespace Go.Ev
open Go
variable [Lib] [aO] [aN]
abbrev rA(m:bX):List D:=[.t (.sl (m.aZ.map Place.e)),.t (.sl (m.roads.map Road.e))]
@[go_sem] theorem Pt (k n : Nat) (into : Option (List Int)) : old k n (Pq into) = true := by
 cases into<;>simp only[Pq,go_sem]
structure Wh where
 time:Int
 frm:List Int
instance : Dat Wh := ⟨⟨0, []⟩⟩
abbrev Wh.e(w:Wh):T:= .agg [tI w.time,tL w.frm]
def pd(m:bX)(t:Int)(into:Option (List Int))(l:List Int):List Int:=uP (Ps m t into) (XD l+1) l
def inT(t:Int):Prop:=0≤t∧t≤2147483648
instance (t : Int) : Decidable (inT t) := by unfold inT; infer_instance
def plT(x:Int):Prop:=x=1099511627776∨inT x
instance (t : Int) : Decidable (plT t) := by unfold plT; infer_instance
def y7(w:Wh)(n:Int):Bool:=decide ((w.frm.length:Int)=n∧inT w.time)&&(List.range w.frm.length).all fun j=>decide (plT (nth w.frm j))
def rB(m:bX)(w:Wh):Bool:=y7 w m.aZ.length&&decide (pd m w.time none w.frm=w.frm)
theorem s7{w:Wh}{n:Int}(h:y7 w n=true):(w.frm.length:Int)=n∧inT w.time∧∀x∈w.frm,plT x:=by
 simp only[y7,aLr,decide_eq_true_eq,aLx,aLu]at h
 refine⟨h.1.1,h.1.2,fun x hx=>?_⟩
 obtain⟨j,hj⟩:=aLf.1 hx
 have:=h.2 j (aLe.1 hj).1
 rwa [kG hj]at this
def y8(n:Nat):List Int:=List.replicate n 1099511627776
@[simp] theorem LN (n : Nat) : (y8 n).length = n := List.length_replicate
def y9(m:bX)(p t:Int):Wh×Int:=
 if p<0∨(m.aZ.length:Int)≤p then(⟨0,[]⟩,3)else if inT t then(⟨t,pd m t none ((y8 m.aZ.length).set p.toNat t)⟩,0)else(⟨0,[]⟩,8)
def Ea(w:Wh)(t:Int):Wh×Int:=if t<w.time∨2147483648<t then(w,8)else(⟨t,w.frm⟩,0)
def uR(m:bX)(w:Wh)(aZ:List Int)(a b:Int):Int:=
 if rB m w=true∧aZ≠[]∧Co aZ m.aZ.length=true then(if inT a∧inT b∧a≤b then 0 else 8)else 6
theorem p5{l:List Int}{n:Int}(h:Co l n=true){j:Nat}(hj:j<l.length):0≤nth l j∧nth l j<n∧(0<j→nth l (j-1)<nth l j):=by
 simp only[Co,aLx,aLu,decide_eq_true_eq]at h
 exact h j hj
theorem za{l:List Int}{n:Int}(h:Co l n=true):∀ {j:Nat},j<l.length→(j:Int)≤nth l j
 | 0,hj=>by have:=p5 h hj;omega
 | j+1,hj=>by
   have h1:=za h (j:=j) (by omega)
   have:=(p5 h hj).2.2 (by omega)
   simp only[Nat.add_sub_cancel]at this
   omega
theorem p6{l:List Int}{n:Nat}(h:Co l n=true):l.length≤n:=by
 cases hl:l.length with
 | zero=>omega
 | succ k=>
   have h1:=za h (j:=k) (by omega)
   have h2:=(p5 h (j:=k) (by omega)).2.1
   omega
def HR(w:Wh)(t p:Int)(s:List Int×Bool):List Int×Bool:=if nth w.frm p.toNat≤t then(s.1.set p.toNat (nth w.frm p.toNat),true)else s
def VV(w:Wh)(l:List Int)(t:Int)(n:Nat):Nat→List Int×Bool
 | 0=>(y8 n,false)
 | j+1=>HR w t (nth l j) (VV w l t n j)
def YJ(m:bX)(w:Wh)(l:List Int)(a b:Int):Wh×Int:=
 if uR m w l a b≠0 then(w,uR m w l a b)else if a<w.time then(w,42)else
 if(VV w l b m.aZ.length l.length).2=true then(⟨b,pd m a none (VV w l b m.aZ.length l.length).1⟩,0)else(w,43)
theorem s8{m:bX}{w:Wh}(h:rB m w=true):w.frm.length=m.aZ.length∧inT w.time∧(∀x∈w.frm,plT x)∧pd m w.time none w.frm=w.frm:=by
 simp only[rB,aLr,decide_eq_true_eq]at h
 obtain⟨h1,h2,h3⟩:=s7 h.1
 exact⟨by omega,h2,h3,h.2⟩
def XE(l0 l:List Int):Nat→List Int
 | 0=>l0
 | j+1=>(XE l0 l j).set (nth l j).toNat 1099511627776
def YK(m:bX)(w:Wh)(l:List Int)(a b bl:Int):Wh×Int:=
 if uR m w l a b≠0 then(w,uR m w l a b)else if ¬inT bl then(w,8)else if b<w.time then(w,42)else if b-max a w.time≤bl then(w,0)else
 (⟨b,pd m b none (pd m (b-bl) (some l) (XE w.frm l l.length))⟩,0)
def XF(a b:List Int):Nat→List Int
 | 0=>[]
 | j+1=>XF a b j++[min (nth a j) (nth b j)]
def Cp(a b:Wh):Wh×Int:=if a.frm.length=b.frm.length then(⟨max a.time b.time,XF a.frm b.frm a.frm.length⟩,0)else(⟨0,[]⟩,6)
structure Spn where
 low:Int
 high:Int
instance : Dat Spn := ⟨⟨0, 0⟩⟩
abbrev Spn.e(f:Spn):T:= .agg [tI f.low,tI f.high]
def Spn.ok(f:Spn):Prop:= -1125899906842624≤f.low∧f.high≤1125899906842624∧f.low≤f.high
instance (f : Spn) : Decidable f.ok := by unfold Spn.ok; infer_instance
def zb(m:bX)(l:List Spn):Bool:=(List.range l.length).all (fun j=>decide (nth l j).ok)&&decide (l.length=m.roads.length)
def lS(x:Road)(f:Spn)(back:Bool):Int:=
 if x.closed=true then -1 else
 let g:=if back then -f.low else f.high
 let out:=if 0<g then(x.len*x.area*1000).tdiv g else -1
 if(if back then f.low<500*x.area else -500*x.area<f.high)∧(out<0∨x.len<out)then x.len else out
def Pu(l:List Int)(p q:Nat)(t:Int):Bool:=decide (0≤t∧nth l p+t<nth l q)
def VW(l:List Int)(p q:Nat)(t:Int):List Int:=if Pu l p q t=true then l.set q (nth l p+t)else l
def Eb(m:bX)(fl:List Spn)(k:Nat)(back:Bool)(l:List Int):List Int×Bool:=
 (VW l ((nth m.roads k).src back).toNat ((nth m.roads k).dst back).toNat (lS (nth m.roads k) (nth fl k) back),Pu l ((nth m.roads k).src back).toNat ((nth m.roads k).dst back).toNat (lS (nth m.roads k) (nth fl k) back))
def Pv(m:bX)(fl:List Spn)(k:Nat)(s:List Int×Bool):List Int×Bool:=
 let a:=Eb m fl k false s.1
 let b:=Eb m fl k true a.1
 (b.1,s.2||a.2||b.2)
def zc(m:bX)(fl:List Spn)(l:List Int):Nat→List Int×Bool
 | 0=>(l,false)
 | k+1=>Pv m fl k (zc m fl l k)
def HT(m:bX)(fl:List Spn)(l:List Int):List Int×Bool:=zc m fl l m.roads.length
section
variable {m : bX} (h : m.ok) {fl : List Spn}
include h
end
def SU(l:List Int):Nat→List Int
 | 0=>l
 | j+1=>if 2147483648<nth (SU l j) j then(SU l j).set j 1099511627776 else SU l j
def Ec(m:bX)(fl:List Spn)(l:List Int):List Int:=SU (uP (HT m fl) (XD l+1) l) m.aZ.length
end Go.Ev
namespace Go.Ev
open Go
variable [Lib] [aO] [aN]
def plS(t x:Int):Prop:=x=1099511627776∨(t≤x∧x≤2147483648)
instance (t x : Int) : Decidable (plS t x) := by unfold plS; infer_instance
def zd(m:bX)(s:Wh):Bool:=(List.range s.frm.length).all (fun j=>decide (plS s.time (nth s.frm j)))&&decide (s.frm.length=m.aZ.length∧inT s.time)
def HU(l:List Int)(t:Int)(n:Nat):List Int:=(List.range n).map fun(p:Nat)=>if(p:Int)∈l then t else 1099511627776
@[simp] theorem Pw (l : List Int) (t : Int) (n : Nat) : (HU l t n).length = n := by simp [HU]
def Px(m:bX)(fl:List Spn)(l:List Int)(t:Int):Wh×Int:=
 if zb m fl=false then(⟨0,[]⟩,6)else if Co l m.aZ.length=false then(⟨0,[]⟩,3)else if ¬inT t then(⟨0,[]⟩,8)else
 (⟨t,Ec m fl (HU l t m.aZ.length)⟩,0)
def Ed(m:bX)(fl:List Spn)(frm:List Int)(t:Int)(k:Nat)(back:Bool)(l:List Int):List Int:=
 if nth frm ((nth m.roads k).src back).toNat≤t∧0≤lS (nth m.roads k) (nth fl k) back then l.set ((nth m.roads k).dst back).toNat (min (nth l ((nth m.roads k).dst back).toNat) t)else l
def Py(m:bX)(fl:List Spn)(frm:List Int)(t:Int)(k:Nat)(l:List Int):List Int:=Ed m fl frm t k true (Ed m fl frm t k false l)
def chN(m:bX)(fl:List Spn)(frm:List Int)(t:Int):Nat→List Int
 | 0=>frm
 | k+1=>Py m fl frm t k (chN m fl frm t k)
def VX(t:Int)(l:List Int):Nat→List Int
 | 0=>l
 | k+1=>(VX t l k).set k (max (nth (VX t l k) k) t)
def HV(m:bX)(old:List Spn)(next:bX)(fl:List Spn)(s:Wh)(t:Int):Wh×Int:=
 if zd m s=false∨zb m old=false∨zb next fl=false∨next.aZ.length≠m.aZ.length then(s,6)else
 if t<s.time∨2147483648<t then(s,8)else(⟨t,Ec next fl (VX t (chN m old s.frm t m.roads.length) m.aZ.length)⟩,0)
def Pz(a b:List Int):Bool:=match (List.range (min a.length b.length)).find? (fun j=>decide (nth a j≠nth b j))with
 | some j=>decide (nth a j<nth b j)
 | none=>decide (a.length<b.length)
def lT(l:List Int)(x:Int):Int:=match (List.range l.length).find? (fun j=>decide (nth l j=x))with
 | some j=>j
 | none=> -1
def HW(l:List Int)(j:Nat):Bool:=decide (1≤nth l j∧nth l j≤65535∧lT (l.take j) (nth l j)<0)
def s9(l:List Int):Bool:=(List.range l.length).all (HW l)
structure World where
 tags:List Int
 whr:List Wh
instance : Dat World := ⟨⟨[], []⟩⟩
abbrev World.e(x:World):T:= .agg [tL x.tags,.sl (x.whr.map Wh.e)]
structure Bel where
 bG:List World
instance : Dat Bel := ⟨⟨[]⟩⟩
abbrev Bel.e(b:Bel):T:= .agg [.sl (b.bG.map World.e)]
def World.sz(x:World):Prop:=x.tags.length≤1000000∧x.whr.length≤1000000∧∀w∈x.whr,w.frm.length≤1000000
def Bel.sz(b:Bel):Prop:=b.bG.length≤1000000∧∀x∈b.bG,x.sz
@[go_sem] theorem HX (l : List Wh) : aI 2 (l.map Wh.e) = true := dF 2 _ (fun _ => rfl) l
@[go_sem] theorem AY (l : List World) : aI 2 (l.map World.e) = true := dF 2 _ (fun _ => rfl) l
@[go_sem] theorem SV (l : List Wh) : fM 2 (l.map Wh.e) = true := by cases l <;> rfl
@[go_sem] theorem HY (l : List World) : fM 2 (l.map World.e) = true := by cases l <;> rfl
def YL(m:bX)(first:List Int)(x:World)(k:Nat):Bool:=decide (0≤lT first (nth x.tags k))&&rB m (nth x.whr k)
def PA(m:bX)(ws:List World)(first:List Int)(i:Nat):Bool:=
 decide ((nth ws i).tags.length=first.length∧(nth ws i).whr.length=first.length)&&s9 (nth ws i).tags&&(decide (i=0)||Pz (nth ws (i-1)).tags (nth ws i).tags)&&(List.range (nth ws i).tags.length).all (YL m first (nth ws i))
def XG(m:bX)(b:Bel):Bool:=
 decide (1≤b.bG.length∧b.bG.length≤24)&&decide (1≤(nth b.bG 0).tags.length∧(nth b.bG 0).tags.length≤12)&&(List.range b.bG.length).all (PA m b.bG (nth b.bG 0).tags)
end Go.Ev
namespace Go.Ev.N
def ze:Nat:=78
def xy:Nat:=79
def wI:Nat:=80
def HZ:Nat:=81
def AZ:Nat:=82
def H3:Nat:=83
def H4:Nat:=84
def H5:Nat:=85
def LO:Nat:=86
def Ee:Nat:=87
def H6:Nat:=88
def Ef:Nat:=89
def Eg:Nat:=90
def LP:Nat:=91
def Eh:Nat:=92
def LQ:Nat:=93
def PB:Nat:=94
def PC:Nat:=95
def H7:Nat:=96
def LR:Nat:=97
def H8:Nat:=98
def H9:Nat:=99
def Ia:Nat:=100
def LS:Nat:=101
def PD:Nat:=102
def rY:Nat:=103
def Cq:Nat:=104
def Ei:Nat:=105
def Ej:Nat:=106
def LV:Nat:=107
def LW:Nat:=108
def Ib:Nat:=109
def LX:Nat:=110
def LY:Nat:=111
def Ic:Nat:=112
def Ie:Nat:=113
def LZ:Nat:=114
def Ek:Nat:=115
def L0:Nat:=116
def L3:Nat:=117
def El:Nat:=118
def Em:Nat:=119
def Cr:Nat:=120
def Cs:Nat:=121
def uS:Nat:=122
end Go.Ev.N
namespace Go.Ev.K
open Go.Ev
end Go.Ev.K
namespace Go.Ev
class bS [Lib]:Prop where
namespace K
variable [Lib] [bS]
end K
end Go.Ev
namespace Go.Ev.K
open Go.Ev
end Go.Ev.K
namespace Go.Ev
class bT [Lib]:Prop where
namespace K
variable [Lib] [bT]
end K
end Go.Ev
namespace Go.Ev
open Go
variable [Lib] [aO] [aN] [bS] [bT]
structure SW where
 st:Int
 fi:Int
 se:Int
 ti:Int
abbrev SW.e(s:SW):T:= .agg [tI s.st,tI s.fi,tI s.se,tI s.ti]
structure Ct where
 area:List Int
 hold:Int
 mis:Int
abbrev Ct.e(x:Ct):T:= .agg [tL x.area,tI x.hold,tI x.mis]
structure Keys where
 roads:List Int
 keys:List Int
 out:Bool
abbrev Keys.e(k:Keys):T:= .agg [tL k.roads,tL k.keys,.bool k.out]
end Go.Ev
namespace Go.Ev
open Go
variable [Lib] [aO] [aN]
@[go_sem] theorem Ig (l : List Place) : fM 2 (l.map Place.e) = true := by cases l <;> rfl
@[go_sem] theorem L4 (l : List Road) : fM 10 (l.map Road.e) = true := by cases l <;> rfl
@[go_sem] theorem L5 (H : ab) (d : bW) : B1 H 0 1 false (some d.obj) = some (.t (tL d.L), H) := by simp only [bW.obj, go_sem]
def bW.iJ(d:bW):Nat→List Place×bW
 | 0=>([],d)
 | k+1=>if k=0 then((d.iJ k).1++[⟨-10*((d.iJ k).2.next 4).1,true⟩],((d.iJ k).2.next 4).2)
   else((d.iJ k).1++[⟨-10*((d.iJ k).2.next 4).1,(((d.iJ k).2.next 4).2.one 6).1⟩],(((d.iJ k).2.next 4).2.one 6).2)
def bW.PE(d:bW)(i:Int):Road×bW:=
 (⟨i-1-(d.next (min i 2)).1,i,1+((d.next (min i 2)).2.of [11,59,119,4]).1,1+(((d.next (min i 2)).2.of [11,59,119,4]).2.of [9,3,19]).1,true,false,1,1,0,0⟩,
   (((d.next (min i 2)).2.of [11,59,119,4]).2.of [9,3,19]).2)
def bW.uT(d:bW):Nat→List Road×bW
 | 0=>([],d)
 | k+1=>((d.uT k).1++[((d.uT k).2.PE (k+1)).1],((d.uT k).2.PE (k+1)).2)
def bW.Cu(d:bW)(n:Int):Road×bW:=
 let a:=d.next n
 let b:=a.2.next n
 let l:=b.2.of [11,59,199]
 let r:=l.2.of [9,3]
 let w:=r.2.next 5
 let c:=w.2.one 6
 (⟨a.1,b.1,1+l.1,1+r.1,decide (0<w.1),c.1,1,1,0,0⟩,c.2)
def bW.more(n:Int)(l:List Road)(d:bW):Nat→List Road×bW
 | 0=>(l,d)
 | k+1=>if l.length<10 then bW.more n (if(d.Cu n).1.frm=(d.Cu n).1.to then l else l++[(d.Cu n).1]) (d.Cu n).2 k else(l,d)
def bW.Ih(d:bW):Nat:=if d.L.length=0 then 4 else(2+(d.next 6).1).toNat
def bW.PF(d:bW):List Place×bW:=(d.next 6).2.iJ d.Ih
def bW.Ii(d:bW):List Road×bW:=d.PF.2.uT (d.Ih-1)
def bW.PG(d:bW):List Road×bW:=bW.more d.Ih d.Ii.1 (d.Ii.2.next 4).2 (d.Ii.2.next 4).1.toNat
def bW.YW(d:bW):bX×bW:=(⟨d.PF.1,d.PG.1⟩,d.PG.2)
@[go_sem] theorem PH (l : List Spn) : fM 2 (l.map Spn.e) = true := by cases l <;> rfl
@[go_sem] theorem VY (l : List Spn) (k : Nat) (a b : Int) : (List.map D.t (List.map Spn.e l)).set k (D.t (T.agg [tI a, tI b])) = List.map D.t (List.map Spn.e (l.set k ⟨a, b⟩)) := by
 rw[List.map_set,List.map_set]
@[go_sem] theorem XH (H : ab) (sz : Nat) (a b c d e f : T) : pb H sz [.t a, .t b, .t c, .t d, .t e, .t f] = if aI sz [a, b, c, d, e, f] = true then some (.t (.sl [a, b, c, d, e, f]), H) else none := iG H sz [a, b, c, d, e, f]
@[go_sem] theorem XI (H : ab) (sz : Nat) (a b c d e f g : T) : pb H sz [.t a, .t b, .t c, .t d, .t e, .t f, .t g] = if aI sz [a, b, c, d, e, f, g] = true then some (.t (.sl [a, b, c, d, e, f, g]), H) else none := iG H sz [a, b, c, d, e, f, g]
@[go_sem] theorem XJ (H : ab) (sz : Nat) (a b c d e f g h : T) : pb H sz [.t a, .t b, .t c, .t d, .t e, .t f, .t g, .t h] = if aI sz [a, b, c, d, e, f, g, h] = true then some (.t (.sl [a, b, c, d, e, f, g, h]), H) else none := iG H sz [a, b, c, d, e, f, g, h]
@[go_sem] theorem PI {α β γ : Type} {l : List α} {g : α → β} {f : β → γ} {x : γ} {j : Nat} (h : j = l.length) : (List.map f (List.map g l) ++ [x])[j]? = some x := by
 rw[aLh (by simp;omega)];simp[h]
@[go_sem] theorem SX {α β γ : Type} {l : List α} {g : α → β} {f : β → γ} {x y : γ} {j : Nat} (h : j = l.length) : (List.map f (List.map g l) ++ [x]).set j y = List.map f (List.map g l) ++ [y] := by
 rw[List.set_append_right _ _ (by simp;omega)];simp[h]
def bW.PJ(d:bW):Spn×bW:=
 let a:=d.of [0,1000,5000,20000, -5000, -20000,4999,100]
 let b:=a.2.of [0,1,1000,6000]
 let c:=b.2.of [0,1,500]
 let w:=c.2.one 9
 (if w.1=true then⟨-1125899906842624,1125899906842624⟩else⟨a.1-b.1,a.1+c.1⟩,w.2)
def bW.uU(d:bW):Nat→List Spn×bW
 | 0=>([],d)
 | k+1=>((d.uU k).1++[((d.uU k).2.PJ).1],((d.uU k).2.PJ).2)
def bW.VZ(d:bW)(m:bX):List Spn×bW:=d.uU m.roads.length
theorem uV{gc:Bool}{dead:List Nat}{c:C}{vs:List D}{H:ab}(P:Nat→St→Prop)(n:Nat)(Q:Ex×St→Prop)(h0:P 0 ⟨eo dead vs,H⟩)
 (hs:∀j st,j<n→P j st→(∃st',gq gc dead st.H.length (exS bD c st)=some st'∧P (j+1) st')∨∃q,exS bD c st=some q∧q.1≠ .normal∧Q q)
 (he:∀st,P n st→∃q,exS bD c st=some q∧q.1≠ .normal∧Q q):∃q,exS bD (.loop gc dead c) ⟨vs,H⟩=some q∧Q q:=by
 have key:∀(k j:Nat) (st:St),j+k=n→P j st→∃q,iD gc dead (exS bD c) st=some q∧Q q:=by
  intro k
  induction k with
  | zero=>
    intro j st hj hp
    obtain⟨q,h1,h2,h3⟩:=he st (by rw[← hj];exact hp)
    exact⟨q,dB h1 h2,h3⟩
  | succ k ih=>
    intro j st hj hp
    rcases hs j st (by omega) hp with⟨st',h1,h2⟩ | ⟨q,h1,h2,h3⟩
    · obtain⟨q,h3,h4⟩:=ih (j+1) st' (by omega) h2
      exact⟨q,lQ h1 h3,h4⟩
    · exact⟨q,dB h1 h2,h3⟩
 exact key n 0 _ (by omega) h0
end Go.Ev
namespace Go.Ev
open Go
variable [Lib] [aO] [aN] [bS] [bT]
abbrev never:Int:=1099511627776
abbrev Wh.box(w:Wh):Obj:= .box [I w.time,.t (tL w.frm)]
structure Req where
 x:Ct
 s:SW
 k:Keys
 b:Bel
 t:Int
 from_:Int
abbrev Req.e(r:Req):T:= .agg [tL r.x.area,tI r.x.hold,tI r.x.mis,tI r.s.st,tI r.s.fi,tI r.s.se,tI r.s.ti,tL r.k.roads,tL r.k.keys,.bool r.k.out,.sl (r.b.bG.map World.e),tI r.t,tI r.from_]
structure Req.sz(r:Req):Prop where
 hx:r.x.area.length≤1000000
 hk:r.k.roads.length≤1000000
 hk2:r.k.keys.length≤1000000
 hb:r.b.sz
section
variable (x : Ct) (s : SW) (k : Keys) (b : Bel) (hx : x.area.length ≤ 1000000) (hk : k.roads.length ≤ 1000000) (hk2 : k.keys.length ≤ 1000000) (hb : b.sz)
include hx hk hk2 hb
end
end Go.Ev
namespace Go.Ev
open Go
variable [Lib] [aO] [aN] [bS] [bT]
section
variable (area : List Int) (ha : area.length ≤ 1000000) (xs : List World) (hx : xs.length ≤ 1000000)
include ha hx
end
end Go.Ev
namespace Go.Ev
open Go
section
variable (H : ab) (sz id ep n lo hi : Nat) (i j : Int) (fz : Bool)
def scO(r:D):Option Obj→Option (D×ab)
 | some (.arr sz' _ ep' es)=>if ep=ep'∧n=es.length then(if sz'=sz then some (r,H)else none)else none
 | _=>none
@[go_sem] theorem V0 (r : D) (sz' : Nat) (pin : Bool) (es : List D) : scO H sz ep n r (some (.arr sz' pin ep es)) = if n = es.length then (if sz' = sz then some (r, H) else none) else none := by simp [scO]
theorem scR{l h:Nat}:((b7 H id ep n).bind fun a=>if l≤h∧h≤n∧a.1=sz then some (D.sub id ep n l h)else none).map (fun d=>(d,H))=if l≤h then(if h≤n then scO H sz ep n (.sub id ep n l h) H[id]? else none)else none:=by
 simp only[b7]
 generalize H[id]?=o
 by_cases h1:l≤h
 · by_cases h2:h≤n
   · rw[if_pos h1,if_pos h2]
     rcases o with _ | (_ | ⟨sz',pin,ep',es⟩)
     · rfl
     · rfl
     · simp only[scO]
       by_cases h3:ep=ep'∧n=es.length
       · rw[if_pos h3,if_pos h3,aLq]
         by_cases h4:sz'=sz
         · rw[if_pos h4,if_pos ⟨h1,h2,h4⟩];rfl
         · rw[if_neg h4,if_neg fun h=>h4 h.2.2];rfl
       · rw[if_neg h3,if_neg h3];rfl
   · rw[if_pos h1,if_neg h2]
     rcases o with _ | (_ | ⟨sz',pin,ep',es⟩)
     · rfl
     · rfl
     · by_cases h3:ep=ep'∧n=es.length
       · simp only[if_pos h3,aLq];rw[if_neg fun h=>h2 h.2.1];rfl
       · simp only[if_neg h3];rfl
 · rw[if_neg h1]
   rcases o with _ | (_ | ⟨sz',pin,ep',es⟩)
   · rfl
   · rfl
   · by_cases h3:ep=ep'∧n=es.length
     · simp only[if_pos h3,aLq];rw[if_neg fun h=>h1 h.1];rfl
     · simp only[if_neg h3];rfl
@[go_sem] theorem Ij : rj H sz (some (.ref id ep n)) (some none) (some (some i)) = if 0 ≤ i then (if i ≤ n then scO H sz ep n (.sub id ep n 0 i.toNat) H[id]? else none) else none := by
 simp only[rj,aLq,fA,bound,idx]
 by_cases h1:0≤i
 · rw[if_pos h1,if_pos h1,aLq,scR,if_pos (Nat.zero_le _)]
   by_cases h2:i≤n
   · rw[if_pos h2,if_pos (by omega)]
   · rw[if_neg h2,if_neg (by omega)]
 · rw[if_neg h1,if_neg h1];rfl
@[go_sem] theorem Ik : rj H sz (some (.ref id ep n)) (some (some i)) (some none) = if 0 ≤ i then (if i ≤ n then scO H sz ep n (.sub id ep n i.toNat n) H[id]? else none) else none := by
 simp only[rj,aLq,fA,bound,idx]
 by_cases h1:0≤i
 · rw[if_pos h1,if_pos h1,aLq,scR]
   by_cases h2:i≤n
   · rw[if_pos h2,if_pos (by omega),if_pos (by omega)]
   · rw[if_neg h2,if_neg (by omega)]
 · rw[if_neg h1,if_neg h1];rfl
@[go_sem] theorem Cv : rj H sz (some (.ref id ep n)) (some (some i)) (some (some j)) = if 0 ≤ i then (if i ≤ j then (if j ≤ n then scO H sz ep n (.sub id ep n i.toNat j.toNat) H[id]? else none) else none) else none := by
 simp only[rj,aLq,fA,bound,idx]
 by_cases h1:0≤i
 · rw[if_pos h1,if_pos h1,aLq]
   by_cases h0:i≤j
   · rw[if_pos h0,if_pos (by omega),aLq,scR,if_pos (by omega)]
     by_cases h2:j≤n
     · rw[if_pos h2,if_pos (by omega)]
     · rw[if_neg h2,if_neg (by omega)]
   · rw[if_neg h0]
     by_cases h2:0≤j
     · rw[if_pos h2,aLq,scR,if_neg (by omega)]
     · rw[if_neg h2];rfl
 · rw[if_neg h1,if_neg h1];rfl
@[go_sem] theorem Il : rj H sz (some .nil) (some none) (some (some i)) = if i = 0 then some (.nil, H) else none := by
 simp only[rj,aLq,fA,bound,idx]
 by_cases h1:0≤i
 · rw[if_pos h1,aLq]
   by_cases h2:i=0
   · rw[if_pos h2,if_pos (by omega)];rfl
   · rw[if_neg h2,if_neg (by omega)];rfl
 · rw[if_neg h1,if_neg (by omega)];rfl
@[go_sem] theorem Im : rj H sz (some .nil) (some (some i)) (some none) = if i = 0 then some (.nil, H) else none := by
 simp only[rj,aLq,fA,bound,idx]
 by_cases h1:0≤i
 · rw[if_pos h1,aLq]
   by_cases h2:i=0
   · rw[if_pos h2,if_pos (by omega)];rfl
   · rw[if_neg h2,if_neg (by omega)];rfl
 · rw[if_neg h1,if_neg (by omega)];rfl
def tc(x:D)(ys:List D):Option (D×ab):=if aF sz ys=true then(match x with
 | .nil=>if ys.length≤4294967296 then some (.ref H.length 0 ys.length,H++[.arr sz false 0 ys])else none
 | .ref id ep n=>mH H sz id ep n ys H[id]?
 | .cl es=>if 0<ys.length∧es.length+ys.length≤lim∧aF sz (es.map .t)=true then some (.ref H.length 0 (es.map D.t++ys).length,H++[.arr sz false 0 (es.map .t++ys)])else none
 | _=>none)else none
@[go_sem] theorem SY (ys : List D) : tc H sz .nil ys = if aF sz ys = true then (if ys.length ≤ 4294967296 then some (.ref H.length 0 ys.length, H ++ [.arr sz false 0 ys]) else none) else none := (rfl)
@[go_sem] theorem SZ (ys : List D) : tc H sz (.ref id ep n) ys = if aF sz ys = true then mH H sz id ep n ys H[id]? else none := (rfl)
@[go_sem] theorem V1 (es : List T) (ys : List D) : tc H sz (.cl es) ys = if aF sz ys = true then (if 0 < ys.length ∧ es.length + ys.length ≤ 4294967296 ∧ aF sz (es.map .t) = true then some (.ref H.length 0 (es.map D.t ++ ys).length, H ++ [.arr sz false 0 (es.map .t ++ ys)]) else none) else none := (rfl)
@[go_sem] theorem En : aF sz [] = true := (rfl)
@[go_sem] theorem Cw (d : D) (r : List D) : aF sz (d :: r) = fJ sz d.cells := by
 rw[Bool.eq_iff_iff,b9];simp[aF]
def PL(x:D):Option Obj→Option (D×ab)
 | some (.arr _ _ ep' es)=>if ep=ep'∧n=es.length then tc H sz x ((es.drop lo).take (hi-lo))else none
 | _=>none
def PM(x:D):Option Obj→Option (D×ab)
 | some (.arr _ _ ep' es)=>if ep=ep'∧n=es.length then tc H sz x es else none
 | _=>none
@[go_sem] theorem S0 (x : D) (sz' : Nat) (pin : Bool) (es : List D) : PL H sz ep n lo hi x (some (.arr sz' pin ep es)) = if n = es.length then tc H sz x ((es.drop lo).take (hi - lo)) else none := by simp [PL]
@[go_sem] theorem S1 (x : D) (sz' : Nat) (pin : Bool) (es : List D) : PM H sz ep n x (some (.arr sz' pin ep es)) = if n = es.length then tc H sz x es else none := by simp [PM]
theorem zf(x:D)(ys:List D):(if aF sz ys=true then(match x with
 | .nil=>if ys.length≤lim then some (D.ref H.length 0 ys.length,H++[.arr sz false 0 ys])else none
 | .ref id ep n=>(b7 H id ep n).bind fun a=>if a.1=sz∧n+ys.length≤lim then some (.ref id ep (n+ys.length),H.set id (.arr sz a.2.1 ep (a.2.2++ys)))else none
 | .cl es=>if 0<ys.length∧es.length+ys.length≤lim∧aF sz (es.map .t)=true then some (.ref H.length 0 (es.map D.t++ys).length,H++[.arr sz false 0 (es.map .t++ys)])else none
 | _=>none)else none)=tc H sz x ys:=by
 unfold tc
 split
 · cases x with
   | ref id ep n=>
     simp only[b7]
     generalize H[id]?=o
     rcases o with _ | (_ | ⟨sz',pin,ep',es⟩)
     · rfl
     · rfl
     · simp only[mH]
       by_cases h1:ep=ep'∧n=es.length
       · rw[if_pos h1,aLq]
         by_cases h2:sz'=sz∧n+ys.length≤lim
         · rw[if_pos h2,if_pos ⟨h1.1,h1.2,h2⟩]
         · rw[if_neg h2,if_neg fun h=>h2 h.2.2]
       · rw[if_neg h1,if_neg fun h=>h1 ⟨h.1,h.2.1⟩];rfl
   | _=>rfl
 · rfl
theorem lU(x y:D)(ys:List D)(h:elems H y=some ys):fL H sz false (some x) (some y)=tc H sz x ys:=by
 simp only[fL,aLq,eF,h,aLt,if_false]
 exact zf H sz x ys
@[go_sem] theorem A0 (x : D) : fL H sz false (some x) (some .nil) = tc H sz x [] := lU H sz x .nil [] rfl
@[go_sem] theorem A1 (x : D) : fL H sz false (some x) (some (.ref id ep n)) = PM H sz ep n x H[id]? := by
 cases he:elems H (.ref id ep n)with
 | some ys=>
   rw[lU H sz x _ ys he]
   simp only[elems,b7]at he
   generalize H[id]?=o at he
   rcases o with _ | (_ | ⟨sz',pin,ep',es⟩)
   · cases he
   · cases he
   · simp only[PM]
     by_cases h1:ep=ep'∧n=es.length
     · simp only[if_pos h1]at he ⊢;cases he;rfl
     · simp only[if_neg h1]at he;cases he
 | none=>
   have:fL H sz false (some x) (some (.ref id ep n))=none:=by simp only[fL,aLq,eF,he];rfl
   rw[this]
   simp only[elems,b7]at he
   generalize H[id]?=o at he
   rcases o with _ | (_ | ⟨sz',pin,ep',es⟩)
   · rfl
   · rfl
   · simp only[PM]
     by_cases h1:ep=ep'∧n=es.length
     · simp only[if_pos h1]at he;cases he
     · simp only[if_neg h1]
@[go_sem] theorem A2 (x : D) : fL H sz false (some x) (some (.sub id ep n lo hi)) = PL H sz ep n lo hi x H[id]? := by
 cases he:elems H (.sub id ep n lo hi)with
 | some ys=>
   rw[lU H sz x _ ys he]
   simp only[elems,b7]at he
   generalize H[id]?=o at he
   rcases o with _ | (_ | ⟨sz',pin,ep',es⟩)
   · cases he
   · cases he
   · simp only[PL]
     by_cases h1:ep=ep'∧n=es.length
     · simp only[if_pos h1]at he ⊢;cases he;rfl
     · simp only[if_neg h1]at he;cases he
 | none=>
   have:fL H sz false (some x) (some (.sub id ep n lo hi))=none:=by simp only[fL,aLq,eF,he];rfl
   rw[this]
   simp only[elems,b7]at he
   generalize H[id]?=o at he
   rcases o with _ | (_ | ⟨sz',pin,ep',es⟩)
   · rfl
   · rfl
   · simp only[PL]
     by_cases h1:ep=ep'∧n=es.length
     · simp only[if_pos h1]at he;cases he
     · simp only[if_neg h1]
def L6(ep n lo hi:Nat):Option Obj→Option (List D)
 | some (.arr _ _ ep' es)=>if ep=ep'∧n=es.length then some ((es.drop lo).take (hi-lo))else none
 | _=>none
def S2(x:D):Option (List D)→Option (D×ab)
 | some ys0=>(aB (fun d=>(frz H depth d).map .t) ys0).bind fun ys=>if aF sz ys then tc (pins H (ys0.flatMap (bF H depth))) sz x ys else none
 | none=>none
@[go_sem] theorem XK (x : D) (ts : List T) : S2 H sz x (some (ts.map .t)) = tc H sz x (ts.map .t) := by
 simp only[S2,kE,aLq,yK,pins]
 by_cases h:aF sz (ts.map D.t)=true
 · rw[if_pos h]
 · rw[if_neg h];unfold tc;rw[if_neg h]
@[go_sem] theorem Cx (x : D) : fL H sz true (some x) (some (.sub id ep n lo hi)) = S2 H sz x (L6 ep n lo hi H[id]?) := by
 have e:elems H (.sub id ep n lo hi)=L6 ep n lo hi H[id]?:=by
  simp only[elems,b7]
  generalize H[id]?=o
  rcases o with _ | (_ | ⟨sz',pin,ep',es⟩)
  · rfl
  · rfl
  · simp only[L6]
    by_cases h1:ep=ep'∧n=es.length
    · simp only[if_pos h1];rfl
    · simp only[if_neg h1];rfl
 simp only[fL,aLq,eF,e]
 cases L6 ep n lo hi H[id]? with
 | none=>rfl
 | some ys0=>
   simp only[aLq,S2,if_true]
   cases hm:aB (fun d=>(frz H depth d).map D.t) ys0 with
   | none=>rfl
   | some ys=>
     simp only[aLq]
     refine(zf _ _ _ _).trans ?_
     by_cases h:aF sz ys=true
     · rw[if_pos h]
     · rw[if_neg h];unfold tc;rw[if_neg h]
@[go_sem] theorem S3 (ep n lo hi sz : Nat) (pin : Bool) (ts : List T) : L6 ep n lo hi (some (.arr sz pin ep (ts.map .t))) = if n = ts.length then some (((ts.drop lo).take (hi - lo)).map .t) else none := by
 simp only[L6,true_and,List.length_map,List.map_take,List.map_drop]
def zg(ds:List D):Option (D×ab):=if ds.all (fun d=>d.cells.length==sz&&d.c7)then some (.ref H.length 0 ds.length,H++[.arr sz false 0 ds])else none
@[go_sem] theorem XL (call : ak) (get : X → Option D) (xs : List X) : evO call get H (.bsr xs sz) = (aB get xs).bind (zg H sz) := (rfl)
@[go_sem] theorem PN : zg H sz [] = some (.ref H.length 0 0, H ++ [.arr sz false 0 []]) := (rfl)
@[go_sem] theorem PO (k : IntKind) (n : Int) : zg H 1 [.t (.int k n)] = some (.ref H.length 0 1, H ++ [.arr 1 false 0 [.t (.int k n)]]) := (rfl)
@[go_sem] theorem PQ (cs : List D) : zg H sz [.agg cs] = if fJ sz cs = true then some (.ref H.length 0 1, H ++ [.arr sz false 0 [.agg cs]]) else none := by
 simp only[zg,List.all_cons,List.all_nil,Bool.and_true,D.cells,D.c7]
 by_cases h:fJ sz cs=true
 · rw[if_pos h,if_pos (by simpa using b9.1 h)];rfl
 · rw[if_neg h,if_neg (by intro e;exact h (b9.2 (by simpa using e)))]
end
@[go_sem] theorem Eo : (1 : Int).toNat = 1 := (rfl)
@[go_sem] theorem Io : (2 : Int).toNat = 2 := (rfl)
@[go_sem] theorem Cy : (3 : Int).toNat = 3 := (rfl)
section
variable {H t : ab} {i j k : Nat} {o o' : Obj}
theorem mL(h:i<H.length):(H++t)[i]?=H[i]?:=aLg h
theorem wJ(h:i<H.length):(H.set i o)[i]?=some o:=by simp[h]
theorem iK(h:i≠j):(H.set i o)[j]?=H[j]?:=aLi h
theorem p7(h:H[i]?=some o):i<H.length:=(aLe.1 h).1
end
end Go.Ev
namespace Go.Ev.N
def zh:Nat:=123
def xz:Nat:=124
def A3:Nat:=125
def zi:Nat:=126
def Ip:Nat:=127
def Iq:Nat:=128
def Ir:Nat:=129
def L7:Nat:=130
def L8:Nat:=131
def Is:Nat:=132
def It:Nat:=133
def Cz:Nat:=134
def CA:Nat:=135
def L9:Nat:=136
def Iu:Nat:=137
def CB:Nat:=138
def Ep:Nat:=139
def A4:Nat:=140
def Er:Nat:=141
def CC:Nat:=142
def zj:Nat:=143
def zk:Nat:=144
def zl:Nat:=145
def Es:Nat:=146
def Et:Nat:=147
def wK:Nat:=148
end Go.Ev.N
namespace Go.Ev.N
def uW:Nat:=149
def zm:Nat:=150
def zn:Nat:=151
def xA:Nat:=152
def Iv:Nat:=153
def Iw:Nat:=154
def Eu:Nat:=155
def Ew:Nat:=156
def Ix:Nat:=157
def Ma:Nat:=158
def Iy:Nat:=159
def rC:Nat:=160
def uX:Nat:=161
def Iz:Nat:=162
def Mb:Nat:=163
def Ey:Nat:=164
def Mc:Nat:=165
def Ez:Nat:=166
def Md:Nat:=167
def jk:Nat:=168
def CD:Nat:=169
def CE:Nat:=170
def wM:Nat:=171
def CF:Nat:=172
def Me:Nat:=173
def j4:Nat:=174
def zo:Nat:=175
def zp:Nat:=176
def IA:Nat:=177
end Go.Ev.N
namespace Go.Ev.K
open Go.Ev
end Go.Ev.K
namespace Go.Ev
class bO [Lib]:Prop where
namespace K
variable [Lib] [bO]
end K
end Go.Ev
namespace Go.Ev.K
open Go.Ev
end Go.Ev.K
namespace Go.Ev
class bP [Lib]:Prop where
namespace K
variable [Lib] [bP]
end K
end Go.Ev
namespace Go.Ev
open Go
variable [Lib] [aO] [aN] [bO] [bP]
section
variable (H : ab) (sz : Nat)
def EA(id ep n lo hi:Nat)(ys:List D):Option Obj→Option (D×ab)
 | some (.arr sz' pin ep' es)=>if ep=ep'∧n=es.length then Fo H id ep (sz',pin,es) lo hi ys sz else none
 | _=>none
def cpD(x:D)(ys:List D):Option (D×ab):=if aF sz ys=true then(match x with
 | .ref id ep n=>EA H sz id ep n 0 n ys H[id]?
 | .sub id ep n lo hi=>EA H sz id ep n lo hi ys H[id]?
 | _=>none)else none
def S4(x y:Option D):Option (D×ab):=x.bind fun a=>y.bind fun b=>pA H a b sz
@[go_sem] theorem YM (call : ak) (get : X → Option D) (x y : X) : evO call get H (.cp x y sz) = S4 H sz (get x) (get y) := (rfl)
theorem uY(x y:D)(ys:List D)(h:elems H y=some ys):pA H x y sz=cpD H sz x ys:=by
 unfold pA cpD
 rw[h,aLq]
 split
 · rename_i hh
   cases x with
   | ref id ep n=>
     simp only[b7,EA]
     cases H[id]? with
     | none=>rfl
     | some o=>
       cases o with
       | box cs=>rfl
       | arr sz' pin ep' es=>
         simp only
         by_cases c:ep=ep'∧n=es.length
         · rw[if_pos c,if_pos c];rfl
         · rw[if_neg c,if_neg c];rfl
   | sub id ep n lo hi=>
     simp only[b7,EA]
     cases H[id]? with
     | none=>rfl
     | some o=>
       cases o with
       | box cs=>rfl
       | arr sz' pin ep' es=>
         simp only
         by_cases c:ep=ep'∧n=es.length
         · rw[if_pos c,if_pos c];rfl
         · rw[if_neg c,if_neg c];rfl
   | _=>rfl
 · rfl
@[go_sem] theorem XM (x : D) (ts : List T) : S4 H sz (some x) (some (.t (.sl ts))) = cpD H sz x (ts.map .t) := uY H sz x (.t (.sl ts)) (ts.map .t) rfl
def cpE(x:D)(ep n lo hi:Nat):Option Obj→Option (D×ab)
 | some (.arr _ _ ep' es)=>if ep=ep'∧n=es.length then cpD H sz x ((es.drop lo).take (hi-lo))else none
 | _=>none
@[go_sem] theorem V2 (x : D) (n lo hi sz' : Nat) (pin : Bool) (ep : Nat) (es : List D) : cpE H sz x ep n lo hi (some (.arr sz' pin ep es)) = if n = es.length then cpD H sz x ((es.drop lo).take (hi - lo)) else none := by simp [cpE]
@[go_sem] theorem S5 (x : D) (id ep n lo hi : Nat) : S4 H sz (some x) (some (.sub id ep n lo hi)) = cpE H sz x ep n lo hi H[id]? := by
 unfold S4
 simp only[aLq]
 cases h:H[id]? with
 | none=>simp[pA,elems,b7,h,cpE]
 | some o=>
   cases o with
   | box cs=>simp[pA,elems,b7,h,cpE]
   | arr sz' pin ep' es=>
     by_cases c:ep=ep'∧n=es.length
     · rw[uY H sz x _ ((es.drop lo).take (hi-lo)) (by simp[elems,b7,h,c])]
       simp only[cpE,if_pos c]
     · simp[pA,elems,b7,h,cpE,c]
@[go_sem] theorem V3 (id ep n : Nat) (ys : List D) : cpD H sz (.ref id ep n) ys = if aF sz ys = true then EA H sz id ep n 0 n ys H[id]? else none := (rfl)
@[go_sem] theorem V4 (id ep n lo hi : Nat) (ys : List D) : cpD H sz (.sub id ep n lo hi) ys = if aF sz ys = true then EA H sz id ep n lo hi ys H[id]? else none := (rfl)
@[go_sem] theorem S6 (id n lo hi : Nat) (ys : List D) (ep : Nat) (es : List D) : EA H sz id ep n lo hi ys (some (.arr sz false ep es)) =
 if n=es.length then(if min ys.length (hi-lo)=0 then some (.t (.int .i64 0),H)else some (.t (.int .i64 ((min ys.length (hi-lo):Nat):Int)),H.set id (.arr sz false ep (es.take lo++ys.take (min ys.length (hi-lo))++es.drop (lo+min ys.length (hi-lo))))))else none:=by
 simp[EA,Fo]
end
end Go.Ev
namespace Go.Ev
open Go
variable [Lib] [aO] [aN] [bO] [bP]
end Go.Ev
namespace Go.Ev.N
def wN:Nat:=178
def wO:Nat:=179
def xB:Nat:=180
def wP:Nat:=181
def xC:Nat:=182
def zq:Nat:=183
def xD:Nat:=184
def IB:Nat:=185
def EB:Nat:=186
def IC:Nat:=187
def zr:Nat:=188
def ID:Nat:=189
def EC:Nat:=190
def ED:Nat:=191
def Mf:Nat:=192
def CG:Nat:=193
def EE:Nat:=194
def IE:Nat:=195
def Mg:Nat:=196
def PR:Nat:=197
def A5:Nat:=198
def A6:Nat:=199
def Mh:Nat:=200
def CH:Nat:=201
def rZ:Nat:=202
def EF:Nat:=203
def av:Nat:=204
def zt:Nat:=205
def IF:Nat:=206
def EG:Nat:=207
def zu:Nat:=208
def xE:Nat:=209
def zv:Nat:=210
def PS:Nat:=211
def PT:Nat:=212
def PU:Nat:=213
def Mi:Nat:=214
end Go.Ev.N
namespace Go.Ev.K
open Go.Ev
end Go.Ev.K
namespace Go.Ev
class cM [Lib]:Prop where
namespace K
variable [Lib] [cM]
end K
end Go.Ev
namespace Go.Ev.K
open Go.Ev
def av:Fn:= { dj:=1,vars:=[0,2],body:=(q [w 1 (.mv (.c (.nil)))] [] (.itk [m v0,u (.eqk (.sl) false l0 (.c (.nil)))] [] 0 (q [w 1 (.nw 1)] [] .ret) .skip (q [u (.bsr [] 1),m v0,u (.app l1 l0 false 1),x 1 l0] [] .ret))),res:=[(1,none)]}
end Go.Ev.K
namespace Go.Ev
class cH [Lib]:Prop where
 cW:Lib.fs N.av=some K.av
namespace K
variable [Lib] [cH]
theorem cW:Lib.fs N.av=some K.av:=cH.cW
end K
end Go.Ev
namespace Go.Ev
open Go
variable [Lib] [aO] [aN] [bO] [bP] [cM] [cH]
abbrev cQ(l:List Int):Obj:= .arr 1 false 0 ((l.map (T.int .i64)).map .t)
theorem zw(l:List Int)(hl:l.length≤1000000):bD 1 N.av [.t (tL l)] []=some (.ref 0 0 l.length,[cQ l]):=by
 refine bI K.cW rfl ?_
 by_cases h0:l=[]
 · subst h0
   simp only[tL,List.map_nil]
   simp(disch:=omega)only[go_sem,K.av,↓reduceIte,List.map_nil,List.length_nil,reduceAdd,reduceSub]
   rfl
 · have e:=fun H=>BX H (l.map (T.int .i64)) (by simpa using h0)
   simp(disch:=omega)only[go_sem,K.av,↓reduceIte,e,reduceAdd,reduceSub]
end Go.Ev
namespace Go.Ev.K
open Go.Ev
end Go.Ev.K
namespace Go.Ev
class df [Lib]:Prop where
namespace K
variable [Lib] [df]
end K
end Go.Ev
namespace Go.Ev.N
def A7:Nat:=215
def A8:Nat:=216
def A9:Nat:=217
def IG:Nat:=218
def II:Nat:=219
def IJ:Nat:=220
def Mj:Nat:=221
def Mk:Nat:=222
def Ml:Nat:=223
def PV:Nat:=224
def IK:Nat:=225
def IL:Nat:=226
def IM:Nat:=227
def PW:Nat:=228
def IN:Nat:=229
def IP:Nat:=230
def Mm:Nat:=231
def EH:Nat:=232
def Mn:Nat:=233
def EI:Nat:=234
def EJ:Nat:=235
def EK:Nat:=236
def Mo:Nat:=237
def EL:Nat:=238
def PX:Nat:=239
def PY:Nat:=240
def td:Nat:=241
def Mp:Nat:=242
def IQ:Nat:=243
def Ba:Nat:=244
end Go.Ev.N
namespace Go.Ev.K
open Go.Ev
end Go.Ev.K
namespace Go.Ev
class a7 [Lib]:Prop where
namespace K
variable [Lib] [a7]
end K
end Go.Ev
namespace Go.Ev
open Go
variable [Lib] [aO] [aN] [bS] [bT] [df] [bO] [bP] [cM] [cH] [a7]
end Go.Ev
namespace Go.Ev
open Go
theorem te{d:D}{n:Int}(h:ud d=some n):d= .t (.int .i64 n):=by
 unfold ud at h
 split at h
 · cases h;rfl
 · cases h
theorem zx:∀ {es:List D} {l:List Int},aB ud es=some l→es=l.map fun x=> .t (.int .i64 x)
 | [],l,h=>by simp[aB]at h;subst h;rfl
 | e::r,l,h=>by
   simp only[aB,aLa,aLb]at h
   obtain⟨x,hx,y,hy,rfl⟩:=h
   rw[te hx,zx hy];rfl
theorem oq(x:Int):∀l,(Fq x l).Perm (x::l)
 | []=> .refl _
 | y::r=>by
   unfold Fq
   split
   · exact .refl _
   · exact((oq x r).cons y).trans (.swap x y r)
theorem i9:∀l,(cZ l).Perm l
 | []=> .refl _
 | x::r=>(oq x _).trans ((i9 r).cons x)
theorem zy{x:Int}:∀ {l:List Int},l.Pairwise (· ≤ ·)→(Fq x l).Pairwise (· ≤ ·)
 | [],_=>by simp[Fq]
 | y::r,h=>by
   unfold Fq
   split
   · rename_i hx
     refine List.pairwise_cons.2 ⟨fun z hz=>?_,h⟩
     rcases List.mem_cons.1 hz with rfl | hz
     · exact hx
     · have:=(List.pairwise_cons.1 h).1 z hz;omega
   · rename_i hx
     have h':=List.pairwise_cons.1 h
     refine List.pairwise_cons.2 ⟨fun z hz=>?_,zy h'.2⟩
     have hz:=(oq x r).mem_iff.1 hz
     rcases List.mem_cons.1 hz with rfl | hz
     · omega
     · exact h'.1 z hz
theorem m9:∀l,(cZ l).Pairwise (· ≤ ·)
 | []=> .nil
 | x::r=>zy (m9 r)
theorem dr(l:List Int):(cZ l).length=l.length:=(i9 l).length_eq
theorem p8(l:List Int):(l.mergeSort fun x y=>decide (x≤y))=cZ l:=by
 refine List.Perm.eq_of_pairwise (le:=(· ≤ ·)) (fun a b _ _ h1 h2=>by omega) ?_ (m9 l) ((List.mergeSort_perm _ _).trans (i9 l).symm)
 have:=List.pairwise_mergeSort (le:=fun x y:Int=>decide (x≤y)) (fun a b c=>by simp;omega) (fun a b=>by simp;omega) l
 exact this.imp (by simp)
end Go.Ev
namespace Go.Ev
open Go
variable [Lib] [aO] [aN] [bS] [bT] [df] [bO] [bP] [cM] [cH] [a7]
section
variable (k : Keys) (hl : k.keys.length ≤ 1000000) (hr : k.roads.length ≤ 1000000)
include hl hr
end
end Go.Ev
namespace Go.Ev
open Go
variable [Lib] [aO] [aN] [bS] [bT] [df] [bO] [bP] [cM] [cH] [a7]
section
variable (b u v y : Obj) (ds : ab)
end
end Go.Ev
namespace Go.Ev.N
def uZ:Nat:=245
def tf:Nat:=246
def th:Nat:=247
def IS:Nat:=248
def CI:Nat:=249
def IT:Nat:=250
def u9:Nat:=251
def Bb:Nat:=252
def zz:Nat:=253
def IU:Nat:=254
def EM:Nat:=255
def Mq:Nat:=256
def IV:Nat:=257
def wQ:Nat:=258
def gN:Nat:=259
def bz:Nat:=260
def ay:Nat:=261
def EN:Nat:=262
def qt:Nat:=263
def eZ:Nat:=264
def CJ:Nat:=265
def iu:Nat:=266
def af:Nat:=267
def zA:Nat:=268
def fF:Nat:=269
def cmp_isNaN_int:Nat:=270
end Go.Ev.N
namespace Go.Ev.K
open Go.Ev
def bz:Fn:= { dj:=1,vars:=[2],body:= .fail,res:=[(0,none)],prim:=[2,N.af]}
def ay:Fn:= { dj:=1,vars:=[0,1,2],body:=(q [w 1 (.bx v0 1),w 2 (.mv (.c (.und)))] [] (q [u (.mf N.af [.v 1]),x 2 l0] [] .ret)),res:=[(2,none)]}
def fe:C:= (.its [u (.bin .lss v5 v4)] [] 0 .skip (.exit 0) (.seq (.blk 1 (q [a 1 v3 v5,g l0,x 2 l0] [] (.ite [m v0,m v2,u (.cw l1 0 [] [.l 0]),u (.un .not l0)] [] 0 .ret .skip))) (.reg [u (.bin .add v5 (.i 1)),x 5 l0] [])))
def fv:C:= .loop true [1,2] K.fe
def af:Fn:= { dj:=2,vars:=[0,1,4,5,6,7],body:=(q [w 3 (.ld v1 1 false),w 4 (.ln l0),x 5 (.i 0)] [] (.blk 0 K.fv)),res:=[]}
end Go.Ev.K
namespace Go.Ev
class bq [Lib]:Prop where
 ff:Lib.fs N.bz=some K.bz
 cI:Lib.fs N.ay=some K.ay
 dt:Lib.fs N.af=some K.af
namespace K
variable [Lib] [bq]
theorem ff:Lib.fs N.bz=some K.bz:=bq.ff
theorem cI:Lib.fs N.ay=some K.ay:=bq.cI
theorem dt:Lib.fs N.af=some K.af:=bq.dt
end K
end Go.Ev
namespace Go.Ev
open Go
variable [Lib] [aO] [aN] [bS] [bT] [df] [bO] [bP] [cM] [cH] [a7] [bq]
theorem zB(l:List Int):bD 0 N.ay [.t (tL l)] []=some (.fn N.af [.bp 0 0],[.box [.t (tL l)]]):=by
 refine bI K.cI rfl ?_
 simp(disch:=omega)only[go_sem,K.ay,↓reduceIte,reduceAdd,reduceSub]
theorem pe(l:List Int):lB (tL l)=some l:=by
 unfold lB
 simp only
 induction l with
 | nil=>rfl
 | cons x l ih=>
   simp only[List.map_cons,aB]at ih ⊢
   rw[ih];rfl
end Go.Ev
namespace Go.Ev
open Go
variable [Lib] [aO] [aN]
def vd(m:bX)(b:Bel)(tag:Int):Int:=if XG m b=false then 6 else if lT (nth b.bG 0).tags tag<0 then 41 else 0
def V5(a b:Wh)(t:Int):Bool:=(List.range (min a.frm.length b.frm.length)).any fun p=>decide (nth a.frm p≤t∧nth b.frm p≤t)
def tj(m:bX)(mg:List Int)(t:Int)(j:Nat):List Wh:=(List.range j).map fun i=>(y9 m (nth mg i) t).1
@[simp] theorem IW (m : bX) (mg : List Int) (t : Int) (j : Nat) : (tj m mg t j).length = j := by simp [tj]
def CK(m:bX)(tags mg:List Int)(t:Int):Bel×Int:=
 if tags.length=mg.length∧1≤tags.length∧tags.length≤12 then
  if s9 tags=true then match (List.range tags.length).find? (fun i=> !decide ((y9 m (nth mg i) t).2=0))with
   | some i=>(⟨[]⟩,(y9 m (nth mg i) t).2)
   | none=>(⟨[⟨tags,tj m mg t tags.length⟩]⟩,0)
  else(⟨[]⟩,41)
 else(⟨[]⟩,6)
@[go_sem] theorem S7 : ([] : List D).all dH = true := (rfl)
@[go_sem] theorem PZ (d : D) (r : List D) : (d :: r).all dH = (dH d && r.all dH) := (rfl)
@[go_sem] theorem IX (cs : List T) : dH (.t (.agg cs)) = false := (rfl)
@[go_sem] theorem Mr (cs : List T) : dH (.t (.sl cs)) = false := (rfl)
@[go_sem] theorem IY (k : IntKind) (n : Int) : dH (.t (.int k n)) = true := (rfl)
@[go_sem] theorem EO (b : Bool) : dH (.t (.bool b)) = true := (rfl)
@[go_sem] theorem XN (l : List Wh) (k : Nat) (a : Int) (b : List Int) : (List.map D.t (List.map Wh.e l)).set k (D.t (T.agg [tI a, tL b])) = List.map D.t (List.map Wh.e (l.set k ⟨a, b⟩)) := by
 rw[List.map_set,List.map_set]
def S8(m:bX)(tag:Int)(l:List Int)(a b:Int)(x:World):Wh×Int:=YJ m (nth x.whr (lT x.tags tag).toNat) l a b
def XO(tag:Int)(x:World)(w:Wh):World:=⟨x.tags,x.whr.set (lT x.tags tag).toNat w⟩
def V6(tag:Int)(r:Wh×Int)(x:World)(out:List World):List World:=
 if r.2=43 then out else out++[if r.2=0 then XO tag x r.1 else x]
def IZ(m:bX)(tag:Int)(l:List Int)(a b:Int)(ws:List World):Nat→List World
 | 0=>[]
 | j+1=>V6 tag (S8 m tag l a b (nth ws j)) (nth ws j) (IZ m tag l a b ws j)
def P0(m:bX)(tag:Int)(l:List Int)(a b:Int)(ws:List World)(j:Nat):Bool:=decide ((S8 m tag l a b (nth ws j)).2=6∨(S8 m tag l a b (nth ws j)).2=8)
def P1(m:bX)(b:Bel)(tag:Int)(l:List Int)(a c:Int):Bel×Int:=
 if vd m b tag≠0 then(b,vd m b tag)else match (List.range b.bG.length).find? (P0 m tag l a c b.bG)with
  | some i=>(b,(S8 m tag l a c (nth b.bG i)).2)
  | none=>if(IZ m tag l a c b.bG b.bG.length).length=0 then(b,43)else(⟨IZ m tag l a c b.bG b.bG.length⟩,0)
def S9(m:bX)(tag:Int)(l:List Int)(a b bl:Int)(x:World):Wh×Int:=YK m (nth x.whr (lT x.tags tag).toNat) l a b bl
def V7(tag:Int)(r:Wh×Int)(x:World)(out:List World):List World:=out++[if r.2=0 then XO tag x r.1 else x]
def P2(m:bX)(tag:Int)(l:List Int)(a b bl:Int)(ws:List World):Nat→List World
 | 0=>[]
 | j+1=>V7 tag (S9 m tag l a b bl (nth ws j)) (nth ws j) (P2 m tag l a b bl ws j)
def P3(m:bX)(tag:Int)(l:List Int)(a b bl:Int)(ws:List World)(j:Nat):Bool:=decide ((S9 m tag l a b bl (nth ws j)).2=6∨(S9 m tag l a b bl (nth ws j)).2=8)
def P4(m:bX)(b:Bel)(tag:Int)(l:List Int)(a c bl:Int):Bel×Int:=
 if vd m b tag≠0 then(b,vd m b tag)else match (List.range b.bG.length).find? (P3 m tag l a c bl b.bG)with
  | some i=>(b,(S9 m tag l a c bl (nth b.bG i)).2)
  | none=>(⟨P2 m tag l a c bl b.bG b.bG.length⟩,0)
theorem CL{gc:Bool}{dead:List Nat}{c:C}{vs:List D}{H:ab}(P:Nat→St→Prop)(n:Nat)(Q:Ex×St→Prop)(h0:P 0 ⟨eo dead vs,H⟩)
 (hs:∀j st,j<n→P j st→∃st',gq gc dead st.H.length (exS bD c st)=some st'∧P (j+1) st')
 (he:∀st,P n st→∃q,exS bD c st=some q∧q.1≠ .normal∧Q q):∃q,exS bD (.loop gc dead c) ⟨vs,H⟩=some q∧Q q:=by
 have key:∀(k j:Nat) (st:St),j+k=n→P j st→∃q,iD gc dead (exS bD c) st=some q∧Q q:=by
  intro k
  induction k with
  | zero=>
    intro j st hj hp
    obtain⟨q,h1,h2,h3⟩:=he st (by rw[← hj];exact hp)
    exact⟨q,dB h1 h2,h3⟩
  | succ k ih=>
    intro j st hj hp
    obtain⟨st',h1,h2⟩:=hs j st (by omega) hp
    obtain⟨q,h3,h4⟩:=ih (j+1) st' (by omega) h2
    exact⟨q,lQ h1 h3,h4⟩
 exact key n 0 _ (by omega) h0
abbrev ints(l:List Int):List D:=(l.map (T.int .i64)).map .t
abbrev whs(l:List Wh):List D:=(l.map Wh.e).map .t
def wR(out:List World)(x:World):Nat:=match (List.range out.length).find? (fun k=> !Pz (nth out k).tags x.tags)with
 | some k=>k
 | none=>out.length
def P5(a b:List Wh):Nat→List Wh
 | 0=>a
 | p+1=>(P5 a b p).set p (Cp (nth a p) (nth b p)).1
def P6(a b:List Wh):List Wh:=P5 a b (min a.length b.length)
def V8(out:List World)(x:World):List World:=
 if wR out x<out.length∧(nth out (wR out x)).tags=x.tags then out.set (wR out x) ⟨x.tags,P6 (nth out (wR out x)).whr x.whr⟩
 else out.take (wR out x)++[x]++out.drop (wR out x)
def P7(l:List World):Nat→List World
 | 0=>[]
 | j+1=>V8 (P7 l j) (nth l j)
def P8(l:List World):List World:=P7 l l.length
structure Rp(H:ab)(id:Nat)(es:List D)(fa fb:Nat→Nat)(out:List World):Prop where
 arr:H[id]?=some (.arr 2 false 0 es)
 len:es.length=out.length
 el:∀j,j<out.length→es[j]?=some (.agg [.ref (fa j) 0 (nth out j).tags.length,.ref (fb j) 0 (nth out j).whr.length])
 ha:∀j,j<out.length→H[fa j]?=some (.arr 1 false 0 (ints (nth out j).tags))
 hb:∀j,j<out.length→H[fb j]?=some (.arr 2 false 0 (whs (nth out j).whr))
 na:∀j,j<out.length→fa j≠id
 nb:∀j,j<out.length→fb j≠id
 nab:∀i j,i<out.length→j<out.length→fa i≠fb j
 nbb:∀i j,i<out.length→j<out.length→i≠j→fb i≠fb j
@[go_sem] theorem Ta (a b : Wh) : (Cp a b).1.e = .agg [tI (Cp a b).1.time, tL (Cp a b).1.frm] := rfl
theorem Rp.size{H:ab}{id:Nat}{es:List D}{fa fb:Nat→Nat}{out:List World}(hr:Rp H id es fa fb out):∀e∈es,e.cells.length=2:=by
 intro e he
 obtain⟨j,hj⟩:=aLf.1 he
 have hl:=(aLe.1 hj).1
 rw[hr.el j (by rw[← hr.len];exact hl)]at hj
 cases hj;rfl
theorem tq{α:Type} [Dat α](l:List α)(k:Nat)(hk:k<l.length)(x:α)(j:Nat):nth (l.set k x) j=if j=k then x else nth l j:=by
 unfold nth
 rw[aLl]
 by_cases h:j=k
 · rw[if_pos h,h,aLj hk];rfl
 · rw[if_neg h,aLi (fun e=>h e.symm),aLl]
theorem Rp.merge{H:ab}{id:Nat}{es:List D}{fa fb:Nat→Nat}{out:List World}(hr:Rp H id es fa fb out){k:Nat}(hk:k<out.length)(x:World)(ht:(nth out k).tags=x.tags)(hw:x.whr.length=(nth out k).whr.length):
 Rp (H.set (fb k) (.arr 2 false 0 (whs x.whr))) id es fa fb (out.set k x):=by
 have ol:(out.set k x).length=out.length:=List.length_set
 have nk:=hr.nb k hk
 have kl:=p7 (hr.hb k hk)
 refine⟨by rw[iK nk];exact hr.arr,by rw[ol];exact hr.len,?_,?_,?_,by rw[ol];exact hr.na,by rw[ol];exact hr.nb,by rw[ol];exact hr.nab,by rw[ol];exact hr.nbb⟩
 · intro j hj
   rw[ol]at hj
   rw[hr.el j hj,tq out k hk]
   by_cases h:j=k
   · rw[if_pos h,h,ht,hw]
   · rw[if_neg h]
 · intro j hj
   rw[ol]at hj
   rw[iK (fun e=>hr.nab j k hj hk e.symm),hr.ha j hj,tq out k hk]
   by_cases h:j=k
   · rw[if_pos h,h,ht]
   · rw[if_neg h]
 · intro j hj
   rw[ol]at hj
   rw[tq out k hk]
   by_cases h:j=k
   · rw[if_pos h,h,wJ kl]
   · rw[if_neg h,iK (fun e=>hr.nbb j k hj hk h e.symm)];exact hr.hb j hj
theorem Rp.frz{H:ab}{id:Nat}{es:List D}{fa fb:Nat→Nat}{out:List World}(hr:Rp H id es fa fb out):
 aB (frz H 8) es=some (out.map World.e)∧∀i∈es.flatMap (bF H 8),i≠id:=by
 have hl:=hr.len
 have key:∀(j:Nat) (hj:j<out.length),Go.Ev.frz H 8 (.agg [.ref (fa j) 0 (nth out j).tags.length,.ref (fb j) 0 (nth out j).whr.length])=some (nth out j).e∧
  bF H 8 (.agg [.ref (fa j) 0 (nth out j).tags.length,.ref (fb j) 0 (nth out j).whr.length])=[fa j,fb j]:=by
  intro j hj
  have h1:=hr.ha j hj
  have h2:=hr.hb j hj
  simp(disch:=omega)only[go_sem,h1,h2,ints,whs,↓reduceIte]
 constructor
 · have:∀(es:List D) (ts:List T),es.length=ts.length→(∀(j:Nat) e t,es[j]?=some e→ts[j]?=some t→Go.Ev.frz H 8 e=some t)→aB (Go.Ev.frz H 8) es=some ts:=by
    intro es
    induction es with
    | nil=>intro ts h _;cases ts with
      | nil=>rfl
      | cons=>simp at h
    | cons e es ih=>
      intro ts h hh
      cases ts with
      | nil=>simp at h
      | cons t ts=>
        have h1:=hh 0 e t rfl rfl
        have h2:=ih ts (by simpa using h) fun j e t he ht=>hh (j+1) e t (by simpa using he) (by simpa using ht)
        simp only[aB,h1,aLq,h2,aLw]
   refine this es _ (by rw[List.length_map,hl]) fun j e t he ht=>?_
   have hj:j<out.length:=by rw[← hl];exact(aLe.1 he).1
   rw[hr.el j hj]at he
   rw[bB _ hj]at ht
   cases he;cases ht
   exact(key j hj).1
 · intro i hi
   obtain⟨e,he,hi⟩:=List.mem_flatMap.1 hi
   obtain⟨j,hj⟩:=aLf.1 he
   have hjl:j<out.length:=by rw[← hl];exact(aLe.1 hj).1
   rw[hr.el j hjl]at hj
   cases hj
   rw[(key j hjl).2]at hi
   simp only[List.mem_cons,List.not_mem_nil,or_false]at hi
   rcases hi with rfl | rfl
   · exact hr.na j hjl
   · exact hr.nb j hjl
@[go_sem] theorem EP {α β γ : Type} [Dat α] (f : β → γ) (g : α → β) {l : List α} {i j : Nat} {x : α} (h : j < l.length) : (((l.set i x).map g).map f)[j]? = some (f (g (nth (l.set i x) j))) := pY f g (by rw [List.length_set]; exact h)
def V9(l:List Int)(i j:Nat):List Int:=(l.set i (nth l j)).set j (nth l i)
def Wa(i j:Nat)(t:Int)(x:World):World:=⟨V9 x.tags i j,(x.whr.set i (Ea (nth x.whr i) t).1).set j (Ea (nth x.whr j) t).1⟩
def Wb(i j:Nat)(t:Int)(x:World)(out:List World):List World:=if V5 (nth x.whr i) (nth x.whr j) t=true then out++[Wa i j t x]else out
def zC(i j:Nat)(t:Int)(ws:List World):Nat→List World
 | 0=>ws
 | k+1=>Wb i j t (nth ws k) (zC i j t ws k)
def I0(m:bX)(b:Bel)(i j t:Int):Bel×Int:=
 if XG m b=false then(b,6)else if i<0∨((nth b.bG 0).tags.length:Int)≤i∨j<0∨((nth b.bG 0).tags.length:Int)≤j∨i=j then(b,19)
 else if ¬inT t then(b,8)else if 24<(P8 (zC i.toNat j.toNat t b.bG b.bG.length)).length then(b,44)else(⟨P8 (zC i.toNat j.toNat t b.bG b.bG.length)⟩,0)
def P9:Nat→List Int
 | 0=>[]
 | k+1=>P9 k++[3+(k:Int)*2]
def bW.ve(d:bW)(n:Int):Nat→List Int×bW
 | 0=>([],d)
 | k+1=>((d.ve n k).1++[((d.ve n k).2.next n).1],((d.ve n k).2.next n).2)
structure BSt where
 b:Bel
 t:Int
 d:bW
def bW.I3(m:bX)(n:Int)(s:BSt):BSt:=
 let a:=s.d.next 60
 let c:=a.2.next 3
 if c.1=0 then
  let i:=c.2.next n
  let j:=i.2.next n
  let r:=I0 m s.b i.1 j.1 (s.t+a.1)
  ⟨if r.2=0 then r.1 else s.b,s.t+a.1,j.2⟩
 else if c.1=1 then
  let g:=c.2.next n
  let l:=g.2.wH m.aZ.length
  let e:=l.2.next 9
  let r:=P1 m s.b (3+2*g.1) l.1 (s.t+a.1) (s.t+a.1+e.1)
  ⟨if r.2=0 then r.1 else s.b,s.t+a.1,e.2⟩
 else
  let g:=c.2.next n
  let l:=g.2.wH m.aZ.length
  let e:=l.2.next 40
  let r:=P4 m s.b (3+2*g.1) l.1 (s.t+a.1) (s.t+a.1+50) e.1
  ⟨if r.2=0 then r.1 else s.b,s.t+a.1,e.2⟩
def bW.XP(m:bX)(n:Int)(s:BSt):Nat→BSt
 | 0=>s
 | k+1=>bW.I3 m n (bW.XP m n s k)
def bW.Wc(d:bW):Nat:=(1+(d.next 3).1).toNat
def bW.Tc(d:bW)(m:bX):List Int×bW:=(d.next 3).2.ve m.aZ.length d.Wc
def bW.YN(d:bW)(m:bX):BSt:=⟨(CK m (P9 d.Wc) (d.Tc m).1 ((d.Tc m).2.next 100).1).1,100,(((d.Tc m).2.next 100).2.next 5).2⟩
def bW.YO(d:bW)(m:bX):Nat:=(((d.Tc m).2.next 100).2.next 5).1.toNat
def bW.XQ(d:bW)(m:bX):BSt:=bW.XP m d.Wc (d.YN m) (d.YO m)
def bW.XR(d:bW)(m:bX):Bel×bW:=((d.XQ m).b,(d.XQ m).d)
structure WOk(m:bX)(N:Nat)(x:World):Prop where
 tg:x.tags.length=N
 wh:x.whr.length=N
 fr:∀w∈x.whr,w.frm.length=m.aZ.length
 ti:∀w∈x.whr,inT w.time
structure BOk(m:bX)(N:Nat)(b:Bel):Prop where
 w1:1≤b.bG.length
 w2:b.bG.length≤24
 n1:1≤N
 n2:N≤12
 ws:∀x∈b.bG,WOk m N x
theorem WOk.sz{m:bX}{N:Nat}{x:World}(h:WOk m N x)(hm:m.ok)(hn:N≤12):x.sz:=by
 have np:=hm.np
 obtain⟨t1,t2,t3, -⟩:=h
 exact⟨by omega,by omega,fun w hw=>by rw[t3 w hw];omega⟩
theorem BOk.sz{m:bX}{N:Nat}{b:Bel}(h:BOk m N b)(hm:m.ok):b.sz:=
 ⟨by have:=h.w2;omega,fun x hx=>(h.ws x hx).sz hm h.n2⟩
def bW.spread(d:bW)(m:bX)(fl:List Spn):Wh×bW:=
 let p:=d.next m.aZ.length
 let t:=p.2.next 200
 let s:=Px m fl [p.1] t.1
 let o:=t.2.one 2
 if o.1=true then
  let f:=o.2.VZ m
  let a:=f.2.next 100
  let r:=HV m fl m f.1 s.1 (s.1.time+a.1)
  if r.2=0 then(r.1,a.2)else(s.1,a.2)
 else(s.1,o.2)
structure Mch where
 kind:Int
 num:Int
 pl:List Int
instance : Dat Mch := ⟨⟨0, 0, []⟩⟩
abbrev Mch.e(x:Mch):T:= .agg [tI x.kind,tI x.num,tL x.pl]
@[go_sem] theorem Qa (l : List Mch) : fM 3 (l.map Mch.e) = true := by cases l <;> rfl
end Go.Ev
namespace Go.Ev
open Go
variable [Lib] [aO] [aN] [bS] [bT] [df] [bO] [bP] [cM] [cH] [a7] [bq]
end Go.Ev
namespace Go.Ev
open Go
variable [Lib] [aO] [aN] [bO] [bP] [cM] [cH]
@[go_sem] theorem XT (H : ab) (len j : Nat) (ts : List T) (h : j < len) : Ob H len 1 false (.t (.agg ts)) j = (ts[j]?).map fun t => (.t t, H) := by
 have h0:len≠0:=by omega
 unfold Ob oO
 rw[if_neg h0,if_pos h]
 unfold j8 cut
 simp only[D.isAgg,D.cells,T.cells,if_true,Nat.mul_one,List.length_map]
 by_cases hj:j<ts.length
 · rw[if_pos (by omega),aLc hj]
   have e:((ts.map D.t).drop j).take 1=[D.t ts[j]]:=by
    rw[List.drop_eq_getElem_cons (by simpa using hj)];simp
   rw[e];rfl
 · rw[if_neg (by omega),aLm (by omega)];rfl
section
variable (a0 a1 a2 a3 a4 a5 x y : Obj) (ds : ab)
end
@[go_sem] theorem Td (n : Nat) : eqB n n = true := by
 induction n with
 | zero=>rfl
 | succ n ih=>exact ih
end Go.Ev
namespace Go.Ev
open Go
variable [Lib] [aO] [aN] [bS] [bT] [bO] [bP] [cM] [cH]
end Go.Ev
namespace Go.Ev
open Go
variable [Lib] [aO] [aN] [bS] [bT] [df] [bO] [bP] [cM] [cH] [a7] [bq]
end Go.Ev
namespace Go.Ev
open Go
variable [Lib] [aO] [aN]
theorem CM{α:Type} [Dat α](l:List α)(k:Nat)(hk:k<l.length)(x:α)(j:Nat):nth (l.set k x) j=if j=k then x else nth l j:=by
 unfold nth
 by_cases h:j=k
 · subst h;rw[if_pos rfl];simp[hk]
 · rw[if_neg h]
   have:¬k=j:=fun e=>h e.symm
   simp[List.getElem?_set,this]
section
variable {m : bX} (h : m.ok) {t : Int} {into : Option (List Int)}
include h
end
end Go.Ev
namespace Go.Ev
open Go
variable [Lib] [aO] [aN] [cM] [cH]
end Go.Ev
namespace Go.Ev
open Go
variable [Lib] [aO] [aN] [bS] [bT] [bO] [bP] [cM] [cH]
end Go.Ev
namespace Go.Ev
open Go
variable [Lib] [aO] [aN]
section
variable {m : bX} (hm : m.ok) {N : Nat} {b : Bel} (hb : BOk m N b) {s : Wh} (hs : s.frm.length = m.aZ.length) {l : List Mch}
variable (hl : ∀ y ∈ l, y.pl.length ≤ m.aZ.length ∧ 1 ≤ y.pl.length ∧ ∀ x ∈ y.pl, 0 ≤ x ∧ x < m.aZ.length) {t a : Int} (t0 : 0 ≤ t) (t1 : t ≤ 10000) (a0 : 0 ≤ a) (a1 : a ≤ 10000) (d : bW)
include hm hb hs hl t0 t1 a0 a1
omit hm hb t0 t1 a1 in
end
def bW.skip(d:bW)(n:Int):Nat→bW
 | 0=>d
 | k+1=>((d.skip n k).next n).2
end Go.Ev
namespace Go.Ev
open Go
variable [Lib] [aO] [aN] [df]
end Go.Ev
namespace Go.Ev
open Go
variable [Lib] [aO] [aN] [bS] [bT] [df] [bO] [bP] [cM] [cH]
end Go.Ev
namespace Go.Ev
open Go
variable [Lib] [aO] [aN] [bS] [bT] [df] [bO] [bP] [cM] [cH] [a7] [bq]
def lexB:List Int→List Int→Bool
 | _,[]=>false
 | [],_::_=>true
 | a::r,b::s=>decide (a<b)||(decide (a=b)&&lexB r s)
structure WV(m:bX)(first:List Int)(x:World):Prop where
 pm:x.tags.Perm first
 wl:x.whr.length=first.length
 wv:∀w∈x.whr,rB m w=true
structure BV(m:bX)(first:List Int)(ws:List World):Prop where
 pr:s9 first=true
 f1:1≤first.length
 f2:first.length≤12
 wv:∀x∈ws,WV m first x
 up:ws.Pairwise fun x y=>lexB x.tags y.tags=true
end Go.Ev
namespace Go.Ev.N
def wS:Nat:=271
def zD:Nat:=272
def tu:Nat:=273
def xF:Nat:=274
def Bc:Nat:=275
def zE:Nat:=276
def I4:Nat:=277
def I5:Nat:=278
def Ms:Nat:=279
def Mt:Nat:=280
def Bd:Nat:=281
def Qb:Nat:=282
def ER:Nat:=283
def I6:Nat:=284
def I7:Nat:=285
def Mu:Nat:=286
def lq:Nat:=287
def Mv:Nat:=288
def I8:Nat:=289
def I9:Nat:=290
def Ja:Nat:=291
def Jb:Nat:=292
def Be:Nat:=293
def Jc:Nat:=294
def Jd:Nat:=295
def ES:Nat:=296
def kK:Nat:=297
def kM:Nat:=298
def CN:Nat:=299
def pg:Nat:=300
def ie:Nat:=301
def jV:Nat:=302
def mM:Nat:=303
def jm:Nat:=304
def lr:Nat:=305
def mN:Nat:=306
def kO:Nat:=307
def Bf:Nat:=308
end Go.Ev.N
namespace Go.Ev.K
open Go.Ev
end Go.Ev.K
namespace Go.Ev
class cB [Lib]:Prop where
namespace K
variable [Lib] [cB]
end K
end Go.Ev
namespace Go.Ev.K
open Go.Ev
end Go.Ev.K
namespace Go.Ev
class cC [Lib]:Prop where
namespace K
variable [Lib] [cC]
end K
end Go.Ev
namespace Go.Ev
open Go
variable [Lib] [aO] [aN] [bS] [bT] [df] [bO] [bP] [cM] [cH] [a7] [bq] [cB] [cC]
end Go.Ev
namespace Go.Ev
open Go
variable [Lib] [aO] [aN] [bS] [bT] [df] [bO] [bP] [cM] [cH]
end Go.Ev
namespace Go.Ev
open Go
variable [Lib] [aO] [aN] [bS] [bT] [df] [bO] [bP] [cM] [cH] [a7] [bq]
structure SH(n p:Nat)(l:List Wh):Prop where
 ln:l.length=n
 fr:∀w∈l,w.frm.length=p
theorem WV.sh{m:bX}{first:List Int}{x:World}(h:WV m first x):SH first.length m.aZ.length x.whr:=
 ⟨h.wl,fun w hw=>(s8 (h.wv w hw)).1⟩
end Go.Ev
namespace Go.Ev
open Go
variable [Lib] [aO] [aN] [bS] [bT] [df] [bO] [bP] [cM] [cH] [a7] [bq] [cB] [cC]
theorem Rp.more{H:ab}{id:Nat}{es:List D}{fa fb:Nat→Nat}{out:List World}(hr:Rp H id es fa fb out)(t:ab):Rp (H++t) id es fa fb out:=
 ⟨by rw[mL (p7 hr.arr)];exact hr.arr,hr.len,hr.el,fun j hj=>by rw[mL (p7 (hr.ha j hj))];exact hr.ha j hj,fun j hj=>by rw[mL (p7 (hr.hb j hj))];exact hr.hb j hj,hr.na,hr.nb,hr.nab,hr.nbb⟩
end Go.Ev
namespace Go.Ev
open Go
variable [Lib] [aO] [aN] [bS] [bT] [df] [bO] [bP] [cM] [cH] [a7] [bq]
end Go.Ev
namespace Go.Ev
open Go
variable [Lib] [aO] [aN] [bO] [bP]
abbrev CO:Int:=2147483648
section
variable {m : bX} (h : m.ok) {fl : List Spn}
include h
end
end Go.Ev
namespace Go.Ev
open Go
def clP(m:bX)(fl:List Spn)(y:List Int):Prop:=∀k,k<m.roads.length→∀back,0≤lS (nth m.roads k) (nth fl k) back→
 nth y ((nth m.roads k).src back).toNat+lS (nth m.roads k) (nth fl k) back≤CO→
 nth y ((nth m.roads k).dst back).toNat≤nth y ((nth m.roads k).src back).toNat+lS (nth m.roads k) (nth fl k) back
variable [Lib] [aO] [aN] [bO] [bP]
end Go.Ev
namespace Go.Ev
open Go
variable [Lib] [aO] [aN] [bO] [bP]
def Wd(l:List Int):Prop:=∀x∈l,0≤x∧(x≤CO∨x=1099511627776)
theorem Wd.bnd{l:List Int}(h:Wd l):bnd l:=fun x hx=>by have:=h x hx;simp only[CO]at this;omega
end Go.Ev
namespace Go.Ev
open Go
variable [Lib] [aO] [aN] [bS] [bT] [bO] [bP]
structure Qc(m:bX)(fl:List Spn)(s:Wh):Prop where
 ln:s.frm.length=m.aZ.length
 ti:inT s.time
 tm:Wd s.frm
 lo:∀x∈s.frm,s.time≤x
 cl:clP m fl s.frm
theorem Qc.valid{m:bX}{fl:List Spn}{s:Wh}(h:Qc m fl s):zd m s=true:=by
 simp only[zd,aLr,decide_eq_true_eq,aLx,aLu]
 refine⟨fun j hj=>?_,h.ln,h.ti⟩
 have a:=h.tm _ (gM hj)
 have b:=h.lo _ (gM hj)
 unfold plS
 simp only[CO]at a
 omega
end Go.Ev
namespace Go.Ev
open Go
variable [Lib] [aO] [aN] [bS] [bT] [df] [bO] [bP] [cM] [cH] [a7] [bq]
section
variable {m : bX} (hm : m.ok) (l : List Mch) (hl : l.length ≤ 1000) (hp : ∀ x ∈ l, x.pl.length ≤ 1000000) (s : Wh) (hs : s.frm.length ≤ 1000000) (b : Bel) (hb : b.sz) (t a : Int)
include hm hl hp hs hb
end
end Go.Ev
namespace Go.Ev
open Go
variable [Lib] [aO] [aN] [bS] [bT] [bO] [bP]
end Go.Ev
namespace Go.Ev
open Go
variable [Lib] [aO] [aN]
def sh(s x:Int):Int:=if x<1099511627776 then x+s else x
def shL(s:Int)(l:List Int):List Int:=l.map (sh s)
@[simp] theorem We (s : Int) (l : List Int) : (shL s l).length = l.length := List.length_map ..
end Go.Ev
namespace Go.Ev
open Go
variable [Lib] [aO] [aN] [bS] [bT] [df] [bO] [bP] [cM] [cH]
end Go.Ev
namespace Go.Ev
open Go
variable [Lib] [aO] [aN] [bS] [bT] [df] [bO] [bP] [cM] [cH] [a7] [bq]
end Go.Ev
namespace Go.Ev
open Go
variable [Lib] [aO] [aN] [bS] [bT] [df] [bO] [bP] [cM] [cH] [a7] [bq] [cB] [cC]
end Go.Ev
namespace Go.Ev.N
def ET:Nat:=309
def zF:Nat:=310
def Bg:Nat:=311
def Bh:Nat:=312
def zG:Nat:=313
def Je:Nat:=314
def Wf:Nat:=315
def Qd:Nat:=316
def Jf:Nat:=317
def Jg:Nat:=318
def Jh:Nat:=319
def Ji:Nat:=320
def Qe:Nat:=321
def Qf:Nat:=322
def Jj:Nat:=323
def CP:Nat:=324
def Qg:Nat:=325
def Te:Nat:=326
def Bi:Nat:=327
def EU:Nat:=328
def CQ:Nat:=329
def lx:Nat:=330
def mO:Nat:=331
def CR:Nat:=332
def zH:Nat:=333
end Go.Ev.N
namespace Go.Ev.N
def wT:Nat:=334
def xG:Nat:=335
def xH:Nat:=336
def Jk:Nat:=337
def wU:Nat:=338
def Jl:Nat:=339
def Jm:Nat:=340
def Mw:Nat:=341
def Jn:Nat:=342
def Mx:Nat:=343
def My:Nat:=344
def Tf:Nat:=345
def Bj:Nat:=346
def Jo:Nat:=347
def Mz:Nat:=348
def MA:Nat:=349
def zI:Nat:=350
def CS:Nat:=351
def EW:Nat:=352
def EX:Nat:=353
def Jp:Nat:=354
def Bk:Nat:=355
def MB:Nat:=356
def MC:Nat:=357
def CT:Nat:=358
def EY:Nat:=359
def Jq:Nat:=360
def MD:Nat:=361
def Jr:Nat:=362
def CU:Nat:=363
def Js:Nat:=364
def ME:Nat:=365
def MF:Nat:=366
def MG:Nat:=367
def MH:Nat:=368
def wV:Nat:=369
def fO:Nat:=370
def j5:Nat:=371
def CV:Nat:=372
def ig:Nat:=373
def CW:Nat:=374
def CY:Nat:=375
def Jt:Nat:=376
def Ju:Nat:=377
def Bl:Nat:=378
def gz:Nat:=379
def ja:Nat:=380
def zJ:Nat:=381
def CZ:Nat:=382
def zK:Nat:=383
end Go.Ev.N
namespace Go.Ev.N
def C0:Nat:=384
def Bm:Nat:=385
def zL:Nat:=386
def Bo:Nat:=387
def zM:Nat:=388
def Jv:Nat:=389
def Jw:Nat:=390
def MJ:Nat:=391
def xI:Nat:=392
def Jx:Nat:=393
def Jy:Nat:=394
def xJ:Nat:=395
def MK:Nat:=396
def xK:Nat:=397
def wW:Nat:=398
def Qh:Nat:=399
def ML:Nat:=400
def MM:Nat:=401
def zN:Nat:=402
def MN:Nat:=403
def Qi:Nat:=404
def MO:Nat:=405
def MP:Nat:=406
def Qj:Nat:=407
def vf:Nat:=408
def vg:Nat:=409
def MQ:Nat:=410
def Qk:Nat:=411
def EZ:Nat:=412
def qu:Nat:=413
def Ql:Nat:=414
def ph:Nat:=415
end Go.Ev.N
namespace Go.Ev.N
def rD:Nat:=416
def r5:Nat:=417
def r6:Nat:=418
def rE:Nat:=419
def Jz:Nat:=420
def xL:Nat:=421
def wX:Nat:=422
def E2:Nat:=423
def xM:Nat:=424
def xN:Nat:=425
def JA:Nat:=426
def xO:Nat:=427
def vi:Nat:=428
def xP:Nat:=429
def oI:Nat:=430
def tv:Nat:=431
def Qm:Nat:=432
def Qn:Nat:=433
def MR:Nat:=434
def vj:Nat:=435
def MS:Nat:=436
def vk:Nat:=437
def JB:Nat:=438
def JC:Nat:=439
def JD:Nat:=440
def E3:Nat:=441
def JE:Nat:=442
def JF:Nat:=443
def vl:Nat:=444
def MT:Nat:=445
def C1:Nat:=446
def MU:Nat:=447
def JG:Nat:=448
def MV:Nat:=449
def JH:Nat:=450
def Tg:Nat:=451
def Th:Nat:=452
def Qo:Nat:=453
def rF:Nat:=454
def aj:Nat:=455
def E4:Nat:=456
def Qp:Nat:=457
def MW:Nat:=458
def Qq:Nat:=459
def xQ:Nat:=460
def jn:Nat:=461
def MX:Nat:=462
def Qr:Nat:=463
def tw:Nat:=464
def E5:Nat:=465
def wY:Nat:=466
def jB:Nat:=467
def vn:Nat:=468
def vo:Nat:=469
def Qs:Nat:=470
def Bp:Nat:=471
end Go.Ev.N
namespace Go.Ev.N
def zO:Nat:=472
def Bq:Nat:=473
def zP:Nat:=474
end Go.Ev.N
namespace Go.Ev.K
open Go.Ev
end Go.Ev.K
namespace Go.Ev
class fP [Lib]:Prop where
namespace K
variable [Lib] [fP]
end K
end Go.Ev
namespace Go.Ev
open Go
variable [Lib] [aO] [aN] [bS] [bT] [df] [bO] [bP] [cM] [cH] [a7] [bq] [cB] [cC] [fP]
end Go.Ev
namespace Go.Ev.N
def aJ:Nat:=475
def wZ:Nat:=476
def w4:Nat:=477
def tx:Nat:=478
def bQ:Nat:=479
def cg:Nat:=480
def E6:Nat:=481
def aV:Nat:=482
def aQ:Nat:=483
def bo:Nat:=484
def E7:Nat:=485
def bC:Nat:=486
def cR:Nat:=487
def bR:Nat:=488
def ai:Nat:=489
def aR:Nat:=490
def E8:Nat:=491
def Br:Nat:=492
def E9:Nat:=493
def xR:Nat:=494
def a8:Nat:=495
def cD:Nat:=496
def b5:Nat:=497
def aD:Nat:=498
def ij:Nat:=499
def Bt:Nat:=500
def Bu:Nat:=501
def jc:Nat:=502
def aC:Nat:=503
end Go.Ev.N
namespace Go.Ev.K
open Go.Ev
def cJ:C:= (.seq (.ite [m v3,m v0,u (.ln l0),u (.bin .lss l2 l0)] [] 0 .skip (.exit 0)) (.seq (.blk 1 (.ite [m v0,m v3,a 1 l1 l0,g l0,u (.ln l0),u (.bin .gtr l0 (.i 16))] [] 0 (q [u (.ca N.bQ 0 [] []),x 2 l0] [] .ret) .skip)) (.reg [m v3,u (.bin .add l0 (.i 1)),x 3 l0] [])))
def fG:C:= .loop true [2] K.cJ
def aJ:Fn:= { dj:=2,vars:=[0,1,4,5],body:=(q [x 2 (.b false)] [] (.seq (.ite [m v0,u (.ln l0),u (.bin .gtr l0 (.i 7)),m l0,e 0 false v1,y 1 false (.ln l0),y 2 false (.bin .gtr l0 (.i 30)),u (.pk l3 (.b true) l0)] [] 0 (q [u (.ca N.bQ 0 [] []),x 2 l0] [] .ret) .skip) (.seq (q [x 3 (.i 0)] [] (.blk 0 K.fG)) (q [u (.ca N.bQ 0 [] []),m l0,e 0 true v0,e 1 true v1,y 2 true (.ca N.cg 0 [] [.l 1,.l 0]),u (.pk l3 l0 (.b false)),x 2 l0] [] .ret)))),res:=[(2,none)]}
def bQ:Fn:= { dj:=0,vars:=[0,1,2,3],body:=(q [x 0 (.b false)] [] (q [u (.bs [.i 0,.i 1] 1),u (.bs [.i 0] 1),u (.bs [.l 1,.l 0] 1),u (.bs [.i 1,.i 1] 1),u (.ca N.aV 0 [] [.l 1,.l 0]),m l0,u (.ex l0 0),u (.ex l1 1),x 1 l1,x 2 l1] [] (q [u (.bs [.i 0] 1),u (.bs [.i 0] 1),u (.bs [.l 1,.l 0] 1),u (.bs [.i 1] 1),u (.ca N.bo 0 [] [.l 1,.l 0]),x 3 l0] [] (q [u (.bs [.i 0] 1),u (.bs [.i 0] 1),u (.bs [.l 1,.l 0] 1),u (.bs [.i 1] 1),u (.ca N.aQ 0 [] [.l 1,.l 0]),u (.bin .eql l0 (.i 1)),m l0,e 0 true v2,u (.pk l1 l0 (.b false)),m l0,e 0 true v1,y 1 true (.ln l0),y 2 true (.bin .eql l0 (.i 2)),u (.pk l3 l0 (.b false)),m l0,e 0 true v1,y 1 true (.ia l0 (.i 0) 1),i 2 true l0,y 3 true (.bin .eql l0 (.i 1)),u (.pk l4 l0 (.b false)),m l0,e 0 true v1,y 1 true (.ia l0 (.i 1) 1),i 2 true l0,y 3 true (.bin .eql l0 (.i 0)),u (.pk l4 l0 (.b false)),m l0,e 0 true v3,y 1 true (.ln l0),y 2 true (.bin .eql l0 (.i 2)),u (.pk l3 l0 (.b false)),x 0 l0] [] .ret)))),res:=[(0,none)]}
def cg:Fn:= { dj:=2,vars:=[0,1,4,5,6,7,8],body:=(q [x 2 (.b false)] [] (q [m v0,m v1,u (.ca N.aV 0 [] [.l 1,.l 0]),m l0,u (.ex l0 0),u (.ex l1 1),x 3 l1,x 4 l1] [] (q [m v0,m v1,u (.ca N.bC 0 [] [.l 1,.l 0]),m l0,u (.ex l0 0),u (.ex l1 1),x 5 l1,x 6 l1] [] (q [m v0,m v1,u (.ca N.aQ 0 [] [.l 1,.l 0]),m v0,m v1,u (.ca N.cR 0 [] [.l 1,.l 0]),u (.bin .eql l3 l0),m l0,e 0 true v4,e 1 true v6,y 2 true (.eqk (.bool) false l1 l0),u (.pk l3 l0 (.b false)),m l0,e 0 true v3,e 1 true v5,y 2 true (.ca N.aP 0 [] [.l 1,.l 0]),u (.pk l3 l0 (.b false)),m l0,e 0 true v0,e 1 true v1,y 2 true (.ca N.bo 0 [] [.l 1,.l 0]),e 3 true v0,e 4 true v1,y 5 true (.ca N.bR 0 [] [.l 1,.l 0]),y 6 true (.ca N.aP 0 [] [.l 3,.l 0]),u (.pk l7 l0 (.b false)),x 2 l0] [] .ret)))),res:=[(2,none)]}
def bA:C:= (.its [u (.bin .lss v14 v13)] [] 0 .skip (.exit 2) (.seq (.blk 3 (q [a 1 v12 v14,g l0,x 8 l0] [] (.seq (.ite [m v8,m v4,u (.ln l0),u (.bin .sub l0 (.i 1)),u (.ca N.dM 0 [] [.l 3,.i 0,.l 0]),u (.un .not l0),m l0,e 0 false v4,e 1 false v8,y 2 false (.ia l1 l0 1),i 3 false l0,y 4 false (.bin .lss l0 (.i 1)),u (.pk l5 (.b true) l0)] [] 0 (.exit 3) .skip) (q [m v4,m v8,a 1 l1 l0,g l0,u (.bin .sub l0 (.i 1)),a 1 l4 l3,u (.st l0 l1 1 [])] [] (.seq (.ite [m v0,m v6,u (.bin .add l0 (.i 1)),u (.sc l2 (some l0) none 1),m v4,u (.ca N.aQ 0 [] [.l 1,.l 0]),m v0,u (.ln l0),m v6,u (.bin .sub l1 l0),u (.bin .sub l0 (.i 1)),u (.bin .eql l5 l0)] [] 0 (q [m v5,m v8,u (.bs [.l 0] 1),u (.app l2 l0 true 1),x 5 l0] [] (.exit 2)) .skip) (.reg [m v4,m v8,a 1 l1 l0,g l0,u (.bin .add l0 (.i 1)),a 1 l4 l3,u (.st l0 l1 1 [])] [])))))) (.reg [u (.bin .add v14 (.i 1)),x 14 l0] [])))
def eJ:C:= .loop true [1,2,3,7,8] K.bA
def cE:C:= (.its [u (.bin .lss v11 v10)] [] 0 .skip (.exit 0) (.seq (.blk 1 (q [m v11,a 1 v9 v11,g l0,x 6 l2,x 7 l1] [] (q [m v7,u (.ca N.ay 0 [] [.l 0]),u (.ca N.aC 0 [] [.l 0]),w 12 (.ca N.aj 1 [0] [.l 0]),w 13 (.ln l0),x 14 (.i 0)] [] (.blk 2 K.eJ)))) (.reg [u (.bin .add v11 (.i 1)),x 11 l0] [])))
def gZ:C:= .loop true [1,2,3,6,7,8,12,13,14] K.cE
def aV:Fn:= { dj:=2,vars:=[0,1,4,5,6,7,8,9,11,20,21,22,30,31,32],body:=(q [w 2 (.mv (.c (.nil))),x 3 (.b false)] [] (.seq (.ite [m v0,m v1,u (.ca N.aQ 0 [] [.l 1,.l 0]),m v0,u (.ln l0),u (.bin .lss l2 l0)] [] 0 (q [w 2 (.mv (.c (.nil))),x 3 (.b false)] [] .ret) .skip) (q [m v1,u (.ca N.av 1 [] [.l 0]),x 4 l0] [] (q [w 5 (.nw 1)] [] (.seq (q [x 9 v0,w 10 (.ln l0),x 11 (.i 0)] [] (.blk 0 K.gZ)) (q [m v5,x 2 l0,x 3 (.b true)] [] .ret)))))),res:=[(2,none),(3,none)]}
def dN:C:= (.its [u (.bin .lss v7 v6)] [] 0 .skip (.exit 0) (.seq (.blk 1 (q [m v7,x 5 l0] [] (.ite [m v5,m v1,u (.ln l0),u (.mk l0 (z1) 1),u (.ca N.ai 0 [2] [.v 3,.l 3,.l 0])] [] 0 (.reg [m v4,u (.bin .add l0 (.i 1)),x 4 l0] []) .skip))) (.reg [u (.bin .add v7 (.i 1)),x 7 l0] [])))
def jC:C:= .loop false [0,2,5] K.dN
def aQ:Fn:= { dj:=2,vars:=[0,1,4,5,6,7,15,16],body:=(q [x 2 (.i 0)] [] (q [m v0,m v1,m v1,u (.ln l0),u (.mk l0 .nil 1),u (.bd [.nil,.nil,.nil] [(0,1,.l 4),(1,1,.l 3),(2,1,.l 0)]),w 3 (.al [.nil,.nil,.nil] []),u (.st l0 l1 3 [])] [] (q [x 4 (.i 0)] [] (.seq (q [m v0,w 6 (.ln l0),x 7 (.i 0)] [] (.blk 0 K.jC)) (q [m v4,x 2 l0] [] .ret))))),res:=[(2,none)]}
def dw:C:= (.seq (.ite [m v3,m v0,u (.ln l0),u (.mn [.l 0,.i 12]),u (.bin .leq l3 l0)] [] 0 .skip (.exit 0)) (.seq (.blk 1 (q [m v0,m v1,m v3,u (.ca N.aR 1 [] [.l 2,.l 1,.c (.nil),.i 0,.l 0]),x 4 l0] [] (.ite [m v4,u (.eqk (.sl) true l0 (.c (.nil)))] [] 0 (q [m v4,x 2 l0] [] .ret) .skip))) (.reg [m v3,u (.bin .add l0 (.i 1)),x 3 l0] [])))
def iL:C:= .loop true [2,4] K.dw
def bo:Fn:= { dj:=2,vars:=[0,1,4,5,6],body:=(q [w 2 (.mv (.c (.nil)))] [] (.seq (q [x 3 (.i 1)] [] (.blk 0 K.iL)) (q [w 2 (.mv (.c (.nil)))] [] .ret))),res:=[(2,none)]}
def b6:C:= (.seq (.ite [m v7,m v1,u (.ln l0),u (.bin .lss l2 l0)] [] 0 .skip (.exit 2)) (.seq (.blk 3 (.seq (.ite [m v0,m v6,a 1 l1 l0,g l0,m v7,u (.ca N.cA 0 [] [.l 1,.l 0]),u (.un .not l0),m l0,e 0 false v4,e 1 false v7,y 2 false (.ia l1 l0 1),i 3 false l0,y 4 false (.bin .leq l0 (.i 0)),u (.pk l5 (.b true) l0)] [] 0 (.exit 3) .skip) (q [m v4,m v7,a 1 l1 l0,g l0,u (.bin .sub l0 (.i 1)),a 1 l4 l3,u (.st l0 l1 1 [])] [] (.seq (.ite [m v0,m v6,u (.bin .add l0 (.i 1)),u (.sc l2 (some l0) none 1),m v4,u (.ca N.a8 0 [] [.l 1,.l 0])] [] 0 (q [m v5,m v7,u (.bs [.l 0] 1),u (.app l2 l0 true 1),x 5 l0] [] (.exit 2)) .skip) (.reg [m v4,m v7,a 1 l1 l0,g l0,u (.bin .add l0 (.i 1)),a 1 l4 l3,u (.st l0 l1 1 [])] []))))) (.reg [m v7,u (.bin .add l0 (.i 1)),x 7 l0] [])))
def iM:C:= .loop true [2,3] K.b6
def dy:C:= (.seq (.ite [m v6,m v0,u (.ln l0),u (.bin .lss l2 l0)] [] 0 .skip (.exit 0)) (.seq (.blk 1 (q [x 7 (.i 0)] [] (.blk 2 K.iM))) (.reg [m v6,u (.bin .add l0 (.i 1)),x 6 l0] [])))
def iN:C:= .loop true [2,3,7] K.dy
def bC:Fn:= { dj:=2,vars:=[0,1,4,5,6,7,8,9],body:=(q [w 2 (.mv (.c (.nil))),x 3 (.b false)] [] (.seq (.ite [m v0,m v1,u (.ca N.a8 0 [] [.l 1,.l 0]),u (.un .not l0)] [] 0 (q [w 2 (.mv (.c (.nil))),x 3 (.b false)] [] .ret) .skip) (q [m v1,u (.app (.c (.nil)) l0 true 1),x 4 l0] [] (q [w 5 (.nw 1)] [] (.seq (q [x 6 (.i 0)] [] (.blk 0 K.iN)) (q [m v5,x 2 l0,x 3 (.b true)] [] .ret)))))),res:=[(2,none),(3,none)]}
def cT:C:= (.seq (.ite [m v9,m v5,m v8,a 1 l1 l0,g l0,u (.ln l0),u (.bin .lss l5 l0)] [] 0 .skip (.exit 4)) (.seq (.blk 5 (q [m v5,m v8,a 1 l1 l0,g l0,m v9,a 1 l1 l0,g l0,x 10 l0] [] (.ite [m v10,u (.bin .geq l0 (.i 0)),m l0,e 0 true v10,e 1 true v1,y 2 true (.ln l0),y 3 true (.bin .lss l2 l0),u (.pk l4 l0 (.b false)),m l0,e 0 true v7,e 1 true v10,y 2 true (.ca N.cA 0 [] [.l 1,.l 0]),y 3 true (.un .not l0),u (.pk l4 l0 (.b false))] [] 0 (.reg [m v7,m v10,u (.bs [.l 0] 1),u (.app l2 l0 true 1),m v6,m v1,m v10,a 1 l1 l0,g l0,u (.mn [.l 0,.i 12]),u (.mx [.i 0,.l 0]),u (.bin .add l6 l0),x 7 l8,x 6 l1] [(7,0),(7,3),(8,0),(8,3)]) .skip))) (.reg [m v9,u (.bin .add l0 (.i 1)),x 9 l0] [])))
def gO:C:= .loop true [2,10] K.cT
def fQ:C:= (.seq (.ite [m v8,m v5,u (.ln l0),u (.bin .lss l2 l0)] [] 0 .skip (.exit 2)) (.seq (.blk 3 (q [x 9 (.i 0)] [] (.blk 4 K.gO))) (.reg [m v8,u (.bin .add l0 (.i 1)),x 8 l0] [])))
def kP:C:= .loop true [2,9,10] K.fQ
def fR:C:= (.seq (.ite [m v4,m v0,u (.ln l0),u (.cv .u64 l0),u (.bin .shl (.i 1) l0),u (.bin .lss l4 l0)] [] 0 .skip (.exit 0)) (.seq (.blk 1 (q [m v0,m v4,u (.ca N.cD 0 [] [.l 1,.l 0]),x 5 l0] [] (q [x 6 (.i 0)] [] (q [w 7 (.nw 1)] [] (.seq (q [x 8 (.i 0)] [] (.blk 2 K.kP)) (.reg [m v3,m v5,u (.ln l0),m v6,u (.bin .sub l1 l0),u (.mx [.l 4,.l 0]),x 3 l0] [])))))) (.reg [m v4,u (.bin .add l0 (.i 1)),x 4 l0] [])))
def kQ:C:= .loop true [2,5,6,7,8,9,10] K.fR
def cR:Fn:= { dj:=2,vars:=[0,1,4,5,6,7,8,9,10,11,12],body:=(q [x 2 (.i 0)] [] (q [x 3 (.i 0)] [] (.seq (q [x 4 (.i 1)] [] (.blk 0 K.kQ)) (q [m v0,u (.ln l0),m v3,u (.bin .sub l1 l0),x 2 l0] [] .ret)))),res:=[(2,none)]}
def dO:C:= (.seq (.ite [m v6,m v0,u (.ln l0),u (.bin .lss l2 l0)] [] 0 .skip (.exit 2)) (.seq (.blk 3 (.ite [m v4,m v6,u (.cv .u64 l0),u (.bin .shr l2 l0),u (.bin .and l0 (.i 1)),u (.bin .eql l0 (.i 1))] [] 0 (.reg [m v5,m v6,u (.bs [.l 0] 1),u (.app l2 l0 true 1),x 5 l0] []) .skip)) (.reg [m v6,u (.bin .add l0 (.i 1)),x 6 l0] [])))
def jD:C:= .loop false [2] K.dO
def aU:C:= (.seq (.ite [m v4,m v0,u (.ln l0),u (.cv .u64 l0),u (.bin .shl (.i 1) l0),u (.bin .lss l4 l0)] [] 0 .skip (.exit 0)) (.seq (.blk 1 (q [w 5 (.nw 1)] [] (.seq (q [x 6 (.i 0)] [] (.blk 2 K.jD)) (.seq (.ite [m v3,u (.eqk (.sl) true l0 (.c (.nil))),m l0,e 0 true v5,y 1 true (.ln l0),e 2 true v3,y 3 true (.ln l0),y 4 true (.bin .gtr l2 l0),e 5 true l0,e 0 false v5,y 1 false (.ln l0),e 2 false v3,y 3 false (.ln l0),y 4 false (.bin .eql l2 l0),e 5 false l0,e 0 true v5,e 1 true v3,y 2 true (.ca N.b5 0 [] [.l 1,.l 0]),y 3 true (.un .not l0),y 10 false (.pk l4 l0 (.b false)),y 17 true (.pk l11 (.b true) l0),u (.pk (.l 18) l0 (.b false)),m l0,e 0 false v0,e 1 false v4,y 2 false (.ca N.cD 0 [] [.l 1,.l 0]),e 3 false v1,y 4 false (.ca N.a8 0 [] [.l 1,.l 0]),u (.pk l5 (.b true) l0)] [] 0 (.exit 1) .skip) (.reg [m v5,x 3 l0] []))))) (.reg [m v4,u (.bin .add l0 (.i 1)),x 4 l0] [])))
def jE:C:= .loop false [2,5,6] K.aU
def bR:Fn:= { dj:=2,vars:=[0,1,4,5,6,7,8],body:=(q [w 2 (.mv (.c (.nil)))] [] (q [w 3 (.mv (.c (.nil)))] [] (.seq (q [x 4 (.i 1)] [] (.blk 0 K.jE)) (q [m v3,x 2 l0] [] .ret)))),res:=[(2,none)]}
def bw:C:= (.its [u (.bin .lss v12 v11)] [] 0 .skip (.exit 2) (.seq (.blk 3 (q [m v12,a 1 v10 v12,g l0,x 5 l2,x 6 l1] [] (.ite [m v0,m v6,m v2,u (.ca N.ai 0 [2] [.l 2,.l 1,.l 0])] [] 0 (q [m v0,u (.nc l0),f 2 l0,g l0,m v4,a 1 l1 l0,g l0,m v5,m v1,a 1 l2 l1,u (.st l0 l1 1 [])] [] (q [x 3 (.b true)] [] .ret)) .skip))) (.reg [u (.bin .add v12 (.i 1)),x 12 l0] [])))
def eC:C:= .loop true [3,5,6] K.bw
def ao:C:= (.its [u (.bin .lss v9 v8)] [] 0 .skip (.exit 0) (.seq (.blk 1 (q [a 1 v7 v9,g l0,x 4 l0] [] (.seq (.ite [m v4,m v0,u (.nc l0),f 1 l0,g l0,u (.ln l0),u (.bin .sub l0 (.i 1)),u (.ca N.dM 0 [] [.l 6,.i 0,.l 0]),u (.un .not l0),m l0,e 0 false v2,e 1 false v4,y 2 false (.ia l1 l0 1),i 3 false l0,u (.pk l4 (.b true) l0)] [] 0 (.exit 1) .skip) (q [m v2,m v4,a 1 l1 l0,u (.st l0 (.b true) 1 [])] [] (.seq (.ite [m v0,u (.nc l0),f 2 l0,g l0,m v4,a 1 l1 l0,g l0,u (.ln l0),m v0,u (.nc l0),f 1 l0,g l0,m v4,a 1 l1 l0,g l0,u (.bin .lss l7 l0)] [] 0 (q [m v0,u (.nc l0),f 2 l0,g l0,m v4,m v0,u (.nc l0),f 2 l0,g l0,m v4,a 1 l1 l0,g l0,m v1,u (.bs [.l 0] 1),u (.app l2 l0 true 1),a 1 l11 l10,u (.st l0 l1 1 [])] [(3,14),(3,15),(8,14),(10,14),(11,14)] (q [x 3 (.b true)] [] .ret)) .skip) (q [m v0,u (.nc l0),f 2 l0,g l0,m v4,a 1 l1 l0,w 10 (.ld l0 1 false),w 11 (.ln l0),x 12 (.i 0)] [] (.blk 2 K.eC))))))) (.reg [u (.bin .add v9 (.i 1)),x 9 l0] [])))
def eD:C:= .loop true [3,4,5,6,10,11,12] K.ao
def ai:Fn:= { dj:=3,vars:=[0,1,2,6,8,9,10,17,18,19,79,80,81],body:=(q [x 3 (.b false)] [] (.seq (q [m v0,u (.nc l0),f 0 l0,g l0,m v1,a 1 l1 l0,w 7 (.ld l0 1 false),w 8 (.ln l0),x 9 (.i 0)] [] (.blk 0 K.eD)) (q [x 3 (.b false)] [] .ret))),res:=[(3,none)]}
def fg:C:= (.its [u (.bin .lss v12 v11)] [] 0 .skip (.exit 0) (.seq (.blk 1 (q [a 1 v10 v12,g l0,x 7 l0] [] (.reg [m v6,m v0,m v7,a 1 l1 l0,g l0,u (.bs [.l 0] 1),u (.app l5 l0 true 1),x 6 l0] []))) (.reg [u (.bin .add v12 (.i 1)),x 12 l0] [])))
def jF:C:= .loop true [3,5,7,8,9] K.fg
def dP:C:= (.seq (.ite [m v8,m v0,u (.ln l0),u (.bin .lss l2 l0)] [] 0 .skip (.exit 2)) (.seq (.blk 3 (q [m v0,m v1,m v2,u (.ca N.aD 1 [] [.l 0]),m v8,u (.bs [.l 0] 1),u (.app l2 l0 true 1),m v8,u (.bin .add l0 (.i 1)),m v4,u (.ca N.aR 1 [] [.l 9,.l 8,.l 3,.l 1,.l 0]),x 9 l0] [] (.ite [m v9,u (.eqk (.sl) true l0 (.c (.nil)))] [] 0 (q [m v9,x 5 l0] [] .ret) .skip))) (.reg [m v8,u (.bin .add l0 (.i 1)),x 8 l0] [])))
def ed:C:= .loop true [3,5,6,7,9,10,11,12] K.dP
def aR:Fn:= { dj:=5,vars:=[0,1,2,3,4,10,11,13,14,15,20,21,22],body:=(q [w 5 (.mv (.c (.nil)))] [] (.seq (.ite [m v2,u (.ln l0),m v4,u (.bin .eql l1 l0)] [] 0 (q [w 6 (.nw 1)] [] (.seq (q [x 10 v2,w 11 (.ln l0),x 12 (.i 0)] [] (.blk 0 K.jF)) (.seq (.ite [m v6,m v1,u (.ca N.aQ 0 [] [.l 1,.l 0]),m v4,u (.bin .lss l1 l0)] [] 0 (q [m v2,x 5 l0] [] .ret) .skip) (q [w 5 (.mv (.c (.nil)))] [] .ret)))) .skip) (.seq (q [m v3,x 8 l0] [] (.blk 2 K.ed)) (q [w 5 (.mv (.c (.nil)))] [] .ret)))),res:=[(5,none)]}
def cF:C:= (.seq (.ite [m v8,m v0,m v7,a 1 l1 l0,g l0,u (.ln l0),u (.bin .lss l5 l0)] [] 0 .skip (.exit 4)) (.seq (.blk 5 (q [m v0,m v7,a 1 l1 l0,g l0,m v8,a 1 l1 l0,g l0,x 9 l0] [] (.ite [m v9,u (.bin .geq l0 (.i 0)),m l0,e 0 true v9,e 1 true v1,y 2 true (.ln l0),y 3 true (.bin .lss l2 l0),u (.pk l4 l0 (.b false)),m l0,e 0 true v6,e 1 true v9,y 2 true (.ca N.cA 0 [] [.l 1,.l 0]),y 3 true (.un .not l0),u (.pk l4 l0 (.b false))] [] 0 (.reg [m v6,m v9,u (.bs [.l 0] 1),u (.app l2 l0 true 1),m v5,m v1,m v9,a 1 l1 l0,g l0,u (.mn [.l 0,.i 12]),u (.mx [.i 0,.l 0]),u (.bin .add l6 l0),x 6 l8,x 5 l1] [(7,0),(7,3),(8,0),(8,3)]) .skip))) (.reg [m v8,u (.bin .add l0 (.i 1)),x 8 l0] [])))
def fS:C:= .loop true [2,9] K.cF
def dQ:C:= (.seq (.ite [m v7,m v0,u (.ln l0),u (.bin .lss l2 l0)] [] 0 .skip (.exit 2)) (.seq (.blk 3 (.seq (.ite [m v3,m v7,u (.cv .u64 l0),u (.bin .shr l2 l0),u (.bin .and l0 (.i 1)),u (.bin .eql l0 (.i 0))] [] 0 (.exit 3) .skip) (q [m v4,u (.bin .add l0 (.i 1)),x 4 l0] [] (q [x 8 (.i 0)] [] (.blk 4 K.fS))))) (.reg [m v7,u (.bin .add l0 (.i 1)),x 7 l0] [])))
def jG:C:= .loop true [2,8,9] K.dQ
def dR:C:= (.seq (.ite [m v3,m v0,u (.ln l0),u (.cv .u64 l0),u (.bin .shl (.i 1) l0),u (.bin .lss l4 l0)] [] 0 .skip (.exit 0)) (.seq (.blk 1 (q [x 4 (.i 0),x 5 (.i 0)] [] (q [w 6 (.nw 1)] [] (.seq (q [x 7 (.i 0)] [] (.blk 2 K.jG)) (.ite [m v5,m v4,u (.bin .lss l1 l0)] [] 0 (q [x 2 (.b false)] [] .ret) .skip))))) (.reg [m v3,u (.bin .add l0 (.i 1)),x 3 l0] [])))
def jH:C:= .loop true [2,4,5,6,7,8,9] K.dR
def a8:Fn:= { dj:=2,vars:=[0,1,4,5,6,7,8,9,10,11],body:=(q [x 2 (.b false)] [] (.seq (q [x 3 (.i 1)] [] (.blk 0 K.jH)) (q [x 2 (.b true)] [] .ret))),res:=[(2,none)]}
end Go.Ev.K
namespace Go.Ev
class du [Lib]:Prop where
 ec:Lib.fs N.aJ=some K.aJ
 kR:Lib.fs N.bQ=some K.bQ
 gP:Lib.fs N.cg=some K.cg
 fh:Lib.fs N.aV=some K.aV
 gQ:Lib.fs N.aQ=some K.aQ
 fT:Lib.fs N.bo=some K.bo
 fU:Lib.fs N.bC=some K.bC
 iP:Lib.fs N.cR=some K.cR
 gR:Lib.fs N.bR=some K.bR
 cm:Lib.fs N.ai=some K.ai
 eS:Lib.fs N.aR=some K.aR
 gS:Lib.fs N.a8=some K.a8
namespace K
variable [Lib] [du]
theorem ec:Lib.fs N.aJ=some K.aJ:=du.ec
theorem kR:Lib.fs N.bQ=some K.bQ:=du.kR
theorem gP:Lib.fs N.cg=some K.cg:=du.gP
theorem fh:Lib.fs N.aV=some K.aV:=du.fh
theorem gQ:Lib.fs N.aQ=some K.aQ:=du.gQ
theorem fT:Lib.fs N.bo=some K.bo:=du.fT
theorem fU:Lib.fs N.bC=some K.bC:=du.fU
theorem iP:Lib.fs N.cR=some K.cR:=du.iP
theorem gR:Lib.fs N.bR=some K.bR:=du.gR
theorem cm:Lib.fs N.ai=some K.ai:=du.cm
theorem eS:Lib.fs N.aR=some K.aR:=du.eS
theorem gS:Lib.fs N.a8=some K.a8:=du.gS
end K
end Go.Ev
namespace Go.Ev
open Go
variable [Lib] [aO] [aN] [bS] [bT]
theorem zQ{α β γ:Type}{f:β→Option γ}{g:α→β}{h:α→γ}:∀ {l:List α},(∀x∈l,f (g x)=some (h x))→aB f (l.map g)=some (l.map h)
 | [],_=>rfl
 | a::l,hh=>by
   have ih:=zQ (f:=f) (g:=g) (h:=h) (l:=l) fun x hx=>hh x (List.mem_cons_of_mem _ hx)
   simp only[List.map_cons,aB,hh a List.mem_cons_self,aLq,ih,aLw]
theorem p9{H:ab}:∀ {a b:List Nat} {x y:ab},pick H a=some x→pick H b=some y→pick H (a++b)=some (x++y)
 | [],b,x,y,hx,hy=>by cases hx;exact hy
 | i::a,b,x,y,hx,hy=>by
   simp only[pick]at hx
   cases ho:H[i]? with
   | none=>rw[ho]at hx;simp at hx
   | some o=>
     rw[ho,aLq]at hx
     cases hp:pick H a with
     | none=>rw[hp]at hx;simp at hx
     | some z=>
       rw[hp]at hx
       simp only[aLw,Option.some.injEq]at hx
       subst hx
       simp only[List.cons_append,pick,ho,aLq,p9 hp hy,aLw]
end Go.Ev
namespace Go.Ev
open Go
variable [Lib] [aO] [aN] [bS] [bT] [df] [bO] [bP] [cM] [cH] [a7] [bq] [cB] [cC] [fP] [du]
abbrev bls(l:List Bool):List D:=(l.map Ev.T.bool).map .t
abbrev arA(l:List Int):Obj:= .arr 1 false 0 (ints l)
def rk(G:List (List Int)):Nat→Nat
 | 0=>0
 | n+1=>rk G n+if nth G n=[]then 0 else 1
def idT(G:List (List Int))(f:Nat→Nat):Nat→List Nat
 | 0=>[]
 | m+1=>idT G f m++if nth G m=[]then []else [f m]
def esT(G:List (List Int))(f:Nat→Nat):Nat→List D
 | 0=>[]
 | m+1=>esT G f m++[if nth G m=[]then .nil else .ref (f m) 0 (nth G m).length]
def aT(G G2:List (List Int)):Nat→ab
 | 0=>[]
 | m+1=>aT G G2 m++if nth G m=[]then []else [arA (nth G2 m)]
theorem lV(G:List (List Int))(f:Nat→Nat):∀m,(idT G f m).length=rk G m
 | 0=>rfl
 | m+1=>by
   have ih:=lV G f m
   rw[idT,rk,aLv,ih]
   split<;>rfl
theorem fj(G G2:List (List Int)):∀m,(aT G G2 m).length=rk G m
 | 0=>rfl
 | m+1=>by
   have ih:=fj G G2 m
   rw[aT,rk,aLv,ih]
   split<;>rfl
theorem fV(G:List (List Int))(f:Nat→Nat):∀m,(esT G f m).length=m
 | 0=>rfl
 | m+1=>by rw[esT,aLv,fV G f m];rfl
theorem JI(G:List (List Int)){n m:Nat}(h:n≤m):rk G n≤rk G m:=by
 induction m with
 | zero=>rw[show n=0 by omega];exact aLs _
 | succ m ih=>
   by_cases e:n=m+1
   · rw[e];exact aLs _
   · have:=ih (by omega)
     rw[rk];omega
theorem ot(G:List (List Int)){n m:Nat}(h:n<m)(hn:nth G n≠[]):rk G n<rk G m:=by
 have:=JI G (n:=n+1) (m:=m) (by omega)
 rw[rk,if_neg hn]at this
 omega
theorem qa(G:List (List Int))(f:Nat→Nat){n:Nat}(hn:nth G n≠[]):∀m,n<m→(idT G f m)[rk G n]?=some (f n)
 | 0,h=>by omega
 | m+1,h=>by
   rw[idT]
   by_cases e:n=m
   · subst e
     rw[if_neg hn,aLh (by rw[lV];exact aLs _),lV,Nat.sub_self];rfl
   · have ih:=qa G f hn m (by omega)
     rw[aLg (by rw[lV];exact ot G (by omega) hn)]
     exact ih
theorem vq(G G2:List (List Int)){n:Nat}(hn:nth G n≠[]):∀m,n<m→(aT G G2 m)[rk G n]?=some (arA (nth G2 n))
 | 0,h=>by omega
 | m+1,h=>by
   rw[aT]
   by_cases e:n=m
   · subst e
     rw[if_neg hn,aLh (by rw[fj];exact aLs _),fj,Nat.sub_self];rfl
   · have ih:=vq G G2 hn m (by omega)
     rw[aLg (by rw[fj];exact ot G (by omega) hn)]
     exact ih
theorem qb(G:List (List Int))(f:Nat→Nat){n:Nat}:∀m,n<m→(esT G f m)[n]?=some (if nth G n=[]then .nil else .ref (f n) 0 (nth G n).length)
 | 0,h=>by omega
 | m+1,h=>by
   rw[esT]
   by_cases e:n=m
   · subst e
     rw[aLh (by rw[fV];exact aLs _),fV,Nat.sub_self];rfl
   · rw[aLg (by rw[fV];omega)]
     exact qb G f m (by omega)
theorem qc(G:List (List Int))(f:Nat→Nat):∀m,(esT G f m).flatMap (ids depth)=idT G f m
 | 0=>rfl
 | m+1=>by
   rw[esT,idT,List.flatMap_append,qc G f m]
   congr 1
   split<;>rfl
theorem kS:∀ {l sel:List Nat},(sel++l).Nodup→a6 sel l=sel++l
 | [],sel,_=>by simp[a6]
 | i::r,sel,h=>by
   have hi:sel.contains i=false:=by
    rw[Bool.eq_false_iff]
    intro hc
    have hc:=List.contains_iff_mem.1 hc
    exact(List.nodup_append.1 h).2.2 i hc i List.mem_cons_self rfl
   rw[a6,hi]
   simp only[aLt,if_false]
   rw[kS (by simpa using h)]
   simp
theorem lW:∀ {l sel:List Nat},(∀x∈l,x∈sel)→a6 sel l=sel
 | [],sel,_=>rfl
 | i::r,sel,h=>by
   have hi:sel.contains i=true:=List.contains_iff_mem.2 (h i List.mem_cons_self)
   rw[a6,hi]
   simp only[if_true]
   exact lW fun x hx=>h x (List.mem_cons_of_mem _ hx)
structure r7(K:ab)(b q g:Nat)(f:Nat→Nat)(W:List (List Int))(S:List Int)(T:List Bool)(G:List (List Int)):Prop where
 hb:K[b]?=some (.box [.t (.sl (W.map tL)),.t (tL S),.ref g 0 G.length])
 hq:K[q]?=some (.arr 1 false 0 (bls T))
 hg:K[g]?=some (.arr 1 false 0 (esT G f G.length))
 hf:∀n,n<G.length→nth G n≠[]→K[f n]?=some (arA (nth G n))
 nd:([b,q,g]++idT G f G.length).Nodup
abbrev eE(W:List (List Int))(S:List Int)(T:List Bool)(G2:List (List Int))(f:Nat→Nat)(A:ab):ab:= .box [.t (.sl (W.map tL)),.t (tL S),.ref 2 0 G2.length]:: .arr 1 false 0 (bls T):: .arr 1 false 0 (esT G2 f G2.length)::A
abbrev cU(W:List (List Int))(S:List Int)(T:List Bool)(G:List (List Int)):ab:=eE W S T G (fun n=>3+rk G n) (aT G G G.length)
theorem tz(T:List Bool):(bls T).flatMap (ids depth)=[]:=yR 8 _
theorem tA(l:List Int):(arA l).ds.flatMap (ids depth)=[]:=yR 8 _
theorem r7.rch{K:ab}{b q g:Nat}{f:Nat→Nat}{W:List (List Int)}{S:List Int}{T:List Bool}{G:List (List Int)}(h:r7 K b q g f W S T G)(i:Int)(n:Nat):
 reach K 3 (a6 [] (oD 8 [.bp b 0,I i,.ref q 0 n]))=[b,q,g]++idT G f G.length:=by
 have nd:=h.nd
 have n3:([b,q,g]:List Nat).Nodup:=(List.nodup_append.1 nd).1
 have n2:([b,q]:List Nat).Nodup:=by
  have:List.Sublist [b,q] [b,q,g]:=by simp
  exact n3.sublist this
 have s0:a6 [] (oD 8 [.bp b 0,I i,.ref q 0 n])=[b,q]:=kS (l:=[b,q]) (sel:=[]) n2
 have i2:dS K [b,q]=[g]:=by
  simp only[dS,List.flatMap_cons,List.flatMap_nil,h.hb,h.hq,Obj.ds,tz]
  rfl
 have s1:a6 [b,q] [g]=[b,q,g]:=kS (l:=[g]) (sel:=[b,q]) n3
 have i3:dS K [b,q,g]=g::idT G f G.length:=by
  simp only[dS,List.flatMap_cons,List.flatMap_nil,h.hb,h.hq,h.hg,Obj.ds,tz,qc]
  simp[ids,depth]
 have s2:a6 [b,q,g] (g::idT G f G.length)=[b,q,g]++idT G f G.length:=by
  have:([b,q,g]:List Nat).contains g=true:=List.contains_iff_mem.2 (by simp)
  rw[a6,this]
  simp only[if_true]
  exact kS nd
 have i4:∀x∈dS K ([b,q,g]++idT G f G.length),x∈[b,q,g]++idT G f G.length:=by
  intro x hx
  unfold dS at hx
  rw[List.flatMap_append,List.mem_append]at hx
  rcases hx with hx | hx
  · have hx:x∈dS K [b,q,g]:=hx
    rw[i3]at hx
    rcases List.mem_cons.1 hx with e | e
    · subst e;simp
    · exact List.mem_append_right _ e
  · obtain⟨j,hj,hx⟩:=List.mem_flatMap.1 hx
    have:∃n,n<G.length∧nth G n≠[]∧j=f n:=by
     have key:∀m,j∈idT G f m→∃n,n<m∧nth G n≠[]∧j=f n:=by
      intro m
      induction m with
      | zero=>intro h;simp[idT]at h
      | succ m ih=>
        intro h
        rw[idT,List.mem_append]at h
        rcases h with h | h
        · obtain⟨n,a,b,c⟩:=ih h;exact⟨n,by omega,b,c⟩
        · split at h
          · simp at h
          · rename_i hm;exact⟨m,by omega,hm,by simpa using h⟩
     exact key _ hj
    obtain⟨n,hn,hne,rfl⟩:=this
    rw[h.hf n hn hne]at hx
    simp only[tA]at hx
    simp at hx
 simp only[reach,s0,i2,s1,i3,s2,lW i4]
theorem r7.tB{K:ab}{b q g:Nat}{f:Nat→Nat}{W:List (List Int)}{S:List Int}{T:List Bool}{G:List (List Int)}(h:r7 K b q g f W S T G){n:Nat}(hn:n<G.length)(hne:nth G n≠[]):
 ([b,q,g]++idT G f G.length)[3+rk G n]?=some (f n):=by
 rw[aLh (by simp),show 3+rk G n-[b,q,g].length=rk G n by simp]
 exact qa G f hne _ hn
theorem r7.ix{K:ab}{b q g:Nat}{f:Nat→Nat}{W:List (List Int)}{S:List Int}{T:List Bool}{G:List (List Int)}(h:r7 K b q g f W S T G){n:Nat}(hn:n<G.length)(hne:nth G n≠[]):
 idxOf ([b,q,g]++idT G f G.length) (f n)=some (3+rk G n):=dE _ _ _ h.nd (h.tB hn hne)
theorem r7.ix3{K:ab}{b q g:Nat}{f:Nat→Nat}{W:List (List Int)}{S:List Int}{T:List Bool}{G:List (List Int)}(h:r7 K b q g f W S T G):
 idxOf ([b,q,g]++idT G f G.length) b=some 0∧idxOf ([b,q,g]++idT G f G.length) q=some 1∧idxOf ([b,q,g]++idT G f G.length) g=some 2:=
 ⟨dE _ _ _ h.nd rfl,dE _ _ _ h.nd rfl,dE _ _ _ h.nd rfl⟩
theorem ou{u:Nat→Option Nat}{G:List (List Int)}{f f2:Nat→Nat}:∀m,(∀n,n<m→nth G n≠[]→u (f n)=some (f2 n))→aB (ren u depth) (esT G f m)=some (esT G f2 m)
 | 0,_=>rfl
 | m+1,h=>by
   have ih:=ou m fun n hn=>h n (by omega)
   rw[esT,esT]
   refine m8 ih ?_
   by_cases e:nth G m=[]
   · rw[if_pos e,if_pos e];rfl
   · rw[if_neg e,if_neg e]
     have:=h m (by omega) e
     simp only[aB,ren,depth,this,aLw,aLq]
theorem Fa{u:Nat→Option Nat}{G G2:List (List Int)}:∀m,aB (aS u) (aT G G2 m)=some (aT G G2 m)
 | 0=>rfl
 | m+1=>by
   rw[aT]
   refine m8 (Fa m) ?_
   split
   · rfl
   · simp only[aB,aS,ints,gL,aLw,aLq]
theorem r7.pk{K:ab}{b q g:Nat}{f:Nat→Nat}{W:List (List Int)}{S:List Int}{T:List Bool}{G:List (List Int)}(h:r7 K b q g f W S T G):
 pick K ([b,q,g]++idT G f G.length)=some ([.box [.t (.sl (W.map tL)),.t (tL S),.ref g 0 G.length],.arr 1 false 0 (bls T),.arr 1 false 0 (esT G f G.length)]++aT G G G.length):=by
 have p3:pick K [b,q,g]=some [.box [.t (.sl (W.map tL)),.t (tL S),.ref g 0 G.length],.arr 1 false 0 (bls T),.arr 1 false 0 (esT G f G.length)]:=by
  simp only[pick,h.hb,h.hq,h.hg,aLq,aLw]
 have key:∀m,m≤G.length→pick K (idT G f m)=some (aT G G m):=by
  intro m
  induction m with
  | zero=>intro _;rfl
  | succ m ih=>
    intro hm
    rw[idT,aT]
    refine p9 (ih (by omega)) ?_
    by_cases e:nth G m=[]
    · rw[if_pos e,if_pos e];rfl
    · rw[if_neg e,if_neg e]
      simp only[pick,h.hf m (by omega) e,aLq,aLw]
 exact p9 p3 (key _ (aLs _))
theorem r7.call{K:ab}{b q g:Nat}{f:Nat→Nat}{W:List (List Int)}{S:List Int}{T:List Bool}{G:List (List Int)}(h:r7 K b q g f W S T G)(i:Int)(n:Nat):
 yM K bD N.ai 0 [2] [.bp b 0,I i,.ref q 0 n]=(bD 0 N.ai [.bp 0 0,I i,.ref 1 0 n] (cU W S T G)).bind (ft K K ([b,q,g]++idT G f G.length)):=by
 obtain⟨x0,x1,x2⟩:=h.ix3
 have ar:jh K [2] 0 [.bp b 0,I i,.ref q 0 n]=some [.bp b 0,I i,.ref q 0 n]:=by simp only[go_sem]
 have fz:bf K [2] 0 [.bp b 0,I i,.ref q 0 n]=[]:=by simp only[go_sem]
 have rn:aB (ren (idxOf ([b,q,g]++idT G f G.length)) 8) [.bp b 0,I i,.ref q 0 n]=some [.bp 0 0,I i,.ref 1 0 n]:=by
  simp only[aB,ren,x0,x1,aLw,aLq]
 have ro:aB (aS (idxOf ([b,q,g]++idT G f G.length))) ([.box [.t (.sl (W.map tL)),.t (tL S),.ref g 0 G.length],.arr 1 false 0 (bls T),.arr 1 false 0 (esT G f G.length)]++aT G G G.length)=some (cU W S T G):=by
  refine m8 (x:=[.box [.t (.sl (W.map tL)),.t (tL S),.ref 2 0 G.length],.arr 1 false 0 (bls T),.arr 1 false 0 (esT G (fun n=>3+rk G n) G.length)]) ?_ (Fa _)
  have e1:aB (ren (idxOf ([b,q,g]++idT G f G.length)) 8) (esT G f G.length)=some (esT G (fun n=>3+rk G n) G.length):=ou (u:=idxOf ([b,q,g]++idT G f G.length)) (f2:=fun n=>3+rk G n) G.length (fun n hn hne=>h.ix hn hne)
  have e2:aB (ren (idxOf ([b,q,g]++idT G f G.length)) 8) (bls T)=some (bls T):=gL _ _
  simp only[aB,aS,ren,depth,x2,aLw,aLq]
  rw[e1,e2]
  rfl
 rw[B7,B8,ar,aLq,B9,h.rch,Ca,rn,aLq,fz,Cb]
 simp only[pins]
 rw[h.pk,aLq,Cc,ro,aLq,Cd]
theorem zR(G:List (List Int)):∀m,idT G (fun n=>3+rk G n) m=List.range' 3 (rk G m)
 | 0=>rfl
 | m+1=>by
   rw[idT,zR G m,rk]
   split
   · simp
   · rw[List.range'_concat];simp
theorem fW(W:List (List Int))(S:List Int)(T:List Bool)(G:List (List Int)):(cU W S T G).length=3+rk G G.length:=by
 simp only[cU,eE,List.length_cons,fj];omega
theorem zS(W:List (List Int))(S:List Int)(T:List Bool)(G:List (List Int)):[0,1,2]++idT G (fun n=>3+rk G n) G.length=List.range (cU W S T G).length:=by
 rw[zR,fW,List.range_eq_range',show [0,1,2]=List.range' 0 3 from rfl]
 have:=List.range'_append (s:=0) (m:=3) (n:=rk G G.length) (step:=1)
 simpa using this
theorem tC(W:List (List Int))(S:List Int)(T:List Bool)(G:List (List Int)):r7 (cU W S T G) 0 1 2 (fun n=>3+rk G n) W S T G where
 hb:=rfl
 hq:=rfl
 hg:=rfl
 hf n hn hne:=by
  have:=vq G G hne G.length hn
  show(cU W S T G)[3+rk G n]?=_
  rw[show 3+rk G n=rk G n+1+1+1 by omega]
  simp only[cU,eE,List.getElem?_cons_succ]
  exact this
 nd:=by rw[zS W S T G];exact List.nodup_range
theorem w5(n:Nat):aM (List.range n) n=some:=by
 funext i
 unfold aM
 rw[List.length_range]
 split
 · rename_i h;rw[aLp h]
 · congr 1;omega
theorem qd{α:Type}:∀(a b:List α),a.length=b.length→aA a (List.range a.length) b=b:=by
 have key:∀(b a pre:List α),a.length=b.length→aA (pre++a) (List.range' pre.length a.length) b=pre++b:=by
  intro b
  induction b with
  | nil=>
    intro a pre h
    have:a=[]:=List.length_eq_zero_iff.1 h
    subst this;rfl
  | cons x b ih=>
    intro a pre h
    cases a with
    | nil=>simp at h
    | cons y a=>
      simp only[List.length_cons,List.range'_succ,aA]
      rw[List.set_append_right _ _ (aLs _),Nat.sub_self,List.set_cons_zero]
      have:=ih a (pre++[x]) (by simpa using h)
      simp only[aLv,List.length_cons,List.length_nil,Nat.zero_add,List.append_assoc,List.singleton_append]at this
      exact this
 intro a b h
 have:=key b a [] h
 rw[List.range_eq_range']
 simpa using this
theorem C2{K os:ab}(hk:0<K.length)(hl:K.length≤os.length)(ho:aB (aS some) os=some os)(x:Bool):ft K K (List.range K.length) (B x,os)=some (B x,os):=by
 have e:ft K K (List.range K.length) (B x,os)=(ren (aM (List.range K.length) K.length) depth (B x)).bind fun r'=>(aB (aS (aM (List.range K.length) K.length)) os).map fun os=>(r',aA K (List.range K.length) (os.take (List.range K.length).length)++os.drop (List.range K.length).length):=by
  unfold ft
  have:(List.range K.length).isEmpty=false:=by
   cases K with
   | nil=>simp at hk
   | cons a r=>simp[List.range_succ]
  simp only[this,Bool.false_and,aLt,if_false]
  rfl
 rw[e,w5,ho]
 simp only[ren,depth,aLq,aLw,List.length_range]
 rw[qd _ _ (by rw[List.length_take];omega),List.take_append_drop]
theorem vr{W:List (List Int)}{S:List Int}{T:List Bool}{G:List (List Int)}{f:Nat→Nat}{A:ab}(hA:∀o∈A,∃l,o=arA l):aB (aS some) (eE W S T G f A)=some (eE W S T G f A):=by
 have e1:aB (ren some 8) (esT G f G.length)=some (esT G f G.length):=ou (u:=some) (f2:=f) G.length (fun n _ _=>rfl)
 have e2:aB (ren some 8) (bls T)=some (bls T):=gL _ _
 have e3:aB (aS some) A=some A:=by
  refine pZ fun o ho=>?_
  obtain⟨l,rfl⟩:=hA o ho
  simp only[aS,ints,gL,aLw]
 simp only[eE,aB,aS,ren,depth,aLw,aLq]
 rw[e1,e2,e3];rfl
theorem mP(G G2:List (List Int)):∀m,∀o∈aT G G2 m,∃l,o=arA l
 | 0,o,h=>by simp[aT]at h
 | m+1,o,h=>by
   rw[aT,List.mem_append]at h
   rcases h with h | h
   · exact mP G G2 m o h
   · split at h
     · simp at h
     · exact⟨_,List.mem_singleton.1 h⟩
theorem C3(W:List (List Int))(S:List Int)(T:List Bool)(G:List (List Int))(i:Int)(n:Nat){x:Bool}{os:ab}(h:bD 0 N.ai [.bp 0 0,I i,.ref 1 0 n] (cU W S T G)=some (B x,os))(hl:3+rk G G.length≤os.length)(ho:aB (aS some) os=some os):
 yM (cU W S T G) bD N.ai 0 [2] [.bp 0 0,I i,.ref 1 0 n]=some (B x,os):=by
 rw[(tC W S T G).call i n,h,aLq,zS W S T G]
 exact C2 (by rw[fW];omega) (by rw[fW];exact hl) ho x
abbrev Tb(T:List Bool):Nat→Bool:=fun n=>nth T n
def left(T:List Bool):Nat:=(T.filter fun x=> !x).length
theorem vt:∀ {T:List Bool} {n:Nat},n<T.length→nth T n=false→left (T.set n true)<left T
 | [],n,h,_=>by simp at h
 | a::r,0,h,e=>by
   have:a=false:=e
   subst this
   simp[left]
 | a::r,n+1,h,e=>by
   have ih:=vt (T:=r) (n:=n) (by simpa using h) e
   unfold left at ih ⊢
   simp only[List.set_cons_succ,List.filter_cons]
   split
   · simp only[List.length_cons];omega
   · exact ih
def fK(G:List (List Int))(n:Nat):Nat:=if nth G n=[]then 3+rk G G.length else 3+rk G n
structure vu(G G2:List (List Int))(x:ab):Prop where
 keep:∀n,nth G n≠[]→nth G2 n≠[]
 new:(x=[]∧∀n,nth G n=[]→nth G2 n=[])∨∃n0,n0<G.length∧nth G n0=[]∧nth G2 n0≠[]∧x=[arA (nth G2 n0)]∧∀n,n≠n0→nth G n=[]→nth G2 n=[]
def C4(W:List (List Int))(S:List Int)(G:List (List Int))(i:Int)(T:List Bool)(r:Bool×ab):Prop:=
 (∃G2 T2 x,r=(true,eE W S T2 G2 (fK G) (aT G G2 G.length++x))∧fN W S G i (Tb T) G2∧vu G G2 x∧T2.length=T.length)∨
 ∃T2,r=(false,cU W S T2 G)∧oo W S G i (Tb T) (Tb T2)∧T2.length=T.length∧left T2≤left T
theorem vv{G G2:List (List Int)}{x:ab}(h:vu G G2 x):∀o∈aT G G2 G.length++x,∃l,o=arA l:=by
 intro o ho
 rcases List.mem_append.1 ho with a | a
 · exact mP _ _ _ o a
 · rcases h.new with⟨e,_⟩ | ⟨n0,_,_,_,e,_⟩
   · rw[e]at a;simp at a
   · rw[e]at a;exact⟨_,List.mem_singleton.1 a⟩
theorem w6{W:List (List Int)}{S:List Int}{T:List Bool}{G:List (List Int)}{i:Int}{n:Nat}{r:Bool×ab}(h:bD 0 N.ai [.bp 0 0,I i,.ref 1 0 n] (cU W S T G)=some (B r.1,r.2))(d:C4 W S G i T r):
 yM (cU W S T G) bD N.ai 0 [2] [.bp 0 0,I i,.ref 1 0 n]=some (B r.1,r.2):=by
 refine C3 W S T G i n h ?_ ?_
 · rcases d with⟨G2,T2,x,rfl, -,nx, -⟩ | ⟨T2,rfl, -⟩
   · simp only[eE,List.length_cons,aLv,fj];omega
   · rw[fW];exact aLs _
 · rcases d with⟨G2,T2,x,rfl, -,nx, -⟩ | ⟨T2,rfl, -⟩
   · exact vr (vv nx)
   · exact vr (mP _ _ _)
theorem qe{G:List (List Int)}{n:Nat}(hn:n<G.length)(l:List Int){a:Int}(h:l.Perm (a::nth G n)):(kJ (G.set n l)).Perm (a::kJ G):=by
 have e:G=G.take n++nth G n::G.drop (n+1):=by
  have:nth G n=G[n]:=by unfold nth;rw[aLl,aLc hn];rfl
  rw[this,←List.drop_eq_getElem_cons hn,List.take_append_drop]
 rw[iI,iI,List.set_eq_take_append_cons_drop,if_pos hn]
 conv=>rhs;rw[e]
 simp only[List.flatten_append,List.flatten_cons]
 refine(List.Perm.append_left _ (List.Perm.append_right _ h)).trans ?_
 simp only[List.cons_append]
 exact List.perm_middle
theorem cK{l:List (List Int)}{i:Nat}{a:List Int}(h:i<l.length):nth (l.set i a) i=a:=by
 unfold nth
 rw[aLl,aLj h];rfl
theorem bc{l:List (List Int)}{i j:Nat}{a:List Int}(h:j≠i):nth (l.set j a) i=nth l i:=by
 unfold nth
 rw[aLl,aLl,aLi h]
theorem gu{l:List Int}{k:Nat}(h:k<l.length):l[k]?=some (nth l k):=by
 unfold nth
 rw[aLc h,aLl,aLc h];rfl
theorem w7{W:List (List Int)}{S:List Int}{G:List (List Int)}(h:GI W S G){i n:Nat}(hi:i<W.length)(hn:n<S.length)(hw:(n:Int)∈nth W i)(hc:((nth G n).length:Int)<nth S n){T:List Bool}(ht:nth T n=false):
 fN W S G i (Tb T) (G.set n (nth G n++[(i:Int)])):=by
 have gl:=h.len
 refine⟨⟨by simpa using gl,fun m hm hne=>?_,fun m hm j hj=>?_⟩,qe (by omega) _ ?_,fun m hm=>?_,fun U hU=>⟨fun m hm hu=>?_,fun hs=>?_⟩⟩
 · by_cases e:m=n
   · subst e;rw[cK (by omega)];simp only[aLv,List.length_singleton];omega
   · rw[bc (fun k=>e k.symm)]at hne ⊢;exact h.cap m hm hne
 · by_cases e:m=n
   · subst e
     rw[cK (by omega)]at hj
     rcases List.mem_append.1 hj with a | a
     · exact h.wnt m hm j a
     · rw[List.mem_singleton.1 a];exact⟨by omega,by omega,by simpa using hw⟩
   · rw[bc (fun k=>e k.symm)]at hj;exact h.wnt m hm j hj
 · exact List.perm_append_singleton _ _
 · have e:n≠m:=fun k=>by subst k;simp only[Tb]at hm;rw[ht]at hm;simp at hm
   rw[bc e]
 · have e:n≠m:=fun k=>by subst k;have:=(hU n hn hu).1;omega
   rw[bc e]
 · have:=(hU n hn (hs n hn (by simpa using hw))).1;omega
theorem w8{W:List (List Int)}{S:List Int}{G G1:List (List Int)}(h:GI W S G){i n k:Nat}(hi:i<W.length)(hn:n<S.length)(hw:(n:Int)∈nth W i)(hk:k<(nth G n).length){T T1:List Bool}(ht:nth T n=false)
 (hT:∀m,nth T m=true→nth T1 m=true) (h1:nth T1 n=true) (p:fN W S G (nth (nth G n) k) (Tb T1) G1):fN W S G i (Tb T) (G1.set n ((nth G n).set k i)):=by
 have gl:=p.gi.len
 have e1:nth G1 n=nth G n:=p.old n h1
 have hp:((nth G n).set k (i:Int)).length=(nth G1 n).length:=by rw[List.length_set,e1]
 refine⟨⟨by simpa using gl,fun m hm hne=>?_,fun m hm j hj=>?_⟩,?_,fun m hm=>?_,fun U hU=>?_⟩
 · by_cases e:m=n
   · subst e;rw[cK (by omega),hp];exact p.gi.cap m hm (fun k=>by rw[e1]at k;rw[k]at hk;simp at hk)
   · rw[bc (fun k=>e k.symm)]at hne ⊢;exact p.gi.cap m hm hne
 · by_cases e:m=n
   · subst e
     rw[cK (by omega)]at hj
     rcases aLk hj with a | a
     · exact h.wnt m hm j a
     · rw[a];exact⟨by omega,by omega,by simpa using hw⟩
   · rw[bc (fun k=>e k.symm)]at hj;exact p.gi.wnt m hm j hj
 · -- the other list is placed elsewhere,this one has its seat
   have ek:(nth G n)[k]?=some (nth (nth G n) k):=gu hk
   have c1:((nth G n).set k (i:Int)).Perm (i::(nth G n).eraseIdx k):=by
    rw[List.set_eq_take_append_cons_drop,if_pos hk,List.eraseIdx_eq_take_drop_succ]
    exact List.perm_middle
   have c2:(nth G n).Perm (nth (nth G n) k::(nth G n).eraseIdx k):=by
    have:nth G n=(nth G n).take k++nth (nth G n) k::(nth G n).drop (k+1):=by
     have q:nth (nth G n) k=(nth G n)[k]:=by have:=ek;rw[aLc hk]at this;exact(Option.some.inj this).symm
     rw[q,←List.drop_eq_getElem_cons hk,List.take_append_drop]
    rw[List.eraseIdx_eq_take_drop_succ]
    exact(List.Perm.of_eq this).trans List.perm_middle
   have q1:(kJ (G1.set n ((nth G n).set k (i:Int)))).Perm (i::kJ (G1.set n ((nth G n).eraseIdx k))):=by
    have:=qe (G:=G1.set n ((nth G n).eraseIdx k)) (n:=n) (by simpa using by omega) ((nth G n).set k (i:Int)) (a:=i) (by rw[cK (by omega)];exact c1)
    rw[List.set_set]at this
    exact this
   have q2:(kJ G1).Perm (nth (nth G n) k::kJ (G1.set n ((nth G n).eraseIdx k))):=by
    have:=qe (G:=G1.set n ((nth G n).eraseIdx k)) (n:=n) (by simpa using by omega) (nth G n) (a:=nth (nth G n) k) (by rw[cK (by omega)];exact c2)
    rw[List.set_set]at this
    have eG:G1.set n (nth G n)=G1:=by
     apply List.ext_getElem?
     intro m
     by_cases e:n=m
     · subst e
       rw[aLj (by omega),←e1]
       unfold nth
       rw[aLl,aLc (by omega)];rfl
     · rw[aLi e]
    rwa [eG]at this
   have q3:(kJ (G1.set n ((nth G n).eraseIdx k))).Perm (kJ G):=List.Perm.cons_inv (q2.symm.trans p.pm)
   exact q1.trans (q3.cons _)
 · have e:n≠m:=fun k=>by subst k;simp only[Tb]at hm;rw[ht]at hm;simp at hm
   rw[bc e]
   exact p.old m (hT m hm)
 · obtain⟨u1,u2⟩:=p.clo U hU
   have nu:¬U n:=fun hu=>u2 fun x hx hx2=>(hU n hn hu).2 _ (aLd (gu hk)) x hx hx2
   refine⟨fun m hm hu=>?_,fun hs=>nu (hs n hn (by simpa using hw))⟩
   have e:n≠m:=fun k=>by subst k;exact nu hu
   rw[bc e]
   exact u1 m hm hu
theorem kT{G G2:List (List Int)}{f f2:Nat→Nat}:∀m,(∀n,n<m→(nth G n=[]↔nth G2 n=[])∧(nth G n≠[]→f n=f2 n∧(nth G n).length=(nth G2 n).length))→esT G f m=esT G2 f2 m
 | 0,_=>rfl
 | m+1,h=>by
   rw[esT,esT,kT m fun n hn=>h n (by omega)]
   obtain⟨h1,h2⟩:=h m (by omega)
   by_cases e:nth G m=[]
   · rw[if_pos e,if_pos (h1.1 e)]
   · obtain⟨a,b⟩:=h2 e
     rw[if_neg e,if_neg (fun k=>e (h1.2 k)),a,b]
theorem tD{G G2:List (List Int)}{f f2:Nat→Nat}{n:Nat}:∀m,n<m→(∀k,k<m→k≠n→(nth G k=[]↔nth G2 k=[])∧(nth G k≠[]→f k=f2 k∧(nth G k).length=(nth G2 k).length))→
 (esT G f m).set n (if nth G2 n=[]then .nil else .ref (f2 n) 0 (nth G2 n).length)=esT G2 f2 m
 | 0,h,_=>by omega
 | m+1,h,hh=>by
   rw[esT,esT]
   by_cases e:n=m
   · subst e
     rw[List.set_append_right _ _ (by rw[fV];exact aLs _),fV,Nat.sub_self,List.set_cons_zero,kT n fun k hk=>hh k (by omega) (by omega)]
   · rw[List.set_append_left _ _ (by rw[fV];omega),tD m (by omega) fun k hk hne=>hh k (by omega) hne]
     obtain⟨h1,h2⟩:=hh m (by omega) (fun k=>e k.symm)
     congr 2
     by_cases e2:nth G m=[]
     · rw[if_pos e2,if_pos (h1.1 e2)]
     · obtain⟨a,b⟩:=h2 e2
       rw[if_neg e2,if_neg (fun k=>e2 (h1.2 k)),a,b]
theorem qf{G G1 G2:List (List Int)}:∀m,(∀n,n<m→nth G n≠[]→nth G1 n=nth G2 n)→aT G G1 m=aT G G2 m
 | 0,_=>rfl
 | m+1,h=>by
   rw[aT,aT,qf m fun n hn=>h n (by omega)]
   by_cases e:nth G m=[]
   · rw[if_pos e,if_pos e]
   · rw[if_neg e,if_neg e,h m (by omega) e]
theorem zT{G G1 G2:List (List Int)}{n:Nat}(hn:nth G n≠[]):∀m,n<m→(∀k,k<m→k≠n→nth G k≠[]→nth G1 k=nth G2 k)→(aT G G1 m).set (rk G n) (arA (nth G2 n))=aT G G2 m
 | 0,h,_=>by omega
 | m+1,h,hh=>by
   rw[aT,aT]
   by_cases e:n=m
   · subst e
     rw[if_neg hn,if_neg hn,List.set_append_right _ _ (by rw[fj];exact aLs _),fj,Nat.sub_self,List.set_cons_zero,qf n fun k hk hne=>hh k (by omega) (by omega) hne]
   · rw[List.set_append_left _ _ (by rw[fj];exact ot G (by omega) hn),zT hn m (by omega) fun k hk hne=>hh k (by omega) hne]
     congr 1
     by_cases e2:nth G m=[]
     · rw[if_pos e2,if_pos e2]
     · rw[if_neg e2,if_neg e2,hh m (by omega) (fun k=>e k.symm) e2]
theorem JJ(T:List Bool)(n:Nat)(x:Bool):(bls T).set n (B x)=bls (T.set n x):=by simp[bls]
theorem JK(T:List Bool):(bls T).length=T.length:=by simp[bls]
theorem zU{l:List Bool}{k:Nat}(h:k<l.length):l[k]?=some (nth l k):=by
 unfold nth
 rw[aLc h,aLl,aLc h];rfl
theorem JL{T:List Bool}{n:Nat}(h:n<T.length):(bls T)[n]?=some (B (nth T n)):=by
 unfold bls
 rw[aLn,aLn,zU h];rfl
structure Acc(W:List (List Int))(S:List Int)(G:List (List Int))(T T2:Nat→Bool):Prop where
 sub:∀n,T n=true→T2 n=true
 clo:∀n,n<S.length→T2 n=true→T n=false→nth S n≤(nth G n).length∧∀j∈nth G n,p4 W S j fun x=>T2 x=true
theorem Acc.refl(W:List (List Int))(S:List Int)(G:List (List Int))(T:Nat→Bool):Acc W S G T T:=⟨fun _ h=>h,fun n _ h k=>by rw[h]at k;cases k⟩
theorem p4.mono{W:List (List Int)}{S:List Int}{i:Int}{U V:Nat→Prop}(h:p4 W S i U)(s:∀n,U n→V n):p4 W S i V:=fun x hx hw=>s x (h x hx hw)
theorem Acc.trans{W:List (List Int)}{S:List Int}{G:List (List Int)}{T T2 T3:Nat→Bool}(h:Acc W S G T T2)(g:Acc W S G T2 T3):Acc W S G T T3:=by
 refine⟨fun n hn=>g.sub n (h.sub n hn),fun n hn h3 h1=>?_⟩
 cases h2:T2 n with
 | true=>
   obtain⟨a,b⟩:=h.clo n hn h2 h1
   exact⟨a,fun j hj=>(b j hj).mono g.sub⟩
 | false=>exact g.clo n hn h3 h2
theorem oo.acc{W:List (List Int)}{S:List Int}{G:List (List Int)}{i:Int}{T T2:Nat→Bool}(h:oo W S G i T T2):Acc W S G T T2:=⟨h.sub,h.clo⟩
theorem Acc.num{W:List (List Int)}{S:List Int}{G:List (List Int)}{T T2:List Bool}{n:Nat}(hn:n<T.length)(h:Acc W S G (Tb (T.set n true)) (Tb T2))(hf:nth S n≤(nth G n).length)(hm:∀j∈nth G n,p4 W S j fun x=>Tb T2 x=true):Acc W S G (Tb T) (Tb T2):=by
 have e1:nth (T.set n true) n=true:=by
  unfold nth
  rw[aLl,aLj hn];rfl
 have e2:∀m,m≠n→nth (T.set n true) m=nth T m:=fun m hm=>by
  unfold nth
  rw[aLl,aLl,aLi (fun k=>hm k.symm)]
 refine⟨fun m hm=>h.sub m ?_,fun m hm h2 h1=>?_⟩
 · by_cases e:m=n
   · subst e;exact e1
   · simp only[Tb]at hm ⊢;rw[e2 m e];exact hm
 · by_cases e:m=n
   · subst e;exact⟨hf,hm⟩
   · refine h.clo m hm h2 ?_
     simp only[Tb]at h1 ⊢;rw[e2 m e];exact h1
theorem Qt{W:List (List Int)}{S:List Int}{T:List Bool}{G:List (List Int)}:finish (3+rk G G.length) 0 (cU W S T G) [B false]=some (B false,cU W S T G):=by
 have el:=fW W S T G
 have ho:((cU W S T G).take (3+rk G G.length)).all (fun o=>o.ds.all (old (3+rk G G.length) depth))=true:=by
  rw[List.take_of_length_le (by omega),aLx]
  intro o ho
  have ht:∀ts:List Ev.T,(ts.map D.t).all (old (3+rk G G.length) depth)=true:=fun ts=>by
   rw[aLx];intro d hd;obtain⟨t,_,rfl⟩:=List.mem_map.1 hd;rfl
  simp only[cU,eE,List.mem_cons]at ho
  rcases ho with rfl | rfl | rfl | ho
  · simp[Obj.ds,old,depth];omega
  · exact ht _
  · have:∀m,m≤G.length→(esT G (fun n=>3+rk G n) m).all (old (3+rk G G.length) depth)=true:=by
     intro m
     induction m with
     | zero=>intro _;rfl
     | succ m ih=>
       intro hm
       rw[esT,List.all_append,ih (by omega)]
       by_cases e:nth G m=[]
       · simp[e,old,depth]
       · have:=ot G (n:=m) (m:=G.length) (by omega) e
         simp[e,old,depth];omega
    exact this _ (aLs _)
  · obtain⟨l,rfl⟩:=mP _ _ _ o ho
    exact ht _
 have hr:([B false].all (old (3+rk G G.length) depth))=true:=rfl
 unfold finish
 simp only[if_true,aB,ir,aLq,aLw]
 rw[hr,ho]
 simp only[Bool.and_self,if_true,cV,List.flatMap_cons,List.flatMap_nil,bF,List.append_nil,List.all_nil,j9]
 rw[List.take_of_length_le (by omega)]
 rfl
theorem pj{sel:List Nat}{k:Nat}(hk:k∉sel):∀ {l:List Nat},(∀x∈l,x∈sel∨x=k)→k∈l→a6 sel l=sel++[k]
 | [],_,h=>by simp at h
 | i::r,h,hm=>by
   by_cases e:i=k
   · subst e
     have:sel.contains i=false:=by rw[Bool.eq_false_iff];exact fun hc=>hk (List.contains_iff_mem.1 hc)
     rw[a6,this]
     simp only[aLt,if_false]
     exact lW fun x hx=>by
      rcases h x (List.mem_cons_of_mem _ hx)with a | a
      · exact List.mem_append_left _ a
      · subst a;simp
   · have hi:i∈sel:=by rcases h i List.mem_cons_self with a | a;exact a;exact absurd a e
     rw[a6,List.contains_iff_mem.2 hi]
     simp only[if_true]
     refine pj hk (fun x hx=>h x (List.mem_cons_of_mem _ hx)) ?_
     rcases List.mem_cons.1 hm with a | a
     · exact absurd a.symm e
     · exact a
theorem zV{n i:Nat}(h:i<n):idxOf (List.range n) i=some i:=dE _ _ _ List.nodup_range (aLp h)
theorem qg(k:Nat)(ts:List Ev.T):(ts.map D.t).all (old k depth)=true:=by
 rw[aLx];intro d hd;obtain⟨t,_,rfl⟩:=List.mem_map.1 hd;rfl
theorem lX{G:List (List Int)}{f:Nat→Nat}{j:Nat}:∀ {m:Nat},j∈idT G f m↔∃n,n<m∧nth G n≠[]∧j=f n
 | 0=>by simp[idT]
 | m+1=>by
   rw[idT,List.mem_append,lX]
   constructor
   · rintro (⟨n,a,b,c⟩ | h)
     · exact⟨n,by omega,b,c⟩
     · split at h
       · simp at h
       · rename_i hm;exact⟨m,by omega,hm,by simpa using h⟩
   · rintro ⟨n,a,b,c⟩
     by_cases e:n=m
     · subst e;right;rw[if_neg b];simp[c]
     · exact .inl ⟨n,by omega,b,c⟩
theorem tE{G:List (List Int)}{f:Nat→Nat}{k:Nat}:∀m,(∀n,n<m→nth G n≠[]→f n<k)→(esT G f m).all (old k depth)=true
 | 0,_=>rfl
 | m+1,h=>by
   rw[esT,List.all_append,tE m fun n hn=>h n (by omega)]
   by_cases e:nth G m=[]
   · simp[e,old,depth]
   · have:=h m (by omega) e
     simp[e,old,depth,this]
theorem Qu{W:List (List Int)}{S:List Int}{T:List Bool}{G G2:List (List Int)}{x:ab}(gl:G2.length=G.length)(h:vu G G2 x):finish (3+rk G G.length) 0 (eE W S T G2 (fK G) (aT G G2 G.length++x)) [B true]=some (B true,eE W S T G2 (fK G) (aT G G2 G.length++x)):=by
 have al:=fj G G2 G.length
 have fk:∀n,n<G.length→nth G n≠[]→fK G n<3+rk G G.length:=fun n hn hne=>by
  have:=ot G (n:=n) (m:=G.length) hn hne
  unfold fK;rw[if_neg hne];omega
 have hr:([B true].all (old (3+rk G G.length) depth))=true:=rfl
 have ra:∀K:ab,bF K depth (B true)=[]:=fun _=>rfl
 rcases h.new with⟨rfl,hn⟩ | ⟨n0,n1,n2,n3,rfl,n4⟩
 · have el:(eE W S T G2 (fK G) (aT G G2 G.length++[])).length=3+rk G G.length:=by simp only[eE,List.append_nil,List.length_cons,al];omega
   have ho:((eE W S T G2 (fK G) (aT G G2 G.length++[])).take (3+rk G G.length)).all (fun o=>o.ds.all (old (3+rk G G.length) depth))=true:=by
    rw[List.take_of_length_le (by omega),aLx]
    intro o ho
    simp only[eE,List.append_nil,List.mem_cons]at ho
    rcases ho with rfl | rfl | rfl | ho
    · simp[Obj.ds,old,depth];omega
    · exact qg _ _
    · refine tE _ fun n hn' hne=>fk n (by omega) fun e=>hne (hn n e)
    · obtain⟨l,rfl⟩:=mP _ _ _ o ho
      exact qg _ _
   unfold finish
   simp only[if_true,aB,ir,aLq,aLw]
   rw[hr,ho]
   simp only[Bool.and_self,if_true,cV,List.flatMap_cons,List.flatMap_nil,ra,List.append_nil,List.all_nil,j9]
   rw[List.take_of_length_le (by simp only[eE,List.length_cons,al];omega)]
 · generalize hk:3+rk G G.length=k at*
   generalize hK:eE W S T G2 (fK G) (aT G G2 G.length++[arA (nth G2 n0)])=K at*
   have el:K.length=k+1:=by rw[← hK];simp only[eE,List.length_cons,aLv,al,List.length_nil];omega
   have f0:fK G n0=k:=by unfold fK;rw[if_pos n2];exact hk
   have kk:K[k]?=some (arA (nth G2 n0)):=by
    rw[← hK,←hk,show 3+rk G G.length=rk G G.length+1+1+1 by omega]
    simp only[eE,List.getElem?_cons_succ]
    rw[aLh (by omega),al,Nat.sub_self];rfl
   have hg:K[2]?=some (.arr 1 false 0 (esT G2 (fK G) G2.length)):=by rw[← hK];rfl
   have k3:3≤k:=by omega
   -- the names that the old objects hold
   have ids_:∀i,i<k→∀j∈(match K[i]? with | some o=>o.ds.flatMap (ids depth) | none=>[]),j<k∨j=k:=by
    intro i hi j hj
    have mem:∃o,K[i]?=some o∧j∈o.ds.flatMap (ids depth):=by
     cases ho:K[i]? with
     | none=>rw[ho]at hj;simp at hj
     | some o=>rw[ho]at hj;exact⟨o,rfl,hj⟩
    obtain⟨o,ho,hj⟩:=mem
    have hm:o∈K:=aLd ho
    rw[← hK]at hm
    simp only[eE,List.mem_cons,List.mem_append,List.not_mem_nil,or_false]at hm
    rcases hm with rfl | rfl | rfl | hm | rfl
    · have:j=2:=by simpa [Obj.ds,ids,depth]using hj
      omega
    · rw[show(Obj.arr 1 false 0 (bls T)).ds.flatMap (ids depth)=[]from tz T]at hj;simp at hj
    · rw[show(Obj.arr 1 false 0 (esT G2 (fK G) G2.length)).ds.flatMap (ids depth)=_ from qc _ _ _]at hj
      obtain⟨n,a,b,rfl⟩:=lX.1 hj
      by_cases e:nth G n=[]
      · right;unfold fK;rw[if_pos e];exact hk
      · left;exact fk n (by omega) e
    · obtain⟨l,rfl⟩:=mP _ _ _ o hm
      rw[tA]at hj;simp at hj
    · rw[tA]at hj;simp at hj
   have fr:a6 (List.range k) (dS K (List.range k))=List.range k++[k]:=by
    refine pj (by simp) (fun j hj=>?_) ?_
    · unfold dS at hj
      obtain⟨i,hi,hj⟩:=List.mem_flatMap.1 hj
      rcases ids_ i (aLu.1 hi) j hj with a | a
      · exact .inl (aLu.2 a)
      · exact .inr a
    · unfold dS
      refine List.mem_flatMap.2 ⟨2,aLu.2 (by omega),?_⟩
      rw[hg]
      show k∈(esT G2 (fK G) G2.length).flatMap (ids depth)
      rw[qc]
      exact lX.2 ⟨n0,by omega,n3,f0.symm⟩
   have no:((K.take k).all (fun o=>o.ds.all (old k depth)))=false:=by
    rw[Bool.eq_false_iff]
    intro hh
    rw[aLx]at hh
    have h2:(Obj.arr 1 false 0 (esT G2 (fK G) G2.length))∈K.take k:=by
     refine aLd (i:=2) ?_
     rw[List.getElem?_take_of_lt (by omega)];exact hg
    have h3:=hh _ h2
    simp only[Obj.ds,aLx]at h3
    have h4:=h3 (.ref (fK G n0) 0 (nth G2 n0).length) (by
     have:=qb G2 (fK G) (n:=n0) G2.length (by omega)
     rw[if_neg n3]at this
     exact aLd this)
    rw[f0]at h4
    simp[old,depth]at h4
   have pk1:pick K [k]=some [arA (nth G2 n0)]:=by simp only[pick,kk,aLq,aLw]
   have fz:bu K (arA (nth G2 n0))=some (arA (nth G2 n0)):=by
    have e:∀ts:List Ev.T,aB (fun d=>(frz K depth d).map D.t) (ts.map D.t)=some (ts.map D.t):=fun ts=>zQ fun t _=>rfl
    simp only[bu,ints,e,aLw]
   have ar0:(arA (nth G2 n0)).ds.flatMap (bF K depth)=[]:=by
    rw[List.flatMap_eq_nil_iff]
    intro d hd
    simp only[Obj.ds,ints]at hd
    obtain⟨t,_,rfl⟩:=List.mem_map.1 hd
    rfl
   have kl:er K (max 0 1) (List.range k) (dS K (List.range k))=some ([k],[arA (nth G2 n0)]):=by
    show er K (0+1) (List.range k) (dS K (List.range k))=_
    simp only[er]
    rw[fr]
    have d1:(List.range k++[k]).drop (List.range k).length=[k]:=List.drop_left
    rw[d1,pk1]
    simp only[aLq,if_true,List.flatMap_cons,List.flatMap_nil,ar0,List.append_nil,List.all_nil,aB,fz,aLw]
   have ix:∀j,j<k∨j=k→idxOf (List.range k++[k]) j=some j:=fun j hj=>by
    rw[← List.range_succ];exact zV (by omega)
   have rn:aB (aS (idxOf (List.range k++[k]))) K=some K:=by
    have e1:aB (ren (idxOf (List.range k++[k])) 8) (esT G2 (fK G) G2.length)=some (esT G2 (fK G) G2.length):=ou (u:=idxOf (List.range k++[k])) (f2:=fK G) G2.length (fun n hn hne=>by
     refine ix _ ?_
     by_cases e:nth G n=[]
     · right;unfold fK;rw[if_pos e];exact hk
     · left;exact fk n (by omega) e)
    have e2:aB (ren (idxOf (List.range k++[k])) 8) (bls T)=some (bls T):=gL _ _
    have e3:aB (aS (idxOf (List.range k++[k]))) (aT G G2 G.length++[arA (nth G2 n0)])=some (aT G G2 G.length++[arA (nth G2 n0)]):=by
     refine pZ fun o ho=>?_
     have:∃l,o=arA l:=by
      rcases List.mem_append.1 ho with a | a
      · exact mP _ _ _ o a
      · exact⟨_,List.mem_singleton.1 a⟩
     obtain⟨l,rfl⟩:=this
     simp only[aS,ints,gL,aLw]
    have e4:=ix 2 (by omega)
    rw[← hK]
    simp only[eE,aB,aS,ren,depth,e4,aLw,aLq]
    rw[e1,e2,e3];rfl
   have tk:K.take k++[arA (nth G2 n0)]=K:=by
    have:=List.take_append_drop k K
    have d:K.drop k=[arA (nth G2 n0)]:=by
     apply List.ext_getElem?
     intro j
     rw[List.getElem?_drop]
     cases j with
     | zero=>exact kk
     | succ j=>rw[aLm (by omega),aLm (by simp)]
    rw[d]at this
    exact this
   have i0:([B true].flatMap (ids depth))=[]:=rfl
   unfold finish
   simp only[if_true,aB,ir,aLq,aLw]
   rw[hr,no]
   simp only[Bool.and_false,aLt,if_false]
   rw[i0,List.nil_append,kl]
   simp only[aLq,cV,if_true,List.flatMap_cons,List.flatMap_nil,ra,List.append_nil,List.all_nil]
   rw[tk,rn]
   rfl
theorem zW(l:List Int):(ints l).length=l.length:=by simp[ints]
theorem nh(W:List (List Int))(S:List Int)(T:List Bool)(G:List (List Int)):bN (3+rk G G.length) (cU W S T G)=true:=by
 have h:(cU W S T G).all (fun o=>o.ds.all (old (3+rk G G.length) depth))=true:=by
  rw[aLx]
  intro o ho
  simp only[cU,eE,List.mem_cons]at ho
  rcases ho with rfl | rfl | rfl | ho
  · simp[Obj.ds,old,depth];omega
  · exact qg _ _
  · exact tE _ fun n hn hne=>by have:=ot G (n:=n) (m:=G.length) hn hne;omega
  · obtain⟨l,rfl⟩:=mP _ _ _ o ho
    exact qg _ _
 rw[← dZ];exact h
theorem C5{W:List (List Int)}{S:List Int}{T:List Bool}{G G1:List (List Int)}{x:ab}{n:Nat}(hl:G1.length=G.length)(hn:n<G.length)(hne:nth G n≠[]){l:List Int}(hll:l.length=(nth G1 n).length)(h1:nth G1 n≠[]):
 (eE W S T G1 (fK G) (aT G G1 G.length++x)).set (3+rk G n) (arA l)=eE W S T (G1.set n l) (fK G) (aT G (G1.set n l) G.length++x):=by
 have e1:esT G1 (fK G) G1.length=esT (G1.set n l) (fK G) (G1.set n l).length:=by
  rw[List.length_set]
  refine kT _ fun m hm=>?_
  by_cases e:m=n
  · subst e
    rw[cK hm]
    refine⟨⟨fun k=>absurd k h1,fun k=>?_⟩,fun _=>⟨rfl,hll.symm⟩⟩
    rw[k]at hll;exact List.length_eq_zero_iff.1 hll.symm
  · rw[bc (fun k=>e k.symm)]
    exact⟨Iff.rfl,fun _=>⟨rfl,rfl⟩⟩
 have e2:(aT G G1 G.length++x).set (rk G n) (arA l)=aT G (G1.set n l) G.length++x:=by
  rw[List.set_append_left _ _ (by rw[fj];exact ot G hn hne)]
  have:=zT (G1:=G1) (G2:=G1.set n l) hne G.length hn fun k hk hkn _=>by rw[bc (fun z=>hkn z.symm)]
  rw[cK (by omega)]at this
  rw[this]
 rw[show 3+rk G n=rk G n+1+1+1 by omega]
 rw[List.length_set]at e1
 simp only[eE,List.set_cons_succ,e2,List.length_set,←e1]
abbrev inV(i n j k L wl:Nat)(l:List Int)(gD:D)(gl:Nat):List D:=[.bp 0 0,I i,.ref 1 0 L,.und,I n,.und,.und,.t (tL l),I wl,I j,gD,I gl,I k]
def vw(G:List (List Int))(n:Nat):D:=if nth G n=[]then .nil else .ref (3+rk G n) 0 (nth G n).length
theorem Wg{W:List (List Int)}{S:List Int}{G:List (List Int)}(hW:W.length≤1000)(hS:S.length≤1000)(hG:GI W S G)(hc:∀n,(nth G n).length≤1000000){i n:Nat}(hi:i<W.length)(hn:n<S.length)(hw:(n:Int)∈nth W i){T T1:List Bool}(ht:nth T n=false)(hT:∀m,nth T m=true→nth T1 m=true)(h1:nth T1 n=true)(tl:T1.length=S.length)
 (ih:∀T':List Bool,T'.length=S.length→left T'≤left T1→∀o:Nat,o<W.length→∃r,bD 0 N.ai [.bp 0 0,I o,.ref 1 0 S.length] (cU W S T' G)=some (B r.1,r.2)∧C4 W S G o T' r) (j wl:Nat) (z3 z5 z6:D):
 ∃q,exS bD K.eC ⟨[.bp 0 0,I i,.ref 1 0 S.length,z3,I n,z5,z6,.t (tL (nth W i)),I wl,I j,vw G n,I (nth G n).length,I 0],cU W S T1 G⟩=some q∧
  ((∃T2:List Bool,q=(.exit 2,⟨inV i n j (nth G n).length S.length wl (nth W i) (vw G n) (nth G n).length,cU W S T2 G⟩)∧T2.length=S.length∧Acc W S G (Tb T1) (Tb T2)∧left T2≤left T1∧∀o∈nth G n,p4 W S o fun x=>Tb T2 x=true)∨
   ∃(T2:List Bool) (G2:List (List Int)) (x:ab) (vs:List D),q=(.ret,⟨vs,eE W S T2 G2 (fK G) (aT G G2 G.length++x)⟩)∧vs[3]?=some (B true)∧T2.length=S.length∧vu G G2 x∧fN W S G i (Tb T) G2):=by
 have gl:=hG.len
 refine uV (fun k st=>∃T':List Bool,T'.length=S.length∧Acc W S G (Tb T1) (Tb T')∧left T'≤left T1∧(∀q,q<k→p4 W S (nth (nth G n) q) fun x=>Tb T' x=true)∧st=⟨inV i n j k S.length wl (nth W i) (vw G n) (nth G n).length,cU W S T' G⟩) (nth G n).length _ ⟨T1,tl,Acc.refl _ _ _ _,aLs _,fun q hq=>by omega,by simp only[go_sem,inV,Int.natCast_zero]⟩ ?_ ?_
 · rintro k st hk ⟨T',tl',acc,lf,ws,rfl⟩
   have hne:nth G n≠[]:=fun e=>by rw[e]at hk;simp at hk
   have gD:vw G n= .ref (3+rk G n) 0 (nth G n).length:=if_neg hne
   obtain⟨o1,o2,o3⟩:=hG.wnt n hn _ (aLd (gu hk))
   obtain⟨r,hr,dn⟩:=ih T' tl' lf (nth (nth G n) k).toNat (by omega)
   rw[Int.toNat_of_nonneg o1]at hr dn
   have oc:=w6 (n:=S.length) hr dn
   have rl:=ot G (n:=n) (m:=G.length) (by omega) hne
   have cl:=fW W S T' G
   have ka:(cU W S T' G)[3+rk G n]?=some (arA (nth G n)):=(tC W S T' G).hf n (by omega) hne
   have eg:(ints (nth G n))[k]?=some (I (nth (nth G n) k)):=pY _ _ hk
   have el:=zW (nth G n)
   have glb:=hc n
   rcases dn with⟨G1,T2,x,rfl,p,nx,tl2⟩ | ⟨T2,rfl,p,tl2,lf2⟩
   · right
     have g1:=p.gi.len
     have pn:nth G1 n=nth G n:=p.old n (by
      by_cases e:Tb T1 n=true
      · exact acc.sub n e
      · exact absurd h1 e)
     have st:=C5 (W:=W) (S:=S) (T:=T2) (G:=G) (G1:=G1) (x:=x) (by omega) (by omega) hne (l:=(nth G n).set k i) (by rw[List.length_set,pn]) (by rw[pn];exact hne)
     have st2:arA ((nth G n).set k (i:Int))= .arr 1 false 0 ((ints (nth G n)).set k (I i)):=by simp[arA,ints]
     rw[st2]at st
     have mv:=w8 hG hi hn hw hk ht (fun m hm=>acc.sub m (hT m hm)) (acc.sub n h1) p
     have nx2:vu G (G1.set n ((nth G n).set k (i:Int))) x:=by
      have en:nth (G1.set n ((nth G n).set k (i:Int))) n≠[]:=by
       rw[cK (by omega)]
       intro e
       have:=congrArg List.length e
       rw[List.length_set]at this
       simp at this
       exact hne this
      refine⟨fun m hm=>?_,?_⟩
      · by_cases e:m=n
        · subst e;exact en
        · rw[bc (fun z=>e z.symm)];exact nx.keep m hm
      · rcases nx.new with⟨a,b⟩ | ⟨n0,a,b,c,d,e⟩
        · refine .inl ⟨a,fun m hm=>?_⟩
          have:m≠n:=fun z=>by subst z;exact hne hm
          rw[bc (fun z=>this z.symm)];exact b m hm
        · have e0:n≠n0:=fun z=>by subst z;exact hne b
          refine .inr ⟨n0,a,b,by rw[bc e0];exact c,by rw[bc e0];exact d,fun m hm1 hm2=>?_⟩
          have:n≠m:=fun z=>by subst z;exact hne hm2
          rw[bc this];exact e m hm1 hm2
     have k0:(eE W S T2 G1 (fK G) (aT G G1 G.length++x))[0]?=some (.box [.t (.sl (W.map tL)),.t (tL S),.ref 2 0 G1.length]):=rfl
     have k2:(eE W S T2 G1 (fK G) (aT G G1 G.length++x))[2]?=some (.arr 1 false 0 (esT G1 (fK G) G1.length)):=rfl
     have k3:(eE W S T2 G1 (fK G) (aT G G1 G.length++x))[3+rk G n]?=some (arA (nth G n)):=by
      rw[show 3+rk G n=rk G n+1+1+1 by omega]
      simp only[eE,List.getElem?_cons_succ]
      rw[aLg (by rw[fj];exact rl),vq G G1 hne G.length (by omega),pn]
     have ee:(esT G1 (fK G) G1.length)[n]?=some (.ref (3+rk G n) 0 (nth G n).length):=by
      rw[qb G1 (fK G) G1.length (by omega),pn,if_neg hne]
      unfold fK;rw[if_neg hne]
     have e3:=fV G1 (fK G) G1.length
     simp only at oc tl2
     have fin:∃vs,exS bD K.bw ⟨inV i n j k S.length wl (nth W i) (vw G n) (nth G n).length,cU W S T' G⟩=some (.ret,⟨vs,eE W S T2 (G1.set n ((nth G n).set k (i:Int))) (fK G) (aT G (G1.set n ((nth G n).set k (i:Int))) G.length++x)⟩)∧vs[3]?=some (B true):=by
      rw[gD]
      generalize eE W S T2 (G1.set n ((nth G n).set k (i:Int))) (fK G) (aT G (G1.set n ((nth G n).set k (i:Int))) G.length++x)=K3 at*
      generalize eE W S T2 G1 (fK G) (aT G G1 G.length++x)=K2 at*
      generalize cU W S T' G=K1 at*
      generalize esT G1 (fK G) G1.length=E at*
      generalize nth (nth G n) k=oth at*
      generalize (nth G n).length=gln at*
      clear ih hT nx nx2 mv p pn ws acc
      simp only[arA]at*
      generalize ints (nth G n)=GG at*
      generalize 3+rk G n=id at*
      apply Exists.intro
      apply And.intro
      · simp(disch:=omega)only[go_sem,K.bw,↓reduceIte,ka,eg,el,oc,k0,k2,k3,ee,e3,st,reduceAdd,reduceSub]
        rfl
      · rfl
     obtain⟨vs,f1,f2⟩:=fin
     exact⟨_,f1,by simp,.inr ⟨T2,_,x,vs,rfl,f2,by omega,nx2,mv⟩⟩
   · left
     simp only at oc tl2 lf2
     refine⟨⟨inV i n j (k+1) S.length wl (nth W i) (vw G n) (nth G n).length,cU W S T2 G⟩,?_,T2,by omega,acc.trans p.acc,by omega,fun q hq=>?_,rfl⟩
     · have ho:=nh W S T2 G
       have cl2:=fW W S T2 G
       have tk:(cU W S T2 G).take (3+rk G G.length)=cU W S T2 G:=List.take_of_length_le (by omega)
       rw[gD,cl]
       generalize cU W S T2 G=K2 at*
       generalize cU W S T' G=K1 at*
       generalize nth (nth G n) k=oth at*
       generalize (nth G n).length=gln at*
       clear ih hT p ws acc
       simp only[arA]at*
       generalize ints (nth G n)=GG at*
       have k3:3≤3+rk G G.length:=by omega
       have i3:3+rk G n<3+rk G G.length:=by omega
       generalize 3+rk G n=id at*
       generalize 3+rk G G.length=kL at*
       have b0:ltB 0 kL=true:=by rw[di];simp;omega
       have b1:ltB 1 kL=true:=by rw[di];simp;omega
       have b2:ltB id kL=true:=by rw[di];simp;omega
       simp(disch:=omega)only[go_sem,K.bw,↓reduceIte,ka,eg,el,oc,ho,tk,cl2,b0,b1,b2,reduceAdd,reduceSub]
       rfl
     · by_cases e:q=k
       · subst e;exact p.wnt
       · exact(ws q (by omega)).mono p.sub
 · rintro st ⟨T',tl',acc,lf,ws,rfl⟩
   refine⟨(.exit 2,⟨inV i n j (nth G n).length S.length wl (nth W i) (vw G n) (nth G n).length,cU W S T' G⟩),?_,by simp,.inl ⟨T',rfl,tl',acc,lf,fun o ho=>?_⟩⟩
   · generalize cU W S T' G=K1
     generalize (nth G n).length=gln
     simp(disch:=omega)only[go_sem,K.bw,↓reduceIte,reduceAdd,reduceSub]
   · obtain⟨k,hk⟩:=aLf.1 ho
     have kl:=(aLe.1 hk).1
     have:=ws k kl
     have e:nth (nth G n) k=o:=by have:=gu kl;rw[hk]at this;exact(Option.some.inj this).symm
     rwa [e]at this
end Go.Ev
