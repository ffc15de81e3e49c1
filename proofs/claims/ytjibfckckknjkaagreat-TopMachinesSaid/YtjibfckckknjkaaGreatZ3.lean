/- Parts of the proof: see the text that holds the theorem. -/
import Derived.Test.YtjibfckckknjkaaGreatZ2
set_option linter.all false
open Nat (reduceAdd reduceSub)
set_option maxRecDepth 100000
namespace Go.Ev
open Go
abbrev I(n:Int):D:= .t (.int .i64 n)
abbrev B(b:Bool):D:= .t (.bool b)
def Sx{β:Type}(call:bf):List R→List D→List D→ao→(List D→List D→ao→Option β)→Option β
 | rs,L,vs,H,K=>(evR call rs L vs H).bind fun q=>K q.1 q.2.1 q.2.2
def aaQ{β:Type}(call:bf)(rs:List R)(d:Option Nat)(L vs:List D)(K:List D→List D→ao→Option β)(p:D×ao):Option β:=
 Sx call rs (p.1::L) (wr vs d p.1) p.2 K
@[go_sem] theorem ajQ {β : Type} (call : bf) (rs : List R) (d : Option Nat) (L vs : List D) (K : List D → List D → ao → Option β) (x : D) (H : ao) :
 aaQ call rs d L vs K (x,H)=Sx call rs (x::L) (wr vs d x) H K:=(rfl)
@[go_sem] theorem ajR {β : Type} (call : bf) (L vs : List D) (H : ao) (K : List D → List D → ao → Option β) : Sx call [] L vs H K = K L vs H := (rfl)
@[go_sem] theorem ag5 {β : Type} (call : bf) (o : O) (d : Option Nat) (rs : List R) (L vs : List D) (H : ao) (K : List D → List D → ao → Option β) :
 Sx call (⟨o,d,none⟩::rs) L vs H K=(evO call (X.get vs L) H o).bind (aaQ call rs d L vs K):=by
 simp[Sx,evR,c7,Option.bind_assoc]
 rfl
def gate{β:Type}(c:Option D)(w:Bool)(a b:Option β):Option β:=match c with
 | some (.t (.bool x))=>if x=w then a else b
 | some (.tup [])=>b
 | _=>none
@[congr] theorem aec {β : Type} {c c' : Option D} {w : Bool} {a b : Option β} (h : True → c = c') : gate c w a b = gate c' w a b := by rw [h trivial]
@[go_sem] theorem ajS {β : Type} (p : Prop) [Decidable p] (a b : Option β) : gate (some (.t (.bool (decide p)))) true a b = if p then a else b := by
 by_cases h:p<;>simp[gate,h]
@[go_sem] theorem ag6 {β : Type} (p : Prop) [Decidable p] (a b : Option β) : gate (some (.t (.bool (decide p)))) false a b = if p then b else a := by
 by_cases h:p<;>simp[gate,h]
@[go_sem] theorem ag7 {β : Type} (x : Bool) (a b : Option β) : gate (some (.t (.bool x))) true a b = if x = true then a else b := (rfl)
@[go_sem] theorem aed {β : Type} (x : Bool) (a b : Option β) : gate (some (.t (.bool x))) false a b = if x = true then b else a := by cases x <;> rfl
@[go_sem] theorem ag8 {β : Type} (w : Bool) (a b : Option β) : gate (some (.tup [])) w a b = b := (rfl)
@[go_sem] theorem ag9 {β : Type} (call : bf) (o : O) (d : Option Nat) (k : Nat) (w : Bool) (rs : List R) (L vs : List D) (H : ao) (K : List D → List D → ao → Option β) :
 Sx call (⟨o,d,some (k,w)⟩::rs) L vs H K=gate L[k]? w ((evO call (X.get vs L) H o).bind (aaQ call rs d L vs K)) (Sx call rs (.tup []::L) (wr vs d (.tup [])) H K):=by
 simp only[Sx,evR,c7]
 cases hL:L[k]? with
 | none=>simp[gate]
 | some c=>
   simp only[aLq]
   cases c with
   | t x=>
     cases x with
     | bool b=>cases b<;>cases w<;>simp[gate,Option.bind_assoc]<;>rfl
     | _=>simp[gate]
   | tup ds=>
     cases ds with
     | nil=>simp[gate]
     | cons=>simp[gate]
   | _=>simp[gate]
open Classical in
noncomputable def De{β:Type}(p:Prop)(x:Option β):Option β:=if p then x else none
@[go_sem] theorem aaR {β : Type} (x : Option β) : De True x = x := by simp [De]
noncomputable def LF{β:Type}(call:bf)(all:List R)(n:Nat)(ps:List (Nat×Nat))(rs:List R)(L vs:List D)(H:ao)(acc:List Tr)(K:List D→List D→ao→Option β):Option β:=
 (evR call rs L vs H).bind fun q=>De (vL call all n ((trace call rs L vs H).reverse++acc) ps) (K q.1 q.2.1 q.2.2)
noncomputable def TI{β:Type}(call:bf)(all:List R)(n:Nat)(ps:List (Nat×Nat))(rs:List R)(d:Option Nat)(L vs:List D)(H:ao)(acc:List Tr)(K:List D→List D→ao→Option β)(p:D×ao):Option β:=
 LF call all n ps rs (p.1::L) (wr vs d p.1) p.2 ((L,vs,H)::acc) K
@[go_sem] theorem ajT {β : Type} (call : bf) (all : List R) (n : Nat) (ps : List (Nat × Nat)) (rs : List R) (d : Option Nat) (L vs : List D) (H : ao) (acc : List Tr) (K : List D → List D → ao → Option β) (x : D) (H' : ao) :
 TI call all n ps rs d L vs H acc K (x,H')=LF call all n ps rs (x::L) (wr vs d x) H' ((L,vs,H)::acc) K:=(rfl)
@[go_sem] theorem ajU {β : Type} (call : bf) (all : List R) (n : Nat) (ps : List (Nat × Nat)) (L vs : List D) (H : ao) (acc : List Tr) (K : List D → List D → ao → Option β) :
 LF call all n ps [] L vs H acc K=De (vL call all n ((L,vs,H)::acc) ps) (K L vs H):=by
 simp[LF,evR,trace]
theorem LG{β:Type}(call:bf)(all:List R)(n:Nat)(ps:List (Nat×Nat))(r:R)(rs:List R)(L vs:List D)(H:ao)(acc:List Tr)(K:List D→List D→ao→Option β):
 LF call all n ps (r::rs) L vs H acc K=(c7 L r.g).bind fun w=>
  if w then(evO call (X.get vs L) H r.o).bind (TI call all n ps rs r.d L vs H acc K)else LF call all n ps rs (.tup []::L) (wr vs r.d (.tup [])) H ((L,vs,H)::acc) K:=by
 obtain hw | ⟨w,hw⟩:c7 L r.g=none∨∃w,c7 L r.g=some w:=by cases c7 L r.g<;>simp
 · simp[LF,evR,trace,hw]
 · cases w with
   | true=>
     obtain hq | ⟨q,hq⟩:evO call (X.get vs L) H r.o=none∨∃q,evO call (X.get vs L) H r.o=some q:=by cases evO call (X.get vs L) H r.o<;>simp
     · simp[LF,evR,trace,hw,hq]
     · simp[LF,evR,trace,hw,hq,TI]
   | false=>simp[LF,evR,trace,hw]
@[go_sem] theorem aha {β : Type} (call : bf) (all : List R) (n : Nat) (ps : List (Nat × Nat)) (o : O) (d : Option Nat) (rs : List R) (L vs : List D) (H : ao) (acc : List Tr) (K : List D → List D → ao → Option β) :
 LF call all n ps (⟨o,d,none⟩::rs) L vs H acc K=(evO call (X.get vs L) H o).bind (TI call all n ps rs d L vs H acc K):=by
 rw[LG];simp[c7]
@[go_sem] theorem ahb {β : Type} (call : bf) (all : List R) (n : Nat) (ps : List (Nat × Nat)) (o : O) (d : Option Nat) (k : Nat) (w : Bool) (rs : List R) (L vs : List D) (H : ao) (acc : List Tr) (K : List D → List D → ao → Option β) :
 LF call all n ps (⟨o,d,some (k,w)⟩::rs) L vs H acc K=
  gate L[k]? w ((evO call (X.get vs L) H o).bind (TI call all n ps rs d L vs H acc K)) (LF call all n ps rs (.tup []::L) (wr vs d (.tup [])) H ((L,vs,H)::acc) K):=by
 rw[LG]
 simp only[c7]
 cases hL:L[k]? with
 | none=>simp[gate]
 | some c=>
   simp only[aLq]
   cases c with
   | t x=>
     cases x with
     | bool b=>cases b<;>cases w<;>simp[gate]
     | _=>simp[gate]
   | tup ds=>
     cases ds with
     | nil=>simp[gate]
     | cons=>simp[gate]
   | _=>simp[gate]
def DO(call:bf):Option R→Option Tr→Option Tr→Option Tr→Prop
 | some r,some s,some a,some s'=>(match r.o with
   | .al _ _=>a.2.2[s.2.2.length]?=s'.2.2[s.2.2.length]?
   | .bs xs _=>c7 s.1 r.g=some false∨((cO (X.get s.2.1 s.1) xs).bind ux).isSome=true
   | o=>yH o=true∧(c7 s.1 r.g=some false∨IA (evO call (X.get s.2.1 s.1) a.2.2 o)=IA (evO call (X.get s.2.1 s.1) s.2.2 o)))
 | _,_,_,_=>False
@[go_sem] theorem aee (call : bf) (all : List R) (n : Nat) (acc : List Tr) : vL call all n acc [] = True := (rfl)
@[go_sem] theorem aaS (call : bf) (all : List R) (n : Nat) (acc : List Tr) (p m : Nat) (r : List (Nat × Nat)) :
 vL call all n acc ((p,m)::r)=(DO call all[p]? acc[n-p]? acc[n-m]? acc[n-(p+1)]?∧m≤n∧vL call all n acc r):=by
 simp only[vL,aaP,DO]
 try rfl
section
variable (call : bf) (d : Option Nat) (gd : Option (Nat × Bool)) (L vs L' vs' : List D) (H H' : ao) (s' : Tr)
@[go_sem] theorem ajV (x : X) (n : Nat) (agg : Bool) : DO call (some ⟨.ld x n agg, d, gd⟩) (some (L, vs, H)) (some (L', vs', H')) (some s') =
 (c7 L gd=some false∨IA (evO call (X.get vs L) H' (.ld x n agg))=IA (evO call (X.get vs L) H (.ld x n agg))):=by simp[DO,yH]
@[go_sem] theorem ajW (x i : X) (sz : Nat) : DO call (some ⟨.ia x i sz, d, gd⟩) (some (L, vs, H)) (some (L', vs', H')) (some s') =
 (c7 L gd=some false∨IA (evO call (X.get vs L) H' (.ia x i sz))=IA (evO call (X.get vs L) H (.ia x i sz))):=by simp[DO,yH]
@[go_sem] theorem ajX (x : X) (lo hi : Option X) (sz : Nat) : DO call (some ⟨.sc x lo hi sz, d, gd⟩) (some (L, vs, H)) (some (L', vs', H')) (some s') =
 (c7 L gd=some false∨IA (evO call (X.get vs L) H' (.sc x lo hi sz))=IA (evO call (X.get vs L) H (.sc x lo hi sz))):=by simp[DO,yH]
@[go_sem] theorem ahc (x : X) (z : T) (sz : Nat) : DO call (some ⟨.mkt x z sz, d, gd⟩) (some (L, vs, H)) (some (L', vs', H')) (some s') =
 (c7 L gd=some false∨IA (evO call (X.get vs L) H' (.mkt x z sz))=IA (evO call (X.get vs L) H (.mkt x z sz))):=by simp[DO,yH]
@[go_sem] theorem ajY (z : List D) (l : List (Nat × Nat)) (L2 vs2 : List D) (H2 : ao) : DO call (some ⟨.al z l, d, gd⟩) (some (L, vs, H)) (some (L', vs', H')) (some (L2, vs2, H2)) = (H'[H.length]? = H2[H.length]?) := (rfl)
@[go_sem] theorem ajZ (xs : List X) (sz : Nat) : DO call (some ⟨.bs xs sz, d, gd⟩) (some (L, vs, H)) (some (L', vs', H')) (some s') =
 (c7 L gd=some false∨((cO (X.get vs L) xs).bind ux).isSome=true):=(rfl)
@[go_sem] theorem YU (L : List D) : c7 L none = some true := (rfl)
def aaT(w:Bool):Option D→Option Bool
 | some (.t (.bool b))=>some (b==w)
 | some (.tup [])=>some false
 | _=>none
@[go_sem] theorem aef (w b : Bool) : aaT w (some (.t (.bool b))) = some (b == w) := (rfl)
@[go_sem] theorem ahd (w : Bool) : aaT w (some (.tup [])) = some false := (rfl)
@[go_sem] theorem YV (L : List D) (k : Nat) (w : Bool) : c7 L (some (k, w)) = aaT w L[k]? := by
 simp only[c7]
 cases L[k]? with
 | none=>rfl
 | some c=>cases c with
   | t x=>cases x<;>rfl
   | tup ds=>cases ds<;>rfl
   | _=>rfl
@[go_sem] theorem ahe (x : D) : IA (some (x, H)) = some x := (rfl)
attribute [go_sem] beq_true beq_false or_true true_or or_self
end
theorem PW(call:bf)(rs:List R)(vs:List D)(H:ao):Sw call rs [] vs H=evR call rs [] vs H:=by
 simp[Sw,vL]
def amg(L vs:List D)(H:ao):Option (Ex×St):=some (.normal,⟨vs,H⟩)
noncomputable def amh(call:bf)(k:Nat)(a b:C)(L vs:List D)(H:ao):Option (Ex×St):=je L[k]? (exS call a ⟨vs,H⟩) (exS call b ⟨vs,H⟩)
@[go_sem] theorem ami (L vs : List D) (H : ao) : amg L vs H = some (.normal, ⟨vs, H⟩) := (rfl)
@[go_sem] theorem amj (call : bf) (k : Nat) (a b : C) (L vs : List D) (H : ao) : amh call k a b L vs H = je L[k]? (exS call a ⟨vs, H⟩) (exS call b ⟨vs, H⟩) := (rfl)
def andThen(x:Option (Ex×St))(k:St→Option (Ex×St)):Option (Ex×St):=x.bind fun p=>jB p k
@[go_sem] theorem VT (st : St) (k : St → Option (Ex × St)) : andThen (some (.normal, st)) k = k st := (rfl)
@[go_sem] theorem aaU (st : St) (k : St → Option (Ex × St)) : andThen (some (.ret, st)) k = some (.ret, st) := (rfl)
@[go_sem] theorem YW (i : Nat) (st : St) (k : St → Option (Ex × St)) : andThen (some (.exit i, st)) k = some (.exit i, st) := (rfl)
@[go_sem] theorem YX (k : St → Option (Ex × St)) : andThen none k = none := (rfl)
@[go_sem] theorem andThen_ite (c : Prop) [Decidable c] (a b : Option (Ex × St)) (k : St → Option (Ex × St)) : andThen (if c then a else b) k = if c then andThen a k else andThen b k := by
 split<;>rfl
@[go_sem] theorem aj0 (call : bf) (st : St) : exS call .skip st = some (.normal, st) := (rfl)
@[go_sem] theorem amk (call : bf) (rs : List R) (vs : List D) (H : ao) : exS call (.reg rs []) ⟨vs, H⟩ = Sx call rs [] vs H amg := by
 simp only[exS,PW,Sx]
 cases evR call rs [] vs H<;>rfl
@[go_sem] theorem aj1 (call : bf) (rs : List R) (p : Nat × Nat) (ps : List (Nat × Nat)) (vs : List D) (H : ao) :
 exS call (.reg rs (p::ps)) ⟨vs,H⟩=LF call rs rs.length (p::ps) rs [] vs H [] amg:=by
 simp only[exS,Sw,LF,List.append_nil]
 by_cases h:vL call rs rs.length (trace call rs [] vs H).reverse (p::ps)
 · rw[if_pos h]
   simp only[De,if_pos h]
   cases evR call rs [] vs H<;>rfl
 · rw[if_neg h]
   simp only[De,if_neg h]
   cases evR call rs [] vs H<;>rfl
@[go_sem] theorem aml (call : bf) (a b : C) (st : St) : exS call (.seq a b) st = andThen (exS call a st) (exS call b) := (rfl)
@[go_sem] theorem amm (call : bf) (rs : List R) (k : Nat) (a b : C) (vs : List D) (H : ao) : exS call (.ite rs [] k a b) ⟨vs, H⟩ = Sx call rs [] vs H (amh call k a b) := by
 simp only[exS,PW,Sx]
 cases evR call rs [] vs H<;>rfl
@[go_sem] theorem aj2 (call : bf) (rs : List R) (p : Nat × Nat) (ps : List (Nat × Nat)) (k : Nat) (a b : C) (vs : List D) (H : ao) :
 exS call (.ite rs (p::ps) k a b) ⟨vs,H⟩=LF call rs rs.length (p::ps) rs [] vs H [] (amh call k a b):=by
 simp only[exS,Sw,LF,List.append_nil]
 by_cases h:vL call rs rs.length (trace call rs [] vs H).reverse (p::ps)
 · rw[if_pos h]
   simp only[De,if_pos h]
   cases evR call rs [] vs H<;>rfl
 · rw[if_neg h]
   simp only[De,if_neg h]
   cases evR call rs [] vs H<;>rfl
@[go_sem] theorem amn (call : bf) (rs : List R) (ps : List (Nat × Nat)) (k : Nat) (a b c : C) (st : St) : exS call (.its rs ps k a b c) st = andThen (exS call (.ite rs ps k a b) st) (exS call c) := (rfl)
@[go_sem] theorem amo (call : bf) (rs : List R) (ps : List (Nat × Nat)) (k : Nat) (a b c : C) (st : St) : exS call (.itk rs ps k a b c) st = exS call (.ite rs ps k (.seq a c) (.seq b c)) st := (rfl)
@[go_sem] theorem amp (call : bf) (j : Nat) (a b : C) (vs : List D) (H : ao) : exS call (.itv j a b) ⟨vs, H⟩ = je vs[j]? (exS call a ⟨vs, H⟩) (exS call b ⟨vs, H⟩) := (rfl)
@[go_sem] theorem aj3 (call : bf) (id : Nat) (st : St) : exS call (.exit id) st = some (.exit id, st) := (rfl)
@[go_sem] theorem amq (call : bf) (st : St) : exS call .ret st = some (.ret, st) := (rfl)
@[go_sem] theorem aj4 (call : bf) (st : St) : exS call .fail st = none := (rfl)
@[go_sem] theorem amr (call : bf) (x p f : Nat) (r1 : List R) (p1 : List (Nat × Nat)) (r2 : List R) (p2 : List (Nat × Nat)) (vs : List D) (H : ao) : exS call (.rng x p f r1 p1 r2 p2) ⟨vs, H⟩ = (Sr (stepG (Sw call) vs p r1 p1 r2 p2) (VR f vs[x]?) H).map fun H => (.normal, ⟨vs, H⟩) := (rfl)
@[go_sem] theorem ams (call : bf) (v : Bool) (c : C) (st : St) : exS call (.cnd v c) st = exS call c st := (rfl)
def Fk(id:Nat)(x:Option (Ex×St)):Option (Ex×St):=x.map (leave id)
@[go_sem] theorem amt (call : bf) (id : Nat) (c : C) (st : St) : exS call (.blk id c) st = Fk id (exS call c st) := (rfl)
@[go_sem] theorem YY (id : Nat) (st : St) : Fk id (some (.normal, st)) = some (.normal, st) := by simp [Fk, leave]
@[go_sem] theorem ahf (id : Nat) (st : St) : Fk id (some (.ret, st)) = some (.ret, st) := by simp [Fk, leave]
@[go_sem] theorem aeg (id i : Nat) (st : St) : Fk id (some (.exit i, st)) = if i = id then some (.normal, st) else some (.exit i, st) := by
 simp only[Fk,leave,aLw,Ex.exit.injEq]
 split<;>rfl
@[go_sem] theorem aeh (id : Nat) : Fk id none = none := (rfl)
@[go_sem] theorem ahg (id : Nat) (c : Prop) [Decidable c] (a b : Option (Ex × St)) : Fk id (if c then a else b) = if c then Fk id a else Fk id b := by
 split<;>rfl
@[congr] theorem aaV {c c' : Option D} {a b : Option (Ex × St)} (h : True → c = c') : je c a b = je c' a b := by rw [h trivial]
@[go_sem] theorem ahh (p : Prop) [Decidable p] (a b : Option (Ex × St)) : je (some (.t (.bool (decide p)))) a b = if p then a else b := by
 by_cases h:p<;>simp[je,h]
@[go_sem] theorem aei (p : Prop) [Decidable p] (a b : Option (Ex × St)) : je (some (.t (.bool (!decide p)))) a b = if p then b else a := by
 by_cases h:p<;>simp[je,h]
@[go_sem] theorem aj5 (a : Option (Ex × St)) : je (some .ub) a a = a := by simp [je]
@[go_sem] theorem aej (x : Bool) (a b : Option (Ex × St)) : je (some (.t (.bool x))) a b = if x = true then a else b := (rfl)
def gF(gc:Bool)(dead:List Nat)(k:Nat)(x:Option (Ex×St)):Option St:=x.bind fun p=>match p.1 with
 | .normal=>tidy gc dead k p.2
 | _=>none
@[go_sem] theorem WS (gc : Bool) (dead : List Nat) (k : Nat) (st : St) : gF gc dead k (some (.normal, st)) = tidy gc dead k st := (rfl)
@[go_sem] theorem aek (gc : Bool) (dead : List Nat) (k : Nat) (c : Prop) [Decidable c] (a b : Option (Ex × St)) : gF gc dead k (if c then a else b) = if c then gF gc dead k a else gF gc dead k b := by
 split<;>rfl
theorem nO{gc:Bool}{dead:List Nat}{body:St→Option (Ex×St)}{st st2:St}(h:gF gc dead st.H.length (body st)=some st2)
 {p:Ex×St} (h2:qQ gc dead body st2=some p):qQ gc dead body st=some p:=by
 unfold gF at h
 obtain⟨⟨e,st1⟩,hq,h⟩:=aLa.1 h
 cases e with
 | normal=>exact Iy hq h h2
 | ret=>cases h
 | exit=>cases h
theorem Ez{gc:Bool}{dead:List Nat}{body:St→Option (Ex×St)}(s:Nat→St){p:Ex×St}(n:Nat)
 (h:∀j,j<n→gF gc dead (s j).H.length (body (s j))=some (s (j+1))) (he:qQ gc dead body (s n)=some p):qQ gc dead body (s 0)=some p:=by
 have:=Dd (s:=s) n 0 (fun j _ hj=>by
  have h:=h j (by omega)
  unfold gF at h
  obtain⟨⟨e,st1⟩,hq,h⟩:=aLa.1 h
  cases e with
  | normal=>exact⟨st1,hq,h⟩
  | ret=>cases h
  | exit=>cases h) (by simpa using he)
 exact this
def aj6(res:List (Nat×Option (Nat×Bool)))(k raw:Nat)(p:Ex×St):Option (D×ao):=match p.1 with
 | .exit _=>none
 | _=>(lE p.2 res).bind (finish k raw p.2.H)
@[go_sem] theorem aj7 (res : List (Nat × Option (Nat × Bool))) (k raw : Nat) (vs : List D) (H : ao) : aj6 res k raw (.ret, ⟨vs, H⟩) = (lE ⟨vs, H⟩ res).bind (finish k raw H) := (rfl)
@[go_sem] theorem aaW (res : List (Nat × Option (Nat × Bool))) (k raw : Nat) (vs : List D) (H : ao) : aj6 res k raw (.normal, ⟨vs, H⟩) = (lE ⟨vs, H⟩ res).bind (finish k raw H) := (rfl)
theorem aaX{fs:Nat→Option Fn}{raw f:Nat}{args:List D}{H:ao}{fn:Fn}{r:D×ao}(hf:fs f=some fn)(hn:fn.av=args.length)
 (h:(exS (qR fs) fn.body ⟨yD args fn.vars,H⟩).bind (aj6 fn.res H.length raw)=some r) (h0:fn.prim=[]:=by rfl):qR fs raw f args H=some r:=by
 obtain⟨p,hp,he⟩:=aLa.1 h
 exact WN hf hn (WR _ _ _ hp) he h0
@[go_sem] theorem aj8 {α β : Type} (c : Prop) [Decidable c] (a b : Option α) (k : α → Option β) : (if c then a else b).bind k = if c then a.bind k else b.bind k := by
 split<;>rfl
@[go_sem] theorem amu {α β : Type} (c : Prop) [Decidable c] (a b : Option α) (k : α → β) : (if c then a else b).map k = if c then a.map k else b.map k := by
 split<;>rfl
theorem aj9(a b:Int):(a==b)=decide (a=b):=by rw[Bool.eq_iff_iff];simp
theorem Cg{n:Int}(h1: -9223372036854775808≤n)(h2:n≤9223372036854775807):IntKind.i64.wrap n=n:=by
 have e:IntKind.i64.wrap n=if n % 18446744073709551616≥9223372036854775808 then n % 18446744073709551616-18446744073709551616 else n % 18446744073709551616:=by
  simp[IntKind.wrap,IntKind.signed,IntKind.bits]
 rw[e];split<;>omega
section
variable {α β : Type}
@[go_sem] theorem aaY (a : α) (f : α → Option β) : (some a).bind f = f a := (rfl)
@[go_sem] theorem ael (a : α) (f : α → β) : (some a).map f = some (f a) := (rfl)
@[go_sem] theorem aaZ (f : α → Option β) : (none : Option α).bind f = none := (rfl)
@[go_sem] theorem aem (f : α → β) : (none : Option α).map f = none := (rfl)
@[go_sem] theorem aen (a : α) (l : List α) (f : α → β) : (a :: l).map f = f a :: l.map f := (rfl)
@[go_sem] theorem ahi (f : α → β) : ([] : List α).map f = [] := (rfl)
@[go_sem] theorem aeo (a : α) (l : List α) : (a :: l)[0]? = some a := (rfl)
@[go_sem] theorem aep (a : α) (l : List α) (n : Nat) : (a :: l)[n + 1]? = l[n]? := (rfl)
@[go_sem] theorem aa0 (a d : α) (l : List α) : (a :: l).getD 0 d = a := (rfl)
@[go_sem] theorem aa1 (a d : α) (l : List α) (n : Nat) : (a :: l).getD (n + 1) d = l.getD n d := (rfl)
@[go_sem] theorem aeq (d : α) (n : Nat) : ([] : List α).getD n d = d := by simp
@[go_sem] theorem aer (a b : α) (l : List α) : (a :: l).set 0 b = b :: l := (rfl)
@[go_sem] theorem aes (a b : α) (l : List α) (n : Nat) : (a :: l).set (n + 1) b = a :: l.set n b := (rfl)
@[go_sem] theorem WT (a : α) (l m : List α) : (a :: l) ++ m = a :: (l ++ m) := (rfl)
@[go_sem] theorem YZ (l : List α) : [] ++ l = l := (rfl)
@[go_sem] theorem Y0 (l : List α) : l ++ [] = l := by simp
@[go_sem] theorem VU (a : α) (l : List α) (f : α → List β) : (a :: l).flatMap f = f a ++ l.flatMap f := by simp
@[go_sem] theorem WU (f : α → List β) : ([] : List α).flatMap f = [] := by simp
@[go_sem] theorem Y1 : ([] : List α).length = 0 := (rfl)
@[go_sem] theorem WW (a : α) (l : List α) : (a :: l).length = l.length + 1 := (rfl)
@[go_sem] theorem Y2 (l : List α) (f : α → β) : (l.map f).length = l.length := by simp
@[go_sem] theorem TJ (l m : List α) : (l ++ m).length = l.length + m.length := by simp
@[go_sem] theorem PX (n : Nat) (a : α) : (List.replicate n a).length = n := by simp
@[go_sem] theorem Y3 (l : List α) (i : Nat) (a : α) : (l.set i a).length = l.length := by simp
@[go_sem] theorem aa2 (l : List α) : l.drop 0 = l := (rfl)
@[go_sem] theorem aa3 (a : α) (l : List α) (n : Nat) : (a :: l).drop (n + 1) = l.drop n := (rfl)
@[go_sem] theorem aet (n : Nat) : ([] : List α).drop n = [] := by simp
@[go_sem] theorem aa4 (l : List α) : l.take 0 = [] := (rfl)
@[go_sem] theorem aa5 (a : α) (l : List α) (n : Nat) : (a :: l).take (n + 1) = a :: l.take n := (rfl)
@[go_sem] theorem aeu (n : Nat) : ([] : List α).take n = [] := by simp
@[go_sem] theorem aa6 (a b : α) : (bif true then a else b) = a := (rfl)
@[go_sem] theorem Y4 (a b : α) : (bif false then a else b) = b := (rfl)
@[go_sem] theorem aev (n : Nat) : n + 0 = n := (rfl)
@[go_sem] theorem aew (n : Nat) : 0 + n = n := by simp
@[go_sem] theorem aex (a b : α) : (some a = some b) = (a = b) := by simp
@[go_sem] theorem aka (a : α) : (some a).isSome = true := (rfl)
end
attribute [go_sem] decide_true decide_false if_true if_false aLt Bool.true_eq_false decide_eq_true_eq decide_eq_false_iff_not aLr Bool.or_eq_true Bool.not_eq_true' Bool.not_eq_true Bool.not_eq_false
 Bool.and_true Bool.true_and Bool.and_false Bool.false_and Bool.or_true Bool.true_or Bool.or_false Bool.false_or and_true true_and and_self not_true_eq_false not_false_eq_true beq_iff_eq bne_iff_ne ne_eq
@[go_sem] theorem aey : (!true) = false := (rfl)
@[go_sem] theorem aa7 : (!false) = true := (rfl)
@[go_sem] theorem apS (vs L : List D) (j : Nat) : X.get vs L (.v j) = vs[j]? := (rfl)
@[go_sem] theorem apT (vs L : List D) (k : Nat) : X.get vs L (.l k) = L[k]? := (rfl)
@[go_sem] theorem apU (vs L : List D) (d : D) : X.get vs L (.c d) = some d := (rfl)
@[go_sem] theorem apV (vs L : List D) (n : Int) : X.get vs L (.i n) = some (I n) := (rfl)
@[go_sem] theorem apW (vs L : List D) (x : Bool) : X.get vs L (.b x) = some (B x) := (rfl)
@[go_sem] theorem amv (vs : List D) (x : D) : wr vs none x = vs := (rfl)
@[go_sem] theorem amw (vs : List D) (s : Nat) (x : D) : wr vs (some s) x = vs.set s x := (rfl)
@[go_sem] theorem aez (args : List D) : yD args [] = [] := (rfl)
@[go_sem] theorem aa8 (args : List D) (s : Nat) (r : List Nat) : yD args (s :: r) = args.getD s .und :: yD args r := (rfl)
def amx(H:ao)(d:D):Option (D×ao):=some (d,H)
@[go_sem] theorem amy (H : ao) (d : D) : amx H d = some (d, H) := (rfl)
def pt{α:Type}(a:α)(l:Option (List α)):Option (List α):=l.map (a:: ·)
@[go_sem] theorem aeA {α : Type} (a : α) (l : List α) : pt a (some l) = some (a :: l) := (rfl)
@[go_sem] theorem aeB {α : Type} (a : α) : pt a none = none := (rfl)
@[go_sem] theorem akb {α β : Type} (f : α → Option β) : cO f [] = some [] := (rfl)
def aoO{α β:Type}(f:α→Option β)(r:List α)(y:β):Option (List β):=pt y (cO f r)
@[go_sem] theorem aa9 {α β : Type} (f : α → Option β) (r : List α) (y : β) : aoO f r y = pt y (cO f r) := (rfl)
@[go_sem] theorem LH {α β : Type} (f : α → Option β) (x : α) (r : List α) : cO f (x :: r) = (f x).bind (aoO f r) := (rfl)
section
variable (call : bf) (get : X → Option D) (H : ao)
@[go_sem] theorem apX (x : X) : evO call get H (.mv x) = (get x).bind (amx H) := by simp only [evO]; cases get x <;> rfl
def akc(c a b:Option D):Option (D×ao):=c.bind fun c=>a.bind fun a=>b.bind fun b=>(Ww c a b).map fun d=>(d,H)
@[go_sem] theorem apY (c a b : X) : evO call get H (.pk c a b) = akc H (get c) (get a) (get b) := (rfl)
@[go_sem] theorem ahj (x p q : Bool) : akc H (some (.t (.bool x))) (some (.t (.bool p))) (some (.t (.bool q))) = some (.t (.bool (bif x then p else q)), H) := by cases x <;> rfl
@[go_sem] theorem ahk (a b : D) : akc H (some (.t (.bool true))) (some a) (some b) = some (a, H) := (rfl)
@[go_sem] theorem aeC (a b : D) : akc H (some (.t (.bool false))) (some a) (some b) = some (b, H) := (rfl)
@[go_sem] theorem akd (x p : Bool) : (bif x then p else false) = (x && p) := by cases x <;> rfl
@[go_sem] theorem amz (x q : Bool) : (bif x then true else q) = (x || q) := by cases x <;> rfl
def mP(f:BinOp)(x y:Option D):Option (D×ao):=x.bind fun a=>y.bind fun b=>(Ij f a b).map fun d=>(d,H)
@[go_sem] theorem aoP (f : BinOp) (x y : X) : evO call get H (.bin f x y) = mP H f (get x) (get y) := (rfl)
section
variable (k j : IntKind) (a b : Int)
@[go_sem] theorem ahl : mP H .add (some (.t (.int k a))) (some (.t (.int k b))) = some (.t (.int k (k.wrap (a + b))), H) := by simp [mP, Ij, Nv]
@[go_sem] theorem ahm : mP H .sub (some (.t (.int k a))) (some (.t (.int k b))) = some (.t (.int k (k.wrap (a - b))), H) := by simp [mP, Ij, Nv]
@[go_sem] theorem ahn : mP H .mul (some (.t (.int k a))) (some (.t (.int k b))) = some (.t (.int k (k.wrap (a * b))), H) := by simp [mP, Ij, Nv]
@[go_sem] theorem aho : mP H .quo (some (.t (.int k a))) (some (.t (.int k b))) = if b = 0 then none else some (.t (.int k (k.wrap (a.tdiv b))), H) := by simp only [mP, Ij, Nv]; by_cases h : b = 0 <;> simp [h]
@[go_sem] theorem ahp : mP H .rem (some (.t (.int k a))) (some (.t (.int k b))) = if b = 0 then none else some (.t (.int k (a.tmod b)), H) := by simp only [mP, Ij, Nv]; by_cases h : b = 0 <;> simp [h]
@[go_sem] theorem ahq : mP H .eql (some (.t (.int k a))) (some (.t (.int k b))) = some (.t (.bool (decide (a = b))), H) := by simp [mP, Ij, Nv, aj9]
@[go_sem] theorem ahr : mP H .neq (some (.t (.int k a))) (some (.t (.int k b))) = some (.t (.bool (decide (¬ a = b))), H) := by simp [mP, Ij, Nv, bne, aj9]
@[go_sem] theorem ahs : mP H .lss (some (.t (.int k a))) (some (.t (.int k b))) = some (.t (.bool (decide (a < b))), H) := by simp [mP, Ij, Nv]
@[go_sem] theorem aht : mP H .leq (some (.t (.int k a))) (some (.t (.int k b))) = some (.t (.bool (decide (a ≤ b))), H) := by simp [mP, Ij, Nv]
@[go_sem] theorem ahu : mP H .gtr (some (.t (.int k a))) (some (.t (.int k b))) = some (.t (.bool (decide (b < a))), H) := by simp [mP, Ij, Nv]
@[go_sem] theorem ahv : mP H .geq (some (.t (.int k a))) (some (.t (.int k b))) = some (.t (.bool (decide (b ≤ a))), H) := by simp [mP, Ij, Nv]
@[go_sem] theorem ahw (h : 0 ≤ b) : mP H .shl (some (.t (.int k a))) (some (.t (.int j b))) = some (.t (.int k (k.wrap (a * 2 ^ min b.toNat k.bits))), H) := by simp [mP, Ij, Ii, Int.not_lt.2 h]
@[go_sem] theorem ahx (h : 0 ≤ b) : mP H .shr (some (.t (.int k a))) (some (.t (.int j b))) = some (.t (.int k (a.fdiv (2 ^ min b.toNat k.bits))), H) := by simp [mP, Ij, Ii, Int.not_lt.2 h]
@[go_sem] theorem ahy : mP H .and (some (.t (.int k a))) (some (.t (.int k b))) = some (.t (.int k (k.wrap (BitVec.ofInt k.bits a &&& BitVec.ofInt k.bits b).toNat)), H) := by simp [mP, Ij, Nv]
@[go_sem] theorem ake : mP H .or (some (.t (.int k a))) (some (.t (.int k b))) = some (.t (.int k (k.wrap (BitVec.ofInt k.bits a ||| BitVec.ofInt k.bits b).toNat)), H) := by simp [mP, Ij, Nv]
@[go_sem] theorem ahz : mP H .xor (some (.t (.int k a))) (some (.t (.int k b))) = some (.t (.int k (k.wrap (BitVec.ofInt k.bits a ^^^ BitVec.ofInt k.bits b).toNat)), H) := by simp [mP, Ij, Nv]
def amA(f:UnOp)(a:D):Option (D×ao):=(unD f a).map fun d=>(d,H)
@[go_sem] theorem apZ (f : UnOp) (x : X) : evO call get H (.un f x) = (get x).bind (amA H f) := (rfl)
@[go_sem] theorem akf (x : Bool) : amA H .not (.t (.bool x)) = some (.t (.bool (!x)), H) := (rfl)
@[go_sem] theorem akg : amA H .neg (.t (.int k a)) = some (.t (.int k (k.wrap (0 - a))), H) := (rfl)
def aoQ(k:IntKind)(a:D):Option (D×ao):=(aaf k a).map fun d=>(d,H)
@[go_sem] theorem ap0 (x : X) : evO call get H (.cv k x) = (get x).bind (aoQ H k) := (rfl)
@[go_sem] theorem akh : aoQ H k (.t (.int j a)) = some (.t (.int k (k.wrap a)), H) := (rfl)
end
def yv(q:EqK)(neg:Bool)(x y:Option D):Option (D×ao):=x.bind fun a=>y.bind fun b=>(aac q neg a b).map fun d=>(d,H)
@[go_sem] theorem aoR (q : EqK) (neg : Bool) (x y : X) : evO call get H (.eqk q neg x y) = yv H q neg (get x) (get y) := (rfl)
@[go_sem] theorem aeD (x y : Bool) : yv H .bool false (some (.t (.bool x))) (some (.t (.bool y))) = some (.t (.bool (x == y)), H) := (rfl)
@[go_sem] theorem aba (x y : Bool) : yv H .bool true (some (.t (.bool x))) (some (.t (.bool y))) = some (.t (.bool (!(x == y))), H) := (rfl)
def Y5:List T→List T→Bool
 | .int _ a::xs,.int _ b::ys=>decide (a=b)&&Y5 xs ys
 | _,_=>true
def Re:Nat→List T→List T→Bool
 | 0,[],[]=>true
 | n+1,.int j _::xs,.int k _::ys=>decide (j=k)&&Re n xs ys
 | _,_,_=>false
@[go_sem] theorem ahA (k j : IntKind) (a b : Int) (xs ys : List T) : Y5 (.int k a :: xs) (.int j b :: ys) = (decide (a = b) && Y5 xs ys) := (rfl)
@[go_sem] theorem aki : Y5 [] [] = true := (rfl)
@[go_sem] theorem akj : Re 0 [] [] = true := (rfl)
@[go_sem] theorem ahB (n : Nat) (k : IntKind) (a b : Int) (xs ys : List T) : Re (n + 1) (.int k a :: xs) (.int k b :: ys) = Re n xs ys := by simp [Re]
theorem Fl:∀ {n:Nat} {xs ys:List T},Re n xs ys=true→xs.length=n∧qs xs ys=some (Y5 xs ys)
 | 0,[],[],_=>⟨rfl,rfl⟩
 | 0,[],_::_,h=>by simp[Re]at h
 | 0,_::_,_,h=>by simp[Re]at h
 | n+1,[],_,h=>by simp[Re]at h
 | n+1,x::xs,[],h=>by cases x<;>simp[Re]at h
 | n+1,x::xs,y::ys,h=>by
   cases x<;>cases y<;>simp only[Re,aLr,decide_eq_true_eq,aLt]at h
   obtain⟨rfl,h⟩:=h
   obtain⟨h1,h2⟩:=Fl h
   exact⟨by simp[h1],by simp[qs,h2,Y5,aj9]⟩
@[go_sem] theorem aeE (n : Nat) (xs ys : List T) (h : Re n xs ys = true) : yv H (.ints n) false (some (.t (.agg xs))) (some (.t (.agg ys))) = some (.t (.bool (Y5 xs ys)), H) := by
 obtain⟨h1,h2⟩:=Fl h;simp[yv,aac,eqD,h1,h2]
@[go_sem] theorem abb (n : Nat) (xs ys : List T) (h : Re n xs ys = true) : yv H (.ints n) true (some (.t (.agg xs))) (some (.t (.agg ys))) = some (.t (.bool (!Y5 xs ys)), H) := by
 obtain⟨h1,h2⟩:=Fl h;simp[yv,aac,eqD,h1,h2]
@[go_sem] theorem ahC (id ep n : Nat) (h : 0 < n) : yv H .sl false (some (.ref id ep n)) (some .nil) = some (.t (.bool false), H) := by
 cases n with
 | zero=>omega
 | succ n=>rfl
@[go_sem] theorem ahD : yv H .sl false (some .nil) (some .nil) = some (.t (.bool true), H) := (rfl)
@[go_sem] theorem ahE : yv H .sl false (some (.t (.sl []))) (some .nil) = some (.ub, H) := (rfl)
@[go_sem] theorem aeF : yv H .sl true (some (.t (.sl []))) (some .nil) = some (.ub, H) := (rfl)
@[go_sem] theorem aeG : yv H .sl true (some .nil) (some .nil) = some (.t (.bool false), H) := (rfl)
theorem JB(es:List T)(h:es≠[]):yv H .sl false (some (.t (.sl es))) (some .nil)=some (.t (.bool false),H):=by cases es<;>first | exact(h rfl).elim | rfl
def akk(a:D):Option (D×ao):=(ajL a).map fun d=>(d,H)
@[go_sem] theorem ap1 (x : X) : evO call get H (.nc x) = (get x).bind (akk H) := (rfl)
@[go_sem] theorem amB (id off : Nat) : akk H (.bp id off) = some (.bp id off, H) := (rfl)
@[go_sem] theorem amC (id ep n i off : Nat) : akk H (.ap id ep n i off) = some (.ap id ep n i off, H) := (rfl)
@[go_sem] theorem amD (cs : List T) : akk H (.ep cs) = some (.ep cs, H) := (rfl)
def aeH(off:Nat)(a:D):Option (D×ao):=(QW a off).map fun d=>(d,H)
@[go_sem] theorem ap2 (x : X) (off : Nat) : evO call get H (.fa x off) = (get x).bind (aeH H off) := (rfl)
@[go_sem] theorem amE (id o off : Nat) : aeH H off (.bp id o) = some (.bp id (o + off), H) := (rfl)
@[go_sem] theorem amF (id ep n i o off : Nat) : aeH H off (.ap id ep n i o) = some (.ap id ep n i (o + off), H) := (rfl)
@[go_sem] theorem amG (cs : List T) (off : Nat) : aeH H off (.ep cs) = some (.ep (cs.drop off), H) := (rfl)
@[go_sem] theorem ap3 (cs : List D) : cut cs 0 0 = some [] := by simp [cut]
@[go_sem] theorem ap4 (c : D) (cs : List D) : cut (c :: cs) 0 1 = some [c] := by simp [cut]
@[go_sem] theorem ap5 (c : D) (cs : List D) (n : Nat) : cut (c :: cs) 0 (n + 1) = pt c (cut cs 0 n) := by
 simp only[cut,pt];by_cases h:n≤cs.length<;>simp[h]
@[go_sem] theorem ap6 (c : D) (cs : List D) (off n : Nat) : cut (c :: cs) (off + 1) n = cut cs off n := by
 simp only[cut,List.length_cons,List.drop_succ_cons]
 by_cases h:off+n≤cs.length
 · rw[if_pos h,if_pos (by omega)]
 · rw[if_neg h,if_neg (by omega)]
@[go_sem] theorem ahF (c : D) : gy false [c] = some c := (rfl)
@[go_sem] theorem ahG (cs : List D) : gy true cs = some (yr cs) := (rfl)
def mkA(cs:List D):Option (List T)→D
 | some ts=> .t (.agg ts)
 | none=> .agg cs
@[go_sem] theorem akl (cs : List D) (ts : List T) : mkA cs (some ts) = .t (.agg ts) := (rfl)
@[go_sem] theorem akm (cs : List D) : mkA cs none = .agg cs := (rfl)
@[go_sem] theorem akn (cs : List D) : yr cs = mkA cs (ux cs) := by unfold yr; cases ux cs <;> rfl
@[go_sem] theorem ako : ux [] = some [] := (rfl)
@[go_sem] theorem aoS (x : T) (r : List D) : ux (.t x :: r) = pt x (ux r) := (rfl)
@[go_sem] theorem aoT (r : List D) : ux (.nil :: r) = none := (rfl)
@[go_sem] theorem akp (a b c : Nat) (r : List D) : ux (.ref a b c :: r) = none := (rfl)
@[go_sem] theorem akq (a b c d e : Nat) (r : List D) : ux (.sub a b c d e :: r) = none := (rfl)
@[go_sem] theorem WX (l : List T) : ux (l.map .t) = some l := by induction l with | nil => rfl | cons a l ih => simp [ux, ih]
def ahH(off n:Nat)(agg:Bool)(a:D):Option (D×ao):=(Ao a off n agg).map fun d=>(d,H)
@[go_sem] theorem ap7 (x : X) (off n : Nat) (agg : Bool) : evO call get H (.fl x off n agg) = (get x).bind (ahH H off n agg) := (rfl)
def ofC(agg:Bool)(cs:Option (List D)):Option (D×ao):=(cs.bind (gy agg)).bind (amx H)
@[go_sem] theorem ap8 (c : D) : ofC H false (some [c]) = some (c, H) := (rfl)
@[go_sem] theorem ap9 (cs : List D) : ofC H true (some cs) = some (yr cs, H) := (rfl)
@[go_sem] theorem aoU (cs : List T) (off n : Nat) (agg : Bool) : ahH H off n agg (.t (.agg cs)) = ofC H agg (cut (cs.map .t) off n) := by
 simp only[ahH,Ao,D.isAgg,if_true,D.cells,T.cells,ofC];cases (cut (cs.map .t) off n).bind (gy agg)<;>rfl
@[go_sem] theorem akr (cs : List D) (off n : Nat) (agg : Bool) : ahH H off n agg (.agg cs) = ofC H agg (cut cs off n) := by
 simp only[ahH,Ao,D.isAgg,if_true,D.cells,ofC];cases (cut cs off n).bind (gy agg)<;>rfl
@[go_sem] theorem amH (n : Nat) : idx (n : Int) = some n := by simp [idx]
@[go_sem] theorem aqa : idx 0 = some 0 := (rfl)
theorem abc{i:Int}(h:0≤i):idx i=some i.toNat:=by simp[idx,h]
def abd(sz:Nat)(x i:Option D):Option (D×ao):=x.bind fun a=>(i.bind intOf).bind fun n=>(Jg H a n sz).map fun d=>(d,H)
@[go_sem] theorem aqb (x i : X) (sz : Nat) : evO call get H (.ia x i sz) = abd H sz (get x) (get i) := (rfl)
def WY(sz:Nat)(e:T):Option (D×ao):=if e.cells.length=sz then some (.ep e.cells,H)else none
def amI(sz:Nat)(es:List T)(j:Nat):Option (D×ao):=es[j]?.bind (WY H sz)
@[go_sem] theorem amJ (sz : Nat) (es : List T) (j : Nat) : amI H sz es j = es[j]?.bind (WY H sz) := (rfl)
@[go_sem] theorem amK (k : IntKind) (es : List T) (n : Int) (sz : Nat) : abd H sz (some (.t (.sl es))) (some (.t (.int k n))) = (idx n).bind (amI H sz es) := by
 simp only[abd,aLq,intOf,Jg]
 cases idx n with
 | none=>rfl
 | some j=>
   simp only[aLq,amI]
   cases es[j]? with
   | none=>rfl
   | some e=>simp only[aLq,WY];split<;>rfl
@[go_sem] theorem aks (k : IntKind) (n : Int) : WY H 1 (.int k n) = some (.ep [.int k n], H) := (rfl)
@[go_sem] theorem ahI (b : Bool) : WY H 1 (.bool b) = some (.ep [.bool b], H) := (rfl)
@[go_sem] theorem amL (es : List T) : WY H 1 (.sl es) = some (.ep [.sl es], H) := (rfl)
def sC{α:Type}:Nat→List α→Bool
 | 0,[]=>true
 | n+1,_::r=>sC n r
 | _,_=>false
@[go_sem] theorem amM {α : Type} : sC 0 ([] : List α) = true := (rfl)
@[go_sem] theorem amN {α : Type} (n : Nat) (a : α) (l : List α) : sC (n + 1) (a :: l) = sC n l := (rfl)
theorem hU{α:Type}:∀ {n:Nat} {l:List α},sC n l=true↔l.length=n
 | 0,[]=>by simp[sC]
 | 0,_::_=>by simp[sC]
 | n+1,[]=>by simp[sC]
 | n+1,_::r=>by simp only[sC,List.length_cons,Nat.add_right_cancel_iff];exact hU
@[go_sem] theorem akt (cs : List T) (sz : Nat) : WY H sz (.agg cs) = if sC sz cs = true then some (.ep cs, H) else none := by
 by_cases h:cs.length=sz
 · rw[WY,if_pos (show(T.agg cs).cells.length=sz from h),if_pos (hU.2 h)];rfl
 · rw[WY,if_neg (show ¬(T.agg cs).cells.length=sz from h),if_neg fun e=>h (hU.1 e)]
def abe(sz id ep n j:Nat):Option Obj→Option (D×ao)
 | some (.arr sz' _ ep' es)=>if ep=ep'∧n=es.length then(if j<n∧sz'=sz then some (.ap id ep n j 0,H)else none)else none
 | _=>none
@[go_sem] theorem aku (k : IntKind) (id ep n : Nat) (i : Int) (sz : Nat) : abd H sz (some (.ref id ep n)) (some (.t (.int k i))) = (idx i).bind fun j => abe H sz id ep n j H[id]? := by
 simp only[abd,aLq,intOf,Jg]
 cases idx i with
 | none=>rfl
 | some j=>
   simp only[aLq,jU]
   generalize H[id]?=o
   rcases o with _ | (_ | ⟨sz',pin,ep',es⟩)
   · rfl
   · rfl
   · simp only[abe]
     by_cases h:ep=ep'∧n=es.length
     · rw[if_pos h,if_pos h,aLq];split<;>rfl
     · rw[if_neg h,if_neg h];rfl
@[go_sem] theorem ahJ (sz id ep n j sz' : Nat) (pin : Bool) (ep' : Nat) (es : List D) : abe H sz id ep n j (some (.arr sz' pin ep' es)) =
 if ep=ep'∧n=es.length then(if j<n∧sz'=sz then some (.ap id ep n j 0,H)else none)else none:=(rfl)
def abf(sz id ep n lo hi j:Nat):Option Obj→Option (D×ao)
 | some (.arr sz' _ ep' es)=>if ep=ep'∧n=es.length then(if lo+j<hi∧hi≤n∧sz'=sz then some (.ap id ep n (lo+j) 0,H)else none)else none
 | _=>none
@[go_sem] theorem akv (k : IntKind) (id ep n lo hi : Nat) (i : Int) (sz : Nat) : abd H sz (some (.sub id ep n lo hi)) (some (.t (.int k i))) = (idx i).bind fun j => abf H sz id ep n lo hi j H[id]? := by
 simp only[abd,aLq,intOf,Jg]
 cases idx i with
 | none=>rfl
 | some j=>
   simp only[aLq,jU]
   generalize H[id]?=o
   rcases o with _ | (_ | ⟨sz',pin,ep',es⟩)
   · rfl
   · rfl
   · simp only[abf]
     by_cases h:ep=ep'∧n=es.length
     · rw[if_pos h,if_pos h,aLq];split<;>rfl
     · rw[if_neg h,if_neg h];rfl
@[go_sem] theorem ahK (sz id ep n lo hi j sz' : Nat) (pin : Bool) (ep' : Nat) (es : List D) : abf H sz id ep n lo hi j (some (.arr sz' pin ep' es)) =
 if ep=ep'∧n=es.length then(if lo+j<hi∧hi≤n∧sz'=sz then some (.ap id ep n (lo+j) 0,H)else none)else none:=(rfl)
def amO(len sz:Nat)(agg:Bool)(x i:Option D):Option (D×ao):=x.bind fun a=>(i.bind intOf).bind fun n=>(idx n).bind fun j=>(Ik a j len sz agg).map fun d=>(d,H)
def ahL(len sz:Nat)(agg:Bool)(a:D)(j:Nat):Option (D×ao):=(Ik a j len sz agg).map fun d=>(d,H)
@[go_sem] theorem aqc (x i : X) (len sz : Nat) (agg : Bool) : evO call get H (.ix x i len sz agg) = amO H len sz agg (get x) (get i) := (rfl)
@[go_sem] theorem amP (len sz : Nat) (agg : Bool) (a : D) (k : IntKind) (n : Int) : amO H len sz agg (some a) (some (.t (.int k n))) = (idx n).bind (ahL H len sz agg a) := by
 simp only[amO,aLq,intOf];cases idx n<;>rfl
@[go_sem] theorem akw (len j : Nat) (ts : List T) (h : j < len) (hs : (ts.all fun t => t.scalar) = true) : ahL H len 1 false (.t (.agg ts)) j = (ts[j]?).map fun t => (.t t, H) := by
 have h0:len≠0:=by omega
 unfold ahL Ik
 rw[if_neg h0,if_pos h]
 unfold Ao cut
 simp only[D.isAgg,D.cells,T.cells,if_true,Nat.mul_one,List.length_map]
 by_cases hj:j<ts.length
 · rw[if_pos (by omega),aLc hj]
   have e:((ts.map D.t).drop j).take 1=[D.t ts[j]]:=by
    rw[List.drop_eq_getElem_cons (by simpa using hj)];simp
   rw[e];rfl
 · rw[if_neg (by omega),aLm (by omega)];rfl
def abg(len sz:Nat)(x i:Option D):Option (D×ao):=x.bind fun a=>(i.bind intOf).bind fun n=>(idx n).bind fun j=>if j<len then(QW a (j*sz)).map fun d=>(d,H)else none
@[go_sem] theorem aoV (x i : X) (len sz : Nat) : evO call get H (.iaa x i len sz) = abg H len sz (get x) (get i) := (rfl)
def aoW(len sz:Nat)(a:D)(j:Nat):Option (D×ao):=if j<len then aeH H (j*sz) a else none
@[go_sem] theorem amQ (len sz : Nat) (a : D) (j : Nat) : aoW H len sz a j = if j < len then aeH H (j * sz) a else none := (rfl)
@[go_sem] theorem akx (len sz : Nat) (a : D) (k : IntKind) (n : Int) : abg H len sz (some a) (some (.t (.int k n))) = (idx n).bind (aoW H len sz a) := by
 simp only[abg,aLq,intOf];cases idx n<;>rfl
def VV(n:Nat)(agg:Bool)(a:D):Option (D×ao):=(BZ H a n agg).map fun d=>(d,H)
@[go_sem] theorem aqd (x : X) (n : Nat) (agg : Bool) : evO call get H (.ld x n agg) = (get x).bind (VV H n agg) := (rfl)
def WZ(off n:Nat)(agg:Bool):Option Obj→Option (D×ao)
 | some (.box cs)=>ofC H agg (cut cs off n)
 | _=>none
@[go_sem] theorem aky (off n : Nat) (agg : Bool) (cs : List D) : WZ H off n agg (some (.box cs)) = ofC H agg (cut cs off n) := (rfl)
@[go_sem] theorem amR (id off n : Nat) (agg : Bool) : VV H n agg (.bp id off) = WZ H off n agg H[id]? := by
 simp only[VV,BZ]
 generalize H[id]?=o
 rcases o with _ | (cs | _)
 · rfl
 · simp only[WZ,ofC];cases (cut cs off n).bind (gy agg)<;>rfl
 · rfl
@[go_sem] theorem amS (cs : List T) (n : Nat) (agg : Bool) : VV H n agg (.ep cs) = ofC H agg (cut (cs.map .t) 0 n) := by
 simp only[VV,BZ,ofC];cases (cut _ 0 n).bind (gy agg)<;>rfl
def akz(off n:Nat)(agg:Bool)(e:D):Option (D×ao):=ofC H agg (cut e.cells off n)
@[go_sem] theorem amT (off n : Nat) (agg : Bool) (e : D) : akz H off n agg e = ofC H agg (cut e.cells off n) := (rfl)
def abh(ep m i off n:Nat)(agg:Bool):Option Obj→Option (D×ao)
 | some (.arr _ _ ep' es)=>if ep=ep'∧m=es.length then es[i]?.bind (akz H off n agg)else none
 | _=>none
@[go_sem] theorem akA (ep m i off n : Nat) (agg : Bool) (sz : Nat) (pin : Bool) (ep' : Nat) (es : List D) :
 abh H ep m i off n agg (some (.arr sz pin ep' es))=if ep=ep'∧m=es.length then es[i]?.bind (akz H off n agg)else none:=(rfl)
@[go_sem] theorem amU (id ep m i off n : Nat) (agg : Bool) : VV H n agg (.ap id ep m i off) = abh H ep m i off n agg H[id]? := by
 simp only[VV,BZ,jU]
 generalize H[id]?=o
 rcases o with _ | (_ | ⟨sz',pin,ep',es⟩)
 · rfl
 · rfl
 · simp only[abh]
   by_cases h:ep=ep'∧m=es.length
   · rw[if_pos h,if_pos h,aLq]
     cases es[i]? with
     | none=>rfl
     | some e=>simp only[aLq,akz,ofC];cases (cut e.cells off n).bind (gy agg)<;>rfl
   · rw[if_neg h,if_neg h];rfl
@[go_sem] theorem aeI (cs : List D) : (D.agg cs).cells = cs := (rfl)
@[go_sem] theorem akB (x : T) : (D.t x).cells = x.cells.map .t := (rfl)
@[go_sem] theorem aeJ : D.nil.cells = [.nil] := (rfl)
@[go_sem] theorem ahM (a b : Nat) : (D.bp a b).cells = [.bp a b] := (rfl)
@[go_sem] theorem aeK (a b c : Nat) : (D.ref a b c).cells = [.ref a b c] := (rfl)
@[go_sem] theorem aeL (a b c d e : Nat) : (D.sub a b c d e).cells = [.sub a b c d e] := (rfl)
@[go_sem] theorem ahN (f : Nat) (cs : List D) : (D.fn f cs).cells = [.fn f cs] := (rfl)
@[go_sem] theorem abi : D.nilp.cells = [.nilp] := (rfl)
@[go_sem] theorem aeM (cs : List T) : (T.agg cs).cells = cs := (rfl)
@[go_sem] theorem aeN (k : IntKind) (n : Int) : (T.int k n).cells = [.int k n] := (rfl)
@[go_sem] theorem abj (b : Bool) : (T.bool b).cells = [.bool b] := (rfl)
@[go_sem] theorem aeO (b : ByteArray) : (T.str b).cells = [.str b] := (rfl)
@[go_sem] theorem ahO (es : List T) : (T.sl es).cells = [.sl es] := (rfl)
def fits(n:Nat)(v:D):Bool:=decide (v.cells.length=n)&&v.lD
section
variable (n : Nat)
@[go_sem] theorem fits_int (k : IntKind) (a : Int) : fits 1 (.t (.int k a)) = true := (rfl)
@[go_sem] theorem fits_bool (b : Bool) : fits 1 (.t (.bool b)) = true := (rfl)
@[go_sem] theorem amV (es : List T) : fits 1 (.t (.sl es)) = true := (rfl)
@[go_sem] theorem akC : fits 1 .nil = true := (rfl)
@[go_sem] theorem akD (a b c : Nat) : fits 1 (.ref a b c) = true := (rfl)
@[go_sem] theorem akE (a b c d e : Nat) : fits 1 (.sub a b c d e) = true := (rfl)
@[go_sem] theorem amW (a b : Nat) : fits 1 (.bp a b) = true := (rfl)
@[go_sem] theorem amX (f : Nat) (cs : List D) : fits 1 (.fn f cs) = true := (rfl)
@[go_sem] theorem akF (cs : List D) : fits n (.agg cs) = sC n cs := by rw [Bool.eq_iff_iff, hU]; show (decide (cs.length = n) && true) = true ↔ _; simp
@[go_sem] theorem ahP (cs : List T) : fits n (.t (.agg cs)) = sC n cs := by rw [Bool.eq_iff_iff, hU]; simp [fits, D.cells, T.cells, D.lD]
end
@[go_sem] theorem abk {α : Type} (cs : List α) : bM cs 0 [] = some cs := by simp [bM]
@[go_sem] theorem abl {α : Type} (c x : α) (cs xs : List α) : bM (c :: cs) 0 (x :: xs) = pt x (bM cs 0 xs) := by
 simp only[bM,pt];by_cases h:xs.length≤cs.length<;>simp[h]
@[go_sem] theorem abm {α : Type} (c : α) (cs : List α) (off : Nat) (xs : List α) : bM (c :: cs) (off + 1) xs = pt c (bM cs off xs) := by
 simp only[bM,pt,List.length_cons]
 by_cases h:off+xs.length≤cs.length
 · rw[if_pos h,if_pos (by omega)];simp[show off+1+xs.length=(off+xs.length)+1 by omega]
 · rw[if_neg h,if_neg (by omega)];rfl
def abn(n:Nat)(live:List (Nat×Nat))(a x:Option D):Option (D×ao):=a.bind fun p=>x.bind fun d=>(C2 H p d n).bind fun H'=>(uB H' p live).map fun H''=>(.tup [],H'')
@[go_sem] theorem aqe (a x : X) (n : Nat) (live : List (Nat × Nat)) : evO call get H (.st a x n live) = abn H n live (get a) (get x) := (rfl)
def IB(H:ao)(id:Nat)(live:List (Nat×Nat)):Option (D×ao):=(uB H (.bp id 0) live).map fun H'=>(.tup [],H')
def PY(id:Nat)(live:List (Nat×Nat))(cs:List D):Option (D×ao):=IB (H.set id (.box cs)) id live
@[go_sem] theorem ahQ (id : Nat) (live : List (Nat × Nat)) (cs : List D) : PY H id live cs = IB (H.set id (.box cs)) id live := (rfl)
@[go_sem] theorem aeP (H : ao) (id : Nat) : IB H id [] = some (.tup [], H) := (rfl)
def abo(id off:Nat)(live:List (Nat×Nat))(xs:List D):Option Obj→Option (D×ao)
 | some (.box cs)=>(bM cs off xs).bind (PY H id live)
 | _=>none
@[go_sem] theorem akG (id off : Nat) (live : List (Nat × Nat)) (xs cs : List D) : abo H id off live xs (some (.box cs)) = (bM cs off xs).bind (PY H id live) := (rfl)
@[go_sem] theorem amY (n id off : Nat) (live : List (Nat × Nat)) (v : D) : abn H n live (some (.bp id off)) (some v) = if fits n v = true then abo H id off live v.cells H[id]? else none := by
 by_cases h:fits n v=true
 case neg=>
  rw[if_neg h]
  simp only[fits,aLr,decide_eq_true_eq]at h
  simp only[abn,aLq,C2,if_neg h];rfl
 rw[if_pos h]
 simp only[fits,aLr,decide_eq_true_eq]at h
 simp only[abn,aLq,C2,h.1,h.2,and_self,if_true]
 generalize H[id]?=o
 rcases o with _ | (cs | _)
 · rfl
 · simp only[abo]
   cases bM cs off v.cells with
   | none=>rfl
   | some cs'=>simp only[aLw,aLq,PY,IB,uB]
 · rfl
def LI(id sz ep i:Nat)(es:List D)(agg:Bool)(cs:List D):Option (D×ao):=(gy agg cs).bind fun e=>if e.lD then some (.tup [],H.set id (.arr sz false ep (es.set i e)))else none
def akH(id sz ep i off:Nat)(es xs:List D)(e:D):Option (D×ao):=(bM e.cells off xs).bind (LI H id sz ep i es e.isAgg)
@[go_sem] theorem amZ (id sz ep i off : Nat) (es xs : List D) (e : D) : akH H id sz ep i off es xs e = (bM e.cells off xs).bind (LI H id sz ep i es e.isAgg) := (rfl)
@[go_sem] theorem ahR (cs : List D) : (D.agg cs).isAgg = true := (rfl)
@[go_sem] theorem aeQ (cs : List T) : (D.t (.agg cs)).isAgg = true := (rfl)
@[go_sem] theorem ahS (k : IntKind) (n : Int) : (D.t (.int k n)).isAgg = false := (rfl)
@[go_sem] theorem aeR (b : Bool) : (D.t (.bool b)).isAgg = false := (rfl)
@[go_sem] theorem ahT (b : ByteArray) : (D.t (.str b)).isAgg = false := (rfl)
@[go_sem] theorem akI (es : List T) : (D.t (.sl es)).isAgg = false := (rfl)
@[go_sem] theorem ahU : D.nil.isAgg = false := (rfl)
@[go_sem] theorem ahV (a b c : Nat) : (D.ref a b c).isAgg = false := (rfl)
@[go_sem] theorem ahW (a b c d e : Nat) : (D.sub a b c d e).isAgg = false := (rfl)
@[go_sem] theorem am0 (id sz ep i : Nat) (es : List D) (x : T) : LI H id sz ep i es false [.t x] = some (.tup [], H.set id (.arr sz false ep (es.set i (.t x)))) := (rfl)
@[go_sem] theorem ahX (id sz ep i : Nat) (es : List D) : LI H id sz ep i es false [.nil] = some (.tup [], H.set id (.arr sz false ep (es.set i .nil))) := (rfl)
@[go_sem] theorem ahY (id sz ep i a b c : Nat) (es : List D) : LI H id sz ep i es false [.ref a b c] = some (.tup [], H.set id (.arr sz false ep (es.set i (.ref a b c)))) := (rfl)
theorem Oa(cs:List D):(yr cs).lD=true:=by unfold yr;cases ux cs<;>rfl
@[go_sem] theorem am1 (id sz ep i : Nat) (es cs : List D) : LI H id sz ep i es true cs = some (.tup [], H.set id (.arr sz false ep (es.set i (yr cs)))) := by
 simp[LI,gy,Oa]
def abp(id ep m i off:Nat)(xs:List D):Option Obj→Option (D×ao)
 | some (.arr sz pin ep' es)=>if ep=ep'∧m=es.length then(if pin then none else es[i]?.bind (akH H id sz ep i off es xs))else none
 | _=>none
@[go_sem] theorem akJ (id ep m i off : Nat) (xs : List D) (sz : Nat) (pin : Bool) (ep' : Nat) (es : List D) :
 abp H id ep m i off xs (some (.arr sz pin ep' es))=if ep=ep'∧m=es.length then(if pin=true then none else es[i]?.bind (akH H id sz ep i off es xs))else none:=(rfl)
@[go_sem] theorem am2 (n id ep m i off : Nat) (v : D) : abn H n [] (some (.ap id ep m i off)) (some v) = if fits n v = true then abp H id ep m i off v.cells H[id]? else none := by
 by_cases h:fits n v=true
 case neg=>
  rw[if_neg h]
  simp only[fits,aLr,decide_eq_true_eq]at h
  simp only[abn,aLq,C2,if_neg h];rfl
 rw[if_pos h]
 simp only[fits,aLr,decide_eq_true_eq]at h
 simp only[abn,aLq,C2,h.1,h.2,and_self,if_true,jU]
 generalize H[id]?=o
 rcases o with _ | (_ | ⟨sz',pin,ep',es⟩)
 · rfl
 · rfl
 · simp only[abp]
   by_cases h:ep=ep'∧m=es.length
   · rw[if_pos h,if_pos h,aLq]
     cases pin with
     | true=>rfl
     | false=>
       simp only[aLt,if_false]
       cases es[i]? with
       | none=>rfl
       | some e=>
         simp only[aLq,akH]
         cases bM e.cells off v.cells with
         | none=>rfl
         | some cs'=>
           simp only[aLq,LI]
           cases gy e.isAgg cs' with
           | none=>rfl
           | some e'=>
             simp only[aLq]
             by_cases h3:e'.lD=true
             · rw[if_pos h3,if_pos h3,h.1];rfl
             · rw[if_neg h3,if_neg h3];rfl
   · rw[if_neg h,if_neg h];rfl
def abq(zero:List D)(ps:List (Nat×Nat×D)):Option (D×ao):=(Am zero ps).map fun cs=>(yr cs,H)
@[go_sem] theorem aqf (zero : List D) (parts : List (Nat × Nat × X)) : evO call get H (.bd zero parts) = (qy get parts).bind (abq H zero) := (rfl)
@[go_sem] theorem Y6 : qy get [] = some [] := (rfl)
def ahZ(off n:Nat)(r:List (Nat×Nat×X))(d:D):Option (List (Nat×Nat×D)):=pt (off,n,d) (qy get r)
@[go_sem] theorem akK (off n : Nat) (r : List (Nat × Nat × X)) (d : D) : ahZ get off n r d = pt (off, n, d) (qy get r) := (rfl)
@[go_sem] theorem W4 (off n : Nat) (x : X) (r : List (Nat × Nat × X)) : qy get ((off, n, x) :: r) = (get x).bind (ahZ get off n r) := (rfl)
@[go_sem] theorem akL (zero : List D) : abq H zero [] = some (yr zero, H) := (rfl)
def bdC(r:List (Nat×Nat×D))(z:List D):Option (D×ao):=abq H z r
@[go_sem] theorem aoX (r : List (Nat × Nat × D)) (z : List D) : bdC H r z = abq H z r := (rfl)
@[go_sem] theorem ah0 (zero : List D) (off n : Nat) (x : D) (r : List (Nat × Nat × D)) : abq H zero ((off, n, x) :: r) = if fits n x = true then (bM zero off x.cells).bind (bdC H r) else none := by
 by_cases h:fits n x=true
 case neg=>
  rw[if_neg h]
  have h2:(x.lD&&x.cells.length==n)=false:=by rw[← Bool.not_eq_true,Bool.and_comm];simpa [fits]using h
  simp only[abq,Am,h2];rfl
 rw[if_pos h]
 simp only[fits,aLr,decide_eq_true_eq]at h
 simp only[abq,Am,h.1,h.2,beq_self_eq_true,Bool.and_self,if_true]
 cases bM zero off x.cells<;>rfl
def de(n:Nat):List T→Bool
 | []=>true
 | x::r=>sC n x.cells&&de n r
@[go_sem] theorem Y7 (n : Nat) : de n [] = true := (rfl)
@[go_sem] theorem AM (n : Nat) (x : T) (r : List T) : de n (x :: r) = (sC n x.cells && de n r) := (rfl)
def IC(sz:Nat)(ds:List D):Option (D×ao):=if ds.all (fun d=>d.cells.length==sz)then(cO (frz H depth) ds).map fun ts=>(.t (.sl ts),pins H (ds.flatMap (jT H depth)))else none
@[go_sem] theorem aqg (xs : List X) (sz : Nat) : evO call get H (.bs xs sz) = (cO get xs).bind (IC H sz) := (rfl)
theorem ah1(sz:Nat)(ds:List D)(ts:List T)(h:ux ds=some ts)(hc:de sz ts=true):IC H sz ds=some (.t (.sl ts),H):=by
 have key:∀(ds:List D) (ts:List T),ux ds=some ts→de sz ts=true→ds.all (fun d=>d.cells.length==sz)=true∧cO (frz H depth) ds=some ts∧ds.flatMap (jT H depth)=[]:=by
  intro ds
  induction ds with
  | nil=>intro ts h hc;simp[ux]at h;subst h;simp[cO]
  | cons d ds ih=>
    intro ts h hc
    cases d with
    | t x=>
      simp only[ux,aLb]at h
      obtain⟨r,hr,rfl⟩:=h
      simp only[de,aLr,hU]at hc
      obtain⟨h1,h2,h3⟩:=ih r hr hc.2
      refine⟨by rw[List.all_cons,h1,Bool.and_true];simp[D.cells,hc.1],by simp[cO,frz,h2],by rw[List.flatMap_cons,h3];simp[jT]⟩
    | _=>simp[ux]at h
 obtain⟨h1,h2,h3⟩:=key ds ts h hc
 simp[IC,h1,h2,h3,pins]
theorem wN(sz:Nat)(ts:List T):IC H sz (ts.map D.t)=if de sz ts=true then some (.t (.sl ts),H)else none:=by
 by_cases h:de sz ts=true
 · rw[if_pos h];exact ah1 H sz _ ts (WX ts) h
 · rw[if_neg h]
   have:(ts.map D.t).all (fun d=>d.cells.length==sz)=false:=by
    rw[← Bool.not_eq_true];intro ha;apply h
    clear h
    induction ts with
    | nil=>rfl
    | cons a r ih=>
      simp only[List.map_cons,List.all_cons,aLr,beq_iff_eq]at ha
      simp only[de,aLr,hU]
      exact⟨by simpa [D.cells]using ha.1,ih ha.2⟩
   simp only[IC,this];rfl
@[go_sem] theorem aoY (sz : Nat) : IC H sz [] = some (.t (.sl []), H) := (rfl)
@[go_sem] theorem aoZ (sz : Nat) (a : T) : IC H sz [.t a] = if de sz [a] = true then some (.t (.sl [a]), H) else none := wN H sz [a]
@[go_sem] theorem ao0 (sz : Nat) (a b : T) : IC H sz [.t a, .t b] = if de sz [a, b] = true then some (.t (.sl [a, b]), H) else none := wN H sz [a, b]
@[go_sem] theorem ao1 (sz : Nat) (a b c : T) : IC H sz [.t a, .t b, .t c] = if de sz [a, b, c] = true then some (.t (.sl [a, b, c]), H) else none := wN H sz [a, b, c]
@[go_sem] theorem ao2 (sz : Nat) (a b c d : T) : IC H sz [.t a, .t b, .t c, .t d] = if de sz [a, b, c, d] = true then some (.t (.sl [a, b, c, d]), H) else none := wN H sz [a, b, c, d]
@[go_sem] theorem ao3 (sz : Nat) (a b c d e : T) : IC H sz [.t a, .t b, .t c, .t d, .t e] = if de sz [a, b, c, d, e] = true then some (.t (.sl [a, b, c, d, e]), H) else none := wN H sz [a, b, c, d, e]
def ah2(a:D):Option (D×ao):=(ajK a).map fun(n:Nat)=>(D.t (.int .i64 (n:Int)),H)
@[go_sem] theorem aqh (x : X) : evO call get H (.ln x) = (get x).bind (ah2 H) := (rfl)
@[go_sem] theorem am3 (es : List T) : ah2 H (.t (.sl es)) = some (I es.length, H) := (rfl)
@[go_sem] theorem akM : ah2 H .nil = some (I 0, H) := (rfl)
@[go_sem] theorem akN (id ep n : Nat) : ah2 H (.ref id ep n) = some (I n, H) := (rfl)
@[go_sem] theorem akO (id ep n lo hi : Nat) : ah2 H (.sub id ep n lo hi) = some (I ((hi - lo : Nat) : Int), H) := (rfl)
def ah3(ds:List D):Option (D×ao):=(agC ds).map fun d=>(d,H)
def ah4(ds:List D):Option (D×ao):=(agD ds).map fun d=>(d,H)
@[go_sem] theorem aqi (xs : List X) : evO call get H (.mn xs) = (cO get xs).bind (ah3 H) := (rfl)
@[go_sem] theorem aqj (xs : List X) : evO call get H (.mx xs) = (cO get xs).bind (ah4 H) := (rfl)
@[go_sem] theorem ao4 (k : IntKind) (a b : Int) : ah3 H [.t (.int k a), .t (.int k b)] = some (.t (.int k (min a b)), H) := by
 simp only[ah3,agC,G6,if_true,aLw];congr 4;omega
@[go_sem] theorem ao5 (k : IntKind) (a b : Int) : ah4 H [.t (.int k a), .t (.int k b)] = some (.t (.int k (max a b)), H) := by
 simp only[ah4,agD,G6,if_true,aLw];congr 4;omega
@[go_sem] theorem ao6 (k : IntKind) (a b c : Int) : ah3 H [.t (.int k a), .t (.int k b), .t (.int k c)] = some (.t (.int k (min (min a b) c)), H) := by
 simp only[ah3,agC,G6,if_true,aLw];congr 4;omega
@[go_sem] theorem ao7 (k : IntKind) (a b c : Int) : ah4 H [.t (.int k a), .t (.int k b), .t (.int k c)] = some (.t (.int k (max (max a b) c)), H) := by
 simp only[ah4,agD,G6,if_true,aLw];congr 4;omega
def LJ(sz:Nat)(x:Option D)(lo hi:Option (Option Int)):Option (D×ao):=x.bind fun a=>lo.bind fun l=>hi.bind fun h=>(rS H a l h sz).map fun d=>(d,H)
@[go_sem] theorem aqk (x : X) (lo hi : Option X) (sz : Nat) : evO call get H (.sc x lo hi sz) = LJ H sz (get x) (QX get lo) (QX get hi) := (rfl)
def ah5:D→Option (Option Int)
 | .t (.int _ n)=>some (some n)
 | _=>none
@[go_sem] theorem akP (k : IntKind) (n : Int) : ah5 (.t (.int k n)) = some (some n) := (rfl)
@[go_sem] theorem ah6 : QX get none = some none := (rfl)
@[go_sem] theorem ah7 (x : X) : QX get (some x) = (get x).bind ah5 := by
 simp only[QX];cases get x with
 | none=>rfl
 | some d=>cases d with
   | t y=>cases y<;>rfl
   | _=>rfl
def am4(i:Nat)(a:D):Option (D×ao):=(agE i a).map fun d=>(d,H)
@[go_sem] theorem aql (x : X) (i : Nat) : evO call get H (.ex x i) = (get x).bind (am4 H i) := (rfl)
def exO:Option D→Option (D×ao)
 | some d=>some (d,H)
 | none=>none
@[go_sem] theorem akQ (d : D) : exO H (some d) = some (d, H) := (rfl)
@[go_sem] theorem akR (i : Nat) (ds : List D) : am4 H i (.tup ds) = exO H ds[i]? := by simp only [am4, agE, exO]; cases ds[i]? <;> rfl
def am5(f:Nat)(ds:List D):Option (D×ao):=some (.fn f ds,H)
@[go_sem] theorem am6 (f : Nat) (ds : List D) : am5 H f ds = some (.fn f ds, H) := (rfl)
@[go_sem] theorem aqm (f : Nat) (caps : List X) : evO call get H (.mf f caps) = (cO get caps).bind (am5 H f) := by simp only [evO, am5]; cases cO get caps <;> rfl
@[go_sem] theorem aqn (sz : Nat) : evO call get H (.nw sz) = some (.ref H.length 0 0, H ++ [.arr sz false 0 []]) := (rfl)
def alP(p:List D×ao):Option (D×ao):=some (.bp H.length 0,H++ .box p.1::p.2)
@[go_sem] theorem ao8 (cs : List D) (os : ao) : alP H (cs, os) = some (.bp H.length 0, H ++ .box cs :: os) := (rfl)
@[go_sem] theorem aqo (zero : List D) (live : List (Nat × Nat)) : evO call get H (.al zero live) = alP H (cF (H.length + 1) zero live) := (rfl)
@[go_sem] theorem abr (base : Nat) (cs : List D) : cF base cs [] = (cs, []) := (rfl)
def am7(n:Nat)(a:D):Option (D×ao):=if a.cells.length=n∧a.lD then some (.bp H.length 0,H++[.box a.cells])else none
@[go_sem] theorem aqp (x : X) (n : Nat) : evO call get H (.bx x n) = (get x).bind (am7 H n) := (rfl)
@[go_sem] theorem am8 (n : Nat) (a : D) : am7 H n a = if fits n a = true then some (.bp H.length 0, H ++ [.box a.cells]) else none := by
 simp[am7,fits]
def akS(sz:Nat)(zero:D)(n:Option Nat):Option (D×ao):=n.bind fun m=>if m≤lim then some (.ref H.length 0 m,H++[.arr sz false 0 (List.replicate m zero)])else none
def mkN(sz:Nat)(zero:D):D→Option (D×ao)
 | .t (.int _ n)=>akS H sz zero (idx n)
 | _=>none
@[go_sem] theorem am9 (sz : Nat) (zero : D) (k : IntKind) (n : Int) : mkN H sz zero (.t (.int k n)) = akS H sz zero (idx n) := (rfl)
@[go_sem] theorem aqq (len : X) (zero : D) (sz : Nat) : evO call get H (.mk len zero sz) = (get len).bind (mkN H sz zero) := by
 simp only[evO];cases get len with
 | none=>rfl
 | some d=>cases d with
   | t y=>cases y<;>rfl
   | _=>rfl
@[go_sem] theorem ana (sz : Nat) (zero : D) (m : Nat) (h : m ≤ 4294967296) : akS H sz zero (some m) = some (.ref H.length 0 m, H ++ [.arr sz false 0 (List.replicate m zero)]) := by
 simp[akS,lim,h]
def W5(zero:T)(n:Option Nat):Option (D×ao):=n.bind fun m=>if m≤lim then some (.t (.sl (List.replicate m zero)),H)else none
def ao9(zero:T):D→Option (D×ao)
 | .t (.int _ n)=>W5 H zero (idx n)
 | _=>none
@[go_sem] theorem akT (zero : T) (k : IntKind) (n : Int) : ao9 H zero (.t (.int k n)) = W5 H zero (idx n) := (rfl)
@[go_sem] theorem apa (len : X) (zero : T) (sz : Nat) : evO call get H (.mkt len zero sz) = (get len).bind (ao9 H zero) := by
 simp only[evO];cases get len with
 | none=>rfl
 | some d=>cases d with
   | t y=>cases y<;>rfl
   | _=>rfl
@[go_sem] theorem akU (zero : T) (m : Nat) (h : m ≤ 4294967296) : W5 H zero (some m) = some (.t (.sl (List.replicate m zero)), H) := by
 simp[W5,lim,h]
def W6(sz:Nat)(zero:T)(n:Option Nat):Option (D×ao):=n.bind fun m=>if m≤lim∧0<m then some (.ref H.length 0 m,H++[.arr sz false 0 (List.replicate m (.t zero))])else none
def apb(sz:Nat)(zero:T):D→Option (D×ao)
 | .t (.int _ n)=>W6 H sz zero (idx n)
 | _=>none
@[go_sem] theorem akV (sz : Nat) (zero : T) (k : IntKind) (n : Int) : apb H sz zero (.t (.int k n)) = W6 H sz zero (idx n) := (rfl)
@[go_sem] theorem apc (len : X) (zero : T) (sz : Nat) : evO call get H (.mkn len zero sz) = (get len).bind (apb H sz zero) := by
 simp only[evO];cases get len with
 | none=>rfl
 | some d=>cases d with
   | t y=>cases y<;>rfl
   | _=>rfl
@[go_sem] theorem akW (sz : Nat) (zero : T) (m : Nat) (h : m ≤ 4294967296) (h0 : 0 < m) : W6 H sz zero (some m) = some (.ref H.length 0 m, H ++ [.arr sz false 0 (List.replicate m (.t zero))]) := by
 simp[W6,lim,h,h0]
def uJ(sz:Nat)(fz:Bool)(x y:Option D):Option (D×ao):=x.bind fun a=>y.bind fun b=>qO H a b fz sz
@[go_sem] theorem apd (x y : X) (fz : Bool) (sz : Nat) : evO call get H (.app x y fz sz) = uJ H sz fz (get x) (get y) := (rfl)
def Df(sz id ep n:Nat)(ys:List D):Option Obj→Option (D×ao)
 | some (.arr sz' pin ep' es)=>if ep=ep'∧n=es.length∧sz'=sz∧n+ys.length≤lim then some (.ref id ep (n+ys.length),H.set id (.arr sz pin ep (es++ys)))else none
 | _=>none
@[go_sem] theorem ah8 (sz id ep n : Nat) (ys : List D) (pin : Bool) (es : List D) :
 Df H sz id ep n ys (some (.arr sz pin ep es))=if n=es.length then(if n+ys.length≤4294967296 then some (.ref id ep (n+ys.length),H.set id (.arr sz pin ep (es++ys)))else none)else none:=by
 simp only[Df,lim]
 by_cases h1:n=es.length
 · rw[if_pos h1]
   by_cases h2:n+ys.length≤4294967296
   · rw[if_pos h2,if_pos ⟨trivial,h1,trivial,h2⟩]
   · rw[if_neg h2,if_neg fun h=>h2 h.2.2.2]
 · rw[if_neg h1,if_neg fun h=>h1 h.2.1]
theorem AN(ts:List T):cO (fun d=>(frz H depth d).map D.t) (ts.map D.t)=some (ts.map D.t):=by
 induction ts with
 | nil=>rfl
 | cons t ts ih=>simp[cO,frz,ih]
theorem TK(ts:List T):(ts.map D.t).flatMap (jT H depth)=[]:=by
 induction ts with
 | nil=>rfl
 | cons t ts ih=>rw[List.map_cons,List.flatMap_cons,ih];simp[jT,depth]
theorem LK(sz:Nat)(fz:Bool)(x:D)(ts:List T)(h:cB sz (ts.map D.t)=false):uJ H sz fz (some x) (some (.t (.sl ts)))=none:=by
 have e1:(if fz then cO (fun d=>(frz H depth d).map D.t) (ts.map D.t)else some (ts.map D.t))=some (ts.map D.t):=by
  cases fz<;>simp[AN]
 simp only[uJ,aLq,qO,elems,e1,h,aLt,if_false]
def rM(sz:Nat)(ts:List T):Bool:=cB sz (ts.map D.t)
theorem TL(sz id ep n:Nat)(fz:Bool)(ts:List T)(h:rM sz ts=true):uJ H sz fz (some (.ref id ep n)) (some (.t (.sl ts)))=Df H sz id ep n (ts.map .t) H[id]?:=by
 have e1:(if fz then cO (fun d=>(frz H depth d).map D.t) (ts.map D.t)else some (ts.map D.t))=some (ts.map D.t):=by
  cases fz<;>simp[AN]
 have e2:(if fz then pins H ((ts.map D.t).flatMap (jT H depth))else H)=H:=by
  cases fz
  · rfl
  · simp only[if_true];rw[TK];rfl
 unfold rM at h
 simp only[uJ,aLq,qO,elems,e1,h,if_true,e2,jU]
 generalize H[id]?=o
 rcases o with _ | (_ | ⟨sz',pin,ep',es⟩)
 · rfl
 · rfl
 · simp only[Df]
   by_cases h1:ep=ep'∧n=es.length
   · rw[if_pos h1,aLq]
     by_cases h2:sz'=sz∧n+(ts.map D.t).length≤lim
     · rw[if_pos h2,if_pos ⟨h1.1,h1.2,h2⟩]
     · rw[if_neg h2,if_neg fun h=>h2 h.2.2]
   · rw[if_neg h1,if_neg fun h=>h1 ⟨h.1,h.2.1⟩];rfl
@[go_sem] theorem ah9 (sz id ep n : Nat) (fz : Bool) (ts : List T) : uJ H sz fz (some (.ref id ep n)) (some (.t (.sl ts))) = if rM sz ts = true then Df H sz id ep n (ts.map .t) H[id]? else none := by
 by_cases h:rM sz ts=true
 · rw[if_pos h,TL H sz id ep n fz ts h]
 · rw[if_neg h];exact LK H sz fz _ ts (by simpa [rM]using h)
@[go_sem] theorem aia (sz : Nat) (fz : Bool) (ts : List T) : uJ H sz fz (some .nil) (some (.t (.sl ts))) =
 if rM sz ts=true then(if ts.length≤4294967296 then some (.ref H.length 0 ts.length,H++[.arr sz false 0 (ts.map .t)])else none)else none:=by
 by_cases h:rM sz ts=true
 · rw[if_pos h]
   have e1:(if fz then cO (fun d=>(frz H depth d).map D.t) (ts.map D.t)else some (ts.map D.t))=some (ts.map D.t):=by
    cases fz<;>simp[AN]
   have e2:(if fz then pins H ((ts.map D.t).flatMap (jT H depth))else H)=H:=by
    cases fz
    · rfl
    · simp only[if_true];rw[TK];rfl
   unfold rM at h
   simp only[uJ,aLq,qO,elems,e1,h,if_true,e2,lim,List.length_map]
 · rw[if_neg h];exact LK H sz fz _ ts (by simpa [rM]using h)
@[go_sem] theorem aib (sz : Nat) : rM sz [] = true := (rfl)
@[go_sem] theorem aeS (sz : Nat) (x : T) (r : List T) : rM sz (x :: r) = sC sz x.cells := by
 rw[Bool.eq_iff_iff,hU];simp[rM,cB,D.cells]
@[go_sem] theorem aic (l : List Int) (k : IntKind) : rM 1 (l.map (.int k)) = true := by cases l <;> rfl
@[go_sem] theorem aeT (l : List Bool) : rM 1 (l.map .bool) = true := by cases l <;> rfl
@[go_sem] theorem akX (l : List (List T)) : rM 1 (l.map .sl) = true := by cases l <;> rfl
def Rf(call:bf)(f raw:Nat)(keep:List Nat)(ds:List D):Option (D×ao):=An call H f raw keep ds
@[go_sem] theorem aqr (f raw : Nat) (keep : List Nat) (xs : List X) : evO call get H (.ca f raw keep xs) = (cO get xs).bind (Rf H call f raw keep) := (rfl)
def ape(call:bf)(raw:Nat)(keep:List Nat)(x:Option D)(xs:Option (List D)):Option (D×ao):=x.bind fun
 | .fn f caps=>xs.bind fun ds=>An call H f raw keep (ds++caps)
 | _=>none
@[go_sem] theorem aqs (x : X) (raw : Nat) (keep : List Nat) (xs : List X) : evO call get H (.cw x raw keep xs) = ape H call raw keep (get x) (cO get xs) := (rfl)
@[go_sem] theorem anb (raw : Nat) (keep : List Nat) (f : Nat) (caps ds : List D) : ape H call raw keep (some (.fn f caps)) (some ds) = Rf H call f raw keep (ds ++ caps) := (rfl)
def qB(H:ao):List D→Option (List T)
 | []=>some []
 | .t x::r=>pt x (qB H r)
 | .nil::r=>pt (.sl []) (qB H r)
 | _::_=>none
@[go_sem] theorem anc : qB H [] = some [] := (rfl)
@[go_sem] theorem ane (x : T) (r : List D) : qB H (.t x :: r) = pt x (qB H r) := (rfl)
@[go_sem] theorem aid (r : List D) : qB H (.nil :: r) = pt (.sl []) (qB H r) := (rfl)
@[go_sem] theorem aie (cs : List D) (r : List D) : qB H (.agg cs :: r) = none := (rfl)
@[go_sem] theorem akY (a b : Nat) (r : List D) : qB H (.bp a b :: r) = none := (rfl)
@[go_sem] theorem aif (a b c : Nat) (r : List D) : qB H (.ref a b c :: r) = none := (rfl)
@[go_sem] theorem aih (a b c d e : Nat) (r : List D) : qB H (.sub a b c d e :: r) = none := (rfl)
@[go_sem] theorem akZ (f : Nat) (cs : List D) (r : List D) : qB H (.fn f cs :: r) = none := (rfl)
@[go_sem] theorem ak0 (a b c d e : Nat) (r : List D) : qB H (.ap a b c d e :: r) = none := (rfl)
@[go_sem] theorem ak1 (cs : List T) (r : List D) : qB H (.ep cs :: r) = none := (rfl)
@[go_sem] theorem aeU (r : List D) : qB H (.nilp :: r) = none := (rfl)
@[go_sem] theorem aii (r : List D) : qB H (.und :: r) = none := (rfl)
end
theorem zF(H:ao):∀ {ds:List D} {ts:List T},qB H ds=some ts→∀i,uA H [] i ds=some (ts.map .t)∧dD H [] i ds=[]
 | [],ts,h,i=>by simp[qB]at h;subst h;exact⟨rfl,rfl⟩
 | d::r,ts,h,i=>by
   cases d with
   | t x=>
     simp only[qB,pt,aLb]at h
     obtain⟨l,hl,rfl⟩:=h
     obtain⟨h1,h2⟩:=zF H hl (i+1)
     exact⟨by simp[uA,yC,h1],by simp[dD,jT,depth,h2]⟩
   | nil=>
     simp only[qB,pt,aLb]at h
     obtain⟨l,hl,rfl⟩:=h
     obtain⟨h1,h2⟩:=zF H hl (i+1)
     exact⟨by simp[uA,yC,h1],by simp[dD,jT,depth,h2]⟩
   | _=>simp[qB]at h
theorem TM(ts:List T)(n:Nat):(ts.map D.t).flatMap (ids n)=[]:=by
 induction ts with
 | nil=>rfl
 | cons t ts ih=>rw[List.map_cons,List.flatMap_cons,ih];simp[ids]
theorem TN(f:Nat→Option Nat)(ts:List T):cO (ren f depth) (ts.map .t)=some (ts.map .t):=by
 induction ts with
 | nil=>rfl
 | cons t ts ih=>simp[cO,ren,depth]at ih ⊢;exact ih
def DP:D→Bool
 | .t _=>true
 | .tup ds=>ds.all fun | .t _=>true | _=>false
 | _=>false
theorem JC{f:Nat→Option Nat}{d:D}(h:DP d=true):ren f depth d=some d:=by
 cases d with
 | t x=>rfl
 | tup ds=>
   simp only[DP]at h
   have:cO (ren f 7) ds=some ds:=by
    induction ds with
    | nil=>rfl
    | cons d ds ih=>
      simp only[List.all_cons,aLr]at h
      cases d with
      | t x=>simp[cO,ren,ih h.2]
      | _=>simp at h
   simp[ren,depth,this]
 | _=>simp[DP]at h
def Fm(H:ao)(p:D×ao):Option (D×ao):=if DP p.1&&p.2.isEmpty then some (p.1,H)else
 (ren (gu [] H.length) depth p.1).bind fun r'=>(cO (jW (gu [] H.length)) p.2).map fun os=>(r',H++os)
@[go_sem] theorem anf (H : ao) (x : T) : Fm H (.t x, []) = some (.t x, H) := (rfl)
@[go_sem] theorem ang (H : ao) : Fm H (.tup [], []) = some (.tup [], H) := (rfl)
@[go_sem] theorem anh (H : ao) (x y : T) : Fm H (.tup [.t x, .t y], []) = some (.tup [.t x, .t y], H) := (rfl)
@[go_sem] theorem ani (H : ao) (x y z : T) : Fm H (.tup [.t x, .t y, .t z], []) = some (.tup [.t x, .t y, .t z], H) := (rfl)
@[go_sem] theorem anj (H : ao) (x y z u : T) : Fm H (.tup [.t x, .t y, .t z, .t u], []) = some (.tup [.t x, .t y, .t z, .t u], H) := (rfl)
theorem TO(H:ao)(call:bf)(f raw:Nat)(ds:List D)(ts:List T)(h:qB H ds=some ts):
 Rf H call f raw [] ds=(call raw f (ts.map .t) []).bind (Fm H):=by
 obtain⟨h1,h2⟩:=zF H h 0
 simp only[Rf,An,h1,aLq,TM,gM,reach,tx,List.flatMap_nil,h2,pins,TN,pick,cO]
 cases hc:call raw f (ts.map .t) []with
 | none=>rfl
 | some p=>
   obtain⟨d,os⟩:=p
   simp only[aLq,List.isEmpty_nil,Bool.true_and,Fm]
   by_cases h3:os=[]
   · subst h3
     simp only[List.isEmpty_nil,Bool.true_and,Bool.and_true,cO,aLw,List.length_nil,List.take_nil,et,List.drop_nil,List.append_nil]
     by_cases h4:DP d=true
     · rw[if_pos h4]
       split
       · rfl
       · rw[JC h4];rfl
     · rw[if_neg h4]
       split
       · rename_i h5
         exfalso
         apply h4
         cases d with
         | t x=>rfl
         | tup ds=>
           simp only[uy,aLx]at h5
           simp only[DP,aLx]
           intro y hy
           have:=h5 y hy
           cases y<;>simp_all [pe]
         | _=>simp[uy]at h5
       · rfl
   · have:os.isEmpty=false:=by cases os<;>simp_all
     simp only[this,Bool.false_and,Bool.and_false,if_false,aLt,List.length_nil,List.take_zero,et,List.drop_zero]
@[go_sem] theorem aeV (st : St) : lE st [] = some [] := (rfl)
def apf(st:St)(r:List (Nat×Option (Nat×Bool)))(d:D):Option (List D):=pt d (lE st r)
@[go_sem] theorem ank (vs : List D) (H : ao) (r : List (Nat × Option (Nat × Bool))) (d : D) : apf ⟨vs, H⟩ r d = pt d (lE ⟨vs, H⟩ r) := (rfl)
@[go_sem] theorem aeW (vs : List D) (H : ao) (j : Nat) (r : List (Nat × Option (Nat × Bool))) : lE ⟨vs, H⟩ ((j, none) :: r) = vs[j]?.bind (apf ⟨vs, H⟩ r) := (rfl)
def anl(st:St)(r:List (Nat×Option (Nat×Bool)))(p:D×ao):Option (List D):=pt p.1 (lE st r)
@[go_sem] theorem anm (vs : List D) (H : ao) (r : List (Nat × Option (Nat × Bool))) (d : D) (H' : ao) : anl ⟨vs, H⟩ r (d, H') = pt d (lE ⟨vs, H⟩ r) := (rfl)
def ann(st:St)(n:Nat)(agg:Bool)(r:List (Nat×Option (Nat×Bool)))(p:D):Option (List D):=(VV st.H n agg p).bind (anl st r)
@[go_sem] theorem ano (vs : List D) (H : ao) (n : Nat) (agg : Bool) (r : List (Nat × Option (Nat × Bool))) (p : D) : ann ⟨vs, H⟩ n agg r p = (VV H n agg p).bind (anl ⟨vs, H⟩ r) := (rfl)
@[go_sem] theorem abt (vs : List D) (H : ao) (j n : Nat) (agg : Bool) (r : List (Nat × Option (Nat × Bool))) : lE ⟨vs, H⟩ ((j, some (n, agg)) :: r) = vs[j]?.bind (ann ⟨vs, H⟩ n agg r) := by
 simp only[lE]
 cases vs[j]? with
 | none=>rfl
 | some p=>
   simp only[aLq,ann,VV]
   cases BZ H p n agg<;>rfl
@[go_sem] theorem anp (H : ao) (n : Nat) (x : T) : frz H n (.t x) = some x := by cases n <;> rfl
@[go_sem] theorem anq (H : ao) (n : Nat) : frz H n .nil = some (.sl []) := by cases n <;> rfl
@[go_sem] theorem anr (H : ao) (n : Nat) (cs : List D) : frz H (n + 1) (.agg cs) = (cO (frz H n) cs).map .agg := (rfl)
@[go_sem] theorem Rg (H : ao) (n : Nat) (ts : List T) : cO (frz H n) (ts.map .t) = some ts := by
 induction ts with
 | nil=>rfl
 | cons t ts ih=>simp[cO,anp,ih]
def frA(H:ao)(n ep m lo hi:Nat):Option Obj→Option T
 | some (.arr _ _ ep' es)=>if ep=ep'∧m=es.length then(cO (frz H n) ((es.drop lo).take (hi-lo))).map .sl else none
 | _=>none
def frR(H:ao)(n ep m:Nat):Option Obj→Option T
 | some (.arr _ _ ep' es)=>if ep=ep'∧m=es.length then(cO (frz H n) es).map .sl else none
 | _=>none
@[go_sem] theorem ans (H : ao) (n id ep m : Nat) : frz H (n + 1) (.ref id ep m) = frR H n ep m H[id]? := by
 simp only[frz,jU]
 generalize H[id]?=o
 rcases o with _ | (_ | ⟨sz',pin,ep',es⟩)
 · rfl
 · rfl
 · simp only[frR]
   by_cases h:ep=ep'∧m=es.length
   · rw[if_pos h,if_pos h];rfl
   · rw[if_neg h,if_neg h];rfl
@[go_sem] theorem ant (H : ao) (n id ep m lo hi : Nat) : frz H (n + 1) (.sub id ep m lo hi) = frA H n ep m lo hi H[id]? := by
 simp only[frz,jU]
 generalize H[id]?=o
 rcases o with _ | (_ | ⟨sz',pin,ep',es⟩)
 · rfl
 · rfl
 · simp only[frA]
   by_cases h:ep=ep'∧m=es.length
   · rw[if_pos h,if_pos h];rfl
   · rw[if_neg h,if_neg h];rfl
@[go_sem] theorem anu (H : ao) (n ep m sz : Nat) (pin : Bool) (es : List D) : frR H n ep m (some (.arr sz pin ep es)) = if m = es.length then (cO (frz H n) es).map .sl else none := by simp [frR]
@[go_sem] theorem anv (H : ao) (n ep m lo hi sz : Nat) (pin : Bool) (es : List D) : frA H n ep m lo hi (some (.arr sz pin ep es)) = if m = es.length then (cO (frz H n) ((es.drop lo).take (hi - lo))).map .sl else none := by simp [frA]
@[go_sem] theorem aij (H : ao) (x : T) : yC H (.t x) = some (.t x) := (rfl)
@[go_sem] theorem ak2 (H : ao) : yC H .nil = some (.t (.sl [])) := (rfl)
@[go_sem] theorem ak3 (H : ao) (cs : List D) : yC H (.agg cs) = (frz H 8 (.agg cs)).map .t := (rfl)
@[go_sem] theorem ak4 (H : ao) (id ep n : Nat) : yC H (.ref id ep n) = (frz H 8 (.ref id ep n)).map .t := (rfl)
@[go_sem] theorem ak5 (H : ao) (id ep n lo hi : Nat) : yC H (.sub id ep n lo hi) = (frz H 8 (.sub id ep n lo hi)).map .t := (rfl)
@[go_sem] theorem abu (H : ao) (id off : Nat) : yC H (.bp id off) = some (.bp id off) := (rfl)
@[go_sem] theorem anw (H : ao) (id ep n i off : Nat) : yC H (.ap id ep n i off) = some (.ap id ep n i off) := (rfl)
@[go_sem] theorem anx (H : ao) (cs : List T) : yC H (.ep cs) = some (.ep cs) := (rfl)
@[go_sem] theorem anz (H : ao) (f : Nat) (cs : List D) : yC H (.fn f cs) = some (.fn f cs) := (rfl)
def ltB:Nat→Nat→Bool
 | _,0=>false
 | 0,_+1=>true
 | m+1,n+1=>ltB m n
@[go_sem] theorem aqt (m : Nat) : ltB m 0 = false := by cases m <;> rfl
@[go_sem] theorem apg (n : Nat) : ltB 0 (n + 1) = true := (rfl)
@[go_sem] theorem aph (m n : Nat) : ltB (m + 1) (n + 1) = ltB m n := (rfl)
theorem uK:∀ {m n:Nat},ltB m n=decide (m<n)
 | m,0=>by cases m<;>simp[ltB]
 | 0,n+1=>by simp[ltB]
 | m+1,n+1=>by simp[ltB,uK (m:=m) (n:=n)]
def eqB:Nat→Nat→Bool
 | 0,0=>true
 | m+1,n+1=>eqB m n
 | _,_=>false
@[go_sem] theorem apj : eqB 0 0 = true := (rfl)
@[go_sem] theorem apk (n : Nat) : eqB 0 (n + 1) = false := (rfl)
@[go_sem] theorem apl (n : Nat) : eqB (n + 1) 0 = false := (rfl)
@[go_sem] theorem apm (m n : Nat) : eqB (m + 1) (n + 1) = eqB m n := (rfl)
theorem Ob:∀ {m n:Nat},eqB m n=decide (m=n)
 | 0,0=>rfl
 | 0,n+1=>rfl
 | m+1,0=>rfl
 | m+1,n+1=>by simp[eqB,Ob (m:=m) (n:=n)]
section
variable (k n : Nat)
@[go_sem] theorem anA (x : T) : old k n (.t x) = true := by cases n <;> rfl
@[go_sem] theorem anB : old k n .nil = true := by cases n <;> rfl
@[go_sem] theorem apn (cs : List T) : old k n (.ep cs) = true := by cases n <;> rfl
@[go_sem] theorem ak6 : old k n .nilp = true := by cases n <;> rfl
@[go_sem] theorem anC : old k n .und = true := by cases n <;> rfl
@[go_sem] theorem aik (id off : Nat) : old k n (.bp id off) = ltB id k := by cases n <;> simp [old, uK]
@[go_sem] theorem apo (id ep m i off : Nat) : old k n (.ap id ep m i off) = ltB id k := by cases n <;> simp [old, uK]
@[go_sem] theorem anD (id ep m : Nat) : old k n (.ref id ep m) = ltB id k := by cases n <;> simp [old, uK]
@[go_sem] theorem anE (id ep m lo hi : Nat) : old k n (.sub id ep m lo hi) = ltB id k := by cases n <;> simp [old, uK]
def jq(n:Nat)(cs:List D):Bool:=cs.all (old k n)
@[go_sem] theorem aeX : jq k n [] = true := (rfl)
@[go_sem] theorem Oc (d : D) (r : List D) : jq k n (d :: r) = (old k n d && jq k n r) := (rfl)
@[go_sem] theorem PZ (ts : List T) : jq k n (ts.map .t) = true := by
 induction ts with
 | nil=>rfl
 | cons t ts ih=>rw[List.map_cons,Oc,anA,ih];rfl
@[go_sem] theorem aeY (m : Nat) (x : T) : jq k n (List.replicate m (.t x)) = true := by
 have:List.replicate m (D.t x)=(List.replicate m x).map .t:=by simp
 rw[this,PZ]
@[go_sem] theorem aeZ (a b : List D) : jq k n (a ++ b) = (jq k n a && jq k n b) := by simp [jq]
@[go_sem] theorem anF (cs : List D) : old k (n + 1) (.agg cs) = jq k n cs := (rfl)
@[go_sem] theorem anG (cs : List D) : old k (n + 1) (.tup cs) = jq k n cs := (rfl)
@[go_sem] theorem apq (f : Nat) (cs : List D) : old k (n + 1) (.fn f cs) = jq k n cs := (rfl)
end
def iC(k:Nat):ao→Bool
 | []=>true
 | .box cs::r=>jq k 8 cs&&iC k r
 | .arr _ _ _ es::r=>jq k 8 es&&iC k r
@[go_sem] theorem abv (k : Nat) : iC k [] = true := (rfl)
@[go_sem] theorem abw (k : Nat) (cs : List D) (r : ao) : iC k (.box cs :: r) = (jq k 8 cs && iC k r) := (rfl)
@[go_sem] theorem abx (k sz ep : Nat) (pin : Bool) (es : List D) (r : ao) : iC k (.arr sz pin ep es :: r) = (jq k 8 es && iC k r) := (rfl)
theorem qK(k:Nat)(H:ao):H.all (fun o=>o.ds.all (old k depth))=iC k H:=by
 induction H with
 | nil=>rfl
 | cons o r ih=>rw[List.all_cons,ih];cases o<;>rfl
def aby(d:D)(b:Bool):D:=if b then d else .und
@[go_sem] theorem ae0 (d : D) : aby d true = d := (rfl)
@[go_sem] theorem abz (d : D) : aby d false = .und := (rfl)
@[go_sem] theorem anH (k : Nat) (d : D) : kill k d = aby d (old k 8 d) := (rfl)
def Rh(k:Nat):List D→List D
 | []=>[]
 | d::r=>kill k d::Rh k r
@[go_sem] theorem ail (k : Nat) : Rh k [] = [] := (rfl)
@[go_sem] theorem ae1 (k : Nat) (d : D) (r : List D) : Rh k (d :: r) = kill k d :: Rh k r := (rfl)
theorem W7(k:Nat)(vs:List D):vs.map (kill k)=Rh k vs:=by
 induction vs with
 | nil=>rfl
 | cons d r ih=>rw[List.map_cons,ih];rfl
@[go_sem] theorem ak7 (k : Nat) (vs : List D) (H : ao) : QY k ⟨vs, H⟩ = if iC k (H.take k) = true then some ⟨Rh k vs, H.take k⟩ else none := by
 simp only[QY,qK,W7]
@[go_sem] theorem TP (H : ao) (n : Nat) (x : T) : jT H n (.t x) = [] := by cases n <;> rfl
@[go_sem] theorem ak8 (H : ao) (n : Nat) : jT H n .nil = [] := by cases n <;> rfl
@[go_sem] theorem abA (H : ao) (n id off : Nat) : jT H n (.bp id off) = [] := by cases n <;> rfl
@[go_sem] theorem anI (H : ao) (n f : Nat) (cs : List D) : jT H n (.fn f cs) = [] := by cases n <;> rfl
@[go_sem] theorem anJ (H : ao) (n : Nat) (cs : List T) : jT H n (.ep cs) = [] := by cases n <;> rfl
@[go_sem] theorem anK (H : ao) (n a b c d e : Nat) : jT H n (.ap a b c d e) = [] := by cases n <;> rfl
def yw(H:ao)(n:Nat)(cs:List D):List Nat:=cs.flatMap (jT H n)
@[go_sem] theorem aim (H : ao) (n : Nat) : yw H n [] = [] := (rfl)
@[go_sem] theorem Ri (H : ao) (n : Nat) (d : D) (r : List D) : yw H n (d :: r) = jT H n d ++ yw H n r := (rfl)
@[go_sem] theorem anL (H : ao) (n : Nat) (ts : List T) : yw H n (ts.map .t) = [] := by
 induction ts with
 | nil=>rfl
 | cons t ts ih=>rw[List.map_cons,Ri,ih,TP];rfl
@[go_sem] theorem ain (H : ao) (n : Nat) (a b : List D) : yw H n (a ++ b) = yw H n a ++ yw H n b := by simp [yw]
@[go_sem] theorem ak9 (H : ao) (n : Nat) (cs : List D) : jT H (n + 1) (.agg cs) = yw H n cs := (rfl)
def abB(H:ao)(n:Nat):Option Obj→List Nat
 | some (.arr _ _ _ es)=>yw H n es
 | _=>[]
@[go_sem] theorem aio (H : ao) (n sz ep : Nat) (pin : Bool) (es : List D) : abB H n (some (.arr sz pin ep es)) = yw H n es := (rfl)
@[go_sem] theorem ala (H : ao) (n id ep m : Nat) : jT H (n + 1) (.ref id ep m) = id :: abB H n H[id]? := (rfl)
@[go_sem] theorem alb (H : ao) (n id ep m lo hi : Nat) : jT H (n + 1) (.sub id ep m lo hi) = id :: abB H n H[id]? := (rfl)
@[go_sem] theorem anM : B1 [] = .tup [] := (rfl)
@[go_sem] theorem anN (d : D) : B1 [d] = d := (rfl)
@[go_sem] theorem anO (a b : D) (r : List D) : B1 (a :: b :: r) = .tup (a :: b :: r) := (rfl)
def LL(k:Nat):List Nat→Bool
 | []=>true
 | i::r=> !ltB i k&&LL k r
@[go_sem] theorem aip (k : Nat) : LL k [] = true := (rfl)
@[go_sem] theorem ae2 (k i : Nat) (r : List Nat) : LL k (i :: r) = (!ltB i k && LL k r) := (rfl)
theorem P0(k:Nat)(l:List Nat):l.all (fun i=>decide (k≤i))=LL k l:=by
 induction l with
 | nil=>rfl
 | cons i r ih=>
   rw[List.all_cons,ih]
   simp only[LL,uK]
   congr 1
   rw[Bool.eq_iff_iff];simp
def alc(k raw:Nat)(H:ao)(ds rs:List D):Option (D×ao):=
 (pN H (max raw 1) (List.range k) (rs.flatMap (ids depth)++tx H (List.range k))).bind fun q=>
  if(mO H raw ds).all (fun i=> !(List.range k++q.1).contains i)then
   (cO (ren (idxOf (List.range k++q.1)) depth) rs).bind fun rs'=>
    (cO (jW (idxOf (List.range k++q.1))) (H.take k++q.2)).map fun hs'=>(B1 rs',hs')
  else none
def ae3(k raw:Nat)(H:ao)(ds rs:List D)(b:Bool):Option (D×ao):=
 if b then(if LL k (mO H raw ds)=true then some (B1 rs,H.take k)else none)else alc k raw H ds rs
@[go_sem] theorem aiq (k raw : Nat) (H : ao) (ds rs : List D) : ae3 k raw H ds rs true = if LL k (mO H raw ds) = true then some (B1 rs, H.take k) else none := (rfl)
def air(k raw:Nat)(H:ao)(ds rs:List D):Option (D×ao):=ae3 k raw H ds rs (jq k 8 rs&&iC k (H.take k))
@[go_sem] theorem anP (k raw : Nat) (H : ao) (ds rs : List D) : air k raw H ds rs = ae3 k raw H ds rs (jq k 8 rs && iC k (H.take k)) := (rfl)
@[go_sem] theorem ais (k : Nat) (H : ao) (ds : List D) : finish k 0 H ds = (cO (yC H) ds).bind (air k 0 H ds) := by
 simp only[finish,if_true,qK,P0]
 cases cO (yC H) ds with
 | none=>rfl
 | some rs=>
   simp only[aLq,air,ae3]
   show(if(jq k 8 rs&&iC k (H.take k))=true then _ else _)=_
   cases (jq k 8 rs&&iC k (H.take k))<;>rfl
@[go_sem] theorem ait (H : ao) (ds : List D) : mO H 0 ds = yw H 8 ds := (rfl)
@[go_sem] theorem aiu (vs : List D) : ov [] vs = vs := (rfl)
@[go_sem] theorem ae4 (i : Nat) (r : List Nat) (vs : List D) : ov (i :: r) vs = ov r (vs.set i .und) := (rfl)
@[go_sem] theorem anQ (dead : List Nat) (k : Nat) (vs : List D) (H : ao) : tidy false dead k ⟨vs, H⟩ = some ⟨ov dead vs, H⟩ := (rfl)
@[go_sem] theorem anR (dead : List Nat) (k : Nat) (vs : List D) (H : ao) : tidy true dead k ⟨vs, H⟩ = QY k ⟨ov dead vs, H⟩ := (rfl)
section
variable (H : ao) (call : bf) (f raw : Nat) (keep : List Nat) (ds : List D)
def JD(H1:ao)(n:Nat)(sel:List Nat)(p:D×ao):Option (D×ao):=
 (ren (gu sel n) depth p.1).bind fun r'=>(cO (jW (gu sel n)) p.2).map fun os=>(r',et H1 sel (os.take sel.length)++os.drop sel.length)
def zG(H1:ao)(sel:List Nat)(p:D×ao):Option (D×ao):=
 if sel.isEmpty&&p.2.isEmpty&&uy p.1 then some (p.1,H)else JD H1 H.length sel p
def abC(args:List D)(H1:ao)(sel:List Nat)(hs:ao):Option (D×ao):=(call raw f args hs).bind (zG H H1 sel)
def abD(args:List D)(H1:ao)(sel:List Nat)(hs:ao):Option (D×ao):=(cO (jW (idxOf sel)) hs).bind (abC H call f raw args H1 sel)
def abE(H1:ao)(sel:List Nat)(args:List D):Option (D×ao):=(pick H1 sel).bind (abD H call f raw args H1 sel)
def abF(args:List D)(sel:List Nat):Option (D×ao):=(cO (ren (idxOf sel) depth) args).bind (abE H call f raw (pins H (dD H keep 0 ds)) sel)
def Fo(n:Nat)(cs:List D):List Nat:=cs.flatMap (ids n)
def abG(args:List D):Option (D×ao):=abF H call f raw keep ds args (reach H 3 (gM [] (Fo 8 args)))
def TQ:Option (D×ao):=(uA H keep 0 ds).bind (abG H call f raw keep ds)
theorem W8:Rf H call f raw keep ds=TQ H call f raw keep ds:=(rfl)
@[go_sem] theorem W9 : TQ H call f raw keep ds = (uA H keep 0 ds).bind (abG H call f raw keep ds) := (rfl)
@[go_sem] theorem Xa (args : List D) : abG H call f raw keep ds args = abF H call f raw keep ds args (reach H 3 (gM [] (Fo 8 args))) := (rfl)
@[go_sem] theorem Xb (args : List D) (sel : List Nat) : abF H call f raw keep ds args sel = (cO (ren (idxOf sel) 8) args).bind (abE H call f raw (pins H (dD H keep 0 ds)) sel) := (rfl)
@[go_sem] theorem Xc (H1 : ao) (sel : List Nat) (args : List D) : abE H call f raw H1 sel args = (pick H1 sel).bind (abD H call f raw args H1 sel) := (rfl)
@[go_sem] theorem Xd (args : List D) (H1 : ao) (sel : List Nat) (hs : ao) : abD H call f raw args H1 sel hs = (cO (jW (idxOf sel)) hs).bind (abC H call f raw args H1 sel) := (rfl)
@[go_sem] theorem Xe (args : List D) (H1 : ao) (sel : List Nat) (hs : ao) : abC H call f raw args H1 sel hs = (call raw f args hs).bind (zG H H1 sel) := (rfl)
def Xf(H1:ao)(sel:List Nat)(r:D)(os:ao):Option (D×ao):=some (r,et H1 sel (os.take sel.length)++os.drop sel.length)
@[go_sem] theorem Xg (H1 : ao) (sel : List Nat) (r : D) (os : ao) : Xf H1 sel r os = some (r, et H1 sel (os.take sel.length) ++ os.drop sel.length) := (rfl)
def abH(H1:ao)(n:Nat)(sel:List Nat)(os:ao)(r:D):Option (D×ao):=(cO (jW (gu sel n)) os).bind (Xf H1 sel r)
@[go_sem] theorem P1 (H1 : ao) (n : Nat) (sel : List Nat) (os : ao) (r : D) : abH H1 n sel os r = (cO (jW (gu sel n)) os).bind (Xf H1 sel r) := (rfl)
@[go_sem] theorem P2 (H1 : ao) (n : Nat) (sel : List Nat) (r : D) (os : ao) : JD H1 n sel (r, os) = (ren (gu sel n) 8 r).bind (abH H1 n sel os) := by
 simp only[JD,depth]
 cases ren (gu sel n) 8 r with
 | none=>rfl
 | some r'=>simp only[aLq,abH];cases cO (jW (gu sel n)) os<;>rfl
@[go_sem] theorem aiv (H1 : ao) (i : Nat) (sel : List Nat) (p : D × ao) : zG H H1 (i :: sel) p = JD H1 H.length (i :: sel) p := (rfl)
@[go_sem] theorem ald (H1 : ao) (sel : List Nat) (r : D) (o : Obj) (os : ao) : zG H H1 sel (r, o :: os) = JD H1 H.length sel (r, o :: os) := by
 simp[zG]
@[go_sem] theorem anS (H1 : ao) (k : IntKind) (n : Int) : zG H H1 [] (.t (.int k n), []) = some (.t (.int k n), H) := (rfl)
@[go_sem] theorem anT (H1 : ao) (b : Bool) : zG H H1 [] (.t (.bool b), []) = some (.t (.bool b), H) := (rfl)
@[go_sem] theorem ale (H1 : ao) (es : List T) : zG H H1 [] (.t (.sl es), []) = some (.t (.sl es), H1) := by simp [zG, JD, uy, T.scalar, ren, depth, cO, et]
@[go_sem] theorem aiw (H1 : ao) (es : List T) : zG H H1 [] (.t (.agg es), []) = some (.t (.agg es), H1) := by simp [zG, JD, uy, T.scalar, ren, depth, cO, et]
@[go_sem] theorem aix (H1 : ao) (ds : List D) : zG H H1 [] (.tup ds, []) = if ds.all pe then some (.tup ds, H) else JD H1 H.length [] (.tup ds, []) := by
 simp[zG,uy]
def abI:Option (List T)→Option (D×ao)
 | some ts=>(call raw f (ts.map .t) []).bind (Fm H)
 | none=>TQ H call f raw [] ds
@[go_sem] theorem ae5 (ts : List T) : abI H call f raw ds (some ts) = (call raw f (ts.map .t) []).bind (Fm H) := (rfl)
@[go_sem] theorem ae6 : abI H call f raw ds none = TQ H call f raw [] ds := (rfl)
@[go_sem] theorem anU : Rf H call f raw [] ds = abI H call f raw ds (qB H ds) := by
 cases h:qB H ds with
 | none=>rfl
 | some ts=>exact TO H call f raw ds ts h
@[go_sem] theorem apr (k : Nat) : Rf H call f raw (k :: keep) ds = TQ H call f raw (k :: keep) ds := (rfl)
end
section
variable (H : ao) (keep : List Nat)
@[go_sem] theorem aiy (i : Nat) : uA H keep i [] = some [] := (rfl)
def Nx(i:Nat):List Nat→Bool
 | []=>false
 | j::r=>eqB i j||Nx i r
@[go_sem] theorem alf (i : Nat) : Nx i [] = false := (rfl)
@[go_sem] theorem aiz (i j : Nat) (r : List Nat) : Nx i (j :: r) = (eqB i j || Nx i r) := (rfl)
theorem JE(i:Nat)(l:List Nat):l.contains i=Nx i l:=by
 induction l with
 | nil=>rfl
 | cons j r ih=>rw[List.contains_cons,ih];simp only[Nx,Ob];rw[beq_eq_decide_nat]
where beq_eq_decide_nat {a b:Nat}:(a==b)=decide (a=b):=by rw[Bool.eq_iff_iff];simp
def anV(d:D):Bool→Option D
 | true=>some d
 | false=>yC H d
@[go_sem] theorem aps (d : D) : anV H d true = some d := (rfl)
@[go_sem] theorem Y8 (d : D) : anV H d false = yC H d := (rfl)
def apt(i:Nat)(r:List D)(x:D):Option (List D):=pt x (uA H keep (i+1) r)
@[go_sem] theorem TR (i : Nat) (r : List D) (x : D) : apt H keep i r x = pt x (uA H keep (i + 1) r) := (rfl)
@[go_sem] theorem ID (i : Nat) (d : D) (r : List D) : uA H keep i (d :: r) = (anV H d (Nx i keep)).bind (apt H keep i r) := by
 simp only[uA,JE]
 cases Nx i keep<;>rfl
@[go_sem] theorem VW (i : Nat) : dD H keep i [] = [] := (rfl)
def frK(l:List Nat):Bool→List Nat
 | true=>[]
 | false=>l
@[go_sem] theorem aqu (l : List Nat) : frK l true = [] := (rfl)
@[go_sem] theorem aiA (l : List Nat) : frK l false = l := (rfl)
@[go_sem] theorem wO (i : Nat) (d : D) (r : List D) : dD H keep i (d :: r) = frK (jT H 8 d) (Nx i keep) ++ dD H keep (i + 1) r := by
 simp only[dD,JE]
 cases Nx i keep<;>rfl
@[go_sem] theorem alg (H : ao) : pins H [] = H := (rfl)
@[go_sem] theorem aiB (H : ao) (i : Nat) (r : List Nat) : pins H (i :: r) = pins (H.modify i Pz) r := (rfl)
def Rj(i:Nat):Option Obj→ao
 | some (.arr sz _ ep es)=>H.set i (.arr sz true ep es)
 | _=>H
@[go_sem] theorem aiC (i : Nat) (cs : List D) : Rj H i (some (.box cs)) = H := (rfl)
@[go_sem] theorem aiD (i sz ep : Nat) (pin : Bool) (es : List D) : Rj H i (some (.arr sz pin ep es)) = H.set i (.arr sz true ep es) := (rfl)
theorem P3{α:Type}{l:List α}{i:Nat}{x:α}(h:l[i]?=some x):l.set i x=l:=by
 apply List.ext_getElem?
 intro j
 rw[List.getElem?_set]
 split
 · rename_i e;subst e
   split
   · exact h.symm
   · rename_i hl;rw[aLm (by omega)]at h;cases h
 · rfl
@[go_sem] theorem ae7 (i : Nat) : List.modify H i Pz = Rj H i H[i]? := by
 apply List.ext_getElem?
 intro j
 rw[List.getElem?_modify]
 cases h:H[i]? with
 | none=>
   simp only[Rj]
   by_cases e:i=j
   · subst e;rw[h];simp
   · simp[e]
 | some o=>
   have hi:i<H.length:=(aLe.1 h).1
   cases o with
   | box cs=>
     simp only[Rj]
     by_cases e:i=j
     · subst e;rw[h];simp[Pz]
     · simp[e]
   | arr sz pin ep es=>
     simp only[Rj]
     rw[List.getElem?_set]
     by_cases e:i=j
     · subst e;rw[h];simp[Pz,hi]
     · simp[e]
section
variable (n : Nat)
@[go_sem] theorem aqv (x : T) : ids n (.t x) = [] := by cases n <;> rfl
@[go_sem] theorem anW : ids n .nil = [] := by cases n <;> rfl
@[go_sem] theorem alh : ids n .nilp = [] := by cases n <;> rfl
@[go_sem] theorem anX : ids n .und = [] := by cases n <;> rfl
@[go_sem] theorem apu (cs : List T) : ids n (.ep cs) = [] := by cases n <;> rfl
@[go_sem] theorem aiE (id off : Nat) : ids n (.bp id off) = [id] := by cases n <;> rfl
@[go_sem] theorem apv (id ep m i off : Nat) : ids n (.ap id ep m i off) = [id] := by cases n <;> rfl
@[go_sem] theorem anY (id ep m : Nat) : ids n (.ref id ep m) = [id] := by cases n <;> rfl
@[go_sem] theorem anZ (id ep m lo hi : Nat) : ids n (.sub id ep m lo hi) = [id] := by cases n <;> rfl
@[go_sem] theorem an0 (cs : List D) : ids (n + 1) (.agg cs) = Fo n cs := (rfl)
@[go_sem] theorem an1 (cs : List D) : ids (n + 1) (.tup cs) = Fo n cs := (rfl)
@[go_sem] theorem aiF (f : Nat) (cs : List D) : ids (n + 1) (.fn f cs) = Fo n cs := (rfl)
@[go_sem] theorem Xh : Fo n [] = [] := (rfl)
@[go_sem] theorem TS (d : D) (r : List D) : Fo n (d :: r) = ids n d ++ Fo n r := (rfl)
@[go_sem] theorem P4 (ts : List T) : Fo n (ts.map .t) = [] := TM ts n
@[go_sem] theorem P5 (a b : List D) : Fo n (a ++ b) = Fo n a ++ Fo n b := by simp [Fo]
@[go_sem] theorem ali (m : Nat) (x : T) : Fo n (List.replicate m (.t x)) = [] := by
 have:List.replicate m (D.t x)=(List.replicate m x).map .t:=by simp
 rw[this,P4]
end
def TT(sel:List Nat)(i:Nat):Bool→List Nat
 | true=>sel
 | false=>sel++[i]
@[go_sem] theorem alj (sel : List Nat) (i : Nat) : TT sel i true = sel := (rfl)
@[go_sem] theorem alk (sel : List Nat) (i : Nat) : TT sel i false = sel ++ [i] := (rfl)
@[go_sem] theorem ae8 (sel : List Nat) : gM sel [] = sel := (rfl)
@[go_sem] theorem abJ (sel : List Nat) (i : Nat) (r : List Nat) : gM sel (i :: r) = gM (TT sel i (Nx i sel)) r := by
 simp only[gM,JE]
 cases Nx i sel<;>rfl
def P6:Option Obj→List Nat
 | some (.box cs)=>Fo 8 cs
 | some (.arr _ _ _ es)=>Fo 8 es
 | none=>[]
@[go_sem] theorem ae9 (cs : List D) : P6 (some (.box cs)) = Fo 8 cs := (rfl)
@[go_sem] theorem afa (sz ep : Nat) (pin : Bool) (es : List D) : P6 (some (.arr sz pin ep es)) = Fo 8 es := (rfl)
@[go_sem] theorem aiG : tx H [] = [] := (rfl)
@[go_sem] theorem afb (i : Nat) (r : List Nat) : tx H (i :: r) = P6 H[i]? ++ tx H r := by
 simp only[tx,List.flatMap_cons]
 congr 1
 cases H[i]? with
 | none=>rfl
 | some o=>cases o<;>rfl
@[go_sem] theorem an2 (sel : List Nat) : reach H 0 sel = sel := (rfl)
@[go_sem] theorem an3 (n : Nat) (sel : List Nat) : reach H (n + 1) sel = reach H n (gM sel (tx H sel)) := (rfl)
@[go_sem] theorem alm : pick H [] = some [] := (rfl)
def aiH(r:List Nat)(o:Obj):Option ao:=pt o (pick H r)
@[go_sem] theorem Xi (r : List Nat) (o : Obj) : aiH H r o = pt o (pick H r) := (rfl)
@[go_sem] theorem TU (i : Nat) (r : List Nat) : pick H (i :: r) = H[i]?.bind (aiH H r) := (rfl)
end
section
variable (f : Nat → Option Nat) (n : Nat)
@[go_sem] theorem an4 (x : T) : ren f n (.t x) = some (.t x) := by cases n <;> rfl
@[go_sem] theorem an5 : ren f n .nil = some .nil := by cases n <;> rfl
@[go_sem] theorem aln : ren f n .nilp = some .nilp := by cases n <;> rfl
@[go_sem] theorem an6 : ren f n .und = some .und := by cases n <;> rfl
@[go_sem] theorem apw (cs : List T) : ren f n (.ep cs) = some (.ep cs) := by cases n <;> rfl
def apx(off:Nat)(i:Nat):D:= .bp i off
@[go_sem] theorem an7 (off i : Nat) : apx off i = .bp i off := (rfl)
@[go_sem] theorem aiI (id off : Nat) : ren f n (.bp id off) = (f id).map (apx off) := by cases n <;> rfl
def apy(ep m i off:Nat)(j:Nat):D:= .ap j ep m i off
@[go_sem] theorem an8 (ep m i off j : Nat) : apy ep m i off j = .ap j ep m i off := (rfl)
@[go_sem] theorem apz (id ep m i off : Nat) : ren f n (.ap id ep m i off) = (f id).map (apy ep m i off) := by cases n <;> rfl
def aiJ(ep m:Nat)(j:Nat):D:= .ref j ep m
@[go_sem] theorem alo (ep m j : Nat) : aiJ ep m j = .ref j ep m := (rfl)
@[go_sem] theorem an9 (id ep m : Nat) : ren f n (.ref id ep m) = (f id).map (aiJ ep m) := by cases n <;> rfl
def aiK(ep m lo hi:Nat)(j:Nat):D:= .sub j ep m lo hi
@[go_sem] theorem alp (ep m lo hi j : Nat) : aiK ep m lo hi j = .sub j ep m lo hi := (rfl)
@[go_sem] theorem aoa (id ep m lo hi : Nat) : ren f n (.sub id ep m lo hi) = (f id).map (aiK ep m lo hi) := by cases n <;> rfl
@[go_sem] theorem aiL (g : Nat) (cs : List D) : ren f (n + 1) (.fn g cs) = (cO (ren f n) cs).map (.fn g) := (rfl)
@[go_sem] theorem aob (cs : List D) : ren f (n + 1) (.agg cs) = (cO (ren f n) cs).map .agg := (rfl)
@[go_sem] theorem aoc (cs : List D) : ren f (n + 1) (.tup cs) = (cO (ren f n) cs).map .tup := (rfl)
@[go_sem] theorem yc (ts : List T) : cO (ren f n) (ts.map .t) = some (ts.map .t) := by
 induction ts with
 | nil=>rfl
 | cons t ts ih=>rw[List.map_cons,LH,an4,aLq,aa9,ih];rfl
@[go_sem] theorem Y9 (m : Nat) (x : T) : cO (ren f n) (List.replicate m (.t x)) = some (List.replicate m (.t x)) := by
 have:List.replicate m (D.t x)=(List.replicate m x).map .t:=by simp
 rw[this,yc]
@[go_sem] theorem Rk (cs : List D) : jW f (.box cs) = (cO (ren f 8) cs).map .box := (rfl)
@[go_sem] theorem afc (sz ep : Nat) (pin : Bool) (es : List D) : jW f (.arr sz pin ep es) = (cO (ren f 8) es).map (.arr sz pin ep) := (rfl)
end
def afd(x:Option Nat):Bool→Option Nat
 | true=>some 0
 | false=>x.map (· +1)
@[go_sem] theorem apA (x : Option Nat) : afd x true = some 0 := (rfl)
@[go_sem] theorem apB (k : Nat) : afd (some k) false = some (k + 1) := (rfl)
@[go_sem] theorem apC : afd none false = none := (rfl)
@[go_sem] theorem idxOf_nil (i : Nat) : idxOf [] i = none := (rfl)
@[go_sem] theorem idxOf_cons (j i : Nat) (r : List Nat) : idxOf (j :: r) i = afd (idxOf r i) (eqB j i) := by
 simp only[idxOf,Ob]
 by_cases h:j=i
 · simp[h,afd]
 · simp[h,afd]
@[go_sem] theorem afe (n i : Nat) : gu [] n i = some (n + i) := by simp [gu]
@[go_sem] theorem alq (j n : Nat) (r : List Nat) : gu (j :: r) n 0 = some j := by simp [gu]
@[go_sem] theorem alr (j n i : Nat) (r : List Nat) : gu (j :: r) n (i + 1) = gu r n i := by
 simp only[gu,List.length_cons,Nat.add_lt_add_iff_right,List.getElem?_cons_succ,Nat.add_sub_add_right]
@[go_sem] theorem abK {α : Type} (H os : List α) : et H [] os = H := by cases os <;> rfl
@[go_sem] theorem Za {α : Type} (H : List α) (i : Nat) (r : List Nat) (o : α) (os : List α) : et H (i :: r) (o :: os) = et (H.set i o) r os := (rfl)
def lbP(sz:Nat)(p:List D×ao):List D×ao:=(p.1,.arr sz false 0 []::p.2)
@[go_sem] theorem apD (sz : Nat) (cs : List D) (os : ao) : lbP sz (cs, os) = (cs, .arr sz false 0 [] :: os) := (rfl)
def lbC(base:Nat)(cs:List D)(off sz:Nat)(r:List (Nat×Nat)):Option D→List D×ao
 | some .nil=>lbP sz (cF (base+1) (cs.set off (.ref base 0 0)) r)
 | _=>cF base cs r
@[go_sem] theorem aod (base : Nat) (cs : List D) (off sz : Nat) (r : List (Nat × Nat)) : lbC base cs off sz r (some .nil) = lbP sz (cF (base + 1) (cs.set off (.ref base 0 0)) r) := (rfl)
@[go_sem] theorem aqw (base : Nat) (cs : List D) (off sz : Nat) (r : List (Nat × Nat)) (x : T) : lbC base cs off sz r (some (.t x)) = cF base cs r := (rfl)
@[go_sem] theorem aoe (base : Nat) (cs : List D) (off sz : Nat) (r : List (Nat × Nat)) (a b c : Nat) : lbC base cs off sz r (some (.ref a b c)) = cF base cs r := (rfl)
@[go_sem] theorem Zb (base : Nat) (cs : List D) (off sz : Nat) (r : List (Nat × Nat)) : cF base cs ((off, sz) :: r) = lbC base cs off sz r cs[off]? := by
 simp only[cF,lbC]
 split<;>split<;>simp_all [lbP]
def lvP(H:ao)(id:Nat)(p:List D×ao):Option (D×ao):=some (.tup [],H.set id (.box p.1)++p.2)
@[go_sem] theorem apE (H : ao) (id : Nat) (cs : List D) (os : ao) : lvP H id (cs, os) = some (.tup [], H.set id (.box cs) ++ os) := (rfl)
def lvB(H:ao)(id:Nat)(l:List (Nat×Nat)):Option Obj→Option (D×ao)
 | some (.box cs)=>lvP H id (cF H.length cs l)
 | _=>none
@[go_sem] theorem apF (H : ao) (id : Nat) (l : List (Nat × Nat)) (cs : List D) : lvB H id l (some (.box cs)) = lvP H id (cF H.length cs l) := (rfl)
@[go_sem] theorem abL (H : ao) (id : Nat) (x : Nat × Nat) (r : List (Nat × Nat)) : IB H id (x :: r) = lvB H id (x :: r) H[id]? := by
 simp only[IB,uB]
 generalize H[id]?=o
 rcases o with _ | (cs | _)
 · rfl
 · rfl
 · rfl
section
variable (H : ao)
def klE(n:Nat)(sel new:List Nat)(os:ao)(q:List Nat×ao):Option (List Nat×ao):=some (new++q.1,os++q.2)
@[go_sem] theorem apG (n : Nat) (sel new : List Nat) (os : ao) (a : List Nat) (b : ao) : klE n sel new os (a, b) = some (new ++ a, os ++ b) := (rfl)
def klD(n:Nat)(sel new:List Nat)(os:ao):Option (List Nat×ao):=(pN H n (sel++new) (tx H new)).bind (klE n sel new os)
@[go_sem] theorem apH (n : Nat) (sel new : List Nat) (os : ao) : klD H n sel new os = (pN H n (sel ++ new) (tx H new)).bind (klE n sel new os) := (rfl)
def Dg(sel:List Nat):List Nat→Bool
 | []=>true
 | i::r=> !Nx i sel&&Dg sel r
@[go_sem] theorem aff (sel : List Nat) : Dg sel [] = true := (rfl)
@[go_sem] theorem abM (sel : List Nat) (i : Nat) (r : List Nat) : Dg sel (i :: r) = (!Nx i sel && Dg sel r) := (rfl)
theorem LM(sel l:List Nat):l.all (fun i=> !sel.contains i)=Dg sel l:=by
 induction l with
 | nil=>rfl
 | cons i r ih=>rw[List.all_cons,ih,JE];rfl
def klC(n:Nat)(sel new:List Nat)(os:ao):Option (List Nat×ao):=
 (if n=0 then(if(os.flatMap fun o=>o.ds.flatMap (jT H depth)).all (fun i=> !(sel++new).contains i)then cO (fS H) os else none)else some os).bind (klD H n sel new)
def AO:ao→List Nat
 | []=>[]
 | .box cs::r=>yw H 8 cs++AO r
 | .arr _ _ _ es::r=>yw H 8 es++AO r
@[go_sem] theorem afg : AO H [] = [] := (rfl)
@[go_sem] theorem afh (cs : List D) (r : ao) : AO H (.box cs :: r) = yw H 8 cs ++ AO H r := (rfl)
@[go_sem] theorem afi (sz ep : Nat) (pin : Bool) (es : List D) (r : ao) : AO H (.arr sz pin ep es :: r) = yw H 8 es ++ AO H r := (rfl)
theorem TV(os:ao):(os.flatMap fun o=>o.ds.flatMap (jT H depth))=AO H os:=by
 induction os with
 | nil=>rfl
 | cons o r ih=>rw[List.flatMap_cons,ih];cases o<;>rfl
@[go_sem] theorem aqx (sel new : List Nat) (os : ao) : klC H 0 sel new os = (if Dg (sel ++ new) (AO H os) = true then cO (fS H) os else none).bind (klD H 0 sel new) := by
 simp only[klC,TV,LM,if_true]
@[go_sem] theorem aqy (n : Nat) (sel new : List Nat) (os : ao) : klC H (n + 1) sel new os = klD H (n + 1) sel new os := by
 simp[klC]
def klN(n:Nat)(sel new:List Nat):Option (List Nat×ao):=(pick H new).bind (klC H n sel new)
@[go_sem] theorem apI (n : Nat) (sel new : List Nat) : klN H n sel new = (pick H new).bind (klC H n sel new) := (rfl)
@[go_sem] theorem als (sel front : List Nat) : pN H 0 sel front = some ([], []) := (rfl)
@[go_sem] theorem alu (n : Nat) (sel front : List Nat) : pN H (n + 1) sel front = klN H n sel ((gM sel front).drop sel.length) := by
 simp only[pN,klN]
 generalize (gM sel front).drop sel.length=new
 cases pick H new with
 | none=>rfl
 | some os=>
   simp only[aLq,klC]
   congr 1
   funext os'
   simp only[klD]
   cases pN H n (sel++new) (tx H new)<;>rfl
@[go_sem] theorem Xj (cs : List D) : fS H (.box cs) = (cO (yC H) cs).map .box := (rfl)
@[go_sem] theorem JF (sz ep : Nat) (pin : Bool) (ts : List T) : fS H (.arr sz pin ep (ts.map .t)) = some (.arr sz pin ep (ts.map .t)) := by
 simp only[fS,AN,aLw]
@[go_sem] theorem Xk (sz ep : Nat) (pin : Bool) : fS H (.arr sz pin ep []) = some (.arr sz pin ep []) := (rfl)
@[go_sem] theorem Xl (sz ep : Nat) (pin : Bool) (m : Nat) (x : T) : fS H (.arr sz pin ep (List.replicate m (.t x))) = some (.arr sz pin ep (List.replicate m (.t x))) := by
 have:List.replicate m (D.t x)=(List.replicate m x).map .t:=by simp
 rw[this,JF]
def aof(k raw:Nat)(H:ao)(ds rs:List D)(q:List Nat×ao):Option (D×ao):=
 if Dg (List.range k++q.1) (mO H raw ds)=true then
  (cO (ren (idxOf (List.range k++q.1)) depth) rs).bind fun rs'=>(cO (jW (idxOf (List.range k++q.1))) (H.take k++q.2)).map fun hs'=>(B1 rs',hs')
 else none
def TW(sel:List Nat)(H2:ao)(rs':List D):Option (D×ao):=(cO (jW (idxOf sel)) H2).bind (finT3 rs')
where finT3 (rs':List D) (hs:ao):Option (D×ao):=some (B1 rs',hs)
@[go_sem] theorem alv (rs' : List D) (hs : ao) : TW.finT3 rs' hs = some (B1 rs', hs) := (rfl)
@[go_sem] theorem alw (sel : List Nat) (H2 : ao) (rs' : List D) : TW sel H2 rs' = (cO (jW (idxOf sel)) H2).bind (TW.finT3 rs') := (rfl)
@[go_sem] theorem aog (k raw : Nat) (ds rs : List D) (sel : List Nat) (os : ao) : aof k raw H ds rs (sel, os) =
 if Dg (List.range k++sel) (mO H raw ds)=true then(cO (ren (idxOf (List.range k++sel)) 8) rs).bind (TW (List.range k++sel) (H.take k++os))else none:=by
 simp only[aof,depth]
 split
 · cases cO (ren (idxOf (List.range k++sel)) 8) rs with
   | none=>rfl
   | some rs'=>simp only[aLq,TW];cases cO (jW (idxOf (List.range k++sel))) (H.take k++os)<;>rfl
 · rfl
@[go_sem] theorem aoh (k raw : Nat) (ds rs : List D) : alc k raw H ds rs = (pN H (max raw 1) (List.range k) (Fo 8 rs ++ tx H (List.range k))).bind (aof k raw H ds rs) := by
 simp only[alc,LM,Fo,depth];rfl
@[go_sem] theorem afj (k raw : Nat) (ds rs : List D) : ae3 k raw H ds rs false = alc k raw H ds rs := (rfl)
@[go_sem] theorem afk (k raw : Nat) (ds : List D) : finish k (raw + 1) H ds = air k (raw + 1) H ds ds := by
 simp only[finish,Nat.add_one_ne_zero,if_false,aLq,qK,P0,air,ae3]
 show(if(jq k 8 ds&&iC k (H.take k))=true then _ else _)=_
 cases (jq k 8 ds&&iC k (H.take k))<;>rfl
@[go_sem] theorem abN (raw : Nat) (ds : List D) : mO H (raw + 1) ds = [] := by simp [mO]
@[go_sem] theorem alx : max 0 1 = 1 := (rfl)
@[go_sem] theorem aoi (r : Nat) : max (r + 1) 1 = r + 1 := by omega
@[go_sem] theorem afl : List.range 0 = [] := (rfl)
@[go_sem] theorem afm : List.range 1 = [0] := (rfl)
@[go_sem] theorem afn : List.range 2 = [0, 1] := (rfl)
@[go_sem] theorem afo : List.range 3 = [0, 1, 2] := (rfl)
@[go_sem] theorem afp : List.range 4 = [0, 1, 2, 3] := (rfl)
end
theorem P7{α:Type}(f:α→T)(l:List α)(i:Nat)(x:α)(y:D)(h:y= .t (f x)):((l.map f).map D.t).set i y=((l.set i x).map f).map D.t:=by
 rw[h,List.map_map,List.map_map]
 exact(List.map_set (f:=D.t ∘ f)).symm
@[go_sem] theorem aoj (l : List Int) (i : Nat) (k : IntKind) (x : Int) : ((l.map (T.int k)).map D.t).set i (.t (.int k x)) = ((l.set i x).map (T.int k)).map D.t := P7 _ l i x _ rfl
@[go_sem] theorem aly (l : List Bool) (i : Nat) (x : Bool) : ((l.map T.bool).map D.t).set i (.t (.bool x)) = ((l.set i x).map T.bool).map D.t := P7 _ l i x _ rfl
end Go.Ev
namespace Go.Ev
class Lib where
 fs:Nat→Option Fn
end Go.Ev
namespace Go.Ev.K
abbrev u(x:O):R:={ o:=x}
abbrev w(n:Nat)(x:O):R:={ o:=x,d:=some n}
abbrev y(n:Nat)(b:Bool)(x:O):R:={ o:=x,g:=some (n,b)}
abbrev m(x:X):R:={ o:= .mv x}
abbrev g(x:X):R:={ o:= .ld x 1 false}
abbrev h(n:Nat)(x:X):R:={ o:= .ld x n true}
abbrev f(n:Nat)(x:X):R:={ o:= .fa x n}
abbrev a(n:Nat)(x z:X):R:={ o:= .ia x z n}
abbrev l0:X:= .l 0
abbrev l1:X:= .l 1
abbrev l2:X:= .l 2
abbrev l3:X:= .l 3
abbrev l4:X:= .l 4
abbrev l5:X:= .l 5
abbrev l6:X:= .l 6
abbrev l7:X:= .l 7
abbrev l8:X:= .l 8
abbrev l9:X:= .l 9
abbrev l10:X:= .l 10
abbrev l11:X:= .l 11
abbrev v0:X:= .v 0
abbrev v1:X:= .v 1
abbrev v2:X:= .v 2
abbrev v3:X:= .v 3
abbrev v4:X:= .v 4
abbrev v5:X:= .v 5
abbrev v6:X:= .v 6
abbrev v7:X:= .v 7
abbrev v8:X:= .v 8
abbrev v9:X:= .v 9
abbrev v10:X:= .v 10
abbrev v11:X:= .v 11
abbrev v12:X:= .v 12
abbrev v13:X:= .v 13
abbrev v14:X:= .v 14
abbrev v15:X:= .v 15
abbrev v16:X:= .v 16
abbrev v17:X:= .v 17
abbrev v18:X:= .v 18
abbrev v19:X:= .v 19
abbrev v20:X:= .v 20
abbrev v21:X:= .v 21
abbrev v22:X:= .v 22
abbrev v23:X:= .v 23
end Go.Ev.K
namespace Go.Ev.K
abbrev q(a:List R)(p:List (Nat×Nat))(c:C):C:= .seq (.reg a p) c
abbrev z0:D:= .t (.int .i64 (0))
abbrev z1:D:= .t (.bool false)
abbrev x(n:Nat)(z:X):R:={ o:= .mv z,d:=some n}
abbrev e(n:Nat)(b:Bool)(z:X):R:={ o:= .mv z,g:=some (n,b)}
abbrev i(n:Nat)(b:Bool)(z:X):R:={ o:= .ld z 1 false,g:=some (n,b)}
end Go.Ev.K
namespace Go.Ev.N
def Od:Nat:=0
def kF:Nat:=1
def abO:Nat:=2
def mZ:Nat:=3
def dw:Nat:=4
def afq:Nat:=5
def cg:Nat:=6
def cP:Nat:=7
def cQ:Nat:=8
def aC:Nat:=9
def cA:Nat:=10
def bJ:Nat:=11
def jE:Nat:=12
def VX:Nat:=13
def cR:Nat:=14
def dE:Nat:=15
def dU:Nat:=16
def eW:Nat:=17
def cZ:Nat:=18
def eX:Nat:=19
def bP:Nat:=20
def jF:Nat:=21
def fw:Nat:=22
def nj:Nat:=23
def fx:Nat:=24
def cT:Nat:=25
def dy:Nat:=26
def VY:Nat:=27
def di:Nat:=28
def gz:Nat:=29
def lG:Nat:=30
def hX:Nat:=31
def kG:Nat:=32
def jf:Nat:=33
def bX:Nat:=34
def fT:Nat:=35
def fD:Nat:=36
def fE:Nat:=37
def dL:Nat:=38
def bT:Nat:=39
def kH:Nat:=40
def fF:Nat:=41
def kI:Nat:=42
def fG:Nat:=43
def dP:Nat:=44
def kx:Nat:=45
def dQ:Nat:=46
def dj:Nat:=47
def dz:Nat:=48
def aq:Nat:=49
def cj:Nat:=50
def aO:Nat:=51
def cC:Nat:=52
def dA:Nat:=53
def jG:Nat:=54
def kJ:Nat:=55
def ez:Nat:=56
def ic:Nat:=57
def fH:Nat:=58
def jH:Nat:=59
def gA:Nat:=60
def dT:Nat:=61
def dB:Nat:=62
def jI:Nat:=63
def dk:Nat:=64
def gB:Nat:=65
def bL:Nat:=66
def b7:Nat:=67
def cD:Nat:=68
def ax:Nat:=69
def bN:Nat:=70
def aU:Nat:=71
def fI:Nat:=72
def eu:Nat:=73
def jJ:Nat:=74
def aN:Nat:=75
def cK:Nat:=76
def kK:Nat:=77
end Go.Ev.N
namespace Go.Ev.K
open Go.Ev
def kF:Fn:= { av:=1,vars:=[0,2],body:=(q [x 1 (.b false)] [] (q [m v0,u (.ln l0),u (.bin .leq l0 (.i 400)),x 1 l0] [] .ret)),res:=[(1,none)]}
def mZ:Fn:= { av:=1,vars:=[0,2],body:=(q [w 1 (.mv (.c (.nilp)))] [] (q [m v0,u (.bd [.nil,z0] [(0,1,.l 0)]),u (.bx l0 2),x 1 l0] [] .ret)),res:=[(1,none)]}
def lr:C:= (.seq (.ite [m v4,m v3,u (.bin .lss l1 l0)] [] 0 .skip (.exit 0)) (.seq (.blk 1 (.reg [f 0 v2,g l0,m v0,u (.ca N.aC 0 [] [.l 0,.i 4]),u (.bin .mul (.i (-10)) l0),m v4,u (.bin .eql l0 (.i 0)),m l0,e 0 false v0,y 1 false (.ca N.dE 0 [] [.l 0,.i 6]),u (.pk l2 (.b true) l0),u (.bd [z0,z1] [(0,1,.l 6),(1,1,.l 0)]),u (.bs [.l 0] 2),u (.app l11 l0 true 2),f 0 v2,u (.st l0 l1 1 [])] [(1,4),(1,10),(1,13)])) (.reg [m v4,u (.bin .add l0 (.i 1)),x 4 l0] [])))
def tF:C:= .loop true [5,6,7,8,9] K.lr
def oA:C:= (.seq (.ite [m v6,m v3,u (.bin .lss l1 l0)] [] 0 .skip (.exit 2)) (.seq (.blk 3 (q [h 10 v5,w 7 (.al [z0,z0,z0,z0,z1,z1,z0,z0,z0,z0] []),u (.st l0 l1 10 [])] [] (q [m v6,u (.bin .sub l0 (.i 1)),m v0,m v6,u (.mn [.l 0,.i 2]),u (.ca N.aC 0 [] [.l 2,.l 0]),u (.bin .sub l4 l0),m v6,m v0,u (.bs [.i 11,.i 59,.i 119,.i 4] 1),u (.ca N.cA 0 [] [.l 1,.l 0]),u (.bin .add (.i 1) l0),m v0,u (.bs [.i 9,.i 3,.i 19] 1),u (.ca N.cA 0 [] [.l 1,.l 0]),u (.bin .add (.i 1) l0),f 0 v7,u (.st l0 l10 1 []),f 1 v7,u (.st l0 l11 1 []),f 2 v7,u (.st l0 l9 1 []),f 3 v7,u (.st l0 l7 1 [])] [] (.reg [f 1 v2,g l0,h 10 v7,u (.bs [.l 0] 10),u (.app l2 l0 true 10),f 1 v2,u (.st l0 l1 1 [])] [])))) (.reg [m v6,u (.bin .add l0 (.i 1)),x 6 l0] [])))
def tG:C:= .loop true [4,7,8,9] K.oA
def eY:C:= (.seq (.ite [m v8,u (.bin .gtr l0 (.i 0)),m l0,y 0 true (.fa v2 1),i 1 true l0,y 2 true (.ln l0),y 3 true (.bin .lss l0 (.i 10)),u (.pk l4 l0 (.b false))] [] 0 .skip (.exit 4)) (.seq (.blk 5 (q [h 10 v5,w 9 (.al [z0,z0,z0,z0,z1,z1,z0,z0,z0,z0] []),u (.st l0 l1 10 [])] [] (q [m v0,m v3,u (.ca N.aC 0 [] [.l 1,.l 0]),m v0,m v3,u (.ca N.aC 0 [] [.l 1,.l 0]),m v0,u (.bs [.i 11,.i 59,.i 199] 1),u (.ca N.cA 0 [] [.l 1,.l 0]),u (.bin .add (.i 1) l0),m v0,u (.bs [.i 9,.i 3] 1),u (.ca N.cA 0 [] [.l 1,.l 0]),u (.bin .add (.i 1) l0),f 0 v9,u (.st l0 (.l 12) 1 []),f 1 v9,u (.st l0 l11 1 []),f 2 v9,u (.st l0 l9 1 []),f 3 v9,u (.st l0 l7 1 [])] [] (q [m v0,u (.ca N.aC 0 [] [.l 0,.i 5]),u (.bin .gtr l0 (.i 0)),m v0,u (.ca N.dE 0 [] [.l 0,.i 6]),f 4 v9,u (.st l0 l3 1 []),f 5 v9,u (.st l0 l3 1 [])] [] (.ite [f 0 v9,g l0,f 1 v9,g l0,u (.bin .neq l2 l0)] [] 0 (.reg [f 1 v2,g l0,h 10 v9,u (.bs [.l 0] 10),u (.app l2 l0 true 10),f 1 v2,u (.st l0 l1 1 [])] []) .skip))))) (.reg [m v8,u (.bin .sub l0 (.i 1)),x 8 l0] [])))
def tH:C:= .loop true [4,6,7,9] K.eY
def dw:Fn:= { av:=1,vars:=[0,2,3,4,5,6,7,8,9,10],body:=(q [w 1 (.al [.nil,.nil] [])] [] (q [w 2 (.al [.nil,.nil] [(0,2),(1,10)])] [] (q [m v0,u (.ca N.aC 0 [] [.l 0,.i 6]),u (.bin .add (.i 2) l0),x 3 l0] [] (.seq (.ite [m v0,u (.nc l0),f 0 l0,g l0,u (.ln l0),u (.bin .eql l0 (.i 0))] [] 0 (.reg [x 3 (.i 4)] []) .skip) (.seq (q [x 4 (.i 0)] [] (.blk 0 K.tF)) (q [u (.bd [z0,z0] [(0,1,.i 1),(1,1,.i 1)]),u (.bd [z0,z0,z0,z0,z1,z1,z0,z0,z0,z0] [(2,1,.i 12),(3,1,.i 10),(4,1,.b true),(6,2,.l 0)]),w 5 (.al [z0,z0,z0,z0,z1,z1,z0,z0,z0,z0] []),u (.st l0 l1 10 [])] [] (.seq (q [x 6 (.i 1)] [] (.blk 2 K.tG)) (.seq (q [m v0,u (.ca N.aC 0 [] [.l 0,.i 4]),x 8 l0] [] (.blk 4 K.tH)) (q [h 2 v2,u (.st v1 l0 2 [])] [] .ret))))))))),res:=[(1,some (2,true))]}
def cg:Fn:= { av:=3,vars:=[0,1,2,4,6,7,9,10],body:=(q [w 3 (.bx v1 2),w 4 (.al [z0,.nil] [])] [] (q [w 5 (.al [z0,.nil] []),h 2 v3,m v2,m v0,f 0 v3,g l0,u (.ln l0),u (.ca N.aC 0 [] [.l 3,.l 0]),u (.bs [.l 0] 1),m v0,u (.ca N.aC 0 [] [.l 0,.i 200]),u (.ca N.eW 0 [] [.l 9,.l 8,.l 2,.l 0]),m l0,u (.ex l0 0),u (.ex l1 1),u (.st (.l 14) l1 2 []),m l1] [(0,8),(0,11),(0,12),(1,8),(1,11),(8,11)] (.seq (.ite [m v0,u (.ca N.dE 0 [] [.l 0,.i 2])] [] 0 (q [w 6 (.al [z0,.nil] []),h 2 v3,m v2,h 2 v3,m v0,h 2 v3,u (.ca N.cP 0 [] [.l 1,.l 0]),h 2 v5,f 0 v5,g l0,m v0,u (.ca N.aC 0 [] [.l 0,.i 100]),u (.bin .add l2 l0),u (.ca N.cZ 0 [] [.l 11,.l 10,.l 9,.l 6,.l 5,.l 0]),m l0,u (.ex l0 0),u (.ex l1 1),u (.st (.l 16) l1 2 []),x 7 l1] [(0,7),(0,12),(0,14),(1,7),(1,12),(3,7),(3,12),(7,1),(7,12),(9,1),(9,12)] (.ite [m v7,u (.bin .eql l0 (.i 0))] [] 0 (q [h 2 v6,u (.st v4 l0 2 [])] [] .ret) .skip)) .skip) (q [h 2 v5,u (.st v4 l0 2 [])] [] .ret)))),res:=[(4,some (2,true))]}
def ie:C:= (.seq (.ite [m v5,f 1 v2,g l0,u (.ln l0),u (.bin .lss l3 l0)] [] 0 .skip (.exit 0)) (.seq (.blk 1 (q [m v0,u (.bs [.i 0,.i 1000,.i 5000,.i 20000,.i (-5000),.i (-20000),.i 4999,.i 100] 1),u (.ca N.cA 0 [] [.l 1,.l 0]),x 6 l0] [] (q [m v4,m v6,m v0,u (.bs [.i 0,.i 1,.i 1000,.i 6000] 1),u (.ca N.cA 0 [] [.l 1,.l 0]),u (.bin .sub l3 l0),m v6,m v0,u (.bs [.i 0,.i 1,.i 500] 1),u (.ca N.cA 0 [] [.l 1,.l 0]),u (.bin .add l3 l0),u (.bd [z0,z0] [(0,1,.l 5),(1,1,.l 0)]),u (.bs [.l 0] 2),u (.app (.l 12) l0 true 2),x 4 l0] [] (.ite [m v0,u (.ca N.dE 0 [] [.l 0,.i 9])] [] 0 (.reg [m v4,m v5,u (.bd [z0,z0] [(0,1,.i (-1125899906842624)),(1,1,.i 1125899906842624)]),a 2 l2 l1,u (.st l0 l1 2 [])] []) .skip)))) (.reg [m v5,u (.bin .add l0 (.i 1)),x 5 l0] [])))
def rV:C:= .loop true [1,3,6] K.ie
def cP:Fn:= { av:=2,vars:=[0,1,3,4,5,6,7],body:=(q [w 2 (.bx v1 2),w 3 (.mv (.c (.nil)))] [] (q [w 4 (.nw 2)] [] (.seq (q [x 5 (.i 0)] [] (.blk 0 K.rV)) (q [m v4,x 3 l0] [] .ret)))),res:=[(3,none)]}
def mQ:C:= (.seq (.ite [m v7,m v4,u (.bin .lss l1 l0)] [] 0 .skip (.exit 0)) (.seq (.blk 1 (.reg [m v5,m v7,u (.bin .mul l0 (.i 2)),u (.bin .add (.i 3) l0),u (.bs [.l 0] 1),u (.app l4 l0 true 1),m v6,m v0,f 0 v2,g l0,u (.ln l0),u (.ca N.aC 0 [] [.l 3,.l 0]),u (.bs [.l 0] 1),u (.app l6 l0 true 1),x 5 l8,x 6 l1] [(9,0),(9,5)])) (.reg [m v7,u (.bin .add l0 (.i 1)),x 7 l0] [])))
def qS:C:= .loop true [1,8,9,10,11,12,13,14,15,16,17] K.mQ
def bU:C:= (.seq (.ite [m v10,u (.bin .gtr l0 (.i 0))] [] 0 .skip (.exit 2)) (.seq (.blk 3 (q [m v9,m v0,u (.ca N.aC 0 [] [.l 0,.i 60]),u (.bin .add l2 l0),x 9 l0] [] (q [m v0,w 17 (.ca N.aC 0 [] [.l 0,.i 3])] [] (.blk 4 (.ite [u (.bin .eql v17 (.i 0)),m l0] [] 0 (q [w 11 (.al [.nil] []),h 2 v2,h 1 v8,m v0,m v4,u (.ca N.aC 0 [] [.l 1,.l 0]),m v0,m v4,u (.ca N.aC 0 [] [.l 1,.l 0]),m v9,u (.ca N.bP 0 [] [.l 8,.l 7,.l 4,.l 1,.l 0]),m l0,u (.ex l0 0),u (.ex l1 1),u (.st (.l 13) l1 1 []),x 12 l1] [(0,6),(0,9),(0,11),(1,6),(1,9),(2,6),(2,9)] (.ite [m v12,u (.bin .eql l0 (.i 0))] [] 0 (.reg [h 1 v11,u (.st v8 l0 1 [])] []) .skip)) (.ite [u (.bin .eql v17 (.i 1)),m l0] [] 0 (q [w 13 (.al [.nil] []),h 2 v2,h 1 v8,m v0,m v4,u (.ca N.aC 0 [] [.l 1,.l 0]),u (.bin .mul (.i 2) l0),u (.bin .add (.i 3) l0),m v0,f 0 v2,g l0,u (.ln l0),u (.ca N.dU 0 [] [.l 3,.l 0]),m v9,m v9,m v0,u (.ca N.aC 0 [] [.l 0,.i 9]),u (.bin .add l2 l0),u (.ca N.jF 0 [] [.l 16,.l 15,.l 10,.l 5,.l 4,.l 0]),m l0,u (.ex l0 0),u (.ex l1 1),u (.st (.l 21) l1 1 []),x 14 l1] [(0,6),(0,13),(0,17),(0,19),(1,6),(1,13),(1,17),(2,6),(2,13),(2,17),(10,1)] (.ite [m v14,u (.bin .eql l0 (.i 0))] [] 0 (.reg [h 1 v13,u (.st v8 l0 1 [])] []) .skip)) (q [w 15 (.al [.nil] []),h 2 v2,h 1 v8,m v0,m v4,u (.ca N.aC 0 [] [.l 1,.l 0]),u (.bin .mul (.i 2) l0),u (.bin .add (.i 3) l0),m v0,f 0 v2,g l0,u (.ln l0),u (.ca N.dU 0 [] [.l 3,.l 0]),m v9,m v9,u (.bin .add l0 (.i 50)),m v0,u (.ca N.aC 0 [] [.l 0,.i 40]),u (.ca N.fw 0 [3] [.l 16,.l 15,.l 10,.l 5,.l 4,.l 2,.l 0]),m l0,u (.ex l0 0),u (.ex l1 1),u (.st (.l 21) l1 1 []),x 16 l1] [(0,6),(0,13),(0,18),(0,19),(1,6),(1,13),(1,18),(2,6),(2,13),(2,18),(10,1)] (.ite [m v16,u (.bin .eql l0 (.i 0))] [] 0 (.reg [h 1 v15,u (.st v8 l0 1 [])] []) .skip)))))))) (.reg [m v10,u (.bin .sub l0 (.i 1)),x 10 l0] [])))
def qT:C:= .loop true [1,5,6,7,11,12,13,14,15,16,17] K.bU
def cQ:Fn:= { av:=2,vars:=[0,1,3,4,5,6,7,8,9,11,12,13,14,15,16,17,18,61],body:=(q [w 2 (.bx v1 2),w 3 (.al [.nil] [])] [] (q [m v0,u (.ca N.aC 0 [] [.l 0,.i 3]),u (.bin .add (.i 1) l0),x 4 l0] [] (q [w 5 (.nw 1),w 6 (.nw 1)] [] (.seq (q [x 7 (.i 0)] [] (.blk 0 K.qS)) (q [w 8 (.al [.nil] []),h 2 v2,m v5,m v6,m v0,u (.ca N.aC 0 [] [.l 0,.i 100]),u (.ca N.eX 0 [] [.l 4,.l 3,.l 2,.l 0]),m l0,u (.ex l0 0),u (.ex l1 1),u (.st l9 l1 1 []),m l1] [(0,6),(0,7),(1,6)] (q [x 9 (.i 100)] [] (.seq (q [m v0,u (.ca N.aC 0 [] [.l 0,.i 5]),x 10 l0] [] (.blk 2 K.qT)) (q [h 1 v8,u (.st v3 l0 1 [])] [] .ret)))))))),res:=[(3,some (1,true))]}
def aC:Fn:= { av:=2,vars:=[0,1,4],body:=(q [x 2 (.i 0)] [] (.seq (.ite [m v0,u (.nc l0),f 1 l0,g l0,m v0,u (.nc l0),f 0 l0,g l0,u (.ln l0),u (.bin .geq l5 l0)] [] 0 (q [x 2 (.i 0)] [] .ret) .skip) (q [m v0,u (.nc l0),f 1 l0,g l0,u (.bin .add l0 (.i 1)),u (.nc l4),f 1 l0,u (.st l0 l2 1 [])] [] (q [m v0,u (.nc l0),f 0 l0,g l0,m v0,u (.nc l0),f 1 l0,g l0,u (.bin .sub l0 (.i 1)),a 1 l5 l0,g l0,m v1,u (.ca N.nj 0 [] [.l 1,.l 0]),x 2 l0] [] .ret)))),res:=[(2,none)]}
def cA:Fn:= { av:=2,vars:=[0,1,4],body:=(q [x 2 (.i 0)] [] (q [m v1,m v0,m v1,u (.ln l0),u (.ca N.aC 0 [] [.l 2,.l 0]),a 1 l4 l0,g l0,x 2 l0] [] .ret)),res:=[(2,none)]}
def bJ:Fn:= { av:=6,vars:=[0,1,2,3,4,5,7,8,9,12,13],body:=(q [u (.bx v0 2),w 6 (.bx v1 3),w 7 (.bx v2 2),w 8 (.bx v3 1),x 9 (.i 0)] [] (q [h 2 v7,m v4,m v5,u (.bin .add l1 l0),u (.ca N.fx 0 [] [.l 3,.l 0]),x 10 l0] [] (.seq (.blk 0 (.ite [h 2 v7,m v4,u (.ca N.fx 0 [] [.l 1,.l 0]),f 2 v6,g l0,u (.ca N.cT 0 [] [.l 2,.l 0]),m l0] [(4,0)] 0 (q [x 9 (.i 2)] [] .ret) (.ite [m v10,f 2 v6,g l0,u (.ca N.cT 0 [] [.l 2,.l 0]),m l0] [] 0 (q [x 9 (.i 1)] [] .ret) (.ite [f 0 v6,g l0,u (.bin .eql l0 (.i 2)),m l0,e 0 true v10,y 1 true (.ln l0),y 2 true (.bin .gtr l0 (.i 0)),u (.pk l3 l0 (.b false)),m l0,y 0 true (.ld v6 3 true),y 1 true (.ld v8 1 true),e 2 true v4,e 3 true v5,y 4 true (.bin .add l1 l0),y 5 true (.ca N.dy 0 [] [.l 4,.l 3,.l 0]),y 6 true (.ln l0),y 7 true (.bin .gtr l0 (.i 0)),u (.pk l8 l0 (.b false)),m l0] [] 0 (q [x 9 (.i 3)] [] .ret) .skip)))) (q [x 9 (.i 0)] [] .ret)))),res:=[(9,none)]}
def qC:C:= (.seq (.ite [m v3,m v0,u (.ln l0),u (.bin .lss l2 l0)] [] 0 .skip (.exit 0)) (.seq (.blk 1 (.ite [m v0,m v3,a 1 l1 l0,g l0,m v1,u (.bin .eql l1 l0)] [] 0 (q [x 2 (.b true)] [] .ret) .skip)) (.reg [m v3,u (.bin .add l0 (.i 1)),x 3 l0] [])))
def Dh:C:= .loop true [2] K.qC
def jE:Fn:= { av:=2,vars:=[0,1,4,5],body:=(q [x 2 (.b false)] [] (.seq (q [x 3 (.i 0)] [] (.blk 0 K.Dh)) (q [x 2 (.b false)] [] .ret))),res:=[(2,none)]}
def cR:Fn:= { av:=6,vars:=[0,1,2,3,4,5,6,7,8,9,12,13],body:=(q [w 6 (.bx v0 2),w 7 (.bx v1 3),w 8 (.bx v2 2),w 9 (.bx v3 1),w 10 (.mv (.c (.nil)))] [] (.seq (q [h 2 v6,h 3 v7,h 2 v8,h 1 v9,m v4,m v5,u (.ca N.bJ 0 [] [.l 5,.l 4,.l 3,.l 2,.l 1,.l 0]),x 11 l0] [] (.ite [m v11,u (.bin .neq l0 (.i 2)),m l0,e 0 true v11,y 1 true (.bin .neq l0 (.i 1)),u (.pk l2 l0 (.b false))] [] 0 (q [w 10 (.mv (.c (.nil)))] [] .ret) .skip)) (q [h 3 v7,h 1 v9,m v4,m v5,u (.bin .add l1 l0),u (.ca N.dy 0 [] [.l 4,.l 3,.l 0]),x 10 l0] [] .ret))),res:=[(10,none)]}
def dE:Fn:= { av:=2,vars:=[0,1,4],body:=(q [x 2 (.b false)] [] (q [m v0,m v1,u (.ca N.aC 0 [] [.l 1,.l 0]),m v1,u (.bin .sub l0 (.i 1)),u (.bin .eql l2 l0),x 2 l0] [] .ret)),res:=[(2,none)]}
def lu:C:= (.seq (.ite [m v4,m v1,u (.bin .lss l1 l0)] [] 0 .skip (.exit 0)) (.seq (.blk 1 (.ite [m v0,u (.ca N.aC 0 [] [.l 0,.i 3]),u (.bin .eql l0 (.i 0))] [] 0 (.reg [m v3,m v4,u (.bs [.l 0] 1),u (.app l2 l0 true 1),x 3 l0] []) .skip)) (.reg [m v4,u (.bin .add l0 (.i 1)),x 4 l0] [])))
def tJ:C:= .loop true [2] K.lu
def dU:Fn:= { av:=2,vars:=[0,1,4,5,6],body:=(q [w 2 (.mv (.c (.nil)))] [] (q [w 3 (.nw 1)] [] (.seq (q [x 4 (.i 0)] [] (.blk 0 K.tJ)) (q [m v3,x 2 l0] [] .ret)))),res:=[(2,none)]}
def oB:C:= (.seq (.ite [m v8,f 0 v4,g l0,u (.ln l0),u (.bin .lss l3 l0)] [] 0 .skip (.exit 1)) (.seq (.blk 2 (.ite [m v2,m v8,u (.ca N.jE 0 [] [.l 1,.l 0])] [] 0 (.reg [m v7,m v3,u (.bs [.l 0] 1),u (.app l2 l0 true 1),x 7 l0] []) (.reg [m v7,u (.bs [.i 1099511627776] 1),u (.app l1 l0 true 1),x 7 l0] []))) (.reg [m v8,u (.bin .add l0 (.i 1)),x 8 l0] [])))
def yI:C:= .loop true [0,6] K.oB
def eW:Fn:= { av:=4,vars:=[0,1,2,3,4,8,9,10,11],body:=(q [w 4 (.bx v0 2),w 5 (.al [z0,.nil] []),x 6 (.i 0)] [] (.seq (.blk 0 (.ite [h 2 v4,u (.ca N.di 0 [] [.l 0]),u (.bin .neq l0 (.i 0)),m l0,y 0 false (.ld v4 2 true),e 1 false v1,y 2 false (.ca N.gz 0 [] [.l 1,.l 0]),y 3 false (.un .not l0),u (.pk l4 (.b true) l0),m l0] [] 0 (q [u (.bd [z0,.nil] []),u (.st v5 l0 2 []),x 6 (.i 6)] [] .ret) (.ite [m v2,f 0 v4,g l0,u (.ln l0),u (.ca N.lG 0 [] [.l 3,.l 0]),u (.un .not l0),m l0] [] 0 (q [u (.bd [z0,.nil] []),u (.st v5 l0 2 []),x 6 (.i 3)] [] .ret) (.ite [m v3,u (.bin .lss l0 (.i 0)),m l0,e 0 false v3,y 1 false (.bin .gtr l0 (.i 2147483648)),u (.pk l2 (.b true) l0),m l0] [] 0 (q [u (.bd [z0,.nil] []),u (.st v5 l0 2 []),x 6 (.i 8)] [] .ret) .skip)))) (q [w 7 (.nw 1)] [] (.seq (q [x 8 (.i 0)] [] (.blk 1 K.yI)) (q [m v3,h 2 v4,m v1,m v7,u (.ca N.hX 0 [] [.l 2,.l 1,.l 0]),u (.bd [z0,.nil] [(0,1,.l 4),(1,1,.l 0)]),u (.st v5 l0 2 []),x 6 (.i 0)] [] .ret))))),res:=[(5,some (2,true)),(6,none)]}
def cE:C:= (.seq (.ite [m v12,f 1 v6,g l0,u (.ln l0),u (.bin .lss l3 l0)] [] 0 .skip (.exit 0)) (.seq (.blk 1 (q [f 1 v6,g l0,m v12,a 10 l1 l0,h 10 l0,w 13 (.al [z0,z0,z0,z0,z1,z1,z0,z0,z0,z0] []),u (.st l0 l1 10 [])] [] (.seq (.ite [f 1 v8,g l0,f 0 v13,g l0,a 1 l2 l0,g l0,m v5,u (.bin .leq l1 l0),m l0,y 0 true (.ld v6 2 true),e 1 true v12,e 2 true v1,e 3 true v12,y 4 true (.ia l1 l0 2),y 5 true (.ld l0 2 true),y 6 true (.ca N.bX 0 [] [.l 5,.l 4,.l 0,.b false]),y 7 true (.bin .geq l0 (.i 0)),u (.pk l8 l0 (.b false))] [] 0 (.reg [m v11,f 1 v13,g l0,m v11,f 1 v13,g l0,a 1 l2 l0,g l0,m v5,u (.mn [.l 1,.l 0]),a 1 l9 l7,u (.st l0 l1 1 [])] []) .skip) (.ite [f 1 v8,g l0,f 1 v13,g l0,a 1 l2 l0,g l0,m v5,u (.bin .leq l1 l0),m l0,y 0 true (.ld v6 2 true),e 1 true v12,e 2 true v1,e 3 true v12,y 4 true (.ia l1 l0 2),y 5 true (.ld l0 2 true),y 6 true (.ca N.bX 0 [] [.l 5,.l 4,.l 0,.b true]),y 7 true (.bin .geq l0 (.i 0)),u (.pk l8 l0 (.b false))] [] 0 (.reg [m v11,f 0 v13,g l0,m v11,f 0 v13,g l0,a 1 l2 l0,g l0,m v5,u (.mn [.l 1,.l 0]),a 1 l9 l7,u (.st l0 l1 1 [])] []) .skip)))) (.reg [m v12,u (.bin .add l0 (.i 1)),x 12 l0] [])))
def wP:C:= .loop true [0,2,4,10,13,14] K.cE
def qf:C:= (.seq (.ite [m v14,m v11,u (.ln l0),u (.bin .lss l2 l0)] [] 0 .skip (.exit 2)) (.seq (.blk 3 (.reg [m v11,m v14,m v11,m v14,a 1 l1 l0,g l0,m v5,u (.mx [.l 1,.l 0]),a 1 l7 l6,u (.st l0 l1 1 [])] [])) (.reg [m v14,u (.bin .add l0 (.i 1)),x 14 l0] [])))
def wQ:C:= .loop true [0,1,2,4,6,8,10,12,13] K.qf
def cZ:Fn:= { av:=6,vars:=[0,1,2,3,4,5,6,8,10,12,13,14,15,16,17],body:=(q [w 6 (.bx v0 2),w 7 (.bx v2 2),w 8 (.bx v4 2),w 9 (.al [z0,.nil] []),x 10 (.i 0)] [] (q [h 2 v8,u (.ca N.kG 0 [] [.l 0]),u (.st v8 l0 2 [])] [] (.seq (.ite [h 2 v6,h 2 v8,u (.ca N.jf 0 [] [.l 1,.l 0]),u (.un .not l0),m l0,y 0 false (.ld v6 2 true),e 1 false v1,y 2 false (.ca N.gz 0 [] [.l 1,.l 0]),y 3 false (.un .not l0),u (.pk l4 (.b true) l0),m l0,y 0 false (.ld v7 2 true),y 1 false (.ca N.di 0 [] [.l 0]),y 2 false (.bin .neq l0 (.i 0)),u (.pk l3 (.b true) l0),m l0,y 0 false (.ld v7 2 true),e 1 false v3,y 2 false (.ca N.gz 0 [] [.l 1,.l 0]),y 3 false (.un .not l0),u (.pk l4 (.b true) l0),m l0,y 0 false (.fa v7 0),i 1 false l0,y 2 false (.ln l0),y 3 false (.fa v6 0),i 4 false l0,y 5 false (.ln l0),y 6 false (.bin .neq l3 l0),u (.pk l7 (.b true) l0)] [] 0 (q [h 2 v8,u (.st v9 l0 2 []),x 10 (.i 6)] [] .ret) .skip) (.seq (.ite [m v5,f 0 v8,g l0,u (.bin .lss l2 l0),m l0,e 0 false v5,y 1 false (.bin .gtr l0 (.i 2147483648)),u (.pk l2 (.b true) l0)] [] 0 (q [h 2 v8,u (.st v9 l0 2 []),x 10 (.i 8)] [] .ret) .skip) (q [f 1 v8,g l0,u (.app (.c (.nil)) l0 true 1),x 11 l0] [] (.seq (q [x 12 (.i 0)] [] (.blk 0 K.wP)) (.seq (q [x 14 (.i 0)] [] (.blk 2 K.wQ)) (q [m v5,h 2 v7,m v3,m v11,u (.ca N.hX 0 [] [.l 2,.l 1,.l 0]),u (.bd [z0,.nil] [(0,1,.l 4),(1,1,.l 0)]),u (.st v9 l0 2 []),x 10 (.i 0)] [] .ret)))))))),res:=[(9,some (2,true)),(10,none)]}
def oC:C:= (.seq (.ite [m v8,m v1,u (.ln l0),u (.bin .lss l2 l0)] [] 0 .skip (.exit 0)) (.seq (.blk 1 (q [w 9 (.al [z0,.nil] []),h 2 v4,m v2,m v8,a 1 l1 l0,g l0,m v3,u (.ca N.fD 0 [] [.l 5,.l 1,.l 0]),m l0,u (.ex l0 0),u (.ex l1 1),u (.st l10 l1 2 []),x 10 l1] [(0,8)] (.seq (.ite [m v10,u (.bin .neq l0 (.i 0))] [] 0 (q [u (.bd [.nil] []),m v10,u (.st v5 l1 1 []),x 6 l1] [] .ret) .skip) (.reg [f 1 v7,g l0,h 2 v9,u (.bs [.l 0] 2),u (.app l2 l0 true 2),f 1 v7,u (.st l0 l1 1 [])] [])))) (.reg [m v8,u (.bin .add l0 (.i 1)),x 8 l0] [])))
def yJ:C:= .loop true [0,6,9,10] K.oC
def eX:Fn:= { av:=4,vars:=[0,1,2,3,4,8,9,10,11,12,13],body:=(q [w 4 (.bx v0 2),w 5 (.al [.nil] []),x 6 (.i 0)] [] (.seq (.ite [h 2 v4,u (.ca N.di 0 [] [.l 0]),u (.bin .neq l0 (.i 0)),m l0,e 0 false v1,y 1 false (.ln l0),e 2 false v2,y 3 false (.ln l0),y 4 false (.bin .neq l2 l0),u (.pk l5 (.b true) l0),m l0,e 0 false v1,y 1 false (.ln l0),y 2 false (.bin .lss l0 (.i 1)),u (.pk l3 (.b true) l0),m l0,e 0 false v1,y 1 false (.ln l0),y 2 false (.bin .gtr l0 (.i 12)),u (.pk l3 (.b true) l0)] [] 0 (q [u (.bd [.nil] []),u (.st v5 l0 1 []),x 6 (.i 6)] [] .ret) .skip) (.seq (.ite [m v1,u (.ca N.fT 0 [] [.l 0]),u (.un .not l0)] [] 0 (q [u (.bd [.nil] []),u (.st v5 l0 1 []),x 6 (.i 41)] [] .ret) .skip) (q [m v1,u (.app (.c (.nil)) l0 true 1),u (.bd [.nil,.nil] [(0,1,.l 0)]),w 7 (.al [.nil,.nil] [(1,2)]),u (.st l0 l1 2 [(1,2)])] [] (.seq (q [x 8 (.i 0)] [] (.blk 0 K.yJ)) (q [h 2 v7,u (.bs [.l 0] 2),u (.bd [.nil] [(0,1,.l 0)]),u (.st v5 l0 1 []),x 6 (.i 0)] [] .ret)))))),res:=[(5,some (1,true)),(6,none)]}
def iN:C:= (.seq (.ite [m v11,f 0 v6,g l0,u (.ln l0),u (.bin .lss l3 l0)] [] 0 .skip (.exit 0)) (.seq (.blk 1 (q [f 0 v6,g l0,m v11,a 2 l1 l0,h 2 l0,u (.ca N.bT 1 [] [.l 0]),w 12 (.al [.nil,.nil] []),u (.st l0 l1 2 [])] [] (.seq (.ite [f 1 v12,g l0,m v2,a 2 l1 l0,h 2 l0,f 1 v12,g l0,m v3,a 2 l1 l0,h 2 l0,m v4,u (.ca N.kH 0 [] [.l 6,.l 1,.l 0]),u (.un .not l0)] [] 0 (.exit 1) .skip) (q [f 0 v12,g l0,m v2,f 0 v12,g l0,m v3,f 0 v12,g l0,m v3,a 1 l1 l0,g l0,f 0 v12,g l0,m v2,a 1 l1 l0,g l0,a 1 (.l 14) (.l 13),u (.st l0 l6 1 []),a 1 (.l 13) (.l 12),u (.st l0 l3 1 [])] [(4,18)] (q [f 1 v12,g l0,m v2,f 1 v12,g l0,m v2,a 2 l1 l0,h 2 l0,m v4,u (.ca N.fF 0 [] [.l 1,.l 0]),m l0,u (.ex l0 0),u (.ex l1 1),a 2 l11 l10,u (.st l0 l2 2 [])] [(1,10)] (q [f 1 v12,g l0,m v3,f 1 v12,g l0,m v3,a 2 l1 l0,h 2 l0,m v4,u (.ca N.fF 0 [] [.l 1,.l 0]),m l0,u (.ex l0 0),u (.ex l1 1),a 2 l11 l10,u (.st l0 l2 2 [])] [(1,10)] (.reg [m v10,h 2 v12,u (.bs [.l 0] 2),u (.app l2 l0 true 2),x 10 l0] []))))))) (.reg [m v11,u (.bin .add l0 (.i 1)),x 11 l0] [])))
def tK:C:= .loop true [0,1,5,8,9,12] K.iN
def bP:Fn:= { av:=5,vars:=[0,1,2,3,4,5,6,10,11,12,13,14,15],body:=(q [w 5 (.bx v0 2),w 6 (.bx v1 1),w 7 (.al [.nil] []),x 8 (.i 0)] [] (q [h 1 v6,u (.ca N.fE 0 [] [.l 0]),u (.st v6 l0 1 [])] [] (.seq (.ite [h 2 v5,h 1 v6,u (.ca N.dL 0 [] [.l 1,.l 0]),u (.un .not l0)] [] 0 (q [h 1 v6,u (.st v7 l0 1 []),x 8 (.i 6)] [] .ret) .skip) (q [f 0 v6,g l0,a 2 l0 (.i 0),f 0 l0,g l0,u (.ln l0),x 9 l0] [] (.seq (.ite [m v2,u (.bin .lss l0 (.i 0)),m l0,e 0 false v2,e 1 false v9,y 2 false (.bin .geq l1 l0),u (.pk l3 (.b true) l0),m l0,e 0 false v3,y 1 false (.bin .lss l0 (.i 0)),u (.pk l2 (.b true) l0),m l0,e 0 false v3,e 1 false v9,y 2 false (.bin .geq l1 l0),u (.pk l3 (.b true) l0),m l0,e 0 false v2,e 1 false v3,y 2 false (.bin .eql l1 l0),u (.pk l3 (.b true) l0)] [] 0 (q [h 1 v6,u (.st v7 l0 1 []),x 8 (.i 19)] [] .ret) .skip) (.seq (.ite [m v4,u (.bin .lss l0 (.i 0)),m l0,e 0 false v4,y 1 false (.bin .gtr l0 (.i 2147483648)),u (.pk l2 (.b true) l0)] [] 0 (q [h 1 v6,u (.st v7 l0 1 []),x 8 (.i 8)] [] .ret) .skip) (q [h 1 v6,u (.ca N.fE 1 [] [.l 0]),u (.fl l0 0 1 false),x 10 l0] [] (.seq (q [x 11 (.i 0)] [] (.blk 0 K.tK)) (q [m v10,u (.ca N.kI 1 [] [.l 0]),x 10 l0] [] (.seq (.ite [m v10,u (.ln l0),u (.bin .gtr l0 (.i 24))] [] 0 (q [h 1 v6,u (.st v7 l0 1 []),x 8 (.i 44)] [] .ret) .skip) (q [m v10,u (.bd [.nil] [(0,1,.l 0)]),u (.st v7 l0 1 []),x 8 (.i 0)] [] .ret))))))))))),res:=[(7,some (1,true)),(8,none)]}
def fN:C:= (.seq (.ite [m v12,f 0 v7,g l0,u (.ln l0),u (.bin .lss l3 l0)] [] 0 .skip (.exit 0)) (.seq (.blk 1 (q [f 0 v7,g l0,m v12,a 2 l1 l0,h 2 l0,u (.ca N.bT 1 [] [.l 0]),w 13 (.al [.nil,.nil] []),u (.st l0 l1 2 [])] [] (q [f 0 v13,g l0,m v2,u (.ca N.dP 0 [] [.l 1,.l 0]),x 14 l0] [] (q [w 15 (.al [z0,.nil] []),h 2 v6,f 1 v13,g l0,m v14,a 2 l1 l0,h 2 l0,m v3,m v4,m v5,u (.ca N.kx 0 [] [.l 8,.l 3,.l 2,.l 1,.l 0]),m l0,u (.ex l0 0),u (.ex l1 1),u (.st (.l 13) l1 2 []),x 16 l1] [(0,11)] (.seq (q [x 17 v16] [] (.blk 2 (.seq (q [u (.bin .eql v17 (.i 6)),x 18 l0] [] (.itv 18 .skip (.reg [u (.bin .eql v17 (.i 8)),x 18 l0] []))) (.itv 18 (q [h 1 v7,m v16,u (.st v8 l1 1 []),x 9 l1] [] .ret) (.ite [u (.bin .eql v17 (.i 43)),m l0] [] 0 (.exit 1) (.ite [u (.bin .eql v17 (.i 0)),m l0] [] 0 (.reg [f 1 v13,g l0,m v14,h 2 v15,a 2 l2 l1,u (.st l0 l1 2 [])] []) .skip)))))) (.reg [f 0 v11,g l0,h 2 v13,u (.bs [.l 0] 2),u (.app l2 l0 true 2),f 0 v11,u (.st l0 l1 1 [])] [])))))) (.reg [m v12,u (.bin .add l0 (.i 1)),x 12 l0] [])))
def wR:C:= .loop true [0,1,9,10,13,14,15,16,17,18] K.fN
def jF:Fn:= { av:=6,vars:=[0,1,2,3,4,5,6,7,12,13,14,15,16,17,18,19,20,61,62],body:=(q [w 6 (.bx v0 2),w 7 (.bx v1 1),w 8 (.al [.nil] []),x 9 (.i 0)] [] (q [h 1 v7,u (.ca N.fE 0 [] [.l 0]),u (.st v7 l0 1 [])] [] (.seq (q [h 2 v6,h 1 v7,m v2,u (.ca N.fG 0 [] [.l 2,.l 1,.l 0]),x 10 l0] [] (.ite [m v10,u (.bin .neq l0 (.i 0))] [] 0 (q [h 1 v7,m v10,u (.st v8 l1 1 []),x 9 l1] [] .ret) .skip)) (q [w 11 (.al [.nil] [(0,2)])] [] (.seq (q [x 12 (.i 0)] [] (.blk 0 K.wR)) (.seq (.ite [f 0 v11,g l0,u (.ln l0),u (.bin .eql l0 (.i 0))] [] 0 (q [h 1 v7,u (.st v8 l0 1 []),x 9 (.i 43)] [] .ret) .skip) (q [h 1 v11,u (.st v8 l0 1 []),x 9 (.i 0)] [] .ret))))))),res:=[(8,some (1,true)),(9,none)]}
def ec:C:= (.seq (.ite [m v13,f 0 v8,g l0,u (.ln l0),u (.bin .lss l3 l0)] [] 0 .skip (.exit 0)) (.seq (.blk 1 (q [f 0 v8,g l0,m v13,a 2 l1 l0,h 2 l0,u (.ca N.bT 1 [] [.l 0]),w 14 (.al [.nil,.nil] []),u (.st l0 l1 2 [])] [] (q [f 0 v14,g l0,m v2,u (.ca N.dP 0 [] [.l 1,.l 0]),x 15 l0] [] (q [w 16 (.al [z0,.nil] []),h 2 v7,f 1 v14,g l0,m v15,a 2 l1 l0,h 2 l0,m v3,m v4,m v5,m v6,u (.ca N.dQ 0 [2] [.l 9,.l 4,.l 3,.l 2,.l 1,.l 0]),m l0,u (.ex l0 0),u (.ex l1 1),u (.st (.l 14) l1 2 []),x 17 l1] [(0,12)] (.seq (.ite [m v17,u (.bin .eql l0 (.i 6)),m l0,e 0 false v17,y 1 false (.bin .eql l0 (.i 8)),u (.pk l2 (.b true) l0)] [] 0 (q [h 1 v8,m v17,u (.st v9 l1 1 []),x 10 l1] [] .ret) .skip) (.seq (.ite [m v17,u (.bin .eql l0 (.i 0))] [] 0 (.reg [f 1 v14,g l0,m v15,h 2 v16,a 2 l2 l1,u (.st l0 l1 2 [])] []) .skip) (.reg [f 0 v12,g l0,h 2 v14,u (.bs [.l 0] 2),u (.app l2 l0 true 2),f 0 v12,u (.st l0 l1 1 [])] []))))))) (.reg [m v13,u (.bin .add l0 (.i 1)),x 13 l0] [])))
def qU:C:= .loop true [0,1,10,11,14,15,16,17] K.ec
def fw:Fn:= { av:=7,vars:=[0,1,2,3,4,5,6,7,8,14,15,16,17,18,19,20,21,22],body:=(q [w 7 (.bx v0 2),w 8 (.bx v1 1),w 9 (.al [.nil] []),x 10 (.i 0)] [] (q [h 1 v8,u (.ca N.fE 0 [] [.l 0]),u (.st v8 l0 1 [])] [] (.seq (q [h 2 v7,h 1 v8,m v2,u (.ca N.fG 0 [] [.l 2,.l 1,.l 0]),x 11 l0] [] (.ite [m v11,u (.bin .neq l0 (.i 0))] [] 0 (q [h 1 v8,m v11,u (.st v9 l1 1 []),x 10 l1] [] .ret) .skip)) (q [w 12 (.al [.nil] [(0,2)])] [] (.seq (q [x 13 (.i 0)] [] (.blk 0 K.qU)) (q [h 1 v12,u (.st v9 l0 1 []),x 10 (.i 0)] [] .ret)))))),res:=[(9,some (1,true)),(10,none)]}
def nj:Fn:= { av:=2,vars:=[0,1,4],body:=(q [x 2 (.i 0)] [] (.seq (.ite [m v1,u (.bin .lss l0 (.i 1))] [] 0 (q [x 2 (.i 0)] [] .ret) .skip) (q [m v0,m v1,u (.bin .rem l1 l0),x 0 l0] [] (.seq (.ite [m v0,u (.bin .lss l0 (.i 0))] [] 0 (.reg [m v0,m v1,u (.bin .add l1 l0),x 0 l0] []) .skip) (q [m v0,x 2 l0] [] .ret))))),res:=[(2,none)]}
def fx:Fn:= { av:=2,vars:=[0,1,2,3,4],body:=(q [w 2 (.bx v0 2),w 3 (.bx v1 1),w 4 (.mv (.c (.nil)))] [] (q [f 1 v2,g l0,u (.ln l0),u (.mf N.dz [.v 2,.v 3]),u (.ca N.dj 0 [] [.l 1,.l 0]),x 4 l0] [] .ret)),res:=[(4,none)]}
def cT:Fn:= { av:=2,vars:=[0,1,3,4],body:=(q [w 2 (.bx v1 1),x 3 (.b false)] [] (q [m v0,u (.mf N.cj [.v 2]),u (.ca N.aq 0 [] [.l 1,.l 0]),x 3 l0] [] .ret)),res:=[(3,none)]}
def dy:Fn:= { av:=3,vars:=[0,1,2,3,4,5,6],body:=(q [w 3 (.bx v0 3),w 4 (.bx v1 1),w 5 (.bx v2 1),w 6 (.mv (.c (.nil)))] [] (.seq (.ite [f 0 v4,g l0,u (.ln l0),u (.bin .eql l0 (.i 0))] [] 0 (q [w 6 (.mv (.c (.nil)))] [] .ret) .skip) (q [f 0 v4,g l0,a 2 l0 (.i 0),f 1 l0,g l0,u (.ln l0),u (.mf N.cC [.v 4,.v 5,.v 3]),u (.ca N.dj 0 [] [.l 1,.l 0]),x 6 l0] [] .ret))),res:=[(6,none)]}
def qV:C:= (.seq (.ite [m v3,f 0 v1,g l0,u (.ln l0),u (.bin .lss l3 l0)] [] 0 .skip (.exit 0)) (.seq (.blk 1 (q [f 0 v1,g l0,m v3,a 2 l1 l0,f 0 l0,g l0,x 4 l0] [] (.ite [m v4,u (.bin .lss l0 (.i (-10000))),m l0,e 0 false v4,y 1 false (.bin .gtr l0 (.i 10000)),u (.pk l2 (.b true) l0)] [] 0 (q [x 2 (.i 1)] [] .ret) .skip))) (.reg [m v3,u (.bin .add l0 (.i 1)),x 3 l0] [])))
def yK:C:= .loop true [0,2,4,5,6] K.qV
def qW:C:= (.seq (.ite [m v5,f 1 v1,g l0,u (.ln l0),u (.bin .lss l3 l0)] [] 0 .skip (.exit 2)) (.seq (.blk 3 (q [f 1 v1,g l0,m v5,a 10 l1 l0,h 10 l0,w 6 (.al [z0,z0,z0,z0,z1,z1,z0,z0,z0,z0] []),u (.st l0 l1 10 [])] [] (.seq (.ite [f 0 v6,g l0,u (.bin .lss l0 (.i 0)),m l0,y 0 false (.fa v6 0),i 1 false l0,y 2 false (.fa v1 0),i 3 false l0,y 4 false (.ln l0),y 5 false (.bin .geq l3 l0),u (.pk l6 (.b true) l0),m l0,y 0 false (.fa v6 1),i 1 false l0,y 2 false (.bin .lss l0 (.i 0)),u (.pk l3 (.b true) l0),m l0,y 0 false (.fa v6 1),i 1 false l0,y 2 false (.fa v1 0),i 3 false l0,y 4 false (.ln l0),y 5 false (.bin .geq l3 l0),u (.pk l6 (.b true) l0),m l0,y 0 false (.fa v6 0),i 1 false l0,y 2 false (.fa v6 1),i 3 false l0,y 4 false (.bin .eql l2 l0),u (.pk l5 (.b true) l0)] [] 0 (q [x 2 (.i 4)] [] .ret) .skip) (.ite [f 2 v6,g l0,u (.bin .lss l0 (.i 1)),m l0,y 0 false (.fa v6 2),i 1 false l0,y 2 false (.bin .gtr l0 (.i 100000)),u (.pk l3 (.b true) l0),m l0,y 0 false (.fa v6 3),i 1 false l0,y 2 false (.bin .lss l0 (.i 1)),u (.pk l3 (.b true) l0),m l0,y 0 false (.fa v6 3),i 1 false l0,y 2 false (.bin .gtr l0 (.i 1000)),u (.pk l3 (.b true) l0),m l0,y 0 false (.fa v6 6),y 1 false (.ld l0 2 true),y 2 false (.ca N.jG 0 [] [.l 0,.i 1,.i 262144]),y 3 false (.un .not l0),u (.pk l4 (.b true) l0),m l0,y 0 false (.fa v6 8),y 1 false (.ld l0 2 true),y 2 false (.ca N.jG 0 [] [.l 0,.i (-2199023255552),.i 2199023255552]),y 3 false (.un .not l0),u (.pk l4 (.b true) l0)] [] 0 (q [x 2 (.i 1)] [] .ret) .skip)))) (.reg [m v5,u (.bin .add l0 (.i 1)),x 5 l0] [])))
def yL:C:= .loop true [0,2,3,4,6] K.qW
def di:Fn:= { av:=1,vars:=[0,1,2,3,4,5,6],body:=(q [w 1 (.bx v0 2),x 2 (.i 0)] [] (.seq (.ite [f 0 v1,g l0,u (.ln l0),u (.bin .gtr l0 (.i 64)),m l0,y 0 false (.fa v1 1),i 1 false l0,y 2 false (.ln l0),y 3 false (.bin .gtr l0 (.i 128)),u (.pk l4 (.b true) l0)] [] 0 (q [x 2 (.i 2)] [] .ret) .skip) (.seq (q [x 3 (.i 0)] [] (.blk 0 K.yK)) (.seq (q [x 5 (.i 0)] [] (.blk 2 K.yL)) (q [x 2 (.i 0)] [] .ret))))),res:=[(2,none)]}
def oD:C:= (.seq (.ite [m v4,m v1,u (.ln l0),u (.bin .lss l2 l0)] [] 0 .skip (.exit 0)) (.seq (.blk 1 (.ite [m v1,m v4,a 2 l1 l0,h 2 l0,u (.ca N.kJ 0 [] [.l 0]),u (.un .not l0)] [] 0 (q [x 3 (.b false)] [] .ret) .skip)) (.reg [m v4,u (.bin .add l0 (.i 1)),x 4 l0] [])))
def yM:C:= .loop true [0,3] K.oD
def gz:Fn:= { av:=2,vars:=[0,1,2,4,5],body:=(q [w 2 (.bx v0 2),x 3 (.b false)] [] (.seq (q [x 4 (.i 0)] [] (.blk 0 K.yM)) (q [m v1,u (.ln l0),f 1 v2,g l0,u (.ln l0),u (.bin .eql l3 l0),x 3 l0] [] .ret))),res:=[(3,none)]}
def kg:C:= (.seq (.ite [m v3,m v0,u (.ln l0),u (.bin .lss l2 l0)] [] 0 .skip (.exit 0)) (.seq (.blk 1 (.ite [m v0,m v3,a 1 l1 l0,g l0,u (.bin .lss l0 (.i 0)),m l0,e 0 false v0,e 1 false v3,y 2 false (.ia l1 l0 1),i 3 false l0,e 4 false v1,y 5 false (.bin .geq l1 l0),u (.pk l6 (.b true) l0),m l0,e 0 false v3,y 1 false (.bin .gtr l0 (.i 0)),e 2 false l0,e 0 true v0,e 1 true v3,y 2 true (.ia l1 l0 1),i 3 true l0,e 4 true v0,e 5 true v3,y 6 true (.bin .sub l0 (.i 1)),y 7 true (.ia l2 l0 1),i 8 true l0,y 9 true (.bin .leq l5 l0),y 13 false (.pk l10 l0 (.b false)),u (.pk (.l 14) (.b true) l0)] [] 0 (q [x 2 (.b false)] [] .ret) .skip)) (.reg [m v3,u (.bin .add l0 (.i 1)),x 3 l0] [])))
def Di:C:= .loop true [2] K.kg
def lG:Fn:= { av:=2,vars:=[0,1,4,5],body:=(q [x 2 (.b false)] [] (.seq (q [x 3 (.i 0)] [] (.blk 0 K.Di)) (q [x 2 (.b true)] [] .ret))),res:=[(2,none)]}
def cU:C:= (.seq (.ite [m v7,f 1 v3,g l0,u (.ln l0),u (.bin .lss l3 l0)] [] 0 .skip (.exit 2)) (.seq (.blk 3 (q [f 1 v3,g l0,m v7,a 10 l1 l0,h 10 l0,w 8 (.al [z0,z0,z0,z0,z1,z1,z0,z0,z0,z0] []),u (.st l0 l1 10 [])] [] (.seq (q [h 2 v3,m v7,m v1,m v7,a 2 l1 l0,h 2 l0,u (.ca N.bX 0 [] [.l 5,.l 4,.l 0,.b false]),x 9 l0] [] (.ite [m v9,u (.bin .geq l0 (.i 0)),m l0,e 0 true v5,y 1 true (.fa v8 0),i 2 true l0,y 3 true (.ia l2 l0 1),i 4 true l0,e 5 true v9,y 6 true (.bin .add l1 l0),e 7 true v5,y 8 true (.fa v8 1),i 9 true l0,y 10 true (.ia l2 l0 1),i 11 true l0,y 12 true (.bin .lss l5 l0),u (.pk (.l 13) l0 (.b false))] [] 0 (.reg [m v5,f 1 v8,g l0,m v5,f 0 v8,g l0,a 1 l2 l0,g l0,m v9,u (.bin .add l1 l0),a 1 l9 l7,u (.st l0 l1 1 []),x 6 (.b true)] []) .skip)) (q [h 2 v3,m v7,m v1,m v7,a 2 l1 l0,h 2 l0,u (.ca N.bX 0 [] [.l 5,.l 4,.l 0,.b true]),x 10 l0] [] (.ite [m v10,u (.bin .geq l0 (.i 0)),m l0,e 0 true v5,y 1 true (.fa v8 1),i 2 true l0,y 3 true (.ia l2 l0 1),i 4 true l0,e 5 true v10,y 6 true (.bin .add l1 l0),e 7 true v5,y 8 true (.fa v8 0),i 9 true l0,y 10 true (.ia l2 l0 1),i 11 true l0,y 12 true (.bin .lss l5 l0),u (.pk (.l 13) l0 (.b false))] [] 0 (.reg [m v5,f 0 v8,g l0,m v5,f 1 v8,g l0,a 1 l2 l0,g l0,m v10,u (.bin .add l1 l0),a 1 l9 l7,u (.st l0 l1 1 []),x 6 (.b true)] []) .skip))))) (.reg [m v7,u (.bin .add l0 (.i 1)),x 7 l0] [])))
def yN:C:= .loop true [0,2,4,8,9,10,11] K.cU
def oE:C:= (.seq (.ite [m v6] [] 0 .skip (.exit 0)) (.blk 1 (q [x 6 (.b false)] [] (q [x 7 (.i 0)] [] (.blk 2 K.yN)))))
def yO:C:= .loop true [0,2,4,7,8,9,10,11] K.oE
def oF:C:= (.seq (.ite [m v11,m v5,u (.ln l0),u (.bin .lss l2 l0)] [] 0 .skip (.exit 4)) (.seq (.blk 5 (.ite [m v5,m v11,a 1 l1 l0,g l0,u (.bin .gtr l0 (.i 2147483648))] [] 0 (.reg [m v5,m v11,a 1 l1 l0,u (.st l0 (.i 1099511627776) 1 [])] []) .skip)) (.reg [m v11,u (.bin .add l0 (.i 1)),x 11 l0] [])))
def yP:C:= .loop true [0,1,2,3,4,6,7,8,9,10] K.oF
def hX:Fn:= { av:=3,vars:=[0,1,2,3,6,7,8,9,10,11,12,13],body:=(q [w 3 (.bx v0 2),w 4 (.mv (.c (.nil)))] [] (q [m v2,u (.app (.c (.nil)) l0 true 1),x 5 l0] [] (.seq (q [x 6 (.b true)] [] (.blk 0 K.yO)) (.seq (q [x 11 (.i 0)] [] (.blk 4 K.yP)) (q [m v5,x 4 l0] [] .ret))))),res:=[(4,none)]}
def kG:Fn:= { av:=1,vars:=[0,1,2],body:=(q [w 1 (.bx v0 2),w 2 (.al [z0,.nil] [])] [] (q [f 0 v1,g l0,f 1 v1,g l0,u (.app (.c (.nil)) l0 true 1),u (.bd [z0,.nil] [(0,1,.l 3),(1,1,.l 0)]),u (.st v2 l0 2 [])] [(1,5)] .ret)),res:=[(2,some (2,true))]}
def jK:C:= (.seq (.ite [m v5,f 1 v3,g l0,u (.ln l0),u (.bin .lss l3 l0)] [] 0 .skip (.exit 0)) (.seq (.blk 1 (.ite [f 1 v3,g l0,m v5,a 1 l1 l0,g l0,u (.bin .neq l0 (.i 1099511627776)),m l0,y 0 true (.fa v3 1),i 1 true l0,e 2 true v5,y 3 true (.ia l1 l0 1),i 4 true l0,y 5 true (.fa v3 0),i 6 true l0,y 7 true (.bin .lss l2 l0),e 8 true l0,y 0 false (.fa v3 1),i 1 false l0,e 2 false v5,y 3 false (.ia l1 l0 1),i 4 false l0,y 5 false (.bin .gtr l0 (.i 2147483648)),y 15 true (.pk l6 (.b true) l0),u (.pk (.l 16) l0 (.b false))] [] 0 (q [x 4 (.b false)] [] .ret) .skip)) (.reg [m v5,u (.bin .add l0 (.i 1)),x 5 l0] [])))
def yQ:C:= .loop true [0,1,4] K.jK
def jf:Fn:= { av:=2,vars:=[0,1,2,3,4,5],body:=(q [w 2 (.bx v0 2),w 3 (.bx v1 2),x 4 (.b false)] [] (.seq (q [x 5 (.i 0)] [] (.blk 0 K.yQ)) (q [h 2 v2,u (.ca N.di 0 [] [.l 0]),u (.bin .eql l0 (.i 0)),m l0,y 0 true (.fa v3 1),i 1 true l0,y 2 true (.ln l0),y 3 true (.fa v2 0),i 4 true l0,y 5 true (.ln l0),y 6 true (.bin .eql l3 l0),u (.pk l7 l0 (.b false)),m l0,y 0 true (.fa v3 0),i 1 true l0,y 2 true (.bin .geq l0 (.i 0)),u (.pk l3 l0 (.b false)),m l0,y 0 true (.fa v3 0),i 1 true l0,y 2 true (.bin .leq l0 (.i 2147483648)),u (.pk l3 l0 (.b false)),x 4 l0] [] .ret))),res:=[(4,none)]}
def bX:Fn:= { av:=4,vars:=[0,1,2,3,4,6,8,9,10,11,12],body:=(q [w 4 (.bx v0 2),w 5 (.bx v2 2),x 6 (.i 0)] [] (.seq (.ite [m v1,u (.bin .lss l0 (.i 0)),m l0,e 0 false v1,y 1 false (.fa v4 1),i 2 false l0,y 3 false (.ln l0),y 4 false (.bin .geq l3 l0),u (.pk l5 (.b true) l0),m l0,y 0 false (.fa v4 1),i 1 false l0,e 2 false v1,y 3 false (.ia l1 l0 10),y 4 false (.fa l0 5),i 5 false l0,u (.pk l6 (.b true) l0)] [] 0 (q [w 6 (.mv (.i (-1)))] [] .ret) .skip) (q [f 1 v4,g l0,m v1,a 10 l1 l0,h 10 l0,w 7 (.al [z0,z0,z0,z0,z1,z1,z0,z0,z0,z0] []),u (.st l0 l1 10 [])] [] (q [f 1 v5,g l0,f 1 v5,g l0,f 3 v7,g l0,u (.bin .mul (.i (-500)) l0),u (.bin .leq l3 l0),x 8 l6,x 9 l1] [] (.seq (.ite [m v3] [] 0 (.reg [f 0 v5,g l0,u (.un .neg l0),f 0 v5,g l0,f 3 v7,g l0,u (.bin .mul (.i 500) l0),u (.bin .geq l3 l0),x 8 l6,x 9 l1] []) .skip) (q [w 10 (.mv (.i (-1)))] [] (.seq (.ite [m v8,u (.bin .gtr l0 (.i 0))] [] 0 (.reg [f 2 v7,g l0,f 3 v7,g l0,u (.bin .mul l2 l0),u (.bin .mul l0 (.i 1000)),m v8,u (.bin .quo l1 l0),x 10 l0] []) .skip) (.seq (.ite [m v9,u (.un .not l0),m l0,e 0 true v10,y 1 true (.bin .lss l0 (.i 0)),e 2 true l0,y 0 false (.fa v7 2),i 1 false l0,e 2 false v10,y 3 false (.bin .lss l1 l0),y 7 true (.pk l4 (.b true) l0),u (.pk l8 l0 (.b false))] [] 0 (.reg [f 2 v7,g l0,x 10 l0] []) .skip) (q [m v10,x 6 l0] [] .ret))))))))),res:=[(6,none)]}
def iK:C:= (.seq (.ite [m v2,m v0,u (.ln l0),u (.bin .lss l2 l0)] [] 0 .skip (.exit 0)) (.seq (.blk 1 (.ite [m v0,m v2,a 1 l1 l0,g l0,u (.bin .lss l0 (.i 1)),m l0,e 0 false v0,e 1 false v2,y 2 false (.ia l1 l0 1),i 3 false l0,y 4 false (.bin .gtr l0 (.i 65535)),u (.pk l5 (.b true) l0),m l0,e 0 false v0,e 1 false v2,y 2 false (.sc l1 none (some l0) 1),e 3 false v0,e 4 false v2,y 5 false (.ia l1 l0 1),i 6 false l0,y 7 false (.ca N.dP 0 [] [.l 4,.l 0]),y 8 false (.bin .geq l0 (.i 0)),u (.pk l9 (.b true) l0)] [] 0 (q [x 1 (.b false)] [] .ret) .skip)) (.reg [m v2,u (.bin .add l0 (.i 1)),x 2 l0] [])))
def wS:C:= .loop true [1] K.iK
def fT:Fn:= { av:=1,vars:=[0,2,3],body:=(q [x 1 (.b false)] [] (.seq (q [x 2 (.i 0)] [] (.blk 0 K.wS)) (q [x 1 (.b true)] [] .ret))),res:=[(1,none)]}
def fD:Fn:= { av:=3,vars:=[0,1,2,3,6,7,8],body:=(q [w 3 (.bx v0 2),w 4 (.al [z0,.nil] []),x 5 (.i 0)] [] (.seq (.blk 0 (.ite [h 2 v3,u (.ca N.di 0 [] [.l 0]),u (.bin .neq l0 (.i 0)),m l0] [] 0 (q [u (.bd [z0,.nil] []),u (.st v4 l0 2 []),x 5 (.i 6)] [] .ret) (.ite [m v1,u (.bin .lss l0 (.i 0)),m l0,e 0 false v1,y 1 false (.fa v3 0),i 2 false l0,y 3 false (.ln l0),y 4 false (.bin .geq l3 l0),u (.pk l5 (.b true) l0),m l0] [] 0 (q [u (.bd [z0,.nil] []),u (.st v4 l0 2 []),x 5 (.i 3)] [] .ret) (.ite [m v2,u (.ca N.ez 0 [] [.l 0]),u (.un .not l0),m l0] [] 0 (q [u (.bd [z0,.nil] []),u (.st v4 l0 2 []),x 5 (.i 8)] [] .ret) .skip)))) (q [f 0 v3,g l0,u (.ln l0),u (.ca N.ic 1 [] [.l 0]),x 6 l0] [] (q [m v6,m v1,m v2,a 1 l2 l1,u (.st l0 l1 1 [])] [] (q [m v2,h 2 v3,m v6,m v2,u (.ca N.fH 0 [] [.l 2,.l 1,.l 0]),u (.bd [z0,.nil] [(0,1,.l 4),(1,1,.l 0)]),u (.st v4 l0 2 []),x 5 (.i 0)] [] .ret))))),res:=[(4,some (2,true)),(5,none)]}
end Go.Ev.K
namespace Go.Ev
class dM [Lib]:Prop where
 wT:Lib.fs N.kF=some K.kF
 zH:Lib.fs N.mZ=some K.mZ
 qg:Lib.fs N.dw=some K.dw
 oG:Lib.fs N.cg=some K.cg
 pv:Lib.fs N.cP=some K.cP
 oH:Lib.fs N.cQ=some K.cQ
 qh:Lib.fs N.aC=some K.aC
 sD:Lib.fs N.cA=some K.cA
 ny:Lib.fs N.bJ=some K.bJ
 zI:Lib.fs N.jE=some K.jE
 pw:Lib.fs N.cR=some K.cR
 qX:Lib.fs N.dE=some K.dE
 qi:Lib.fs N.dU=some K.dU
 uL:Lib.fs N.eW=some K.eW
 sE:Lib.fs N.cZ=some K.cZ
 uM:Lib.fs N.eX=some K.eX
 qj:Lib.fs N.bP=some K.bP
 zJ:Lib.fs N.jF=some K.jF
 sF:Lib.fs N.fw=some K.fw
 Ch:Lib.fs N.nj=some K.nj
 sG:Lib.fs N.fx=some K.fx
 pz:Lib.fs N.cT=some K.cT
 qk:Lib.fs N.dy=some K.dy
 uN:Lib.fs N.di=some K.di
 uO:Lib.fs N.gz=some K.gz
 zK:Lib.fs N.lG=some K.lG
 uP:Lib.fs N.hX=some K.hX
 wU:Lib.fs N.kG=some K.kG
 uQ:Lib.fs N.jf=some K.jf
 sH:Lib.fs N.bX=some K.bX
 sI:Lib.fs N.fT=some K.fT
 uR:Lib.fs N.fD=some K.fD
namespace K
variable [Lib] [dM]
theorem wT:Lib.fs N.kF=some K.kF:=dM.wT
theorem zH:Lib.fs N.mZ=some K.mZ:=dM.zH
theorem qg:Lib.fs N.dw=some K.dw:=dM.qg
theorem oG:Lib.fs N.cg=some K.cg:=dM.oG
theorem pv:Lib.fs N.cP=some K.cP:=dM.pv
theorem oH:Lib.fs N.cQ=some K.cQ:=dM.oH
theorem qh:Lib.fs N.aC=some K.aC:=dM.qh
theorem sD:Lib.fs N.cA=some K.cA:=dM.sD
theorem ny:Lib.fs N.bJ=some K.bJ:=dM.ny
theorem zI:Lib.fs N.jE=some K.jE:=dM.zI
theorem pw:Lib.fs N.cR=some K.cR:=dM.pw
theorem qX:Lib.fs N.dE=some K.dE:=dM.qX
theorem qi:Lib.fs N.dU=some K.dU:=dM.qi
theorem uL:Lib.fs N.eW=some K.eW:=dM.uL
theorem sE:Lib.fs N.cZ=some K.cZ:=dM.sE
theorem uM:Lib.fs N.eX=some K.eX:=dM.uM
theorem qj:Lib.fs N.bP=some K.bP:=dM.qj
theorem zJ:Lib.fs N.jF=some K.jF:=dM.zJ
theorem sF:Lib.fs N.fw=some K.fw:=dM.sF
theorem Ch:Lib.fs N.nj=some K.nj:=dM.Ch
theorem sG:Lib.fs N.fx=some K.fx:=dM.sG
theorem pz:Lib.fs N.cT=some K.cT:=dM.pz
theorem qk:Lib.fs N.dy=some K.dy:=dM.qk
theorem uN:Lib.fs N.di=some K.di:=dM.uN
theorem uO:Lib.fs N.gz=some K.gz:=dM.uO
theorem zK:Lib.fs N.lG=some K.lG:=dM.zK
theorem uP:Lib.fs N.hX=some K.hX:=dM.uP
theorem wU:Lib.fs N.kG=some K.kG:=dM.wU
theorem uQ:Lib.fs N.jf=some K.jf:=dM.uQ
theorem sH:Lib.fs N.bX=some K.bX:=dM.sH
theorem sI:Lib.fs N.fT=some K.fT:=dM.sI
theorem uR:Lib.fs N.fD=some K.fD:=dM.uR
end K
end Go.Ev
namespace Go.Ev.K
open Go.Ev
def sJ:C:= (.seq (.ite [m v4,f 0 v1,g l0,u (.ln l0),u (.bin .lss l3 l0)] [] 0 .skip (.exit 0)) (.seq (.blk 1 (.reg [f 0 v3,g l0,f 0 v1,g l0,m v4,a 2 l1 l0,h 2 l0,u (.ca N.bT 0 [] [.l 0]),u (.bs [.l 0] 2),u (.app l7 l0 true 2),f 0 v3,u (.st l0 l1 1 [])] [(1,8),(1,9)])) (.reg [m v4,u (.bin .add l0 (.i 1)),x 4 l0] [])))
def AP:C:= .loop true [0] K.sJ
def fE:Fn:= { av:=1,vars:=[0,1,2,3,4],body:=(q [w 1 (.bx v0 1),w 2 (.al [.nil] [])] [] (q [w 3 (.al [.nil] [(0,2)])] [] (.seq (q [x 4 (.i 0)] [] (.blk 0 K.AP)) (q [h 1 v3,u (.st v2 l0 1 [])] [] .ret)))),res:=[(2,some (1,true))]}
def jL:C:= (.seq (.ite [m v8,f 0 v7,g l0,u (.ln l0),u (.bin .lss l3 l0)] [] 0 .skip (.exit 2)) (.seq (.blk 3 (.ite [m v5,f 0 v7,g l0,m v8,a 1 l1 l0,g l0,u (.ca N.dP 0 [] [.l 5,.l 0]),u (.bin .lss l0 (.i 0)),m l0,y 0 false (.ld v2 2 true),y 1 false (.fa v7 1),i 2 false l0,e 3 false v8,y 4 false (.ia l1 l0 2),y 5 false (.ld l0 2 true),y 6 false (.ca N.gA 0 [] [.l 5,.l 0]),y 7 false (.un .not l0),u (.pk l8 (.b true) l0)] [] 0 (q [x 4 (.b false)] [] .ret) .skip)) (.reg [m v8,u (.bin .add l0 (.i 1)),x 8 l0] [])))
def sK:C:= .loop true [0,1,4] K.jL
def cG:C:= (.seq (.ite [m v6,f 0 v3,g l0,u (.ln l0),u (.bin .lss l3 l0)] [] 0 .skip (.exit 0)) (.seq (.blk 1 (q [f 0 v3,g l0,m v6,a 2 l1 l0,h 2 l0,w 7 (.al [.nil,.nil] []),u (.st l0 l1 2 [])] [] (.seq (.ite [f 0 v7,g l0,u (.ln l0),m v5,u (.ln l0),u (.bin .neq l2 l0),m l0,y 0 false (.fa v7 1),i 1 false l0,y 2 false (.ln l0),e 3 false v5,y 4 false (.ln l0),y 5 false (.bin .neq l2 l0),u (.pk l6 (.b true) l0),m l0,y 0 false (.fa v7 0),i 1 false l0,y 2 false (.ca N.fT 0 [] [.l 0]),y 3 false (.un .not l0),u (.pk l4 (.b true) l0),m l0,e 0 false v6,y 1 false (.bin .gtr l0 (.i 0)),e 2 false l0,y 0 true (.fa v3 0),i 1 true l0,e 2 true v6,y 3 true (.bin .sub l0 (.i 1)),y 4 true (.ia l2 l0 2),y 5 true (.fa l0 0),i 6 true l0,y 7 true (.fa v7 0),i 8 true l0,y 9 true (.ca N.jH 0 [] [.l 2,.l 0]),y 10 true (.un .not l0),y 14 false (.pk l11 l0 (.b false)),u (.pk (.l 15) (.b true) l0)] [] 0 (q [x 4 (.b false)] [] .ret) .skip) (q [x 8 (.i 0)] [] (.blk 2 K.sK))))) (.reg [m v6,u (.bin .add l0 (.i 1)),x 6 l0] [])))
def sL:C:= .loop true [0,1,4,7,8] K.cG
def dL:Fn:= { av:=2,vars:=[0,1,2,3,4,5,6,7,8],body:=(q [w 2 (.bx v0 2),w 3 (.bx v1 1),x 4 (.b false)] [] (.seq (.ite [f 0 v3,g l0,u (.ln l0),u (.bin .lss l0 (.i 1)),m l0,y 0 false (.fa v3 0),i 1 false l0,y 2 false (.ln l0),y 3 false (.bin .gtr l0 (.i 24)),u (.pk l4 (.b true) l0),m l0,y 0 false (.ld v2 2 true),y 1 false (.ca N.di 0 [] [.l 0]),y 2 false (.bin .neq l0 (.i 0)),u (.pk l3 (.b true) l0)] [] 0 (q [x 4 (.b false)] [] .ret) .skip) (q [f 0 v3,g l0,a 2 l0 (.i 0),f 0 l0,g l0,x 5 l0] [] (.seq (.ite [m v5,u (.ln l0),u (.bin .lss l0 (.i 1)),m l0,e 0 false v5,y 1 false (.ln l0),y 2 false (.bin .gtr l0 (.i 12)),u (.pk l3 (.b true) l0)] [] 0 (q [x 4 (.b false)] [] .ret) .skip) (.seq (q [x 6 (.i 0)] [] (.blk 0 K.sL)) (q [x 4 (.b true)] [] .ret)))))),res:=[(4,none)]}
def nB:C:= (.seq (.ite [m v4,f 1 v1,g l0,u (.ln l0),u (.bin .lss l3 l0)] [] 0 .skip (.exit 0)) (.seq (.blk 1 (.reg [f 1 v3,g l0,f 1 v1,g l0,m v4,a 2 l1 l0,h 2 l0,u (.ca N.dT 0 [] [.l 0]),u (.bs [.l 0] 2),u (.app l7 l0 true 2),f 1 v3,u (.st l0 l1 1 [])] [(1,8),(1,9)])) (.reg [m v4,u (.bin .add l0 (.i 1)),x 4 l0] [])))
def rW:C:= .loop true [0] K.nB
def bT:Fn:= { av:=1,vars:=[0,1,2,3,4],body:=(q [w 1 (.bx v0 2),w 2 (.al [.nil,.nil] [])] [] (q [f 0 v1,g l0,u (.app (.c (.nil)) l0 true 1),u (.bd [.nil,.nil] [(0,1,.l 0)]),w 3 (.al [.nil,.nil] [(1,2)]),u (.st l0 l1 2 [(1,2)])] [] (.seq (q [x 4 (.i 0)] [] (.blk 0 K.rW)) (q [h 2 v3,u (.st v2 l0 2 [])] [] .ret)))),res:=[(2,some (2,true))]}
def kL:C:= (.seq (.ite [m v6,f 1 v3,g l0,u (.ln l0),u (.bin .lss l3 l0),m l0,e 0 true v6,y 1 true (.fa v4 1),i 2 true l0,y 3 true (.ln l0),y 4 true (.bin .lss l3 l0),u (.pk l5 l0 (.b false))] [] 0 .skip (.exit 0)) (.seq (.blk 1 (.ite [f 1 v3,g l0,m v6,a 1 l1 l0,g l0,m v2,u (.bin .leq l1 l0),m l0,y 0 true (.fa v4 1),i 1 true l0,e 2 true v6,y 3 true (.ia l1 l0 1),i 4 true l0,e 5 true v2,y 6 true (.bin .leq l1 l0),u (.pk l7 l0 (.b false))] [] 0 (q [x 5 (.b true)] [] .ret) .skip)) (.reg [m v6,u (.bin .add l0 (.i 1)),x 6 l0] [])))
def AQ:C:= .loop true [0,1,5] K.kL
def kH:Fn:= { av:=3,vars:=[0,1,2,3,4,6,7],body:=(q [w 3 (.bx v0 2),w 4 (.bx v1 2),x 5 (.b false)] [] (.seq (q [x 6 (.i 0)] [] (.blk 0 K.AQ)) (q [x 5 (.b false)] [] .ret))),res:=[(5,none)]}
def fF:Fn:= { av:=2,vars:=[0,1,2,4,5],body:=(q [w 2 (.bx v0 2),w 3 (.al [z0,.nil] []),x 4 (.i 0)] [] (q [h 2 v2,u (.ca N.dT 0 [] [.l 0]),u (.st v2 l0 2 [])] [] (.seq (.ite [m v1,f 0 v2,g l0,u (.bin .lss l2 l0),m l0,e 0 false v1,y 1 false (.bin .gtr l0 (.i 2147483648)),u (.pk l2 (.b true) l0)] [] 0 (q [h 2 v2,u (.st v3 l0 2 []),x 4 (.i 8)] [] .ret) .skip) (q [m v1,f 0 v2,u (.st l0 l1 1 [])] [] (q [h 2 v2,u (.st v3 l0 2 []),x 4 (.i 0)] [] .ret))))),res:=[(3,some (2,true)),(4,none)]}
def m0:C:= (.seq (.ite [m v4,m v2,u (.ln l0),u (.bin .lss l2 l0),m l0,e 0 true v2,e 1 true v4,y 2 true (.ia l1 l0 2),y 3 true (.fa l0 0),i 4 true l0,e 5 true v0,e 6 true v3,y 7 true (.ia l1 l0 2),y 8 true (.fa l0 0),i 9 true l0,y 10 true (.ca N.jH 0 [] [.l 5,.l 0]),u (.pk l11 l0 (.b false))] [] 0 .skip (.exit 2)) (.blk 3 (.reg [m v4,u (.bin .add l0 (.i 1)),x 4 l0] [])))
def uS:C:= .loop false [1,5] K.m0
def pM:C:= (.seq (.ite [m v5,m v2,m v4,a 2 l1 l0,f 1 l0,g l0,u (.ln l0),u (.bin .lss l6 l0),m l0,e 0 true v5,e 1 true v0,e 2 true v3,y 3 true (.ia l1 l0 2),y 4 true (.fa l0 1),i 5 true l0,y 6 true (.ln l0),y 7 true (.bin .lss l6 l0),u (.pk l8 l0 (.b false))] [] 0 .skip (.exit 4)) (.seq (.blk 5 (.reg [m v2,m v4,a 2 l1 l0,f 1 l0,g l0,m v5,m v2,m v4,a 2 l1 l0,f 1 l0,g l0,m v5,a 2 l1 l0,h 2 l0,m v0,m v3,a 2 l1 l0,f 1 l0,g l0,m v5,a 2 l1 l0,h 2 l0,u (.ca N.jI 0 [] [.l 8,.l 0]),m l0,u (.ex l0 0),u (.ex l1 1),a 2 (.l 21) (.l 20),u (.st l0 l2 2 [])] [(2,23),(4,23)])) (.reg [m v5,u (.bin .add l0 (.i 1)),x 5 l0] [])))
def AR:C:= .loop false [1] K.pM
def fO:C:= (.seq (.ite [m v3,m v0,u (.ln l0),u (.bin .lss l2 l0)] [] 0 .skip (.exit 0)) (.seq (.blk 1 (q [x 4 (.i 0)] [] (.seq (.blk 2 K.uS) (.seq (.ite [m v4,m v2,u (.ln l0),u (.bin .lss l2 l0),m l0,e 0 true v2,e 1 true v4,y 2 true (.ia l1 l0 2),y 3 true (.fa l0 0),i 4 true l0,e 5 true v0,e 6 true v3,y 7 true (.ia l1 l0 2),y 8 true (.fa l0 0),i 9 true l0,y 10 true (.ca N.dB 0 [] [.l 5,.l 0]),u (.pk l11 l0 (.b false))] [] 0 (.seq (q [x 5 (.i 0)] [] (.blk 4 K.AR)) (.exit 1)) .skip) (.reg [m v2,m v4,u (.sc l1 none (some l0) 2),u (.app (.c (.nil)) l0 false 2),m v0,m v3,a 2 l1 l0,h 2 l0,u (.ca N.bT 1 [] [.l 0]),u (.bsr [.l 0] 2),u (.app l6 l0 false 2),m v2,m v4,u (.sc l1 (some l0) none 2),u (.app l3 l0 false 2),x 2 l0] [(6,0),(7,0),(13,0),(13,4),(13,9),(13,10)]))))) (.reg [m v3,u (.bin .add l0 (.i 1)),x 3 l0] [])))
def AS:C:= .loop false [1,4,5] K.fO
def kI:Fn:= { av:=1,vars:=[0,2,3,4,5,6],body:=(q [w 1 (.mv (.c (.nil)))] [] (q [w 2 (.mv (.c (.nil)))] [] (.seq (q [x 3 (.i 0)] [] (.blk 0 K.AS)) (q [m v2,x 1 l0] [] .ret)))),res:=[(1,none)]}
def fG:Fn:= { av:=3,vars:=[0,1,2,3,4,6],body:=(q [w 3 (.bx v0 2),w 4 (.bx v1 1),x 5 (.i 0)] [] (.seq (.ite [h 2 v3,h 1 v4,u (.ca N.dL 0 [] [.l 1,.l 0]),u (.un .not l0)] [] 0 (q [x 5 (.i 6)] [] .ret) .skip) (.seq (.ite [f 0 v4,g l0,a 2 l0 (.i 0),f 0 l0,g l0,m v2,u (.ca N.dP 0 [] [.l 1,.l 0]),u (.bin .lss l0 (.i 0))] [] 0 (q [x 5 (.i 41)] [] .ret) .skip) (q [x 5 (.i 0)] [] .ret)))),res:=[(5,none)]}
def nq:C:= (.seq (.ite [m v3,m v0,u (.ln l0),u (.bin .lss l2 l0)] [] 0 .skip (.exit 0)) (.seq (.blk 1 (.ite [m v0,m v3,a 1 l1 l0,g l0,m v1,u (.bin .eql l1 l0)] [] 0 (q [m v3,x 2 l0] [] .ret) .skip)) (.reg [m v3,u (.bin .add l0 (.i 1)),x 3 l0] [])))
def wV:C:= .loop true [2] K.nq
def dP:Fn:= { av:=2,vars:=[0,1,4,5],body:=(q [x 2 (.i 0)] [] (.seq (q [x 3 (.i 0)] [] (.blk 0 K.wV)) (q [w 2 (.mv (.i (-1)))] [] .ret))),res:=[(2,none)]}
def qD:C:= (.seq (.ite [m v12,m v2,u (.ln l0),u (.bin .lss l2 l0)] [] 0 .skip (.exit 0)) (.seq (.blk 1 (q [m v2,m v12,a 1 l1 l0,g l0,x 13 l0] [] (.ite [f 1 v6,g l0,m v13,a 1 l1 l0,g l0,m v4,u (.bin .leq l1 l0)] [] 0 (.reg [m v10,m v13,f 1 v6,g l0,m v13,a 1 l1 l0,g l0,a 1 l6 l5,u (.st l0 l1 1 []),x 11 (.b true)] []) .skip))) (.reg [m v12,u (.bin .add l0 (.i 1)),x 12 l0] [])))
def Dj:C:= .loop true [0,1,8,9,13] K.qD
def kx:Fn:= { av:=5,vars:=[0,1,2,3,4,5,6,10,11,12,13,14,15,16],body:=(q [w 5 (.bx v0 2),w 6 (.bx v1 2),w 7 (.al [z0,.nil] []),x 8 (.i 0)] [] (.seq (q [h 2 v5,h 2 v6,m v2,m v3,m v4,u (.ca N.dk 0 [] [.l 4,.l 3,.l 2,.l 1,.l 0]),x 9 l0] [] (.ite [m v9,u (.bin .neq l0 (.i 0))] [] 0 (q [h 2 v6,u (.ca N.dT 0 [] [.l 0]),m v9,u (.st v7 l1 2 []),x 8 l1] [] .ret) .skip)) (.seq (.ite [m v3,f 0 v6,g l0,u (.bin .lss l2 l0)] [] 0 (q [h 2 v6,u (.ca N.dT 0 [] [.l 0]),u (.st v7 l0 2 []),x 8 (.i 42)] [] .ret) .skip) (q [f 0 v5,g l0,u (.ln l0),u (.ca N.ic 1 [] [.l 0]),x 10 l0] [] (q [x 11 (.b false)] [] (.seq (q [x 12 (.i 0)] [] (.blk 0 K.Dj)) (.seq (.ite [m v11,u (.un .not l0)] [] 0 (q [h 2 v6,u (.ca N.dT 0 [] [.l 0]),u (.st v7 l0 2 []),x 8 (.i 43)] [] .ret) .skip) (q [m v4,h 2 v5,m v10,m v3,u (.ca N.fH 0 [] [.l 2,.l 1,.l 0]),u (.bd [z0,.nil] [(0,1,.l 4),(1,1,.l 0)]),u (.st v7 l0 2 []),x 8 (.i 0)] [] .ret)))))))),res:=[(7,some (2,true)),(8,none)]}
def ql:C:= (.seq (.ite [m v12,m v2,u (.ln l0),u (.bin .lss l2 l0)] [] 0 .skip (.exit 0)) (.seq (.blk 1 (.reg [m v11,m v2,m v12,a 1 l1 l0,g l0,a 1 l4 l0,u (.st l0 (.i 1099511627776) 1 [])] [])) (.reg [m v12,u (.bin .add l0 (.i 1)),x 12 l0] [])))
def wW:C:= .loop true [0,1,3,7,9,10] K.ql
def dQ:Fn:= { av:=6,vars:=[0,1,2,3,4,5,6,7,12,13,14,15,16],body:=(q [w 6 (.bx v0 2),w 7 (.bx v1 2),w 8 (.al [z0,.nil] []),x 9 (.i 0)] [] (.seq (q [h 2 v6,h 2 v7,m v2,m v3,m v4,u (.ca N.dk 0 [] [.l 4,.l 3,.l 2,.l 1,.l 0]),x 10 l0] [] (.ite [m v10,u (.bin .neq l0 (.i 0))] [] 0 (q [h 2 v7,u (.ca N.dT 0 [] [.l 0]),m v10,u (.st v8 l1 2 []),x 9 l1] [] .ret) .skip)) (.seq (.ite [m v5,u (.ca N.ez 0 [] [.l 0]),u (.un .not l0)] [] 0 (q [h 2 v7,u (.ca N.dT 0 [] [.l 0]),u (.st v8 l0 2 []),x 9 (.i 8)] [] .ret) .skip) (.seq (.ite [m v4,f 0 v7,g l0,u (.bin .lss l2 l0)] [] 0 (q [h 2 v7,u (.ca N.dT 0 [] [.l 0]),u (.st v8 l0 2 []),x 9 (.i 42)] [] .ret) .skip) (.seq (.ite [m v4,m v3,f 0 v7,g l0,u (.mx [.l 2,.l 0]),u (.bin .sub l4 l0),m v5,u (.bin .leq l1 l0)] [] 0 (q [h 2 v7,u (.ca N.dT 0 [] [.l 0]),u (.st v8 l0 2 []),x 9 (.i 0)] [] .ret) .skip) (q [f 1 v7,g l0,u (.app (.c (.nil)) l0 true 1),x 11 l0] [] (.seq (q [x 12 (.i 0)] [] (.blk 0 K.wW)) (q [m v4,h 2 v6,h 2 v6,m v11,m v4,m v5,u (.bin .sub l1 l0),m v2,u (.ca N.gB 0 [3] [.l 5,.l 4,.l 1,.l 0]),m v4,u (.ca N.fH 0 [] [.l 8,.l 1,.l 0]),u (.bd [z0,.nil] [(0,1,.l 10),(1,1,.l 0)]),u (.st v8 l0 2 []),x 9 (.i 0)] [(1,9)] .ret)))))))),res:=[(8,some (2,true)),(9,none)]}
def oI:C:= (.its [u (.bin .lss v6 v5)] [] 0 .skip (.exit 0) (.seq (.blk 1 (q [m v6,x 4 l0] [] (.ite [m v1,m v4,u (.cw l1 0 [] [.l 0])] [] 0 (.reg [m v3,m v4,u (.bs [.l 0] 1),u (.app l2 l0 true 1),x 3 l0] []) .skip))) (.reg [u (.bin .add v6 (.i 1)),x 6 l0] [])))
def yR:C:= .loop true [0,2,4] K.oI
def dj:Fn:= { av:=2,vars:=[0,1,4,5,6,7,8],body:=(q [w 2 (.mv (.c (.nil)))] [] (q [w 3 (.nw 1)] [] (.seq (q [x 5 v0,x 6 (.i 0)] [] (.blk 0 K.yR)) (q [m v3,x 2 l0] [] .ret)))),res:=[(2,none)]}
def dz:Fn:= { av:=3,vars:=[0,1,2,4],body:=(q [x 3 (.b false)] [] (q [f 1 v1,g l0,m v0,a 1 l1 l0,g l0,g v2,u (.bin .leq l1 l0),x 3 l0] [] .ret)),res:=[(3,none)]}
def aq:Fn:= { av:=2,vars:=[0,1,4],body:=(q [x 2 (.b false)] [] (q [m v0,m v1,u (.ca N.bL 0 [] [.l 1,.l 0]),u (.bin .geq l0 (.i 0)),x 2 l0] [] .ret)),res:=[(2,none)]}
def cj:Fn:= { av:=2,vars:=[0,1,3],body:=(q [x 2 (.b false)] [] (q [g v1,m v0,u (.ca N.aO 0 [] [.l 1,.l 0]),x 2 l0] [] .ret)),res:=[(2,none)]}
def aO:Fn:= { av:=2,vars:=[0,1,4],body:=(q [x 2 (.b false)] [] (q [m v0,m v1,u (.ca N.b7 0 [] [.l 1,.l 0]),u (.bin .geq l0 (.i 0)),x 2 l0] [] .ret)),res:=[(2,none)]}
def cC:Fn:= { av:=4,vars:=[0,1,2,3,5],body:=(q [x 4 (.b false)] [] (q [h 1 v1,m v0,g v2,u (.ca N.dA 0 [] [.l 2,.l 1,.l 0]),f 2 v3,g l0,u (.ca N.cT 0 [] [.l 2,.l 0]),x 4 l0] [(5,0)] .ret)),res:=[(4,none)]}
def dA:Fn:= { av:=3,vars:=[0,1,2,3,4,5,6],body:=(q [w 3 (.bx v0 1),w 4 (.bx v1 1),w 5 (.bx v2 1),w 6 (.mv (.c (.nil)))] [] (q [u (.mf N.cD [.v 3,.v 4,.v 5]),u (.ca N.dj 0 [] [.i 64,.l 0]),x 6 l0] [] .ret)),res:=[(6,none)]}
def jG:Fn:= { av:=3,vars:=[0,1,2,3,6],body:=(q [w 3 (.bx v0 2),x 4 (.b false)] [] (q [m v1,f 0 v3,g l0,u (.bin .leq l2 l0),m l0,y 0 true (.fa v3 0),i 1 true l0,y 2 true (.fa v3 1),i 3 true l0,y 4 true (.bin .leq l2 l0),u (.pk l5 l0 (.b false)),m l0,y 0 true (.fa v3 1),i 1 true l0,e 2 true v2,y 3 true (.bin .leq l1 l0),u (.pk l4 l0 (.b false)),x 4 l0] [] .ret)),res:=[(4,none)]}
def kJ:Fn:= { av:=1,vars:=[0,1,2],body:=(q [w 1 (.bx v0 2),x 2 (.b false)] [] (q [f 0 v1,g l0,u (.bin .geq l0 (.i (-1125899906842624))),m l0,y 0 true (.fa v1 1),i 1 true l0,y 2 true (.bin .leq l0 (.i 1125899906842624)),u (.pk l3 l0 (.b false)),m l0,y 0 true (.fa v1 0),i 1 true l0,y 2 true (.fa v1 1),i 3 true l0,y 4 true (.bin .leq l2 l0),u (.pk l5 l0 (.b false)),x 2 l0] [] .ret)),res:=[(2,none)]}
def ez:Fn:= { av:=1,vars:=[0,2],body:=(q [x 1 (.b false)] [] (q [m v0,u (.bin .geq l0 (.i 0)),m l0,e 0 true v0,y 1 true (.bin .leq l0 (.i 2147483648)),u (.pk l2 l0 (.b false)),x 1 l0] [] .ret)),res:=[(1,none)]}
def qY:C:= (.seq (.ite [m v3,m v0,u (.bin .lss l1 l0)] [] 0 .skip (.exit 0)) (.seq (.blk 1 (.reg [m v2,u (.bs [.i 1099511627776] 1),u (.app l1 l0 true 1),x 2 l0] [])) (.reg [m v3,u (.bin .add l0 (.i 1)),x 3 l0] [])))
def yS:C:= .loop true [1] K.qY
def ic:Fn:= { av:=1,vars:=[0,2,3,4],body:=(q [w 1 (.mv (.c (.nil)))] [] (q [w 2 (.nw 1)] [] (.seq (q [x 3 (.i 0)] [] (.blk 0 K.yS)) (q [m v2,x 1 l0] [] .ret)))),res:=[(1,none)]}
def fH:Fn:= { av:=3,vars:=[0,1,2,3,6],body:=(q [w 3 (.bx v0 2),w 4 (.mv (.c (.nil)))] [] (q [h 2 v3,m v1,m v2,u (.ca N.gB 0 [3] [.l 2,.l 1,.l 0,.c (.nil)]),x 4 l0] [] .ret)),res:=[(4,none)]}
def kM:C:= (.seq (.ite [m v3,m v0,u (.ln l0),u (.bin .lss l2 l0),m l0,e 0 true v3,e 1 true v1,y 2 true (.ln l0),y 3 true (.bin .lss l2 l0),u (.pk l4 l0 (.b false))] [] 0 .skip (.exit 0)) (.seq (.blk 1 (.ite [m v0,m v3,a 1 l1 l0,g l0,m v1,m v3,a 1 l1 l0,g l0,u (.bin .neq l4 l0)] [] 0 (q [m v0,m v3,a 1 l1 l0,g l0,m v1,m v3,a 1 l1 l0,g l0,u (.bin .lss l4 l0),x 2 l0] [] .ret) .skip)) (.reg [m v3,u (.bin .add l0 (.i 1)),x 3 l0] [])))
def AT:C:= .loop true [2] K.kM
def jH:Fn:= { av:=2,vars:=[0,1,4,5],body:=(q [x 2 (.b false)] [] (.seq (q [x 3 (.i 0)] [] (.blk 0 K.AT)) (q [m v0,u (.ln l0),m v1,u (.ln l0),u (.bin .lss l2 l0),x 2 l0] [] .ret))),res:=[(2,none)]}
def gA:Fn:= { av:=2,vars:=[0,1,2,3,4],body:=(q [w 2 (.bx v0 2),w 3 (.bx v1 2),x 4 (.b false)] [] (q [h 2 v2,u (.ca N.di 0 [] [.l 0]),u (.bin .eql l0 (.i 0)),m l0,y 0 true (.ld v3 2 true),y 1 true (.fa v2 0),i 2 true l0,y 3 true (.ln l0),y 4 true (.ca N.fI 0 [] [.l 3,.l 0]),u (.pk l5 l0 (.b false)),m l0,y 0 true (.ld v2 2 true),y 1 true (.fa v3 1),i 2 true l0,y 3 true (.fa v3 0),i 4 true l0,y 5 true (.ca N.fH 0 [] [.l 4,.l 2,.l 0]),y 6 true (.fa v3 1),i 7 true l0,y 8 true (.ca N.dB 0 [] [.l 2,.l 0]),u (.pk l9 l0 (.b false)),x 4 l0] [(18,9)] .ret)),res:=[(4,none)]}
def dT:Fn:= { av:=1,vars:=[0,1,2],body:=(q [w 1 (.bx v0 2),w 2 (.al [z0,.nil] [])] [] (q [f 0 v1,g l0,f 1 v1,g l0,u (.app (.c (.nil)) l0 true 1),u (.bd [z0,.nil] [(0,1,.l 3),(1,1,.l 0)]),u (.st v2 l0 2 [])] [(1,5)] .ret)),res:=[(2,some (2,true))]}
def lx:C:= (.seq (.ite [m v3,m v0,u (.ln l0),u (.bin .lss l2 l0)] [] 0 .skip (.exit 0)) (.seq (.blk 1 (.ite [m v0,m v3,a 1 l1 l0,g l0,m v1,m v3,a 1 l1 l0,g l0,u (.bin .neq l4 l0)] [] 0 (q [x 2 (.b false)] [] .ret) .skip)) (.reg [m v3,u (.bin .add l0 (.i 1)),x 3 l0] [])))
def tM:C:= .loop true [2] K.lx
def dB:Fn:= { av:=2,vars:=[0,1,4,5],body:=(q [x 2 (.b false)] [] (.seq (.ite [m v0,u (.ln l0),m v1,u (.ln l0),u (.bin .neq l2 l0)] [] 0 (q [x 2 (.b false)] [] .ret) .skip) (.seq (q [x 3 (.i 0)] [] (.blk 0 K.tM)) (q [x 2 (.b true)] [] .ret)))),res:=[(2,none)]}
def sM:C:= (.seq (.ite [m v7,f 1 v2,g l0,u (.ln l0),u (.bin .lss l3 l0)] [] 0 .skip (.exit 0)) (.seq (.blk 1 (.reg [f 1 v6,g l0,f 1 v2,g l0,m v7,a 1 l1 l0,g l0,f 1 v3,g l0,m v7,a 1 l1 l0,g l0,u (.mn [.l 5,.l 0]),u (.bs [.l 0] 1),u (.app (.l 12) l0 true 1),f 1 v6,u (.st l0 l1 1 [])] [(1,14)])) (.reg [m v7,u (.bin .add l0 (.i 1)),x 7 l0] [])))
def AU:C:= .loop true [0,1,5] K.sM
def jI:Fn:= { av:=2,vars:=[0,1,2,3,4,5,6,7],body:=(q [w 2 (.bx v0 2),w 3 (.bx v1 2),w 4 (.al [z0,.nil] []),x 5 (.i 0)] [] (.seq (.ite [f 1 v2,g l0,u (.ln l0),f 1 v3,g l0,u (.ln l0),u (.bin .neq l3 l0)] [] 0 (q [u (.bd [z0,.nil] []),u (.st v4 l0 2 []),x 5 (.i 6)] [] .ret) .skip) (q [f 0 v2,g l0,f 0 v3,g l0,u (.mx [.l 2,.l 0]),u (.bd [z0,.nil] [(0,1,.l 0)]),w 6 (.al [z0,.nil] [(1,1)]),u (.st l0 l1 2 [(1,1)])] [] (.seq (q [x 7 (.i 0)] [] (.blk 0 K.AU)) (q [h 2 v6,u (.st v4 l0 2 []),x 5 (.i 0)] [] .ret))))),res:=[(4,some (2,true)),(5,none)]}
def dk:Fn:= { av:=5,vars:=[0,1,2,3,4,5,6,10],body:=(q [w 5 (.bx v0 2),w 6 (.bx v1 2),x 7 (.i 0)] [] (.seq (.ite [h 2 v5,h 2 v6,u (.ca N.gA 0 [] [.l 1,.l 0]),u (.un .not l0),m l0,e 0 false v2,y 1 false (.ln l0),y 2 false (.bin .eql l0 (.i 0)),u (.pk l3 (.b true) l0),m l0,e 0 false v2,y 1 false (.fa v5 0),i 2 false l0,y 3 false (.ln l0),y 4 false (.ca N.lG 0 [] [.l 3,.l 0]),y 5 false (.un .not l0),u (.pk l6 (.b true) l0)] [] 0 (q [x 7 (.i 6)] [] .ret) .skip) (.seq (.ite [m v3,u (.ca N.ez 0 [] [.l 0]),u (.un .not l0),m l0,e 0 false v4,y 1 false (.ca N.ez 0 [] [.l 0]),y 2 false (.un .not l0),u (.pk l3 (.b true) l0),m l0,e 0 false v3,e 1 false v4,y 2 false (.bin .gtr l1 l0),u (.pk l3 (.b true) l0)] [] 0 (q [x 7 (.i 8)] [] .ret) .skip) (q [x 7 (.i 0)] [] .ret)))),res:=[(7,none)]}
def fU:C:= (.seq (.ite [m v8,f 1 v4,g l0,u (.ln l0),u (.bin .lss l3 l0)] [] 0 .skip (.exit 2)) (.seq (.blk 3 (q [f 1 v4,g l0,m v8,a 10 l1 l0,h 10 l0,w 9 (.al [z0,z0,z0,z0,z1,z1,z0,z0,z0,z0] []),u (.st l0 l1 10 [])] [] (.seq (.ite [m v3,u (.eqk (.sl) false l0 (.c (.nil))),m l0,e 0 false v3,y 1 false (.fa v9 1),i 2 false l0,y 3 false (.ca N.jE 0 [] [.l 2,.l 0]),u (.pk l4 (.b true) l0),m l0,e 0 true v6,y 1 true (.fa v9 0),i 2 true l0,y 3 true (.fa v9 1),i 4 true l0,y 5 true (.ld v4 2 true),e 6 true v8,y 7 true (.ca N.jJ 0 [] [.l 1,.l 0,.b false]),e 8 true v2,y 9 true (.ca N.eu 0 [0] [.l 8,.l 6,.l 4,.l 1,.l 0]),u (.pk l10 l0 (.b false))] [(11,17),(13,17)] 0 (.reg [x 7 (.b true)] []) .skip) (.ite [m v3,u (.eqk (.sl) false l0 (.c (.nil))),m l0,e 0 false v3,y 1 false (.fa v9 0),i 2 false l0,y 3 false (.ca N.jE 0 [] [.l 2,.l 0]),u (.pk l4 (.b true) l0),m l0,e 0 true v6,y 1 true (.fa v9 1),i 2 true l0,y 3 true (.fa v9 0),i 4 true l0,y 5 true (.ld v4 2 true),e 6 true v8,y 7 true (.ca N.jJ 0 [] [.l 1,.l 0,.b true]),e 8 true v2,y 9 true (.ca N.eu 0 [0] [.l 8,.l 6,.l 4,.l 1,.l 0]),u (.pk l10 l0 (.b false))] [(11,17),(13,17)] 0 (.reg [x 7 (.b true)] []) .skip)))) (.reg [m v8,u (.bin .add l0 (.i 1)),x 8 l0] [])))
def yT:C:= .loop true [0,1,5,9] K.fU
def oJ:C:= (.seq (.ite [m v7] [] 0 .skip (.exit 0)) (.blk 1 (q [x 7 (.b false)] [] (q [x 8 (.i 0)] [] (.blk 2 K.yT)))))
def yU:C:= .loop true [0,1,5,8,9] K.oJ
def gB:Fn:= { av:=4,vars:=[0,1,2,3,4,8,9,10,11,12],body:=(q [w 4 (.bx v0 2),w 5 (.mv (.c (.nil)))] [] (q [m v1,u (.app (.c (.nil)) l0 true 1),x 6 l0] [] (.seq (q [x 7 (.b true)] [] (.blk 0 K.yU)) (q [m v6,x 5 l0] [] .ret)))),res:=[(5,none)]}
def eH:C:= (.its [u (.bin .lss v5 v4)] [] 0 .skip (.exit 0) (.seq (.blk 1 (q [m v5,x 3 l0] [] (.ite [m v1,m v0,m v3,a 1 l1 l0,g l0,u (.cw l4 0 [] [.l 0])] [] 0 (q [m v3,x 2 l0] [] .ret) .skip))) (.reg [u (.bin .add v5 (.i 1)),x 5 l0] [])))
def lH:C:= .loop true [2,3] K.eH
def bL:Fn:= { av:=2,vars:=[0,1,4,5,7,8],body:=(q [x 2 (.i 0)] [] (.seq (q [m v0,w 4 (.ln l0),x 5 (.i 0)] [] (.blk 0 K.lH)) (q [w 2 (.mv (.i (-1)))] [] .ret))),res:=[(2,none)]}
def gv:C:= (.its [u (.bin .lss v5 v4)] [] 0 .skip (.exit 0) (.seq (.blk 1 (q [m v5,x 3 l0] [] (.ite [m v1,m v0,m v3,a 1 l1 l0,g l0,u (.bin .eql l4 l0)] [] 0 (q [m v3,x 2 l0] [] .ret) .skip))) (.reg [u (.bin .add v5 (.i 1)),x 5 l0] [])))
def oK:C:= .loop true [2,3] K.gv
def b7:Fn:= { av:=2,vars:=[0,1,4,5,7,8],body:=(q [x 2 (.i 0)] [] (.seq (q [m v0,w 4 (.ln l0),x 5 (.i 0)] [] (.blk 0 K.oK)) (q [w 2 (.mv (.i (-1)))] [] .ret))),res:=[(2,none)]}
def cD:Fn:= { av:=4,vars:=[0,1,2,3,4,5],body:=(q [w 4 (.bx v0 1),x 5 (.b false)] [] (q [f 0 v1,g l0,u (.mf N.bN [.v 2,.v 4,.v 3]),u (.ca N.ax 0 [] [.l 1,.l 0]),x 5 l0] [] .ret)),res:=[(5,none)]}
def ax:Fn:= { av:=2,vars:=[0,1,4],body:=(q [x 2 (.b false)] [] (q [m v0,m v1,u (.ca N.aN 0 [] [.l 1,.l 0]),u (.bin .geq l0 (.i 0)),x 2 l0] [] .ret)),res:=[(2,none)]}
def bN:Fn:= { av:=4,vars:=[0,1,2,3,4,5],body:=(q [w 4 (.bx v0 2),x 5 (.b false)] [] (q [g v1,f 1 v4,g l0,u (.ln l0),u (.bin .sub l0 (.i 1)),u (.ca N.aU 0 [] [.l 4,.i 0,.l 0]),m l0,i 0 true v2,y 1 true (.fa v4 1),i 2 true l0,i 3 true v1,y 4 true (.ia l1 l0 2),y 5 true (.fa l0 1),i 6 true l0,y 7 true (.ln l0),y 8 true (.bin .lss l7 l0),u (.pk l9 l0 (.b false)),m l0,y 0 true (.fa v4 1),i 1 true l0,i 2 true v1,y 3 true (.ia l1 l0 2),y 4 true (.fa l0 1),i 5 true l0,i 6 true v2,y 7 true (.ia l1 l0 1),i 8 true l0,i 9 true v3,y 10 true (.bin .leq l1 l0),u (.pk l11 l0 (.b false)),x 5 l0] [] .ret)),res:=[(5,none)]}
def aU:Fn:= { av:=3,vars:=[0,1,2,6],body:=(q [x 3 (.b false)] [] (q [m v0,m v1,u (.bin .geq l1 l0),m l0,e 0 true v0,e 1 true v2,y 2 true (.bin .leq l1 l0),u (.pk l3 l0 (.b false)),x 3 l0] [] .ret)),res:=[(3,none)]}
def jM:C:= (.seq (.ite [m v4,f 1 v2,g l0,u (.ln l0),u (.bin .lss l3 l0)] [] 0 .skip (.exit 0)) (.seq (.blk 1 (.ite [f 1 v2,g l0,m v4,a 1 l1 l0,g l0,u (.bin .neq l0 (.i 1099511627776)),m l0,y 0 true (.fa v2 1),i 1 true l0,e 2 true v4,y 3 true (.ia l1 l0 1),i 4 true l0,y 5 true (.bin .lss l0 (.i 0)),e 6 true l0,y 0 false (.fa v2 1),i 1 false l0,e 2 false v4,y 3 false (.ia l1 l0 1),i 4 false l0,y 5 false (.bin .gtr l0 (.i 2147483648)),y 13 true (.pk l6 (.b true) l0),u (.pk (.l 14) l0 (.b false))] [] 0 (q [x 3 (.b false)] [] .ret) .skip)) (.reg [m v4,u (.bin .add l0 (.i 1)),x 4 l0] [])))
def yV:C:= .loop true [0,1,3] K.jM
def fI:Fn:= { av:=2,vars:=[0,1,2,4,5],body:=(q [w 2 (.bx v0 2),x 3 (.b false)] [] (.seq (.ite [f 1 v2,g l0,u (.ln l0),m v1,u (.bin .neq l1 l0),m l0,y 0 false (.fa v2 0),i 1 false l0,y 2 false (.bin .lss l0 (.i 0)),u (.pk l3 (.b true) l0),m l0,y 0 false (.fa v2 0),i 1 false l0,y 2 false (.bin .gtr l0 (.i 2147483648)),u (.pk l3 (.b true) l0)] [] 0 (q [x 3 (.b false)] [] .ret) .skip) (.seq (q [x 4 (.i 0)] [] (.blk 0 K.yV)) (q [x 3 (.b true)] [] .ret)))),res:=[(3,none)]}
def eu:Fn:= { av:=5,vars:=[0,1,2,3,4,10,11],body:=(q [x 5 (.b false)] [] (.seq (.ite [m v3,u (.bin .lss l0 (.i 0)),m l0,e 0 false v0,e 1 false v1,y 2 false (.ia l1 l0 1),i 3 false l0,y 4 false (.bin .geq l0 (.i 1099511627776)),u (.pk l5 (.b true) l0)] [] 0 (q [x 5 (.b false)] [] .ret) .skip) (q [m v4,m v0,m v1,a 1 l1 l0,g l0,m v3,u (.bin .add l1 l0),u (.mx [.l 6,.l 0]),x 6 l0] [] (.seq (.ite [m v6,u (.bin .gtr l0 (.i 2147483648)),m l0,e 0 false v6,e 1 false v0,e 2 false v2,y 3 false (.ia l1 l0 1),i 4 false l0,y 5 false (.bin .geq l4 l0),u (.pk l6 (.b true) l0)] [] 0 (q [x 5 (.b false)] [] .ret) .skip) (q [m v0,m v2,m v6,a 1 l2 l1,u (.st l0 l1 1 [])] [] (q [x 5 (.b true)] [] .ret)))))),res:=[(5,none)]}
def jJ:Fn:= { av:=3,vars:=[0,1,2,3,6],body:=(q [w 3 (.bx v0 2),x 4 (.i 0)] [] (q [h 2 v3,m v1,m v2,u (.ca N.cK 0 [] [.l 2,.l 1,.l 0,.i 6,.i 9,.i 12]),x 4 l0] [] .ret)),res:=[(4,none)]}
def b9:C:= (.its [u (.bin .lss v5 v4)] [] 0 .skip (.exit 0) (.seq (.blk 1 (q [m v5,x 3 l0] [] (.ite [m v1,m v0,m v3,a 2 l1 l0,h 2 l0,u (.cw l4 0 [] [.l 0])] [] 0 (q [m v3,x 2 l0] [] .ret) .skip))) (.reg [u (.bin .add v5 (.i 1)),x 5 l0] [])))
def fV:C:= .loop true [2,3] K.b9
def aN:Fn:= { av:=2,vars:=[0,1,4,5,7,8],body:=(q [x 2 (.i 0)] [] (.seq (q [m v0,w 4 (.ln l0),x 5 (.i 0)] [] (.blk 0 K.fV)) (q [w 2 (.mv (.i (-1)))] [] .ret))),res:=[(2,none)]}
def cK:Fn:= { av:=6,vars:=[0,1,2,3,4,5,6,12,13,14,15,16,17],body:=(q [w 6 (.bx v0 2),x 7 (.i 0)] [] (.seq (.ite [h 2 v6,u (.ca N.di 0 [] [.l 0]),u (.bin .neq l0 (.i 0)),m l0,e 0 false v1,y 1 false (.bin .lss l0 (.i 0)),u (.pk l2 (.b true) l0),m l0,e 0 false v1,y 1 false (.fa v6 1),i 2 false l0,y 3 false (.ln l0),y 4 false (.bin .geq l3 l0),u (.pk l5 (.b true) l0),m l0,y 0 false (.fa v6 1),i 1 false l0,e 2 false v1,y 3 false (.ia l1 l0 10),y 4 false (.fa l0 5),i 5 false l0,u (.pk l6 (.b true) l0),m l0,y 0 false (.fa v6 1),i 1 false l0,e 2 false v1,y 3 false (.ia l1 l0 10),y 4 false (.fa l0 4),i 5 false l0,y 6 false (.un .not l0),u (.pk l7 (.b true) l0)] [] 0 (q [w 7 (.mv (.i (-1)))] [] .ret) .skip) (q [f 1 v6,g l0,m v1,a 10 l1 l0,h 10 l0,w 8 (.al [z0,z0,z0,z0,z1,z1,z0,z0,z0,z0] []),u (.st l0 l1 10 [])] [] (q [h 10 v8,m v2,u (.ca N.kK 0 [] [.l 1,.l 0]),m l0,u (.ex l0 0),u (.ex l1 1),x 9 l1,x 10 l1] [] (q [f 0 v6,g l0,m v10,a 2 l1 l0,f 0 l0,g l0,f 0 v6,g l0,m v9,a 2 l1 l0,f 0 l0,g l0,u (.bin .sub l6 l0),x 11 l0] [] (q [m v5,x 12 l0] [] (.seq (.ite [m v11,u (.bin .mul (.i 10) l0),f 2 v8,g l0,u (.bin .gtr l2 l0)] [] 0 (.reg [m v3,x 12 l0] []) .skip) (.seq (.ite [m v11,u (.bin .mul (.i (-10)) l0),f 2 v8,g l0,u (.bin .gtr l2 l0)] [] 0 (.reg [m v4,x 12 l0] []) .skip) (q [f 2 v8,g l0,u (.bin .mul (.i 10) l0),m v12,u (.bin .add l1 l0),u (.bin .sub l0 (.i 1)),m v12,u (.bin .quo l1 l0),x 7 l0] [] .ret))))))))),res:=[(7,none)]}
def kK:Fn:= { av:=2,vars:=[0,1,2,4,5],body:=(q [w 2 (.bx v0 10),x 3 (.i 0),x 4 (.i 0)] [] (.seq (.ite [m v1] [] 0 (q [f 1 v2,g l0,f 0 v2,g l0,x 3 l2,x 4 l1] [] .ret) .skip) (q [f 0 v2,g l0,f 1 v2,g l0,x 3 l2,x 4 l1] [] .ret))),res:=[(3,none),(4,none)]}
end Go.Ev.K
namespace Go.Ev
class dh [Lib]:Prop where
 rX:Lib.fs N.fE=some K.fE
 uT:Lib.fs N.dL=some K.dL
 mD:Lib.fs N.bT=some K.bT
 wX:Lib.fs N.kH=some K.kH
 uU:Lib.fs N.fF=some K.fF
 wY:Lib.fs N.kI=some K.kI
 uV:Lib.fs N.fG=some K.fG
 sN:Lib.fs N.dP=some K.dP
 zL:Lib.fs N.kx=some K.kx
 sO:Lib.fs N.dQ=some K.dQ
 uW:Lib.fs N.dj=some K.dj
 qm:Lib.fs N.dz=some K.dz
 gC:Lib.fs N.aq=some K.aq
 nC:Lib.fs N.cj=some K.cj
 jg:Lib.fs N.aO=some K.aO
 oL:Lib.fs N.cC=some K.cC
 qn:Lib.fs N.dA=some K.dA
 wZ:Lib.fs N.jG=some K.jG
 w6:Lib.fs N.kJ=some K.kJ
 sP:Lib.fs N.ez=some K.ez
 uX:Lib.fs N.ic=some K.ic
 uY:Lib.fs N.fH=some K.fH
 w7:Lib.fs N.jH=some K.jH
 uZ:Lib.fs N.gA=some K.gA
 w8:Lib.fs N.dT=some K.dT
 qo:Lib.fs N.dB=some K.dB
 w9:Lib.fs N.jI=some K.jI
 vd:Lib.fs N.dk=some K.dk
 ve:Lib.fs N.gB=some K.gB
 iD:Lib.fs N.bL=some K.bL
 kU:Lib.fs N.b7=some K.b7
 oM:Lib.fs N.cD=some K.cD
 c8:Lib.fs N.ax=some K.ax
 mR:Lib.fs N.bN=some K.bN
 Ci:Lib.fs N.aU=some K.aU
 vf:Lib.fs N.fI=some K.fI
 vg:Lib.fs N.eu=some K.eu
 xa:Lib.fs N.jJ=some K.jJ
 dF:Lib.fs N.aN=some K.aN
 sQ:Lib.fs N.cK=some K.cK
 xb:Lib.fs N.kK=some K.kK
namespace K
variable [Lib] [dh]
theorem rX:Lib.fs N.fE=some K.fE:=dh.rX
theorem uT:Lib.fs N.dL=some K.dL:=dh.uT
theorem mD:Lib.fs N.bT=some K.bT:=dh.mD
theorem wX:Lib.fs N.kH=some K.kH:=dh.wX
theorem uU:Lib.fs N.fF=some K.fF:=dh.uU
theorem wY:Lib.fs N.kI=some K.kI:=dh.wY
theorem uV:Lib.fs N.fG=some K.fG:=dh.uV
theorem sN:Lib.fs N.dP=some K.dP:=dh.sN
theorem zL:Lib.fs N.kx=some K.kx:=dh.zL
theorem sO:Lib.fs N.dQ=some K.dQ:=dh.sO
theorem uW:Lib.fs N.dj=some K.dj:=dh.uW
theorem qm:Lib.fs N.dz=some K.dz:=dh.qm
theorem gC:Lib.fs N.aq=some K.aq:=dh.gC
theorem nC:Lib.fs N.cj=some K.cj:=dh.nC
theorem jg:Lib.fs N.aO=some K.aO:=dh.jg
theorem oL:Lib.fs N.cC=some K.cC:=dh.oL
theorem qn:Lib.fs N.dA=some K.dA:=dh.qn
theorem wZ:Lib.fs N.jG=some K.jG:=dh.wZ
theorem w6:Lib.fs N.kJ=some K.kJ:=dh.w6
theorem sP:Lib.fs N.ez=some K.ez:=dh.sP
theorem uX:Lib.fs N.ic=some K.ic:=dh.uX
theorem uY:Lib.fs N.fH=some K.fH:=dh.uY
theorem w7:Lib.fs N.jH=some K.jH:=dh.w7
theorem uZ:Lib.fs N.gA=some K.gA:=dh.uZ
theorem w8:Lib.fs N.dT=some K.dT:=dh.w8
theorem qo:Lib.fs N.dB=some K.dB:=dh.qo
theorem w9:Lib.fs N.jI=some K.jI:=dh.w9
theorem vd:Lib.fs N.dk=some K.dk:=dh.vd
theorem ve:Lib.fs N.gB=some K.gB:=dh.ve
theorem iD:Lib.fs N.bL=some K.bL:=dh.iD
theorem kU:Lib.fs N.b7=some K.b7:=dh.kU
theorem oM:Lib.fs N.cD=some K.cD:=dh.oM
theorem c8:Lib.fs N.ax=some K.ax:=dh.c8
theorem mR:Lib.fs N.bN=some K.bN:=dh.mR
theorem Ci:Lib.fs N.aU=some K.aU:=dh.Ci
theorem vf:Lib.fs N.fI=some K.fI:=dh.vf
theorem vg:Lib.fs N.eu=some K.eu:=dh.vg
theorem xa:Lib.fs N.jJ=some K.jJ:=dh.xa
theorem dF:Lib.fs N.aN=some K.aN:=dh.dF
theorem sQ:Lib.fs N.cK=some K.cK:=dh.sQ
theorem xb:Lib.fs N.kK=some K.kK:=dh.xb
end K
end Go.Ev
namespace Go.Ev
open Go
variable [Lib]
noncomputable def aW:bf:=qR Lib.fs
theorem aA{raw f:Nat}{args:List D}{H:ao}{fn:Fn}{r:D×ao}(hf:Lib.fs f=some fn)(hn:fn.av=args.length)
 (h:(exS aW fn.body ⟨yD args fn.vars,H⟩).bind (aj6 fn.res H.length raw)=some r) (h0:fn.prim=[]:=by rfl):aW raw f args H=some r:=aaX hf hn h h0
theorem TX{raw f:Nat}{args:List D}{H:ao}{fn:Fn}{r:D×ao}(hf:Lib.fs f=some fn)(h0:fn.prim≠[])(h:B3 fn.prim args H=some r):aW raw f args H=some r:=Rb hf h0 h
theorem dm{gc:Bool}{dead:List Nat}{c:C}{vs:List D}{H:ao}(s:Nat→St)(n:Nat){e:Ex}{st:St}
 (h0:(⟨ov dead vs,H⟩:St)=s 0) (h:∀j,j<n→gF gc dead (s j).H.length (exS aW c (s j))=some (s (j+1)))
 (he:exS aW c (s n)=some (e,st)) (hn:e≠ .normal):exS aW (.loop gc dead c) ⟨vs,H⟩=some (e,st):=by
 show qQ gc dead (exS aW c) ⟨ov dead vs,H⟩=_
 rw[h0]
 exact Ez s n h (fC he hn)
theorem Fp{gc:Bool}{dead:List Nat}{c:C}{vs:List D}{H:ao}{p:Ex×St}(h:qQ gc dead (exS aW c) ⟨ov dead vs,H⟩=some p):exS aW (.loop gc dead c) ⟨vs,H⟩=some p:=h
class Dat (α:Type) where
 dflt:α
instance : Dat Int := ⟨0⟩
instance : Dat Nat := ⟨0⟩
instance : Dat Bool := ⟨false⟩
instance {α : Type} : Dat (List α) := ⟨[]⟩
def nth{α:Type} [Dat α](l:List α)(j:Nat):α:=l.getD j Dat.dflt
theorem oN{α:Type} [Dat α]{l:List α}{j:Nat}(h:j<l.length):l[j]?=some (nth l j):=by simp[nth,h]
theorem iE{α β:Type} [Dat α](f:α→β){l:List α}{j:Nat}(h:j<l.length):(l.map f)[j]?=some (f (nth l j)):=by rw[aLn,oN h];rfl
theorem P8{α β γ:Type} [Dat α](f:β→γ)(g:α→β){l:List α}{j:Nat}(h:j<l.length):((l.map g).map f)[j]?=some (f (g (nth l j))):=by rw[aLn,iE g h];rfl
theorem ai{α:Type} [Dat α]{l:List α}{j:Nat}(h:j<l.length):nth l j∈l:=aLd (oN h)
theorem bY{α:Type} [Dat α]{l:List α}{j:Nat}{x:α}(h:l[j]?=some x):nth l j=x:=by simp[nth,h]
theorem yd{α:Type} [Dat α]{l:List α}{j:Nat}(h:j<l.length):l.take (j+1)=l.take j++[nth l j]:=by
 rw[List.take_succ_eq_append_getElem h];simp[nth,h]
theorem aok{a b:Int}(h:a<b):(a<b)=True:=by simp[h]
theorem aol{a b:Int}(h:b≤a):(a<b)=False:=by simp[Int.not_lt.2 h]
theorem aom{a b:Int}(h:a≤b):(a≤b)=True:=by simp[h]
theorem aon{a b:Int}(h:b<a):(a≤b)=False:=by simp[Int.not_le.2 h]
theorem aoo{a b:Int}(h:a=b):(a=b)=True:=by simp[h]
theorem aop{a b:Int}(h:a≠b):(a=b)=False:=by simp[h]
theorem aoq{a b:Nat}(h:a<b):(a<b)=True:=by simp[h]
theorem aor{a b:Nat}(h:b≤a):(a<b)=False:=by simp[Nat.not_lt.2 h]
theorem aos{a b:Nat}(h:a≤b):(a≤b)=True:=by simp[h]
theorem aot{a b:Nat}(h:b<a):(a≤b)=False:=by simp[Nat.not_le.2 h]
theorem aou{a b:Nat}(h:a=b):(a=b)=True:=by simp[h]
theorem aov{a b:Nat}(h:a≠b):(a=b)=False:=by simp[h]
attribute [go_sem] aou aov aok aol aom aon aoo aop aoq aor aos aot Cg iE P8 abc
@[go_sem] theorem Rl (a b : Nat) : ((a + b : Nat) : Int) = (a : Int) + (b : Int) := (rfl)
@[go_sem] theorem Rm : ((1 : Nat) : Int) = 1 := (rfl)
@[go_sem] theorem Oe : ((0 : Nat) : Int) = 0 := (rfl)
@[go_sem] theorem aiM (a b : Int) : a + b - b = a := Int.add_sub_cancel a b
@[go_sem] theorem Zc : (0 : Int).toNat = 0 := (rfl)
@[go_sem] theorem abP (n : Nat) : (n : Int).toNat = n := (rfl)
@[go_sem] theorem abQ (n : Nat) : ((n : Int) + 1).toNat = n + 1 := (rfl)
@[go_sem] theorem abR (a : Int) : 0 + a = a := Int.zero_add a
@[go_sem] theorem abS (a : Int) : a + 0 = a := Int.add_zero a
@[go_sem] theorem abT (a : Int) : a - 0 = a := Int.sub_zero a
abbrev tI(n:Int):T:= .int .i64 n
abbrev tL(l:List Int):T:= .sl (l.map (.int .i64))
@[go_sem] theorem Xm (H : ao) (n : Nat) (ts : List T) (x : T) : cO (frz H n) (ts.map .t ++ [.t x]) = some (ts ++ [x]) := by
 have:ts.map D.t++[.t x]=(ts++[x]).map .t:=by simp
 rw[this,Rg]
@[go_sem] theorem Zd {α β : Type} (f : α → β) (a b : List α) : (a ++ b).map f = a.map f ++ b.map f := List.map_append
end Go.Ev
namespace Go.Ev
open Go
variable [Lib] [dM] [dh]
def Mod(n m:Int):Int:=if m<1 then 0 else if n.tmod m<0 then n.tmod m+m else n.tmod m
theorem aiN(n m:Int):0≤Mod n m:=by
 unfold Mod
 split
 · omega
 · have h5:=Int.lt_tmod_of_pos n (b:=m) (by omega)
   split<;>omega
theorem aiO(n m:Int)(h:1≤m):Mod n m<m:=by
 unfold Mod
 rw[if_neg (by omega)]
 have h3:=Int.tmod_lt_of_pos n (b:=m) (by omega)
 split<;>omega
theorem aiP(n m:Int)(hm:m≤4611686018427387904):aW 0 N.nj [I n,I m] []=some (I (Mod n m),[]):=by
 refine aA K.Ch rfl ?_
 unfold Mod
 by_cases h1:m<1
 · simp only[go_sem,K.nj,h1,↓reduceIte]
 · have h2:m≠0:=by omega
   have h3:=Int.tmod_lt_of_pos n (b:=m) (by omega)
   have h5:=Int.lt_tmod_of_pos n (b:=m) (by omega)
   by_cases h4:n.tmod m<0
   · simp(disch:=omega)only[go_sem,K.nj,h1,↓reduceIte,h2,h4]
   · simp(disch:=omega)only[go_sem,K.nj,h1,↓reduceIte,h2,h4]
theorem Xn(l:List Int):aW 0 N.kF [.t (tL l)] []=some (B (decide (l.length≤400)),[]):=by
 refine aA K.wT rfl ?_
 simp(disch:=omega)only[go_sem,K.kF,↓reduceIte]
 simp only[show((l.length:Int)≤400)=(l.length≤400)by rw[eq_iff_iff];omega]
structure aD where
 L:List Int
 at_:Nat
def aD.obj(d:aD):Obj:= .box [.t (tL d.L),I d.at_]
def aD.dC(d:aD):Prop:=d.L.length≤400
def aD.next(d:aD)(n:Int):Int×aD:=if d.at_<d.L.length then(Mod (nth d.L d.at_) n,⟨d.L,d.at_+1⟩)else(0,d)
theorem aD.Ze(d:aD)(n:Int):(d.next n).2.L=d.L:=by unfold aD.next;split<;>rfl
theorem aD.aZ{d:aD}(h:d.dC)(n:Int):(d.next n).2.dC:=by unfold aD.dC;rw[d.Ze];exact h
theorem aD.dN(d:aD)(n:Int):0≤(d.next n).1:=by unfold aD.next;split<;>simp[aiN]
theorem aD.dV(d:aD){n:Int}(h:1≤n):(d.next n).1<n:=by unfold aD.next;split<;>simp[aiO _ _ h];omega
theorem gJ(d:aD)(n:Int)(hn:n≤4611686018427387904)(hd:d.dC):aW 0 N.aC [.bp 0 0,I n] [d.obj]=some (I (d.next n).1,[(d.next n).2.obj]):=by
 refine aA K.qh rfl ?_
 have hm:=aiP (nth d.L d.at_) n hn
 unfold aD.dC at hd
 unfold aD.next aD.obj
 by_cases h1:d.at_<d.L.length
 · simp(disch:=omega)only[go_sem,K.aC,↓reduceIte,↓if_pos,↓if_neg,Int.add_sub_cancel,hm,Int.natCast_add]
 · simp(disch:=omega)only[go_sem,K.aC,↓reduceIte,↓if_pos,↓if_neg]
@[go_sem] theorem alz (d : aD) : P6 (some d.obj) = [] := by simp only [aD.obj, go_sem]
@[go_sem] theorem alA (f : Nat → Option Nat) (d : aD) : jW f d.obj = some d.obj := by simp only [aD.obj, go_sem]
@[go_sem] theorem alB (k : Nat) (d : aD) (r : ao) : iC k (d.obj :: r) = iC k r := by simp only [aD.obj, go_sem]
def aD.one(d:aD)(n:Int):Bool×aD:=(decide ((d.next n).1=n-1),(d.next n).2)
theorem aD.xc{d:aD}(h:d.dC)(n:Int):(d.one n).2.dC:=aD.aZ h n
theorem P9(d:aD)(n:Int)(h1:0≤n)(hn:n≤4611686018427387904)(hd:d.dC):aW 0 N.dE [.bp 0 0,I n] [d.obj]=some (B (d.one n).1,[(d.one n).2.obj]):=by
 refine aA K.qX rfl ?_
 have hm:=gJ d n hn hd
 unfold aD.one
 simp(disch:=omega)only[go_sem,K.dE,↓reduceIte,hm]
def aD.of(d:aD)(l:List Int):Int×aD:=(nth l (d.next l.length).1.toNat,(d.next l.length).2)
theorem aD.ly{d:aD}(h:d.dC)(l:List Int):(d.of l).2.dC:=aD.aZ h _
theorem aD.qZ(d:aD){l:List Int}(h:l≠[]):(d.of l).1∈l:=by
 unfold aD.of
 have hl:0<l.length:=List.length_pos_iff.2 h
 have:=d.dN l.length
 have:=d.dV (n:=l.length) (by omega)
 exact ai (by omega)
theorem LN(d:aD)(l:List Int)(hl:l≠[])(hl2:l.length≤4294967296)(hd:d.dC):aW 0 N.cA [.bp 0 0,.t (tL l)] [d.obj]=some (I (d.of l).1,[(d.of l).2.obj]):=by
 refine aA K.sD rfl ?_
 have hm:=gJ d l.length (by omega) hd
 have h0:0<l.length:=List.length_pos_iff.2 hl
 have h1:=d.dN l.length
 have h2:=d.dV (n:=l.length) (by omega)
 unfold aD.of
 simp(disch:=omega)only[go_sem,K.cA,↓reduceIte,hm]
def aD.rN(d:aD):Nat→List Int×aD
 | 0=>([],d)
 | k+1=>(if((d.rN k).2.next 3).1=0 then(d.rN k).1++[(k:Int)]else(d.rN k).1,((d.rN k).2.next 3).2)
theorem aD.q0{d:aD}(h:d.dC):∀n,(d.rN n).2.dC
 | 0=>h
 | n+1=>aD.aZ (aD.q0 h n) 3
theorem aD.Fq(d:aD):∀n,(d.rN n).1.length≤n
 | 0=>aLs _
 | n+1=>by
   have:=d.Fq n
   unfold aD.rN
   simp only
   split<;>simp<;>omega
theorem abU(d:aD)(n:Nat)(hn:n≤1000000)(hd:d.dC):aW 0 N.dU [.bp 0 0,I n] [d.obj]=some (.t (tL (d.rN n).1),[(d.rN n).2.obj]):=by
 refine aA K.qi rfl ?_
 have hlen:=d.Fq
 have loop:exS aW K.tJ ⟨[.bp 0 0,I n,.nil,.ref 1 0 0,I 0],[d.obj,.arr 1 false 0 []]⟩=
  some (.exit 0,⟨[.bp 0 0,I n,.und,.ref 1 0 (d.rN n).1.length,I n],[(d.rN n).2.obj,.arr 1 false 0 (((d.rN n).1.map (T.int .i64)).map .t)]⟩):=by
  refine dm (fun j=>⟨[.bp 0 0,I n,.und,.ref 1 0 (d.rN j).1.length,I j],[(d.rN j).2.obj,.arr 1 false 0 (((d.rN j).1.map (T.int .i64)).map .t)]⟩) n rfl ?_ ?_ (by simp)
  · intro j hj
    have hm:=gJ (d.rN j).2 3 (by omega) (aD.q0 hd j)
    have:=hlen j
    by_cases h:((d.rN j).2.next 3).1=0
    · simp(disch:=omega)only[go_sem,K.lu,hm,h,aD.rN,↓reduceIte]
    · simp(disch:=omega)only[go_sem,K.lu,hm,h,aD.rN,↓reduceIte]
  · simp(disch:=omega)only[go_sem,K.lu,↓reduceIte]
 simp(disch:=omega)only[go_sem,K.dU,↓reduceIte,loop]
theorem cL{gc:Bool}{dead:List Nat}{c:C}{vs:List D}{H:ao}(s:Nat→St)(n:Nat)(p:Nat→Bool)(e:Nat→Ex×St)(eN:Ex×St)
 (h0:(⟨ov dead vs,H⟩:St)=s 0) (hs:∀j,j<n→p j=false→gF gc dead (s j).H.length (exS aW c (s j))=some (s (j+1)))
 (he:∀j,j<n→p j=true→exS aW c (s j)=some (e j)∧(e j).1≠ .normal) (hN:exS aW c (s n)=some eN) (hn:eN.1≠ .normal):
 exS aW (.loop gc dead c) ⟨vs,H⟩=some (match (List.range n).find? p with | some j=>e j | none=>eN):=by
 show qQ gc dead (exS aW c) ⟨ov dead vs,H⟩=_
 rw[h0]
 cases hf:(List.range n).find? p with
 | none=>
   refine Ez s n (fun j hj=>hs j hj ?_) (fC hN hn)
   have:=List.find?_eq_none.1 hf j (aLu.2 hj)
   simpa using this
 | some k=>
   obtain⟨h1,as,bs,h2,h3⟩:=List.find?_eq_some_iff_append.1 hf
   have hk:k<n:=aLu.1 (List.mem_of_find?_eq_some hf)
   have hlt:∀j,j<k→p j=false:=by
    intro j hj
    have hlen:as.length=k:=by
     have h4:(List.range n)[as.length]?=some k:=by rw[h2];simp
     have h5:as.length<n:=by
      have:=congrArg List.length h2;simp at this;omega
     rw[aLp h5]at h4
     exact Option.some.inj h4
    have:j∈as:=by
     have h6:(List.range n)[j]?=some j:=aLp (by omega)
     rw[h2,aLg (by omega)]at h6
     exact aLd h6
    simpa using h3 j this
   obtain⟨k1,k2⟩:=he k hk h1
   exact Ez s k (fun j hj=>hs j (by omega) (hlt j hj)) (fC k1 k2)
def ef{α:Type}(f:α→α×Bool):Nat→α→α
 | 0,l=>l
 | n+1,l=>if(f l).2 then ef f n (f l).1 else(f l).1
theorem IE{α:Type}{gc:Bool}{dead:List Nat}{c:C}{vs:List D}{H:ao}(S:α→Bool→St)(E:α→Ex×St)(f:α→α×Bool)(inv:α→Prop)(mes:α→Nat)
 (hinv:∀l,inv l→inv (f l).1∧((f l).2=true→mes (f l).1<mes l))
 (hs:∀l,inv l→gF gc dead (S l true).H.length (exS aW c (S l true))=some (S (f l).1 (f l).2))
 (he:∀l,inv l→exS aW c (S l false)=some (E l)∧(E l).1≠ .normal) (l:α) (hl:inv l) (h0:(⟨ov dead vs,H⟩:St)=S l true):
 exS aW (.loop gc dead c) ⟨vs,H⟩=some (E (ef f (mes l+1) l))∧inv (ef f (mes l+1) l):=by
 have key:∀(n:Nat) (l:α),inv l→mes l<n→qQ gc dead (exS aW c) (S l true)=some (E (ef f n l))∧inv (ef f n l):=by
  intro n
  induction n with
  | zero=>intro l _ h;omega
  | succ n ih=>
    intro l hl hm
    obtain⟨h1,h2⟩:=hinv l hl
    have hr:=hs l hl
    cases hf:(f l).2 with
    | true=>
      rw[hf]at hr
      obtain⟨k1,k2⟩:=ih (f l).1 h1 (by have:=h2 hf;omega)
      simp only[ef,hf,if_true]
      exact⟨nO hr k1,k2⟩
    | false=>
      rw[hf]at hr
      obtain⟨k1,k2⟩:=he (f l).1 h1
      simp only[ef,hf,aLt,if_false]
      exact⟨nO hr (fC k1 k2),h1⟩
 have:=key (mes l+1) l hl (Nat.lt_succ_self _)
 show qQ gc dead (exS aW c) ⟨ov dead vs,H⟩=_∧_
 rw[h0];exact this
theorem Qa{n:Nat}{p:Nat→Bool}:((List.range n).find? p).isSome=(List.range n).any p:=by
 rw[List.isSome_find?]
theorem Fs{n j:Nat}{p:Nat→Bool}(h:(List.range n).find? p=some j):j<n∧p j=true:=⟨aLu.1 (List.mem_of_find?_eq_some h),List.find?_some h⟩
def fB(m:Nat):List D:=(List.range m).map fun i=> .bp i 0
def aT(bs:List (List T)):ao:=bs.map fun cs=> .box (cs.map .t)
theorem IF{bs:List (List T)}{i:Nat}(h:i<bs.length):(aT bs)[i]?=some (.box (bs[i].map .t)):=by simp[aT,h]
theorem gX(bs:List (List T)):(aT bs).length=bs.length:=by simp[aT]
theorem Cj:∀(l sel:List Nat),(sel++l).Nodup→gM sel l=sel++l
 | [],sel,_=>by simp[gM]
 | i::r,sel,h=>by
   have:sel.contains i=false:=by
    rw[← Bool.not_eq_true,List.contains_iff_mem]
    intro hm
    have:=List.nodup_append.1 h
    exact this.2.2 i hm i List.mem_cons_self rfl
   simp only[gM,this,aLt,if_false]
   rw[Cj r (sel++[i]) (by simpa using h)]
   simp
theorem Dk:∀(l:List Nat) (i k:Nat),l.Nodup→l[k]?=some i→idxOf l i=some k
 | [],i,k,_,h=>by simp at h
 | a::l,i,0,_,h=>by simp at h;simp[idxOf,h]
 | a::l,i,k+1,hn,h=>by
   simp at h
   have hne:a≠i:=fun e=>(List.nodup_cons.1 hn).1 (e▸aLd h)
   simp only[idxOf,if_neg hne,Dk l i k (List.nodup_cons.1 hn).2 h,aLw]
theorem Of{m i:Nat}(h:i<m):idxOf (List.range m) i=some i:=Dk _ _ _ List.nodup_range (aLp h)
theorem Og{α:Type}{f:α→Option α}:∀ {l:List α},(∀x∈l,f x=some x)→cO f l=some l
 | [],_=>rfl
 | a::l,h=>by
   simp only[cO,h a List.mem_cons_self,aLq,Og fun x hx=>h x (List.mem_cons_of_mem _ hx),aLw]
theorem Oh(f:Nat→Option Nat)(cs:List T):jW f (.box (cs.map .t))=some (.box (cs.map .t)):=by
 simp only[Rk,yc,aLw]
theorem LO{H:ao}:∀ {l:List Nat} {hs:ao},l.length=hs.length→(∀(k i:Nat) (o:Obj),l[k]?=some i→hs[k]?=some o→H[i]?=some o)→pick H l=some hs
 | [],[],_,_=>rfl
 | [],_::_,h,_=>by simp at h
 | _::_,[],h,_=>by simp at h
 | i::l,o::hs,h,hg=>by
   rw[TU,hg 0 i o rfl rfl,aLq,Xi,LO (l:=l) (hs:=hs) (by simpa using h) fun k i o hk ho=>hg (k+1) i o (by simpa using hk) (by simpa using ho)]
   rfl
theorem Dl{H:ao}:∀ {l:List Nat} {os:ao},(∀(k i:Nat) (o:Obj),l[k]?=some i→os[k]?=some o→H[i]?=some o)→et H l os=H
 | [],os,_=>by cases os<;>rfl
 | i::l,[],_=>rfl
 | i::l,o::os,hg=>by
   simp only[et]
   rw[P3 (hg 0 i o rfl rfl)]
   exact Dl fun k i o hk ho=>hg (k+1) i o (by simpa using hk) (by simpa using ho)
theorem LP(call:bf)(bs:List (List T))(E:ao)(f raw:Nat)(args:List D){r:D}(h:call raw f args (aT bs)=some (r,aT bs))(hr:DP r=true)
 (ha:∀H:ao,uA H [] 0 args=some args∧dD H [] 0 args=[]) (hids:gM [] (Fo 8 args)=List.range bs.length)
 (hren:cO (ren (idxOf (List.range bs.length)) 8) args=some args):Rf (aT bs++E) call f raw [] args=some (r,aT bs++E):=by
 generalize hH:aT bs++E=H
 have hget:∀i (hi:i<bs.length),H[i]?=some (.box (bs[i].map .t)):=fun i hi=>by
  rw[← hH,aLg (by rw[gX];exact hi),IF hi]
 obtain⟨ha,hfz⟩:=ha H
 have hno:tx H (List.range bs.length)=[]:=by
  simp only[tx,List.flatMap_eq_nil_iff,aLu]
  intro i hi
  rw[hget i hi]
  exact P4 8 bs[i]
 have hsel:reach H 3 (List.range bs.length)=List.range bs.length:=by
  simp only[reach,hno,gM]
 have hget2:∀(k i:Nat) (o:Obj),(List.range bs.length)[k]?=some i→(aT bs)[k]?=some o→H[i]?=some o:=by
  intro k i o hk ho
  have hkl:k<bs.length:=by have:=(aLe.1 hk).1;simpa using this
  rw[aLp hkl]at hk
  cases hk
  rw[IF hkl]at ho
  rw[hget k hkl,←ho]
 have hpick:pick H (List.range bs.length)=some (aT bs):=LO (by simp[gX]) hget2
 have hro:∀f:Nat→Option Nat,cO (jW f) (aT bs)=some (aT bs):=fun f=>Og fun o ho=>by
  simp only[aT,List.mem_map]at ho
  obtain⟨cs,_,rfl⟩:=ho
  exact Oh f cs
 have hput:et H (List.range bs.length) (aT bs)=H:=Dl hget2
 rw[W8,W9,ha,aLq,Xa,hids,hsel,Xb,hren,aLq,hfz,Xc]
 simp only[pins]
 rw[hpick,aLq,Xd,hro,aLq,Xe,h,aLq]
 cases hb:bs with
 | nil=>
   subst hb
   have hrr:=JC (f:=gu [] H.length) hr
   simp only[depth]at hrr
   simp only[List.length_nil,List.range_zero,aT,List.map_nil]
   unfold zG
   split
   · rfl
   · rw[P2,hrr,aLq,P1]
     simp[cO,Xf,et]
 | cons b bt=>
   rw[← hb]
   have hne:List.range bs.length=0::(List.range' 1 bt.length):=by rw[hb];simp[List.range_eq_range',List.range'_succ]
   have hrr:=JC (f:=gu (List.range bs.length) H.length) hr
   simp only[depth]at hrr
   have hw:zG H H (List.range bs.length) (r,aT bs)=JD H H.length (List.range bs.length) (r,aT bs):=by
    rw[hne];rfl
   rw[hw,P2,hrr,aLq,P1,hro,aLq,Xg,List.length_range,List.take_of_length_le (by rw[gX];exact aLs _),hput,
    List.drop_eq_nil_of_le (by rw[gX];exact aLs _),List.append_nil]
theorem Oi(H:ao)(cs:List D)(hc:∀i,uA H [] i cs=some cs∧dD H [] i cs=[]):∀(ts:List T) (i:Nat),uA H [] i (ts.map .t++cs)=some (ts.map .t++cs)∧dD H [] i (ts.map .t++cs)=[]
 | [],i=>hc i
 | t::ts,i=>by
   obtain⟨h1,h2⟩:=Oi H cs hc ts (i+1)
   simp only[List.map_cons,List.cons_append,ID,wO,Nx,Y8,aij,aLq,TR,h1,h2,aiA,TP]
   exact⟨rfl,rfl⟩
theorem LQ(H:ao):∀(l:List Nat) (i:Nat),uA H [] i (l.map fun i=> .bp i 0)=some (l.map fun i=> .bp i 0)∧dD H [] i (l.map fun i=> .bp i 0)=[]
 | [],i=>⟨rfl,rfl⟩
 | a::l,i=>by
   obtain⟨h1,h2⟩:=LQ H l (i+1)
   simp only[List.map_cons,ID,wO,Nx,Y8,abu,aLq,TR,h1,h2,aiA,abA]
   exact⟨rfl,rfl⟩
theorem LR(n m:Nat):Fo n (fB m)=List.range m:=by
 simp only[Fo,fB,List.flatMap_map]
 have:∀l:List Nat,(l.flatMap fun a=>ids n (.bp a 0))=l:=by
  intro l
  induction l with
  | nil=>rfl
  | cons a l ih=>rw[List.flatMap_cons,ih,aiE];rfl
 exact this _
theorem Qb(n m:Nat):cO (ren (idxOf (List.range m)) n) (fB m)=some (fB m):=Og fun d hd=>by
 simp only[fB,List.mem_map,aLu]at hd
 obtain⟨k,hk,rfl⟩:=hd
 rw[aiI,Of hk];rfl
theorem JG{α β:Type}{f:α→Option β}:∀ {a b:List α} {x y:List β},cO f a=some x→cO f b=some y→cO f (a++b)=some (x++y)
 | [],b,x,y,h1,h2=>by simp[cO]at h1;subst h1;exact h2
 | c::a,b,x,y,h1,h2=>by
   simp only[cO,aLa,aLb]at h1
   obtain⟨z,hz,r,hr,rfl⟩:=h1
   simp only[List.cons_append,cO,hz,aLq,JG hr h2,aLw]
theorem TY(call:bf)(bs:List (List T))(E:ao)(f raw:Nat)(ts:List T){r:D}(h:call raw f (ts.map .t++fB bs.length) (aT bs)=some (r,aT bs))(hr:DP r=true):
 Rf (aT bs++E) call f raw [] (ts.map .t++fB bs.length)=some (r,aT bs++E):=
 LP call bs E f raw _ h hr (fun H=>Oi H _ (LQ H _) ts 0)
  (by rw[P5,P4,List.nil_append,LR,Cj _ _ (by simpa using List.nodup_range),List.nil_append])
  (JG (yc _ _ _) (Qb _ _))
theorem abV(call:bf)(bs:List (List T))(E:ao)(g f raw:Nat)(ts:List T){r:D}(h:call raw f (ts.map .t++[.fn g (fB bs.length)]) (aT bs)=some (r,aT bs))(hr:DP r=true):
 Rf (aT bs++E) call f raw [] (ts.map .t++[.fn g (fB bs.length)])=some (r,aT bs++E):=
 LP call bs E f raw _ h hr (fun H=>Oi H _ (fun i=>⟨rfl,rfl⟩) ts 0)
  (by rw[P5,P4,List.nil_append,TS,aiF,LR,Xh,List.append_nil,Cj _ _ (by simpa using List.nodup_range),List.nil_append])
  (JG (yc _ _ _) (by rw[LH,aiL,Qb];rfl))
theorem LS{f:Nat}{bs:List (List T)}{x:T}{r:D}(E:ao)(h:aW 0 f (.t x::fB bs.length) (aT bs)=some (r,aT bs))(hr:DP r=true):
 Rf (aT bs++E) aW f 0 [] (.t x::fB bs.length)=some (r,aT bs++E):=TY aW bs E f 0 [x] h hr
theorem nQ{f:Nat}{bs:List (List T)}{x:T}{r:D}(h:aW 0 f (.t x::fB bs.length) (aT bs)=some (r,aT bs))(hr:DP r=true):
 Rf (aT bs) aW f 0 [] (.t x::fB bs.length)=some (r,aT bs):=by
 have:=LS [] h hr;rwa [List.append_nil]at this
theorem ye(call:bf)(bs:List (List T))(g f raw:Nat)(x:T){r:D}(h:call raw f [.t x,.fn g (fB bs.length)] (aT bs)=some (r,aT bs))(hr:DP r=true):
 Rf (aT bs) call f raw [] [.t x,.fn g (fB bs.length)]=some (r,aT bs):=by
 have:=abV call bs [] g f raw [x] h hr
 rwa [List.append_nil]at this
section
variable (bs : List (List T)) (o o' : Obj)
@[go_sem] theorem Xo : (aT bs).length = bs.length := gX bs
@[go_sem] theorem afr : (aT bs ++ [o])[bs.length]? = some o := by
 rw[aLh (by rw[gX];exact aLs _),gX];simp
@[go_sem] theorem aiQ : (aT bs ++ [o]).set bs.length o' = aT bs ++ [o'] := by
 rw[List.set_append_right _ _ (by rw[gX];exact aLs _),gX];simp
@[go_sem] theorem afs : (aT bs ++ [o]).take bs.length = aT bs := by
 rw[List.take_append_of_le_length (by rw[gX];exact aLs _),List.take_of_length_le (by rw[gX];exact aLs _)]
@[go_sem] theorem abW : (aT bs ++ [o]).take (bs.length + 1) = aT bs ++ [o] := List.take_of_length_le (by simp [gX])
@[go_sem] theorem abX : (aT bs).take bs.length = aT bs := List.take_of_length_le (by simp [gX])
@[go_sem] theorem abY (k : Nat) (a b : ao) : iC k (a ++ b) = (iC k a && iC k b) := by
 rw[← qK,←qK,←qK,List.all_append]
@[go_sem] theorem Xp (k : Nat) : iC k (aT bs) = true := by
 induction bs with
 | nil=>rfl
 | cons b r ih=>
   show(jq k 8 (b.map .t)&&iC k (aT r))=true
   rw[PZ,ih];rfl
@[go_sem] theorem alC (n : Nat) : ltB n (n + 1) = true := by rw [uK]; simp
@[go_sem] theorem alD (n : Nat) : ltB n n = false := by rw [uK]; simp
theorem Dm(k n m:Nat)(h:m≤k):jq k n (fB m)=true:=by
 unfold jq fB
 rw[aLx]
 intro d hd
 obtain⟨i,hi,rfl⟩:=List.mem_map.1 hd
 rw[aik,uK]
 have:=aLu.1 hi
 simp;omega
@[go_sem] theorem abZ (n m : Nat) : jq m n (fB m) = true := Dm _ _ _ (aLs _)
@[go_sem] theorem Zf (n m : Nat) : jq (m + 1) n (fB m) = true := Dm _ _ _ (Nat.le_succ _)
end
def nS(n:Nat)(p:Nat→Bool):List Int:=((List.range n).filter p).map (fun(i:Nat)=>(i:Int))
theorem Ft(n:Nat)(p:Nat→Bool):nS (n+1) p=if p n=true then nS n p++[(n:Int)]else nS n p:=by
 unfold nS
 rw[List.range_succ,List.filter_append,List.map_append]
 by_cases h:p n=true<;>simp[h]
theorem Ck(n:Nat)(p:Nat→Bool):(nS n p).length≤n:=by
 unfold nS
 rw[List.length_map]
 have:=List.length_filter_le p (List.range n)
 simpa using this
theorem JH(n:Nat)(hn:n≤1000000)(f:Nat)(bs:List (List T))(p:Nat→Bool)(h:∀k,k<n→aW 0 f (I k::fB bs.length) (aT bs)=some (B (p k),aT bs)):
 aW 0 N.dj [I n,.fn f (fB bs.length)] (aT bs)=some (.t (tL (nS n p)),aT bs):=by
 refine aA K.uW rfl ?_
 have hlen:=fun k=>Ck k p
 have loop:exS aW K.yR ⟨[I n,.fn f (fB bs.length),.nil,.ref bs.length 0 0,.und,I n,I 0],aT bs++[.arr 1 false 0 []]⟩=
  some (.exit 0,⟨[.und,.fn f (fB bs.length),.und,.ref bs.length 0 (nS n p).length,.und,I n,I n],aT bs++[.arr 1 false 0 (((nS n p).map (T.int .i64)).map .t)]⟩):=by
  refine dm (fun j=>⟨[.und,.fn f (fB bs.length),.und,.ref bs.length 0 (nS j p).length,.und,I n,I j],aT bs++[.arr 1 false 0 (((nS j p).map (T.int .i64)).map .t)]⟩) n rfl ?_ ?_ (by simp)
  · intro j hj
    have hc:=LS [.arr 1 false 0 (((nS j p).map (T.int .i64)).map .t)] (h j hj) rfl
    have:=hlen j
    by_cases hp:p j=true
    · simp(disch:=omega)only[go_sem,K.oI,hc,hp,Ft,↓reduceIte]
    · simp(disch:=omega)only[go_sem,K.oI,hc,hp,Ft,↓reduceIte]
  · simp(disch:=omega)only[go_sem,K.oI,↓reduceIte]
 simp(disch:=omega)only[go_sem,K.dj,↓reduceIte,loop]
end Go.Ev
namespace Go.Ev
open Go
variable [Lib] [dM] [dh]
theorem rY{α:Type}(sz:Nat)(f:α→T)(h:∀a,sC sz (f a).cells=true):∀l:List α,de sz (l.map f)=true
 | []=>rfl
 | a::l=>by rw[List.map_cons,AM,h,rY sz f h l];rfl
@[go_sem] theorem Zg (k : IntKind) (l : List Int) : de 1 (l.map (.int k)) = true := rY 1 _ (fun _ => rfl) l
theorem AV(sz:Nat):∀ts:List T,(ts.all fun e=>e.cells.length==sz)=de sz ts
 | []=>rfl
 | t::ts=>by
   rw[List.all_cons,AM,AV sz ts]
   congr 1
   rw[Bool.eq_iff_iff,hU];simp
section
variable (H : ao) (sz : Nat) (ts : List T) (i j : Int)
@[go_sem] theorem aow : LJ H sz (some (.t (.sl ts))) (some none) (some (some i)) = if 0 ≤ i then (if i ≤ ts.length then (if de sz ts = true then some (.t (.sl (ts.take i.toNat)), H) else none) else none) else none := by
 simp only[LJ,aLq,rS,bound,AV,idx]
 by_cases h1:0≤i
 · rw[if_pos h1,if_pos h1,aLq]
   by_cases h2:i≤ts.length
   · rw[if_pos h2]
     by_cases h3:de sz ts=true
     · rw[if_pos h3,if_pos ⟨by omega,by omega,h3⟩];rfl
     · rw[if_neg h3,if_neg fun h=>h3 h.2.2];rfl
   · rw[if_neg h2,if_neg fun h=>h2 (by omega)];rfl
 · rw[if_neg h1,if_neg h1];rfl
@[go_sem] theorem aox : LJ H sz (some (.t (.sl ts))) (some (some i)) (some none) = if 0 ≤ i then (if i ≤ ts.length then (if de sz ts = true then some (.t (.sl (ts.drop i.toNat)), H) else none) else none) else none := by
 simp only[LJ,aLq,rS,bound,AV,idx]
 by_cases h1:0≤i
 · rw[if_pos h1,if_pos h1,aLq]
   by_cases h2:i≤ts.length
   · rw[if_pos h2]
     by_cases h3:de sz ts=true
     · rw[if_pos h3,if_pos ⟨by omega,by omega,h3⟩,List.take_of_length_le (by simp)];rfl
     · rw[if_neg h3,if_neg fun h=>h3 h.2.2];rfl
   · rw[if_neg h2,if_neg fun h=>h2 (by omega)];rfl
 · rw[if_neg h1,if_neg h1];rfl
@[go_sem] theorem aiR : LJ H sz (some (.t (.sl ts))) (some (some i)) (some (some j)) = if 0 ≤ i then (if i ≤ j then (if j ≤ ts.length then (if de sz ts = true then some (.t (.sl ((ts.drop i.toNat).take (j.toNat - i.toNat))), H) else none) else none) else none) else none := by
 simp only[LJ,aLq,rS,bound,AV,idx]
 by_cases h1:0≤i
 · rw[if_pos h1,if_pos h1,aLq]
   by_cases h0:i≤j
   · rw[if_pos h0,if_pos (by omega:0≤j),aLq]
     by_cases h2:j≤ts.length
     · rw[if_pos h2]
       by_cases h3:de sz ts=true
       · rw[if_pos h3,if_pos ⟨by omega,by omega,h3⟩];rfl
       · rw[if_neg h3,if_neg fun h=>h3 h.2.2];rfl
     · rw[if_neg h2,if_neg fun h=>h2 (by omega)];rfl
   · rw[if_neg h0]
     by_cases h2:0≤j
     · rw[if_pos h2,aLq,if_neg fun h=>h0 (by omega)];rfl
     · rw[if_neg h2];rfl
 · rw[if_neg h1,if_neg h1];rfl
end
def bsK(H:ao)(l:List Nat):Option T→Option (D×ao)
 | some t=>some (.t (.sl [t]),pins H l)
 | none=>none
@[go_sem] theorem alE (H : ao) (l : List Nat) (t : T) : bsK H l (some t) = some (.t (.sl [t]), pins H l) := (rfl)
@[go_sem] theorem alF (H : ao) (sz : Nat) (cs : List D) : IC H sz [.agg cs] = if sC sz cs = true then bsK H (jT H 8 (.agg cs)) (frz H 8 (.agg cs)) else none := by
 simp only[IC,List.all_cons,List.all_nil,Bool.and_true,D.cells]
 by_cases h:sC sz cs=true
 · rw[if_pos h,if_pos (by simpa using hU.1 h)]
   simp only[cO,depth,List.flatMap_cons,List.flatMap_nil,List.append_nil]
   cases frz H 8 (.agg cs)<;>rfl
 · rw[if_neg h,if_neg (by intro e;exact h (hU.2 (by simpa using e)))]
@[go_sem] theorem alG (H : ao) (id ep n : Nat) : IC H 1 [.ref id ep n] = bsK H (jT H 8 (.ref id ep n)) (frz H 8 (.ref id ep n)) := by
 simp only[IC,List.all_cons,List.all_nil,Bool.and_true,D.cells,List.length_cons,List.length_nil,beq_self_eq_true,if_true,cO,depth,List.flatMap_cons,List.flatMap_nil,List.append_nil]
 cases frz H 8 (.ref id ep n)<;>rfl
def ab0(H:ao)(r:D)(os:ao):D×ao:=(r,H++os)
@[go_sem] theorem alH (H : ao) (r : D) (os : ao) : ab0 H r os = (r, H ++ os) := (rfl)
def aiS(H:ao)(os:ao)(r:D):Option (D×ao):=(cO (jW (gu [] H.length)) os).map (ab0 H r)
@[go_sem] theorem alI (H : ao) (os : ao) (r : D) : aiS H os r = (cO (jW (gu [] H.length)) os).map (ab0 H r) := (rfl)
@[go_sem] theorem aiT (H : ao) (r : D) (o : Obj) (os : ao) : Fm H (r, o :: os) = (ren (gu [] H.length) 8 r).bind (aiS H (o :: os)) := by
 simp only[Fm,List.isEmpty_cons,Bool.and_false,aLt,if_false]
 rfl
end Go.Ev
namespace Go.Ev
open Go
variable [Lib] [dM] [dh]
structure Place where
 h:Int
 surf:Bool
instance : Dat Place := ⟨⟨0, false⟩⟩
abbrev Place.e(p:Place):T:= .agg [tI p.h,.bool p.surf]
structure Road where
 frm:Int
 to:Int
 len:Int
 area:Int
 walk:Bool
 closed:Bool
 restL:Int
 restH:Int
 liftL:Int
 liftH:Int
instance : Dat Road := ⟨⟨0, 0, 0, 0, false, false, 0, 0, 0, 0⟩⟩
abbrev Road.e(r:Road):T:= .agg [tI r.frm,tI r.to,tI r.len,tI r.area,.bool r.walk,.bool r.closed,tI r.restL,tI r.restH,tI r.liftL,tI r.liftH]
structure bh where
 ae:List Place
 roads:List Road
instance : Dat bh := ⟨⟨[], []⟩⟩
abbrev bh.e(m:bh):T:= .agg [.sl (m.ae.map Place.e),.sl (m.roads.map Road.e)]
structure Road.ok(n:Nat)(r:Road):Prop where
 f0:0≤r.frm
 f1:r.frm<n
 t0:0≤r.to
 t1:r.to<n
 ne:r.frm≠r.to
 l0:1≤r.len
 l1:r.len≤100000
 a0:1≤r.area
 a1:r.area≤1000
 r0:1≤r.restL
 r1:r.restL≤r.restH
 r2:r.restH≤262144
 i0: -2199023255552≤r.liftL
 i1:r.liftL≤r.liftH
 i2:r.liftH≤2199023255552
structure bh.ok(m:bh):Prop where
 np:m.ae.length≤64
 nr:m.roads.length≤128
 hs:∀p∈m.ae, -10000≤p.h∧p.h≤10000
 rs:∀r∈m.roads,r.ok m.ae.length
theorem LU(a b lo hi:Int):aW 0 N.jG [.t (.agg [tI a,tI b]),I lo,I hi] []=some (B (decide (lo≤a∧a≤b∧b≤hi)),[]):=by
 refine aA K.wZ rfl ?_
 by_cases h1:lo≤a<;>by_cases h2:a≤b<;>by_cases h3:b≤hi<;>simp(disch:=omega)only[go_sem,K.jG,↓reduceIte,h1,h2,h3]
theorem rZ{m:bh}(h:m.ok):aW 0 N.di [.t m.e] []=some (I 0,[]):=by
 refine aA K.uN rfl ?_
 have np:=h.np
 have nr:=h.nr
 have loop1:∀a b c d e:D,exS aW K.yK ⟨[a,.bp 0 0,b,I 0,c,d,e],[.box [.t (.sl (m.ae.map Place.e)),.t (.sl (m.roads.map Road.e))]]⟩=
  some (.exit 0,⟨[.und,.bp 0 0,.und,I m.ae.length,.und,.und,.und],[.box [.t (.sl (m.ae.map Place.e)),.t (.sl (m.roads.map Road.e))]]⟩):=by
  intro a b c d e
  refine dm (fun j=>⟨[.und,.bp 0 0,.und,I j,.und,.und,.und],[.box [.t (.sl (m.ae.map Place.e)),.t (.sl (m.roads.map Road.e))]]⟩) m.ae.length rfl ?_ ?_ (by simp)
  · intro j hj
    have hh:=h.hs _ (ai hj)
    simp(disch:=omega)only[go_sem,K.qV,↓reduceIte]
  · simp(disch:=omega)only[go_sem,K.qV,↓reduceIte]
 have loop2:∀a b c d e:D,exS aW K.yL ⟨[a,.bp 0 0,b,c,d,I 0,e],[.box [.t (.sl (m.ae.map Place.e)),.t (.sl (m.roads.map Road.e))]]⟩=
  some (.exit 2,⟨[.und,.bp 0 0,.und,.und,.und,I m.roads.length,.und],[.box [.t (.sl (m.ae.map Place.e)),.t (.sl (m.roads.map Road.e))]]⟩):=by
  intro a b c d e
  refine dm (fun j=>⟨[.und,.bp 0 0,.und,.und,.und,I j,.und],[.box [.t (.sl (m.ae.map Place.e)),.t (.sl (m.roads.map Road.e))]]⟩) m.roads.length rfl ?_ ?_ (by simp)
  · intro j hj
    obtain⟨f0,f1,t0,t1,ne,l0,l1,a0,a1,r0,r1,r2,i0,i1,i2⟩:=h.rs _ (ai hj)
    have s1:=LU (nth m.roads j).restL (nth m.roads j).restH 1 262144
    have s2:=LU (nth m.roads j).liftL (nth m.roads j).liftH (-2199023255552) 2199023255552
    simp(disch:=omega)only[go_sem]at s1 s2
    simp(disch:=omega)only[go_sem,K.qW,↓reduceIte,s1,s2]
  · simp(disch:=omega)only[go_sem,K.qW,↓reduceIte]
 simp(disch:=omega)only[go_sem,K.di,↓reduceIte,loop1,loop2]
theorem Oj{l:List Int}{p:Int→Bool}:((List.range l.length).find? fun j=>p (nth l j)).isSome=l.any p:=by
 rw[List.isSome_find?,Bool.eq_iff_iff,List.any_eq_true,List.any_eq_true]
 constructor
 · rintro ⟨j,hj,h⟩
   exact⟨_,ai (aLu.1 hj),h⟩
 · rintro ⟨x,hx,h⟩
   obtain⟨j,hj⟩:=aLf.1 hx
   exact⟨j,aLu.2 (aLe.1 hj).1,by rw[bY hj];exact h⟩
theorem Qc(l:List Int)(x:Int)(hl:l.length≤4294967296):aW 0 N.jE [.t (tL l),I x] []=some (B (decide (x∈l)),[]):=by
 refine aA K.zI rfl ?_
 have loop:∀a:D,exS aW K.Dh ⟨[.t (tL l),I x,a,I 0],[]⟩=
  some (match (List.range l.length).find? (fun j=>decide (nth l j=x))with
   | some j=>(.ret,⟨[.t (tL l),I x,B true,I j],[]⟩)
   | none=>(.exit 0,⟨[.t (tL l),I x,.und,I l.length],[]⟩)):=by
  intro a
  refine cL (fun j=>⟨[.t (tL l),I x,.und,I j],[]⟩) l.length (fun j=>decide (nth l j=x)) _ _ rfl ?_ ?_ ?_ (by simp)
  · intro j hj hp
    have hp:¬nth l j=x:=of_decide_eq_false hp
    simp(disch:=omega)only[go_sem,K.qC,↓reduceIte]
  · intro j hj hp
    have hp:nth l j=x:=of_decide_eq_true hp
    simp(disch:=omega)only[go_sem,K.qC,↓reduceIte,hp]
    simp
  · simp(disch:=omega)only[go_sem,K.qC,↓reduceIte]
 have e:=Oj (l:=l) (p:=fun y=>decide (y=x))
 have e2:l.any (fun y=>decide (y=x))=decide (x∈l):=by rw[Bool.eq_iff_iff];simp
 rw[e2]at e
 simp only[go_sem,K.jE,↓reduceIte,loop]
 cases hf:(List.range l.length).find? (fun j=>decide (nth l j=x))with
 | some j=>rw[hf]at e;simp(disch:=omega)only[go_sem,↓reduceIte,←e]
 | none=>rw[hf]at e;simp(disch:=omega)only[go_sem,↓reduceIte,←e,Option.isSome_none]
theorem Ol(a b:List Int)(hl:a.length≤4294967296):aW 0 N.dB [.t (tL a),.t (tL b)] []=some (B (decide (a=b)),[]):=by
 refine aA K.qo rfl ?_
 by_cases hlen:a.length=b.length
 · have loop:∀c:D,exS aW K.tM ⟨[.t (tL a),.t (tL b),c,I 0],[]⟩=
    some (match (List.range a.length).find? (fun j=>decide (nth a j≠nth b j))with
     | some j=>(.ret,⟨[.t (tL a),.t (tL b),B false,I j],[]⟩)
     | none=>(.exit 0,⟨[.t (tL a),.t (tL b),.und,I a.length],[]⟩)):=by
    intro c
    refine cL (fun j=>⟨[.t (tL a),.t (tL b),.und,I j],[]⟩) a.length (fun j=>decide (nth a j≠nth b j)) _ _ rfl ?_ ?_ ?_ (by simp)
    · intro j hj hp
      have hp:nth a j=nth b j:=by simpa using hp
      simp(disch:=omega)only[go_sem,K.lx,↓reduceIte]
    · intro j hj hp
      have hp:nth a j≠nth b j:=by simpa using hp
      simp(disch:=omega)only[go_sem,K.lx,↓reduceIte]
      simp
    · simp(disch:=omega)only[go_sem,K.lx,↓reduceIte]
   have e:(a=b)↔(List.range a.length).find? (fun j=>decide (nth a j≠nth b j))=none:=by
    rw[List.find?_eq_none]
    constructor
    · intro h j _;simp[h]
    · intro h
      apply List.ext_getElem?
      intro j
      by_cases hj:j<a.length
      · rw[oN hj,oN (by omega)]
        have:=h j (aLu.2 hj)
        simpa using this
      · rw[aLm (by omega),aLm (by omega)]
   simp(disch:=omega)only[go_sem,K.dB,↓reduceIte,loop]
   cases hf:(List.range a.length).find? (fun j=>decide (nth a j≠nth b j))with
   | some j=>rw[hf]at e;simp(disch:=omega)only[go_sem,↓reduceIte,e];simp
   | none=>rw[hf]at e;simp(disch:=omega)only[go_sem,↓reduceIte,e]
 · have hne:a≠b:=fun h=>hlen (by rw[h])
   simp(disch:=omega)only[go_sem,K.dB,↓reduceIte,hne]
def EA(l:List Int)(n:Int):Bool:=(List.range l.length).all fun j=>decide (0≤nth l j∧nth l j<n∧(0<j→nth l (j-1)<nth l j))
theorem qE{n:Nat}{p:Nat→Bool}:((List.range n).all p)=((List.range n).find? fun j=> !p j).isNone:=by
 rw[← Option.not_isSome,List.isSome_find?,List.not_any_eq_all_not]
 simp
theorem Zh(l:List Int)(n:Int)(hl:l.length≤4294967296):aW 0 N.lG [.t (tL l),I n] []=some (B (EA l n),[]):=by
 refine aA K.zK rfl ?_
 have loop:∀c:D,exS aW K.Di ⟨[.t (tL l),I n,c,I 0],[]⟩=
  some (match (List.range l.length).find? (fun j=> !decide (0≤nth l j∧nth l j<n∧(0<j→nth l (j-1)<nth l j)))with
   | some j=>(.ret,⟨[.t (tL l),I n,B false,I j],[]⟩)
   | none=>(.exit 0,⟨[.t (tL l),I n,.und,I l.length],[]⟩)):=by
  intro c
  refine cL (fun j=>⟨[.t (tL l),I n,.und,I j],[]⟩) l.length _ _ _ rfl ?_ ?_ ?_ (by simp)
  · intro j hj hp
    simp only[Bool.not_eq_false',decide_eq_true_eq]at hp
    obtain⟨h1,h2,h3⟩:=hp
    cases j with
    | zero=>simp(disch:=omega)only[go_sem,K.kg,↓reduceIte]
    | succ j=>
      have h3:=h3 (by omega)
      rw[Nat.add_sub_cancel]at h3
      simp(disch:=omega)only[go_sem,K.kg,↓reduceIte]
  · intro j hj hp
    simp only[Bool.not_eq_true',decide_eq_false_iff_not]at hp
    refine⟨?_,by simp⟩
    by_cases h1:0≤nth l j
    · by_cases h2:nth l j<n
      · cases j with
        | zero=>exact absurd ⟨h1,h2,fun h=>absurd h (by omega)⟩ hp
        | succ j=>
          have h3:¬nth l j<nth l (j+1):=fun h=>hp ⟨h1,h2,fun _=>by simpa using h⟩
          simp(disch:=omega)only[go_sem,K.kg,↓reduceIte]
      · simp(disch:=omega)only[go_sem,K.kg,↓reduceIte]
    · simp(disch:=omega)only[go_sem,K.kg,↓reduceIte]
  · simp(disch:=omega)only[go_sem,K.kg,↓reduceIte]
 have e:EA l n=_:=qE
 simp only[go_sem,K.lG,↓reduceIte,loop]
 cases hf:(List.range l.length).find? (fun j=> !decide (0≤nth l j∧nth l j<n∧(0<j→nth l (j-1)<nth l j)))with
 | some j=>rw[hf]at e;simp(disch:=omega)only[go_sem,↓reduceIte,e,Option.isNone_some]
 | none=>rw[hf]at e;simp(disch:=omega)only[go_sem,↓reduceIte,e,Option.isNone_none]
theorem wo(x lo hi:Int):aW 0 N.aU [I x,I lo,I hi] []=some (B (decide (lo≤x∧x≤hi)),[]):=by
 refine aA K.Ci rfl ?_
 by_cases h1:lo≤x<;>by_cases h2:x≤hi<;>simp(disch:=omega)only[go_sem,K.aU,↓reduceIte]
theorem Xq(l:List Int)(x:Int)(hl:l.length≤4294967296):aW 0 N.b7 [.t (tL l),I x] []=
 some (I (match (List.range l.length).find? (fun j=>decide (nth l j=x))with | some j=>(j:Int) | none=> -1),[]):=by
 refine aA K.kU rfl ?_
 have loop:∀a b:D,exS aW K.oK ⟨[.t (tL l),I x,a,b,I l.length,I 0],[]⟩=
  some (match (List.range l.length).find? (fun j=>decide (nth l j=x))with
   | some j=>(.ret,⟨[.t (tL l),I x,I j,I j,I l.length,I j],[]⟩)
   | none=>(.exit 0,⟨[.t (tL l),I x,.und,.und,I l.length,I l.length],[]⟩)):=by
  intro a b
  refine cL (fun j=>⟨[.t (tL l),I x,.und,.und,I l.length,I j],[]⟩) l.length (fun j=>decide (nth l j=x)) _ _ rfl ?_ ?_ ?_ (by simp)
  · intro j hj hp
    have hp:¬nth l j=x:=of_decide_eq_false hp
    simp(disch:=omega)only[go_sem,K.gv,↓reduceIte]
  · intro j hj hp
    have hp:nth l j=x:=of_decide_eq_true hp
    simp(disch:=omega)only[go_sem,K.gv,↓reduceIte,hp]
    simp
  · simp(disch:=omega)only[go_sem,K.gv,↓reduceIte]
 simp(disch:=omega)only[go_sem,K.b7,↓reduceIte,loop]
 cases hf:(List.range l.length).find? (fun j=>decide (nth l j=x))with
 | some j=>simp(disch:=omega)only[go_sem,↓reduceIte]
 | none=>simp(disch:=omega)only[go_sem,↓reduceIte]
theorem Fu(l:List Int)(x:Int)(hl:l.length≤4294967296):aW 0 N.aO [.t (tL l),I x] []=some (B (decide (x∈l)),[]):=by
 refine aA K.jg rfl ?_
 have h:=Xq l x hl
 have e:=Oj (l:=l) (p:=fun y=>decide (y=x))
 have e2:l.any (fun y=>decide (y=x))=decide (x∈l):=by rw[Bool.eq_iff_iff];simp
 rw[e2]at e
 cases hf:(List.range l.length).find? (fun j=>decide (nth l j=x))with
 | some j=>rw[hf]at e h;simp(disch:=omega)only[go_sem,K.aO,↓reduceIte,←e,h]
 | none=>rw[hf]at e h;simp(disch:=omega)only[go_sem,K.aO,↓reduceIte,←e,h,Option.isSome_none]
theorem LV(l:List Int)(hl:l.length≤4294967296)(f:Nat)(bs:List (List T))(p:Int→Bool)(h:∀x,x∈l→aW 0 f (I x::fB bs.length) (aT bs)=some (B (p x),aT bs)):
 aW 0 N.bL [.t (tL l),.fn f (fB bs.length)] (aT bs)=
 some (I (match (List.range l.length).find? (fun j=>p (nth l j))with | some j=>(j:Int) | none=> -1),aT bs):=by
 refine aA K.iD rfl ?_
 have loop:∀a b:D,exS aW K.lH ⟨[.t (tL l),.fn f (fB bs.length),a,b,I l.length,I 0],aT bs⟩=
  some (match (List.range l.length).find? (fun j=>p (nth l j))with
   | some j=>(.ret,⟨[.t (tL l),.fn f (fB bs.length),I j,I j,I l.length,I j],aT bs⟩)
   | none=>(.exit 0,⟨[.t (tL l),.fn f (fB bs.length),.und,.und,I l.length,I l.length],aT bs⟩)):=by
  intro a b
  refine cL (fun j=>⟨[.t (tL l),.fn f (fB bs.length),.und,.und,I l.length,I j],aT bs⟩) l.length (fun j=>p (nth l j)) _ _ rfl ?_ ?_ ?_ (by simp)
  · intro j hj hp
    have hc:=nQ (h _ (ai hj)) rfl
    simp(disch:=omega)only[go_sem,K.eH,↓reduceIte,hc,hp]
  · intro j hj hp
    have hc:=nQ (h _ (ai hj)) rfl
    simp(disch:=omega)only[go_sem,K.eH,↓reduceIte,hp,hc]
    simp
  · simp(disch:=omega)only[go_sem,K.eH,↓reduceIte]
 simp(disch:=omega)only[go_sem,K.bL,↓reduceIte,loop]
 cases hf:(List.range l.length).find? (fun j=>p (nth l j))with
 | some j=>simp(disch:=omega)only[go_sem,↓reduceIte]
 | none=>simp(disch:=omega)only[go_sem,↓reduceIte]
theorem q6(l:List Int)(hl:l.length≤4294967296)(f:Nat)(bs:List (List T))(p:Int→Bool)(h:∀x,x∈l→aW 0 f (I x::fB bs.length) (aT bs)=some (B (p x),aT bs)):
 aW 0 N.aq [.t (tL l),.fn f (fB bs.length)] (aT bs)=some (B (l.any p),aT bs):=by
 refine aA K.gC rfl ?_
 have h:=LV l hl f bs p h
 have hc:=ye aW bs f _ 0 (tL l) h rfl
 have e:=Oj (l:=l) (p:=p)
 cases hf:(List.range l.length).find? (fun j=>p (nth l j))with
 | some j=>rw[hf]at e hc;simp(disch:=omega)only[go_sem,K.aq,↓reduceIte,←e,hc]
 | none=>rw[hf]at e hc;simp(disch:=omega)only[go_sem,K.aq,↓reduceIte,←e,hc,Option.isSome_none]
theorem ab1(r:Road)(back:Bool):aW 0 N.kK [.t r.e,B back] []=some (.tup [I (if back then r.to else r.frm),I (if back then r.frm else r.to)],[]):=by
 refine aA K.xb rfl ?_
 cases back<;>simp(disch:=omega)only[go_sem,K.kK,↓reduceIte]
def jV(m:bh)(k:Nat)(back:Bool)(up down level:Int):Int:=
 let x:=nth m.roads k
 if x.closed=true∨x.walk=false then -1 else
 let a:=if back then x.to else x.frm
 let b:=if back then x.frm else x.to
 let rise:=(nth m.ae b.toNat).h-(nth m.ae a.toNat).h
 let speed:=if -10*rise>x.len then down else if 10*rise>x.len then up else level
 (10*x.len+speed-1).tdiv speed
theorem sR{a b:Int}(ha:0≤a)(hb:1≤b):0≤a.tdiv b∧a.tdiv b≤a:=by
 rw[Int.tdiv_eq_ediv_of_nonneg ha]
 exact⟨Int.ediv_nonneg ha (by omega),Int.ediv_le_self _ ha⟩
theorem TZ{m:bh}(h:m.ok)(k:Nat)(hk:k<m.roads.length)(back:Bool)(up down level:Int)(hu:1≤up)(hu2:up≤100)(hd:1≤down)(hd2:down≤100)(hl:1≤level)(hl2:level≤100):
 aW 0 N.cK [.t m.e,I k,B back,I up,I down,I level] []=some (I (jV m k back up down level),[]):=by
 refine aA K.sQ rfl ?_
 have hc:=rZ h
 have nr:=h.nr
 have np:=h.np
 obtain⟨f0,f1,t0,t1, -,l0,l1, -, -, -, -, -, -, -, -⟩:=h.rs _ (ai hk)
 have he:=ab1 (nth m.roads k) back
 have b1:=h.hs _ (ai (l:=m.ae) (j:=(nth m.roads k).frm.toNat) (by omega))
 have b2:=h.hs _ (ai (l:=m.ae) (j:=(nth m.roads k).to.toNat) (by omega))
 unfold jV
 generalize hx:nth m.roads k=x at*
 obtain⟨frm,to,len,area,walk,closed,rl,rh,ll,lh⟩:=x
 simp only at f0 f1 t0 t1 l0 l1 b1 b2 he ⊢
 cases closed with
 | true=>simp(disch:=omega)only[go_sem,K.cK,↓reduceIte,hc,hx]
 | false=>
   cases walk with
   | false=>simp(disch:=omega)only[go_sem,K.cK,↓reduceIte,hc,hx]
   | true=>
     have g1:=sR (a:=10*len+up-1) (b:=up) (by omega) hu
     have g2:=sR (a:=10*len+down-1) (b:=down) (by omega) hd
     have g3:=sR (a:=10*len+level-1) (b:=level) (by omega) hl
     cases back with
     | true=>
       simp only[↓reduceIte]at he ⊢
       have w1:IntKind.i64.wrap ((nth m.ae frm.toNat).h-(nth m.ae to.toNat).h)=(nth m.ae frm.toNat).h-(nth m.ae to.toNat).h:=Cg (by omega) (by omega)
       by_cases c2:len< -10*((nth m.ae frm.toNat).h-(nth m.ae to.toNat).h)
       · simp(disch:=omega)only[go_sem,K.cK,↓reduceIte,hc,hx,he,w1,gt_iff_lt]
       · by_cases c1:len<10*((nth m.ae frm.toNat).h-(nth m.ae to.toNat).h)
         · simp(disch:=omega)only[go_sem,K.cK,↓reduceIte,hc,hx,he,w1,gt_iff_lt]
         · simp(disch:=omega)only[go_sem,K.cK,↓reduceIte,hc,hx,he,w1,gt_iff_lt]
     | false=>
       simp only[aLt,↓reduceIte]at he ⊢
       have w1:IntKind.i64.wrap ((nth m.ae to.toNat).h-(nth m.ae frm.toNat).h)=(nth m.ae to.toNat).h-(nth m.ae frm.toNat).h:=Cg (by omega) (by omega)
       by_cases c2:len< -10*((nth m.ae to.toNat).h-(nth m.ae frm.toNat).h)
       · simp(disch:=omega)only[go_sem,K.cK,↓reduceIte,hc,hx,he,w1,gt_iff_lt]
       · by_cases c1:len<10*((nth m.ae to.toNat).h-(nth m.ae frm.toNat).h)
         · simp(disch:=omega)only[go_sem,K.cK,↓reduceIte,hc,hx,he,w1,gt_iff_lt]
         · simp(disch:=omega)only[go_sem,K.cK,↓reduceIte,hc,hx,he,w1,gt_iff_lt]
theorem T0{m:bh}(h:m.ok)(k:Nat)(hk:k<m.roads.length)(back:Bool):aW 0 N.jJ [.t m.e,I k,B back] []=some (I (jV m k back 6 9 12),[]):=by
 refine aA K.xa rfl ?_
 have hw:=TZ h k hk back 6 9 12 (by omega) (by omega) (by omega) (by omega) (by omega) (by omega)
 simp(disch:=omega)only[go_sem,K.jJ,↓reduceIte,hw]
theorem JI{m:bh}(h:m.ok)(k:Nat)(hk:k<m.roads.length)(back:Bool): -1≤jV m k back 6 9 12∧jV m k back 6 9 12≤1000012:=by
 have l0:=(h.rs _ (ai hk)).l0
 have l1:=(h.rs _ (ai hk)).l1
 unfold jV
 simp only
 split
 · omega
 · generalize hs:(if -10*_>(nth m.roads k).len then(9:Int)else _)=s
   have h1:1≤s∧s≤12:=by
    rw[← hs]
    split
    · omega
    · split<;>omega
   have g1:=sR (a:=10*(nth m.roads k).len+s-1) (b:=s) (by omega) h1.1
   omega
def bnd(l:List Int):Prop:=∀x∈l,0≤x∧x≤1099511627776
def qt(l:List Int)(p q:Nat)(walk t:Int):Bool:=
 decide (0≤walk)&&decide (nth l p<1099511627776)&&decide (max t (nth l p+walk)≤2147483648)&&decide (max t (nth l p+walk)<nth l q)
def q7(l:List Int)(p q:Nat)(walk t:Int):List Int:=if qt l p q walk t=true then l.set q (max t (nth l p+walk))else l
theorem JJ(l:List Int)(hb:bnd l)(hl:l.length≤64)(p q:Int)(hp:0≤p)(hp2:p<l.length)(hq:0≤q)(hq2:q<l.length)(walk t:Int)(hw:walk≤1000000000)(ht:t≤1000000000000)(ht0: -1000000000000≤t):
 aW 0 N.eu [.ref 0 0 l.length,I p,I q,I walk,I t] [.arr 1 false 0 ((l.map (T.int .i64)).map .t)]=
  some (B (qt l p.toNat q.toNat walk t),[.arr 1 false 0 (((q7 l p.toNat q.toNat walk t).map (T.int .i64)).map .t)]):=by
 refine aA K.vg rfl ?_
 have b1:=hb _ (ai (l:=l) (j:=p.toNat) (by omega))
 have b2:=hb _ (ai (l:=l) (j:=q.toNat) (by omega))
 clear hb
 unfold q7 qt
 by_cases c1:0≤walk
 · by_cases c2:nth l p.toNat<1099511627776
   · by_cases c3:max t (nth l p.toNat+walk)≤2147483648
     · by_cases c4:max t (nth l p.toNat+walk)<nth l q.toNat
       · simp(disch:=omega)only[go_sem,K.eu,↓reduceIte]
       · simp(disch:=omega)only[go_sem,K.eu,↓reduceIte]
     · simp(disch:=omega)only[go_sem,K.eu,↓reduceIte]
   · simp(disch:=omega)only[go_sem,K.eu,↓reduceIte]
 · simp(disch:=omega)only[go_sem,K.eu,↓reduceIte]
def T1(into:Option (List Int))(p:Int):Bool:=match into with
 | none=>true
 | some l=>decide (p∈l)
def sU(into:Option (List Int)):D:=match into with
 | none=> .nil
 | some l=> .t (tL l)
def Road.src(r:Road)(back:Bool):Int:=if back then r.to else r.frm
def Road.dst(r:Road)(back:Bool):Int:=if back then r.frm else r.to
theorem Road.oy{n:Nat}{r:Road}(h:r.ok n)(back:Bool):0≤r.src back∧r.src back<n:=by
 unfold Road.src;have:=h.f0;have:=h.f1;have:=h.t0;have:=h.t1;cases back<;>simp<;>omega
theorem Road.jr{n:Nat}{r:Road}(h:r.ok n)(back:Bool):0≤r.dst back∧r.dst back<n:=by
 unfold Road.dst;have:=h.f0;have:=h.f1;have:=h.t0;have:=h.t1;cases back<;>simp<;>omega
def gG(m:bh)(t:Int)(into:Option (List Int))(k:Nat)(back:Bool)(l:List Int):List Int×Bool:=
 if T1 into ((nth m.roads k).dst back)=true then
  (q7 l ((nth m.roads k).src back).toNat ((nth m.roads k).dst back).toNat (jV m k back 6 9 12) t,qt l ((nth m.roads k).src back).toNat ((nth m.roads k).dst back).toNat (jV m k back 6 9 12) t)
 else(l,false)
def zM(m:bh)(t:Int)(into:Option (List Int))(k:Nat)(s:List Int×Bool):List Int×Bool:=
 let a:=gG m t into k false s.1
 let b:=gG m t into k true a.1
 (b.1,s.2||a.2||b.2)
def gw(m:bh)(t:Int)(into:Option (List Int))(l:List Int):Nat→List Int×Bool
 | 0=>(l,false)
 | k+1=>zM m t into k (gw m t into l k)
def eh(m:bh)(t:Int)(into:Option (List Int))(l:List Int):List Int×Bool:=gw m t into l m.roads.length
theorem qL(l:List Int)(p q:Nat)(w t:Int):(q7 l p q w t).length=l.length:=by unfold q7;split<;>simp
theorem tN(m:bh)(t:Int)(into:Option (List Int))(k:Nat)(back:Bool)(l:List Int):(gG m t into k back l).1.length=l.length:=by
 unfold gG;split
 · exact qL _ _ _ _ _
 · rfl
theorem eA(m:bh)(t:Int)(into:Option (List Int))(l:List Int):∀k,(gw m t into l k).1.length=l.length
 | 0=>rfl
 | k+1=>by simp only[gw,zM,tN,eA m t into l k]
theorem xd{l:List Int}(h:bnd l){q:Nat}{x:Int}(h0:0≤x)(h1:x≤1099511627776):bnd (l.set q x):=by
 intro y hy
 rcases aLk hy with hy | hy
 · exact h y hy
 · subst hy;exact⟨h0,h1⟩
theorem IG{l:List Int}(h:bnd l){p q:Nat}(hp:p<l.length){w t:Int}:bnd (q7 l p q w t):=by
 unfold q7
 split
 · rename_i hc
   simp only[qt,aLr,decide_eq_true_eq]at hc
   have:=h _ (ai hp)
   exact xd h (by omega) (by omega)
 · exact h
section
variable {m : bh} (h : m.ok) {t : Int} {into : Option (List Int)}
include h
theorem xe{l:List Int}(hl:l.length=m.ae.length)(hb:bnd l){k:Nat}(hk:k<m.roads.length)(back:Bool):bnd (gG m t into k back l).1:=by
 have r1:=Road.oy (h.rs _ (ai hk)) back
 unfold gG
 split
 · exact IG hb (by omega)
 · exact hb
theorem kN{l:List Int}(hl:l.length=m.ae.length)(hb:bnd l):∀k,k≤m.roads.length→bnd (gw m t into l k).1
 | 0,_=>hb
 | k+1,hk=>by
   simp only[gw,zM]
   exact xe h (by rw[tN,eA,hl]) (xe h (by rw[eA,hl]) (kN hl hb k (by omega)) (by omega) _) (by omega) _
end
def o5(l:List Int):Nat:=(l.map Int.toNat).sum
theorem EB:∀ {l:List Int} {q:Nat} {x:Int},q<l.length→0≤x→x<nth l q→o5 (l.set q x)<o5 l
 | [],q,x,h,_,_=>by simp at h
 | a::l,0,x,_,h0,h1=>by
   have h1:x<a:=by simpa [nth]using h1
   simp only[o5,List.set_cons_zero,List.map_cons,List.sum_cons];omega
 | a::l,q+1,x,h,h0,h1=>by
   have:=EB (l:=l) (q:=q) (x:=x) (by simpa using h) h0 (by simpa [nth]using h1)
   simp only[o5,List.set_cons_succ,List.map_cons,List.sum_cons]at this ⊢;omega
theorem Rn{l:List Int}(hb:bnd l){p q:Nat}(hp:p<l.length)(hq:q<l.length){w t:Int}:
 (qt l p q w t=true→o5 (q7 l p q w t)<o5 l)∧(qt l p q w t=false→q7 l p q w t=l):=by
 unfold q7
 constructor
 · intro hc
   rw[if_pos hc]
   simp only[qt,aLr,decide_eq_true_eq]at hc
   have:=hb _ (ai hp)
   exact EB hq (by omega) hc.2
 · intro hc;rw[if_neg (by simp[hc])]
section
variable {m : bh} (h : m.ok) {t : Int} {into : Option (List Int)}
include h
theorem Fv{l:List Int}(hl:l.length=m.ae.length)(hb:bnd l){k:Nat}(hk:k<m.roads.length)(back:Bool):
 ((gG m t into k back l).2=true→o5 (gG m t into k back l).1<o5 l)∧((gG m t into k back l).2=false→(gG m t into k back l).1=l):=by
 have r1:=Road.oy (h.rs _ (ai hk)) back
 have r2:=Road.jr (h.rs _ (ai hk)) back
 unfold gG
 split
 · exact Rn hb (by omega) (by omega)
 · simp
theorem tO{l:List Int}(hl:l.length=m.ae.length)(hb:bnd l):∀k,k≤m.roads.length→
 ((gw m t into l k).2=true→o5 (gw m t into l k).1<o5 l)∧((gw m t into l k).2=false→(gw m t into l k).1=l)
 | 0,_=>⟨fun h=>by simp[gw]at h,fun _=>rfl⟩
 | k+1,hk=>by
   obtain⟨i1,i2⟩:=tO hl hb k (by omega)
   have hb1:=kN h (t:=t) (into:=into) hl hb k (by omega)
   have hl1:(gw m t into l k).1.length=m.ae.length:=by rw[eA,hl]
   obtain⟨a1,a2⟩:=Fv h (t:=t) (into:=into) hl1 hb1 (k:=k) (by omega) false
   have hb2:=xe h (t:=t) (into:=into) hl1 hb1 (k:=k) (by omega) false
   obtain⟨c1,c2⟩:=Fv h (t:=t) (into:=into) (by rw[tN,hl1]) hb2 (k:=k) (by omega) true
   simp only[gw,zM]
   generalize gw m t into l k=s at*
   obtain⟨sl,sb⟩:=s
   simp only at*
   generalize gG m t into k false sl=a at*
   obtain⟨al,ab⟩:=a
   simp only at*
   generalize gG m t into k true al=b at*
   obtain⟨bl,bb⟩:=b
   simp only at*
   cases sb<;>cases ab<;>cases bb<;>simp_all<;>omega
end
end Go.Ev
namespace Go.Ev
open Go
variable [Lib] [dM] [dh]
abbrev af(m:bh):List D:=[.t (.sl (m.ae.map Place.e)),.t (.sl (m.roads.map Road.e))]
theorem ab2(H:ao)(into:Option (List Int))(hi:∀l,into=some l→l≠[]):yv H .sl false (some (sU into)) (some .nil)=some (B (into.isNone),H):=by
 cases into with
 | none=>rfl
 | some l=>exact JB H _ (by simpa using hi l rfl)
@[go_sem] theorem aiU (k n : Nat) (into : Option (List Int)) : old k n (sU into) = true := by
 cases into<;>simp only[sU,go_sem]
theorem Ro{m:bh}(h:m.ok)(t:Int)(ht:t≤1000000000000)(ht0: -1000000000000≤t)(into:Option (List Int))(hi:∀l,into=some l→l≠[]∧l.length≤64)(l:List Int)(hl:l.length=m.ae.length)(hb:bnd l)
 (k:Nat) (hk:k<m.roads.length) (ag:Bool):
 gF true [0,1,5,9] 2 (exS aW K.fU ⟨[.und,.und,I t,sU into,.bp 0 0,.und,.ref 1 0 l.length,B ag,I k,.und],[.box (af m),.arr 1 false 0 ((l.map (T.int .i64)).map .t)]⟩)=
  some ⟨[.und,.und,I t,sU into,.bp 0 0,.und,.ref 1 0 (zM m t into k (l,ag)).1.length,B (zM m t into k (l,ag)).2,I (k+1),.und],[.box (af m),.arr 1 false 0 (((zM m t into k (l,ag)).1.map (T.int .i64)).map .t)]⟩:=by
 have np:=h.np
 have nr:=h.nr
 have t1:=T0 h k hk false
 have t2:=T0 h k hk true
 have w1:=(JI h k hk false).2
 have w2:=(JI h k hk true).2
 obtain⟨f0,f1,t0,t1', -, -, -, -, -, -, -, -, -, -, -⟩:=h.rs _ (ai hk)
 have e0:=fun H=>ab2 H into fun l hl=>(hi l hl).1
 have lw1:=JJ l hb (by omega) (nth m.roads k).frm (nth m.roads k).to f0 (by omega) t0 (by omega) (jV m k false 6 9 12) t (by omega) ht ht0
 have lw2:=JJ l hb (by omega) (nth m.roads k).to (nth m.roads k).frm t0 (by omega) f0 (by omega) (jV m k true 6 9 12) t (by omega) ht ht0
 have hl':(q7 l (nth m.roads k).frm.toNat (nth m.roads k).to.toNat (jV m k false 6 9 12) t).length=l.length:=qL ..
 have lw3:=JJ _ (IG hb (p:=(nth m.roads k).frm.toNat) (q:=(nth m.roads k).to.toNat) (w:=jV m k false 6 9 12) (t:=t) (by omega)) (by omega) (nth m.roads k).to (nth m.roads k).frm t0 (by omega) f0 (by omega) (jV m k true 6 9 12) t (by omega) ht ht0
 rw[hl']at lw3
 simp only[zM,gG,Road.src,Road.dst,aLt,↓reduceIte]
 generalize hx:nth m.roads k=x at*
 obtain⟨frm,to,len,area,walk,closed,rl,rh,ll,lh⟩:=x
 simp only at f0 f1 t0 t1' lw1 lw2 lw3 hl' ⊢
 generalize hw1:jV m k false 6 9 12=v1 at*
 generalize hw2:jV m k true 6 9 12=v2 at*
 clear hb
 cases into with
 | none=>
   simp only[sU,T1,↓reduceIte,Option.isNone]at e0 ⊢
   cases c1:qt l frm.toNat to.toNat v1 t<;>cases c2:qt (q7 l frm.toNat to.toNat v1 t) to.toNat frm.toNat v2 t<;>rw[c1]at lw1<;>rw[c2]at lw3<;>
   simp(disch:=omega)only[go_sem,K.fU,↓reduceIte,hx,e0,t1,t2,lw1,lw3,qL,reduceAdd,reduceSub]
 | some s=>
   have hs:=(hi s rfl).2
   have g1:=Qc s to (by omega)
   have g2:=Qc s frm (by omega)
   simp only[sU,T1,Option.isNone]at e0 ⊢
   by_cases m1:to∈s<;>by_cases m2:frm∈s
   · simp only[m1,m2,decide_true,↓reduceIte]at g1 g2 ⊢
     cases c1:qt l frm.toNat to.toNat v1 t<;>cases c2:qt (q7 l frm.toNat to.toNat v1 t) to.toNat frm.toNat v2 t<;>rw[c1]at lw1<;>rw[c2]at lw3<;>
     simp(disch:=omega)only[go_sem,K.fU,↓reduceIte,hx,e0,t1,t2,lw1,lw3,g1,g2,c1,Bool.or_true,Bool.or_false,qL,reduceAdd,reduceSub]
   · simp only[m1,m2,decide_true,decide_false,↓reduceIte]at g1 g2 ⊢
     cases c1:qt l frm.toNat to.toNat v1 t<;>rw[c1]at lw1<;>
     simp(disch:=omega)only[go_sem,K.fU,↓reduceIte,hx,e0,t1,t2,lw1,g1,g2,c1,Bool.or_true,Bool.or_false,qL,reduceAdd,reduceSub]
   · simp only[m1,m2,decide_true,decide_false,↓reduceIte]at g1 g2 ⊢
     cases c1:qt l to.toNat frm.toNat v2 t<;>rw[c1]at lw2<;>
     simp(disch:=omega)only[go_sem,K.fU,↓reduceIte,hx,e0,t1,t2,lw2,g1,g2,c1,Bool.or_true,Bool.or_false,qL,reduceAdd,reduceSub]
   · simp only[m1,m2,decide_false,↓reduceIte]at g1 g2 ⊢
     simp(disch:=omega)only[go_sem,K.fU,↓reduceIte,hx,e0,t1,t2,g1,g2,reduceAdd,reduceSub]
theorem EC{m:bh}(h:m.ok)(t:Int)(ht:t≤1000000000000)(ht0: -1000000000000≤t)(into:Option (List Int))(hi:∀l,into=some l→l≠[]∧l.length≤64)(l:List Int)(hl:l.length=m.ae.length)(hb:bnd l):
 aW 0 N.gB [.t m.e,.t (tL l),I t,sU into] []=some (.t (tL (ef (eh m t into) (o5 l+1) l)),[])∧(ef (eh m t into) (o5 l+1) l).length=m.ae.length∧bnd (ef (eh m t into) (o5 l+1) l):=by
 have nr:=h.nr
 have inner:∀(l:List Int),l.length=m.ae.length→bnd l→∀(a b c d:D),exS aW K.yT ⟨[a,b,I t,sU into,.bp 0 0,c,.ref 1 0 l.length,B false,I 0,d],[.box (af m),.arr 1 false 0 ((l.map (T.int .i64)).map .t)]⟩=
  some (.exit 2,⟨[.und,.und,I t,sU into,.bp 0 0,.und,.ref 1 0 l.length,B (eh m t into l).2,I m.roads.length,.und],[.box (af m),.arr 1 false 0 (((eh m t into l).1.map (T.int .i64)).map .t)]⟩):=by
  intro l hl hb a b c d
  refine dm (fun j=>⟨[.und,.und,I t,sU into,.bp 0 0,.und,.ref 1 0 (gw m t into l j).1.length,B (gw m t into l j).2,I j,.und],[.box (af m),.arr 1 false 0 (((gw m t into l j).1.map (T.int .i64)).map .t)]⟩) m.roads.length rfl ?_ ?_ (by simp)
  · intro j hj
    have:=Ro h t ht ht0 into hi (gw m t into l j).1 (by rw[eA,hl]) (kN h hl hb j (by omega)) j hj (gw m t into l j).2
    exact this
  · simp(disch:=omega)only[go_sem,K.fU,↓reduceIte,eh,eA]
 have outer:=fun(a b c d e:D)=>IE (gc:=true) (dead:=[0,1,5,8,9]) (c:=K.oJ) (vs:=[a,b,I t,sU into,.bp 0 0,c,.ref 1 0 l.length,B true,d,e]) (H:=[.box (af m),.arr 1 false 0 ((l.map (T.int .i64)).map .t)])
  (fun l ag=>⟨[.und,.und,I t,sU into,.bp 0 0,.und,.ref 1 0 l.length,B ag,.und,.und],[.box (af m),.arr 1 false 0 ((l.map (T.int .i64)).map .t)]⟩)
  (fun l=>(.exit 0,⟨[.und,.und,I t,sU into,.bp 0 0,.und,.ref 1 0 l.length,B false,.und,.und],[.box (af m),.arr 1 false 0 ((l.map (T.int .i64)).map .t)]⟩))
  (eh m t into) (fun l=>l.length=m.ae.length∧bnd l) o5
  (fun l ⟨hl,hb⟩=>⟨⟨by rw[eh,eA,hl],kN h hl hb _ (aLs _)⟩,(tO h hl hb _ (aLs _)).1⟩)
  (by
   rintro l ⟨hl,hb⟩
   have:=inner l hl hb
   have e:(eh m t into l).1.length=l.length:=by rw[eh,eA]
   simp(disch:=omega)only[go_sem,K.oJ,↓reduceIte,this,e])
  (by
   rintro l ⟨hl,hb⟩
   simp(disch:=omega)only[go_sem,K.oJ,↓reduceIte,reduceCtorEq,ne_eq,not_false_eq_true,and_self])
  l ⟨hl,hb⟩ rfl
 obtain⟨-,o2⟩:=outer .und .und .und .und .und
 refine⟨?_,o2⟩
 refine aA K.ve rfl ?_
 have o1:∀a b c d e:D,exS aW K.yU ⟨[a,b,I t,sU into,.bp 0 0,c,.ref 1 0 l.length,B true,d,e],[.box (af m),.arr 1 false 0 ((l.map (T.int .i64)).map .t)]⟩=_:=fun a b c d e=>(outer a b c d e).1
 clear outer inner
 have np:=h.np
 have o2:=o2.1
 generalize ef (eh m t into) (o5 l+1) l=l2 at*
 cases into with
 | none=>
   simp only[sU]at o1
   simp(disch:=omega)only[go_sem,K.gB,↓reduceIte,o1,sU]
 | some s=>
   simp only[sU]at o1
   simp(disch:=omega)only[go_sem,K.gB,↓reduceIte,o1,sU]
structure Wh where
 time:Int
 frm:List Int
instance : Dat Wh := ⟨⟨0, []⟩⟩
abbrev Wh.e(w:Wh):T:= .agg [tI w.time,tL w.frm]
def eB(m:bh)(t:Int)(into:Option (List Int))(l:List Int):List Int:=ef (eh m t into) (o5 l+1) l
def inT(t:Int):Prop:=0≤t∧t≤2147483648
instance (t : Int) : Decidable (inT t) := by unfold inT; infer_instance
def plT(x:Int):Prop:=x=1099511627776∨inT x
instance (t : Int) : Decidable (plT t) := by unfold plT; infer_instance
def xf(w:Wh)(n:Int):Bool:=decide ((w.frm.length:Int)=n∧inT w.time)&&(List.range w.frm.length).all fun j=>decide (plT (nth w.frm j))
theorem sV{x:Int}(h:plT x):0≤x∧x≤1099511627776:=by unfold plT inT at h;omega
theorem AX(t:Int):aW 0 N.ez [I t] []=some (B (decide (inT t)),[]):=by
 refine aA K.sP rfl ?_
 unfold inT
 by_cases h1:0≤t<;>by_cases h2:t≤2147483648<;>simp(disch:=omega)only[go_sem,K.ez,↓reduceIte,h1,h2]
theorem ED{m:bh}(h:m.ok)(t:Int)(ht:inT t)(l:List Int)(hl:l.length=m.ae.length)(hb:bnd l):
 aW 0 N.fH [.t m.e,.t (tL l),I t] []=some (.t (tL (eB m t none l)),[]):=by
 refine aA K.uY rfl ?_
 unfold inT at ht
 have:=(EC h t (by omega) (by omega) none (by simp) l hl hb).1
 simp only[sU]at this
 unfold eB
 simp(disch:=omega)only[go_sem,K.fH,↓reduceIte,this]
theorem Xr(w:Wh)(n:Int)(hl:w.frm.length≤4294967296):aW 0 N.fI [.t w.e,I n] []=some (B (xf w n),[]):=by
 refine aA K.vf rfl ?_
 obtain⟨time,frm⟩:=w
 simp only at hl
 have loop:∀a b c:D,exS aW K.yV ⟨[a,b,.bp 0 0,c,I 0],[.box [I time,.t (tL frm)]]⟩=
  some (match (List.range frm.length).find? (fun j=> !decide (plT (nth frm j)))with
   | some j=>(.ret,⟨[.und,.und,.bp 0 0,B false,I j],[.box [I time,.t (tL frm)]]⟩)
   | none=>(.exit 0,⟨[.und,.und,.bp 0 0,.und,I frm.length],[.box [I time,.t (tL frm)]]⟩)):=by
  intro a b c
  refine cL (fun j=>⟨[.und,.und,.bp 0 0,.und,I j],[.box [I time,.t (tL frm)]]⟩) frm.length (fun j=> !decide (plT (nth frm j))) _ _ rfl ?_ ?_ ?_ (by simp)
  · intro j hj hp
    have hp:plT (nth frm j):=by simpa using hp
    unfold plT inT at hp
    by_cases h1:nth frm j=1099511627776
    · simp(disch:=omega)only[go_sem,K.jM,↓reduceIte,h1]
    · simp(disch:=omega)only[go_sem,K.jM,↓reduceIte]
  · intro j hj hp
    have hp:¬plT (nth frm j):=by simpa using hp
    unfold plT inT at hp
    by_cases h2:0≤nth frm j
    · simp(disch:=omega)only[go_sem,K.jM,↓reduceIte]
      simp
    · simp(disch:=omega)only[go_sem,K.jM,↓reduceIte]
      simp
  · simp(disch:=omega)only[go_sem,K.jM,↓reduceIte]
 unfold xf
 rw[qE]
 by_cases h1:(frm.length:Int)=n
 · by_cases h2:0≤time
   · by_cases h3:time≤2147483648
     · have h4:inT time:=⟨h2,h3⟩
       simp(disch:=omega)only[go_sem,K.fI,↓reduceIte,loop,h1]
       cases hf:(List.range frm.length).find? (fun j=> !decide (plT (nth frm j)))with
       | some j=>simp(disch:=omega)only[go_sem,↓reduceIte,Option.isNone]
       | none=>simp(disch:=omega)only[go_sem,↓reduceIte,Option.isNone,h4,and_self,decide_true]
     · have h4:¬inT time:=by unfold inT;omega
       simp(disch:=omega)only[go_sem,K.fI,↓reduceIte,loop,h1,h4,and_false,decide_false]
   · have h4:¬inT time:=by unfold inT;omega
     simp(disch:=omega)only[go_sem,K.fI,↓reduceIte,loop,h1,h4,and_false,decide_false]
 · simp(disch:=omega)only[go_sem,K.fI,↓reduceIte,loop,h1,false_and,decide_false]
def ei(m:bh)(w:Wh):Bool:=xf w m.ae.length&&decide (eB m w.time none w.frm=w.frm)
theorem zN{w:Wh}{n:Int}(h:xf w n=true):(w.frm.length:Int)=n∧inT w.time∧∀x∈w.frm,plT x:=by
 simp only[xf,aLr,decide_eq_true_eq,aLx,aLu]at h
 refine⟨h.1.1,h.1.2,fun x hx=>?_⟩
 obtain⟨j,hj⟩:=aLf.1 hx
 have:=h.2 j (aLe.1 hj).1
 rwa [bY hj]at this
theorem pA{m:bh}(h:m.ok)(t:Int)(ht:inT t)(into:Option (List Int))(hi:∀l,into=some l→l≠[]∧l.length≤64){l:List Int}(hl:l.length=m.ae.length)(hb:bnd l):(eB m t into l).length=m.ae.length:=by
 unfold inT at ht
 exact(EC h t (by omega) (by omega) into hi l hl hb).2.1
theorem IH{m:bh}(h:m.ok)(t:Int)(ht:inT t)(into:Option (List Int))(hi:∀l,into=some l→l≠[]∧l.length≤64){l:List Int}(hl:l.length=m.ae.length)(hb:bnd l):bnd (eB m t into l):=by
 unfold inT at ht
 exact(EC h t (by omega) (by omega) into hi l hl hb).2.2
theorem JK{m:bh}(h:m.ok)(w:Wh)(hl:w.frm.length≤4294967296):aW 0 N.gA [.t m.e,.t w.e] []=some (B (ei m w),[]):=by
 refine aA K.uZ rfl ?_
 have c:=rZ h
 have p:=Xr w m.ae.length hl
 have np:=h.np
 unfold ei
 cases hp:xf w m.ae.length with
 | false=>
   rw[hp]at p
   obtain⟨time,frm⟩:=w
   simp(disch:=omega)only[go_sem,K.gA,↓reduceIte,c,p,Bool.false_and,reduceAdd,reduceSub]
 | true=>
   obtain⟨h1,h2,h3⟩:=zN hp
   rw[hp]at p
   have hb:bnd w.frm:=fun x hx=>sV (h3 x hx)
   have cl:=ED h w.time h2 w.frm (by omega) hb
   have ln:=pA h w.time h2 none (by simp) (l:=w.frm) (by omega) hb
   obtain⟨time,frm⟩:=w
   simp only at*
   have sm:=Ol (eB m time none frm) frm (by omega)
   simp(disch:=omega)only[go_sem,K.gA,↓reduceIte,c,p,cl,sm,Bool.true_and,reduceAdd,reduceSub]
theorem JL(w:Wh)(hl:w.frm.length≤4294967296):aW 0 N.dT [.t w.e] []=some (.t w.e,[]):=by
 refine aA K.w8 rfl ?_
 obtain⟨time,frm⟩:=w
 simp only at*
 simp(disch:=omega)only[go_sem,K.dT,↓reduceIte,reduceAdd,reduceSub]
def pS(n:Nat):List Int:=List.replicate n 1099511627776
theorem Om(n:Nat):pS (n+1)=pS n++[1099511627776]:=List.replicate_succ'
@[simp] theorem qM (n : Nat) : (pS n).length = n := List.length_replicate
theorem Cl(n:Nat):bnd (pS n):=fun x hx=>by rw[List.eq_of_mem_replicate hx];omega
theorem Rq(n:Nat)(hn:n≤1000000)(a:D):exS aW K.yS ⟨[I n,a,.ref 0 0 0,I 0],[.arr 1 false 0 []]⟩=
 some (.exit 0,⟨[I n,.und,.ref 0 0 n,I n],[.arr 1 false 0 (((pS n).map (T.int .i64)).map .t)]⟩):=by
 refine dm (fun j=>⟨[I n,.und,.ref 0 0 (pS j).length,I j],[.arr 1 false 0 (((pS j).map (T.int .i64)).map .t)]⟩) n rfl ?_ ?_ (by simp)
 · intro j hj
   have:=qM j
   simp(disch:=omega)only[go_sem,K.qY,Om,↓reduceIte]
 · simp(disch:=omega)only[go_sem,K.qY,↓reduceIte,qM]
theorem LW(n:Nat)(hn:n≤1000000):aW 1 N.ic [I n] []=some (.ref 0 0 n,[.arr 1 false 0 (((pS n).map (T.int .i64)).map .t)]):=by
 refine aA K.uX rfl ?_
 have:=Rq n hn
 simp(disch:=omega)only[go_sem,K.ic,↓reduceIte,this]
def jt(m:bh)(p t:Int):Wh×Int:=
 if p<0∨(m.ae.length:Int)≤p then(⟨0,[]⟩,3)else if inT t then(⟨t,eB m t none ((pS m.ae.length).set p.toNat t)⟩,0)else(⟨0,[]⟩,8)
theorem Qd{m:bh}(h:m.ok)(p t:Int):aW 0 N.fD [.t m.e,I p,I t] []=some (.tup [.t (jt m p t).1.e,I (jt m p t).2],[]):=by
 refine aA K.uR rfl ?_
 have c:=rZ h
 have np:=h.np
 have it:=AX t
 have nl:=qM m.ae.length
 have nv:=LW m.ae.length (by omega)
 unfold jt
 by_cases h1:p<0
 · simp(disch:=omega)only[go_sem,K.fD,↓reduceIte,c,h1,true_or]
   rfl
 · by_cases h2:(m.ae.length:Int)≤p
   · simp(disch:=omega)only[go_sem,K.fD,↓reduceIte,c,h1,h2,or_true]
     rfl
   · by_cases h3:inT t
     · have b:bnd ((pS m.ae.length).set p.toNat t):=xd (Cl _) h3.1 (by have:=h3.2;omega)
       have cl:=ED h t h3 ((pS m.ae.length).set p.toNat t) (by simp) b
       simp only[h3,decide_true]at it
       simp(disch:=omega)only[go_sem,K.fD,↓reduceIte,c,h1,h2,or_self,h3,it,nv,qM,cl]
     · simp only[h3,decide_false]at it
       simp(disch:=omega)only[go_sem,K.fD,↓reduceIte,c,h1,h2,or_self,h3,it]
       rfl
def sW(w:Wh)(t:Int):List Int:=nS w.frm.length fun j=>decide (nth w.frm j≤t)
def tP(w:Wh)(t:Int):Wh×Int:=if t<w.time∨2147483648<t then(w,8)else(⟨t,w.frm⟩,0)
theorem Qe(w:Wh)(t:Int)(hl:w.frm.length≤1000000):aW 0 N.fF [.t w.e,I t] []=some (.tup [.t (tP w t).1.e,I (tP w t).2],[]):=by
 refine aA K.uU rfl ?_
 have c:=JL w (by omega)
 obtain⟨time,frm⟩:=w
 simp only[tP]at*
 by_cases h1:t<time
 · simp(disch:=omega)only[go_sem,K.fF,↓reduceIte,c,h1,true_or]
 · by_cases h2:2147483648<t
   · simp(disch:=omega)only[go_sem,K.fF,↓reduceIte,c,h1,h2,or_true]
   · simp(disch:=omega)only[go_sem,K.fF,↓reduceIte,c,h1,h2,or_self]
def oO(m:bh)(w:Wh)(ae:List Int)(a b:Int):Int:=
 if ei m w=true∧ae≠[]∧EA ae m.ae.length=true then(if inT a∧inT b∧a≤b then 0 else 8)else 6
theorem Qf{m:bh}(h:m.ok)(w:Wh)(hl:w.frm.length≤1000000)(ae:List Int)(hp:ae.length≤1000000)(a b:Int):
 aW 0 N.dk [.t m.e,.t w.e,.t (tL ae),I a,I b] []=some (I (oO m w ae a b),[]):=by
 refine aA K.vd rfl ?_
 have v:=JK h w (by omega)
 have s:=Zh ae m.ae.length (by omega)
 have np:=h.np
 have ia:=AX a
 have ib:=AX b
 obtain⟨time,frm⟩:=w
 simp only at*
 unfold oO
 cases hv:ei m ⟨time,frm⟩with
 | false=>
   rw[hv]at v
   simp(disch:=omega)only[go_sem,K.dk,↓reduceIte,v,aLt,false_and]
 | true=>
   rw[hv]at v
   cases ae with
   | nil=>simp(disch:=omega)only[go_sem,K.dk,↓reduceIte,v,ne_eq,not_true_eq_false,false_and,and_false,List.length_nil]
   | cons x xs=>
     have hne:0<(x::xs).length:=by simp
     generalize hx:x::xs=l at*
     have hne2:l≠[]:=by intro e;rw[e]at hne;simp at hne
     cases hs:EA l m.ae.length with
     | false=>
       rw[hs]at s
       simp(disch:=omega)only[go_sem,K.dk,↓reduceIte,v,s,hne2,ne_eq,not_false_eq_true,true_and,aLt,and_false]
     | true=>
       rw[hs]at s
       by_cases h1:inT a
       · by_cases h2:inT b
         · simp only[h1,h2,decide_true]at ia ib
           by_cases h3:a≤b
           · simp(disch:=omega)only[go_sem,K.dk,↓reduceIte,v,s,hne2,ia,ib,h1,h2,h3,ne_eq,not_false_eq_true,and_self]
           · simp(disch:=omega)only[go_sem,K.dk,↓reduceIte,v,s,hne2,ia,ib,h1,h2,h3,ne_eq,not_false_eq_true,and_self,and_false]
         · simp only[h1,h2,decide_true,decide_false]at ia ib
           simp(disch:=omega)only[go_sem,K.dk,↓reduceIte,v,s,hne2,ia,ib,h1,h2,ne_eq,not_false_eq_true,and_self,and_false,false_and]
       · simp only[h1,decide_false]at ia
         simp(disch:=omega)only[go_sem,K.dk,↓reduceIte,v,s,hne2,ia,h1,ne_eq,not_false_eq_true,and_self,and_false,false_and]
theorem vi{l:List Int}{n:Int}(h:EA l n=true){j:Nat}(hj:j<l.length):0≤nth l j∧nth l j<n∧(0<j→nth l (j-1)<nth l j):=by
 simp only[EA,aLx,aLu,decide_eq_true_eq]at h
 exact h j hj
theorem T2{l:List Int}{n:Int}(h:EA l n=true):∀ {j:Nat},j<l.length→(j:Int)≤nth l j
 | 0,hj=>by have:=vi h hj;omega
 | j+1,hj=>by
   have h1:=T2 h (j:=j) (by omega)
   have:=(vi h hj).2.2 (by omega)
   simp only[Nat.add_sub_cancel]at this
   omega
theorem JM{l:List Int}{n:Nat}(h:EA l n=true):l.length≤n:=by
 cases hl:l.length with
 | zero=>omega
 | succ k=>
   have h1:=T2 h (j:=k) (by omega)
   have h2:=(vi h (j:=k) (by omega)).2.1
   omega
def Cm(w:Wh)(t p:Int)(s:List Int×Bool):List Int×Bool:=if nth w.frm p.toNat≤t then(s.1.set p.toNat (nth w.frm p.toNat),true)else s
def G4(w:Wh)(l:List Int)(t:Int)(n:Nat):Nat→List Int×Bool
 | 0=>(pS n,false)
 | j+1=>Cm w t (nth l j) (G4 w l t n j)
theorem vj(w:Wh)(l:List Int)(t:Int)(n:Nat):∀j,(G4 w l t n j).1.length=n
 | 0=>qM n
 | j+1=>by
   have:=vj w l t n j
   simp only[G4,Cm]
   split<;>simp[this]
theorem JN{w:Wh}(hw:bnd w.frm)(l:List Int)(t:Int){n:Nat}(hl:∀p∈l,0≤p∧p<w.frm.length):∀j,j≤l.length→bnd (G4 w l t n j).1
 | 0,_=>Cl n
 | j+1,hj=>by
   have:=JN hw l t hl (n:=n) j (by omega)
   simp only[G4,Cm]
   split
   · have hp:=hl _ (ai (l:=l) (j:=j) (by omega))
     have:=hw _ (ai (l:=w.frm) (j:=(nth l j).toNat) (by omega))
     exact xd (by assumption) this.1 this.2
   · exact this
def JO(m:bh)(w:Wh)(l:List Int)(a b:Int):Wh×Int:=
 if oO m w l a b≠0 then(w,oO m w l a b)else if a<w.time then(w,42)else
 if(G4 w l b m.ae.length l.length).2=true then(⟨b,eB m a none (G4 w l b m.ae.length l.length).1⟩,0)else(w,43)
theorem qF{m:bh}{w:Wh}{l:List Int}{a b:Int}(h:oO m w l a b=0):ei m w=true∧l≠[]∧EA l m.ae.length=true∧inT a∧inT b∧a≤b:=by
 unfold oO at h
 split at h
 · rename_i h1
   split at h
   · rename_i h2;exact⟨h1.1,h1.2.1,h1.2.2,h2⟩
   · omega
 · omega
theorem jh{m:bh}{w:Wh}(h:ei m w=true):w.frm.length=m.ae.length∧inT w.time∧(∀x∈w.frm,plT x)∧eB m w.time none w.frm=w.frm:=by
 simp only[ei,aLr,decide_eq_true_eq]at h
 obtain⟨h1,h2,h3⟩:=zN h.1
 exact⟨by omega,h2,h3,h.2⟩
theorem aiV{m:bh}(h:m.ok)(w:Wh)(hl:w.frm.length≤1000000)(l:List Int)(hp:l.length≤1000000)(a b:Int):
 aW 0 N.kx [.t m.e,.t w.e,.t (tL l),I a,I b] []=some (.tup [.t (JO m w l a b).1.e,I (JO m w l a b).2],[]):=by
 refine aA K.zL rfl ?_
 have as:=Qf h w hl l hp a b
 have cp:=JL w (by omega)
 have np:=h.np
 have nv:=LW m.ae.length (by omega)
 have nl:=qM m.ae.length
 unfold JO
 by_cases h0:oO m w l a b=0
 · obtain⟨v1,v2,v3,v4,v5,v6⟩:=qF h0
   obtain⟨w1,w2,w3,w4⟩:=jh v1
   have hlen:=JM v3
   rw[h0]at as ⊢
   obtain⟨time,frm⟩:=w
   simp only at*
   by_cases h1:a<time
   · simp(disch:=omega)only[go_sem,K.kx,↓reduceIte,as,cp,h1,ne_eq,not_true_eq_false]
   · have hbw:bnd (Wh.frm ⟨time,frm⟩):=fun x hx=>sV (w3 x hx)
     have hb:=JN hbw l b (n:=m.ae.length) (fun p hp=>by
      obtain⟨j,hj⟩:=aLf.1 hp
      have:=vi v3 (aLe.1 hj).1
      rw[bY hj]at this
      simp only
      omega) l.length (aLs _)
     have ln:=vj ⟨time,frm⟩ l b m.ae.length
     have loop:∀x y z u v:D,exS aW K.Dj ⟨[x,y,.t (tL l),I a,I b,.bp 0 0,.bp 1 0,.bp 2 0,z,u,.ref 3 0 m.ae.length,B false,I 0,v],[.box (af m),.box [I time,.t (tL frm)],.box [I 0,.nil],.arr 1 false 0 (((pS m.ae.length).map (T.int .i64)).map .t)]⟩=
      some (.exit 0,⟨[.und,.und,.t (tL l),I a,I b,.bp 0 0,.bp 1 0,.bp 2 0,.und,.und,.ref 3 0 m.ae.length,B (G4 ⟨time,frm⟩ l b m.ae.length l.length).2,I l.length,.und],[.box (af m),.box [I time,.t (tL frm)],.box [I 0,.nil],.arr 1 false 0 ((((G4 ⟨time,frm⟩ l b m.ae.length l.length).1).map (T.int .i64)).map .t)]⟩):=by
      intro x y z u v
      refine dm (fun j=>⟨[.und,.und,.t (tL l),I a,I b,.bp 0 0,.bp 1 0,.bp 2 0,.und,.und,.ref 3 0 m.ae.length,B (G4 ⟨time,frm⟩ l b m.ae.length j).2,I j,.und],[.box (af m),.box [I time,.t (tL frm)],.box [I 0,.nil],.arr 1 false 0 ((((G4 ⟨time,frm⟩ l b m.ae.length j).1).map (T.int .i64)).map .t)]⟩) l.length rfl ?_ ?_ (by simp)
      · intro j hj
        obtain⟨p1,p2, -⟩:=vi v3 hj
        have lj:=ln j
        by_cases hc:nth frm (nth l j).toNat≤b
        · simp(disch:=omega)only[go_sem,K.qD,↓reduceIte,G4,Cm,hc]
        · simp(disch:=omega)only[go_sem,K.qD,↓reduceIte,G4,Cm,hc]
      · simp(disch:=omega)only[go_sem,K.qD,↓reduceIte]
     have cl:=ED h a v4 _ (ln l.length) hb
     have ln:=ln l.length
     simp(disch:=omega)only[go_sem,K.kx,↓reduceIte,as,h1,nv,loop,ne_eq,not_true_eq_false]
     cases hs:(G4 ⟨time,frm⟩ l b m.ae.length l.length).2 with
     | true=>simp(disch:=omega)only[go_sem,↓reduceIte,ln,cl]
     | false=>simp(disch:=omega)only[go_sem,↓reduceIte,cp,aLt]
 · obtain⟨time,frm⟩:=w
   simp only at*
   simp(disch:=omega)only[go_sem,K.kx,↓reduceIte,as,cp,h0,ne_eq,not_false_eq_true]
def On(l0 l:List Int):Nat→List Int
 | 0=>l0
 | j+1=>(On l0 l j).set (nth l j).toNat 1099511627776
theorem AY(l0 l:List Int):∀j,(On l0 l j).length=l0.length
 | 0=>rfl
 | j+1=>by simp only[On,List.length_set,AY l0 l j]
theorem JP{l0:List Int}(h:bnd l0)(l:List Int):∀j,bnd (On l0 l j)
 | 0=>h
 | j+1=>xd (JP h l j) (by omega) (by omega)
def K5(m:bh)(w:Wh)(l:List Int)(a b bl:Int):Wh×Int:=
 if oO m w l a b≠0 then(w,oO m w l a b)else if ¬inT bl then(w,8)else if b<w.time then(w,42)else if b-max a w.time≤bl then(w,0)else
 (⟨b,eB m b none (eB m (b-bl) (some l) (On w.frm l l.length))⟩,0)
theorem aiW{m:bh}(h:m.ok)(w:Wh)(hl:w.frm.length≤1000000)(l:List Int)(hp:l.length≤1000000)(a b bl:Int):
 aW 0 N.dQ [.t m.e,.t w.e,.t (tL l),I a,I b,I bl] []=some (.tup [.t (K5 m w l a b bl).1.e,I (K5 m w l a b bl).2],[]):=by
 refine aA K.sO rfl ?_
 have as:=Qf h w hl l hp a b
 have cp:=JL w (by omega)
 have ib:=AX bl
 have np:=h.np
 unfold K5
 by_cases h0:oO m w l a b=0
 · obtain⟨v1,v2,v3,v4,v5,v6⟩:=qF h0
   obtain⟨w1,w2,w3,w4⟩:=jh v1
   have hlen:=JM v3
   rw[h0]at as ⊢
   obtain⟨time,frm⟩:=w
   simp only at*
   by_cases h1:inT bl
   · by_cases h2:b<time
     · simp only[h1,decide_true]at ib
       simp(disch:=omega)only[go_sem,K.dQ,↓reduceIte,as,ib,cp,h1,h2,ne_eq,not_true_eq_false,not_false_eq_true]
     · simp only[h1,decide_true]at ib
       unfold inT at v4 v5 w2 h1
       by_cases h3:b-max a time≤bl
       · simp(disch:=omega)only[go_sem,K.dQ,↓reduceIte,as,ib,cp,h1,h2,h3,ne_eq,not_true_eq_false,not_false_eq_true,inT,and_self]
       · have hb:bnd frm:=fun x hx=>sV (w3 x hx)
         have ln:=AY frm l
         have lb:=JP hb l
         have loop:∀x y z u v w:D,exS aW K.wW ⟨[x,y,.t (tL l),z,I b,I bl,.bp 0 0,u,.bp 2 0,v,w,.ref 3 0 frm.length,I 0],[.box (af m),.box [I time,.t (tL frm)],.box [I 0,.nil],.arr 1 false 0 ((frm.map (T.int .i64)).map .t)]⟩=
          some (.exit 0,⟨[.und,.und,.t (tL l),.und,I b,I bl,.bp 0 0,.und,.bp 2 0,.und,.und,.ref 3 0 frm.length,I l.length],[.box (af m),.box [I time,.t (tL frm)],.box [I 0,.nil],.arr 1 false 0 (((On frm l l.length).map (T.int .i64)).map .t)]⟩):=by
          intro x y z u v w
          refine dm (fun j=>⟨[.und,.und,.t (tL l),.und,I b,I bl,.bp 0 0,.und,.bp 2 0,.und,.und,.ref 3 0 frm.length,I j],[.box (af m),.box [I time,.t (tL frm)],.box [I 0,.nil],.arr 1 false 0 (((On frm l j).map (T.int .i64)).map .t)]⟩) l.length rfl ?_ ?_ (by simp)
          · intro j hj
            obtain⟨p1,p2, -⟩:=vi v3 hj
            have lj:=ln j
            simp(disch:=omega)only[go_sem,K.ql,↓reduceIte,On]
          · simp(disch:=omega)only[go_sem,K.ql,↓reduceIte]
         have hi:∀s,some l=some s→s≠[]∧s.length≤64:=by
          intro s hs;cases hs;exact⟨v2,by omega⟩
         have ln:=ln l.length
         have lb:=lb l.length
         have t1:inT (b-bl):=by unfold inT;omega
         have c1:=EC h (b-bl) (by omega) (by omega) (some l) hi _ (by omega) lb
         simp only[sU]at c1
         have c2:=ED h b v5 (eB m (b-bl) (some l) (On frm l l.length)) (pA h _ t1 _ hi (by omega) lb) (IH h _ t1 _ hi (by omega) lb)
         have c3:=c1.1
         unfold eB at c2 ⊢
         clear c1
         simp(disch:=omega)only[go_sem,K.dQ,↓reduceIte,as,ib,loop,c2,c3,ln,h1,h2,h3,ne_eq,not_true_eq_false,not_false_eq_true,inT,and_self,reduceAdd,reduceSub]
   · simp only[h1,decide_false]at ib
     simp(disch:=omega)only[go_sem,K.dQ,↓reduceIte,as,ib,cp,h1,ne_eq,not_true_eq_false,not_false_eq_true]
 · obtain⟨time,frm⟩:=w
   simp only at*
   simp(disch:=omega)only[go_sem,K.dQ,↓reduceIte,as,cp,h0,ne_eq,not_false_eq_true]
def Rr(a b:List Int):Nat→List Int
 | 0=>[]
 | j+1=>Rr a b j++[min (nth a j) (nth b j)]
theorem r6(a b:List Int):∀j,(Rr a b j).length=j
 | 0=>rfl
 | j+1=>by simp[Rr,r6 a b j]
def rO(a b:Wh):Wh×Int:=if a.frm.length=b.frm.length then(⟨max a.time b.time,Rr a.frm b.frm a.frm.length⟩,0)else(⟨0,[]⟩,6)
theorem ab3(a b:Wh)(ha:a.frm.length≤1000000):aW 0 N.jI [.t a.e,.t b.e] []=some (.tup [.t (rO a b).1.e,I (rO a b).2],[]):=by
 refine aA K.w9 rfl ?_
 obtain⟨t1,l1⟩:=a
 obtain⟨t2,l2⟩:=b
 simp only[rO]at*
 by_cases hl:l1.length=l2.length
 · have ln:=r6 l1 l2
   have loop:∀x y z:D,exS aW K.AU ⟨[x,y,.bp 0 0,.bp 1 0,.bp 2 0,z,.bp 3 0,I 0],[.box [I t1,.t (tL l1)],.box [I t2,.t (tL l2)],.box [I 0,.nil],.box [I (max t1 t2),.ref 5 0 0],.arr 1 false 0 [],.arr 1 false 0 []]⟩=
    some (.exit 0,⟨[.und,.und,.bp 0 0,.bp 1 0,.bp 2 0,.und,.bp 3 0,I l1.length],[.box [I t1,.t (tL l1)],.box [I t2,.t (tL l2)],.box [I 0,.nil],.box [I (max t1 t2),.ref 5 0 l1.length],.arr 1 false 0 [],.arr 1 false 0 (((Rr l1 l2 l1.length).map (T.int .i64)).map .t)]⟩):=by
    intro x y z
    refine dm (fun j=>⟨[.und,.und,.bp 0 0,.bp 1 0,.bp 2 0,.und,.bp 3 0,I j],[.box [I t1,.t (tL l1)],.box [I t2,.t (tL l2)],.box [I 0,.nil],.box [I (max t1 t2),.ref 5 0 j],.arr 1 false 0 [],.arr 1 false 0 (((Rr l1 l2 j).map (T.int .i64)).map .t)]⟩) l1.length rfl ?_ ?_ (by simp)
    · intro j hj
      have lj:=ln j
      simp(disch:=omega)only[go_sem,K.sM,↓reduceIte,Rr,reduceAdd,reduceSub]
      done
    · simp(disch:=omega)only[go_sem,K.sM,↓reduceIte]
   have ln:=ln l1.length
   simp(disch:=omega)only[go_sem,K.jI,↓reduceIte,loop]
 · simp(disch:=omega)only[go_sem,K.jI,↓reduceIte,hl]
   rfl
structure Spn where
 low:Int
 high:Int
instance : Dat Spn := ⟨⟨0, 0⟩⟩
abbrev Spn.e(f:Spn):T:= .agg [tI f.low,tI f.high]
abbrev tS(l:List Spn):T:= .sl (l.map Spn.e)
def Spn.ok(f:Spn):Prop:= -1125899906842624≤f.low∧f.high≤1125899906842624∧f.low≤f.high
instance (f : Spn) : Decidable f.ok := by unfold Spn.ok; infer_instance
theorem LX(f:Spn):aW 0 N.kJ [.t f.e] []=some (B (decide f.ok),[]):=by
 refine aA K.w6 rfl ?_
 unfold Spn.ok
 by_cases h1: -1125899906842624≤f.low<;>by_cases h2:f.high≤1125899906842624<;>by_cases h3:f.low≤f.high<;>simp(disch:=omega)only[go_sem,K.kJ,↓reduceIte,h1,h2,h3]
def ky(m:bh)(l:List Spn):Bool:=(List.range l.length).all (fun j=>decide (nth l j).ok)&&decide (l.length=m.roads.length)
theorem Fw{m:bh}{l:List Spn}(h:ky m l=true):l.length=m.roads.length∧∀j,j<l.length→(nth l j).ok:=by
 simp only[ky,aLr,decide_eq_true_eq,aLx,aLu]at h
 exact⟨h.2,h.1⟩
theorem JQ(m:bh)(hm:m.roads.length≤1000000)(l:List Spn)(hl:l.length≤1000000):aW 0 N.gz [.t m.e,.t (tS l)] []=some (B (ky m l),[]):=by
 refine aA K.uO rfl ?_
 have loop:∀a b:D,exS aW K.yM ⟨[a,.t (tS l),.bp 0 0,b,I 0],[.box (af m)]⟩=
  some (match (List.range l.length).find? (fun j=> !decide (nth l j).ok)with
   | some j=>(.ret,⟨[.und,.t (tS l),.bp 0 0,B false,I j],[.box (af m)]⟩)
   | none=>(.exit 0,⟨[.und,.t (tS l),.bp 0 0,.und,I l.length],[.box (af m)]⟩)):=by
  intro a b
  refine cL (fun j=>⟨[.und,.t (tS l),.bp 0 0,.und,I j],[.box (af m)]⟩) l.length (fun j=> !decide (nth l j).ok) _ _ rfl ?_ ?_ ?_ (by simp)
  · intro j hj hp
    have s:=LX (nth l j)
    have hp:(nth l j).ok:=by simpa using hp
    simp only[hp,decide_true]at s
    simp(disch:=omega)only[go_sem,K.oD,↓reduceIte,s]
  · intro j hj hp
    have s:=LX (nth l j)
    have hp:¬(nth l j).ok:=by simpa using hp
    simp only[hp,decide_false]at s
    simp(disch:=omega)only[go_sem,K.oD,↓reduceIte,s]
    simp
  · simp(disch:=omega)only[go_sem,K.oD,↓reduceIte]
 unfold ky
 rw[qE]
 simp(disch:=omega)only[go_sem,K.gz,↓reduceIte,loop]
 cases hf:(List.range l.length).find? (fun j=> !decide (nth l j).ok)with
 | some j=>simp(disch:=omega)only[go_sem,↓reduceIte,Option.isNone,Bool.false_and]
 | none=>
   by_cases he:l.length=m.roads.length
   · simp(disch:=omega)only[go_sem,↓reduceIte,Option.isNone,he,Bool.true_and,decide_true]
   · simp(disch:=omega)only[go_sem,↓reduceIte,Option.isNone,he,Bool.true_and,decide_false]
def jN(x:Road)(f:Spn)(back:Bool):Int:=
 if x.closed=true then -1 else
 let g:=if back then -f.low else f.high
 let out:=if 0<g then(x.len*x.area*1000).tdiv g else -1
 if(if back then f.low<500*x.area else -500*x.area<f.high)∧(out<0∨x.len<out)then x.len else out
theorem II{n:Nat}{x:Road}(h:x.ok n){f:Spn}(back:Bool): -1≤jN x f back∧jN x f back≤100000000000:=by
 have l0:=h.l0;have l1:=h.l1;have a0:=h.a0;have a1:=h.a1
 have hm:0≤x.len*x.area:=Int.mul_nonneg (by omega) (by omega)
 have hm2:x.len*x.area≤100000*1000:=Int.mul_le_mul l1 a1 (by omega) (by omega)
 unfold jN
 simp only
 split
 · omega
 · have key:∀g:Int, -1≤(if 0<g then(x.len*x.area*1000).tdiv g else -1)∧(if 0<g then(x.len*x.area*1000).tdiv g else -1)≤100000000000:=by
    intro g
    split
    · have:=sR (a:=x.len*x.area*1000) (b:=g) (by omega) (by omega)
      omega
    · omega
   cases back with
   | false=>
     have k:=key f.high
     simp only[aLt,↓reduceIte]
     generalize (if 0<f.high then(x.len*x.area*1000).tdiv f.high else -1)=o at*
     split<;>omega
   | true=>
     have k:=key (-f.low)
     simp only[↓reduceIte]
     generalize (if 0< -f.low then(x.len*x.area*1000).tdiv (-f.low)else -1)=o at*
     split<;>omega
theorem AZ{m:bh}(h:m.ok)(k:Nat)(hk:k<m.roads.length)(f:Spn)(hf:f.ok)(back:Bool):
 aW 0 N.bX [.t m.e,I k,.t f.e,B back] []=some (I (jN (nth m.roads k) f back),[]):=by
 refine aA K.sH rfl ?_
 have nr:=h.nr
 have ok:=h.rs _ (ai hk)
 obtain⟨lo,hi⟩:=f
 unfold Spn.ok at hf
 unfold jN
 generalize hx:nth m.roads k=x at*
 have l0:=ok.l0;have l1:=ok.l1;have a0:=ok.a0;have a1:=ok.a1
 obtain⟨frm,to,len,area,walk,closed,rl,rh,ll,lh⟩:=x
 simp only at l0 l1 a0 a1 hf ⊢
 clear ok
 have hm:0≤len*area:=Int.mul_nonneg (by omega) (by omega)
 have hm2:len*area≤100000*1000:=Int.mul_le_mul l1 a1 (by omega) (by omega)
 cases closed with
 | true=>simp(disch:=omega)only[go_sem,K.bX,↓reduceIte,hx]
 | false=>
   cases back with
   | false=>
     by_cases c1:0<hi
     · have g1:=sR (a:=len*area*1000) (b:=hi) (by omega) (by omega)
       by_cases c2:len<(len*area*1000).tdiv hi
       · simp(disch:=omega)only[go_sem,K.bX,↓reduceIte,hx,c1,c2,and_self,or_true,and_true,aLt]
       · simp(disch:=omega)only[go_sem,K.bX,↓reduceIte,hx,c1,c2,and_self,or_false,and_true,and_false,aLt]
     · by_cases c2: -500*area<hi
       · simp(disch:=omega)only[go_sem,K.bX,↓reduceIte,hx,c1,c2,and_self,true_or,and_true,aLt]
       · simp(disch:=omega)only[go_sem,K.bX,↓reduceIte,hx,c1,c2,false_and,aLt]
   | true=>
     have w:IntKind.i64.wrap (-lo)= -lo:=Cg (by omega) (by omega)
     by_cases c1:0< -lo
     · have g1:=sR (a:=len*area*1000) (b:= -lo) (by omega) (by omega)
       by_cases c2:len<(len*area*1000).tdiv (-lo)
       · simp(disch:=omega)only[go_sem,K.bX,↓reduceIte,hx,c1,c2,w,Int.zero_sub,and_self,or_true,and_true,aLt]
       · simp(disch:=omega)only[go_sem,K.bX,↓reduceIte,hx,c1,c2,w,Int.zero_sub,and_self,or_false,and_true,and_false,aLt]
     · by_cases c2:lo<500*area
       · simp(disch:=omega)only[go_sem,K.bX,↓reduceIte,hx,c1,c2,w,Int.zero_sub,and_self,true_or,and_true,aLt]
       · simp(disch:=omega)only[go_sem,K.bX,↓reduceIte,hx,c1,c2,w,Int.zero_sub,false_and,aLt]
end Go.Ev
