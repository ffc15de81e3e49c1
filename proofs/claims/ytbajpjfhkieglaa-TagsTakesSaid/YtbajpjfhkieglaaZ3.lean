/- Parts of the proof: see the text that holds the theorem. -/
import Derived.Test.YtbajpjfhkieglaaZ2
set_option linter.all false
set_option maxRecDepth 100000
namespace Go.Ev
open Go
abbrev I(n:Int):D:= .t (.int .i64 n)
abbrev B(b:Bool):D:= .t (.bool b)
def qM{β:Type}(call:ah):List R→List D→List D→ab→(List D→List D→ab→Option β)→Option β
 | rs,L,vs,H,K=>(evR call rs L vs H).bind fun q=>K q.1 q.2.1 q.2.2
def yQ{β:Type}(call:ah)(rs:List R)(d:Option Nat)(L vs:List D)(K:List D→List D→ab→Option β)(p:D×ab):Option β:=
 qM call rs (p.1::L) (wr vs d p.1) p.2 K
@[go_sem] theorem Io {β : Type} (call : ah) (rs : List R) (d : Option Nat) (L vs : List D) (K : List D → List D → ab → Option β) (x : D) (H : ab) :
 yQ call rs d L vs K (x,H)=qM call rs (x::L) (wr vs d x) H K:=(rfl)
@[go_sem] theorem Ip {β : Type} (call : ah) (L vs : List D) (H : ab) (K : List D → List D → ab → Option β) : qM call [] L vs H K = K L vs H := (rfl)
@[go_sem] theorem Fj {β : Type} (call : ah) (o : O) (d : Option Nat) (rs : List R) (L vs : List D) (H : ab) (K : List D → List D → ab → Option β) :
 qM call (⟨o,d,none⟩::rs) L vs H K=(evO call (X.get vs L) H o).bind (yQ call rs d L vs K):=by
 simp[qM,evR,aN,Option.bind_assoc]
 rfl
def gate{β:Type}(c:Option D)(w:Bool)(a b:Option β):Option β:=match c with
 | some (.t (.bool x))=>if x=w then a else b
 | some (.tup [])=>b
 | _=>none
@[congr] theorem Cf {β : Type} {c c' : Option D} {w : Bool} {a b : Option β} (h : True → c = c') : gate c w a b = gate c' w a b := by rw [h trivial]
@[go_sem] theorem Iq {β : Type} (p : Prop) [Decidable p] (a b : Option β) : gate (some (.t (.bool (decide p)))) true a b = if p then a else b := by
 by_cases h:p<;>simp[gate,h]
@[go_sem] theorem Fk {β : Type} (p : Prop) [Decidable p] (a b : Option β) : gate (some (.t (.bool (decide p)))) false a b = if p then b else a := by
 by_cases h:p<;>simp[gate,h]
@[go_sem] theorem Fl {β : Type} (x : Bool) (a b : Option β) : gate (some (.t (.bool x))) true a b = if x = true then a else b := (rfl)
@[go_sem] theorem Cg {β : Type} (x : Bool) (a b : Option β) : gate (some (.t (.bool x))) false a b = if x = true then b else a := by cases x <;> rfl
@[go_sem] theorem Fm {β : Type} (w : Bool) (a b : Option β) : gate (some (.tup [])) w a b = b := (rfl)
@[go_sem] theorem Fo {β : Type} (call : ah) (o : O) (d : Option Nat) (k : Nat) (w : Bool) (rs : List R) (L vs : List D) (H : ab) (K : List D → List D → ab → Option β) :
 qM call (⟨o,d,some (k,w)⟩::rs) L vs H K=gate L[k]? w ((evO call (X.get vs L) H o).bind (yQ call rs d L vs K)) (qM call rs (.tup []::L) (wr vs d (.tup [])) H K):=by
 simp only[qM,evR,aN]
 cases hL:L[k]? with
 | none=>simp[gate]
 | some c=>
   simp only[Option.bind_some]
   cases c with
   | t x=>
     cases x with
     | bool b=>cases b<;>cases w<;>simp[gate,Option.bind_assoc]<;>rfl
     | _=>simp[gate]
   | tup ds=>
     cases ds with
     | nil=>simp[gate]
     | cons=>simp[gate]
   | _=>simp[gate]
open Classical in
noncomputable def iV{β:Type}(p:Prop)(x:Option β):Option β:=if p then x else none
@[go_sem] theorem yR {β : Type} (x : Option β) : iV True x = x := by simp [iV]
noncomputable def mQ{β:Type}(call:ah)(all:List R)(n:Nat)(ps:List (Nat×Nat))(rs:List R)(L vs:List D)(H:ab)(acc:List Tr)(K:List D→List D→ab→Option β):Option β:=
 (evR call rs L vs H).bind fun q=>iV (eM call all n ((trace call rs L vs H).reverse++acc) ps) (K q.1 q.2.1 q.2.2)
noncomputable def r7{β:Type}(call:ah)(all:List R)(n:Nat)(ps:List (Nat×Nat))(rs:List R)(d:Option Nat)(L vs:List D)(H:ab)(acc:List Tr)(K:List D→List D→ab→Option β)(p:D×ab):Option β:=
 mQ call all n ps rs (p.1::L) (wr vs d p.1) p.2 ((L,vs,H)::acc) K
@[go_sem] theorem Ir {β : Type} (call : ah) (all : List R) (n : Nat) (ps : List (Nat × Nat)) (rs : List R) (d : Option Nat) (L vs : List D) (H : ab) (acc : List Tr) (K : List D → List D → ab → Option β) (x : D) (H' : ab) :
 r7 call all n ps rs d L vs H acc K (x,H')=mQ call all n ps rs (x::L) (wr vs d x) H' ((L,vs,H)::acc) K:=(rfl)
@[go_sem] theorem Is {β : Type} (call : ah) (all : List R) (n : Nat) (ps : List (Nat × Nat)) (L vs : List D) (H : ab) (acc : List Tr) (K : List D → List D → ab → Option β) :
 mQ call all n ps [] L vs H acc K=iV (eM call all n ((L,vs,H)::acc) ps) (K L vs H):=by
 simp[mQ,evR,trace]
theorem mR{β:Type}(call:ah)(all:List R)(n:Nat)(ps:List (Nat×Nat))(r:R)(rs:List R)(L vs:List D)(H:ab)(acc:List Tr)(K:List D→List D→ab→Option β):
 mQ call all n ps (r::rs) L vs H acc K=(aN L r.g).bind fun w=>
  if w then(evO call (X.get vs L) H r.o).bind (r7 call all n ps rs r.d L vs H acc K)else mQ call all n ps rs (.tup []::L) (wr vs r.d (.tup [])) H ((L,vs,H)::acc) K:=by
 obtain hw | ⟨w,hw⟩:aN L r.g=none∨∃w,aN L r.g=some w:=by cases aN L r.g<;>simp
 · simp[mQ,evR,trace,hw]
 · cases w with
   | true=>
     obtain hq | ⟨q,hq⟩:evO call (X.get vs L) H r.o=none∨∃q,evO call (X.get vs L) H r.o=some q:=by cases evO call (X.get vs L) H r.o<;>simp
     · simp[mQ,evR,trace,hw,hq]
     · simp[mQ,evR,trace,hw,hq,r7]
   | false=>simp[mQ,evR,trace,hw]
@[go_sem] theorem Fp {β : Type} (call : ah) (all : List R) (n : Nat) (ps : List (Nat × Nat)) (o : O) (d : Option Nat) (rs : List R) (L vs : List D) (H : ab) (acc : List Tr) (K : List D → List D → ab → Option β) :
 mQ call all n ps (⟨o,d,none⟩::rs) L vs H acc K=(evO call (X.get vs L) H o).bind (r7 call all n ps rs d L vs H acc K):=by
 rw[mR];simp[aN]
@[go_sem] theorem Fq {β : Type} (call : ah) (all : List R) (n : Nat) (ps : List (Nat × Nat)) (o : O) (d : Option Nat) (k : Nat) (w : Bool) (rs : List R) (L vs : List D) (H : ab) (acc : List Tr) (K : List D → List D → ab → Option β) :
 mQ call all n ps (⟨o,d,some (k,w)⟩::rs) L vs H acc K=
  gate L[k]? w ((evO call (X.get vs L) H o).bind (r7 call all n ps rs d L vs H acc K)) (mQ call all n ps rs (.tup []::L) (wr vs d (.tup [])) H ((L,vs,H)::acc) K):=by
 rw[mR]
 simp only[aN]
 cases hL:L[k]? with
 | none=>simp[gate]
 | some c=>
   simp only[Option.bind_some]
   cases c with
   | t x=>
     cases x with
     | bool b=>cases b<;>cases w<;>simp[gate]
     | _=>simp[gate]
   | tup ds=>
     cases ds with
     | nil=>simp[gate]
     | cons=>simp[gate]
   | _=>simp[gate]
def je(call:ah):Option R→Option Tr→Option Tr→Option Tr→Prop
 | some r,some s,some a,some s'=>(match r.o with
   | .al _ _=>a.2.2[s.2.2.length]?=s'.2.2[s.2.2.length]?
   | .bs xs _=>aN s.1 r.g=some false∨((aO (X.get s.2.1 s.1) xs).bind ei).isSome=true
   | o=>fR o=true∧(aN s.1 r.g=some false∨kP (evO call (X.get s.2.1 s.1) a.2.2 o)=kP (evO call (X.get s.2.1 s.1) s.2.2 o)))
 | _,_,_,_=>False
@[go_sem] theorem Ch (call : ah) (all : List R) (n : Nat) (acc : List Tr) : eM call all n acc [] = True := (rfl)
@[go_sem] theorem yS (call : ah) (all : List R) (n : Nat) (acc : List Tr) (p m : Nat) (r : List (Nat × Nat)) :
 eM call all n acc ((p,m)::r)=(je call all[p]? acc[n-p]? acc[n-m]? acc[n-(p+1)]?∧m≤n∧eM call all n acc r):=by
 simp only[eM,yP,je]
 try rfl
section
variable (call : ah) (d : Option Nat) (gd : Option (Nat × Bool)) (L vs L' vs' : List D) (H H' : ab) (s' : Tr)
@[go_sem] theorem It (x : X) (n : Nat) (agg : Bool) : je call (some ⟨.ld x n agg, d, gd⟩) (some (L, vs, H)) (some (L', vs', H')) (some s') =
 (aN L gd=some false∨kP (evO call (X.get vs L) H' (.ld x n agg))=kP (evO call (X.get vs L) H (.ld x n agg))):=by simp[je,fR]
@[go_sem] theorem Iu (x i : X) (sz : Nat) : je call (some ⟨.ia x i sz, d, gd⟩) (some (L, vs, H)) (some (L', vs', H')) (some s') =
 (aN L gd=some false∨kP (evO call (X.get vs L) H' (.ia x i sz))=kP (evO call (X.get vs L) H (.ia x i sz))):=by simp[je,fR]
@[go_sem] theorem Iv (x : X) (lo hi : Option X) (sz : Nat) : je call (some ⟨.sc x lo hi sz, d, gd⟩) (some (L, vs, H)) (some (L', vs', H')) (some s') =
 (aN L gd=some false∨kP (evO call (X.get vs L) H' (.sc x lo hi sz))=kP (evO call (X.get vs L) H (.sc x lo hi sz))):=by simp[je,fR]
@[go_sem] theorem Fs (x : X) (z : T) (sz : Nat) : je call (some ⟨.mkt x z sz, d, gd⟩) (some (L, vs, H)) (some (L', vs', H')) (some s') =
 (aN L gd=some false∨kP (evO call (X.get vs L) H' (.mkt x z sz))=kP (evO call (X.get vs L) H (.mkt x z sz))):=by simp[je,fR]
@[go_sem] theorem Iw (z : List D) (l : List (Nat × Nat)) (L2 vs2 : List D) (H2 : ab) : je call (some ⟨.al z l, d, gd⟩) (some (L, vs, H)) (some (L', vs', H')) (some (L2, vs2, H2)) = (H'[H.length]? = H2[H.length]?) := (rfl)
@[go_sem] theorem Ix (xs : List X) (sz : Nat) : je call (some ⟨.bs xs sz, d, gd⟩) (some (L, vs, H)) (some (L', vs', H')) (some s') =
 (aN L gd=some false∨((aO (X.get vs L) xs).bind ei).isSome=true):=(rfl)
@[go_sem] theorem wN (L : List D) : aN L none = some true := (rfl)
def yT(w:Bool):Option D→Option Bool
 | some (.t (.bool b))=>some (b==w)
 | some (.tup [])=>some false
 | _=>none
@[go_sem] theorem Ci (w b : Bool) : yT w (some (.t (.bool b))) = some (b == w) := (rfl)
@[go_sem] theorem Ft (w : Bool) : yT w (some (.tup [])) = some false := (rfl)
@[go_sem] theorem wO (L : List D) (k : Nat) (w : Bool) : aN L (some (k, w)) = yT w L[k]? := by
 simp only[aN]
 cases L[k]? with
 | none=>rfl
 | some c=>cases c with
   | t x=>cases x<;>rfl
   | tup ds=>cases ds<;>rfl
   | _=>rfl
@[go_sem] theorem Fu (x : D) : kP (some (x, H)) = some x := (rfl)
attribute [go_sem] beq_true beq_false or_true true_or or_self
end
theorem pj(call:ah)(rs:List R)(vs:List D)(H:ab):qL call rs [] vs H=evR call rs [] vs H:=by
 simp[qL,eM]
def KH(L vs:List D)(H:ab):Option (Ex×St):=some (.normal,⟨vs,H⟩)
noncomputable def KI(call:ah)(k:Nat)(a b:C)(L vs:List D)(H:ab):Option (Ex×St):=bH L[k]? (exS call a ⟨vs,H⟩) (exS call b ⟨vs,H⟩)
@[go_sem] theorem KJ (L vs : List D) (H : ab) : KH L vs H = some (.normal, ⟨vs, H⟩) := (rfl)
@[go_sem] theorem KK (call : ah) (k : Nat) (a b : C) (L vs : List D) (H : ab) : KI call k a b L vs H = bH L[k]? (exS call a ⟨vs, H⟩) (exS call b ⟨vs, H⟩) := (rfl)
def andThen(x:Option (Ex×St))(k:St→Option (Ex×St)):Option (Ex×St):=x.bind fun p=>bK p k
@[go_sem] theorem tG (st : St) (k : St → Option (Ex × St)) : andThen (some (.normal, st)) k = k st := (rfl)
@[go_sem] theorem yU (st : St) (k : St → Option (Ex × St)) : andThen (some (.ret, st)) k = some (.ret, st) := (rfl)
@[go_sem] theorem wP (i : Nat) (st : St) (k : St → Option (Ex × St)) : andThen (some (.exit i, st)) k = some (.exit i, st) := (rfl)
@[go_sem] theorem wQ (k : St → Option (Ex × St)) : andThen none k = none := (rfl)
@[go_sem] theorem andThen_ite (c : Prop) [Decidable c] (a b : Option (Ex × St)) (k : St → Option (Ex × St)) : andThen (if c then a else b) k = if c then andThen a k else andThen b k := by
 split<;>rfl
@[go_sem] theorem Iy (call : ah) (st : St) : exS call .skip st = some (.normal, st) := (rfl)
@[go_sem] theorem KL (call : ah) (rs : List R) (vs : List D) (H : ab) : exS call (.reg rs []) ⟨vs, H⟩ = qM call rs [] vs H KH := by
 simp only[exS,pj,qM]
 cases evR call rs [] vs H<;>rfl
@[go_sem] theorem Iz (call : ah) (rs : List R) (p : Nat × Nat) (ps : List (Nat × Nat)) (vs : List D) (H : ab) :
 exS call (.reg rs (p::ps)) ⟨vs,H⟩=mQ call rs rs.length (p::ps) rs [] vs H [] KH:=by
 simp only[exS,qL,mQ,List.append_nil]
 by_cases h:eM call rs rs.length (trace call rs [] vs H).reverse (p::ps)
 · rw[if_pos h]
   simp only[iV,if_pos h]
   cases evR call rs [] vs H<;>rfl
 · rw[if_neg h]
   simp only[iV,if_neg h]
   cases evR call rs [] vs H<;>rfl
@[go_sem] theorem KM (call : ah) (a b : C) (st : St) : exS call (.seq a b) st = andThen (exS call a st) (exS call b) := (rfl)
@[go_sem] theorem KN (call : ah) (rs : List R) (k : Nat) (a b : C) (vs : List D) (H : ab) : exS call (.ite rs [] k a b) ⟨vs, H⟩ = qM call rs [] vs H (KI call k a b) := by
 simp only[exS,pj,qM]
 cases evR call rs [] vs H<;>rfl
@[go_sem] theorem IA (call : ah) (rs : List R) (p : Nat × Nat) (ps : List (Nat × Nat)) (k : Nat) (a b : C) (vs : List D) (H : ab) :
 exS call (.ite rs (p::ps) k a b) ⟨vs,H⟩=mQ call rs rs.length (p::ps) rs [] vs H [] (KI call k a b):=by
 simp only[exS,qL,mQ,List.append_nil]
 by_cases h:eM call rs rs.length (trace call rs [] vs H).reverse (p::ps)
 · rw[if_pos h]
   simp only[iV,if_pos h]
   cases evR call rs [] vs H<;>rfl
 · rw[if_neg h]
   simp only[iV,if_neg h]
   cases evR call rs [] vs H<;>rfl
@[go_sem] theorem KO (call : ah) (rs : List R) (ps : List (Nat × Nat)) (k : Nat) (a b c : C) (st : St) : exS call (.its rs ps k a b c) st = andThen (exS call (.ite rs ps k a b) st) (exS call c) := (rfl)
@[go_sem] theorem KP (call : ah) (rs : List R) (ps : List (Nat × Nat)) (k : Nat) (a b c : C) (st : St) : exS call (.itk rs ps k a b c) st = exS call (.ite rs ps k (.seq a c) (.seq b c)) st := (rfl)
@[go_sem] theorem KQ (call : ah) (j : Nat) (a b : C) (vs : List D) (H : ab) : exS call (.itv j a b) ⟨vs, H⟩ = bH vs[j]? (exS call a ⟨vs, H⟩) (exS call b ⟨vs, H⟩) := (rfl)
@[go_sem] theorem IB (call : ah) (id : Nat) (st : St) : exS call (.exit id) st = some (.exit id, st) := (rfl)
@[go_sem] theorem KR (call : ah) (st : St) : exS call .ret st = some (.ret, st) := (rfl)
@[go_sem] theorem IC (call : ah) (st : St) : exS call .fail st = none := (rfl)
@[go_sem] theorem KS (call : ah) (x p f : Nat) (r1 : List R) (p1 : List (Nat × Nat)) (r2 : List R) (p2 : List (Nat × Nat)) (vs : List D) (H : ab) : exS call (.rng x p f r1 p1 r2 p2) ⟨vs, H⟩ = (qI (stepG (qL call) vs p r1 p1 r2 p2) (tF f vs[x]?) H).map fun H => (.normal, ⟨vs, H⟩) := (rfl)
@[go_sem] theorem KT (call : ah) (v : Bool) (c : C) (st : St) : exS call (.cnd v c) st = exS call c st := (rfl)
def j8(id:Nat)(x:Option (Ex×St)):Option (Ex×St):=x.map (leave id)
@[go_sem] theorem KU (call : ah) (id : Nat) (c : C) (st : St) : exS call (.blk id c) st = j8 id (exS call c st) := (rfl)
@[go_sem] theorem wR (id : Nat) (st : St) : j8 id (some (.normal, st)) = some (.normal, st) := by simp [j8, leave]
@[go_sem] theorem Fv (id : Nat) (st : St) : j8 id (some (.ret, st)) = some (.ret, st) := by simp [j8, leave]
@[go_sem] theorem Cj (id i : Nat) (st : St) : j8 id (some (.exit i, st)) = if i = id then some (.normal, st) else some (.exit i, st) := by
 simp only[j8,leave,Option.map_some,Ex.exit.injEq]
 split<;>rfl
@[go_sem] theorem Ck (id : Nat) : j8 id none = none := (rfl)
@[go_sem] theorem Fw (id : Nat) (c : Prop) [Decidable c] (a b : Option (Ex × St)) : j8 id (if c then a else b) = if c then j8 id a else j8 id b := by
 split<;>rfl
@[congr] theorem yV {c c' : Option D} {a b : Option (Ex × St)} (h : True → c = c') : bH c a b = bH c' a b := by rw [h trivial]
@[go_sem] theorem Fx (p : Prop) [Decidable p] (a b : Option (Ex × St)) : bH (some (.t (.bool (decide p)))) a b = if p then a else b := by
 by_cases h:p<;>simp[bH,h]
@[go_sem] theorem Cl (p : Prop) [Decidable p] (a b : Option (Ex × St)) : bH (some (.t (.bool (!decide p)))) a b = if p then b else a := by
 by_cases h:p<;>simp[bH,h]
@[go_sem] theorem ID (a : Option (Ex × St)) : bH (some .ub) a a = a := by simp [bH]
@[go_sem] theorem Cm (x : Bool) (a b : Option (Ex × St)) : bH (some (.t (.bool x))) a b = if x = true then a else b := (rfl)
def eO(gc:Bool)(dead:List Nat)(k:Nat)(x:Option (Ex×St)):Option St:=x.bind fun p=>match p.1 with
 | .normal=>tidy gc dead k p.2
 | _=>none
@[go_sem] theorem uW (gc : Bool) (dead : List Nat) (k : Nat) (st : St) : eO gc dead k (some (.normal, st)) = tidy gc dead k st := (rfl)
@[go_sem] theorem Cn (gc : Bool) (dead : List Nat) (k : Nat) (c : Prop) [Decidable c] (a b : Option (Ex × St)) : eO gc dead k (if c then a else b) = if c then eO gc dead k a else eO gc dead k b := by
 split<;>rfl
theorem kQ{gc:Bool}{dead:List Nat}{body:St→Option (Ex×St)}{st st2:St}(h:eO gc dead st.H.length (body st)=some st2)
 {p:Ex×St} (h2:eb gc dead body st2=some p):eb gc dead body st=some p:=by
 unfold eO at h
 obtain⟨⟨e,st1⟩,hq,h⟩:=Option.bind_eq_some_iff.1 h
 cases e with
 | normal=>exact kN hq h h2
 | ret=>cases h
 | exit=>cases h
theorem lG{gc:Bool}{dead:List Nat}{body:St→Option (Ex×St)}(s:Nat→St){p:Ex×St}(n:Nat)
 (h:∀j,j<n→eO gc dead (s j).H.length (body (s j))=some (s (j+1))) (he:eb gc dead body (s n)=some p):eb gc dead body (s 0)=some p:=by
 have:=iU (s:=s) n 0 (fun j _ hj=>by
  have h:=h j (by omega)
  unfold eO at h
  obtain⟨⟨e,st1⟩,hq,h⟩:=Option.bind_eq_some_iff.1 h
  cases e with
  | normal=>exact⟨st1,hq,h⟩
  | ret=>cases h
  | exit=>cases h) (by simpa using he)
 exact this
def IE(res:List (Nat×Option (Nat×Bool)))(k raw:Nat)(p:Ex×St):Option (D×ab):=match p.1 with
 | .exit _=>none
 | _=>(cl p.2 res).bind (finish k raw p.2.H)
@[go_sem] theorem IF (res : List (Nat × Option (Nat × Bool))) (k raw : Nat) (vs : List D) (H : ab) : IE res k raw (.ret, ⟨vs, H⟩) = (cl ⟨vs, H⟩ res).bind (finish k raw H) := (rfl)
@[go_sem] theorem yW (res : List (Nat × Option (Nat × Bool))) (k raw : Nat) (vs : List D) (H : ab) : IE res k raw (.normal, ⟨vs, H⟩) = (cl ⟨vs, H⟩ res).bind (finish k raw H) := (rfl)
theorem yX{fs:Nat→Option Fn}{raw f:Nat}{args:List D}{H:ab}{fn:Fn}{r:D×ab}(hf:fs f=some fn)(hn:fn.nargs=args.length)
 (h:(exS (dI fs) fn.body ⟨fN args fn.vars,H⟩).bind (IE fn.res H.length raw)=some r) (h0:fn.prim=[]:=by rfl):dI fs raw f args H=some r:=by
 obtain⟨p,hp,he⟩:=Option.bind_eq_some_iff.1 h
 exact uQ hf hn (uV _ _ _ hp) he h0
@[go_sem] theorem IG {α β : Type} (c : Prop) [Decidable c] (a b : Option α) (k : α → Option β) : (if c then a else b).bind k = if c then a.bind k else b.bind k := by
 split<;>rfl
@[go_sem] theorem KV {α β : Type} (c : Prop) [Decidable c] (a b : Option α) (k : α → β) : (if c then a else b).map k = if c then a.map k else b.map k := by
 split<;>rfl
theorem Fy(a b:Int):(a==b)=decide (a=b):=by rw[Bool.eq_iff_iff];simp
theorem r8{n:Int}(h1: -9223372036854775808≤n)(h2:n≤9223372036854775807):IntKind.i64.wrap n=n:=by
 have e:IntKind.i64.wrap n=if n % 18446744073709551616≥9223372036854775808 then n % 18446744073709551616-18446744073709551616 else n % 18446744073709551616:=by
  simp[IntKind.wrap,IntKind.signed,IntKind.bits]
 rw[e];split<;>omega
section
variable {α β : Type}
@[go_sem] theorem yY (a : α) (f : α → Option β) : (some a).bind f = f a := (rfl)
@[go_sem] theorem Co (a : α) (f : α → β) : (some a).map f = some (f a) := (rfl)
@[go_sem] theorem yZ (f : α → Option β) : (none : Option α).bind f = none := (rfl)
@[go_sem] theorem Cp (f : α → β) : (none : Option α).map f = none := (rfl)
@[go_sem] theorem Cq (a : α) (l : List α) (f : α → β) : (a :: l).map f = f a :: l.map f := (rfl)
@[go_sem] theorem FA (f : α → β) : ([] : List α).map f = [] := (rfl)
@[go_sem] theorem Cr (a : α) (l : List α) : (a :: l)[0]? = some a := (rfl)
@[go_sem] theorem Cs (a : α) (l : List α) (n : Nat) : (a :: l)[n + 1]? = l[n]? := (rfl)
@[go_sem] theorem y5 (a d : α) (l : List α) : (a :: l).getD 0 d = a := (rfl)
@[go_sem] theorem y6 (a d : α) (l : List α) (n : Nat) : (a :: l).getD (n + 1) d = l.getD n d := (rfl)
@[go_sem] theorem Ct (d : α) (n : Nat) : ([] : List α).getD n d = d := by simp
@[go_sem] theorem Cu (a b : α) (l : List α) : (a :: l).set 0 b = b :: l := (rfl)
@[go_sem] theorem Cv (a b : α) (l : List α) (n : Nat) : (a :: l).set (n + 1) b = a :: l.set n b := (rfl)
@[go_sem] theorem uX (a : α) (l m : List α) : (a :: l) ++ m = a :: (l ++ m) := (rfl)
@[go_sem] theorem wS (l : List α) : [] ++ l = l := (rfl)
@[go_sem] theorem wT (l : List α) : l ++ [] = l := by simp
@[go_sem] theorem tH (a : α) (l : List α) (f : α → List β) : (a :: l).flatMap f = f a ++ l.flatMap f := by simp
@[go_sem] theorem uY (f : α → List β) : ([] : List α).flatMap f = [] := by simp
@[go_sem] theorem wU : ([] : List α).length = 0 := (rfl)
@[go_sem] theorem uZ (a : α) (l : List α) : (a :: l).length = l.length + 1 := (rfl)
@[go_sem] theorem wV (l : List α) (f : α → β) : (l.map f).length = l.length := by simp
@[go_sem] theorem r9 (l m : List α) : (l ++ m).length = l.length + m.length := by simp
@[go_sem] theorem pn (n : Nat) (a : α) : (List.replicate n a).length = n := by simp
@[go_sem] theorem wW (l : List α) (i : Nat) (a : α) : (l.set i a).length = l.length := by simp
@[go_sem] theorem y7 (l : List α) : l.drop 0 = l := (rfl)
@[go_sem] theorem y8 (a : α) (l : List α) (n : Nat) : (a :: l).drop (n + 1) = l.drop n := (rfl)
@[go_sem] theorem Cw (n : Nat) : ([] : List α).drop n = [] := by simp
@[go_sem] theorem y9 (l : List α) : l.take 0 = [] := (rfl)
@[go_sem] theorem za (a : α) (l : List α) (n : Nat) : (a :: l).take (n + 1) = a :: l.take n := (rfl)
@[go_sem] theorem Cx (n : Nat) : ([] : List α).take n = [] := by simp
@[go_sem] theorem zb (a b : α) : (bif true then a else b) = a := (rfl)
@[go_sem] theorem wX (a b : α) : (bif false then a else b) = b := (rfl)
@[go_sem] theorem Cy (n : Nat) : n + 0 = n := (rfl)
@[go_sem] theorem Cz (n : Nat) : 0 + n = n := by simp
@[go_sem] theorem CA (a b : α) : (some a = some b) = (a = b) := by simp
@[go_sem] theorem IH (a : α) : (some a).isSome = true := (rfl)
end
attribute [go_sem] decide_true decide_false if_true if_false Bool.false_eq_true Bool.true_eq_false decide_eq_true_eq decide_eq_false_iff_not Bool.and_eq_true Bool.or_eq_true Bool.not_eq_true' Bool.not_eq_true Bool.not_eq_false
 Bool.and_true Bool.true_and Bool.and_false Bool.false_and Bool.or_true Bool.true_or Bool.or_false Bool.false_or and_true true_and and_self not_true_eq_false not_false_eq_true beq_iff_eq bne_iff_ne ne_eq
@[go_sem] theorem CB : (!true) = false := (rfl)
@[go_sem] theorem zc : (!false) = true := (rfl)
@[go_sem] theorem Oj (vs L : List D) (j : Nat) : X.get vs L (.v j) = vs[j]? := (rfl)
@[go_sem] theorem Ol (vs L : List D) (k : Nat) : X.get vs L (.l k) = L[k]? := (rfl)
@[go_sem] theorem Om (vs L : List D) (d : D) : X.get vs L (.c d) = some d := (rfl)
@[go_sem] theorem On (vs L : List D) (n : Int) : X.get vs L (.i n) = some (I n) := (rfl)
@[go_sem] theorem Oo (vs L : List D) (x : Bool) : X.get vs L (.b x) = some (B x) := (rfl)
@[go_sem] theorem KW (vs : List D) (x : D) : wr vs none x = vs := (rfl)
@[go_sem] theorem KX (vs : List D) (s : Nat) (x : D) : wr vs (some s) x = vs.set s x := (rfl)
@[go_sem] theorem CC (args : List D) : fN args [] = [] := (rfl)
@[go_sem] theorem zd (args : List D) (s : Nat) (r : List Nat) : fN args (s :: r) = args.getD s .und :: fN args r := (rfl)
def KY(H:ab)(d:D):Option (D×ab):=some (d,H)
@[go_sem] theorem KZ (H : ab) (d : D) : KY H d = some (d, H) := (rfl)
def cY{α:Type}(a:α)(l:Option (List α)):Option (List α):=l.map (a:: ·)
@[go_sem] theorem CD {α : Type} (a : α) (l : List α) : cY a (some l) = some (a :: l) := (rfl)
@[go_sem] theorem CE {α : Type} (a : α) : cY a none = none := (rfl)
@[go_sem] theorem II {α β : Type} (f : α → Option β) : aO f [] = some [] := (rfl)
def Nf{α β:Type}(f:α→Option β)(r:List α)(y:β):Option (List β):=cY y (aO f r)
@[go_sem] theorem ze {α β : Type} (f : α → Option β) (r : List α) (y : β) : Nf f r y = cY y (aO f r) := (rfl)
@[go_sem] theorem mS {α β : Type} (f : α → Option β) (x : α) (r : List α) : aO f (x :: r) = (f x).bind (Nf f r) := (rfl)
section
variable (call : ah) (get : X → Option D) (H : ab)
@[go_sem] theorem Oq (x : X) : evO call get H (.mv x) = (get x).bind (KY H) := by simp only [evO]; cases get x <;> rfl
def IJ(c a b:Option D):Option (D×ab):=c.bind fun c=>a.bind fun a=>b.bind fun b=>(uB c a b).map fun d=>(d,H)
@[go_sem] theorem Ot (c a b : X) : evO call get H (.pk c a b) = IJ H (get c) (get a) (get b) := (rfl)
@[go_sem] theorem FB (x p q : Bool) : IJ H (some (.t (.bool x))) (some (.t (.bool p))) (some (.t (.bool q))) = some (.t (.bool (bif x then p else q)), H) := by cases x <;> rfl
@[go_sem] theorem FC (a b : D) : IJ H (some (.t (.bool true))) (some a) (some b) = some (a, H) := (rfl)
@[go_sem] theorem CF (a b : D) : IJ H (some (.t (.bool false))) (some a) (some b) = some (b, H) := (rfl)
@[go_sem] theorem IK (x p : Bool) : (bif x then p else false) = (x && p) := by cases x <;> rfl
@[go_sem] theorem K0 (x q : Bool) : (bif x then true else q) = (x || q) := by cases x <;> rfl
def cg(f:BinOp)(x y:Option D):Option (D×ab):=x.bind fun a=>y.bind fun b=>(kA f a b).map fun d=>(d,H)
@[go_sem] theorem Ng (f : BinOp) (x y : X) : evO call get H (.bin f x y) = cg H f (get x) (get y) := (rfl)
section
variable (k j : IntKind) (a b : Int)
@[go_sem] theorem FD : cg H .add (some (.t (.int k a))) (some (.t (.int k b))) = some (.t (.int k (k.wrap (a + b))), H) := by simp [cg, kA, nu]
@[go_sem] theorem FE : cg H .sub (some (.t (.int k a))) (some (.t (.int k b))) = some (.t (.int k (k.wrap (a - b))), H) := by simp [cg, kA, nu]
@[go_sem] theorem FF : cg H .mul (some (.t (.int k a))) (some (.t (.int k b))) = some (.t (.int k (k.wrap (a * b))), H) := by simp [cg, kA, nu]
@[go_sem] theorem FG : cg H .quo (some (.t (.int k a))) (some (.t (.int k b))) = if b = 0 then none else some (.t (.int k (k.wrap (a.tdiv b))), H) := by simp only [cg, kA, nu]; by_cases h : b = 0 <;> simp [h]
@[go_sem] theorem FH : cg H .rem (some (.t (.int k a))) (some (.t (.int k b))) = if b = 0 then none else some (.t (.int k (a.tmod b)), H) := by simp only [cg, kA, nu]; by_cases h : b = 0 <;> simp [h]
@[go_sem] theorem FI : cg H .eql (some (.t (.int k a))) (some (.t (.int k b))) = some (.t (.bool (decide (a = b))), H) := by simp [cg, kA, nu, Fy]
@[go_sem] theorem FJ : cg H .neq (some (.t (.int k a))) (some (.t (.int k b))) = some (.t (.bool (decide (¬ a = b))), H) := by simp [cg, kA, nu, bne, Fy]
@[go_sem] theorem FK : cg H .lss (some (.t (.int k a))) (some (.t (.int k b))) = some (.t (.bool (decide (a < b))), H) := by simp [cg, kA, nu]
@[go_sem] theorem FL : cg H .leq (some (.t (.int k a))) (some (.t (.int k b))) = some (.t (.bool (decide (a ≤ b))), H) := by simp [cg, kA, nu]
@[go_sem] theorem FM : cg H .gtr (some (.t (.int k a))) (some (.t (.int k b))) = some (.t (.bool (decide (b < a))), H) := by simp [cg, kA, nu]
@[go_sem] theorem FN : cg H .geq (some (.t (.int k a))) (some (.t (.int k b))) = some (.t (.bool (decide (b ≤ a))), H) := by simp [cg, kA, nu]
@[go_sem] theorem FO (h : 0 ≤ b) : cg H .shl (some (.t (.int k a))) (some (.t (.int j b))) = some (.t (.int k (k.wrap (a * 2 ^ min b.toNat k.bits))), H) := by simp [cg, kA, kz, Int.not_lt.2 h]
@[go_sem] theorem FP (h : 0 ≤ b) : cg H .shr (some (.t (.int k a))) (some (.t (.int j b))) = some (.t (.int k (a.fdiv (2 ^ min b.toNat k.bits))), H) := by simp [cg, kA, kz, Int.not_lt.2 h]
@[go_sem] theorem FQ : cg H .and (some (.t (.int k a))) (some (.t (.int k b))) = some (.t (.int k (k.wrap (BitVec.ofInt k.bits a &&& BitVec.ofInt k.bits b).toNat)), H) := by simp [cg, kA, nu]
@[go_sem] theorem IL : cg H .or (some (.t (.int k a))) (some (.t (.int k b))) = some (.t (.int k (k.wrap (BitVec.ofInt k.bits a ||| BitVec.ofInt k.bits b).toNat)), H) := by simp [cg, kA, nu]
@[go_sem] theorem FR : cg H .xor (some (.t (.int k a))) (some (.t (.int k b))) = some (.t (.int k (k.wrap (BitVec.ofInt k.bits a ^^^ BitVec.ofInt k.bits b).toNat)), H) := by simp [cg, kA, nu]
def K1(f:UnOp)(a:D):Option (D×ab):=(unD f a).map fun d=>(d,H)
@[go_sem] theorem Ou (f : UnOp) (x : X) : evO call get H (.un f x) = (get x).bind (K1 H f) := (rfl)
@[go_sem] theorem IM (x : Bool) : K1 H .not (.t (.bool x)) = some (.t (.bool (!x)), H) := (rfl)
@[go_sem] theorem IN : K1 H .neg (.t (.int k a)) = some (.t (.int k (k.wrap (0 - a))), H) := (rfl)
def Nh(k:IntKind)(a:D):Option (D×ab):=(yb k a).map fun d=>(d,H)
@[go_sem] theorem Ov (x : X) : evO call get H (.cv k x) = (get x).bind (Nh H k) := (rfl)
@[go_sem] theorem IP : Nh H k (.t (.int j a)) = some (.t (.int k (k.wrap a)), H) := (rfl)
end
def fc(q:EqK)(neg:Bool)(x y:Option D):Option (D×ab):=x.bind fun a=>y.bind fun b=>(wG q neg a b).map fun d=>(d,H)
@[go_sem] theorem Ni (q : EqK) (neg : Bool) (x y : X) : evO call get H (.eqk q neg x y) = fc H q neg (get x) (get y) := (rfl)
@[go_sem] theorem CG (x y : Bool) : fc H .bool false (some (.t (.bool x))) (some (.t (.bool y))) = some (.t (.bool (x == y)), H) := (rfl)
@[go_sem] theorem zg (x y : Bool) : fc H .bool true (some (.t (.bool x))) (some (.t (.bool y))) = some (.t (.bool (!(x == y))), H) := (rfl)
def wY:List T→List T→Bool
 | .int _ a::xs,.int _ b::ys=>decide (a=b)&&wY xs ys
 | _,_=>true
def qd:Nat→List T→List T→Bool
 | 0,[],[]=>true
 | n+1,.int j _::xs,.int k _::ys=>decide (j=k)&&qd n xs ys
 | _,_,_=>false
@[go_sem] theorem FT (k j : IntKind) (a b : Int) (xs ys : List T) : wY (.int k a :: xs) (.int j b :: ys) = (decide (a = b) && wY xs ys) := (rfl)
@[go_sem] theorem IQ : wY [] [] = true := (rfl)
@[go_sem] theorem IS : qd 0 [] [] = true := (rfl)
@[go_sem] theorem FU (n : Nat) (k : IntKind) (a b : Int) (xs ys : List T) : qd (n + 1) (.int k a :: xs) (.int k b :: ys) = qd n xs ys := by simp [qd]
theorem j9:∀ {n:Nat} {xs ys:List T},qd n xs ys=true→xs.length=n∧dq xs ys=some (wY xs ys)
 | 0,[],[],_=>⟨rfl,rfl⟩
 | 0,[],_::_,h=>by simp[qd]at h
 | 0,_::_,_,h=>by simp[qd]at h
 | n+1,[],_,h=>by simp[qd]at h
 | n+1,x::xs,[],h=>by cases x<;>simp[qd]at h
 | n+1,x::xs,y::ys,h=>by
   cases x<;>cases y<;>simp only[qd,Bool.and_eq_true,decide_eq_true_eq,Bool.false_eq_true]at h
   obtain⟨rfl,h⟩:=h
   obtain⟨h1,h2⟩:=j9 h
   exact⟨by simp[h1],by simp[dq,h2,wY,Fy]⟩
@[go_sem] theorem CH (n : Nat) (xs ys : List T) (h : qd n xs ys = true) : fc H (.ints n) false (some (.t (.agg xs))) (some (.t (.agg ys))) = some (.t (.bool (wY xs ys)), H) := by
 obtain⟨h1,h2⟩:=j9 h;simp[fc,wG,eqD,h1,h2]
@[go_sem] theorem zh (n : Nat) (xs ys : List T) (h : qd n xs ys = true) : fc H (.ints n) true (some (.t (.agg xs))) (some (.t (.agg ys))) = some (.t (.bool (!wY xs ys)), H) := by
 obtain⟨h1,h2⟩:=j9 h;simp[fc,wG,eqD,h1,h2]
@[go_sem] theorem FV : fc H .sl false (some .nil) (some .nil) = some (.t (.bool true), H) := (rfl)
@[go_sem] theorem FW : fc H .sl false (some (.t (.sl []))) (some .nil) = some (.ub, H) := (rfl)
@[go_sem] theorem CI : fc H .sl true (some (.t (.sl []))) (some .nil) = some (.ub, H) := (rfl)
@[go_sem] theorem CJ : fc H .sl true (some .nil) (some .nil) = some (.t (.bool false), H) := (rfl)
theorem u0(es:List T)(h:es≠[]):fc H .sl false (some (.t (.sl es))) (some .nil)=some (.t (.bool false),H):=by cases es<;>first | exact(h rfl).elim | rfl
def IT(a:D):Option (D×ab):=(Ii a).map fun d=>(d,H)
@[go_sem] theorem Ow (x : X) : evO call get H (.nc x) = (get x).bind (IT H) := (rfl)
@[go_sem] theorem K2 (id off : Nat) : IT H (.bp id off) = some (.bp id off, H) := (rfl)
@[go_sem] theorem K3 (id ep n i off : Nat) : IT H (.ap id ep n i off) = some (.ap id ep n i off, H) := (rfl)
@[go_sem] theorem K4 (cs : List T) : IT H (.ep cs) = some (.ep cs, H) := (rfl)
def CK(off:Nat)(a:D):Option (D×ab):=(pS a off).map fun d=>(d,H)
@[go_sem] theorem Ox (x : X) (off : Nat) : evO call get H (.fa x off) = (get x).bind (CK H off) := (rfl)
@[go_sem] theorem K5 (id o off : Nat) : CK H off (.bp id o) = some (.bp id (o + off), H) := (rfl)
@[go_sem] theorem K6 (id ep n i o off : Nat) : CK H off (.ap id ep n i o) = some (.ap id ep n i (o + off), H) := (rfl)
@[go_sem] theorem K7 (cs : List T) (off : Nat) : CK H off (.ep cs) = some (.ep (cs.drop off), H) := (rfl)
@[go_sem] theorem Oy (cs : List D) : cut cs 0 0 = some [] := by simp [cut]
@[go_sem] theorem Oz (c : D) (cs : List D) : cut (c :: cs) 0 1 = some [c] := by simp [cut]
@[go_sem] theorem OA (c : D) (cs : List D) (n : Nat) : cut (c :: cs) 0 (n + 1) = cY c (cut cs 0 n) := by
 simp only[cut,cY];by_cases h:n≤cs.length<;>simp[h]
@[go_sem] theorem OB (c : D) (cs : List D) (off n : Nat) : cut (c :: cs) (off + 1) n = cut cs off n := by
 simp only[cut,List.length_cons,List.drop_succ_cons]
 by_cases h:off+n≤cs.length
 · rw[if_pos h,if_pos (by omega)]
 · rw[if_neg h,if_neg (by omega)]
@[go_sem] theorem FX (c : D) : bj false [c] = some c := (rfl)
@[go_sem] theorem FY (cs : List D) : bj true cs = some (fG cs) := (rfl)
def mkA(cs:List D):Option (List T)→D
 | some ts=> .t (.agg ts)
 | none=> .agg cs
@[go_sem] theorem IU (cs : List D) (ts : List T) : mkA cs (some ts) = .t (.agg ts) := (rfl)
@[go_sem] theorem IV (cs : List D) : mkA cs none = .agg cs := (rfl)
@[go_sem] theorem IW (cs : List D) : fG cs = mkA cs (ei cs) := by unfold fG; cases ei cs <;> rfl
@[go_sem] theorem IX : ei [] = some [] := (rfl)
@[go_sem] theorem Nj (x : T) (r : List D) : ei (.t x :: r) = cY x (ei r) := (rfl)
@[go_sem] theorem Nk (r : List D) : ei (.nil :: r) = none := (rfl)
@[go_sem] theorem IY (a b c : Nat) (r : List D) : ei (.ref a b c :: r) = none := (rfl)
@[go_sem] theorem IZ (a b c d e : Nat) (r : List D) : ei (.sub a b c d e :: r) = none := (rfl)
@[go_sem] theorem u9 (l : List T) : ei (l.map .t) = some l := by induction l with | nil => rfl | cons a l ih => simp [ei, ih]
def FZ(off n:Nat)(agg:Bool)(a:D):Option (D×ab):=(iK a off n agg).map fun d=>(d,H)
@[go_sem] theorem OC (x : X) (off n : Nat) (agg : Bool) : evO call get H (.fl x off n agg) = (get x).bind (FZ H off n agg) := (rfl)
def ofC(agg:Bool)(cs:Option (List D)):Option (D×ab):=(cs.bind (bj agg)).bind (KY H)
@[go_sem] theorem OD (c : D) : ofC H false (some [c]) = some (c, H) := (rfl)
@[go_sem] theorem OE (cs : List D) : ofC H true (some cs) = some (fG cs, H) := (rfl)
@[go_sem] theorem Nl (cs : List T) (off n : Nat) (agg : Bool) : FZ H off n agg (.t (.agg cs)) = ofC H agg (cut (cs.map .t) off n) := by
 simp only[FZ,iK,D.isAgg,if_true,D.cells,T.cells,ofC];cases (cut (cs.map .t) off n).bind (bj agg)<;>rfl
@[go_sem] theorem I0 (cs : List D) (off n : Nat) (agg : Bool) : FZ H off n agg (.agg cs) = ofC H agg (cut cs off n) := by
 simp only[FZ,iK,D.isAgg,if_true,D.cells,ofC];cases (cut cs off n).bind (bj agg)<;>rfl
@[go_sem] theorem K8 (n : Nat) : idx (n : Int) = some n := by simp [idx]
@[go_sem] theorem OF : idx 0 = some 0 := (rfl)
theorem zi{i:Int}(h:0≤i):idx i=some i.toNat:=by simp[idx,h]
def zj(sz:Nat)(x i:Option D):Option (D×ab):=x.bind fun a=>(i.bind intOf).bind fun n=>(la H a n sz).map fun d=>(d,H)
@[go_sem] theorem OH (x i : X) (sz : Nat) : evO call get H (.ia x i sz) = zj H sz (get x) (get i) := (rfl)
def vd(sz:Nat)(e:T):Option (D×ab):=if e.cells.length=sz then some (.ep e.cells,H)else none
def K9(sz:Nat)(es:List T)(j:Nat):Option (D×ab):=es[j]?.bind (vd H sz)
@[go_sem] theorem La (sz : Nat) (es : List T) (j : Nat) : K9 H sz es j = es[j]?.bind (vd H sz) := (rfl)
@[go_sem] theorem Lb (k : IntKind) (es : List T) (n : Int) (sz : Nat) : zj H sz (some (.t (.sl es))) (some (.t (.int k n))) = (idx n).bind (K9 H sz es) := by
 simp only[zj,Option.bind_some,intOf,la]
 cases idx n with
 | none=>rfl
 | some j=>
   simp only[Option.bind_some,K9]
   cases es[j]? with
   | none=>rfl
   | some e=>simp only[Option.bind_some,vd];split<;>rfl
@[go_sem] theorem I3 (k : IntKind) (n : Int) : vd H 1 (.int k n) = some (.ep [.int k n], H) := (rfl)
@[go_sem] theorem F3 (b : Bool) : vd H 1 (.bool b) = some (.ep [.bool b], H) := (rfl)
@[go_sem] theorem Lc (es : List T) : vd H 1 (.sl es) = some (.ep [.sl es], H) := (rfl)
def dQ{α:Type}:Nat→List α→Bool
 | 0,[]=>true
 | n+1,_::r=>dQ n r
 | _,_=>false
@[go_sem] theorem Ld {α : Type} : dQ 0 ([] : List α) = true := (rfl)
@[go_sem] theorem Le {α : Type} (n : Nat) (a : α) (l : List α) : dQ (n + 1) (a :: l) = dQ n l := (rfl)
theorem bG{α:Type}:∀ {n:Nat} {l:List α},dQ n l=true↔l.length=n
 | 0,[]=>by simp[dQ]
 | 0,_::_=>by simp[dQ]
 | n+1,[]=>by simp[dQ]
 | n+1,_::r=>by simp only[dQ,List.length_cons,Nat.add_right_cancel_iff];exact bG
@[go_sem] theorem I4 (cs : List T) (sz : Nat) : vd H sz (.agg cs) = if dQ sz cs = true then some (.ep cs, H) else none := by
 by_cases h:cs.length=sz
 · rw[vd,if_pos (show(T.agg cs).cells.length=sz from h),if_pos (bG.2 h)];rfl
 · rw[vd,if_neg (show ¬(T.agg cs).cells.length=sz from h),if_neg fun e=>h (bG.1 e)]
def zk(sz id ep n j:Nat):Option Obj→Option (D×ab)
 | some (.arr sz' _ ep' es)=>if ep=ep'∧n=es.length then(if j<n∧sz'=sz then some (.ap id ep n j 0,H)else none)else none
 | _=>none
@[go_sem] theorem I5 (k : IntKind) (id ep n : Nat) (i : Int) (sz : Nat) : zj H sz (some (.ref id ep n)) (some (.t (.int k i))) = (idx i).bind fun j => zk H sz id ep n j H[id]? := by
 simp only[zj,Option.bind_some,intOf,la]
 cases idx i with
 | none=>rfl
 | some j=>
   simp only[Option.bind_some,bN]
   generalize H[id]?=o
   rcases o with _ | (_ | ⟨sz',pin,ep',es⟩)
   · rfl
   · rfl
   · simp only[zk]
     by_cases h:ep=ep'∧n=es.length
     · rw[if_pos h,if_pos h,Option.bind_some];split<;>rfl
     · rw[if_neg h,if_neg h];rfl
@[go_sem] theorem F4 (sz id ep n j sz' : Nat) (pin : Bool) (ep' : Nat) (es : List D) : zk H sz id ep n j (some (.arr sz' pin ep' es)) =
 if ep=ep'∧n=es.length then(if j<n∧sz'=sz then some (.ap id ep n j 0,H)else none)else none:=(rfl)
def zm(sz id ep n lo hi j:Nat):Option Obj→Option (D×ab)
 | some (.arr sz' _ ep' es)=>if ep=ep'∧n=es.length then(if lo+j<hi∧hi≤n∧sz'=sz then some (.ap id ep n (lo+j) 0,H)else none)else none
 | _=>none
@[go_sem] theorem I6 (k : IntKind) (id ep n lo hi : Nat) (i : Int) (sz : Nat) : zj H sz (some (.sub id ep n lo hi)) (some (.t (.int k i))) = (idx i).bind fun j => zm H sz id ep n lo hi j H[id]? := by
 simp only[zj,Option.bind_some,intOf,la]
 cases idx i with
 | none=>rfl
 | some j=>
   simp only[Option.bind_some,bN]
   generalize H[id]?=o
   rcases o with _ | (_ | ⟨sz',pin,ep',es⟩)
   · rfl
   · rfl
   · simp only[zm]
     by_cases h:ep=ep'∧n=es.length
     · rw[if_pos h,if_pos h,Option.bind_some];split<;>rfl
     · rw[if_neg h,if_neg h];rfl
@[go_sem] theorem F5 (sz id ep n lo hi j sz' : Nat) (pin : Bool) (ep' : Nat) (es : List D) : zm H sz id ep n lo hi j (some (.arr sz' pin ep' es)) =
 if ep=ep'∧n=es.length then(if lo+j<hi∧hi≤n∧sz'=sz then some (.ap id ep n (lo+j) 0,H)else none)else none:=(rfl)
def Lf(len sz:Nat)(agg:Bool)(x i:Option D):Option (D×ab):=x.bind fun a=>(i.bind intOf).bind fun n=>(idx n).bind fun j=>(lZ a j len sz agg).map fun d=>(d,H)
def Lg(len sz:Nat)(agg:Bool)(a:D)(j:Nat):Option (D×ab):=(lZ a j len sz agg).map fun d=>(d,H)
@[go_sem] theorem OI (x i : X) (len sz : Nat) (agg : Bool) : evO call get H (.ix x i len sz agg) = Lf H len sz agg (get x) (get i) := (rfl)
@[go_sem] theorem Lh (len sz : Nat) (agg : Bool) (a : D) (k : IntKind) (n : Int) : Lf H len sz agg (some a) (some (.t (.int k n))) = (idx n).bind (Lg H len sz agg a) := by
 simp only[Lf,Option.bind_some,intOf];cases idx n<;>rfl
@[go_sem] theorem I7 (len j : Nat) (ts : List T) (h : j < len) (hs : (ts.all fun t => t.scalar) = true) : Lg H len 1 false (.t (.agg ts)) j = (ts[j]?).map fun t => (.t t, H) := by
 have h0:len≠0:=by omega
 unfold Lg lZ
 rw[if_neg h0,if_pos h]
 unfold iK cut
 simp only[D.isAgg,D.cells,T.cells,if_true,Nat.mul_one,List.length_map]
 by_cases hj:j<ts.length
 · rw[if_pos (by omega),List.getElem?_eq_getElem hj]
   have e:((ts.map D.t).drop j).take 1=[D.t ts[j]]:=by
    rw[List.drop_eq_getElem_cons (by simpa using hj)];simp
   rw[e];rfl
 · rw[if_neg (by omega),List.getElem?_eq_none (by omega)];rfl
def zn(len sz:Nat)(x i:Option D):Option (D×ab):=x.bind fun a=>(i.bind intOf).bind fun n=>(idx n).bind fun j=>if j<len then(pS a (j*sz)).map fun d=>(d,H)else none
@[go_sem] theorem Nn (x i : X) (len sz : Nat) : evO call get H (.iaa x i len sz) = zn H len sz (get x) (get i) := (rfl)
def No(len sz:Nat)(a:D)(j:Nat):Option (D×ab):=if j<len then CK H (j*sz) a else none
@[go_sem] theorem Li (len sz : Nat) (a : D) (j : Nat) : No H len sz a j = if j < len then CK H (j * sz) a else none := (rfl)
@[go_sem] theorem I8 (len sz : Nat) (a : D) (k : IntKind) (n : Int) : zn H len sz (some a) (some (.t (.int k n))) = (idx n).bind (No H len sz a) := by
 simp only[zn,Option.bind_some,intOf];cases idx n<;>rfl
def tJ(n:Nat)(agg:Bool)(a:D):Option (D×ab):=(ij H a n agg).map fun d=>(d,H)
@[go_sem] theorem OJ (x : X) (n : Nat) (agg : Bool) : evO call get H (.ld x n agg) = (get x).bind (tJ H n agg) := (rfl)
def ve(off n:Nat)(agg:Bool):Option Obj→Option (D×ab)
 | some (.box cs)=>ofC H agg (cut cs off n)
 | _=>none
@[go_sem] theorem I9 (off n : Nat) (agg : Bool) (cs : List D) : ve H off n agg (some (.box cs)) = ofC H agg (cut cs off n) := (rfl)
@[go_sem] theorem Lj (id off n : Nat) (agg : Bool) : tJ H n agg (.bp id off) = ve H off n agg H[id]? := by
 simp only[tJ,ij]
 generalize H[id]?=o
 rcases o with _ | (cs | _)
 · rfl
 · simp only[ve,ofC];cases (cut cs off n).bind (bj agg)<;>rfl
 · rfl
@[go_sem] theorem Lk (cs : List T) (n : Nat) (agg : Bool) : tJ H n agg (.ep cs) = ofC H agg (cut (cs.map .t) 0 n) := by
 simp only[tJ,ij,ofC];cases (cut _ 0 n).bind (bj agg)<;>rfl
def Ja(off n:Nat)(agg:Bool)(e:D):Option (D×ab):=ofC H agg (cut e.cells off n)
@[go_sem] theorem Ll (off n : Nat) (agg : Bool) (e : D) : Ja H off n agg e = ofC H agg (cut e.cells off n) := (rfl)
def zo(ep m i off n:Nat)(agg:Bool):Option Obj→Option (D×ab)
 | some (.arr _ _ ep' es)=>if ep=ep'∧m=es.length then es[i]?.bind (Ja H off n agg)else none
 | _=>none
@[go_sem] theorem Jb (ep m i off n : Nat) (agg : Bool) (sz : Nat) (pin : Bool) (ep' : Nat) (es : List D) :
 zo H ep m i off n agg (some (.arr sz pin ep' es))=if ep=ep'∧m=es.length then es[i]?.bind (Ja H off n agg)else none:=(rfl)
@[go_sem] theorem Lm (id ep m i off n : Nat) (agg : Bool) : tJ H n agg (.ap id ep m i off) = zo H ep m i off n agg H[id]? := by
 simp only[tJ,ij,bN]
 generalize H[id]?=o
 rcases o with _ | (_ | ⟨sz',pin,ep',es⟩)
 · rfl
 · rfl
 · simp only[zo]
   by_cases h:ep=ep'∧m=es.length
   · rw[if_pos h,if_pos h,Option.bind_some]
     cases es[i]? with
     | none=>rfl
     | some e=>simp only[Option.bind_some,Ja,ofC];cases (cut e.cells off n).bind (bj agg)<;>rfl
   · rw[if_neg h,if_neg h];rfl
@[go_sem] theorem CL (cs : List D) : (D.agg cs).cells = cs := (rfl)
@[go_sem] theorem Jc (x : T) : (D.t x).cells = x.cells.map .t := (rfl)
@[go_sem] theorem CM : D.nil.cells = [.nil] := (rfl)
@[go_sem] theorem F6 (a b : Nat) : (D.bp a b).cells = [.bp a b] := (rfl)
@[go_sem] theorem CN (a b c : Nat) : (D.ref a b c).cells = [.ref a b c] := (rfl)
@[go_sem] theorem CO (a b c d e : Nat) : (D.sub a b c d e).cells = [.sub a b c d e] := (rfl)
@[go_sem] theorem F7 (f : Nat) (cs : List D) : (D.fn f cs).cells = [.fn f cs] := (rfl)
@[go_sem] theorem zp : D.nilp.cells = [.nilp] := (rfl)
@[go_sem] theorem CP (cs : List T) : (T.agg cs).cells = cs := (rfl)
@[go_sem] theorem CQ (k : IntKind) (n : Int) : (T.int k n).cells = [.int k n] := (rfl)
@[go_sem] theorem zq (b : Bool) : (T.bool b).cells = [.bool b] := (rfl)
@[go_sem] theorem CR (b : ByteArray) : (T.str b).cells = [.str b] := (rfl)
@[go_sem] theorem F8 (es : List T) : (T.sl es).cells = [.sl es] := (rfl)
def fits(n:Nat)(v:D):Bool:=decide (v.cells.length=n)&&v.b9
section
variable (n : Nat)
@[go_sem] theorem fits_int (k : IntKind) (a : Int) : fits 1 (.t (.int k a)) = true := (rfl)
@[go_sem] theorem fits_bool (b : Bool) : fits 1 (.t (.bool b)) = true := (rfl)
@[go_sem] theorem Ln (es : List T) : fits 1 (.t (.sl es)) = true := (rfl)
@[go_sem] theorem Jd : fits 1 .nil = true := (rfl)
@[go_sem] theorem Je (a b c : Nat) : fits 1 (.ref a b c) = true := (rfl)
@[go_sem] theorem Jf (a b c d e : Nat) : fits 1 (.sub a b c d e) = true := (rfl)
@[go_sem] theorem Lo (a b : Nat) : fits 1 (.bp a b) = true := (rfl)
@[go_sem] theorem Lp (f : Nat) (cs : List D) : fits 1 (.fn f cs) = true := (rfl)
@[go_sem] theorem Jg (cs : List D) : fits n (.agg cs) = dQ n cs := by rw [Bool.eq_iff_iff, bG]; show (decide (cs.length = n) && true) = true ↔ _; simp
@[go_sem] theorem F9 (cs : List T) : fits n (.t (.agg cs)) = dQ n cs := by rw [Bool.eq_iff_iff, bG]; simp [fits, D.cells, T.cells, D.b9]
end
@[go_sem] theorem zr {α : Type} (cs : List α) : aj cs 0 [] = some cs := by simp [aj]
@[go_sem] theorem zt {α : Type} (c x : α) (cs xs : List α) : aj (c :: cs) 0 (x :: xs) = cY x (aj cs 0 xs) := by
 simp only[aj,cY];by_cases h:xs.length≤cs.length<;>simp[h]
@[go_sem] theorem zu {α : Type} (c : α) (cs : List α) (off : Nat) (xs : List α) : aj (c :: cs) (off + 1) xs = cY c (aj cs off xs) := by
 simp only[aj,cY,List.length_cons]
 by_cases h:off+xs.length≤cs.length
 · rw[if_pos h,if_pos (by omega)];simp[show off+1+xs.length=(off+xs.length)+1 by omega]
 · rw[if_neg h,if_neg (by omega)];rfl
def zv(n:Nat)(live:List (Nat×Nat))(a x:Option D):Option (D×ab):=a.bind fun p=>x.bind fun d=>(iJ H p d n).bind fun H'=>(eo H' p live).map fun H''=>(.tup [],H'')
@[go_sem] theorem OK (a x : X) (n : Nat) (live : List (Nat × Nat)) : evO call get H (.st a x n live) = zv H n live (get a) (get x) := (rfl)
def kR(H:ab)(id:Nat)(live:List (Nat×Nat)):Option (D×ab):=(eo H (.bp id 0) live).map fun H'=>(.tup [],H')
def po(id:Nat)(live:List (Nat×Nat))(cs:List D):Option (D×ab):=kR (H.set id (.box cs)) id live
@[go_sem] theorem Ga (id : Nat) (live : List (Nat × Nat)) (cs : List D) : po H id live cs = kR (H.set id (.box cs)) id live := (rfl)
@[go_sem] theorem CS (H : ab) (id : Nat) : kR H id [] = some (.tup [], H) := (rfl)
def zw(id off:Nat)(live:List (Nat×Nat))(xs:List D):Option Obj→Option (D×ab)
 | some (.box cs)=>(aj cs off xs).bind (po H id live)
 | _=>none
@[go_sem] theorem Jh (id off : Nat) (live : List (Nat × Nat)) (xs cs : List D) : zw H id off live xs (some (.box cs)) = (aj cs off xs).bind (po H id live) := (rfl)
@[go_sem] theorem Lq (n id off : Nat) (live : List (Nat × Nat)) (v : D) : zv H n live (some (.bp id off)) (some v) = if fits n v = true then zw H id off live v.cells H[id]? else none := by
 by_cases h:fits n v=true
 case neg=>
  rw[if_neg h]
  simp only[fits,Bool.and_eq_true,decide_eq_true_eq]at h
  simp only[zv,Option.bind_some,iJ,if_neg h];rfl
 rw[if_pos h]
 simp only[fits,Bool.and_eq_true,decide_eq_true_eq]at h
 simp only[zv,Option.bind_some,iJ,h.1,h.2,and_self,if_true]
 generalize H[id]?=o
 rcases o with _ | (cs | _)
 · rfl
 · simp only[zw]
   cases aj cs off v.cells with
   | none=>rfl
   | some cs'=>simp only[Option.map_some,Option.bind_some,po,kR,eo]
 · rfl
def mT(id sz ep i:Nat)(es:List D)(agg:Bool)(cs:List D):Option (D×ab):=(bj agg cs).bind fun e=>if e.b9 then some (.tup [],H.set id (.arr sz false ep (es.set i e)))else none
def Ji(id sz ep i off:Nat)(es xs:List D)(e:D):Option (D×ab):=(aj e.cells off xs).bind (mT H id sz ep i es e.isAgg)
@[go_sem] theorem Lr (id sz ep i off : Nat) (es xs : List D) (e : D) : Ji H id sz ep i off es xs e = (aj e.cells off xs).bind (mT H id sz ep i es e.isAgg) := (rfl)
@[go_sem] theorem Gb (cs : List D) : (D.agg cs).isAgg = true := (rfl)
@[go_sem] theorem CT (cs : List T) : (D.t (.agg cs)).isAgg = true := (rfl)
@[go_sem] theorem Gc (k : IntKind) (n : Int) : (D.t (.int k n)).isAgg = false := (rfl)
@[go_sem] theorem CU (b : Bool) : (D.t (.bool b)).isAgg = false := (rfl)
@[go_sem] theorem Gd (b : ByteArray) : (D.t (.str b)).isAgg = false := (rfl)
@[go_sem] theorem Jj (es : List T) : (D.t (.sl es)).isAgg = false := (rfl)
@[go_sem] theorem Ge : D.nil.isAgg = false := (rfl)
@[go_sem] theorem Gf (a b c : Nat) : (D.ref a b c).isAgg = false := (rfl)
@[go_sem] theorem Gg (a b c d e : Nat) : (D.sub a b c d e).isAgg = false := (rfl)
@[go_sem] theorem Lt (id sz ep i : Nat) (es : List D) (x : T) : mT H id sz ep i es false [.t x] = some (.tup [], H.set id (.arr sz false ep (es.set i (.t x)))) := (rfl)
@[go_sem] theorem Gi (id sz ep i : Nat) (es : List D) : mT H id sz ep i es false [.nil] = some (.tup [], H.set id (.arr sz false ep (es.set i .nil))) := (rfl)
@[go_sem] theorem Gj (id sz ep i a b c : Nat) (es : List D) : mT H id sz ep i es false [.ref a b c] = some (.tup [], H.set id (.arr sz false ep (es.set i (.ref a b c)))) := (rfl)
theorem oq(cs:List D):(fG cs).b9=true:=by unfold fG;cases ei cs<;>rfl
@[go_sem] theorem Lu (id sz ep i : Nat) (es cs : List D) : mT H id sz ep i es true cs = some (.tup [], H.set id (.arr sz false ep (es.set i (fG cs)))) := by
 simp[mT,bj,oq]
def zx(id ep m i off:Nat)(xs:List D):Option Obj→Option (D×ab)
 | some (.arr sz pin ep' es)=>if ep=ep'∧m=es.length then(if pin then none else es[i]?.bind (Ji H id sz ep i off es xs))else none
 | _=>none
@[go_sem] theorem Jk (id ep m i off : Nat) (xs : List D) (sz : Nat) (pin : Bool) (ep' : Nat) (es : List D) :
 zx H id ep m i off xs (some (.arr sz pin ep' es))=if ep=ep'∧m=es.length then(if pin=true then none else es[i]?.bind (Ji H id sz ep i off es xs))else none:=(rfl)
@[go_sem] theorem Lv (n id ep m i off : Nat) (v : D) : zv H n [] (some (.ap id ep m i off)) (some v) = if fits n v = true then zx H id ep m i off v.cells H[id]? else none := by
 by_cases h:fits n v=true
 case neg=>
  rw[if_neg h]
  simp only[fits,Bool.and_eq_true,decide_eq_true_eq]at h
  simp only[zv,Option.bind_some,iJ,if_neg h];rfl
 rw[if_pos h]
 simp only[fits,Bool.and_eq_true,decide_eq_true_eq]at h
 simp only[zv,Option.bind_some,iJ,h.1,h.2,and_self,if_true,bN]
 generalize H[id]?=o
 rcases o with _ | (_ | ⟨sz',pin,ep',es⟩)
 · rfl
 · rfl
 · simp only[zx]
   by_cases h:ep=ep'∧m=es.length
   · rw[if_pos h,if_pos h,Option.bind_some]
     cases pin with
     | true=>rfl
     | false=>
       simp only[Bool.false_eq_true,if_false]
       cases es[i]? with
       | none=>rfl
       | some e=>
         simp only[Option.bind_some,Ji]
         cases aj e.cells off v.cells with
         | none=>rfl
         | some cs'=>
           simp only[Option.bind_some,mT]
           cases bj e.isAgg cs' with
           | none=>rfl
           | some e'=>
             simp only[Option.bind_some]
             by_cases h3:e'.b9=true
             · rw[if_pos h3,if_pos h3,h.1];rfl
             · rw[if_neg h3,if_neg h3];rfl
   · rw[if_neg h,if_neg h];rfl
def zy(zero:List D)(ps:List (Nat×Nat×D)):Option (D×ab):=(gz zero ps).map fun cs=>(fG cs,H)
@[go_sem] theorem OL (zero : List D) (parts : List (Nat × Nat × X)) : evO call get H (.bd zero parts) = (du get parts).bind (zy H zero) := (rfl)
@[go_sem] theorem wZ : du get [] = some [] := (rfl)
def Gk(off n:Nat)(r:List (Nat×Nat×X))(d:D):Option (List (Nat×Nat×D)):=cY (off,n,d) (du get r)
@[go_sem] theorem Jl (off n : Nat) (r : List (Nat × Nat × X)) (d : D) : Gk get off n r d = cY (off, n, d) (du get r) := (rfl)
@[go_sem] theorem vf (off n : Nat) (x : X) (r : List (Nat × Nat × X)) : du get ((off, n, x) :: r) = (get x).bind (Gk get off n r) := (rfl)
@[go_sem] theorem Jm (zero : List D) : zy H zero [] = some (fG zero, H) := (rfl)
def bdC(r:List (Nat×Nat×D))(z:List D):Option (D×ab):=zy H z r
@[go_sem] theorem Np (r : List (Nat × Nat × D)) (z : List D) : bdC H r z = zy H z r := (rfl)
@[go_sem] theorem Gl (zero : List D) (off n : Nat) (x : D) (r : List (Nat × Nat × D)) : zy H zero ((off, n, x) :: r) = if fits n x = true then (aj zero off x.cells).bind (bdC H r) else none := by
 by_cases h:fits n x=true
 case neg=>
  rw[if_neg h]
  have h2:(x.b9&&x.cells.length==n)=false:=by rw[← Bool.not_eq_true,Bool.and_comm];simpa [fits]using h
  simp only[zy,gz,h2];rfl
 rw[if_pos h]
 simp only[fits,Bool.and_eq_true,decide_eq_true_eq]at h
 simp only[zy,gz,h.1,h.2,beq_self_eq_true,Bool.and_self,if_true]
 cases aj zero off x.cells<;>rfl
def aL(n:Nat):List T→Bool
 | []=>true
 | x::r=>dQ n x.cells&&aL n r
@[go_sem] theorem w4 (n : Nat) : aL n [] = true := (rfl)
@[go_sem] theorem gS (n : Nat) (x : T) (r : List T) : aL n (x :: r) = (dQ n x.cells && aL n r) := (rfl)
def kt(sz:Nat)(ds:List D):Option (D×ab):=if ds.all (fun d=>d.cells.length==sz)then(aO (frz H depth) ds).map fun ts=>(.t (.sl ts),pins H (ds.flatMap (bT H depth)))else none
@[go_sem] theorem OM (xs : List X) (sz : Nat) : evO call get H (.bs xs sz) = (aO get xs).bind (kt H sz) := (rfl)
theorem Gm(sz:Nat)(ds:List D)(ts:List T)(h:ei ds=some ts)(hc:aL sz ts=true):kt H sz ds=some (.t (.sl ts),H):=by
 have key:∀(ds:List D) (ts:List T),ei ds=some ts→aL sz ts=true→ds.all (fun d=>d.cells.length==sz)=true∧aO (frz H depth) ds=some ts∧ds.flatMap (bT H depth)=[]:=by
  intro ds
  induction ds with
  | nil=>intro ts h hc;simp[ei]at h;subst h;simp[aO]
  | cons d ds ih=>
    intro ts h hc
    cases d with
    | t x=>
      simp only[ei,Option.map_eq_some_iff]at h
      obtain⟨r,hr,rfl⟩:=h
      simp only[aL,Bool.and_eq_true,bG]at hc
      obtain⟨h1,h2,h3⟩:=ih r hr hc.2
      refine⟨by rw[List.all_cons,h1,Bool.and_true];simp[D.cells,hc.1],by simp[aO,frz,h2],by rw[List.flatMap_cons,h3];simp[bT]⟩
    | _=>simp[ei]at h
 obtain⟨h1,h2,h3⟩:=key ds ts h hc
 simp[kt,h1,h2,h3,pins]
theorem eD(sz:Nat)(ts:List T):kt H sz (ts.map D.t)=if aL sz ts=true then some (.t (.sl ts),H)else none:=by
 by_cases h:aL sz ts=true
 · rw[if_pos h];exact Gm H sz _ ts (u9 ts) h
 · rw[if_neg h]
   have:(ts.map D.t).all (fun d=>d.cells.length==sz)=false:=by
    rw[← Bool.not_eq_true];intro ha;apply h
    clear h
    induction ts with
    | nil=>rfl
    | cons a r ih=>
      simp only[List.map_cons,List.all_cons,Bool.and_eq_true,beq_iff_eq]at ha
      simp only[aL,Bool.and_eq_true,bG]
      exact⟨by simpa [D.cells]using ha.1,ih ha.2⟩
   simp only[kt,this];rfl
@[go_sem] theorem Nq (sz : Nat) : kt H sz [] = some (.t (.sl []), H) := (rfl)
@[go_sem] theorem Nr (sz : Nat) (a : T) : kt H sz [.t a] = if aL sz [a] = true then some (.t (.sl [a]), H) else none := eD H sz [a]
@[go_sem] theorem Ns (sz : Nat) (a b : T) : kt H sz [.t a, .t b] = if aL sz [a, b] = true then some (.t (.sl [a, b]), H) else none := eD H sz [a, b]
@[go_sem] theorem Nt (sz : Nat) (a b c : T) : kt H sz [.t a, .t b, .t c] = if aL sz [a, b, c] = true then some (.t (.sl [a, b, c]), H) else none := eD H sz [a, b, c]
@[go_sem] theorem Nu (sz : Nat) (a b c d : T) : kt H sz [.t a, .t b, .t c, .t d] = if aL sz [a, b, c, d] = true then some (.t (.sl [a, b, c, d]), H) else none := eD H sz [a, b, c, d]
@[go_sem] theorem Nv (sz : Nat) (a b c d e : T) : kt H sz [.t a, .t b, .t c, .t d, .t e] = if aL sz [a, b, c, d, e] = true then some (.t (.sl [a, b, c, d, e]), H) else none := eD H sz [a, b, c, d, e]
def Gn(a:D):Option (D×ab):=(Ih a).map fun(n:Nat)=>(D.t (.int .i64 (n:Int)),H)
@[go_sem] theorem ON (x : X) : evO call get H (.ln x) = (get x).bind (Gn H) := (rfl)
@[go_sem] theorem Lw (es : List T) : Gn H (.t (.sl es)) = some (I es.length, H) := (rfl)
@[go_sem] theorem Jn : Gn H .nil = some (I 0, H) := (rfl)
@[go_sem] theorem Jo (id ep n : Nat) : Gn H (.ref id ep n) = some (I n, H) := (rfl)
@[go_sem] theorem Jp (id ep n lo hi : Nat) : Gn H (.sub id ep n lo hi) = some (I ((hi - lo : Nat) : Int), H) := (rfl)
def Gp(ds:List D):Option (D×ab):=(EP ds).map fun d=>(d,H)
def Gq(ds:List D):Option (D×ab):=(ER ds).map fun d=>(d,H)
@[go_sem] theorem OO (xs : List X) : evO call get H (.mn xs) = (aO get xs).bind (Gp H) := (rfl)
@[go_sem] theorem OP (xs : List X) : evO call get H (.mx xs) = (aO get xs).bind (Gq H) := (rfl)
@[go_sem] theorem Nw (k : IntKind) (a b : Int) : Gp H [.t (.int k a), .t (.int k b)] = some (.t (.int k (min a b)), H) := by
 simp only[Gp,EP,ko,if_true,Option.map_some];congr 4;omega
@[go_sem] theorem Nx (k : IntKind) (a b : Int) : Gq H [.t (.int k a), .t (.int k b)] = some (.t (.int k (max a b)), H) := by
 simp only[Gq,ER,ko,if_true,Option.map_some];congr 4;omega
@[go_sem] theorem Ny (k : IntKind) (a b c : Int) : Gp H [.t (.int k a), .t (.int k b), .t (.int k c)] = some (.t (.int k (min (min a b) c)), H) := by
 simp only[Gp,EP,ko,if_true,Option.map_some];congr 4;omega
@[go_sem] theorem Nz (k : IntKind) (a b c : Int) : Gq H [.t (.int k a), .t (.int k b), .t (.int k c)] = some (.t (.int k (max (max a b) c)), H) := by
 simp only[Gq,ER,ko,if_true,Option.map_some];congr 4;omega
def mU(sz:Nat)(x:Option D)(lo hi:Option (Option Int)):Option (D×ab):=x.bind fun a=>lo.bind fun l=>hi.bind fun h=>(dL H a l h sz).map fun d=>(d,H)
@[go_sem] theorem OQ (x : X) (lo hi : Option X) (sz : Nat) : evO call get H (.sc x lo hi sz) = mU H sz (get x) (pT get lo) (pT get hi) := (rfl)
def Gr:D→Option (Option Int)
 | .t (.int _ n)=>some (some n)
 | _=>none
@[go_sem] theorem Jq (k : IntKind) (n : Int) : Gr (.t (.int k n)) = some (some n) := (rfl)
@[go_sem] theorem Gs : pT get none = some none := (rfl)
@[go_sem] theorem Gt (x : X) : pT get (some x) = (get x).bind Gr := by
 simp only[pT];cases get x with
 | none=>rfl
 | some d=>cases d with
   | t y=>cases y<;>rfl
   | _=>rfl
def Lx(i:Nat)(a:D):Option (D×ab):=(ES i a).map fun d=>(d,H)
@[go_sem] theorem OR (x : X) (i : Nat) : evO call get H (.ex x i) = (get x).bind (Lx H i) := (rfl)
def exO:Option D→Option (D×ab)
 | some d=>some (d,H)
 | none=>none
@[go_sem] theorem Jr (d : D) : exO H (some d) = some (d, H) := (rfl)
@[go_sem] theorem Js (i : Nat) (ds : List D) : Lx H i (.tup ds) = exO H ds[i]? := by simp only [Lx, ES, exO]; cases ds[i]? <;> rfl
def Ly(f:Nat)(ds:List D):Option (D×ab):=some (.fn f ds,H)
@[go_sem] theorem Lz (f : Nat) (ds : List D) : Ly H f ds = some (.fn f ds, H) := (rfl)
@[go_sem] theorem OS (f : Nat) (caps : List X) : evO call get H (.mf f caps) = (aO get caps).bind (Ly H f) := by simp only [evO, Ly]; cases aO get caps <;> rfl
@[go_sem] theorem OT (sz : Nat) : evO call get H (.nw sz) = some (.ref H.length 0 0, H ++ [.arr sz false 0 []]) := (rfl)
def alP(p:List D×ab):Option (D×ab):=some (.bp H.length 0,H++ .box p.1::p.2)
@[go_sem] theorem NA (cs : List D) (os : ab) : alP H (cs, os) = some (.bp H.length 0, H ++ .box cs :: os) := (rfl)
@[go_sem] theorem OU (zero : List D) (live : List (Nat × Nat)) : evO call get H (.al zero live) = alP H (aI (H.length + 1) zero live) := (rfl)
@[go_sem] theorem zz (base : Nat) (cs : List D) : aI base cs [] = (cs, []) := (rfl)
def LA(n:Nat)(a:D):Option (D×ab):=if a.cells.length=n∧a.b9 then some (.bp H.length 0,H++[.box a.cells])else none
@[go_sem] theorem OV (x : X) (n : Nat) : evO call get H (.bx x n) = (get x).bind (LA H n) := (rfl)
@[go_sem] theorem LB (n : Nat) (a : D) : LA H n a = if fits n a = true then some (.bp H.length 0, H ++ [.box a.cells]) else none := by
 simp[LA,fits]
def Jt(sz:Nat)(zero:D)(n:Option Nat):Option (D×ab):=n.bind fun m=>if m≤lim then some (.ref H.length 0 m,H++[.arr sz false 0 (List.replicate m zero)])else none
def mkN(sz:Nat)(zero:D):D→Option (D×ab)
 | .t (.int _ n)=>Jt H sz zero (idx n)
 | _=>none
@[go_sem] theorem LC (sz : Nat) (zero : D) (k : IntKind) (n : Int) : mkN H sz zero (.t (.int k n)) = Jt H sz zero (idx n) := (rfl)
@[go_sem] theorem OW (len : X) (zero : D) (sz : Nat) : evO call get H (.mk len zero sz) = (get len).bind (mkN H sz zero) := by
 simp only[evO];cases get len with
 | none=>rfl
 | some d=>cases d with
   | t y=>cases y<;>rfl
   | _=>rfl
@[go_sem] theorem LD (sz : Nat) (zero : D) (m : Nat) (h : m ≤ 4294967296) : Jt H sz zero (some m) = some (.ref H.length 0 m, H ++ [.arr sz false 0 (List.replicate m zero)]) := by
 simp[Jt,lim,h]
def vg(zero:T)(n:Option Nat):Option (D×ab):=n.bind fun m=>if m≤lim then some (.t (.sl (List.replicate m zero)),H)else none
def NB(zero:T):D→Option (D×ab)
 | .t (.int _ n)=>vg H zero (idx n)
 | _=>none
@[go_sem] theorem Ju (zero : T) (k : IntKind) (n : Int) : NB H zero (.t (.int k n)) = vg H zero (idx n) := (rfl)
@[go_sem] theorem NC (len : X) (zero : T) (sz : Nat) : evO call get H (.mkt len zero sz) = (get len).bind (NB H zero) := by
 simp only[evO];cases get len with
 | none=>rfl
 | some d=>cases d with
   | t y=>cases y<;>rfl
   | _=>rfl
@[go_sem] theorem Jv (zero : T) (m : Nat) (h : m ≤ 4294967296) : vg H zero (some m) = some (.t (.sl (List.replicate m zero)), H) := by
 simp[vg,lim,h]
def eE(sz:Nat)(fz:Bool)(x y:Option D):Option (D×ab):=x.bind fun a=>y.bind fun b=>dA H a b fz sz
@[go_sem] theorem ND (x y : X) (fz : Bool) (sz : Nat) : evO call get H (.app x y fz sz) = eE H sz fz (get x) (get y) := (rfl)
def iW(sz id ep n:Nat)(ys:List D):Option Obj→Option (D×ab)
 | some (.arr sz' pin ep' es)=>if ep=ep'∧n=es.length∧sz'=sz∧n+ys.length≤lim then some (.ref id ep (n+ys.length),H.set id (.arr sz pin ep (es++ys)))else none
 | _=>none
@[go_sem] theorem Gu (sz id ep n : Nat) (ys : List D) (pin : Bool) (es : List D) :
 iW H sz id ep n ys (some (.arr sz pin ep es))=if n=es.length then(if n+ys.length≤4294967296 then some (.ref id ep (n+ys.length),H.set id (.arr sz pin ep (es++ys)))else none)else none:=by
 simp only[iW,lim]
 by_cases h1:n=es.length
 · rw[if_pos h1]
   by_cases h2:n+ys.length≤4294967296
   · rw[if_pos h2,if_pos ⟨trivial,h1,trivial,h2⟩]
   · rw[if_neg h2,if_neg fun h=>h2 h.2.2.2]
 · rw[if_neg h1,if_neg fun h=>h1 h.2.1]
theorem gT(ts:List T):aO (fun d=>(frz H depth d).map D.t) (ts.map D.t)=some (ts.map D.t):=by
 induction ts with
 | nil=>rfl
 | cons t ts ih=>simp[aO,frz,ih]
theorem pq(ts:List T):(ts.map D.t).flatMap (bT H depth)=[]:=by
 induction ts with
 | nil=>rfl
 | cons t ts ih=>rw[List.map_cons,List.flatMap_cons,ih];simp[bT,depth]
theorem mV(sz:Nat)(fz:Bool)(x:D)(ts:List T)(h:aR sz (ts.map D.t)=false):eE H sz fz (some x) (some (.t (.sl ts)))=none:=by
 have e1:(if fz then aO (fun d=>(frz H depth d).map D.t) (ts.map D.t)else some (ts.map D.t))=some (ts.map D.t):=by
  cases fz<;>simp[gT]
 simp only[eE,Option.bind_some,dA,elems,e1,h,Bool.false_eq_true,if_false]
def dR(sz:Nat)(ts:List T):Bool:=aR sz (ts.map D.t)
theorem sf(sz id ep n:Nat)(fz:Bool)(ts:List T)(h:dR sz ts=true):eE H sz fz (some (.ref id ep n)) (some (.t (.sl ts)))=iW H sz id ep n (ts.map .t) H[id]?:=by
 have e1:(if fz then aO (fun d=>(frz H depth d).map D.t) (ts.map D.t)else some (ts.map D.t))=some (ts.map D.t):=by
  cases fz<;>simp[gT]
 have e2:(if fz then pins H ((ts.map D.t).flatMap (bT H depth))else H)=H:=by
  cases fz
  · rfl
  · simp only[if_true];rw[pq];rfl
 unfold dR at h
 simp only[eE,Option.bind_some,dA,elems,e1,h,if_true,e2,bN]
 generalize H[id]?=o
 rcases o with _ | (_ | ⟨sz',pin,ep',es⟩)
 · rfl
 · rfl
 · simp only[iW]
   by_cases h1:ep=ep'∧n=es.length
   · rw[if_pos h1,Option.bind_some]
     by_cases h2:sz'=sz∧n+(ts.map D.t).length≤lim
     · rw[if_pos h2,if_pos ⟨h1.1,h1.2,h2⟩]
     · rw[if_neg h2,if_neg fun h=>h2 h.2.2]
   · rw[if_neg h1,if_neg fun h=>h1 ⟨h.1,h.2.1⟩];rfl
@[go_sem] theorem Gv (sz id ep n : Nat) (fz : Bool) (ts : List T) : eE H sz fz (some (.ref id ep n)) (some (.t (.sl ts))) = if dR sz ts = true then iW H sz id ep n (ts.map .t) H[id]? else none := by
 by_cases h:dR sz ts=true
 · rw[if_pos h,sf H sz id ep n fz ts h]
 · rw[if_neg h];exact mV H sz fz _ ts (by simpa [dR]using h)
@[go_sem] theorem Gw (sz : Nat) (fz : Bool) (ts : List T) : eE H sz fz (some .nil) (some (.t (.sl ts))) =
 if dR sz ts=true then(if ts.length≤4294967296 then some (.ref H.length 0 ts.length,H++[.arr sz false 0 (ts.map .t)])else none)else none:=by
 by_cases h:dR sz ts=true
 · rw[if_pos h]
   have e1:(if fz then aO (fun d=>(frz H depth d).map D.t) (ts.map D.t)else some (ts.map D.t))=some (ts.map D.t):=by
    cases fz<;>simp[gT]
   have e2:(if fz then pins H ((ts.map D.t).flatMap (bT H depth))else H)=H:=by
    cases fz
    · rfl
    · simp only[if_true];rw[pq];rfl
   unfold dR at h
   simp only[eE,Option.bind_some,dA,elems,e1,h,if_true,e2,lim,List.length_map]
 · rw[if_neg h];exact mV H sz fz _ ts (by simpa [dR]using h)
@[go_sem] theorem Gx (sz : Nat) : dR sz [] = true := (rfl)
@[go_sem] theorem CV (sz : Nat) (x : T) (r : List T) : dR sz (x :: r) = dQ sz x.cells := by
 rw[Bool.eq_iff_iff,bG];simp[dR,aR,D.cells]
@[go_sem] theorem Gy (l : List Int) (k : IntKind) : dR 1 (l.map (.int k)) = true := by cases l <;> rfl
@[go_sem] theorem CW (l : List Bool) : dR 1 (l.map .bool) = true := by cases l <;> rfl
@[go_sem] theorem Jw (l : List (List T)) : dR 1 (l.map .sl) = true := by cases l <;> rfl
def qg(call:ah)(f raw:Nat)(keep:List Nat)(ds:List D):Option (D×ab):=gA call H f raw keep ds
@[go_sem] theorem OX (f raw : Nat) (keep : List Nat) (xs : List X) : evO call get H (.ca f raw keep xs) = (aO get xs).bind (qg H call f raw keep) := (rfl)
def NF(call:ah)(raw:Nat)(keep:List Nat)(x:Option D)(xs:Option (List D)):Option (D×ab):=x.bind fun
 | .fn f caps=>xs.bind fun ds=>gA call H f raw keep (ds++caps)
 | _=>none
@[go_sem] theorem OY (x : X) (raw : Nat) (keep : List Nat) (xs : List X) : evO call get H (.cw x raw keep xs) = NF H call raw keep (get x) (aO get xs) := (rfl)
@[go_sem] theorem LF (raw : Nat) (keep : List Nat) (f : Nat) (caps ds : List D) : NF H call raw keep (some (.fn f caps)) (some ds) = qg H call f raw keep (ds ++ caps) := (rfl)
def dw(H:ab):List D→Option (List T)
 | []=>some []
 | .t x::r=>cY x (dw H r)
 | .nil::r=>cY (.sl []) (dw H r)
 | _::_=>none
@[go_sem] theorem LG : dw H [] = some [] := (rfl)
@[go_sem] theorem LH (x : T) (r : List D) : dw H (.t x :: r) = cY x (dw H r) := (rfl)
@[go_sem] theorem Gz (r : List D) : dw H (.nil :: r) = cY (.sl []) (dw H r) := (rfl)
@[go_sem] theorem GA (cs : List D) (r : List D) : dw H (.agg cs :: r) = none := (rfl)
@[go_sem] theorem Jx (a b : Nat) (r : List D) : dw H (.bp a b :: r) = none := (rfl)
@[go_sem] theorem GB (a b c : Nat) (r : List D) : dw H (.ref a b c :: r) = none := (rfl)
@[go_sem] theorem GC (a b c d e : Nat) (r : List D) : dw H (.sub a b c d e :: r) = none := (rfl)
@[go_sem] theorem Jy (f : Nat) (cs : List D) (r : List D) : dw H (.fn f cs :: r) = none := (rfl)
@[go_sem] theorem Jz (a b c d e : Nat) (r : List D) : dw H (.ap a b c d e :: r) = none := (rfl)
@[go_sem] theorem JA (cs : List T) (r : List D) : dw H (.ep cs :: r) = none := (rfl)
@[go_sem] theorem CY (r : List D) : dw H (.nilp :: r) = none := (rfl)
@[go_sem] theorem GD (r : List D) : dw H (.und :: r) = none := (rfl)
end
theorem gl(H:ab):∀ {ds:List D} {ts:List T},dw H ds=some ts→∀i,en H [] i ds=some (ts.map .t)∧aQ H [] i ds=[]
 | [],ts,h,i=>by simp[dw]at h;subst h;exact⟨rfl,rfl⟩
 | d::r,ts,h,i=>by
   cases d with
   | t x=>
     simp only[dw,cY,Option.map_eq_some_iff]at h
     obtain⟨l,hl,rfl⟩:=h
     obtain⟨h1,h2⟩:=gl H hl (i+1)
     exact⟨by simp[en,jt,h1],by simp[aQ,bT,depth,h2]⟩
   | nil=>
     simp only[dw,cY,Option.map_eq_some_iff]at h
     obtain⟨l,hl,rfl⟩:=h
     obtain⟨h1,h2⟩:=gl H hl (i+1)
     exact⟨by simp[en,jt,h1],by simp[aQ,bT,depth,h2]⟩
   | _=>simp[dw]at h
theorem sg(ts:List T)(n:Nat):(ts.map D.t).flatMap (ids n)=[]:=by
 induction ts with
 | nil=>rfl
 | cons t ts ih=>rw[List.map_cons,List.flatMap_cons,ih];simp[ids]
theorem zA(f:Nat→Option Nat)(ts:List T):aO (ren f depth) (ts.map .t)=some (ts.map .t):=by
 induction ts with
 | nil=>rfl
 | cons t ts ih=>simp[aO,ren,depth]at ih ⊢;exact ih
def jf:D→Bool
 | .t _=>true
 | .tup ds=>ds.all fun | .t _=>true | _=>false
 | _=>false
theorem lH{f:Nat→Option Nat}{d:D}(h:jf d=true):ren f depth d=some d:=by
 cases d with
 | t x=>rfl
 | tup ds=>
   simp only[jf]at h
   have:aO (ren f 7) ds=some ds:=by
    induction ds with
    | nil=>rfl
    | cons d ds ih=>
      simp only[List.all_cons,Bool.and_eq_true]at h
      cases d with
      | t x=>simp[aO,ren,ih h.2]
      | _=>simp at h
   simp[ren,depth,this]
 | _=>simp[jf]at h
def ka(H:ab)(p:D×ab):Option (D×ab):=if jf p.1&&p.2.isEmpty then some (p.1,H)else
 (ren (bh [] H.length) depth p.1).bind fun r'=>(aO (bR (bh [] H.length)) p.2).map fun os=>(r',H++os)
@[go_sem] theorem LI (H : ab) (x : T) : ka H (.t x, []) = some (.t x, H) := (rfl)
@[go_sem] theorem LJ (H : ab) : ka H (.tup [], []) = some (.tup [], H) := (rfl)
@[go_sem] theorem LK (H : ab) (x y : T) : ka H (.tup [.t x, .t y], []) = some (.tup [.t x, .t y], H) := (rfl)
@[go_sem] theorem LL (H : ab) (x y z : T) : ka H (.tup [.t x, .t y, .t z], []) = some (.tup [.t x, .t y, .t z], H) := (rfl)
@[go_sem] theorem LM (H : ab) (x y z u : T) : ka H (.tup [.t x, .t y, .t z, .t u], []) = some (.tup [.t x, .t y, .t z, .t u], H) := (rfl)
theorem sj(H:ab)(call:ah)(f raw:Nat)(ds:List D)(ts:List T)(h:dw H ds=some ts):
 qg H call f raw [] ds=(call raw f (ts.map .t) []).bind (ka H):=by
 obtain⟨h1,h2⟩:=gl H h 0
 simp only[qg,gA,h1,Option.bind_some,sg,bz,reach,eU,List.flatMap_nil,h2,pins,zA,pick,aO]
 cases hc:call raw f (ts.map .t) []with
 | none=>rfl
 | some p=>
   obtain⟨d,os⟩:=p
   simp only[Option.bind_some,List.isEmpty_nil,Bool.true_and,ka]
   by_cases h3:os=[]
   · subst h3
     simp only[List.isEmpty_nil,Bool.true_and,Bool.and_true,aO,Option.map_some,List.length_nil,List.take_nil,aU,List.drop_nil,List.append_nil]
     by_cases h4:jf d=true
     · rw[if_pos h4]
       split
       · rfl
       · rw[lH h4];rfl
     · rw[if_neg h4]
       split
       · rename_i h5
         exfalso
         apply h4
         cases d with
         | t x=>rfl
         | tup ds=>
           simp only[ek,List.all_eq_true]at h5
           simp only[jf,List.all_eq_true]
           intro y hy
           have:=h5 y hy
           cases y<;>simp_all [jr]
         | _=>simp[ek]at h5
       · rfl
   · have:os.isEmpty=false:=by cases os<;>simp_all
     simp only[this,Bool.false_and,Bool.and_false,if_false,Bool.false_eq_true,List.length_nil,List.take_zero,aU,List.drop_zero]
@[go_sem] theorem CZ (st : St) : cl st [] = some [] := (rfl)
def NG(st:St)(r:List (Nat×Option (Nat×Bool)))(d:D):Option (List D):=cY d (cl st r)
@[go_sem] theorem LN (vs : List D) (H : ab) (r : List (Nat × Option (Nat × Bool))) (d : D) : NG ⟨vs, H⟩ r d = cY d (cl ⟨vs, H⟩ r) := (rfl)
@[go_sem] theorem C0 (vs : List D) (H : ab) (j : Nat) (r : List (Nat × Option (Nat × Bool))) : cl ⟨vs, H⟩ ((j, none) :: r) = vs[j]?.bind (NG ⟨vs, H⟩ r) := (rfl)
def LO(st:St)(r:List (Nat×Option (Nat×Bool)))(p:D×ab):Option (List D):=cY p.1 (cl st r)
@[go_sem] theorem LP (vs : List D) (H : ab) (r : List (Nat × Option (Nat × Bool))) (d : D) (H' : ab) : LO ⟨vs, H⟩ r (d, H') = cY d (cl ⟨vs, H⟩ r) := (rfl)
def LQ(st:St)(n:Nat)(agg:Bool)(r:List (Nat×Option (Nat×Bool)))(p:D):Option (List D):=(tJ st.H n agg p).bind (LO st r)
@[go_sem] theorem LR (vs : List D) (H : ab) (n : Nat) (agg : Bool) (r : List (Nat × Option (Nat × Bool))) (p : D) : LQ ⟨vs, H⟩ n agg r p = (tJ H n agg p).bind (LO ⟨vs, H⟩ r) := (rfl)
@[go_sem] theorem zB (vs : List D) (H : ab) (j n : Nat) (agg : Bool) (r : List (Nat × Option (Nat × Bool))) : cl ⟨vs, H⟩ ((j, some (n, agg)) :: r) = vs[j]?.bind (LQ ⟨vs, H⟩ n agg r) := by
 simp only[cl]
 cases vs[j]? with
 | none=>rfl
 | some p=>
   simp only[Option.bind_some,LQ,tJ]
   cases ij H p n agg<;>rfl
@[go_sem] theorem LS (H : ab) (n : Nat) (x : T) : frz H n (.t x) = some x := by cases n <;> rfl
@[go_sem] theorem LU (H : ab) (n : Nat) : frz H n .nil = some (.sl []) := by cases n <;> rfl
@[go_sem] theorem LV (H : ab) (n : Nat) (cs : List D) : frz H (n + 1) (.agg cs) = (aO (frz H n) cs).map .agg := (rfl)
@[go_sem] theorem qh (H : ab) (n : Nat) (ts : List T) : aO (frz H n) (ts.map .t) = some ts := by
 induction ts with
 | nil=>rfl
 | cons t ts ih=>simp[aO,LS,ih]
def frA(H:ab)(n ep m lo hi:Nat):Option Obj→Option T
 | some (.arr _ _ ep' es)=>if ep=ep'∧m=es.length then(aO (frz H n) ((es.drop lo).take (hi-lo))).map .sl else none
 | _=>none
def frR(H:ab)(n ep m:Nat):Option Obj→Option T
 | some (.arr _ _ ep' es)=>if ep=ep'∧m=es.length then(aO (frz H n) es).map .sl else none
 | _=>none
@[go_sem] theorem LW (H : ab) (n id ep m : Nat) : frz H (n + 1) (.ref id ep m) = frR H n ep m H[id]? := by
 simp only[frz,bN]
 generalize H[id]?=o
 rcases o with _ | (_ | ⟨sz',pin,ep',es⟩)
 · rfl
 · rfl
 · simp only[frR]
   by_cases h:ep=ep'∧m=es.length
   · rw[if_pos h,if_pos h];rfl
   · rw[if_neg h,if_neg h];rfl
@[go_sem] theorem LX (H : ab) (n id ep m lo hi : Nat) : frz H (n + 1) (.sub id ep m lo hi) = frA H n ep m lo hi H[id]? := by
 simp only[frz,bN]
 generalize H[id]?=o
 rcases o with _ | (_ | ⟨sz',pin,ep',es⟩)
 · rfl
 · rfl
 · simp only[frA]
   by_cases h:ep=ep'∧m=es.length
   · rw[if_pos h,if_pos h];rfl
   · rw[if_neg h,if_neg h];rfl
@[go_sem] theorem LY (H : ab) (n ep m sz : Nat) (pin : Bool) (es : List D) : frR H n ep m (some (.arr sz pin ep es)) = if m = es.length then (aO (frz H n) es).map .sl else none := by simp [frR]
@[go_sem] theorem LZ (H : ab) (n ep m lo hi sz : Nat) (pin : Bool) (es : List D) : frA H n ep m lo hi (some (.arr sz pin ep es)) = if m = es.length then (aO (frz H n) ((es.drop lo).take (hi - lo))).map .sl else none := by simp [frA]
@[go_sem] theorem GF (H : ab) (x : T) : jt H (.t x) = some (.t x) := (rfl)
@[go_sem] theorem JB (H : ab) : jt H .nil = some (.t (.sl [])) := (rfl)
@[go_sem] theorem JC (H : ab) (cs : List D) : jt H (.agg cs) = (frz H 8 (.agg cs)).map .t := (rfl)
@[go_sem] theorem JD (H : ab) (id ep n : Nat) : jt H (.ref id ep n) = (frz H 8 (.ref id ep n)).map .t := (rfl)
@[go_sem] theorem JE (H : ab) (id ep n lo hi : Nat) : jt H (.sub id ep n lo hi) = (frz H 8 (.sub id ep n lo hi)).map .t := (rfl)
@[go_sem] theorem zC (H : ab) (id off : Nat) : jt H (.bp id off) = some (.bp id off) := (rfl)
@[go_sem] theorem L0 (H : ab) (id ep n i off : Nat) : jt H (.ap id ep n i off) = some (.ap id ep n i off) := (rfl)
@[go_sem] theorem L3 (H : ab) (cs : List T) : jt H (.ep cs) = some (.ep cs) := (rfl)
@[go_sem] theorem L4 (H : ab) (f : Nat) (cs : List D) : jt H (.fn f cs) = some (.fn f cs) := (rfl)
def ltB:Nat→Nat→Bool
 | _,0=>false
 | 0,_+1=>true
 | m+1,n+1=>ltB m n
@[go_sem] theorem OZ (m : Nat) : ltB m 0 = false := by cases m <;> rfl
@[go_sem] theorem NH (n : Nat) : ltB 0 (n + 1) = true := (rfl)
@[go_sem] theorem NI (m n : Nat) : ltB (m + 1) (n + 1) = ltB m n := (rfl)
theorem eF:∀ {m n:Nat},ltB m n=decide (m<n)
 | m,0=>by cases m<;>simp[ltB]
 | 0,n+1=>by simp[ltB]
 | m+1,n+1=>by simp[ltB,eF (m:=m) (n:=n)]
def eqB:Nat→Nat→Bool
 | 0,0=>true
 | m+1,n+1=>eqB m n
 | _,_=>false
@[go_sem] theorem NJ : eqB 0 0 = true := (rfl)
@[go_sem] theorem NK (n : Nat) : eqB 0 (n + 1) = false := (rfl)
@[go_sem] theorem NL (n : Nat) : eqB (n + 1) 0 = false := (rfl)
@[go_sem] theorem NM (m n : Nat) : eqB (m + 1) (n + 1) = eqB m n := (rfl)
theorem ot:∀ {m n:Nat},eqB m n=decide (m=n)
 | 0,0=>rfl
 | 0,n+1=>rfl
 | m+1,0=>rfl
 | m+1,n+1=>by simp[eqB,ot (m:=m) (n:=n)]
section
variable (k n : Nat)
@[go_sem] theorem L5 (x : T) : old k n (.t x) = true := by cases n <;> rfl
@[go_sem] theorem L6 : old k n .nil = true := by cases n <;> rfl
@[go_sem] theorem NN (cs : List T) : old k n (.ep cs) = true := by cases n <;> rfl
@[go_sem] theorem JF : old k n .nilp = true := by cases n <;> rfl
@[go_sem] theorem L7 : old k n .und = true := by cases n <;> rfl
@[go_sem] theorem GG (id off : Nat) : old k n (.bp id off) = ltB id k := by cases n <;> simp [old, eF]
@[go_sem] theorem NQ (id ep m i off : Nat) : old k n (.ap id ep m i off) = ltB id k := by cases n <;> simp [old, eF]
@[go_sem] theorem L8 (id ep m : Nat) : old k n (.ref id ep m) = ltB id k := by cases n <;> simp [old, eF]
@[go_sem] theorem L9 (id ep m lo hi : Nat) : old k n (.sub id ep m lo hi) = ltB id k := by cases n <;> simp [old, eF]
def bA(n:Nat)(cs:List D):Bool:=cs.all (old k n)
@[go_sem] theorem C1 : bA k n [] = true := (rfl)
@[go_sem] theorem ou (d : D) (r : List D) : bA k n (d :: r) = (old k n d && bA k n r) := (rfl)
@[go_sem] theorem pt (ts : List T) : bA k n (ts.map .t) = true := by
 induction ts with
 | nil=>rfl
 | cons t ts ih=>rw[List.map_cons,ou,L5,ih];rfl
@[go_sem] theorem C2 (m : Nat) (x : T) : bA k n (List.replicate m (.t x)) = true := by
 have:List.replicate m (D.t x)=(List.replicate m x).map .t:=by simp
 rw[this,pt]
@[go_sem] theorem C3 (a b : List D) : bA k n (a ++ b) = (bA k n a && bA k n b) := by simp [bA]
@[go_sem] theorem Ma (cs : List D) : old k (n + 1) (.agg cs) = bA k n cs := (rfl)
@[go_sem] theorem Mb (cs : List D) : old k (n + 1) (.tup cs) = bA k n cs := (rfl)
@[go_sem] theorem NR (f : Nat) (cs : List D) : old k (n + 1) (.fn f cs) = bA k n cs := (rfl)
end
def bD(k:Nat):ab→Bool
 | []=>true
 | .box cs::r=>bA k 8 cs&&bD k r
 | .arr _ _ _ es::r=>bA k 8 es&&bD k r
@[go_sem] theorem zD (k : Nat) : bD k [] = true := (rfl)
@[go_sem] theorem zE (k : Nat) (cs : List D) (r : ab) : bD k (.box cs :: r) = (bA k 8 cs && bD k r) := (rfl)
@[go_sem] theorem zF (k sz ep : Nat) (pin : Bool) (es : List D) (r : ab) : bD k (.arr sz pin ep es :: r) = (bA k 8 es && bD k r) := (rfl)
theorem dz(k:Nat)(H:ab):H.all (fun o=>o.ds.all (old k depth))=bD k H:=by
 induction H with
 | nil=>rfl
 | cons o r ih=>rw[List.all_cons,ih];cases o<;>rfl
def zG(d:D)(b:Bool):D:=if b then d else .und
@[go_sem] theorem C4 (d : D) : zG d true = d := (rfl)
@[go_sem] theorem zH (d : D) : zG d false = .und := (rfl)
@[go_sem] theorem Mc (k : Nat) (d : D) : kill k d = zG d (old k 8 d) := (rfl)
def qi(k:Nat):List D→List D
 | []=>[]
 | d::r=>kill k d::qi k r
@[go_sem] theorem GH (k : Nat) : qi k [] = [] := (rfl)
@[go_sem] theorem C5 (k : Nat) (d : D) (r : List D) : qi k (d :: r) = kill k d :: qi k r := (rfl)
theorem vh(k:Nat)(vs:List D):vs.map (kill k)=qi k vs:=by
 induction vs with
 | nil=>rfl
 | cons d r ih=>rw[List.map_cons,ih];rfl
@[go_sem] theorem JG (k : Nat) (vs : List D) (H : ab) : pU k ⟨vs, H⟩ = if bD k (H.take k) = true then some ⟨qi k vs, H.take k⟩ else none := by
 simp only[pU,dz,vh]
@[go_sem] theorem sk (H : ab) (n : Nat) (x : T) : bT H n (.t x) = [] := by cases n <;> rfl
@[go_sem] theorem JH (H : ab) (n : Nat) : bT H n .nil = [] := by cases n <;> rfl
@[go_sem] theorem zI (H : ab) (n id off : Nat) : bT H n (.bp id off) = [] := by cases n <;> rfl
@[go_sem] theorem Md (H : ab) (n f : Nat) (cs : List D) : bT H n (.fn f cs) = [] := by cases n <;> rfl
@[go_sem] theorem Me (H : ab) (n : Nat) (cs : List T) : bT H n (.ep cs) = [] := by cases n <;> rfl
@[go_sem] theorem Mf (H : ab) (n a b c d e : Nat) : bT H n (.ap a b c d e) = [] := by cases n <;> rfl
def eP(H:ab)(n:Nat)(cs:List D):List Nat:=cs.flatMap (bT H n)
@[go_sem] theorem GI (H : ab) (n : Nat) : eP H n [] = [] := (rfl)
@[go_sem] theorem qj (H : ab) (n : Nat) (d : D) (r : List D) : eP H n (d :: r) = bT H n d ++ eP H n r := (rfl)
@[go_sem] theorem Mg (H : ab) (n : Nat) (ts : List T) : eP H n (ts.map .t) = [] := by
 induction ts with
 | nil=>rfl
 | cons t ts ih=>rw[List.map_cons,qj,ih,sk];rfl
@[go_sem] theorem GJ (H : ab) (n : Nat) (a b : List D) : eP H n (a ++ b) = eP H n a ++ eP H n b := by simp [eP]
@[go_sem] theorem JI (H : ab) (n : Nat) (cs : List D) : bT H (n + 1) (.agg cs) = eP H n cs := (rfl)
def zJ(H:ab)(n:Nat):Option Obj→List Nat
 | some (.arr _ _ _ es)=>eP H n es
 | _=>[]
@[go_sem] theorem GK (H : ab) (n sz ep : Nat) (pin : Bool) (es : List D) : zJ H n (some (.arr sz pin ep es)) = eP H n es := (rfl)
@[go_sem] theorem JJ (H : ab) (n id ep m : Nat) : bT H (n + 1) (.ref id ep m) = id :: zJ H n H[id]? := (rfl)
@[go_sem] theorem JK (H : ab) (n id ep m lo hi : Nat) : bT H (n + 1) (.sub id ep m lo hi) = id :: zJ H n H[id]? := (rfl)
@[go_sem] theorem Mh : jc [] = .tup [] := (rfl)
@[go_sem] theorem Mi (d : D) : jc [d] = d := (rfl)
@[go_sem] theorem Mj (a b : D) (r : List D) : jc (a :: b :: r) = .tup (a :: b :: r) := (rfl)
def mW(k:Nat):List Nat→Bool
 | []=>true
 | i::r=> !ltB i k&&mW k r
@[go_sem] theorem GL (k : Nat) : mW k [] = true := (rfl)
@[go_sem] theorem C6 (k i : Nat) (r : List Nat) : mW k (i :: r) = (!ltB i k && mW k r) := (rfl)
theorem pv(k:Nat)(l:List Nat):l.all (fun i=>decide (k≤i))=mW k l:=by
 induction l with
 | nil=>rfl
 | cons i r ih=>
   rw[List.all_cons,ih]
   simp only[mW,eF]
   congr 1
   rw[Bool.eq_iff_iff];simp
def JL(k raw:Nat)(H:ab)(ds rs:List D):Option (D×ab):=
 (dM H (max raw 1) (List.range k) (rs.flatMap (ids depth)++eU H (List.range k))).bind fun q=>
  if(cz H raw ds).all (fun i=> !(List.range k++q.1).contains i)then
   (aO (ren (idxOf (List.range k++q.1)) depth) rs).bind fun rs'=>
    (aO (bR (idxOf (List.range k++q.1))) (H.take k++q.2)).map fun hs'=>(jc rs',hs')
  else none
def C7(k raw:Nat)(H:ab)(ds rs:List D)(b:Bool):Option (D×ab):=
 if b then(if mW k (cz H raw ds)=true then some (jc rs,H.take k)else none)else JL k raw H ds rs
@[go_sem] theorem GM (k raw : Nat) (H : ab) (ds rs : List D) : C7 k raw H ds rs true = if mW k (cz H raw ds) = true then some (jc rs, H.take k) else none := (rfl)
def GN(k raw:Nat)(H:ab)(ds rs:List D):Option (D×ab):=C7 k raw H ds rs (bA k 8 rs&&bD k (H.take k))
@[go_sem] theorem Mk (k raw : Nat) (H : ab) (ds rs : List D) : GN k raw H ds rs = C7 k raw H ds rs (bA k 8 rs && bD k (H.take k)) := (rfl)
@[go_sem] theorem GO (k : Nat) (H : ab) (ds : List D) : finish k 0 H ds = (aO (jt H) ds).bind (GN k 0 H ds) := by
 simp only[finish,if_true,dz,pv]
 cases aO (jt H) ds with
 | none=>rfl
 | some rs=>
   simp only[Option.bind_some,GN,C7]
   show(if(bA k 8 rs&&bD k (H.take k))=true then _ else _)=_
   cases (bA k 8 rs&&bD k (H.take k))<;>rfl
@[go_sem] theorem GP (H : ab) (ds : List D) : cz H 0 ds = eP H 8 ds := (rfl)
@[go_sem] theorem GQ (vs : List D) : cJ [] vs = vs := (rfl)
@[go_sem] theorem C8 (i : Nat) (r : List Nat) (vs : List D) : cJ (i :: r) vs = cJ r (vs.set i .und) := (rfl)
@[go_sem] theorem Ml (dead : List Nat) (k : Nat) (vs : List D) (H : ab) : tidy false dead k ⟨vs, H⟩ = some ⟨cJ dead vs, H⟩ := (rfl)
@[go_sem] theorem Mm (dead : List Nat) (k : Nat) (vs : List D) (H : ab) : tidy true dead k ⟨vs, H⟩ = pU k ⟨cJ dead vs, H⟩ := (rfl)
section
variable (H : ab) (call : ah) (f raw : Nat) (keep : List Nat) (ds : List D)
def lI(H1:ab)(n:Nat)(sel:List Nat)(p:D×ab):Option (D×ab):=
 (ren (bh sel n) depth p.1).bind fun r'=>(aO (bR (bh sel n)) p.2).map fun os=>(r',aU H1 sel (os.take sel.length)++os.drop sel.length)
def gn(H1:ab)(sel:List Nat)(p:D×ab):Option (D×ab):=
 if sel.isEmpty&&p.2.isEmpty&&ek p.1 then some (p.1,H)else lI H1 H.length sel p
def zK(args:List D)(H1:ab)(sel:List Nat)(hs:ab):Option (D×ab):=(call raw f args hs).bind (gn H H1 sel)
def zL(args:List D)(H1:ab)(sel:List Nat)(hs:ab):Option (D×ab):=(aO (bR (idxOf sel)) hs).bind (zK H call f raw args H1 sel)
def zM(H1:ab)(sel:List Nat)(args:List D):Option (D×ab):=(pick H1 sel).bind (zL H call f raw args H1 sel)
def zN(args:List D)(sel:List Nat):Option (D×ab):=(aO (ren (idxOf sel) depth) args).bind (zM H call f raw (pins H (aQ H keep 0 ds)) sel)
def kc(n:Nat)(cs:List D):List Nat:=cs.flatMap (ids n)
def zO(args:List D):Option (D×ab):=zN H call f raw keep ds args (reach H 3 (bz [] (kc 8 args)))
def sm:Option (D×ab):=(en H keep 0 ds).bind (zO H call f raw keep ds)
theorem vj:qg H call f raw keep ds=sm H call f raw keep ds:=(rfl)
@[go_sem] theorem vk : sm H call f raw keep ds = (en H keep 0 ds).bind (zO H call f raw keep ds) := (rfl)
@[go_sem] theorem vl (args : List D) : zO H call f raw keep ds args = zN H call f raw keep ds args (reach H 3 (bz [] (kc 8 args))) := (rfl)
@[go_sem] theorem vm (args : List D) (sel : List Nat) : zN H call f raw keep ds args sel = (aO (ren (idxOf sel) 8) args).bind (zM H call f raw (pins H (aQ H keep 0 ds)) sel) := (rfl)
@[go_sem] theorem vn (H1 : ab) (sel : List Nat) (args : List D) : zM H call f raw H1 sel args = (pick H1 sel).bind (zL H call f raw args H1 sel) := (rfl)
@[go_sem] theorem vo (args : List D) (H1 : ab) (sel : List Nat) (hs : ab) : zL H call f raw args H1 sel hs = (aO (bR (idxOf sel)) hs).bind (zK H call f raw args H1 sel) := (rfl)
@[go_sem] theorem vq (args : List D) (H1 : ab) (sel : List Nat) (hs : ab) : zK H call f raw args H1 sel hs = (call raw f args hs).bind (gn H H1 sel) := (rfl)
def vt(H1:ab)(sel:List Nat)(r:D)(os:ab):Option (D×ab):=some (r,aU H1 sel (os.take sel.length)++os.drop sel.length)
@[go_sem] theorem vu (H1 : ab) (sel : List Nat) (r : D) (os : ab) : vt H1 sel r os = some (r, aU H1 sel (os.take sel.length) ++ os.drop sel.length) := (rfl)
def zP(H1:ab)(n:Nat)(sel:List Nat)(os:ab)(r:D):Option (D×ab):=(aO (bR (bh sel n)) os).bind (vt H1 sel r)
@[go_sem] theorem pw (H1 : ab) (n : Nat) (sel : List Nat) (os : ab) (r : D) : zP H1 n sel os r = (aO (bR (bh sel n)) os).bind (vt H1 sel r) := (rfl)
@[go_sem] theorem px (H1 : ab) (n : Nat) (sel : List Nat) (r : D) (os : ab) : lI H1 n sel (r, os) = (ren (bh sel n) 8 r).bind (zP H1 n sel os) := by
 simp only[lI,depth]
 cases ren (bh sel n) 8 r with
 | none=>rfl
 | some r'=>simp only[Option.bind_some,zP];cases aO (bR (bh sel n)) os<;>rfl
@[go_sem] theorem GR (H1 : ab) (i : Nat) (sel : List Nat) (p : D × ab) : gn H H1 (i :: sel) p = lI H1 H.length (i :: sel) p := (rfl)
@[go_sem] theorem JM (H1 : ab) (sel : List Nat) (r : D) (o : Obj) (os : ab) : gn H H1 sel (r, o :: os) = lI H1 H.length sel (r, o :: os) := by
 simp[gn]
@[go_sem] theorem Mn (H1 : ab) (k : IntKind) (n : Int) : gn H H1 [] (.t (.int k n), []) = some (.t (.int k n), H) := (rfl)
@[go_sem] theorem Mo (H1 : ab) (b : Bool) : gn H H1 [] (.t (.bool b), []) = some (.t (.bool b), H) := (rfl)
@[go_sem] theorem JN (H1 : ab) (es : List T) : gn H H1 [] (.t (.sl es), []) = some (.t (.sl es), H1) := by simp [gn, lI, ek, T.scalar, ren, depth, aO, aU]
@[go_sem] theorem GS (H1 : ab) (es : List T) : gn H H1 [] (.t (.agg es), []) = some (.t (.agg es), H1) := by simp [gn, lI, ek, T.scalar, ren, depth, aO, aU]
@[go_sem] theorem GU (H1 : ab) (ds : List D) : gn H H1 [] (.tup ds, []) = if ds.all jr then some (.tup ds, H) else lI H1 H.length [] (.tup ds, []) := by
 simp[gn,ek]
def zQ:Option (List T)→Option (D×ab)
 | some ts=>(call raw f (ts.map .t) []).bind (ka H)
 | none=>sm H call f raw [] ds
@[go_sem] theorem C9 (ts : List T) : zQ H call f raw ds (some ts) = (call raw f (ts.map .t) []).bind (ka H) := (rfl)
@[go_sem] theorem Da : zQ H call f raw ds none = sm H call f raw [] ds := (rfl)
@[go_sem] theorem Mp : qg H call f raw [] ds = zQ H call f raw ds (dw H ds) := by
 cases h:dw H ds with
 | none=>rfl
 | some ts=>exact sj H call f raw ds ts h
@[go_sem] theorem NS (k : Nat) : qg H call f raw (k :: keep) ds = sm H call f raw (k :: keep) ds := (rfl)
end
section
variable (H : ab) (keep : List Nat)
@[go_sem] theorem GV (i : Nat) : en H keep i [] = some [] := (rfl)
def ny(i:Nat):List Nat→Bool
 | []=>false
 | j::r=>eqB i j||ny i r
@[go_sem] theorem JO (i : Nat) : ny i [] = false := (rfl)
@[go_sem] theorem GW (i j : Nat) (r : List Nat) : ny i (j :: r) = (eqB i j || ny i r) := (rfl)
theorem lJ(i:Nat)(l:List Nat):l.contains i=ny i l:=by
 induction l with
 | nil=>rfl
 | cons j r ih=>rw[List.contains_cons,ih];simp only[ny,ot];rw[beq_eq_decide_nat]
where beq_eq_decide_nat {a b:Nat}:(a==b)=decide (a=b):=by rw[Bool.eq_iff_iff];simp
def Mq(d:D):Bool→Option D
 | true=>some d
 | false=>jt H d
@[go_sem] theorem NT (d : D) : Mq H d true = some d := (rfl)
@[go_sem] theorem w5 (d : D) : Mq H d false = jt H d := (rfl)
def NU(i:Nat)(r:List D)(x:D):Option (List D):=cY x (en H keep (i+1) r)
@[go_sem] theorem sn (i : Nat) (r : List D) (x : D) : NU H keep i r x = cY x (en H keep (i + 1) r) := (rfl)
@[go_sem] theorem kS (i : Nat) (d : D) (r : List D) : en H keep i (d :: r) = (Mq H d (ny i keep)).bind (NU H keep i r) := by
 simp only[en,lJ]
 cases ny i keep<;>rfl
@[go_sem] theorem tK (i : Nat) : aQ H keep i [] = [] := (rfl)
def frK(l:List Nat):Bool→List Nat
 | true=>[]
 | false=>l
@[go_sem] theorem O0 (l : List Nat) : frK l true = [] := (rfl)
@[go_sem] theorem GX (l : List Nat) : frK l false = l := (rfl)
@[go_sem] theorem fe (i : Nat) (d : D) (r : List D) : aQ H keep i (d :: r) = frK (bT H 8 d) (ny i keep) ++ aQ H keep (i + 1) r := by
 simp only[aQ,lJ]
 cases ny i keep<;>rfl
@[go_sem] theorem JP (H : ab) : pins H [] = H := (rfl)
@[go_sem] theorem GY (H : ab) (i : Nat) (r : List Nat) : pins H (i :: r) = pins (H.modify i oT) r := (rfl)
def qk(i:Nat):Option Obj→ab
 | some (.arr sz _ ep es)=>H.set i (.arr sz true ep es)
 | _=>H
@[go_sem] theorem GZ (i : Nat) (cs : List D) : qk H i (some (.box cs)) = H := (rfl)
@[go_sem] theorem G0 (i sz ep : Nat) (pin : Bool) (es : List D) : qk H i (some (.arr sz pin ep es)) = H.set i (.arr sz true ep es) := (rfl)
theorem vv{α:Type}{l:List α}{i:Nat}{x:α}(h:l[i]?=some x):l.set i x=l:=by
 apply List.ext_getElem?
 intro j
 rw[List.getElem?_set]
 split
 · rename_i e;subst e
   split
   · exact h.symm
   · rename_i hl;rw[List.getElem?_eq_none (by omega)]at h;cases h
 · rfl
@[go_sem] theorem Db (i : Nat) : List.modify H i oT = qk H i H[i]? := by
 apply List.ext_getElem?
 intro j
 rw[List.getElem?_modify]
 cases h:H[i]? with
 | none=>
   simp only[qk]
   by_cases e:i=j
   · subst e;rw[h];simp
   · simp[e]
 | some o=>
   have hi:i<H.length:=(List.getElem?_eq_some_iff.1 h).1
   cases o with
   | box cs=>
     simp only[qk]
     by_cases e:i=j
     · subst e;rw[h];simp[oT]
     · simp[e]
   | arr sz pin ep es=>
     simp only[qk]
     rw[List.getElem?_set]
     by_cases e:i=j
     · subst e;rw[h];simp[oT,hi]
     · simp[e]
section
variable (n : Nat)
@[go_sem] theorem O1 (x : T) : ids n (.t x) = [] := by cases n <;> rfl
@[go_sem] theorem Mr : ids n .nil = [] := by cases n <;> rfl
@[go_sem] theorem JQ : ids n .nilp = [] := by cases n <;> rfl
@[go_sem] theorem Ms : ids n .und = [] := by cases n <;> rfl
@[go_sem] theorem NV (cs : List T) : ids n (.ep cs) = [] := by cases n <;> rfl
@[go_sem] theorem G1 (id off : Nat) : ids n (.bp id off) = [id] := by cases n <;> rfl
@[go_sem] theorem NW (id ep m i off : Nat) : ids n (.ap id ep m i off) = [id] := by cases n <;> rfl
@[go_sem] theorem Mt (id ep m : Nat) : ids n (.ref id ep m) = [id] := by cases n <;> rfl
@[go_sem] theorem Mu (id ep m lo hi : Nat) : ids n (.sub id ep m lo hi) = [id] := by cases n <;> rfl
@[go_sem] theorem Mv (cs : List D) : ids (n + 1) (.agg cs) = kc n cs := (rfl)
@[go_sem] theorem Mw (cs : List D) : ids (n + 1) (.tup cs) = kc n cs := (rfl)
@[go_sem] theorem G2 (f : Nat) (cs : List D) : ids (n + 1) (.fn f cs) = kc n cs := (rfl)
@[go_sem] theorem vw : kc n [] = [] := (rfl)
@[go_sem] theorem so (d : D) (r : List D) : kc n (d :: r) = ids n d ++ kc n r := (rfl)
@[go_sem] theorem pz (ts : List T) : kc n (ts.map .t) = [] := sg ts n
@[go_sem] theorem pA (a b : List D) : kc n (a ++ b) = kc n a ++ kc n b := by simp [kc]
@[go_sem] theorem JR (m : Nat) (x : T) : kc n (List.replicate m (.t x)) = [] := by
 have:List.replicate m (D.t x)=(List.replicate m x).map .t:=by simp
 rw[this,pz]
end
def sq(sel:List Nat)(i:Nat):Bool→List Nat
 | true=>sel
 | false=>sel++[i]
@[go_sem] theorem JS (sel : List Nat) (i : Nat) : sq sel i true = sel := (rfl)
@[go_sem] theorem JT (sel : List Nat) (i : Nat) : sq sel i false = sel ++ [i] := (rfl)
@[go_sem] theorem Dc (sel : List Nat) : bz sel [] = sel := (rfl)
@[go_sem] theorem zR (sel : List Nat) (i : Nat) (r : List Nat) : bz sel (i :: r) = bz (sq sel i (ny i sel)) r := by
 simp only[bz,lJ]
 cases ny i sel<;>rfl
def pB:Option Obj→List Nat
 | some (.box cs)=>kc 8 cs
 | some (.arr _ _ _ es)=>kc 8 es
 | none=>[]
@[go_sem] theorem Dd (cs : List D) : pB (some (.box cs)) = kc 8 cs := (rfl)
@[go_sem] theorem De (sz ep : Nat) (pin : Bool) (es : List D) : pB (some (.arr sz pin ep es)) = kc 8 es := (rfl)
@[go_sem] theorem G3 : eU H [] = [] := (rfl)
@[go_sem] theorem Df (i : Nat) (r : List Nat) : eU H (i :: r) = pB H[i]? ++ eU H r := by
 simp only[eU,List.flatMap_cons]
 congr 1
 cases H[i]? with
 | none=>rfl
 | some o=>cases o<;>rfl
@[go_sem] theorem Mx (sel : List Nat) : reach H 0 sel = sel := (rfl)
@[go_sem] theorem My (n : Nat) (sel : List Nat) : reach H (n + 1) sel = reach H n (bz sel (eU H sel)) := (rfl)
@[go_sem] theorem JU : pick H [] = some [] := (rfl)
def G4(r:List Nat)(o:Obj):Option ab:=cY o (pick H r)
@[go_sem] theorem vz (r : List Nat) (o : Obj) : G4 H r o = cY o (pick H r) := (rfl)
@[go_sem] theorem sr (i : Nat) (r : List Nat) : pick H (i :: r) = H[i]?.bind (G4 H r) := (rfl)
end
section
variable (f : Nat → Option Nat) (n : Nat)
@[go_sem] theorem Mz (x : T) : ren f n (.t x) = some (.t x) := by cases n <;> rfl
@[go_sem] theorem MA : ren f n .nil = some .nil := by cases n <;> rfl
@[go_sem] theorem JV : ren f n .nilp = some .nilp := by cases n <;> rfl
@[go_sem] theorem MB : ren f n .und = some .und := by cases n <;> rfl
@[go_sem] theorem NX (cs : List T) : ren f n (.ep cs) = some (.ep cs) := by cases n <;> rfl
def NY(off:Nat)(i:Nat):D:= .bp i off
@[go_sem] theorem MC (off i : Nat) : NY off i = .bp i off := (rfl)
@[go_sem] theorem G5 (id off : Nat) : ren f n (.bp id off) = (f id).map (NY off) := by cases n <;> rfl
def NZ(ep m i off:Nat)(j:Nat):D:= .ap j ep m i off
@[go_sem] theorem MD (ep m i off j : Nat) : NZ ep m i off j = .ap j ep m i off := (rfl)
@[go_sem] theorem N0 (id ep m i off : Nat) : ren f n (.ap id ep m i off) = (f id).map (NZ ep m i off) := by cases n <;> rfl
def G6(ep m:Nat)(j:Nat):D:= .ref j ep m
@[go_sem] theorem JW (ep m j : Nat) : G6 ep m j = .ref j ep m := (rfl)
@[go_sem] theorem ME (id ep m : Nat) : ren f n (.ref id ep m) = (f id).map (G6 ep m) := by cases n <;> rfl
def G7(ep m lo hi:Nat)(j:Nat):D:= .sub j ep m lo hi
@[go_sem] theorem JX (ep m lo hi j : Nat) : G7 ep m lo hi j = .sub j ep m lo hi := (rfl)
@[go_sem] theorem MF (id ep m lo hi : Nat) : ren f n (.sub id ep m lo hi) = (f id).map (G7 ep m lo hi) := by cases n <;> rfl
@[go_sem] theorem G8 (g : Nat) (cs : List D) : ren f (n + 1) (.fn g cs) = (aO (ren f n) cs).map (.fn g) := (rfl)
@[go_sem] theorem MG (cs : List D) : ren f (n + 1) (.agg cs) = (aO (ren f n) cs).map .agg := (rfl)
@[go_sem] theorem MH (cs : List D) : ren f (n + 1) (.tup cs) = (aO (ren f n) cs).map .tup := (rfl)
@[go_sem] theorem fD (ts : List T) : aO (ren f n) (ts.map .t) = some (ts.map .t) := by
 induction ts with
 | nil=>rfl
 | cons t ts ih=>rw[List.map_cons,mS,Mz,Option.bind_some,ze,ih];rfl
@[go_sem] theorem w6 (m : Nat) (x : T) : aO (ren f n) (List.replicate m (.t x)) = some (List.replicate m (.t x)) := by
 have:List.replicate m (D.t x)=(List.replicate m x).map .t:=by simp
 rw[this,fD]
@[go_sem] theorem ql (cs : List D) : bR f (.box cs) = (aO (ren f 8) cs).map .box := (rfl)
@[go_sem] theorem Dg (sz ep : Nat) (pin : Bool) (es : List D) : bR f (.arr sz pin ep es) = (aO (ren f 8) es).map (.arr sz pin ep) := (rfl)
end
def Dh(x:Option Nat):Bool→Option Nat
 | true=>some 0
 | false=>x.map (· +1)
@[go_sem] theorem N1 (x : Option Nat) : Dh x true = some 0 := (rfl)
@[go_sem] theorem N2 (k : Nat) : Dh (some k) false = some (k + 1) := (rfl)
@[go_sem] theorem N3 : Dh none false = none := (rfl)
@[go_sem] theorem idxOf_nil (i : Nat) : idxOf [] i = none := (rfl)
@[go_sem] theorem idxOf_cons (j i : Nat) (r : List Nat) : idxOf (j :: r) i = Dh (idxOf r i) (eqB j i) := by
 simp only[idxOf,ot]
 by_cases h:j=i
 · simp[h,Dh]
 · simp[h,Dh]
@[go_sem] theorem Di (n i : Nat) : bh [] n i = some (n + i) := by simp [bh]
@[go_sem] theorem JY (j n : Nat) (r : List Nat) : bh (j :: r) n 0 = some j := by simp [bh]
@[go_sem] theorem JZ (j n i : Nat) (r : List Nat) : bh (j :: r) n (i + 1) = bh r n i := by
 simp only[bh,List.length_cons,Nat.add_lt_add_iff_right,List.getElem?_cons_succ,Nat.add_sub_add_right]
@[go_sem] theorem zS {α : Type} (H os : List α) : aU H [] os = H := by cases os <;> rfl
@[go_sem] theorem w7 {α : Type} (H : List α) (i : Nat) (r : List Nat) (o : α) (os : List α) : aU H (i :: r) (o :: os) = aU (H.set i o) r os := (rfl)
def lbP(sz:Nat)(p:List D×ab):List D×ab:=(p.1,.arr sz false 0 []::p.2)
@[go_sem] theorem N4 (sz : Nat) (cs : List D) (os : ab) : lbP sz (cs, os) = (cs, .arr sz false 0 [] :: os) := (rfl)
def lbC(base:Nat)(cs:List D)(off sz:Nat)(r:List (Nat×Nat)):Option D→List D×ab
 | some .nil=>lbP sz (aI (base+1) (cs.set off (.ref base 0 0)) r)
 | _=>aI base cs r
@[go_sem] theorem MI (base : Nat) (cs : List D) (off sz : Nat) (r : List (Nat × Nat)) : lbC base cs off sz r (some .nil) = lbP sz (aI (base + 1) (cs.set off (.ref base 0 0)) r) := (rfl)
@[go_sem] theorem O2 (base : Nat) (cs : List D) (off sz : Nat) (r : List (Nat × Nat)) (x : T) : lbC base cs off sz r (some (.t x)) = aI base cs r := (rfl)
@[go_sem] theorem MJ (base : Nat) (cs : List D) (off sz : Nat) (r : List (Nat × Nat)) (a b c : Nat) : lbC base cs off sz r (some (.ref a b c)) = aI base cs r := (rfl)
@[go_sem] theorem w8 (base : Nat) (cs : List D) (off sz : Nat) (r : List (Nat × Nat)) : aI base cs ((off, sz) :: r) = lbC base cs off sz r cs[off]? := by
 simp only[aI,lbC]
 split<;>split<;>simp_all [lbP]
def lvP(H:ab)(id:Nat)(p:List D×ab):Option (D×ab):=some (.tup [],H.set id (.box p.1)++p.2)
@[go_sem] theorem N5 (H : ab) (id : Nat) (cs : List D) (os : ab) : lvP H id (cs, os) = some (.tup [], H.set id (.box cs) ++ os) := (rfl)
def lvB(H:ab)(id:Nat)(l:List (Nat×Nat)):Option Obj→Option (D×ab)
 | some (.box cs)=>lvP H id (aI H.length cs l)
 | _=>none
@[go_sem] theorem N6 (H : ab) (id : Nat) (l : List (Nat × Nat)) (cs : List D) : lvB H id l (some (.box cs)) = lvP H id (aI H.length cs l) := (rfl)
@[go_sem] theorem zT (H : ab) (id : Nat) (x : Nat × Nat) (r : List (Nat × Nat)) : kR H id (x :: r) = lvB H id (x :: r) H[id]? := by
 simp only[kR,eo]
 generalize H[id]?=o
 rcases o with _ | (cs | _)
 · rfl
 · rfl
 · rfl
section
variable (H : ab)
def klE(n:Nat)(sel new:List Nat)(os:ab)(q:List Nat×ab):Option (List Nat×ab):=some (new++q.1,os++q.2)
@[go_sem] theorem N7 (n : Nat) (sel new : List Nat) (os : ab) (a : List Nat) (b : ab) : klE n sel new os (a, b) = some (new ++ a, os ++ b) := (rfl)
def klD(n:Nat)(sel new:List Nat)(os:ab):Option (List Nat×ab):=(dM H n (sel++new) (eU H new)).bind (klE n sel new os)
@[go_sem] theorem N8 (n : Nat) (sel new : List Nat) (os : ab) : klD H n sel new os = (dM H n (sel ++ new) (eU H new)).bind (klE n sel new os) := (rfl)
def iX(sel:List Nat):List Nat→Bool
 | []=>true
 | i::r=> !ny i sel&&iX sel r
@[go_sem] theorem Dj (sel : List Nat) : iX sel [] = true := (rfl)
@[go_sem] theorem zU (sel : List Nat) (i : Nat) (r : List Nat) : iX sel (i :: r) = (!ny i sel && iX sel r) := (rfl)
theorem mX(sel l:List Nat):l.all (fun i=> !sel.contains i)=iX sel l:=by
 induction l with
 | nil=>rfl
 | cons i r ih=>rw[List.all_cons,ih,lJ];rfl
def klC(n:Nat)(sel new:List Nat)(os:ab):Option (List Nat×ab):=
 (if n=0 then(if(os.flatMap fun o=>o.ds.flatMap (bT H depth)).all (fun i=> !(sel++new).contains i)then aO (bm H) os else none)else some os).bind (klD H n sel new)
def gU:ab→List Nat
 | []=>[]
 | .box cs::r=>eP H 8 cs++gU r
 | .arr _ _ _ es::r=>eP H 8 es++gU r
@[go_sem] theorem Dk : gU H [] = [] := (rfl)
@[go_sem] theorem Dl (cs : List D) (r : ab) : gU H (.box cs :: r) = eP H 8 cs ++ gU H r := (rfl)
@[go_sem] theorem Dm (sz ep : Nat) (pin : Bool) (es : List D) (r : ab) : gU H (.arr sz pin ep es :: r) = eP H 8 es ++ gU H r := (rfl)
theorem ss(os:ab):(os.flatMap fun o=>o.ds.flatMap (bT H depth))=gU H os:=by
 induction os with
 | nil=>rfl
 | cons o r ih=>rw[List.flatMap_cons,ih];cases o<;>rfl
@[go_sem] theorem O3 (sel new : List Nat) (os : ab) : klC H 0 sel new os = (if iX (sel ++ new) (gU H os) = true then aO (bm H) os else none).bind (klD H 0 sel new) := by
 simp only[klC,ss,mX,if_true]
@[go_sem] theorem O4 (n : Nat) (sel new : List Nat) (os : ab) : klC H (n + 1) sel new os = klD H (n + 1) sel new os := by
 simp[klC]
def klN(n:Nat)(sel new:List Nat):Option (List Nat×ab):=(pick H new).bind (klC H n sel new)
@[go_sem] theorem N9 (n : Nat) (sel new : List Nat) : klN H n sel new = (pick H new).bind (klC H n sel new) := (rfl)
@[go_sem] theorem J0 (sel front : List Nat) : dM H 0 sel front = some ([], []) := (rfl)
@[go_sem] theorem J1 (n : Nat) (sel front : List Nat) : dM H (n + 1) sel front = klN H n sel ((bz sel front).drop sel.length) := by
 simp only[dM,klN]
 generalize (bz sel front).drop sel.length=new
 cases pick H new with
 | none=>rfl
 | some os=>
   simp only[Option.bind_some,klC]
   congr 1
   funext os'
   simp only[klD]
   cases dM H n (sel++new) (eU H new)<;>rfl
@[go_sem] theorem vA (cs : List D) : bm H (.box cs) = (aO (jt H) cs).map .box := (rfl)
@[go_sem] theorem lK (sz ep : Nat) (pin : Bool) (ts : List T) : bm H (.arr sz pin ep (ts.map .t)) = some (.arr sz pin ep (ts.map .t)) := by
 simp only[bm,gT,Option.map_some]
@[go_sem] theorem vB (sz ep : Nat) (pin : Bool) : bm H (.arr sz pin ep []) = some (.arr sz pin ep []) := (rfl)
@[go_sem] theorem vC (sz ep : Nat) (pin : Bool) (m : Nat) (x : T) : bm H (.arr sz pin ep (List.replicate m (.t x))) = some (.arr sz pin ep (List.replicate m (.t x))) := by
 have:List.replicate m (D.t x)=(List.replicate m x).map .t:=by simp
 rw[this,lK]
def MK(k raw:Nat)(H:ab)(ds rs:List D)(q:List Nat×ab):Option (D×ab):=
 if iX (List.range k++q.1) (cz H raw ds)=true then
  (aO (ren (idxOf (List.range k++q.1)) depth) rs).bind fun rs'=>(aO (bR (idxOf (List.range k++q.1))) (H.take k++q.2)).map fun hs'=>(jc rs',hs')
 else none
def su(sel:List Nat)(H2:ab)(rs':List D):Option (D×ab):=(aO (bR (idxOf sel)) H2).bind (finT3 rs')
where finT3 (rs':List D) (hs:ab):Option (D×ab):=some (jc rs',hs)
@[go_sem] theorem J2 (rs' : List D) (hs : ab) : su.finT3 rs' hs = some (jc rs', hs) := (rfl)
@[go_sem] theorem J3 (sel : List Nat) (H2 : ab) (rs' : List D) : su sel H2 rs' = (aO (bR (idxOf sel)) H2).bind (su.finT3 rs') := (rfl)
@[go_sem] theorem ML (k raw : Nat) (ds rs : List D) (sel : List Nat) (os : ab) : MK k raw H ds rs (sel, os) =
 if iX (List.range k++sel) (cz H raw ds)=true then(aO (ren (idxOf (List.range k++sel)) 8) rs).bind (su (List.range k++sel) (H.take k++os))else none:=by
 simp only[MK,depth]
 split
 · cases aO (ren (idxOf (List.range k++sel)) 8) rs with
   | none=>rfl
   | some rs'=>simp only[Option.bind_some,su];cases aO (bR (idxOf (List.range k++sel))) (H.take k++os)<;>rfl
 · rfl
@[go_sem] theorem MM (k raw : Nat) (ds rs : List D) : JL k raw H ds rs = (dM H (max raw 1) (List.range k) (kc 8 rs ++ eU H (List.range k))).bind (MK k raw H ds rs) := by
 simp only[JL,mX,kc,depth];rfl
@[go_sem] theorem Dn (k raw : Nat) (ds rs : List D) : C7 k raw H ds rs false = JL k raw H ds rs := (rfl)
@[go_sem] theorem Dp (k raw : Nat) (ds : List D) : finish k (raw + 1) H ds = GN k (raw + 1) H ds ds := by
 simp only[finish,Nat.add_one_ne_zero,if_false,Option.bind_some,dz,pv,GN,C7]
 show(if(bA k 8 ds&&bD k (H.take k))=true then _ else _)=_
 cases (bA k 8 ds&&bD k (H.take k))<;>rfl
@[go_sem] theorem zV (raw : Nat) (ds : List D) : cz H (raw + 1) ds = [] := by simp [cz]
@[go_sem] theorem J4 : max 0 1 = 1 := (rfl)
@[go_sem] theorem MN (r : Nat) : max (r + 1) 1 = r + 1 := by omega
@[go_sem] theorem Dq : List.range 0 = [] := (rfl)
@[go_sem] theorem Dr : List.range 1 = [0] := (rfl)
@[go_sem] theorem Dt : List.range 2 = [0, 1] := (rfl)
@[go_sem] theorem Du : List.range 3 = [0, 1, 2] := (rfl)
@[go_sem] theorem Dv : List.range 4 = [0, 1, 2, 3] := (rfl)
end
theorem pC{α:Type}(f:α→T)(l:List α)(i:Nat)(x:α)(y:D)(h:y= .t (f x)):((l.map f).map D.t).set i y=((l.set i x).map f).map D.t:=by
 rw[h,List.map_map,List.map_map]
 exact(List.map_set (f:=D.t ∘ f)).symm
@[go_sem] theorem MO (l : List Int) (i : Nat) (k : IntKind) (x : Int) : ((l.map (T.int k)).map D.t).set i (.t (.int k x)) = ((l.set i x).map (T.int k)).map D.t := pC _ l i x _ rfl
@[go_sem] theorem J5 (l : List Bool) (i : Nat) (x : Bool) : ((l.map T.bool).map D.t).set i (.t (.bool x)) = ((l.set i x).map T.bool).map D.t := pC _ l i x _ rfl
end Go.Ev
namespace Go.Ev
class Lib where
 fs:Nat→Option Fn
end Go.Ev
namespace Go.Ev.K
abbrev u(x:O):R:={ o:=x}
abbrev w(n:Nat)(x:O):R:={ o:=x,d:=some n}
abbrev y(n:Nat)(b:Bool)(x:O):R:={ o:=x,g:=some (n,b)}
abbrev m(x:X):R:={ o:= .mv x}
abbrev g(x:X):R:={ o:= .ld x 1 false}
abbrev h(n:Nat)(x:X):R:={ o:= .ld x n true}
abbrev f(n:Nat)(x:X):R:={ o:= .fa x n}
abbrev a(n:Nat)(x z:X):R:={ o:= .ia x z n}
abbrev l0:X:= .l 0
abbrev l1:X:= .l 1
abbrev l2:X:= .l 2
abbrev l3:X:= .l 3
abbrev l4:X:= .l 4
abbrev l5:X:= .l 5
abbrev l6:X:= .l 6
abbrev l7:X:= .l 7
abbrev l8:X:= .l 8
abbrev l9:X:= .l 9
abbrev l10:X:= .l 10
abbrev l11:X:= .l 11
abbrev v0:X:= .v 0
abbrev v1:X:= .v 1
abbrev v2:X:= .v 2
abbrev v3:X:= .v 3
abbrev v4:X:= .v 4
abbrev v5:X:= .v 5
abbrev v6:X:= .v 6
abbrev v7:X:= .v 7
abbrev v8:X:= .v 8
abbrev v9:X:= .v 9
abbrev v10:X:= .v 10
abbrev v11:X:= .v 11
abbrev v12:X:= .v 12
abbrev v13:X:= .v 13
abbrev v14:X:= .v 14
abbrev v15:X:= .v 15
abbrev v16:X:= .v 16
abbrev v17:X:= .v 17
abbrev v18:X:= .v 18
abbrev v19:X:= .v 19
abbrev v20:X:= .v 20
abbrev v21:X:= .v 21
abbrev v22:X:= .v 22
abbrev v23:X:= .v 23
end Go.Ev.K
namespace Go.Ev.N
def ov:Nat:=0
def bU:Nat:=1
def zW:Nat:=2
def cr:Nat:=3
def tM:Nat:=4
def Dw:Nat:=5
def qN:Nat:=6
def sw:Nat:=7
def qO:Nat:=8
def ax:Nat:=9
def bc:Nat:=10
def qm:Nat:=11
def G9:Nat:=12
def tN:Nat:=13
def sx:Nat:=14
def vD:Nat:=15
def tO:Nat:=16
def zX:Nat:=17
def w9:Nat:=18
def zY:Nat:=19
def tP:Nat:=20
def Hc:Nat:=21
def xc:Nat:=22
def cy:Nat:=23
def xd:Nat:=24
def sy:Nat:=25
def tQ:Nat:=26
def tR:Nat:=27
def zZ:Nat:=28
def z6:Nat:=29
def Hd:Nat:=30
def z7:Nat:=31
def Dx:Nat:=32
def z8:Nat:=33
def xe:Nat:=34
def xf:Nat:=35
def Aa:Nat:=36
def Dy:Nat:=37
def Ab:Nat:=38
def sA:Nat:=39
def Dz:Nat:=40
def Ac:Nat:=41
def DA:Nat:=42
def Ad:Nat:=43
def xg:Nat:=44
def He:Nat:=45
def xh:Nat:=46
def Ae:Nat:=47
def tS:Nat:=48
def ag:Nat:=49
def qn:Nat:=50
def lL:Nat:=51
def qP:Nat:=52
def tT:Nat:=53
def DB:Nat:=54
def DC:Nat:=55
def xi:Nat:=56
def Af:Nat:=57
def Ag:Nat:=58
def DD:Nat:=59
def Ah:Nat:=60
def DE:Nat:=61
def aP:Nat:=62
def DF:Nat:=63
def Ai:Nat:=64
def Aj:Nat:=65
def ai:Nat:=66
def nz:Nat:=67
def qQ:Nat:=68
def ff:Nat:=69
def pD:Nat:=70
def bP:Nat:=71
def Ak:Nat:=72
def Al:Nat:=73
def DG:Nat:=74
def fS:Nat:=75
def xj:Nat:=76
def DH:Nat:=77
end Go.Ev.N
namespace Go.Ev.K
open Go.Ev
def bU:Fn:={ nargs:=1,vars:=[0,2],body:=(.seq (.reg [w 1 (.mv (.b false))] []) (.seq (.reg [m v0,u (.ln l0),u (.bin .leq l0 (.i 400)),w 1 (.mv l0)] []) .ret)),res:=[(1,none)]}
def cr:Fn:={ nargs:=1,vars:=[0,2],body:=(.seq (.reg [w 1 (.mv (.c (.nilp)))] []) (.seq (.reg [m v0,u (.bd [.nil,.t (.int .i64 (0))] [(0,1,.l 0)]),u (.bx l0 2),w 1 (.mv l0)] []) .ret)),res:=[(1,none)]}
def ax:Fn:={ nargs:=2,vars:=[0,1,4],body:=(.seq (.reg [w 2 (.mv (.i 0))] []) (.seq (.ite [m v0,u (.nc l0),f 1 l0,g l0,m v0,u (.nc l0),f 0 l0,g l0,u (.ln l0),u (.bin .geq l5 l0)] [] 0 (.seq (.reg [w 2 (.mv (.i 0))] []) .ret) .skip) (.seq (.reg [m v0,u (.nc l0),f 1 l0,g l0,u (.bin .add l0 (.i 1)),u (.nc l4),f 1 l0,u (.st l0 l2 1 [])] []) (.seq (.reg [m v0,u (.nc l0),f 0 l0,g l0,m v0,u (.nc l0),f 1 l0,g l0,u (.bin .sub l0 (.i 1)),a 1 l5 l0,g l0,m v1,u (.ca N.cy 0 [] [.l 1,.l 0]),w 2 (.mv l0)] []) .ret)))),res:=[(2,none)]}
def bc:Fn:={ nargs:=2,vars:=[0,1,4],body:=(.seq (.reg [w 2 (.mv (.i 0))] []) (.seq (.reg [m v1,m v0,m v1,u (.ln l0),u (.ca N.ax 0 [] [.l 2,.l 0]),a 1 l4 l0,g l0,w 2 (.mv l0)] []) .ret)),res:=[(2,none)]}
def cy:Fn:={ nargs:=2,vars:=[0,1,4],body:=(.seq (.reg [w 2 (.mv (.i 0))] []) (.seq (.ite [m v1,u (.bin .lss l0 (.i 1))] [] 0 (.seq (.reg [w 2 (.mv (.i 0))] []) .ret) .skip) (.seq (.reg [m v0,m v1,u (.bin .rem l1 l0),w 0 (.mv l0)] []) (.seq (.ite [m v0,u (.bin .lss l0 (.i 0))] [] 0 (.reg [m v0,m v1,u (.bin .add l1 l0),w 0 (.mv l0)] []) .skip) (.seq (.reg [m v0,w 2 (.mv l0)] []) .ret))))),res:=[(2,none)]}
end Go.Ev.K
namespace Go.Ev
class dO [Lib]:Prop where
 fg:Lib.fs N.bU=some K.bU
 gp:Lib.fs N.cr=some K.cr
 dk:Lib.fs N.ax=some K.ax
 dS:Lib.fs N.bc=some K.bc
 iC:Lib.fs N.cy=some K.cy
namespace K
variable [Lib] [dO]
theorem fg:Lib.fs N.bU=some K.bU:=dO.fg
theorem gp:Lib.fs N.cr=some K.cr:=dO.gp
theorem dk:Lib.fs N.ax=some K.ax:=dO.dk
theorem dS:Lib.fs N.bc=some K.bc:=dO.dS
theorem iC:Lib.fs N.cy=some K.cy:=dO.iC
end K
end Go.Ev
namespace Go.Ev.K
open Go.Ev
def ag:Fn:={ nargs:=2,vars:=[0,1,4],body:=(.seq (.reg [w 2 (.mv (.b false))] []) (.seq (.reg [m v0,m v1,u (.ca N.ai 0 [] [.l 1,.l 0]),u (.bin .geq l0 (.i 0)),w 2 (.mv l0)] []) .ret)),res:=[(2,none)]}
def bZ:C:=(.seq (.ite [m v3,m v0,u (.ln l0),u (.bin .lss l2 l0)] [] 0 .skip (.exit 0)) (.seq (.blk 1 (.ite [m v0,m v3,a 1 l1 l0,g l0,m v1,m v3,a 1 l1 l0,g l0,u (.bin .neq l4 l0)] [] 0 (.seq (.reg [w 2 (.mv (.b false))] []) .ret) .skip)) (.reg [m v3,u (.bin .add l0 (.i 1)),w 3 (.mv l0)] [])))
def ef:C:= .loop true [2] K.bZ
def aP:Fn:={ nargs:=2,vars:=[0,1,4,5],body:=(.seq (.reg [w 2 (.mv (.b false))] []) (.seq (.ite [m v0,u (.ln l0),m v1,u (.ln l0),u (.bin .neq l2 l0)] [] 0 (.seq (.reg [w 2 (.mv (.b false))] []) .ret) .skip) (.seq (.seq (.reg [w 3 (.mv (.i 0))] []) (.blk 0 K.ef)) (.seq (.reg [w 2 (.mv (.b true))] []) .ret)))),res:=[(2,none)]}
def aW:C:=(.its [u (.bin .lss v5 v4)] [] 0 .skip (.exit 0) (.seq (.blk 1 (.seq (.reg [m v5,w 3 (.mv l0)] []) (.ite [m v1,m v0,m v3,a 1 l1 l0,g l0,u (.cw l4 0 [] [.l 0])] [] 0 (.seq (.reg [m v3,w 2 (.mv l0)] []) .ret) .skip))) (.reg [u (.bin .add v5 (.i 1)),w 5 (.mv l0)] [])))
def b8:C:= .loop true [2,3] K.aW
def ai:Fn:={ nargs:=2,vars:=[0,1,4,5,7,8],body:=(.seq (.reg [w 2 (.mv (.i 0))] []) (.seq (.seq (.reg [m v0,w 4 (.ln l0),w 5 (.mv (.i 0))] []) (.blk 0 K.b8)) (.seq (.reg [w 2 (.mv (.i (-1)))] []) .ret))),res:=[(2,none)]}
def bP:Fn:={ nargs:=3,vars:=[0,1,2,6],body:=(.seq (.reg [w 3 (.mv (.b false))] []) (.seq (.reg [m v0,m v1,u (.bin .geq l1 l0),m l0,y 0 true (.mv v0),y 1 true (.mv v2),y 2 true (.bin .leq l1 l0),u (.pk l3 l0 (.b false)),w 3 (.mv l0)] []) .ret)),res:=[(3,none)]}
end Go.Ev.K
namespace Go.Ev
class dT [Lib]:Prop where
 bk:Lib.fs N.ag=some K.ag
 dm:Lib.fs N.aP=some K.aP
 bE:Lib.fs N.ai=some K.ai
 iD:Lib.fs N.bP=some K.bP
namespace K
variable [Lib] [dT]
theorem bk:Lib.fs N.ag=some K.ag:=dT.bk
theorem dm:Lib.fs N.aP=some K.aP:=dT.dm
theorem bE:Lib.fs N.ai=some K.ai:=dT.bE
theorem iD:Lib.fs N.bP=some K.bP:=dT.iD
end K
end Go.Ev
namespace Go.Ev
open Go
variable [Lib]
noncomputable def bS:ah:=dI Lib.fs
theorem aX{raw f:Nat}{args:List D}{H:ab}{fn:Fn}{r:D×ab}(hf:Lib.fs f=some fn)(hn:fn.nargs=args.length)
 (h:(exS bS fn.body ⟨fN args fn.vars,H⟩).bind (IE fn.res H.length raw)=some r) (h0:fn.prim=[]:=by rfl):bS raw f args H=some r:=yX hf hn h h0
theorem Am{gc:Bool}{dead:List Nat}{c:C}{vs:List D}{H:ab}(s:Nat→St)(n:Nat){e:Ex}{st:St}
 (h0:(⟨cJ dead vs,H⟩:St)=s 0) (h:∀j,j<n→eO gc dead (s j).H.length (exS bS c (s j))=some (s (j+1)))
 (he:exS bS c (s n)=some (e,st)) (hn:e≠ .normal):exS bS (.loop gc dead c) ⟨vs,H⟩=some (e,st):=by
 show eb gc dead (exS bS c) ⟨cJ dead vs,H⟩=_
 rw[h0]
 exact lG s n h (cX he hn)
class Dat (α:Type) where
 dflt:α
instance : Dat Int := ⟨0⟩
instance : Dat Nat := ⟨0⟩
instance : Dat Bool := ⟨false⟩
instance {α : Type} : Dat (List α) := ⟨[]⟩
def nth{α:Type} [Dat α](l:List α)(j:Nat):α:=l.getD j Dat.dflt
theorem jo{α:Type} [Dat α]{l:List α}{j:Nat}(h:j<l.length):l[j]?=some (nth l j):=by simp[nth,h]
theorem cN{α β:Type} [Dat α](f:α→β){l:List α}{j:Nat}(h:j<l.length):(l.map f)[j]?=some (f (nth l j)):=by rw[List.getElem?_map,jo h];rfl
theorem vE{α β γ:Type} [Dat α](f:β→γ)(g:α→β){l:List α}{j:Nat}(h:j<l.length):((l.map g).map f)[j]?=some (f (g (nth l j))):=by rw[List.getElem?_map,cN g h];rfl
theorem fh{α:Type} [Dat α]{l:List α}{j:Nat}(h:j<l.length):nth l j∈l:=List.mem_of_getElem? (jo h)
theorem kT{α:Type} [Dat α]{l:List α}{j:Nat}{x:α}(h:l[j]?=some x):nth l j=x:=by simp[nth,h]
theorem MP{a b:Int}(h:a<b):(a<b)=True:=by simp[h]
theorem MQ{a b:Int}(h:b≤a):(a<b)=False:=by simp[Int.not_lt.2 h]
theorem MR{a b:Int}(h:a≤b):(a≤b)=True:=by simp[h]
theorem MS{a b:Int}(h:b<a):(a≤b)=False:=by simp[Int.not_le.2 h]
theorem MT{a b:Int}(h:a=b):(a=b)=True:=by simp[h]
theorem MU{a b:Int}(h:a≠b):(a=b)=False:=by simp[h]
theorem MV{a b:Nat}(h:a<b):(a<b)=True:=by simp[h]
theorem MW{a b:Nat}(h:b≤a):(a<b)=False:=by simp[Nat.not_lt.2 h]
theorem MX{a b:Nat}(h:a≤b):(a≤b)=True:=by simp[h]
theorem MY{a b:Nat}(h:b<a):(a≤b)=False:=by simp[Nat.not_le.2 h]
theorem MZ{a b:Nat}(h:a=b):(a=b)=True:=by simp[h]
theorem M0{a b:Nat}(h:a≠b):(a=b)=False:=by simp[h]
attribute [go_sem] MZ M0 MP MQ MR MS MT MU MV MW MX MY r8 cN vE zi
@[go_sem] theorem DI (a b : Nat) : ((a + b : Nat) : Int) = (a : Int) + (b : Int) := (rfl)
@[go_sem] theorem DJ : ((1 : Nat) : Int) = 1 := (rfl)
@[go_sem] theorem An : ((0 : Nat) : Int) = 0 := (rfl)
@[go_sem] theorem Hf (a b : Int) : a + b - b = a := Int.add_sub_cancel a b
@[go_sem] theorem xk : (0 : Int).toNat = 0 := (rfl)
@[go_sem] theorem Ao (n : Nat) : (n : Int).toNat = n := (rfl)
@[go_sem] theorem Aq (n : Nat) : ((n : Int) + 1).toNat = n + 1 := (rfl)
@[go_sem] theorem Ar (a : Int) : 0 + a = a := Int.zero_add a
@[go_sem] theorem As (a : Int) : a + 0 = a := Int.add_zero a
@[go_sem] theorem Au (a : Int) : a - 0 = a := Int.sub_zero a
abbrev tI(n:Int):T:= .int .i64 n
abbrev tL(l:List Int):T:= .sl (l.map (.int .i64))
@[go_sem] theorem vF (H : ab) (n : Nat) (ts : List T) (x : T) : aO (frz H n) (ts.map .t ++ [.t x]) = some (ts ++ [x]) := by
 have:ts.map D.t++[.t x]=(ts++[x]).map .t:=by simp
 rw[this,qh]
@[go_sem] theorem xl {α β : Type} (f : α → β) (a b : List α) : (a ++ b).map f = a.map f ++ b.map f := List.map_append
end Go.Ev
namespace Go.Ev
open Go
variable [Lib] [dO] [dT]
theorem iE{gc:Bool}{dead:List Nat}{c:C}{vs:List D}{H:ab}(s:Nat→St)(n:Nat)(p:Nat→Bool)(e:Nat→Ex×St)(eN:Ex×St)
 (h0:(⟨cJ dead vs,H⟩:St)=s 0) (hs:∀j,j<n→p j=false→eO gc dead (s j).H.length (exS bS c (s j))=some (s (j+1)))
 (he:∀j,j<n→p j=true→exS bS c (s j)=some (e j)∧(e j).1≠ .normal) (hN:exS bS c (s n)=some eN) (hn:eN.1≠ .normal):
 exS bS (.loop gc dead c) ⟨vs,H⟩=some (match (List.range n).find? p with | some j=>e j | none=>eN):=by
 show eb gc dead (exS bS c) ⟨cJ dead vs,H⟩=_
 rw[h0]
 cases hf:(List.range n).find? p with
 | none=>
   refine lG s n (fun j hj=>hs j hj ?_) (cX hN hn)
   have:=List.find?_eq_none.1 hf j (List.mem_range.2 hj)
   simpa using this
 | some k=>
   obtain⟨h1,as,bs,h2,h3⟩:=List.find?_eq_some_iff_append.1 hf
   have hk:k<n:=List.mem_range.1 (List.mem_of_find?_eq_some hf)
   have hlt:∀j,j<k→p j=false:=by
    intro j hj
    have hlen:as.length=k:=by
     have h4:(List.range n)[as.length]?=some k:=by rw[h2];simp
     have h5:as.length<n:=by
      have:=congrArg List.length h2;simp at this;omega
     rw[List.getElem?_range h5]at h4
     exact Option.some.inj h4
    have:j∈as:=by
     have h6:(List.range n)[j]?=some j:=List.getElem?_range (by omega)
     rw[h2,List.getElem?_append_left (by omega)]at h6
     exact List.mem_of_getElem? h6
    simpa using h3 j this
   obtain⟨k1,k2⟩:=he k hk h1
   exact lG s k (fun j hj=>hs j (by omega) (hlt j hj)) (cX k1 k2)
theorem vG{n:Nat}{p:Nat→Bool}:((List.range n).find? p).isSome=(List.range n).any p:=by
 rw[List.isSome_find?]
def cZ(m:Nat):List D:=(List.range m).map fun i=> .bp i 0
def aC(bs:List (List T)):ab:=bs.map fun cs=> .box (cs.map .t)
theorem kU{bs:List (List T)}{i:Nat}(h:i<bs.length):(aC bs)[i]?=some (.box (bs[i].map .t)):=by simp[aC,h]
theorem br(bs:List (List T)):(aC bs).length=bs.length:=by simp[aC]
theorem iF:∀(l sel:List Nat),(sel++l).Nodup→bz sel l=sel++l
 | [],sel,_=>by simp[bz]
 | i::r,sel,h=>by
   have:sel.contains i=false:=by
    rw[← Bool.not_eq_true,List.contains_iff_mem]
    intro hm
    have:=List.nodup_append.1 h
    exact this.2.2 i hm i List.mem_cons_self rfl
   simp only[bz,this,Bool.false_eq_true,if_false]
   rw[iF r (sel++[i]) (by simpa using h)]
   simp
theorem iY:∀(l:List Nat) (i k:Nat),l.Nodup→l[k]?=some i→idxOf l i=some k
 | [],i,k,_,h=>by simp at h
 | a::l,i,0,_,h=>by simp at h;simp[idxOf,h]
 | a::l,i,k+1,hn,h=>by
   simp at h
   have hne:a≠i:=fun e=>(List.nodup_cons.1 hn).1 (e▸List.mem_of_getElem? h)
   simp only[idxOf,if_neg hne,iY l i k (List.nodup_cons.1 hn).2 h,Option.map_some]
theorem ow{m i:Nat}(h:i<m):idxOf (List.range m) i=some i:=iY _ _ _ List.nodup_range (List.getElem?_range h)
theorem oy{α:Type}{f:α→Option α}:∀ {l:List α},(∀x∈l,f x=some x)→aO f l=some l
 | [],_=>rfl
 | a::l,h=>by
   simp only[aO,h a List.mem_cons_self,Option.bind_some,oy fun x hx=>h x (List.mem_cons_of_mem _ hx),Option.map_some]
theorem oz(f:Nat→Option Nat)(cs:List T):bR f (.box (cs.map .t))=some (.box (cs.map .t)):=by
 simp only[ql,fD,Option.map_some]
theorem mY{H:ab}:∀ {l:List Nat} {hs:ab},l.length=hs.length→(∀(k i:Nat) (o:Obj),l[k]?=some i→hs[k]?=some o→H[i]?=some o)→pick H l=some hs
 | [],[],_,_=>rfl
 | [],_::_,h,_=>by simp at h
 | _::_,[],h,_=>by simp at h
 | i::l,o::hs,h,hg=>by
   rw[sr,hg 0 i o rfl rfl,Option.bind_some,vz,mY (l:=l) (hs:=hs) (by simpa using h) fun k i o hk ho=>hg (k+1) i o (by simpa using hk) (by simpa using ho)]
   rfl
theorem iZ{H:ab}:∀ {l:List Nat} {os:ab},(∀(k i:Nat) (o:Obj),l[k]?=some i→os[k]?=some o→H[i]?=some o)→aU H l os=H
 | [],os,_=>by cases os<;>rfl
 | i::l,[],_=>rfl
 | i::l,o::os,hg=>by
   simp only[aU]
   rw[vv (hg 0 i o rfl rfl)]
   exact iZ fun k i o hk ho=>hg (k+1) i o (by simpa using hk) (by simpa using ho)
theorem mZ(call:ah)(bs:List (List T))(E:ab)(f raw:Nat)(args:List D){r:D}(h:call raw f args (aC bs)=some (r,aC bs))(hr:jf r=true)
 (ha:∀H:ab,en H [] 0 args=some args∧aQ H [] 0 args=[]) (hids:bz [] (kc 8 args)=List.range bs.length)
 (hren:aO (ren (idxOf (List.range bs.length)) 8) args=some args):qg (aC bs++E) call f raw [] args=some (r,aC bs++E):=by
 generalize hH:aC bs++E=H
 have hget:∀i (hi:i<bs.length),H[i]?=some (.box (bs[i].map .t)):=fun i hi=>by
  rw[← hH,List.getElem?_append_left (by rw[br];exact hi),kU hi]
 obtain⟨ha,hfz⟩:=ha H
 have hno:eU H (List.range bs.length)=[]:=by
  simp only[eU,List.flatMap_eq_nil_iff,List.mem_range]
  intro i hi
  rw[hget i hi]
  exact pz 8 bs[i]
 have hsel:reach H 3 (List.range bs.length)=List.range bs.length:=by
  simp only[reach,hno,bz]
 have hget2:∀(k i:Nat) (o:Obj),(List.range bs.length)[k]?=some i→(aC bs)[k]?=some o→H[i]?=some o:=by
  intro k i o hk ho
  have hkl:k<bs.length:=by have:=(List.getElem?_eq_some_iff.1 hk).1;simpa using this
  rw[List.getElem?_range hkl]at hk
  cases hk
  rw[kU hkl]at ho
  rw[hget k hkl,←ho]
 have hpick:pick H (List.range bs.length)=some (aC bs):=mY (by simp[br]) hget2
 have hro:∀f:Nat→Option Nat,aO (bR f) (aC bs)=some (aC bs):=fun f=>oy fun o ho=>by
  simp only[aC,List.mem_map]at ho
  obtain⟨cs,_,rfl⟩:=ho
  exact oz f cs
 have hput:aU H (List.range bs.length) (aC bs)=H:=iZ hget2
 rw[vj,vk,ha,Option.bind_some,vl,hids,hsel,vm,hren,Option.bind_some,hfz,vn]
 simp only[pins]
 rw[hpick,Option.bind_some,vo,hro,Option.bind_some,vq,h,Option.bind_some]
 cases hb:bs with
 | nil=>
   subst hb
   have hrr:=lH (f:=bh [] H.length) hr
   simp only[depth]at hrr
   simp only[List.length_nil,List.range_zero,aC,List.map_nil]
   unfold gn
   split
   · rfl
   · rw[px,hrr,Option.bind_some,pw]
     simp[aO,vt,aU]
 | cons b bt=>
   rw[← hb]
   have hne:List.range bs.length=0::(List.range' 1 bt.length):=by rw[hb];simp[List.range_eq_range',List.range'_succ]
   have hrr:=lH (f:=bh (List.range bs.length) H.length) hr
   simp only[depth]at hrr
   have hw:gn H H (List.range bs.length) (r,aC bs)=lI H H.length (List.range bs.length) (r,aC bs):=by
    rw[hne];rfl
   rw[hw,px,hrr,Option.bind_some,pw,hro,Option.bind_some,vu,List.length_range,List.take_of_length_le (by rw[br];exact Nat.le_refl _),hput,
    List.drop_eq_nil_of_le (by rw[br];exact Nat.le_refl _),List.append_nil]
theorem oA(H:ab)(cs:List D)(hc:∀i,en H [] i cs=some cs∧aQ H [] i cs=[]):∀(ts:List T) (i:Nat),en H [] i (ts.map .t++cs)=some (ts.map .t++cs)∧aQ H [] i (ts.map .t++cs)=[]
 | [],i=>hc i
 | t::ts,i=>by
   obtain⟨h1,h2⟩:=oA H cs hc ts (i+1)
   simp only[List.map_cons,List.cons_append,kS,fe,ny,w5,GF,Option.bind_some,sn,h1,h2,GX,sk]
   exact⟨rfl,rfl⟩
theorem m0(H:ab):∀(l:List Nat) (i:Nat),en H [] i (l.map fun i=> .bp i 0)=some (l.map fun i=> .bp i 0)∧aQ H [] i (l.map fun i=> .bp i 0)=[]
 | [],i=>⟨rfl,rfl⟩
 | a::l,i=>by
   obtain⟨h1,h2⟩:=m0 H l (i+1)
   simp only[List.map_cons,kS,fe,ny,w5,zC,Option.bind_some,sn,h1,h2,GX,zI]
   exact⟨rfl,rfl⟩
theorem m5(n m:Nat):kc n (cZ m)=List.range m:=by
 simp only[kc,cZ,List.flatMap_map]
 have:∀l:List Nat,(l.flatMap fun a=>ids n (.bp a 0))=l:=by
  intro l
  induction l with
  | nil=>rfl
  | cons a l ih=>rw[List.flatMap_cons,ih,G1];rfl
 exact this _
theorem pE(n m:Nat):aO (ren (idxOf (List.range m)) n) (cZ m)=some (cZ m):=oy fun d hd=>by
 simp only[cZ,List.mem_map,List.mem_range]at hd
 obtain⟨k,hk,rfl⟩:=hd
 rw[G5,ow hk];rfl
theorem lM{α β:Type}{f:α→Option β}:∀ {a b:List α} {x y:List β},aO f a=some x→aO f b=some y→aO f (a++b)=some (x++y)
 | [],b,x,y,h1,h2=>by simp[aO]at h1;subst h1;exact h2
 | c::a,b,x,y,h1,h2=>by
   simp only[aO,Option.bind_eq_some_iff,Option.map_eq_some_iff]at h1
   obtain⟨z,hz,r,hr,rfl⟩:=h1
   simp only[List.cons_append,aO,hz,Option.bind_some,lM hr h2,Option.map_some]
theorem sB(call:ah)(bs:List (List T))(E:ab)(f raw:Nat)(ts:List T){r:D}(h:call raw f (ts.map .t++cZ bs.length) (aC bs)=some (r,aC bs))(hr:jf r=true):
 qg (aC bs++E) call f raw [] (ts.map .t++cZ bs.length)=some (r,aC bs++E):=
 mZ call bs E f raw _ h hr (fun H=>oA H _ (m0 H _) ts 0)
  (by rw[pA,pz,List.nil_append,m5,iF _ _ (by simpa using List.nodup_range),List.nil_append])
  (lM (fD _ _ _) (pE _ _))
theorem Av(call:ah)(bs:List (List T))(E:ab)(g f raw:Nat)(ts:List T){r:D}(h:call raw f (ts.map .t++[.fn g (cZ bs.length)]) (aC bs)=some (r,aC bs))(hr:jf r=true):
 qg (aC bs++E) call f raw [] (ts.map .t++[.fn g (cZ bs.length)])=some (r,aC bs++E):=
 mZ call bs E f raw _ h hr (fun H=>oA H _ (fun i=>⟨rfl,rfl⟩) ts 0)
  (by rw[pA,pz,List.nil_append,so,G2,m5,vw,List.append_nil,iF _ _ (by simpa using List.nodup_range),List.nil_append])
  (lM (fD _ _ _) (by rw[mS,G8,pE];rfl))
theorem sC{f:Nat}{bs:List (List T)}{x:T}{r:D}(E:ab)(h:bS 0 f (.t x::cZ bs.length) (aC bs)=some (r,aC bs))(hr:jf r=true):
 qg (aC bs++E) bS f 0 [] (.t x::cZ bs.length)=some (r,aC bs++E):=sB bS bs E f 0 [x] h hr
theorem kV{f:Nat}{bs:List (List T)}{x:T}{r:D}(h:bS 0 f (.t x::cZ bs.length) (aC bs)=some (r,aC bs))(hr:jf r=true):
 qg (aC bs) bS f 0 [] (.t x::cZ bs.length)=some (r,aC bs):=by
 have:=sC [] h hr;rwa [List.append_nil]at this
theorem qo(call:ah)(bs:List (List T))(g f raw:Nat)(x:T){r:D}(h:call raw f [.t x,.fn g (cZ bs.length)] (aC bs)=some (r,aC bs))(hr:jf r=true):
 qg (aC bs) call f raw [] [.t x,.fn g (cZ bs.length)]=some (r,aC bs):=by
 have:=Av call bs [] g f raw [x] h hr
 rwa [List.append_nil]at this
section
variable (bs : List (List T)) (o o' : Obj)
@[go_sem] theorem vH : (aC bs).length = bs.length := br bs
@[go_sem] theorem DK : (aC bs ++ [o])[bs.length]? = some o := by
 rw[List.getElem?_append_right (by rw[br];exact Nat.le_refl _),br];simp
@[go_sem] theorem Hg : (aC bs ++ [o]).set bs.length o' = aC bs ++ [o'] := by
 rw[List.set_append_right _ _ (by rw[br];exact Nat.le_refl _),br];simp
@[go_sem] theorem DL : (aC bs ++ [o]).take bs.length = aC bs := by
 rw[List.take_append_of_le_length (by rw[br];exact Nat.le_refl _),List.take_of_length_le (by rw[br];exact Nat.le_refl _)]
@[go_sem] theorem Aw : (aC bs ++ [o]).take (bs.length + 1) = aC bs ++ [o] := List.take_of_length_le (by simp [br])
@[go_sem] theorem Ax : (aC bs).take bs.length = aC bs := List.take_of_length_le (by simp [br])
@[go_sem] theorem Ay (k : Nat) (a b : ab) : bD k (a ++ b) = (bD k a && bD k b) := by
 rw[← dz,←dz,←dz,List.all_append]
@[go_sem] theorem vI (k : Nat) : bD k (aC bs) = true := by
 induction bs with
 | nil=>rfl
 | cons b r ih=>
   show(bA k 8 (b.map .t)&&bD k (aC r))=true
   rw[pt,ih];rfl
@[go_sem] theorem J6 (n : Nat) : ltB n (n + 1) = true := by rw [eF]; simp
@[go_sem] theorem J7 (n : Nat) : ltB n n = false := by rw [eF]; simp
theorem i5(k n m:Nat)(h:m≤k):bA k n (cZ m)=true:=by
 unfold bA cZ
 rw[List.all_eq_true]
 intro d hd
 obtain⟨i,hi,rfl⟩:=List.mem_map.1 hd
 rw[GG,eF]
 have:=List.mem_range.1 hi
 simp;omega
@[go_sem] theorem Az (n m : Nat) : bA m n (cZ m) = true := i5 _ _ _ (Nat.le_refl _)
@[go_sem] theorem xm (n m : Nat) : bA (m + 1) n (cZ m) = true := i5 _ _ _ (Nat.le_succ _)
end
end Go.Ev
namespace Go.Ev
open Go
variable [Lib] [dO] [dT]
theorem dg{α:Type}(sz:Nat)(f:α→T)(h:∀a,dQ sz (f a).cells=true):∀l:List α,aL sz (l.map f)=true
 | []=>rfl
 | a::l=>by rw[List.map_cons,gS,h,dg sz f h l];rfl
@[go_sem] theorem xn (k : IntKind) (l : List Int) : aL 1 (l.map (.int k)) = true := dg 1 _ (fun _ => rfl) l
theorem gV(sz:Nat):∀ts:List T,(ts.all fun e=>e.cells.length==sz)=aL sz ts
 | []=>rfl
 | t::ts=>by
   rw[List.all_cons,gS,gV sz ts]
   congr 1
   rw[Bool.eq_iff_iff,bG];simp
section
variable (H : ab) (sz : Nat) (ts : List T) (i j : Int)
@[go_sem] theorem M1 : mU H sz (some (.t (.sl ts))) (some none) (some (some i)) = if 0 ≤ i then (if i ≤ ts.length then (if aL sz ts = true then some (.t (.sl (ts.take i.toNat)), H) else none) else none) else none := by
 simp only[mU,Option.bind_some,dL,bound,gV,idx]
 by_cases h1:0≤i
 · rw[if_pos h1,if_pos h1,Option.bind_some]
   by_cases h2:i≤ts.length
   · rw[if_pos h2]
     by_cases h3:aL sz ts=true
     · rw[if_pos h3,if_pos ⟨by omega,by omega,h3⟩];rfl
     · rw[if_neg h3,if_neg fun h=>h3 h.2.2];rfl
   · rw[if_neg h2,if_neg fun h=>h2 (by omega)];rfl
 · rw[if_neg h1,if_neg h1];rfl
@[go_sem] theorem M3 : mU H sz (some (.t (.sl ts))) (some (some i)) (some none) = if 0 ≤ i then (if i ≤ ts.length then (if aL sz ts = true then some (.t (.sl (ts.drop i.toNat)), H) else none) else none) else none := by
 simp only[mU,Option.bind_some,dL,bound,gV,idx]
 by_cases h1:0≤i
 · rw[if_pos h1,if_pos h1,Option.bind_some]
   by_cases h2:i≤ts.length
   · rw[if_pos h2]
     by_cases h3:aL sz ts=true
     · rw[if_pos h3,if_pos ⟨by omega,by omega,h3⟩,List.take_of_length_le (by simp)];rfl
     · rw[if_neg h3,if_neg fun h=>h3 h.2.2];rfl
   · rw[if_neg h2,if_neg fun h=>h2 (by omega)];rfl
 · rw[if_neg h1,if_neg h1];rfl
@[go_sem] theorem Hh : mU H sz (some (.t (.sl ts))) (some (some i)) (some (some j)) = if 0 ≤ i then (if i ≤ j then (if j ≤ ts.length then (if aL sz ts = true then some (.t (.sl ((ts.drop i.toNat).take (j.toNat - i.toNat))), H) else none) else none) else none) else none := by
 simp only[mU,Option.bind_some,dL,bound,gV,idx]
 by_cases h1:0≤i
 · rw[if_pos h1,if_pos h1,Option.bind_some]
   by_cases h0:i≤j
   · rw[if_pos h0,if_pos (by omega:0≤j),Option.bind_some]
     by_cases h2:j≤ts.length
     · rw[if_pos h2]
       by_cases h3:aL sz ts=true
       · rw[if_pos h3,if_pos ⟨by omega,by omega,h3⟩];rfl
       · rw[if_neg h3,if_neg fun h=>h3 h.2.2];rfl
     · rw[if_neg h2,if_neg fun h=>h2 (by omega)];rfl
   · rw[if_neg h0]
     by_cases h2:0≤j
     · rw[if_pos h2,Option.bind_some,if_neg fun h=>h0 (by omega)];rfl
     · rw[if_neg h2];rfl
 · rw[if_neg h1,if_neg h1];rfl
end
def bsK(H:ab)(l:List Nat):Option T→Option (D×ab)
 | some t=>some (.t (.sl [t]),pins H l)
 | none=>none
@[go_sem] theorem J8 (H : ab) (l : List Nat) (t : T) : bsK H l (some t) = some (.t (.sl [t]), pins H l) := (rfl)
@[go_sem] theorem J9 (H : ab) (sz : Nat) (cs : List D) : kt H sz [.agg cs] = if dQ sz cs = true then bsK H (bT H 8 (.agg cs)) (frz H 8 (.agg cs)) else none := by
 simp only[kt,List.all_cons,List.all_nil,Bool.and_true,D.cells]
 by_cases h:dQ sz cs=true
 · rw[if_pos h,if_pos (by simpa using bG.1 h)]
   simp only[aO,depth,List.flatMap_cons,List.flatMap_nil,List.append_nil]
   cases frz H 8 (.agg cs)<;>rfl
 · rw[if_neg h,if_neg (by intro e;exact h (bG.2 (by simpa using e)))]
@[go_sem] theorem Ka (H : ab) (id ep n : Nat) : kt H 1 [.ref id ep n] = bsK H (bT H 8 (.ref id ep n)) (frz H 8 (.ref id ep n)) := by
 simp only[kt,List.all_cons,List.all_nil,Bool.and_true,D.cells,List.length_cons,List.length_nil,beq_self_eq_true,if_true,aO,depth,List.flatMap_cons,List.flatMap_nil,List.append_nil]
 cases frz H 8 (.ref id ep n)<;>rfl
def AA(H:ab)(r:D)(os:ab):D×ab:=(r,H++os)
@[go_sem] theorem Kb (H : ab) (r : D) (os : ab) : AA H r os = (r, H ++ os) := (rfl)
def Hi(H:ab)(os:ab)(r:D):Option (D×ab):=(aO (bR (bh [] H.length)) os).map (AA H r)
@[go_sem] theorem Kc (H : ab) (os : ab) (r : D) : Hi H os r = (aO (bR (bh [] H.length)) os).map (AA H r) := (rfl)
@[go_sem] theorem Hj (H : ab) (r : D) (o : Obj) (os : ab) : ka H (r, o :: os) = (ren (bh [] H.length) 8 r).bind (Hi H (o :: os)) := by
 simp only[ka,List.isEmpty_cons,Bool.and_false,Bool.false_eq_true,if_false]
 rfl
end Go.Ev
namespace Go.Ev
open Go
variable [Lib] [dO] [dT]
@[go_sem] theorem M4 (H : ab) (a b : List T) : kt H 1 [.t (.sl a), .t (.sl b), .nil] = some (.t (.sl [.sl a, .sl b, .sl []]), H) := by
 simp only[kt,List.all_cons,List.all_nil,D.cells,T.cells,List.map_cons,List.map_nil,List.length_cons,List.length_nil,aO,frz,depth,bT,List.flatMap_cons,List.flatMap_nil,pins]
 rfl
def vJ(c:Bool):Option Bool→Option Bool
 | some d=>some (c&&d)
 | none=>none
@[go_sem] theorem DM (c d : Bool) : vJ c (some d) = some (c && d) := (rfl)
@[go_sem] theorem DN : dq [] [] = some true := (rfl)
@[go_sem] theorem AB (k : IntKind) (a b : Int) (xs ys : List T) : dq (.int k a :: xs) (.int k b :: ys) = vJ (decide (a = b)) (dq xs ys) := by
 simp only[dq,if_true,Fy]
 cases dq xs ys<;>rfl
def vK(H:ab)(neg:Bool):Option Bool→Option (D×ab)
 | some r=>some (.t (.bool (bif neg then !r else r)),H)
 | none=>none
@[go_sem] theorem DO (H : ab) (r : Bool) : vK H true (some r) = some (.t (.bool (!r)), H) := (rfl)
@[go_sem] theorem AD (H : ab) (r : Bool) : vK H false (some r) = some (.t (.bool r), H) := (rfl)
@[go_sem] theorem AE (H : ab) (n : Nat) (neg : Bool) (xs ys : List T) : fc H (.ints n) neg (some (.t (.agg xs))) (some (.t (.agg ys))) = if xs.length = n then vK H neg (dq xs ys) else none := by
 simp only[fc,Option.bind_some,wG,eqD]
 by_cases h:xs.length=n
 · simp only[if_pos h]
   cases dq xs ys with
   | none=>rfl
   | some r=>cases neg<;>rfl
 · simp only[if_neg h];rfl
@[go_sem] theorem DP : ((2 : Nat) : Int) = 2 := (rfl)
@[go_sem] theorem xp : ((3 : Nat) : Int) = 3 := (rfl)
def kd(n:Nat)(p:Nat→Bool):Nat:=((List.range n).find? p).getD 0
theorem ke{gc:Bool}{dead:List Nat}{c:C}{vs:List D}{H:ab}(s:Nat→St)(n:Nat)(p:Nat→Bool)(e:Nat→Ex×St)(eN:Ex×St)
 (h0:(⟨cJ dead vs,H⟩:St)=s 0)
 (hs:∀j,j<n→p j=false→eO gc dead (s j).H.length (exS bS c (s j))=some (s (j+1)))
 (he:∀j,j<n→p j=true→exS bS c (s j)=some (e j)∧(e j).1≠ .normal)
 (hN:exS bS c (s n)=some eN) (hn:eN.1≠ .normal):
 exS bS (.loop gc dead c) ⟨vs,H⟩=some (if(List.range n).any p=true then e (kd n p)else eN):=by
 rw[iE s n p e eN h0 hs he hN hn,←vG]
 unfold kd
 cases hf:(List.range n).find? p with
 | none=>simp
 | some k=>simp
theorem sD{α:Type} [Dat α](l:List α)(p:α→Bool):((List.range l.length).any fun j=>p (nth l j))=l.any p:=by
 rw[Bool.eq_iff_iff,List.any_eq_true,List.any_eq_true]
 constructor
 · rintro ⟨j,hj,hp⟩
   exact⟨_,fh (List.mem_range.1 hj),hp⟩
 · rintro ⟨x,hx,hp⟩
   obtain⟨j,hj,rfl⟩:=List.getElem_of_mem hx
   exact⟨j,List.mem_range.2 hj,by rw[kT (List.getElem?_eq_getElem hj)];exact hp⟩
@[go_sem] theorem Hk : cI [] [] [] = some true := (rfl)
@[go_sem] theorem Hl (ks : List Bool) (k : IntKind) (a b : Int) (xs ys : List T) : cI (true :: ks) (.int k a :: xs) (.int k b :: ys) = vJ (decide (a = b)) (cI ks xs ys) := by
 simp only[cI,if_true,Fy]
 cases cI ks xs ys<;>rfl
@[go_sem] theorem DQ (ks : List Bool) (a b : Bool) (xs ys : List T) : cI (false :: ks) (.bool a :: xs) (.bool b :: ys) = vJ (decide (a = b)) (cI ks xs ys) := by
 simp only[cI,show(a==b)=decide (a=b)from rfl]
 cases cI ks xs ys<;>rfl
@[go_sem] theorem Kd (H : ab) (ks : List Bool) (neg : Bool) (xs ys : List T) : fc H (.sc ks) neg (some (.t (.agg xs))) (some (.t (.agg ys))) = vK H neg (cI ks xs ys) := by
 simp only[fc,Option.bind_some,wG,eqD]
 cases cI ks xs ys with
 | none=>rfl
 | some r=>cases neg<;>rfl
def Mod(n m:Int):Int:=if m<1 then 0 else if n.tmod m<0 then n.tmod m+m else n.tmod m
theorem Hm(n m:Int):0≤Mod n m:=by
 unfold Mod
 split
 · omega
 · have h5:=Int.lt_tmod_of_pos n (b:=m) (by omega)
   split<;>omega
theorem Hn(n m:Int)(h:1≤m):Mod n m<m:=by
 unfold Mod
 rw[if_neg (by omega)]
 have h3:=Int.tmod_lt_of_pos n (b:=m) (by omega)
 split<;>omega
theorem Ho(n m:Int)(hm:m≤4611686018427387904):bS 0 N.cy [I n,I m] []=some (I (Mod n m),[]):=by
 refine aX K.iC rfl ?_
 unfold Mod
 by_cases h1:m<1
 · simp only[go_sem,K.cy,h1,↓reduceIte]
 · have h2:m≠0:=by omega
   have h3:=Int.tmod_lt_of_pos n (b:=m) (by omega)
   have h5:=Int.lt_tmod_of_pos n (b:=m) (by omega)
   by_cases h4:n.tmod m<0
   · simp (disch:=omega) only[go_sem,K.cy,h1,↓reduceIte,h2,h4]
   · simp (disch:=omega) only[go_sem,K.cy,h1,↓reduceIte,h2,h4]
theorem vL(l:List Int):bS 0 N.bU [.t (tL l)] []=some (B (decide (l.length≤400)),[]):=by
 refine aX K.fg rfl ?_
 simp (disch:=omega) only[go_sem,K.bU,↓reduceIte]
 simp only[show((l.length:Int)≤400)=(l.length≤400)by rw[eq_iff_iff];omega]
structure bf where
 L:List Int
 at_:Nat
def bf.obj(d:bf):Obj:= .box [.t (tL d.L),I d.at_]
def bf.dD(d:bf):Prop:=d.L.length≤400
def bf.next(d:bf)(n:Int):Int×bf:=if d.at_<d.L.length then(Mod (nth d.L d.at_) n,⟨d.L,d.at_+1⟩)else(0,d)
theorem bf.Hp(d:bf)(n:Int):(d.next n).2.L=d.L:=by unfold bf.next;split<;>rfl
theorem bf.kW{d:bf}(h:d.dD)(n:Int):(d.next n).2.dD:=by unfold bf.dD;rw[d.Hp];exact h
theorem bf.oB(d:bf)(n:Int):0≤(d.next n).1:=by unfold bf.next;split<;>simp[Hm]
theorem bf.oC(d:bf){n:Int}(h:1≤n):(d.next n).1<n:=by unfold bf.next;split<;>simp[Hn _ _ h];omega
theorem sE(d:bf)(n:Int)(hn:n≤4611686018427387904)(hd:d.dD):bS 0 N.ax [.bp 0 0,I n] [d.obj]=some (I (d.next n).1,[(d.next n).2.obj]):=by
 refine aX K.dk rfl ?_
 have hm:=Ho (nth d.L d.at_) n hn
 unfold bf.dD at hd
 unfold bf.next bf.obj
 by_cases h1:d.at_<d.L.length
 · simp (disch:=omega) only[go_sem,K.ax,↓reduceIte,↓if_pos,↓if_neg,Int.add_sub_cancel,hm,Int.natCast_add]
 · simp (disch:=omega) only[go_sem,K.ax,↓reduceIte,↓if_pos,↓if_neg]
@[go_sem] theorem Ke (d : bf) : pB (some d.obj) = [] := by simp only [bf.obj, go_sem]
@[go_sem] theorem Kf (f : Nat → Option Nat) (d : bf) : bR f d.obj = some d.obj := by simp only [bf.obj, go_sem]
@[go_sem] theorem Kg (k : Nat) (d : bf) (r : ab) : bD k (d.obj :: r) = bD k r := by simp only [bf.obj, go_sem]
def bf.one(d:bf)(n:Int):Bool×bf:=(decide ((d.next n).1=n-1),(d.next n).2)
def bf.of(d:bf)(l:List Int):Int×bf:=(nth l (d.next l.length).1.toNat,(d.next l.length).2)
theorem bf.vM{d:bf}(h:d.dD)(l:List Int):(d.of l).2.dD:=bf.kW h _
theorem bf.Hq(d:bf){l:List Int}(h:l≠[]):(d.of l).1∈l:=by
 unfold bf.of
 have hl:0<l.length:=List.length_pos_iff.2 h
 have:=d.oB l.length
 have:=d.oC (n:=l.length) (by omega)
 exact fh (by omega)
theorem M5(d:bf)(l:List Int)(hl:l≠[])(hl2:l.length≤4294967296)(hd:d.dD):bS 0 N.bc [.bp 0 0,.t (tL l)] [d.obj]=some (I (d.of l).1,[(d.of l).2.obj]):=by
 refine aX K.dS rfl ?_
 have hm:=sE d l.length (by omega) hd
 have h0:0<l.length:=List.length_pos_iff.2 hl
 have h1:=d.oB l.length
 have h2:=d.oC (n:=l.length) (by omega)
 unfold bf.of
 simp (disch:=omega) only[go_sem,K.bc,↓reduceIte,hm]
structure Place where
 h:Int
 surf:Bool
instance : Dat Place := ⟨⟨0, false⟩⟩
abbrev Place.e(p:Place):T:= .agg [tI p.h,.bool p.surf]
structure Road where
 frm:Int
 to:Int
 len:Int
 area:Int
 walk:Bool
 closed:Bool
 restL:Int
 restH:Int
 liftL:Int
 liftH:Int
instance : Dat Road := ⟨⟨0, 0, 0, 0, false, false, 0, 0, 0, 0⟩⟩
abbrev Road.e(r:Road):T:= .agg [tI r.frm,tI r.to,tI r.len,tI r.area,.bool r.walk,.bool r.closed,tI r.restL,tI r.restH,tI r.liftL,tI r.liftH]
structure tU where
 places:List Place
 roads:List Road
instance : Dat tU := ⟨⟨[], []⟩⟩
abbrev tU.e(m:tU):T:= .agg [.sl (m.places.map Place.e),.sl (m.roads.map Road.e)]
structure Road.ok(n:Nat)(r:Road):Prop where
 f0:0≤r.frm
 f1:r.frm<n
 t0:0≤r.to
 t1:r.to<n
 ne:r.frm≠r.to
 l0:1≤r.len
 l1:r.len≤100000
 a0:1≤r.area
 a1:r.area≤1000
 r0:1≤r.restL
 r1:r.restL≤r.restH
 r2:r.restH≤262144
 i0: -2199023255552≤r.liftL
 i1:r.liftL≤r.liftH
 i2:r.liftH≤2199023255552
structure tU.ok(m:tU):Prop where
 np:m.places.length≤64
 nr:m.roads.length≤128
 hs:∀p∈m.places, -10000≤p.h∧p.h≤10000
 rs:∀r∈m.roads,r.ok m.places.length
theorem AF{l:List Int}{p:Int→Bool}:((List.range l.length).find? fun j=>p (nth l j)).isSome=l.any p:=by
 rw[List.isSome_find?,Bool.eq_iff_iff,List.any_eq_true,List.any_eq_true]
 constructor
 · rintro ⟨j,hj,h⟩
   exact⟨_,fh (List.mem_range.1 hj),h⟩
 · rintro ⟨x,hx,h⟩
   obtain⟨j,hj⟩:=List.mem_iff_getElem?.1 hx
   exact⟨j,List.mem_range.2 (List.getElem?_eq_some_iff.1 hj).1,by rw[kT hj];exact h⟩
theorem sF(a b:List Int)(hl:a.length≤4294967296):bS 0 N.aP [.t (tL a),.t (tL b)] []=some (B (decide (a=b)),[]):=by
 refine aX K.dm rfl ?_
 by_cases hlen:a.length=b.length
 · have loop:∀c:D,exS bS K.ef ⟨[.t (tL a),.t (tL b),c,I 0],[]⟩=
    some (match (List.range a.length).find? (fun j=>decide (nth a j≠nth b j))with
     | some j=>(.ret,⟨[.t (tL a),.t (tL b),B false,I j],[]⟩)
     | none=>(.exit 0,⟨[.t (tL a),.t (tL b),.und,I a.length],[]⟩)):=by
    intro c
    refine iE (fun j=>⟨[.t (tL a),.t (tL b),.und,I j],[]⟩) a.length (fun j=>decide (nth a j≠nth b j)) _ _ rfl ?_ ?_ ?_ (by simp)
    · intro j hj hp
      have hp:nth a j=nth b j:=by simpa using hp
      simp (disch:=omega) only[go_sem,K.bZ,↓reduceIte]
    · intro j hj hp
      have hp:nth a j≠nth b j:=by simpa using hp
      simp (disch:=omega) only[go_sem,K.bZ,↓reduceIte]
      simp
    · simp (disch:=omega) only[go_sem,K.bZ,↓reduceIte]
   have e:(a=b)↔(List.range a.length).find? (fun j=>decide (nth a j≠nth b j))=none:=by
    rw[List.find?_eq_none]
    constructor
    · intro h j _;simp[h]
    · intro h
      apply List.ext_getElem?
      intro j
      by_cases hj:j<a.length
      · rw[jo hj,jo (by omega)]
        have:=h j (List.mem_range.2 hj)
        simpa using this
      · rw[List.getElem?_eq_none (by omega),List.getElem?_eq_none (by omega)]
   simp (disch:=omega) only[go_sem,K.aP,↓reduceIte,loop]
   cases hf:(List.range a.length).find? (fun j=>decide (nth a j≠nth b j))with
   | some j=>rw[hf]at e;simp (disch:=omega) only[go_sem,↓reduceIte,e];simp
   | none=>rw[hf]at e;simp (disch:=omega) only[go_sem,↓reduceIte,e]
 · have hne:a≠b:=fun h=>hlen (by rw[h])
   simp (disch:=omega) only[go_sem,K.aP,↓reduceIte,hne]
theorem sG(x lo hi:Int):bS 0 N.bP [I x,I lo,I hi] []=some (B (decide (lo≤x∧x≤hi)),[]):=by
 refine aX K.iD rfl ?_
 by_cases h1:lo≤x<;>by_cases h2:x≤hi<;>simp (disch:=omega) only[go_sem,K.bP,↓reduceIte]
theorem m6(l:List Int)(hl:l.length≤4294967296)(f:Nat)(bs:List (List T))(p:Int→Bool)(h:∀x,x∈l→bS 0 f (I x::cZ bs.length) (aC bs)=some (B (p x),aC bs)):
 bS 0 N.ai [.t (tL l),.fn f (cZ bs.length)] (aC bs)=
 some (I (match (List.range l.length).find? (fun j=>p (nth l j))with | some j=>(j:Int) | none=> -1),aC bs):=by
 refine aX K.bE rfl ?_
 have loop:∀a b:D,exS bS K.b8 ⟨[.t (tL l),.fn f (cZ bs.length),a,b,I l.length,I 0],aC bs⟩=
  some (match (List.range l.length).find? (fun j=>p (nth l j))with
   | some j=>(.ret,⟨[.t (tL l),.fn f (cZ bs.length),I j,I j,I l.length,I j],aC bs⟩)
   | none=>(.exit 0,⟨[.t (tL l),.fn f (cZ bs.length),.und,.und,I l.length,I l.length],aC bs⟩)):=by
  intro a b
  refine iE (fun j=>⟨[.t (tL l),.fn f (cZ bs.length),.und,.und,I l.length,I j],aC bs⟩) l.length (fun j=>p (nth l j)) _ _ rfl ?_ ?_ ?_ (by simp)
  · intro j hj hp
    have hc:=kV (h _ (fh hj)) rfl
    simp (disch:=omega) only[go_sem,K.aW,↓reduceIte,hc,hp]
  · intro j hj hp
    have hc:=kV (h _ (fh hj)) rfl
    simp (disch:=omega) only[go_sem,K.aW,↓reduceIte,hp,hc]
    simp
  · simp (disch:=omega) only[go_sem,K.aW,↓reduceIte]
 simp (disch:=omega) only[go_sem,K.ai,↓reduceIte,loop]
 cases hf:(List.range l.length).find? (fun j=>p (nth l j))with
 | some j=>simp (disch:=omega) only[go_sem,↓reduceIte]
 | none=>simp (disch:=omega) only[go_sem,↓reduceIte]
theorem fj(l:List Int)(hl:l.length≤4294967296)(f:Nat)(bs:List (List T))(p:Int→Bool)(h:∀x,x∈l→bS 0 f (I x::cZ bs.length) (aC bs)=some (B (p x),aC bs)):
 bS 0 N.ag [.t (tL l),.fn f (cZ bs.length)] (aC bs)=some (B (l.any p),aC bs):=by
 refine aX K.bk rfl ?_
 have h:=m6 l hl f bs p h
 have hc:=qo bS bs f _ 0 (tL l) h rfl
 have e:=AF (l:=l) (p:=p)
 cases hf:(List.range l.length).find? (fun j=>p (nth l j))with
 | some j=>rw[hf]at e hc;simp (disch:=omega) only[go_sem,K.ag,↓reduceIte,←e,hc]
 | none=>rw[hf]at e hc;simp (disch:=omega) only[go_sem,K.ag,↓reduceIte,←e,hc,Option.isSome_none]
def Hr(into:Option (List Int)):D:=match into with
 | none=> .nil
 | some l=> .t (tL l)
def Road.src(r:Road)(back:Bool):Int:=if back then r.to else r.frm
def Road.dst(r:Road)(back:Bool):Int:=if back then r.frm else r.to
theorem Road.oW{n:Nat}{r:Road}(h:r.ok n)(back:Bool):0≤r.src back∧r.src back<n:=by
 unfold Road.src;have:=h.f0;have:=h.f1;have:=h.t0;have:=h.t1;cases back<;>simp<;>omega
section
variable {m : tU} (h : m.ok) {t : Int} {into : Option (List Int)}
include h
end
section
variable {m : tU} (h : m.ok) {t : Int} {into : Option (List Int)}
include h
end
end Go.Ev
namespace Go.Ev
open Go
variable [Lib] [dO] [dT]
@[go_sem] theorem Ht (k n : Nat) (into : Option (List Int)) : old k n (Hr into) = true := by
 cases into<;>simp only[Hr,go_sem]
structure Wh where
 time:Int
 frm:List Int
instance : Dat Wh := ⟨⟨0, []⟩⟩
abbrev Wh.e(w:Wh):T:= .agg [tI w.time,tL w.frm]
def inT(t:Int):Prop:=0≤t∧t≤2147483648
instance (t : Int) : Decidable (inT t) := by unfold inT; infer_instance
def plT(x:Int):Prop:=x=1099511627776∨inT x
instance (t : Int) : Decidable (plT t) := by unfold plT; infer_instance
def Hu(n:Nat):List Int:=List.replicate n 1099511627776
@[simp] theorem DR (n : Nat) : (Hu n).length = n := List.length_replicate
structure Spn where
 low:Int
 high:Int
instance : Dat Spn := ⟨⟨0, 0⟩⟩
abbrev Spn.e(f:Spn):T:= .agg [tI f.low,tI f.high]
def Spn.ok(f:Spn):Prop:= -1125899906842624≤f.low∧f.high≤1125899906842624∧f.low≤f.high
instance (f : Spn) : Decidable f.ok := by unfold Spn.ok; infer_instance
section
variable {m : tU} (h : m.ok) {fl : List Spn}
include h
end
end Go.Ev
namespace Go.Ev
open Go
variable [Lib] [dO] [dT]
def plS(t x:Int):Prop:=x=1099511627776∨(t≤x∧x≤2147483648)
instance (t x : Int) : Decidable (plS t x) := by unfold plS; infer_instance
def Hv(l:List Int)(t:Int)(n:Nat):List Int:=(List.range n).map fun(p:Nat)=>if(p:Int)∈l then t else 1099511627776
@[simp] theorem Hw (l : List Int) (t : Int) (n : Nat) : (Hv l t n).length = n := by simp [Hv]
structure World where
 tags:List Int
 whr:List Wh
instance : Dat World := ⟨⟨[], []⟩⟩
abbrev World.e(x:World):T:= .agg [tL x.tags,.sl (x.whr.map Wh.e)]
structure Bel where
 worlds:List World
instance : Dat Bel := ⟨⟨[]⟩⟩
abbrev Bel.e(b:Bel):T:= .agg [.sl (b.worlds.map World.e)]
def World.sz(x:World):Prop:=x.tags.length≤1000000∧x.whr.length≤1000000∧∀w∈x.whr,w.frm.length≤1000000
def Bel.sz(b:Bel):Prop:=b.worlds.length≤1000000∧∀x∈b.worlds,x.sz
@[go_sem] theorem AG (l : List Wh) : aL 2 (l.map Wh.e) = true := dg 2 _ (fun _ => rfl) l
@[go_sem] theorem tV (l : List World) : aL 2 (l.map World.e) = true := dg 2 _ (fun _ => rfl) l
@[go_sem] theorem Kh (l : List Wh) : dR 2 (l.map Wh.e) = true := by cases l <;> rfl
@[go_sem] theorem AH (l : List World) : dR 2 (l.map World.e) = true := by cases l <;> rfl
end Go.Ev
namespace Go.Ev.N
def sH:Nat:=78
def qR:Nat:=79
def qp:Nat:=80
def AI:Nat:=81
def tW:Nat:=82
def AJ:Nat:=83
def AK:Nat:=84
def AL:Nat:=85
def DT:Nat:=86
def xq:Nat:=87
def AM:Nat:=88
def xr:Nat:=89
def xt:Nat:=90
def DU:Nat:=91
def xu:Nat:=92
def DV:Nat:=93
def Hx:Nat:=94
def Hy:Nat:=95
def AN:Nat:=96
def DW:Nat:=97
def AO:Nat:=98
def AP:Nat:=99
def AQ:Nat:=100
def DX:Nat:=101
def Hz:Nat:=102
def nB:Nat:=103
def vN:Nat:=104
def bo:Nat:=105
def xv:Nat:=106
def DY:Nat:=107
def DZ:Nat:=108
def AR:Nat:=109
def D0:Nat:=110
def D1:Nat:=111
def AS:Nat:=112
def AT:Nat:=113
def D2:Nat:=114
def xw:Nat:=115
def D3:Nat:=116
def D4:Nat:=117
def xx:Nat:=118
def xy:Nat:=119
def vO:Nat:=120
def vP:Nat:=121
def pF:Nat:=122
end Go.Ev.N
namespace Go.Ev.K
open Go.Ev
end Go.Ev.K
namespace Go.Ev
class pG [Lib]:Prop where
namespace K
variable [Lib] [pG]
end K
end Go.Ev
namespace Go.Ev.K
open Go.Ev
def bl:C:=(.its [u (.bin .lss v8 v7)] [] 0 .skip (.exit 0) (.seq (.blk 1 (.seq (.reg [m v8,a 1 v6 v8,g l0,w 4 (.mv l2),w 5 (.mv l1)] []) (.ite [m v5,m v1,u (.bin .lss l1 l0),m l0,y 0 false (.mv v5),y 1 false (.mv v2),y 2 false (.bin .gtr l1 l0),u (.pk l3 (.b true) l0),m l0,y 0 false (.mv v4),y 1 false (.bin .gtr l0 (.i 0)),y 2 false (.mv l0),y 0 true (.mv v5),y 1 true (.mv v0),y 2 true (.mv v4),y 3 true (.bin .sub l0 (.i 1)),y 4 true (.ia l2 l0 1),y 5 true (.ld l0 1 false),y 6 true (.bin .leq l5 l0),y 10 false (.pk l7 l0 (.b false)),u (.pk l11 (.b true) l0)] [] 0 (.seq (.reg [w 3 (.mv (.b false))] []) .ret) .skip))) (.reg [u (.bin .add v8 (.i 1)),w 8 (.mv l0)] [])))
def fk:C:= .loop true [3,4,5] K.bl
def bo:Fn:={ nargs:=3,vars:=[0,1,2,6,7,8,9,10,11],body:=(.seq (.reg [w 3 (.mv (.b false))] []) (.seq (.seq (.reg [w 6 (.mv v0),w 7 (.ln l0),w 8 (.mv (.i 0))] []) (.blk 0 K.fk)) (.seq (.reg [w 3 (.mv (.b true))] []) .ret))),res:=[(3,none)]}
end Go.Ev.K
namespace Go.Ev
class oD [Lib]:Prop where
 dU:Lib.fs N.bo=some K.bo
namespace K
variable [Lib] [oD]
theorem dU:Lib.fs N.bo=some K.bo:=oD.dU
end K
end Go.Ev
namespace Go.Ev
open Go
variable [Lib] [dO] [dT] [pG] [oD]
def nC(l:List Int)(lo hi:Int)(j:Nat):Bool:= !decide (lo≤nth l j∧nth l j≤hi∧(0<j→nth l (j-1)<nth l j))
def qS(l:List Int)(lo hi:Int):Bool:= !((List.range l.length).any (nC l lo hi))
theorem sI(l:List Int)(lo hi:Int)(hl:l.length≤4294967296):bS 0 N.bo [.t (tL l),I lo,I hi] []=some (B (qS l lo hi),[]):=by
 refine aX K.dU rfl ?_
 have loop:∀a b c:D,exS bS K.fk ⟨[.t (tL l),I lo,I hi,a,b,c,.t (tL l),I l.length,I 0],[]⟩=
  some (if(List.range l.length).any (nC l lo hi)=true
   then(.ret,⟨[.t (tL l),I lo,I hi,B false,I (kd l.length (nC l lo hi)),I (nth l (kd l.length (nC l lo hi))),.t (tL l),I l.length,I (kd l.length (nC l lo hi))],[]⟩)
   else(.exit 0,⟨[.t (tL l),I lo,I hi,.und,.und,.und,.t (tL l),I l.length,I l.length],[]⟩)):=by
  intro a b c
  refine ke (fun j=>⟨[.t (tL l),I lo,I hi,.und,.und,.und,.t (tL l),I l.length,I j],[]⟩) l.length (nC l lo hi) (fun j=>(.ret,⟨[.t (tL l),I lo,I hi,B false,I j,I (nth l j),.t (tL l),I l.length,I j],[]⟩)) _ rfl ?_ ?_ ?_ (by simp)
  · intro j hj hp
    simp only[nC,Bool.not_eq_false',decide_eq_true_eq]at hp
    obtain⟨h1,h2,h3⟩:=hp
    cases j with
    | zero=>simp (disch:=omega) only[go_sem,K.bl,↓reduceIte]
    | succ j=>
      have h3:=h3 (by omega)
      rw[Nat.add_sub_cancel]at h3
      simp (disch:=omega) only[go_sem,K.bl,↓reduceIte]
  · intro j hj hp
    simp only[nC,Bool.not_eq_true',decide_eq_false_iff_not]at hp
    refine⟨?_,by simp⟩
    by_cases h1:lo≤nth l j
    · by_cases h2:nth l j≤hi
      · cases j with
        | zero=>exact absurd ⟨h1,h2,fun h=>absurd h (by omega)⟩ hp
        | succ j=>
          have h3:¬nth l j<nth l (j+1):=fun h=>hp ⟨h1,h2,fun _=>by simpa using h⟩
          simp (disch:=omega) only[go_sem,K.bl,↓reduceIte]
      · simp (disch:=omega) only[go_sem,K.bl,↓reduceIte]
    · simp (disch:=omega) only[go_sem,K.bl,↓reduceIte]
  · simp (disch:=omega) only[go_sem,K.bl,↓reduceIte]
 unfold qS
 simp (disch:=omega) only[go_sem,K.bo,↓reduceIte,loop]
 cases hf:(List.range l.length).any (nC l lo hi)with
 | true=>simp (disch:=omega) only[go_sem,↓reduceIte]
 | false=>simp (disch:=omega) only[go_sem,↓reduceIte,Bool.false_eq_true]
structure Oa where
 st:Int
 fi:Int
 se:Int
 ti:Int
abbrev Oa.e(s:Oa):T:= .agg [tI s.st,tI s.fi,tI s.se,tI s.ti]
structure HA where
 area:List Int
 hold:Int
 mis:Int
abbrev HA.e(x:HA):T:= .agg [tL x.area,tI x.hold,tI x.mis]
structure Keys where
 roads:List Int
 keys:List Int
 out:Bool
abbrev Keys.e(k:Keys):T:= .agg [tL k.roads,tL k.keys,.bool k.out]
end Go.Ev
namespace Go.Ev
open Go
section
variable (H : ab) (sz id ep n lo hi : Nat) (i j : Int) (fz : Bool)
def scO(r:D):Option Obj→Option (D×ab)
 | some (.arr sz' _ ep' es)=>if ep=ep'∧n=es.length then(if sz'=sz then some (r,H)else none)else none
 | _=>none
@[go_sem] theorem M6 (r : D) (sz' : Nat) (pin : Bool) (es : List D) : scO H sz ep n r (some (.arr sz' pin ep es)) = if n = es.length then (if sz' = sz then some (r, H) else none) else none := by simp [scO]
theorem scR{l h:Nat}:((bN H id ep n).bind fun a=>if l≤h∧h≤n∧a.1=sz then some (D.sub id ep n l h)else none).map (fun d=>(d,H))=if l≤h then(if h≤n then scO H sz ep n (.sub id ep n l h) H[id]? else none)else none:=by
 simp only[bN]
 generalize H[id]?=o
 by_cases h1:l≤h
 · by_cases h2:h≤n
   · rw[if_pos h1,if_pos h2]
     rcases o with _ | (_ | ⟨sz',pin,ep',es⟩)
     · rfl
     · rfl
     · simp only[scO]
       by_cases h3:ep=ep'∧n=es.length
       · rw[if_pos h3,if_pos h3,Option.bind_some]
         by_cases h4:sz'=sz
         · rw[if_pos h4,if_pos ⟨h1,h2,h4⟩];rfl
         · rw[if_neg h4,if_neg fun h=>h4 h.2.2];rfl
       · rw[if_neg h3,if_neg h3];rfl
   · rw[if_pos h1,if_neg h2]
     rcases o with _ | (_ | ⟨sz',pin,ep',es⟩)
     · rfl
     · rfl
     · by_cases h3:ep=ep'∧n=es.length
       · simp only[if_pos h3,Option.bind_some];rw[if_neg fun h=>h2 h.2.1];rfl
       · simp only[if_neg h3];rfl
 · rw[if_neg h1]
   rcases o with _ | (_ | ⟨sz',pin,ep',es⟩)
   · rfl
   · rfl
   · by_cases h3:ep=ep'∧n=es.length
     · simp only[if_pos h3,Option.bind_some];rw[if_neg fun h=>h1 h.1];rfl
     · simp only[if_neg h3];rfl
@[go_sem] theorem AU : mU H sz (some (.ref id ep n)) (some none) (some (some i)) = if 0 ≤ i then (if i ≤ n then scO H sz ep n (.sub id ep n 0 i.toNat) H[id]? else none) else none := by
 simp only[mU,Option.bind_some,dL,bound,idx]
 by_cases h1:0≤i
 · rw[if_pos h1,if_pos h1,Option.bind_some,scR,if_pos (Nat.zero_le _)]
   by_cases h2:i≤n
   · rw[if_pos h2,if_pos (by omega)]
   · rw[if_neg h2,if_neg (by omega)]
 · rw[if_neg h1,if_neg h1];rfl
@[go_sem] theorem AV : mU H sz (some (.ref id ep n)) (some (some i)) (some none) = if 0 ≤ i then (if i ≤ n then scO H sz ep n (.sub id ep n i.toNat n) H[id]? else none) else none := by
 simp only[mU,Option.bind_some,dL,bound,idx]
 by_cases h1:0≤i
 · rw[if_pos h1,if_pos h1,Option.bind_some,scR]
   by_cases h2:i≤n
   · rw[if_pos h2,if_pos (by omega),if_pos (by omega)]
   · rw[if_neg h2,if_neg (by omega)]
 · rw[if_neg h1,if_neg h1];rfl
@[go_sem] theorem vQ : mU H sz (some (.ref id ep n)) (some (some i)) (some (some j)) = if 0 ≤ i then (if i ≤ j then (if j ≤ n then scO H sz ep n (.sub id ep n i.toNat j.toNat) H[id]? else none) else none) else none := by
 simp only[mU,Option.bind_some,dL,bound,idx]
 by_cases h1:0≤i
 · rw[if_pos h1,if_pos h1,Option.bind_some]
   by_cases h0:i≤j
   · rw[if_pos h0,if_pos (by omega),Option.bind_some,scR,if_pos (by omega)]
     by_cases h2:j≤n
     · rw[if_pos h2,if_pos (by omega)]
     · rw[if_neg h2,if_neg (by omega)]
   · rw[if_neg h0]
     by_cases h2:0≤j
     · rw[if_pos h2,Option.bind_some,scR,if_neg (by omega)]
     · rw[if_neg h2];rfl
 · rw[if_neg h1,if_neg h1];rfl
@[go_sem] theorem AX : mU H sz (some .nil) (some none) (some (some i)) = if i = 0 then some (.nil, H) else none := by
 simp only[mU,Option.bind_some,dL,bound,idx]
 by_cases h1:0≤i
 · rw[if_pos h1,Option.bind_some]
   by_cases h2:i=0
   · rw[if_pos h2,if_pos (by omega)];rfl
   · rw[if_neg h2,if_neg (by omega)];rfl
 · rw[if_neg h1,if_neg (by omega)];rfl
@[go_sem] theorem AY : mU H sz (some .nil) (some (some i)) (some none) = if i = 0 then some (.nil, H) else none := by
 simp only[mU,Option.bind_some,dL,bound,idx]
 by_cases h1:0≤i
 · rw[if_pos h1,Option.bind_some]
   by_cases h2:i=0
   · rw[if_pos h2,if_pos (by omega)];rfl
   · rw[if_neg h2,if_neg (by omega)];rfl
 · rw[if_neg h1,if_neg (by omega)];rfl
def pH(x:D)(ys:List D):Option (D×ab):=if aR sz ys=true then(match x with
 | .nil=>if ys.length≤4294967296 then some (.ref H.length 0 ys.length,H++[.arr sz false 0 ys])else none
 | .ref id ep n=>iW H sz id ep n ys H[id]?
 | _=>none)else none
@[go_sem] theorem Ki (ys : List D) : pH H sz .nil ys = if aR sz ys = true then (if ys.length ≤ 4294967296 then some (.ref H.length 0 ys.length, H ++ [.arr sz false 0 ys]) else none) else none := (rfl)
@[go_sem] theorem Kj (ys : List D) : pH H sz (.ref id ep n) ys = if aR sz ys = true then iW H sz id ep n ys H[id]? else none := (rfl)
@[go_sem] theorem xz : aR sz [] = true := (rfl)
@[go_sem] theorem vR (d : D) (r : List D) : aR sz (d :: r) = dQ sz d.cells := by
 rw[Bool.eq_iff_iff,bG];simp[aR]
def HB(x:D):Option Obj→Option (D×ab)
 | some (.arr _ _ ep' es)=>if ep=ep'∧n=es.length then pH H sz x ((es.drop lo).take (hi-lo))else none
 | _=>none
def HC(x:D):Option Obj→Option (D×ab)
 | some (.arr _ _ ep' es)=>if ep=ep'∧n=es.length then pH H sz x es else none
 | _=>none
@[go_sem] theorem Kk (x : D) (sz' : Nat) (pin : Bool) (es : List D) : HB H sz ep n lo hi x (some (.arr sz' pin ep es)) = if n = es.length then pH H sz x ((es.drop lo).take (hi - lo)) else none := by simp [HB]
@[go_sem] theorem Kl (x : D) (sz' : Nat) (pin : Bool) (es : List D) : HC H sz ep n x (some (.arr sz' pin ep es)) = if n = es.length then pH H sz x es else none := by simp [HC]
theorem sJ(x:D)(ys:List D):(if aR sz ys=true then(match x with
 | .nil=>if ys.length≤lim then some (D.ref H.length 0 ys.length,H++[.arr sz false 0 ys])else none
 | .ref id ep n=>(bN H id ep n).bind fun a=>if a.1=sz∧n+ys.length≤lim then some (.ref id ep (n+ys.length),H.set id (.arr sz a.2.1 ep (a.2.2++ys)))else none
 | _=>none)else none)=pH H sz x ys:=by
 unfold pH
 split
 · cases x with
   | ref id ep n=>
     simp only[bN]
     generalize H[id]?=o
     rcases o with _ | (_ | ⟨sz',pin,ep',es⟩)
     · rfl
     · rfl
     · simp only[iW]
       by_cases h1:ep=ep'∧n=es.length
       · rw[if_pos h1,Option.bind_some]
         by_cases h2:sz'=sz∧n+ys.length≤lim
         · rw[if_pos h2,if_pos ⟨h1.1,h1.2,h2⟩]
         · rw[if_neg h2,if_neg fun h=>h2 h.2.2]
       · rw[if_neg h1,if_neg fun h=>h1 ⟨h.1,h.2.1⟩];rfl
   | _=>rfl
 · rfl
theorem iG(x y:D)(ys:List D)(h:elems H y=some ys):eE H sz false (some x) (some y)=pH H sz x ys:=by
 simp only[eE,Option.bind_some,dA,h,Bool.false_eq_true,if_false]
 exact sJ H sz x ys
@[go_sem] theorem tX (x : D) : eE H sz false (some x) (some .nil) = pH H sz x [] := iG H sz x .nil [] rfl
@[go_sem] theorem tY (x : D) : eE H sz false (some x) (some (.ref id ep n)) = HC H sz ep n x H[id]? := by
 cases he:elems H (.ref id ep n)with
 | some ys=>
   rw[iG H sz x _ ys he]
   simp only[elems,bN]at he
   generalize H[id]?=o at he
   rcases o with _ | (_ | ⟨sz',pin,ep',es⟩)
   · cases he
   · cases he
   · simp only[HC]
     by_cases h1:ep=ep'∧n=es.length
     · simp only[if_pos h1]at he ⊢;cases he;rfl
     · simp only[if_neg h1]at he;cases he
 | none=>
   have:eE H sz false (some x) (some (.ref id ep n))=none:=by simp only[eE,Option.bind_some,dA,he];rfl
   rw[this]
   simp only[elems,bN]at he
   generalize H[id]?=o at he
   rcases o with _ | (_ | ⟨sz',pin,ep',es⟩)
   · rfl
   · rfl
   · simp only[HC]
     by_cases h1:ep=ep'∧n=es.length
     · simp only[if_pos h1]at he;cases he
     · simp only[if_neg h1]
@[go_sem] theorem tZ (x : D) : eE H sz false (some x) (some (.sub id ep n lo hi)) = HB H sz ep n lo hi x H[id]? := by
 cases he:elems H (.sub id ep n lo hi)with
 | some ys=>
   rw[iG H sz x _ ys he]
   simp only[elems,bN]at he
   generalize H[id]?=o at he
   rcases o with _ | (_ | ⟨sz',pin,ep',es⟩)
   · cases he
   · cases he
   · simp only[HB]
     by_cases h1:ep=ep'∧n=es.length
     · simp only[if_pos h1]at he ⊢;cases he;rfl
     · simp only[if_neg h1]at he;cases he
 | none=>
   have:eE H sz false (some x) (some (.sub id ep n lo hi))=none:=by simp only[eE,Option.bind_some,dA,he];rfl
   rw[this]
   simp only[elems,bN]at he
   generalize H[id]?=o at he
   rcases o with _ | (_ | ⟨sz',pin,ep',es⟩)
   · rfl
   · rfl
   · simp only[HB]
     by_cases h1:ep=ep'∧n=es.length
     · simp only[if_pos h1]at he;cases he
     · simp only[if_neg h1]
def D5(ep n lo hi:Nat):Option Obj→Option (List D)
 | some (.arr _ _ ep' es)=>if ep=ep'∧n=es.length then some ((es.drop lo).take (hi-lo))else none
 | _=>none
def Km(x:D):Option (List D)→Option (D×ab)
 | some ys0=>(aO (fun d=>(frz H depth d).map .t) ys0).bind fun ys=>if aR sz ys then pH (pins H (ys0.flatMap (bT H depth))) sz x ys else none
 | none=>none
@[go_sem] theorem Ob (x : D) (ts : List T) : Km H sz x (some (ts.map .t)) = pH H sz x (ts.map .t) := by
 simp only[Km,gT,Option.bind_some,pq,pins]
 by_cases h:aR sz (ts.map D.t)=true
 · rw[if_pos h]
 · rw[if_neg h];unfold pH;rw[if_neg h]
@[go_sem] theorem vS (x : D) : eE H sz true (some x) (some (.sub id ep n lo hi)) = Km H sz x (D5 ep n lo hi H[id]?) := by
 have e:elems H (.sub id ep n lo hi)=D5 ep n lo hi H[id]?:=by
  simp only[elems,bN]
  generalize H[id]?=o
  rcases o with _ | (_ | ⟨sz',pin,ep',es⟩)
  · rfl
  · rfl
  · simp only[D5]
    by_cases h1:ep=ep'∧n=es.length
    · simp only[if_pos h1];rfl
    · simp only[if_neg h1];rfl
 simp only[eE,Option.bind_some,dA,e]
 cases D5 ep n lo hi H[id]? with
 | none=>rfl
 | some ys0=>
   simp only[Option.bind_some,Km,if_true]
   cases hm:aO (fun d=>(frz H depth d).map D.t) ys0 with
   | none=>rfl
   | some ys=>
     simp only[Option.bind_some]
     refine(sJ _ _ _ _).trans ?_
     by_cases h:aR sz ys=true
     · rw[if_pos h]
     · rw[if_neg h];unfold pH;rw[if_neg h]
@[go_sem] theorem Kn (ep n lo hi sz : Nat) (pin : Bool) (ts : List T) : D5 ep n lo hi (some (.arr sz pin ep (ts.map .t))) = if n = ts.length then some (((ts.drop lo).take (hi - lo)).map .t) else none := by
 simp only[D5,true_and,List.length_map,List.map_take,List.map_drop]
def sK(ds:List D):Option (D×ab):=if ds.all (fun d=>d.cells.length==sz&&d.b9)then some (.ref H.length 0 ds.length,H++[.arr sz false 0 ds])else none
@[go_sem] theorem Oc (call : ah) (get : X → Option D) (xs : List X) : evO call get H (.bsr xs sz) = (aO get xs).bind (sK H sz) := (rfl)
@[go_sem] theorem HD : sK H sz [] = some (.ref H.length 0 0, H ++ [.arr sz false 0 []]) := (rfl)
@[go_sem] theorem HE (k : IntKind) (n : Int) : sK H 1 [.t (.int k n)] = some (.ref H.length 0 1, H ++ [.arr 1 false 0 [.t (.int k n)]]) := (rfl)
@[go_sem] theorem HF (cs : List D) : sK H sz [.agg cs] = if dQ sz cs = true then some (.ref H.length 0 1, H ++ [.arr sz false 0 [.agg cs]]) else none := by
 simp only[sK,List.all_cons,List.all_nil,Bool.and_true,D.cells,D.b9]
 by_cases h:dQ sz cs=true
 · rw[if_pos h,if_pos (by simpa using bG.1 h)];rfl
 · rw[if_neg h,if_neg (by intro e;exact h (bG.2 (by simpa using e)))]
end
@[go_sem] theorem xA : (1 : Int).toNat = 1 := (rfl)
@[go_sem] theorem AZ : (2 : Int).toNat = 2 := (rfl)
@[go_sem] theorem vT : (3 : Int).toNat = 3 := (rfl)
section
variable {H t : ab} {i j k : Nat} {o o' : Obj}
end
end Go.Ev
namespace Go.Ev.N
def sL:Nat:=123
def qT:Nat:=124
def ua:Nat:=125
def sM:Nat:=126
def A0:Nat:=127
def A1:Nat:=128
def A2:Nat:=129
def D6:Nat:=130
def D7:Nat:=131
def A3:Nat:=132
def A4:Nat:=133
def vU:Nat:=134
def vV:Nat:=135
def D8:Nat:=136
def A5:Nat:=137
def vW:Nat:=138
def xB:Nat:=139
def uc:Nat:=140
def xC:Nat:=141
def vX:Nat:=142
def sN:Nat:=143
def sO:Nat:=144
def sP:Nat:=145
def xD:Nat:=146
def xE:Nat:=147
def qq:Nat:=148
end Go.Ev.N
namespace Go.Ev.N
def pI:Nat:=149
def sQ:Nat:=150
def sR:Nat:=151
def qU:Nat:=152
def A6:Nat:=153
def A7:Nat:=154
def xF:Nat:=155
def xG:Nat:=156
def A8:Nat:=157
def D9:Nat:=158
def A9:Nat:=159
def au:Nat:=160
def pJ:Nat:=161
def Ba:Nat:=162
def Ea:Nat:=163
def xH:Nat:=164
def Eb:Nat:=165
def xI:Nat:=166
def Ec:Nat:=167
def fJ:Nat:=168
def vY:Nat:=169
def aY:Nat:=170
def qs:Nat:=171
def vZ:Nat:=172
def Ed:Nat:=173
def gx:Nat:=174
def sT:Nat:=175
def aS:Nat:=176
def Bb:Nat:=177
end Go.Ev.N
namespace Go.Ev.K
open Go.Ev
def aT:C:=(.seq (.ite [m v6,m v5,u (.ln l0),u (.bin .lss l2 l0)] [] 0 .skip (.exit 0)) (.blk 1 (.reg [m v6,m v5,m v6,u (.sc l1 (some l0) none 1),m v5,m v6,u (.sc l1 none (some l0) 1),u (.cp l3 l0 1),u (.bin .add l7 l0),w 6 (.mv l0)] [])))
def cF:C:= .loop true [0,1,2,3,4] K.aT
def au:Fn:={ nargs:=2,vars:=[0,1,4,5,6,7,8],body:=(.seq (.reg [w 2 (.mv (.c (.nil)))] []) (.seq (.ite [m v1,u (.bin .lss l0 (.i 0))] [] 0 .fail .skip) (.seq (.reg [m v0,u (.ln l0),u (.cv .u64 l0),m v1,u (.cv .u64 l0),u (.ca N.aY 0 [] [.l 2,.l 0]),m l0,u (.ex l0 0),u (.ex l1 1),w 3 (.mv l1),w 4 (.mv l1)] []) (.seq (.ite [m v3,u (.bin .gtr l0 (.c (.t (.int .u64 (0))))),m l0,y 0 false (.mv v4),y 1 false (.bin .gtr l0 (.c (.t (.int .u64 (9223372036854775807))))),u (.pk l2 (.b true) l0)] [] 0 .fail .skip) (.seq (.reg [m v4,u (.cv .i64 l0),u (.mk l0 (.t (.int .i64 (0))) 1),w 5 (.mv l0)] []) (.seq (.reg [m v5,m v0,u (.cp l1 l0 1),w 6 (.mv l0)] []) (.seq (.blk 0 K.cF) (.seq (.reg [m v5,w 2 (.mv l0)] []) .ret)))))))),res:=[(2,none)]}
def aY:Fn:={ nargs:=2,vars:=[0,1,4,5,8,9],body:=(.seq (.reg [w 2 (.mv (.c (.t (.int .u64 (0))))),w 3 (.mv (.c (.t (.int .u64 (0)))))] []) (.seq (.cnd false .skip) (.seq (.reg [m v0,m v1,u (.ca N.aS 0 [] [.l 1,.l 0]),m l0,u (.ex l0 0),u (.ex l1 1),w 4 (.mv l1),w 5 (.mv l1)] []) (.seq (.reg [m v4,m v5,w 2 (.mv l1),w 3 (.mv l1)] []) .ret)))),res:=[(2,none),(3,none)]}
end Go.Ev.K
namespace Go.Ev
class lW [Lib]:Prop where
 bQ:Lib.fs N.au=some K.au
 dE:Lib.fs N.aY=some K.aY
namespace K
variable [Lib] [lW]
theorem bQ:Lib.fs N.au=some K.au:=lW.bQ
theorem dE:Lib.fs N.aY=some K.aY:=lW.dE
end K
end Go.Ev
namespace Go.Ev.K
open Go.Ev
def aS:Fn:={ nargs:=2,vars:=[0,1,4,5,6,7,8,9,10,11,12,13],body:=(.seq (.reg [w 2 (.mv (.c (.t (.int .u64 (0))))),w 3 (.mv (.c (.t (.int .u64 (0)))))] []) (.seq (.reg [m v0,u (.bin .and l0 (.c (.t (.int .u64 (4294967295))))),w 4 (.mv l0)] []) (.seq (.reg [m v0,u (.bin .shr l0 (.c (.t (.int .u64 (32))))),w 5 (.mv l0)] []) (.seq (.reg [m v1,u (.bin .and l0 (.c (.t (.int .u64 (4294967295))))),w 6 (.mv l0)] []) (.seq (.reg [m v1,u (.bin .shr l0 (.c (.t (.int .u64 (32))))),w 7 (.mv l0)] []) (.seq (.reg [m v4,m v6,u (.bin .mul l1 l0),w 8 (.mv l0)] []) (.seq (.reg [m v5,m v6,u (.bin .mul l1 l0),m v8,u (.bin .shr l0 (.c (.t (.int .u64 (32))))),u (.bin .add l2 l0),w 9 (.mv l0)] []) (.seq (.reg [m v9,u (.bin .and l0 (.c (.t (.int .u64 (4294967295))))),w 10 (.mv l0)] []) (.seq (.reg [m v9,u (.bin .shr l0 (.c (.t (.int .u64 (32))))),w 11 (.mv l0)] []) (.seq (.reg [m v10,m v4,m v7,u (.bin .mul l1 l0),u (.bin .add l3 l0),w 10 (.mv l0)] []) (.seq (.reg [m v5,m v7,u (.bin .mul l1 l0),m v11,u (.bin .add l1 l0),m v10,u (.bin .shr l0 (.c (.t (.int .u64 (32))))),u (.bin .add l2 l0),w 2 (.mv l0)] []) (.seq (.reg [m v0,m v1,u (.bin .mul l1 l0),w 3 (.mv l0)] []) .ret)))))))))))),res:=[(2,none),(3,none)]}
end Go.Ev.K
namespace Go.Ev
class m7 [Lib]:Prop where
 c8:Lib.fs N.aS=some K.aS
namespace K
variable [Lib] [m7]
theorem c8:Lib.fs N.aS=some K.aS:=m7.c8
end K
end Go.Ev
namespace Go.Ev
open Go
variable [Lib] [dO] [dT] [lW] [m7]
section
variable (H : ab) (sz : Nat)
def xJ(id ep n lo hi:Nat)(ys:List D):Option Obj→Option (D×ab)
 | some (.arr sz' pin ep' es)=>if ep=ep'∧n=es.length then ya H id ep (sz',pin,es) lo hi ys sz else none
 | _=>none
def cpD(x:D)(ys:List D):Option (D×ab):=if aR sz ys=true then(match x with
 | .ref id ep n=>xJ H sz id ep n 0 n ys H[id]?
 | .sub id ep n lo hi=>xJ H sz id ep n lo hi ys H[id]?
 | _=>none)else none
def Ko(x y:Option D):Option (D×ab):=x.bind fun a=>y.bind fun b=>lf H a b sz
@[go_sem] theorem O5 (call : ah) (get : X → Option D) (x y : X) : evO call get H (.cp x y sz) = Ko H sz (get x) (get y) := (rfl)
theorem pK(x y:D)(ys:List D)(h:elems H y=some ys):lf H x y sz=cpD H sz x ys:=by
 unfold lf cpD
 rw[h,Option.bind_some]
 split
 · rename_i hh
   cases x with
   | ref id ep n=>
     simp only[bN,xJ]
     cases H[id]? with
     | none=>rfl
     | some o=>
       cases o with
       | box cs=>rfl
       | arr sz' pin ep' es=>
         simp only
         by_cases c:ep=ep'∧n=es.length
         · rw[if_pos c,if_pos c];rfl
         · rw[if_neg c,if_neg c];rfl
   | sub id ep n lo hi=>
     simp only[bN,xJ]
     cases H[id]? with
     | none=>rfl
     | some o=>
       cases o with
       | box cs=>rfl
       | arr sz' pin ep' es=>
         simp only
         by_cases c:ep=ep'∧n=es.length
         · rw[if_pos c,if_pos c];rfl
         · rw[if_neg c,if_neg c];rfl
   | _=>rfl
 · rfl
@[go_sem] theorem Od (x : D) (ts : List T) : Ko H sz (some x) (some (.t (.sl ts))) = cpD H sz x (ts.map .t) := pK H sz x (.t (.sl ts)) (ts.map .t) rfl
def cpE(x:D)(ep n lo hi:Nat):Option Obj→Option (D×ab)
 | some (.arr _ _ ep' es)=>if ep=ep'∧n=es.length then cpD H sz x ((es.drop lo).take (hi-lo))else none
 | _=>none
@[go_sem] theorem M7 (x : D) (n lo hi sz' : Nat) (pin : Bool) (ep : Nat) (es : List D) : cpE H sz x ep n lo hi (some (.arr sz' pin ep es)) = if n = es.length then cpD H sz x ((es.drop lo).take (hi - lo)) else none := by simp [cpE]
@[go_sem] theorem Kp (x : D) (id ep n lo hi : Nat) : Ko H sz (some x) (some (.sub id ep n lo hi)) = cpE H sz x ep n lo hi H[id]? := by
 unfold Ko
 simp only[Option.bind_some]
 cases h:H[id]? with
 | none=>simp[lf,elems,bN,h,cpE]
 | some o=>
   cases o with
   | box cs=>simp[lf,elems,bN,h,cpE]
   | arr sz' pin ep' es=>
     by_cases c:ep=ep'∧n=es.length
     · rw[pK H sz x _ ((es.drop lo).take (hi-lo)) (by simp[elems,bN,h,c])]
       simp only[cpE,if_pos c]
     · simp[lf,elems,bN,h,cpE,c]
@[go_sem] theorem M8 (id ep n : Nat) (ys : List D) : cpD H sz (.ref id ep n) ys = if aR sz ys = true then xJ H sz id ep n 0 n ys H[id]? else none := (rfl)
@[go_sem] theorem M9 (id ep n lo hi : Nat) (ys : List D) : cpD H sz (.sub id ep n lo hi) ys = if aR sz ys = true then xJ H sz id ep n lo hi ys H[id]? else none := (rfl)
@[go_sem] theorem Kq (id n lo hi : Nat) (ys : List D) (ep : Nat) (es : List D) : xJ H sz id ep n lo hi ys (some (.arr sz false ep es)) =
 if n=es.length then(if min ys.length (hi-lo)=0 then some (.t (.int .i64 0),H)else some (.t (.int .i64 ((min ys.length (hi-lo):Nat):Int)),H.set id (.arr sz false ep (es.take lo++ys.take (min ys.length (hi-lo))++es.drop (lo+min ys.length (hi-lo))))))else none:=by
 simp[xJ,ya]
end
theorem wa{n:Int}(h1:0≤n)(h2:n<18446744073709551616):IntKind.u64.wrap n=n:=by
 have e:IntKind.u64.wrap n=n % 18446744073709551616:=by simp[IntKind.wrap,IntKind.signed,IntKind.bits]
 rw[e];omega
theorem HG{n:Nat}(h:n<4294967296):IntKind.u64.wrap ((BitVec.ofInt IntKind.u64.bits (n:Int) &&& BitVec.ofInt IntKind.u64.bits 4294967295).toNat:Nat)=(n:Int):=by
 have e:(BitVec.ofInt IntKind.u64.bits (n:Int) &&& BitVec.ofInt IntKind.u64.bits 4294967295).toNat=n:=by
  rw[BitVec.toNat_and]
  have a:(BitVec.ofInt IntKind.u64.bits (n:Int)).toNat=n:=by
   rw[BitVec.ofInt_natCast,BitVec.toNat_ofNat]
   exact Nat.mod_eq_of_lt (Nat.lt_of_lt_of_le h (by decide))
  have b:(BitVec.ofInt IntKind.u64.bits 4294967295).toNat=2 ^ 32-1:=by decide
  rw[a,b,Nat.and_two_pow_sub_one_eq_mod]
  exact Nat.mod_eq_of_lt h
 rw[e]
 exact wa (by omega) (by omega)
theorem HH{n:Nat}(h:n<4294967296):(n:Int).fdiv (2 ^ min (32:Int).toNat IntKind.u64.bits)=0:=by
 have e:(2 ^ min (32:Int).toNat IntKind.u64.bits:Int)=4294967296:=by decide
 rw[e,Int.fdiv_eq_ediv_of_nonneg _ (by omega)]
 omega
theorem xK{n:Nat}(h:n<4294967296):(((BitVec.ofInt IntKind.u64.bits (n:Int) &&& BitVec.ofInt IntKind.u64.bits 4294967295).toNat:Nat):Int)=(n:Int):=by
 have e:=HG h
 rwa [wa (by omega) (by
  have:(BitVec.ofInt IntKind.u64.bits (n:Int) &&& BitVec.ofInt IntKind.u64.bits 4294967295).toNat<2 ^ IntKind.u64.bits:=BitVec.isLt _
  have:2 ^ IntKind.u64.bits=18446744073709551616:=by decide
  omega)]at e
theorem wb(a b:Nat)(ha:a<4294967296)(hb:b<4294967296)(h:a*b<4294967296):bS 0 N.aS [.t (.int .u64 a),.t (.int .u64 b)] []=some (.tup [.t (.int .u64 0),.t (.int .u64 ((a*b:Nat):Int))],[]):=by
 refine aX K.c8 rfl ?_
 have m:(a:Int)*(b:Int)=((a*b:Nat):Int):=(Int.natCast_mul a b).symm
 have z:=HG (n:=0) (by omega)
 have z2:=HH (n:=0) (by omega)
 have z3:=xK (n:=0) (by omega)
 have g3:=fun(n:Nat) (h:n<4294967296)=>xK (n:=n) h
 have g4:=fun(n:Nat) (h:n<4294967296)=>HH (n:=n) h
 simp only[Int.ofNat_zero,Int.natCast_zero]at z z2 z3
 simp only[go_sem]at z2 z3 g3 g4
 simp (disch:=omega) only[go_sem,K.aS,↓reduceIte,g3,g4,m,z2,z3,wa,Int.zero_mul,Int.mul_zero,Int.add_zero,Int.zero_add,Nat.reduceAdd,Nat.reduceSub]
theorem HI(a b:Nat)(ha:a<4294967296)(hb:b<4294967296)(h:a*b<4294967296):bS 0 N.aY [.t (.int .u64 a),.t (.int .u64 b)] []=some (.tup [.t (.int .u64 0),.t (.int .u64 ((a*b:Nat):Int))],[]):=by
 refine aX K.dE rfl ?_
 have m:=wb a b ha hb h
 simp (disch:=omega) only[go_sem,K.aY,↓reduceIte,m,Nat.reduceAdd,Nat.reduceSub]
def jq(v:Int)(n cur:Nat):List D:=List.replicate cur (I v)++List.replicate (n-cur) (I 0)
theorem pL(v:Int){n cur:Nat}(h:cur≤n):(jq v n cur).length=n:=by simp[jq];omega
theorem sU(v:Int){n cur m:Nat}(h:cur+m≤n)(hm:m≤cur):(jq v n cur).take cur++((jq v n cur).take cur).take m++(jq v n cur).drop (cur+m)=jq v n (cur+m):=by
 unfold jq
 have e1:(List.replicate cur (I v)++List.replicate (n-cur) (I 0)).take cur=List.replicate cur (I v):=by
  rw[List.take_append_of_le_length (by simp),List.take_of_length_le (by simp)]
 have e2:(List.replicate cur (I v)++List.replicate (n-cur) (I 0)).drop (cur+m)=List.replicate (n-(cur+m)) (I 0):=by
  rw[List.drop_append,List.length_replicate]
  simp;omega
 rw[e1,e2,List.take_replicate,Nat.min_eq_left hm,List.replicate_append_replicate]
theorem HJ(v:Int)(n cur:Nat):∃ts:List T,jq v n cur=ts.map .t:=⟨List.replicate cur (tI v)++List.replicate (n-cur) (tI 0),by simp[jq]⟩
theorem m8(v:Int)(n cur:Nat)(lo k:Nat):aR 1 (((jq v n cur).drop lo).take k)=true:=by
 cases h:((jq v n cur).drop lo).take k with
 | nil=>rfl
 | cons d r=>
   have hm:d∈jq v n cur:=List.mem_of_mem_drop (List.mem_of_mem_take (h▸List.mem_cons_self))
   unfold jq at hm
   simp only[List.mem_append,List.mem_replicate]at hm
   rcases hm with⟨-,rfl⟩ | ⟨-,rfl⟩<;>rfl
theorem oE(v:Int)(n:Nat)(hn:n≤1000000):∀(k cur:Nat),n-cur≤k→1≤cur→cur≤n→
 eb true [0,1,2,3,4] (exS bS K.aT) ⟨[.und,.und,.und,.und,.und,.ref 0 0 n,I cur],[.arr 1 false 0 (jq v n cur)]⟩=
  some (.exit 0,⟨[.und,.und,.und,.und,.und,.ref 0 0 n,I n],[.arr 1 false 0 (jq v n n)]⟩):=by
 intro k
 induction k with
 | zero=>
   intro cur h1 h2 h3
   have:cur=n:=by omega
   subst this
   refine cX ?_ (by simp)
   have rl:=pL v (Nat.le_refl cur)
   simp (disch:=omega) only[go_sem,K.aT,↓reduceIte,Nat.reduceAdd,Nat.reduceSub]
 | succ k ih=>
   intro cur h1 h2 h3
   by_cases c:cur=n
   · subst c
     refine cX ?_ (by simp)
     simp (disch:=omega) only[go_sem,K.aT,↓reduceIte,Nat.reduceAdd,Nat.reduceSub]
   · have rl:=pL v (n:=n) (cur:=cur) (by omega)
     have st:=sU v (n:=n) (cur:=cur) (m:=min cur (n-cur)) (by omega) (by omega)
     have hs:=m8 v n cur 0 cur
     rw[List.drop_zero]at hs
     have tl:((jq v n cur).take cur).length=cur:=by rw[List.length_take];omega
     refine kQ (st2:=⟨[.und,.und,.und,.und,.und,.ref 0 0 n,I ((cur+min cur (n-cur):Nat):Int)],[.arr 1 false 0 (jq v n (cur+min cur (n-cur)))]⟩) ?_ (ih _ (by omega) (by omega) (by omega))
     rw[← st]
     obtain⟨ts,hts⟩:=HJ v n cur
     have ao:∀a b c:Nat,bA 1 8 ((jq v n cur).take a)=true∧bA 1 8 (((jq v n cur).take a).take b)=true∧bA 1 8 ((jq v n cur).drop c)=true:=fun a b c=>by
      rw[hts,←List.map_take,←List.map_take,←List.map_drop]
      simp only[go_sem,and_self]
     have ao1:=fun a=>(ao a 0 0).1
     have ao2:=fun a b=>(ao a b 0).2.1
     have ao3:=fun c=>(ao 0 0 c).2.2
     clear ao hts
     generalize jq v n cur=es at*
     simp (disch:=omega) only[go_sem,K.aT,↓reduceIte,rl,hs,tl,ao1,ao2,ao3,and_self,List.drop_zero,Nat.sub_zero,Nat.reduceAdd,Nat.reduceSub]
theorem sV(v:Int)(n:Nat)(h1:1≤n)(hn:n≤1000000):bS 1 N.au [.t (tL [v]),I n] []=some (.ref 0 0 n,[.arr 1 false 0 (List.replicate n (I v))]):=by
 refine aX K.bQ rfl ?_
 have m:=HI 1 n (by omega) (by omega) (by omega)
 rw[Nat.one_mul]at m
 change bS 0 N.aY [.t (.int .u64 1),.t (.int .u64 n)] []=_ at m
 have w1:IntKind.u64.wrap 1=1:=by decide
 have w2:IntKind.u64.wrap (n:Int)=n:=wa (by omega) (by omega)
 have w3:IntKind.i64.wrap (n:Int)=n:=r8 (by omega) (by omega)
 have lp:=oE v n hn n 1 (by omega) (by omega) h1
 have loop:∀z0 z1 z2 z3 z4:D,exS bS K.cF ⟨[z0,z1,z2,z3,z4,.ref 0 0 n,I 1],[.arr 1 false 0 (I v::List.replicate (n-1) (I 0))]⟩=some (.exit 0,⟨[.und,.und,.und,.und,.und,.ref 0 0 n,I n],[.arr 1 false 0 (List.replicate n (I v))]⟩):=by
  intro z0 z1 z2 z3 z4
  have e1:jq v n 1=I v::List.replicate (n-1) (I 0):=rfl
  have e2:jq v n n=List.replicate n (I v):=by simp[jq]
  rw[e1,e2]at lp
  exact lp
 have dr:(List.replicate n (D.t (.int .i64 0))).drop 1=List.replicate (n-1) (I 0):=List.drop_replicate ..
 have mn:min 1 n=1:=by omega
 have ar:∀H:ab,eP H 8 (List.replicate n (I v))=[]:=fun H=>by
  have e:List.replicate n (I v)=(List.replicate n (tI v)).map D.t:=by simp
  rw[e]
  unfold eP
  exact pq ..
 simp (disch:=omega) only[go_sem,K.au,↓reduceIte,tL,List.map_cons,List.map_nil,m,w1,w2,w3,loop,dr,mn,ar,List.length_replicate,Nat.sub_zero,List.take_zero,List.nil_append,List.take_succ_cons,Nat.zero_add,Nat.reduceAdd,Nat.reduceSub]
end Go.Ev
namespace Go.Ev
open Go
variable [Lib] [dO] [dT]
@[go_sem] theorem Bc (l : List Place) : dR 2 (l.map Place.e) = true := by cases l <;> rfl
@[go_sem] theorem Ee (l : List Road) : dR 10 (l.map Road.e) = true := by cases l <;> rfl
@[go_sem] theorem Ef (H : ab) (d : bf) : ve H 0 1 false (some d.obj) = some (.t (tL d.L), H) := by simp only [bf.obj, go_sem]
def bf.fm(d:bf):Nat→List Place×bf
 | 0=>([],d)
 | k+1=>if k=0 then((d.fm k).1++[⟨-10*((d.fm k).2.next 4).1,true⟩],((d.fm k).2.next 4).2)
   else((d.fm k).1++[⟨-10*((d.fm k).2.next 4).1,(((d.fm k).2.next 4).2.one 6).1⟩],(((d.fm k).2.next 4).2.one 6).2)
def bf.HK(d:bf)(i:Int):Road×bf:=
 (⟨i-1-(d.next (min i 2)).1,i,1+((d.next (min i 2)).2.of [11,59,119,4]).1,1+(((d.next (min i 2)).2.of [11,59,119,4]).2.of [9,3,19]).1,true,false,1,1,0,0⟩,
   (((d.next (min i 2)).2.of [11,59,119,4]).2.of [9,3,19]).2)
def bf.pM(d:bf):Nat→List Road×bf
 | 0=>([],d)
 | k+1=>((d.pM k).1++[((d.pM k).2.HK (k+1)).1],((d.pM k).2.HK (k+1)).2)
def bf.wc(d:bf)(n:Int):Road×bf:=
 let a:=d.next n
 let b:=a.2.next n
 let l:=b.2.of [11,59,199]
 let r:=l.2.of [9,3]
 let w:=r.2.next 5
 let c:=w.2.one 6
 (⟨a.1,b.1,1+l.1,1+r.1,decide (0<w.1),c.1,1,1,0,0⟩,c.2)
def bf.more(n:Int)(l:List Road)(d:bf):Nat→List Road×bf
 | 0=>(l,d)
 | k+1=>if l.length<10 then bf.more n (if(d.wc n).1.frm=(d.wc n).1.to then l else l++[(d.wc n).1]) (d.wc n).2 k else(l,d)
def bf.Bd(d:bf):Nat:=if d.L.length=0 then 4 else(2+(d.next 6).1).toNat
def bf.HL(d:bf):List Place×bf:=(d.next 6).2.fm d.Bd
def bf.Be(d:bf):List Road×bf:=d.HL.2.pM (d.Bd-1)
def bf.HM(d:bf):List Road×bf:=bf.more d.Bd d.Be.1 (d.Be.2.next 4).2 (d.Be.2.next 4).1.toNat
def bf.O8(d:bf):tU×bf:=(⟨d.HL.1,d.HM.1⟩,d.HM.2)
@[go_sem] theorem HN (l : List Spn) : dR 2 (l.map Spn.e) = true := by cases l <;> rfl
@[go_sem] theorem Na (l : List Spn) (k : Nat) (a b : Int) : (List.map D.t (List.map Spn.e l)).set k (D.t (T.agg [tI a, tI b])) = List.map D.t (List.map Spn.e (l.set k ⟨a, b⟩)) := by
 rw[List.map_set,List.map_set]
@[go_sem] theorem Oe (H : ab) (sz : Nat) (a b c d e f : T) : kt H sz [.t a, .t b, .t c, .t d, .t e, .t f] = if aL sz [a, b, c, d, e, f] = true then some (.t (.sl [a, b, c, d, e, f]), H) else none := eD H sz [a, b, c, d, e, f]
@[go_sem] theorem Of (H : ab) (sz : Nat) (a b c d e f g : T) : kt H sz [.t a, .t b, .t c, .t d, .t e, .t f, .t g] = if aL sz [a, b, c, d, e, f, g] = true then some (.t (.sl [a, b, c, d, e, f, g]), H) else none := eD H sz [a, b, c, d, e, f, g]
@[go_sem] theorem Og (H : ab) (sz : Nat) (a b c d e f g h : T) : kt H sz [.t a, .t b, .t c, .t d, .t e, .t f, .t g, .t h] = if aL sz [a, b, c, d, e, f, g, h] = true then some (.t (.sl [a, b, c, d, e, f, g, h]), H) else none := eD H sz [a, b, c, d, e, f, g, h]
@[go_sem] theorem HO {α β γ : Type} {l : List α} {g : α → β} {f : β → γ} {x : γ} {j : Nat} (h : j = l.length) : (List.map f (List.map g l) ++ [x])[j]? = some x := by
 rw[List.getElem?_append_right (by simp;omega)];simp[h]
@[go_sem] theorem Kr {α β γ : Type} {l : List α} {g : α → β} {f : β → γ} {x y : γ} {j : Nat} (h : j = l.length) : (List.map f (List.map g l) ++ [x]).set j y = List.map f (List.map g l) ++ [y] := by
 rw[List.set_append_right _ _ (by simp;omega)];simp[h]
def bf.HP(d:bf):Spn×bf:=
 let a:=d.of [0,1000,5000,20000, -5000, -20000,4999,100]
 let b:=a.2.of [0,1,1000,6000]
 let c:=b.2.of [0,1,500]
 let w:=c.2.one 9
 (if w.1=true then⟨-1125899906842624,1125899906842624⟩else⟨a.1-b.1,a.1+c.1⟩,w.2)
def bf.pN(d:bf):Nat→List Spn×bf
 | 0=>([],d)
 | k+1=>((d.pN k).1++[((d.pN k).2.HP).1],((d.pN k).2.HP).2)
def bf.O6(d:bf)(m:tU):List Spn×bf:=d.pN m.roads.length
theorem xL{gc:Bool}{dead:List Nat}{c:C}{vs:List D}{H:ab}(P:Nat→St→Prop)(n:Nat)(Q:Ex×St→Prop)(h0:P 0 ⟨cJ dead vs,H⟩)
 (hs:∀j st,j<n→P j st→(∃st',eO gc dead st.H.length (exS bS c st)=some st'∧P (j+1) st')∨∃q,exS bS c st=some q∧q.1≠ .normal∧Q q)
 (he:∀st,P n st→∃q,exS bS c st=some q∧q.1≠ .normal∧Q q):∃q,exS bS (.loop gc dead c) ⟨vs,H⟩=some q∧Q q:=by
 have key:∀(k j:Nat) (st:St),j+k=n→P j st→∃q,eb gc dead (exS bS c) st=some q∧Q q:=by
  intro k
  induction k with
  | zero=>
    intro j st hj hp
    obtain⟨q,h1,h2,h3⟩:=he st (by rw[← hj];exact hp)
    exact⟨q,cX h1 h2,h3⟩
  | succ k ih=>
    intro j st hj hp
    rcases hs j st (by omega) hp with⟨st',h1,h2⟩ | ⟨q,h1,h2,h3⟩
    · obtain⟨q,h3,h4⟩:=ih (j+1) st' (by omega) h2
      exact⟨q,kQ h1 h3,h4⟩
    · exact⟨q,cX h1 h2,h3⟩
 exact key n 0 _ (by omega) h0
theorem HQ(l:List Int):bS 0 N.cr [.t (tL l)] []=some (.bp 0 0,[bf.obj ⟨l,0⟩]):=by
 refine aX K.gp rfl ?_
 simp (disch:=omega) only[go_sem,K.cr,↓reduceIte,bf.obj,Nat.reduceAdd,Nat.reduceSub]
theorem kX{d:bf}(hd:d.dD)(n:Int)(h1:1≤n)(hn:n≤4611686018427387904):
 ∃(v:Int) (e:bf),bS 0 N.ax [.bp 0 0,I n] [d.obj]=some (I v,[e.obj])∧e.dD∧0≤v∧v<n:=
 ⟨_,_,sE d n hn hd,bf.kW hd n,d.oB n,d.oC h1⟩
theorem O7{d:bf}(hd:d.dD)(l:List Int)(hl:l≠[])(hn:l.length≤4294967296):
 ∃(v:Int) (e:bf),bS 0 N.bc [.bp 0 0,.t (tL l)] [d.obj]=some (I v,[e.obj])∧e.dD∧v∈l:=
 ⟨_,_,M5 d l hl hn hd,bf.vM hd l,d.Hq hl⟩
end Go.Ev
namespace Go.Ev
open Go
variable [Lib] [dO] [dT] [lW] [m7]
end Go.Ev
namespace Go.Ev.N
def qt:Nat:=178
def qu:Nat:=179
def qV:Nat:=180
def qv:Nat:=181
def qW:Nat:=182
def sW:Nat:=183
def qX:Nat:=184
def Bf:Nat:=185
def xM:Nat:=186
def Bg:Nat:=187
def sX:Nat:=188
def Bh:Nat:=189
def xN:Nat:=190
def xO:Nat:=191
def Eg:Nat:=192
def we:Nat:=193
def xP:Nat:=194
def Bi:Nat:=195
def Eh:Nat:=196
def HR:Nat:=197
def ud:Nat:=198
def ue:Nat:=199
def Ei:Nat:=200
def wg:Nat:=201
def nD:Nat:=202
def xQ:Nat:=203
def aq:Nat:=204
def sY:Nat:=205
def Bj:Nat:=206
def xR:Nat:=207
def s0:Nat:=208
def qY:Nat:=209
def s8:Nat:=210
def HT:Nat:=211
def HU:Nat:=212
def HV:Nat:=213
def Ej:Nat:=214
end Go.Ev.N
namespace Go.Ev.K
open Go.Ev
end Go.Ev.K
namespace Go.Ev
class pO [Lib]:Prop where
namespace K
variable [Lib] [pO]
end K
end Go.Ev
namespace Go.Ev.K
open Go.Ev
def aq:Fn:={ nargs:=1,vars:=[0,2],body:=(.seq (.reg [w 1 (.mv (.c (.nil)))] []) (.itk [m v0,u (.eqk (.sl) false l0 (.c (.nil)))] [] 0 (.seq (.reg [w 1 (.nw 1)] []) .ret) .skip (.seq (.reg [u (.bsr [] 1),m v0,u (.app l1 l0 false 1),w 1 (.mv l0)] []) .ret))),res:=[(1,none)]}
end Go.Ev.K
namespace Go.Ev
class oF [Lib]:Prop where
 bX:Lib.fs N.aq=some K.aq
namespace K
variable [Lib] [oF]
theorem bX:Lib.fs N.aq=some K.aq:=oF.bX
end K
end Go.Ev
namespace Go.Ev
open Go
variable [Lib] [dO] [dT] [lW] [m7] [pO] [oF]
abbrev kn(l:List Int):Obj:= .arr 1 false 0 ((l.map (T.int .i64)).map .t)
theorem m9(l:List Int)(hl:l.length≤1000000):bS 1 N.aq [.t (tL l)] []=some (.ref 0 0 l.length,[kn l]):=by
 refine aX K.bX rfl ?_
 by_cases h0:l=[]
 · subst h0
   simp only[tL,List.map_nil]
   simp (disch:=omega) only[go_sem,K.aq,↓reduceIte,List.map_nil,List.length_nil,Nat.reduceAdd,Nat.reduceSub]
   rfl
 · have e:=fun H=>u0 H (l.map (T.int .i64)) (by simpa using h0)
   simp (disch:=omega) only[go_sem,K.aq,↓reduceIte,e,Nat.reduceAdd,Nat.reduceSub]
end Go.Ev
namespace Go.Ev.N
def uf:Nat:=215
def ug:Nat:=216
def uh:Nat:=217
def Bk:Nat:=218
def Bl:Nat:=219
def Bm:Nat:=220
def Ek:Nat:=221
def El:Nat:=222
def Em:Nat:=223
def HW:Nat:=224
def Bo:Nat:=225
def Bp:Nat:=226
def Bq:Nat:=227
def HX:Nat:=228
def Br:Nat:=229
def Bt:Nat:=230
def En:Nat:=231
def xS:Nat:=232
def Eo:Nat:=233
def xT:Nat:=234
def xU:Nat:=235
def xV:Nat:=236
def Ep:Nat:=237
def xW:Nat:=238
def HY:Nat:=239
def HZ:Nat:=240
def oG:Nat:=241
def Er:Nat:=242
def Bu:Nat:=243
def ui:Nat:=244
end Go.Ev.N
namespace Go.Ev.N
def pP:Nat:=245
def oH:Nat:=246
def oI:Nat:=247
def Bv:Nat:=248
def wh:Nat:=249
def Bw:Nat:=250
def pQ:Nat:=251
def uj:Nat:=252
def s9:Nat:=253
def Bx:Nat:=254
def xX:Nat:=255
def Es:Nat:=256
def By:Nat:=257
def qw:Nat:=258
def eG:Nat:=259
def qx:Nat:=260
def nd:Nat:=261
def xY:Nat:=262
def lX:Nat:=263
def dF:Nat:=264
def wi:Nat:=265
def eT:Nat:=266
def lN:Nat:=267
def ta:Nat:=268
def dP:Nat:=269
def cmp_isNaN_int:Nat:=270
end Go.Ev.N
namespace Go.Ev.N
def qy:Nat:=271
def tc:Nat:=272
def td:Nat:=273
def qZ:Nat:=274
def uk:Nat:=275
def te:Nat:=276
def Bz:Nat:=277
def BA:Nat:=278
def Et:Nat:=279
def Eu:Nat:=280
def um:Nat:=281
def H3:Nat:=282
def xZ:Nat:=283
def BB:Nat:=284
def BD:Nat:=285
def Ew:Nat:=286
def ic:Nat:=287
def Ey:Nat:=288
def BE:Nat:=289
def BF:Nat:=290
def BG:Nat:=291
def BH:Nat:=292
def uo:Nat:=293
def BI:Nat:=294
def BJ:Nat:=295
def x3:Nat:=296
def gW:Nat:=297
def gX:Nat:=298
def wj:Nat:=299
def kY:Nat:=300
def eQ:Nat:=301
def gq:Nat:=302
def i6:Nat:=303
def fK:Nat:=304
def ie:Nat:=305
def i7:Nat:=306
def gY:Nat:=307
def uq:Nat:=308
end Go.Ev.N
namespace Go.Ev.N
def x4:Nat:=309
def tf:Nat:=310
def ur:Nat:=311
def uu:Nat:=312
def tg:Nat:=313
def BK:Nat:=314
def Nb:Nat:=315
def H4:Nat:=316
def BL:Nat:=317
def BM:Nat:=318
def BN:Nat:=319
def BO:Nat:=320
def H5:Nat:=321
def H6:Nat:=322
def BP:Nat:=323
def wk:Nat:=324
def H7:Nat:=325
def Ks:Nat:=326
def uv:Nat:=327
def x5:Nat:=328
def wm:Nat:=329
def ig:Nat:=330
def i9:Nat:=331
def wo:Nat:=332
def th:Nat:=333
end Go.Ev.N
namespace Go.Ev.N
def qz:Nat:=334
def q0:Nat:=335
def q6:Nat:=336
def BQ:Nat:=337
def qA:Nat:=338
def BR:Nat:=339
def BS:Nat:=340
def Ez:Nat:=341
def BT:Nat:=342
def EA:Nat:=343
def EB:Nat:=344
def Kt:Nat:=345
def uw:Nat:=346
def BU:Nat:=347
def EC:Nat:=348
def ED:Nat:=349
def tj:Nat:=350
def wq:Nat:=351
def x6:Nat:=352
def x7:Nat:=353
def BV:Nat:=354
def ux:Nat:=355
def EE:Nat:=356
def EF:Nat:=357
def wt:Nat:=358
def x8:Nat:=359
def BW:Nat:=360
def EG:Nat:=361
def aM:Nat:=362
def wu:Nat:=363
def BX:Nat:=364
def EH:Nat:=365
def EI:Nat:=366
def EJ:Nat:=367
def EK:Nat:=368
def qB:Nat:=369
def dV:Nat:=370
def gy:Nat:=371
def wv:Nat:=372
def eR:Nat:=373
def wx:Nat:=374
def wy:Nat:=375
def BZ:Nat:=376
def B0:Nat:=377
def uy:Nat:=378
def eh:Nat:=379
def fE:Nat:=380
def tn:Nat:=381
def wz:Nat:=382
def tq:Nat:=383
end Go.Ev.N
namespace Go.Ev.K
open Go.Ev
def bg:C:=(.seq (.ite [m v3,f 3 v1,g l0,u (.ln l0),u (.bin .lss l3 l0)] [] 0 .skip (.exit 0)) (.seq (.blk 1 (.ite [f 3 v1,g l0,m v3,a 1 l1 l0,g l0,u (.bin .lss l0 (.i 1)),m l0,y 0 false (.fa v1 3),y 1 false (.ld l0 1 false),y 2 false (.mv v3),y 3 false (.ia l1 l0 1),y 4 false (.ld l0 1 false),y 5 false (.bin .gtr l0 (.i 65535)),u (.pk l6 (.b true) l0),m l0,y 0 false (.mv v3),y 1 false (.bin .gtr l0 (.i 0)),y 2 false (.mv l0),y 0 true (.fa v1 3),y 1 true (.ld l0 1 false),y 2 true (.mv v3),y 3 true (.ia l1 l0 1),y 4 true (.ld l0 1 false),y 5 true (.fa v1 3),y 6 true (.ld l0 1 false),y 7 true (.mv v3),y 8 true (.bin .sub l0 (.i 1)),y 9 true (.ia l2 l0 1),y 10 true (.ld l0 1 false),y 11 true (.bin .leq l6 l0),y 15 false (.pk (.l 12) l0 (.b false)),u (.pk (.l 16) (.b true) l0)] [] 0 (.seq (.reg [w 2 (.mv (.b false))] []) .ret) .skip)) (.reg [m v3,u (.bin .add l0 (.i 1)),w 3 (.mv l0)] [])))
def fT:C:= .loop true [0,2] K.bg
def aM:Fn:={ nargs:=1,vars:=[0,1,2,3],body:=(.seq (.reg [w 1 (.bx v0 4),w 2 (.mv (.b false))] []) (.seq (.seq (.reg [w 3 (.mv (.i 0))] []) (.blk 0 K.fT)) (.seq (.reg [f 0 v1,g l0,u (.bin .geq l0 (.i 0)),m l0,y 0 true (.fa v1 0),y 1 true (.ld l0 1 false),y 2 true (.bin .lss l0 (.i 32)),u (.pk l3 l0 (.b false)),m l0,y 0 true (.fa v1 1),y 1 true (.ld l0 1 false),y 2 true (.bin .geq l0 (.i 0)),u (.pk l3 l0 (.b false)),m l0,y 0 true (.fa v1 1),y 1 true (.ld l0 1 false),y 2 true (.bin .leq l0 (.i 65535)),u (.pk l3 l0 (.b false)),m l0,y 0 true (.fa v1 2),y 1 true (.ld l0 1 false),y 2 true (.bin .geq l0 (.i 0)),u (.pk l3 l0 (.b false)),m l0,y 0 true (.fa v1 2),y 1 true (.ld l0 1 false),y 2 true (.bin .leq l0 (.i 2147483648)),u (.pk l3 l0 (.b false)),m l0,y 0 true (.fa v1 3),y 1 true (.ld l0 1 false),y 2 true (.ln l0),y 3 true (.bin .leq l0 (.i 20)),u (.pk l4 l0 (.b false)),w 2 (.mv l0)] []) .ret))),res:=[(2,none)]}
end Go.Ev.K
namespace Go.Ev
class gZ [Lib]:Prop where
 eH:Lib.fs N.aM=some K.aM
namespace K
variable [Lib] [gZ]
theorem eH:Lib.fs N.aM=some K.aM:=gZ.eH
end K
end Go.Ev
namespace Go.Ev.N
def wA:Nat:=384
def uz:Nat:=385
def aJ:Nat:=386
def uA:Nat:=387
def tu:Nat:=388
def bI:Nat:=389
def B1:Nat:=390
def EL:Nat:=391
def aH:Nat:=392
def B2:Nat:=393
def bJ:Nat:=394
def aD:Nat:=395
def bM:Nat:=396
def ay:Nat:=397
def ak:Nat:=398
def a8:Nat:=399
def aV:Nat:=400
def cG:Nat:=401
def tv:Nat:=402
def EM:Nat:=403
def dh:Nat:=404
def a6:Nat:=405
def EN:Nat:=406
def H8:Nat:=407
def aA:Nat:=408
def aB:Nat:=409
def bV:Nat:=410
def ct:Nat:=411
def bq:Nat:=412
def aG:Nat:=413
def H9:Nat:=414
def av:Nat:=415
end Go.Ev.N
namespace Go.Ev.K
open Go.Ev
def cB:C:=(.seq (.ite [m v8,u (.bin .gtr l0 (.i 0))] [] 0 .skip (.exit 0)) (.seq (.blk 1 (.seq (.reg [m v6,m v6,u (.ca N.ax 0 [] [.l 0,.i 100]),u (.ca N.aH 0 [] [.l 2,.l 0]),w 9 (.al [.t (.int .i64 (0)),.t (.int .i64 (0)),.t (.int .i64 (0)),.nil] []),u (.st l0 l1 4 [])] []) (.seq (.reg [m v6,u (.bs [.i 0,.i 1,.i 2,.i 65535,.i 65534,.i 40000,.i 100,.i 32767,.i 32768] 1),u (.ca N.bc 0 [] [.l 1,.l 0]),f 1 v9,u (.st l0 l1 1 [])] []) (.seq (.reg [h 2 v7,h 4 v9,u (.ca N.a8 0 [] [.l 1,.l 0]),m l0,u (.ex l0 0),u (.ex l1 1),w 10 (.al [.nil,.nil] []),u (.st l0 l2 2 []),w 11 (.mv l2)] []) (.seq (.reg [h 2 v7,h 4 v9,u (.ca N.aV 0 [] [.l 1,.l 0]),m l0,u (.ex l0 0),u (.ex l1 1),w 12 (.al [.nil,.nil] []),u (.st l0 l2 2 []),w 13 (.mv l2)] []) (.seq (.ite [m v11,m v13,u (.bin .neq l1 l0),m l0,y 0 false (.ld v10 2 true),y 1 false (.ld v12 2 true),y 2 false (.ca N.aD 0 [] [.l 1,.l 0]),y 3 false (.un .not l0),u (.pk l4 (.b true) l0),m l0,y 0 false (.ld v10 2 true),y 1 false (.ca N.ay 0 [] [.l 0]),y 2 false (.ld v12 2 true),y 3 false (.ca N.ak 0 [] [.l 0]),y 4 false (.eqk (.bool) true l2 l0),u (.pk l5 (.b true) l0)] [(12,7)] 0 (.seq (.reg [w 5 (.mv (.b false))] []) .ret) .skip) (.reg [h 2 v12,u (.st v7 l0 2 [])] []))))))) (.reg [m v8,u (.bin .sub l0 (.i 1)),w 8 (.mv l0)] [])))
def cO:C:= .loop true [0,1,2,5,9,10,11,12,13,14,15,16,17,18,19,20,21] K.cB
def aJ:Fn:={ nargs:=3,vars:=[0,1,2,4,5,6,7,8,9,10,11,12,13,14,15,16,17,18,19,20,21,22],body:=(.seq (.reg [w 3 (.bx v1 2),w 4 (.bx v2 4),w 5 (.mv (.b false))] []) (.seq (.ite [m v0,u (.ca N.bU 0 [] [.l 0]),u (.un .not l0),m l0,y 0 false (.fa v3 0),y 1 false (.ld l0 1 false),y 2 false (.ln l0),y 3 false (.bin .gtr l0 (.i 100)),u (.pk l4 (.b true) l0),m l0,y 0 false (.fa v3 1),y 1 false (.ld l0 1 false),y 2 false (.ln l0),y 3 false (.bin .gtr l0 (.i 100)),u (.pk l4 (.b true) l0),m l0,y 0 false (.fa v4 3),y 1 false (.ld l0 1 false),y 2 false (.ln l0),y 3 false (.bin .gtr l0 (.i 100)),u (.pk l4 (.b true) l0)] [] 0 (.seq (.reg [u (.ca N.bI 0 [] []),w 5 (.mv l0)] []) .ret) .skip) (.seq (.reg [m v0,u (.ca N.cr 0 [] [.l 0]),w 6 (.mv l0)] []) (.seq (.reg [u (.ca N.bJ 0 [] []),w 7 (.al [.nil,.nil] []),u (.st l0 l1 2 [])] []) (.seq (.ite [u (.ca N.bM 0 [] []),h 2 v7,u (.ca N.aD 0 [] [.l 1,.l 0]),u (.un .not l0),m l0,y 0 false (.ld v3 2 true),y 1 false (.ca N.ay 0 [] [.l 0]),y 2 false (.ld v3 2 true),y 3 false (.ca N.ak 0 [] [.l 0]),y 4 false (.eqk (.bool) true l2 l0),u (.pk l5 (.b true) l0)] [(1,0),(7,3)] 0 (.seq (.reg [w 5 (.mv (.b false))] []) .ret) .skip) (.seq (.seq (.reg [m v6,u (.ca N.ax 0 [] [.l 0,.i 12]),w 8 (.mv l0)] []) (.blk 0 K.cO)) (.seq (.reg [h 2 v3,h 4 v4,u (.ca N.a8 0 [] [.l 1,.l 0]),m l0,u (.ex l0 0),u (.ex l1 1),w 14 (.al [.nil,.nil] []),u (.st l0 l2 2 []),w 15 (.mv l2)] []) (.seq (.reg [h 2 v3,h 4 v4,u (.ca N.aV 0 [] [.l 1,.l 0]),m l0,u (.ex l0 0),u (.ex l1 1),w 16 (.al [.nil,.nil] []),u (.st l0 l2 2 []),w 17 (.mv l2)] []) (.seq (.reg [h 2 v7,h 4 v4,u (.ca N.a8 0 [] [.l 1,.l 0]),m l0,u (.ex l0 0),u (.ex l1 1),w 18 (.al [.nil,.nil] []),u (.st l0 l2 2 []),w 19 (.mv l2)] []) (.seq (.reg [h 2 v7,h 4 v4,u (.ca N.aV 0 [] [.l 1,.l 0]),m l0,u (.ex l0 0),u (.ex l1 1),w 20 (.al [.nil,.nil] []),u (.st l0 l2 2 []),w 21 (.mv l2)] []) (.seq (.reg [u (.ca N.bI 0 [] []),m l0,y 0 true (.mv v15),y 1 true (.mv v17),y 2 true (.bin .eql l1 l0),u (.pk l3 l0 (.b false)),m l0,y 0 true (.ld v14 2 true),y 1 true (.ld v16 2 true),y 2 true (.ca N.aD 0 [] [.l 1,.l 0]),u (.pk l3 l0 (.b false)),m l0,y 0 true (.mv v19),y 1 true (.mv v21),y 2 true (.bin .eql l1 l0),u (.pk l3 l0 (.b false)),m l0,y 0 true (.ld v18 2 true),y 1 true (.ld v20 2 true),y 2 true (.ca N.aD 0 [] [.l 1,.l 0]),u (.pk l3 l0 (.b false)),w 5 (.mv l0)] []) .ret))))))))))),res:=[(5,none)]}
def bI:Fn:={ nargs:=0,vars:=[0,1,2,3,4,5,6],body:=(.seq (.reg [w 0 (.mv (.b false))] []) (.seq (.reg [u (.bs [.i 5] 1),u (.bd [.t (.int .i64 (0)),.t (.int .i64 (0)),.t (.int .i64 (0)),.nil] [(0,1,.i 3),(1,1,.i 258),(2,1,.i 7),(3,1,.l 0)]),u (.ca N.cG 0 [] [.l 0]),m l0,u (.ex l0 0),u (.ex l1 1),w 1 (.al [.t (.int .i64 (0)),.t (.int .i64 (0)),.nil] []),u (.st l0 l2 3 []),w 2 (.mv l2)] []) (.seq (.reg [h 3 v1,u (.ca N.dh 0 [] [.l 0]),m l0,u (.ex l0 0),u (.ex l1 1),w 3 (.al [.t (.int .i64 (0)),.t (.int .i64 (0)),.t (.int .i64 (0)),.nil] []),u (.st l0 l2 4 []),w 4 (.mv l2)] []) (.seq (.reg [w 5 (.al [.nil,.nil] []),u (.ca N.bM 0 [] []),h 4 v3,u (.ca N.a8 0 [] [.l 1,.l 0]),m l0,u (.ex l0 0),u (.ex l1 1),u (.st l6 l1 2 []),w 6 (.mv l1)] [(0,2),(0,4),(2,1)]) (.seq (.reg [m v2,u (.bin .eql l0 (.i 0)),m l0,y 0 true (.mv v4),y 1 true (.bin .eql l0 (.i 0)),u (.pk l2 l0 (.b false)),m l0,y 0 true (.mv v6),y 1 true (.bin .eql l0 (.i 0)),u (.pk l2 l0 (.b false)),m l0,y 0 true (.fa v1 1),y 1 true (.ld l0 1 false),y 2 true (.bin .eql l0 (.i 9)),u (.pk l3 l0 (.b false)),m l0,y 0 true (.fa v1 2),y 1 true (.ld l0 1 false),y 2 true (.ln l0),y 3 true (.bin .eql l0 (.i 11)),u (.pk l4 l0 (.b false)),m l0,y 0 true (.fa v1 2),y 1 true (.ld l0 1 false),y 2 true (.ia l0 (.i 0) 1),y 3 true (.ld l0 1 false),y 4 true (.bin .eql l0 (.c (.t (.int .u8 (1))))),u (.pk l5 l0 (.b false)),m l0,y 0 true (.fa v1 2),y 1 true (.ld l0 1 false),y 2 true (.ia l0 (.i 7) 1),y 3 true (.ld l0 1 false),y 4 true (.bin .eql l0 (.c (.t (.int .u8 (7))))),u (.pk l5 l0 (.b false)),m l0,y 0 true (.fa v3 1),y 1 true (.ld l0 1 false),y 2 true (.bin .eql l0 (.i 258)),u (.pk l3 l0 (.b false)),m l0,y 0 true (.fa v5 0),y 1 true (.ld l0 1 false),y 2 true (.ln l0),y 3 true (.bin .eql l0 (.i 32)),u (.pk l4 l0 (.b false)),m l0,y 0 true (.fa v5 0),y 1 true (.ld l0 1 false),y 2 true (.ia l0 (.i 3) 1),y 3 true (.ld l0 1 false),y 4 true (.bin .eql l0 (.i 258)),u (.pk l5 l0 (.b false)),w 0 (.mv l0)] []) .ret))))),res:=[(0,none)]}
def ch:C:=(.seq (.ite [m v5,u (.bin .gtr l0 (.i 0))] [] 0 .skip (.exit 0)) (.seq (.blk 1 (.seq (.reg [m v4,m v0,u (.ca N.ax 0 [] [.l 0,.i 3]),u (.bin .add (.i 1) l0),u (.bin .add l3 l0),w 4 (.mv l0)] []) (.reg [f 3 v3,g l0,m v4,u (.bs [.l 0] 1),u (.app l2 l0 true 1),f 3 v3,u (.st l0 l1 1 [])] []))) (.reg [m v5,u (.bin .sub l0 (.i 1)),w 5 (.mv l0)] [])))
def cC:C:= .loop true [1] K.ch
def aH:Fn:={ nargs:=2,vars:=[0,1,4,5,6,7],body:=(.seq (.reg [w 2 (.al [.t (.int .i64 (0)),.t (.int .i64 (0)),.t (.int .i64 (0)),.nil] [])] []) (.seq (.reg [m v0,u (.ca N.ax 0 [] [.l 0,.i 3]),m v0,u (.ca N.ax 0 [] [.l 0,.i 20]),m v1,u (.bd [.t (.int .i64 (0)),.t (.int .i64 (0)),.t (.int .i64 (0)),.nil] [(0,1,.l 3),(1,1,.l 1),(2,1,.l 0)]),w 3 (.al [.t (.int .i64 (0)),.t (.int .i64 (0)),.t (.int .i64 (0)),.nil] [(3,1)]),u (.st l0 l1 4 [(3,1)])] []) (.seq (.reg [w 4 (.mv (.i 0))] []) (.seq (.seq (.reg [m v0,u (.ca N.ax 0 [] [.l 0,.i 4]),w 5 (.mv l0)] []) (.blk 0 K.cC)) (.seq (.reg [h 4 v3,u (.st v2 l0 4 [])] []) .ret))))),res:=[(2,some (4,true))]}
def dG:C:=(.seq (.ite [m v2,u (.bin .lss l0 (.i 32))] [] 0 .skip (.exit 0)) (.seq (.blk 1 (.reg [f 0 v1,g l0,u (.bs [.i (-1)] 1),u (.app l1 l0 true 1),f 1 v1,g l0,u (.bs [.i 0] 1),u (.app l1 l0 true 1),f 0 v1,u (.st l0 l5 1 []),f 1 v1,u (.st l0 l3 1 [])] [(2,2),(5,0),(6,0)])) (.reg [m v2,u (.bin .add l0 (.i 1)),w 2 (.mv l0)] [])))
def fU:C:= .loop true [] K.dG
def bJ:Fn:={ nargs:=0,vars:=[0,1,2],body:=(.seq (.reg [w 0 (.al [.nil,.nil] [])] []) (.seq (.reg [w 1 (.al [.nil,.nil] [(0,1),(1,1)])] []) (.seq (.seq (.reg [w 2 (.mv (.i 0))] []) (.blk 0 K.fU)) (.seq (.reg [h 2 v1,u (.st v0 l0 2 [])] []) .ret)))),res:=[(0,some (2,true))]}
def aD:Fn:={ nargs:=2,vars:=[0,1,2,3,4],body:=(.seq (.reg [w 2 (.bx v0 2),w 3 (.bx v1 2),w 4 (.mv (.b false))] []) (.seq (.reg [f 0 v2,g l0,f 0 v3,g l0,u (.ca N.aP 0 [] [.l 2,.l 0]),m l0,y 0 true (.fa v2 1),y 1 true (.ld l0 1 false),y 2 true (.fa v3 1),y 3 true (.ld l0 1 false),y 4 true (.ca N.aP 0 [] [.l 2,.l 0]),u (.pk l5 l0 (.b false)),w 4 (.mv l0)] []) .ret)),res:=[(4,none)]}
def bM:Fn:={ nargs:=0,vars:=[0],body:=(.seq (.reg [w 0 (.al [.nil,.nil] [])] []) (.seq (.reg [u (.bs [.i (-1)] 1),u (.ca N.au 1 [] [.l 0,.i 32]),u (.mkt (.i 32) (.int .i64 (0)) 1),u (.bd [.nil,.nil] [(0,1,.l 1),(1,1,.l 0)]),u (.st v0 l0 2 [])] [(0,0),(2,0)]) .ret)),res:=[(0,some (2,true))]}
def ay:Fn:={ nargs:=1,vars:=[0,1,2],body:=(.seq (.reg [w 1 (.bx v0 2),w 2 (.mv (.b false))] []) (.seq (.reg [f 0 v1,g l0,u (.ln l0),u (.bin .eql l0 (.i 32)),m l0,y 0 true (.fa v1 1),y 1 true (.ld l0 1 false),y 2 true (.ln l0),y 3 true (.bin .eql l0 (.i 32)),u (.pk l4 l0 (.b false)),m l0,y 0 true (.fa v1 0),y 1 true (.ld l0 1 false),y 2 true (.ca N.ag 0 [] [.l 0,.c (.fn N.aA [])]),y 3 true (.un .not l0),u (.pk l4 l0 (.b false)),m l0,y 0 true (.fa v1 1),y 1 true (.ld l0 1 false),y 2 true (.ca N.ag 0 [] [.l 0,.c (.fn N.aB [])]),y 3 true (.un .not l0),u (.pk l4 l0 (.b false)),w 2 (.mv l0)] []) .ret)),res:=[(2,none)]}
def aK:C:=(.seq (.ite [m v3,u (.bin .lss l0 (.i 32))] [] 0 .skip (.exit 0)) (.seq (.blk 1 (.ite [f 0 v1,g l0,m v3,a 1 l1 l0,g l0,u (.bin .lss l0 (.i (-1))),m l0,y 0 false (.fa v1 0),y 1 false (.ld l0 1 false),y 2 false (.mv v3),y 3 false (.ia l1 l0 1),y 4 false (.ld l0 1 false),y 5 false (.bin .gtr l0 (.i 65535)),u (.pk l6 (.b true) l0),m l0,y 0 false (.fa v1 1),y 1 false (.ld l0 1 false),y 2 false (.mv v3),y 3 false (.ia l1 l0 1),y 4 false (.ld l0 1 false),y 5 false (.bin .lss l0 (.i 0)),u (.pk l6 (.b true) l0),m l0,y 0 false (.fa v1 1),y 1 false (.ld l0 1 false),y 2 false (.mv v3),y 3 false (.ia l1 l0 1),y 4 false (.ld l0 1 false),y 5 false (.bin .gtr l0 (.i 2147483648)),u (.pk l6 (.b true) l0)] [] 0 (.seq (.reg [w 2 (.mv (.b false))] []) .ret) .skip)) (.reg [m v3,u (.bin .add l0 (.i 1)),w 3 (.mv l0)] [])))
def dt:C:= .loop true [0,2] K.aK
def ak:Fn:={ nargs:=1,vars:=[0,1,2,3],body:=(.seq (.reg [w 1 (.bx v0 2),w 2 (.mv (.b false))] []) (.seq (.ite [f 0 v1,g l0,u (.ln l0),u (.bin .neq l0 (.i 32)),m l0,y 0 false (.fa v1 1),y 1 false (.ld l0 1 false),y 2 false (.ln l0),y 3 false (.bin .neq l0 (.i 32)),u (.pk l4 (.b true) l0)] [] 0 (.seq (.reg [w 2 (.mv (.b false))] []) .ret) .skip) (.seq (.seq (.reg [w 3 (.mv (.i 0))] []) (.blk 0 K.dt)) (.seq (.reg [w 2 (.mv (.b true))] []) .ret)))),res:=[(2,none)]}
def a8:Fn:={ nargs:=2,vars:=[0,1,2,3,4,5,6,7,8],body:=(.seq (.reg [w 2 (.bx v0 2),w 3 (.bx v1 4),w 4 (.al [.nil,.nil] []),w 5 (.mv (.i 0))] []) (.seq (.blk 0 (.ite [h 2 v2,u (.ca N.ay 0 [] [.l 0]),u (.un .not l0),m l0] [] 0 (.seq (.reg [h 2 v2,u (.st v4 l0 2 []),w 5 (.mv (.i 10))] []) .ret) (.ite [h 4 v3,u (.ca N.a6 0 [] [.l 0]),u (.un .not l0),m l0] [] 0 (.seq (.reg [h 2 v2,u (.st v4 l0 2 []),w 5 (.mv (.i 6))] []) .ret) .skip))) (.seq (.reg [f 0 v2,g l0,f 0 v3,g l0,a 1 l2 l0,g l0,w 6 (.mv l0)] []) (.seq (.reg [f 1 v3,g l0,m v6,u (.bin .sub l1 l0),u (.bin .add l0 (.i 65536)),u (.bin .rem l0 (.i 65536)),w 7 (.mv l0)] []) (.seq (.ite [m v6,u (.bin .geq l0 (.i 0)),m l0,y 0 true (.mv v7),y 1 true (.bin .eql l0 (.i 0)),y 2 true (.mv l0),y 0 false (.mv v7),y 1 false (.bin .geq l0 (.i 32768)),y 5 true (.pk l2 (.b true) l0),u (.pk l6 l0 (.b false))] [] 0 (.seq (.reg [h 2 v2,u (.st v4 l0 2 []),w 5 (.mv (.i 42))] []) .ret) .skip) (.seq (.reg [w 8 (.al [.nil,.nil] []),f 0 v2,g l0,u (.ca N.aq 1 [] [.l 0]),f 1 v2,g l0,u (.ca N.aq 1 [] [.l 0]),u (.bd [.nil,.nil] [(0,1,.l 3),(1,1,.l 0)]),u (.st l7 l0 2 [])] [(0,4),(0,7),(5,1)]) (.seq (.reg [f 0 v8,g l0,f 0 v3,g l0,f 1 v3,g l0,a 1 l4 l2,u (.st l0 l1 1 [])] []) (.seq (.ite [m v6,u (.bin .geq l0 (.i 0))] [] 0 (.reg [f 1 v8,g l0,f 0 v3,g l0,f 1 v8,g l0,f 0 v3,g l0,a 1 l2 l0,g l0,m v7,u (.bin .add l1 l0),u (.bin .sub l0 (.i 1)),u (.mn [.l 0,.i 2147483648]),a 1 (.l 12) l10,u (.st l0 l1 1 [])] []) .skip) (.seq (.reg [h 2 v8,u (.st v4 l0 2 []),w 5 (.mv (.i 0))] []) .ret))))))))),res:=[(4,some (2,true)),(5,none)]}
def aV:Fn:={ nargs:=2,vars:=[0,1,2,3,4,5,6,7],body:=(.seq (.reg [w 2 (.bx v0 2),w 3 (.bx v1 4),w 4 (.al [.nil,.nil] []),w 5 (.mv (.i 0))] []) (.seq (.reg [h 2 v2,u (.ca N.bV 1 [] [.l 0]),u (.st v2 l0 2 [])] []) (.seq (.ite [h 2 v2,u (.ca N.ak 0 [] [.l 0]),u (.un .not l0)] [] 0 (.seq (.reg [h 2 v2,u (.st v4 l0 2 []),w 5 (.mv (.i 10))] []) .ret) .skip) (.seq (.ite [h 4 v3,u (.ca N.aM 0 [] [.l 0]),u (.un .not l0)] [] 0 (.seq (.reg [h 2 v2,u (.st v4 l0 2 []),w 5 (.mv (.i 6))] []) .ret) .skip) (.seq (.reg [f 0 v2,g l0,f 0 v3,g l0,a 1 l2 l0,g l0,w 6 (.mv l0)] []) (.seq (.ite [m v6,u (.bin .geq l0 (.i 0))] [] 0 (.seq (.reg [f 1 v3,g l0,m v6,u (.bin .sub l1 l0),u (.bin .add l0 (.i 65536)),u (.bin .rem l0 (.i 65536)),w 7 (.mv l0)] []) (.seq (.ite [m v7,u (.bin .lss l0 (.i 1)),m l0,y 0 false (.mv v7),y 1 false (.bin .gtr l0 (.i 32767)),u (.pk l2 (.b true) l0)] [] 0 (.seq (.reg [h 2 v2,u (.st v4 l0 2 []),w 5 (.mv (.i 42))] []) .ret) .skip) (.reg [f 1 v2,g l0,f 0 v3,g l0,f 1 v2,g l0,f 0 v3,g l0,a 1 l2 l0,g l0,m v7,u (.bin .add l1 l0),u (.bin .sub l0 (.i 1)),u (.mn [.l 0,.i 2147483648]),a 1 (.l 12) l10,u (.st l0 l1 1 [])] []))) .skip) (.seq (.reg [f 0 v2,g l0,f 0 v3,g l0,f 1 v3,g l0,a 1 l4 l2,u (.st l0 l1 1 [])] []) (.seq (.reg [h 2 v2,u (.st v4 l0 2 []),w 5 (.mv (.i 0))] []) .ret)))))))),res:=[(4,some (2,true)),(5,none)]}
def ku:C:=(.its [u (.bin .lss v8 v7)] [] 0 .skip (.exit 0) (.seq (.blk 1 (.seq (.reg [a 1 v6 v8,g l0,w 5 (.mv l0)] []) (.reg [m v4,m v5,u (.cv .u64 l0),u (.ca N.ct 1 [0] [.l 2,.l 0,.i 2]),w 4 (.mv l0)] []))) (.reg [u (.bin .add v8 (.i 1)),w 8 (.mv l0)] [])))
def lO:C:= .loop true [0,3,5] K.ku
def cG:Fn:={ nargs:=1,vars:=[0,1,2,3,4,6,28,29,30],body:=(.seq (.reg [w 1 (.bx v0 4),w 2 (.al [.t (.int .i64 (0)),.t (.int .i64 (0)),.nil] []),w 3 (.mv (.i 0))] []) (.seq (.ite [h 4 v1,u (.ca N.a6 0 [] [.l 0]),u (.un .not l0)] [] 0 (.seq (.reg [u (.bd [.t (.int .i64 (0)),.t (.int .i64 (0)),.nil] []),u (.st v2 l0 3 []),w 3 (.mv (.i 6))] []) .ret) .skip) (.seq (.reg [f 1 v1,g l0,u (.cv .u64 l0),u (.ca N.ct 1 [0] [.c (.nil),.l 0,.i 2]),w 4 (.mv l0)] []) (.seq (.reg [m v4,f 2 v1,g l0,u (.cv .u64 l0),u (.ca N.ct 1 [0] [.l 3,.l 0,.i 6]),w 4 (.mv l0)] []) (.seq (.reg [m v4,f 3 v1,g l0,u (.ln l0),u (.cv .u8 l0),u (.bs [.l 0] 1),u (.app l5 l0 true 1),w 4 (.mv l0)] []) (.seq (.seq (.reg [f 3 v1,w 6 (.ld l0 1 false),w 7 (.ln l0),w 8 (.mv (.i 0))] []) (.blk 0 K.lO)) (.seq (.reg [f 0 v1,g l0,m v4,u (.bd [.t (.int .i64 (0)),.t (.int .i64 (0)),.nil] [(0,1,.l 1),(1,1,.i 9),(2,1,.l 0)]),u (.st v2 l0 3 []),w 3 (.mv (.i 0))] []) .ret))))))),res:=[(2,some (3,true)),(3,none)]}
def hB:C:= .rng 6 7 N.av [w 5 (.mv v7)] [] [f 3 v4,g l0,m v5,u (.ca N.bq 0 [] [.l 0]),u (.cv .i64 l0),u (.bs [.l 0] 1),u (.app l4 l0 true 1),f 3 v4,u (.st l0 l1 1 [])] [(1,4),(1,6)]
def x9:C:=K.hB
def dh:Fn:={ nargs:=1,vars:=[0,1,2,3,4,5,49,50],body:=(.seq (.reg [w 1 (.bx v0 3),w 2 (.al [.t (.int .i64 (0)),.t (.int .i64 (0)),.t (.int .i64 (0)),.nil] []),w 3 (.mv (.i 0))] []) (.seq (.ite [f 1 v1,g l0,u (.bin .neq l0 (.i 9))] [] 0 (.seq (.reg [u (.bd [.t (.int .i64 (0)),.t (.int .i64 (0)),.t (.int .i64 (0)),.nil] []),u (.st v2 l0 4 []),w 3 (.mv (.i 5))] []) .ret) .skip) (.seq (.ite [f 0 v1,g l0,u (.ca N.bP 0 [] [.l 0,.i 0,.i 31]),u (.un .not l0)] [] 0 (.seq (.reg [u (.bd [.t (.int .i64 (0)),.t (.int .i64 (0)),.t (.int .i64 (0)),.nil] []),u (.st v2 l0 4 []),w 3 (.mv (.i 40))] []) .ret) .skip) (.seq (.ite [f 2 v1,g l0,u (.ln l0),u (.bin .lss l0 (.i 9)),m l0,y 0 false (.fa v1 2),y 1 false (.ld l0 1 false),y 2 false (.ln l0),y 3 false (.fa v1 2),y 4 false (.ld l0 1 false),y 5 false (.ia l0 (.i 8) 1),y 6 false (.ld l0 1 false),y 7 false (.cv .i64 l0),y 8 false (.bin .mul (.i 2) l0),y 9 false (.bin .add (.i 9) l0),y 10 false (.bin .neq l7 l0),u (.pk l11 (.b true) l0)] [] 0 (.seq (.reg [u (.bd [.t (.int .i64 (0)),.t (.int .i64 (0)),.t (.int .i64 (0)),.nil] []),u (.st v2 l0 4 []),w 3 (.mv (.i 6))] []) .ret) .skip) (.seq (.reg [w 4 (.al [.t (.int .i64 (0)),.t (.int .i64 (0)),.t (.int .i64 (0)),.nil] [(3,1)]),f 0 v1,g l0,f 2 v1,g l0,u (.sc l0 none (some (.i 2)) 1),u (.ca N.bq 0 [] [.l 0]),u (.cv .i64 l0),f 2 v1,g l0,u (.sc l0 (some (.i 2)) (some (.i 8)) 1),u (.ca N.bq 0 [] [.l 0]),u (.cv .i64 l0),u (.bd [.t (.int .i64 (0)),.t (.int .i64 (0)),.t (.int .i64 (0)),.nil] [(0,1,.l 10),(1,1,.l 5),(2,1,.l 0)]),u (.st (.l 13) l0 4 [(3,1)])] [(0,7),(0,12),(2,7),(2,12),(9,1),(10,1)]) (.seq (.seq (.reg [f 2 v1,g l0,u (.sc l0 (some (.i 9)) none 1),w 6 (.ca N.aG 0 [] [.l 0,.i 2])] []) (.blk 0 K.hB)) (.seq (.ite [h 4 v4,u (.ca N.a6 0 [] [.l 0]),u (.un .not l0)] [] 0 (.seq (.reg [u (.bd [.t (.int .i64 (0)),.t (.int .i64 (0)),.t (.int .i64 (0)),.nil] []),u (.st v2 l0 4 []),w 3 (.mv (.i 6))] []) .ret) .skip) (.seq (.reg [h 4 v4,u (.st v2 l0 4 []),w 3 (.mv (.i 0))] []) .ret)))))))),res:=[(2,some (4,true)),(3,none)]}
def a6:Fn:={ nargs:=1,vars:=[0,1,2],body:=(.seq (.reg [w 1 (.bx v0 4),w 2 (.mv (.b false))] []) (.seq (.reg [f 0 v1,g l0,u (.ca N.bP 0 [] [.l 0,.i 0,.i 31]),m l0,y 0 true (.fa v1 1),y 1 true (.ld l0 1 false),y 2 true (.ca N.bP 0 [] [.l 0,.i 0,.i 65535]),u (.pk l3 l0 (.b false)),m l0,y 0 true (.fa v1 2),y 1 true (.ld l0 1 false),y 2 true (.ca N.bP 0 [] [.l 0,.i 0,.i 2147483648]),u (.pk l3 l0 (.b false)),m l0,y 0 true (.fa v1 3),y 1 true (.ld l0 1 false),y 2 true (.ln l0),y 3 true (.bin .leq l0 (.i 20)),u (.pk l4 l0 (.b false)),m l0,y 0 true (.fa v1 3),y 1 true (.ld l0 1 false),y 2 true (.ca N.bo 0 [] [.l 0,.i 1,.i 65535]),u (.pk l3 l0 (.b false)),w 2 (.mv l0)] []) .ret)),res:=[(2,none)]}
def aA:Fn:={ nargs:=1,vars:=[0,2],body:=(.seq (.reg [w 1 (.mv (.b false))] []) (.seq (.reg [m v0,u (.ca N.bP 0 [] [.l 0,.i (-1),.i 65535]),u (.un .not l0),w 1 (.mv l0)] []) .ret)),res:=[(1,none)]}
def aB:Fn:={ nargs:=1,vars:=[0,2],body:=(.seq (.reg [w 1 (.mv (.b false))] []) (.seq (.reg [m v0,u (.ca N.bP 0 [] [.l 0,.i 0,.i 2147483648]),u (.un .not l0),w 1 (.mv l0)] []) .ret)),res:=[(1,none)]}
def bV:Fn:={ nargs:=1,vars:=[0,1,2],body:=(.seq (.reg [w 1 (.bx v0 2),w 2 (.al [.nil,.nil] [])] []) (.seq (.reg [f 0 v1,g l0,u (.app (.c (.nil)) l0 true 1),f 1 v1,g l0,u (.app (.c (.nil)) l0 true 1),u (.bd [.nil,.nil] [(0,1,.l 3),(1,1,.l 0)]),u (.st v2 l0 2 [])] [(4,0)]) .ret)),res:=[(2,some (2,true))]}
def lP:C:=(.seq (.ite [m v4,u (.bin .geq l0 (.i 0))] [] 0 .skip (.exit 0)) (.seq (.blk 1 (.reg [m v0,m v1,m v4,u (.bin .mul (.i 8) l0),u (.cv .u64 l0),u (.bin .shr l3 l0),u (.cv .u8 l0),u (.bs [.l 0] 1),u (.app l7 l0 true 1),w 0 (.mv l0)] [])) (.reg [m v4,u (.bin .sub l0 (.i 1)),w 4 (.mv l0)] [])))
def nf:C:= .loop false [2,3] K.lP
def ct:Fn:={ nargs:=3,vars:=[0,1,2,6,7],body:=(.seq (.reg [w 3 (.mv (.c (.nil)))] []) (.seq (.seq (.reg [m v2,u (.bin .sub l0 (.i 1)),w 4 (.mv l0)] []) (.blk 0 K.nf)) (.seq (.reg [m v0,w 3 (.mv l0)] []) .ret))),res:=[(3,none)]}
def jg:C:=(.its [u (.bin .lss v6 v5)] [] 0 .skip (.exit 0) (.seq (.blk 1 (.seq (.reg [a 1 v4 v6,g l0,w 3 (.mv l0)] []) (.reg [m v2,u (.bin .shl l0 (.c (.t (.int .u64 (8))))),m v3,u (.cv .u64 l0),u (.bin .or l2 l0),w 2 (.mv l0)] []))) (.reg [u (.bin .add v6 (.i 1)),w 6 (.mv l0)] [])))
def kf:C:= .loop true [0,1,3] K.jg
def bq:Fn:={ nargs:=1,vars:=[0,2,3,5,6,7,8],body:=(.seq (.reg [w 1 (.mv (.c (.t (.int .u64 (0)))))] []) (.seq (.reg [w 2 (.mv (.c (.t (.int .u64 (0)))))] []) (.seq (.seq (.reg [w 4 (.mv v0),w 5 (.ln l0),w 6 (.mv (.i 0))] []) (.blk 0 K.kf)) (.seq (.reg [m v2,w 1 (.mv l0)] []) .ret)))),res:=[(1,none)]}
def aG:Fn:={ nargs:=2,vars:=[0,1,2,3,4],body:=(.seq (.reg [w 2 (.bx v0 1),w 3 (.bx v1 1),w 4 (.mv (.c (.und)))] []) (.seq (.ite [g v3,u (.bin .lss l0 (.i 1))] [] 0 .fail .skip) (.seq (.reg [u (.mf N.av [.v 2,.v 3]),w 4 (.mv l0)] []) .ret))),res:=[(4,none)]}
end Go.Ev.K
namespace Go.Ev
class cu [Lib]:Prop where
 c9:Lib.fs N.aJ=some K.aJ
 hJ:Lib.fs N.bI=some K.bI
 b5:Lib.fs N.aH=some K.aH
 eI:Lib.fs N.bJ=some K.bJ
 cP:Lib.fs N.aD=some K.aD
 fo:Lib.fs N.bM=some K.bM
 cQ:Lib.fs N.ay=some K.ay
 cD:Lib.fs N.ak=some K.ak
 gr:Lib.fs N.a8=some K.a8
 fp:Lib.fs N.aV=some K.aV
 ja:Lib.fs N.cG=some K.cG
 kg:Lib.fs N.dh=some K.dh
 fq:Lib.fs N.a6=some K.a6
 cj:Lib.fs N.aA=some K.aA
 ck:Lib.fs N.aB=some K.aB
 ft:Lib.fs N.bV=some K.bV
 kh:Lib.fs N.ct=some K.ct
 fV:Lib.fs N.bq=some K.bq
 cH:Lib.fs N.aG=some K.aG
namespace K
variable [Lib] [cu]
theorem c9:Lib.fs N.aJ=some K.aJ:=cu.c9
theorem hJ:Lib.fs N.bI=some K.bI:=cu.hJ
theorem b5:Lib.fs N.aH=some K.aH:=cu.b5
theorem eI:Lib.fs N.bJ=some K.bJ:=cu.eI
theorem cP:Lib.fs N.aD=some K.aD:=cu.cP
theorem fo:Lib.fs N.bM=some K.bM:=cu.fo
theorem cQ:Lib.fs N.ay=some K.ay:=cu.cQ
theorem cD:Lib.fs N.ak=some K.ak:=cu.cD
theorem gr:Lib.fs N.a8=some K.a8:=cu.gr
theorem fp:Lib.fs N.aV=some K.aV:=cu.fp
theorem ja:Lib.fs N.cG=some K.cG:=cu.ja
theorem kg:Lib.fs N.dh=some K.dh:=cu.kg
theorem fq:Lib.fs N.a6=some K.a6:=cu.fq
theorem cj:Lib.fs N.aA=some K.aA:=cu.cj
theorem ck:Lib.fs N.aB=some K.aB:=cu.ck
theorem ft:Lib.fs N.bV=some K.bV:=cu.ft
theorem kh:Lib.fs N.ct=some K.ct:=cu.kh
theorem fV:Lib.fs N.bq=some K.bq:=cu.fV
theorem cH:Lib.fs N.aG=some K.aG:=cu.cH
end K
end Go.Ev
namespace Go.Ev.K
open Go.Ev
def av:Fn:={ nargs:=3,vars:=[],body:= .fail,res:=[]}
end Go.Ev.K
namespace Go.Ev
class hT [Lib]:Prop where
 cf:Lib.fs N.av=some K.av
namespace K
variable [Lib] [hT]
theorem cf:Lib.fs N.av=some K.av:=hT.cf
end K
end Go.Ev
namespace Go.Ev
open Go
variable [Lib] [dO] [dT] [pG] [oD] [lW] [m7] [pO] [oF] [gZ] [cu] [hT]
abbrev tB(l:List Int):T:= .sl (l.map (T.int .u8))
structure Rpt where
 reader:Int
 number:Int
 time:Int
 tags:List Int
abbrev Rpt.e(r:Rpt):T:= .agg [tI r.reader,tI r.number,tI r.time,tL r.tags]
structure Frm where
 addr:Int
 kind:Int
 data:List Int
abbrev Frm.e(f:Frm):T:= .agg [tI f.addr,tI f.kind,tB f.data]
structure Itk where
 last:List Int
 lost:List Int
abbrev Itk.e(x:Itk):T:= .agg [tL x.last,tL x.lost]
@[go_sem] theorem B3 (l : List Int) : aL 1 (l.map (T.int .u8)) = true := dg 1 _ (fun _ => rfl) l
@[go_sem] theorem Ku (l : List Int) : dR 1 (l.map (T.int .u8)) = true := by cases l <;> rfl
theorem Kv{a:Int}(h:0≤a)(h2:a<9223372036854775808):IntKind.i64.wrap a=a:=by
 simp only[IntKind.wrap,IntKind.bits,IntKind.signed];simp;omega
def tw(r:Rpt):Bool:=decide (0≤r.reader∧r.reader≤31)&&(decide (0≤r.number∧r.number≤65535)&&(decide (0≤r.time∧r.time≤2147483648)&&(decide (r.tags.length≤20)&&qS r.tags 1 65535)))
theorem qC(r:Rpt)(hl:r.tags.length≤1000000):bS 0 N.a6 [.t r.e] []=some (B (tw r),[]):=by
 refine aX K.fq rfl ?_
 have i1:=sG r.reader 0 31
 have i2:=sG r.number 0 65535
 have i3:=sG r.time 0 2147483648
 have i4:=sI r.tags 1 65535 (by omega)
 unfold tw
 obtain⟨reader,number,time,tags⟩:=r
 simp only at*
 generalize qS tags 1 65535=b4 at*
 generalize decide (0≤reader∧reader≤31)=b1 at*
 generalize decide (0≤number∧number≤65535)=b2 at*
 generalize decide (0≤time∧time≤2147483648)=b3 at*
 cases b1 with
 | false=>simp (disch:=omega) only[go_sem,K.a6,↓reduceIte,i1,Bool.false_and,Nat.reduceAdd,Nat.reduceSub]
 | true=>
   cases b2 with
   | false=>simp (disch:=omega) only[go_sem,K.a6,↓reduceIte,i1,i2,Bool.false_and,Bool.true_and,Nat.reduceAdd,Nat.reduceSub]
   | true=>
     cases b3 with
     | false=>simp (disch:=omega) only[go_sem,K.a6,↓reduceIte,i1,i2,i3,Bool.false_and,Bool.true_and,Nat.reduceAdd,Nat.reduceSub]
     | true=>
       by_cases c:tags.length≤20
       · simp (disch:=omega) only[go_sem,K.a6,↓reduceIte,i1,i2,i3,i4,c,decide_true,Bool.true_and,Nat.reduceAdd,Nat.reduceSub]
       · simp (disch:=omega) only[go_sem,K.a6,↓reduceIte,i1,i2,i3,c,decide_false,Bool.true_and,Bool.false_and,Nat.reduceAdd,Nat.reduceSub]
theorem tx(r:Rpt)(hl:r.tags.length≤1000000):bS 0 N.aM [.t r.e] []=some (B (tw r),[]):=by
 refine aX K.eH rfl ?_
 have lp:=fun z0 z2:D=>ke (gc:=true) (dead:=[0,2]) (c:=K.bg) (vs:=[z0,.bp 0 0,z2,I 0]) (H:=[.box [I r.reader,I r.number,I r.time,.t (tL r.tags)]])
  (fun j=>⟨[.und,.bp 0 0,.und,I j],[.box [I r.reader,I r.number,I r.time,.t (tL r.tags)]]⟩) r.tags.length (nC r.tags 1 65535)
  (fun j=>(.ret,⟨[.und,.bp 0 0,B false,I j],[.box [I r.reader,I r.number,I r.time,.t (tL r.tags)]]⟩))
  (.exit 0,⟨[.und,.bp 0 0,.und,I r.tags.length],[.box [I r.reader,I r.number,I r.time,.t (tL r.tags)]]⟩) rfl
  (fun j hj hq=>by
   have ex:(r.tags.map (T.int .i64))[j]?=some (.int .i64 (nth r.tags j)):=cN _ hj
   obtain⟨reader,number,time,tags⟩:=r
   simp only[nC,Bool.not_eq_false',decide_eq_true_eq]at*
   obtain⟨q1,q2,q3⟩:=hq
   cases j with
   | zero=>
     generalize nth tags 0=y at*
     simp (disch:=omega) only[go_sem,K.bg,↓reduceIte,ex,List.map_cons,List.map_nil,Nat.reduceAdd,Nat.reduceSub]
   | succ j=>
     have ex2:(tags.map (T.int .i64))[j]?=some (.int .i64 (nth tags j)):=cN _ (by omega)
     have q4:=q3 (by omega)
     simp only[Nat.add_sub_cancel]at q4
     clear q3
     generalize nth tags (j+1)=y at*
     generalize nth tags j=x at*
     have e:((j+1:Nat):Int)-1=j:=by omega
     have g:((j+1:Nat):Int)>0:=by omega
     simp (disch:=omega) only[go_sem,K.bg,↓reduceIte,ex,ex2,e,g,Nat.reduceAdd,Nat.reduceSub]
   )
  (fun j hj hq=>by
   have ex:(r.tags.map (T.int .i64))[j]?=some (.int .i64 (nth r.tags j)):=cN _ hj
   obtain⟨reader,number,time,tags⟩:=r
   simp only[nC,Bool.not_eq_true',decide_eq_false_iff_not]at*
   refine⟨?_,by simp⟩
   by_cases c1:nth tags j<1
   · simp (disch:=omega) only[go_sem,K.bg,↓reduceIte,ex,c1,Nat.reduceAdd,Nat.reduceSub]
   · by_cases c2:nth tags j>65535
     · simp (disch:=omega) only[go_sem,K.bg,↓reduceIte,ex,c1,c2,Nat.reduceAdd,Nat.reduceSub]
     · cases j with
       | zero=>exact absurd ⟨by omega,by omega,fun h=>by omega⟩ hq
       | succ j=>
         have ex2:(tags.map (T.int .i64))[j]?=some (.int .i64 (nth tags j)):=cN _ (by omega)
         have q4:nth tags (j+1)≤nth tags j:=by
          rcases Int.lt_or_le (nth tags j) (nth tags (j+1))with h | h
          · exact absurd ⟨by omega,by omega,fun _=>h⟩ hq
          · exact h
         clear hq
         generalize nth tags (j+1)=y at*
         generalize nth tags j=x at*
         have e:((j+1:Nat):Int)-1=j:=by omega
         have g:((j+1:Nat):Int)>0:=by omega
         simp (disch:=omega) only[go_sem,K.bg,↓reduceIte,ex,ex2,e,g,c1,c2,Nat.reduceAdd,Nat.reduceSub]
   )
  (by
   obtain⟨reader,number,time,tags⟩:=r
   simp (disch:=omega) only[go_sem,K.bg,↓reduceIte,Nat.reduceAdd,Nat.reduceSub]
   ) (by simp)
 have lp2:∀z0 z2:D,exS bS K.fT _=_:=lp
 clear lp
 unfold tw qS
 cases hq:(List.range r.tags.length).any (nC r.tags 1 65535)with
 | true=>
   rw[hq]at lp2
   simp only[if_true]at lp2
   generalize kd r.tags.length (nC r.tags 1 65535)=j at*
   obtain⟨reader,number,time,tags⟩:=r
   simp only[Bool.not_true,Bool.and_false]at*
   simp (disch:=omega) only[go_sem,K.aM,↓reduceIte,lp2,Nat.reduceAdd,Nat.reduceSub]
 | false=>
   rw[hq]at lp2
   simp only[Bool.false_eq_true,if_false]at lp2
   obtain⟨reader,number,time,tags⟩:=r
   simp only[Bool.not_false,Bool.and_true]at*
   by_cases c1:0≤reader
   · by_cases c2:reader≤31
     · rw[decide_eq_true (show 0≤reader∧reader≤31 from⟨c1,c2⟩)]
       by_cases c3:0≤number
       · by_cases c4:number≤65535
         · rw[decide_eq_true (show 0≤number∧number≤65535 from⟨c3,c4⟩)]
           by_cases c5:0≤time
           · by_cases c6:time≤2147483648
             · rw[decide_eq_true (show 0≤time∧time≤2147483648 from⟨c5,c6⟩)]
               simp only[Bool.true_and]
               by_cases c7:tags.length≤20
               · rw[decide_eq_true c7]
                 simp (disch:=omega) only[go_sem,K.aM,↓reduceIte,lp2,Nat.reduceAdd,Nat.reduceSub]
               · rw[decide_eq_false c7]
                 simp (disch:=omega) only[go_sem,K.aM,↓reduceIte,lp2,Nat.reduceAdd,Nat.reduceSub]
             · rw[decide_eq_false (show ¬(0≤time∧time≤2147483648)from fun h=>c6 h.2)]
               simp only[Bool.true_and,Bool.false_and]
               simp (disch:=omega) only[go_sem,K.aM,↓reduceIte,lp2,Nat.reduceAdd,Nat.reduceSub]
           · rw[decide_eq_false (show ¬(0≤time∧time≤2147483648)from fun h=>c5 h.1)]
             simp only[Bool.true_and,Bool.false_and]
             simp (disch:=omega) only[go_sem,K.aM,↓reduceIte,lp2,Nat.reduceAdd,Nat.reduceSub]
         · rw[decide_eq_false (show ¬(0≤number∧number≤65535)from fun h=>c4 h.2)]
           simp only[Bool.true_and,Bool.false_and]
           simp (disch:=omega) only[go_sem,K.aM,↓reduceIte,lp2,Nat.reduceAdd,Nat.reduceSub]
       · rw[decide_eq_false (show ¬(0≤number∧number≤65535)from fun h=>c3 h.1)]
         simp only[Bool.true_and,Bool.false_and]
         simp (disch:=omega) only[go_sem,K.aM,↓reduceIte,lp2,Nat.reduceAdd,Nat.reduceSub]
     · rw[decide_eq_false (show ¬(0≤reader∧reader≤31)from fun h=>c2 h.2)]
       simp only[Bool.false_and]
       simp (disch:=omega) only[go_sem,K.aM,↓reduceIte,lp2,Nat.reduceAdd,Nat.reduceSub]
   · rw[decide_eq_false (show ¬(0≤reader∧reader≤31)from fun h=>c1 h.1)]
     simp only[Bool.false_and]
     simp (disch:=omega) only[go_sem,K.aM,↓reduceIte,lp2,Nat.reduceAdd,Nat.reduceSub]
structure Rpt.ok(r:Rpt):Prop where
 r1:0≤r.reader
 r2:r.reader≤31
 n1:0≤r.number
 n2:r.number≤65535
 t1:0≤r.time
 t2:r.time≤2147483648
 l:r.tags.length≤20
 g1:∀x∈r.tags,1≤x
 g2:∀x∈r.tags,x≤65535
theorem tz{l:List Int}{lo hi:Int}(h:qS l lo hi=true){x:Int}(hx:x∈l):lo≤x∧x≤hi:=by
 unfold qS at h
 rw[Bool.not_eq_true',List.any_eq_false]at h
 obtain⟨j,hj,rfl⟩:=List.getElem_of_mem hx
 have:=h j (List.mem_range.2 hj)
 simp only[nC,Bool.not_eq_true',decide_eq_false_iff_not,Decidable.not_not]at this
 rw[kT (List.getElem?_eq_getElem hj)]at this
 exact⟨this.1,this.2.1⟩
theorem tA{r:Rpt}(h:tw r=true):r.ok:=by
 simp only[tw,Bool.and_eq_true,decide_eq_true_eq]at h
 obtain⟨⟨a1,a2⟩,⟨b1,b2⟩,⟨c1,c2⟩,d,e⟩:=h
 exact⟨a1,a2,b1,b2,c1,c2,d,fun x hx=>(tz e hx).1,fun x hx=>(tz e hx).2⟩
def txt(l:List Int):ByteArray:=⟨(l.map fun n=>UInt8.ofNat n.toNat).toArray⟩
def B4(H:ab)(a:D):Option (D×ab):=(lY a).map fun d=>(d,H)
@[go_sem] theorem Oh (call : ah) (get : X → Option D) (H : ab) (x : X) : evO call get H (.bst x) = (get x).bind (B4 H) := (rfl)
theorem ng:∀l:List Int,aO byteOf (l.map (T.int .u8))=some (l.map fun n=>UInt8.ofNat n.toNat)
 | []=>rfl
 | x::l=>by simp only[List.map_cons,aO,byteOf,ng l,Option.bind_some,Option.map_some]
@[go_sem] theorem Kw (H : ab) (l : List Int) : B4 H (.t (.sl (l.map (T.int .u8)))) = some (.t (.str (txt l)), H) := by
 simp only[B4,lY,ng,Option.map_some,txt]
@[go_sem] theorem Ia (H : ab) (a b : ByteArray) : fc H .str false (some (.t (.str a))) (some (.t (.str b))) = some (.t (.bool (a == b)), H) := (rfl)
abbrev z4:List D:=[I 0,I 0,I 0,.nil]
theorem gu{l:List Int}{y:Int}{j:Nat}(h:j<l.length):nth (l++[y]) j=nth l j:=by
 rw[kT (show(l++[y])[j]?=some l[j]by rw[List.getElem?_append_left h];exact List.getElem?_eq_getElem h),kT (List.getElem?_eq_getElem h)]
theorem lQ(l:List Int)(y:Int):nth (l++[y]) l.length=y:=kT (by simp)
theorem tC{l:List Int}{lo hi y:Int}(h:qS l lo hi=true)(h1:∀x∈l,x<y)(h2:lo≤y)(h3:y≤hi):qS (l++[y]) lo hi=true:=by
 unfold qS at*
 rw[Bool.not_eq_true',List.any_eq_false]at*
 intro j hj
 rw[List.mem_range,List.length_append,List.length_singleton]at hj
 simp only[nC,Bool.not_eq_true',decide_eq_false_iff_not,Decidable.not_not]at*
 by_cases e:j=l.length
 · subst e
   rw[lQ]
   refine⟨h2,h3,fun h0=>?_⟩
   rw[gu (by omega)]
   exact h1 _ (fh (by omega))
 · have:=h j (List.mem_range.2 (by omega))
   rw[gu (by omega)]
   refine⟨this.1,this.2.1,fun h0=>?_⟩
   rw[gu (by omega)]
   exact this.2.2 h0
structure RI(L:List Int)(t:Int)(j:Nat):Prop where
 l:L.length=j
 t0:0≤t
 t9:t≤3*j
 b:∀x∈L,1≤x∧x≤t
 r:qS L 1 65535=true
theorem RI.nil:RI [] 0 0:=⟨rfl,by omega,by omega,fun x hx=>(by cases hx),rfl⟩
theorem RI.snoc{L:List Int}{t n:Int}{j:Nat}(h:RI L t j)(hj:j<100)(n0:0≤n)(n3:n<3):RI (L++[t+(1+n)]) (t+(1+n)) (j+1):=by
 have:=h.t0
 have:=h.t9
 refine⟨by simp[h.l],by omega,by omega,fun x hx=>?_,tC h.r (fun x hx=>by have:=h.b x hx;omega) (by omega) (by omega)⟩
 rcases List.mem_append.1 hx with hx | hx
 · have:=h.b x hx;omega
 · rw[List.mem_singleton.1 hx];omega
abbrev rpG(e:bf)(rd nb tm:Int)(L:List Int):ab:=[e.obj,.box z4,.box [I rd,I nb,I tm,.ref 4 0 L.length],.arr 1 false 0 [],.arr 1 false 0 ((L.map (T.int .i64)).map .t)]
def rpP(rd nb tm:Int)(n:Nat)(j:Nat)(s:St):Prop:=∃(e:bf) (L:List Int) (t:Int),s=⟨[.bp 0 0,.und,.bp 1 0,.bp 2 0,I t,I ((n:Int)-j)],rpG e rd nb tm L⟩∧e.dD∧RI L t j
theorem oJ{d:bf}(hd:d.dD)(rd nb tm:Int)(n:Nat)(hn:n≤10):∃(e:bf) (L:List Int) (t:Int),e.dD∧RI L t n∧∀z1:D,
 exS bS K.cC ⟨[.bp 0 0,z1,.bp 1 0,.bp 2 0,I 0,I n],rpG d rd nb tm []⟩=some (.exit 0,⟨[.bp 0 0,.und,.bp 1 0,.bp 2 0,I t,I 0],rpG e rd nb tm L⟩):=by
 have key:∀z1:D,∃r,exS bS K.cC ⟨[.bp 0 0,z1,.bp 1 0,.bp 2 0,I 0,I n],rpG d rd nb tm []⟩=some r∧
  ∃(e:bf) (L:List Int) (t:Int),r=(.exit 0,⟨[.bp 0 0,.und,.bp 1 0,.bp 2 0,I t,I 0],rpG e rd nb tm L⟩)∧e.dD∧RI L t n:=by
  intro z1
  refine xL (rpP rd nb tm n) n _ ?_ ?_ ?_
  · refine⟨d,[],0,?_,hd,.nil⟩
    simp only[Int.natCast_zero,Int.sub_zero];rfl
  · rintro j s hj ⟨e,L,t,rfl,l1,ri⟩
    obtain⟨v,e1,nx,l2,v1,v2⟩:=kX l1 3 (by omega) (by omega)
    refine .inl ⟨_,?_,e1,L++[t+(1+v)],t+(1+v),rfl,l2,ri.snoc (by omega) v1 v2⟩
    have g1:((n:Int)-j>0):=by omega
    have g2:(n:Int)-((j+1:Nat):Int)=(n:Int)-j-1:=by omega
    have:=ri.t0
    have:=ri.t9
    have:=ri.l
    simp only[rpG,g2,List.length_append,List.length_singleton,List.map_append,List.map_cons,List.map_nil]
    generalize (n:Int)-j=w at*
    simp (disch:=omega) only[go_sem,K.ch,↓reduceIte,nx,g1,List.map_append,List.map_cons,List.map_nil,Nat.reduceAdd,Nat.reduceSub]
  · rintro s ⟨e,L,t,rfl,l1,ri⟩
    refine⟨(.exit 0,⟨[.bp 0 0,.und,.bp 1 0,.bp 2 0,I t,I 0],rpG e rd nb tm L⟩),?_,by simp,e,L,t,rfl,l1,ri⟩
    simp only[rpG,Int.sub_self]
    simp (disch:=omega) only[go_sem,K.ch,↓reduceIte,Nat.reduceAdd,Nat.reduceSub]
 obtain⟨r,hr,e,L,t,rfl,a,b⟩:=key .und
 exact⟨e,L,t,a,b,fun z1=>by
  rw[← hr]
  show eb true _ _ ⟨cJ _ _,_⟩=eb true _ _ ⟨cJ _ _,_⟩
  simp (disch:=omega) only[go_sem,Nat.reduceAdd,Nat.reduceSub]⟩
structure oK(r:Rpt)(t:Int):Prop where
 r0:0≤r.reader
 r3:r.reader<3
 n0:0≤r.number
 n20:r.number<20
 t:r.time=t
 l:r.tags.length≤3
 r:qS r.tags 1 65535=true
theorem oK.ok{r:Rpt}{t:Int}(h:oK r t)(h0:0≤t)(h1:t≤2147483648):tw r=true:=by
 have:=h.t
 have:=h.r0
 have:=h.r3
 have:=h.n0
 have:=h.n20
 have:=h.l
 unfold tw
 rw[h.r,decide_eq_true (show 0≤r.reader∧r.reader≤31 by omega),decide_eq_true (show 0≤r.number∧r.number≤65535 by omega),decide_eq_true (show 0≤r.time∧r.time≤2147483648 by omega),decide_eq_true (show r.tags.length≤20 by omega)]
 rfl
theorem wB{d:bf}(hd:d.dD)(t:Int):∃(r:Rpt) (e:bf),e.dD∧oK r t∧
 bS 0 N.aH [.bp 0 0,I t] [d.obj]=some (.t r.e,[e.obj])∧bS 1 N.aH [.bp 0 0,I t] [d.obj]=some (.agg [I r.reader,I r.number,I r.time,.ref 1 0 r.tags.length],[e.obj,kn r.tags]):=by
 obtain⟨rd,e1,n1,l1,a0,a3⟩:=kX hd 3 (by omega) (by omega)
 obtain⟨nb,e2,n2,l2,b0,b20⟩:=kX l1 20 (by omega) (by omega)
 obtain⟨k,e3,n3,l3,k0,k4⟩:=kX l2 4 (by omega) (by omega)
 obtain⟨k,rfl⟩:=Int.eq_ofNat_of_zero_le k0
 obtain⟨e,L,tt,le,ri,lp⟩:=oJ l3 rd nb t k (by omega)
 have ll:=ri.l
 refine⟨⟨rd,nb,t,L⟩,e,le,⟨a0,a3,b0,b20,rfl,by simp only;omega,ri.r⟩,?_,?_⟩
 · refine aX K.b5 rfl ?_
   simp only[rpG,z4,List.length_nil,List.map_nil]at*
   clear ri ll
   simp (disch:=omega) only[go_sem,K.aH,↓reduceIte,n1,n2,n3,lp,Nat.reduceAdd,Nat.reduceSub]
 · refine aX K.b5 rfl ?_
   simp only[rpG,z4,List.length_nil,List.map_nil,kn]at*
   clear ri ll
   simp (disch:=omega) only[go_sem,K.aH,↓reduceIte,n1,n2,n3,lp,Nat.reduceAdd,Nat.reduceSub]
def qD(n:Int):Bool:= !decide (-1≤n∧n≤65535)
def qE(n:Int):Bool:= !decide (0≤n∧n≤2147483648)
def tD(x:Itk):Bool:=decide (x.last.length=32)&&(decide (x.lost.length=32)&&(!(x.last.any qD)&& !(x.lost.any qE)))
theorem B5(n:Int):bS 0 N.aA [I n] []=some (B (qD n),[]):=by
 refine aX K.cj rfl ?_
 have i:=sG n (-1) 65535
 unfold qD
 simp (disch:=omega) only[go_sem,K.aA,↓reduceIte,i,Nat.reduceAdd,Nat.reduceSub]
theorem B6(n:Int):bS 0 N.aB [I n] []=some (B (qE n),[]):=by
 refine aX K.ck rfl ?_
 have i:=sG n 0 2147483648
 unfold qE
 simp (disch:=omega) only[go_sem,K.aB,↓reduceIte,i,Nat.reduceAdd,Nat.reduceSub]
theorem oL(x:Itk)(h1:x.last.length≤1000000)(h2:x.lost.length≤1000000):bS 0 N.ay [.t x.e] []=some (B (tD x),[]):=by
 refine aX K.cQ rfl ?_
 have c1:bS 0 N.ag [.t (tL x.last),.fn N.aA []] []=some (B (x.last.any qD),[]):=fj x.last (by omega) N.aA [] qD (fun n _=>B5 n)
 have c2:bS 0 N.ag [.t (tL x.lost),.fn N.aB []] []=some (B (x.lost.any qE),[]):=fj x.lost (by omega) N.aB [] qE (fun n _=>B6 n)
 unfold tD
 generalize x.last.any qD=b1 at*
 generalize x.lost.any qE=b2 at*
 obtain⟨last,lost⟩:=x
 simp only at*
 by_cases a1:last.length=32
 · by_cases a2:lost.length=32
   · cases b1 with
     | true=>simp (disch:=omega) only[go_sem,K.ay,↓reduceIte,a1,a2,c1,decide_true,Bool.true_and,Bool.not_true,Bool.false_and,Nat.reduceAdd,Nat.reduceSub]
     | false=>simp (disch:=omega) only[go_sem,K.ay,↓reduceIte,a1,a2,c1,c2,decide_true,Bool.true_and,Bool.not_false,Nat.reduceAdd,Nat.reduceSub]
   · have a3:¬(lost.length:Int)=32:=by omega
     simp (disch:=omega) only[go_sem,K.ay,↓reduceIte,a1,a2,a3,decide_true,decide_false,Bool.true_and,Bool.false_and,Nat.reduceAdd,Nat.reduceSub]
 · have a3:¬(last.length:Int)=32:=by omega
   simp (disch:=omega) only[go_sem,K.ay,↓reduceIte,a1,a3,decide_false,Bool.false_and,Nat.reduceAdd,Nat.reduceSub]
theorem oM(x:Itk)(h1:x.last.length≤1000000)(h2:x.lost.length≤1000000):bS 0 N.ak [.t x.e] []=some (B (tD x),[]):=by
 refine aX K.cD rfl ?_
 unfold tD
 by_cases a1:x.last.length=32
 · by_cases a2:x.lost.length=32
   · have lp:=fun z0 z2:D=>ke (gc:=true) (dead:=[0,2]) (c:=K.aK) (vs:=[z0,.bp 0 0,z2,I 0]) (H:=[.box [.t (tL x.last),.t (tL x.lost)]])
      (fun j=>⟨[.und,.bp 0 0,.und,I j],[.box [.t (tL x.last),.t (tL x.lost)]]⟩) 32 (fun j=>qD (nth x.last j)||qE (nth x.lost j))
      (fun j=>(.ret,⟨[.und,.bp 0 0,B false,I j],[.box [.t (tL x.last),.t (tL x.lost)]]⟩))
      (.exit 0,⟨[.und,.bp 0 0,.und,I 32],[.box [.t (tL x.last),.t (tL x.lost)]]⟩) rfl
      (fun j hj hq=>by
       have ex:(x.last.map (T.int .i64))[j]?=some (.int .i64 (nth x.last j)):=cN _ (by omega)
       have ey:(x.lost.map (T.int .i64))[j]?=some (.int .i64 (nth x.lost j)):=cN _ (by omega)
       simp only[qD,qE,Bool.or_eq_false_iff,Bool.not_eq_false',decide_eq_true_eq]at hq
       obtain⟨⟨q1,q2⟩,q3,q4⟩:=hq
       obtain⟨last,lost⟩:=x
       simp only at*
       generalize nth last j=a at*
       generalize nth lost j=b at*
       simp (disch:=omega) only[go_sem,K.aK,↓reduceIte,ex,ey,Nat.reduceAdd,Nat.reduceSub]
       )
      (fun j hj hq=>by
       have ex:(x.last.map (T.int .i64))[j]?=some (.int .i64 (nth x.last j)):=cN _ (by omega)
       have ey:(x.lost.map (T.int .i64))[j]?=some (.int .i64 (nth x.lost j)):=cN _ (by omega)
       simp only[qD,qE,Bool.or_eq_true,Bool.not_eq_true',decide_eq_false_iff_not]at hq
       obtain⟨last,lost⟩:=x
       simp only at*
       refine⟨?_,by simp⟩
       generalize nth last j=a at*
       generalize nth lost j=b at*
       by_cases b1:a< -1
       · simp (disch:=omega) only[go_sem,K.aK,↓reduceIte,ex,ey,b1,Nat.reduceAdd,Nat.reduceSub]
       · by_cases b2:a>65535
         · simp (disch:=omega) only[go_sem,K.aK,↓reduceIte,ex,ey,b1,b2,Nat.reduceAdd,Nat.reduceSub]
         · by_cases b3:b<0
           · simp (disch:=omega) only[go_sem,K.aK,↓reduceIte,ex,ey,b1,b2,b3,Nat.reduceAdd,Nat.reduceSub]
           · have b4:b>2147483648:=by omega
             simp (disch:=omega) only[go_sem,K.aK,↓reduceIte,ex,ey,b1,b2,b3,b4,Nat.reduceAdd,Nat.reduceSub]
       )
      (by
       obtain⟨last,lost⟩:=x
       simp (disch:=omega) only[go_sem,K.aK,↓reduceIte,Nat.reduceAdd,Nat.reduceSub]
       rfl
       ) (by simp)
     have lp2:∀z0 z2:D,exS bS K.dt _=_:=lp
     clear lp
     have e:(!(x.last.any qD)&& !(x.lost.any qE))= !((List.range 32).any fun j=>qD (nth x.last j)||qE (nth x.lost j)):=by
      rw[← sD x.last,←sD x.lost,a1,a2,←Bool.not_or]
      congr 1
      rw[Bool.eq_iff_iff]
      simp only[Bool.or_eq_true,List.any_eq_true]
      constructor
      · rintro (⟨j,hj,h⟩ | ⟨j,hj,h⟩)
        · exact⟨j,hj,.inl h⟩
        · exact⟨j,hj,.inr h⟩
      · rintro ⟨j,hj,h | h⟩
        · exact .inl ⟨j,hj,h⟩
        · exact .inr ⟨j,hj,h⟩
     rw[e,decide_eq_true a1,decide_eq_true a2]
     clear e
     have a3:(x.last.length:Int)=32:=by omega
     have a4:(x.lost.length:Int)=32:=by omega
     cases hq:(List.range 32).any (fun j=>qD (nth x.last j)||qE (nth x.lost j))with
     | true=>
       rw[hq]at lp2
       simp only[if_true]at lp2
       generalize kd 32 _=j at*
       obtain⟨last,lost⟩:=x
       simp only at*
       simp (disch:=omega) only[go_sem,K.ak,↓reduceIte,lp2,a1,a2,a3,a4,Bool.true_and,Bool.not_true,Nat.reduceAdd,Nat.reduceSub]
     | false=>
       rw[hq]at lp2
       simp only[Bool.false_eq_true,if_false]at lp2
       obtain⟨last,lost⟩:=x
       simp only at*
       simp (disch:=omega) only[go_sem,K.ak,↓reduceIte,lp2,a1,a2,a3,a4,Bool.true_and,Bool.not_false,Nat.reduceAdd,Nat.reduceSub]
   · have a3:¬(x.lost.length:Int)=32:=by omega
     rw[decide_eq_false a2]
     obtain⟨last,lost⟩:=x
     simp only at*
     simp (disch:=omega) only[go_sem,K.ak,↓reduceIte,a1,a3,Bool.false_and,Bool.and_false,Nat.reduceAdd,Nat.reduceSub]
 · have a3:¬(x.last.length:Int)=32:=by omega
   rw[decide_eq_false a1]
   obtain⟨last,lost⟩:=x
   simp only at*
   simp (disch:=omega) only[go_sem,K.ak,↓reduceIte,a3,Bool.false_and,Nat.reduceAdd,Nat.reduceSub]
def wC:Itk:=⟨List.replicate 32 (-1),List.replicate 32 0⟩
theorem nh(n:Nat)(v:Int):(List.replicate n v).map (T.int .i64)=List.replicate n (T.int .i64 v):=List.map_replicate
theorem oN:bS 0 N.bM [] []=some (.t wC.e,[]):=by
 refine aX K.fo rfl ?_
 have rp:bS 1 N.au [.t (.sl [.int .i64 (-1)]),I 32] []=_:=sV (-1) 32 (by omega) (by omega)
 have r2:(List.replicate 32 (0:Int)).map (T.int .i64)=List.replicate 32 (T.int .i64 0):=nh 32 0
 have r3:List.replicate 32 (I (-1))=((List.replicate 32 (-1:Int)).map (T.int .i64)).map .t:=by rw[nh,List.map_replicate]
 rw[r3]at rp
 have l1:(List.replicate 32 (-1:Int)).length=32:=List.length_replicate
 unfold wC
 simp only[Itk.e,tL,r2]
 generalize List.replicate 32 (-1:Int)=q at*
 simp (disch:=omega) only[go_sem,K.bM,↓reduceIte,rp,l1,Nat.reduceAdd,Nat.reduceSub]
 rfl
theorem oO:bS 0 N.bJ [] []=some (.t wC.e,[]):=by
 refine aX K.eI rfl ?_
 have lp:exS bS K.fU ⟨[.bp 0 0,.bp 1 0,I 0],[.box [.nil,.nil],.box [.ref 2 0 0,.ref 3 0 0],kn (List.replicate 0 (-1)),kn (List.replicate 0 0)]⟩=
  some (.exit 0,⟨[.bp 0 0,.bp 1 0,I 32],[.box [.nil,.nil],.box [.ref 2 0 32,.ref 3 0 32],kn (List.replicate 32 (-1)),kn (List.replicate 32 0)]⟩):=by
  refine Am (fun j=>⟨[.bp 0 0,.bp 1 0,I j],[.box [.nil,.nil],.box [.ref 2 0 j,.ref 3 0 j],kn (List.replicate j (-1)),kn (List.replicate j 0)]⟩) 32 rfl ?_ ?_ (by simp)
  · intro j hj
    have s1:List.replicate (j+1) (-1:Int)=List.replicate j (-1)++[-1]:=List.replicate_succ'
    have s2:List.replicate (j+1) (0:Int)=List.replicate j 0++[0]:=List.replicate_succ'
    have l1:(List.replicate j (-1:Int)).length=j:=List.length_replicate
    have l2:(List.replicate j (0:Int)).length=j:=List.length_replicate
    rw[s1,s2]
    generalize List.replicate j (-1:Int)=a at*
    generalize List.replicate j (0:Int)=b at*
    simp only[kn]at*
    simp (disch:=omega) only[go_sem,K.dG,↓reduceIte,l1,l2,List.map_append,List.map_cons,List.map_nil,Nat.reduceAdd,Nat.reduceSub]
  · generalize List.replicate 32 (-1:Int)=a at*
    generalize List.replicate 32 (0:Int)=b at*
    simp only[kn]at*
    simp (disch:=omega) only[go_sem,K.dG,↓reduceIte,Nat.reduceAdd,Nat.reduceSub]
    rfl
 have l1:(List.replicate 32 (-1:Int)).length=32:=List.length_replicate
 have l2:(List.replicate 32 (0:Int)).length=32:=List.length_replicate
 unfold wC
 simp only[Itk.e,tL]at*
 rw[show List.replicate 0 (-1:Int)=[]from rfl,show List.replicate 0 (0:Int)=[]from rfl]at lp
 generalize List.replicate 32 (-1:Int)=a at*
 generalize List.replicate 32 (0:Int)=b at*
 simp only[kn,List.map_nil]at*
 simp (disch:=omega) only[go_sem,K.bJ,↓reduceIte,lp,l1,l2,Nat.reduceAdd,Nat.reduceSub]
def fW(x:Itk)(r:Rpt):Int:=nth x.last r.reader.toNat
def stepOf(x:Itk)(r:Rpt):Int:=(r.number-fW x r+65536) % 65536
def pR(x:Itk)(r:Rpt):Itk:=⟨x.last.set r.reader.toNat r.number,if 0≤fW x r then x.lost.set r.reader.toNat (min (nth x.lost r.reader.toNat+stepOf x r-1) 2147483648)else x.lost⟩
def hU(x:Itk)(r:Rpt):Itk×Int:=
 if tD x=false then(x,10)else if tw r=false then(x,6)
 else if 0≤fW x r∧(stepOf x r=0∨32768≤stepOf x r)then(x,42)else(pR x r,0)
structure Itk.ok(x:Itk):Prop where
 a:x.last.length=32
 b:x.lost.length=32
 c:∀n∈x.last, -1≤n∧n≤65535
 d:∀n∈x.lost,0≤n∧n≤2147483648
theorem tE{x:Itk}(h:tD x=true):x.ok:=by
 simp only[tD,Bool.and_eq_true,decide_eq_true_eq,Bool.not_eq_true',List.any_eq_false,qD,qE,decide_eq_false_iff_not,Decidable.not_not]at h
 exact⟨h.1,h.2.1,h.2.2.1,h.2.2.2⟩
theorem kZ{x:Itk}{r:Rpt}(hx:x.ok)(hr:r.ok): -1≤fW x r∧fW x r≤65535∧(r.number-fW x r+65536).tmod 65536=stepOf x r∧0≤stepOf x r∧stepOf x r<65536∧0≤nth x.lost r.reader.toNat∧nth x.lost r.reader.toNat≤2147483648:=by
 have a1:=hr.r1;have a2:=hr.r2;have n1:=hr.n1;have n2:=hr.n2
 have h1:=hx.a;have h2:=hx.b
 have l:=hx.c _ (fh (l:=x.last) (j:=r.reader.toNat) (by omega))
 have m:=hx.d _ (fh (l:=x.lost) (j:=r.reader.toNat) (by omega))
 have e:(r.number-fW x r+65536).tmod 65536=stepOf x r:=by
  unfold stepOf
  exact Int.tmod_eq_emod_of_nonneg (by unfold fW;omega)
 refine⟨l.1,l.2,e,?_,?_,m.1,m.2⟩<;>unfold stepOf<;>omega
theorem lR(x:Itk)(r:Rpt)(h1:x.last.length≤1000000)(h2:x.lost.length≤1000000)(h3:r.tags.length≤1000000):
 bS 0 N.a8 [.t x.e,.t r.e] []=some (.tup [.t (hU x r).1.e,I (hU x r).2],[]):=by
 refine aX K.gr rfl ?_
 have vi:=oL x h1 h2
 have vr:=qC r h3
 unfold hU
 cases hi:tD x with
 | false=>
   rw[hi]at vi
   rw[if_pos rfl]
   obtain⟨last,lost⟩:=x
   obtain⟨r1,r2,r3,r4⟩:=r
   simp only at*
   simp (disch:=omega) only[go_sem,K.a8,↓reduceIte,vi,Nat.reduceAdd,Nat.reduceSub]
 | true=>
   rw[hi]at vi
   rw[if_neg (by simp)]
   cases hr:tw r with
   | false=>
     rw[hr]at vr
     rw[if_pos rfl]
     obtain⟨last,lost⟩:=x
     obtain⟨r1,r2,r3,r4⟩:=r
     simp only at*
     simp (disch:=omega) only[go_sem,K.a8,↓reduceIte,vi,vr,Nat.reduceAdd,Nat.reduceSub]
   | true=>
     rw[hr]at vr
     rw[if_neg (by simp)]
     have xo:=tE hi
     have ro:=tA hr
     obtain⟨s1,s2,s3,s4,s5,s6,s7⟩:=kZ xo ro
     have a1:=ro.r1;have a2:=ro.r2;have n1:=ro.n1;have n2:=ro.n2
     have q1:=xo.a;have q2:=xo.b
     obtain⟨i,hi2⟩:=Int.eq_ofNat_of_zero_le a1
     have ex:(x.last.map (T.int .i64))[i]?=some (.int .i64 (nth x.last i)):=cN _ (by omega)
     have ey:(x.lost.map (T.int .i64))[i]?=some (.int .i64 (nth x.lost i)):=cN _ (by omega)
     have c1:=m9 x.last h1
     have c2:=m9 x.lost h2
     have it:r.reader.toNat=i:=by omega
     unfold pR
     generalize hs:stepOf x r=st at*
     unfold fW at*
     rw[it]at*
     obtain⟨last,lost⟩:=x
     obtain⟨r1,r2,r3,r4⟩:=r
     simp only at*
     subst hi2
     simp only[Int.toNat_natCast]at*
     clear hs hi hr
     have w1:=Kv (a:=nth lost i+st) (by omega) (by omega)
     by_cases b1:0≤nth last i
     · by_cases b2:st=0
       · rw[if_pos ⟨b1,.inl b2⟩]
         simp (disch:=omega) only[go_sem,K.a8,↓reduceIte,vi,vr,s3,b1,b2,Nat.reduceAdd,Nat.reduceSub]
       · by_cases b3:32768≤st
         · rw[if_pos ⟨b1,.inr b3⟩]
           simp (disch:=omega) only[go_sem,K.a8,↓reduceIte,vi,vr,s3,b1,b2,b3,Nat.reduceAdd,Nat.reduceSub]
         · rw[if_neg (by rintro ⟨_,h | h⟩;exact b2 h;exact b3 h),if_pos b1]
           have w2:=Kv (a:=nth lost i+st-1) (by omega) (by omega)
           simp only[kn]at*
           simp (disch:=omega) only[go_sem,K.a8,↓reduceIte,vi,vr,s3,b1,b2,b3,w1,w2,c1,c2,Nat.reduceAdd,Nat.reduceSub]
     · rw[if_neg (fun h=>b1 h.1),if_neg b1]
       simp only[kn]at*
       simp (disch:=omega) only[go_sem,K.a8,↓reduceIte,vi,vr,s3,b1,c1,c2,Nat.reduceAdd,Nat.reduceSub]
theorem qF(x:Itk)(h1:x.last.length≤1000000)(h2:x.lost.length≤1000000):bS 1 N.bV [.t x.e] []=some (.agg [.ref 0 0 x.last.length,.ref 1 0 x.lost.length],[kn x.last,kn x.lost]):=by
 refine aX K.ft rfl ?_
 obtain⟨last,lost⟩:=x
 simp only[kn]at*
 simp (disch:=omega) only[go_sem,K.bV,↓reduceIte,Nat.reduceAdd,Nat.reduceSub]
theorem lS(x:Itk)(r:Rpt)(h1:x.last.length≤1000000)(h2:x.lost.length≤1000000)(h3:r.tags.length≤1000000):
 bS 0 N.aV [.t x.e,.t r.e] []=some (.tup [.t (hU x r).1.e,I (hU x r).2],[]):=by
 refine aX K.fp rfl ?_
 have vi:=oM x h1 h2
 have vr:=tx r h3
 have cp:=qF x h1 h2
 unfold hU
 cases hi:tD x with
 | false=>
   rw[hi]at vi
   rw[if_pos rfl]
   obtain⟨last,lost⟩:=x
   obtain⟨r1,r2,r3,r4⟩:=r
   simp only[kn]at*
   simp (disch:=omega) only[go_sem,K.aV,↓reduceIte,cp,vi,Nat.reduceAdd,Nat.reduceSub]
 | true=>
   rw[hi]at vi
   rw[if_neg (by simp)]
   cases hr:tw r with
   | false=>
     rw[hr]at vr
     rw[if_pos rfl]
     obtain⟨last,lost⟩:=x
     obtain⟨r1,r2,r3,r4⟩:=r
     simp only[kn]at*
     simp (disch:=omega) only[go_sem,K.aV,↓reduceIte,cp,vi,vr,Nat.reduceAdd,Nat.reduceSub]
   | true=>
     rw[hr]at vr
     rw[if_neg (by simp)]
     have xo:=tE hi
     have ro:=tA hr
     obtain⟨s1,s2,s3,s4,s5,s6,s7⟩:=kZ xo ro
     have a1:=ro.r1;have a2:=ro.r2;have n1:=ro.n1;have n2:=ro.n2
     have q1:=xo.a;have q2:=xo.b
     obtain⟨i,hi2⟩:=Int.eq_ofNat_of_zero_le a1
     have ex:(x.last.map (T.int .i64))[i]?=some (.int .i64 (nth x.last i)):=cN _ (by omega)
     have ey:(x.lost.map (T.int .i64))[i]?=some (.int .i64 (nth x.lost i)):=cN _ (by omega)
     have it:r.reader.toNat=i:=by omega
     unfold pR
     generalize hs:stepOf x r=st at*
     unfold fW at*
     rw[it]at*
     obtain⟨last,lost⟩:=x
     obtain⟨r1,r2,r3,r4⟩:=r
     simp only at*
     subst hi2
     simp only[Int.toNat_natCast]at*
     clear hs hi hr
     have w1:=Kv (a:=nth lost i+st) (by omega) (by omega)
     simp only[kn]at*
     by_cases b1:0≤nth last i
     · by_cases b2:st=0
       · rw[if_pos ⟨b1,.inl b2⟩]
         simp (disch:=omega) only[go_sem,K.aV,↓reduceIte,cp,vi,vr,s3,b1,b2,Nat.reduceAdd,Nat.reduceSub]
       · by_cases b3:32768≤st
         · rw[if_pos ⟨b1,.inr b3⟩]
           simp (disch:=omega) only[go_sem,K.aV,↓reduceIte,cp,vi,vr,s3,b1,b2,b3,Nat.reduceAdd,Nat.reduceSub]
         · rw[if_neg (by rintro ⟨_,h | h⟩;exact b2 h;exact b3 h),if_pos b1]
           have w2:=Kv (a:=nth lost i+st-1) (by omega) (by omega)
           simp only[kn]at*
           simp (disch:=omega) only[go_sem,K.aV,↓reduceIte,cp,vi,vr,s3,b1,b2,b3,w1,w2,Nat.reduceAdd,Nat.reduceSub]
     · rw[if_neg (fun h=>b1 h.1),if_neg b1]
       simp only[kn]at*
       simp (disch:=omega) only[go_sem,K.aV,↓reduceIte,cp,vi,vr,s3,b1,Nat.reduceAdd,Nat.reduceSub]
theorem Ib(H:ab)(a b c d e f g h i:Int):kt H 1 [I a,I b,I c,I d,I e,I f,I g,I h,I i]=some (.t (.sl [.int .i64 a,.int .i64 b,.int .i64 c,.int .i64 d,.int .i64 e,.int .i64 f,.int .i64 g,.int .i64 h,.int .i64 i]),H):=
 (eD H 1 [.int .i64 a,.int .i64 b,.int .i64 c,.int .i64 d,.int .i64 e,.int .i64 f,.int .i64 g,.int .i64 h,.int .i64 i]).trans rfl
theorem fF(x:Itk)(h1:x.last.length≤1000000)(h2:x.lost.length≤1000000):bS 0 N.aD [.t x.e,.t x.e] []=some (B true,[]):=by
 refine aX K.cP rfl ?_
 have s1:=sF x.last x.last (by omega)
 have s2:=sF x.lost x.lost (by omega)
 simp only[decide_true]at s1 s2
 obtain⟨last,lost⟩:=x
 simp only at*
 simp (disch:=omega) only[go_sem,K.aD,↓reduceIte,s1,s2,Nat.reduceAdd,Nat.reduceSub]
theorem kj(x:Itk)(r:Rpt):(hU x r).1.last.length=x.last.length∧(hU x r).1.lost.length=x.lost.length:=by
 unfold hU pR
 repeat' split
 all_goals first | exact⟨rfl,rfl⟩ | (constructor<;>simp)
abbrev ttH(raw:Itk)(r:Rpt)(e:bf)(x:Itk):ab:=[.box [.t (tL raw.last),.t (tL raw.lost)],.box [I r.reader,I r.number,I r.time,.t (tL r.tags)],e.obj,.box [.t (tL x.last),.t (tL x.lost)]]
def ttP(raw:Itk)(r:Rpt)(n:Nat)(j:Nat)(s:St):Prop:=∃(e:bf) (x:Itk),s=⟨[.und,.und,.und,.bp 0 0,.bp 1 0,.und,.bp 2 0,.bp 3 0,I ((n:Int)-j),.und,.und,.und,.und,.und,.und,.und,.und,.und,.und,.und,.und,.und],ttH raw r e x⟩∧e.dD∧x.last.length=32∧x.lost.length=32
theorem B7{d:bf}(hd:d.dD)(raw:Itk)(r:Rpt)(x0:Itk)(k1:x0.last.length=32)(k2:x0.lost.length=32)(n:Nat)(hn:n≤20):∃(e:bf) (x:Itk),e.dD∧x.last.length=32∧x.lost.length=32∧∀z0 z1 z2 z5 z9 z10 z11 z12 z13 z14 z15 z16 z17 z18 z19 z20 z21:D,
 exS bS K.cO ⟨[z0,z1,z2,.bp 0 0,.bp 1 0,z5,.bp 2 0,.bp 3 0,I n,z9,z10,z11,z12,z13,z14,z15,z16,z17,z18,z19,z20,z21],ttH raw r d x0⟩=
  some (.exit 0,⟨[.und,.und,.und,.bp 0 0,.bp 1 0,.und,.bp 2 0,.bp 3 0,I 0,.und,.und,.und,.und,.und,.und,.und,.und,.und,.und,.und,.und,.und],ttH raw r e x⟩):=by
 have key:∀z0 z1 z2 z5 z9 z10 z11 z12 z13 z14 z15 z16 z17 z18 z19 z20 z21:D,∃q,exS bS K.cO ⟨[z0,z1,z2,.bp 0 0,.bp 1 0,z5,.bp 2 0,.bp 3 0,I n,z9,z10,z11,z12,z13,z14,z15,z16,z17,z18,z19,z20,z21],ttH raw r d x0⟩=some q∧
  ∃(e:bf) (x:Itk),q=(.exit 0,⟨[.und,.und,.und,.bp 0 0,.bp 1 0,.und,.bp 2 0,.bp 3 0,I 0,.und,.und,.und,.und,.und,.und,.und,.und,.und,.und,.und,.und,.und],ttH raw r e x⟩)∧e.dD∧x.last.length=32∧x.lost.length=32:=by
  intro z0 z1 z2 z5 z9 z10 z11 z12 z13 z14 z15 z16 z17 z18 z19 z20 z21
  refine xL (ttP raw r n) n _ ?_ ?_ ?_
  · refine⟨d,x0,?_,hd,k1,k2⟩
    simp only[Int.natCast_zero,Int.sub_zero];rfl
  · rintro j s hj ⟨e,x,rfl,l1,a1,a2⟩
    obtain⟨t,e1,nx,l2,t0,t9⟩:=kX l1 100 (by omega) (by omega)
    obtain⟨y,e2,l3,ym,yx, -⟩:=wB l2 t
    obtain⟨nb,e3,ox,l4, -⟩:=O7 l3 [0,1,2,65535,65534,40000,100,32767,32768] (by simp) (by simp)
    have yl:=ym.l
    have tk:=lR x ⟨y.reader,nb,y.time,y.tags⟩ (by omega) (by omega) (by simp only;omega)
    have rk:=lS x ⟨y.reader,nb,y.time,y.tags⟩ (by omega) (by omega) (by simp only;omega)
    obtain⟨b1,b2⟩:=kj x ⟨y.reader,nb,y.time,y.tags⟩
    generalize hU x ⟨y.reader,nb,y.time,y.tags⟩=q at*
    obtain⟨x2,ee⟩:=q
    simp only at*
    have si:=fF x2 (by omega) (by omega)
    have v1:=oL x2 (by omega) (by omega)
    have v2:=oM x2 (by omega) (by omega)
    refine .inl ⟨_,?_,e3,x2,rfl,l4,by omega,by omega⟩
    have g1:((n:Int)-j>0):=by omega
    have g3:((n:Int)-j≤20):=by omega
    have g2:(n:Int)-((j+1:Nat):Int)=(n:Int)-j-1:=by omega
    simp only[g2,tL,List.map_cons,List.map_nil]at*
    generalize tD x2=bb at*
    clear ym b1 b2
    obtain⟨x21,x22⟩:=x2
    obtain⟨xa,xb⟩:=x
    obtain⟨y1,y2,y3,y4⟩:=y
    obtain⟨ra,rb⟩:=raw
    obtain⟨r1,r2,r3,r4⟩:=r
    simp only[ttH]at*
    generalize (n:Int)-j=w at*
    simp (disch:=omega) only[go_sem,K.cB,↓reduceIte,Ib,nx,yx,ox,tk,rk,si,v1,v2,g1,bne_self_eq_false,beq_self_eq_true,Bool.not_true,Nat.reduceAdd,Nat.reduceSub]
  · rintro s ⟨e,x,rfl,l1,a1,a2⟩
    refine⟨(.exit 0,⟨[.und,.und,.und,.bp 0 0,.bp 1 0,.und,.bp 2 0,.bp 3 0,I 0,.und,.und,.und,.und,.und,.und,.und,.und,.und,.und,.und,.und,.und],ttH raw r e x⟩),?_,by simp,e,x,rfl,l1,a1,a2⟩
    simp only[ttH,Int.sub_self]
    simp (disch:=omega) only[go_sem,K.cB,↓reduceIte,Nat.reduceAdd,Nat.reduceSub]
 obtain⟨q,hr,e,x,rfl,a,b,c⟩:=key .und .und .und .und .und .und .und .und .und .und .und .und .und .und .und .und .und
 exact⟨e,x,a,b,c,fun z0 z1 z2 z5 z9 z10 z11 z12 z13 z14 z15 z16 z17 z18 z19 z20 z21=>by
  rw[← hr]
  show eb true _ _ ⟨cJ _ _,_⟩=eb true _ _ ⟨cJ _ _,_⟩
  simp (disch:=omega) only[go_sem,Nat.reduceAdd,Nat.reduceSub]⟩
theorem wD(aw:bS 0 N.bI [] []=some (B true,[]))(li:List Int)(raw:Itk)(r:Rpt):bS 0 N.aJ [.t (tL li),.t raw.e,.t r.e] []=some (B true,[]):=by
 refine aX K.c9 rfl ?_
 have lo:=vL li
 by_cases c:li.length≤400
 · rw[decide_eq_true c]at lo
   by_cases c1:raw.last.length>100
   · obtain⟨ra,rb⟩:=raw
     obtain⟨r1,r2,r3,r4⟩:=r
     simp only at*
     simp (disch:=omega) only[go_sem,K.aJ,↓reduceIte,lo,c1,aw,Nat.reduceAdd,Nat.reduceSub]
   · by_cases c2:raw.lost.length>100
     · obtain⟨ra,rb⟩:=raw
       obtain⟨r1,r2,r3,r4⟩:=r
       simp only at*
       simp (disch:=omega) only[go_sem,K.aJ,↓reduceIte,lo,c1,c2,aw,Nat.reduceAdd,Nat.reduceSub]
     · by_cases c3:r.tags.length>100
       · obtain⟨ra,rb⟩:=raw
         obtain⟨r1,r2,r3,r4⟩:=r
         simp only at*
         simp (disch:=omega) only[go_sem,K.aJ,↓reduceIte,lo,c1,c2,c3,aw,Nat.reduceAdd,Nat.reduceSub]
       · have ro:=HQ li
         have d0:(bf.mk li 0).dD:=c
         generalize (bf.mk li 0)=d at*
         have s1:=oN
         have s2:=oO
         have z1:wC.last.length=32:=rfl
         have z2:wC.lost.length=32:=rfl
         have si:=fF wC (by omega) (by omega)
         have v1:=oL raw (by omega) (by omega)
         have v2:=oM raw (by omega) (by omega)
         generalize tD raw=bb at*
         obtain⟨n,e1,nx,l1,n0,n9⟩:=kX d0 12 (by omega) (by omega)
         obtain⟨n,rfl⟩:=Int.eq_ofNat_of_zero_le n0
         obtain⟨e,x,le,x1,x2,lp⟩:=B7 l1 raw r wC z1 z2 n (by omega)
         have t1:=lR raw r (by omega) (by omega) (by omega)
         have t2:=lS raw r (by omega) (by omega) (by omega)
         have t3:=lR x r (by omega) (by omega) (by omega)
         have t4:=lS x r (by omega) (by omega) (by omega)
         obtain⟨b1,b2⟩:=kj raw r
         obtain⟨b3,b4⟩:=kj x r
         have u1:=fF (hU raw r).1 (by omega) (by omega)
         have u2:=fF (hU x r).1 (by omega) (by omega)
         generalize hU raw r=q1 at*
         generalize hU x r=q2 at*
         obtain⟨⟨q11,q12⟩,qe⟩:=q1
         obtain⟨⟨q21,q22⟩,qf⟩:=q2
         obtain⟨i1,i2⟩:=wC
         obtain⟨xa,xb⟩:=x
         obtain⟨ra,rb⟩:=raw
         obtain⟨r1,r2,r3,r4⟩:=r
         simp only[ttH]at*
         simp (disch:=omega) only[go_sem,K.aJ,↓reduceIte,lo,c1,c2,c3,aw,ro,s1,s2,si,v1,v2,nx,lp,t1,t2,t3,t4,u1,u2,bne_self_eq_false,beq_self_eq_true,decide_true,Bool.not_true,Nat.reduceAdd,Nat.reduceSub]
 · rw[decide_eq_false c]at lo
   obtain⟨ra,rb⟩:=raw
   obtain⟨r1,r2,r3,r4⟩:=r
   simp (disch:=omega) only[go_sem,K.aJ,↓reduceIte,lo,aw,Nat.reduceAdd,Nat.reduceSub]
end Go.Ev
