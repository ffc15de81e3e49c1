/- Parts of the proof: see the text that holds the theorem. -/
import Derived.Test.YtbajpjfhkieglaaZ2
set_option linter.all false
set_option maxRecDepth 100000
namespace Go.Ev
open Go
abbrev I(n:Int):D:= .t (.int .i64 n)
abbrev B(b:Bool):D:= .t (.bool b)
def pO{β:Type}(call:ah):List R→List D→List D→ab→(List D→List D→ab→Option β)→Option β
 | rs,L,vs,H,K=>(evR call rs L vs H).bind fun q=>K q.1 q.2.1 q.2.2
def xN{β:Type}(call:ah)(rs:List R)(d:Option Nat)(L vs:List D)(K:List D→List D→ab→Option β)(p:D×ab):Option β:=
 pO call rs (p.1::L) (wr vs d p.1) p.2 K
@[go_sem] theorem Hg {β : Type} (call : ah) (rs : List R) (d : Option Nat) (L vs : List D) (K : List D → List D → ab → Option β) (x : D) (H : ab) :
 xN call rs d L vs K (x,H)=pO call rs (x::L) (wr vs d x) H K:=(rfl)
@[go_sem] theorem Hh {β : Type} (call : ah) (L vs : List D) (H : ab) (K : List D → List D → ab → Option β) : pO call [] L vs H K = K L vs H := (rfl)
@[go_sem] theorem Ee {β : Type} (call : ah) (o : O) (d : Option Nat) (rs : List R) (L vs : List D) (H : ab) (K : List D → List D → ab → Option β) :
 pO call (⟨o,d,none⟩::rs) L vs H K=(evO call (X.get vs L) H o).bind (xN call rs d L vs K):=by
 simp[pO,evR,aG,Option.bind_assoc]
 rfl
def gate{β:Type}(c:Option D)(w:Bool)(a b:Option β):Option β:=match c with
 | some (.t (.bool x))=>if x=w then a else b
 | some (.tup [])=>b
 | _=>none
@[congr] theorem Ba {β : Type} {c c' : Option D} {w : Bool} {a b : Option β} (h : True → c = c') : gate c w a b = gate c' w a b := by rw [h trivial]
@[go_sem] theorem Hi {β : Type} (p : Prop) [Decidable p] (a b : Option β) : gate (some (.t (.bool (decide p)))) true a b = if p then a else b := by
 by_cases h:p<;>simp[gate,h]
@[go_sem] theorem Ef {β : Type} (p : Prop) [Decidable p] (a b : Option β) : gate (some (.t (.bool (decide p)))) false a b = if p then b else a := by
 by_cases h:p<;>simp[gate,h]
@[go_sem] theorem Eg {β : Type} (x : Bool) (a b : Option β) : gate (some (.t (.bool x))) true a b = if x = true then a else b := (rfl)
@[go_sem] theorem Bb {β : Type} (x : Bool) (a b : Option β) : gate (some (.t (.bool x))) false a b = if x = true then b else a := by cases x <;> rfl
@[go_sem] theorem Eh {β : Type} (w : Bool) (a b : Option β) : gate (some (.tup [])) w a b = b := (rfl)
@[go_sem] theorem Ei {β : Type} (call : ah) (o : O) (d : Option Nat) (k : Nat) (w : Bool) (rs : List R) (L vs : List D) (H : ab) (K : List D → List D → ab → Option β) :
 pO call (⟨o,d,some (k,w)⟩::rs) L vs H K=gate L[k]? w ((evO call (X.get vs L) H o).bind (xN call rs d L vs K)) (pO call rs (.tup []::L) (wr vs d (.tup [])) H K):=by
 simp only[pO,evR,aG]
 cases hL:L[k]? with
 | none=>simp[gate]
 | some c=>
   simp only[Option.bind_some]
   cases c with
   | t x=>
     cases x with
     | bool b=>cases b<;>cases w<;>simp[gate,Option.bind_assoc]<;>rfl
     | _=>simp[gate]
   | tup ds=>
     cases ds with
     | nil=>simp[gate]
     | cons=>simp[gate]
   | _=>simp[gate]
open Classical in
noncomputable def ij{β:Type}(p:Prop)(x:Option β):Option β:=if p then x else none
@[go_sem] theorem xO {β : Type} (x : Option β) : ij True x = x := by simp [ij]
noncomputable def lN{β:Type}(call:ah)(all:List R)(n:Nat)(ps:List (Nat×Nat))(rs:List R)(L vs:List D)(H:ab)(acc:List Tr)(K:List D→List D→ab→Option β):Option β:=
 (evR call rs L vs H).bind fun q=>ij (ed call all n ((trace call rs L vs H).reverse++acc) ps) (K q.1 q.2.1 q.2.2)
noncomputable def qO{β:Type}(call:ah)(all:List R)(n:Nat)(ps:List (Nat×Nat))(rs:List R)(d:Option Nat)(L vs:List D)(H:ab)(acc:List Tr)(K:List D→List D→ab→Option β)(p:D×ab):Option β:=
 lN call all n ps rs (p.1::L) (wr vs d p.1) p.2 ((L,vs,H)::acc) K
@[go_sem] theorem Hj {β : Type} (call : ah) (all : List R) (n : Nat) (ps : List (Nat × Nat)) (rs : List R) (d : Option Nat) (L vs : List D) (H : ab) (acc : List Tr) (K : List D → List D → ab → Option β) (x : D) (H' : ab) :
 qO call all n ps rs d L vs H acc K (x,H')=lN call all n ps rs (x::L) (wr vs d x) H' ((L,vs,H)::acc) K:=(rfl)
@[go_sem] theorem Hk {β : Type} (call : ah) (all : List R) (n : Nat) (ps : List (Nat × Nat)) (L vs : List D) (H : ab) (acc : List Tr) (K : List D → List D → ab → Option β) :
 lN call all n ps [] L vs H acc K=ij (ed call all n ((L,vs,H)::acc) ps) (K L vs H):=by
 simp[lN,evR,trace]
theorem lO{β:Type}(call:ah)(all:List R)(n:Nat)(ps:List (Nat×Nat))(r:R)(rs:List R)(L vs:List D)(H:ab)(acc:List Tr)(K:List D→List D→ab→Option β):
 lN call all n ps (r::rs) L vs H acc K=(aG L r.g).bind fun w=>
  if w then(evO call (X.get vs L) H r.o).bind (qO call all n ps rs r.d L vs H acc K)else lN call all n ps rs (.tup []::L) (wr vs r.d (.tup [])) H ((L,vs,H)::acc) K:=by
 obtain hw | ⟨w,hw⟩:aG L r.g=none∨∃w,aG L r.g=some w:=by cases aG L r.g<;>simp
 · simp[lN,evR,trace,hw]
 · cases w with
   | true=>
     obtain hq | ⟨q,hq⟩:evO call (X.get vs L) H r.o=none∨∃q,evO call (X.get vs L) H r.o=some q:=by cases evO call (X.get vs L) H r.o<;>simp
     · simp[lN,evR,trace,hw,hq]
     · simp[lN,evR,trace,hw,hq,qO]
   | false=>simp[lN,evR,trace,hw]
@[go_sem] theorem Ej {β : Type} (call : ah) (all : List R) (n : Nat) (ps : List (Nat × Nat)) (o : O) (d : Option Nat) (rs : List R) (L vs : List D) (H : ab) (acc : List Tr) (K : List D → List D → ab → Option β) :
 lN call all n ps (⟨o,d,none⟩::rs) L vs H acc K=(evO call (X.get vs L) H o).bind (qO call all n ps rs d L vs H acc K):=by
 rw[lO];simp[aG]
@[go_sem] theorem Ek {β : Type} (call : ah) (all : List R) (n : Nat) (ps : List (Nat × Nat)) (o : O) (d : Option Nat) (k : Nat) (w : Bool) (rs : List R) (L vs : List D) (H : ab) (acc : List Tr) (K : List D → List D → ab → Option β) :
 lN call all n ps (⟨o,d,some (k,w)⟩::rs) L vs H acc K=
  gate L[k]? w ((evO call (X.get vs L) H o).bind (qO call all n ps rs d L vs H acc K)) (lN call all n ps rs (.tup []::L) (wr vs d (.tup [])) H ((L,vs,H)::acc) K):=by
 rw[lO]
 simp only[aG]
 cases hL:L[k]? with
 | none=>simp[gate]
 | some c=>
   simp only[Option.bind_some]
   cases c with
   | t x=>
     cases x with
     | bool b=>cases b<;>cases w<;>simp[gate]
     | _=>simp[gate]
   | tup ds=>
     cases ds with
     | nil=>simp[gate]
     | cons=>simp[gate]
   | _=>simp[gate]
def iC(call:ah):Option R→Option Tr→Option Tr→Option Tr→Prop
 | some r,some s,some a,some s'=>(match r.o with
   | .al _ _=>a.2.2[s.2.2.length]?=s'.2.2[s.2.2.length]?
   | .bs xs _=>aG s.1 r.g=some false∨((aH (X.get s.2.1 s.1) xs).bind dK).isSome=true
   | o=>fm o=true∧(aG s.1 r.g=some false∨j8 (evO call (X.get s.2.1 s.1) a.2.2 o)=j8 (evO call (X.get s.2.1 s.1) s.2.2 o)))
 | _,_,_,_=>False
@[go_sem] theorem Bc (call : ah) (all : List R) (n : Nat) (acc : List Tr) : ed call all n acc [] = True := (rfl)
@[go_sem] theorem xP (call : ah) (all : List R) (n : Nat) (acc : List Tr) (p m : Nat) (r : List (Nat × Nat)) :
 ed call all n acc ((p,m)::r)=(iC call all[p]? acc[n-p]? acc[n-m]? acc[n-(p+1)]?∧m≤n∧ed call all n acc r):=by
 simp only[ed,xM,iC]
 try rfl
section
variable (call : ah) (d : Option Nat) (gd : Option (Nat × Bool)) (L vs L' vs' : List D) (H H' : ab) (s' : Tr)
@[go_sem] theorem Hl (x : X) (n : Nat) (agg : Bool) : iC call (some ⟨.ld x n agg, d, gd⟩) (some (L, vs, H)) (some (L', vs', H')) (some s') =
 (aG L gd=some false∨j8 (evO call (X.get vs L) H' (.ld x n agg))=j8 (evO call (X.get vs L) H (.ld x n agg))):=by simp[iC,fm]
@[go_sem] theorem Hm (x i : X) (sz : Nat) : iC call (some ⟨.ia x i sz, d, gd⟩) (some (L, vs, H)) (some (L', vs', H')) (some s') =
 (aG L gd=some false∨j8 (evO call (X.get vs L) H' (.ia x i sz))=j8 (evO call (X.get vs L) H (.ia x i sz))):=by simp[iC,fm]
@[go_sem] theorem Hn (x : X) (lo hi : Option X) (sz : Nat) : iC call (some ⟨.sc x lo hi sz, d, gd⟩) (some (L, vs, H)) (some (L', vs', H')) (some s') =
 (aG L gd=some false∨j8 (evO call (X.get vs L) H' (.sc x lo hi sz))=j8 (evO call (X.get vs L) H (.sc x lo hi sz))):=by simp[iC,fm]
@[go_sem] theorem El (x : X) (z : T) (sz : Nat) : iC call (some ⟨.mkt x z sz, d, gd⟩) (some (L, vs, H)) (some (L', vs', H')) (some s') =
 (aG L gd=some false∨j8 (evO call (X.get vs L) H' (.mkt x z sz))=j8 (evO call (X.get vs L) H (.mkt x z sz))):=by simp[iC,fm]
@[go_sem] theorem Ho (z : List D) (l : List (Nat × Nat)) (L2 vs2 : List D) (H2 : ab) : iC call (some ⟨.al z l, d, gd⟩) (some (L, vs, H)) (some (L', vs', H')) (some (L2, vs2, H2)) = (H'[H.length]? = H2[H.length]?) := (rfl)
@[go_sem] theorem Hp (xs : List X) (sz : Nat) : iC call (some ⟨.bs xs sz, d, gd⟩) (some (L, vs, H)) (some (L', vs', H')) (some s') =
 (aG L gd=some false∨((aH (X.get vs L) xs).bind dK).isSome=true):=(rfl)
@[go_sem] theorem vo (L : List D) : aG L none = some true := (rfl)
def xQ(w:Bool):Option D→Option Bool
 | some (.t (.bool b))=>some (b==w)
 | some (.tup [])=>some false
 | _=>none
@[go_sem] theorem Bd (w b : Bool) : xQ w (some (.t (.bool b))) = some (b == w) := (rfl)
@[go_sem] theorem Em (w : Bool) : xQ w (some (.tup [])) = some false := (rfl)
@[go_sem] theorem vq (L : List D) (k : Nat) (w : Bool) : aG L (some (k, w)) = xQ w L[k]? := by
 simp only[aG]
 cases L[k]? with
 | none=>rfl
 | some c=>cases c with
   | t x=>cases x<;>rfl
   | tup ds=>cases ds<;>rfl
   | _=>rfl
@[go_sem] theorem En (x : D) : j8 (some (x, H)) = some x := (rfl)
attribute [go_sem] beq_true beq_false or_true true_or or_self
end
theorem oe(call:ah)(rs:List R)(vs:List D)(H:ab):pN call rs [] vs H=evR call rs [] vs H:=by
 simp[pN,ed]
def JG(L vs:List D)(H:ab):Option (Ex×St):=some (.normal,⟨vs,H⟩)
noncomputable def JH(call:ah)(k:Nat)(a b:C)(L vs:List D)(H:ab):Option (Ex×St):=bu L[k]? (exS call a ⟨vs,H⟩) (exS call b ⟨vs,H⟩)
@[go_sem] theorem JI (L vs : List D) (H : ab) : JG L vs H = some (.normal, ⟨vs, H⟩) := (rfl)
@[go_sem] theorem JJ (call : ah) (k : Nat) (a b : C) (L vs : List D) (H : ab) : JH call k a b L vs H = bu L[k]? (exS call a ⟨vs, H⟩) (exS call b ⟨vs, H⟩) := (rfl)
def andThen(x:Option (Ex×St))(k:St→Option (Ex×St)):Option (Ex×St):=x.bind fun p=>bz p k
@[go_sem] theorem sg (st : St) (k : St → Option (Ex × St)) : andThen (some (.normal, st)) k = k st := (rfl)
@[go_sem] theorem xR (st : St) (k : St → Option (Ex × St)) : andThen (some (.ret, st)) k = some (.ret, st) := (rfl)
@[go_sem] theorem vt (i : Nat) (st : St) (k : St → Option (Ex × St)) : andThen (some (.exit i, st)) k = some (.exit i, st) := (rfl)
@[go_sem] theorem vu (k : St → Option (Ex × St)) : andThen none k = none := (rfl)
@[go_sem] theorem andThen_ite (c : Prop) [Decidable c] (a b : Option (Ex × St)) (k : St → Option (Ex × St)) : andThen (if c then a else b) k = if c then andThen a k else andThen b k := by
 split<;>rfl
@[go_sem] theorem Hq (call : ah) (st : St) : exS call .skip st = some (.normal, st) := (rfl)
@[go_sem] theorem JK (call : ah) (rs : List R) (vs : List D) (H : ab) : exS call (.reg rs []) ⟨vs, H⟩ = pO call rs [] vs H JG := by
 simp only[exS,oe,pO]
 cases evR call rs [] vs H<;>rfl
@[go_sem] theorem Hr (call : ah) (rs : List R) (p : Nat × Nat) (ps : List (Nat × Nat)) (vs : List D) (H : ab) :
 exS call (.reg rs (p::ps)) ⟨vs,H⟩=lN call rs rs.length (p::ps) rs [] vs H [] JG:=by
 simp only[exS,pN,lN,List.append_nil]
 by_cases h:ed call rs rs.length (trace call rs [] vs H).reverse (p::ps)
 · rw[if_pos h]
   simp only[ij,if_pos h]
   cases evR call rs [] vs H<;>rfl
 · rw[if_neg h]
   simp only[ij,if_neg h]
   cases evR call rs [] vs H<;>rfl
@[go_sem] theorem JL (call : ah) (a b : C) (st : St) : exS call (.seq a b) st = andThen (exS call a st) (exS call b) := (rfl)
@[go_sem] theorem JM (call : ah) (rs : List R) (k : Nat) (a b : C) (vs : List D) (H : ab) : exS call (.ite rs [] k a b) ⟨vs, H⟩ = pO call rs [] vs H (JH call k a b) := by
 simp only[exS,oe,pO]
 cases evR call rs [] vs H<;>rfl
@[go_sem] theorem Ht (call : ah) (rs : List R) (p : Nat × Nat) (ps : List (Nat × Nat)) (k : Nat) (a b : C) (vs : List D) (H : ab) :
 exS call (.ite rs (p::ps) k a b) ⟨vs,H⟩=lN call rs rs.length (p::ps) rs [] vs H [] (JH call k a b):=by
 simp only[exS,pN,lN,List.append_nil]
 by_cases h:ed call rs rs.length (trace call rs [] vs H).reverse (p::ps)
 · rw[if_pos h]
   simp only[ij,if_pos h]
   cases evR call rs [] vs H<;>rfl
 · rw[if_neg h]
   simp only[ij,if_neg h]
   cases evR call rs [] vs H<;>rfl
@[go_sem] theorem JN (call : ah) (rs : List R) (ps : List (Nat × Nat)) (k : Nat) (a b c : C) (st : St) : exS call (.its rs ps k a b c) st = andThen (exS call (.ite rs ps k a b) st) (exS call c) := (rfl)
@[go_sem] theorem JO (call : ah) (rs : List R) (ps : List (Nat × Nat)) (k : Nat) (a b c : C) (st : St) : exS call (.itk rs ps k a b c) st = exS call (.ite rs ps k (.seq a c) (.seq b c)) st := (rfl)
@[go_sem] theorem JP (call : ah) (j : Nat) (a b : C) (vs : List D) (H : ab) : exS call (.itv j a b) ⟨vs, H⟩ = bu vs[j]? (exS call a ⟨vs, H⟩) (exS call b ⟨vs, H⟩) := (rfl)
@[go_sem] theorem Hu (call : ah) (id : Nat) (st : St) : exS call (.exit id) st = some (.exit id, st) := (rfl)
@[go_sem] theorem JQ (call : ah) (st : St) : exS call .ret st = some (.ret, st) := (rfl)
@[go_sem] theorem Hv (call : ah) (st : St) : exS call .fail st = none := (rfl)
@[go_sem] theorem JR (call : ah) (x p f : Nat) (r1 : List R) (p1 : List (Nat × Nat)) (r2 : List R) (p2 : List (Nat × Nat)) (vs : List D) (H : ab) : exS call (.rng x p f r1 p1 r2 p2) ⟨vs, H⟩ = (pK (stepG (pN call) vs p r1 p1 r2 p2) (sf f vs[x]?) H).map fun H => (.normal, ⟨vs, H⟩) := (rfl)
@[go_sem] theorem JS (call : ah) (v : Bool) (c : C) (st : St) : exS call (.cnd v c) st = exS call c st := (rfl)
def jy(id:Nat)(x:Option (Ex×St)):Option (Ex×St):=x.map (leave id)
@[go_sem] theorem JT (call : ah) (id : Nat) (c : C) (st : St) : exS call (.blk id c) st = jy id (exS call c st) := (rfl)
@[go_sem] theorem vv (id : Nat) (st : St) : jy id (some (.normal, st)) = some (.normal, st) := by simp [jy, leave]
@[go_sem] theorem Eo (id : Nat) (st : St) : jy id (some (.ret, st)) = some (.ret, st) := by simp [jy, leave]
@[go_sem] theorem Be (id i : Nat) (st : St) : jy id (some (.exit i, st)) = if i = id then some (.normal, st) else some (.exit i, st) := by
 simp only[jy,leave,Option.map_some,Ex.exit.injEq]
 split<;>rfl
@[go_sem] theorem Bf (id : Nat) : jy id none = none := (rfl)
@[go_sem] theorem Ep (id : Nat) (c : Prop) [Decidable c] (a b : Option (Ex × St)) : jy id (if c then a else b) = if c then jy id a else jy id b := by
 split<;>rfl
@[congr] theorem xS {c c' : Option D} {a b : Option (Ex × St)} (h : True → c = c') : bu c a b = bu c' a b := by rw [h trivial]
@[go_sem] theorem Er (p : Prop) [Decidable p] (a b : Option (Ex × St)) : bu (some (.t (.bool (decide p)))) a b = if p then a else b := by
 by_cases h:p<;>simp[bu,h]
@[go_sem] theorem Bg (p : Prop) [Decidable p] (a b : Option (Ex × St)) : bu (some (.t (.bool (!decide p)))) a b = if p then b else a := by
 by_cases h:p<;>simp[bu,h]
@[go_sem] theorem Hw (a : Option (Ex × St)) : bu (some .ub) a a = a := by simp [bu]
@[go_sem] theorem Bh (x : Bool) (a b : Option (Ex × St)) : bu (some (.t (.bool x))) a b = if x = true then a else b := (rfl)
def eC(gc:Bool)(dead:List Nat)(k:Nat)(x:Option (Ex×St)):Option St:=x.bind fun p=>match p.1 with
 | .normal=>tidy gc dead k p.2
 | _=>none
@[go_sem] theorem tG (gc : Bool) (dead : List Nat) (k : Nat) (st : St) : eC gc dead k (some (.normal, st)) = tidy gc dead k st := (rfl)
@[go_sem] theorem Bi (gc : Bool) (dead : List Nat) (k : Nat) (c : Prop) [Decidable c] (a b : Option (Ex × St)) : eC gc dead k (if c then a else b) = if c then eC gc dead k a else eC gc dead k b := by
 split<;>rfl
theorem j9{gc:Bool}{dead:List Nat}{body:St→Option (Ex×St)}{st st2:St}(h:eC gc dead st.H.length (body st)=some st2)
 {p:Ex×St} (h2:fC gc dead body st2=some p):fC gc dead body st=some p:=by
 unfold eC at h
 obtain⟨⟨e,st1⟩,hq,h⟩:=Option.bind_eq_some_iff.1 h
 cases e with
 | normal=>exact j6 hq h h2
 | ret=>cases h
 | exit=>cases h
theorem oh{gc:Bool}{dead:List Nat}{body:St→Option (Ex×St)}(s:Nat→St){p:Ex×St}(n:Nat)
 (h:∀j,j<n→eC gc dead (s j).H.length (body (s j))=some (s (j+1))) (he:fC gc dead body (s n)=some p):fC gc dead body (s 0)=some p:=by
 have:=ig (s:=s) n 0 (fun j _ hj=>by
  have h:=h j (by omega)
  unfold eC at h
  obtain⟨⟨e,st1⟩,hq,h⟩:=Option.bind_eq_some_iff.1 h
  cases e with
  | normal=>exact⟨st1,hq,h⟩
  | ret=>cases h
  | exit=>cases h) (by simpa using he)
 exact this
def Hx(res:List (Nat×Option (Nat×Bool)))(k raw:Nat)(p:Ex×St):Option (D×ab):=match p.1 with
 | .exit _=>none
 | _=>(bX p.2 res).bind (finish k raw p.2.H)
@[go_sem] theorem Hy (res : List (Nat × Option (Nat × Bool))) (k raw : Nat) (vs : List D) (H : ab) : Hx res k raw (.ret, ⟨vs, H⟩) = (bX ⟨vs, H⟩ res).bind (finish k raw H) := (rfl)
@[go_sem] theorem xT (res : List (Nat × Option (Nat × Bool))) (k raw : Nat) (vs : List D) (H : ab) : Hx res k raw (.normal, ⟨vs, H⟩) = (bX ⟨vs, H⟩ res).bind (finish k raw H) := (rfl)
theorem xU{fs:Nat→Option Fn}{raw f:Nat}{args:List D}{H:ab}{fn:Fn}{r:D×ab}(hf:fs f=some fn)(hn:fn.nargs=args.length)
 (h:(exS (dg fs) fn.body ⟨fg args fn.vars,H⟩).bind (Hx fn.res H.length raw)=some r) (h0:fn.prim=[]:=by rfl):dg fs raw f args H=some r:=by
 obtain⟨p,hp,he⟩:=Option.bind_eq_some_iff.1 h
 exact tA hf hn (tF _ _ _ hp) he h0
@[go_sem] theorem Hz {α β : Type} (c : Prop) [Decidable c] (a b : Option α) (k : α → Option β) : (if c then a else b).bind k = if c then a.bind k else b.bind k := by
 split<;>rfl
@[go_sem] theorem JU {α β : Type} (c : Prop) [Decidable c] (a b : Option α) (k : α → β) : (if c then a else b).map k = if c then a.map k else b.map k := by
 split<;>rfl
theorem Es(a b:Int):(a==b)=decide (a=b):=by rw[Bool.eq_iff_iff];simp
theorem qP{n:Int}(h1: -9223372036854775808≤n)(h2:n≤9223372036854775807):IntKind.i64.wrap n=n:=by
 have e:IntKind.i64.wrap n=if n % 18446744073709551616≥9223372036854775808 then n % 18446744073709551616-18446744073709551616 else n % 18446744073709551616:=by
  simp[IntKind.wrap,IntKind.signed,IntKind.bits]
 rw[e];split<;>omega
section
variable {α β : Type}
@[go_sem] theorem xV (a : α) (f : α → Option β) : (some a).bind f = f a := (rfl)
@[go_sem] theorem Bj (a : α) (f : α → β) : (some a).map f = some (f a) := (rfl)
@[go_sem] theorem xW (f : α → Option β) : (none : Option α).bind f = none := (rfl)
@[go_sem] theorem Bk (f : α → β) : (none : Option α).map f = none := (rfl)
@[go_sem] theorem Bl (a : α) (l : List α) (f : α → β) : (a :: l).map f = f a :: l.map f := (rfl)
@[go_sem] theorem Et (f : α → β) : ([] : List α).map f = [] := (rfl)
@[go_sem] theorem Bm (a : α) (l : List α) : (a :: l)[0]? = some a := (rfl)
@[go_sem] theorem Bo (a : α) (l : List α) (n : Nat) : (a :: l)[n + 1]? = l[n]? := (rfl)
@[go_sem] theorem xX (a d : α) (l : List α) : (a :: l).getD 0 d = a := (rfl)
@[go_sem] theorem xY (a d : α) (l : List α) (n : Nat) : (a :: l).getD (n + 1) d = l.getD n d := (rfl)
@[go_sem] theorem Bp (d : α) (n : Nat) : ([] : List α).getD n d = d := by simp
@[go_sem] theorem Bq (a b : α) (l : List α) : (a :: l).set 0 b = b :: l := (rfl)
@[go_sem] theorem Br (a b : α) (l : List α) (n : Nat) : (a :: l).set (n + 1) b = a :: l.set n b := (rfl)
@[go_sem] theorem tH (a : α) (l m : List α) : (a :: l) ++ m = a :: (l ++ m) := (rfl)
@[go_sem] theorem vw (l : List α) : [] ++ l = l := (rfl)
@[go_sem] theorem vz (l : List α) : l ++ [] = l := by simp
@[go_sem] theorem si (a : α) (l : List α) (f : α → List β) : (a :: l).flatMap f = f a ++ l.flatMap f := by simp
@[go_sem] theorem tJ (f : α → List β) : ([] : List α).flatMap f = [] := by simp
@[go_sem] theorem vA : ([] : List α).length = 0 := (rfl)
@[go_sem] theorem tK (a : α) (l : List α) : (a :: l).length = l.length + 1 := (rfl)
@[go_sem] theorem vB (l : List α) (f : α → β) : (l.map f).length = l.length := by simp
@[go_sem] theorem qQ (l m : List α) : (l ++ m).length = l.length + m.length := by simp
@[go_sem] theorem om (n : Nat) (a : α) : (List.replicate n a).length = n := by simp
@[go_sem] theorem vC (l : List α) (i : Nat) (a : α) : (l.set i a).length = l.length := by simp
@[go_sem] theorem xZ (l : List α) : l.drop 0 = l := (rfl)
@[go_sem] theorem x0 (a : α) (l : List α) (n : Nat) : (a :: l).drop (n + 1) = l.drop n := (rfl)
@[go_sem] theorem Bt (n : Nat) : ([] : List α).drop n = [] := by simp
@[go_sem] theorem x1 (l : List α) : l.take 0 = [] := (rfl)
@[go_sem] theorem x2 (a : α) (l : List α) (n : Nat) : (a :: l).take (n + 1) = a :: l.take n := (rfl)
@[go_sem] theorem Bu (n : Nat) : ([] : List α).take n = [] := by simp
@[go_sem] theorem x3 (a b : α) : (bif true then a else b) = a := (rfl)
@[go_sem] theorem vD (a b : α) : (bif false then a else b) = b := (rfl)
@[go_sem] theorem Bv (n : Nat) : n + 0 = n := (rfl)
@[go_sem] theorem Bw (n : Nat) : 0 + n = n := by simp
@[go_sem] theorem Bx (a b : α) : (some a = some b) = (a = b) := by simp
@[go_sem] theorem HA (a : α) : (some a).isSome = true := (rfl)
end
attribute [go_sem] decide_true decide_false if_true if_false Bool.false_eq_true Bool.true_eq_false decide_eq_true_eq decide_eq_false_iff_not Bool.and_eq_true Bool.or_eq_true Bool.not_eq_true' Bool.not_eq_true Bool.not_eq_false
 Bool.and_true Bool.true_and Bool.and_false Bool.false_and Bool.or_true Bool.true_or Bool.or_false Bool.false_or and_true true_and and_self not_true_eq_false not_false_eq_true beq_iff_eq bne_iff_ne ne_eq
@[go_sem] theorem By : (!true) = false := (rfl)
@[go_sem] theorem x4 : (!false) = true := (rfl)
@[go_sem] theorem Nh (vs L : List D) (j : Nat) : X.get vs L (.v j) = vs[j]? := (rfl)
@[go_sem] theorem Ni (vs L : List D) (k : Nat) : X.get vs L (.l k) = L[k]? := (rfl)
@[go_sem] theorem Nj (vs L : List D) (d : D) : X.get vs L (.c d) = some d := (rfl)
@[go_sem] theorem Nk (vs L : List D) (n : Int) : X.get vs L (.i n) = some (I n) := (rfl)
@[go_sem] theorem Nl (vs L : List D) (x : Bool) : X.get vs L (.b x) = some (B x) := (rfl)
@[go_sem] theorem JV (vs : List D) (x : D) : wr vs none x = vs := (rfl)
@[go_sem] theorem JW (vs : List D) (s : Nat) (x : D) : wr vs (some s) x = vs.set s x := (rfl)
@[go_sem] theorem Bz (args : List D) : fg args [] = [] := (rfl)
@[go_sem] theorem x5 (args : List D) (s : Nat) (r : List Nat) : fg args (s :: r) = args.getD s .und :: fg args r := (rfl)
def JX(H:ab)(d:D):Option (D×ab):=some (d,H)
@[go_sem] theorem JY (H : ab) (d : D) : JX H d = some (d, H) := (rfl)
def cD{α:Type}(a:α)(l:Option (List α)):Option (List α):=l.map (a:: ·)
@[go_sem] theorem BA {α : Type} (a : α) (l : List α) : cD a (some l) = some (a :: l) := (rfl)
@[go_sem] theorem BB {α : Type} (a : α) : cD a none = none := (rfl)
@[go_sem] theorem HB {α β : Type} (f : α → Option β) : aH f [] = some [] := (rfl)
def Me{α β:Type}(f:α→Option β)(r:List α)(y:β):Option (List β):=cD y (aH f r)
@[go_sem] theorem x6 {α β : Type} (f : α → Option β) (r : List α) (y : β) : Me f r y = cD y (aH f r) := (rfl)
@[go_sem] theorem lP {α β : Type} (f : α → Option β) (x : α) (r : List α) : aH f (x :: r) = (f x).bind (Me f r) := (rfl)
section
variable (call : ah) (get : X → Option D) (H : ab)
@[go_sem] theorem Nn (x : X) : evO call get H (.mv x) = (get x).bind (JX H) := by simp only [evO]; cases get x <;> rfl
def HC(c a b:Option D):Option (D×ab):=c.bind fun c=>a.bind fun a=>b.bind fun b=>(ta c a b).map fun d=>(d,H)
@[go_sem] theorem No (c a b : X) : evO call get H (.pk c a b) = HC H (get c) (get a) (get b) := (rfl)
@[go_sem] theorem Eu (x p q : Bool) : HC H (some (.t (.bool x))) (some (.t (.bool p))) (some (.t (.bool q))) = some (.t (.bool (bif x then p else q)), H) := by cases x <;> rfl
@[go_sem] theorem Ew (a b : D) : HC H (some (.t (.bool true))) (some a) (some b) = some (a, H) := (rfl)
@[go_sem] theorem BD (a b : D) : HC H (some (.t (.bool false))) (some a) (some b) = some (b, H) := (rfl)
@[go_sem] theorem HD (x p : Bool) : (bif x then p else false) = (x && p) := by cases x <;> rfl
@[go_sem] theorem JZ (x q : Bool) : (bif x then true else q) = (x || q) := by cases x <;> rfl
def bU(f:BinOp)(x y:Option D):Option (D×ab):=x.bind fun a=>y.bind fun b=>(jR f a b).map fun d=>(d,H)
@[go_sem] theorem Mf (f : BinOp) (x y : X) : evO call get H (.bin f x y) = bU H f (get x) (get y) := (rfl)
section
variable (k j : IntKind) (a b : Int)
@[go_sem] theorem Ey : bU H .add (some (.t (.int k a))) (some (.t (.int k b))) = some (.t (.int k (k.wrap (a + b))), H) := by simp [bU, jR, mq]
@[go_sem] theorem Ez : bU H .sub (some (.t (.int k a))) (some (.t (.int k b))) = some (.t (.int k (k.wrap (a - b))), H) := by simp [bU, jR, mq]
@[go_sem] theorem EA : bU H .mul (some (.t (.int k a))) (some (.t (.int k b))) = some (.t (.int k (k.wrap (a * b))), H) := by simp [bU, jR, mq]
@[go_sem] theorem EB : bU H .quo (some (.t (.int k a))) (some (.t (.int k b))) = if b = 0 then none else some (.t (.int k (k.wrap (a.tdiv b))), H) := by simp only [bU, jR, mq]; by_cases h : b = 0 <;> simp [h]
@[go_sem] theorem EC : bU H .rem (some (.t (.int k a))) (some (.t (.int k b))) = if b = 0 then none else some (.t (.int k (a.tmod b)), H) := by simp only [bU, jR, mq]; by_cases h : b = 0 <;> simp [h]
@[go_sem] theorem ED : bU H .eql (some (.t (.int k a))) (some (.t (.int k b))) = some (.t (.bool (decide (a = b))), H) := by simp [bU, jR, mq, Es]
@[go_sem] theorem EE : bU H .neq (some (.t (.int k a))) (some (.t (.int k b))) = some (.t (.bool (decide (¬ a = b))), H) := by simp [bU, jR, mq, bne, Es]
@[go_sem] theorem EF : bU H .lss (some (.t (.int k a))) (some (.t (.int k b))) = some (.t (.bool (decide (a < b))), H) := by simp [bU, jR, mq]
@[go_sem] theorem EG : bU H .leq (some (.t (.int k a))) (some (.t (.int k b))) = some (.t (.bool (decide (a ≤ b))), H) := by simp [bU, jR, mq]
@[go_sem] theorem EH : bU H .gtr (some (.t (.int k a))) (some (.t (.int k b))) = some (.t (.bool (decide (b < a))), H) := by simp [bU, jR, mq]
@[go_sem] theorem EI : bU H .geq (some (.t (.int k a))) (some (.t (.int k b))) = some (.t (.bool (decide (b ≤ a))), H) := by simp [bU, jR, mq]
@[go_sem] theorem EJ (h : 0 ≤ b) : bU H .shl (some (.t (.int k a))) (some (.t (.int j b))) = some (.t (.int k (k.wrap (a * 2 ^ min b.toNat k.bits))), H) := by simp [bU, jR, jQ, Int.not_lt.2 h]
@[go_sem] theorem EK (h : 0 ≤ b) : bU H .shr (some (.t (.int k a))) (some (.t (.int j b))) = some (.t (.int k (a.fdiv (2 ^ min b.toNat k.bits))), H) := by simp [bU, jR, jQ, Int.not_lt.2 h]
@[go_sem] theorem EL : bU H .and (some (.t (.int k a))) (some (.t (.int k b))) = some (.t (.int k (k.wrap (BitVec.ofInt k.bits a &&& BitVec.ofInt k.bits b).toNat)), H) := by simp [bU, jR, mq]
@[go_sem] theorem HE : bU H .or (some (.t (.int k a))) (some (.t (.int k b))) = some (.t (.int k (k.wrap (BitVec.ofInt k.bits a ||| BitVec.ofInt k.bits b).toNat)), H) := by simp [bU, jR, mq]
@[go_sem] theorem EM : bU H .xor (some (.t (.int k a))) (some (.t (.int k b))) = some (.t (.int k (k.wrap (BitVec.ofInt k.bits a ^^^ BitVec.ofInt k.bits b).toNat)), H) := by simp [bU, jR, mq]
def J0(f:UnOp)(a:D):Option (D×ab):=(unD f a).map fun d=>(d,H)
@[go_sem] theorem Np (f : UnOp) (x : X) : evO call get H (.un f x) = (get x).bind (J0 H f) := (rfl)
@[go_sem] theorem HF (x : Bool) : J0 H .not (.t (.bool x)) = some (.t (.bool (!x)), H) := (rfl)
@[go_sem] theorem HG : J0 H .neg (.t (.int k a)) = some (.t (.int k (k.wrap (0 - a))), H) := (rfl)
def Mg(k:IntKind)(a:D):Option (D×ab):=(w9 k a).map fun d=>(d,H)
@[go_sem] theorem Nq (x : X) : evO call get H (.cv k x) = (get x).bind (Mg H k) := (rfl)
@[go_sem] theorem HH : Mg H k (.t (.int j a)) = some (.t (.int k (k.wrap a)), H) := (rfl)
end
def eD(q:EqK)(neg:Bool)(x y:Option D):Option (D×ab):=x.bind fun a=>y.bind fun b=>(vh q neg a b).map fun d=>(d,H)
@[go_sem] theorem Mh (q : EqK) (neg : Bool) (x y : X) : evO call get H (.eqk q neg x y) = eD H q neg (get x) (get y) := (rfl)
@[go_sem] theorem BE (x y : Bool) : eD H .bool false (some (.t (.bool x))) (some (.t (.bool y))) = some (.t (.bool (x == y)), H) := (rfl)
@[go_sem] theorem x7 (x y : Bool) : eD H .bool true (some (.t (.bool x))) (some (.t (.bool y))) = some (.t (.bool (!(x == y))), H) := (rfl)
def vE:List T→List T→Bool
 | .int _ a::xs,.int _ b::ys=>decide (a=b)&&vE xs ys
 | _,_=>true
def pb:Nat→List T→List T→Bool
 | 0,[],[]=>true
 | n+1,.int j _::xs,.int k _::ys=>decide (j=k)&&pb n xs ys
 | _,_,_=>false
@[go_sem] theorem EN (k j : IntKind) (a b : Int) (xs ys : List T) : vE (.int k a :: xs) (.int j b :: ys) = (decide (a = b) && vE xs ys) := (rfl)
@[go_sem] theorem HI : vE [] [] = true := (rfl)
@[go_sem] theorem HJ : pb 0 [] [] = true := (rfl)
@[go_sem] theorem EO (n : Nat) (k : IntKind) (a b : Int) (xs ys : List T) : pb (n + 1) (.int k a :: xs) (.int k b :: ys) = pb n xs ys := by simp [pb]
theorem jz:∀ {n:Nat} {xs ys:List T},pb n xs ys=true→xs.length=n∧cR xs ys=some (vE xs ys)
 | 0,[],[],_=>⟨rfl,rfl⟩
 | 0,[],_::_,h=>by simp[pb]at h
 | 0,_::_,_,h=>by simp[pb]at h
 | n+1,[],_,h=>by simp[pb]at h
 | n+1,x::xs,[],h=>by cases x<;>simp[pb]at h
 | n+1,x::xs,y::ys,h=>by
   cases x<;>cases y<;>simp only[pb,Bool.and_eq_true,decide_eq_true_eq,Bool.false_eq_true]at h
   obtain⟨rfl,h⟩:=h
   obtain⟨h1,h2⟩:=jz h
   exact⟨by simp[h1],by simp[cR,h2,vE,Es]⟩
@[go_sem] theorem BF (n : Nat) (xs ys : List T) (h : pb n xs ys = true) : eD H (.ints n) false (some (.t (.agg xs))) (some (.t (.agg ys))) = some (.t (.bool (vE xs ys)), H) := by
 obtain⟨h1,h2⟩:=jz h;simp[eD,vh,eqD,h1,h2]
@[go_sem] theorem x8 (n : Nat) (xs ys : List T) (h : pb n xs ys = true) : eD H (.ints n) true (some (.t (.agg xs))) (some (.t (.agg ys))) = some (.t (.bool (!vE xs ys)), H) := by
 obtain⟨h1,h2⟩:=jz h;simp[eD,vh,eqD,h1,h2]
@[go_sem] theorem EP : eD H .sl false (some .nil) (some .nil) = some (.t (.bool true), H) := (rfl)
@[go_sem] theorem ER : eD H .sl false (some (.t (.sl []))) (some .nil) = some (.ub, H) := (rfl)
@[go_sem] theorem BG : eD H .sl true (some (.t (.sl []))) (some .nil) = some (.ub, H) := (rfl)
@[go_sem] theorem BH : eD H .sl true (some .nil) (some .nil) = some (.t (.bool false), H) := (rfl)
theorem tM(es:List T)(h:es≠[]):eD H .sl false (some (.t (.sl es))) (some .nil)=some (.t (.bool false),H):=by cases es<;>first | exact(h rfl).elim | rfl
def HK(a:D):Option (D×ab):=(G9 a).map fun d=>(d,H)
@[go_sem] theorem Nr (x : X) : evO call get H (.nc x) = (get x).bind (HK H) := (rfl)
@[go_sem] theorem J1 (id off : Nat) : HK H (.bp id off) = some (.bp id off, H) := (rfl)
@[go_sem] theorem J2 (id ep n i off : Nat) : HK H (.ap id ep n i off) = some (.ap id ep n i off, H) := (rfl)
@[go_sem] theorem J3 (cs : List T) : HK H (.ep cs) = some (.ep cs, H) := (rfl)
def BI(off:Nat)(a:D):Option (D×ab):=(oR a off).map fun d=>(d,H)
@[go_sem] theorem Ns (x : X) (off : Nat) : evO call get H (.fa x off) = (get x).bind (BI H off) := (rfl)
@[go_sem] theorem J4 (id o off : Nat) : BI H off (.bp id o) = some (.bp id (o + off), H) := (rfl)
@[go_sem] theorem J5 (id ep n i o off : Nat) : BI H off (.ap id ep n i o) = some (.ap id ep n i (o + off), H) := (rfl)
@[go_sem] theorem J6 (cs : List T) (off : Nat) : BI H off (.ep cs) = some (.ep (cs.drop off), H) := (rfl)
@[go_sem] theorem Nt (cs : List D) : cut cs 0 0 = some [] := by simp [cut]
@[go_sem] theorem Nu (c : D) (cs : List D) : cut (c :: cs) 0 1 = some [c] := by simp [cut]
@[go_sem] theorem Nv (c : D) (cs : List D) (n : Nat) : cut (c :: cs) 0 (n + 1) = cD c (cut cs 0 n) := by
 simp only[cut,cD];by_cases h:n≤cs.length<;>simp[h]
@[go_sem] theorem Nw (c : D) (cs : List D) (off n : Nat) : cut (c :: cs) (off + 1) n = cut cs off n := by
 simp only[cut,List.length_cons,List.drop_succ_cons]
 by_cases h:off+n≤cs.length
 · rw[if_pos h,if_pos (by omega)]
 · rw[if_neg h,if_neg (by omega)]
@[go_sem] theorem ES (c : D) : aY false [c] = some c := (rfl)
@[go_sem] theorem ET (cs : List D) : aY true cs = some (eY cs) := (rfl)
def mkA(cs:List D):Option (List T)→D
 | some ts=> .t (.agg ts)
 | none=> .agg cs
@[go_sem] theorem HL (cs : List D) (ts : List T) : mkA cs (some ts) = .t (.agg ts) := (rfl)
@[go_sem] theorem HM (cs : List D) : mkA cs none = .agg cs := (rfl)
@[go_sem] theorem HN (cs : List D) : eY cs = mkA cs (dK cs) := by unfold eY; cases dK cs <;> rfl
@[go_sem] theorem HO : dK [] = some [] := (rfl)
@[go_sem] theorem Mi (x : T) (r : List D) : dK (.t x :: r) = cD x (dK r) := (rfl)
@[go_sem] theorem Mj (r : List D) : dK (.nil :: r) = none := (rfl)
@[go_sem] theorem HP (a b c : Nat) (r : List D) : dK (.ref a b c :: r) = none := (rfl)
@[go_sem] theorem HQ (a b c d e : Nat) (r : List D) : dK (.sub a b c d e :: r) = none := (rfl)
@[go_sem] theorem tN (l : List T) : dK (l.map .t) = some l := by induction l with | nil => rfl | cons a l ih => simp [dK, ih]
def EU(off n:Nat)(agg:Bool)(a:D):Option (D×ab):=(gZ a off n agg).map fun d=>(d,H)
@[go_sem] theorem Nx (x : X) (off n : Nat) (agg : Bool) : evO call get H (.fl x off n agg) = (get x).bind (EU H off n agg) := (rfl)
def ofC(agg:Bool)(cs:Option (List D)):Option (D×ab):=(cs.bind (aY agg)).bind (JX H)
@[go_sem] theorem Ny (c : D) : ofC H false (some [c]) = some (c, H) := (rfl)
@[go_sem] theorem Nz (cs : List D) : ofC H true (some cs) = some (eY cs, H) := (rfl)
@[go_sem] theorem Mk (cs : List T) (off n : Nat) (agg : Bool) : EU H off n agg (.t (.agg cs)) = ofC H agg (cut (cs.map .t) off n) := by
 simp only[EU,gZ,D.isAgg,if_true,D.cells,T.cells,ofC];cases (cut (cs.map .t) off n).bind (aY agg)<;>rfl
@[go_sem] theorem HR (cs : List D) (off n : Nat) (agg : Bool) : EU H off n agg (.agg cs) = ofC H agg (cut cs off n) := by
 simp only[EU,gZ,D.isAgg,if_true,D.cells,ofC];cases (cut cs off n).bind (aY agg)<;>rfl
@[go_sem] theorem J7 (n : Nat) : idx (n : Int) = some n := by simp [idx]
@[go_sem] theorem NA : idx 0 = some 0 := (rfl)
theorem x9{i:Int}(h:0≤i):idx i=some i.toNat:=by simp[idx,h]
def yc(sz:Nat)(x i:Option D):Option (D×ab):=x.bind fun a=>(i.bind intOf).bind fun n=>(km H a n sz).map fun d=>(d,H)
@[go_sem] theorem NB (x i : X) (sz : Nat) : evO call get H (.ia x i sz) = yc H sz (get x) (get i) := (rfl)
def tO(sz:Nat)(e:T):Option (D×ab):=if e.cells.length=sz then some (.ep e.cells,H)else none
def J8(sz:Nat)(es:List T)(j:Nat):Option (D×ab):=es[j]?.bind (tO H sz)
@[go_sem] theorem J9 (sz : Nat) (es : List T) (j : Nat) : J8 H sz es j = es[j]?.bind (tO H sz) := (rfl)
@[go_sem] theorem Ka (k : IntKind) (es : List T) (n : Int) (sz : Nat) : yc H sz (some (.t (.sl es))) (some (.t (.int k n))) = (idx n).bind (J8 H sz es) := by
 simp only[yc,Option.bind_some,intOf,km]
 cases idx n with
 | none=>rfl
 | some j=>
   simp only[Option.bind_some,J8]
   cases es[j]? with
   | none=>rfl
   | some e=>simp only[Option.bind_some,tO];split<;>rfl
@[go_sem] theorem HT (k : IntKind) (n : Int) : tO H 1 (.int k n) = some (.ep [.int k n], H) := (rfl)
@[go_sem] theorem EW (b : Bool) : tO H 1 (.bool b) = some (.ep [.bool b], H) := (rfl)
@[go_sem] theorem Kb (es : List T) : tO H 1 (.sl es) = some (.ep [.sl es], H) := (rfl)
def du{α:Type}:Nat→List α→Bool
 | 0,[]=>true
 | n+1,_::r=>du n r
 | _,_=>false
@[go_sem] theorem Kc {α : Type} : du 0 ([] : List α) = true := (rfl)
@[go_sem] theorem Kd {α : Type} (n : Nat) (a : α) (l : List α) : du (n + 1) (a :: l) = du n l := (rfl)
theorem br{α:Type}:∀ {n:Nat} {l:List α},du n l=true↔l.length=n
 | 0,[]=>by simp[du]
 | 0,_::_=>by simp[du]
 | n+1,[]=>by simp[du]
 | n+1,_::r=>by simp only[du,List.length_cons,Nat.add_right_cancel_iff];exact br
@[go_sem] theorem HU (cs : List T) (sz : Nat) : tO H sz (.agg cs) = if du sz cs = true then some (.ep cs, H) else none := by
 by_cases h:cs.length=sz
 · rw[tO,if_pos (show(T.agg cs).cells.length=sz from h),if_pos (br.2 h)];rfl
 · rw[tO,if_neg (show ¬(T.agg cs).cells.length=sz from h),if_neg fun e=>h (br.1 e)]
def yd(sz id ep n j:Nat):Option Obj→Option (D×ab)
 | some (.arr sz' _ ep' es)=>if ep=ep'∧n=es.length then(if j<n∧sz'=sz then some (.ap id ep n j 0,H)else none)else none
 | _=>none
@[go_sem] theorem HV (k : IntKind) (id ep n : Nat) (i : Int) (sz : Nat) : yc H sz (some (.ref id ep n)) (some (.t (.int k i))) = (idx i).bind fun j => yd H sz id ep n j H[id]? := by
 simp only[yc,Option.bind_some,intOf,km]
 cases idx i with
 | none=>rfl
 | some j=>
   simp only[Option.bind_some,bE]
   generalize H[id]?=o
   rcases o with _ | (_ | ⟨sz',pin,ep',es⟩)
   · rfl
   · rfl
   · simp only[yd]
     by_cases h:ep=ep'∧n=es.length
     · rw[if_pos h,if_pos h,Option.bind_some];split<;>rfl
     · rw[if_neg h,if_neg h];rfl
@[go_sem] theorem EX (sz id ep n j sz' : Nat) (pin : Bool) (ep' : Nat) (es : List D) : yd H sz id ep n j (some (.arr sz' pin ep' es)) =
 if ep=ep'∧n=es.length then(if j<n∧sz'=sz then some (.ap id ep n j 0,H)else none)else none:=(rfl)
def ye(sz id ep n lo hi j:Nat):Option Obj→Option (D×ab)
 | some (.arr sz' _ ep' es)=>if ep=ep'∧n=es.length then(if lo+j<hi∧hi≤n∧sz'=sz then some (.ap id ep n (lo+j) 0,H)else none)else none
 | _=>none
@[go_sem] theorem HW (k : IntKind) (id ep n lo hi : Nat) (i : Int) (sz : Nat) : yc H sz (some (.sub id ep n lo hi)) (some (.t (.int k i))) = (idx i).bind fun j => ye H sz id ep n lo hi j H[id]? := by
 simp only[yc,Option.bind_some,intOf,km]
 cases idx i with
 | none=>rfl
 | some j=>
   simp only[Option.bind_some,bE]
   generalize H[id]?=o
   rcases o with _ | (_ | ⟨sz',pin,ep',es⟩)
   · rfl
   · rfl
   · simp only[ye]
     by_cases h:ep=ep'∧n=es.length
     · rw[if_pos h,if_pos h,Option.bind_some];split<;>rfl
     · rw[if_neg h,if_neg h];rfl
@[go_sem] theorem EY (sz id ep n lo hi j sz' : Nat) (pin : Bool) (ep' : Nat) (es : List D) : ye H sz id ep n lo hi j (some (.arr sz' pin ep' es)) =
 if ep=ep'∧n=es.length then(if lo+j<hi∧hi≤n∧sz'=sz then some (.ap id ep n (lo+j) 0,H)else none)else none:=(rfl)
def Ke(len sz:Nat)(agg:Bool)(x i:Option D):Option (D×ab):=x.bind fun a=>(i.bind intOf).bind fun n=>(idx n).bind fun j=>(kT a j len sz agg).map fun d=>(d,H)
def Kf(len sz:Nat)(agg:Bool)(a:D)(j:Nat):Option (D×ab):=(kT a j len sz agg).map fun d=>(d,H)
@[go_sem] theorem NC (x i : X) (len sz : Nat) (agg : Bool) : evO call get H (.ix x i len sz agg) = Ke H len sz agg (get x) (get i) := (rfl)
@[go_sem] theorem Kg (len sz : Nat) (agg : Bool) (a : D) (k : IntKind) (n : Int) : Ke H len sz agg (some a) (some (.t (.int k n))) = (idx n).bind (Kf H len sz agg a) := by
 simp only[Ke,Option.bind_some,intOf];cases idx n<;>rfl
@[go_sem] theorem HX (len j : Nat) (ts : List T) (h : j < len) (hs : (ts.all fun t => t.scalar) = true) : Kf H len 1 false (.t (.agg ts)) j = (ts[j]?).map fun t => (.t t, H) := by
 have h0:len≠0:=by omega
 unfold Kf kT
 rw[if_neg h0,if_pos h]
 unfold gZ cut
 simp only[D.isAgg,D.cells,T.cells,if_true,Nat.mul_one,List.length_map]
 by_cases hj:j<ts.length
 · rw[if_pos (by omega),List.getElem?_eq_getElem hj]
   have e:((ts.map D.t).drop j).take 1=[D.t ts[j]]:=by
    rw[List.drop_eq_getElem_cons (by simpa using hj)];simp
   rw[e];rfl
 · rw[if_neg (by omega),List.getElem?_eq_none (by omega)];rfl
def yf(len sz:Nat)(x i:Option D):Option (D×ab):=x.bind fun a=>(i.bind intOf).bind fun n=>(idx n).bind fun j=>if j<len then(oR a (j*sz)).map fun d=>(d,H)else none
@[go_sem] theorem Ml (x i : X) (len sz : Nat) : evO call get H (.iaa x i len sz) = yf H len sz (get x) (get i) := (rfl)
def Mm(len sz:Nat)(a:D)(j:Nat):Option (D×ab):=if j<len then BI H (j*sz) a else none
@[go_sem] theorem Kh (len sz : Nat) (a : D) (j : Nat) : Mm H len sz a j = if j < len then BI H (j * sz) a else none := (rfl)
@[go_sem] theorem HY (len sz : Nat) (a : D) (k : IntKind) (n : Int) : yf H len sz (some a) (some (.t (.int k n))) = (idx n).bind (Mm H len sz a) := by
 simp only[yf,Option.bind_some,intOf];cases idx n<;>rfl
def sj(n:Nat)(agg:Bool)(a:D):Option (D×ab):=(gG H a n agg).map fun d=>(d,H)
@[go_sem] theorem ND (x : X) (n : Nat) (agg : Bool) : evO call get H (.ld x n agg) = (get x).bind (sj H n agg) := (rfl)
def tP(off n:Nat)(agg:Bool):Option Obj→Option (D×ab)
 | some (.box cs)=>ofC H agg (cut cs off n)
 | _=>none
@[go_sem] theorem HZ (off n : Nat) (agg : Bool) (cs : List D) : tP H off n agg (some (.box cs)) = ofC H agg (cut cs off n) := (rfl)
@[go_sem] theorem Ki (id off n : Nat) (agg : Bool) : sj H n agg (.bp id off) = tP H off n agg H[id]? := by
 simp only[sj,gG]
 generalize H[id]?=o
 rcases o with _ | (cs | _)
 · rfl
 · simp only[tP,ofC];cases (cut cs off n).bind (aY agg)<;>rfl
 · rfl
@[go_sem] theorem Kj (cs : List T) (n : Nat) (agg : Bool) : sj H n agg (.ep cs) = ofC H agg (cut (cs.map .t) 0 n) := by
 simp only[sj,gG,ofC];cases (cut _ 0 n).bind (aY agg)<;>rfl
def H3(off n:Nat)(agg:Bool)(e:D):Option (D×ab):=ofC H agg (cut e.cells off n)
@[go_sem] theorem Kk (off n : Nat) (agg : Bool) (e : D) : H3 H off n agg e = ofC H agg (cut e.cells off n) := (rfl)
def yg(ep m i off n:Nat)(agg:Bool):Option Obj→Option (D×ab)
 | some (.arr _ _ ep' es)=>if ep=ep'∧m=es.length then es[i]?.bind (H3 H off n agg)else none
 | _=>none
@[go_sem] theorem H4 (ep m i off n : Nat) (agg : Bool) (sz : Nat) (pin : Bool) (ep' : Nat) (es : List D) :
 yg H ep m i off n agg (some (.arr sz pin ep' es))=if ep=ep'∧m=es.length then es[i]?.bind (H3 H off n agg)else none:=(rfl)
@[go_sem] theorem Kl (id ep m i off n : Nat) (agg : Bool) : sj H n agg (.ap id ep m i off) = yg H ep m i off n agg H[id]? := by
 simp only[sj,gG,bE]
 generalize H[id]?=o
 rcases o with _ | (_ | ⟨sz',pin,ep',es⟩)
 · rfl
 · rfl
 · simp only[yg]
   by_cases h:ep=ep'∧m=es.length
   · rw[if_pos h,if_pos h,Option.bind_some]
     cases es[i]? with
     | none=>rfl
     | some e=>simp only[Option.bind_some,H3,ofC];cases (cut e.cells off n).bind (aY agg)<;>rfl
   · rw[if_neg h,if_neg h];rfl
@[go_sem] theorem BJ (cs : List D) : (D.agg cs).cells = cs := (rfl)
@[go_sem] theorem H5 (x : T) : (D.t x).cells = x.cells.map .t := (rfl)
@[go_sem] theorem BK : D.nil.cells = [.nil] := (rfl)
@[go_sem] theorem EZ (a b : Nat) : (D.bp a b).cells = [.bp a b] := (rfl)
@[go_sem] theorem BL (a b c : Nat) : (D.ref a b c).cells = [.ref a b c] := (rfl)
@[go_sem] theorem BM (a b c d e : Nat) : (D.sub a b c d e).cells = [.sub a b c d e] := (rfl)
@[go_sem] theorem E1 (f : Nat) (cs : List D) : (D.fn f cs).cells = [.fn f cs] := (rfl)
@[go_sem] theorem yh : D.nilp.cells = [.nilp] := (rfl)
@[go_sem] theorem BN (cs : List T) : (T.agg cs).cells = cs := (rfl)
@[go_sem] theorem BO (k : IntKind) (n : Int) : (T.int k n).cells = [.int k n] := (rfl)
@[go_sem] theorem yi (b : Bool) : (T.bool b).cells = [.bool b] := (rfl)
@[go_sem] theorem BP (b : ByteArray) : (T.str b).cells = [.str b] := (rfl)
@[go_sem] theorem E2 (es : List T) : (T.sl es).cells = [.sl es] := (rfl)
def fits(n:Nat)(v:D):Bool:=decide (v.cells.length=n)&&v.bQ
section
variable (n : Nat)
@[go_sem] theorem fits_int (k : IntKind) (a : Int) : fits 1 (.t (.int k a)) = true := (rfl)
@[go_sem] theorem fits_bool (b : Bool) : fits 1 (.t (.bool b)) = true := (rfl)
@[go_sem] theorem Km (es : List T) : fits 1 (.t (.sl es)) = true := (rfl)
@[go_sem] theorem H6 : fits 1 .nil = true := (rfl)
@[go_sem] theorem H7 (a b c : Nat) : fits 1 (.ref a b c) = true := (rfl)
@[go_sem] theorem H8 (a b c d e : Nat) : fits 1 (.sub a b c d e) = true := (rfl)
@[go_sem] theorem Kn (a b : Nat) : fits 1 (.bp a b) = true := (rfl)
@[go_sem] theorem Ko (f : Nat) (cs : List D) : fits 1 (.fn f cs) = true := (rfl)
@[go_sem] theorem H9 (cs : List D) : fits n (.agg cs) = du n cs := by rw [Bool.eq_iff_iff, br]; show (decide (cs.length = n) && true) = true ↔ _; simp
@[go_sem] theorem E3 (cs : List T) : fits n (.t (.agg cs)) = du n cs := by rw [Bool.eq_iff_iff, br]; simp [fits, D.cells, T.cells, D.bQ]
end
@[go_sem] theorem yj {α : Type} (cs : List α) : aj cs 0 [] = some cs := by simp [aj]
@[go_sem] theorem yk {α : Type} (c x : α) (cs xs : List α) : aj (c :: cs) 0 (x :: xs) = cD x (aj cs 0 xs) := by
 simp only[aj,cD];by_cases h:xs.length≤cs.length<;>simp[h]
@[go_sem] theorem yl {α : Type} (c : α) (cs : List α) (off : Nat) (xs : List α) : aj (c :: cs) (off + 1) xs = cD c (aj cs off xs) := by
 simp only[aj,cD,List.length_cons]
 by_cases h:off+xs.length≤cs.length
 · rw[if_pos h,if_pos (by omega)];simp[show off+1+xs.length=(off+xs.length)+1 by omega]
 · rw[if_neg h,if_neg (by omega)];rfl
def ym(n:Nat)(live:List (Nat×Nat))(a x:Option D):Option (D×ab):=a.bind fun p=>x.bind fun d=>(gY H p d n).bind fun H'=>(dN H' p live).map fun H''=>(.tup [],H'')
@[go_sem] theorem NF (a x : X) (n : Nat) (live : List (Nat × Nat)) : evO call get H (.st a x n live) = ym H n live (get a) (get x) := (rfl)
def ka(H:ab)(id:Nat)(live:List (Nat×Nat)):Option (D×ab):=(dN H (.bp id 0) live).map fun H'=>(.tup [],H')
def oo(id:Nat)(live:List (Nat×Nat))(cs:List D):Option (D×ab):=ka (H.set id (.box cs)) id live
@[go_sem] theorem E4 (id : Nat) (live : List (Nat × Nat)) (cs : List D) : oo H id live cs = ka (H.set id (.box cs)) id live := (rfl)
@[go_sem] theorem BQ (H : ab) (id : Nat) : ka H id [] = some (.tup [], H) := (rfl)
def yn(id off:Nat)(live:List (Nat×Nat))(xs:List D):Option Obj→Option (D×ab)
 | some (.box cs)=>(aj cs off xs).bind (oo H id live)
 | _=>none
@[go_sem] theorem Ia (id off : Nat) (live : List (Nat × Nat)) (xs cs : List D) : yn H id off live xs (some (.box cs)) = (aj cs off xs).bind (oo H id live) := (rfl)
@[go_sem] theorem Kp (n id off : Nat) (live : List (Nat × Nat)) (v : D) : ym H n live (some (.bp id off)) (some v) = if fits n v = true then yn H id off live v.cells H[id]? else none := by
 by_cases h:fits n v=true
 case neg=>
  rw[if_neg h]
  simp only[fits,Bool.and_eq_true,decide_eq_true_eq]at h
  simp only[ym,Option.bind_some,gY,if_neg h];rfl
 rw[if_pos h]
 simp only[fits,Bool.and_eq_true,decide_eq_true_eq]at h
 simp only[ym,Option.bind_some,gY,h.1,h.2,and_self,if_true]
 generalize H[id]?=o
 rcases o with _ | (cs | _)
 · rfl
 · simp only[yn]
   cases aj cs off v.cells with
   | none=>rfl
   | some cs'=>simp only[Option.map_some,Option.bind_some,oo,ka,dN]
 · rfl
def lQ(id sz ep i:Nat)(es:List D)(agg:Bool)(cs:List D):Option (D×ab):=(aY agg cs).bind fun e=>if e.bQ then some (.tup [],H.set id (.arr sz false ep (es.set i e)))else none
def Ib(id sz ep i off:Nat)(es xs:List D)(e:D):Option (D×ab):=(aj e.cells off xs).bind (lQ H id sz ep i es e.isAgg)
@[go_sem] theorem Kq (id sz ep i off : Nat) (es xs : List D) (e : D) : Ib H id sz ep i off es xs e = (aj e.cells off xs).bind (lQ H id sz ep i es e.isAgg) := (rfl)
@[go_sem] theorem E5 (cs : List D) : (D.agg cs).isAgg = true := (rfl)
@[go_sem] theorem BR (cs : List T) : (D.t (.agg cs)).isAgg = true := (rfl)
@[go_sem] theorem E6 (k : IntKind) (n : Int) : (D.t (.int k n)).isAgg = false := (rfl)
@[go_sem] theorem BS (b : Bool) : (D.t (.bool b)).isAgg = false := (rfl)
@[go_sem] theorem E7 (b : ByteArray) : (D.t (.str b)).isAgg = false := (rfl)
@[go_sem] theorem Ic (es : List T) : (D.t (.sl es)).isAgg = false := (rfl)
@[go_sem] theorem E8 : D.nil.isAgg = false := (rfl)
@[go_sem] theorem E9 (a b c : Nat) : (D.ref a b c).isAgg = false := (rfl)
@[go_sem] theorem Fa (a b c d e : Nat) : (D.sub a b c d e).isAgg = false := (rfl)
@[go_sem] theorem Kr (id sz ep i : Nat) (es : List D) (x : T) : lQ H id sz ep i es false [.t x] = some (.tup [], H.set id (.arr sz false ep (es.set i (.t x)))) := (rfl)
@[go_sem] theorem Fb (id sz ep i : Nat) (es : List D) : lQ H id sz ep i es false [.nil] = some (.tup [], H.set id (.arr sz false ep (es.set i .nil))) := (rfl)
@[go_sem] theorem Fc (id sz ep i a b c : Nat) (es : List D) : lQ H id sz ep i es false [.ref a b c] = some (.tup [], H.set id (.arr sz false ep (es.set i (.ref a b c)))) := (rfl)
theorem nd(cs:List D):(eY cs).bQ=true:=by unfold eY;cases dK cs<;>rfl
@[go_sem] theorem Ks (id sz ep i : Nat) (es cs : List D) : lQ H id sz ep i es true cs = some (.tup [], H.set id (.arr sz false ep (es.set i (eY cs)))) := by
 simp[lQ,aY,nd]
def yo(id ep m i off:Nat)(xs:List D):Option Obj→Option (D×ab)
 | some (.arr sz pin ep' es)=>if ep=ep'∧m=es.length then(if pin then none else es[i]?.bind (Ib H id sz ep i off es xs))else none
 | _=>none
@[go_sem] theorem Ie (id ep m i off : Nat) (xs : List D) (sz : Nat) (pin : Bool) (ep' : Nat) (es : List D) :
 yo H id ep m i off xs (some (.arr sz pin ep' es))=if ep=ep'∧m=es.length then(if pin=true then none else es[i]?.bind (Ib H id sz ep i off es xs))else none:=(rfl)
@[go_sem] theorem Kt (n id ep m i off : Nat) (v : D) : ym H n [] (some (.ap id ep m i off)) (some v) = if fits n v = true then yo H id ep m i off v.cells H[id]? else none := by
 by_cases h:fits n v=true
 case neg=>
  rw[if_neg h]
  simp only[fits,Bool.and_eq_true,decide_eq_true_eq]at h
  simp only[ym,Option.bind_some,gY,if_neg h];rfl
 rw[if_pos h]
 simp only[fits,Bool.and_eq_true,decide_eq_true_eq]at h
 simp only[ym,Option.bind_some,gY,h.1,h.2,and_self,if_true,bE]
 generalize H[id]?=o
 rcases o with _ | (_ | ⟨sz',pin,ep',es⟩)
 · rfl
 · rfl
 · simp only[yo]
   by_cases h:ep=ep'∧m=es.length
   · rw[if_pos h,if_pos h,Option.bind_some]
     cases pin with
     | true=>rfl
     | false=>
       simp only[Bool.false_eq_true,if_false]
       cases es[i]? with
       | none=>rfl
       | some e=>
         simp only[Option.bind_some,Ib]
         cases aj e.cells off v.cells with
         | none=>rfl
         | some cs'=>
           simp only[Option.bind_some,lQ]
           cases aY e.isAgg cs' with
           | none=>rfl
           | some e'=>
             simp only[Option.bind_some]
             by_cases h3:e'.bQ=true
             · rw[if_pos h3,if_pos h3,h.1];rfl
             · rw[if_neg h3,if_neg h3];rfl
   · rw[if_neg h,if_neg h];rfl
def yp(zero:List D)(ps:List (Nat×Nat×D)):Option (D×ab):=(fO zero ps).map fun cs=>(eY cs,H)
@[go_sem] theorem NG (zero : List D) (parts : List (Nat × Nat × X)) : evO call get H (.bd zero parts) = (cS get parts).bind (yp H zero) := (rfl)
@[go_sem] theorem vF : cS get [] = some [] := (rfl)
def Fe(off n:Nat)(r:List (Nat×Nat×X))(d:D):Option (List (Nat×Nat×D)):=cD (off,n,d) (cS get r)
@[go_sem] theorem Ig (off n : Nat) (r : List (Nat × Nat × X)) (d : D) : Fe get off n r d = cD (off, n, d) (cS get r) := (rfl)
@[go_sem] theorem tQ (off n : Nat) (x : X) (r : List (Nat × Nat × X)) : cS get ((off, n, x) :: r) = (get x).bind (Fe get off n r) := (rfl)
@[go_sem] theorem Ih (zero : List D) : yp H zero [] = some (eY zero, H) := (rfl)
def bdC(r:List (Nat×Nat×D))(z:List D):Option (D×ab):=yp H z r
@[go_sem] theorem Mn (r : List (Nat × Nat × D)) (z : List D) : bdC H r z = yp H z r := (rfl)
@[go_sem] theorem Ff (zero : List D) (off n : Nat) (x : D) (r : List (Nat × Nat × D)) : yp H zero ((off, n, x) :: r) = if fits n x = true then (aj zero off x.cells).bind (bdC H r) else none := by
 by_cases h:fits n x=true
 case neg=>
  rw[if_neg h]
  have h2:(x.bQ&&x.cells.length==n)=false:=by rw[← Bool.not_eq_true,Bool.and_comm];simpa [fits]using h
  simp only[yp,fO,h2];rfl
 rw[if_pos h]
 simp only[fits,Bool.and_eq_true,decide_eq_true_eq]at h
 simp only[yp,fO,h.1,h.2,beq_self_eq_true,Bool.and_self,if_true]
 cases aj zero off x.cells<;>rfl
def aE(n:Nat):List T→Bool
 | []=>true
 | x::r=>du n x.cells&&aE n r
@[go_sem] theorem vG (n : Nat) : aE n [] = true := (rfl)
@[go_sem] theorem gq (n : Nat) (x : T) (r : List T) : aE n (x :: r) = (du n x.cells && aE n r) := (rfl)
def kc(sz:Nat)(ds:List D):Option (D×ab):=if ds.all (fun d=>d.cells.length==sz)then(aH (frz H depth) ds).map fun ts=>(.t (.sl ts),pins H (ds.flatMap (bJ H depth)))else none
@[go_sem] theorem NH (xs : List X) (sz : Nat) : evO call get H (.bs xs sz) = (aH get xs).bind (kc H sz) := (rfl)
theorem Fg(sz:Nat)(ds:List D)(ts:List T)(h:dK ds=some ts)(hc:aE sz ts=true):kc H sz ds=some (.t (.sl ts),H):=by
 have key:∀(ds:List D) (ts:List T),dK ds=some ts→aE sz ts=true→ds.all (fun d=>d.cells.length==sz)=true∧aH (frz H depth) ds=some ts∧ds.flatMap (bJ H depth)=[]:=by
  intro ds
  induction ds with
  | nil=>intro ts h hc;simp[dK]at h;subst h;simp[aH]
  | cons d ds ih=>
    intro ts h hc
    cases d with
    | t x=>
      simp only[dK,Option.map_eq_some_iff]at h
      obtain⟨r,hr,rfl⟩:=h
      simp only[aE,Bool.and_eq_true,br]at hc
      obtain⟨h1,h2,h3⟩:=ih r hr hc.2
      refine⟨by rw[List.all_cons,h1,Bool.and_true];simp[D.cells,hc.1],by simp[aH,frz,h2],by rw[List.flatMap_cons,h3];simp[bJ]⟩
    | _=>simp[dK]at h
 obtain⟨h1,h2,h3⟩:=key ds ts h hc
 simp[kc,h1,h2,h3,pins]
theorem eE(sz:Nat)(ts:List T):kc H sz (ts.map D.t)=if aE sz ts=true then some (.t (.sl ts),H)else none:=by
 by_cases h:aE sz ts=true
 · rw[if_pos h];exact Fg H sz _ ts (tN ts) h
 · rw[if_neg h]
   have:(ts.map D.t).all (fun d=>d.cells.length==sz)=false:=by
    rw[← Bool.not_eq_true];intro ha;apply h
    clear h
    induction ts with
    | nil=>rfl
    | cons a r ih=>
      simp only[List.map_cons,List.all_cons,Bool.and_eq_true,beq_iff_eq]at ha
      simp only[aE,Bool.and_eq_true,br]
      exact⟨by simpa [D.cells]using ha.1,ih ha.2⟩
   simp only[kc,this];rfl
@[go_sem] theorem Mo (sz : Nat) : kc H sz [] = some (.t (.sl []), H) := (rfl)
@[go_sem] theorem Mp (sz : Nat) (a : T) : kc H sz [.t a] = if aE sz [a] = true then some (.t (.sl [a]), H) else none := eE H sz [a]
@[go_sem] theorem Mq (sz : Nat) (a b : T) : kc H sz [.t a, .t b] = if aE sz [a, b] = true then some (.t (.sl [a, b]), H) else none := eE H sz [a, b]
@[go_sem] theorem Mr (sz : Nat) (a b c : T) : kc H sz [.t a, .t b, .t c] = if aE sz [a, b, c] = true then some (.t (.sl [a, b, c]), H) else none := eE H sz [a, b, c]
@[go_sem] theorem Ms (sz : Nat) (a b c d : T) : kc H sz [.t a, .t b, .t c, .t d] = if aE sz [a, b, c, d] = true then some (.t (.sl [a, b, c, d]), H) else none := eE H sz [a, b, c, d]
@[go_sem] theorem Mt (sz : Nat) (a b c d e : T) : kc H sz [.t a, .t b, .t c, .t d, .t e] = if aE sz [a, b, c, d, e] = true then some (.t (.sl [a, b, c, d, e]), H) else none := eE H sz [a, b, c, d, e]
def Fh(a:D):Option (D×ab):=(G8 a).map fun(n:Nat)=>(D.t (.int .i64 (n:Int)),H)
@[go_sem] theorem NI (x : X) : evO call get H (.ln x) = (get x).bind (Fh H) := (rfl)
@[go_sem] theorem Ku (es : List T) : Fh H (.t (.sl es)) = some (I es.length, H) := (rfl)
@[go_sem] theorem Ii : Fh H .nil = some (I 0, H) := (rfl)
@[go_sem] theorem Ij (id ep n : Nat) : Fh H (.ref id ep n) = some (I n, H) := (rfl)
@[go_sem] theorem Ik (id ep n lo hi : Nat) : Fh H (.sub id ep n lo hi) = some (I ((hi - lo : Nat) : Int), H) := (rfl)
def Fi(ds:List D):Option (D×ab):=(DM ds).map fun d=>(d,H)
def Fj(ds:List D):Option (D×ab):=(DN ds).map fun d=>(d,H)
@[go_sem] theorem NJ (xs : List X) : evO call get H (.mn xs) = (aH get xs).bind (Fi H) := (rfl)
@[go_sem] theorem NK (xs : List X) : evO call get H (.mx xs) = (aH get xs).bind (Fj H) := (rfl)
@[go_sem] theorem Mu (k : IntKind) (a b : Int) : Fi H [.t (.int k a), .t (.int k b)] = some (.t (.int k (min a b)), H) := by
 simp only[Fi,DM,jI,if_true,Option.map_some];congr 4;omega
@[go_sem] theorem Mv (k : IntKind) (a b : Int) : Fj H [.t (.int k a), .t (.int k b)] = some (.t (.int k (max a b)), H) := by
 simp only[Fj,DN,jI,if_true,Option.map_some];congr 4;omega
@[go_sem] theorem Mw (k : IntKind) (a b c : Int) : Fi H [.t (.int k a), .t (.int k b), .t (.int k c)] = some (.t (.int k (min (min a b) c)), H) := by
 simp only[Fi,DM,jI,if_true,Option.map_some];congr 4;omega
@[go_sem] theorem Mx (k : IntKind) (a b c : Int) : Fj H [.t (.int k a), .t (.int k b), .t (.int k c)] = some (.t (.int k (max (max a b) c)), H) := by
 simp only[Fj,DN,jI,if_true,Option.map_some];congr 4;omega
def lR(sz:Nat)(x:Option D)(lo hi:Option (Option Int)):Option (D×ab):=x.bind fun a=>lo.bind fun l=>hi.bind fun h=>(dk H a l h sz).map fun d=>(d,H)
@[go_sem] theorem NL (x : X) (lo hi : Option X) (sz : Nat) : evO call get H (.sc x lo hi sz) = lR H sz (get x) (oS get lo) (oS get hi) := (rfl)
def Fk:D→Option (Option Int)
 | .t (.int _ n)=>some (some n)
 | _=>none
@[go_sem] theorem Il (k : IntKind) (n : Int) : Fk (.t (.int k n)) = some (some n) := (rfl)
@[go_sem] theorem Fl : oS get none = some none := (rfl)
@[go_sem] theorem Fm (x : X) : oS get (some x) = (get x).bind Fk := by
 simp only[oS];cases get x with
 | none=>rfl
 | some d=>cases d with
   | t y=>cases y<;>rfl
   | _=>rfl
def Kv(i:Nat)(a:D):Option (D×ab):=(DO i a).map fun d=>(d,H)
@[go_sem] theorem NM (x : X) (i : Nat) : evO call get H (.ex x i) = (get x).bind (Kv H i) := (rfl)
def exO:Option D→Option (D×ab)
 | some d=>some (d,H)
 | none=>none
@[go_sem] theorem Im (d : D) : exO H (some d) = some (d, H) := (rfl)
@[go_sem] theorem Io (i : Nat) (ds : List D) : Kv H i (.tup ds) = exO H ds[i]? := by simp only [Kv, DO, exO]; cases ds[i]? <;> rfl
def Kw(f:Nat)(ds:List D):Option (D×ab):=some (.fn f ds,H)
@[go_sem] theorem Kx (f : Nat) (ds : List D) : Kw H f ds = some (.fn f ds, H) := (rfl)
@[go_sem] theorem NN (f : Nat) (caps : List X) : evO call get H (.mf f caps) = (aH get caps).bind (Kw H f) := by simp only [evO, Kw]; cases aH get caps <;> rfl
@[go_sem] theorem NQ (sz : Nat) : evO call get H (.nw sz) = some (.ref H.length 0 0, H ++ [.arr sz false 0 []]) := (rfl)
def alP(p:List D×ab):Option (D×ab):=some (.bp H.length 0,H++ .box p.1::p.2)
@[go_sem] theorem My (cs : List D) (os : ab) : alP H (cs, os) = some (.bp H.length 0, H ++ .box cs :: os) := (rfl)
@[go_sem] theorem NR (zero : List D) (live : List (Nat × Nat)) : evO call get H (.al zero live) = alP H (aD (H.length + 1) zero live) := (rfl)
@[go_sem] theorem yq (base : Nat) (cs : List D) : aD base cs [] = (cs, []) := (rfl)
def Ky(n:Nat)(a:D):Option (D×ab):=if a.cells.length=n∧a.bQ then some (.bp H.length 0,H++[.box a.cells])else none
@[go_sem] theorem NS (x : X) (n : Nat) : evO call get H (.bx x n) = (get x).bind (Ky H n) := (rfl)
@[go_sem] theorem Kz (n : Nat) (a : D) : Ky H n a = if fits n a = true then some (.bp H.length 0, H ++ [.box a.cells]) else none := by
 simp[Ky,fits]
def Ip(sz:Nat)(zero:D)(n:Option Nat):Option (D×ab):=n.bind fun m=>if m≤lim then some (.ref H.length 0 m,H++[.arr sz false 0 (List.replicate m zero)])else none
def mkN(sz:Nat)(zero:D):D→Option (D×ab)
 | .t (.int _ n)=>Ip H sz zero (idx n)
 | _=>none
@[go_sem] theorem KA (sz : Nat) (zero : D) (k : IntKind) (n : Int) : mkN H sz zero (.t (.int k n)) = Ip H sz zero (idx n) := (rfl)
@[go_sem] theorem NT (len : X) (zero : D) (sz : Nat) : evO call get H (.mk len zero sz) = (get len).bind (mkN H sz zero) := by
 simp only[evO];cases get len with
 | none=>rfl
 | some d=>cases d with
   | t y=>cases y<;>rfl
   | _=>rfl
@[go_sem] theorem KB (sz : Nat) (zero : D) (m : Nat) (h : m ≤ 4294967296) : Ip H sz zero (some m) = some (.ref H.length 0 m, H ++ [.arr sz false 0 (List.replicate m zero)]) := by
 simp[Ip,lim,h]
def tR(zero:T)(n:Option Nat):Option (D×ab):=n.bind fun m=>if m≤lim then some (.t (.sl (List.replicate m zero)),H)else none
def Mz(zero:T):D→Option (D×ab)
 | .t (.int _ n)=>tR H zero (idx n)
 | _=>none
@[go_sem] theorem Iq (zero : T) (k : IntKind) (n : Int) : Mz H zero (.t (.int k n)) = tR H zero (idx n) := (rfl)
@[go_sem] theorem MA (len : X) (zero : T) (sz : Nat) : evO call get H (.mkt len zero sz) = (get len).bind (Mz H zero) := by
 simp only[evO];cases get len with
 | none=>rfl
 | some d=>cases d with
   | t y=>cases y<;>rfl
   | _=>rfl
@[go_sem] theorem Ir (zero : T) (m : Nat) (h : m ≤ 4294967296) : tR H zero (some m) = some (.t (.sl (List.replicate m zero)), H) := by
 simp[tR,lim,h]
def dW(sz:Nat)(fz:Bool)(x y:Option D):Option (D×ab):=x.bind fun a=>y.bind fun b=>cY H a b fz sz
@[go_sem] theorem MB (x y : X) (fz : Bool) (sz : Nat) : evO call get H (.app x y fz sz) = dW H sz fz (get x) (get y) := (rfl)
def ik(sz id ep n:Nat)(ys:List D):Option Obj→Option (D×ab)
 | some (.arr sz' pin ep' es)=>if ep=ep'∧n=es.length∧sz'=sz∧n+ys.length≤lim then some (.ref id ep (n+ys.length),H.set id (.arr sz pin ep (es++ys)))else none
 | _=>none
@[go_sem] theorem Fo (sz id ep n : Nat) (ys : List D) (pin : Bool) (es : List D) :
 ik H sz id ep n ys (some (.arr sz pin ep es))=if n=es.length then(if n+ys.length≤4294967296 then some (.ref id ep (n+ys.length),H.set id (.arr sz pin ep (es++ys)))else none)else none:=by
 simp only[ik,lim]
 by_cases h1:n=es.length
 · rw[if_pos h1]
   by_cases h2:n+ys.length≤4294967296
   · rw[if_pos h2,if_pos ⟨trivial,h1,trivial,h2⟩]
   · rw[if_neg h2,if_neg fun h=>h2 h.2.2.2]
 · rw[if_neg h1,if_neg fun h=>h1 h.2.1]
theorem gr(ts:List T):aH (fun d=>(frz H depth d).map D.t) (ts.map D.t)=some (ts.map D.t):=by
 induction ts with
 | nil=>rfl
 | cons t ts ih=>simp[aH,frz,ih]
theorem oq(ts:List T):(ts.map D.t).flatMap (bJ H depth)=[]:=by
 induction ts with
 | nil=>rfl
 | cons t ts ih=>rw[List.map_cons,List.flatMap_cons,ih];simp[bJ,depth]
theorem lS(sz:Nat)(fz:Bool)(x:D)(ts:List T)(h:aK sz (ts.map D.t)=false):dW H sz fz (some x) (some (.t (.sl ts)))=none:=by
 have e1:(if fz then aH (fun d=>(frz H depth d).map D.t) (ts.map D.t)else some (ts.map D.t))=some (ts.map D.t):=by
  cases fz<;>simp[gr]
 simp only[dW,Option.bind_some,cY,elems,e1,h,Bool.false_eq_true,if_false]
def dv(sz:Nat)(ts:List T):Bool:=aK sz (ts.map D.t)
theorem qR(sz id ep n:Nat)(fz:Bool)(ts:List T)(h:dv sz ts=true):dW H sz fz (some (.ref id ep n)) (some (.t (.sl ts)))=ik H sz id ep n (ts.map .t) H[id]?:=by
 have e1:(if fz then aH (fun d=>(frz H depth d).map D.t) (ts.map D.t)else some (ts.map D.t))=some (ts.map D.t):=by
  cases fz<;>simp[gr]
 have e2:(if fz then pins H ((ts.map D.t).flatMap (bJ H depth))else H)=H:=by
  cases fz
  · rfl
  · simp only[if_true];rw[oq];rfl
 unfold dv at h
 simp only[dW,Option.bind_some,cY,elems,e1,h,if_true,e2,bE]
 generalize H[id]?=o
 rcases o with _ | (_ | ⟨sz',pin,ep',es⟩)
 · rfl
 · rfl
 · simp only[ik]
   by_cases h1:ep=ep'∧n=es.length
   · rw[if_pos h1,Option.bind_some]
     by_cases h2:sz'=sz∧n+(ts.map D.t).length≤lim
     · rw[if_pos h2,if_pos ⟨h1.1,h1.2,h2⟩]
     · rw[if_neg h2,if_neg fun h=>h2 h.2.2]
   · rw[if_neg h1,if_neg fun h=>h1 ⟨h.1,h.2.1⟩];rfl
@[go_sem] theorem Fp (sz id ep n : Nat) (fz : Bool) (ts : List T) : dW H sz fz (some (.ref id ep n)) (some (.t (.sl ts))) = if dv sz ts = true then ik H sz id ep n (ts.map .t) H[id]? else none := by
 by_cases h:dv sz ts=true
 · rw[if_pos h,qR H sz id ep n fz ts h]
 · rw[if_neg h];exact lS H sz fz _ ts (by simpa [dv]using h)
@[go_sem] theorem Fq (sz : Nat) (fz : Bool) (ts : List T) : dW H sz fz (some .nil) (some (.t (.sl ts))) =
 if dv sz ts=true then(if ts.length≤4294967296 then some (.ref H.length 0 ts.length,H++[.arr sz false 0 (ts.map .t)])else none)else none:=by
 by_cases h:dv sz ts=true
 · rw[if_pos h]
   have e1:(if fz then aH (fun d=>(frz H depth d).map D.t) (ts.map D.t)else some (ts.map D.t))=some (ts.map D.t):=by
    cases fz<;>simp[gr]
   have e2:(if fz then pins H ((ts.map D.t).flatMap (bJ H depth))else H)=H:=by
    cases fz
    · rfl
    · simp only[if_true];rw[oq];rfl
   unfold dv at h
   simp only[dW,Option.bind_some,cY,elems,e1,h,if_true,e2,lim,List.length_map]
 · rw[if_neg h];exact lS H sz fz _ ts (by simpa [dv]using h)
@[go_sem] theorem Fs (sz : Nat) : dv sz [] = true := (rfl)
@[go_sem] theorem BT (sz : Nat) (x : T) (r : List T) : dv sz (x :: r) = du sz x.cells := by
 rw[Bool.eq_iff_iff,br];simp[dv,aK,D.cells]
@[go_sem] theorem Ft (l : List Int) (k : IntKind) : dv 1 (l.map (.int k)) = true := by cases l <;> rfl
@[go_sem] theorem BU (l : List Bool) : dv 1 (l.map .bool) = true := by cases l <;> rfl
@[go_sem] theorem Is (l : List (List T)) : dv 1 (l.map .sl) = true := by cases l <;> rfl
def pc(call:ah)(f raw:Nat)(keep:List Nat)(ds:List D):Option (D×ab):=fP call H f raw keep ds
@[go_sem] theorem NU (f raw : Nat) (keep : List Nat) (xs : List X) : evO call get H (.ca f raw keep xs) = (aH get xs).bind (pc H call f raw keep) := (rfl)
def MC(call:ah)(raw:Nat)(keep:List Nat)(x:Option D)(xs:Option (List D)):Option (D×ab):=x.bind fun
 | .fn f caps=>xs.bind fun ds=>fP call H f raw keep (ds++caps)
 | _=>none
@[go_sem] theorem NV (x : X) (raw : Nat) (keep : List Nat) (xs : List X) : evO call get H (.cw x raw keep xs) = MC H call raw keep (get x) (aH get xs) := (rfl)
@[go_sem] theorem KC (raw : Nat) (keep : List Nat) (f : Nat) (caps ds : List D) : MC H call raw keep (some (.fn f caps)) (some ds) = pc H call f raw keep (ds ++ caps) := (rfl)
def cU(H:ab):List D→Option (List T)
 | []=>some []
 | .t x::r=>cD x (cU H r)
 | .nil::r=>cD (.sl []) (cU H r)
 | _::_=>none
@[go_sem] theorem KD : cU H [] = some [] := (rfl)
@[go_sem] theorem KE (x : T) (r : List D) : cU H (.t x :: r) = cD x (cU H r) := (rfl)
@[go_sem] theorem Fu (r : List D) : cU H (.nil :: r) = cD (.sl []) (cU H r) := (rfl)
@[go_sem] theorem Fv (cs : List D) (r : List D) : cU H (.agg cs :: r) = none := (rfl)
@[go_sem] theorem It (a b : Nat) (r : List D) : cU H (.bp a b :: r) = none := (rfl)
@[go_sem] theorem Fw (a b c : Nat) (r : List D) : cU H (.ref a b c :: r) = none := (rfl)
@[go_sem] theorem Fx (a b c d e : Nat) (r : List D) : cU H (.sub a b c d e :: r) = none := (rfl)
@[go_sem] theorem Iu (f : Nat) (cs : List D) (r : List D) : cU H (.fn f cs :: r) = none := (rfl)
@[go_sem] theorem Iv (a b c d e : Nat) (r : List D) : cU H (.ap a b c d e :: r) = none := (rfl)
@[go_sem] theorem Iw (cs : List T) (r : List D) : cU H (.ep cs :: r) = none := (rfl)
@[go_sem] theorem BV (r : List D) : cU H (.nilp :: r) = none := (rfl)
@[go_sem] theorem Fy (r : List D) : cU H (.und :: r) = none := (rfl)
end
theorem fE(H:ab):∀ {ds:List D} {ts:List T},cU H ds=some ts→∀i,dM H [] i ds=some (ts.map .t)∧aI H [] i ds=[]
 | [],ts,h,i=>by simp[cU]at h;subst h;exact⟨rfl,rfl⟩
 | d::r,ts,h,i=>by
   cases d with
   | t x=>
     simp only[cU,cD,Option.map_eq_some_iff]at h
     obtain⟨l,hl,rfl⟩:=h
     obtain⟨h1,h2⟩:=fE H hl (i+1)
     exact⟨by simp[dM,iN,h1],by simp[aI,bJ,depth,h2]⟩
   | nil=>
     simp only[cU,cD,Option.map_eq_some_iff]at h
     obtain⟨l,hl,rfl⟩:=h
     obtain⟨h1,h2⟩:=fE H hl (i+1)
     exact⟨by simp[dM,iN,h1],by simp[aI,bJ,depth,h2]⟩
   | _=>simp[cU]at h
theorem qS(ts:List T)(n:Nat):(ts.map D.t).flatMap (ids n)=[]:=by
 induction ts with
 | nil=>rfl
 | cons t ts ih=>rw[List.map_cons,List.flatMap_cons,ih];simp[ids]
theorem yr(f:Nat→Option Nat)(ts:List T):aH (ren f depth) (ts.map .t)=some (ts.map .t):=by
 induction ts with
 | nil=>rfl
 | cons t ts ih=>simp[aH,ren,depth]at ih ⊢;exact ih
def iD:D→Bool
 | .t _=>true
 | .tup ds=>ds.all fun | .t _=>true | _=>false
 | _=>false
theorem kF{f:Nat→Option Nat}{d:D}(h:iD d=true):ren f depth d=some d:=by
 cases d with
 | t x=>rfl
 | tup ds=>
   simp only[iD]at h
   have:aH (ren f 7) ds=some ds:=by
    induction ds with
    | nil=>rfl
    | cons d ds ih=>
      simp only[List.all_cons,Bool.and_eq_true]at h
      cases d with
      | t x=>simp[aH,ren,ih h.2]
      | _=>simp at h
   simp[ren,depth,this]
 | _=>simp[iD]at h
def jA(H:ab)(p:D×ab):Option (D×ab):=if iD p.1&&p.2.isEmpty then some (p.1,H)else
 (ren (aX [] H.length) depth p.1).bind fun r'=>(aH (bI (aX [] H.length)) p.2).map fun os=>(r',H++os)
@[go_sem] theorem KF (H : ab) (x : T) : jA H (.t x, []) = some (.t x, H) := (rfl)
@[go_sem] theorem KG (H : ab) : jA H (.tup [], []) = some (.tup [], H) := (rfl)
@[go_sem] theorem KH (H : ab) (x y : T) : jA H (.tup [.t x, .t y], []) = some (.tup [.t x, .t y], H) := (rfl)
@[go_sem] theorem KI (H : ab) (x y z : T) : jA H (.tup [.t x, .t y, .t z], []) = some (.tup [.t x, .t y, .t z], H) := (rfl)
@[go_sem] theorem KJ (H : ab) (x y z u : T) : jA H (.tup [.t x, .t y, .t z, .t u], []) = some (.tup [.t x, .t y, .t z, .t u], H) := (rfl)
theorem qT(H:ab)(call:ah)(f raw:Nat)(ds:List D)(ts:List T)(h:cU H ds=some ts):
 pc H call f raw [] ds=(call raw f (ts.map .t) []).bind (jA H):=by
 obtain⟨h1,h2⟩:=fE H h 0
 simp only[pc,fP,h1,Option.bind_some,qS,bk,reach,eo,List.flatMap_nil,h2,pins,yr,pick,aH]
 cases hc:call raw f (ts.map .t) []with
 | none=>rfl
 | some p=>
   obtain⟨d,os⟩:=p
   simp only[Option.bind_some,List.isEmpty_nil,Bool.true_and,jA]
   by_cases h3:os=[]
   · subst h3
     simp only[List.isEmpty_nil,Bool.true_and,Bool.and_true,aH,Option.map_some,List.length_nil,List.take_nil,aN,List.drop_nil,List.append_nil]
     by_cases h4:iD d=true
     · rw[if_pos h4]
       split
       · rfl
       · rw[kF h4];rfl
     · rw[if_neg h4]
       split
       · rename_i h5
         exfalso
         apply h4
         cases d with
         | t x=>rfl
         | tup ds=>
           simp only[dL,List.all_eq_true]at h5
           simp only[iD,List.all_eq_true]
           intro y hy
           have:=h5 y hy
           cases y<;>simp_all [fq]
         | _=>simp[dL]at h5
       · rfl
   · have:os.isEmpty=false:=by cases os<;>simp_all
     simp only[this,Bool.false_and,Bool.and_false,if_false,Bool.false_eq_true,List.length_nil,List.take_zero,aN,List.drop_zero]
@[go_sem] theorem BW (st : St) : bX st [] = some [] := (rfl)
def MD(st:St)(r:List (Nat×Option (Nat×Bool)))(d:D):Option (List D):=cD d (bX st r)
@[go_sem] theorem KK (vs : List D) (H : ab) (r : List (Nat × Option (Nat × Bool))) (d : D) : MD ⟨vs, H⟩ r d = cD d (bX ⟨vs, H⟩ r) := (rfl)
@[go_sem] theorem BX (vs : List D) (H : ab) (j : Nat) (r : List (Nat × Option (Nat × Bool))) : bX ⟨vs, H⟩ ((j, none) :: r) = vs[j]?.bind (MD ⟨vs, H⟩ r) := (rfl)
def KL(st:St)(r:List (Nat×Option (Nat×Bool)))(p:D×ab):Option (List D):=cD p.1 (bX st r)
@[go_sem] theorem KM (vs : List D) (H : ab) (r : List (Nat × Option (Nat × Bool))) (d : D) (H' : ab) : KL ⟨vs, H⟩ r (d, H') = cD d (bX ⟨vs, H⟩ r) := (rfl)
def KN(st:St)(n:Nat)(agg:Bool)(r:List (Nat×Option (Nat×Bool)))(p:D):Option (List D):=(sj st.H n agg p).bind (KL st r)
@[go_sem] theorem KO (vs : List D) (H : ab) (n : Nat) (agg : Bool) (r : List (Nat × Option (Nat × Bool))) (p : D) : KN ⟨vs, H⟩ n agg r p = (sj H n agg p).bind (KL ⟨vs, H⟩ r) := (rfl)
@[go_sem] theorem yt (vs : List D) (H : ab) (j n : Nat) (agg : Bool) (r : List (Nat × Option (Nat × Bool))) : bX ⟨vs, H⟩ ((j, some (n, agg)) :: r) = vs[j]?.bind (KN ⟨vs, H⟩ n agg r) := by
 simp only[bX]
 cases vs[j]? with
 | none=>rfl
 | some p=>
   simp only[Option.bind_some,KN,sj]
   cases gG H p n agg<;>rfl
@[go_sem] theorem KP (H : ab) (n : Nat) (x : T) : frz H n (.t x) = some x := by cases n <;> rfl
@[go_sem] theorem KQ (H : ab) (n : Nat) : frz H n .nil = some (.sl []) := by cases n <;> rfl
@[go_sem] theorem KR (H : ab) (n : Nat) (cs : List D) : frz H (n + 1) (.agg cs) = (aH (frz H n) cs).map .agg := (rfl)
@[go_sem] theorem pd (H : ab) (n : Nat) (ts : List T) : aH (frz H n) (ts.map .t) = some ts := by
 induction ts with
 | nil=>rfl
 | cons t ts ih=>simp[aH,KP,ih]
def frA(H:ab)(n ep m lo hi:Nat):Option Obj→Option T
 | some (.arr _ _ ep' es)=>if ep=ep'∧m=es.length then(aH (frz H n) ((es.drop lo).take (hi-lo))).map .sl else none
 | _=>none
def frR(H:ab)(n ep m:Nat):Option Obj→Option T
 | some (.arr _ _ ep' es)=>if ep=ep'∧m=es.length then(aH (frz H n) es).map .sl else none
 | _=>none
@[go_sem] theorem KS (H : ab) (n id ep m : Nat) : frz H (n + 1) (.ref id ep m) = frR H n ep m H[id]? := by
 simp only[frz,bE]
 generalize H[id]?=o
 rcases o with _ | (_ | ⟨sz',pin,ep',es⟩)
 · rfl
 · rfl
 · simp only[frR]
   by_cases h:ep=ep'∧m=es.length
   · rw[if_pos h,if_pos h];rfl
   · rw[if_neg h,if_neg h];rfl
@[go_sem] theorem KT (H : ab) (n id ep m lo hi : Nat) : frz H (n + 1) (.sub id ep m lo hi) = frA H n ep m lo hi H[id]? := by
 simp only[frz,bE]
 generalize H[id]?=o
 rcases o with _ | (_ | ⟨sz',pin,ep',es⟩)
 · rfl
 · rfl
 · simp only[frA]
   by_cases h:ep=ep'∧m=es.length
   · rw[if_pos h,if_pos h];rfl
   · rw[if_neg h,if_neg h];rfl
@[go_sem] theorem KU (H : ab) (n ep m sz : Nat) (pin : Bool) (es : List D) : frR H n ep m (some (.arr sz pin ep es)) = if m = es.length then (aH (frz H n) es).map .sl else none := by simp [frR]
@[go_sem] theorem KV (H : ab) (n ep m lo hi sz : Nat) (pin : Bool) (es : List D) : frA H n ep m lo hi (some (.arr sz pin ep es)) = if m = es.length then (aH (frz H n) ((es.drop lo).take (hi - lo))).map .sl else none := by simp [frA]
@[go_sem] theorem FA (H : ab) (x : T) : iN H (.t x) = some (.t x) := (rfl)
@[go_sem] theorem Ix (H : ab) : iN H .nil = some (.t (.sl [])) := (rfl)
@[go_sem] theorem Iy (H : ab) (cs : List D) : iN H (.agg cs) = (frz H 8 (.agg cs)).map .t := (rfl)
@[go_sem] theorem Iz (H : ab) (id ep n : Nat) : iN H (.ref id ep n) = (frz H 8 (.ref id ep n)).map .t := (rfl)
@[go_sem] theorem IA (H : ab) (id ep n lo hi : Nat) : iN H (.sub id ep n lo hi) = (frz H 8 (.sub id ep n lo hi)).map .t := (rfl)
@[go_sem] theorem yu (H : ab) (id off : Nat) : iN H (.bp id off) = some (.bp id off) := (rfl)
@[go_sem] theorem KW (H : ab) (id ep n i off : Nat) : iN H (.ap id ep n i off) = some (.ap id ep n i off) := (rfl)
@[go_sem] theorem KX (H : ab) (cs : List T) : iN H (.ep cs) = some (.ep cs) := (rfl)
@[go_sem] theorem KY (H : ab) (f : Nat) (cs : List D) : iN H (.fn f cs) = some (.fn f cs) := (rfl)
def ltB:Nat→Nat→Bool
 | _,0=>false
 | 0,_+1=>true
 | m+1,n+1=>ltB m n
@[go_sem] theorem NW (m : Nat) : ltB m 0 = false := by cases m <;> rfl
@[go_sem] theorem ME (n : Nat) : ltB 0 (n + 1) = true := (rfl)
@[go_sem] theorem MF (m n : Nat) : ltB (m + 1) (n + 1) = ltB m n := (rfl)
theorem dX:∀ {m n:Nat},ltB m n=decide (m<n)
 | m,0=>by cases m<;>simp[ltB]
 | 0,n+1=>by simp[ltB]
 | m+1,n+1=>by simp[ltB,dX (m:=m) (n:=n)]
def eqB:Nat→Nat→Bool
 | 0,0=>true
 | m+1,n+1=>eqB m n
 | _,_=>false
@[go_sem] theorem MG : eqB 0 0 = true := (rfl)
@[go_sem] theorem MH (n : Nat) : eqB 0 (n + 1) = false := (rfl)
@[go_sem] theorem MI (n : Nat) : eqB (n + 1) 0 = false := (rfl)
@[go_sem] theorem MJ (m n : Nat) : eqB (m + 1) (n + 1) = eqB m n := (rfl)
theorem nf:∀ {m n:Nat},eqB m n=decide (m=n)
 | 0,0=>rfl
 | 0,n+1=>rfl
 | m+1,0=>rfl
 | m+1,n+1=>by simp[eqB,nf (m:=m) (n:=n)]
section
variable (k n : Nat)
@[go_sem] theorem KZ (x : T) : old k n (.t x) = true := by cases n <;> rfl
@[go_sem] theorem K0 : old k n .nil = true := by cases n <;> rfl
@[go_sem] theorem MK (cs : List T) : old k n (.ep cs) = true := by cases n <;> rfl
@[go_sem] theorem IB : old k n .nilp = true := by cases n <;> rfl
@[go_sem] theorem K1 : old k n .und = true := by cases n <;> rfl
@[go_sem] theorem FB (id off : Nat) : old k n (.bp id off) = ltB id k := by cases n <;> simp [old, dX]
@[go_sem] theorem ML (id ep m i off : Nat) : old k n (.ap id ep m i off) = ltB id k := by cases n <;> simp [old, dX]
@[go_sem] theorem K2 (id ep m : Nat) : old k n (.ref id ep m) = ltB id k := by cases n <;> simp [old, dX]
@[go_sem] theorem K3 (id ep m lo hi : Nat) : old k n (.sub id ep m lo hi) = ltB id k := by cases n <;> simp [old, dX]
def bl(n:Nat)(cs:List D):Bool:=cs.all (old k n)
@[go_sem] theorem BZ : bl k n [] = true := (rfl)
@[go_sem] theorem ng (d : D) (r : List D) : bl k n (d :: r) = (old k n d && bl k n r) := (rfl)
@[go_sem] theorem ot (ts : List T) : bl k n (ts.map .t) = true := by
 induction ts with
 | nil=>rfl
 | cons t ts ih=>rw[List.map_cons,ng,KZ,ih];rfl
@[go_sem] theorem B0 (m : Nat) (x : T) : bl k n (List.replicate m (.t x)) = true := by
 have:List.replicate m (D.t x)=(List.replicate m x).map .t:=by simp
 rw[this,ot]
@[go_sem] theorem B1 (a b : List D) : bl k n (a ++ b) = (bl k n a && bl k n b) := by simp [bl]
@[go_sem] theorem K4 (cs : List D) : old k (n + 1) (.agg cs) = bl k n cs := (rfl)
@[go_sem] theorem K5 (cs : List D) : old k (n + 1) (.tup cs) = bl k n cs := (rfl)
@[go_sem] theorem MM (f : Nat) (cs : List D) : old k (n + 1) (.fn f cs) = bl k n cs := (rfl)
end
def bn(k:Nat):ab→Bool
 | []=>true
 | .box cs::r=>bl k 8 cs&&bn k r
 | .arr _ _ _ es::r=>bl k 8 es&&bn k r
@[go_sem] theorem yv (k : Nat) : bn k [] = true := (rfl)
@[go_sem] theorem yw (k : Nat) (cs : List D) (r : ab) : bn k (.box cs :: r) = (bl k 8 cs && bn k r) := (rfl)
@[go_sem] theorem yx (k sz ep : Nat) (pin : Bool) (es : List D) (r : ab) : bn k (.arr sz pin ep es :: r) = (bl k 8 es && bn k r) := (rfl)
theorem cX(k:Nat)(H:ab):H.all (fun o=>o.ds.all (old k depth))=bn k H:=by
 induction H with
 | nil=>rfl
 | cons o r ih=>rw[List.all_cons,ih];cases o<;>rfl
def yy(d:D)(b:Bool):D:=if b then d else .und
@[go_sem] theorem B2 (d : D) : yy d true = d := (rfl)
@[go_sem] theorem yz (d : D) : yy d false = .und := (rfl)
@[go_sem] theorem K6 (k : Nat) (d : D) : kill k d = yy d (old k 8 d) := (rfl)
def pe(k:Nat):List D→List D
 | []=>[]
 | d::r=>kill k d::pe k r
@[go_sem] theorem FC (k : Nat) : pe k [] = [] := (rfl)
@[go_sem] theorem B3 (k : Nat) (d : D) (r : List D) : pe k (d :: r) = kill k d :: pe k r := (rfl)
theorem tS(k:Nat)(vs:List D):vs.map (kill k)=pe k vs:=by
 induction vs with
 | nil=>rfl
 | cons d r ih=>rw[List.map_cons,ih];rfl
@[go_sem] theorem IC (k : Nat) (vs : List D) (H : ab) : oT k ⟨vs, H⟩ = if bn k (H.take k) = true then some ⟨pe k vs, H.take k⟩ else none := by
 simp only[oT,cX,tS]
@[go_sem] theorem qU (H : ab) (n : Nat) (x : T) : bJ H n (.t x) = [] := by cases n <;> rfl
@[go_sem] theorem ID (H : ab) (n : Nat) : bJ H n .nil = [] := by cases n <;> rfl
@[go_sem] theorem yA (H : ab) (n id off : Nat) : bJ H n (.bp id off) = [] := by cases n <;> rfl
@[go_sem] theorem K7 (H : ab) (n f : Nat) (cs : List D) : bJ H n (.fn f cs) = [] := by cases n <;> rfl
@[go_sem] theorem K8 (H : ab) (n : Nat) (cs : List T) : bJ H n (.ep cs) = [] := by cases n <;> rfl
@[go_sem] theorem K9 (H : ab) (n a b c d e : Nat) : bJ H n (.ap a b c d e) = [] := by cases n <;> rfl
def ef(H:ab)(n:Nat)(cs:List D):List Nat:=cs.flatMap (bJ H n)
@[go_sem] theorem FD (H : ab) (n : Nat) : ef H n [] = [] := (rfl)
@[go_sem] theorem pf (H : ab) (n : Nat) (d : D) (r : List D) : ef H n (d :: r) = bJ H n d ++ ef H n r := (rfl)
@[go_sem] theorem La (H : ab) (n : Nat) (ts : List T) : ef H n (ts.map .t) = [] := by
 induction ts with
 | nil=>rfl
 | cons t ts ih=>rw[List.map_cons,pf,ih,qU];rfl
@[go_sem] theorem FE (H : ab) (n : Nat) (a b : List D) : ef H n (a ++ b) = ef H n a ++ ef H n b := by simp [ef]
@[go_sem] theorem IE (H : ab) (n : Nat) (cs : List D) : bJ H (n + 1) (.agg cs) = ef H n cs := (rfl)
def yB(H:ab)(n:Nat):Option Obj→List Nat
 | some (.arr _ _ _ es)=>ef H n es
 | _=>[]
@[go_sem] theorem FF (H : ab) (n sz ep : Nat) (pin : Bool) (es : List D) : yB H n (some (.arr sz pin ep es)) = ef H n es := (rfl)
@[go_sem] theorem IF (H : ab) (n id ep m : Nat) : bJ H (n + 1) (.ref id ep m) = id :: yB H n H[id]? := (rfl)
@[go_sem] theorem IG (H : ab) (n id ep m lo hi : Nat) : bJ H (n + 1) (.sub id ep m lo hi) = id :: yB H n H[id]? := (rfl)
@[go_sem] theorem Lb : iA [] = .tup [] := (rfl)
@[go_sem] theorem Lc (d : D) : iA [d] = d := (rfl)
@[go_sem] theorem Ld (a b : D) (r : List D) : iA (a :: b :: r) = .tup (a :: b :: r) := (rfl)
def lT(k:Nat):List Nat→Bool
 | []=>true
 | i::r=> !ltB i k&&lT k r
@[go_sem] theorem FG (k : Nat) : lT k [] = true := (rfl)
@[go_sem] theorem B4 (k i : Nat) (r : List Nat) : lT k (i :: r) = (!ltB i k && lT k r) := (rfl)
theorem ou(k:Nat)(l:List Nat):l.all (fun i=>decide (k≤i))=lT k l:=by
 induction l with
 | nil=>rfl
 | cons i r ih=>
   rw[List.all_cons,ih]
   simp only[lT,dX]
   congr 1
   rw[Bool.eq_iff_iff];simp
def IH(k raw:Nat)(H:ab)(ds rs:List D):Option (D×ab):=
 (dm H (max raw 1) (List.range k) (rs.flatMap (ids depth)++eo H (List.range k))).bind fun q=>
  if(b6 H raw ds).all (fun i=> !(List.range k++q.1).contains i)then
   (aH (ren (idxOf (List.range k++q.1)) depth) rs).bind fun rs'=>
    (aH (bI (idxOf (List.range k++q.1))) (H.take k++q.2)).map fun hs'=>(iA rs',hs')
  else none
def B5(k raw:Nat)(H:ab)(ds rs:List D)(b:Bool):Option (D×ab):=
 if b then(if lT k (b6 H raw ds)=true then some (iA rs,H.take k)else none)else IH k raw H ds rs
@[go_sem] theorem FH (k raw : Nat) (H : ab) (ds rs : List D) : B5 k raw H ds rs true = if lT k (b6 H raw ds) = true then some (iA rs, H.take k) else none := (rfl)
def FI(k raw:Nat)(H:ab)(ds rs:List D):Option (D×ab):=B5 k raw H ds rs (bl k 8 rs&&bn k (H.take k))
@[go_sem] theorem Le (k raw : Nat) (H : ab) (ds rs : List D) : FI k raw H ds rs = B5 k raw H ds rs (bl k 8 rs && bn k (H.take k)) := (rfl)
@[go_sem] theorem FJ (k : Nat) (H : ab) (ds : List D) : finish k 0 H ds = (aH (iN H) ds).bind (FI k 0 H ds) := by
 simp only[finish,if_true,cX,ou]
 cases aH (iN H) ds with
 | none=>rfl
 | some rs=>
   simp only[Option.bind_some,FI,B5]
   show(if(bl k 8 rs&&bn k (H.take k))=true then _ else _)=_
   cases (bl k 8 rs&&bn k (H.take k))<;>rfl
@[go_sem] theorem FK (H : ab) (ds : List D) : b6 H 0 ds = ef H 8 ds := (rfl)
@[go_sem] theorem FL (vs : List D) : cZ [] vs = vs := (rfl)
@[go_sem] theorem B6 (i : Nat) (r : List Nat) (vs : List D) : cZ (i :: r) vs = cZ r (vs.set i .und) := (rfl)
@[go_sem] theorem Lf (dead : List Nat) (k : Nat) (vs : List D) (H : ab) : tidy false dead k ⟨vs, H⟩ = some ⟨cZ dead vs, H⟩ := (rfl)
@[go_sem] theorem Lg (dead : List Nat) (k : Nat) (vs : List D) (H : ab) : tidy true dead k ⟨vs, H⟩ = oT k ⟨cZ dead vs, H⟩ := (rfl)
section
variable (H : ab) (call : ah) (f raw : Nat) (keep : List Nat) (ds : List D)
def kG(H1:ab)(n:Nat)(sel:List Nat)(p:D×ab):Option (D×ab):=
 (ren (aX sel n) depth p.1).bind fun r'=>(aH (bI (aX sel n)) p.2).map fun os=>(r',aN H1 sel (os.take sel.length)++os.drop sel.length)
def fF(H1:ab)(sel:List Nat)(p:D×ab):Option (D×ab):=
 if sel.isEmpty&&p.2.isEmpty&&dL p.1 then some (p.1,H)else kG H1 H.length sel p
def yC(args:List D)(H1:ab)(sel:List Nat)(hs:ab):Option (D×ab):=(call raw f args hs).bind (fF H H1 sel)
def yD(args:List D)(H1:ab)(sel:List Nat)(hs:ab):Option (D×ab):=(aH (bI (idxOf sel)) hs).bind (yC H call f raw args H1 sel)
def yE(H1:ab)(sel:List Nat)(args:List D):Option (D×ab):=(pick H1 sel).bind (yD H call f raw args H1 sel)
def yF(args:List D)(sel:List Nat):Option (D×ab):=(aH (ren (idxOf sel) depth) args).bind (yE H call f raw (pins H (aI H keep 0 ds)) sel)
def jB(n:Nat)(cs:List D):List Nat:=cs.flatMap (ids n)
def yG(args:List D):Option (D×ab):=yF H call f raw keep ds args (reach H 3 (bk [] (jB 8 args)))
def qV:Option (D×ab):=(dM H keep 0 ds).bind (yG H call f raw keep ds)
theorem tT:pc H call f raw keep ds=qV H call f raw keep ds:=(rfl)
@[go_sem] theorem tU : qV H call f raw keep ds = (dM H keep 0 ds).bind (yG H call f raw keep ds) := (rfl)
@[go_sem] theorem tV (args : List D) : yG H call f raw keep ds args = yF H call f raw keep ds args (reach H 3 (bk [] (jB 8 args))) := (rfl)
@[go_sem] theorem tW (args : List D) (sel : List Nat) : yF H call f raw keep ds args sel = (aH (ren (idxOf sel) 8) args).bind (yE H call f raw (pins H (aI H keep 0 ds)) sel) := (rfl)
@[go_sem] theorem tX (H1 : ab) (sel : List Nat) (args : List D) : yE H call f raw H1 sel args = (pick H1 sel).bind (yD H call f raw args H1 sel) := (rfl)
@[go_sem] theorem tY (args : List D) (H1 : ab) (sel : List Nat) (hs : ab) : yD H call f raw args H1 sel hs = (aH (bI (idxOf sel)) hs).bind (yC H call f raw args H1 sel) := (rfl)
@[go_sem] theorem tZ (args : List D) (H1 : ab) (sel : List Nat) (hs : ab) : yC H call f raw args H1 sel hs = (call raw f args hs).bind (fF H H1 sel) := (rfl)
def ua(H1:ab)(sel:List Nat)(r:D)(os:ab):Option (D×ab):=some (r,aN H1 sel (os.take sel.length)++os.drop sel.length)
@[go_sem] theorem uc (H1 : ab) (sel : List Nat) (r : D) (os : ab) : ua H1 sel r os = some (r, aN H1 sel (os.take sel.length) ++ os.drop sel.length) := (rfl)
def yH(H1:ab)(n:Nat)(sel:List Nat)(os:ab)(r:D):Option (D×ab):=(aH (bI (aX sel n)) os).bind (ua H1 sel r)
@[go_sem] theorem ov (H1 : ab) (n : Nat) (sel : List Nat) (os : ab) (r : D) : yH H1 n sel os r = (aH (bI (aX sel n)) os).bind (ua H1 sel r) := (rfl)
@[go_sem] theorem ow (H1 : ab) (n : Nat) (sel : List Nat) (r : D) (os : ab) : kG H1 n sel (r, os) = (ren (aX sel n) 8 r).bind (yH H1 n sel os) := by
 simp only[kG,depth]
 cases ren (aX sel n) 8 r with
 | none=>rfl
 | some r'=>simp only[Option.bind_some,yH];cases aH (bI (aX sel n)) os<;>rfl
@[go_sem] theorem FM (H1 : ab) (i : Nat) (sel : List Nat) (p : D × ab) : fF H H1 (i :: sel) p = kG H1 H.length (i :: sel) p := (rfl)
@[go_sem] theorem II (H1 : ab) (sel : List Nat) (r : D) (o : Obj) (os : ab) : fF H H1 sel (r, o :: os) = kG H1 H.length sel (r, o :: os) := by
 simp[fF]
@[go_sem] theorem Lh (H1 : ab) (k : IntKind) (n : Int) : fF H H1 [] (.t (.int k n), []) = some (.t (.int k n), H) := (rfl)
@[go_sem] theorem Li (H1 : ab) (b : Bool) : fF H H1 [] (.t (.bool b), []) = some (.t (.bool b), H) := (rfl)
@[go_sem] theorem IJ (H1 : ab) (es : List T) : fF H H1 [] (.t (.sl es), []) = some (.t (.sl es), H1) := by simp [fF, kG, dL, T.scalar, ren, depth, aH, aN]
@[go_sem] theorem FN (H1 : ab) (es : List T) : fF H H1 [] (.t (.agg es), []) = some (.t (.agg es), H1) := by simp [fF, kG, dL, T.scalar, ren, depth, aH, aN]
@[go_sem] theorem FO (H1 : ab) (ds : List D) : fF H H1 [] (.tup ds, []) = if ds.all fq then some (.tup ds, H) else kG H1 H.length [] (.tup ds, []) := by
 simp[fF,dL]
def yI:Option (List T)→Option (D×ab)
 | some ts=>(call raw f (ts.map .t) []).bind (jA H)
 | none=>qV H call f raw [] ds
@[go_sem] theorem B7 (ts : List T) : yI H call f raw ds (some ts) = (call raw f (ts.map .t) []).bind (jA H) := (rfl)
@[go_sem] theorem B8 : yI H call f raw ds none = qV H call f raw [] ds := (rfl)
@[go_sem] theorem Lj : pc H call f raw [] ds = yI H call f raw ds (cU H ds) := by
 cases h:cU H ds with
 | none=>rfl
 | some ts=>exact qT H call f raw ds ts h
@[go_sem] theorem MN (k : Nat) : pc H call f raw (k :: keep) ds = qV H call f raw (k :: keep) ds := (rfl)
end
section
variable (H : ab) (keep : List Nat)
@[go_sem] theorem FP (i : Nat) : dM H keep i [] = some [] := (rfl)
def mu(i:Nat):List Nat→Bool
 | []=>false
 | j::r=>eqB i j||mu i r
@[go_sem] theorem IK (i : Nat) : mu i [] = false := (rfl)
@[go_sem] theorem FQ (i j : Nat) (r : List Nat) : mu i (j :: r) = (eqB i j || mu i r) := (rfl)
theorem kH(i:Nat)(l:List Nat):l.contains i=mu i l:=by
 induction l with
 | nil=>rfl
 | cons j r ih=>rw[List.contains_cons,ih];simp only[mu,nf];rw[beq_eq_decide_nat]
where beq_eq_decide_nat {a b:Nat}:(a==b)=decide (a=b):=by rw[Bool.eq_iff_iff];simp
def Lk(d:D):Bool→Option D
 | true=>some d
 | false=>iN H d
@[go_sem] theorem MO (d : D) : Lk H d true = some d := (rfl)
@[go_sem] theorem vH (d : D) : Lk H d false = iN H d := (rfl)
def MP(i:Nat)(r:List D)(x:D):Option (List D):=cD x (dM H keep (i+1) r)
@[go_sem] theorem qW (i : Nat) (r : List D) (x : D) : MP H keep i r x = cD x (dM H keep (i + 1) r) := (rfl)
@[go_sem] theorem kd (i : Nat) (d : D) (r : List D) : dM H keep i (d :: r) = (Lk H d (mu i keep)).bind (MP H keep i r) := by
 simp only[dM,kH]
 cases mu i keep<;>rfl
@[go_sem] theorem sk (i : Nat) : aI H keep i [] = [] := (rfl)
def frK(l:List Nat):Bool→List Nat
 | true=>[]
 | false=>l
@[go_sem] theorem NX (l : List Nat) : frK l true = [] := (rfl)
@[go_sem] theorem FR (l : List Nat) : frK l false = l := (rfl)
@[go_sem] theorem eF (i : Nat) (d : D) (r : List D) : aI H keep i (d :: r) = frK (bJ H 8 d) (mu i keep) ++ aI H keep (i + 1) r := by
 simp only[aI,kH]
 cases mu i keep<;>rfl
@[go_sem] theorem IL (H : ab) : pins H [] = H := (rfl)
@[go_sem] theorem FT (H : ab) (i : Nat) (r : List Nat) : pins H (i :: r) = pins (H.modify i nJ) r := (rfl)
def pg(i:Nat):Option Obj→ab
 | some (.arr sz _ ep es)=>H.set i (.arr sz true ep es)
 | _=>H
@[go_sem] theorem FU (i : Nat) (cs : List D) : pg H i (some (.box cs)) = H := (rfl)
@[go_sem] theorem FV (i sz ep : Nat) (pin : Bool) (es : List D) : pg H i (some (.arr sz pin ep es)) = H.set i (.arr sz true ep es) := (rfl)
theorem ud{α:Type}{l:List α}{i:Nat}{x:α}(h:l[i]?=some x):l.set i x=l:=by
 apply List.ext_getElem?
 intro j
 rw[List.getElem?_set]
 split
 · rename_i e;subst e
   split
   · exact h.symm
   · rename_i hl;rw[List.getElem?_eq_none (by omega)]at h;cases h
 · rfl
@[go_sem] theorem B9 (i : Nat) : List.modify H i nJ = pg H i H[i]? := by
 apply List.ext_getElem?
 intro j
 rw[List.getElem?_modify]
 cases h:H[i]? with
 | none=>
   simp only[pg]
   by_cases e:i=j
   · subst e;rw[h];simp
   · simp[e]
 | some o=>
   have hi:i<H.length:=(List.getElem?_eq_some_iff.1 h).1
   cases o with
   | box cs=>
     simp only[pg]
     by_cases e:i=j
     · subst e;rw[h];simp[nJ]
     · simp[e]
   | arr sz pin ep es=>
     simp only[pg]
     rw[List.getElem?_set]
     by_cases e:i=j
     · subst e;rw[h];simp[nJ,hi]
     · simp[e]
section
variable (n : Nat)
@[go_sem] theorem NY (x : T) : ids n (.t x) = [] := by cases n <;> rfl
@[go_sem] theorem Ll : ids n .nil = [] := by cases n <;> rfl
@[go_sem] theorem IM : ids n .nilp = [] := by cases n <;> rfl
@[go_sem] theorem Lm : ids n .und = [] := by cases n <;> rfl
@[go_sem] theorem MQ (cs : List T) : ids n (.ep cs) = [] := by cases n <;> rfl
@[go_sem] theorem FW (id off : Nat) : ids n (.bp id off) = [id] := by cases n <;> rfl
@[go_sem] theorem MR (id ep m i off : Nat) : ids n (.ap id ep m i off) = [id] := by cases n <;> rfl
@[go_sem] theorem Ln (id ep m : Nat) : ids n (.ref id ep m) = [id] := by cases n <;> rfl
@[go_sem] theorem Lo (id ep m lo hi : Nat) : ids n (.sub id ep m lo hi) = [id] := by cases n <;> rfl
@[go_sem] theorem Lp (cs : List D) : ids (n + 1) (.agg cs) = jB n cs := (rfl)
@[go_sem] theorem Lq (cs : List D) : ids (n + 1) (.tup cs) = jB n cs := (rfl)
@[go_sem] theorem FX (f : Nat) (cs : List D) : ids (n + 1) (.fn f cs) = jB n cs := (rfl)
@[go_sem] theorem ue : jB n [] = [] := (rfl)
@[go_sem] theorem qX (d : D) (r : List D) : jB n (d :: r) = ids n d ++ jB n r := (rfl)
@[go_sem] theorem oy (ts : List T) : jB n (ts.map .t) = [] := qS ts n
@[go_sem] theorem oz (a b : List D) : jB n (a ++ b) = jB n a ++ jB n b := by simp [jB]
@[go_sem] theorem IN (m : Nat) (x : T) : jB n (List.replicate m (.t x)) = [] := by
 have:List.replicate m (D.t x)=(List.replicate m x).map .t:=by simp
 rw[this,oy]
end
def qY(sel:List Nat)(i:Nat):Bool→List Nat
 | true=>sel
 | false=>sel++[i]
@[go_sem] theorem IP (sel : List Nat) (i : Nat) : qY sel i true = sel := (rfl)
@[go_sem] theorem IQ (sel : List Nat) (i : Nat) : qY sel i false = sel ++ [i] := (rfl)
@[go_sem] theorem Ca (sel : List Nat) : bk sel [] = sel := (rfl)
@[go_sem] theorem yJ (sel : List Nat) (i : Nat) (r : List Nat) : bk sel (i :: r) = bk (qY sel i (mu i sel)) r := by
 simp only[bk,kH]
 cases mu i sel<;>rfl
def oA:Option Obj→List Nat
 | some (.box cs)=>jB 8 cs
 | some (.arr _ _ _ es)=>jB 8 es
 | none=>[]
@[go_sem] theorem Cb (cs : List D) : oA (some (.box cs)) = jB 8 cs := (rfl)
@[go_sem] theorem Cc (sz ep : Nat) (pin : Bool) (es : List D) : oA (some (.arr sz pin ep es)) = jB 8 es := (rfl)
@[go_sem] theorem FY : eo H [] = [] := (rfl)
@[go_sem] theorem Cd (i : Nat) (r : List Nat) : eo H (i :: r) = oA H[i]? ++ eo H r := by
 simp only[eo,List.flatMap_cons]
 congr 1
 cases H[i]? with
 | none=>rfl
 | some o=>cases o<;>rfl
@[go_sem] theorem Lr (sel : List Nat) : reach H 0 sel = sel := (rfl)
@[go_sem] theorem Lt (n : Nat) (sel : List Nat) : reach H (n + 1) sel = reach H n (bk sel (eo H sel)) := (rfl)
@[go_sem] theorem IS : pick H [] = some [] := (rfl)
def FZ(r:List Nat)(o:Obj):Option ab:=cD o (pick H r)
@[go_sem] theorem uf (r : List Nat) (o : Obj) : FZ H r o = cD o (pick H r) := (rfl)
@[go_sem] theorem qZ (i : Nat) (r : List Nat) : pick H (i :: r) = H[i]?.bind (FZ H r) := (rfl)
end
section
variable (f : Nat → Option Nat) (n : Nat)
@[go_sem] theorem Lu (x : T) : ren f n (.t x) = some (.t x) := by cases n <;> rfl
@[go_sem] theorem Lv : ren f n .nil = some .nil := by cases n <;> rfl
@[go_sem] theorem IT : ren f n .nilp = some .nilp := by cases n <;> rfl
@[go_sem] theorem Lw : ren f n .und = some .und := by cases n <;> rfl
@[go_sem] theorem MS (cs : List T) : ren f n (.ep cs) = some (.ep cs) := by cases n <;> rfl
def MT(off:Nat)(i:Nat):D:= .bp i off
@[go_sem] theorem Lx (off i : Nat) : MT off i = .bp i off := (rfl)
@[go_sem] theorem F3 (id off : Nat) : ren f n (.bp id off) = (f id).map (MT off) := by cases n <;> rfl
def MU(ep m i off:Nat)(j:Nat):D:= .ap j ep m i off
@[go_sem] theorem Ly (ep m i off j : Nat) : MU ep m i off j = .ap j ep m i off := (rfl)
@[go_sem] theorem MV (id ep m i off : Nat) : ren f n (.ap id ep m i off) = (f id).map (MU ep m i off) := by cases n <;> rfl
def F4(ep m:Nat)(j:Nat):D:= .ref j ep m
@[go_sem] theorem IU (ep m j : Nat) : F4 ep m j = .ref j ep m := (rfl)
@[go_sem] theorem Lz (id ep m : Nat) : ren f n (.ref id ep m) = (f id).map (F4 ep m) := by cases n <;> rfl
def F5(ep m lo hi:Nat)(j:Nat):D:= .sub j ep m lo hi
@[go_sem] theorem IV (ep m lo hi j : Nat) : F5 ep m lo hi j = .sub j ep m lo hi := (rfl)
@[go_sem] theorem LA (id ep m lo hi : Nat) : ren f n (.sub id ep m lo hi) = (f id).map (F5 ep m lo hi) := by cases n <;> rfl
@[go_sem] theorem F6 (g : Nat) (cs : List D) : ren f (n + 1) (.fn g cs) = (aH (ren f n) cs).map (.fn g) := (rfl)
@[go_sem] theorem LB (cs : List D) : ren f (n + 1) (.agg cs) = (aH (ren f n) cs).map .agg := (rfl)
@[go_sem] theorem LC (cs : List D) : ren f (n + 1) (.tup cs) = (aH (ren f n) cs).map .tup := (rfl)
@[go_sem] theorem eW (ts : List T) : aH (ren f n) (ts.map .t) = some (ts.map .t) := by
 induction ts with
 | nil=>rfl
 | cons t ts ih=>rw[List.map_cons,lP,Lu,Option.bind_some,x6,ih];rfl
@[go_sem] theorem vI (m : Nat) (x : T) : aH (ren f n) (List.replicate m (.t x)) = some (List.replicate m (.t x)) := by
 have:List.replicate m (D.t x)=(List.replicate m x).map .t:=by simp
 rw[this,eW]
@[go_sem] theorem ph (cs : List D) : bI f (.box cs) = (aH (ren f 8) cs).map .box := (rfl)
@[go_sem] theorem Ce (sz ep : Nat) (pin : Bool) (es : List D) : bI f (.arr sz pin ep es) = (aH (ren f 8) es).map (.arr sz pin ep) := (rfl)
end
def Cf(x:Option Nat):Bool→Option Nat
 | true=>some 0
 | false=>x.map (· +1)
@[go_sem] theorem MW (x : Option Nat) : Cf x true = some 0 := (rfl)
@[go_sem] theorem MX (k : Nat) : Cf (some k) false = some (k + 1) := (rfl)
@[go_sem] theorem MY : Cf none false = none := (rfl)
@[go_sem] theorem idxOf_nil (i : Nat) : idxOf [] i = none := (rfl)
@[go_sem] theorem idxOf_cons (j i : Nat) (r : List Nat) : idxOf (j :: r) i = Cf (idxOf r i) (eqB j i) := by
 simp only[idxOf,nf]
 by_cases h:j=i
 · simp[h,Cf]
 · simp[h,Cf]
@[go_sem] theorem Cg (n i : Nat) : aX [] n i = some (n + i) := by simp [aX]
@[go_sem] theorem IW (j n : Nat) (r : List Nat) : aX (j :: r) n 0 = some j := by simp [aX]
@[go_sem] theorem IX (j n i : Nat) (r : List Nat) : aX (j :: r) n (i + 1) = aX r n i := by
 simp only[aX,List.length_cons,Nat.add_lt_add_iff_right,List.getElem?_cons_succ,Nat.add_sub_add_right]
@[go_sem] theorem yK {α : Type} (H os : List α) : aN H [] os = H := by cases os <;> rfl
@[go_sem] theorem vJ {α : Type} (H : List α) (i : Nat) (r : List Nat) (o : α) (os : List α) : aN H (i :: r) (o :: os) = aN (H.set i o) r os := (rfl)
def lbP(sz:Nat)(p:List D×ab):List D×ab:=(p.1,.arr sz false 0 []::p.2)
@[go_sem] theorem MZ (sz : Nat) (cs : List D) (os : ab) : lbP sz (cs, os) = (cs, .arr sz false 0 [] :: os) := (rfl)
def lbC(base:Nat)(cs:List D)(off sz:Nat)(r:List (Nat×Nat)):Option D→List D×ab
 | some .nil=>lbP sz (aD (base+1) (cs.set off (.ref base 0 0)) r)
 | _=>aD base cs r
@[go_sem] theorem LD (base : Nat) (cs : List D) (off sz : Nat) (r : List (Nat × Nat)) : lbC base cs off sz r (some .nil) = lbP sz (aD (base + 1) (cs.set off (.ref base 0 0)) r) := (rfl)
@[go_sem] theorem NZ (base : Nat) (cs : List D) (off sz : Nat) (r : List (Nat × Nat)) (x : T) : lbC base cs off sz r (some (.t x)) = aD base cs r := (rfl)
@[go_sem] theorem LF (base : Nat) (cs : List D) (off sz : Nat) (r : List (Nat × Nat)) (a b c : Nat) : lbC base cs off sz r (some (.ref a b c)) = aD base cs r := (rfl)
@[go_sem] theorem vK (base : Nat) (cs : List D) (off sz : Nat) (r : List (Nat × Nat)) : aD base cs ((off, sz) :: r) = lbC base cs off sz r cs[off]? := by
 simp only[aD,lbC]
 split<;>split<;>simp_all [lbP]
def lvP(H:ab)(id:Nat)(p:List D×ab):Option (D×ab):=some (.tup [],H.set id (.box p.1)++p.2)
@[go_sem] theorem M0 (H : ab) (id : Nat) (cs : List D) (os : ab) : lvP H id (cs, os) = some (.tup [], H.set id (.box cs) ++ os) := (rfl)
def lvB(H:ab)(id:Nat)(l:List (Nat×Nat)):Option Obj→Option (D×ab)
 | some (.box cs)=>lvP H id (aD H.length cs l)
 | _=>none
@[go_sem] theorem M1 (H : ab) (id : Nat) (l : List (Nat × Nat)) (cs : List D) : lvB H id l (some (.box cs)) = lvP H id (aD H.length cs l) := (rfl)
@[go_sem] theorem yL (H : ab) (id : Nat) (x : Nat × Nat) (r : List (Nat × Nat)) : ka H id (x :: r) = lvB H id (x :: r) H[id]? := by
 simp only[ka,dN]
 generalize H[id]?=o
 rcases o with _ | (cs | _)
 · rfl
 · rfl
 · rfl
section
variable (H : ab)
def klE(n:Nat)(sel new:List Nat)(os:ab)(q:List Nat×ab):Option (List Nat×ab):=some (new++q.1,os++q.2)
@[go_sem] theorem M3 (n : Nat) (sel new : List Nat) (os : ab) (a : List Nat) (b : ab) : klE n sel new os (a, b) = some (new ++ a, os ++ b) := (rfl)
def klD(n:Nat)(sel new:List Nat)(os:ab):Option (List Nat×ab):=(dm H n (sel++new) (eo H new)).bind (klE n sel new os)
@[go_sem] theorem M4 (n : Nat) (sel new : List Nat) (os : ab) : klD H n sel new os = (dm H n (sel ++ new) (eo H new)).bind (klE n sel new os) := (rfl)
def il(sel:List Nat):List Nat→Bool
 | []=>true
 | i::r=> !mu i sel&&il sel r
@[go_sem] theorem Ch (sel : List Nat) : il sel [] = true := (rfl)
@[go_sem] theorem yM (sel : List Nat) (i : Nat) (r : List Nat) : il sel (i :: r) = (!mu i sel && il sel r) := (rfl)
theorem lU(sel l:List Nat):l.all (fun i=> !sel.contains i)=il sel l:=by
 induction l with
 | nil=>rfl
 | cons i r ih=>rw[List.all_cons,ih,kH];rfl
def klC(n:Nat)(sel new:List Nat)(os:ab):Option (List Nat×ab):=
 (if n=0 then(if(os.flatMap fun o=>o.ds.flatMap (bJ H depth)).all (fun i=> !(sel++new).contains i)then aH (a7 H) os else none)else some os).bind (klD H n sel new)
def gu:ab→List Nat
 | []=>[]
 | .box cs::r=>ef H 8 cs++gu r
 | .arr _ _ _ es::r=>ef H 8 es++gu r
@[go_sem] theorem Ci : gu H [] = [] := (rfl)
@[go_sem] theorem Cj (cs : List D) (r : ab) : gu H (.box cs :: r) = ef H 8 cs ++ gu H r := (rfl)
@[go_sem] theorem Ck (sz ep : Nat) (pin : Bool) (es : List D) (r : ab) : gu H (.arr sz pin ep es :: r) = ef H 8 es ++ gu H r := (rfl)
theorem q0(os:ab):(os.flatMap fun o=>o.ds.flatMap (bJ H depth))=gu H os:=by
 induction os with
 | nil=>rfl
 | cons o r ih=>rw[List.flatMap_cons,ih];cases o<;>rfl
@[go_sem] theorem N0 (sel new : List Nat) (os : ab) : klC H 0 sel new os = (if il (sel ++ new) (gu H os) = true then aH (a7 H) os else none).bind (klD H 0 sel new) := by
 simp only[klC,q0,lU,if_true]
@[go_sem] theorem N1 (n : Nat) (sel new : List Nat) (os : ab) : klC H (n + 1) sel new os = klD H (n + 1) sel new os := by
 simp[klC]
def klN(n:Nat)(sel new:List Nat):Option (List Nat×ab):=(pick H new).bind (klC H n sel new)
@[go_sem] theorem M5 (n : Nat) (sel new : List Nat) : klN H n sel new = (pick H new).bind (klC H n sel new) := (rfl)
@[go_sem] theorem IY (sel front : List Nat) : dm H 0 sel front = some ([], []) := (rfl)
@[go_sem] theorem IZ (n : Nat) (sel front : List Nat) : dm H (n + 1) sel front = klN H n sel ((bk sel front).drop sel.length) := by
 simp only[dm,klN]
 generalize (bk sel front).drop sel.length=new
 cases pick H new with
 | none=>rfl
 | some os=>
   simp only[Option.bind_some,klC]
   congr 1
   funext os'
   simp only[klD]
   cases dm H n (sel++new) (eo H new)<;>rfl
@[go_sem] theorem ug (cs : List D) : a7 H (.box cs) = (aH (iN H) cs).map .box := (rfl)
@[go_sem] theorem kI (sz ep : Nat) (pin : Bool) (ts : List T) : a7 H (.arr sz pin ep (ts.map .t)) = some (.arr sz pin ep (ts.map .t)) := by
 simp only[a7,gr,Option.map_some]
@[go_sem] theorem uh (sz ep : Nat) (pin : Bool) : a7 H (.arr sz pin ep []) = some (.arr sz pin ep []) := (rfl)
@[go_sem] theorem ui (sz ep : Nat) (pin : Bool) (m : Nat) (x : T) : a7 H (.arr sz pin ep (List.replicate m (.t x))) = some (.arr sz pin ep (List.replicate m (.t x))) := by
 have:List.replicate m (D.t x)=(List.replicate m x).map .t:=by simp
 rw[this,kI]
def LG(k raw:Nat)(H:ab)(ds rs:List D)(q:List Nat×ab):Option (D×ab):=
 if il (List.range k++q.1) (b6 H raw ds)=true then
  (aH (ren (idxOf (List.range k++q.1)) depth) rs).bind fun rs'=>(aH (bI (idxOf (List.range k++q.1))) (H.take k++q.2)).map fun hs'=>(iA rs',hs')
 else none
def q6(sel:List Nat)(H2:ab)(rs':List D):Option (D×ab):=(aH (bI (idxOf sel)) H2).bind (finT3 rs')
where finT3 (rs':List D) (hs:ab):Option (D×ab):=some (iA rs',hs)
@[go_sem] theorem I0 (rs' : List D) (hs : ab) : q6.finT3 rs' hs = some (iA rs', hs) := (rfl)
@[go_sem] theorem I3 (sel : List Nat) (H2 : ab) (rs' : List D) : q6 sel H2 rs' = (aH (bI (idxOf sel)) H2).bind (q6.finT3 rs') := (rfl)
@[go_sem] theorem LH (k raw : Nat) (ds rs : List D) (sel : List Nat) (os : ab) : LG k raw H ds rs (sel, os) =
 if il (List.range k++sel) (b6 H raw ds)=true then(aH (ren (idxOf (List.range k++sel)) 8) rs).bind (q6 (List.range k++sel) (H.take k++os))else none:=by
 simp only[LG,depth]
 split
 · cases aH (ren (idxOf (List.range k++sel)) 8) rs with
   | none=>rfl
   | some rs'=>simp only[Option.bind_some,q6];cases aH (bI (idxOf (List.range k++sel))) (H.take k++os)<;>rfl
 · rfl
@[go_sem] theorem LI (k raw : Nat) (ds rs : List D) : IH k raw H ds rs = (dm H (max raw 1) (List.range k) (jB 8 rs ++ eo H (List.range k))).bind (LG k raw H ds rs) := by
 simp only[IH,lU,jB,depth];rfl
@[go_sem] theorem Cl (k raw : Nat) (ds rs : List D) : B5 k raw H ds rs false = IH k raw H ds rs := (rfl)
@[go_sem] theorem Cm (k raw : Nat) (ds : List D) : finish k (raw + 1) H ds = FI k (raw + 1) H ds ds := by
 simp only[finish,Nat.add_one_ne_zero,if_false,Option.bind_some,cX,ou,FI,B5]
 show(if(bl k 8 ds&&bn k (H.take k))=true then _ else _)=_
 cases (bl k 8 ds&&bn k (H.take k))<;>rfl
@[go_sem] theorem yN (raw : Nat) (ds : List D) : b6 H (raw + 1) ds = [] := by simp [b6]
@[go_sem] theorem I4 : max 0 1 = 1 := (rfl)
@[go_sem] theorem LJ (r : Nat) : max (r + 1) 1 = r + 1 := by omega
@[go_sem] theorem Cn : List.range 0 = [] := (rfl)
@[go_sem] theorem Co : List.range 1 = [0] := (rfl)
@[go_sem] theorem Cp : List.range 2 = [0, 1] := (rfl)
@[go_sem] theorem Cq : List.range 3 = [0, 1, 2] := (rfl)
@[go_sem] theorem Cr : List.range 4 = [0, 1, 2, 3] := (rfl)
end
theorem oB{α:Type}(f:α→T)(l:List α)(i:Nat)(x:α)(y:D)(h:y= .t (f x)):((l.map f).map D.t).set i y=((l.set i x).map f).map D.t:=by
 rw[h,List.map_map,List.map_map]
 exact(List.map_set (f:=D.t ∘ f)).symm
@[go_sem] theorem LK (l : List Int) (i : Nat) (k : IntKind) (x : Int) : ((l.map (T.int k)).map D.t).set i (.t (.int k x)) = ((l.set i x).map (T.int k)).map D.t := oB _ l i x _ rfl
@[go_sem] theorem I5 (l : List Bool) (i : Nat) (x : Bool) : ((l.map T.bool).map D.t).set i (.t (.bool x)) = ((l.set i x).map T.bool).map D.t := oB _ l i x _ rfl
end Go.Ev
namespace Go.Ev
class Lib where
 fs:Nat→Option Fn
end Go.Ev
namespace Go.Ev.K
abbrev u(x:O):R:={ o:=x}
abbrev w(n:Nat)(x:O):R:={ o:=x,d:=some n}
abbrev y(n:Nat)(b:Bool)(x:O):R:={ o:=x,g:=some (n,b)}
abbrev m(x:X):R:={ o:= .mv x}
abbrev g(x:X):R:={ o:= .ld x 1 false}
abbrev h(n:Nat)(x:X):R:={ o:= .ld x n true}
abbrev f(n:Nat)(x:X):R:={ o:= .fa x n}
abbrev a(n:Nat)(x z:X):R:={ o:= .ia x z n}
abbrev l0:X:= .l 0
abbrev l1:X:= .l 1
abbrev l2:X:= .l 2
abbrev l3:X:= .l 3
abbrev l4:X:= .l 4
abbrev l5:X:= .l 5
abbrev l6:X:= .l 6
abbrev l7:X:= .l 7
abbrev l8:X:= .l 8
abbrev l9:X:= .l 9
abbrev l10:X:= .l 10
abbrev l11:X:= .l 11
abbrev v0:X:= .v 0
abbrev v1:X:= .v 1
abbrev v2:X:= .v 2
abbrev v3:X:= .v 3
abbrev v4:X:= .v 4
abbrev v5:X:= .v 5
abbrev v6:X:= .v 6
abbrev v7:X:= .v 7
abbrev v8:X:= .v 8
abbrev v9:X:= .v 9
abbrev v10:X:= .v 10
abbrev v11:X:= .v 11
abbrev v12:X:= .v 12
abbrev v13:X:= .v 13
abbrev v14:X:= .v 14
abbrev v15:X:= .v 15
abbrev v16:X:= .v 16
abbrev v17:X:= .v 17
abbrev v18:X:= .v 18
abbrev v19:X:= .v 19
abbrev v20:X:= .v 20
abbrev v21:X:= .v 21
abbrev v22:X:= .v 22
abbrev v23:X:= .v 23
end Go.Ev.K
namespace Go.Ev.N
def nh:Nat:=0
def bK:Nat:=1
def yO:Nat:=2
def b0:Nat:=3
def sm:Nat:=4
def Cs:Nat:=5
def pP:Nat:=6
def q7:Nat:=7
def pQ:Nat:=8
def aF:Nat:=9
def aV:Nat:=10
def pj:Nat:=11
def F7:Nat:=12
def sn:Nat:=13
def q8:Nat:=14
def uj:Nat:=15
def so:Nat:=16
def yP:Nat:=17
def vL:Nat:=18
def yQ:Nat:=19
def sq:Nat:=20
def F8:Nat:=21
def vM:Nat:=22
def bS:Nat:=23
def vN:Nat:=24
def q9:Nat:=25
def sr:Nat:=26
def ss:Nat:=27
def yR:Nat:=28
def yS:Nat:=29
def F9:Nat:=30
def yT:Nat:=31
def Ct:Nat:=32
def yU:Nat:=33
def vO:Nat:=34
def vP:Nat:=35
def yV:Nat:=36
def Cu:Nat:=37
def yW:Nat:=38
def rf:Nat:=39
def Cv:Nat:=40
def yX:Nat:=41
def Cw:Nat:=42
def yY:Nat:=43
def vQ:Nat:=44
def Ga:Nat:=45
def vR:Nat:=46
def yZ:Nat:=47
def su:Nat:=48
def ag:Nat:=49
def pn:Nat:=50
def kJ:Nat:=51
def pR:Nat:=52
def sw:Nat:=53
def Cx:Nat:=54
def Cy:Nat:=55
def vS:Nat:=56
def y0:Nat:=57
def y1:Nat:=58
def Cz:Nat:=59
def y2:Nat:=60
def CA:Nat:=61
def sx:Nat:=62
def CB:Nat:=63
def y3:Nat:=64
def y4:Nat:=65
def ai:Nat:=66
def mw:Nat:=67
def pS:Nat:=68
def eG:Nat:=69
def oC:Nat:=70
def bG:Nat:=71
def y5:Nat:=72
def y6:Nat:=73
def CC:Nat:=74
def fo:Nat:=75
def vT:Nat:=76
def CD:Nat:=77
end Go.Ev.N
namespace Go.Ev.K
open Go.Ev
def bK:Fn:={ nargs:=1,vars:=[0,2],body:=(.seq (.reg [w 1 (.mv (.b false))] []) (.seq (.reg [m v0,u (.ln l0),u (.bin .leq l0 (.i 400)),w 1 (.mv l0)] []) .ret)),res:=[(1,none)]}
def b0:Fn:={ nargs:=1,vars:=[0,2],body:=(.seq (.reg [w 1 (.mv (.c (.nilp)))] []) (.seq (.reg [m v0,u (.bd [.nil,.t (.int .i64 (0))] [(0,1,.l 0)]),u (.bx l0 2),w 1 (.mv l0)] []) .ret)),res:=[(1,none)]}
def aF:Fn:={ nargs:=2,vars:=[0,1,4],body:=(.seq (.reg [w 2 (.mv (.i 0))] []) (.seq (.ite [m v0,u (.nc l0),f 1 l0,g l0,m v0,u (.nc l0),f 0 l0,g l0,u (.ln l0),u (.bin .geq l5 l0)] [] 0 (.seq (.reg [w 2 (.mv (.i 0))] []) .ret) .skip) (.seq (.reg [m v0,u (.nc l0),f 1 l0,g l0,u (.bin .add l0 (.i 1)),u (.nc l4),f 1 l0,u (.st l0 l2 1 [])] []) (.seq (.reg [m v0,u (.nc l0),f 0 l0,g l0,m v0,u (.nc l0),f 1 l0,g l0,u (.bin .sub l0 (.i 1)),a 1 l5 l0,g l0,m v1,u (.ca N.bS 0 [] [.l 1,.l 0]),w 2 (.mv l0)] []) .ret)))),res:=[(2,none)]}
def aV:Fn:={ nargs:=2,vars:=[0,1,4],body:=(.seq (.reg [w 2 (.mv (.i 0))] []) (.seq (.reg [m v1,m v0,m v1,u (.ln l0),u (.ca N.aF 0 [] [.l 2,.l 0]),a 1 l4 l0,g l0,w 2 (.mv l0)] []) .ret)),res:=[(2,none)]}
def bS:Fn:={ nargs:=2,vars:=[0,1,4],body:=(.seq (.reg [w 2 (.mv (.i 0))] []) (.seq (.ite [m v1,u (.bin .lss l0 (.i 1))] [] 0 (.seq (.reg [w 2 (.mv (.i 0))] []) .ret) .skip) (.seq (.reg [m v0,m v1,u (.bin .rem l1 l0),w 0 (.mv l0)] []) (.seq (.ite [m v0,u (.bin .lss l0 (.i 0))] [] 0 (.reg [m v0,m v1,u (.bin .add l1 l0),w 0 (.mv l0)] []) .skip) (.seq (.reg [m v0,w 2 (.mv l0)] []) .ret))))),res:=[(2,none)]}
end Go.Ev.K
namespace Go.Ev
class dh [Lib]:Prop where
 eH:Lib.fs N.bK=some K.bK
 fG:Lib.fs N.b0=some K.b0
 cO:Lib.fs N.aF=some K.aF
 dw:Lib.fs N.aV=some K.aV
 gT:Lib.fs N.bS=some K.bS
namespace K
variable [Lib] [dh]
theorem eH:Lib.fs N.bK=some K.bK:=dh.eH
theorem fG:Lib.fs N.b0=some K.b0:=dh.fG
theorem cO:Lib.fs N.aF=some K.aF:=dh.cO
theorem dw:Lib.fs N.aV=some K.aV:=dh.dw
theorem gT:Lib.fs N.bS=some K.bS:=dh.gT
end K
end Go.Ev
namespace Go.Ev.K
open Go.Ev
def ag:Fn:={ nargs:=2,vars:=[0,1,4],body:=(.seq (.reg [w 2 (.mv (.b false))] []) (.seq (.reg [m v0,m v1,u (.ca N.ai 0 [] [.l 1,.l 0]),u (.bin .geq l0 (.i 0)),w 2 (.mv l0)] []) .ret)),res:=[(2,none)]}
def aO:C:=(.its [u (.bin .lss v5 v4)] [] 0 .skip (.exit 0) (.seq (.blk 1 (.seq (.reg [m v5,w 3 (.mv l0)] []) (.ite [m v1,m v0,m v3,a 1 l1 l0,g l0,u (.cw l4 0 [] [.l 0])] [] 0 (.seq (.reg [m v3,w 2 (.mv l0)] []) .ret) .skip))) (.reg [u (.bin .add v5 (.i 1)),w 5 (.mv l0)] [])))
def bP:C:= .loop true [2,3] K.aO
def ai:Fn:={ nargs:=2,vars:=[0,1,4,5,7,8],body:=(.seq (.reg [w 2 (.mv (.i 0))] []) (.seq (.seq (.reg [m v0,w 4 (.ln l0),w 5 (.mv (.i 0))] []) (.blk 0 K.bP)) (.seq (.reg [w 2 (.mv (.i (-1)))] []) .ret))),res:=[(2,none)]}
def bG:Fn:={ nargs:=3,vars:=[0,1,2,6],body:=(.seq (.reg [w 3 (.mv (.b false))] []) (.seq (.reg [m v0,m v1,u (.bin .geq l1 l0),m l0,y 0 true (.mv v0),y 1 true (.mv v2),y 2 true (.bin .leq l1 l0),u (.pk l3 l0 (.b false)),w 3 (.mv l0)] []) .ret)),res:=[(3,none)]}
end Go.Ev.K
namespace Go.Ev
class dy [Lib]:Prop where
 aZ:Lib.fs N.ag=some K.ag
 bo:Lib.fs N.ai=some K.ai
 gU:Lib.fs N.bG=some K.bG
namespace K
variable [Lib] [dy]
theorem aZ:Lib.fs N.ag=some K.ag:=dy.aZ
theorem bo:Lib.fs N.ai=some K.ai:=dy.bo
theorem gU:Lib.fs N.bG=some K.bG:=dy.gU
end K
end Go.Ev
namespace Go.Ev
open Go
variable [Lib]
noncomputable def ct:ah:=dg Lib.fs
theorem bC{raw f:Nat}{args:List D}{H:ab}{fn:Fn}{r:D×ab}(hf:Lib.fs f=some fn)(hn:fn.nargs=args.length)
 (h:(exS ct fn.body ⟨fg args fn.vars,H⟩).bind (Hx fn.res H.length raw)=some r) (h0:fn.prim=[]:=by rfl):ct raw f args H=some r:=xU hf hn h h0
class Dat (α:Type) where
 dflt:α
instance : Dat Int := ⟨0⟩
instance : Dat Nat := ⟨0⟩
instance : Dat Bool := ⟨false⟩
instance {α : Type} : Dat (List α) := ⟨[]⟩
def nth{α:Type} [Dat α](l:List α)(j:Nat):α:=l.getD j Dat.dflt
theorem oD{α:Type} [Dat α]{l:List α}{j:Nat}(h:j<l.length):l[j]?=some (nth l j):=by simp[nth,h]
theorem jC{α β:Type} [Dat α](f:α→β){l:List α}{j:Nat}(h:j<l.length):(l.map f)[j]?=some (f (nth l j)):=by rw[List.getElem?_map,oD h];rfl
theorem uk{α β γ:Type} [Dat α](f:β→γ)(g:α→β){l:List α}{j:Nat}(h:j<l.length):((l.map g).map f)[j]?=some (f (g (nth l j))):=by rw[List.getElem?_map,jC g h];rfl
theorem eI{α:Type} [Dat α]{l:List α}{j:Nat}(h:j<l.length):nth l j∈l:=List.mem_of_getElem? (oD h)
theorem rh{α:Type} [Dat α]{l:List α}{j:Nat}{x:α}(h:l[j]?=some x):nth l j=x:=by simp[nth,h]
theorem LL{a b:Int}(h:a<b):(a<b)=True:=by simp[h]
theorem LM{a b:Int}(h:b≤a):(a<b)=False:=by simp[Int.not_lt.2 h]
theorem LN{a b:Int}(h:a≤b):(a≤b)=True:=by simp[h]
theorem LO{a b:Int}(h:b<a):(a≤b)=False:=by simp[Int.not_le.2 h]
theorem LP{a b:Int}(h:a=b):(a=b)=True:=by simp[h]
theorem LQ{a b:Int}(h:a≠b):(a=b)=False:=by simp[h]
theorem LR{a b:Nat}(h:a<b):(a<b)=True:=by simp[h]
theorem LS{a b:Nat}(h:b≤a):(a<b)=False:=by simp[Nat.not_lt.2 h]
theorem LU{a b:Nat}(h:a≤b):(a≤b)=True:=by simp[h]
theorem LV{a b:Nat}(h:b<a):(a≤b)=False:=by simp[Nat.not_le.2 h]
theorem LW{a b:Nat}(h:a=b):(a=b)=True:=by simp[h]
theorem LX{a b:Nat}(h:a≠b):(a=b)=False:=by simp[h]
attribute [go_sem] LW LX LL LM LN LO LP LQ LR LS LU LV qP jC uk x9
@[go_sem] theorem CE (a b : Nat) : ((a + b : Nat) : Int) = (a : Int) + (b : Int) := (rfl)
@[go_sem] theorem CF : ((1 : Nat) : Int) = 1 := (rfl)
@[go_sem] theorem y7 : ((0 : Nat) : Int) = 0 := (rfl)
@[go_sem] theorem Gb (a b : Int) : a + b - b = a := Int.add_sub_cancel a b
@[go_sem] theorem vU : (0 : Int).toNat = 0 := (rfl)
@[go_sem] theorem y8 (n : Nat) : (n : Int).toNat = n := (rfl)
@[go_sem] theorem y9 (n : Nat) : ((n : Int) + 1).toNat = n + 1 := (rfl)
@[go_sem] theorem za (a : Int) : 0 + a = a := Int.zero_add a
@[go_sem] theorem zb (a : Int) : a + 0 = a := Int.add_zero a
@[go_sem] theorem zc (a : Int) : a - 0 = a := Int.sub_zero a
abbrev tI(n:Int):T:= .int .i64 n
abbrev tL(l:List Int):T:= .sl (l.map (.int .i64))
@[go_sem] theorem um (H : ab) (n : Nat) (ts : List T) (x : T) : aH (frz H n) (ts.map .t ++ [.t x]) = some (ts ++ [x]) := by
 have:ts.map D.t++[.t x]=(ts++[x]).map .t:=by simp
 rw[this,pd]
@[go_sem] theorem vV {α β : Type} (f : α → β) (a b : List α) : (a ++ b).map f = a.map f ++ b.map f := List.map_append
end Go.Ev
namespace Go.Ev
open Go
variable [Lib] [dh] [dy]
theorem ke{gc:Bool}{dead:List Nat}{c:C}{vs:List D}{H:ab}(s:Nat→St)(n:Nat)(p:Nat→Bool)(e:Nat→Ex×St)(eN:Ex×St)
 (h0:(⟨cZ dead vs,H⟩:St)=s 0) (hs:∀j,j<n→p j=false→eC gc dead (s j).H.length (exS ct c (s j))=some (s (j+1)))
 (he:∀j,j<n→p j=true→exS ct c (s j)=some (e j)∧(e j).1≠ .normal) (hN:exS ct c (s n)=some eN) (hn:eN.1≠ .normal):
 exS ct (.loop gc dead c) ⟨vs,H⟩=some (match (List.range n).find? p with | some j=>e j | none=>eN):=by
 show fC gc dead (exS ct c) ⟨cZ dead vs,H⟩=_
 rw[h0]
 cases hf:(List.range n).find? p with
 | none=>
   refine oh s n (fun j hj=>hs j hj ?_) (cW hN hn)
   have:=List.find?_eq_none.1 hf j (List.mem_range.2 hj)
   simpa using this
 | some k=>
   obtain⟨h1,as,bs,h2,h3⟩:=List.find?_eq_some_iff_append.1 hf
   have hk:k<n:=List.mem_range.1 (List.mem_of_find?_eq_some hf)
   have hlt:∀j,j<k→p j=false:=by
    intro j hj
    have hlen:as.length=k:=by
     have h4:(List.range n)[as.length]?=some k:=by rw[h2];simp
     have h5:as.length<n:=by
      have:=congrArg List.length h2;simp at this;omega
     rw[List.getElem?_range h5]at h4
     exact Option.some.inj h4
    have:j∈as:=by
     have h6:(List.range n)[j]?=some j:=List.getElem?_range (by omega)
     rw[h2,List.getElem?_append_left (by omega)]at h6
     exact List.mem_of_getElem? h6
    simpa using h3 j this
   obtain⟨k1,k2⟩:=he k hk h1
   exact oh s k (fun j hj=>hs j (by omega) (hlt j hj)) (cW k1 k2)
theorem uo{n:Nat}{p:Nat→Bool}:((List.range n).find? p).isSome=(List.range n).any p:=by
 rw[List.isSome_find?]
def cE(m:Nat):List D:=(List.range m).map fun i=> .bp i 0
def az(bs:List (List T)):ab:=bs.map fun cs=> .box (cs.map .t)
theorem kf{bs:List (List T)}{i:Nat}(h:i<bs.length):(az bs)[i]?=some (.box (bs[i].map .t)):=by simp[az,h]
theorem bg(bs:List (List T)):(az bs).length=bs.length:=by simp[az]
theorem gV:∀(l sel:List Nat),(sel++l).Nodup→bk sel l=sel++l
 | [],sel,_=>by simp[bk]
 | i::r,sel,h=>by
   have:sel.contains i=false:=by
    rw[← Bool.not_eq_true,List.contains_iff_mem]
    intro hm
    have:=List.nodup_append.1 h
    exact this.2.2 i hm i List.mem_cons_self rfl
   simp only[bk,this,Bool.false_eq_true,if_false]
   rw[gV r (sel++[i]) (by simpa using h)]
   simp
theorem im:∀(l:List Nat) (i k:Nat),l.Nodup→l[k]?=some i→idxOf l i=some k
 | [],i,k,_,h=>by simp at h
 | a::l,i,0,_,h=>by simp at h;simp[idxOf,h]
 | a::l,i,k+1,hn,h=>by
   simp at h
   have hne:a≠i:=fun e=>(List.nodup_cons.1 hn).1 (e▸List.mem_of_getElem? h)
   simp only[idxOf,if_neg hne,im l i k (List.nodup_cons.1 hn).2 h,Option.map_some]
theorem ni{m i:Nat}(h:i<m):idxOf (List.range m) i=some i:=im _ _ _ List.nodup_range (List.getElem?_range h)
theorem nj{α:Type}{f:α→Option α}:∀ {l:List α},(∀x∈l,f x=some x)→aH f l=some l
 | [],_=>rfl
 | a::l,h=>by
   simp only[aH,h a List.mem_cons_self,Option.bind_some,nj fun x hx=>h x (List.mem_cons_of_mem _ hx),Option.map_some]
theorem nk(f:Nat→Option Nat)(cs:List T):bI f (.box (cs.map .t))=some (.box (cs.map .t)):=by
 simp only[ph,eW,Option.map_some]
theorem lV{H:ab}:∀ {l:List Nat} {hs:ab},l.length=hs.length→(∀(k i:Nat) (o:Obj),l[k]?=some i→hs[k]?=some o→H[i]?=some o)→pick H l=some hs
 | [],[],_,_=>rfl
 | [],_::_,h,_=>by simp at h
 | _::_,[],h,_=>by simp at h
 | i::l,o::hs,h,hg=>by
   rw[qZ,hg 0 i o rfl rfl,Option.bind_some,uf,lV (l:=l) (hs:=hs) (by simpa using h) fun k i o hk ho=>hg (k+1) i o (by simpa using hk) (by simpa using ho)]
   rfl
theorem iq{H:ab}:∀ {l:List Nat} {os:ab},(∀(k i:Nat) (o:Obj),l[k]?=some i→os[k]?=some o→H[i]?=some o)→aN H l os=H
 | [],os,_=>by cases os<;>rfl
 | i::l,[],_=>rfl
 | i::l,o::os,hg=>by
   simp only[aN]
   rw[ud (hg 0 i o rfl rfl)]
   exact iq fun k i o hk ho=>hg (k+1) i o (by simpa using hk) (by simpa using ho)
theorem lW(call:ah)(bs:List (List T))(E:ab)(f raw:Nat)(args:List D){r:D}(h:call raw f args (az bs)=some (r,az bs))(hr:iD r=true)
 (ha:∀H:ab,dM H [] 0 args=some args∧aI H [] 0 args=[]) (hids:bk [] (jB 8 args)=List.range bs.length)
 (hren:aH (ren (idxOf (List.range bs.length)) 8) args=some args):pc (az bs++E) call f raw [] args=some (r,az bs++E):=by
 generalize hH:az bs++E=H
 have hget:∀i (hi:i<bs.length),H[i]?=some (.box (bs[i].map .t)):=fun i hi=>by
  rw[← hH,List.getElem?_append_left (by rw[bg];exact hi),kf hi]
 obtain⟨ha,hfz⟩:=ha H
 have hno:eo H (List.range bs.length)=[]:=by
  simp only[eo,List.flatMap_eq_nil_iff,List.mem_range]
  intro i hi
  rw[hget i hi]
  exact oy 8 bs[i]
 have hsel:reach H 3 (List.range bs.length)=List.range bs.length:=by
  simp only[reach,hno,bk]
 have hget2:∀(k i:Nat) (o:Obj),(List.range bs.length)[k]?=some i→(az bs)[k]?=some o→H[i]?=some o:=by
  intro k i o hk ho
  have hkl:k<bs.length:=by have:=(List.getElem?_eq_some_iff.1 hk).1;simpa using this
  rw[List.getElem?_range hkl]at hk
  cases hk
  rw[kf hkl]at ho
  rw[hget k hkl,←ho]
 have hpick:pick H (List.range bs.length)=some (az bs):=lV (by simp[bg]) hget2
 have hro:∀f:Nat→Option Nat,aH (bI f) (az bs)=some (az bs):=fun f=>nj fun o ho=>by
  simp only[az,List.mem_map]at ho
  obtain⟨cs,_,rfl⟩:=ho
  exact nk f cs
 have hput:aN H (List.range bs.length) (az bs)=H:=iq hget2
 rw[tT,tU,ha,Option.bind_some,tV,hids,hsel,tW,hren,Option.bind_some,hfz,tX]
 simp only[pins]
 rw[hpick,Option.bind_some,tY,hro,Option.bind_some,tZ,h,Option.bind_some]
 cases hb:bs with
 | nil=>
   subst hb
   have hrr:=kF (f:=aX [] H.length) hr
   simp only[depth]at hrr
   simp only[List.length_nil,List.range_zero,az,List.map_nil]
   unfold fF
   split
   · rfl
   · rw[ow,hrr,Option.bind_some,ov]
     simp[aH,ua,aN]
 | cons b bt=>
   rw[← hb]
   have hne:List.range bs.length=0::(List.range' 1 bt.length):=by rw[hb];simp[List.range_eq_range',List.range'_succ]
   have hrr:=kF (f:=aX (List.range bs.length) H.length) hr
   simp only[depth]at hrr
   have hw:fF H H (List.range bs.length) (r,az bs)=kG H H.length (List.range bs.length) (r,az bs):=by
    rw[hne];rfl
   rw[hw,ow,hrr,Option.bind_some,ov,hro,Option.bind_some,uc,List.length_range,List.take_of_length_le (by rw[bg];exact Nat.le_refl _),hput,
    List.drop_eq_nil_of_le (by rw[bg];exact Nat.le_refl _),List.append_nil]
theorem nn(H:ab)(cs:List D)(hc:∀i,dM H [] i cs=some cs∧aI H [] i cs=[]):∀(ts:List T) (i:Nat),dM H [] i (ts.map .t++cs)=some (ts.map .t++cs)∧aI H [] i (ts.map .t++cs)=[]
 | [],i=>hc i
 | t::ts,i=>by
   obtain⟨h1,h2⟩:=nn H cs hc ts (i+1)
   simp only[List.map_cons,List.cons_append,kd,eF,mu,vH,FA,Option.bind_some,qW,h1,h2,FR,qU]
   exact⟨rfl,rfl⟩
theorem lX(H:ab):∀(l:List Nat) (i:Nat),dM H [] i (l.map fun i=> .bp i 0)=some (l.map fun i=> .bp i 0)∧aI H [] i (l.map fun i=> .bp i 0)=[]
 | [],i=>⟨rfl,rfl⟩
 | a::l,i=>by
   obtain⟨h1,h2⟩:=lX H l (i+1)
   simp only[List.map_cons,kd,eF,mu,vH,yu,Option.bind_some,qW,h1,h2,FR,yA]
   exact⟨rfl,rfl⟩
theorem lY(n m:Nat):jB n (cE m)=List.range m:=by
 simp only[jB,cE,List.flatMap_map]
 have:∀l:List Nat,(l.flatMap fun a=>ids n (.bp a 0))=l:=by
  intro l
  induction l with
  | nil=>rfl
  | cons a l ih=>rw[List.flatMap_cons,ih,FW];rfl
 exact this _
theorem oE(n m:Nat):aH (ren (idxOf (List.range m)) n) (cE m)=some (cE m):=nj fun d hd=>by
 simp only[cE,List.mem_map,List.mem_range]at hd
 obtain⟨k,hk,rfl⟩:=hd
 rw[F3,ni hk];rfl
theorem kK{α β:Type}{f:α→Option β}:∀ {a b:List α} {x y:List β},aH f a=some x→aH f b=some y→aH f (a++b)=some (x++y)
 | [],b,x,y,h1,h2=>by simp[aH]at h1;subst h1;exact h2
 | c::a,b,x,y,h1,h2=>by
   simp only[aH,Option.bind_eq_some_iff,Option.map_eq_some_iff]at h1
   obtain⟨z,hz,r,hr,rfl⟩:=h1
   simp only[List.cons_append,aH,hz,Option.bind_some,kK hr h2,Option.map_some]
theorem ri(call:ah)(bs:List (List T))(E:ab)(f raw:Nat)(ts:List T){r:D}(h:call raw f (ts.map .t++cE bs.length) (az bs)=some (r,az bs))(hr:iD r=true):
 pc (az bs++E) call f raw [] (ts.map .t++cE bs.length)=some (r,az bs++E):=
 lW call bs E f raw _ h hr (fun H=>nn H _ (lX H _) ts 0)
  (by rw[oz,oy,List.nil_append,lY,gV _ _ (by simpa using List.nodup_range),List.nil_append])
  (kK (eW _ _ _) (oE _ _))
theorem zd(call:ah)(bs:List (List T))(E:ab)(g f raw:Nat)(ts:List T){r:D}(h:call raw f (ts.map .t++[.fn g (cE bs.length)]) (az bs)=some (r,az bs))(hr:iD r=true):
 pc (az bs++E) call f raw [] (ts.map .t++[.fn g (cE bs.length)])=some (r,az bs++E):=
 lW call bs E f raw _ h hr (fun H=>nn H _ (fun i=>⟨rfl,rfl⟩) ts 0)
  (by rw[oz,oy,List.nil_append,qX,FX,lY,ue,List.append_nil,gV _ _ (by simpa using List.nodup_range),List.nil_append])
  (kK (eW _ _ _) (by rw[lP,F6,oE];rfl))
theorem rj{f:Nat}{bs:List (List T)}{x:T}{r:D}(E:ab)(h:ct 0 f (.t x::cE bs.length) (az bs)=some (r,az bs))(hr:iD r=true):
 pc (az bs++E) ct f 0 [] (.t x::cE bs.length)=some (r,az bs++E):=ri ct bs E f 0 [x] h hr
theorem kg{f:Nat}{bs:List (List T)}{x:T}{r:D}(h:ct 0 f (.t x::cE bs.length) (az bs)=some (r,az bs))(hr:iD r=true):
 pc (az bs) ct f 0 [] (.t x::cE bs.length)=some (r,az bs):=by
 have:=rj [] h hr;rwa [List.append_nil]at this
theorem po(call:ah)(bs:List (List T))(g f raw:Nat)(x:T){r:D}(h:call raw f [.t x,.fn g (cE bs.length)] (az bs)=some (r,az bs))(hr:iD r=true):
 pc (az bs) call f raw [] [.t x,.fn g (cE bs.length)]=some (r,az bs):=by
 have:=zd call bs [] g f raw [x] h hr
 rwa [List.append_nil]at this
section
variable (bs : List (List T)) (o o' : Obj)
@[go_sem] theorem uq : (az bs).length = bs.length := bg bs
@[go_sem] theorem CG : (az bs ++ [o])[bs.length]? = some o := by
 rw[List.getElem?_append_right (by rw[bg];exact Nat.le_refl _),bg];simp
@[go_sem] theorem Gc : (az bs ++ [o]).set bs.length o' = az bs ++ [o'] := by
 rw[List.set_append_right _ _ (by rw[bg];exact Nat.le_refl _),bg];simp
@[go_sem] theorem CH : (az bs ++ [o]).take bs.length = az bs := by
 rw[List.take_append_of_le_length (by rw[bg];exact Nat.le_refl _),List.take_of_length_le (by rw[bg];exact Nat.le_refl _)]
@[go_sem] theorem ze : (az bs ++ [o]).take (bs.length + 1) = az bs ++ [o] := List.take_of_length_le (by simp [bg])
@[go_sem] theorem zf : (az bs).take bs.length = az bs := List.take_of_length_le (by simp [bg])
@[go_sem] theorem zg (k : Nat) (a b : ab) : bn k (a ++ b) = (bn k a && bn k b) := by
 rw[← cX,←cX,←cX,List.all_append]
@[go_sem] theorem ur (k : Nat) : bn k (az bs) = true := by
 induction bs with
 | nil=>rfl
 | cons b r ih=>
   show(bl k 8 (b.map .t)&&bn k (az r))=true
   rw[ot,ih];rfl
@[go_sem] theorem I6 (n : Nat) : ltB n (n + 1) = true := by rw [dX]; simp
@[go_sem] theorem I7 (n : Nat) : ltB n n = false := by rw [dX]; simp
theorem ir(k n m:Nat)(h:m≤k):bl k n (cE m)=true:=by
 unfold bl cE
 rw[List.all_eq_true]
 intro d hd
 obtain⟨i,hi,rfl⟩:=List.mem_map.1 hd
 rw[FB,dX]
 have:=List.mem_range.1 hi
 simp;omega
@[go_sem] theorem zh (n m : Nat) : bl m n (cE m) = true := ir _ _ _ (Nat.le_refl _)
@[go_sem] theorem vW (n m : Nat) : bl (m + 1) n (cE m) = true := ir _ _ _ (Nat.le_succ _)
end
end Go.Ev
namespace Go.Ev
open Go
variable [Lib] [dh] [dy]
theorem cK{α:Type}(sz:Nat)(f:α→T)(h:∀a,du sz (f a).cells=true):∀l:List α,aE sz (l.map f)=true
 | []=>rfl
 | a::l=>by rw[List.map_cons,gq,h,cK sz f h l];rfl
@[go_sem] theorem vX (k : IntKind) (l : List Int) : aE 1 (l.map (.int k)) = true := cK 1 _ (fun _ => rfl) l
theorem gv(sz:Nat):∀ts:List T,(ts.all fun e=>e.cells.length==sz)=aE sz ts
 | []=>rfl
 | t::ts=>by
   rw[List.all_cons,gq,gv sz ts]
   congr 1
   rw[Bool.eq_iff_iff,br];simp
section
variable (H : ab) (sz : Nat) (ts : List T) (i j : Int)
@[go_sem] theorem LY : lR H sz (some (.t (.sl ts))) (some none) (some (some i)) = if 0 ≤ i then (if i ≤ ts.length then (if aE sz ts = true then some (.t (.sl (ts.take i.toNat)), H) else none) else none) else none := by
 simp only[lR,Option.bind_some,dk,bound,gv,idx]
 by_cases h1:0≤i
 · rw[if_pos h1,if_pos h1,Option.bind_some]
   by_cases h2:i≤ts.length
   · rw[if_pos h2]
     by_cases h3:aE sz ts=true
     · rw[if_pos h3,if_pos ⟨by omega,by omega,h3⟩];rfl
     · rw[if_neg h3,if_neg fun h=>h3 h.2.2];rfl
   · rw[if_neg h2,if_neg fun h=>h2 (by omega)];rfl
 · rw[if_neg h1,if_neg h1];rfl
@[go_sem] theorem LZ : lR H sz (some (.t (.sl ts))) (some (some i)) (some none) = if 0 ≤ i then (if i ≤ ts.length then (if aE sz ts = true then some (.t (.sl (ts.drop i.toNat)), H) else none) else none) else none := by
 simp only[lR,Option.bind_some,dk,bound,gv,idx]
 by_cases h1:0≤i
 · rw[if_pos h1,if_pos h1,Option.bind_some]
   by_cases h2:i≤ts.length
   · rw[if_pos h2]
     by_cases h3:aE sz ts=true
     · rw[if_pos h3,if_pos ⟨by omega,by omega,h3⟩,List.take_of_length_le (by simp)];rfl
     · rw[if_neg h3,if_neg fun h=>h3 h.2.2];rfl
   · rw[if_neg h2,if_neg fun h=>h2 (by omega)];rfl
 · rw[if_neg h1,if_neg h1];rfl
@[go_sem] theorem Gd : lR H sz (some (.t (.sl ts))) (some (some i)) (some (some j)) = if 0 ≤ i then (if i ≤ j then (if j ≤ ts.length then (if aE sz ts = true then some (.t (.sl ((ts.drop i.toNat).take (j.toNat - i.toNat))), H) else none) else none) else none) else none := by
 simp only[lR,Option.bind_some,dk,bound,gv,idx]
 by_cases h1:0≤i
 · rw[if_pos h1,if_pos h1,Option.bind_some]
   by_cases h0:i≤j
   · rw[if_pos h0,if_pos (by omega:0≤j),Option.bind_some]
     by_cases h2:j≤ts.length
     · rw[if_pos h2]
       by_cases h3:aE sz ts=true
       · rw[if_pos h3,if_pos ⟨by omega,by omega,h3⟩];rfl
       · rw[if_neg h3,if_neg fun h=>h3 h.2.2];rfl
     · rw[if_neg h2,if_neg fun h=>h2 (by omega)];rfl
   · rw[if_neg h0]
     by_cases h2:0≤j
     · rw[if_pos h2,Option.bind_some,if_neg fun h=>h0 (by omega)];rfl
     · rw[if_neg h2];rfl
 · rw[if_neg h1,if_neg h1];rfl
end
def bsK(H:ab)(l:List Nat):Option T→Option (D×ab)
 | some t=>some (.t (.sl [t]),pins H l)
 | none=>none
@[go_sem] theorem I8 (H : ab) (l : List Nat) (t : T) : bsK H l (some t) = some (.t (.sl [t]), pins H l) := (rfl)
@[go_sem] theorem I9 (H : ab) (sz : Nat) (cs : List D) : kc H sz [.agg cs] = if du sz cs = true then bsK H (bJ H 8 (.agg cs)) (frz H 8 (.agg cs)) else none := by
 simp only[kc,List.all_cons,List.all_nil,Bool.and_true,D.cells]
 by_cases h:du sz cs=true
 · rw[if_pos h,if_pos (by simpa using br.1 h)]
   simp only[aH,depth,List.flatMap_cons,List.flatMap_nil,List.append_nil]
   cases frz H 8 (.agg cs)<;>rfl
 · rw[if_neg h,if_neg (by intro e;exact h (br.2 (by simpa using e)))]
@[go_sem] theorem Ja (H : ab) (id ep n : Nat) : kc H 1 [.ref id ep n] = bsK H (bJ H 8 (.ref id ep n)) (frz H 8 (.ref id ep n)) := by
 simp only[kc,List.all_cons,List.all_nil,Bool.and_true,D.cells,List.length_cons,List.length_nil,beq_self_eq_true,if_true,aH,depth,List.flatMap_cons,List.flatMap_nil,List.append_nil]
 cases frz H 8 (.ref id ep n)<;>rfl
def zi(H:ab)(r:D)(os:ab):D×ab:=(r,H++os)
@[go_sem] theorem Jb (H : ab) (r : D) (os : ab) : zi H r os = (r, H ++ os) := (rfl)
def Ge(H:ab)(os:ab)(r:D):Option (D×ab):=(aH (bI (aX [] H.length)) os).map (zi H r)
@[go_sem] theorem Jc (H : ab) (os : ab) (r : D) : Ge H os r = (aH (bI (aX [] H.length)) os).map (zi H r) := (rfl)
@[go_sem] theorem Gf (H : ab) (r : D) (o : Obj) (os : ab) : jA H (r, o :: os) = (ren (aX [] H.length) 8 r).bind (Ge H (o :: os)) := by
 simp only[jA,List.isEmpty_cons,Bool.and_false,Bool.false_eq_true,if_false]
 rfl
end Go.Ev
namespace Go.Ev
open Go
variable [Lib] [dh] [dy]
@[go_sem] theorem L0 (H : ab) (a b : List T) : kc H 1 [.t (.sl a), .t (.sl b), .nil] = some (.t (.sl [.sl a, .sl b, .sl []]), H) := by
 simp only[kc,List.all_cons,List.all_nil,D.cells,T.cells,List.map_cons,List.map_nil,List.length_cons,List.length_nil,aH,frz,depth,bJ,List.flatMap_cons,List.flatMap_nil,pins]
 rfl
def uu(c:Bool):Option Bool→Option Bool
 | some d=>some (c&&d)
 | none=>none
@[go_sem] theorem CI (c d : Bool) : uu c (some d) = some (c && d) := (rfl)
@[go_sem] theorem CJ : cR [] [] = some true := (rfl)
@[go_sem] theorem zj (k : IntKind) (a b : Int) (xs ys : List T) : cR (.int k a :: xs) (.int k b :: ys) = uu (decide (a = b)) (cR xs ys) := by
 simp only[cR,if_true,Es]
 cases cR xs ys<;>rfl
def uv(H:ab)(neg:Bool):Option Bool→Option (D×ab)
 | some r=>some (.t (.bool (bif neg then !r else r)),H)
 | none=>none
@[go_sem] theorem CK (H : ab) (r : Bool) : uv H true (some r) = some (.t (.bool (!r)), H) := (rfl)
@[go_sem] theorem zk (H : ab) (r : Bool) : uv H false (some r) = some (.t (.bool r), H) := (rfl)
@[go_sem] theorem zl (H : ab) (n : Nat) (neg : Bool) (xs ys : List T) : eD H (.ints n) neg (some (.t (.agg xs))) (some (.t (.agg ys))) = if xs.length = n then uv H neg (cR xs ys) else none := by
 simp only[eD,Option.bind_some,vh,eqD]
 by_cases h:xs.length=n
 · simp only[if_pos h]
   cases cR xs ys with
   | none=>rfl
   | some r=>cases neg<;>rfl
 · simp only[if_neg h];rfl
@[go_sem] theorem CL : ((2 : Nat) : Int) = 2 := (rfl)
@[go_sem] theorem vY : ((3 : Nat) : Int) = 3 := (rfl)
def lZ(n:Nat)(p:Nat→Bool):Nat:=((List.range n).find? p).getD 0
theorem rk{gc:Bool}{dead:List Nat}{c:C}{vs:List D}{H:ab}(s:Nat→St)(n:Nat)(p:Nat→Bool)(e:Nat→Ex×St)(eN:Ex×St)
 (h0:(⟨cZ dead vs,H⟩:St)=s 0)
 (hs:∀j,j<n→p j=false→eC gc dead (s j).H.length (exS ct c (s j))=some (s (j+1)))
 (he:∀j,j<n→p j=true→exS ct c (s j)=some (e j)∧(e j).1≠ .normal)
 (hN:exS ct c (s n)=some eN) (hn:eN.1≠ .normal):
 exS ct (.loop gc dead c) ⟨vs,H⟩=some (if(List.range n).any p=true then e (lZ n p)else eN):=by
 rw[ke s n p e eN h0 hs he hN hn,←uo]
 unfold lZ
 cases hf:(List.range n).find? p with
 | none=>simp
 | some k=>simp
@[go_sem] theorem Gg : ch [] [] [] = some true := (rfl)
@[go_sem] theorem Gi (ks : List Bool) (k : IntKind) (a b : Int) (xs ys : List T) : ch (true :: ks) (.int k a :: xs) (.int k b :: ys) = uu (decide (a = b)) (ch ks xs ys) := by
 simp only[ch,if_true,Es]
 cases ch ks xs ys<;>rfl
@[go_sem] theorem CM (ks : List Bool) (a b : Bool) (xs ys : List T) : ch (false :: ks) (.bool a :: xs) (.bool b :: ys) = uu (decide (a = b)) (ch ks xs ys) := by
 simp only[ch,show(a==b)=decide (a=b)from rfl]
 cases ch ks xs ys<;>rfl
@[go_sem] theorem Jd (H : ab) (ks : List Bool) (neg : Bool) (xs ys : List T) : eD H (.sc ks) neg (some (.t (.agg xs))) (some (.t (.agg ys))) = uv H neg (ch ks xs ys) := by
 simp only[eD,Option.bind_some,vh,eqD]
 cases ch ks xs ys with
 | none=>rfl
 | some r=>cases neg<;>rfl
def Mod(n m:Int):Int:=if m<1 then 0 else if n.tmod m<0 then n.tmod m+m else n.tmod m
theorem vZ(n m:Int):0≤Mod n m:=by
 unfold Mod
 split
 · omega
 · have h5:=Int.lt_tmod_of_pos n (b:=m) (by omega)
   split<;>omega
theorem wa(n m:Int)(h:1≤m):Mod n m<m:=by
 unfold Mod
 rw[if_neg (by omega)]
 have h3:=Int.tmod_lt_of_pos n (b:=m) (by omega)
 split<;>omega
theorem wb(n m:Int)(hm:m≤4611686018427387904):ct 0 N.bS [I n,I m] []=some (I (Mod n m),[]):=by
 refine bC K.gT rfl ?_
 unfold Mod
 by_cases h1:m<1
 · simp only[go_sem,K.bS,h1,↓reduceIte]
 · have h2:m≠0:=by omega
   have h3:=Int.tmod_lt_of_pos n (b:=m) (by omega)
   have h5:=Int.lt_tmod_of_pos n (b:=m) (by omega)
   by_cases h4:n.tmod m<0
   · simp (disch:=omega) only[go_sem,K.bS,h1,↓reduceIte,h2,h4]
   · simp (disch:=omega) only[go_sem,K.bS,h1,↓reduceIte,h2,h4]
theorem uw(l:List Int):ct 0 N.bK [.t (tL l)] []=some (B (decide (l.length≤400)),[]):=by
 refine bC K.eH rfl ?_
 simp (disch:=omega) only[go_sem,K.bK,↓reduceIte]
 simp only[show((l.length:Int)≤400)=(l.length≤400)by rw[eq_iff_iff];omega]
structure ba where
 L:List Int
 at_:Nat
def ba.obj(d:ba):Obj:= .box [.t (tL d.L),I d.at_]
def ba.fH(d:ba):Prop:=d.L.length≤400
def ba.next(d:ba)(n:Int):Int×ba:=if d.at_<d.L.length then(Mod (nth d.L d.at_) n,⟨d.L,d.at_+1⟩)else(0,d)
theorem ba.Gj(d:ba)(n:Int):(d.next n).2.L=d.L:=by unfold ba.next;split<;>rfl
theorem ba.kh{d:ba}(h:d.fH)(n:Int):(d.next n).2.fH:=by unfold ba.fH;rw[d.Gj];exact h
theorem ba.nq(d:ba)(n:Int):0≤(d.next n).1:=by unfold ba.next;split<;>simp[vZ]
theorem ba.ns(d:ba){n:Int}(h:1≤n):(d.next n).1<n:=by unfold ba.next;split<;>simp[wa _ _ h];omega
theorem rm(d:ba)(n:Int)(hn:n≤4611686018427387904)(hd:d.fH):ct 0 N.aF [.bp 0 0,I n] [d.obj]=some (I (d.next n).1,[(d.next n).2.obj]):=by
 refine bC K.cO rfl ?_
 have hm:=wb (nth d.L d.at_) n hn
 unfold ba.fH at hd
 unfold ba.next ba.obj
 by_cases h1:d.at_<d.L.length
 · simp (disch:=omega) only[go_sem,K.aF,↓reduceIte,↓if_pos,↓if_neg,Int.add_sub_cancel,hm,Int.natCast_add]
 · simp (disch:=omega) only[go_sem,K.aF,↓reduceIte,↓if_pos,↓if_neg]
@[go_sem] theorem Je (d : ba) : oA (some d.obj) = [] := by simp only [ba.obj, go_sem]
@[go_sem] theorem Jf (f : Nat → Option Nat) (d : ba) : bI f d.obj = some d.obj := by simp only [ba.obj, go_sem]
@[go_sem] theorem Jg (k : Nat) (d : ba) (r : ab) : bn k (d.obj :: r) = bn k r := by simp only [ba.obj, go_sem]
def ba.one(d:ba)(n:Int):Bool×ba:=(decide ((d.next n).1=n-1),(d.next n).2)
def ba.of(d:ba)(l:List Int):Int×ba:=(nth l (d.next l.length).1.toNat,(d.next l.length).2)
theorem ba.ux{d:ba}(h:d.fH)(l:List Int):(d.of l).2.fH:=ba.kh h _
theorem ba.Gk(d:ba){l:List Int}(h:l≠[]):(d.of l).1∈l:=by
 unfold ba.of
 have hl:0<l.length:=List.length_pos_iff.2 h
 have:=d.nq l.length
 have:=d.ns (n:=l.length) (by omega)
 exact eI (by omega)
theorem L3(d:ba)(l:List Int)(hl:l≠[])(hl2:l.length≤4294967296)(hd:d.fH):ct 0 N.aV [.bp 0 0,.t (tL l)] [d.obj]=some (I (d.of l).1,[(d.of l).2.obj]):=by
 refine bC K.dw rfl ?_
 have hm:=rm d l.length (by omega) hd
 have h0:0<l.length:=List.length_pos_iff.2 hl
 have h1:=d.nq l.length
 have h2:=d.ns (n:=l.length) (by omega)
 unfold ba.of
 simp (disch:=omega) only[go_sem,K.aV,↓reduceIte,hm]
structure Place where
 h:Int
 surf:Bool
instance : Dat Place := ⟨⟨0, false⟩⟩
abbrev Place.e(p:Place):T:= .agg [tI p.h,.bool p.surf]
structure Road where
 frm:Int
 to:Int
 len:Int
 area:Int
 walk:Bool
 closed:Bool
 restL:Int
 restH:Int
 liftL:Int
 liftH:Int
instance : Dat Road := ⟨⟨0, 0, 0, 0, false, false, 0, 0, 0, 0⟩⟩
abbrev Road.e(r:Road):T:= .agg [tI r.frm,tI r.to,tI r.len,tI r.area,.bool r.walk,.bool r.closed,tI r.restL,tI r.restH,tI r.liftL,tI r.liftH]
structure sy where
 places:List Place
 roads:List Road
instance : Dat sy := ⟨⟨[], []⟩⟩
abbrev sy.e(m:sy):T:= .agg [.sl (m.places.map Place.e),.sl (m.roads.map Road.e)]
structure Road.ok(n:Nat)(r:Road):Prop where
 f0:0≤r.frm
 f1:r.frm<n
 t0:0≤r.to
 t1:r.to<n
 ne:r.frm≠r.to
 l0:1≤r.len
 l1:r.len≤100000
 a0:1≤r.area
 a1:r.area≤1000
 r0:1≤r.restL
 r1:r.restL≤r.restH
 r2:r.restH≤262144
 i0: -2199023255552≤r.liftL
 i1:r.liftL≤r.liftH
 i2:r.liftH≤2199023255552
structure sy.ok(m:sy):Prop where
 np:m.places.length≤64
 nr:m.roads.length≤128
 hs:∀p∈m.places, -10000≤p.h∧p.h≤10000
 rs:∀r∈m.roads,r.ok m.places.length
theorem zm{l:List Int}{p:Int→Bool}:((List.range l.length).find? fun j=>p (nth l j)).isSome=l.any p:=by
 rw[List.isSome_find?,Bool.eq_iff_iff,List.any_eq_true,List.any_eq_true]
 constructor
 · rintro ⟨j,hj,h⟩
   exact⟨_,eI (List.mem_range.1 hj),h⟩
 · rintro ⟨x,hx,h⟩
   obtain⟨j,hj⟩:=List.mem_iff_getElem?.1 hx
   exact⟨j,List.mem_range.2 (List.getElem?_eq_some_iff.1 hj).1,by rw[rh hj];exact h⟩
theorem rn(x lo hi:Int):ct 0 N.bG [I x,I lo,I hi] []=some (B (decide (lo≤x∧x≤hi)),[]):=by
 refine bC K.gU rfl ?_
 by_cases h1:lo≤x<;>by_cases h2:x≤hi<;>simp (disch:=omega) only[go_sem,K.bG,↓reduceIte]
theorem ma(l:List Int)(hl:l.length≤4294967296)(f:Nat)(bs:List (List T))(p:Int→Bool)(h:∀x,x∈l→ct 0 f (I x::cE bs.length) (az bs)=some (B (p x),az bs)):
 ct 0 N.ai [.t (tL l),.fn f (cE bs.length)] (az bs)=
 some (I (match (List.range l.length).find? (fun j=>p (nth l j))with | some j=>(j:Int) | none=> -1),az bs):=by
 refine bC K.bo rfl ?_
 have loop:∀a b:D,exS ct K.bP ⟨[.t (tL l),.fn f (cE bs.length),a,b,I l.length,I 0],az bs⟩=
  some (match (List.range l.length).find? (fun j=>p (nth l j))with
   | some j=>(.ret,⟨[.t (tL l),.fn f (cE bs.length),I j,I j,I l.length,I j],az bs⟩)
   | none=>(.exit 0,⟨[.t (tL l),.fn f (cE bs.length),.und,.und,I l.length,I l.length],az bs⟩)):=by
  intro a b
  refine ke (fun j=>⟨[.t (tL l),.fn f (cE bs.length),.und,.und,I l.length,I j],az bs⟩) l.length (fun j=>p (nth l j)) _ _ rfl ?_ ?_ ?_ (by simp)
  · intro j hj hp
    have hc:=kg (h _ (eI hj)) rfl
    simp (disch:=omega) only[go_sem,K.aO,↓reduceIte,hc,hp]
  · intro j hj hp
    have hc:=kg (h _ (eI hj)) rfl
    simp (disch:=omega) only[go_sem,K.aO,↓reduceIte,hp,hc]
    simp
  · simp (disch:=omega) only[go_sem,K.aO,↓reduceIte]
 simp (disch:=omega) only[go_sem,K.ai,↓reduceIte,loop]
 cases hf:(List.range l.length).find? (fun j=>p (nth l j))with
 | some j=>simp (disch:=omega) only[go_sem,↓reduceIte]
 | none=>simp (disch:=omega) only[go_sem,↓reduceIte]
theorem eJ(l:List Int)(hl:l.length≤4294967296)(f:Nat)(bs:List (List T))(p:Int→Bool)(h:∀x,x∈l→ct 0 f (I x::cE bs.length) (az bs)=some (B (p x),az bs)):
 ct 0 N.ag [.t (tL l),.fn f (cE bs.length)] (az bs)=some (B (l.any p),az bs):=by
 refine bC K.aZ rfl ?_
 have h:=ma l hl f bs p h
 have hc:=po ct bs f _ 0 (tL l) h rfl
 have e:=zm (l:=l) (p:=p)
 cases hf:(List.range l.length).find? (fun j=>p (nth l j))with
 | some j=>rw[hf]at e hc;simp (disch:=omega) only[go_sem,K.ag,↓reduceIte,←e,hc]
 | none=>rw[hf]at e hc;simp (disch:=omega) only[go_sem,K.ag,↓reduceIte,←e,hc,Option.isSome_none]
def Gl(into:Option (List Int)):D:=match into with
 | none=> .nil
 | some l=> .t (tL l)
def Road.src(r:Road)(back:Bool):Int:=if back then r.to else r.frm
def Road.dst(r:Road)(back:Bool):Int:=if back then r.frm else r.to
theorem Road.nM{n:Nat}{r:Road}(h:r.ok n)(back:Bool):0≤r.src back∧r.src back<n:=by
 unfold Road.src;have:=h.f0;have:=h.f1;have:=h.t0;have:=h.t1;cases back<;>simp<;>omega
section
variable {m : sy} (h : m.ok) {t : Int} {into : Option (List Int)}
include h
end
section
variable {m : sy} (h : m.ok) {t : Int} {into : Option (List Int)}
include h
end
end Go.Ev
namespace Go.Ev
open Go
variable [Lib] [dh] [dy]
@[go_sem] theorem Gm (k n : Nat) (into : Option (List Int)) : old k n (Gl into) = true := by
 cases into<;>simp only[Gl,go_sem]
structure Wh where
 time:Int
 frm:List Int
instance : Dat Wh := ⟨⟨0, []⟩⟩
abbrev Wh.e(w:Wh):T:= .agg [tI w.time,tL w.frm]
def inT(t:Int):Prop:=0≤t∧t≤2147483648
instance (t : Int) : Decidable (inT t) := by unfold inT; infer_instance
def plT(x:Int):Prop:=x=1099511627776∨inT x
instance (t : Int) : Decidable (plT t) := by unfold plT; infer_instance
def Gn(n:Nat):List Int:=List.replicate n 1099511627776
@[simp] theorem CN (n : Nat) : (Gn n).length = n := List.length_replicate
structure Spn where
 low:Int
 high:Int
instance : Dat Spn := ⟨⟨0, 0⟩⟩
abbrev Spn.e(f:Spn):T:= .agg [tI f.low,tI f.high]
def Spn.ok(f:Spn):Prop:= -1125899906842624≤f.low∧f.high≤1125899906842624∧f.low≤f.high
instance (f : Spn) : Decidable f.ok := by unfold Spn.ok; infer_instance
section
variable {m : sy} (h : m.ok) {fl : List Spn}
include h
end
end Go.Ev
namespace Go.Ev
open Go
variable [Lib] [dh] [dy]
def plS(t x:Int):Prop:=x=1099511627776∨(t≤x∧x≤2147483648)
instance (t x : Int) : Decidable (plS t x) := by unfold plS; infer_instance
def Gp(l:List Int)(t:Int)(n:Nat):List Int:=(List.range n).map fun(p:Nat)=>if(p:Int)∈l then t else 1099511627776
@[simp] theorem Gq (l : List Int) (t : Int) (n : Nat) : (Gp l t n).length = n := by simp [Gp]
structure World where
 tags:List Int
 whr:List Wh
instance : Dat World := ⟨⟨[], []⟩⟩
abbrev World.e(x:World):T:= .agg [tL x.tags,.sl (x.whr.map Wh.e)]
structure Bel where
 worlds:List World
instance : Dat Bel := ⟨⟨[]⟩⟩
abbrev Bel.e(b:Bel):T:= .agg [.sl (b.worlds.map World.e)]
def World.sz(x:World):Prop:=x.tags.length≤1000000∧x.whr.length≤1000000∧∀w∈x.whr,w.frm.length≤1000000
def Bel.sz(b:Bel):Prop:=b.worlds.length≤1000000∧∀x∈b.worlds,x.sz
@[go_sem] theorem zn (l : List Wh) : aE 2 (l.map Wh.e) = true := cK 2 _ (fun _ => rfl) l
@[go_sem] theorem sA (l : List World) : aE 2 (l.map World.e) = true := cK 2 _ (fun _ => rfl) l
@[go_sem] theorem Jh (l : List Wh) : dv 2 (l.map Wh.e) = true := by cases l <;> rfl
@[go_sem] theorem zo (l : List World) : dv 2 (l.map World.e) = true := by cases l <;> rfl
end Go.Ev
namespace Go.Ev.N
def rq:Nat:=78
def pT:Nat:=79
def pq:Nat:=80
def zp:Nat:=81
def sB:Nat:=82
def zq:Nat:=83
def zr:Nat:=84
def zt:Nat:=85
def CO:Nat:=86
def wc:Nat:=87
def zu:Nat:=88
def we:Nat:=89
def wg:Nat:=90
def CP:Nat:=91
def wh:Nat:=92
def CQ:Nat:=93
def Gr:Nat:=94
def Gs:Nat:=95
def zv:Nat:=96
def CR:Nat:=97
def zw:Nat:=98
def zx:Nat:=99
def zy:Nat:=100
def CS:Nat:=101
def Gt:Nat:=102
def my:Nat:=103
def uy:Nat:=104
def bc:Nat:=105
def wi:Nat:=106
def CT:Nat:=107
def CU:Nat:=108
def zz:Nat:=109
def CV:Nat:=110
def CW:Nat:=111
def zA:Nat:=112
def zB:Nat:=113
def CY:Nat:=114
def wj:Nat:=115
def CZ:Nat:=116
def C0:Nat:=117
def wk:Nat:=118
def wm:Nat:=119
def uz:Nat:=120
def uA:Nat:=121
def oF:Nat:=122
end Go.Ev.N
namespace Go.Ev.K
open Go.Ev
end Go.Ev.K
namespace Go.Ev
class nu [Lib]:Prop where
namespace K
variable [Lib] [nu]
end K
end Go.Ev
namespace Go.Ev.K
open Go.Ev
def a6:C:=(.its [u (.bin .lss v8 v7)] [] 0 .skip (.exit 0) (.seq (.blk 1 (.seq (.reg [m v8,a 1 v6 v8,g l0,w 4 (.mv l2),w 5 (.mv l1)] []) (.ite [m v5,m v1,u (.bin .lss l1 l0),m l0,y 0 false (.mv v5),y 1 false (.mv v2),y 2 false (.bin .gtr l1 l0),u (.pk l3 (.b true) l0),m l0,y 0 false (.mv v4),y 1 false (.bin .gtr l0 (.i 0)),y 2 false (.mv l0),y 0 true (.mv v5),y 1 true (.mv v0),y 2 true (.mv v4),y 3 true (.bin .sub l0 (.i 1)),y 4 true (.ia l2 l0 1),y 5 true (.ld l0 1 false),y 6 true (.bin .leq l5 l0),y 10 false (.pk l7 l0 (.b false)),u (.pk l11 (.b true) l0)] [] 0 (.seq (.reg [w 3 (.mv (.b false))] []) .ret) .skip))) (.reg [u (.bin .add v8 (.i 1)),w 8 (.mv l0)] [])))
def eK:C:= .loop true [3,4,5] K.a6
def bc:Fn:={ nargs:=3,vars:=[0,1,2,6,7,8,9,10,11],body:=(.seq (.reg [w 3 (.mv (.b false))] []) (.seq (.seq (.reg [w 6 (.mv v0),w 7 (.ln l0),w 8 (.mv (.i 0))] []) (.blk 0 K.eK)) (.seq (.reg [w 3 (.mv (.b true))] []) .ret))),res:=[(3,none)]}
end Go.Ev.K
namespace Go.Ev
class mz [Lib]:Prop where
 dz:Lib.fs N.bc=some K.bc
namespace K
variable [Lib] [mz]
theorem dz:Lib.fs N.bc=some K.bc:=mz.dz
end K
end Go.Ev
namespace Go.Ev
open Go
variable [Lib] [dh] [dy] [nu] [mz]
def sC(l:List Int)(lo hi:Int)(j:Nat):Bool:= !decide (lo≤nth l j∧nth l j≤hi∧(0<j→nth l (j-1)<nth l j))
def wo(l:List Int)(lo hi:Int):Bool:= !((List.range l.length).any (sC l lo hi))
theorem rr(l:List Int)(lo hi:Int)(hl:l.length≤4294967296):ct 0 N.bc [.t (tL l),I lo,I hi] []=some (B (wo l lo hi),[]):=by
 refine bC K.dz rfl ?_
 have loop:∀a b c:D,exS ct K.eK ⟨[.t (tL l),I lo,I hi,a,b,c,.t (tL l),I l.length,I 0],[]⟩=
  some (if(List.range l.length).any (sC l lo hi)=true
   then(.ret,⟨[.t (tL l),I lo,I hi,B false,I (lZ l.length (sC l lo hi)),I (nth l (lZ l.length (sC l lo hi))),.t (tL l),I l.length,I (lZ l.length (sC l lo hi))],[]⟩)
   else(.exit 0,⟨[.t (tL l),I lo,I hi,.und,.und,.und,.t (tL l),I l.length,I l.length],[]⟩)):=by
  intro a b c
  refine rk (fun j=>⟨[.t (tL l),I lo,I hi,.und,.und,.und,.t (tL l),I l.length,I j],[]⟩) l.length (sC l lo hi) (fun j=>(.ret,⟨[.t (tL l),I lo,I hi,B false,I j,I (nth l j),.t (tL l),I l.length,I j],[]⟩)) _ rfl ?_ ?_ ?_ (by simp)
  · intro j hj hp
    simp only[sC,Bool.not_eq_false',decide_eq_true_eq]at hp
    obtain⟨h1,h2,h3⟩:=hp
    cases j with
    | zero=>simp (disch:=omega) only[go_sem,K.a6,↓reduceIte]
    | succ j=>
      have h3:=h3 (by omega)
      rw[Nat.add_sub_cancel]at h3
      simp (disch:=omega) only[go_sem,K.a6,↓reduceIte]
  · intro j hj hp
    simp only[sC,Bool.not_eq_true',decide_eq_false_iff_not]at hp
    refine⟨?_,by simp⟩
    by_cases h1:lo≤nth l j
    · by_cases h2:nth l j≤hi
      · cases j with
        | zero=>exact absurd ⟨h1,h2,fun h=>absurd h (by omega)⟩ hp
        | succ j=>
          have h3:¬nth l j<nth l (j+1):=fun h=>hp ⟨h1,h2,fun _=>by simpa using h⟩
          simp (disch:=omega) only[go_sem,K.a6,↓reduceIte]
      · simp (disch:=omega) only[go_sem,K.a6,↓reduceIte]
    · simp (disch:=omega) only[go_sem,K.a6,↓reduceIte]
  · simp (disch:=omega) only[go_sem,K.a6,↓reduceIte]
 unfold wo
 simp (disch:=omega) only[go_sem,K.bc,↓reduceIte,loop]
 cases hf:(List.range l.length).any (sC l lo hi)with
 | true=>simp (disch:=omega) only[go_sem,↓reduceIte]
 | false=>simp (disch:=omega) only[go_sem,↓reduceIte,Bool.false_eq_true]
structure M6 where
 st:Int
 fi:Int
 se:Int
 ti:Int
abbrev M6.e(s:M6):T:= .agg [tI s.st,tI s.fi,tI s.se,tI s.ti]
structure Gu where
 area:List Int
 hold:Int
 mis:Int
abbrev Gu.e(x:Gu):T:= .agg [tL x.area,tI x.hold,tI x.mis]
structure Keys where
 roads:List Int
 keys:List Int
 out:Bool
abbrev Keys.e(k:Keys):T:= .agg [tL k.roads,tL k.keys,.bool k.out]
end Go.Ev
namespace Go.Ev
open Go
section
variable (H : ab) (sz id ep n lo hi : Nat) (i j : Int) (fz : Bool)
def scO(r:D):Option Obj→Option (D×ab)
 | some (.arr sz' _ ep' es)=>if ep=ep'∧n=es.length then(if sz'=sz then some (r,H)else none)else none
 | _=>none
@[go_sem] theorem L4 (r : D) (sz' : Nat) (pin : Bool) (es : List D) : scO H sz ep n r (some (.arr sz' pin ep es)) = if n = es.length then (if sz' = sz then some (r, H) else none) else none := by simp [scO]
theorem scR{l h:Nat}:((bE H id ep n).bind fun a=>if l≤h∧h≤n∧a.1=sz then some (D.sub id ep n l h)else none).map (fun d=>(d,H))=if l≤h then(if h≤n then scO H sz ep n (.sub id ep n l h) H[id]? else none)else none:=by
 simp only[bE]
 generalize H[id]?=o
 by_cases h1:l≤h
 · by_cases h2:h≤n
   · rw[if_pos h1,if_pos h2]
     rcases o with _ | (_ | ⟨sz',pin,ep',es⟩)
     · rfl
     · rfl
     · simp only[scO]
       by_cases h3:ep=ep'∧n=es.length
       · rw[if_pos h3,if_pos h3,Option.bind_some]
         by_cases h4:sz'=sz
         · rw[if_pos h4,if_pos ⟨h1,h2,h4⟩];rfl
         · rw[if_neg h4,if_neg fun h=>h4 h.2.2];rfl
       · rw[if_neg h3,if_neg h3];rfl
   · rw[if_pos h1,if_neg h2]
     rcases o with _ | (_ | ⟨sz',pin,ep',es⟩)
     · rfl
     · rfl
     · by_cases h3:ep=ep'∧n=es.length
       · simp only[if_pos h3,Option.bind_some];rw[if_neg fun h=>h2 h.2.1];rfl
       · simp only[if_neg h3];rfl
 · rw[if_neg h1]
   rcases o with _ | (_ | ⟨sz',pin,ep',es⟩)
   · rfl
   · rfl
   · by_cases h3:ep=ep'∧n=es.length
     · simp only[if_pos h3,Option.bind_some];rw[if_neg fun h=>h1 h.1];rfl
     · simp only[if_neg h3];rfl
@[go_sem] theorem zC : lR H sz (some (.ref id ep n)) (some none) (some (some i)) = if 0 ≤ i then (if i ≤ n then scO H sz ep n (.sub id ep n 0 i.toNat) H[id]? else none) else none := by
 simp only[lR,Option.bind_some,dk,bound,idx]
 by_cases h1:0≤i
 · rw[if_pos h1,if_pos h1,Option.bind_some,scR,if_pos (Nat.zero_le _)]
   by_cases h2:i≤n
   · rw[if_pos h2,if_pos (by omega)]
   · rw[if_neg h2,if_neg (by omega)]
 · rw[if_neg h1,if_neg h1];rfl
@[go_sem] theorem zD : lR H sz (some (.ref id ep n)) (some (some i)) (some none) = if 0 ≤ i then (if i ≤ n then scO H sz ep n (.sub id ep n i.toNat n) H[id]? else none) else none := by
 simp only[lR,Option.bind_some,dk,bound,idx]
 by_cases h1:0≤i
 · rw[if_pos h1,if_pos h1,Option.bind_some,scR]
   by_cases h2:i≤n
   · rw[if_pos h2,if_pos (by omega),if_pos (by omega)]
   · rw[if_neg h2,if_neg (by omega)]
 · rw[if_neg h1,if_neg h1];rfl
@[go_sem] theorem uB : lR H sz (some (.ref id ep n)) (some (some i)) (some (some j)) = if 0 ≤ i then (if i ≤ j then (if j ≤ n then scO H sz ep n (.sub id ep n i.toNat j.toNat) H[id]? else none) else none) else none := by
 simp only[lR,Option.bind_some,dk,bound,idx]
 by_cases h1:0≤i
 · rw[if_pos h1,if_pos h1,Option.bind_some]
   by_cases h0:i≤j
   · rw[if_pos h0,if_pos (by omega),Option.bind_some,scR,if_pos (by omega)]
     by_cases h2:j≤n
     · rw[if_pos h2,if_pos (by omega)]
     · rw[if_neg h2,if_neg (by omega)]
   · rw[if_neg h0]
     by_cases h2:0≤j
     · rw[if_pos h2,Option.bind_some,scR,if_neg (by omega)]
     · rw[if_neg h2];rfl
 · rw[if_neg h1,if_neg h1];rfl
@[go_sem] theorem zE : lR H sz (some .nil) (some none) (some (some i)) = if i = 0 then some (.nil, H) else none := by
 simp only[lR,Option.bind_some,dk,bound,idx]
 by_cases h1:0≤i
 · rw[if_pos h1,Option.bind_some]
   by_cases h2:i=0
   · rw[if_pos h2,if_pos (by omega)];rfl
   · rw[if_neg h2,if_neg (by omega)];rfl
 · rw[if_neg h1,if_neg (by omega)];rfl
@[go_sem] theorem zF : lR H sz (some .nil) (some (some i)) (some none) = if i = 0 then some (.nil, H) else none := by
 simp only[lR,Option.bind_some,dk,bound,idx]
 by_cases h1:0≤i
 · rw[if_pos h1,Option.bind_some]
   by_cases h2:i=0
   · rw[if_pos h2,if_pos (by omega)];rfl
   · rw[if_neg h2,if_neg (by omega)];rfl
 · rw[if_neg h1,if_neg (by omega)];rfl
def oG(x:D)(ys:List D):Option (D×ab):=if aK sz ys=true then(match x with
 | .nil=>if ys.length≤4294967296 then some (.ref H.length 0 ys.length,H++[.arr sz false 0 ys])else none
 | .ref id ep n=>ik H sz id ep n ys H[id]?
 | _=>none)else none
@[go_sem] theorem Ji (ys : List D) : oG H sz .nil ys = if aK sz ys = true then (if ys.length ≤ 4294967296 then some (.ref H.length 0 ys.length, H ++ [.arr sz false 0 ys]) else none) else none := (rfl)
@[go_sem] theorem Jj (ys : List D) : oG H sz (.ref id ep n) ys = if aK sz ys = true then ik H sz id ep n ys H[id]? else none := (rfl)
@[go_sem] theorem wq : aK sz [] = true := (rfl)
@[go_sem] theorem uC (d : D) (r : List D) : aK sz (d :: r) = du sz d.cells := by
 rw[Bool.eq_iff_iff,br];simp[aK]
def Gv(x:D):Option Obj→Option (D×ab)
 | some (.arr _ _ ep' es)=>if ep=ep'∧n=es.length then oG H sz x ((es.drop lo).take (hi-lo))else none
 | _=>none
def Gw(x:D):Option Obj→Option (D×ab)
 | some (.arr _ _ ep' es)=>if ep=ep'∧n=es.length then oG H sz x es else none
 | _=>none
@[go_sem] theorem Jk (x : D) (sz' : Nat) (pin : Bool) (es : List D) : Gv H sz ep n lo hi x (some (.arr sz' pin ep es)) = if n = es.length then oG H sz x ((es.drop lo).take (hi - lo)) else none := by simp [Gv]
@[go_sem] theorem Jl (x : D) (sz' : Nat) (pin : Bool) (es : List D) : Gw H sz ep n x (some (.arr sz' pin ep es)) = if n = es.length then oG H sz x es else none := by simp [Gw]
theorem ru(x:D)(ys:List D):(if aK sz ys=true then(match x with
 | .nil=>if ys.length≤lim then some (D.ref H.length 0 ys.length,H++[.arr sz false 0 ys])else none
 | .ref id ep n=>(bE H id ep n).bind fun a=>if a.1=sz∧n+ys.length≤lim then some (.ref id ep (n+ys.length),H.set id (.arr sz a.2.1 ep (a.2.2++ys)))else none
 | _=>none)else none)=oG H sz x ys:=by
 unfold oG
 split
 · cases x with
   | ref id ep n=>
     simp only[bE]
     generalize H[id]?=o
     rcases o with _ | (_ | ⟨sz',pin,ep',es⟩)
     · rfl
     · rfl
     · simp only[ik]
       by_cases h1:ep=ep'∧n=es.length
       · rw[if_pos h1,Option.bind_some]
         by_cases h2:sz'=sz∧n+ys.length≤lim
         · rw[if_pos h2,if_pos ⟨h1.1,h1.2,h2⟩]
         · rw[if_neg h2,if_neg fun h=>h2 h.2.2]
       · rw[if_neg h1,if_neg fun h=>h1 ⟨h.1,h.2.1⟩];rfl
   | _=>rfl
 · rfl
theorem gW(x y:D)(ys:List D)(h:elems H y=some ys):dW H sz false (some x) (some y)=oG H sz x ys:=by
 simp only[dW,Option.bind_some,cY,h,Bool.false_eq_true,if_false]
 exact ru H sz x ys
@[go_sem] theorem sD (x : D) : dW H sz false (some x) (some .nil) = oG H sz x [] := gW H sz x .nil [] rfl
@[go_sem] theorem sE (x : D) : dW H sz false (some x) (some (.ref id ep n)) = Gw H sz ep n x H[id]? := by
 cases he:elems H (.ref id ep n)with
 | some ys=>
   rw[gW H sz x _ ys he]
   simp only[elems,bE]at he
   generalize H[id]?=o at he
   rcases o with _ | (_ | ⟨sz',pin,ep',es⟩)
   · cases he
   · cases he
   · simp only[Gw]
     by_cases h1:ep=ep'∧n=es.length
     · simp only[if_pos h1]at he ⊢;cases he;rfl
     · simp only[if_neg h1]at he;cases he
 | none=>
   have:dW H sz false (some x) (some (.ref id ep n))=none:=by simp only[dW,Option.bind_some,cY,he];rfl
   rw[this]
   simp only[elems,bE]at he
   generalize H[id]?=o at he
   rcases o with _ | (_ | ⟨sz',pin,ep',es⟩)
   · rfl
   · rfl
   · simp only[Gw]
     by_cases h1:ep=ep'∧n=es.length
     · simp only[if_pos h1]at he;cases he
     · simp only[if_neg h1]
@[go_sem] theorem sF (x : D) : dW H sz false (some x) (some (.sub id ep n lo hi)) = Gv H sz ep n lo hi x H[id]? := by
 cases he:elems H (.sub id ep n lo hi)with
 | some ys=>
   rw[gW H sz x _ ys he]
   simp only[elems,bE]at he
   generalize H[id]?=o at he
   rcases o with _ | (_ | ⟨sz',pin,ep',es⟩)
   · cases he
   · cases he
   · simp only[Gv]
     by_cases h1:ep=ep'∧n=es.length
     · simp only[if_pos h1]at he ⊢;cases he;rfl
     · simp only[if_neg h1]at he;cases he
 | none=>
   have:dW H sz false (some x) (some (.sub id ep n lo hi))=none:=by simp only[dW,Option.bind_some,cY,he];rfl
   rw[this]
   simp only[elems,bE]at he
   generalize H[id]?=o at he
   rcases o with _ | (_ | ⟨sz',pin,ep',es⟩)
   · rfl
   · rfl
   · simp only[Gv]
     by_cases h1:ep=ep'∧n=es.length
     · simp only[if_pos h1]at he;cases he
     · simp only[if_neg h1]
def C1(ep n lo hi:Nat):Option Obj→Option (List D)
 | some (.arr _ _ ep' es)=>if ep=ep'∧n=es.length then some ((es.drop lo).take (hi-lo))else none
 | _=>none
def Jm(x:D):Option (List D)→Option (D×ab)
 | some ys0=>(aH (fun d=>(frz H depth d).map .t) ys0).bind fun ys=>if aK sz ys then oG (pins H (ys0.flatMap (bJ H depth))) sz x ys else none
 | none=>none
@[go_sem] theorem M7 (x : D) (ts : List T) : Jm H sz x (some (ts.map .t)) = oG H sz x (ts.map .t) := by
 simp only[Jm,gr,Option.bind_some,oq,pins]
 by_cases h:aK sz (ts.map D.t)=true
 · rw[if_pos h]
 · rw[if_neg h];unfold oG;rw[if_neg h]
@[go_sem] theorem uD (x : D) : dW H sz true (some x) (some (.sub id ep n lo hi)) = Jm H sz x (C1 ep n lo hi H[id]?) := by
 have e:elems H (.sub id ep n lo hi)=C1 ep n lo hi H[id]?:=by
  simp only[elems,bE]
  generalize H[id]?=o
  rcases o with _ | (_ | ⟨sz',pin,ep',es⟩)
  · rfl
  · rfl
  · simp only[C1]
    by_cases h1:ep=ep'∧n=es.length
    · simp only[if_pos h1];rfl
    · simp only[if_neg h1];rfl
 simp only[dW,Option.bind_some,cY,e]
 cases C1 ep n lo hi H[id]? with
 | none=>rfl
 | some ys0=>
   simp only[Option.bind_some,Jm,if_true]
   cases hm:aH (fun d=>(frz H depth d).map D.t) ys0 with
   | none=>rfl
   | some ys=>
     simp only[Option.bind_some]
     refine(ru _ _ _ _).trans ?_
     by_cases h:aK sz ys=true
     · rw[if_pos h]
     · rw[if_neg h];unfold oG;rw[if_neg h]
@[go_sem] theorem Jn (ep n lo hi sz : Nat) (pin : Bool) (ts : List T) : C1 ep n lo hi (some (.arr sz pin ep (ts.map .t))) = if n = ts.length then some (((ts.drop lo).take (hi - lo)).map .t) else none := by
 simp only[C1,true_and,List.length_map,List.map_take,List.map_drop]
def rv(ds:List D):Option (D×ab):=if ds.all (fun d=>d.cells.length==sz&&d.bQ)then some (.ref H.length 0 ds.length,H++[.arr sz false 0 ds])else none
@[go_sem] theorem M8 (call : ah) (get : X → Option D) (xs : List X) : evO call get H (.bsr xs sz) = (aH get xs).bind (rv H sz) := (rfl)
@[go_sem] theorem Gx : rv H sz [] = some (.ref H.length 0 0, H ++ [.arr sz false 0 []]) := (rfl)
@[go_sem] theorem Gy (k : IntKind) (n : Int) : rv H 1 [.t (.int k n)] = some (.ref H.length 0 1, H ++ [.arr 1 false 0 [.t (.int k n)]]) := (rfl)
@[go_sem] theorem Gz (cs : List D) : rv H sz [.agg cs] = if du sz cs = true then some (.ref H.length 0 1, H ++ [.arr sz false 0 [.agg cs]]) else none := by
 simp only[rv,List.all_cons,List.all_nil,Bool.and_true,D.cells,D.bQ]
 by_cases h:du sz cs=true
 · rw[if_pos h,if_pos (by simpa using br.1 h)];rfl
 · rw[if_neg h,if_neg (by intro e;exact h (br.2 (by simpa using e)))]
end
@[go_sem] theorem wt : (1 : Int).toNat = 1 := (rfl)
@[go_sem] theorem zG : (2 : Int).toNat = 2 := (rfl)
@[go_sem] theorem uE : (3 : Int).toNat = 3 := (rfl)
section
variable {H t : ab} {i j k : Nat} {o o' : Obj}
end
end Go.Ev
namespace Go.Ev.N
def rz:Nat:=123
def pU:Nat:=124
def sG:Nat:=125
def rA:Nat:=126
def zH:Nat:=127
def zI:Nat:=128
def zJ:Nat:=129
def C2:Nat:=130
def C3:Nat:=131
def zK:Nat:=132
def zL:Nat:=133
def uF:Nat:=134
def uG:Nat:=135
def C4:Nat:=136
def zM:Nat:=137
def uH:Nat:=138
def wu:Nat:=139
def sH:Nat:=140
def wv:Nat:=141
def uI:Nat:=142
def rB:Nat:=143
def rC:Nat:=144
def rD:Nat:=145
def wx:Nat:=146
def wy:Nat:=147
def pt:Nat:=148
end Go.Ev.N
namespace Go.Ev.N
def oH:Nat:=149
def rE:Nat:=150
def rF:Nat:=151
def pV:Nat:=152
def zN:Nat:=153
def zO:Nat:=154
def wz:Nat:=155
def wA:Nat:=156
def zP:Nat:=157
def C5:Nat:=158
def zQ:Nat:=159
def aq:Nat:=160
def oI:Nat:=161
def zR:Nat:=162
def C6:Nat:=163
def wB:Nat:=164
def C7:Nat:=165
def wC:Nat:=166
def C8:Nat:=167
def fb:Nat:=168
def uJ:Nat:=169
def aQ:Nat:=170
def pv:Nat:=171
def uK:Nat:=172
def C9:Nat:=173
def fM:Nat:=174
def rG:Nat:=175
def aL:Nat:=176
def zS:Nat:=177
end Go.Ev.N
namespace Go.Ev.K
open Go.Ev
def aM:C:=(.seq (.ite [m v6,m v5,u (.ln l0),u (.bin .lss l2 l0)] [] 0 .skip (.exit 0)) (.blk 1 (.reg [m v6,m v5,m v6,u (.sc l1 (some l0) none 1),m v5,m v6,u (.sc l1 none (some l0) 1),u (.cp l3 l0 1),u (.bin .add l7 l0),w 6 (.mv l0)] [])))
def b9:C:= .loop true [0,1,2,3,4] K.aM
def aq:Fn:={ nargs:=2,vars:=[0,1,4,5,6,7,8],body:=(.seq (.reg [w 2 (.mv (.c (.nil)))] []) (.seq (.ite [m v1,u (.bin .lss l0 (.i 0))] [] 0 .fail .skip) (.seq (.reg [m v0,u (.ln l0),u (.cv .u64 l0),m v1,u (.cv .u64 l0),u (.ca N.aQ 0 [] [.l 2,.l 0]),m l0,u (.ex l0 0),u (.ex l1 1),w 3 (.mv l1),w 4 (.mv l1)] []) (.seq (.ite [m v3,u (.bin .gtr l0 (.c (.t (.int .u64 (0))))),m l0,y 0 false (.mv v4),y 1 false (.bin .gtr l0 (.c (.t (.int .u64 (9223372036854775807))))),u (.pk l2 (.b true) l0)] [] 0 .fail .skip) (.seq (.reg [m v4,u (.cv .i64 l0),u (.mk l0 (.t (.int .i64 (0))) 1),w 5 (.mv l0)] []) (.seq (.reg [m v5,m v0,u (.cp l1 l0 1),w 6 (.mv l0)] []) (.seq (.blk 0 K.b9) (.seq (.reg [m v5,w 2 (.mv l0)] []) .ret)))))))),res:=[(2,none)]}
def aQ:Fn:={ nargs:=2,vars:=[0,1,4,5,8,9],body:=(.seq (.reg [w 2 (.mv (.c (.t (.int .u64 (0))))),w 3 (.mv (.c (.t (.int .u64 (0)))))] []) (.seq (.cnd false .skip) (.seq (.reg [m v0,m v1,u (.ca N.aL 0 [] [.l 1,.l 0]),m l0,u (.ex l0 0),u (.ex l1 1),w 4 (.mv l1),w 5 (.mv l1)] []) (.seq (.reg [m v4,m v5,w 2 (.mv l1),w 3 (.mv l1)] []) .ret)))),res:=[(2,none),(3,none)]}
end Go.Ev.K
namespace Go.Ev
class kL [Lib]:Prop where
 bH:Lib.fs N.aq=some K.aq
 c9:Lib.fs N.aQ=some K.aQ
namespace K
variable [Lib] [kL]
theorem bH:Lib.fs N.aq=some K.aq:=kL.bH
theorem c9:Lib.fs N.aQ=some K.aQ:=kL.c9
end K
end Go.Ev
namespace Go.Ev.K
open Go.Ev
def aL:Fn:={ nargs:=2,vars:=[0,1,4,5,6,7,8,9,10,11,12,13],body:=(.seq (.reg [w 2 (.mv (.c (.t (.int .u64 (0))))),w 3 (.mv (.c (.t (.int .u64 (0)))))] []) (.seq (.reg [m v0,u (.bin .and l0 (.c (.t (.int .u64 (4294967295))))),w 4 (.mv l0)] []) (.seq (.reg [m v0,u (.bin .shr l0 (.c (.t (.int .u64 (32))))),w 5 (.mv l0)] []) (.seq (.reg [m v1,u (.bin .and l0 (.c (.t (.int .u64 (4294967295))))),w 6 (.mv l0)] []) (.seq (.reg [m v1,u (.bin .shr l0 (.c (.t (.int .u64 (32))))),w 7 (.mv l0)] []) (.seq (.reg [m v4,m v6,u (.bin .mul l1 l0),w 8 (.mv l0)] []) (.seq (.reg [m v5,m v6,u (.bin .mul l1 l0),m v8,u (.bin .shr l0 (.c (.t (.int .u64 (32))))),u (.bin .add l2 l0),w 9 (.mv l0)] []) (.seq (.reg [m v9,u (.bin .and l0 (.c (.t (.int .u64 (4294967295))))),w 10 (.mv l0)] []) (.seq (.reg [m v9,u (.bin .shr l0 (.c (.t (.int .u64 (32))))),w 11 (.mv l0)] []) (.seq (.reg [m v10,m v4,m v7,u (.bin .mul l1 l0),u (.bin .add l3 l0),w 10 (.mv l0)] []) (.seq (.reg [m v5,m v7,u (.bin .mul l1 l0),m v11,u (.bin .add l1 l0),m v10,u (.bin .shr l0 (.c (.t (.int .u64 (32))))),u (.bin .add l2 l0),w 2 (.mv l0)] []) (.seq (.reg [m v0,m v1,u (.bin .mul l1 l0),w 3 (.mv l0)] []) .ret)))))))))))),res:=[(2,none),(3,none)]}
end Go.Ev.K
namespace Go.Ev
class kQ [Lib]:Prop where
 cF:Lib.fs N.aL=some K.aL
namespace K
variable [Lib] [kQ]
theorem cF:Lib.fs N.aL=some K.aL:=kQ.cF
end K
end Go.Ev
namespace Go.Ev
open Go
variable [Lib] [dh] [dy] [kL] [kQ]
section
variable (H : ab) (sz : Nat)
def wD(id ep n lo hi:Nat)(ys:List D):Option Obj→Option (D×ab)
 | some (.arr sz' pin ep' es)=>if ep=ep'∧n=es.length then w8 H id ep (sz',pin,es) lo hi ys sz else none
 | _=>none
def cpD(x:D)(ys:List D):Option (D×ab):=if aK sz ys=true then(match x with
 | .ref id ep n=>wD H sz id ep n 0 n ys H[id]?
 | .sub id ep n lo hi=>wD H sz id ep n lo hi ys H[id]?
 | _=>none)else none
def Jo(x y:Option D):Option (D×ab):=x.bind fun a=>y.bind fun b=>kn H a b sz
@[go_sem] theorem N2 (call : ah) (get : X → Option D) (x y : X) : evO call get H (.cp x y sz) = Jo H sz (get x) (get y) := (rfl)
theorem oJ(x y:D)(ys:List D)(h:elems H y=some ys):kn H x y sz=cpD H sz x ys:=by
 unfold kn cpD
 rw[h,Option.bind_some]
 split
 · rename_i hh
   cases x with
   | ref id ep n=>
     simp only[bE,wD]
     cases H[id]? with
     | none=>rfl
     | some o=>
       cases o with
       | box cs=>rfl
       | arr sz' pin ep' es=>
         simp only
         by_cases c:ep=ep'∧n=es.length
         · rw[if_pos c,if_pos c];rfl
         · rw[if_neg c,if_neg c];rfl
   | sub id ep n lo hi=>
     simp only[bE,wD]
     cases H[id]? with
     | none=>rfl
     | some o=>
       cases o with
       | box cs=>rfl
       | arr sz' pin ep' es=>
         simp only
         by_cases c:ep=ep'∧n=es.length
         · rw[if_pos c,if_pos c];rfl
         · rw[if_neg c,if_neg c];rfl
   | _=>rfl
 · rfl
@[go_sem] theorem M9 (x : D) (ts : List T) : Jo H sz (some x) (some (.t (.sl ts))) = cpD H sz x (ts.map .t) := oJ H sz x (.t (.sl ts)) (ts.map .t) rfl
def cpE(x:D)(ep n lo hi:Nat):Option Obj→Option (D×ab)
 | some (.arr _ _ ep' es)=>if ep=ep'∧n=es.length then cpD H sz x ((es.drop lo).take (hi-lo))else none
 | _=>none
@[go_sem] theorem L5 (x : D) (n lo hi sz' : Nat) (pin : Bool) (ep : Nat) (es : List D) : cpE H sz x ep n lo hi (some (.arr sz' pin ep es)) = if n = es.length then cpD H sz x ((es.drop lo).take (hi - lo)) else none := by simp [cpE]
@[go_sem] theorem Jp (x : D) (id ep n lo hi : Nat) : Jo H sz (some x) (some (.sub id ep n lo hi)) = cpE H sz x ep n lo hi H[id]? := by
 unfold Jo
 simp only[Option.bind_some]
 cases h:H[id]? with
 | none=>simp[kn,elems,bE,h,cpE]
 | some o=>
   cases o with
   | box cs=>simp[kn,elems,bE,h,cpE]
   | arr sz' pin ep' es=>
     by_cases c:ep=ep'∧n=es.length
     · rw[oJ H sz x _ ((es.drop lo).take (hi-lo)) (by simp[elems,bE,h,c])]
       simp only[cpE,if_pos c]
     · simp[kn,elems,bE,h,cpE,c]
@[go_sem] theorem L6 (id ep n : Nat) (ys : List D) : cpD H sz (.ref id ep n) ys = if aK sz ys = true then wD H sz id ep n 0 n ys H[id]? else none := (rfl)
@[go_sem] theorem L7 (id ep n lo hi : Nat) (ys : List D) : cpD H sz (.sub id ep n lo hi) ys = if aK sz ys = true then wD H sz id ep n lo hi ys H[id]? else none := (rfl)
@[go_sem] theorem Jq (id n lo hi : Nat) (ys : List D) (ep : Nat) (es : List D) : wD H sz id ep n lo hi ys (some (.arr sz false ep es)) =
 if n=es.length then(if min ys.length (hi-lo)=0 then some (.t (.int .i64 0),H)else some (.t (.int .i64 ((min ys.length (hi-lo):Nat):Int)),H.set id (.arr sz false ep (es.take lo++ys.take (min ys.length (hi-lo))++es.drop (lo+min ys.length (hi-lo))))))else none:=by
 simp[wD,w8]
end
theorem uL{n:Int}(h1:0≤n)(h2:n<18446744073709551616):IntKind.u64.wrap n=n:=by
 have e:IntKind.u64.wrap n=n % 18446744073709551616:=by simp[IntKind.wrap,IntKind.signed,IntKind.bits]
 rw[e];omega
theorem GA{n:Nat}(h:n<4294967296):IntKind.u64.wrap ((BitVec.ofInt IntKind.u64.bits (n:Int) &&& BitVec.ofInt IntKind.u64.bits 4294967295).toNat:Nat)=(n:Int):=by
 have e:(BitVec.ofInt IntKind.u64.bits (n:Int) &&& BitVec.ofInt IntKind.u64.bits 4294967295).toNat=n:=by
  rw[BitVec.toNat_and]
  have a:(BitVec.ofInt IntKind.u64.bits (n:Int)).toNat=n:=by
   rw[BitVec.ofInt_natCast,BitVec.toNat_ofNat]
   exact Nat.mod_eq_of_lt (Nat.lt_of_lt_of_le h (by decide))
  have b:(BitVec.ofInt IntKind.u64.bits 4294967295).toNat=2 ^ 32-1:=by decide
  rw[a,b,Nat.and_two_pow_sub_one_eq_mod]
  exact Nat.mod_eq_of_lt h
 rw[e]
 exact uL (by omega) (by omega)
theorem GB{n:Nat}(h:n<4294967296):(n:Int).fdiv (2 ^ min (32:Int).toNat IntKind.u64.bits)=0:=by
 have e:(2 ^ min (32:Int).toNat IntKind.u64.bits:Int)=4294967296:=by decide
 rw[e,Int.fdiv_eq_ediv_of_nonneg _ (by omega)]
 omega
theorem wE{n:Nat}(h:n<4294967296):(((BitVec.ofInt IntKind.u64.bits (n:Int) &&& BitVec.ofInt IntKind.u64.bits 4294967295).toNat:Nat):Int)=(n:Int):=by
 have e:=GA h
 rwa [uL (by omega) (by
  have:(BitVec.ofInt IntKind.u64.bits (n:Int) &&& BitVec.ofInt IntKind.u64.bits 4294967295).toNat<2 ^ IntKind.u64.bits:=BitVec.isLt _
  have:2 ^ IntKind.u64.bits=18446744073709551616:=by decide
  omega)]at e
theorem uM(a b:Nat)(ha:a<4294967296)(hb:b<4294967296)(h:a*b<4294967296):ct 0 N.aL [.t (.int .u64 a),.t (.int .u64 b)] []=some (.tup [.t (.int .u64 0),.t (.int .u64 ((a*b:Nat):Int))],[]):=by
 refine bC K.cF rfl ?_
 have m:(a:Int)*(b:Int)=((a*b:Nat):Int):=(Int.natCast_mul a b).symm
 have z:=GA (n:=0) (by omega)
 have z2:=GB (n:=0) (by omega)
 have z3:=wE (n:=0) (by omega)
 have g3:=fun(n:Nat) (h:n<4294967296)=>wE (n:=n) h
 have g4:=fun(n:Nat) (h:n<4294967296)=>GB (n:=n) h
 simp only[Int.ofNat_zero,Int.natCast_zero]at z z2 z3
 simp only[go_sem]at z2 z3 g3 g4
 simp (disch:=omega) only[go_sem,K.aL,↓reduceIte,g3,g4,m,z2,z3,uL,Int.zero_mul,Int.mul_zero,Int.add_zero,Int.zero_add,Nat.reduceAdd,Nat.reduceSub]
theorem GC(a b:Nat)(ha:a<4294967296)(hb:b<4294967296)(h:a*b<4294967296):ct 0 N.aQ [.t (.int .u64 a),.t (.int .u64 b)] []=some (.tup [.t (.int .u64 0),.t (.int .u64 ((a*b:Nat):Int))],[]):=by
 refine bC K.c9 rfl ?_
 have m:=uM a b ha hb h
 simp (disch:=omega) only[go_sem,K.aQ,↓reduceIte,m,Nat.reduceAdd,Nat.reduceSub]
def iM(v:Int)(n cur:Nat):List D:=List.replicate cur (I v)++List.replicate (n-cur) (I 0)
theorem oK(v:Int){n cur:Nat}(h:cur≤n):(iM v n cur).length=n:=by simp[iM];omega
theorem rH(v:Int){n cur m:Nat}(h:cur+m≤n)(hm:m≤cur):(iM v n cur).take cur++((iM v n cur).take cur).take m++(iM v n cur).drop (cur+m)=iM v n (cur+m):=by
 unfold iM
 have e1:(List.replicate cur (I v)++List.replicate (n-cur) (I 0)).take cur=List.replicate cur (I v):=by
  rw[List.take_append_of_le_length (by simp),List.take_of_length_le (by simp)]
 have e2:(List.replicate cur (I v)++List.replicate (n-cur) (I 0)).drop (cur+m)=List.replicate (n-(cur+m)) (I 0):=by
  rw[List.drop_append,List.length_replicate]
  simp;omega
 rw[e1,e2,List.take_replicate,Nat.min_eq_left hm,List.replicate_append_replicate]
theorem GD(v:Int)(n cur:Nat):∃ts:List T,iM v n cur=ts.map .t:=⟨List.replicate cur (tI v)++List.replicate (n-cur) (tI 0),by simp[iM]⟩
theorem mb(v:Int)(n cur:Nat)(lo k:Nat):aK 1 (((iM v n cur).drop lo).take k)=true:=by
 cases h:((iM v n cur).drop lo).take k with
 | nil=>rfl
 | cons d r=>
   have hm:d∈iM v n cur:=List.mem_of_mem_drop (List.mem_of_mem_take (h▸List.mem_cons_self))
   unfold iM at hm
   simp only[List.mem_append,List.mem_replicate]at hm
   rcases hm with⟨-,rfl⟩ | ⟨-,rfl⟩<;>rfl
theorem nv(v:Int)(n:Nat)(hn:n≤1000000):∀(k cur:Nat),n-cur≤k→1≤cur→cur≤n→
 fC true [0,1,2,3,4] (exS ct K.aM) ⟨[.und,.und,.und,.und,.und,.ref 0 0 n,I cur],[.arr 1 false 0 (iM v n cur)]⟩=
  some (.exit 0,⟨[.und,.und,.und,.und,.und,.ref 0 0 n,I n],[.arr 1 false 0 (iM v n n)]⟩):=by
 intro k
 induction k with
 | zero=>
   intro cur h1 h2 h3
   have:cur=n:=by omega
   subst this
   refine cW ?_ (by simp)
   have rl:=oK v (Nat.le_refl cur)
   simp (disch:=omega) only[go_sem,K.aM,↓reduceIte,Nat.reduceAdd,Nat.reduceSub]
 | succ k ih=>
   intro cur h1 h2 h3
   by_cases c:cur=n
   · subst c
     refine cW ?_ (by simp)
     simp (disch:=omega) only[go_sem,K.aM,↓reduceIte,Nat.reduceAdd,Nat.reduceSub]
   · have rl:=oK v (n:=n) (cur:=cur) (by omega)
     have st:=rH v (n:=n) (cur:=cur) (m:=min cur (n-cur)) (by omega) (by omega)
     have hs:=mb v n cur 0 cur
     rw[List.drop_zero]at hs
     have tl:((iM v n cur).take cur).length=cur:=by rw[List.length_take];omega
     refine j9 (st2:=⟨[.und,.und,.und,.und,.und,.ref 0 0 n,I ((cur+min cur (n-cur):Nat):Int)],[.arr 1 false 0 (iM v n (cur+min cur (n-cur)))]⟩) ?_ (ih _ (by omega) (by omega) (by omega))
     rw[← st]
     obtain⟨ts,hts⟩:=GD v n cur
     have ao:∀a b c:Nat,bl 1 8 ((iM v n cur).take a)=true∧bl 1 8 (((iM v n cur).take a).take b)=true∧bl 1 8 ((iM v n cur).drop c)=true:=fun a b c=>by
      rw[hts,←List.map_take,←List.map_take,←List.map_drop]
      simp only[go_sem,and_self]
     have ao1:=fun a=>(ao a 0 0).1
     have ao2:=fun a b=>(ao a b 0).2.1
     have ao3:=fun c=>(ao 0 0 c).2.2
     clear ao hts
     generalize iM v n cur=es at*
     simp (disch:=omega) only[go_sem,K.aM,↓reduceIte,rl,hs,tl,ao1,ao2,ao3,and_self,List.drop_zero,Nat.sub_zero,Nat.reduceAdd,Nat.reduceSub]
theorem rI(v:Int)(n:Nat)(h1:1≤n)(hn:n≤1000000):ct 1 N.aq [.t (tL [v]),I n] []=some (.ref 0 0 n,[.arr 1 false 0 (List.replicate n (I v))]):=by
 refine bC K.bH rfl ?_
 have m:=GC 1 n (by omega) (by omega) (by omega)
 rw[Nat.one_mul]at m
 change ct 0 N.aQ [.t (.int .u64 1),.t (.int .u64 n)] []=_ at m
 have w1:IntKind.u64.wrap 1=1:=by decide
 have w2:IntKind.u64.wrap (n:Int)=n:=uL (by omega) (by omega)
 have w3:IntKind.i64.wrap (n:Int)=n:=qP (by omega) (by omega)
 have lp:=nv v n hn n 1 (by omega) (by omega) h1
 have loop:∀z0 z1 z2 z3 z4:D,exS ct K.b9 ⟨[z0,z1,z2,z3,z4,.ref 0 0 n,I 1],[.arr 1 false 0 (I v::List.replicate (n-1) (I 0))]⟩=some (.exit 0,⟨[.und,.und,.und,.und,.und,.ref 0 0 n,I n],[.arr 1 false 0 (List.replicate n (I v))]⟩):=by
  intro z0 z1 z2 z3 z4
  have e1:iM v n 1=I v::List.replicate (n-1) (I 0):=rfl
  have e2:iM v n n=List.replicate n (I v):=by simp[iM]
  rw[e1,e2]at lp
  exact lp
 have dr:(List.replicate n (D.t (.int .i64 0))).drop 1=List.replicate (n-1) (I 0):=List.drop_replicate ..
 have mn:min 1 n=1:=by omega
 have ar:∀H:ab,ef H 8 (List.replicate n (I v))=[]:=fun H=>by
  have e:List.replicate n (I v)=(List.replicate n (tI v)).map D.t:=by simp
  rw[e]
  unfold ef
  exact oq ..
 simp (disch:=omega) only[go_sem,K.aq,↓reduceIte,tL,List.map_cons,List.map_nil,m,w1,w2,w3,loop,dr,mn,ar,List.length_replicate,Nat.sub_zero,List.take_zero,List.nil_append,List.take_succ_cons,Nat.zero_add,Nat.reduceAdd,Nat.reduceSub]
end Go.Ev
namespace Go.Ev
open Go
variable [Lib] [dh] [dy]
@[go_sem] theorem zT (l : List Place) : dv 2 (l.map Place.e) = true := by cases l <;> rfl
@[go_sem] theorem Da (l : List Road) : dv 10 (l.map Road.e) = true := by cases l <;> rfl
@[go_sem] theorem Db (H : ab) (d : ba) : tP H 0 1 false (some d.obj) = some (.t (tL d.L), H) := by simp only [ba.obj, go_sem]
def ba.eL(d:ba):Nat→List Place×ba
 | 0=>([],d)
 | k+1=>if k=0 then((d.eL k).1++[⟨-10*((d.eL k).2.next 4).1,true⟩],((d.eL k).2.next 4).2)
   else((d.eL k).1++[⟨-10*((d.eL k).2.next 4).1,(((d.eL k).2.next 4).2.one 6).1⟩],(((d.eL k).2.next 4).2.one 6).2)
def ba.GF(d:ba)(i:Int):Road×ba:=
 (⟨i-1-(d.next (min i 2)).1,i,1+((d.next (min i 2)).2.of [11,59,119,4]).1,1+(((d.next (min i 2)).2.of [11,59,119,4]).2.of [9,3,19]).1,true,false,1,1,0,0⟩,
   (((d.next (min i 2)).2.of [11,59,119,4]).2.of [9,3,19]).2)
def ba.oL(d:ba):Nat→List Road×ba
 | 0=>([],d)
 | k+1=>((d.oL k).1++[((d.oL k).2.GF (k+1)).1],((d.oL k).2.GF (k+1)).2)
def ba.uN(d:ba)(n:Int):Road×ba:=
 let a:=d.next n
 let b:=a.2.next n
 let l:=b.2.of [11,59,199]
 let r:=l.2.of [9,3]
 let w:=r.2.next 5
 let c:=w.2.one 6
 (⟨a.1,b.1,1+l.1,1+r.1,decide (0<w.1),c.1,1,1,0,0⟩,c.2)
def ba.more(n:Int)(l:List Road)(d:ba):Nat→List Road×ba
 | 0=>(l,d)
 | k+1=>if l.length<10 then ba.more n (if(d.uN n).1.frm=(d.uN n).1.to then l else l++[(d.uN n).1]) (d.uN n).2 k else(l,d)
def ba.zU(d:ba):Nat:=if d.L.length=0 then 4 else(2+(d.next 6).1).toNat
def ba.GG(d:ba):List Place×ba:=(d.next 6).2.eL d.zU
def ba.zV(d:ba):List Road×ba:=d.GG.2.oL (d.zU-1)
def ba.GH(d:ba):List Road×ba:=ba.more d.zU d.zV.1 (d.zV.2.next 4).2 (d.zV.2.next 4).1.toNat
def ba.N5(d:ba):sy×ba:=(⟨d.GG.1,d.GH.1⟩,d.GH.2)
@[go_sem] theorem GI (l : List Spn) : dv 2 (l.map Spn.e) = true := by cases l <;> rfl
@[go_sem] theorem L8 (l : List Spn) (k : Nat) (a b : Int) : (List.map D.t (List.map Spn.e l)).set k (D.t (T.agg [tI a, tI b])) = List.map D.t (List.map Spn.e (l.set k ⟨a, b⟩)) := by
 rw[List.map_set,List.map_set]
@[go_sem] theorem Na (H : ab) (sz : Nat) (a b c d e f : T) : kc H sz [.t a, .t b, .t c, .t d, .t e, .t f] = if aE sz [a, b, c, d, e, f] = true then some (.t (.sl [a, b, c, d, e, f]), H) else none := eE H sz [a, b, c, d, e, f]
@[go_sem] theorem Nb (H : ab) (sz : Nat) (a b c d e f g : T) : kc H sz [.t a, .t b, .t c, .t d, .t e, .t f, .t g] = if aE sz [a, b, c, d, e, f, g] = true then some (.t (.sl [a, b, c, d, e, f, g]), H) else none := eE H sz [a, b, c, d, e, f, g]
@[go_sem] theorem Nc (H : ab) (sz : Nat) (a b c d e f g h : T) : kc H sz [.t a, .t b, .t c, .t d, .t e, .t f, .t g, .t h] = if aE sz [a, b, c, d, e, f, g, h] = true then some (.t (.sl [a, b, c, d, e, f, g, h]), H) else none := eE H sz [a, b, c, d, e, f, g, h]
@[go_sem] theorem GJ {α β γ : Type} {l : List α} {g : α → β} {f : β → γ} {x : γ} {j : Nat} (h : j = l.length) : (List.map f (List.map g l) ++ [x])[j]? = some x := by
 rw[List.getElem?_append_right (by simp;omega)];simp[h]
@[go_sem] theorem Jr {α β γ : Type} {l : List α} {g : α → β} {f : β → γ} {x y : γ} {j : Nat} (h : j = l.length) : (List.map f (List.map g l) ++ [x]).set j y = List.map f (List.map g l) ++ [y] := by
 rw[List.set_append_right _ _ (by simp;omega)];simp[h]
def ba.GK(d:ba):Spn×ba:=
 let a:=d.of [0,1000,5000,20000, -5000, -20000,4999,100]
 let b:=a.2.of [0,1,1000,6000]
 let c:=b.2.of [0,1,500]
 let w:=c.2.one 9
 (if w.1=true then⟨-1125899906842624,1125899906842624⟩else⟨a.1-b.1,a.1+c.1⟩,w.2)
def ba.oM(d:ba):Nat→List Spn×ba
 | 0=>([],d)
 | k+1=>((d.oM k).1++[((d.oM k).2.GK).1],((d.oM k).2.GK).2)
def ba.N3(d:ba)(m:sy):List Spn×ba:=d.oM m.roads.length
theorem GL{gc:Bool}{dead:List Nat}{c:C}{vs:List D}{H:ab}(P:Nat→St→Prop)(n:Nat)(Q:Ex×St→Prop)(h0:P 0 ⟨cZ dead vs,H⟩)
 (hs:∀j st,j<n→P j st→(∃st',eC gc dead st.H.length (exS ct c st)=some st'∧P (j+1) st')∨∃q,exS ct c st=some q∧q.1≠ .normal∧Q q)
 (he:∀st,P n st→∃q,exS ct c st=some q∧q.1≠ .normal∧Q q):∃q,exS ct (.loop gc dead c) ⟨vs,H⟩=some q∧Q q:=by
 have key:∀(k j:Nat) (st:St),j+k=n→P j st→∃q,fC gc dead (exS ct c) st=some q∧Q q:=by
  intro k
  induction k with
  | zero=>
    intro j st hj hp
    obtain⟨q,h1,h2,h3⟩:=he st (by rw[← hj];exact hp)
    exact⟨q,cW h1 h2,h3⟩
  | succ k ih=>
    intro j st hj hp
    rcases hs j st (by omega) hp with⟨st',h1,h2⟩ | ⟨q,h1,h2,h3⟩
    · obtain⟨q,h3,h4⟩:=ih (j+1) st' (by omega) h2
      exact⟨q,j9 h1 h3,h4⟩
    · exact⟨q,cW h1 h2,h3⟩
 exact key n 0 _ (by omega) h0
theorem GM(l:List Int):ct 0 N.b0 [.t (tL l)] []=some (.bp 0 0,[ba.obj ⟨l,0⟩]):=by
 refine bC K.fG rfl ?_
 simp (disch:=omega) only[go_sem,K.b0,↓reduceIte,ba.obj,Nat.reduceAdd,Nat.reduceSub]
theorem GN{d:ba}(hd:d.fH)(n:Int)(h1:1≤n)(hn:n≤4611686018427387904):
 ∃(v:Int) (e:ba),ct 0 N.aF [.bp 0 0,I n] [d.obj]=some (I v,[e.obj])∧e.fH∧0≤v∧v<n:=
 ⟨_,_,rm d n hn hd,ba.kh hd n,d.nq n,d.ns h1⟩
theorem N4{d:ba}(hd:d.fH)(l:List Int)(hl:l≠[])(hn:l.length≤4294967296):
 ∃(v:Int) (e:ba),ct 0 N.aV [.bp 0 0,.t (tL l)] [d.obj]=some (I v,[e.obj])∧e.fH∧v∈l:=
 ⟨_,_,L3 d l hl hn hd,ba.ux hd l,d.Gk hl⟩
end Go.Ev
namespace Go.Ev
open Go
variable [Lib] [dh] [dy] [kL] [kQ]
end Go.Ev
namespace Go.Ev.N
def pw:Nat:=178
def px:Nat:=179
def pW:Nat:=180
def pz:Nat:=181
def pX:Nat:=182
def rJ:Nat:=183
def pY:Nat:=184
def zW:Nat:=185
def wF:Nat:=186
def zX:Nat:=187
def rK:Nat:=188
def zY:Nat:=189
def wG:Nat:=190
def wH:Nat:=191
def Dc:Nat:=192
def uO:Nat:=193
def wI:Nat:=194
def zZ:Nat:=195
def Dd:Nat:=196
def GO:Nat:=197
def sI:Nat:=198
def sJ:Nat:=199
def De:Nat:=200
def uP:Nat:=201
def mA:Nat:=202
def wJ:Nat:=203
def ak:Nat:=204
def rL:Nat:=205
def z6:Nat:=206
def wK:Nat:=207
def rM:Nat:=208
def pZ:Nat:=209
def rN:Nat:=210
def GP:Nat:=211
def GQ:Nat:=212
def GR:Nat:=213
def Df:Nat:=214
end Go.Ev.N
namespace Go.Ev.K
open Go.Ev
end Go.Ev.K
namespace Go.Ev
class ny [Lib]:Prop where
namespace K
variable [Lib] [ny]
end K
end Go.Ev
namespace Go.Ev.K
open Go.Ev
def ak:Fn:={ nargs:=1,vars:=[0,2],body:=(.seq (.reg [w 1 (.mv (.c (.nil)))] []) (.itk [m v0,u (.eqk (.sl) false l0 (.c (.nil)))] [] 0 (.seq (.reg [w 1 (.nw 1)] []) .ret) .skip (.seq (.reg [u (.bsr [] 1),m v0,u (.app l1 l0 false 1),w 1 (.mv l0)] []) .ret))),res:=[(1,none)]}
end Go.Ev.K
namespace Go.Ev
class mB [Lib]:Prop where
 bL:Lib.fs N.ak=some K.ak
namespace K
variable [Lib] [mB]
theorem bL:Lib.fs N.ak=some K.ak:=mB.bL
end K
end Go.Ev
namespace Go.Ev
open Go
variable [Lib] [dh] [dy] [kL] [kQ] [ny] [mB]
abbrev L9(l:List Int):Obj:= .arr 1 false 0 ((l.map (T.int .i64)).map .t)
theorem mc(l:List Int)(hl:l.length≤1000000):ct 1 N.ak [.t (tL l)] []=some (.ref 0 0 l.length,[L9 l]):=by
 refine bC K.bL rfl ?_
 by_cases h0:l=[]
 · subst h0
   simp only[tL,List.map_nil]
   simp (disch:=omega) only[go_sem,K.ak,↓reduceIte,List.map_nil,List.length_nil,Nat.reduceAdd,Nat.reduceSub]
   rfl
 · have e:=fun H=>tM H (l.map (T.int .i64)) (by simpa using h0)
   simp (disch:=omega) only[go_sem,K.ak,↓reduceIte,e,Nat.reduceAdd,Nat.reduceSub]
end Go.Ev
namespace Go.Ev.N
def sK:Nat:=215
def sL:Nat:=216
def sM:Nat:=217
def z7:Nat:=218
def Aa:Nat:=219
def Ab:Nat:=220
def Dg:Nat:=221
def Dh:Nat:=222
def Di:Nat:=223
def GS:Nat:=224
def Ac:Nat:=225
def Ad:Nat:=226
def Ae:Nat:=227
def GU:Nat:=228
def Af:Nat:=229
def Ag:Nat:=230
def Dj:Nat:=231
def wL:Nat:=232
def Dk:Nat:=233
def wM:Nat:=234
def wN:Nat:=235
def wO:Nat:=236
def Dl:Nat:=237
def wP:Nat:=238
def GV:Nat:=239
def GW:Nat:=240
def nz:Nat:=241
def Dm:Nat:=242
def Ah:Nat:=243
def sN:Nat:=244
end Go.Ev.N
namespace Go.Ev.N
def oN:Nat:=245
def nB:Nat:=246
def nC:Nat:=247
def Ai:Nat:=248
def uQ:Nat:=249
def Aj:Nat:=250
def oO:Nat:=251
def sO:Nat:=252
def rO:Nat:=253
def Ak:Nat:=254
def wQ:Nat:=255
def Dn:Nat:=256
def Al:Nat:=257
def pA:Nat:=258
def dY:Nat:=259
def pB:Nat:=260
def me:Nat:=261
def wR:Nat:=262
def kR:Nat:=263
def de:Nat:=264
def uR:Nat:=265
def ek:Nat:=266
def kM:Nat:=267
def rP:Nat:=268
def dq:Nat:=269
def cmp_isNaN_int:Nat:=270
end Go.Ev.N
namespace Go.Ev.N
def pC:Nat:=271
def rQ:Nat:=272
def rR:Nat:=273
def p0:Nat:=274
def sP:Nat:=275
def rS:Nat:=276
def Am:Nat:=277
def An:Nat:=278
def Dp:Nat:=279
def Dq:Nat:=280
def sQ:Nat:=281
def GX:Nat:=282
def wS:Nat:=283
def Ao:Nat:=284
def Aq:Nat:=285
def Dr:Nat:=286
def gD:Nat:=287
def Dt:Nat:=288
def Ar:Nat:=289
def As:Nat:=290
def Au:Nat:=291
def Av:Nat:=292
def sR:Nat:=293
def Aw:Nat:=294
def Ax:Nat:=295
def wT:Nat:=296
def gw:Nat:=297
def gx:Nat:=298
def uS:Nat:=299
def kj:Nat:=300
def eg:Nat:=301
def fI:Nat:=302
def iu:Nat:=303
def fc:Nat:=304
def gE:Nat:=305
def iv:Nat:=306
def gy:Nat:=307
def sT:Nat:=308
end Go.Ev.N
namespace Go.Ev.N
def wU:Nat:=309
def rT:Nat:=310
def sU:Nat:=311
def sV:Nat:=312
def rU:Nat:=313
def Ay:Nat:=314
def Ma:Nat:=315
def GY:Nat:=316
def Az:Nat:=317
def AA:Nat:=318
def AB:Nat:=319
def AD:Nat:=320
def GZ:Nat:=321
def G0:Nat:=322
def AE:Nat:=323
def uT:Nat:=324
def G1:Nat:=325
def Js:Nat:=326
def sW:Nat:=327
def wV:Nat:=328
def uU:Nat:=329
def gF:Nat:=330
def iw:Nat:=331
def uV:Nat:=332
def rV:Nat:=333
end Go.Ev.N
namespace Go.Ev.N
def pD:Nat:=334
def p4:Nat:=335
def p5:Nat:=336
def AF:Nat:=337
def pE:Nat:=338
def AG:Nat:=339
def AH:Nat:=340
def Du:Nat:=341
def AI:Nat:=342
def Dv:Nat:=343
def Dw:Nat:=344
def Jt:Nat:=345
def sX:Nat:=346
def AJ:Nat:=347
def Dx:Nat:=348
def Dy:Nat:=349
def rW:Nat:=350
def uW:Nat:=351
def wW:Nat:=352
def wX:Nat:=353
def AK:Nat:=354
def sY:Nat:=355
def Dz:Nat:=356
def DA:Nat:=357
def uX:Nat:=358
def wY:Nat:=359
def AL:Nat:=360
def DB:Nat:=361
def AM:Nat:=362
def uY:Nat:=363
def AN:Nat:=364
def DC:Nat:=365
def DD:Nat:=366
def DE:Nat:=367
def DF:Nat:=368
def pF:Nat:=369
def dA:Nat:=370
def fN:Nat:=371
def uZ:Nat:=372
def eh:Nat:=373
def u0:Nat:=374
def u9:Nat:=375
def AO:Nat:=376
def AP:Nat:=377
def s0:Nat:=378
def dJ:Nat:=379
def eX:Nat:=380
def rX:Nat:=381
def vd:Nat:=382
def rY:Nat:=383
end Go.Ev.N
namespace Go.Ev.K
open Go.Ev
end Go.Ev.K
namespace Go.Ev
class gz [Lib]:Prop where
namespace K
variable [Lib] [gz]
end K
end Go.Ev
namespace Go.Ev.N
def ve:Nat:=384
def s8:Nat:=385
def rZ:Nat:=386
def aP:Nat:=387
def r5:Nat:=388
def bw:Nat:=389
def AQ:Nat:=390
def DG:Nat:=391
def p6:Nat:=392
def AR:Nat:=393
def AS:Nat:=394
def p7:Nat:=395
def bD:Nat:=396
def aA:Nat:=397
def pG:Nat:=398
def aW:Nat:=399
def DH:Nat:=400
def cb:Nat:=401
def r6:Nat:=402
def DI:Nat:=403
def cL:Nat:=404
def aS:Nat:=405
def DJ:Nat:=406
def G2:Nat:=407
def ax:Nat:=408
def ay:Nat:=409
def DK:Nat:=410
def b5:Nat:=411
def bf:Nat:=412
def aC:Nat:=413
def G3:Nat:=414
def au:Nat:=415
end Go.Ev.N
namespace Go.Ev.K
open Go.Ev
def cq:C:=(.seq (.ite [m v7,u (.bin .gtr l0 (.i 0))] [] 0 .skip (.exit 0)) (.seq (.blk 1 (.seq (.reg [m v5,u (.bd [.t (.int .i64 (0)),.t (.int .i64 (0)),.t (.int .i64 (0)),.nil] [(0,1,.i 5),(1,1,.l 0)]),w 8 (.al [.t (.int .i64 (0)),.t (.int .i64 (0)),.t (.int .i64 (0)),.nil] []),u (.st l0 l1 4 [])] []) (.seq (.reg [h 2 v4,h 4 v8,u (.ca N.aW 0 [] [.l 1,.l 0]),m l0,u (.ex l0 0),u (.ex l1 1),w 9 (.al [.nil,.nil] []),u (.st l0 l2 2 []),w 10 (.mv l2)] []) (.seq (.reg [h 2 v9,h 4 v8,u (.ca N.aW 0 [] [.l 1,.l 0]),m l0,u (.ex l0 0),u (.ex l1 1),u (.al [.nil,.nil] []),u (.st l0 l2 2 []),w 11 (.mv l2)] []) (.seq (.ite [m v10,u (.bin .neq l0 (.i 0)),m l0,y 0 false (.mv v11),y 1 false (.bin .neq l0 (.i 42)),u (.pk l2 (.b true) l0),m l0,y 0 false (.fa v9 1),y 1 false (.ld l0 1 false),y 2 false (.ln l0),y 3 false (.bin .neq l0 (.i 32)),u (.pk l4 (.b true) l0),m l0,y 0 false (.fa v9 1),y 1 false (.ld l0 1 false),y 2 false (.ia l0 (.i 5) 1),y 3 false (.ld l0 1 false),y 4 false (.mv v6),y 5 false (.bin .neq l1 l0),u (.pk l6 (.b true) l0)] [] 0 (.seq (.reg [w 2 (.mv (.b false))] []) .ret) .skip) (.seq (.reg [h 2 v9,u (.st v4 l0 2 [])] []) (.seq (.reg [m v3,u (.bs [.i 0,.i 1,.i 5,.i 300] 1),u (.ca N.aV 0 [] [.l 1,.l 0]),w 12 (.mv l0)] []) (.reg [m v5,u (.bin .add l0 (.i 1)),m v12,u (.bin .add l1 l0),u (.bin .rem l0 (.i 65536)),m v6,m v12,u (.bin .add l1 l0),w 5 (.mv l3),w 6 (.mv l1)] [])))))))) (.reg [m v7,u (.bin .sub l0 (.i 1)),w 7 (.mv l0)] [])))
def cG:C:= .loop true [0,1,2,8,9,10,11,12] K.cq
def aP:Fn:={ nargs:=2,vars:=[0,1,4,5,6,7,8,9,10,11,12,14,15],body:=(.seq (.reg [w 2 (.mv (.b false))] []) (.seq (.ite [m v0,u (.ca N.bK 0 [] [.l 0]),u (.un .not l0)] [] 0 (.seq (.reg [u (.ca N.bw 0 [] []),w 2 (.mv l0)] []) .ret) .skip) (.seq (.reg [m v0,u (.ca N.b0 0 [] [.l 0]),w 3 (.mv l0)] []) (.seq (.reg [u (.ca N.bD 0 [] []),w 4 (.al [.nil,.nil] []),u (.st l0 l1 2 [])] []) (.seq (.reg [m v1,u (.ca N.bS 0 [] [.l 0,.i 65536]),w 5 (.mv l0)] []) (.seq (.reg [w 6 (.mv (.i 0))] []) (.seq (.seq (.reg [m v3,u (.ca N.aF 0 [] [.l 0,.i 10]),u (.bin .add (.i 1) l0),w 7 (.mv l0)] []) (.blk 0 K.cG)) (.seq (.reg [u (.ca N.bw 0 [] []),w 2 (.mv l0)] []) .ret)))))))),res:=[(2,none)]}
def bw:Fn:={ nargs:=0,vars:=[0,1,2,3,4,5,6],body:=(.seq (.reg [w 0 (.mv (.b false))] []) (.seq (.reg [u (.bs [.i 5] 1),u (.bd [.t (.int .i64 (0)),.t (.int .i64 (0)),.t (.int .i64 (0)),.nil] [(0,1,.i 3),(1,1,.i 258),(2,1,.i 7),(3,1,.l 0)]),u (.ca N.cb 0 [] [.l 0]),m l0,u (.ex l0 0),u (.ex l1 1),w 1 (.al [.t (.int .i64 (0)),.t (.int .i64 (0)),.nil] []),u (.st l0 l2 3 []),w 2 (.mv l2)] []) (.seq (.reg [h 3 v1,u (.ca N.cL 0 [] [.l 0]),m l0,u (.ex l0 0),u (.ex l1 1),w 3 (.al [.t (.int .i64 (0)),.t (.int .i64 (0)),.t (.int .i64 (0)),.nil] []),u (.st l0 l2 4 []),w 4 (.mv l2)] []) (.seq (.reg [w 5 (.al [.nil,.nil] []),u (.ca N.bD 0 [] []),h 4 v3,u (.ca N.aW 0 [] [.l 1,.l 0]),m l0,u (.ex l0 0),u (.ex l1 1),u (.st l6 l1 2 []),w 6 (.mv l1)] [(0,2),(0,4),(2,1)]) (.seq (.reg [m v2,u (.bin .eql l0 (.i 0)),m l0,y 0 true (.mv v4),y 1 true (.bin .eql l0 (.i 0)),u (.pk l2 l0 (.b false)),m l0,y 0 true (.mv v6),y 1 true (.bin .eql l0 (.i 0)),u (.pk l2 l0 (.b false)),m l0,y 0 true (.fa v1 1),y 1 true (.ld l0 1 false),y 2 true (.bin .eql l0 (.i 9)),u (.pk l3 l0 (.b false)),m l0,y 0 true (.fa v1 2),y 1 true (.ld l0 1 false),y 2 true (.ln l0),y 3 true (.bin .eql l0 (.i 11)),u (.pk l4 l0 (.b false)),m l0,y 0 true (.fa v1 2),y 1 true (.ld l0 1 false),y 2 true (.ia l0 (.i 0) 1),y 3 true (.ld l0 1 false),y 4 true (.bin .eql l0 (.c (.t (.int .u8 (1))))),u (.pk l5 l0 (.b false)),m l0,y 0 true (.fa v1 2),y 1 true (.ld l0 1 false),y 2 true (.ia l0 (.i 7) 1),y 3 true (.ld l0 1 false),y 4 true (.bin .eql l0 (.c (.t (.int .u8 (7))))),u (.pk l5 l0 (.b false)),m l0,y 0 true (.fa v3 1),y 1 true (.ld l0 1 false),y 2 true (.bin .eql l0 (.i 258)),u (.pk l3 l0 (.b false)),m l0,y 0 true (.fa v5 0),y 1 true (.ld l0 1 false),y 2 true (.ln l0),y 3 true (.bin .eql l0 (.i 32)),u (.pk l4 l0 (.b false)),m l0,y 0 true (.fa v5 0),y 1 true (.ld l0 1 false),y 2 true (.ia l0 (.i 3) 1),y 3 true (.ld l0 1 false),y 4 true (.bin .eql l0 (.i 258)),u (.pk l5 l0 (.b false)),w 0 (.mv l0)] []) .ret))))),res:=[(0,none)]}
def bD:Fn:={ nargs:=0,vars:=[0],body:=(.seq (.reg [w 0 (.al [.nil,.nil] [])] []) (.seq (.reg [u (.bs [.i (-1)] 1),u (.ca N.aq 1 [] [.l 0,.i 32]),u (.mkt (.i 32) (.int .i64 (0)) 1),u (.bd [.nil,.nil] [(0,1,.l 1),(1,1,.l 0)]),u (.st v0 l0 2 [])] [(0,0),(2,0)]) .ret)),res:=[(0,some (2,true))]}
def aA:Fn:={ nargs:=1,vars:=[0,1,2],body:=(.seq (.reg [w 1 (.bx v0 2),w 2 (.mv (.b false))] []) (.seq (.reg [f 0 v1,g l0,u (.ln l0),u (.bin .eql l0 (.i 32)),m l0,y 0 true (.fa v1 1),y 1 true (.ld l0 1 false),y 2 true (.ln l0),y 3 true (.bin .eql l0 (.i 32)),u (.pk l4 l0 (.b false)),m l0,y 0 true (.fa v1 0),y 1 true (.ld l0 1 false),y 2 true (.ca N.ag 0 [] [.l 0,.c (.fn N.ax [])]),y 3 true (.un .not l0),u (.pk l4 l0 (.b false)),m l0,y 0 true (.fa v1 1),y 1 true (.ld l0 1 false),y 2 true (.ca N.ag 0 [] [.l 0,.c (.fn N.ay [])]),y 3 true (.un .not l0),u (.pk l4 l0 (.b false)),w 2 (.mv l0)] []) .ret)),res:=[(2,none)]}
def aW:Fn:={ nargs:=2,vars:=[0,1,2,3,4,5,6,7,8],body:=(.seq (.reg [w 2 (.bx v0 2),w 3 (.bx v1 4),w 4 (.al [.nil,.nil] []),w 5 (.mv (.i 0))] []) (.seq (.blk 0 (.ite [h 2 v2,u (.ca N.aA 0 [] [.l 0]),u (.un .not l0),m l0] [] 0 (.seq (.reg [h 2 v2,u (.st v4 l0 2 []),w 5 (.mv (.i 10))] []) .ret) (.ite [h 4 v3,u (.ca N.aS 0 [] [.l 0]),u (.un .not l0),m l0] [] 0 (.seq (.reg [h 2 v2,u (.st v4 l0 2 []),w 5 (.mv (.i 6))] []) .ret) .skip))) (.seq (.reg [f 0 v2,g l0,f 0 v3,g l0,a 1 l2 l0,g l0,w 6 (.mv l0)] []) (.seq (.reg [f 1 v3,g l0,m v6,u (.bin .sub l1 l0),u (.bin .add l0 (.i 65536)),u (.bin .rem l0 (.i 65536)),w 7 (.mv l0)] []) (.seq (.ite [m v6,u (.bin .geq l0 (.i 0)),m l0,y 0 true (.mv v7),y 1 true (.bin .eql l0 (.i 0)),y 2 true (.mv l0),y 0 false (.mv v7),y 1 false (.bin .geq l0 (.i 32768)),y 5 true (.pk l2 (.b true) l0),u (.pk l6 l0 (.b false))] [] 0 (.seq (.reg [h 2 v2,u (.st v4 l0 2 []),w 5 (.mv (.i 42))] []) .ret) .skip) (.seq (.reg [w 8 (.al [.nil,.nil] []),f 0 v2,g l0,u (.ca N.ak 1 [] [.l 0]),f 1 v2,g l0,u (.ca N.ak 1 [] [.l 0]),u (.bd [.nil,.nil] [(0,1,.l 3),(1,1,.l 0)]),u (.st l7 l0 2 [])] [(0,4),(0,7),(5,1)]) (.seq (.reg [f 0 v8,g l0,f 0 v3,g l0,f 1 v3,g l0,a 1 l4 l2,u (.st l0 l1 1 [])] []) (.seq (.ite [m v6,u (.bin .geq l0 (.i 0))] [] 0 (.reg [f 1 v8,g l0,f 0 v3,g l0,f 1 v8,g l0,f 0 v3,g l0,a 1 l2 l0,g l0,m v7,u (.bin .add l1 l0),u (.bin .sub l0 (.i 1)),u (.mn [.l 0,.i 2147483648]),a 1 (.l 12) l10,u (.st l0 l1 1 [])] []) .skip) (.seq (.reg [h 2 v8,u (.st v4 l0 2 []),w 5 (.mv (.i 0))] []) .ret))))))))),res:=[(4,some (2,true)),(5,none)]}
def jM:C:=(.its [u (.bin .lss v8 v7)] [] 0 .skip (.exit 0) (.seq (.blk 1 (.seq (.reg [a 1 v6 v8,g l0,w 5 (.mv l0)] []) (.reg [m v4,m v5,u (.cv .u64 l0),u (.ca N.b5 1 [0] [.l 2,.l 0,.i 2]),w 4 (.mv l0)] []))) (.reg [u (.bin .add v8 (.i 1)),w 8 (.mv l0)] [])))
def kN:C:= .loop true [0,3,5] K.jM
def cb:Fn:={ nargs:=1,vars:=[0,1,2,3,4,6,28,29,30],body:=(.seq (.reg [w 1 (.bx v0 4),w 2 (.al [.t (.int .i64 (0)),.t (.int .i64 (0)),.nil] []),w 3 (.mv (.i 0))] []) (.seq (.ite [h 4 v1,u (.ca N.aS 0 [] [.l 0]),u (.un .not l0)] [] 0 (.seq (.reg [u (.bd [.t (.int .i64 (0)),.t (.int .i64 (0)),.nil] []),u (.st v2 l0 3 []),w 3 (.mv (.i 6))] []) .ret) .skip) (.seq (.reg [f 1 v1,g l0,u (.cv .u64 l0),u (.ca N.b5 1 [0] [.c (.nil),.l 0,.i 2]),w 4 (.mv l0)] []) (.seq (.reg [m v4,f 2 v1,g l0,u (.cv .u64 l0),u (.ca N.b5 1 [0] [.l 3,.l 0,.i 6]),w 4 (.mv l0)] []) (.seq (.reg [m v4,f 3 v1,g l0,u (.ln l0),u (.cv .u8 l0),u (.bs [.l 0] 1),u (.app l5 l0 true 1),w 4 (.mv l0)] []) (.seq (.seq (.reg [f 3 v1,w 6 (.ld l0 1 false),w 7 (.ln l0),w 8 (.mv (.i 0))] []) (.blk 0 K.kN)) (.seq (.reg [f 0 v1,g l0,m v4,u (.bd [.t (.int .i64 (0)),.t (.int .i64 (0)),.nil] [(0,1,.l 1),(1,1,.i 9),(2,1,.l 0)]),u (.st v2 l0 3 []),w 3 (.mv (.i 0))] []) .ret))))))),res:=[(2,some (3,true)),(3,none)]}
def gA:C:= .rng 6 7 N.au [w 5 (.mv v7)] [] [f 3 v4,g l0,m v5,u (.ca N.bf 0 [] [.l 0]),u (.cv .i64 l0),u (.bs [.l 0] 1),u (.app l4 l0 true 1),f 3 v4,u (.st l0 l1 1 [])] [(1,4),(1,6)]
def wZ:C:=K.gA
def cL:Fn:={ nargs:=1,vars:=[0,1,2,3,4,5,49,50],body:=(.seq (.reg [w 1 (.bx v0 3),w 2 (.al [.t (.int .i64 (0)),.t (.int .i64 (0)),.t (.int .i64 (0)),.nil] []),w 3 (.mv (.i 0))] []) (.seq (.ite [f 1 v1,g l0,u (.bin .neq l0 (.i 9))] [] 0 (.seq (.reg [u (.bd [.t (.int .i64 (0)),.t (.int .i64 (0)),.t (.int .i64 (0)),.nil] []),u (.st v2 l0 4 []),w 3 (.mv (.i 5))] []) .ret) .skip) (.seq (.ite [f 0 v1,g l0,u (.ca N.bG 0 [] [.l 0,.i 0,.i 31]),u (.un .not l0)] [] 0 (.seq (.reg [u (.bd [.t (.int .i64 (0)),.t (.int .i64 (0)),.t (.int .i64 (0)),.nil] []),u (.st v2 l0 4 []),w 3 (.mv (.i 40))] []) .ret) .skip) (.seq (.ite [f 2 v1,g l0,u (.ln l0),u (.bin .lss l0 (.i 9)),m l0,y 0 false (.fa v1 2),y 1 false (.ld l0 1 false),y 2 false (.ln l0),y 3 false (.fa v1 2),y 4 false (.ld l0 1 false),y 5 false (.ia l0 (.i 8) 1),y 6 false (.ld l0 1 false),y 7 false (.cv .i64 l0),y 8 false (.bin .mul (.i 2) l0),y 9 false (.bin .add (.i 9) l0),y 10 false (.bin .neq l7 l0),u (.pk l11 (.b true) l0)] [] 0 (.seq (.reg [u (.bd [.t (.int .i64 (0)),.t (.int .i64 (0)),.t (.int .i64 (0)),.nil] []),u (.st v2 l0 4 []),w 3 (.mv (.i 6))] []) .ret) .skip) (.seq (.reg [w 4 (.al [.t (.int .i64 (0)),.t (.int .i64 (0)),.t (.int .i64 (0)),.nil] [(3,1)]),f 0 v1,g l0,f 2 v1,g l0,u (.sc l0 none (some (.i 2)) 1),u (.ca N.bf 0 [] [.l 0]),u (.cv .i64 l0),f 2 v1,g l0,u (.sc l0 (some (.i 2)) (some (.i 8)) 1),u (.ca N.bf 0 [] [.l 0]),u (.cv .i64 l0),u (.bd [.t (.int .i64 (0)),.t (.int .i64 (0)),.t (.int .i64 (0)),.nil] [(0,1,.l 10),(1,1,.l 5),(2,1,.l 0)]),u (.st (.l 13) l0 4 [(3,1)])] [(0,7),(0,12),(2,7),(2,12),(9,1),(10,1)]) (.seq (.seq (.reg [f 2 v1,g l0,u (.sc l0 (some (.i 9)) none 1),w 6 (.ca N.aC 0 [] [.l 0,.i 2])] []) (.blk 0 K.gA)) (.seq (.ite [h 4 v4,u (.ca N.aS 0 [] [.l 0]),u (.un .not l0)] [] 0 (.seq (.reg [u (.bd [.t (.int .i64 (0)),.t (.int .i64 (0)),.t (.int .i64 (0)),.nil] []),u (.st v2 l0 4 []),w 3 (.mv (.i 6))] []) .ret) .skip) (.seq (.reg [h 4 v4,u (.st v2 l0 4 []),w 3 (.mv (.i 0))] []) .ret)))))))),res:=[(2,some (4,true)),(3,none)]}
def aS:Fn:={ nargs:=1,vars:=[0,1,2],body:=(.seq (.reg [w 1 (.bx v0 4),w 2 (.mv (.b false))] []) (.seq (.reg [f 0 v1,g l0,u (.ca N.bG 0 [] [.l 0,.i 0,.i 31]),m l0,y 0 true (.fa v1 1),y 1 true (.ld l0 1 false),y 2 true (.ca N.bG 0 [] [.l 0,.i 0,.i 65535]),u (.pk l3 l0 (.b false)),m l0,y 0 true (.fa v1 2),y 1 true (.ld l0 1 false),y 2 true (.ca N.bG 0 [] [.l 0,.i 0,.i 2147483648]),u (.pk l3 l0 (.b false)),m l0,y 0 true (.fa v1 3),y 1 true (.ld l0 1 false),y 2 true (.ln l0),y 3 true (.bin .leq l0 (.i 20)),u (.pk l4 l0 (.b false)),m l0,y 0 true (.fa v1 3),y 1 true (.ld l0 1 false),y 2 true (.ca N.bc 0 [] [.l 0,.i 1,.i 65535]),u (.pk l3 l0 (.b false)),w 2 (.mv l0)] []) .ret)),res:=[(2,none)]}
def ax:Fn:={ nargs:=1,vars:=[0,2],body:=(.seq (.reg [w 1 (.mv (.b false))] []) (.seq (.reg [m v0,u (.ca N.bG 0 [] [.l 0,.i (-1),.i 65535]),u (.un .not l0),w 1 (.mv l0)] []) .ret)),res:=[(1,none)]}
def ay:Fn:={ nargs:=1,vars:=[0,2],body:=(.seq (.reg [w 1 (.mv (.b false))] []) (.seq (.reg [m v0,u (.ca N.bG 0 [] [.l 0,.i 0,.i 2147483648]),u (.un .not l0),w 1 (.mv l0)] []) .ret)),res:=[(1,none)]}
def kO:C:=(.seq (.ite [m v4,u (.bin .geq l0 (.i 0))] [] 0 .skip (.exit 0)) (.seq (.blk 1 (.reg [m v0,m v1,m v4,u (.bin .mul (.i 8) l0),u (.cv .u64 l0),u (.bin .shr l3 l0),u (.cv .u8 l0),u (.bs [.l 0] 1),u (.app l7 l0 true 1),w 0 (.mv l0)] [])) (.reg [m v4,u (.bin .sub l0 (.i 1)),w 4 (.mv l0)] [])))
def mg:C:= .loop false [2,3] K.kO
def b5:Fn:={ nargs:=3,vars:=[0,1,2,6,7],body:=(.seq (.reg [w 3 (.mv (.c (.nil)))] []) (.seq (.seq (.reg [m v2,u (.bin .sub l0 (.i 1)),w 4 (.mv l0)] []) (.blk 0 K.mg)) (.seq (.reg [m v0,w 3 (.mv l0)] []) .ret))),res:=[(3,none)]}
def iE:C:=(.its [u (.bin .lss v6 v5)] [] 0 .skip (.exit 0) (.seq (.blk 1 (.seq (.reg [a 1 v4 v6,g l0,w 3 (.mv l0)] []) (.reg [m v2,u (.bin .shl l0 (.c (.t (.int .u64 (8))))),m v3,u (.cv .u64 l0),u (.bin .or l2 l0),w 2 (.mv l0)] []))) (.reg [u (.bin .add v6 (.i 1)),w 6 (.mv l0)] [])))
def jD:C:= .loop true [0,1,3] K.iE
def bf:Fn:={ nargs:=1,vars:=[0,2,3,5,6,7,8],body:=(.seq (.reg [w 1 (.mv (.c (.t (.int .u64 (0)))))] []) (.seq (.reg [w 2 (.mv (.c (.t (.int .u64 (0)))))] []) (.seq (.seq (.reg [w 4 (.mv v0),w 5 (.ln l0),w 6 (.mv (.i 0))] []) (.blk 0 K.jD)) (.seq (.reg [m v2,w 1 (.mv l0)] []) .ret)))),res:=[(1,none)]}
def aC:Fn:={ nargs:=2,vars:=[0,1,2,3,4],body:=(.seq (.reg [w 2 (.bx v0 1),w 3 (.bx v1 1),w 4 (.mv (.c (.und)))] []) (.seq (.ite [g v3,u (.bin .lss l0 (.i 1))] [] 0 .fail .skip) (.seq (.reg [u (.mf N.au [.v 2,.v 3]),w 4 (.mv l0)] []) .ret))),res:=[(4,none)]}
end Go.Ev.K
namespace Go.Ev
class cH [Lib]:Prop where
 cP:Lib.fs N.aP=some K.aP
 gB:Lib.fs N.bw=some K.bw
 eM:Lib.fs N.bD=some K.bD
 cr:Lib.fs N.aA=some K.aA
 fJ:Lib.fs N.aW=some K.aW
 iy:Lib.fs N.cb=some K.cb
 jE:Lib.fs N.cL=some K.cL
 eO:Lib.fs N.aS=some K.aS
 bV:Lib.fs N.ax=some K.ax
 bW:Lib.fs N.ay=some K.ay
 jF:Lib.fs N.b5=some K.b5
 fp:Lib.fs N.bf=some K.bf
 cf:Lib.fs N.aC=some K.aC
namespace K
variable [Lib] [cH]
theorem cP:Lib.fs N.aP=some K.aP:=cH.cP
theorem gB:Lib.fs N.bw=some K.bw:=cH.gB
theorem eM:Lib.fs N.bD=some K.bD:=cH.eM
theorem cr:Lib.fs N.aA=some K.aA:=cH.cr
theorem fJ:Lib.fs N.aW=some K.aW:=cH.fJ
theorem iy:Lib.fs N.cb=some K.cb:=cH.iy
theorem jE:Lib.fs N.cL=some K.cL:=cH.jE
theorem eO:Lib.fs N.aS=some K.aS:=cH.eO
theorem bV:Lib.fs N.ax=some K.ax:=cH.bV
theorem bW:Lib.fs N.ay=some K.ay:=cH.bW
theorem jF:Lib.fs N.b5=some K.b5:=cH.jF
theorem fp:Lib.fs N.bf=some K.bf:=cH.fp
theorem cf:Lib.fs N.aC=some K.aC:=cH.cf
end K
end Go.Ev
namespace Go.Ev.K
open Go.Ev
def au:Fn:={ nargs:=3,vars:=[],body:= .fail,res:=[]}
end Go.Ev.K
namespace Go.Ev
class fK [Lib]:Prop where
 bT:Lib.fs N.au=some K.au
namespace K
variable [Lib] [fK]
theorem bT:Lib.fs N.au=some K.au:=fK.bT
end K
end Go.Ev
namespace Go.Ev
open Go
variable [Lib] [dh] [dy] [nu] [mz] [kL] [kQ] [ny] [mB] [gz] [cH] [fK]
abbrev tB(l:List Int):T:= .sl (l.map (T.int .u8))
structure Rpt where
 reader:Int
 number:Int
 time:Int
 tags:List Int
abbrev Rpt.e(r:Rpt):T:= .agg [tI r.reader,tI r.number,tI r.time,tL r.tags]
structure Frm where
 addr:Int
 kind:Int
 data:List Int
abbrev Frm.e(f:Frm):T:= .agg [tI f.addr,tI f.kind,tB f.data]
structure Itk where
 last:List Int
 lost:List Int
abbrev Itk.e(x:Itk):T:= .agg [tL x.last,tL x.lost]
@[go_sem] theorem AT (l : List Int) : aE 1 (l.map (T.int .u8)) = true := cK 1 _ (fun _ => rfl) l
@[go_sem] theorem Ju (l : List Int) : dv 1 (l.map (T.int .u8)) = true := by cases l <;> rfl
theorem Nd{a:Int}(h:0≤a)(h2:a<9223372036854775808):IntKind.i64.wrap a=a:=by
 simp only[IntKind.wrap,IntKind.bits,IntKind.signed];simp;omega
def s9(r:Rpt):Bool:=decide (0≤r.reader∧r.reader≤31)&&(decide (0≤r.number∧r.number≤65535)&&(decide (0≤r.time∧r.time≤2147483648)&&(decide (r.tags.length≤20)&&wo r.tags 1 65535)))
theorem pH(r:Rpt)(hl:r.tags.length≤1000000):ct 0 N.aS [.t r.e] []=some (B (s9 r),[]):=by
 refine bC K.eO rfl ?_
 have i1:=rn r.reader 0 31
 have i2:=rn r.number 0 65535
 have i3:=rn r.time 0 2147483648
 have i4:=rr r.tags 1 65535 (by omega)
 unfold s9
 obtain⟨reader,number,time,tags⟩:=r
 simp only at*
 generalize wo tags 1 65535=b4 at*
 generalize decide (0≤reader∧reader≤31)=b1 at*
 generalize decide (0≤number∧number≤65535)=b2 at*
 generalize decide (0≤time∧time≤2147483648)=b3 at*
 cases b1 with
 | false=>simp (disch:=omega) only[go_sem,K.aS,↓reduceIte,i1,Bool.false_and,Nat.reduceAdd,Nat.reduceSub]
 | true=>
   cases b2 with
   | false=>simp (disch:=omega) only[go_sem,K.aS,↓reduceIte,i1,i2,Bool.false_and,Bool.true_and,Nat.reduceAdd,Nat.reduceSub]
   | true=>
     cases b3 with
     | false=>simp (disch:=omega) only[go_sem,K.aS,↓reduceIte,i1,i2,i3,Bool.false_and,Bool.true_and,Nat.reduceAdd,Nat.reduceSub]
     | true=>
       by_cases c:tags.length≤20
       · simp (disch:=omega) only[go_sem,K.aS,↓reduceIte,i1,i2,i3,i4,c,decide_true,Bool.true_and,Nat.reduceAdd,Nat.reduceSub]
       · simp (disch:=omega) only[go_sem,K.aS,↓reduceIte,i1,i2,i3,c,decide_false,Bool.true_and,Bool.false_and,Nat.reduceAdd,Nat.reduceSub]
structure Rpt.ok(r:Rpt):Prop where
 r1:0≤r.reader
 r2:r.reader≤31
 n1:0≤r.number
 n2:r.number≤65535
 t1:0≤r.time
 t2:r.time≤2147483648
 l:r.tags.length≤20
 g1:∀x∈r.tags,1≤x
 g2:∀x∈r.tags,x≤65535
theorem r7{l:List Int}{lo hi:Int}(h:wo l lo hi=true){x:Int}(hx:x∈l):lo≤x∧x≤hi:=by
 unfold wo at h
 rw[Bool.not_eq_true',List.any_eq_false]at h
 obtain⟨j,hj,rfl⟩:=List.getElem_of_mem hx
 have:=h j (List.mem_range.2 hj)
 simp only[sC,Bool.not_eq_true',decide_eq_false_iff_not,Decidable.not_not]at this
 rw[rh (List.getElem?_eq_getElem hj)]at this
 exact⟨this.1,this.2.1⟩
theorem r8{r:Rpt}(h:s9 r=true):r.ok:=by
 simp only[s9,Bool.and_eq_true,decide_eq_true_eq]at h
 obtain⟨⟨a1,a2⟩,⟨b1,b2⟩,⟨c1,c2⟩,d,e⟩:=h
 exact⟨a1,a2,b1,b2,c1,c2,d,fun x hx=>(r7 e hx).1,fun x hx=>(r7 e hx).2⟩
def txt(l:List Int):ByteArray:=⟨(l.map fun n=>UInt8.ofNat n.toNat).toArray⟩
def AU(H:ab)(a:D):Option (D×ab):=(kS a).map fun d=>(d,H)
@[go_sem] theorem Nf (call : ah) (get : X → Option D) (H : ab) (x : X) : evO call get H (.bst x) = (get x).bind (AU H) := (rfl)
theorem mh:∀l:List Int,aH byteOf (l.map (T.int .u8))=some (l.map fun n=>UInt8.ofNat n.toNat)
 | []=>rfl
 | x::l=>by simp only[List.map_cons,aH,byteOf,mh l,Option.bind_some,Option.map_some]
@[go_sem] theorem Jv (H : ab) (l : List Int) : AU H (.t (.sl (l.map (T.int .u8)))) = some (.t (.str (txt l)), H) := by
 simp only[AU,kS,mh,Option.map_some,txt]
@[go_sem] theorem G4 (H : ab) (a b : ByteArray) : eD H .str false (some (.t (.str a))) (some (.t (.str b))) = some (.t (.bool (a == b)), H) := (rfl)
abbrev z4:List D:=[I 0,I 0,I 0,.nil]
structure RI(L:List Int)(t:Int)(j:Nat):Prop where
 l:L.length=j
 t0:0≤t
 t9:t≤3*j
 b:∀x∈L,1≤x∧x≤t
 r:wo L 1 65535=true
theorem RI.nil:RI [] 0 0:=⟨rfl,by omega,by omega,fun x hx=>(by cases hx),rfl⟩
structure r9(r:Rpt)(t:Int):Prop where
 r0:0≤r.reader
 r3:r.reader<3
 n0:0≤r.number
 n20:r.number<20
 t:r.time=t
 l:r.tags.length≤3
 r:wo r.tags 1 65535=true
theorem r9.ok{r:Rpt}{t:Int}(h:r9 r t)(h0:0≤t)(h1:t≤2147483648):s9 r=true:=by
 have:=h.t
 have:=h.r0
 have:=h.r3
 have:=h.n0
 have:=h.n20
 have:=h.l
 unfold s9
 rw[h.r,decide_eq_true (show 0≤r.reader∧r.reader≤31 by omega),decide_eq_true (show 0≤r.number∧r.number≤65535 by omega),decide_eq_true (show 0≤r.time∧r.time≤2147483648 by omega),decide_eq_true (show r.tags.length≤20 by omega)]
 rfl
def w4(n:Int):Bool:= !decide (-1≤n∧n≤65535)
def w5(n:Int):Bool:= !decide (0≤n∧n≤2147483648)
def w6(x:Itk):Bool:=decide (x.last.length=32)&&(decide (x.lost.length=32)&&(!(x.last.any w4)&& !(x.lost.any w5)))
theorem AV(n:Int):ct 0 N.ax [I n] []=some (B (w4 n),[]):=by
 refine bC K.bV rfl ?_
 have i:=rn n (-1) 65535
 unfold w4
 simp (disch:=omega) only[go_sem,K.ax,↓reduceIte,i,Nat.reduceAdd,Nat.reduceSub]
theorem AX(n:Int):ct 0 N.ay [I n] []=some (B (w5 n),[]):=by
 refine bC K.bW rfl ?_
 have i:=rn n 0 2147483648
 unfold w5
 simp (disch:=omega) only[go_sem,K.ay,↓reduceIte,i,Nat.reduceAdd,Nat.reduceSub]
theorem AY(x:Itk)(h1:x.last.length≤1000000)(h2:x.lost.length≤1000000):ct 0 N.aA [.t x.e] []=some (B (w6 x),[]):=by
 refine bC K.cr rfl ?_
 have c1:ct 0 N.ag [.t (tL x.last),.fn N.ax []] []=some (B (x.last.any w4),[]):=eJ x.last (by omega) N.ax [] w4 (fun n _=>AV n)
 have c2:ct 0 N.ag [.t (tL x.lost),.fn N.ay []] []=some (B (x.lost.any w5),[]):=eJ x.lost (by omega) N.ay [] w5 (fun n _=>AX n)
 unfold w6
 generalize x.last.any w4=b1 at*
 generalize x.lost.any w5=b2 at*
 obtain⟨last,lost⟩:=x
 simp only at*
 by_cases a1:last.length=32
 · by_cases a2:lost.length=32
   · cases b1 with
     | true=>simp (disch:=omega) only[go_sem,K.aA,↓reduceIte,a1,a2,c1,decide_true,Bool.true_and,Bool.not_true,Bool.false_and,Nat.reduceAdd,Nat.reduceSub]
     | false=>simp (disch:=omega) only[go_sem,K.aA,↓reduceIte,a1,a2,c1,c2,decide_true,Bool.true_and,Bool.not_false,Nat.reduceAdd,Nat.reduceSub]
   · have a3:¬(lost.length:Int)=32:=by omega
     simp (disch:=omega) only[go_sem,K.aA,↓reduceIte,a1,a2,a3,decide_true,decide_false,Bool.true_and,Bool.false_and,Nat.reduceAdd,Nat.reduceSub]
 · have a3:¬(last.length:Int)=32:=by omega
   simp (disch:=omega) only[go_sem,K.aA,↓reduceIte,a1,a3,decide_false,Bool.false_and,Nat.reduceAdd,Nat.reduceSub]
def AZ:Itk:=⟨List.replicate 32 (-1),List.replicate 32 0⟩
theorem mi(n:Nat)(v:Int):(List.replicate n v).map (T.int .i64)=List.replicate n (T.int .i64 v):=List.map_replicate
theorem nD:ct 0 N.bD [] []=some (.t AZ.e,[]):=by
 refine bC K.eM rfl ?_
 have rp:ct 1 N.aq [.t (.sl [.int .i64 (-1)]),I 32] []=_:=rI (-1) 32 (by omega) (by omega)
 have r2:(List.replicate 32 (0:Int)).map (T.int .i64)=List.replicate 32 (T.int .i64 0):=mi 32 0
 have r3:List.replicate 32 (I (-1))=((List.replicate 32 (-1:Int)).map (T.int .i64)).map .t:=by rw[mi,List.map_replicate]
 rw[r3]at rp
 have l1:(List.replicate 32 (-1:Int)).length=32:=List.length_replicate
 unfold AZ
 simp only[Itk.e,tL,r2]
 generalize List.replicate 32 (-1:Int)=q at*
 simp (disch:=omega) only[go_sem,K.bD,↓reduceIte,rp,l1,Nat.reduceAdd,Nat.reduceSub]
 rfl
def dt(x:Itk)(r:Rpt):Int:=nth x.last r.reader.toNat
def stepOf(x:Itk)(r:Rpt):Int:=(r.number-dt x r+65536) % 65536
def cg(x:Itk)(r:Rpt):Itk:=⟨x.last.set r.reader.toNat r.number,if 0≤dt x r then x.lost.set r.reader.toNat (min (nth x.lost r.reader.toNat+stepOf x r-1) 2147483648)else x.lost⟩
def nE(x:Itk)(r:Rpt):Itk×Int:=
 if w6 x=false then(x,10)else if s9 r=false then(x,6)
 else if 0≤dt x r∧(stepOf x r=0∨32768≤stepOf x r)then(x,42)else(cg x r,0)
structure Itk.ok(x:Itk):Prop where
 a:x.last.length=32
 b:x.lost.length=32
 c:∀n∈x.last, -1≤n∧n≤65535
 d:∀n∈x.lost,0≤n∧n≤2147483648
theorem A0{x:Itk}(h:w6 x=true):x.ok:=by
 simp only[w6,Bool.and_eq_true,decide_eq_true_eq,Bool.not_eq_true',List.any_eq_false,w4,w5,decide_eq_false_iff_not,Decidable.not_not]at h
 exact⟨h.1,h.2.1,h.2.2.1,h.2.2.2⟩
theorem kl{x:Itk}{r:Rpt}(hx:x.ok)(hr:r.ok): -1≤dt x r∧dt x r≤65535∧(r.number-dt x r+65536).tmod 65536=stepOf x r∧0≤stepOf x r∧stepOf x r<65536∧0≤nth x.lost r.reader.toNat∧nth x.lost r.reader.toNat≤2147483648:=by
 have a1:=hr.r1;have a2:=hr.r2;have n1:=hr.n1;have n2:=hr.n2
 have h1:=hx.a;have h2:=hx.b
 have l:=hx.c _ (eI (l:=x.last) (j:=r.reader.toNat) (by omega))
 have m:=hx.d _ (eI (l:=x.lost) (j:=r.reader.toNat) (by omega))
 have e:(r.number-dt x r+65536).tmod 65536=stepOf x r:=by
  unfold stepOf
  exact Int.tmod_eq_emod_of_nonneg (by unfold dt;omega)
 refine⟨l.1,l.2,e,?_,?_,m.1,m.2⟩<;>unfold stepOf<;>omega
theorem oP(x:Itk)(r:Rpt)(h1:x.last.length≤1000000)(h2:x.lost.length≤1000000)(h3:r.tags.length≤1000000):
 ct 0 N.aW [.t x.e,.t r.e] []=some (.tup [.t (nE x r).1.e,I (nE x r).2],[]):=by
 refine bC K.fJ rfl ?_
 have vi:=AY x h1 h2
 have vr:=pH r h3
 unfold nE
 cases hi:w6 x with
 | false=>
   rw[hi]at vi
   rw[if_pos rfl]
   obtain⟨last,lost⟩:=x
   obtain⟨r1,r2,r3,r4⟩:=r
   simp only at*
   simp (disch:=omega) only[go_sem,K.aW,↓reduceIte,vi,Nat.reduceAdd,Nat.reduceSub]
 | true=>
   rw[hi]at vi
   rw[if_neg (by simp)]
   cases hr:s9 r with
   | false=>
     rw[hr]at vr
     rw[if_pos rfl]
     obtain⟨last,lost⟩:=x
     obtain⟨r1,r2,r3,r4⟩:=r
     simp only at*
     simp (disch:=omega) only[go_sem,K.aW,↓reduceIte,vi,vr,Nat.reduceAdd,Nat.reduceSub]
   | true=>
     rw[hr]at vr
     rw[if_neg (by simp)]
     have xo:=A0 hi
     have ro:=r8 hr
     obtain⟨s1,s2,s3,s4,s5,s6,s7⟩:=kl xo ro
     have a1:=ro.r1;have a2:=ro.r2;have n1:=ro.n1;have n2:=ro.n2
     have q1:=xo.a;have q2:=xo.b
     obtain⟨i,hi2⟩:=Int.eq_ofNat_of_zero_le a1
     have ex:(x.last.map (T.int .i64))[i]?=some (.int .i64 (nth x.last i)):=jC _ (by omega)
     have ey:(x.lost.map (T.int .i64))[i]?=some (.int .i64 (nth x.lost i)):=jC _ (by omega)
     have c1:=mc x.last h1
     have c2:=mc x.lost h2
     have it:r.reader.toNat=i:=by omega
     unfold cg
     generalize hs:stepOf x r=st at*
     unfold dt at*
     rw[it]at*
     obtain⟨last,lost⟩:=x
     obtain⟨r1,r2,r3,r4⟩:=r
     simp only at*
     subst hi2
     simp only[Int.toNat_natCast]at*
     clear hs hi hr
     have w1:=Nd (a:=nth lost i+st) (by omega) (by omega)
     by_cases b1:0≤nth last i
     · by_cases b2:st=0
       · rw[if_pos ⟨b1,.inl b2⟩]
         simp (disch:=omega) only[go_sem,K.aW,↓reduceIte,vi,vr,s3,b1,b2,Nat.reduceAdd,Nat.reduceSub]
       · by_cases b3:32768≤st
         · rw[if_pos ⟨b1,.inr b3⟩]
           simp (disch:=omega) only[go_sem,K.aW,↓reduceIte,vi,vr,s3,b1,b2,b3,Nat.reduceAdd,Nat.reduceSub]
         · rw[if_neg (by rintro ⟨_,h | h⟩;exact b2 h;exact b3 h),if_pos b1]
           have w2:=Nd (a:=nth lost i+st-1) (by omega) (by omega)
           simp only[L9]at*
           simp (disch:=omega) only[go_sem,K.aW,↓reduceIte,vi,vr,s3,b1,b2,b3,w1,w2,c1,c2,Nat.reduceAdd,Nat.reduceSub]
     · rw[if_neg (fun h=>b1 h.1),if_neg b1]
       simp only[L9]at*
       simp (disch:=omega) only[go_sem,K.aW,↓reduceIte,vi,vr,s3,b1,c1,c2,Nat.reduceAdd,Nat.reduceSub]
theorem Itk.ok.isB{x:Itk}(h:x.ok):w6 x=true:=by
 simp only[w6,Bool.and_eq_true,decide_eq_true_eq,Bool.not_eq_true',List.any_eq_false,w4,w5,decide_eq_false_iff_not,Decidable.not_not]
 exact⟨h.a,h.b,h.c,h.d⟩
theorem A1:AZ.ok:=by
 refine⟨rfl,rfl,fun n hn=>?_,fun n hn=>?_⟩
 · have:n= -1:=(List.mem_replicate.1 hn).2
   omega
 · have:n=0:=(List.mem_replicate.1 hn).2
   omega
theorem oQ{l:List Int}{i:Nat}(h:i<l.length)(v:Int):nth (l.set i v) i=v:=rh (by simp[h])
theorem Itk.ok.taken{x:Itk}(h:x.ok){r:Rpt}(hr:r.ok)(hs:0≤dt x r→1≤stepOf x r):(cg x r).ok:=by
 have n1:=hr.n1;have n2:=hr.n2
 obtain⟨s1,s2,s3,s4,s5,s6,s7⟩:=kl h hr
 unfold cg
 refine⟨by simp only[List.length_set];exact h.a,?_,fun n hn=>?_,fun n hn=>?_⟩
 · simp only
   split
   · rw[List.length_set];exact h.b
   · exact h.b
 · rcases List.mem_or_eq_of_mem_set hn with h1 | rfl
   · exact h.c n h1
   · omega
 · simp only at hn
   split at hn
   · rename_i c
     have:=hs c
     rcases List.mem_or_eq_of_mem_set hn with h1 | h1
     · exact h.d n h1
     · omega
   · exact h.d n hn
def rp5(n:Int):Rpt:=⟨5,n,0,[]⟩
theorem Mb{n:Int}(h0:0≤n)(h1:n<65536):s9 (rp5 n)=true:=by
 unfold s9 rp5
 simp only
 rw[decide_eq_true (show 0≤n∧n≤65535 by omega)]
 rfl
structure TLI(x:Itk)(n l:Int)(j:Nat):Prop where
 ok:x.ok
 n0:0≤n
 n1:n<65536
 l0:0≤l
 l1:l≤300*j
 h:(nth x.last 5= -1∧nth x.lost 5=l)∨(0≤nth x.last 5∧∃g:Int,0≤g∧g≤300∧n=(nth x.last 5+1+g) % 65536∧l=nth x.lost 5+g)
theorem TLI.step{x:Itk}{n l:Int}{j:Nat}(h:TLI x n l j)(hj:j≤100):
 nE x (rp5 n)=(cg x (rp5 n),0)∧nE (cg x (rp5 n)) (rp5 n)=(cg x (rp5 n),42)∧(cg x (rp5 n)).ok∧nth (cg x (rp5 n)).lost 5=l∧nth (cg x (rp5 n)).last 5=n:=by
 have rb:=Mb h.n0 h.n1
 have ro:=r8 rb
 have n0:=h.n0;have n1:=h.n1;have l0:=h.l0;have l1:=h.l1
 have xa:=h.ok.a;have xb:=h.ok.b
 have e5:(rp5 n).reader.toNat=5:=rfl
 have en:(rp5 n).number=n:=rfl
 have el:dt x (rp5 n)=nth x.last 5:=by unfold dt;rw[e5]
 have es:stepOf x (rp5 n)=(n-nth x.last 5+65536) % 65536:=by unfold stepOf;rw[el,en]
 have lb:=h.ok.c _ (eI (l:=x.last) (j:=5) (by omega))
 have db:=h.ok.d _ (eI (l:=x.lost) (j:=5) (by omega))
 have st:0≤nth x.last 5→1≤stepOf x (rp5 n)∧stepOf x (rp5 n)≤301∧l=nth x.lost 5+stepOf x (rp5 n)-1:=by
  intro h0
  rcases h.h with⟨h1,_⟩ | ⟨_,g,g0,g1,hn,hl⟩
  · omega
  · rw[es];omega
 have tk:(cg x (rp5 n)).ok:=h.ok.taken ro (fun h0=>(st (by rw[← el];exact h0)).1)
 have t1:nth (cg x (rp5 n)).last 5=n:=by
  unfold cg
  simp only[e5,en]
  exact oQ (by omega) n
 have t2:nth (cg x (rp5 n)).lost 5=l:=by
  unfold cg
  simp only[e5,el]
  split
  · rename_i c
    obtain⟨a,b,d⟩:=st c
    rw[oQ (by omega)]
    omega
  · rename_i c
    rcases h.h with⟨_,h1⟩ | ⟨h1,_⟩
    · exact h1
    · exact absurd h1 c
 refine⟨?_,?_,tk,t2,t1⟩
 · unfold nE
   rw[if_neg (by rw[h.ok.isB];simp),if_neg (by rw[rb];simp),if_neg]
   rintro ⟨a,b⟩
   rw[el]at a
   obtain⟨c,d,_⟩:=st a
   omega
 · unfold nE
   rw[if_neg (by rw[tk.isB];simp),if_neg (by rw[rb];simp),if_pos]
   have e2:dt (cg x (rp5 n)) (rp5 n)=n:=by unfold dt;rw[e5];exact t1
   refine⟨by rw[e2];exact n0,.inl ?_⟩
   unfold stepOf
   rw[e2,en]
   omega
theorem TLI.next{x:Itk}{n l:Int}{j:Nat}(h:TLI x n l j)(hj:j≤100){g:Int}(g0:0≤g)(g1:g≤300):TLI (cg x (rp5 n)) ((n+1+g) % 65536) (l+g) (j+1):=by
 obtain⟨a,b,c,d,e⟩:=h.step hj
 have n0:=h.n0;have n1:=h.n1;have l0:=h.l0;have l1:=h.l1
 exact⟨c,by omega,by omega,by omega,by omega,.inr ⟨by rw[e];exact n0,g,g0,g1,by rw[e],by rw[d]⟩⟩
abbrev tlH(e:ba)(x:Itk):ab:=[e.obj,.box [.t (tL x.last),.t (tL x.lost)]]
def tlP(n:Nat)(j:Nat)(s:St):Prop:=∃(e:ba) (x:Itk) (m l:Int),s=⟨[.und,.und,.und,.bp 0 0,.bp 1 0,I m,I l,I ((n:Int)-j),.und,.und,.und,.und,.und],tlH e x⟩∧e.fH∧TLI x m l j
theorem A2{d:ba}(hd:d.fH)(m:Int)(m0:0≤m)(m1:m<65536)(n:Nat)(hn:n≤20):∀z0 z1 z2 z8 z9 z10 z11 z12:D,∃v H,
 exS ct K.cG ⟨[z0,z1,z2,.bp 0 0,.bp 1 0,I m,I 0,I n,z8,z9,z10,z11,z12],tlH d AZ⟩=some (.exit 0,⟨v,H⟩)∧v.length=13:=by
 intro z0 z1 z2 z8 z9 z10 z11 z12
 have key:∃q,exS ct K.cG ⟨[z0,z1,z2,.bp 0 0,.bp 1 0,I m,I 0,I n,z8,z9,z10,z11,z12],tlH d AZ⟩=some q∧∃v H,q=(.exit 0,⟨v,H⟩)∧v.length=13:=by
  refine GL (tlP n) n _ ?_ ?_ ?_
  · refine⟨d,AZ,m,0,?_,hd,A1,m0,m1,by omega,by omega,.inl ⟨rfl,rfl⟩⟩
    simp only[Int.natCast_zero,Int.sub_zero];rfl
  · rintro j s hj ⟨e,x,k,l,rfl,l1,ti⟩
    obtain⟨g,e1,ox,l2,gi⟩:=N4 l1 [0,1,5,300] (by simp) (by simp)
    have gb:0≤g∧g≤300:=by simp at gi;omega
    obtain⟨a,b,c,dd,ee⟩:=ti.step (by omega)
    have k0:=ti.n0;have k1:=ti.n1;have l0:=ti.l0;have l1':=ti.l1
    have xa:=ti.ok.a;have xb:=ti.ok.b
    have ya:=c.a;have yb:=c.b
    have t1:=oP x (rp5 k) (by omega) (by omega) (by simp[rp5])
    have t2:=oP (cg x (rp5 k)) (rp5 k) (by omega) (by omega) (by simp[rp5])
    rw[a]at t1
    rw[b]at t2
    have e5:(rp5 k).e= .agg [.int .i64 5,.int .i64 k,.int .i64 0,.sl []]:=rfl
    rw[e5]at t1 t2
    refine .inl ⟨_,?_,e1,cg x (rp5 k),(k+1+g) % 65536,l+g,rfl,l2,ti.next (by omega) gb.1 gb.2⟩
    have g1:((n:Int)-j>0):=by omega
    have g3:((n:Int)-j≤20):=by omega
    have g2:(n:Int)-((j+1:Nat):Int)=(n:Int)-j-1:=by omega
    have tm:(k+1+g).tmod 65536=(k+1+g) % 65536:=Int.tmod_eq_emod_of_nonneg (by omega)
    clear a b ti c
    generalize cg x (rp5 k)=y at*
    simp only[g2,tL,rp5,List.map_cons,List.map_nil]at*
    obtain⟨ya1,yb1⟩:=y
    obtain⟨xa1,xb1⟩:=x
    simp only[tlH]at*
    have ex:(yb1.map (T.int .i64))[5]?=some (.int .i64 l):=by rw[← dd];exact jC _ (by omega)
    have t5:Int.toNat 5=5:=rfl
    have sc1:([D.t (Itk.e ⟨ya1,yb1⟩),I 0].all fq)=false:=rfl
    have sc2:([D.t (Itk.e ⟨ya1,yb1⟩),I 42].all fq)=false:=rfl
    have y32:(yb1.length:Int)=32:=by omega
    generalize (n:Int)-j=w at*
    simp (disch:=omega) only[go_sem,K.cq,↓reduceIte,ox,t1,t2,g1,y32,t5,dd,tm,sc1,sc2,Nat.reduceAdd,Nat.reduceSub]
  · rintro s ⟨e,x,k,l,rfl,l1,ti⟩
    refine⟨(.exit 0,⟨[.und,.und,.und,.bp 0 0,.bp 1 0,I k,I l,I 0,.und,.und,.und,.und,.und],tlH e x⟩),?_,by simp,_,_,rfl,rfl⟩
    simp only[tlH,Int.sub_self]
    simp (disch:=omega) only[go_sem,K.cq,↓reduceIte,Nat.reduceAdd,Nat.reduceSub]
 obtain⟨q,h,v,H,rfl,hv⟩:=key
 exact⟨v,H,h,hv⟩
theorem w7(aw:ct 0 N.bw [] []=some (B true,[]))(li:List Int)(first:Int):ct 0 N.aP [.t (tL li),I first] []=some (B true,[]):=by
 refine bC K.cP rfl ?_
 have lo:=uw li
 by_cases c:li.length≤400
 · rw[decide_eq_true c]at lo
   have ro:=GM li
   have d0:(ba.mk li 0).fH:=c
   generalize (ba.mk li 0)=d at*
   have s1:=nD
   have m1:=wb first 65536 (by omega)
   obtain⟨n,e1,nx,l1,n0,n9⟩:=GN d0 10 (by omega) (by omega)
   obtain⟨n,rfl⟩:=Int.eq_ofNat_of_zero_le n0
   have lp:=A2 l1 (Mod first 65536) (vZ _ _) (wa _ _ (by omega)) (n+1) (by omega)
   have ec:((n+1:Nat):Int)=1+n:=by omega
   simp only[ec]at lp
   generalize Mod first 65536=m at*
   obtain⟨v,H,lp,hv⟩:=lp (.t (tL li)) (I first) (B false) .und .und .und .und .und
   generalize AZ=x at*
   obtain⟨xa,xb⟩:=x
   simp only[tlH]at*
   match v,hv with
   | [v0,v1,v2,v3,v4,v5,v6,v7,v8,v9,v10,v11,v12],_=>simp (disch:=omega) only[go_sem,K.aP,↓reduceIte,lo,ro,s1,m1,nx,lp,aw,Nat.reduceAdd,Nat.reduceSub]
 · rw[decide_eq_false c]at lo
   simp (disch:=omega) only[go_sem,K.aP,↓reduceIte,lo,aw,Nat.reduceAdd,Nat.reduceSub]
end Go.Ev
