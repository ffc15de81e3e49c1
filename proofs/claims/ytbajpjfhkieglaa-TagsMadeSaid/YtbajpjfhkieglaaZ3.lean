/- Parts of the proof: see the text that holds the theorem. -/
import Derived.Test.YtbajpjfhkieglaaZ2
set_option linter.all false
set_option maxRecDepth 100000
namespace Go.Ev
open Go
abbrev I(n:Int):D:= .t (.int .i64 n)
abbrev B(b:Bool):D:= .t (.bool b)
def qZ{β:Type}(call:ah):List R→List D→List D→ab→(List D→List D→ab→Option β)→Option β
 | rs,L,vs,H,K=>(evR call rs L vs H).bind fun q=>K q.1 q.2.1 q.2.2
def yB{β:Type}(call:ah)(rs:List R)(d:Option Nat)(L vs:List D)(K:List D→List D→ab→Option β)(p:D×ab):Option β:=
 qZ call rs (p.1::L) (wr vs d p.1) p.2 K
@[go_sem] theorem HV {β : Type} (call : ah) (rs : List R) (d : Option Nat) (L vs : List D) (K : List D → List D → ab → Option β) (x : D) (H : ab) :
 yB call rs d L vs K (x,H)=qZ call rs (x::L) (wr vs d x) H K:=(rfl)
@[go_sem] theorem HW {β : Type} (call : ah) (L vs : List D) (H : ab) (K : List D → List D → ab → Option β) : qZ call [] L vs H K = K L vs H := (rfl)
@[go_sem] theorem EY {β : Type} (call : ah) (o : O) (d : Option Nat) (rs : List R) (L vs : List D) (H : ab) (K : List D → List D → ab → Option β) :
 qZ call (⟨o,d,none⟩::rs) L vs H K=(evO call (X.get vs L) H o).bind (yB call rs d L vs K):=by
 simp[qZ,evR,aH,Option.bind_assoc]
 rfl
def gate{β:Type}(c:Option D)(w:Bool)(a b:Option β):Option β:=match c with
 | some (.t (.bool x))=>if x=w then a else b
 | some (.tup [])=>b
 | _=>none
@[congr] theorem BQ {β : Type} {c c' : Option D} {w : Bool} {a b : Option β} (h : True → c = c') : gate c w a b = gate c' w a b := by rw [h trivial]
@[go_sem] theorem HX {β : Type} (p : Prop) [Decidable p] (a b : Option β) : gate (some (.t (.bool (decide p)))) true a b = if p then a else b := by
 by_cases h:p<;>simp[gate,h]
@[go_sem] theorem EZ {β : Type} (p : Prop) [Decidable p] (a b : Option β) : gate (some (.t (.bool (decide p)))) false a b = if p then b else a := by
 by_cases h:p<;>simp[gate,h]
@[go_sem] theorem E1 {β : Type} (x : Bool) (a b : Option β) : gate (some (.t (.bool x))) true a b = if x = true then a else b := (rfl)
@[go_sem] theorem BR {β : Type} (x : Bool) (a b : Option β) : gate (some (.t (.bool x))) false a b = if x = true then b else a := by cases x <;> rfl
@[go_sem] theorem E2 {β : Type} (w : Bool) (a b : Option β) : gate (some (.tup [])) w a b = b := (rfl)
@[go_sem] theorem E3 {β : Type} (call : ah) (o : O) (d : Option Nat) (k : Nat) (w : Bool) (rs : List R) (L vs : List D) (H : ab) (K : List D → List D → ab → Option β) :
 qZ call (⟨o,d,some (k,w)⟩::rs) L vs H K=gate L[k]? w ((evO call (X.get vs L) H o).bind (yB call rs d L vs K)) (qZ call rs (.tup []::L) (wr vs d (.tup [])) H K):=by
 simp only[qZ,evR,aH]
 cases hL:L[k]? with
 | none=>simp[gate]
 | some c=>
   simp only[Option.bind_some]
   cases c with
   | t x=>
     cases x with
     | bool b=>cases b<;>cases w<;>simp[gate,Option.bind_assoc]<;>rfl
     | _=>simp[gate]
   | tup ds=>
     cases ds with
     | nil=>simp[gate]
     | cons=>simp[gate]
   | _=>simp[gate]
open Classical in
noncomputable def ju{β:Type}(p:Prop)(x:Option β):Option β:=if p then x else none
@[go_sem] theorem yC {β : Type} (x : Option β) : ju True x = x := by simp [ju]
noncomputable def nd{β:Type}(call:ah)(all:List R)(n:Nat)(ps:List (Nat×Nat))(rs:List R)(L vs:List D)(H:ab)(acc:List Tr)(K:List D→List D→ab→Option β):Option β:=
 (evR call rs L vs H).bind fun q=>ju (fh call all n ((trace call rs L vs H).reverse++acc) ps) (K q.1 q.2.1 q.2.2)
noncomputable def sx{β:Type}(call:ah)(all:List R)(n:Nat)(ps:List (Nat×Nat))(rs:List R)(d:Option Nat)(L vs:List D)(H:ab)(acc:List Tr)(K:List D→List D→ab→Option β)(p:D×ab):Option β:=
 nd call all n ps rs (p.1::L) (wr vs d p.1) p.2 ((L,vs,H)::acc) K
@[go_sem] theorem HY {β : Type} (call : ah) (all : List R) (n : Nat) (ps : List (Nat × Nat)) (rs : List R) (d : Option Nat) (L vs : List D) (H : ab) (acc : List Tr) (K : List D → List D → ab → Option β) (x : D) (H' : ab) :
 sx call all n ps rs d L vs H acc K (x,H')=nd call all n ps rs (x::L) (wr vs d x) H' ((L,vs,H)::acc) K:=(rfl)
@[go_sem] theorem HZ {β : Type} (call : ah) (all : List R) (n : Nat) (ps : List (Nat × Nat)) (L vs : List D) (H : ab) (acc : List Tr) (K : List D → List D → ab → Option β) :
 nd call all n ps [] L vs H acc K=ju (fh call all n ((L,vs,H)::acc) ps) (K L vs H):=by
 simp[nd,evR,trace]
theorem nf{β:Type}(call:ah)(all:List R)(n:Nat)(ps:List (Nat×Nat))(r:R)(rs:List R)(L vs:List D)(H:ab)(acc:List Tr)(K:List D→List D→ab→Option β):
 nd call all n ps (r::rs) L vs H acc K=(aH L r.g).bind fun w=>
  if w then(evO call (X.get vs L) H r.o).bind (sx call all n ps rs r.d L vs H acc K)else nd call all n ps rs (.tup []::L) (wr vs r.d (.tup [])) H ((L,vs,H)::acc) K:=by
 obtain hw | ⟨w,hw⟩:aH L r.g=none∨∃w,aH L r.g=some w:=by cases aH L r.g<;>simp
 · simp[nd,evR,trace,hw]
 · cases w with
   | true=>
     obtain hq | ⟨q,hq⟩:evO call (X.get vs L) H r.o=none∨∃q,evO call (X.get vs L) H r.o=some q:=by cases evO call (X.get vs L) H r.o<;>simp
     · simp[nd,evR,trace,hw,hq]
     · simp[nd,evR,trace,hw,hq,sx]
   | false=>simp[nd,evR,trace,hw]
@[go_sem] theorem E4 {β : Type} (call : ah) (all : List R) (n : Nat) (ps : List (Nat × Nat)) (o : O) (d : Option Nat) (rs : List R) (L vs : List D) (H : ab) (acc : List Tr) (K : List D → List D → ab → Option β) :
 nd call all n ps (⟨o,d,none⟩::rs) L vs H acc K=(evO call (X.get vs L) H o).bind (sx call all n ps rs d L vs H acc K):=by
 rw[nf];simp[aH]
@[go_sem] theorem E5 {β : Type} (call : ah) (all : List R) (n : Nat) (ps : List (Nat × Nat)) (o : O) (d : Option Nat) (k : Nat) (w : Bool) (rs : List R) (L vs : List D) (H : ab) (acc : List Tr) (K : List D → List D → ab → Option β) :
 nd call all n ps (⟨o,d,some (k,w)⟩::rs) L vs H acc K=
  gate L[k]? w ((evO call (X.get vs L) H o).bind (sx call all n ps rs d L vs H acc K)) (nd call all n ps rs (.tup []::L) (wr vs d (.tup [])) H ((L,vs,H)::acc) K):=by
 rw[nf]
 simp only[aH]
 cases hL:L[k]? with
 | none=>simp[gate]
 | some c=>
   simp only[Option.bind_some]
   cases c with
   | t x=>
     cases x with
     | bool b=>cases b<;>cases w<;>simp[gate]
     | _=>simp[gate]
   | tup ds=>
     cases ds with
     | nil=>simp[gate]
     | cons=>simp[gate]
   | _=>simp[gate]
def jG(call:ah):Option R→Option Tr→Option Tr→Option Tr→Prop
 | some r,some s,some a,some s'=>(match r.o with
   | .al _ _=>a.2.2[s.2.2.length]?=s'.2.2[s.2.2.length]?
   | .bs xs _=>aH s.1 r.g=some false∨((aK (X.get s.2.1 s.1) xs).bind eG).isSome=true
   | o=>gy o=true∧(aH s.1 r.g=some false∨lz (evO call (X.get s.2.1 s.1) a.2.2 o)=lz (evO call (X.get s.2.1 s.1) s.2.2 o)))
 | _,_,_,_=>False
@[go_sem] theorem BS (call : ah) (all : List R) (n : Nat) (acc : List Tr) : fh call all n acc [] = True := (rfl)
@[go_sem] theorem yD (call : ah) (all : List R) (n : Nat) (acc : List Tr) (p m : Nat) (r : List (Nat × Nat)) :
 fh call all n acc ((p,m)::r)=(jG call all[p]? acc[n-p]? acc[n-m]? acc[n-(p+1)]?∧m≤n∧fh call all n acc r):=by
 simp only[fh,yA,jG]
 try rfl
section
variable (call : ah) (d : Option Nat) (gd : Option (Nat × Bool)) (L vs L' vs' : List D) (H H' : ab) (s' : Tr)
@[go_sem] theorem H3 (x : X) (n : Nat) (agg : Bool) : jG call (some ⟨.ld x n agg, d, gd⟩) (some (L, vs, H)) (some (L', vs', H')) (some s') =
 (aH L gd=some false∨lz (evO call (X.get vs L) H' (.ld x n agg))=lz (evO call (X.get vs L) H (.ld x n agg))):=by simp[jG,gy]
@[go_sem] theorem H4 (x i : X) (sz : Nat) : jG call (some ⟨.ia x i sz, d, gd⟩) (some (L, vs, H)) (some (L', vs', H')) (some s') =
 (aH L gd=some false∨lz (evO call (X.get vs L) H' (.ia x i sz))=lz (evO call (X.get vs L) H (.ia x i sz))):=by simp[jG,gy]
@[go_sem] theorem H5 (x : X) (lo hi : Option X) (sz : Nat) : jG call (some ⟨.sc x lo hi sz, d, gd⟩) (some (L, vs, H)) (some (L', vs', H')) (some s') =
 (aH L gd=some false∨lz (evO call (X.get vs L) H' (.sc x lo hi sz))=lz (evO call (X.get vs L) H (.sc x lo hi sz))):=by simp[jG,gy]
@[go_sem] theorem E6 (x : X) (z : T) (sz : Nat) : jG call (some ⟨.mkt x z sz, d, gd⟩) (some (L, vs, H)) (some (L', vs', H')) (some s') =
 (aH L gd=some false∨lz (evO call (X.get vs L) H' (.mkt x z sz))=lz (evO call (X.get vs L) H (.mkt x z sz))):=by simp[jG,gy]
@[go_sem] theorem H6 (z : List D) (l : List (Nat × Nat)) (L2 vs2 : List D) (H2 : ab) : jG call (some ⟨.al z l, d, gd⟩) (some (L, vs, H)) (some (L', vs', H')) (some (L2, vs2, H2)) = (H'[H.length]? = H2[H.length]?) := (rfl)
@[go_sem] theorem H7 (xs : List X) (sz : Nat) : jG call (some ⟨.bs xs sz, d, gd⟩) (some (L, vs, H)) (some (L', vs', H')) (some s') =
 (aH L gd=some false∨((aK (X.get vs L) xs).bind eG).isSome=true):=(rfl)
@[go_sem] theorem wE (L : List D) : aH L none = some true := (rfl)
def yE(w:Bool):Option D→Option Bool
 | some (.t (.bool b))=>some (b==w)
 | some (.tup [])=>some false
 | _=>none
@[go_sem] theorem BT (w b : Bool) : yE w (some (.t (.bool b))) = some (b == w) := (rfl)
@[go_sem] theorem E7 (w : Bool) : yE w (some (.tup [])) = some false := (rfl)
@[go_sem] theorem wF (L : List D) (k : Nat) (w : Bool) : aH L (some (k, w)) = yE w L[k]? := by
 simp only[aH]
 cases L[k]? with
 | none=>rfl
 | some c=>cases c with
   | t x=>cases x<;>rfl
   | tup ds=>cases ds<;>rfl
   | _=>rfl
@[go_sem] theorem E8 (x : D) : lz (some (x, H)) = some x := (rfl)
attribute [go_sem] beq_true beq_false or_true true_or or_self
end
theorem pG(call:ah)(rs:List R)(vs:List D)(H:ab):oH call rs [] vs H=evR call rs [] vs H:=by
 simp[oH,fh]
def Kv(L vs:List D)(H:ab):Option (Ex×St):=some (.normal,⟨vs,H⟩)
noncomputable def Kw(call:ah)(k:Nat)(a b:C)(L vs:List D)(H:ab):Option (Ex×St):=bF L[k]? (exS call a ⟨vs,H⟩) (exS call b ⟨vs,H⟩)
@[go_sem] theorem Kx (L vs : List D) (H : ab) : Kv L vs H = some (.normal, ⟨vs, H⟩) := (rfl)
@[go_sem] theorem Ky (call : ah) (k : Nat) (a b : C) (L vs : List D) (H : ab) : Kw call k a b L vs H = bF L[k]? (exS call a ⟨vs, H⟩) (exS call b ⟨vs, H⟩) := (rfl)
def andThen(x:Option (Ex×St))(k:St→Option (Ex×St)):Option (Ex×St):=x.bind fun p=>bH p k
@[go_sem] theorem tK (st : St) (k : St → Option (Ex × St)) : andThen (some (.normal, st)) k = k st := (rfl)
@[go_sem] theorem yF (st : St) (k : St → Option (Ex × St)) : andThen (some (.ret, st)) k = some (.ret, st) := (rfl)
@[go_sem] theorem wG (i : Nat) (st : St) (k : St → Option (Ex × St)) : andThen (some (.exit i, st)) k = some (.exit i, st) := (rfl)
@[go_sem] theorem wH (k : St → Option (Ex × St)) : andThen none k = none := (rfl)
@[go_sem] theorem andThen_ite (c : Prop) [Decidable c] (a b : Option (Ex × St)) (k : St → Option (Ex × St)) : andThen (if c then a else b) k = if c then andThen a k else andThen b k := by
 split<;>rfl
@[go_sem] theorem H8 (call : ah) (st : St) : exS call .skip st = some (.normal, st) := (rfl)
@[go_sem] theorem Kz (call : ah) (rs : List R) (vs : List D) (H : ab) : exS call (.reg rs []) ⟨vs, H⟩ = qZ call rs [] vs H Kv := by
 simp only[exS,pG,qZ]
 cases evR call rs [] vs H<;>rfl
@[go_sem] theorem H9 (call : ah) (rs : List R) (p : Nat × Nat) (ps : List (Nat × Nat)) (vs : List D) (H : ab) :
 exS call (.reg rs (p::ps)) ⟨vs,H⟩=nd call rs rs.length (p::ps) rs [] vs H [] Kv:=by
 simp only[exS,oH,nd,List.append_nil]
 by_cases h:fh call rs rs.length (trace call rs [] vs H).reverse (p::ps)
 · rw[if_pos h]
   simp only[ju,if_pos h]
   cases evR call rs [] vs H<;>rfl
 · rw[if_neg h]
   simp only[ju,if_neg h]
   cases evR call rs [] vs H<;>rfl
@[go_sem] theorem KA (call : ah) (a b : C) (st : St) : exS call (.seq a b) st = andThen (exS call a st) (exS call b) := (rfl)
@[go_sem] theorem KB (call : ah) (rs : List R) (k : Nat) (a b : C) (vs : List D) (H : ab) : exS call (.ite rs [] k a b) ⟨vs, H⟩ = qZ call rs [] vs H (Kw call k a b) := by
 simp only[exS,pG,qZ]
 cases evR call rs [] vs H<;>rfl
@[go_sem] theorem Ia (call : ah) (rs : List R) (p : Nat × Nat) (ps : List (Nat × Nat)) (k : Nat) (a b : C) (vs : List D) (H : ab) :
 exS call (.ite rs (p::ps) k a b) ⟨vs,H⟩=nd call rs rs.length (p::ps) rs [] vs H [] (Kw call k a b):=by
 simp only[exS,oH,nd,List.append_nil]
 by_cases h:fh call rs rs.length (trace call rs [] vs H).reverse (p::ps)
 · rw[if_pos h]
   simp only[ju,if_pos h]
   cases evR call rs [] vs H<;>rfl
 · rw[if_neg h]
   simp only[ju,if_neg h]
   cases evR call rs [] vs H<;>rfl
@[go_sem] theorem KC (call : ah) (rs : List R) (ps : List (Nat × Nat)) (k : Nat) (a b c : C) (st : St) : exS call (.its rs ps k a b c) st = andThen (exS call (.ite rs ps k a b) st) (exS call c) := (rfl)
@[go_sem] theorem KD (call : ah) (rs : List R) (ps : List (Nat × Nat)) (k : Nat) (a b c : C) (st : St) : exS call (.itk rs ps k a b c) st = exS call (.ite rs ps k (.seq a c) (.seq b c)) st := (rfl)
@[go_sem] theorem KE (call : ah) (j : Nat) (a b : C) (vs : List D) (H : ab) : exS call (.itv j a b) ⟨vs, H⟩ = bF vs[j]? (exS call a ⟨vs, H⟩) (exS call b ⟨vs, H⟩) := (rfl)
@[go_sem] theorem Ib (call : ah) (id : Nat) (st : St) : exS call (.exit id) st = some (.exit id, st) := (rfl)
@[go_sem] theorem KF (call : ah) (st : St) : exS call .ret st = some (.ret, st) := (rfl)
@[go_sem] theorem Ic (call : ah) (st : St) : exS call .fail st = none := (rfl)
@[go_sem] theorem yG (call : ah) (x p f : Nat) (r1 : List R) (p1 : List (Nat × Nat)) (r2 : List R) (p2 : List (Nat × Nat)) (vs : List D) (H : ab) : exS call (.rng x p f r1 p1 r2 p2) ⟨vs, H⟩ = (o9 (stepG (oH call) vs p r1 p1 r2 p2) (rC f vs[x]?) H).map fun H => (.normal, ⟨vs, H⟩) := (rfl)
@[go_sem] theorem KG (call : ah) (v : Bool) (c : C) (st : St) : exS call (.cnd v c) st = exS call c st := (rfl)
def kB(id:Nat)(x:Option (Ex×St)):Option (Ex×St):=x.map (leave id)
@[go_sem] theorem KH (call : ah) (id : Nat) (c : C) (st : St) : exS call (.blk id c) st = kB id (exS call c st) := (rfl)
@[go_sem] theorem wI (id : Nat) (st : St) : kB id (some (.normal, st)) = some (.normal, st) := by simp [kB, leave]
@[go_sem] theorem E9 (id : Nat) (st : St) : kB id (some (.ret, st)) = some (.ret, st) := by simp [kB, leave]
@[go_sem] theorem BU (id i : Nat) (st : St) : kB id (some (.exit i, st)) = if i = id then some (.normal, st) else some (.exit i, st) := by
 simp only[kB,leave,Option.map_some,Ex.exit.injEq]
 split<;>rfl
@[go_sem] theorem BV (id : Nat) : kB id none = none := (rfl)
@[go_sem] theorem Fa (id : Nat) (c : Prop) [Decidable c] (a b : Option (Ex × St)) : kB id (if c then a else b) = if c then kB id a else kB id b := by
 split<;>rfl
@[congr] theorem yH {c c' : Option D} {a b : Option (Ex × St)} (h : True → c = c') : bF c a b = bF c' a b := by rw [h trivial]
@[go_sem] theorem Fb (p : Prop) [Decidable p] (a b : Option (Ex × St)) : bF (some (.t (.bool (decide p)))) a b = if p then a else b := by
 by_cases h:p<;>simp[bF,h]
@[go_sem] theorem BW (p : Prop) [Decidable p] (a b : Option (Ex × St)) : bF (some (.t (.bool (!decide p)))) a b = if p then b else a := by
 by_cases h:p<;>simp[bF,h]
@[go_sem] theorem Ie (a : Option (Ex × St)) : bF (some .ub) a a = a := by simp [bF]
@[go_sem] theorem BX (x : Bool) (a b : Option (Ex × St)) : bF (some (.t (.bool x))) a b = if x = true then a else b := (rfl)
def fj(gc:Bool)(dead:List Nat)(k:Nat)(x:Option (Ex×St)):Option St:=x.bind fun p=>match p.1 with
 | .normal=>tidy gc dead k p.2
 | _=>none
@[go_sem] theorem uX (gc : Bool) (dead : List Nat) (k : Nat) (st : St) : fj gc dead k (some (.normal, st)) = tidy gc dead k st := (rfl)
@[go_sem] theorem BZ (gc : Bool) (dead : List Nat) (k : Nat) (c : Prop) [Decidable c] (a b : Option (Ex × St)) : fj gc dead k (if c then a else b) = if c then fj gc dead k a else fj gc dead k b := by
 split<;>rfl
theorem qp{gc:Bool}{dead:List Nat}{body:St→Option (Ex×St)}{st st2:St}(h:fj gc dead st.H.length (body st)=some st2)
 {p:Ex×St} (h2:fA gc dead body st2=some p):fA gc dead body st=some p:=by
 unfold fj at h
 obtain⟨⟨e,st1⟩,hq,h⟩:=Option.bind_eq_some_iff.1 h
 cases e with
 | normal=>exact lx hq h h2
 | ret=>cases h
 | exit=>cases h
theorem lZ{gc:Bool}{dead:List Nat}{body:St→Option (Ex×St)}(s:Nat→St){p:Ex×St}(n:Nat)
 (h:∀j,j<n→fj gc dead (s j).H.length (body (s j))=some (s (j+1))) (he:fA gc dead body (s n)=some p):fA gc dead body (s 0)=some p:=by
 have:=jt (s:=s) n 0 (fun j _ hj=>by
  have h:=h j (by omega)
  unfold fj at h
  obtain⟨⟨e,st1⟩,hq,h⟩:=Option.bind_eq_some_iff.1 h
  cases e with
  | normal=>exact⟨st1,hq,h⟩
  | ret=>cases h
  | exit=>cases h) (by simpa using he)
 exact this
def Ig(res:List (Nat×Option (Nat×Bool)))(k raw:Nat)(p:Ex×St):Option (D×ab):=match p.1 with
 | .exit _=>none
 | _=>(cu p.2 res).bind (finish k raw p.2.H)
@[go_sem] theorem Ih (res : List (Nat × Option (Nat × Bool))) (k raw : Nat) (vs : List D) (H : ab) : Ig res k raw (.ret, ⟨vs, H⟩) = (cu ⟨vs, H⟩ res).bind (finish k raw H) := (rfl)
@[go_sem] theorem yI (res : List (Nat × Option (Nat × Bool))) (k raw : Nat) (vs : List D) (H : ab) : Ig res k raw (.normal, ⟨vs, H⟩) = (cu ⟨vs, H⟩ res).bind (finish k raw H) := (rfl)
theorem yJ{fs:Nat→Option Fn}{raw f:Nat}{args:List D}{H:ab}{fn:Fn}{r:D×ab}(hf:fs f=some fn)(hn:fn.nargs=args.length)
 (h:(exS (dL fs) fn.body ⟨gu args fn.vars,H⟩).bind (Ig fn.res H.length raw)=some r) (h0:fn.prim=[]:=by rfl):dL fs raw f args H=some r:=by
 obtain⟨p,hp,he⟩:=Option.bind_eq_some_iff.1 h
 exact uS hf hn (uW _ _ _ hp) he h0
@[go_sem] theorem Ii {α β : Type} (c : Prop) [Decidable c] (a b : Option α) (k : α → Option β) : (if c then a else b).bind k = if c then a.bind k else b.bind k := by
 split<;>rfl
@[go_sem] theorem KI {α β : Type} (c : Prop) [Decidable c] (a b : Option α) (k : α → β) : (if c then a else b).map k = if c then a.map k else b.map k := by
 split<;>rfl
theorem Fc(a b:Int):(a==b)=decide (a=b):=by rw[Bool.eq_iff_iff];simp
theorem yK{n:Int}(h1: -9223372036854775808≤n)(h2:n≤9223372036854775807):IntKind.i64.wrap n=n:=by
 have e:IntKind.i64.wrap n=if n % 18446744073709551616≥9223372036854775808 then n % 18446744073709551616-18446744073709551616 else n % 18446744073709551616:=by
  simp[IntKind.wrap,IntKind.signed,IntKind.bits]
 rw[e];split<;>omega
section
variable {α β : Type}
@[go_sem] theorem yL (a : α) (f : α → Option β) : (some a).bind f = f a := (rfl)
@[go_sem] theorem B0 (a : α) (f : α → β) : (some a).map f = some (f a) := (rfl)
@[go_sem] theorem yM (f : α → Option β) : (none : Option α).bind f = none := (rfl)
@[go_sem] theorem B1 (f : α → β) : (none : Option α).map f = none := (rfl)
@[go_sem] theorem B2 (a : α) (l : List α) (f : α → β) : (a :: l).map f = f a :: l.map f := (rfl)
@[go_sem] theorem Fe (f : α → β) : ([] : List α).map f = [] := (rfl)
@[go_sem] theorem B3 (a : α) (l : List α) : (a :: l)[0]? = some a := (rfl)
@[go_sem] theorem B4 (a : α) (l : List α) (n : Nat) : (a :: l)[n + 1]? = l[n]? := (rfl)
@[go_sem] theorem yN (a d : α) (l : List α) : (a :: l).getD 0 d = a := (rfl)
@[go_sem] theorem yO (a d : α) (l : List α) (n : Nat) : (a :: l).getD (n + 1) d = l.getD n d := (rfl)
@[go_sem] theorem B5 (d : α) (n : Nat) : ([] : List α).getD n d = d := by simp
@[go_sem] theorem B6 (a b : α) (l : List α) : (a :: l).set 0 b = b :: l := (rfl)
@[go_sem] theorem B7 (a b : α) (l : List α) (n : Nat) : (a :: l).set (n + 1) b = a :: l.set n b := (rfl)
@[go_sem] theorem uY (a : α) (l m : List α) : (a :: l) ++ m = a :: (l ++ m) := (rfl)
@[go_sem] theorem wJ (l : List α) : [] ++ l = l := (rfl)
@[go_sem] theorem wK (l : List α) : l ++ [] = l := by simp
@[go_sem] theorem tM (a : α) (l : List α) (f : α → List β) : (a :: l).flatMap f = f a ++ l.flatMap f := by simp
@[go_sem] theorem uZ (f : α → List β) : ([] : List α).flatMap f = [] := by simp
@[go_sem] theorem wL : ([] : List α).length = 0 := (rfl)
@[go_sem] theorem u0 (a : α) (l : List α) : (a :: l).length = l.length + 1 := (rfl)
@[go_sem] theorem wM (l : List α) (f : α → β) : (l.map f).length = l.length := by simp
@[go_sem] theorem sy (l m : List α) : (l ++ m).length = l.length + m.length := by simp
@[go_sem] theorem pH (n : Nat) (a : α) : (List.replicate n a).length = n := by simp
@[go_sem] theorem wN (l : List α) (i : Nat) (a : α) : (l.set i a).length = l.length := by simp
@[go_sem] theorem yP (l : List α) : l.drop 0 = l := (rfl)
@[go_sem] theorem yQ (a : α) (l : List α) (n : Nat) : (a :: l).drop (n + 1) = l.drop n := (rfl)
@[go_sem] theorem B8 (n : Nat) : ([] : List α).drop n = [] := by simp
@[go_sem] theorem yR (l : List α) : l.take 0 = [] := (rfl)
@[go_sem] theorem yS (a : α) (l : List α) (n : Nat) : (a :: l).take (n + 1) = a :: l.take n := (rfl)
@[go_sem] theorem B9 (n : Nat) : ([] : List α).take n = [] := by simp
@[go_sem] theorem yT (a b : α) : (bif true then a else b) = a := (rfl)
@[go_sem] theorem wO (a b : α) : (bif false then a else b) = b := (rfl)
@[go_sem] theorem Ca (n : Nat) : n + 0 = n := (rfl)
@[go_sem] theorem Cb (n : Nat) : 0 + n = n := by simp
@[go_sem] theorem Cc (a b : α) : (some a = some b) = (a = b) := by simp
@[go_sem] theorem Ij (a : α) : (some a).isSome = true := (rfl)
end
attribute [go_sem] decide_true decide_false if_true if_false Bool.false_eq_true Bool.true_eq_false decide_eq_true_eq decide_eq_false_iff_not Bool.and_eq_true Bool.or_eq_true Bool.not_eq_true' Bool.not_eq_true Bool.not_eq_false
 Bool.and_true Bool.true_and Bool.and_false Bool.false_and Bool.or_true Bool.true_or Bool.or_false Bool.false_or and_true true_and and_self not_true_eq_false not_false_eq_true beq_iff_eq bne_iff_ne ne_eq
@[go_sem] theorem Cd : (!true) = false := (rfl)
@[go_sem] theorem yU : (!false) = true := (rfl)
@[go_sem] theorem Om (vs L : List D) (j : Nat) : X.get vs L (.v j) = vs[j]? := (rfl)
@[go_sem] theorem On (vs L : List D) (k : Nat) : X.get vs L (.l k) = L[k]? := (rfl)
@[go_sem] theorem Oo (vs L : List D) (d : D) : X.get vs L (.c d) = some d := (rfl)
@[go_sem] theorem Oq (vs L : List D) (n : Int) : X.get vs L (.i n) = some (I n) := (rfl)
@[go_sem] theorem Ot (vs L : List D) (x : Bool) : X.get vs L (.b x) = some (B x) := (rfl)
@[go_sem] theorem KJ (vs : List D) (x : D) : wr vs none x = vs := (rfl)
@[go_sem] theorem KK (vs : List D) (s : Nat) (x : D) : wr vs (some s) x = vs.set s x := (rfl)
@[go_sem] theorem Ce (args : List D) : gu args [] = [] := (rfl)
@[go_sem] theorem yV (args : List D) (s : Nat) (r : List Nat) : gu args (s :: r) = args.getD s .und :: gu args r := (rfl)
def KL(H:ab)(d:D):Option (D×ab):=some (d,H)
@[go_sem] theorem KM (H : ab) (d : D) : KL H d = some (d, H) := (rfl)
def cU{α:Type}(a:α)(l:Option (List α)):Option (List α):=l.map (a:: ·)
@[go_sem] theorem Cf {α : Type} (a : α) (l : List α) : cU a (some l) = some (a :: l) := (rfl)
@[go_sem] theorem Cg {α : Type} (a : α) : cU a none = none := (rfl)
@[go_sem] theorem Ik {α β : Type} (f : α → Option β) : aK f [] = some [] := (rfl)
def M9{α β:Type}(f:α→Option β)(r:List α)(y:β):Option (List β):=cU y (aK f r)
@[go_sem] theorem yW {α β : Type} (f : α → Option β) (r : List α) (y : β) : M9 f r y = cU y (aK f r) := (rfl)
@[go_sem] theorem sA {α β : Type} (f : α → Option β) (x : α) (r : List α) : aK f (x :: r) = (f x).bind (M9 f r) := (rfl)
section
variable (call : ah) (get : X → Option D) (H : ab)
@[go_sem] theorem Ou (x : X) : evO call get H (.mv x) = (get x).bind (KL H) := by simp only [evO]; cases get x <;> rfl
def Il(c a b:Option D):Option (D×ab):=c.bind fun c=>a.bind fun a=>b.bind fun b=>(uD c a b).map fun d=>(d,H)
@[go_sem] theorem Ov (c a b : X) : evO call get H (.pk c a b) = Il H (get c) (get a) (get b) := (rfl)
@[go_sem] theorem Ff (x p q : Bool) : Il H (some (.t (.bool x))) (some (.t (.bool p))) (some (.t (.bool q))) = some (.t (.bool (bif x then p else q)), H) := by cases x <;> rfl
@[go_sem] theorem Fg (a b : D) : Il H (some (.t (.bool true))) (some a) (some b) = some (a, H) := (rfl)
@[go_sem] theorem Ch (a b : D) : Il H (some (.t (.bool false))) (some a) (some b) = some (b, H) := (rfl)
@[go_sem] theorem Im (x p : Bool) : (bif x then p else false) = (x && p) := by cases x <;> rfl
@[go_sem] theorem KN (x q : Bool) : (bif x then true else q) = (x || q) := by cases x <;> rfl
def cf(f:BinOp)(x y:Option D):Option (D×ab):=x.bind fun a=>y.bind fun b=>(kW f a b).map fun d=>(d,H)
@[go_sem] theorem Na (f : BinOp) (x y : X) : evO call get H (.bin f x y) = cf H f (get x) (get y) := (rfl)
section
variable (k j : IntKind) (a b : Int)
@[go_sem] theorem Fh : cf H .add (some (.t (.int k a))) (some (.t (.int k b))) = some (.t (.int k (k.wrap (a + b))), H) := by simp [cf, kW, nO]
@[go_sem] theorem Fi : cf H .sub (some (.t (.int k a))) (some (.t (.int k b))) = some (.t (.int k (k.wrap (a - b))), H) := by simp [cf, kW, nO]
@[go_sem] theorem Fj : cf H .mul (some (.t (.int k a))) (some (.t (.int k b))) = some (.t (.int k (k.wrap (a * b))), H) := by simp [cf, kW, nO]
@[go_sem] theorem Fk : cf H .quo (some (.t (.int k a))) (some (.t (.int k b))) = if b = 0 then none else some (.t (.int k (k.wrap (a.tdiv b))), H) := by simp only [cf, kW, nO]; by_cases h : b = 0 <;> simp [h]
@[go_sem] theorem Fl : cf H .rem (some (.t (.int k a))) (some (.t (.int k b))) = if b = 0 then none else some (.t (.int k (a.tmod b)), H) := by simp only [cf, kW, nO]; by_cases h : b = 0 <;> simp [h]
@[go_sem] theorem Fm : cf H .eql (some (.t (.int k a))) (some (.t (.int k b))) = some (.t (.bool (decide (a = b))), H) := by simp [cf, kW, nO, Fc]
@[go_sem] theorem Fo : cf H .neq (some (.t (.int k a))) (some (.t (.int k b))) = some (.t (.bool (decide (¬ a = b))), H) := by simp [cf, kW, nO, bne, Fc]
@[go_sem] theorem Fp : cf H .lss (some (.t (.int k a))) (some (.t (.int k b))) = some (.t (.bool (decide (a < b))), H) := by simp [cf, kW, nO]
@[go_sem] theorem Fq : cf H .leq (some (.t (.int k a))) (some (.t (.int k b))) = some (.t (.bool (decide (a ≤ b))), H) := by simp [cf, kW, nO]
@[go_sem] theorem Fs : cf H .gtr (some (.t (.int k a))) (some (.t (.int k b))) = some (.t (.bool (decide (b < a))), H) := by simp [cf, kW, nO]
@[go_sem] theorem Ft : cf H .geq (some (.t (.int k a))) (some (.t (.int k b))) = some (.t (.bool (decide (b ≤ a))), H) := by simp [cf, kW, nO]
@[go_sem] theorem Fu (h : 0 ≤ b) : cf H .shl (some (.t (.int k a))) (some (.t (.int j b))) = some (.t (.int k (k.wrap (a * 2 ^ min b.toNat k.bits))), H) := by simp [cf, kW, kV, Int.not_lt.2 h]
@[go_sem] theorem Fv (h : 0 ≤ b) : cf H .shr (some (.t (.int k a))) (some (.t (.int j b))) = some (.t (.int k (a.fdiv (2 ^ min b.toNat k.bits))), H) := by simp [cf, kW, kV, Int.not_lt.2 h]
@[go_sem] theorem Fw : cf H .and (some (.t (.int k a))) (some (.t (.int k b))) = some (.t (.int k (k.wrap (BitVec.ofInt k.bits a &&& BitVec.ofInt k.bits b).toNat)), H) := by simp [cf, kW, nO]
@[go_sem] theorem Io : cf H .or (some (.t (.int k a))) (some (.t (.int k b))) = some (.t (.int k (k.wrap (BitVec.ofInt k.bits a ||| BitVec.ofInt k.bits b).toNat)), H) := by simp [cf, kW, nO]
@[go_sem] theorem sB : cf H .xor (some (.t (.int k a))) (some (.t (.int k b))) = some (.t (.int k (k.wrap (BitVec.ofInt k.bits a ^^^ BitVec.ofInt k.bits b).toNat)), H) := by simp [cf, kW, nO]
def KO(f:UnOp)(a:D):Option (D×ab):=(unD f a).map fun d=>(d,H)
@[go_sem] theorem Ow (f : UnOp) (x : X) : evO call get H (.un f x) = (get x).bind (KO H f) := (rfl)
@[go_sem] theorem Ip (x : Bool) : KO H .not (.t (.bool x)) = some (.t (.bool (!x)), H) := (rfl)
@[go_sem] theorem Iq : KO H .neg (.t (.int k a)) = some (.t (.int k (k.wrap (0 - a))), H) := (rfl)
def Nb(k:IntKind)(a:D):Option (D×ab):=(xX k a).map fun d=>(d,H)
@[go_sem] theorem Ox (x : X) : evO call get H (.cv k x) = (get x).bind (Nb H k) := (rfl)
@[go_sem] theorem Ir : Nb H k (.t (.int j a)) = some (.t (.int k (k.wrap a)), H) := (rfl)
end
def gg(q:EqK)(neg:Bool)(x y:Option D):Option (D×ab):=x.bind fun a=>y.bind fun b=>(wy q neg a b).map fun d=>(d,H)
@[go_sem] theorem Nc (q : EqK) (neg : Bool) (x y : X) : evO call get H (.eqk q neg x y) = gg H q neg (get x) (get y) := (rfl)
@[go_sem] theorem Ci (x y : Bool) : gg H .bool false (some (.t (.bool x))) (some (.t (.bool y))) = some (.t (.bool (x == y)), H) := (rfl)
@[go_sem] theorem yX (x y : Bool) : gg H .bool true (some (.t (.bool x))) (some (.t (.bool y))) = some (.t (.bool (!(x == y))), H) := (rfl)
def wP:List T→List T→Bool
 | .int _ a::xs,.int _ b::ys=>decide (a=b)&&wP xs ys
 | _,_=>true
def qs:Nat→List T→List T→Bool
 | 0,[],[]=>true
 | n+1,.int j _::xs,.int k _::ys=>decide (j=k)&&qs n xs ys
 | _,_,_=>false
@[go_sem] theorem Fx (k j : IntKind) (a b : Int) (xs ys : List T) : wP (.int k a :: xs) (.int j b :: ys) = (decide (a = b) && wP xs ys) := (rfl)
@[go_sem] theorem Is : wP [] [] = true := (rfl)
@[go_sem] theorem It : qs 0 [] [] = true := (rfl)
@[go_sem] theorem Fy (n : Nat) (k : IntKind) (a b : Int) (xs ys : List T) : qs (n + 1) (.int k a :: xs) (.int k b :: ys) = qs n xs ys := by simp [qs]
theorem kC:∀ {n:Nat} {xs ys:List T},qs n xs ys=true→xs.length=n∧dm xs ys=some (wP xs ys)
 | 0,[],[],_=>⟨rfl,rfl⟩
 | 0,[],_::_,h=>by simp[qs]at h
 | 0,_::_,_,h=>by simp[qs]at h
 | n+1,[],_,h=>by simp[qs]at h
 | n+1,x::xs,[],h=>by cases x<;>simp[qs]at h
 | n+1,x::xs,y::ys,h=>by
   cases x<;>cases y<;>simp only[qs,Bool.and_eq_true,decide_eq_true_eq,Bool.false_eq_true]at h
   obtain⟨rfl,h⟩:=h
   obtain⟨h1,h2⟩:=kC h
   exact⟨by simp[h1],by simp[dm,h2,wP,Fc]⟩
@[go_sem] theorem Cj (n : Nat) (xs ys : List T) (h : qs n xs ys = true) : gg H (.ints n) false (some (.t (.agg xs))) (some (.t (.agg ys))) = some (.t (.bool (wP xs ys)), H) := by
 obtain⟨h1,h2⟩:=kC h;simp[gg,wy,eqD,h1,h2]
@[go_sem] theorem yY (n : Nat) (xs ys : List T) (h : qs n xs ys = true) : gg H (.ints n) true (some (.t (.agg xs))) (some (.t (.agg ys))) = some (.t (.bool (!wP xs ys)), H) := by
 obtain⟨h1,h2⟩:=kC h;simp[gg,wy,eqD,h1,h2]
@[go_sem] theorem FA : gg H .sl false (some .nil) (some .nil) = some (.t (.bool true), H) := (rfl)
@[go_sem] theorem FB : gg H .sl false (some (.t (.sl []))) (some .nil) = some (.ub, H) := (rfl)
@[go_sem] theorem Ck : gg H .sl true (some (.t (.sl []))) (some .nil) = some (.ub, H) := (rfl)
@[go_sem] theorem Cl : gg H .sl true (some .nil) (some .nil) = some (.t (.bool false), H) := (rfl)
def Iu(a:D):Option (D×ab):=(HP a).map fun d=>(d,H)
@[go_sem] theorem Oy (x : X) : evO call get H (.nc x) = (get x).bind (Iu H) := (rfl)
@[go_sem] theorem KP (id off : Nat) : Iu H (.bp id off) = some (.bp id off, H) := (rfl)
@[go_sem] theorem KQ (id ep n i off : Nat) : Iu H (.ap id ep n i off) = some (.ap id ep n i off, H) := (rfl)
@[go_sem] theorem KR (cs : List T) : Iu H (.ep cs) = some (.ep cs, H) := (rfl)
def Cm(off:Nat)(a:D):Option (D×ab):=(p8 a off).map fun d=>(d,H)
@[go_sem] theorem Oz (x : X) (off : Nat) : evO call get H (.fa x off) = (get x).bind (Cm H off) := (rfl)
@[go_sem] theorem KS (id o off : Nat) : Cm H off (.bp id o) = some (.bp id (o + off), H) := (rfl)
@[go_sem] theorem KT (id ep n i o off : Nat) : Cm H off (.ap id ep n i o) = some (.ap id ep n i (o + off), H) := (rfl)
@[go_sem] theorem KU (cs : List T) (off : Nat) : Cm H off (.ep cs) = some (.ep (cs.drop off), H) := (rfl)
@[go_sem] theorem OA (cs : List D) : cut cs 0 0 = some [] := by simp [cut]
@[go_sem] theorem OB (c : D) (cs : List D) : cut (c :: cs) 0 1 = some [c] := by simp [cut]
@[go_sem] theorem OC (c : D) (cs : List D) (n : Nat) : cut (c :: cs) 0 (n + 1) = cU c (cut cs 0 n) := by
 simp only[cut,cU];by_cases h:n≤cs.length<;>simp[h]
@[go_sem] theorem OD (c : D) (cs : List D) (off n : Nat) : cut (c :: cs) (off + 1) n = cut cs off n := by
 simp only[cut,List.length_cons,List.drop_succ_cons]
 by_cases h:off+n≤cs.length
 · rw[if_pos h,if_pos (by omega)]
 · rw[if_neg h,if_neg (by omega)]
@[go_sem] theorem FC (c : D) : ba false [c] = some c := (rfl)
@[go_sem] theorem FD (cs : List D) : ba true cs = some (fZ cs) := (rfl)
def mkA(cs:List D):Option (List T)→D
 | some ts=> .t (.agg ts)
 | none=> .agg cs
@[go_sem] theorem Iv (cs : List D) (ts : List T) : mkA cs (some ts) = .t (.agg ts) := (rfl)
@[go_sem] theorem Iw (cs : List D) : mkA cs none = .agg cs := (rfl)
@[go_sem] theorem Ix (cs : List D) : fZ cs = mkA cs (eG cs) := by unfold fZ; cases eG cs <;> rfl
@[go_sem] theorem Iy : eG [] = some [] := (rfl)
@[go_sem] theorem Nd (x : T) (r : List D) : eG (.t x :: r) = cU x (eG r) := (rfl)
@[go_sem] theorem Nf (r : List D) : eG (.nil :: r) = none := (rfl)
@[go_sem] theorem Iz (a b c : Nat) (r : List D) : eG (.ref a b c :: r) = none := (rfl)
@[go_sem] theorem IA (a b c d e : Nat) (r : List D) : eG (.sub a b c d e :: r) = none := (rfl)
@[go_sem] theorem u9 (l : List T) : eG (l.map .t) = some l := by induction l with | nil => rfl | cons a l ih => simp [eG, ih]
def FE(off n:Nat)(agg:Bool)(a:D):Option (D×ab):=(jh a off n agg).map fun d=>(d,H)
@[go_sem] theorem OE (x : X) (off n : Nat) (agg : Bool) : evO call get H (.fl x off n agg) = (get x).bind (FE H off n agg) := (rfl)
def ofC(agg:Bool)(cs:Option (List D)):Option (D×ab):=(cs.bind (ba agg)).bind (KL H)
@[go_sem] theorem OF (c : D) : ofC H false (some [c]) = some (c, H) := (rfl)
@[go_sem] theorem OH (cs : List D) : ofC H true (some cs) = some (fZ cs, H) := (rfl)
@[go_sem] theorem Ng (cs : List T) (off n : Nat) (agg : Bool) : FE H off n agg (.t (.agg cs)) = ofC H agg (cut (cs.map .t) off n) := by
 simp only[FE,jh,D.isAgg,if_true,D.cells,T.cells,ofC];cases (cut (cs.map .t) off n).bind (ba agg)<;>rfl
@[go_sem] theorem IB (cs : List D) (off n : Nat) (agg : Bool) : FE H off n agg (.agg cs) = ofC H agg (cut cs off n) := by
 simp only[FE,jh,D.isAgg,if_true,D.cells,ofC];cases (cut cs off n).bind (ba agg)<;>rfl
@[go_sem] theorem KV (n : Nat) : idx (n : Int) = some n := by simp [idx]
@[go_sem] theorem OI : idx 0 = some 0 := (rfl)
theorem yZ{i:Int}(h:0≤i):idx i=some i.toNat:=by simp[idx,h]
def y0(sz:Nat)(x i:Option D):Option (D×ab):=x.bind fun a=>(i.bind intOf).bind fun n=>(lI H a n sz).map fun d=>(d,H)
@[go_sem] theorem OJ (x i : X) (sz : Nat) : evO call get H (.ia x i sz) = y0 H sz (get x) (get i) := (rfl)
def vd(sz:Nat)(e:T):Option (D×ab):=if e.cells.length=sz then some (.ep e.cells,H)else none
def KW(sz:Nat)(es:List T)(j:Nat):Option (D×ab):=es[j]?.bind (vd H sz)
@[go_sem] theorem KX (sz : Nat) (es : List T) (j : Nat) : KW H sz es j = es[j]?.bind (vd H sz) := (rfl)
@[go_sem] theorem KY (k : IntKind) (es : List T) (n : Int) (sz : Nat) : y0 H sz (some (.t (.sl es))) (some (.t (.int k n))) = (idx n).bind (KW H sz es) := by
 simp only[y0,Option.bind_some,intOf,lI]
 cases idx n with
 | none=>rfl
 | some j=>
   simp only[Option.bind_some,KW]
   cases es[j]? with
   | none=>rfl
   | some e=>simp only[Option.bind_some,vd];split<;>rfl
@[go_sem] theorem IC (k : IntKind) (n : Int) : vd H 1 (.int k n) = some (.ep [.int k n], H) := (rfl)
@[go_sem] theorem FF (b : Bool) : vd H 1 (.bool b) = some (.ep [.bool b], H) := (rfl)
@[go_sem] theorem KZ (es : List T) : vd H 1 (.sl es) = some (.ep [.sl es], H) := (rfl)
def dV{α:Type}:Nat→List α→Bool
 | 0,[]=>true
 | n+1,_::r=>dV n r
 | _,_=>false
@[go_sem] theorem K0 {α : Type} : dV 0 ([] : List α) = true := (rfl)
@[go_sem] theorem K1 {α : Type} (n : Nat) (a : α) (l : List α) : dV (n + 1) (a :: l) = dV n l := (rfl)
theorem bD{α:Type}:∀ {n:Nat} {l:List α},dV n l=true↔l.length=n
 | 0,[]=>by simp[dV]
 | 0,_::_=>by simp[dV]
 | n+1,[]=>by simp[dV]
 | n+1,_::r=>by simp only[dV,List.length_cons,Nat.add_right_cancel_iff];exact bD
@[go_sem] theorem ID (cs : List T) (sz : Nat) : vd H sz (.agg cs) = if dV sz cs = true then some (.ep cs, H) else none := by
 by_cases h:cs.length=sz
 · rw[vd,if_pos (show(T.agg cs).cells.length=sz from h),if_pos (bD.2 h)];rfl
 · rw[vd,if_neg (show ¬(T.agg cs).cells.length=sz from h),if_neg fun e=>h (bD.1 e)]
def y1(sz id ep n j:Nat):Option Obj→Option (D×ab)
 | some (.arr sz' _ ep' es)=>if ep=ep'∧n=es.length then(if j<n∧sz'=sz then some (.ap id ep n j 0,H)else none)else none
 | _=>none
@[go_sem] theorem IE (k : IntKind) (id ep n : Nat) (i : Int) (sz : Nat) : y0 H sz (some (.ref id ep n)) (some (.t (.int k i))) = (idx i).bind fun j => y1 H sz id ep n j H[id]? := by
 simp only[y0,Option.bind_some,intOf,lI]
 cases idx i with
 | none=>rfl
 | some j=>
   simp only[Option.bind_some,bN]
   generalize H[id]?=o
   rcases o with _ | (_ | ⟨sz',pin,ep',es⟩)
   · rfl
   · rfl
   · simp only[y1]
     by_cases h:ep=ep'∧n=es.length
     · rw[if_pos h,if_pos h,Option.bind_some];split<;>rfl
     · rw[if_neg h,if_neg h];rfl
@[go_sem] theorem FG (sz id ep n j sz' : Nat) (pin : Bool) (ep' : Nat) (es : List D) : y1 H sz id ep n j (some (.arr sz' pin ep' es)) =
 if ep=ep'∧n=es.length then(if j<n∧sz'=sz then some (.ap id ep n j 0,H)else none)else none:=(rfl)
def y2(sz id ep n lo hi j:Nat):Option Obj→Option (D×ab)
 | some (.arr sz' _ ep' es)=>if ep=ep'∧n=es.length then(if lo+j<hi∧hi≤n∧sz'=sz then some (.ap id ep n (lo+j) 0,H)else none)else none
 | _=>none
@[go_sem] theorem IF (k : IntKind) (id ep n lo hi : Nat) (i : Int) (sz : Nat) : y0 H sz (some (.sub id ep n lo hi)) (some (.t (.int k i))) = (idx i).bind fun j => y2 H sz id ep n lo hi j H[id]? := by
 simp only[y0,Option.bind_some,intOf,lI]
 cases idx i with
 | none=>rfl
 | some j=>
   simp only[Option.bind_some,bN]
   generalize H[id]?=o
   rcases o with _ | (_ | ⟨sz',pin,ep',es⟩)
   · rfl
   · rfl
   · simp only[y2]
     by_cases h:ep=ep'∧n=es.length
     · rw[if_pos h,if_pos h,Option.bind_some];split<;>rfl
     · rw[if_neg h,if_neg h];rfl
@[go_sem] theorem FH (sz id ep n lo hi j sz' : Nat) (pin : Bool) (ep' : Nat) (es : List D) : y2 H sz id ep n lo hi j (some (.arr sz' pin ep' es)) =
 if ep=ep'∧n=es.length then(if lo+j<hi∧hi≤n∧sz'=sz then some (.ap id ep n (lo+j) 0,H)else none)else none:=(rfl)
def K2(len sz:Nat)(agg:Bool)(x i:Option D):Option (D×ab):=x.bind fun a=>(i.bind intOf).bind fun n=>(idx n).bind fun j=>(mz a j len sz agg).map fun d=>(d,H)
def K3(len sz:Nat)(agg:Bool)(a:D)(j:Nat):Option (D×ab):=(mz a j len sz agg).map fun d=>(d,H)
@[go_sem] theorem OK (x i : X) (len sz : Nat) (agg : Bool) : evO call get H (.ix x i len sz agg) = K2 H len sz agg (get x) (get i) := (rfl)
@[go_sem] theorem K4 (len sz : Nat) (agg : Bool) (a : D) (k : IntKind) (n : Int) : K2 H len sz agg (some a) (some (.t (.int k n))) = (idx n).bind (K3 H len sz agg a) := by
 simp only[K2,Option.bind_some,intOf];cases idx n<;>rfl
@[go_sem] theorem IG (len j : Nat) (ts : List T) (h : j < len) (hs : (ts.all fun t => t.scalar) = true) : K3 H len 1 false (.t (.agg ts)) j = (ts[j]?).map fun t => (.t t, H) := by
 have h0:len≠0:=by omega
 unfold K3 mz
 rw[if_neg h0,if_pos h]
 unfold jh cut
 simp only[D.isAgg,D.cells,T.cells,if_true,Nat.mul_one,List.length_map]
 by_cases hj:j<ts.length
 · rw[if_pos (by omega),List.getElem?_eq_getElem hj]
   have e:((ts.map D.t).drop j).take 1=[D.t ts[j]]:=by
    rw[List.drop_eq_getElem_cons (by simpa using hj)];simp
   rw[e];rfl
 · rw[if_neg (by omega),List.getElem?_eq_none (by omega)];rfl
def y3(len sz:Nat)(x i:Option D):Option (D×ab):=x.bind fun a=>(i.bind intOf).bind fun n=>(idx n).bind fun j=>if j<len then(p8 a (j*sz)).map fun d=>(d,H)else none
@[go_sem] theorem Nh (x i : X) (len sz : Nat) : evO call get H (.iaa x i len sz) = y3 H len sz (get x) (get i) := (rfl)
def Ni(len sz:Nat)(a:D)(j:Nat):Option (D×ab):=if j<len then Cm H (j*sz) a else none
@[go_sem] theorem K5 (len sz : Nat) (a : D) (j : Nat) : Ni H len sz a j = if j < len then Cm H (j * sz) a else none := (rfl)
@[go_sem] theorem IH (len sz : Nat) (a : D) (k : IntKind) (n : Int) : y3 H len sz (some a) (some (.t (.int k n))) = (idx n).bind (Ni H len sz a) := by
 simp only[y3,Option.bind_some,intOf];cases idx n<;>rfl
def tN(n:Nat)(agg:Bool)(a:D):Option (D×ab):=(iO H a n agg).map fun d=>(d,H)
@[go_sem] theorem OL (x : X) (n : Nat) (agg : Bool) : evO call get H (.ld x n agg) = (get x).bind (tN H n agg) := (rfl)
def ve(off n:Nat)(agg:Bool):Option Obj→Option (D×ab)
 | some (.box cs)=>ofC H agg (cut cs off n)
 | _=>none
@[go_sem] theorem II (off n : Nat) (agg : Bool) (cs : List D) : ve H off n agg (some (.box cs)) = ofC H agg (cut cs off n) := (rfl)
@[go_sem] theorem K6 (id off n : Nat) (agg : Bool) : tN H n agg (.bp id off) = ve H off n agg H[id]? := by
 simp only[tN,iO]
 generalize H[id]?=o
 rcases o with _ | (cs | _)
 · rfl
 · simp only[ve,ofC];cases (cut cs off n).bind (ba agg)<;>rfl
 · rfl
@[go_sem] theorem K7 (cs : List T) (n : Nat) (agg : Bool) : tN H n agg (.ep cs) = ofC H agg (cut (cs.map .t) 0 n) := by
 simp only[tN,iO,ofC];cases (cut _ 0 n).bind (ba agg)<;>rfl
def IJ(off n:Nat)(agg:Bool)(e:D):Option (D×ab):=ofC H agg (cut e.cells off n)
@[go_sem] theorem K8 (off n : Nat) (agg : Bool) (e : D) : IJ H off n agg e = ofC H agg (cut e.cells off n) := (rfl)
def y4(ep m i off n:Nat)(agg:Bool):Option Obj→Option (D×ab)
 | some (.arr _ _ ep' es)=>if ep=ep'∧m=es.length then es[i]?.bind (IJ H off n agg)else none
 | _=>none
@[go_sem] theorem IK (ep m i off n : Nat) (agg : Bool) (sz : Nat) (pin : Bool) (ep' : Nat) (es : List D) :
 y4 H ep m i off n agg (some (.arr sz pin ep' es))=if ep=ep'∧m=es.length then es[i]?.bind (IJ H off n agg)else none:=(rfl)
@[go_sem] theorem K9 (id ep m i off n : Nat) (agg : Bool) : tN H n agg (.ap id ep m i off) = y4 H ep m i off n agg H[id]? := by
 simp only[tN,iO,bN]
 generalize H[id]?=o
 rcases o with _ | (_ | ⟨sz',pin,ep',es⟩)
 · rfl
 · rfl
 · simp only[y4]
   by_cases h:ep=ep'∧m=es.length
   · rw[if_pos h,if_pos h,Option.bind_some]
     cases es[i]? with
     | none=>rfl
     | some e=>simp only[Option.bind_some,IJ,ofC];cases (cut e.cells off n).bind (ba agg)<;>rfl
   · rw[if_neg h,if_neg h];rfl
@[go_sem] theorem Cn (cs : List D) : (D.agg cs).cells = cs := (rfl)
@[go_sem] theorem IL (x : T) : (D.t x).cells = x.cells.map .t := (rfl)
@[go_sem] theorem Co : D.nil.cells = [.nil] := (rfl)
@[go_sem] theorem FI (a b : Nat) : (D.bp a b).cells = [.bp a b] := (rfl)
@[go_sem] theorem Cp (a b c : Nat) : (D.ref a b c).cells = [.ref a b c] := (rfl)
@[go_sem] theorem Cq (a b c d e : Nat) : (D.sub a b c d e).cells = [.sub a b c d e] := (rfl)
@[go_sem] theorem FJ (f : Nat) (cs : List D) : (D.fn f cs).cells = [.fn f cs] := (rfl)
@[go_sem] theorem y5 : D.nilp.cells = [.nilp] := (rfl)
@[go_sem] theorem Cr (cs : List T) : (T.agg cs).cells = cs := (rfl)
@[go_sem] theorem Cs (k : IntKind) (n : Int) : (T.int k n).cells = [.int k n] := (rfl)
@[go_sem] theorem y6 (b : Bool) : (T.bool b).cells = [.bool b] := (rfl)
@[go_sem] theorem Ct (b : ByteArray) : (T.str b).cells = [.str b] := (rfl)
@[go_sem] theorem FK (es : List T) : (T.sl es).cells = [.sl es] := (rfl)
def fits(n:Nat)(v:D):Bool:=decide (v.cells.length=n)&&v.b9
section
variable (n : Nat)
@[go_sem] theorem fits_int (k : IntKind) (a : Int) : fits 1 (.t (.int k a)) = true := (rfl)
@[go_sem] theorem fits_bool (b : Bool) : fits 1 (.t (.bool b)) = true := (rfl)
@[go_sem] theorem La (es : List T) : fits 1 (.t (.sl es)) = true := (rfl)
@[go_sem] theorem IM : fits 1 .nil = true := (rfl)
@[go_sem] theorem IN (a b c : Nat) : fits 1 (.ref a b c) = true := (rfl)
@[go_sem] theorem IP (a b c d e : Nat) : fits 1 (.sub a b c d e) = true := (rfl)
@[go_sem] theorem Lb (a b : Nat) : fits 1 (.bp a b) = true := (rfl)
@[go_sem] theorem Lc (f : Nat) (cs : List D) : fits 1 (.fn f cs) = true := (rfl)
@[go_sem] theorem IQ (cs : List D) : fits n (.agg cs) = dV n cs := by rw [Bool.eq_iff_iff, bD]; show (decide (cs.length = n) && true) = true ↔ _; simp
@[go_sem] theorem FL (cs : List T) : fits n (.t (.agg cs)) = dV n cs := by rw [Bool.eq_iff_iff, bD]; simp [fits, D.cells, T.cells, D.b9]
end
@[go_sem] theorem y7 {α : Type} (cs : List α) : ak cs 0 [] = some cs := by simp [ak]
@[go_sem] theorem y8 {α : Type} (c x : α) (cs xs : List α) : ak (c :: cs) 0 (x :: xs) = cU x (ak cs 0 xs) := by
 simp only[ak,cU];by_cases h:xs.length≤cs.length<;>simp[h]
@[go_sem] theorem y9 {α : Type} (c : α) (cs : List α) (off : Nat) (xs : List α) : ak (c :: cs) (off + 1) xs = cU c (ak cs off xs) := by
 simp only[ak,cU,List.length_cons]
 by_cases h:off+xs.length≤cs.length
 · rw[if_pos h,if_pos (by omega)];simp[show off+1+xs.length=(off+xs.length)+1 by omega]
 · rw[if_neg h,if_neg (by omega)];rfl
def za(n:Nat)(live:List (Nat×Nat))(a x:Option D):Option (D×ab):=a.bind fun p=>x.bind fun d=>(jg H p d n).bind fun H'=>(eI H' p live).map fun H''=>(.tup [],H'')
@[go_sem] theorem OM (a x : X) (n : Nat) (live : List (Nat × Nat)) : evO call get H (.st a x n live) = za H n live (get a) (get x) := (rfl)
def lA(H:ab)(id:Nat)(live:List (Nat×Nat)):Option (D×ab):=(eI H (.bp id 0) live).map fun H'=>(.tup [],H')
def pI(id:Nat)(live:List (Nat×Nat))(cs:List D):Option (D×ab):=lA (H.set id (.box cs)) id live
@[go_sem] theorem FM (id : Nat) (live : List (Nat × Nat)) (cs : List D) : pI H id live cs = lA (H.set id (.box cs)) id live := (rfl)
@[go_sem] theorem Cu (H : ab) (id : Nat) : lA H id [] = some (.tup [], H) := (rfl)
def zb(id off:Nat)(live:List (Nat×Nat))(xs:List D):Option Obj→Option (D×ab)
 | some (.box cs)=>(ak cs off xs).bind (pI H id live)
 | _=>none
@[go_sem] theorem IS (id off : Nat) (live : List (Nat × Nat)) (xs cs : List D) : zb H id off live xs (some (.box cs)) = (ak cs off xs).bind (pI H id live) := (rfl)
@[go_sem] theorem Ld (n id off : Nat) (live : List (Nat × Nat)) (v : D) : za H n live (some (.bp id off)) (some v) = if fits n v = true then zb H id off live v.cells H[id]? else none := by
 by_cases h:fits n v=true
 case neg=>
  rw[if_neg h]
  simp only[fits,Bool.and_eq_true,decide_eq_true_eq]at h
  simp only[za,Option.bind_some,jg,if_neg h];rfl
 rw[if_pos h]
 simp only[fits,Bool.and_eq_true,decide_eq_true_eq]at h
 simp only[za,Option.bind_some,jg,h.1,h.2,and_self,if_true]
 generalize H[id]?=o
 rcases o with _ | (cs | _)
 · rfl
 · simp only[zb]
   cases ak cs off v.cells with
   | none=>rfl
   | some cs'=>simp only[Option.map_some,Option.bind_some,pI,lA,eI]
 · rfl
def ng(id sz ep i:Nat)(es:List D)(agg:Bool)(cs:List D):Option (D×ab):=(ba agg cs).bind fun e=>if e.b9 then some (.tup [],H.set id (.arr sz false ep (es.set i e)))else none
def IT(id sz ep i off:Nat)(es xs:List D)(e:D):Option (D×ab):=(ak e.cells off xs).bind (ng H id sz ep i es e.isAgg)
@[go_sem] theorem Le (id sz ep i off : Nat) (es xs : List D) (e : D) : IT H id sz ep i off es xs e = (ak e.cells off xs).bind (ng H id sz ep i es e.isAgg) := (rfl)
@[go_sem] theorem FN (cs : List D) : (D.agg cs).isAgg = true := (rfl)
@[go_sem] theorem Cv (cs : List T) : (D.t (.agg cs)).isAgg = true := (rfl)
@[go_sem] theorem FO (k : IntKind) (n : Int) : (D.t (.int k n)).isAgg = false := (rfl)
@[go_sem] theorem Cw (b : Bool) : (D.t (.bool b)).isAgg = false := (rfl)
@[go_sem] theorem FP (b : ByteArray) : (D.t (.str b)).isAgg = false := (rfl)
@[go_sem] theorem IU (es : List T) : (D.t (.sl es)).isAgg = false := (rfl)
@[go_sem] theorem FQ : D.nil.isAgg = false := (rfl)
@[go_sem] theorem FR (a b c : Nat) : (D.ref a b c).isAgg = false := (rfl)
@[go_sem] theorem FT (a b c d e : Nat) : (D.sub a b c d e).isAgg = false := (rfl)
@[go_sem] theorem Lf (id sz ep i : Nat) (es : List D) (x : T) : ng H id sz ep i es false [.t x] = some (.tup [], H.set id (.arr sz false ep (es.set i (.t x)))) := (rfl)
@[go_sem] theorem FU (id sz ep i : Nat) (es : List D) : ng H id sz ep i es false [.nil] = some (.tup [], H.set id (.arr sz false ep (es.set i .nil))) := (rfl)
@[go_sem] theorem FV (id sz ep i a b c : Nat) (es : List D) : ng H id sz ep i es false [.ref a b c] = some (.tup [], H.set id (.arr sz false ep (es.set i (.ref a b c)))) := (rfl)
theorem oJ(cs:List D):(fZ cs).b9=true:=by unfold fZ;cases eG cs<;>rfl
@[go_sem] theorem Lg (id sz ep i : Nat) (es cs : List D) : ng H id sz ep i es true cs = some (.tup [], H.set id (.arr sz false ep (es.set i (fZ cs)))) := by
 simp[ng,ba,oJ]
def zc(id ep m i off:Nat)(xs:List D):Option Obj→Option (D×ab)
 | some (.arr sz pin ep' es)=>if ep=ep'∧m=es.length then(if pin then none else es[i]?.bind (IT H id sz ep i off es xs))else none
 | _=>none
@[go_sem] theorem IV (id ep m i off : Nat) (xs : List D) (sz : Nat) (pin : Bool) (ep' : Nat) (es : List D) :
 zc H id ep m i off xs (some (.arr sz pin ep' es))=if ep=ep'∧m=es.length then(if pin=true then none else es[i]?.bind (IT H id sz ep i off es xs))else none:=(rfl)
@[go_sem] theorem Lh (n id ep m i off : Nat) (v : D) : za H n [] (some (.ap id ep m i off)) (some v) = if fits n v = true then zc H id ep m i off v.cells H[id]? else none := by
 by_cases h:fits n v=true
 case neg=>
  rw[if_neg h]
  simp only[fits,Bool.and_eq_true,decide_eq_true_eq]at h
  simp only[za,Option.bind_some,jg,if_neg h];rfl
 rw[if_pos h]
 simp only[fits,Bool.and_eq_true,decide_eq_true_eq]at h
 simp only[za,Option.bind_some,jg,h.1,h.2,and_self,if_true,bN]
 generalize H[id]?=o
 rcases o with _ | (_ | ⟨sz',pin,ep',es⟩)
 · rfl
 · rfl
 · simp only[zc]
   by_cases h:ep=ep'∧m=es.length
   · rw[if_pos h,if_pos h,Option.bind_some]
     cases pin with
     | true=>rfl
     | false=>
       simp only[Bool.false_eq_true,if_false]
       cases es[i]? with
       | none=>rfl
       | some e=>
         simp only[Option.bind_some,IT]
         cases ak e.cells off v.cells with
         | none=>rfl
         | some cs'=>
           simp only[Option.bind_some,ng]
           cases ba e.isAgg cs' with
           | none=>rfl
           | some e'=>
             simp only[Option.bind_some]
             by_cases h3:e'.b9=true
             · rw[if_pos h3,if_pos h3,h.1];rfl
             · rw[if_neg h3,if_neg h3];rfl
   · rw[if_neg h,if_neg h];rfl
def zd(zero:List D)(ps:List (Nat×Nat×D)):Option (D×ab):=(gW zero ps).map fun cs=>(fZ cs,H)
@[go_sem] theorem ON (zero : List D) (parts : List (Nat × Nat × X)) : evO call get H (.bd zero parts) = (dt get parts).bind (zd H zero) := (rfl)
@[go_sem] theorem wQ : dt get [] = some [] := (rfl)
def FW(off n:Nat)(r:List (Nat×Nat×X))(d:D):Option (List (Nat×Nat×D)):=cU (off,n,d) (dt get r)
@[go_sem] theorem IW (off n : Nat) (r : List (Nat × Nat × X)) (d : D) : FW get off n r d = cU (off, n, d) (dt get r) := (rfl)
@[go_sem] theorem vf (off n : Nat) (x : X) (r : List (Nat × Nat × X)) : dt get ((off, n, x) :: r) = (get x).bind (FW get off n r) := (rfl)
@[go_sem] theorem IX (zero : List D) : zd H zero [] = some (fZ zero, H) := (rfl)
def bdC(r:List (Nat×Nat×D))(z:List D):Option (D×ab):=zd H z r
@[go_sem] theorem Nj (r : List (Nat × Nat × D)) (z : List D) : bdC H r z = zd H z r := (rfl)
@[go_sem] theorem FX (zero : List D) (off n : Nat) (x : D) (r : List (Nat × Nat × D)) : zd H zero ((off, n, x) :: r) = if fits n x = true then (ak zero off x.cells).bind (bdC H r) else none := by
 by_cases h:fits n x=true
 case neg=>
  rw[if_neg h]
  have h2:(x.b9&&x.cells.length==n)=false:=by rw[← Bool.not_eq_true,Bool.and_comm];simpa [fits]using h
  simp only[zd,gW,h2];rfl
 rw[if_pos h]
 simp only[fits,Bool.and_eq_true,decide_eq_true_eq]at h
 simp only[zd,gW,h.1,h.2,beq_self_eq_true,Bool.and_self,if_true]
 cases ak zero off x.cells<;>rfl
def aG(n:Nat):List T→Bool
 | []=>true
 | x::r=>dV n x.cells&&aG n r
@[go_sem] theorem wR (n : Nat) : aG n [] = true := (rfl)
@[go_sem] theorem iu (n : Nat) (x : T) (r : List T) : aG n (x :: r) = (dV n x.cells && aG n r) := (rfl)
def lB(sz:Nat)(ds:List D):Option (D×ab):=if ds.all (fun d=>d.cells.length==sz)then(aK (frz H depth) ds).map fun ts=>(.t (.sl ts),pins H (ds.flatMap (bU H depth)))else none
@[go_sem] theorem OO (xs : List X) (sz : Nat) : evO call get H (.bs xs sz) = (aK get xs).bind (lB H sz) := (rfl)
theorem FY(sz:Nat)(ds:List D)(ts:List T)(h:eG ds=some ts)(hc:aG sz ts=true):lB H sz ds=some (.t (.sl ts),H):=by
 have key:∀(ds:List D) (ts:List T),eG ds=some ts→aG sz ts=true→ds.all (fun d=>d.cells.length==sz)=true∧aK (frz H depth) ds=some ts∧ds.flatMap (bU H depth)=[]:=by
  intro ds
  induction ds with
  | nil=>intro ts h hc;simp[eG]at h;subst h;simp[aK]
  | cons d ds ih=>
    intro ts h hc
    cases d with
    | t x=>
      simp only[eG,Option.map_eq_some_iff]at h
      obtain⟨r,hr,rfl⟩:=h
      simp only[aG,Bool.and_eq_true,bD]at hc
      obtain⟨h1,h2,h3⟩:=ih r hr hc.2
      refine⟨by rw[List.all_cons,h1,Bool.and_true];simp[D.cells,hc.1],by simp[aK,frz,h2],by rw[List.flatMap_cons,h3];simp[bU]⟩
    | _=>simp[eG]at h
 obtain⟨h1,h2,h3⟩:=key ds ts h hc
 simp[lB,h1,h2,h3,pins]
theorem fC(sz:Nat)(ts:List T):lB H sz (ts.map D.t)=if aG sz ts=true then some (.t (.sl ts),H)else none:=by
 by_cases h:aG sz ts=true
 · rw[if_pos h];exact FY H sz _ ts (u9 ts) h
 · rw[if_neg h]
   have:(ts.map D.t).all (fun d=>d.cells.length==sz)=false:=by
    rw[← Bool.not_eq_true];intro ha;apply h
    clear h
    induction ts with
    | nil=>rfl
    | cons a r ih=>
      simp only[List.map_cons,List.all_cons,Bool.and_eq_true,beq_iff_eq]at ha
      simp only[aG,Bool.and_eq_true,bD]
      exact⟨by simpa [D.cells]using ha.1,ih ha.2⟩
   simp only[lB,this];rfl
@[go_sem] theorem Nk (sz : Nat) : lB H sz [] = some (.t (.sl []), H) := (rfl)
@[go_sem] theorem Nl (sz : Nat) (a : T) : lB H sz [.t a] = if aG sz [a] = true then some (.t (.sl [a]), H) else none := fC H sz [a]
@[go_sem] theorem Nn (sz : Nat) (a b : T) : lB H sz [.t a, .t b] = if aG sz [a, b] = true then some (.t (.sl [a, b]), H) else none := fC H sz [a, b]
@[go_sem] theorem No (sz : Nat) (a b c : T) : lB H sz [.t a, .t b, .t c] = if aG sz [a, b, c] = true then some (.t (.sl [a, b, c]), H) else none := fC H sz [a, b, c]
@[go_sem] theorem Np (sz : Nat) (a b c d : T) : lB H sz [.t a, .t b, .t c, .t d] = if aG sz [a, b, c, d] = true then some (.t (.sl [a, b, c, d]), H) else none := fC H sz [a, b, c, d]
@[go_sem] theorem Nq (sz : Nat) (a b c d e : T) : lB H sz [.t a, .t b, .t c, .t d, .t e] = if aG sz [a, b, c, d, e] = true then some (.t (.sl [a, b, c, d, e]), H) else none := fC H sz [a, b, c, d, e]
def FZ(a:D):Option (D×ab):=(HO a).map fun(n:Nat)=>(D.t (.int .i64 (n:Int)),H)
@[go_sem] theorem OP (x : X) : evO call get H (.ln x) = (get x).bind (FZ H) := (rfl)
@[go_sem] theorem Li (es : List T) : FZ H (.t (.sl es)) = some (I es.length, H) := (rfl)
@[go_sem] theorem IY : FZ H .nil = some (I 0, H) := (rfl)
@[go_sem] theorem IZ (id ep n : Nat) : FZ H (.ref id ep n) = some (I n, H) := (rfl)
@[go_sem] theorem I0 (id ep n lo hi : Nat) : FZ H (.sub id ep n lo hi) = some (I ((hi - lo : Nat) : Int), H) := (rfl)
def F3(ds:List D):Option (D×ab):=(Et ds).map fun d=>(d,H)
def F4(ds:List D):Option (D×ab):=(Eu ds).map fun d=>(d,H)
@[go_sem] theorem OQ (xs : List X) : evO call get H (.mn xs) = (aK get xs).bind (F3 H) := (rfl)
@[go_sem] theorem OR (xs : List X) : evO call get H (.mx xs) = (aK get xs).bind (F4 H) := (rfl)
@[go_sem] theorem Nr (k : IntKind) (a b : Int) : F3 H [.t (.int k a), .t (.int k b)] = some (.t (.int k (min a b)), H) := by
 simp only[F3,Et,kO,if_true,Option.map_some];congr 4;omega
@[go_sem] theorem Ns (k : IntKind) (a b : Int) : F4 H [.t (.int k a), .t (.int k b)] = some (.t (.int k (max a b)), H) := by
 simp only[F4,Eu,kO,if_true,Option.map_some];congr 4;omega
@[go_sem] theorem Nt (k : IntKind) (a b c : Int) : F3 H [.t (.int k a), .t (.int k b), .t (.int k c)] = some (.t (.int k (min (min a b) c)), H) := by
 simp only[F3,Et,kO,if_true,Option.map_some];congr 4;omega
@[go_sem] theorem Nu (k : IntKind) (a b c : Int) : F4 H [.t (.int k a), .t (.int k b), .t (.int k c)] = some (.t (.int k (max (max a b) c)), H) := by
 simp only[F4,Eu,kO,if_true,Option.map_some];congr 4;omega
def nh(sz:Nat)(x:Option D)(lo hi:Option (Option Int)):Option (D×ab):=x.bind fun a=>lo.bind fun l=>hi.bind fun h=>(dP H a l h sz).map fun d=>(d,H)
@[go_sem] theorem OS (x : X) (lo hi : Option X) (sz : Nat) : evO call get H (.sc x lo hi sz) = nh H sz (get x) (p9 get lo) (p9 get hi) := (rfl)
def F5:D→Option (Option Int)
 | .t (.int _ n)=>some (some n)
 | _=>none
@[go_sem] theorem I3 (k : IntKind) (n : Int) : F5 (.t (.int k n)) = some (some n) := (rfl)
@[go_sem] theorem F6 : p9 get none = some none := (rfl)
@[go_sem] theorem F7 (x : X) : p9 get (some x) = (get x).bind F5 := by
 simp only[p9];cases get x with
 | none=>rfl
 | some d=>cases d with
   | t y=>cases y<;>rfl
   | _=>rfl
def Lj(i:Nat)(a:D):Option (D×ab):=(Ew i a).map fun d=>(d,H)
@[go_sem] theorem OT (x : X) (i : Nat) : evO call get H (.ex x i) = (get x).bind (Lj H i) := (rfl)
def exO:Option D→Option (D×ab)
 | some d=>some (d,H)
 | none=>none
@[go_sem] theorem I4 (d : D) : exO H (some d) = some (d, H) := (rfl)
@[go_sem] theorem I5 (i : Nat) (ds : List D) : Lj H i (.tup ds) = exO H ds[i]? := by simp only [Lj, Ew, exO]; cases ds[i]? <;> rfl
def Lk(f:Nat)(ds:List D):Option (D×ab):=some (.fn f ds,H)
@[go_sem] theorem Lm (f : Nat) (ds : List D) : Lk H f ds = some (.fn f ds, H) := (rfl)
@[go_sem] theorem OU (f : Nat) (caps : List X) : evO call get H (.mf f caps) = (aK get caps).bind (Lk H f) := by simp only [evO, Lk]; cases aK get caps <;> rfl
@[go_sem] theorem OV (sz : Nat) : evO call get H (.nw sz) = some (.ref H.length 0 0, H ++ [.arr sz false 0 []]) := (rfl)
def alP(p:List D×ab):Option (D×ab):=some (.bp H.length 0,H++ .box p.1::p.2)
@[go_sem] theorem Nv (cs : List D) (os : ab) : alP H (cs, os) = some (.bp H.length 0, H ++ .box cs :: os) := (rfl)
@[go_sem] theorem OW (zero : List D) (live : List (Nat × Nat)) : evO call get H (.al zero live) = alP H (aC (H.length + 1) zero live) := (rfl)
@[go_sem] theorem ze (base : Nat) (cs : List D) : aC base cs [] = (cs, []) := (rfl)
def Ln(n:Nat)(a:D):Option (D×ab):=if a.cells.length=n∧a.b9 then some (.bp H.length 0,H++[.box a.cells])else none
@[go_sem] theorem OX (x : X) (n : Nat) : evO call get H (.bx x n) = (get x).bind (Ln H n) := (rfl)
@[go_sem] theorem Lo (n : Nat) (a : D) : Ln H n a = if fits n a = true then some (.bp H.length 0, H ++ [.box a.cells]) else none := by
 simp[Ln,fits]
def I6(sz:Nat)(zero:D)(n:Option Nat):Option (D×ab):=n.bind fun m=>if m≤lim then some (.ref H.length 0 m,H++[.arr sz false 0 (List.replicate m zero)])else none
def mkN(sz:Nat)(zero:D):D→Option (D×ab)
 | .t (.int _ n)=>I6 H sz zero (idx n)
 | _=>none
@[go_sem] theorem Lp (sz : Nat) (zero : D) (k : IntKind) (n : Int) : mkN H sz zero (.t (.int k n)) = I6 H sz zero (idx n) := (rfl)
@[go_sem] theorem OY (len : X) (zero : D) (sz : Nat) : evO call get H (.mk len zero sz) = (get len).bind (mkN H sz zero) := by
 simp only[evO];cases get len with
 | none=>rfl
 | some d=>cases d with
   | t y=>cases y<;>rfl
   | _=>rfl
@[go_sem] theorem Lq (sz : Nat) (zero : D) (m : Nat) (h : m ≤ 4294967296) : I6 H sz zero (some m) = some (.ref H.length 0 m, H ++ [.arr sz false 0 (List.replicate m zero)]) := by
 simp[I6,lim,h]
def vg(zero:T)(n:Option Nat):Option (D×ab):=n.bind fun m=>if m≤lim then some (.t (.sl (List.replicate m zero)),H)else none
def Nw(zero:T):D→Option (D×ab)
 | .t (.int _ n)=>vg H zero (idx n)
 | _=>none
@[go_sem] theorem I7 (zero : T) (k : IntKind) (n : Int) : Nw H zero (.t (.int k n)) = vg H zero (idx n) := (rfl)
@[go_sem] theorem Nx (len : X) (zero : T) (sz : Nat) : evO call get H (.mkt len zero sz) = (get len).bind (Nw H zero) := by
 simp only[evO];cases get len with
 | none=>rfl
 | some d=>cases d with
   | t y=>cases y<;>rfl
   | _=>rfl
@[go_sem] theorem I8 (zero : T) (m : Nat) (h : m ≤ 4294967296) : vg H zero (some m) = some (.t (.sl (List.replicate m zero)), H) := by
 simp[vg,lim,h]
def eS(sz:Nat)(fz:Bool)(x y:Option D):Option (D×ab):=x.bind fun a=>y.bind fun b=>dC H a b fz sz
@[go_sem] theorem Ny (x y : X) (fz : Bool) (sz : Nat) : evO call get H (.app x y fz sz) = eS H sz fz (get x) (get y) := (rfl)
def jv(sz id ep n:Nat)(ys:List D):Option Obj→Option (D×ab)
 | some (.arr sz' pin ep' es)=>if ep=ep'∧n=es.length∧sz'=sz∧n+ys.length≤lim then some (.ref id ep (n+ys.length),H.set id (.arr sz pin ep (es++ys)))else none
 | _=>none
@[go_sem] theorem F8 (sz id ep n : Nat) (ys : List D) (pin : Bool) (es : List D) :
 jv H sz id ep n ys (some (.arr sz pin ep es))=if n=es.length then(if n+ys.length≤4294967296 then some (.ref id ep (n+ys.length),H.set id (.arr sz pin ep (es++ys)))else none)else none:=by
 simp only[jv,lim]
 by_cases h1:n=es.length
 · rw[if_pos h1]
   by_cases h2:n+ys.length≤4294967296
   · rw[if_pos h2,if_pos ⟨trivial,h1,trivial,h2⟩]
   · rw[if_neg h2,if_neg fun h=>h2 h.2.2.2]
 · rw[if_neg h1,if_neg fun h=>h1 h.2.1]
theorem iv(ts:List T):aK (fun d=>(frz H depth d).map D.t) (ts.map D.t)=some (ts.map D.t):=by
 induction ts with
 | nil=>rfl
 | cons t ts ih=>simp[aK,frz,ih]
theorem sC(ts:List T):(ts.map D.t).flatMap (bU H depth)=[]:=by
 induction ts with
 | nil=>rfl
 | cons t ts ih=>rw[List.map_cons,List.flatMap_cons,ih];simp[bU,depth]
theorem nj(sz:Nat)(fz:Bool)(x:D)(ts:List T)(h:aM sz (ts.map D.t)=false):eS H sz fz (some x) (some (.t (.sl ts)))=none:=by
 have e1:(if fz then aK (fun d=>(frz H depth d).map D.t) (ts.map D.t)else some (ts.map D.t))=some (ts.map D.t):=by
  cases fz<;>simp[iv]
 simp only[eS,Option.bind_some,dC,elems,e1,h,Bool.false_eq_true,if_false]
def dW(sz:Nat)(ts:List T):Bool:=aM sz (ts.map D.t)
theorem sD(sz id ep n:Nat)(fz:Bool)(ts:List T)(h:dW sz ts=true):eS H sz fz (some (.ref id ep n)) (some (.t (.sl ts)))=jv H sz id ep n (ts.map .t) H[id]?:=by
 have e1:(if fz then aK (fun d=>(frz H depth d).map D.t) (ts.map D.t)else some (ts.map D.t))=some (ts.map D.t):=by
  cases fz<;>simp[iv]
 have e2:(if fz then pins H ((ts.map D.t).flatMap (bU H depth))else H)=H:=by
  cases fz
  · rfl
  · simp only[if_true];rw[sC];rfl
 unfold dW at h
 simp only[eS,Option.bind_some,dC,elems,e1,h,if_true,e2,bN]
 generalize H[id]?=o
 rcases o with _ | (_ | ⟨sz',pin,ep',es⟩)
 · rfl
 · rfl
 · simp only[jv]
   by_cases h1:ep=ep'∧n=es.length
   · rw[if_pos h1,Option.bind_some]
     by_cases h2:sz'=sz∧n+(ts.map D.t).length≤lim
     · rw[if_pos h2,if_pos ⟨h1.1,h1.2,h2⟩]
     · rw[if_neg h2,if_neg fun h=>h2 h.2.2]
   · rw[if_neg h1,if_neg fun h=>h1 ⟨h.1,h.2.1⟩];rfl
@[go_sem] theorem F9 (sz id ep n : Nat) (fz : Bool) (ts : List T) : eS H sz fz (some (.ref id ep n)) (some (.t (.sl ts))) = if dW sz ts = true then jv H sz id ep n (ts.map .t) H[id]? else none := by
 by_cases h:dW sz ts=true
 · rw[if_pos h,sD H sz id ep n fz ts h]
 · rw[if_neg h];exact nj H sz fz _ ts (by simpa [dW]using h)
@[go_sem] theorem Ga (sz : Nat) (fz : Bool) (ts : List T) : eS H sz fz (some .nil) (some (.t (.sl ts))) =
 if dW sz ts=true then(if ts.length≤4294967296 then some (.ref H.length 0 ts.length,H++[.arr sz false 0 (ts.map .t)])else none)else none:=by
 by_cases h:dW sz ts=true
 · rw[if_pos h]
   have e1:(if fz then aK (fun d=>(frz H depth d).map D.t) (ts.map D.t)else some (ts.map D.t))=some (ts.map D.t):=by
    cases fz<;>simp[iv]
   have e2:(if fz then pins H ((ts.map D.t).flatMap (bU H depth))else H)=H:=by
    cases fz
    · rfl
    · simp only[if_true];rw[sC];rfl
   unfold dW at h
   simp only[eS,Option.bind_some,dC,elems,e1,h,if_true,e2,lim,List.length_map]
 · rw[if_neg h];exact nj H sz fz _ ts (by simpa [dW]using h)
@[go_sem] theorem Gb (sz : Nat) : dW sz [] = true := (rfl)
@[go_sem] theorem Cx (sz : Nat) (x : T) (r : List T) : dW sz (x :: r) = dV sz x.cells := by
 rw[Bool.eq_iff_iff,bD];simp[dW,aM,D.cells]
@[go_sem] theorem Gc (l : List Int) (k : IntKind) : dW 1 (l.map (.int k)) = true := by cases l <;> rfl
@[go_sem] theorem Cy (l : List Bool) : dW 1 (l.map .bool) = true := by cases l <;> rfl
@[go_sem] theorem I9 (l : List (List T)) : dW 1 (l.map .sl) = true := by cases l <;> rfl
def Cz(call:ah)(f raw:Nat)(keep:List Nat)(ds:List D):Option (D×ab):=gX call H f raw keep ds
@[go_sem] theorem OZ (f raw : Nat) (keep : List Nat) (xs : List X) : evO call get H (.ca f raw keep xs) = (aK get xs).bind (Cz H call f raw keep) := (rfl)
def Nz(call:ah)(raw:Nat)(keep:List Nat)(x:Option D)(xs:Option (List D)):Option (D×ab):=x.bind fun
 | .fn f caps=>xs.bind fun ds=>gX call H f raw keep (ds++caps)
 | _=>none
@[go_sem] theorem O0 (x : X) (raw : Nat) (keep : List Nat) (xs : List X) : evO call get H (.cw x raw keep xs) = Nz H call raw keep (get x) (aK get xs) := (rfl)
@[go_sem] theorem Lr (raw : Nat) (keep : List Nat) (f : Nat) (caps ds : List D) : Nz H call raw keep (some (.fn f caps)) (some ds) = Cz H call f raw keep (ds ++ caps) := (rfl)
def dv(H:ab):List D→Option (List T)
 | []=>some []
 | .t x::r=>cU x (dv H r)
 | .nil::r=>cU (.sl []) (dv H r)
 | _::_=>none
@[go_sem] theorem Lt : dv H [] = some [] := (rfl)
@[go_sem] theorem Lu (x : T) (r : List D) : dv H (.t x :: r) = cU x (dv H r) := (rfl)
@[go_sem] theorem Gd (r : List D) : dv H (.nil :: r) = cU (.sl []) (dv H r) := (rfl)
@[go_sem] theorem Ge (cs : List D) (r : List D) : dv H (.agg cs :: r) = none := (rfl)
@[go_sem] theorem Ja (a b : Nat) (r : List D) : dv H (.bp a b :: r) = none := (rfl)
@[go_sem] theorem Gf (a b c : Nat) (r : List D) : dv H (.ref a b c :: r) = none := (rfl)
@[go_sem] theorem Gg (a b c d e : Nat) (r : List D) : dv H (.sub a b c d e :: r) = none := (rfl)
@[go_sem] theorem Jb (f : Nat) (cs : List D) (r : List D) : dv H (.fn f cs :: r) = none := (rfl)
@[go_sem] theorem Jc (a b c d e : Nat) (r : List D) : dv H (.ap a b c d e :: r) = none := (rfl)
@[go_sem] theorem Jd (cs : List T) (r : List D) : dv H (.ep cs :: r) = none := (rfl)
@[go_sem] theorem CA (r : List D) : dv H (.nilp :: r) = none := (rfl)
@[go_sem] theorem Gi (r : List D) : dv H (.und :: r) = none := (rfl)
end
theorem gN(H:ab):∀ {ds:List D} {ts:List T},dv H ds=some ts→∀i,gE H [] i ds=some (ts.map .t)∧aX H [] i ds=[]
 | [],ts,h,i=>by simp[dv]at h;subst h;exact⟨rfl,rfl⟩
 | d::r,ts,h,i=>by
   cases d with
   | t x=>
     simp only[dv,cU,Option.map_eq_some_iff]at h
     obtain⟨l,hl,rfl⟩:=h
     obtain⟨h1,h2⟩:=gN H hl (i+1)
     exact⟨by simp[gE,jR,h1],by simp[aX,bU,depth,h2]⟩
   | nil=>
     simp only[dv,cU,Option.map_eq_some_iff]at h
     obtain⟨l,hl,rfl⟩:=h
     obtain⟨h1,h2⟩:=gN H hl (i+1)
     exact⟨by simp[gE,jR,h1],by simp[aX,bU,depth,h2]⟩
   | _=>simp[dv]at h
theorem sE(ts:List T)(n:Nat):(ts.map D.t).flatMap (ids n)=[]:=by
 induction ts with
 | nil=>rfl
 | cons t ts ih=>rw[List.map_cons,List.flatMap_cons,ih];simp[ids]
theorem zf(f:Nat→Option Nat)(ts:List T):aK (ren f depth) (ts.map .t)=some (ts.map .t):=by
 induction ts with
 | nil=>rfl
 | cons t ts ih=>simp[aK,ren,depth]at ih ⊢;exact ih
def qt:D→Bool
 | .t _=>true
 | .tup ds=>ds.all fun | .t _=>true | _=>false
 | _=>false
theorem vh{f:Nat→Option Nat}{d:D}(h:qt d=true):ren f depth d=some d:=by
 cases d with
 | t x=>rfl
 | tup ds=>
   simp only[qt]at h
   have:aK (ren f 7) ds=some ds:=by
    induction ds with
    | nil=>rfl
    | cons d ds ih=>
      simp only[List.all_cons,Bool.and_eq_true]at h
      cases d with
      | t x=>simp[aK,ren,ih h.2]
      | _=>simp at h
   simp[ren,depth,this]
 | _=>simp[qt]at h
def kD(H:ab)(p:D×ab):Option (D×ab):=if qt p.1&&p.2.isEmpty then some (p.1,H)else
 (ren (bl [] H.length) depth p.1).bind fun r'=>(aK (b5 (bl [] H.length)) p.2).map fun os=>(r',H++os)
@[go_sem] theorem Lv (H : ab) (x : T) : kD H (.t x, []) = some (.t x, H) := (rfl)
@[go_sem] theorem Lw (H : ab) : kD H (.tup [], []) = some (.tup [], H) := (rfl)
@[go_sem] theorem Lx (H : ab) (x y : T) : kD H (.tup [.t x, .t y], []) = some (.tup [.t x, .t y], H) := (rfl)
@[go_sem] theorem Ly (H : ab) (x y z : T) : kD H (.tup [.t x, .t y, .t z], []) = some (.tup [.t x, .t y, .t z], H) := (rfl)
@[go_sem] theorem Lz (H : ab) (x y z u : T) : kD H (.tup [.t x, .t y, .t z, .t u], []) = some (.tup [.t x, .t y, .t z, .t u], H) := (rfl)
theorem sF(H:ab)(call:ah)(f raw:Nat)(ds:List D)(ts:List T)(h:dv H ds=some ts):
 Cz H call f raw [] ds=(call raw f (ts.map .t) []).bind (kD H):=by
 obtain⟨h1,h2⟩:=gN H h 0
 simp only[Cz,gX,h1,Option.bind_some,sE,bR,reach,gD,List.flatMap_nil,h2,pins,zf,pick,aK]
 cases hc:call raw f (ts.map .t) []with
 | none=>rfl
 | some p=>
   obtain⟨d,os⟩:=p
   simp only[Option.bind_some,List.isEmpty_nil,Bool.true_and,kD]
   by_cases h3:os=[]
   · subst h3
     simp only[List.isEmpty_nil,Bool.true_and,Bool.and_true,aK,Option.map_some,List.length_nil,List.take_nil,aY,List.drop_nil,List.append_nil]
     by_cases h4:qt d=true
     · rw[if_pos h4]
       split
       · rfl
       · rw[vh h4];rfl
     · rw[if_neg h4]
       split
       · rename_i h5
         exfalso
         apply h4
         cases d with
         | t x=>rfl
         | tup ds=>
           simp only[eH,List.all_eq_true]at h5
           simp only[qt,List.all_eq_true]
           intro y hy
           have:=h5 y hy
           cases y<;>simp_all [iN]
         | _=>simp[eH]at h5
       · rfl
   · have:os.isEmpty=false:=by cases os<;>simp_all
     simp only[this,Bool.false_and,Bool.and_false,if_false,Bool.false_eq_true,List.length_nil,List.take_zero,aY,List.drop_zero]
@[go_sem] theorem CB (st : St) : cu st [] = some [] := (rfl)
def NA(st:St)(r:List (Nat×Option (Nat×Bool)))(d:D):Option (List D):=cU d (cu st r)
@[go_sem] theorem LA (vs : List D) (H : ab) (r : List (Nat × Option (Nat × Bool))) (d : D) : NA ⟨vs, H⟩ r d = cU d (cu ⟨vs, H⟩ r) := (rfl)
@[go_sem] theorem CC (vs : List D) (H : ab) (j : Nat) (r : List (Nat × Option (Nat × Bool))) : cu ⟨vs, H⟩ ((j, none) :: r) = vs[j]?.bind (NA ⟨vs, H⟩ r) := (rfl)
def LB(st:St)(r:List (Nat×Option (Nat×Bool)))(p:D×ab):Option (List D):=cU p.1 (cu st r)
@[go_sem] theorem LC (vs : List D) (H : ab) (r : List (Nat × Option (Nat × Bool))) (d : D) (H' : ab) : LB ⟨vs, H⟩ r (d, H') = cU d (cu ⟨vs, H⟩ r) := (rfl)
def LD(st:St)(n:Nat)(agg:Bool)(r:List (Nat×Option (Nat×Bool)))(p:D):Option (List D):=(tN st.H n agg p).bind (LB st r)
@[go_sem] theorem LF (vs : List D) (H : ab) (n : Nat) (agg : Bool) (r : List (Nat × Option (Nat × Bool))) (p : D) : LD ⟨vs, H⟩ n agg r p = (tN H n agg p).bind (LB ⟨vs, H⟩ r) := (rfl)
@[go_sem] theorem zg (vs : List D) (H : ab) (j n : Nat) (agg : Bool) (r : List (Nat × Option (Nat × Bool))) : cu ⟨vs, H⟩ ((j, some (n, agg)) :: r) = vs[j]?.bind (LD ⟨vs, H⟩ n agg r) := by
 simp only[cu]
 cases vs[j]? with
 | none=>rfl
 | some p=>
   simp only[Option.bind_some,LD,tN]
   cases iO H p n agg<;>rfl
@[go_sem] theorem LG (H : ab) (n : Nat) (x : T) : frz H n (.t x) = some x := by cases n <;> rfl
@[go_sem] theorem LH (H : ab) (n : Nat) : frz H n .nil = some (.sl []) := by cases n <;> rfl
@[go_sem] theorem LI (H : ab) (n : Nat) (cs : List D) : frz H (n + 1) (.agg cs) = (aK (frz H n) cs).map .agg := (rfl)
@[go_sem] theorem qu (H : ab) (n : Nat) (ts : List T) : aK (frz H n) (ts.map .t) = some ts := by
 induction ts with
 | nil=>rfl
 | cons t ts ih=>simp[aK,LG,ih]
def frA(H:ab)(n ep m lo hi:Nat):Option Obj→Option T
 | some (.arr _ _ ep' es)=>if ep=ep'∧m=es.length then(aK (frz H n) ((es.drop lo).take (hi-lo))).map .sl else none
 | _=>none
def frR(H:ab)(n ep m:Nat):Option Obj→Option T
 | some (.arr _ _ ep' es)=>if ep=ep'∧m=es.length then(aK (frz H n) es).map .sl else none
 | _=>none
@[go_sem] theorem LJ (H : ab) (n id ep m : Nat) : frz H (n + 1) (.ref id ep m) = frR H n ep m H[id]? := by
 simp only[frz,bN]
 generalize H[id]?=o
 rcases o with _ | (_ | ⟨sz',pin,ep',es⟩)
 · rfl
 · rfl
 · simp only[frR]
   by_cases h:ep=ep'∧m=es.length
   · rw[if_pos h,if_pos h];rfl
   · rw[if_neg h,if_neg h];rfl
@[go_sem] theorem LK (H : ab) (n id ep m lo hi : Nat) : frz H (n + 1) (.sub id ep m lo hi) = frA H n ep m lo hi H[id]? := by
 simp only[frz,bN]
 generalize H[id]?=o
 rcases o with _ | (_ | ⟨sz',pin,ep',es⟩)
 · rfl
 · rfl
 · simp only[frA]
   by_cases h:ep=ep'∧m=es.length
   · rw[if_pos h,if_pos h];rfl
   · rw[if_neg h,if_neg h];rfl
@[go_sem] theorem LL (H : ab) (n ep m sz : Nat) (pin : Bool) (es : List D) : frR H n ep m (some (.arr sz pin ep es)) = if m = es.length then (aK (frz H n) es).map .sl else none := by simp [frR]
@[go_sem] theorem LM (H : ab) (n ep m lo hi sz : Nat) (pin : Bool) (es : List D) : frA H n ep m lo hi (some (.arr sz pin ep es)) = if m = es.length then (aK (frz H n) ((es.drop lo).take (hi - lo))).map .sl else none := by simp [frA]
@[go_sem] theorem NB (H : ab) (x : T) : jR H (.t x) = some (.t x) := (rfl)
@[go_sem] theorem Je (H : ab) : jR H .nil = some (.t (.sl [])) := (rfl)
@[go_sem] theorem Jf (H : ab) (cs : List D) : jR H (.agg cs) = (frz H 8 (.agg cs)).map .t := (rfl)
@[go_sem] theorem Jg (H : ab) (id ep n : Nat) : jR H (.ref id ep n) = (frz H 8 (.ref id ep n)).map .t := (rfl)
@[go_sem] theorem Jh (H : ab) (id ep n lo hi : Nat) : jR H (.sub id ep n lo hi) = (frz H 8 (.sub id ep n lo hi)).map .t := (rfl)
@[go_sem] theorem LN (H : ab) (id off : Nat) : jR H (.bp id off) = some (.bp id off) := (rfl)
@[go_sem] theorem LO (H : ab) (id ep n i off : Nat) : jR H (.ap id ep n i off) = some (.ap id ep n i off) := (rfl)
@[go_sem] theorem LP (H : ab) (cs : List T) : jR H (.ep cs) = some (.ep cs) := (rfl)
@[go_sem] theorem LQ (H : ab) (f : Nat) (cs : List D) : jR H (.fn f cs) = some (.fn f cs) := (rfl)
def ltB:Nat→Nat→Bool
 | _,0=>false
 | 0,_+1=>true
 | m+1,n+1=>ltB m n
@[go_sem] theorem O1 (m : Nat) : ltB m 0 = false := by cases m <;> rfl
@[go_sem] theorem NC (n : Nat) : ltB 0 (n + 1) = true := (rfl)
@[go_sem] theorem ND (m n : Nat) : ltB (m + 1) (n + 1) = ltB m n := (rfl)
theorem eT:∀ {m n:Nat},ltB m n=decide (m<n)
 | m,0=>by cases m<;>simp[ltB]
 | 0,n+1=>by simp[ltB]
 | m+1,n+1=>by simp[ltB,eT (m:=m) (n:=n)]
def eqB:Nat→Nat→Bool
 | 0,0=>true
 | m+1,n+1=>eqB m n
 | _,_=>false
@[go_sem] theorem NF : eqB 0 0 = true := (rfl)
@[go_sem] theorem NG (n : Nat) : eqB 0 (n + 1) = false := (rfl)
@[go_sem] theorem NH (n : Nat) : eqB (n + 1) 0 = false := (rfl)
@[go_sem] theorem NI (m n : Nat) : eqB (m + 1) (n + 1) = eqB m n := (rfl)
theorem oK:∀ {m n:Nat},eqB m n=decide (m=n)
 | 0,0=>rfl
 | 0,n+1=>rfl
 | m+1,0=>rfl
 | m+1,n+1=>by simp[eqB,oK (m:=m) (n:=n)]
section
variable (k n : Nat)
@[go_sem] theorem LR (x : T) : old k n (.t x) = true := by cases n <;> rfl
@[go_sem] theorem LS : old k n .nil = true := by cases n <;> rfl
@[go_sem] theorem NJ (cs : List T) : old k n (.ep cs) = true := by cases n <;> rfl
@[go_sem] theorem Ji : old k n .nilp = true := by cases n <;> rfl
@[go_sem] theorem LU : old k n .und = true := by cases n <;> rfl
@[go_sem] theorem Gj (id off : Nat) : old k n (.bp id off) = ltB id k := by cases n <;> simp [old, eT]
@[go_sem] theorem NK (id ep m i off : Nat) : old k n (.ap id ep m i off) = ltB id k := by cases n <;> simp [old, eT]
@[go_sem] theorem LV (id ep m : Nat) : old k n (.ref id ep m) = ltB id k := by cases n <;> simp [old, eT]
@[go_sem] theorem LW (id ep m lo hi : Nat) : old k n (.sub id ep m lo hi) = ltB id k := by cases n <;> simp [old, eT]
def bL(n:Nat)(cs:List D):Bool:=cs.all (old k n)
@[go_sem] theorem CD : bL k n [] = true := (rfl)
@[go_sem] theorem oL (d : D) (r : List D) : bL k n (d :: r) = (old k n d && bL k n r) := (rfl)
@[go_sem] theorem pJ (ts : List T) : bL k n (ts.map .t) = true := by
 induction ts with
 | nil=>rfl
 | cons t ts ih=>rw[List.map_cons,oL,LR,ih];rfl
@[go_sem] theorem CE (m : Nat) (x : T) : bL k n (List.replicate m (.t x)) = true := by
 have:List.replicate m (D.t x)=(List.replicate m x).map .t:=by simp
 rw[this,pJ]
@[go_sem] theorem CF (a b : List D) : bL k n (a ++ b) = (bL k n a && bL k n b) := by simp [bL]
@[go_sem] theorem LX (cs : List D) : old k (n + 1) (.agg cs) = bL k n cs := (rfl)
@[go_sem] theorem LY (cs : List D) : old k (n + 1) (.tup cs) = bL k n cs := (rfl)
@[go_sem] theorem NL (f : Nat) (cs : List D) : old k (n + 1) (.fn f cs) = bL k n cs := (rfl)
end
def bA(k:Nat):ab→Bool
 | []=>true
 | .box cs::r=>bL k 8 cs&&bA k r
 | .arr _ _ _ es::r=>bL k 8 es&&bA k r
@[go_sem] theorem zh (k : Nat) : bA k [] = true := (rfl)
@[go_sem] theorem zi (k : Nat) (cs : List D) (r : ab) : bA k (.box cs :: r) = (bL k 8 cs && bA k r) := (rfl)
@[go_sem] theorem zj (k sz ep : Nat) (pin : Bool) (es : List D) (r : ab) : bA k (.arr sz pin ep es :: r) = (bL k 8 es && bA k r) := (rfl)
theorem dA(k:Nat)(H:ab):H.all (fun o=>o.ds.all (old k depth))=bA k H:=by
 induction H with
 | nil=>rfl
 | cons o r ih=>rw[List.all_cons,ih];cases o<;>rfl
def zk(d:D)(b:Bool):D:=if b then d else .und
@[go_sem] theorem CG (d : D) : zk d true = d := (rfl)
@[go_sem] theorem zl (d : D) : zk d false = .und := (rfl)
@[go_sem] theorem LZ (k : Nat) (d : D) : kill k d = zk d (old k 8 d) := (rfl)
def qv(k:Nat):List D→List D
 | []=>[]
 | d::r=>kill k d::qv k r
@[go_sem] theorem Gk (k : Nat) : qv k [] = [] := (rfl)
@[go_sem] theorem CH (k : Nat) (d : D) (r : List D) : qv k (d :: r) = kill k d :: qv k r := (rfl)
theorem vi(k:Nat)(vs:List D):vs.map (kill k)=qv k vs:=by
 induction vs with
 | nil=>rfl
 | cons d r ih=>rw[List.map_cons,ih];rfl
@[go_sem] theorem Jj (k : Nat) (vs : List D) (H : ab) : qa k ⟨vs, H⟩ = if bA k (H.take k) = true then some ⟨qv k vs, H.take k⟩ else none := by
 simp only[qa,dA,vi]
@[go_sem] theorem zm (H : ab) (n : Nat) (x : T) : bU H n (.t x) = [] := by cases n <;> rfl
@[go_sem] theorem Jk (H : ab) (n : Nat) : bU H n .nil = [] := by cases n <;> rfl
@[go_sem] theorem L3 (H : ab) (n id off : Nat) : bU H n (.bp id off) = [] := by cases n <;> rfl
@[go_sem] theorem L4 (H : ab) (n f : Nat) (cs : List D) : bU H n (.fn f cs) = [] := by cases n <;> rfl
@[go_sem] theorem L5 (H : ab) (n : Nat) (cs : List T) : bU H n (.ep cs) = [] := by cases n <;> rfl
@[go_sem] theorem L6 (H : ab) (n a b c d e : Nat) : bU H n (.ap a b c d e) = [] := by cases n <;> rfl
def gj(H:ab)(n:Nat)(cs:List D):List Nat:=cs.flatMap (bU H n)
@[go_sem] theorem Gl (H : ab) (n : Nat) : gj H n [] = [] := (rfl)
@[go_sem] theorem qw (H : ab) (n : Nat) (d : D) (r : List D) : gj H n (d :: r) = bU H n d ++ gj H n r := (rfl)
@[go_sem] theorem L7 (H : ab) (n : Nat) (ts : List T) : gj H n (ts.map .t) = [] := by
 induction ts with
 | nil=>rfl
 | cons t ts ih=>rw[List.map_cons,qw,ih,zm];rfl
@[go_sem] theorem Gm (H : ab) (n : Nat) (a b : List D) : gj H n (a ++ b) = gj H n a ++ gj H n b := by simp [gj]
@[go_sem] theorem Jl (H : ab) (n : Nat) (cs : List D) : bU H (n + 1) (.agg cs) = gj H n cs := (rfl)
def zn(H:ab)(n:Nat):Option Obj→List Nat
 | some (.arr _ _ _ es)=>gj H n es
 | _=>[]
@[go_sem] theorem Gn (H : ab) (n sz ep : Nat) (pin : Bool) (es : List D) : zn H n (some (.arr sz pin ep es)) = gj H n es := (rfl)
@[go_sem] theorem Jm (H : ab) (n id ep m : Nat) : bU H (n + 1) (.ref id ep m) = id :: zn H n H[id]? := (rfl)
@[go_sem] theorem Jn (H : ab) (n id ep m lo hi : Nat) : bU H (n + 1) (.sub id ep m lo hi) = id :: zn H n H[id]? := (rfl)
@[go_sem] theorem L8 : jE [] = .tup [] := (rfl)
@[go_sem] theorem L9 (d : D) : jE [d] = d := (rfl)
@[go_sem] theorem Ma (a b : D) (r : List D) : jE (a :: b :: r) = .tup (a :: b :: r) := (rfl)
def nk(k:Nat):List Nat→Bool
 | []=>true
 | i::r=> !ltB i k&&nk k r
@[go_sem] theorem Gp (k : Nat) : nk k [] = true := (rfl)
@[go_sem] theorem CI (k i : Nat) (r : List Nat) : nk k (i :: r) = (!ltB i k && nk k r) := (rfl)
theorem pK(k:Nat)(l:List Nat):l.all (fun i=>decide (k≤i))=nk k l:=by
 induction l with
 | nil=>rfl
 | cons i r ih=>
   rw[List.all_cons,ih]
   simp only[nk,eT]
   congr 1
   rw[Bool.eq_iff_iff];simp
def Jo(k raw:Nat)(H:ab)(ds rs:List D):Option (D×ab):=
 (dQ H (max raw 1) (List.range k) (rs.flatMap (ids depth)++gD H (List.range k))).bind fun q=>
  if(cB H raw ds).all (fun i=> !(List.range k++q.1).contains i)then
   (aK (ren (idxOf (List.range k++q.1)) depth) rs).bind fun rs'=>
    (aK (b5 (idxOf (List.range k++q.1))) (H.take k++q.2)).map fun hs'=>(jE rs',hs')
  else none
def CJ(k raw:Nat)(H:ab)(ds rs:List D)(b:Bool):Option (D×ab):=
 if b then(if nk k (cB H raw ds)=true then some (jE rs,H.take k)else none)else Jo k raw H ds rs
@[go_sem] theorem Gq (k raw : Nat) (H : ab) (ds rs : List D) : CJ k raw H ds rs true = if nk k (cB H raw ds) = true then some (jE rs, H.take k) else none := (rfl)
def Gr(k raw:Nat)(H:ab)(ds rs:List D):Option (D×ab):=CJ k raw H ds rs (bL k 8 rs&&bA k (H.take k))
@[go_sem] theorem Mb (k raw : Nat) (H : ab) (ds rs : List D) : Gr k raw H ds rs = CJ k raw H ds rs (bL k 8 rs && bA k (H.take k)) := (rfl)
@[go_sem] theorem Gs (k : Nat) (H : ab) (ds : List D) : finish k 0 H ds = (aK (jR H) ds).bind (Gr k 0 H ds) := by
 simp only[finish,if_true,dA,pK]
 cases aK (jR H) ds with
 | none=>rfl
 | some rs=>
   simp only[Option.bind_some,Gr,CJ]
   show(if(bL k 8 rs&&bA k (H.take k))=true then _ else _)=_
   cases (bL k 8 rs&&bA k (H.take k))<;>rfl
@[go_sem] theorem Gt (H : ab) (ds : List D) : cB H 0 ds = gj H 8 ds := (rfl)
@[go_sem] theorem Gu (vs : List D) : cO [] vs = vs := (rfl)
@[go_sem] theorem CK (i : Nat) (r : List Nat) (vs : List D) : cO (i :: r) vs = cO r (vs.set i .und) := (rfl)
@[go_sem] theorem Mc (dead : List Nat) (k : Nat) (vs : List D) (H : ab) : tidy false dead k ⟨vs, H⟩ = some ⟨cO dead vs, H⟩ := (rfl)
@[go_sem] theorem Md (dead : List Nat) (k : Nat) (vs : List D) (H : ab) : tidy true dead k ⟨vs, H⟩ = qa k ⟨cO dead vs, H⟩ := (rfl)
section
variable (H : ab) (call : ah) (f raw : Nat) (keep : List Nat) (ds : List D)
def nq(H1:ab)(n:Nat)(sel:List Nat)(p:D×ab):Option (D×ab):=
 (ren (bl sel n) depth p.1).bind fun r'=>(aK (b5 (bl sel n)) p.2).map fun os=>(r',aY H1 sel (os.take sel.length)++os.drop sel.length)
def i6(H1:ab)(sel:List Nat)(p:D×ab):Option (D×ab):=
 if sel.isEmpty&&p.2.isEmpty&&eH p.1 then some (p.1,H)else nq H1 H.length sel p
def zo(args:List D)(H1:ab)(sel:List Nat)(hs:ab):Option (D×ab):=(call raw f args hs).bind (i6 H H1 sel)
def zp(args:List D)(H1:ab)(sel:List Nat)(hs:ab):Option (D×ab):=(aK (b5 (idxOf sel)) hs).bind (zo H call f raw args H1 sel)
def zq(H1:ab)(sel:List Nat)(args:List D):Option (D×ab):=(pick H1 sel).bind (zp H call f raw args H1 sel)
def zr(args:List D)(sel:List Nat):Option (D×ab):=(aK (ren (idxOf sel) depth) args).bind (zq H call f raw (pins H (aX H keep 0 ds)) sel)
def lC(n:Nat)(cs:List D):List Nat:=cs.flatMap (ids n)
def zt(args:List D):Option (D×ab):=zr H call f raw keep ds args (reach H 3 (bR [] (lC 8 args)))
def vj:Option (D×ab):=(gE H keep 0 ds).bind (zt H call f raw keep ds)
@[go_sem] theorem Jp : vj H call f raw keep ds = (gE H keep 0 ds).bind (zt H call f raw keep ds) := (rfl)
@[go_sem] theorem Jq (args : List D) : zt H call f raw keep ds args = zr H call f raw keep ds args (reach H 3 (bR [] (lC 8 args))) := (rfl)
@[go_sem] theorem Jr (args : List D) (sel : List Nat) : zr H call f raw keep ds args sel = (aK (ren (idxOf sel) 8) args).bind (zq H call f raw (pins H (aX H keep 0 ds)) sel) := (rfl)
@[go_sem] theorem Js (H1 : ab) (sel : List Nat) (args : List D) : zq H call f raw H1 sel args = (pick H1 sel).bind (zp H call f raw args H1 sel) := (rfl)
@[go_sem] theorem Jt (args : List D) (H1 : ab) (sel : List Nat) (hs : ab) : zp H call f raw args H1 sel hs = (aK (b5 (idxOf sel)) hs).bind (zo H call f raw args H1 sel) := (rfl)
@[go_sem] theorem Ju (args : List D) (H1 : ab) (sel : List Nat) (hs : ab) : zo H call f raw args H1 sel hs = (call raw f args hs).bind (i6 H H1 sel) := (rfl)
def zu(H1:ab)(sel:List Nat)(r:D)(os:ab):Option (D×ab):=some (r,aY H1 sel (os.take sel.length)++os.drop sel.length)
@[go_sem] theorem Jv (H1 : ab) (sel : List Nat) (r : D) (os : ab) : zu H1 sel r os = some (r, aY H1 sel (os.take sel.length) ++ os.drop sel.length) := (rfl)
def zv(H1:ab)(n:Nat)(sel:List Nat)(os:ab)(r:D):Option (D×ab):=(aK (b5 (bl sel n)) os).bind (zu H1 sel r)
@[go_sem] theorem Jw (H1 : ab) (n : Nat) (sel : List Nat) (os : ab) (r : D) : zv H1 n sel os r = (aK (b5 (bl sel n)) os).bind (zu H1 sel r) := (rfl)
@[go_sem] theorem Jx (H1 : ab) (n : Nat) (sel : List Nat) (r : D) (os : ab) : nq H1 n sel (r, os) = (ren (bl sel n) 8 r).bind (zv H1 n sel os) := by
 simp only[nq,depth]
 cases ren (bl sel n) 8 r with
 | none=>rfl
 | some r'=>simp only[Option.bind_some,zv];cases aK (b5 (bl sel n)) os<;>rfl
@[go_sem] theorem Gv (H1 : ab) (i : Nat) (sel : List Nat) (p : D × ab) : i6 H H1 (i :: sel) p = nq H1 H.length (i :: sel) p := (rfl)
@[go_sem] theorem Jy (H1 : ab) (sel : List Nat) (r : D) (o : Obj) (os : ab) : i6 H H1 sel (r, o :: os) = nq H1 H.length sel (r, o :: os) := by
 simp[i6]
@[go_sem] theorem Me (H1 : ab) (k : IntKind) (n : Int) : i6 H H1 [] (.t (.int k n), []) = some (.t (.int k n), H) := (rfl)
@[go_sem] theorem Mf (H1 : ab) (b : Bool) : i6 H H1 [] (.t (.bool b), []) = some (.t (.bool b), H) := (rfl)
@[go_sem] theorem Jz (H1 : ab) (es : List T) : i6 H H1 [] (.t (.sl es), []) = some (.t (.sl es), H1) := by simp [i6, nq, eH, T.scalar, ren, depth, aK, aY]
@[go_sem] theorem Gw (H1 : ab) (es : List T) : i6 H H1 [] (.t (.agg es), []) = some (.t (.agg es), H1) := by simp [i6, nq, eH, T.scalar, ren, depth, aK, aY]
@[go_sem] theorem Gx (H1 : ab) (ds : List D) : i6 H H1 [] (.tup ds, []) = if ds.all iN then some (.tup ds, H) else nq H1 H.length [] (.tup ds, []) := by
 simp[i6,eH]
def zw:Option (List T)→Option (D×ab)
 | some ts=>(call raw f (ts.map .t) []).bind (kD H)
 | none=>vj H call f raw [] ds
@[go_sem] theorem CL (ts : List T) : zw H call f raw ds (some ts) = (call raw f (ts.map .t) []).bind (kD H) := (rfl)
@[go_sem] theorem CM : zw H call f raw ds none = vj H call f raw [] ds := (rfl)
@[go_sem] theorem Mg : Cz H call f raw [] ds = zw H call f raw ds (dv H ds) := by
 cases h:dv H ds with
 | none=>rfl
 | some ts=>exact sF H call f raw ds ts h
@[go_sem] theorem NM (k : Nat) : Cz H call f raw (k :: keep) ds = vj H call f raw (k :: keep) ds := (rfl)
end
section
variable (H : ab) (keep : List Nat)
@[go_sem] theorem Gy (i : Nat) : gE H keep i [] = some [] := (rfl)
def pL(i:Nat):List Nat→Bool
 | []=>false
 | j::r=>eqB i j||pL i r
@[go_sem] theorem JA (i : Nat) : pL i [] = false := (rfl)
@[go_sem] theorem Gz (i j : Nat) (r : List Nat) : pL i (j :: r) = (eqB i j || pL i r) := (rfl)
theorem ma(i:Nat)(l:List Nat):l.contains i=pL i l:=by
 induction l with
 | nil=>rfl
 | cons j r ih=>rw[List.contains_cons,ih];simp only[pL,oK];rw[beq_eq_decide_nat]
where beq_eq_decide_nat {a b:Nat}:(a==b)=decide (a=b):=by rw[Bool.eq_iff_iff];simp
def Mh(d:D):Bool→Option D
 | true=>some d
 | false=>jR H d
@[go_sem] theorem NN (d : D) : Mh H d true = some d := (rfl)
@[go_sem] theorem NQ (d : D) : Mh H d false = jR H d := (rfl)
def NR(i:Nat)(r:List D)(x:D):Option (List D):=cU x (gE H keep (i+1) r)
@[go_sem] theorem Mi (i : Nat) (r : List D) (x : D) : NR H keep i r x = cU x (gE H keep (i + 1) r) := (rfl)
@[go_sem] theorem CN (i : Nat) (d : D) (r : List D) : gE H keep i (d :: r) = (Mh H d (pL i keep)).bind (NR H keep i r) := by
 simp only[gE,ma]
 cases pL i keep<;>rfl
@[go_sem] theorem tO (i : Nat) : aX H keep i [] = [] := (rfl)
def frK(l:List Nat):Bool→List Nat
 | true=>[]
 | false=>l
@[go_sem] theorem O2 (l : List Nat) : frK l true = [] := (rfl)
@[go_sem] theorem O3 (l : List Nat) : frK l false = l := (rfl)
@[go_sem] theorem sG (i : Nat) (d : D) (r : List D) : aX H keep i (d :: r) = frK (bU H 8 d) (pL i keep) ++ aX H keep (i + 1) r := by
 simp only[aX,ma]
 cases pL i keep<;>rfl
@[go_sem] theorem JB (H : ab) : pins H [] = H := (rfl)
@[go_sem] theorem GA (H : ab) (i : Nat) (r : List Nat) : pins H (i :: r) = pins (H.modify i o8) r := (rfl)
def qx(i:Nat):Option Obj→ab
 | some (.arr sz _ ep es)=>H.set i (.arr sz true ep es)
 | _=>H
@[go_sem] theorem GB (i : Nat) (cs : List D) : qx H i (some (.box cs)) = H := (rfl)
@[go_sem] theorem GC (i sz ep : Nat) (pin : Bool) (es : List D) : qx H i (some (.arr sz pin ep es)) = H.set i (.arr sz true ep es) := (rfl)
@[go_sem] theorem CO (i : Nat) : List.modify H i o8 = qx H i H[i]? := by
 apply List.ext_getElem?
 intro j
 rw[List.getElem?_modify]
 cases h:H[i]? with
 | none=>
   simp only[qx]
   by_cases e:i=j
   · subst e;rw[h];simp
   · simp[e]
 | some o=>
   have hi:i<H.length:=(List.getElem?_eq_some_iff.1 h).1
   cases o with
   | box cs=>
     simp only[qx]
     by_cases e:i=j
     · subst e;rw[h];simp[o8]
     · simp[e]
   | arr sz pin ep es=>
     simp only[qx]
     rw[List.getElem?_set]
     by_cases e:i=j
     · subst e;rw[h];simp[o8,hi]
     · simp[e]
section
variable (n : Nat)
@[go_sem] theorem O4 (x : T) : ids n (.t x) = [] := by cases n <;> rfl
@[go_sem] theorem Mj : ids n .nil = [] := by cases n <;> rfl
@[go_sem] theorem JC : ids n .nilp = [] := by cases n <;> rfl
@[go_sem] theorem Mk : ids n .und = [] := by cases n <;> rfl
@[go_sem] theorem NS (cs : List T) : ids n (.ep cs) = [] := by cases n <;> rfl
@[go_sem] theorem NT (id off : Nat) : ids n (.bp id off) = [id] := by cases n <;> rfl
@[go_sem] theorem NU (id ep m i off : Nat) : ids n (.ap id ep m i off) = [id] := by cases n <;> rfl
@[go_sem] theorem Ml (id ep m : Nat) : ids n (.ref id ep m) = [id] := by cases n <;> rfl
@[go_sem] theorem Mm (id ep m lo hi : Nat) : ids n (.sub id ep m lo hi) = [id] := by cases n <;> rfl
@[go_sem] theorem Mn (cs : List D) : ids (n + 1) (.agg cs) = lC n cs := (rfl)
@[go_sem] theorem Mo (cs : List D) : ids (n + 1) (.tup cs) = lC n cs := (rfl)
@[go_sem] theorem NV (f : Nat) (cs : List D) : ids (n + 1) (.fn f cs) = lC n cs := (rfl)
@[go_sem] theorem JD : lC n [] = [] := (rfl)
@[go_sem] theorem GD (d : D) (r : List D) : lC n (d :: r) = ids n d ++ lC n r := (rfl)
@[go_sem] theorem GF (ts : List T) : lC n (ts.map .t) = [] := sE ts n
@[go_sem] theorem JE (a b : List D) : lC n (a ++ b) = lC n a ++ lC n b := by simp [lC]
@[go_sem] theorem JF (m : Nat) (x : T) : lC n (List.replicate m (.t x)) = [] := by
 have:List.replicate m (D.t x)=(List.replicate m x).map .t:=by simp
 rw[this,GF]
end
def sH(sel:List Nat)(i:Nat):Bool→List Nat
 | true=>sel
 | false=>sel++[i]
@[go_sem] theorem JG (sel : List Nat) (i : Nat) : sH sel i true = sel := (rfl)
@[go_sem] theorem JH (sel : List Nat) (i : Nat) : sH sel i false = sel ++ [i] := (rfl)
@[go_sem] theorem CP (sel : List Nat) : bR sel [] = sel := (rfl)
@[go_sem] theorem zx (sel : List Nat) (i : Nat) (r : List Nat) : bR sel (i :: r) = bR (sH sel i (pL i sel)) r := by
 simp only[bR,ma]
 cases pL i sel<;>rfl
def pM:Option Obj→List Nat
 | some (.box cs)=>lC 8 cs
 | some (.arr _ _ _ es)=>lC 8 es
 | none=>[]
@[go_sem] theorem CQ (cs : List D) : pM (some (.box cs)) = lC 8 cs := (rfl)
@[go_sem] theorem CR (sz ep : Nat) (pin : Bool) (es : List D) : pM (some (.arr sz pin ep es)) = lC 8 es := (rfl)
@[go_sem] theorem GG : gD H [] = [] := (rfl)
@[go_sem] theorem CS (i : Nat) (r : List Nat) : gD H (i :: r) = pM H[i]? ++ gD H r := by
 simp only[gD,List.flatMap_cons]
 congr 1
 cases H[i]? with
 | none=>rfl
 | some o=>cases o<;>rfl
@[go_sem] theorem Mp (sel : List Nat) : reach H 0 sel = sel := (rfl)
@[go_sem] theorem Mq (n : Nat) (sel : List Nat) : reach H (n + 1) sel = reach H n (bR sel (gD H sel)) := (rfl)
@[go_sem] theorem JI : pick H [] = some [] := (rfl)
def GH(r:List Nat)(o:Obj):Option ab:=cU o (pick H r)
@[go_sem] theorem JJ (r : List Nat) (o : Obj) : GH H r o = cU o (pick H r) := (rfl)
@[go_sem] theorem GI (i : Nat) (r : List Nat) : pick H (i :: r) = H[i]?.bind (GH H r) := (rfl)
end
section
variable (f : Nat → Option Nat) (n : Nat)
@[go_sem] theorem Mr (x : T) : ren f n (.t x) = some (.t x) := by cases n <;> rfl
@[go_sem] theorem Ms : ren f n .nil = some .nil := by cases n <;> rfl
@[go_sem] theorem JK : ren f n .nilp = some .nilp := by cases n <;> rfl
@[go_sem] theorem Mt : ren f n .und = some .und := by cases n <;> rfl
@[go_sem] theorem NW (cs : List T) : ren f n (.ep cs) = some (.ep cs) := by cases n <;> rfl
def NX(off:Nat)(i:Nat):D:= .bp i off
@[go_sem] theorem Mu (off i : Nat) : NX off i = .bp i off := (rfl)
@[go_sem] theorem NY (id off : Nat) : ren f n (.bp id off) = (f id).map (NX off) := by cases n <;> rfl
def NZ(ep m i off:Nat)(j:Nat):D:= .ap j ep m i off
@[go_sem] theorem Mv (ep m i off j : Nat) : NZ ep m i off j = .ap j ep m i off := (rfl)
@[go_sem] theorem N0 (id ep m i off : Nat) : ren f n (.ap id ep m i off) = (f id).map (NZ ep m i off) := by cases n <;> rfl
def GJ(ep m:Nat)(j:Nat):D:= .ref j ep m
@[go_sem] theorem JL (ep m j : Nat) : GJ ep m j = .ref j ep m := (rfl)
@[go_sem] theorem Mw (id ep m : Nat) : ren f n (.ref id ep m) = (f id).map (GJ ep m) := by cases n <;> rfl
def GK(ep m lo hi:Nat)(j:Nat):D:= .sub j ep m lo hi
@[go_sem] theorem JM (ep m lo hi j : Nat) : GK ep m lo hi j = .sub j ep m lo hi := (rfl)
@[go_sem] theorem Mx (id ep m lo hi : Nat) : ren f n (.sub id ep m lo hi) = (f id).map (GK ep m lo hi) := by cases n <;> rfl
@[go_sem] theorem N1 (g : Nat) (cs : List D) : ren f (n + 1) (.fn g cs) = (aK (ren f n) cs).map (.fn g) := (rfl)
@[go_sem] theorem My (cs : List D) : ren f (n + 1) (.agg cs) = (aK (ren f n) cs).map .agg := (rfl)
@[go_sem] theorem Mz (cs : List D) : ren f (n + 1) (.tup cs) = (aK (ren f n) cs).map .tup := (rfl)
@[go_sem] theorem qy (ts : List T) : aK (ren f n) (ts.map .t) = some (ts.map .t) := by
 induction ts with
 | nil=>rfl
 | cons t ts ih=>rw[List.map_cons,sA,Mr,Option.bind_some,yW,ih];rfl
@[go_sem] theorem wS (m : Nat) (x : T) : aK (ren f n) (List.replicate m (.t x)) = some (List.replicate m (.t x)) := by
 have:List.replicate m (D.t x)=(List.replicate m x).map .t:=by simp
 rw[this,qy]
@[go_sem] theorem CT (cs : List D) : b5 f (.box cs) = (aK (ren f 8) cs).map .box := (rfl)
@[go_sem] theorem CU (sz ep : Nat) (pin : Bool) (es : List D) : b5 f (.arr sz pin ep es) = (aK (ren f 8) es).map (.arr sz pin ep) := (rfl)
end
def CV(x:Option Nat):Bool→Option Nat
 | true=>some 0
 | false=>x.map (· +1)
@[go_sem] theorem N2 (x : Option Nat) : CV x true = some 0 := (rfl)
@[go_sem] theorem N3 (k : Nat) : CV (some k) false = some (k + 1) := (rfl)
@[go_sem] theorem N4 : CV none false = none := (rfl)
@[go_sem] theorem idxOf_nil (i : Nat) : idxOf [] i = none := (rfl)
@[go_sem] theorem idxOf_cons (j i : Nat) (r : List Nat) : idxOf (j :: r) i = CV (idxOf r i) (eqB j i) := by
 simp only[idxOf,oK]
 by_cases h:j=i
 · simp[h,CV]
 · simp[h,CV]
@[go_sem] theorem CW (n i : Nat) : bl [] n i = some (n + i) := by simp [bl]
@[go_sem] theorem JN (j n : Nat) (r : List Nat) : bl (j :: r) n 0 = some j := by simp [bl]
@[go_sem] theorem JO (j n i : Nat) (r : List Nat) : bl (j :: r) n (i + 1) = bl r n i := by
 simp only[bl,List.length_cons,Nat.add_lt_add_iff_right,List.getElem?_cons_succ,Nat.add_sub_add_right]
@[go_sem] theorem zy {α : Type} (H os : List α) : aY H [] os = H := by cases os <;> rfl
@[go_sem] theorem wT {α : Type} (H : List α) (i : Nat) (r : List Nat) (o : α) (os : List α) : aY H (i :: r) (o :: os) = aY (H.set i o) r os := (rfl)
def lbP(sz:Nat)(p:List D×ab):List D×ab:=(p.1,.arr sz false 0 []::p.2)
@[go_sem] theorem N5 (sz : Nat) (cs : List D) (os : ab) : lbP sz (cs, os) = (cs, .arr sz false 0 [] :: os) := (rfl)
def lbC(base:Nat)(cs:List D)(off sz:Nat)(r:List (Nat×Nat)):Option D→List D×ab
 | some .nil=>lbP sz (aC (base+1) (cs.set off (.ref base 0 0)) r)
 | _=>aC base cs r
@[go_sem] theorem MA (base : Nat) (cs : List D) (off sz : Nat) (r : List (Nat × Nat)) : lbC base cs off sz r (some .nil) = lbP sz (aC (base + 1) (cs.set off (.ref base 0 0)) r) := (rfl)
@[go_sem] theorem O5 (base : Nat) (cs : List D) (off sz : Nat) (r : List (Nat × Nat)) (x : T) : lbC base cs off sz r (some (.t x)) = aC base cs r := (rfl)
@[go_sem] theorem MB (base : Nat) (cs : List D) (off sz : Nat) (r : List (Nat × Nat)) (a b c : Nat) : lbC base cs off sz r (some (.ref a b c)) = aC base cs r := (rfl)
@[go_sem] theorem wU (base : Nat) (cs : List D) (off sz : Nat) (r : List (Nat × Nat)) : aC base cs ((off, sz) :: r) = lbC base cs off sz r cs[off]? := by
 simp only[aC,lbC]
 split<;>split<;>simp_all [lbP]
def lvP(H:ab)(id:Nat)(p:List D×ab):Option (D×ab):=some (.tup [],H.set id (.box p.1)++p.2)
@[go_sem] theorem N6 (H : ab) (id : Nat) (cs : List D) (os : ab) : lvP H id (cs, os) = some (.tup [], H.set id (.box cs) ++ os) := (rfl)
def lvB(H:ab)(id:Nat)(l:List (Nat×Nat)):Option Obj→Option (D×ab)
 | some (.box cs)=>lvP H id (aC H.length cs l)
 | _=>none
@[go_sem] theorem N7 (H : ab) (id : Nat) (l : List (Nat × Nat)) (cs : List D) : lvB H id l (some (.box cs)) = lvP H id (aC H.length cs l) := (rfl)
@[go_sem] theorem zz (H : ab) (id : Nat) (x : Nat × Nat) (r : List (Nat × Nat)) : lA H id (x :: r) = lvB H id (x :: r) H[id]? := by
 simp only[lA,eI]
 generalize H[id]?=o
 rcases o with _ | (cs | _)
 · rfl
 · rfl
 · rfl
section
variable (H : ab)
def klE(n:Nat)(sel new:List Nat)(os:ab)(q:List Nat×ab):Option (List Nat×ab):=some (new++q.1,os++q.2)
@[go_sem] theorem N8 (n : Nat) (sel new : List Nat) (os : ab) (a : List Nat) (b : ab) : klE n sel new os (a, b) = some (new ++ a, os ++ b) := (rfl)
def klD(n:Nat)(sel new:List Nat)(os:ab):Option (List Nat×ab):=(dQ H n (sel++new) (gD H new)).bind (klE n sel new os)
@[go_sem] theorem N9 (n : Nat) (sel new : List Nat) (os : ab) : klD H n sel new os = (dQ H n (sel ++ new) (gD H new)).bind (klE n sel new os) := (rfl)
def jw(sel:List Nat):List Nat→Bool
 | []=>true
 | i::r=> !pL i sel&&jw sel r
@[go_sem] theorem CY (sel : List Nat) : jw sel [] = true := (rfl)
@[go_sem] theorem zA (sel : List Nat) (i : Nat) (r : List Nat) : jw sel (i :: r) = (!pL i sel && jw sel r) := (rfl)
theorem ns(sel l:List Nat):l.all (fun i=> !sel.contains i)=jw sel l:=by
 induction l with
 | nil=>rfl
 | cons i r ih=>rw[List.all_cons,ih,ma];rfl
def klC(n:Nat)(sel new:List Nat)(os:ab):Option (List Nat×ab):=
 (if n=0 then(if(os.flatMap fun o=>o.ds.flatMap (bU H depth)).all (fun i=> !(sel++new).contains i)then aK (bh H) os else none)else some os).bind (klD H n sel new)
def iw:ab→List Nat
 | []=>[]
 | .box cs::r=>gj H 8 cs++iw r
 | .arr _ _ _ es::r=>gj H 8 es++iw r
@[go_sem] theorem CZ : iw H [] = [] := (rfl)
@[go_sem] theorem C0 (cs : List D) (r : ab) : iw H (.box cs :: r) = gj H 8 cs ++ iw H r := (rfl)
@[go_sem] theorem C1 (sz ep : Nat) (pin : Bool) (es : List D) (r : ab) : iw H (.arr sz pin ep es :: r) = gj H 8 es ++ iw H r := (rfl)
theorem sI(os:ab):(os.flatMap fun o=>o.ds.flatMap (bU H depth))=iw H os:=by
 induction os with
 | nil=>rfl
 | cons o r ih=>rw[List.flatMap_cons,ih];cases o<;>rfl
@[go_sem] theorem O6 (sel new : List Nat) (os : ab) : klC H 0 sel new os = (if jw (sel ++ new) (iw H os) = true then aK (bh H) os else none).bind (klD H 0 sel new) := by
 simp only[klC,sI,ns,if_true]
@[go_sem] theorem O7 (n : Nat) (sel new : List Nat) (os : ab) : klC H (n + 1) sel new os = klD H (n + 1) sel new os := by
 simp[klC]
def klN(n:Nat)(sel new:List Nat):Option (List Nat×ab):=(pick H new).bind (klC H n sel new)
@[go_sem] theorem Oa (n : Nat) (sel new : List Nat) : klN H n sel new = (pick H new).bind (klC H n sel new) := (rfl)
@[go_sem] theorem JP (sel front : List Nat) : dQ H 0 sel front = some ([], []) := (rfl)
@[go_sem] theorem JQ (n : Nat) (sel front : List Nat) : dQ H (n + 1) sel front = klN H n sel ((bR sel front).drop sel.length) := by
 simp only[dQ,klN]
 generalize (bR sel front).drop sel.length=new
 cases pick H new with
 | none=>rfl
 | some os=>
   simp only[Option.bind_some,klC]
   congr 1
   funext os'
   simp only[klD]
   cases dQ H n (sel++new) (gD H new)<;>rfl
@[go_sem] theorem vk (cs : List D) : bh H (.box cs) = (aK (jR H) cs).map .box := (rfl)
@[go_sem] theorem mb (sz ep : Nat) (pin : Bool) (ts : List T) : bh H (.arr sz pin ep (ts.map .t)) = some (.arr sz pin ep (ts.map .t)) := by
 simp only[bh,iv,Option.map_some]
@[go_sem] theorem vl (sz ep : Nat) (pin : Bool) : bh H (.arr sz pin ep []) = some (.arr sz pin ep []) := (rfl)
@[go_sem] theorem vm (sz ep : Nat) (pin : Bool) (m : Nat) (x : T) : bh H (.arr sz pin ep (List.replicate m (.t x))) = some (.arr sz pin ep (List.replicate m (.t x))) := by
 have:List.replicate m (D.t x)=(List.replicate m x).map .t:=by simp
 rw[this,mb]
def MC(k raw:Nat)(H:ab)(ds rs:List D)(q:List Nat×ab):Option (D×ab):=
 if jw (List.range k++q.1) (cB H raw ds)=true then
  (aK (ren (idxOf (List.range k++q.1)) depth) rs).bind fun rs'=>(aK (b5 (idxOf (List.range k++q.1))) (H.take k++q.2)).map fun hs'=>(jE rs',hs')
 else none
def sJ(sel:List Nat)(H2:ab)(rs':List D):Option (D×ab):=(aK (b5 (idxOf sel)) H2).bind (finT3 rs')
where finT3 (rs':List D) (hs:ab):Option (D×ab):=some (jE rs',hs)
@[go_sem] theorem JR (rs' : List D) (hs : ab) : sJ.finT3 rs' hs = some (jE rs', hs) := (rfl)
@[go_sem] theorem JS (sel : List Nat) (H2 : ab) (rs' : List D) : sJ sel H2 rs' = (aK (b5 (idxOf sel)) H2).bind (sJ.finT3 rs') := (rfl)
@[go_sem] theorem MD (k raw : Nat) (ds rs : List D) (sel : List Nat) (os : ab) : MC k raw H ds rs (sel, os) =
 if jw (List.range k++sel) (cB H raw ds)=true then(aK (ren (idxOf (List.range k++sel)) 8) rs).bind (sJ (List.range k++sel) (H.take k++os))else none:=by
 simp only[MC,depth]
 split
 · cases aK (ren (idxOf (List.range k++sel)) 8) rs with
   | none=>rfl
   | some rs'=>simp only[Option.bind_some,sJ];cases aK (b5 (idxOf (List.range k++sel))) (H.take k++os)<;>rfl
 · rfl
@[go_sem] theorem ME (k raw : Nat) (ds rs : List D) : Jo k raw H ds rs = (dQ H (max raw 1) (List.range k) (lC 8 rs ++ gD H (List.range k))).bind (MC k raw H ds rs) := by
 simp only[Jo,ns,lC,depth];rfl
@[go_sem] theorem C2 (k raw : Nat) (ds rs : List D) : CJ k raw H ds rs false = Jo k raw H ds rs := (rfl)
@[go_sem] theorem C3 (k raw : Nat) (ds : List D) : finish k (raw + 1) H ds = Gr k (raw + 1) H ds ds := by
 simp only[finish,Nat.add_one_ne_zero,if_false,Option.bind_some,dA,pK,Gr,CJ]
 show(if(bL k 8 ds&&bA k (H.take k))=true then _ else _)=_
 cases (bL k 8 ds&&bA k (H.take k))<;>rfl
@[go_sem] theorem zB (raw : Nat) (ds : List D) : cB H (raw + 1) ds = [] := by simp [cB]
@[go_sem] theorem JT : max 0 1 = 1 := (rfl)
@[go_sem] theorem MF (r : Nat) : max (r + 1) 1 = r + 1 := by omega
@[go_sem] theorem C4 : List.range 0 = [] := (rfl)
@[go_sem] theorem C5 : List.range 1 = [0] := (rfl)
@[go_sem] theorem C6 : List.range 2 = [0, 1] := (rfl)
@[go_sem] theorem C7 : List.range 3 = [0, 1, 2] := (rfl)
@[go_sem] theorem C8 : List.range 4 = [0, 1, 2, 3] := (rfl)
end
theorem pN{α:Type}(f:α→T)(l:List α)(i:Nat)(x:α)(y:D)(h:y= .t (f x)):((l.map f).map D.t).set i y=((l.set i x).map f).map D.t:=by
 rw[h,List.map_map,List.map_map]
 exact(List.map_set (f:=D.t ∘ f)).symm
@[go_sem] theorem MG (l : List Int) (i : Nat) (k : IntKind) (x : Int) : ((l.map (T.int k)).map D.t).set i (.t (.int k x)) = ((l.set i x).map (T.int k)).map D.t := pN _ l i x _ rfl
@[go_sem] theorem JU (l : List Bool) (i : Nat) (x : Bool) : ((l.map T.bool).map D.t).set i (.t (.bool x)) = ((l.set i x).map T.bool).map D.t := pN _ l i x _ rfl
end Go.Ev
namespace Go.Ev
class Lib where
 fs:Nat→Option Fn
end Go.Ev
namespace Go.Ev.K
abbrev u(x:O):R:={ o:=x}
abbrev w(n:Nat)(x:O):R:={ o:=x,d:=some n}
abbrev y(n:Nat)(b:Bool)(x:O):R:={ o:=x,g:=some (n,b)}
abbrev m(x:X):R:={ o:= .mv x}
abbrev g(x:X):R:={ o:= .ld x 1 false}
abbrev h(n:Nat)(x:X):R:={ o:= .ld x n true}
abbrev f(n:Nat)(x:X):R:={ o:= .fa x n}
abbrev a(n:Nat)(x z:X):R:={ o:= .ia x z n}
abbrev l0:X:= .l 0
abbrev l1:X:= .l 1
abbrev l2:X:= .l 2
abbrev l3:X:= .l 3
abbrev l4:X:= .l 4
abbrev l5:X:= .l 5
abbrev l6:X:= .l 6
abbrev l7:X:= .l 7
abbrev l8:X:= .l 8
abbrev l9:X:= .l 9
abbrev l10:X:= .l 10
abbrev l11:X:= .l 11
abbrev v0:X:= .v 0
abbrev v1:X:= .v 1
abbrev v2:X:= .v 2
abbrev v3:X:= .v 3
abbrev v4:X:= .v 4
abbrev v5:X:= .v 5
abbrev v6:X:= .v 6
abbrev v7:X:= .v 7
abbrev v8:X:= .v 8
abbrev v9:X:= .v 9
abbrev v10:X:= .v 10
abbrev v11:X:= .v 11
abbrev v12:X:= .v 12
abbrev v13:X:= .v 13
abbrev v14:X:= .v 14
abbrev v15:X:= .v 15
abbrev v16:X:= .v 16
abbrev v17:X:= .v 17
abbrev v18:X:= .v 18
abbrev v19:X:= .v 19
abbrev v20:X:= .v 20
abbrev v21:X:= .v 21
abbrev v22:X:= .v 22
abbrev v23:X:= .v 23
end Go.Ev.K
namespace Go.Ev.N
def oM:Nat:=0
def bV:Nat:=1
def zC:Nat:=2
def cA:Nat:=3
def tP:Nat:=4
def C9:Nat:=5
def q0:Nat:=6
def sK:Nat:=7
def q6:Nat:=8
def ax:Nat:=9
def aS:Nat:=10
def qz:Nat:=11
def GL:Nat:=12
def tQ:Nat:=13
def sL:Nat:=14
def vn:Nat:=15
def tR:Nat:=16
def zD:Nat:=17
def wV:Nat:=18
def zE:Nat:=19
def tS:Nat:=20
def GM:Nat:=21
def wW:Nat:=22
def bI:Nat:=23
def wX:Nat:=24
def sM:Nat:=25
def tT:Nat:=26
def tU:Nat:=27
def zF:Nat:=28
def zG:Nat:=29
def GN:Nat:=30
def zH:Nat:=31
def Da:Nat:=32
def zI:Nat:=33
def wY:Nat:=34
def wZ:Nat:=35
def zJ:Nat:=36
def Db:Nat:=37
def zK:Nat:=38
def sN:Nat:=39
def Dc:Nat:=40
def zL:Nat:=41
def Dd:Nat:=42
def zM:Nat:=43
def w4:Nat:=44
def GO:Nat:=45
def w5:Nat:=46
def zN:Nat:=47
def tV:Nat:=48
def aj:Nat:=49
def qA:Nat:=50
def mc:Nat:=51
def q7:Nat:=52
def tW:Nat:=53
def De:Nat:=54
def Df:Nat:=55
def w6:Nat:=56
def zO:Nat:=57
def zP:Nat:=58
def Dg:Nat:=59
def zQ:Nat:=60
def Dh:Nat:=61
def aL:Nat:=62
def Di:Nat:=63
def zR:Nat:=64
def zS:Nat:=65
def av:Nat:=66
def nQ:Nat:=67
def q8:Nat:=68
def fD:Nat:=69
def pO:Nat:=70
def bQ:Nat:=71
def zT:Nat:=72
def zU:Nat:=73
def Dj:Nat:=74
def gz:Nat:=75
def w7:Nat:=76
def Dk:Nat:=77
end Go.Ev.N
namespace Go.Ev.K
open Go.Ev
def bV:Fn:={ nargs:=1,vars:=[0,2],body:=(.seq (.reg [w 1 (.mv (.b false))] []) (.seq (.reg [m v0,u (.ln l0),u (.bin .leq l0 (.i 400)),w 1 (.mv l0)] []) .ret)),res:=[(1,none)]}
def cA:Fn:={ nargs:=1,vars:=[0,2],body:=(.seq (.reg [w 1 (.mv (.c (.nilp)))] []) (.seq (.reg [m v0,u (.bd [.nil,.t (.int .i64 (0))] [(0,1,.l 0)]),u (.bx l0 2),w 1 (.mv l0)] []) .ret)),res:=[(1,none)]}
def ax:Fn:={ nargs:=2,vars:=[0,1,4],body:=(.seq (.reg [w 2 (.mv (.i 0))] []) (.seq (.ite [m v0,u (.nc l0),f 1 l0,g l0,m v0,u (.nc l0),f 0 l0,g l0,u (.ln l0),u (.bin .geq l5 l0)] [] 0 (.seq (.reg [w 2 (.mv (.i 0))] []) .ret) .skip) (.seq (.reg [m v0,u (.nc l0),f 1 l0,g l0,u (.bin .add l0 (.i 1)),u (.nc l4),f 1 l0,u (.st l0 l2 1 [])] []) (.seq (.reg [m v0,u (.nc l0),f 0 l0,g l0,m v0,u (.nc l0),f 1 l0,g l0,u (.bin .sub l0 (.i 1)),a 1 l5 l0,g l0,m v1,u (.ca N.bI 0 [] [.l 1,.l 0]),w 2 (.mv l0)] []) .ret)))),res:=[(2,none)]}
def aS:Fn:={ nargs:=2,vars:=[0,1,4],body:=(.seq (.reg [w 2 (.mv (.i 0))] []) (.seq (.reg [m v1,m v0,m v1,u (.ln l0),u (.ca N.ax 0 [] [.l 2,.l 0]),a 1 l4 l0,g l0,w 2 (.mv l0)] []) .ret)),res:=[(2,none)]}
def bI:Fn:={ nargs:=2,vars:=[0,1,4],body:=(.seq (.reg [w 2 (.mv (.i 0))] []) (.seq (.ite [m v1,u (.bin .lss l0 (.i 1))] [] 0 (.seq (.reg [w 2 (.mv (.i 0))] []) .ret) .skip) (.seq (.reg [m v0,m v1,u (.bin .rem l1 l0),w 0 (.mv l0)] []) (.seq (.ite [m v0,u (.bin .lss l0 (.i 0))] [] 0 (.reg [m v0,m v1,u (.bin .add l1 l0),w 0 (.mv l0)] []) .skip) (.seq (.reg [m v0,w 2 (.mv l0)] []) .ret))))),res:=[(2,none)]}
end Go.Ev.K
namespace Go.Ev
class dX [Lib]:Prop where
 fE:Lib.fs N.bV=some K.bV
 gO:Lib.fs N.cA=some K.cA
 dg:Lib.fs N.ax=some K.ax
 dY:Lib.fs N.aS=some K.aS
 i9:Lib.fs N.bI=some K.bI
namespace K
variable [Lib] [dX]
theorem fE:Lib.fs N.bV=some K.bV:=dX.fE
theorem gO:Lib.fs N.cA=some K.cA:=dX.gO
theorem dg:Lib.fs N.ax=some K.ax:=dX.dg
theorem dY:Lib.fs N.aS=some K.aS:=dX.dY
theorem i9:Lib.fs N.bI=some K.bI:=dX.i9
end K
end Go.Ev
namespace Go.Ev.K
open Go.Ev
def aj:Fn:={ nargs:=2,vars:=[0,1,4],body:=(.seq (.reg [w 2 (.mv (.b false))] []) (.seq (.reg [m v0,m v1,u (.ca N.av 0 [] [.l 1,.l 0]),u (.bin .geq l0 (.i 0)),w 2 (.mv l0)] []) .ret)),res:=[(2,none)]}
def bY:C:=(.seq (.ite [m v3,m v0,u (.ln l0),u (.bin .lss l2 l0)] [] 0 .skip (.exit 0)) (.seq (.blk 1 (.ite [m v0,m v3,a 1 l1 l0,g l0,m v1,m v3,a 1 l1 l0,g l0,u (.bin .neq l4 l0)] [] 0 (.seq (.reg [w 2 (.mv (.b false))] []) .ret) .skip)) (.reg [m v3,u (.bin .add l0 (.i 1)),w 3 (.mv l0)] [])))
def ew:C:= .loop true [2] K.bY
def aL:Fn:={ nargs:=2,vars:=[0,1,4,5],body:=(.seq (.reg [w 2 (.mv (.b false))] []) (.seq (.ite [m v0,u (.ln l0),m v1,u (.ln l0),u (.bin .neq l2 l0)] [] 0 (.seq (.reg [w 2 (.mv (.b false))] []) .ret) .skip) (.seq (.seq (.reg [w 3 (.mv (.i 0))] []) (.blk 0 K.ew)) (.seq (.reg [w 2 (.mv (.b true))] []) .ret)))),res:=[(2,none)]}
def dw:C:=(.its [u (.bin .lss v5 v4)] [] 0 .skip (.exit 0) (.seq (.blk 1 (.seq (.reg [m v5,w 3 (.mv l0)] []) (.ite [m v1,m v0,m v3,a 1 l1 l0,g l0,u (.cw l4 0 [] [.l 0])] [] 0 (.seq (.reg [m v3,w 2 (.mv l0)] []) .ret) .skip))) (.reg [u (.bin .add v5 (.i 1)),w 5 (.mv l0)] [])))
def dF:C:= .loop true [2,3] K.dw
def av:Fn:={ nargs:=2,vars:=[0,1,4,5,7,8],body:=(.seq (.reg [w 2 (.mv (.i 0))] []) (.seq (.seq (.reg [m v0,w 4 (.ln l0),w 5 (.mv (.i 0))] []) (.blk 0 K.dF)) (.seq (.reg [w 2 (.mv (.i (-1)))] []) .ret))),res:=[(2,none)]}
def bQ:Fn:={ nargs:=3,vars:=[0,1,2,6],body:=(.seq (.reg [w 3 (.mv (.b false))] []) (.seq (.reg [m v0,m v1,u (.bin .geq l1 l0),m l0,y 0 true (.mv v0),y 1 true (.mv v2),y 2 true (.bin .leq l1 l0),u (.pk l3 l0 (.b false)),w 3 (.mv l0)] []) .ret)),res:=[(3,none)]}
end Go.Ev.K
namespace Go.Ev
class eg [Lib]:Prop where
 bS:Lib.fs N.aj=some K.aj
 dh:Lib.fs N.aL=some K.aL
 cm:Lib.fs N.av=some K.av
 ja:Lib.fs N.bQ=some K.bQ
namespace K
variable [Lib] [eg]
theorem bS:Lib.fs N.aj=some K.aj:=eg.bS
theorem dh:Lib.fs N.aL=some K.aL:=eg.dh
theorem cm:Lib.fs N.av=some K.av:=eg.cm
theorem ja:Lib.fs N.bQ=some K.bQ:=eg.ja
end K
end Go.Ev
namespace Go.Ev
open Go
variable [Lib]
noncomputable def bW:ah:=dL Lib.fs
theorem aV{raw f:Nat}{args:List D}{H:ab}{fn:Fn}{r:D×ab}(hf:Lib.fs f=some fn)(hn:fn.nargs=args.length)
 (h:(exS bW fn.body ⟨gu args fn.vars,H⟩).bind (Ig fn.res H.length raw)=some r) (h0:fn.prim=[]:=by rfl):bW raw f args H=some r:=yJ hf hn h h0
theorem dZ{gc:Bool}{dead:List Nat}{c:C}{vs:List D}{H:ab}(s:Nat→St)(n:Nat){e:Ex}{st:St}
 (h0:(⟨cO dead vs,H⟩:St)=s 0) (h:∀j,j<n→fj gc dead (s j).H.length (exS bW c (s j))=some (s (j+1)))
 (he:exS bW c (s n)=some (e,st)) (hn:e≠ .normal):exS bW (.loop gc dead c) ⟨vs,H⟩=some (e,st):=by
 show fA gc dead (exS bW c) ⟨cO dead vs,H⟩=_
 rw[h0]
 exact lZ s n h (et he hn)
class Dat (α:Type) where
 dflt:α
instance : Dat Int := ⟨0⟩
instance : Dat Nat := ⟨0⟩
instance : Dat Bool := ⟨false⟩
instance {α : Type} : Dat (List α) := ⟨[]⟩
def nth{α:Type} [Dat α](l:List α)(j:Nat):α:=l.getD j Dat.dflt
theorem jP{α:Type} [Dat α]{l:List α}{j:Nat}(h:j<l.length):l[j]?=some (nth l j):=by simp[nth,h]
theorem cV{α β:Type} [Dat α](f:α→β){l:List α}{j:Nat}(h:j<l.length):(l.map f)[j]?=some (f (nth l j)):=by rw[List.getElem?_map,jP h];rfl
theorem vo{α β γ:Type} [Dat α](f:β→γ)(g:α→β){l:List α}{j:Nat}(h:j<l.length):((l.map g).map f)[j]?=some (f (g (nth l j))):=by rw[List.getElem?_map,cV g h];rfl
theorem eU{α:Type} [Dat α]{l:List α}{j:Nat}(h:j<l.length):nth l j∈l:=List.mem_of_getElem? (jP h)
theorem pP{α:Type} [Dat α]{l:List α}{j:Nat}{x:α}(h:l[j]?=some x):nth l j=x:=by simp[nth,h]
theorem me{α:Type} [Dat α]{l:List α}{j:Nat}(h:j<l.length):l.take (j+1)=l.take j++[nth l j]:=by
 rw[List.take_succ_eq_append_getElem h];simp[nth,h]
theorem MH{a b:Int}(h:a<b):(a<b)=True:=by simp[h]
theorem MI{a b:Int}(h:b≤a):(a<b)=False:=by simp[Int.not_lt.2 h]
theorem MJ{a b:Int}(h:a≤b):(a≤b)=True:=by simp[h]
theorem MK{a b:Int}(h:b<a):(a≤b)=False:=by simp[Int.not_le.2 h]
theorem ML{a b:Int}(h:a=b):(a=b)=True:=by simp[h]
theorem MM{a b:Int}(h:a≠b):(a=b)=False:=by simp[h]
theorem MN{a b:Nat}(h:a<b):(a<b)=True:=by simp[h]
theorem MO{a b:Nat}(h:b≤a):(a<b)=False:=by simp[Nat.not_lt.2 h]
theorem MP{a b:Nat}(h:a≤b):(a≤b)=True:=by simp[h]
theorem MQ{a b:Nat}(h:b<a):(a≤b)=False:=by simp[Nat.not_le.2 h]
theorem MR{a b:Nat}(h:a=b):(a=b)=True:=by simp[h]
theorem MS{a b:Nat}(h:a≠b):(a=b)=False:=by simp[h]
attribute [go_sem] MR MS MH MI MJ MK ML MM MN MO MP MQ yK cV vo yZ
@[go_sem] theorem Dl (a b : Nat) : ((a + b : Nat) : Int) = (a : Int) + (b : Int) := (rfl)
@[go_sem] theorem Dm : ((1 : Nat) : Int) = 1 := (rfl)
@[go_sem] theorem zV : ((0 : Nat) : Int) = 0 := (rfl)
@[go_sem] theorem GP (a b : Int) : a + b - b = a := Int.add_sub_cancel a b
@[go_sem] theorem xa : (0 : Int).toNat = 0 := (rfl)
@[go_sem] theorem zW (n : Nat) : (n : Int).toNat = n := (rfl)
@[go_sem] theorem zX (n : Nat) : ((n : Int) + 1).toNat = n + 1 := (rfl)
@[go_sem] theorem zY (a : Int) : 0 + a = a := Int.zero_add a
@[go_sem] theorem zZ (a : Int) : a + 0 = a := Int.add_zero a
@[go_sem] theorem z6 (a : Int) : a - 0 = a := Int.sub_zero a
abbrev tI(n:Int):T:= .int .i64 n
abbrev tL(l:List Int):T:= .sl (l.map (.int .i64))
@[go_sem] theorem vq (H : ab) (n : Nat) (ts : List T) (x : T) : aK (frz H n) (ts.map .t ++ [.t x]) = some (ts ++ [x]) := by
 have:ts.map D.t++[.t x]=(ts++[x]).map .t:=by simp
 rw[this,qu]
@[go_sem] theorem xc {α β : Type} (f : α → β) (a b : List α) : (a ++ b).map f = a.map f ++ b.map f := List.map_append
end Go.Ev
namespace Go.Ev
open Go
variable [Lib] [dX] [eg]
theorem lD{gc:Bool}{dead:List Nat}{c:C}{vs:List D}{H:ab}(s:Nat→St)(n:Nat)(p:Nat→Bool)(e:Nat→Ex×St)(eN:Ex×St)
 (h0:(⟨cO dead vs,H⟩:St)=s 0) (hs:∀j,j<n→p j=false→fj gc dead (s j).H.length (exS bW c (s j))=some (s (j+1)))
 (he:∀j,j<n→p j=true→exS bW c (s j)=some (e j)∧(e j).1≠ .normal) (hN:exS bW c (s n)=some eN) (hn:eN.1≠ .normal):
 exS bW (.loop gc dead c) ⟨vs,H⟩=some (match (List.range n).find? p with | some j=>e j | none=>eN):=by
 show fA gc dead (exS bW c) ⟨cO dead vs,H⟩=_
 rw[h0]
 cases hf:(List.range n).find? p with
 | none=>
   refine lZ s n (fun j hj=>hs j hj ?_) (et hN hn)
   have:=List.find?_eq_none.1 hf j (List.mem_range.2 hj)
   simpa using this
 | some k=>
   obtain⟨h1,as,bs,h2,h3⟩:=List.find?_eq_some_iff_append.1 hf
   have hk:k<n:=List.mem_range.1 (List.mem_of_find?_eq_some hf)
   have hlt:∀j,j<k→p j=false:=by
    intro j hj
    have hlen:as.length=k:=by
     have h4:(List.range n)[as.length]?=some k:=by rw[h2];simp
     have h5:as.length<n:=by
      have:=congrArg List.length h2;simp at this;omega
     rw[List.getElem?_range h5]at h4
     exact Option.some.inj h4
    have:j∈as:=by
     have h6:(List.range n)[j]?=some j:=List.getElem?_range (by omega)
     rw[h2,List.getElem?_append_left (by omega)]at h6
     exact List.mem_of_getElem? h6
    simpa using h3 j this
   obtain⟨k1,k2⟩:=he k hk h1
   exact lZ s k (fun j hj=>hs j (by omega) (hlt j hj)) (et k1 k2)
theorem vr{n:Nat}{p:Nat→Bool}:((List.range n).find? p).isSome=(List.range n).any p:=by
 rw[List.isSome_find?]
def vt(m:Nat):List D:=(List.range m).map fun i=> .bp i 0
def dS(bs:List (List T)):ab:=bs.map fun cs=> .box (cs.map .t)
theorem cg(bs:List (List T)):(dS bs).length=bs.length:=by simp[dS]
section
variable (bs : List (List T)) (o o' : Obj)
@[go_sem] theorem vu : (dS bs).length = bs.length := cg bs
@[go_sem] theorem Dn : (dS bs ++ [o])[bs.length]? = some o := by
 rw[List.getElem?_append_right (by rw[cg];exact Nat.le_refl _),cg];simp
@[go_sem] theorem GQ : (dS bs ++ [o]).set bs.length o' = dS bs ++ [o'] := by
 rw[List.set_append_right _ _ (by rw[cg];exact Nat.le_refl _),cg];simp
@[go_sem] theorem Dp : (dS bs ++ [o]).take bs.length = dS bs := by
 rw[List.take_append_of_le_length (by rw[cg];exact Nat.le_refl _),List.take_of_length_le (by rw[cg];exact Nat.le_refl _)]
@[go_sem] theorem z8 : (dS bs ++ [o]).take (bs.length + 1) = dS bs ++ [o] := List.take_of_length_le (by simp [cg])
@[go_sem] theorem Aa : (dS bs).take bs.length = dS bs := List.take_of_length_le (by simp [cg])
@[go_sem] theorem Ab (k : Nat) (a b : ab) : bA k (a ++ b) = (bA k a && bA k b) := by
 rw[← dA,←dA,←dA,List.all_append]
@[go_sem] theorem vv (k : Nat) : bA k (dS bs) = true := by
 induction bs with
 | nil=>rfl
 | cons b r ih=>
   show(bL k 8 (b.map .t)&&bA k (dS r))=true
   rw[pJ,ih];rfl
@[go_sem] theorem JV (n : Nat) : ltB n (n + 1) = true := by rw [eT]; simp
@[go_sem] theorem JW (n : Nat) : ltB n n = false := by rw [eT]; simp
theorem jx(k n m:Nat)(h:m≤k):bL k n (vt m)=true:=by
 unfold bL vt
 rw[List.all_eq_true]
 intro d hd
 obtain⟨i,hi,rfl⟩:=List.mem_map.1 hd
 rw[Gj,eT]
 have:=List.mem_range.1 hi
 simp;omega
@[go_sem] theorem Ac (n m : Nat) : bL m n (vt m) = true := jx _ _ _ (Nat.le_refl _)
@[go_sem] theorem xd (n m : Nat) : bL (m + 1) n (vt m) = true := jx _ _ _ (Nat.le_succ _)
end
end Go.Ev
namespace Go.Ev
open Go
variable [Lib] [dX] [eg]
theorem c8{α:Type}(sz:Nat)(f:α→T)(h:∀a,dV sz (f a).cells=true):∀l:List α,aG sz (l.map f)=true
 | []=>rfl
 | a::l=>by rw[List.map_cons,iu,h,c8 sz f h l];rfl
@[go_sem] theorem xe (k : IntKind) (l : List Int) : aG 1 (l.map (.int k)) = true := c8 1 _ (fun _ => rfl) l
theorem iy(sz:Nat):∀ts:List T,(ts.all fun e=>e.cells.length==sz)=aG sz ts
 | []=>rfl
 | t::ts=>by
   rw[List.all_cons,iu,iy sz ts]
   congr 1
   rw[Bool.eq_iff_iff,bD];simp
section
variable (H : ab) (sz : Nat) (ts : List T) (i j : Int)
@[go_sem] theorem MT : nh H sz (some (.t (.sl ts))) (some none) (some (some i)) = if 0 ≤ i then (if i ≤ ts.length then (if aG sz ts = true then some (.t (.sl (ts.take i.toNat)), H) else none) else none) else none := by
 simp only[nh,Option.bind_some,dP,bound,iy,idx]
 by_cases h1:0≤i
 · rw[if_pos h1,if_pos h1,Option.bind_some]
   by_cases h2:i≤ts.length
   · rw[if_pos h2]
     by_cases h3:aG sz ts=true
     · rw[if_pos h3,if_pos ⟨by omega,by omega,h3⟩];rfl
     · rw[if_neg h3,if_neg fun h=>h3 h.2.2];rfl
   · rw[if_neg h2,if_neg fun h=>h2 (by omega)];rfl
 · rw[if_neg h1,if_neg h1];rfl
@[go_sem] theorem MU : nh H sz (some (.t (.sl ts))) (some (some i)) (some none) = if 0 ≤ i then (if i ≤ ts.length then (if aG sz ts = true then some (.t (.sl (ts.drop i.toNat)), H) else none) else none) else none := by
 simp only[nh,Option.bind_some,dP,bound,iy,idx]
 by_cases h1:0≤i
 · rw[if_pos h1,if_pos h1,Option.bind_some]
   by_cases h2:i≤ts.length
   · rw[if_pos h2]
     by_cases h3:aG sz ts=true
     · rw[if_pos h3,if_pos ⟨by omega,by omega,h3⟩,List.take_of_length_le (by simp)];rfl
     · rw[if_neg h3,if_neg fun h=>h3 h.2.2];rfl
   · rw[if_neg h2,if_neg fun h=>h2 (by omega)];rfl
 · rw[if_neg h1,if_neg h1];rfl
@[go_sem] theorem GR : nh H sz (some (.t (.sl ts))) (some (some i)) (some (some j)) = if 0 ≤ i then (if i ≤ j then (if j ≤ ts.length then (if aG sz ts = true then some (.t (.sl ((ts.drop i.toNat).take (j.toNat - i.toNat))), H) else none) else none) else none) else none := by
 simp only[nh,Option.bind_some,dP,bound,iy,idx]
 by_cases h1:0≤i
 · rw[if_pos h1,if_pos h1,Option.bind_some]
   by_cases h0:i≤j
   · rw[if_pos h0,if_pos (by omega:0≤j),Option.bind_some]
     by_cases h2:j≤ts.length
     · rw[if_pos h2]
       by_cases h3:aG sz ts=true
       · rw[if_pos h3,if_pos ⟨by omega,by omega,h3⟩];rfl
       · rw[if_neg h3,if_neg fun h=>h3 h.2.2];rfl
     · rw[if_neg h2,if_neg fun h=>h2 (by omega)];rfl
   · rw[if_neg h0]
     by_cases h2:0≤j
     · rw[if_pos h2,Option.bind_some,if_neg fun h=>h0 (by omega)];rfl
     · rw[if_neg h2];rfl
 · rw[if_neg h1,if_neg h1];rfl
end
def bsK(H:ab)(l:List Nat):Option T→Option (D×ab)
 | some t=>some (.t (.sl [t]),pins H l)
 | none=>none
@[go_sem] theorem JX (H : ab) (l : List Nat) (t : T) : bsK H l (some t) = some (.t (.sl [t]), pins H l) := (rfl)
@[go_sem] theorem JY (H : ab) (sz : Nat) (cs : List D) : lB H sz [.agg cs] = if dV sz cs = true then bsK H (bU H 8 (.agg cs)) (frz H 8 (.agg cs)) else none := by
 simp only[lB,List.all_cons,List.all_nil,Bool.and_true,D.cells]
 by_cases h:dV sz cs=true
 · rw[if_pos h,if_pos (by simpa using bD.1 h)]
   simp only[aK,depth,List.flatMap_cons,List.flatMap_nil,List.append_nil]
   cases frz H 8 (.agg cs)<;>rfl
 · rw[if_neg h,if_neg (by intro e;exact h (bD.2 (by simpa using e)))]
@[go_sem] theorem JZ (H : ab) (id ep n : Nat) : lB H 1 [.ref id ep n] = bsK H (bU H 8 (.ref id ep n)) (frz H 8 (.ref id ep n)) := by
 simp only[lB,List.all_cons,List.all_nil,Bool.and_true,D.cells,List.length_cons,List.length_nil,beq_self_eq_true,if_true,aK,depth,List.flatMap_cons,List.flatMap_nil,List.append_nil]
 cases frz H 8 (.ref id ep n)<;>rfl
def Ad(H:ab)(r:D)(os:ab):D×ab:=(r,H++os)
@[go_sem] theorem J0 (H : ab) (r : D) (os : ab) : Ad H r os = (r, H ++ os) := (rfl)
def GS(H:ab)(os:ab)(r:D):Option (D×ab):=(aK (b5 (bl [] H.length)) os).map (Ad H r)
@[go_sem] theorem J1 (H : ab) (os : ab) (r : D) : GS H os r = (aK (b5 (bl [] H.length)) os).map (Ad H r) := (rfl)
@[go_sem] theorem GU (H : ab) (r : D) (o : Obj) (os : ab) : kD H (r, o :: os) = (ren (bl [] H.length) 8 r).bind (GS H (o :: os)) := by
 simp only[kD,List.isEmpty_cons,Bool.and_false,Bool.false_eq_true,if_false]
 rfl
end Go.Ev
namespace Go.Ev
open Go
variable [Lib] [dX] [eg]
@[go_sem] theorem MV (H : ab) (a b : List T) : lB H 1 [.t (.sl a), .t (.sl b), .nil] = some (.t (.sl [.sl a, .sl b, .sl []]), H) := by
 simp only[lB,List.all_cons,List.all_nil,D.cells,T.cells,List.map_cons,List.map_nil,List.length_cons,List.length_nil,aK,frz,depth,bU,List.flatMap_cons,List.flatMap_nil,pins]
 rfl
def vw(c:Bool):Option Bool→Option Bool
 | some d=>some (c&&d)
 | none=>none
@[go_sem] theorem Dq (c d : Bool) : vw c (some d) = some (c && d) := (rfl)
@[go_sem] theorem Dr : dm [] [] = some true := (rfl)
@[go_sem] theorem Ae (k : IntKind) (a b : Int) (xs ys : List T) : dm (.int k a :: xs) (.int k b :: ys) = vw (decide (a = b)) (dm xs ys) := by
 simp only[dm,if_true,Fc]
 cases dm xs ys<;>rfl
def vz(H:ab)(neg:Bool):Option Bool→Option (D×ab)
 | some r=>some (.t (.bool (bif neg then !r else r)),H)
 | none=>none
@[go_sem] theorem Dt (H : ab) (r : Bool) : vz H true (some r) = some (.t (.bool (!r)), H) := (rfl)
@[go_sem] theorem Af (H : ab) (r : Bool) : vz H false (some r) = some (.t (.bool r), H) := (rfl)
@[go_sem] theorem Ag (H : ab) (n : Nat) (neg : Bool) (xs ys : List T) : gg H (.ints n) neg (some (.t (.agg xs))) (some (.t (.agg ys))) = if xs.length = n then vz H neg (dm xs ys) else none := by
 simp only[gg,Option.bind_some,wy,eqD]
 by_cases h:xs.length=n
 · simp only[if_pos h]
   cases dm xs ys with
   | none=>rfl
   | some r=>cases neg<;>rfl
 · simp only[if_neg h];rfl
@[go_sem] theorem Du : ((2 : Nat) : Int) = 2 := (rfl)
@[go_sem] theorem xf : ((3 : Nat) : Int) = 3 := (rfl)
def lE(n:Nat)(p:Nat→Bool):Nat:=((List.range n).find? p).getD 0
theorem nu{gc:Bool}{dead:List Nat}{c:C}{vs:List D}{H:ab}(s:Nat→St)(n:Nat)(p:Nat→Bool)(e:Nat→Ex×St)(eN:Ex×St)
 (h0:(⟨cO dead vs,H⟩:St)=s 0)
 (hs:∀j,j<n→p j=false→fj gc dead (s j).H.length (exS bW c (s j))=some (s (j+1)))
 (he:∀j,j<n→p j=true→exS bW c (s j)=some (e j)∧(e j).1≠ .normal)
 (hN:exS bW c (s n)=some eN) (hn:eN.1≠ .normal):
 exS bW (.loop gc dead c) ⟨vs,H⟩=some (if(List.range n).any p=true then e (lE n p)else eN):=by
 rw[lD s n p e eN h0 hs he hN hn,←vr]
 unfold lE
 cases hf:(List.range n).find? p with
 | none=>simp
 | some k=>simp
@[go_sem] theorem GV : cG [] [] [] = some true := (rfl)
@[go_sem] theorem GW (ks : List Bool) (k : IntKind) (a b : Int) (xs ys : List T) : cG (true :: ks) (.int k a :: xs) (.int k b :: ys) = vw (decide (a = b)) (cG ks xs ys) := by
 simp only[cG,if_true,Fc]
 cases cG ks xs ys<;>rfl
@[go_sem] theorem Dv (ks : List Bool) (a b : Bool) (xs ys : List T) : cG (false :: ks) (.bool a :: xs) (.bool b :: ys) = vw (decide (a = b)) (cG ks xs ys) := by
 simp only[cG,show(a==b)=decide (a=b)from rfl]
 cases cG ks xs ys<;>rfl
@[go_sem] theorem J2 (H : ab) (ks : List Bool) (neg : Bool) (xs ys : List T) : gg H (.sc ks) neg (some (.t (.agg xs))) (some (.t (.agg ys))) = vz H neg (cG ks xs ys) := by
 simp only[gg,Option.bind_some,wy,eqD]
 cases cG ks xs ys with
 | none=>rfl
 | some r=>cases neg<;>rfl
def Mod(n m:Int):Int:=if m<1 then 0 else if n.tmod m<0 then n.tmod m+m else n.tmod m
theorem nv(n m:Int):0≤Mod n m:=by
 unfold Mod
 split
 · omega
 · have h5:=Int.lt_tmod_of_pos n (b:=m) (by omega)
   split<;>omega
theorem ny(n m:Int)(h:1≤m):Mod n m<m:=by
 unfold Mod
 rw[if_neg (by omega)]
 have h3:=Int.tmod_lt_of_pos n (b:=m) (by omega)
 split<;>omega
theorem nz(n m:Int)(hm:m≤4611686018427387904):bW 0 N.bI [I n,I m] []=some (I (Mod n m),[]):=by
 refine aV K.i9 rfl ?_
 unfold Mod
 by_cases h1:m<1
 · simp only[go_sem,K.bI,h1,↓reduceIte]
 · have h2:m≠0:=by omega
   have h3:=Int.tmod_lt_of_pos n (b:=m) (by omega)
   have h5:=Int.lt_tmod_of_pos n (b:=m) (by omega)
   by_cases h4:n.tmod m<0
   · simp (disch:=omega) only[go_sem,K.bI,h1,↓reduceIte,h2,h4]
   · simp (disch:=omega) only[go_sem,K.bI,h1,↓reduceIte,h2,h4]
theorem vA(l:List Int):bW 0 N.bV [.t (tL l)] []=some (B (decide (l.length≤400)),[]):=by
 refine aV K.fE rfl ?_
 simp (disch:=omega) only[go_sem,K.bV,↓reduceIte]
 simp only[show((l.length:Int)≤400)=(l.length≤400)by rw[eq_iff_iff];omega]
structure bc where
 L:List Int
 at_:Nat
def bc.obj(d:bc):Obj:= .box [.t (tL d.L),I d.at_]
def bc.eV(d:bc):Prop:=d.L.length≤400
def bc.next(d:bc)(n:Int):Int×bc:=if d.at_<d.L.length then(Mod (nth d.L d.at_) n,⟨d.L,d.at_+1⟩)else(0,d)
theorem bc.GX(d:bc)(n:Int):(d.next n).2.L=d.L:=by unfold bc.next;split<;>rfl
theorem bc.lF{d:bc}(h:d.eV)(n:Int):(d.next n).2.eV:=by unfold bc.eV;rw[d.GX];exact h
theorem bc.oN(d:bc)(n:Int):0≤(d.next n).1:=by unfold bc.next;split<;>simp[nv]
theorem bc.oO(d:bc){n:Int}(h:1≤n):(d.next n).1<n:=by unfold bc.next;split<;>simp[ny _ _ h];omega
theorem sO(d:bc)(n:Int)(hn:n≤4611686018427387904)(hd:d.eV):bW 0 N.ax [.bp 0 0,I n] [d.obj]=some (I (d.next n).1,[(d.next n).2.obj]):=by
 refine aV K.dg rfl ?_
 have hm:=nz (nth d.L d.at_) n hn
 unfold bc.eV at hd
 unfold bc.next bc.obj
 by_cases h1:d.at_<d.L.length
 · simp (disch:=omega) only[go_sem,K.ax,↓reduceIte,↓if_pos,↓if_neg,Int.add_sub_cancel,hm,Int.natCast_add]
 · simp (disch:=omega) only[go_sem,K.ax,↓reduceIte,↓if_pos,↓if_neg]
@[go_sem] theorem J3 (d : bc) : pM (some d.obj) = [] := by simp only [bc.obj, go_sem]
@[go_sem] theorem J4 (f : Nat → Option Nat) (d : bc) : b5 f d.obj = some d.obj := by simp only [bc.obj, go_sem]
@[go_sem] theorem J5 (k : Nat) (d : bc) (r : ab) : bA k (d.obj :: r) = bA k r := by simp only [bc.obj, go_sem]
def bc.one(d:bc)(n:Int):Bool×bc:=(decide ((d.next n).1=n-1),(d.next n).2)
def bc.of(d:bc)(l:List Int):Int×bc:=(nth l (d.next l.length).1.toNat,(d.next l.length).2)
theorem bc.vB{d:bc}(h:d.eV)(l:List Int):(d.of l).2.eV:=bc.lF h _
theorem bc.GY(d:bc){l:List Int}(h:l≠[]):(d.of l).1∈l:=by
 unfold bc.of
 have hl:0<l.length:=List.length_pos_iff.2 h
 have:=d.oN l.length
 have:=d.oO (n:=l.length) (by omega)
 exact eU (by omega)
theorem MW(d:bc)(l:List Int)(hl:l≠[])(hl2:l.length≤4294967296)(hd:d.eV):bW 0 N.aS [.bp 0 0,.t (tL l)] [d.obj]=some (I (d.of l).1,[(d.of l).2.obj]):=by
 refine aV K.dY rfl ?_
 have hm:=sO d l.length (by omega) hd
 have h0:0<l.length:=List.length_pos_iff.2 hl
 have h1:=d.oN l.length
 have h2:=d.oO (n:=l.length) (by omega)
 unfold bc.of
 simp (disch:=omega) only[go_sem,K.aS,↓reduceIte,hm]
structure Place where
 h:Int
 surf:Bool
instance : Dat Place := ⟨⟨0, false⟩⟩
abbrev Place.e(p:Place):T:= .agg [tI p.h,.bool p.surf]
structure Road where
 frm:Int
 to:Int
 len:Int
 area:Int
 walk:Bool
 closed:Bool
 restL:Int
 restH:Int
 liftL:Int
 liftH:Int
instance : Dat Road := ⟨⟨0, 0, 0, 0, false, false, 0, 0, 0, 0⟩⟩
abbrev Road.e(r:Road):T:= .agg [tI r.frm,tI r.to,tI r.len,tI r.area,.bool r.walk,.bool r.closed,tI r.restL,tI r.restH,tI r.liftL,tI r.liftH]
structure tX where
 places:List Place
 roads:List Road
instance : Dat tX := ⟨⟨[], []⟩⟩
abbrev tX.e(m:tX):T:= .agg [.sl (m.places.map Place.e),.sl (m.roads.map Road.e)]
structure Road.ok(n:Nat)(r:Road):Prop where
 f0:0≤r.frm
 f1:r.frm<n
 t0:0≤r.to
 t1:r.to<n
 ne:r.frm≠r.to
 l0:1≤r.len
 l1:r.len≤100000
 a0:1≤r.area
 a1:r.area≤1000
 r0:1≤r.restL
 r1:r.restL≤r.restH
 r2:r.restH≤262144
 i0: -2199023255552≤r.liftL
 i1:r.liftL≤r.liftH
 i2:r.liftH≤2199023255552
structure tX.ok(m:tX):Prop where
 np:m.places.length≤64
 nr:m.roads.length≤128
 hs:∀p∈m.places, -10000≤p.h∧p.h≤10000
 rs:∀r∈m.roads,r.ok m.places.length
theorem Ah(a b:List Int)(hl:a.length≤4294967296):bW 0 N.aL [.t (tL a),.t (tL b)] []=some (B (decide (a=b)),[]):=by
 refine aV K.dh rfl ?_
 by_cases hlen:a.length=b.length
 · have loop:∀c:D,exS bW K.ew ⟨[.t (tL a),.t (tL b),c,I 0],[]⟩=
    some (match (List.range a.length).find? (fun j=>decide (nth a j≠nth b j))with
     | some j=>(.ret,⟨[.t (tL a),.t (tL b),B false,I j],[]⟩)
     | none=>(.exit 0,⟨[.t (tL a),.t (tL b),.und,I a.length],[]⟩)):=by
    intro c
    refine lD (fun j=>⟨[.t (tL a),.t (tL b),.und,I j],[]⟩) a.length (fun j=>decide (nth a j≠nth b j)) _ _ rfl ?_ ?_ ?_ (by simp)
    · intro j hj hp
      have hp:nth a j=nth b j:=by simpa using hp
      simp (disch:=omega) only[go_sem,K.bY,↓reduceIte]
    · intro j hj hp
      have hp:nth a j≠nth b j:=by simpa using hp
      simp (disch:=omega) only[go_sem,K.bY,↓reduceIte]
      simp
    · simp (disch:=omega) only[go_sem,K.bY,↓reduceIte]
   have e:(a=b)↔(List.range a.length).find? (fun j=>decide (nth a j≠nth b j))=none:=by
    rw[List.find?_eq_none]
    constructor
    · intro h j _;simp[h]
    · intro h
      apply List.ext_getElem?
      intro j
      by_cases hj:j<a.length
      · rw[jP hj,jP (by omega)]
        have:=h j (List.mem_range.2 hj)
        simpa using this
      · rw[List.getElem?_eq_none (by omega),List.getElem?_eq_none (by omega)]
   simp (disch:=omega) only[go_sem,K.aL,↓reduceIte,loop]
   cases hf:(List.range a.length).find? (fun j=>decide (nth a j≠nth b j))with
   | some j=>rw[hf]at e;simp (disch:=omega) only[go_sem,↓reduceIte,e];simp
   | none=>rw[hf]at e;simp (disch:=omega) only[go_sem,↓reduceIte,e]
 · have hne:a≠b:=fun h=>hlen (by rw[h])
   simp (disch:=omega) only[go_sem,K.aL,↓reduceIte,hne]
theorem vC(x lo hi:Int):bW 0 N.bQ [I x,I lo,I hi] []=some (B (decide (lo≤x∧x≤hi)),[]):=by
 refine aV K.ja rfl ?_
 by_cases h1:lo≤x<;>by_cases h2:x≤hi<;>simp (disch:=omega) only[go_sem,K.bQ,↓reduceIte]
def GZ(into:Option (List Int)):D:=match into with
 | none=> .nil
 | some l=> .t (tL l)
def Road.src(r:Road)(back:Bool):Int:=if back then r.to else r.frm
def Road.dst(r:Road)(back:Bool):Int:=if back then r.frm else r.to
theorem Road.pd{n:Nat}{r:Road}(h:r.ok n)(back:Bool):0≤r.src back∧r.src back<n:=by
 unfold Road.src;have:=h.f0;have:=h.f1;have:=h.t0;have:=h.t1;cases back<;>simp<;>omega
section
variable {m : tX} (h : m.ok) {t : Int} {into : Option (List Int)}
include h
end
section
variable {m : tX} (h : m.ok) {t : Int} {into : Option (List Int)}
include h
end
end Go.Ev
namespace Go.Ev
open Go
variable [Lib] [dX] [eg]
@[go_sem] theorem G0 (k n : Nat) (into : Option (List Int)) : old k n (GZ into) = true := by
 cases into<;>simp only[GZ,go_sem]
structure Wh where
 time:Int
 frm:List Int
instance : Dat Wh := ⟨⟨0, []⟩⟩
abbrev Wh.e(w:Wh):T:= .agg [tI w.time,tL w.frm]
def inT(t:Int):Prop:=0≤t∧t≤2147483648
instance (t : Int) : Decidable (inT t) := by unfold inT; infer_instance
def plT(x:Int):Prop:=x=1099511627776∨inT x
instance (t : Int) : Decidable (plT t) := by unfold plT; infer_instance
def G1(n:Nat):List Int:=List.replicate n 1099511627776
@[simp] theorem Dw (n : Nat) : (G1 n).length = n := List.length_replicate
structure Spn where
 low:Int
 high:Int
instance : Dat Spn := ⟨⟨0, 0⟩⟩
abbrev Spn.e(f:Spn):T:= .agg [tI f.low,tI f.high]
def Spn.ok(f:Spn):Prop:= -1125899906842624≤f.low∧f.high≤1125899906842624∧f.low≤f.high
instance (f : Spn) : Decidable f.ok := by unfold Spn.ok; infer_instance
section
variable {m : tX} (h : m.ok) {fl : List Spn}
include h
end
end Go.Ev
namespace Go.Ev
open Go
variable [Lib] [dX] [eg]
def plS(t x:Int):Prop:=x=1099511627776∨(t≤x∧x≤2147483648)
instance (t x : Int) : Decidable (plS t x) := by unfold plS; infer_instance
def G2(l:List Int)(t:Int)(n:Nat):List Int:=(List.range n).map fun(p:Nat)=>if(p:Int)∈l then t else 1099511627776
@[simp] theorem G3 (l : List Int) (t : Int) (n : Nat) : (G2 l t n).length = n := by simp [G2]
structure World where
 tags:List Int
 whr:List Wh
instance : Dat World := ⟨⟨[], []⟩⟩
abbrev World.e(x:World):T:= .agg [tL x.tags,.sl (x.whr.map Wh.e)]
structure Bel where
 worlds:List World
instance : Dat Bel := ⟨⟨[]⟩⟩
abbrev Bel.e(b:Bel):T:= .agg [.sl (b.worlds.map World.e)]
def World.sz(x:World):Prop:=x.tags.length≤1000000∧x.whr.length≤1000000∧∀w∈x.whr,w.frm.length≤1000000
def Bel.sz(b:Bel):Prop:=b.worlds.length≤1000000∧∀x∈b.worlds,x.sz
@[go_sem] theorem Ai (l : List Wh) : aG 2 (l.map Wh.e) = true := c8 2 _ (fun _ => rfl) l
@[go_sem] theorem tY (l : List World) : aG 2 (l.map World.e) = true := c8 2 _ (fun _ => rfl) l
@[go_sem] theorem J6 (l : List Wh) : dW 2 (l.map Wh.e) = true := by cases l <;> rfl
@[go_sem] theorem Aj (l : List World) : dW 2 (l.map World.e) = true := by cases l <;> rfl
end Go.Ev
namespace Go.Ev.N
def sP:Nat:=78
def q9:Nat:=79
def qB:Nat:=80
def Ak:Nat:=81
def tZ:Nat:=82
def Al:Nat:=83
def Am:Nat:=84
def An:Nat:=85
def Dx:Nat:=86
def xg:Nat:=87
def Ao:Nat:=88
def xh:Nat:=89
def xi:Nat:=90
def Dy:Nat:=91
def xj:Nat:=92
def Dz:Nat:=93
def G4:Nat:=94
def G5:Nat:=95
def Aq:Nat:=96
def DA:Nat:=97
def Ar:Nat:=98
def As:Nat:=99
def Au:Nat:=100
def DB:Nat:=101
def G6:Nat:=102
def nR:Nat:=103
def vD:Nat:=104
def bm:Nat:=105
def xk:Nat:=106
def DC:Nat:=107
def DD:Nat:=108
def Av:Nat:=109
def DE:Nat:=110
def DF:Nat:=111
def Aw:Nat:=112
def Ax:Nat:=113
def DG:Nat:=114
def xl:Nat:=115
def DH:Nat:=116
def DI:Nat:=117
def xm:Nat:=118
def xn:Nat:=119
def vE:Nat:=120
def vF:Nat:=121
def pQ:Nat:=122
end Go.Ev.N
namespace Go.Ev.K
open Go.Ev
end Go.Ev.K
namespace Go.Ev
class qC [Lib]:Prop where
namespace K
variable [Lib] [qC]
end K
end Go.Ev
namespace Go.Ev.K
open Go.Ev
def bf:C:=(.its [u (.bin .lss v8 v7)] [] 0 .skip (.exit 0) (.seq (.blk 1 (.seq (.reg [m v8,a 1 v6 v8,g l0,w 4 (.mv l2),w 5 (.mv l1)] []) (.ite [m v5,m v1,u (.bin .lss l1 l0),m l0,y 0 false (.mv v5),y 1 false (.mv v2),y 2 false (.bin .gtr l1 l0),u (.pk l3 (.b true) l0),m l0,y 0 false (.mv v4),y 1 false (.bin .gtr l0 (.i 0)),y 2 false (.mv l0),y 0 true (.mv v5),y 1 true (.mv v0),y 2 true (.mv v4),y 3 true (.bin .sub l0 (.i 1)),y 4 true (.ia l2 l0 1),y 5 true (.ld l0 1 false),y 6 true (.bin .leq l5 l0),y 10 false (.pk l7 l0 (.b false)),u (.pk l11 (.b true) l0)] [] 0 (.seq (.reg [w 3 (.mv (.b false))] []) .ret) .skip))) (.reg [u (.bin .add v8 (.i 1)),w 8 (.mv l0)] [])))
def fF:C:= .loop true [3,4,5] K.bf
def bm:Fn:={ nargs:=3,vars:=[0,1,2,6,7,8,9,10,11],body:=(.seq (.reg [w 3 (.mv (.b false))] []) (.seq (.seq (.reg [w 6 (.mv v0),w 7 (.ln l0),w 8 (.mv (.i 0))] []) (.blk 0 K.fF)) (.seq (.reg [w 3 (.mv (.b true))] []) .ret))),res:=[(3,none)]}
end Go.Ev.K
namespace Go.Ev
class pR [Lib]:Prop where
 ea:Lib.fs N.bm=some K.bm
namespace K
variable [Lib] [pR]
theorem ea:Lib.fs N.bm=some K.bm:=pR.ea
end K
end Go.Ev
namespace Go.Ev
open Go
variable [Lib] [dX] [eg] [qC] [pR]
def nS(l:List Int)(lo hi:Int)(j:Nat):Bool:= !decide (lo≤nth l j∧nth l j≤hi∧(0<j→nth l (j-1)<nth l j))
def rf(l:List Int)(lo hi:Int):Bool:= !((List.range l.length).any (nS l lo hi))
theorem sQ(l:List Int)(lo hi:Int)(hl:l.length≤4294967296):bW 0 N.bm [.t (tL l),I lo,I hi] []=some (B (rf l lo hi),[]):=by
 refine aV K.ea rfl ?_
 have loop:∀a b c:D,exS bW K.fF ⟨[.t (tL l),I lo,I hi,a,b,c,.t (tL l),I l.length,I 0],[]⟩=
  some (if(List.range l.length).any (nS l lo hi)=true
   then(.ret,⟨[.t (tL l),I lo,I hi,B false,I (lE l.length (nS l lo hi)),I (nth l (lE l.length (nS l lo hi))),.t (tL l),I l.length,I (lE l.length (nS l lo hi))],[]⟩)
   else(.exit 0,⟨[.t (tL l),I lo,I hi,.und,.und,.und,.t (tL l),I l.length,I l.length],[]⟩)):=by
  intro a b c
  refine nu (fun j=>⟨[.t (tL l),I lo,I hi,.und,.und,.und,.t (tL l),I l.length,I j],[]⟩) l.length (nS l lo hi) (fun j=>(.ret,⟨[.t (tL l),I lo,I hi,B false,I j,I (nth l j),.t (tL l),I l.length,I j],[]⟩)) _ rfl ?_ ?_ ?_ (by simp)
  · intro j hj hp
    simp only[nS,Bool.not_eq_false',decide_eq_true_eq]at hp
    obtain⟨h1,h2,h3⟩:=hp
    cases j with
    | zero=>simp (disch:=omega) only[go_sem,K.bf,↓reduceIte]
    | succ j=>
      have h3:=h3 (by omega)
      rw[Nat.add_sub_cancel]at h3
      simp (disch:=omega) only[go_sem,K.bf,↓reduceIte]
  · intro j hj hp
    simp only[nS,Bool.not_eq_true',decide_eq_false_iff_not]at hp
    refine⟨?_,by simp⟩
    by_cases h1:lo≤nth l j
    · by_cases h2:nth l j≤hi
      · cases j with
        | zero=>exact absurd ⟨h1,h2,fun h=>absurd h (by omega)⟩ hp
        | succ j=>
          have h3:¬nth l j<nth l (j+1):=fun h=>hp ⟨h1,h2,fun _=>by simpa using h⟩
          simp (disch:=omega) only[go_sem,K.bf,↓reduceIte]
      · simp (disch:=omega) only[go_sem,K.bf,↓reduceIte]
    · simp (disch:=omega) only[go_sem,K.bf,↓reduceIte]
  · simp (disch:=omega) only[go_sem,K.bf,↓reduceIte]
 unfold rf
 simp (disch:=omega) only[go_sem,K.bm,↓reduceIte,loop]
 cases hf:(List.range l.length).any (nS l lo hi)with
 | true=>simp (disch:=omega) only[go_sem,↓reduceIte]
 | false=>simp (disch:=omega) only[go_sem,↓reduceIte,Bool.false_eq_true]
structure Ob where
 st:Int
 fi:Int
 se:Int
 ti:Int
abbrev Ob.e(s:Ob):T:= .agg [tI s.st,tI s.fi,tI s.se,tI s.ti]
structure G7 where
 area:List Int
 hold:Int
 mis:Int
abbrev G7.e(x:G7):T:= .agg [tL x.area,tI x.hold,tI x.mis]
structure Keys where
 roads:List Int
 keys:List Int
 out:Bool
abbrev Keys.e(k:Keys):T:= .agg [tL k.roads,tL k.keys,.bool k.out]
end Go.Ev
namespace Go.Ev
open Go
section
variable (H : ab) (sz id ep n lo hi : Nat) (i j : Int) (fz : Bool)
def scO(r:D):Option Obj→Option (D×ab)
 | some (.arr sz' _ ep' es)=>if ep=ep'∧n=es.length then(if sz'=sz then some (r,H)else none)else none
 | _=>none
@[go_sem] theorem MX (r : D) (sz' : Nat) (pin : Bool) (es : List D) : scO H sz ep n r (some (.arr sz' pin ep es)) = if n = es.length then (if sz' = sz then some (r, H) else none) else none := by simp [scO]
theorem scR{l h:Nat}:((bN H id ep n).bind fun a=>if l≤h∧h≤n∧a.1=sz then some (D.sub id ep n l h)else none).map (fun d=>(d,H))=if l≤h then(if h≤n then scO H sz ep n (.sub id ep n l h) H[id]? else none)else none:=by
 simp only[bN]
 generalize H[id]?=o
 by_cases h1:l≤h
 · by_cases h2:h≤n
   · rw[if_pos h1,if_pos h2]
     rcases o with _ | (_ | ⟨sz',pin,ep',es⟩)
     · rfl
     · rfl
     · simp only[scO]
       by_cases h3:ep=ep'∧n=es.length
       · rw[if_pos h3,if_pos h3,Option.bind_some]
         by_cases h4:sz'=sz
         · rw[if_pos h4,if_pos ⟨h1,h2,h4⟩];rfl
         · rw[if_neg h4,if_neg fun h=>h4 h.2.2];rfl
       · rw[if_neg h3,if_neg h3];rfl
   · rw[if_pos h1,if_neg h2]
     rcases o with _ | (_ | ⟨sz',pin,ep',es⟩)
     · rfl
     · rfl
     · by_cases h3:ep=ep'∧n=es.length
       · simp only[if_pos h3,Option.bind_some];rw[if_neg fun h=>h2 h.2.1];rfl
       · simp only[if_neg h3];rfl
 · rw[if_neg h1]
   rcases o with _ | (_ | ⟨sz',pin,ep',es⟩)
   · rfl
   · rfl
   · by_cases h3:ep=ep'∧n=es.length
     · simp only[if_pos h3,Option.bind_some];rw[if_neg fun h=>h1 h.1];rfl
     · simp only[if_neg h3];rfl
@[go_sem] theorem Ay : nh H sz (some (.ref id ep n)) (some none) (some (some i)) = if 0 ≤ i then (if i ≤ n then scO H sz ep n (.sub id ep n 0 i.toNat) H[id]? else none) else none := by
 simp only[nh,Option.bind_some,dP,bound,idx]
 by_cases h1:0≤i
 · rw[if_pos h1,if_pos h1,Option.bind_some,scR,if_pos (Nat.zero_le _)]
   by_cases h2:i≤n
   · rw[if_pos h2,if_pos (by omega)]
   · rw[if_neg h2,if_neg (by omega)]
 · rw[if_neg h1,if_neg h1];rfl
@[go_sem] theorem Az : nh H sz (some (.ref id ep n)) (some (some i)) (some none) = if 0 ≤ i then (if i ≤ n then scO H sz ep n (.sub id ep n i.toNat n) H[id]? else none) else none := by
 simp only[nh,Option.bind_some,dP,bound,idx]
 by_cases h1:0≤i
 · rw[if_pos h1,if_pos h1,Option.bind_some,scR]
   by_cases h2:i≤n
   · rw[if_pos h2,if_pos (by omega),if_pos (by omega)]
   · rw[if_neg h2,if_neg (by omega)]
 · rw[if_neg h1,if_neg h1];rfl
@[go_sem] theorem vG : nh H sz (some (.ref id ep n)) (some (some i)) (some (some j)) = if 0 ≤ i then (if i ≤ j then (if j ≤ n then scO H sz ep n (.sub id ep n i.toNat j.toNat) H[id]? else none) else none) else none := by
 simp only[nh,Option.bind_some,dP,bound,idx]
 by_cases h1:0≤i
 · rw[if_pos h1,if_pos h1,Option.bind_some]
   by_cases h0:i≤j
   · rw[if_pos h0,if_pos (by omega),Option.bind_some,scR,if_pos (by omega)]
     by_cases h2:j≤n
     · rw[if_pos h2,if_pos (by omega)]
     · rw[if_neg h2,if_neg (by omega)]
   · rw[if_neg h0]
     by_cases h2:0≤j
     · rw[if_pos h2,Option.bind_some,scR,if_neg (by omega)]
     · rw[if_neg h2];rfl
 · rw[if_neg h1,if_neg h1];rfl
@[go_sem] theorem AA : nh H sz (some .nil) (some none) (some (some i)) = if i = 0 then some (.nil, H) else none := by
 simp only[nh,Option.bind_some,dP,bound,idx]
 by_cases h1:0≤i
 · rw[if_pos h1,Option.bind_some]
   by_cases h2:i=0
   · rw[if_pos h2,if_pos (by omega)];rfl
   · rw[if_neg h2,if_neg (by omega)];rfl
 · rw[if_neg h1,if_neg (by omega)];rfl
@[go_sem] theorem AB : nh H sz (some .nil) (some (some i)) (some none) = if i = 0 then some (.nil, H) else none := by
 simp only[nh,Option.bind_some,dP,bound,idx]
 by_cases h1:0≤i
 · rw[if_pos h1,Option.bind_some]
   by_cases h2:i=0
   · rw[if_pos h2,if_pos (by omega)];rfl
   · rw[if_neg h2,if_neg (by omega)];rfl
 · rw[if_neg h1,if_neg (by omega)];rfl
def pS(x:D)(ys:List D):Option (D×ab):=if aM sz ys=true then(match x with
 | .nil=>if ys.length≤4294967296 then some (.ref H.length 0 ys.length,H++[.arr sz false 0 ys])else none
 | .ref id ep n=>jv H sz id ep n ys H[id]?
 | _=>none)else none
@[go_sem] theorem J7 (ys : List D) : pS H sz .nil ys = if aM sz ys = true then (if ys.length ≤ 4294967296 then some (.ref H.length 0 ys.length, H ++ [.arr sz false 0 ys]) else none) else none := (rfl)
@[go_sem] theorem J8 (ys : List D) : pS H sz (.ref id ep n) ys = if aM sz ys = true then jv H sz id ep n ys H[id]? else none := (rfl)
@[go_sem] theorem xo : aM sz [] = true := (rfl)
@[go_sem] theorem vH (d : D) (r : List D) : aM sz (d :: r) = dV sz d.cells := by
 rw[Bool.eq_iff_iff,bD];simp[aM]
def G8(x:D):Option Obj→Option (D×ab)
 | some (.arr _ _ ep' es)=>if ep=ep'∧n=es.length then pS H sz x ((es.drop lo).take (hi-lo))else none
 | _=>none
def G9(x:D):Option Obj→Option (D×ab)
 | some (.arr _ _ ep' es)=>if ep=ep'∧n=es.length then pS H sz x es else none
 | _=>none
@[go_sem] theorem J9 (x : D) (sz' : Nat) (pin : Bool) (es : List D) : G8 H sz ep n lo hi x (some (.arr sz' pin ep es)) = if n = es.length then pS H sz x ((es.drop lo).take (hi - lo)) else none := by simp [G8]
@[go_sem] theorem Ka (x : D) (sz' : Nat) (pin : Bool) (es : List D) : G9 H sz ep n x (some (.arr sz' pin ep es)) = if n = es.length then pS H sz x es else none := by simp [G9]
theorem sR(x:D)(ys:List D):(if aM sz ys=true then(match x with
 | .nil=>if ys.length≤lim then some (D.ref H.length 0 ys.length,H++[.arr sz false 0 ys])else none
 | .ref id ep n=>(bN H id ep n).bind fun a=>if a.1=sz∧n+ys.length≤lim then some (.ref id ep (n+ys.length),H.set id (.arr sz a.2.1 ep (a.2.2++ys)))else none
 | _=>none)else none)=pS H sz x ys:=by
 unfold pS
 split
 · cases x with
   | ref id ep n=>
     simp only[bN]
     generalize H[id]?=o
     rcases o with _ | (_ | ⟨sz',pin,ep',es⟩)
     · rfl
     · rfl
     · simp only[jv]
       by_cases h1:ep=ep'∧n=es.length
       · rw[if_pos h1,Option.bind_some]
         by_cases h2:sz'=sz∧n+ys.length≤lim
         · rw[if_pos h2,if_pos ⟨h1.1,h1.2,h2⟩]
         · rw[if_neg h2,if_neg fun h=>h2 h.2.2]
       · rw[if_neg h1,if_neg fun h=>h1 ⟨h.1,h.2.1⟩];rfl
   | _=>rfl
 · rfl
theorem jb(x y:D)(ys:List D)(h:elems H y=some ys):eS H sz false (some x) (some y)=pS H sz x ys:=by
 simp only[eS,Option.bind_some,dC,h,Bool.false_eq_true,if_false]
 exact sR H sz x ys
@[go_sem] theorem ua (x : D) : eS H sz false (some x) (some .nil) = pS H sz x [] := jb H sz x .nil [] rfl
@[go_sem] theorem uc (x : D) : eS H sz false (some x) (some (.ref id ep n)) = G9 H sz ep n x H[id]? := by
 cases he:elems H (.ref id ep n)with
 | some ys=>
   rw[jb H sz x _ ys he]
   simp only[elems,bN]at he
   generalize H[id]?=o at he
   rcases o with _ | (_ | ⟨sz',pin,ep',es⟩)
   · cases he
   · cases he
   · simp only[G9]
     by_cases h1:ep=ep'∧n=es.length
     · simp only[if_pos h1]at he ⊢;cases he;rfl
     · simp only[if_neg h1]at he;cases he
 | none=>
   have:eS H sz false (some x) (some (.ref id ep n))=none:=by simp only[eS,Option.bind_some,dC,he];rfl
   rw[this]
   simp only[elems,bN]at he
   generalize H[id]?=o at he
   rcases o with _ | (_ | ⟨sz',pin,ep',es⟩)
   · rfl
   · rfl
   · simp only[G9]
     by_cases h1:ep=ep'∧n=es.length
     · simp only[if_pos h1]at he;cases he
     · simp only[if_neg h1]
@[go_sem] theorem ud (x : D) : eS H sz false (some x) (some (.sub id ep n lo hi)) = G8 H sz ep n lo hi x H[id]? := by
 cases he:elems H (.sub id ep n lo hi)with
 | some ys=>
   rw[jb H sz x _ ys he]
   simp only[elems,bN]at he
   generalize H[id]?=o at he
   rcases o with _ | (_ | ⟨sz',pin,ep',es⟩)
   · cases he
   · cases he
   · simp only[G8]
     by_cases h1:ep=ep'∧n=es.length
     · simp only[if_pos h1]at he ⊢;cases he;rfl
     · simp only[if_neg h1]at he;cases he
 | none=>
   have:eS H sz false (some x) (some (.sub id ep n lo hi))=none:=by simp only[eS,Option.bind_some,dC,he];rfl
   rw[this]
   simp only[elems,bN]at he
   generalize H[id]?=o at he
   rcases o with _ | (_ | ⟨sz',pin,ep',es⟩)
   · rfl
   · rfl
   · simp only[G8]
     by_cases h1:ep=ep'∧n=es.length
     · simp only[if_pos h1]at he;cases he
     · simp only[if_neg h1]
def DJ(ep n lo hi:Nat):Option Obj→Option (List D)
 | some (.arr _ _ ep' es)=>if ep=ep'∧n=es.length then some ((es.drop lo).take (hi-lo))else none
 | _=>none
def Kb(x:D):Option (List D)→Option (D×ab)
 | some ys0=>(aK (fun d=>(frz H depth d).map .t) ys0).bind fun ys=>if aM sz ys then pS (pins H (ys0.flatMap (bU H depth))) sz x ys else none
 | none=>none
@[go_sem] theorem Oc (x : D) (ts : List T) : Kb H sz x (some (ts.map .t)) = pS H sz x (ts.map .t) := by
 simp only[Kb,iv,Option.bind_some,sC,pins]
 by_cases h:aM sz (ts.map D.t)=true
 · rw[if_pos h]
 · rw[if_neg h];unfold pS;rw[if_neg h]
@[go_sem] theorem vI (x : D) : eS H sz true (some x) (some (.sub id ep n lo hi)) = Kb H sz x (DJ ep n lo hi H[id]?) := by
 have e:elems H (.sub id ep n lo hi)=DJ ep n lo hi H[id]?:=by
  simp only[elems,bN]
  generalize H[id]?=o
  rcases o with _ | (_ | ⟨sz',pin,ep',es⟩)
  · rfl
  · rfl
  · simp only[DJ]
    by_cases h1:ep=ep'∧n=es.length
    · simp only[if_pos h1];rfl
    · simp only[if_neg h1];rfl
 simp only[eS,Option.bind_some,dC,e]
 cases DJ ep n lo hi H[id]? with
 | none=>rfl
 | some ys0=>
   simp only[Option.bind_some,Kb,if_true]
   cases hm:aK (fun d=>(frz H depth d).map D.t) ys0 with
   | none=>rfl
   | some ys=>
     simp only[Option.bind_some]
     refine(sR _ _ _ _).trans ?_
     by_cases h:aM sz ys=true
     · rw[if_pos h]
     · rw[if_neg h];unfold pS;rw[if_neg h]
@[go_sem] theorem Kc (ep n lo hi sz : Nat) (pin : Bool) (ts : List T) : DJ ep n lo hi (some (.arr sz pin ep (ts.map .t))) = if n = ts.length then some (((ts.drop lo).take (hi - lo)).map .t) else none := by
 simp only[DJ,true_and,List.length_map,List.map_take,List.map_drop]
def sT(ds:List D):Option (D×ab):=if ds.all (fun d=>d.cells.length==sz&&d.b9)then some (.ref H.length 0 ds.length,H++[.arr sz false 0 ds])else none
@[go_sem] theorem Od (call : ah) (get : X → Option D) (xs : List X) : evO call get H (.bsr xs sz) = (aK get xs).bind (sT H sz) := (rfl)
@[go_sem] theorem Hc : sT H sz [] = some (.ref H.length 0 0, H ++ [.arr sz false 0 []]) := (rfl)
@[go_sem] theorem Hd (k : IntKind) (n : Int) : sT H 1 [.t (.int k n)] = some (.ref H.length 0 1, H ++ [.arr 1 false 0 [.t (.int k n)]]) := (rfl)
@[go_sem] theorem He (cs : List D) : sT H sz [.agg cs] = if dV sz cs = true then some (.ref H.length 0 1, H ++ [.arr sz false 0 [.agg cs]]) else none := by
 simp only[sT,List.all_cons,List.all_nil,Bool.and_true,D.cells,D.b9]
 by_cases h:dV sz cs=true
 · rw[if_pos h,if_pos (by simpa using bD.1 h)];rfl
 · rw[if_neg h,if_neg (by intro e;exact h (bD.2 (by simpa using e)))]
end
@[go_sem] theorem xp : (1 : Int).toNat = 1 := (rfl)
@[go_sem] theorem AD : (2 : Int).toNat = 2 := (rfl)
@[go_sem] theorem vJ : (3 : Int).toNat = 3 := (rfl)
section
variable {H t : ab} {i j k : Nat} {o o' : Obj}
end
end Go.Ev
namespace Go.Ev.N
def sU:Nat:=123
def rh:Nat:=124
def ue:Nat:=125
def sV:Nat:=126
def AE:Nat:=127
def AF:Nat:=128
def AG:Nat:=129
def DK:Nat:=130
def DL:Nat:=131
def AH:Nat:=132
def AI:Nat:=133
def vK:Nat:=134
def vL:Nat:=135
def DM:Nat:=136
def AJ:Nat:=137
def vM:Nat:=138
def xq:Nat:=139
def uf:Nat:=140
def xr:Nat:=141
def vN:Nat:=142
def sW:Nat:=143
def sX:Nat:=144
def sY:Nat:=145
def xt:Nat:=146
def xu:Nat:=147
def qD:Nat:=148
end Go.Ev.N
namespace Go.Ev.N
def pT:Nat:=149
def s0:Nat:=150
def s3:Nat:=151
def rj:Nat:=152
def AK:Nat:=153
def AL:Nat:=154
def xv:Nat:=155
def xw:Nat:=156
def AM:Nat:=157
def DN:Nat:=158
def AN:Nat:=159
def aE:Nat:=160
def pU:Nat:=161
def AO:Nat:=162
def DO:Nat:=163
def xx:Nat:=164
def DP:Nat:=165
def xy:Nat:=166
def DQ:Nat:=167
def gk:Nat:=168
def vO:Nat:=169
def bE:Nat:=170
def qE:Nat:=171
def vP:Nat:=172
def DR:Nat:=173
def gU:Nat:=174
def s4:Nat:=175
def a6:Nat:=176
def AP:Nat:=177
end Go.Ev.N
namespace Go.Ev.K
open Go.Ev
def eb:C:=(.seq (.ite [m v6,m v5,u (.ln l0),u (.bin .lss l2 l0)] [] 0 .skip (.exit 0)) (.blk 1 (.reg [m v6,m v5,m v6,u (.sc l1 (some l0) none 1),m v5,m v6,u (.sc l1 none (some l0) 1),u (.cp l3 l0 1),u (.bin .add l7 l0),w 6 (.mv l0)] [])))
def ez:C:= .loop true [0,1,2,3,4] K.eb
def aE:Fn:={ nargs:=2,vars:=[0,1,4,5,6,7,8],body:=(.seq (.reg [w 2 (.mv (.c (.nil)))] []) (.seq (.ite [m v1,u (.bin .lss l0 (.i 0))] [] 0 .fail .skip) (.seq (.reg [m v0,u (.ln l0),u (.cv .u64 l0),m v1,u (.cv .u64 l0),u (.ca N.bE 0 [] [.l 2,.l 0]),m l0,u (.ex l0 0),u (.ex l1 1),w 3 (.mv l1),w 4 (.mv l1)] []) (.seq (.ite [m v3,u (.bin .gtr l0 (.c (.t (.int .u64 (0))))),m l0,y 0 false (.mv v4),y 1 false (.bin .gtr l0 (.c (.t (.int .u64 (9223372036854775807))))),u (.pk l2 (.b true) l0)] [] 0 .fail .skip) (.seq (.reg [m v4,u (.cv .i64 l0),u (.mk l0 (.t (.int .i64 (0))) 1),w 5 (.mv l0)] []) (.seq (.reg [m v5,m v0,u (.cp l1 l0 1),w 6 (.mv l0)] []) (.seq (.blk 0 K.ez) (.seq (.reg [m v5,w 2 (.mv l0)] []) .ret)))))))),res:=[(2,none)]}
def bE:Fn:={ nargs:=2,vars:=[0,1,4,5,8,9],body:=(.seq (.reg [w 2 (.mv (.c (.t (.int .u64 (0))))),w 3 (.mv (.c (.t (.int .u64 (0)))))] []) (.seq (.cnd false .skip) (.seq (.reg [m v0,m v1,u (.ca N.a6 0 [] [.l 1,.l 0]),m l0,u (.ex l0 0),u (.ex l1 1),w 4 (.mv l1),w 5 (.mv l1)] []) (.seq (.reg [m v4,m v5,w 2 (.mv l1),w 3 (.mv l1)] []) .ret)))),res:=[(2,none),(3,none)]}
end Go.Ev.K
namespace Go.Ev
class nB [Lib]:Prop where
 cK:Lib.fs N.aE=some K.aE
 fG:Lib.fs N.bE=some K.bE
namespace K
variable [Lib] [nB]
theorem cK:Lib.fs N.aE=some K.aE:=nB.cK
theorem fG:Lib.fs N.bE=some K.bE:=nB.fG
end K
end Go.Ev
namespace Go.Ev.K
open Go.Ev
def a6:Fn:={ nargs:=2,vars:=[0,1,4,5,6,7,8,9,10,11,12,13],body:=(.seq (.reg [w 2 (.mv (.c (.t (.int .u64 (0))))),w 3 (.mv (.c (.t (.int .u64 (0)))))] []) (.seq (.reg [m v0,u (.bin .and l0 (.c (.t (.int .u64 (4294967295))))),w 4 (.mv l0)] []) (.seq (.reg [m v0,u (.bin .shr l0 (.c (.t (.int .u64 (32))))),w 5 (.mv l0)] []) (.seq (.reg [m v1,u (.bin .and l0 (.c (.t (.int .u64 (4294967295))))),w 6 (.mv l0)] []) (.seq (.reg [m v1,u (.bin .shr l0 (.c (.t (.int .u64 (32))))),w 7 (.mv l0)] []) (.seq (.reg [m v4,m v6,u (.bin .mul l1 l0),w 8 (.mv l0)] []) (.seq (.reg [m v5,m v6,u (.bin .mul l1 l0),m v8,u (.bin .shr l0 (.c (.t (.int .u64 (32))))),u (.bin .add l2 l0),w 9 (.mv l0)] []) (.seq (.reg [m v9,u (.bin .and l0 (.c (.t (.int .u64 (4294967295))))),w 10 (.mv l0)] []) (.seq (.reg [m v9,u (.bin .shr l0 (.c (.t (.int .u64 (32))))),w 11 (.mv l0)] []) (.seq (.reg [m v10,m v4,m v7,u (.bin .mul l1 l0),u (.bin .add l3 l0),w 10 (.mv l0)] []) (.seq (.reg [m v5,m v7,u (.bin .mul l1 l0),m v11,u (.bin .add l1 l0),m v10,u (.bin .shr l0 (.c (.t (.int .u64 (32))))),u (.bin .add l2 l0),w 2 (.mv l0)] []) (.seq (.reg [m v0,m v1,u (.bin .mul l1 l0),w 3 (.mv l0)] []) .ret)))))))))))),res:=[(2,none),(3,none)]}
end Go.Ev.K
namespace Go.Ev
class nT [Lib]:Prop where
 eA:Lib.fs N.a6=some K.a6
namespace K
variable [Lib] [nT]
theorem eA:Lib.fs N.a6=some K.a6:=nT.eA
end K
end Go.Ev
namespace Go.Ev
open Go
variable [Lib] [dX] [eg] [nB] [nT]
section
variable (H : ab) (sz : Nat)
def xz(id ep n lo hi:Nat)(ys:List D):Option Obj→Option (D×ab)
 | some (.arr sz' pin ep' es)=>if ep=ep'∧n=es.length then xW H id ep (sz',pin,es) lo hi ys sz else none
 | _=>none
def cpD(x:D)(ys:List D):Option (D×ab):=if aM sz ys=true then(match x with
 | .ref id ep n=>xz H sz id ep n 0 n ys H[id]?
 | .sub id ep n lo hi=>xz H sz id ep n lo hi ys H[id]?
 | _=>none)else none
def Kd(x y:Option D):Option (D×ab):=x.bind fun a=>y.bind fun b=>lJ H a b sz
@[go_sem] theorem O8 (call : ah) (get : X → Option D) (x y : X) : evO call get H (.cp x y sz) = Kd H sz (get x) (get y) := (rfl)
theorem pV(x y:D)(ys:List D)(h:elems H y=some ys):lJ H x y sz=cpD H sz x ys:=by
 unfold lJ cpD
 rw[h,Option.bind_some]
 split
 · rename_i hh
   cases x with
   | ref id ep n=>
     simp only[bN,xz]
     cases H[id]? with
     | none=>rfl
     | some o=>
       cases o with
       | box cs=>rfl
       | arr sz' pin ep' es=>
         simp only
         by_cases c:ep=ep'∧n=es.length
         · rw[if_pos c,if_pos c];rfl
         · rw[if_neg c,if_neg c];rfl
   | sub id ep n lo hi=>
     simp only[bN,xz]
     cases H[id]? with
     | none=>rfl
     | some o=>
       cases o with
       | box cs=>rfl
       | arr sz' pin ep' es=>
         simp only
         by_cases c:ep=ep'∧n=es.length
         · rw[if_pos c,if_pos c];rfl
         · rw[if_neg c,if_neg c];rfl
   | _=>rfl
 · rfl
@[go_sem] theorem Oe (x : D) (ts : List T) : Kd H sz (some x) (some (.t (.sl ts))) = cpD H sz x (ts.map .t) := pV H sz x (.t (.sl ts)) (ts.map .t) rfl
def cpE(x:D)(ep n lo hi:Nat):Option Obj→Option (D×ab)
 | some (.arr _ _ ep' es)=>if ep=ep'∧n=es.length then cpD H sz x ((es.drop lo).take (hi-lo))else none
 | _=>none
@[go_sem] theorem MY (x : D) (n lo hi sz' : Nat) (pin : Bool) (ep : Nat) (es : List D) : cpE H sz x ep n lo hi (some (.arr sz' pin ep es)) = if n = es.length then cpD H sz x ((es.drop lo).take (hi - lo)) else none := by simp [cpE]
@[go_sem] theorem Ke (x : D) (id ep n lo hi : Nat) : Kd H sz (some x) (some (.sub id ep n lo hi)) = cpE H sz x ep n lo hi H[id]? := by
 unfold Kd
 simp only[Option.bind_some]
 cases h:H[id]? with
 | none=>simp[lJ,elems,bN,h,cpE]
 | some o=>
   cases o with
   | box cs=>simp[lJ,elems,bN,h,cpE]
   | arr sz' pin ep' es=>
     by_cases c:ep=ep'∧n=es.length
     · rw[pV H sz x _ ((es.drop lo).take (hi-lo)) (by simp[elems,bN,h,c])]
       simp only[cpE,if_pos c]
     · simp[lJ,elems,bN,h,cpE,c]
@[go_sem] theorem MZ (id ep n : Nat) (ys : List D) : cpD H sz (.ref id ep n) ys = if aM sz ys = true then xz H sz id ep n 0 n ys H[id]? else none := (rfl)
@[go_sem] theorem M0 (id ep n lo hi : Nat) (ys : List D) : cpD H sz (.sub id ep n lo hi) ys = if aM sz ys = true then xz H sz id ep n lo hi ys H[id]? else none := (rfl)
@[go_sem] theorem Kf (id n lo hi : Nat) (ys : List D) (ep : Nat) (es : List D) : xz H sz id ep n lo hi ys (some (.arr sz false ep es)) =
 if n=es.length then(if min ys.length (hi-lo)=0 then some (.t (.int .i64 0),H)else some (.t (.int .i64 ((min ys.length (hi-lo):Nat):Int)),H.set id (.arr sz false ep (es.take lo++ys.take (min ys.length (hi-lo))++es.drop (lo+min ys.length (hi-lo))))))else none:=by
 simp[xz,xW]
end
end Go.Ev
namespace Go.Ev
open Go
variable [Lib] [dX] [eg]
@[go_sem] theorem AQ (l : List Place) : dW 2 (l.map Place.e) = true := by cases l <;> rfl
@[go_sem] theorem DT (l : List Road) : dW 10 (l.map Road.e) = true := by cases l <;> rfl
@[go_sem] theorem DU (H : ab) (d : bc) : ve H 0 1 false (some d.obj) = some (.t (tL d.L), H) := by simp only [bc.obj, go_sem]
def bc.fH(d:bc):Nat→List Place×bc
 | 0=>([],d)
 | k+1=>if k=0 then((d.fH k).1++[⟨-10*((d.fH k).2.next 4).1,true⟩],((d.fH k).2.next 4).2)
   else((d.fH k).1++[⟨-10*((d.fH k).2.next 4).1,(((d.fH k).2.next 4).2.one 6).1⟩],(((d.fH k).2.next 4).2.one 6).2)
def bc.Hf(d:bc)(i:Int):Road×bc:=
 (⟨i-1-(d.next (min i 2)).1,i,1+((d.next (min i 2)).2.of [11,59,119,4]).1,1+(((d.next (min i 2)).2.of [11,59,119,4]).2.of [9,3,19]).1,true,false,1,1,0,0⟩,
   (((d.next (min i 2)).2.of [11,59,119,4]).2.of [9,3,19]).2)
def bc.pW(d:bc):Nat→List Road×bc
 | 0=>([],d)
 | k+1=>((d.pW k).1++[((d.pW k).2.Hf (k+1)).1],((d.pW k).2.Hf (k+1)).2)
def bc.vQ(d:bc)(n:Int):Road×bc:=
 let a:=d.next n
 let b:=a.2.next n
 let l:=b.2.of [11,59,199]
 let r:=l.2.of [9,3]
 let w:=r.2.next 5
 let c:=w.2.one 6
 (⟨a.1,b.1,1+l.1,1+r.1,decide (0<w.1),c.1,1,1,0,0⟩,c.2)
def bc.more(n:Int)(l:List Road)(d:bc):Nat→List Road×bc
 | 0=>(l,d)
 | k+1=>if l.length<10 then bc.more n (if(d.vQ n).1.frm=(d.vQ n).1.to then l else l++[(d.vQ n).1]) (d.vQ n).2 k else(l,d)
def bc.AR(d:bc):Nat:=if d.L.length=0 then 4 else(2+(d.next 6).1).toNat
def bc.Hg(d:bc):List Place×bc:=(d.next 6).2.fH d.AR
def bc.AS(d:bc):List Road×bc:=d.Hg.2.pW (d.AR-1)
def bc.Hh(d:bc):List Road×bc:=bc.more d.AR d.AS.1 (d.AS.2.next 4).2 (d.AS.2.next 4).1.toNat
def bc.Pb(d:bc):tX×bc:=(⟨d.Hg.1,d.Hh.1⟩,d.Hh.2)
@[go_sem] theorem Hi (l : List Spn) : dW 2 (l.map Spn.e) = true := by cases l <;> rfl
@[go_sem] theorem M1 (l : List Spn) (k : Nat) (a b : Int) : (List.map D.t (List.map Spn.e l)).set k (D.t (T.agg [tI a, tI b])) = List.map D.t (List.map Spn.e (l.set k ⟨a, b⟩)) := by
 rw[List.map_set,List.map_set]
@[go_sem] theorem Of (H : ab) (sz : Nat) (a b c d e f : T) : lB H sz [.t a, .t b, .t c, .t d, .t e, .t f] = if aG sz [a, b, c, d, e, f] = true then some (.t (.sl [a, b, c, d, e, f]), H) else none := fC H sz [a, b, c, d, e, f]
@[go_sem] theorem Og (H : ab) (sz : Nat) (a b c d e f g : T) : lB H sz [.t a, .t b, .t c, .t d, .t e, .t f, .t g] = if aG sz [a, b, c, d, e, f, g] = true then some (.t (.sl [a, b, c, d, e, f, g]), H) else none := fC H sz [a, b, c, d, e, f, g]
@[go_sem] theorem Oh (H : ab) (sz : Nat) (a b c d e f g h : T) : lB H sz [.t a, .t b, .t c, .t d, .t e, .t f, .t g, .t h] = if aG sz [a, b, c, d, e, f, g, h] = true then some (.t (.sl [a, b, c, d, e, f, g, h]), H) else none := fC H sz [a, b, c, d, e, f, g, h]
@[go_sem] theorem Hj {α β γ : Type} {l : List α} {g : α → β} {f : β → γ} {x : γ} {j : Nat} (h : j = l.length) : (List.map f (List.map g l) ++ [x])[j]? = some x := by
 rw[List.getElem?_append_right (by simp;omega)];simp[h]
@[go_sem] theorem Kg {α β γ : Type} {l : List α} {g : α → β} {f : β → γ} {x y : γ} {j : Nat} (h : j = l.length) : (List.map f (List.map g l) ++ [x]).set j y = List.map f (List.map g l) ++ [y] := by
 rw[List.set_append_right _ _ (by simp;omega)];simp[h]
def bc.Hk(d:bc):Spn×bc:=
 let a:=d.of [0,1000,5000,20000, -5000, -20000,4999,100]
 let b:=a.2.of [0,1,1000,6000]
 let c:=b.2.of [0,1,500]
 let w:=c.2.one 9
 (if w.1=true then⟨-1125899906842624,1125899906842624⟩else⟨a.1-b.1,a.1+c.1⟩,w.2)
def bc.pX(d:bc):Nat→List Spn×bc
 | 0=>([],d)
 | k+1=>((d.pX k).1++[((d.pX k).2.Hk).1],((d.pX k).2.Hk).2)
def bc.O9(d:bc)(m:tX):List Spn×bc:=d.pX m.roads.length
theorem Hl{gc:Bool}{dead:List Nat}{c:C}{vs:List D}{H:ab}(P:Nat→St→Prop)(n:Nat)(Q:Ex×St→Prop)(h0:P 0 ⟨cO dead vs,H⟩)
 (hs:∀j st,j<n→P j st→(∃st',fj gc dead st.H.length (exS bW c st)=some st'∧P (j+1) st')∨∃q,exS bW c st=some q∧q.1≠ .normal∧Q q)
 (he:∀st,P n st→∃q,exS bW c st=some q∧q.1≠ .normal∧Q q):∃q,exS bW (.loop gc dead c) ⟨vs,H⟩=some q∧Q q:=by
 have key:∀(k j:Nat) (st:St),j+k=n→P j st→∃q,fA gc dead (exS bW c) st=some q∧Q q:=by
  intro k
  induction k with
  | zero=>
    intro j st hj hp
    obtain⟨q,h1,h2,h3⟩:=he st (by rw[← hj];exact hp)
    exact⟨q,et h1 h2,h3⟩
  | succ k ih=>
    intro j st hj hp
    rcases hs j st (by omega) hp with⟨st',h1,h2⟩ | ⟨q,h1,h2,h3⟩
    · obtain⟨q,h3,h4⟩:=ih (j+1) st' (by omega) h2
      exact⟨q,qp h1 h3,h4⟩
    · exact⟨q,et h1 h2,h3⟩
 exact key n 0 _ (by omega) h0
theorem Hm(l:List Int):bW 0 N.cA [.t (tL l)] []=some (.bp 0 0,[bc.obj ⟨l,0⟩]):=by
 refine aV K.gO rfl ?_
 simp (disch:=omega) only[go_sem,K.cA,↓reduceIte,bc.obj,Nat.reduceAdd,Nat.reduceSub]
theorem pY{d:bc}(hd:d.eV)(n:Int)(h1:1≤n)(hn:n≤4611686018427387904):
 ∃(v:Int) (e:bc),bW 0 N.ax [.bp 0 0,I n] [d.obj]=some (I v,[e.obj])∧e.eV∧0≤v∧v<n:=
 ⟨_,_,sO d n hn hd,bc.lF hd n,d.oN n,d.oO h1⟩
theorem Oi{d:bc}(hd:d.eV)(l:List Int)(hl:l≠[])(hn:l.length≤4294967296):
 ∃(v:Int) (e:bc),bW 0 N.aS [.bp 0 0,.t (tL l)] [d.obj]=some (I v,[e.obj])∧e.eV∧v∈l:=
 ⟨_,_,MW d l hl hn hd,bc.vB hd l,d.GY hl⟩
end Go.Ev
namespace Go.Ev
open Go
variable [Lib] [dX] [eg] [nB] [nT]
end Go.Ev
namespace Go.Ev.N
def qF:Nat:=178
def qG:Nat:=179
def rk:Nat:=180
def qH:Nat:=181
def rn:Nat:=182
def s5:Nat:=183
def rp:Nat:=184
def AT:Nat:=185
def xA:Nat:=186
def AU:Nat:=187
def s6:Nat:=188
def AV:Nat:=189
def xB:Nat:=190
def xC:Nat:=191
def DV:Nat:=192
def vR:Nat:=193
def xD:Nat:=194
def AX:Nat:=195
def DW:Nat:=196
def Hn:Nat:=197
def ug:Nat:=198
def uh:Nat:=199
def DX:Nat:=200
def vS:Nat:=201
def nU:Nat:=202
def xE:Nat:=203
def aA:Nat:=204
def s7:Nat:=205
def AY:Nat:=206
def xF:Nat:=207
def s8:Nat:=208
def rq:Nat:=209
def s9:Nat:=210
def Ho:Nat:=211
def Hp:Nat:=212
def Hq:Nat:=213
def DY:Nat:=214
end Go.Ev.N
namespace Go.Ev.K
open Go.Ev
end Go.Ev.K
namespace Go.Ev
class qI [Lib]:Prop where
namespace K
variable [Lib] [qI]
end K
end Go.Ev
namespace Go.Ev.K
open Go.Ev
def aA:Fn:={ nargs:=1,vars:=[0,2],body:=(.seq (.reg [w 1 (.mv (.c (.nil)))] []) (.itk [m v0,u (.eqk (.sl) false l0 (.c (.nil)))] [] 0 (.seq (.reg [w 1 (.nw 1)] []) .ret) .skip (.seq (.reg [u (.bsr [] 1),m v0,u (.app l1 l0 false 1),w 1 (.mv l0)] []) .ret))),res:=[(1,none)]}
end Go.Ev.K
namespace Go.Ev
class pZ [Lib]:Prop where
 cN:Lib.fs N.aA=some K.aA
namespace K
variable [Lib] [pZ]
theorem cN:Lib.fs N.aA=some K.aA:=pZ.cN
end K
end Go.Ev
namespace Go.Ev
open Go
variable [Lib] [dX] [eg] [nB] [nT] [qI] [pZ]
abbrev vT(l:List Int):Obj:= .arr 1 false 0 ((l.map (T.int .i64)).map .t)
end Go.Ev
namespace Go.Ev.N
def ui:Nat:=215
def uj:Nat:=216
def uk:Nat:=217
def AZ:Nat:=218
def A0:Nat:=219
def A1:Nat:=220
def DZ:Nat:=221
def D0:Nat:=222
def D1:Nat:=223
def Hr:Nat:=224
def A2:Nat:=225
def A3:Nat:=226
def A4:Nat:=227
def Ht:Nat:=228
def A5:Nat:=229
def A6:Nat:=230
def D2:Nat:=231
def xG:Nat:=232
def D3:Nat:=233
def xH:Nat:=234
def xI:Nat:=235
def xJ:Nat:=236
def D4:Nat:=237
def xK:Nat:=238
def Hu:Nat:=239
def Hv:Nat:=240
def oP:Nat:=241
def D5:Nat:=242
def A7:Nat:=243
def um:Nat:=244
end Go.Ev.N
namespace Go.Ev.N
def p0:Nat:=245
def oQ:Nat:=246
def oR:Nat:=247
def A8:Nat:=248
def vU:Nat:=249
def A9:Nat:=250
def p4:Nat:=251
def uo:Nat:=252
def ta:Nat:=253
def Ba:Nat:=254
def xL:Nat:=255
def D6:Nat:=256
def Bb:Nat:=257
def qJ:Nat:=258
def eW:Nat:=259
def qK:Nat:=260
def nC:Nat:=261
def xM:Nat:=262
def mw:Nat:=263
def dG:Nat:=264
def vV:Nat:=265
def fp:Nat:=266
def mg:Nat:=267
def tc:Nat:=268
def dT:Nat:=269
def cmp_isNaN_int:Nat:=270
end Go.Ev.N
namespace Go.Ev.N
def qL:Nat:=271
def td:Nat:=272
def te:Nat:=273
def rr:Nat:=274
def uq:Nat:=275
def tf:Nat:=276
def Bc:Nat:=277
def Bd:Nat:=278
def D7:Nat:=279
def D8:Nat:=280
def ur:Nat:=281
def Hw:Nat:=282
def xN:Nat:=283
def Be:Nat:=284
def Bf:Nat:=285
def D9:Nat:=286
def iK:Nat:=287
def Ea:Nat:=288
def Bg:Nat:=289
def Bh:Nat:=290
def Bi:Nat:=291
def Bj:Nat:=292
def uu:Nat:=293
def Bk:Nat:=294
def Bl:Nat:=295
def xO:Nat:=296
def iz:Nat:=297
def iA:Nat:=298
def vW:Nat:=299
def lG:Nat:=300
def fk:Nat:=301
def gP:Nat:=302
def jy:Nat:=303
def gl:Nat:=304
def iL:Nat:=305
def jz:Nat:=306
def iB:Nat:=307
def uv:Nat:=308
end Go.Ev.N
namespace Go.Ev.N
def xP:Nat:=309
def tg:Nat:=310
def uw:Nat:=311
def ux:Nat:=312
def th:Nat:=313
def Bm:Nat:=314
def M3:Nat:=315
def Hx:Nat:=316
def Bo:Nat:=317
def Bp:Nat:=318
def Bq:Nat:=319
def Br:Nat:=320
def Hy:Nat:=321
def Hz:Nat:=322
def Bt:Nat:=323
def vX:Nat:=324
def HA:Nat:=325
def Kh:Nat:=326
def uy:Nat:=327
def xQ:Nat:=328
def vY:Nat:=329
def iM:Nat:=330
def jA:Nat:=331
def vZ:Nat:=332
def tj:Nat:=333
end Go.Ev.N
namespace Go.Ev.N
def qM:Nat:=334
def ru:Nat:=335
def rz:Nat:=336
def Bu:Nat:=337
def qN:Nat:=338
def Bv:Nat:=339
def Bw:Nat:=340
def Eb:Nat:=341
def Bx:Nat:=342
def Ec:Nat:=343
def Ed:Nat:=344
def Ki:Nat:=345
def uz:Nat:=346
def By:Nat:=347
def Ee:Nat:=348
def Ef:Nat:=349
def tn:Nat:=350
def wa:Nat:=351
def xR:Nat:=352
def xS:Nat:=353
def Bz:Nat:=354
def uA:Nat:=355
def Eg:Nat:=356
def Eh:Nat:=357
def wb:Nat:=358
def xT:Nat:=359
def BA:Nat:=360
def Ei:Nat:=361
def aD:Nat:=362
def wc:Nat:=363
def BB:Nat:=364
def Ej:Nat:=365
def Ek:Nat:=366
def El:Nat:=367
def Em:Nat:=368
def qO:Nat:=369
def ec:Nat:=370
def gV:Nat:=371
def we:Nat:=372
def fm:Nat:=373
def wg:Nat:=374
def wh:Nat:=375
def BD:Nat:=376
def BE:Nat:=377
def uB:Nat:=378
def eF:Nat:=379
def fY:Nat:=380
def tq:Nat:=381
def wi:Nat:=382
def tu:Nat:=383
end Go.Ev.N
namespace Go.Ev.K
open Go.Ev
def a7:C:=(.seq (.ite [m v3,f 3 v1,g l0,u (.ln l0),u (.bin .lss l3 l0)] [] 0 .skip (.exit 0)) (.seq (.blk 1 (.ite [f 3 v1,g l0,m v3,a 1 l1 l0,g l0,u (.bin .lss l0 (.i 1)),m l0,y 0 false (.fa v1 3),y 1 false (.ld l0 1 false),y 2 false (.mv v3),y 3 false (.ia l1 l0 1),y 4 false (.ld l0 1 false),y 5 false (.bin .gtr l0 (.i 65535)),u (.pk l6 (.b true) l0),m l0,y 0 false (.mv v3),y 1 false (.bin .gtr l0 (.i 0)),y 2 false (.mv l0),y 0 true (.fa v1 3),y 1 true (.ld l0 1 false),y 2 true (.mv v3),y 3 true (.ia l1 l0 1),y 4 true (.ld l0 1 false),y 5 true (.fa v1 3),y 6 true (.ld l0 1 false),y 7 true (.mv v3),y 8 true (.bin .sub l0 (.i 1)),y 9 true (.ia l2 l0 1),y 10 true (.ld l0 1 false),y 11 true (.bin .leq l6 l0),y 15 false (.pk (.l 12) l0 (.b false)),u (.pk (.l 16) (.b true) l0)] [] 0 (.seq (.reg [w 2 (.mv (.b false))] []) .ret) .skip)) (.reg [m v3,u (.bin .add l0 (.i 1)),w 3 (.mv l0)] [])))
def gA:C:= .loop true [0,2] K.a7
def aD:Fn:={ nargs:=1,vars:=[0,1,2,3],body:=(.seq (.reg [w 1 (.bx v0 4),w 2 (.mv (.b false))] []) (.seq (.seq (.reg [w 3 (.mv (.i 0))] []) (.blk 0 K.gA)) (.seq (.reg [f 0 v1,g l0,u (.bin .geq l0 (.i 0)),m l0,y 0 true (.fa v1 0),y 1 true (.ld l0 1 false),y 2 true (.bin .lss l0 (.i 32)),u (.pk l3 l0 (.b false)),m l0,y 0 true (.fa v1 1),y 1 true (.ld l0 1 false),y 2 true (.bin .geq l0 (.i 0)),u (.pk l3 l0 (.b false)),m l0,y 0 true (.fa v1 1),y 1 true (.ld l0 1 false),y 2 true (.bin .leq l0 (.i 65535)),u (.pk l3 l0 (.b false)),m l0,y 0 true (.fa v1 2),y 1 true (.ld l0 1 false),y 2 true (.bin .geq l0 (.i 0)),u (.pk l3 l0 (.b false)),m l0,y 0 true (.fa v1 2),y 1 true (.ld l0 1 false),y 2 true (.bin .leq l0 (.i 2147483648)),u (.pk l3 l0 (.b false)),m l0,y 0 true (.fa v1 3),y 1 true (.ld l0 1 false),y 2 true (.ln l0),y 3 true (.bin .leq l0 (.i 20)),u (.pk l4 l0 (.b false)),w 2 (.mv l0)] []) .ret))),res:=[(2,none)]}
end Go.Ev.K
namespace Go.Ev
class jc [Lib]:Prop where
 eX:Lib.fs N.aD=some K.aD
namespace K
variable [Lib] [jc]
theorem eX:Lib.fs N.aD=some K.aD:=jc.eX
end K
end Go.Ev
namespace Go.Ev.N
def wk:Nat:=384
def ay:Nat:=385
def tv:Nat:=386
def uC:Nat:=387
def tw:Nat:=388
def bG:Nat:=389
def bu:Nat:=390
def bn:Nat:=391
def aB:Nat:=392
def bg:Nat:=393
def BF:Nat:=394
def rA:Nat:=395
def cF:Nat:=396
def aT:Nat:=397
def qP:Nat:=398
def c9:Nat:=399
def En:Nat:=400
def bC:Nat:=401
def aF:Nat:=402
def bo:Nat:=403
def bj:Nat:=404
def aN:Nat:=405
def aQ:Nat:=406
def aO:Nat:=407
def aI:Nat:=408
def aJ:Nat:=409
def Eo:Nat:=410
def a8:Nat:=411
def aU:Nat:=412
def ao:Nat:=413
def bT:Nat:=414
def ai:Nat:=415
end Go.Ev.N
namespace Go.Ev.K
open Go.Ev
def cL:C:=(.seq (.ite [m v9,u (.bin .lss l0 (.i 20))] [] 0 .skip (.exit 1)) (.seq (.blk 2 (.reg [f 3 v5,g l0,m v9,u (.bin .add (.i 100) l0),u (.bs [.l 0] 1),u (.app l3 l0 true 1),f 3 v5,u (.st l0 l1 1 [])] [])) (.reg [m v9,u (.bin .add l0 (.i 1)),w 9 (.mv l0)] [])))
def eB:C:= .loop true [0,1,2,3,4,10] K.cL
def ay:Fn:={ nargs:=3,vars:=[0,1,2,6,7,8,9,11,12,13,72],body:=(.seq (.reg [w 3 (.mv (.b false))] []) (.seq (.ite [m v0,u (.ca N.bV 0 [] [.l 0]),u (.un .not l0)] [] 0 (.seq (.reg [u (.ca N.bG 0 [] []),w 3 (.mv l0)] []) .ret) .skip) (.seq (.reg [m v0,u (.ca N.cA 0 [] [.l 0]),w 4 (.mv l0)] []) (.seq (.reg [m v4,m v4,u (.bs [.i 0,.i 100,.i 2147483648,.i 2147483647] 1),u (.ca N.aS 0 [] [.l 1,.l 0]),u (.ca N.aB 1 [] [.l 3,.l 0]),w 5 (.al [.t (.int .i64 (0)),.t (.int .i64 (0)),.t (.int .i64 (0)),.nil] [(3,1)]),u (.st l0 l1 4 [])] []) (.seq (.reg [m v4,u (.bs [.i 0,.i 65535,.i 65534,.i 7] 1),u (.ca N.aS 0 [] [.l 1,.l 0]),f 1 v5,u (.st l0 l1 1 [])] []) (.seq (.reg [h 4 v5,u (.ca N.bg 0 [] [.l 0]),m l0,u (.ex l0 0),u (.ex l1 1),w 6 (.al [.t (.int .i64 (0)),.t (.int .i64 (0)),.nil] []),u (.st l0 l2 3 []),m l2] []) (.seq (.ite [h 4 v5,u (.ca N.bu 0 [] [.l 0]),u (.un .not l0),m l0,y 0 false (.ld v6 3 true),y 1 false (.ca N.bn 0 [] [.l 0]),y 2 false (.un .not l0),u (.pk l3 (.b true) l0)] [] 0 (.seq (.reg [w 3 (.mv (.b false))] []) .ret) .skip) (.seq (.reg [h 3 v6,w 7 (.al [.t (.int .i64 (0)),.t (.int .i64 (0)),.nil] []),u (.st l0 l1 3 [])] []) (.seq (.reg [f 2 v6,g l0,u (.app (.c (.nil)) l0 true 1),f 2 v7,u (.st l0 l1 1 [])] []) (.seq (.reg [f 2 v7,g l0,m v1,f 2 v7,g l0,u (.ln l0),u (.ca N.bI 0 [] [.l 3,.l 0]),a 1 l5 l0,g l0,m v2,u (.cv .u8 l0),u (.bin .xor l2 l0),a 1 l10 l5,u (.st l0 l1 1 [])] [(1,7)]) (.seq (.reg [h 3 v6,w 8 (.al [.t (.int .i64 (0)),.t (.int .i64 (0)),.nil] []),u (.st l0 l1 3 [])] []) (.seq (.reg [f 2 v6,g l0,m v1,f 2 v6,g l0,u (.ln l0),u (.bin .add l0 (.i 1)),u (.ca N.bI 0 [] [.l 4,.l 0]),u (.sc l6 none (some l0) 1),f 2 v8,u (.st l0 l1 1 [])] [(1,8)]) (.seq (.seq (.reg [m v2,w 10 (.ca N.bI 0 [] [.l 0,.i 7])] []) (.blk 0 (.ite [u (.bin .eql v10 (.i 0)),m l0] [] 0 (.reg [m v2,f 0 v5,u (.st l0 l1 1 [])] []) (.ite [u (.bin .eql v10 (.i 1)),m l0] [] 0 (.reg [m v2,f 1 v5,u (.st l0 l1 1 [])] []) (.ite [u (.bin .eql v10 (.i 2)),m l0] [] 0 (.reg [m v2,f 2 v5,u (.st l0 l1 1 [])] []) (.ite [u (.bin .eql v10 (.i 3)),m l0] [] 0 (.reg [f 3 v5,g l0,m v2,u (.ca N.bI 0 [] [.l 0,.i 70000]),u (.bin .sub l0 (.i 1)),u (.bs [.l 0] 1),u (.app l4 l0 true 1),f 3 v5,u (.st l0 l1 1 [])] [(1,4),(1,6)]) (.ite [u (.bin .eql v10 (.i 4)),m l0] [] 0 (.reg [m v2,m v1,f 1 v6,u (.st l0 l2 1 []),f 0 v6,u (.st l0 l3 1 [])] []) (.ite [u (.bin .eql v10 (.i 5)),m l0] [] 0 (.reg [m v1,f 0 v6,u (.st l0 l1 1 [])] []) (.ite [u (.bin .eql v10 (.i 6)),m l0] [] 0 (.seq (.reg [w 9 (.mv (.i 0))] []) (.blk 1 K.eB)) .skip))))))))) (.seq (.reg [u (.ca N.bG 0 [] []),m l0,y 0 true (.ld v5 4 true),y 1 true (.ca N.bu 0 [] [.l 0]),u (.pk l2 l0 (.b false)),m l0,y 0 true (.ld v6 3 true),y 1 true (.ca N.bn 0 [] [.l 0]),u (.pk l2 l0 (.b false)),m l0,y 0 true (.ld v7 3 true),y 1 true (.ca N.bn 0 [] [.l 0]),u (.pk l2 l0 (.b false)),m l0,y 0 true (.ld v8 3 true),y 1 true (.ca N.bn 0 [] [.l 0]),u (.pk l2 l0 (.b false)),w 3 (.mv l0)] []) .ret)))))))))))))),res:=[(3,none)]}
def bG:Fn:={ nargs:=0,vars:=[0,1,2,3,4,5,6],body:=(.seq (.reg [w 0 (.mv (.b false))] []) (.seq (.reg [u (.bs [.i 5] 1),u (.bd [.t (.int .i64 (0)),.t (.int .i64 (0)),.t (.int .i64 (0)),.nil] [(0,1,.i 3),(1,1,.i 258),(2,1,.i 7),(3,1,.l 0)]),u (.ca N.bC 0 [] [.l 0]),m l0,u (.ex l0 0),u (.ex l1 1),w 1 (.al [.t (.int .i64 (0)),.t (.int .i64 (0)),.nil] []),u (.st l0 l2 3 []),w 2 (.mv l2)] []) (.seq (.reg [h 3 v1,u (.ca N.bj 0 [] [.l 0]),m l0,u (.ex l0 0),u (.ex l1 1),w 3 (.al [.t (.int .i64 (0)),.t (.int .i64 (0)),.t (.int .i64 (0)),.nil] []),u (.st l0 l2 4 []),w 4 (.mv l2)] []) (.seq (.reg [w 5 (.al [.nil,.nil] []),u (.ca N.cF 0 [] []),h 4 v3,u (.ca N.c9 0 [] [.l 1,.l 0]),m l0,u (.ex l0 0),u (.ex l1 1),u (.st l6 l1 2 []),w 6 (.mv l1)] [(0,2),(0,4),(2,1)]) (.seq (.reg [m v2,u (.bin .eql l0 (.i 0)),m l0,y 0 true (.mv v4),y 1 true (.bin .eql l0 (.i 0)),u (.pk l2 l0 (.b false)),m l0,y 0 true (.mv v6),y 1 true (.bin .eql l0 (.i 0)),u (.pk l2 l0 (.b false)),m l0,y 0 true (.fa v1 1),y 1 true (.ld l0 1 false),y 2 true (.bin .eql l0 (.i 9)),u (.pk l3 l0 (.b false)),m l0,y 0 true (.fa v1 2),y 1 true (.ld l0 1 false),y 2 true (.ln l0),y 3 true (.bin .eql l0 (.i 11)),u (.pk l4 l0 (.b false)),m l0,y 0 true (.fa v1 2),y 1 true (.ld l0 1 false),y 2 true (.ia l0 (.i 0) 1),y 3 true (.ld l0 1 false),y 4 true (.bin .eql l0 (.c (.t (.int .u8 (1))))),u (.pk l5 l0 (.b false)),m l0,y 0 true (.fa v1 2),y 1 true (.ld l0 1 false),y 2 true (.ia l0 (.i 7) 1),y 3 true (.ld l0 1 false),y 4 true (.bin .eql l0 (.c (.t (.int .u8 (7))))),u (.pk l5 l0 (.b false)),m l0,y 0 true (.fa v3 1),y 1 true (.ld l0 1 false),y 2 true (.bin .eql l0 (.i 258)),u (.pk l3 l0 (.b false)),m l0,y 0 true (.fa v5 0),y 1 true (.ld l0 1 false),y 2 true (.ln l0),y 3 true (.bin .eql l0 (.i 32)),u (.pk l4 l0 (.b false)),m l0,y 0 true (.fa v5 0),y 1 true (.ld l0 1 false),y 2 true (.ia l0 (.i 3) 1),y 3 true (.ld l0 1 false),y 4 true (.bin .eql l0 (.i 258)),u (.pk l5 l0 (.b false)),w 0 (.mv l0)] []) .ret))))),res:=[(0,none)]}
def bu:Fn:={ nargs:=1,vars:=[0,1,2,3,4,5,6],body:=(.seq (.reg [w 1 (.bx v0 4),w 2 (.mv (.b false))] []) (.seq (.reg [h 4 v1,u (.ca N.bC 0 [] [.l 0]),m l0,u (.ex l0 0),u (.ex l1 1),w 3 (.al [.t (.int .i64 (0)),.t (.int .i64 (0)),.nil] []),u (.st l0 l2 3 []),w 4 (.mv l2)] []) (.seq (.reg [h 4 v1,u (.ca N.bg 0 [] [.l 0]),m l0,u (.ex l0 0),u (.ex l1 1),w 5 (.al [.t (.int .i64 (0)),.t (.int .i64 (0)),.nil] []),u (.st l0 l2 3 []),w 6 (.mv l2)] []) (.seq (.reg [h 4 v1,u (.ca N.aN 0 [] [.l 0]),h 4 v1,u (.ca N.aD 0 [] [.l 0]),u (.eqk (.bool) false l2 l0),m l0,y 0 true (.mv v4),y 1 true (.mv v6),y 2 true (.bin .eql l1 l0),u (.pk l3 l0 (.b false)),m l0,y 0 true (.ld v3 3 true),y 1 true (.ld v5 3 true),y 2 true (.ca N.aF 0 [] [.l 1,.l 0]),u (.pk l3 l0 (.b false)),w 2 (.mv l0)] [(2,0)]) .ret)))),res:=[(2,none)]}
def bn:Fn:={ nargs:=1,vars:=[0,1,2,3,4,5,6],body:=(.seq (.reg [w 1 (.bx v0 3),w 2 (.mv (.b false))] []) (.seq (.reg [h 3 v1,u (.ca N.bj 0 [] [.l 0]),m l0,u (.ex l0 0),u (.ex l1 1),w 3 (.al [.t (.int .i64 (0)),.t (.int .i64 (0)),.t (.int .i64 (0)),.nil] []),u (.st l0 l2 4 []),w 4 (.mv l2)] []) (.seq (.reg [h 3 v1,u (.ca N.aQ 0 [] [.l 0]),m l0,u (.ex l0 0),u (.ex l1 1),w 5 (.al [.t (.int .i64 (0)),.t (.int .i64 (0)),.t (.int .i64 (0)),.nil] []),u (.st l0 l2 4 []),w 6 (.mv l2)] []) (.seq (.reg [m v4,m v6,u (.bin .eql l1 l0),m l0,y 0 true (.ld v3 4 true),y 1 true (.ld v5 4 true),y 2 true (.ca N.bo 0 [] [.l 1,.l 0]),u (.pk l3 l0 (.b false)),w 2 (.mv l0)] []) .ret)))),res:=[(2,none)]}
def cr:C:=(.seq (.ite [m v5,u (.bin .gtr l0 (.i 0))] [] 0 .skip (.exit 0)) (.seq (.blk 1 (.seq (.reg [m v4,m v0,u (.ca N.ax 0 [] [.l 0,.i 3]),u (.bin .add (.i 1) l0),u (.bin .add l3 l0),w 4 (.mv l0)] []) (.reg [f 3 v3,g l0,m v4,u (.bs [.l 0] 1),u (.app l2 l0 true 1),f 3 v3,u (.st l0 l1 1 [])] []))) (.reg [m v5,u (.bin .sub l0 (.i 1)),w 5 (.mv l0)] [])))
def cD:C:= .loop true [1] K.cr
def aB:Fn:={ nargs:=2,vars:=[0,1,4,5,6,7],body:=(.seq (.reg [w 2 (.al [.t (.int .i64 (0)),.t (.int .i64 (0)),.t (.int .i64 (0)),.nil] [])] []) (.seq (.reg [m v0,u (.ca N.ax 0 [] [.l 0,.i 3]),m v0,u (.ca N.ax 0 [] [.l 0,.i 20]),m v1,u (.bd [.t (.int .i64 (0)),.t (.int .i64 (0)),.t (.int .i64 (0)),.nil] [(0,1,.l 3),(1,1,.l 1),(2,1,.l 0)]),w 3 (.al [.t (.int .i64 (0)),.t (.int .i64 (0)),.t (.int .i64 (0)),.nil] [(3,1)]),u (.st l0 l1 4 [(3,1)])] []) (.seq (.reg [w 4 (.mv (.i 0))] []) (.seq (.seq (.reg [m v0,u (.ca N.ax 0 [] [.l 0,.i 4]),w 5 (.mv l0)] []) (.blk 0 K.cD)) (.seq (.reg [h 4 v3,u (.st v2 l0 4 [])] []) .ret))))),res:=[(2,some (4,true))]}
def dH:C:=(.seq (.ite [m v5,f 3 v1,g l0,u (.ln l0),u (.bin .lss l3 l0)] [] 0 .skip (.exit 0)) (.seq (.blk 1 (.reg [m v4,f 3 v1,g l0,m v5,a 1 l1 l0,g l0,u (.ca N.aO 1 [0] [.l 5,.l 0,.i 2]),w 4 (.mv l0)] [])) (.reg [m v5,u (.bin .add l0 (.i 1)),w 5 (.mv l0)] [])))
def gB:C:= .loop true [0,3] K.dH
def bg:Fn:={ nargs:=1,vars:=[0,1,2,3,4,5],body:=(.seq (.reg [w 1 (.bx v0 4),w 2 (.al [.t (.int .i64 (0)),.t (.int .i64 (0)),.nil] []),w 3 (.mv (.i 0))] []) (.seq (.ite [h 4 v1,u (.ca N.aD 0 [] [.l 0]),u (.un .not l0)] [] 0 (.seq (.reg [u (.bd [.t (.int .i64 (0)),.t (.int .i64 (0)),.nil] []),u (.st v2 l0 3 []),w 3 (.mv (.i 6))] []) .ret) .skip) (.seq (.reg [f 1 v1,g l0,u (.ca N.aO 1 [0] [.c (.nil),.l 0,.i 2]),f 2 v1,g l0,u (.ca N.aO 1 [0] [.l 2,.l 0,.i 6]),f 3 v1,g l0,u (.ln l0),u (.ca N.aO 1 [0] [.l 3,.l 0,.i 1]),w 4 (.mv l0)] [(4,0),(7,0),(7,3)]) (.seq (.seq (.reg [w 5 (.mv (.i 0))] []) (.blk 0 K.gB)) (.seq (.reg [f 0 v1,g l0,m v4,u (.bd [.t (.int .i64 (0)),.t (.int .i64 (0)),.nil] [(0,1,.l 1),(1,1,.i 9),(2,1,.l 0)]),u (.st v2 l0 3 []),w 3 (.mv (.i 0))] []) .ret))))),res:=[(2,some (3,true)),(3,none)]}
def cF:Fn:={ nargs:=0,vars:=[0],body:=(.seq (.reg [w 0 (.al [.nil,.nil] [])] []) (.seq (.reg [u (.bs [.i (-1)] 1),u (.ca N.aE 0 [] [.l 0,.i 32]),u (.mkt (.i 32) (.int .i64 (0)) 1),u (.bd [.nil,.nil] [(0,1,.l 1),(1,1,.l 0)]),u (.st v0 l0 2 [])] [(0,0),(2,0)]) .ret)),res:=[(0,some (2,true))]}
def aT:Fn:={ nargs:=1,vars:=[0,1,2],body:=(.seq (.reg [w 1 (.bx v0 2),w 2 (.mv (.b false))] []) (.seq (.reg [f 0 v1,g l0,u (.ln l0),u (.bin .eql l0 (.i 32)),m l0,y 0 true (.fa v1 1),y 1 true (.ld l0 1 false),y 2 true (.ln l0),y 3 true (.bin .eql l0 (.i 32)),u (.pk l4 l0 (.b false)),m l0,y 0 true (.fa v1 0),y 1 true (.ld l0 1 false),y 2 true (.ca N.aj 0 [] [.l 0,.c (.fn N.aI [])]),y 3 true (.un .not l0),u (.pk l4 l0 (.b false)),m l0,y 0 true (.fa v1 1),y 1 true (.ld l0 1 false),y 2 true (.ca N.aj 0 [] [.l 0,.c (.fn N.aJ [])]),y 3 true (.un .not l0),u (.pk l4 l0 (.b false)),w 2 (.mv l0)] []) .ret)),res:=[(2,none)]}
def c9:Fn:={ nargs:=2,vars:=[0,1,2,3,4,5,6,7,8],body:=(.seq (.reg [w 2 (.bx v0 2),w 3 (.bx v1 4),w 4 (.al [.nil,.nil] []),w 5 (.mv (.i 0))] []) (.seq (.blk 0 (.ite [h 2 v2,u (.ca N.aT 0 [] [.l 0]),u (.un .not l0),m l0] [] 0 (.seq (.reg [h 2 v2,u (.st v4 l0 2 []),w 5 (.mv (.i 10))] []) .ret) (.ite [h 4 v3,u (.ca N.aN 0 [] [.l 0]),u (.un .not l0),m l0] [] 0 (.seq (.reg [h 2 v2,u (.st v4 l0 2 []),w 5 (.mv (.i 6))] []) .ret) .skip))) (.seq (.reg [f 0 v2,g l0,f 0 v3,g l0,a 1 l2 l0,g l0,w 6 (.mv l0)] []) (.seq (.reg [f 1 v3,g l0,m v6,u (.bin .sub l1 l0),u (.bin .add l0 (.i 65536)),u (.bin .rem l0 (.i 65536)),w 7 (.mv l0)] []) (.seq (.ite [m v6,u (.bin .geq l0 (.i 0)),m l0,y 0 true (.mv v7),y 1 true (.bin .eql l0 (.i 0)),y 2 true (.mv l0),y 0 false (.mv v7),y 1 false (.bin .geq l0 (.i 32768)),y 5 true (.pk l2 (.b true) l0),u (.pk l6 l0 (.b false))] [] 0 (.seq (.reg [h 2 v2,u (.st v4 l0 2 []),w 5 (.mv (.i 42))] []) .ret) .skip) (.seq (.reg [w 8 (.al [.nil,.nil] []),f 0 v2,g l0,u (.ca N.aA 1 [] [.l 0]),f 1 v2,g l0,u (.ca N.aA 1 [] [.l 0]),u (.bd [.nil,.nil] [(0,1,.l 3),(1,1,.l 0)]),u (.st l7 l0 2 [])] [(0,4),(0,7),(5,1)]) (.seq (.reg [f 0 v8,g l0,f 0 v3,g l0,f 1 v3,g l0,a 1 l4 l2,u (.st l0 l1 1 [])] []) (.seq (.ite [m v6,u (.bin .geq l0 (.i 0))] [] 0 (.reg [f 1 v8,g l0,f 0 v3,g l0,f 1 v8,g l0,f 0 v3,g l0,a 1 l2 l0,g l0,m v7,u (.bin .add l1 l0),u (.bin .sub l0 (.i 1)),u (.mn [.l 0,.i 2147483648]),a 1 (.l 12) l10,u (.st l0 l1 1 [])] []) .skip) (.seq (.reg [h 2 v8,u (.st v4 l0 2 []),w 5 (.mv (.i 0))] []) .ret))))))))),res:=[(4,some (2,true)),(5,none)]}
def ed:C:=(.its [u (.bin .lss v8 v7)] [] 0 .skip (.exit 0) (.seq (.blk 1 (.seq (.reg [a 1 v6 v8,g l0,w 5 (.mv l0)] []) (.reg [m v4,m v5,u (.cv .u64 l0),u (.ca N.a8 1 [0] [.l 2,.l 0,.i 2]),w 4 (.mv l0)] []))) (.reg [u (.bin .add v8 (.i 1)),w 8 (.mv l0)] [])))
def iC:C:= .loop true [0,3,5] K.ed
def bC:Fn:={ nargs:=1,vars:=[0,1,2,3,4,6,28,29,30],body:=(.seq (.reg [w 1 (.bx v0 4),w 2 (.al [.t (.int .i64 (0)),.t (.int .i64 (0)),.nil] []),w 3 (.mv (.i 0))] []) (.seq (.ite [h 4 v1,u (.ca N.aN 0 [] [.l 0]),u (.un .not l0)] [] 0 (.seq (.reg [u (.bd [.t (.int .i64 (0)),.t (.int .i64 (0)),.nil] []),u (.st v2 l0 3 []),w 3 (.mv (.i 6))] []) .ret) .skip) (.seq (.reg [f 1 v1,g l0,u (.cv .u64 l0),u (.ca N.a8 1 [0] [.c (.nil),.l 0,.i 2]),w 4 (.mv l0)] []) (.seq (.reg [m v4,f 2 v1,g l0,u (.cv .u64 l0),u (.ca N.a8 1 [0] [.l 3,.l 0,.i 6]),w 4 (.mv l0)] []) (.seq (.reg [m v4,f 3 v1,g l0,u (.ln l0),u (.cv .u8 l0),u (.bs [.l 0] 1),u (.app l5 l0 true 1),w 4 (.mv l0)] []) (.seq (.seq (.reg [f 3 v1,w 6 (.ld l0 1 false),w 7 (.ln l0),w 8 (.mv (.i 0))] []) (.blk 0 K.iC)) (.seq (.reg [f 0 v1,g l0,m v4,u (.bd [.t (.int .i64 (0)),.t (.int .i64 (0)),.nil] [(0,1,.l 1),(1,1,.i 9),(2,1,.l 0)]),u (.st v2 l0 3 []),w 3 (.mv (.i 0))] []) .ret))))))),res:=[(2,some (3,true)),(3,none)]}
def aF:Fn:={ nargs:=2,vars:=[0,1,2,3,4],body:=(.seq (.reg [w 2 (.bx v0 3),w 3 (.bx v1 3),w 4 (.mv (.b false))] []) (.seq (.reg [f 0 v2,g l0,f 0 v3,g l0,u (.bin .eql l2 l0),m l0,y 0 true (.fa v2 1),y 1 true (.ld l0 1 false),y 2 true (.fa v3 1),y 3 true (.ld l0 1 false),y 4 true (.bin .eql l2 l0),u (.pk l5 l0 (.b false)),m l0,y 0 true (.fa v2 2),y 1 true (.ld l0 1 false),y 2 true (.bst l0),y 3 true (.fa v3 2),y 4 true (.ld l0 1 false),y 5 true (.bst l0),y 6 true (.eqk (.str) false l3 l0),u (.pk l7 l0 (.b false)),w 4 (.mv l0)] []) .ret)),res:=[(4,none)]}
def bo:Fn:={ nargs:=2,vars:=[0,1,2,3,4],body:=(.seq (.reg [w 2 (.bx v0 4),w 3 (.bx v1 4),w 4 (.mv (.b false))] []) (.seq (.reg [f 0 v2,g l0,f 0 v3,g l0,u (.bin .eql l2 l0),m l0,y 0 true (.fa v2 1),y 1 true (.ld l0 1 false),y 2 true (.fa v3 1),y 3 true (.ld l0 1 false),y 4 true (.bin .eql l2 l0),u (.pk l5 l0 (.b false)),m l0,y 0 true (.fa v2 2),y 1 true (.ld l0 1 false),y 2 true (.fa v3 2),y 3 true (.ld l0 1 false),y 4 true (.bin .eql l2 l0),u (.pk l5 l0 (.b false)),m l0,y 0 true (.fa v2 3),y 1 true (.ld l0 1 false),y 2 true (.fa v3 3),y 3 true (.ld l0 1 false),y 4 true (.ca N.aL 0 [] [.l 2,.l 0]),u (.pk l5 l0 (.b false)),w 4 (.mv l0)] []) .ret)),res:=[(4,none)]}
def dy:C:= .rng 6 7 N.ai [w 5 (.mv v7)] [] [f 3 v4,g l0,m v5,u (.ca N.aU 0 [] [.l 0]),u (.cv .i64 l0),u (.bs [.l 0] 1),u (.app l4 l0 true 1),f 3 v4,u (.st l0 l1 1 [])] [(1,4),(1,6)]
def xU:C:=K.dy
def bj:Fn:={ nargs:=1,vars:=[0,1,2,3,4,5,49,50],body:=(.seq (.reg [w 1 (.bx v0 3),w 2 (.al [.t (.int .i64 (0)),.t (.int .i64 (0)),.t (.int .i64 (0)),.nil] []),w 3 (.mv (.i 0))] []) (.seq (.ite [f 1 v1,g l0,u (.bin .neq l0 (.i 9))] [] 0 (.seq (.reg [u (.bd [.t (.int .i64 (0)),.t (.int .i64 (0)),.t (.int .i64 (0)),.nil] []),u (.st v2 l0 4 []),w 3 (.mv (.i 5))] []) .ret) .skip) (.seq (.ite [f 0 v1,g l0,u (.ca N.bQ 0 [] [.l 0,.i 0,.i 31]),u (.un .not l0)] [] 0 (.seq (.reg [u (.bd [.t (.int .i64 (0)),.t (.int .i64 (0)),.t (.int .i64 (0)),.nil] []),u (.st v2 l0 4 []),w 3 (.mv (.i 40))] []) .ret) .skip) (.seq (.ite [f 2 v1,g l0,u (.ln l0),u (.bin .lss l0 (.i 9)),m l0,y 0 false (.fa v1 2),y 1 false (.ld l0 1 false),y 2 false (.ln l0),y 3 false (.fa v1 2),y 4 false (.ld l0 1 false),y 5 false (.ia l0 (.i 8) 1),y 6 false (.ld l0 1 false),y 7 false (.cv .i64 l0),y 8 false (.bin .mul (.i 2) l0),y 9 false (.bin .add (.i 9) l0),y 10 false (.bin .neq l7 l0),u (.pk l11 (.b true) l0)] [] 0 (.seq (.reg [u (.bd [.t (.int .i64 (0)),.t (.int .i64 (0)),.t (.int .i64 (0)),.nil] []),u (.st v2 l0 4 []),w 3 (.mv (.i 6))] []) .ret) .skip) (.seq (.reg [w 4 (.al [.t (.int .i64 (0)),.t (.int .i64 (0)),.t (.int .i64 (0)),.nil] [(3,1)]),f 0 v1,g l0,f 2 v1,g l0,u (.sc l0 none (some (.i 2)) 1),u (.ca N.aU 0 [] [.l 0]),u (.cv .i64 l0),f 2 v1,g l0,u (.sc l0 (some (.i 2)) (some (.i 8)) 1),u (.ca N.aU 0 [] [.l 0]),u (.cv .i64 l0),u (.bd [.t (.int .i64 (0)),.t (.int .i64 (0)),.t (.int .i64 (0)),.nil] [(0,1,.l 10),(1,1,.l 5),(2,1,.l 0)]),u (.st (.l 13) l0 4 [(3,1)])] [(0,7),(0,12),(2,7),(2,12),(9,1),(10,1)]) (.seq (.seq (.reg [f 2 v1,g l0,u (.sc l0 (some (.i 9)) none 1),w 6 (.ca N.ao 0 [] [.l 0,.i 2])] []) (.blk 0 K.dy)) (.seq (.ite [h 4 v4,u (.ca N.aN 0 [] [.l 0]),u (.un .not l0)] [] 0 (.seq (.reg [u (.bd [.t (.int .i64 (0)),.t (.int .i64 (0)),.t (.int .i64 (0)),.nil] []),u (.st v2 l0 4 []),w 3 (.mv (.i 6))] []) .ret) .skip) (.seq (.reg [h 4 v4,u (.st v2 l0 4 []),w 3 (.mv (.i 0))] []) .ret)))))))),res:=[(2,some (4,true)),(3,none)]}
def aN:Fn:={ nargs:=1,vars:=[0,1,2],body:=(.seq (.reg [w 1 (.bx v0 4),w 2 (.mv (.b false))] []) (.seq (.reg [f 0 v1,g l0,u (.ca N.bQ 0 [] [.l 0,.i 0,.i 31]),m l0,y 0 true (.fa v1 1),y 1 true (.ld l0 1 false),y 2 true (.ca N.bQ 0 [] [.l 0,.i 0,.i 65535]),u (.pk l3 l0 (.b false)),m l0,y 0 true (.fa v1 2),y 1 true (.ld l0 1 false),y 2 true (.ca N.bQ 0 [] [.l 0,.i 0,.i 2147483648]),u (.pk l3 l0 (.b false)),m l0,y 0 true (.fa v1 3),y 1 true (.ld l0 1 false),y 2 true (.ln l0),y 3 true (.bin .leq l0 (.i 20)),u (.pk l4 l0 (.b false)),m l0,y 0 true (.fa v1 3),y 1 true (.ld l0 1 false),y 2 true (.ca N.bm 0 [] [.l 0,.i 1,.i 65535]),u (.pk l3 l0 (.b false)),w 2 (.mv l0)] []) .ret)),res:=[(2,none)]}
def ee:C:=(.seq (.ite [m v6,m v4,a 1 l0 (.i 8),g l0,u (.cv .i64 l0),u (.bin .lss l4 l0)] [] 0 .skip (.exit 1)) (.seq (.blk 2 (.reg [f 3 v5,g l0,m v4,m v6,u (.bin .mul (.i 2) l0),u (.bin .add (.i 9) l0),m v6,u (.bin .mul (.i 2) l0),u (.bin .add (.i 11) l0),u (.sc l6 (some l3) (some l0) 1),u (.ca N.bT 0 [] [.l 0]),u (.bs [.l 0] 1),u (.app l10 l0 true 1),f 3 v5,u (.st l0 l1 1 [])] [(1,11),(1,12)])) (.reg [m v6,u (.bin .add l0 (.i 1)),w 6 (.mv l0)] [])))
def iD:C:= .loop true [0,1,3] K.ee
def aQ:Fn:={ nargs:=1,vars:=[0,1,2,3,4,5,6],body:=(.seq (.reg [w 1 (.bx v0 3),w 2 (.al [.t (.int .i64 (0)),.t (.int .i64 (0)),.t (.int .i64 (0)),.nil] []),w 3 (.mv (.i 0))] []) (.seq (.reg [f 2 v1,g l0,w 4 (.mv l0)] []) (.seq (.blk 0 (.ite [f 1 v1,g l0,u (.bin .neq l0 (.i 9)),m l0] [] 0 (.seq (.reg [u (.bd [.t (.int .i64 (0)),.t (.int .i64 (0)),.t (.int .i64 (0)),.nil] []),u (.st v2 l0 4 []),w 3 (.mv (.i 5))] []) .ret) (.ite [f 0 v1,g l0,u (.bin .lss l0 (.i 0)),m l0,y 0 false (.fa v1 0),y 1 false (.ld l0 1 false),y 2 false (.bin .geq l0 (.i 32)),u (.pk l3 (.b true) l0),m l0] [] 0 (.seq (.reg [u (.bd [.t (.int .i64 (0)),.t (.int .i64 (0)),.t (.int .i64 (0)),.nil] []),u (.st v2 l0 4 []),w 3 (.mv (.i 40))] []) .ret) (.ite [m v4,u (.ln l0),u (.bin .lss l0 (.i 9)),m l0,y 0 false (.mv v4),y 1 false (.ln l0),y 2 false (.mv v4),y 3 false (.ia l0 (.i 8) 1),y 4 false (.ld l0 1 false),y 5 false (.cv .i64 l0),y 6 false (.bin .mul (.i 2) l0),y 7 false (.bin .add (.i 9) l0),y 8 false (.bin .neq l6 l0),u (.pk l9 (.b true) l0),m l0] [] 0 (.seq (.reg [u (.bd [.t (.int .i64 (0)),.t (.int .i64 (0)),.t (.int .i64 (0)),.nil] []),u (.st v2 l0 4 []),w 3 (.mv (.i 6))] []) .ret) .skip)))) (.seq (.reg [w 5 (.al [.t (.int .i64 (0)),.t (.int .i64 (0)),.t (.int .i64 (0)),.nil] [(3,1)]),f 0 v1,g l0,m v4,u (.sc l0 none (some (.i 2)) 1),u (.ca N.bT 0 [] [.l 0]),m v4,u (.sc l0 (some (.i 2)) (some (.i 8)) 1),u (.ca N.bT 0 [] [.l 0]),u (.bd [.t (.int .i64 (0)),.t (.int .i64 (0)),.t (.int .i64 (0)),.nil] [(0,1,.l 6),(1,1,.l 3),(2,1,.l 0)]),u (.st l9 l0 4 [(3,1)])] [(0,6),(0,9),(2,6),(2,9),(7,1)]) (.seq (.seq (.reg [w 6 (.mv (.i 0))] []) (.blk 1 K.iD)) (.seq (.ite [h 4 v5,u (.ca N.aD 0 [] [.l 0]),u (.un .not l0)] [] 0 (.seq (.reg [u (.bd [.t (.int .i64 (0)),.t (.int .i64 (0)),.t (.int .i64 (0)),.nil] []),u (.st v2 l0 4 []),w 3 (.mv (.i 6))] []) .ret) .skip) (.seq (.reg [h 4 v5,u (.st v2 l0 4 []),w 3 (.mv (.i 0))] []) .ret))))))),res:=[(2,some (4,true)),(3,none)]}
def cj:C:=(.seq (.ite [m v4,u (.bin .geq l0 (.i 0))] [] 0 .skip (.exit 0)) (.seq (.blk 1 (.reg [m v0,m v1,m v4,u (.bin .mul (.i 8) l0),u (.cv .u64 l0),u (.bin .shr l3 l0),u (.cv .u8 l0),u (.bs [.l 0] 1),u (.app l7 l0 true 1),w 0 (.mv l0)] [])) (.reg [m v4,u (.bin .sub l0 (.i 1)),w 4 (.mv l0)] [])))
def fI:C:= .loop false [2,3] K.cj
def aO:Fn:={ nargs:=3,vars:=[0,1,2,6,7],body:=(.seq (.reg [w 3 (.mv (.c (.nil)))] []) (.seq (.seq (.reg [m v2,u (.bin .sub l0 (.i 1)),w 4 (.mv l0)] []) (.blk 0 K.fI)) (.seq (.reg [m v0,w 3 (.mv l0)] []) .ret))),res:=[(3,none)]}
def aI:Fn:={ nargs:=1,vars:=[0,2],body:=(.seq (.reg [w 1 (.mv (.b false))] []) (.seq (.reg [m v0,u (.ca N.bQ 0 [] [.l 0,.i (-1),.i 65535]),u (.un .not l0),w 1 (.mv l0)] []) .ret)),res:=[(1,none)]}
def aJ:Fn:={ nargs:=1,vars:=[0,2],body:=(.seq (.reg [w 1 (.mv (.b false))] []) (.seq (.reg [m v0,u (.ca N.bQ 0 [] [.l 0,.i 0,.i 2147483648]),u (.un .not l0),w 1 (.mv l0)] []) .ret)),res:=[(1,none)]}
def ck:C:=(.seq (.ite [m v4,u (.bin .geq l0 (.i 0))] [] 0 .skip (.exit 0)) (.seq (.blk 1 (.reg [m v0,m v1,m v4,u (.bin .mul (.i 8) l0),u (.cv .u64 l0),u (.bin .shr l3 l0),u (.cv .u8 l0),u (.bs [.l 0] 1),u (.app l7 l0 true 1),w 0 (.mv l0)] [])) (.reg [m v4,u (.bin .sub l0 (.i 1)),w 4 (.mv l0)] [])))
def fJ:C:= .loop false [2,3] K.ck
def a8:Fn:={ nargs:=3,vars:=[0,1,2,6,7],body:=(.seq (.reg [w 3 (.mv (.c (.nil)))] []) (.seq (.seq (.reg [m v2,u (.bin .sub l0 (.i 1)),w 4 (.mv l0)] []) (.blk 0 K.fJ)) (.seq (.reg [m v0,w 3 (.mv l0)] []) .ret))),res:=[(3,none)]}
def di:C:=(.its [u (.bin .lss v6 v5)] [] 0 .skip (.exit 0) (.seq (.blk 1 (.seq (.reg [a 1 v4 v6,g l0,w 3 (.mv l0)] []) (.reg [m v2,u (.bin .shl l0 (.c (.t (.int .u64 (8))))),m v3,u (.cv .u64 l0),u (.bin .or l2 l0),w 2 (.mv l0)] []))) (.reg [u (.bin .add v6 (.i 1)),w 6 (.mv l0)] [])))
def fK:C:= .loop true [0,1,3] K.di
def aU:Fn:={ nargs:=1,vars:=[0,2,3,5,6,7,8],body:=(.seq (.reg [w 1 (.mv (.c (.t (.int .u64 (0)))))] []) (.seq (.reg [w 2 (.mv (.c (.t (.int .u64 (0)))))] []) (.seq (.seq (.reg [w 4 (.mv v0),w 5 (.ln l0),w 6 (.mv (.i 0))] []) (.blk 0 K.fK)) (.seq (.reg [m v2,w 1 (.mv l0)] []) .ret)))),res:=[(1,none)]}
def ao:Fn:={ nargs:=2,vars:=[0,1,2,3,4],body:=(.seq (.reg [w 2 (.bx v0 1),w 3 (.bx v1 1),w 4 (.mv (.c (.und)))] []) (.seq (.ite [g v3,u (.bin .lss l0 (.i 1))] [] 0 .fail .skip) (.seq (.reg [u (.mf N.ai [.v 2,.v 3]),w 4 (.mv l0)] []) .ret))),res:=[(4,none)]}
end Go.Ev.K
namespace Go.Ev
class ct [Lib]:Prop where
 dj:Lib.fs N.ay=some K.ay
 iE:Lib.fs N.bG=some K.bG
 eY:Lib.fs N.bu=some K.bu
 fL:Lib.fs N.bn=some K.bn
 bZ:Lib.fs N.aB=some K.aB
 eZ:Lib.fs N.bg=some K.bg
 jB:Lib.fs N.cF=some K.cF
 dU:Lib.fs N.aT=some K.aT
 kE:Lib.fs N.c9=some K.c9
 fM:Lib.fs N.bC=some K.bC
 cW:Lib.fs N.aF=some K.aF
 fN:Lib.fs N.bo=some K.bo
 gQ:Lib.fs N.bj=some K.bj
 fO:Lib.fs N.aN=some K.aN
 fP:Lib.fs N.aQ=some K.aQ
 e9:Lib.fs N.aO=some K.aO
 dn:Lib.fs N.aI=some K.aI
 dq:Lib.fs N.aJ=some K.aJ
 fb:Lib.fs N.a8=some K.a8
 ef:Lib.fs N.aU=some K.aU
 bM:Lib.fs N.ao=some K.ao
namespace K
variable [Lib] [ct]
theorem dj:Lib.fs N.ay=some K.ay:=ct.dj
theorem iE:Lib.fs N.bG=some K.bG:=ct.iE
theorem eY:Lib.fs N.bu=some K.bu:=ct.eY
theorem fL:Lib.fs N.bn=some K.bn:=ct.fL
theorem bZ:Lib.fs N.aB=some K.aB:=ct.bZ
theorem eZ:Lib.fs N.bg=some K.bg:=ct.eZ
theorem jB:Lib.fs N.cF=some K.cF:=ct.jB
theorem dU:Lib.fs N.aT=some K.aT:=ct.dU
theorem kE:Lib.fs N.c9=some K.c9:=ct.kE
theorem fM:Lib.fs N.bC=some K.bC:=ct.fM
theorem cW:Lib.fs N.aF=some K.aF:=ct.cW
theorem fN:Lib.fs N.bo=some K.bo:=ct.fN
theorem gQ:Lib.fs N.bj=some K.bj:=ct.gQ
theorem fO:Lib.fs N.aN=some K.aN:=ct.fO
theorem fP:Lib.fs N.aQ=some K.aQ:=ct.fP
theorem e9:Lib.fs N.aO=some K.aO:=ct.e9
theorem dn:Lib.fs N.aI=some K.aI:=ct.dn
theorem dq:Lib.fs N.aJ=some K.aJ:=ct.dq
theorem fb:Lib.fs N.a8=some K.a8:=ct.fb
theorem ef:Lib.fs N.aU=some K.aU:=ct.ef
theorem bM:Lib.fs N.ao=some K.ao:=ct.bM
end K
end Go.Ev
namespace Go.Ev.K
open Go.Ev
def fc:C:=(.seq (.ite [m v3,m v0,u (.ln l0),u (.bin .lss l2 l0)] [] 0 .skip (.exit 0)) (.seq (.blk 1 (.reg [m v2,u (.bin .shl l0 (.c (.t (.int .u64 (8))))),m v0,m v3,a 1 l1 l0,g l0,u (.cv .i64 l0),u (.bin .or l5 l0),w 2 (.mv l0)] [])) (.reg [m v3,u (.bin .add l0 (.i 1)),w 3 (.mv l0)] [])))
def jC:C:= .loop true [1] K.fc
def bT:Fn:={ nargs:=1,vars:=[0,2,3,4],body:=(.seq (.reg [w 1 (.mv (.i 0))] []) (.seq (.reg [w 2 (.mv (.i 0))] []) (.seq (.seq (.reg [w 3 (.mv (.i 0))] []) (.blk 0 K.jC)) (.seq (.reg [m v2,w 1 (.mv l0)] []) .ret)))),res:=[(1,none)]}
def ai:Fn:={ nargs:=3,vars:=[],body:= .fail,res:=[]}
end Go.Ev.K
namespace Go.Ev
class iF [Lib]:Prop where
 gR:Lib.fs N.bT=some K.bT
 cq:Lib.fs N.ai=some K.ai
namespace K
variable [Lib] [iF]
theorem gR:Lib.fs N.bT=some K.bT:=iF.gR
theorem cq:Lib.fs N.ai=some K.ai:=iF.cq
end K
end Go.Ev
namespace Go.Ev
open Go
variable [Lib] [dX] [eg] [qC] [pR] [nB] [nT] [qI] [pZ] [jc] [ct] [iF]
abbrev tB(l:List Int):T:= .sl (l.map (T.int .u8))
structure Rpt where
 reader:Int
 number:Int
 time:Int
 tags:List Int
abbrev Rpt.e(r:Rpt):T:= .agg [tI r.reader,tI r.number,tI r.time,tL r.tags]
structure Frm where
 addr:Int
 kind:Int
 data:List Int
abbrev Frm.e(f:Frm):T:= .agg [tI f.addr,tI f.kind,tB f.data]
structure Itk where
 last:List Int
 lost:List Int
abbrev Itk.e(x:Itk):T:= .agg [tL x.last,tL x.lost]
@[go_sem] theorem BG (l : List Int) : aG 1 (l.map (T.int .u8)) = true := c8 1 _ (fun _ => rfl) l
@[go_sem] theorem Kj (l : List Int) : dW 1 (l.map (T.int .u8)) = true := by cases l <;> rfl
abbrev dJ(l:List Int):Obj:= .arr 1 false 0 ((l.map (T.int .u8)).map .t)
def bw(v:Int)(n:Nat):List Int:=(List.range n).map fun k=>v / 256 ^ (n-1-k) % 256
theorem aW(v:Int)(n:Nat):(bw v n).length=n:=by simp[bw]
theorem jQ{v:Int}(hv:0≤v){i:Nat}(hi:i≤7):IntKind.u8.wrap (v.fdiv (2 ^ (8*i)))=v / 256 ^ i % 256:=by
 have e:(2:Int) ^ (8*i)=256 ^ i:=by rw[Int.pow_mul];rfl
 rw[e,Int.fdiv_eq_ediv_of_nonneg _ (Int.pow_nonneg (by omega))]
 simp only[IntKind.wrap,IntKind.bits,IntKind.signed]
 rfl
theorem wm(v:Int){n j:Nat}(hj:j<n):(bw v n)[j]?=some (v / 256 ^ (n-1-j) % 256):=by
 unfold bw
 rw[List.getElem?_map,List.getElem?_range hj];rfl
theorem iG(v:Int){n j:Nat}(hj:j<n):(bw v n).take (j+1)=(bw v n).take j++[v / 256 ^ (n-1-j) % 256]:=by
 rw[List.take_add_one,wm v hj];rfl
theorem wo(v:Int)(hv:0≤v)(n:Nat)(hn:n≤7)(h1:1≤n):bW 1 N.a8 [.nil,.t (.int .u64 v),I n] []=some (.ref 0 0 n,[dJ (bw v n)]):=by
 refine aV K.fb rfl ?_
 have lp:∀z2 z3:D,exS bW K.fJ ⟨[.nil,.t (.int .u64 v),z2,z3,I (n-1)],[]⟩=some (.exit 0,⟨[.ref 0 0 n,.t (.int .u64 v),.und,.und,I (-1)],[dJ (bw v n)]⟩):=by
  intro z2 z3
  refine dZ (fun j=>⟨[if j=0 then .nil else .ref 0 0 j,.t (.int .u64 v),.und,.und,I ((n:Int)-1-j)],if j=0 then []else [dJ ((bw v n).take j)]⟩) n (by simp only[if_true,Int.natCast_zero,Int.sub_zero];rfl) ?_ ?_ (by simp)
  · intro j hj
    have e2:(n:Int)-1-((j+1:Nat):Int)=(n:Int)-1-j-1:=by omega
    have sb:=jQ hv (i:=n-1-j) (by omega)
    rw[if_neg (Nat.succ_ne_zero j),if_neg (Nat.succ_ne_zero j),iG v hj,e2]
    have tl:((bw v n).take j).length=j:=by rw[List.length_take,aW];omega
    obtain⟨i,hi⟩:∃i,n-1-j=i:=⟨_,rfl⟩
    have e3:(n:Int)-1-j=i:=by omega
    rw[hi]at sb ⊢
    rw[e3]
    have i7:i≤7:=by omega
    have w8:IntKind.u64.wrap (8*(i:Int))=8*i:=by simp only[IntKind.wrap,IntKind.bits,IntKind.signed];simp;omega
    have mn:min (8*(i:Int)).toNat 64=8*i:=by omega
    generalize (bw v n).take j=q at*
    generalize v / 256 ^ i % 256=w at*
    cases j with
    | zero=>
      obtain rfl:q=[]:=List.eq_nil_of_length_eq_zero tl
      simp only[if_true,List.append_nil,dJ]
      simp (disch:=omega) only[go_sem,K.ck,↓reduceIte,List.map_append,List.map_cons,List.map_nil,w8,mn,sb,Nat.reduceAdd,Nat.reduceSub]
    | succ j=>
      rw[if_neg (Nat.succ_ne_zero j),if_neg (Nat.succ_ne_zero j)]
      simp only[dJ]
      simp (disch:=omega) only[go_sem,K.ck,↓reduceIte,tl,List.map_append,List.map_cons,List.map_nil,w8,mn,sb,Nat.reduceAdd,Nat.reduceSub]
  · have e0:(bw v n).take n=bw v n:=List.take_of_length_le (by rw[aW];omega)
    have e1:(n:Int)-1-n= -1:=by omega
    rw[if_neg (by omega),if_neg (by omega),e0,e1]
    simp (disch:=omega) only[go_sem,K.ck,↓reduceIte,Nat.reduceAdd,Nat.reduceSub]
 have hl:(bw v n).length=n:=aW v n
 generalize bw v n=L at*
 simp only[dJ]at*
 simp (disch:=omega) only[go_sem,K.a8,↓reduceIte,lp,Nat.reduceAdd,Nat.reduceSub]
theorem p5(bs:List Int)(hb:bs.length≤1000000)(v:Int)(hv:0≤v)(n:Nat)(hn:n≤7):bW 1 N.a8 [.ref 0 0 bs.length,.t (.int .u64 v),I n] [dJ bs]=some (.ref 0 0 (bs++bw v n).length,[dJ (bs++bw v n)]):=by
 refine aV K.fb rfl ?_
 have lp:∀z2 z3:D,exS bW K.fJ ⟨[.ref 0 0 bs.length,.t (.int .u64 v),z2,z3,I (n-1)],[dJ bs]⟩=some (.exit 0,⟨[.ref 0 0 (bs++bw v n).length,.t (.int .u64 v),.und,.und,I (-1)],[dJ (bs++bw v n)]⟩):=by
  intro z2 z3
  refine dZ (fun j=>⟨[.ref 0 0 (bs++(bw v n).take j).length,.t (.int .u64 v),.und,.und,I ((n:Int)-1-j)],[dJ (bs++(bw v n).take j)]⟩) n (by simp only[Int.natCast_zero,Int.sub_zero,List.take_zero,List.append_nil];rfl) ?_ ?_ (by simp)
  · intro j hj
    have e2:(n:Int)-1-((j+1:Nat):Int)=(n:Int)-1-j-1:=by omega
    have sb:=jQ hv (i:=n-1-j) (by omega)
    rw[iG v hj,e2,←List.append_assoc]
    have tl:(bs++(bw v n).take j).length≤1000010:=by rw[List.length_append,List.length_take,aW];omega
    obtain⟨i,hi⟩:∃i,n-1-j=i:=⟨_,rfl⟩
    have e3:(n:Int)-1-j=i:=by omega
    rw[hi]at sb ⊢
    rw[e3]
    have i7:i≤7:=by omega
    have w8:IntKind.u64.wrap (8*(i:Int))=8*i:=by simp only[IntKind.wrap,IntKind.bits,IntKind.signed];simp;omega
    have mn:min (8*(i:Int)).toNat 64=8*i:=by omega
    generalize bs++(bw v n).take j=q at*
    generalize v / 256 ^ i % 256=w at*
    simp only[dJ,List.length_append,List.length_cons,List.length_nil]
    simp (disch:=omega) only[go_sem,K.ck,↓reduceIte,List.map_append,List.map_cons,List.map_nil,w8,mn,sb,Nat.reduceAdd,Nat.reduceSub]
  · have e0:(bw v n).take n=bw v n:=List.take_of_length_le (by rw[aW];omega)
    have e1:(n:Int)-1-n= -1:=by omega
    rw[e0,e1]
    simp (disch:=omega) only[go_sem,K.ck,↓reduceIte,Nat.reduceAdd,Nat.reduceSub]
 have hl:(bs++bw v n).length=bs.length+n:=by rw[List.length_append,aW]
 generalize bs++bw v n=L at*
 simp only[dJ]at*
 simp (disch:=omega) only[go_sem,K.a8,↓reduceIte,lp,Nat.reduceAdd,Nat.reduceSub]
theorem wq(v:Int)(hv:0≤v)(n:Nat)(hn:n≤7)(h1:1≤n):bW 1 N.aO [.nil,.t (.int .i64 v),I n] []=some (.ref 0 0 n,[dJ (bw v n)]):=by
 refine aV K.e9 rfl ?_
 have lp:∀z2 z3:D,exS bW K.fI ⟨[.nil,.t (.int .i64 v),z2,z3,I (n-1)],[]⟩=some (.exit 0,⟨[.ref 0 0 n,.t (.int .i64 v),.und,.und,I (-1)],[dJ (bw v n)]⟩):=by
  intro z2 z3
  refine dZ (fun j=>⟨[if j=0 then .nil else .ref 0 0 j,.t (.int .i64 v),.und,.und,I ((n:Int)-1-j)],if j=0 then []else [dJ ((bw v n).take j)]⟩) n (by simp only[if_true,Int.natCast_zero,Int.sub_zero];rfl) ?_ ?_ (by simp)
  · intro j hj
    have e2:(n:Int)-1-((j+1:Nat):Int)=(n:Int)-1-j-1:=by omega
    have sb:=jQ hv (i:=n-1-j) (by omega)
    rw[if_neg (Nat.succ_ne_zero j),if_neg (Nat.succ_ne_zero j),iG v hj,e2]
    have tl:((bw v n).take j).length=j:=by rw[List.length_take,aW];omega
    obtain⟨i,hi⟩:∃i,n-1-j=i:=⟨_,rfl⟩
    have e3:(n:Int)-1-j=i:=by omega
    rw[hi]at sb ⊢
    rw[e3]
    have i7:i≤7:=by omega
    have w8:IntKind.u64.wrap (8*(i:Int))=8*i:=by simp only[IntKind.wrap,IntKind.bits,IntKind.signed];simp;omega
    have mn:min (8*(i:Int)).toNat 64=8*i:=by omega
    generalize (bw v n).take j=q at*
    generalize v / 256 ^ i % 256=w at*
    cases j with
    | zero=>
      obtain rfl:q=[]:=List.eq_nil_of_length_eq_zero tl
      simp only[if_true,List.append_nil,dJ]
      simp (disch:=omega) only[go_sem,K.cj,↓reduceIte,List.map_append,List.map_cons,List.map_nil,w8,mn,sb,Nat.reduceAdd,Nat.reduceSub]
    | succ j=>
      rw[if_neg (Nat.succ_ne_zero j),if_neg (Nat.succ_ne_zero j)]
      simp only[dJ]
      simp (disch:=omega) only[go_sem,K.cj,↓reduceIte,tl,List.map_append,List.map_cons,List.map_nil,w8,mn,sb,Nat.reduceAdd,Nat.reduceSub]
  · have e0:(bw v n).take n=bw v n:=List.take_of_length_le (by rw[aW];omega)
    have e1:(n:Int)-1-n= -1:=by omega
    rw[if_neg (by omega),if_neg (by omega),e0,e1]
    simp (disch:=omega) only[go_sem,K.cj,↓reduceIte,Nat.reduceAdd,Nat.reduceSub]
 have hl:(bw v n).length=n:=aW v n
 generalize bw v n=L at*
 simp only[dJ]at*
 simp (disch:=omega) only[go_sem,K.aO,↓reduceIte,lp,Nat.reduceAdd,Nat.reduceSub]
theorem mh(bs:List Int)(hb:bs.length≤1000000)(v:Int)(hv:0≤v)(n:Nat)(hn:n≤7):bW 1 N.aO [.ref 0 0 bs.length,.t (.int .i64 v),I n] [dJ bs]=some (.ref 0 0 (bs++bw v n).length,[dJ (bs++bw v n)]):=by
 refine aV K.e9 rfl ?_
 have lp:∀z2 z3:D,exS bW K.fI ⟨[.ref 0 0 bs.length,.t (.int .i64 v),z2,z3,I (n-1)],[dJ bs]⟩=some (.exit 0,⟨[.ref 0 0 (bs++bw v n).length,.t (.int .i64 v),.und,.und,I (-1)],[dJ (bs++bw v n)]⟩):=by
  intro z2 z3
  refine dZ (fun j=>⟨[.ref 0 0 (bs++(bw v n).take j).length,.t (.int .i64 v),.und,.und,I ((n:Int)-1-j)],[dJ (bs++(bw v n).take j)]⟩) n (by simp only[Int.natCast_zero,Int.sub_zero,List.take_zero,List.append_nil];rfl) ?_ ?_ (by simp)
  · intro j hj
    have e2:(n:Int)-1-((j+1:Nat):Int)=(n:Int)-1-j-1:=by omega
    have sb:=jQ hv (i:=n-1-j) (by omega)
    rw[iG v hj,e2,←List.append_assoc]
    have tl:(bs++(bw v n).take j).length≤1000010:=by rw[List.length_append,List.length_take,aW];omega
    obtain⟨i,hi⟩:∃i,n-1-j=i:=⟨_,rfl⟩
    have e3:(n:Int)-1-j=i:=by omega
    rw[hi]at sb ⊢
    rw[e3]
    have i7:i≤7:=by omega
    have w8:IntKind.u64.wrap (8*(i:Int))=8*i:=by simp only[IntKind.wrap,IntKind.bits,IntKind.signed];simp;omega
    have mn:min (8*(i:Int)).toNat 64=8*i:=by omega
    generalize bs++(bw v n).take j=q at*
    generalize v / 256 ^ i % 256=w at*
    simp only[dJ,List.length_append,List.length_cons,List.length_nil]
    simp (disch:=omega) only[go_sem,K.cj,↓reduceIte,List.map_append,List.map_cons,List.map_nil,w8,mn,sb,Nat.reduceAdd,Nat.reduceSub]
  · have e0:(bw v n).take n=bw v n:=List.take_of_length_le (by rw[aW];omega)
    have e1:(n:Int)-1-n= -1:=by omega
    rw[e0,e1]
    simp (disch:=omega) only[go_sem,K.cj,↓reduceIte,Nat.reduceAdd,Nat.reduceSub]
 have hl:(bs++bw v n).length=bs.length+n:=by rw[List.length_append,aW]
 generalize bs++bw v n=L at*
 simp only[dJ]at*
 simp (disch:=omega) only[go_sem,K.aO,↓reduceIte,lp,Nat.reduceAdd,Nat.reduceSub]
def dr(bs:List Int):Int:=bs.foldl (fun v x=>v*256+x) 0
def gn(bs:List Int):Prop:=∀x∈bs,0≤x∧x<256
theorem tx(bs:List Int)(x:Int):dr (bs++[x])=dr bs*256+x:=by simp[dr]
theorem mi:∀(bs:List Int) (v:Int),gn bs→0≤v→0≤bs.foldl (fun v x=>v*256+x) v∧bs.foldl (fun v x=>v*256+x) v<(v+1)*256 ^ bs.length
 | [],v,_,hv=>by simp;omega
 | x::r,v,h,hv=>by
   have hx:=h x (by simp)
   have:=mi r (v*256+x) (fun y hy=>h y (by simp[hy])) (by omega)
   refine⟨this.1,Int.lt_of_lt_of_le this.2 ?_⟩
   rw[List.length_cons,Int.pow_succ,Int.mul_comm (256 ^ r.length) 256,←Int.mul_assoc]
   exact Int.mul_le_mul_of_nonneg_right (by omega) (Int.pow_nonneg (by omega))
theorem HB{m:Nat}(h:m≤6):(256:Int) ^ m≤281474976710656:=by
 have:m=0∨m=1∨m=2∨m=3∨m=4∨m=5∨m=6:=by omega
 rcases this with rfl | rfl | rfl | rfl | rfl | rfl | rfl<;>decide
theorem oS{bs:List Int}(h:gn bs)(hl:bs.length≤6):0≤dr bs∧dr bs<281474976710656:=by
 have:=mi bs 0 h (by omega)
 have h2:=HB hl
 unfold dr
 omega
theorem wt{bs:List Int}(h:gn bs)(hl:bs.length≤5):0≤dr bs∧dr bs<1099511627776:=by
 have:=mi bs 0 h (by omega)
 have h2:(256:Int) ^ bs.length≤1099511627776:=by
  generalize bs.length=m at hl
  have:m=0∨m=1∨m=2∨m=3∨m=4∨m=5:=by omega
  rcases this with rfl | rfl | rfl | rfl | rfl | rfl<;>decide
 unfold dr
 omega
theorem M4(a x:Nat)(ha:a<1099511627776)(hx:x<256):(BitVec.ofInt 64 ((a*256:Nat):Int) ||| BitVec.ofInt 64 (x:Int)).toNat=a*256+x:=by
 have h1:(BitVec.ofInt 64 ((a*256:Nat):Int)).toNat=a*256:=by
  rw[BitVec.ofInt_natCast,BitVec.toNat_ofNat];exact Nat.mod_eq_of_lt (by omega)
 have h2:(BitVec.ofInt 64 (x:Int)).toNat=x:=by
  rw[BitVec.ofInt_natCast,BitVec.toNat_ofNat];exact Nat.mod_eq_of_lt (by omega)
 rw[BitVec.toNat_or,h1,h2]
 have:a*256=a <<< 8:=by rw[Nat.shiftLeft_eq]
 rw[this,←Nat.shiftLeft_add_eq_or_of_lt (by omega)]
theorem tz{a x:Int}(ha:0≤a)(ha2:a<1099511627776)(hx:0≤x)(hx2:x<256):(BitVec.ofInt 64 (a*256) ||| BitVec.ofInt 64 x).toNat=a*256+x:=by
 obtain⟨a,rfl⟩:=Int.eq_ofNat_of_zero_le ha
 obtain⟨x,rfl⟩:=Int.eq_ofNat_of_zero_le hx
 have:=M4 a x (by omega) (by omega)
 have e:((a:Nat):Int)*256=((a*256:Nat):Int):=by omega
 rw[e,this]
 omega
theorem Ep{a:Int}(h:0≤a)(h2:a<18446744073709551616):IntKind.u64.wrap a=a:=by
 simp only[IntKind.wrap,IntKind.bits,IntKind.signed];simp;omega
theorem nV{a:Int}(h:0≤a)(h2:a<9223372036854775808):IntKind.i64.wrap a=a:=by
 simp only[IntKind.wrap,IntKind.bits,IntKind.signed];simp;omega
theorem nD{bs:List Int}(h:gn bs)(hl:bs.length≤6){j:Nat}(hj:j<bs.length):
 0≤dr (bs.take j)∧dr (bs.take j)<1099511627776∧0≤nth bs j∧nth bs j<256∧dr (bs.take (j+1))=dr (bs.take j)*256+nth bs j:=by
 have hb:gn (bs.take j):=fun x hx=>h x (List.mem_of_mem_take hx)
 have:=wt hb (by rw[List.length_take];omega)
 have hx:=h _ (eU hj)
 refine⟨this.1,this.2,hx.1,hx.2,?_⟩
 rw[me hj,tx]
theorem kF(bs:List Int)(h:gn bs)(hl:bs.length≤6):bW 0 N.aU [.t (tB bs)] []=some (.t (.int .u64 (dr bs)),[]):=by
 refine aV K.ef rfl ?_
 have tk:bs.take bs.length=bs:=List.take_length
 have lp:∀z0 z1 z3:D,exS bW K.fK ⟨[z0,z1,.t (.int .u64 0),z3,.t (tB bs),I bs.length,I 0],[]⟩=
  some (.exit 0,⟨[.und,.und,.t (.int .u64 (dr bs)),.und,.t (tB bs),I bs.length,I bs.length],[]⟩):=by
  intro z0 z1 z3
  refine dZ (fun j=>⟨[.und,.und,.t (.int .u64 (dr (bs.take j))),.und,.t (tB bs),I bs.length,I j],[]⟩) bs.length rfl ?_ ?_ (by simp)
  · intro j hj
    have ex:(bs.map (T.int .u8))[j]?=some (.int .u8 (nth bs j)):=cV _ hj
    obtain⟨a1,a2,x1,x2,st⟩:=nD h hl hj
    have ob:=tz a1 a2 x1 x2
    have e8:(2:Int) ^ min (Int.toNat 8) 64=256:=by decide
    have w1:=Ep (a:=dr (bs.take j)*256) (by omega) (by omega)
    have w2:=Ep (a:=nth bs j) (by omega) (by omega)
    have w3:=Ep (a:=dr (bs.take j)*256+nth bs j) (by omega) (by omega)
    rw[st]
    generalize dr (bs.take j)=a at*
    generalize nth bs j=x at*
    simp (disch:=omega) only[go_sem,K.di,↓reduceIte,ex,e8,w1,w2,Nat.reduceAdd,Nat.reduceSub]
    erw [ob,w3]
  · rw[tk]
    simp (disch:=omega) only[go_sem,K.di,↓reduceIte,Nat.reduceAdd,Nat.reduceSub]
 simp (disch:=omega) only[go_sem,K.aU,↓reduceIte,lp,Nat.reduceAdd,Nat.reduceSub]
theorem oT(bs:List Int)(h:gn bs)(hl:bs.length≤6):bW 0 N.bT [.t (tB bs)] []=some (I (dr bs),[]):=by
 refine aV K.gR rfl ?_
 have tk:bs.take bs.length=bs:=List.take_length
 have lp:∀z1:D,exS bW K.jC ⟨[.t (tB bs),z1,I 0,I 0],[]⟩=
  some (.exit 0,⟨[.t (tB bs),.und,I (dr bs),I bs.length],[]⟩):=by
  intro z1
  refine dZ (fun j=>⟨[.t (tB bs),.und,I (dr (bs.take j)),I j],[]⟩) bs.length rfl ?_ ?_ (by simp)
  · intro j hj
    have ex:(bs.map (T.int .u8))[j]?=some (.int .u8 (nth bs j)):=cV _ hj
    obtain⟨a1,a2,x1,x2,st⟩:=nD h hl hj
    have ob:=tz a1 a2 x1 x2
    have e8:(2:Int) ^ min (Int.toNat 8) 64=256:=by decide
    have w1:=nV (a:=dr (bs.take j)*256) (by omega) (by omega)
    have w2:=nV (a:=nth bs j) (by omega) (by omega)
    have w3:=nV (a:=dr (bs.take j)*256+nth bs j) (by omega) (by omega)
    rw[st]
    generalize dr (bs.take j)=a at*
    generalize nth bs j=x at*
    simp (disch:=omega) only[go_sem,K.fc,↓reduceIte,ex,e8,w1,w2,Nat.reduceAdd,Nat.reduceSub]
    erw [ob,w3]
  · rw[tk]
    simp (disch:=omega) only[go_sem,K.fc,↓reduceIte,Nat.reduceAdd,Nat.reduceSub]
 simp (disch:=omega) only[go_sem,K.bT,↓reduceIte,lp,Nat.reduceAdd,Nat.reduceSub]
def nE(r:Rpt):Bool:=decide (0≤r.reader∧r.reader≤31)&&(decide (0≤r.number∧r.number≤65535)&&(decide (0≤r.time∧r.time≤2147483648)&&(decide (r.tags.length≤20)&&rf r.tags 1 65535)))
theorem jd(r:Rpt)(hl:r.tags.length≤1000000):bW 0 N.aN [.t r.e] []=some (B (nE r),[]):=by
 refine aV K.fO rfl ?_
 have i1:=vC r.reader 0 31
 have i2:=vC r.number 0 65535
 have i3:=vC r.time 0 2147483648
 have i4:=sQ r.tags 1 65535 (by omega)
 unfold nE
 obtain⟨reader,number,time,tags⟩:=r
 simp only at*
 generalize rf tags 1 65535=b4 at*
 generalize decide (0≤reader∧reader≤31)=b1 at*
 generalize decide (0≤number∧number≤65535)=b2 at*
 generalize decide (0≤time∧time≤2147483648)=b3 at*
 cases b1 with
 | false=>simp (disch:=omega) only[go_sem,K.aN,↓reduceIte,i1,Bool.false_and,Nat.reduceAdd,Nat.reduceSub]
 | true=>
   cases b2 with
   | false=>simp (disch:=omega) only[go_sem,K.aN,↓reduceIte,i1,i2,Bool.false_and,Bool.true_and,Nat.reduceAdd,Nat.reduceSub]
   | true=>
     cases b3 with
     | false=>simp (disch:=omega) only[go_sem,K.aN,↓reduceIte,i1,i2,i3,Bool.false_and,Bool.true_and,Nat.reduceAdd,Nat.reduceSub]
     | true=>
       by_cases c:tags.length≤20
       · simp (disch:=omega) only[go_sem,K.aN,↓reduceIte,i1,i2,i3,i4,c,decide_true,Bool.true_and,Nat.reduceAdd,Nat.reduceSub]
       · simp (disch:=omega) only[go_sem,K.aN,↓reduceIte,i1,i2,i3,c,decide_false,Bool.true_and,Bool.false_and,Nat.reduceAdd,Nat.reduceSub]
theorem kG(r:Rpt)(hl:r.tags.length≤1000000):bW 0 N.aD [.t r.e] []=some (B (nE r),[]):=by
 refine aV K.eX rfl ?_
 have lp:=fun z0 z2:D=>nu (gc:=true) (dead:=[0,2]) (c:=K.a7) (vs:=[z0,.bp 0 0,z2,I 0]) (H:=[.box [I r.reader,I r.number,I r.time,.t (tL r.tags)]])
  (fun j=>⟨[.und,.bp 0 0,.und,I j],[.box [I r.reader,I r.number,I r.time,.t (tL r.tags)]]⟩) r.tags.length (nS r.tags 1 65535)
  (fun j=>(.ret,⟨[.und,.bp 0 0,B false,I j],[.box [I r.reader,I r.number,I r.time,.t (tL r.tags)]]⟩))
  (.exit 0,⟨[.und,.bp 0 0,.und,I r.tags.length],[.box [I r.reader,I r.number,I r.time,.t (tL r.tags)]]⟩) rfl
  (fun j hj hq=>by
   have ex:(r.tags.map (T.int .i64))[j]?=some (.int .i64 (nth r.tags j)):=cV _ hj
   obtain⟨reader,number,time,tags⟩:=r
   simp only[nS,Bool.not_eq_false',decide_eq_true_eq]at*
   obtain⟨q1,q2,q3⟩:=hq
   cases j with
   | zero=>
     generalize nth tags 0=y at*
     simp (disch:=omega) only[go_sem,K.a7,↓reduceIte,ex,List.map_cons,List.map_nil,Nat.reduceAdd,Nat.reduceSub]
   | succ j=>
     have ex2:(tags.map (T.int .i64))[j]?=some (.int .i64 (nth tags j)):=cV _ (by omega)
     have q4:=q3 (by omega)
     simp only[Nat.add_sub_cancel]at q4
     clear q3
     generalize nth tags (j+1)=y at*
     generalize nth tags j=x at*
     have e:((j+1:Nat):Int)-1=j:=by omega
     have g:((j+1:Nat):Int)>0:=by omega
     simp (disch:=omega) only[go_sem,K.a7,↓reduceIte,ex,ex2,e,g,Nat.reduceAdd,Nat.reduceSub]
   )
  (fun j hj hq=>by
   have ex:(r.tags.map (T.int .i64))[j]?=some (.int .i64 (nth r.tags j)):=cV _ hj
   obtain⟨reader,number,time,tags⟩:=r
   simp only[nS,Bool.not_eq_true',decide_eq_false_iff_not]at*
   refine⟨?_,by simp⟩
   by_cases c1:nth tags j<1
   · simp (disch:=omega) only[go_sem,K.a7,↓reduceIte,ex,c1,Nat.reduceAdd,Nat.reduceSub]
   · by_cases c2:nth tags j>65535
     · simp (disch:=omega) only[go_sem,K.a7,↓reduceIte,ex,c1,c2,Nat.reduceAdd,Nat.reduceSub]
     · cases j with
       | zero=>exact absurd ⟨by omega,by omega,fun h=>by omega⟩ hq
       | succ j=>
         have ex2:(tags.map (T.int .i64))[j]?=some (.int .i64 (nth tags j)):=cV _ (by omega)
         have q4:nth tags (j+1)≤nth tags j:=by
          rcases Int.lt_or_le (nth tags j) (nth tags (j+1))with h | h
          · exact absurd ⟨by omega,by omega,fun _=>h⟩ hq
          · exact h
         clear hq
         generalize nth tags (j+1)=y at*
         generalize nth tags j=x at*
         have e:((j+1:Nat):Int)-1=j:=by omega
         have g:((j+1:Nat):Int)>0:=by omega
         simp (disch:=omega) only[go_sem,K.a7,↓reduceIte,ex,ex2,e,g,c1,c2,Nat.reduceAdd,Nat.reduceSub]
   )
  (by
   obtain⟨reader,number,time,tags⟩:=r
   simp (disch:=omega) only[go_sem,K.a7,↓reduceIte,Nat.reduceAdd,Nat.reduceSub]
   ) (by simp)
 have lp2:∀z0 z2:D,exS bW K.gA _=_:=lp
 clear lp
 unfold nE rf
 cases hq:(List.range r.tags.length).any (nS r.tags 1 65535)with
 | true=>
   rw[hq]at lp2
   simp only[if_true]at lp2
   generalize lE r.tags.length (nS r.tags 1 65535)=j at*
   obtain⟨reader,number,time,tags⟩:=r
   simp only[Bool.not_true,Bool.and_false]at*
   simp (disch:=omega) only[go_sem,K.aD,↓reduceIte,lp2,Nat.reduceAdd,Nat.reduceSub]
 | false=>
   rw[hq]at lp2
   simp only[Bool.false_eq_true,if_false]at lp2
   obtain⟨reader,number,time,tags⟩:=r
   simp only[Bool.not_false,Bool.and_true]at*
   by_cases c1:0≤reader
   · by_cases c2:reader≤31
     · rw[decide_eq_true (show 0≤reader∧reader≤31 from⟨c1,c2⟩)]
       by_cases c3:0≤number
       · by_cases c4:number≤65535
         · rw[decide_eq_true (show 0≤number∧number≤65535 from⟨c3,c4⟩)]
           by_cases c5:0≤time
           · by_cases c6:time≤2147483648
             · rw[decide_eq_true (show 0≤time∧time≤2147483648 from⟨c5,c6⟩)]
               simp only[Bool.true_and]
               by_cases c7:tags.length≤20
               · rw[decide_eq_true c7]
                 simp (disch:=omega) only[go_sem,K.aD,↓reduceIte,lp2,Nat.reduceAdd,Nat.reduceSub]
               · rw[decide_eq_false c7]
                 simp (disch:=omega) only[go_sem,K.aD,↓reduceIte,lp2,Nat.reduceAdd,Nat.reduceSub]
             · rw[decide_eq_false (show ¬(0≤time∧time≤2147483648)from fun h=>c6 h.2)]
               simp only[Bool.true_and,Bool.false_and]
               simp (disch:=omega) only[go_sem,K.aD,↓reduceIte,lp2,Nat.reduceAdd,Nat.reduceSub]
           · rw[decide_eq_false (show ¬(0≤time∧time≤2147483648)from fun h=>c5 h.1)]
             simp only[Bool.true_and,Bool.false_and]
             simp (disch:=omega) only[go_sem,K.aD,↓reduceIte,lp2,Nat.reduceAdd,Nat.reduceSub]
         · rw[decide_eq_false (show ¬(0≤number∧number≤65535)from fun h=>c4 h.2)]
           simp only[Bool.true_and,Bool.false_and]
           simp (disch:=omega) only[go_sem,K.aD,↓reduceIte,lp2,Nat.reduceAdd,Nat.reduceSub]
       · rw[decide_eq_false (show ¬(0≤number∧number≤65535)from fun h=>c3 h.1)]
         simp only[Bool.true_and,Bool.false_and]
         simp (disch:=omega) only[go_sem,K.aD,↓reduceIte,lp2,Nat.reduceAdd,Nat.reduceSub]
     · rw[decide_eq_false (show ¬(0≤reader∧reader≤31)from fun h=>c2 h.2)]
       simp only[Bool.false_and]
       simp (disch:=omega) only[go_sem,K.aD,↓reduceIte,lp2,Nat.reduceAdd,Nat.reduceSub]
   · rw[decide_eq_false (show ¬(0≤reader∧reader≤31)from fun h=>c1 h.1)]
     simp only[Bool.false_and]
     simp (disch:=omega) only[go_sem,K.aD,↓reduceIte,lp2,Nat.reduceAdd,Nat.reduceSub]
def eC(l:List Int):List Int:=l.flatMap fun t=>bw t 2
def dM(r:Rpt):List Int:=bw r.number 2++bw r.time 6++[(r.tags.length:Int)]
def gp(r:Rpt):List Int:=dM r++eC r.tags
def gC(r:Rpt):Frm×Int:=if nE r then(⟨r.reader,9,gp r⟩,0)else(⟨0,0,[]⟩,6)
theorem iH:∀l:List Int,(eC l).length=2*l.length
 | []=>rfl
 | x::l=>by simp only[eC,List.flatMap_cons,List.length_append,aW,List.length_cons];have:=iH l;unfold eC at this;omega
theorem eD(r:Rpt):(dM r).length=9:=by simp[dM,aW]
theorem kH(r:Rpt):(gp r).length=9+2*r.tags.length:=by rw[gp,List.length_append,eD,iH]
structure Rpt.ok(r:Rpt):Prop where
 r1:0≤r.reader
 r2:r.reader≤31
 n1:0≤r.number
 n2:r.number≤65535
 t1:0≤r.time
 t2:r.time≤2147483648
 l:r.tags.length≤20
 g1:∀x∈r.tags,1≤x
 g2:∀x∈r.tags,x≤65535
theorem tA{l:List Int}{lo hi:Int}(h:rf l lo hi=true){x:Int}(hx:x∈l):lo≤x∧x≤hi:=by
 unfold rf at h
 rw[Bool.not_eq_true',List.any_eq_false]at h
 obtain⟨j,hj,rfl⟩:=List.getElem_of_mem hx
 have:=h j (List.mem_range.2 hj)
 simp only[nS,Bool.not_eq_true',decide_eq_false_iff_not,Decidable.not_not]at this
 rw[pP (List.getElem?_eq_getElem hj)]at this
 exact⟨this.1,this.2.1⟩
theorem oU{r:Rpt}(h:nE r=true):r.ok:=by
 simp only[nE,Bool.and_eq_true,decide_eq_true_eq]at h
 obtain⟨⟨a1,a2⟩,⟨b1,b2⟩,⟨c1,c2⟩,d,e⟩:=h
 exact⟨a1,a2,b1,b2,c1,c2,d,fun x hx=>(tA e hx).1,fun x hx=>(tA e hx).2⟩
theorem lH(l:List Int)(x:Int):eC (l++[x])=eC l++bw x 2:=by simp[eC]
theorem HC(v:Int)(hv:0≤v):bW 1 N.a8 [.nil,.t (.int .u64 v),I 2] []=some (.ref 0 0 2,[dJ (bw v 2)]):=wo v hv 2 (by omega) (by omega)
theorem HD(bs:List Int)(hb:bs.length≤1000000)(v:Int)(hv:0≤v):bW 1 N.a8 [.ref 0 0 bs.length,.t (.int .u64 v),I 2] [dJ bs]=some (.ref 0 0 (bs++bw v 2).length,[dJ (bs++bw v 2)]):=p5 bs hb v hv 2 (by omega)
theorem HE(bs:List Int)(hb:bs.length≤1000000)(v:Int)(hv:0≤v):bW 1 N.a8 [.ref 0 0 bs.length,.t (.int .u64 v),I 6] [dJ bs]=some (.ref 0 0 (bs++bw v 6).length,[dJ (bs++bw v 6)]):=p5 bs hb v hv 6 (by omega)
theorem HF(v:Int)(hv:0≤v):bW 1 N.aO [.nil,I v,I 2] []=some (.ref 0 0 2,[dJ (bw v 2)]):=wq v hv 2 (by omega) (by omega)
theorem HG(bs:List Int)(hb:bs.length≤1000000)(v:Int)(hv:0≤v):bW 1 N.aO [.ref 0 0 bs.length,I v,I 2] [dJ bs]=some (.ref 0 0 (bs++bw v 2).length,[dJ (bs++bw v 2)]):=mh bs hb v hv 2 (by omega)
theorem HH(bs:List Int)(hb:bs.length≤1000000)(v:Int)(hv:0≤v):bW 1 N.aO [.ref 0 0 bs.length,I v,I 6] [dJ bs]=some (.ref 0 0 (bs++bw v 6).length,[dJ (bs++bw v 6)]):=mh bs hb v hv 6 (by omega)
theorem HI(bs:List Int)(hb:bs.length≤1000000)(v:Int)(hv:0≤v):bW 1 N.aO [.ref 0 0 bs.length,I v,I 1] [dJ bs]=some (.ref 0 0 (bs++bw v 1).length,[dJ (bs++bw v 1)]):=mh bs hb v hv 1 (by omega)
theorem M5{v:Int}(h:0≤v)(h2:v<256):bw v 1=[v]:=by
 have e:v / 256 ^ (1-1-0) % 256=v:=by
  rw[show(256:Int) ^ (1-1-0)=1 from rfl];omega
 unfold bw
 rw[show List.range 1=[0]from rfl,List.map_cons,List.map_nil,e]
abbrev tgH(r:Rpt)(L:List Int):ab:=[.box [I r.reader,I r.number,I r.time,.t (tL r.tags)],.box [I 0,I 0,.nil],dJ L]
theorem qQ(r:Rpt)(hl:r.tags.length≤1000000):bW 0 N.bC [.t r.e] []=some (.tup [.t (gC r).1.e,I (gC r).2],[]):=by
 refine aV K.fM rfl ?_
 have va:=jd r hl
 unfold gC
 cases hb:nE r with
 | false=>
   rw[hb]at va
   rw[if_neg (by simp)]
   obtain⟨reader,number,time,tags⟩:=r
   simp (disch:=omega) only[go_sem,K.bC,↓reduceIte,va,Nat.reduceAdd,Nat.reduceSub]
   rfl
 | true=>
   rw[hb]at va
   rw[if_pos rfl]
   have ok:=oU hb
   have tk:r.tags.take r.tags.length=r.tags:=List.take_length
   have ln:(r.tags.length:Int)≤20:=by have:=ok.l;omega
   have p1:=HC r.number ok.n1
   have p2:=HE (bw r.number 2) (by rw[aW];omega) r.time ok.t1
   have q1:(bw r.number 2).length=2:=aW _ _
   have q2:(bw r.number 2++bw r.time 6).length=8:=by rw[List.length_append,aW,aW]
   rw[q1,q2]at p2
   have lp:∀z0 z3 z5:D,exS bW K.iC ⟨[z0,.bp 0 0,.bp 1 0,z3,.ref 2 0 (dM r).length,z5,.t (tL r.tags),I r.tags.length,I 0],tgH r (dM r)⟩=
    some (.exit 0,⟨[.und,.bp 0 0,.bp 1 0,.und,.ref 2 0 (gp r).length,.und,.t (tL r.tags),I r.tags.length,I r.tags.length],tgH r (gp r)⟩):=by
    intro z0 z3 z5
    refine dZ (fun j=>⟨[.und,.bp 0 0,.bp 1 0,.und,.ref 2 0 (dM r++eC (r.tags.take j)).length,.und,.t (tL r.tags),I r.tags.length,I j],tgH r (dM r++eC (r.tags.take j))⟩) r.tags.length rfl ?_ ?_ (by simp)
    · intro j hj
      have ex:(r.tags.map (T.int .i64))[j]?=some (.int .i64 (nth r.tags j)):=cV _ hj
      have t1:=ok.g1 _ (eU hj)
      have t2:=ok.g2 _ (eU hj)
      have w:=Ep (a:=nth r.tags j) (by omega) (by omega)
      have tl:(dM r++eC (r.tags.take j)).length≤1000:=by
       have:=ok.l
       rw[List.length_append,eD,iH,List.length_take];omega
      have pp:=HD (dM r++eC (r.tags.take j)) (by omega) (nth r.tags j) (by omega)
      rw[me hj,lH,←List.append_assoc]
      generalize dM r++eC (r.tags.take j)=q at*
      generalize nth r.tags j=y at*
      generalize q++bw y 2=qq at*
      obtain⟨reader,number,time,tags⟩:=r
      simp only[tgH,dJ]at*
      simp (disch:=omega) only[go_sem,K.ed,↓reduceIte,ex,w,pp,Nat.reduceAdd,Nat.reduceSub]
    · have e:dM r++eC r.tags=gp r:=rfl
      rw[tk,e]
      generalize gp r=q at*
      obtain⟨reader,number,time,tags⟩:=r
      simp only[tgH,dJ]at*
      simp (disch:=omega) only[go_sem,K.ed,↓reduceIte,Nat.reduceAdd,Nat.reduceSub]
   have w1:=Ep (a:=r.number) (by have:=ok.n1;omega) (by have:=ok.n2;omega)
   have w2:=Ep (a:=r.time) (by have:=ok.t1;omega) (by have:=ok.t2;omega)
   have w3:IntKind.u8.wrap (r.tags.length:Int)=r.tags.length:=by
    simp only[IntKind.wrap,IntKind.bits,IntKind.signed];simp;omega
   have hh:dM r=bw r.number 2++bw r.time 6++[(r.tags.length:Int)]:=rfl
   have hd:=kH r
   have dl:=ok.l
   simp only[eD]at lp
   rw[hh]at lp
   generalize gp r=dd at*
   obtain⟨reader,number,time,tags⟩:=r
   simp only at*
   generalize bw number 2++bw time 6=l8 at*
   generalize bw number 2=l2 at*
   simp only[tgH,dJ,List.length_append,List.length_cons,List.length_nil,List.map_append,List.map_cons,List.map_nil]at*
   simp (disch:=omega) only[go_sem,K.bC,↓reduceIte,va,w1,p1,w2,p2,w3,q1,q2,lp,List.map_append,List.map_cons,List.map_nil,Nat.reduceAdd,Nat.reduceSub]
theorem kI(r:Rpt)(hl:r.tags.length≤1000000):bW 0 N.bg [.t r.e] []=some (.tup [.t (gC r).1.e,I (gC r).2],[]):=by
 refine aV K.eZ rfl ?_
 have va:=kG r hl
 unfold gC
 cases hb:nE r with
 | false=>
   rw[hb]at va
   rw[if_neg (by simp)]
   obtain⟨reader,number,time,tags⟩:=r
   simp (disch:=omega) only[go_sem,K.bg,↓reduceIte,va,Nat.reduceAdd,Nat.reduceSub]
   rfl
 | true=>
   rw[hb]at va
   rw[if_pos rfl]
   have ok:=oU hb
   have tk:r.tags.take r.tags.length=r.tags:=List.take_length
   have ln:(r.tags.length:Int)≤20:=by have:=ok.l;omega
   have p1:=HF r.number ok.n1
   have p2:=HH (bw r.number 2) (by rw[aW];omega) r.time ok.t1
   have q1:(bw r.number 2).length=2:=aW _ _
   have q2:(bw r.number 2++bw r.time 6).length=8:=by rw[List.length_append,aW,aW]
   rw[q1,q2]at p2
   have lp:∀z0 z3:D,exS bW K.gB ⟨[z0,.bp 0 0,.bp 1 0,z3,.ref 2 0 (dM r).length,I 0],tgH r (dM r)⟩=
    some (.exit 0,⟨[.und,.bp 0 0,.bp 1 0,.und,.ref 2 0 (gp r).length,I r.tags.length],tgH r (gp r)⟩):=by
    intro z0 z3
    refine dZ (fun j=>⟨[.und,.bp 0 0,.bp 1 0,.und,.ref 2 0 (dM r++eC (r.tags.take j)).length,I j],tgH r (dM r++eC (r.tags.take j))⟩) r.tags.length rfl ?_ ?_ (by simp)
    · intro j hj
      have ex:(r.tags.map (T.int .i64))[j]?=some (.int .i64 (nth r.tags j)):=cV _ hj
      have t1:=ok.g1 _ (eU hj)
      have t2:=ok.g2 _ (eU hj)
      have tl:(dM r++eC (r.tags.take j)).length≤1000:=by
       have:=ok.l
       rw[List.length_append,eD,iH,List.length_take];omega
      have pp:=HG (dM r++eC (r.tags.take j)) (by omega) (nth r.tags j) (by omega)
      rw[me hj,lH,←List.append_assoc]
      generalize dM r++eC (r.tags.take j)=q at*
      generalize nth r.tags j=y at*
      generalize q++bw y 2=qq at*
      obtain⟨reader,number,time,tags⟩:=r
      simp only[tgH,dJ]at*
      simp (disch:=omega) only[go_sem,K.dH,↓reduceIte,ex,pp,Nat.reduceAdd,Nat.reduceSub]
    · have e:dM r++eC r.tags=gp r:=rfl
      rw[tk,e]
      generalize gp r=q at*
      obtain⟨reader,number,time,tags⟩:=r
      simp only[tgH,dJ]at*
      simp (disch:=omega) only[go_sem,K.dH,↓reduceIte,Nat.reduceAdd,Nat.reduceSub]
   have p3:=HI (bw r.number 2++bw r.time 6) (by rw[q2];omega) r.tags.length (by omega)
   rw[M5 (by omega) (by omega),q2]at p3
   have hh:dM r=bw r.number 2++bw r.time 6++[(r.tags.length:Int)]:=rfl
   have hd:=kH r
   have dl:=ok.l
   have h9:=eD r
   simp only[eD]at lp
   rw[hh]at lp h9
   rw[h9]at p3
   generalize gp r=dd at*
   obtain⟨reader,number,time,tags⟩:=r
   simp only at*
   generalize bw number 2++bw time 6++[(tags.length:Int)]=l9 at*
   generalize bw number 2++bw time 6=l8 at*
   generalize bw number 2=l2 at*
   simp only[tgH,dJ]at*
   simp (disch:=omega) only[go_sem,K.bg,↓reduceIte,va,p1,p2,p3,q1,q2,lp,Nat.reduceAdd,Nat.reduceSub]
def txt(l:List Int):ByteArray:=⟨(l.map fun n=>UInt8.ofNat n.toNat).toArray⟩
def BH(H:ab)(a:D):Option (D×ab):=(my a).map fun d=>(d,H)
@[go_sem] theorem Oj (call : ah) (get : X → Option D) (H : ab) (x : X) : evO call get H (.bst x) = (get x).bind (BH H) := (rfl)
theorem nF:∀l:List Int,aK byteOf (l.map (T.int .u8))=some (l.map fun n=>UInt8.ofNat n.toNat)
 | []=>rfl
 | x::l=>by simp only[List.map_cons,aK,byteOf,nF l,Option.bind_some,Option.map_some]
@[go_sem] theorem Kk (H : ab) (l : List Int) : BH H (.t (.sl (l.map (T.int .u8)))) = some (.t (.str (txt l)), H) := by
 simp only[BH,my,nF,Option.map_some,txt]
@[go_sem] theorem HJ (H : ab) (a b : ByteArray) : gg H .str false (some (.t (.str a))) (some (.t (.str b))) = some (.t (.bool (a == b)), H) := (rfl)
theorem Pa(a b:ByteArray):(a==b)=decide (a=b):=by
 obtain⟨a⟩:=a;obtain⟨b⟩:=b
 show ByteArray.beq _ _=_
 unfold ByteArray.beq
 simp only[ByteArray.mk.injEq]
 rw[Bool.eq_iff_iff]
 simp
def p6(a b:Frm):Bool:=decide (a.addr=b.addr)&&(decide (a.kind=b.kind)&&(txt a.data==txt b.data))
theorem nG(a b:Frm):bW 0 N.aF [.t a.e,.t b.e] []=some (B (p6 a b),[]):=by
 refine aV K.cW rfl ?_
 obtain⟨a1,a2,a3⟩:=a
 obtain⟨b1,b2,b3⟩:=b
 simp only[p6]
 by_cases c1:a1=b1
 · by_cases c2:a2=b2
   · simp (disch:=omega) only[go_sem,K.aF,↓reduceIte,c1,c2,decide_true,Bool.true_and,Nat.reduceAdd,Nat.reduceSub]
   · simp (disch:=omega) only[go_sem,K.aF,↓reduceIte,c1,c2,decide_true,decide_false,Bool.true_and,Bool.false_and,Nat.reduceAdd,Nat.reduceSub]
 · simp (disch:=omega) only[go_sem,K.aF,↓reduceIte,c1,decide_false,Bool.false_and,Nat.reduceAdd,Nat.reduceSub]
theorem oV(a:Frm):p6 a a=true:=by simp[p6,Pa]
def p7(a b:Rpt):Bool:=decide (a.reader=b.reader)&&(decide (a.number=b.number)&&(decide (a.time=b.time)&&decide (a.tags=b.tags)))
theorem tC(a b:Rpt)(hl:a.tags.length≤1000000):bW 0 N.bo [.t a.e,.t b.e] []=some (B (p7 a b),[]):=by
 refine aV K.fN rfl ?_
 have s:=Ah a.tags b.tags (by omega)
 obtain⟨a1,a2,a3,a4⟩:=a
 obtain⟨b1,b2,b3,b4⟩:=b
 simp only[p7]at*
 by_cases c1:a1=b1
 · by_cases c2:a2=b2
   · by_cases c3:a3=b3
     · simp (disch:=omega) only[go_sem,K.bo,↓reduceIte,c1,c2,c3,s,decide_true,Bool.true_and,Nat.reduceAdd,Nat.reduceSub]
     · simp (disch:=omega) only[go_sem,K.bo,↓reduceIte,c1,c2,c3,decide_true,decide_false,Bool.true_and,Bool.false_and,Nat.reduceAdd,Nat.reduceSub]
   · simp (disch:=omega) only[go_sem,K.bo,↓reduceIte,c1,c2,decide_true,decide_false,Bool.true_and,Bool.false_and,Nat.reduceAdd,Nat.reduceSub]
 · simp (disch:=omega) only[go_sem,K.bo,↓reduceIte,c1,decide_false,Bool.false_and,Nat.reduceAdd,Nat.reduceSub]
theorem oW(a:Rpt):p7 a a=true:=by simp[p7]
theorem dB(r:Rpt)(hl:r.tags.length≤1000000):bW 0 N.bu [.t r.e] []=some (B true,[]):=by
 refine aV K.eY rfl ?_
 have w1:=qQ r hl
 have w2:=kI r hl
 have v1:=jd r hl
 have v2:=kG r hl
 have sf:=nG (gC r).1 (gC r).1
 rw[oV]at sf
 generalize gC r=q at*
 obtain⟨⟨f1,f2,f3⟩,e⟩:=q
 generalize nE r=b at*
 obtain⟨reader,number,time,tags⟩:=r
 simp only at*
 simp (disch:=omega) only[go_sem,K.bu,↓reduceIte,w1,w2,v1,v2,sf,beq_self_eq_true,decide_true,Nat.reduceAdd,Nat.reduceSub]
theorem BI(l:List Int):bW 0 N.ao [.t (tB l),I 2] []=some (.fn N.ai [.bp 0 0,.bp 1 0],[.box [.t (tB l)],.box [I 2]]):=by
 refine aV K.bM rfl ?_
 simp (disch:=omega) only[go_sem,K.ao,↓reduceIte,Nat.reduceAdd,Nat.reduceSub]
def qR(d:List Int)(i:Nat):Int:=dr ((d.drop (9+2*i)).take 2)
def dI(d:List Int)(k:Nat):List Int:=(List.range k).map (qR d)
def mj(f:Frm):Rpt:=⟨f.addr,dr (f.data.take 2),dr ((f.data.drop 2).take 6),dI f.data ((f.data.length-9) / 2)⟩
def qS:Rpt:=⟨0,0,0,[]⟩
def kJ(f:Frm):Rpt×Int:=
 if f.kind≠9 then(qS,5)
 else if ¬(0≤f.addr∧f.addr≤31)then(qS,40)
 else if f.data.length<9∨(f.data.length:Int)≠9+2*nth f.data 8 then(qS,6)
 else if nE (mj f)then(mj f,0)else(qS,6)
theorem cl{d:List Int}(h:gn d)(a b:Nat):gn ((d.drop a).take b):=fun x hx=>h x (List.mem_of_mem_drop (List.mem_of_mem_take hx))
theorem kK(d:List Int)(k:Nat):dI d (k+1)=dI d k++[qR d k]:=by
 unfold dI;rw[List.range_succ,List.map_append];rfl
theorem cX(d:List Int)(k:Nat):(dI d k).length=k:=by simp[dI]
abbrev z4:List D:=[I 0,I 0,I 0,.nil]
abbrev Er(f:Frm)(n t:Int)(L:List Int):ab:=[.box [I f.addr,I f.kind,.t (tB f.data)],.box z4,.box [I f.addr,I n,I t,.ref 4 0 L.length],.arr 1 false 0 [],.arr 1 false 0 ((L.map (T.int .i64)).map .t)]
theorem qT(f:Frm)(hb:gn f.data)(hl:f.data.length≤1000):bW 0 N.aQ [.t f.e] []=some (.tup [.t (kJ f).1.e,I (kJ f).2],[]):=by
 refine aV K.fP rfl ?_
 unfold kJ
 by_cases c1:f.kind=9
 · rw[if_neg (by simpa using c1)]
   by_cases c2:0≤f.addr∧f.addr≤31
   · rw[if_neg (by simpa using c2)]
     by_cases c3:f.data.length<9
     · rw[if_pos (.inl c3)]
       obtain⟨addr,kind,data⟩:=f
       simp only at*
       simp (disch:=omega) only[go_sem,K.aQ,↓reduceIte,c1,Nat.reduceAdd,Nat.reduceSub]
       rfl
     · have e8:(f.data.map (T.int .u8))[8]?=some (.int .u8 (nth f.data 8)):=cV _ (by omega)
       have b8:=hb _ (eU (l:=f.data) (j:=8) (by omega))
       have w8:=nV (a:=nth f.data 8) (by omega) (by omega)
       by_cases c4:(f.data.length:Int)=9+2*nth f.data 8
       · rw[if_neg (by rintro (h | h);exact c3 h;exact h c4)]
         have g1:=oT (f.data.take 2) (by simpa using cl hb 0 2) (by rw[List.length_take];omega)
         have g2:=oT ((f.data.drop 2).take 6) (cl hb 2 6) (by rw[List.length_take];omega)
         obtain⟨k,hk⟩:∃k:Nat,nth f.data 8=k:=Int.eq_ofNat_of_zero_le b8.1
         have hk2:(f.data.length-9) / 2=k:=by omega
         have rv:=kG (mj f) (by unfold mj;simp only;rw[cX];omega)
         unfold mj at*
         rw[hk2]at*
         have w9:=nV (a:=2*nth f.data 8) (by omega) (by omega)
         have w10:=nV (a:=9+2*nth f.data 8) (by omega) (by omega)
         have t8:Int.toNat 8=8:=rfl
         obtain⟨addr,kind,data⟩:=f
         simp only at*
         subst c1
         have tk2:(data.map (T.int .u8)).take 2=(data.take 2).map (T.int .u8):=List.map_take.symm
         have tk6:((data.map (T.int .u8)).drop 2).take 6=((data.drop 2).take 6).map (T.int .u8):=by rw[List.map_take,List.map_drop]
         have lp:∀z0 z1 z3:D,exS bW K.iD ⟨[z0,z1,.bp 1 0,z3,.t (tB data),.bp 2 0,I 0],Er ⟨addr,9,data⟩ (dr (data.take 2)) (dr ((data.drop 2).take 6)) []⟩=
          some (.exit 1,⟨[.und,.und,.bp 1 0,.und,.t (tB data),.bp 2 0,I k],Er ⟨addr,9,data⟩ (dr (data.take 2)) (dr ((data.drop 2).take 6)) (dI data k)⟩):=by
          intro z0 z1 z3
          refine dZ (fun j=>⟨[.und,.und,.bp 1 0,.und,.t (tB data),.bp 2 0,I j],Er ⟨addr,9,data⟩ (dr (data.take 2)) (dr ((data.drop 2).take 6)) (dI data j)⟩) k rfl ?_ ?_ (by simp)
          · intro j hj
            have pg:=oT ((data.drop (9+2*j)).take 2) (cl hb _ _) (by rw[List.length_take];omega)
            have pl:=cX data j
            have px:dr ((data.drop (9+2*j)).take 2)=qR data j:=rfl
            rw[px]at pg
            rw[kK]
            have n1:(9+2*(j:Int)).toNat=9+2*j:=by omega
            have n2:(11+2*(j:Int)).toNat=11+2*j:=by omega
            have n3:11+2*j-(9+2*j)=2:=by omega
            have tkj:((data.map (T.int .u8)).drop (9+2*j)).take 2=((data.drop (9+2*j)).take 2).map (T.int .u8):=by rw[List.map_take,List.map_drop]
            generalize qR data j=y at*
            generalize dI data j=L at*
            generalize dr (data.take 2)=nn at*
            generalize dr ((data.drop 2).take 6)=tt at*
            simp only[Er,List.length_append,List.length_cons,List.length_nil]at*
            simp (disch:=omega) only[go_sem,K.ee,↓reduceIte,e8,t8,w8,hk,n1,n2,n3,tkj,pg,List.map_append,List.map_cons,List.map_nil,Nat.reduceAdd,Nat.reduceSub]
          · generalize dI data k=L at*
            simp only[Er]at*
            simp (disch:=omega) only[go_sem,K.ee,↓reduceIte,e8,t8,w8,hk,Nat.reduceAdd,Nat.reduceSub]
         have pl:=cX data k
         generalize dI data k=L at*
         generalize dr (data.take 2)=nn at*
         generalize dr ((data.drop 2).take 6)=tt at*
         simp only[Er,List.length_nil,List.map_nil]at*
         cases hv:nE ⟨addr,nn,tt,L⟩with
         | true=>
           rw[hv]at rv
           simp (disch:=omega) only[go_sem,K.aQ,↓reduceIte,e8,t8,w8,w9,w10,c4,tk2,g1,tk6,g2,lp,rv,Nat.reduceAdd,Nat.reduceSub]
         | false=>
           rw[hv]at rv
           simp (disch:=omega) only[go_sem,K.aQ,↓reduceIte,e8,t8,w8,w9,w10,c4,tk2,g1,tk6,g2,lp,rv,Nat.reduceAdd,Nat.reduceSub]
           rfl
       · rw[if_pos (.inr c4)]
         obtain⟨addr,kind,data⟩:=f
         simp only at*
         have w9:=nV (a:=2*nth data 8) (by omega) (by omega)
         have w10:=nV (a:=9+2*nth data 8) (by omega) (by omega)
         have t8:Int.toNat 8=8:=rfl
         simp (disch:=omega) only[go_sem,K.aQ,↓reduceIte,c1,e8,t8,w8,w9,w10,c4,Nat.reduceAdd,Nat.reduceSub]
         rfl
   · rw[if_pos c2]
     by_cases c3:f.addr<0
     · obtain⟨addr,kind,data⟩:=f
       simp only at*
       simp (disch:=omega) only[go_sem,K.aQ,↓reduceIte,c1,c3,Nat.reduceAdd,Nat.reduceSub]
       rfl
     · obtain⟨addr,kind,data⟩:=f
       simp only at*
       simp (disch:=omega) only[go_sem,K.aQ,↓reduceIte,c1,c3,Nat.reduceAdd,Nat.reduceSub]
       rfl
 · rw[if_pos c1]
   obtain⟨addr,kind,data⟩:=f
   simp only at*
   simp (disch:=omega) only[go_sem,K.aQ,↓reduceIte,c1,Nat.reduceAdd,Nat.reduceSub]
   rfl
theorem tD(call:ah)(vs:List D)(p:Nat)(r1:List R)(p1:List (Nat×Nat))(r2:List R)(p2:List (Nat×Nat))(c:T)(H:ab):
 stepG (oH call) vs p r1 p1 r2 p2 c H=(exS call (.seq (.reg r1 p1) (.reg r2 p2)) ⟨vs.set p (.t c),H⟩).map fun q=>q.2.H:=by
 simp only[stepG,exS]
 cases oH call r1 p1 (vs.set p (.t c)) H with
 | none=>rfl
 | some q=>
   simp only[Option.bind_some,Option.map_some,bH]
   cases oH call r2 p2 q.2.1 q.2.2<;>rfl
theorem tE{step:T→ab→Option ab}{look:ab→Option (List T)}(Hs:Nat→ab)(es:List T)(k:Nat)(hlook:∀j,j≤k→look (Hs j)=some es)(hstep:∀j,j<k→step (.sl ((es.drop (2*j)).take 2)) (Hs j)=some (Hs (j+1))):
 ∀m j,j+m=k→mu step look es.length m (2*j) (Hs j)=some (Hs k)
 | 0,j,h=>by
   obtain rfl:j=k:=by omega
   unfold mu
   rw[hlook j (Nat.le_refl _),Option.bind_some,if_pos rfl]
 | m+1,j,h=>by
   unfold mu
   rw[hlook j (by omega),Option.bind_some,if_pos rfl,hstep j (by omega),Option.bind_some]
   exact tE Hs es k hlook hstep m (j+1) (by omega)
theorem BJ{step:T→ab→Option ab}{look:ab→Option (List T)}(Hs:Nat→ab)(es:List T)(k:Nat)(hl:es.length=2*k)(hlook:∀j,j≤k→look (Hs j)=some es)(hstep:∀j,j<k→step (.sl ((es.drop (2*j)).take 2)) (Hs j)=some (Hs (j+1))):
 o9 step look (Hs 0)=some (Hs k):=by
 unfold o9
 rw[hlook 0 (Nat.zero_le _),Option.bind_some,show es.length / 2=k by omega]
 exact tE Hs es k hlook hstep k 0 (by omega)
abbrev tgR(f:Frm)(n t:Int)(L:List Int):ab:=[.box [I f.addr,I f.kind,.t (tB f.data)],.box z4,.box [I f.addr,I n,I t,.ref 4 0 L.length],.arr 1 false 0 [],.arr 1 false 0 ((L.map (T.int .i64)).map .t),.box [.t (tB (f.data.drop 9))],.box [I 2]]
theorem HK(l:List Int):(l.map (T.int .u8)).all xY=true:=by
 rw[List.all_eq_true]
 intro x hx
 obtain⟨y,_,rfl⟩:=List.mem_map.1 hx
 rfl
theorem tF(f:Frm)(hb:gn f.data)(hl:f.data.length≤1000):bW 0 N.bj [.t f.e] []=some (.tup [.t (kJ f).1.e,I (kJ f).2],[]):=by
 refine aV K.gQ rfl ?_
 unfold kJ
 have ia:=vC f.addr 0 31
 by_cases c1:f.kind=9
 · rw[if_neg (by simpa using c1)]
   by_cases c2:0≤f.addr∧f.addr≤31
   · rw[if_neg (by simpa using c2)]
     rw[decide_eq_true c2]at ia
     by_cases c3:f.data.length<9
     · rw[if_pos (.inl c3)]
       obtain⟨addr,kind,data⟩:=f
       simp only at*
       simp (disch:=omega) only[go_sem,K.bj,↓reduceIte,c1,ia,Nat.reduceAdd,Nat.reduceSub]
       rfl
     · have e8:(f.data.map (T.int .u8))[8]?=some (.int .u8 (nth f.data 8)):=cV _ (by omega)
       have b8:=hb _ (eU (l:=f.data) (j:=8) (by omega))
       have w8:=nV (a:=nth f.data 8) (by omega) (by omega)
       have t8:Int.toNat 8=8:=rfl
       by_cases c4:(f.data.length:Int)=9+2*nth f.data 8
       · rw[if_neg (by rintro (h | h);exact c3 h;exact h c4)]
         have g1:=kF (f.data.take 2) (by simpa using cl hb 0 2) (by rw[List.length_take];omega)
         have g2:=kF ((f.data.drop 2).take 6) (cl hb 2 6) (by rw[List.length_take];omega)
         have k1:=oS (bs:=f.data.take 2) (by simpa using cl hb 0 2) (by rw[List.length_take];omega)
         have k2:=oS (bs:=(f.data.drop 2).take 6) (cl hb 2 6) (by rw[List.length_take];omega)
         have w1:=nV k1.1 (by omega)
         have w2:=nV k2.1 (by omega)
         obtain⟨k,hk⟩:∃k:Nat,nth f.data 8=k:=Int.eq_ofNat_of_zero_le b8.1
         have hk2:(f.data.length-9) / 2=k:=by omega
         have rv:=jd (mj f) (by unfold mj;simp only;rw[cX];omega)
         unfold mj at*
         rw[hk2]at*
         have w9:=nV (a:=2*nth f.data 8) (by omega) (by omega)
         have w10:=nV (a:=9+2*nth f.data 8) (by omega) (by omega)
         obtain⟨addr,kind,data⟩:=f
         simp only at*
         subst c1
         have tk2:(data.map (T.int .u8)).take 2=(data.take 2).map (T.int .u8):=List.map_take.symm
         have tk6:((data.map (T.int .u8)).drop 2).take 6=((data.drop 2).take 6).map (T.int .u8):=by rw[List.map_take,List.map_drop]
         have t9:Int.toNat 9=9:=rfl
         have tk9:(data.map (T.int .u8)).drop 9=(data.drop 9).map (T.int .u8):=List.map_drop.symm
         have l9:(data.drop 9).length=2*k:=by rw[List.length_drop];omega
         have ch:=BI (data.drop 9)
         have lp:∀z0 z3 z5 z7:D,exS bW K.dy ⟨[z0,.bp 0 0,.bp 1 0,z3,.bp 2 0,z5,.fn N.ai [.bp 5 0,.bp 6 0],z7],tgR ⟨addr,9,data⟩ (dr (data.take 2)) (dr ((data.drop 2).take 6)) []⟩=
          some (.normal,⟨[z0,.bp 0 0,.bp 1 0,z3,.bp 2 0,z5,.fn N.ai [.bp 5 0,.bp 6 0],z7],tgR ⟨addr,9,data⟩ (dr (data.take 2)) (dr ((data.drop 2).take 6)) (dI data k)⟩):=by
          intro z0 z3 z5 z7
          simp only[K.dy,yG]
          refine(congrArg (Option.map _) (BJ (fun j=>tgR ⟨addr,9,data⟩ (dr (data.take 2)) (dr ((data.drop 2).take 6)) (dI data j)) ((data.drop 9).map (T.int .u8)) k (by rw[List.length_map,l9]) ?_ ?_)).trans rfl
          · intro j hj
            simp only[List.getElem?_cons_succ,List.getElem?_cons_zero,rC,tgR,if_true]
            rw[if_pos ⟨trivial,by rw[List.length_map,l9];omega,by rw[List.length_map,l9];omega,HK _⟩]
          · intro j hj
            have pg:=kF ((data.drop (9+2*j)).take 2) (cl hb _ _) (by rw[List.length_take];omega)
            have kb:=oS (bs:=(data.drop (9+2*j)).take 2) (cl hb _ _) (by rw[List.length_take];omega)
            have wj:=nV kb.1 (by omega)
            have pl:=cX data j
            have px:dr ((data.drop (9+2*j)).take 2)=qR data j:=rfl
            rw[px]at pg wj
            rw[tD,kK,←List.map_drop,←List.map_take,List.drop_drop]
            generalize qR data j=y at*
            generalize (data.drop (9+2*j)).take 2=bb at*
            generalize dI data j=L at*
            generalize dr (data.take 2)=nn at*
            generalize dr ((data.drop 2).take 6)=tt at*
            generalize data.drop 9=dd at*
            simp only[tgR,z4,List.length_append,List.length_cons,List.length_nil,List.set_cons_succ,List.set_cons_zero]at*
            simp (disch:=omega) only[go_sem,↓reduceIte,pg,wj,List.map_append,List.map_cons,List.map_nil,Nat.reduceAdd,Nat.reduceSub]
         have pl:=cX data k
         generalize dI data k=L at*
         generalize dr (data.take 2)=nn at*
         generalize dr ((data.drop 2).take 6)=tt at*
         simp only[tgR,z4,List.length_nil,List.map_nil]at*
         cases hv:nE ⟨addr,nn,tt,L⟩with
         | true=>
           rw[hv]at rv
           simp (disch:=omega) only[go_sem,K.bj,↓reduceIte,ia,e8,t8,w8,w9,w10,c4,tk2,g1,w1,tk6,g2,w2,t9,tk9,ch,lp,rv,Nat.reduceAdd,Nat.reduceSub]
         | false=>
           rw[hv]at rv
           simp (disch:=omega) only[go_sem,K.bj,↓reduceIte,ia,e8,t8,w8,w9,w10,c4,tk2,g1,w1,tk6,g2,w2,t9,tk9,ch,lp,rv,Nat.reduceAdd,Nat.reduceSub]
           rfl
       · rw[if_pos (.inr c4)]
         obtain⟨addr,kind,data⟩:=f
         simp only at*
         have w9:=nV (a:=2*nth data 8) (by omega) (by omega)
         have w10:=nV (a:=9+2*nth data 8) (by omega) (by omega)
         simp (disch:=omega) only[go_sem,K.bj,↓reduceIte,c1,ia,e8,t8,w8,w9,w10,c4,Nat.reduceAdd,Nat.reduceSub]
         rfl
   · rw[if_pos c2]
     rw[decide_eq_false c2]at ia
     obtain⟨addr,kind,data⟩:=f
     simp only at*
     simp (disch:=omega) only[go_sem,K.bj,↓reduceIte,c1,ia,Nat.reduceAdd,Nat.reduceSub]
     rfl
 · rw[if_pos c1]
   obtain⟨addr,kind,data⟩:=f
   simp only at*
   simp (disch:=omega) only[go_sem,K.bj,↓reduceIte,c1,Nat.reduceAdd,Nat.reduceSub]
   rfl
theorem tG{f:Frm}(h:f.data.length≤1000):(kJ f).1.tags.length≤1000000:=by
 have z:qS.tags.length≤1000000:=by simp[qS]
 unfold kJ
 repeat' split
 all_goals first
  | exact z
  | (simp only[mj,cX];omega)
theorem fQ(f:Frm)(hb:gn f.data)(hl:f.data.length≤1000):bW 0 N.bn [.t f.e] []=some (B true,[]):=by
 refine aV K.fL rfl ?_
 have r1:=tF f hb hl
 have r2:=qT f hb hl
 have s:=tC (kJ f).1 (kJ f).1 (tG hl)
 rw[oW]at s
 generalize kJ f=q at*
 obtain⟨⟨a1,a2,a3,a4⟩,e⟩:=q
 obtain⟨addr,kind,data⟩:=f
 simp only at*
 simp (disch:=omega) only[go_sem,K.bn,↓reduceIte,r1,r2,s,decide_true,Nat.reduceAdd,Nat.reduceSub]
theorem gS{l:List Int}{y:Int}{j:Nat}(h:j<l.length):nth (l++[y]) j=nth l j:=by
 rw[pP (show(l++[y])[j]?=some l[j]by rw[List.getElem?_append_left h];exact List.getElem?_eq_getElem h),pP (List.getElem?_eq_getElem h)]
theorem ml(l:List Int)(y:Int):nth (l++[y]) l.length=y:=pP (by simp)
theorem tH{l:List Int}{lo hi y:Int}(h:rf l lo hi=true)(h1:∀x∈l,x<y)(h2:lo≤y)(h3:y≤hi):rf (l++[y]) lo hi=true:=by
 unfold rf at*
 rw[Bool.not_eq_true',List.any_eq_false]at*
 intro j hj
 rw[List.mem_range,List.length_append,List.length_singleton]at hj
 simp only[nS,Bool.not_eq_true',decide_eq_false_iff_not,Decidable.not_not]at*
 by_cases e:j=l.length
 · subst e
   rw[ml]
   refine⟨h2,h3,fun h0=>?_⟩
   rw[gS (by omega)]
   exact h1 _ (eU (by omega))
 · have:=h j (List.mem_range.2 (by omega))
   rw[gS (by omega)]
   refine⟨this.1,this.2.1,fun h0=>?_⟩
   rw[gS (by omega)]
   exact this.2.2 h0
structure RI(L:List Int)(t:Int)(j:Nat):Prop where
 l:L.length=j
 t0:0≤t
 t9:t≤3*j
 b:∀x∈L,1≤x∧x≤t
 r:rf L 1 65535=true
theorem RI.nil:RI [] 0 0:=⟨rfl,by omega,by omega,fun x hx=>(by cases hx),rfl⟩
theorem RI.snoc{L:List Int}{t n:Int}{j:Nat}(h:RI L t j)(hj:j<100)(n0:0≤n)(n3:n<3):RI (L++[t+(1+n)]) (t+(1+n)) (j+1):=by
 have:=h.t0
 have:=h.t9
 refine⟨by simp[h.l],by omega,by omega,fun x hx=>?_,tH h.r (fun x hx=>by have:=h.b x hx;omega) (by omega) (by omega)⟩
 rcases List.mem_append.1 hx with hx | hx
 · have:=h.b x hx;omega
 · rw[List.mem_singleton.1 hx];omega
abbrev rpG(e:bc)(rd nb tm:Int)(L:List Int):ab:=[e.obj,.box z4,.box [I rd,I nb,I tm,.ref 4 0 L.length],.arr 1 false 0 [],.arr 1 false 0 ((L.map (T.int .i64)).map .t)]
def rpP(rd nb tm:Int)(n:Nat)(j:Nat)(s:St):Prop:=∃(e:bc) (L:List Int) (t:Int),s=⟨[.bp 0 0,.und,.bp 1 0,.bp 2 0,I t,I ((n:Int)-j)],rpG e rd nb tm L⟩∧e.eV∧RI L t j
theorem oX{d:bc}(hd:d.eV)(rd nb tm:Int)(n:Nat)(hn:n≤10):∃(e:bc) (L:List Int) (t:Int),e.eV∧RI L t n∧∀z1:D,
 exS bW K.cD ⟨[.bp 0 0,z1,.bp 1 0,.bp 2 0,I 0,I n],rpG d rd nb tm []⟩=some (.exit 0,⟨[.bp 0 0,.und,.bp 1 0,.bp 2 0,I t,I 0],rpG e rd nb tm L⟩):=by
 have key:∀z1:D,∃r,exS bW K.cD ⟨[.bp 0 0,z1,.bp 1 0,.bp 2 0,I 0,I n],rpG d rd nb tm []⟩=some r∧
  ∃(e:bc) (L:List Int) (t:Int),r=(.exit 0,⟨[.bp 0 0,.und,.bp 1 0,.bp 2 0,I t,I 0],rpG e rd nb tm L⟩)∧e.eV∧RI L t n:=by
  intro z1
  refine Hl (rpP rd nb tm n) n _ ?_ ?_ ?_
  · refine⟨d,[],0,?_,hd,.nil⟩
    simp only[Int.natCast_zero,Int.sub_zero];rfl
  · rintro j s hj ⟨e,L,t,rfl,l1,ri⟩
    obtain⟨v,e1,nx,l2,v1,v2⟩:=pY l1 3 (by omega) (by omega)
    refine .inl ⟨_,?_,e1,L++[t+(1+v)],t+(1+v),rfl,l2,ri.snoc (by omega) v1 v2⟩
    have g1:((n:Int)-j>0):=by omega
    have g2:(n:Int)-((j+1:Nat):Int)=(n:Int)-j-1:=by omega
    have:=ri.t0
    have:=ri.t9
    have:=ri.l
    simp only[rpG,g2,List.length_append,List.length_singleton,List.map_append,List.map_cons,List.map_nil]
    generalize (n:Int)-j=w at*
    simp (disch:=omega) only[go_sem,K.cr,↓reduceIte,nx,g1,List.map_append,List.map_cons,List.map_nil,Nat.reduceAdd,Nat.reduceSub]
  · rintro s ⟨e,L,t,rfl,l1,ri⟩
    refine⟨(.exit 0,⟨[.bp 0 0,.und,.bp 1 0,.bp 2 0,I t,I 0],rpG e rd nb tm L⟩),?_,by simp,e,L,t,rfl,l1,ri⟩
    simp only[rpG,Int.sub_self]
    simp (disch:=omega) only[go_sem,K.cr,↓reduceIte,Nat.reduceAdd,Nat.reduceSub]
 obtain⟨r,hr,e,L,t,rfl,a,b⟩:=key .und
 exact⟨e,L,t,a,b,fun z1=>by
  rw[← hr]
  show fA true _ _ ⟨cO _ _,_⟩=fA true _ _ ⟨cO _ _,_⟩
  simp (disch:=omega) only[go_sem,Nat.reduceAdd,Nat.reduceSub]⟩
structure oY(r:Rpt)(t:Int):Prop where
 r0:0≤r.reader
 r3:r.reader<3
 n0:0≤r.number
 n20:r.number<20
 t:r.time=t
 l:r.tags.length≤3
 r:rf r.tags 1 65535=true
theorem oY.ok{r:Rpt}{t:Int}(h:oY r t)(h0:0≤t)(h1:t≤2147483648):nE r=true:=by
 have:=h.t
 have:=h.r0
 have:=h.r3
 have:=h.n0
 have:=h.n20
 have:=h.l
 unfold nE
 rw[h.r,decide_eq_true (show 0≤r.reader∧r.reader≤31 by omega),decide_eq_true (show 0≤r.number∧r.number≤65535 by omega),decide_eq_true (show 0≤r.time∧r.time≤2147483648 by omega),decide_eq_true (show r.tags.length≤20 by omega)]
 rfl
theorem wu{d:bc}(hd:d.eV)(t:Int):∃(r:Rpt) (e:bc),e.eV∧oY r t∧
 bW 0 N.aB [.bp 0 0,I t] [d.obj]=some (.t r.e,[e.obj])∧bW 1 N.aB [.bp 0 0,I t] [d.obj]=some (.agg [I r.reader,I r.number,I r.time,.ref 1 0 r.tags.length],[e.obj,vT r.tags]):=by
 obtain⟨rd,e1,n1,l1,a0,a3⟩:=pY hd 3 (by omega) (by omega)
 obtain⟨nb,e2,n2,l2,b0,b20⟩:=pY l1 20 (by omega) (by omega)
 obtain⟨k,e3,n3,l3,k0,k4⟩:=pY l2 4 (by omega) (by omega)
 obtain⟨k,rfl⟩:=Int.eq_ofNat_of_zero_le k0
 obtain⟨e,L,tt,le,ri,lp⟩:=oX l3 rd nb t k (by omega)
 have ll:=ri.l
 refine⟨⟨rd,nb,t,L⟩,e,le,⟨a0,a3,b0,b20,rfl,by simp only;omega,ri.r⟩,?_,?_⟩
 · refine aV K.bZ rfl ?_
   simp only[rpG,z4,List.length_nil,List.map_nil]at*
   clear ri ll
   simp (disch:=omega) only[go_sem,K.aB,↓reduceIte,n1,n2,n3,lp,Nat.reduceAdd,Nat.reduceSub]
 · refine aV K.bZ rfl ?_
   simp only[rpG,z4,List.length_nil,List.map_nil,vT]at*
   clear ri ll
   simp (disch:=omega) only[go_sem,K.aB,↓reduceIte,n1,n2,n3,lp,Nat.reduceAdd,Nat.reduceSub]
theorem kL(v:Int)(n:Nat):gn (bw v n):=by
 intro x hx
 simp only[bw,List.mem_map]at hx
 obtain⟨k,_,rfl⟩:=hx
 omega
theorem qU{r:Rpt}(h:r.ok):gn (gp r):=by
 have:=h.l
 intro x hx
 simp only[gp,dM,eC,List.mem_append,List.mem_singleton,List.mem_flatMap]at hx
 rcases hx with((hx | hx) | rfl) | ⟨y,_,hx⟩
 · exact kL _ _ x hx
 · exact kL _ _ x hx
 · omega
 · exact kL _ _ x hx
theorem M6(x:Int):0≤IntKind.u8.wrap x∧IntKind.u8.wrap x<256:=by
 simp only[IntKind.wrap,IntKind.bits,IntKind.signed];simp;omega
theorem tJ{l:List Int}(h:gn l)(i:Nat){x:Int}(h0:0≤x)(h1:x<256):gn (l.set i x):=by
 intro y hy
 rcases List.mem_or_eq_of_mem_set hy with h2 | rfl
 · exact h y h2
 · exact⟨h0,h1⟩
abbrev tmH(e:bc)(r1 nb r3:Int)(f g h tags:List Int):ab:=[e.obj,.arr 1 true 0 ((tags.map (T.int .i64)).map .t),.box [I r1,I nb,I r3,.ref 1 0 tags.length],.arr 1 false 0 [],.box [I r1,I 9,.t (tB f)],.box [I r1,I 9,.ref 6 0 g.length],dJ g,.box [I r1,I 9,.t (tB h)]]
theorem xV(aw:bW 0 N.bG [] []=some (B true,[]))(li:List Int)(at' v:Int):bW 0 N.ay [.t (tL li),I at',I v] []=some (B true,[]):=by
 refine aV K.dj rfl ?_
 have lo:=vA li
 by_cases c:li.length≤400
 · rw[decide_eq_true c]at lo
   have ro:=Hm li
   have d0:(bc.mk li 0).eV:=c
   generalize (bc.mk li 0)=d at*
   obtain⟨t,d1,o1,l1,ti⟩:=Oi d0 [0,100,2147483648,2147483647] (by simp) (by simp)
   have tb:0≤t∧t≤2147483648:=by simp at ti;omega
   obtain⟨r,d2,l2,rm, -,rx⟩:=wu l1 t
   obtain⟨nb,d3,o2,l3,ni⟩:=Oi l2 [0,65535,65534,7] (by simp) (by simp)
   have nbb:0≤nb∧nb≤65535:=by simp at ni;omega
   have rl:=rm.l
   have hr:nE ⟨r.reader,nb,r.time,r.tags⟩=true:=by
    have:=rm.t
    have:=rm.r0
    have:=rm.r3
    unfold nE
    simp only
    rw[rm.r,decide_eq_true (show 0≤r.reader∧r.reader≤31 by omega),decide_eq_true (show 0≤nb∧nb≤65535 by omega),decide_eq_true (show 0≤r.time∧r.time≤2147483648 by omega),decide_eq_true (show r.tags.length≤20 by omega)]
    rfl
   have w:=kI ⟨r.reader,nb,r.time,r.tags⟩ (by simp only;omega)
   simp only[gC,hr,if_true]at w
   have db:=qU (oU hr)
   have dl:=kH ⟨r.reader,nb,r.time,r.tags⟩
   simp only at dl
   have ag:=dB ⟨r.reader,nb,r.time,r.tags⟩ (by simp only;omega)
   generalize gp ⟨r.reader,nb,r.time,r.tags⟩=f at*
   have rd:=fQ ⟨r.reader,9,f⟩ db (by simp only;omega)
   have m1:=nz at' f.length (by omega)
   have m2:=nz at' (f.length+1) (by omega)
   have m3:=nz v 7 (by omega)
   obtain⟨i,hi⟩:=Int.eq_ofNat_of_zero_le (nv at' f.length)
   obtain⟨k,hk⟩:=Int.eq_ofNat_of_zero_le (nv at' (f.length+1))
   obtain⟨q,hq⟩:=Int.eq_ofNat_of_zero_le (nv v 7)
   have i2:=ny at' f.length (by omega)
   have k2:=ny at' (f.length+1) (by omega)
   have q2:=ny v 7 (by omega)
   rw[hi]at m1 i2
   rw[hk]at m2 k2
   rw[hq]at m3 q2
   have ex:(f.map (T.int .u8))[i]?=some (.int .u8 (nth f i)):=cV _ (by omega)
   obtain⟨x,hx,xb⟩:∃x,(∀H,cf H .xor (some (.t (.int .u8 (nth f i)))) (some (.t (.int .u8 (IntKind.u8.wrap v))))=some (.t (.int .u8 x),H))∧0≤x∧x<256:=⟨_,fun H=>sB _ _ _ _,M6 _⟩
   have ro1:=fQ ⟨r.reader,9,f.set i x⟩ (tJ db i xb.1 xb.2) (by simp only[List.length_set];omega)
   have rc:=fQ ⟨r.reader,9,f.take k⟩ (fun y hy=>db y (List.mem_of_mem_take hy)) (by simp only[List.length_take];omega)
   have tk:(f.map (T.int .u8)).take k=(f.take k).map (T.int .u8):=List.map_take.symm
   have fl:f.length≤100:=by omega
   have sc:([D.t (Frm.e ⟨r.reader,9,f⟩),I 0].all iN)=false:=rfl
   simp only[tL,List.map_cons,List.map_nil]at o1 o2
   obtain⟨r1,r2,r3,r4⟩:=r
   simp only at*
   clear rm hr ti ni hi hk
   have qc:q=0∨q=1∨q=2∨q=3∨q=4∨q=5∨q=6:=by omega
   rcases qc with rfl | rfl | rfl | rfl | rfl | rfl | rfl
   · have a:=dB ⟨v,nb,r3,r4⟩ (by simp only;omega)
     simp only[vT]at*
     simp (disch:=omega) only[go_sem,K.ay,↓reduceIte,lo,ro,o1,rx,o2,w,ag,rd,m1,ex,m2,tk,m3,a,aw,hx,ro1,rc,sc,Nat.reduceAdd,Nat.reduceSub]
   · have a:=dB ⟨r1,v,r3,r4⟩ (by simp only;omega)
     simp only[vT]at*
     simp (disch:=omega) only[go_sem,K.ay,↓reduceIte,lo,ro,o1,rx,o2,w,ag,rd,m1,ex,m2,tk,m3,a,aw,hx,ro1,rc,sc,Nat.reduceAdd,Nat.reduceSub]
   · have a:=dB ⟨r1,nb,v,r4⟩ (by simp only;omega)
     simp only[vT]at*
     simp (disch:=omega) only[go_sem,K.ay,↓reduceIte,lo,ro,o1,rx,o2,w,ag,rd,m1,ex,m2,tk,m3,a,aw,hx,ro1,rc,sc,Nat.reduceAdd,Nat.reduceSub]
   · have a:=dB ⟨r1,nb,r3,r4++[Mod v 70000-1]⟩ (by simp;omega)
     have e1:Rpt.e ⟨r1,nb,r3,r4++[Mod v 70000-1]⟩= .agg [.int .i64 r1,.int .i64 nb,.int .i64 r3,.sl (r4.map (T.int .i64)++[.int .i64 (Mod v 70000-1)])]:=by
      simp only[Rpt.e,tL,List.map_append,List.map_cons,List.map_nil]
     rw[e1]at a
     have m4:=nz v 70000 (by omega)
     have b1:=nv v 70000
     have b2:=ny v 70000 (by omega)
     generalize Mod v 70000=y at*
     simp only[vT,tL,List.map_append,List.map_cons,List.map_nil]at*
     simp (disch:=omega) only[go_sem,K.ay,↓reduceIte,lo,ro,o1,rx,o2,w,ag,rd,m1,ex,m2,tk,m3,a,aw,hx,ro1,rc,sc,m4,List.map_append,List.map_cons,List.map_nil,Nat.reduceAdd,Nat.reduceSub]
   · have a:=fQ ⟨at',v,f⟩ db (by simp only;omega)
     simp only[vT]at*
     simp (disch:=omega) only[go_sem,K.ay,↓reduceIte,lo,ro,o1,rx,o2,w,ag,rd,m1,ex,m2,tk,m3,a,aw,hx,ro1,rc,sc,Nat.reduceAdd,Nat.reduceSub]
   · have a:=fQ ⟨at',9,f⟩ db (by simp only;omega)
     simp only[vT]at*
     simp (disch:=omega) only[go_sem,K.ay,↓reduceIte,lo,ro,o1,rx,o2,w,ag,rd,m1,ex,m2,tk,m3,a,aw,hx,ro1,rc,sc,Nat.reduceAdd,Nat.reduceSub]
   · obtain⟨L,hL⟩:∃L:Nat→List Int,L=fun j=>r4++(List.range j).map fun(i:Nat)=>100+(i:Int):=⟨_,rfl⟩
     have L0:L 0=r4:=by rw[hL];simp
     have Ls:∀j,L (j+1)=L j++[100+(j:Int)]:=by intro j;rw[hL];simp[List.range_succ]
     have Ll:∀j,(L j).length=r4.length+j:=by intro j;rw[hL];simp
     have a:=dB ⟨r1,nb,r3,L 20⟩ (by simp only[Ll];omega)
     clear hL
     have lp:∀z0 z1 z2 z3 z4 z10:D,exS bW K.eB ⟨[z0,z1,z2,z3,z4,.bp 2 0,.bp 4 0,.bp 5 0,.bp 7 0,I 0,z10],tmH d3 r1 nb r3 f (f.set i x) (f.take k) (L 0)⟩=
      some (.exit 1,⟨[.und,.und,.und,.und,.und,.bp 2 0,.bp 4 0,.bp 5 0,.bp 7 0,I 20,.und],tmH d3 r1 nb r3 f (f.set i x) (f.take k) (L 20)⟩):=by
      intro z0 z1 z2 z3 z4 z10
      refine dZ (fun j=>⟨[.und,.und,.und,.und,.und,.bp 2 0,.bp 4 0,.bp 5 0,.bp 7 0,I j,.und],tmH d3 r1 nb r3 f (f.set i x) (f.take k) (L j)⟩) 20 rfl ?_ ?_ (by simp)
      · intro j hj
        have l:=Ll j
        rw[Ls j]
        generalize L j=q at*
        generalize f.set i x=g at*
        generalize f.take k=h at*
        simp only[tmH,List.length_append,List.length_cons,List.length_nil]
        simp (disch:=omega) only[go_sem,K.cL,↓reduceIte,List.map_append,List.map_cons,List.map_nil,Nat.reduceAdd,Nat.reduceSub]
      · generalize L 20=q at*
        generalize f.set i x=g at*
        generalize f.take k=h at*
        simp only[tmH]
        simp (disch:=omega) only[go_sem,K.cL,↓reduceIte,Nat.reduceAdd,Nat.reduceSub]
        rfl
     rw[L0]at lp
     have l:=Ll 20
     clear Ll Ls L0
     generalize L 20=q at*
     have sl:(f.set i x).length=f.length:=List.length_set
     simp only[vT,tmH,sl]at*
     simp (disch:=omega) only[go_sem,K.ay,↓reduceIte,lo,ro,o1,rx,o2,w,ag,rd,m1,ex,m2,tk,m3,a,aw,hx,ro1,rc,sc,lp,Nat.reduceAdd,Nat.reduceSub]
 · rw[decide_eq_false c]at lo
   simp (disch:=omega) only[go_sem,K.ay,↓reduceIte,lo,aw,Nat.reduceAdd,Nat.reduceSub]
end Go.Ev
