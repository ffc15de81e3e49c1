/- Parts of the proof: see the text that holds the theorem. -/
import Derived.Test.YtbajpjfhkieglaaZ2
set_option linter.all false
set_option maxRecDepth 100000
namespace Go.Ev
open Go
abbrev I(n:Int):D:= .t (.int .i64 n)
abbrev B(b:Bool):D:= .t (.bool b)
def pK{β:Type}(call:ag):List R→List D→List D→ab→(List D→List D→ab→Option β)→Option β
 | rs,L,vs,H,K=>(evR call rs L vs H).bind fun q=>K q.1 q.2.1 q.2.2
def xk{β:Type}(call:ag)(rs:List R)(d:Option Nat)(L vs:List D)(K:List D→List D→ab→Option β)(p:D×ab):Option β:=
 pK call rs (p.1::L) (wr vs d p.1) p.2 K
@[go_sem] theorem GG {β : Type} (call : ag) (rs : List R) (d : Option Nat) (L vs : List D) (K : List D → List D → ab → Option β) (x : D) (H : ab) :
 xk call rs d L vs K (x,H)=pK call rs (x::L) (wr vs d x) H K:=(rfl)
@[go_sem] theorem GH {β : Type} (call : ag) (L vs : List D) (H : ab) (K : List D → List D → ab → Option β) : pK call [] L vs H K = K L vs H := (rfl)
@[go_sem] theorem DJ {β : Type} (call : ag) (o : O) (d : Option Nat) (rs : List R) (L vs : List D) (H : ab) (K : List D → List D → ab → Option β) :
 pK call (⟨o,d,none⟩::rs) L vs H K=(evO call (X.get vs L) H o).bind (xk call rs d L vs K):=by
 simp[pK,evR,aE,Option.bind_assoc]
 rfl
def gate{β:Type}(c:Option D)(w:Bool)(a b:Option β):Option β:=match c with
 | some (.t (.bool x))=>if x=w then a else b
 | some (.tup [])=>b
 | _=>none
@[congr] theorem AD {β : Type} {c c' : Option D} {w : Bool} {a b : Option β} (h : True → c = c') : gate c w a b = gate c' w a b := by rw [h trivial]
@[go_sem] theorem GI {β : Type} (p : Prop) [Decidable p] (a b : Option β) : gate (some (.t (.bool (decide p)))) true a b = if p then a else b := by
 by_cases h:p<;>simp[gate,h]
@[go_sem] theorem DK {β : Type} (p : Prop) [Decidable p] (a b : Option β) : gate (some (.t (.bool (decide p)))) false a b = if p then b else a := by
 by_cases h:p<;>simp[gate,h]
@[go_sem] theorem DL {β : Type} (x : Bool) (a b : Option β) : gate (some (.t (.bool x))) true a b = if x = true then a else b := (rfl)
@[go_sem] theorem AE {β : Type} (x : Bool) (a b : Option β) : gate (some (.t (.bool x))) false a b = if x = true then b else a := by cases x <;> rfl
@[go_sem] theorem DM {β : Type} (w : Bool) (a b : Option β) : gate (some (.tup [])) w a b = b := (rfl)
@[go_sem] theorem DN {β : Type} (call : ag) (o : O) (d : Option Nat) (k : Nat) (w : Bool) (rs : List R) (L vs : List D) (H : ab) (K : List D → List D → ab → Option β) :
 pK call (⟨o,d,some (k,w)⟩::rs) L vs H K=gate L[k]? w ((evO call (X.get vs L) H o).bind (xk call rs d L vs K)) (pK call rs (.tup []::L) (wr vs d (.tup [])) H K):=by
 simp only[pK,evR,aE]
 cases hL:L[k]? with
 | none=>simp[gate]
 | some c=>
   simp only[Option.bind_some]
   cases c with
   | t x=>
     cases x with
     | bool b=>cases b<;>cases w<;>simp[gate,Option.bind_assoc]<;>rfl
     | _=>simp[gate]
   | tup ds=>
     cases ds with
     | nil=>simp[gate]
     | cons=>simp[gate]
   | _=>simp[gate]
open Classical in
noncomputable def iy{β:Type}(p:Prop)(x:Option β):Option β:=if p then x else none
@[go_sem] theorem xl {β : Type} (x : Option β) : iy True x = x := by simp [iy]
noncomputable def lR{β:Type}(call:ag)(all:List R)(n:Nat)(ps:List (Nat×Nat))(rs:List R)(L vs:List D)(H:ab)(acc:List Tr)(K:List D→List D→ab→Option β):Option β:=
 (evR call rs L vs H).bind fun q=>iy (eo call all n ((trace call rs L vs H).reverse++acc) ps) (K q.1 q.2.1 q.2.2)
noncomputable def qL{β:Type}(call:ag)(all:List R)(n:Nat)(ps:List (Nat×Nat))(rs:List R)(d:Option Nat)(L vs:List D)(H:ab)(acc:List Tr)(K:List D→List D→ab→Option β)(p:D×ab):Option β:=
 lR call all n ps rs (p.1::L) (wr vs d p.1) p.2 ((L,vs,H)::acc) K
@[go_sem] theorem GJ {β : Type} (call : ag) (all : List R) (n : Nat) (ps : List (Nat × Nat)) (rs : List R) (d : Option Nat) (L vs : List D) (H : ab) (acc : List Tr) (K : List D → List D → ab → Option β) (x : D) (H' : ab) :
 qL call all n ps rs d L vs H acc K (x,H')=lR call all n ps rs (x::L) (wr vs d x) H' ((L,vs,H)::acc) K:=(rfl)
@[go_sem] theorem GK {β : Type} (call : ag) (all : List R) (n : Nat) (ps : List (Nat × Nat)) (L vs : List D) (H : ab) (acc : List Tr) (K : List D → List D → ab → Option β) :
 lR call all n ps [] L vs H acc K=iy (eo call all n ((L,vs,H)::acc) ps) (K L vs H):=by
 simp[lR,evR,trace]
theorem lS{β:Type}(call:ag)(all:List R)(n:Nat)(ps:List (Nat×Nat))(r:R)(rs:List R)(L vs:List D)(H:ab)(acc:List Tr)(K:List D→List D→ab→Option β):
 lR call all n ps (r::rs) L vs H acc K=(aE L r.g).bind fun w=>
  if w then(evO call (X.get vs L) H r.o).bind (qL call all n ps rs r.d L vs H acc K)else lR call all n ps rs (.tup []::L) (wr vs r.d (.tup [])) H ((L,vs,H)::acc) K:=by
 obtain hw | ⟨w,hw⟩:aE L r.g=none∨∃w,aE L r.g=some w:=by cases aE L r.g<;>simp
 · simp[lR,evR,trace,hw]
 · cases w with
   | true=>
     obtain hq | ⟨q,hq⟩:evO call (X.get vs L) H r.o=none∨∃q,evO call (X.get vs L) H r.o=some q:=by cases evO call (X.get vs L) H r.o<;>simp
     · simp[lR,evR,trace,hw,hq]
     · simp[lR,evR,trace,hw,hq,qL]
   | false=>simp[lR,evR,trace,hw]
@[go_sem] theorem DO {β : Type} (call : ag) (all : List R) (n : Nat) (ps : List (Nat × Nat)) (o : O) (d : Option Nat) (rs : List R) (L vs : List D) (H : ab) (acc : List Tr) (K : List D → List D → ab → Option β) :
 lR call all n ps (⟨o,d,none⟩::rs) L vs H acc K=(evO call (X.get vs L) H o).bind (qL call all n ps rs d L vs H acc K):=by
 rw[lS];simp[aE]
@[go_sem] theorem DP {β : Type} (call : ag) (all : List R) (n : Nat) (ps : List (Nat × Nat)) (o : O) (d : Option Nat) (k : Nat) (w : Bool) (rs : List R) (L vs : List D) (H : ab) (acc : List Tr) (K : List D → List D → ab → Option β) :
 lR call all n ps (⟨o,d,some (k,w)⟩::rs) L vs H acc K=
  gate L[k]? w ((evO call (X.get vs L) H o).bind (qL call all n ps rs d L vs H acc K)) (lR call all n ps rs (.tup []::L) (wr vs d (.tup [])) H ((L,vs,H)::acc) K):=by
 rw[lS]
 simp only[aE]
 cases hL:L[k]? with
 | none=>simp[gate]
 | some c=>
   simp only[Option.bind_some]
   cases c with
   | t x=>
     cases x with
     | bool b=>cases b<;>cases w<;>simp[gate]
     | _=>simp[gate]
   | tup ds=>
     cases ds with
     | nil=>simp[gate]
     | cons=>simp[gate]
   | _=>simp[gate]
def iJ(call:ag):Option R→Option Tr→Option Tr→Option Tr→Prop
 | some r,some s,some a,some s'=>(match r.o with
   | .al _ _=>a.2.2[s.2.2.length]?=s'.2.2[s.2.2.length]?
   | .bs xs _=>aE s.1 r.g=some false∨((aI (X.get s.2.1 s.1) xs).bind dT).isSome=true
   | o=>fx o=true∧(aE s.1 r.g=some false∨kj (evO call (X.get s.2.1 s.1) a.2.2 o)=kj (evO call (X.get s.2.1 s.1) s.2.2 o)))
 | _,_,_,_=>False
@[go_sem] theorem AF (call : ag) (all : List R) (n : Nat) (acc : List Tr) : eo call all n acc [] = True := (rfl)
@[go_sem] theorem xm (call : ag) (all : List R) (n : Nat) (acc : List Tr) (p m : Nat) (r : List (Nat × Nat)) :
 eo call all n acc ((p,m)::r)=(iJ call all[p]? acc[n-p]? acc[n-m]? acc[n-(p+1)]?∧m≤n∧eo call all n acc r):=by
 simp only[eo,xj,iJ]
 try rfl
section
variable (call : ag) (d : Option Nat) (gd : Option (Nat × Bool)) (L vs L' vs' : List D) (H H' : ab) (s' : Tr)
@[go_sem] theorem GL (x : X) (n : Nat) (agg : Bool) : iJ call (some ⟨.ld x n agg, d, gd⟩) (some (L, vs, H)) (some (L', vs', H')) (some s') =
 (aE L gd=some false∨kj (evO call (X.get vs L) H' (.ld x n agg))=kj (evO call (X.get vs L) H (.ld x n agg))):=by simp[iJ,fx]
@[go_sem] theorem GM (x i : X) (sz : Nat) : iJ call (some ⟨.ia x i sz, d, gd⟩) (some (L, vs, H)) (some (L', vs', H')) (some s') =
 (aE L gd=some false∨kj (evO call (X.get vs L) H' (.ia x i sz))=kj (evO call (X.get vs L) H (.ia x i sz))):=by simp[iJ,fx]
@[go_sem] theorem GN (x : X) (lo hi : Option X) (sz : Nat) : iJ call (some ⟨.sc x lo hi sz, d, gd⟩) (some (L, vs, H)) (some (L', vs', H')) (some s') =
 (aE L gd=some false∨kj (evO call (X.get vs L) H' (.sc x lo hi sz))=kj (evO call (X.get vs L) H (.sc x lo hi sz))):=by simp[iJ,fx]
@[go_sem] theorem DQ (x : X) (z : T) (sz : Nat) : iJ call (some ⟨.mkt x z sz, d, gd⟩) (some (L, vs, H)) (some (L', vs', H')) (some s') =
 (aE L gd=some false∨kj (evO call (X.get vs L) H' (.mkt x z sz))=kj (evO call (X.get vs L) H (.mkt x z sz))):=by simp[iJ,fx]
@[go_sem] theorem GO (z : List D) (l : List (Nat × Nat)) (L2 vs2 : List D) (H2 : ab) : iJ call (some ⟨.al z l, d, gd⟩) (some (L, vs, H)) (some (L', vs', H')) (some (L2, vs2, H2)) = (H'[H.length]? = H2[H.length]?) := (rfl)
@[go_sem] theorem GP (xs : List X) (sz : Nat) : iJ call (some ⟨.bs xs sz, d, gd⟩) (some (L, vs, H)) (some (L', vs', H')) (some s') =
 (aE L gd=some false∨((aI (X.get vs L) xs).bind dT).isSome=true):=(rfl)
@[go_sem] theorem uS (L : List D) : aE L none = some true := (rfl)
def xn(w:Bool):Option D→Option Bool
 | some (.t (.bool b))=>some (b==w)
 | some (.tup [])=>some false
 | _=>none
@[go_sem] theorem AG (w b : Bool) : xn w (some (.t (.bool b))) = some (b == w) := (rfl)
@[go_sem] theorem DR (w : Bool) : xn w (some (.tup [])) = some false := (rfl)
@[go_sem] theorem uT (L : List D) (k : Nat) (w : Bool) : aE L (some (k, w)) = xn w L[k]? := by
 simp only[aE]
 cases L[k]? with
 | none=>rfl
 | some c=>cases c with
   | t x=>cases x<;>rfl
   | tup ds=>cases ds<;>rfl
   | _=>rfl
@[go_sem] theorem DT (x : D) : kj (some (x, H)) = some x := (rfl)
attribute [go_sem] beq_true beq_false or_true true_or or_self
end
theorem n9(call:ag)(rs:List R)(vs:List D)(H:ab):pJ call rs [] vs H=evR call rs [] vs H:=by
 simp[pJ,eo]
def Jl(L vs:List D)(H:ab):Option (Ex×St):=some (.normal,⟨vs,H⟩)
noncomputable def Jm(call:ag)(k:Nat)(a b:C)(L vs:List D)(H:ab):Option (Ex×St):=bn L[k]? (exS call a ⟨vs,H⟩) (exS call b ⟨vs,H⟩)
@[go_sem] theorem Jn (L vs : List D) (H : ab) : Jl L vs H = some (.normal, ⟨vs, H⟩) := (rfl)
@[go_sem] theorem Jo (call : ag) (k : Nat) (a b : C) (L vs : List D) (H : ab) : Jm call k a b L vs H = bn L[k]? (exS call a ⟨vs, H⟩) (exS call b ⟨vs, H⟩) := (rfl)
def andThen(x:Option (Ex×St))(k:St→Option (Ex×St)):Option (Ex×St):=x.bind fun p=>bq p k
@[go_sem] theorem rW (st : St) (k : St → Option (Ex × St)) : andThen (some (.normal, st)) k = k st := (rfl)
@[go_sem] theorem xo (st : St) (k : St → Option (Ex × St)) : andThen (some (.ret, st)) k = some (.ret, st) := (rfl)
@[go_sem] theorem uU (i : Nat) (st : St) (k : St → Option (Ex × St)) : andThen (some (.exit i, st)) k = some (.exit i, st) := (rfl)
@[go_sem] theorem uV (k : St → Option (Ex × St)) : andThen none k = none := (rfl)
@[go_sem] theorem andThen_ite (c : Prop) [Decidable c] (a b : Option (Ex × St)) (k : St → Option (Ex × St)) : andThen (if c then a else b) k = if c then andThen a k else andThen b k := by
 split<;>rfl
@[go_sem] theorem GQ (call : ag) (st : St) : exS call .skip st = some (.normal, st) := (rfl)
@[go_sem] theorem Jp (call : ag) (rs : List R) (vs : List D) (H : ab) : exS call (.reg rs []) ⟨vs, H⟩ = pK call rs [] vs H Jl := by
 simp only[exS,n9,pK]
 cases evR call rs [] vs H<;>rfl
@[go_sem] theorem GR (call : ag) (rs : List R) (p : Nat × Nat) (ps : List (Nat × Nat)) (vs : List D) (H : ab) :
 exS call (.reg rs (p::ps)) ⟨vs,H⟩=lR call rs rs.length (p::ps) rs [] vs H [] Jl:=by
 simp only[exS,pJ,lR,List.append_nil]
 by_cases h:eo call rs rs.length (trace call rs [] vs H).reverse (p::ps)
 · rw[if_pos h]
   simp only[iy,if_pos h]
   cases evR call rs [] vs H<;>rfl
 · rw[if_neg h]
   simp only[iy,if_neg h]
   cases evR call rs [] vs H<;>rfl
@[go_sem] theorem Jq (call : ag) (a b : C) (st : St) : exS call (.seq a b) st = andThen (exS call a st) (exS call b) := (rfl)
@[go_sem] theorem Jr (call : ag) (rs : List R) (k : Nat) (a b : C) (vs : List D) (H : ab) : exS call (.ite rs [] k a b) ⟨vs, H⟩ = pK call rs [] vs H (Jm call k a b) := by
 simp only[exS,n9,pK]
 cases evR call rs [] vs H<;>rfl
@[go_sem] theorem GS (call : ag) (rs : List R) (p : Nat × Nat) (ps : List (Nat × Nat)) (k : Nat) (a b : C) (vs : List D) (H : ab) :
 exS call (.ite rs (p::ps) k a b) ⟨vs,H⟩=lR call rs rs.length (p::ps) rs [] vs H [] (Jm call k a b):=by
 simp only[exS,pJ,lR,List.append_nil]
 by_cases h:eo call rs rs.length (trace call rs [] vs H).reverse (p::ps)
 · rw[if_pos h]
   simp only[iy,if_pos h]
   cases evR call rs [] vs H<;>rfl
 · rw[if_neg h]
   simp only[iy,if_neg h]
   cases evR call rs [] vs H<;>rfl
@[go_sem] theorem Js (call : ag) (rs : List R) (ps : List (Nat × Nat)) (k : Nat) (a b c : C) (st : St) : exS call (.its rs ps k a b c) st = andThen (exS call (.ite rs ps k a b) st) (exS call c) := (rfl)
@[go_sem] theorem Jt (call : ag) (rs : List R) (ps : List (Nat × Nat)) (k : Nat) (a b c : C) (st : St) : exS call (.itk rs ps k a b c) st = exS call (.ite rs ps k (.seq a c) (.seq b c)) st := (rfl)
@[go_sem] theorem Ju (call : ag) (j : Nat) (a b : C) (vs : List D) (H : ab) : exS call (.itv j a b) ⟨vs, H⟩ = bn vs[j]? (exS call a ⟨vs, H⟩) (exS call b ⟨vs, H⟩) := (rfl)
@[go_sem] theorem GU (call : ag) (id : Nat) (st : St) : exS call (.exit id) st = some (.exit id, st) := (rfl)
@[go_sem] theorem Jv (call : ag) (st : St) : exS call .ret st = some (.ret, st) := (rfl)
@[go_sem] theorem GV (call : ag) (st : St) : exS call .fail st = none := (rfl)
@[go_sem] theorem Jw (call : ag) (x p f : Nat) (r1 : List R) (p1 : List (Nat × Nat)) (r2 : List R) (p2 : List (Nat × Nat)) (vs : List D) (H : ab) : exS call (.rng x p f r1 p1 r2 p2) ⟨vs, H⟩ = (pG (stepG (pJ call) vs p r1 p1 r2 p2) (rV f vs[x]?) H).map fun H => (.normal, ⟨vs, H⟩) := (rfl)
@[go_sem] theorem Jx (call : ag) (v : Bool) (c : C) (st : St) : exS call (.cnd v c) st = exS call c st := (rfl)
def jH(id:Nat)(x:Option (Ex×St)):Option (Ex×St):=x.map (leave id)
@[go_sem] theorem Jy (call : ag) (id : Nat) (c : C) (st : St) : exS call (.blk id c) st = jH id (exS call c st) := (rfl)
@[go_sem] theorem uW (id : Nat) (st : St) : jH id (some (.normal, st)) = some (.normal, st) := by simp [jH, leave]
@[go_sem] theorem DU (id : Nat) (st : St) : jH id (some (.ret, st)) = some (.ret, st) := by simp [jH, leave]
@[go_sem] theorem AH (id i : Nat) (st : St) : jH id (some (.exit i, st)) = if i = id then some (.normal, st) else some (.exit i, st) := by
 simp only[jH,leave,Option.map_some,Ex.exit.injEq]
 split<;>rfl
@[go_sem] theorem AI (id : Nat) : jH id none = none := (rfl)
@[go_sem] theorem DV (id : Nat) (c : Prop) [Decidable c] (a b : Option (Ex × St)) : jH id (if c then a else b) = if c then jH id a else jH id b := by
 split<;>rfl
@[congr] theorem xp {c c' : Option D} {a b : Option (Ex × St)} (h : True → c = c') : bn c a b = bn c' a b := by rw [h trivial]
@[go_sem] theorem DW (p : Prop) [Decidable p] (a b : Option (Ex × St)) : bn (some (.t (.bool (decide p)))) a b = if p then a else b := by
 by_cases h:p<;>simp[bn,h]
@[go_sem] theorem AJ (p : Prop) [Decidable p] (a b : Option (Ex × St)) : bn (some (.t (.bool (!decide p)))) a b = if p then b else a := by
 by_cases h:p<;>simp[bn,h]
@[go_sem] theorem GW (a : Option (Ex × St)) : bn (some .ub) a a = a := by simp [bn]
@[go_sem] theorem AK (x : Bool) (a b : Option (Ex × St)) : bn (some (.t (.bool x))) a b = if x = true then a else b := (rfl)
def er(gc:Bool)(dead:List Nat)(k:Nat)(x:Option (Ex×St)):Option St:=x.bind fun p=>match p.1 with
 | .normal=>tidy gc dead k p.2
 | _=>none
@[go_sem] theorem tq (gc : Bool) (dead : List Nat) (k : Nat) (st : St) : er gc dead k (some (.normal, st)) = tidy gc dead k st := (rfl)
@[go_sem] theorem AL (gc : Bool) (dead : List Nat) (k : Nat) (c : Prop) [Decidable c] (a b : Option (Ex × St)) : er gc dead k (if c then a else b) = if c then er gc dead k a else er gc dead k b := by
 split<;>rfl
theorem oZ{gc:Bool}{dead:List Nat}{body:St→Option (Ex×St)}{st st2:St}(h:er gc dead st.H.length (body st)=some st2)
 {p:Ex×St} (h2:eG gc dead body st2=some p):eG gc dead body st=some p:=by
 unfold er at h
 obtain⟨⟨e,st1⟩,hq,h⟩:=Option.bind_eq_some_iff.1 h
 cases e with
 | normal=>exact kg hq h h2
 | ret=>cases h
 | exit=>cases h
theorem kM{gc:Bool}{dead:List Nat}{body:St→Option (Ex×St)}(s:Nat→St){p:Ex×St}(n:Nat)
 (h:∀j,j<n→er gc dead (s j).H.length (body (s j))=some (s (j+1))) (he:eG gc dead body (s n)=some p):eG gc dead body (s 0)=some p:=by
 have:=iw (s:=s) n 0 (fun j _ hj=>by
  have h:=h j (by omega)
  unfold er at h
  obtain⟨⟨e,st1⟩,hq,h⟩:=Option.bind_eq_some_iff.1 h
  cases e with
  | normal=>exact⟨st1,hq,h⟩
  | ret=>cases h
  | exit=>cases h) (by simpa using he)
 exact this
def GX(res:List (Nat×Option (Nat×Bool)))(k raw:Nat)(p:Ex×St):Option (D×ab):=match p.1 with
 | .exit _=>none
 | _=>(bW p.2 res).bind (finish k raw p.2.H)
@[go_sem] theorem GY (res : List (Nat × Option (Nat × Bool))) (k raw : Nat) (vs : List D) (H : ab) : GX res k raw (.ret, ⟨vs, H⟩) = (bW ⟨vs, H⟩ res).bind (finish k raw H) := (rfl)
@[go_sem] theorem xq (res : List (Nat × Option (Nat × Bool))) (k raw : Nat) (vs : List D) (H : ab) : GX res k raw (.normal, ⟨vs, H⟩) = (bW ⟨vs, H⟩ res).bind (finish k raw H) := (rfl)
theorem xr{fs:Nat→Option Fn}{raw f:Nat}{args:List D}{H:ab}{fn:Fn}{r:D×ab}(hf:fs f=some fn)(hn:fn.nargs=args.length)
 (h:(exS (dk fs) fn.body ⟨fq args fn.vars,H⟩).bind (GX fn.res H.length raw)=some r) (h0:fn.prim=[]:=by rfl):dk fs raw f args H=some r:=by
 obtain⟨p,hp,he⟩:=Option.bind_eq_some_iff.1 h
 exact tf hf hn (tn _ _ _ hp) he h0
@[go_sem] theorem GZ {α β : Type} (c : Prop) [Decidable c] (a b : Option α) (k : α → Option β) : (if c then a else b).bind k = if c then a.bind k else b.bind k := by
 split<;>rfl
@[go_sem] theorem Jz {α β : Type} (c : Prop) [Decidable c] (a b : Option α) (k : α → β) : (if c then a else b).map k = if c then a.map k else b.map k := by
 split<;>rfl
theorem DX(a b:Int):(a==b)=decide (a=b):=by rw[Bool.eq_iff_iff];simp
theorem xt{n:Int}(h1: -9223372036854775808≤n)(h2:n≤9223372036854775807):IntKind.i64.wrap n=n:=by
 have e:IntKind.i64.wrap n=if n % 18446744073709551616≥9223372036854775808 then n % 18446744073709551616-18446744073709551616 else n % 18446744073709551616:=by
  simp[IntKind.wrap,IntKind.signed,IntKind.bits]
 rw[e];split<;>omega
section
variable {α β : Type}
@[go_sem] theorem xu (a : α) (f : α → Option β) : (some a).bind f = f a := (rfl)
@[go_sem] theorem AM (a : α) (f : α → β) : (some a).map f = some (f a) := (rfl)
@[go_sem] theorem xv (f : α → Option β) : (none : Option α).bind f = none := (rfl)
@[go_sem] theorem AN (f : α → β) : (none : Option α).map f = none := (rfl)
@[go_sem] theorem AO (a : α) (l : List α) (f : α → β) : (a :: l).map f = f a :: l.map f := (rfl)
@[go_sem] theorem DY (f : α → β) : ([] : List α).map f = [] := (rfl)
@[go_sem] theorem AP (a : α) (l : List α) : (a :: l)[0]? = some a := (rfl)
@[go_sem] theorem AQ (a : α) (l : List α) (n : Nat) : (a :: l)[n + 1]? = l[n]? := (rfl)
@[go_sem] theorem xw (a d : α) (l : List α) : (a :: l).getD 0 d = a := (rfl)
@[go_sem] theorem xx (a d : α) (l : List α) (n : Nat) : (a :: l).getD (n + 1) d = l.getD n d := (rfl)
@[go_sem] theorem AR (d : α) (n : Nat) : ([] : List α).getD n d = d := by simp
@[go_sem] theorem AS (a b : α) (l : List α) : (a :: l).set 0 b = b :: l := (rfl)
@[go_sem] theorem AT (a b : α) (l : List α) (n : Nat) : (a :: l).set (n + 1) b = a :: l.set n b := (rfl)
@[go_sem] theorem tu (a : α) (l m : List α) : (a :: l) ++ m = a :: (l ++ m) := (rfl)
@[go_sem] theorem uX (l : List α) : [] ++ l = l := (rfl)
@[go_sem] theorem uY (l : List α) : l ++ [] = l := by simp
@[go_sem] theorem rX (a : α) (l : List α) (f : α → List β) : (a :: l).flatMap f = f a ++ l.flatMap f := by simp
@[go_sem] theorem tv (f : α → List β) : ([] : List α).flatMap f = [] := by simp
@[go_sem] theorem uZ : ([] : List α).length = 0 := (rfl)
@[go_sem] theorem tw (a : α) (l : List α) : (a :: l).length = l.length + 1 := (rfl)
@[go_sem] theorem vd (l : List α) (f : α → β) : (l.map f).length = l.length := by simp
@[go_sem] theorem qM (l m : List α) : (l ++ m).length = l.length + m.length := by simp
@[go_sem] theorem oa (n : Nat) (a : α) : (List.replicate n a).length = n := by simp
@[go_sem] theorem ve (l : List α) (i : Nat) (a : α) : (l.set i a).length = l.length := by simp
@[go_sem] theorem xy (l : List α) : l.drop 0 = l := (rfl)
@[go_sem] theorem xz (a : α) (l : List α) (n : Nat) : (a :: l).drop (n + 1) = l.drop n := (rfl)
@[go_sem] theorem AU (n : Nat) : ([] : List α).drop n = [] := by simp
@[go_sem] theorem xA (l : List α) : l.take 0 = [] := (rfl)
@[go_sem] theorem xB (a : α) (l : List α) (n : Nat) : (a :: l).take (n + 1) = a :: l.take n := (rfl)
@[go_sem] theorem AV (n : Nat) : ([] : List α).take n = [] := by simp
@[go_sem] theorem xC (a b : α) : (bif true then a else b) = a := (rfl)
@[go_sem] theorem vf (a b : α) : (bif false then a else b) = b := (rfl)
@[go_sem] theorem AX (n : Nat) : n + 0 = n := (rfl)
@[go_sem] theorem AY (n : Nat) : 0 + n = n := by simp
@[go_sem] theorem AZ (a b : α) : (some a = some b) = (a = b) := by simp
@[go_sem] theorem G0 (a : α) : (some a).isSome = true := (rfl)
end
attribute [go_sem] decide_true decide_false if_true if_false Bool.false_eq_true Bool.true_eq_false decide_eq_true_eq decide_eq_false_iff_not Bool.and_eq_true Bool.or_eq_true Bool.not_eq_true' Bool.not_eq_true Bool.not_eq_false
 Bool.and_true Bool.true_and Bool.and_false Bool.false_and Bool.or_true Bool.true_or Bool.or_false Bool.false_or and_true true_and and_self not_true_eq_false not_false_eq_true beq_iff_eq bne_iff_ne ne_eq
@[go_sem] theorem A0 : (!true) = false := (rfl)
@[go_sem] theorem xD : (!false) = true := (rfl)
@[go_sem] theorem M4 (vs L : List D) (j : Nat) : X.get vs L (.v j) = vs[j]? := (rfl)
@[go_sem] theorem M5 (vs L : List D) (k : Nat) : X.get vs L (.l k) = L[k]? := (rfl)
@[go_sem] theorem M6 (vs L : List D) (d : D) : X.get vs L (.c d) = some d := (rfl)
@[go_sem] theorem M7 (vs L : List D) (n : Int) : X.get vs L (.i n) = some (I n) := (rfl)
@[go_sem] theorem M8 (vs L : List D) (x : Bool) : X.get vs L (.b x) = some (B x) := (rfl)
@[go_sem] theorem JA (vs : List D) (x : D) : wr vs none x = vs := (rfl)
@[go_sem] theorem JB (vs : List D) (s : Nat) (x : D) : wr vs (some s) x = vs.set s x := (rfl)
@[go_sem] theorem A1 (args : List D) : fq args [] = [] := (rfl)
@[go_sem] theorem xE (args : List D) (s : Nat) (r : List Nat) : fq args (s :: r) = args.getD s .und :: fq args r := (rfl)
def JC(H:ab)(d:D):Option (D×ab):=some (d,H)
@[go_sem] theorem JD (H : ab) (d : D) : JC H d = some (d, H) := (rfl)
def cD{α:Type}(a:α)(l:Option (List α)):Option (List α):=l.map (a:: ·)
@[go_sem] theorem A2 {α : Type} (a : α) (l : List α) : cD a (some l) = some (a :: l) := (rfl)
@[go_sem] theorem A3 {α : Type} (a : α) : cD a none = none := (rfl)
@[go_sem] theorem G1 {α β : Type} (f : α → Option β) : aI f [] = some [] := (rfl)
def LU{α β:Type}(f:α→Option β)(r:List α)(y:β):Option (List β):=cD y (aI f r)
@[go_sem] theorem xF {α β : Type} (f : α → Option β) (r : List α) (y : β) : LU f r y = cD y (aI f r) := (rfl)
@[go_sem] theorem qN {α β : Type} (f : α → Option β) (x : α) (r : List α) : aI f (x :: r) = (f x).bind (LU f r) := (rfl)
section
variable (call : ag) (get : X → Option D) (H : ab)
@[go_sem] theorem M9 (x : X) : evO call get H (.mv x) = (get x).bind (JC H) := by simp only [evO]; cases get x <;> rfl
def G2(c a b:Option D):Option (D×ab):=c.bind fun c=>a.bind fun a=>b.bind fun b=>(sU c a b).map fun d=>(d,H)
@[go_sem] theorem Na (c a b : X) : evO call get H (.pk c a b) = G2 H (get c) (get a) (get b) := (rfl)
@[go_sem] theorem DZ (x p q : Bool) : G2 H (some (.t (.bool x))) (some (.t (.bool p))) (some (.t (.bool q))) = some (.t (.bool (bif x then p else q)), H) := by cases x <;> rfl
@[go_sem] theorem D0 (a b : D) : G2 H (some (.t (.bool true))) (some a) (some b) = some (a, H) := (rfl)
@[go_sem] theorem A4 (a b : D) : G2 H (some (.t (.bool false))) (some a) (some b) = some (b, H) := (rfl)
@[go_sem] theorem G3 (x p : Bool) : (bif x then p else false) = (x && p) := by cases x <;> rfl
@[go_sem] theorem JE (x q : Bool) : (bif x then true else q) = (x || q) := by cases x <;> rfl
def bT(f:BinOp)(x y:Option D):Option (D×ab):=x.bind fun a=>y.bind fun b=>(j0 f a b).map fun d=>(d,H)
@[go_sem] theorem LV (f : BinOp) (x y : X) : evO call get H (.bin f x y) = bT H f (get x) (get y) := (rfl)
section
variable (k j : IntKind) (a b : Int)
@[go_sem] theorem D1 : bT H .add (some (.t (.int k a))) (some (.t (.int k b))) = some (.t (.int k (k.wrap (a + b))), H) := by simp [bT, j0, mr]
@[go_sem] theorem D2 : bT H .sub (some (.t (.int k a))) (some (.t (.int k b))) = some (.t (.int k (k.wrap (a - b))), H) := by simp [bT, j0, mr]
@[go_sem] theorem D3 : bT H .mul (some (.t (.int k a))) (some (.t (.int k b))) = some (.t (.int k (k.wrap (a * b))), H) := by simp [bT, j0, mr]
@[go_sem] theorem D4 : bT H .quo (some (.t (.int k a))) (some (.t (.int k b))) = if b = 0 then none else some (.t (.int k (k.wrap (a.tdiv b))), H) := by simp only [bT, j0, mr]; by_cases h : b = 0 <;> simp [h]
@[go_sem] theorem D5 : bT H .rem (some (.t (.int k a))) (some (.t (.int k b))) = if b = 0 then none else some (.t (.int k (a.tmod b)), H) := by simp only [bT, j0, mr]; by_cases h : b = 0 <;> simp [h]
@[go_sem] theorem D6 : bT H .eql (some (.t (.int k a))) (some (.t (.int k b))) = some (.t (.bool (decide (a = b))), H) := by simp [bT, j0, mr, DX]
@[go_sem] theorem D7 : bT H .neq (some (.t (.int k a))) (some (.t (.int k b))) = some (.t (.bool (decide (¬ a = b))), H) := by simp [bT, j0, mr, bne, DX]
@[go_sem] theorem D8 : bT H .lss (some (.t (.int k a))) (some (.t (.int k b))) = some (.t (.bool (decide (a < b))), H) := by simp [bT, j0, mr]
@[go_sem] theorem D9 : bT H .leq (some (.t (.int k a))) (some (.t (.int k b))) = some (.t (.bool (decide (a ≤ b))), H) := by simp [bT, j0, mr]
@[go_sem] theorem Ea : bT H .gtr (some (.t (.int k a))) (some (.t (.int k b))) = some (.t (.bool (decide (b < a))), H) := by simp [bT, j0, mr]
@[go_sem] theorem Eb : bT H .geq (some (.t (.int k a))) (some (.t (.int k b))) = some (.t (.bool (decide (b ≤ a))), H) := by simp [bT, j0, mr]
@[go_sem] theorem Ec (h : 0 ≤ b) : bT H .shl (some (.t (.int k a))) (some (.t (.int j b))) = some (.t (.int k (k.wrap (a * 2 ^ min b.toNat k.bits))), H) := by simp [bT, j0, jZ, Int.not_lt.2 h]
@[go_sem] theorem Ed (h : 0 ≤ b) : bT H .shr (some (.t (.int k a))) (some (.t (.int j b))) = some (.t (.int k (a.fdiv (2 ^ min b.toNat k.bits))), H) := by simp [bT, j0, jZ, Int.not_lt.2 h]
@[go_sem] theorem Ee : bT H .and (some (.t (.int k a))) (some (.t (.int k b))) = some (.t (.int k (k.wrap (BitVec.ofInt k.bits a &&& BitVec.ofInt k.bits b).toNat)), H) := by simp [bT, j0, mr]
@[go_sem] theorem G4 : bT H .or (some (.t (.int k a))) (some (.t (.int k b))) = some (.t (.int k (k.wrap (BitVec.ofInt k.bits a ||| BitVec.ofInt k.bits b).toNat)), H) := by simp [bT, j0, mr]
@[go_sem] theorem Ef : bT H .xor (some (.t (.int k a))) (some (.t (.int k b))) = some (.t (.int k (k.wrap (BitVec.ofInt k.bits a ^^^ BitVec.ofInt k.bits b).toNat)), H) := by simp [bT, j0, mr]
def JF(f:UnOp)(a:D):Option (D×ab):=(unD f a).map fun d=>(d,H)
@[go_sem] theorem Nb (f : UnOp) (x : X) : evO call get H (.un f x) = (get x).bind (JF H f) := (rfl)
@[go_sem] theorem G5 (x : Bool) : JF H .not (.t (.bool x)) = some (.t (.bool (!x)), H) := (rfl)
@[go_sem] theorem G6 : JF H .neg (.t (.int k a)) = some (.t (.int k (k.wrap (0 - a))), H) := (rfl)
def LW(k:IntKind)(a:D):Option (D×ab):=(wE k a).map fun d=>(d,H)
@[go_sem] theorem Nc (x : X) : evO call get H (.cv k x) = (get x).bind (LW H k) := (rfl)
@[go_sem] theorem G7 : LW H k (.t (.int j a)) = some (.t (.int k (k.wrap a)), H) := (rfl)
end
def fh(q:EqK)(neg:Bool)(x y:Option D):Option (D×ab):=x.bind fun a=>y.bind fun b=>(uM q neg a b).map fun d=>(d,H)
@[go_sem] theorem LX (q : EqK) (neg : Bool) (x y : X) : evO call get H (.eqk q neg x y) = fh H q neg (get x) (get y) := (rfl)
@[go_sem] theorem A5 (x y : Bool) : fh H .bool false (some (.t (.bool x))) (some (.t (.bool y))) = some (.t (.bool (x == y)), H) := (rfl)
@[go_sem] theorem xG (x y : Bool) : fh H .bool true (some (.t (.bool x))) (some (.t (.bool y))) = some (.t (.bool (!(x == y))), H) := (rfl)
def vg:List T→List T→Bool
 | .int _ a::xs,.int _ b::ys=>decide (a=b)&&vg xs ys
 | _,_=>true
def o3:Nat→List T→List T→Bool
 | 0,[],[]=>true
 | n+1,.int j _::xs,.int k _::ys=>decide (j=k)&&o3 n xs ys
 | _,_,_=>false
@[go_sem] theorem Eg (k j : IntKind) (a b : Int) (xs ys : List T) : vg (.int k a :: xs) (.int j b :: ys) = (decide (a = b) && vg xs ys) := (rfl)
@[go_sem] theorem G8 : vg [] [] = true := (rfl)
@[go_sem] theorem G9 : o3 0 [] [] = true := (rfl)
@[go_sem] theorem Eh (n : Nat) (k : IntKind) (a b : Int) (xs ys : List T) : o3 (n + 1) (.int k a :: xs) (.int k b :: ys) = o3 n xs ys := by simp [o3]
theorem jI:∀ {n:Nat} {xs ys:List T},o3 n xs ys=true→xs.length=n∧cR xs ys=some (vg xs ys)
 | 0,[],[],_=>⟨rfl,rfl⟩
 | 0,[],_::_,h=>by simp[o3]at h
 | 0,_::_,_,h=>by simp[o3]at h
 | n+1,[],_,h=>by simp[o3]at h
 | n+1,x::xs,[],h=>by cases x<;>simp[o3]at h
 | n+1,x::xs,y::ys,h=>by
   cases x<;>cases y<;>simp only[o3,Bool.and_eq_true,decide_eq_true_eq,Bool.false_eq_true]at h
   obtain⟨rfl,h⟩:=h
   obtain⟨h1,h2⟩:=jI h
   exact⟨by simp[h1],by simp[cR,h2,vg,DX]⟩
@[go_sem] theorem A6 (n : Nat) (xs ys : List T) (h : o3 n xs ys = true) : fh H (.ints n) false (some (.t (.agg xs))) (some (.t (.agg ys))) = some (.t (.bool (vg xs ys)), H) := by
 obtain⟨h1,h2⟩:=jI h;simp[fh,uM,eqD,h1,h2]
@[go_sem] theorem xH (n : Nat) (xs ys : List T) (h : o3 n xs ys = true) : fh H (.ints n) true (some (.t (.agg xs))) (some (.t (.agg ys))) = some (.t (.bool (!vg xs ys)), H) := by
 obtain⟨h1,h2⟩:=jI h;simp[fh,uM,eqD,h1,h2]
@[go_sem] theorem Ei : fh H .sl false (some .nil) (some .nil) = some (.t (.bool true), H) := (rfl)
@[go_sem] theorem Ej : fh H .sl false (some (.t (.sl []))) (some .nil) = some (.ub, H) := (rfl)
@[go_sem] theorem A7 : fh H .sl true (some (.t (.sl []))) (some .nil) = some (.ub, H) := (rfl)
@[go_sem] theorem A8 : fh H .sl true (some .nil) (some .nil) = some (.t (.bool false), H) := (rfl)
def Hc(a:D):Option (D×ab):=(GA a).map fun d=>(d,H)
@[go_sem] theorem Nd (x : X) : evO call get H (.nc x) = (get x).bind (Hc H) := (rfl)
@[go_sem] theorem JG (id off : Nat) : Hc H (.bp id off) = some (.bp id off, H) := (rfl)
@[go_sem] theorem JH (id ep n i off : Nat) : Hc H (.ap id ep n i off) = some (.ap id ep n i off, H) := (rfl)
@[go_sem] theorem JI (cs : List T) : Hc H (.ep cs) = some (.ep cs, H) := (rfl)
def A9(off:Nat)(a:D):Option (D×ab):=(oJ a off).map fun d=>(d,H)
@[go_sem] theorem Nf (x : X) (off : Nat) : evO call get H (.fa x off) = (get x).bind (A9 H off) := (rfl)
@[go_sem] theorem JJ (id o off : Nat) : A9 H off (.bp id o) = some (.bp id (o + off), H) := (rfl)
@[go_sem] theorem JK (id ep n i o off : Nat) : A9 H off (.ap id ep n i o) = some (.ap id ep n i (o + off), H) := (rfl)
@[go_sem] theorem JL (cs : List T) (off : Nat) : A9 H off (.ep cs) = some (.ep (cs.drop off), H) := (rfl)
@[go_sem] theorem Ng (cs : List D) : cut cs 0 0 = some [] := by simp [cut]
@[go_sem] theorem Nh (c : D) (cs : List D) : cut (c :: cs) 0 1 = some [c] := by simp [cut]
@[go_sem] theorem Ni (c : D) (cs : List D) (n : Nat) : cut (c :: cs) 0 (n + 1) = cD c (cut cs 0 n) := by
 simp only[cut,cD];by_cases h:n≤cs.length<;>simp[h]
@[go_sem] theorem Nj (c : D) (cs : List D) (off n : Nat) : cut (c :: cs) (off + 1) n = cut cs off n := by
 simp only[cut,List.length_cons,List.drop_succ_cons]
 by_cases h:off+n≤cs.length
 · rw[if_pos h,if_pos (by omega)]
 · rw[if_neg h,if_neg (by omega)]
@[go_sem] theorem Ek (c : D) : aV false [c] = some c := (rfl)
@[go_sem] theorem El (cs : List D) : aV true cs = some (fe cs) := (rfl)
def mkA(cs:List D):Option (List T)→D
 | some ts=> .t (.agg ts)
 | none=> .agg cs
@[go_sem] theorem Hd (cs : List D) (ts : List T) : mkA cs (some ts) = .t (.agg ts) := (rfl)
@[go_sem] theorem He (cs : List D) : mkA cs none = .agg cs := (rfl)
@[go_sem] theorem Hf (cs : List D) : fe cs = mkA cs (dT cs) := by unfold fe; cases dT cs <;> rfl
@[go_sem] theorem Hg : dT [] = some [] := (rfl)
@[go_sem] theorem LY (x : T) (r : List D) : dT (.t x :: r) = cD x (dT r) := (rfl)
@[go_sem] theorem LZ (r : List D) : dT (.nil :: r) = none := (rfl)
@[go_sem] theorem Hh (a b c : Nat) (r : List D) : dT (.ref a b c :: r) = none := (rfl)
@[go_sem] theorem Hi (a b c d e : Nat) (r : List D) : dT (.sub a b c d e :: r) = none := (rfl)
@[go_sem] theorem tx (l : List T) : dT (l.map .t) = some l := by induction l with | nil => rfl | cons a l ih => simp [dT, ih]
def Em(off n:Nat)(agg:Bool)(a:D):Option (D×ab):=(ie a off n agg).map fun d=>(d,H)
@[go_sem] theorem Nk (x : X) (off n : Nat) (agg : Bool) : evO call get H (.fl x off n agg) = (get x).bind (Em H off n agg) := (rfl)
def ofC(agg:Bool)(cs:Option (List D)):Option (D×ab):=(cs.bind (aV agg)).bind (JC H)
@[go_sem] theorem Nl (c : D) : ofC H false (some [c]) = some (c, H) := (rfl)
@[go_sem] theorem Nn (cs : List D) : ofC H true (some cs) = some (fe cs, H) := (rfl)
@[go_sem] theorem L0 (cs : List T) (off n : Nat) (agg : Bool) : Em H off n agg (.t (.agg cs)) = ofC H agg (cut (cs.map .t) off n) := by
 simp only[Em,ie,D.isAgg,if_true,D.cells,T.cells,ofC];cases (cut (cs.map .t) off n).bind (aV agg)<;>rfl
@[go_sem] theorem Hj (cs : List D) (off n : Nat) (agg : Bool) : Em H off n agg (.agg cs) = ofC H agg (cut cs off n) := by
 simp only[Em,ie,D.isAgg,if_true,D.cells,ofC];cases (cut cs off n).bind (aV agg)<;>rfl
@[go_sem] theorem JM (n : Nat) : idx (n : Int) = some n := by simp [idx]
@[go_sem] theorem No : idx 0 = some 0 := (rfl)
theorem xI{i:Int}(h:0≤i):idx i=some i.toNat:=by simp[idx,h]
def xJ(sz:Nat)(x i:Option D):Option (D×ab):=x.bind fun a=>(i.bind intOf).bind fun n=>(ku H a n sz).map fun d=>(d,H)
@[go_sem] theorem Np (x i : X) (sz : Nat) : evO call get H (.ia x i sz) = xJ H sz (get x) (get i) := (rfl)
def tz(sz:Nat)(e:T):Option (D×ab):=if e.cells.length=sz then some (.ep e.cells,H)else none
def JN(sz:Nat)(es:List T)(j:Nat):Option (D×ab):=es[j]?.bind (tz H sz)
@[go_sem] theorem JO (sz : Nat) (es : List T) (j : Nat) : JN H sz es j = es[j]?.bind (tz H sz) := (rfl)
@[go_sem] theorem JP (k : IntKind) (es : List T) (n : Int) (sz : Nat) : xJ H sz (some (.t (.sl es))) (some (.t (.int k n))) = (idx n).bind (JN H sz es) := by
 simp only[xJ,Option.bind_some,intOf,ku]
 cases idx n with
 | none=>rfl
 | some j=>
   simp only[Option.bind_some,JN]
   cases es[j]? with
   | none=>rfl
   | some e=>simp only[Option.bind_some,tz];split<;>rfl
@[go_sem] theorem Hk (k : IntKind) (n : Int) : tz H 1 (.int k n) = some (.ep [.int k n], H) := (rfl)
@[go_sem] theorem En (b : Bool) : tz H 1 (.bool b) = some (.ep [.bool b], H) := (rfl)
@[go_sem] theorem JQ (es : List T) : tz H 1 (.sl es) = some (.ep [.sl es], H) := (rfl)
def dy{α:Type}:Nat→List α→Bool
 | 0,[]=>true
 | n+1,_::r=>dy n r
 | _,_=>false
@[go_sem] theorem JR {α : Type} : dy 0 ([] : List α) = true := (rfl)
@[go_sem] theorem JS {α : Type} (n : Nat) (a : α) (l : List α) : dy (n + 1) (a :: l) = dy n l := (rfl)
theorem bl{α:Type}:∀ {n:Nat} {l:List α},dy n l=true↔l.length=n
 | 0,[]=>by simp[dy]
 | 0,_::_=>by simp[dy]
 | n+1,[]=>by simp[dy]
 | n+1,_::r=>by simp only[dy,List.length_cons,Nat.add_right_cancel_iff];exact bl
@[go_sem] theorem Hl (cs : List T) (sz : Nat) : tz H sz (.agg cs) = if dy sz cs = true then some (.ep cs, H) else none := by
 by_cases h:cs.length=sz
 · rw[tz,if_pos (show(T.agg cs).cells.length=sz from h),if_pos (bl.2 h)];rfl
 · rw[tz,if_neg (show ¬(T.agg cs).cells.length=sz from h),if_neg fun e=>h (bl.1 e)]
def xK(sz id ep n j:Nat):Option Obj→Option (D×ab)
 | some (.arr sz' _ ep' es)=>if ep=ep'∧n=es.length then(if j<n∧sz'=sz then some (.ap id ep n j 0,H)else none)else none
 | _=>none
@[go_sem] theorem Hm (k : IntKind) (id ep n : Nat) (i : Int) (sz : Nat) : xJ H sz (some (.ref id ep n)) (some (.t (.int k i))) = (idx i).bind fun j => xK H sz id ep n j H[id]? := by
 simp only[xJ,Option.bind_some,intOf,ku]
 cases idx i with
 | none=>rfl
 | some j=>
   simp only[Option.bind_some,bA]
   generalize H[id]?=o
   rcases o with _ | (_ | ⟨sz',pin,ep',es⟩)
   · rfl
   · rfl
   · simp only[xK]
     by_cases h:ep=ep'∧n=es.length
     · rw[if_pos h,if_pos h,Option.bind_some];split<;>rfl
     · rw[if_neg h,if_neg h];rfl
@[go_sem] theorem Eo (sz id ep n j sz' : Nat) (pin : Bool) (ep' : Nat) (es : List D) : xK H sz id ep n j (some (.arr sz' pin ep' es)) =
 if ep=ep'∧n=es.length then(if j<n∧sz'=sz then some (.ap id ep n j 0,H)else none)else none:=(rfl)
def xL(sz id ep n lo hi j:Nat):Option Obj→Option (D×ab)
 | some (.arr sz' _ ep' es)=>if ep=ep'∧n=es.length then(if lo+j<hi∧hi≤n∧sz'=sz then some (.ap id ep n (lo+j) 0,H)else none)else none
 | _=>none
@[go_sem] theorem Hn (k : IntKind) (id ep n lo hi : Nat) (i : Int) (sz : Nat) : xJ H sz (some (.sub id ep n lo hi)) (some (.t (.int k i))) = (idx i).bind fun j => xL H sz id ep n lo hi j H[id]? := by
 simp only[xJ,Option.bind_some,intOf,ku]
 cases idx i with
 | none=>rfl
 | some j=>
   simp only[Option.bind_some,bA]
   generalize H[id]?=o
   rcases o with _ | (_ | ⟨sz',pin,ep',es⟩)
   · rfl
   · rfl
   · simp only[xL]
     by_cases h:ep=ep'∧n=es.length
     · rw[if_pos h,if_pos h,Option.bind_some];split<;>rfl
     · rw[if_neg h,if_neg h];rfl
@[go_sem] theorem Ep (sz id ep n lo hi j sz' : Nat) (pin : Bool) (ep' : Nat) (es : List D) : xL H sz id ep n lo hi j (some (.arr sz' pin ep' es)) =
 if ep=ep'∧n=es.length then(if lo+j<hi∧hi≤n∧sz'=sz then some (.ap id ep n (lo+j) 0,H)else none)else none:=(rfl)
def JT(len sz:Nat)(agg:Bool)(x i:Option D):Option (D×ab):=x.bind fun a=>(i.bind intOf).bind fun n=>(idx n).bind fun j=>(kV a j len sz agg).map fun d=>(d,H)
def JU(len sz:Nat)(agg:Bool)(a:D)(j:Nat):Option (D×ab):=(kV a j len sz agg).map fun d=>(d,H)
@[go_sem] theorem Nq (x i : X) (len sz : Nat) (agg : Bool) : evO call get H (.ix x i len sz agg) = JT H len sz agg (get x) (get i) := (rfl)
@[go_sem] theorem JV (len sz : Nat) (agg : Bool) (a : D) (k : IntKind) (n : Int) : JT H len sz agg (some a) (some (.t (.int k n))) = (idx n).bind (JU H len sz agg a) := by
 simp only[JT,Option.bind_some,intOf];cases idx n<;>rfl
@[go_sem] theorem Ho (len j : Nat) (ts : List T) (h : j < len) (hs : (ts.all fun t => t.scalar) = true) : JU H len 1 false (.t (.agg ts)) j = (ts[j]?).map fun t => (.t t, H) := by
 have h0:len≠0:=by omega
 unfold JU kV
 rw[if_neg h0,if_pos h]
 unfold ie cut
 simp only[D.isAgg,D.cells,T.cells,if_true,Nat.mul_one,List.length_map]
 by_cases hj:j<ts.length
 · rw[if_pos (by omega),List.getElem?_eq_getElem hj]
   have e:((ts.map D.t).drop j).take 1=[D.t ts[j]]:=by
    rw[List.drop_eq_getElem_cons (by simpa using hj)];simp
   rw[e];rfl
 · rw[if_neg (by omega),List.getElem?_eq_none (by omega)];rfl
def xM(len sz:Nat)(x i:Option D):Option (D×ab):=x.bind fun a=>(i.bind intOf).bind fun n=>(idx n).bind fun j=>if j<len then(oJ a (j*sz)).map fun d=>(d,H)else none
@[go_sem] theorem L3 (x i : X) (len sz : Nat) : evO call get H (.iaa x i len sz) = xM H len sz (get x) (get i) := (rfl)
def L4(len sz:Nat)(a:D)(j:Nat):Option (D×ab):=if j<len then A9 H (j*sz) a else none
@[go_sem] theorem JW (len sz : Nat) (a : D) (j : Nat) : L4 H len sz a j = if j < len then A9 H (j * sz) a else none := (rfl)
@[go_sem] theorem Hp (len sz : Nat) (a : D) (k : IntKind) (n : Int) : xM H len sz (some a) (some (.t (.int k n))) = (idx n).bind (L4 H len sz a) := by
 simp only[xM,Option.bind_some,intOf];cases idx n<;>rfl
def rY(n:Nat)(agg:Bool)(a:D):Option (D×ab):=(gN H a n agg).map fun d=>(d,H)
@[go_sem] theorem Nr (x : X) (n : Nat) (agg : Bool) : evO call get H (.ld x n agg) = (get x).bind (rY H n agg) := (rfl)
def tA(off n:Nat)(agg:Bool):Option Obj→Option (D×ab)
 | some (.box cs)=>ofC H agg (cut cs off n)
 | _=>none
@[go_sem] theorem Hq (off n : Nat) (agg : Bool) (cs : List D) : tA H off n agg (some (.box cs)) = ofC H agg (cut cs off n) := (rfl)
@[go_sem] theorem JX (id off n : Nat) (agg : Bool) : rY H n agg (.bp id off) = tA H off n agg H[id]? := by
 simp only[rY,gN]
 generalize H[id]?=o
 rcases o with _ | (cs | _)
 · rfl
 · simp only[tA,ofC];cases (cut cs off n).bind (aV agg)<;>rfl
 · rfl
@[go_sem] theorem JY (cs : List T) (n : Nat) (agg : Bool) : rY H n agg (.ep cs) = ofC H agg (cut (cs.map .t) 0 n) := by
 simp only[rY,gN,ofC];cases (cut _ 0 n).bind (aV agg)<;>rfl
def Hr(off n:Nat)(agg:Bool)(e:D):Option (D×ab):=ofC H agg (cut e.cells off n)
@[go_sem] theorem JZ (off n : Nat) (agg : Bool) (e : D) : Hr H off n agg e = ofC H agg (cut e.cells off n) := (rfl)
def xN(ep m i off n:Nat)(agg:Bool):Option Obj→Option (D×ab)
 | some (.arr _ _ ep' es)=>if ep=ep'∧m=es.length then es[i]?.bind (Hr H off n agg)else none
 | _=>none
@[go_sem] theorem Ht (ep m i off n : Nat) (agg : Bool) (sz : Nat) (pin : Bool) (ep' : Nat) (es : List D) :
 xN H ep m i off n agg (some (.arr sz pin ep' es))=if ep=ep'∧m=es.length then es[i]?.bind (Hr H off n agg)else none:=(rfl)
@[go_sem] theorem J0 (id ep m i off n : Nat) (agg : Bool) : rY H n agg (.ap id ep m i off) = xN H ep m i off n agg H[id]? := by
 simp only[rY,gN,bA]
 generalize H[id]?=o
 rcases o with _ | (_ | ⟨sz',pin,ep',es⟩)
 · rfl
 · rfl
 · simp only[xN]
   by_cases h:ep=ep'∧m=es.length
   · rw[if_pos h,if_pos h,Option.bind_some]
     cases es[i]? with
     | none=>rfl
     | some e=>simp only[Option.bind_some,Hr,ofC];cases (cut e.cells off n).bind (aV agg)<;>rfl
   · rw[if_neg h,if_neg h];rfl
@[go_sem] theorem Ba (cs : List D) : (D.agg cs).cells = cs := (rfl)
@[go_sem] theorem Hu (x : T) : (D.t x).cells = x.cells.map .t := (rfl)
@[go_sem] theorem Bb : D.nil.cells = [.nil] := (rfl)
@[go_sem] theorem Er (a b : Nat) : (D.bp a b).cells = [.bp a b] := (rfl)
@[go_sem] theorem Bc (a b c : Nat) : (D.ref a b c).cells = [.ref a b c] := (rfl)
@[go_sem] theorem Bd (a b c d e : Nat) : (D.sub a b c d e).cells = [.sub a b c d e] := (rfl)
@[go_sem] theorem Es (f : Nat) (cs : List D) : (D.fn f cs).cells = [.fn f cs] := (rfl)
@[go_sem] theorem xO : D.nilp.cells = [.nilp] := (rfl)
@[go_sem] theorem Be (cs : List T) : (T.agg cs).cells = cs := (rfl)
@[go_sem] theorem Bf (k : IntKind) (n : Int) : (T.int k n).cells = [.int k n] := (rfl)
@[go_sem] theorem xP (b : Bool) : (T.bool b).cells = [.bool b] := (rfl)
@[go_sem] theorem Bg (b : ByteArray) : (T.str b).cells = [.str b] := (rfl)
@[go_sem] theorem Et (es : List T) : (T.sl es).cells = [.sl es] := (rfl)
def fits(n:Nat)(v:D):Bool:=decide (v.cells.length=n)&&v.bN
section
variable (n : Nat)
@[go_sem] theorem fits_int (k : IntKind) (a : Int) : fits 1 (.t (.int k a)) = true := (rfl)
@[go_sem] theorem fits_bool (b : Bool) : fits 1 (.t (.bool b)) = true := (rfl)
@[go_sem] theorem J1 (es : List T) : fits 1 (.t (.sl es)) = true := (rfl)
@[go_sem] theorem Hv : fits 1 .nil = true := (rfl)
@[go_sem] theorem Hw (a b c : Nat) : fits 1 (.ref a b c) = true := (rfl)
@[go_sem] theorem Hx (a b c d e : Nat) : fits 1 (.sub a b c d e) = true := (rfl)
@[go_sem] theorem J2 (a b : Nat) : fits 1 (.bp a b) = true := (rfl)
@[go_sem] theorem J3 (f : Nat) (cs : List D) : fits 1 (.fn f cs) = true := (rfl)
@[go_sem] theorem Hy (cs : List D) : fits n (.agg cs) = dy n cs := by rw [Bool.eq_iff_iff, bl]; show (decide (cs.length = n) && true) = true ↔ _; simp
@[go_sem] theorem Eu (cs : List T) : fits n (.t (.agg cs)) = dy n cs := by rw [Bool.eq_iff_iff, bl]; simp [fits, D.cells, T.cells, D.bN]
end
@[go_sem] theorem xQ {α : Type} (cs : List α) : ai cs 0 [] = some cs := by simp [ai]
@[go_sem] theorem xR {α : Type} (c x : α) (cs xs : List α) : ai (c :: cs) 0 (x :: xs) = cD x (ai cs 0 xs) := by
 simp only[ai,cD];by_cases h:xs.length≤cs.length<;>simp[h]
@[go_sem] theorem xS {α : Type} (c : α) (cs : List α) (off : Nat) (xs : List α) : ai (c :: cs) (off + 1) xs = cD c (ai cs off xs) := by
 simp only[ai,cD,List.length_cons]
 by_cases h:off+xs.length≤cs.length
 · rw[if_pos h,if_pos (by omega)];simp[show off+1+xs.length=(off+xs.length)+1 by omega]
 · rw[if_neg h,if_neg (by omega)];rfl
def xT(n:Nat)(live:List (Nat×Nat))(a x:Option D):Option (D×ab):=a.bind fun p=>x.bind fun d=>(ic H p d n).bind fun H'=>(dV H' p live).map fun H''=>(.tup [],H'')
@[go_sem] theorem Ns (a x : X) (n : Nat) (live : List (Nat × Nat)) : evO call get H (.st a x n live) = xT H n live (get a) (get x) := (rfl)
def kl(H:ab)(id:Nat)(live:List (Nat×Nat)):Option (D×ab):=(dV H (.bp id 0) live).map fun H'=>(.tup [],H')
def oc(id:Nat)(live:List (Nat×Nat))(cs:List D):Option (D×ab):=kl (H.set id (.box cs)) id live
@[go_sem] theorem Ew (id : Nat) (live : List (Nat × Nat)) (cs : List D) : oc H id live cs = kl (H.set id (.box cs)) id live := (rfl)
@[go_sem] theorem Bh (H : ab) (id : Nat) : kl H id [] = some (.tup [], H) := (rfl)
def xU(id off:Nat)(live:List (Nat×Nat))(xs:List D):Option Obj→Option (D×ab)
 | some (.box cs)=>(ai cs off xs).bind (oc H id live)
 | _=>none
@[go_sem] theorem Hz (id off : Nat) (live : List (Nat × Nat)) (xs cs : List D) : xU H id off live xs (some (.box cs)) = (ai cs off xs).bind (oc H id live) := (rfl)
@[go_sem] theorem J4 (n id off : Nat) (live : List (Nat × Nat)) (v : D) : xT H n live (some (.bp id off)) (some v) = if fits n v = true then xU H id off live v.cells H[id]? else none := by
 by_cases h:fits n v=true
 case neg=>
  rw[if_neg h]
  simp only[fits,Bool.and_eq_true,decide_eq_true_eq]at h
  simp only[xT,Option.bind_some,ic,if_neg h];rfl
 rw[if_pos h]
 simp only[fits,Bool.and_eq_true,decide_eq_true_eq]at h
 simp only[xT,Option.bind_some,ic,h.1,h.2,and_self,if_true]
 generalize H[id]?=o
 rcases o with _ | (cs | _)
 · rfl
 · simp only[xU]
   cases ai cs off v.cells with
   | none=>rfl
   | some cs'=>simp only[Option.map_some,Option.bind_some,oc,kl,dV]
 · rfl
def lT(id sz ep i:Nat)(es:List D)(agg:Bool)(cs:List D):Option (D×ab):=(aV agg cs).bind fun e=>if e.bN then some (.tup [],H.set id (.arr sz false ep (es.set i e)))else none
def HA(id sz ep i off:Nat)(es xs:List D)(e:D):Option (D×ab):=(ai e.cells off xs).bind (lT H id sz ep i es e.isAgg)
@[go_sem] theorem J5 (id sz ep i off : Nat) (es xs : List D) (e : D) : HA H id sz ep i off es xs e = (ai e.cells off xs).bind (lT H id sz ep i es e.isAgg) := (rfl)
@[go_sem] theorem Ey (cs : List D) : (D.agg cs).isAgg = true := (rfl)
@[go_sem] theorem Bi (cs : List T) : (D.t (.agg cs)).isAgg = true := (rfl)
@[go_sem] theorem Ez (k : IntKind) (n : Int) : (D.t (.int k n)).isAgg = false := (rfl)
@[go_sem] theorem Bj (b : Bool) : (D.t (.bool b)).isAgg = false := (rfl)
@[go_sem] theorem EA (b : ByteArray) : (D.t (.str b)).isAgg = false := (rfl)
@[go_sem] theorem HB (es : List T) : (D.t (.sl es)).isAgg = false := (rfl)
@[go_sem] theorem EB : D.nil.isAgg = false := (rfl)
@[go_sem] theorem EC (a b c : Nat) : (D.ref a b c).isAgg = false := (rfl)
@[go_sem] theorem ED (a b c d e : Nat) : (D.sub a b c d e).isAgg = false := (rfl)
@[go_sem] theorem J6 (id sz ep i : Nat) (es : List D) (x : T) : lT H id sz ep i es false [.t x] = some (.tup [], H.set id (.arr sz false ep (es.set i (.t x)))) := (rfl)
@[go_sem] theorem EE (id sz ep i : Nat) (es : List D) : lT H id sz ep i es false [.nil] = some (.tup [], H.set id (.arr sz false ep (es.set i .nil))) := (rfl)
@[go_sem] theorem EF (id sz ep i a b c : Nat) (es : List D) : lT H id sz ep i es false [.ref a b c] = some (.tup [], H.set id (.arr sz false ep (es.set i (.ref a b c)))) := (rfl)
theorem m9(cs:List D):(fe cs).bN=true:=by unfold fe;cases dT cs<;>rfl
@[go_sem] theorem J7 (id sz ep i : Nat) (es cs : List D) : lT H id sz ep i es true cs = some (.tup [], H.set id (.arr sz false ep (es.set i (fe cs)))) := by
 simp[lT,aV,m9]
def xV(id ep m i off:Nat)(xs:List D):Option Obj→Option (D×ab)
 | some (.arr sz pin ep' es)=>if ep=ep'∧m=es.length then(if pin then none else es[i]?.bind (HA H id sz ep i off es xs))else none
 | _=>none
@[go_sem] theorem HC (id ep m i off : Nat) (xs : List D) (sz : Nat) (pin : Bool) (ep' : Nat) (es : List D) :
 xV H id ep m i off xs (some (.arr sz pin ep' es))=if ep=ep'∧m=es.length then(if pin=true then none else es[i]?.bind (HA H id sz ep i off es xs))else none:=(rfl)
@[go_sem] theorem J8 (n id ep m i off : Nat) (v : D) : xT H n [] (some (.ap id ep m i off)) (some v) = if fits n v = true then xV H id ep m i off v.cells H[id]? else none := by
 by_cases h:fits n v=true
 case neg=>
  rw[if_neg h]
  simp only[fits,Bool.and_eq_true,decide_eq_true_eq]at h
  simp only[xT,Option.bind_some,ic,if_neg h];rfl
 rw[if_pos h]
 simp only[fits,Bool.and_eq_true,decide_eq_true_eq]at h
 simp only[xT,Option.bind_some,ic,h.1,h.2,and_self,if_true,bA]
 generalize H[id]?=o
 rcases o with _ | (_ | ⟨sz',pin,ep',es⟩)
 · rfl
 · rfl
 · simp only[xV]
   by_cases h:ep=ep'∧m=es.length
   · rw[if_pos h,if_pos h,Option.bind_some]
     cases pin with
     | true=>rfl
     | false=>
       simp only[Bool.false_eq_true,if_false]
       cases es[i]? with
       | none=>rfl
       | some e=>
         simp only[Option.bind_some,HA]
         cases ai e.cells off v.cells with
         | none=>rfl
         | some cs'=>
           simp only[Option.bind_some,lT]
           cases aV e.isAgg cs' with
           | none=>rfl
           | some e'=>
             simp only[Option.bind_some]
             by_cases h3:e'.bN=true
             · rw[if_pos h3,if_pos h3,h.1];rfl
             · rw[if_neg h3,if_neg h3];rfl
   · rw[if_neg h,if_neg h];rfl
def xW(zero:List D)(ps:List (Nat×Nat×D)):Option (D×ab):=(fU zero ps).map fun cs=>(fe cs,H)
@[go_sem] theorem Nt (zero : List D) (parts : List (Nat × Nat × X)) : evO call get H (.bd zero parts) = (cU get parts).bind (xW H zero) := (rfl)
@[go_sem] theorem vh : cU get [] = some [] := (rfl)
def EG(off n:Nat)(r:List (Nat×Nat×X))(d:D):Option (List (Nat×Nat×D)):=cD (off,n,d) (cU get r)
@[go_sem] theorem HD (off n : Nat) (r : List (Nat × Nat × X)) (d : D) : EG get off n r d = cD (off, n, d) (cU get r) := (rfl)
@[go_sem] theorem tC (off n : Nat) (x : X) (r : List (Nat × Nat × X)) : cU get ((off, n, x) :: r) = (get x).bind (EG get off n r) := (rfl)
@[go_sem] theorem HE (zero : List D) : xW H zero [] = some (fe zero, H) := (rfl)
def bdC(r:List (Nat×Nat×D))(z:List D):Option (D×ab):=xW H z r
@[go_sem] theorem L5 (r : List (Nat × Nat × D)) (z : List D) : bdC H r z = xW H z r := (rfl)
@[go_sem] theorem EH (zero : List D) (off n : Nat) (x : D) (r : List (Nat × Nat × D)) : xW H zero ((off, n, x) :: r) = if fits n x = true then (ai zero off x.cells).bind (bdC H r) else none := by
 by_cases h:fits n x=true
 case neg=>
  rw[if_neg h]
  have h2:(x.bN&&x.cells.length==n)=false:=by rw[← Bool.not_eq_true,Bool.and_comm];simpa [fits]using h
  simp only[xW,fU,h2];rfl
 rw[if_pos h]
 simp only[fits,Bool.and_eq_true,decide_eq_true_eq]at h
 simp only[xW,fU,h.1,h.2,beq_self_eq_true,Bool.and_self,if_true]
 cases ai zero off x.cells<;>rfl
def aD(n:Nat):List T→Bool
 | []=>true
 | x::r=>dy n x.cells&&aD n r
@[go_sem] theorem vi (n : Nat) : aD n [] = true := (rfl)
@[go_sem] theorem gx (n : Nat) (x : T) (r : List T) : aD n (x :: r) = (dy n x.cells && aD n r) := (rfl)
def km(sz:Nat)(ds:List D):Option (D×ab):=if ds.all (fun d=>d.cells.length==sz)then(aI (frz H depth) ds).map fun ts=>(.t (.sl ts),pins H (ds.flatMap (bF H depth)))else none
@[go_sem] theorem Nu (xs : List X) (sz : Nat) : evO call get H (.bs xs sz) = (aI get xs).bind (km H sz) := (rfl)
theorem EI(sz:Nat)(ds:List D)(ts:List T)(h:dT ds=some ts)(hc:aD sz ts=true):km H sz ds=some (.t (.sl ts),H):=by
 have key:∀(ds:List D) (ts:List T),dT ds=some ts→aD sz ts=true→ds.all (fun d=>d.cells.length==sz)=true∧aI (frz H depth) ds=some ts∧ds.flatMap (bF H depth)=[]:=by
  intro ds
  induction ds with
  | nil=>intro ts h hc;simp[dT]at h;subst h;simp[aI]
  | cons d ds ih=>
    intro ts h hc
    cases d with
    | t x=>
      simp only[dT,Option.map_eq_some_iff]at h
      obtain⟨r,hr,rfl⟩:=h
      simp only[aD,Bool.and_eq_true,bl]at hc
      obtain⟨h1,h2,h3⟩:=ih r hr hc.2
      refine⟨by rw[List.all_cons,h1,Bool.and_true];simp[D.cells,hc.1],by simp[aI,frz,h2],by rw[List.flatMap_cons,h3];simp[bF]⟩
    | _=>simp[dT]at h
 obtain⟨h1,h2,h3⟩:=key ds ts h hc
 simp[km,h1,h2,h3,pins]
theorem eI(sz:Nat)(ts:List T):km H sz (ts.map D.t)=if aD sz ts=true then some (.t (.sl ts),H)else none:=by
 by_cases h:aD sz ts=true
 · rw[if_pos h];exact EI H sz _ ts (tx ts) h
 · rw[if_neg h]
   have:(ts.map D.t).all (fun d=>d.cells.length==sz)=false:=by
    rw[← Bool.not_eq_true];intro ha;apply h
    clear h
    induction ts with
    | nil=>rfl
    | cons a r ih=>
      simp only[List.map_cons,List.all_cons,Bool.and_eq_true,beq_iff_eq]at ha
      simp only[aD,Bool.and_eq_true,bl]
      exact⟨by simpa [D.cells]using ha.1,ih ha.2⟩
   simp only[km,this];rfl
@[go_sem] theorem L6 (sz : Nat) : km H sz [] = some (.t (.sl []), H) := (rfl)
@[go_sem] theorem L7 (sz : Nat) (a : T) : km H sz [.t a] = if aD sz [a] = true then some (.t (.sl [a]), H) else none := eI H sz [a]
@[go_sem] theorem L8 (sz : Nat) (a b : T) : km H sz [.t a, .t b] = if aD sz [a, b] = true then some (.t (.sl [a, b]), H) else none := eI H sz [a, b]
@[go_sem] theorem L9 (sz : Nat) (a b c : T) : km H sz [.t a, .t b, .t c] = if aD sz [a, b, c] = true then some (.t (.sl [a, b, c]), H) else none := eI H sz [a, b, c]
@[go_sem] theorem Ma (sz : Nat) (a b c d : T) : km H sz [.t a, .t b, .t c, .t d] = if aD sz [a, b, c, d] = true then some (.t (.sl [a, b, c, d]), H) else none := eI H sz [a, b, c, d]
@[go_sem] theorem Mb (sz : Nat) (a b c d e : T) : km H sz [.t a, .t b, .t c, .t d, .t e] = if aD sz [a, b, c, d, e] = true then some (.t (.sl [a, b, c, d, e]), H) else none := eI H sz [a, b, c, d, e]
def EJ(a:D):Option (D×ab):=(Gz a).map fun(n:Nat)=>(D.t (.int .i64 (n:Int)),H)
@[go_sem] theorem Nv (x : X) : evO call get H (.ln x) = (get x).bind (EJ H) := (rfl)
@[go_sem] theorem J9 (es : List T) : EJ H (.t (.sl es)) = some (I es.length, H) := (rfl)
@[go_sem] theorem HF : EJ H .nil = some (I 0, H) := (rfl)
@[go_sem] theorem HG (id ep n : Nat) : EJ H (.ref id ep n) = some (I n, H) := (rfl)
@[go_sem] theorem HH (id ep n lo hi : Nat) : EJ H (.sub id ep n lo hi) = some (I ((hi - lo : Nat) : Int), H) := (rfl)
def EK(ds:List D):Option (D×ab):=(Dg ds).map fun d=>(d,H)
def EL(ds:List D):Option (D×ab):=(Dh ds).map fun d=>(d,H)
@[go_sem] theorem Nw (xs : List X) : evO call get H (.mn xs) = (aI get xs).bind (EK H) := (rfl)
@[go_sem] theorem Nx (xs : List X) : evO call get H (.mx xs) = (aI get xs).bind (EL H) := (rfl)
@[go_sem] theorem Mc (k : IntKind) (a b : Int) : EK H [.t (.int k a), .t (.int k b)] = some (.t (.int k (min a b)), H) := by
 simp only[EK,Dg,jT,if_true,Option.map_some];congr 4;omega
@[go_sem] theorem Md (k : IntKind) (a b : Int) : EL H [.t (.int k a), .t (.int k b)] = some (.t (.int k (max a b)), H) := by
 simp only[EL,Dh,jT,if_true,Option.map_some];congr 4;omega
@[go_sem] theorem Me (k : IntKind) (a b c : Int) : EK H [.t (.int k a), .t (.int k b), .t (.int k c)] = some (.t (.int k (min (min a b) c)), H) := by
 simp only[EK,Dg,jT,if_true,Option.map_some];congr 4;omega
@[go_sem] theorem Mf (k : IntKind) (a b c : Int) : EL H [.t (.int k a), .t (.int k b), .t (.int k c)] = some (.t (.int k (max (max a b) c)), H) := by
 simp only[EL,Dh,jT,if_true,Option.map_some];congr 4;omega
def lU(sz:Nat)(x:Option D)(lo hi:Option (Option Int)):Option (D×ab):=x.bind fun a=>lo.bind fun l=>hi.bind fun h=>(dq H a l h sz).map fun d=>(d,H)
@[go_sem] theorem Ny (x : X) (lo hi : Option X) (sz : Nat) : evO call get H (.sc x lo hi sz) = lU H sz (get x) (oK get lo) (oK get hi) := (rfl)
def EM:D→Option (Option Int)
 | .t (.int _ n)=>some (some n)
 | _=>none
@[go_sem] theorem HI (k : IntKind) (n : Int) : EM (.t (.int k n)) = some (some n) := (rfl)
@[go_sem] theorem EN : oK get none = some none := (rfl)
@[go_sem] theorem EO (x : X) : oK get (some x) = (get x).bind EM := by
 simp only[oK];cases get x with
 | none=>rfl
 | some d=>cases d with
   | t y=>cases y<;>rfl
   | _=>rfl
def Ka(i:Nat)(a:D):Option (D×ab):=(Di i a).map fun d=>(d,H)
@[go_sem] theorem Nz (x : X) (i : Nat) : evO call get H (.ex x i) = (get x).bind (Ka H i) := (rfl)
def exO:Option D→Option (D×ab)
 | some d=>some (d,H)
 | none=>none
@[go_sem] theorem HJ (d : D) : exO H (some d) = some (d, H) := (rfl)
@[go_sem] theorem HK (i : Nat) (ds : List D) : Ka H i (.tup ds) = exO H ds[i]? := by simp only [Ka, Di, exO]; cases ds[i]? <;> rfl
def Kb(f:Nat)(ds:List D):Option (D×ab):=some (.fn f ds,H)
@[go_sem] theorem Kc (f : Nat) (ds : List D) : Kb H f ds = some (.fn f ds, H) := (rfl)
@[go_sem] theorem NA (f : Nat) (caps : List X) : evO call get H (.mf f caps) = (aI get caps).bind (Kb H f) := by simp only [evO, Kb]; cases aI get caps <;> rfl
@[go_sem] theorem NB (sz : Nat) : evO call get H (.nw sz) = some (.ref H.length 0 0, H ++ [.arr sz false 0 []]) := (rfl)
def alP(p:List D×ab):Option (D×ab):=some (.bp H.length 0,H++ .box p.1::p.2)
@[go_sem] theorem Mg (cs : List D) (os : ab) : alP H (cs, os) = some (.bp H.length 0, H ++ .box cs :: os) := (rfl)
@[go_sem] theorem NC (zero : List D) (live : List (Nat × Nat)) : evO call get H (.al zero live) = alP H (az (H.length + 1) zero live) := (rfl)
@[go_sem] theorem xX (base : Nat) (cs : List D) : az base cs [] = (cs, []) := (rfl)
def Kd(n:Nat)(a:D):Option (D×ab):=if a.cells.length=n∧a.bN then some (.bp H.length 0,H++[.box a.cells])else none
@[go_sem] theorem ND (x : X) (n : Nat) : evO call get H (.bx x n) = (get x).bind (Kd H n) := (rfl)
@[go_sem] theorem Ke (n : Nat) (a : D) : Kd H n a = if fits n a = true then some (.bp H.length 0, H ++ [.box a.cells]) else none := by
 simp[Kd,fits]
def HL(sz:Nat)(zero:D)(n:Option Nat):Option (D×ab):=n.bind fun m=>if m≤lim then some (.ref H.length 0 m,H++[.arr sz false 0 (List.replicate m zero)])else none
def mkN(sz:Nat)(zero:D):D→Option (D×ab)
 | .t (.int _ n)=>HL H sz zero (idx n)
 | _=>none
@[go_sem] theorem Kf (sz : Nat) (zero : D) (k : IntKind) (n : Int) : mkN H sz zero (.t (.int k n)) = HL H sz zero (idx n) := (rfl)
@[go_sem] theorem NF (len : X) (zero : D) (sz : Nat) : evO call get H (.mk len zero sz) = (get len).bind (mkN H sz zero) := by
 simp only[evO];cases get len with
 | none=>rfl
 | some d=>cases d with
   | t y=>cases y<;>rfl
   | _=>rfl
@[go_sem] theorem Kg (sz : Nat) (zero : D) (m : Nat) (h : m ≤ 4294967296) : HL H sz zero (some m) = some (.ref H.length 0 m, H ++ [.arr sz false 0 (List.replicate m zero)]) := by
 simp[HL,lim,h]
def tD(zero:T)(n:Option Nat):Option (D×ab):=n.bind fun m=>if m≤lim then some (.t (.sl (List.replicate m zero)),H)else none
def Mh(zero:T):D→Option (D×ab)
 | .t (.int _ n)=>tD H zero (idx n)
 | _=>none
@[go_sem] theorem HM (zero : T) (k : IntKind) (n : Int) : Mh H zero (.t (.int k n)) = tD H zero (idx n) := (rfl)
@[go_sem] theorem Mi (len : X) (zero : T) (sz : Nat) : evO call get H (.mkt len zero sz) = (get len).bind (Mh H zero) := by
 simp only[evO];cases get len with
 | none=>rfl
 | some d=>cases d with
   | t y=>cases y<;>rfl
   | _=>rfl
@[go_sem] theorem HN (zero : T) (m : Nat) (h : m ≤ 4294967296) : tD H zero (some m) = some (.t (.sl (List.replicate m zero)), H) := by
 simp[tD,lim,h]
def ee(sz:Nat)(fz:Bool)(x y:Option D):Option (D×ab):=x.bind fun a=>y.bind fun b=>c8 H a b fz sz
@[go_sem] theorem Mj (x y : X) (fz : Bool) (sz : Nat) : evO call get H (.app x y fz sz) = ee H sz fz (get x) (get y) := (rfl)
def iz(sz id ep n:Nat)(ys:List D):Option Obj→Option (D×ab)
 | some (.arr sz' pin ep' es)=>if ep=ep'∧n=es.length∧sz'=sz∧n+ys.length≤lim then some (.ref id ep (n+ys.length),H.set id (.arr sz pin ep (es++ys)))else none
 | _=>none
@[go_sem] theorem EP (sz id ep n : Nat) (ys : List D) (pin : Bool) (es : List D) :
 iz H sz id ep n ys (some (.arr sz pin ep es))=if n=es.length then(if n+ys.length≤4294967296 then some (.ref id ep (n+ys.length),H.set id (.arr sz pin ep (es++ys)))else none)else none:=by
 simp only[iz,lim]
 by_cases h1:n=es.length
 · rw[if_pos h1]
   by_cases h2:n+ys.length≤4294967296
   · rw[if_pos h2,if_pos ⟨trivial,h1,trivial,h2⟩]
   · rw[if_neg h2,if_neg fun h=>h2 h.2.2.2]
 · rw[if_neg h1,if_neg fun h=>h1 h.2.1]
theorem gy(ts:List T):aI (fun d=>(frz H depth d).map D.t) (ts.map D.t)=some (ts.map D.t):=by
 induction ts with
 | nil=>rfl
 | cons t ts ih=>simp[aI,frz,ih]
theorem qO(ts:List T):(ts.map D.t).flatMap (bF H depth)=[]:=by
 induction ts with
 | nil=>rfl
 | cons t ts ih=>rw[List.map_cons,List.flatMap_cons,ih];simp[bF,depth]
theorem lV(sz:Nat)(fz:Bool)(x:D)(ts:List T)(h:aK sz (ts.map D.t)=false):ee H sz fz (some x) (some (.t (.sl ts)))=none:=by
 have e1:(if fz then aI (fun d=>(frz H depth d).map D.t) (ts.map D.t)else some (ts.map D.t))=some (ts.map D.t):=by
  cases fz<;>simp[gy]
 simp only[ee,Option.bind_some,c8,elems,e1,h,Bool.false_eq_true,if_false]
def dz(sz:Nat)(ts:List T):Bool:=aK sz (ts.map D.t)
theorem qP(sz id ep n:Nat)(fz:Bool)(ts:List T)(h:dz sz ts=true):ee H sz fz (some (.ref id ep n)) (some (.t (.sl ts)))=iz H sz id ep n (ts.map .t) H[id]?:=by
 have e1:(if fz then aI (fun d=>(frz H depth d).map D.t) (ts.map D.t)else some (ts.map D.t))=some (ts.map D.t):=by
  cases fz<;>simp[gy]
 have e2:(if fz then pins H ((ts.map D.t).flatMap (bF H depth))else H)=H:=by
  cases fz
  · rfl
  · simp only[if_true];rw[qO];rfl
 unfold dz at h
 simp only[ee,Option.bind_some,c8,elems,e1,h,if_true,e2,bA]
 generalize H[id]?=o
 rcases o with _ | (_ | ⟨sz',pin,ep',es⟩)
 · rfl
 · rfl
 · simp only[iz]
   by_cases h1:ep=ep'∧n=es.length
   · rw[if_pos h1,Option.bind_some]
     by_cases h2:sz'=sz∧n+(ts.map D.t).length≤lim
     · rw[if_pos h2,if_pos ⟨h1.1,h1.2,h2⟩]
     · rw[if_neg h2,if_neg fun h=>h2 h.2.2]
   · rw[if_neg h1,if_neg fun h=>h1 ⟨h.1,h.2.1⟩];rfl
@[go_sem] theorem ER (sz id ep n : Nat) (fz : Bool) (ts : List T) : ee H sz fz (some (.ref id ep n)) (some (.t (.sl ts))) = if dz sz ts = true then iz H sz id ep n (ts.map .t) H[id]? else none := by
 by_cases h:dz sz ts=true
 · rw[if_pos h,qP H sz id ep n fz ts h]
 · rw[if_neg h];exact lV H sz fz _ ts (by simpa [dz]using h)
@[go_sem] theorem ES (sz : Nat) (fz : Bool) (ts : List T) : ee H sz fz (some .nil) (some (.t (.sl ts))) =
 if dz sz ts=true then(if ts.length≤4294967296 then some (.ref H.length 0 ts.length,H++[.arr sz false 0 (ts.map .t)])else none)else none:=by
 by_cases h:dz sz ts=true
 · rw[if_pos h]
   have e1:(if fz then aI (fun d=>(frz H depth d).map D.t) (ts.map D.t)else some (ts.map D.t))=some (ts.map D.t):=by
    cases fz<;>simp[gy]
   have e2:(if fz then pins H ((ts.map D.t).flatMap (bF H depth))else H)=H:=by
    cases fz
    · rfl
    · simp only[if_true];rw[qO];rfl
   unfold dz at h
   simp only[ee,Option.bind_some,c8,elems,e1,h,if_true,e2,lim,List.length_map]
 · rw[if_neg h];exact lV H sz fz _ ts (by simpa [dz]using h)
@[go_sem] theorem ET (sz : Nat) : dz sz [] = true := (rfl)
@[go_sem] theorem Bk (sz : Nat) (x : T) (r : List T) : dz sz (x :: r) = dy sz x.cells := by
 rw[Bool.eq_iff_iff,bl];simp[dz,aK,D.cells]
@[go_sem] theorem EU (l : List Int) (k : IntKind) : dz 1 (l.map (.int k)) = true := by cases l <;> rfl
@[go_sem] theorem Bl (l : List Bool) : dz 1 (l.map .bool) = true := by cases l <;> rfl
@[go_sem] theorem HO (l : List (List T)) : dz 1 (l.map .sl) = true := by cases l <;> rfl
def Bm(call:ag)(f raw:Nat)(keep:List Nat)(ds:List D):Option (D×ab):=fV call H f raw keep ds
@[go_sem] theorem NG (f raw : Nat) (keep : List Nat) (xs : List X) : evO call get H (.ca f raw keep xs) = (aI get xs).bind (Bm H call f raw keep) := (rfl)
def Mk(call:ag)(raw:Nat)(keep:List Nat)(x:Option D)(xs:Option (List D)):Option (D×ab):=x.bind fun
 | .fn f caps=>xs.bind fun ds=>fV call H f raw keep (ds++caps)
 | _=>none
@[go_sem] theorem NH (x : X) (raw : Nat) (keep : List Nat) (xs : List X) : evO call get H (.cw x raw keep xs) = Mk H call raw keep (get x) (aI get xs) := (rfl)
@[go_sem] theorem Kh (raw : Nat) (keep : List Nat) (f : Nat) (caps ds : List D) : Mk H call raw keep (some (.fn f caps)) (some ds) = Bm H call f raw keep (ds ++ caps) := (rfl)
def cW(H:ab):List D→Option (List T)
 | []=>some []
 | .t x::r=>cD x (cW H r)
 | .nil::r=>cD (.sl []) (cW H r)
 | _::_=>none
@[go_sem] theorem Ki : cW H [] = some [] := (rfl)
@[go_sem] theorem Kj (x : T) (r : List D) : cW H (.t x :: r) = cD x (cW H r) := (rfl)
@[go_sem] theorem EW (r : List D) : cW H (.nil :: r) = cD (.sl []) (cW H r) := (rfl)
@[go_sem] theorem EX (cs : List D) (r : List D) : cW H (.agg cs :: r) = none := (rfl)
@[go_sem] theorem HP (a b : Nat) (r : List D) : cW H (.bp a b :: r) = none := (rfl)
@[go_sem] theorem EY (a b c : Nat) (r : List D) : cW H (.ref a b c :: r) = none := (rfl)
@[go_sem] theorem EZ (a b c d e : Nat) (r : List D) : cW H (.sub a b c d e :: r) = none := (rfl)
@[go_sem] theorem HQ (f : Nat) (cs : List D) (r : List D) : cW H (.fn f cs :: r) = none := (rfl)
@[go_sem] theorem HR (a b c d e : Nat) (r : List D) : cW H (.ap a b c d e :: r) = none := (rfl)
@[go_sem] theorem HT (cs : List T) (r : List D) : cW H (.ep cs :: r) = none := (rfl)
@[go_sem] theorem Bo (r : List D) : cW H (.nilp :: r) = none := (rfl)
@[go_sem] theorem E2 (r : List D) : cW H (.und :: r) = none := (rfl)
end
theorem fL(H:ab):∀ {ds:List D} {ts:List T},cW H ds=some ts→∀i,fC H [] i ds=some (ts.map .t)∧aP H [] i ds=[]
 | [],ts,h,i=>by simp[cW]at h;subst h;exact⟨rfl,rfl⟩
 | d::r,ts,h,i=>by
   cases d with
   | t x=>
     simp only[cW,cD,Option.map_eq_some_iff]at h
     obtain⟨l,hl,rfl⟩:=h
     obtain⟨h1,h2⟩:=fL H hl (i+1)
     exact⟨by simp[fC,iV,h1],by simp[aP,bF,depth,h2]⟩
   | nil=>
     simp only[cW,cD,Option.map_eq_some_iff]at h
     obtain⟨l,hl,rfl⟩:=h
     obtain⟨h1,h2⟩:=fL H hl (i+1)
     exact⟨by simp[fC,iV,h1],by simp[aP,bF,depth,h2]⟩
   | _=>simp[cW]at h
theorem qQ(ts:List T)(n:Nat):(ts.map D.t).flatMap (ids n)=[]:=by
 induction ts with
 | nil=>rfl
 | cons t ts ih=>rw[List.map_cons,List.flatMap_cons,ih];simp[ids]
theorem xY(f:Nat→Option Nat)(ts:List T):aI (ren f depth) (ts.map .t)=some (ts.map .t):=by
 induction ts with
 | nil=>rfl
 | cons t ts ih=>simp[aI,ren,depth]at ih ⊢;exact ih
def o4:D→Bool
 | .t _=>true
 | .tup ds=>ds.all fun | .t _=>true | _=>false
 | _=>false
theorem tE{f:Nat→Option Nat}{d:D}(h:o4 d=true):ren f depth d=some d:=by
 cases d with
 | t x=>rfl
 | tup ds=>
   simp only[o4]at h
   have:aI (ren f 7) ds=some ds:=by
    induction ds with
    | nil=>rfl
    | cons d ds ih=>
      simp only[List.all_cons,Bool.and_eq_true]at h
      cases d with
      | t x=>simp[aI,ren,ih h.2]
      | _=>simp at h
   simp[ren,depth,this]
 | _=>simp[o4]at h
def jJ(H:ab)(p:D×ab):Option (D×ab):=if o4 p.1&&p.2.isEmpty then some (p.1,H)else
 (ren (aZ [] H.length) depth p.1).bind fun r'=>(aI (bJ (aZ [] H.length)) p.2).map fun os=>(r',H++os)
@[go_sem] theorem Kk (H : ab) (x : T) : jJ H (.t x, []) = some (.t x, H) := (rfl)
@[go_sem] theorem Kl (H : ab) : jJ H (.tup [], []) = some (.tup [], H) := (rfl)
@[go_sem] theorem Km (H : ab) (x y : T) : jJ H (.tup [.t x, .t y], []) = some (.tup [.t x, .t y], H) := (rfl)
@[go_sem] theorem Kn (H : ab) (x y z : T) : jJ H (.tup [.t x, .t y, .t z], []) = some (.tup [.t x, .t y, .t z], H) := (rfl)
@[go_sem] theorem Ko (H : ab) (x y z u : T) : jJ H (.tup [.t x, .t y, .t z, .t u], []) = some (.tup [.t x, .t y, .t z, .t u], H) := (rfl)
theorem qR(H:ab)(call:ag)(f raw:Nat)(ds:List D)(ts:List T)(h:cW H ds=some ts):
 Bm H call f raw [] ds=(call raw f (ts.map .t) []).bind (jJ H):=by
 obtain⟨h1,h2⟩:=fL H h 0
 simp only[Bm,fV,h1,Option.bind_some,qQ,bD,reach,fB,List.flatMap_nil,h2,pins,xY,pick,aI]
 cases hc:call raw f (ts.map .t) []with
 | none=>rfl
 | some p=>
   obtain⟨d,os⟩:=p
   simp only[Option.bind_some,List.isEmpty_nil,Bool.true_and,jJ]
   by_cases h3:os=[]
   · subst h3
     simp only[List.isEmpty_nil,Bool.true_and,Bool.and_true,aI,Option.map_some,List.length_nil,List.take_nil,aQ,List.drop_nil,List.append_nil]
     by_cases h4:o4 d=true
     · rw[if_pos h4]
       split
       · rfl
       · rw[tE h4];rfl
     · rw[if_neg h4]
       split
       · rename_i h5
         exfalso
         apply h4
         cases d with
         | t x=>rfl
         | tup ds=>
           simp only[dU,List.all_eq_true]at h5
           simp only[o4,List.all_eq_true]
           intro y hy
           have:=h5 y hy
           cases y<;>simp_all [iU]
         | _=>simp[dU]at h5
       · rfl
   · have:os.isEmpty=false:=by cases os<;>simp_all
     simp only[this,Bool.false_and,Bool.and_false,if_false,Bool.false_eq_true,List.length_nil,List.take_zero,aQ,List.drop_zero]
@[go_sem] theorem Bp (st : St) : bW st [] = some [] := (rfl)
def Ml(st:St)(r:List (Nat×Option (Nat×Bool)))(d:D):Option (List D):=cD d (bW st r)
@[go_sem] theorem Kp (vs : List D) (H : ab) (r : List (Nat × Option (Nat × Bool))) (d : D) : Ml ⟨vs, H⟩ r d = cD d (bW ⟨vs, H⟩ r) := (rfl)
@[go_sem] theorem Bq (vs : List D) (H : ab) (j : Nat) (r : List (Nat × Option (Nat × Bool))) : bW ⟨vs, H⟩ ((j, none) :: r) = vs[j]?.bind (Ml ⟨vs, H⟩ r) := (rfl)
def Kq(st:St)(r:List (Nat×Option (Nat×Bool)))(p:D×ab):Option (List D):=cD p.1 (bW st r)
@[go_sem] theorem Kr (vs : List D) (H : ab) (r : List (Nat × Option (Nat × Bool))) (d : D) (H' : ab) : Kq ⟨vs, H⟩ r (d, H') = cD d (bW ⟨vs, H⟩ r) := (rfl)
def Ks(st:St)(n:Nat)(agg:Bool)(r:List (Nat×Option (Nat×Bool)))(p:D):Option (List D):=(rY st.H n agg p).bind (Kq st r)
@[go_sem] theorem Kt (vs : List D) (H : ab) (n : Nat) (agg : Bool) (r : List (Nat × Option (Nat × Bool))) (p : D) : Ks ⟨vs, H⟩ n agg r p = (rY H n agg p).bind (Kq ⟨vs, H⟩ r) := (rfl)
@[go_sem] theorem xZ (vs : List D) (H : ab) (j n : Nat) (agg : Bool) (r : List (Nat × Option (Nat × Bool))) : bW ⟨vs, H⟩ ((j, some (n, agg)) :: r) = vs[j]?.bind (Ks ⟨vs, H⟩ n agg r) := by
 simp only[bW]
 cases vs[j]? with
 | none=>rfl
 | some p=>
   simp only[Option.bind_some,Ks,rY]
   cases gN H p n agg<;>rfl
@[go_sem] theorem Ku (H : ab) (n : Nat) (x : T) : frz H n (.t x) = some x := by cases n <;> rfl
@[go_sem] theorem Kv (H : ab) (n : Nat) : frz H n .nil = some (.sl []) := by cases n <;> rfl
@[go_sem] theorem Kw (H : ab) (n : Nat) (cs : List D) : frz H (n + 1) (.agg cs) = (aI (frz H n) cs).map .agg := (rfl)
@[go_sem] theorem o5 (H : ab) (n : Nat) (ts : List T) : aI (frz H n) (ts.map .t) = some ts := by
 induction ts with
 | nil=>rfl
 | cons t ts ih=>simp[aI,Ku,ih]
def frA(H:ab)(n ep m lo hi:Nat):Option Obj→Option T
 | some (.arr _ _ ep' es)=>if ep=ep'∧m=es.length then(aI (frz H n) ((es.drop lo).take (hi-lo))).map .sl else none
 | _=>none
def frR(H:ab)(n ep m:Nat):Option Obj→Option T
 | some (.arr _ _ ep' es)=>if ep=ep'∧m=es.length then(aI (frz H n) es).map .sl else none
 | _=>none
@[go_sem] theorem Kx (H : ab) (n id ep m : Nat) : frz H (n + 1) (.ref id ep m) = frR H n ep m H[id]? := by
 simp only[frz,bA]
 generalize H[id]?=o
 rcases o with _ | (_ | ⟨sz',pin,ep',es⟩)
 · rfl
 · rfl
 · simp only[frR]
   by_cases h:ep=ep'∧m=es.length
   · rw[if_pos h,if_pos h];rfl
   · rw[if_neg h,if_neg h];rfl
@[go_sem] theorem Ky (H : ab) (n id ep m lo hi : Nat) : frz H (n + 1) (.sub id ep m lo hi) = frA H n ep m lo hi H[id]? := by
 simp only[frz,bA]
 generalize H[id]?=o
 rcases o with _ | (_ | ⟨sz',pin,ep',es⟩)
 · rfl
 · rfl
 · simp only[frA]
   by_cases h:ep=ep'∧m=es.length
   · rw[if_pos h,if_pos h];rfl
   · rw[if_neg h,if_neg h];rfl
@[go_sem] theorem Kz (H : ab) (n ep m sz : Nat) (pin : Bool) (es : List D) : frR H n ep m (some (.arr sz pin ep es)) = if m = es.length then (aI (frz H n) es).map .sl else none := by simp [frR]
@[go_sem] theorem KA (H : ab) (n ep m lo hi sz : Nat) (pin : Bool) (es : List D) : frA H n ep m lo hi (some (.arr sz pin ep es)) = if m = es.length then (aI (frz H n) ((es.drop lo).take (hi - lo))).map .sl else none := by simp [frA]
@[go_sem] theorem Mm (H : ab) (x : T) : iV H (.t x) = some (.t x) := (rfl)
@[go_sem] theorem HU (H : ab) : iV H .nil = some (.t (.sl [])) := (rfl)
@[go_sem] theorem HV (H : ab) (cs : List D) : iV H (.agg cs) = (frz H 8 (.agg cs)).map .t := (rfl)
@[go_sem] theorem HW (H : ab) (id ep n : Nat) : iV H (.ref id ep n) = (frz H 8 (.ref id ep n)).map .t := (rfl)
@[go_sem] theorem HX (H : ab) (id ep n lo hi : Nat) : iV H (.sub id ep n lo hi) = (frz H 8 (.sub id ep n lo hi)).map .t := (rfl)
@[go_sem] theorem KB (H : ab) (id off : Nat) : iV H (.bp id off) = some (.bp id off) := (rfl)
@[go_sem] theorem KC (H : ab) (id ep n i off : Nat) : iV H (.ap id ep n i off) = some (.ap id ep n i off) := (rfl)
@[go_sem] theorem KD (H : ab) (cs : List T) : iV H (.ep cs) = some (.ep cs) := (rfl)
@[go_sem] theorem KE (H : ab) (f : Nat) (cs : List D) : iV H (.fn f cs) = some (.fn f cs) := (rfl)
def ltB:Nat→Nat→Bool
 | _,0=>false
 | 0,_+1=>true
 | m+1,n+1=>ltB m n
@[go_sem] theorem NI (m : Nat) : ltB m 0 = false := by cases m <;> rfl
@[go_sem] theorem Mn (n : Nat) : ltB 0 (n + 1) = true := (rfl)
@[go_sem] theorem Mo (m n : Nat) : ltB (m + 1) (n + 1) = ltB m n := (rfl)
theorem ef:∀ {m n:Nat},ltB m n=decide (m<n)
 | m,0=>by cases m<;>simp[ltB]
 | 0,n+1=>by simp[ltB]
 | m+1,n+1=>by simp[ltB,ef (m:=m) (n:=n)]
def eqB:Nat→Nat→Bool
 | 0,0=>true
 | m+1,n+1=>eqB m n
 | _,_=>false
@[go_sem] theorem Mp : eqB 0 0 = true := (rfl)
@[go_sem] theorem Mq (n : Nat) : eqB 0 (n + 1) = false := (rfl)
@[go_sem] theorem Mr (n : Nat) : eqB (n + 1) 0 = false := (rfl)
@[go_sem] theorem Ms (m n : Nat) : eqB (m + 1) (n + 1) = eqB m n := (rfl)
theorem nd:∀ {m n:Nat},eqB m n=decide (m=n)
 | 0,0=>rfl
 | 0,n+1=>rfl
 | m+1,0=>rfl
 | m+1,n+1=>by simp[eqB,nd (m:=m) (n:=n)]
section
variable (k n : Nat)
@[go_sem] theorem KF (x : T) : old k n (.t x) = true := by cases n <;> rfl
@[go_sem] theorem KG : old k n .nil = true := by cases n <;> rfl
@[go_sem] theorem Mt (cs : List T) : old k n (.ep cs) = true := by cases n <;> rfl
@[go_sem] theorem HY : old k n .nilp = true := by cases n <;> rfl
@[go_sem] theorem KH : old k n .und = true := by cases n <;> rfl
@[go_sem] theorem E3 (id off : Nat) : old k n (.bp id off) = ltB id k := by cases n <;> simp [old, ef]
@[go_sem] theorem Mu (id ep m i off : Nat) : old k n (.ap id ep m i off) = ltB id k := by cases n <;> simp [old, ef]
@[go_sem] theorem KI (id ep m : Nat) : old k n (.ref id ep m) = ltB id k := by cases n <;> simp [old, ef]
@[go_sem] theorem KJ (id ep m lo hi : Nat) : old k n (.sub id ep m lo hi) = ltB id k := by cases n <;> simp [old, ef]
def bw(n:Nat)(cs:List D):Bool:=cs.all (old k n)
@[go_sem] theorem Br : bw k n [] = true := (rfl)
@[go_sem] theorem nf (d : D) (r : List D) : bw k n (d :: r) = (old k n d && bw k n r) := (rfl)
@[go_sem] theorem od (ts : List T) : bw k n (ts.map .t) = true := by
 induction ts with
 | nil=>rfl
 | cons t ts ih=>rw[List.map_cons,nf,KF,ih];rfl
@[go_sem] theorem Bt (m : Nat) (x : T) : bw k n (List.replicate m (.t x)) = true := by
 have:List.replicate m (D.t x)=(List.replicate m x).map .t:=by simp
 rw[this,od]
@[go_sem] theorem Bu (a b : List D) : bw k n (a ++ b) = (bw k n a && bw k n b) := by simp [bw]
@[go_sem] theorem KK (cs : List D) : old k (n + 1) (.agg cs) = bw k n cs := (rfl)
@[go_sem] theorem KL (cs : List D) : old k (n + 1) (.tup cs) = bw k n cs := (rfl)
@[go_sem] theorem Mv (f : Nat) (cs : List D) : old k (n + 1) (.fn f cs) = bw k n cs := (rfl)
end
def bj(k:Nat):ab→Bool
 | []=>true
 | .box cs::r=>bw k 8 cs&&bj k r
 | .arr _ _ _ es::r=>bw k 8 es&&bj k r
@[go_sem] theorem x0 (k : Nat) : bj k [] = true := (rfl)
@[go_sem] theorem x1 (k : Nat) (cs : List D) (r : ab) : bj k (.box cs :: r) = (bw k 8 cs && bj k r) := (rfl)
@[go_sem] theorem x2 (k sz ep : Nat) (pin : Bool) (es : List D) (r : ab) : bj k (.arr sz pin ep es :: r) = (bw k 8 es && bj k r) := (rfl)
theorem c7(k:Nat)(H:ab):H.all (fun o=>o.ds.all (old k depth))=bj k H:=by
 induction H with
 | nil=>rfl
 | cons o r ih=>rw[List.all_cons,ih];cases o<;>rfl
def x3(d:D)(b:Bool):D:=if b then d else .und
@[go_sem] theorem Bv (d : D) : x3 d true = d := (rfl)
@[go_sem] theorem x4 (d : D) : x3 d false = .und := (rfl)
@[go_sem] theorem KM (k : Nat) (d : D) : kill k d = x3 d (old k 8 d) := (rfl)
def o6(k:Nat):List D→List D
 | []=>[]
 | d::r=>kill k d::o6 k r
@[go_sem] theorem E4 (k : Nat) : o6 k [] = [] := (rfl)
@[go_sem] theorem Bw (k : Nat) (d : D) (r : List D) : o6 k (d :: r) = kill k d :: o6 k r := (rfl)
theorem tF(k:Nat)(vs:List D):vs.map (kill k)=o6 k vs:=by
 induction vs with
 | nil=>rfl
 | cons d r ih=>rw[List.map_cons,ih];rfl
@[go_sem] theorem HZ (k : Nat) (vs : List D) (H : ab) : oL k ⟨vs, H⟩ = if bj k (H.take k) = true then some ⟨o6 k vs, H.take k⟩ else none := by
 simp only[oL,c7,tF]
@[go_sem] theorem x5 (H : ab) (n : Nat) (x : T) : bF H n (.t x) = [] := by cases n <;> rfl
@[go_sem] theorem H3 (H : ab) (n : Nat) : bF H n .nil = [] := by cases n <;> rfl
@[go_sem] theorem KN (H : ab) (n id off : Nat) : bF H n (.bp id off) = [] := by cases n <;> rfl
@[go_sem] theorem KO (H : ab) (n f : Nat) (cs : List D) : bF H n (.fn f cs) = [] := by cases n <;> rfl
@[go_sem] theorem KP (H : ab) (n : Nat) (cs : List T) : bF H n (.ep cs) = [] := by cases n <;> rfl
@[go_sem] theorem KQ (H : ab) (n a b c d e : Nat) : bF H n (.ap a b c d e) = [] := by cases n <;> rfl
def fj(H:ab)(n:Nat)(cs:List D):List Nat:=cs.flatMap (bF H n)
@[go_sem] theorem E5 (H : ab) (n : Nat) : fj H n [] = [] := (rfl)
@[go_sem] theorem o7 (H : ab) (n : Nat) (d : D) (r : List D) : fj H n (d :: r) = bF H n d ++ fj H n r := (rfl)
@[go_sem] theorem KR (H : ab) (n : Nat) (ts : List T) : fj H n (ts.map .t) = [] := by
 induction ts with
 | nil=>rfl
 | cons t ts ih=>rw[List.map_cons,o7,ih,x5];rfl
@[go_sem] theorem E6 (H : ab) (n : Nat) (a b : List D) : fj H n (a ++ b) = fj H n a ++ fj H n b := by simp [fj]
@[go_sem] theorem H4 (H : ab) (n : Nat) (cs : List D) : bF H (n + 1) (.agg cs) = fj H n cs := (rfl)
def x6(H:ab)(n:Nat):Option Obj→List Nat
 | some (.arr _ _ _ es)=>fj H n es
 | _=>[]
@[go_sem] theorem E7 (H : ab) (n sz ep : Nat) (pin : Bool) (es : List D) : x6 H n (some (.arr sz pin ep es)) = fj H n es := (rfl)
@[go_sem] theorem H5 (H : ab) (n id ep m : Nat) : bF H (n + 1) (.ref id ep m) = id :: x6 H n H[id]? := (rfl)
@[go_sem] theorem H6 (H : ab) (n id ep m lo hi : Nat) : bF H (n + 1) (.sub id ep m lo hi) = id :: x6 H n H[id]? := (rfl)
@[go_sem] theorem KS : iH [] = .tup [] := (rfl)
@[go_sem] theorem KT (d : D) : iH [d] = d := (rfl)
@[go_sem] theorem KU (a b : D) (r : List D) : iH (a :: b :: r) = .tup (a :: b :: r) := (rfl)
def lW(k:Nat):List Nat→Bool
 | []=>true
 | i::r=> !ltB i k&&lW k r
@[go_sem] theorem E8 (k : Nat) : lW k [] = true := (rfl)
@[go_sem] theorem Bx (k i : Nat) (r : List Nat) : lW k (i :: r) = (!ltB i k && lW k r) := (rfl)
theorem oe(k:Nat)(l:List Nat):l.all (fun i=>decide (k≤i))=lW k l:=by
 induction l with
 | nil=>rfl
 | cons i r ih=>
   rw[List.all_cons,ih]
   simp only[lW,ef]
   congr 1
   rw[Bool.eq_iff_iff];simp
def H7(k raw:Nat)(H:ab)(ds rs:List D):Option (D×ab):=
 (dr H (max raw 1) (List.range k) (rs.flatMap (ids depth)++fB H (List.range k))).bind fun q=>
  if(b7 H raw ds).all (fun i=> !(List.range k++q.1).contains i)then
   (aI (ren (idxOf (List.range k++q.1)) depth) rs).bind fun rs'=>
    (aI (bJ (idxOf (List.range k++q.1))) (H.take k++q.2)).map fun hs'=>(iH rs',hs')
  else none
def By(k raw:Nat)(H:ab)(ds rs:List D)(b:Bool):Option (D×ab):=
 if b then(if lW k (b7 H raw ds)=true then some (iH rs,H.take k)else none)else H7 k raw H ds rs
@[go_sem] theorem E9 (k raw : Nat) (H : ab) (ds rs : List D) : By k raw H ds rs true = if lW k (b7 H raw ds) = true then some (iH rs, H.take k) else none := (rfl)
def Fa(k raw:Nat)(H:ab)(ds rs:List D):Option (D×ab):=By k raw H ds rs (bw k 8 rs&&bj k (H.take k))
@[go_sem] theorem KV (k raw : Nat) (H : ab) (ds rs : List D) : Fa k raw H ds rs = By k raw H ds rs (bw k 8 rs && bj k (H.take k)) := (rfl)
@[go_sem] theorem Fb (k : Nat) (H : ab) (ds : List D) : finish k 0 H ds = (aI (iV H) ds).bind (Fa k 0 H ds) := by
 simp only[finish,if_true,c7,oe]
 cases aI (iV H) ds with
 | none=>rfl
 | some rs=>
   simp only[Option.bind_some,Fa,By]
   show(if(bw k 8 rs&&bj k (H.take k))=true then _ else _)=_
   cases (bw k 8 rs&&bj k (H.take k))<;>rfl
@[go_sem] theorem Fc (H : ab) (ds : List D) : b7 H 0 ds = fj H 8 ds := (rfl)
@[go_sem] theorem Fe (vs : List D) : cu [] vs = vs := (rfl)
@[go_sem] theorem Bz (i : Nat) (r : List Nat) (vs : List D) : cu (i :: r) vs = cu r (vs.set i .und) := (rfl)
@[go_sem] theorem KW (dead : List Nat) (k : Nat) (vs : List D) (H : ab) : tidy false dead k ⟨vs, H⟩ = some ⟨cu dead vs, H⟩ := (rfl)
@[go_sem] theorem KX (dead : List Nat) (k : Nat) (vs : List D) (H : ab) : tidy true dead k ⟨vs, H⟩ = oL k ⟨cu dead vs, H⟩ := (rfl)
section
variable (H : ab) (call : ag) (f raw : Nat) (keep : List Nat) (ds : List D)
def lX(H1:ab)(n:Nat)(sel:List Nat)(p:D×ab):Option (D×ab):=
 (ren (aZ sel n) depth p.1).bind fun r'=>(aI (bJ (aZ sel n)) p.2).map fun os=>(r',aQ H1 sel (os.take sel.length)++os.drop sel.length)
def hB(H1:ab)(sel:List Nat)(p:D×ab):Option (D×ab):=
 if sel.isEmpty&&p.2.isEmpty&&dU p.1 then some (p.1,H)else lX H1 H.length sel p
def x7(args:List D)(H1:ab)(sel:List Nat)(hs:ab):Option (D×ab):=(call raw f args hs).bind (hB H H1 sel)
def x8(args:List D)(H1:ab)(sel:List Nat)(hs:ab):Option (D×ab):=(aI (bJ (idxOf sel)) hs).bind (x7 H call f raw args H1 sel)
def x9(H1:ab)(sel:List Nat)(args:List D):Option (D×ab):=(pick H1 sel).bind (x8 H call f raw args H1 sel)
def ya(args:List D)(sel:List Nat):Option (D×ab):=(aI (ren (idxOf sel) depth) args).bind (x9 H call f raw (pins H (aP H keep 0 ds)) sel)
def kn(n:Nat)(cs:List D):List Nat:=cs.flatMap (ids n)
def yb(args:List D):Option (D×ab):=ya H call f raw keep ds args (reach H 3 (bD [] (kn 8 args)))
def tG:Option (D×ab):=(fC H keep 0 ds).bind (yb H call f raw keep ds)
@[go_sem] theorem H8 : tG H call f raw keep ds = (fC H keep 0 ds).bind (yb H call f raw keep ds) := (rfl)
@[go_sem] theorem H9 (args : List D) : yb H call f raw keep ds args = ya H call f raw keep ds args (reach H 3 (bD [] (kn 8 args))) := (rfl)
@[go_sem] theorem Ia (args : List D) (sel : List Nat) : ya H call f raw keep ds args sel = (aI (ren (idxOf sel) 8) args).bind (x9 H call f raw (pins H (aP H keep 0 ds)) sel) := (rfl)
@[go_sem] theorem Ib (H1 : ab) (sel : List Nat) (args : List D) : x9 H call f raw H1 sel args = (pick H1 sel).bind (x8 H call f raw args H1 sel) := (rfl)
@[go_sem] theorem Ic (args : List D) (H1 : ab) (sel : List Nat) (hs : ab) : x8 H call f raw args H1 sel hs = (aI (bJ (idxOf sel)) hs).bind (x7 H call f raw args H1 sel) := (rfl)
@[go_sem] theorem Ie (args : List D) (H1 : ab) (sel : List Nat) (hs : ab) : x7 H call f raw args H1 sel hs = (call raw f args hs).bind (hB H H1 sel) := (rfl)
def yc(H1:ab)(sel:List Nat)(r:D)(os:ab):Option (D×ab):=some (r,aQ H1 sel (os.take sel.length)++os.drop sel.length)
@[go_sem] theorem Ig (H1 : ab) (sel : List Nat) (r : D) (os : ab) : yc H1 sel r os = some (r, aQ H1 sel (os.take sel.length) ++ os.drop sel.length) := (rfl)
def yd(H1:ab)(n:Nat)(sel:List Nat)(os:ab)(r:D):Option (D×ab):=(aI (bJ (aZ sel n)) os).bind (yc H1 sel r)
@[go_sem] theorem Ih (H1 : ab) (n : Nat) (sel : List Nat) (os : ab) (r : D) : yd H1 n sel os r = (aI (bJ (aZ sel n)) os).bind (yc H1 sel r) := (rfl)
@[go_sem] theorem Ii (H1 : ab) (n : Nat) (sel : List Nat) (r : D) (os : ab) : lX H1 n sel (r, os) = (ren (aZ sel n) 8 r).bind (yd H1 n sel os) := by
 simp only[lX,depth]
 cases ren (aZ sel n) 8 r with
 | none=>rfl
 | some r'=>simp only[Option.bind_some,yd];cases aI (bJ (aZ sel n)) os<;>rfl
@[go_sem] theorem Ff (H1 : ab) (i : Nat) (sel : List Nat) (p : D × ab) : hB H H1 (i :: sel) p = lX H1 H.length (i :: sel) p := (rfl)
@[go_sem] theorem Ij (H1 : ab) (sel : List Nat) (r : D) (o : Obj) (os : ab) : hB H H1 sel (r, o :: os) = lX H1 H.length sel (r, o :: os) := by
 simp[hB]
@[go_sem] theorem KY (H1 : ab) (k : IntKind) (n : Int) : hB H H1 [] (.t (.int k n), []) = some (.t (.int k n), H) := (rfl)
@[go_sem] theorem KZ (H1 : ab) (b : Bool) : hB H H1 [] (.t (.bool b), []) = some (.t (.bool b), H) := (rfl)
@[go_sem] theorem Ik (H1 : ab) (es : List T) : hB H H1 [] (.t (.sl es), []) = some (.t (.sl es), H1) := by simp [hB, lX, dU, T.scalar, ren, depth, aI, aQ]
@[go_sem] theorem Fg (H1 : ab) (es : List T) : hB H H1 [] (.t (.agg es), []) = some (.t (.agg es), H1) := by simp [hB, lX, dU, T.scalar, ren, depth, aI, aQ]
@[go_sem] theorem Fh (H1 : ab) (ds : List D) : hB H H1 [] (.tup ds, []) = if ds.all iU then some (.tup ds, H) else lX H1 H.length [] (.tup ds, []) := by
 simp[hB,dU]
def ye:Option (List T)→Option (D×ab)
 | some ts=>(call raw f (ts.map .t) []).bind (jJ H)
 | none=>tG H call f raw [] ds
@[go_sem] theorem BA (ts : List T) : ye H call f raw ds (some ts) = (call raw f (ts.map .t) []).bind (jJ H) := (rfl)
@[go_sem] theorem BB : ye H call f raw ds none = tG H call f raw [] ds := (rfl)
@[go_sem] theorem K0 : Bm H call f raw [] ds = ye H call f raw ds (cW H ds) := by
 cases h:cW H ds with
 | none=>rfl
 | some ts=>exact qR H call f raw ds ts h
@[go_sem] theorem Mw (k : Nat) : Bm H call f raw (k :: keep) ds = tG H call f raw (k :: keep) ds := (rfl)
end
section
variable (H : ab) (keep : List Nat)
@[go_sem] theorem Fi (i : Nat) : fC H keep i [] = some [] := (rfl)
def oh(i:Nat):List Nat→Bool
 | []=>false
 | j::r=>eqB i j||oh i r
@[go_sem] theorem Il (i : Nat) : oh i [] = false := (rfl)
@[go_sem] theorem Fj (i j : Nat) (r : List Nat) : oh i (j :: r) = (eqB i j || oh i r) := (rfl)
theorem kN(i:Nat)(l:List Nat):l.contains i=oh i l:=by
 induction l with
 | nil=>rfl
 | cons j r ih=>rw[List.contains_cons,ih];simp only[oh,nd];rw[beq_eq_decide_nat]
where beq_eq_decide_nat {a b:Nat}:(a==b)=decide (a=b):=by rw[Bool.eq_iff_iff];simp
def K1(d:D):Bool→Option D
 | true=>some d
 | false=>iV H d
@[go_sem] theorem Mx (d : D) : K1 H d true = some d := (rfl)
@[go_sem] theorem My (d : D) : K1 H d false = iV H d := (rfl)
def Mz(i:Nat)(r:List D)(x:D):Option (List D):=cD x (fC H keep (i+1) r)
@[go_sem] theorem K2 (i : Nat) (r : List D) (x : D) : Mz H keep i r x = cD x (fC H keep (i + 1) r) := (rfl)
@[go_sem] theorem BD (i : Nat) (d : D) (r : List D) : fC H keep i (d :: r) = (K1 H d (oh i keep)).bind (Mz H keep i r) := by
 simp only[fC,kN]
 cases oh i keep<;>rfl
@[go_sem] theorem rZ (i : Nat) : aP H keep i [] = [] := (rfl)
def frK(l:List Nat):Bool→List Nat
 | true=>[]
 | false=>l
@[go_sem] theorem NJ (l : List Nat) : frK l true = [] := (rfl)
@[go_sem] theorem NK (l : List Nat) : frK l false = l := (rfl)
@[go_sem] theorem qS (i : Nat) (d : D) (r : List D) : aP H keep i (d :: r) = frK (bF H 8 d) (oh i keep) ++ aP H keep (i + 1) r := by
 simp only[aP,kN]
 cases oh i keep<;>rfl
@[go_sem] theorem Im (H : ab) : pins H [] = H := (rfl)
@[go_sem] theorem Fk (H : ab) (i : Nat) (r : List Nat) : pins H (i :: r) = pins (H.modify i nG) r := (rfl)
def o8(i:Nat):Option Obj→ab
 | some (.arr sz _ ep es)=>H.set i (.arr sz true ep es)
 | _=>H
@[go_sem] theorem Fl (i : Nat) (cs : List D) : o8 H i (some (.box cs)) = H := (rfl)
@[go_sem] theorem Fm (i sz ep : Nat) (pin : Bool) (es : List D) : o8 H i (some (.arr sz pin ep es)) = H.set i (.arr sz true ep es) := (rfl)
@[go_sem] theorem BE (i : Nat) : List.modify H i nG = o8 H i H[i]? := by
 apply List.ext_getElem?
 intro j
 rw[List.getElem?_modify]
 cases h:H[i]? with
 | none=>
   simp only[o8]
   by_cases e:i=j
   · subst e;rw[h];simp
   · simp[e]
 | some o=>
   have hi:i<H.length:=(List.getElem?_eq_some_iff.1 h).1
   cases o with
   | box cs=>
     simp only[o8]
     by_cases e:i=j
     · subst e;rw[h];simp[nG]
     · simp[e]
   | arr sz pin ep es=>
     simp only[o8]
     rw[List.getElem?_set]
     by_cases e:i=j
     · subst e;rw[h];simp[nG,hi]
     · simp[e]
section
variable (n : Nat)
@[go_sem] theorem NL (x : T) : ids n (.t x) = [] := by cases n <;> rfl
@[go_sem] theorem K3 : ids n .nil = [] := by cases n <;> rfl
@[go_sem] theorem Io : ids n .nilp = [] := by cases n <;> rfl
@[go_sem] theorem K4 : ids n .und = [] := by cases n <;> rfl
@[go_sem] theorem MA (cs : List T) : ids n (.ep cs) = [] := by cases n <;> rfl
@[go_sem] theorem MB (id off : Nat) : ids n (.bp id off) = [id] := by cases n <;> rfl
@[go_sem] theorem MC (id ep m i off : Nat) : ids n (.ap id ep m i off) = [id] := by cases n <;> rfl
@[go_sem] theorem K5 (id ep m : Nat) : ids n (.ref id ep m) = [id] := by cases n <;> rfl
@[go_sem] theorem K6 (id ep m lo hi : Nat) : ids n (.sub id ep m lo hi) = [id] := by cases n <;> rfl
@[go_sem] theorem K7 (cs : List D) : ids (n + 1) (.agg cs) = kn n cs := (rfl)
@[go_sem] theorem K8 (cs : List D) : ids (n + 1) (.tup cs) = kn n cs := (rfl)
@[go_sem] theorem MD (f : Nat) (cs : List D) : ids (n + 1) (.fn f cs) = kn n cs := (rfl)
@[go_sem] theorem Ip : kn n [] = [] := (rfl)
@[go_sem] theorem Fo (d : D) (r : List D) : kn n (d :: r) = ids n d ++ kn n r := (rfl)
@[go_sem] theorem Fp (ts : List T) : kn n (ts.map .t) = [] := qQ ts n
@[go_sem] theorem Iq (a b : List D) : kn n (a ++ b) = kn n a ++ kn n b := by simp [kn]
@[go_sem] theorem Ir (m : Nat) (x : T) : kn n (List.replicate m (.t x)) = [] := by
 have:List.replicate m (D.t x)=(List.replicate m x).map .t:=by simp
 rw[this,Fp]
end
def qT(sel:List Nat)(i:Nat):Bool→List Nat
 | true=>sel
 | false=>sel++[i]
@[go_sem] theorem Is (sel : List Nat) (i : Nat) : qT sel i true = sel := (rfl)
@[go_sem] theorem It (sel : List Nat) (i : Nat) : qT sel i false = sel ++ [i] := (rfl)
@[go_sem] theorem BF (sel : List Nat) : bD sel [] = sel := (rfl)
@[go_sem] theorem yf (sel : List Nat) (i : Nat) (r : List Nat) : bD sel (i :: r) = bD (qT sel i (oh i sel)) r := by
 simp only[bD,kN]
 cases oh i sel<;>rfl
def om:Option Obj→List Nat
 | some (.box cs)=>kn 8 cs
 | some (.arr _ _ _ es)=>kn 8 es
 | none=>[]
@[go_sem] theorem BG (cs : List D) : om (some (.box cs)) = kn 8 cs := (rfl)
@[go_sem] theorem BH (sz ep : Nat) (pin : Bool) (es : List D) : om (some (.arr sz pin ep es)) = kn 8 es := (rfl)
@[go_sem] theorem Fq : fB H [] = [] := (rfl)
@[go_sem] theorem BI (i : Nat) (r : List Nat) : fB H (i :: r) = om H[i]? ++ fB H r := by
 simp only[fB,List.flatMap_cons]
 congr 1
 cases H[i]? with
 | none=>rfl
 | some o=>cases o<;>rfl
@[go_sem] theorem K9 (sel : List Nat) : reach H 0 sel = sel := (rfl)
@[go_sem] theorem La (n : Nat) (sel : List Nat) : reach H (n + 1) sel = reach H n (bD sel (fB H sel)) := (rfl)
@[go_sem] theorem Iu : pick H [] = some [] := (rfl)
def Fs(r:List Nat)(o:Obj):Option ab:=cD o (pick H r)
@[go_sem] theorem Iv (r : List Nat) (o : Obj) : Fs H r o = cD o (pick H r) := (rfl)
@[go_sem] theorem Ft (i : Nat) (r : List Nat) : pick H (i :: r) = H[i]?.bind (Fs H r) := (rfl)
end
section
variable (f : Nat → Option Nat) (n : Nat)
@[go_sem] theorem Lb (x : T) : ren f n (.t x) = some (.t x) := by cases n <;> rfl
@[go_sem] theorem Lc : ren f n .nil = some .nil := by cases n <;> rfl
@[go_sem] theorem Iw : ren f n .nilp = some .nilp := by cases n <;> rfl
@[go_sem] theorem Ld : ren f n .und = some .und := by cases n <;> rfl
@[go_sem] theorem ME (cs : List T) : ren f n (.ep cs) = some (.ep cs) := by cases n <;> rfl
def MF(off:Nat)(i:Nat):D:= .bp i off
@[go_sem] theorem Le (off i : Nat) : MF off i = .bp i off := (rfl)
@[go_sem] theorem MG (id off : Nat) : ren f n (.bp id off) = (f id).map (MF off) := by cases n <;> rfl
def MH(ep m i off:Nat)(j:Nat):D:= .ap j ep m i off
@[go_sem] theorem Lf (ep m i off j : Nat) : MH ep m i off j = .ap j ep m i off := (rfl)
@[go_sem] theorem MI (id ep m i off : Nat) : ren f n (.ap id ep m i off) = (f id).map (MH ep m i off) := by cases n <;> rfl
def Fu(ep m:Nat)(j:Nat):D:= .ref j ep m
@[go_sem] theorem Ix (ep m j : Nat) : Fu ep m j = .ref j ep m := (rfl)
@[go_sem] theorem Lg (id ep m : Nat) : ren f n (.ref id ep m) = (f id).map (Fu ep m) := by cases n <;> rfl
def Fv(ep m lo hi:Nat)(j:Nat):D:= .sub j ep m lo hi
@[go_sem] theorem Iy (ep m lo hi j : Nat) : Fv ep m lo hi j = .sub j ep m lo hi := (rfl)
@[go_sem] theorem Lh (id ep m lo hi : Nat) : ren f n (.sub id ep m lo hi) = (f id).map (Fv ep m lo hi) := by cases n <;> rfl
@[go_sem] theorem MJ (g : Nat) (cs : List D) : ren f (n + 1) (.fn g cs) = (aI (ren f n) cs).map (.fn g) := (rfl)
@[go_sem] theorem Li (cs : List D) : ren f (n + 1) (.agg cs) = (aI (ren f n) cs).map .agg := (rfl)
@[go_sem] theorem Lj (cs : List D) : ren f (n + 1) (.tup cs) = (aI (ren f n) cs).map .tup := (rfl)
@[go_sem] theorem o9 (ts : List T) : aI (ren f n) (ts.map .t) = some (ts.map .t) := by
 induction ts with
 | nil=>rfl
 | cons t ts ih=>rw[List.map_cons,qN,Lb,Option.bind_some,xF,ih];rfl
@[go_sem] theorem vj (m : Nat) (x : T) : aI (ren f n) (List.replicate m (.t x)) = some (List.replicate m (.t x)) := by
 have:List.replicate m (D.t x)=(List.replicate m x).map .t:=by simp
 rw[this,o9]
@[go_sem] theorem BJ (cs : List D) : bJ f (.box cs) = (aI (ren f 8) cs).map .box := (rfl)
@[go_sem] theorem BK (sz ep : Nat) (pin : Bool) (es : List D) : bJ f (.arr sz pin ep es) = (aI (ren f 8) es).map (.arr sz pin ep) := (rfl)
end
def BL(x:Option Nat):Bool→Option Nat
 | true=>some 0
 | false=>x.map (· +1)
@[go_sem] theorem MK (x : Option Nat) : BL x true = some 0 := (rfl)
@[go_sem] theorem ML (k : Nat) : BL (some k) false = some (k + 1) := (rfl)
@[go_sem] theorem MM : BL none false = none := (rfl)
@[go_sem] theorem idxOf_nil (i : Nat) : idxOf [] i = none := (rfl)
@[go_sem] theorem idxOf_cons (j i : Nat) (r : List Nat) : idxOf (j :: r) i = BL (idxOf r i) (eqB j i) := by
 simp only[idxOf,nd]
 by_cases h:j=i
 · simp[h,BL]
 · simp[h,BL]
@[go_sem] theorem BM (n i : Nat) : aZ [] n i = some (n + i) := by simp [aZ]
@[go_sem] theorem Iz (j n : Nat) (r : List Nat) : aZ (j :: r) n 0 = some j := by simp [aZ]
@[go_sem] theorem IA (j n i : Nat) (r : List Nat) : aZ (j :: r) n (i + 1) = aZ r n i := by
 simp only[aZ,List.length_cons,Nat.add_lt_add_iff_right,List.getElem?_cons_succ,Nat.add_sub_add_right]
@[go_sem] theorem yg {α : Type} (H os : List α) : aQ H [] os = H := by cases os <;> rfl
@[go_sem] theorem vk {α : Type} (H : List α) (i : Nat) (r : List Nat) (o : α) (os : List α) : aQ H (i :: r) (o :: os) = aQ (H.set i o) r os := (rfl)
def lbP(sz:Nat)(p:List D×ab):List D×ab:=(p.1,.arr sz false 0 []::p.2)
@[go_sem] theorem MN (sz : Nat) (cs : List D) (os : ab) : lbP sz (cs, os) = (cs, .arr sz false 0 [] :: os) := (rfl)
def lbC(base:Nat)(cs:List D)(off sz:Nat)(r:List (Nat×Nat)):Option D→List D×ab
 | some .nil=>lbP sz (az (base+1) (cs.set off (.ref base 0 0)) r)
 | _=>az base cs r
@[go_sem] theorem Lk (base : Nat) (cs : List D) (off sz : Nat) (r : List (Nat × Nat)) : lbC base cs off sz r (some .nil) = lbP sz (az (base + 1) (cs.set off (.ref base 0 0)) r) := (rfl)
@[go_sem] theorem NM (base : Nat) (cs : List D) (off sz : Nat) (r : List (Nat × Nat)) (x : T) : lbC base cs off sz r (some (.t x)) = az base cs r := (rfl)
@[go_sem] theorem Ll (base : Nat) (cs : List D) (off sz : Nat) (r : List (Nat × Nat)) (a b c : Nat) : lbC base cs off sz r (some (.ref a b c)) = az base cs r := (rfl)
@[go_sem] theorem vl (base : Nat) (cs : List D) (off sz : Nat) (r : List (Nat × Nat)) : az base cs ((off, sz) :: r) = lbC base cs off sz r cs[off]? := by
 simp only[az,lbC]
 split<;>split<;>simp_all [lbP]
def lvP(H:ab)(id:Nat)(p:List D×ab):Option (D×ab):=some (.tup [],H.set id (.box p.1)++p.2)
@[go_sem] theorem MO (H : ab) (id : Nat) (cs : List D) (os : ab) : lvP H id (cs, os) = some (.tup [], H.set id (.box cs) ++ os) := (rfl)
def lvB(H:ab)(id:Nat)(l:List (Nat×Nat)):Option Obj→Option (D×ab)
 | some (.box cs)=>lvP H id (az H.length cs l)
 | _=>none
@[go_sem] theorem MP (H : ab) (id : Nat) (l : List (Nat × Nat)) (cs : List D) : lvB H id l (some (.box cs)) = lvP H id (az H.length cs l) := (rfl)
@[go_sem] theorem yh (H : ab) (id : Nat) (x : Nat × Nat) (r : List (Nat × Nat)) : kl H id (x :: r) = lvB H id (x :: r) H[id]? := by
 simp only[kl,dV]
 generalize H[id]?=o
 rcases o with _ | (cs | _)
 · rfl
 · rfl
 · rfl
section
variable (H : ab)
def klE(n:Nat)(sel new:List Nat)(os:ab)(q:List Nat×ab):Option (List Nat×ab):=some (new++q.1,os++q.2)
@[go_sem] theorem MQ (n : Nat) (sel new : List Nat) (os : ab) (a : List Nat) (b : ab) : klE n sel new os (a, b) = some (new ++ a, os ++ b) := (rfl)
def klD(n:Nat)(sel new:List Nat)(os:ab):Option (List Nat×ab):=(dr H n (sel++new) (fB H new)).bind (klE n sel new os)
@[go_sem] theorem MR (n : Nat) (sel new : List Nat) (os : ab) : klD H n sel new os = (dr H n (sel ++ new) (fB H new)).bind (klE n sel new os) := (rfl)
def iA(sel:List Nat):List Nat→Bool
 | []=>true
 | i::r=> !oh i sel&&iA sel r
@[go_sem] theorem BN (sel : List Nat) : iA sel [] = true := (rfl)
@[go_sem] theorem yi (sel : List Nat) (i : Nat) (r : List Nat) : iA sel (i :: r) = (!oh i sel && iA sel r) := (rfl)
theorem lY(sel l:List Nat):l.all (fun i=> !sel.contains i)=iA sel l:=by
 induction l with
 | nil=>rfl
 | cons i r ih=>rw[List.all_cons,ih,kN];rfl
def klC(n:Nat)(sel new:List Nat)(os:ab):Option (List Nat×ab):=
 (if n=0 then(if(os.flatMap fun o=>o.ds.flatMap (bF H depth)).all (fun i=> !(sel++new).contains i)then aI (aX H) os else none)else some os).bind (klD H n sel new)
def gz:ab→List Nat
 | []=>[]
 | .box cs::r=>fj H 8 cs++gz r
 | .arr _ _ _ es::r=>fj H 8 es++gz r
@[go_sem] theorem BO : gz H [] = [] := (rfl)
@[go_sem] theorem BP (cs : List D) (r : ab) : gz H (.box cs :: r) = fj H 8 cs ++ gz H r := (rfl)
@[go_sem] theorem BQ (sz ep : Nat) (pin : Bool) (es : List D) (r : ab) : gz H (.arr sz pin ep es :: r) = fj H 8 es ++ gz H r := (rfl)
theorem qU(os:ab):(os.flatMap fun o=>o.ds.flatMap (bF H depth))=gz H os:=by
 induction os with
 | nil=>rfl
 | cons o r ih=>rw[List.flatMap_cons,ih];cases o<;>rfl
@[go_sem] theorem NN (sel new : List Nat) (os : ab) : klC H 0 sel new os = (if iA (sel ++ new) (gz H os) = true then aI (aX H) os else none).bind (klD H 0 sel new) := by
 simp only[klC,qU,lY,if_true]
@[go_sem] theorem NQ (n : Nat) (sel new : List Nat) (os : ab) : klC H (n + 1) sel new os = klD H (n + 1) sel new os := by
 simp[klC]
def klN(n:Nat)(sel new:List Nat):Option (List Nat×ab):=(pick H new).bind (klC H n sel new)
@[go_sem] theorem MS (n : Nat) (sel new : List Nat) : klN H n sel new = (pick H new).bind (klC H n sel new) := (rfl)
@[go_sem] theorem IB (sel front : List Nat) : dr H 0 sel front = some ([], []) := (rfl)
@[go_sem] theorem IC (n : Nat) (sel front : List Nat) : dr H (n + 1) sel front = klN H n sel ((bD sel front).drop sel.length) := by
 simp only[dr,klN]
 generalize (bD sel front).drop sel.length=new
 cases pick H new with
 | none=>rfl
 | some os=>
   simp only[Option.bind_some,klC]
   congr 1
   funext os'
   simp only[klD]
   cases dr H n (sel++new) (fB H new)<;>rfl
@[go_sem] theorem tH (cs : List D) : aX H (.box cs) = (aI (iV H) cs).map .box := (rfl)
@[go_sem] theorem kO (sz ep : Nat) (pin : Bool) (ts : List T) : aX H (.arr sz pin ep (ts.map .t)) = some (.arr sz pin ep (ts.map .t)) := by
 simp only[aX,gy,Option.map_some]
@[go_sem] theorem tJ (sz ep : Nat) (pin : Bool) : aX H (.arr sz pin ep []) = some (.arr sz pin ep []) := (rfl)
@[go_sem] theorem tK (sz ep : Nat) (pin : Bool) (m : Nat) (x : T) : aX H (.arr sz pin ep (List.replicate m (.t x))) = some (.arr sz pin ep (List.replicate m (.t x))) := by
 have:List.replicate m (D.t x)=(List.replicate m x).map .t:=by simp
 rw[this,kO]
def Lm(k raw:Nat)(H:ab)(ds rs:List D)(q:List Nat×ab):Option (D×ab):=
 if iA (List.range k++q.1) (b7 H raw ds)=true then
  (aI (ren (idxOf (List.range k++q.1)) depth) rs).bind fun rs'=>(aI (bJ (idxOf (List.range k++q.1))) (H.take k++q.2)).map fun hs'=>(iH rs',hs')
 else none
def qV(sel:List Nat)(H2:ab)(rs':List D):Option (D×ab):=(aI (bJ (idxOf sel)) H2).bind (finT3 rs')
where finT3 (rs':List D) (hs:ab):Option (D×ab):=some (iH rs',hs)
@[go_sem] theorem ID (rs' : List D) (hs : ab) : qV.finT3 rs' hs = some (iH rs', hs) := (rfl)
@[go_sem] theorem IE (sel : List Nat) (H2 : ab) (rs' : List D) : qV sel H2 rs' = (aI (bJ (idxOf sel)) H2).bind (qV.finT3 rs') := (rfl)
@[go_sem] theorem Ln (k raw : Nat) (ds rs : List D) (sel : List Nat) (os : ab) : Lm k raw H ds rs (sel, os) =
 if iA (List.range k++sel) (b7 H raw ds)=true then(aI (ren (idxOf (List.range k++sel)) 8) rs).bind (qV (List.range k++sel) (H.take k++os))else none:=by
 simp only[Lm,depth]
 split
 · cases aI (ren (idxOf (List.range k++sel)) 8) rs with
   | none=>rfl
   | some rs'=>simp only[Option.bind_some,qV];cases aI (bJ (idxOf (List.range k++sel))) (H.take k++os)<;>rfl
 · rfl
@[go_sem] theorem Lo (k raw : Nat) (ds rs : List D) : H7 k raw H ds rs = (dr H (max raw 1) (List.range k) (kn 8 rs ++ fB H (List.range k))).bind (Lm k raw H ds rs) := by
 simp only[H7,lY,kn,depth];rfl
@[go_sem] theorem BR (k raw : Nat) (ds rs : List D) : By k raw H ds rs false = H7 k raw H ds rs := (rfl)
@[go_sem] theorem BS (k raw : Nat) (ds : List D) : finish k (raw + 1) H ds = Fa k (raw + 1) H ds ds := by
 simp only[finish,Nat.add_one_ne_zero,if_false,Option.bind_some,c7,oe,Fa,By]
 show(if(bw k 8 ds&&bj k (H.take k))=true then _ else _)=_
 cases (bw k 8 ds&&bj k (H.take k))<;>rfl
@[go_sem] theorem yj (raw : Nat) (ds : List D) : b7 H (raw + 1) ds = [] := by simp [b7]
@[go_sem] theorem IF : max 0 1 = 1 := (rfl)
@[go_sem] theorem Lp (r : Nat) : max (r + 1) 1 = r + 1 := by omega
@[go_sem] theorem BT : List.range 0 = [] := (rfl)
@[go_sem] theorem BU : List.range 1 = [0] := (rfl)
@[go_sem] theorem BV : List.range 2 = [0, 1] := (rfl)
@[go_sem] theorem BW : List.range 3 = [0, 1, 2] := (rfl)
@[go_sem] theorem BX : List.range 4 = [0, 1, 2, 3] := (rfl)
end
theorem oo{α:Type}(f:α→T)(l:List α)(i:Nat)(x:α)(y:D)(h:y= .t (f x)):((l.map f).map D.t).set i y=((l.set i x).map f).map D.t:=by
 rw[h,List.map_map,List.map_map]
 exact(List.map_set (f:=D.t ∘ f)).symm
@[go_sem] theorem Lq (l : List Int) (i : Nat) (k : IntKind) (x : Int) : ((l.map (T.int k)).map D.t).set i (.t (.int k x)) = ((l.set i x).map (T.int k)).map D.t := oo _ l i x _ rfl
@[go_sem] theorem IG (l : List Bool) (i : Nat) (x : Bool) : ((l.map T.bool).map D.t).set i (.t (.bool x)) = ((l.set i x).map T.bool).map D.t := oo _ l i x _ rfl
end Go.Ev
namespace Go.Ev
class Lib where
 fs:Nat→Option Fn
end Go.Ev
namespace Go.Ev.K
abbrev u(x:O):R:={ o:=x}
abbrev w(n:Nat)(x:O):R:={ o:=x,d:=some n}
abbrev y(n:Nat)(b:Bool)(x:O):R:={ o:=x,g:=some (n,b)}
abbrev m(x:X):R:={ o:= .mv x}
abbrev g(x:X):R:={ o:= .ld x 1 false}
abbrev h(n:Nat)(x:X):R:={ o:= .ld x n true}
abbrev f(n:Nat)(x:X):R:={ o:= .fa x n}
abbrev a(n:Nat)(x z:X):R:={ o:= .ia x z n}
abbrev l0:X:= .l 0
abbrev l1:X:= .l 1
abbrev l2:X:= .l 2
abbrev l3:X:= .l 3
abbrev l4:X:= .l 4
abbrev l5:X:= .l 5
abbrev l6:X:= .l 6
abbrev l7:X:= .l 7
abbrev l8:X:= .l 8
abbrev l9:X:= .l 9
abbrev l10:X:= .l 10
abbrev l11:X:= .l 11
abbrev v0:X:= .v 0
abbrev v1:X:= .v 1
abbrev v2:X:= .v 2
abbrev v3:X:= .v 3
abbrev v4:X:= .v 4
abbrev v5:X:= .v 5
abbrev v6:X:= .v 6
abbrev v7:X:= .v 7
abbrev v8:X:= .v 8
abbrev v9:X:= .v 9
abbrev v10:X:= .v 10
abbrev v11:X:= .v 11
abbrev v12:X:= .v 12
abbrev v13:X:= .v 13
abbrev v14:X:= .v 14
abbrev v15:X:= .v 15
abbrev v16:X:= .v 16
abbrev v17:X:= .v 17
abbrev v18:X:= .v 18
abbrev v19:X:= .v 19
abbrev v20:X:= .v 20
abbrev v21:X:= .v 21
abbrev v22:X:= .v 22
abbrev v23:X:= .v 23
end Go.Ev.K
namespace Go.Ev.N
def ng:Nat:=0
def bz:Nat:=1
def yk:Nat:=2
def bM:Nat:=3
def r5:Nat:=4
def BZ:Nat:=5
def pL:Nat:=6
def qW:Nat:=7
def pM:Nat:=8
def ao:Nat:=9
def vm:Nat:=10
def pb:Nat:=11
def Fw:Nat:=12
def r6:Nat:=13
def qX:Nat:=14
def tM:Nat:=15
def r7:Nat:=16
def yl:Nat:=17
def vn:Nat:=18
def ym:Nat:=19
def r8:Nat:=20
def Fx:Nat:=21
def vo:Nat:=22
def b6:Nat:=23
def vq:Nat:=24
def qY:Nat:=25
def r9:Nat:=26
def sg:Nat:=27
def yn:Nat:=28
def yo:Nat:=29
def Fy:Nat:=30
def yp:Nat:=31
def B0:Nat:=32
def yq:Nat:=33
def vr:Nat:=34
def vt:Nat:=35
def yr:Nat:=36
def B1:Nat:=37
def yt:Nat:=38
def qZ:Nat:=39
def B2:Nat:=40
def yu:Nat:=41
def B3:Nat:=42
def yv:Nat:=43
def vu:Nat:=44
def FA:Nat:=45
def vv:Nat:=46
def yw:Nat:=47
def si:Nat:=48
def ah:Nat:=49
def pc:Nat:=50
def kP:Nat:=51
def pN:Nat:=52
def sj:Nat:=53
def B4:Nat:=54
def B5:Nat:=55
def vw:Nat:=56
def yx:Nat:=57
def yy:Nat:=58
def B6:Nat:=59
def yz:Nat:=60
def B7:Nat:=61
def aJ:Nat:=62
def B8:Nat:=63
def yA:Nat:=64
def yB:Nat:=65
def aq:Nat:=66
def mw:Nat:=67
def pO:Nat:=68
def eJ:Nat:=69
def oq:Nat:=70
def bC:Nat:=71
def yC:Nat:=72
def yD:Nat:=73
def B9:Nat:=74
def fy:Nat:=75
def vz:Nat:=76
def Ca:Nat:=77
end Go.Ev.N
namespace Go.Ev.K
open Go.Ev
def bz:Fn:={ nargs:=1,vars:=[0,2],body:=(.seq (.reg [w 1 (.mv (.b false))] []) (.seq (.reg [m v0,u (.ln l0),u (.bin .leq l0 (.i 400)),w 1 (.mv l0)] []) .ret)),res:=[(1,none)]}
def bM:Fn:={ nargs:=1,vars:=[0,2],body:=(.seq (.reg [w 1 (.mv (.c (.nilp)))] []) (.seq (.reg [m v0,u (.bd [.nil,.t (.int .i64 (0))] [(0,1,.l 0)]),u (.bx l0 2),w 1 (.mv l0)] []) .ret)),res:=[(1,none)]}
def ao:Fn:={ nargs:=2,vars:=[0,1,4],body:=(.seq (.reg [w 2 (.mv (.i 0))] []) (.seq (.ite [m v0,u (.nc l0),f 1 l0,g l0,m v0,u (.nc l0),f 0 l0,g l0,u (.ln l0),u (.bin .geq l5 l0)] [] 0 (.seq (.reg [w 2 (.mv (.i 0))] []) .ret) .skip) (.seq (.reg [m v0,u (.nc l0),f 1 l0,g l0,u (.bin .add l0 (.i 1)),u (.nc l4),f 1 l0,u (.st l0 l2 1 [])] []) (.seq (.reg [m v0,u (.nc l0),f 0 l0,g l0,m v0,u (.nc l0),f 1 l0,g l0,u (.bin .sub l0 (.i 1)),a 1 l5 l0,g l0,m v1,u (.ca N.b6 0 [] [.l 1,.l 0]),w 2 (.mv l0)] []) .ret)))),res:=[(2,none)]}
def b6:Fn:={ nargs:=2,vars:=[0,1,4],body:=(.seq (.reg [w 2 (.mv (.i 0))] []) (.seq (.ite [m v1,u (.bin .lss l0 (.i 1))] [] 0 (.seq (.reg [w 2 (.mv (.i 0))] []) .ret) .skip) (.seq (.reg [m v0,m v1,u (.bin .rem l1 l0),w 0 (.mv l0)] []) (.seq (.ite [m v0,u (.bin .lss l0 (.i 0))] [] 0 (.reg [m v0,m v1,u (.bin .add l1 l0),w 0 (.mv l0)] []) .skip) (.seq (.reg [m v0,w 2 (.mv l0)] []) .ret))))),res:=[(2,none)]}
end Go.Ev.K
namespace Go.Ev
class dM [Lib]:Prop where
 eK:Lib.fs N.bz=some K.bz
 fM:Lib.fs N.bM=some K.bM
 cO:Lib.fs N.ao=some K.ao
 hJ:Lib.fs N.b6=some K.b6
namespace K
variable [Lib] [dM]
theorem eK:Lib.fs N.bz=some K.bz:=dM.eK
theorem fM:Lib.fs N.bM=some K.bM:=dM.fM
theorem cO:Lib.fs N.ao=some K.ao:=dM.cO
theorem hJ:Lib.fs N.b6=some K.b6:=dM.hJ
end K
end Go.Ev
namespace Go.Ev.K
open Go.Ev
def ah:Fn:={ nargs:=2,vars:=[0,1,4],body:=(.seq (.reg [w 2 (.mv (.b false))] []) (.seq (.reg [m v0,m v1,u (.ca N.aq 0 [] [.l 1,.l 0]),u (.bin .geq l0 (.i 0)),w 2 (.mv l0)] []) .ret)),res:=[(2,none)]}
def bH:C:=(.seq (.ite [m v3,m v0,u (.ln l0),u (.bin .lss l2 l0)] [] 0 .skip (.exit 0)) (.seq (.blk 1 (.ite [m v0,m v3,a 1 l1 l0,g l0,m v1,m v3,a 1 l1 l0,g l0,u (.bin .neq l4 l0)] [] 0 (.seq (.reg [w 2 (.mv (.b false))] []) .ret) .skip)) (.reg [m v3,u (.bin .add l0 (.i 1)),w 3 (.mv l0)] [])))
def dN:C:= .loop true [2] K.bH
def aJ:Fn:={ nargs:=2,vars:=[0,1,4,5],body:=(.seq (.reg [w 2 (.mv (.b false))] []) (.seq (.ite [m v0,u (.ln l0),m v1,u (.ln l0),u (.bin .neq l2 l0)] [] 0 (.seq (.reg [w 2 (.mv (.b false))] []) .ret) .skip) (.seq (.seq (.reg [w 3 (.mv (.i 0))] []) (.blk 0 K.dN)) (.seq (.reg [w 2 (.mv (.b true))] []) .ret)))),res:=[(2,none)]}
def cX:C:=(.its [u (.bin .lss v5 v4)] [] 0 .skip (.exit 0) (.seq (.blk 1 (.seq (.reg [m v5,w 3 (.mv l0)] []) (.ite [m v1,m v0,m v3,a 1 l1 l0,g l0,u (.cw l4 0 [] [.l 0])] [] 0 (.seq (.reg [m v3,w 2 (.mv l0)] []) .ret) .skip))) (.reg [u (.bin .add v5 (.i 1)),w 5 (.mv l0)] [])))
def df:C:= .loop true [2,3] K.cX
def aq:Fn:={ nargs:=2,vars:=[0,1,4,5,7,8],body:=(.seq (.reg [w 2 (.mv (.i 0))] []) (.seq (.seq (.reg [m v0,w 4 (.ln l0),w 5 (.mv (.i 0))] []) (.blk 0 K.df)) (.seq (.reg [w 2 (.mv (.i (-1)))] []) .ret))),res:=[(2,none)]}
def bC:Fn:={ nargs:=3,vars:=[0,1,2,6],body:=(.seq (.reg [w 3 (.mv (.b false))] []) (.seq (.reg [m v0,m v1,u (.bin .geq l1 l0),m l0,y 0 true (.mv v0),y 1 true (.mv v2),y 2 true (.bin .leq l1 l0),u (.pk l3 l0 (.b false)),w 3 (.mv l0)] []) .ret)),res:=[(3,none)]}
end Go.Ev.K
namespace Go.Ev
class dO [Lib]:Prop where
 bE:Lib.fs N.ah=some K.ah
 cP:Lib.fs N.aJ=some K.aJ
 bR:Lib.fs N.aq=some K.aq
 hT:Lib.fs N.bC=some K.bC
namespace K
variable [Lib] [dO]
theorem bE:Lib.fs N.ah=some K.ah:=dO.bE
theorem cP:Lib.fs N.aJ=some K.aJ:=dO.cP
theorem bR:Lib.fs N.aq=some K.aq:=dO.bR
theorem hT:Lib.fs N.bC=some K.bC:=dO.hT
end K
end Go.Ev
namespace Go.Ev
open Go
variable [Lib]
noncomputable def cY:ag:=dk Lib.fs
theorem bU{raw f:Nat}{args:List D}{H:ab}{fn:Fn}{r:D×ab}(hf:Lib.fs f=some fn)(hn:fn.nargs=args.length)
 (h:(exS cY fn.body ⟨fq args fn.vars,H⟩).bind (GX fn.res H.length raw)=some r) (h0:fn.prim=[]:=by rfl):cY raw f args H=some r:=xr hf hn h h0
theorem nh{gc:Bool}{dead:List Nat}{c:C}{vs:List D}{H:ab}(s:Nat→St)(n:Nat){e:Ex}{st:St}
 (h0:(⟨cu dead vs,H⟩:St)=s 0) (h:∀j,j<n→er gc dead (s j).H.length (exS cY c (s j))=some (s (j+1)))
 (he:exS cY c (s n)=some (e,st)) (hn:e≠ .normal):exS cY (.loop gc dead c) ⟨vs,H⟩=some (e,st):=by
 show eG gc dead (exS cY c) ⟨cu dead vs,H⟩=_
 rw[h0]
 exact kM s n h (dK he hn)
class Dat (α:Type) where
 dflt:α
instance : Dat Int := ⟨0⟩
instance : Dat Nat := ⟨0⟩
instance : Dat Bool := ⟨false⟩
instance {α : Type} : Dat (List α) := ⟨[]⟩
def nth{α:Type} [Dat α](l:List α)(j:Nat):α:=l.getD j Dat.dflt
theorem iT{α:Type} [Dat α]{l:List α}{j:Nat}(h:j<l.length):l[j]?=some (nth l j):=by simp[nth,h]
theorem ni{α β:Type} [Dat α](f:α→β){l:List α}{j:Nat}(h:j<l.length):(l.map f)[j]?=some (f (nth l j)):=by rw[List.getElem?_map,iT h];rfl
theorem tN{α β γ:Type} [Dat α](f:β→γ)(g:α→β){l:List α}{j:Nat}(h:j<l.length):((l.map g).map f)[j]?=some (f (g (nth l j))):=by rw[List.getElem?_map,ni g h];rfl
theorem nj{α:Type} [Dat α]{l:List α}{j:Nat}(h:j<l.length):nth l j∈l:=List.mem_of_getElem? (iT h)
theorem ot{α:Type} [Dat α]{l:List α}{j:Nat}{x:α}(h:l[j]?=some x):nth l j=x:=by simp[nth,h]
theorem tO{α:Type} [Dat α]{l:List α}{j:Nat}(h:j<l.length):l.take (j+1)=l.take j++[nth l j]:=by
 rw[List.take_succ_eq_append_getElem h];simp[nth,h]
theorem Lr{a b:Int}(h:a<b):(a<b)=True:=by simp[h]
theorem Lt{a b:Int}(h:b≤a):(a<b)=False:=by simp[Int.not_lt.2 h]
theorem Lu{a b:Int}(h:a≤b):(a≤b)=True:=by simp[h]
theorem Lv{a b:Int}(h:b<a):(a≤b)=False:=by simp[Int.not_le.2 h]
theorem Lw{a b:Int}(h:a=b):(a=b)=True:=by simp[h]
theorem Lx{a b:Int}(h:a≠b):(a=b)=False:=by simp[h]
theorem Ly{a b:Nat}(h:a<b):(a<b)=True:=by simp[h]
theorem Lz{a b:Nat}(h:b≤a):(a<b)=False:=by simp[Nat.not_lt.2 h]
theorem LA{a b:Nat}(h:a≤b):(a≤b)=True:=by simp[h]
theorem LB{a b:Nat}(h:b<a):(a≤b)=False:=by simp[Nat.not_le.2 h]
theorem LC{a b:Nat}(h:a=b):(a=b)=True:=by simp[h]
theorem LD{a b:Nat}(h:a≠b):(a=b)=False:=by simp[h]
attribute [go_sem] LC LD Lr Lt Lu Lv Lw Lx Ly Lz LA LB xt ni tN xI
@[go_sem] theorem Cb (a b : Nat) : ((a + b : Nat) : Int) = (a : Int) + (b : Int) := (rfl)
@[go_sem] theorem Cc : ((1 : Nat) : Int) = 1 := (rfl)
@[go_sem] theorem yE : ((0 : Nat) : Int) = 0 := (rfl)
@[go_sem] theorem FB (a b : Int) : a + b - b = a := Int.add_sub_cancel a b
@[go_sem] theorem vA : (0 : Int).toNat = 0 := (rfl)
@[go_sem] theorem yF (n : Nat) : (n : Int).toNat = n := (rfl)
@[go_sem] theorem yG (n : Nat) : ((n : Int) + 1).toNat = n + 1 := (rfl)
@[go_sem] theorem yH (a : Int) : 0 + a = a := Int.zero_add a
@[go_sem] theorem yI (a : Int) : a + 0 = a := Int.add_zero a
@[go_sem] theorem yJ (a : Int) : a - 0 = a := Int.sub_zero a
abbrev tI(n:Int):T:= .int .i64 n
abbrev tL(l:List Int):T:= .sl (l.map (.int .i64))
@[go_sem] theorem tP (H : ab) (n : Nat) (ts : List T) (x : T) : aI (frz H n) (ts.map .t ++ [.t x]) = some (ts ++ [x]) := by
 have:ts.map D.t++[.t x]=(ts++[x]).map .t:=by simp
 rw[this,o5]
@[go_sem] theorem vB {α β : Type} (f : α → β) (a b : List α) : (a ++ b).map f = a.map f ++ b.map f := List.map_append
end Go.Ev
namespace Go.Ev
open Go
variable [Lib] [dM] [dO]
theorem ko{gc:Bool}{dead:List Nat}{c:C}{vs:List D}{H:ab}(s:Nat→St)(n:Nat)(p:Nat→Bool)(e:Nat→Ex×St)(eN:Ex×St)
 (h0:(⟨cu dead vs,H⟩:St)=s 0) (hs:∀j,j<n→p j=false→er gc dead (s j).H.length (exS cY c (s j))=some (s (j+1)))
 (he:∀j,j<n→p j=true→exS cY c (s j)=some (e j)∧(e j).1≠ .normal) (hN:exS cY c (s n)=some eN) (hn:eN.1≠ .normal):
 exS cY (.loop gc dead c) ⟨vs,H⟩=some (match (List.range n).find? p with | some j=>e j | none=>eN):=by
 show eG gc dead (exS cY c) ⟨cu dead vs,H⟩=_
 rw[h0]
 cases hf:(List.range n).find? p with
 | none=>
   refine kM s n (fun j hj=>hs j hj ?_) (dK hN hn)
   have:=List.find?_eq_none.1 hf j (List.mem_range.2 hj)
   simpa using this
 | some k=>
   obtain⟨h1,as,bs,h2,h3⟩:=List.find?_eq_some_iff_append.1 hf
   have hk:k<n:=List.mem_range.1 (List.mem_of_find?_eq_some hf)
   have hlt:∀j,j<k→p j=false:=by
    intro j hj
    have hlen:as.length=k:=by
     have h4:(List.range n)[as.length]?=some k:=by rw[h2];simp
     have h5:as.length<n:=by
      have:=congrArg List.length h2;simp at this;omega
     rw[List.getElem?_range h5]at h4
     exact Option.some.inj h4
    have:j∈as:=by
     have h6:(List.range n)[j]?=some j:=List.getElem?_range (by omega)
     rw[h2,List.getElem?_append_left (by omega)]at h6
     exact List.mem_of_getElem? h6
    simpa using h3 j this
   obtain⟨k1,k2⟩:=he k hk h1
   exact kM s k (fun j hj=>hs j (by omega) (hlt j hj)) (dK k1 k2)
theorem tQ{n:Nat}{p:Nat→Bool}:((List.range n).find? p).isSome=(List.range n).any p:=by
 rw[List.isSome_find?]
def tR(m:Nat):List D:=(List.range m).map fun i=> .bp i 0
def du(bs:List (List T)):ab:=bs.map fun cs=> .box (cs.map .t)
theorem bP(bs:List (List T)):(du bs).length=bs.length:=by simp[du]
section
variable (bs : List (List T)) (o o' : Obj)
@[go_sem] theorem tS : (du bs).length = bs.length := bP bs
@[go_sem] theorem Cd : (du bs ++ [o])[bs.length]? = some o := by
 rw[List.getElem?_append_right (by rw[bP];exact Nat.le_refl _),bP];simp
@[go_sem] theorem FC : (du bs ++ [o]).set bs.length o' = du bs ++ [o'] := by
 rw[List.set_append_right _ _ (by rw[bP];exact Nat.le_refl _),bP];simp
@[go_sem] theorem Ce : (du bs ++ [o]).take bs.length = du bs := by
 rw[List.take_append_of_le_length (by rw[bP];exact Nat.le_refl _),List.take_of_length_le (by rw[bP];exact Nat.le_refl _)]
@[go_sem] theorem yK : (du bs ++ [o]).take (bs.length + 1) = du bs ++ [o] := List.take_of_length_le (by simp [bP])
@[go_sem] theorem yL : (du bs).take bs.length = du bs := List.take_of_length_le (by simp [bP])
@[go_sem] theorem yM (k : Nat) (a b : ab) : bj k (a ++ b) = (bj k a && bj k b) := by
 rw[← c7,←c7,←c7,List.all_append]
@[go_sem] theorem tT (k : Nat) : bj k (du bs) = true := by
 induction bs with
 | nil=>rfl
 | cons b r ih=>
   show(bw k 8 (b.map .t)&&bj k (du r))=true
   rw[od,ih];rfl
@[go_sem] theorem IH (n : Nat) : ltB n (n + 1) = true := by rw [ef]; simp
@[go_sem] theorem II (n : Nat) : ltB n n = false := by rw [ef]; simp
theorem iB(k n m:Nat)(h:m≤k):bw k n (tR m)=true:=by
 unfold bw tR
 rw[List.all_eq_true]
 intro d hd
 obtain⟨i,hi,rfl⟩:=List.mem_map.1 hd
 rw[E3,ef]
 have:=List.mem_range.1 hi
 simp;omega
@[go_sem] theorem yN (n m : Nat) : bw m n (tR m) = true := iB _ _ _ (Nat.le_refl _)
@[go_sem] theorem vC (n m : Nat) : bw (m + 1) n (tR m) = true := iB _ _ _ (Nat.le_succ _)
end
end Go.Ev
namespace Go.Ev
open Go
variable [Lib] [dM] [dO]
theorem cJ{α:Type}(sz:Nat)(f:α→T)(h:∀a,dy sz (f a).cells=true):∀l:List α,aD sz (l.map f)=true
 | []=>rfl
 | a::l=>by rw[List.map_cons,gx,h,cJ sz f h l];rfl
@[go_sem] theorem vD (k : IntKind) (l : List Int) : aD 1 (l.map (.int k)) = true := cJ 1 _ (fun _ => rfl) l
theorem gA(sz:Nat):∀ts:List T,(ts.all fun e=>e.cells.length==sz)=aD sz ts
 | []=>rfl
 | t::ts=>by
   rw[List.all_cons,gx,gA sz ts]
   congr 1
   rw[Bool.eq_iff_iff,bl];simp
section
variable (H : ab) (sz : Nat) (ts : List T) (i j : Int)
@[go_sem] theorem LF : lU H sz (some (.t (.sl ts))) (some none) (some (some i)) = if 0 ≤ i then (if i ≤ ts.length then (if aD sz ts = true then some (.t (.sl (ts.take i.toNat)), H) else none) else none) else none := by
 simp only[lU,Option.bind_some,dq,bound,gA,idx]
 by_cases h1:0≤i
 · rw[if_pos h1,if_pos h1,Option.bind_some]
   by_cases h2:i≤ts.length
   · rw[if_pos h2]
     by_cases h3:aD sz ts=true
     · rw[if_pos h3,if_pos ⟨by omega,by omega,h3⟩];rfl
     · rw[if_neg h3,if_neg fun h=>h3 h.2.2];rfl
   · rw[if_neg h2,if_neg fun h=>h2 (by omega)];rfl
 · rw[if_neg h1,if_neg h1];rfl
@[go_sem] theorem LG : lU H sz (some (.t (.sl ts))) (some (some i)) (some none) = if 0 ≤ i then (if i ≤ ts.length then (if aD sz ts = true then some (.t (.sl (ts.drop i.toNat)), H) else none) else none) else none := by
 simp only[lU,Option.bind_some,dq,bound,gA,idx]
 by_cases h1:0≤i
 · rw[if_pos h1,if_pos h1,Option.bind_some]
   by_cases h2:i≤ts.length
   · rw[if_pos h2]
     by_cases h3:aD sz ts=true
     · rw[if_pos h3,if_pos ⟨by omega,by omega,h3⟩,List.take_of_length_le (by simp)];rfl
     · rw[if_neg h3,if_neg fun h=>h3 h.2.2];rfl
   · rw[if_neg h2,if_neg fun h=>h2 (by omega)];rfl
 · rw[if_neg h1,if_neg h1];rfl
@[go_sem] theorem FD : lU H sz (some (.t (.sl ts))) (some (some i)) (some (some j)) = if 0 ≤ i then (if i ≤ j then (if j ≤ ts.length then (if aD sz ts = true then some (.t (.sl ((ts.drop i.toNat).take (j.toNat - i.toNat))), H) else none) else none) else none) else none := by
 simp only[lU,Option.bind_some,dq,bound,gA,idx]
 by_cases h1:0≤i
 · rw[if_pos h1,if_pos h1,Option.bind_some]
   by_cases h0:i≤j
   · rw[if_pos h0,if_pos (by omega:0≤j),Option.bind_some]
     by_cases h2:j≤ts.length
     · rw[if_pos h2]
       by_cases h3:aD sz ts=true
       · rw[if_pos h3,if_pos ⟨by omega,by omega,h3⟩];rfl
       · rw[if_neg h3,if_neg fun h=>h3 h.2.2];rfl
     · rw[if_neg h2,if_neg fun h=>h2 (by omega)];rfl
   · rw[if_neg h0]
     by_cases h2:0≤j
     · rw[if_pos h2,Option.bind_some,if_neg fun h=>h0 (by omega)];rfl
     · rw[if_neg h2];rfl
 · rw[if_neg h1,if_neg h1];rfl
end
def bsK(H:ab)(l:List Nat):Option T→Option (D×ab)
 | some t=>some (.t (.sl [t]),pins H l)
 | none=>none
@[go_sem] theorem IJ (H : ab) (l : List Nat) (t : T) : bsK H l (some t) = some (.t (.sl [t]), pins H l) := (rfl)
@[go_sem] theorem IK (H : ab) (sz : Nat) (cs : List D) : km H sz [.agg cs] = if dy sz cs = true then bsK H (bF H 8 (.agg cs)) (frz H 8 (.agg cs)) else none := by
 simp only[km,List.all_cons,List.all_nil,Bool.and_true,D.cells]
 by_cases h:dy sz cs=true
 · rw[if_pos h,if_pos (by simpa using bl.1 h)]
   simp only[aI,depth,List.flatMap_cons,List.flatMap_nil,List.append_nil]
   cases frz H 8 (.agg cs)<;>rfl
 · rw[if_neg h,if_neg (by intro e;exact h (bl.2 (by simpa using e)))]
@[go_sem] theorem IL (H : ab) (id ep n : Nat) : km H 1 [.ref id ep n] = bsK H (bF H 8 (.ref id ep n)) (frz H 8 (.ref id ep n)) := by
 simp only[km,List.all_cons,List.all_nil,Bool.and_true,D.cells,List.length_cons,List.length_nil,beq_self_eq_true,if_true,aI,depth,List.flatMap_cons,List.flatMap_nil,List.append_nil]
 cases frz H 8 (.ref id ep n)<;>rfl
def yO(H:ab)(r:D)(os:ab):D×ab:=(r,H++os)
@[go_sem] theorem IM (H : ab) (r : D) (os : ab) : yO H r os = (r, H ++ os) := (rfl)
def FE(H:ab)(os:ab)(r:D):Option (D×ab):=(aI (bJ (aZ [] H.length)) os).map (yO H r)
@[go_sem] theorem IN (H : ab) (os : ab) (r : D) : FE H os r = (aI (bJ (aZ [] H.length)) os).map (yO H r) := (rfl)
@[go_sem] theorem FF (H : ab) (r : D) (o : Obj) (os : ab) : jJ H (r, o :: os) = (ren (aZ [] H.length) 8 r).bind (FE H (o :: os)) := by
 simp only[jJ,List.isEmpty_cons,Bool.and_false,Bool.false_eq_true,if_false]
 rfl
end Go.Ev
namespace Go.Ev
open Go
variable [Lib] [dM] [dO]
@[go_sem] theorem LH (H : ab) (a b : List T) : km H 1 [.t (.sl a), .t (.sl b), .nil] = some (.t (.sl [.sl a, .sl b, .sl []]), H) := by
 simp only[km,List.all_cons,List.all_nil,D.cells,T.cells,List.map_cons,List.map_nil,List.length_cons,List.length_nil,aI,frz,depth,bF,List.flatMap_cons,List.flatMap_nil,pins]
 rfl
def tU(c:Bool):Option Bool→Option Bool
 | some d=>some (c&&d)
 | none=>none
@[go_sem] theorem Cf (c d : Bool) : tU c (some d) = some (c && d) := (rfl)
@[go_sem] theorem Cg : cR [] [] = some true := (rfl)
@[go_sem] theorem yP (k : IntKind) (a b : Int) (xs ys : List T) : cR (.int k a :: xs) (.int k b :: ys) = tU (decide (a = b)) (cR xs ys) := by
 simp only[cR,if_true,DX]
 cases cR xs ys<;>rfl
def tV(H:ab)(neg:Bool):Option Bool→Option (D×ab)
 | some r=>some (.t (.bool (bif neg then !r else r)),H)
 | none=>none
@[go_sem] theorem Ch (H : ab) (r : Bool) : tV H true (some r) = some (.t (.bool (!r)), H) := (rfl)
@[go_sem] theorem yQ (H : ab) (r : Bool) : tV H false (some r) = some (.t (.bool r), H) := (rfl)
@[go_sem] theorem yR (H : ab) (n : Nat) (neg : Bool) (xs ys : List T) : fh H (.ints n) neg (some (.t (.agg xs))) (some (.t (.agg ys))) = if xs.length = n then tV H neg (cR xs ys) else none := by
 simp only[fh,Option.bind_some,uM,eqD]
 by_cases h:xs.length=n
 · simp only[if_pos h]
   cases cR xs ys with
   | none=>rfl
   | some r=>cases neg<;>rfl
 · simp only[if_neg h];rfl
@[go_sem] theorem Ci : ((2 : Nat) : Int) = 2 := (rfl)
@[go_sem] theorem vE : ((3 : Nat) : Int) = 3 := (rfl)
def lZ(n:Nat)(p:Nat→Bool):Nat:=((List.range n).find? p).getD 0
theorem q0{gc:Bool}{dead:List Nat}{c:C}{vs:List D}{H:ab}(s:Nat→St)(n:Nat)(p:Nat→Bool)(e:Nat→Ex×St)(eN:Ex×St)
 (h0:(⟨cu dead vs,H⟩:St)=s 0)
 (hs:∀j,j<n→p j=false→er gc dead (s j).H.length (exS cY c (s j))=some (s (j+1)))
 (he:∀j,j<n→p j=true→exS cY c (s j)=some (e j)∧(e j).1≠ .normal)
 (hN:exS cY c (s n)=some eN) (hn:eN.1≠ .normal):
 exS cY (.loop gc dead c) ⟨vs,H⟩=some (if(List.range n).any p=true then e (lZ n p)else eN):=by
 rw[ko s n p e eN h0 hs he hN hn,←tQ]
 unfold lZ
 cases hf:(List.range n).find? p with
 | none=>simp
 | some k=>simp
@[go_sem] theorem FG : ch [] [] [] = some true := (rfl)
@[go_sem] theorem FH (ks : List Bool) (k : IntKind) (a b : Int) (xs ys : List T) : ch (true :: ks) (.int k a :: xs) (.int k b :: ys) = tU (decide (a = b)) (ch ks xs ys) := by
 simp only[ch,if_true,DX]
 cases ch ks xs ys<;>rfl
@[go_sem] theorem Cj (ks : List Bool) (a b : Bool) (xs ys : List T) : ch (false :: ks) (.bool a :: xs) (.bool b :: ys) = tU (decide (a = b)) (ch ks xs ys) := by
 simp only[ch,show(a==b)=decide (a=b)from rfl]
 cases ch ks xs ys<;>rfl
@[go_sem] theorem IP (H : ab) (ks : List Bool) (neg : Bool) (xs ys : List T) : fh H (.sc ks) neg (some (.t (.agg xs))) (some (.t (.agg ys))) = tV H neg (ch ks xs ys) := by
 simp only[fh,Option.bind_some,uM,eqD]
 cases ch ks xs ys with
 | none=>rfl
 | some r=>cases neg<;>rfl
def Mod(n m:Int):Int:=if m<1 then 0 else if n.tmod m<0 then n.tmod m+m else n.tmod m
theorem FI(n m:Int):0≤Mod n m:=by
 unfold Mod
 split
 · omega
 · have h5:=Int.lt_tmod_of_pos n (b:=m) (by omega)
   split<;>omega
theorem FJ(n m:Int)(h:1≤m):Mod n m<m:=by
 unfold Mod
 rw[if_neg (by omega)]
 have h3:=Int.tmod_lt_of_pos n (b:=m) (by omega)
 split<;>omega
theorem FK(n m:Int)(hm:m≤4611686018427387904):cY 0 N.b6 [I n,I m] []=some (I (Mod n m),[]):=by
 refine bU K.hJ rfl ?_
 unfold Mod
 by_cases h1:m<1
 · simp only[go_sem,K.b6,h1,↓reduceIte]
 · have h2:m≠0:=by omega
   have h3:=Int.tmod_lt_of_pos n (b:=m) (by omega)
   have h5:=Int.lt_tmod_of_pos n (b:=m) (by omega)
   by_cases h4:n.tmod m<0
   · simp (disch:=omega) only[go_sem,K.b6,h1,↓reduceIte,h2,h4]
   · simp (disch:=omega) only[go_sem,K.b6,h1,↓reduceIte,h2,h4]
theorem ou(l:List Int):cY 0 N.bz [.t (tL l)] []=some (B (decide (l.length≤400)),[]):=by
 refine bU K.eK rfl ?_
 simp (disch:=omega) only[go_sem,K.bz,↓reduceIte]
 simp only[show((l.length:Int)≤400)=(l.length≤400)by rw[eq_iff_iff];omega]
structure bg where
 L:List Int
 at_:Nat
def bg.obj(d:bg):Obj:= .box [.t (tL d.L),I d.at_]
def bg.fN(d:bg):Prop:=d.L.length≤400
def bg.next(d:bg)(n:Int):Int×bg:=if d.at_<d.L.length then(Mod (nth d.L d.at_) n,⟨d.L,d.at_+1⟩)else(0,d)
theorem bg.FL(d:bg)(n:Int):(d.next n).2.L=d.L:=by unfold bg.next;split<;>rfl
theorem bg.pd{d:bg}(h:d.fN)(n:Int):(d.next n).2.fN:=by unfold bg.fN;rw[d.FL];exact h
theorem bg.yS(d:bg)(n:Int):0≤(d.next n).1:=by unfold bg.next;split<;>simp[FI]
theorem bg.yT(d:bg){n:Int}(h:1≤n):(d.next n).1<n:=by unfold bg.next;split<;>simp[FJ _ _ h];omega
theorem yU(d:bg)(n:Int)(hn:n≤4611686018427387904)(hd:d.fN):cY 0 N.ao [.bp 0 0,I n] [d.obj]=some (I (d.next n).1,[(d.next n).2.obj]):=by
 refine bU K.cO rfl ?_
 have hm:=FK (nth d.L d.at_) n hn
 unfold bg.fN at hd
 unfold bg.next bg.obj
 by_cases h1:d.at_<d.L.length
 · simp (disch:=omega) only[go_sem,K.ao,↓reduceIte,↓if_pos,↓if_neg,Int.add_sub_cancel,hm,Int.natCast_add]
 · simp (disch:=omega) only[go_sem,K.ao,↓reduceIte,↓if_pos,↓if_neg]
@[go_sem] theorem IQ (d : bg) : om (some d.obj) = [] := by simp only [bg.obj, go_sem]
@[go_sem] theorem IS (f : Nat → Option Nat) (d : bg) : bJ f d.obj = some d.obj := by simp only [bg.obj, go_sem]
@[go_sem] theorem IT (k : Nat) (d : bg) (r : ab) : bj k (d.obj :: r) = bj k r := by simp only [bg.obj, go_sem]
def bg.one(d:bg)(n:Int):Bool×bg:=(decide ((d.next n).1=n-1),(d.next n).2)
def bg.of(d:bg)(l:List Int):Int×bg:=(nth l (d.next l.length).1.toNat,(d.next l.length).2)
structure Place where
 h:Int
 surf:Bool
instance : Dat Place := ⟨⟨0, false⟩⟩
abbrev Place.e(p:Place):T:= .agg [tI p.h,.bool p.surf]
structure Road where
 frm:Int
 to:Int
 len:Int
 area:Int
 walk:Bool
 closed:Bool
 restL:Int
 restH:Int
 liftL:Int
 liftH:Int
instance : Dat Road := ⟨⟨0, 0, 0, 0, false, false, 0, 0, 0, 0⟩⟩
abbrev Road.e(r:Road):T:= .agg [tI r.frm,tI r.to,tI r.len,tI r.area,.bool r.walk,.bool r.closed,tI r.restL,tI r.restH,tI r.liftL,tI r.liftH]
structure sk where
 places:List Place
 roads:List Road
instance : Dat sk := ⟨⟨[], []⟩⟩
abbrev sk.e(m:sk):T:= .agg [.sl (m.places.map Place.e),.sl (m.roads.map Road.e)]
structure Road.ok(n:Nat)(r:Road):Prop where
 f0:0≤r.frm
 f1:r.frm<n
 t0:0≤r.to
 t1:r.to<n
 ne:r.frm≠r.to
 l0:1≤r.len
 l1:r.len≤100000
 a0:1≤r.area
 a1:r.area≤1000
 r0:1≤r.restL
 r1:r.restL≤r.restH
 r2:r.restH≤262144
 i0: -2199023255552≤r.liftL
 i1:r.liftL≤r.liftH
 i2:r.liftH≤2199023255552
structure sk.ok(m:sk):Prop where
 np:m.places.length≤64
 nr:m.roads.length≤128
 hs:∀p∈m.places, -10000≤p.h∧p.h≤10000
 rs:∀r∈m.roads,r.ok m.places.length
theorem yV(a b:List Int)(hl:a.length≤4294967296):cY 0 N.aJ [.t (tL a),.t (tL b)] []=some (B (decide (a=b)),[]):=by
 refine bU K.cP rfl ?_
 by_cases hlen:a.length=b.length
 · have loop:∀c:D,exS cY K.dN ⟨[.t (tL a),.t (tL b),c,I 0],[]⟩=
    some (match (List.range a.length).find? (fun j=>decide (nth a j≠nth b j))with
     | some j=>(.ret,⟨[.t (tL a),.t (tL b),B false,I j],[]⟩)
     | none=>(.exit 0,⟨[.t (tL a),.t (tL b),.und,I a.length],[]⟩)):=by
    intro c
    refine ko (fun j=>⟨[.t (tL a),.t (tL b),.und,I j],[]⟩) a.length (fun j=>decide (nth a j≠nth b j)) _ _ rfl ?_ ?_ ?_ (by simp)
    · intro j hj hp
      have hp:nth a j=nth b j:=by simpa using hp
      simp (disch:=omega) only[go_sem,K.bH,↓reduceIte]
    · intro j hj hp
      have hp:nth a j≠nth b j:=by simpa using hp
      simp (disch:=omega) only[go_sem,K.bH,↓reduceIte]
      simp
    · simp (disch:=omega) only[go_sem,K.bH,↓reduceIte]
   have e:(a=b)↔(List.range a.length).find? (fun j=>decide (nth a j≠nth b j))=none:=by
    rw[List.find?_eq_none]
    constructor
    · intro h j _;simp[h]
    · intro h
      apply List.ext_getElem?
      intro j
      by_cases hj:j<a.length
      · rw[iT hj,iT (by omega)]
        have:=h j (List.mem_range.2 hj)
        simpa using this
      · rw[List.getElem?_eq_none (by omega),List.getElem?_eq_none (by omega)]
   simp (disch:=omega) only[go_sem,K.aJ,↓reduceIte,loop]
   cases hf:(List.range a.length).find? (fun j=>decide (nth a j≠nth b j))with
   | some j=>rw[hf]at e;simp (disch:=omega) only[go_sem,↓reduceIte,e];simp
   | none=>rw[hf]at e;simp (disch:=omega) only[go_sem,↓reduceIte,e]
 · have hne:a≠b:=fun h=>hlen (by rw[h])
   simp (disch:=omega) only[go_sem,K.aJ,↓reduceIte,hne]
theorem yW(x lo hi:Int):cY 0 N.bC [I x,I lo,I hi] []=some (B (decide (lo≤x∧x≤hi)),[]):=by
 refine bU K.hT rfl ?_
 by_cases h1:lo≤x<;>by_cases h2:x≤hi<;>simp (disch:=omega) only[go_sem,K.bC,↓reduceIte]
def FM(into:Option (List Int)):D:=match into with
 | none=> .nil
 | some l=> .t (tL l)
def Road.src(r:Road)(back:Bool):Int:=if back then r.to else r.frm
def Road.dst(r:Road)(back:Bool):Int:=if back then r.frm else r.to
theorem Road.nJ{n:Nat}{r:Road}(h:r.ok n)(back:Bool):0≤r.src back∧r.src back<n:=by
 unfold Road.src;have:=h.f0;have:=h.f1;have:=h.t0;have:=h.t1;cases back<;>simp<;>omega
section
variable {m : sk} (h : m.ok) {t : Int} {into : Option (List Int)}
include h
end
section
variable {m : sk} (h : m.ok) {t : Int} {into : Option (List Int)}
include h
end
end Go.Ev
namespace Go.Ev
open Go
variable [Lib] [dM] [dO]
@[go_sem] theorem FN (k n : Nat) (into : Option (List Int)) : old k n (FM into) = true := by
 cases into<;>simp only[FM,go_sem]
structure Wh where
 time:Int
 frm:List Int
instance : Dat Wh := ⟨⟨0, []⟩⟩
abbrev Wh.e(w:Wh):T:= .agg [tI w.time,tL w.frm]
def inT(t:Int):Prop:=0≤t∧t≤2147483648
instance (t : Int) : Decidable (inT t) := by unfold inT; infer_instance
def plT(x:Int):Prop:=x=1099511627776∨inT x
instance (t : Int) : Decidable (plT t) := by unfold plT; infer_instance
def FO(n:Nat):List Int:=List.replicate n 1099511627776
@[simp] theorem Ck (n : Nat) : (FO n).length = n := List.length_replicate
structure Spn where
 low:Int
 high:Int
instance : Dat Spn := ⟨⟨0, 0⟩⟩
abbrev Spn.e(f:Spn):T:= .agg [tI f.low,tI f.high]
def Spn.ok(f:Spn):Prop:= -1125899906842624≤f.low∧f.high≤1125899906842624∧f.low≤f.high
instance (f : Spn) : Decidable f.ok := by unfold Spn.ok; infer_instance
section
variable {m : sk} (h : m.ok) {fl : List Spn}
include h
end
end Go.Ev
namespace Go.Ev
open Go
variable [Lib] [dM] [dO]
def plS(t x:Int):Prop:=x=1099511627776∨(t≤x∧x≤2147483648)
instance (t x : Int) : Decidable (plS t x) := by unfold plS; infer_instance
def FP(l:List Int)(t:Int)(n:Nat):List Int:=(List.range n).map fun(p:Nat)=>if(p:Int)∈l then t else 1099511627776
@[simp] theorem FQ (l : List Int) (t : Int) (n : Nat) : (FP l t n).length = n := by simp [FP]
structure World where
 tags:List Int
 whr:List Wh
instance : Dat World := ⟨⟨[], []⟩⟩
abbrev World.e(x:World):T:= .agg [tL x.tags,.sl (x.whr.map Wh.e)]
structure Bel where
 worlds:List World
instance : Dat Bel := ⟨⟨[]⟩⟩
abbrev Bel.e(b:Bel):T:= .agg [.sl (b.worlds.map World.e)]
def World.sz(x:World):Prop:=x.tags.length≤1000000∧x.whr.length≤1000000∧∀w∈x.whr,w.frm.length≤1000000
def Bel.sz(b:Bel):Prop:=b.worlds.length≤1000000∧∀x∈b.worlds,x.sz
@[go_sem] theorem yX (l : List Wh) : aD 2 (l.map Wh.e) = true := cJ 2 _ (fun _ => rfl) l
@[go_sem] theorem sn (l : List World) : aD 2 (l.map World.e) = true := cJ 2 _ (fun _ => rfl) l
@[go_sem] theorem IU (l : List Wh) : dz 2 (l.map Wh.e) = true := by cases l <;> rfl
@[go_sem] theorem yY (l : List World) : dz 2 (l.map World.e) = true := by cases l <;> rfl
end Go.Ev
namespace Go.Ev.N
def q6:Nat:=78
def pP:Nat:=79
def pe:Nat:=80
def yZ:Nat:=81
def so:Nat:=82
def y0:Nat:=83
def y1:Nat:=84
def y2:Nat:=85
def Cl:Nat:=86
def vF:Nat:=87
def y3:Nat:=88
def vG:Nat:=89
def vH:Nat:=90
def Cm:Nat:=91
def vI:Nat:=92
def Cn:Nat:=93
def FR:Nat:=94
def FT:Nat:=95
def y4:Nat:=96
def Co:Nat:=97
def y5:Nat:=98
def y6:Nat:=99
def y7:Nat:=100
def Cp:Nat:=101
def FU:Nat:=102
def my:Nat:=103
def tW:Nat:=104
def a6:Nat:=105
def vJ:Nat:=106
def Cq:Nat:=107
def Cr:Nat:=108
def y8:Nat:=109
def Cs:Nat:=110
def Ct:Nat:=111
def y9:Nat:=112
def za:Nat:=113
def Cu:Nat:=114
def vK:Nat:=115
def Cv:Nat:=116
def Cw:Nat:=117
def vL:Nat:=118
def vM:Nat:=119
def tX:Nat:=120
def tY:Nat:=121
def ov:Nat:=122
end Go.Ev.N
namespace Go.Ev.K
open Go.Ev
end Go.Ev.K
namespace Go.Ev
class pQ [Lib]:Prop where
namespace K
variable [Lib] [pQ]
end K
end Go.Ev
namespace Go.Ev.K
open Go.Ev
def aW:C:=(.its [u (.bin .lss v8 v7)] [] 0 .skip (.exit 0) (.seq (.blk 1 (.seq (.reg [m v8,a 1 v6 v8,g l0,w 4 (.mv l2),w 5 (.mv l1)] []) (.ite [m v5,m v1,u (.bin .lss l1 l0),m l0,y 0 false (.mv v5),y 1 false (.mv v2),y 2 false (.bin .gtr l1 l0),u (.pk l3 (.b true) l0),m l0,y 0 false (.mv v4),y 1 false (.bin .gtr l0 (.i 0)),y 2 false (.mv l0),y 0 true (.mv v5),y 1 true (.mv v0),y 2 true (.mv v4),y 3 true (.bin .sub l0 (.i 1)),y 4 true (.ia l2 l0 1),y 5 true (.ld l0 1 false),y 6 true (.bin .leq l5 l0),y 10 false (.pk l7 l0 (.b false)),u (.pk l11 (.b true) l0)] [] 0 (.seq (.reg [w 3 (.mv (.b false))] []) .ret) .skip))) (.reg [u (.bin .add v8 (.i 1)),w 8 (.mv l0)] [])))
def eL:C:= .loop true [3,4,5] K.aW
def a6:Fn:={ nargs:=3,vars:=[0,1,2,6,7,8,9,10,11],body:=(.seq (.reg [w 3 (.mv (.b false))] []) (.seq (.seq (.reg [w 6 (.mv v0),w 7 (.ln l0),w 8 (.mv (.i 0))] []) (.blk 0 K.eL)) (.seq (.reg [w 3 (.mv (.b true))] []) .ret))),res:=[(3,none)]}
end Go.Ev.K
namespace Go.Ev
class pf [Lib]:Prop where
 dA:Lib.fs N.a6=some K.a6
namespace K
variable [Lib] [pf]
theorem dA:Lib.fs N.a6=some K.a6:=pf.dA
end K
end Go.Ev
namespace Go.Ev
open Go
variable [Lib] [dM] [dO] [pQ] [pf]
def q7(l:List Int)(lo hi:Int)(j:Nat):Bool:= !decide (lo≤nth l j∧nth l j≤hi∧(0<j→nth l (j-1)<nth l j))
def q8(l:List Int)(lo hi:Int):Bool:= !((List.range l.length).any (q7 l lo hi))
theorem q9(l:List Int)(lo hi:Int)(hl:l.length≤4294967296):cY 0 N.a6 [.t (tL l),I lo,I hi] []=some (B (q8 l lo hi),[]):=by
 refine bU K.dA rfl ?_
 have loop:∀a b c:D,exS cY K.eL ⟨[.t (tL l),I lo,I hi,a,b,c,.t (tL l),I l.length,I 0],[]⟩=
  some (if(List.range l.length).any (q7 l lo hi)=true
   then(.ret,⟨[.t (tL l),I lo,I hi,B false,I (lZ l.length (q7 l lo hi)),I (nth l (lZ l.length (q7 l lo hi))),.t (tL l),I l.length,I (lZ l.length (q7 l lo hi))],[]⟩)
   else(.exit 0,⟨[.t (tL l),I lo,I hi,.und,.und,.und,.t (tL l),I l.length,I l.length],[]⟩)):=by
  intro a b c
  refine q0 (fun j=>⟨[.t (tL l),I lo,I hi,.und,.und,.und,.t (tL l),I l.length,I j],[]⟩) l.length (q7 l lo hi) (fun j=>(.ret,⟨[.t (tL l),I lo,I hi,B false,I j,I (nth l j),.t (tL l),I l.length,I j],[]⟩)) _ rfl ?_ ?_ ?_ (by simp)
  · intro j hj hp
    simp only[q7,Bool.not_eq_false',decide_eq_true_eq]at hp
    obtain⟨h1,h2,h3⟩:=hp
    cases j with
    | zero=>simp (disch:=omega) only[go_sem,K.aW,↓reduceIte]
    | succ j=>
      have h3:=h3 (by omega)
      rw[Nat.add_sub_cancel]at h3
      simp (disch:=omega) only[go_sem,K.aW,↓reduceIte]
  · intro j hj hp
    simp only[q7,Bool.not_eq_true',decide_eq_false_iff_not]at hp
    refine⟨?_,by simp⟩
    by_cases h1:lo≤nth l j
    · by_cases h2:nth l j≤hi
      · cases j with
        | zero=>exact absurd ⟨h1,h2,fun h=>absurd h (by omega)⟩ hp
        | succ j=>
          have h3:¬nth l j<nth l (j+1):=fun h=>hp ⟨h1,h2,fun _=>by simpa using h⟩
          simp (disch:=omega) only[go_sem,K.aW,↓reduceIte]
      · simp (disch:=omega) only[go_sem,K.aW,↓reduceIte]
    · simp (disch:=omega) only[go_sem,K.aW,↓reduceIte]
  · simp (disch:=omega) only[go_sem,K.aW,↓reduceIte]
 unfold q8
 simp (disch:=omega) only[go_sem,K.a6,↓reduceIte,loop]
 cases hf:(List.range l.length).any (q7 l lo hi)with
 | true=>simp (disch:=omega) only[go_sem,↓reduceIte]
 | false=>simp (disch:=omega) only[go_sem,↓reduceIte,Bool.false_eq_true]
structure MT where
 st:Int
 fi:Int
 se:Int
 ti:Int
abbrev MT.e(s:MT):T:= .agg [tI s.st,tI s.fi,tI s.se,tI s.ti]
structure FV where
 area:List Int
 hold:Int
 mis:Int
abbrev FV.e(x:FV):T:= .agg [tL x.area,tI x.hold,tI x.mis]
structure Keys where
 roads:List Int
 keys:List Int
 out:Bool
abbrev Keys.e(k:Keys):T:= .agg [tL k.roads,tL k.keys,.bool k.out]
end Go.Ev
namespace Go.Ev
open Go
section
variable (H : ab) (sz id ep n lo hi : Nat) (i j : Int) (fz : Bool)
def scO(r:D):Option Obj→Option (D×ab)
 | some (.arr sz' _ ep' es)=>if ep=ep'∧n=es.length then(if sz'=sz then some (r,H)else none)else none
 | _=>none
@[go_sem] theorem LI (r : D) (sz' : Nat) (pin : Bool) (es : List D) : scO H sz ep n r (some (.arr sz' pin ep es)) = if n = es.length then (if sz' = sz then some (r, H) else none) else none := by simp [scO]
theorem scR{l h:Nat}:((bA H id ep n).bind fun a=>if l≤h∧h≤n∧a.1=sz then some (D.sub id ep n l h)else none).map (fun d=>(d,H))=if l≤h then(if h≤n then scO H sz ep n (.sub id ep n l h) H[id]? else none)else none:=by
 simp only[bA]
 generalize H[id]?=o
 by_cases h1:l≤h
 · by_cases h2:h≤n
   · rw[if_pos h1,if_pos h2]
     rcases o with _ | (_ | ⟨sz',pin,ep',es⟩)
     · rfl
     · rfl
     · simp only[scO]
       by_cases h3:ep=ep'∧n=es.length
       · rw[if_pos h3,if_pos h3,Option.bind_some]
         by_cases h4:sz'=sz
         · rw[if_pos h4,if_pos ⟨h1,h2,h4⟩];rfl
         · rw[if_neg h4,if_neg fun h=>h4 h.2.2];rfl
       · rw[if_neg h3,if_neg h3];rfl
   · rw[if_pos h1,if_neg h2]
     rcases o with _ | (_ | ⟨sz',pin,ep',es⟩)
     · rfl
     · rfl
     · by_cases h3:ep=ep'∧n=es.length
       · simp only[if_pos h3,Option.bind_some];rw[if_neg fun h=>h2 h.2.1];rfl
       · simp only[if_neg h3];rfl
 · rw[if_neg h1]
   rcases o with _ | (_ | ⟨sz',pin,ep',es⟩)
   · rfl
   · rfl
   · by_cases h3:ep=ep'∧n=es.length
     · simp only[if_pos h3,Option.bind_some];rw[if_neg fun h=>h1 h.1];rfl
     · simp only[if_neg h3];rfl
@[go_sem] theorem zb : lU H sz (some (.ref id ep n)) (some none) (some (some i)) = if 0 ≤ i then (if i ≤ n then scO H sz ep n (.sub id ep n 0 i.toNat) H[id]? else none) else none := by
 simp only[lU,Option.bind_some,dq,bound,idx]
 by_cases h1:0≤i
 · rw[if_pos h1,if_pos h1,Option.bind_some,scR,if_pos (Nat.zero_le _)]
   by_cases h2:i≤n
   · rw[if_pos h2,if_pos (by omega)]
   · rw[if_neg h2,if_neg (by omega)]
 · rw[if_neg h1,if_neg h1];rfl
@[go_sem] theorem zc : lU H sz (some (.ref id ep n)) (some (some i)) (some none) = if 0 ≤ i then (if i ≤ n then scO H sz ep n (.sub id ep n i.toNat n) H[id]? else none) else none := by
 simp only[lU,Option.bind_some,dq,bound,idx]
 by_cases h1:0≤i
 · rw[if_pos h1,if_pos h1,Option.bind_some,scR]
   by_cases h2:i≤n
   · rw[if_pos h2,if_pos (by omega),if_pos (by omega)]
   · rw[if_neg h2,if_neg (by omega)]
 · rw[if_neg h1,if_neg h1];rfl
@[go_sem] theorem tZ : lU H sz (some (.ref id ep n)) (some (some i)) (some (some j)) = if 0 ≤ i then (if i ≤ j then (if j ≤ n then scO H sz ep n (.sub id ep n i.toNat j.toNat) H[id]? else none) else none) else none := by
 simp only[lU,Option.bind_some,dq,bound,idx]
 by_cases h1:0≤i
 · rw[if_pos h1,if_pos h1,Option.bind_some]
   by_cases h0:i≤j
   · rw[if_pos h0,if_pos (by omega),Option.bind_some,scR,if_pos (by omega)]
     by_cases h2:j≤n
     · rw[if_pos h2,if_pos (by omega)]
     · rw[if_neg h2,if_neg (by omega)]
   · rw[if_neg h0]
     by_cases h2:0≤j
     · rw[if_pos h2,Option.bind_some,scR,if_neg (by omega)]
     · rw[if_neg h2];rfl
 · rw[if_neg h1,if_neg h1];rfl
@[go_sem] theorem zd : lU H sz (some .nil) (some none) (some (some i)) = if i = 0 then some (.nil, H) else none := by
 simp only[lU,Option.bind_some,dq,bound,idx]
 by_cases h1:0≤i
 · rw[if_pos h1,Option.bind_some]
   by_cases h2:i=0
   · rw[if_pos h2,if_pos (by omega)];rfl
   · rw[if_neg h2,if_neg (by omega)];rfl
 · rw[if_neg h1,if_neg (by omega)];rfl
@[go_sem] theorem ze : lU H sz (some .nil) (some (some i)) (some none) = if i = 0 then some (.nil, H) else none := by
 simp only[lU,Option.bind_some,dq,bound,idx]
 by_cases h1:0≤i
 · rw[if_pos h1,Option.bind_some]
   by_cases h2:i=0
   · rw[if_pos h2,if_pos (by omega)];rfl
   · rw[if_neg h2,if_neg (by omega)];rfl
 · rw[if_neg h1,if_neg (by omega)];rfl
def ow(x:D)(ys:List D):Option (D×ab):=if aK sz ys=true then(match x with
 | .nil=>if ys.length≤4294967296 then some (.ref H.length 0 ys.length,H++[.arr sz false 0 ys])else none
 | .ref id ep n=>iz H sz id ep n ys H[id]?
 | _=>none)else none
@[go_sem] theorem IV (ys : List D) : ow H sz .nil ys = if aK sz ys = true then (if ys.length ≤ 4294967296 then some (.ref H.length 0 ys.length, H ++ [.arr sz false 0 ys]) else none) else none := (rfl)
@[go_sem] theorem IW (ys : List D) : ow H sz (.ref id ep n) ys = if aK sz ys = true then iz H sz id ep n ys H[id]? else none := (rfl)
@[go_sem] theorem vN : aK sz [] = true := (rfl)
@[go_sem] theorem ua (d : D) (r : List D) : aK sz (d :: r) = dy sz d.cells := by
 rw[Bool.eq_iff_iff,bl];simp[aK]
def FW(x:D):Option Obj→Option (D×ab)
 | some (.arr _ _ ep' es)=>if ep=ep'∧n=es.length then ow H sz x ((es.drop lo).take (hi-lo))else none
 | _=>none
def FX(x:D):Option Obj→Option (D×ab)
 | some (.arr _ _ ep' es)=>if ep=ep'∧n=es.length then ow H sz x es else none
 | _=>none
@[go_sem] theorem IX (x : D) (sz' : Nat) (pin : Bool) (es : List D) : FW H sz ep n lo hi x (some (.arr sz' pin ep es)) = if n = es.length then ow H sz x ((es.drop lo).take (hi - lo)) else none := by simp [FW]
@[go_sem] theorem IY (x : D) (sz' : Nat) (pin : Bool) (es : List D) : FX H sz ep n x (some (.arr sz' pin ep es)) = if n = es.length then ow H sz x es else none := by simp [FX]
theorem rf(x:D)(ys:List D):(if aK sz ys=true then(match x with
 | .nil=>if ys.length≤lim then some (D.ref H.length 0 ys.length,H++[.arr sz false 0 ys])else none
 | .ref id ep n=>(bA H id ep n).bind fun a=>if a.1=sz∧n+ys.length≤lim then some (.ref id ep (n+ys.length),H.set id (.arr sz a.2.1 ep (a.2.2++ys)))else none
 | _=>none)else none)=ow H sz x ys:=by
 unfold ow
 split
 · cases x with
   | ref id ep n=>
     simp only[bA]
     generalize H[id]?=o
     rcases o with _ | (_ | ⟨sz',pin,ep',es⟩)
     · rfl
     · rfl
     · simp only[iz]
       by_cases h1:ep=ep'∧n=es.length
       · rw[if_pos h1,Option.bind_some]
         by_cases h2:sz'=sz∧n+ys.length≤lim
         · rw[if_pos h2,if_pos ⟨h1.1,h1.2,h2⟩]
         · rw[if_neg h2,if_neg fun h=>h2 h.2.2]
       · rw[if_neg h1,if_neg fun h=>h1 ⟨h.1,h.2.1⟩];rfl
   | _=>rfl
 · rfl
theorem hU(x y:D)(ys:List D)(h:elems H y=some ys):ee H sz false (some x) (some y)=ow H sz x ys:=by
 simp only[ee,Option.bind_some,c8,h,Bool.false_eq_true,if_false]
 exact rf H sz x ys
@[go_sem] theorem sq (x : D) : ee H sz false (some x) (some .nil) = ow H sz x [] := hU H sz x .nil [] rfl
@[go_sem] theorem ss (x : D) : ee H sz false (some x) (some (.ref id ep n)) = FX H sz ep n x H[id]? := by
 cases he:elems H (.ref id ep n)with
 | some ys=>
   rw[hU H sz x _ ys he]
   simp only[elems,bA]at he
   generalize H[id]?=o at he
   rcases o with _ | (_ | ⟨sz',pin,ep',es⟩)
   · cases he
   · cases he
   · simp only[FX]
     by_cases h1:ep=ep'∧n=es.length
     · simp only[if_pos h1]at he ⊢;cases he;rfl
     · simp only[if_neg h1]at he;cases he
 | none=>
   have:ee H sz false (some x) (some (.ref id ep n))=none:=by simp only[ee,Option.bind_some,c8,he];rfl
   rw[this]
   simp only[elems,bA]at he
   generalize H[id]?=o at he
   rcases o with _ | (_ | ⟨sz',pin,ep',es⟩)
   · rfl
   · rfl
   · simp only[FX]
     by_cases h1:ep=ep'∧n=es.length
     · simp only[if_pos h1]at he;cases he
     · simp only[if_neg h1]
@[go_sem] theorem su (x : D) : ee H sz false (some x) (some (.sub id ep n lo hi)) = FW H sz ep n lo hi x H[id]? := by
 cases he:elems H (.sub id ep n lo hi)with
 | some ys=>
   rw[hU H sz x _ ys he]
   simp only[elems,bA]at he
   generalize H[id]?=o at he
   rcases o with _ | (_ | ⟨sz',pin,ep',es⟩)
   · cases he
   · cases he
   · simp only[FW]
     by_cases h1:ep=ep'∧n=es.length
     · simp only[if_pos h1]at he ⊢;cases he;rfl
     · simp only[if_neg h1]at he;cases he
 | none=>
   have:ee H sz false (some x) (some (.sub id ep n lo hi))=none:=by simp only[ee,Option.bind_some,c8,he];rfl
   rw[this]
   simp only[elems,bA]at he
   generalize H[id]?=o at he
   rcases o with _ | (_ | ⟨sz',pin,ep',es⟩)
   · rfl
   · rfl
   · simp only[FW]
     by_cases h1:ep=ep'∧n=es.length
     · simp only[if_pos h1]at he;cases he
     · simp only[if_neg h1]
def Cx(ep n lo hi:Nat):Option Obj→Option (List D)
 | some (.arr _ _ ep' es)=>if ep=ep'∧n=es.length then some ((es.drop lo).take (hi-lo))else none
 | _=>none
def IZ(x:D):Option (List D)→Option (D×ab)
 | some ys0=>(aI (fun d=>(frz H depth d).map .t) ys0).bind fun ys=>if aK sz ys then ow (pins H (ys0.flatMap (bF H depth))) sz x ys else none
 | none=>none
@[go_sem] theorem MU (x : D) (ts : List T) : IZ H sz x (some (ts.map .t)) = ow H sz x (ts.map .t) := by
 simp only[IZ,gy,Option.bind_some,qO,pins]
 by_cases h:aK sz (ts.map D.t)=true
 · rw[if_pos h]
 · rw[if_neg h];unfold ow;rw[if_neg h]
@[go_sem] theorem uc (x : D) : ee H sz true (some x) (some (.sub id ep n lo hi)) = IZ H sz x (Cx ep n lo hi H[id]?) := by
 have e:elems H (.sub id ep n lo hi)=Cx ep n lo hi H[id]?:=by
  simp only[elems,bA]
  generalize H[id]?=o
  rcases o with _ | (_ | ⟨sz',pin,ep',es⟩)
  · rfl
  · rfl
  · simp only[Cx]
    by_cases h1:ep=ep'∧n=es.length
    · simp only[if_pos h1];rfl
    · simp only[if_neg h1];rfl
 simp only[ee,Option.bind_some,c8,e]
 cases Cx ep n lo hi H[id]? with
 | none=>rfl
 | some ys0=>
   simp only[Option.bind_some,IZ,if_true]
   cases hm:aI (fun d=>(frz H depth d).map D.t) ys0 with
   | none=>rfl
   | some ys=>
     simp only[Option.bind_some]
     refine(rf _ _ _ _).trans ?_
     by_cases h:aK sz ys=true
     · rw[if_pos h]
     · rw[if_neg h];unfold ow;rw[if_neg h]
@[go_sem] theorem I0 (ep n lo hi sz : Nat) (pin : Bool) (ts : List T) : Cx ep n lo hi (some (.arr sz pin ep (ts.map .t))) = if n = ts.length then some (((ts.drop lo).take (hi - lo)).map .t) else none := by
 simp only[Cx,true_and,List.length_map,List.map_take,List.map_drop]
def rh(ds:List D):Option (D×ab):=if ds.all (fun d=>d.cells.length==sz&&d.bN)then some (.ref H.length 0 ds.length,H++[.arr sz false 0 ds])else none
@[go_sem] theorem MV (call : ag) (get : X → Option D) (xs : List X) : evO call get H (.bsr xs sz) = (aI get xs).bind (rh H sz) := (rfl)
@[go_sem] theorem FY : rh H sz [] = some (.ref H.length 0 0, H ++ [.arr sz false 0 []]) := (rfl)
@[go_sem] theorem FZ (k : IntKind) (n : Int) : rh H 1 [.t (.int k n)] = some (.ref H.length 0 1, H ++ [.arr 1 false 0 [.t (.int k n)]]) := (rfl)
@[go_sem] theorem F3 (cs : List D) : rh H sz [.agg cs] = if dy sz cs = true then some (.ref H.length 0 1, H ++ [.arr sz false 0 [.agg cs]]) else none := by
 simp only[rh,List.all_cons,List.all_nil,Bool.and_true,D.cells,D.bN]
 by_cases h:dy sz cs=true
 · rw[if_pos h,if_pos (by simpa using bl.1 h)];rfl
 · rw[if_neg h,if_neg (by intro e;exact h (bl.2 (by simpa using e)))]
end
@[go_sem] theorem vO : (1 : Int).toNat = 1 := (rfl)
@[go_sem] theorem zf : (2 : Int).toNat = 2 := (rfl)
@[go_sem] theorem ud : (3 : Int).toNat = 3 := (rfl)
section
variable {H t : ab} {i j k : Nat} {o o' : Obj}
end
end Go.Ev
namespace Go.Ev.N
def rj:Nat:=123
def pR:Nat:=124
def sw:Nat:=125
def rk:Nat:=126
def zg:Nat:=127
def zh:Nat:=128
def zi:Nat:=129
def Cy:Nat:=130
def Cz:Nat:=131
def zj:Nat:=132
def zk:Nat:=133
def ue:Nat:=134
def uf:Nat:=135
def CA:Nat:=136
def zl:Nat:=137
def ug:Nat:=138
def vP:Nat:=139
def sy:Nat:=140
def vQ:Nat:=141
def uh:Nat:=142
def rn:Nat:=143
def rp:Nat:=144
def rq:Nat:=145
def vR:Nat:=146
def vS:Nat:=147
def pg:Nat:=148
end Go.Ev.N
namespace Go.Ev.N
def ox:Nat:=149
def rr:Nat:=150
def ru:Nat:=151
def pS:Nat:=152
def zm:Nat:=153
def zn:Nat:=154
def vT:Nat:=155
def vU:Nat:=156
def zo:Nat:=157
def CB:Nat:=158
def zp:Nat:=159
def aA:Nat:=160
def oy:Nat:=161
def zq:Nat:=162
def CC:Nat:=163
def vV:Nat:=164
def CD:Nat:=165
def vW:Nat:=166
def CE:Nat:=167
def fk:Nat:=168
def ui:Nat:=169
def bm:Nat:=170
def ph:Nat:=171
def uj:Nat:=172
def CF:Nat:=173
def fS:Nat:=174
def rv:Nat:=175
def aS:Nat:=176
def zr:Nat:=177
end Go.Ev.N
namespace Go.Ev.K
open Go.Ev
def dB:C:=(.seq (.ite [m v6,m v5,u (.ln l0),u (.bin .lss l2 l0)] [] 0 .skip (.exit 0)) (.blk 1 (.reg [m v6,m v5,m v6,u (.sc l1 (some l0) none 1),m v5,m v6,u (.sc l1 none (some l0) 1),u (.cp l3 l0 1),u (.bin .add l7 l0),w 6 (.mv l0)] [])))
def dP:C:= .loop true [0,1,2,3,4] K.dB
def aA:Fn:={ nargs:=2,vars:=[0,1,4,5,6,7,8],body:=(.seq (.reg [w 2 (.mv (.c (.nil)))] []) (.seq (.ite [m v1,u (.bin .lss l0 (.i 0))] [] 0 .fail .skip) (.seq (.reg [m v0,u (.ln l0),u (.cv .u64 l0),m v1,u (.cv .u64 l0),u (.ca N.bm 0 [] [.l 2,.l 0]),m l0,u (.ex l0 0),u (.ex l1 1),w 3 (.mv l1),w 4 (.mv l1)] []) (.seq (.ite [m v3,u (.bin .gtr l0 (.c (.t (.int .u64 (0))))),m l0,y 0 false (.mv v4),y 1 false (.bin .gtr l0 (.c (.t (.int .u64 (9223372036854775807))))),u (.pk l2 (.b true) l0)] [] 0 .fail .skip) (.seq (.reg [m v4,u (.cv .i64 l0),u (.mk l0 (.t (.int .i64 (0))) 1),w 5 (.mv l0)] []) (.seq (.reg [m v5,m v0,u (.cp l1 l0 1),w 6 (.mv l0)] []) (.seq (.blk 0 K.dP) (.seq (.reg [m v5,w 2 (.mv l0)] []) .ret)))))))),res:=[(2,none)]}
def bm:Fn:={ nargs:=2,vars:=[0,1,4,5,8,9],body:=(.seq (.reg [w 2 (.mv (.c (.t (.int .u64 (0))))),w 3 (.mv (.c (.t (.int .u64 (0)))))] []) (.seq (.cnd false .skip) (.seq (.reg [m v0,m v1,u (.ca N.aS 0 [] [.l 1,.l 0]),m l0,u (.ex l0 0),u (.ex l1 1),w 4 (.mv l1),w 5 (.mv l1)] []) (.seq (.reg [m v4,m v5,w 2 (.mv l1),w 3 (.mv l1)] []) .ret)))),res:=[(2,none),(3,none)]}
end Go.Ev.K
namespace Go.Ev
class mz [Lib]:Prop where
 cm:Lib.fs N.aA=some K.aA
 eM:Lib.fs N.bm=some K.bm
namespace K
variable [Lib] [mz]
theorem cm:Lib.fs N.aA=some K.aA:=mz.cm
theorem eM:Lib.fs N.bm=some K.bm:=mz.eM
end K
end Go.Ev
namespace Go.Ev.K
open Go.Ev
def aS:Fn:={ nargs:=2,vars:=[0,1,4,5,6,7,8,9,10,11,12,13],body:=(.seq (.reg [w 2 (.mv (.c (.t (.int .u64 (0))))),w 3 (.mv (.c (.t (.int .u64 (0)))))] []) (.seq (.reg [m v0,u (.bin .and l0 (.c (.t (.int .u64 (4294967295))))),w 4 (.mv l0)] []) (.seq (.reg [m v0,u (.bin .shr l0 (.c (.t (.int .u64 (32))))),w 5 (.mv l0)] []) (.seq (.reg [m v1,u (.bin .and l0 (.c (.t (.int .u64 (4294967295))))),w 6 (.mv l0)] []) (.seq (.reg [m v1,u (.bin .shr l0 (.c (.t (.int .u64 (32))))),w 7 (.mv l0)] []) (.seq (.reg [m v4,m v6,u (.bin .mul l1 l0),w 8 (.mv l0)] []) (.seq (.reg [m v5,m v6,u (.bin .mul l1 l0),m v8,u (.bin .shr l0 (.c (.t (.int .u64 (32))))),u (.bin .add l2 l0),w 9 (.mv l0)] []) (.seq (.reg [m v9,u (.bin .and l0 (.c (.t (.int .u64 (4294967295))))),w 10 (.mv l0)] []) (.seq (.reg [m v9,u (.bin .shr l0 (.c (.t (.int .u64 (32))))),w 11 (.mv l0)] []) (.seq (.reg [m v10,m v4,m v7,u (.bin .mul l1 l0),u (.bin .add l3 l0),w 10 (.mv l0)] []) (.seq (.reg [m v5,m v7,u (.bin .mul l1 l0),m v11,u (.bin .add l1 l0),m v10,u (.bin .shr l0 (.c (.t (.int .u64 (32))))),u (.bin .add l2 l0),w 2 (.mv l0)] []) (.seq (.reg [m v0,m v1,u (.bin .mul l1 l0),w 3 (.mv l0)] []) .ret)))))))))))),res:=[(2,none),(3,none)]}
end Go.Ev.K
namespace Go.Ev
class nk [Lib]:Prop where
 dQ:Lib.fs N.aS=some K.aS
namespace K
variable [Lib] [nk]
theorem dQ:Lib.fs N.aS=some K.aS:=nk.dQ
end K
end Go.Ev
namespace Go.Ev
open Go
variable [Lib] [dM] [dO] [mz] [nk]
section
variable (H : ab) (sz : Nat)
def vX(id ep n lo hi:Nat)(ys:List D):Option Obj→Option (D×ab)
 | some (.arr sz' pin ep' es)=>if ep=ep'∧n=es.length then wD H id ep (sz',pin,es) lo hi ys sz else none
 | _=>none
def cpD(x:D)(ys:List D):Option (D×ab):=if aK sz ys=true then(match x with
 | .ref id ep n=>vX H sz id ep n 0 n ys H[id]?
 | .sub id ep n lo hi=>vX H sz id ep n lo hi ys H[id]?
 | _=>none)else none
def I3(x y:Option D):Option (D×ab):=x.bind fun a=>y.bind fun b=>kv H a b sz
@[go_sem] theorem NR (call : ag) (get : X → Option D) (x y : X) : evO call get H (.cp x y sz) = I3 H sz (get x) (get y) := (rfl)
theorem oz(x y:D)(ys:List D)(h:elems H y=some ys):kv H x y sz=cpD H sz x ys:=by
 unfold kv cpD
 rw[h,Option.bind_some]
 split
 · rename_i hh
   cases x with
   | ref id ep n=>
     simp only[bA,vX]
     cases H[id]? with
     | none=>rfl
     | some o=>
       cases o with
       | box cs=>rfl
       | arr sz' pin ep' es=>
         simp only
         by_cases c:ep=ep'∧n=es.length
         · rw[if_pos c,if_pos c];rfl
         · rw[if_neg c,if_neg c];rfl
   | sub id ep n lo hi=>
     simp only[bA,vX]
     cases H[id]? with
     | none=>rfl
     | some o=>
       cases o with
       | box cs=>rfl
       | arr sz' pin ep' es=>
         simp only
         by_cases c:ep=ep'∧n=es.length
         · rw[if_pos c,if_pos c];rfl
         · rw[if_neg c,if_neg c];rfl
   | _=>rfl
 · rfl
@[go_sem] theorem MW (x : D) (ts : List T) : I3 H sz (some x) (some (.t (.sl ts))) = cpD H sz x (ts.map .t) := oz H sz x (.t (.sl ts)) (ts.map .t) rfl
def cpE(x:D)(ep n lo hi:Nat):Option Obj→Option (D×ab)
 | some (.arr _ _ ep' es)=>if ep=ep'∧n=es.length then cpD H sz x ((es.drop lo).take (hi-lo))else none
 | _=>none
@[go_sem] theorem LJ (x : D) (n lo hi sz' : Nat) (pin : Bool) (ep : Nat) (es : List D) : cpE H sz x ep n lo hi (some (.arr sz' pin ep es)) = if n = es.length then cpD H sz x ((es.drop lo).take (hi - lo)) else none := by simp [cpE]
@[go_sem] theorem I4 (x : D) (id ep n lo hi : Nat) : I3 H sz (some x) (some (.sub id ep n lo hi)) = cpE H sz x ep n lo hi H[id]? := by
 unfold I3
 simp only[Option.bind_some]
 cases h:H[id]? with
 | none=>simp[kv,elems,bA,h,cpE]
 | some o=>
   cases o with
   | box cs=>simp[kv,elems,bA,h,cpE]
   | arr sz' pin ep' es=>
     by_cases c:ep=ep'∧n=es.length
     · rw[oz H sz x _ ((es.drop lo).take (hi-lo)) (by simp[elems,bA,h,c])]
       simp only[cpE,if_pos c]
     · simp[kv,elems,bA,h,cpE,c]
@[go_sem] theorem LK (id ep n : Nat) (ys : List D) : cpD H sz (.ref id ep n) ys = if aK sz ys = true then vX H sz id ep n 0 n ys H[id]? else none := (rfl)
@[go_sem] theorem LL (id ep n lo hi : Nat) (ys : List D) : cpD H sz (.sub id ep n lo hi) ys = if aK sz ys = true then vX H sz id ep n lo hi ys H[id]? else none := (rfl)
@[go_sem] theorem I5 (id n lo hi : Nat) (ys : List D) (ep : Nat) (es : List D) : vX H sz id ep n lo hi ys (some (.arr sz false ep es)) =
 if n=es.length then(if min ys.length (hi-lo)=0 then some (.t (.int .i64 0),H)else some (.t (.int .i64 ((min ys.length (hi-lo):Nat):Int)),H.set id (.arr sz false ep (es.take lo++ys.take (min ys.length (hi-lo))++es.drop (lo+min ys.length (hi-lo))))))else none:=by
 simp[vX,wD]
end
end Go.Ev
namespace Go.Ev
open Go
variable [Lib] [dM] [dO]
@[go_sem] theorem zt (l : List Place) : dz 2 (l.map Place.e) = true := by cases l <;> rfl
@[go_sem] theorem CG (l : List Road) : dz 10 (l.map Road.e) = true := by cases l <;> rfl
@[go_sem] theorem CH (H : ab) (d : bg) : tA H 0 1 false (some d.obj) = some (.t (tL d.L), H) := by simp only [bg.obj, go_sem]
def bg.eO(d:bg):Nat→List Place×bg
 | 0=>([],d)
 | k+1=>if k=0 then((d.eO k).1++[⟨-10*((d.eO k).2.next 4).1,true⟩],((d.eO k).2.next 4).2)
   else((d.eO k).1++[⟨-10*((d.eO k).2.next 4).1,(((d.eO k).2.next 4).2.one 6).1⟩],(((d.eO k).2.next 4).2.one 6).2)
def bg.F4(d:bg)(i:Int):Road×bg:=
 (⟨i-1-(d.next (min i 2)).1,i,1+((d.next (min i 2)).2.of [11,59,119,4]).1,1+(((d.next (min i 2)).2.of [11,59,119,4]).2.of [9,3,19]).1,true,false,1,1,0,0⟩,
   (((d.next (min i 2)).2.of [11,59,119,4]).2.of [9,3,19]).2)
def bg.oA(d:bg):Nat→List Road×bg
 | 0=>([],d)
 | k+1=>((d.oA k).1++[((d.oA k).2.F4 (k+1)).1],((d.oA k).2.F4 (k+1)).2)
def bg.uk(d:bg)(n:Int):Road×bg:=
 let a:=d.next n
 let b:=a.2.next n
 let l:=b.2.of [11,59,199]
 let r:=l.2.of [9,3]
 let w:=r.2.next 5
 let c:=w.2.one 6
 (⟨a.1,b.1,1+l.1,1+r.1,decide (0<w.1),c.1,1,1,0,0⟩,c.2)
def bg.more(n:Int)(l:List Road)(d:bg):Nat→List Road×bg
 | 0=>(l,d)
 | k+1=>if l.length<10 then bg.more n (if(d.uk n).1.frm=(d.uk n).1.to then l else l++[(d.uk n).1]) (d.uk n).2 k else(l,d)
def bg.zu(d:bg):Nat:=if d.L.length=0 then 4 else(2+(d.next 6).1).toNat
def bg.F5(d:bg):List Place×bg:=(d.next 6).2.eO d.zu
def bg.zv(d:bg):List Road×bg:=d.F5.2.oA (d.zu-1)
def bg.F6(d:bg):List Road×bg:=bg.more d.zu d.zv.1 (d.zv.2.next 4).2 (d.zv.2.next 4).1.toNat
def bg.NU(d:bg):sk×bg:=(⟨d.F5.1,d.F6.1⟩,d.F6.2)
@[go_sem] theorem F7 (l : List Spn) : dz 2 (l.map Spn.e) = true := by cases l <;> rfl
@[go_sem] theorem LM (l : List Spn) (k : Nat) (a b : Int) : (List.map D.t (List.map Spn.e l)).set k (D.t (T.agg [tI a, tI b])) = List.map D.t (List.map Spn.e (l.set k ⟨a, b⟩)) := by
 rw[List.map_set,List.map_set]
@[go_sem] theorem MX (H : ab) (sz : Nat) (a b c d e f : T) : km H sz [.t a, .t b, .t c, .t d, .t e, .t f] = if aD sz [a, b, c, d, e, f] = true then some (.t (.sl [a, b, c, d, e, f]), H) else none := eI H sz [a, b, c, d, e, f]
@[go_sem] theorem MY (H : ab) (sz : Nat) (a b c d e f g : T) : km H sz [.t a, .t b, .t c, .t d, .t e, .t f, .t g] = if aD sz [a, b, c, d, e, f, g] = true then some (.t (.sl [a, b, c, d, e, f, g]), H) else none := eI H sz [a, b, c, d, e, f, g]
@[go_sem] theorem MZ (H : ab) (sz : Nat) (a b c d e f g h : T) : km H sz [.t a, .t b, .t c, .t d, .t e, .t f, .t g, .t h] = if aD sz [a, b, c, d, e, f, g, h] = true then some (.t (.sl [a, b, c, d, e, f, g, h]), H) else none := eI H sz [a, b, c, d, e, f, g, h]
@[go_sem] theorem F8 {α β γ : Type} {l : List α} {g : α → β} {f : β → γ} {x : γ} {j : Nat} (h : j = l.length) : (List.map f (List.map g l) ++ [x])[j]? = some x := by
 rw[List.getElem?_append_right (by simp;omega)];simp[h]
@[go_sem] theorem I6 {α β γ : Type} {l : List α} {g : α → β} {f : β → γ} {x y : γ} {j : Nat} (h : j = l.length) : (List.map f (List.map g l) ++ [x]).set j y = List.map f (List.map g l) ++ [y] := by
 rw[List.set_append_right _ _ (by simp;omega)];simp[h]
def bg.F9(d:bg):Spn×bg:=
 let a:=d.of [0,1000,5000,20000, -5000, -20000,4999,100]
 let b:=a.2.of [0,1,1000,6000]
 let c:=b.2.of [0,1,500]
 let w:=c.2.one 9
 (if w.1=true then⟨-1125899906842624,1125899906842624⟩else⟨a.1-b.1,a.1+c.1⟩,w.2)
def bg.oB(d:bg):Nat→List Spn×bg
 | 0=>([],d)
 | k+1=>((d.oB k).1++[((d.oB k).2.F9).1],((d.oB k).2.F9).2)
def bg.NS(d:bg)(m:sk):List Spn×bg:=d.oB m.roads.length
theorem Ga{gc:Bool}{dead:List Nat}{c:C}{vs:List D}{H:ab}(P:Nat→St→Prop)(n:Nat)(Q:Ex×St→Prop)(h0:P 0 ⟨cu dead vs,H⟩)
 (hs:∀j st,j<n→P j st→(∃st',er gc dead st.H.length (exS cY c st)=some st'∧P (j+1) st')∨∃q,exS cY c st=some q∧q.1≠ .normal∧Q q)
 (he:∀st,P n st→∃q,exS cY c st=some q∧q.1≠ .normal∧Q q):∃q,exS cY (.loop gc dead c) ⟨vs,H⟩=some q∧Q q:=by
 have key:∀(k j:Nat) (st:St),j+k=n→P j st→∃q,eG gc dead (exS cY c) st=some q∧Q q:=by
  intro k
  induction k with
  | zero=>
    intro j st hj hp
    obtain⟨q,h1,h2,h3⟩:=he st (by rw[← hj];exact hp)
    exact⟨q,dK h1 h2,h3⟩
  | succ k ih=>
    intro j st hj hp
    rcases hs j st (by omega) hp with⟨st',h1,h2⟩ | ⟨q,h1,h2,h3⟩
    · obtain⟨q,h3,h4⟩:=ih (j+1) st' (by omega) h2
      exact⟨q,oZ h1 h3,h4⟩
    · exact⟨q,dK h1 h2,h3⟩
 exact key n 0 _ (by omega) h0
theorem vY(l:List Int):cY 0 N.bM [.t (tL l)] []=some (.bp 0 0,[bg.obj ⟨l,0⟩]):=by
 refine bU K.fM rfl ?_
 simp (disch:=omega) only[go_sem,K.bM,↓reduceIte,bg.obj,Nat.reduceAdd,Nat.reduceSub]
theorem kp{d:bg}(hd:d.fN)(n:Int)(h1:1≤n)(hn:n≤4611686018427387904):
 ∃(v:Int) (e:bg),cY 0 N.ao [.bp 0 0,I n] [d.obj]=some (I v,[e.obj])∧e.fN∧0≤v∧v<n:=
 ⟨_,_,yU d n hn hd,bg.pd hd n,d.yS n,d.yT h1⟩
end Go.Ev
namespace Go.Ev
open Go
variable [Lib] [dM] [dO] [mz] [nk]
end Go.Ev
namespace Go.Ev.N
def pj:Nat:=178
def pn:Nat:=179
def pT:Nat:=180
def po:Nat:=181
def pU:Nat:=182
def rz:Nat:=183
def pV:Nat:=184
def zw:Nat:=185
def vZ:Nat:=186
def zx:Nat:=187
def rA:Nat:=188
def zy:Nat:=189
def wa:Nat:=190
def wb:Nat:=191
def CI:Nat:=192
def um:Nat:=193
def wc:Nat:=194
def zz:Nat:=195
def CJ:Nat:=196
def Gb:Nat:=197
def sA:Nat:=198
def sB:Nat:=199
def CK:Nat:=200
def uo:Nat:=201
def mA:Nat:=202
def we:Nat:=203
def ay:Nat:=204
def rB:Nat:=205
def zA:Nat:=206
def wg:Nat:=207
def rC:Nat:=208
def pW:Nat:=209
def rD:Nat:=210
def Gc:Nat:=211
def Gd:Nat:=212
def Ge:Nat:=213
def CL:Nat:=214
end Go.Ev.N
namespace Go.Ev.K
open Go.Ev
end Go.Ev.K
namespace Go.Ev
class pX [Lib]:Prop where
namespace K
variable [Lib] [pX]
end K
end Go.Ev
namespace Go.Ev.K
open Go.Ev
def ay:Fn:={ nargs:=1,vars:=[0,2],body:=(.seq (.reg [w 1 (.mv (.c (.nil)))] []) (.itk [m v0,u (.eqk (.sl) false l0 (.c (.nil)))] [] 0 (.seq (.reg [w 1 (.nw 1)] []) .ret) .skip (.seq (.reg [u (.bsr [] 1),m v0,u (.app l1 l0 false 1),w 1 (.mv l0)] []) .ret))),res:=[(1,none)]}
end Go.Ev.K
namespace Go.Ev
class pq [Lib]:Prop where
 cr:Lib.fs N.ay=some K.ay
namespace K
variable [Lib] [pq]
theorem cr:Lib.fs N.ay=some K.ay:=pq.cr
end K
end Go.Ev
namespace Go.Ev
open Go
variable [Lib] [dM] [dO] [mz] [nk] [pX] [pq]
abbrev M0(l:List Int):Obj:= .arr 1 false 0 ((l.map (T.int .i64)).map .t)
end Go.Ev
namespace Go.Ev.N
def sC:Nat:=215
def sD:Nat:=216
def sE:Nat:=217
def zB:Nat:=218
def zC:Nat:=219
def zD:Nat:=220
def CM:Nat:=221
def CN:Nat:=222
def CO:Nat:=223
def Gf:Nat:=224
def zE:Nat:=225
def zF:Nat:=226
def zG:Nat:=227
def Gg:Nat:=228
def zH:Nat:=229
def zI:Nat:=230
def CP:Nat:=231
def wh:Nat:=232
def CQ:Nat:=233
def wi:Nat:=234
def wj:Nat:=235
def wk:Nat:=236
def CR:Nat:=237
def wm:Nat:=238
def Gi:Nat:=239
def Gj:Nat:=240
def nn:Nat:=241
def CS:Nat:=242
def zJ:Nat:=243
def sF:Nat:=244
end Go.Ev.N
namespace Go.Ev.N
def oC:Nat:=245
def nq:Nat:=246
def ns:Nat:=247
def zK:Nat:=248
def uq:Nat:=249
def zL:Nat:=250
def oD:Nat:=251
def sG:Nat:=252
def rE:Nat:=253
def zM:Nat:=254
def wo:Nat:=255
def CT:Nat:=256
def zN:Nat:=257
def pt:Nat:=258
def eg:Nat:=259
def pv:Nat:=260
def ma:Nat:=261
def wq:Nat:=262
def kT:Nat:=263
def dg:Nat:=264
def ur:Nat:=265
def ez:Nat:=266
def kQ:Nat:=267
def rF:Nat:=268
def dv:Nat:=269
def cmp_isNaN_int:Nat:=270
end Go.Ev.N
namespace Go.Ev.N
def pw:Nat:=271
def rG:Nat:=272
def rH:Nat:=273
def pY:Nat:=274
def sH:Nat:=275
def rI:Nat:=276
def zO:Nat:=277
def zP:Nat:=278
def CU:Nat:=279
def CV:Nat:=280
def sI:Nat:=281
def Gk:Nat:=282
def wt:Nat:=283
def zQ:Nat:=284
def zR:Nat:=285
def CW:Nat:=286
def gK:Nat:=287
def CY:Nat:=288
def zS:Nat:=289
def zT:Nat:=290
def zU:Nat:=291
def zV:Nat:=292
def sJ:Nat:=293
def zW:Nat:=294
def zX:Nat:=295
def wu:Nat:=296
def gB:Nat:=297
def gC:Nat:=298
def uu:Nat:=299
def kq:Nat:=300
def et:Nat:=301
def fO:Nat:=302
def iC:Nat:=303
def fm:Nat:=304
def gL:Nat:=305
def iD:Nat:=306
def gD:Nat:=307
def sK:Nat:=308
end Go.Ev.N
namespace Go.Ev.N
def wv:Nat:=309
def rJ:Nat:=310
def sL:Nat:=311
def sM:Nat:=312
def rK:Nat:=313
def zY:Nat:=314
def LN:Nat:=315
def Gl:Nat:=316
def zZ:Nat:=317
def z6:Nat:=318
def z7:Nat:=319
def z8:Nat:=320
def Gm:Nat:=321
def Gn:Nat:=322
def Aa:Nat:=323
def uv:Nat:=324
def Gp:Nat:=325
def I7:Nat:=326
def sN:Nat:=327
def wx:Nat:=328
def uw:Nat:=329
def gM:Nat:=330
def iE:Nat:=331
def ux:Nat:=332
def rL:Nat:=333
end Go.Ev.N
namespace Go.Ev.N
def px:Nat:=334
def pZ:Nat:=335
def p0:Nat:=336
def Ab:Nat:=337
def pz:Nat:=338
def Ac:Nat:=339
def Ad:Nat:=340
def CZ:Nat:=341
def Ae:Nat:=342
def C0:Nat:=343
def C1:Nat:=344
def I8:Nat:=345
def sO:Nat:=346
def Af:Nat:=347
def C2:Nat:=348
def C3:Nat:=349
def rM:Nat:=350
def uy:Nat:=351
def wy:Nat:=352
def wz:Nat:=353
def Ag:Nat:=354
def sP:Nat:=355
def C4:Nat:=356
def C5:Nat:=357
def uz:Nat:=358
def wA:Nat:=359
def Ah:Nat:=360
def C6:Nat:=361
def Ai:Nat:=362
def uA:Nat:=363
def Aj:Nat:=364
def C7:Nat:=365
def C8:Nat:=366
def C9:Nat:=367
def Da:Nat:=368
def pA:Nat:=369
def dC:Nat:=370
def fT:Nat:=371
def uB:Nat:=372
def eu:Nat:=373
def uC:Nat:=374
def uD:Nat:=375
def Ak:Nat:=376
def Al:Nat:=377
def sQ:Nat:=378
def dS:Nat:=379
def fc:Nat:=380
def rN:Nat:=381
def uE:Nat:=382
def rO:Nat:=383
end Go.Ev.N
namespace Go.Ev.K
open Go.Ev
end Go.Ev.K
namespace Go.Ev
class jK [Lib]:Prop where
namespace K
variable [Lib] [jK]
end K
end Go.Ev
namespace Go.Ev.N
def uF:Nat:=384
def sR:Nat:=385
def rP:Nat:=386
def sT:Nat:=387
def aF:Nat:=388
def bo:Nat:=389
def Am:Nat:=390
def Db:Nat:=391
def au:Nat:=392
def An:Nat:=393
def Ao:Nat:=394
def p4:Nat:=395
def cf:Nat:=396
def aO:Nat:=397
def pB:Nat:=398
def cK:Nat:=399
def Dc:Nat:=400
def a8:Nat:=401
def aB:Nat:=402
def ba:Nat:=403
def cL:Nat:=404
def aM:Nat:=405
def Dd:Nat:=406
def Gq:Nat:=407
def aG:Nat:=408
def aH:Nat:=409
def De:Nat:=410
def aT:Nat:=411
def a7:Nat:=412
def ax:Nat:=413
def Gr:Nat:=414
def aj:Nat:=415
end Go.Ev.N
namespace Go.Ev.K
open Go.Ev
def aF:Fn:={ nargs:=2,vars:=[0,1,4,5,6,7,8,9,10,11,12],body:=(.seq (.reg [w 2 (.mv (.b false))] []) (.seq (.ite [m v0,u (.ca N.bz 0 [] [.l 0]),u (.un .not l0),m l0,y 0 false (.mv v1),y 1 false (.ca N.bz 0 [] [.l 0]),y 2 false (.un .not l0),u (.pk l3 (.b true) l0)] [] 0 (.seq (.reg [u (.ca N.bo 0 [] []),w 2 (.mv l0)] []) .ret) .skip) (.seq (.reg [m v0,u (.ca N.bM 0 [] [.l 0]),m v1,u (.ca N.bM 0 [] [.l 0]),w 3 (.mv l2),w 4 (.mv l1)] []) (.seq (.reg [m v3,m v3,u (.ca N.ao 0 [] [.l 0,.i 1000]),u (.ca N.au 0 [] [.l 2,.l 0]),m v4,m v4,u (.ca N.ao 0 [] [.l 0,.i 1000]),u (.ca N.au 0 [] [.l 2,.l 0]),w 5 (.al [.t (.int .i64 (0)),.t (.int .i64 (0)),.t (.int .i64 (0)),.nil] []),w 6 (.al [.t (.int .i64 (0)),.t (.int .i64 (0)),.t (.int .i64 (0)),.nil] []),u (.st l1 l6 4 []),u (.st l1 l3 4 [])] []) (.seq (.reg [h 4 v5,u (.ca N.a8 0 [] [.l 0]),m l0,u (.ex l0 0),u (.ex l1 1),w 7 (.al [.t (.int .i64 (0)),.t (.int .i64 (0)),.nil] []),u (.st l0 l2 3 []),w 8 (.mv l2)] []) (.seq (.reg [h 4 v6,u (.ca N.a8 0 [] [.l 0]),m l0,u (.ex l0 0),u (.ex l1 1),w 9 (.al [.t (.int .i64 (0)),.t (.int .i64 (0)),.nil] []),u (.st l0 l2 3 []),w 10 (.mv l2)] []) (.seq (.reg [u (.ca N.bo 0 [] []),m l0,y 0 true (.mv v8),y 1 true (.bin .eql l0 (.i 0)),u (.pk l2 l0 (.b false)),m l0,y 0 true (.mv v10),y 1 true (.bin .eql l0 (.i 0)),u (.pk l2 l0 (.b false)),m l0,y 0 true (.fa v7 2),y 1 true (.ld l0 1 false),y 2 true (.ln l0),y 3 true (.fa v5 3),y 4 true (.ld l0 1 false),y 5 true (.ln l0),y 6 true (.bin .mul (.i 2) l0),y 7 true (.bin .add (.i 9) l0),y 8 true (.bin .eql l5 l0),u (.pk l9 l0 (.b false)),m l0,y 0 true (.fa v9 2),y 1 true (.ld l0 1 false),y 2 true (.ln l0),y 3 true (.fa v6 3),y 4 true (.ld l0 1 false),y 5 true (.ln l0),y 6 true (.bin .mul (.i 2) l0),y 7 true (.bin .add (.i 9) l0),y 8 true (.bin .eql l5 l0),u (.pk l9 l0 (.b false)),m l0,y 0 true (.ld v7 3 true),y 1 true (.ld v9 3 true),y 2 true (.ca N.aB 0 [] [.l 1,.l 0]),y 3 true (.ld v5 4 true),y 4 true (.ld v6 4 true),y 5 true (.ca N.ba 0 [] [.l 1,.l 0]),y 6 true (.eqk (.bool) false l3 l0),u (.pk l7 l0 (.b false)),w 2 (.mv l0)] [(35,1),(36,1)]) .ret))))))),res:=[(2,none)]}
def bo:Fn:={ nargs:=0,vars:=[0,1,2,3,4,5,6],body:=(.seq (.reg [w 0 (.mv (.b false))] []) (.seq (.reg [u (.bs [.i 5] 1),u (.bd [.t (.int .i64 (0)),.t (.int .i64 (0)),.t (.int .i64 (0)),.nil] [(0,1,.i 3),(1,1,.i 258),(2,1,.i 7),(3,1,.l 0)]),u (.ca N.a8 0 [] [.l 0]),m l0,u (.ex l0 0),u (.ex l1 1),w 1 (.al [.t (.int .i64 (0)),.t (.int .i64 (0)),.nil] []),u (.st l0 l2 3 []),w 2 (.mv l2)] []) (.seq (.reg [h 3 v1,u (.ca N.cL 0 [] [.l 0]),m l0,u (.ex l0 0),u (.ex l1 1),w 3 (.al [.t (.int .i64 (0)),.t (.int .i64 (0)),.t (.int .i64 (0)),.nil] []),u (.st l0 l2 4 []),w 4 (.mv l2)] []) (.seq (.reg [w 5 (.al [.nil,.nil] []),u (.ca N.cf 0 [] []),h 4 v3,u (.ca N.cK 0 [] [.l 1,.l 0]),m l0,u (.ex l0 0),u (.ex l1 1),u (.st l6 l1 2 []),w 6 (.mv l1)] [(0,2),(0,4),(2,1)]) (.seq (.reg [m v2,u (.bin .eql l0 (.i 0)),m l0,y 0 true (.mv v4),y 1 true (.bin .eql l0 (.i 0)),u (.pk l2 l0 (.b false)),m l0,y 0 true (.mv v6),y 1 true (.bin .eql l0 (.i 0)),u (.pk l2 l0 (.b false)),m l0,y 0 true (.fa v1 1),y 1 true (.ld l0 1 false),y 2 true (.bin .eql l0 (.i 9)),u (.pk l3 l0 (.b false)),m l0,y 0 true (.fa v1 2),y 1 true (.ld l0 1 false),y 2 true (.ln l0),y 3 true (.bin .eql l0 (.i 11)),u (.pk l4 l0 (.b false)),m l0,y 0 true (.fa v1 2),y 1 true (.ld l0 1 false),y 2 true (.ia l0 (.i 0) 1),y 3 true (.ld l0 1 false),y 4 true (.bin .eql l0 (.c (.t (.int .u8 (1))))),u (.pk l5 l0 (.b false)),m l0,y 0 true (.fa v1 2),y 1 true (.ld l0 1 false),y 2 true (.ia l0 (.i 7) 1),y 3 true (.ld l0 1 false),y 4 true (.bin .eql l0 (.c (.t (.int .u8 (7))))),u (.pk l5 l0 (.b false)),m l0,y 0 true (.fa v3 1),y 1 true (.ld l0 1 false),y 2 true (.bin .eql l0 (.i 258)),u (.pk l3 l0 (.b false)),m l0,y 0 true (.fa v5 0),y 1 true (.ld l0 1 false),y 2 true (.ln l0),y 3 true (.bin .eql l0 (.i 32)),u (.pk l4 l0 (.b false)),m l0,y 0 true (.fa v5 0),y 1 true (.ld l0 1 false),y 2 true (.ia l0 (.i 3) 1),y 3 true (.ld l0 1 false),y 4 true (.bin .eql l0 (.i 258)),u (.pk l5 l0 (.b false)),w 0 (.mv l0)] []) .ret))))),res:=[(0,none)]}
def bV:C:=(.seq (.ite [m v5,u (.bin .gtr l0 (.i 0))] [] 0 .skip (.exit 0)) (.seq (.blk 1 (.seq (.reg [m v4,m v0,u (.ca N.ao 0 [] [.l 0,.i 3]),u (.bin .add (.i 1) l0),u (.bin .add l3 l0),w 4 (.mv l0)] []) (.reg [f 3 v3,g l0,m v4,u (.bs [.l 0] 1),u (.app l2 l0 true 1),f 3 v3,u (.st l0 l1 1 [])] []))) (.reg [m v5,u (.bin .sub l0 (.i 1)),w 5 (.mv l0)] [])))
def b9:C:= .loop true [1] K.bV
def au:Fn:={ nargs:=2,vars:=[0,1,4,5,6,7],body:=(.seq (.reg [w 2 (.al [.t (.int .i64 (0)),.t (.int .i64 (0)),.t (.int .i64 (0)),.nil] [])] []) (.seq (.reg [m v0,u (.ca N.ao 0 [] [.l 0,.i 3]),m v0,u (.ca N.ao 0 [] [.l 0,.i 20]),m v1,u (.bd [.t (.int .i64 (0)),.t (.int .i64 (0)),.t (.int .i64 (0)),.nil] [(0,1,.l 3),(1,1,.l 1),(2,1,.l 0)]),w 3 (.al [.t (.int .i64 (0)),.t (.int .i64 (0)),.t (.int .i64 (0)),.nil] [(3,1)]),u (.st l0 l1 4 [(3,1)])] []) (.seq (.reg [w 4 (.mv (.i 0))] []) (.seq (.seq (.reg [m v0,u (.ca N.ao 0 [] [.l 0,.i 4]),w 5 (.mv l0)] []) (.blk 0 K.b9)) (.seq (.reg [h 4 v3,u (.st v2 l0 4 [])] []) .ret))))),res:=[(2,some (4,true))]}
def cf:Fn:={ nargs:=0,vars:=[0],body:=(.seq (.reg [w 0 (.al [.nil,.nil] [])] []) (.seq (.reg [u (.bs [.i (-1)] 1),u (.ca N.aA 0 [] [.l 0,.i 32]),u (.mkt (.i 32) (.int .i64 (0)) 1),u (.bd [.nil,.nil] [(0,1,.l 1),(1,1,.l 0)]),u (.st v0 l0 2 [])] [(0,0),(2,0)]) .ret)),res:=[(0,some (2,true))]}
def aO:Fn:={ nargs:=1,vars:=[0,1,2],body:=(.seq (.reg [w 1 (.bx v0 2),w 2 (.mv (.b false))] []) (.seq (.reg [f 0 v1,g l0,u (.ln l0),u (.bin .eql l0 (.i 32)),m l0,y 0 true (.fa v1 1),y 1 true (.ld l0 1 false),y 2 true (.ln l0),y 3 true (.bin .eql l0 (.i 32)),u (.pk l4 l0 (.b false)),m l0,y 0 true (.fa v1 0),y 1 true (.ld l0 1 false),y 2 true (.ca N.ah 0 [] [.l 0,.c (.fn N.aG [])]),y 3 true (.un .not l0),u (.pk l4 l0 (.b false)),m l0,y 0 true (.fa v1 1),y 1 true (.ld l0 1 false),y 2 true (.ca N.ah 0 [] [.l 0,.c (.fn N.aH [])]),y 3 true (.un .not l0),u (.pk l4 l0 (.b false)),w 2 (.mv l0)] []) .ret)),res:=[(2,none)]}
def cK:Fn:={ nargs:=2,vars:=[0,1,2,3,4,5,6,7,8],body:=(.seq (.reg [w 2 (.bx v0 2),w 3 (.bx v1 4),w 4 (.al [.nil,.nil] []),w 5 (.mv (.i 0))] []) (.seq (.blk 0 (.ite [h 2 v2,u (.ca N.aO 0 [] [.l 0]),u (.un .not l0),m l0] [] 0 (.seq (.reg [h 2 v2,u (.st v4 l0 2 []),w 5 (.mv (.i 10))] []) .ret) (.ite [h 4 v3,u (.ca N.aM 0 [] [.l 0]),u (.un .not l0),m l0] [] 0 (.seq (.reg [h 2 v2,u (.st v4 l0 2 []),w 5 (.mv (.i 6))] []) .ret) .skip))) (.seq (.reg [f 0 v2,g l0,f 0 v3,g l0,a 1 l2 l0,g l0,w 6 (.mv l0)] []) (.seq (.reg [f 1 v3,g l0,m v6,u (.bin .sub l1 l0),u (.bin .add l0 (.i 65536)),u (.bin .rem l0 (.i 65536)),w 7 (.mv l0)] []) (.seq (.ite [m v6,u (.bin .geq l0 (.i 0)),m l0,y 0 true (.mv v7),y 1 true (.bin .eql l0 (.i 0)),y 2 true (.mv l0),y 0 false (.mv v7),y 1 false (.bin .geq l0 (.i 32768)),y 5 true (.pk l2 (.b true) l0),u (.pk l6 l0 (.b false))] [] 0 (.seq (.reg [h 2 v2,u (.st v4 l0 2 []),w 5 (.mv (.i 42))] []) .ret) .skip) (.seq (.reg [w 8 (.al [.nil,.nil] []),f 0 v2,g l0,u (.ca N.ay 1 [] [.l 0]),f 1 v2,g l0,u (.ca N.ay 1 [] [.l 0]),u (.bd [.nil,.nil] [(0,1,.l 3),(1,1,.l 0)]),u (.st l7 l0 2 [])] [(0,4),(0,7),(5,1)]) (.seq (.reg [f 0 v8,g l0,f 0 v3,g l0,f 1 v3,g l0,a 1 l4 l2,u (.st l0 l1 1 [])] []) (.seq (.ite [m v6,u (.bin .geq l0 (.i 0))] [] 0 (.reg [f 1 v8,g l0,f 0 v3,g l0,f 1 v8,g l0,f 0 v3,g l0,a 1 l2 l0,g l0,m v7,u (.bin .add l1 l0),u (.bin .sub l0 (.i 1)),u (.mn [.l 0,.i 2147483648]),a 1 (.l 12) l10,u (.st l0 l1 1 [])] []) .skip) (.seq (.reg [h 2 v8,u (.st v4 l0 2 []),w 5 (.mv (.i 0))] []) .ret))))))))),res:=[(4,some (2,true)),(5,none)]}
def dD:C:=(.its [u (.bin .lss v8 v7)] [] 0 .skip (.exit 0) (.seq (.blk 1 (.seq (.reg [a 1 v6 v8,g l0,w 5 (.mv l0)] []) (.reg [m v4,m v5,u (.cv .u64 l0),u (.ca N.aT 1 [0] [.l 2,.l 0,.i 2]),w 4 (.mv l0)] []))) (.reg [u (.bin .add v8 (.i 1)),w 8 (.mv l0)] [])))
def gE:C:= .loop true [0,3,5] K.dD
def a8:Fn:={ nargs:=1,vars:=[0,1,2,3,4,6,28,29,30],body:=(.seq (.reg [w 1 (.bx v0 4),w 2 (.al [.t (.int .i64 (0)),.t (.int .i64 (0)),.nil] []),w 3 (.mv (.i 0))] []) (.seq (.ite [h 4 v1,u (.ca N.aM 0 [] [.l 0]),u (.un .not l0)] [] 0 (.seq (.reg [u (.bd [.t (.int .i64 (0)),.t (.int .i64 (0)),.nil] []),u (.st v2 l0 3 []),w 3 (.mv (.i 6))] []) .ret) .skip) (.seq (.reg [f 1 v1,g l0,u (.cv .u64 l0),u (.ca N.aT 1 [0] [.c (.nil),.l 0,.i 2]),w 4 (.mv l0)] []) (.seq (.reg [m v4,f 2 v1,g l0,u (.cv .u64 l0),u (.ca N.aT 1 [0] [.l 3,.l 0,.i 6]),w 4 (.mv l0)] []) (.seq (.reg [m v4,f 3 v1,g l0,u (.ln l0),u (.cv .u8 l0),u (.bs [.l 0] 1),u (.app l5 l0 true 1),w 4 (.mv l0)] []) (.seq (.seq (.reg [f 3 v1,w 6 (.ld l0 1 false),w 7 (.ln l0),w 8 (.mv (.i 0))] []) (.blk 0 K.gE)) (.seq (.reg [f 0 v1,g l0,m v4,u (.bd [.t (.int .i64 (0)),.t (.int .i64 (0)),.nil] [(0,1,.l 1),(1,1,.i 9),(2,1,.l 0)]),u (.st v2 l0 3 []),w 3 (.mv (.i 0))] []) .ret))))))),res:=[(2,some (3,true)),(3,none)]}
def aB:Fn:={ nargs:=2,vars:=[0,1,2,3,4],body:=(.seq (.reg [w 2 (.bx v0 3),w 3 (.bx v1 3),w 4 (.mv (.b false))] []) (.seq (.reg [f 0 v2,g l0,f 0 v3,g l0,u (.bin .eql l2 l0),m l0,y 0 true (.fa v2 1),y 1 true (.ld l0 1 false),y 2 true (.fa v3 1),y 3 true (.ld l0 1 false),y 4 true (.bin .eql l2 l0),u (.pk l5 l0 (.b false)),m l0,y 0 true (.fa v2 2),y 1 true (.ld l0 1 false),y 2 true (.bst l0),y 3 true (.fa v3 2),y 4 true (.ld l0 1 false),y 5 true (.bst l0),y 6 true (.eqk (.str) false l3 l0),u (.pk l7 l0 (.b false)),w 4 (.mv l0)] []) .ret)),res:=[(4,none)]}
def ba:Fn:={ nargs:=2,vars:=[0,1,2,3,4],body:=(.seq (.reg [w 2 (.bx v0 4),w 3 (.bx v1 4),w 4 (.mv (.b false))] []) (.seq (.reg [f 0 v2,g l0,f 0 v3,g l0,u (.bin .eql l2 l0),m l0,y 0 true (.fa v2 1),y 1 true (.ld l0 1 false),y 2 true (.fa v3 1),y 3 true (.ld l0 1 false),y 4 true (.bin .eql l2 l0),u (.pk l5 l0 (.b false)),m l0,y 0 true (.fa v2 2),y 1 true (.ld l0 1 false),y 2 true (.fa v3 2),y 3 true (.ld l0 1 false),y 4 true (.bin .eql l2 l0),u (.pk l5 l0 (.b false)),m l0,y 0 true (.fa v2 3),y 1 true (.ld l0 1 false),y 2 true (.fa v3 3),y 3 true (.ld l0 1 false),y 4 true (.ca N.aJ 0 [] [.l 2,.l 0]),u (.pk l5 l0 (.b false)),w 4 (.mv l0)] []) .ret)),res:=[(4,none)]}
def gF:C:= .rng 6 7 N.aj [w 5 (.mv v7)] [] [f 3 v4,g l0,m v5,u (.ca N.a7 0 [] [.l 0]),u (.cv .i64 l0),u (.bs [.l 0] 1),u (.app l4 l0 true 1),f 3 v4,u (.st l0 l1 1 [])] [(1,4),(1,6)]
def wB:C:=K.gF
def cL:Fn:={ nargs:=1,vars:=[0,1,2,3,4,5,49,50],body:=(.seq (.reg [w 1 (.bx v0 3),w 2 (.al [.t (.int .i64 (0)),.t (.int .i64 (0)),.t (.int .i64 (0)),.nil] []),w 3 (.mv (.i 0))] []) (.seq (.ite [f 1 v1,g l0,u (.bin .neq l0 (.i 9))] [] 0 (.seq (.reg [u (.bd [.t (.int .i64 (0)),.t (.int .i64 (0)),.t (.int .i64 (0)),.nil] []),u (.st v2 l0 4 []),w 3 (.mv (.i 5))] []) .ret) .skip) (.seq (.ite [f 0 v1,g l0,u (.ca N.bC 0 [] [.l 0,.i 0,.i 31]),u (.un .not l0)] [] 0 (.seq (.reg [u (.bd [.t (.int .i64 (0)),.t (.int .i64 (0)),.t (.int .i64 (0)),.nil] []),u (.st v2 l0 4 []),w 3 (.mv (.i 40))] []) .ret) .skip) (.seq (.ite [f 2 v1,g l0,u (.ln l0),u (.bin .lss l0 (.i 9)),m l0,y 0 false (.fa v1 2),y 1 false (.ld l0 1 false),y 2 false (.ln l0),y 3 false (.fa v1 2),y 4 false (.ld l0 1 false),y 5 false (.ia l0 (.i 8) 1),y 6 false (.ld l0 1 false),y 7 false (.cv .i64 l0),y 8 false (.bin .mul (.i 2) l0),y 9 false (.bin .add (.i 9) l0),y 10 false (.bin .neq l7 l0),u (.pk l11 (.b true) l0)] [] 0 (.seq (.reg [u (.bd [.t (.int .i64 (0)),.t (.int .i64 (0)),.t (.int .i64 (0)),.nil] []),u (.st v2 l0 4 []),w 3 (.mv (.i 6))] []) .ret) .skip) (.seq (.reg [w 4 (.al [.t (.int .i64 (0)),.t (.int .i64 (0)),.t (.int .i64 (0)),.nil] [(3,1)]),f 0 v1,g l0,f 2 v1,g l0,u (.sc l0 none (some (.i 2)) 1),u (.ca N.a7 0 [] [.l 0]),u (.cv .i64 l0),f 2 v1,g l0,u (.sc l0 (some (.i 2)) (some (.i 8)) 1),u (.ca N.a7 0 [] [.l 0]),u (.cv .i64 l0),u (.bd [.t (.int .i64 (0)),.t (.int .i64 (0)),.t (.int .i64 (0)),.nil] [(0,1,.l 10),(1,1,.l 5),(2,1,.l 0)]),u (.st (.l 13) l0 4 [(3,1)])] [(0,7),(0,12),(2,7),(2,12),(9,1),(10,1)]) (.seq (.seq (.reg [f 2 v1,g l0,u (.sc l0 (some (.i 9)) none 1),w 6 (.ca N.ax 0 [] [.l 0,.i 2])] []) (.blk 0 K.gF)) (.seq (.ite [h 4 v4,u (.ca N.aM 0 [] [.l 0]),u (.un .not l0)] [] 0 (.seq (.reg [u (.bd [.t (.int .i64 (0)),.t (.int .i64 (0)),.t (.int .i64 (0)),.nil] []),u (.st v2 l0 4 []),w 3 (.mv (.i 6))] []) .ret) .skip) (.seq (.reg [h 4 v4,u (.st v2 l0 4 []),w 3 (.mv (.i 0))] []) .ret)))))))),res:=[(2,some (4,true)),(3,none)]}
def aM:Fn:={ nargs:=1,vars:=[0,1,2],body:=(.seq (.reg [w 1 (.bx v0 4),w 2 (.mv (.b false))] []) (.seq (.reg [f 0 v1,g l0,u (.ca N.bC 0 [] [.l 0,.i 0,.i 31]),m l0,y 0 true (.fa v1 1),y 1 true (.ld l0 1 false),y 2 true (.ca N.bC 0 [] [.l 0,.i 0,.i 65535]),u (.pk l3 l0 (.b false)),m l0,y 0 true (.fa v1 2),y 1 true (.ld l0 1 false),y 2 true (.ca N.bC 0 [] [.l 0,.i 0,.i 2147483648]),u (.pk l3 l0 (.b false)),m l0,y 0 true (.fa v1 3),y 1 true (.ld l0 1 false),y 2 true (.ln l0),y 3 true (.bin .leq l0 (.i 20)),u (.pk l4 l0 (.b false)),m l0,y 0 true (.fa v1 3),y 1 true (.ld l0 1 false),y 2 true (.ca N.a6 0 [] [.l 0,.i 1,.i 65535]),u (.pk l3 l0 (.b false)),w 2 (.mv l0)] []) .ret)),res:=[(2,none)]}
def aG:Fn:={ nargs:=1,vars:=[0,2],body:=(.seq (.reg [w 1 (.mv (.b false))] []) (.seq (.reg [m v0,u (.ca N.bC 0 [] [.l 0,.i (-1),.i 65535]),u (.un .not l0),w 1 (.mv l0)] []) .ret)),res:=[(1,none)]}
def aH:Fn:={ nargs:=1,vars:=[0,2],body:=(.seq (.reg [w 1 (.mv (.b false))] []) (.seq (.reg [m v0,u (.ca N.bC 0 [] [.l 0,.i 0,.i 2147483648]),u (.un .not l0),w 1 (.mv l0)] []) .ret)),res:=[(1,none)]}
def bQ:C:=(.seq (.ite [m v4,u (.bin .geq l0 (.i 0))] [] 0 .skip (.exit 0)) (.seq (.blk 1 (.reg [m v0,m v1,m v4,u (.bin .mul (.i 8) l0),u (.cv .u64 l0),u (.bin .shr l3 l0),u (.cv .u8 l0),u (.bs [.l 0] 1),u (.app l7 l0 true 1),w 0 (.mv l0)] [])) (.reg [m v4,u (.bin .sub l0 (.i 1)),w 4 (.mv l0)] [])))
def eP:C:= .loop false [2,3] K.bQ
def aT:Fn:={ nargs:=3,vars:=[0,1,2,6,7],body:=(.seq (.reg [w 3 (.mv (.c (.nil)))] []) (.seq (.seq (.reg [m v2,u (.bin .sub l0 (.i 1)),w 4 (.mv l0)] []) (.blk 0 K.eP)) (.seq (.reg [m v0,w 3 (.mv l0)] []) .ret))),res:=[(3,none)]}
def iK:C:=(.its [u (.bin .lss v6 v5)] [] 0 .skip (.exit 0) (.seq (.blk 1 (.seq (.reg [a 1 v4 v6,g l0,w 3 (.mv l0)] []) (.reg [m v2,u (.bin .shl l0 (.c (.t (.int .u64 (8))))),m v3,u (.cv .u64 l0),u (.bin .or l2 l0),w 2 (.mv l0)] []))) (.reg [u (.bin .add v6 (.i 1)),w 6 (.mv l0)] [])))
def jL:C:= .loop true [0,1,3] K.iK
def a7:Fn:={ nargs:=1,vars:=[0,2,3,5,6,7,8],body:=(.seq (.reg [w 1 (.mv (.c (.t (.int .u64 (0)))))] []) (.seq (.reg [w 2 (.mv (.c (.t (.int .u64 (0)))))] []) (.seq (.seq (.reg [w 4 (.mv v0),w 5 (.ln l0),w 6 (.mv (.i 0))] []) (.blk 0 K.jL)) (.seq (.reg [m v2,w 1 (.mv l0)] []) .ret)))),res:=[(1,none)]}
def ax:Fn:={ nargs:=2,vars:=[0,1,2,3,4],body:=(.seq (.reg [w 2 (.bx v0 1),w 3 (.bx v1 1),w 4 (.mv (.c (.und)))] []) (.seq (.ite [g v3,u (.bin .lss l0 (.i 1))] [] 0 .fail .skip) (.seq (.reg [u (.mf N.aj [.v 2,.v 3]),w 4 (.mv l0)] []) .ret))),res:=[(4,none)]}
end Go.Ev.K
namespace Go.Ev
class cE [Lib]:Prop where
 cF:Lib.fs N.aF=some K.aF
 gG:Lib.fs N.bo=some K.bo
 bI:Lib.fs N.au=some K.au
 iF:Lib.fs N.cf=some K.cf
 dw:Lib.fs N.aO=some K.aO
 jM:Lib.fs N.cK=some K.cK
 eQ:Lib.fs N.a8=some K.a8
 cG:Lib.fs N.aB=some K.aB
 eR:Lib.fs N.ba=some K.ba
 jN:Lib.fs N.cL=some K.cL
 eS:Lib.fs N.aM=some K.aM
 cS:Lib.fs N.aG=some K.aG
 cT:Lib.fs N.aH=some K.aH
 eh:Lib.fs N.aT=some K.aT
 fA:Lib.fs N.a7=some K.a7
 cg:Lib.fs N.ax=some K.ax
namespace K
variable [Lib] [cE]
theorem cF:Lib.fs N.aF=some K.aF:=cE.cF
theorem gG:Lib.fs N.bo=some K.bo:=cE.gG
theorem bI:Lib.fs N.au=some K.au:=cE.bI
theorem iF:Lib.fs N.cf=some K.cf:=cE.iF
theorem dw:Lib.fs N.aO=some K.aO:=cE.dw
theorem jM:Lib.fs N.cK=some K.cK:=cE.jM
theorem eQ:Lib.fs N.a8=some K.a8:=cE.eQ
theorem cG:Lib.fs N.aB=some K.aB:=cE.cG
theorem eR:Lib.fs N.ba=some K.ba:=cE.eR
theorem jN:Lib.fs N.cL=some K.cL:=cE.jN
theorem eS:Lib.fs N.aM=some K.aM:=cE.eS
theorem cS:Lib.fs N.aG=some K.aG:=cE.cS
theorem cT:Lib.fs N.aH=some K.aH:=cE.cT
theorem eh:Lib.fs N.aT=some K.aT:=cE.eh
theorem fA:Lib.fs N.a7=some K.a7:=cE.fA
theorem cg:Lib.fs N.ax=some K.ax:=cE.cg
end K
end Go.Ev
namespace Go.Ev.K
open Go.Ev
def aj:Fn:={ nargs:=3,vars:=[],body:= .fail,res:=[]}
end Go.Ev.K
namespace Go.Ev
class iL [Lib]:Prop where
 bS:Lib.fs N.aj=some K.aj
namespace K
variable [Lib] [iL]
theorem bS:Lib.fs N.aj=some K.aj:=iL.bS
end K
end Go.Ev
namespace Go.Ev
open Go
variable [Lib] [dM] [dO] [pQ] [pf] [mz] [nk] [pX] [pq] [jK] [cE] [iL]
abbrev tB(l:List Int):T:= .sl (l.map (T.int .u8))
structure Rpt where
 reader:Int
 number:Int
 time:Int
 tags:List Int
abbrev Rpt.e(r:Rpt):T:= .agg [tI r.reader,tI r.number,tI r.time,tL r.tags]
structure Frm where
 addr:Int
 kind:Int
 data:List Int
abbrev Frm.e(f:Frm):T:= .agg [tI f.addr,tI f.kind,tB f.data]
structure Itk where
 last:List Int
 lost:List Int
abbrev Itk.e(x:Itk):T:= .agg [tL x.last,tL x.lost]
@[go_sem] theorem Aq (l : List Int) : aD 1 (l.map (T.int .u8)) = true := cJ 1 _ (fun _ => rfl) l
@[go_sem] theorem I9 (l : List Int) : dz 1 (l.map (T.int .u8)) = true := by cases l <;> rfl
abbrev jS(l:List Int):Obj:= .arr 1 false 0 ((l.map (T.int .u8)).map .t)
def ct(v:Int)(n:Nat):List Int:=(List.range n).map fun k=>v / 256 ^ (n-1-k) % 256
theorem aU(v:Int)(n:Nat):(ct v n).length=n:=by simp[ct]
theorem oE{v:Int}(hv:0≤v){i:Nat}(hi:i≤7):IntKind.u8.wrap (v.fdiv (2 ^ (8*i)))=v / 256 ^ i % 256:=by
 have e:(2:Int) ^ (8*i)=256 ^ i:=by rw[Int.pow_mul];rfl
 rw[e,Int.fdiv_eq_ediv_of_nonneg _ (Int.pow_nonneg (by omega))]
 simp only[IntKind.wrap,IntKind.bits,IntKind.signed]
 rfl
theorem uG(v:Int){n j:Nat}(hj:j<n):(ct v n)[j]?=some (v / 256 ^ (n-1-j) % 256):=by
 unfold ct
 rw[List.getElem?_map,List.getElem?_range hj];rfl
theorem mb(v:Int){n j:Nat}(hj:j<n):(ct v n).take (j+1)=(ct v n).take j++[v / 256 ^ (n-1-j) % 256]:=by
 rw[List.take_add_one,uG v hj];rfl
theorem uH(v:Int)(hv:0≤v)(n:Nat)(hn:n≤7)(h1:1≤n):cY 1 N.aT [.nil,.t (.int .u64 v),I n] []=some (.ref 0 0 n,[jS (ct v n)]):=by
 refine bU K.eh rfl ?_
 have lp:∀z2 z3:D,exS cY K.eP ⟨[.nil,.t (.int .u64 v),z2,z3,I (n-1)],[]⟩=some (.exit 0,⟨[.ref 0 0 n,.t (.int .u64 v),.und,.und,I (-1)],[jS (ct v n)]⟩):=by
  intro z2 z3
  refine nh (fun j=>⟨[if j=0 then .nil else .ref 0 0 j,.t (.int .u64 v),.und,.und,I ((n:Int)-1-j)],if j=0 then []else [jS ((ct v n).take j)]⟩) n (by simp only[if_true,Int.natCast_zero,Int.sub_zero];rfl) ?_ ?_ (by simp)
  · intro j hj
    have e2:(n:Int)-1-((j+1:Nat):Int)=(n:Int)-1-j-1:=by omega
    have sb:=oE hv (i:=n-1-j) (by omega)
    rw[if_neg (Nat.succ_ne_zero j),if_neg (Nat.succ_ne_zero j),mb v hj,e2]
    have tl:((ct v n).take j).length=j:=by rw[List.length_take,aU];omega
    obtain⟨i,hi⟩:∃i,n-1-j=i:=⟨_,rfl⟩
    have e3:(n:Int)-1-j=i:=by omega
    rw[hi]at sb ⊢
    rw[e3]
    have i7:i≤7:=by omega
    have w8:IntKind.u64.wrap (8*(i:Int))=8*i:=by simp only[IntKind.wrap,IntKind.bits,IntKind.signed];simp;omega
    have mn:min (8*(i:Int)).toNat 64=8*i:=by omega
    generalize (ct v n).take j=q at*
    generalize v / 256 ^ i % 256=w at*
    cases j with
    | zero=>
      obtain rfl:q=[]:=List.eq_nil_of_length_eq_zero tl
      simp only[if_true,List.append_nil,jS]
      simp (disch:=omega) only[go_sem,K.bQ,↓reduceIte,List.map_append,List.map_cons,List.map_nil,w8,mn,sb,Nat.reduceAdd,Nat.reduceSub]
    | succ j=>
      rw[if_neg (Nat.succ_ne_zero j),if_neg (Nat.succ_ne_zero j)]
      simp only[jS]
      simp (disch:=omega) only[go_sem,K.bQ,↓reduceIte,tl,List.map_append,List.map_cons,List.map_nil,w8,mn,sb,Nat.reduceAdd,Nat.reduceSub]
  · have e0:(ct v n).take n=ct v n:=List.take_of_length_le (by rw[aU];omega)
    have e1:(n:Int)-1-n= -1:=by omega
    rw[if_neg (by omega),if_neg (by omega),e0,e1]
    simp (disch:=omega) only[go_sem,K.bQ,↓reduceIte,Nat.reduceAdd,Nat.reduceSub]
 have hl:(ct v n).length=n:=aU v n
 generalize ct v n=L at*
 simp only[jS]at*
 simp (disch:=omega) only[go_sem,K.aT,↓reduceIte,lp,Nat.reduceAdd,Nat.reduceSub]
theorem oF(bs:List Int)(hb:bs.length≤1000000)(v:Int)(hv:0≤v)(n:Nat)(hn:n≤7):cY 1 N.aT [.ref 0 0 bs.length,.t (.int .u64 v),I n] [jS bs]=some (.ref 0 0 (bs++ct v n).length,[jS (bs++ct v n)]):=by
 refine bU K.eh rfl ?_
 have lp:∀z2 z3:D,exS cY K.eP ⟨[.ref 0 0 bs.length,.t (.int .u64 v),z2,z3,I (n-1)],[jS bs]⟩=some (.exit 0,⟨[.ref 0 0 (bs++ct v n).length,.t (.int .u64 v),.und,.und,I (-1)],[jS (bs++ct v n)]⟩):=by
  intro z2 z3
  refine nh (fun j=>⟨[.ref 0 0 (bs++(ct v n).take j).length,.t (.int .u64 v),.und,.und,I ((n:Int)-1-j)],[jS (bs++(ct v n).take j)]⟩) n (by simp only[Int.natCast_zero,Int.sub_zero,List.take_zero,List.append_nil];rfl) ?_ ?_ (by simp)
  · intro j hj
    have e2:(n:Int)-1-((j+1:Nat):Int)=(n:Int)-1-j-1:=by omega
    have sb:=oE hv (i:=n-1-j) (by omega)
    rw[mb v hj,e2,←List.append_assoc]
    have tl:(bs++(ct v n).take j).length≤1000010:=by rw[List.length_append,List.length_take,aU];omega
    obtain⟨i,hi⟩:∃i,n-1-j=i:=⟨_,rfl⟩
    have e3:(n:Int)-1-j=i:=by omega
    rw[hi]at sb ⊢
    rw[e3]
    have i7:i≤7:=by omega
    have w8:IntKind.u64.wrap (8*(i:Int))=8*i:=by simp only[IntKind.wrap,IntKind.bits,IntKind.signed];simp;omega
    have mn:min (8*(i:Int)).toNat 64=8*i:=by omega
    generalize bs++(ct v n).take j=q at*
    generalize v / 256 ^ i % 256=w at*
    simp only[jS,List.length_append,List.length_cons,List.length_nil]
    simp (disch:=omega) only[go_sem,K.bQ,↓reduceIte,List.map_append,List.map_cons,List.map_nil,w8,mn,sb,Nat.reduceAdd,Nat.reduceSub]
  · have e0:(ct v n).take n=ct v n:=List.take_of_length_le (by rw[aU];omega)
    have e1:(n:Int)-1-n= -1:=by omega
    rw[e0,e1]
    simp (disch:=omega) only[go_sem,K.bQ,↓reduceIte,Nat.reduceAdd,Nat.reduceSub]
 have hl:(bs++ct v n).length=bs.length+n:=by rw[List.length_append,aU]
 generalize bs++ct v n=L at*
 simp only[jS]at*
 simp (disch:=omega) only[go_sem,K.aT,↓reduceIte,lp,Nat.reduceAdd,Nat.reduceSub]
def Ar(bs:List Int):Int:=bs.foldl (fun v x=>v*256+x) 0
def uI(bs:List Int):Prop:=∀x∈bs,0≤x∧x<256
theorem LO{a:Int}(h:0≤a)(h2:a<18446744073709551616):IntKind.u64.wrap a=a:=by
 simp only[IntKind.wrap,IntKind.bits,IntKind.signed];simp;omega
def wC(r:Rpt):Bool:=decide (0≤r.reader∧r.reader≤31)&&(decide (0≤r.number∧r.number≤65535)&&(decide (0≤r.time∧r.time≤2147483648)&&(decide (r.tags.length≤20)&&q8 r.tags 1 65535)))
theorem pC(r:Rpt)(hl:r.tags.length≤1000000):cY 0 N.aM [.t r.e] []=some (B (wC r),[]):=by
 refine bU K.eS rfl ?_
 have i1:=yW r.reader 0 31
 have i2:=yW r.number 0 65535
 have i3:=yW r.time 0 2147483648
 have i4:=q9 r.tags 1 65535 (by omega)
 unfold wC
 obtain⟨reader,number,time,tags⟩:=r
 simp only at*
 generalize q8 tags 1 65535=b4 at*
 generalize decide (0≤reader∧reader≤31)=b1 at*
 generalize decide (0≤number∧number≤65535)=b2 at*
 generalize decide (0≤time∧time≤2147483648)=b3 at*
 cases b1 with
 | false=>simp (disch:=omega) only[go_sem,K.aM,↓reduceIte,i1,Bool.false_and,Nat.reduceAdd,Nat.reduceSub]
 | true=>
   cases b2 with
   | false=>simp (disch:=omega) only[go_sem,K.aM,↓reduceIte,i1,i2,Bool.false_and,Bool.true_and,Nat.reduceAdd,Nat.reduceSub]
   | true=>
     cases b3 with
     | false=>simp (disch:=omega) only[go_sem,K.aM,↓reduceIte,i1,i2,i3,Bool.false_and,Bool.true_and,Nat.reduceAdd,Nat.reduceSub]
     | true=>
       by_cases c:tags.length≤20
       · simp (disch:=omega) only[go_sem,K.aM,↓reduceIte,i1,i2,i3,i4,c,decide_true,Bool.true_and,Nat.reduceAdd,Nat.reduceSub]
       · simp (disch:=omega) only[go_sem,K.aM,↓reduceIte,i1,i2,i3,c,decide_false,Bool.true_and,Bool.false_and,Nat.reduceAdd,Nat.reduceSub]
def eT(l:List Int):List Int:=l.flatMap fun t=>ct t 2
def fP(r:Rpt):List Int:=ct r.number 2++ct r.time 6++[(r.tags.length:Int)]
def dh(r:Rpt):List Int:=fP r++eT r.tags
def oG(r:Rpt):Frm×Int:=if wC r then(⟨r.reader,9,dh r⟩,0)else(⟨0,0,[]⟩,6)
theorem di:∀l:List Int,(eT l).length=2*l.length
 | []=>rfl
 | x::l=>by simp only[eT,List.flatMap_cons,List.length_append,aU,List.length_cons];have:=di l;unfold eT at this;omega
theorem eU(r:Rpt):(fP r).length=9:=by simp[fP,aU]
theorem jO(r:Rpt):(dh r).length=9+2*r.tags.length:=by rw[dh,List.length_append,eU,di]
structure Rpt.ok(r:Rpt):Prop where
 r1:0≤r.reader
 r2:r.reader≤31
 n1:0≤r.number
 n2:r.number≤65535
 t1:0≤r.time
 t2:r.time≤2147483648
 l:r.tags.length≤20
 g1:∀x∈r.tags,1≤x
 g2:∀x∈r.tags,x≤65535
theorem rQ{l:List Int}{lo hi:Int}(h:q8 l lo hi=true){x:Int}(hx:x∈l):lo≤x∧x≤hi:=by
 unfold q8 at h
 rw[Bool.not_eq_true',List.any_eq_false]at h
 obtain⟨j,hj,rfl⟩:=List.getElem_of_mem hx
 have:=h j (List.mem_range.2 hj)
 simp only[q7,Bool.not_eq_true',decide_eq_false_iff_not,Decidable.not_not]at this
 rw[ot (List.getElem?_eq_getElem hj)]at this
 exact⟨this.1,this.2.1⟩
theorem nu{r:Rpt}(h:wC r=true):r.ok:=by
 simp only[wC,Bool.and_eq_true,decide_eq_true_eq]at h
 obtain⟨⟨a1,a2⟩,⟨b1,b2⟩,⟨c1,c2⟩,d,e⟩:=h
 exact⟨a1,a2,b1,b2,c1,c2,d,fun x hx=>(rQ e hx).1,fun x hx=>(rQ e hx).2⟩
theorem pD(l:List Int)(x:Int):eT (l++[x])=eT l++ct x 2:=by simp[eT]
theorem Gs(v:Int)(hv:0≤v):cY 1 N.aT [.nil,.t (.int .u64 v),I 2] []=some (.ref 0 0 2,[jS (ct v 2)]):=uH v hv 2 (by omega) (by omega)
theorem Gt(bs:List Int)(hb:bs.length≤1000000)(v:Int)(hv:0≤v):cY 1 N.aT [.ref 0 0 bs.length,.t (.int .u64 v),I 2] [jS bs]=some (.ref 0 0 (bs++ct v 2).length,[jS (bs++ct v 2)]):=oF bs hb v hv 2 (by omega)
theorem Gu(bs:List Int)(hb:bs.length≤1000000)(v:Int)(hv:0≤v):cY 1 N.aT [.ref 0 0 bs.length,.t (.int .u64 v),I 6] [jS bs]=some (.ref 0 0 (bs++ct v 6).length,[jS (bs++ct v 6)]):=oF bs hb v hv 6 (by omega)
abbrev tgH(r:Rpt)(L:List Int):ab:=[.box [I r.reader,I r.number,I r.time,.t (tL r.tags)],.box [I 0,I 0,.nil],jS L]
theorem kr(r:Rpt)(hl:r.tags.length≤1000000):cY 0 N.a8 [.t r.e] []=some (.tup [.t (oG r).1.e,I (oG r).2],[]):=by
 refine bU K.eQ rfl ?_
 have va:=pC r hl
 unfold oG
 cases hb:wC r with
 | false=>
   rw[hb]at va
   rw[if_neg (by simp)]
   obtain⟨reader,number,time,tags⟩:=r
   simp (disch:=omega) only[go_sem,K.a8,↓reduceIte,va,Nat.reduceAdd,Nat.reduceSub]
   rfl
 | true=>
   rw[hb]at va
   rw[if_pos rfl]
   have ok:=nu hb
   have tk:r.tags.take r.tags.length=r.tags:=List.take_length
   have ln:(r.tags.length:Int)≤20:=by have:=ok.l;omega
   have p1:=Gs r.number ok.n1
   have p2:=Gu (ct r.number 2) (by rw[aU];omega) r.time ok.t1
   have q1:(ct r.number 2).length=2:=aU _ _
   have q2:(ct r.number 2++ct r.time 6).length=8:=by rw[List.length_append,aU,aU]
   rw[q1,q2]at p2
   have lp:∀z0 z3 z5:D,exS cY K.gE ⟨[z0,.bp 0 0,.bp 1 0,z3,.ref 2 0 (fP r).length,z5,.t (tL r.tags),I r.tags.length,I 0],tgH r (fP r)⟩=
    some (.exit 0,⟨[.und,.bp 0 0,.bp 1 0,.und,.ref 2 0 (dh r).length,.und,.t (tL r.tags),I r.tags.length,I r.tags.length],tgH r (dh r)⟩):=by
    intro z0 z3 z5
    refine nh (fun j=>⟨[.und,.bp 0 0,.bp 1 0,.und,.ref 2 0 (fP r++eT (r.tags.take j)).length,.und,.t (tL r.tags),I r.tags.length,I j],tgH r (fP r++eT (r.tags.take j))⟩) r.tags.length rfl ?_ ?_ (by simp)
    · intro j hj
      have ex:(r.tags.map (T.int .i64))[j]?=some (.int .i64 (nth r.tags j)):=ni _ hj
      have t1:=ok.g1 _ (nj hj)
      have t2:=ok.g2 _ (nj hj)
      have w:=LO (a:=nth r.tags j) (by omega) (by omega)
      have tl:(fP r++eT (r.tags.take j)).length≤1000:=by
       have:=ok.l
       rw[List.length_append,eU,di,List.length_take];omega
      have pp:=Gt (fP r++eT (r.tags.take j)) (by omega) (nth r.tags j) (by omega)
      rw[tO hj,pD,←List.append_assoc]
      generalize fP r++eT (r.tags.take j)=q at*
      generalize nth r.tags j=y at*
      generalize q++ct y 2=qq at*
      obtain⟨reader,number,time,tags⟩:=r
      simp only[tgH,jS]at*
      simp (disch:=omega) only[go_sem,K.dD,↓reduceIte,ex,w,pp,Nat.reduceAdd,Nat.reduceSub]
    · have e:fP r++eT r.tags=dh r:=rfl
      rw[tk,e]
      generalize dh r=q at*
      obtain⟨reader,number,time,tags⟩:=r
      simp only[tgH,jS]at*
      simp (disch:=omega) only[go_sem,K.dD,↓reduceIte,Nat.reduceAdd,Nat.reduceSub]
   have w1:=LO (a:=r.number) (by have:=ok.n1;omega) (by have:=ok.n2;omega)
   have w2:=LO (a:=r.time) (by have:=ok.t1;omega) (by have:=ok.t2;omega)
   have w3:IntKind.u8.wrap (r.tags.length:Int)=r.tags.length:=by
    simp only[IntKind.wrap,IntKind.bits,IntKind.signed];simp;omega
   have hh:fP r=ct r.number 2++ct r.time 6++[(r.tags.length:Int)]:=rfl
   have hd:=jO r
   have dl:=ok.l
   simp only[eU]at lp
   rw[hh]at lp
   generalize dh r=dd at*
   obtain⟨reader,number,time,tags⟩:=r
   simp only at*
   generalize ct number 2++ct time 6=l8 at*
   generalize ct number 2=l2 at*
   simp only[tgH,jS,List.length_append,List.length_cons,List.length_nil,List.map_append,List.map_cons,List.map_nil]at*
   simp (disch:=omega) only[go_sem,K.a8,↓reduceIte,va,w1,p1,w2,p2,w3,q1,q2,lp,List.map_append,List.map_cons,List.map_nil,Nat.reduceAdd,Nat.reduceSub]
def txt(l:List Int):ByteArray:=⟨(l.map fun n=>UInt8.ofNat n.toNat).toArray⟩
def As(H:ab)(a:D):Option (D×ab):=(kU a).map fun d=>(d,H)
@[go_sem] theorem M1 (call : ag) (get : X → Option D) (H : ab) (x : X) : evO call get H (.bst x) = (get x).bind (As H) := (rfl)
theorem mc:∀l:List Int,aI byteOf (l.map (T.int .u8))=some (l.map fun n=>UInt8.ofNat n.toNat)
 | []=>rfl
 | x::l=>by simp only[List.map_cons,aI,byteOf,mc l,Option.bind_some,Option.map_some]
@[go_sem] theorem Ja (H : ab) (l : List Int) : As H (.t (.sl (l.map (T.int .u8)))) = some (.t (.str (txt l)), H) := by
 simp only[As,kU,mc,Option.map_some,txt]
@[go_sem] theorem Gv (H : ab) (a b : ByteArray) : fh H .str false (some (.t (.str a))) (some (.t (.str b))) = some (.t (.bool (a == b)), H) := (rfl)
theorem Au{a b:List Int}(ha:uI a)(hb:uI b)(h:txt a=txt b):a=b:=by
 have h1:(a.map fun n=>UInt8.ofNat n.toNat)=b.map fun n=>UInt8.ofNat n.toNat:=by
  have:=congrArg (fun t:ByteArray=>t.data.toList) h
  simpa [txt]using this
 refine List.ext_getElem? fun i=>?_
 have h2:=congrArg (fun l=>l[i]?) h1
 simp only[List.getElem?_map]at h2
 cases hx:a[i]? with
 | none=>
   rw[hx]at h2
   cases hy:b[i]? with
   | none=>rfl
   | some y=>rw[hy]at h2;cases h2
 | some x=>
   rw[hx]at h2
   cases hy:b[i]? with
   | none=>rw[hy]at h2;cases h2
   | some y=>
     rw[hy]at h2
     simp only[Option.map_some,Option.some.injEq]at h2
     have bx:=ha x (List.mem_of_getElem? hx)
     have bY:=hb y (List.mem_of_getElem? hy)
     have:=congrArg UInt8.toNat h2
     simp only[UInt8.toNat_ofNat']at this
     have:x=y:=by omega
     rw[this]
theorem NT(a b:ByteArray):(a==b)=decide (a=b):=by
 obtain⟨a⟩:=a;obtain⟨b⟩:=b
 show ByteArray.beq _ _=_
 unfold ByteArray.beq
 simp only[ByteArray.mk.injEq]
 rw[Bool.eq_iff_iff]
 simp
def oH(a b:Frm):Bool:=decide (a.addr=b.addr)&&(decide (a.kind=b.kind)&&(txt a.data==txt b.data))
theorem me(a b:Frm):cY 0 N.aB [.t a.e,.t b.e] []=some (B (oH a b),[]):=by
 refine bU K.cG rfl ?_
 obtain⟨a1,a2,a3⟩:=a
 obtain⟨b1,b2,b3⟩:=b
 simp only[oH]
 by_cases c1:a1=b1
 · by_cases c2:a2=b2
   · simp (disch:=omega) only[go_sem,K.aB,↓reduceIte,c1,c2,decide_true,Bool.true_and,Nat.reduceAdd,Nat.reduceSub]
   · simp (disch:=omega) only[go_sem,K.aB,↓reduceIte,c1,c2,decide_true,decide_false,Bool.true_and,Bool.false_and,Nat.reduceAdd,Nat.reduceSub]
 · simp (disch:=omega) only[go_sem,K.aB,↓reduceIte,c1,decide_false,Bool.false_and,Nat.reduceAdd,Nat.reduceSub]
def mg(a b:Rpt):Bool:=decide (a.reader=b.reader)&&(decide (a.number=b.number)&&(decide (a.time=b.time)&&decide (a.tags=b.tags)))
theorem rR(a b:Rpt)(hl:a.tags.length≤1000000):cY 0 N.ba [.t a.e,.t b.e] []=some (B (mg a b),[]):=by
 refine bU K.eR rfl ?_
 have s:=yV a.tags b.tags (by omega)
 obtain⟨a1,a2,a3,a4⟩:=a
 obtain⟨b1,b2,b3,b4⟩:=b
 simp only[mg]at*
 by_cases c1:a1=b1
 · by_cases c2:a2=b2
   · by_cases c3:a3=b3
     · simp (disch:=omega) only[go_sem,K.ba,↓reduceIte,c1,c2,c3,s,decide_true,Bool.true_and,Nat.reduceAdd,Nat.reduceSub]
     · simp (disch:=omega) only[go_sem,K.ba,↓reduceIte,c1,c2,c3,decide_true,decide_false,Bool.true_and,Bool.false_and,Nat.reduceAdd,Nat.reduceSub]
   · simp (disch:=omega) only[go_sem,K.ba,↓reduceIte,c1,c2,decide_true,decide_false,Bool.true_and,Bool.false_and,Nat.reduceAdd,Nat.reduceSub]
 · simp (disch:=omega) only[go_sem,K.ba,↓reduceIte,c1,decide_false,Bool.false_and,Nat.reduceAdd,Nat.reduceSub]
abbrev z4:List D:=[I 0,I 0,I 0,.nil]
theorem fQ{l:List Int}{y:Int}{j:Nat}(h:j<l.length):nth (l++[y]) j=nth l j:=by
 rw[ot (show(l++[y])[j]?=some l[j]by rw[List.getElem?_append_left h];exact List.getElem?_eq_getElem h),ot (List.getElem?_eq_getElem h)]
theorem kR(l:List Int)(y:Int):nth (l++[y]) l.length=y:=ot (by simp)
theorem rS{l:List Int}{lo hi y:Int}(h:q8 l lo hi=true)(h1:∀x∈l,x<y)(h2:lo≤y)(h3:y≤hi):q8 (l++[y]) lo hi=true:=by
 unfold q8 at*
 rw[Bool.not_eq_true',List.any_eq_false]at*
 intro j hj
 rw[List.mem_range,List.length_append,List.length_singleton]at hj
 simp only[q7,Bool.not_eq_true',decide_eq_false_iff_not,Decidable.not_not]at*
 by_cases e:j=l.length
 · subst e
   rw[kR]
   refine⟨h2,h3,fun h0=>?_⟩
   rw[fQ (by omega)]
   exact h1 _ (nj (by omega))
 · have:=h j (List.mem_range.2 (by omega))
   rw[fQ (by omega)]
   refine⟨this.1,this.2.1,fun h0=>?_⟩
   rw[fQ (by omega)]
   exact this.2.2 h0
structure RI(L:List Int)(t:Int)(j:Nat):Prop where
 l:L.length=j
 t0:0≤t
 t9:t≤3*j
 b:∀x∈L,1≤x∧x≤t
 r:q8 L 1 65535=true
theorem RI.nil:RI [] 0 0:=⟨rfl,by omega,by omega,fun x hx=>(by cases hx),rfl⟩
theorem RI.snoc{L:List Int}{t n:Int}{j:Nat}(h:RI L t j)(hj:j<100)(n0:0≤n)(n3:n<3):RI (L++[t+(1+n)]) (t+(1+n)) (j+1):=by
 have:=h.t0
 have:=h.t9
 refine⟨by simp[h.l],by omega,by omega,fun x hx=>?_,rS h.r (fun x hx=>by have:=h.b x hx;omega) (by omega) (by omega)⟩
 rcases List.mem_append.1 hx with hx | hx
 · have:=h.b x hx;omega
 · rw[List.mem_singleton.1 hx];omega
abbrev rpG(e:bg)(rd nb tm:Int)(L:List Int):ab:=[e.obj,.box z4,.box [I rd,I nb,I tm,.ref 4 0 L.length],.arr 1 false 0 [],.arr 1 false 0 ((L.map (T.int .i64)).map .t)]
def rpP(rd nb tm:Int)(n:Nat)(j:Nat)(s:St):Prop:=∃(e:bg) (L:List Int) (t:Int),s=⟨[.bp 0 0,.und,.bp 1 0,.bp 2 0,I t,I ((n:Int)-j)],rpG e rd nb tm L⟩∧e.fN∧RI L t j
theorem nv{d:bg}(hd:d.fN)(rd nb tm:Int)(n:Nat)(hn:n≤10):∃(e:bg) (L:List Int) (t:Int),e.fN∧RI L t n∧∀z1:D,
 exS cY K.b9 ⟨[.bp 0 0,z1,.bp 1 0,.bp 2 0,I 0,I n],rpG d rd nb tm []⟩=some (.exit 0,⟨[.bp 0 0,.und,.bp 1 0,.bp 2 0,I t,I 0],rpG e rd nb tm L⟩):=by
 have key:∀z1:D,∃r,exS cY K.b9 ⟨[.bp 0 0,z1,.bp 1 0,.bp 2 0,I 0,I n],rpG d rd nb tm []⟩=some r∧
  ∃(e:bg) (L:List Int) (t:Int),r=(.exit 0,⟨[.bp 0 0,.und,.bp 1 0,.bp 2 0,I t,I 0],rpG e rd nb tm L⟩)∧e.fN∧RI L t n:=by
  intro z1
  refine Ga (rpP rd nb tm n) n _ ?_ ?_ ?_
  · refine⟨d,[],0,?_,hd,.nil⟩
    simp only[Int.natCast_zero,Int.sub_zero];rfl
  · rintro j s hj ⟨e,L,t,rfl,l1,ri⟩
    obtain⟨v,e1,nx,l2,v1,v2⟩:=kp l1 3 (by omega) (by omega)
    refine .inl ⟨_,?_,e1,L++[t+(1+v)],t+(1+v),rfl,l2,ri.snoc (by omega) v1 v2⟩
    have g1:((n:Int)-j>0):=by omega
    have g2:(n:Int)-((j+1:Nat):Int)=(n:Int)-j-1:=by omega
    have:=ri.t0
    have:=ri.t9
    have:=ri.l
    simp only[rpG,g2,List.length_append,List.length_singleton,List.map_append,List.map_cons,List.map_nil]
    generalize (n:Int)-j=w at*
    simp (disch:=omega) only[go_sem,K.bV,↓reduceIte,nx,g1,List.map_append,List.map_cons,List.map_nil,Nat.reduceAdd,Nat.reduceSub]
  · rintro s ⟨e,L,t,rfl,l1,ri⟩
    refine⟨(.exit 0,⟨[.bp 0 0,.und,.bp 1 0,.bp 2 0,I t,I 0],rpG e rd nb tm L⟩),?_,by simp,e,L,t,rfl,l1,ri⟩
    simp only[rpG,Int.sub_self]
    simp (disch:=omega) only[go_sem,K.bV,↓reduceIte,Nat.reduceAdd,Nat.reduceSub]
 obtain⟨r,hr,e,L,t,rfl,a,b⟩:=key .und
 exact⟨e,L,t,a,b,fun z1=>by
  rw[← hr]
  show eG true _ _ ⟨cu _ _,_⟩=eG true _ _ ⟨cu _ _,_⟩
  simp (disch:=omega) only[go_sem,Nat.reduceAdd,Nat.reduceSub]⟩
structure ny(r:Rpt)(t:Int):Prop where
 r0:0≤r.reader
 r3:r.reader<3
 n0:0≤r.number
 n20:r.number<20
 t:r.time=t
 l:r.tags.length≤3
 r:q8 r.tags 1 65535=true
theorem ny.ok{r:Rpt}{t:Int}(h:ny r t)(h0:0≤t)(h1:t≤2147483648):wC r=true:=by
 have:=h.t
 have:=h.r0
 have:=h.r3
 have:=h.n0
 have:=h.n20
 have:=h.l
 unfold wC
 rw[h.r,decide_eq_true (show 0≤r.reader∧r.reader≤31 by omega),decide_eq_true (show 0≤r.number∧r.number≤65535 by omega),decide_eq_true (show 0≤r.time∧r.time≤2147483648 by omega),decide_eq_true (show r.tags.length≤20 by omega)]
 rfl
theorem oI{d:bg}(hd:d.fN)(t:Int):∃(r:Rpt) (e:bg),e.fN∧ny r t∧
 cY 0 N.au [.bp 0 0,I t] [d.obj]=some (.t r.e,[e.obj])∧cY 1 N.au [.bp 0 0,I t] [d.obj]=some (.agg [I r.reader,I r.number,I r.time,.ref 1 0 r.tags.length],[e.obj,M0 r.tags]):=by
 obtain⟨rd,e1,n1,l1,a0,a3⟩:=kp hd 3 (by omega) (by omega)
 obtain⟨nb,e2,n2,l2,b0,b20⟩:=kp l1 20 (by omega) (by omega)
 obtain⟨k,e3,n3,l3,k0,k4⟩:=kp l2 4 (by omega) (by omega)
 obtain⟨k,rfl⟩:=Int.eq_ofNat_of_zero_le k0
 obtain⟨e,L,tt,le,ri,lp⟩:=nv l3 rd nb t k (by omega)
 have ll:=ri.l
 refine⟨⟨rd,nb,t,L⟩,e,le,⟨a0,a3,b0,b20,rfl,by simp only;omega,ri.r⟩,?_,?_⟩
 · refine bU K.bI rfl ?_
   simp only[rpG,z4,List.length_nil,List.map_nil]at*
   clear ri ll
   simp (disch:=omega) only[go_sem,K.au,↓reduceIte,n1,n2,n3,lp,Nat.reduceAdd,Nat.reduceSub]
 · refine bU K.bI rfl ?_
   simp only[rpG,z4,List.length_nil,List.map_nil,M0]at*
   clear ri ll
   simp (disch:=omega) only[go_sem,K.au,↓reduceIte,n1,n2,n3,lp,Nat.reduceAdd,Nat.reduceSub]
theorem LP(v:Int):ct v 2=[v / 256 % 256,v % 256]:=by
 unfold ct
 rw[show List.range 2=[0,1]from rfl]
 simp only[List.map_cons,List.map_nil]
 rw[show(256:Int) ^ (2-1-0)=256 from rfl,show(256:Int) ^ (2-1-1)=1 from rfl,Int.ediv_one]
theorem LQ(v:Int):ct v 6=[v / 1099511627776 % 256,v / 4294967296 % 256,v / 16777216 % 256,v / 65536 % 256,v / 256 % 256,v % 256]:=by
 unfold ct
 rw[show List.range 6=[0,1,2,3,4,5]from rfl]
 simp only[List.map_cons,List.map_nil]
 rw[show(256:Int) ^ (6-1-0)=1099511627776 from rfl,show(256:Int) ^ (6-1-1)=4294967296 from rfl,show(256:Int) ^ (6-1-2)=16777216 from rfl,show(256:Int) ^ (6-1-3)=65536 from rfl,show(256:Int) ^ (6-1-4)=256 from rfl,show(256:Int) ^ (6-1-5)=1 from rfl,Int.ediv_one]
theorem gH{v:Int}(h:0≤v)(h2:v<65536):Ar (ct v 2)=v:=by
 rw[LP];simp only[Ar,List.foldl_cons,List.foldl_nil];omega
theorem mh{v:Int}(h:0≤v)(h2:v<281474976710656):Ar (ct v 6)=v:=by
 rw[LQ];simp only[Ar,List.foldl_cons,List.foldl_nil];omega
theorem jP(v:Int)(n:Nat):uI (ct v n):=by
 intro x hx
 simp only[ct,List.mem_map]at hx
 obtain⟨k,_,rfl⟩:=hx
 omega
theorem kt{r:Rpt}(h:r.ok):uI (dh r):=by
 have:=h.l
 intro x hx
 simp only[dh,fP,eT,List.mem_append,List.mem_singleton,List.mem_flatMap]at hx
 rcases hx with((hx | hx) | rfl) | ⟨y,_,hx⟩
 · exact jP _ _ x hx
 · exact jP _ _ x hx
 · omega
 · exact jP _ _ x hx
theorem nz(r:Rpt):(dh r).take 2=ct r.number 2:=by
 unfold dh fP
 rw[List.append_assoc,List.append_assoc,List.take_append_of_le_length (by rw[aU];omega)]
 exact List.take_of_length_le (by rw[aU];omega)
theorem rT(r:Rpt):((dh r).drop 2).take 6=ct r.time 6:=by
 unfold dh fP
 rw[List.append_assoc,List.append_assoc,List.drop_append,aU,List.drop_eq_nil_of_le (by rw[aU];omega),List.nil_append,Nat.sub_self,List.drop_zero,List.take_append_of_le_length (by rw[aU];omega)]
 exact List.take_of_length_le (by rw[aU];omega)
theorem mi:∀ {a b:List Int},(∀x∈a,0≤x∧x<65536)→(∀x∈b,0≤x∧x<65536)→eT a=eT b→a=b
 | [],[],_,_,_=>rfl
 | [],y::b,_,_,h=>by have:=congrArg List.length h;rw[di,di]at this;simp at this
 | x::a,[],_,_,h=>by have:=congrArg List.length h;rw[di,di]at this;simp at this
 | x::a,y::b,ha,hb,h=>by
   simp only[eT,List.flatMap_cons]at h
   have h1:=List.append_inj h (by rw[aU,aU])
   have hx:=ha x (by simp)
   have hy:=hb y (by simp)
   have e:=congrArg Ar h1.1
   rw[gH hx.1 hx.2,gH hy.1 hy.2]at e
   rw[e,mi (fun z hz=>ha z (by simp[hz])) (fun z hz=>hb z (by simp[hz])) h1.2]
theorem rU{r s:Rpt}(hr:r.ok)(hs:s.ok)(h:dh r=dh s):r.number=s.number∧r.time=s.time∧r.tags=s.tags:=by
 have e1:=congrArg (fun l=>Ar (l.take 2)) h
 have e2:=congrArg (fun l=>Ar ((l.drop 2).take 6)) h
 simp only[nz,rT]at e1 e2
 have a1:=hr.n1;have a2:=hr.n2;have a3:=hr.t1;have a4:=hr.t2
 have b1:=hs.n1;have b2:=hs.n2;have b3:=hs.t1;have b4:=hs.t2
 rw[gH a1 (by omega),gH b1 (by omega)]at e1
 rw[mh a3 (by omega),mh b3 (by omega)]at e2
 refine⟨e1,e2,?_⟩
 unfold dh at h
 have h3:=(List.append_inj h (by rw[eU,eU])).2
 exact mi (fun x hx=>⟨by have:=hr.g1 x hx;omega,by have:=hr.g2 x hx;omega⟩) (fun x hx=>⟨by have:=hs.g1 x hx;omega,by have:=hs.g2 x hx;omega⟩) h3
theorem nB{r s:Rpt}(hr:r.ok)(hs:s.ok):oH ⟨r.reader,9,dh r⟩ ⟨s.reader,9,dh s⟩=mg r s:=by
 simp only[oH,mg,NT,decide_true,Bool.true_and]
 rw[Bool.eq_iff_iff]
 simp only[Bool.and_eq_true,decide_eq_true_eq]
 constructor
 · rintro ⟨a,b⟩
   obtain⟨c,d,e⟩:=rU hr hs (Au (kt hr) (kt hs) b)
   exact⟨a,c,d,e⟩
 · rintro ⟨a,c,d,e⟩
   refine⟨a,?_⟩
   obtain⟨r1,r2,r3,r4⟩:=r
   obtain⟨s1,s2,s3,s4⟩:=s
   simp only at*
   subst a;subst c;subst d;subst e
   rfl
theorem uJ(aw:cY 0 N.bo [] []=some (B true,[]))(li lu:List Int):cY 0 N.aF [.t (tL li),.t (tL lu)] []=some (B true,[]):=by
 refine bU K.cF rfl ?_
 have lo:=ou li
 have lo2:=ou lu
 by_cases c:li.length≤400
 · rw[decide_eq_true c]at lo
   by_cases c2:lu.length≤400
   · rw[decide_eq_true c2]at lo2
     have ro:=vY li
     have ro2:=vY lu
     have d0:(bg.mk li 0).fN:=c
     have e0:(bg.mk lu 0).fN:=c2
     generalize (bg.mk li 0)=d at*
     generalize (bg.mk lu 0)=e at*
     obtain⟨t,d1,n1,l1,t0,t9⟩:=kp d0 1000 (by omega) (by omega)
     obtain⟨u,e1,n2,l2,u0,u9⟩:=kp e0 1000 (by omega) (by omega)
     obtain⟨r,d2,l3,rm,rx, -⟩:=oI l1 t
     obtain⟨s,e2,l4,sm,sx, -⟩:=oI l2 u
     have rb:=rm.ok t0 (by omega)
     have sb:=sm.ok u0 (by omega)
     have rl:=rm.l
     have sl:=sm.l
     have w1:=kr r (by omega)
     have w2:=kr s (by omega)
     simp only[oG,rb,sb,if_true]at w1 w2
     have sf:=me ⟨r.reader,9,dh r⟩ ⟨s.reader,9,dh s⟩
     rw[nB (nu rb) (nu sb)]at sf
     have sr:=rR r s (by omega)
     have k1:=jO r
     have k2:=jO s
     generalize dh r=f at*
     generalize dh s=g at*
     generalize mg r s=b at*
     obtain⟨r1,r2,r3,r4⟩:=r
     obtain⟨s1,s2,s3,s4⟩:=s
     simp only at*
     clear rm sm rb sb
     have k3:(f.length:Int)=9+2*r4.length:=by omega
     have k4:(g.length:Int)=9+2*s4.length:=by omega
     simp (disch:=omega) only[go_sem,K.aF,↓reduceIte,lo,lo2,ro,ro2,n1,n2,rx,sx,w1,w2,aw,sf,sr,k3,k4,decide_true,beq_self_eq_true,Nat.reduceAdd,Nat.reduceSub]
   · rw[decide_eq_false c2]at lo2
     simp (disch:=omega) only[go_sem,K.aF,↓reduceIte,lo,lo2,aw,Nat.reduceAdd,Nat.reduceSub]
 · rw[decide_eq_false c]at lo
   simp (disch:=omega) only[go_sem,K.aF,↓reduceIte,lo,aw,Nat.reduceAdd,Nat.reduceSub]
end Go.Ev
