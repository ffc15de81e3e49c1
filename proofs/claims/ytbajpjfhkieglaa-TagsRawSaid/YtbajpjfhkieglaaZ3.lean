/- Parts of the proof: see the text that holds the theorem. -/
import Derived.Test.YtbajpjfhkieglaaZ2
set_option linter.all false
set_option maxRecDepth 100000
namespace Go.Ev
open Go
abbrev I(n:Int):D:= .t (.int .i64 n)
abbrev B(b:Bool):D:= .t (.bool b)
def qe{β:Type}(call:ah):List R→List D→List D→ab→(List D→List D→ab→Option β)→Option β
 | rs,L,vs,H,K=>(evR call rs L vs H).bind fun q=>K q.1 q.2.1 q.2.2
def xL{β:Type}(call:ah)(rs:List R)(d:Option Nat)(L vs:List D)(K:List D→List D→ab→Option β)(p:D×ab):Option β:=
 qe call rs (p.1::L) (wr vs d p.1) p.2 K
@[go_sem] theorem Hg {β : Type} (call : ah) (rs : List R) (d : Option Nat) (L vs : List D) (K : List D → List D → ab → Option β) (x : D) (H : ab) :
 xL call rs d L vs K (x,H)=qe call rs (x::L) (wr vs d x) H K:=(rfl)
@[go_sem] theorem Hh {β : Type} (call : ah) (L vs : List D) (H : ab) (K : List D → List D → ab → Option β) : qe call [] L vs H K = K L vs H := (rfl)
@[go_sem] theorem Eg {β : Type} (call : ah) (o : O) (d : Option Nat) (rs : List R) (L vs : List D) (H : ab) (K : List D → List D → ab → Option β) :
 qe call (⟨o,d,none⟩::rs) L vs H K=(evO call (X.get vs L) H o).bind (xL call rs d L vs K):=by
 simp[qe,evR,aE,Option.bind_assoc]
 rfl
def gate{β:Type}(c:Option D)(w:Bool)(a b:Option β):Option β:=match c with
 | some (.t (.bool x))=>if x=w then a else b
 | some (.tup [])=>b
 | _=>none
@[congr] theorem Ba {β : Type} {c c' : Option D} {w : Bool} {a b : Option β} (h : True → c = c') : gate c w a b = gate c' w a b := by rw [h trivial]
@[go_sem] theorem Hi {β : Type} (p : Prop) [Decidable p] (a b : Option β) : gate (some (.t (.bool (decide p)))) true a b = if p then a else b := by
 by_cases h:p<;>simp[gate,h]
@[go_sem] theorem Eh {β : Type} (p : Prop) [Decidable p] (a b : Option β) : gate (some (.t (.bool (decide p)))) false a b = if p then b else a := by
 by_cases h:p<;>simp[gate,h]
@[go_sem] theorem Ei {β : Type} (x : Bool) (a b : Option β) : gate (some (.t (.bool x))) true a b = if x = true then a else b := (rfl)
@[go_sem] theorem Bb {β : Type} (x : Bool) (a b : Option β) : gate (some (.t (.bool x))) false a b = if x = true then b else a := by cases x <;> rfl
@[go_sem] theorem Ej {β : Type} (w : Bool) (a b : Option β) : gate (some (.tup [])) w a b = b := (rfl)
@[go_sem] theorem Ek {β : Type} (call : ah) (o : O) (d : Option Nat) (k : Nat) (w : Bool) (rs : List R) (L vs : List D) (H : ab) (K : List D → List D → ab → Option β) :
 qe call (⟨o,d,some (k,w)⟩::rs) L vs H K=gate L[k]? w ((evO call (X.get vs L) H o).bind (xL call rs d L vs K)) (qe call rs (.tup []::L) (wr vs d (.tup [])) H K):=by
 simp only[qe,evR,aE]
 cases hL:L[k]? with
 | none=>simp[gate]
 | some c=>
   simp only[Option.bind_some]
   cases c with
   | t x=>
     cases x with
     | bool b=>cases b<;>cases w<;>simp[gate,Option.bind_assoc]<;>rfl
     | _=>simp[gate]
   | tup ds=>
     cases ds with
     | nil=>simp[gate]
     | cons=>simp[gate]
   | _=>simp[gate]
open Classical in
noncomputable def iW{β:Type}(p:Prop)(x:Option β):Option β:=if p then x else none
@[go_sem] theorem xM {β : Type} (x : Option β) : iW True x = x := by simp [iW]
noncomputable def mE{β:Type}(call:ah)(all:List R)(n:Nat)(ps:List (Nat×Nat))(rs:List R)(L vs:List D)(H:ab)(acc:List Tr)(K:List D→List D→ab→Option β):Option β:=
 (evR call rs L vs H).bind fun q=>iW (eO call all n ((trace call rs L vs H).reverse++acc) ps) (K q.1 q.2.1 q.2.2)
noncomputable def rp{β:Type}(call:ah)(all:List R)(n:Nat)(ps:List (Nat×Nat))(rs:List R)(d:Option Nat)(L vs:List D)(H:ab)(acc:List Tr)(K:List D→List D→ab→Option β)(p:D×ab):Option β:=
 mE call all n ps rs (p.1::L) (wr vs d p.1) p.2 ((L,vs,H)::acc) K
@[go_sem] theorem Hj {β : Type} (call : ah) (all : List R) (n : Nat) (ps : List (Nat × Nat)) (rs : List R) (d : Option Nat) (L vs : List D) (H : ab) (acc : List Tr) (K : List D → List D → ab → Option β) (x : D) (H' : ab) :
 rp call all n ps rs d L vs H acc K (x,H')=mE call all n ps rs (x::L) (wr vs d x) H' ((L,vs,H)::acc) K:=(rfl)
@[go_sem] theorem Hk {β : Type} (call : ah) (all : List R) (n : Nat) (ps : List (Nat × Nat)) (L vs : List D) (H : ab) (acc : List Tr) (K : List D → List D → ab → Option β) :
 mE call all n ps [] L vs H acc K=iW (eO call all n ((L,vs,H)::acc) ps) (K L vs H):=by
 simp[mE,evR,trace]
theorem mF{β:Type}(call:ah)(all:List R)(n:Nat)(ps:List (Nat×Nat))(r:R)(rs:List R)(L vs:List D)(H:ab)(acc:List Tr)(K:List D→List D→ab→Option β):
 mE call all n ps (r::rs) L vs H acc K=(aE L r.g).bind fun w=>
  if w then(evO call (X.get vs L) H r.o).bind (rp call all n ps rs r.d L vs H acc K)else mE call all n ps rs (.tup []::L) (wr vs r.d (.tup [])) H ((L,vs,H)::acc) K:=by
 obtain hw | ⟨w,hw⟩:aE L r.g=none∨∃w,aE L r.g=some w:=by cases aE L r.g<;>simp
 · simp[mE,evR,trace,hw]
 · cases w with
   | true=>
     obtain hq | ⟨q,hq⟩:evO call (X.get vs L) H r.o=none∨∃q,evO call (X.get vs L) H r.o=some q:=by cases evO call (X.get vs L) H r.o<;>simp
     · simp[mE,evR,trace,hw,hq]
     · simp[mE,evR,trace,hw,hq,rp]
   | false=>simp[mE,evR,trace,hw]
@[go_sem] theorem El {β : Type} (call : ah) (all : List R) (n : Nat) (ps : List (Nat × Nat)) (o : O) (d : Option Nat) (rs : List R) (L vs : List D) (H : ab) (acc : List Tr) (K : List D → List D → ab → Option β) :
 mE call all n ps (⟨o,d,none⟩::rs) L vs H acc K=(evO call (X.get vs L) H o).bind (rp call all n ps rs d L vs H acc K):=by
 rw[mF];simp[aE]
@[go_sem] theorem Em {β : Type} (call : ah) (all : List R) (n : Nat) (ps : List (Nat × Nat)) (o : O) (d : Option Nat) (k : Nat) (w : Bool) (rs : List R) (L vs : List D) (H : ab) (acc : List Tr) (K : List D → List D → ab → Option β) :
 mE call all n ps (⟨o,d,some (k,w)⟩::rs) L vs H acc K=
  gate L[k]? w ((evO call (X.get vs L) H o).bind (rp call all n ps rs d L vs H acc K)) (mE call all n ps rs (.tup []::L) (wr vs d (.tup [])) H ((L,vs,H)::acc) K):=by
 rw[mF]
 simp only[aE]
 cases hL:L[k]? with
 | none=>simp[gate]
 | some c=>
   simp only[Option.bind_some]
   cases c with
   | t x=>
     cases x with
     | bool b=>cases b<;>cases w<;>simp[gate]
     | _=>simp[gate]
   | tup ds=>
     cases ds with
     | nil=>simp[gate]
     | cons=>simp[gate]
   | _=>simp[gate]
def jg(call:ah):Option R→Option Tr→Option Tr→Option Tr→Prop
 | some r,some s,some a,some s'=>(match r.o with
   | .al _ _=>a.2.2[s.2.2.length]?=s'.2.2[s.2.2.length]?
   | .bs xs _=>aE s.1 r.g=some false∨((aH (X.get s.2.1 s.1) xs).bind ee).isSome=true
   | o=>fR o=true∧(aE s.1 r.g=some false∨kM (evO call (X.get s.2.1 s.1) a.2.2 o)=kM (evO call (X.get s.2.1 s.1) s.2.2 o)))
 | _,_,_,_=>False
@[go_sem] theorem Bc (call : ah) (all : List R) (n : Nat) (acc : List Tr) : eO call all n acc [] = True := (rfl)
@[go_sem] theorem xN (call : ah) (all : List R) (n : Nat) (acc : List Tr) (p m : Nat) (r : List (Nat × Nat)) :
 eO call all n acc ((p,m)::r)=(jg call all[p]? acc[n-p]? acc[n-m]? acc[n-(p+1)]?∧m≤n∧eO call all n acc r):=by
 simp only[eO,xK,jg]
 try rfl
section
variable (call : ah) (d : Option Nat) (gd : Option (Nat × Bool)) (L vs L' vs' : List D) (H H' : ab) (s' : Tr)
@[go_sem] theorem Hl (x : X) (n : Nat) (agg : Bool) : jg call (some ⟨.ld x n agg, d, gd⟩) (some (L, vs, H)) (some (L', vs', H')) (some s') =
 (aE L gd=some false∨kM (evO call (X.get vs L) H' (.ld x n agg))=kM (evO call (X.get vs L) H (.ld x n agg))):=by simp[jg,fR]
@[go_sem] theorem Hm (x i : X) (sz : Nat) : jg call (some ⟨.ia x i sz, d, gd⟩) (some (L, vs, H)) (some (L', vs', H')) (some s') =
 (aE L gd=some false∨kM (evO call (X.get vs L) H' (.ia x i sz))=kM (evO call (X.get vs L) H (.ia x i sz))):=by simp[jg,fR]
@[go_sem] theorem Hn (x : X) (lo hi : Option X) (sz : Nat) : jg call (some ⟨.sc x lo hi sz, d, gd⟩) (some (L, vs, H)) (some (L', vs', H')) (some s') =
 (aE L gd=some false∨kM (evO call (X.get vs L) H' (.sc x lo hi sz))=kM (evO call (X.get vs L) H (.sc x lo hi sz))):=by simp[jg,fR]
@[go_sem] theorem En (x : X) (z : T) (sz : Nat) : jg call (some ⟨.mkt x z sz, d, gd⟩) (some (L, vs, H)) (some (L', vs', H')) (some s') =
 (aE L gd=some false∨kM (evO call (X.get vs L) H' (.mkt x z sz))=kM (evO call (X.get vs L) H (.mkt x z sz))):=by simp[jg,fR]
@[go_sem] theorem Ho (z : List D) (l : List (Nat × Nat)) (L2 vs2 : List D) (H2 : ab) : jg call (some ⟨.al z l, d, gd⟩) (some (L, vs, H)) (some (L', vs', H')) (some (L2, vs2, H2)) = (H'[H.length]? = H2[H.length]?) := (rfl)
@[go_sem] theorem Hp (xs : List X) (sz : Nat) : jg call (some ⟨.bs xs sz, d, gd⟩) (some (L, vs, H)) (some (L', vs', H')) (some s') =
 (aE L gd=some false∨((aH (X.get vs L) xs).bind ee).isSome=true):=(rfl)
@[go_sem] theorem vz (L : List D) : aE L none = some true := (rfl)
def xO(w:Bool):Option D→Option Bool
 | some (.t (.bool b))=>some (b==w)
 | some (.tup [])=>some false
 | _=>none
@[go_sem] theorem Bd (w b : Bool) : xO w (some (.t (.bool b))) = some (b == w) := (rfl)
@[go_sem] theorem Eo (w : Bool) : xO w (some (.tup [])) = some false := (rfl)
@[go_sem] theorem vA (L : List D) (k : Nat) (w : Bool) : aE L (some (k, w)) = xO w L[k]? := by
 simp only[aE]
 cases L[k]? with
 | none=>rfl
 | some c=>cases c with
   | t x=>cases x<;>rfl
   | tup ds=>cases ds<;>rfl
   | _=>rfl
@[go_sem] theorem Ep (x : D) : kM (some (x, H)) = some x := (rfl)
attribute [go_sem] beq_true beq_false or_true true_or or_self
end
theorem oL(call:ah)(rs:List R)(vs:List D)(H:ab):nN call rs [] vs H=evR call rs [] vs H:=by
 simp[nN,eO]
def JT(L vs:List D)(H:ab):Option (Ex×St):=some (.normal,⟨vs,H⟩)
noncomputable def JU(call:ah)(k:Nat)(a b:C)(L vs:List D)(H:ab):Option (Ex×St):=bz L[k]? (exS call a ⟨vs,H⟩) (exS call b ⟨vs,H⟩)
@[go_sem] theorem JV (L vs : List D) (H : ab) : JT L vs H = some (.normal, ⟨vs, H⟩) := (rfl)
@[go_sem] theorem JW (call : ah) (k : Nat) (a b : C) (L vs : List D) (H : ab) : JU call k a b L vs H = bz L[k]? (exS call a ⟨vs, H⟩) (exS call b ⟨vs, H⟩) := (rfl)
def andThen(x:Option (Ex×St))(k:St→Option (Ex×St)):Option (Ex×St):=x.bind fun p=>bD p k
@[go_sem] theorem sH (st : St) (k : St → Option (Ex × St)) : andThen (some (.normal, st)) k = k st := (rfl)
@[go_sem] theorem xP (st : St) (k : St → Option (Ex × St)) : andThen (some (.ret, st)) k = some (.ret, st) := (rfl)
@[go_sem] theorem vB (i : Nat) (st : St) (k : St → Option (Ex × St)) : andThen (some (.exit i, st)) k = some (.exit i, st) := (rfl)
@[go_sem] theorem vC (k : St → Option (Ex × St)) : andThen none k = none := (rfl)
@[go_sem] theorem andThen_ite (c : Prop) [Decidable c] (a b : Option (Ex × St)) (k : St → Option (Ex × St)) : andThen (if c then a else b) k = if c then andThen a k else andThen b k := by
 split<;>rfl
@[go_sem] theorem Hq (call : ah) (st : St) : exS call .skip st = some (.normal, st) := (rfl)
@[go_sem] theorem JX (call : ah) (rs : List R) (vs : List D) (H : ab) : exS call (.reg rs []) ⟨vs, H⟩ = qe call rs [] vs H JT := by
 simp only[exS,oL,qe]
 cases evR call rs [] vs H<;>rfl
@[go_sem] theorem Hr (call : ah) (rs : List R) (p : Nat × Nat) (ps : List (Nat × Nat)) (vs : List D) (H : ab) :
 exS call (.reg rs (p::ps)) ⟨vs,H⟩=mE call rs rs.length (p::ps) rs [] vs H [] JT:=by
 simp only[exS,nN,mE,List.append_nil]
 by_cases h:eO call rs rs.length (trace call rs [] vs H).reverse (p::ps)
 · rw[if_pos h]
   simp only[iW,if_pos h]
   cases evR call rs [] vs H<;>rfl
 · rw[if_neg h]
   simp only[iW,if_neg h]
   cases evR call rs [] vs H<;>rfl
@[go_sem] theorem JY (call : ah) (a b : C) (st : St) : exS call (.seq a b) st = andThen (exS call a st) (exS call b) := (rfl)
@[go_sem] theorem JZ (call : ah) (rs : List R) (k : Nat) (a b : C) (vs : List D) (H : ab) : exS call (.ite rs [] k a b) ⟨vs, H⟩ = qe call rs [] vs H (JU call k a b) := by
 simp only[exS,oL,qe]
 cases evR call rs [] vs H<;>rfl
@[go_sem] theorem Ht (call : ah) (rs : List R) (p : Nat × Nat) (ps : List (Nat × Nat)) (k : Nat) (a b : C) (vs : List D) (H : ab) :
 exS call (.ite rs (p::ps) k a b) ⟨vs,H⟩=mE call rs rs.length (p::ps) rs [] vs H [] (JU call k a b):=by
 simp only[exS,nN,mE,List.append_nil]
 by_cases h:eO call rs rs.length (trace call rs [] vs H).reverse (p::ps)
 · rw[if_pos h]
   simp only[iW,if_pos h]
   cases evR call rs [] vs H<;>rfl
 · rw[if_neg h]
   simp only[iW,if_neg h]
   cases evR call rs [] vs H<;>rfl
@[go_sem] theorem J0 (call : ah) (rs : List R) (ps : List (Nat × Nat)) (k : Nat) (a b c : C) (st : St) : exS call (.its rs ps k a b c) st = andThen (exS call (.ite rs ps k a b) st) (exS call c) := (rfl)
@[go_sem] theorem J1 (call : ah) (rs : List R) (ps : List (Nat × Nat)) (k : Nat) (a b c : C) (st : St) : exS call (.itk rs ps k a b c) st = exS call (.ite rs ps k (.seq a c) (.seq b c)) st := (rfl)
@[go_sem] theorem J2 (call : ah) (j : Nat) (a b : C) (vs : List D) (H : ab) : exS call (.itv j a b) ⟨vs, H⟩ = bz vs[j]? (exS call a ⟨vs, H⟩) (exS call b ⟨vs, H⟩) := (rfl)
@[go_sem] theorem Hu (call : ah) (id : Nat) (st : St) : exS call (.exit id) st = some (.exit id, st) := (rfl)
@[go_sem] theorem J3 (call : ah) (st : St) : exS call .ret st = some (.ret, st) := (rfl)
@[go_sem] theorem Hv (call : ah) (st : St) : exS call .fail st = none := (rfl)
@[go_sem] theorem xQ (call : ah) (x p f : Nat) (r1 : List R) (p1 : List (Nat × Nat)) (r2 : List R) (p2 : List (Nat × Nat)) (vs : List D) (H : ab) : exS call (.rng x p f r1 p1 r2 p2) ⟨vs, H⟩ = (om (stepG (nN call) vs p r1 p1 r2 p2) (qy f vs[x]?) H).map fun H => (.normal, ⟨vs, H⟩) := (rfl)
@[go_sem] theorem J4 (call : ah) (v : Bool) (c : C) (st : St) : exS call (.cnd v c) st = exS call c st := (rfl)
def j9(id:Nat)(x:Option (Ex×St)):Option (Ex×St):=x.map (leave id)
@[go_sem] theorem J5 (call : ah) (id : Nat) (c : C) (st : St) : exS call (.blk id c) st = j9 id (exS call c st) := (rfl)
@[go_sem] theorem vD (id : Nat) (st : St) : j9 id (some (.normal, st)) = some (.normal, st) := by simp [j9, leave]
@[go_sem] theorem Er (id : Nat) (st : St) : j9 id (some (.ret, st)) = some (.ret, st) := by simp [j9, leave]
@[go_sem] theorem Be (id i : Nat) (st : St) : j9 id (some (.exit i, st)) = if i = id then some (.normal, st) else some (.exit i, st) := by
 simp only[j9,leave,Option.map_some,Ex.exit.injEq]
 split<;>rfl
@[go_sem] theorem Bf (id : Nat) : j9 id none = none := (rfl)
@[go_sem] theorem Es (id : Nat) (c : Prop) [Decidable c] (a b : Option (Ex × St)) : j9 id (if c then a else b) = if c then j9 id a else j9 id b := by
 split<;>rfl
@[congr] theorem xR {c c' : Option D} {a b : Option (Ex × St)} (h : True → c = c') : bz c a b = bz c' a b := by rw [h trivial]
@[go_sem] theorem Et (p : Prop) [Decidable p] (a b : Option (Ex × St)) : bz (some (.t (.bool (decide p)))) a b = if p then a else b := by
 by_cases h:p<;>simp[bz,h]
@[go_sem] theorem Bg (p : Prop) [Decidable p] (a b : Option (Ex × St)) : bz (some (.t (.bool (!decide p)))) a b = if p then b else a := by
 by_cases h:p<;>simp[bz,h]
@[go_sem] theorem Hw (a : Option (Ex × St)) : bz (some .ub) a a = a := by simp [bz]
@[go_sem] theorem Bh (x : Bool) (a b : Option (Ex × St)) : bz (some (.t (.bool x))) a b = if x = true then a else b := (rfl)
def gQ(gc:Bool)(dead:List Nat)(k:Nat)(x:Option (Ex×St)):Option St:=x.bind fun p=>match p.1 with
 | .normal=>tidy gc dead k p.2
 | _=>none
@[go_sem] theorem tZ (gc : Bool) (dead : List Nat) (k : Nat) (st : St) : gQ gc dead k (some (.normal, st)) = tidy gc dead k st := (rfl)
@[go_sem] theorem Bi (gc : Bool) (dead : List Nat) (k : Nat) (c : Prop) [Decidable c] (a b : Option (Ex × St)) : gQ gc dead k (if c then a else b) = if c then gQ gc dead k a else gQ gc dead k b := by
 split<;>rfl
theorem lz{gc:Bool}{dead:List Nat}{body:St→Option (Ex×St)}(s:Nat→St){p:Ex×St}(n:Nat)
 (h:∀j,j<n→gQ gc dead (s j).H.length (body (s j))=some (s (j+1))) (he:jf gc dead body (s n)=some p):jf gc dead body (s 0)=some p:=by
 have:=iV (s:=s) n 0 (fun j _ hj=>by
  have h:=h j (by omega)
  unfold gQ at h
  obtain⟨⟨e,st1⟩,hq,h⟩:=Option.bind_eq_some_iff.1 h
  cases e with
  | normal=>exact⟨st1,hq,h⟩
  | ret=>cases h
  | exit=>cases h) (by simpa using he)
 exact this
def Hx(res:List (Nat×Option (Nat×Bool)))(k raw:Nat)(p:Ex×St):Option (D×ab):=match p.1 with
 | .exit _=>none
 | _=>(cb p.2 res).bind (finish k raw p.2.H)
@[go_sem] theorem Hy (res : List (Nat × Option (Nat × Bool))) (k raw : Nat) (vs : List D) (H : ab) : Hx res k raw (.ret, ⟨vs, H⟩) = (cb ⟨vs, H⟩ res).bind (finish k raw H) := (rfl)
@[go_sem] theorem xS (res : List (Nat × Option (Nat × Bool))) (k raw : Nat) (vs : List D) (H : ab) : Hx res k raw (.normal, ⟨vs, H⟩) = (cb ⟨vs, H⟩ res).bind (finish k raw H) := (rfl)
theorem xT{fs:Nat→Option Fn}{raw f:Nat}{args:List D}{H:ab}{fn:Fn}{r:D×ab}(hf:fs f=some fn)(hn:fn.nargs=args.length)
 (h:(exS (dy fs) fn.body ⟨fN args fn.vars,H⟩).bind (Hx fn.res H.length raw)=some r) (h0:fn.prim=[]:=by rfl):dy fs raw f args H=some r:=by
 obtain⟨p,hp,he⟩:=Option.bind_eq_some_iff.1 h
 exact tT hf hn (tY _ _ _ hp) he h0
@[go_sem] theorem Hz {α β : Type} (c : Prop) [Decidable c] (a b : Option α) (k : α → Option β) : (if c then a else b).bind k = if c then a.bind k else b.bind k := by
 split<;>rfl
@[go_sem] theorem J6 {α β : Type} (c : Prop) [Decidable c] (a b : Option α) (k : α → β) : (if c then a else b).map k = if c then a.map k else b.map k := by
 split<;>rfl
theorem Eu(a b:Int):(a==b)=decide (a=b):=by rw[Bool.eq_iff_iff];simp
theorem xU{n:Int}(h1: -9223372036854775808≤n)(h2:n≤9223372036854775807):IntKind.i64.wrap n=n:=by
 have e:IntKind.i64.wrap n=if n % 18446744073709551616≥9223372036854775808 then n % 18446744073709551616-18446744073709551616 else n % 18446744073709551616:=by
  simp[IntKind.wrap,IntKind.signed,IntKind.bits]
 rw[e];split<;>omega
section
variable {α β : Type}
@[go_sem] theorem xV (a : α) (f : α → Option β) : (some a).bind f = f a := (rfl)
@[go_sem] theorem Bj (a : α) (f : α → β) : (some a).map f = some (f a) := (rfl)
@[go_sem] theorem xW (f : α → Option β) : (none : Option α).bind f = none := (rfl)
@[go_sem] theorem Bk (f : α → β) : (none : Option α).map f = none := (rfl)
@[go_sem] theorem Bl (a : α) (l : List α) (f : α → β) : (a :: l).map f = f a :: l.map f := (rfl)
@[go_sem] theorem Ew (f : α → β) : ([] : List α).map f = [] := (rfl)
@[go_sem] theorem Bm (a : α) (l : List α) : (a :: l)[0]? = some a := (rfl)
@[go_sem] theorem Bo (a : α) (l : List α) (n : Nat) : (a :: l)[n + 1]? = l[n]? := (rfl)
@[go_sem] theorem xX (a d : α) (l : List α) : (a :: l).getD 0 d = a := (rfl)
@[go_sem] theorem xY (a d : α) (l : List α) (n : Nat) : (a :: l).getD (n + 1) d = l.getD n d := (rfl)
@[go_sem] theorem Bp (d : α) (n : Nat) : ([] : List α).getD n d = d := by simp
@[go_sem] theorem Bq (a b : α) (l : List α) : (a :: l).set 0 b = b :: l := (rfl)
@[go_sem] theorem Br (a b : α) (l : List α) (n : Nat) : (a :: l).set (n + 1) b = a :: l.set n b := (rfl)
@[go_sem] theorem ua (a : α) (l m : List α) : (a :: l) ++ m = a :: (l ++ m) := (rfl)
@[go_sem] theorem vE (l : List α) : [] ++ l = l := (rfl)
@[go_sem] theorem vF (l : List α) : l ++ [] = l := by simp
@[go_sem] theorem sI (a : α) (l : List α) (f : α → List β) : (a :: l).flatMap f = f a ++ l.flatMap f := by simp
@[go_sem] theorem uc (f : α → List β) : ([] : List α).flatMap f = [] := by simp
@[go_sem] theorem vG : ([] : List α).length = 0 := (rfl)
@[go_sem] theorem ud (a : α) (l : List α) : (a :: l).length = l.length + 1 := (rfl)
@[go_sem] theorem vH (l : List α) (f : α → β) : (l.map f).length = l.length := by simp
@[go_sem] theorem rq (l m : List α) : (l ++ m).length = l.length + m.length := by simp
@[go_sem] theorem oM (n : Nat) (a : α) : (List.replicate n a).length = n := by simp
@[go_sem] theorem vI (l : List α) (i : Nat) (a : α) : (l.set i a).length = l.length := by simp
@[go_sem] theorem xZ (l : List α) : l.drop 0 = l := (rfl)
@[go_sem] theorem x0 (a : α) (l : List α) (n : Nat) : (a :: l).drop (n + 1) = l.drop n := (rfl)
@[go_sem] theorem Bt (n : Nat) : ([] : List α).drop n = [] := by simp
@[go_sem] theorem x3 (l : List α) : l.take 0 = [] := (rfl)
@[go_sem] theorem x4 (a : α) (l : List α) (n : Nat) : (a :: l).take (n + 1) = a :: l.take n := (rfl)
@[go_sem] theorem Bu (n : Nat) : ([] : List α).take n = [] := by simp
@[go_sem] theorem x5 (a b : α) : (bif true then a else b) = a := (rfl)
@[go_sem] theorem vJ (a b : α) : (bif false then a else b) = b := (rfl)
@[go_sem] theorem Bv (n : Nat) : n + 0 = n := (rfl)
@[go_sem] theorem Bw (n : Nat) : 0 + n = n := by simp
@[go_sem] theorem Bx (a b : α) : (some a = some b) = (a = b) := by simp
@[go_sem] theorem HA (a : α) : (some a).isSome = true := (rfl)
end
attribute [go_sem] decide_true decide_false if_true if_false Bool.false_eq_true Bool.true_eq_false decide_eq_true_eq decide_eq_false_iff_not Bool.and_eq_true Bool.or_eq_true Bool.not_eq_true' Bool.not_eq_true Bool.not_eq_false
 Bool.and_true Bool.true_and Bool.and_false Bool.false_and Bool.or_true Bool.true_or Bool.or_false Bool.false_or and_true true_and and_self not_true_eq_false not_false_eq_true beq_iff_eq bne_iff_ne ne_eq
@[go_sem] theorem By : (!true) = false := (rfl)
@[go_sem] theorem x6 : (!false) = true := (rfl)
@[go_sem] theorem NB (vs L : List D) (j : Nat) : X.get vs L (.v j) = vs[j]? := (rfl)
@[go_sem] theorem NC (vs L : List D) (k : Nat) : X.get vs L (.l k) = L[k]? := (rfl)
@[go_sem] theorem ND (vs L : List D) (d : D) : X.get vs L (.c d) = some d := (rfl)
@[go_sem] theorem NF (vs L : List D) (n : Int) : X.get vs L (.i n) = some (I n) := (rfl)
@[go_sem] theorem NG (vs L : List D) (x : Bool) : X.get vs L (.b x) = some (B x) := (rfl)
@[go_sem] theorem J7 (vs : List D) (x : D) : wr vs none x = vs := (rfl)
@[go_sem] theorem J8 (vs : List D) (s : Nat) (x : D) : wr vs (some s) x = vs.set s x := (rfl)
@[go_sem] theorem Bz (args : List D) : fN args [] = [] := (rfl)
@[go_sem] theorem x7 (args : List D) (s : Nat) (r : List Nat) : fN args (s :: r) = args.getD s .und :: fN args r := (rfl)
def J9(H:ab)(d:D):Option (D×ab):=some (d,H)
@[go_sem] theorem Ka (H : ab) (d : D) : J9 H d = some (d, H) := (rfl)
def cJ{α:Type}(a:α)(l:Option (List α)):Option (List α):=l.map (a:: ·)
@[go_sem] theorem BA {α : Type} (a : α) (l : List α) : cJ a (some l) = some (a :: l) := (rfl)
@[go_sem] theorem BB {α : Type} (a : α) : cJ a none = none := (rfl)
@[go_sem] theorem HB {α β : Type} (f : α → Option β) : aH f [] = some [] := (rfl)
def Ms{α β:Type}(f:α→Option β)(r:List α)(y:β):Option (List β):=cJ y (aH f r)
@[go_sem] theorem x8 {α β : Type} (f : α → Option β) (r : List α) (y : β) : Ms f r y = cJ y (aH f r) := (rfl)
@[go_sem] theorem rr {α β : Type} (f : α → Option β) (x : α) (r : List α) : aH f (x :: r) = (f x).bind (Ms f r) := (rfl)
section
variable (call : ah) (get : X → Option D) (H : ab)
@[go_sem] theorem NH (x : X) : evO call get H (.mv x) = (get x).bind (J9 H) := by simp only [evO]; cases get x <;> rfl
def HC(c a b:Option D):Option (D×ab):=c.bind fun c=>a.bind fun a=>b.bind fun b=>(tC c a b).map fun d=>(d,H)
@[go_sem] theorem NI (c a b : X) : evO call get H (.pk c a b) = HC H (get c) (get a) (get b) := (rfl)
@[go_sem] theorem Ey (x p q : Bool) : HC H (some (.t (.bool x))) (some (.t (.bool p))) (some (.t (.bool q))) = some (.t (.bool (bif x then p else q)), H) := by cases x <;> rfl
@[go_sem] theorem Ez (a b : D) : HC H (some (.t (.bool true))) (some a) (some b) = some (a, H) := (rfl)
@[go_sem] theorem BD (a b : D) : HC H (some (.t (.bool false))) (some a) (some b) = some (b, H) := (rfl)
@[go_sem] theorem HD (x p : Bool) : (bif x then p else false) = (x && p) := by cases x <;> rfl
@[go_sem] theorem Kb (x q : Bool) : (bif x then true else q) = (x || q) := by cases x <;> rfl
def b9(f:BinOp)(x y:Option D):Option (D×ab):=x.bind fun a=>y.bind fun b=>(ky f a b).map fun d=>(d,H)
@[go_sem] theorem Mt (f : BinOp) (x y : X) : evO call get H (.bin f x y) = b9 H f (get x) (get y) := (rfl)
section
variable (k j : IntKind) (a b : Int)
@[go_sem] theorem EA : b9 H .add (some (.t (.int k a))) (some (.t (.int k b))) = some (.t (.int k (k.wrap (a + b))), H) := by simp [b9, ky, mZ]
@[go_sem] theorem EB : b9 H .sub (some (.t (.int k a))) (some (.t (.int k b))) = some (.t (.int k (k.wrap (a - b))), H) := by simp [b9, ky, mZ]
@[go_sem] theorem EC : b9 H .mul (some (.t (.int k a))) (some (.t (.int k b))) = some (.t (.int k (k.wrap (a * b))), H) := by simp [b9, ky, mZ]
@[go_sem] theorem ED : b9 H .quo (some (.t (.int k a))) (some (.t (.int k b))) = if b = 0 then none else some (.t (.int k (k.wrap (a.tdiv b))), H) := by simp only [b9, ky, mZ]; by_cases h : b = 0 <;> simp [h]
@[go_sem] theorem EE : b9 H .rem (some (.t (.int k a))) (some (.t (.int k b))) = if b = 0 then none else some (.t (.int k (a.tmod b)), H) := by simp only [b9, ky, mZ]; by_cases h : b = 0 <;> simp [h]
@[go_sem] theorem EF : b9 H .eql (some (.t (.int k a))) (some (.t (.int k b))) = some (.t (.bool (decide (a = b))), H) := by simp [b9, ky, mZ, Eu]
@[go_sem] theorem EG : b9 H .neq (some (.t (.int k a))) (some (.t (.int k b))) = some (.t (.bool (decide (¬ a = b))), H) := by simp [b9, ky, mZ, bne, Eu]
@[go_sem] theorem EH : b9 H .lss (some (.t (.int k a))) (some (.t (.int k b))) = some (.t (.bool (decide (a < b))), H) := by simp [b9, ky, mZ]
@[go_sem] theorem EI : b9 H .leq (some (.t (.int k a))) (some (.t (.int k b))) = some (.t (.bool (decide (a ≤ b))), H) := by simp [b9, ky, mZ]
@[go_sem] theorem EJ : b9 H .gtr (some (.t (.int k a))) (some (.t (.int k b))) = some (.t (.bool (decide (b < a))), H) := by simp [b9, ky, mZ]
@[go_sem] theorem EK : b9 H .geq (some (.t (.int k a))) (some (.t (.int k b))) = some (.t (.bool (decide (b ≤ a))), H) := by simp [b9, ky, mZ]
@[go_sem] theorem EL (h : 0 ≤ b) : b9 H .shl (some (.t (.int k a))) (some (.t (.int j b))) = some (.t (.int k (k.wrap (a * 2 ^ min b.toNat k.bits))), H) := by simp [b9, ky, kx, Int.not_lt.2 h]
@[go_sem] theorem EM (h : 0 ≤ b) : b9 H .shr (some (.t (.int k a))) (some (.t (.int j b))) = some (.t (.int k (a.fdiv (2 ^ min b.toNat k.bits))), H) := by simp [b9, ky, kx, Int.not_lt.2 h]
@[go_sem] theorem EN : b9 H .and (some (.t (.int k a))) (some (.t (.int k b))) = some (.t (.int k (k.wrap (BitVec.ofInt k.bits a &&& BitVec.ofInt k.bits b).toNat)), H) := by simp [b9, ky, mZ]
@[go_sem] theorem HE : b9 H .or (some (.t (.int k a))) (some (.t (.int k b))) = some (.t (.int k (k.wrap (BitVec.ofInt k.bits a ||| BitVec.ofInt k.bits b).toNat)), H) := by simp [b9, ky, mZ]
@[go_sem] theorem EO : b9 H .xor (some (.t (.int k a))) (some (.t (.int k b))) = some (.t (.int k (k.wrap (BitVec.ofInt k.bits a ^^^ BitVec.ofInt k.bits b).toNat)), H) := by simp [b9, ky, mZ]
def Kc(f:UnOp)(a:D):Option (D×ab):=(unD f a).map fun d=>(d,H)
@[go_sem] theorem NJ (f : UnOp) (x : X) : evO call get H (.un f x) = (get x).bind (Kc H f) := (rfl)
@[go_sem] theorem HF (x : Bool) : Kc H .not (.t (.bool x)) = some (.t (.bool (!x)), H) := (rfl)
@[go_sem] theorem HG : Kc H .neg (.t (.int k a)) = some (.t (.int k (k.wrap (0 - a))), H) := (rfl)
def Mu(k:IntKind)(a:D):Option (D×ab):=(w7 k a).map fun d=>(d,H)
@[go_sem] theorem NK (x : X) : evO call get H (.cv k x) = (get x).bind (Mu H k) := (rfl)
@[go_sem] theorem HH : Mu H k (.t (.int j a)) = some (.t (.int k (k.wrap a)), H) := (rfl)
end
def fH(q:EqK)(neg:Bool)(x y:Option D):Option (D×ab):=x.bind fun a=>y.bind fun b=>(vo q neg a b).map fun d=>(d,H)
@[go_sem] theorem Mv (q : EqK) (neg : Bool) (x y : X) : evO call get H (.eqk q neg x y) = fH H q neg (get x) (get y) := (rfl)
@[go_sem] theorem BE (x y : Bool) : fH H .bool false (some (.t (.bool x))) (some (.t (.bool y))) = some (.t (.bool (x == y)), H) := (rfl)
@[go_sem] theorem x9 (x y : Bool) : fH H .bool true (some (.t (.bool x))) (some (.t (.bool y))) = some (.t (.bool (!(x == y))), H) := (rfl)
def vK:List T→List T→Bool
 | .int _ a::xs,.int _ b::ys=>decide (a=b)&&vK xs ys
 | _,_=>true
def pF:Nat→List T→List T→Bool
 | 0,[],[]=>true
 | n+1,.int j _::xs,.int k _::ys=>decide (j=k)&&pF n xs ys
 | _,_,_=>false
@[go_sem] theorem EP (k j : IntKind) (a b : Int) (xs ys : List T) : vK (.int k a :: xs) (.int j b :: ys) = (decide (a = b) && vK xs ys) := (rfl)
@[go_sem] theorem HI : vK [] [] = true := (rfl)
@[go_sem] theorem HJ : pF 0 [] [] = true := (rfl)
@[go_sem] theorem ER (n : Nat) (k : IntKind) (a b : Int) (xs ys : List T) : pF (n + 1) (.int k a :: xs) (.int k b :: ys) = pF n xs ys := by simp [pF]
theorem ka:∀ {n:Nat} {xs ys:List T},pF n xs ys=true→xs.length=n∧cW xs ys=some (vK xs ys)
 | 0,[],[],_=>⟨rfl,rfl⟩
 | 0,[],_::_,h=>by simp[pF]at h
 | 0,_::_,_,h=>by simp[pF]at h
 | n+1,[],_,h=>by simp[pF]at h
 | n+1,x::xs,[],h=>by cases x<;>simp[pF]at h
 | n+1,x::xs,y::ys,h=>by
   cases x<;>cases y<;>simp only[pF,Bool.and_eq_true,decide_eq_true_eq,Bool.false_eq_true]at h
   obtain⟨rfl,h⟩:=h
   obtain⟨h1,h2⟩:=ka h
   exact⟨by simp[h1],by simp[cW,h2,vK,Eu]⟩
@[go_sem] theorem BF (n : Nat) (xs ys : List T) (h : pF n xs ys = true) : fH H (.ints n) false (some (.t (.agg xs))) (some (.t (.agg ys))) = some (.t (.bool (vK xs ys)), H) := by
 obtain⟨h1,h2⟩:=ka h;simp[fH,vo,eqD,h1,h2]
@[go_sem] theorem ya (n : Nat) (xs ys : List T) (h : pF n xs ys = true) : fH H (.ints n) true (some (.t (.agg xs))) (some (.t (.agg ys))) = some (.t (.bool (!vK xs ys)), H) := by
 obtain⟨h1,h2⟩:=ka h;simp[fH,vo,eqD,h1,h2]
@[go_sem] theorem ES : fH H .sl false (some .nil) (some .nil) = some (.t (.bool true), H) := (rfl)
@[go_sem] theorem ET : fH H .sl false (some (.t (.sl []))) (some .nil) = some (.ub, H) := (rfl)
@[go_sem] theorem BG : fH H .sl true (some (.t (.sl []))) (some .nil) = some (.ub, H) := (rfl)
@[go_sem] theorem BH : fH H .sl true (some .nil) (some .nil) = some (.t (.bool false), H) := (rfl)
def HK(a:D):Option (D×ab):=(G9 a).map fun d=>(d,H)
@[go_sem] theorem NL (x : X) : evO call get H (.nc x) = (get x).bind (HK H) := (rfl)
@[go_sem] theorem Kd (id off : Nat) : HK H (.bp id off) = some (.bp id off, H) := (rfl)
@[go_sem] theorem Ke (id ep n i off : Nat) : HK H (.ap id ep n i off) = some (.ap id ep n i off, H) := (rfl)
@[go_sem] theorem Kf (cs : List T) : HK H (.ep cs) = some (.ep cs, H) := (rfl)
def BI(off:Nat)(a:D):Option (D×ab):=(pb a off).map fun d=>(d,H)
@[go_sem] theorem NM (x : X) (off : Nat) : evO call get H (.fa x off) = (get x).bind (BI H off) := (rfl)
@[go_sem] theorem Kg (id o off : Nat) : BI H off (.bp id o) = some (.bp id (o + off), H) := (rfl)
@[go_sem] theorem Kh (id ep n i o off : Nat) : BI H off (.ap id ep n i o) = some (.ap id ep n i (o + off), H) := (rfl)
@[go_sem] theorem Ki (cs : List T) (off : Nat) : BI H off (.ep cs) = some (.ep (cs.drop off), H) := (rfl)
@[go_sem] theorem NN (cs : List D) : cut cs 0 0 = some [] := by simp [cut]
@[go_sem] theorem NQ (c : D) (cs : List D) : cut (c :: cs) 0 1 = some [c] := by simp [cut]
@[go_sem] theorem NR (c : D) (cs : List D) (n : Nat) : cut (c :: cs) 0 (n + 1) = cJ c (cut cs 0 n) := by
 simp only[cut,cJ];by_cases h:n≤cs.length<;>simp[h]
@[go_sem] theorem NS (c : D) (cs : List D) (off n : Nat) : cut (c :: cs) (off + 1) n = cut cs off n := by
 simp only[cut,List.length_cons,List.drop_succ_cons]
 by_cases h:off+n≤cs.length
 · rw[if_pos h,if_pos (by omega)]
 · rw[if_neg h,if_neg (by omega)]
@[go_sem] theorem EU (c : D) : aZ false [c] = some c := (rfl)
@[go_sem] theorem EW (cs : List D) : aZ true cs = some (fE cs) := (rfl)
def mkA(cs:List D):Option (List T)→D
 | some ts=> .t (.agg ts)
 | none=> .agg cs
@[go_sem] theorem HL (cs : List D) (ts : List T) : mkA cs (some ts) = .t (.agg ts) := (rfl)
@[go_sem] theorem HM (cs : List D) : mkA cs none = .agg cs := (rfl)
@[go_sem] theorem HN (cs : List D) : fE cs = mkA cs (ee cs) := by unfold fE; cases ee cs <;> rfl
@[go_sem] theorem HO : ee [] = some [] := (rfl)
@[go_sem] theorem Mw (x : T) (r : List D) : ee (.t x :: r) = cJ x (ee r) := (rfl)
@[go_sem] theorem Mx (r : List D) : ee (.nil :: r) = none := (rfl)
@[go_sem] theorem HP (a b c : Nat) (r : List D) : ee (.ref a b c :: r) = none := (rfl)
@[go_sem] theorem HQ (a b c d e : Nat) (r : List D) : ee (.sub a b c d e :: r) = none := (rfl)
@[go_sem] theorem ue (l : List T) : ee (l.map .t) = some l := by induction l with | nil => rfl | cons a l ih => simp [ee, ih]
def EX(off n:Nat)(agg:Bool)(a:D):Option (D×ab):=(iL a off n agg).map fun d=>(d,H)
@[go_sem] theorem NT (x : X) (off n : Nat) (agg : Bool) : evO call get H (.fl x off n agg) = (get x).bind (EX H off n agg) := (rfl)
def ofC(agg:Bool)(cs:Option (List D)):Option (D×ab):=(cs.bind (aZ agg)).bind (J9 H)
@[go_sem] theorem NU (c : D) : ofC H false (some [c]) = some (c, H) := (rfl)
@[go_sem] theorem NV (cs : List D) : ofC H true (some cs) = some (fE cs, H) := (rfl)
@[go_sem] theorem My (cs : List T) (off n : Nat) (agg : Bool) : EX H off n agg (.t (.agg cs)) = ofC H agg (cut (cs.map .t) off n) := by
 simp only[EX,iL,D.isAgg,if_true,D.cells,T.cells,ofC];cases (cut (cs.map .t) off n).bind (aZ agg)<;>rfl
@[go_sem] theorem HR (cs : List D) (off n : Nat) (agg : Bool) : EX H off n agg (.agg cs) = ofC H agg (cut cs off n) := by
 simp only[EX,iL,D.isAgg,if_true,D.cells,ofC];cases (cut cs off n).bind (aZ agg)<;>rfl
@[go_sem] theorem Kj (n : Nat) : idx (n : Int) = some n := by simp [idx]
@[go_sem] theorem NW : idx 0 = some 0 := (rfl)
theorem yb{i:Int}(h:0≤i):idx i=some i.toNat:=by simp[idx,h]
def yc(sz:Nat)(x i:Option D):Option (D×ab):=x.bind fun a=>(i.bind intOf).bind fun n=>(kU H a n sz).map fun d=>(d,H)
@[go_sem] theorem NX (x i : X) (sz : Nat) : evO call get H (.ia x i sz) = yc H sz (get x) (get i) := (rfl)
def uf(sz:Nat)(e:T):Option (D×ab):=if e.cells.length=sz then some (.ep e.cells,H)else none
def Kk(sz:Nat)(es:List T)(j:Nat):Option (D×ab):=es[j]?.bind (uf H sz)
@[go_sem] theorem Kl (sz : Nat) (es : List T) (j : Nat) : Kk H sz es j = es[j]?.bind (uf H sz) := (rfl)
@[go_sem] theorem Km (k : IntKind) (es : List T) (n : Int) (sz : Nat) : yc H sz (some (.t (.sl es))) (some (.t (.int k n))) = (idx n).bind (Kk H sz es) := by
 simp only[yc,Option.bind_some,intOf,kU]
 cases idx n with
 | none=>rfl
 | some j=>
   simp only[Option.bind_some,Kk]
   cases es[j]? with
   | none=>rfl
   | some e=>simp only[Option.bind_some,uf];split<;>rfl
@[go_sem] theorem HT (k : IntKind) (n : Int) : uf H 1 (.int k n) = some (.ep [.int k n], H) := (rfl)
@[go_sem] theorem EY (b : Bool) : uf H 1 (.bool b) = some (.ep [.bool b], H) := (rfl)
@[go_sem] theorem Kn (es : List T) : uf H 1 (.sl es) = some (.ep [.sl es], H) := (rfl)
def dI{α:Type}:Nat→List α→Bool
 | 0,[]=>true
 | n+1,_::r=>dI n r
 | _,_=>false
@[go_sem] theorem Ko {α : Type} : dI 0 ([] : List α) = true := (rfl)
@[go_sem] theorem Kp {α : Type} (n : Nat) (a : α) (l : List α) : dI (n + 1) (a :: l) = dI n l := (rfl)
theorem bu{α:Type}:∀ {n:Nat} {l:List α},dI n l=true↔l.length=n
 | 0,[]=>by simp[dI]
 | 0,_::_=>by simp[dI]
 | n+1,[]=>by simp[dI]
 | n+1,_::r=>by simp only[dI,List.length_cons,Nat.add_right_cancel_iff];exact bu
@[go_sem] theorem HU (cs : List T) (sz : Nat) : uf H sz (.agg cs) = if dI sz cs = true then some (.ep cs, H) else none := by
 by_cases h:cs.length=sz
 · rw[uf,if_pos (show(T.agg cs).cells.length=sz from h),if_pos (bu.2 h)];rfl
 · rw[uf,if_neg (show ¬(T.agg cs).cells.length=sz from h),if_neg fun e=>h (bu.1 e)]
def yd(sz id ep n j:Nat):Option Obj→Option (D×ab)
 | some (.arr sz' _ ep' es)=>if ep=ep'∧n=es.length then(if j<n∧sz'=sz then some (.ap id ep n j 0,H)else none)else none
 | _=>none
@[go_sem] theorem HV (k : IntKind) (id ep n : Nat) (i : Int) (sz : Nat) : yc H sz (some (.ref id ep n)) (some (.t (.int k i))) = (idx i).bind fun j => yd H sz id ep n j H[id]? := by
 simp only[yc,Option.bind_some,intOf,kU]
 cases idx i with
 | none=>rfl
 | some j=>
   simp only[Option.bind_some,bI]
   generalize H[id]?=o
   rcases o with _ | (_ | ⟨sz',pin,ep',es⟩)
   · rfl
   · rfl
   · simp only[yd]
     by_cases h:ep=ep'∧n=es.length
     · rw[if_pos h,if_pos h,Option.bind_some];split<;>rfl
     · rw[if_neg h,if_neg h];rfl
@[go_sem] theorem EZ (sz id ep n j sz' : Nat) (pin : Bool) (ep' : Nat) (es : List D) : yd H sz id ep n j (some (.arr sz' pin ep' es)) =
 if ep=ep'∧n=es.length then(if j<n∧sz'=sz then some (.ap id ep n j 0,H)else none)else none:=(rfl)
def ye(sz id ep n lo hi j:Nat):Option Obj→Option (D×ab)
 | some (.arr sz' _ ep' es)=>if ep=ep'∧n=es.length then(if lo+j<hi∧hi≤n∧sz'=sz then some (.ap id ep n (lo+j) 0,H)else none)else none
 | _=>none
@[go_sem] theorem HW (k : IntKind) (id ep n lo hi : Nat) (i : Int) (sz : Nat) : yc H sz (some (.sub id ep n lo hi)) (some (.t (.int k i))) = (idx i).bind fun j => ye H sz id ep n lo hi j H[id]? := by
 simp only[yc,Option.bind_some,intOf,kU]
 cases idx i with
 | none=>rfl
 | some j=>
   simp only[Option.bind_some,bI]
   generalize H[id]?=o
   rcases o with _ | (_ | ⟨sz',pin,ep',es⟩)
   · rfl
   · rfl
   · simp only[ye]
     by_cases h:ep=ep'∧n=es.length
     · rw[if_pos h,if_pos h,Option.bind_some];split<;>rfl
     · rw[if_neg h,if_neg h];rfl
@[go_sem] theorem E1 (sz id ep n lo hi j sz' : Nat) (pin : Bool) (ep' : Nat) (es : List D) : ye H sz id ep n lo hi j (some (.arr sz' pin ep' es)) =
 if ep=ep'∧n=es.length then(if lo+j<hi∧hi≤n∧sz'=sz then some (.ap id ep n (lo+j) 0,H)else none)else none:=(rfl)
def Kq(len sz:Nat)(agg:Bool)(x i:Option D):Option (D×ab):=x.bind fun a=>(i.bind intOf).bind fun n=>(idx n).bind fun j=>(lP a j len sz agg).map fun d=>(d,H)
def Kr(len sz:Nat)(agg:Bool)(a:D)(j:Nat):Option (D×ab):=(lP a j len sz agg).map fun d=>(d,H)
@[go_sem] theorem NY (x i : X) (len sz : Nat) (agg : Bool) : evO call get H (.ix x i len sz agg) = Kq H len sz agg (get x) (get i) := (rfl)
@[go_sem] theorem Ks (len sz : Nat) (agg : Bool) (a : D) (k : IntKind) (n : Int) : Kq H len sz agg (some a) (some (.t (.int k n))) = (idx n).bind (Kr H len sz agg a) := by
 simp only[Kq,Option.bind_some,intOf];cases idx n<;>rfl
@[go_sem] theorem HX (len j : Nat) (ts : List T) (h : j < len) (hs : (ts.all fun t => t.scalar) = true) : Kr H len 1 false (.t (.agg ts)) j = (ts[j]?).map fun t => (.t t, H) := by
 have h0:len≠0:=by omega
 unfold Kr lP
 rw[if_neg h0,if_pos h]
 unfold iL cut
 simp only[D.isAgg,D.cells,T.cells,if_true,Nat.mul_one,List.length_map]
 by_cases hj:j<ts.length
 · rw[if_pos (by omega),List.getElem?_eq_getElem hj]
   have e:((ts.map D.t).drop j).take 1=[D.t ts[j]]:=by
    rw[List.drop_eq_getElem_cons (by simpa using hj)];simp
   rw[e];rfl
 · rw[if_neg (by omega),List.getElem?_eq_none (by omega)];rfl
def yg(len sz:Nat)(x i:Option D):Option (D×ab):=x.bind fun a=>(i.bind intOf).bind fun n=>(idx n).bind fun j=>if j<len then(pb a (j*sz)).map fun d=>(d,H)else none
@[go_sem] theorem Mz (x i : X) (len sz : Nat) : evO call get H (.iaa x i len sz) = yg H len sz (get x) (get i) := (rfl)
def MA(len sz:Nat)(a:D)(j:Nat):Option (D×ab):=if j<len then BI H (j*sz) a else none
@[go_sem] theorem Kt (len sz : Nat) (a : D) (j : Nat) : MA H len sz a j = if j < len then BI H (j * sz) a else none := (rfl)
@[go_sem] theorem HY (len sz : Nat) (a : D) (k : IntKind) (n : Int) : yg H len sz (some a) (some (.t (.int k n))) = (idx n).bind (MA H len sz a) := by
 simp only[yg,Option.bind_some,intOf];cases idx n<;>rfl
def sJ(n:Nat)(agg:Bool)(a:D):Option (D×ab):=(ij H a n agg).map fun d=>(d,H)
@[go_sem] theorem NZ (x : X) (n : Nat) (agg : Bool) : evO call get H (.ld x n agg) = (get x).bind (sJ H n agg) := (rfl)
def ug(off n:Nat)(agg:Bool):Option Obj→Option (D×ab)
 | some (.box cs)=>ofC H agg (cut cs off n)
 | _=>none
@[go_sem] theorem HZ (off n : Nat) (agg : Bool) (cs : List D) : ug H off n agg (some (.box cs)) = ofC H agg (cut cs off n) := (rfl)
@[go_sem] theorem Ku (id off n : Nat) (agg : Bool) : sJ H n agg (.bp id off) = ug H off n agg H[id]? := by
 simp only[sJ,ij]
 generalize H[id]?=o
 rcases o with _ | (cs | _)
 · rfl
 · simp only[ug,ofC];cases (cut cs off n).bind (aZ agg)<;>rfl
 · rfl
@[go_sem] theorem Kv (cs : List T) (n : Nat) (agg : Bool) : sJ H n agg (.ep cs) = ofC H agg (cut (cs.map .t) 0 n) := by
 simp only[sJ,ij,ofC];cases (cut _ 0 n).bind (aZ agg)<;>rfl
def H3(off n:Nat)(agg:Bool)(e:D):Option (D×ab):=ofC H agg (cut e.cells off n)
@[go_sem] theorem Kw (off n : Nat) (agg : Bool) (e : D) : H3 H off n agg e = ofC H agg (cut e.cells off n) := (rfl)
def yh(ep m i off n:Nat)(agg:Bool):Option Obj→Option (D×ab)
 | some (.arr _ _ ep' es)=>if ep=ep'∧m=es.length then es[i]?.bind (H3 H off n agg)else none
 | _=>none
@[go_sem] theorem H4 (ep m i off n : Nat) (agg : Bool) (sz : Nat) (pin : Bool) (ep' : Nat) (es : List D) :
 yh H ep m i off n agg (some (.arr sz pin ep' es))=if ep=ep'∧m=es.length then es[i]?.bind (H3 H off n agg)else none:=(rfl)
@[go_sem] theorem Kx (id ep m i off n : Nat) (agg : Bool) : sJ H n agg (.ap id ep m i off) = yh H ep m i off n agg H[id]? := by
 simp only[sJ,ij,bI]
 generalize H[id]?=o
 rcases o with _ | (_ | ⟨sz',pin,ep',es⟩)
 · rfl
 · rfl
 · simp only[yh]
   by_cases h:ep=ep'∧m=es.length
   · rw[if_pos h,if_pos h,Option.bind_some]
     cases es[i]? with
     | none=>rfl
     | some e=>simp only[Option.bind_some,H3,ofC];cases (cut e.cells off n).bind (aZ agg)<;>rfl
   · rw[if_neg h,if_neg h];rfl
@[go_sem] theorem BJ (cs : List D) : (D.agg cs).cells = cs := (rfl)
@[go_sem] theorem H5 (x : T) : (D.t x).cells = x.cells.map .t := (rfl)
@[go_sem] theorem BK : D.nil.cells = [.nil] := (rfl)
@[go_sem] theorem E2 (a b : Nat) : (D.bp a b).cells = [.bp a b] := (rfl)
@[go_sem] theorem BL (a b c : Nat) : (D.ref a b c).cells = [.ref a b c] := (rfl)
@[go_sem] theorem BM (a b c d e : Nat) : (D.sub a b c d e).cells = [.sub a b c d e] := (rfl)
@[go_sem] theorem E3 (f : Nat) (cs : List D) : (D.fn f cs).cells = [.fn f cs] := (rfl)
@[go_sem] theorem yi : D.nilp.cells = [.nilp] := (rfl)
@[go_sem] theorem BN (cs : List T) : (T.agg cs).cells = cs := (rfl)
@[go_sem] theorem BO (k : IntKind) (n : Int) : (T.int k n).cells = [.int k n] := (rfl)
@[go_sem] theorem yj (b : Bool) : (T.bool b).cells = [.bool b] := (rfl)
@[go_sem] theorem BP (b : ByteArray) : (T.str b).cells = [.str b] := (rfl)
@[go_sem] theorem E4 (es : List T) : (T.sl es).cells = [.sl es] := (rfl)
def fits(n:Nat)(v:D):Bool:=decide (v.cells.length=n)&&v.bU
section
variable (n : Nat)
@[go_sem] theorem fits_int (k : IntKind) (a : Int) : fits 1 (.t (.int k a)) = true := (rfl)
@[go_sem] theorem fits_bool (b : Bool) : fits 1 (.t (.bool b)) = true := (rfl)
@[go_sem] theorem Ky (es : List T) : fits 1 (.t (.sl es)) = true := (rfl)
@[go_sem] theorem H6 : fits 1 .nil = true := (rfl)
@[go_sem] theorem H7 (a b c : Nat) : fits 1 (.ref a b c) = true := (rfl)
@[go_sem] theorem H8 (a b c d e : Nat) : fits 1 (.sub a b c d e) = true := (rfl)
@[go_sem] theorem Kz (a b : Nat) : fits 1 (.bp a b) = true := (rfl)
@[go_sem] theorem KA (f : Nat) (cs : List D) : fits 1 (.fn f cs) = true := (rfl)
@[go_sem] theorem H9 (cs : List D) : fits n (.agg cs) = dI n cs := by rw [Bool.eq_iff_iff, bu]; show (decide (cs.length = n) && true) = true ↔ _; simp
@[go_sem] theorem E5 (cs : List T) : fits n (.t (.agg cs)) = dI n cs := by rw [Bool.eq_iff_iff, bu]; simp [fits, D.cells, T.cells, D.bU]
end
@[go_sem] theorem yk {α : Type} (cs : List α) : ak cs 0 [] = some cs := by simp [ak]
@[go_sem] theorem ym {α : Type} (c x : α) (cs xs : List α) : ak (c :: cs) 0 (x :: xs) = cJ x (ak cs 0 xs) := by
 simp only[ak,cJ];by_cases h:xs.length≤cs.length<;>simp[h]
@[go_sem] theorem yn {α : Type} (c : α) (cs : List α) (off : Nat) (xs : List α) : ak (c :: cs) (off + 1) xs = cJ c (ak cs off xs) := by
 simp only[ak,cJ,List.length_cons]
 by_cases h:off+xs.length≤cs.length
 · rw[if_pos h,if_pos (by omega)];simp[show off+1+xs.length=(off+xs.length)+1 by omega]
 · rw[if_neg h,if_neg (by omega)];rfl
def yo(n:Nat)(live:List (Nat×Nat))(a x:Option D):Option (D×ab):=a.bind fun p=>x.bind fun d=>(iK H p d n).bind fun H'=>(eg H' p live).map fun H''=>(.tup [],H'')
@[go_sem] theorem N0 (a x : X) (n : Nat) (live : List (Nat × Nat)) : evO call get H (.st a x n live) = yo H n live (get a) (get x) := (rfl)
def kN(H:ab)(id:Nat)(live:List (Nat×Nat)):Option (D×ab):=(eg H (.bp id 0) live).map fun H'=>(.tup [],H')
def oN(id:Nat)(live:List (Nat×Nat))(cs:List D):Option (D×ab):=kN (H.set id (.box cs)) id live
@[go_sem] theorem E6 (id : Nat) (live : List (Nat × Nat)) (cs : List D) : oN H id live cs = kN (H.set id (.box cs)) id live := (rfl)
@[go_sem] theorem BQ (H : ab) (id : Nat) : kN H id [] = some (.tup [], H) := (rfl)
def yp(id off:Nat)(live:List (Nat×Nat))(xs:List D):Option Obj→Option (D×ab)
 | some (.box cs)=>(ak cs off xs).bind (oN H id live)
 | _=>none
@[go_sem] theorem Ia (id off : Nat) (live : List (Nat × Nat)) (xs cs : List D) : yp H id off live xs (some (.box cs)) = (ak cs off xs).bind (oN H id live) := (rfl)
@[go_sem] theorem KB (n id off : Nat) (live : List (Nat × Nat)) (v : D) : yo H n live (some (.bp id off)) (some v) = if fits n v = true then yp H id off live v.cells H[id]? else none := by
 by_cases h:fits n v=true
 case neg=>
  rw[if_neg h]
  simp only[fits,Bool.and_eq_true,decide_eq_true_eq]at h
  simp only[yo,Option.bind_some,iK,if_neg h];rfl
 rw[if_pos h]
 simp only[fits,Bool.and_eq_true,decide_eq_true_eq]at h
 simp only[yo,Option.bind_some,iK,h.1,h.2,and_self,if_true]
 generalize H[id]?=o
 rcases o with _ | (cs | _)
 · rfl
 · simp only[yp]
   cases ak cs off v.cells with
   | none=>rfl
   | some cs'=>simp only[Option.map_some,Option.bind_some,oN,kN,eg]
 · rfl
def mG(id sz ep i:Nat)(es:List D)(agg:Bool)(cs:List D):Option (D×ab):=(aZ agg cs).bind fun e=>if e.bU then some (.tup [],H.set id (.arr sz false ep (es.set i e)))else none
def Ib(id sz ep i off:Nat)(es xs:List D)(e:D):Option (D×ab):=(ak e.cells off xs).bind (mG H id sz ep i es e.isAgg)
@[go_sem] theorem KC (id sz ep i off : Nat) (es xs : List D) (e : D) : Ib H id sz ep i off es xs e = (ak e.cells off xs).bind (mG H id sz ep i es e.isAgg) := (rfl)
@[go_sem] theorem E7 (cs : List D) : (D.agg cs).isAgg = true := (rfl)
@[go_sem] theorem BR (cs : List T) : (D.t (.agg cs)).isAgg = true := (rfl)
@[go_sem] theorem E8 (k : IntKind) (n : Int) : (D.t (.int k n)).isAgg = false := (rfl)
@[go_sem] theorem BS (b : Bool) : (D.t (.bool b)).isAgg = false := (rfl)
@[go_sem] theorem E9 (b : ByteArray) : (D.t (.str b)).isAgg = false := (rfl)
@[go_sem] theorem Ic (es : List T) : (D.t (.sl es)).isAgg = false := (rfl)
@[go_sem] theorem Fa : D.nil.isAgg = false := (rfl)
@[go_sem] theorem Fb (a b c : Nat) : (D.ref a b c).isAgg = false := (rfl)
@[go_sem] theorem Fc (a b c d e : Nat) : (D.sub a b c d e).isAgg = false := (rfl)
@[go_sem] theorem KD (id sz ep i : Nat) (es : List D) (x : T) : mG H id sz ep i es false [.t x] = some (.tup [], H.set id (.arr sz false ep (es.set i (.t x)))) := (rfl)
@[go_sem] theorem Fe (id sz ep i : Nat) (es : List D) : mG H id sz ep i es false [.nil] = some (.tup [], H.set id (.arr sz false ep (es.set i .nil))) := (rfl)
@[go_sem] theorem Ff (id sz ep i a b c : Nat) (es : List D) : mG H id sz ep i es false [.ref a b c] = some (.tup [], H.set id (.arr sz false ep (es.set i (.ref a b c)))) := (rfl)
theorem nP(cs:List D):(fE cs).bU=true:=by unfold fE;cases ee cs<;>rfl
@[go_sem] theorem KE (id sz ep i : Nat) (es cs : List D) : mG H id sz ep i es true cs = some (.tup [], H.set id (.arr sz false ep (es.set i (fE cs)))) := by
 simp[mG,aZ,nP]
def yq(id ep m i off:Nat)(xs:List D):Option Obj→Option (D×ab)
 | some (.arr sz pin ep' es)=>if ep=ep'∧m=es.length then(if pin then none else es[i]?.bind (Ib H id sz ep i off es xs))else none
 | _=>none
@[go_sem] theorem Ie (id ep m i off : Nat) (xs : List D) (sz : Nat) (pin : Bool) (ep' : Nat) (es : List D) :
 yq H id ep m i off xs (some (.arr sz pin ep' es))=if ep=ep'∧m=es.length then(if pin=true then none else es[i]?.bind (Ib H id sz ep i off es xs))else none:=(rfl)
@[go_sem] theorem KF (n id ep m i off : Nat) (v : D) : yo H n [] (some (.ap id ep m i off)) (some v) = if fits n v = true then yq H id ep m i off v.cells H[id]? else none := by
 by_cases h:fits n v=true
 case neg=>
  rw[if_neg h]
  simp only[fits,Bool.and_eq_true,decide_eq_true_eq]at h
  simp only[yo,Option.bind_some,iK,if_neg h];rfl
 rw[if_pos h]
 simp only[fits,Bool.and_eq_true,decide_eq_true_eq]at h
 simp only[yo,Option.bind_some,iK,h.1,h.2,and_self,if_true,bI]
 generalize H[id]?=o
 rcases o with _ | (_ | ⟨sz',pin,ep',es⟩)
 · rfl
 · rfl
 · simp only[yq]
   by_cases h:ep=ep'∧m=es.length
   · rw[if_pos h,if_pos h,Option.bind_some]
     cases pin with
     | true=>rfl
     | false=>
       simp only[Bool.false_eq_true,if_false]
       cases es[i]? with
       | none=>rfl
       | some e=>
         simp only[Option.bind_some,Ib]
         cases ak e.cells off v.cells with
         | none=>rfl
         | some cs'=>
           simp only[Option.bind_some,mG]
           cases aZ e.isAgg cs' with
           | none=>rfl
           | some e'=>
             simp only[Option.bind_some]
             by_cases h3:e'.bU=true
             · rw[if_pos h3,if_pos h3,h.1];rfl
             · rw[if_neg h3,if_neg h3];rfl
   · rw[if_neg h,if_neg h];rfl
def yr(zero:List D)(ps:List (Nat×Nat×D)):Option (D×ab):=(gx zero ps).map fun cs=>(fE cs,H)
@[go_sem] theorem N1 (zero : List D) (parts : List (Nat × Nat × X)) : evO call get H (.bd zero parts) = (c8 get parts).bind (yr H zero) := (rfl)
@[go_sem] theorem vL : c8 get [] = some [] := (rfl)
def Fg(off n:Nat)(r:List (Nat×Nat×X))(d:D):Option (List (Nat×Nat×D)):=cJ (off,n,d) (c8 get r)
@[go_sem] theorem Ig (off n : Nat) (r : List (Nat × Nat × X)) (d : D) : Fg get off n r d = cJ (off, n, d) (c8 get r) := (rfl)
@[go_sem] theorem uh (off n : Nat) (x : X) (r : List (Nat × Nat × X)) : c8 get ((off, n, x) :: r) = (get x).bind (Fg get off n r) := (rfl)
@[go_sem] theorem Ih (zero : List D) : yr H zero [] = some (fE zero, H) := (rfl)
def bdC(r:List (Nat×Nat×D))(z:List D):Option (D×ab):=yr H z r
@[go_sem] theorem MB (r : List (Nat × Nat × D)) (z : List D) : bdC H r z = yr H z r := (rfl)
@[go_sem] theorem Fh (zero : List D) (off n : Nat) (x : D) (r : List (Nat × Nat × D)) : yr H zero ((off, n, x) :: r) = if fits n x = true then (ak zero off x.cells).bind (bdC H r) else none := by
 by_cases h:fits n x=true
 case neg=>
  rw[if_neg h]
  have h2:(x.bU&&x.cells.length==n)=false:=by rw[← Bool.not_eq_true,Bool.and_comm];simpa [fits]using h
  simp only[yr,gx,h2];rfl
 rw[if_pos h]
 simp only[fits,Bool.and_eq_true,decide_eq_true_eq]at h
 simp only[yr,gx,h.1,h.2,beq_self_eq_true,Bool.and_self,if_true]
 cases ak zero off x.cells<;>rfl
def aD(n:Nat):List T→Bool
 | []=>true
 | x::r=>dI n x.cells&&aD n r
@[go_sem] theorem vM (n : Nat) : aD n [] = true := (rfl)
@[go_sem] theorem gR (n : Nat) (x : T) (r : List T) : aD n (x :: r) = (dI n x.cells && aD n r) := (rfl)
def kO(sz:Nat)(ds:List D):Option (D×ab):=if ds.all (fun d=>d.cells.length==sz)then(aH (frz H depth) ds).map fun ts=>(.t (.sl ts),pins H (ds.flatMap (bO H depth)))else none
@[go_sem] theorem N2 (xs : List X) (sz : Nat) : evO call get H (.bs xs sz) = (aH get xs).bind (kO H sz) := (rfl)
theorem Fi(sz:Nat)(ds:List D)(ts:List T)(h:ee ds=some ts)(hc:aD sz ts=true):kO H sz ds=some (.t (.sl ts),H):=by
 have key:∀(ds:List D) (ts:List T),ee ds=some ts→aD sz ts=true→ds.all (fun d=>d.cells.length==sz)=true∧aH (frz H depth) ds=some ts∧ds.flatMap (bO H depth)=[]:=by
  intro ds
  induction ds with
  | nil=>intro ts h hc;simp[ee]at h;subst h;simp[aH]
  | cons d ds ih=>
    intro ts h hc
    cases d with
    | t x=>
      simp only[ee,Option.map_eq_some_iff]at h
      obtain⟨r,hr,rfl⟩:=h
      simp only[aD,Bool.and_eq_true,bu]at hc
      obtain⟨h1,h2,h3⟩:=ih r hr hc.2
      refine⟨by rw[List.all_cons,h1,Bool.and_true];simp[D.cells,hc.1],by simp[aH,frz,h2],by rw[List.flatMap_cons,h3];simp[bO]⟩
    | _=>simp[ee]at h
 obtain⟨h1,h2,h3⟩:=key ds ts h hc
 simp[kO,h1,h2,h3,pins]
theorem e9(sz:Nat)(ts:List T):kO H sz (ts.map D.t)=if aD sz ts=true then some (.t (.sl ts),H)else none:=by
 by_cases h:aD sz ts=true
 · rw[if_pos h];exact Fi H sz _ ts (ue ts) h
 · rw[if_neg h]
   have:(ts.map D.t).all (fun d=>d.cells.length==sz)=false:=by
    rw[← Bool.not_eq_true];intro ha;apply h
    clear h
    induction ts with
    | nil=>rfl
    | cons a r ih=>
      simp only[List.map_cons,List.all_cons,Bool.and_eq_true,beq_iff_eq]at ha
      simp only[aD,Bool.and_eq_true,bu]
      exact⟨by simpa [D.cells]using ha.1,ih ha.2⟩
   simp only[kO,this];rfl
@[go_sem] theorem MC (sz : Nat) : kO H sz [] = some (.t (.sl []), H) := (rfl)
@[go_sem] theorem MD (sz : Nat) (a : T) : kO H sz [.t a] = if aD sz [a] = true then some (.t (.sl [a]), H) else none := e9 H sz [a]
@[go_sem] theorem ME (sz : Nat) (a b : T) : kO H sz [.t a, .t b] = if aD sz [a, b] = true then some (.t (.sl [a, b]), H) else none := e9 H sz [a, b]
@[go_sem] theorem MF (sz : Nat) (a b c : T) : kO H sz [.t a, .t b, .t c] = if aD sz [a, b, c] = true then some (.t (.sl [a, b, c]), H) else none := e9 H sz [a, b, c]
@[go_sem] theorem MG (sz : Nat) (a b c d : T) : kO H sz [.t a, .t b, .t c, .t d] = if aD sz [a, b, c, d] = true then some (.t (.sl [a, b, c, d]), H) else none := e9 H sz [a, b, c, d]
@[go_sem] theorem MH (sz : Nat) (a b c d e : T) : kO H sz [.t a, .t b, .t c, .t d, .t e] = if aD sz [a, b, c, d, e] = true then some (.t (.sl [a, b, c, d, e]), H) else none := e9 H sz [a, b, c, d, e]
def Fj(a:D):Option (D×ab):=(G8 a).map fun(n:Nat)=>(D.t (.int .i64 (n:Int)),H)
@[go_sem] theorem N3 (x : X) : evO call get H (.ln x) = (get x).bind (Fj H) := (rfl)
@[go_sem] theorem KG (es : List T) : Fj H (.t (.sl es)) = some (I es.length, H) := (rfl)
@[go_sem] theorem Ii : Fj H .nil = some (I 0, H) := (rfl)
@[go_sem] theorem Ij (id ep n : Nat) : Fj H (.ref id ep n) = some (I n, H) := (rfl)
@[go_sem] theorem Ik (id ep n lo hi : Nat) : Fj H (.sub id ep n lo hi) = some (I ((hi - lo : Nat) : Int), H) := (rfl)
def Fk(ds:List D):Option (D×ab):=(DP ds).map fun d=>(d,H)
def Fl(ds:List D):Option (D×ab):=(DQ ds).map fun d=>(d,H)
@[go_sem] theorem N4 (xs : List X) : evO call get H (.mn xs) = (aH get xs).bind (Fk H) := (rfl)
@[go_sem] theorem N5 (xs : List X) : evO call get H (.mx xs) = (aH get xs).bind (Fl H) := (rfl)
@[go_sem] theorem MI (k : IntKind) (a b : Int) : Fk H [.t (.int k a), .t (.int k b)] = some (.t (.int k (min a b)), H) := by
 simp only[Fk,DP,ko,if_true,Option.map_some];congr 4;omega
@[go_sem] theorem MJ (k : IntKind) (a b : Int) : Fl H [.t (.int k a), .t (.int k b)] = some (.t (.int k (max a b)), H) := by
 simp only[Fl,DQ,ko,if_true,Option.map_some];congr 4;omega
@[go_sem] theorem MK (k : IntKind) (a b c : Int) : Fk H [.t (.int k a), .t (.int k b), .t (.int k c)] = some (.t (.int k (min (min a b) c)), H) := by
 simp only[Fk,DP,ko,if_true,Option.map_some];congr 4;omega
@[go_sem] theorem ML (k : IntKind) (a b c : Int) : Fl H [.t (.int k a), .t (.int k b), .t (.int k c)] = some (.t (.int k (max (max a b) c)), H) := by
 simp only[Fl,DQ,ko,if_true,Option.map_some];congr 4;omega
def mH(sz:Nat)(x:Option D)(lo hi:Option (Option Int)):Option (D×ab):=x.bind fun a=>lo.bind fun l=>hi.bind fun h=>(dC H a l h sz).map fun d=>(d,H)
@[go_sem] theorem N6 (x : X) (lo hi : Option X) (sz : Nat) : evO call get H (.sc x lo hi sz) = mH H sz (get x) (pc get lo) (pc get hi) := (rfl)
def Fm:D→Option (Option Int)
 | .t (.int _ n)=>some (some n)
 | _=>none
@[go_sem] theorem Il (k : IntKind) (n : Int) : Fm (.t (.int k n)) = some (some n) := (rfl)
@[go_sem] theorem Fo : pc get none = some none := (rfl)
@[go_sem] theorem Fp (x : X) : pc get (some x) = (get x).bind Fm := by
 simp only[pc];cases get x with
 | none=>rfl
 | some d=>cases d with
   | t y=>cases y<;>rfl
   | _=>rfl
def KH(i:Nat)(a:D):Option (D×ab):=(DR i a).map fun d=>(d,H)
@[go_sem] theorem N7 (x : X) (i : Nat) : evO call get H (.ex x i) = (get x).bind (KH H i) := (rfl)
def exO:Option D→Option (D×ab)
 | some d=>some (d,H)
 | none=>none
@[go_sem] theorem Im (d : D) : exO H (some d) = some (d, H) := (rfl)
@[go_sem] theorem Io (i : Nat) (ds : List D) : KH H i (.tup ds) = exO H ds[i]? := by simp only [KH, DR, exO]; cases ds[i]? <;> rfl
def KI(f:Nat)(ds:List D):Option (D×ab):=some (.fn f ds,H)
@[go_sem] theorem KJ (f : Nat) (ds : List D) : KI H f ds = some (.fn f ds, H) := (rfl)
@[go_sem] theorem N8 (f : Nat) (caps : List X) : evO call get H (.mf f caps) = (aH get caps).bind (KI H f) := by simp only [evO, KI]; cases aH get caps <;> rfl
@[go_sem] theorem N9 (sz : Nat) : evO call get H (.nw sz) = some (.ref H.length 0 0, H ++ [.arr sz false 0 []]) := (rfl)
def alP(p:List D×ab):Option (D×ab):=some (.bp H.length 0,H++ .box p.1::p.2)
@[go_sem] theorem MM (cs : List D) (os : ab) : alP H (cs, os) = some (.bp H.length 0, H ++ .box cs :: os) := (rfl)
@[go_sem] theorem Oa (zero : List D) (live : List (Nat × Nat)) : evO call get H (.al zero live) = alP H (ay (H.length + 1) zero live) := (rfl)
@[go_sem] theorem yt (base : Nat) (cs : List D) : ay base cs [] = (cs, []) := (rfl)
def KK(n:Nat)(a:D):Option (D×ab):=if a.cells.length=n∧a.bU then some (.bp H.length 0,H++[.box a.cells])else none
@[go_sem] theorem Ob (x : X) (n : Nat) : evO call get H (.bx x n) = (get x).bind (KK H n) := (rfl)
@[go_sem] theorem KL (n : Nat) (a : D) : KK H n a = if fits n a = true then some (.bp H.length 0, H ++ [.box a.cells]) else none := by
 simp[KK,fits]
def Ip(sz:Nat)(zero:D)(n:Option Nat):Option (D×ab):=n.bind fun m=>if m≤lim then some (.ref H.length 0 m,H++[.arr sz false 0 (List.replicate m zero)])else none
def mkN(sz:Nat)(zero:D):D→Option (D×ab)
 | .t (.int _ n)=>Ip H sz zero (idx n)
 | _=>none
@[go_sem] theorem KM (sz : Nat) (zero : D) (k : IntKind) (n : Int) : mkN H sz zero (.t (.int k n)) = Ip H sz zero (idx n) := (rfl)
@[go_sem] theorem Oc (len : X) (zero : D) (sz : Nat) : evO call get H (.mk len zero sz) = (get len).bind (mkN H sz zero) := by
 simp only[evO];cases get len with
 | none=>rfl
 | some d=>cases d with
   | t y=>cases y<;>rfl
   | _=>rfl
@[go_sem] theorem KN (sz : Nat) (zero : D) (m : Nat) (h : m ≤ 4294967296) : Ip H sz zero (some m) = some (.ref H.length 0 m, H ++ [.arr sz false 0 (List.replicate m zero)]) := by
 simp[Ip,lim,h]
def ui(zero:T)(n:Option Nat):Option (D×ab):=n.bind fun m=>if m≤lim then some (.t (.sl (List.replicate m zero)),H)else none
def MN(zero:T):D→Option (D×ab)
 | .t (.int _ n)=>ui H zero (idx n)
 | _=>none
@[go_sem] theorem Iq (zero : T) (k : IntKind) (n : Int) : MN H zero (.t (.int k n)) = ui H zero (idx n) := (rfl)
@[go_sem] theorem MO (len : X) (zero : T) (sz : Nat) : evO call get H (.mkt len zero sz) = (get len).bind (MN H zero) := by
 simp only[evO];cases get len with
 | none=>rfl
 | some d=>cases d with
   | t y=>cases y<;>rfl
   | _=>rfl
@[go_sem] theorem Ir (zero : T) (m : Nat) (h : m ≤ 4294967296) : ui H zero (some m) = some (.t (.sl (List.replicate m zero)), H) := by
 simp[ui,lim,h]
def ew(sz:Nat)(fz:Bool)(x y:Option D):Option (D×ab):=x.bind fun a=>y.bind fun b=>dk H a b fz sz
@[go_sem] theorem MP (x y : X) (fz : Bool) (sz : Nat) : evO call get H (.app x y fz sz) = ew H sz fz (get x) (get y) := (rfl)
def iX(sz id ep n:Nat)(ys:List D):Option Obj→Option (D×ab)
 | some (.arr sz' pin ep' es)=>if ep=ep'∧n=es.length∧sz'=sz∧n+ys.length≤lim then some (.ref id ep (n+ys.length),H.set id (.arr sz pin ep (es++ys)))else none
 | _=>none
@[go_sem] theorem Fq (sz id ep n : Nat) (ys : List D) (pin : Bool) (es : List D) :
 iX H sz id ep n ys (some (.arr sz pin ep es))=if n=es.length then(if n+ys.length≤4294967296 then some (.ref id ep (n+ys.length),H.set id (.arr sz pin ep (es++ys)))else none)else none:=by
 simp only[iX,lim]
 by_cases h1:n=es.length
 · rw[if_pos h1]
   by_cases h2:n+ys.length≤4294967296
   · rw[if_pos h2,if_pos ⟨trivial,h1,trivial,h2⟩]
   · rw[if_neg h2,if_neg fun h=>h2 h.2.2.2]
 · rw[if_neg h1,if_neg fun h=>h1 h.2.1]
theorem gS(ts:List T):aH (fun d=>(frz H depth d).map D.t) (ts.map D.t)=some (ts.map D.t):=by
 induction ts with
 | nil=>rfl
 | cons t ts ih=>simp[aH,frz,ih]
theorem ru(ts:List T):(ts.map D.t).flatMap (bO H depth)=[]:=by
 induction ts with
 | nil=>rfl
 | cons t ts ih=>rw[List.map_cons,List.flatMap_cons,ih];simp[bO,depth]
theorem mI(sz:Nat)(fz:Bool)(x:D)(ts:List T)(h:aJ sz (ts.map D.t)=false):ew H sz fz (some x) (some (.t (.sl ts)))=none:=by
 have e1:(if fz then aH (fun d=>(frz H depth d).map D.t) (ts.map D.t)else some (ts.map D.t))=some (ts.map D.t):=by
  cases fz<;>simp[gS]
 simp only[ew,Option.bind_some,dk,elems,e1,h,Bool.false_eq_true,if_false]
def dJ(sz:Nat)(ts:List T):Bool:=aJ sz (ts.map D.t)
theorem rz(sz id ep n:Nat)(fz:Bool)(ts:List T)(h:dJ sz ts=true):ew H sz fz (some (.ref id ep n)) (some (.t (.sl ts)))=iX H sz id ep n (ts.map .t) H[id]?:=by
 have e1:(if fz then aH (fun d=>(frz H depth d).map D.t) (ts.map D.t)else some (ts.map D.t))=some (ts.map D.t):=by
  cases fz<;>simp[gS]
 have e2:(if fz then pins H ((ts.map D.t).flatMap (bO H depth))else H)=H:=by
  cases fz
  · rfl
  · simp only[if_true];rw[ru];rfl
 unfold dJ at h
 simp only[ew,Option.bind_some,dk,elems,e1,h,if_true,e2,bI]
 generalize H[id]?=o
 rcases o with _ | (_ | ⟨sz',pin,ep',es⟩)
 · rfl
 · rfl
 · simp only[iX]
   by_cases h1:ep=ep'∧n=es.length
   · rw[if_pos h1,Option.bind_some]
     by_cases h2:sz'=sz∧n+(ts.map D.t).length≤lim
     · rw[if_pos h2,if_pos ⟨h1.1,h1.2,h2⟩]
     · rw[if_neg h2,if_neg fun h=>h2 h.2.2]
   · rw[if_neg h1,if_neg fun h=>h1 ⟨h.1,h.2.1⟩];rfl
@[go_sem] theorem Fs (sz id ep n : Nat) (fz : Bool) (ts : List T) : ew H sz fz (some (.ref id ep n)) (some (.t (.sl ts))) = if dJ sz ts = true then iX H sz id ep n (ts.map .t) H[id]? else none := by
 by_cases h:dJ sz ts=true
 · rw[if_pos h,rz H sz id ep n fz ts h]
 · rw[if_neg h];exact mI H sz fz _ ts (by simpa [dJ]using h)
@[go_sem] theorem Ft (sz : Nat) (fz : Bool) (ts : List T) : ew H sz fz (some .nil) (some (.t (.sl ts))) =
 if dJ sz ts=true then(if ts.length≤4294967296 then some (.ref H.length 0 ts.length,H++[.arr sz false 0 (ts.map .t)])else none)else none:=by
 by_cases h:dJ sz ts=true
 · rw[if_pos h]
   have e1:(if fz then aH (fun d=>(frz H depth d).map D.t) (ts.map D.t)else some (ts.map D.t))=some (ts.map D.t):=by
    cases fz<;>simp[gS]
   have e2:(if fz then pins H ((ts.map D.t).flatMap (bO H depth))else H)=H:=by
    cases fz
    · rfl
    · simp only[if_true];rw[ru];rfl
   unfold dJ at h
   simp only[ew,Option.bind_some,dk,elems,e1,h,if_true,e2,lim,List.length_map]
 · rw[if_neg h];exact mI H sz fz _ ts (by simpa [dJ]using h)
@[go_sem] theorem Fu (sz : Nat) : dJ sz [] = true := (rfl)
@[go_sem] theorem BT (sz : Nat) (x : T) (r : List T) : dJ sz (x :: r) = dI sz x.cells := by
 rw[Bool.eq_iff_iff,bu];simp[dJ,aJ,D.cells]
@[go_sem] theorem Fv (l : List Int) (k : IntKind) : dJ 1 (l.map (.int k)) = true := by cases l <;> rfl
@[go_sem] theorem BU (l : List Bool) : dJ 1 (l.map .bool) = true := by cases l <;> rfl
@[go_sem] theorem Is (l : List (List T)) : dJ 1 (l.map .sl) = true := by cases l <;> rfl
def BV(call:ah)(f raw:Nat)(keep:List Nat)(ds:List D):Option (D×ab):=gy call H f raw keep ds
@[go_sem] theorem Od (f raw : Nat) (keep : List Nat) (xs : List X) : evO call get H (.ca f raw keep xs) = (aH get xs).bind (BV H call f raw keep) := (rfl)
def MQ(call:ah)(raw:Nat)(keep:List Nat)(x:Option D)(xs:Option (List D)):Option (D×ab):=x.bind fun
 | .fn f caps=>xs.bind fun ds=>gy call H f raw keep (ds++caps)
 | _=>none
@[go_sem] theorem Oe (x : X) (raw : Nat) (keep : List Nat) (xs : List X) : evO call get H (.cw x raw keep xs) = MQ H call raw keep (get x) (aH get xs) := (rfl)
@[go_sem] theorem KO (raw : Nat) (keep : List Nat) (f : Nat) (caps ds : List D) : MQ H call raw keep (some (.fn f caps)) (some ds) = BV H call f raw keep (ds ++ caps) := (rfl)
def df(H:ab):List D→Option (List T)
 | []=>some []
 | .t x::r=>cJ x (df H r)
 | .nil::r=>cJ (.sl []) (df H r)
 | _::_=>none
@[go_sem] theorem KP : df H [] = some [] := (rfl)
@[go_sem] theorem KQ (x : T) (r : List D) : df H (.t x :: r) = cJ x (df H r) := (rfl)
@[go_sem] theorem Fw (r : List D) : df H (.nil :: r) = cJ (.sl []) (df H r) := (rfl)
@[go_sem] theorem Fx (cs : List D) (r : List D) : df H (.agg cs :: r) = none := (rfl)
@[go_sem] theorem It (a b : Nat) (r : List D) : df H (.bp a b :: r) = none := (rfl)
@[go_sem] theorem Fy (a b c : Nat) (r : List D) : df H (.ref a b c :: r) = none := (rfl)
@[go_sem] theorem FA (a b c d e : Nat) (r : List D) : df H (.sub a b c d e :: r) = none := (rfl)
@[go_sem] theorem Iu (f : Nat) (cs : List D) (r : List D) : df H (.fn f cs :: r) = none := (rfl)
@[go_sem] theorem Iv (a b c d e : Nat) (r : List D) : df H (.ap a b c d e :: r) = none := (rfl)
@[go_sem] theorem Iw (cs : List T) (r : List D) : df H (.ep cs :: r) = none := (rfl)
@[go_sem] theorem BW (r : List D) : df H (.nilp :: r) = none := (rfl)
@[go_sem] theorem FB (r : List D) : df H (.und :: r) = none := (rfl)
end
theorem gl(H:ab):∀ {ds:List D} {ts:List T},df H ds=some ts→∀i,fW H [] i ds=some (ts.map .t)∧aT H [] i ds=[]
 | [],ts,h,i=>by simp[df]at h;subst h;exact⟨rfl,rfl⟩
 | d::r,ts,h,i=>by
   cases d with
   | t x=>
     simp only[df,cJ,Option.map_eq_some_iff]at h
     obtain⟨l,hl,rfl⟩:=h
     obtain⟨h1,h2⟩:=gl H hl (i+1)
     exact⟨by simp[fW,jr,h1],by simp[aT,bO,depth,h2]⟩
   | nil=>
     simp only[df,cJ,Option.map_eq_some_iff]at h
     obtain⟨l,hl,rfl⟩:=h
     obtain⟨h1,h2⟩:=gl H hl (i+1)
     exact⟨by simp[fW,jr,h1],by simp[aT,bO,depth,h2]⟩
   | _=>simp[df]at h
theorem rA(ts:List T)(n:Nat):(ts.map D.t).flatMap (ids n)=[]:=by
 induction ts with
 | nil=>rfl
 | cons t ts ih=>rw[List.map_cons,List.flatMap_cons,ih];simp[ids]
theorem yu(f:Nat→Option Nat)(ts:List T):aH (ren f depth) (ts.map .t)=some (ts.map .t):=by
 induction ts with
 | nil=>rfl
 | cons t ts ih=>simp[aH,ren,depth]at ih ⊢;exact ih
def pG:D→Bool
 | .t _=>true
 | .tup ds=>ds.all fun | .t _=>true | _=>false
 | _=>false
theorem uj{f:Nat→Option Nat}{d:D}(h:pG d=true):ren f depth d=some d:=by
 cases d with
 | t x=>rfl
 | tup ds=>
   simp only[pG]at h
   have:aH (ren f 7) ds=some ds:=by
    induction ds with
    | nil=>rfl
    | cons d ds ih=>
      simp only[List.all_cons,Bool.and_eq_true]at h
      cases d with
      | t x=>simp[aH,ren,ih h.2]
      | _=>simp at h
   simp[ren,depth,this]
 | _=>simp[pG]at h
def kc(H:ab)(p:D×ab):Option (D×ab):=if pG p.1&&p.2.isEmpty then some (p.1,H)else
 (ren (bf [] H.length) depth p.1).bind fun r'=>(aH (bR (bf [] H.length)) p.2).map fun os=>(r',H++os)
@[go_sem] theorem KR (H : ab) (x : T) : kc H (.t x, []) = some (.t x, H) := (rfl)
@[go_sem] theorem KS (H : ab) : kc H (.tup [], []) = some (.tup [], H) := (rfl)
@[go_sem] theorem KT (H : ab) (x y : T) : kc H (.tup [.t x, .t y], []) = some (.tup [.t x, .t y], H) := (rfl)
@[go_sem] theorem KU (H : ab) (x y z : T) : kc H (.tup [.t x, .t y, .t z], []) = some (.tup [.t x, .t y, .t z], H) := (rfl)
@[go_sem] theorem KV (H : ab) (x y z u : T) : kc H (.tup [.t x, .t y, .t z, .t u], []) = some (.tup [.t x, .t y, .t z, .t u], H) := (rfl)
theorem rB(H:ab)(call:ah)(f raw:Nat)(ds:List D)(ts:List T)(h:df H ds=some ts):
 BV H call f raw [] ds=(call raw f (ts.map .t) []).bind (kc H):=by
 obtain⟨h1,h2⟩:=gl H h 0
 simp only[BV,gy,h1,Option.bind_some,rA,bL,reach,fV,List.flatMap_nil,h2,pins,yu,pick,aH]
 cases hc:call raw f (ts.map .t) []with
 | none=>rfl
 | some p=>
   obtain⟨d,os⟩:=p
   simp only[Option.bind_some,List.isEmpty_nil,Bool.true_and,kc]
   by_cases h3:os=[]
   · subst h3
     simp only[List.isEmpty_nil,Bool.true_and,Bool.and_true,aH,Option.map_some,List.length_nil,List.take_nil,aU,List.drop_nil,List.append_nil]
     by_cases h4:pG d=true
     · rw[if_pos h4]
       split
       · rfl
       · rw[uj h4];rfl
     · rw[if_neg h4]
       split
       · rename_i h5
         exfalso
         apply h4
         cases d with
         | t x=>rfl
         | tup ds=>
           simp only[ef,List.all_eq_true]at h5
           simp only[pG,List.all_eq_true]
           intro y hy
           have:=h5 y hy
           cases y<;>simp_all [jq]
         | _=>simp[ef]at h5
       · rfl
   · have:os.isEmpty=false:=by cases os<;>simp_all
     simp only[this,Bool.false_and,Bool.and_false,if_false,Bool.false_eq_true,List.length_nil,List.take_zero,aU,List.drop_zero]
@[go_sem] theorem BX (st : St) : cb st [] = some [] := (rfl)
def MR(st:St)(r:List (Nat×Option (Nat×Bool)))(d:D):Option (List D):=cJ d (cb st r)
@[go_sem] theorem KW (vs : List D) (H : ab) (r : List (Nat × Option (Nat × Bool))) (d : D) : MR ⟨vs, H⟩ r d = cJ d (cb ⟨vs, H⟩ r) := (rfl)
@[go_sem] theorem BZ (vs : List D) (H : ab) (j : Nat) (r : List (Nat × Option (Nat × Bool))) : cb ⟨vs, H⟩ ((j, none) :: r) = vs[j]?.bind (MR ⟨vs, H⟩ r) := (rfl)
def KX(st:St)(r:List (Nat×Option (Nat×Bool)))(p:D×ab):Option (List D):=cJ p.1 (cb st r)
@[go_sem] theorem KY (vs : List D) (H : ab) (r : List (Nat × Option (Nat × Bool))) (d : D) (H' : ab) : KX ⟨vs, H⟩ r (d, H') = cJ d (cb ⟨vs, H⟩ r) := (rfl)
def KZ(st:St)(n:Nat)(agg:Bool)(r:List (Nat×Option (Nat×Bool)))(p:D):Option (List D):=(sJ st.H n agg p).bind (KX st r)
@[go_sem] theorem K0 (vs : List D) (H : ab) (n : Nat) (agg : Bool) (r : List (Nat × Option (Nat × Bool))) (p : D) : KZ ⟨vs, H⟩ n agg r p = (sJ H n agg p).bind (KX ⟨vs, H⟩ r) := (rfl)
@[go_sem] theorem yv (vs : List D) (H : ab) (j n : Nat) (agg : Bool) (r : List (Nat × Option (Nat × Bool))) : cb ⟨vs, H⟩ ((j, some (n, agg)) :: r) = vs[j]?.bind (KZ ⟨vs, H⟩ n agg r) := by
 simp only[cb]
 cases vs[j]? with
 | none=>rfl
 | some p=>
   simp only[Option.bind_some,KZ,sJ]
   cases ij H p n agg<;>rfl
@[go_sem] theorem K1 (H : ab) (n : Nat) (x : T) : frz H n (.t x) = some x := by cases n <;> rfl
@[go_sem] theorem K2 (H : ab) (n : Nat) : frz H n .nil = some (.sl []) := by cases n <;> rfl
@[go_sem] theorem K3 (H : ab) (n : Nat) (cs : List D) : frz H (n + 1) (.agg cs) = (aH (frz H n) cs).map .agg := (rfl)
@[go_sem] theorem pH (H : ab) (n : Nat) (ts : List T) : aH (frz H n) (ts.map .t) = some ts := by
 induction ts with
 | nil=>rfl
 | cons t ts ih=>simp[aH,K1,ih]
def frA(H:ab)(n ep m lo hi:Nat):Option Obj→Option T
 | some (.arr _ _ ep' es)=>if ep=ep'∧m=es.length then(aH (frz H n) ((es.drop lo).take (hi-lo))).map .sl else none
 | _=>none
def frR(H:ab)(n ep m:Nat):Option Obj→Option T
 | some (.arr _ _ ep' es)=>if ep=ep'∧m=es.length then(aH (frz H n) es).map .sl else none
 | _=>none
@[go_sem] theorem K4 (H : ab) (n id ep m : Nat) : frz H (n + 1) (.ref id ep m) = frR H n ep m H[id]? := by
 simp only[frz,bI]
 generalize H[id]?=o
 rcases o with _ | (_ | ⟨sz',pin,ep',es⟩)
 · rfl
 · rfl
 · simp only[frR]
   by_cases h:ep=ep'∧m=es.length
   · rw[if_pos h,if_pos h];rfl
   · rw[if_neg h,if_neg h];rfl
@[go_sem] theorem K5 (H : ab) (n id ep m lo hi : Nat) : frz H (n + 1) (.sub id ep m lo hi) = frA H n ep m lo hi H[id]? := by
 simp only[frz,bI]
 generalize H[id]?=o
 rcases o with _ | (_ | ⟨sz',pin,ep',es⟩)
 · rfl
 · rfl
 · simp only[frA]
   by_cases h:ep=ep'∧m=es.length
   · rw[if_pos h,if_pos h];rfl
   · rw[if_neg h,if_neg h];rfl
@[go_sem] theorem K6 (H : ab) (n ep m sz : Nat) (pin : Bool) (es : List D) : frR H n ep m (some (.arr sz pin ep es)) = if m = es.length then (aH (frz H n) es).map .sl else none := by simp [frR]
@[go_sem] theorem K7 (H : ab) (n ep m lo hi sz : Nat) (pin : Bool) (es : List D) : frA H n ep m lo hi (some (.arr sz pin ep es)) = if m = es.length then (aH (frz H n) ((es.drop lo).take (hi - lo))).map .sl else none := by simp [frA]
@[go_sem] theorem MS (H : ab) (x : T) : jr H (.t x) = some (.t x) := (rfl)
@[go_sem] theorem Ix (H : ab) : jr H .nil = some (.t (.sl [])) := (rfl)
@[go_sem] theorem Iy (H : ab) (cs : List D) : jr H (.agg cs) = (frz H 8 (.agg cs)).map .t := (rfl)
@[go_sem] theorem Iz (H : ab) (id ep n : Nat) : jr H (.ref id ep n) = (frz H 8 (.ref id ep n)).map .t := (rfl)
@[go_sem] theorem IA (H : ab) (id ep n lo hi : Nat) : jr H (.sub id ep n lo hi) = (frz H 8 (.sub id ep n lo hi)).map .t := (rfl)
@[go_sem] theorem K8 (H : ab) (id off : Nat) : jr H (.bp id off) = some (.bp id off) := (rfl)
@[go_sem] theorem K9 (H : ab) (id ep n i off : Nat) : jr H (.ap id ep n i off) = some (.ap id ep n i off) := (rfl)
@[go_sem] theorem La (H : ab) (cs : List T) : jr H (.ep cs) = some (.ep cs) := (rfl)
@[go_sem] theorem Lb (H : ab) (f : Nat) (cs : List D) : jr H (.fn f cs) = some (.fn f cs) := (rfl)
def ltB:Nat→Nat→Bool
 | _,0=>false
 | 0,_+1=>true
 | m+1,n+1=>ltB m n
@[go_sem] theorem Of (m : Nat) : ltB m 0 = false := by cases m <;> rfl
@[go_sem] theorem MT (n : Nat) : ltB 0 (n + 1) = true := (rfl)
@[go_sem] theorem MU (m n : Nat) : ltB (m + 1) (n + 1) = ltB m n := (rfl)
theorem ez:∀ {m n:Nat},ltB m n=decide (m<n)
 | m,0=>by cases m<;>simp[ltB]
 | 0,n+1=>by simp[ltB]
 | m+1,n+1=>by simp[ltB,ez (m:=m) (n:=n)]
def eqB:Nat→Nat→Bool
 | 0,0=>true
 | m+1,n+1=>eqB m n
 | _,_=>false
@[go_sem] theorem MV : eqB 0 0 = true := (rfl)
@[go_sem] theorem MW (n : Nat) : eqB 0 (n + 1) = false := (rfl)
@[go_sem] theorem MX (n : Nat) : eqB (n + 1) 0 = false := (rfl)
@[go_sem] theorem MY (m n : Nat) : eqB (m + 1) (n + 1) = eqB m n := (rfl)
theorem nQ:∀ {m n:Nat},eqB m n=decide (m=n)
 | 0,0=>rfl
 | 0,n+1=>rfl
 | m+1,0=>rfl
 | m+1,n+1=>by simp[eqB,nQ (m:=m) (n:=n)]
section
variable (k n : Nat)
@[go_sem] theorem Lc (x : T) : old k n (.t x) = true := by cases n <;> rfl
@[go_sem] theorem Ld : old k n .nil = true := by cases n <;> rfl
@[go_sem] theorem MZ (cs : List T) : old k n (.ep cs) = true := by cases n <;> rfl
@[go_sem] theorem IB : old k n .nilp = true := by cases n <;> rfl
@[go_sem] theorem Le : old k n .und = true := by cases n <;> rfl
@[go_sem] theorem FC (id off : Nat) : old k n (.bp id off) = ltB id k := by cases n <;> simp [old, ez]
@[go_sem] theorem M0 (id ep m i off : Nat) : old k n (.ap id ep m i off) = ltB id k := by cases n <;> simp [old, ez]
@[go_sem] theorem Lf (id ep m : Nat) : old k n (.ref id ep m) = ltB id k := by cases n <;> simp [old, ez]
@[go_sem] theorem Lg (id ep m lo hi : Nat) : old k n (.sub id ep m lo hi) = ltB id k := by cases n <;> simp [old, ez]
def bF(n:Nat)(cs:List D):Bool:=cs.all (old k n)
@[go_sem] theorem B0 : bF k n [] = true := (rfl)
@[go_sem] theorem nR (d : D) (r : List D) : bF k n (d :: r) = (old k n d && bF k n r) := (rfl)
@[go_sem] theorem oO (ts : List T) : bF k n (ts.map .t) = true := by
 induction ts with
 | nil=>rfl
 | cons t ts ih=>rw[List.map_cons,nR,Lc,ih];rfl
@[go_sem] theorem B1 (m : Nat) (x : T) : bF k n (List.replicate m (.t x)) = true := by
 have:List.replicate m (D.t x)=(List.replicate m x).map .t:=by simp
 rw[this,oO]
@[go_sem] theorem B2 (a b : List D) : bF k n (a ++ b) = (bF k n a && bF k n b) := by simp [bF]
@[go_sem] theorem Lh (cs : List D) : old k (n + 1) (.agg cs) = bF k n cs := (rfl)
@[go_sem] theorem Li (cs : List D) : old k (n + 1) (.tup cs) = bF k n cs := (rfl)
@[go_sem] theorem M1 (f : Nat) (cs : List D) : old k (n + 1) (.fn f cs) = bF k n cs := (rfl)
end
def bn(k:Nat):ab→Bool
 | []=>true
 | .box cs::r=>bF k 8 cs&&bn k r
 | .arr _ _ _ es::r=>bF k 8 es&&bn k r
@[go_sem] theorem yw (k : Nat) : bn k [] = true := (rfl)
@[go_sem] theorem yx (k : Nat) (cs : List D) (r : ab) : bn k (.box cs :: r) = (bF k 8 cs && bn k r) := (rfl)
@[go_sem] theorem yy (k sz ep : Nat) (pin : Bool) (es : List D) (r : ab) : bn k (.arr sz pin ep es :: r) = (bF k 8 es && bn k r) := (rfl)
theorem dj(k:Nat)(H:ab):H.all (fun o=>o.ds.all (old k depth))=bn k H:=by
 induction H with
 | nil=>rfl
 | cons o r ih=>rw[List.all_cons,ih];cases o<;>rfl
def yz(d:D)(b:Bool):D:=if b then d else .und
@[go_sem] theorem B3 (d : D) : yz d true = d := (rfl)
@[go_sem] theorem yA (d : D) : yz d false = .und := (rfl)
@[go_sem] theorem Lj (k : Nat) (d : D) : kill k d = yz d (old k 8 d) := (rfl)
def pI(k:Nat):List D→List D
 | []=>[]
 | d::r=>kill k d::pI k r
@[go_sem] theorem FD (k : Nat) : pI k [] = [] := (rfl)
@[go_sem] theorem B4 (k : Nat) (d : D) (r : List D) : pI k (d :: r) = kill k d :: pI k r := (rfl)
theorem uk(k:Nat)(vs:List D):vs.map (kill k)=pI k vs:=by
 induction vs with
 | nil=>rfl
 | cons d r ih=>rw[List.map_cons,ih];rfl
@[go_sem] theorem IC (k : Nat) (vs : List D) (H : ab) : pd k ⟨vs, H⟩ = if bn k (H.take k) = true then some ⟨pI k vs, H.take k⟩ else none := by
 simp only[pd,dj,uk]
@[go_sem] theorem yB (H : ab) (n : Nat) (x : T) : bO H n (.t x) = [] := by cases n <;> rfl
@[go_sem] theorem ID (H : ab) (n : Nat) : bO H n .nil = [] := by cases n <;> rfl
@[go_sem] theorem Lk (H : ab) (n id off : Nat) : bO H n (.bp id off) = [] := by cases n <;> rfl
@[go_sem] theorem Ll (H : ab) (n f : Nat) (cs : List D) : bO H n (.fn f cs) = [] := by cases n <;> rfl
@[go_sem] theorem Lm (H : ab) (n : Nat) (cs : List T) : bO H n (.ep cs) = [] := by cases n <;> rfl
@[go_sem] theorem Ln (H : ab) (n a b c d e : Nat) : bO H n (.ap a b c d e) = [] := by cases n <;> rfl
def fI(H:ab)(n:Nat)(cs:List D):List Nat:=cs.flatMap (bO H n)
@[go_sem] theorem FE (H : ab) (n : Nat) : fI H n [] = [] := (rfl)
@[go_sem] theorem pJ (H : ab) (n : Nat) (d : D) (r : List D) : fI H n (d :: r) = bO H n d ++ fI H n r := (rfl)
@[go_sem] theorem Lo (H : ab) (n : Nat) (ts : List T) : fI H n (ts.map .t) = [] := by
 induction ts with
 | nil=>rfl
 | cons t ts ih=>rw[List.map_cons,pJ,ih,yB];rfl
@[go_sem] theorem FF (H : ab) (n : Nat) (a b : List D) : fI H n (a ++ b) = fI H n a ++ fI H n b := by simp [fI]
@[go_sem] theorem IE (H : ab) (n : Nat) (cs : List D) : bO H (n + 1) (.agg cs) = fI H n cs := (rfl)
def yC(H:ab)(n:Nat):Option Obj→List Nat
 | some (.arr _ _ _ es)=>fI H n es
 | _=>[]
@[go_sem] theorem FG (H : ab) (n sz ep : Nat) (pin : Bool) (es : List D) : yC H n (some (.arr sz pin ep es)) = fI H n es := (rfl)
@[go_sem] theorem IF (H : ab) (n id ep m : Nat) : bO H (n + 1) (.ref id ep m) = id :: yC H n H[id]? := (rfl)
@[go_sem] theorem IG (H : ab) (n id ep m lo hi : Nat) : bO H (n + 1) (.sub id ep m lo hi) = id :: yC H n H[id]? := (rfl)
@[go_sem] theorem Lp : jd [] = .tup [] := (rfl)
@[go_sem] theorem Lq (d : D) : jd [d] = d := (rfl)
@[go_sem] theorem Lr (a b : D) (r : List D) : jd (a :: b :: r) = .tup (a :: b :: r) := (rfl)
def mJ(k:Nat):List Nat→Bool
 | []=>true
 | i::r=> !ltB i k&&mJ k r
@[go_sem] theorem FH (k : Nat) : mJ k [] = true := (rfl)
@[go_sem] theorem B5 (k i : Nat) (r : List Nat) : mJ k (i :: r) = (!ltB i k && mJ k r) := (rfl)
theorem oP(k:Nat)(l:List Nat):l.all (fun i=>decide (k≤i))=mJ k l:=by
 induction l with
 | nil=>rfl
 | cons i r ih=>
   rw[List.all_cons,ih]
   simp only[mJ,ez]
   congr 1
   rw[Bool.eq_iff_iff];simp
def IH(k raw:Nat)(H:ab)(ds rs:List D):Option (D×ab):=
 (dD H (max raw 1) (List.range k) (rs.flatMap (ids depth)++fV H (List.range k))).bind fun q=>
  if(cj H raw ds).all (fun i=> !(List.range k++q.1).contains i)then
   (aH (ren (idxOf (List.range k++q.1)) depth) rs).bind fun rs'=>
    (aH (bR (idxOf (List.range k++q.1))) (H.take k++q.2)).map fun hs'=>(jd rs',hs')
  else none
def B6(k raw:Nat)(H:ab)(ds rs:List D)(b:Bool):Option (D×ab):=
 if b then(if mJ k (cj H raw ds)=true then some (jd rs,H.take k)else none)else IH k raw H ds rs
@[go_sem] theorem FI (k raw : Nat) (H : ab) (ds rs : List D) : B6 k raw H ds rs true = if mJ k (cj H raw ds) = true then some (jd rs, H.take k) else none := (rfl)
def FJ(k raw:Nat)(H:ab)(ds rs:List D):Option (D×ab):=B6 k raw H ds rs (bF k 8 rs&&bn k (H.take k))
@[go_sem] theorem Lt (k raw : Nat) (H : ab) (ds rs : List D) : FJ k raw H ds rs = B6 k raw H ds rs (bF k 8 rs && bn k (H.take k)) := (rfl)
@[go_sem] theorem FK (k : Nat) (H : ab) (ds : List D) : finish k 0 H ds = (aH (jr H) ds).bind (FJ k 0 H ds) := by
 simp only[finish,if_true,dj,oP]
 cases aH (jr H) ds with
 | none=>rfl
 | some rs=>
   simp only[Option.bind_some,FJ,B6]
   show(if(bF k 8 rs&&bn k (H.take k))=true then _ else _)=_
   cases (bF k 8 rs&&bn k (H.take k))<;>rfl
@[go_sem] theorem FL (H : ab) (ds : List D) : cj H 0 ds = fI H 8 ds := (rfl)
@[go_sem] theorem FM (vs : List D) : c9 [] vs = vs := (rfl)
@[go_sem] theorem B7 (i : Nat) (r : List Nat) (vs : List D) : c9 (i :: r) vs = c9 r (vs.set i .und) := (rfl)
@[go_sem] theorem Lu (dead : List Nat) (k : Nat) (vs : List D) (H : ab) : tidy false dead k ⟨vs, H⟩ = some ⟨c9 dead vs, H⟩ := (rfl)
@[go_sem] theorem Lv (dead : List Nat) (k : Nat) (vs : List D) (H : ab) : tidy true dead k ⟨vs, H⟩ = pd k ⟨c9 dead vs, H⟩ := (rfl)
section
variable (H : ab) (call : ah) (f raw : Nat) (keep : List Nat) (ds : List D)
def mK(H1:ab)(n:Nat)(sel:List Nat)(p:D×ab):Option (D×ab):=
 (ren (bf sel n) depth p.1).bind fun r'=>(aH (bR (bf sel n)) p.2).map fun os=>(r',aU H1 sel (os.take sel.length)++os.drop sel.length)
def iD(H1:ab)(sel:List Nat)(p:D×ab):Option (D×ab):=
 if sel.isEmpty&&p.2.isEmpty&&ef p.1 then some (p.1,H)else mK H1 H.length sel p
def yD(args:List D)(H1:ab)(sel:List Nat)(hs:ab):Option (D×ab):=(call raw f args hs).bind (iD H H1 sel)
def yE(args:List D)(H1:ab)(sel:List Nat)(hs:ab):Option (D×ab):=(aH (bR (idxOf sel)) hs).bind (yD H call f raw args H1 sel)
def yF(H1:ab)(sel:List Nat)(args:List D):Option (D×ab):=(pick H1 sel).bind (yE H call f raw args H1 sel)
def yG(args:List D)(sel:List Nat):Option (D×ab):=(aH (ren (idxOf sel) depth) args).bind (yF H call f raw (pins H (aT H keep 0 ds)) sel)
def kP(n:Nat)(cs:List D):List Nat:=cs.flatMap (ids n)
def yH(args:List D):Option (D×ab):=yG H call f raw keep ds args (reach H 3 (bL [] (kP 8 args)))
def um:Option (D×ab):=(fW H keep 0 ds).bind (yH H call f raw keep ds)
@[go_sem] theorem II : um H call f raw keep ds = (fW H keep 0 ds).bind (yH H call f raw keep ds) := (rfl)
@[go_sem] theorem IJ (args : List D) : yH H call f raw keep ds args = yG H call f raw keep ds args (reach H 3 (bL [] (kP 8 args))) := (rfl)
@[go_sem] theorem IK (args : List D) (sel : List Nat) : yG H call f raw keep ds args sel = (aH (ren (idxOf sel) 8) args).bind (yF H call f raw (pins H (aT H keep 0 ds)) sel) := (rfl)
@[go_sem] theorem IL (H1 : ab) (sel : List Nat) (args : List D) : yF H call f raw H1 sel args = (pick H1 sel).bind (yE H call f raw args H1 sel) := (rfl)
@[go_sem] theorem IM (args : List D) (H1 : ab) (sel : List Nat) (hs : ab) : yE H call f raw args H1 sel hs = (aH (bR (idxOf sel)) hs).bind (yD H call f raw args H1 sel) := (rfl)
@[go_sem] theorem IN (args : List D) (H1 : ab) (sel : List Nat) (hs : ab) : yD H call f raw args H1 sel hs = (call raw f args hs).bind (iD H H1 sel) := (rfl)
def yI(H1:ab)(sel:List Nat)(r:D)(os:ab):Option (D×ab):=some (r,aU H1 sel (os.take sel.length)++os.drop sel.length)
@[go_sem] theorem IP (H1 : ab) (sel : List Nat) (r : D) (os : ab) : yI H1 sel r os = some (r, aU H1 sel (os.take sel.length) ++ os.drop sel.length) := (rfl)
def yJ(H1:ab)(n:Nat)(sel:List Nat)(os:ab)(r:D):Option (D×ab):=(aH (bR (bf sel n)) os).bind (yI H1 sel r)
@[go_sem] theorem IQ (H1 : ab) (n : Nat) (sel : List Nat) (os : ab) (r : D) : yJ H1 n sel os r = (aH (bR (bf sel n)) os).bind (yI H1 sel r) := (rfl)
@[go_sem] theorem IS (H1 : ab) (n : Nat) (sel : List Nat) (r : D) (os : ab) : mK H1 n sel (r, os) = (ren (bf sel n) 8 r).bind (yJ H1 n sel os) := by
 simp only[mK,depth]
 cases ren (bf sel n) 8 r with
 | none=>rfl
 | some r'=>simp only[Option.bind_some,yJ];cases aH (bR (bf sel n)) os<;>rfl
@[go_sem] theorem FN (H1 : ab) (i : Nat) (sel : List Nat) (p : D × ab) : iD H H1 (i :: sel) p = mK H1 H.length (i :: sel) p := (rfl)
@[go_sem] theorem IT (H1 : ab) (sel : List Nat) (r : D) (o : Obj) (os : ab) : iD H H1 sel (r, o :: os) = mK H1 H.length sel (r, o :: os) := by
 simp[iD]
@[go_sem] theorem Lw (H1 : ab) (k : IntKind) (n : Int) : iD H H1 [] (.t (.int k n), []) = some (.t (.int k n), H) := (rfl)
@[go_sem] theorem Lx (H1 : ab) (b : Bool) : iD H H1 [] (.t (.bool b), []) = some (.t (.bool b), H) := (rfl)
@[go_sem] theorem IU (H1 : ab) (es : List T) : iD H H1 [] (.t (.sl es), []) = some (.t (.sl es), H1) := by simp [iD, mK, ef, T.scalar, ren, depth, aH, aU]
@[go_sem] theorem FO (H1 : ab) (es : List T) : iD H H1 [] (.t (.agg es), []) = some (.t (.agg es), H1) := by simp [iD, mK, ef, T.scalar, ren, depth, aH, aU]
@[go_sem] theorem FP (H1 : ab) (ds : List D) : iD H H1 [] (.tup ds, []) = if ds.all jq then some (.tup ds, H) else mK H1 H.length [] (.tup ds, []) := by
 simp[iD,ef]
def yK:Option (List T)→Option (D×ab)
 | some ts=>(call raw f (ts.map .t) []).bind (kc H)
 | none=>um H call f raw [] ds
@[go_sem] theorem B8 (ts : List T) : yK H call f raw ds (some ts) = (call raw f (ts.map .t) []).bind (kc H) := (rfl)
@[go_sem] theorem B9 : yK H call f raw ds none = um H call f raw [] ds := (rfl)
@[go_sem] theorem Ly : BV H call f raw [] ds = yK H call f raw ds (df H ds) := by
 cases h:df H ds with
 | none=>rfl
 | some ts=>exact rB H call f raw ds ts h
@[go_sem] theorem M3 (k : Nat) : BV H call f raw (k :: keep) ds = um H call f raw (k :: keep) ds := (rfl)
end
section
variable (H : ab) (keep : List Nat)
@[go_sem] theorem FQ (i : Nat) : fW H keep i [] = some [] := (rfl)
def oQ(i:Nat):List Nat→Bool
 | []=>false
 | j::r=>eqB i j||oQ i r
@[go_sem] theorem IV (i : Nat) : oQ i [] = false := (rfl)
@[go_sem] theorem FR (i j : Nat) (r : List Nat) : oQ i (j :: r) = (eqB i j || oQ i r) := (rfl)
theorem lA(i:Nat)(l:List Nat):l.contains i=oQ i l:=by
 induction l with
 | nil=>rfl
 | cons j r ih=>rw[List.contains_cons,ih];simp only[oQ,nQ];rw[beq_eq_decide_nat]
where beq_eq_decide_nat {a b:Nat}:(a==b)=decide (a=b):=by rw[Bool.eq_iff_iff];simp
def Lz(d:D):Bool→Option D
 | true=>some d
 | false=>jr H d
@[go_sem] theorem M4 (d : D) : Lz H d true = some d := (rfl)
@[go_sem] theorem M5 (d : D) : Lz H d false = jr H d := (rfl)
def M6(i:Nat)(r:List D)(x:D):Option (List D):=cJ x (fW H keep (i+1) r)
@[go_sem] theorem LA (i : Nat) (r : List D) (x : D) : M6 H keep i r x = cJ x (fW H keep (i + 1) r) := (rfl)
@[go_sem] theorem Ca (i : Nat) (d : D) (r : List D) : fW H keep i (d :: r) = (Lz H d (oQ i keep)).bind (M6 H keep i r) := by
 simp only[fW,lA]
 cases oQ i keep<;>rfl
@[go_sem] theorem sK (i : Nat) : aT H keep i [] = [] := (rfl)
def frK(l:List Nat):Bool→List Nat
 | true=>[]
 | false=>l
@[go_sem] theorem Og (l : List Nat) : frK l true = [] := (rfl)
@[go_sem] theorem Oh (l : List Nat) : frK l false = l := (rfl)
@[go_sem] theorem rC (i : Nat) (d : D) (r : List D) : aT H keep i (d :: r) = frK (bO H 8 d) (oQ i keep) ++ aT H keep (i + 1) r := by
 simp only[aT,lA]
 cases oQ i keep<;>rfl
@[go_sem] theorem IW (H : ab) : pins H [] = H := (rfl)
@[go_sem] theorem FT (H : ab) (i : Nat) (r : List Nat) : pins H (i :: r) = pins (H.modify i oh) r := (rfl)
def pK(i:Nat):Option Obj→ab
 | some (.arr sz _ ep es)=>H.set i (.arr sz true ep es)
 | _=>H
@[go_sem] theorem FU (i : Nat) (cs : List D) : pK H i (some (.box cs)) = H := (rfl)
@[go_sem] theorem FV (i sz ep : Nat) (pin : Bool) (es : List D) : pK H i (some (.arr sz pin ep es)) = H.set i (.arr sz true ep es) := (rfl)
@[go_sem] theorem Cb (i : Nat) : List.modify H i oh = pK H i H[i]? := by
 apply List.ext_getElem?
 intro j
 rw[List.getElem?_modify]
 cases h:H[i]? with
 | none=>
   simp only[pK]
   by_cases e:i=j
   · subst e;rw[h];simp
   · simp[e]
 | some o=>
   have hi:i<H.length:=(List.getElem?_eq_some_iff.1 h).1
   cases o with
   | box cs=>
     simp only[pK]
     by_cases e:i=j
     · subst e;rw[h];simp[oh]
     · simp[e]
   | arr sz pin ep es=>
     simp only[pK]
     rw[List.getElem?_set]
     by_cases e:i=j
     · subst e;rw[h];simp[oh,hi]
     · simp[e]
section
variable (n : Nat)
@[go_sem] theorem Oi (x : T) : ids n (.t x) = [] := by cases n <;> rfl
@[go_sem] theorem LB : ids n .nil = [] := by cases n <;> rfl
@[go_sem] theorem IX : ids n .nilp = [] := by cases n <;> rfl
@[go_sem] theorem LC : ids n .und = [] := by cases n <;> rfl
@[go_sem] theorem M7 (cs : List T) : ids n (.ep cs) = [] := by cases n <;> rfl
@[go_sem] theorem M8 (id off : Nat) : ids n (.bp id off) = [id] := by cases n <;> rfl
@[go_sem] theorem M9 (id ep m i off : Nat) : ids n (.ap id ep m i off) = [id] := by cases n <;> rfl
@[go_sem] theorem LD (id ep m : Nat) : ids n (.ref id ep m) = [id] := by cases n <;> rfl
@[go_sem] theorem LF (id ep m lo hi : Nat) : ids n (.sub id ep m lo hi) = [id] := by cases n <;> rfl
@[go_sem] theorem LG (cs : List D) : ids (n + 1) (.agg cs) = kP n cs := (rfl)
@[go_sem] theorem LH (cs : List D) : ids (n + 1) (.tup cs) = kP n cs := (rfl)
@[go_sem] theorem Na (f : Nat) (cs : List D) : ids (n + 1) (.fn f cs) = kP n cs := (rfl)
@[go_sem] theorem IY : kP n [] = [] := (rfl)
@[go_sem] theorem FW (d : D) (r : List D) : kP n (d :: r) = ids n d ++ kP n r := (rfl)
@[go_sem] theorem FX (ts : List T) : kP n (ts.map .t) = [] := rA ts n
@[go_sem] theorem IZ (a b : List D) : kP n (a ++ b) = kP n a ++ kP n b := by simp [kP]
@[go_sem] theorem I0 (m : Nat) (x : T) : kP n (List.replicate m (.t x)) = [] := by
 have:List.replicate m (D.t x)=(List.replicate m x).map .t:=by simp
 rw[this,FX]
end
def rD(sel:List Nat)(i:Nat):Bool→List Nat
 | true=>sel
 | false=>sel++[i]
@[go_sem] theorem I3 (sel : List Nat) (i : Nat) : rD sel i true = sel := (rfl)
@[go_sem] theorem I4 (sel : List Nat) (i : Nat) : rD sel i false = sel ++ [i] := (rfl)
@[go_sem] theorem Cc (sel : List Nat) : bL sel [] = sel := (rfl)
@[go_sem] theorem yL (sel : List Nat) (i : Nat) (r : List Nat) : bL sel (i :: r) = bL (rD sel i (oQ i sel)) r := by
 simp only[bL,lA]
 cases oQ i sel<;>rfl
def oR:Option Obj→List Nat
 | some (.box cs)=>kP 8 cs
 | some (.arr _ _ _ es)=>kP 8 es
 | none=>[]
@[go_sem] theorem Cd (cs : List D) : oR (some (.box cs)) = kP 8 cs := (rfl)
@[go_sem] theorem Ce (sz ep : Nat) (pin : Bool) (es : List D) : oR (some (.arr sz pin ep es)) = kP 8 es := (rfl)
@[go_sem] theorem FY : fV H [] = [] := (rfl)
@[go_sem] theorem Cf (i : Nat) (r : List Nat) : fV H (i :: r) = oR H[i]? ++ fV H r := by
 simp only[fV,List.flatMap_cons]
 congr 1
 cases H[i]? with
 | none=>rfl
 | some o=>cases o<;>rfl
@[go_sem] theorem LI (sel : List Nat) : reach H 0 sel = sel := (rfl)
@[go_sem] theorem LJ (n : Nat) (sel : List Nat) : reach H (n + 1) sel = reach H n (bL sel (fV H sel)) := (rfl)
@[go_sem] theorem I5 : pick H [] = some [] := (rfl)
def FZ(r:List Nat)(o:Obj):Option ab:=cJ o (pick H r)
@[go_sem] theorem I6 (r : List Nat) (o : Obj) : FZ H r o = cJ o (pick H r) := (rfl)
@[go_sem] theorem F3 (i : Nat) (r : List Nat) : pick H (i :: r) = H[i]?.bind (FZ H r) := (rfl)
end
section
variable (f : Nat → Option Nat) (n : Nat)
@[go_sem] theorem LK (x : T) : ren f n (.t x) = some (.t x) := by cases n <;> rfl
@[go_sem] theorem LL : ren f n .nil = some .nil := by cases n <;> rfl
@[go_sem] theorem I7 : ren f n .nilp = some .nilp := by cases n <;> rfl
@[go_sem] theorem LM : ren f n .und = some .und := by cases n <;> rfl
@[go_sem] theorem Nb (cs : List T) : ren f n (.ep cs) = some (.ep cs) := by cases n <;> rfl
def Nc(off:Nat)(i:Nat):D:= .bp i off
@[go_sem] theorem LN (off i : Nat) : Nc off i = .bp i off := (rfl)
@[go_sem] theorem Nd (id off : Nat) : ren f n (.bp id off) = (f id).map (Nc off) := by cases n <;> rfl
def Nf(ep m i off:Nat)(j:Nat):D:= .ap j ep m i off
@[go_sem] theorem LO (ep m i off j : Nat) : Nf ep m i off j = .ap j ep m i off := (rfl)
@[go_sem] theorem Ng (id ep m i off : Nat) : ren f n (.ap id ep m i off) = (f id).map (Nf ep m i off) := by cases n <;> rfl
def F4(ep m:Nat)(j:Nat):D:= .ref j ep m
@[go_sem] theorem I8 (ep m j : Nat) : F4 ep m j = .ref j ep m := (rfl)
@[go_sem] theorem LP (id ep m : Nat) : ren f n (.ref id ep m) = (f id).map (F4 ep m) := by cases n <;> rfl
def F5(ep m lo hi:Nat)(j:Nat):D:= .sub j ep m lo hi
@[go_sem] theorem I9 (ep m lo hi j : Nat) : F5 ep m lo hi j = .sub j ep m lo hi := (rfl)
@[go_sem] theorem LQ (id ep m lo hi : Nat) : ren f n (.sub id ep m lo hi) = (f id).map (F5 ep m lo hi) := by cases n <;> rfl
@[go_sem] theorem Nh (g : Nat) (cs : List D) : ren f (n + 1) (.fn g cs) = (aH (ren f n) cs).map (.fn g) := (rfl)
@[go_sem] theorem LR (cs : List D) : ren f (n + 1) (.agg cs) = (aH (ren f n) cs).map .agg := (rfl)
@[go_sem] theorem LS (cs : List D) : ren f (n + 1) (.tup cs) = (aH (ren f n) cs).map .tup := (rfl)
@[go_sem] theorem pL (ts : List T) : aH (ren f n) (ts.map .t) = some (ts.map .t) := by
 induction ts with
 | nil=>rfl
 | cons t ts ih=>rw[List.map_cons,rr,LK,Option.bind_some,x8,ih];rfl
@[go_sem] theorem vN (m : Nat) (x : T) : aH (ren f n) (List.replicate m (.t x)) = some (List.replicate m (.t x)) := by
 have:List.replicate m (D.t x)=(List.replicate m x).map .t:=by simp
 rw[this,pL]
@[go_sem] theorem Cg (cs : List D) : bR f (.box cs) = (aH (ren f 8) cs).map .box := (rfl)
@[go_sem] theorem Ch (sz ep : Nat) (pin : Bool) (es : List D) : bR f (.arr sz pin ep es) = (aH (ren f 8) es).map (.arr sz pin ep) := (rfl)
end
def Ci(x:Option Nat):Bool→Option Nat
 | true=>some 0
 | false=>x.map (· +1)
@[go_sem] theorem Ni (x : Option Nat) : Ci x true = some 0 := (rfl)
@[go_sem] theorem Nj (k : Nat) : Ci (some k) false = some (k + 1) := (rfl)
@[go_sem] theorem Nk : Ci none false = none := (rfl)
@[go_sem] theorem idxOf_nil (i : Nat) : idxOf [] i = none := (rfl)
@[go_sem] theorem idxOf_cons (j i : Nat) (r : List Nat) : idxOf (j :: r) i = Ci (idxOf r i) (eqB j i) := by
 simp only[idxOf,nQ]
 by_cases h:j=i
 · simp[h,Ci]
 · simp[h,Ci]
@[go_sem] theorem Cj (n i : Nat) : bf [] n i = some (n + i) := by simp [bf]
@[go_sem] theorem Ja (j n : Nat) (r : List Nat) : bf (j :: r) n 0 = some j := by simp [bf]
@[go_sem] theorem Jb (j n i : Nat) (r : List Nat) : bf (j :: r) n (i + 1) = bf r n i := by
 simp only[bf,List.length_cons,Nat.add_lt_add_iff_right,List.getElem?_cons_succ,Nat.add_sub_add_right]
@[go_sem] theorem yM {α : Type} (H os : List α) : aU H [] os = H := by cases os <;> rfl
@[go_sem] theorem vO {α : Type} (H : List α) (i : Nat) (r : List Nat) (o : α) (os : List α) : aU H (i :: r) (o :: os) = aU (H.set i o) r os := (rfl)
def lbP(sz:Nat)(p:List D×ab):List D×ab:=(p.1,.arr sz false 0 []::p.2)
@[go_sem] theorem Nl (sz : Nat) (cs : List D) (os : ab) : lbP sz (cs, os) = (cs, .arr sz false 0 [] :: os) := (rfl)
def lbC(base:Nat)(cs:List D)(off sz:Nat)(r:List (Nat×Nat)):Option D→List D×ab
 | some .nil=>lbP sz (ay (base+1) (cs.set off (.ref base 0 0)) r)
 | _=>ay base cs r
@[go_sem] theorem LU (base : Nat) (cs : List D) (off sz : Nat) (r : List (Nat × Nat)) : lbC base cs off sz r (some .nil) = lbP sz (ay (base + 1) (cs.set off (.ref base 0 0)) r) := (rfl)
@[go_sem] theorem Oj (base : Nat) (cs : List D) (off sz : Nat) (r : List (Nat × Nat)) (x : T) : lbC base cs off sz r (some (.t x)) = ay base cs r := (rfl)
@[go_sem] theorem LV (base : Nat) (cs : List D) (off sz : Nat) (r : List (Nat × Nat)) (a b c : Nat) : lbC base cs off sz r (some (.ref a b c)) = ay base cs r := (rfl)
@[go_sem] theorem vP (base : Nat) (cs : List D) (off sz : Nat) (r : List (Nat × Nat)) : ay base cs ((off, sz) :: r) = lbC base cs off sz r cs[off]? := by
 simp only[ay,lbC]
 split<;>split<;>simp_all [lbP]
def lvP(H:ab)(id:Nat)(p:List D×ab):Option (D×ab):=some (.tup [],H.set id (.box p.1)++p.2)
@[go_sem] theorem Nn (H : ab) (id : Nat) (cs : List D) (os : ab) : lvP H id (cs, os) = some (.tup [], H.set id (.box cs) ++ os) := (rfl)
def lvB(H:ab)(id:Nat)(l:List (Nat×Nat)):Option Obj→Option (D×ab)
 | some (.box cs)=>lvP H id (ay H.length cs l)
 | _=>none
@[go_sem] theorem No (H : ab) (id : Nat) (l : List (Nat × Nat)) (cs : List D) : lvB H id l (some (.box cs)) = lvP H id (ay H.length cs l) := (rfl)
@[go_sem] theorem yN (H : ab) (id : Nat) (x : Nat × Nat) (r : List (Nat × Nat)) : kN H id (x :: r) = lvB H id (x :: r) H[id]? := by
 simp only[kN,eg]
 generalize H[id]?=o
 rcases o with _ | (cs | _)
 · rfl
 · rfl
 · rfl
section
variable (H : ab)
def klE(n:Nat)(sel new:List Nat)(os:ab)(q:List Nat×ab):Option (List Nat×ab):=some (new++q.1,os++q.2)
@[go_sem] theorem Np (n : Nat) (sel new : List Nat) (os : ab) (a : List Nat) (b : ab) : klE n sel new os (a, b) = some (new ++ a, os ++ b) := (rfl)
def klD(n:Nat)(sel new:List Nat)(os:ab):Option (List Nat×ab):=(dD H n (sel++new) (fV H new)).bind (klE n sel new os)
@[go_sem] theorem Nq (n : Nat) (sel new : List Nat) (os : ab) : klD H n sel new os = (dD H n (sel ++ new) (fV H new)).bind (klE n sel new os) := (rfl)
def iY(sel:List Nat):List Nat→Bool
 | []=>true
 | i::r=> !oQ i sel&&iY sel r
@[go_sem] theorem Ck (sel : List Nat) : iY sel [] = true := (rfl)
@[go_sem] theorem yO (sel : List Nat) (i : Nat) (r : List Nat) : iY sel (i :: r) = (!oQ i sel && iY sel r) := (rfl)
theorem mL(sel l:List Nat):l.all (fun i=> !sel.contains i)=iY sel l:=by
 induction l with
 | nil=>rfl
 | cons i r ih=>rw[List.all_cons,ih,lA];rfl
def klC(n:Nat)(sel new:List Nat)(os:ab):Option (List Nat×ab):=
 (if n=0 then(if(os.flatMap fun o=>o.ds.flatMap (bO H depth)).all (fun i=> !(sel++new).contains i)then aH (a7 H) os else none)else some os).bind (klD H n sel new)
def gT:ab→List Nat
 | []=>[]
 | .box cs::r=>fI H 8 cs++gT r
 | .arr _ _ _ es::r=>fI H 8 es++gT r
@[go_sem] theorem Cl : gT H [] = [] := (rfl)
@[go_sem] theorem Cm (cs : List D) (r : ab) : gT H (.box cs :: r) = fI H 8 cs ++ gT H r := (rfl)
@[go_sem] theorem Cn (sz ep : Nat) (pin : Bool) (es : List D) (r : ab) : gT H (.arr sz pin ep es :: r) = fI H 8 es ++ gT H r := (rfl)
theorem rE(os:ab):(os.flatMap fun o=>o.ds.flatMap (bO H depth))=gT H os:=by
 induction os with
 | nil=>rfl
 | cons o r ih=>rw[List.flatMap_cons,ih];cases o<;>rfl
@[go_sem] theorem Ol (sel new : List Nat) (os : ab) : klC H 0 sel new os = (if iY (sel ++ new) (gT H os) = true then aH (a7 H) os else none).bind (klD H 0 sel new) := by
 simp only[klC,rE,mL,if_true]
@[go_sem] theorem Om (n : Nat) (sel new : List Nat) (os : ab) : klC H (n + 1) sel new os = klD H (n + 1) sel new os := by
 simp[klC]
def klN(n:Nat)(sel new:List Nat):Option (List Nat×ab):=(pick H new).bind (klC H n sel new)
@[go_sem] theorem Nr (n : Nat) (sel new : List Nat) : klN H n sel new = (pick H new).bind (klC H n sel new) := (rfl)
@[go_sem] theorem Jc (sel front : List Nat) : dD H 0 sel front = some ([], []) := (rfl)
@[go_sem] theorem Jd (n : Nat) (sel front : List Nat) : dD H (n + 1) sel front = klN H n sel ((bL sel front).drop sel.length) := by
 simp only[dD,klN]
 generalize (bL sel front).drop sel.length=new
 cases pick H new with
 | none=>rfl
 | some os=>
   simp only[Option.bind_some,klC]
   congr 1
   funext os'
   simp only[klD]
   cases dD H n (sel++new) (fV H new)<;>rfl
@[go_sem] theorem uo (cs : List D) : a7 H (.box cs) = (aH (jr H) cs).map .box := (rfl)
@[go_sem] theorem lB (sz ep : Nat) (pin : Bool) (ts : List T) : a7 H (.arr sz pin ep (ts.map .t)) = some (.arr sz pin ep (ts.map .t)) := by
 simp only[a7,gS,Option.map_some]
@[go_sem] theorem uq (sz ep : Nat) (pin : Bool) : a7 H (.arr sz pin ep []) = some (.arr sz pin ep []) := (rfl)
@[go_sem] theorem ur (sz ep : Nat) (pin : Bool) (m : Nat) (x : T) : a7 H (.arr sz pin ep (List.replicate m (.t x))) = some (.arr sz pin ep (List.replicate m (.t x))) := by
 have:List.replicate m (D.t x)=(List.replicate m x).map .t:=by simp
 rw[this,lB]
def LW(k raw:Nat)(H:ab)(ds rs:List D)(q:List Nat×ab):Option (D×ab):=
 if iY (List.range k++q.1) (cj H raw ds)=true then
  (aH (ren (idxOf (List.range k++q.1)) depth) rs).bind fun rs'=>(aH (bR (idxOf (List.range k++q.1))) (H.take k++q.2)).map fun hs'=>(jd rs',hs')
 else none
def rF(sel:List Nat)(H2:ab)(rs':List D):Option (D×ab):=(aH (bR (idxOf sel)) H2).bind (finT3 rs')
where finT3 (rs':List D) (hs:ab):Option (D×ab):=some (jd rs',hs)
@[go_sem] theorem Je (rs' : List D) (hs : ab) : rF.finT3 rs' hs = some (jd rs', hs) := (rfl)
@[go_sem] theorem Jf (sel : List Nat) (H2 : ab) (rs' : List D) : rF sel H2 rs' = (aH (bR (idxOf sel)) H2).bind (rF.finT3 rs') := (rfl)
@[go_sem] theorem LX (k raw : Nat) (ds rs : List D) (sel : List Nat) (os : ab) : LW k raw H ds rs (sel, os) =
 if iY (List.range k++sel) (cj H raw ds)=true then(aH (ren (idxOf (List.range k++sel)) 8) rs).bind (rF (List.range k++sel) (H.take k++os))else none:=by
 simp only[LW,depth]
 split
 · cases aH (ren (idxOf (List.range k++sel)) 8) rs with
   | none=>rfl
   | some rs'=>simp only[Option.bind_some,rF];cases aH (bR (idxOf (List.range k++sel))) (H.take k++os)<;>rfl
 · rfl
@[go_sem] theorem LY (k raw : Nat) (ds rs : List D) : IH k raw H ds rs = (dD H (max raw 1) (List.range k) (kP 8 rs ++ fV H (List.range k))).bind (LW k raw H ds rs) := by
 simp only[IH,mL,kP,depth];rfl
@[go_sem] theorem Co (k raw : Nat) (ds rs : List D) : B6 k raw H ds rs false = IH k raw H ds rs := (rfl)
@[go_sem] theorem Cp (k raw : Nat) (ds : List D) : finish k (raw + 1) H ds = FJ k (raw + 1) H ds ds := by
 simp only[finish,Nat.add_one_ne_zero,if_false,Option.bind_some,dj,oP,FJ,B6]
 show(if(bF k 8 ds&&bn k (H.take k))=true then _ else _)=_
 cases (bF k 8 ds&&bn k (H.take k))<;>rfl
@[go_sem] theorem yP (raw : Nat) (ds : List D) : cj H (raw + 1) ds = [] := by simp [cj]
@[go_sem] theorem Jg : max 0 1 = 1 := (rfl)
@[go_sem] theorem LZ (r : Nat) : max (r + 1) 1 = r + 1 := by omega
@[go_sem] theorem Cq : List.range 0 = [] := (rfl)
@[go_sem] theorem Cr : List.range 1 = [0] := (rfl)
@[go_sem] theorem Cs : List.range 2 = [0, 1] := (rfl)
@[go_sem] theorem Ct : List.range 3 = [0, 1, 2] := (rfl)
@[go_sem] theorem Cu : List.range 4 = [0, 1, 2, 3] := (rfl)
end
theorem oS{α:Type}(f:α→T)(l:List α)(i:Nat)(x:α)(y:D)(h:y= .t (f x)):((l.map f).map D.t).set i y=((l.set i x).map f).map D.t:=by
 rw[h,List.map_map,List.map_map]
 exact(List.map_set (f:=D.t ∘ f)).symm
@[go_sem] theorem L0 (l : List Int) (i : Nat) (k : IntKind) (x : Int) : ((l.map (T.int k)).map D.t).set i (.t (.int k x)) = ((l.set i x).map (T.int k)).map D.t := oS _ l i x _ rfl
@[go_sem] theorem Jh (l : List Bool) (i : Nat) (x : Bool) : ((l.map T.bool).map D.t).set i (.t (.bool x)) = ((l.set i x).map T.bool).map D.t := oS _ l i x _ rfl
end Go.Ev
namespace Go.Ev
class Lib where
 fs:Nat→Option Fn
end Go.Ev
namespace Go.Ev.K
abbrev u(x:O):R:={ o:=x}
abbrev w(n:Nat)(x:O):R:={ o:=x,d:=some n}
abbrev y(n:Nat)(b:Bool)(x:O):R:={ o:=x,g:=some (n,b)}
abbrev m(x:X):R:={ o:= .mv x}
abbrev g(x:X):R:={ o:= .ld x 1 false}
abbrev h(n:Nat)(x:X):R:={ o:= .ld x n true}
abbrev f(n:Nat)(x:X):R:={ o:= .fa x n}
abbrev a(n:Nat)(x z:X):R:={ o:= .ia x z n}
abbrev l0:X:= .l 0
abbrev l1:X:= .l 1
abbrev l2:X:= .l 2
abbrev l3:X:= .l 3
abbrev l4:X:= .l 4
abbrev l5:X:= .l 5
abbrev l6:X:= .l 6
abbrev l7:X:= .l 7
abbrev l8:X:= .l 8
abbrev l9:X:= .l 9
abbrev l10:X:= .l 10
abbrev l11:X:= .l 11
abbrev v0:X:= .v 0
abbrev v1:X:= .v 1
abbrev v2:X:= .v 2
abbrev v3:X:= .v 3
abbrev v4:X:= .v 4
abbrev v5:X:= .v 5
abbrev v6:X:= .v 6
abbrev v7:X:= .v 7
abbrev v8:X:= .v 8
abbrev v9:X:= .v 9
abbrev v10:X:= .v 10
abbrev v11:X:= .v 11
abbrev v12:X:= .v 12
abbrev v13:X:= .v 13
abbrev v14:X:= .v 14
abbrev v15:X:= .v 15
abbrev v16:X:= .v 16
abbrev v17:X:= .v 17
abbrev v18:X:= .v 18
abbrev v19:X:= .v 19
abbrev v20:X:= .v 20
abbrev v21:X:= .v 21
abbrev v22:X:= .v 22
abbrev v23:X:= .v 23
end Go.Ev.K
namespace Go.Ev.N
def nS:Nat:=0
def Cv:Nat:=1
def yQ:Nat:=2
def F6:Nat:=3
def sL:Nat:=4
def Cw:Nat:=5
def qf:Nat:=6
def rG:Nat:=7
def qg:Nat:=8
def sM:Nat:=9
def vQ:Nat:=10
def pM:Nat:=11
def F7:Nat:=12
def sN:Nat:=13
def rH:Nat:=14
def uu:Nat:=15
def sO:Nat:=16
def yR:Nat:=17
def vR:Nat:=18
def yS:Nat:=19
def sP:Nat:=20
def F8:Nat:=21
def vS:Nat:=22
def Ji:Nat:=23
def vT:Nat:=24
def rI:Nat:=25
def sQ:Nat:=26
def sR:Nat:=27
def yT:Nat:=28
def yU:Nat:=29
def F9:Nat:=30
def yV:Nat:=31
def Cx:Nat:=32
def yW:Nat:=33
def vU:Nat:=34
def vV:Nat:=35
def yX:Nat:=36
def Cy:Nat:=37
def yY:Nat:=38
def rJ:Nat:=39
def Cz:Nat:=40
def yZ:Nat:=41
def CA:Nat:=42
def y4:Nat:=43
def vW:Nat:=44
def Ga:Nat:=45
def vX:Nat:=46
def y5:Nat:=47
def sT:Nat:=48
def aj:Nat:=49
def pN:Nat:=50
def lC:Nat:=51
def qh:Nat:=52
def sU:Nat:=53
def CB:Nat:=54
def CC:Nat:=55
def vY:Nat:=56
def y6:Nat:=57
def y7:Nat:=58
def CD:Nat:=59
def y8:Nat:=60
def CE:Nat:=61
def aI:Nat:=62
def CF:Nat:=63
def y9:Nat:=64
def za:Nat:=65
def au:Nat:=66
def m5:Nat:=67
def qi:Nat:=68
def fb:Nat:=69
def oT:Nat:=70
def bK:Nat:=71
def zb:Nat:=72
def zc:Nat:=73
def CG:Nat:=74
def fS:Nat:=75
def vZ:Nat:=76
def CH:Nat:=77
end Go.Ev.N
namespace Go.Ev.K
open Go.Ev
end Go.Ev.K
namespace Go.Ev
class fc [Lib]:Prop where
namespace K
variable [Lib] [fc]
end K
end Go.Ev
namespace Go.Ev.K
open Go.Ev
def aj:Fn:={ nargs:=2,vars:=[0,1,4],body:=(.seq (.reg [w 2 (.mv (.b false))] []) (.seq (.reg [m v0,m v1,u (.ca N.au 0 [] [.l 1,.l 0]),u (.bin .geq l0 (.i 0)),w 2 (.mv l0)] []) .ret)),res:=[(2,none)]}
def bQ:C:=(.seq (.ite [m v3,m v0,u (.ln l0),u (.bin .lss l2 l0)] [] 0 .skip (.exit 0)) (.seq (.blk 1 (.ite [m v0,m v3,a 1 l1 l0,g l0,m v1,m v3,a 1 l1 l0,g l0,u (.bin .neq l4 l0)] [] 0 (.seq (.reg [w 2 (.mv (.b false))] []) .ret) .skip)) (.reg [m v3,u (.bin .add l0 (.i 1)),w 3 (.mv l0)] [])))
def dY:C:= .loop true [2] K.bQ
def aI:Fn:={ nargs:=2,vars:=[0,1,4,5],body:=(.seq (.reg [w 2 (.mv (.b false))] []) (.seq (.ite [m v0,u (.ln l0),m v1,u (.ln l0),u (.bin .neq l2 l0)] [] 0 (.seq (.reg [w 2 (.mv (.b false))] []) .ret) .skip) (.seq (.seq (.reg [w 3 (.mv (.i 0))] []) (.blk 0 K.dY)) (.seq (.reg [w 2 (.mv (.b true))] []) .ret)))),res:=[(2,none)]}
def dg:C:=(.its [u (.bin .lss v5 v4)] [] 0 .skip (.exit 0) (.seq (.blk 1 (.seq (.reg [m v5,w 3 (.mv l0)] []) (.ite [m v1,m v0,m v3,a 1 l1 l0,g l0,u (.cw l4 0 [] [.l 0])] [] 0 (.seq (.reg [m v3,w 2 (.mv l0)] []) .ret) .skip))) (.reg [u (.bin .add v5 (.i 1)),w 5 (.mv l0)] [])))
def dq:C:= .loop true [2,3] K.dg
def au:Fn:={ nargs:=2,vars:=[0,1,4,5,7,8],body:=(.seq (.reg [w 2 (.mv (.i 0))] []) (.seq (.seq (.reg [m v0,w 4 (.ln l0),w 5 (.mv (.i 0))] []) (.blk 0 K.dq)) (.seq (.reg [w 2 (.mv (.i (-1)))] []) .ret))),res:=[(2,none)]}
def bK:Fn:={ nargs:=3,vars:=[0,1,2,6],body:=(.seq (.reg [w 3 (.mv (.b false))] []) (.seq (.reg [m v0,m v1,u (.bin .geq l1 l0),m l0,y 0 true (.mv v0),y 1 true (.mv v2),y 2 true (.bin .leq l1 l0),u (.pk l3 l0 (.b false)),w 3 (.mv l0)] []) .ret)),res:=[(3,none)]}
end Go.Ev.K
namespace Go.Ev
class eA [Lib]:Prop where
 bM:Lib.fs N.aj=some K.aj
 cS:Lib.fs N.aI=some K.aI
 b6:Lib.fs N.au=some K.au
 iE:Lib.fs N.bK=some K.bK
namespace K
variable [Lib] [eA]
theorem bM:Lib.fs N.aj=some K.aj:=eA.bM
theorem cS:Lib.fs N.aI=some K.aI:=eA.cS
theorem b6:Lib.fs N.au=some K.au:=eA.b6
theorem iE:Lib.fs N.bK=some K.bK:=eA.iE
end K
end Go.Ev
namespace Go.Ev
open Go
variable [Lib]
noncomputable def cB:ah:=dy Lib.fs
theorem bA{raw f:Nat}{args:List D}{H:ab}{fn:Fn}{r:D×ab}(hf:Lib.fs f=some fn)(hn:fn.nargs=args.length)
 (h:(exS cB fn.body ⟨fN args fn.vars,H⟩).bind (Hx fn.res H.length raw)=some r) (h0:fn.prim=[]:=by rfl):cB raw f args H=some r:=xT hf hn h h0
theorem eB{gc:Bool}{dead:List Nat}{c:C}{vs:List D}{H:ab}(s:Nat→St)(n:Nat){e:Ex}{st:St}
 (h0:(⟨c9 dead vs,H⟩:St)=s 0) (h:∀j,j<n→gQ gc dead (s j).H.length (exS cB c (s j))=some (s (j+1)))
 (he:exS cB c (s n)=some (e,st)) (hn:e≠ .normal):exS cB (.loop gc dead c) ⟨vs,H⟩=some (e,st):=by
 show jf gc dead (exS cB c) ⟨c9 dead vs,H⟩=_
 rw[h0]
 exact lz s n h (iz he hn)
class Dat (α:Type) where
 dflt:α
instance : Dat Int := ⟨0⟩
instance : Dat Nat := ⟨0⟩
instance : Dat Bool := ⟨false⟩
instance {α : Type} : Dat (List α) := ⟨[]⟩
def nth{α:Type} [Dat α](l:List α)(j:Nat):α:=l.getD j Dat.dflt
theorem jn{α:Type} [Dat α]{l:List α}{j:Nat}(h:j<l.length):l[j]?=some (nth l j):=by simp[nth,h]
theorem cT{α β:Type} [Dat α](f:α→β){l:List α}{j:Nat}(h:j<l.length):(l.map f)[j]?=some (f (nth l j)):=by rw[List.getElem?_map,jn h];rfl
theorem uv{α β γ:Type} [Dat α](f:β→γ)(g:α→β){l:List α}{j:Nat}(h:j<l.length):((l.map g).map f)[j]?=some (f (g (nth l j))):=by rw[List.getElem?_map,cT g h];rfl
theorem gn{α:Type} [Dat α]{l:List α}{j:Nat}(h:j<l.length):nth l j∈l:=List.mem_of_getElem? (jn h)
theorem Gb{α:Type} [Dat α]{l:List α}{j:Nat}{x:α}(h:l[j]?=some x):nth l j=x:=by simp[nth,h]
theorem lD{α:Type} [Dat α]{l:List α}{j:Nat}(h:j<l.length):l.take (j+1)=l.take j++[nth l j]:=by
 rw[List.take_succ_eq_append_getElem h];simp[nth,h]
theorem L3{a b:Int}(h:a<b):(a<b)=True:=by simp[h]
theorem L4{a b:Int}(h:b≤a):(a<b)=False:=by simp[Int.not_lt.2 h]
theorem L5{a b:Int}(h:a≤b):(a≤b)=True:=by simp[h]
theorem L6{a b:Int}(h:b<a):(a≤b)=False:=by simp[Int.not_le.2 h]
theorem L7{a b:Int}(h:a=b):(a=b)=True:=by simp[h]
theorem L8{a b:Int}(h:a≠b):(a=b)=False:=by simp[h]
theorem L9{a b:Nat}(h:a<b):(a<b)=True:=by simp[h]
theorem Ma{a b:Nat}(h:b≤a):(a<b)=False:=by simp[Nat.not_lt.2 h]
theorem Mb{a b:Nat}(h:a≤b):(a≤b)=True:=by simp[h]
theorem Mc{a b:Nat}(h:b<a):(a≤b)=False:=by simp[Nat.not_le.2 h]
theorem Md{a b:Nat}(h:a=b):(a=b)=True:=by simp[h]
theorem Me{a b:Nat}(h:a≠b):(a=b)=False:=by simp[h]
attribute [go_sem] Md Me L3 L4 L5 L6 L7 L8 L9 Ma Mb Mc xU cT uv yb
@[go_sem] theorem CI (a b : Nat) : ((a + b : Nat) : Int) = (a : Int) + (b : Int) := (rfl)
@[go_sem] theorem CJ : ((1 : Nat) : Int) = 1 := (rfl)
@[go_sem] theorem zd : ((0 : Nat) : Int) = 0 := (rfl)
@[go_sem] theorem Gc (a b : Int) : a + b - b = a := Int.add_sub_cancel a b
@[go_sem] theorem wa : (0 : Int).toNat = 0 := (rfl)
@[go_sem] theorem ze (n : Nat) : (n : Int).toNat = n := (rfl)
@[go_sem] theorem zg (n : Nat) : ((n : Int) + 1).toNat = n + 1 := (rfl)
@[go_sem] theorem zh (a : Int) : 0 + a = a := Int.zero_add a
@[go_sem] theorem zi (a : Int) : a + 0 = a := Int.add_zero a
@[go_sem] theorem zj (a : Int) : a - 0 = a := Int.sub_zero a
abbrev tI(n:Int):T:= .int .i64 n
abbrev tL(l:List Int):T:= .sl (l.map (.int .i64))
@[go_sem] theorem uw (H : ab) (n : Nat) (ts : List T) (x : T) : aH (frz H n) (ts.map .t ++ [.t x]) = some (ts ++ [x]) := by
 have:ts.map D.t++[.t x]=(ts++[x]).map .t:=by simp
 rw[this,pH]
@[go_sem] theorem wb {α β : Type} (f : α → β) (a b : List α) : (a ++ b).map f = a.map f ++ b.map f := List.map_append
end Go.Ev
namespace Go.Ev
open Go
variable [Lib] [fc] [eA]
theorem kQ{gc:Bool}{dead:List Nat}{c:C}{vs:List D}{H:ab}(s:Nat→St)(n:Nat)(p:Nat→Bool)(e:Nat→Ex×St)(eN:Ex×St)
 (h0:(⟨c9 dead vs,H⟩:St)=s 0) (hs:∀j,j<n→p j=false→gQ gc dead (s j).H.length (exS cB c (s j))=some (s (j+1)))
 (he:∀j,j<n→p j=true→exS cB c (s j)=some (e j)∧(e j).1≠ .normal) (hN:exS cB c (s n)=some eN) (hn:eN.1≠ .normal):
 exS cB (.loop gc dead c) ⟨vs,H⟩=some (match (List.range n).find? p with | some j=>e j | none=>eN):=by
 show jf gc dead (exS cB c) ⟨c9 dead vs,H⟩=_
 rw[h0]
 cases hf:(List.range n).find? p with
 | none=>
   refine lz s n (fun j hj=>hs j hj ?_) (iz hN hn)
   have:=List.find?_eq_none.1 hf j (List.mem_range.2 hj)
   simpa using this
 | some k=>
   obtain⟨h1,as,bs,h2,h3⟩:=List.find?_eq_some_iff_append.1 hf
   have hk:k<n:=List.mem_range.1 (List.mem_of_find?_eq_some hf)
   have hlt:∀j,j<k→p j=false:=by
    intro j hj
    have hlen:as.length=k:=by
     have h4:(List.range n)[as.length]?=some k:=by rw[h2];simp
     have h5:as.length<n:=by
      have:=congrArg List.length h2;simp at this;omega
     rw[List.getElem?_range h5]at h4
     exact Option.some.inj h4
    have:j∈as:=by
     have h6:(List.range n)[j]?=some j:=List.getElem?_range (by omega)
     rw[h2,List.getElem?_append_left (by omega)]at h6
     exact List.mem_of_getElem? h6
    simpa using h3 j this
   obtain⟨k1,k2⟩:=he k hk h1
   exact lz s k (fun j hj=>hs j (by omega) (hlt j hj)) (iz k1 k2)
theorem ux{n:Nat}{p:Nat→Bool}:((List.range n).find? p).isSome=(List.range n).any p:=by
 rw[List.isSome_find?]
def uy(m:Nat):List D:=(List.range m).map fun i=> .bp i 0
def dF(bs:List (List T)):ab:=bs.map fun cs=> .box (cs.map .t)
theorem bX(bs:List (List T)):(dF bs).length=bs.length:=by simp[dF]
section
variable (bs : List (List T)) (o o' : Obj)
@[go_sem] theorem uz : (dF bs).length = bs.length := bX bs
@[go_sem] theorem CK : (dF bs ++ [o])[bs.length]? = some o := by
 rw[List.getElem?_append_right (by rw[bX];exact Nat.le_refl _),bX];simp
@[go_sem] theorem Gd : (dF bs ++ [o]).set bs.length o' = dF bs ++ [o'] := by
 rw[List.set_append_right _ _ (by rw[bX];exact Nat.le_refl _),bX];simp
@[go_sem] theorem CL : (dF bs ++ [o]).take bs.length = dF bs := by
 rw[List.take_append_of_le_length (by rw[bX];exact Nat.le_refl _),List.take_of_length_le (by rw[bX];exact Nat.le_refl _)]
@[go_sem] theorem zk : (dF bs ++ [o]).take (bs.length + 1) = dF bs ++ [o] := List.take_of_length_le (by simp [bX])
@[go_sem] theorem zm : (dF bs).take bs.length = dF bs := List.take_of_length_le (by simp [bX])
@[go_sem] theorem zn (k : Nat) (a b : ab) : bn k (a ++ b) = (bn k a && bn k b) := by
 rw[← dj,←dj,←dj,List.all_append]
@[go_sem] theorem uA (k : Nat) : bn k (dF bs) = true := by
 induction bs with
 | nil=>rfl
 | cons b r ih=>
   show(bF k 8 (b.map .t)&&bn k (dF r))=true
   rw[oO,ih];rfl
@[go_sem] theorem Jj (n : Nat) : ltB n (n + 1) = true := by rw [ez]; simp
@[go_sem] theorem Jk (n : Nat) : ltB n n = false := by rw [ez]; simp
theorem iZ(k n m:Nat)(h:m≤k):bF k n (uy m)=true:=by
 unfold bF uy
 rw[List.all_eq_true]
 intro d hd
 obtain⟨i,hi,rfl⟩:=List.mem_map.1 hd
 rw[FC,ez]
 have:=List.mem_range.1 hi
 simp;omega
@[go_sem] theorem zo (n m : Nat) : bF m n (uy m) = true := iZ _ _ _ (Nat.le_refl _)
@[go_sem] theorem wc (n m : Nat) : bF (m + 1) n (uy m) = true := iZ _ _ _ (Nat.le_succ _)
end
end Go.Ev
namespace Go.Ev
open Go
variable [Lib] [fc] [eA]
theorem cO{α:Type}(sz:Nat)(f:α→T)(h:∀a,dI sz (f a).cells=true):∀l:List α,aD sz (l.map f)=true
 | []=>rfl
 | a::l=>by rw[List.map_cons,gR,h,cO sz f h l];rfl
@[go_sem] theorem we (k : IntKind) (l : List Int) : aD 1 (l.map (.int k)) = true := cO 1 _ (fun _ => rfl) l
theorem gU(sz:Nat):∀ts:List T,(ts.all fun e=>e.cells.length==sz)=aD sz ts
 | []=>rfl
 | t::ts=>by
   rw[List.all_cons,gR,gU sz ts]
   congr 1
   rw[Bool.eq_iff_iff,bu];simp
section
variable (H : ab) (sz : Nat) (ts : List T) (i j : Int)
@[go_sem] theorem Mf : mH H sz (some (.t (.sl ts))) (some none) (some (some i)) = if 0 ≤ i then (if i ≤ ts.length then (if aD sz ts = true then some (.t (.sl (ts.take i.toNat)), H) else none) else none) else none := by
 simp only[mH,Option.bind_some,dC,bound,gU,idx]
 by_cases h1:0≤i
 · rw[if_pos h1,if_pos h1,Option.bind_some]
   by_cases h2:i≤ts.length
   · rw[if_pos h2]
     by_cases h3:aD sz ts=true
     · rw[if_pos h3,if_pos ⟨by omega,by omega,h3⟩];rfl
     · rw[if_neg h3,if_neg fun h=>h3 h.2.2];rfl
   · rw[if_neg h2,if_neg fun h=>h2 (by omega)];rfl
 · rw[if_neg h1,if_neg h1];rfl
@[go_sem] theorem Mg : mH H sz (some (.t (.sl ts))) (some (some i)) (some none) = if 0 ≤ i then (if i ≤ ts.length then (if aD sz ts = true then some (.t (.sl (ts.drop i.toNat)), H) else none) else none) else none := by
 simp only[mH,Option.bind_some,dC,bound,gU,idx]
 by_cases h1:0≤i
 · rw[if_pos h1,if_pos h1,Option.bind_some]
   by_cases h2:i≤ts.length
   · rw[if_pos h2]
     by_cases h3:aD sz ts=true
     · rw[if_pos h3,if_pos ⟨by omega,by omega,h3⟩,List.take_of_length_le (by simp)];rfl
     · rw[if_neg h3,if_neg fun h=>h3 h.2.2];rfl
   · rw[if_neg h2,if_neg fun h=>h2 (by omega)];rfl
 · rw[if_neg h1,if_neg h1];rfl
@[go_sem] theorem Ge : mH H sz (some (.t (.sl ts))) (some (some i)) (some (some j)) = if 0 ≤ i then (if i ≤ j then (if j ≤ ts.length then (if aD sz ts = true then some (.t (.sl ((ts.drop i.toNat).take (j.toNat - i.toNat))), H) else none) else none) else none) else none := by
 simp only[mH,Option.bind_some,dC,bound,gU,idx]
 by_cases h1:0≤i
 · rw[if_pos h1,if_pos h1,Option.bind_some]
   by_cases h0:i≤j
   · rw[if_pos h0,if_pos (by omega:0≤j),Option.bind_some]
     by_cases h2:j≤ts.length
     · rw[if_pos h2]
       by_cases h3:aD sz ts=true
       · rw[if_pos h3,if_pos ⟨by omega,by omega,h3⟩];rfl
       · rw[if_neg h3,if_neg fun h=>h3 h.2.2];rfl
     · rw[if_neg h2,if_neg fun h=>h2 (by omega)];rfl
   · rw[if_neg h0]
     by_cases h2:0≤j
     · rw[if_pos h2,Option.bind_some,if_neg fun h=>h0 (by omega)];rfl
     · rw[if_neg h2];rfl
 · rw[if_neg h1,if_neg h1];rfl
end
def bsK(H:ab)(l:List Nat):Option T→Option (D×ab)
 | some t=>some (.t (.sl [t]),pins H l)
 | none=>none
@[go_sem] theorem Jl (H : ab) (l : List Nat) (t : T) : bsK H l (some t) = some (.t (.sl [t]), pins H l) := (rfl)
@[go_sem] theorem Jm (H : ab) (sz : Nat) (cs : List D) : kO H sz [.agg cs] = if dI sz cs = true then bsK H (bO H 8 (.agg cs)) (frz H 8 (.agg cs)) else none := by
 simp only[kO,List.all_cons,List.all_nil,Bool.and_true,D.cells]
 by_cases h:dI sz cs=true
 · rw[if_pos h,if_pos (by simpa using bu.1 h)]
   simp only[aH,depth,List.flatMap_cons,List.flatMap_nil,List.append_nil]
   cases frz H 8 (.agg cs)<;>rfl
 · rw[if_neg h,if_neg (by intro e;exact h (bu.2 (by simpa using e)))]
@[go_sem] theorem Jn (H : ab) (id ep n : Nat) : kO H 1 [.ref id ep n] = bsK H (bO H 8 (.ref id ep n)) (frz H 8 (.ref id ep n)) := by
 simp only[kO,List.all_cons,List.all_nil,Bool.and_true,D.cells,List.length_cons,List.length_nil,beq_self_eq_true,if_true,aH,depth,List.flatMap_cons,List.flatMap_nil,List.append_nil]
 cases frz H 8 (.ref id ep n)<;>rfl
def zp(H:ab)(r:D)(os:ab):D×ab:=(r,H++os)
@[go_sem] theorem Jo (H : ab) (r : D) (os : ab) : zp H r os = (r, H ++ os) := (rfl)
def Gf(H:ab)(os:ab)(r:D):Option (D×ab):=(aH (bR (bf [] H.length)) os).map (zp H r)
@[go_sem] theorem Jp (H : ab) (os : ab) (r : D) : Gf H os r = (aH (bR (bf [] H.length)) os).map (zp H r) := (rfl)
@[go_sem] theorem Gg (H : ab) (r : D) (o : Obj) (os : ab) : kc H (r, o :: os) = (ren (bf [] H.length) 8 r).bind (Gf H (o :: os)) := by
 simp only[kc,List.isEmpty_cons,Bool.and_false,Bool.false_eq_true,if_false]
 rfl
end Go.Ev
namespace Go.Ev
open Go
variable [Lib] [fc] [eA]
@[go_sem] theorem Mh (H : ab) (a b : List T) : kO H 1 [.t (.sl a), .t (.sl b), .nil] = some (.t (.sl [.sl a, .sl b, .sl []]), H) := by
 simp only[kO,List.all_cons,List.all_nil,D.cells,T.cells,List.map_cons,List.map_nil,List.length_cons,List.length_nil,aH,frz,depth,bO,List.flatMap_cons,List.flatMap_nil,pins]
 rfl
def uB(c:Bool):Option Bool→Option Bool
 | some d=>some (c&&d)
 | none=>none
@[go_sem] theorem CM (c d : Bool) : uB c (some d) = some (c && d) := (rfl)
@[go_sem] theorem CN : cW [] [] = some true := (rfl)
@[go_sem] theorem zq (k : IntKind) (a b : Int) (xs ys : List T) : cW (.int k a :: xs) (.int k b :: ys) = uB (decide (a = b)) (cW xs ys) := by
 simp only[cW,if_true,Eu]
 cases cW xs ys<;>rfl
def uC(H:ab)(neg:Bool):Option Bool→Option (D×ab)
 | some r=>some (.t (.bool (bif neg then !r else r)),H)
 | none=>none
@[go_sem] theorem CO (H : ab) (r : Bool) : uC H true (some r) = some (.t (.bool (!r)), H) := (rfl)
@[go_sem] theorem zr (H : ab) (r : Bool) : uC H false (some r) = some (.t (.bool r), H) := (rfl)
@[go_sem] theorem zt (H : ab) (n : Nat) (neg : Bool) (xs ys : List T) : fH H (.ints n) neg (some (.t (.agg xs))) (some (.t (.agg ys))) = if xs.length = n then uC H neg (cW xs ys) else none := by
 simp only[fH,Option.bind_some,vo,eqD]
 by_cases h:xs.length=n
 · simp only[if_pos h]
   cases cW xs ys with
   | none=>rfl
   | some r=>cases neg<;>rfl
 · simp only[if_neg h];rfl
@[go_sem] theorem CP : ((2 : Nat) : Int) = 2 := (rfl)
@[go_sem] theorem wg : ((3 : Nat) : Int) = 3 := (rfl)
def kR(n:Nat)(p:Nat→Bool):Nat:=((List.range n).find? p).getD 0
theorem mM{gc:Bool}{dead:List Nat}{c:C}{vs:List D}{H:ab}(s:Nat→St)(n:Nat)(p:Nat→Bool)(e:Nat→Ex×St)(eN:Ex×St)
 (h0:(⟨c9 dead vs,H⟩:St)=s 0)
 (hs:∀j,j<n→p j=false→gQ gc dead (s j).H.length (exS cB c (s j))=some (s (j+1)))
 (he:∀j,j<n→p j=true→exS cB c (s j)=some (e j)∧(e j).1≠ .normal)
 (hN:exS cB c (s n)=some eN) (hn:eN.1≠ .normal):
 exS cB (.loop gc dead c) ⟨vs,H⟩=some (if(List.range n).any p=true then e (kR n p)else eN):=by
 rw[kQ s n p e eN h0 hs he hN hn,←ux]
 unfold kR
 cases hf:(List.range n).find? p with
 | none=>simp
 | some k=>simp
@[go_sem] theorem Gi : cq [] [] [] = some true := (rfl)
@[go_sem] theorem Gj (ks : List Bool) (k : IntKind) (a b : Int) (xs ys : List T) : cq (true :: ks) (.int k a :: xs) (.int k b :: ys) = uB (decide (a = b)) (cq ks xs ys) := by
 simp only[cq,if_true,Eu]
 cases cq ks xs ys<;>rfl
@[go_sem] theorem CQ (ks : List Bool) (a b : Bool) (xs ys : List T) : cq (false :: ks) (.bool a :: xs) (.bool b :: ys) = uB (decide (a = b)) (cq ks xs ys) := by
 simp only[cq,show(a==b)=decide (a=b)from rfl]
 cases cq ks xs ys<;>rfl
@[go_sem] theorem Jq (H : ab) (ks : List Bool) (neg : Bool) (xs ys : List T) : fH H (.sc ks) neg (some (.t (.agg xs))) (some (.t (.agg ys))) = uC H neg (cq ks xs ys) := by
 simp only[fH,Option.bind_some,vo,eqD]
 cases cq ks xs ys with
 | none=>rfl
 | some r=>cases neg<;>rfl
def Mod(n m:Int):Int:=if m<1 then 0 else if n.tmod m<0 then n.tmod m+m else n.tmod m
structure cy where
 L:List Int
 at_:Nat
def cy.obj(d:cy):Obj:= .box [.t (tL d.L),I d.at_]
def cy.next(d:cy)(n:Int):Int×cy:=if d.at_<d.L.length then(Mod (nth d.L d.at_) n,⟨d.L,d.at_+1⟩)else(0,d)
@[go_sem] theorem Jr (d : cy) : oR (some d.obj) = [] := by simp only [cy.obj, go_sem]
@[go_sem] theorem Js (f : Nat → Option Nat) (d : cy) : bR f d.obj = some d.obj := by simp only [cy.obj, go_sem]
@[go_sem] theorem Jt (k : Nat) (d : cy) (r : ab) : bn k (d.obj :: r) = bn k r := by simp only [cy.obj, go_sem]
def cy.one(d:cy)(n:Int):Bool×cy:=(decide ((d.next n).1=n-1),(d.next n).2)
def cy.of(d:cy)(l:List Int):Int×cy:=(nth l (d.next l.length).1.toNat,(d.next l.length).2)
structure Place where
 h:Int
 surf:Bool
instance : Dat Place := ⟨⟨0, false⟩⟩
abbrev Place.e(p:Place):T:= .agg [tI p.h,.bool p.surf]
structure Road where
 frm:Int
 to:Int
 len:Int
 area:Int
 walk:Bool
 closed:Bool
 restL:Int
 restH:Int
 liftL:Int
 liftH:Int
instance : Dat Road := ⟨⟨0, 0, 0, 0, false, false, 0, 0, 0, 0⟩⟩
abbrev Road.e(r:Road):T:= .agg [tI r.frm,tI r.to,tI r.len,tI r.area,.bool r.walk,.bool r.closed,tI r.restL,tI r.restH,tI r.liftL,tI r.liftH]
structure sV where
 places:List Place
 roads:List Road
instance : Dat sV := ⟨⟨[], []⟩⟩
abbrev sV.e(m:sV):T:= .agg [.sl (m.places.map Place.e),.sl (m.roads.map Road.e)]
structure Road.ok(n:Nat)(r:Road):Prop where
 f0:0≤r.frm
 f1:r.frm<n
 t0:0≤r.to
 t1:r.to<n
 ne:r.frm≠r.to
 l0:1≤r.len
 l1:r.len≤100000
 a0:1≤r.area
 a1:r.area≤1000
 r0:1≤r.restL
 r1:r.restL≤r.restH
 r2:r.restH≤262144
 i0: -2199023255552≤r.liftL
 i1:r.liftL≤r.liftH
 i2:r.liftH≤2199023255552
structure sV.ok(m:sV):Prop where
 np:m.places.length≤64
 nr:m.roads.length≤128
 hs:∀p∈m.places, -10000≤p.h∧p.h≤10000
 rs:∀r∈m.roads,r.ok m.places.length
theorem zu(a b:List Int)(hl:a.length≤4294967296):cB 0 N.aI [.t (tL a),.t (tL b)] []=some (B (decide (a=b)),[]):=by
 refine bA K.cS rfl ?_
 by_cases hlen:a.length=b.length
 · have loop:∀c:D,exS cB K.dY ⟨[.t (tL a),.t (tL b),c,I 0],[]⟩=
    some (match (List.range a.length).find? (fun j=>decide (nth a j≠nth b j))with
     | some j=>(.ret,⟨[.t (tL a),.t (tL b),B false,I j],[]⟩)
     | none=>(.exit 0,⟨[.t (tL a),.t (tL b),.und,I a.length],[]⟩)):=by
    intro c
    refine kQ (fun j=>⟨[.t (tL a),.t (tL b),.und,I j],[]⟩) a.length (fun j=>decide (nth a j≠nth b j)) _ _ rfl ?_ ?_ ?_ (by simp)
    · intro j hj hp
      have hp:nth a j=nth b j:=by simpa using hp
      simp (disch:=omega) only[go_sem,K.bQ,↓reduceIte]
    · intro j hj hp
      have hp:nth a j≠nth b j:=by simpa using hp
      simp (disch:=omega) only[go_sem,K.bQ,↓reduceIte]
      simp
    · simp (disch:=omega) only[go_sem,K.bQ,↓reduceIte]
   have e:(a=b)↔(List.range a.length).find? (fun j=>decide (nth a j≠nth b j))=none:=by
    rw[List.find?_eq_none]
    constructor
    · intro h j _;simp[h]
    · intro h
      apply List.ext_getElem?
      intro j
      by_cases hj:j<a.length
      · rw[jn hj,jn (by omega)]
        have:=h j (List.mem_range.2 hj)
        simpa using this
      · rw[List.getElem?_eq_none (by omega),List.getElem?_eq_none (by omega)]
   simp (disch:=omega) only[go_sem,K.aI,↓reduceIte,loop]
   cases hf:(List.range a.length).find? (fun j=>decide (nth a j≠nth b j))with
   | some j=>rw[hf]at e;simp (disch:=omega) only[go_sem,↓reduceIte,e];simp
   | none=>rw[hf]at e;simp (disch:=omega) only[go_sem,↓reduceIte,e]
 · have hne:a≠b:=fun h=>hlen (by rw[h])
   simp (disch:=omega) only[go_sem,K.aI,↓reduceIte,hne]
theorem uD(x lo hi:Int):cB 0 N.bK [I x,I lo,I hi] []=some (B (decide (lo≤x∧x≤hi)),[]):=by
 refine bA K.iE rfl ?_
 by_cases h1:lo≤x<;>by_cases h2:x≤hi<;>simp (disch:=omega) only[go_sem,K.bK,↓reduceIte]
def Gk(into:Option (List Int)):D:=match into with
 | none=> .nil
 | some l=> .t (tL l)
def Road.src(r:Road)(back:Bool):Int:=if back then r.to else r.frm
def Road.dst(r:Road)(back:Bool):Int:=if back then r.frm else r.to
theorem Road.ot{n:Nat}{r:Road}(h:r.ok n)(back:Bool):0≤r.src back∧r.src back<n:=by
 unfold Road.src;have:=h.f0;have:=h.f1;have:=h.t0;have:=h.t1;cases back<;>simp<;>omega
section
variable {m : sV} (h : m.ok) {t : Int} {into : Option (List Int)}
include h
end
section
variable {m : sV} (h : m.ok) {t : Int} {into : Option (List Int)}
include h
end
end Go.Ev
namespace Go.Ev
open Go
variable [Lib] [fc] [eA]
@[go_sem] theorem Gl (k n : Nat) (into : Option (List Int)) : old k n (Gk into) = true := by
 cases into<;>simp only[Gk,go_sem]
structure Wh where
 time:Int
 frm:List Int
instance : Dat Wh := ⟨⟨0, []⟩⟩
abbrev Wh.e(w:Wh):T:= .agg [tI w.time,tL w.frm]
def inT(t:Int):Prop:=0≤t∧t≤2147483648
instance (t : Int) : Decidable (inT t) := by unfold inT; infer_instance
def plT(x:Int):Prop:=x=1099511627776∨inT x
instance (t : Int) : Decidable (plT t) := by unfold plT; infer_instance
def Gm(n:Nat):List Int:=List.replicate n 1099511627776
@[simp] theorem CR (n : Nat) : (Gm n).length = n := List.length_replicate
structure Spn where
 low:Int
 high:Int
instance : Dat Spn := ⟨⟨0, 0⟩⟩
abbrev Spn.e(f:Spn):T:= .agg [tI f.low,tI f.high]
def Spn.ok(f:Spn):Prop:= -1125899906842624≤f.low∧f.high≤1125899906842624∧f.low≤f.high
instance (f : Spn) : Decidable f.ok := by unfold Spn.ok; infer_instance
section
variable {m : sV} (h : m.ok) {fl : List Spn}
include h
end
end Go.Ev
namespace Go.Ev
open Go
variable [Lib] [fc] [eA]
def plS(t x:Int):Prop:=x=1099511627776∨(t≤x∧x≤2147483648)
instance (t x : Int) : Decidable (plS t x) := by unfold plS; infer_instance
def Gn(l:List Int)(t:Int)(n:Nat):List Int:=(List.range n).map fun(p:Nat)=>if(p:Int)∈l then t else 1099511627776
@[simp] theorem Gp (l : List Int) (t : Int) (n : Nat) : (Gn l t n).length = n := by simp [Gn]
structure World where
 tags:List Int
 whr:List Wh
instance : Dat World := ⟨⟨[], []⟩⟩
abbrev World.e(x:World):T:= .agg [tL x.tags,.sl (x.whr.map Wh.e)]
structure Bel where
 worlds:List World
instance : Dat Bel := ⟨⟨[]⟩⟩
abbrev Bel.e(b:Bel):T:= .agg [.sl (b.worlds.map World.e)]
def World.sz(x:World):Prop:=x.tags.length≤1000000∧x.whr.length≤1000000∧∀w∈x.whr,w.frm.length≤1000000
def Bel.sz(b:Bel):Prop:=b.worlds.length≤1000000∧∀x∈b.worlds,x.sz
@[go_sem] theorem zv (l : List Wh) : aD 2 (l.map Wh.e) = true := cO 2 _ (fun _ => rfl) l
@[go_sem] theorem sW (l : List World) : aD 2 (l.map World.e) = true := cO 2 _ (fun _ => rfl) l
@[go_sem] theorem Ju (l : List Wh) : dJ 2 (l.map Wh.e) = true := by cases l <;> rfl
@[go_sem] theorem zw (l : List World) : dJ 2 (l.map World.e) = true := by cases l <;> rfl
end Go.Ev
namespace Go.Ev.N
def rK:Nat:=78
def qj:Nat:=79
def pO:Nat:=80
def zx:Nat:=81
def sX:Nat:=82
def zy:Nat:=83
def zz:Nat:=84
def zA:Nat:=85
def CS:Nat:=86
def wh:Nat:=87
def zB:Nat:=88
def wi:Nat:=89
def wk:Nat:=90
def CT:Nat:=91
def wm:Nat:=92
def CU:Nat:=93
def Gq:Nat:=94
def Gr:Nat:=95
def zC:Nat:=96
def CV:Nat:=97
def zD:Nat:=98
def zE:Nat:=99
def zF:Nat:=100
def CW:Nat:=101
def Gs:Nat:=102
def m6:Nat:=103
def uE:Nat:=104
def bg:Nat:=105
def wo:Nat:=106
def CY:Nat:=107
def CZ:Nat:=108
def zG:Nat:=109
def C0:Nat:=110
def C1:Nat:=111
def zH:Nat:=112
def zI:Nat:=113
def C2:Nat:=114
def wq:Nat:=115
def C3:Nat:=116
def C4:Nat:=117
def wt:Nat:=118
def wu:Nat:=119
def uF:Nat:=120
def uG:Nat:=121
def oU:Nat:=122
end Go.Ev.N
namespace Go.Ev.K
open Go.Ev
end Go.Ev.K
namespace Go.Ev
class sY [Lib]:Prop where
namespace K
variable [Lib] [sY]
end K
end Go.Ev
namespace Go.Ev.K
open Go.Ev
def a6:C:=(.its [u (.bin .lss v8 v7)] [] 0 .skip (.exit 0) (.seq (.blk 1 (.seq (.reg [m v8,a 1 v6 v8,g l0,w 4 (.mv l2),w 5 (.mv l1)] []) (.ite [m v5,m v1,u (.bin .lss l1 l0),m l0,y 0 false (.mv v5),y 1 false (.mv v2),y 2 false (.bin .gtr l1 l0),u (.pk l3 (.b true) l0),m l0,y 0 false (.mv v4),y 1 false (.bin .gtr l0 (.i 0)),y 2 false (.mv l0),y 0 true (.mv v5),y 1 true (.mv v0),y 2 true (.mv v4),y 3 true (.bin .sub l0 (.i 1)),y 4 true (.ia l2 l0 1),y 5 true (.ld l0 1 false),y 6 true (.bin .leq l5 l0),y 10 false (.pk l7 l0 (.b false)),u (.pk l11 (.b true) l0)] [] 0 (.seq (.reg [w 3 (.mv (.b false))] []) .ret) .skip))) (.reg [u (.bin .add v8 (.i 1)),w 8 (.mv l0)] [])))
def fe:C:= .loop true [3,4,5] K.a6
def bg:Fn:={ nargs:=3,vars:=[0,1,2,6,7,8,9,10,11],body:=(.seq (.reg [w 3 (.mv (.b false))] []) (.seq (.seq (.reg [w 6 (.mv v0),w 7 (.ln l0),w 8 (.mv (.i 0))] []) (.blk 0 K.fe)) (.seq (.reg [w 3 (.mv (.b true))] []) .ret))),res:=[(3,none)]}
end Go.Ev.K
namespace Go.Ev
class rL [Lib]:Prop where
 dK:Lib.fs N.bg=some K.bg
namespace K
variable [Lib] [rL]
theorem dK:Lib.fs N.bg=some K.bg:=rL.dK
end K
end Go.Ev
namespace Go.Ev
open Go
variable [Lib] [fc] [eA] [sY] [rL]
def nT(l:List Int)(lo hi:Int)(j:Nat):Bool:= !decide (lo≤nth l j∧nth l j≤hi∧(0<j→nth l (j-1)<nth l j))
def zJ(l:List Int)(lo hi:Int):Bool:= !((List.range l.length).any (nT l lo hi))
theorem rM(l:List Int)(lo hi:Int)(hl:l.length≤4294967296):cB 0 N.bg [.t (tL l),I lo,I hi] []=some (B (zJ l lo hi),[]):=by
 refine bA K.dK rfl ?_
 have loop:∀a b c:D,exS cB K.fe ⟨[.t (tL l),I lo,I hi,a,b,c,.t (tL l),I l.length,I 0],[]⟩=
  some (if(List.range l.length).any (nT l lo hi)=true
   then(.ret,⟨[.t (tL l),I lo,I hi,B false,I (kR l.length (nT l lo hi)),I (nth l (kR l.length (nT l lo hi))),.t (tL l),I l.length,I (kR l.length (nT l lo hi))],[]⟩)
   else(.exit 0,⟨[.t (tL l),I lo,I hi,.und,.und,.und,.t (tL l),I l.length,I l.length],[]⟩)):=by
  intro a b c
  refine mM (fun j=>⟨[.t (tL l),I lo,I hi,.und,.und,.und,.t (tL l),I l.length,I j],[]⟩) l.length (nT l lo hi) (fun j=>(.ret,⟨[.t (tL l),I lo,I hi,B false,I j,I (nth l j),.t (tL l),I l.length,I j],[]⟩)) _ rfl ?_ ?_ ?_ (by simp)
  · intro j hj hp
    simp only[nT,Bool.not_eq_false',decide_eq_true_eq]at hp
    obtain⟨h1,h2,h3⟩:=hp
    cases j with
    | zero=>simp (disch:=omega) only[go_sem,K.a6,↓reduceIte]
    | succ j=>
      have h3:=h3 (by omega)
      rw[Nat.add_sub_cancel]at h3
      simp (disch:=omega) only[go_sem,K.a6,↓reduceIte]
  · intro j hj hp
    simp only[nT,Bool.not_eq_true',decide_eq_false_iff_not]at hp
    refine⟨?_,by simp⟩
    by_cases h1:lo≤nth l j
    · by_cases h2:nth l j≤hi
      · cases j with
        | zero=>exact absurd ⟨h1,h2,fun h=>absurd h (by omega)⟩ hp
        | succ j=>
          have h3:¬nth l j<nth l (j+1):=fun h=>hp ⟨h1,h2,fun _=>by simpa using h⟩
          simp (disch:=omega) only[go_sem,K.a6,↓reduceIte]
      · simp (disch:=omega) only[go_sem,K.a6,↓reduceIte]
    · simp (disch:=omega) only[go_sem,K.a6,↓reduceIte]
  · simp (disch:=omega) only[go_sem,K.a6,↓reduceIte]
 unfold zJ
 simp (disch:=omega) only[go_sem,K.bg,↓reduceIte,loop]
 cases hf:(List.range l.length).any (nT l lo hi)with
 | true=>simp (disch:=omega) only[go_sem,↓reduceIte]
 | false=>simp (disch:=omega) only[go_sem,↓reduceIte,Bool.false_eq_true]
structure Ns where
 st:Int
 fi:Int
 se:Int
 ti:Int
abbrev Ns.e(s:Ns):T:= .agg [tI s.st,tI s.fi,tI s.se,tI s.ti]
structure Gt where
 area:List Int
 hold:Int
 mis:Int
abbrev Gt.e(x:Gt):T:= .agg [tL x.area,tI x.hold,tI x.mis]
structure Keys where
 roads:List Int
 keys:List Int
 out:Bool
abbrev Keys.e(k:Keys):T:= .agg [tL k.roads,tL k.keys,.bool k.out]
end Go.Ev
namespace Go.Ev
open Go
section
variable (H : ab) (sz id ep n lo hi : Nat) (i j : Int) (fz : Bool)
def scO(r:D):Option Obj→Option (D×ab)
 | some (.arr sz' _ ep' es)=>if ep=ep'∧n=es.length then(if sz'=sz then some (r,H)else none)else none
 | _=>none
@[go_sem] theorem Mi (r : D) (sz' : Nat) (pin : Bool) (es : List D) : scO H sz ep n r (some (.arr sz' pin ep es)) = if n = es.length then (if sz' = sz then some (r, H) else none) else none := by simp [scO]
theorem scR{l h:Nat}:((bI H id ep n).bind fun a=>if l≤h∧h≤n∧a.1=sz then some (D.sub id ep n l h)else none).map (fun d=>(d,H))=if l≤h then(if h≤n then scO H sz ep n (.sub id ep n l h) H[id]? else none)else none:=by
 simp only[bI]
 generalize H[id]?=o
 by_cases h1:l≤h
 · by_cases h2:h≤n
   · rw[if_pos h1,if_pos h2]
     rcases o with _ | (_ | ⟨sz',pin,ep',es⟩)
     · rfl
     · rfl
     · simp only[scO]
       by_cases h3:ep=ep'∧n=es.length
       · rw[if_pos h3,if_pos h3,Option.bind_some]
         by_cases h4:sz'=sz
         · rw[if_pos h4,if_pos ⟨h1,h2,h4⟩];rfl
         · rw[if_neg h4,if_neg fun h=>h4 h.2.2];rfl
       · rw[if_neg h3,if_neg h3];rfl
   · rw[if_pos h1,if_neg h2]
     rcases o with _ | (_ | ⟨sz',pin,ep',es⟩)
     · rfl
     · rfl
     · by_cases h3:ep=ep'∧n=es.length
       · simp only[if_pos h3,Option.bind_some];rw[if_neg fun h=>h2 h.2.1];rfl
       · simp only[if_neg h3];rfl
 · rw[if_neg h1]
   rcases o with _ | (_ | ⟨sz',pin,ep',es⟩)
   · rfl
   · rfl
   · by_cases h3:ep=ep'∧n=es.length
     · simp only[if_pos h3,Option.bind_some];rw[if_neg fun h=>h1 h.1];rfl
     · simp only[if_neg h3];rfl
@[go_sem] theorem zK : mH H sz (some (.ref id ep n)) (some none) (some (some i)) = if 0 ≤ i then (if i ≤ n then scO H sz ep n (.sub id ep n 0 i.toNat) H[id]? else none) else none := by
 simp only[mH,Option.bind_some,dC,bound,idx]
 by_cases h1:0≤i
 · rw[if_pos h1,if_pos h1,Option.bind_some,scR,if_pos (Nat.zero_le _)]
   by_cases h2:i≤n
   · rw[if_pos h2,if_pos (by omega)]
   · rw[if_neg h2,if_neg (by omega)]
 · rw[if_neg h1,if_neg h1];rfl
@[go_sem] theorem zL : mH H sz (some (.ref id ep n)) (some (some i)) (some none) = if 0 ≤ i then (if i ≤ n then scO H sz ep n (.sub id ep n i.toNat n) H[id]? else none) else none := by
 simp only[mH,Option.bind_some,dC,bound,idx]
 by_cases h1:0≤i
 · rw[if_pos h1,if_pos h1,Option.bind_some,scR]
   by_cases h2:i≤n
   · rw[if_pos h2,if_pos (by omega),if_pos (by omega)]
   · rw[if_neg h2,if_neg (by omega)]
 · rw[if_neg h1,if_neg h1];rfl
@[go_sem] theorem uH : mH H sz (some (.ref id ep n)) (some (some i)) (some (some j)) = if 0 ≤ i then (if i ≤ j then (if j ≤ n then scO H sz ep n (.sub id ep n i.toNat j.toNat) H[id]? else none) else none) else none := by
 simp only[mH,Option.bind_some,dC,bound,idx]
 by_cases h1:0≤i
 · rw[if_pos h1,if_pos h1,Option.bind_some]
   by_cases h0:i≤j
   · rw[if_pos h0,if_pos (by omega),Option.bind_some,scR,if_pos (by omega)]
     by_cases h2:j≤n
     · rw[if_pos h2,if_pos (by omega)]
     · rw[if_neg h2,if_neg (by omega)]
   · rw[if_neg h0]
     by_cases h2:0≤j
     · rw[if_pos h2,Option.bind_some,scR,if_neg (by omega)]
     · rw[if_neg h2];rfl
 · rw[if_neg h1,if_neg h1];rfl
@[go_sem] theorem zM : mH H sz (some .nil) (some none) (some (some i)) = if i = 0 then some (.nil, H) else none := by
 simp only[mH,Option.bind_some,dC,bound,idx]
 by_cases h1:0≤i
 · rw[if_pos h1,Option.bind_some]
   by_cases h2:i=0
   · rw[if_pos h2,if_pos (by omega)];rfl
   · rw[if_neg h2,if_neg (by omega)];rfl
 · rw[if_neg h1,if_neg (by omega)];rfl
@[go_sem] theorem zN : mH H sz (some .nil) (some (some i)) (some none) = if i = 0 then some (.nil, H) else none := by
 simp only[mH,Option.bind_some,dC,bound,idx]
 by_cases h1:0≤i
 · rw[if_pos h1,Option.bind_some]
   by_cases h2:i=0
   · rw[if_pos h2,if_pos (by omega)];rfl
   · rw[if_neg h2,if_neg (by omega)];rfl
 · rw[if_neg h1,if_neg (by omega)];rfl
def oV(x:D)(ys:List D):Option (D×ab):=if aJ sz ys=true then(match x with
 | .nil=>if ys.length≤4294967296 then some (.ref H.length 0 ys.length,H++[.arr sz false 0 ys])else none
 | .ref id ep n=>iX H sz id ep n ys H[id]?
 | _=>none)else none
@[go_sem] theorem Jv (ys : List D) : oV H sz .nil ys = if aJ sz ys = true then (if ys.length ≤ 4294967296 then some (.ref H.length 0 ys.length, H ++ [.arr sz false 0 ys]) else none) else none := (rfl)
@[go_sem] theorem Jw (ys : List D) : oV H sz (.ref id ep n) ys = if aJ sz ys = true then iX H sz id ep n ys H[id]? else none := (rfl)
@[go_sem] theorem wv : aJ sz [] = true := (rfl)
@[go_sem] theorem uI (d : D) (r : List D) : aJ sz (d :: r) = dI sz d.cells := by
 rw[Bool.eq_iff_iff,bu];simp[aJ]
def Gu(x:D):Option Obj→Option (D×ab)
 | some (.arr _ _ ep' es)=>if ep=ep'∧n=es.length then oV H sz x ((es.drop lo).take (hi-lo))else none
 | _=>none
def Gv(x:D):Option Obj→Option (D×ab)
 | some (.arr _ _ ep' es)=>if ep=ep'∧n=es.length then oV H sz x es else none
 | _=>none
@[go_sem] theorem Jx (x : D) (sz' : Nat) (pin : Bool) (es : List D) : Gu H sz ep n lo hi x (some (.arr sz' pin ep es)) = if n = es.length then oV H sz x ((es.drop lo).take (hi - lo)) else none := by simp [Gu]
@[go_sem] theorem Jy (x : D) (sz' : Nat) (pin : Bool) (es : List D) : Gv H sz ep n x (some (.arr sz' pin ep es)) = if n = es.length then oV H sz x es else none := by simp [Gv]
theorem rN(x:D)(ys:List D):(if aJ sz ys=true then(match x with
 | .nil=>if ys.length≤lim then some (D.ref H.length 0 ys.length,H++[.arr sz false 0 ys])else none
 | .ref id ep n=>(bI H id ep n).bind fun a=>if a.1=sz∧n+ys.length≤lim then some (.ref id ep (n+ys.length),H.set id (.arr sz a.2.1 ep (a.2.2++ys)))else none
 | _=>none)else none)=oV H sz x ys:=by
 unfold oV
 split
 · cases x with
   | ref id ep n=>
     simp only[bI]
     generalize H[id]?=o
     rcases o with _ | (_ | ⟨sz',pin,ep',es⟩)
     · rfl
     · rfl
     · simp only[iX]
       by_cases h1:ep=ep'∧n=es.length
       · rw[if_pos h1,Option.bind_some]
         by_cases h2:sz'=sz∧n+ys.length≤lim
         · rw[if_pos h2,if_pos ⟨h1.1,h1.2,h2⟩]
         · rw[if_neg h2,if_neg fun h=>h2 h.2.2]
       · rw[if_neg h1,if_neg fun h=>h1 ⟨h.1,h.2.1⟩];rfl
   | _=>rfl
 · rfl
theorem iF(x y:D)(ys:List D)(h:elems H y=some ys):ew H sz false (some x) (some y)=oV H sz x ys:=by
 simp only[ew,Option.bind_some,dk,h,Bool.false_eq_true,if_false]
 exact rN H sz x ys
@[go_sem] theorem s0 (x : D) : ew H sz false (some x) (some .nil) = oV H sz x [] := iF H sz x .nil [] rfl
@[go_sem] theorem s3 (x : D) : ew H sz false (some x) (some (.ref id ep n)) = Gv H sz ep n x H[id]? := by
 cases he:elems H (.ref id ep n)with
 | some ys=>
   rw[iF H sz x _ ys he]
   simp only[elems,bI]at he
   generalize H[id]?=o at he
   rcases o with _ | (_ | ⟨sz',pin,ep',es⟩)
   · cases he
   · cases he
   · simp only[Gv]
     by_cases h1:ep=ep'∧n=es.length
     · simp only[if_pos h1]at he ⊢;cases he;rfl
     · simp only[if_neg h1]at he;cases he
 | none=>
   have:ew H sz false (some x) (some (.ref id ep n))=none:=by simp only[ew,Option.bind_some,dk,he];rfl
   rw[this]
   simp only[elems,bI]at he
   generalize H[id]?=o at he
   rcases o with _ | (_ | ⟨sz',pin,ep',es⟩)
   · rfl
   · rfl
   · simp only[Gv]
     by_cases h1:ep=ep'∧n=es.length
     · simp only[if_pos h1]at he;cases he
     · simp only[if_neg h1]
@[go_sem] theorem s4 (x : D) : ew H sz false (some x) (some (.sub id ep n lo hi)) = Gu H sz ep n lo hi x H[id]? := by
 cases he:elems H (.sub id ep n lo hi)with
 | some ys=>
   rw[iF H sz x _ ys he]
   simp only[elems,bI]at he
   generalize H[id]?=o at he
   rcases o with _ | (_ | ⟨sz',pin,ep',es⟩)
   · cases he
   · cases he
   · simp only[Gu]
     by_cases h1:ep=ep'∧n=es.length
     · simp only[if_pos h1]at he ⊢;cases he;rfl
     · simp only[if_neg h1]at he;cases he
 | none=>
   have:ew H sz false (some x) (some (.sub id ep n lo hi))=none:=by simp only[ew,Option.bind_some,dk,he];rfl
   rw[this]
   simp only[elems,bI]at he
   generalize H[id]?=o at he
   rcases o with _ | (_ | ⟨sz',pin,ep',es⟩)
   · rfl
   · rfl
   · simp only[Gu]
     by_cases h1:ep=ep'∧n=es.length
     · simp only[if_pos h1]at he;cases he
     · simp only[if_neg h1]
def C5(ep n lo hi:Nat):Option Obj→Option (List D)
 | some (.arr _ _ ep' es)=>if ep=ep'∧n=es.length then some ((es.drop lo).take (hi-lo))else none
 | _=>none
def Jz(x:D):Option (List D)→Option (D×ab)
 | some ys0=>(aH (fun d=>(frz H depth d).map .t) ys0).bind fun ys=>if aJ sz ys then oV (pins H (ys0.flatMap (bO H depth))) sz x ys else none
 | none=>none
@[go_sem] theorem Nt (x : D) (ts : List T) : Jz H sz x (some (ts.map .t)) = oV H sz x (ts.map .t) := by
 simp only[Jz,gS,Option.bind_some,ru,pins]
 by_cases h:aJ sz (ts.map D.t)=true
 · rw[if_pos h]
 · rw[if_neg h];unfold oV;rw[if_neg h]
@[go_sem] theorem uJ (x : D) : ew H sz true (some x) (some (.sub id ep n lo hi)) = Jz H sz x (C5 ep n lo hi H[id]?) := by
 have e:elems H (.sub id ep n lo hi)=C5 ep n lo hi H[id]?:=by
  simp only[elems,bI]
  generalize H[id]?=o
  rcases o with _ | (_ | ⟨sz',pin,ep',es⟩)
  · rfl
  · rfl
  · simp only[C5]
    by_cases h1:ep=ep'∧n=es.length
    · simp only[if_pos h1];rfl
    · simp only[if_neg h1];rfl
 simp only[ew,Option.bind_some,dk,e]
 cases C5 ep n lo hi H[id]? with
 | none=>rfl
 | some ys0=>
   simp only[Option.bind_some,Jz,if_true]
   cases hm:aH (fun d=>(frz H depth d).map D.t) ys0 with
   | none=>rfl
   | some ys=>
     simp only[Option.bind_some]
     refine(rN _ _ _ _).trans ?_
     by_cases h:aJ sz ys=true
     · rw[if_pos h]
     · rw[if_neg h];unfold oV;rw[if_neg h]
@[go_sem] theorem JA (ep n lo hi sz : Nat) (pin : Bool) (ts : List T) : C5 ep n lo hi (some (.arr sz pin ep (ts.map .t))) = if n = ts.length then some (((ts.drop lo).take (hi - lo)).map .t) else none := by
 simp only[C5,true_and,List.length_map,List.map_take,List.map_drop]
def rO(ds:List D):Option (D×ab):=if ds.all (fun d=>d.cells.length==sz&&d.bU)then some (.ref H.length 0 ds.length,H++[.arr sz false 0 ds])else none
@[go_sem] theorem Nu (call : ah) (get : X → Option D) (xs : List X) : evO call get H (.bsr xs sz) = (aH get xs).bind (rO H sz) := (rfl)
@[go_sem] theorem Gw : rO H sz [] = some (.ref H.length 0 0, H ++ [.arr sz false 0 []]) := (rfl)
@[go_sem] theorem Gx (k : IntKind) (n : Int) : rO H 1 [.t (.int k n)] = some (.ref H.length 0 1, H ++ [.arr 1 false 0 [.t (.int k n)]]) := (rfl)
@[go_sem] theorem Gy (cs : List D) : rO H sz [.agg cs] = if dI sz cs = true then some (.ref H.length 0 1, H ++ [.arr sz false 0 [.agg cs]]) else none := by
 simp only[rO,List.all_cons,List.all_nil,Bool.and_true,D.cells,D.bU]
 by_cases h:dI sz cs=true
 · rw[if_pos h,if_pos (by simpa using bu.1 h)];rfl
 · rw[if_neg h,if_neg (by intro e;exact h (bu.2 (by simpa using e)))]
end
@[go_sem] theorem wx : (1 : Int).toNat = 1 := (rfl)
@[go_sem] theorem zO : (2 : Int).toNat = 2 := (rfl)
@[go_sem] theorem uK : (3 : Int).toNat = 3 := (rfl)
section
variable {H t : ab} {i j k : Nat} {o o' : Obj}
end
end Go.Ev
namespace Go.Ev.N
def rP:Nat:=123
def qk:Nat:=124
def s5:Nat:=125
def rQ:Nat:=126
def zP:Nat:=127
def zQ:Nat:=128
def zR:Nat:=129
def C6:Nat:=130
def C7:Nat:=131
def zS:Nat:=132
def zT:Nat:=133
def uL:Nat:=134
def uM:Nat:=135
def C8:Nat:=136
def zU:Nat:=137
def uN:Nat:=138
def wy:Nat:=139
def s6:Nat:=140
def wz:Nat:=141
def uO:Nat:=142
def rR:Nat:=143
def rS:Nat:=144
def rT:Nat:=145
def wA:Nat:=146
def wB:Nat:=147
def pP:Nat:=148
end Go.Ev.N
namespace Go.Ev.N
def oW:Nat:=149
def rU:Nat:=150
def rV:Nat:=151
def ql:Nat:=152
def zV:Nat:=153
def zW:Nat:=154
def wC:Nat:=155
def wD:Nat:=156
def zX:Nat:=157
def C9:Nat:=158
def zY:Nat:=159
def aB:Nat:=160
def oX:Nat:=161
def zZ:Nat:=162
def Da:Nat:=163
def wE:Nat:=164
def Db:Nat:=165
def wF:Nat:=166
def Dc:Nat:=167
def fJ:Nat:=168
def uP:Nat:=169
def bw:Nat:=170
def pQ:Nat:=171
def uQ:Nat:=172
def Dd:Nat:=173
def gv:Nat:=174
def rW:Nat:=175
def aW:Nat:=176
def z6:Nat:=177
end Go.Ev.N
namespace Go.Ev.K
open Go.Ev
def dL:C:=(.seq (.ite [m v6,m v5,u (.ln l0),u (.bin .lss l2 l0)] [] 0 .skip (.exit 0)) (.blk 1 (.reg [m v6,m v5,m v6,u (.sc l1 (some l0) none 1),m v5,m v6,u (.sc l1 none (some l0) 1),u (.cp l3 l0 1),u (.bin .add l7 l0),w 6 (.mv l0)] [])))
def dZ:C:= .loop true [0,1,2,3,4] K.dL
def aB:Fn:={ nargs:=2,vars:=[0,1,4,5,6,7,8],body:=(.seq (.reg [w 2 (.mv (.c (.nil)))] []) (.seq (.ite [m v1,u (.bin .lss l0 (.i 0))] [] 0 .fail .skip) (.seq (.reg [m v0,u (.ln l0),u (.cv .u64 l0),m v1,u (.cv .u64 l0),u (.ca N.bw 0 [] [.l 2,.l 0]),m l0,u (.ex l0 0),u (.ex l1 1),w 3 (.mv l1),w 4 (.mv l1)] []) (.seq (.ite [m v3,u (.bin .gtr l0 (.c (.t (.int .u64 (0))))),m l0,y 0 false (.mv v4),y 1 false (.bin .gtr l0 (.c (.t (.int .u64 (9223372036854775807))))),u (.pk l2 (.b true) l0)] [] 0 .fail .skip) (.seq (.reg [m v4,u (.cv .i64 l0),u (.mk l0 (.t (.int .i64 (0))) 1),w 5 (.mv l0)] []) (.seq (.reg [m v5,m v0,u (.cp l1 l0 1),w 6 (.mv l0)] []) (.seq (.blk 0 K.dZ) (.seq (.reg [m v5,w 2 (.mv l0)] []) .ret)))))))),res:=[(2,none)]}
def bw:Fn:={ nargs:=2,vars:=[0,1,4,5,8,9],body:=(.seq (.reg [w 2 (.mv (.c (.t (.int .u64 (0))))),w 3 (.mv (.c (.t (.int .u64 (0)))))] []) (.seq (.cnd false .skip) (.seq (.reg [m v0,m v1,u (.ca N.aW 0 [] [.l 1,.l 0]),m l0,u (.ex l0 0),u (.ex l1 1),w 4 (.mv l1),w 5 (.mv l1)] []) (.seq (.reg [m v4,m v5,w 2 (.mv l1),w 3 (.mv l1)] []) .ret)))),res:=[(2,none),(3,none)]}
end Go.Ev.K
namespace Go.Ev
class oY [Lib]:Prop where
 cz:Lib.fs N.aB=some K.aB
 ff:Lib.fs N.bw=some K.bw
namespace K
variable [Lib] [oY]
theorem cz:Lib.fs N.aB=some K.aB:=oY.cz
theorem ff:Lib.fs N.bw=some K.bw:=oY.ff
end K
end Go.Ev
namespace Go.Ev.K
open Go.Ev
def aW:Fn:={ nargs:=2,vars:=[0,1,4,5,6,7,8,9,10,11,12,13],body:=(.seq (.reg [w 2 (.mv (.c (.t (.int .u64 (0))))),w 3 (.mv (.c (.t (.int .u64 (0)))))] []) (.seq (.reg [m v0,u (.bin .and l0 (.c (.t (.int .u64 (4294967295))))),w 4 (.mv l0)] []) (.seq (.reg [m v0,u (.bin .shr l0 (.c (.t (.int .u64 (32))))),w 5 (.mv l0)] []) (.seq (.reg [m v1,u (.bin .and l0 (.c (.t (.int .u64 (4294967295))))),w 6 (.mv l0)] []) (.seq (.reg [m v1,u (.bin .shr l0 (.c (.t (.int .u64 (32))))),w 7 (.mv l0)] []) (.seq (.reg [m v4,m v6,u (.bin .mul l1 l0),w 8 (.mv l0)] []) (.seq (.reg [m v5,m v6,u (.bin .mul l1 l0),m v8,u (.bin .shr l0 (.c (.t (.int .u64 (32))))),u (.bin .add l2 l0),w 9 (.mv l0)] []) (.seq (.reg [m v9,u (.bin .and l0 (.c (.t (.int .u64 (4294967295))))),w 10 (.mv l0)] []) (.seq (.reg [m v9,u (.bin .shr l0 (.c (.t (.int .u64 (32))))),w 11 (.mv l0)] []) (.seq (.reg [m v10,m v4,m v7,u (.bin .mul l1 l0),u (.bin .add l3 l0),w 10 (.mv l0)] []) (.seq (.reg [m v5,m v7,u (.bin .mul l1 l0),m v11,u (.bin .add l1 l0),m v10,u (.bin .shr l0 (.c (.t (.int .u64 (32))))),u (.bin .add l2 l0),w 2 (.mv l0)] []) (.seq (.reg [m v0,m v1,u (.bin .mul l1 l0),w 3 (.mv l0)] []) .ret)))))))))))),res:=[(2,none),(3,none)]}
end Go.Ev.K
namespace Go.Ev
class pR [Lib]:Prop where
 ea:Lib.fs N.aW=some K.aW
namespace K
variable [Lib] [pR]
theorem ea:Lib.fs N.aW=some K.aW:=pR.ea
end K
end Go.Ev
namespace Go.Ev
open Go
variable [Lib] [fc] [eA] [oY] [pR]
section
variable (H : ab) (sz : Nat)
def wG(id ep n lo hi:Nat)(ys:List D):Option Obj→Option (D×ab)
 | some (.arr sz' pin ep' es)=>if ep=ep'∧n=es.length then w6 H id ep (sz',pin,es) lo hi ys sz else none
 | _=>none
def cpD(x:D)(ys:List D):Option (D×ab):=if aJ sz ys=true then(match x with
 | .ref id ep n=>wG H sz id ep n 0 n ys H[id]?
 | .sub id ep n lo hi=>wG H sz id ep n lo hi ys H[id]?
 | _=>none)else none
def JB(x y:Option D):Option (D×ab):=x.bind fun a=>y.bind fun b=>kV H a b sz
@[go_sem] theorem On (call : ah) (get : X → Option D) (x y : X) : evO call get H (.cp x y sz) = JB H sz (get x) (get y) := (rfl)
theorem oZ(x y:D)(ys:List D)(h:elems H y=some ys):kV H x y sz=cpD H sz x ys:=by
 unfold kV cpD
 rw[h,Option.bind_some]
 split
 · rename_i hh
   cases x with
   | ref id ep n=>
     simp only[bI,wG]
     cases H[id]? with
     | none=>rfl
     | some o=>
       cases o with
       | box cs=>rfl
       | arr sz' pin ep' es=>
         simp only
         by_cases c:ep=ep'∧n=es.length
         · rw[if_pos c,if_pos c];rfl
         · rw[if_neg c,if_neg c];rfl
   | sub id ep n lo hi=>
     simp only[bI,wG]
     cases H[id]? with
     | none=>rfl
     | some o=>
       cases o with
       | box cs=>rfl
       | arr sz' pin ep' es=>
         simp only
         by_cases c:ep=ep'∧n=es.length
         · rw[if_pos c,if_pos c];rfl
         · rw[if_neg c,if_neg c];rfl
   | _=>rfl
 · rfl
@[go_sem] theorem Nv (x : D) (ts : List T) : JB H sz (some x) (some (.t (.sl ts))) = cpD H sz x (ts.map .t) := oZ H sz x (.t (.sl ts)) (ts.map .t) rfl
def cpE(x:D)(ep n lo hi:Nat):Option Obj→Option (D×ab)
 | some (.arr _ _ ep' es)=>if ep=ep'∧n=es.length then cpD H sz x ((es.drop lo).take (hi-lo))else none
 | _=>none
@[go_sem] theorem Mj (x : D) (n lo hi sz' : Nat) (pin : Bool) (ep : Nat) (es : List D) : cpE H sz x ep n lo hi (some (.arr sz' pin ep es)) = if n = es.length then cpD H sz x ((es.drop lo).take (hi - lo)) else none := by simp [cpE]
@[go_sem] theorem JC (x : D) (id ep n lo hi : Nat) : JB H sz (some x) (some (.sub id ep n lo hi)) = cpE H sz x ep n lo hi H[id]? := by
 unfold JB
 simp only[Option.bind_some]
 cases h:H[id]? with
 | none=>simp[kV,elems,bI,h,cpE]
 | some o=>
   cases o with
   | box cs=>simp[kV,elems,bI,h,cpE]
   | arr sz' pin ep' es=>
     by_cases c:ep=ep'∧n=es.length
     · rw[oZ H sz x _ ((es.drop lo).take (hi-lo)) (by simp[elems,bI,h,c])]
       simp only[cpE,if_pos c]
     · simp[kV,elems,bI,h,cpE,c]
@[go_sem] theorem Mk (id ep n : Nat) (ys : List D) : cpD H sz (.ref id ep n) ys = if aJ sz ys = true then wG H sz id ep n 0 n ys H[id]? else none := (rfl)
@[go_sem] theorem Ml (id ep n lo hi : Nat) (ys : List D) : cpD H sz (.sub id ep n lo hi) ys = if aJ sz ys = true then wG H sz id ep n lo hi ys H[id]? else none := (rfl)
@[go_sem] theorem JD (id n lo hi : Nat) (ys : List D) (ep : Nat) (es : List D) : wG H sz id ep n lo hi ys (some (.arr sz false ep es)) =
 if n=es.length then(if min ys.length (hi-lo)=0 then some (.t (.int .i64 0),H)else some (.t (.int .i64 ((min ys.length (hi-lo):Nat):Int)),H.set id (.arr sz false ep (es.take lo++ys.take (min ys.length (hi-lo))++es.drop (lo+min ys.length (hi-lo))))))else none:=by
 simp[wG,w6]
end
end Go.Ev
namespace Go.Ev
open Go
variable [Lib] [fc] [eA]
@[go_sem] theorem z8 (l : List Place) : dJ 2 (l.map Place.e) = true := by cases l <;> rfl
@[go_sem] theorem De (l : List Road) : dJ 10 (l.map Road.e) = true := by cases l <;> rfl
@[go_sem] theorem Df (H : ab) (d : cy) : ug H 0 1 false (some d.obj) = some (.t (tL d.L), H) := by simp only [cy.obj, go_sem]
def cy.fg(d:cy):Nat→List Place×cy
 | 0=>([],d)
 | k+1=>if k=0 then((d.fg k).1++[⟨-10*((d.fg k).2.next 4).1,true⟩],((d.fg k).2.next 4).2)
   else((d.fg k).1++[⟨-10*((d.fg k).2.next 4).1,(((d.fg k).2.next 4).2.one 6).1⟩],(((d.fg k).2.next 4).2.one 6).2)
def cy.Gz(d:cy)(i:Int):Road×cy:=
 (⟨i-1-(d.next (min i 2)).1,i,1+((d.next (min i 2)).2.of [11,59,119,4]).1,1+(((d.next (min i 2)).2.of [11,59,119,4]).2.of [9,3,19]).1,true,false,1,1,0,0⟩,
   (((d.next (min i 2)).2.of [11,59,119,4]).2.of [9,3,19]).2)
def cy.o3(d:cy):Nat→List Road×cy
 | 0=>([],d)
 | k+1=>((d.o3 k).1++[((d.o3 k).2.Gz (k+1)).1],((d.o3 k).2.Gz (k+1)).2)
def cy.uR(d:cy)(n:Int):Road×cy:=
 let a:=d.next n
 let b:=a.2.next n
 let l:=b.2.of [11,59,199]
 let r:=l.2.of [9,3]
 let w:=r.2.next 5
 let c:=w.2.one 6
 (⟨a.1,b.1,1+l.1,1+r.1,decide (0<w.1),c.1,1,1,0,0⟩,c.2)
def cy.more(n:Int)(l:List Road)(d:cy):Nat→List Road×cy
 | 0=>(l,d)
 | k+1=>if l.length<10 then cy.more n (if(d.uR n).1.frm=(d.uR n).1.to then l else l++[(d.uR n).1]) (d.uR n).2 k else(l,d)
def cy.Aa(d:cy):Nat:=if d.L.length=0 then 4 else(2+(d.next 6).1).toNat
def cy.GA(d:cy):List Place×cy:=(d.next 6).2.fg d.Aa
def cy.Ab(d:cy):List Road×cy:=d.GA.2.o3 (d.Aa-1)
def cy.GB(d:cy):List Road×cy:=cy.more d.Aa d.Ab.1 (d.Ab.2.next 4).2 (d.Ab.2.next 4).1.toNat
def cy.Ot(d:cy):sV×cy:=(⟨d.GA.1,d.GB.1⟩,d.GB.2)
@[go_sem] theorem GC (l : List Spn) : dJ 2 (l.map Spn.e) = true := by cases l <;> rfl
@[go_sem] theorem Mm (l : List Spn) (k : Nat) (a b : Int) : (List.map D.t (List.map Spn.e l)).set k (D.t (T.agg [tI a, tI b])) = List.map D.t (List.map Spn.e (l.set k ⟨a, b⟩)) := by
 rw[List.map_set,List.map_set]
@[go_sem] theorem Nw (H : ab) (sz : Nat) (a b c d e f : T) : kO H sz [.t a, .t b, .t c, .t d, .t e, .t f] = if aD sz [a, b, c, d, e, f] = true then some (.t (.sl [a, b, c, d, e, f]), H) else none := e9 H sz [a, b, c, d, e, f]
@[go_sem] theorem Nx (H : ab) (sz : Nat) (a b c d e f g : T) : kO H sz [.t a, .t b, .t c, .t d, .t e, .t f, .t g] = if aD sz [a, b, c, d, e, f, g] = true then some (.t (.sl [a, b, c, d, e, f, g]), H) else none := e9 H sz [a, b, c, d, e, f, g]
@[go_sem] theorem Ny (H : ab) (sz : Nat) (a b c d e f g h : T) : kO H sz [.t a, .t b, .t c, .t d, .t e, .t f, .t g, .t h] = if aD sz [a, b, c, d, e, f, g, h] = true then some (.t (.sl [a, b, c, d, e, f, g, h]), H) else none := e9 H sz [a, b, c, d, e, f, g, h]
@[go_sem] theorem GD {α β γ : Type} {l : List α} {g : α → β} {f : β → γ} {x : γ} {j : Nat} (h : j = l.length) : (List.map f (List.map g l) ++ [x])[j]? = some x := by
 rw[List.getElem?_append_right (by simp;omega)];simp[h]
@[go_sem] theorem JE {α β γ : Type} {l : List α} {g : α → β} {f : β → γ} {x y : γ} {j : Nat} (h : j = l.length) : (List.map f (List.map g l) ++ [x]).set j y = List.map f (List.map g l) ++ [y] := by
 rw[List.set_append_right _ _ (by simp;omega)];simp[h]
def cy.GF(d:cy):Spn×cy:=
 let a:=d.of [0,1000,5000,20000, -5000, -20000,4999,100]
 let b:=a.2.of [0,1,1000,6000]
 let c:=b.2.of [0,1,500]
 let w:=c.2.one 9
 (if w.1=true then⟨-1125899906842624,1125899906842624⟩else⟨a.1-b.1,a.1+c.1⟩,w.2)
def cy.o4(d:cy):Nat→List Spn×cy
 | 0=>([],d)
 | k+1=>((d.o4 k).1++[((d.o4 k).2.GF).1],((d.o4 k).2.GF).2)
def cy.Oo(d:cy)(m:sV):List Spn×cy:=d.o4 m.roads.length
end Go.Ev
namespace Go.Ev
open Go
variable [Lib] [fc] [eA] [oY] [pR]
end Go.Ev
namespace Go.Ev.N
def pS:Nat:=178
def pT:Nat:=179
def qm:Nat:=180
def pU:Nat:=181
def qn:Nat:=182
def rX:Nat:=183
def qo:Nat:=184
def Ac:Nat:=185
def wH:Nat:=186
def Ad:Nat:=187
def rY:Nat:=188
def Ae:Nat:=189
def wI:Nat:=190
def wJ:Nat:=191
def Dg:Nat:=192
def uS:Nat:=193
def wK:Nat:=194
def Af:Nat:=195
def Dh:Nat:=196
def GG:Nat:=197
def s7:Nat:=198
def s8:Nat:=199
def Di:Nat:=200
def uT:Nat:=201
def m7:Nat:=202
def wL:Nat:=203
def ax:Nat:=204
def rZ:Nat:=205
def Ag:Nat:=206
def wM:Nat:=207
def r5:Nat:=208
def qp:Nat:=209
def r6:Nat:=210
def GH:Nat:=211
def GI:Nat:=212
def GJ:Nat:=213
def Dj:Nat:=214
end Go.Ev.N
namespace Go.Ev.K
open Go.Ev
end Go.Ev.K
namespace Go.Ev
class s9 [Lib]:Prop where
namespace K
variable [Lib] [s9]
end K
end Go.Ev
namespace Go.Ev.K
open Go.Ev
def ax:Fn:={ nargs:=1,vars:=[0,2],body:=(.seq (.reg [w 1 (.mv (.c (.nil)))] []) (.itk [m v0,u (.eqk (.sl) false l0 (.c (.nil)))] [] 0 (.seq (.reg [w 1 (.nw 1)] []) .ret) .skip (.seq (.reg [u (.bsr [] 1),m v0,u (.app l1 l0 false 1),w 1 (.mv l0)] []) .ret))),res:=[(1,none)]}
end Go.Ev.K
namespace Go.Ev
class r7 [Lib]:Prop where
 cD:Lib.fs N.ax=some K.ax
namespace K
variable [Lib] [r7]
theorem cD:Lib.fs N.ax=some K.ax:=r7.cD
end K
end Go.Ev
namespace Go.Ev
open Go
variable [Lib] [fc] [eA] [oY] [pR] [s9] [r7]
end Go.Ev
namespace Go.Ev.N
def ta:Nat:=215
def tc:Nat:=216
def td:Nat:=217
def Ah:Nat:=218
def Ai:Nat:=219
def Aj:Nat:=220
def Dk:Nat:=221
def Dl:Nat:=222
def Dm:Nat:=223
def GK:Nat:=224
def Ak:Nat:=225
def Al:Nat:=226
def Am:Nat:=227
def GL:Nat:=228
def An:Nat:=229
def Ao:Nat:=230
def Dn:Nat:=231
def wN:Nat:=232
def Dp:Nat:=233
def wO:Nat:=234
def wP:Nat:=235
def wQ:Nat:=236
def Dq:Nat:=237
def wR:Nat:=238
def GM:Nat:=239
def GN:Nat:=240
def nU:Nat:=241
def Dr:Nat:=242
def Aq:Nat:=243
def te:Nat:=244
end Go.Ev.N
namespace Go.Ev.N
def o5:Nat:=245
def nV:Nat:=246
def nW:Nat:=247
def Ar:Nat:=248
def uU:Nat:=249
def As:Nat:=250
def o6:Nat:=251
def tf:Nat:=252
def r8:Nat:=253
def Au:Nat:=254
def wS:Nat:=255
def Dt:Nat:=256
def Av:Nat:=257
def pV:Nat:=258
def eC:Nat:=259
def pW:Nat:=260
def mN:Nat:=261
def wT:Nat:=262
def lN:Nat:=263
def dr:Nat:=264
def uV:Nat:=265
def eS:Nat:=266
def lE:Nat:=267
def r9:Nat:=268
def dG:Nat:=269
def cmp_isNaN_int:Nat:=270
end Go.Ev.N
namespace Go.Ev.N
def pX:Nat:=271
def sg:Nat:=272
def si:Nat:=273
def qs:Nat:=274
def tg:Nat:=275
def sj:Nat:=276
def Aw:Nat:=277
def Ax:Nat:=278
def Du:Nat:=279
def Dv:Nat:=280
def th:Nat:=281
def GO:Nat:=282
def wU:Nat:=283
def Ay:Nat:=284
def Az:Nat:=285
def Dw:Nat:=286
def ic:Nat:=287
def Dx:Nat:=288
def AA:Nat:=289
def AB:Nat:=290
def AD:Nat:=291
def AE:Nat:=292
def tj:Nat:=293
def AF:Nat:=294
def AG:Nat:=295
def wV:Nat:=296
def gV:Nat:=297
def gW:Nat:=298
def uW:Nat:=299
def kS:Nat:=300
def eP:Nat:=301
def gp:Nat:=302
def i5:Nat:=303
def fK:Nat:=304
def ie:Nat:=305
def i6:Nat:=306
def gX:Nat:=307
def tm:Nat:=308
end Go.Ev.N
namespace Go.Ev.N
def wW:Nat:=309
def sk:Nat:=310
def tn:Nat:=311
def tq:Nat:=312
def sm:Nat:=313
def AH:Nat:=314
def Mn:Nat:=315
def GP:Nat:=316
def AI:Nat:=317
def AJ:Nat:=318
def AK:Nat:=319
def AL:Nat:=320
def GQ:Nat:=321
def GR:Nat:=322
def AM:Nat:=323
def uX:Nat:=324
def GS:Nat:=325
def JF:Nat:=326
def tu:Nat:=327
def wX:Nat:=328
def uY:Nat:=329
def ig:Nat:=330
def i9:Nat:=331
def uZ:Nat:=332
def sn:Nat:=333
end Go.Ev.N
namespace Go.Ev.N
def pY:Nat:=334
def qt:Nat:=335
def qu:Nat:=336
def AN:Nat:=337
def pZ:Nat:=338
def AO:Nat:=339
def AP:Nat:=340
def Dy:Nat:=341
def AQ:Nat:=342
def Dz:Nat:=343
def DA:Nat:=344
def JG:Nat:=345
def tv:Nat:=346
def AR:Nat:=347
def DB:Nat:=348
def DC:Nat:=349
def so:Nat:=350
def u0:Nat:=351
def wY:Nat:=352
def wZ:Nat:=353
def AS:Nat:=354
def tw:Nat:=355
def DD:Nat:=356
def DE:Nat:=357
def u9:Nat:=358
def w4:Nat:=359
def AT:Nat:=360
def DF:Nat:=361
def az:Nat:=362
def vd:Nat:=363
def AU:Nat:=364
def DG:Nat:=365
def DH:Nat:=366
def DI:Nat:=367
def DJ:Nat:=368
def p0:Nat:=369
def dM:Nat:=370
def gw:Nat:=371
def ve:Nat:=372
def eQ:Nat:=373
def vf:Nat:=374
def vg:Nat:=375
def AV:Nat:=376
def AX:Nat:=377
def tx:Nat:=378
def ed:Nat:=379
def fD:Nat:=380
def sq:Nat:=381
def vh:Nat:=382
def sr:Nat:=383
end Go.Ev.N
namespace Go.Ev.K
open Go.Ev
def aX:C:=(.seq (.ite [m v3,f 3 v1,g l0,u (.ln l0),u (.bin .lss l3 l0)] [] 0 .skip (.exit 0)) (.seq (.blk 1 (.ite [f 3 v1,g l0,m v3,a 1 l1 l0,g l0,u (.bin .lss l0 (.i 1)),m l0,y 0 false (.fa v1 3),y 1 false (.ld l0 1 false),y 2 false (.mv v3),y 3 false (.ia l1 l0 1),y 4 false (.ld l0 1 false),y 5 false (.bin .gtr l0 (.i 65535)),u (.pk l6 (.b true) l0),m l0,y 0 false (.mv v3),y 1 false (.bin .gtr l0 (.i 0)),y 2 false (.mv l0),y 0 true (.fa v1 3),y 1 true (.ld l0 1 false),y 2 true (.mv v3),y 3 true (.ia l1 l0 1),y 4 true (.ld l0 1 false),y 5 true (.fa v1 3),y 6 true (.ld l0 1 false),y 7 true (.mv v3),y 8 true (.bin .sub l0 (.i 1)),y 9 true (.ia l2 l0 1),y 10 true (.ld l0 1 false),y 11 true (.bin .leq l6 l0),y 15 false (.pk (.l 12) l0 (.b false)),u (.pk (.l 16) (.b true) l0)] [] 0 (.seq (.reg [w 2 (.mv (.b false))] []) .ret) .skip)) (.reg [m v3,u (.bin .add l0 (.i 1)),w 3 (.mv l0)] [])))
def fT:C:= .loop true [0,2] K.aX
def az:Fn:={ nargs:=1,vars:=[0,1,2,3],body:=(.seq (.reg [w 1 (.bx v0 4),w 2 (.mv (.b false))] []) (.seq (.seq (.reg [w 3 (.mv (.i 0))] []) (.blk 0 K.fT)) (.seq (.reg [f 0 v1,g l0,u (.bin .geq l0 (.i 0)),m l0,y 0 true (.fa v1 0),y 1 true (.ld l0 1 false),y 2 true (.bin .lss l0 (.i 32)),u (.pk l3 l0 (.b false)),m l0,y 0 true (.fa v1 1),y 1 true (.ld l0 1 false),y 2 true (.bin .geq l0 (.i 0)),u (.pk l3 l0 (.b false)),m l0,y 0 true (.fa v1 1),y 1 true (.ld l0 1 false),y 2 true (.bin .leq l0 (.i 65535)),u (.pk l3 l0 (.b false)),m l0,y 0 true (.fa v1 2),y 1 true (.ld l0 1 false),y 2 true (.bin .geq l0 (.i 0)),u (.pk l3 l0 (.b false)),m l0,y 0 true (.fa v1 2),y 1 true (.ld l0 1 false),y 2 true (.bin .leq l0 (.i 2147483648)),u (.pk l3 l0 (.b false)),m l0,y 0 true (.fa v1 3),y 1 true (.ld l0 1 false),y 2 true (.ln l0),y 3 true (.bin .leq l0 (.i 20)),u (.pk l4 l0 (.b false)),w 2 (.mv l0)] []) .ret))),res:=[(2,none)]}
end Go.Ev.K
namespace Go.Ev
class kt [Lib]:Prop where
 eD:Lib.fs N.az=some K.az
namespace K
variable [Lib] [kt]
theorem eD:Lib.fs N.az=some K.az:=kt.eD
end K
end Go.Ev
namespace Go.Ev.N
def aL:Nat:=384
def tz:Nat:=385
def ss:Nat:=386
def tA:Nat:=387
def su:Nat:=388
def bB:Nat:=389
def bC:Nat:=390
def bG:Nat:=391
def qv:Nat:=392
def bl:Nat:=393
def AY:Nat:=394
def qw:Nat:=395
def cm:Nat:=396
def aQ:Nat:=397
def p4:Nat:=398
def cP:Nat:=399
def DK:Nat:=400
def bq:Nat:=401
def aC:Nat:=402
def bh:Nat:=403
def a8:Nat:=404
def aK:Nat:=405
def aO:Nat:=406
def aM:Nat:=407
def aF:Nat:=408
def aG:Nat:=409
def DL:Nat:=410
def aY:Nat:=411
def aR:Nat:=412
def ao:Nat:=413
def bN:Nat:=414
def ai:Nat:=415
end Go.Ev.N
namespace Go.Ev.K
open Go.Ev
def aL:Fn:={ nargs:=2,vars:=[0,1,2,3,4],body:=(.seq (.reg [w 2 (.bx v0 4),w 3 (.bx v1 3),w 4 (.mv (.b false))] []) (.seq (.ite [f 3 v2,g l0,u (.ln l0),u (.bin .gtr l0 (.i 100)),m l0,y 0 false (.fa v3 2),y 1 false (.ld l0 1 false),y 2 false (.ln l0),y 3 false (.bin .gtr l0 (.i 300)),u (.pk l4 (.b true) l0)] [] 0 (.seq (.reg [u (.ca N.bB 0 [] []),w 4 (.mv l0)] []) .ret) .skip) (.seq (.reg [u (.ca N.bB 0 [] []),m l0,y 0 true (.ld v2 4 true),y 1 true (.ca N.bC 0 [] [.l 0]),u (.pk l2 l0 (.b false)),m l0,y 0 true (.ld v3 3 true),y 1 true (.ca N.bG 0 [] [.l 0]),u (.pk l2 l0 (.b false)),m l0,y 0 true (.fa v3 0),y 1 true (.ld l0 1 false),y 2 true (.fa v3 2),y 3 true (.ld l0 1 false),y 4 true (.bd [.t (.int .i64 (0)),.t (.int .i64 (0)),.nil] [(0,1,.l 2),(1,1,.i 9),(2,1,.l 0)]),y 5 true (.ca N.bG 0 [] [.l 0]),u (.pk l6 l0 (.b false)),w 4 (.mv l0)] []) .ret))),res:=[(4,none)]}
def bB:Fn:={ nargs:=0,vars:=[0,1,2,3,4,5,6],body:=(.seq (.reg [w 0 (.mv (.b false))] []) (.seq (.reg [u (.bs [.i 5] 1),u (.bd [.t (.int .i64 (0)),.t (.int .i64 (0)),.t (.int .i64 (0)),.nil] [(0,1,.i 3),(1,1,.i 258),(2,1,.i 7),(3,1,.l 0)]),u (.ca N.bq 0 [] [.l 0]),m l0,u (.ex l0 0),u (.ex l1 1),w 1 (.al [.t (.int .i64 (0)),.t (.int .i64 (0)),.nil] []),u (.st l0 l2 3 []),w 2 (.mv l2)] []) (.seq (.reg [h 3 v1,u (.ca N.a8 0 [] [.l 0]),m l0,u (.ex l0 0),u (.ex l1 1),w 3 (.al [.t (.int .i64 (0)),.t (.int .i64 (0)),.t (.int .i64 (0)),.nil] []),u (.st l0 l2 4 []),w 4 (.mv l2)] []) (.seq (.reg [w 5 (.al [.nil,.nil] []),u (.ca N.cm 0 [] []),h 4 v3,u (.ca N.cP 0 [] [.l 1,.l 0]),m l0,u (.ex l0 0),u (.ex l1 1),u (.st l6 l1 2 []),w 6 (.mv l1)] [(0,2),(0,4),(2,1)]) (.seq (.reg [m v2,u (.bin .eql l0 (.i 0)),m l0,y 0 true (.mv v4),y 1 true (.bin .eql l0 (.i 0)),u (.pk l2 l0 (.b false)),m l0,y 0 true (.mv v6),y 1 true (.bin .eql l0 (.i 0)),u (.pk l2 l0 (.b false)),m l0,y 0 true (.fa v1 1),y 1 true (.ld l0 1 false),y 2 true (.bin .eql l0 (.i 9)),u (.pk l3 l0 (.b false)),m l0,y 0 true (.fa v1 2),y 1 true (.ld l0 1 false),y 2 true (.ln l0),y 3 true (.bin .eql l0 (.i 11)),u (.pk l4 l0 (.b false)),m l0,y 0 true (.fa v1 2),y 1 true (.ld l0 1 false),y 2 true (.ia l0 (.i 0) 1),y 3 true (.ld l0 1 false),y 4 true (.bin .eql l0 (.c (.t (.int .u8 (1))))),u (.pk l5 l0 (.b false)),m l0,y 0 true (.fa v1 2),y 1 true (.ld l0 1 false),y 2 true (.ia l0 (.i 7) 1),y 3 true (.ld l0 1 false),y 4 true (.bin .eql l0 (.c (.t (.int .u8 (7))))),u (.pk l5 l0 (.b false)),m l0,y 0 true (.fa v3 1),y 1 true (.ld l0 1 false),y 2 true (.bin .eql l0 (.i 258)),u (.pk l3 l0 (.b false)),m l0,y 0 true (.fa v5 0),y 1 true (.ld l0 1 false),y 2 true (.ln l0),y 3 true (.bin .eql l0 (.i 32)),u (.pk l4 l0 (.b false)),m l0,y 0 true (.fa v5 0),y 1 true (.ld l0 1 false),y 2 true (.ia l0 (.i 3) 1),y 3 true (.ld l0 1 false),y 4 true (.bin .eql l0 (.i 258)),u (.pk l5 l0 (.b false)),w 0 (.mv l0)] []) .ret))))),res:=[(0,none)]}
def bC:Fn:={ nargs:=1,vars:=[0,1,2,3,4,5,6],body:=(.seq (.reg [w 1 (.bx v0 4),w 2 (.mv (.b false))] []) (.seq (.reg [h 4 v1,u (.ca N.bq 0 [] [.l 0]),m l0,u (.ex l0 0),u (.ex l1 1),w 3 (.al [.t (.int .i64 (0)),.t (.int .i64 (0)),.nil] []),u (.st l0 l2 3 []),w 4 (.mv l2)] []) (.seq (.reg [h 4 v1,u (.ca N.bl 0 [] [.l 0]),m l0,u (.ex l0 0),u (.ex l1 1),w 5 (.al [.t (.int .i64 (0)),.t (.int .i64 (0)),.nil] []),u (.st l0 l2 3 []),w 6 (.mv l2)] []) (.seq (.reg [h 4 v1,u (.ca N.aK 0 [] [.l 0]),h 4 v1,u (.ca N.az 0 [] [.l 0]),u (.eqk (.bool) false l2 l0),m l0,y 0 true (.mv v4),y 1 true (.mv v6),y 2 true (.bin .eql l1 l0),u (.pk l3 l0 (.b false)),m l0,y 0 true (.ld v3 3 true),y 1 true (.ld v5 3 true),y 2 true (.ca N.aC 0 [] [.l 1,.l 0]),u (.pk l3 l0 (.b false)),w 2 (.mv l0)] [(2,0)]) .ret)))),res:=[(2,none)]}
def bG:Fn:={ nargs:=1,vars:=[0,1,2,3,4,5,6],body:=(.seq (.reg [w 1 (.bx v0 3),w 2 (.mv (.b false))] []) (.seq (.reg [h 3 v1,u (.ca N.a8 0 [] [.l 0]),m l0,u (.ex l0 0),u (.ex l1 1),w 3 (.al [.t (.int .i64 (0)),.t (.int .i64 (0)),.t (.int .i64 (0)),.nil] []),u (.st l0 l2 4 []),w 4 (.mv l2)] []) (.seq (.reg [h 3 v1,u (.ca N.aO 0 [] [.l 0]),m l0,u (.ex l0 0),u (.ex l1 1),w 5 (.al [.t (.int .i64 (0)),.t (.int .i64 (0)),.t (.int .i64 (0)),.nil] []),u (.st l0 l2 4 []),w 6 (.mv l2)] []) (.seq (.reg [m v4,m v6,u (.bin .eql l1 l0),m l0,y 0 true (.ld v3 4 true),y 1 true (.ld v5 4 true),y 2 true (.ca N.bh 0 [] [.l 1,.l 0]),u (.pk l3 l0 (.b false)),w 2 (.mv l0)] []) .ret)))),res:=[(2,none)]}
def dt:C:=(.seq (.ite [m v5,f 3 v1,g l0,u (.ln l0),u (.bin .lss l3 l0)] [] 0 .skip (.exit 0)) (.seq (.blk 1 (.reg [m v4,f 3 v1,g l0,m v5,a 1 l1 l0,g l0,u (.ca N.aM 1 [0] [.l 5,.l 0,.i 2]),w 4 (.mv l0)] [])) (.reg [m v5,u (.bin .add l0 (.i 1)),w 5 (.mv l0)] [])))
def fU:C:= .loop true [0,3] K.dt
def bl:Fn:={ nargs:=1,vars:=[0,1,2,3,4,5],body:=(.seq (.reg [w 1 (.bx v0 4),w 2 (.al [.t (.int .i64 (0)),.t (.int .i64 (0)),.nil] []),w 3 (.mv (.i 0))] []) (.seq (.ite [h 4 v1,u (.ca N.az 0 [] [.l 0]),u (.un .not l0)] [] 0 (.seq (.reg [u (.bd [.t (.int .i64 (0)),.t (.int .i64 (0)),.nil] []),u (.st v2 l0 3 []),w 3 (.mv (.i 6))] []) .ret) .skip) (.seq (.reg [f 1 v1,g l0,u (.ca N.aM 1 [0] [.c (.nil),.l 0,.i 2]),f 2 v1,g l0,u (.ca N.aM 1 [0] [.l 2,.l 0,.i 6]),f 3 v1,g l0,u (.ln l0),u (.ca N.aM 1 [0] [.l 3,.l 0,.i 1]),w 4 (.mv l0)] [(4,0),(7,0),(7,3)]) (.seq (.seq (.reg [w 5 (.mv (.i 0))] []) (.blk 0 K.fU)) (.seq (.reg [f 0 v1,g l0,m v4,u (.bd [.t (.int .i64 (0)),.t (.int .i64 (0)),.nil] [(0,1,.l 1),(1,1,.i 9),(2,1,.l 0)]),u (.st v2 l0 3 []),w 3 (.mv (.i 0))] []) .ret))))),res:=[(2,some (3,true)),(3,none)]}
def cm:Fn:={ nargs:=0,vars:=[0],body:=(.seq (.reg [w 0 (.al [.nil,.nil] [])] []) (.seq (.reg [u (.bs [.i (-1)] 1),u (.ca N.aB 0 [] [.l 0,.i 32]),u (.mkt (.i 32) (.int .i64 (0)) 1),u (.bd [.nil,.nil] [(0,1,.l 1),(1,1,.l 0)]),u (.st v0 l0 2 [])] [(0,0),(2,0)]) .ret)),res:=[(0,some (2,true))]}
def aQ:Fn:={ nargs:=1,vars:=[0,1,2],body:=(.seq (.reg [w 1 (.bx v0 2),w 2 (.mv (.b false))] []) (.seq (.reg [f 0 v1,g l0,u (.ln l0),u (.bin .eql l0 (.i 32)),m l0,y 0 true (.fa v1 1),y 1 true (.ld l0 1 false),y 2 true (.ln l0),y 3 true (.bin .eql l0 (.i 32)),u (.pk l4 l0 (.b false)),m l0,y 0 true (.fa v1 0),y 1 true (.ld l0 1 false),y 2 true (.ca N.aj 0 [] [.l 0,.c (.fn N.aF [])]),y 3 true (.un .not l0),u (.pk l4 l0 (.b false)),m l0,y 0 true (.fa v1 1),y 1 true (.ld l0 1 false),y 2 true (.ca N.aj 0 [] [.l 0,.c (.fn N.aG [])]),y 3 true (.un .not l0),u (.pk l4 l0 (.b false)),w 2 (.mv l0)] []) .ret)),res:=[(2,none)]}
def cP:Fn:={ nargs:=2,vars:=[0,1,2,3,4,5,6,7,8],body:=(.seq (.reg [w 2 (.bx v0 2),w 3 (.bx v1 4),w 4 (.al [.nil,.nil] []),w 5 (.mv (.i 0))] []) (.seq (.blk 0 (.ite [h 2 v2,u (.ca N.aQ 0 [] [.l 0]),u (.un .not l0),m l0] [] 0 (.seq (.reg [h 2 v2,u (.st v4 l0 2 []),w 5 (.mv (.i 10))] []) .ret) (.ite [h 4 v3,u (.ca N.aK 0 [] [.l 0]),u (.un .not l0),m l0] [] 0 (.seq (.reg [h 2 v2,u (.st v4 l0 2 []),w 5 (.mv (.i 6))] []) .ret) .skip))) (.seq (.reg [f 0 v2,g l0,f 0 v3,g l0,a 1 l2 l0,g l0,w 6 (.mv l0)] []) (.seq (.reg [f 1 v3,g l0,m v6,u (.bin .sub l1 l0),u (.bin .add l0 (.i 65536)),u (.bin .rem l0 (.i 65536)),w 7 (.mv l0)] []) (.seq (.ite [m v6,u (.bin .geq l0 (.i 0)),m l0,y 0 true (.mv v7),y 1 true (.bin .eql l0 (.i 0)),y 2 true (.mv l0),y 0 false (.mv v7),y 1 false (.bin .geq l0 (.i 32768)),y 5 true (.pk l2 (.b true) l0),u (.pk l6 l0 (.b false))] [] 0 (.seq (.reg [h 2 v2,u (.st v4 l0 2 []),w 5 (.mv (.i 42))] []) .ret) .skip) (.seq (.reg [w 8 (.al [.nil,.nil] []),f 0 v2,g l0,u (.ca N.ax 1 [] [.l 0]),f 1 v2,g l0,u (.ca N.ax 1 [] [.l 0]),u (.bd [.nil,.nil] [(0,1,.l 3),(1,1,.l 0)]),u (.st l7 l0 2 [])] [(0,4),(0,7),(5,1)]) (.seq (.reg [f 0 v8,g l0,f 0 v3,g l0,f 1 v3,g l0,a 1 l4 l2,u (.st l0 l1 1 [])] []) (.seq (.ite [m v6,u (.bin .geq l0 (.i 0))] [] 0 (.reg [f 1 v8,g l0,f 0 v3,g l0,f 1 v8,g l0,f 0 v3,g l0,a 1 l2 l0,g l0,m v7,u (.bin .add l1 l0),u (.bin .sub l0 (.i 1)),u (.mn [.l 0,.i 2147483648]),a 1 (.l 12) l10,u (.st l0 l1 1 [])] []) .skip) (.seq (.reg [h 2 v8,u (.st v4 l0 2 []),w 5 (.mv (.i 0))] []) .ret))))))))),res:=[(4,some (2,true)),(5,none)]}
def dN:C:=(.its [u (.bin .lss v8 v7)] [] 0 .skip (.exit 0) (.seq (.blk 1 (.seq (.reg [a 1 v6 v8,g l0,w 5 (.mv l0)] []) (.reg [m v4,m v5,u (.cv .u64 l0),u (.ca N.aY 1 [0] [.l 2,.l 0,.i 2]),w 4 (.mv l0)] []))) (.reg [u (.bin .add v8 (.i 1)),w 8 (.mv l0)] [])))
def gY:C:= .loop true [0,3,5] K.dN
def bq:Fn:={ nargs:=1,vars:=[0,1,2,3,4,6,28,29,30],body:=(.seq (.reg [w 1 (.bx v0 4),w 2 (.al [.t (.int .i64 (0)),.t (.int .i64 (0)),.nil] []),w 3 (.mv (.i 0))] []) (.seq (.ite [h 4 v1,u (.ca N.aK 0 [] [.l 0]),u (.un .not l0)] [] 0 (.seq (.reg [u (.bd [.t (.int .i64 (0)),.t (.int .i64 (0)),.nil] []),u (.st v2 l0 3 []),w 3 (.mv (.i 6))] []) .ret) .skip) (.seq (.reg [f 1 v1,g l0,u (.cv .u64 l0),u (.ca N.aY 1 [0] [.c (.nil),.l 0,.i 2]),w 4 (.mv l0)] []) (.seq (.reg [m v4,f 2 v1,g l0,u (.cv .u64 l0),u (.ca N.aY 1 [0] [.l 3,.l 0,.i 6]),w 4 (.mv l0)] []) (.seq (.reg [m v4,f 3 v1,g l0,u (.ln l0),u (.cv .u8 l0),u (.bs [.l 0] 1),u (.app l5 l0 true 1),w 4 (.mv l0)] []) (.seq (.seq (.reg [f 3 v1,w 6 (.ld l0 1 false),w 7 (.ln l0),w 8 (.mv (.i 0))] []) (.blk 0 K.gY)) (.seq (.reg [f 0 v1,g l0,m v4,u (.bd [.t (.int .i64 (0)),.t (.int .i64 (0)),.nil] [(0,1,.l 1),(1,1,.i 9),(2,1,.l 0)]),u (.st v2 l0 3 []),w 3 (.mv (.i 0))] []) .ret))))))),res:=[(2,some (3,true)),(3,none)]}
def aC:Fn:={ nargs:=2,vars:=[0,1,2,3,4],body:=(.seq (.reg [w 2 (.bx v0 3),w 3 (.bx v1 3),w 4 (.mv (.b false))] []) (.seq (.reg [f 0 v2,g l0,f 0 v3,g l0,u (.bin .eql l2 l0),m l0,y 0 true (.fa v2 1),y 1 true (.ld l0 1 false),y 2 true (.fa v3 1),y 3 true (.ld l0 1 false),y 4 true (.bin .eql l2 l0),u (.pk l5 l0 (.b false)),m l0,y 0 true (.fa v2 2),y 1 true (.ld l0 1 false),y 2 true (.bst l0),y 3 true (.fa v3 2),y 4 true (.ld l0 1 false),y 5 true (.bst l0),y 6 true (.eqk (.str) false l3 l0),u (.pk l7 l0 (.b false)),w 4 (.mv l0)] []) .ret)),res:=[(4,none)]}
def bh:Fn:={ nargs:=2,vars:=[0,1,2,3,4],body:=(.seq (.reg [w 2 (.bx v0 4),w 3 (.bx v1 4),w 4 (.mv (.b false))] []) (.seq (.reg [f 0 v2,g l0,f 0 v3,g l0,u (.bin .eql l2 l0),m l0,y 0 true (.fa v2 1),y 1 true (.ld l0 1 false),y 2 true (.fa v3 1),y 3 true (.ld l0 1 false),y 4 true (.bin .eql l2 l0),u (.pk l5 l0 (.b false)),m l0,y 0 true (.fa v2 2),y 1 true (.ld l0 1 false),y 2 true (.fa v3 2),y 3 true (.ld l0 1 false),y 4 true (.bin .eql l2 l0),u (.pk l5 l0 (.b false)),m l0,y 0 true (.fa v2 3),y 1 true (.ld l0 1 false),y 2 true (.fa v3 3),y 3 true (.ld l0 1 false),y 4 true (.ca N.aI 0 [] [.l 2,.l 0]),u (.pk l5 l0 (.b false)),w 4 (.mv l0)] []) .ret)),res:=[(4,none)]}
def dh:C:= .rng 6 7 N.ai [w 5 (.mv v7)] [] [f 3 v4,g l0,m v5,u (.ca N.aR 0 [] [.l 0]),u (.cv .i64 l0),u (.bs [.l 0] 1),u (.app l4 l0 true 1),f 3 v4,u (.st l0 l1 1 [])] [(1,4),(1,6)]
def w5:C:=K.dh
def a8:Fn:={ nargs:=1,vars:=[0,1,2,3,4,5,49,50],body:=(.seq (.reg [w 1 (.bx v0 3),w 2 (.al [.t (.int .i64 (0)),.t (.int .i64 (0)),.t (.int .i64 (0)),.nil] []),w 3 (.mv (.i 0))] []) (.seq (.ite [f 1 v1,g l0,u (.bin .neq l0 (.i 9))] [] 0 (.seq (.reg [u (.bd [.t (.int .i64 (0)),.t (.int .i64 (0)),.t (.int .i64 (0)),.nil] []),u (.st v2 l0 4 []),w 3 (.mv (.i 5))] []) .ret) .skip) (.seq (.ite [f 0 v1,g l0,u (.ca N.bK 0 [] [.l 0,.i 0,.i 31]),u (.un .not l0)] [] 0 (.seq (.reg [u (.bd [.t (.int .i64 (0)),.t (.int .i64 (0)),.t (.int .i64 (0)),.nil] []),u (.st v2 l0 4 []),w 3 (.mv (.i 40))] []) .ret) .skip) (.seq (.ite [f 2 v1,g l0,u (.ln l0),u (.bin .lss l0 (.i 9)),m l0,y 0 false (.fa v1 2),y 1 false (.ld l0 1 false),y 2 false (.ln l0),y 3 false (.fa v1 2),y 4 false (.ld l0 1 false),y 5 false (.ia l0 (.i 8) 1),y 6 false (.ld l0 1 false),y 7 false (.cv .i64 l0),y 8 false (.bin .mul (.i 2) l0),y 9 false (.bin .add (.i 9) l0),y 10 false (.bin .neq l7 l0),u (.pk l11 (.b true) l0)] [] 0 (.seq (.reg [u (.bd [.t (.int .i64 (0)),.t (.int .i64 (0)),.t (.int .i64 (0)),.nil] []),u (.st v2 l0 4 []),w 3 (.mv (.i 6))] []) .ret) .skip) (.seq (.reg [w 4 (.al [.t (.int .i64 (0)),.t (.int .i64 (0)),.t (.int .i64 (0)),.nil] [(3,1)]),f 0 v1,g l0,f 2 v1,g l0,u (.sc l0 none (some (.i 2)) 1),u (.ca N.aR 0 [] [.l 0]),u (.cv .i64 l0),f 2 v1,g l0,u (.sc l0 (some (.i 2)) (some (.i 8)) 1),u (.ca N.aR 0 [] [.l 0]),u (.cv .i64 l0),u (.bd [.t (.int .i64 (0)),.t (.int .i64 (0)),.t (.int .i64 (0)),.nil] [(0,1,.l 10),(1,1,.l 5),(2,1,.l 0)]),u (.st (.l 13) l0 4 [(3,1)])] [(0,7),(0,12),(2,7),(2,12),(9,1),(10,1)]) (.seq (.seq (.reg [f 2 v1,g l0,u (.sc l0 (some (.i 9)) none 1),w 6 (.ca N.ao 0 [] [.l 0,.i 2])] []) (.blk 0 K.dh)) (.seq (.ite [h 4 v4,u (.ca N.aK 0 [] [.l 0]),u (.un .not l0)] [] 0 (.seq (.reg [u (.bd [.t (.int .i64 (0)),.t (.int .i64 (0)),.t (.int .i64 (0)),.nil] []),u (.st v2 l0 4 []),w 3 (.mv (.i 6))] []) .ret) .skip) (.seq (.reg [h 4 v4,u (.st v2 l0 4 []),w 3 (.mv (.i 0))] []) .ret)))))))),res:=[(2,some (4,true)),(3,none)]}
def aK:Fn:={ nargs:=1,vars:=[0,1,2],body:=(.seq (.reg [w 1 (.bx v0 4),w 2 (.mv (.b false))] []) (.seq (.reg [f 0 v1,g l0,u (.ca N.bK 0 [] [.l 0,.i 0,.i 31]),m l0,y 0 true (.fa v1 1),y 1 true (.ld l0 1 false),y 2 true (.ca N.bK 0 [] [.l 0,.i 0,.i 65535]),u (.pk l3 l0 (.b false)),m l0,y 0 true (.fa v1 2),y 1 true (.ld l0 1 false),y 2 true (.ca N.bK 0 [] [.l 0,.i 0,.i 2147483648]),u (.pk l3 l0 (.b false)),m l0,y 0 true (.fa v1 3),y 1 true (.ld l0 1 false),y 2 true (.ln l0),y 3 true (.bin .leq l0 (.i 20)),u (.pk l4 l0 (.b false)),m l0,y 0 true (.fa v1 3),y 1 true (.ld l0 1 false),y 2 true (.ca N.bg 0 [] [.l 0,.i 1,.i 65535]),u (.pk l3 l0 (.b false)),w 2 (.mv l0)] []) .ret)),res:=[(2,none)]}
def dO:C:=(.seq (.ite [m v6,m v4,a 1 l0 (.i 8),g l0,u (.cv .i64 l0),u (.bin .lss l4 l0)] [] 0 .skip (.exit 1)) (.seq (.blk 2 (.reg [f 3 v5,g l0,m v4,m v6,u (.bin .mul (.i 2) l0),u (.bin .add (.i 9) l0),m v6,u (.bin .mul (.i 2) l0),u (.bin .add (.i 11) l0),u (.sc l6 (some l3) (some l0) 1),u (.ca N.bN 0 [] [.l 0]),u (.bs [.l 0] 1),u (.app l10 l0 true 1),f 3 v5,u (.st l0 l1 1 [])] [(1,11),(1,12)])) (.reg [m v6,u (.bin .add l0 (.i 1)),w 6 (.mv l0)] [])))
def gZ:C:= .loop true [0,1,3] K.dO
def aO:Fn:={ nargs:=1,vars:=[0,1,2,3,4,5,6],body:=(.seq (.reg [w 1 (.bx v0 3),w 2 (.al [.t (.int .i64 (0)),.t (.int .i64 (0)),.t (.int .i64 (0)),.nil] []),w 3 (.mv (.i 0))] []) (.seq (.reg [f 2 v1,g l0,w 4 (.mv l0)] []) (.seq (.blk 0 (.ite [f 1 v1,g l0,u (.bin .neq l0 (.i 9)),m l0] [] 0 (.seq (.reg [u (.bd [.t (.int .i64 (0)),.t (.int .i64 (0)),.t (.int .i64 (0)),.nil] []),u (.st v2 l0 4 []),w 3 (.mv (.i 5))] []) .ret) (.ite [f 0 v1,g l0,u (.bin .lss l0 (.i 0)),m l0,y 0 false (.fa v1 0),y 1 false (.ld l0 1 false),y 2 false (.bin .geq l0 (.i 32)),u (.pk l3 (.b true) l0),m l0] [] 0 (.seq (.reg [u (.bd [.t (.int .i64 (0)),.t (.int .i64 (0)),.t (.int .i64 (0)),.nil] []),u (.st v2 l0 4 []),w 3 (.mv (.i 40))] []) .ret) (.ite [m v4,u (.ln l0),u (.bin .lss l0 (.i 9)),m l0,y 0 false (.mv v4),y 1 false (.ln l0),y 2 false (.mv v4),y 3 false (.ia l0 (.i 8) 1),y 4 false (.ld l0 1 false),y 5 false (.cv .i64 l0),y 6 false (.bin .mul (.i 2) l0),y 7 false (.bin .add (.i 9) l0),y 8 false (.bin .neq l6 l0),u (.pk l9 (.b true) l0),m l0] [] 0 (.seq (.reg [u (.bd [.t (.int .i64 (0)),.t (.int .i64 (0)),.t (.int .i64 (0)),.nil] []),u (.st v2 l0 4 []),w 3 (.mv (.i 6))] []) .ret) .skip)))) (.seq (.reg [w 5 (.al [.t (.int .i64 (0)),.t (.int .i64 (0)),.t (.int .i64 (0)),.nil] [(3,1)]),f 0 v1,g l0,m v4,u (.sc l0 none (some (.i 2)) 1),u (.ca N.bN 0 [] [.l 0]),m v4,u (.sc l0 (some (.i 2)) (some (.i 8)) 1),u (.ca N.bN 0 [] [.l 0]),u (.bd [.t (.int .i64 (0)),.t (.int .i64 (0)),.t (.int .i64 (0)),.nil] [(0,1,.l 6),(1,1,.l 3),(2,1,.l 0)]),u (.st l9 l0 4 [(3,1)])] [(0,6),(0,9),(2,6),(2,9),(7,1)]) (.seq (.seq (.reg [w 6 (.mv (.i 0))] []) (.blk 1 K.gZ)) (.seq (.ite [h 4 v5,u (.ca N.az 0 [] [.l 0]),u (.un .not l0)] [] 0 (.seq (.reg [u (.bd [.t (.int .i64 (0)),.t (.int .i64 (0)),.t (.int .i64 (0)),.nil] []),u (.st v2 l0 4 []),w 3 (.mv (.i 6))] []) .ret) .skip) (.seq (.reg [h 4 v5,u (.st v2 l0 4 []),w 3 (.mv (.i 0))] []) .ret))))))),res:=[(2,some (4,true)),(3,none)]}
def bY:C:=(.seq (.ite [m v4,u (.bin .geq l0 (.i 0))] [] 0 .skip (.exit 0)) (.seq (.blk 1 (.reg [m v0,m v1,m v4,u (.bin .mul (.i 8) l0),u (.cv .u64 l0),u (.bin .shr l3 l0),u (.cv .u8 l0),u (.bs [.l 0] 1),u (.app l7 l0 true 1),w 0 (.mv l0)] [])) (.reg [m v4,u (.bin .sub l0 (.i 1)),w 4 (.mv l0)] [])))
def fh:C:= .loop false [2,3] K.bY
def aM:Fn:={ nargs:=3,vars:=[0,1,2,6,7],body:=(.seq (.reg [w 3 (.mv (.c (.nil)))] []) (.seq (.seq (.reg [m v2,u (.bin .sub l0 (.i 1)),w 4 (.mv l0)] []) (.blk 0 K.fh)) (.seq (.reg [m v0,w 3 (.mv l0)] []) .ret))),res:=[(3,none)]}
def aF:Fn:={ nargs:=1,vars:=[0,2],body:=(.seq (.reg [w 1 (.mv (.b false))] []) (.seq (.reg [m v0,u (.ca N.bK 0 [] [.l 0,.i (-1),.i 65535]),u (.un .not l0),w 1 (.mv l0)] []) .ret)),res:=[(1,none)]}
def aG:Fn:={ nargs:=1,vars:=[0,2],body:=(.seq (.reg [w 1 (.mv (.b false))] []) (.seq (.reg [m v0,u (.ca N.bK 0 [] [.l 0,.i 0,.i 2147483648]),u (.un .not l0),w 1 (.mv l0)] []) .ret)),res:=[(1,none)]}
def bZ:C:=(.seq (.ite [m v4,u (.bin .geq l0 (.i 0))] [] 0 .skip (.exit 0)) (.seq (.blk 1 (.reg [m v0,m v1,m v4,u (.bin .mul (.i 8) l0),u (.cv .u64 l0),u (.bin .shr l3 l0),u (.cv .u8 l0),u (.bs [.l 0] 1),u (.app l7 l0 true 1),w 0 (.mv l0)] [])) (.reg [m v4,u (.bin .sub l0 (.i 1)),w 4 (.mv l0)] [])))
def fj:C:= .loop false [2,3] K.bZ
def aY:Fn:={ nargs:=3,vars:=[0,1,2,6,7],body:=(.seq (.reg [w 3 (.mv (.c (.nil)))] []) (.seq (.seq (.reg [m v2,u (.bin .sub l0 (.i 1)),w 4 (.mv l0)] []) (.blk 0 K.fj)) (.seq (.reg [m v0,w 3 (.mv l0)] []) .ret))),res:=[(3,none)]}
def cU:C:=(.its [u (.bin .lss v6 v5)] [] 0 .skip (.exit 0) (.seq (.blk 1 (.seq (.reg [a 1 v4 v6,g l0,w 3 (.mv l0)] []) (.reg [m v2,u (.bin .shl l0 (.c (.t (.int .u64 (8))))),m v3,u (.cv .u64 l0),u (.bin .or l2 l0),w 2 (.mv l0)] []))) (.reg [u (.bin .add v6 (.i 1)),w 6 (.mv l0)] [])))
def fk:C:= .loop true [0,1,3] K.cU
def aR:Fn:={ nargs:=1,vars:=[0,2,3,5,6,7,8],body:=(.seq (.reg [w 1 (.mv (.c (.t (.int .u64 (0)))))] []) (.seq (.reg [w 2 (.mv (.c (.t (.int .u64 (0)))))] []) (.seq (.seq (.reg [w 4 (.mv v0),w 5 (.ln l0),w 6 (.mv (.i 0))] []) (.blk 0 K.fk)) (.seq (.reg [m v2,w 1 (.mv l0)] []) .ret)))),res:=[(1,none)]}
def ao:Fn:={ nargs:=2,vars:=[0,1,2,3,4],body:=(.seq (.reg [w 2 (.bx v0 1),w 3 (.bx v1 1),w 4 (.mv (.c (.und)))] []) (.seq (.ite [g v3,u (.bin .lss l0 (.i 1))] [] 0 .fail .skip) (.seq (.reg [u (.mf N.ai [.v 2,.v 3]),w 4 (.mv l0)] []) .ret))),res:=[(4,none)]}
end Go.Ev.K
namespace Go.Ev
class cA [Lib]:Prop where
 du:Lib.fs N.aL=some K.aL
 hB:Lib.fs N.bB=some K.bB
 eE:Lib.fs N.bC=some K.bC
 fm:Lib.fs N.bG=some K.bG
 eF:Lib.fs N.bl=some K.bl
 ja:Lib.fs N.cm=some K.cm
 dH:Lib.fs N.aQ=some K.aQ
 kd:Lib.fs N.cP=some K.cP
 fo:Lib.fs N.bq=some K.bq
 cK:Lib.fs N.aC=some K.aC
 fp:Lib.fs N.bh=some K.bh
 gq:Lib.fs N.a8=some K.a8
 fq:Lib.fs N.aK=some K.aK
 ft:Lib.fs N.aO=some K.aO
 eG:Lib.fs N.aM=some K.aM
 cX:Lib.fs N.aF=some K.aF
 cY:Lib.fs N.aG=some K.aG
 eH:Lib.fs N.aY=some K.aY
 dP:Lib.fs N.aR=some K.aR
 bH:Lib.fs N.ao=some K.ao
namespace K
variable [Lib] [cA]
theorem du:Lib.fs N.aL=some K.aL:=cA.du
theorem hB:Lib.fs N.bB=some K.bB:=cA.hB
theorem eE:Lib.fs N.bC=some K.bC:=cA.eE
theorem fm:Lib.fs N.bG=some K.bG:=cA.fm
theorem eF:Lib.fs N.bl=some K.bl:=cA.eF
theorem ja:Lib.fs N.cm=some K.cm:=cA.ja
theorem dH:Lib.fs N.aQ=some K.aQ:=cA.dH
theorem kd:Lib.fs N.cP=some K.cP:=cA.kd
theorem fo:Lib.fs N.bq=some K.bq:=cA.fo
theorem cK:Lib.fs N.aC=some K.aC:=cA.cK
theorem fp:Lib.fs N.bh=some K.bh:=cA.fp
theorem gq:Lib.fs N.a8=some K.a8:=cA.gq
theorem fq:Lib.fs N.aK=some K.aK:=cA.fq
theorem ft:Lib.fs N.aO=some K.aO:=cA.ft
theorem eG:Lib.fs N.aM=some K.aM:=cA.eG
theorem cX:Lib.fs N.aF=some K.aF:=cA.cX
theorem cY:Lib.fs N.aG=some K.aG:=cA.cY
theorem eH:Lib.fs N.aY=some K.aY:=cA.eH
theorem dP:Lib.fs N.aR=some K.aR:=cA.dP
theorem bH:Lib.fs N.ao=some K.ao:=cA.bH
end K
end Go.Ev
namespace Go.Ev.K
open Go.Ev
def eI:C:=(.seq (.ite [m v3,m v0,u (.ln l0),u (.bin .lss l2 l0)] [] 0 .skip (.exit 0)) (.seq (.blk 1 (.reg [m v2,u (.bin .shl l0 (.c (.t (.int .u64 (8))))),m v0,m v3,a 1 l1 l0,g l0,u (.cv .i64 l0),u (.bin .or l5 l0),w 2 (.mv l0)] [])) (.reg [m v3,u (.bin .add l0 (.i 1)),w 3 (.mv l0)] [])))
def jb:C:= .loop true [1] K.eI
def bN:Fn:={ nargs:=1,vars:=[0,2,3,4],body:=(.seq (.reg [w 1 (.mv (.i 0))] []) (.seq (.reg [w 2 (.mv (.i 0))] []) (.seq (.seq (.reg [w 3 (.mv (.i 0))] []) (.blk 0 K.jb)) (.seq (.reg [m v2,w 1 (.mv l0)] []) .ret)))),res:=[(1,none)]}
def ai:Fn:={ nargs:=3,vars:=[],body:= .fail,res:=[]}
end Go.Ev.K
namespace Go.Ev
class ke [Lib]:Prop where
 gr:Lib.fs N.bN=some K.bN
 b7:Lib.fs N.ai=some K.ai
namespace K
variable [Lib] [ke]
theorem gr:Lib.fs N.bN=some K.bN:=ke.gr
theorem b7:Lib.fs N.ai=some K.ai:=ke.b7
end K
end Go.Ev
namespace Go.Ev
open Go
variable [Lib] [fc] [eA] [sY] [rL] [oY] [pR] [s9] [r7] [kt] [cA] [ke]
abbrev tB(l:List Int):T:= .sl (l.map (T.int .u8))
structure Rpt where
 reader:Int
 number:Int
 time:Int
 tags:List Int
abbrev Rpt.e(r:Rpt):T:= .agg [tI r.reader,tI r.number,tI r.time,tL r.tags]
structure Frm where
 addr:Int
 kind:Int
 data:List Int
abbrev Frm.e(f:Frm):T:= .agg [tI f.addr,tI f.kind,tB f.data]
structure Itk where
 last:List Int
 lost:List Int
abbrev Itk.e(x:Itk):T:= .agg [tL x.last,tL x.lost]
@[go_sem] theorem AZ (l : List Int) : aD 1 (l.map (T.int .u8)) = true := cO 1 _ (fun _ => rfl) l
@[go_sem] theorem JH (l : List Int) : dJ 1 (l.map (T.int .u8)) = true := by cases l <;> rfl
abbrev dz(l:List Int):Obj:= .arr 1 false 0 ((l.map (T.int .u8)).map .t)
def br(v:Int)(n:Nat):List Int:=(List.range n).map fun k=>v / 256 ^ (n-1-k) % 256
theorem aS(v:Int)(n:Nat):(br v n).length=n:=by simp[br]
theorem jo{v:Int}(hv:0≤v){i:Nat}(hi:i≤7):IntKind.u8.wrap (v.fdiv (2 ^ (8*i)))=v / 256 ^ i % 256:=by
 have e:(2:Int) ^ (8*i)=256 ^ i:=by rw[Int.pow_mul];rfl
 rw[e,Int.fdiv_eq_ediv_of_nonneg _ (Int.pow_nonneg (by omega))]
 simp only[IntKind.wrap,IntKind.bits,IntKind.signed]
 rfl
theorem vi(v:Int){n j:Nat}(hj:j<n):(br v n)[j]?=some (v / 256 ^ (n-1-j) % 256):=by
 unfold br
 rw[List.getElem?_map,List.getElem?_range hj];rfl
theorem hJ(v:Int){n j:Nat}(hj:j<n):(br v n).take (j+1)=(br v n).take j++[v / 256 ^ (n-1-j) % 256]:=by
 rw[List.take_add_one,vi v hj];rfl
theorem vj(v:Int)(hv:0≤v)(n:Nat)(hn:n≤7)(h1:1≤n):cB 1 N.aY [.nil,.t (.int .u64 v),I n] []=some (.ref 0 0 n,[dz (br v n)]):=by
 refine bA K.eH rfl ?_
 have lp:∀z2 z3:D,exS cB K.fj ⟨[.nil,.t (.int .u64 v),z2,z3,I (n-1)],[]⟩=some (.exit 0,⟨[.ref 0 0 n,.t (.int .u64 v),.und,.und,I (-1)],[dz (br v n)]⟩):=by
  intro z2 z3
  refine eB (fun j=>⟨[if j=0 then .nil else .ref 0 0 j,.t (.int .u64 v),.und,.und,I ((n:Int)-1-j)],if j=0 then []else [dz ((br v n).take j)]⟩) n (by simp only[if_true,Int.natCast_zero,Int.sub_zero];rfl) ?_ ?_ (by simp)
  · intro j hj
    have e2:(n:Int)-1-((j+1:Nat):Int)=(n:Int)-1-j-1:=by omega
    have sb:=jo hv (i:=n-1-j) (by omega)
    rw[if_neg (Nat.succ_ne_zero j),if_neg (Nat.succ_ne_zero j),hJ v hj,e2]
    have tl:((br v n).take j).length=j:=by rw[List.length_take,aS];omega
    obtain⟨i,hi⟩:∃i,n-1-j=i:=⟨_,rfl⟩
    have e3:(n:Int)-1-j=i:=by omega
    rw[hi]at sb ⊢
    rw[e3]
    have i7:i≤7:=by omega
    have w8:IntKind.u64.wrap (8*(i:Int))=8*i:=by simp only[IntKind.wrap,IntKind.bits,IntKind.signed];simp;omega
    have mn:min (8*(i:Int)).toNat 64=8*i:=by omega
    generalize (br v n).take j=q at*
    generalize v / 256 ^ i % 256=w at*
    cases j with
    | zero=>
      obtain rfl:q=[]:=List.eq_nil_of_length_eq_zero tl
      simp only[if_true,List.append_nil,dz]
      simp (disch:=omega) only[go_sem,K.bZ,↓reduceIte,List.map_append,List.map_cons,List.map_nil,w8,mn,sb,Nat.reduceAdd,Nat.reduceSub]
    | succ j=>
      rw[if_neg (Nat.succ_ne_zero j),if_neg (Nat.succ_ne_zero j)]
      simp only[dz]
      simp (disch:=omega) only[go_sem,K.bZ,↓reduceIte,tl,List.map_append,List.map_cons,List.map_nil,w8,mn,sb,Nat.reduceAdd,Nat.reduceSub]
  · have e0:(br v n).take n=br v n:=List.take_of_length_le (by rw[aS];omega)
    have e1:(n:Int)-1-n= -1:=by omega
    rw[if_neg (by omega),if_neg (by omega),e0,e1]
    simp (disch:=omega) only[go_sem,K.bZ,↓reduceIte,Nat.reduceAdd,Nat.reduceSub]
 have hl:(br v n).length=n:=aS v n
 generalize br v n=L at*
 simp only[dz]at*
 simp (disch:=omega) only[go_sem,K.aY,↓reduceIte,lp,Nat.reduceAdd,Nat.reduceSub]
theorem o7(bs:List Int)(hb:bs.length≤1000000)(v:Int)(hv:0≤v)(n:Nat)(hn:n≤7):cB 1 N.aY [.ref 0 0 bs.length,.t (.int .u64 v),I n] [dz bs]=some (.ref 0 0 (bs++br v n).length,[dz (bs++br v n)]):=by
 refine bA K.eH rfl ?_
 have lp:∀z2 z3:D,exS cB K.fj ⟨[.ref 0 0 bs.length,.t (.int .u64 v),z2,z3,I (n-1)],[dz bs]⟩=some (.exit 0,⟨[.ref 0 0 (bs++br v n).length,.t (.int .u64 v),.und,.und,I (-1)],[dz (bs++br v n)]⟩):=by
  intro z2 z3
  refine eB (fun j=>⟨[.ref 0 0 (bs++(br v n).take j).length,.t (.int .u64 v),.und,.und,I ((n:Int)-1-j)],[dz (bs++(br v n).take j)]⟩) n (by simp only[Int.natCast_zero,Int.sub_zero,List.take_zero,List.append_nil];rfl) ?_ ?_ (by simp)
  · intro j hj
    have e2:(n:Int)-1-((j+1:Nat):Int)=(n:Int)-1-j-1:=by omega
    have sb:=jo hv (i:=n-1-j) (by omega)
    rw[hJ v hj,e2,←List.append_assoc]
    have tl:(bs++(br v n).take j).length≤1000010:=by rw[List.length_append,List.length_take,aS];omega
    obtain⟨i,hi⟩:∃i,n-1-j=i:=⟨_,rfl⟩
    have e3:(n:Int)-1-j=i:=by omega
    rw[hi]at sb ⊢
    rw[e3]
    have i7:i≤7:=by omega
    have w8:IntKind.u64.wrap (8*(i:Int))=8*i:=by simp only[IntKind.wrap,IntKind.bits,IntKind.signed];simp;omega
    have mn:min (8*(i:Int)).toNat 64=8*i:=by omega
    generalize bs++(br v n).take j=q at*
    generalize v / 256 ^ i % 256=w at*
    simp only[dz,List.length_append,List.length_cons,List.length_nil]
    simp (disch:=omega) only[go_sem,K.bZ,↓reduceIte,List.map_append,List.map_cons,List.map_nil,w8,mn,sb,Nat.reduceAdd,Nat.reduceSub]
  · have e0:(br v n).take n=br v n:=List.take_of_length_le (by rw[aS];omega)
    have e1:(n:Int)-1-n= -1:=by omega
    rw[e0,e1]
    simp (disch:=omega) only[go_sem,K.bZ,↓reduceIte,Nat.reduceAdd,Nat.reduceSub]
 have hl:(bs++br v n).length=bs.length+n:=by rw[List.length_append,aS]
 generalize bs++br v n=L at*
 simp only[dz]at*
 simp (disch:=omega) only[go_sem,K.aY,↓reduceIte,lp,Nat.reduceAdd,Nat.reduceSub]
theorem vk(v:Int)(hv:0≤v)(n:Nat)(hn:n≤7)(h1:1≤n):cB 1 N.aM [.nil,.t (.int .i64 v),I n] []=some (.ref 0 0 n,[dz (br v n)]):=by
 refine bA K.eG rfl ?_
 have lp:∀z2 z3:D,exS cB K.fh ⟨[.nil,.t (.int .i64 v),z2,z3,I (n-1)],[]⟩=some (.exit 0,⟨[.ref 0 0 n,.t (.int .i64 v),.und,.und,I (-1)],[dz (br v n)]⟩):=by
  intro z2 z3
  refine eB (fun j=>⟨[if j=0 then .nil else .ref 0 0 j,.t (.int .i64 v),.und,.und,I ((n:Int)-1-j)],if j=0 then []else [dz ((br v n).take j)]⟩) n (by simp only[if_true,Int.natCast_zero,Int.sub_zero];rfl) ?_ ?_ (by simp)
  · intro j hj
    have e2:(n:Int)-1-((j+1:Nat):Int)=(n:Int)-1-j-1:=by omega
    have sb:=jo hv (i:=n-1-j) (by omega)
    rw[if_neg (Nat.succ_ne_zero j),if_neg (Nat.succ_ne_zero j),hJ v hj,e2]
    have tl:((br v n).take j).length=j:=by rw[List.length_take,aS];omega
    obtain⟨i,hi⟩:∃i,n-1-j=i:=⟨_,rfl⟩
    have e3:(n:Int)-1-j=i:=by omega
    rw[hi]at sb ⊢
    rw[e3]
    have i7:i≤7:=by omega
    have w8:IntKind.u64.wrap (8*(i:Int))=8*i:=by simp only[IntKind.wrap,IntKind.bits,IntKind.signed];simp;omega
    have mn:min (8*(i:Int)).toNat 64=8*i:=by omega
    generalize (br v n).take j=q at*
    generalize v / 256 ^ i % 256=w at*
    cases j with
    | zero=>
      obtain rfl:q=[]:=List.eq_nil_of_length_eq_zero tl
      simp only[if_true,List.append_nil,dz]
      simp (disch:=omega) only[go_sem,K.bY,↓reduceIte,List.map_append,List.map_cons,List.map_nil,w8,mn,sb,Nat.reduceAdd,Nat.reduceSub]
    | succ j=>
      rw[if_neg (Nat.succ_ne_zero j),if_neg (Nat.succ_ne_zero j)]
      simp only[dz]
      simp (disch:=omega) only[go_sem,K.bY,↓reduceIte,tl,List.map_append,List.map_cons,List.map_nil,w8,mn,sb,Nat.reduceAdd,Nat.reduceSub]
  · have e0:(br v n).take n=br v n:=List.take_of_length_le (by rw[aS];omega)
    have e1:(n:Int)-1-n= -1:=by omega
    rw[if_neg (by omega),if_neg (by omega),e0,e1]
    simp (disch:=omega) only[go_sem,K.bY,↓reduceIte,Nat.reduceAdd,Nat.reduceSub]
 have hl:(br v n).length=n:=aS v n
 generalize br v n=L at*
 simp only[dz]at*
 simp (disch:=omega) only[go_sem,K.aM,↓reduceIte,lp,Nat.reduceAdd,Nat.reduceSub]
theorem lF(bs:List Int)(hb:bs.length≤1000000)(v:Int)(hv:0≤v)(n:Nat)(hn:n≤7):cB 1 N.aM [.ref 0 0 bs.length,.t (.int .i64 v),I n] [dz bs]=some (.ref 0 0 (bs++br v n).length,[dz (bs++br v n)]):=by
 refine bA K.eG rfl ?_
 have lp:∀z2 z3:D,exS cB K.fh ⟨[.ref 0 0 bs.length,.t (.int .i64 v),z2,z3,I (n-1)],[dz bs]⟩=some (.exit 0,⟨[.ref 0 0 (bs++br v n).length,.t (.int .i64 v),.und,.und,I (-1)],[dz (bs++br v n)]⟩):=by
  intro z2 z3
  refine eB (fun j=>⟨[.ref 0 0 (bs++(br v n).take j).length,.t (.int .i64 v),.und,.und,I ((n:Int)-1-j)],[dz (bs++(br v n).take j)]⟩) n (by simp only[Int.natCast_zero,Int.sub_zero,List.take_zero,List.append_nil];rfl) ?_ ?_ (by simp)
  · intro j hj
    have e2:(n:Int)-1-((j+1:Nat):Int)=(n:Int)-1-j-1:=by omega
    have sb:=jo hv (i:=n-1-j) (by omega)
    rw[hJ v hj,e2,←List.append_assoc]
    have tl:(bs++(br v n).take j).length≤1000010:=by rw[List.length_append,List.length_take,aS];omega
    obtain⟨i,hi⟩:∃i,n-1-j=i:=⟨_,rfl⟩
    have e3:(n:Int)-1-j=i:=by omega
    rw[hi]at sb ⊢
    rw[e3]
    have i7:i≤7:=by omega
    have w8:IntKind.u64.wrap (8*(i:Int))=8*i:=by simp only[IntKind.wrap,IntKind.bits,IntKind.signed];simp;omega
    have mn:min (8*(i:Int)).toNat 64=8*i:=by omega
    generalize bs++(br v n).take j=q at*
    generalize v / 256 ^ i % 256=w at*
    simp only[dz,List.length_append,List.length_cons,List.length_nil]
    simp (disch:=omega) only[go_sem,K.bY,↓reduceIte,List.map_append,List.map_cons,List.map_nil,w8,mn,sb,Nat.reduceAdd,Nat.reduceSub]
  · have e0:(br v n).take n=br v n:=List.take_of_length_le (by rw[aS];omega)
    have e1:(n:Int)-1-n= -1:=by omega
    rw[e0,e1]
    simp (disch:=omega) only[go_sem,K.bY,↓reduceIte,Nat.reduceAdd,Nat.reduceSub]
 have hl:(bs++br v n).length=bs.length+n:=by rw[List.length_append,aS]
 generalize bs++br v n=L at*
 simp only[dz]at*
 simp (disch:=omega) only[go_sem,K.aM,↓reduceIte,lp,Nat.reduceAdd,Nat.reduceSub]
def cZ(bs:List Int):Int:=bs.foldl (fun v x=>v*256+x) 0
def hT(bs:List Int):Prop:=∀x∈bs,0≤x∧x<256
theorem sw(bs:List Int)(x:Int):cZ (bs++[x])=cZ bs*256+x:=by simp[cZ]
theorem lG:∀(bs:List Int) (v:Int),hT bs→0≤v→0≤bs.foldl (fun v x=>v*256+x) v∧bs.foldl (fun v x=>v*256+x) v<(v+1)*256 ^ bs.length
 | [],v,_,hv=>by simp;omega
 | x::r,v,h,hv=>by
   have hx:=h x (by simp)
   have:=lG r (v*256+x) (fun y hy=>h y (by simp[hy])) (by omega)
   refine⟨this.1,Int.lt_of_lt_of_le this.2 ?_⟩
   rw[List.length_cons,Int.pow_succ,Int.mul_comm (256 ^ r.length) 256,←Int.mul_assoc]
   exact Int.mul_le_mul_of_nonneg_right (by omega) (Int.pow_nonneg (by omega))
theorem GU{m:Nat}(h:m≤6):(256:Int) ^ m≤281474976710656:=by
 have:m=0∨m=1∨m=2∨m=3∨m=4∨m=5∨m=6:=by omega
 rcases this with rfl | rfl | rfl | rfl | rfl | rfl | rfl<;>decide
theorem nX{bs:List Int}(h:hT bs)(hl:bs.length≤6):0≤cZ bs∧cZ bs<281474976710656:=by
 have:=lG bs 0 h (by omega)
 have h2:=GU hl
 unfold cZ
 omega
theorem vl{bs:List Int}(h:hT bs)(hl:bs.length≤5):0≤cZ bs∧cZ bs<1099511627776:=by
 have:=lG bs 0 h (by omega)
 have h2:(256:Int) ^ bs.length≤1099511627776:=by
  generalize bs.length=m at hl
  have:m=0∨m=1∨m=2∨m=3∨m=4∨m=5:=by omega
  rcases this with rfl | rfl | rfl | rfl | rfl | rfl<;>decide
 unfold cZ
 omega
theorem Mo(a x:Nat)(ha:a<1099511627776)(hx:x<256):(BitVec.ofInt 64 ((a*256:Nat):Int) ||| BitVec.ofInt 64 (x:Int)).toNat=a*256+x:=by
 have h1:(BitVec.ofInt 64 ((a*256:Nat):Int)).toNat=a*256:=by
  rw[BitVec.ofInt_natCast,BitVec.toNat_ofNat];exact Nat.mod_eq_of_lt (by omega)
 have h2:(BitVec.ofInt 64 (x:Int)).toNat=x:=by
  rw[BitVec.ofInt_natCast,BitVec.toNat_ofNat];exact Nat.mod_eq_of_lt (by omega)
 rw[BitVec.toNat_or,h1,h2]
 have:a*256=a <<< 8:=by rw[Nat.shiftLeft_eq]
 rw[this,←Nat.shiftLeft_add_eq_or_of_lt (by omega)]
theorem sx{a x:Int}(ha:0≤a)(ha2:a<1099511627776)(hx:0≤x)(hx2:x<256):(BitVec.ofInt 64 (a*256) ||| BitVec.ofInt 64 x).toNat=a*256+x:=by
 obtain⟨a,rfl⟩:=Int.eq_ofNat_of_zero_le ha
 obtain⟨x,rfl⟩:=Int.eq_ofNat_of_zero_le hx
 have:=Mo a x (by omega) (by omega)
 have e:((a:Nat):Int)*256=((a*256:Nat):Int):=by omega
 rw[e,this]
 omega
theorem DM{a:Int}(h:0≤a)(h2:a<18446744073709551616):IntKind.u64.wrap a=a:=by
 simp only[IntKind.wrap,IntKind.bits,IntKind.signed];simp;omega
theorem m8{a:Int}(h:0≤a)(h2:a<9223372036854775808):IntKind.i64.wrap a=a:=by
 simp only[IntKind.wrap,IntKind.bits,IntKind.signed];simp;omega
theorem mO{bs:List Int}(h:hT bs)(hl:bs.length≤6){j:Nat}(hj:j<bs.length):
 0≤cZ (bs.take j)∧cZ (bs.take j)<1099511627776∧0≤nth bs j∧nth bs j<256∧cZ (bs.take (j+1))=cZ (bs.take j)*256+nth bs j:=by
 have hb:hT (bs.take j):=fun x hx=>h x (List.mem_of_mem_take hx)
 have:=vl hb (by rw[List.length_take];omega)
 have hx:=h _ (gn hj)
 refine⟨this.1,this.2,hx.1,hx.2,?_⟩
 rw[lD hj,sw]
theorem kf(bs:List Int)(h:hT bs)(hl:bs.length≤6):cB 0 N.aR [.t (tB bs)] []=some (.t (.int .u64 (cZ bs)),[]):=by
 refine bA K.dP rfl ?_
 have tk:bs.take bs.length=bs:=List.take_length
 have lp:∀z0 z1 z3:D,exS cB K.fk ⟨[z0,z1,.t (.int .u64 0),z3,.t (tB bs),I bs.length,I 0],[]⟩=
  some (.exit 0,⟨[.und,.und,.t (.int .u64 (cZ bs)),.und,.t (tB bs),I bs.length,I bs.length],[]⟩):=by
  intro z0 z1 z3
  refine eB (fun j=>⟨[.und,.und,.t (.int .u64 (cZ (bs.take j))),.und,.t (tB bs),I bs.length,I j],[]⟩) bs.length rfl ?_ ?_ (by simp)
  · intro j hj
    have ex:(bs.map (T.int .u8))[j]?=some (.int .u8 (nth bs j)):=cT _ hj
    obtain⟨a1,a2,x1,x2,st⟩:=mO h hl hj
    have ob:=sx a1 a2 x1 x2
    have e8:(2:Int) ^ min (Int.toNat 8) 64=256:=by decide
    have w1:=DM (a:=cZ (bs.take j)*256) (by omega) (by omega)
    have w2:=DM (a:=nth bs j) (by omega) (by omega)
    have w3:=DM (a:=cZ (bs.take j)*256+nth bs j) (by omega) (by omega)
    rw[st]
    generalize cZ (bs.take j)=a at*
    generalize nth bs j=x at*
    simp (disch:=omega) only[go_sem,K.cU,↓reduceIte,ex,e8,w1,w2,Nat.reduceAdd,Nat.reduceSub]
    erw [ob,w3]
  · rw[tk]
    simp (disch:=omega) only[go_sem,K.cU,↓reduceIte,Nat.reduceAdd,Nat.reduceSub]
 simp (disch:=omega) only[go_sem,K.aR,↓reduceIte,lp,Nat.reduceAdd,Nat.reduceSub]
theorem nY(bs:List Int)(h:hT bs)(hl:bs.length≤6):cB 0 N.bN [.t (tB bs)] []=some (I (cZ bs),[]):=by
 refine bA K.gr rfl ?_
 have tk:bs.take bs.length=bs:=List.take_length
 have lp:∀z1:D,exS cB K.jb ⟨[.t (tB bs),z1,I 0,I 0],[]⟩=
  some (.exit 0,⟨[.t (tB bs),.und,I (cZ bs),I bs.length],[]⟩):=by
  intro z1
  refine eB (fun j=>⟨[.t (tB bs),.und,I (cZ (bs.take j)),I j],[]⟩) bs.length rfl ?_ ?_ (by simp)
  · intro j hj
    have ex:(bs.map (T.int .u8))[j]?=some (.int .u8 (nth bs j)):=cT _ hj
    obtain⟨a1,a2,x1,x2,st⟩:=mO h hl hj
    have ob:=sx a1 a2 x1 x2
    have e8:(2:Int) ^ min (Int.toNat 8) 64=256:=by decide
    have w1:=m8 (a:=cZ (bs.take j)*256) (by omega) (by omega)
    have w2:=m8 (a:=nth bs j) (by omega) (by omega)
    have w3:=m8 (a:=cZ (bs.take j)*256+nth bs j) (by omega) (by omega)
    rw[st]
    generalize cZ (bs.take j)=a at*
    generalize nth bs j=x at*
    simp (disch:=omega) only[go_sem,K.eI,↓reduceIte,ex,e8,w1,w2,Nat.reduceAdd,Nat.reduceSub]
    erw [ob,w3]
  · rw[tk]
    simp (disch:=omega) only[go_sem,K.eI,↓reduceIte,Nat.reduceAdd,Nat.reduceSub]
 simp (disch:=omega) only[go_sem,K.bN,↓reduceIte,lp,Nat.reduceAdd,Nat.reduceSub]
def p5(r:Rpt):Bool:=decide (0≤r.reader∧r.reader≤31)&&(decide (0≤r.number∧r.number≤65535)&&(decide (0≤r.time∧r.time≤2147483648)&&(decide (r.tags.length≤20)&&zJ r.tags 1 65535)))
theorem iG(r:Rpt)(hl:r.tags.length≤1000000):cB 0 N.aK [.t r.e] []=some (B (p5 r),[]):=by
 refine bA K.fq rfl ?_
 have i1:=uD r.reader 0 31
 have i2:=uD r.number 0 65535
 have i3:=uD r.time 0 2147483648
 have i4:=rM r.tags 1 65535 (by omega)
 unfold p5
 obtain⟨reader,number,time,tags⟩:=r
 simp only at*
 generalize zJ tags 1 65535=b4 at*
 generalize decide (0≤reader∧reader≤31)=b1 at*
 generalize decide (0≤number∧number≤65535)=b2 at*
 generalize decide (0≤time∧time≤2147483648)=b3 at*
 cases b1 with
 | false=>simp (disch:=omega) only[go_sem,K.aK,↓reduceIte,i1,Bool.false_and,Nat.reduceAdd,Nat.reduceSub]
 | true=>
   cases b2 with
   | false=>simp (disch:=omega) only[go_sem,K.aK,↓reduceIte,i1,i2,Bool.false_and,Bool.true_and,Nat.reduceAdd,Nat.reduceSub]
   | true=>
     cases b3 with
     | false=>simp (disch:=omega) only[go_sem,K.aK,↓reduceIte,i1,i2,i3,Bool.false_and,Bool.true_and,Nat.reduceAdd,Nat.reduceSub]
     | true=>
       by_cases c:tags.length≤20
       · simp (disch:=omega) only[go_sem,K.aK,↓reduceIte,i1,i2,i3,i4,c,decide_true,Bool.true_and,Nat.reduceAdd,Nat.reduceSub]
       · simp (disch:=omega) only[go_sem,K.aK,↓reduceIte,i1,i2,i3,c,decide_false,Bool.true_and,Bool.false_and,Nat.reduceAdd,Nat.reduceSub]
theorem kg(r:Rpt)(hl:r.tags.length≤1000000):cB 0 N.az [.t r.e] []=some (B (p5 r),[]):=by
 refine bA K.eD rfl ?_
 have lp:=fun z0 z2:D=>mM (gc:=true) (dead:=[0,2]) (c:=K.aX) (vs:=[z0,.bp 0 0,z2,I 0]) (H:=[.box [I r.reader,I r.number,I r.time,.t (tL r.tags)]])
  (fun j=>⟨[.und,.bp 0 0,.und,I j],[.box [I r.reader,I r.number,I r.time,.t (tL r.tags)]]⟩) r.tags.length (nT r.tags 1 65535)
  (fun j=>(.ret,⟨[.und,.bp 0 0,B false,I j],[.box [I r.reader,I r.number,I r.time,.t (tL r.tags)]]⟩))
  (.exit 0,⟨[.und,.bp 0 0,.und,I r.tags.length],[.box [I r.reader,I r.number,I r.time,.t (tL r.tags)]]⟩) rfl
  (fun j hj hq=>by
   have ex:(r.tags.map (T.int .i64))[j]?=some (.int .i64 (nth r.tags j)):=cT _ hj
   obtain⟨reader,number,time,tags⟩:=r
   simp only[nT,Bool.not_eq_false',decide_eq_true_eq]at*
   obtain⟨q1,q2,q3⟩:=hq
   cases j with
   | zero=>
     generalize nth tags 0=y at*
     simp (disch:=omega) only[go_sem,K.aX,↓reduceIte,ex,List.map_cons,List.map_nil,Nat.reduceAdd,Nat.reduceSub]
   | succ j=>
     have ex2:(tags.map (T.int .i64))[j]?=some (.int .i64 (nth tags j)):=cT _ (by omega)
     have q4:=q3 (by omega)
     simp only[Nat.add_sub_cancel]at q4
     clear q3
     generalize nth tags (j+1)=y at*
     generalize nth tags j=x at*
     have e:((j+1:Nat):Int)-1=j:=by omega
     have g:((j+1:Nat):Int)>0:=by omega
     simp (disch:=omega) only[go_sem,K.aX,↓reduceIte,ex,ex2,e,g,Nat.reduceAdd,Nat.reduceSub]
   )
  (fun j hj hq=>by
   have ex:(r.tags.map (T.int .i64))[j]?=some (.int .i64 (nth r.tags j)):=cT _ hj
   obtain⟨reader,number,time,tags⟩:=r
   simp only[nT,Bool.not_eq_true',decide_eq_false_iff_not]at*
   refine⟨?_,by simp⟩
   by_cases c1:nth tags j<1
   · simp (disch:=omega) only[go_sem,K.aX,↓reduceIte,ex,c1,Nat.reduceAdd,Nat.reduceSub]
   · by_cases c2:nth tags j>65535
     · simp (disch:=omega) only[go_sem,K.aX,↓reduceIte,ex,c1,c2,Nat.reduceAdd,Nat.reduceSub]
     · cases j with
       | zero=>exact absurd ⟨by omega,by omega,fun h=>by omega⟩ hq
       | succ j=>
         have ex2:(tags.map (T.int .i64))[j]?=some (.int .i64 (nth tags j)):=cT _ (by omega)
         have q4:nth tags (j+1)≤nth tags j:=by
          rcases Int.lt_or_le (nth tags j) (nth tags (j+1))with h | h
          · exact absurd ⟨by omega,by omega,fun _=>h⟩ hq
          · exact h
         clear hq
         generalize nth tags (j+1)=y at*
         generalize nth tags j=x at*
         have e:((j+1:Nat):Int)-1=j:=by omega
         have g:((j+1:Nat):Int)>0:=by omega
         simp (disch:=omega) only[go_sem,K.aX,↓reduceIte,ex,ex2,e,g,c1,c2,Nat.reduceAdd,Nat.reduceSub]
   )
  (by
   obtain⟨reader,number,time,tags⟩:=r
   simp (disch:=omega) only[go_sem,K.aX,↓reduceIte,Nat.reduceAdd,Nat.reduceSub]
   ) (by simp)
 have lp2:∀z0 z2:D,exS cB K.fT _=_:=lp
 clear lp
 unfold p5 zJ
 cases hq:(List.range r.tags.length).any (nT r.tags 1 65535)with
 | true=>
   rw[hq]at lp2
   simp only[if_true]at lp2
   generalize kR r.tags.length (nT r.tags 1 65535)=j at*
   obtain⟨reader,number,time,tags⟩:=r
   simp only[Bool.not_true,Bool.and_false]at*
   simp (disch:=omega) only[go_sem,K.az,↓reduceIte,lp2,Nat.reduceAdd,Nat.reduceSub]
 | false=>
   rw[hq]at lp2
   simp only[Bool.false_eq_true,if_false]at lp2
   obtain⟨reader,number,time,tags⟩:=r
   simp only[Bool.not_false,Bool.and_true]at*
   by_cases c1:0≤reader
   · by_cases c2:reader≤31
     · rw[decide_eq_true (show 0≤reader∧reader≤31 from⟨c1,c2⟩)]
       by_cases c3:0≤number
       · by_cases c4:number≤65535
         · rw[decide_eq_true (show 0≤number∧number≤65535 from⟨c3,c4⟩)]
           by_cases c5:0≤time
           · by_cases c6:time≤2147483648
             · rw[decide_eq_true (show 0≤time∧time≤2147483648 from⟨c5,c6⟩)]
               simp only[Bool.true_and]
               by_cases c7:tags.length≤20
               · rw[decide_eq_true c7]
                 simp (disch:=omega) only[go_sem,K.az,↓reduceIte,lp2,Nat.reduceAdd,Nat.reduceSub]
               · rw[decide_eq_false c7]
                 simp (disch:=omega) only[go_sem,K.az,↓reduceIte,lp2,Nat.reduceAdd,Nat.reduceSub]
             · rw[decide_eq_false (show ¬(0≤time∧time≤2147483648)from fun h=>c6 h.2)]
               simp only[Bool.true_and,Bool.false_and]
               simp (disch:=omega) only[go_sem,K.az,↓reduceIte,lp2,Nat.reduceAdd,Nat.reduceSub]
           · rw[decide_eq_false (show ¬(0≤time∧time≤2147483648)from fun h=>c5 h.1)]
             simp only[Bool.true_and,Bool.false_and]
             simp (disch:=omega) only[go_sem,K.az,↓reduceIte,lp2,Nat.reduceAdd,Nat.reduceSub]
         · rw[decide_eq_false (show ¬(0≤number∧number≤65535)from fun h=>c4 h.2)]
           simp only[Bool.true_and,Bool.false_and]
           simp (disch:=omega) only[go_sem,K.az,↓reduceIte,lp2,Nat.reduceAdd,Nat.reduceSub]
       · rw[decide_eq_false (show ¬(0≤number∧number≤65535)from fun h=>c3 h.1)]
         simp only[Bool.true_and,Bool.false_and]
         simp (disch:=omega) only[go_sem,K.az,↓reduceIte,lp2,Nat.reduceAdd,Nat.reduceSub]
     · rw[decide_eq_false (show ¬(0≤reader∧reader≤31)from fun h=>c2 h.2)]
       simp only[Bool.false_and]
       simp (disch:=omega) only[go_sem,K.az,↓reduceIte,lp2,Nat.reduceAdd,Nat.reduceSub]
   · rw[decide_eq_false (show ¬(0≤reader∧reader≤31)from fun h=>c1 h.1)]
     simp only[Bool.false_and]
     simp (disch:=omega) only[go_sem,K.az,↓reduceIte,lp2,Nat.reduceAdd,Nat.reduceSub]
def eJ(l:List Int):List Int:=l.flatMap fun t=>br t 2
def dQ(r:Rpt):List Int:=br r.number 2++br r.time 6++[(r.tags.length:Int)]
def iH(r:Rpt):List Int:=dQ r++eJ r.tags
def hU(r:Rpt):Frm×Int:=if p5 r then(⟨r.reader,9,iH r⟩,0)else(⟨0,0,[]⟩,6)
theorem hX:∀l:List Int,(eJ l).length=2*l.length
 | []=>rfl
 | x::l=>by simp only[eJ,List.flatMap_cons,List.length_append,aS,List.length_cons];have:=hX l;unfold eJ at this;omega
theorem eb(r:Rpt):(dQ r).length=9:=by simp[dQ,aS]
theorem mP(r:Rpt):(iH r).length=9+2*r.tags.length:=by rw[iH,List.length_append,eb,hX]
structure Rpt.ok(r:Rpt):Prop where
 r1:0≤r.reader
 r2:r.reader≤31
 n1:0≤r.number
 n2:r.number≤65535
 t1:0≤r.time
 t2:r.time≤2147483648
 l:r.tags.length≤20
 g1:∀x∈r.tags,1≤x
 g2:∀x∈r.tags,x≤65535
theorem sy{l:List Int}{lo hi:Int}(h:zJ l lo hi=true){x:Int}(hx:x∈l):lo≤x∧x≤hi:=by
 unfold zJ at h
 rw[Bool.not_eq_true',List.any_eq_false]at h
 obtain⟨j,hj,rfl⟩:=List.getElem_of_mem hx
 have:=h j (List.mem_range.2 hj)
 simp only[nT,Bool.not_eq_true',decide_eq_false_iff_not,Decidable.not_not]at this
 rw[Gb (List.getElem?_eq_getElem hj)]at this
 exact⟨this.1,this.2.1⟩
theorem sA{r:Rpt}(h:p5 r=true):r.ok:=by
 simp only[p5,Bool.and_eq_true,decide_eq_true_eq]at h
 obtain⟨⟨a1,a2⟩,⟨b1,b2⟩,⟨c1,c2⟩,d,e⟩:=h
 exact⟨a1,a2,b1,b2,c1,c2,d,fun x hx=>(sy e hx).1,fun x hx=>(sy e hx).2⟩
theorem kT(l:List Int)(x:Int):eJ (l++[x])=eJ l++br x 2:=by simp[eJ]
theorem GV(v:Int)(hv:0≤v):cB 1 N.aY [.nil,.t (.int .u64 v),I 2] []=some (.ref 0 0 2,[dz (br v 2)]):=vj v hv 2 (by omega) (by omega)
theorem GW(bs:List Int)(hb:bs.length≤1000000)(v:Int)(hv:0≤v):cB 1 N.aY [.ref 0 0 bs.length,.t (.int .u64 v),I 2] [dz bs]=some (.ref 0 0 (bs++br v 2).length,[dz (bs++br v 2)]):=o7 bs hb v hv 2 (by omega)
theorem GX(bs:List Int)(hb:bs.length≤1000000)(v:Int)(hv:0≤v):cB 1 N.aY [.ref 0 0 bs.length,.t (.int .u64 v),I 6] [dz bs]=some (.ref 0 0 (bs++br v 6).length,[dz (bs++br v 6)]):=o7 bs hb v hv 6 (by omega)
theorem GY(v:Int)(hv:0≤v):cB 1 N.aM [.nil,I v,I 2] []=some (.ref 0 0 2,[dz (br v 2)]):=vk v hv 2 (by omega) (by omega)
theorem GZ(bs:List Int)(hb:bs.length≤1000000)(v:Int)(hv:0≤v):cB 1 N.aM [.ref 0 0 bs.length,I v,I 2] [dz bs]=some (.ref 0 0 (bs++br v 2).length,[dz (bs++br v 2)]):=lF bs hb v hv 2 (by omega)
theorem G0(bs:List Int)(hb:bs.length≤1000000)(v:Int)(hv:0≤v):cB 1 N.aM [.ref 0 0 bs.length,I v,I 6] [dz bs]=some (.ref 0 0 (bs++br v 6).length,[dz (bs++br v 6)]):=lF bs hb v hv 6 (by omega)
theorem G1(bs:List Int)(hb:bs.length≤1000000)(v:Int)(hv:0≤v):cB 1 N.aM [.ref 0 0 bs.length,I v,I 1] [dz bs]=some (.ref 0 0 (bs++br v 1).length,[dz (bs++br v 1)]):=lF bs hb v hv 1 (by omega)
theorem Mp{v:Int}(h:0≤v)(h2:v<256):br v 1=[v]:=by
 have e:v / 256 ^ (1-1-0) % 256=v:=by
  rw[show(256:Int) ^ (1-1-0)=1 from rfl];omega
 unfold br
 rw[show List.range 1=[0]from rfl,List.map_cons,List.map_nil,e]
abbrev tgH(r:Rpt)(L:List Int):ab:=[.box [I r.reader,I r.number,I r.time,.t (tL r.tags)],.box [I 0,I 0,.nil],dz L]
theorem p6(r:Rpt)(hl:r.tags.length≤1000000):cB 0 N.bq [.t r.e] []=some (.tup [.t (hU r).1.e,I (hU r).2],[]):=by
 refine bA K.fo rfl ?_
 have va:=iG r hl
 unfold hU
 cases hb:p5 r with
 | false=>
   rw[hb]at va
   rw[if_neg (by simp)]
   obtain⟨reader,number,time,tags⟩:=r
   simp (disch:=omega) only[go_sem,K.bq,↓reduceIte,va,Nat.reduceAdd,Nat.reduceSub]
   rfl
 | true=>
   rw[hb]at va
   rw[if_pos rfl]
   have ok:=sA hb
   have tk:r.tags.take r.tags.length=r.tags:=List.take_length
   have ln:(r.tags.length:Int)≤20:=by have:=ok.l;omega
   have p1:=GV r.number ok.n1
   have p2:=GX (br r.number 2) (by rw[aS];omega) r.time ok.t1
   have q1:(br r.number 2).length=2:=aS _ _
   have q2:(br r.number 2++br r.time 6).length=8:=by rw[List.length_append,aS,aS]
   rw[q1,q2]at p2
   have lp:∀z0 z3 z5:D,exS cB K.gY ⟨[z0,.bp 0 0,.bp 1 0,z3,.ref 2 0 (dQ r).length,z5,.t (tL r.tags),I r.tags.length,I 0],tgH r (dQ r)⟩=
    some (.exit 0,⟨[.und,.bp 0 0,.bp 1 0,.und,.ref 2 0 (iH r).length,.und,.t (tL r.tags),I r.tags.length,I r.tags.length],tgH r (iH r)⟩):=by
    intro z0 z3 z5
    refine eB (fun j=>⟨[.und,.bp 0 0,.bp 1 0,.und,.ref 2 0 (dQ r++eJ (r.tags.take j)).length,.und,.t (tL r.tags),I r.tags.length,I j],tgH r (dQ r++eJ (r.tags.take j))⟩) r.tags.length rfl ?_ ?_ (by simp)
    · intro j hj
      have ex:(r.tags.map (T.int .i64))[j]?=some (.int .i64 (nth r.tags j)):=cT _ hj
      have t1:=ok.g1 _ (gn hj)
      have t2:=ok.g2 _ (gn hj)
      have w:=DM (a:=nth r.tags j) (by omega) (by omega)
      have tl:(dQ r++eJ (r.tags.take j)).length≤1000:=by
       have:=ok.l
       rw[List.length_append,eb,hX,List.length_take];omega
      have pp:=GW (dQ r++eJ (r.tags.take j)) (by omega) (nth r.tags j) (by omega)
      rw[lD hj,kT,←List.append_assoc]
      generalize dQ r++eJ (r.tags.take j)=q at*
      generalize nth r.tags j=y at*
      generalize q++br y 2=qq at*
      obtain⟨reader,number,time,tags⟩:=r
      simp only[tgH,dz]at*
      simp (disch:=omega) only[go_sem,K.dN,↓reduceIte,ex,w,pp,Nat.reduceAdd,Nat.reduceSub]
    · have e:dQ r++eJ r.tags=iH r:=rfl
      rw[tk,e]
      generalize iH r=q at*
      obtain⟨reader,number,time,tags⟩:=r
      simp only[tgH,dz]at*
      simp (disch:=omega) only[go_sem,K.dN,↓reduceIte,Nat.reduceAdd,Nat.reduceSub]
   have w1:=DM (a:=r.number) (by have:=ok.n1;omega) (by have:=ok.n2;omega)
   have w2:=DM (a:=r.time) (by have:=ok.t1;omega) (by have:=ok.t2;omega)
   have w3:IntKind.u8.wrap (r.tags.length:Int)=r.tags.length:=by
    simp only[IntKind.wrap,IntKind.bits,IntKind.signed];simp;omega
   have hh:dQ r=br r.number 2++br r.time 6++[(r.tags.length:Int)]:=rfl
   have hd:=mP r
   have dl:=ok.l
   simp only[eb]at lp
   rw[hh]at lp
   generalize iH r=dd at*
   obtain⟨reader,number,time,tags⟩:=r
   simp only at*
   generalize br number 2++br time 6=l8 at*
   generalize br number 2=l2 at*
   simp only[tgH,dz,List.length_append,List.length_cons,List.length_nil,List.map_append,List.map_cons,List.map_nil]at*
   simp (disch:=omega) only[go_sem,K.bq,↓reduceIte,va,w1,p1,w2,p2,w3,q1,q2,lp,List.map_append,List.map_cons,List.map_nil,Nat.reduceAdd,Nat.reduceSub]
theorem nZ(r:Rpt)(hl:r.tags.length≤1000000):cB 0 N.bl [.t r.e] []=some (.tup [.t (hU r).1.e,I (hU r).2],[]):=by
 refine bA K.eF rfl ?_
 have va:=kg r hl
 unfold hU
 cases hb:p5 r with
 | false=>
   rw[hb]at va
   rw[if_neg (by simp)]
   obtain⟨reader,number,time,tags⟩:=r
   simp (disch:=omega) only[go_sem,K.bl,↓reduceIte,va,Nat.reduceAdd,Nat.reduceSub]
   rfl
 | true=>
   rw[hb]at va
   rw[if_pos rfl]
   have ok:=sA hb
   have tk:r.tags.take r.tags.length=r.tags:=List.take_length
   have ln:(r.tags.length:Int)≤20:=by have:=ok.l;omega
   have p1:=GY r.number ok.n1
   have p2:=G0 (br r.number 2) (by rw[aS];omega) r.time ok.t1
   have q1:(br r.number 2).length=2:=aS _ _
   have q2:(br r.number 2++br r.time 6).length=8:=by rw[List.length_append,aS,aS]
   rw[q1,q2]at p2
   have lp:∀z0 z3:D,exS cB K.fU ⟨[z0,.bp 0 0,.bp 1 0,z3,.ref 2 0 (dQ r).length,I 0],tgH r (dQ r)⟩=
    some (.exit 0,⟨[.und,.bp 0 0,.bp 1 0,.und,.ref 2 0 (iH r).length,I r.tags.length],tgH r (iH r)⟩):=by
    intro z0 z3
    refine eB (fun j=>⟨[.und,.bp 0 0,.bp 1 0,.und,.ref 2 0 (dQ r++eJ (r.tags.take j)).length,I j],tgH r (dQ r++eJ (r.tags.take j))⟩) r.tags.length rfl ?_ ?_ (by simp)
    · intro j hj
      have ex:(r.tags.map (T.int .i64))[j]?=some (.int .i64 (nth r.tags j)):=cT _ hj
      have t1:=ok.g1 _ (gn hj)
      have t2:=ok.g2 _ (gn hj)
      have tl:(dQ r++eJ (r.tags.take j)).length≤1000:=by
       have:=ok.l
       rw[List.length_append,eb,hX,List.length_take];omega
      have pp:=GZ (dQ r++eJ (r.tags.take j)) (by omega) (nth r.tags j) (by omega)
      rw[lD hj,kT,←List.append_assoc]
      generalize dQ r++eJ (r.tags.take j)=q at*
      generalize nth r.tags j=y at*
      generalize q++br y 2=qq at*
      obtain⟨reader,number,time,tags⟩:=r
      simp only[tgH,dz]at*
      simp (disch:=omega) only[go_sem,K.dt,↓reduceIte,ex,pp,Nat.reduceAdd,Nat.reduceSub]
    · have e:dQ r++eJ r.tags=iH r:=rfl
      rw[tk,e]
      generalize iH r=q at*
      obtain⟨reader,number,time,tags⟩:=r
      simp only[tgH,dz]at*
      simp (disch:=omega) only[go_sem,K.dt,↓reduceIte,Nat.reduceAdd,Nat.reduceSub]
   have p3:=G1 (br r.number 2++br r.time 6) (by rw[q2];omega) r.tags.length (by omega)
   rw[Mp (by omega) (by omega),q2]at p3
   have hh:dQ r=br r.number 2++br r.time 6++[(r.tags.length:Int)]:=rfl
   have hd:=mP r
   have dl:=ok.l
   have h9:=eb r
   simp only[eb]at lp
   rw[hh]at lp h9
   rw[h9]at p3
   generalize iH r=dd at*
   obtain⟨reader,number,time,tags⟩:=r
   simp only at*
   generalize br number 2++br time 6++[(tags.length:Int)]=l9 at*
   generalize br number 2++br time 6=l8 at*
   generalize br number 2=l2 at*
   simp only[tgH,dz]at*
   simp (disch:=omega) only[go_sem,K.bl,↓reduceIte,va,p1,p2,p3,q1,q2,lp,Nat.reduceAdd,Nat.reduceSub]
def txt(l:List Int):ByteArray:=⟨(l.map fun n=>UInt8.ofNat n.toNat).toArray⟩
def A0(H:ab)(a:D):Option (D×ab):=(lO a).map fun d=>(d,H)
@[go_sem] theorem Nz (call : ah) (get : X → Option D) (H : ab) (x : X) : evO call get H (.bst x) = (get x).bind (A0 H) := (rfl)
theorem mQ:∀l:List Int,aH byteOf (l.map (T.int .u8))=some (l.map fun n=>UInt8.ofNat n.toNat)
 | []=>rfl
 | x::l=>by simp only[List.map_cons,aH,byteOf,mQ l,Option.bind_some,Option.map_some]
@[go_sem] theorem JI (H : ab) (l : List Int) : A0 H (.t (.sl (l.map (T.int .u8)))) = some (.t (.str (txt l)), H) := by
 simp only[A0,lO,mQ,Option.map_some,txt]
@[go_sem] theorem G2 (H : ab) (a b : ByteArray) : fH H .str false (some (.t (.str a))) (some (.t (.str b))) = some (.t (.bool (a == b)), H) := (rfl)
theorem Oq(a b:ByteArray):(a==b)=decide (a=b):=by
 obtain⟨a⟩:=a;obtain⟨b⟩:=b
 show ByteArray.beq _ _=_
 unfold ByteArray.beq
 simp only[ByteArray.mk.injEq]
 rw[Bool.eq_iff_iff]
 simp
def o8(a b:Frm):Bool:=decide (a.addr=b.addr)&&(decide (a.kind=b.kind)&&(txt a.data==txt b.data))
theorem mR(a b:Frm):cB 0 N.aC [.t a.e,.t b.e] []=some (B (o8 a b),[]):=by
 refine bA K.cK rfl ?_
 obtain⟨a1,a2,a3⟩:=a
 obtain⟨b1,b2,b3⟩:=b
 simp only[o8]
 by_cases c1:a1=b1
 · by_cases c2:a2=b2
   · simp (disch:=omega) only[go_sem,K.aC,↓reduceIte,c1,c2,decide_true,Bool.true_and,Nat.reduceAdd,Nat.reduceSub]
   · simp (disch:=omega) only[go_sem,K.aC,↓reduceIte,c1,c2,decide_true,decide_false,Bool.true_and,Bool.false_and,Nat.reduceAdd,Nat.reduceSub]
 · simp (disch:=omega) only[go_sem,K.aC,↓reduceIte,c1,decide_false,Bool.false_and,Nat.reduceAdd,Nat.reduceSub]
theorem n0(a:Frm):o8 a a=true:=by simp[o8,Oq]
def o9(a b:Rpt):Bool:=decide (a.reader=b.reader)&&(decide (a.number=b.number)&&(decide (a.time=b.time)&&decide (a.tags=b.tags)))
theorem sB(a b:Rpt)(hl:a.tags.length≤1000000):cB 0 N.bh [.t a.e,.t b.e] []=some (B (o9 a b),[]):=by
 refine bA K.fp rfl ?_
 have s:=zu a.tags b.tags (by omega)
 obtain⟨a1,a2,a3,a4⟩:=a
 obtain⟨b1,b2,b3,b4⟩:=b
 simp only[o9]at*
 by_cases c1:a1=b1
 · by_cases c2:a2=b2
   · by_cases c3:a3=b3
     · simp (disch:=omega) only[go_sem,K.bh,↓reduceIte,c1,c2,c3,s,decide_true,Bool.true_and,Nat.reduceAdd,Nat.reduceSub]
     · simp (disch:=omega) only[go_sem,K.bh,↓reduceIte,c1,c2,c3,decide_true,decide_false,Bool.true_and,Bool.false_and,Nat.reduceAdd,Nat.reduceSub]
   · simp (disch:=omega) only[go_sem,K.bh,↓reduceIte,c1,c2,decide_true,decide_false,Bool.true_and,Bool.false_and,Nat.reduceAdd,Nat.reduceSub]
 · simp (disch:=omega) only[go_sem,K.bh,↓reduceIte,c1,decide_false,Bool.false_and,Nat.reduceAdd,Nat.reduceSub]
theorem n5(a:Rpt):o9 a a=true:=by simp[o9]
theorem p7(r:Rpt)(hl:r.tags.length≤1000000):cB 0 N.bC [.t r.e] []=some (B true,[]):=by
 refine bA K.eE rfl ?_
 have w1:=p6 r hl
 have w2:=nZ r hl
 have v1:=iG r hl
 have v2:=kg r hl
 have sf:=mR (hU r).1 (hU r).1
 rw[n0]at sf
 generalize hU r=q at*
 obtain⟨⟨f1,f2,f3⟩,e⟩:=q
 generalize p5 r=b at*
 obtain⟨reader,number,time,tags⟩:=r
 simp only at*
 simp (disch:=omega) only[go_sem,K.bC,↓reduceIte,w1,w2,v1,v2,sf,beq_self_eq_true,decide_true,Nat.reduceAdd,Nat.reduceSub]
theorem A1(l:List Int):cB 0 N.ao [.t (tB l),I 2] []=some (.fn N.ai [.bp 0 0,.bp 1 0],[.box [.t (tB l)],.box [I 2]]):=by
 refine bA K.bH rfl ?_
 simp (disch:=omega) only[go_sem,K.ao,↓reduceIte,Nat.reduceAdd,Nat.reduceSub]
def p8(d:List Int)(i:Nat):Int:=cZ ((d.drop (9+2*i)).take 2)
def dv(d:List Int)(k:Nat):List Int:=(List.range k).map (p8 d)
def lH(f:Frm):Rpt:=⟨f.addr,cZ (f.data.take 2),cZ ((f.data.drop 2).take 6),dv f.data ((f.data.length-9) / 2)⟩
def p9:Rpt:=⟨0,0,0,[]⟩
def kh(f:Frm):Rpt×Int:=
 if f.kind≠9 then(p9,5)
 else if ¬(0≤f.addr∧f.addr≤31)then(p9,40)
 else if f.data.length<9∨(f.data.length:Int)≠9+2*nth f.data 8 then(p9,6)
 else if p5 (lH f)then(lH f,0)else(p9,6)
theorem b5{d:List Int}(h:hT d)(a b:Nat):hT ((d.drop a).take b):=fun x hx=>h x (List.mem_of_mem_drop (List.mem_of_mem_take hx))
theorem kj(d:List Int)(k:Nat):dv d (k+1)=dv d k++[p8 d k]:=by
 unfold dv;rw[List.range_succ,List.map_append];rfl
theorem cL(d:List Int)(k:Nat):(dv d k).length=k:=by simp[dv]
abbrev z4:List D:=[I 0,I 0,I 0,.nil]
abbrev DN(f:Frm)(n t:Int)(L:List Int):ab:=[.box [I f.addr,I f.kind,.t (tB f.data)],.box z4,.box [I f.addr,I n,I t,.ref 4 0 L.length],.arr 1 false 0 [],.arr 1 false 0 ((L.map (T.int .i64)).map .t)]
theorem qa(f:Frm)(hb:hT f.data)(hl:f.data.length≤1000):cB 0 N.aO [.t f.e] []=some (.tup [.t (kh f).1.e,I (kh f).2],[]):=by
 refine bA K.ft rfl ?_
 unfold kh
 by_cases c1:f.kind=9
 · rw[if_neg (by simpa using c1)]
   by_cases c2:0≤f.addr∧f.addr≤31
   · rw[if_neg (by simpa using c2)]
     by_cases c3:f.data.length<9
     · rw[if_pos (.inl c3)]
       obtain⟨addr,kind,data⟩:=f
       simp only at*
       simp (disch:=omega) only[go_sem,K.aO,↓reduceIte,c1,Nat.reduceAdd,Nat.reduceSub]
       rfl
     · have e8:(f.data.map (T.int .u8))[8]?=some (.int .u8 (nth f.data 8)):=cT _ (by omega)
       have b8:=hb _ (gn (l:=f.data) (j:=8) (by omega))
       have w8:=m8 (a:=nth f.data 8) (by omega) (by omega)
       by_cases c4:(f.data.length:Int)=9+2*nth f.data 8
       · rw[if_neg (by rintro (h | h);exact c3 h;exact h c4)]
         have g1:=nY (f.data.take 2) (by simpa using b5 hb 0 2) (by rw[List.length_take];omega)
         have g2:=nY ((f.data.drop 2).take 6) (b5 hb 2 6) (by rw[List.length_take];omega)
         obtain⟨k,hk⟩:∃k:Nat,nth f.data 8=k:=Int.eq_ofNat_of_zero_le b8.1
         have hk2:(f.data.length-9) / 2=k:=by omega
         have rv:=kg (lH f) (by unfold lH;simp only;rw[cL];omega)
         unfold lH at*
         rw[hk2]at*
         have w9:=m8 (a:=2*nth f.data 8) (by omega) (by omega)
         have w10:=m8 (a:=9+2*nth f.data 8) (by omega) (by omega)
         have t8:Int.toNat 8=8:=rfl
         obtain⟨addr,kind,data⟩:=f
         simp only at*
         subst c1
         have tk2:(data.map (T.int .u8)).take 2=(data.take 2).map (T.int .u8):=List.map_take.symm
         have tk6:((data.map (T.int .u8)).drop 2).take 6=((data.drop 2).take 6).map (T.int .u8):=by rw[List.map_take,List.map_drop]
         have lp:∀z0 z1 z3:D,exS cB K.gZ ⟨[z0,z1,.bp 1 0,z3,.t (tB data),.bp 2 0,I 0],DN ⟨addr,9,data⟩ (cZ (data.take 2)) (cZ ((data.drop 2).take 6)) []⟩=
          some (.exit 1,⟨[.und,.und,.bp 1 0,.und,.t (tB data),.bp 2 0,I k],DN ⟨addr,9,data⟩ (cZ (data.take 2)) (cZ ((data.drop 2).take 6)) (dv data k)⟩):=by
          intro z0 z1 z3
          refine eB (fun j=>⟨[.und,.und,.bp 1 0,.und,.t (tB data),.bp 2 0,I j],DN ⟨addr,9,data⟩ (cZ (data.take 2)) (cZ ((data.drop 2).take 6)) (dv data j)⟩) k rfl ?_ ?_ (by simp)
          · intro j hj
            have pg:=nY ((data.drop (9+2*j)).take 2) (b5 hb _ _) (by rw[List.length_take];omega)
            have pl:=cL data j
            have px:cZ ((data.drop (9+2*j)).take 2)=p8 data j:=rfl
            rw[px]at pg
            rw[kj]
            have n1:(9+2*(j:Int)).toNat=9+2*j:=by omega
            have n2:(11+2*(j:Int)).toNat=11+2*j:=by omega
            have n3:11+2*j-(9+2*j)=2:=by omega
            have tkj:((data.map (T.int .u8)).drop (9+2*j)).take 2=((data.drop (9+2*j)).take 2).map (T.int .u8):=by rw[List.map_take,List.map_drop]
            generalize p8 data j=y at*
            generalize dv data j=L at*
            generalize cZ (data.take 2)=nn at*
            generalize cZ ((data.drop 2).take 6)=tt at*
            simp only[DN,List.length_append,List.length_cons,List.length_nil]at*
            simp (disch:=omega) only[go_sem,K.dO,↓reduceIte,e8,t8,w8,hk,n1,n2,n3,tkj,pg,List.map_append,List.map_cons,List.map_nil,Nat.reduceAdd,Nat.reduceSub]
          · generalize dv data k=L at*
            simp only[DN]at*
            simp (disch:=omega) only[go_sem,K.dO,↓reduceIte,e8,t8,w8,hk,Nat.reduceAdd,Nat.reduceSub]
         have pl:=cL data k
         generalize dv data k=L at*
         generalize cZ (data.take 2)=nn at*
         generalize cZ ((data.drop 2).take 6)=tt at*
         simp only[DN,List.length_nil,List.map_nil]at*
         cases hv:p5 ⟨addr,nn,tt,L⟩with
         | true=>
           rw[hv]at rv
           simp (disch:=omega) only[go_sem,K.aO,↓reduceIte,e8,t8,w8,w9,w10,c4,tk2,g1,tk6,g2,lp,rv,Nat.reduceAdd,Nat.reduceSub]
         | false=>
           rw[hv]at rv
           simp (disch:=omega) only[go_sem,K.aO,↓reduceIte,e8,t8,w8,w9,w10,c4,tk2,g1,tk6,g2,lp,rv,Nat.reduceAdd,Nat.reduceSub]
           rfl
       · rw[if_pos (.inr c4)]
         obtain⟨addr,kind,data⟩:=f
         simp only at*
         have w9:=m8 (a:=2*nth data 8) (by omega) (by omega)
         have w10:=m8 (a:=9+2*nth data 8) (by omega) (by omega)
         have t8:Int.toNat 8=8:=rfl
         simp (disch:=omega) only[go_sem,K.aO,↓reduceIte,c1,e8,t8,w8,w9,w10,c4,Nat.reduceAdd,Nat.reduceSub]
         rfl
   · rw[if_pos c2]
     by_cases c3:f.addr<0
     · obtain⟨addr,kind,data⟩:=f
       simp only at*
       simp (disch:=omega) only[go_sem,K.aO,↓reduceIte,c1,c3,Nat.reduceAdd,Nat.reduceSub]
       rfl
     · obtain⟨addr,kind,data⟩:=f
       simp only at*
       simp (disch:=omega) only[go_sem,K.aO,↓reduceIte,c1,c3,Nat.reduceAdd,Nat.reduceSub]
       rfl
 · rw[if_pos c1]
   obtain⟨addr,kind,data⟩:=f
   simp only at*
   simp (disch:=omega) only[go_sem,K.aO,↓reduceIte,c1,Nat.reduceAdd,Nat.reduceSub]
   rfl
theorem sC(call:ah)(vs:List D)(p:Nat)(r1:List R)(p1:List (Nat×Nat))(r2:List R)(p2:List (Nat×Nat))(c:T)(H:ab):
 stepG (nN call) vs p r1 p1 r2 p2 c H=(exS call (.seq (.reg r1 p1) (.reg r2 p2)) ⟨vs.set p (.t c),H⟩).map fun q=>q.2.H:=by
 simp only[stepG,exS]
 cases nN call r1 p1 (vs.set p (.t c)) H with
 | none=>rfl
 | some q=>
   simp only[Option.bind_some,Option.map_some,bD]
   cases nN call r2 p2 q.2.1 q.2.2<;>rfl
theorem sD{step:T→ab→Option ab}{look:ab→Option (List T)}(Hs:Nat→ab)(es:List T)(k:Nat)(hlook:∀j,j≤k→look (Hs j)=some es)(hstep:∀j,j<k→step (.sl ((es.drop (2*j)).take 2)) (Hs j)=some (Hs (j+1))):
 ∀m j,j+m=k→lM step look es.length m (2*j) (Hs j)=some (Hs k)
 | 0,j,h=>by
   obtain rfl:j=k:=by omega
   unfold lM
   rw[hlook j (Nat.le_refl _),Option.bind_some,if_pos rfl]
 | m+1,j,h=>by
   unfold lM
   rw[hlook j (by omega),Option.bind_some,if_pos rfl,hstep j (by omega),Option.bind_some]
   exact sD Hs es k hlook hstep m (j+1) (by omega)
theorem A2{step:T→ab→Option ab}{look:ab→Option (List T)}(Hs:Nat→ab)(es:List T)(k:Nat)(hl:es.length=2*k)(hlook:∀j,j≤k→look (Hs j)=some es)(hstep:∀j,j<k→step (.sl ((es.drop (2*j)).take 2)) (Hs j)=some (Hs (j+1))):
 om step look (Hs 0)=some (Hs k):=by
 unfold om
 rw[hlook 0 (Nat.zero_le _),Option.bind_some,show es.length / 2=k by omega]
 exact sD Hs es k hlook hstep k 0 (by omega)
abbrev tgR(f:Frm)(n t:Int)(L:List Int):ab:=[.box [I f.addr,I f.kind,.t (tB f.data)],.box z4,.box [I f.addr,I n,I t,.ref 4 0 L.length],.arr 1 false 0 [],.arr 1 false 0 ((L.map (T.int .i64)).map .t),.box [.t (tB (f.data.drop 9))],.box [I 2]]
theorem G3(l:List Int):(l.map (T.int .u8)).all xa=true:=by
 rw[List.all_eq_true]
 intro x hx
 obtain⟨y,_,rfl⟩:=List.mem_map.1 hx
 rfl
theorem sE(f:Frm)(hb:hT f.data)(hl:f.data.length≤1000):cB 0 N.a8 [.t f.e] []=some (.tup [.t (kh f).1.e,I (kh f).2],[]):=by
 refine bA K.gq rfl ?_
 unfold kh
 have ia:=uD f.addr 0 31
 by_cases c1:f.kind=9
 · rw[if_neg (by simpa using c1)]
   by_cases c2:0≤f.addr∧f.addr≤31
   · rw[if_neg (by simpa using c2)]
     rw[decide_eq_true c2]at ia
     by_cases c3:f.data.length<9
     · rw[if_pos (.inl c3)]
       obtain⟨addr,kind,data⟩:=f
       simp only at*
       simp (disch:=omega) only[go_sem,K.a8,↓reduceIte,c1,ia,Nat.reduceAdd,Nat.reduceSub]
       rfl
     · have e8:(f.data.map (T.int .u8))[8]?=some (.int .u8 (nth f.data 8)):=cT _ (by omega)
       have b8:=hb _ (gn (l:=f.data) (j:=8) (by omega))
       have w8:=m8 (a:=nth f.data 8) (by omega) (by omega)
       have t8:Int.toNat 8=8:=rfl
       by_cases c4:(f.data.length:Int)=9+2*nth f.data 8
       · rw[if_neg (by rintro (h | h);exact c3 h;exact h c4)]
         have g1:=kf (f.data.take 2) (by simpa using b5 hb 0 2) (by rw[List.length_take];omega)
         have g2:=kf ((f.data.drop 2).take 6) (b5 hb 2 6) (by rw[List.length_take];omega)
         have k1:=nX (bs:=f.data.take 2) (by simpa using b5 hb 0 2) (by rw[List.length_take];omega)
         have k2:=nX (bs:=(f.data.drop 2).take 6) (b5 hb 2 6) (by rw[List.length_take];omega)
         have w1:=m8 k1.1 (by omega)
         have w2:=m8 k2.1 (by omega)
         obtain⟨k,hk⟩:∃k:Nat,nth f.data 8=k:=Int.eq_ofNat_of_zero_le b8.1
         have hk2:(f.data.length-9) / 2=k:=by omega
         have rv:=iG (lH f) (by unfold lH;simp only;rw[cL];omega)
         unfold lH at*
         rw[hk2]at*
         have w9:=m8 (a:=2*nth f.data 8) (by omega) (by omega)
         have w10:=m8 (a:=9+2*nth f.data 8) (by omega) (by omega)
         obtain⟨addr,kind,data⟩:=f
         simp only at*
         subst c1
         have tk2:(data.map (T.int .u8)).take 2=(data.take 2).map (T.int .u8):=List.map_take.symm
         have tk6:((data.map (T.int .u8)).drop 2).take 6=((data.drop 2).take 6).map (T.int .u8):=by rw[List.map_take,List.map_drop]
         have t9:Int.toNat 9=9:=rfl
         have tk9:(data.map (T.int .u8)).drop 9=(data.drop 9).map (T.int .u8):=List.map_drop.symm
         have l9:(data.drop 9).length=2*k:=by rw[List.length_drop];omega
         have ch:=A1 (data.drop 9)
         have lp:∀z0 z3 z5 z7:D,exS cB K.dh ⟨[z0,.bp 0 0,.bp 1 0,z3,.bp 2 0,z5,.fn N.ai [.bp 5 0,.bp 6 0],z7],tgR ⟨addr,9,data⟩ (cZ (data.take 2)) (cZ ((data.drop 2).take 6)) []⟩=
          some (.normal,⟨[z0,.bp 0 0,.bp 1 0,z3,.bp 2 0,z5,.fn N.ai [.bp 5 0,.bp 6 0],z7],tgR ⟨addr,9,data⟩ (cZ (data.take 2)) (cZ ((data.drop 2).take 6)) (dv data k)⟩):=by
          intro z0 z3 z5 z7
          simp only[K.dh,xQ]
          refine(congrArg (Option.map _) (A2 (fun j=>tgR ⟨addr,9,data⟩ (cZ (data.take 2)) (cZ ((data.drop 2).take 6)) (dv data j)) ((data.drop 9).map (T.int .u8)) k (by rw[List.length_map,l9]) ?_ ?_)).trans rfl
          · intro j hj
            simp only[List.getElem?_cons_succ,List.getElem?_cons_zero,qy,tgR,if_true]
            rw[if_pos ⟨trivial,by rw[List.length_map,l9];omega,by rw[List.length_map,l9];omega,G3 _⟩]
          · intro j hj
            have pg:=kf ((data.drop (9+2*j)).take 2) (b5 hb _ _) (by rw[List.length_take];omega)
            have kb:=nX (bs:=(data.drop (9+2*j)).take 2) (b5 hb _ _) (by rw[List.length_take];omega)
            have wj:=m8 kb.1 (by omega)
            have pl:=cL data j
            have px:cZ ((data.drop (9+2*j)).take 2)=p8 data j:=rfl
            rw[px]at pg wj
            rw[sC,kj,←List.map_drop,←List.map_take,List.drop_drop]
            generalize p8 data j=y at*
            generalize (data.drop (9+2*j)).take 2=bb at*
            generalize dv data j=L at*
            generalize cZ (data.take 2)=nn at*
            generalize cZ ((data.drop 2).take 6)=tt at*
            generalize data.drop 9=dd at*
            simp only[tgR,z4,List.length_append,List.length_cons,List.length_nil,List.set_cons_succ,List.set_cons_zero]at*
            simp (disch:=omega) only[go_sem,↓reduceIte,pg,wj,List.map_append,List.map_cons,List.map_nil,Nat.reduceAdd,Nat.reduceSub]
         have pl:=cL data k
         generalize dv data k=L at*
         generalize cZ (data.take 2)=nn at*
         generalize cZ ((data.drop 2).take 6)=tt at*
         simp only[tgR,z4,List.length_nil,List.map_nil]at*
         cases hv:p5 ⟨addr,nn,tt,L⟩with
         | true=>
           rw[hv]at rv
           simp (disch:=omega) only[go_sem,K.a8,↓reduceIte,ia,e8,t8,w8,w9,w10,c4,tk2,g1,w1,tk6,g2,w2,t9,tk9,ch,lp,rv,Nat.reduceAdd,Nat.reduceSub]
         | false=>
           rw[hv]at rv
           simp (disch:=omega) only[go_sem,K.a8,↓reduceIte,ia,e8,t8,w8,w9,w10,c4,tk2,g1,w1,tk6,g2,w2,t9,tk9,ch,lp,rv,Nat.reduceAdd,Nat.reduceSub]
           rfl
       · rw[if_pos (.inr c4)]
         obtain⟨addr,kind,data⟩:=f
         simp only at*
         have w9:=m8 (a:=2*nth data 8) (by omega) (by omega)
         have w10:=m8 (a:=9+2*nth data 8) (by omega) (by omega)
         simp (disch:=omega) only[go_sem,K.a8,↓reduceIte,c1,ia,e8,t8,w8,w9,w10,c4,Nat.reduceAdd,Nat.reduceSub]
         rfl
   · rw[if_pos c2]
     rw[decide_eq_false c2]at ia
     obtain⟨addr,kind,data⟩:=f
     simp only at*
     simp (disch:=omega) only[go_sem,K.a8,↓reduceIte,c1,ia,Nat.reduceAdd,Nat.reduceSub]
     rfl
 · rw[if_pos c1]
   obtain⟨addr,kind,data⟩:=f
   simp only at*
   simp (disch:=omega) only[go_sem,K.a8,↓reduceIte,c1,Nat.reduceAdd,Nat.reduceSub]
   rfl
theorem G4{P:Program}{n:Nat}{t:TypeId}{x:T}(hu:P.underlying t=some (.int .u8))(h:okT P (n+1) t x):∃m,x= .int .u8 m∧0≤m∧m<256:=by
 obtain⟨h1,h2,h3⟩:=h
 have hA:bc P t=false:=by unfold bc;rw[hu]
 unfold okC at h1
 rw[hu]at h1
 obtain⟨m,h4,h5⟩:=h1
 rw[j6 (h3 hA)]at h4
 have e1:IntKind.u8.min=0:=rfl
 have e2:IntKind.u8.max=255:=rfl
 simp only[Lit.wf,e1,e2,Bool.and_eq_true,decide_eq_true_eq]at h5
 exact⟨m,by simpa using h4,by omega,by omega⟩
theorem sF{P:Program}{n:Nat}{t e:TypeId}{y:T}(hu:P.underlying t=some (.slice e))(he:P.underlying e=some (.int .u8))(h:okC P (n+2) t [y]):
 ∃l:List Int,y= .sl (l.map (T.int .u8))∧hT l:=by
 obtain⟨l,h1,h2,h3⟩:=j7 hu (T.int .u8) (fun m=>0≤m∧m<256) (fun _ hx=>G4 he hx) h
 simp at h1
 exact⟨l,h1,h3⟩
theorem sG{f:Frm}(h:f.data.length≤1000):(kh f).1.tags.length≤1000000:=by
 have z:p9.tags.length≤1000000:=by simp[p9]
 unfold kh
 repeat' split
 all_goals first
  | exact z
  | (simp only[lH,cL];omega)
theorem mS(f:Frm)(hb:hT f.data)(hl:f.data.length≤1000):cB 0 N.bG [.t f.e] []=some (B true,[]):=by
 refine bA K.fm rfl ?_
 have r1:=sE f hb hl
 have r2:=qa f hb hl
 have s:=sB (kh f).1 (kh f).1 (sG hl)
 rw[n5]at s
 generalize kh f=q at*
 obtain⟨⟨a1,a2,a3,a4⟩,e⟩:=q
 obtain⟨addr,kind,data⟩:=f
 simp only at*
 simp (disch:=omega) only[go_sem,K.bG,↓reduceIte,r1,r2,s,decide_true,Nat.reduceAdd,Nat.reduceSub]
theorem A3(aw:cB 0 N.bB [] []=some (B true,[]))(r:Rpt)(f:Frm)(hb:hT f.data):cB 0 N.aL [.t r.e,.t f.e] []=some (B true,[]):=by
 refine bA K.du rfl ?_
 by_cases c1:r.tags.length>100
 · obtain⟨reader,number,time,tags⟩:=r
   obtain⟨addr,kind,data⟩:=f
   simp only at*
   simp (disch:=omega) only[go_sem,K.aL,↓reduceIte,c1,aw,Nat.reduceAdd,Nat.reduceSub]
 · by_cases c2:f.data.length>300
   · obtain⟨reader,number,time,tags⟩:=r
     obtain⟨addr,kind,data⟩:=f
     simp only at*
     simp (disch:=omega) only[go_sem,K.aL,↓reduceIte,c1,c2,aw,Nat.reduceAdd,Nat.reduceSub]
   · have ag:=p7 r (by omega)
     have r1:=mS f hb (by omega)
     have r2:=mS ⟨f.addr,9,f.data⟩ hb (by simp only;omega)
     obtain⟨reader,number,time,tags⟩:=r
     obtain⟨addr,kind,data⟩:=f
     simp only at*
     simp (disch:=omega) only[go_sem,K.aL,↓reduceIte,c1,c2,aw,ag,r1,r2,Nat.reduceAdd,Nat.reduceSub]
end Go.Ev
