/- Parts of the proof: see the text that holds the theorem. -/
import Derived.Test.YtmmplabgfomahaaZ2
set_option linter.all false
open Nat (reduceAdd reduceSub)
set_option maxRecDepth 100000
namespace Go.Ev
open Go
abbrev I(n:Int):D:= .t (.int .i64 n)
abbrev B(b:Bool):D:= .t (.bool b)
def xN{β:Type}(call:av):List R→List D→List D→ae→(List D→List D→ae→Option β)→Option β
 | rs,L,vs,H,K=>(evR call rs L vs H).bind fun q=>K q.1 q.2.1 q.2.2
def FD{β:Type}(call:av)(rs:List R)(d:Option Nat)(L vs:List D)(K:List D→List D→ae→Option β)(p:D×ae):Option β:=
 xN call rs (p.1::L) (wr vs d p.1) p.2 K
@[go_sem] theorem Qg {β : Type} (call : av) (rs : List R) (d : Option Nat) (L vs : List D) (K : List D → List D → ae → Option β) (x : D) (H : ae) :
 FD call rs d L vs K (x,H)=xN call rs (x::L) (wr vs d x) H K:=(rfl)
@[go_sem] theorem Qh {β : Type} (call : av) (L vs : List D) (H : ae) (K : List D → List D → ae → Option β) : xN call [] L vs H K = K L vs H := (rfl)
@[go_sem] theorem MM {β : Type} (call : av) (o : O) (d : Option Nat) (rs : List R) (L vs : List D) (H : ae) (K : List D → List D → ae → Option β) :
 xN call (⟨o,d,none⟩::rs) L vs H K=(evO call (X.get vs L) H o).bind (FD call rs d L vs K):=by
 simp[xN,evR,br,Option.bind_assoc]
 rfl
def gate{β:Type}(c:Option D)(w:Bool)(a b:Option β):Option β:=match c with
 | some (.t (.bool x))=>if x=w then a else b
 | some (.tup [])=>b
 | _=>none
@[congr] theorem Jz {β : Type} {c c' : Option D} {w : Bool} {a b : Option β} (h : True → c = c') : gate c w a b = gate c' w a b := by rw [h trivial]
@[go_sem] theorem Qi {β : Type} (p : Prop) [Decidable p] (a b : Option β) : gate (some (.t (.bool (decide p)))) true a b = if p then a else b := by
 by_cases h:p<;>simp[gate,h]
@[go_sem] theorem MN {β : Type} (p : Prop) [Decidable p] (a b : Option β) : gate (some (.t (.bool (decide p)))) false a b = if p then b else a := by
 by_cases h:p<;>simp[gate,h]
@[go_sem] theorem MO {β : Type} (x : Bool) (a b : Option β) : gate (some (.t (.bool x))) true a b = if x = true then a else b := (rfl)
@[go_sem] theorem JA {β : Type} (x : Bool) (a b : Option β) : gate (some (.t (.bool x))) false a b = if x = true then b else a := by cases x <;> rfl
@[go_sem] theorem MP {β : Type} (w : Bool) (a b : Option β) : gate (some (.tup [])) w a b = b := (rfl)
@[go_sem] theorem MQ {β : Type} (call : av) (o : O) (d : Option Nat) (k : Nat) (w : Bool) (rs : List R) (L vs : List D) (H : ae) (K : List D → List D → ae → Option β) :
 xN call (⟨o,d,some (k,w)⟩::rs) L vs H K=gate L[k]? w ((evO call (X.get vs L) H o).bind (FD call rs d L vs K)) (xN call rs (.tup []::L) (wr vs d (.tup [])) H K):=by
 simp only[xN,evR,br]
 cases hL:L[k]? with
 | none=>simp[gate]
 | some c=>
   simp only[aLq]
   cases c with
   | t x=>
     cases x with
     | bool b=>cases b<;>cases w<;>simp[gate,Option.bind_assoc]<;>rfl
     | _=>simp[gate]
   | tup ds=>
     cases ds with
     | nil=>simp[gate]
     | cons=>simp[gate]
   | _=>simp[gate]
open Classical in
noncomputable def mY{β:Type}(p:Prop)(x:Option β):Option β:=if p then x else none
@[go_sem] theorem FE {β : Type} (x : Option β) : mY True x = x := by simp [mY]
noncomputable def rT{β:Type}(call:av)(all:List R)(n:Nat)(ps:List (Nat×Nat))(rs:List R)(L vs:List D)(H:ae)(acc:List Tr)(K:List D→List D→ae→Option β):Option β:=
 (evR call rs L vs H).bind fun q=>mY (iP call all n ((trace call rs L vs H).reverse++acc) ps) (K q.1 q.2.1 q.2.2)
noncomputable def yY{β:Type}(call:av)(all:List R)(n:Nat)(ps:List (Nat×Nat))(rs:List R)(d:Option Nat)(L vs:List D)(H:ae)(acc:List Tr)(K:List D→List D→ae→Option β)(p:D×ae):Option β:=
 rT call all n ps rs (p.1::L) (wr vs d p.1) p.2 ((L,vs,H)::acc) K
@[go_sem] theorem Qj {β : Type} (call : av) (all : List R) (n : Nat) (ps : List (Nat × Nat)) (rs : List R) (d : Option Nat) (L vs : List D) (H : ae) (acc : List Tr) (K : List D → List D → ae → Option β) (x : D) (H' : ae) :
 yY call all n ps rs d L vs H acc K (x,H')=rT call all n ps rs (x::L) (wr vs d x) H' ((L,vs,H)::acc) K:=(rfl)
@[go_sem] theorem Qk {β : Type} (call : av) (all : List R) (n : Nat) (ps : List (Nat × Nat)) (L vs : List D) (H : ae) (acc : List Tr) (K : List D → List D → ae → Option β) :
 rT call all n ps [] L vs H acc K=mY (iP call all n ((L,vs,H)::acc) ps) (K L vs H):=by
 simp[rT,evR,trace]
theorem rU{β:Type}(call:av)(all:List R)(n:Nat)(ps:List (Nat×Nat))(r:R)(rs:List R)(L vs:List D)(H:ae)(acc:List Tr)(K:List D→List D→ae→Option β):
 rT call all n ps (r::rs) L vs H acc K=(br L r.g).bind fun w=>
  if w then(evO call (X.get vs L) H r.o).bind (yY call all n ps rs r.d L vs H acc K)else rT call all n ps rs (.tup []::L) (wr vs r.d (.tup [])) H ((L,vs,H)::acc) K:=by
 obtain hw | ⟨w,hw⟩:br L r.g=none∨∃w,br L r.g=some w:=by cases br L r.g<;>simp
 · simp[rT,evR,trace,hw]
 · cases w with
   | true=>
     obtain hq | ⟨q,hq⟩:evO call (X.get vs L) H r.o=none∨∃q,evO call (X.get vs L) H r.o=some q:=by cases evO call (X.get vs L) H r.o<;>simp
     · simp[rT,evR,trace,hw,hq]
     · simp[rT,evR,trace,hw,hq,yY]
   | false=>simp[rT,evR,trace,hw]
@[go_sem] theorem MR {β : Type} (call : av) (all : List R) (n : Nat) (ps : List (Nat × Nat)) (o : O) (d : Option Nat) (rs : List R) (L vs : List D) (H : ae) (acc : List Tr) (K : List D → List D → ae → Option β) :
 rT call all n ps (⟨o,d,none⟩::rs) L vs H acc K=(evO call (X.get vs L) H o).bind (yY call all n ps rs d L vs H acc K):=by
 rw[rU];simp[br]
@[go_sem] theorem MS {β : Type} (call : av) (all : List R) (n : Nat) (ps : List (Nat × Nat)) (o : O) (d : Option Nat) (k : Nat) (w : Bool) (rs : List R) (L vs : List D) (H : ae) (acc : List Tr) (K : List D → List D → ae → Option β) :
 rT call all n ps (⟨o,d,some (k,w)⟩::rs) L vs H acc K=
  gate L[k]? w ((evO call (X.get vs L) H o).bind (yY call all n ps rs d L vs H acc K)) (rT call all n ps rs (.tup []::L) (wr vs d (.tup [])) H ((L,vs,H)::acc) K):=by
 rw[rU]
 simp only[br]
 cases hL:L[k]? with
 | none=>simp[gate]
 | some c=>
   simp only[aLq]
   cases c with
   | t x=>
     cases x with
     | bool b=>cases b<;>cases w<;>simp[gate]
     | _=>simp[gate]
   | tup ds=>
     cases ds with
     | nil=>simp[gate]
     | cons=>simp[gate]
   | _=>simp[gate]
def ny(call:av):Option R→Option Tr→Option Tr→Option Tr→Prop
 | some r,some s,some a,some s'=>(match r.o with
   | .al _ _=>a.2.2[s.2.2.length]?=s'.2.2[s.2.2.length]?
   | .bs xs _=>br s.1 r.g=some false∨((aY (X.get s.2.1 s.1) xs).bind ik).isSome=true
   | o=>j7 o=true∧(br s.1 r.g=some false∨pY (evO call (X.get s.2.1 s.1) a.2.2 o)=pY (evO call (X.get s.2.1 s.1) s.2.2 o)))
 | _,_,_,_=>False
@[go_sem] theorem JB (call : av) (all : List R) (n : Nat) (acc : List Tr) : iP call all n acc [] = True := (rfl)
@[go_sem] theorem FF (call : av) (all : List R) (n : Nat) (acc : List Tr) (p m : Nat) (r : List (Nat × Nat)) :
 iP call all n acc ((p,m)::r)=(ny call all[p]? acc[n-p]? acc[n-m]? acc[n-(p+1)]?∧m≤n∧iP call all n acc r):=by
 simp only[iP,FC,ny]
 try rfl
section
variable (call : av) (d : Option Nat) (gd : Option (Nat × Bool)) (L vs L' vs' : List D) (H H' : ae) (s' : Tr)
@[go_sem] theorem Ql (x : X) (n : Nat) (agg : Bool) : ny call (some ⟨.ld x n agg, d, gd⟩) (some (L, vs, H)) (some (L', vs', H')) (some s') =
 (br L gd=some false∨pY (evO call (X.get vs L) H' (.ld x n agg))=pY (evO call (X.get vs L) H (.ld x n agg))):=by simp[ny,j7]
@[go_sem] theorem Qm (x i : X) (sz : Nat) : ny call (some ⟨.ia x i sz, d, gd⟩) (some (L, vs, H)) (some (L', vs', H')) (some s') =
 (br L gd=some false∨pY (evO call (X.get vs L) H' (.ia x i sz))=pY (evO call (X.get vs L) H (.ia x i sz))):=by simp[ny,j7]
@[go_sem] theorem Qn (x : X) (lo hi : Option X) (sz : Nat) : ny call (some ⟨.sc x lo hi sz, d, gd⟩) (some (L, vs, H)) (some (L', vs', H')) (some s') =
 (br L gd=some false∨pY (evO call (X.get vs L) H' (.sc x lo hi sz))=pY (evO call (X.get vs L) H (.sc x lo hi sz))):=by simp[ny,j7]
@[go_sem] theorem MT (x : X) (z : T) (sz : Nat) : ny call (some ⟨.mkt x z sz, d, gd⟩) (some (L, vs, H)) (some (L', vs', H')) (some s') =
 (br L gd=some false∨pY (evO call (X.get vs L) H' (.mkt x z sz))=pY (evO call (X.get vs L) H (.mkt x z sz))):=by simp[ny,j7]
@[go_sem] theorem Qo (z : List D) (l : List (Nat × Nat)) (L2 vs2 : List D) (H2 : ae) : ny call (some ⟨.al z l, d, gd⟩) (some (L, vs, H)) (some (L', vs', H')) (some (L2, vs2, H2)) = (H'[H.length]? = H2[H.length]?) := (rfl)
@[go_sem] theorem Qp (xs : List X) (sz : Nat) : ny call (some ⟨.bs xs sz, d, gd⟩) (some (L, vs, H)) (some (L', vs', H')) (some s') =
 (br L gd=some false∨((aY (X.get vs L) xs).bind ik).isSome=true):=(rfl)
@[go_sem] theorem De (L : List D) : br L none = some true := (rfl)
def FH(w:Bool):Option D→Option Bool
 | some (.t (.bool b))=>some (b==w)
 | some (.tup [])=>some false
 | _=>none
@[go_sem] theorem JC (w b : Bool) : FH w (some (.t (.bool b))) = some (b == w) := (rfl)
@[go_sem] theorem MU (w : Bool) : FH w (some (.tup [])) = some false := (rfl)
@[go_sem] theorem Df (L : List D) (k : Nat) (w : Bool) : br L (some (k, w)) = FH w L[k]? := by
 simp only[br]
 cases L[k]? with
 | none=>rfl
 | some c=>cases c with
   | t x=>cases x<;>rfl
   | tup ds=>cases ds<;>rfl
   | _=>rfl
@[go_sem] theorem MV (x : D) : pY (some (x, H)) = some x := (rfl)
attribute [go_sem] beq_true beq_false or_true true_or or_self
end
theorem vi(call:av)(rs:List R)(vs:List D)(H:ae):xM call rs [] vs H=evR call rs [] vs H:=by
 simp[xM,iP]
def SK(L vs:List D)(H:ae):Option (Ex×St):=some (.normal,⟨vs,H⟩)
noncomputable def SL(call:av)(k:Nat)(a b:C)(L vs:List D)(H:ae):Option (Ex×St):=cY L[k]? (exS call a ⟨vs,H⟩) (exS call b ⟨vs,H⟩)
@[go_sem] theorem SM (L vs : List D) (H : ae) : SK L vs H = some (.normal, ⟨vs, H⟩) := (rfl)
@[go_sem] theorem SN (call : av) (k : Nat) (a b : C) (L vs : List D) (H : ae) : SL call k a b L vs H = cY L[k]? (exS call a ⟨vs, H⟩) (exS call b ⟨vs, H⟩) := (rfl)
def andThen(x:Option (Ex×St))(k:St→Option (Ex×St)):Option (Ex×St):=x.bind fun p=>de p k
@[go_sem] theorem AG (st : St) (k : St → Option (Ex × St)) : andThen (some (.normal, st)) k = k st := (rfl)
@[go_sem] theorem FI (st : St) (k : St → Option (Ex × St)) : andThen (some (.ret, st)) k = some (.ret, st) := (rfl)
@[go_sem] theorem Dg (i : Nat) (st : St) (k : St → Option (Ex × St)) : andThen (some (.exit i, st)) k = some (.exit i, st) := (rfl)
@[go_sem] theorem Dh (k : St → Option (Ex × St)) : andThen none k = none := (rfl)
@[go_sem] theorem andThen_ite (c : Prop) [Decidable c] (a b : Option (Ex × St)) (k : St → Option (Ex × St)) : andThen (if c then a else b) k = if c then andThen a k else andThen b k := by
 split<;>rfl
@[go_sem] theorem Qq (call : av) (st : St) : exS call .skip st = some (.normal, st) := (rfl)
@[go_sem] theorem SO (call : av) (rs : List R) (vs : List D) (H : ae) : exS call (.reg rs []) ⟨vs, H⟩ = xN call rs [] vs H SK := by
 simp only[exS,vi,xN]
 cases evR call rs [] vs H<;>rfl
@[go_sem] theorem Qr (call : av) (rs : List R) (p : Nat × Nat) (ps : List (Nat × Nat)) (vs : List D) (H : ae) :
 exS call (.reg rs (p::ps)) ⟨vs,H⟩=rT call rs rs.length (p::ps) rs [] vs H [] SK:=by
 simp only[exS,xM,rT,List.append_nil]
 by_cases h:iP call rs rs.length (trace call rs [] vs H).reverse (p::ps)
 · rw[if_pos h]
   simp only[mY,if_pos h]
   cases evR call rs [] vs H<;>rfl
 · rw[if_neg h]
   simp only[mY,if_neg h]
   cases evR call rs [] vs H<;>rfl
@[go_sem] theorem SP (call : av) (a b : C) (st : St) : exS call (.seq a b) st = andThen (exS call a st) (exS call b) := (rfl)
@[go_sem] theorem SQ (call : av) (rs : List R) (k : Nat) (a b : C) (vs : List D) (H : ae) : exS call (.ite rs [] k a b) ⟨vs, H⟩ = xN call rs [] vs H (SL call k a b) := by
 simp only[exS,vi,xN]
 cases evR call rs [] vs H<;>rfl
@[go_sem] theorem Qs (call : av) (rs : List R) (p : Nat × Nat) (ps : List (Nat × Nat)) (k : Nat) (a b : C) (vs : List D) (H : ae) :
 exS call (.ite rs (p::ps) k a b) ⟨vs,H⟩=rT call rs rs.length (p::ps) rs [] vs H [] (SL call k a b):=by
 simp only[exS,xM,rT,List.append_nil]
 by_cases h:iP call rs rs.length (trace call rs [] vs H).reverse (p::ps)
 · rw[if_pos h]
   simp only[mY,if_pos h]
   cases evR call rs [] vs H<;>rfl
 · rw[if_neg h]
   simp only[mY,if_neg h]
   cases evR call rs [] vs H<;>rfl
@[go_sem] theorem SR (call : av) (rs : List R) (ps : List (Nat × Nat)) (k : Nat) (a b c : C) (st : St) : exS call (.its rs ps k a b c) st = andThen (exS call (.ite rs ps k a b) st) (exS call c) := (rfl)
@[go_sem] theorem SS (call : av) (rs : List R) (ps : List (Nat × Nat)) (k : Nat) (a b c : C) (st : St) : exS call (.itk rs ps k a b c) st = exS call (.ite rs ps k (.seq a c) (.seq b c)) st := (rfl)
@[go_sem] theorem SU (call : av) (j : Nat) (a b : C) (vs : List D) (H : ae) : exS call (.itv j a b) ⟨vs, H⟩ = cY vs[j]? (exS call a ⟨vs, H⟩) (exS call b ⟨vs, H⟩) := (rfl)
@[go_sem] theorem Qt (call : av) (id : Nat) (st : St) : exS call (.exit id) st = some (.exit id, st) := (rfl)
@[go_sem] theorem SV (call : av) (st : St) : exS call .ret st = some (.ret, st) := (rfl)
@[go_sem] theorem Qu (call : av) (st : St) : exS call .fail st = none := (rfl)
@[go_sem] theorem SW (call : av) (x p f : Nat) (r1 : List R) (p1 : List (Nat × Nat)) (r2 : List R) (p2 : List (Nat × Nat)) (vs : List D) (H : ae) : exS call (.rng x p f r1 p1 r2 p2) ⟨vs, H⟩ = (xI (stepG (xM call) vs p r1 p1 r2 p2) (AF f vs[x]?) H).map fun H => (.normal, ⟨vs, H⟩) := (rfl)
@[go_sem] theorem SX (call : av) (v : Bool) (c : C) (st : St) : exS call (.cnd v c) st = exS call c st := (rfl)
def oK(id:Nat)(x:Option (Ex×St)):Option (Ex×St):=x.map (leave id)
@[go_sem] theorem SY (call : av) (id : Nat) (c : C) (st : St) : exS call (.blk id c) st = oK id (exS call c st) := (rfl)
@[go_sem] theorem Di (id : Nat) (st : St) : oK id (some (.normal, st)) = some (.normal, st) := by simp [oK, leave]
@[go_sem] theorem MW (id : Nat) (st : St) : oK id (some (.ret, st)) = some (.ret, st) := by simp [oK, leave]
@[go_sem] theorem JD (id i : Nat) (st : St) : oK id (some (.exit i, st)) = if i = id then some (.normal, st) else some (.exit i, st) := by
 simp only[oK,leave,aLw,Ex.exit.injEq]
 split<;>rfl
@[go_sem] theorem JE (id : Nat) : oK id none = none := (rfl)
@[go_sem] theorem MX (id : Nat) (c : Prop) [Decidable c] (a b : Option (Ex × St)) : oK id (if c then a else b) = if c then oK id a else oK id b := by
 split<;>rfl
@[congr] theorem FJ {c c' : Option D} {a b : Option (Ex × St)} (h : True → c = c') : cY c a b = cY c' a b := by rw [h trivial]
@[go_sem] theorem MY (p : Prop) [Decidable p] (a b : Option (Ex × St)) : cY (some (.t (.bool (decide p)))) a b = if p then a else b := by
 by_cases h:p<;>simp[cY,h]
@[go_sem] theorem JF (p : Prop) [Decidable p] (a b : Option (Ex × St)) : cY (some (.t (.bool (!decide p)))) a b = if p then b else a := by
 by_cases h:p<;>simp[cY,h]
@[go_sem] theorem Qv (a : Option (Ex × St)) : cY (some .ub) a a = a := by simp [cY]
@[go_sem] theorem JG (x : Bool) (a b : Option (Ex × St)) : cY (some (.t (.bool x))) a b = if x = true then a else b := (rfl)
def fW(gc:Bool)(dead:List Nat)(k:Nat)(x:Option (Ex×St)):Option St:=x.bind fun p=>match p.1 with
 | .normal=>tidy gc dead k p.2
 | _=>none
@[go_sem] theorem BM (gc : Bool) (dead : List Nat) (k : Nat) (st : St) : fW gc dead k (some (.normal, st)) = tidy gc dead k st := (rfl)
@[go_sem] theorem JH (gc : Bool) (dead : List Nat) (k : Nat) (c : Prop) [Decidable c] (a b : Option (Ex × St)) : fW gc dead k (if c then a else b) = if c then fW gc dead k a else fW gc dead k b := by
 split<;>rfl
theorem mw{gc:Bool}{dead:List Nat}{body:St→Option (Ex×St)}{st st2:St}(h:fW gc dead st.H.length (body st)=some st2)
 {p:Ex×St} (h2:iQ gc dead body st2=some p):iQ gc dead body st=some p:=by
 unfold fW at h
 obtain⟨⟨e,st1⟩,hq,h⟩:=aLa.1 h
 cases e with
 | normal=>exact pW hq h h2
 | ret=>cases h
 | exit=>cases h
theorem qC{gc:Bool}{dead:List Nat}{body:St→Option (Ex×St)}(s:Nat→St){p:Ex×St}(n:Nat)
 (h:∀j,j<n→fW gc dead (s j).H.length (body (s j))=some (s (j+1))) (he:iQ gc dead body (s n)=some p):iQ gc dead body (s 0)=some p:=by
 have:=mX (s:=s) n 0 (fun j _ hj=>by
  have h:=h j (by omega)
  unfold fW at h
  obtain⟨⟨e,st1⟩,hq,h⟩:=aLa.1 h
  cases e with
  | normal=>exact⟨st1,hq,h⟩
  | ret=>cases h
  | exit=>cases h) (by simpa using he)
 exact this
def Qw(res:List (Nat×Option (Nat×Bool)))(k raw:Nat)(p:Ex×St):Option (D×ae):=match p.1 with
 | .exit _=>none
 | _=>(dU p.2 res).bind (finish k raw p.2.H)
@[go_sem] theorem Qx (res : List (Nat × Option (Nat × Bool))) (k raw : Nat) (vs : List D) (H : ae) : Qw res k raw (.ret, ⟨vs, H⟩) = (dU ⟨vs, H⟩ res).bind (finish k raw H) := (rfl)
@[go_sem] theorem FK (res : List (Nat × Option (Nat × Bool))) (k raw : Nat) (vs : List D) (H : ae) : Qw res k raw (.normal, ⟨vs, H⟩) = (dU ⟨vs, H⟩ res).bind (finish k raw H) := (rfl)
theorem FL{fs:Nat→Option Fn}{raw f:Nat}{args:List D}{H:ae}{fn:Fn}{r:D×ae}(hf:fs f=some fn)(hn:fn.bK=args.length)
 (h:(exS (gp fs) fn.body ⟨jZ args fn.vars,H⟩).bind (Qw fn.res H.length raw)=some r) (h0:fn.prim=[]:=by rfl):gp fs raw f args H=some r:=by
 obtain⟨p,hp,he⟩:=aLa.1 h
 exact BH hf hn (BL _ _ _ hp) he h0
@[go_sem] theorem Qy {α β : Type} (c : Prop) [Decidable c] (a b : Option α) (k : α → Option β) : (if c then a else b).bind k = if c then a.bind k else b.bind k := by
 split<;>rfl
@[go_sem] theorem SZ {α β : Type} (c : Prop) [Decidable c] (a b : Option α) (k : α → β) : (if c then a else b).map k = if c then a.map k else b.map k := by
 split<;>rfl
theorem MZ(a b:Int):(a==b)=decide (a=b):=by rw[Bool.eq_iff_iff];simp
theorem jd{n:Int}(h1: -9223372036854775808≤n)(h2:n≤9223372036854775807):IntKind.i64.wrap n=n:=by
 have e:IntKind.i64.wrap n=if n % 18446744073709551616≥9223372036854775808 then n % 18446744073709551616-18446744073709551616 else n % 18446744073709551616:=by
  simp[IntKind.wrap,IntKind.signed,IntKind.bits]
 rw[e];split<;>omega
section
variable {α β : Type}
@[go_sem] theorem FM (a : α) (f : α → Option β) : (some a).bind f = f a := (rfl)
@[go_sem] theorem JI (a : α) (f : α → β) : (some a).map f = some (f a) := (rfl)
@[go_sem] theorem FN (f : α → Option β) : (none : Option α).bind f = none := (rfl)
@[go_sem] theorem JJ (f : α → β) : (none : Option α).map f = none := (rfl)
@[go_sem] theorem JK (a : α) (l : List α) (f : α → β) : (a :: l).map f = f a :: l.map f := (rfl)
@[go_sem] theorem M0 (f : α → β) : ([] : List α).map f = [] := (rfl)
@[go_sem] theorem JL (a : α) (l : List α) : (a :: l)[0]? = some a := (rfl)
@[go_sem] theorem JM (a : α) (l : List α) (n : Nat) : (a :: l)[n + 1]? = l[n]? := (rfl)
@[go_sem] theorem FO (a d : α) (l : List α) : (a :: l).getD 0 d = a := (rfl)
@[go_sem] theorem FP (a d : α) (l : List α) (n : Nat) : (a :: l).getD (n + 1) d = l.getD n d := (rfl)
@[go_sem] theorem JN (d : α) (n : Nat) : ([] : List α).getD n d = d := by simp
@[go_sem] theorem JO (a b : α) (l : List α) : (a :: l).set 0 b = b :: l := (rfl)
@[go_sem] theorem JP (a b : α) (l : List α) (n : Nat) : (a :: l).set (n + 1) b = a :: l.set n b := (rfl)
@[go_sem] theorem BN (a : α) (l m : List α) : (a :: l) ++ m = a :: (l ++ m) := (rfl)
@[go_sem] theorem Dj (l : List α) : [] ++ l = l := (rfl)
@[go_sem] theorem Dk (l : List α) : l ++ [] = l := by simp
@[go_sem] theorem AH (a : α) (l : List α) (f : α → List β) : (a :: l).flatMap f = f a ++ l.flatMap f := by simp
@[go_sem] theorem BO (f : α → List β) : ([] : List α).flatMap f = [] := by simp
@[go_sem] theorem Dl : ([] : List α).length = 0 := (rfl)
@[go_sem] theorem BP (a : α) (l : List α) : (a :: l).length = l.length + 1 := (rfl)
@[go_sem] theorem Dm (l : List α) (f : α → β) : (l.map f).length = l.length := by simp
@[go_sem] theorem yZ (l m : List α) : (l ++ m).length = l.length + m.length := by simp
@[go_sem] theorem vj (n : Nat) (a : α) : (List.replicate n a).length = n := by simp
@[go_sem] theorem Dn (l : List α) (i : Nat) (a : α) : (l.set i a).length = l.length := by simp
@[go_sem] theorem FQ (l : List α) : l.drop 0 = l := (rfl)
@[go_sem] theorem FR (a : α) (l : List α) (n : Nat) : (a :: l).drop (n + 1) = l.drop n := (rfl)
@[go_sem] theorem JQ (n : Nat) : ([] : List α).drop n = [] := by simp
@[go_sem] theorem FT (l : List α) : l.take 0 = [] := (rfl)
@[go_sem] theorem FU (a : α) (l : List α) (n : Nat) : (a :: l).take (n + 1) = a :: l.take n := (rfl)
@[go_sem] theorem JR (n : Nat) : ([] : List α).take n = [] := by simp
@[go_sem] theorem FV (a b : α) : (bif true then a else b) = a := (rfl)
@[go_sem] theorem Dp (a b : α) : (bif false then a else b) = b := (rfl)
@[go_sem] theorem JS (n : Nat) : n + 0 = n := (rfl)
@[go_sem] theorem JT (n : Nat) : 0 + n = n := by simp
@[go_sem] theorem JU (a b : α) : (some a = some b) = (a = b) := by simp
@[go_sem] theorem Qz (a : α) : (some a).isSome = true := (rfl)
end
attribute [go_sem] decide_true decide_false if_true if_false aLt Bool.true_eq_false decide_eq_true_eq decide_eq_false_iff_not aLr Bool.or_eq_true Bool.not_eq_true' Bool.not_eq_true Bool.not_eq_false
 Bool.and_true Bool.true_and Bool.and_false Bool.false_and Bool.or_true Bool.true_or Bool.or_false Bool.false_or and_true true_and and_self not_true_eq_false not_false_eq_true beq_iff_eq bne_iff_ne ne_eq
@[go_sem] theorem JV : (!true) = false := (rfl)
@[go_sem] theorem FW : (!false) = true := (rfl)
@[go_sem] theorem Xf (vs L : List D) (j : Nat) : X.get vs L (.v j) = vs[j]? := (rfl)
@[go_sem] theorem Xg (vs L : List D) (k : Nat) : X.get vs L (.l k) = L[k]? := (rfl)
@[go_sem] theorem Xh (vs L : List D) (d : D) : X.get vs L (.c d) = some d := (rfl)
@[go_sem] theorem Xi (vs L : List D) (n : Int) : X.get vs L (.i n) = some (I n) := (rfl)
@[go_sem] theorem Xj (vs L : List D) (x : Bool) : X.get vs L (.b x) = some (B x) := (rfl)
@[go_sem] theorem S0 (vs : List D) (x : D) : wr vs none x = vs := (rfl)
@[go_sem] theorem S1 (vs : List D) (s : Nat) (x : D) : wr vs (some s) x = vs.set s x := (rfl)
@[go_sem] theorem JW (args : List D) : jZ args [] = [] := (rfl)
@[go_sem] theorem FX (args : List D) (s : Nat) (r : List Nat) : jZ args (s :: r) = args.getD s .und :: jZ args r := (rfl)
def S2(H:ae)(d:D):Option (D×ae):=some (d,H)
@[go_sem] theorem S3 (H : ae) (d : D) : S2 H d = some (d, H) := (rfl)
def fj{α:Type}(a:α)(l:Option (List α)):Option (List α):=l.map (a:: ·)
@[go_sem] theorem JX {α : Type} (a : α) (l : List α) : fj a (some l) = some (a :: l) := (rfl)
@[go_sem] theorem JY {α : Type} (a : α) : fj a none = none := (rfl)
@[go_sem] theorem QA {α β : Type} (f : α → Option β) : aY f [] = some [] := (rfl)
def VP{α β:Type}(f:α→Option β)(r:List α)(y:β):Option (List β):=fj y (aY f r)
@[go_sem] theorem FY {α β : Type} (f : α → Option β) (r : List α) (y : β) : VP f r y = fj y (aY f r) := (rfl)
@[go_sem] theorem rV {α β : Type} (f : α → Option β) (x : α) (r : List α) : aY f (x :: r) = (f x).bind (VP f r) := (rfl)
section
variable (call : av) (get : X → Option D) (H : ae)
@[go_sem] theorem Xk (x : X) : evO call get H (.mv x) = (get x).bind (S2 H) := by simp only [evO]; cases get x <;> rfl
def QB(c a b:Option D):Option (D×ae):=c.bind fun c=>a.bind fun a=>b.bind fun b=>(Bp c a b).map fun d=>(d,H)
@[go_sem] theorem Xl (c a b : X) : evO call get H (.pk c a b) = QB H (get c) (get a) (get b) := (rfl)
@[go_sem] theorem M1 (x p q : Bool) : QB H (some (.t (.bool x))) (some (.t (.bool p))) (some (.t (.bool q))) = some (.t (.bool (bif x then p else q)), H) := by cases x <;> rfl
@[go_sem] theorem M3 (a b : D) : QB H (some (.t (.bool true))) (some a) (some b) = some (a, H) := (rfl)
@[go_sem] theorem JZ (a b : D) : QB H (some (.t (.bool false))) (some a) (some b) = some (b, H) := (rfl)
@[go_sem] theorem QC (x p : Bool) : (bif x then p else false) = (x && p) := by cases x <;> rfl
@[go_sem] theorem S4 (x q : Bool) : (bif x then true else q) = (x || q) := by cases x <;> rfl
def dS(f:BinOp)(x y:Option D):Option (D×ae):=x.bind fun a=>y.bind fun b=>(pI f a b).map fun d=>(d,H)
@[go_sem] theorem VQ (f : BinOp) (x y : X) : evO call get H (.bin f x y) = dS H f (get x) (get y) := (rfl)
section
variable (k j : IntKind) (a b : Int)
@[go_sem] theorem M4 : dS H .add (some (.t (.int k a))) (some (.t (.int k b))) = some (.t (.int k (k.wrap (a + b))), H) := by simp [dS, pI, sQ]
@[go_sem] theorem M5 : dS H .sub (some (.t (.int k a))) (some (.t (.int k b))) = some (.t (.int k (k.wrap (a - b))), H) := by simp [dS, pI, sQ]
@[go_sem] theorem M6 : dS H .mul (some (.t (.int k a))) (some (.t (.int k b))) = some (.t (.int k (k.wrap (a * b))), H) := by simp [dS, pI, sQ]
@[go_sem] theorem M7 : dS H .quo (some (.t (.int k a))) (some (.t (.int k b))) = if b = 0 then none else some (.t (.int k (k.wrap (a.tdiv b))), H) := by simp only [dS, pI, sQ]; by_cases h : b = 0 <;> simp [h]
@[go_sem] theorem M8 : dS H .rem (some (.t (.int k a))) (some (.t (.int k b))) = if b = 0 then none else some (.t (.int k (a.tmod b)), H) := by simp only [dS, pI, sQ]; by_cases h : b = 0 <;> simp [h]
@[go_sem] theorem M9 : dS H .eql (some (.t (.int k a))) (some (.t (.int k b))) = some (.t (.bool (decide (a = b))), H) := by simp [dS, pI, sQ, MZ]
@[go_sem] theorem Na : dS H .neq (some (.t (.int k a))) (some (.t (.int k b))) = some (.t (.bool (decide (¬ a = b))), H) := by simp [dS, pI, sQ, bne, MZ]
@[go_sem] theorem Nb : dS H .lss (some (.t (.int k a))) (some (.t (.int k b))) = some (.t (.bool (decide (a < b))), H) := by simp [dS, pI, sQ]
@[go_sem] theorem Nc : dS H .leq (some (.t (.int k a))) (some (.t (.int k b))) = some (.t (.bool (decide (a ≤ b))), H) := by simp [dS, pI, sQ]
@[go_sem] theorem Nd : dS H .gtr (some (.t (.int k a))) (some (.t (.int k b))) = some (.t (.bool (decide (b < a))), H) := by simp [dS, pI, sQ]
@[go_sem] theorem Nf : dS H .geq (some (.t (.int k a))) (some (.t (.int k b))) = some (.t (.bool (decide (b ≤ a))), H) := by simp [dS, pI, sQ]
@[go_sem] theorem Ng (h : 0 ≤ b) : dS H .shl (some (.t (.int k a))) (some (.t (.int j b))) = some (.t (.int k (k.wrap (a * 2 ^ min b.toNat k.bits))), H) := by simp [dS, pI, pH, Int.not_lt.2 h]
@[go_sem] theorem Nh (h : 0 ≤ b) : dS H .shr (some (.t (.int k a))) (some (.t (.int j b))) = some (.t (.int k (a.fdiv (2 ^ min b.toNat k.bits))), H) := by simp [dS, pI, pH, Int.not_lt.2 h]
@[go_sem] theorem Ni : dS H .and (some (.t (.int k a))) (some (.t (.int k b))) = some (.t (.int k (k.wrap (BitVec.ofInt k.bits a &&& BitVec.ofInt k.bits b).toNat)), H) := by simp [dS, pI, sQ]
@[go_sem] theorem QD : dS H .or (some (.t (.int k a))) (some (.t (.int k b))) = some (.t (.int k (k.wrap (BitVec.ofInt k.bits a ||| BitVec.ofInt k.bits b).toNat)), H) := by simp [dS, pI, sQ]
@[go_sem] theorem Nj : dS H .xor (some (.t (.int k a))) (some (.t (.int k b))) = some (.t (.int k (k.wrap (BitVec.ofInt k.bits a ^^^ BitVec.ofInt k.bits b).toNat)), H) := by simp [dS, pI, sQ]
def S5(f:UnOp)(a:D):Option (D×ae):=(unD f a).map fun d=>(d,H)
@[go_sem] theorem Xm (f : UnOp) (x : X) : evO call get H (.un f x) = (get x).bind (S5 H f) := (rfl)
@[go_sem] theorem QE (x : Bool) : S5 H .not (.t (.bool x)) = some (.t (.bool (!x)), H) := (rfl)
@[go_sem] theorem QF : S5 H .neg (.t (.int k a)) = some (.t (.int k (k.wrap (0 - a))), H) := (rfl)
def VR(k:IntKind)(a:D):Option (D×ae):=(EY k a).map fun d=>(d,H)
@[go_sem] theorem Xn (x : X) : evO call get H (.cv k x) = (get x).bind (VR H k) := (rfl)
@[go_sem] theorem QG : VR H k (.t (.int j a)) = some (.t (.int k (k.wrap a)), H) := (rfl)
end
def jT(q:EqK)(neg:Bool)(x y:Option D):Option (D×ae):=x.bind fun a=>y.bind fun b=>(C9 q neg a b).map fun d=>(d,H)
@[go_sem] theorem VS (q : EqK) (neg : Bool) (x y : X) : evO call get H (.eqk q neg x y) = jT H q neg (get x) (get y) := (rfl)
@[go_sem] theorem J0 (x y : Bool) : jT H .bool false (some (.t (.bool x))) (some (.t (.bool y))) = some (.t (.bool (x == y)), H) := (rfl)
@[go_sem] theorem FZ (x y : Bool) : jT H .bool true (some (.t (.bool x))) (some (.t (.bool y))) = some (.t (.bool (!(x == y))), H) := (rfl)
def Dq:List T→List T→Bool
 | .int _ a::xs,.int _ b::ys=>decide (a=b)&&Dq xs ys
 | _,_=>true
def wS:Nat→List T→List T→Bool
 | 0,[],[]=>true
 | n+1,.int j _::xs,.int k _::ys=>decide (j=k)&&wS n xs ys
 | _,_,_=>false
@[go_sem] theorem Nk (k j : IntKind) (a b : Int) (xs ys : List T) : Dq (.int k a :: xs) (.int j b :: ys) = (decide (a = b) && Dq xs ys) := (rfl)
@[go_sem] theorem QH : Dq [] [] = true := (rfl)
@[go_sem] theorem QI : wS 0 [] [] = true := (rfl)
@[go_sem] theorem Nl (n : Nat) (k : IntKind) (a b : Int) (xs ys : List T) : wS (n + 1) (.int k a :: xs) (.int k b :: ys) = wS n xs ys := by simp [wS]
theorem oL:∀ {n:Nat} {xs ys:List T},wS n xs ys=true→xs.length=n∧fJ xs ys=some (Dq xs ys)
 | 0,[],[],_=>⟨rfl,rfl⟩
 | 0,[],_::_,h=>by simp[wS]at h
 | 0,_::_,_,h=>by simp[wS]at h
 | n+1,[],_,h=>by simp[wS]at h
 | n+1,x::xs,[],h=>by cases x<;>simp[wS]at h
 | n+1,x::xs,y::ys,h=>by
   cases x<;>cases y<;>simp only[wS,aLr,decide_eq_true_eq,aLt]at h
   obtain⟨rfl,h⟩:=h
   obtain⟨h1,h2⟩:=oL h
   exact⟨by simp[h1],by simp[fJ,h2,Dq,MZ]⟩
@[go_sem] theorem J1 (n : Nat) (xs ys : List T) (h : wS n xs ys = true) : jT H (.ints n) false (some (.t (.agg xs))) (some (.t (.agg ys))) = some (.t (.bool (Dq xs ys)), H) := by
 obtain⟨h1,h2⟩:=oL h;simp[jT,C9,eqD,h1,h2]
@[go_sem] theorem F3 (n : Nat) (xs ys : List T) (h : wS n xs ys = true) : jT H (.ints n) true (some (.t (.agg xs))) (some (.t (.agg ys))) = some (.t (.bool (!Dq xs ys)), H) := by
 obtain⟨h1,h2⟩:=oL h;simp[jT,C9,eqD,h1,h2]
@[go_sem] theorem Nn (id ep n : Nat) (h : 0 < n) : jT H .sl false (some (.ref id ep n)) (some .nil) = some (.t (.bool false), H) := by
 cases n with
 | zero=>omega
 | succ n=>rfl
@[go_sem] theorem No : jT H .sl false (some .nil) (some .nil) = some (.t (.bool true), H) := (rfl)
@[go_sem] theorem Np : jT H .sl false (some (.t (.sl []))) (some .nil) = some (.ub, H) := (rfl)
@[go_sem] theorem J2 : jT H .sl true (some (.t (.sl []))) (some .nil) = some (.ub, H) := (rfl)
@[go_sem] theorem J3 : jT H .sl true (some .nil) (some .nil) = some (.t (.bool false), H) := (rfl)
def QJ(a:D):Option (D×ae):=(Qb a).map fun d=>(d,H)
@[go_sem] theorem Xo (x : X) : evO call get H (.nc x) = (get x).bind (QJ H) := (rfl)
@[go_sem] theorem S6 (id off : Nat) : QJ H (.bp id off) = some (.bp id off, H) := (rfl)
@[go_sem] theorem S7 (id ep n i off : Nat) : QJ H (.ap id ep n i off) = some (.ap id ep n i off, H) := (rfl)
@[go_sem] theorem S8 (cs : List T) : QJ H (.ep cs) = some (.ep cs, H) := (rfl)
def J4(off:Nat)(a:D):Option (D×ae):=(wA a off).map fun d=>(d,H)
@[go_sem] theorem Xp (x : X) (off : Nat) : evO call get H (.fa x off) = (get x).bind (J4 H off) := (rfl)
@[go_sem] theorem S9 (id o off : Nat) : J4 H off (.bp id o) = some (.bp id (o + off), H) := (rfl)
@[go_sem] theorem Ta (id ep n i o off : Nat) : J4 H off (.ap id ep n i o) = some (.ap id ep n i (o + off), H) := (rfl)
@[go_sem] theorem Tc (cs : List T) (off : Nat) : J4 H off (.ep cs) = some (.ep (cs.drop off), H) := (rfl)
@[go_sem] theorem Xq (cs : List D) : cut cs 0 0 = some [] := by simp [cut]
@[go_sem] theorem Xr (c : D) (cs : List D) : cut (c :: cs) 0 1 = some [c] := by simp [cut]
@[go_sem] theorem Xs (c : D) (cs : List D) (n : Nat) : cut (c :: cs) 0 (n + 1) = fj c (cut cs 0 n) := by
 simp only[cut,fj];by_cases h:n≤cs.length<;>simp[h]
@[go_sem] theorem Xt (c : D) (cs : List D) (off n : Nat) : cut (c :: cs) (off + 1) n = cut cs off n := by
 simp only[cut,List.length_cons,List.drop_succ_cons]
 by_cases h:off+n≤cs.length
 · rw[if_pos h,if_pos (by omega)]
 · rw[if_neg h,if_neg (by omega)]
@[go_sem] theorem Nq (c : D) : cn false [c] = some c := (rfl)
@[go_sem] theorem Nr (cs : List D) : cn true cs = some (jR cs) := (rfl)
def mkA(cs:List D):Option (List T)→D
 | some ts=> .t (.agg ts)
 | none=> .agg cs
@[go_sem] theorem QK (cs : List D) (ts : List T) : mkA cs (some ts) = .t (.agg ts) := (rfl)
@[go_sem] theorem QL (cs : List D) : mkA cs none = .agg cs := (rfl)
@[go_sem] theorem QM (cs : List D) : jR cs = mkA cs (ik cs) := by unfold jR; cases ik cs <;> rfl
@[go_sem] theorem QN : ik [] = some [] := (rfl)
@[go_sem] theorem VT (x : T) (r : List D) : ik (.t x :: r) = fj x (ik r) := (rfl)
@[go_sem] theorem VU (r : List D) : ik (.nil :: r) = none := (rfl)
@[go_sem] theorem QO (a b c : Nat) (r : List D) : ik (.ref a b c :: r) = none := (rfl)
@[go_sem] theorem QP (a b c d e : Nat) (r : List D) : ik (.sub a b c d e :: r) = none := (rfl)
@[go_sem] theorem BQ (l : List T) : ik (l.map .t) = some l := by induction l with | nil => rfl | cons a l ih => simp [ik, ih]
def Ns(off n:Nat)(agg:Bool)(a:D):Option (D×ae):=(kM a off n agg).map fun d=>(d,H)
@[go_sem] theorem Xu (x : X) (off n : Nat) (agg : Bool) : evO call get H (.fl x off n agg) = (get x).bind (Ns H off n agg) := (rfl)
def ofC(agg:Bool)(cs:Option (List D)):Option (D×ae):=(cs.bind (cn agg)).bind (S2 H)
@[go_sem] theorem Xv (c : D) : ofC H false (some [c]) = some (c, H) := (rfl)
@[go_sem] theorem Xw (cs : List D) : ofC H true (some cs) = some (jR cs, H) := (rfl)
@[go_sem] theorem VV (cs : List T) (off n : Nat) (agg : Bool) : Ns H off n agg (.t (.agg cs)) = ofC H agg (cut (cs.map .t) off n) := by
 simp only[Ns,kM,D.isAgg,if_true,D.cells,T.cells,ofC];cases (cut (cs.map .t) off n).bind (cn agg)<;>rfl
@[go_sem] theorem QQ (cs : List D) (off n : Nat) (agg : Bool) : Ns H off n agg (.agg cs) = ofC H agg (cut cs off n) := by
 simp only[Ns,kM,D.isAgg,if_true,D.cells,ofC];cases (cut cs off n).bind (cn agg)<;>rfl
@[go_sem] theorem Td (n : Nat) : idx (n : Int) = some n := by simp [idx]
@[go_sem] theorem Xx : idx 0 = some 0 := (rfl)
theorem F4{i:Int}(h:0≤i):idx i=some i.toNat:=by simp[idx,h]
def F5(sz:Nat)(x i:Option D):Option (D×ae):=x.bind fun a=>(i.bind intOf).bind fun n=>(qg H a n sz).map fun d=>(d,H)
@[go_sem] theorem Xy (x i : X) (sz : Nat) : evO call get H (.ia x i sz) = F5 H sz (get x) (get i) := (rfl)
def BR(sz:Nat)(e:T):Option (D×ae):=if e.cells.length=sz then some (.ep e.cells,H)else none
def Te(sz:Nat)(es:List T)(j:Nat):Option (D×ae):=es[j]?.bind (BR H sz)
@[go_sem] theorem Tf (sz : Nat) (es : List T) (j : Nat) : Te H sz es j = es[j]?.bind (BR H sz) := (rfl)
@[go_sem] theorem Tg (k : IntKind) (es : List T) (n : Int) (sz : Nat) : F5 H sz (some (.t (.sl es))) (some (.t (.int k n))) = (idx n).bind (Te H sz es) := by
 simp only[F5,aLq,intOf,qg]
 cases idx n with
 | none=>rfl
 | some j=>
   simp only[aLq,Te]
   cases es[j]? with
   | none=>rfl
   | some e=>simp only[aLq,BR];split<;>rfl
@[go_sem] theorem QR (k : IntKind) (n : Int) : BR H 1 (.int k n) = some (.ep [.int k n], H) := (rfl)
@[go_sem] theorem Nt (b : Bool) : BR H 1 (.bool b) = some (.ep [.bool b], H) := (rfl)
@[go_sem] theorem Th (es : List T) : BR H 1 (.sl es) = some (.ep [.sl es], H) := (rfl)
def gF{α:Type}:Nat→List α→Bool
 | 0,[]=>true
 | n+1,_::r=>gF n r
 | _,_=>false
@[go_sem] theorem Ti {α : Type} : gF 0 ([] : List α) = true := (rfl)
@[go_sem] theorem Tj {α : Type} (n : Nat) (a : α) (l : List α) : gF (n + 1) (a :: l) = gF n l := (rfl)
theorem cU{α:Type}:∀ {n:Nat} {l:List α},gF n l=true↔l.length=n
 | 0,[]=>by simp[gF]
 | 0,_::_=>by simp[gF]
 | n+1,[]=>by simp[gF]
 | n+1,_::r=>by simp only[gF,List.length_cons,Nat.add_right_cancel_iff];exact cU
@[go_sem] theorem QS (cs : List T) (sz : Nat) : BR H sz (.agg cs) = if gF sz cs = true then some (.ep cs, H) else none := by
 by_cases h:cs.length=sz
 · rw[BR,if_pos (show(T.agg cs).cells.length=sz from h),if_pos (cU.2 h)];rfl
 · rw[BR,if_neg (show ¬(T.agg cs).cells.length=sz from h),if_neg fun e=>h (cU.1 e)]
def F6(sz id ep n j:Nat):Option Obj→Option (D×ae)
 | some (.arr sz' _ ep' es)=>if ep=ep'∧n=es.length then(if j<n∧sz'=sz then some (.ap id ep n j 0,H)else none)else none
 | _=>none
@[go_sem] theorem QT (k : IntKind) (id ep n : Nat) (i : Int) (sz : Nat) : F5 H sz (some (.ref id ep n)) (some (.t (.int k i))) = (idx i).bind fun j => F6 H sz id ep n j H[id]? := by
 simp only[F5,aLq,intOf,qg]
 cases idx i with
 | none=>rfl
 | some j=>
   simp only[aLq,cQ]
   generalize H[id]?=o
   rcases o with _ | (_ | ⟨sz',pin,ep',es⟩)
   · rfl
   · rfl
   · simp only[F6]
     by_cases h:ep=ep'∧n=es.length
     · rw[if_pos h,if_pos h,aLq];split<;>rfl
     · rw[if_neg h,if_neg h];rfl
@[go_sem] theorem Nu (sz id ep n j sz' : Nat) (pin : Bool) (ep' : Nat) (es : List D) : F6 H sz id ep n j (some (.arr sz' pin ep' es)) =
 if ep=ep'∧n=es.length then(if j<n∧sz'=sz then some (.ap id ep n j 0,H)else none)else none:=(rfl)
def F7(sz id ep n lo hi j:Nat):Option Obj→Option (D×ae)
 | some (.arr sz' _ ep' es)=>if ep=ep'∧n=es.length then(if lo+j<hi∧hi≤n∧sz'=sz then some (.ap id ep n (lo+j) 0,H)else none)else none
 | _=>none
@[go_sem] theorem QU (k : IntKind) (id ep n lo hi : Nat) (i : Int) (sz : Nat) : F5 H sz (some (.sub id ep n lo hi)) (some (.t (.int k i))) = (idx i).bind fun j => F7 H sz id ep n lo hi j H[id]? := by
 simp only[F5,aLq,intOf,qg]
 cases idx i with
 | none=>rfl
 | some j=>
   simp only[aLq,cQ]
   generalize H[id]?=o
   rcases o with _ | (_ | ⟨sz',pin,ep',es⟩)
   · rfl
   · rfl
   · simp only[F7]
     by_cases h:ep=ep'∧n=es.length
     · rw[if_pos h,if_pos h,aLq];split<;>rfl
     · rw[if_neg h,if_neg h];rfl
@[go_sem] theorem Nv (sz id ep n lo hi j sz' : Nat) (pin : Bool) (ep' : Nat) (es : List D) : F7 H sz id ep n lo hi j (some (.arr sz' pin ep' es)) =
 if ep=ep'∧n=es.length then(if lo+j<hi∧hi≤n∧sz'=sz then some (.ap id ep n (lo+j) 0,H)else none)else none:=(rfl)
def Tk(len sz:Nat)(agg:Bool)(x i:Option D):Option (D×ae):=x.bind fun a=>(i.bind intOf).bind fun n=>(idx n).bind fun j=>(pJ a j len sz agg).map fun d=>(d,H)
def Nw(len sz:Nat)(agg:Bool)(a:D)(j:Nat):Option (D×ae):=(pJ a j len sz agg).map fun d=>(d,H)
@[go_sem] theorem Xz (x i : X) (len sz : Nat) (agg : Bool) : evO call get H (.ix x i len sz agg) = Tk H len sz agg (get x) (get i) := (rfl)
@[go_sem] theorem Tm (len sz : Nat) (agg : Bool) (a : D) (k : IntKind) (n : Int) : Tk H len sz agg (some a) (some (.t (.int k n))) = (idx n).bind (Nw H len sz agg a) := by
 simp only[Tk,aLq,intOf];cases idx n<;>rfl
@[go_sem] theorem QV (len j : Nat) (ts : List T) (h : j < len) (hs : (ts.all fun t => t.scalar) = true) : Nw H len 1 false (.t (.agg ts)) j = (ts[j]?).map fun t => (.t t, H) := by
 have h0:len≠0:=by omega
 unfold Nw pJ
 rw[if_neg h0,if_pos h]
 unfold kM cut
 simp only[D.isAgg,D.cells,T.cells,if_true,Nat.mul_one,List.length_map]
 by_cases hj:j<ts.length
 · rw[if_pos (by omega),aLc hj]
   have e:((ts.map D.t).drop j).take 1=[D.t ts[j]]:=by
    rw[List.drop_eq_getElem_cons (by simpa using hj)];simp
   rw[e];rfl
 · rw[if_neg (by omega),aLm (by omega)];rfl
def F8(len sz:Nat)(x i:Option D):Option (D×ae):=x.bind fun a=>(i.bind intOf).bind fun n=>(idx n).bind fun j=>if j<len then(wA a (j*sz)).map fun d=>(d,H)else none
@[go_sem] theorem VW (x i : X) (len sz : Nat) : evO call get H (.iaa x i len sz) = F8 H len sz (get x) (get i) := (rfl)
def VX(len sz:Nat)(a:D)(j:Nat):Option (D×ae):=if j<len then J4 H (j*sz) a else none
@[go_sem] theorem Tn (len sz : Nat) (a : D) (j : Nat) : VX H len sz a j = if j < len then J4 H (j * sz) a else none := (rfl)
@[go_sem] theorem QW (len sz : Nat) (a : D) (k : IntKind) (n : Int) : F8 H len sz (some a) (some (.t (.int k n))) = (idx n).bind (VX H len sz a) := by
 simp only[F8,aLq,intOf];cases idx n<;>rfl
def AI(n:Nat)(agg:Bool)(a:D):Option (D×ae):=(lZ H a n agg).map fun d=>(d,H)
@[go_sem] theorem XA (x : X) (n : Nat) (agg : Bool) : evO call get H (.ld x n agg) = (get x).bind (AI H n agg) := (rfl)
def BS(off n:Nat)(agg:Bool):Option Obj→Option (D×ae)
 | some (.box cs)=>ofC H agg (cut cs off n)
 | _=>none
@[go_sem] theorem QX (off n : Nat) (agg : Bool) (cs : List D) : BS H off n agg (some (.box cs)) = ofC H agg (cut cs off n) := (rfl)
@[go_sem] theorem To (id off n : Nat) (agg : Bool) : AI H n agg (.bp id off) = BS H off n agg H[id]? := by
 simp only[AI,lZ]
 generalize H[id]?=o
 rcases o with _ | (cs | _)
 · rfl
 · simp only[BS,ofC];cases (cut cs off n).bind (cn agg)<;>rfl
 · rfl
@[go_sem] theorem Tp (cs : List T) (n : Nat) (agg : Bool) : AI H n agg (.ep cs) = ofC H agg (cut (cs.map .t) 0 n) := by
 simp only[AI,lZ,ofC];cases (cut _ 0 n).bind (cn agg)<;>rfl
def QY(off n:Nat)(agg:Bool)(e:D):Option (D×ae):=ofC H agg (cut e.cells off n)
@[go_sem] theorem Ts (off n : Nat) (agg : Bool) (e : D) : QY H off n agg e = ofC H agg (cut e.cells off n) := (rfl)
def F9(ep m i off n:Nat)(agg:Bool):Option Obj→Option (D×ae)
 | some (.arr _ _ ep' es)=>if ep=ep'∧m=es.length then es[i]?.bind (QY H off n agg)else none
 | _=>none
@[go_sem] theorem QZ (ep m i off n : Nat) (agg : Bool) (sz : Nat) (pin : Bool) (ep' : Nat) (es : List D) :
 F9 H ep m i off n agg (some (.arr sz pin ep' es))=if ep=ep'∧m=es.length then es[i]?.bind (QY H off n agg)else none:=(rfl)
@[go_sem] theorem Tt (id ep m i off n : Nat) (agg : Bool) : AI H n agg (.ap id ep m i off) = F9 H ep m i off n agg H[id]? := by
 simp only[AI,lZ,cQ]
 generalize H[id]?=o
 rcases o with _ | (_ | ⟨sz',pin,ep',es⟩)
 · rfl
 · rfl
 · simp only[F9]
   by_cases h:ep=ep'∧m=es.length
   · rw[if_pos h,if_pos h,aLq]
     cases es[i]? with
     | none=>rfl
     | some e=>simp only[aLq,QY,ofC];cases (cut e.cells off n).bind (cn agg)<;>rfl
   · rw[if_neg h,if_neg h];rfl
@[go_sem] theorem J5 (cs : List D) : (D.agg cs).cells = cs := (rfl)
@[go_sem] theorem Q0 (x : T) : (D.t x).cells = x.cells.map .t := (rfl)
@[go_sem] theorem J6 : D.nil.cells = [.nil] := (rfl)
@[go_sem] theorem Nx (a b : Nat) : (D.bp a b).cells = [.bp a b] := (rfl)
@[go_sem] theorem J7 (a b c : Nat) : (D.ref a b c).cells = [.ref a b c] := (rfl)
@[go_sem] theorem J8 (a b c d e : Nat) : (D.sub a b c d e).cells = [.sub a b c d e] := (rfl)
@[go_sem] theorem Ny (f : Nat) (cs : List D) : (D.fn f cs).cells = [.fn f cs] := (rfl)
@[go_sem] theorem Ga : D.nilp.cells = [.nilp] := (rfl)
@[go_sem] theorem J9 (cs : List T) : (T.agg cs).cells = cs := (rfl)
@[go_sem] theorem Ka (k : IntKind) (n : Int) : (T.int k n).cells = [.int k n] := (rfl)
@[go_sem] theorem Gb (b : Bool) : (T.bool b).cells = [.bool b] := (rfl)
@[go_sem] theorem Kb (b : ByteArray) : (T.str b).cells = [.str b] := (rfl)
@[go_sem] theorem Nz (es : List T) : (T.sl es).cells = [.sl es] := (rfl)
def fits(n:Nat)(v:D):Bool:=decide (v.cells.length=n)&&v.dK
section
variable (n : Nat)
@[go_sem] theorem fits_int (k : IntKind) (a : Int) : fits 1 (.t (.int k a)) = true := (rfl)
@[go_sem] theorem fits_bool (b : Bool) : fits 1 (.t (.bool b)) = true := (rfl)
@[go_sem] theorem Tu (es : List T) : fits 1 (.t (.sl es)) = true := (rfl)
@[go_sem] theorem Q1 : fits 1 .nil = true := (rfl)
@[go_sem] theorem Q2 (a b c : Nat) : fits 1 (.ref a b c) = true := (rfl)
@[go_sem] theorem Q3 (a b c d e : Nat) : fits 1 (.sub a b c d e) = true := (rfl)
@[go_sem] theorem Tv (a b : Nat) : fits 1 (.bp a b) = true := (rfl)
@[go_sem] theorem Tw (f : Nat) (cs : List D) : fits 1 (.fn f cs) = true := (rfl)
@[go_sem] theorem Q4 (cs : List D) : fits n (.agg cs) = gF n cs := by rw [Bool.eq_iff_iff, cU]; show (decide (cs.length = n) && true) = true ↔ _; simp
@[go_sem] theorem NA (cs : List T) : fits n (.t (.agg cs)) = gF n cs := by rw [Bool.eq_iff_iff, cU]; simp [fits, D.cells, T.cells, D.dK]
end
@[go_sem] theorem Gc {α : Type} (cs : List α) : aD cs 0 [] = some cs := by simp [aD]
@[go_sem] theorem Gd {α : Type} (c x : α) (cs xs : List α) : aD (c :: cs) 0 (x :: xs) = fj x (aD cs 0 xs) := by
 simp only[aD,fj];by_cases h:xs.length≤cs.length<;>simp[h]
@[go_sem] theorem Ge {α : Type} (c : α) (cs : List α) (off : Nat) (xs : List α) : aD (c :: cs) (off + 1) xs = fj c (aD cs off xs) := by
 simp only[aD,fj,List.length_cons]
 by_cases h:off+xs.length≤cs.length
 · rw[if_pos h,if_pos (by omega)];simp[show off+1+xs.length=(off+xs.length)+1 by omega]
 · rw[if_neg h,if_neg (by omega)];rfl
def Gf(n:Nat)(live:List (Nat×Nat))(a x:Option D):Option (D×ae):=a.bind fun p=>x.bind fun d=>(mM H p d n).bind fun H'=>(im H' p live).map fun H''=>(.tup [],H'')
@[go_sem] theorem XB (a x : X) (n : Nat) (live : List (Nat × Nat)) : evO call get H (.st a x n live) = Gf H n live (get a) (get x) := (rfl)
def pZ(H:ae)(id:Nat)(live:List (Nat×Nat)):Option (D×ae):=(im H (.bp id 0) live).map fun H'=>(.tup [],H')
def vk(id:Nat)(live:List (Nat×Nat))(cs:List D):Option (D×ae):=pZ (H.set id (.box cs)) id live
@[go_sem] theorem NB (id : Nat) (live : List (Nat × Nat)) (cs : List D) : vk H id live cs = pZ (H.set id (.box cs)) id live := (rfl)
@[go_sem] theorem Kc (H : ae) (id : Nat) : pZ H id [] = some (.tup [], H) := (rfl)
def Gg(id off:Nat)(live:List (Nat×Nat))(xs:List D):Option Obj→Option (D×ae)
 | some (.box cs)=>(aD cs off xs).bind (vk H id live)
 | _=>none
@[go_sem] theorem Q5 (id off : Nat) (live : List (Nat × Nat)) (xs cs : List D) : Gg H id off live xs (some (.box cs)) = (aD cs off xs).bind (vk H id live) := (rfl)
@[go_sem] theorem Tx (n id off : Nat) (live : List (Nat × Nat)) (v : D) : Gf H n live (some (.bp id off)) (some v) = if fits n v = true then Gg H id off live v.cells H[id]? else none := by
 by_cases h:fits n v=true
 case neg=>
  rw[if_neg h]
  simp only[fits,aLr,decide_eq_true_eq]at h
  simp only[Gf,aLq,mM,if_neg h];rfl
 rw[if_pos h]
 simp only[fits,aLr,decide_eq_true_eq]at h
 simp only[Gf,aLq,mM,h.1,h.2,and_self,if_true]
 generalize H[id]?=o
 rcases o with _ | (cs | _)
 · rfl
 · simp only[Gg]
   cases aD cs off v.cells with
   | none=>rfl
   | some cs'=>simp only[aLw,aLq,vk,pZ,im]
 · rfl
def rW(id sz ep i:Nat)(es:List D)(agg:Bool)(cs:List D):Option (D×ae):=(cn agg cs).bind fun e=>if e.dK then some (.tup [],H.set id (.arr sz false ep (es.set i e)))else none
def Q6(id sz ep i off:Nat)(es xs:List D)(e:D):Option (D×ae):=(aD e.cells off xs).bind (rW H id sz ep i es e.isAgg)
@[go_sem] theorem Ty (id sz ep i off : Nat) (es xs : List D) (e : D) : Q6 H id sz ep i off es xs e = (aD e.cells off xs).bind (rW H id sz ep i es e.isAgg) := (rfl)
@[go_sem] theorem NC (cs : List D) : (D.agg cs).isAgg = true := (rfl)
@[go_sem] theorem Kd (cs : List T) : (D.t (.agg cs)).isAgg = true := (rfl)
@[go_sem] theorem ND (k : IntKind) (n : Int) : (D.t (.int k n)).isAgg = false := (rfl)
@[go_sem] theorem Ke (b : Bool) : (D.t (.bool b)).isAgg = false := (rfl)
@[go_sem] theorem NF (b : ByteArray) : (D.t (.str b)).isAgg = false := (rfl)
@[go_sem] theorem Q7 (es : List T) : (D.t (.sl es)).isAgg = false := (rfl)
@[go_sem] theorem NG : D.nil.isAgg = false := (rfl)
@[go_sem] theorem NH (a b c : Nat) : (D.ref a b c).isAgg = false := (rfl)
@[go_sem] theorem NI (a b c d e : Nat) : (D.sub a b c d e).isAgg = false := (rfl)
@[go_sem] theorem Tz (id sz ep i : Nat) (es : List D) (x : T) : rW H id sz ep i es false [.t x] = some (.tup [], H.set id (.arr sz false ep (es.set i (.t x)))) := (rfl)
@[go_sem] theorem NJ (id sz ep i : Nat) (es : List D) : rW H id sz ep i es false [.nil] = some (.tup [], H.set id (.arr sz false ep (es.set i .nil))) := (rfl)
@[go_sem] theorem NK (id sz ep i a b c : Nat) (es : List D) : rW H id sz ep i es false [.ref a b c] = some (.tup [], H.set id (.arr sz false ep (es.set i (.ref a b c)))) := (rfl)
theorem tO(cs:List D):(jR cs).dK=true:=by unfold jR;cases ik cs<;>rfl
@[go_sem] theorem TA (id sz ep i : Nat) (es cs : List D) : rW H id sz ep i es true cs = some (.tup [], H.set id (.arr sz false ep (es.set i (jR cs)))) := by
 simp[rW,cn,tO]
def Gi(id ep m i off:Nat)(xs:List D):Option Obj→Option (D×ae)
 | some (.arr sz pin ep' es)=>if ep=ep'∧m=es.length then(if pin then none else es[i]?.bind (Q6 H id sz ep i off es xs))else none
 | _=>none
@[go_sem] theorem Q8 (id ep m i off : Nat) (xs : List D) (sz : Nat) (pin : Bool) (ep' : Nat) (es : List D) :
 Gi H id ep m i off xs (some (.arr sz pin ep' es))=if ep=ep'∧m=es.length then(if pin=true then none else es[i]?.bind (Q6 H id sz ep i off es xs))else none:=(rfl)
@[go_sem] theorem TC (n id ep m i off : Nat) (v : D) : Gf H n [] (some (.ap id ep m i off)) (some v) = if fits n v = true then Gi H id ep m i off v.cells H[id]? else none := by
 by_cases h:fits n v=true
 case neg=>
  rw[if_neg h]
  simp only[fits,aLr,decide_eq_true_eq]at h
  simp only[Gf,aLq,mM,if_neg h];rfl
 rw[if_pos h]
 simp only[fits,aLr,decide_eq_true_eq]at h
 simp only[Gf,aLq,mM,h.1,h.2,and_self,if_true,cQ]
 generalize H[id]?=o
 rcases o with _ | (_ | ⟨sz',pin,ep',es⟩)
 · rfl
 · rfl
 · simp only[Gi]
   by_cases h:ep=ep'∧m=es.length
   · rw[if_pos h,if_pos h,aLq]
     cases pin with
     | true=>rfl
     | false=>
       simp only[aLt,if_false]
       cases es[i]? with
       | none=>rfl
       | some e=>
         simp only[aLq,Q6]
         cases aD e.cells off v.cells with
         | none=>rfl
         | some cs'=>
           simp only[aLq,rW]
           cases cn e.isAgg cs' with
           | none=>rfl
           | some e'=>
             simp only[aLq]
             by_cases h3:e'.dK=true
             · rw[if_pos h3,if_pos h3,h.1];rfl
             · rw[if_neg h3,if_neg h3];rfl
   · rw[if_neg h,if_neg h];rfl
def Gj(zero:List D)(ps:List (Nat×Nat×D)):Option (D×ae):=(kK zero ps).map fun cs=>(jR cs,H)
@[go_sem] theorem XC (zero : List D) (parts : List (Nat × Nat × X)) : evO call get H (.bd zero parts) = (fM get parts).bind (Gj H zero) := (rfl)
@[go_sem] theorem Dr : fM get [] = some [] := (rfl)
def NL(off n:Nat)(r:List (Nat×Nat×X))(d:D):Option (List (Nat×Nat×D)):=fj (off,n,d) (fM get r)
@[go_sem] theorem Q9 (off n : Nat) (r : List (Nat × Nat × X)) (d : D) : NL get off n r d = fj (off, n, d) (fM get r) := (rfl)
@[go_sem] theorem BT (off n : Nat) (x : X) (r : List (Nat × Nat × X)) : fM get ((off, n, x) :: r) = (get x).bind (NL get off n r) := (rfl)
@[go_sem] theorem Ra (zero : List D) : Gj H zero [] = some (jR zero, H) := (rfl)
def bdC(r:List (Nat×Nat×D))(z:List D):Option (D×ae):=Gj H z r
@[go_sem] theorem VY (r : List (Nat × Nat × D)) (z : List D) : bdC H r z = Gj H z r := (rfl)
@[go_sem] theorem NM (zero : List D) (off n : Nat) (x : D) (r : List (Nat × Nat × D)) : Gj H zero ((off, n, x) :: r) = if fits n x = true then (aD zero off x.cells).bind (bdC H r) else none := by
 by_cases h:fits n x=true
 case neg=>
  rw[if_neg h]
  have h2:(x.dK&&x.cells.length==n)=false:=by rw[← Bool.not_eq_true,Bool.and_comm];simpa [fits]using h
  simp only[Gj,kK,h2];rfl
 rw[if_pos h]
 simp only[fits,aLr,decide_eq_true_eq]at h
 simp only[Gj,kK,h.1,h.2,beq_self_eq_true,Bool.and_self,if_true]
 cases aD zero off x.cells<;>rfl
def bu(n:Nat):List T→Bool
 | []=>true
 | x::r=>gF n x.cells&&bu n r
@[go_sem] theorem Dt (n : Nat) : bu n [] = true := (rfl)
@[go_sem] theorem ly (n : Nat) (x : T) (r : List T) : bu n (x :: r) = (gF n x.cells && bu n r) := (rfl)
def p0(sz:Nat)(ds:List D):Option (D×ae):=if ds.all (fun d=>d.cells.length==sz)then(aY (frz H depth) ds).map fun ts=>(.t (.sl ts),pins H (ds.flatMap (cB H depth)))else none
@[go_sem] theorem XD (xs : List X) (sz : Nat) : evO call get H (.bs xs sz) = (aY get xs).bind (p0 H sz) := (rfl)
theorem NN(sz:Nat)(ds:List D)(ts:List T)(h:ik ds=some ts)(hc:bu sz ts=true):p0 H sz ds=some (.t (.sl ts),H):=by
 have key:∀(ds:List D) (ts:List T),ik ds=some ts→bu sz ts=true→ds.all (fun d=>d.cells.length==sz)=true∧aY (frz H depth) ds=some ts∧ds.flatMap (cB H depth)=[]:=by
  intro ds
  induction ds with
  | nil=>intro ts h hc;simp[ik]at h;subst h;simp[aY]
  | cons d ds ih=>
    intro ts h hc
    cases d with
    | t x=>
      simp only[ik,aLb]at h
      obtain⟨r,hr,rfl⟩:=h
      simp only[bu,aLr,cU]at hc
      obtain⟨h1,h2,h3⟩:=ih r hr hc.2
      refine⟨by rw[List.all_cons,h1,Bool.and_true];simp[D.cells,hc.1],by simp[aY,frz,h2],by rw[List.flatMap_cons,h3];simp[cB]⟩
    | _=>simp[ik]at h
 obtain⟨h1,h2,h3⟩:=key ds ts h hc
 simp[p0,h1,h2,h3,pins]
theorem je(sz:Nat)(ts:List T):p0 H sz (ts.map D.t)=if bu sz ts=true then some (.t (.sl ts),H)else none:=by
 by_cases h:bu sz ts=true
 · rw[if_pos h];exact NN H sz _ ts (BQ ts) h
 · rw[if_neg h]
   have:(ts.map D.t).all (fun d=>d.cells.length==sz)=false:=by
    rw[← Bool.not_eq_true];intro ha;apply h
    clear h
    induction ts with
    | nil=>rfl
    | cons a r ih=>
      simp only[List.map_cons,List.all_cons,aLr,beq_iff_eq]at ha
      simp only[bu,aLr,cU]
      exact⟨by simpa [D.cells]using ha.1,ih ha.2⟩
   simp only[p0,this];rfl
@[go_sem] theorem VZ (sz : Nat) : p0 H sz [] = some (.t (.sl []), H) := (rfl)
@[go_sem] theorem V0 (sz : Nat) (a : T) : p0 H sz [.t a] = if bu sz [a] = true then some (.t (.sl [a]), H) else none := je H sz [a]
@[go_sem] theorem V1 (sz : Nat) (a b : T) : p0 H sz [.t a, .t b] = if bu sz [a, b] = true then some (.t (.sl [a, b]), H) else none := je H sz [a, b]
@[go_sem] theorem V2 (sz : Nat) (a b c : T) : p0 H sz [.t a, .t b, .t c] = if bu sz [a, b, c] = true then some (.t (.sl [a, b, c]), H) else none := je H sz [a, b, c]
@[go_sem] theorem V3 (sz : Nat) (a b c d : T) : p0 H sz [.t a, .t b, .t c, .t d] = if bu sz [a, b, c, d] = true then some (.t (.sl [a, b, c, d]), H) else none := je H sz [a, b, c, d]
@[go_sem] theorem V4 (sz : Nat) (a b c d e : T) : p0 H sz [.t a, .t b, .t c, .t d, .t e] = if bu sz [a, b, c, d, e] = true then some (.t (.sl [a, b, c, d, e]), H) else none := je H sz [a, b, c, d, e]
def NQ(a:D):Option (D×ae):=(Qa a).map fun(n:Nat)=>(D.t (.int .i64 (n:Int)),H)
@[go_sem] theorem XE (x : X) : evO call get H (.ln x) = (get x).bind (NQ H) := (rfl)
@[go_sem] theorem TD (es : List T) : NQ H (.t (.sl es)) = some (I es.length, H) := (rfl)
@[go_sem] theorem Rb : NQ H .nil = some (I 0, H) := (rfl)
@[go_sem] theorem Rc (id ep n : Nat) : NQ H (.ref id ep n) = some (I n, H) := (rfl)
@[go_sem] theorem Re (id ep n lo hi : Nat) : NQ H (.sub id ep n lo hi) = some (I ((hi - lo : Nat) : Int), H) := (rfl)
def NR(ds:List D):Option (D×ae):=(Mj ds).map fun d=>(d,H)
def NS(ds:List D):Option (D×ae):=(Mk ds).map fun d=>(d,H)
@[go_sem] theorem XF (xs : List X) : evO call get H (.mn xs) = (aY get xs).bind (NR H) := (rfl)
@[go_sem] theorem XG (xs : List X) : evO call get H (.mx xs) = (aY get xs).bind (NS H) := (rfl)
@[go_sem] theorem V5 (k : IntKind) (a b : Int) : NR H [.t (.int k a), .t (.int k b)] = some (.t (.int k (min a b)), H) := by
 simp only[NR,Mj,pe,if_true,aLw];congr 4;omega
@[go_sem] theorem V6 (k : IntKind) (a b : Int) : NS H [.t (.int k a), .t (.int k b)] = some (.t (.int k (max a b)), H) := by
 simp only[NS,Mk,pe,if_true,aLw];congr 4;omega
@[go_sem] theorem V7 (k : IntKind) (a b c : Int) : NR H [.t (.int k a), .t (.int k b), .t (.int k c)] = some (.t (.int k (min (min a b) c)), H) := by
 simp only[NR,Mj,pe,if_true,aLw];congr 4;omega
@[go_sem] theorem V8 (k : IntKind) (a b c : Int) : NS H [.t (.int k a), .t (.int k b), .t (.int k c)] = some (.t (.int k (max (max a b) c)), H) := by
 simp only[NS,Mk,pe,if_true,aLw];congr 4;omega
def rX(sz:Nat)(x:Option D)(lo hi:Option (Option Int)):Option (D×ae):=x.bind fun a=>lo.bind fun l=>hi.bind fun h=>(gx H a l h sz).map fun d=>(d,H)
@[go_sem] theorem XH (x : X) (lo hi : Option X) (sz : Nat) : evO call get H (.sc x lo hi sz) = rX H sz (get x) (wB get lo) (wB get hi) := (rfl)
def NT:D→Option (Option Int)
 | .t (.int _ n)=>some (some n)
 | _=>none
@[go_sem] theorem Rf (k : IntKind) (n : Int) : NT (.t (.int k n)) = some (some n) := (rfl)
@[go_sem] theorem NU : wB get none = some none := (rfl)
@[go_sem] theorem NV (x : X) : wB get (some x) = (get x).bind NT := by
 simp only[wB];cases get x with
 | none=>rfl
 | some d=>cases d with
   | t y=>cases y<;>rfl
   | _=>rfl
def TE(i:Nat)(a:D):Option (D×ae):=(Ml i a).map fun d=>(d,H)
@[go_sem] theorem XI (x : X) (i : Nat) : evO call get H (.ex x i) = (get x).bind (TE H i) := (rfl)
def exO:Option D→Option (D×ae)
 | some d=>some (d,H)
 | none=>none
@[go_sem] theorem Rg (d : D) : exO H (some d) = some (d, H) := (rfl)
@[go_sem] theorem Rh (i : Nat) (ds : List D) : TE H i (.tup ds) = exO H ds[i]? := by simp only [TE, Ml, exO]; cases ds[i]? <;> rfl
def TF(f:Nat)(ds:List D):Option (D×ae):=some (.fn f ds,H)
@[go_sem] theorem TG (f : Nat) (ds : List D) : TF H f ds = some (.fn f ds, H) := (rfl)
@[go_sem] theorem XJ (f : Nat) (caps : List X) : evO call get H (.mf f caps) = (aY get caps).bind (TF H f) := by simp only [evO, TF]; cases aY get caps <;> rfl
@[go_sem] theorem XK (sz : Nat) : evO call get H (.nw sz) = some (.ref H.length 0 0, H ++ [.arr sz false 0 []]) := (rfl)
def alP(p:List D×ae):Option (D×ae):=some (.bp H.length 0,H++ .box p.1::p.2)
@[go_sem] theorem V9 (cs : List D) (os : ae) : alP H (cs, os) = some (.bp H.length 0, H ++ .box cs :: os) := (rfl)
@[go_sem] theorem XL (zero : List D) (live : List (Nat × Nat)) : evO call get H (.al zero live) = alP H (aW (H.length + 1) zero live) := (rfl)
@[go_sem] theorem Gk (base : Nat) (cs : List D) : aW base cs [] = (cs, []) := (rfl)
def TH(n:Nat)(a:D):Option (D×ae):=if a.cells.length=n∧a.dK then some (.bp H.length 0,H++[.box a.cells])else none
@[go_sem] theorem XM (x : X) (n : Nat) : evO call get H (.bx x n) = (get x).bind (TH H n) := (rfl)
@[go_sem] theorem TI (n : Nat) (a : D) : TH H n a = if fits n a = true then some (.bp H.length 0, H ++ [.box a.cells]) else none := by
 simp[TH,fits]
def Ri(sz:Nat)(zero:D)(n:Option Nat):Option (D×ae):=n.bind fun m=>if m≤lim then some (.ref H.length 0 m,H++[.arr sz false 0 (List.replicate m zero)])else none
def mkN(sz:Nat)(zero:D):D→Option (D×ae)
 | .t (.int _ n)=>Ri H sz zero (idx n)
 | _=>none
@[go_sem] theorem TJ (sz : Nat) (zero : D) (k : IntKind) (n : Int) : mkN H sz zero (.t (.int k n)) = Ri H sz zero (idx n) := (rfl)
@[go_sem] theorem XN (len : X) (zero : D) (sz : Nat) : evO call get H (.mk len zero sz) = (get len).bind (mkN H sz zero) := by
 simp only[evO];cases get len with
 | none=>rfl
 | some d=>cases d with
   | t y=>cases y<;>rfl
   | _=>rfl
@[go_sem] theorem TK (sz : Nat) (zero : D) (m : Nat) (h : m ≤ 4294967296) : Ri H sz zero (some m) = some (.ref H.length 0 m, H ++ [.arr sz false 0 (List.replicate m zero)]) := by
 simp[Ri,lim,h]
def BU(zero:T)(n:Option Nat):Option (D×ae):=n.bind fun m=>if m≤lim then some (.t (.sl (List.replicate m zero)),H)else none
def Wa(zero:T):D→Option (D×ae)
 | .t (.int _ n)=>BU H zero (idx n)
 | _=>none
@[go_sem] theorem Rj (zero : T) (k : IntKind) (n : Int) : Wa H zero (.t (.int k n)) = BU H zero (idx n) := (rfl)
@[go_sem] theorem Wb (len : X) (zero : T) (sz : Nat) : evO call get H (.mkt len zero sz) = (get len).bind (Wa H zero) := by
 simp only[evO];cases get len with
 | none=>rfl
 | some d=>cases d with
   | t y=>cases y<;>rfl
   | _=>rfl
@[go_sem] theorem Rk (zero : T) (m : Nat) (h : m ≤ 4294967296) : BU H zero (some m) = some (.t (.sl (List.replicate m zero)), H) := by
 simp[BU,lim,h]
def BW(sz:Nat)(zero:T)(n:Option Nat):Option (D×ae):=n.bind fun m=>if m≤lim∧0<m then some (.ref H.length 0 m,H++[.arr sz false 0 (List.replicate m (.t zero))])else none
def Wc(sz:Nat)(zero:T):D→Option (D×ae)
 | .t (.int _ n)=>BW H sz zero (idx n)
 | _=>none
@[go_sem] theorem Rl (sz : Nat) (zero : T) (k : IntKind) (n : Int) : Wc H sz zero (.t (.int k n)) = BW H sz zero (idx n) := (rfl)
@[go_sem] theorem Wd (len : X) (zero : T) (sz : Nat) : evO call get H (.mkn len zero sz) = (get len).bind (Wc H sz zero) := by
 simp only[evO];cases get len with
 | none=>rfl
 | some d=>cases d with
   | t y=>cases y<;>rfl
   | _=>rfl
@[go_sem] theorem Rm (sz : Nat) (zero : T) (m : Nat) (h : m ≤ 4294967296) (h0 : 0 < m) : BW H sz zero (some m) = some (.ref H.length 0 m, H ++ [.arr sz false 0 (List.replicate m (.t zero))]) := by
 simp[BW,lim,h,h0]
def iC(sz:Nat)(fz:Bool)(x y:Option D):Option (D×ae):=x.bind fun a=>y.bind fun b=>fT H a b fz sz
@[go_sem] theorem We (x y : X) (fz : Bool) (sz : Nat) : evO call get H (.app x y fz sz) = iC H sz fz (get x) (get y) := (rfl)
def mZ(sz id ep n:Nat)(ys:List D):Option Obj→Option (D×ae)
 | some (.arr sz' pin ep' es)=>if ep=ep'∧n=es.length∧sz'=sz∧n+ys.length≤lim then some (.ref id ep (n+ys.length),H.set id (.arr sz pin ep (es++ys)))else none
 | _=>none
@[go_sem] theorem NW (sz id ep n : Nat) (ys : List D) (pin : Bool) (es : List D) :
 mZ H sz id ep n ys (some (.arr sz pin ep es))=if n=es.length then(if n+ys.length≤4294967296 then some (.ref id ep (n+ys.length),H.set id (.arr sz pin ep (es++ys)))else none)else none:=by
 simp only[mZ,lim]
 by_cases h1:n=es.length
 · rw[if_pos h1]
   by_cases h2:n+ys.length≤4294967296
   · rw[if_pos h2,if_pos ⟨trivial,h1,trivial,h2⟩]
   · rw[if_neg h2,if_neg fun h=>h2 h.2.2.2]
 · rw[if_neg h1,if_neg fun h=>h1 h.2.1]
theorem lz(ts:List T):aY (fun d=>(frz H depth d).map D.t) (ts.map D.t)=some (ts.map D.t):=by
 induction ts with
 | nil=>rfl
 | cons t ts ih=>simp[aY,frz,ih]
theorem vl(ts:List T):(ts.map D.t).flatMap (cB H depth)=[]:=by
 induction ts with
 | nil=>rfl
 | cons t ts ih=>rw[List.map_cons,List.flatMap_cons,ih];simp[cB,depth]
theorem rY(sz:Nat)(fz:Bool)(x:D)(ts:List T)(h:bj sz (ts.map D.t)=false):iC H sz fz (some x) (some (.t (.sl ts)))=none:=by
 have e1:(if fz then aY (fun d=>(frz H depth d).map D.t) (ts.map D.t)else some (ts.map D.t))=some (ts.map D.t):=by
  cases fz<;>simp[lz]
 simp only[iC,aLq,fT,elems,e1,h,aLt,if_false]
def gG(sz:Nat)(ts:List T):Bool:=bj sz (ts.map D.t)
theorem y0(sz id ep n:Nat)(fz:Bool)(ts:List T)(h:gG sz ts=true):iC H sz fz (some (.ref id ep n)) (some (.t (.sl ts)))=mZ H sz id ep n (ts.map .t) H[id]?:=by
 have e1:(if fz then aY (fun d=>(frz H depth d).map D.t) (ts.map D.t)else some (ts.map D.t))=some (ts.map D.t):=by
  cases fz<;>simp[lz]
 have e2:(if fz then pins H ((ts.map D.t).flatMap (cB H depth))else H)=H:=by
  cases fz
  · rfl
  · simp only[if_true];rw[vl];rfl
 unfold gG at h
 simp only[iC,aLq,fT,elems,e1,h,if_true,e2,cQ]
 generalize H[id]?=o
 rcases o with _ | (_ | ⟨sz',pin,ep',es⟩)
 · rfl
 · rfl
 · simp only[mZ]
   by_cases h1:ep=ep'∧n=es.length
   · rw[if_pos h1,aLq]
     by_cases h2:sz'=sz∧n+(ts.map D.t).length≤lim
     · rw[if_pos h2,if_pos ⟨h1.1,h1.2,h2⟩]
     · rw[if_neg h2,if_neg fun h=>h2 h.2.2]
   · rw[if_neg h1,if_neg fun h=>h1 ⟨h.1,h.2.1⟩];rfl
@[go_sem] theorem NX (sz id ep n : Nat) (fz : Bool) (ts : List T) : iC H sz fz (some (.ref id ep n)) (some (.t (.sl ts))) = if gG sz ts = true then mZ H sz id ep n (ts.map .t) H[id]? else none := by
 by_cases h:gG sz ts=true
 · rw[if_pos h,y0 H sz id ep n fz ts h]
 · rw[if_neg h];exact rY H sz fz _ ts (by simpa [gG]using h)
@[go_sem] theorem NY (sz : Nat) (fz : Bool) (ts : List T) : iC H sz fz (some .nil) (some (.t (.sl ts))) =
 if gG sz ts=true then(if ts.length≤4294967296 then some (.ref H.length 0 ts.length,H++[.arr sz false 0 (ts.map .t)])else none)else none:=by
 by_cases h:gG sz ts=true
 · rw[if_pos h]
   have e1:(if fz then aY (fun d=>(frz H depth d).map D.t) (ts.map D.t)else some (ts.map D.t))=some (ts.map D.t):=by
    cases fz<;>simp[lz]
   have e2:(if fz then pins H ((ts.map D.t).flatMap (cB H depth))else H)=H:=by
    cases fz
    · rfl
    · simp only[if_true];rw[vl];rfl
   unfold gG at h
   simp only[iC,aLq,fT,elems,e1,h,if_true,e2,lim,List.length_map]
 · rw[if_neg h];exact rY H sz fz _ ts (by simpa [gG]using h)
@[go_sem] theorem NZ (sz : Nat) : gG sz [] = true := (rfl)
@[go_sem] theorem Kf (sz : Nat) (x : T) (r : List T) : gG sz (x :: r) = gF sz x.cells := by
 rw[Bool.eq_iff_iff,cU];simp[gG,bj,D.cells]
@[go_sem] theorem N0 (l : List Int) (k : IntKind) : gG 1 (l.map (.int k)) = true := by cases l <;> rfl
@[go_sem] theorem Kg (l : List Bool) : gG 1 (l.map .bool) = true := by cases l <;> rfl
@[go_sem] theorem Rn (l : List (List T)) : gG 1 (l.map .sl) = true := by cases l <;> rfl
def vn(call:av)(f raw:Nat)(keep:List Nat)(ds:List D):Option (D×ae):=kL call H f raw keep ds
@[go_sem] theorem XO (f raw : Nat) (keep : List Nat) (xs : List X) : evO call get H (.ca f raw keep xs) = (aY get xs).bind (vn H call f raw keep) := (rfl)
def Wf(call:av)(raw:Nat)(keep:List Nat)(x:Option D)(xs:Option (List D)):Option (D×ae):=x.bind fun
 | .fn f caps=>xs.bind fun ds=>kL call H f raw keep (ds++caps)
 | _=>none
@[go_sem] theorem XP (x : X) (raw : Nat) (keep : List Nat) (xs : List X) : evO call get H (.cw x raw keep xs) = Wf H call raw keep (get x) (aY get xs) := (rfl)
@[go_sem] theorem TL (raw : Nat) (keep : List Nat) (f : Nat) (caps ds : List D) : Wf H call raw keep (some (.fn f caps)) (some ds) = vn H call f raw keep (ds ++ caps) := (rfl)
def fP(H:ae):List D→Option (List T)
 | []=>some []
 | .t x::r=>fj x (fP H r)
 | .nil::r=>fj (.sl []) (fP H r)
 | _::_=>none
@[go_sem] theorem TM : fP H [] = some [] := (rfl)
@[go_sem] theorem TN (x : T) (r : List D) : fP H (.t x :: r) = fj x (fP H r) := (rfl)
@[go_sem] theorem N1 (r : List D) : fP H (.nil :: r) = fj (.sl []) (fP H r) := (rfl)
@[go_sem] theorem N2 (cs : List D) (r : List D) : fP H (.agg cs :: r) = none := (rfl)
@[go_sem] theorem Ro (a b : Nat) (r : List D) : fP H (.bp a b :: r) = none := (rfl)
@[go_sem] theorem N3 (a b c : Nat) (r : List D) : fP H (.ref a b c :: r) = none := (rfl)
@[go_sem] theorem N4 (a b c d e : Nat) (r : List D) : fP H (.sub a b c d e :: r) = none := (rfl)
@[go_sem] theorem Rq (f : Nat) (cs : List D) (r : List D) : fP H (.fn f cs :: r) = none := (rfl)
@[go_sem] theorem Rr (a b c d e : Nat) (r : List D) : fP H (.ap a b c d e :: r) = none := (rfl)
@[go_sem] theorem Rs (cs : List T) (r : List D) : fP H (.ep cs :: r) = none := (rfl)
@[go_sem] theorem Kh (r : List D) : fP H (.nilp :: r) = none := (rfl)
@[go_sem] theorem N5 (r : List D) : fP H (.und :: r) = none := (rfl)
end
theorem kr(H:ae):∀ {ds:List D} {ts:List T},fP H ds=some ts→∀i,gW H [] i ds=some (ts.map .t)∧bz H [] i ds=[]
 | [],ts,h,i=>by simp[fP]at h;subst h;exact⟨rfl,rfl⟩
 | d::r,ts,h,i=>by
   cases d with
   | t x=>
     simp only[fP,fj,aLb]at h
     obtain⟨l,hl,rfl⟩:=h
     obtain⟨h1,h2⟩:=kr H hl (i+1)
     exact⟨by simp[gW,kG,h1],by simp[bz,cB,depth,h2]⟩
   | nil=>
     simp only[fP,fj,aLb]at h
     obtain⟨l,hl,rfl⟩:=h
     obtain⟨h1,h2⟩:=kr H hl (i+1)
     exact⟨by simp[gW,kG,h1],by simp[bz,cB,depth,h2]⟩
   | _=>simp[fP]at h
theorem y1(ts:List T)(n:Nat):(ts.map D.t).flatMap (ids n)=[]:=by
 induction ts with
 | nil=>rfl
 | cons t ts ih=>rw[List.map_cons,List.flatMap_cons,ih];simp[ids]
theorem tP(f:Nat→Option Nat)(ts:List T):aY (ren f depth) (ts.map .t)=some (ts.map .t):=by
 induction ts with
 | nil=>rfl
 | cons t ts ih=>simp[aY,ren,depth]at ih ⊢;exact ih
def nz:D→Bool
 | .t _=>true
 | .tup ds=>ds.all fun | .t _=>true | _=>false
 | _=>false
theorem qD{f:Nat→Option Nat}{d:D}(h:nz d=true):ren f depth d=some d:=by
 cases d with
 | t x=>rfl
 | tup ds=>
   simp only[nz]at h
   have:aY (ren f 7) ds=some ds:=by
    induction ds with
    | nil=>rfl
    | cons d ds ih=>
      simp only[List.all_cons,aLr]at h
      cases d with
      | t x=>simp[aY,ren,ih h.2]
      | _=>simp at h
   simp[ren,depth,this]
 | _=>simp[nz]at h
def oM(H:ae)(p:D×ae):Option (D×ae):=if nz p.1&&p.2.isEmpty then some (p.1,H)else
 (ren (ck [] H.length) depth p.1).bind fun r'=>(aY (cR (ck [] H.length)) p.2).map fun os=>(r',H++os)
@[go_sem] theorem TO (H : ae) (x : T) : oM H (.t x, []) = some (.t x, H) := (rfl)
@[go_sem] theorem TP (H : ae) : oM H (.tup [], []) = some (.tup [], H) := (rfl)
@[go_sem] theorem TQ (H : ae) (x y : T) : oM H (.tup [.t x, .t y], []) = some (.tup [.t x, .t y], H) := (rfl)
@[go_sem] theorem TR (H : ae) (x y z : T) : oM H (.tup [.t x, .t y, .t z], []) = some (.tup [.t x, .t y, .t z], H) := (rfl)
@[go_sem] theorem TS (H : ae) (x y z u : T) : oM H (.tup [.t x, .t y, .t z, .t u], []) = some (.tup [.t x, .t y, .t z, .t u], H) := (rfl)
theorem y2(H:ae)(call:av)(f raw:Nat)(ds:List D)(ts:List T)(h:fP H ds=some ts):
 vn H call f raw [] ds=(call raw f (ts.map .t) []).bind (oM H):=by
 obtain⟨h1,h2⟩:=kr H h 0
 simp only[vn,kL,h1,aLq,y1,bQ,reach,fL,List.flatMap_nil,h2,pins,tP,pick,aY]
 cases hc:call raw f (ts.map .t) []with
 | none=>rfl
 | some p=>
   obtain⟨d,os⟩:=p
   simp only[aLq,List.isEmpty_nil,Bool.true_and,oM]
   by_cases h3:os=[]
   · subst h3
     simp only[List.isEmpty_nil,Bool.true_and,Bool.and_true,aY,aLw,List.length_nil,List.take_nil,bL,List.drop_nil,List.append_nil]
     by_cases h4:nz d=true
     · rw[if_pos h4]
       split
       · rfl
       · rw[qD h4];rfl
     · rw[if_neg h4]
       split
       · rename_i h5
         exfalso
         apply h4
         cases d with
         | t x=>rfl
         | tup ds=>
           simp only[il,aLx]at h5
           simp only[nz,aLx]
           intro y hy
           have:=h5 y hy
           cases y<;>simp_all [dR]
         | _=>simp[il]at h5
       · rfl
   · have:os.isEmpty=false:=by cases os<;>simp_all
     simp only[this,Bool.false_and,Bool.and_false,if_false,aLt,List.length_nil,List.take_zero,bL,List.drop_zero]
@[go_sem] theorem Ki (st : St) : dU st [] = some [] := (rfl)
def Wg(st:St)(r:List (Nat×Option (Nat×Bool)))(d:D):Option (List D):=fj d (dU st r)
@[go_sem] theorem TU (vs : List D) (H : ae) (r : List (Nat × Option (Nat × Bool))) (d : D) : Wg ⟨vs, H⟩ r d = fj d (dU ⟨vs, H⟩ r) := (rfl)
@[go_sem] theorem Kj (vs : List D) (H : ae) (j : Nat) (r : List (Nat × Option (Nat × Bool))) : dU ⟨vs, H⟩ ((j, none) :: r) = vs[j]?.bind (Wg ⟨vs, H⟩ r) := (rfl)
def TV(st:St)(r:List (Nat×Option (Nat×Bool)))(p:D×ae):Option (List D):=fj p.1 (dU st r)
@[go_sem] theorem TW (vs : List D) (H : ae) (r : List (Nat × Option (Nat × Bool))) (d : D) (H' : ae) : TV ⟨vs, H⟩ r (d, H') = fj d (dU ⟨vs, H⟩ r) := (rfl)
def TX(st:St)(n:Nat)(agg:Bool)(r:List (Nat×Option (Nat×Bool)))(p:D):Option (List D):=(AI st.H n agg p).bind (TV st r)
@[go_sem] theorem TY (vs : List D) (H : ae) (n : Nat) (agg : Bool) (r : List (Nat × Option (Nat × Bool))) (p : D) : TX ⟨vs, H⟩ n agg r p = (AI H n agg p).bind (TV ⟨vs, H⟩ r) := (rfl)
@[go_sem] theorem Gl (vs : List D) (H : ae) (j n : Nat) (agg : Bool) (r : List (Nat × Option (Nat × Bool))) : dU ⟨vs, H⟩ ((j, some (n, agg)) :: r) = vs[j]?.bind (TX ⟨vs, H⟩ n agg r) := by
 simp only[dU]
 cases vs[j]? with
 | none=>rfl
 | some p=>
   simp only[aLq,TX,AI]
   cases lZ H p n agg<;>rfl
@[go_sem] theorem TZ (H : ae) (n : Nat) (x : T) : frz H n (.t x) = some x := by cases n <;> rfl
@[go_sem] theorem T4 (H : ae) (n : Nat) : frz H n .nil = some (.sl []) := by cases n <;> rfl
@[go_sem] theorem T5 (H : ae) (n : Nat) (cs : List D) : frz H (n + 1) (.agg cs) = (aY (frz H n) cs).map .agg := (rfl)
@[go_sem] theorem wT (H : ae) (n : Nat) (ts : List T) : aY (frz H n) (ts.map .t) = some ts := by
 induction ts with
 | nil=>rfl
 | cons t ts ih=>simp[aY,TZ,ih]
def frA(H:ae)(n ep m lo hi:Nat):Option Obj→Option T
 | some (.arr _ _ ep' es)=>if ep=ep'∧m=es.length then(aY (frz H n) ((es.drop lo).take (hi-lo))).map .sl else none
 | _=>none
def frR(H:ae)(n ep m:Nat):Option Obj→Option T
 | some (.arr _ _ ep' es)=>if ep=ep'∧m=es.length then(aY (frz H n) es).map .sl else none
 | _=>none
@[go_sem] theorem T6 (H : ae) (n id ep m : Nat) : frz H (n + 1) (.ref id ep m) = frR H n ep m H[id]? := by
 simp only[frz,cQ]
 generalize H[id]?=o
 rcases o with _ | (_ | ⟨sz',pin,ep',es⟩)
 · rfl
 · rfl
 · simp only[frR]
   by_cases h:ep=ep'∧m=es.length
   · rw[if_pos h,if_pos h];rfl
   · rw[if_neg h,if_neg h];rfl
@[go_sem] theorem T7 (H : ae) (n id ep m lo hi : Nat) : frz H (n + 1) (.sub id ep m lo hi) = frA H n ep m lo hi H[id]? := by
 simp only[frz,cQ]
 generalize H[id]?=o
 rcases o with _ | (_ | ⟨sz',pin,ep',es⟩)
 · rfl
 · rfl
 · simp only[frA]
   by_cases h:ep=ep'∧m=es.length
   · rw[if_pos h,if_pos h];rfl
   · rw[if_neg h,if_neg h];rfl
@[go_sem] theorem T8 (H : ae) (n ep m sz : Nat) (pin : Bool) (es : List D) : frR H n ep m (some (.arr sz pin ep es)) = if m = es.length then (aY (frz H n) es).map .sl else none := by simp [frR]
@[go_sem] theorem T9 (H : ae) (n ep m lo hi sz : Nat) (pin : Bool) (es : List D) : frA H n ep m lo hi (some (.arr sz pin ep es)) = if m = es.length then (aY (frz H n) ((es.drop lo).take (hi - lo))).map .sl else none := by simp [frA]
@[go_sem] theorem N6 (H : ae) (x : T) : kG H (.t x) = some (.t x) := (rfl)
@[go_sem] theorem Rt (H : ae) : kG H .nil = some (.t (.sl [])) := (rfl)
@[go_sem] theorem Ru (H : ae) (cs : List D) : kG H (.agg cs) = (frz H 8 (.agg cs)).map .t := (rfl)
@[go_sem] theorem Rv (H : ae) (id ep n : Nat) : kG H (.ref id ep n) = (frz H 8 (.ref id ep n)).map .t := (rfl)
@[go_sem] theorem Rw (H : ae) (id ep n lo hi : Nat) : kG H (.sub id ep n lo hi) = (frz H 8 (.sub id ep n lo hi)).map .t := (rfl)
@[go_sem] theorem Gm (H : ae) (id off : Nat) : kG H (.bp id off) = some (.bp id off) := (rfl)
@[go_sem] theorem Ua (H : ae) (id ep n i off : Nat) : kG H (.ap id ep n i off) = some (.ap id ep n i off) := (rfl)
@[go_sem] theorem Ub (H : ae) (cs : List T) : kG H (.ep cs) = some (.ep cs) := (rfl)
@[go_sem] theorem Uc (H : ae) (f : Nat) (cs : List D) : kG H (.fn f cs) = some (.fn f cs) := (rfl)
def ltB:Nat→Nat→Bool
 | _,0=>false
 | 0,_+1=>true
 | m+1,n+1=>ltB m n
@[go_sem] theorem XQ (m : Nat) : ltB m 0 = false := by cases m <;> rfl
@[go_sem] theorem Wi (n : Nat) : ltB 0 (n + 1) = true := (rfl)
@[go_sem] theorem Wj (m n : Nat) : ltB (m + 1) (n + 1) = ltB m n := (rfl)
theorem iD:∀ {m n:Nat},ltB m n=decide (m<n)
 | m,0=>by cases m<;>simp[ltB]
 | 0,n+1=>by simp[ltB]
 | m+1,n+1=>by simp[ltB,iD (m:=m) (n:=n)]
def eqB:Nat→Nat→Bool
 | 0,0=>true
 | m+1,n+1=>eqB m n
 | _,_=>false
@[go_sem] theorem Wk : eqB 0 0 = true := (rfl)
@[go_sem] theorem Wl (n : Nat) : eqB 0 (n + 1) = false := (rfl)
@[go_sem] theorem Wm (n : Nat) : eqB (n + 1) 0 = false := (rfl)
@[go_sem] theorem Wn (m n : Nat) : eqB (m + 1) (n + 1) = eqB m n := (rfl)
theorem tQ:∀ {m n:Nat},eqB m n=decide (m=n)
 | 0,0=>rfl
 | 0,n+1=>rfl
 | m+1,0=>rfl
 | m+1,n+1=>by simp[eqB,tQ (m:=m) (n:=n)]
section
variable (k n : Nat)
@[go_sem] theorem Ud (x : T) : old k n (.t x) = true := by cases n <;> rfl
@[go_sem] theorem Ue : old k n .nil = true := by cases n <;> rfl
@[go_sem] theorem Wo (cs : List T) : old k n (.ep cs) = true := by cases n <;> rfl
@[go_sem] theorem Rx : old k n .nilp = true := by cases n <;> rfl
@[go_sem] theorem Uf : old k n .und = true := by cases n <;> rfl
@[go_sem] theorem N7 (id off : Nat) : old k n (.bp id off) = ltB id k := by cases n <;> simp [old, iD]
@[go_sem] theorem Wp (id ep m i off : Nat) : old k n (.ap id ep m i off) = ltB id k := by cases n <;> simp [old, iD]
@[go_sem] theorem Ug (id ep m : Nat) : old k n (.ref id ep m) = ltB id k := by cases n <;> simp [old, iD]
@[go_sem] theorem Uh (id ep m lo hi : Nat) : old k n (.sub id ep m lo hi) = ltB id k := by cases n <;> simp [old, iD]
def cK(n:Nat)(cs:List D):Bool:=cs.all (old k n)
@[go_sem] theorem Kk : cK k n [] = true := (rfl)
@[go_sem] theorem tR (d : D) (r : List D) : cK k n (d :: r) = (old k n d && cK k n r) := (rfl)
@[go_sem] theorem vo (ts : List T) : cK k n (ts.map .t) = true := by
 induction ts with
 | nil=>rfl
 | cons t ts ih=>rw[List.map_cons,tR,Ud,ih];rfl
@[go_sem] theorem Kl (m : Nat) (x : T) : cK k n (List.replicate m (.t x)) = true := by
 have:List.replicate m (D.t x)=(List.replicate m x).map .t:=by simp
 rw[this,vo]
@[go_sem] theorem Km (a b : List D) : cK k n (a ++ b) = (cK k n a && cK k n b) := by simp [cK]
@[go_sem] theorem Ui (cs : List D) : old k (n + 1) (.agg cs) = cK k n cs := (rfl)
@[go_sem] theorem Uj (cs : List D) : old k (n + 1) (.tup cs) = cK k n cs := (rfl)
@[go_sem] theorem Wq (f : Nat) (cs : List D) : old k (n + 1) (.fn f cs) = cK k n cs := (rfl)
end
def cL(k:Nat):ae→Bool
 | []=>true
 | .box cs::r=>cK k 8 cs&&cL k r
 | .arr _ _ _ es::r=>cK k 8 es&&cL k r
@[go_sem] theorem Gn (k : Nat) : cL k [] = true := (rfl)
@[go_sem] theorem Gp (k : Nat) (cs : List D) (r : ae) : cL k (.box cs :: r) = (cK k 8 cs && cL k r) := (rfl)
@[go_sem] theorem Gq (k sz ep : Nat) (pin : Bool) (es : List D) (r : ae) : cL k (.arr sz pin ep es :: r) = (cK k 8 es && cL k r) := (rfl)
theorem fS(k:Nat)(H:ae):H.all (fun o=>o.ds.all (old k depth))=cL k H:=by
 induction H with
 | nil=>rfl
 | cons o r ih=>rw[List.all_cons,ih];cases o<;>rfl
def Gr(d:D)(b:Bool):D:=if b then d else .und
@[go_sem] theorem Kn (d : D) : Gr d true = d := (rfl)
@[go_sem] theorem Gs (d : D) : Gr d false = .und := (rfl)
@[go_sem] theorem Uk (k : Nat) (d : D) : kill k d = Gr d (old k 8 d) := (rfl)
def wU(k:Nat):List D→List D
 | []=>[]
 | d::r=>kill k d::wU k r
@[go_sem] theorem N8 (k : Nat) : wU k [] = [] := (rfl)
@[go_sem] theorem Ko (k : Nat) (d : D) (r : List D) : wU k (d :: r) = kill k d :: wU k r := (rfl)
theorem BX(k:Nat)(vs:List D):vs.map (kill k)=wU k vs:=by
 induction vs with
 | nil=>rfl
 | cons d r ih=>rw[List.map_cons,ih];rfl
@[go_sem] theorem Ry (k : Nat) (vs : List D) (H : ae) : wC k ⟨vs, H⟩ = if cL k (H.take k) = true then some ⟨wU k vs, H.take k⟩ else none := by
 simp only[wC,fS,BX]
@[go_sem] theorem y3 (H : ae) (n : Nat) (x : T) : cB H n (.t x) = [] := by cases n <;> rfl
@[go_sem] theorem Rz (H : ae) (n : Nat) : cB H n .nil = [] := by cases n <;> rfl
@[go_sem] theorem Gt (H : ae) (n id off : Nat) : cB H n (.bp id off) = [] := by cases n <;> rfl
@[go_sem] theorem Ul (H : ae) (n f : Nat) (cs : List D) : cB H n (.fn f cs) = [] := by cases n <;> rfl
@[go_sem] theorem Um (H : ae) (n : Nat) (cs : List T) : cB H n (.ep cs) = [] := by cases n <;> rfl
@[go_sem] theorem Un (H : ae) (n a b c d e : Nat) : cB H n (.ap a b c d e) = [] := by cases n <;> rfl
def iR(H:ae)(n:Nat)(cs:List D):List Nat:=cs.flatMap (cB H n)
@[go_sem] theorem N9 (H : ae) (n : Nat) : iR H n [] = [] := (rfl)
@[go_sem] theorem wV (H : ae) (n : Nat) (d : D) (r : List D) : iR H n (d :: r) = cB H n d ++ iR H n r := (rfl)
@[go_sem] theorem Uo (H : ae) (n : Nat) (ts : List T) : iR H n (ts.map .t) = [] := by
 induction ts with
 | nil=>rfl
 | cons t ts ih=>rw[List.map_cons,wV,ih,y3];rfl
@[go_sem] theorem Oa (H : ae) (n : Nat) (a b : List D) : iR H n (a ++ b) = iR H n a ++ iR H n b := by simp [iR]
@[go_sem] theorem RA (H : ae) (n : Nat) (cs : List D) : cB H (n + 1) (.agg cs) = iR H n cs := (rfl)
def Gu(H:ae)(n:Nat):Option Obj→List Nat
 | some (.arr _ _ _ es)=>iR H n es
 | _=>[]
@[go_sem] theorem Ob (H : ae) (n sz ep : Nat) (pin : Bool) (es : List D) : Gu H n (some (.arr sz pin ep es)) = iR H n es := (rfl)
@[go_sem] theorem RB (H : ae) (n id ep m : Nat) : cB H (n + 1) (.ref id ep m) = id :: Gu H n H[id]? := (rfl)
@[go_sem] theorem RC (H : ae) (n id ep m lo hi : Nat) : cB H (n + 1) (.sub id ep m lo hi) = id :: Gu H n H[id]? := (rfl)
@[go_sem] theorem Up : ns [] = .tup [] := (rfl)
@[go_sem] theorem Uq (d : D) : ns [d] = d := (rfl)
@[go_sem] theorem Ur (a b : D) (r : List D) : ns (a :: b :: r) = .tup (a :: b :: r) := (rfl)
def rZ(k:Nat):List Nat→Bool
 | []=>true
 | i::r=> !ltB i k&&rZ k r
@[go_sem] theorem Oc (k : Nat) : rZ k [] = true := (rfl)
@[go_sem] theorem Kp (k i : Nat) (r : List Nat) : rZ k (i :: r) = (!ltB i k && rZ k r) := (rfl)
theorem vq(k:Nat)(l:List Nat):l.all (fun i=>decide (k≤i))=rZ k l:=by
 induction l with
 | nil=>rfl
 | cons i r ih=>
   rw[List.all_cons,ih]
   simp only[rZ,iD]
   congr 1
   rw[Bool.eq_iff_iff];simp
def RD(k raw:Nat)(H:ae)(ds rs:List D):Option (D×ae):=
 (gy H (max raw 1) (List.range k) (rs.flatMap (ids depth)++fL H (List.range k))).bind fun q=>
  if(ed H raw ds).all (fun i=> !(List.range k++q.1).contains i)then
   (aY (ren (idxOf (List.range k++q.1)) depth) rs).bind fun rs'=>
    (aY (cR (idxOf (List.range k++q.1))) (H.take k++q.2)).map fun hs'=>(ns rs',hs')
  else none
def Kq(k raw:Nat)(H:ae)(ds rs:List D)(b:Bool):Option (D×ae):=
 if b then(if rZ k (ed H raw ds)=true then some (ns rs,H.take k)else none)else RD k raw H ds rs
@[go_sem] theorem Od (k raw : Nat) (H : ae) (ds rs : List D) : Kq k raw H ds rs true = if rZ k (ed H raw ds) = true then some (ns rs, H.take k) else none := (rfl)
def Oe(k raw:Nat)(H:ae)(ds rs:List D):Option (D×ae):=Kq k raw H ds rs (cK k 8 rs&&cL k (H.take k))
@[go_sem] theorem Us (k raw : Nat) (H : ae) (ds rs : List D) : Oe k raw H ds rs = Kq k raw H ds rs (cK k 8 rs && cL k (H.take k)) := (rfl)
@[go_sem] theorem Of (k : Nat) (H : ae) (ds : List D) : finish k 0 H ds = (aY (kG H) ds).bind (Oe k 0 H ds) := by
 simp only[finish,if_true,fS,vq]
 cases aY (kG H) ds with
 | none=>rfl
 | some rs=>
   simp only[aLq,Oe,Kq]
   show(if(cK k 8 rs&&cL k (H.take k))=true then _ else _)=_
   cases (cK k 8 rs&&cL k (H.take k))<;>rfl
@[go_sem] theorem Og (H : ae) (ds : List D) : ed H 0 ds = iR H 8 ds := (rfl)
@[go_sem] theorem Oh (vs : List D) : fp [] vs = vs := (rfl)
@[go_sem] theorem Kr (i : Nat) (r : List Nat) (vs : List D) : fp (i :: r) vs = fp r (vs.set i .und) := (rfl)
@[go_sem] theorem Ut (dead : List Nat) (k : Nat) (vs : List D) (H : ae) : tidy false dead k ⟨vs, H⟩ = some ⟨fp dead vs, H⟩ := (rfl)
@[go_sem] theorem Uu (dead : List Nat) (k : Nat) (vs : List D) (H : ae) : tidy true dead k ⟨vs, H⟩ = wC k ⟨fp dead vs, H⟩ := (rfl)
section
variable (H : ae) (call : av) (f raw : Nat) (keep : List Nat) (ds : List D)
def qE(H1:ae)(n:Nat)(sel:List Nat)(p:D×ae):Option (D×ae):=
 (ren (ck sel n) depth p.1).bind fun r'=>(aY (cR (ck sel n)) p.2).map fun os=>(r',bL H1 sel (os.take sel.length)++os.drop sel.length)
def jU(H1:ae)(sel:List Nat)(p:D×ae):Option (D×ae):=
 if sel.isEmpty&&p.2.isEmpty&&il p.1 then some (p.1,H)else qE H1 H.length sel p
def Gv(args:List D)(H1:ae)(sel:List Nat)(hs:ae):Option (D×ae):=(call raw f args hs).bind (jU H H1 sel)
def Gw(args:List D)(H1:ae)(sel:List Nat)(hs:ae):Option (D×ae):=(aY (cR (idxOf sel)) hs).bind (Gv H call f raw args H1 sel)
def Gx(H1:ae)(sel:List Nat)(args:List D):Option (D×ae):=(pick H1 sel).bind (Gw H call f raw args H1 sel)
def Gy(args:List D)(sel:List Nat):Option (D×ae):=(aY (ren (idxOf sel) depth) args).bind (Gx H call f raw (pins H (bz H keep 0 ds)) sel)
def nB(n:Nat)(cs:List D):List Nat:=cs.flatMap (ids n)
def Gz(args:List D):Option (D×ae):=Gy H call f raw keep ds args (reach H 3 (bQ [] (nB 8 args)))
def y4:Option (D×ae):=(gW H keep 0 ds).bind (Gz H call f raw keep ds)
theorem vr:vn H call f raw keep ds=y4 H call f raw keep ds:=(rfl)
@[go_sem] theorem vt : y4 H call f raw keep ds = (gW H keep 0 ds).bind (Gz H call f raw keep ds) := (rfl)
@[go_sem] theorem vu (args : List D) : Gz H call f raw keep ds args = Gy H call f raw keep ds args (reach H 3 (bQ [] (nB 8 args))) := (rfl)
@[go_sem] theorem vv (args : List D) (sel : List Nat) : Gy H call f raw keep ds args sel = (aY (ren (idxOf sel) 8) args).bind (Gx H call f raw (pins H (bz H keep 0 ds)) sel) := (rfl)
@[go_sem] theorem vw (H1 : ae) (sel : List Nat) (args : List D) : Gx H call f raw H1 sel args = (pick H1 sel).bind (Gw H call f raw args H1 sel) := (rfl)
@[go_sem] theorem vz (args : List D) (H1 : ae) (sel : List Nat) (hs : ae) : Gw H call f raw args H1 sel hs = (aY (cR (idxOf sel)) hs).bind (Gv H call f raw args H1 sel) := (rfl)
@[go_sem] theorem vA (args : List D) (H1 : ae) (sel : List Nat) (hs : ae) : Gv H call f raw args H1 sel hs = (call raw f args hs).bind (jU H H1 sel) := (rfl)
def BZ(H1:ae)(sel:List Nat)(r:D)(os:ae):Option (D×ae):=some (r,bL H1 sel (os.take sel.length)++os.drop sel.length)
@[go_sem] theorem B0 (H1 : ae) (sel : List Nat) (r : D) (os : ae) : BZ H1 sel r os = some (r, bL H1 sel (os.take sel.length) ++ os.drop sel.length) := (rfl)
def GA(H1:ae)(n:Nat)(sel:List Nat)(os:ae)(r:D):Option (D×ae):=(aY (cR (ck sel n)) os).bind (BZ H1 sel r)
@[go_sem] theorem vB (H1 : ae) (n : Nat) (sel : List Nat) (os : ae) (r : D) : GA H1 n sel os r = (aY (cR (ck sel n)) os).bind (BZ H1 sel r) := (rfl)
@[go_sem] theorem vC (H1 : ae) (n : Nat) (sel : List Nat) (r : D) (os : ae) : qE H1 n sel (r, os) = (ren (ck sel n) 8 r).bind (GA H1 n sel os) := by
 simp only[qE,depth]
 cases ren (ck sel n) 8 r with
 | none=>rfl
 | some r'=>simp only[aLq,GA];cases aY (cR (ck sel n)) os<;>rfl
@[go_sem] theorem Oi (H1 : ae) (i : Nat) (sel : List Nat) (p : D × ae) : jU H H1 (i :: sel) p = qE H1 H.length (i :: sel) p := (rfl)
@[go_sem] theorem RE (H1 : ae) (sel : List Nat) (r : D) (o : Obj) (os : ae) : jU H H1 sel (r, o :: os) = qE H1 H.length sel (r, o :: os) := by
 simp[jU]
@[go_sem] theorem Uv (H1 : ae) (k : IntKind) (n : Int) : jU H H1 [] (.t (.int k n), []) = some (.t (.int k n), H) := (rfl)
@[go_sem] theorem Uw (H1 : ae) (b : Bool) : jU H H1 [] (.t (.bool b), []) = some (.t (.bool b), H) := (rfl)
@[go_sem] theorem RF (H1 : ae) (es : List T) : jU H H1 [] (.t (.sl es), []) = some (.t (.sl es), H1) := by simp [jU, qE, il, T.scalar, ren, depth, aY, bL]
@[go_sem] theorem Oj (H1 : ae) (es : List T) : jU H H1 [] (.t (.agg es), []) = some (.t (.agg es), H1) := by simp [jU, qE, il, T.scalar, ren, depth, aY, bL]
@[go_sem] theorem Ol (H1 : ae) (ds : List D) : jU H H1 [] (.tup ds, []) = if ds.all dR then some (.tup ds, H) else qE H1 H.length [] (.tup ds, []) := by
 simp[jU,il]
def GB:Option (List T)→Option (D×ae)
 | some ts=>(call raw f (ts.map .t) []).bind (oM H)
 | none=>y4 H call f raw [] ds
@[go_sem] theorem Ks (ts : List T) : GB H call f raw ds (some ts) = (call raw f (ts.map .t) []).bind (oM H) := (rfl)
@[go_sem] theorem Kt : GB H call f raw ds none = y4 H call f raw [] ds := (rfl)
@[go_sem] theorem Ux : vn H call f raw [] ds = GB H call f raw ds (fP H ds) := by
 cases h:fP H ds with
 | none=>rfl
 | some ts=>exact y2 H call f raw ds ts h
@[go_sem] theorem Ws (k : Nat) : vn H call f raw (k :: keep) ds = y4 H call f raw (k :: keep) ds := (rfl)
end
section
variable (H : ae) (keep : List Nat)
@[go_sem] theorem Om (i : Nat) : gW H keep i [] = some [] := (rfl)
def sT(i:Nat):List Nat→Bool
 | []=>false
 | j::r=>eqB i j||sT i r
@[go_sem] theorem RG (i : Nat) : sT i [] = false := (rfl)
@[go_sem] theorem On (i j : Nat) (r : List Nat) : sT i (j :: r) = (eqB i j || sT i r) := (rfl)
theorem qF(i:Nat)(l:List Nat):l.contains i=sT i l:=by
 induction l with
 | nil=>rfl
 | cons j r ih=>rw[List.contains_cons,ih];simp only[sT,tQ];rw[beq_eq_decide_nat]
where beq_eq_decide_nat {a b:Nat}:(a==b)=decide (a=b):=by rw[Bool.eq_iff_iff];simp
def Uy(d:D):Bool→Option D
 | true=>some d
 | false=>kG H d
@[go_sem] theorem Wt (d : D) : Uy H d true = some d := (rfl)
@[go_sem] theorem Du (d : D) : Uy H d false = kG H d := (rfl)
def Wu(i:Nat)(r:List D)(x:D):Option (List D):=fj x (gW H keep (i+1) r)
@[go_sem] theorem y5 (i : Nat) (r : List D) (x : D) : Wu H keep i r x = fj x (gW H keep (i + 1) r) := (rfl)
@[go_sem] theorem p4 (i : Nat) (d : D) (r : List D) : gW H keep i (d :: r) = (Uy H d (sT i keep)).bind (Wu H keep i r) := by
 simp only[gW,qF]
 cases sT i keep<;>rfl
@[go_sem] theorem AJ (i : Nat) : bz H keep i [] = [] := (rfl)
def frK(l:List Nat):Bool→List Nat
 | true=>[]
 | false=>l
@[go_sem] theorem XR (l : List Nat) : frK l true = [] := (rfl)
@[go_sem] theorem Oo (l : List Nat) : frK l false = l := (rfl)
@[go_sem] theorem jf (i : Nat) (d : D) (r : List D) : bz H keep i (d :: r) = frK (cB H 8 d) (sT i keep) ++ bz H keep (i + 1) r := by
 simp only[bz,qF]
 cases sT i keep<;>rfl
@[go_sem] theorem RH (H : ae) : pins H [] = H := (rfl)
@[go_sem] theorem Oq (H : ae) (i : Nat) (r : List Nat) : pins H (i :: r) = pins (H.modify i uK) r := (rfl)
def wW(i:Nat):Option Obj→ae
 | some (.arr sz _ ep es)=>H.set i (.arr sz true ep es)
 | _=>H
@[go_sem] theorem Ot (i : Nat) (cs : List D) : wW H i (some (.box cs)) = H := (rfl)
@[go_sem] theorem Ou (i sz ep : Nat) (pin : Bool) (es : List D) : wW H i (some (.arr sz pin ep es)) = H.set i (.arr sz true ep es) := (rfl)
theorem B1{α:Type}{l:List α}{i:Nat}{x:α}(h:l[i]?=some x):l.set i x=l:=by
 apply List.ext_getElem?
 intro j
 rw[List.getElem?_set]
 split
 · rename_i e;subst e
   split
   · exact h.symm
   · rename_i hl;rw[aLm (by omega)]at h;cases h
 · rfl
@[go_sem] theorem Ku (i : Nat) : List.modify H i uK = wW H i H[i]? := by
 apply List.ext_getElem?
 intro j
 rw[List.getElem?_modify]
 cases h:H[i]? with
 | none=>
   simp only[wW]
   by_cases e:i=j
   · subst e;rw[h];simp
   · simp[e]
 | some o=>
   have hi:i<H.length:=(aLe.1 h).1
   cases o with
   | box cs=>
     simp only[wW]
     by_cases e:i=j
     · subst e;rw[h];simp[uK]
     · simp[e]
   | arr sz pin ep es=>
     simp only[wW]
     rw[List.getElem?_set]
     by_cases e:i=j
     · subst e;rw[h];simp[uK,hi]
     · simp[e]
section
variable (n : Nat)
@[go_sem] theorem XT (x : T) : ids n (.t x) = [] := by cases n <;> rfl
@[go_sem] theorem Uz : ids n .nil = [] := by cases n <;> rfl
@[go_sem] theorem RI : ids n .nilp = [] := by cases n <;> rfl
@[go_sem] theorem UA : ids n .und = [] := by cases n <;> rfl
@[go_sem] theorem Wv (cs : List T) : ids n (.ep cs) = [] := by cases n <;> rfl
@[go_sem] theorem Ov (id off : Nat) : ids n (.bp id off) = [id] := by cases n <;> rfl
@[go_sem] theorem Ww (id ep m i off : Nat) : ids n (.ap id ep m i off) = [id] := by cases n <;> rfl
@[go_sem] theorem UB (id ep m : Nat) : ids n (.ref id ep m) = [id] := by cases n <;> rfl
@[go_sem] theorem UC (id ep m lo hi : Nat) : ids n (.sub id ep m lo hi) = [id] := by cases n <;> rfl
@[go_sem] theorem UD (cs : List D) : ids (n + 1) (.agg cs) = nB n cs := (rfl)
@[go_sem] theorem UE (cs : List D) : ids (n + 1) (.tup cs) = nB n cs := (rfl)
@[go_sem] theorem Ow (f : Nat) (cs : List D) : ids (n + 1) (.fn f cs) = nB n cs := (rfl)
@[go_sem] theorem B2 : nB n [] = [] := (rfl)
@[go_sem] theorem y6 (d : D) (r : List D) : nB n (d :: r) = ids n d ++ nB n r := (rfl)
@[go_sem] theorem p5 (ts : List T) : nB n (ts.map .t) = [] := y1 ts n
@[go_sem] theorem vD (a b : List D) : nB n (a ++ b) = nB n a ++ nB n b := by simp [nB]
@[go_sem] theorem RJ (m : Nat) (x : T) : nB n (List.replicate m (.t x)) = [] := by
 have:List.replicate m (D.t x)=(List.replicate m x).map .t:=by simp
 rw[this,p5]
end
def y7(sel:List Nat)(i:Nat):Bool→List Nat
 | true=>sel
 | false=>sel++[i]
@[go_sem] theorem RK (sel : List Nat) (i : Nat) : y7 sel i true = sel := (rfl)
@[go_sem] theorem RL (sel : List Nat) (i : Nat) : y7 sel i false = sel ++ [i] := (rfl)
@[go_sem] theorem Kv (sel : List Nat) : bQ sel [] = sel := (rfl)
@[go_sem] theorem GC (sel : List Nat) (i : Nat) (r : List Nat) : bQ sel (i :: r) = bQ (y7 sel i (sT i sel)) r := by
 simp only[bQ,qF]
 cases sT i sel<;>rfl
def vE:Option Obj→List Nat
 | some (.box cs)=>nB 8 cs
 | some (.arr _ _ _ es)=>nB 8 es
 | none=>[]
@[go_sem] theorem Kw (cs : List D) : vE (some (.box cs)) = nB 8 cs := (rfl)
@[go_sem] theorem Kx (sz ep : Nat) (pin : Bool) (es : List D) : vE (some (.arr sz pin ep es)) = nB 8 es := (rfl)
@[go_sem] theorem Ox : fL H [] = [] := (rfl)
@[go_sem] theorem Ky (i : Nat) (r : List Nat) : fL H (i :: r) = vE H[i]? ++ fL H r := by
 simp only[fL,List.flatMap_cons]
 congr 1
 cases H[i]? with
 | none=>rfl
 | some o=>cases o<;>rfl
@[go_sem] theorem UF (sel : List Nat) : reach H 0 sel = sel := (rfl)
@[go_sem] theorem UG (n : Nat) (sel : List Nat) : reach H (n + 1) sel = reach H n (bQ sel (fL H sel)) := (rfl)
@[go_sem] theorem RM : pick H [] = some [] := (rfl)
def Oy(r:List Nat)(o:Obj):Option ae:=fj o (pick H r)
@[go_sem] theorem B3 (r : List Nat) (o : Obj) : Oy H r o = fj o (pick H r) := (rfl)
@[go_sem] theorem y8 (i : Nat) (r : List Nat) : pick H (i :: r) = H[i]?.bind (Oy H r) := (rfl)
end
section
variable (f : Nat → Option Nat) (n : Nat)
@[go_sem] theorem UH (x : T) : ren f n (.t x) = some (.t x) := by cases n <;> rfl
@[go_sem] theorem UI : ren f n .nil = some .nil := by cases n <;> rfl
@[go_sem] theorem RN : ren f n .nilp = some .nilp := by cases n <;> rfl
@[go_sem] theorem UJ : ren f n .und = some .und := by cases n <;> rfl
@[go_sem] theorem Wx (cs : List T) : ren f n (.ep cs) = some (.ep cs) := by cases n <;> rfl
def Wy(off:Nat)(i:Nat):D:= .bp i off
@[go_sem] theorem UK (off i : Nat) : Wy off i = .bp i off := (rfl)
@[go_sem] theorem Oz (id off : Nat) : ren f n (.bp id off) = (f id).map (Wy off) := by cases n <;> rfl
def Wz(ep m i off:Nat)(j:Nat):D:= .ap j ep m i off
@[go_sem] theorem UL (ep m i off j : Nat) : Wz ep m i off j = .ap j ep m i off := (rfl)
@[go_sem] theorem WA (id ep m i off : Nat) : ren f n (.ap id ep m i off) = (f id).map (Wz ep m i off) := by cases n <;> rfl
def OA(ep m:Nat)(j:Nat):D:= .ref j ep m
@[go_sem] theorem RO (ep m j : Nat) : OA ep m j = .ref j ep m := (rfl)
@[go_sem] theorem UM (id ep m : Nat) : ren f n (.ref id ep m) = (f id).map (OA ep m) := by cases n <;> rfl
def OB(ep m lo hi:Nat)(j:Nat):D:= .sub j ep m lo hi
@[go_sem] theorem RP (ep m lo hi j : Nat) : OB ep m lo hi j = .sub j ep m lo hi := (rfl)
@[go_sem] theorem UN (id ep m lo hi : Nat) : ren f n (.sub id ep m lo hi) = (f id).map (OB ep m lo hi) := by cases n <;> rfl
@[go_sem] theorem OC (g : Nat) (cs : List D) : ren f (n + 1) (.fn g cs) = (aY (ren f n) cs).map (.fn g) := (rfl)
@[go_sem] theorem UO (cs : List D) : ren f (n + 1) (.agg cs) = (aY (ren f n) cs).map .agg := (rfl)
@[go_sem] theorem UP (cs : List D) : ren f (n + 1) (.tup cs) = (aY (ren f n) cs).map .tup := (rfl)
@[go_sem] theorem jM (ts : List T) : aY (ren f n) (ts.map .t) = some (ts.map .t) := by
 induction ts with
 | nil=>rfl
 | cons t ts ih=>rw[List.map_cons,rV,UH,aLq,FY,ih];rfl
@[go_sem] theorem Dv (m : Nat) (x : T) : aY (ren f n) (List.replicate m (.t x)) = some (List.replicate m (.t x)) := by
 have:List.replicate m (D.t x)=(List.replicate m x).map .t:=by simp
 rw[this,jM]
@[go_sem] theorem wX (cs : List D) : cR f (.box cs) = (aY (ren f 8) cs).map .box := (rfl)
@[go_sem] theorem Kz (sz ep : Nat) (pin : Bool) (es : List D) : cR f (.arr sz pin ep es) = (aY (ren f 8) es).map (.arr sz pin ep) := (rfl)
end
def KA(x:Option Nat):Bool→Option Nat
 | true=>some 0
 | false=>x.map (· +1)
@[go_sem] theorem WB (x : Option Nat) : KA x true = some 0 := (rfl)
@[go_sem] theorem WC (k : Nat) : KA (some k) false = some (k + 1) := (rfl)
@[go_sem] theorem WD : KA none false = none := (rfl)
@[go_sem] theorem idxOf_nil (i : Nat) : idxOf [] i = none := (rfl)
@[go_sem] theorem idxOf_cons (j i : Nat) (r : List Nat) : idxOf (j :: r) i = KA (idxOf r i) (eqB j i) := by
 simp only[idxOf,tQ]
 by_cases h:j=i
 · simp[h,KA]
 · simp[h,KA]
@[go_sem] theorem KB (n i : Nat) : ck [] n i = some (n + i) := by simp [ck]
@[go_sem] theorem RQ (j n : Nat) (r : List Nat) : ck (j :: r) n 0 = some j := by simp [ck]
@[go_sem] theorem RR (j n i : Nat) (r : List Nat) : ck (j :: r) n (i + 1) = ck r n i := by
 simp only[ck,List.length_cons,Nat.add_lt_add_iff_right,List.getElem?_cons_succ,Nat.add_sub_add_right]
@[go_sem] theorem GD {α : Type} (H os : List α) : bL H [] os = H := by cases os <;> rfl
@[go_sem] theorem Dw {α : Type} (H : List α) (i : Nat) (r : List Nat) (o : α) (os : List α) : bL H (i :: r) (o :: os) = bL (H.set i o) r os := (rfl)
def lbP(sz:Nat)(p:List D×ae):List D×ae:=(p.1,.arr sz false 0 []::p.2)
@[go_sem] theorem WE (sz : Nat) (cs : List D) (os : ae) : lbP sz (cs, os) = (cs, .arr sz false 0 [] :: os) := (rfl)
def lbC(base:Nat)(cs:List D)(off sz:Nat)(r:List (Nat×Nat)):Option D→List D×ae
 | some .nil=>lbP sz (aW (base+1) (cs.set off (.ref base 0 0)) r)
 | _=>aW base cs r
@[go_sem] theorem UQ (base : Nat) (cs : List D) (off sz : Nat) (r : List (Nat × Nat)) : lbC base cs off sz r (some .nil) = lbP sz (aW (base + 1) (cs.set off (.ref base 0 0)) r) := (rfl)
@[go_sem] theorem XU (base : Nat) (cs : List D) (off sz : Nat) (r : List (Nat × Nat)) (x : T) : lbC base cs off sz r (some (.t x)) = aW base cs r := (rfl)
@[go_sem] theorem UR (base : Nat) (cs : List D) (off sz : Nat) (r : List (Nat × Nat)) (a b c : Nat) : lbC base cs off sz r (some (.ref a b c)) = aW base cs r := (rfl)
@[go_sem] theorem Dx (base : Nat) (cs : List D) (off sz : Nat) (r : List (Nat × Nat)) : aW base cs ((off, sz) :: r) = lbC base cs off sz r cs[off]? := by
 simp only[aW,lbC]
 split<;>split<;>simp_all [lbP]
def lvP(H:ae)(id:Nat)(p:List D×ae):Option (D×ae):=some (.tup [],H.set id (.box p.1)++p.2)
@[go_sem] theorem WG (H : ae) (id : Nat) (cs : List D) (os : ae) : lvP H id (cs, os) = some (.tup [], H.set id (.box cs) ++ os) := (rfl)
def lvB(H:ae)(id:Nat)(l:List (Nat×Nat)):Option Obj→Option (D×ae)
 | some (.box cs)=>lvP H id (aW H.length cs l)
 | _=>none
@[go_sem] theorem WH (H : ae) (id : Nat) (l : List (Nat × Nat)) (cs : List D) : lvB H id l (some (.box cs)) = lvP H id (aW H.length cs l) := (rfl)
@[go_sem] theorem GF (H : ae) (id : Nat) (x : Nat × Nat) (r : List (Nat × Nat)) : pZ H id (x :: r) = lvB H id (x :: r) H[id]? := by
 simp only[pZ,im]
 generalize H[id]?=o
 rcases o with _ | (cs | _)
 · rfl
 · rfl
 · rfl
section
variable (H : ae)
def klE(n:Nat)(sel new:List Nat)(os:ae)(q:List Nat×ae):Option (List Nat×ae):=some (new++q.1,os++q.2)
@[go_sem] theorem WI (n : Nat) (sel new : List Nat) (os : ae) (a : List Nat) (b : ae) : klE n sel new os (a, b) = some (new ++ a, os ++ b) := (rfl)
def klD(n:Nat)(sel new:List Nat)(os:ae):Option (List Nat×ae):=(gy H n (sel++new) (fL H new)).bind (klE n sel new os)
@[go_sem] theorem WJ (n : Nat) (sel new : List Nat) (os : ae) : klD H n sel new os = (gy H n (sel ++ new) (fL H new)).bind (klE n sel new os) := (rfl)
def m0(sel:List Nat):List Nat→Bool
 | []=>true
 | i::r=> !sT i sel&&m0 sel r
@[go_sem] theorem KC (sel : List Nat) : m0 sel [] = true := (rfl)
@[go_sem] theorem GG (sel : List Nat) (i : Nat) (r : List Nat) : m0 sel (i :: r) = (!sT i sel && m0 sel r) := (rfl)
theorem r5(sel l:List Nat):l.all (fun i=> !sel.contains i)=m0 sel l:=by
 induction l with
 | nil=>rfl
 | cons i r ih=>rw[List.all_cons,ih,qF];rfl
def klC(n:Nat)(sel new:List Nat)(os:ae):Option (List Nat×ae):=
 (if n=0 then(if(os.flatMap fun o=>o.ds.flatMap (cB H depth)).all (fun i=> !(sel++new).contains i)then aY (cz H) os else none)else some os).bind (klD H n sel new)
def lA:ae→List Nat
 | []=>[]
 | .box cs::r=>iR H 8 cs++lA r
 | .arr _ _ _ es::r=>iR H 8 es++lA r
@[go_sem] theorem KD : lA H [] = [] := (rfl)
@[go_sem] theorem KE (cs : List D) (r : ae) : lA H (.box cs :: r) = iR H 8 cs ++ lA H r := (rfl)
@[go_sem] theorem KF (sz ep : Nat) (pin : Bool) (es : List D) (r : ae) : lA H (.arr sz pin ep es :: r) = iR H 8 es ++ lA H r := (rfl)
theorem y9(os:ae):(os.flatMap fun o=>o.ds.flatMap (cB H depth))=lA H os:=by
 induction os with
 | nil=>rfl
 | cons o r ih=>rw[List.flatMap_cons,ih];cases o<;>rfl
@[go_sem] theorem XV (sel new : List Nat) (os : ae) : klC H 0 sel new os = (if m0 (sel ++ new) (lA H os) = true then aY (cz H) os else none).bind (klD H 0 sel new) := by
 simp only[klC,y9,r5,if_true]
@[go_sem] theorem XW (n : Nat) (sel new : List Nat) (os : ae) : klC H (n + 1) sel new os = klD H (n + 1) sel new os := by
 simp[klC]
def klN(n:Nat)(sel new:List Nat):Option (List Nat×ae):=(pick H new).bind (klC H n sel new)
@[go_sem] theorem WK (n : Nat) (sel new : List Nat) : klN H n sel new = (pick H new).bind (klC H n sel new) := (rfl)
@[go_sem] theorem RS (sel front : List Nat) : gy H 0 sel front = some ([], []) := (rfl)
@[go_sem] theorem RT (n : Nat) (sel front : List Nat) : gy H (n + 1) sel front = klN H n sel ((bQ sel front).drop sel.length) := by
 simp only[gy,klN]
 generalize (bQ sel front).drop sel.length=new
 cases pick H new with
 | none=>rfl
 | some os=>
   simp only[aLq,klC]
   congr 1
   funext os'
   simp only[klD]
   cases gy H n (sel++new) (fL H new)<;>rfl
@[go_sem] theorem B4 (cs : List D) : cz H (.box cs) = (aY (kG H) cs).map .box := (rfl)
@[go_sem] theorem qG (sz ep : Nat) (pin : Bool) (ts : List T) : cz H (.arr sz pin ep (ts.map .t)) = some (.arr sz pin ep (ts.map .t)) := by
 simp only[cz,lz,aLw]
@[go_sem] theorem B5 (sz ep : Nat) (pin : Bool) : cz H (.arr sz pin ep []) = some (.arr sz pin ep []) := (rfl)
@[go_sem] theorem B6 (sz ep : Nat) (pin : Bool) (m : Nat) (x : T) : cz H (.arr sz pin ep (List.replicate m (.t x))) = some (.arr sz pin ep (List.replicate m (.t x))) := by
 have:List.replicate m (D.t x)=(List.replicate m x).map .t:=by simp
 rw[this,qG]
def US(k raw:Nat)(H:ae)(ds rs:List D)(q:List Nat×ae):Option (D×ae):=
 if m0 (List.range k++q.1) (ed H raw ds)=true then
  (aY (ren (idxOf (List.range k++q.1)) depth) rs).bind fun rs'=>(aY (cR (idxOf (List.range k++q.1))) (H.take k++q.2)).map fun hs'=>(ns rs',hs')
 else none
def za(sel:List Nat)(H2:ae)(rs':List D):Option (D×ae):=(aY (cR (idxOf sel)) H2).bind (finT3 rs')
where finT3 (rs':List D) (hs:ae):Option (D×ae):=some (ns rs',hs)
@[go_sem] theorem RU (rs' : List D) (hs : ae) : za.finT3 rs' hs = some (ns rs', hs) := (rfl)
@[go_sem] theorem RV (sel : List Nat) (H2 : ae) (rs' : List D) : za sel H2 rs' = (aY (cR (idxOf sel)) H2).bind (za.finT3 rs') := (rfl)
@[go_sem] theorem UT (k raw : Nat) (ds rs : List D) (sel : List Nat) (os : ae) : US k raw H ds rs (sel, os) =
 if m0 (List.range k++sel) (ed H raw ds)=true then(aY (ren (idxOf (List.range k++sel)) 8) rs).bind (za (List.range k++sel) (H.take k++os))else none:=by
 simp only[US,depth]
 split
 · cases aY (ren (idxOf (List.range k++sel)) 8) rs with
   | none=>rfl
   | some rs'=>simp only[aLq,za];cases aY (cR (idxOf (List.range k++sel))) (H.take k++os)<;>rfl
 · rfl
@[go_sem] theorem UU (k raw : Nat) (ds rs : List D) : RD k raw H ds rs = (gy H (max raw 1) (List.range k) (nB 8 rs ++ fL H (List.range k))).bind (US k raw H ds rs) := by
 simp only[RD,r5,nB,depth];rfl
@[go_sem] theorem KG (k raw : Nat) (ds rs : List D) : Kq k raw H ds rs false = RD k raw H ds rs := (rfl)
@[go_sem] theorem KH (k raw : Nat) (ds : List D) : finish k (raw + 1) H ds = Oe k (raw + 1) H ds ds := by
 simp only[finish,Nat.add_one_ne_zero,if_false,aLq,fS,vq,Oe,Kq]
 show(if(cK k 8 ds&&cL k (H.take k))=true then _ else _)=_
 cases (cK k 8 ds&&cL k (H.take k))<;>rfl
@[go_sem] theorem GH (raw : Nat) (ds : List D) : ed H (raw + 1) ds = [] := by simp [ed]
@[go_sem] theorem RW : max 0 1 = 1 := (rfl)
@[go_sem] theorem UW (r : Nat) : max (r + 1) 1 = r + 1 := by omega
@[go_sem] theorem KI : List.range 0 = [] := (rfl)
@[go_sem] theorem KJ : List.range 1 = [0] := (rfl)
@[go_sem] theorem KK : List.range 2 = [0, 1] := (rfl)
@[go_sem] theorem KL : List.range 3 = [0, 1, 2] := (rfl)
@[go_sem] theorem KM : List.range 4 = [0, 1, 2, 3] := (rfl)
end
theorem vF{α:Type}(f:α→T)(l:List α)(i:Nat)(x:α)(y:D)(h:y= .t (f x)):((l.map f).map D.t).set i y=((l.set i x).map f).map D.t:=by
 rw[h,List.map_map,List.map_map]
 exact(List.map_set (f:=D.t ∘ f)).symm
@[go_sem] theorem UX (l : List Int) (i : Nat) (k : IntKind) (x : Int) : ((l.map (T.int k)).map D.t).set i (.t (.int k x)) = ((l.set i x).map (T.int k)).map D.t := vF _ l i x _ rfl
@[go_sem] theorem RX (l : List Bool) (i : Nat) (x : Bool) : ((l.map T.bool).map D.t).set i (.t (.bool x)) = ((l.set i x).map T.bool).map D.t := vF _ l i x _ rfl
end Go.Ev
namespace Go.Ev
class Lib where
 fs:Nat→Option Fn
end Go.Ev
namespace Go.Ev.K
abbrev u(x:O):R:={ o:=x}
abbrev w(n:Nat)(x:O):R:={ o:=x,d:=some n}
abbrev y(n:Nat)(b:Bool)(x:O):R:={ o:=x,g:=some (n,b)}
abbrev m(x:X):R:={ o:= .mv x}
abbrev g(x:X):R:={ o:= .ld x 1 false}
abbrev h(n:Nat)(x:X):R:={ o:= .ld x n true}
abbrev f(n:Nat)(x:X):R:={ o:= .fa x n}
abbrev a(n:Nat)(x z:X):R:={ o:= .ia x z n}
abbrev l0:X:= .l 0
abbrev l1:X:= .l 1
abbrev l2:X:= .l 2
abbrev l3:X:= .l 3
abbrev l4:X:= .l 4
abbrev l5:X:= .l 5
abbrev l6:X:= .l 6
abbrev l7:X:= .l 7
abbrev l8:X:= .l 8
abbrev l9:X:= .l 9
abbrev l10:X:= .l 10
abbrev l11:X:= .l 11
abbrev v0:X:= .v 0
abbrev v1:X:= .v 1
abbrev v2:X:= .v 2
abbrev v3:X:= .v 3
abbrev v4:X:= .v 4
abbrev v5:X:= .v 5
abbrev v6:X:= .v 6
abbrev v7:X:= .v 7
abbrev v8:X:= .v 8
abbrev v9:X:= .v 9
abbrev v10:X:= .v 10
abbrev v11:X:= .v 11
abbrev v12:X:= .v 12
abbrev v13:X:= .v 13
abbrev v14:X:= .v 14
abbrev v15:X:= .v 15
abbrev v16:X:= .v 16
abbrev v17:X:= .v 17
abbrev v18:X:= .v 18
abbrev v19:X:= .v 19
abbrev v20:X:= .v 20
abbrev v21:X:= .v 21
abbrev v22:X:= .v 22
abbrev v23:X:= .v 23
end Go.Ev.K
namespace Go.Ev.K
abbrev q(a:List R)(p:List (Nat×Nat))(c:C):C:= .seq (.reg a p) c
abbrev z0:D:= .t (.int .i64 (0))
abbrev z1:D:= .t (.bool false)
abbrev x(n:Nat)(z:X):R:={ o:= .mv z,d:=some n}
abbrev e(n:Nat)(b:Bool)(z:X):R:={ o:= .mv z,g:=some (n,b)}
abbrev i(n:Nat)(b:Bool)(z:X):R:={ o:= .ld z 1 false,g:=some (n,b)}
end Go.Ev.K
namespace Go.Ev.N
def tS:Nat:=0
def dA:Nat:=1
def GJ:Nat:=2
def dX:Nat:=3
def bB:Nat:=4
def KN:Nat:=5
def xO:Nat:=6
def zb:Nat:=7
def xP:Nat:=8
def aq:Nat:=9
def bc:Nat:=10
def wY:Nat:=11
def dM:Nat:=12
def AK:Nat:=13
def zc:Nat:=14
def aN:Nat:=15
def AL:Nat:=16
def GK:Nat:=17
def Dy:Nat:=18
def GL:Nat:=19
def AM:Nat:=20
def OD:Nat:=21
def Dz:Nat:=22
def eb:Nat:=23
def DA:Nat:=24
def zd:Nat:=25
def AN:Nat:=26
def AO:Nat:=27
def cZ:Nat:=28
def GM:Nat:=29
def OE:Nat:=30
def GN:Nat:=31
def KO:Nat:=32
def GO:Nat:=33
def DB:Nat:=34
def DC:Nat:=35
def GP:Nat:=36
def KP:Nat:=37
def GQ:Nat:=38
def ze:Nat:=39
def KQ:Nat:=40
def GR:Nat:=41
def KR:Nat:=42
def GS:Nat:=43
def DD:Nat:=44
def OF:Nat:=45
def DE:Nat:=46
def cG:Nat:=47
def AP:Nat:=48
def au:Nat:=49
def wZ:Nat:=50
def ay:Nat:=51
def xQ:Nat:=52
def AQ:Nat:=53
def dh:Nat:=54
def KS:Nat:=55
def DF:Nat:=56
def GU:Nat:=57
def GV:Nat:=58
def KT:Nat:=59
def GW:Nat:=60
def KU:Nat:=61
def AR:Nat:=62
def KV:Nat:=63
def GX:Nat:=64
def GY:Nat:=65
def aC:Nat:=66
def aL:Nat:=67
def xR:Nat:=68
def jg:Nat:=69
def vG:Nat:=70
def dH:Nat:=71
def GZ:Nat:=72
def G0:Nat:=73
def KW:Nat:=74
def j8:Nat:=75
def bf:Nat:=76
def dB:Nat:=77
end Go.Ev.N
namespace Go.Ev.K
open Go.Ev
def dA:Fn:= { bK:=1,vars:=[0,2],body:=(q [x 1 (.b false)] [] (q [m v0,u (.ln l0),u (.bin .leq l0 (.i 400)),x 1 l0] [] .ret)),res:=[(1,none)]}
def dX:Fn:= { bK:=1,vars:=[0,2],body:=(q [w 1 (.mv (.c (.nilp)))] [] (q [m v0,u (.bd [.nil,z0] [(0,1,.l 0)]),u (.bx l0 2),x 1 l0] [] .ret)),res:=[(1,none)]}
def dI:C:= (.seq (.ite [m v4,m v3,u (.bin .lss l1 l0)] [] 0 .skip (.exit 0)) (.seq (.blk 1 (.reg [f 0 v2,g l0,m v0,u (.ca N.aq 0 [] [.l 0,.i 4]),u (.bin .mul (.i (-10)) l0),m v4,u (.bin .eql l0 (.i 0)),m l0,e 0 false v0,y 1 false (.ca N.aN 0 [] [.l 0,.i 6]),u (.pk l2 (.b true) l0),u (.bd [z0,z1] [(0,1,.l 6),(1,1,.l 0)]),u (.bs [.l 0] 2),u (.app l11 l0 true 2),f 0 v2,u (.st l0 l1 1 [])] [(1,4),(1,10),(1,13)])) (.reg [m v4,u (.bin .add l0 (.i 1)),x 4 l0] [])))
def hX:C:= .loop true [5,6,7,8,9] K.dI
def eG:C:= (.seq (.ite [m v6,m v3,u (.bin .lss l1 l0)] [] 0 .skip (.exit 2)) (.seq (.blk 3 (q [h 10 v5,w 7 (.al [z0,z0,z0,z0,z1,z1,z0,z0,z0,z0] []),u (.st l0 l1 10 [])] [] (q [m v6,u (.bin .sub l0 (.i 1)),m v0,m v6,u (.mn [.l 0,.i 2]),u (.ca N.aq 0 [] [.l 2,.l 0]),u (.bin .sub l4 l0),m v6,m v0,u (.bs [.i 11,.i 59,.i 119,.i 4] 1),u (.ca N.bc 0 [] [.l 1,.l 0]),u (.bin .add (.i 1) l0),m v0,u (.bs [.i 9,.i 3,.i 19] 1),u (.ca N.bc 0 [] [.l 1,.l 0]),u (.bin .add (.i 1) l0),f 0 v7,u (.st l0 l10 1 []),f 1 v7,u (.st l0 l11 1 []),f 2 v7,u (.st l0 l9 1 []),f 3 v7,u (.st l0 l7 1 [])] [] (.reg [f 1 v2,g l0,h 10 v7,u (.bs [.l 0] 10),u (.app l2 l0 true 10),f 1 v2,u (.st l0 l1 1 [])] [])))) (.reg [m v6,u (.bin .add l0 (.i 1)),x 6 l0] [])))
def ib:C:= .loop true [4,7,8,9] K.eG
def bR:C:= (.seq (.ite [m v8,u (.bin .gtr l0 (.i 0)),m l0,y 0 true (.fa v2 1),i 1 true l0,y 2 true (.ln l0),y 3 true (.bin .lss l0 (.i 10)),u (.pk l4 l0 (.b false))] [] 0 .skip (.exit 4)) (.seq (.blk 5 (q [h 10 v5,w 9 (.al [z0,z0,z0,z0,z1,z1,z0,z0,z0,z0] []),u (.st l0 l1 10 [])] [] (q [m v0,m v3,u (.ca N.aq 0 [] [.l 1,.l 0]),m v0,m v3,u (.ca N.aq 0 [] [.l 1,.l 0]),m v0,u (.bs [.i 11,.i 59,.i 199] 1),u (.ca N.bc 0 [] [.l 1,.l 0]),u (.bin .add (.i 1) l0),m v0,u (.bs [.i 9,.i 3] 1),u (.ca N.bc 0 [] [.l 1,.l 0]),u (.bin .add (.i 1) l0),f 0 v9,u (.st l0 (.l 12) 1 []),f 1 v9,u (.st l0 l11 1 []),f 2 v9,u (.st l0 l9 1 []),f 3 v9,u (.st l0 l7 1 [])] [] (q [m v0,u (.ca N.aq 0 [] [.l 0,.i 5]),u (.bin .gtr l0 (.i 0)),m v0,u (.ca N.aN 0 [] [.l 0,.i 6]),f 4 v9,u (.st l0 l3 1 []),f 5 v9,u (.st l0 l3 1 [])] [] (.ite [f 0 v9,g l0,f 1 v9,g l0,u (.bin .neq l2 l0)] [] 0 (.reg [f 1 v2,g l0,h 10 v9,u (.bs [.l 0] 10),u (.app l2 l0 true 10),f 1 v2,u (.st l0 l1 1 [])] []) .skip))))) (.reg [m v8,u (.bin .sub l0 (.i 1)),x 8 l0] [])))
def ic:C:= .loop true [4,6,7,9] K.bR
def bB:Fn:= { bK:=1,vars:=[0,2,3,4,5,6,7,8,9,10],body:=(q [w 1 (.al [.nil,.nil] [])] [] (q [w 2 (.al [.nil,.nil] [(0,2),(1,10)])] [] (q [m v0,u (.ca N.aq 0 [] [.l 0,.i 6]),u (.bin .add (.i 2) l0),x 3 l0] [] (.seq (.ite [m v0,u (.nc l0),f 0 l0,g l0,u (.ln l0),u (.bin .eql l0 (.i 0))] [] 0 (.reg [x 3 (.i 4)] []) .skip) (.seq (q [x 4 (.i 0)] [] (.blk 0 K.hX)) (q [u (.bd [z0,z0] [(0,1,.i 1),(1,1,.i 1)]),u (.bd [z0,z0,z0,z0,z1,z1,z0,z0,z0,z0] [(2,1,.i 12),(3,1,.i 10),(4,1,.b true),(6,2,.l 0)]),w 5 (.al [z0,z0,z0,z0,z1,z1,z0,z0,z0,z0] []),u (.st l0 l1 10 [])] [] (.seq (q [x 6 (.i 1)] [] (.blk 2 K.ib)) (.seq (q [m v0,u (.ca N.aq 0 [] [.l 0,.i 4]),x 8 l0] [] (.blk 4 K.ic)) (q [h 2 v2,u (.st v1 l0 2 [])] [] .ret))))))))),res:=[(1,some (2,true))]}
def aq:Fn:= { bK:=2,vars:=[0,1,4],body:=(q [x 2 (.i 0)] [] (.seq (.ite [m v0,u (.nc l0),f 1 l0,g l0,m v0,u (.nc l0),f 0 l0,g l0,u (.ln l0),u (.bin .geq l5 l0)] [] 0 (q [x 2 (.i 0)] [] .ret) .skip) (q [m v0,u (.nc l0),f 1 l0,g l0,u (.bin .add l0 (.i 1)),u (.nc l4),f 1 l0,u (.st l0 l2 1 [])] [] (q [m v0,u (.nc l0),f 0 l0,g l0,m v0,u (.nc l0),f 1 l0,g l0,u (.bin .sub l0 (.i 1)),a 1 l5 l0,g l0,m v1,u (.ca N.eb 0 [] [.l 1,.l 0]),x 2 l0] [] .ret)))),res:=[(2,none)]}
def bc:Fn:= { bK:=2,vars:=[0,1,4],body:=(q [x 2 (.i 0)] [] (q [m v1,m v0,m v1,u (.ln l0),u (.ca N.aq 0 [] [.l 2,.l 0]),a 1 l4 l0,g l0,x 2 l0] [] .ret)),res:=[(2,none)]}
def fQ:C:= (.seq (.ite [m v3,m v0,u (.ln l0),u (.bin .lss l2 l0)] [] 0 .skip (.exit 0)) (.seq (.blk 1 (.ite [m v0,m v3,a 1 l1 l0,g l0,m v1,u (.bin .eql l1 l0)] [] 0 (q [x 2 (.b true)] [] .ret) .skip)) (.reg [m v3,u (.bin .add l0 (.i 1)),x 3 l0] [])))
def m5:C:= .loop true [2] K.fQ
def dM:Fn:= { bK:=2,vars:=[0,1,4,5],body:=(q [x 2 (.b false)] [] (.seq (q [x 3 (.i 0)] [] (.blk 0 K.m5)) (q [x 2 (.b false)] [] .ret))),res:=[(2,none)]}
def aN:Fn:= { bK:=2,vars:=[0,1,4],body:=(q [x 2 (.b false)] [] (q [m v0,m v1,u (.ca N.aq 0 [] [.l 1,.l 0]),m v1,u (.bin .sub l0 (.i 1)),u (.bin .eql l2 l0),x 2 l0] [] .ret)),res:=[(2,none)]}
def eb:Fn:= { bK:=2,vars:=[0,1,4],body:=(q [x 2 (.i 0)] [] (.seq (.ite [m v1,u (.bin .lss l0 (.i 1))] [] 0 (q [x 2 (.i 0)] [] .ret) .skip) (q [m v0,m v1,u (.bin .rem l1 l0),x 0 l0] [] (.seq (.ite [m v0,u (.bin .lss l0 (.i 0))] [] 0 (.reg [m v0,m v1,u (.bin .add l1 l0),x 0 l0] []) .skip) (q [m v0,x 2 l0] [] .ret))))),res:=[(2,none)]}
def fX:C:= (.seq (.ite [m v3,f 0 v1,g l0,u (.ln l0),u (.bin .lss l3 l0)] [] 0 .skip (.exit 0)) (.seq (.blk 1 (q [f 0 v1,g l0,m v3,a 2 l1 l0,f 0 l0,g l0,x 4 l0] [] (.ite [m v4,u (.bin .lss l0 (.i (-10000))),m l0,e 0 false v4,y 1 false (.bin .gtr l0 (.i 10000)),u (.pk l2 (.b true) l0)] [] 0 (q [x 2 (.i 1)] [] .ret) .skip))) (.reg [m v3,u (.bin .add l0 (.i 1)),x 3 l0] [])))
def j9:C:= .loop true [0,2,4,5,6] K.fX
def fY:C:= (.seq (.ite [m v5,f 1 v1,g l0,u (.ln l0),u (.bin .lss l3 l0)] [] 0 .skip (.exit 2)) (.seq (.blk 3 (q [f 1 v1,g l0,m v5,a 10 l1 l0,h 10 l0,w 6 (.al [z0,z0,z0,z0,z1,z1,z0,z0,z0,z0] []),u (.st l0 l1 10 [])] [] (.seq (.ite [f 0 v6,g l0,u (.bin .lss l0 (.i 0)),m l0,y 0 false (.fa v6 0),i 1 false l0,y 2 false (.fa v1 0),i 3 false l0,y 4 false (.ln l0),y 5 false (.bin .geq l3 l0),u (.pk l6 (.b true) l0),m l0,y 0 false (.fa v6 1),i 1 false l0,y 2 false (.bin .lss l0 (.i 0)),u (.pk l3 (.b true) l0),m l0,y 0 false (.fa v6 1),i 1 false l0,y 2 false (.fa v1 0),i 3 false l0,y 4 false (.ln l0),y 5 false (.bin .geq l3 l0),u (.pk l6 (.b true) l0),m l0,y 0 false (.fa v6 0),i 1 false l0,y 2 false (.fa v6 1),i 3 false l0,y 4 false (.bin .eql l2 l0),u (.pk l5 (.b true) l0)] [] 0 (q [x 2 (.i 4)] [] .ret) .skip) (.ite [f 2 v6,g l0,u (.bin .lss l0 (.i 1)),m l0,y 0 false (.fa v6 2),i 1 false l0,y 2 false (.bin .gtr l0 (.i 100000)),u (.pk l3 (.b true) l0),m l0,y 0 false (.fa v6 3),i 1 false l0,y 2 false (.bin .lss l0 (.i 1)),u (.pk l3 (.b true) l0),m l0,y 0 false (.fa v6 3),i 1 false l0,y 2 false (.bin .gtr l0 (.i 1000)),u (.pk l3 (.b true) l0),m l0,y 0 false (.fa v6 6),y 1 false (.ld l0 2 true),y 2 false (.ca N.dh 0 [] [.l 0,.i 1,.i 262144]),y 3 false (.un .not l0),u (.pk l4 (.b true) l0),m l0,y 0 false (.fa v6 8),y 1 false (.ld l0 2 true),y 2 false (.ca N.dh 0 [] [.l 0,.i (-2199023255552),.i 2199023255552]),y 3 false (.un .not l0),u (.pk l4 (.b true) l0)] [] 0 (q [x 2 (.i 1)] [] .ret) .skip)))) (.reg [m v5,u (.bin .add l0 (.i 1)),x 5 l0] [])))
def ka:C:= .loop true [0,2,3,4,6] K.fY
def cZ:Fn:= { bK:=1,vars:=[0,1,2,3,4,5,6],body:=(q [w 1 (.bx v0 2),x 2 (.i 0)] [] (.seq (.ite [f 0 v1,g l0,u (.ln l0),u (.bin .gtr l0 (.i 64)),m l0,y 0 false (.fa v1 1),i 1 false l0,y 2 false (.ln l0),y 3 false (.bin .gtr l0 (.i 128)),u (.pk l4 (.b true) l0)] [] 0 (q [x 2 (.i 2)] [] .ret) .skip) (.seq (q [x 3 (.i 0)] [] (.blk 0 K.j9)) (.seq (q [x 5 (.i 0)] [] (.blk 2 K.ka)) (q [x 2 (.i 0)] [] .ret))))),res:=[(2,none)]}
end Go.Ev.K
namespace Go.Ev
class aR [Lib]:Prop where
 jh:Lib.fs N.dA=some K.dA
 kt:Lib.fs N.dX=some K.dX
 fA:Lib.fs N.bB=some K.bB
 fB:Lib.fs N.aq=some K.aq
 gH:Lib.fs N.bc=some K.bc
 ku:Lib.fs N.dM=some K.dM
 fZ:Lib.fs N.aN=some K.aN
 my:Lib.fs N.eb=some K.eb
 iE:Lib.fs N.cZ=some K.cZ
namespace K
variable [Lib] [aR]
theorem jh:Lib.fs N.dA=some K.dA:=aR.jh
theorem kt:Lib.fs N.dX=some K.dX:=aR.kt
theorem fA:Lib.fs N.bB=some K.bB:=aR.fA
theorem fB:Lib.fs N.aq=some K.aq:=aR.fB
theorem gH:Lib.fs N.bc=some K.bc:=aR.gH
theorem ku:Lib.fs N.dM=some K.dM:=aR.ku
theorem fZ:Lib.fs N.aN=some K.aN:=aR.fZ
theorem my:Lib.fs N.eb=some K.eb:=aR.my
theorem iE:Lib.fs N.cZ=some K.cZ:=aR.iE
end K
end Go.Ev
namespace Go.Ev.K
open Go.Ev
def eH:C:= (.its [u (.bin .lss v6 v5)] [] 0 .skip (.exit 0) (.seq (.blk 1 (q [m v6,x 4 l0] [] (.ite [m v1,m v4,u (.cw l1 0 [] [.l 0])] [] 0 (.reg [m v3,m v4,u (.bs [.l 0] 1),u (.app l2 l0 true 1),x 3 l0] []) .skip))) (.reg [u (.bin .add v6 (.i 1)),x 6 l0] [])))
def kc:C:= .loop true [0,2,4] K.eH
def cG:Fn:= { bK:=2,vars:=[0,1,4,5,6,7,8],body:=(q [w 2 (.mv (.c (.nil)))] [] (q [w 3 (.nw 1)] [] (.seq (q [x 5 v0,x 6 (.i 0)] [] (.blk 0 K.kc)) (q [m v3,x 2 l0] [] .ret)))),res:=[(2,none)]}
def au:Fn:= { bK:=2,vars:=[0,1,4],body:=(q [x 2 (.b false)] [] (q [m v0,m v1,u (.ca N.aC 0 [] [.l 1,.l 0]),u (.bin .geq l0 (.i 0)),x 2 l0] [] .ret)),res:=[(2,none)]}
def ay:Fn:= { bK:=2,vars:=[0,1,4],body:=(q [x 2 (.b false)] [] (q [m v0,m v1,u (.ca N.aL 0 [] [.l 1,.l 0]),u (.bin .geq l0 (.i 0)),x 2 l0] [] .ret)),res:=[(2,none)]}
def dh:Fn:= { bK:=3,vars:=[0,1,2,3,6],body:=(q [w 3 (.bx v0 2),x 4 (.b false)] [] (q [m v1,f 0 v3,g l0,u (.bin .leq l2 l0),m l0,y 0 true (.fa v3 0),i 1 true l0,y 2 true (.fa v3 1),i 3 true l0,y 4 true (.bin .leq l2 l0),u (.pk l5 l0 (.b false)),m l0,y 0 true (.fa v3 1),i 1 true l0,e 2 true v2,y 3 true (.bin .leq l1 l0),u (.pk l4 l0 (.b false)),x 4 l0] [] .ret)),res:=[(4,none)]}
def bP:C:= (.its [u (.bin .lss v5 v4)] [] 0 .skip (.exit 0) (.seq (.blk 1 (q [m v5,x 3 l0] [] (.ite [m v1,m v0,m v3,a 1 l1 l0,g l0,u (.cw l4 0 [] [.l 0])] [] 0 (q [m v3,x 2 l0] [] .ret) .skip))) (.reg [u (.bin .add v5 (.i 1)),x 5 l0] [])))
def dN:C:= .loop true [2,3] K.bP
def aC:Fn:= { bK:=2,vars:=[0,1,4,5,7,8],body:=(q [x 2 (.i 0)] [] (.seq (q [m v0,w 4 (.ln l0),x 5 (.i 0)] [] (.blk 0 K.dN)) (q [w 2 (.mv (.i (-1)))] [] .ret))),res:=[(2,none)]}
def cm:C:= (.its [u (.bin .lss v5 v4)] [] 0 .skip (.exit 0) (.seq (.blk 1 (q [m v5,x 3 l0] [] (.ite [m v1,m v0,m v3,a 1 l1 l0,g l0,u (.bin .eql l4 l0)] [] 0 (q [m v3,x 2 l0] [] .ret) .skip))) (.reg [u (.bin .add v5 (.i 1)),x 5 l0] [])))
def eI:C:= .loop true [2,3] K.cm
def aL:Fn:= { bK:=2,vars:=[0,1,4,5,7,8],body:=(q [x 2 (.i 0)] [] (.seq (q [m v0,w 4 (.ln l0),x 5 (.i 0)] [] (.blk 0 K.eI)) (q [w 2 (.mv (.i (-1)))] [] .ret))),res:=[(2,none)]}
def dH:Fn:= { bK:=3,vars:=[0,1,2,6],body:=(q [x 3 (.b false)] [] (q [m v0,m v1,u (.bin .geq l1 l0),m l0,e 0 true v0,e 1 true v2,y 2 true (.bin .leq l1 l0),u (.pk l3 l0 (.b false)),x 3 l0] [] .ret)),res:=[(3,none)]}
def bf:Fn:= { bK:=6,vars:=[0,1,2,3,4,5,6,12,13,14,15,16,17],body:=(q [w 6 (.bx v0 2),x 7 (.i 0)] [] (.seq (.ite [h 2 v6,u (.ca N.cZ 0 [] [.l 0]),u (.bin .neq l0 (.i 0)),m l0,e 0 false v1,y 1 false (.bin .lss l0 (.i 0)),u (.pk l2 (.b true) l0),m l0,e 0 false v1,y 1 false (.fa v6 1),i 2 false l0,y 3 false (.ln l0),y 4 false (.bin .geq l3 l0),u (.pk l5 (.b true) l0),m l0,y 0 false (.fa v6 1),i 1 false l0,e 2 false v1,y 3 false (.ia l1 l0 10),y 4 false (.fa l0 5),i 5 false l0,u (.pk l6 (.b true) l0),m l0,y 0 false (.fa v6 1),i 1 false l0,e 2 false v1,y 3 false (.ia l1 l0 10),y 4 false (.fa l0 4),i 5 false l0,y 6 false (.un .not l0),u (.pk l7 (.b true) l0)] [] 0 (q [w 7 (.mv (.i (-1)))] [] .ret) .skip) (q [f 1 v6,g l0,m v1,a 10 l1 l0,h 10 l0,w 8 (.al [z0,z0,z0,z0,z1,z1,z0,z0,z0,z0] []),u (.st l0 l1 10 [])] [] (q [h 10 v8,m v2,u (.ca N.dB 0 [] [.l 1,.l 0]),m l0,u (.ex l0 0),u (.ex l1 1),x 9 l1,x 10 l1] [] (q [f 0 v6,g l0,m v10,a 2 l1 l0,f 0 l0,g l0,f 0 v6,g l0,m v9,a 2 l1 l0,f 0 l0,g l0,u (.bin .sub l6 l0),x 11 l0] [] (q [m v5,x 12 l0] [] (.seq (.ite [m v11,u (.bin .mul (.i 10) l0),f 2 v8,g l0,u (.bin .gtr l2 l0)] [] 0 (.reg [m v3,x 12 l0] []) .skip) (.seq (.ite [m v11,u (.bin .mul (.i (-10)) l0),f 2 v8,g l0,u (.bin .gtr l2 l0)] [] 0 (.reg [m v4,x 12 l0] []) .skip) (q [f 2 v8,g l0,u (.bin .mul (.i 10) l0),m v12,u (.bin .add l1 l0),u (.bin .sub l0 (.i 1)),m v12,u (.bin .quo l1 l0),x 7 l0] [] .ret))))))))),res:=[(7,none)]}
def dB:Fn:= { bK:=2,vars:=[0,1,2,4,5],body:=(q [w 2 (.bx v0 10),x 3 (.i 0),x 4 (.i 0)] [] (.seq (.ite [m v1] [] 0 (q [f 1 v2,g l0,f 0 v2,g l0,x 3 l2,x 4 l1] [] .ret) .skip) (q [f 0 v2,g l0,f 1 v2,g l0,x 3 l2,x 4 l1] [] .ret))),res:=[(3,none),(4,none)]}
end Go.Ev.K
namespace Go.Ev
class aS [Lib]:Prop where
 iF:Lib.fs N.cG=some K.cG
 cq:Lib.fs N.au=some K.au
 c7:Lib.fs N.ay=some K.ay
 ji:Lib.fs N.dh=some K.dh
 cM:Lib.fs N.aC=some K.aC
 dE:Lib.fs N.aL=some K.aL
 mz:Lib.fs N.dH=some K.dH
 gI:Lib.fs N.bf=some K.bf
 jj:Lib.fs N.dB=some K.dB
namespace K
variable [Lib] [aS]
theorem iF:Lib.fs N.cG=some K.cG:=aS.iF
theorem cq:Lib.fs N.au=some K.au:=aS.cq
theorem c7:Lib.fs N.ay=some K.ay:=aS.c7
theorem ji:Lib.fs N.dh=some K.dh:=aS.ji
theorem cM:Lib.fs N.aC=some K.aC:=aS.cM
theorem dE:Lib.fs N.aL=some K.aL:=aS.dE
theorem mz:Lib.fs N.dH=some K.dH:=aS.mz
theorem gI:Lib.fs N.bf=some K.bf:=aS.gI
theorem jj:Lib.fs N.dB=some K.dB:=aS.jj
end K
end Go.Ev
namespace Go.Ev
open Go
variable [Lib]
noncomputable def bM:av:=gp Lib.fs
theorem aQ{raw f:Nat}{args:List D}{H:ae}{fn:Fn}{r:D×ae}(hf:Lib.fs f=some fn)(hn:fn.bK=args.length)
 (h:(exS bM fn.body ⟨jZ args fn.vars,H⟩).bind (Qw fn.res H.length raw)=some r) (h0:fn.prim=[]:=by rfl):bM raw f args H=some r:=FL hf hn h h0
theorem eJ{gc:Bool}{dead:List Nat}{c:C}{vs:List D}{H:ae}(s:Nat→St)(n:Nat){e:Ex}{st:St}
 (h0:(⟨fp dead vs,H⟩:St)=s 0) (h:∀j,j<n→fW gc dead (s j).H.length (exS bM c (s j))=some (s (j+1)))
 (he:exS bM c (s n)=some (e,st)) (hn:e≠ .normal):exS bM (.loop gc dead c) ⟨vs,H⟩=some (e,st):=by
 show iQ gc dead (exS bM c) ⟨fp dead vs,H⟩=_
 rw[h0]
 exact qC s n h (en he hn)
theorem G1{gc:Bool}{dead:List Nat}{c:C}{vs:List D}{H:ae}{p:Ex×St}(h:iQ gc dead (exS bM c) ⟨fp dead vs,H⟩=some p):exS bM (.loop gc dead c) ⟨vs,H⟩=some p:=h
class Dat (α:Type) where
 dflt:α
instance : Dat Int := ⟨0⟩
instance : Dat Nat := ⟨0⟩
instance : Dat Bool := ⟨false⟩
instance {α : Type} : Dat (List α) := ⟨[]⟩
def nth{α:Type} [Dat α](l:List α)(j:Nat):α:=l.getD j Dat.dflt
theorem vH{α:Type} [Dat α]{l:List α}{j:Nat}(h:j<l.length):l[j]?=some (nth l j):=by simp[nth,h]
theorem ef{α β:Type} [Dat α](f:α→β){l:List α}{j:Nat}(h:j<l.length):(l.map f)[j]?=some (f (nth l j)):=by rw[aLn,vH h];rfl
theorem vI{α β γ:Type} [Dat α](f:β→γ)(g:α→β){l:List α}{j:Nat}(h:j<l.length):((l.map g).map f)[j]?=some (f (g (nth l j))):=by rw[aLn,ef g h];rfl
theorem bn{α:Type} [Dat α]{l:List α}{j:Nat}(h:j<l.length):nth l j∈l:=aLd (vH h)
theorem vJ{α:Type} [Dat α]{l:List α}{j:Nat}{x:α}(h:l[j]?=some x):nth l j=x:=by simp[nth,h]
theorem UY{a b:Int}(h:a<b):(a<b)=True:=by simp[h]
theorem UZ{a b:Int}(h:b≤a):(a<b)=False:=by simp[Int.not_lt.2 h]
theorem U0{a b:Int}(h:a≤b):(a≤b)=True:=by simp[h]
theorem U1{a b:Int}(h:b<a):(a≤b)=False:=by simp[Int.not_le.2 h]
theorem U2{a b:Int}(h:a=b):(a=b)=True:=by simp[h]
theorem U3{a b:Int}(h:a≠b):(a=b)=False:=by simp[h]
theorem U4{a b:Nat}(h:a<b):(a<b)=True:=by simp[h]
theorem U5{a b:Nat}(h:b≤a):(a<b)=False:=by simp[Nat.not_lt.2 h]
theorem U6{a b:Nat}(h:a≤b):(a≤b)=True:=by simp[h]
theorem U7{a b:Nat}(h:b<a):(a≤b)=False:=by simp[Nat.not_le.2 h]
theorem U8{a b:Nat}(h:a=b):(a=b)=True:=by simp[h]
theorem U9{a b:Nat}(h:a≠b):(a=b)=False:=by simp[h]
attribute [go_sem] U8 U9 UY UZ U0 U1 U2 U3 U4 U5 U6 U7 jd ef vI F4
@[go_sem] theorem KX (a b : Nat) : ((a + b : Nat) : Int) = (a : Int) + (b : Int) := (rfl)
@[go_sem] theorem KY : ((1 : Nat) : Int) = 1 := (rfl)
@[go_sem] theorem G3 : ((0 : Nat) : Int) = 0 := (rfl)
@[go_sem] theorem OH (a b : Int) : a + b - b = a := Int.add_sub_cancel a b
@[go_sem] theorem DG : (0 : Int).toNat = 0 := (rfl)
@[go_sem] theorem G4 (n : Nat) : (n : Int).toNat = n := (rfl)
@[go_sem] theorem G5 (n : Nat) : ((n : Int) + 1).toNat = n + 1 := (rfl)
@[go_sem] theorem G6 (a : Int) : 0 + a = a := Int.zero_add a
@[go_sem] theorem G7 (a : Int) : a + 0 = a := Int.add_zero a
@[go_sem] theorem G8 (a : Int) : a - 0 = a := Int.sub_zero a
abbrev tI(n:Int):T:= .int .i64 n
abbrev tL(l:List Int):T:= .sl (l.map (.int .i64))
@[go_sem] theorem B7 (H : ae) (n : Nat) (ts : List T) (x : T) : aY (frz H n) (ts.map .t ++ [.t x]) = some (ts ++ [x]) := by
 have:ts.map D.t++[.t x]=(ts++[x]).map .t:=by simp
 rw[this,wT]
@[go_sem] theorem DH {α β : Type} (f : α → β) (a b : List α) : (a ++ b).map f = a.map f ++ b.map f := List.map_append
end Go.Ev
namespace Go.Ev
open Go
variable [Lib] [aR] [aS]
theorem ie{gc:Bool}{dead:List Nat}{c:C}{vs:List D}{H:ae}(s:Nat→St)(n:Nat)(p:Nat→Bool)(e:Nat→Ex×St)(eN:Ex×St)
 (h0:(⟨fp dead vs,H⟩:St)=s 0) (hs:∀j,j<n→p j=false→fW gc dead (s j).H.length (exS bM c (s j))=some (s (j+1)))
 (he:∀j,j<n→p j=true→exS bM c (s j)=some (e j)∧(e j).1≠ .normal) (hN:exS bM c (s n)=some eN) (hn:eN.1≠ .normal):
 exS bM (.loop gc dead c) ⟨vs,H⟩=some (match (List.range n).find? p with | some j=>e j | none=>eN):=by
 show iQ gc dead (exS bM c) ⟨fp dead vs,H⟩=_
 rw[h0]
 cases hf:(List.range n).find? p with
 | none=>
   refine qC s n (fun j hj=>hs j hj ?_) (en hN hn)
   have:=List.find?_eq_none.1 hf j (aLu.2 hj)
   simpa using this
 | some k=>
   obtain⟨h1,as,bs,h2,h3⟩:=List.find?_eq_some_iff_append.1 hf
   have hk:k<n:=aLu.1 (List.mem_of_find?_eq_some hf)
   have hlt:∀j,j<k→p j=false:=by
    intro j hj
    have hlen:as.length=k:=by
     have h4:(List.range n)[as.length]?=some k:=by rw[h2];simp
     have h5:as.length<n:=by
      have:=congrArg List.length h2;simp at this;omega
     rw[aLp h5]at h4
     exact Option.some.inj h4
    have:j∈as:=by
     have h6:(List.range n)[j]?=some j:=aLp (by omega)
     rw[h2,aLg (by omega)]at h6
     exact aLd h6
    simpa using h3 j this
   obtain⟨k1,k2⟩:=he k hk h1
   exact qC s k (fun j hj=>hs j (by omega) (hlt j hj)) (en k1 k2)
def vK{α:Type}(f:α→α×Bool):Nat→α→α
 | 0,l=>l
 | n+1,l=>if(f l).2 then vK f n (f l).1 else(f l).1
theorem B8{n:Nat}{p:Nat→Bool}:((List.range n).find? p).isSome=(List.range n).any p:=by
 rw[List.isSome_find?]
def di(m:Nat):List D:=(List.range m).map fun i=> .bp i 0
def aA(bs:List (List T)):ae:=bs.map fun cs=> .box (cs.map .t)
theorem p6{bs:List (List T)}{i:Nat}(h:i<bs.length):(aA bs)[i]?=some (.box (bs[i].map .t)):=by simp[aA,h]
theorem cD(bs:List (List T)):(aA bs).length=bs.length:=by simp[aA]
theorem mA:∀(l sel:List Nat),(sel++l).Nodup→bQ sel l=sel++l
 | [],sel,_=>by simp[bQ]
 | i::r,sel,h=>by
   have:sel.contains i=false:=by
    rw[← Bool.not_eq_true,List.contains_iff_mem]
    intro hm
    have:=List.nodup_append.1 h
    exact this.2.2 i hm i List.mem_cons_self rfl
   simp only[bQ,this,aLt,if_false]
   rw[mA r (sel++[i]) (by simpa using h)]
   simp
theorem et:∀(l:List Nat) (i k:Nat),l.Nodup→l[k]?=some i→idxOf l i=some k
 | [],i,k,_,h=>by simp at h
 | a::l,i,0,_,h=>by simp at h;simp[idxOf,h]
 | a::l,i,k+1,hn,h=>by
   simp at h
   have hne:a≠i:=fun e=>(List.nodup_cons.1 hn).1 (e▸aLd h)
   simp only[idxOf,if_neg hne,et l i k (List.nodup_cons.1 hn).2 h,aLw]
theorem tT{m i:Nat}(h:i<m):idxOf (List.range m) i=some i:=et _ _ _ List.nodup_range (aLp h)
theorem tU{α:Type}{f:α→Option α}:∀ {l:List α},(∀x∈l,f x=some x)→aY f l=some l
 | [],_=>rfl
 | a::l,h=>by
   simp only[aY,h a List.mem_cons_self,aLq,tU fun x hx=>h x (List.mem_cons_of_mem _ hx),aLw]
theorem tV(f:Nat→Option Nat)(cs:List T):cR f (.box (cs.map .t))=some (.box (cs.map .t)):=by
 simp only[wX,jM,aLw]
theorem r6{H:ae}:∀ {l:List Nat} {hs:ae},l.length=hs.length→(∀(k i:Nat) (o:Obj),l[k]?=some i→hs[k]?=some o→H[i]?=some o)→pick H l=some hs
 | [],[],_,_=>rfl
 | [],_::_,h,_=>by simp at h
 | _::_,[],h,_=>by simp at h
 | i::l,o::hs,h,hg=>by
   rw[y8,hg 0 i o rfl rfl,aLq,B3,r6 (l:=l) (hs:=hs) (by simpa using h) fun k i o hk ho=>hg (k+1) i o (by simpa using hk) (by simpa using ho)]
   rfl
theorem m6{H:ae}:∀ {l:List Nat} {os:ae},(∀(k i:Nat) (o:Obj),l[k]?=some i→os[k]?=some o→H[i]?=some o)→bL H l os=H
 | [],os,_=>by cases os<;>rfl
 | i::l,[],_=>rfl
 | i::l,o::os,hg=>by
   simp only[bL]
   rw[B1 (hg 0 i o rfl rfl)]
   exact m6 fun k i o hk ho=>hg (k+1) i o (by simpa using hk) (by simpa using ho)
theorem r7(call:av)(bs:List (List T))(E:ae)(f raw:Nat)(args:List D){r:D}(h:call raw f args (aA bs)=some (r,aA bs))(hr:nz r=true)
 (ha:∀H:ae,gW H [] 0 args=some args∧bz H [] 0 args=[]) (hids:bQ [] (nB 8 args)=List.range bs.length)
 (hren:aY (ren (idxOf (List.range bs.length)) 8) args=some args):vn (aA bs++E) call f raw [] args=some (r,aA bs++E):=by
 generalize hH:aA bs++E=H
 have hget:∀i (hi:i<bs.length),H[i]?=some (.box (bs[i].map .t)):=fun i hi=>by
  rw[← hH,aLg (by rw[cD];exact hi),p6 hi]
 obtain⟨ha,hfz⟩:=ha H
 have hno:fL H (List.range bs.length)=[]:=by
  simp only[fL,List.flatMap_eq_nil_iff,aLu]
  intro i hi
  rw[hget i hi]
  exact p5 8 bs[i]
 have hsel:reach H 3 (List.range bs.length)=List.range bs.length:=by
  simp only[reach,hno,bQ]
 have hget2:∀(k i:Nat) (o:Obj),(List.range bs.length)[k]?=some i→(aA bs)[k]?=some o→H[i]?=some o:=by
  intro k i o hk ho
  have hkl:k<bs.length:=by have:=(aLe.1 hk).1;simpa using this
  rw[aLp hkl]at hk
  cases hk
  rw[p6 hkl]at ho
  rw[hget k hkl,←ho]
 have hpick:pick H (List.range bs.length)=some (aA bs):=r6 (by simp[cD]) hget2
 have hro:∀f:Nat→Option Nat,aY (cR f) (aA bs)=some (aA bs):=fun f=>tU fun o ho=>by
  simp only[aA,List.mem_map]at ho
  obtain⟨cs,_,rfl⟩:=ho
  exact tV f cs
 have hput:bL H (List.range bs.length) (aA bs)=H:=m6 hget2
 rw[vr,vt,ha,aLq,vu,hids,hsel,vv,hren,aLq,hfz,vw]
 simp only[pins]
 rw[hpick,aLq,vz,hro,aLq,vA,h,aLq]
 cases hb:bs with
 | nil=>
   subst hb
   have hrr:=qD (f:=ck [] H.length) hr
   simp only[depth]at hrr
   simp only[List.length_nil,List.range_zero,aA,List.map_nil]
   unfold jU
   split
   · rfl
   · rw[vC,hrr,aLq,vB]
     simp[aY,BZ,bL]
 | cons b bt=>
   rw[← hb]
   have hne:List.range bs.length=0::(List.range' 1 bt.length):=by rw[hb];simp[List.range_eq_range',List.range'_succ]
   have hrr:=qD (f:=ck (List.range bs.length) H.length) hr
   simp only[depth]at hrr
   have hw:jU H H (List.range bs.length) (r,aA bs)=qE H H.length (List.range bs.length) (r,aA bs):=by
    rw[hne];rfl
   rw[hw,vC,hrr,aLq,vB,hro,aLq,B0,List.length_range,List.take_of_length_le (by rw[cD];exact aLs _),hput,
    List.drop_eq_nil_of_le (by rw[cD];exact aLs _),List.append_nil]
theorem tW(H:ae)(cs:List D)(hc:∀i,gW H [] i cs=some cs∧bz H [] i cs=[]):∀(ts:List T) (i:Nat),gW H [] i (ts.map .t++cs)=some (ts.map .t++cs)∧bz H [] i (ts.map .t++cs)=[]
 | [],i=>hc i
 | t::ts,i=>by
   obtain⟨h1,h2⟩:=tW H cs hc ts (i+1)
   simp only[List.map_cons,List.cons_append,p4,jf,sT,Du,N6,aLq,y5,h1,h2,Oo,y3]
   exact⟨rfl,rfl⟩
theorem r8(H:ae):∀(l:List Nat) (i:Nat),gW H [] i (l.map fun i=> .bp i 0)=some (l.map fun i=> .bp i 0)∧bz H [] i (l.map fun i=> .bp i 0)=[]
 | [],i=>⟨rfl,rfl⟩
 | a::l,i=>by
   obtain⟨h1,h2⟩:=r8 H l (i+1)
   simp only[List.map_cons,p4,jf,sT,Du,Gm,aLq,y5,h1,h2,Oo,Gt]
   exact⟨rfl,rfl⟩
theorem r9(n m:Nat):nB n (di m)=List.range m:=by
 simp only[nB,di,List.flatMap_map]
 have:∀l:List Nat,(l.flatMap fun a=>ids n (.bp a 0))=l:=by
  intro l
  induction l with
  | nil=>rfl
  | cons a l ih=>rw[List.flatMap_cons,ih,Ov];rfl
 exact this _
theorem vL(n m:Nat):aY (ren (idxOf (List.range m)) n) (di m)=some (di m):=tU fun d hd=>by
 simp only[di,List.mem_map,aLu]at hd
 obtain⟨k,hk,rfl⟩:=hd
 rw[Oz,tT hk];rfl
theorem jN{α β:Type}{f:α→Option β}:∀ {a b:List α} {x y:List β},aY f a=some x→aY f b=some y→aY f (a++b)=some (x++y)
 | [],b,x,y,h1,h2=>by simp[aY]at h1;subst h1;exact h2
 | c::a,b,x,y,h1,h2=>by
   simp only[aY,aLa,aLb]at h1
   obtain⟨z,hz,r,hr,rfl⟩:=h1
   simp only[List.cons_append,aY,hz,aLq,jN hr h2,aLw]
theorem zf(call:av)(bs:List (List T))(E:ae)(f raw:Nat)(ts:List T){r:D}(h:call raw f (ts.map .t++di bs.length) (aA bs)=some (r,aA bs))(hr:nz r=true):
 vn (aA bs++E) call f raw [] (ts.map .t++di bs.length)=some (r,aA bs++E):=
 r7 call bs E f raw _ h hr (fun H=>tW H _ (r8 H _) ts 0)
  (by rw[vD,p5,List.nil_append,r9,mA _ _ (by simpa using List.nodup_range),List.nil_append])
  (jN (jM _ _ _) (vL _ _))
theorem G9(call:av)(bs:List (List T))(E:ae)(g f raw:Nat)(ts:List T){r:D}(h:call raw f (ts.map .t++[.fn g (di bs.length)]) (aA bs)=some (r,aA bs))(hr:nz r=true):
 vn (aA bs++E) call f raw [] (ts.map .t++[.fn g (di bs.length)])=some (r,aA bs++E):=
 r7 call bs E f raw _ h hr (fun H=>tW H _ (fun i=>⟨rfl,rfl⟩) ts 0)
  (by rw[vD,p5,List.nil_append,y6,Ow,r9,B2,List.append_nil,mA _ _ (by simpa using List.nodup_range),List.nil_append])
  (jN (jM _ _ _) (by rw[rV,OC,vL];rfl))
theorem sg{f:Nat}{bs:List (List T)}{x:T}{r:D}(E:ae)(h:bM 0 f (.t x::di bs.length) (aA bs)=some (r,aA bs))(hr:nz r=true):
 vn (aA bs++E) bM f 0 [] (.t x::di bs.length)=some (r,aA bs++E):=zf bM bs E f 0 [x] h hr
theorem jO{f:Nat}{bs:List (List T)}{x:T}{r:D}(h:bM 0 f (.t x::di bs.length) (aA bs)=some (r,aA bs))(hr:nz r=true):
 vn (aA bs) bM f 0 [] (.t x::di bs.length)=some (r,aA bs):=by
 have:=sg [] h hr;rwa [List.append_nil]at this
theorem p7(call:av)(bs:List (List T))(g f raw:Nat)(x:T){r:D}(h:call raw f [.t x,.fn g (di bs.length)] (aA bs)=some (r,aA bs))(hr:nz r=true):
 vn (aA bs) call f raw [] [.t x,.fn g (di bs.length)]=some (r,aA bs):=by
 have:=G9 call bs [] g f raw [x] h hr
 rwa [List.append_nil]at this
section
variable (bs : List (List T)) (o o' : Obj)
@[go_sem] theorem B9 : (aA bs).length = bs.length := cD bs
@[go_sem] theorem KZ : (aA bs ++ [o])[bs.length]? = some o := by
 rw[aLh (by rw[cD];exact aLs _),cD];simp
@[go_sem] theorem OI : (aA bs ++ [o]).set bs.length o' = aA bs ++ [o'] := by
 rw[List.set_append_right _ _ (by rw[cD];exact aLs _),cD];simp
@[go_sem] theorem K0 : (aA bs ++ [o]).take bs.length = aA bs := by
 rw[List.take_append_of_le_length (by rw[cD];exact aLs _),List.take_of_length_le (by rw[cD];exact aLs _)]
@[go_sem] theorem Hc : (aA bs ++ [o]).take (bs.length + 1) = aA bs ++ [o] := List.take_of_length_le (by simp [cD])
@[go_sem] theorem Hd : (aA bs).take bs.length = aA bs := List.take_of_length_le (by simp [cD])
@[go_sem] theorem He (k : Nat) (a b : ae) : cL k (a ++ b) = (cL k a && cL k b) := by
 rw[← fS,←fS,←fS,List.all_append]
@[go_sem] theorem Ca (k : Nat) : cL k (aA bs) = true := by
 induction bs with
 | nil=>rfl
 | cons b r ih=>
   show(cK k 8 (b.map .t)&&cL k (aA r))=true
   rw[vo,ih];rfl
@[go_sem] theorem RY (n : Nat) : ltB n (n + 1) = true := by rw [iD]; simp
@[go_sem] theorem RZ (n : Nat) : ltB n n = false := by rw [iD]; simp
theorem m7(k n m:Nat)(h:m≤k):cK k n (di m)=true:=by
 unfold cK di
 rw[aLx]
 intro d hd
 obtain⟨i,hi,rfl⟩:=List.mem_map.1 hd
 rw[N7,iD]
 have:=aLu.1 hi
 simp;omega
@[go_sem] theorem Hf (n m : Nat) : cK m n (di m) = true := m7 _ _ _ (aLs _)
@[go_sem] theorem DI (n m : Nat) : cK (m + 1) n (di m) = true := m7 _ _ _ (Nat.le_succ _)
end
def eK(n:Nat)(p:Nat→Bool):List Int:=((List.range n).filter p).map (fun(i:Nat)=>(i:Int))
theorem kv(n:Nat)(p:Nat→Bool):eK (n+1) p=if p n=true then eK n p++[(n:Int)]else eK n p:=by
 unfold eK
 rw[List.range_succ,List.filter_append,List.map_append]
 by_cases h:p n=true<;>simp[h]
theorem w4(n:Nat)(p:Nat→Bool):(eK n p).length≤n:=by
 unfold eK
 rw[List.length_map]
 have:=List.length_filter_le p (List.range n)
 simpa using this
theorem Cb(n:Nat)(hn:n≤1000000)(f:Nat)(bs:List (List T))(p:Nat→Bool)(h:∀k,k<n→bM 0 f (I k::di bs.length) (aA bs)=some (B (p k),aA bs)):
 bM 0 N.cG [I n,.fn f (di bs.length)] (aA bs)=some (.t (tL (eK n p)),aA bs):=by
 refine aQ K.iF rfl ?_
 have hlen:=fun k=>w4 k p
 have loop:exS bM K.kc ⟨[I n,.fn f (di bs.length),.nil,.ref bs.length 0 0,.und,I n,I 0],aA bs++[.arr 1 false 0 []]⟩=
  some (.exit 0,⟨[.und,.fn f (di bs.length),.und,.ref bs.length 0 (eK n p).length,.und,I n,I n],aA bs++[.arr 1 false 0 (((eK n p).map (T.int .i64)).map .t)]⟩):=by
  refine eJ (fun j=>⟨[.und,.fn f (di bs.length),.und,.ref bs.length 0 (eK j p).length,.und,I n,I j],aA bs++[.arr 1 false 0 (((eK j p).map (T.int .i64)).map .t)]⟩) n rfl ?_ ?_ (by simp)
  · intro j hj
    have hc:=sg [.arr 1 false 0 (((eK j p).map (T.int .i64)).map .t)] (h j hj) rfl
    have:=hlen j
    by_cases hp:p j=true
    · simp(disch:=omega)only[go_sem,K.eH,hc,hp,kv,↓reduceIte]
    · simp(disch:=omega)only[go_sem,K.eH,hc,hp,kv,↓reduceIte]
  · simp(disch:=omega)only[go_sem,K.eH,↓reduceIte]
 simp(disch:=omega)only[go_sem,K.cG,↓reduceIte,loop]
end Go.Ev
namespace Go.Ev
open Go
variable [Lib] [aR] [aS]
theorem gB{α:Type}(sz:Nat)(f:α→T)(h:∀a,gF sz (f a).cells=true):∀l:List α,bu sz (l.map f)=true
 | []=>rfl
 | a::l=>by rw[List.map_cons,ly,h,gB sz f h l];rfl
@[go_sem] theorem DJ (k : IntKind) (l : List Int) : bu 1 (l.map (.int k)) = true := gB 1 _ (fun _ => rfl) l
theorem lB(sz:Nat):∀ts:List T,(ts.all fun e=>e.cells.length==sz)=bu sz ts
 | []=>rfl
 | t::ts=>by
   rw[List.all_cons,ly,lB sz ts]
   congr 1
   rw[Bool.eq_iff_iff,cU];simp
section
variable (H : ae) (sz : Nat) (ts : List T) (i j : Int)
@[go_sem] theorem Va : rX H sz (some (.t (.sl ts))) (some none) (some (some i)) = if 0 ≤ i then (if i ≤ ts.length then (if bu sz ts = true then some (.t (.sl (ts.take i.toNat)), H) else none) else none) else none := by
 simp only[rX,aLq,gx,bound,lB,idx]
 by_cases h1:0≤i
 · rw[if_pos h1,if_pos h1,aLq]
   by_cases h2:i≤ts.length
   · rw[if_pos h2]
     by_cases h3:bu sz ts=true
     · rw[if_pos h3,if_pos ⟨by omega,by omega,h3⟩];rfl
     · rw[if_neg h3,if_neg fun h=>h3 h.2.2];rfl
   · rw[if_neg h2,if_neg fun h=>h2 (by omega)];rfl
 · rw[if_neg h1,if_neg h1];rfl
@[go_sem] theorem Vb : rX H sz (some (.t (.sl ts))) (some (some i)) (some none) = if 0 ≤ i then (if i ≤ ts.length then (if bu sz ts = true then some (.t (.sl (ts.drop i.toNat)), H) else none) else none) else none := by
 simp only[rX,aLq,gx,bound,lB,idx]
 by_cases h1:0≤i
 · rw[if_pos h1,if_pos h1,aLq]
   by_cases h2:i≤ts.length
   · rw[if_pos h2]
     by_cases h3:bu sz ts=true
     · rw[if_pos h3,if_pos ⟨by omega,by omega,h3⟩,List.take_of_length_le (by simp)];rfl
     · rw[if_neg h3,if_neg fun h=>h3 h.2.2];rfl
   · rw[if_neg h2,if_neg fun h=>h2 (by omega)];rfl
 · rw[if_neg h1,if_neg h1];rfl
@[go_sem] theorem OJ : rX H sz (some (.t (.sl ts))) (some (some i)) (some (some j)) = if 0 ≤ i then (if i ≤ j then (if j ≤ ts.length then (if bu sz ts = true then some (.t (.sl ((ts.drop i.toNat).take (j.toNat - i.toNat))), H) else none) else none) else none) else none := by
 simp only[rX,aLq,gx,bound,lB,idx]
 by_cases h1:0≤i
 · rw[if_pos h1,if_pos h1,aLq]
   by_cases h0:i≤j
   · rw[if_pos h0,if_pos (by omega:0≤j),aLq]
     by_cases h2:j≤ts.length
     · rw[if_pos h2]
       by_cases h3:bu sz ts=true
       · rw[if_pos h3,if_pos ⟨by omega,by omega,h3⟩];rfl
       · rw[if_neg h3,if_neg fun h=>h3 h.2.2];rfl
     · rw[if_neg h2,if_neg fun h=>h2 (by omega)];rfl
   · rw[if_neg h0]
     by_cases h2:0≤j
     · rw[if_pos h2,aLq,if_neg fun h=>h0 (by omega)];rfl
     · rw[if_neg h2];rfl
 · rw[if_neg h1,if_neg h1];rfl
end
def bsK(H:ae)(l:List Nat):Option T→Option (D×ae)
 | some t=>some (.t (.sl [t]),pins H l)
 | none=>none
@[go_sem] theorem R0 (H : ae) (l : List Nat) (t : T) : bsK H l (some t) = some (.t (.sl [t]), pins H l) := (rfl)
@[go_sem] theorem R1 (H : ae) (sz : Nat) (cs : List D) : p0 H sz [.agg cs] = if gF sz cs = true then bsK H (cB H 8 (.agg cs)) (frz H 8 (.agg cs)) else none := by
 simp only[p0,List.all_cons,List.all_nil,Bool.and_true,D.cells]
 by_cases h:gF sz cs=true
 · rw[if_pos h,if_pos (by simpa using cU.1 h)]
   simp only[aY,depth,List.flatMap_cons,List.flatMap_nil,List.append_nil]
   cases frz H 8 (.agg cs)<;>rfl
 · rw[if_neg h,if_neg (by intro e;exact h (cU.2 (by simpa using e)))]
@[go_sem] theorem R2 (H : ae) (id ep n : Nat) : p0 H 1 [.ref id ep n] = bsK H (cB H 8 (.ref id ep n)) (frz H 8 (.ref id ep n)) := by
 simp only[p0,List.all_cons,List.all_nil,Bool.and_true,D.cells,List.length_cons,List.length_nil,beq_self_eq_true,if_true,aY,depth,List.flatMap_cons,List.flatMap_nil,List.append_nil]
 cases frz H 8 (.ref id ep n)<;>rfl
def Hg(H:ae)(r:D)(os:ae):D×ae:=(r,H++os)
@[go_sem] theorem R3 (H : ae) (r : D) (os : ae) : Hg H r os = (r, H ++ os) := (rfl)
def OK(H:ae)(os:ae)(r:D):Option (D×ae):=(aY (cR (ck [] H.length)) os).map (Hg H r)
@[go_sem] theorem R4 (H : ae) (os : ae) (r : D) : OK H os r = (aY (cR (ck [] H.length)) os).map (Hg H r) := (rfl)
@[go_sem] theorem OL (H : ae) (r : D) (o : Obj) (os : ae) : oM H (r, o :: os) = (ren (ck [] H.length) 8 r).bind (OK H (o :: os)) := by
 simp only[oM,List.isEmpty_cons,Bool.and_false,aLt,if_false]
 rfl
end Go.Ev
namespace Go.Ev
open Go
variable [Lib] [aR] [aS]
@[go_sem] theorem Vc (H : ae) (a b : List T) : p0 H 1 [.t (.sl a), .t (.sl b), .nil] = some (.t (.sl [.sl a, .sl b, .sl []]), H) := by
 simp only[p0,List.all_cons,List.all_nil,D.cells,T.cells,List.map_cons,List.map_nil,List.length_cons,List.length_nil,aY,frz,depth,cB,List.flatMap_cons,List.flatMap_nil,pins]
 rfl
def Cc(c:Bool):Option Bool→Option Bool
 | some d=>some (c&&d)
 | none=>none
@[go_sem] theorem K1 (c d : Bool) : Cc c (some d) = some (c && d) := (rfl)
@[go_sem] theorem K3 : fJ [] [] = some true := (rfl)
@[go_sem] theorem Hh (k : IntKind) (a b : Int) (xs ys : List T) : fJ (.int k a :: xs) (.int k b :: ys) = Cc (decide (a = b)) (fJ xs ys) := by
 simp only[fJ,if_true,MZ]
 cases fJ xs ys<;>rfl
def Cd(H:ae)(neg:Bool):Option Bool→Option (D×ae)
 | some r=>some (.t (.bool (bif neg then !r else r)),H)
 | none=>none
@[go_sem] theorem K4 (H : ae) (r : Bool) : Cd H true (some r) = some (.t (.bool (!r)), H) := (rfl)
@[go_sem] theorem Hi (H : ae) (r : Bool) : Cd H false (some r) = some (.t (.bool r), H) := (rfl)
@[go_sem] theorem Hj (H : ae) (n : Nat) (neg : Bool) (xs ys : List T) : jT H (.ints n) neg (some (.t (.agg xs))) (some (.t (.agg ys))) = if xs.length = n then Cd H neg (fJ xs ys) else none := by
 simp only[jT,aLq,C9,eqD]
 by_cases h:xs.length=n
 · simp only[if_pos h]
   cases fJ xs ys with
   | none=>rfl
   | some r=>cases neg<;>rfl
 · simp only[if_neg h];rfl
@[go_sem] theorem w5 : ((2 : Nat) : Int) = 2 := (rfl)
@[go_sem] theorem DK : ((3 : Nat) : Int) = 3 := (rfl)
def si(n:Nat)(p:Nat→Bool):Nat:=((List.range n).find? p).getD 0
theorem zg{gc:Bool}{dead:List Nat}{c:C}{vs:List D}{H:ae}(s:Nat→St)(n:Nat)(p:Nat→Bool)(e:Nat→Ex×St)(eN:Ex×St)
 (h0:(⟨fp dead vs,H⟩:St)=s 0)
 (hs:∀j,j<n→p j=false→fW gc dead (s j).H.length (exS bM c (s j))=some (s (j+1)))
 (he:∀j,j<n→p j=true→exS bM c (s j)=some (e j)∧(e j).1≠ .normal)
 (hN:exS bM c (s n)=some eN) (hn:eN.1≠ .normal):
 exS bM (.loop gc dead c) ⟨vs,H⟩=some (if(List.range n).any p=true then e (si n p)else eN):=by
 rw[ie s n p e eN h0 hs he hN hn,←B8]
 unfold si
 cases hf:(List.range n).find? p with
 | none=>simp
 | some k=>simp
theorem Hk(n:Nat)(p:Nat→Bool):(List.range n).all p= !((List.range n).any fun j=> !p j):=by
 rw[List.all_eq_not_any_not]
end Go.Ev
namespace Go.Ev
open Go
instance : Dat (List Int) := ⟨[]⟩
def LU(p:Nat→Prop) [DecidablePred p](G:List (List Int)):Nat→List Int
 | 0=>[]
 | m+1=>LU p G m++if p m then nth G m else []
abbrev AS(G:List (List Int)):List Int:=LU (fun _=>True) G G.length
structure GI(W:List (List Int))(S:List Int)(G:List (List Int)):Prop where
 len:G.length=S.length
 cap:∀n,n<S.length→nth G n≠[]→((nth G n).length:Int)≤nth S n
 wnt:∀n,n<S.length→∀i∈nth G n,0≤i∧i<W.length∧(n:Int)∈nth W i.toNat
structure XX(W:List (List Int))(S:List Int)(G:List (List Int)):Prop extends GI W S G where
 nd:(AS G).Nodup
def Clo(W:List (List Int))(S:List Int)(G:List (List Int))(U:Nat→Prop):Prop:=
 ∀n,n<S.length→U n→nth S n≤(nth G n).length∧∀i∈nth G n,∀x:Nat,x<S.length→(x:Int)∈nth W i.toNat→U x
def Ce(W:List (List Int))(S:List Int)(i:Int)(U:Nat→Prop):Prop:=∀x:Nat,x<S.length→(x:Int)∈nth W i.toNat→U x
end Go.Ev
namespace Go.Ev
open Go
theorem zh(G:List (List Int)):∀m,m≤G.length→LU (fun _=>True) G m=(G.take m).flatten
 | 0,_=>rfl
 | m+1,h=>by
   have e:G[m]?=some (nth G m):=by
    have hm:m<G.length:=by omega
    unfold nth
    rw[aLl,aLc hm];rfl
   rw[LU,zh G m (by omega),if_pos trivial,List.take_add_one,e]
   simp
theorem zi(G:List (List Int)):AS G=G.flatten:=by
 unfold AS
 rw[zh G _ (aLs _),List.take_length]
theorem OM{W:List (List Int)}{S:List Int}{G:List (List Int)}{U V:Nat→Prop}(h:Clo W S G U)(g:Clo W S G V):Clo W S G (fun n=>U n∨V n):=by
 intro n hn hu
 rcases hu with a | a
 · obtain⟨p,q⟩:=h n hn a
   exact⟨p,fun i hi x hx hw=> .inl (q i hi x hx hw)⟩
 · obtain⟨p,q⟩:=g n hn a
   exact⟨p,fun i hi x hx hw=> .inr (q i hi x hx hw)⟩
structure qH(W:List (List Int))(S:List Int)(G:List (List Int))(i:Int)(T:Nat→Bool)(G2:List (List Int)):Prop where
 gi:GI W S G2
 pm:(AS G2).Perm (i::AS G)
 old:∀n,T n=true→nth G2 n=nth G n
 clo:∀U:Nat→Prop,Clo W S G U→(∀n,n<S.length→U n→nth G2 n=nth G n)∧¬Ce W S i U
structure tX(W:List (List Int))(S:List Int)(G:List (List Int))(i:Int)(T T2:Nat→Bool):Prop where
 sub:∀n,T n=true→T2 n=true
 clo:∀n,n<S.length→T2 n=true→T n=false→nth S n≤(nth G n).length∧∀j∈nth G n,Ce W S j fun x=>T2 x=true
 wnt:Ce W S i fun x=>T2 x=true
structure MI(W:List (List Int))(S:List Int)(G:List (List Int))(j c:Nat)(U:Nat→Prop):Prop where
 st:XX W S G
 lt:∀i∈AS G,i<j
 cnt:(AS G).length=c
 clo:Clo W S G U
 out:∀i:Nat,i<j→(i:Int)∈AS G∨Ce W S i U
theorem MI.ok{W:List (List Int)}{S:List Int}{G G2:List (List Int)}{j c:Nat}{U:Nat→Prop}{T:Nat→Bool}(h:MI W S G j c U)(p:qH W S G j T G2):MI W S G2 (j+1) (c+1) U:=by
 obtain⟨k1,k2⟩:=p.clo U h.clo
 have nd:(AS G2).Nodup:=by
  rw[p.pm.nodup_iff,List.nodup_cons]
  refine⟨fun hm=>?_,h.st.nd⟩
  have:=h.lt _ hm
  omega
 refine⟨⟨p.gi,nd⟩,fun i hi=>?_,by rw[p.pm.length_eq,List.length_cons,h.cnt],fun n hn hu=>?_,fun i hi=>?_⟩
 · rcases List.mem_cons.1 (p.pm.mem_iff.1 hi)with e | e
   · omega
   · have:=h.lt i e;omega
 · rw[k1 n hn hu];exact h.clo n hn hu
 · by_cases e:i=j
   · subst e;exact .inl (p.pm.mem_iff.2 List.mem_cons_self)
   · rcases h.out i (by omega)with a | a
     · exact .inl (p.pm.mem_iff.2 (List.mem_cons_of_mem _ a))
     · exact .inr a
theorem MI.no{W:List (List Int)}{S:List Int}{G:List (List Int)}{j c:Nat}{U:Nat→Prop}{T T2:Nat→Bool}(h:MI W S G j c U)(h0:∀n,T n=false)(p:tX W S G j T T2):MI W S G (j+1) c (fun n=>U n∨T2 n=true):=by
 refine⟨h.st,fun i hi=>by have:=h.lt i hi;omega,h.cnt,OM h.clo (fun n hn hu=>?_),fun i hi=>?_⟩
 · exact p.clo n hn hu (h0 n)
 · by_cases e:i=j
   · subst e;exact .inr fun x hx hw=> .inr (p.wnt x hx hw)
   · rcases h.out i (by omega)with a | a
     · exact .inl a
     · exact .inr fun x hx hw=> .inl (a x hx hw)
theorem MI.zero(W:List (List Int))(S:List Int):MI W S (List.replicate S.length []) 0 0 (fun _=>False):=by
 have e:AS (List.replicate S.length ([]:List Int))=[]:=by rw[zi];simp
 have nn:∀n,nth (List.replicate S.length ([]:List Int)) n=[]:=fun n=>by
  unfold nth
  rw[aLl,List.getElem?_replicate]
  split<;>rfl
 refine⟨⟨⟨by simp,fun n hn hne=>absurd (nn n) hne,fun n hn i hi=>by rw[nn n]at hi;simp at hi⟩,by rw[e];simp⟩,by rw[e];simp,by rw[e];rfl,fun n hn hu=>hu.elim,fun i hi=>absurd hi (by omega)⟩
end Go.Ev
namespace Go.Ev
open Go
variable [Lib] [aR] [aS]
def Mod(n m:Int):Int:=if m<1 then 0 else if n.tmod m<0 then n.tmod m+m else n.tmod m
theorem ON(n m:Int):0≤Mod n m:=by
 unfold Mod
 split
 · omega
 · have h5:=Int.lt_tmod_of_pos n (b:=m) (by omega)
   split<;>omega
theorem OO(n m:Int)(h:1≤m):Mod n m<m:=by
 unfold Mod
 rw[if_neg (by omega)]
 have h3:=Int.tmod_lt_of_pos n (b:=m) (by omega)
 split<;>omega
theorem OP(n m:Int)(hm:m≤4611686018427387904):bM 0 N.eb [I n,I m] []=some (I (Mod n m),[]):=by
 refine aQ K.my rfl ?_
 unfold Mod
 by_cases h1:m<1
 · simp only[go_sem,K.eb,h1,↓reduceIte]
 · have h2:m≠0:=by omega
   have h3:=Int.tmod_lt_of_pos n (b:=m) (by omega)
   have h5:=Int.lt_tmod_of_pos n (b:=m) (by omega)
   by_cases h4:n.tmod m<0
   · simp(disch:=omega)only[go_sem,K.eb,h1,↓reduceIte,h2,h4]
   · simp(disch:=omega)only[go_sem,K.eb,h1,↓reduceIte,h2,h4]
theorem Cf(l:List Int):bM 0 N.dA [.t (tL l)] []=some (B (decide (l.length≤400)),[]):=by
 refine aQ K.jh rfl ?_
 simp(disch:=omega)only[go_sem,K.dA,↓reduceIte]
 simp only[show((l.length:Int)≤400)=(l.length≤400)by rw[eq_iff_iff];omega]
structure az where
 L:List Int
 at_:Nat
def az.obj(d:az):Obj:= .box [.t (tL d.L),I d.at_]
def az.cV(d:az):Prop:=d.L.length≤400
def az.next(d:az)(n:Int):Int×az:=if d.at_<d.L.length then(Mod (nth d.L d.at_) n,⟨d.L,d.at_+1⟩)else(0,d)
theorem az.DL(d:az)(n:Int):(d.next n).2.L=d.L:=by unfold az.next;split<;>rfl
theorem az.bG{d:az}(h:d.cV)(n:Int):(d.next n).2.cV:=by unfold az.cV;rw[d.DL];exact h
theorem az.fC(d:az)(n:Int):0≤(d.next n).1:=by unfold az.next;split<;>simp[ON]
theorem az.fD(d:az){n:Int}(h:1≤n):(d.next n).1<n:=by unfold az.next;split<;>simp[OO _ _ h];omega
theorem gJ(d:az)(n:Int)(hn:n≤4611686018427387904)(hd:d.cV):bM 0 N.aq [.bp 0 0,I n] [d.obj]=some (I (d.next n).1,[(d.next n).2.obj]):=by
 refine aQ K.fB rfl ?_
 have hm:=OP (nth d.L d.at_) n hn
 unfold az.cV at hd
 unfold az.next az.obj
 by_cases h1:d.at_<d.L.length
 · simp(disch:=omega)only[go_sem,K.aq,↓reduceIte,↓if_pos,↓if_neg,Int.add_sub_cancel,hm,Int.natCast_add]
 · simp(disch:=omega)only[go_sem,K.aq,↓reduceIte,↓if_pos,↓if_neg]
@[go_sem] theorem R5 (d : az) : vE (some d.obj) = [] := by simp only [az.obj, go_sem]
@[go_sem] theorem R6 (f : Nat → Option Nat) (d : az) : cR f d.obj = some d.obj := by simp only [az.obj, go_sem]
@[go_sem] theorem R7 (k : Nat) (d : az) (r : ae) : cL k (d.obj :: r) = cL k r := by simp only [az.obj, go_sem]
def az.one(d:az)(n:Int):Bool×az:=(decide ((d.next n).1=n-1),(d.next n).2)
theorem az.oN{d:az}(h:d.cV)(n:Int):(d.one n).2.cV:=az.bG h n
theorem zj(d:az)(n:Int)(h1:0≤n)(hn:n≤4611686018427387904)(hd:d.cV):bM 0 N.aN [.bp 0 0,I n] [d.obj]=some (B (d.one n).1,[(d.one n).2.obj]):=by
 refine aQ K.fZ rfl ?_
 have hm:=gJ d n hn hd
 unfold az.one
 simp(disch:=omega)only[go_sem,K.aN,↓reduceIte,hm]
def az.of(d:az)(l:List Int):Int×az:=(nth l (d.next l.length).1.toNat,(d.next l.length).2)
theorem az.gC{d:az}(h:d.cV)(l:List Int):(d.of l).2.cV:=az.bG h _
theorem az.lC(d:az){l:List Int}(h:l≠[]):(d.of l).1∈l:=by
 unfold az.of
 have hl:0<l.length:=List.length_pos_iff.2 h
 have:=d.fC l.length
 have:=d.fD (n:=l.length) (by omega)
 exact bn (by omega)
theorem zk(d:az)(l:List Int)(hl:l≠[])(hl2:l.length≤4294967296)(hd:d.cV):bM 0 N.bc [.bp 0 0,.t (tL l)] [d.obj]=some (I (d.of l).1,[(d.of l).2.obj]):=by
 refine aQ K.gH rfl ?_
 have hm:=gJ d l.length (by omega) hd
 have h0:0<l.length:=List.length_pos_iff.2 hl
 have h1:=d.fC l.length
 have h2:=d.fD (n:=l.length) (by omega)
 unfold az.of
 simp(disch:=omega)only[go_sem,K.bc,↓reduceIte,hm]
def az.w6(d:az):Nat→List Int×az
 | 0=>([],d)
 | k+1=>(if((d.w6 k).2.next 3).1=0 then(d.w6 k).1++[(k:Int)]else(d.w6 k).1,((d.w6 k).2.next 3).2)
structure Place where
 h:Int
 surf:Bool
instance : Dat Place := ⟨⟨0, false⟩⟩
abbrev Place.e(p:Place):T:= .agg [tI p.h,.bool p.surf]
structure Road where
 frm:Int
 to:Int
 len:Int
 area:Int
 walk:Bool
 closed:Bool
 restL:Int
 restH:Int
 liftL:Int
 liftH:Int
instance : Dat Road := ⟨⟨0, 0, 0, 0, false, false, 0, 0, 0, 0⟩⟩
abbrev Road.e(r:Road):T:= .agg [tI r.frm,tI r.to,tI r.len,tI r.area,.bool r.walk,.bool r.closed,tI r.restL,tI r.restH,tI r.liftL,tI r.liftH]
structure aX where
 aa:List Place
 roads:List Road
instance : Dat aX := ⟨⟨[], []⟩⟩
abbrev aX.e(m:aX):T:= .agg [.sl (m.aa.map Place.e),.sl (m.roads.map Road.e)]
structure Road.ok(n:Nat)(r:Road):Prop where
 f0:0≤r.frm
 f1:r.frm<n
 t0:0≤r.to
 t1:r.to<n
 ne:r.frm≠r.to
 l0:1≤r.len
 l1:r.len≤100000
 a0:1≤r.area
 a1:r.area≤1000
 r0:1≤r.restL
 r1:r.restL≤r.restH
 r2:r.restH≤262144
 i0: -2199023255552≤r.liftL
 i1:r.liftL≤r.liftH
 i2:r.liftH≤2199023255552
structure aX.ok(m:aX):Prop where
 np:m.aa.length≤64
 nr:m.roads.length≤128
 hs:∀p∈m.aa, -10000≤p.h∧p.h≤10000
 rs:∀r∈m.roads,r.ok m.aa.length
theorem sj(a b lo hi:Int):bM 0 N.dh [.t (.agg [tI a,tI b]),I lo,I hi] []=some (B (decide (lo≤a∧a≤b∧b≤hi)),[]):=by
 refine aQ K.ji rfl ?_
 by_cases h1:lo≤a<;>by_cases h2:a≤b<;>by_cases h3:b≤hi<;>simp(disch:=omega)only[go_sem,K.dh,↓reduceIte,h1,h2,h3]
theorem Cg{m:aX}(h:m.ok):bM 0 N.cZ [.t m.e] []=some (I 0,[]):=by
 refine aQ K.iE rfl ?_
 have np:=h.np
 have nr:=h.nr
 have loop1:∀a b c d e:D,exS bM K.j9 ⟨[a,.bp 0 0,b,I 0,c,d,e],[.box [.t (.sl (m.aa.map Place.e)),.t (.sl (m.roads.map Road.e))]]⟩=
  some (.exit 0,⟨[.und,.bp 0 0,.und,I m.aa.length,.und,.und,.und],[.box [.t (.sl (m.aa.map Place.e)),.t (.sl (m.roads.map Road.e))]]⟩):=by
  intro a b c d e
  refine eJ (fun j=>⟨[.und,.bp 0 0,.und,I j,.und,.und,.und],[.box [.t (.sl (m.aa.map Place.e)),.t (.sl (m.roads.map Road.e))]]⟩) m.aa.length rfl ?_ ?_ (by simp)
  · intro j hj
    have hh:=h.hs _ (bn hj)
    simp(disch:=omega)only[go_sem,K.fX,↓reduceIte]
  · simp(disch:=omega)only[go_sem,K.fX,↓reduceIte]
 have loop2:∀a b c d e:D,exS bM K.ka ⟨[a,.bp 0 0,b,c,d,I 0,e],[.box [.t (.sl (m.aa.map Place.e)),.t (.sl (m.roads.map Road.e))]]⟩=
  some (.exit 2,⟨[.und,.bp 0 0,.und,.und,.und,I m.roads.length,.und],[.box [.t (.sl (m.aa.map Place.e)),.t (.sl (m.roads.map Road.e))]]⟩):=by
  intro a b c d e
  refine eJ (fun j=>⟨[.und,.bp 0 0,.und,.und,.und,I j,.und],[.box [.t (.sl (m.aa.map Place.e)),.t (.sl (m.roads.map Road.e))]]⟩) m.roads.length rfl ?_ ?_ (by simp)
  · intro j hj
    obtain⟨f0,f1,t0,t1,ne,l0,l1,a0,a1,r0,r1,r2,i0,i1,i2⟩:=h.rs _ (bn hj)
    have s1:=sj (nth m.roads j).restL (nth m.roads j).restH 1 262144
    have s2:=sj (nth m.roads j).liftL (nth m.roads j).liftH (-2199023255552) 2199023255552
    simp(disch:=omega)only[go_sem]at s1 s2
    simp(disch:=omega)only[go_sem,K.fY,↓reduceIte,s1,s2]
  · simp(disch:=omega)only[go_sem,K.fY,↓reduceIte]
 simp(disch:=omega)only[go_sem,K.cZ,↓reduceIte,loop1,loop2]
theorem tY{l:List Int}{p:Int→Bool}:((List.range l.length).find? fun j=>p (nth l j)).isSome=l.any p:=by
 rw[List.isSome_find?,Bool.eq_iff_iff,List.any_eq_true,List.any_eq_true]
 constructor
 · rintro ⟨j,hj,h⟩
   exact⟨_,bn (aLu.1 hj),h⟩
 · rintro ⟨x,hx,h⟩
   obtain⟨j,hj⟩:=aLf.1 hx
   exact⟨j,aLu.2 (aLe.1 hj).1,by rw[vJ hj];exact h⟩
theorem OQ(l:List Int)(x:Int)(hl:l.length≤4294967296):bM 0 N.dM [.t (tL l),I x] []=some (B (decide (x∈l)),[]):=by
 refine aQ K.ku rfl ?_
 have loop:∀a:D,exS bM K.m5 ⟨[.t (tL l),I x,a,I 0],[]⟩=
  some (match (List.range l.length).find? (fun j=>decide (nth l j=x))with
   | some j=>(.ret,⟨[.t (tL l),I x,B true,I j],[]⟩)
   | none=>(.exit 0,⟨[.t (tL l),I x,.und,I l.length],[]⟩)):=by
  intro a
  refine ie (fun j=>⟨[.t (tL l),I x,.und,I j],[]⟩) l.length (fun j=>decide (nth l j=x)) _ _ rfl ?_ ?_ ?_ (by simp)
  · intro j hj hp
    have hp:¬nth l j=x:=of_decide_eq_false hp
    simp(disch:=omega)only[go_sem,K.fQ,↓reduceIte]
  · intro j hj hp
    have hp:nth l j=x:=of_decide_eq_true hp
    simp(disch:=omega)only[go_sem,K.fQ,↓reduceIte,hp]
    simp
  · simp(disch:=omega)only[go_sem,K.fQ,↓reduceIte]
 have e:=tY (l:=l) (p:=fun y=>decide (y=x))
 have e2:l.any (fun y=>decide (y=x))=decide (x∈l):=by rw[Bool.eq_iff_iff];simp
 rw[e2]at e
 simp only[go_sem,K.dM,↓reduceIte,loop]
 cases hf:(List.range l.length).find? (fun j=>decide (nth l j=x))with
 | some j=>rw[hf]at e;simp(disch:=omega)only[go_sem,↓reduceIte,←e]
 | none=>rw[hf]at e;simp(disch:=omega)only[go_sem,↓reduceIte,←e,Option.isSome_none]
def oO(l:List Int)(n:Int):Bool:=(List.range l.length).all fun j=>decide (0≤nth l j∧nth l j<n∧(0<j→nth l (j-1)<nth l j))
theorem Hl(x lo hi:Int):bM 0 N.dH [I x,I lo,I hi] []=some (B (decide (lo≤x∧x≤hi)),[]):=by
 refine aQ K.mz rfl ?_
 by_cases h1:lo≤x<;>by_cases h2:x≤hi<;>simp(disch:=omega)only[go_sem,K.dH,↓reduceIte]
theorem Ch(l:List Int)(x:Int)(hl:l.length≤4294967296):bM 0 N.aL [.t (tL l),I x] []=
 some (I (match (List.range l.length).find? (fun j=>decide (nth l j=x))with | some j=>(j:Int) | none=> -1),[]):=by
 refine aQ K.dE rfl ?_
 have loop:∀a b:D,exS bM K.eI ⟨[.t (tL l),I x,a,b,I l.length,I 0],[]⟩=
  some (match (List.range l.length).find? (fun j=>decide (nth l j=x))with
   | some j=>(.ret,⟨[.t (tL l),I x,I j,I j,I l.length,I j],[]⟩)
   | none=>(.exit 0,⟨[.t (tL l),I x,.und,.und,I l.length,I l.length],[]⟩)):=by
  intro a b
  refine ie (fun j=>⟨[.t (tL l),I x,.und,.und,I l.length,I j],[]⟩) l.length (fun j=>decide (nth l j=x)) _ _ rfl ?_ ?_ ?_ (by simp)
  · intro j hj hp
    have hp:¬nth l j=x:=of_decide_eq_false hp
    simp(disch:=omega)only[go_sem,K.cm,↓reduceIte]
  · intro j hj hp
    have hp:nth l j=x:=of_decide_eq_true hp
    simp(disch:=omega)only[go_sem,K.cm,↓reduceIte,hp]
    simp
  · simp(disch:=omega)only[go_sem,K.cm,↓reduceIte]
 simp(disch:=omega)only[go_sem,K.aL,↓reduceIte,loop]
 cases hf:(List.range l.length).find? (fun j=>decide (nth l j=x))with
 | some j=>simp(disch:=omega)only[go_sem,↓reduceIte]
 | none=>simp(disch:=omega)only[go_sem,↓reduceIte]
theorem kx(l:List Int)(x:Int)(hl:l.length≤4294967296):bM 0 N.ay [.t (tL l),I x] []=some (B (decide (x∈l)),[]):=by
 refine aQ K.c7 rfl ?_
 have h:=Ch l x hl
 have e:=tY (l:=l) (p:=fun y=>decide (y=x))
 have e2:l.any (fun y=>decide (y=x))=decide (x∈l):=by rw[Bool.eq_iff_iff];simp
 rw[e2]at e
 cases hf:(List.range l.length).find? (fun j=>decide (nth l j=x))with
 | some j=>rw[hf]at e h;simp(disch:=omega)only[go_sem,K.ay,↓reduceIte,←e,h]
 | none=>rw[hf]at e h;simp(disch:=omega)only[go_sem,K.ay,↓reduceIte,←e,h,Option.isSome_none]
theorem sk(l:List Int)(hl:l.length≤4294967296)(f:Nat)(bs:List (List T))(p:Int→Bool)(h:∀x,x∈l→bM 0 f (I x::di bs.length) (aA bs)=some (B (p x),aA bs)):
 bM 0 N.aC [.t (tL l),.fn f (di bs.length)] (aA bs)=
 some (I (match (List.range l.length).find? (fun j=>p (nth l j))with | some j=>(j:Int) | none=> -1),aA bs):=by
 refine aQ K.cM rfl ?_
 have loop:∀a b:D,exS bM K.dN ⟨[.t (tL l),.fn f (di bs.length),a,b,I l.length,I 0],aA bs⟩=
  some (match (List.range l.length).find? (fun j=>p (nth l j))with
   | some j=>(.ret,⟨[.t (tL l),.fn f (di bs.length),I j,I j,I l.length,I j],aA bs⟩)
   | none=>(.exit 0,⟨[.t (tL l),.fn f (di bs.length),.und,.und,I l.length,I l.length],aA bs⟩)):=by
  intro a b
  refine ie (fun j=>⟨[.t (tL l),.fn f (di bs.length),.und,.und,I l.length,I j],aA bs⟩) l.length (fun j=>p (nth l j)) _ _ rfl ?_ ?_ ?_ (by simp)
  · intro j hj hp
    have hc:=jO (h _ (bn hj)) rfl
    simp(disch:=omega)only[go_sem,K.bP,↓reduceIte,hc,hp]
  · intro j hj hp
    have hc:=jO (h _ (bn hj)) rfl
    simp(disch:=omega)only[go_sem,K.bP,↓reduceIte,hp,hc]
    simp
  · simp(disch:=omega)only[go_sem,K.bP,↓reduceIte]
 simp(disch:=omega)only[go_sem,K.aC,↓reduceIte,loop]
 cases hf:(List.range l.length).find? (fun j=>p (nth l j))with
 | some j=>simp(disch:=omega)only[go_sem,↓reduceIte]
 | none=>simp(disch:=omega)only[go_sem,↓reduceIte]
theorem oP(l:List Int)(hl:l.length≤4294967296)(f:Nat)(bs:List (List T))(p:Int→Bool)(h:∀x,x∈l→bM 0 f (I x::di bs.length) (aA bs)=some (B (p x),aA bs)):
 bM 0 N.au [.t (tL l),.fn f (di bs.length)] (aA bs)=some (B (l.any p),aA bs):=by
 refine aQ K.cq rfl ?_
 have h:=sk l hl f bs p h
 have hc:=p7 bM bs f _ 0 (tL l) h rfl
 have e:=tY (l:=l) (p:=p)
 cases hf:(List.range l.length).find? (fun j=>p (nth l j))with
 | some j=>rw[hf]at e hc;simp(disch:=omega)only[go_sem,K.au,↓reduceIte,←e,hc]
 | none=>rw[hf]at e hc;simp(disch:=omega)only[go_sem,K.au,↓reduceIte,←e,hc,Option.isSome_none]
theorem Hm(r:Road)(back:Bool):bM 0 N.dB [.t r.e,B back] []=some (.tup [I (if back then r.to else r.frm),I (if back then r.frm else r.to)],[]):=by
 refine aQ K.jj rfl ?_
 cases back<;>simp(disch:=omega)only[go_sem,K.dB,↓reduceIte]
def pn(m:aX)(k:Nat)(back:Bool)(up down level:Int):Int:=
 let x:=nth m.roads k
 if x.closed=true∨x.walk=false then -1 else
 let a:=if back then x.to else x.frm
 let b:=if back then x.frm else x.to
 let rise:=(nth m.aa b.toNat).h-(nth m.aa a.toNat).h
 let speed:=if -10*rise>x.len then down else if 10*rise>x.len then up else level
 (10*x.len+speed-1).tdiv speed
theorem mB{a b:Int}(ha:0≤a)(hb:1≤b):0≤a.tdiv b∧a.tdiv b≤a:=by
 rw[Int.tdiv_eq_ediv_of_nonneg ha]
 exact⟨Int.ediv_nonneg ha (by omega),Int.ediv_le_self _ ha⟩
theorem zl{m:aX}(h:m.ok)(k:Nat)(hk:k<m.roads.length)(back:Bool)(up down level:Int)(hu:1≤up)(hu2:up≤100)(hd:1≤down)(hd2:down≤100)(hl:1≤level)(hl2:level≤100):
 bM 0 N.bf [.t m.e,I k,B back,I up,I down,I level] []=some (I (pn m k back up down level),[]):=by
 refine aQ K.gI rfl ?_
 have hc:=Cg h
 have nr:=h.nr
 have np:=h.np
 obtain⟨f0,f1,t0,t1, -,l0,l1, -, -, -, -, -, -, -, -⟩:=h.rs _ (bn hk)
 have he:=Hm (nth m.roads k) back
 have b1:=h.hs _ (bn (l:=m.aa) (j:=(nth m.roads k).frm.toNat) (by omega))
 have b2:=h.hs _ (bn (l:=m.aa) (j:=(nth m.roads k).to.toNat) (by omega))
 unfold pn
 generalize hx:nth m.roads k=x at*
 obtain⟨frm,to,len,area,walk,closed,rl,rh,ll,lh⟩:=x
 simp only at f0 f1 t0 t1 l0 l1 b1 b2 he ⊢
 cases closed with
 | true=>simp(disch:=omega)only[go_sem,K.bf,↓reduceIte,hc,hx]
 | false=>
   cases walk with
   | false=>simp(disch:=omega)only[go_sem,K.bf,↓reduceIte,hc,hx]
   | true=>
     have g1:=mB (a:=10*len+up-1) (b:=up) (by omega) hu
     have g2:=mB (a:=10*len+down-1) (b:=down) (by omega) hd
     have g3:=mB (a:=10*len+level-1) (b:=level) (by omega) hl
     cases back with
     | true=>
       simp only[↓reduceIte]at he ⊢
       have w1:IntKind.i64.wrap ((nth m.aa frm.toNat).h-(nth m.aa to.toNat).h)=(nth m.aa frm.toNat).h-(nth m.aa to.toNat).h:=jd (by omega) (by omega)
       by_cases c2:len< -10*((nth m.aa frm.toNat).h-(nth m.aa to.toNat).h)
       · simp(disch:=omega)only[go_sem,K.bf,↓reduceIte,hc,hx,he,w1,gt_iff_lt]
       · by_cases c1:len<10*((nth m.aa frm.toNat).h-(nth m.aa to.toNat).h)
         · simp(disch:=omega)only[go_sem,K.bf,↓reduceIte,hc,hx,he,w1,gt_iff_lt]
         · simp(disch:=omega)only[go_sem,K.bf,↓reduceIte,hc,hx,he,w1,gt_iff_lt]
     | false=>
       simp only[aLt,↓reduceIte]at he ⊢
       have w1:IntKind.i64.wrap ((nth m.aa to.toNat).h-(nth m.aa frm.toNat).h)=(nth m.aa to.toNat).h-(nth m.aa frm.toNat).h:=jd (by omega) (by omega)
       by_cases c2:len< -10*((nth m.aa to.toNat).h-(nth m.aa frm.toNat).h)
       · simp(disch:=omega)only[go_sem,K.bf,↓reduceIte,hc,hx,he,w1,gt_iff_lt]
       · by_cases c1:len<10*((nth m.aa to.toNat).h-(nth m.aa frm.toNat).h)
         · simp(disch:=omega)only[go_sem,K.bf,↓reduceIte,hc,hx,he,w1,gt_iff_lt]
         · simp(disch:=omega)only[go_sem,K.bf,↓reduceIte,hc,hx,he,w1,gt_iff_lt]
def bnd(l:List Int):Prop:=∀x∈l,0≤x∧x≤1099511627776
def DM(l:List Int)(p q:Nat)(walk t:Int):Bool:=
 decide (0≤walk)&&decide (nth l p<1099511627776)&&decide (max t (nth l p+walk)≤2147483648)&&decide (max t (nth l p+walk)<nth l q)
def OR(l:List Int)(p q:Nat)(walk t:Int):List Int:=if DM l p q walk t=true then l.set q (max t (nth l p+walk))else l
def XY(into:Option (List Int))(p:Int):Bool:=match into with
 | none=>true
 | some l=>decide (p∈l)
def OS(into:Option (List Int)):D:=match into with
 | none=> .nil
 | some l=> .t (tL l)
def Road.src(r:Road)(back:Bool):Int:=if back then r.to else r.frm
def Road.dst(r:Road)(back:Bool):Int:=if back then r.frm else r.to
theorem Road.kU{n:Nat}{r:Road}(h:r.ok n)(back:Bool):0≤r.src back∧r.src back<n:=by
 unfold Road.src;have:=h.f0;have:=h.f1;have:=h.t0;have:=h.t1;cases back<;>simp<;>omega
theorem Road.m8{n:Nat}{r:Road}(h:r.ok n)(back:Bool):0≤r.dst back∧r.dst back<n:=by
 unfold Road.dst;have:=h.f0;have:=h.f1;have:=h.t0;have:=h.t1;cases back<;>simp<;>omega
def OT(m:aX)(t:Int)(into:Option (List Int))(k:Nat)(back:Bool)(l:List Int):List Int×Bool:=
 if XY into ((nth m.roads k).dst back)=true then
  (OR l ((nth m.roads k).src back).toNat ((nth m.roads k).dst back).toNat (pn m k back 6 9 12) t,DM l ((nth m.roads k).src back).toNat ((nth m.roads k).dst back).toNat (pn m k back 6 9 12) t)
 else(l,false)
def Vd(m:aX)(t:Int)(into:Option (List Int))(k:Nat)(s:List Int×Bool):List Int×Bool:=
 let a:=OT m t into k false s.1
 let b:=OT m t into k true a.1
 (b.1,s.2||a.2||b.2)
def DN(m:aX)(t:Int)(into:Option (List Int))(l:List Int):Nat→List Int×Bool
 | 0=>(l,false)
 | k+1=>Vd m t into k (DN m t into l k)
def OU(m:aX)(t:Int)(into:Option (List Int))(l:List Int):List Int×Bool:=DN m t into l m.roads.length
theorem Hn{l:List Int}(h:bnd l){q:Nat}{x:Int}(h0:0≤x)(h1:x≤1099511627776):bnd (l.set q x):=by
 intro y hy
 rcases aLk hy with hy | hy
 · exact h y hy
 · subst hy;exact⟨h0,h1⟩
section
variable {m : aX} (h : m.ok) {t : Int} {into : Option (List Int)}
include h
end
def WL(l:List Int):Nat:=(l.map Int.toNat).sum
section
variable {m : aX} (h : m.ok) {t : Int} {into : Option (List Int)}
include h
end
end Go.Ev
namespace Go.Ev
open Go
variable [Lib] [aR] [aS]
abbrev ai(m:aX):List D:=[.t (.sl (m.aa.map Place.e)),.t (.sl (m.roads.map Road.e))]
@[go_sem] theorem OV (k n : Nat) (into : Option (List Int)) : old k n (OS into) = true := by
 cases into<;>simp only[OS,go_sem]
structure Wh where
 time:Int
 frm:List Int
instance : Dat Wh := ⟨⟨0, []⟩⟩
abbrev Wh.e(w:Wh):T:= .agg [tI w.time,tL w.frm]
def p8(m:aX)(t:Int)(into:Option (List Int))(l:List Int):List Int:=vK (OU m t into) (WL l+1) l
def inT(t:Int):Prop:=0≤t∧t≤2147483648
instance (t : Int) : Decidable (inT t) := by unfold inT; infer_instance
def plT(x:Int):Prop:=x=1099511627776∨inT x
instance (t : Int) : Decidable (plT t) := by unfold plT; infer_instance
def zm(w:Wh)(n:Int):Bool:=decide ((w.frm.length:Int)=n∧inT w.time)&&(List.range w.frm.length).all fun j=>decide (plT (nth w.frm j))
def sn(m:aX)(w:Wh):Bool:=zm w m.aa.length&&decide (p8 m w.time none w.frm=w.frm)
theorem tZ{w:Wh}{n:Int}(h:zm w n=true):(w.frm.length:Int)=n∧inT w.time∧∀x∈w.frm,plT x:=by
 simp only[zm,aLr,decide_eq_true_eq,aLx,aLu]at h
 refine⟨h.1.1,h.1.2,fun x hx=>?_⟩
 obtain⟨j,hj⟩:=aLf.1 hx
 have:=h.2 j (aLe.1 hj).1
 rwa [vJ hj]at this
def zn(n:Nat):List Int:=List.replicate n 1099511627776
@[simp] theorem K5 (n : Nat) : (zn n).length = n := List.length_replicate
def zo(m:aX)(p t:Int):Wh×Int:=
 if p<0∨(m.aa.length:Int)≤p then(⟨0,[]⟩,3)else if inT t then(⟨t,p8 m t none ((zn m.aa.length).set p.toNat t)⟩,0)else(⟨0,[]⟩,8)
def DO(w:Wh)(t:Int):Wh×Int:=if t<w.time∨2147483648<t then(w,8)else(⟨t,w.frm⟩,0)
def vM(m:aX)(w:Wh)(aa:List Int)(a b:Int):Int:=
 if sn m w=true∧aa≠[]∧oO aa m.aa.length=true then(if inT a∧inT b∧a≤b then 0 else 8)else 6
theorem qI{l:List Int}{n:Int}(h:oO l n=true){j:Nat}(hj:j<l.length):0≤nth l j∧nth l j<n∧(0<j→nth l (j-1)<nth l j):=by
 simp only[oO,aLx,aLu,decide_eq_true_eq]at h
 exact h j hj
theorem zp{l:List Int}{n:Int}(h:oO l n=true):∀ {j:Nat},j<l.length→(j:Int)≤nth l j
 | 0,hj=>by have:=qI h hj;omega
 | j+1,hj=>by
   have h1:=zp h (j:=j) (by omega)
   have:=(qI h hj).2.2 (by omega)
   simp only[Nat.add_sub_cancel]at this
   omega
theorem lD{l:List Int}{n:Nat}(h:oO l n=true):l.length≤n:=by
 cases hl:l.length with
 | zero=>omega
 | succ k=>
   have h1:=zp h (j:=k) (by omega)
   have h2:=(qI h (j:=k) (by omega)).2.1
   omega
def Ho(w:Wh)(t p:Int)(s:List Int×Bool):List Int×Bool:=if nth w.frm p.toNat≤t then(s.1.set p.toNat (nth w.frm p.toNat),true)else s
def Ve(w:Wh)(l:List Int)(t:Int)(n:Nat):Nat→List Int×Bool
 | 0=>(zn n,false)
 | j+1=>Ho w t (nth l j) (Ve w l t n j)
def XZ(m:aX)(w:Wh)(l:List Int)(a b:Int):Wh×Int:=
 if vM m w l a b≠0 then(w,vM m w l a b)else if a<w.time then(w,42)else
 if(Ve w l b m.aa.length l.length).2=true then(⟨b,p8 m a none (Ve w l b m.aa.length l.length).1⟩,0)else(w,43)
theorem ua{m:aX}{w:Wh}(h:sn m w=true):w.frm.length=m.aa.length∧inT w.time∧(∀x∈w.frm,plT x)∧p8 m w.time none w.frm=w.frm:=by
 simp only[sn,aLr,decide_eq_true_eq]at h
 obtain⟨h1,h2,h3⟩:=tZ h.1
 exact⟨by omega,h2,h3,h.2⟩
def WM(l0 l:List Int):Nat→List Int
 | 0=>l0
 | j+1=>(WM l0 l j).set (nth l j).toNat 1099511627776
def X0(m:aX)(w:Wh)(l:List Int)(a b bl:Int):Wh×Int:=
 if vM m w l a b≠0 then(w,vM m w l a b)else if ¬inT bl then(w,8)else if b<w.time then(w,42)else if b-max a w.time≤bl then(w,0)else
 (⟨b,p8 m b none (p8 m (b-bl) (some l) (WM w.frm l l.length))⟩,0)
def WN(a b:List Int):Nat→List Int
 | 0=>[]
 | j+1=>WN a b j++[min (nth a j) (nth b j)]
def Ci(a b:Wh):Wh×Int:=if a.frm.length=b.frm.length then(⟨max a.time b.time,WN a.frm b.frm a.frm.length⟩,0)else(⟨0,[]⟩,6)
structure Spn where
 low:Int
 high:Int
instance : Dat Spn := ⟨⟨0, 0⟩⟩
abbrev Spn.e(f:Spn):T:= .agg [tI f.low,tI f.high]
def Spn.ok(f:Spn):Prop:= -1125899906842624≤f.low∧f.high≤1125899906842624∧f.low≤f.high
instance (f : Spn) : Decidable f.ok := by unfold Spn.ok; infer_instance
def zq(m:aX)(l:List Spn):Bool:=(List.range l.length).all (fun j=>decide (nth l j).ok)&&decide (l.length=m.roads.length)
def mC(x:Road)(f:Spn)(back:Bool):Int:=
 if x.closed=true then -1 else
 let g:=if back then -f.low else f.high
 let out:=if 0<g then(x.len*x.area*1000).tdiv g else -1
 if(if back then f.low<500*x.area else -500*x.area<f.high)∧(out<0∨x.len<out)then x.len else out
def OW(l:List Int)(p q:Nat)(t:Int):Bool:=decide (0≤t∧nth l p+t<nth l q)
def Vf(l:List Int)(p q:Nat)(t:Int):List Int:=if OW l p q t=true then l.set q (nth l p+t)else l
def DP(m:aX)(fl:List Spn)(k:Nat)(back:Bool)(l:List Int):List Int×Bool:=
 (Vf l ((nth m.roads k).src back).toNat ((nth m.roads k).dst back).toNat (mC (nth m.roads k) (nth fl k) back),OW l ((nth m.roads k).src back).toNat ((nth m.roads k).dst back).toNat (mC (nth m.roads k) (nth fl k) back))
def OX(m:aX)(fl:List Spn)(k:Nat)(s:List Int×Bool):List Int×Bool:=
 let a:=DP m fl k false s.1
 let b:=DP m fl k true a.1
 (b.1,s.2||a.2||b.2)
def zr(m:aX)(fl:List Spn)(l:List Int):Nat→List Int×Bool
 | 0=>(l,false)
 | k+1=>OX m fl k (zr m fl l k)
def Hp(m:aX)(fl:List Spn)(l:List Int):List Int×Bool:=zr m fl l m.roads.length
section
variable {m : aX} (h : m.ok) {fl : List Spn}
include h
end
def R8(l:List Int):Nat→List Int
 | 0=>l
 | j+1=>if 2147483648<nth (R8 l j) j then(R8 l j).set j 1099511627776 else R8 l j
def DQ(m:aX)(fl:List Spn)(l:List Int):List Int:=R8 (vK (Hp m fl) (WL l+1) l) m.aa.length
end Go.Ev
namespace Go.Ev
open Go
variable [Lib] [aR] [aS]
def plS(t x:Int):Prop:=x=1099511627776∨(t≤x∧x≤2147483648)
instance (t x : Int) : Decidable (plS t x) := by unfold plS; infer_instance
def zt(m:aX)(s:Wh):Bool:=(List.range s.frm.length).all (fun j=>decide (plS s.time (nth s.frm j)))&&decide (s.frm.length=m.aa.length∧inT s.time)
def Hq(l:List Int)(t:Int)(n:Nat):List Int:=(List.range n).map fun(p:Nat)=>if(p:Int)∈l then t else 1099511627776
@[simp] theorem OY (l : List Int) (t : Int) (n : Nat) : (Hq l t n).length = n := by simp [Hq]
def OZ(m:aX)(fl:List Spn)(l:List Int)(t:Int):Wh×Int:=
 if zq m fl=false then(⟨0,[]⟩,6)else if oO l m.aa.length=false then(⟨0,[]⟩,3)else if ¬inT t then(⟨0,[]⟩,8)else
 (⟨t,DQ m fl (Hq l t m.aa.length)⟩,0)
def DR(m:aX)(fl:List Spn)(frm:List Int)(t:Int)(k:Nat)(back:Bool)(l:List Int):List Int:=
 if nth frm ((nth m.roads k).src back).toNat≤t∧0≤mC (nth m.roads k) (nth fl k) back then l.set ((nth m.roads k).dst back).toNat (min (nth l ((nth m.roads k).dst back).toNat) t)else l
def O0(m:aX)(fl:List Spn)(frm:List Int)(t:Int)(k:Nat)(l:List Int):List Int:=DR m fl frm t k true (DR m fl frm t k false l)
def chN(m:aX)(fl:List Spn)(frm:List Int)(t:Int):Nat→List Int
 | 0=>frm
 | k+1=>O0 m fl frm t k (chN m fl frm t k)
def Vg(t:Int)(l:List Int):Nat→List Int
 | 0=>l
 | k+1=>(Vg t l k).set k (max (nth (Vg t l k) k) t)
def Hr(m:aX)(old:List Spn)(next:aX)(fl:List Spn)(s:Wh)(t:Int):Wh×Int:=
 if zt m s=false∨zq m old=false∨zq next fl=false∨next.aa.length≠m.aa.length then(s,6)else
 if t<s.time∨2147483648<t then(s,8)else(⟨t,DQ next fl (Vg t (chN m old s.frm t m.roads.length) m.aa.length)⟩,0)
def O1(a b:List Int):Bool:=match (List.range (min a.length b.length)).find? (fun j=>decide (nth a j≠nth b j))with
 | some j=>decide (nth a j<nth b j)
 | none=>decide (a.length<b.length)
def mD(l:List Int)(x:Int):Int:=match (List.range l.length).find? (fun j=>decide (nth l j=x))with
 | some j=>j
 | none=> -1
def Ht(l:List Int)(j:Nat):Bool:=decide (1≤nth l j∧nth l j≤65535∧mD (l.take j) (nth l j)<0)
def uc(l:List Int):Bool:=(List.range l.length).all (Ht l)
structure World where
 tags:List Int
 whr:List Wh
instance : Dat World := ⟨⟨[], []⟩⟩
abbrev World.e(x:World):T:= .agg [tL x.tags,.sl (x.whr.map Wh.e)]
structure Bel where
 cy:List World
instance : Dat Bel := ⟨⟨[]⟩⟩
abbrev Bel.e(b:Bel):T:= .agg [.sl (b.cy.map World.e)]
def World.sz(x:World):Prop:=x.tags.length≤1000000∧x.whr.length≤1000000∧∀w∈x.whr,w.frm.length≤1000000
def Bel.sz(b:Bel):Prop:=b.cy.length≤1000000∧∀x∈b.cy,x.sz
@[go_sem] theorem Hu (l : List Wh) : bu 2 (l.map Wh.e) = true := gB 2 _ (fun _ => rfl) l
@[go_sem] theorem AT (l : List World) : bu 2 (l.map World.e) = true := gB 2 _ (fun _ => rfl) l
@[go_sem] theorem R9 (l : List Wh) : gG 2 (l.map Wh.e) = true := by cases l <;> rfl
@[go_sem] theorem Hv (l : List World) : gG 2 (l.map World.e) = true := by cases l <;> rfl
def X1(m:aX)(first:List Int)(x:World)(k:Nat):Bool:=decide (0≤mD first (nth x.tags k))&&sn m (nth x.whr k)
def O2(m:aX)(ws:List World)(first:List Int)(i:Nat):Bool:=
 decide ((nth ws i).tags.length=first.length∧(nth ws i).whr.length=first.length)&&uc (nth ws i).tags&&(decide (i=0)||O1 (nth ws (i-1)).tags (nth ws i).tags)&&(List.range (nth ws i).tags.length).all (X1 m first (nth ws i))
def WO(m:aX)(b:Bel):Bool:=
 decide (1≤b.cy.length∧b.cy.length≤24)&&decide (1≤(nth b.cy 0).tags.length∧(nth b.cy 0).tags.length≤12)&&(List.range b.cy.length).all (O2 m b.cy (nth b.cy 0).tags)
end Go.Ev
namespace Go.Ev.N
def zu:Nat:=78
def xS:Nat:=79
def w7:Nat:=80
def Hw:Nat:=81
def AU:Nat:=82
def Hx:Nat:=83
def Hy:Nat:=84
def Hz:Nat:=85
def K6:Nat:=86
def DT:Nat:=87
def HA:Nat:=88
def DU:Nat:=89
def DV:Nat:=90
def K7:Nat:=91
def DW:Nat:=92
def K8:Nat:=93
def O3:Nat:=94
def O4:Nat:=95
def HB:Nat:=96
def K9:Nat:=97
def HC:Nat:=98
def HD:Nat:=99
def HE:Nat:=100
def La:Nat:=101
def O5:Nat:=102
def sU:Nat:=103
def Cj:Nat:=104
def bN:Nat:=105
def DX:Nat:=106
def Lb:Nat:=107
def Lc:Nat:=108
def HF:Nat:=109
def Ld:Nat:=110
def Le:Nat:=111
def HG:Nat:=112
def HH:Nat:=113
def Lf:Nat:=114
def DY:Nat:=115
def Lg:Nat:=116
def Lh:Nat:=117
def DZ:Nat:=118
def D0:Nat:=119
def Ck:Nat:=120
def Cl:Nat:=121
def vN:Nat:=122
end Go.Ev.N
namespace Go.Ev.K
open Go.Ev
end Go.Ev.K
namespace Go.Ev
class bY [Lib]:Prop where
namespace K
variable [Lib] [bY]
end K
end Go.Ev
namespace Go.Ev.K
open Go.Ev
def cu:C:= (.its [u (.bin .lss v8 v7)] [] 0 .skip (.exit 0) (.seq (.blk 1 (q [m v8,a 1 v6 v8,g l0,x 4 l2,x 5 l1] [] (.ite [m v5,m v1,u (.bin .lss l1 l0),m l0,e 0 false v5,e 1 false v2,y 2 false (.bin .gtr l1 l0),u (.pk l3 (.b true) l0),m l0,e 0 false v4,y 1 false (.bin .gtr l0 (.i 0)),e 2 false l0,e 0 true v5,e 1 true v0,e 2 true v4,y 3 true (.bin .sub l0 (.i 1)),y 4 true (.ia l2 l0 1),i 5 true l0,y 6 true (.bin .leq l5 l0),y 10 false (.pk l7 l0 (.b false)),u (.pk l11 (.b true) l0)] [] 0 (q [x 3 (.b false)] [] .ret) .skip))) (.reg [u (.bin .add v8 (.i 1)),x 8 l0] [])))
def jk:C:= .loop true [3,4,5] K.cu
def bN:Fn:= { bK:=3,vars:=[0,1,2,6,7,8,9,10,11],body:=(q [x 3 (.b false)] [] (.seq (q [x 6 v0,w 7 (.ln l0),x 8 (.i 0)] [] (.blk 0 K.jk)) (q [x 3 (.b true)] [] .ret))),res:=[(3,none)]}
end Go.Ev.K
namespace Go.Ev
class bZ [Lib]:Prop where
 gK:Lib.fs N.bN=some K.bN
namespace K
variable [Lib] [bZ]
theorem gK:Lib.fs N.bN=some K.bN:=bZ.gK
end K
end Go.Ev
namespace Go.Ev
open Go
variable [Lib] [aR] [aS] [bY] [bZ]
def AV(l:List Int)(lo hi:Int)(j:Nat):Bool:= !decide (lo≤nth l j∧nth l j≤hi∧(0<j→nth l (j-1)<nth l j))
def Sa(l:List Int)(lo hi:Int):Bool:= !((List.range l.length).any (AV l lo hi))
theorem lE(l:List Int)(lo hi:Int)(hl:l.length≤4294967296):bM 0 N.bN [.t (tL l),I lo,I hi] []=some (B (Sa l lo hi),[]):=by
 refine aQ K.gK rfl ?_
 have loop:∀a b c:D,exS bM K.jk ⟨[.t (tL l),I lo,I hi,a,b,c,.t (tL l),I l.length,I 0],[]⟩=
  some (if(List.range l.length).any (AV l lo hi)=true
   then(.ret,⟨[.t (tL l),I lo,I hi,B false,I (si l.length (AV l lo hi)),I (nth l (si l.length (AV l lo hi))),.t (tL l),I l.length,I (si l.length (AV l lo hi))],[]⟩)
   else(.exit 0,⟨[.t (tL l),I lo,I hi,.und,.und,.und,.t (tL l),I l.length,I l.length],[]⟩)):=by
  intro a b c
  refine zg (fun j=>⟨[.t (tL l),I lo,I hi,.und,.und,.und,.t (tL l),I l.length,I j],[]⟩) l.length (AV l lo hi) (fun j=>(.ret,⟨[.t (tL l),I lo,I hi,B false,I j,I (nth l j),.t (tL l),I l.length,I j],[]⟩)) _ rfl ?_ ?_ ?_ (by simp)
  · intro j hj hp
    simp only[AV,Bool.not_eq_false',decide_eq_true_eq]at hp
    obtain⟨h1,h2,h3⟩:=hp
    cases j with
    | zero=>simp(disch:=omega)only[go_sem,K.cu,↓reduceIte]
    | succ j=>
      have h3:=h3 (by omega)
      rw[Nat.add_sub_cancel]at h3
      simp(disch:=omega)only[go_sem,K.cu,↓reduceIte]
  · intro j hj hp
    simp only[AV,Bool.not_eq_true',decide_eq_false_iff_not]at hp
    refine⟨?_,by simp⟩
    by_cases h1:lo≤nth l j
    · by_cases h2:nth l j≤hi
      · cases j with
        | zero=>exact absurd ⟨h1,h2,fun h=>absurd h (by omega)⟩ hp
        | succ j=>
          have h3:¬nth l j<nth l (j+1):=fun h=>hp ⟨h1,h2,fun _=>by simpa using h⟩
          simp(disch:=omega)only[go_sem,K.cu,↓reduceIte]
      · simp(disch:=omega)only[go_sem,K.cu,↓reduceIte]
    · simp(disch:=omega)only[go_sem,K.cu,↓reduceIte]
  · simp(disch:=omega)only[go_sem,K.cu,↓reduceIte]
 unfold Sa
 simp(disch:=omega)only[go_sem,K.bN,↓reduceIte,loop]
 cases hf:(List.range l.length).any (AV l lo hi)with
 | true=>simp(disch:=omega)only[go_sem,↓reduceIte]
 | false=>simp(disch:=omega)only[go_sem,↓reduceIte,aLt]
theorem qJ(l:List Int)(n:Int):Sa l 0 (n-1)=oO l n:=by
 unfold Sa oO
 rw[Hk]
 refine congrArg (!·) (congrArg _ (funext fun j=>?_))
 unfold AV
 refine congrArg (!·) (decide_eq_decide.2 ⟨fun h=>⟨h.1,by omega,h.2.2⟩,fun h=>⟨h.1,by omega,h.2.2⟩⟩)
structure O6 where
 st:Int
 fi:Int
 se:Int
 ti:Int
abbrev O6.e(s:O6):T:= .agg [tI s.st,tI s.fi,tI s.se,tI s.ti]
structure w8 where
 area:List Int
 hold:Int
 mis:Int
abbrev w8.e(x:w8):T:= .agg [tL x.area,tI x.hold,tI x.mis]
structure Keys where
 roads:List Int
 keys:List Int
 out:Bool
abbrev Keys.e(k:Keys):T:= .agg [tL k.roads,tL k.keys,.bool k.out]
end Go.Ev
namespace Go.Ev
open Go
variable [Lib] [aR] [aS]
@[go_sem] theorem HI (l : List Place) : gG 2 (l.map Place.e) = true := by cases l <;> rfl
@[go_sem] theorem Li (l : List Road) : gG 10 (l.map Road.e) = true := by cases l <;> rfl
@[go_sem] theorem Lj (H : ae) (d : az) : BS H 0 1 false (some d.obj) = some (.t (tL d.L), H) := by simp only [az.obj, go_sem]
def az.b7(d:az):Nat→List Place×az
 | 0=>([],d)
 | k+1=>if k=0 then((d.b7 k).1++[⟨-10*((d.b7 k).2.next 4).1,true⟩],((d.b7 k).2.next 4).2)
   else((d.b7 k).1++[⟨-10*((d.b7 k).2.next 4).1,(((d.b7 k).2.next 4).2.one 6).1⟩],(((d.b7 k).2.next 4).2.one 6).2)
def az.w9(d:az)(i:Int):Road×az:=
 (⟨i-1-(d.next (min i 2)).1,i,1+((d.next (min i 2)).2.of [11,59,119,4]).1,1+(((d.next (min i 2)).2.of [11,59,119,4]).2.of [9,3,19]).1,true,false,1,1,0,0⟩,
   (((d.next (min i 2)).2.of [11,59,119,4]).2.of [9,3,19]).2)
def az.eL(d:az):Nat→List Road×az
 | 0=>([],d)
 | k+1=>((d.eL k).1++[((d.eL k).2.w9 (k+1)).1],((d.eL k).2.w9 (k+1)).2)
def az.iG(d:az)(n:Int):Road×az:=
 let a:=d.next n
 let b:=a.2.next n
 let l:=b.2.of [11,59,199]
 let r:=l.2.of [9,3]
 let w:=r.2.next 5
 let c:=w.2.one 6
 (⟨a.1,b.1,1+l.1,1+r.1,decide (0<w.1),c.1,1,1,0,0⟩,c.2)
def az.more(n:Int)(l:List Road)(d:az):Nat→List Road×az
 | 0=>(l,d)
 | k+1=>if l.length<10 then az.more n (if(d.iG n).1.frm=(d.iG n).1.to then l else l++[(d.iG n).1]) (d.iG n).2 k else(l,d)
def az.ky(d:az):Nat:=if d.L.length=0 then 4 else(2+(d.next 6).1).toNat
def az.zv(d:az):List Place×az:=(d.next 6).2.b7 d.ky
def az.qK(d:az):List Road×az:=d.zv.2.eL (d.ky-1)
def az.Cm(d:az):List Road×az:=az.more d.ky d.qK.1 (d.qK.2.next 4).2 (d.qK.2.next 4).1.toNat
def az.D1(d:az):aX×az:=(⟨d.zv.1,d.Cm.1⟩,d.Cm.2)
theorem az.eM{d:az}(h:d.cV):∀n,(d.b7 n).2.cV
 | 0=>h
 | n+1=>by
   unfold az.b7
   split
   · exact az.bG (az.eM h n) 4
   · exact az.oN (az.bG (az.eM h n) 4) 6
theorem az.iH(d:az):∀n,(d.b7 n).1.length=n
 | 0=>rfl
 | n+1=>by
   unfold az.b7
   split<;>simp[d.iH n]
theorem az.ud{d:az}(h:d.cV)(i:Int):(d.w9 i).2.cV:=az.gC (az.gC (az.bG h _) _) _
theorem az.gD{d:az}(h:d.cV):∀n,(d.eL n).2.cV
 | 0=>h
 | n+1=>az.ud (az.gD h n) _
theorem az.jP(d:az):∀n,(d.eL n).1.length=n
 | 0=>rfl
 | n+1=>by simp[az.eL,d.jP n]
theorem az.oQ{d:az}(h:d.cV)(n:Int):(d.iG n).2.cV:=by
 unfold az.iG;simp only
 exact az.oN (az.bG (az.gC (az.gC (az.bG (az.bG h _) _) _) _) _) _
theorem az.p9(n:Int):∀(k:Nat) (l:List Road) {d:az},d.cV→(az.more n l d k).2.cV
 | 0,l,d,h=>h
 | k+1,l,d,h=>by
   unfold az.more
   split
   · exact az.p9 n k _ (az.oQ h n)
   · exact h
theorem az.xa{d:az}(h:d.cV):d.D1.2.cV:=
 az.p9 _ _ _ (az.bG (az.gD (az.eM (az.bG h _) _) _) _)
abbrev qL:List D:=[I 0,I 0,I 12,I 10,B true,B false,I 1,I 1,I 0,I 0]
theorem xb(d:az)(hd:d.cV)(n:Nat)(hn:n≤8)(a b c e f:D):
 exS bM K.hX ⟨[.bp 0 0,.bp 1 0,.bp 2 0,I n,I 0,a,b,c,e,f],[d.obj,.box [.nil,.nil],.box [.ref 3 0 0,.ref 4 0 0],.arr 2 false 0 [],.arr 10 false 0 []]⟩=
 some (.exit 0,⟨[.bp 0 0,.bp 1 0,.bp 2 0,I n,I n,.und,.und,.und,.und,.und],[(d.b7 n).2.obj,.box [.nil,.nil],.box [.ref 3 0 (d.b7 n).1.length,.ref 4 0 0],.arr 2 false 0 (((d.b7 n).1.map Place.e).map .t),.arr 10 false 0 []]⟩):=by
 refine eJ (fun j=>⟨[.bp 0 0,.bp 1 0,.bp 2 0,I n,I j,.und,.und,.und,.und,.und],[(d.b7 j).2.obj,.box [.nil,.nil],.box [.ref 3 0 (d.b7 j).1.length,.ref 4 0 0],.arr 2 false 0 (((d.b7 j).1.map Place.e).map .t),.arr 10 false 0 []]⟩) n rfl ?_ ?_ (by simp)
 · intro j hj
   have ln:=d.iH j
   have lt:=az.eM hd j
   simp only[az.b7]
   generalize d.b7 j=s at*
   obtain⟨l,d1⟩:=s
   simp only at ln lt ⊢
   have h1:=gJ d1 4 (by omega) lt
   have b1:=d1.fC 4
   have b2:=d1.fD (n:=4) (by omega)
   have l1:=az.bG lt 4
   generalize d1.next 4=a1 at*
   obtain⟨x,d2⟩:=a1
   simp only at h1 b1 b2 l1 ⊢
   by_cases j0:j=0
   · subst j0
     simp(disch:=omega)only[go_sem,K.dI,h1,↓reduceIte,reduceAdd,reduceSub]
   · have h2:=zj d2 6 (by omega) (by omega) l1
     simp(disch:=omega)only[go_sem,K.dI,h1,h2,j0,↓reduceIte,reduceAdd,reduceSub]
 · simp(disch:=omega)only[go_sem,K.dI,↓reduceIte]
theorem xc(d:az)(hd:d.cV)(n:Nat)(hn:n≤8)(h1:1≤n)(ps:List Place)(a b c e:D):
 exS bM K.ib ⟨[.bp 0 0,.bp 1 0,.bp 2 0,I n,a,.bp 5 0,I 1,b,c,e],[d.obj,.box [.nil,.nil],.box [.ref 3 0 ps.length,.ref 4 0 0],.arr 2 false 0 ((ps.map Place.e).map .t),.arr 10 false 0 [],.box qL]⟩=
 some (.exit 2,⟨[.bp 0 0,.bp 1 0,.bp 2 0,I n,.und,.bp 5 0,I n,.und,.und,.und],[(d.eL (n-1)).2.obj,.box [.nil,.nil],.box [.ref 3 0 ps.length,.ref 4 0 (d.eL (n-1)).1.length],.arr 2 false 0 ((ps.map Place.e).map .t),.arr 10 false 0 (((d.eL (n-1)).1.map Road.e).map .t),.box qL]⟩):=by
 refine eJ (fun j=>⟨[.bp 0 0,.bp 1 0,.bp 2 0,I n,.und,.bp 5 0,I (j+1),.und,.und,.und],[(d.eL j).2.obj,.box [.nil,.nil],.box [.ref 3 0 ps.length,.ref 4 0 (d.eL j).1.length],.arr 2 false 0 ((ps.map Place.e).map .t),.arr 10 false 0 (((d.eL j).1.map Road.e).map .t),.box qL]⟩) (n-1) rfl ?_ ?_ (by simp)
 · intro j hj
   have ln:=d.jP j
   have lt:=az.gD hd j
   simp only[az.eL]
   generalize d.eL j=s at*
   obtain⟨l,d1⟩:=s
   simp only[az.w9]at ln lt ⊢
   have h1:=gJ d1 (min ((j:Int)+1) 2) (by omega) lt
   have b1:=d1.fC (min ((j:Int)+1) 2)
   have b2:=d1.fD (n:=min ((j:Int)+1) 2) (by omega)
   have l1:=az.bG lt (min ((j:Int)+1) 2)
   generalize d1.next (min ((j:Int)+1) 2)=a1 at*
   obtain⟨x,d2⟩:=a1
   simp only at h1 b1 b2 l1 ⊢
   have h2:=zk d2 [11,59,119,4] (by simp) (by simp) l1
   have m2:=d2.lC (l:=[11,59,119,4]) (by simp)
   have l2:=az.gC l1 [11,59,119,4]
   generalize d2.of [11,59,119,4]=a2 at*
   obtain⟨y,d3⟩:=a2
   simp only[tL,List.map_cons,List.map_nil]at h2 m2 l2 ⊢
   have h3:=zk d3 [9,3,19] (by simp) (by simp) l2
   have m3:=d3.lC (l:=[9,3,19]) (by simp)
   generalize d3.of [9,3,19]=a3 at*
   obtain⟨z,d4⟩:=a3
   simp only[tL,List.map_cons,List.map_nil,List.mem_cons,List.not_mem_nil,or_false]at h3 m2 m3 ⊢
   simp(disch:=omega)only[go_sem,K.eG,h1,h2,h3,↓reduceIte,reduceAdd,reduceSub]
 · simp(disch:=omega)only[go_sem,K.eG,↓reduceIte]
   rw[show((n-1:Nat):Int)+1=n by omega]
abbrev sq(d:az)(ps:List Place)(l:List Road):ae:=[d.obj,.box [.nil,.nil],.box [.ref 3 0 ps.length,.ref 4 0 l.length],.arr 2 false 0 ((ps.map Place.e).map .t),.arr 10 false 0 ((l.map Road.e).map .t),.box qL]
theorem xd(d:az)(hd:d.cV)(n:Int)(hn:1≤n)(hn2:n≤8)(ps:List Place)(l:List Road)(hl:l.length<10)(k:Nat)(hk:k≤10):
 fW true [4,6,7,9] 6 (exS bM K.bR ⟨[.bp 0 0,.bp 1 0,.bp 2 0,I n,.und,.bp 5 0,.und,.und,I (k+1),.und],sq d ps l⟩)=
 some ⟨[.bp 0 0,.bp 1 0,.bp 2 0,I n,.und,.bp 5 0,.und,.und,I k,.und],sq (d.iG n).2 ps (if(d.iG n).1.frm=(d.iG n).1.to then l else l++[(d.iG n).1])⟩:=by
 unfold az.iG sq
 simp only
 have h1:=gJ d n (by omega) hd
 have l1:=az.bG hd n
 generalize d.next n=a1 at*
 obtain⟨x1,d1⟩:=a1
 simp only at h1 l1 ⊢
 have h2:=gJ d1 n (by omega) l1
 have l2:=az.bG l1 n
 generalize d1.next n=a2 at*
 obtain⟨x2,d2⟩:=a2
 simp only at h2 l2 ⊢
 have h3:=zk d2 [11,59,199] (by simp) (by simp) l2
 have m3:=d2.lC (l:=[11,59,199]) (by simp)
 have l3:=az.gC l2 [11,59,199]
 generalize d2.of [11,59,199]=a3 at*
 obtain⟨x3,d3⟩:=a3
 simp only[tL,List.map_cons,List.map_nil]at h3 m3 l3 ⊢
 have h4:=zk d3 [9,3] (by simp) (by simp) l3
 have m4:=d3.lC (l:=[9,3]) (by simp)
 have l4:=az.gC l3 [9,3]
 generalize d3.of [9,3]=a4 at*
 obtain⟨x4,d4⟩:=a4
 simp only[tL,List.map_cons,List.map_nil]at h4 m4 l4 ⊢
 have h5:=gJ d4 5 (by omega) l4
 have l5:=az.bG l4 5
 generalize d4.next 5=a5 at*
 obtain⟨x5,d5⟩:=a5
 simp only at h5 l5 ⊢
 have h6:=zj d5 6 (by omega) (by omega) l5
 generalize d5.one 6=a6 at*
 obtain⟨x6,d6⟩:=a6
 simp only[List.mem_cons,List.not_mem_nil,or_false]at h6 m3 m4 ⊢
 by_cases e:x1=x2
 · simp(disch:=omega)only[go_sem,K.bR,h1,h2,h3,h4,h5,h6,e,↓reduceIte,reduceAdd,reduceSub]
 · simp(disch:=omega)only[go_sem,K.bR,h1,h2,h3,h4,h5,h6,e,↓reduceIte,reduceAdd,reduceSub]
theorem qa(n:Int)(hn:1≤n)(hn2:n≤8)(ps:List Place):∀(k:Nat) (d:az) (l:List Road),d.cV→l.length≤10→k≤10→
 ∃z:Int,iQ true [4,6,7,9] (exS bM K.bR) ⟨[.bp 0 0,.bp 1 0,.bp 2 0,I n,.und,.bp 5 0,.und,.und,I k,.und],sq d ps l⟩=
 some (.exit 4,⟨[.bp 0 0,.bp 1 0,.bp 2 0,I n,.und,.bp 5 0,.und,.und,I z,.und],sq (az.more n l d k).2 ps (az.more n l d k).1⟩)
 | 0,d,l,hd,hl,hk=>by
   refine⟨0,en ?_ (by simp)⟩
   simp(disch:=omega)only[go_sem,K.bR,az.more,↓reduceIte,reduceAdd,reduceSub]
 | k+1,d,l,hd,hl,hk=>by
   by_cases h:l.length<10
   · have hr:=xd d hd n hn hn2 ps l h k (by omega)
     obtain⟨z,hz⟩:=qa n hn hn2 ps k (d.iG n).2 (if(d.iG n).1.frm=(d.iG n).1.to then l else l++[(d.iG n).1]) (az.oQ hd n) (by split<;>(try rw[aLv,List.length_singleton])<;>omega) (by omega)
     refine⟨z,mw hr ?_⟩
     rw[hz]
     simp only[az.more,if_pos h]
   · refine⟨(k:Int)+1,en ?_ (by simp)⟩
     simp(disch:=omega)only[go_sem,K.bR,az.more,↓reduceIte,reduceAdd,reduceSub]
theorem az.vO(n:Int):∀(k:Nat) (l:List Road) (d:az),l.length≤10→(az.more n l d k).1.length≤10
 | 0,l,d,h=>h
 | k+1,l,d,h=>by
   unfold az.more
   split
   · exact az.vO n k _ _ (by split<;>(try rw[aLv,List.length_singleton])<;>omega)
   · exact h
theorem az.nO(d:az):2≤d.ky∧d.ky≤7:=by
 unfold az.ky
 have:=d.fC 6
 have:=d.fD (n:=6) (by omega)
 split<;>omega
theorem HJ(d:az)(hd:d.cV):bM 0 N.bB [.bp 0 0] [d.obj]=some (.t d.D1.1.e,[d.D1.2.obj]):=by
 refine aQ K.fA rfl ?_
 have nb:=d.nO
 unfold az.D1
 have h0:=gJ d 6 (by omega) hd
 have l0:=az.bG hd 6
 have b1:=d.fC 6
 have b2:=d.fD (n:=6) (by omega)
 have hL:=d.DL 6
 have hN:(d.ky:Int)=if d.L.length=0 then 4 else 2+(d.next 6).1:=by unfold az.ky;split<;>omega
 have e1:d.Cm=az.more d.ky d.qK.1 (d.qK.2.next 4).2 (d.qK.2.next 4).1.toNat:=rfl
 have e2:d.qK=d.zv.2.eL (d.ky-1):=rfl
 have e3:d.zv=(d.next 6).2.b7 d.ky:=rfl
 generalize d.Cm=X at*
 generalize d.qK=R at*
 generalize d.zv=P at*
 generalize d.ky=n at*
 generalize d.next 6=a at*
 obtain⟨x,d1⟩:=a
 simp only at h0 l0 b1 b2 hL hN e3 ⊢
 have q1:=xb d1 l0 n (by omega)
 have lP:=az.eM l0 n
 have nP:=d1.iH n
 rw[← e3]at q1 lP nP
 obtain⟨ps,d2⟩:=P
 simp only at q1 lP nP e2 ⊢
 have q2:=xc d2 lP n (by omega) (by omega) ps
 have lR:=az.gD lP (n-1)
 have nR:=d2.jP (n-1)
 rw[← e2]at q2 lR nR
 obtain⟨rs,d3⟩:=R
 simp only at q2 lR nR e1 ⊢
 have h4:=gJ d3 4 (by omega) lR
 have l4:=az.bG lR 4
 have b3:=d3.fC 4
 have b4:=d3.fD (n:=4) (by omega)
 generalize d3.next 4=c at*
 obtain⟨y,d4⟩:=c
 simp only at h4 l4 b3 b4 e1 ⊢
 obtain⟨z,q3⟩:=qa n (by omega) (by omega) ps y.toNat d4 rs l4 (by omega) (by omega)
 rw[← e1]at q3
 have q3:=G1 (vs:=[.bp 0 0,.bp 1 0,.bp 2 0,I n,.und,.bp 5 0,I n,.und,I y.toNat,.und]) q3
 have ey:(y.toNat:Int)=y:=by omega
 rw[ey]at q3
 obtain⟨xs,d5⟩:=X
 have fin:∀k:Int,(exS bM K.ic ⟨[.bp 0 0,.bp 1 0,.bp 2 0,I n,.und,.bp 5 0,I n,.und,I y,.und],sq d4 ps rs⟩)=
  some (.exit 4,⟨[.bp 0 0,.bp 1 0,.bp 2 0,I n,.und,.bp 5 0,.und,.und,I z,.und],sq d5 ps xs⟩):=fun _=>q3
 clear q3
 have q3:=fin 0
 clear fin
 simp only[sq]at q3
 by_cases c0:d.L.length=0
 · rw[if_pos c0]at hN
   obtain rfl:n=4:=by omega
   have e4:((4:Nat):Int)=4:=rfl
   simp only[e4]at q1 q2 q3
   simp(disch:=omega)only[go_sem,K.bB,↓reduceIte,h0,c0,q1,q2,q3,h4,hL,reduceAdd,reduceSub]
 · rw[if_neg c0]at hN
   simp(disch:=omega)only[go_sem,K.bB,↓reduceIte,h0,c0,q1,q2,q3,h4,hL,hN.symm,reduceAdd,reduceSub]
theorem az.Cn(d:az){n:Nat}{i:Int}(h1:1≤i)(h2:i<n):(d.w9 i).1.ok n:=by
 have b1:=d.fC (min i 2)
 have b2:=d.fD (n:=min i 2) (by omega)
 have m2:=(d.next (min i 2)).2.lC (l:=[11,59,119,4]) (by simp)
 have m3:=((d.next (min i 2)).2.of [11,59,119,4]).2.lC (l:=[9,3,19]) (by simp)
 simp only[List.mem_cons,List.not_mem_nil,or_false]at m2 m3
 unfold az.w9
 constructor<;>(simp only;omega)
theorem az.sr(d:az){n:Nat}:∀k,k+1≤n→∀r∈(d.eL k).1,r.ok n
 | 0,_,r,hr=>by simp[az.eL]at hr
 | k+1,h,r,hr=>by
   simp only[az.eL,List.mem_append,List.mem_singleton]at hr
   rcases hr with hr | rfl
   · exact d.sr k (by omega) r hr
   · exact az.Cn _ (by omega) (by omega)
theorem az.Co(d:az){n:Nat}(hn:1≤n)(hne:(d.iG n).1.frm≠(d.iG n).1.to):(d.iG n).1.ok n:=by
 unfold az.iG at hne ⊢
 simp only at hne ⊢
 have b1:=d.fC n
 have b2:=d.fD (n:=(n:Int)) (by omega)
 generalize d.next n=a1 at*
 obtain⟨x1,d1⟩:=a1
 simp only at*
 have c1:=d1.fC n
 have c2:=d1.fD (n:=(n:Int)) (by omega)
 generalize d1.next n=a2 at*
 obtain⟨x2,d2⟩:=a2
 simp only at*
 have m3:=d2.lC (l:=[11,59,199]) (by simp)
 generalize d2.of [11,59,199]=a3 at*
 obtain⟨x3,d3⟩:=a3
 simp only at*
 have m4:=d3.lC (l:=[9,3]) (by simp)
 generalize d3.of [9,3]=a4 at*
 obtain⟨x4,d4⟩:=a4
 simp only[List.mem_cons,List.not_mem_nil,or_false]at m3 m4 ⊢
 constructor<;>(simp only;omega)
theorem az.zw{n:Nat}(hn:1≤n):∀(k:Nat) (l:List Road) (d:az),(∀r∈l,r.ok n)→∀r∈(az.more n l d k).1,r.ok n
 | 0,l,d,h=>h
 | k+1,l,d,h=>by
   unfold az.more
   split
   · refine az.zw hn k _ _ ?_
     split
     · exact h
     · rename_i hne
       intro r hr
       rcases List.mem_append.1 hr with hr | hr
       · exact h r hr
       · rw[List.mem_singleton.1 hr];exact d.Co hn hne
   · exact h
theorem az.su(n:Int):∀(k:Nat) (l:List Road) (d:az),l.length≤(az.more n l d k).1.length
 | 0,l,d=>aLs _
 | k+1,l,d=>by
   unfold az.more
   split
   · refine Nat.le_trans ?_ (az.su n k _ _)
     split<;>(try rw[aLv])<;>omega
   · exact aLs _
theorem az.sw(d:az):∀k,∀p∈(d.b7 k).1, -30≤p.h∧p.h≤0
 | 0,p,hp=>by simp[az.b7]at hp
 | k+1,p,hp=>by
   have b1:=(d.b7 k).2.fC 4
   have b2:=(d.b7 k).2.fD (n:=4) (by omega)
   unfold az.b7 at hp
   split at hp
   all_goals
    simp only[List.mem_append,List.mem_singleton]at hp
    rcases hp with hp | rfl
    · exact d.sw k p hp
    · simp only;omega
theorem az.oR(d:az):d.D1.1.aa.length=d.ky:=az.iH _ _
theorem az.qb(d:az):d.ky-1≤d.D1.1.roads.length∧d.D1.1.roads.length≤10:=by
 have nb:=d.nO
 have e:d.qK.1.length=d.ky-1:=az.jP _ _
 constructor
 · rw[← e];exact az.su _ _ _ _
 · exact az.vO _ _ _ _ (by omega)
theorem az.zx(d:az):d.D1.1.ok:=by
 have nb:=d.nO
 have h1:=d.oR
 have h2:=d.qb
 refine⟨by omega,by omega,fun p hp=>?_,?_⟩
 · have:=az.sw _ _ p hp;omega
 · rw[h1]
   exact az.zw (by omega) _ _ _ (az.sr _ _ (by omega))
@[go_sem] theorem O7 (l : List Spn) : gG 2 (l.map Spn.e) = true := by cases l <;> rfl
@[go_sem] theorem Vh (l : List Spn) (k : Nat) (a b : Int) : (List.map D.t (List.map Spn.e l)).set k (D.t (T.agg [tI a, tI b])) = List.map D.t (List.map Spn.e (l.set k ⟨a, b⟩)) := by
 rw[List.map_set,List.map_set]
@[go_sem] theorem WQ (H : ae) (sz : Nat) (a b c d e f : T) : p0 H sz [.t a, .t b, .t c, .t d, .t e, .t f] = if bu sz [a, b, c, d, e, f] = true then some (.t (.sl [a, b, c, d, e, f]), H) else none := je H sz [a, b, c, d, e, f]
@[go_sem] theorem WR (H : ae) (sz : Nat) (a b c d e f g : T) : p0 H sz [.t a, .t b, .t c, .t d, .t e, .t f, .t g] = if bu sz [a, b, c, d, e, f, g] = true then some (.t (.sl [a, b, c, d, e, f, g]), H) else none := je H sz [a, b, c, d, e, f, g]
@[go_sem] theorem WT (H : ae) (sz : Nat) (a b c d e f g h : T) : p0 H sz [.t a, .t b, .t c, .t d, .t e, .t f, .t g, .t h] = if bu sz [a, b, c, d, e, f, g, h] = true then some (.t (.sl [a, b, c, d, e, f, g, h]), H) else none := je H sz [a, b, c, d, e, f, g, h]
@[go_sem] theorem O8 {α β γ : Type} {l : List α} {g : α → β} {f : β → γ} {x : γ} {j : Nat} (h : j = l.length) : (List.map f (List.map g l) ++ [x])[j]? = some x := by
 rw[aLh (by simp;omega)];simp[h]
@[go_sem] theorem Sb {α β γ : Type} {l : List α} {g : α → β} {f : β → γ} {x y : γ} {j : Nat} (h : j = l.length) : (List.map f (List.map g l) ++ [x]).set j y = List.map f (List.map g l) ++ [y] := by
 rw[List.set_append_right _ _ (by simp;omega)];simp[h]
def az.O9(d:az):Spn×az:=
 let a:=d.of [0,1000,5000,20000, -5000, -20000,4999,100]
 let b:=a.2.of [0,1,1000,6000]
 let c:=b.2.of [0,1,500]
 let w:=c.2.one 9
 (if w.1=true then⟨-1125899906842624,1125899906842624⟩else⟨a.1-b.1,a.1+c.1⟩,w.2)
def az.vP(d:az):Nat→List Spn×az
 | 0=>([],d)
 | k+1=>((d.vP k).1++[((d.vP k).2.O9).1],((d.vP k).2.O9).2)
def az.Vi(d:az)(m:aX):List Spn×az:=d.vP m.roads.length
theorem Pa(l:List Int):bM 0 N.dX [.t (tL l)] []=some (.bp 0 0,[az.obj ⟨l,0⟩]):=by
 refine aQ K.kt rfl ?_
 simp(disch:=omega)only[go_sem,K.dX,↓reduceIte,az.obj,reduceAdd,reduceSub]
theorem zy{d:az}(hd:d.cV)(n:Int)(h1:1≤n)(hn:n≤4611686018427387904):
 ∃(v:Int) (e:az),bM 0 N.aq [.bp 0 0,I n] [d.obj]=some (I v,[e.obj])∧e.cV∧0≤v∧v<n:=
 ⟨_,_,gJ d n hn hd,az.bG hd n,d.fC n,d.fD h1⟩
theorem Vj{d:az}(hd:d.cV)(n:Int)(h1:0≤n)(hn:n≤4611686018427387904):
 ∃(b:Bool) (e:az),bM 0 N.aN [.bp 0 0,I n] [d.obj]=some (B b,[e.obj])∧e.cV:=
 ⟨_,_,zj d n h1 hn hd,az.oN hd n⟩
theorem X2{d:az}(hd:d.cV)(l:List Int)(hl:l≠[])(hn:l.length≤4294967296):
 ∃(v:Int) (e:az),bM 0 N.bc [.bp 0 0,.t (tL l)] [d.obj]=some (I v,[e.obj])∧e.cV∧v∈l:=
 ⟨_,_,zk d l hl hn hd,az.gC hd l,d.lC hl⟩
theorem Pb{d:az}(hd:d.cV):
 ∃(m:aX) (e:az),bM 0 N.bB [.bp 0 0] [d.obj]=some (.t m.e,[e.obj])∧e.cV∧m.ok∧2≤m.aa.length∧m.aa.length≤7∧1≤m.roads.length∧m.roads.length≤10:=by
 have b:=d.nO
 have p:=d.oR
 have r:=d.qb
 exact⟨_,_,HJ d hd,az.xa hd,d.zx,by omega,by omega,by omega,by omega⟩
end Go.Ev
namespace Go.Ev
open Go
variable [Lib] [aR] [aS] [bY] [bZ]
abbrev never:Int:=1099511627776
abbrev Wh.box(w:Wh):Obj:= .box [I w.time,.t (tL w.frm)]
structure Req where
 x:w8
 s:O6
 k:Keys
 b:Bel
 t:Int
 from_:Int
abbrev Req.e(r:Req):T:= .agg [tL r.x.area,tI r.x.hold,tI r.x.mis,tI r.s.st,tI r.s.fi,tI r.s.se,tI r.s.ti,tL r.k.roads,tL r.k.keys,.bool r.k.out,.sl (r.b.cy.map World.e),tI r.t,tI r.from_]
structure Req.sz(r:Req):Prop where
 hx:r.x.area.length≤1000000
 hk:r.k.roads.length≤1000000
 hk2:r.k.keys.length≤1000000
 hb:r.b.sz
section
variable (x : w8) (s : O6) (k : Keys) (b : Bel) (hx : x.area.length ≤ 1000000) (hk : k.roads.length ≤ 1000000) (hk2 : k.keys.length ≤ 1000000) (hb : b.sz)
include hx hk hk2 hb
end
end Go.Ev
namespace Go.Ev
open Go
variable [Lib] [aR] [aS] [bY] [bZ]
section
variable (area : List Int) (ha : area.length ≤ 1000000) (xs : List World) (hx : xs.length ≤ 1000000)
include ha hx
end
end Go.Ev
namespace Go.Ev
open Go
section
variable (H : ae) (sz id ep n lo hi : Nat) (i j : Int) (fz : Bool)
def scO(r:D):Option Obj→Option (D×ae)
 | some (.arr sz' _ ep' es)=>if ep=ep'∧n=es.length then(if sz'=sz then some (r,H)else none)else none
 | _=>none
@[go_sem] theorem Vk (r : D) (sz' : Nat) (pin : Bool) (es : List D) : scO H sz ep n r (some (.arr sz' pin ep es)) = if n = es.length then (if sz' = sz then some (r, H) else none) else none := by simp [scO]
theorem scR{l h:Nat}:((cQ H id ep n).bind fun a=>if l≤h∧h≤n∧a.1=sz then some (D.sub id ep n l h)else none).map (fun d=>(d,H))=if l≤h then(if h≤n then scO H sz ep n (.sub id ep n l h) H[id]? else none)else none:=by
 simp only[cQ]
 generalize H[id]?=o
 by_cases h1:l≤h
 · by_cases h2:h≤n
   · rw[if_pos h1,if_pos h2]
     rcases o with _ | (_ | ⟨sz',pin,ep',es⟩)
     · rfl
     · rfl
     · simp only[scO]
       by_cases h3:ep=ep'∧n=es.length
       · rw[if_pos h3,if_pos h3,aLq]
         by_cases h4:sz'=sz
         · rw[if_pos h4,if_pos ⟨h1,h2,h4⟩];rfl
         · rw[if_neg h4,if_neg fun h=>h4 h.2.2];rfl
       · rw[if_neg h3,if_neg h3];rfl
   · rw[if_pos h1,if_neg h2]
     rcases o with _ | (_ | ⟨sz',pin,ep',es⟩)
     · rfl
     · rfl
     · by_cases h3:ep=ep'∧n=es.length
       · simp only[if_pos h3,aLq];rw[if_neg fun h=>h2 h.2.1];rfl
       · simp only[if_neg h3];rfl
 · rw[if_neg h1]
   rcases o with _ | (_ | ⟨sz',pin,ep',es⟩)
   · rfl
   · rfl
   · by_cases h3:ep=ep'∧n=es.length
     · simp only[if_pos h3,aLq];rw[if_neg fun h=>h1 h.1];rfl
     · simp only[if_neg h3];rfl
@[go_sem] theorem HK : rX H sz (some (.ref id ep n)) (some none) (some (some i)) = if 0 ≤ i then (if i ≤ n then scO H sz ep n (.sub id ep n 0 i.toNat) H[id]? else none) else none := by
 simp only[rX,aLq,gx,bound,idx]
 by_cases h1:0≤i
 · rw[if_pos h1,if_pos h1,aLq,scR,if_pos (Nat.zero_le _)]
   by_cases h2:i≤n
   · rw[if_pos h2,if_pos (by omega)]
   · rw[if_neg h2,if_neg (by omega)]
 · rw[if_neg h1,if_neg h1];rfl
@[go_sem] theorem HL : rX H sz (some (.ref id ep n)) (some (some i)) (some none) = if 0 ≤ i then (if i ≤ n then scO H sz ep n (.sub id ep n i.toNat n) H[id]? else none) else none := by
 simp only[rX,aLq,gx,bound,idx]
 by_cases h1:0≤i
 · rw[if_pos h1,if_pos h1,aLq,scR]
   by_cases h2:i≤n
   · rw[if_pos h2,if_pos (by omega),if_pos (by omega)]
   · rw[if_neg h2,if_neg (by omega)]
 · rw[if_neg h1,if_neg h1];rfl
@[go_sem] theorem Cp : rX H sz (some (.ref id ep n)) (some (some i)) (some (some j)) = if 0 ≤ i then (if i ≤ j then (if j ≤ n then scO H sz ep n (.sub id ep n i.toNat j.toNat) H[id]? else none) else none) else none := by
 simp only[rX,aLq,gx,bound,idx]
 by_cases h1:0≤i
 · rw[if_pos h1,if_pos h1,aLq]
   by_cases h0:i≤j
   · rw[if_pos h0,if_pos (by omega),aLq,scR,if_pos (by omega)]
     by_cases h2:j≤n
     · rw[if_pos h2,if_pos (by omega)]
     · rw[if_neg h2,if_neg (by omega)]
   · rw[if_neg h0]
     by_cases h2:0≤j
     · rw[if_pos h2,aLq,scR,if_neg (by omega)]
     · rw[if_neg h2];rfl
 · rw[if_neg h1,if_neg h1];rfl
@[go_sem] theorem HM : rX H sz (some .nil) (some none) (some (some i)) = if i = 0 then some (.nil, H) else none := by
 simp only[rX,aLq,gx,bound,idx]
 by_cases h1:0≤i
 · rw[if_pos h1,aLq]
   by_cases h2:i=0
   · rw[if_pos h2,if_pos (by omega)];rfl
   · rw[if_neg h2,if_neg (by omega)];rfl
 · rw[if_neg h1,if_neg (by omega)];rfl
@[go_sem] theorem HN : rX H sz (some .nil) (some (some i)) (some none) = if i = 0 then some (.nil, H) else none := by
 simp only[rX,aLq,gx,bound,idx]
 by_cases h1:0≤i
 · rw[if_pos h1,aLq]
   by_cases h2:i=0
   · rw[if_pos h2,if_pos (by omega)];rfl
   · rw[if_neg h2,if_neg (by omega)];rfl
 · rw[if_neg h1,if_neg (by omega)];rfl
def ue(x:D)(ys:List D):Option (D×ae):=if bj sz ys=true then(match x with
 | .nil=>if ys.length≤4294967296 then some (.ref H.length 0 ys.length,H++[.arr sz false 0 ys])else none
 | .ref id ep n=>mZ H sz id ep n ys H[id]?
 | .cl es=>if 0<ys.length∧es.length+ys.length≤lim∧bj sz (es.map .t)=true then some (.ref H.length 0 (es.map D.t++ys).length,H++[.arr sz false 0 (es.map .t++ys)])else none
 | _=>none)else none
@[go_sem] theorem Sc (ys : List D) : ue H sz .nil ys = if bj sz ys = true then (if ys.length ≤ 4294967296 then some (.ref H.length 0 ys.length, H ++ [.arr sz false 0 ys]) else none) else none := (rfl)
@[go_sem] theorem Sd (ys : List D) : ue H sz (.ref id ep n) ys = if bj sz ys = true then mZ H sz id ep n ys H[id]? else none := (rfl)
@[go_sem] theorem Vl (es : List T) (ys : List D) : ue H sz (.cl es) ys = if bj sz ys = true then (if 0 < ys.length ∧ es.length + ys.length ≤ 4294967296 ∧ bj sz (es.map .t) = true then some (.ref H.length 0 (es.map D.t ++ ys).length, H ++ [.arr sz false 0 (es.map .t ++ ys)]) else none) else none := (rfl)
@[go_sem] theorem D2 : bj sz [] = true := (rfl)
@[go_sem] theorem Cq (d : D) (r : List D) : bj sz (d :: r) = gF sz d.cells := by
 rw[Bool.eq_iff_iff,cU];simp[bj]
def Pc(x:D):Option Obj→Option (D×ae)
 | some (.arr _ _ ep' es)=>if ep=ep'∧n=es.length then ue H sz x ((es.drop lo).take (hi-lo))else none
 | _=>none
def Pd(x:D):Option Obj→Option (D×ae)
 | some (.arr _ _ ep' es)=>if ep=ep'∧n=es.length then ue H sz x es else none
 | _=>none
@[go_sem] theorem Se (x : D) (sz' : Nat) (pin : Bool) (es : List D) : Pc H sz ep n lo hi x (some (.arr sz' pin ep es)) = if n = es.length then ue H sz x ((es.drop lo).take (hi - lo)) else none := by simp [Pc]
@[go_sem] theorem Sf (x : D) (sz' : Nat) (pin : Bool) (es : List D) : Pd H sz ep n x (some (.arr sz' pin ep es)) = if n = es.length then ue H sz x es else none := by simp [Pd]
theorem zA(x:D)(ys:List D):(if bj sz ys=true then(match x with
 | .nil=>if ys.length≤lim then some (D.ref H.length 0 ys.length,H++[.arr sz false 0 ys])else none
 | .ref id ep n=>(cQ H id ep n).bind fun a=>if a.1=sz∧n+ys.length≤lim then some (.ref id ep (n+ys.length),H.set id (.arr sz a.2.1 ep (a.2.2++ys)))else none
 | .cl es=>if 0<ys.length∧es.length+ys.length≤lim∧bj sz (es.map .t)=true then some (.ref H.length 0 (es.map D.t++ys).length,H++[.arr sz false 0 (es.map .t++ys)])else none
 | _=>none)else none)=ue H sz x ys:=by
 unfold ue
 split
 · cases x with
   | ref id ep n=>
     simp only[cQ]
     generalize H[id]?=o
     rcases o with _ | (_ | ⟨sz',pin,ep',es⟩)
     · rfl
     · rfl
     · simp only[mZ]
       by_cases h1:ep=ep'∧n=es.length
       · rw[if_pos h1,aLq]
         by_cases h2:sz'=sz∧n+ys.length≤lim
         · rw[if_pos h2,if_pos ⟨h1.1,h1.2,h2⟩]
         · rw[if_neg h2,if_neg fun h=>h2 h.2.2]
       · rw[if_neg h1,if_neg fun h=>h1 ⟨h.1,h.2.1⟩];rfl
   | _=>rfl
 · rfl
theorem mE(x y:D)(ys:List D)(h:elems H y=some ys):iC H sz false (some x) (some y)=ue H sz x ys:=by
 simp only[iC,aLq,fT,h,aLt,if_false]
 exact zA H sz x ys
@[go_sem] theorem AX (x : D) : iC H sz false (some x) (some .nil) = ue H sz x [] := mE H sz x .nil [] rfl
@[go_sem] theorem AY (x : D) : iC H sz false (some x) (some (.ref id ep n)) = Pd H sz ep n x H[id]? := by
 cases he:elems H (.ref id ep n)with
 | some ys=>
   rw[mE H sz x _ ys he]
   simp only[elems,cQ]at he
   generalize H[id]?=o at he
   rcases o with _ | (_ | ⟨sz',pin,ep',es⟩)
   · cases he
   · cases he
   · simp only[Pd]
     by_cases h1:ep=ep'∧n=es.length
     · simp only[if_pos h1]at he ⊢;cases he;rfl
     · simp only[if_neg h1]at he;cases he
 | none=>
   have:iC H sz false (some x) (some (.ref id ep n))=none:=by simp only[iC,aLq,fT,he];rfl
   rw[this]
   simp only[elems,cQ]at he
   generalize H[id]?=o at he
   rcases o with _ | (_ | ⟨sz',pin,ep',es⟩)
   · rfl
   · rfl
   · simp only[Pd]
     by_cases h1:ep=ep'∧n=es.length
     · simp only[if_pos h1]at he;cases he
     · simp only[if_neg h1]
@[go_sem] theorem AZ (x : D) : iC H sz false (some x) (some (.sub id ep n lo hi)) = Pc H sz ep n lo hi x H[id]? := by
 cases he:elems H (.sub id ep n lo hi)with
 | some ys=>
   rw[mE H sz x _ ys he]
   simp only[elems,cQ]at he
   generalize H[id]?=o at he
   rcases o with _ | (_ | ⟨sz',pin,ep',es⟩)
   · cases he
   · cases he
   · simp only[Pc]
     by_cases h1:ep=ep'∧n=es.length
     · simp only[if_pos h1]at he ⊢;cases he;rfl
     · simp only[if_neg h1]at he;cases he
 | none=>
   have:iC H sz false (some x) (some (.sub id ep n lo hi))=none:=by simp only[iC,aLq,fT,he];rfl
   rw[this]
   simp only[elems,cQ]at he
   generalize H[id]?=o at he
   rcases o with _ | (_ | ⟨sz',pin,ep',es⟩)
   · rfl
   · rfl
   · simp only[Pc]
     by_cases h1:ep=ep'∧n=es.length
     · simp only[if_pos h1]at he;cases he
     · simp only[if_neg h1]
def Lk(ep n lo hi:Nat):Option Obj→Option (List D)
 | some (.arr _ _ ep' es)=>if ep=ep'∧n=es.length then some ((es.drop lo).take (hi-lo))else none
 | _=>none
def Sg(x:D):Option (List D)→Option (D×ae)
 | some ys0=>(aY (fun d=>(frz H depth d).map .t) ys0).bind fun ys=>if bj sz ys then ue (pins H (ys0.flatMap (cB H depth))) sz x ys else none
 | none=>none
@[go_sem] theorem WU (x : D) (ts : List T) : Sg H sz x (some (ts.map .t)) = ue H sz x (ts.map .t) := by
 simp only[Sg,lz,aLq,vl,pins]
 by_cases h:bj sz (ts.map D.t)=true
 · rw[if_pos h]
 · rw[if_neg h];unfold ue;rw[if_neg h]
@[go_sem] theorem Cr (x : D) : iC H sz true (some x) (some (.sub id ep n lo hi)) = Sg H sz x (Lk ep n lo hi H[id]?) := by
 have e:elems H (.sub id ep n lo hi)=Lk ep n lo hi H[id]?:=by
  simp only[elems,cQ]
  generalize H[id]?=o
  rcases o with _ | (_ | ⟨sz',pin,ep',es⟩)
  · rfl
  · rfl
  · simp only[Lk]
    by_cases h1:ep=ep'∧n=es.length
    · simp only[if_pos h1];rfl
    · simp only[if_neg h1];rfl
 simp only[iC,aLq,fT,e]
 cases Lk ep n lo hi H[id]? with
 | none=>rfl
 | some ys0=>
   simp only[aLq,Sg,if_true]
   cases hm:aY (fun d=>(frz H depth d).map D.t) ys0 with
   | none=>rfl
   | some ys=>
     simp only[aLq]
     refine(zA _ _ _ _).trans ?_
     by_cases h:bj sz ys=true
     · rw[if_pos h]
     · rw[if_neg h];unfold ue;rw[if_neg h]
@[go_sem] theorem Si (ep n lo hi sz : Nat) (pin : Bool) (ts : List T) : Lk ep n lo hi (some (.arr sz pin ep (ts.map .t))) = if n = ts.length then some (((ts.drop lo).take (hi - lo)).map .t) else none := by
 simp only[Lk,true_and,List.length_map,List.map_take,List.map_drop]
def zB(ds:List D):Option (D×ae):=if ds.all (fun d=>d.cells.length==sz&&d.dK)then some (.ref H.length 0 ds.length,H++[.arr sz false 0 ds])else none
@[go_sem] theorem WW (call : av) (get : X → Option D) (xs : List X) : evO call get H (.bsr xs sz) = (aY get xs).bind (zB H sz) := (rfl)
@[go_sem] theorem Pe : zB H sz [] = some (.ref H.length 0 0, H ++ [.arr sz false 0 []]) := (rfl)
@[go_sem] theorem Pf (k : IntKind) (n : Int) : zB H 1 [.t (.int k n)] = some (.ref H.length 0 1, H ++ [.arr 1 false 0 [.t (.int k n)]]) := (rfl)
@[go_sem] theorem Pg (cs : List D) : zB H sz [.agg cs] = if gF sz cs = true then some (.ref H.length 0 1, H ++ [.arr sz false 0 [.agg cs]]) else none := by
 simp only[zB,List.all_cons,List.all_nil,Bool.and_true,D.cells,D.dK]
 by_cases h:gF sz cs=true
 · rw[if_pos h,if_pos (by simpa using cU.1 h)];rfl
 · rw[if_neg h,if_neg (by intro e;exact h (cU.2 (by simpa using e)))]
end
@[go_sem] theorem D3 : (1 : Int).toNat = 1 := (rfl)
@[go_sem] theorem HO : (2 : Int).toNat = 2 := (rfl)
@[go_sem] theorem Cs : (3 : Int).toNat = 3 := (rfl)
section
variable {H t : ae} {i j k : Nat} {o o' : Obj}
theorem m9(h:i<H.length):(H++t)[i]?=H[i]?:=aLg h
theorem xe(h:i<H.length):(H.set i o)[i]?=some o:=by simp[h]
theorem jl(h:i≠j):(H.set i o)[j]?=H[j]?:=aLi h
theorem qM(h:H[i]?=some o):i<H.length:=(aLe.1 h).1
end
end Go.Ev
namespace Go.Ev.N
def zC:Nat:=123
def xT:Nat:=124
def A0:Nat:=125
def zD:Nat:=126
def HP:Nat:=127
def HQ:Nat:=128
def HR:Nat:=129
def Ll:Nat:=130
def Lm:Nat:=131
def HT:Nat:=132
def HU:Nat:=133
def Ct:Nat:=134
def Cu:Nat:=135
def Ln:Nat:=136
def HV:Nat:=137
def Cv:Nat:=138
def D4:Nat:=139
def A1:Nat:=140
def D5:Nat:=141
def Cw:Nat:=142
def zE:Nat:=143
def zF:Nat:=144
def zG:Nat:=145
def D6:Nat:=146
def D7:Nat:=147
def xf:Nat:=148
end Go.Ev.N
namespace Go.Ev.N
def vQ:Nat:=149
def zH:Nat:=150
def zI:Nat:=151
def xU:Nat:=152
def HW:Nat:=153
def HX:Nat:=154
def D8:Nat:=155
def D9:Nat:=156
def HY:Nat:=157
def Lo:Nat:=158
def HZ:Nat:=159
def aG:Nat:=160
def vR:Nat:=161
def H3:Nat:=162
def Lp:Nat:=163
def Ea:Nat:=164
def Lq:Nat:=165
def Eb:Nat:=166
def cP:Nat:=167
def jV:Nat:=168
def Cx:Nat:=169
def bS:Nat:=170
def xg:Nat:=171
def Cy:Nat:=172
def dC:Nat:=173
def kI:Nat:=174
def zJ:Nat:=175
def bH:Nat:=176
def cH:Nat:=177
end Go.Ev.N
namespace Go.Ev.K
open Go.Ev
def bI:C:= (.seq (.ite [m v6,m v5,u (.ln l0),u (.bin .lss l2 l0)] [] 0 .skip (.exit 0)) (.blk 1 (.reg [m v6,m v5,m v6,u (.sc l1 (some l0) none 1),m v5,m v6,u (.sc l1 none (some l0) 1),u (.cp l3 l0 1),u (.bin .add l7 l0),x 6 l0] [])))
def eu:C:= .loop true [0,1,2,3,4] K.bI
def aG:Fn:= { bK:=2,vars:=[0,1,4,5,6,7,8],body:=(q [w 2 (.mv (.c (.nil)))] [] (.seq (.ite [m v1,u (.bin .lss l0 (.i 0))] [] 0 .fail .skip) (q [m v0,u (.ln l0),u (.cv .u64 l0),m v1,u (.cv .u64 l0),u (.ca N.bS 0 [] [.l 2,.l 0]),m l0,u (.ex l0 0),u (.ex l1 1),x 3 l1,x 4 l1] [] (.seq (.ite [m v3,u (.bin .gtr l0 (.c (.t (.int .u64 (0))))),m l0,e 0 false v4,y 1 false (.bin .gtr l0 (.c (.t (.int .u64 (9223372036854775807))))),u (.pk l2 (.b true) l0)] [] 0 .fail .skip) (q [m v4,u (.cv .i64 l0),u (.mk l0 (z0) 1),x 5 l0] [] (q [m v5,m v0,u (.cp l1 l0 1),x 6 l0] [] (.seq (.blk 0 K.eu) (q [m v5,x 2 l0] [] .ret)))))))),res:=[(2,none)]}
def cP:Fn:= { bK:=1,vars:=[0,1,2],body:=(q [w 1 (.bx v0 2),x 2 (.b false)] [] (q [h 2 v1,u (.ca N.dC 0 [] [.l 0]),u (.bin .eql l0 (.i 0)),x 2 l0] [] .ret)),res:=[(2,none)]}
def bS:Fn:= { bK:=2,vars:=[0,1,4,5,8,9],body:=(q [w 2 (.mv (.c (.t (.int .u64 (0))))),w 3 (.mv (.c (.t (.int .u64 (0)))))] [] (.seq (.cnd false .skip) (q [m v0,m v1,u (.ca N.bH 0 [] [.l 1,.l 0]),m l0,u (.ex l0 0),u (.ex l1 1),x 4 l1,x 5 l1] [] (q [m v4,m v5,x 2 l1,x 3 l1] [] .ret)))),res:=[(2,none),(3,none)]}
end Go.Ev.K
namespace Go.Ev
class b5 [Lib]:Prop where
 dm:Lib.fs N.aG=some K.aG
 jm:Lib.fs N.cP=some K.cP
 ga:Lib.fs N.bS=some K.bS
namespace K
variable [Lib] [b5]
theorem dm:Lib.fs N.aG=some K.aG:=b5.dm
theorem jm:Lib.fs N.cP=some K.cP:=b5.jm
theorem ga:Lib.fs N.bS=some K.bS:=b5.ga
end K
end Go.Ev
namespace Go.Ev.K
open Go.Ev
def gL:C:= (.its [u (.bin .lss v8 v7)] [] 0 .skip (.exit 0) (.seq (.blk 1 (q [a 2 v6 v8,h 2 l0,w 3 (.al [z0,z1] []),u (.st l0 l1 2 [])] [] (.ite [f 0 v3,g l0,u (.bin .lss l0 (.i (-10000))),m l0,y 0 false (.fa v3 0),i 1 false l0,y 2 false (.bin .gtr l0 (.i 10000)),u (.pk l3 (.b true) l0)] [] 0 (q [x 2 (.i 1)] [] .ret) .skip))) (.reg [u (.bin .add v8 (.i 1)),x 8 l0] [])))
def lF:C:= .loop true [0,2,3,4,5,9,10,11] K.gL
def gM:C:= (.its [u (.bin .lss v11 v10)] [] 0 .skip (.exit 2) (.seq (.blk 3 (q [a 10 v9 v11,h 10 l0,w 5 (.al [z0,z0,z0,z0,z1,z1,z0,z0,z0,z0] []),u (.st l0 l1 10 [])] [] (.seq (.ite [f 0 v5,g l0,u (.bin .lss l0 (.i 0)),m l0,y 0 false (.fa v5 0),i 1 false l0,e 2 false v4,y 3 false (.bin .geq l1 l0),u (.pk l4 (.b true) l0),m l0,y 0 false (.fa v5 1),i 1 false l0,y 2 false (.bin .lss l0 (.i 0)),u (.pk l3 (.b true) l0),m l0,y 0 false (.fa v5 1),i 1 false l0,e 2 false v4,y 3 false (.bin .geq l1 l0),u (.pk l4 (.b true) l0),m l0,y 0 false (.fa v5 0),i 1 false l0,y 2 false (.fa v5 1),i 3 false l0,y 4 false (.bin .eql l2 l0),u (.pk l5 (.b true) l0)] [] 0 (q [x 2 (.i 4)] [] .ret) .skip) (.seq (.ite [f 2 v5,g l0,u (.bin .lss l0 (.i 1)),m l0,y 0 false (.fa v5 2),i 1 false l0,y 2 false (.bin .gtr l0 (.i 100000)),u (.pk l3 (.b true) l0),m l0,y 0 false (.fa v5 3),i 1 false l0,y 2 false (.bin .lss l0 (.i 1)),u (.pk l3 (.b true) l0),m l0,y 0 false (.fa v5 3),i 1 false l0,y 2 false (.bin .gtr l0 (.i 1000)),u (.pk l3 (.b true) l0)] [] 0 (q [x 2 (.i 1)] [] .ret) .skip) (.ite [f 6 v5,h 2 l0,u (.ca N.cH 0 [] [.l 0,.i 1,.i 262144]),u (.un .not l0),m l0,y 0 false (.fa v5 8),y 1 false (.ld l0 2 true),y 2 false (.ca N.cH 0 [] [.l 0,.i (-2199023255552),.i 2199023255552]),y 3 false (.un .not l0),u (.pk l4 (.b true) l0)] [] 0 (q [x 2 (.i 1)] [] .ret) .skip))))) (.reg [u (.bin .add v11 (.i 1)),x 11 l0] [])))
def lG:C:= .loop true [0,1,2,3,5,6,7,8] K.gM
def dC:Fn:= { bK:=1,vars:=[0,1,2,4,5,7,19,20,21,38,39,40],body:=(q [w 1 (.bx v0 2),x 2 (.i 0)] [] (.seq (.ite [f 0 v1,g l0,u (.ln l0),u (.bin .gtr l0 (.i 64)),m l0,y 0 false (.fa v1 1),i 1 false l0,y 2 false (.ln l0),y 3 false (.bin .gtr l0 (.i 128)),u (.pk l4 (.b true) l0)] [] 0 (q [x 2 (.i 2)] [] .ret) .skip) (.seq (q [f 0 v1,w 6 (.ld l0 1 false),w 7 (.ln l0),x 8 (.i 0)] [] (.blk 0 K.lF)) (q [f 0 v1,g l0,u (.ln l0),x 4 l0] [] (.seq (q [f 1 v1,w 9 (.ld l0 1 false),w 10 (.ln l0),x 11 (.i 0)] [] (.blk 2 K.lG)) (q [x 2 (.i 0)] [] .ret)))))),res:=[(2,none)]}
def bH:Fn:= { bK:=2,vars:=[0,1,4,5,6,7,8,9,10,11,12,13],body:=(q [w 2 (.mv (.c (.t (.int .u64 (0))))),w 3 (.mv (.c (.t (.int .u64 (0)))))] [] (q [m v0,u (.bin .and l0 (.c (.t (.int .u64 (4294967295))))),x 4 l0] [] (q [m v0,u (.bin .shr l0 (.c (.t (.int .u64 (32))))),x 5 l0] [] (q [m v1,u (.bin .and l0 (.c (.t (.int .u64 (4294967295))))),x 6 l0] [] (q [m v1,u (.bin .shr l0 (.c (.t (.int .u64 (32))))),x 7 l0] [] (q [m v4,m v6,u (.bin .mul l1 l0),x 8 l0] [] (q [m v5,m v6,u (.bin .mul l1 l0),m v8,u (.bin .shr l0 (.c (.t (.int .u64 (32))))),u (.bin .add l2 l0),x 9 l0] [] (q [m v9,u (.bin .and l0 (.c (.t (.int .u64 (4294967295))))),x 10 l0] [] (q [m v9,u (.bin .shr l0 (.c (.t (.int .u64 (32))))),x 11 l0] [] (q [m v10,m v4,m v7,u (.bin .mul l1 l0),u (.bin .add l3 l0),x 10 l0] [] (q [m v5,m v7,u (.bin .mul l1 l0),m v11,u (.bin .add l1 l0),m v10,u (.bin .shr l0 (.c (.t (.int .u64 (32))))),u (.bin .add l2 l0),x 2 l0] [] (q [m v0,m v1,u (.bin .mul l1 l0),x 3 l0] [] .ret)))))))))))),res:=[(2,none),(3,none)]}
def cH:Fn:= { bK:=3,vars:=[0,1,2,3,6],body:=(q [w 3 (.bx v0 2),x 4 (.b false)] [] (q [m v1,f 0 v3,g l0,u (.bin .leq l2 l0),m l0,y 0 true (.fa v3 0),i 1 true l0,y 2 true (.fa v3 1),i 3 true l0,y 4 true (.bin .leq l2 l0),u (.pk l5 l0 (.b false)),m l0,y 0 true (.fa v3 1),i 1 true l0,e 2 true v2,y 3 true (.bin .leq l1 l0),u (.pk l4 l0 (.b false)),x 4 l0] [] .ret)),res:=[(4,none)]}
end Go.Ev.K
namespace Go.Ev
class b6 [Lib]:Prop where
 jn:Lib.fs N.dC=some K.dC
 fk:Lib.fs N.bH=some K.bH
 iI:Lib.fs N.cH=some K.cH
namespace K
variable [Lib] [b6]
theorem jn:Lib.fs N.dC=some K.dC:=b6.jn
theorem fk:Lib.fs N.bH=some K.bH:=b6.fk
theorem iI:Lib.fs N.cH=some K.cH:=b6.iI
end K
end Go.Ev
namespace Go.Ev
open Go
variable [Lib] [aR] [aS] [b5] [b6]
section
variable (H : ae) (sz : Nat)
def Ec(id ep n lo hi:Nat)(ys:List D):Option Obj→Option (D×ae)
 | some (.arr sz' pin ep' es)=>if ep=ep'∧n=es.length then EW H id ep (sz',pin,es) lo hi ys sz else none
 | _=>none
def cpD(x:D)(ys:List D):Option (D×ae):=if bj sz ys=true then(match x with
 | .ref id ep n=>Ec H sz id ep n 0 n ys H[id]?
 | .sub id ep n lo hi=>Ec H sz id ep n lo hi ys H[id]?
 | _=>none)else none
def Sj(x y:Option D):Option (D×ae):=x.bind fun a=>y.bind fun b=>qh H a b sz
@[go_sem] theorem X3 (call : av) (get : X → Option D) (x y : X) : evO call get H (.cp x y sz) = Sj H sz (get x) (get y) := (rfl)
theorem vS(x y:D)(ys:List D)(h:elems H y=some ys):qh H x y sz=cpD H sz x ys:=by
 unfold qh cpD
 rw[h,aLq]
 split
 · rename_i hh
   cases x with
   | ref id ep n=>
     simp only[cQ,Ec]
     cases H[id]? with
     | none=>rfl
     | some o=>
       cases o with
       | box cs=>rfl
       | arr sz' pin ep' es=>
         simp only
         by_cases c:ep=ep'∧n=es.length
         · rw[if_pos c,if_pos c];rfl
         · rw[if_neg c,if_neg c];rfl
   | sub id ep n lo hi=>
     simp only[cQ,Ec]
     cases H[id]? with
     | none=>rfl
     | some o=>
       cases o with
       | box cs=>rfl
       | arr sz' pin ep' es=>
         simp only
         by_cases c:ep=ep'∧n=es.length
         · rw[if_pos c,if_pos c];rfl
         · rw[if_neg c,if_neg c];rfl
   | _=>rfl
 · rfl
@[go_sem] theorem WX (x : D) (ts : List T) : Sj H sz (some x) (some (.t (.sl ts))) = cpD H sz x (ts.map .t) := vS H sz x (.t (.sl ts)) (ts.map .t) rfl
def cpE(x:D)(ep n lo hi:Nat):Option Obj→Option (D×ae)
 | some (.arr _ _ ep' es)=>if ep=ep'∧n=es.length then cpD H sz x ((es.drop lo).take (hi-lo))else none
 | _=>none
@[go_sem] theorem Vm (x : D) (n lo hi sz' : Nat) (pin : Bool) (ep : Nat) (es : List D) : cpE H sz x ep n lo hi (some (.arr sz' pin ep es)) = if n = es.length then cpD H sz x ((es.drop lo).take (hi - lo)) else none := by simp [cpE]
@[go_sem] theorem Sk (x : D) (id ep n lo hi : Nat) : Sj H sz (some x) (some (.sub id ep n lo hi)) = cpE H sz x ep n lo hi H[id]? := by
 unfold Sj
 simp only[aLq]
 cases h:H[id]? with
 | none=>simp[qh,elems,cQ,h,cpE]
 | some o=>
   cases o with
   | box cs=>simp[qh,elems,cQ,h,cpE]
   | arr sz' pin ep' es=>
     by_cases c:ep=ep'∧n=es.length
     · rw[vS H sz x _ ((es.drop lo).take (hi-lo)) (by simp[elems,cQ,h,c])]
       simp only[cpE,if_pos c]
     · simp[qh,elems,cQ,h,cpE,c]
@[go_sem] theorem Vn (id ep n : Nat) (ys : List D) : cpD H sz (.ref id ep n) ys = if bj sz ys = true then Ec H sz id ep n 0 n ys H[id]? else none := (rfl)
@[go_sem] theorem Vo (id ep n lo hi : Nat) (ys : List D) : cpD H sz (.sub id ep n lo hi) ys = if bj sz ys = true then Ec H sz id ep n lo hi ys H[id]? else none := (rfl)
@[go_sem] theorem Sl (id n lo hi : Nat) (ys : List D) (ep : Nat) (es : List D) : Ec H sz id ep n lo hi ys (some (.arr sz false ep es)) =
 if n=es.length then(if min ys.length (hi-lo)=0 then some (.t (.int .i64 0),H)else some (.t (.int .i64 ((min ys.length (hi-lo):Nat):Int)),H.set id (.arr sz false ep (es.take lo++ys.take (min ys.length (hi-lo))++es.drop (lo+min ys.length (hi-lo))))))else none:=by
 simp[Ec,EW]
end
theorem Cz{n:Int}(h1:0≤n)(h2:n<18446744073709551616):IntKind.u64.wrap n=n:=by
 have e:IntKind.u64.wrap n=n % 18446744073709551616:=by simp[IntKind.wrap,IntKind.signed,IntKind.bits]
 rw[e];omega
theorem Ph{n:Nat}(h:n<4294967296):IntKind.u64.wrap ((BitVec.ofInt IntKind.u64.bits (n:Int) &&& BitVec.ofInt IntKind.u64.bits 4294967295).toNat:Nat)=(n:Int):=by
 have e:(BitVec.ofInt IntKind.u64.bits (n:Int) &&& BitVec.ofInt IntKind.u64.bits 4294967295).toNat=n:=by
  rw[BitVec.toNat_and]
  have a:(BitVec.ofInt IntKind.u64.bits (n:Int)).toNat=n:=by
   rw[BitVec.ofInt_natCast,BitVec.toNat_ofNat]
   exact Nat.mod_eq_of_lt (Nat.lt_of_lt_of_le h (by decide))
  have b:(BitVec.ofInt IntKind.u64.bits 4294967295).toNat=2 ^ 32-1:=by decide
  rw[a,b,Nat.and_two_pow_sub_one_eq_mod]
  exact Nat.mod_eq_of_lt h
 rw[e]
 exact Cz (by omega) (by omega)
theorem Pj{n:Nat}(h:n<4294967296):(n:Int).fdiv (2 ^ min (32:Int).toNat IntKind.u64.bits)=0:=by
 have e:(2 ^ min (32:Int).toNat IntKind.u64.bits:Int)=4294967296:=by decide
 rw[e,Int.fdiv_eq_ediv_of_nonneg _ (by omega)]
 omega
theorem Ed{n:Nat}(h:n<4294967296):(((BitVec.ofInt IntKind.u64.bits (n:Int) &&& BitVec.ofInt IntKind.u64.bits 4294967295).toNat:Nat):Int)=(n:Int):=by
 have e:=Ph h
 rwa [Cz (by omega) (by
  have:(BitVec.ofInt IntKind.u64.bits (n:Int) &&& BitVec.ofInt IntKind.u64.bits 4294967295).toNat<2 ^ IntKind.u64.bits:=BitVec.isLt _
  have:2 ^ IntKind.u64.bits=18446744073709551616:=by decide
  omega)]at e
theorem CA(a b:Nat)(ha:a<4294967296)(hb:b<4294967296)(h:a*b<4294967296):bM 0 N.bH [.t (.int .u64 a),.t (.int .u64 b)] []=some (.tup [.t (.int .u64 0),.t (.int .u64 ((a*b:Nat):Int))],[]):=by
 refine aQ K.fk rfl ?_
 have m:(a:Int)*(b:Int)=((a*b:Nat):Int):=(Int.natCast_mul a b).symm
 have z:=Ph (n:=0) (by omega)
 have z2:=Pj (n:=0) (by omega)
 have z3:=Ed (n:=0) (by omega)
 have g3:=fun(n:Nat) (h:n<4294967296)=>Ed (n:=n) h
 have g4:=fun(n:Nat) (h:n<4294967296)=>Pj (n:=n) h
 simp only[Int.ofNat_zero,Int.natCast_zero]at z z2 z3
 simp only[go_sem]at z2 z3 g3 g4
 simp(disch:=omega)only[go_sem,K.bH,↓reduceIte,g3,g4,m,z2,z3,Cz,Int.zero_mul,Int.mul_zero,Int.add_zero,Int.zero_add,reduceAdd,reduceSub]
theorem Pk(a b:Nat)(ha:a<4294967296)(hb:b<4294967296)(h:a*b<4294967296):bM 0 N.bS [.t (.int .u64 a),.t (.int .u64 b)] []=some (.tup [.t (.int .u64 0),.t (.int .u64 ((a*b:Nat):Int))],[]):=by
 refine aQ K.ga rfl ?_
 have m:=CA a b ha hb h
 simp(disch:=omega)only[go_sem,K.bS,↓reduceIte,m,reduceAdd,reduceSub]
def nQ(v:Int)(n cur:Nat):List D:=List.replicate cur (I v)++List.replicate (n-cur) (I 0)
theorem vT(v:Int){n cur:Nat}(h:cur≤n):(nQ v n cur).length=n:=by simp[nQ];omega
theorem zK(v:Int){n cur m:Nat}(h:cur+m≤n)(hm:m≤cur):(nQ v n cur).take cur++((nQ v n cur).take cur).take m++(nQ v n cur).drop (cur+m)=nQ v n (cur+m):=by
 unfold nQ
 have e1:(List.replicate cur (I v)++List.replicate (n-cur) (I 0)).take cur=List.replicate cur (I v):=by
  rw[List.take_append_of_le_length (by simp),List.take_of_length_le (by simp)]
 have e2:(List.replicate cur (I v)++List.replicate (n-cur) (I 0)).drop (cur+m)=List.replicate (n-(cur+m)) (I 0):=by
  rw[List.drop_append,List.length_replicate]
  simp;omega
 rw[e1,e2,List.take_replicate,Nat.min_eq_left hm,List.replicate_append_replicate]
theorem Pl(v:Int)(n cur:Nat):∃ts:List T,nQ v n cur=ts.map .t:=⟨List.replicate cur (tI v)++List.replicate (n-cur) (tI 0),by simp[nQ]⟩
theorem sx(v:Int)(n cur:Nat)(lo k:Nat):bj 1 (((nQ v n cur).drop lo).take k)=true:=by
 cases h:((nQ v n cur).drop lo).take k with
 | nil=>rfl
 | cons d r=>
   have hm:d∈nQ v n cur:=List.mem_of_mem_drop (List.mem_of_mem_take (h▸List.mem_cons_self))
   unfold nQ at hm
   simp only[List.mem_append,List.mem_replicate]at hm
   rcases hm with⟨-,rfl⟩ | ⟨-,rfl⟩<;>rfl
theorem uf(v:Int)(n:Nat)(hn:n≤1000000):∀(k cur:Nat),n-cur≤k→1≤cur→cur≤n→
 iQ true [0,1,2,3,4] (exS bM K.bI) ⟨[.und,.und,.und,.und,.und,.ref 0 0 n,I cur],[.arr 1 false 0 (nQ v n cur)]⟩=
  some (.exit 0,⟨[.und,.und,.und,.und,.und,.ref 0 0 n,I n],[.arr 1 false 0 (nQ v n n)]⟩):=by
 intro k
 induction k with
 | zero=>
   intro cur h1 h2 h3
   have:cur=n:=by omega
   subst this
   refine en ?_ (by simp)
   have rl:=vT v (aLs cur)
   simp(disch:=omega)only[go_sem,K.bI,↓reduceIte,reduceAdd,reduceSub]
 | succ k ih=>
   intro cur h1 h2 h3
   by_cases c:cur=n
   · subst c
     refine en ?_ (by simp)
     simp(disch:=omega)only[go_sem,K.bI,↓reduceIte,reduceAdd,reduceSub]
   · have rl:=vT v (n:=n) (cur:=cur) (by omega)
     have st:=zK v (n:=n) (cur:=cur) (m:=min cur (n-cur)) (by omega) (by omega)
     have hs:=sx v n cur 0 cur
     rw[List.drop_zero]at hs
     have tl:((nQ v n cur).take cur).length=cur:=by rw[List.length_take];omega
     refine mw (st2:=⟨[.und,.und,.und,.und,.und,.ref 0 0 n,I ((cur+min cur (n-cur):Nat):Int)],[.arr 1 false 0 (nQ v n (cur+min cur (n-cur)))]⟩) ?_ (ih _ (by omega) (by omega) (by omega))
     rw[← st]
     obtain⟨ts,hts⟩:=Pl v n cur
     have ao:∀a b c:Nat,cK 1 8 ((nQ v n cur).take a)=true∧cK 1 8 (((nQ v n cur).take a).take b)=true∧cK 1 8 ((nQ v n cur).drop c)=true:=fun a b c=>by
      rw[hts,←List.map_take,←List.map_take,←List.map_drop]
      simp only[go_sem,and_self]
     have ao1:=fun a=>(ao a 0 0).1
     have ao2:=fun a b=>(ao a b 0).2.1
     have ao3:=fun c=>(ao 0 0 c).2.2
     clear ao hts
     generalize nQ v n cur=es at*
     simp(disch:=omega)only[go_sem,K.bI,↓reduceIte,rl,hs,tl,ao1,ao2,ao3,and_self,List.drop_zero,Nat.sub_zero,reduceAdd,reduceSub]
theorem zL(v:Int)(n:Nat)(h1:1≤n)(hn:n≤1000000):bM 1 N.aG [.t (tL [v]),I n] []=some (.ref 0 0 n,[.arr 1 false 0 (List.replicate n (I v))]):=by
 refine aQ K.dm rfl ?_
 have m:=Pk 1 n (by omega) (by omega) (by omega)
 rw[Nat.one_mul]at m
 change bM 0 N.bS [.t (.int .u64 1),.t (.int .u64 n)] []=_ at m
 have w1:IntKind.u64.wrap 1=1:=by decide
 have w2:IntKind.u64.wrap (n:Int)=n:=Cz (by omega) (by omega)
 have w3:IntKind.i64.wrap (n:Int)=n:=jd (by omega) (by omega)
 have lp:=uf v n hn n 1 (by omega) (by omega) h1
 have loop:∀z0 z1 z2 z3 z4:D,exS bM K.eu ⟨[z0,z1,z2,z3,z4,.ref 0 0 n,I 1],[.arr 1 false 0 (I v::List.replicate (n-1) (I 0))]⟩=some (.exit 0,⟨[.und,.und,.und,.und,.und,.ref 0 0 n,I n],[.arr 1 false 0 (List.replicate n (I v))]⟩):=by
  intro z0 z1 z2 z3 z4
  have e1:nQ v n 1=I v::List.replicate (n-1) (I 0):=rfl
  have e2:nQ v n n=List.replicate n (I v):=by simp[nQ]
  rw[e1,e2]at lp
  exact lp
 have dr:(List.replicate n (D.t (.int .i64 0))).drop 1=List.replicate (n-1) (I 0):=List.drop_replicate ..
 have mn:min 1 n=1:=by omega
 have ar:∀H:ae,iR H 8 (List.replicate n (I v))=[]:=fun H=>by
  have e:List.replicate n (I v)=(List.replicate n (tI v)).map D.t:=by simp
  rw[e]
  unfold iR
  exact vl ..
 simp(disch:=omega)only[go_sem,K.aG,↓reduceIte,tL,List.map_cons,List.map_nil,m,w1,w2,w3,loop,dr,mn,ar,List.length_replicate,Nat.sub_zero,List.take_zero,List.nil_append,List.take_succ_cons,Nat.zero_add,reduceAdd,reduceSub]
end Go.Ev
namespace Go.Ev
open Go
variable [Lib] [aR] [aS] [b5] [b6]
theorem sy(a b lo hi:Int)(h1:lo≤a)(h2:a≤b)(h3:b≤hi):bM 0 N.cH [.t (.agg [tI a,tI b]),I lo,I hi] []=some (B true,[]):=by
 refine aQ K.iI rfl ?_
 simp(disch:=omega)only[go_sem,K.cH,↓reduceIte,reduceAdd,reduceSub]
theorem sA{m:aX}(h:m.ok):bM 0 N.dC [.t m.e] []=some (I 0,[]):=by
 refine aQ K.jn rfl ?_
 have np:=h.np
 have nr:=h.nr
 have hs:=h.hs
 have rs:=h.rs
 obtain⟨aa,roads⟩:=m
 simp only at np nr hs rs
 have l1:∀z0 z2 z3 z4 z5 z9 z10 z11:D,exS bM K.lF ⟨[z0,.bp 0 0,z2,z3,z4,z5,.t (.sl (aa.map Place.e)),I aa.length,I 0,z9,z10,z11],[.box (ai ⟨aa,roads⟩)]⟩=
  some (.exit 0,⟨[.und,.bp 0 0,.und,.und,.und,.und,.t (.sl (aa.map Place.e)),I aa.length,I aa.length,.und,.und,.und],[.box (ai ⟨aa,roads⟩)]⟩):=by
  intro z0 z2 z3 z4 z5 z9 z10 z11
  refine eJ (fun j=>⟨[.und,.bp 0 0,.und,.und,.und,.und,.t (.sl (aa.map Place.e)),I aa.length,I j,.und,.und,.und],[.box (ai ⟨aa,roads⟩)]⟩) aa.length rfl ?_ ?_ (by simp)
  · intro j hj
    have g:(aa.map Place.e)[j]?=some (nth aa j).e:=ef _ hj
    have q:=hs _ (bn hj)
    generalize nth aa j=x at*
    obtain⟨hh,sf⟩:=x
    simp only[ai]at*
    simp(disch:=omega)only[go_sem,K.gL,↓reduceIte,g,reduceAdd,reduceSub]
  · simp(disch:=omega)only[go_sem,K.gL,↓reduceIte,ai,reduceAdd,reduceSub]
 have l2:∀z0 z1 z2 z3 z5 z6 z7 z8:D,exS bM K.lG ⟨[z0,z1,z2,z3,I aa.length,z5,z6,z7,z8,.t (.sl (roads.map Road.e)),I roads.length,I 0],[.box (ai ⟨aa,roads⟩)]⟩=
  some (.exit 2,⟨[.und,.und,.und,.und,I aa.length,.und,.und,.und,.und,.t (.sl (roads.map Road.e)),I roads.length,I roads.length],[.box (ai ⟨aa,roads⟩)]⟩):=by
  intro z0 z1 z2 z3 z5 z6 z7 z8
  refine eJ (fun j=>⟨[.und,.und,.und,.und,I aa.length,.und,.und,.und,.und,.t (.sl (roads.map Road.e)),I roads.length,I j],[.box (ai ⟨aa,roads⟩)]⟩) roads.length rfl ?_ ?_ (by simp)
  · intro j hj
    have g:(roads.map Road.e)[j]?=some (nth roads j).e:=ef _ hj
    have q:=rs _ (bn hj)
    generalize nth roads j=x at*
    have f0:=q.f0;have f1:=q.f1;have t0:=q.t0;have t1:=q.t1;have ne:=q.ne;have l0:=q.l0;have l1:=q.l1;have a0:=q.a0;have a1:=q.a1
    have r0:=q.r0;have r1:=q.r1;have r2:=q.r2;have i0:=q.i0;have i1:=q.i1;have i2:=q.i2
    clear q
    obtain⟨frm,to,len,area,walk,closed,rl,rh,ll,lh⟩:=x
    simp only[ai]at*
    have s1:=sy rl rh 1 262144 r0 r1 r2
    have s2:=sy ll lh (-2199023255552) 2199023255552 i0 i1 i2
    simp(disch:=omega)only[go_sem,K.gM,↓reduceIte,g,s1,s2,reduceAdd,reduceSub]
  · simp(disch:=omega)only[go_sem,K.gM,↓reduceIte,ai,reduceAdd,reduceSub]
 simp only[ai]at l1 l2
 simp(disch:=omega)only[go_sem,K.dC,↓reduceIte,l1,l2,reduceAdd,reduceSub]
theorem jo{m:aX}(h:m.ok):bM 0 N.cP [.t m.e] []=some (B true,[]):=by
 refine aQ K.jm rfl ?_
 have c:=sA h
 obtain⟨aa,roads⟩:=m
 simp(disch:=omega)only[go_sem,K.cP,↓reduceIte,c,reduceAdd,reduceSub]
end Go.Ev
namespace Go.Ev.N
def xh:Nat:=178
def xi:Nat:=179
def xV:Nat:=180
def xj:Nat:=181
def xW:Nat:=182
def zM:Nat:=183
def xX:Nat:=184
def H4:Nat:=185
def Ee:Nat:=186
def H5:Nat:=187
def zN:Nat:=188
def H6:Nat:=189
def Ef:Nat:=190
def Eg:Nat:=191
def Lr:Nat:=192
def CB:Nat:=193
def Eh:Nat:=194
def H7:Nat:=195
def Lt:Nat:=196
def Pm:Nat:=197
def A2:Nat:=198
def A3:Nat:=199
def Lu:Nat:=200
def CC:Nat:=201
def sV:Nat:=202
def Ei:Nat:=203
def bq:Nat:=204
def zO:Nat:=205
def H8:Nat:=206
def Ej:Nat:=207
def zP:Nat:=208
def xY:Nat:=209
def zQ:Nat:=210
def Pn:Nat:=211
def Po:Nat:=212
def b8:Nat:=213
def Lv:Nat:=214
end Go.Ev.N
namespace Go.Ev.K
open Go.Ev
end Go.Ev.K
namespace Go.Ev
class cW [Lib]:Prop where
namespace K
variable [Lib] [cW]
end K
end Go.Ev
namespace Go.Ev.K
open Go.Ev
def bq:Fn:= { bK:=1,vars:=[0,2],body:=(q [w 1 (.mv (.c (.nil)))] [] (.itk [m v0,u (.eqk (.sl) false l0 (.c (.nil)))] [] 0 (q [w 1 (.nw 1)] [] .ret) .skip (q [u (.bsr [] 1),m v0,u (.app l1 l0 false 1),x 1 l0] [] .ret))),res:=[(1,none)]}
def b8:Fn:= { bK:=4,vars:=[0,1,2,3,4,7,8,9,10,11],body:=(q [w 4 (.bx v0 2),w 5 (.bx v3 3),x 6 (.i 0)] [] (q [f 1 v4,g l0,m v1,a 10 l1 l0,h 10 l0,w 7 (.al [z0,z0,z0,z0,z1,z1,z0,z0,z0,z0] []),u (.st l0 l1 10 [])] [] (.seq (.ite [f 5 v7,g l0,m l0,y 0 false (.fa v7 4),i 1 false l0,y 2 false (.un .not l0),u (.pk l3 (.b true) l0)] [] 0 (q [w 6 (.mv (.i (-1)))] [] .ret) .skip) (q [f 0 v4,g l0,f 1 v7,g l0,a 2 l2 l0,f 0 l0,g l0,f 0 v4,g l0,f 0 v7,g l0,a 2 l2 l0,f 0 l0,g l0,u (.bin .sub l7 l0),x 8 l0] [] (.seq (.ite [m v2] [] 0 (.reg [m v8,u (.un .neg l0),x 8 l0] []) .skip) (q [f 2 v5,g l0,x 9 l0] [] (.seq (.blk 0 (.ite [m v8,u (.bin .mul (.i 10) l0),f 2 v7,g l0,u (.bin .gtr l2 l0),m l0] [] 0 (.reg [f 0 v5,g l0,x 9 l0] []) (.ite [m v8,u (.bin .mul (.i (-10)) l0),f 2 v7,g l0,u (.bin .gtr l2 l0),m l0] [] 0 (.reg [f 1 v5,g l0,x 9 l0] []) .skip))) (q [f 2 v7,g l0,u (.bin .mul (.i 10) l0),m v9,u (.bin .add l1 l0),u (.bin .sub l0 (.i 1)),m v9,u (.bin .quo l1 l0),x 6 l0] [] .ret)))))))),res:=[(6,none)]}
end Go.Ev.K
namespace Go.Ev
class cN [Lib]:Prop where
 eV:Lib.fs N.bq=some K.bq
 kz:Lib.fs N.b8=some K.b8
namespace K
variable [Lib] [cN]
theorem eV:Lib.fs N.bq=some K.bq:=cN.eV
theorem kz:Lib.fs N.b8=some K.b8:=cN.kz
end K
end Go.Ev
namespace Go.Ev
open Go
variable [Lib] [aR] [aS] [b5] [b6] [cW] [cN]
theorem H9{m:aX}(h:m.ok)(k:Nat)(hk:k<m.roads.length)(back:Bool)(up down level:Int)(hu:1≤up)(hu2:up≤100)(hd:1≤down)(hd2:down≤100)(hl:1≤level)(hl2:level≤100):
 bM 0 N.b8 [.t m.e,I k,B back,.t (.agg [tI up,tI down,tI level])] []=some (I (pn m k back up down level),[]):=by
 refine aQ K.kz rfl ?_
 have nr:=h.nr
 have np:=h.np
 obtain⟨f0,f1,t0,t1, -,l0,l1, -, -, -, -, -, -, -, -⟩:=h.rs _ (bn hk)
 have b1:=h.hs _ (bn (l:=m.aa) (j:=(nth m.roads k).frm.toNat) (by omega))
 have b2:=h.hs _ (bn (l:=m.aa) (j:=(nth m.roads k).to.toNat) (by omega))
 have g:(m.roads.map Road.e)[k]?=some (nth m.roads k).e:=ef _ hk
 have p1:(m.aa.map Place.e)[(nth m.roads k).frm.toNat]?=some (nth m.aa (nth m.roads k).frm.toNat).e:=ef _ (by omega)
 have p2:(m.aa.map Place.e)[(nth m.roads k).to.toNat]?=some (nth m.aa (nth m.roads k).to.toNat).e:=ef _ (by omega)
 have key:∀h1 h2:Int, -10000≤h1→h1≤10000→ -10000≤h2→h2≤10000→IntKind.i64.wrap (h1-h2)=h1-h2∧IntKind.i64.wrap (-(h1-h2))=h2-h1:=fun h1 h2 _ _ _ _=>⟨jd (by omega) (by omega),by rw[jd (by omega) (by omega)];omega⟩
 unfold pn
 generalize nth m.roads k=x at*
 obtain⟨frm,to,len,area,walk,closed,rl,rh,ll,lh⟩:=x
 simp only at f0 f1 t0 t1 l0 l1 b1 b2 p1 p2 ⊢
 cases closed with
 | true=>
   obtain⟨aa,roads⟩:=m
   simp(disch:=omega)only[go_sem,K.b8,↓reduceIte,g,reduceAdd,reduceSub]
 | false=>
   cases walk with
   | false=>
     obtain⟨aa,roads⟩:=m
     simp(disch:=omega)only[go_sem,K.b8,↓reduceIte,g,reduceAdd,reduceSub]
   | true=>
     have g1:=mB (a:=10*len+up-1) (b:=up) (by omega) hu
     have g2:=mB (a:=10*len+down-1) (b:=down) (by omega) hd
     have g3:=mB (a:=10*len+level-1) (b:=level) (by omega) hl
     cases back with
     | true=>
       simp only[↓reduceIte]
       generalize nth m.aa frm.toNat=q1 at*
       generalize nth m.aa to.toNat=q2 at*
       obtain⟨h1,s1⟩:=q1
       obtain⟨h2,s2⟩:=q2
       obtain⟨aa,roads⟩:=m
       simp only at*
       obtain⟨w2,w3⟩:=key h2 h1 (by omega) (by omega) (by omega) (by omega)
       by_cases c2:len< -10*(h1-h2)
       · simp(disch:=omega)only[go_sem,K.b8,↓reduceIte,g,p1,p2,w2,w3,gt_iff_lt,Int.zero_sub,reduceAdd,reduceSub]
       · by_cases c1:len<10*(h1-h2)
         · simp(disch:=omega)only[go_sem,K.b8,↓reduceIte,g,p1,p2,w2,w3,gt_iff_lt,Int.zero_sub,reduceAdd,reduceSub]
         · simp(disch:=omega)only[go_sem,K.b8,↓reduceIte,g,p1,p2,w2,w3,gt_iff_lt,Int.zero_sub,reduceAdd,reduceSub]
     | false=>
       simp only[aLt,↓reduceIte]
       generalize nth m.aa frm.toNat=q1 at*
       generalize nth m.aa to.toNat=q2 at*
       obtain⟨h1,s1⟩:=q1
       obtain⟨h2,s2⟩:=q2
       obtain⟨aa,roads⟩:=m
       simp only at*
       obtain⟨w2,w3⟩:=key h2 h1 (by omega) (by omega) (by omega) (by omega)
       by_cases c2:len< -10*(h2-h1)
       · simp(disch:=omega)only[go_sem,K.b8,↓reduceIte,g,p1,p2,w2,gt_iff_lt,reduceAdd,reduceSub]
       · by_cases c1:len<10*(h2-h1)
         · simp(disch:=omega)only[go_sem,K.b8,↓reduceIte,g,p1,p2,w2,gt_iff_lt,reduceAdd,reduceSub]
         · simp(disch:=omega)only[go_sem,K.b8,↓reduceIte,g,p1,p2,w2,gt_iff_lt,reduceAdd,reduceSub]
end Go.Ev
namespace Go.Ev.K
open Go.Ev
end Go.Ev.K
namespace Go.Ev
class dj [Lib]:Prop where
namespace K
variable [Lib] [dj]
end K
end Go.Ev
namespace Go.Ev.N
def A4:Nat:=215
def A5:Nat:=216
def A6:Nat:=217
def Ia:Nat:=218
def Ib:Nat:=219
def Ic:Nat:=220
def Lw:Nat:=221
def Lx:Nat:=222
def Lz:Nat:=223
def Pp:Nat:=224
def Ie:Nat:=225
def Ig:Nat:=226
def Ih:Nat:=227
def Pq:Nat:=228
def Ii:Nat:=229
def Ij:Nat:=230
def LA:Nat:=231
def Ek:Nat:=232
def LB:Nat:=233
def El:Nat:=234
def Em:Nat:=235
def En:Nat:=236
def LC:Nat:=237
def Eo:Nat:=238
def Pr:Nat:=239
def Ps:Nat:=240
def ug:Nat:=241
def LD:Nat:=242
def Ik:Nat:=243
def A7:Nat:=244
end Go.Ev.N
namespace Go.Ev.K
open Go.Ev
end Go.Ev.K
namespace Go.Ev
class bE [Lib]:Prop where
namespace K
variable [Lib] [bE]
end K
end Go.Ev
namespace Go.Ev
open Go
variable [Lib] [aR] [aS] [bY] [bZ] [dj] [b5] [b6] [cW] [cN] [bE]
end Go.Ev
namespace Go.Ev
open Go
theorem uh{d:D}{n:Int}(h:uL d=some n):d= .t (.int .i64 n):=by
 unfold uL at h
 split at h
 · cases h;rfl
 · cases h
theorem zR:∀ {es:List D} {l:List Int},aY uL es=some l→es=l.map fun x=> .t (.int .i64 x)
 | [],l,h=>by simp[aY]at h;subst h;rfl
 | e::r,l,h=>by
   simp only[aY,aLa,aLb]at h
   obtain⟨x,hx,y,hy,rfl⟩:=h
   rw[uh hx,zR hy];rfl
theorem oS(x:Int):∀l,(EZ x l).Perm (x::l)
 | []=> .refl _
 | y::r=>by
   unfold EZ
   split
   · exact .refl _
   · exact((oS x r).cons y).trans (.swap x y r)
theorem mF:∀l,(iq l).Perm l
 | []=> .refl _
 | x::r=>(oS x _).trans ((mF r).cons x)
theorem zS{x:Int}:∀ {l:List Int},l.Pairwise (· ≤ ·)→(EZ x l).Pairwise (· ≤ ·)
 | [],_=>by simp[EZ]
 | y::r,h=>by
   unfold EZ
   split
   · rename_i hx
     refine List.pairwise_cons.2 ⟨fun z hz=>?_,h⟩
     rcases List.mem_cons.1 hz with rfl | hz
     · exact hx
     · have:=(List.pairwise_cons.1 h).1 z hz;omega
   · rename_i hx
     have h':=List.pairwise_cons.1 h
     refine List.pairwise_cons.2 ⟨fun z hz=>?_,zS h'.2⟩
     have hz:=(oS x r).mem_iff.1 hz
     rcases List.mem_cons.1 hz with rfl | hz
     · omega
     · exact h'.1 z hz
theorem vU:∀l,(iq l).Pairwise (· ≤ ·)
 | []=> .nil
 | x::r=>zS (vU r)
theorem jq(l:List Int):(iq l).length=l.length:=(mF l).length_eq
theorem vV(l:List Int):(l.mergeSort fun x y=>decide (x≤y))=iq l:=by
 refine List.Perm.eq_of_pairwise (le:=(· ≤ ·)) (fun a b _ _ h1 h2=>by omega) ?_ (vU l) ((List.mergeSort_perm _ _).trans (mF l).symm)
 have:=List.pairwise_mergeSort (le:=fun x y:Int=>decide (x≤y)) (fun a b c=>by simp;omega) (fun a b=>by simp;omega) l
 exact this.imp (by simp)
end Go.Ev
namespace Go.Ev
open Go
variable [Lib] [aR] [aS] [bY] [bZ] [dj] [b5] [b6] [cW] [cN] [bE]
section
variable (k : Keys) (hl : k.keys.length ≤ 1000000) (hr : k.roads.length ≤ 1000000)
include hl hr
end
end Go.Ev
namespace Go.Ev
open Go
variable [Lib] [aR] [aS] [bY] [bZ] [dj] [b5] [b6] [cW] [cN] [bE]
section
variable (b u v y : Obj) (ds : ae)
end
end Go.Ev
namespace Go.Ev.N
def vW:Nat:=245
def ui:Nat:=246
def uj:Nat:=247
def Il:Nat:=248
def CD:Nat:=249
def Im:Nat:=250
def vX:Nat:=251
def A8:Nat:=252
def zT:Nat:=253
def Io:Nat:=254
def Ep:Nat:=255
def LF:Nat:=256
def Ip:Nat:=257
def xk:Nat:=258
def iJ:Nat:=259
def bO:Nat:=260
def bh:Nat:=261
def Er:Nat:=262
def qX:Nat:=263
def gg:Nat:=264
def CE:Nat:=265
def iY:Nat:=266
def aB:Nat:=267
def zU:Nat:=268
def gE:Nat:=269
def cmp_isNaN_int:Nat:=270
end Go.Ev.N
namespace Go.Ev.K
open Go.Ev
def bO:Fn:= { bK:=1,vars:=[2],body:= .fail,res:=[(0,none)],prim:=[2,N.aB]}
def bh:Fn:= { bK:=1,vars:=[0,1,2],body:=(q [w 1 (.bx v0 1),w 2 (.mv (.c (.und)))] [] (q [u (.mf N.aB [.v 1]),x 2 l0] [] .ret)),res:=[(2,none)]}
def gj:C:= (.its [u (.bin .lss v5 v4)] [] 0 .skip (.exit 0) (.seq (.blk 1 (q [a 1 v3 v5,g l0,x 2 l0] [] (.ite [m v0,m v2,u (.cw l1 0 [] [.l 0]),u (.un .not l0)] [] 0 .ret .skip))) (.reg [u (.bin .add v5 (.i 1)),x 5 l0] [])))
def gq:C:= .loop true [1,2] K.gj
def aB:Fn:= { bK:=2,vars:=[0,1,4,5,6,7],body:=(q [w 3 (.ld v1 1 false),w 4 (.ln l0),x 5 (.i 0)] [] (.blk 0 K.gq)),res:=[]}
end Go.Ev.K
namespace Go.Ev
class bF [Lib]:Prop where
 gk:Lib.fs N.bO=some K.bO
 eO:Lib.fs N.bh=some K.bh
 dY:Lib.fs N.aB=some K.aB
namespace K
variable [Lib] [bF]
theorem gk:Lib.fs N.bO=some K.bO:=bF.gk
theorem eO:Lib.fs N.bh=some K.bh:=bF.eO
theorem dY:Lib.fs N.aB=some K.aB:=bF.dY
end K
end Go.Ev
namespace Go.Ev
open Go
variable [Lib] [aR] [aS] [bY] [bZ] [dj] [b5] [b6] [cW] [cN] [bE] [bF]
end Go.Ev
namespace Go.Ev
open Go
variable [Lib] [aR] [aS]
def vY(m:aX)(b:Bel)(tag:Int):Int:=if WO m b=false then 6 else if mD (nth b.cy 0).tags tag<0 then 41 else 0
def Vp(a b:Wh)(t:Int):Bool:=(List.range (min a.frm.length b.frm.length)).any fun p=>decide (nth a.frm p≤t∧nth b.frm p≤t)
def uk(m:aX)(mL:List Int)(t:Int)(j:Nat):List Wh:=(List.range j).map fun i=>(zo m (nth mL i) t).1
@[simp] theorem Iq (m : aX) (mL : List Int) (t : Int) (j : Nat) : (uk m mL t j).length = j := by simp [uk]
def CF(m:aX)(tags mL:List Int)(t:Int):Bel×Int:=
 if tags.length=mL.length∧1≤tags.length∧tags.length≤12 then
  if uc tags=true then match (List.range tags.length).find? (fun i=> !decide ((zo m (nth mL i) t).2=0))with
   | some i=>(⟨[]⟩,(zo m (nth mL i) t).2)
   | none=>(⟨[⟨tags,uk m mL t tags.length⟩]⟩,0)
  else(⟨[]⟩,41)
 else(⟨[]⟩,6)
@[go_sem] theorem Sm : ([] : List D).all dR = true := (rfl)
@[go_sem] theorem Pt (d : D) (r : List D) : (d :: r).all dR = (dR d && r.all dR) := (rfl)
@[go_sem] theorem Ir (cs : List T) : dR (.t (.agg cs)) = false := (rfl)
@[go_sem] theorem LG (cs : List T) : dR (.t (.sl cs)) = false := (rfl)
@[go_sem] theorem Is (k : IntKind) (n : Int) : dR (.t (.int k n)) = true := (rfl)
@[go_sem] theorem Es (b : Bool) : dR (.t (.bool b)) = true := (rfl)
@[go_sem] theorem WY (l : List Wh) (k : Nat) (a : Int) (b : List Int) : (List.map D.t (List.map Wh.e l)).set k (D.t (T.agg [tI a, tL b])) = List.map D.t (List.map Wh.e (l.set k ⟨a, b⟩)) := by
 rw[List.map_set,List.map_set]
def Sn(m:aX)(tag:Int)(l:List Int)(a b:Int)(x:World):Wh×Int:=XZ m (nth x.whr (mD x.tags tag).toNat) l a b
def WZ(tag:Int)(x:World)(w:Wh):World:=⟨x.tags,x.whr.set (mD x.tags tag).toNat w⟩
def Vq(tag:Int)(r:Wh×Int)(x:World)(out:List World):List World:=
 if r.2=43 then out else out++[if r.2=0 then WZ tag x r.1 else x]
def It(m:aX)(tag:Int)(l:List Int)(a b:Int)(ws:List World):Nat→List World
 | 0=>[]
 | j+1=>Vq tag (Sn m tag l a b (nth ws j)) (nth ws j) (It m tag l a b ws j)
def Pu(m:aX)(tag:Int)(l:List Int)(a b:Int)(ws:List World)(j:Nat):Bool:=decide ((Sn m tag l a b (nth ws j)).2=6∨(Sn m tag l a b (nth ws j)).2=8)
def Pv(m:aX)(b:Bel)(tag:Int)(l:List Int)(a c:Int):Bel×Int:=
 if vY m b tag≠0 then(b,vY m b tag)else match (List.range b.cy.length).find? (Pu m tag l a c b.cy)with
  | some i=>(b,(Sn m tag l a c (nth b.cy i)).2)
  | none=>if(It m tag l a c b.cy b.cy.length).length=0 then(b,43)else(⟨It m tag l a c b.cy b.cy.length⟩,0)
def Sp(m:aX)(tag:Int)(l:List Int)(a b bl:Int)(x:World):Wh×Int:=X0 m (nth x.whr (mD x.tags tag).toNat) l a b bl
def Vr(tag:Int)(r:Wh×Int)(x:World)(out:List World):List World:=out++[if r.2=0 then WZ tag x r.1 else x]
def Pw(m:aX)(tag:Int)(l:List Int)(a b bl:Int)(ws:List World):Nat→List World
 | 0=>[]
 | j+1=>Vr tag (Sp m tag l a b bl (nth ws j)) (nth ws j) (Pw m tag l a b bl ws j)
def Px(m:aX)(tag:Int)(l:List Int)(a b bl:Int)(ws:List World)(j:Nat):Bool:=decide ((Sp m tag l a b bl (nth ws j)).2=6∨(Sp m tag l a b bl (nth ws j)).2=8)
def Py(m:aX)(b:Bel)(tag:Int)(l:List Int)(a c bl:Int):Bel×Int:=
 if vY m b tag≠0 then(b,vY m b tag)else match (List.range b.cy.length).find? (Px m tag l a c bl b.cy)with
  | some i=>(b,(Sp m tag l a c bl (nth b.cy i)).2)
  | none=>(⟨Pw m tag l a c bl b.cy b.cy.length⟩,0)
abbrev ints(l:List Int):List D:=(l.map (T.int .i64)).map .t
abbrev whs(l:List Wh):List D:=(l.map Wh.e).map .t
def xl(out:List World)(x:World):Nat:=match (List.range out.length).find? (fun k=> !O1 (nth out k).tags x.tags)with
 | some k=>k
 | none=>out.length
def Pz(a b:List Wh):Nat→List Wh
 | 0=>a
 | p+1=>(Pz a b p).set p (Ci (nth a p) (nth b p)).1
def PA(a b:List Wh):List Wh:=Pz a b (min a.length b.length)
def Vs(out:List World)(x:World):List World:=
 if xl out x<out.length∧(nth out (xl out x)).tags=x.tags then out.set (xl out x) ⟨x.tags,PA (nth out (xl out x)).whr x.whr⟩
 else out.take (xl out x)++[x]++out.drop (xl out x)
def PB(l:List World):Nat→List World
 | 0=>[]
 | j+1=>Vs (PB l j) (nth l j)
def PC(l:List World):List World:=PB l l.length
structure Rp(H:ae)(id:Nat)(es:List D)(fa fb:Nat→Nat)(out:List World):Prop where
 arr:H[id]?=some (.arr 2 false 0 es)
 len:es.length=out.length
 el:∀j,j<out.length→es[j]?=some (.agg [.ref (fa j) 0 (nth out j).tags.length,.ref (fb j) 0 (nth out j).whr.length])
 ha:∀j,j<out.length→H[fa j]?=some (.arr 1 false 0 (ints (nth out j).tags))
 hb:∀j,j<out.length→H[fb j]?=some (.arr 2 false 0 (whs (nth out j).whr))
 na:∀j,j<out.length→fa j≠id
 nb:∀j,j<out.length→fb j≠id
 nab:∀i j,i<out.length→j<out.length→fa i≠fb j
 nbb:∀i j,i<out.length→j<out.length→i≠j→fb i≠fb j
@[go_sem] theorem Sq (a b : Wh) : (Ci a b).1.e = .agg [tI (Ci a b).1.time, tL (Ci a b).1.frm] := rfl
theorem Rp.size{H:ae}{id:Nat}{es:List D}{fa fb:Nat→Nat}{out:List World}(hr:Rp H id es fa fb out):∀e∈es,e.cells.length=2:=by
 intro e he
 obtain⟨j,hj⟩:=aLf.1 he
 have hl:=(aLe.1 hj).1
 rw[hr.el j (by rw[← hr.len];exact hl)]at hj
 cases hj;rfl
theorem um{α:Type} [Dat α](l:List α)(k:Nat)(hk:k<l.length)(x:α)(j:Nat):nth (l.set k x) j=if j=k then x else nth l j:=by
 unfold nth
 rw[aLl]
 by_cases h:j=k
 · rw[if_pos h,h,aLj hk];rfl
 · rw[if_neg h,aLi (fun e=>h e.symm),aLl]
theorem Rp.merge{H:ae}{id:Nat}{es:List D}{fa fb:Nat→Nat}{out:List World}(hr:Rp H id es fa fb out){k:Nat}(hk:k<out.length)(x:World)(ht:(nth out k).tags=x.tags)(hw:x.whr.length=(nth out k).whr.length):
 Rp (H.set (fb k) (.arr 2 false 0 (whs x.whr))) id es fa fb (out.set k x):=by
 have ol:(out.set k x).length=out.length:=List.length_set
 have nk:=hr.nb k hk
 have kl:=qM (hr.hb k hk)
 refine⟨by rw[jl nk];exact hr.arr,by rw[ol];exact hr.len,?_,?_,?_,by rw[ol];exact hr.na,by rw[ol];exact hr.nb,by rw[ol];exact hr.nab,by rw[ol];exact hr.nbb⟩
 · intro j hj
   rw[ol]at hj
   rw[hr.el j hj,um out k hk]
   by_cases h:j=k
   · rw[if_pos h,h,ht,hw]
   · rw[if_neg h]
 · intro j hj
   rw[ol]at hj
   rw[jl (fun e=>hr.nab j k hj hk e.symm),hr.ha j hj,um out k hk]
   by_cases h:j=k
   · rw[if_pos h,h,ht]
   · rw[if_neg h]
 · intro j hj
   rw[ol]at hj
   rw[um out k hk]
   by_cases h:j=k
   · rw[if_pos h,h,xe kl]
   · rw[if_neg h,jl (fun e=>hr.nbb j k hj hk h e.symm)];exact hr.hb j hj
theorem Rp.frz{H:ae}{id:Nat}{es:List D}{fa fb:Nat→Nat}{out:List World}(hr:Rp H id es fa fb out):
 aY (frz H 8) es=some (out.map World.e)∧∀i∈es.flatMap (cB H 8),i≠id:=by
 have hl:=hr.len
 have key:∀(j:Nat) (hj:j<out.length),Go.Ev.frz H 8 (.agg [.ref (fa j) 0 (nth out j).tags.length,.ref (fb j) 0 (nth out j).whr.length])=some (nth out j).e∧
  cB H 8 (.agg [.ref (fa j) 0 (nth out j).tags.length,.ref (fb j) 0 (nth out j).whr.length])=[fa j,fb j]:=by
  intro j hj
  have h1:=hr.ha j hj
  have h2:=hr.hb j hj
  simp(disch:=omega)only[go_sem,h1,h2,ints,whs,↓reduceIte]
 constructor
 · have:∀(es:List D) (ts:List T),es.length=ts.length→(∀(j:Nat) e t,es[j]?=some e→ts[j]?=some t→Go.Ev.frz H 8 e=some t)→aY (Go.Ev.frz H 8) es=some ts:=by
    intro es
    induction es with
    | nil=>intro ts h _;cases ts with
      | nil=>rfl
      | cons=>simp at h
    | cons e es ih=>
      intro ts h hh
      cases ts with
      | nil=>simp at h
      | cons t ts=>
        have h1:=hh 0 e t rfl rfl
        have h2:=ih ts (by simpa using h) fun j e t he ht=>hh (j+1) e t (by simpa using he) (by simpa using ht)
        simp only[aY,h1,aLq,h2,aLw]
   refine this es _ (by rw[List.length_map,hl]) fun j e t he ht=>?_
   have hj:j<out.length:=by rw[← hl];exact(aLe.1 he).1
   rw[hr.el j hj]at he
   rw[ef _ hj]at ht
   cases he;cases ht
   exact(key j hj).1
 · intro i hi
   obtain⟨e,he,hi⟩:=List.mem_flatMap.1 hi
   obtain⟨j,hj⟩:=aLf.1 he
   have hjl:j<out.length:=by rw[← hl];exact(aLe.1 hj).1
   rw[hr.el j hjl]at hj
   cases hj
   rw[(key j hjl).2]at hi
   simp only[List.mem_cons,List.not_mem_nil,or_false]at hi
   rcases hi with rfl | rfl
   · exact hr.na j hjl
   · exact hr.nb j hjl
@[go_sem] theorem Et {α β γ : Type} [Dat α] (f : β → γ) (g : α → β) {l : List α} {i j : Nat} {x : α} (h : j < l.length) : (((l.set i x).map g).map f)[j]? = some (f (g (nth (l.set i x) j))) := vI f g (by rw [List.length_set]; exact h)
def Vt(l:List Int)(i j:Nat):List Int:=(l.set i (nth l j)).set j (nth l i)
def Vu(i j:Nat)(t:Int)(x:World):World:=⟨Vt x.tags i j,(x.whr.set i (DO (nth x.whr i) t).1).set j (DO (nth x.whr j) t).1⟩
def Vv(i j:Nat)(t:Int)(x:World)(out:List World):List World:=if Vp (nth x.whr i) (nth x.whr j) t=true then out++[Vu i j t x]else out
def zV(i j:Nat)(t:Int)(ws:List World):Nat→List World
 | 0=>ws
 | k+1=>Vv i j t (nth ws k) (zV i j t ws k)
def Iu(m:aX)(b:Bel)(i j t:Int):Bel×Int:=
 if WO m b=false then(b,6)else if i<0∨((nth b.cy 0).tags.length:Int)≤i∨j<0∨((nth b.cy 0).tags.length:Int)≤j∨i=j then(b,19)
 else if ¬inT t then(b,8)else if 24<(PC (zV i.toNat j.toNat t b.cy b.cy.length)).length then(b,44)else(⟨PC (zV i.toNat j.toNat t b.cy b.cy.length)⟩,0)
def PD:Nat→List Int
 | 0=>[]
 | k+1=>PD k++[3+(k:Int)*2]
def az.vZ(d:az)(n:Int):Nat→List Int×az
 | 0=>([],d)
 | k+1=>((d.vZ n k).1++[((d.vZ n k).2.next n).1],((d.vZ n k).2.next n).2)
structure BSt where
 b:Bel
 t:Int
 d:az
def az.Iv(m:aX)(n:Int)(s:BSt):BSt:=
 let a:=s.d.next 60
 let c:=a.2.next 3
 if c.1=0 then
  let i:=c.2.next n
  let j:=i.2.next n
  let r:=Iu m s.b i.1 j.1 (s.t+a.1)
  ⟨if r.2=0 then r.1 else s.b,s.t+a.1,j.2⟩
 else if c.1=1 then
  let g:=c.2.next n
  let l:=g.2.w6 m.aa.length
  let e:=l.2.next 9
  let r:=Pv m s.b (3+2*g.1) l.1 (s.t+a.1) (s.t+a.1+e.1)
  ⟨if r.2=0 then r.1 else s.b,s.t+a.1,e.2⟩
 else
  let g:=c.2.next n
  let l:=g.2.w6 m.aa.length
  let e:=l.2.next 40
  let r:=Py m s.b (3+2*g.1) l.1 (s.t+a.1) (s.t+a.1+50) e.1
  ⟨if r.2=0 then r.1 else s.b,s.t+a.1,e.2⟩
def az.W4(m:aX)(n:Int)(s:BSt):Nat→BSt
 | 0=>s
 | k+1=>az.Iv m n (az.W4 m n s k)
def az.Vw(d:az):Nat:=(1+(d.next 3).1).toNat
def az.Sr(d:az)(m:aX):List Int×az:=(d.next 3).2.vZ m.aa.length d.Vw
def az.X4(d:az)(m:aX):BSt:=⟨(CF m (PD d.Vw) (d.Sr m).1 ((d.Sr m).2.next 100).1).1,100,(((d.Sr m).2.next 100).2.next 5).2⟩
def az.X5(d:az)(m:aX):Nat:=(((d.Sr m).2.next 100).2.next 5).1.toNat
def az.W5(d:az)(m:aX):BSt:=az.W4 m d.Vw (d.X4 m) (d.X5 m)
def az.W6(d:az)(m:aX):Bel×az:=((d.W5 m).b,(d.W5 m).d)
structure WOk(m:aX)(N:Nat)(x:World):Prop where
 tg:x.tags.length=N
 wh:x.whr.length=N
 fr:∀w∈x.whr,w.frm.length=m.aa.length
 ti:∀w∈x.whr,inT w.time
structure BOk(m:aX)(N:Nat)(b:Bel):Prop where
 w1:1≤b.cy.length
 w2:b.cy.length≤24
 n1:1≤N
 n2:N≤12
 ws:∀x∈b.cy,WOk m N x
theorem WOk.sz{m:aX}{N:Nat}{x:World}(h:WOk m N x)(hm:m.ok)(hn:N≤12):x.sz:=by
 have np:=hm.np
 obtain⟨t1,t2,t3, -⟩:=h
 exact⟨by omega,by omega,fun w hw=>by rw[t3 w hw];omega⟩
theorem BOk.sz{m:aX}{N:Nat}{b:Bel}(h:BOk m N b)(hm:m.ok):b.sz:=
 ⟨by have:=h.w2;omega,fun x hx=>(h.ws x hx).sz hm h.n2⟩
def az.spread(d:az)(m:aX)(fl:List Spn):Wh×az:=
 let p:=d.next m.aa.length
 let t:=p.2.next 200
 let s:=OZ m fl [p.1] t.1
 let o:=t.2.one 2
 if o.1=true then
  let f:=o.2.Vi m
  let a:=f.2.next 100
  let r:=Hr m fl m f.1 s.1 (s.1.time+a.1)
  if r.2=0 then(r.1,a.2)else(s.1,a.2)
 else(s.1,o.2)
structure Mch where
 kind:Int
 num:Int
 pl:List Int
instance : Dat Mch := ⟨⟨0, 0, []⟩⟩
abbrev Mch.e(x:Mch):T:= .agg [tI x.kind,tI x.num,tL x.pl]
@[go_sem] theorem PE (l : List Mch) : gG 3 (l.map Mch.e) = true := by cases l <;> rfl
theorem CG{α:Type} [Dat α]{l:List α}{p:α→Bool}:((List.range l.length).find? fun j=>p (nth l j)).isSome=l.any p:=by
 rw[List.isSome_find?,Bool.eq_iff_iff,List.any_eq_true,List.any_eq_true]
 constructor
 · rintro ⟨j,hj,h⟩
   exact⟨_,bn (aLu.1 hj),h⟩
 · rintro ⟨x,hx,h⟩
   obtain⟨j,hj⟩:=aLf.1 hx
   exact⟨j,aLu.2 (aLe.1 hj).1,by rw[vJ hj];exact h⟩
end Go.Ev
namespace Go.Ev
open Go
variable [Lib] [aR] [aS] [bY] [bZ] [dj] [b5] [b6] [cW] [cN] [bE] [bF]
end Go.Ev
namespace Go.Ev
open Go
variable [Lib] [aR] [aS] [b5] [b6] [cW] [cN]
@[go_sem] theorem W7 (H : ae) (len j : Nat) (ts : List T) (h : j < len) : Nw H len 1 false (.t (.agg ts)) j = (ts[j]?).map fun t => (.t t, H) := by
 have h0:len≠0:=by omega
 unfold Nw pJ
 rw[if_neg h0,if_pos h]
 unfold kM cut
 simp only[D.isAgg,D.cells,T.cells,if_true,Nat.mul_one,List.length_map]
 by_cases hj:j<ts.length
 · rw[if_pos (by omega),aLc hj]
   have e:((ts.map D.t).drop j).take 1=[D.t ts[j]]:=by
    rw[List.drop_eq_getElem_cons (by simpa using hj)];simp
   rw[e];rfl
 · rw[if_neg (by omega),aLm (by omega)];rfl
section
variable (a0 a1 a2 a3 a4 a5 x y : Obj) (ds : ae)
end
@[go_sem] theorem Ss (n : Nat) : eqB n n = true := by
 induction n with
 | zero=>rfl
 | succ n ih=>exact ih
end Go.Ev
namespace Go.Ev
open Go
variable [Lib] [aR] [aS] [bY] [bZ] [b5] [b6] [cW] [cN]
end Go.Ev
namespace Go.Ev
open Go
variable [Lib] [aR] [aS] [bY] [bZ] [dj] [b5] [b6] [cW] [cN] [bE] [bF]
end Go.Ev
namespace Go.Ev
open Go
variable [Lib] [aR] [aS]
theorem eP{α:Type} [Dat α](l:List α)(k:Nat)(hk:k<l.length)(x:α)(j:Nat):nth (l.set k x) j=if j=k then x else nth l j:=by
 unfold nth
 by_cases h:j=k
 · subst h;rw[if_pos rfl];simp[hk]
 · rw[if_neg h]
   have:¬k=j:=fun e=>h e.symm
   simp[List.getElem?_set,this]
section
variable {m : aX} (h : m.ok) {t : Int} {into : Option (List Int)}
include h
end
end Go.Ev
namespace Go.Ev
open Go
variable [Lib] [aR] [aS] [cW] [cN]
theorem zW{l:List Int}{n:Int}(h:oO l n=true):∀x∈l,0≤x∧x<n:=by
 intro x hx
 simp only[oO,aLx,aLu,decide_eq_true_eq]at h
 obtain⟨j,hj⟩:=aLf.1 hx
 have:=h j (aLe.1 hj).1
 rw[vJ hj]at this
 exact⟨this.1,this.2.1⟩
end Go.Ev
namespace Go.Ev
open Go
variable [Lib] [aR] [aS] [bY] [bZ] [b5] [b6] [cW] [cN]
end Go.Ev
namespace Go.Ev
open Go
variable [Lib] [aR] [aS]
section
variable {m : aX} (hm : m.ok) {N : Nat} {b : Bel} (hb : BOk m N b) {s : Wh} (hs : s.frm.length = m.aa.length) {l : List Mch}
variable (hl : ∀ y ∈ l, y.pl.length ≤ m.aa.length ∧ 1 ≤ y.pl.length ∧ ∀ x ∈ y.pl, 0 ≤ x ∧ x < m.aa.length) {t a : Int} (t0 : 0 ≤ t) (t1 : t ≤ 10000) (a0 : 0 ≤ a) (a1 : a ≤ 10000) (d : az)
include hm hb hs hl t0 t1 a0 a1
omit hm hb t0 t1 a1 in
end
def az.skip(d:az)(n:Int):Nat→az
 | 0=>d
 | k+1=>((d.skip n k).next n).2
end Go.Ev
namespace Go.Ev
open Go
variable [Lib] [aR] [aS] [dj]
end Go.Ev
namespace Go.Ev
open Go
variable [Lib] [aR] [aS] [bY] [bZ] [dj] [b5] [b6] [cW] [cN]
end Go.Ev
namespace Go.Ev
open Go
variable [Lib] [aR] [aS] [bY] [bZ] [dj] [b5] [b6] [cW] [cN] [bE] [bF]
def lexB:List Int→List Int→Bool
 | _,[]=>false
 | [],_::_=>true
 | a::r,b::s=>decide (a<b)||(decide (a=b)&&lexB r s)
structure WV(m:aX)(first:List Int)(x:World):Prop where
 pm:x.tags.Perm first
 wl:x.whr.length=first.length
 wv:∀w∈x.whr,sn m w=true
structure BV(m:aX)(first:List Int)(ws:List World):Prop where
 pr:uc first=true
 f1:1≤first.length
 f2:first.length≤12
 wv:∀x∈ws,WV m first x
 up:ws.Pairwise fun x y=>lexB x.tags y.tags=true
end Go.Ev
namespace Go.Ev.N
def xm:Nat:=271
def zX:Nat:=272
def uo:Nat:=273
def xZ:Nat:=274
def A9:Nat:=275
def zY:Nat:=276
def Iw:Nat:=277
def Ix:Nat:=278
def LH:Nat:=279
def LI:Nat:=280
def Ba:Nat:=281
def PF:Nat:=282
def Eu:Nat:=283
def Iy:Nat:=284
def Iz:Nat:=285
def LJ:Nat:=286
def lW:Nat:=287
def LK:Nat:=288
def IA:Nat:=289
def IB:Nat:=290
def IC:Nat:=291
def ID:Nat:=292
def Bb:Nat:=293
def IE:Nat:=294
def IF:Nat:=295
def Ew:Nat:=296
def lH:Nat:=297
def lI:Nat:=298
def CH:Nat:=299
def qc:Nat:=300
def iS:Nat:=301
def kA:Nat:=302
def nf:Nat:=303
def jW:Nat:=304
def lX:Nat:=305
def ng:Nat:=306
def lJ:Nat:=307
def Bc:Nat:=308
end Go.Ev.N
namespace Go.Ev.K
open Go.Ev
end Go.Ev.K
namespace Go.Ev
class cg [Lib]:Prop where
namespace K
variable [Lib] [cg]
end K
end Go.Ev
namespace Go.Ev.K
open Go.Ev
end Go.Ev.K
namespace Go.Ev
class cj [Lib]:Prop where
namespace K
variable [Lib] [cj]
end K
end Go.Ev
namespace Go.Ev
open Go
variable [Lib] [aR] [aS] [bY] [bZ] [dj] [b5] [b6] [cW] [cN] [bE] [bF] [cg] [cj]
end Go.Ev
namespace Go.Ev
open Go
variable [Lib] [aR] [aS] [bY] [bZ] [dj] [b5] [b6] [cW] [cN]
end Go.Ev
namespace Go.Ev
open Go
variable [Lib] [aR] [aS] [bY] [bZ] [dj] [b5] [b6] [cW] [cN] [bE] [bF]
structure SH(n p:Nat)(l:List Wh):Prop where
 ln:l.length=n
 fr:∀w∈l,w.frm.length=p
theorem WV.sh{m:aX}{first:List Int}{x:World}(h:WV m first x):SH first.length m.aa.length x.whr:=
 ⟨h.wl,fun w hw=>(ua (h.wv w hw)).1⟩
end Go.Ev
namespace Go.Ev
open Go
variable [Lib] [aR] [aS] [bY] [bZ] [dj] [b5] [b6] [cW] [cN] [bE] [bF] [cg] [cj]
theorem Rp.more{H:ae}{id:Nat}{es:List D}{fa fb:Nat→Nat}{out:List World}(hr:Rp H id es fa fb out)(t:ae):Rp (H++t) id es fa fb out:=
 ⟨by rw[m9 (qM hr.arr)];exact hr.arr,hr.len,hr.el,fun j hj=>by rw[m9 (qM (hr.ha j hj))];exact hr.ha j hj,fun j hj=>by rw[m9 (qM (hr.hb j hj))];exact hr.hb j hj,hr.na,hr.nb,hr.nab,hr.nbb⟩
end Go.Ev
namespace Go.Ev
open Go
variable [Lib] [aR] [aS] [bY] [bZ] [dj] [b5] [b6] [cW] [cN] [bE] [bF]
end Go.Ev
namespace Go.Ev
open Go
variable [Lib] [aR] [aS] [b5] [b6]
abbrev CI:Int:=2147483648
section
variable {m : aX} (h : m.ok) {fl : List Spn}
include h
end
end Go.Ev
namespace Go.Ev
open Go
def clP(m:aX)(fl:List Spn)(y:List Int):Prop:=∀k,k<m.roads.length→∀back,0≤mC (nth m.roads k) (nth fl k) back→
 nth y ((nth m.roads k).src back).toNat+mC (nth m.roads k) (nth fl k) back≤CI→
 nth y ((nth m.roads k).dst back).toNat≤nth y ((nth m.roads k).src back).toNat+mC (nth m.roads k) (nth fl k) back
variable [Lib] [aR] [aS] [b5] [b6]
end Go.Ev
namespace Go.Ev
open Go
variable [Lib] [aR] [aS] [b5] [b6]
def Vx(l:List Int):Prop:=∀x∈l,0≤x∧(x≤CI∨x=1099511627776)
theorem Vx.bnd{l:List Int}(h:Vx l):bnd l:=fun x hx=>by have:=h x hx;simp only[CI]at this;omega
end Go.Ev
namespace Go.Ev
open Go
variable [Lib] [aR] [aS] [bY] [bZ] [b5] [b6]
theorem Ey{p:Int}{n:Int}(h0:0≤p)(h1:p<n):oO [p] n=true:=by
 simp only[oO,aLx,aLu,decide_eq_true_eq]
 intro j hj
 obtain rfl:j=0:=by simpa using hj
 exact⟨h0,h1,fun h=>absurd h (by omega)⟩
structure PG(m:aX)(fl:List Spn)(s:Wh):Prop where
 ln:s.frm.length=m.aa.length
 ti:inT s.time
 tm:Vx s.frm
 lo:∀x∈s.frm,s.time≤x
 cl:clP m fl s.frm
theorem PG.valid{m:aX}{fl:List Spn}{s:Wh}(h:PG m fl s):zt m s=true:=by
 simp only[zt,aLr,decide_eq_true_eq,aLx,aLu]
 refine⟨fun j hj=>?_,h.ln,h.ti⟩
 have a:=h.tm _ (bn hj)
 have b:=h.lo _ (bn hj)
 unfold plS
 simp only[CI]at a
 omega
end Go.Ev
namespace Go.Ev
open Go
variable [Lib] [aR] [aS] [bY] [bZ] [dj] [b5] [b6] [cW] [cN] [bE] [bF]
section
variable {m : aX} (hm : m.ok) (l : List Mch) (hl : l.length ≤ 1000) (hp : ∀ x ∈ l, x.pl.length ≤ 1000000) (s : Wh) (hs : s.frm.length ≤ 1000000) (b : Bel) (hb : b.sz) (t a : Int)
include hm hl hp hs hb
end
end Go.Ev
namespace Go.Ev
open Go
variable [Lib] [aR] [aS] [bY] [bZ] [b5] [b6]
end Go.Ev
namespace Go.Ev
open Go
variable [Lib] [aR] [aS]
def sh(s x:Int):Int:=if x<1099511627776 then x+s else x
def shL(s:Int)(l:List Int):List Int:=l.map (sh s)
@[simp] theorem Vy (s : Int) (l : List Int) : (shL s l).length = l.length := List.length_map ..
end Go.Ev
namespace Go.Ev
open Go
variable [Lib] [aR] [aS] [bY] [bZ] [dj] [b5] [b6] [cW] [cN]
theorem oT(l:List Int)(x:Int){j:Nat}(hj:j<l.length):nth (l++[x]) j=nth l j:=by
 unfold nth;simp[aLl,aLg hj]
theorem zZ(l:List Int)(x:Int):nth (l++[x]) l.length=x:=by
 unfold nth;simp[aLl]
theorem sB{l:List Int}{n:Nat}(h:oO l n=true):oO l ((n+1:Nat):Int)=true∧oO (l++[(n:Int)]) ((n+1:Nat):Int)=true:=by
 simp only[oO,aLx,aLu,decide_eq_true_eq]at h ⊢
 refine⟨fun j hj=>?_,fun j hj=>?_⟩
 · obtain⟨a,b,c⟩:=h j hj;exact⟨a,by omega,c⟩
 · by_cases c:j<l.length
   · obtain⟨a,b,c⟩:=h j c
     rw[oT _ _ (by omega)]
     refine⟨a,by omega,fun hj=>?_⟩
     rw[oT _ _ (by omega)];exact c hj
   · have e:j=l.length:=by simp at hj;omega
     subst e
     rw[zZ]
     refine⟨by omega,by omega,fun hj=>?_⟩
     rw[oT _ _ (by omega)]
     exact(h (l.length-1) (by omega)).2.1
end Go.Ev
namespace Go.Ev
open Go
variable [Lib] [aR] [aS] [bY] [bZ] [dj] [b5] [b6] [cW] [cN] [bE] [bF]
end Go.Ev
namespace Go.Ev
open Go
variable [Lib] [aR] [aS] [bY] [bZ] [dj] [b5] [b6] [cW] [cN] [bE] [bF] [cg] [cj]
end Go.Ev
namespace Go.Ev.N
def Ez:Nat:=309
def Aa:Nat:=310
def Bd:Nat:=311
def Be:Nat:=312
def Ab:Nat:=313
def IG:Nat:=314
def Vz:Nat:=315
def PH:Nat:=316
def IH:Nat:=317
def II:Nat:=318
def IJ:Nat:=319
def IK:Nat:=320
def PI:Nat:=321
def PJ:Nat:=322
def IL:Nat:=323
def CJ:Nat:=324
def PL:Nat:=325
def Su:Nat:=326
def Bf:Nat:=327
def EA:Nat:=328
def CK:Nat:=329
def lY:Nat:=330
def nh:Nat:=331
def CL:Nat:=332
def Ac:Nat:=333
end Go.Ev.N
namespace Go.Ev.N
def xn:Nat:=334
def x7:Nat:=335
def x8:Nat:=336
def IM:Nat:=337
def xo:Nat:=338
def IN:Nat:=339
def IP:Nat:=340
def LL:Nat:=341
def IQ:Nat:=342
def LM:Nat:=343
def LN:Nat:=344
def Sv:Nat:=345
def Bg:Nat:=346
def IS:Nat:=347
def LO:Nat:=348
def LP:Nat:=349
def Ad:Nat:=350
def CM:Nat:=351
def EB:Nat:=352
def EC:Nat:=353
def IT:Nat:=354
def Bh:Nat:=355
def LQ:Nat:=356
def LR:Nat:=357
def CN:Nat:=358
def ED:Nat:=359
def IU:Nat:=360
def LS:Nat:=361
def IV:Nat:=362
def CO:Nat:=363
def IW:Nat:=364
def LV:Nat:=365
def LW:Nat:=366
def LX:Nat:=367
def LY:Nat:=368
def xp:Nat:=369
def gN:Nat:=370
def kJ:Nat:=371
def CP:Nat:=372
def iT:Nat:=373
def CQ:Nat:=374
def CR:Nat:=375
def IX:Nat:=376
def IY:Nat:=377
def Bi:Nat:=378
def ij:Nat:=379
def jQ:Nat:=380
def Ae:Nat:=381
def CS:Nat:=382
def Af:Nat:=383
end Go.Ev.N
namespace Go.Ev.N
def CT:Nat:=384
def Bj:Nat:=385
def Ag:Nat:=386
def Bk:Nat:=387
def Ah:Nat:=388
def IZ:Nat:=389
def I0:Nat:=390
def LZ:Nat:=391
def x9:Nat:=392
def I3:Nat:=393
def I4:Nat:=394
def ya:Nat:=395
def L0:Nat:=396
def yb:Nat:=397
def xq:Nat:=398
def PM:Nat:=399
def L3:Nat:=400
def L4:Nat:=401
def Ai:Nat:=402
def L5:Nat:=403
def PN:Nat:=404
def L6:Nat:=405
def L7:Nat:=406
def PO:Nat:=407
def wa:Nat:=408
def wc:Nat:=409
def L8:Nat:=410
def PQ:Nat:=411
def EE:Nat:=412
def qY:Nat:=413
def PR:Nat:=414
def qd:Nat:=415
end Go.Ev.N
namespace Go.Ev.N
def sC:Nat:=416
def sW:Nat:=417
def sX:Nat:=418
def sD:Nat:=419
def I5:Nat:=420
def bC:Nat:=421
def xr:Nat:=422
def EF:Nat:=423
def yc:Nat:=424
def yd:Nat:=425
def I6:Nat:=426
def ye:Nat:=427
def we:Nat:=428
def yf:Nat:=429
def pt:Nat:=430
def uq:Nat:=431
def PS:Nat:=432
def dO:Nat:=433
def L9:Nat:=434
def wg:Nat:=435
def dD:Nat:=436
def wi:Nat:=437
def I7:Nat:=438
def I8:Nat:=439
def I9:Nat:=440
def EG:Nat:=441
def Ja:Nat:=442
def Jb:Nat:=443
def wj:Nat:=444
def Ma:Nat:=445
def CU:Nat:=446
def bX:Nat:=447
def Jc:Nat:=448
def Mb:Nat:=449
def Jd:Nat:=450
def Sw:Nat:=451
def fm:Nat:=452
def PT:Nat:=453
def sE:Nat:=454
def aU:Nat:=455
def EH:Nat:=456
def PU:Nat:=457
def Mc:Nat:=458
def PV:Nat:=459
def yg:Nat:=460
def jX:Nat:=461
def Md:Nat:=462
def dy:Nat:=463
def ur:Nat:=464
def EI:Nat:=465
def xt:Nat:=466
def kd:Nat:=467
def wm:Nat:=468
def wo:Nat:=469
def dZ:Nat:=470
def Bl:Nat:=471
end Go.Ev.N
namespace Go.Ev.N
def Aj:Nat:=472
def Bm:Nat:=473
def Ak:Nat:=474
end Go.Ev.N
namespace Go.Ev.K
open Go.Ev
end Go.Ev.K
namespace Go.Ev
class gr [Lib]:Prop where
namespace K
variable [Lib] [gr]
end K
end Go.Ev
namespace Go.Ev
open Go
variable [Lib] [aR] [aS] [bY] [bZ] [dj] [b5] [b6] [cW] [cN] [bE] [bF] [cg] [cj] [gr]
end Go.Ev
namespace Go.Ev.N
def Al:Nat:=475
def xu:Nat:=476
def xv:Nat:=477
def aE:Nat:=478
def c8:Nat:=479
def Je:Nat:=480
def EJ:Nat:=481
def cX:Nat:=482
def cI:Nat:=483
def dk:Nat:=484
def b9:Nat:=485
def EK:Nat:=486
def Me:Nat:=487
def Jf:Nat:=488
def aO:Nat:=489
def dn:Nat:=490
def cb:Nat:=491
def bo:Nat:=492
def cC:Nat:=493
def aV:Nat:=494
def Jg:Nat:=495
def Mf:Nat:=496
def Mg:Nat:=497
def bA:Nat:=498
def ah:Nat:=499
def bD:Nat:=500
def aF:Nat:=501
def aj:Nat:=502
end Go.Ev.N
