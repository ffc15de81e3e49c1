/- Parts of the proof: see the text that holds the theorem. -/
import Derived.Test.YtafioeehabcnhaaZ2
set_option linter.all false
set_option maxRecDepth 100000
namespace Go.Ev
open Go
abbrev I(n:Int):D:= .t (.int .i64 n)
abbrev B(b:Bool):D:= .t (.bool b)
def AU{β:Type}(call:aS):List R→List D→List D→aj→(List D→List D→aj→Option β)→Option β
 | rs,L,vs,H,K=>(evR call rs L vs H).bind fun q=>K q.1 q.2.1 q.2.2
def Is{β:Type}(call:aS)(rs:List R)(d:Option Nat)(L vs:List D)(K:List D→List D→aj→Option β)(p:D×aj):Option β:=
 AU call rs (p.1::L) (wr vs d p.1) p.2 K
@[go_sem] theorem RU {β : Type} (call : aS) (rs : List R) (d : Option Nat) (L vs : List D) (K : List D → List D → aj → Option β) (x : D) (H : aj) :
 Is call rs d L vs K (x,H)=AU call rs (x::L) (wr vs d x) H K:=(rfl)
@[go_sem] theorem RV {β : Type} (call : aS) (L vs : List D) (H : aj) (K : List D → List D → aj → Option β) : AU call [] L vs H K = K L vs H := (rfl)
@[go_sem] theorem OX {β : Type} (call : aS) (o : O) (d : Option Nat) (rs : List R) (L vs : List D) (H : aj) (K : List D → List D → aj → Option β) :
 AU call (⟨o,d,none⟩::rs) L vs H K=(evO call (X.get vs L) H o).bind (Is call rs d L vs K):=by
 simp[AU,evR,b8,Option.bind_assoc]
 rfl
def gate{β:Type}(c:Option D)(w:Bool)(a b:Option β):Option β:=match c with
 | some (.t (.bool x))=>if x=w then a else b
 | some (.tup [])=>b
 | _=>none
@[congr] theorem Mb {β : Type} {c c' : Option D} {w : Bool} {a b : Option β} (h : True → c = c') : gate c w a b = gate c' w a b := by rw [h trivial]
@[go_sem] theorem RW {β : Type} (p : Prop) [Decidable p] (a b : Option β) : gate (some (.t (.bool (decide p)))) true a b = if p then a else b := by
 by_cases h:p<;>simp[gate,h]
@[go_sem] theorem OY {β : Type} (p : Prop) [Decidable p] (a b : Option β) : gate (some (.t (.bool (decide p)))) false a b = if p then b else a := by
 by_cases h:p<;>simp[gate,h]
@[go_sem] theorem OZ {β : Type} (x : Bool) (a b : Option β) : gate (some (.t (.bool x))) true a b = if x = true then a else b := (rfl)
@[go_sem] theorem Mc {β : Type} (x : Bool) (a b : Option β) : gate (some (.t (.bool x))) false a b = if x = true then b else a := by cases x <;> rfl
@[go_sem] theorem O0 {β : Type} (w : Bool) (a b : Option β) : gate (some (.tup [])) w a b = b := (rfl)
@[go_sem] theorem O1 {β : Type} (call : aS) (o : O) (d : Option Nat) (k : Nat) (w : Bool) (rs : List R) (L vs : List D) (H : aj) (K : List D → List D → aj → Option β) :
 AU call (⟨o,d,some (k,w)⟩::rs) L vs H K=gate L[k]? w ((evO call (X.get vs L) H o).bind (Is call rs d L vs K)) (AU call rs (.tup []::L) (wr vs d (.tup [])) H K):=by
 simp only[AU,evR,b8]
 cases hL:L[k]? with
 | none=>simp[gate]
 | some c=>
   simp only[Option.bind_some]
   cases c with
   | t x=>
     cases x with
     | bool b=>cases b<;>cases w<;>simp[gate,Option.bind_assoc]<;>rfl
     | _=>simp[gate]
   | tup ds=>
     cases ds with
     | nil=>simp[gate]
     | cons=>simp[gate]
   | _=>simp[gate]
open Classical in
noncomputable def pZ{β:Type}(p:Prop)(x:Option β):Option β:=if p then x else none
@[go_sem] theorem It {β : Type} (x : Option β) : pZ True x = x := by simp [pZ]
noncomputable def vL{β:Type}(call:aS)(all:List R)(n:Nat)(ps:List (Nat×Nat))(rs:List R)(L vs:List D)(H:aj)(acc:List Tr)(K:List D→List D→aj→Option β):Option β:=
 (evR call rs L vs H).bind fun q=>pZ (kX call all n ((trace call rs L vs H).reverse++acc) ps) (K q.1 q.2.1 q.2.2)
noncomputable def BR{β:Type}(call:aS)(all:List R)(n:Nat)(ps:List (Nat×Nat))(rs:List R)(d:Option Nat)(L vs:List D)(H:aj)(acc:List Tr)(K:List D→List D→aj→Option β)(p:D×aj):Option β:=
 vL call all n ps rs (p.1::L) (wr vs d p.1) p.2 ((L,vs,H)::acc) K
@[go_sem] theorem RX {β : Type} (call : aS) (all : List R) (n : Nat) (ps : List (Nat × Nat)) (rs : List R) (d : Option Nat) (L vs : List D) (H : aj) (acc : List Tr) (K : List D → List D → aj → Option β) (x : D) (H' : aj) :
 BR call all n ps rs d L vs H acc K (x,H')=vL call all n ps rs (x::L) (wr vs d x) H' ((L,vs,H)::acc) K:=(rfl)
@[go_sem] theorem RY {β : Type} (call : aS) (all : List R) (n : Nat) (ps : List (Nat × Nat)) (L vs : List D) (H : aj) (acc : List Tr) (K : List D → List D → aj → Option β) :
 vL call all n ps [] L vs H acc K=pZ (kX call all n ((L,vs,H)::acc) ps) (K L vs H):=by
 simp[vL,evR,trace]
theorem vM{β:Type}(call:aS)(all:List R)(n:Nat)(ps:List (Nat×Nat))(r:R)(rs:List R)(L vs:List D)(H:aj)(acc:List Tr)(K:List D→List D→aj→Option β):
 vL call all n ps (r::rs) L vs H acc K=(b8 L r.g).bind fun w=>
  if w then(evO call (X.get vs L) H r.o).bind (BR call all n ps rs r.d L vs H acc K)else vL call all n ps rs (.tup []::L) (wr vs r.d (.tup [])) H ((L,vs,H)::acc) K:=by
 obtain hw | ⟨w,hw⟩:b8 L r.g=none∨∃w,b8 L r.g=some w:=by cases b8 L r.g<;>simp
 · simp[vL,evR,trace,hw]
 · cases w with
   | true=>
     obtain hq | ⟨q,hq⟩:evO call (X.get vs L) H r.o=none∨∃q,evO call (X.get vs L) H r.o=some q:=by cases evO call (X.get vs L) H r.o<;>simp
     · simp[vL,evR,trace,hw,hq]
     · simp[vL,evR,trace,hw,hq,BR]
   | false=>simp[vL,evR,trace,hw]
@[go_sem] theorem O2 {β : Type} (call : aS) (all : List R) (n : Nat) (ps : List (Nat × Nat)) (o : O) (d : Option Nat) (rs : List R) (L vs : List D) (H : aj) (acc : List Tr) (K : List D → List D → aj → Option β) :
 vL call all n ps (⟨o,d,none⟩::rs) L vs H acc K=(evO call (X.get vs L) H o).bind (BR call all n ps rs d L vs H acc K):=by
 rw[vM];simp[b8]
@[go_sem] theorem O3 {β : Type} (call : aS) (all : List R) (n : Nat) (ps : List (Nat × Nat)) (o : O) (d : Option Nat) (k : Nat) (w : Bool) (rs : List R) (L vs : List D) (H : aj) (acc : List Tr) (K : List D → List D → aj → Option β) :
 vL call all n ps (⟨o,d,some (k,w)⟩::rs) L vs H acc K=
  gate L[k]? w ((evO call (X.get vs L) H o).bind (BR call all n ps rs d L vs H acc K)) (vL call all n ps rs (.tup []::L) (wr vs d (.tup [])) H ((L,vs,H)::acc) K):=by
 rw[vM]
 simp only[b8]
 cases hL:L[k]? with
 | none=>simp[gate]
 | some c=>
   simp only[Option.bind_some]
   cases c with
   | t x=>
     cases x with
     | bool b=>cases b<;>cases w<;>simp[gate]
     | _=>simp[gate]
   | tup ds=>
     cases ds with
     | nil=>simp[gate]
     | cons=>simp[gate]
   | _=>simp[gate]
def qp(call:aS):Option R→Option Tr→Option Tr→Option Tr→Prop
 | some r,some s,some a,some s'=>(match r.o with
   | .al _ _=>a.2.2[s.2.2.length]?=s'.2.2[s.2.2.length]?
   | .bs xs _=>b8 s.1 r.g=some false∨((bX (X.get s.2.1 s.1) xs).bind kp).isSome=true
   | o=>mO o=true∧(b8 s.1 r.g=some false∨tC (evO call (X.get s.2.1 s.1) a.2.2 o)=tC (evO call (X.get s.2.1 s.1) s.2.2 o)))
 | _,_,_,_=>False
@[go_sem] theorem Md (call : aS) (all : List R) (n : Nat) (acc : List Tr) : kX call all n acc [] = True := (rfl)
@[go_sem] theorem Iu (call : aS) (all : List R) (n : Nat) (acc : List Tr) (p m : Nat) (r : List (Nat × Nat)) :
 kX call all n acc ((p,m)::r)=(qp call all[p]? acc[n-p]? acc[n-m]? acc[n-(p+1)]?∧m≤n∧kX call all n acc r):=by
 simp only[kX,Ir,qp]
 try rfl
section
variable (call : aS) (d : Option Nat) (gd : Option (Nat × Bool)) (L vs L' vs' : List D) (H H' : aj) (s' : Tr)
@[go_sem] theorem RZ (x : X) (n : Nat) (agg : Bool) : qp call (some ⟨.ld x n agg, d, gd⟩) (some (L, vs, H)) (some (L', vs', H')) (some s') =
 (b8 L gd=some false∨tC (evO call (X.get vs L) H' (.ld x n agg))=tC (evO call (X.get vs L) H (.ld x n agg))):=by simp[qp,mO]
@[go_sem] theorem R0 (x i : X) (sz : Nat) : qp call (some ⟨.ia x i sz, d, gd⟩) (some (L, vs, H)) (some (L', vs', H')) (some s') =
 (b8 L gd=some false∨tC (evO call (X.get vs L) H' (.ia x i sz))=tC (evO call (X.get vs L) H (.ia x i sz))):=by simp[qp,mO]
@[go_sem] theorem R1 (x : X) (lo hi : Option X) (sz : Nat) : qp call (some ⟨.sc x lo hi sz, d, gd⟩) (some (L, vs, H)) (some (L', vs', H')) (some s') =
 (b8 L gd=some false∨tC (evO call (X.get vs L) H' (.sc x lo hi sz))=tC (evO call (X.get vs L) H (.sc x lo hi sz))):=by simp[qp,mO]
@[go_sem] theorem O4 (x : X) (z : T) (sz : Nat) : qp call (some ⟨.mkt x z sz, d, gd⟩) (some (L, vs, H)) (some (L', vs', H')) (some s') =
 (b8 L gd=some false∨tC (evO call (X.get vs L) H' (.mkt x z sz))=tC (evO call (X.get vs L) H (.mkt x z sz))):=by simp[qp,mO]
@[go_sem] theorem R2 (z : List D) (l : List (Nat × Nat)) (L2 vs2 : List D) (H2 : aj) : qp call (some ⟨.al z l, d, gd⟩) (some (L, vs, H)) (some (L', vs', H')) (some (L2, vs2, H2)) = (H'[H.length]? = H2[H.length]?) := (rfl)
@[go_sem] theorem R3 (xs : List X) (sz : Nat) : qp call (some ⟨.bs xs sz, d, gd⟩) (some (L, vs, H)) (some (L', vs', H')) (some s') =
 (b8 L gd=some false∨((bX (X.get vs L) xs).bind kp).isSome=true):=(rfl)
@[go_sem] theorem Gk (L : List D) : b8 L none = some true := (rfl)
def Iv(w:Bool):Option D→Option Bool
 | some (.t (.bool b))=>some (b==w)
 | some (.tup [])=>some false
 | _=>none
@[go_sem] theorem Me (w b : Bool) : Iv w (some (.t (.bool b))) = some (b == w) := (rfl)
@[go_sem] theorem O5 (w : Bool) : Iv w (some (.tup [])) = some false := (rfl)
@[go_sem] theorem Gl (L : List D) (k : Nat) (w : Bool) : b8 L (some (k, w)) = Iv w L[k]? := by
 simp only[b8]
 cases L[k]? with
 | none=>rfl
 | some c=>cases c with
   | t x=>cases x<;>rfl
   | tup ds=>cases ds<;>rfl
   | _=>rfl
@[go_sem] theorem O6 (x : D) : tC (some (x, H)) = some x := (rfl)
attribute [go_sem] beq_true beq_false or_true true_or or_self
end
theorem yX(call:aS)(rs:List R)(vs:List D)(H:aj):AT call rs [] vs H=evR call rs [] vs H:=by
 simp[AT,kX]
def Uo(L vs:List D)(H:aj):Option (Ex×St):=some (.normal,⟨vs,H⟩)
noncomputable def Up(call:aS)(k:Nat)(a b:C)(L vs:List D)(H:aj):Option (Ex×St):=eI L[k]? (exS call a ⟨vs,H⟩) (exS call b ⟨vs,H⟩)
@[go_sem] theorem Uq (L vs : List D) (H : aj) : Uo L vs H = some (.normal, ⟨vs, H⟩) := (rfl)
@[go_sem] theorem Ur (call : aS) (k : Nat) (a b : C) (L vs : List D) (H : aj) : Up call k a b L vs H = eI L[k]? (exS call a ⟨vs, H⟩) (exS call b ⟨vs, H⟩) := (rfl)
def andThen(x:Option (Ex×St))(k:St→Option (Ex×St)):Option (Ex×St):=x.bind fun p=>eQ p k
@[go_sem] theorem DK (st : St) (k : St → Option (Ex × St)) : andThen (some (.normal, st)) k = k st := (rfl)
@[go_sem] theorem Iw (st : St) (k : St → Option (Ex × St)) : andThen (some (.ret, st)) k = some (.ret, st) := (rfl)
@[go_sem] theorem Gm (i : Nat) (st : St) (k : St → Option (Ex × St)) : andThen (some (.exit i, st)) k = some (.exit i, st) := (rfl)
@[go_sem] theorem Gn (k : St → Option (Ex × St)) : andThen none k = none := (rfl)
@[go_sem] theorem andThen_ite (c : Prop) [Decidable c] (a b : Option (Ex × St)) (k : St → Option (Ex × St)) : andThen (if c then a else b) k = if c then andThen a k else andThen b k := by
 split<;>rfl
@[go_sem] theorem R4 (call : aS) (st : St) : exS call .skip st = some (.normal, st) := (rfl)
@[go_sem] theorem Us (call : aS) (rs : List R) (vs : List D) (H : aj) : exS call (.reg rs []) ⟨vs, H⟩ = AU call rs [] vs H Uo := by
 simp only[exS,yX,AU]
 cases evR call rs [] vs H<;>rfl
@[go_sem] theorem R5 (call : aS) (rs : List R) (p : Nat × Nat) (ps : List (Nat × Nat)) (vs : List D) (H : aj) :
 exS call (.reg rs (p::ps)) ⟨vs,H⟩=vL call rs rs.length (p::ps) rs [] vs H [] Uo:=by
 simp only[exS,AT,vL,List.append_nil]
 by_cases h:kX call rs rs.length (trace call rs [] vs H).reverse (p::ps)
 · rw[if_pos h]
   simp only[pZ,if_pos h]
   cases evR call rs [] vs H<;>rfl
 · rw[if_neg h]
   simp only[pZ,if_neg h]
   cases evR call rs [] vs H<;>rfl
@[go_sem] theorem Ut (call : aS) (a b : C) (st : St) : exS call (.seq a b) st = andThen (exS call a st) (exS call b) := (rfl)
@[go_sem] theorem Uu (call : aS) (rs : List R) (k : Nat) (a b : C) (vs : List D) (H : aj) : exS call (.ite rs [] k a b) ⟨vs, H⟩ = AU call rs [] vs H (Up call k a b) := by
 simp only[exS,yX,AU]
 cases evR call rs [] vs H<;>rfl
@[go_sem] theorem R6 (call : aS) (rs : List R) (p : Nat × Nat) (ps : List (Nat × Nat)) (k : Nat) (a b : C) (vs : List D) (H : aj) :
 exS call (.ite rs (p::ps) k a b) ⟨vs,H⟩=vL call rs rs.length (p::ps) rs [] vs H [] (Up call k a b):=by
 simp only[exS,AT,vL,List.append_nil]
 by_cases h:kX call rs rs.length (trace call rs [] vs H).reverse (p::ps)
 · rw[if_pos h]
   simp only[pZ,if_pos h]
   cases evR call rs [] vs H<;>rfl
 · rw[if_neg h]
   simp only[pZ,if_neg h]
   cases evR call rs [] vs H<;>rfl
@[go_sem] theorem Uv (call : aS) (rs : List R) (ps : List (Nat × Nat)) (k : Nat) (a b c : C) (st : St) : exS call (.its rs ps k a b c) st = andThen (exS call (.ite rs ps k a b) st) (exS call c) := (rfl)
@[go_sem] theorem Uw (call : aS) (rs : List R) (ps : List (Nat × Nat)) (k : Nat) (a b c : C) (st : St) : exS call (.itk rs ps k a b c) st = exS call (.ite rs ps k (.seq a c) (.seq b c)) st := (rfl)
@[go_sem] theorem Ux (call : aS) (j : Nat) (a b : C) (vs : List D) (H : aj) : exS call (.itv j a b) ⟨vs, H⟩ = eI vs[j]? (exS call a ⟨vs, H⟩) (exS call b ⟨vs, H⟩) := (rfl)
@[go_sem] theorem R7 (call : aS) (id : Nat) (st : St) : exS call (.exit id) st = some (.exit id, st) := (rfl)
@[go_sem] theorem Uy (call : aS) (st : St) : exS call .ret st = some (.ret, st) := (rfl)
@[go_sem] theorem R8 (call : aS) (st : St) : exS call .fail st = none := (rfl)
@[go_sem] theorem Uz (call : aS) (x p f : Nat) (r1 : List R) (p1 : List (Nat × Nat)) (r2 : List R) (p2 : List (Nat × Nat)) (vs : List D) (H : aj) : exS call (.rng x p f r1 p1 r2 p2) ⟨vs, H⟩ = (AP (stepG (AT call) vs p r1 p1 r2 p2) (DJ f vs[x]?) H).map fun H => (.normal, ⟨vs, H⟩) := (rfl)
@[go_sem] theorem UA (call : aS) (v : Bool) (c : C) (st : St) : exS call (.cnd v c) st = exS call c st := (rfl)
def ny(id:Nat)(x:Option (Ex×St)):Option (Ex×St):=x.map (leave id)
@[go_sem] theorem UB (call : aS) (id : Nat) (c : C) (st : St) : exS call (.blk id c) st = ny id (exS call c st) := (rfl)
@[go_sem] theorem Gp (id : Nat) (st : St) : ny id (some (.normal, st)) = some (.normal, st) := by simp [ny, leave]
@[go_sem] theorem O7 (id : Nat) (st : St) : ny id (some (.ret, st)) = some (.ret, st) := by simp [ny, leave]
@[go_sem] theorem Mf (id i : Nat) (st : St) : ny id (some (.exit i, st)) = if i = id then some (.normal, st) else some (.exit i, st) := by
 simp only[ny,leave,Option.map_some,Ex.exit.injEq]
 split<;>rfl
@[go_sem] theorem Mg (id : Nat) : ny id none = none := (rfl)
@[go_sem] theorem O8 (id : Nat) (c : Prop) [Decidable c] (a b : Option (Ex × St)) : ny id (if c then a else b) = if c then ny id a else ny id b := by
 split<;>rfl
@[congr] theorem Ix {c c' : Option D} {a b : Option (Ex × St)} (h : True → c = c') : eI c a b = eI c' a b := by rw [h trivial]
@[go_sem] theorem O9 (p : Prop) [Decidable p] (a b : Option (Ex × St)) : eI (some (.t (.bool (decide p)))) a b = if p then a else b := by
 by_cases h:p<;>simp[eI,h]
@[go_sem] theorem Mh (p : Prop) [Decidable p] (a b : Option (Ex × St)) : eI (some (.t (.bool (!decide p)))) a b = if p then b else a := by
 by_cases h:p<;>simp[eI,h]
@[go_sem] theorem R9 (a : Option (Ex × St)) : eI (some .ub) a a = a := by simp [eI]
@[go_sem] theorem Mi (x : Bool) (a b : Option (Ex × St)) : eI (some (.t (.bool x))) a b = if x = true then a else b := (rfl)
def eB(gc:Bool)(dead:List Nat)(k:Nat)(x:Option (Ex×St)):Option St:=x.bind fun p=>match p.1 with
 | .normal=>tidy gc dead k p.2
 | _=>none
@[go_sem] theorem EE (gc : Bool) (dead : List Nat) (k : Nat) (st : St) : eB gc dead k (some (.normal, st)) = tidy gc dead k st := (rfl)
@[go_sem] theorem Mj (gc : Bool) (dead : List Nat) (k : Nat) (c : Prop) [Decidable c] (a b : Option (Ex × St)) : eB gc dead k (if c then a else b) = if c then eB gc dead k a else eB gc dead k b := by
 split<;>rfl
theorem aY{gc:Bool}{dead:List Nat}{body:St→Option (Ex×St)}{st st2:St}(h:eB gc dead st.H.length (body st)=some st2)
 {p:Ex×St} (h2:j8 gc dead body st2=some p):j8 gc dead body st=some p:=by
 unfold eB at h
 obtain⟨⟨e,st1⟩,hq,h⟩:=Option.bind_eq_some_iff.1 h
 cases e with
 | normal=>exact tA hq h h2
 | ret=>cases h
 | exit=>cases h
theorem um{gc:Bool}{dead:List Nat}{body:St→Option (Ex×St)}(s:Nat→St){p:Ex×St}(n:Nat)
 (h:∀j,j<n→eB gc dead (s j).H.length (body (s j))=some (s (j+1))) (he:j8 gc dead body (s n)=some p):j8 gc dead body (s 0)=some p:=by
 have:=pY (s:=s) n 0 (fun j _ hj=>by
  have h:=h j (by omega)
  unfold eB at h
  obtain⟨⟨e,st1⟩,hq,h⟩:=Option.bind_eq_some_iff.1 h
  cases e with
  | normal=>exact⟨st1,hq,h⟩
  | ret=>cases h
  | exit=>cases h) (by simpa using he)
 exact this
def Sa(res:List (Nat×Option (Nat×Bool)))(k raw:Nat)(p:Ex×St):Option (D×aj):=match p.1 with
 | .exit _=>none
 | _=>(gA p.2 res).bind (finish k raw p.2.H)
@[go_sem] theorem Sb (res : List (Nat × Option (Nat × Bool))) (k raw : Nat) (vs : List D) (H : aj) : Sa res k raw (.ret, ⟨vs, H⟩) = (gA ⟨vs, H⟩ res).bind (finish k raw H) := (rfl)
@[go_sem] theorem Iy (res : List (Nat × Option (Nat × Bool))) (k raw : Nat) (vs : List D) (H : aj) : Sa res k raw (.normal, ⟨vs, H⟩) = (gA ⟨vs, H⟩ res).bind (finish k raw H) := (rfl)
theorem Iz{fs:Nat→Option Fn}{raw f:Nat}{args:List D}{H:aj}{fn:Fn}{r:D×aj}(hf:fs f=some fn)(hn:fn.nargs=args.length)
 (h:(exS (jh fs) fn.body ⟨mK args fn.vars,H⟩).bind (Sa fn.res H.length raw)=some r) (h0:fn.prim=[]:=by rfl):jh fs raw f args H=some r:=by
 obtain⟨p,hp,he⟩:=Option.bind_eq_some_iff.1 h
 exact Ez hf hn (ED _ _ _ hp) he h0
@[go_sem] theorem Sc {α β : Type} (c : Prop) [Decidable c] (a b : Option α) (k : α → Option β) : (if c then a else b).bind k = if c then a.bind k else b.bind k := by
 split<;>rfl
@[go_sem] theorem UC {α β : Type} (c : Prop) [Decidable c] (a b : Option α) (k : α → β) : (if c then a else b).map k = if c then a.map k else b.map k := by
 split<;>rfl
theorem Pa(a b:Int):(a==b)=decide (a=b):=by rw[Bool.eq_iff_iff];simp
theorem rS{n:Int}(h1: -9223372036854775808≤n)(h2:n≤9223372036854775807):IntKind.i64.wrap n=n:=by
 have e:IntKind.i64.wrap n=if n % 18446744073709551616≥9223372036854775808 then n % 18446744073709551616-18446744073709551616 else n % 18446744073709551616:=by
  simp[IntKind.wrap,IntKind.signed,IntKind.bits]
 rw[e];split<;>omega
section
variable {α β : Type}
@[go_sem] theorem IA (a : α) (f : α → Option β) : (some a).bind f = f a := (rfl)
@[go_sem] theorem Mk (a : α) (f : α → β) : (some a).map f = some (f a) := (rfl)
@[go_sem] theorem IB (f : α → Option β) : (none : Option α).bind f = none := (rfl)
@[go_sem] theorem Ml (f : α → β) : (none : Option α).map f = none := (rfl)
@[go_sem] theorem Mm (a : α) (l : List α) (f : α → β) : (a :: l).map f = f a :: l.map f := (rfl)
@[go_sem] theorem Pb (f : α → β) : ([] : List α).map f = [] := (rfl)
@[go_sem] theorem Mn (a : α) (l : List α) : (a :: l)[0]? = some a := (rfl)
@[go_sem] theorem Mo (a : α) (l : List α) (n : Nat) : (a :: l)[n + 1]? = l[n]? := (rfl)
@[go_sem] theorem IC (a d : α) (l : List α) : (a :: l).getD 0 d = a := (rfl)
@[go_sem] theorem ID (a d : α) (l : List α) (n : Nat) : (a :: l).getD (n + 1) d = l.getD n d := (rfl)
@[go_sem] theorem Mp (d : α) (n : Nat) : ([] : List α).getD n d = d := by simp
@[go_sem] theorem Mq (a b : α) (l : List α) : (a :: l).set 0 b = b :: l := (rfl)
@[go_sem] theorem Mr (a b : α) (l : List α) (n : Nat) : (a :: l).set (n + 1) b = a :: l.set n b := (rfl)
@[go_sem] theorem EF (a : α) (l m : List α) : (a :: l) ++ m = a :: (l ++ m) := (rfl)
@[go_sem] theorem Gq (l : List α) : [] ++ l = l := (rfl)
@[go_sem] theorem Gr (l : List α) : l ++ [] = l := by simp
@[go_sem] theorem DL (a : α) (l : List α) (f : α → List β) : (a :: l).flatMap f = f a ++ l.flatMap f := by simp
@[go_sem] theorem EG (f : α → List β) : ([] : List α).flatMap f = [] := by simp
@[go_sem] theorem Gs : ([] : List α).length = 0 := (rfl)
@[go_sem] theorem EH (a : α) (l : List α) : (a :: l).length = l.length + 1 := (rfl)
@[go_sem] theorem Gt (l : List α) (f : α → β) : (l.map f).length = l.length := by simp
@[go_sem] theorem BS (l m : List α) : (l ++ m).length = l.length + m.length := by simp
@[go_sem] theorem yY (n : Nat) (a : α) : (List.replicate n a).length = n := by simp
@[go_sem] theorem Gu (l : List α) (i : Nat) (a : α) : (l.set i a).length = l.length := by simp
@[go_sem] theorem IE (l : List α) : l.drop 0 = l := (rfl)
@[go_sem] theorem IF (a : α) (l : List α) (n : Nat) : (a :: l).drop (n + 1) = l.drop n := (rfl)
@[go_sem] theorem Ms (n : Nat) : ([] : List α).drop n = [] := by simp
@[go_sem] theorem IG (l : List α) : l.take 0 = [] := (rfl)
@[go_sem] theorem IH (a : α) (l : List α) (n : Nat) : (a :: l).take (n + 1) = a :: l.take n := (rfl)
@[go_sem] theorem Mt (n : Nat) : ([] : List α).take n = [] := by simp
@[go_sem] theorem II (a b : α) : (bif true then a else b) = a := (rfl)
@[go_sem] theorem Gv (a b : α) : (bif false then a else b) = b := (rfl)
@[go_sem] theorem Mu (n : Nat) : n + 0 = n := (rfl)
@[go_sem] theorem Mv (n : Nat) : 0 + n = n := by simp
@[go_sem] theorem Mw (a b : α) : (some a = some b) = (a = b) := by simp
@[go_sem] theorem Sd (a : α) : (some a).isSome = true := (rfl)
end
attribute [go_sem] decide_true decide_false if_true if_false Bool.false_eq_true Bool.true_eq_false decide_eq_true_eq decide_eq_false_iff_not Bool.and_eq_true Bool.or_eq_true Bool.not_eq_true' Bool.not_eq_true Bool.not_eq_false
 Bool.and_true Bool.true_and Bool.and_false Bool.false_and Bool.or_true Bool.true_or Bool.or_false Bool.false_or and_true true_and and_self not_true_eq_false not_false_eq_true beq_iff_eq bne_iff_ne ne_eq
@[go_sem] theorem Mx : (!true) = false := (rfl)
@[go_sem] theorem IJ : (!false) = true := (rfl)
@[go_sem] theorem Ys (vs L : List D) (j : Nat) : X.get vs L (.v j) = vs[j]? := (rfl)
@[go_sem] theorem Yt (vs L : List D) (k : Nat) : X.get vs L (.l k) = L[k]? := (rfl)
@[go_sem] theorem Yu (vs L : List D) (d : D) : X.get vs L (.c d) = some d := (rfl)
@[go_sem] theorem Yv (vs L : List D) (n : Int) : X.get vs L (.i n) = some (I n) := (rfl)
@[go_sem] theorem Yw (vs L : List D) (x : Bool) : X.get vs L (.b x) = some (B x) := (rfl)
@[go_sem] theorem UD (vs : List D) (x : D) : wr vs none x = vs := (rfl)
@[go_sem] theorem UE (vs : List D) (s : Nat) (x : D) : wr vs (some s) x = vs.set s x := (rfl)
@[go_sem] theorem My (args : List D) : mK args [] = [] := (rfl)
@[go_sem] theorem IK (args : List D) (s : Nat) (r : List Nat) : mK args (s :: r) = args.getD s .und :: mK args r := (rfl)
def UF(H:aj)(d:D):Option (D×aj):=some (d,H)
@[go_sem] theorem UG (H : aj) (d : D) : UF H d = some (d, H) := (rfl)
def iE{α:Type}(a:α)(l:Option (List α)):Option (List α):=l.map (a:: ·)
@[go_sem] theorem Mz {α : Type} (a : α) (l : List α) : iE a (some l) = some (a :: l) := (rfl)
@[go_sem] theorem MA {α : Type} (a : α) : iE a none = none := (rfl)
@[go_sem] theorem Se {α β : Type} (f : α → Option β) : bX f [] = some [] := (rfl)
def Xh{α β:Type}(f:α→Option β)(r:List α)(y:β):Option (List β):=iE y (bX f r)
@[go_sem] theorem IL {α β : Type} (f : α → Option β) (r : List α) (y : β) : Xh f r y = iE y (bX f r) := (rfl)
@[go_sem] theorem vN {α β : Type} (f : α → Option β) (x : α) (r : List α) : bX f (x :: r) = (f x).bind (Xh f r) := (rfl)
section
variable (call : aS) (get : X → Option D) (H : aj)
@[go_sem] theorem Yx (x : X) : evO call get H (.mv x) = (get x).bind (UF H) := by simp only [evO]; cases get x <;> rfl
def Sf(c a b:Option D):Option (D×aj):=c.bind fun c=>a.bind fun a=>b.bind fun b=>(Ei c a b).map fun d=>(d,H)
@[go_sem] theorem Yy (c a b : X) : evO call get H (.pk c a b) = Sf H (get c) (get a) (get b) := (rfl)
@[go_sem] theorem Pc (x p q : Bool) : Sf H (some (.t (.bool x))) (some (.t (.bool p))) (some (.t (.bool q))) = some (.t (.bool (bif x then p else q)), H) := by cases x <;> rfl
@[go_sem] theorem Pd (a b : D) : Sf H (some (.t (.bool true))) (some a) (some b) = some (a, H) := (rfl)
@[go_sem] theorem MB (a b : D) : Sf H (some (.t (.bool false))) (some a) (some b) = some (b, H) := (rfl)
@[go_sem] theorem Sg (x p : Bool) : (bif x then p else false) = (x && p) := by cases x <;> rfl
@[go_sem] theorem UH (x q : Bool) : (bif x then true else q) = (x || q) := by cases x <;> rfl
def fF(f:BinOp)(x y:Option D):Option (D×aj):=x.bind fun a=>y.bind fun b=>(s9 f a b).map fun d=>(d,H)
@[go_sem] theorem Xi (f : BinOp) (x y : X) : evO call get H (.bin f x y) = fF H f (get x) (get y) := (rfl)
section
variable (k j : IntKind) (a b : Int)
@[go_sem] theorem Pe : fF H .add (some (.t (.int k a))) (some (.t (.int k b))) = some (.t (.int k (k.wrap (a + b))), H) := by simp [fF, s9, xb]
@[go_sem] theorem Pf : fF H .sub (some (.t (.int k a))) (some (.t (.int k b))) = some (.t (.int k (k.wrap (a - b))), H) := by simp [fF, s9, xb]
@[go_sem] theorem Pg : fF H .mul (some (.t (.int k a))) (some (.t (.int k b))) = some (.t (.int k (k.wrap (a * b))), H) := by simp [fF, s9, xb]
@[go_sem] theorem Ph : fF H .quo (some (.t (.int k a))) (some (.t (.int k b))) = if b = 0 then none else some (.t (.int k (k.wrap (a.tdiv b))), H) := by simp only [fF, s9, xb]; by_cases h : b = 0 <;> simp [h]
@[go_sem] theorem Pj : fF H .rem (some (.t (.int k a))) (some (.t (.int k b))) = if b = 0 then none else some (.t (.int k (a.tmod b)), H) := by simp only [fF, s9, xb]; by_cases h : b = 0 <;> simp [h]
@[go_sem] theorem Pk : fF H .eql (some (.t (.int k a))) (some (.t (.int k b))) = some (.t (.bool (decide (a = b))), H) := by simp [fF, s9, xb, Pa]
@[go_sem] theorem Pl : fF H .neq (some (.t (.int k a))) (some (.t (.int k b))) = some (.t (.bool (decide (¬ a = b))), H) := by simp [fF, s9, xb, bne, Pa]
@[go_sem] theorem Pm : fF H .lss (some (.t (.int k a))) (some (.t (.int k b))) = some (.t (.bool (decide (a < b))), H) := by simp [fF, s9, xb]
@[go_sem] theorem Pn : fF H .leq (some (.t (.int k a))) (some (.t (.int k b))) = some (.t (.bool (decide (a ≤ b))), H) := by simp [fF, s9, xb]
@[go_sem] theorem Po : fF H .gtr (some (.t (.int k a))) (some (.t (.int k b))) = some (.t (.bool (decide (b < a))), H) := by simp [fF, s9, xb]
@[go_sem] theorem Pp : fF H .geq (some (.t (.int k a))) (some (.t (.int k b))) = some (.t (.bool (decide (b ≤ a))), H) := by simp [fF, s9, xb]
@[go_sem] theorem Pq (h : 0 ≤ b) : fF H .shl (some (.t (.int k a))) (some (.t (.int j b))) = some (.t (.int k (k.wrap (a * 2 ^ min b.toNat k.bits))), H) := by simp [fF, s9, s8, Int.not_lt.2 h]
@[go_sem] theorem vO (h : 0 ≤ b) : fF H .shr (some (.t (.int k a))) (some (.t (.int j b))) = some (.t (.int k (a.fdiv (2 ^ min b.toNat k.bits))), H) := by simp [fF, s9, s8, Int.not_lt.2 h]
@[go_sem] theorem BT : fF H .and (some (.t (.int k a))) (some (.t (.int k b))) = some (.t (.int k (k.wrap (BitVec.ofInt k.bits a &&& BitVec.ofInt k.bits b).toNat)), H) := by simp [fF, s9, xb]
@[go_sem] theorem Si : fF H .or (some (.t (.int k a))) (some (.t (.int k b))) = some (.t (.int k (k.wrap (BitVec.ofInt k.bits a ||| BitVec.ofInt k.bits b).toNat)), H) := by simp [fF, s9, xb]
@[go_sem] theorem Pr : fF H .xor (some (.t (.int k a))) (some (.t (.int k b))) = some (.t (.int k (k.wrap (BitVec.ofInt k.bits a ^^^ BitVec.ofInt k.bits b).toNat)), H) := by simp [fF, s9, xb]
def UI(f:UnOp)(a:D):Option (D×aj):=(unD f a).map fun d=>(d,H)
@[go_sem] theorem Yz (f : UnOp) (x : X) : evO call get H (.un f x) = (get x).bind (UI H f) := (rfl)
@[go_sem] theorem Sj (x : Bool) : UI H .not (.t (.bool x)) = some (.t (.bool (!x)), H) := (rfl)
@[go_sem] theorem Sk : UI H .neg (.t (.int k a)) = some (.t (.int k (k.wrap (0 - a))), H) := (rfl)
def Xj(k:IntKind)(a:D):Option (D×aj):=(HM k a).map fun d=>(d,H)
@[go_sem] theorem YA (x : X) : evO call get H (.cv k x) = (get x).bind (Xj H k) := (rfl)
@[go_sem] theorem Sl : Xj H k (.t (.int j a)) = some (.t (.int k (k.wrap a)), H) := (rfl)
end
def mG(q:EqK)(neg:Bool)(x y:Option D):Option (D×aj):=x.bind fun a=>y.bind fun b=>(Gd q neg a b).map fun d=>(d,H)
@[go_sem] theorem Xk (q : EqK) (neg : Bool) (x y : X) : evO call get H (.eqk q neg x y) = mG H q neg (get x) (get y) := (rfl)
@[go_sem] theorem MC (x y : Bool) : mG H .bool false (some (.t (.bool x))) (some (.t (.bool y))) = some (.t (.bool (x == y)), H) := (rfl)
@[go_sem] theorem IM (x y : Bool) : mG H .bool true (some (.t (.bool x))) (some (.t (.bool y))) = some (.t (.bool (!(x == y))), H) := (rfl)
def Gw:List T→List T→Bool
 | .int _ a::xs,.int _ b::ys=>decide (a=b)&&Gw xs ys
 | _,_=>true
def zW:Nat→List T→List T→Bool
 | 0,[],[]=>true
 | n+1,.int j _::xs,.int k _::ys=>decide (j=k)&&zW n xs ys
 | _,_,_=>false
@[go_sem] theorem Ps (k j : IntKind) (a b : Int) (xs ys : List T) : Gw (.int k a :: xs) (.int j b :: ys) = (decide (a = b) && Gw xs ys) := (rfl)
@[go_sem] theorem Sm : Gw [] [] = true := (rfl)
@[go_sem] theorem Sn : zW 0 [] [] = true := (rfl)
@[go_sem] theorem Pt (n : Nat) (k : IntKind) (a b : Int) (xs ys : List T) : zW (n + 1) (.int k a :: xs) (.int k b :: ys) = zW n xs ys := by simp [zW]
theorem rT:∀ {n:Nat} {xs ys:List T},zW n xs ys=true→xs.length=n∧i5 xs ys=some (Gw xs ys)
 | 0,[],[],_=>⟨rfl,rfl⟩
 | 0,[],_::_,h=>by simp[zW]at h
 | 0,_::_,_,h=>by simp[zW]at h
 | n+1,[],_,h=>by simp[zW]at h
 | n+1,x::xs,[],h=>by cases x<;>simp[zW]at h
 | n+1,x::xs,y::ys,h=>by
   cases x<;>cases y<;>simp only[zW,Bool.and_eq_true,decide_eq_true_eq,Bool.false_eq_true]at h
   obtain⟨rfl,h⟩:=h
   obtain⟨h1,h2⟩:=rT h
   exact⟨by simp[h1],by simp[i5,h2,Gw,Pa]⟩
@[go_sem] theorem MD (n : Nat) (xs ys : List T) (h : zW n xs ys = true) : mG H (.ints n) false (some (.t (.agg xs))) (some (.t (.agg ys))) = some (.t (.bool (Gw xs ys)), H) := by
 obtain⟨h1,h2⟩:=rT h;simp[mG,Gd,eqD,h1,h2]
@[go_sem] theorem IN (n : Nat) (xs ys : List T) (h : zW n xs ys = true) : mG H (.ints n) true (some (.t (.agg xs))) (some (.t (.agg ys))) = some (.t (.bool (!Gw xs ys)), H) := by
 obtain⟨h1,h2⟩:=rT h;simp[mG,Gd,eqD,h1,h2]
@[go_sem] theorem Pu : mG H .sl false (some .nil) (some .nil) = some (.t (.bool true), H) := (rfl)
@[go_sem] theorem Pv : mG H .sl false (some (.t (.sl []))) (some .nil) = some (.ub, H) := (rfl)
@[go_sem] theorem ME : mG H .sl true (some (.t (.sl []))) (some .nil) = some (.ub, H) := (rfl)
@[go_sem] theorem MF : mG H .sl true (some .nil) (some .nil) = some (.t (.bool false), H) := (rfl)
theorem mw(es:List T)(h:es≠[]):mG H .sl false (some (.t (.sl es))) (some .nil)=some (.t (.bool false),H):=by cases es<;>first | exact(h rfl).elim | rfl
def Sp(a:D):Option (D×aj):=(RP a).map fun d=>(d,H)
@[go_sem] theorem YB (x : X) : evO call get H (.nc x) = (get x).bind (Sp H) := (rfl)
@[go_sem] theorem UJ (id off : Nat) : Sp H (.bp id off) = some (.bp id off, H) := (rfl)
@[go_sem] theorem UK (id ep n i off : Nat) : Sp H (.ap id ep n i off) = some (.ap id ep n i off, H) := (rfl)
@[go_sem] theorem UL (cs : List T) : Sp H (.ep cs) = some (.ep cs, H) := (rfl)
def MG(off:Nat)(a:D):Option (D×aj):=(zF a off).map fun d=>(d,H)
@[go_sem] theorem YC (x : X) (off : Nat) : evO call get H (.fa x off) = (get x).bind (MG H off) := (rfl)
@[go_sem] theorem UM (id o off : Nat) : MG H off (.bp id o) = some (.bp id (o + off), H) := (rfl)
@[go_sem] theorem UN (id ep n i o off : Nat) : MG H off (.ap id ep n i o) = some (.ap id ep n i (o + off), H) := (rfl)
@[go_sem] theorem UO (cs : List T) (off : Nat) : MG H off (.ep cs) = some (.ep (cs.drop off), H) := (rfl)
@[go_sem] theorem YD (cs : List D) : cut cs 0 0 = some [] := by simp [cut]
@[go_sem] theorem YE (c : D) (cs : List D) : cut (c :: cs) 0 1 = some [c] := by simp [cut]
@[go_sem] theorem YF (c : D) (cs : List D) (n : Nat) : cut (c :: cs) 0 (n + 1) = iE c (cut cs 0 n) := by
 simp only[cut,iE];by_cases h:n≤cs.length<;>simp[h]
@[go_sem] theorem YG (c : D) (cs : List D) (off n : Nat) : cut (c :: cs) (off + 1) n = cut cs off n := by
 simp only[cut,List.length_cons,List.drop_succ_cons]
 by_cases h:off+n≤cs.length
 · rw[if_pos h,if_pos (by omega)]
 · rw[if_neg h,if_neg (by omega)]
@[go_sem] theorem Pw (c : D) : dz false [c] = some c := (rfl)
@[go_sem] theorem Px (cs : List D) : dz true cs = some (mD cs) := (rfl)
def mkA(cs:List D):Option (List T)→D
 | some ts=> .t (.agg ts)
 | none=> .agg cs
@[go_sem] theorem Sq (cs : List D) (ts : List T) : mkA cs (some ts) = .t (.agg ts) := (rfl)
@[go_sem] theorem Sr (cs : List D) : mkA cs none = .agg cs := (rfl)
@[go_sem] theorem Ss (cs : List D) : mD cs = mkA cs (kp cs) := by unfold mD; cases kp cs <;> rfl
@[go_sem] theorem Su : kp [] = some [] := (rfl)
@[go_sem] theorem Xl (x : T) (r : List D) : kp (.t x :: r) = iE x (kp r) := (rfl)
@[go_sem] theorem Xm (r : List D) : kp (.nil :: r) = none := (rfl)
@[go_sem] theorem Sv (a b c : Nat) (r : List D) : kp (.ref a b c :: r) = none := (rfl)
@[go_sem] theorem Sw (a b c d e : Nat) (r : List D) : kp (.sub a b c d e :: r) = none := (rfl)
@[go_sem] theorem EI (l : List T) : kp (l.map .t) = some l := by induction l with | nil => rfl | cons a l ih => simp [kp, ih]
def Py(off n:Nat)(agg:Bool)(a:D):Option (D×aj):=(nZ a off n agg).map fun d=>(d,H)
@[go_sem] theorem YH (x : X) (off n : Nat) (agg : Bool) : evO call get H (.fl x off n agg) = (get x).bind (Py H off n agg) := (rfl)
def ofC(agg:Bool)(cs:Option (List D)):Option (D×aj):=(cs.bind (dz agg)).bind (UF H)
@[go_sem] theorem YI (c : D) : ofC H false (some [c]) = some (c, H) := (rfl)
@[go_sem] theorem YJ (cs : List D) : ofC H true (some cs) = some (mD cs, H) := (rfl)
@[go_sem] theorem Xn (cs : List T) (off n : Nat) (agg : Bool) : Py H off n agg (.t (.agg cs)) = ofC H agg (cut (cs.map .t) off n) := by
 simp only[Py,nZ,D.isAgg,if_true,D.cells,T.cells,ofC];cases (cut (cs.map .t) off n).bind (dz agg)<;>rfl
@[go_sem] theorem Sx (cs : List D) (off n : Nat) (agg : Bool) : Py H off n agg (.agg cs) = ofC H agg (cut cs off n) := by
 simp only[Py,nZ,D.isAgg,if_true,D.cells,ofC];cases (cut cs off n).bind (dz agg)<;>rfl
@[go_sem] theorem UP (n : Nat) : idx (n : Int) = some n := by simp [idx]
@[go_sem] theorem YK : idx 0 = some 0 := (rfl)
theorem IP{i:Int}(h:0≤i):idx i=some i.toNat:=by simp[idx,h]
def IQ(sz:Nat)(x i:Option D):Option (D×aj):=x.bind fun a=>(i.bind intOf).bind fun n=>(tT H a n sz).map fun d=>(d,H)
@[go_sem] theorem YL (x i : X) (sz : Nat) : evO call get H (.ia x i sz) = IQ H sz (get x) (get i) := (rfl)
def EJ(sz:Nat)(e:T):Option (D×aj):=if e.cells.length=sz then some (.ep e.cells,H)else none
def UQ(sz:Nat)(es:List T)(j:Nat):Option (D×aj):=es[j]?.bind (EJ H sz)
@[go_sem] theorem UR (sz : Nat) (es : List T) (j : Nat) : UQ H sz es j = es[j]?.bind (EJ H sz) := (rfl)
@[go_sem] theorem US (k : IntKind) (es : List T) (n : Int) (sz : Nat) : IQ H sz (some (.t (.sl es))) (some (.t (.int k n))) = (idx n).bind (UQ H sz es) := by
 simp only[IQ,Option.bind_some,intOf,tT]
 cases idx n with
 | none=>rfl
 | some j=>
   simp only[Option.bind_some,UQ]
   cases es[j]? with
   | none=>rfl
   | some e=>simp only[Option.bind_some,EJ];split<;>rfl
@[go_sem] theorem Sy (k : IntKind) (n : Int) : EJ H 1 (.int k n) = some (.ep [.int k n], H) := (rfl)
@[go_sem] theorem Pz (b : Bool) : EJ H 1 (.bool b) = some (.ep [.bool b], H) := (rfl)
@[go_sem] theorem UT (es : List T) : EJ H 1 (.sl es) = some (.ep [.sl es], H) := (rfl)
def jQ{α:Type}:Nat→List α→Bool
 | 0,[]=>true
 | n+1,_::r=>jQ n r
 | _,_=>false
@[go_sem] theorem UU {α : Type} : jQ 0 ([] : List α) = true := (rfl)
@[go_sem] theorem UW {α : Type} (n : Nat) (a : α) (l : List α) : jQ (n + 1) (a :: l) = jQ n l := (rfl)
theorem eC{α:Type}:∀ {n:Nat} {l:List α},jQ n l=true↔l.length=n
 | 0,[]=>by simp[jQ]
 | 0,_::_=>by simp[jQ]
 | n+1,[]=>by simp[jQ]
 | n+1,_::r=>by simp only[jQ,List.length_cons,Nat.add_right_cancel_iff];exact eC
@[go_sem] theorem Sz (cs : List T) (sz : Nat) : EJ H sz (.agg cs) = if jQ sz cs = true then some (.ep cs, H) else none := by
 by_cases h:cs.length=sz
 · rw[EJ,if_pos (show(T.agg cs).cells.length=sz from h),if_pos (eC.2 h)];rfl
 · rw[EJ,if_neg (show ¬(T.agg cs).cells.length=sz from h),if_neg fun e=>h (eC.1 e)]
def IS(sz id ep n j:Nat):Option Obj→Option (D×aj)
 | some (.arr sz' _ ep' es)=>if ep=ep'∧n=es.length then(if j<n∧sz'=sz then some (.ap id ep n j 0,H)else none)else none
 | _=>none
@[go_sem] theorem SA (k : IntKind) (id ep n : Nat) (i : Int) (sz : Nat) : IQ H sz (some (.ref id ep n)) (some (.t (.int k i))) = (idx i).bind fun j => IS H sz id ep n j H[id]? := by
 simp only[IQ,Option.bind_some,intOf,tT]
 cases idx i with
 | none=>rfl
 | some j=>
   simp only[Option.bind_some,eL]
   generalize H[id]?=o
   rcases o with _ | (_ | ⟨sz',pin,ep',es⟩)
   · rfl
   · rfl
   · simp only[IS]
     by_cases h:ep=ep'∧n=es.length
     · rw[if_pos h,if_pos h,Option.bind_some];split<;>rfl
     · rw[if_neg h,if_neg h];rfl
@[go_sem] theorem PA (sz id ep n j sz' : Nat) (pin : Bool) (ep' : Nat) (es : List D) : IS H sz id ep n j (some (.arr sz' pin ep' es)) =
 if ep=ep'∧n=es.length then(if j<n∧sz'=sz then some (.ap id ep n j 0,H)else none)else none:=(rfl)
def IT(sz id ep n lo hi j:Nat):Option Obj→Option (D×aj)
 | some (.arr sz' _ ep' es)=>if ep=ep'∧n=es.length then(if lo+j<hi∧hi≤n∧sz'=sz then some (.ap id ep n (lo+j) 0,H)else none)else none
 | _=>none
@[go_sem] theorem SB (k : IntKind) (id ep n lo hi : Nat) (i : Int) (sz : Nat) : IQ H sz (some (.sub id ep n lo hi)) (some (.t (.int k i))) = (idx i).bind fun j => IT H sz id ep n lo hi j H[id]? := by
 simp only[IQ,Option.bind_some,intOf,tT]
 cases idx i with
 | none=>rfl
 | some j=>
   simp only[Option.bind_some,eL]
   generalize H[id]?=o
   rcases o with _ | (_ | ⟨sz',pin,ep',es⟩)
   · rfl
   · rfl
   · simp only[IT]
     by_cases h:ep=ep'∧n=es.length
     · rw[if_pos h,if_pos h,Option.bind_some];split<;>rfl
     · rw[if_neg h,if_neg h];rfl
@[go_sem] theorem PB (sz id ep n lo hi j sz' : Nat) (pin : Bool) (ep' : Nat) (es : List D) : IT H sz id ep n lo hi j (some (.arr sz' pin ep' es)) =
 if ep=ep'∧n=es.length then(if lo+j<hi∧hi≤n∧sz'=sz then some (.ap id ep n (lo+j) 0,H)else none)else none:=(rfl)
def UX(len sz:Nat)(agg:Bool)(x i:Option D):Option (D×aj):=x.bind fun a=>(i.bind intOf).bind fun n=>(idx n).bind fun j=>(ta a j len sz agg).map fun d=>(d,H)
def PC(len sz:Nat)(agg:Bool)(a:D)(j:Nat):Option (D×aj):=(ta a j len sz agg).map fun d=>(d,H)
@[go_sem] theorem YM (x i : X) (len sz : Nat) (agg : Bool) : evO call get H (.ix x i len sz agg) = UX H len sz agg (get x) (get i) := (rfl)
@[go_sem] theorem UY (len sz : Nat) (agg : Bool) (a : D) (k : IntKind) (n : Int) : UX H len sz agg (some a) (some (.t (.int k n))) = (idx n).bind (PC H len sz agg a) := by
 simp only[UX,Option.bind_some,intOf];cases idx n<;>rfl
@[go_sem] theorem SC (len j : Nat) (ts : List T) (h : j < len) (hs : (ts.all fun t => t.scalar) = true) : PC H len 1 false (.t (.agg ts)) j = (ts[j]?).map fun t => (.t t, H) := by
 have h0:len≠0:=by omega
 unfold PC ta
 rw[if_neg h0,if_pos h]
 unfold nZ cut
 simp only[D.isAgg,D.cells,T.cells,if_true,Nat.mul_one,List.length_map]
 by_cases hj:j<ts.length
 · rw[if_pos (by omega),List.getElem?_eq_getElem hj]
   have e:((ts.map D.t).drop j).take 1=[D.t ts[j]]:=by
    rw[List.drop_eq_getElem_cons (by simpa using hj)];simp
   rw[e];rfl
 · rw[if_neg (by omega),List.getElem?_eq_none (by omega)];rfl
def IU(len sz:Nat)(x i:Option D):Option (D×aj):=x.bind fun a=>(i.bind intOf).bind fun n=>(idx n).bind fun j=>if j<len then(zF a (j*sz)).map fun d=>(d,H)else none
@[go_sem] theorem Xo (x i : X) (len sz : Nat) : evO call get H (.iaa x i len sz) = IU H len sz (get x) (get i) := (rfl)
def Xp(len sz:Nat)(a:D)(j:Nat):Option (D×aj):=if j<len then MG H (j*sz) a else none
@[go_sem] theorem UZ (len sz : Nat) (a : D) (j : Nat) : Xp H len sz a j = if j < len then MG H (j * sz) a else none := (rfl)
@[go_sem] theorem SD (len sz : Nat) (a : D) (k : IntKind) (n : Int) : IU H len sz (some a) (some (.t (.int k n))) = (idx n).bind (Xp H len sz a) := by
 simp only[IU,Option.bind_some,intOf];cases idx n<;>rfl
def DM(n:Nat)(agg:Bool)(a:D):Option (D×aj):=(o6 H a n agg).map fun d=>(d,H)
@[go_sem] theorem YN (x : X) (n : Nat) (agg : Bool) : evO call get H (.ld x n agg) = (get x).bind (DM H n agg) := (rfl)
def EK(off n:Nat)(agg:Bool):Option Obj→Option (D×aj)
 | some (.box cs)=>ofC H agg (cut cs off n)
 | _=>none
@[go_sem] theorem SE (off n : Nat) (agg : Bool) (cs : List D) : EK H off n agg (some (.box cs)) = ofC H agg (cut cs off n) := (rfl)
@[go_sem] theorem U0 (id off n : Nat) (agg : Bool) : DM H n agg (.bp id off) = EK H off n agg H[id]? := by
 simp only[DM,o6]
 generalize H[id]?=o
 rcases o with _ | (cs | _)
 · rfl
 · simp only[EK,ofC];cases (cut cs off n).bind (dz agg)<;>rfl
 · rfl
@[go_sem] theorem U1 (cs : List T) (n : Nat) (agg : Bool) : DM H n agg (.ep cs) = ofC H agg (cut (cs.map .t) 0 n) := by
 simp only[DM,o6,ofC];cases (cut _ 0 n).bind (dz agg)<;>rfl
def SF(off n:Nat)(agg:Bool)(e:D):Option (D×aj):=ofC H agg (cut e.cells off n)
@[go_sem] theorem U2 (off n : Nat) (agg : Bool) (e : D) : SF H off n agg e = ofC H agg (cut e.cells off n) := (rfl)
def IV(ep m i off n:Nat)(agg:Bool):Option Obj→Option (D×aj)
 | some (.arr _ _ ep' es)=>if ep=ep'∧m=es.length then es[i]?.bind (SF H off n agg)else none
 | _=>none
@[go_sem] theorem SG (ep m i off n : Nat) (agg : Bool) (sz : Nat) (pin : Bool) (ep' : Nat) (es : List D) :
 IV H ep m i off n agg (some (.arr sz pin ep' es))=if ep=ep'∧m=es.length then es[i]?.bind (SF H off n agg)else none:=(rfl)
@[go_sem] theorem U3 (id ep m i off n : Nat) (agg : Bool) : DM H n agg (.ap id ep m i off) = IV H ep m i off n agg H[id]? := by
 simp only[DM,o6,eL]
 generalize H[id]?=o
 rcases o with _ | (_ | ⟨sz',pin,ep',es⟩)
 · rfl
 · rfl
 · simp only[IV]
   by_cases h:ep=ep'∧m=es.length
   · rw[if_pos h,if_pos h,Option.bind_some]
     cases es[i]? with
     | none=>rfl
     | some e=>simp only[Option.bind_some,SF,ofC];cases (cut e.cells off n).bind (dz agg)<;>rfl
   · rw[if_neg h,if_neg h];rfl
@[go_sem] theorem MH (cs : List D) : (D.agg cs).cells = cs := (rfl)
@[go_sem] theorem SI (x : T) : (D.t x).cells = x.cells.map .t := (rfl)
@[go_sem] theorem MI : D.nil.cells = [.nil] := (rfl)
@[go_sem] theorem PD (a b : Nat) : (D.bp a b).cells = [.bp a b] := (rfl)
@[go_sem] theorem MJ (a b c : Nat) : (D.ref a b c).cells = [.ref a b c] := (rfl)
@[go_sem] theorem MK (a b c d e : Nat) : (D.sub a b c d e).cells = [.sub a b c d e] := (rfl)
@[go_sem] theorem PE (f : Nat) (cs : List D) : (D.fn f cs).cells = [.fn f cs] := (rfl)
@[go_sem] theorem IW : D.nilp.cells = [.nilp] := (rfl)
@[go_sem] theorem ML (cs : List T) : (T.agg cs).cells = cs := (rfl)
@[go_sem] theorem MM (k : IntKind) (n : Int) : (T.int k n).cells = [.int k n] := (rfl)
@[go_sem] theorem IX (b : Bool) : (T.bool b).cells = [.bool b] := (rfl)
@[go_sem] theorem MN (b : ByteArray) : (T.str b).cells = [.str b] := (rfl)
@[go_sem] theorem PF (es : List T) : (T.sl es).cells = [.sl es] := (rfl)
def fits(n:Nat)(v:D):Bool:=decide (v.cells.length=n)&&v.gv
section
variable (n : Nat)
@[go_sem] theorem fits_int (k : IntKind) (a : Int) : fits 1 (.t (.int k a)) = true := (rfl)
@[go_sem] theorem fits_bool (b : Bool) : fits 1 (.t (.bool b)) = true := (rfl)
@[go_sem] theorem U4 (es : List T) : fits 1 (.t (.sl es)) = true := (rfl)
@[go_sem] theorem SJ : fits 1 .nil = true := (rfl)
@[go_sem] theorem SK (a b c : Nat) : fits 1 (.ref a b c) = true := (rfl)
@[go_sem] theorem SL (a b c d e : Nat) : fits 1 (.sub a b c d e) = true := (rfl)
@[go_sem] theorem U5 (a b : Nat) : fits 1 (.bp a b) = true := (rfl)
@[go_sem] theorem U6 (f : Nat) (cs : List D) : fits 1 (.fn f cs) = true := (rfl)
@[go_sem] theorem SM (cs : List D) : fits n (.agg cs) = jQ n cs := by rw [Bool.eq_iff_iff, eC]; show (decide (cs.length = n) && true) = true ↔ _; simp
@[go_sem] theorem PG (cs : List T) : fits n (.t (.agg cs)) = jQ n cs := by rw [Bool.eq_iff_iff, eC]; simp [fits, D.cells, T.cells, D.gv]
end
@[go_sem] theorem IY {α : Type} (cs : List α) : ba cs 0 [] = some cs := by simp [ba]
@[go_sem] theorem IZ {α : Type} (c x : α) (cs xs : List α) : ba (c :: cs) 0 (x :: xs) = iE x (ba cs 0 xs) := by
 simp only[ba,iE];by_cases h:xs.length≤cs.length<;>simp[h]
@[go_sem] theorem I0 {α : Type} (c : α) (cs : List α) (off : Nat) (xs : List α) : ba (c :: cs) (off + 1) xs = iE c (ba cs off xs) := by
 simp only[ba,iE,List.length_cons]
 by_cases h:off+xs.length≤cs.length
 · rw[if_pos h,if_pos (by omega)];simp[show off+1+xs.length=(off+xs.length)+1 by omega]
 · rw[if_neg h,if_neg (by omega)];rfl
def I3(n:Nat)(live:List (Nat×Nat))(a x:Option D):Option (D×aj):=a.bind fun p=>x.bind fun d=>(pN H p d n).bind fun H'=>(kt H' p live).map fun H''=>(.tup [],H'')
@[go_sem] theorem YO (a x : X) (n : Nat) (live : List (Nat × Nat)) : evO call get H (.st a x n live) = I3 H n live (get a) (get x) := (rfl)
def tD(H:aj)(id:Nat)(live:List (Nat×Nat)):Option (D×aj):=(kt H (.bp id 0) live).map fun H'=>(.tup [],H')
def yZ(id:Nat)(live:List (Nat×Nat))(cs:List D):Option (D×aj):=tD (H.set id (.box cs)) id live
@[go_sem] theorem PH (id : Nat) (live : List (Nat × Nat)) (cs : List D) : yZ H id live cs = tD (H.set id (.box cs)) id live := (rfl)
@[go_sem] theorem MO (H : aj) (id : Nat) : tD H id [] = some (.tup [], H) := (rfl)
def I4(id off:Nat)(live:List (Nat×Nat))(xs:List D):Option Obj→Option (D×aj)
 | some (.box cs)=>(ba cs off xs).bind (yZ H id live)
 | _=>none
@[go_sem] theorem SN (id off : Nat) (live : List (Nat × Nat)) (xs cs : List D) : I4 H id off live xs (some (.box cs)) = (ba cs off xs).bind (yZ H id live) := (rfl)
@[go_sem] theorem U7 (n id off : Nat) (live : List (Nat × Nat)) (v : D) : I3 H n live (some (.bp id off)) (some v) = if fits n v = true then I4 H id off live v.cells H[id]? else none := by
 by_cases h:fits n v=true
 case neg=>
  rw[if_neg h]
  simp only[fits,Bool.and_eq_true,decide_eq_true_eq]at h
  simp only[I3,Option.bind_some,pN,if_neg h];rfl
 rw[if_pos h]
 simp only[fits,Bool.and_eq_true,decide_eq_true_eq]at h
 simp only[I3,Option.bind_some,pN,h.1,h.2,and_self,if_true]
 generalize H[id]?=o
 rcases o with _ | (cs | _)
 · rfl
 · simp only[I4]
   cases ba cs off v.cells with
   | none=>rfl
   | some cs'=>simp only[Option.map_some,Option.bind_some,yZ,tD,kt]
 · rfl
def vP(id sz ep i:Nat)(es:List D)(agg:Bool)(cs:List D):Option (D×aj):=(dz agg cs).bind fun e=>if e.gv then some (.tup [],H.set id (.arr sz false ep (es.set i e)))else none
def SO(id sz ep i off:Nat)(es xs:List D)(e:D):Option (D×aj):=(ba e.cells off xs).bind (vP H id sz ep i es e.isAgg)
@[go_sem] theorem U8 (id sz ep i off : Nat) (es xs : List D) (e : D) : SO H id sz ep i off es xs e = (ba e.cells off xs).bind (vP H id sz ep i es e.isAgg) := (rfl)
@[go_sem] theorem PI (cs : List D) : (D.agg cs).isAgg = true := (rfl)
@[go_sem] theorem MP (cs : List T) : (D.t (.agg cs)).isAgg = true := (rfl)
@[go_sem] theorem PJ (k : IntKind) (n : Int) : (D.t (.int k n)).isAgg = false := (rfl)
@[go_sem] theorem MQ (b : Bool) : (D.t (.bool b)).isAgg = false := (rfl)
@[go_sem] theorem PL (b : ByteArray) : (D.t (.str b)).isAgg = false := (rfl)
@[go_sem] theorem SP (es : List T) : (D.t (.sl es)).isAgg = false := (rfl)
@[go_sem] theorem PM : D.nil.isAgg = false := (rfl)
@[go_sem] theorem PN (a b c : Nat) : (D.ref a b c).isAgg = false := (rfl)
@[go_sem] theorem PO (a b c d e : Nat) : (D.sub a b c d e).isAgg = false := (rfl)
@[go_sem] theorem U9 (id sz ep i : Nat) (es : List D) (x : T) : vP H id sz ep i es false [.t x] = some (.tup [], H.set id (.arr sz false ep (es.set i (.t x)))) := (rfl)
@[go_sem] theorem PQ (id sz ep i : Nat) (es : List D) : vP H id sz ep i es false [.nil] = some (.tup [], H.set id (.arr sz false ep (es.set i .nil))) := (rfl)
@[go_sem] theorem PR (id sz ep i a b c : Nat) (es : List D) : vP H id sz ep i es false [.ref a b c] = some (.tup [], H.set id (.arr sz false ep (es.set i (.ref a b c)))) := (rfl)
theorem xP(cs:List D):(mD cs).gv=true:=by unfold mD;cases kp cs<;>rfl
@[go_sem] theorem Va (id sz ep i : Nat) (es cs : List D) : vP H id sz ep i es true cs = some (.tup [], H.set id (.arr sz false ep (es.set i (mD cs)))) := by
 simp[vP,dz,xP]
def I5(id ep m i off:Nat)(xs:List D):Option Obj→Option (D×aj)
 | some (.arr sz pin ep' es)=>if ep=ep'∧m=es.length then(if pin then none else es[i]?.bind (SO H id sz ep i off es xs))else none
 | _=>none
@[go_sem] theorem SQ (id ep m i off : Nat) (xs : List D) (sz : Nat) (pin : Bool) (ep' : Nat) (es : List D) :
 I5 H id ep m i off xs (some (.arr sz pin ep' es))=if ep=ep'∧m=es.length then(if pin=true then none else es[i]?.bind (SO H id sz ep i off es xs))else none:=(rfl)
@[go_sem] theorem Vb (n id ep m i off : Nat) (v : D) : I3 H n [] (some (.ap id ep m i off)) (some v) = if fits n v = true then I5 H id ep m i off v.cells H[id]? else none := by
 by_cases h:fits n v=true
 case neg=>
  rw[if_neg h]
  simp only[fits,Bool.and_eq_true,decide_eq_true_eq]at h
  simp only[I3,Option.bind_some,pN,if_neg h];rfl
 rw[if_pos h]
 simp only[fits,Bool.and_eq_true,decide_eq_true_eq]at h
 simp only[I3,Option.bind_some,pN,h.1,h.2,and_self,if_true,eL]
 generalize H[id]?=o
 rcases o with _ | (_ | ⟨sz',pin,ep',es⟩)
 · rfl
 · rfl
 · simp only[I5]
   by_cases h:ep=ep'∧m=es.length
   · rw[if_pos h,if_pos h,Option.bind_some]
     cases pin with
     | true=>rfl
     | false=>
       simp only[Bool.false_eq_true,if_false]
       cases es[i]? with
       | none=>rfl
       | some e=>
         simp only[Option.bind_some,SO]
         cases ba e.cells off v.cells with
         | none=>rfl
         | some cs'=>
           simp only[Option.bind_some,vP]
           cases dz e.isAgg cs' with
           | none=>rfl
           | some e'=>
             simp only[Option.bind_some]
             by_cases h3:e'.gv=true
             · rw[if_pos h3,if_pos h3,h.1];rfl
             · rw[if_neg h3,if_neg h3];rfl
   · rw[if_neg h,if_neg h];rfl
def I6(zero:List D)(ps:List (Nat×Nat×D)):Option (D×aj):=(nX zero ps).map fun cs=>(mD cs,H)
@[go_sem] theorem YP (zero : List D) (parts : List (Nat × Nat × X)) : evO call get H (.bd zero parts) = (i7 get parts).bind (I6 H zero) := (rfl)
@[go_sem] theorem Gx : i7 get [] = some [] := (rfl)
def PS(off n:Nat)(r:List (Nat×Nat×X))(d:D):Option (List (Nat×Nat×D)):=iE (off,n,d) (i7 get r)
@[go_sem] theorem SR (off n : Nat) (r : List (Nat × Nat × X)) (d : D) : PS get off n r d = iE (off, n, d) (i7 get r) := (rfl)
@[go_sem] theorem EL (off n : Nat) (x : X) (r : List (Nat × Nat × X)) : i7 get ((off, n, x) :: r) = (get x).bind (PS get off n r) := (rfl)
@[go_sem] theorem SS (zero : List D) : I6 H zero [] = some (mD zero, H) := (rfl)
def bdC(r:List (Nat×Nat×D))(z:List D):Option (D×aj):=I6 H z r
@[go_sem] theorem Xq (r : List (Nat × Nat × D)) (z : List D) : bdC H r z = I6 H z r := (rfl)
@[go_sem] theorem PT (zero : List D) (off n : Nat) (x : D) (r : List (Nat × Nat × D)) : I6 H zero ((off, n, x) :: r) = if fits n x = true then (ba zero off x.cells).bind (bdC H r) else none := by
 by_cases h:fits n x=true
 case neg=>
  rw[if_neg h]
  have h2:(x.gv&&x.cells.length==n)=false:=by rw[← Bool.not_eq_true,Bool.and_comm];simpa [fits]using h
  simp only[I6,nX,h2];rfl
 rw[if_pos h]
 simp only[fits,Bool.and_eq_true,decide_eq_true_eq]at h
 simp only[I6,nX,h.1,h.2,beq_self_eq_true,Bool.and_self,if_true]
 cases ba zero off x.cells<;>rfl
def bP(n:Nat):List T→Bool
 | []=>true
 | x::r=>jQ n x.cells&&bP n r
@[go_sem] theorem Gy (n : Nat) : bP n [] = true := (rfl)
@[go_sem] theorem oB (n : Nat) (x : T) (r : List T) : bP n (x :: r) = (jQ n x.cells && bP n r) := (rfl)
def tE(sz:Nat)(ds:List D):Option (D×aj):=if ds.all (fun d=>d.cells.length==sz)then(bX (frz H depth) ds).map fun ts=>(.t (.sl ts),pins H (ds.flatMap (dN H depth)))else none
@[go_sem] theorem YQ (xs : List X) (sz : Nat) : evO call get H (.bs xs sz) = (bX get xs).bind (tE H sz) := (rfl)
theorem PU(sz:Nat)(ds:List D)(ts:List T)(h:kp ds=some ts)(hc:bP sz ts=true):tE H sz ds=some (.t (.sl ts),H):=by
 have key:∀(ds:List D) (ts:List T),kp ds=some ts→bP sz ts=true→ds.all (fun d=>d.cells.length==sz)=true∧bX (frz H depth) ds=some ts∧ds.flatMap (dN H depth)=[]:=by
  intro ds
  induction ds with
  | nil=>intro ts h hc;simp[kp]at h;subst h;simp[bX]
  | cons d ds ih=>
    intro ts h hc
    cases d with
    | t x=>
      simp only[kp,Option.map_eq_some_iff]at h
      obtain⟨r,hr,rfl⟩:=h
      simp only[bP,Bool.and_eq_true,eC]at hc
      obtain⟨h1,h2,h3⟩:=ih r hr hc.2
      refine⟨by rw[List.all_cons,h1,Bool.and_true];simp[D.cells,hc.1],by simp[bX,frz,h2],by rw[List.flatMap_cons,h3];simp[dN]⟩
    | _=>simp[kp]at h
 obtain⟨h1,h2,h3⟩:=key ds ts h hc
 simp[tE,h1,h2,h3,pins]
theorem lH(sz:Nat)(ts:List T):tE H sz (ts.map D.t)=if bP sz ts=true then some (.t (.sl ts),H)else none:=by
 by_cases h:bP sz ts=true
 · rw[if_pos h];exact PU H sz _ ts (EI ts) h
 · rw[if_neg h]
   have:(ts.map D.t).all (fun d=>d.cells.length==sz)=false:=by
    rw[← Bool.not_eq_true];intro ha;apply h
    clear h
    induction ts with
    | nil=>rfl
    | cons a r ih=>
      simp only[List.map_cons,List.all_cons,Bool.and_eq_true,beq_iff_eq]at ha
      simp only[bP,Bool.and_eq_true,eC]
      exact⟨by simpa [D.cells]using ha.1,ih ha.2⟩
   simp only[tE,this];rfl
@[go_sem] theorem Xr (sz : Nat) : tE H sz [] = some (.t (.sl []), H) := (rfl)
@[go_sem] theorem Xs (sz : Nat) (a : T) : tE H sz [.t a] = if bP sz [a] = true then some (.t (.sl [a]), H) else none := lH H sz [a]
@[go_sem] theorem Xt (sz : Nat) (a b : T) : tE H sz [.t a, .t b] = if bP sz [a, b] = true then some (.t (.sl [a, b]), H) else none := lH H sz [a, b]
@[go_sem] theorem Xu (sz : Nat) (a b c : T) : tE H sz [.t a, .t b, .t c] = if bP sz [a, b, c] = true then some (.t (.sl [a, b, c]), H) else none := lH H sz [a, b, c]
@[go_sem] theorem Xv (sz : Nat) (a b c d : T) : tE H sz [.t a, .t b, .t c, .t d] = if bP sz [a, b, c, d] = true then some (.t (.sl [a, b, c, d]), H) else none := lH H sz [a, b, c, d]
@[go_sem] theorem Xw (sz : Nat) (a b c d e : T) : tE H sz [.t a, .t b, .t c, .t d, .t e] = if bP sz [a, b, c, d, e] = true then some (.t (.sl [a, b, c, d, e]), H) else none := lH H sz [a, b, c, d, e]
def PV(a:D):Option (D×aj):=(RO a).map fun(n:Nat)=>(D.t (.int .i64 (n:Int)),H)
@[go_sem] theorem YR (x : X) : evO call get H (.ln x) = (get x).bind (PV H) := (rfl)
@[go_sem] theorem Vc (es : List T) : PV H (.t (.sl es)) = some (I es.length, H) := (rfl)
@[go_sem] theorem SU : PV H .nil = some (I 0, H) := (rfl)
@[go_sem] theorem SV (id ep n : Nat) : PV H (.ref id ep n) = some (I n, H) := (rfl)
@[go_sem] theorem SW (id ep n lo hi : Nat) : PV H (.sub id ep n lo hi) = some (I ((hi - lo : Nat) : Int), H) := (rfl)
def PW(ds:List D):Option (D×aj):=(Ow ds).map fun d=>(d,H)
def PX(ds:List D):Option (D×aj):=(Ox ds).map fun d=>(d,H)
@[go_sem] theorem YS (xs : List X) : evO call get H (.mn xs) = (bX get xs).bind (PW H) := (rfl)
@[go_sem] theorem YT (xs : List X) : evO call get H (.mx xs) = (bX get xs).bind (PX H) := (rfl)
@[go_sem] theorem Xx (k : IntKind) (a b : Int) : PW H [.t (.int k a), .t (.int k b)] = some (.t (.int k (min a b)), H) := by
 simp only[PW,Ow,sN,if_true,Option.map_some];congr 4;omega
@[go_sem] theorem Xy (k : IntKind) (a b : Int) : PX H [.t (.int k a), .t (.int k b)] = some (.t (.int k (max a b)), H) := by
 simp only[PX,Ox,sN,if_true,Option.map_some];congr 4;omega
@[go_sem] theorem Xz (k : IntKind) (a b c : Int) : PW H [.t (.int k a), .t (.int k b), .t (.int k c)] = some (.t (.int k (min (min a b) c)), H) := by
 simp only[PW,Ow,sN,if_true,Option.map_some];congr 4;omega
@[go_sem] theorem XA (k : IntKind) (a b c : Int) : PX H [.t (.int k a), .t (.int k b), .t (.int k c)] = some (.t (.int k (max (max a b) c)), H) := by
 simp only[PX,Ox,sN,if_true,Option.map_some];congr 4;omega
def vQ(sz:Nat)(x:Option D)(lo hi:Option (Option Int)):Option (D×aj):=x.bind fun a=>lo.bind fun l=>hi.bind fun h=>(jG H a l h sz).map fun d=>(d,H)
@[go_sem] theorem YU (x : X) (lo hi : Option X) (sz : Nat) : evO call get H (.sc x lo hi sz) = vQ H sz (get x) (zG get lo) (zG get hi) := (rfl)
def PY:D→Option (Option Int)
 | .t (.int _ n)=>some (some n)
 | _=>none
@[go_sem] theorem SX (k : IntKind) (n : Int) : PY (.t (.int k n)) = some (some n) := (rfl)
@[go_sem] theorem PZ : zG get none = some none := (rfl)
@[go_sem] theorem P0 (x : X) : zG get (some x) = (get x).bind PY := by
 simp only[zG];cases get x with
 | none=>rfl
 | some d=>cases d with
   | t y=>cases y<;>rfl
   | _=>rfl
def Vd(i:Nat)(a:D):Option (D×aj):=(Oy i a).map fun d=>(d,H)
@[go_sem] theorem YV (x : X) (i : Nat) : evO call get H (.ex x i) = (get x).bind (Vd H i) := (rfl)
def exO:Option D→Option (D×aj)
 | some d=>some (d,H)
 | none=>none
@[go_sem] theorem SY (d : D) : exO H (some d) = some (d, H) := (rfl)
@[go_sem] theorem SZ (i : Nat) (ds : List D) : Vd H i (.tup ds) = exO H ds[i]? := by simp only [Vd, Oy, exO]; cases ds[i]? <;> rfl
def Ve(f:Nat)(ds:List D):Option (D×aj):=some (.fn f ds,H)
@[go_sem] theorem Vf (f : Nat) (ds : List D) : Ve H f ds = some (.fn f ds, H) := (rfl)
@[go_sem] theorem YW (f : Nat) (caps : List X) : evO call get H (.mf f caps) = (bX get caps).bind (Ve H f) := by simp only [evO, Ve]; cases bX get caps <;> rfl
@[go_sem] theorem YX (sz : Nat) : evO call get H (.nw sz) = some (.ref H.length 0 0, H ++ [.arr sz false 0 []]) := (rfl)
def alP(p:List D×aj):Option (D×aj):=some (.bp H.length 0,H++ .box p.1::p.2)
@[go_sem] theorem XB (cs : List D) (os : aj) : alP H (cs, os) = some (.bp H.length 0, H ++ .box cs :: os) := (rfl)
@[go_sem] theorem YY (zero : List D) (live : List (Nat × Nat)) : evO call get H (.al zero live) = alP H (bL (H.length + 1) zero live) := (rfl)
@[go_sem] theorem I7 (base : Nat) (cs : List D) : bL base cs [] = (cs, []) := (rfl)
def Vg(n:Nat)(a:D):Option (D×aj):=if a.cells.length=n∧a.gv then some (.bp H.length 0,H++[.box a.cells])else none
@[go_sem] theorem YZ (x : X) (n : Nat) : evO call get H (.bx x n) = (get x).bind (Vg H n) := (rfl)
@[go_sem] theorem Vh (n : Nat) (a : D) : Vg H n a = if fits n a = true then some (.bp H.length 0, H ++ [.box a.cells]) else none := by
 simp[Vg,fits]
def S0(sz:Nat)(zero:D)(n:Option Nat):Option (D×aj):=n.bind fun m=>if m≤lim then some (.ref H.length 0 m,H++[.arr sz false 0 (List.replicate m zero)])else none
def mkN(sz:Nat)(zero:D):D→Option (D×aj)
 | .t (.int _ n)=>S0 H sz zero (idx n)
 | _=>none
@[go_sem] theorem Vi (sz : Nat) (zero : D) (k : IntKind) (n : Int) : mkN H sz zero (.t (.int k n)) = S0 H sz zero (idx n) := (rfl)
@[go_sem] theorem Y0 (len : X) (zero : D) (sz : Nat) : evO call get H (.mk len zero sz) = (get len).bind (mkN H sz zero) := by
 simp only[evO];cases get len with
 | none=>rfl
 | some d=>cases d with
   | t y=>cases y<;>rfl
   | _=>rfl
@[go_sem] theorem Vj (sz : Nat) (zero : D) (m : Nat) (h : m ≤ 4294967296) : S0 H sz zero (some m) = some (.ref H.length 0 m, H ++ [.arr sz false 0 (List.replicate m zero)]) := by
 simp[S0,lim,h]
def EM(zero:T)(n:Option Nat):Option (D×aj):=n.bind fun m=>if m≤lim then some (.t (.sl (List.replicate m zero)),H)else none
def XC(zero:T):D→Option (D×aj)
 | .t (.int _ n)=>EM H zero (idx n)
 | _=>none
@[go_sem] theorem S1 (zero : T) (k : IntKind) (n : Int) : XC H zero (.t (.int k n)) = EM H zero (idx n) := (rfl)
@[go_sem] theorem XD (len : X) (zero : T) (sz : Nat) : evO call get H (.mkt len zero sz) = (get len).bind (XC H zero) := by
 simp only[evO];cases get len with
 | none=>rfl
 | some d=>cases d with
   | t y=>cases y<;>rfl
   | _=>rfl
@[go_sem] theorem S2 (zero : T) (m : Nat) (h : m ≤ 4294967296) : EM H zero (some m) = some (.t (.sl (List.replicate m zero)), H) := by
 simp[EM,lim,h]
def jD(sz:Nat)(fz:Bool)(x y:Option D):Option (D×aj):=x.bind fun a=>y.bind fun b=>iN H a b fz sz
@[go_sem] theorem XE (x y : X) (fz : Bool) (sz : Nat) : evO call get H (.app x y fz sz) = jD H sz fz (get x) (get y) := (rfl)
def p4(sz id ep n:Nat)(ys:List D):Option Obj→Option (D×aj)
 | some (.arr sz' pin ep' es)=>if ep=ep'∧n=es.length∧sz'=sz∧n+ys.length≤lim then some (.ref id ep (n+ys.length),H.set id (.arr sz pin ep (es++ys)))else none
 | _=>none
@[go_sem] theorem P1 (sz id ep n : Nat) (ys : List D) (pin : Bool) (es : List D) :
 p4 H sz id ep n ys (some (.arr sz pin ep es))=if n=es.length then(if n+ys.length≤4294967296 then some (.ref id ep (n+ys.length),H.set id (.arr sz pin ep (es++ys)))else none)else none:=by
 simp only[p4,lim]
 by_cases h1:n=es.length
 · rw[if_pos h1]
   by_cases h2:n+ys.length≤4294967296
   · rw[if_pos h2,if_pos ⟨trivial,h1,trivial,h2⟩]
   · rw[if_neg h2,if_neg fun h=>h2 h.2.2.2]
 · rw[if_neg h1,if_neg fun h=>h1 h.2.1]
theorem oC(ts:List T):bX (fun d=>(frz H depth d).map D.t) (ts.map D.t)=some (ts.map D.t):=by
 induction ts with
 | nil=>rfl
 | cons t ts ih=>simp[bX,frz,ih]
theorem BU(ts:List T):(ts.map D.t).flatMap (dN H depth)=[]:=by
 induction ts with
 | nil=>rfl
 | cons t ts ih=>rw[List.map_cons,List.flatMap_cons,ih];simp[dN,depth]
theorem vR(sz:Nat)(fz:Bool)(x:D)(ts:List T)(h:cz sz (ts.map D.t)=false):jD H sz fz (some x) (some (.t (.sl ts)))=none:=by
 have e1:(if fz then bX (fun d=>(frz H depth d).map D.t) (ts.map D.t)else some (ts.map D.t))=some (ts.map D.t):=by
  cases fz<;>simp[oC]
 simp only[jD,Option.bind_some,iN,elems,e1,h,Bool.false_eq_true,if_false]
def ja(sz:Nat)(ts:List T):Bool:=cz sz (ts.map D.t)
theorem BW(sz id ep n:Nat)(fz:Bool)(ts:List T)(h:ja sz ts=true):jD H sz fz (some (.ref id ep n)) (some (.t (.sl ts)))=p4 H sz id ep n (ts.map .t) H[id]?:=by
 have e1:(if fz then bX (fun d=>(frz H depth d).map D.t) (ts.map D.t)else some (ts.map D.t))=some (ts.map D.t):=by
  cases fz<;>simp[oC]
 have e2:(if fz then pins H ((ts.map D.t).flatMap (dN H depth))else H)=H:=by
  cases fz
  · rfl
  · simp only[if_true];rw[BU];rfl
 unfold ja at h
 simp only[jD,Option.bind_some,iN,elems,e1,h,if_true,e2,eL]
 generalize H[id]?=o
 rcases o with _ | (_ | ⟨sz',pin,ep',es⟩)
 · rfl
 · rfl
 · simp only[p4]
   by_cases h1:ep=ep'∧n=es.length
   · rw[if_pos h1,Option.bind_some]
     by_cases h2:sz'=sz∧n+(ts.map D.t).length≤lim
     · rw[if_pos h2,if_pos ⟨h1.1,h1.2,h2⟩]
     · rw[if_neg h2,if_neg fun h=>h2 h.2.2]
   · rw[if_neg h1,if_neg fun h=>h1 ⟨h.1,h.2.1⟩];rfl
@[go_sem] theorem P2 (sz id ep n : Nat) (fz : Bool) (ts : List T) : jD H sz fz (some (.ref id ep n)) (some (.t (.sl ts))) = if ja sz ts = true then p4 H sz id ep n (ts.map .t) H[id]? else none := by
 by_cases h:ja sz ts=true
 · rw[if_pos h,BW H sz id ep n fz ts h]
 · rw[if_neg h];exact vR H sz fz _ ts (by simpa [ja]using h)
@[go_sem] theorem P3 (sz : Nat) (fz : Bool) (ts : List T) : jD H sz fz (some .nil) (some (.t (.sl ts))) =
 if ja sz ts=true then(if ts.length≤4294967296 then some (.ref H.length 0 ts.length,H++[.arr sz false 0 (ts.map .t)])else none)else none:=by
 by_cases h:ja sz ts=true
 · rw[if_pos h]
   have e1:(if fz then bX (fun d=>(frz H depth d).map D.t) (ts.map D.t)else some (ts.map D.t))=some (ts.map D.t):=by
    cases fz<;>simp[oC]
   have e2:(if fz then pins H ((ts.map D.t).flatMap (dN H depth))else H)=H:=by
    cases fz
    · rfl
    · simp only[if_true];rw[BU];rfl
   unfold ja at h
   simp only[jD,Option.bind_some,iN,elems,e1,h,if_true,e2,lim,List.length_map]
 · rw[if_neg h];exact vR H sz fz _ ts (by simpa [ja]using h)
@[go_sem] theorem P4 (sz : Nat) : ja sz [] = true := (rfl)
@[go_sem] theorem MR (sz : Nat) (x : T) (r : List T) : ja sz (x :: r) = jQ sz x.cells := by
 rw[Bool.eq_iff_iff,eC];simp[ja,cz,D.cells]
@[go_sem] theorem P5 (l : List Int) (k : IntKind) : ja 1 (l.map (.int k)) = true := by cases l <;> rfl
@[go_sem] theorem MS (l : List Bool) : ja 1 (l.map .bool) = true := by cases l <;> rfl
@[go_sem] theorem S3 (l : List (List T)) : ja 1 (l.map .sl) = true := by cases l <;> rfl
def zX(call:aS)(f raw:Nat)(keep:List Nat)(ds:List D):Option (D×aj):=nY call H f raw keep ds
@[go_sem] theorem Y1 (f raw : Nat) (keep : List Nat) (xs : List X) : evO call get H (.ca f raw keep xs) = (bX get xs).bind (zX H call f raw keep) := (rfl)
def XF(call:aS)(raw:Nat)(keep:List Nat)(x:Option D)(xs:Option (List D)):Option (D×aj):=x.bind fun
 | .fn f caps=>xs.bind fun ds=>nY call H f raw keep (ds++caps)
 | _=>none
@[go_sem] theorem Y2 (x : X) (raw : Nat) (keep : List Nat) (xs : List X) : evO call get H (.cw x raw keep xs) = XF H call raw keep (get x) (bX get xs) := (rfl)
@[go_sem] theorem Vk (raw : Nat) (keep : List Nat) (f : Nat) (caps ds : List D) : XF H call raw keep (some (.fn f caps)) (some ds) = zX H call f raw keep (ds ++ caps) := (rfl)
def jb(H:aj):List D→Option (List T)
 | []=>some []
 | .t x::r=>iE x (jb H r)
 | .nil::r=>iE (.sl []) (jb H r)
 | _::_=>none
@[go_sem] theorem Vl : jb H [] = some [] := (rfl)
@[go_sem] theorem Vm (x : T) (r : List D) : jb H (.t x :: r) = iE x (jb H r) := (rfl)
@[go_sem] theorem P6 (r : List D) : jb H (.nil :: r) = iE (.sl []) (jb H r) := (rfl)
@[go_sem] theorem P7 (cs : List D) (r : List D) : jb H (.agg cs :: r) = none := (rfl)
@[go_sem] theorem S4 (a b : Nat) (r : List D) : jb H (.bp a b :: r) = none := (rfl)
@[go_sem] theorem P8 (a b c : Nat) (r : List D) : jb H (.ref a b c :: r) = none := (rfl)
@[go_sem] theorem P9 (a b c d e : Nat) (r : List D) : jb H (.sub a b c d e :: r) = none := (rfl)
@[go_sem] theorem S5 (f : Nat) (cs : List D) (r : List D) : jb H (.fn f cs :: r) = none := (rfl)
@[go_sem] theorem S6 (a b c d e : Nat) (r : List D) : jb H (.ap a b c d e :: r) = none := (rfl)
@[go_sem] theorem S7 (cs : List T) (r : List D) : jb H (.ep cs :: r) = none := (rfl)
@[go_sem] theorem MT (r : List D) : jb H (.nilp :: r) = none := (rfl)
@[go_sem] theorem Qa (r : List D) : jb H (.und :: r) = none := (rfl)
end
theorem nz(H:aj):∀ {ds:List D} {ts:List T},jb H ds=some ts→∀i,kr H [] i ds=some (ts.map .t)∧cA H [] i ds=[]
 | [],ts,h,i=>by simp[jb]at h;subst h;exact⟨rfl,rfl⟩
 | d::r,ts,h,i=>by
   cases d with
   | t x=>
     simp only[jb,iE,Option.map_eq_some_iff]at h
     obtain⟨l,hl,rfl⟩:=h
     obtain⟨h1,h2⟩:=nz H hl (i+1)
     exact⟨by simp[kr,m7,h1],by simp[cA,dN,depth,h2]⟩
   | nil=>
     simp only[jb,iE,Option.map_eq_some_iff]at h
     obtain⟨l,hl,rfl⟩:=h
     obtain⟨h1,h2⟩:=nz H hl (i+1)
     exact⟨by simp[kr,m7,h1],by simp[cA,dN,depth,h2]⟩
   | _=>simp[jb]at h
theorem BX(ts:List T)(n:Nat):(ts.map D.t).flatMap (ids n)=[]:=by
 induction ts with
 | nil=>rfl
 | cons t ts ih=>rw[List.map_cons,List.flatMap_cons,ih];simp[ids]
theorem I8(f:Nat→Option Nat)(ts:List T):bX (ren f depth) (ts.map .t)=some (ts.map .t):=by
 induction ts with
 | nil=>rfl
 | cons t ts ih=>simp[bX,ren,depth]at ih ⊢;exact ih
def qq:D→Bool
 | .t _=>true
 | .tup ds=>ds.all fun | .t _=>true | _=>false
 | _=>false
theorem uo{f:Nat→Option Nat}{d:D}(h:qq d=true):ren f depth d=some d:=by
 cases d with
 | t x=>rfl
 | tup ds=>
   simp only[qq]at h
   have:bX (ren f 7) ds=some ds:=by
    induction ds with
    | nil=>rfl
    | cons d ds ih=>
      simp only[List.all_cons,Bool.and_eq_true]at h
      cases d with
      | t x=>simp[bX,ren,ih h.2]
      | _=>simp at h
   simp[ren,depth,this]
 | _=>simp[qq]at h
def rU(H:aj)(p:D×aj):Option (D×aj):=if qq p.1&&p.2.isEmpty then some (p.1,H)else
 (ren (dv [] H.length) depth p.1).bind fun r'=>(bX (fE (dv [] H.length)) p.2).map fun os=>(r',H++os)
@[go_sem] theorem Vn (H : aj) (x : T) : rU H (.t x, []) = some (.t x, H) := (rfl)
@[go_sem] theorem Vo (H : aj) : rU H (.tup [], []) = some (.tup [], H) := (rfl)
@[go_sem] theorem Vp (H : aj) (x y : T) : rU H (.tup [.t x, .t y], []) = some (.tup [.t x, .t y], H) := (rfl)
@[go_sem] theorem Vq (H : aj) (x y z : T) : rU H (.tup [.t x, .t y, .t z], []) = some (.tup [.t x, .t y, .t z], H) := (rfl)
@[go_sem] theorem Vr (H : aj) (x y z u : T) : rU H (.tup [.t x, .t y, .t z, .t u], []) = some (.tup [.t x, .t y, .t z, .t u], H) := (rfl)
theorem BZ(H:aj)(call:aS)(f raw:Nat)(ds:List D)(ts:List T)(h:jb H ds=some ts):
 zX H call f raw [] ds=(call raw f (ts.map .t) []).bind (rU H):=by
 obtain⟨h1,h2⟩:=nz H h 0
 simp only[zX,nY,h1,Option.bind_some,BX,ed,reach,ly,List.flatMap_nil,h2,pins,I8,pick,bX]
 cases hc:call raw f (ts.map .t) []with
 | none=>rfl
 | some p=>
   obtain⟨d,os⟩:=p
   simp only[Option.bind_some,List.isEmpty_nil,Bool.true_and,rU]
   by_cases h3:os=[]
   · subst h3
     simp only[List.isEmpty_nil,Bool.true_and,Bool.and_true,bX,Option.map_some,List.length_nil,List.take_nil,cN,List.drop_nil,List.append_nil]
     by_cases h4:qq d=true
     · rw[if_pos h4]
       split
       · rfl
       · rw[uo h4];rfl
     · rw[if_neg h4]
       split
       · rename_i h5
         exfalso
         apply h4
         cases d with
         | t x=>rfl
         | tup ds=>
           simp only[kq,List.all_eq_true]at h5
           simp only[qq,List.all_eq_true]
           intro y hy
           have:=h5 y hy
           cases y<;>simp_all [bz]
         | _=>simp[kq]at h5
       · rfl
   · have:os.isEmpty=false:=by cases os<;>simp_all
     simp only[this,Bool.false_and,Bool.and_false,if_false,Bool.false_eq_true,List.length_nil,List.take_zero,cN,List.drop_zero]
@[go_sem] theorem MU (st : St) : gA st [] = some [] := (rfl)
def XG(st:St)(r:List (Nat×Option (Nat×Bool)))(d:D):Option (List D):=iE d (gA st r)
@[go_sem] theorem Vs (vs : List D) (H : aj) (r : List (Nat × Option (Nat × Bool))) (d : D) : XG ⟨vs, H⟩ r d = iE d (gA ⟨vs, H⟩ r) := (rfl)
@[go_sem] theorem MV (vs : List D) (H : aj) (j : Nat) (r : List (Nat × Option (Nat × Bool))) : gA ⟨vs, H⟩ ((j, none) :: r) = vs[j]?.bind (XG ⟨vs, H⟩ r) := (rfl)
def Vt(st:St)(r:List (Nat×Option (Nat×Bool)))(p:D×aj):Option (List D):=iE p.1 (gA st r)
@[go_sem] theorem Vu (vs : List D) (H : aj) (r : List (Nat × Option (Nat × Bool))) (d : D) (H' : aj) : Vt ⟨vs, H⟩ r (d, H') = iE d (gA ⟨vs, H⟩ r) := (rfl)
def Vv(st:St)(n:Nat)(agg:Bool)(r:List (Nat×Option (Nat×Bool)))(p:D):Option (List D):=(DM st.H n agg p).bind (Vt st r)
@[go_sem] theorem Vw (vs : List D) (H : aj) (n : Nat) (agg : Bool) (r : List (Nat × Option (Nat × Bool))) (p : D) : Vv ⟨vs, H⟩ n agg r p = (DM H n agg p).bind (Vt ⟨vs, H⟩ r) := (rfl)
@[go_sem] theorem I9 (vs : List D) (H : aj) (j n : Nat) (agg : Bool) (r : List (Nat × Option (Nat × Bool))) : gA ⟨vs, H⟩ ((j, some (n, agg)) :: r) = vs[j]?.bind (Vv ⟨vs, H⟩ n agg r) := by
 simp only[gA]
 cases vs[j]? with
 | none=>rfl
 | some p=>
   simp only[Option.bind_some,Vv,DM]
   cases o6 H p n agg<;>rfl
@[go_sem] theorem Vx (H : aj) (n : Nat) (x : T) : frz H n (.t x) = some x := by cases n <;> rfl
@[go_sem] theorem Vy (H : aj) (n : Nat) : frz H n .nil = some (.sl []) := by cases n <;> rfl
@[go_sem] theorem Vz (H : aj) (n : Nat) (cs : List D) : frz H (n + 1) (.agg cs) = (bX (frz H n) cs).map .agg := (rfl)
@[go_sem] theorem zY (H : aj) (n : Nat) (ts : List T) : bX (frz H n) (ts.map .t) = some ts := by
 induction ts with
 | nil=>rfl
 | cons t ts ih=>simp[bX,Vx,ih]
def frA(H:aj)(n ep m lo hi:Nat):Option Obj→Option T
 | some (.arr _ _ ep' es)=>if ep=ep'∧m=es.length then(bX (frz H n) ((es.drop lo).take (hi-lo))).map .sl else none
 | _=>none
def frR(H:aj)(n ep m:Nat):Option Obj→Option T
 | some (.arr _ _ ep' es)=>if ep=ep'∧m=es.length then(bX (frz H n) es).map .sl else none
 | _=>none
@[go_sem] theorem VA (H : aj) (n id ep m : Nat) : frz H (n + 1) (.ref id ep m) = frR H n ep m H[id]? := by
 simp only[frz,eL]
 generalize H[id]?=o
 rcases o with _ | (_ | ⟨sz',pin,ep',es⟩)
 · rfl
 · rfl
 · simp only[frR]
   by_cases h:ep=ep'∧m=es.length
   · rw[if_pos h,if_pos h];rfl
   · rw[if_neg h,if_neg h];rfl
@[go_sem] theorem VB (H : aj) (n id ep m lo hi : Nat) : frz H (n + 1) (.sub id ep m lo hi) = frA H n ep m lo hi H[id]? := by
 simp only[frz,eL]
 generalize H[id]?=o
 rcases o with _ | (_ | ⟨sz',pin,ep',es⟩)
 · rfl
 · rfl
 · simp only[frA]
   by_cases h:ep=ep'∧m=es.length
   · rw[if_pos h,if_pos h];rfl
   · rw[if_neg h,if_neg h];rfl
@[go_sem] theorem VC (H : aj) (n ep m sz : Nat) (pin : Bool) (es : List D) : frR H n ep m (some (.arr sz pin ep es)) = if m = es.length then (bX (frz H n) es).map .sl else none := by simp [frR]
@[go_sem] theorem VD (H : aj) (n ep m lo hi sz : Nat) (pin : Bool) (es : List D) : frA H n ep m lo hi (some (.arr sz pin ep es)) = if m = es.length then (bX (frz H n) ((es.drop lo).take (hi - lo))).map .sl else none := by simp [frA]
@[go_sem] theorem Qb (H : aj) (x : T) : m7 H (.t x) = some (.t x) := (rfl)
@[go_sem] theorem S8 (H : aj) : m7 H .nil = some (.t (.sl [])) := (rfl)
@[go_sem] theorem S9 (H : aj) (cs : List D) : m7 H (.agg cs) = (frz H 8 (.agg cs)).map .t := (rfl)
@[go_sem] theorem Ta (H : aj) (id ep n : Nat) : m7 H (.ref id ep n) = (frz H 8 (.ref id ep n)).map .t := (rfl)
@[go_sem] theorem Tb (H : aj) (id ep n lo hi : Nat) : m7 H (.sub id ep n lo hi) = (frz H 8 (.sub id ep n lo hi)).map .t := (rfl)
@[go_sem] theorem Ja (H : aj) (id off : Nat) : m7 H (.bp id off) = some (.bp id off) := (rfl)
@[go_sem] theorem VE (H : aj) (id ep n i off : Nat) : m7 H (.ap id ep n i off) = some (.ap id ep n i off) := (rfl)
@[go_sem] theorem VF (H : aj) (cs : List T) : m7 H (.ep cs) = some (.ep cs) := (rfl)
@[go_sem] theorem VG (H : aj) (f : Nat) (cs : List D) : m7 H (.fn f cs) = some (.fn f cs) := (rfl)
def ltB:Nat→Nat→Bool
 | _,0=>false
 | 0,_+1=>true
 | m+1,n+1=>ltB m n
@[go_sem] theorem Y3 (m : Nat) : ltB m 0 = false := by cases m <;> rfl
@[go_sem] theorem XH (n : Nat) : ltB 0 (n + 1) = true := (rfl)
@[go_sem] theorem XI (m n : Nat) : ltB (m + 1) (n + 1) = ltB m n := (rfl)
theorem kD:∀ {m n:Nat},ltB m n=decide (m<n)
 | m,0=>by cases m<;>simp[ltB]
 | 0,n+1=>by simp[ltB]
 | m+1,n+1=>by simp[ltB,kD (m:=m) (n:=n)]
def eqB:Nat→Nat→Bool
 | 0,0=>true
 | m+1,n+1=>eqB m n
 | _,_=>false
@[go_sem] theorem XJ : eqB 0 0 = true := (rfl)
@[go_sem] theorem XK (n : Nat) : eqB 0 (n + 1) = false := (rfl)
@[go_sem] theorem XL (n : Nat) : eqB (n + 1) 0 = false := (rfl)
@[go_sem] theorem XM (m n : Nat) : eqB (m + 1) (n + 1) = eqB m n := (rfl)
theorem xQ:∀ {m n:Nat},eqB m n=decide (m=n)
 | 0,0=>rfl
 | 0,n+1=>rfl
 | m+1,0=>rfl
 | m+1,n+1=>by simp[eqB,xQ (m:=m) (n:=n)]
section
variable (k n : Nat)
@[go_sem] theorem VH (x : T) : old k n (.t x) = true := by cases n <;> rfl
@[go_sem] theorem VI : old k n .nil = true := by cases n <;> rfl
@[go_sem] theorem XN (cs : List T) : old k n (.ep cs) = true := by cases n <;> rfl
@[go_sem] theorem Tc : old k n .nilp = true := by cases n <;> rfl
@[go_sem] theorem VJ : old k n .und = true := by cases n <;> rfl
@[go_sem] theorem Qc (id off : Nat) : old k n (.bp id off) = ltB id k := by cases n <;> simp [old, kD]
@[go_sem] theorem XO (id ep m i off : Nat) : old k n (.ap id ep m i off) = ltB id k := by cases n <;> simp [old, kD]
@[go_sem] theorem VK (id ep m : Nat) : old k n (.ref id ep m) = ltB id k := by cases n <;> simp [old, kD]
@[go_sem] theorem VL (id ep m lo hi : Nat) : old k n (.sub id ep m lo hi) = ltB id k := by cases n <;> simp [old, kD]
def eT(n:Nat)(cs:List D):Bool:=cs.all (old k n)
@[go_sem] theorem MW : eT k n [] = true := (rfl)
@[go_sem] theorem xR (d : D) (r : List D) : eT k n (d :: r) = (old k n d && eT k n r) := (rfl)
@[go_sem] theorem y0 (ts : List T) : eT k n (ts.map .t) = true := by
 induction ts with
 | nil=>rfl
 | cons t ts ih=>rw[List.map_cons,xR,VH,ih];rfl
@[go_sem] theorem MX (m : Nat) (x : T) : eT k n (List.replicate m (.t x)) = true := by
 have:List.replicate m (D.t x)=(List.replicate m x).map .t:=by simp
 rw[this,y0]
@[go_sem] theorem MY (a b : List D) : eT k n (a ++ b) = (eT k n a && eT k n b) := by simp [eT]
@[go_sem] theorem VM (cs : List D) : old k (n + 1) (.agg cs) = eT k n cs := (rfl)
@[go_sem] theorem VN (cs : List D) : old k (n + 1) (.tup cs) = eT k n cs := (rfl)
@[go_sem] theorem XP (f : Nat) (cs : List D) : old k (n + 1) (.fn f cs) = eT k n cs := (rfl)
end
def ef(k:Nat):aj→Bool
 | []=>true
 | .box cs::r=>eT k 8 cs&&ef k r
 | .arr _ _ _ es::r=>eT k 8 es&&ef k r
@[go_sem] theorem Jb (k : Nat) : ef k [] = true := (rfl)
@[go_sem] theorem Jc (k : Nat) (cs : List D) (r : aj) : ef k (.box cs :: r) = (eT k 8 cs && ef k r) := (rfl)
@[go_sem] theorem Jd (k sz ep : Nat) (pin : Bool) (es : List D) (r : aj) : ef k (.arr sz pin ep es :: r) = (eT k 8 es && ef k r) := (rfl)
theorem jd(k:Nat)(H:aj):H.all (fun o=>o.ds.all (old k depth))=ef k H:=by
 induction H with
 | nil=>rfl
 | cons o r ih=>rw[List.all_cons,ih];cases o<;>rfl
def Je(d:D)(b:Bool):D:=if b then d else .und
@[go_sem] theorem MZ (d : D) : Je d true = d := (rfl)
@[go_sem] theorem Jf (d : D) : Je d false = .und := (rfl)
@[go_sem] theorem VO (k : Nat) (d : D) : kill k d = Je d (old k 8 d) := (rfl)
def zZ(k:Nat):List D→List D
 | []=>[]
 | d::r=>kill k d::zZ k r
@[go_sem] theorem Qd (k : Nat) : zZ k [] = [] := (rfl)
@[go_sem] theorem M0 (k : Nat) (d : D) (r : List D) : zZ k (d :: r) = kill k d :: zZ k r := (rfl)
theorem EN(k:Nat)(vs:List D):vs.map (kill k)=zZ k vs:=by
 induction vs with
 | nil=>rfl
 | cons d r ih=>rw[List.map_cons,ih];rfl
@[go_sem] theorem Td (k : Nat) (vs : List D) (H : aj) : zH k ⟨vs, H⟩ = if ef k (H.take k) = true then some ⟨zZ k vs, H.take k⟩ else none := by
 simp only[zH,jd,EN]
@[go_sem] theorem B0 (H : aj) (n : Nat) (x : T) : dN H n (.t x) = [] := by cases n <;> rfl
@[go_sem] theorem Te (H : aj) (n : Nat) : dN H n .nil = [] := by cases n <;> rfl
@[go_sem] theorem Jg (H : aj) (n id off : Nat) : dN H n (.bp id off) = [] := by cases n <;> rfl
@[go_sem] theorem VP (H : aj) (n f : Nat) (cs : List D) : dN H n (.fn f cs) = [] := by cases n <;> rfl
@[go_sem] theorem VQ (H : aj) (n : Nat) (cs : List T) : dN H n (.ep cs) = [] := by cases n <;> rfl
@[go_sem] theorem VR (H : aj) (n a b c d e : Nat) : dN H n (.ap a b c d e) = [] := by cases n <;> rfl
def mH(H:aj)(n:Nat)(cs:List D):List Nat:=cs.flatMap (dN H n)
@[go_sem] theorem Qe (H : aj) (n : Nat) : mH H n [] = [] := (rfl)
@[go_sem] theorem Aa (H : aj) (n : Nat) (d : D) (r : List D) : mH H n (d :: r) = dN H n d ++ mH H n r := (rfl)
@[go_sem] theorem VS (H : aj) (n : Nat) (ts : List T) : mH H n (ts.map .t) = [] := by
 induction ts with
 | nil=>rfl
 | cons t ts ih=>rw[List.map_cons,Aa,ih,B0];rfl
@[go_sem] theorem Qf (H : aj) (n : Nat) (a b : List D) : mH H n (a ++ b) = mH H n a ++ mH H n b := by simp [mH]
@[go_sem] theorem Tf (H : aj) (n : Nat) (cs : List D) : dN H (n + 1) (.agg cs) = mH H n cs := (rfl)
def Jh(H:aj)(n:Nat):Option Obj→List Nat
 | some (.arr _ _ _ es)=>mH H n es
 | _=>[]
@[go_sem] theorem Qg (H : aj) (n sz ep : Nat) (pin : Bool) (es : List D) : Jh H n (some (.arr sz pin ep es)) = mH H n es := (rfl)
@[go_sem] theorem Tg (H : aj) (n id ep m : Nat) : dN H (n + 1) (.ref id ep m) = id :: Jh H n H[id]? := (rfl)
@[go_sem] theorem Th (H : aj) (n id ep m lo hi : Nat) : dN H (n + 1) (.sub id ep m lo hi) = id :: Jh H n H[id]? := (rfl)
@[go_sem] theorem VT : qn [] = .tup [] := (rfl)
@[go_sem] theorem VU (d : D) : qn [d] = d := (rfl)
@[go_sem] theorem VV (a b : D) (r : List D) : qn (a :: b :: r) = .tup (a :: b :: r) := (rfl)
def vS(k:Nat):List Nat→Bool
 | []=>true
 | i::r=> !ltB i k&&vS k r
@[go_sem] theorem Qh (k : Nat) : vS k [] = true := (rfl)
@[go_sem] theorem M1 (k i : Nat) (r : List Nat) : vS k (i :: r) = (!ltB i k && vS k r) := (rfl)
theorem y5(k:Nat)(l:List Nat):l.all (fun i=>decide (k≤i))=vS k l:=by
 induction l with
 | nil=>rfl
 | cons i r ih=>
   rw[List.all_cons,ih]
   simp only[vS,kD]
   congr 1
   rw[Bool.eq_iff_iff];simp
def Ti(k raw:Nat)(H:aj)(ds rs:List D):Option (D×aj):=
 (jH H (max raw 1) (List.range k) (rs.flatMap (ids depth)++ly H (List.range k))).bind fun q=>
  if(gN H raw ds).all (fun i=> !(List.range k++q.1).contains i)then
   (bX (ren (idxOf (List.range k++q.1)) depth) rs).bind fun rs'=>
    (bX (fE (idxOf (List.range k++q.1))) (H.take k++q.2)).map fun hs'=>(qn rs',hs')
  else none
def M3(k raw:Nat)(H:aj)(ds rs:List D)(b:Bool):Option (D×aj):=
 if b then(if vS k (gN H raw ds)=true then some (qn rs,H.take k)else none)else Ti k raw H ds rs
@[go_sem] theorem Qi (k raw : Nat) (H : aj) (ds rs : List D) : M3 k raw H ds rs true = if vS k (gN H raw ds) = true then some (qn rs, H.take k) else none := (rfl)
def Qj(k raw:Nat)(H:aj)(ds rs:List D):Option (D×aj):=M3 k raw H ds rs (eT k 8 rs&&ef k (H.take k))
@[go_sem] theorem VW (k raw : Nat) (H : aj) (ds rs : List D) : Qj k raw H ds rs = M3 k raw H ds rs (eT k 8 rs && ef k (H.take k)) := (rfl)
@[go_sem] theorem Qk (k : Nat) (H : aj) (ds : List D) : finish k 0 H ds = (bX (m7 H) ds).bind (Qj k 0 H ds) := by
 simp only[finish,if_true,jd,y5]
 cases bX (m7 H) ds with
 | none=>rfl
 | some rs=>
   simp only[Option.bind_some,Qj,M3]
   show(if(eT k 8 rs&&ef k (H.take k))=true then _ else _)=_
   cases (eT k 8 rs&&ef k (H.take k))<;>rfl
@[go_sem] theorem Ql (H : aj) (ds : List D) : gN H 0 ds = mH H 8 ds := (rfl)
@[go_sem] theorem Qm (vs : List D) : cR [] vs = vs := (rfl)
@[go_sem] theorem M4 (i : Nat) (r : List Nat) (vs : List D) : cR (i :: r) vs = cR r (vs.set i .und) := (rfl)
@[go_sem] theorem VX (dead : List Nat) (k : Nat) (vs : List D) (H : aj) : tidy false dead k ⟨vs, H⟩ = some ⟨cR dead vs, H⟩ := (rfl)
@[go_sem] theorem VY (dead : List Nat) (k : Nat) (vs : List D) (H : aj) : tidy true dead k ⟨vs, H⟩ = zH k ⟨cR dead vs, H⟩ := (rfl)
section
variable (H : aj) (call : aS) (f raw : Nat) (keep : List Nat) (ds : List D)
def uq(H1:aj)(n:Nat)(sel:List Nat)(p:D×aj):Option (D×aj):=
 (ren (dv sel n) depth p.1).bind fun r'=>(bX (fE (dv sel n)) p.2).map fun os=>(r',cN H1 sel (os.take sel.length)++os.drop sel.length)
def nB(H1:aj)(sel:List Nat)(p:D×aj):Option (D×aj):=
 if sel.isEmpty&&p.2.isEmpty&&kq p.1 then some (p.1,H)else uq H1 H.length sel p
def Ji(args:List D)(H1:aj)(sel:List Nat)(hs:aj):Option (D×aj):=(call raw f args hs).bind (nB H H1 sel)
def Jj(args:List D)(H1:aj)(sel:List Nat)(hs:aj):Option (D×aj):=(bX (fE (idxOf sel)) hs).bind (Ji H call f raw args H1 sel)
def Jk(H1:aj)(sel:List Nat)(args:List D):Option (D×aj):=(pick H1 sel).bind (Jj H call f raw args H1 sel)
def Jl(args:List D)(sel:List Nat):Option (D×aj):=(bX (ren (idxOf sel) depth) args).bind (Jk H call f raw (pins H (cA H keep 0 ds)) sel)
def rV(n:Nat)(cs:List D):List Nat:=cs.flatMap (ids n)
def Jm(args:List D):Option (D×aj):=Jl H call f raw keep ds args (reach H 3 (ed [] (rV 8 args)))
def B1:Option (D×aj):=(kr H keep 0 ds).bind (Jm H call f raw keep ds)
theorem EO:zX H call f raw keep ds=B1 H call f raw keep ds:=(rfl)
@[go_sem] theorem EP : B1 H call f raw keep ds = (kr H keep 0 ds).bind (Jm H call f raw keep ds) := (rfl)
@[go_sem] theorem ER (args : List D) : Jm H call f raw keep ds args = Jl H call f raw keep ds args (reach H 3 (ed [] (rV 8 args))) := (rfl)
@[go_sem] theorem ES (args : List D) (sel : List Nat) : Jl H call f raw keep ds args sel = (bX (ren (idxOf sel) 8) args).bind (Jk H call f raw (pins H (cA H keep 0 ds)) sel) := (rfl)
@[go_sem] theorem ET (H1 : aj) (sel : List Nat) (args : List D) : Jk H call f raw H1 sel args = (pick H1 sel).bind (Jj H call f raw args H1 sel) := (rfl)
@[go_sem] theorem EU (args : List D) (H1 : aj) (sel : List Nat) (hs : aj) : Jj H call f raw args H1 sel hs = (bX (fE (idxOf sel)) hs).bind (Ji H call f raw args H1 sel) := (rfl)
@[go_sem] theorem EW (args : List D) (H1 : aj) (sel : List Nat) (hs : aj) : Ji H call f raw args H1 sel hs = (call raw f args hs).bind (nB H H1 sel) := (rfl)
def EX(H1:aj)(sel:List Nat)(r:D)(os:aj):Option (D×aj):=some (r,cN H1 sel (os.take sel.length)++os.drop sel.length)
@[go_sem] theorem EY (H1 : aj) (sel : List Nat) (r : D) (os : aj) : EX H1 sel r os = some (r, cN H1 sel (os.take sel.length) ++ os.drop sel.length) := (rfl)
def Jn(H1:aj)(n:Nat)(sel:List Nat)(os:aj)(r:D):Option (D×aj):=(bX (fE (dv sel n)) os).bind (EX H1 sel r)
@[go_sem] theorem y6 (H1 : aj) (n : Nat) (sel : List Nat) (os : aj) (r : D) : Jn H1 n sel os r = (bX (fE (dv sel n)) os).bind (EX H1 sel r) := (rfl)
@[go_sem] theorem y7 (H1 : aj) (n : Nat) (sel : List Nat) (r : D) (os : aj) : uq H1 n sel (r, os) = (ren (dv sel n) 8 r).bind (Jn H1 n sel os) := by
 simp only[uq,depth]
 cases ren (dv sel n) 8 r with
 | none=>rfl
 | some r'=>simp only[Option.bind_some,Jn];cases bX (fE (dv sel n)) os<;>rfl
@[go_sem] theorem Qn (H1 : aj) (i : Nat) (sel : List Nat) (p : D × aj) : nB H H1 (i :: sel) p = uq H1 H.length (i :: sel) p := (rfl)
@[go_sem] theorem Tj (H1 : aj) (sel : List Nat) (r : D) (o : Obj) (os : aj) : nB H H1 sel (r, o :: os) = uq H1 H.length sel (r, o :: os) := by
 simp[nB]
@[go_sem] theorem VZ (H1 : aj) (k : IntKind) (n : Int) : nB H H1 [] (.t (.int k n), []) = some (.t (.int k n), H) := (rfl)
@[go_sem] theorem V0 (H1 : aj) (b : Bool) : nB H H1 [] (.t (.bool b), []) = some (.t (.bool b), H) := (rfl)
@[go_sem] theorem Tk (H1 : aj) (es : List T) : nB H H1 [] (.t (.sl es), []) = some (.t (.sl es), H1) := by simp [nB, uq, kq, T.scalar, ren, depth, bX, cN]
@[go_sem] theorem Qo (H1 : aj) (es : List T) : nB H H1 [] (.t (.agg es), []) = some (.t (.agg es), H1) := by simp [nB, uq, kq, T.scalar, ren, depth, bX, cN]
@[go_sem] theorem Qp (H1 : aj) (ds : List D) : nB H H1 [] (.tup ds, []) = if ds.all bz then some (.tup ds, H) else uq H1 H.length [] (.tup ds, []) := by
 simp[nB,kq]
def Jo:Option (List T)→Option (D×aj)
 | some ts=>(call raw f (ts.map .t) []).bind (rU H)
 | none=>B1 H call f raw [] ds
@[go_sem] theorem M5 (ts : List T) : Jo H call f raw ds (some ts) = (call raw f (ts.map .t) []).bind (rU H) := (rfl)
@[go_sem] theorem M6 : Jo H call f raw ds none = B1 H call f raw [] ds := (rfl)
@[go_sem] theorem V1 : zX H call f raw [] ds = Jo H call f raw ds (jb H ds) := by
 cases h:jb H ds with
 | none=>rfl
 | some ts=>exact BZ H call f raw ds ts h
@[go_sem] theorem XQ (k : Nat) : zX H call f raw (k :: keep) ds = B1 H call f raw (k :: keep) ds := (rfl)
end
section
variable (H : aj) (keep : List Nat)
@[go_sem] theorem Qq (i : Nat) : kr H keep i [] = some [] := (rfl)
def xd(i:Nat):List Nat→Bool
 | []=>false
 | j::r=>eqB i j||xd i r
@[go_sem] theorem Tl (i : Nat) : xd i [] = false := (rfl)
@[go_sem] theorem Qr (i j : Nat) (r : List Nat) : xd i (j :: r) = (eqB i j || xd i r) := (rfl)
theorem ur(i:Nat)(l:List Nat):l.contains i=xd i l:=by
 induction l with
 | nil=>rfl
 | cons j r ih=>rw[List.contains_cons,ih];simp only[xd,xQ];rw[beq_eq_decide_nat]
where beq_eq_decide_nat {a b:Nat}:(a==b)=decide (a=b):=by rw[Bool.eq_iff_iff];simp
def V2(d:D):Bool→Option D
 | true=>some d
 | false=>m7 H d
@[go_sem] theorem XR (d : D) : V2 H d true = some d := (rfl)
@[go_sem] theorem Gz (d : D) : V2 H d false = m7 H d := (rfl)
def XT(i:Nat)(r:List D)(x:D):Option (List D):=iE x (kr H keep (i+1) r)
@[go_sem] theorem B2 (i : Nat) (r : List D) (x : D) : XT H keep i r x = iE x (kr H keep (i + 1) r) := (rfl)
@[go_sem] theorem tF (i : Nat) (d : D) (r : List D) : kr H keep i (d :: r) = (V2 H d (xd i keep)).bind (XT H keep i r) := by
 simp only[kr,ur]
 cases xd i keep<;>rfl
@[go_sem] theorem DN (i : Nat) : cA H keep i [] = [] := (rfl)
def frK(l:List Nat):Bool→List Nat
 | true=>[]
 | false=>l
@[go_sem] theorem Y4 (l : List Nat) : frK l true = [] := (rfl)
@[go_sem] theorem Qs (l : List Nat) : frK l false = l := (rfl)
@[go_sem] theorem lI (i : Nat) (d : D) (r : List D) : cA H keep i (d :: r) = frK (dN H 8 d) (xd i keep) ++ cA H keep (i + 1) r := by
 simp only[cA,ur]
 cases xd i keep<;>rfl
@[go_sem] theorem Tm (H : aj) : pins H [] = H := (rfl)
@[go_sem] theorem Qt (H : aj) (i : Nat) (r : List Nat) : pins H (i :: r) = pins (H.modify i yD) r := (rfl)
def Ab(i:Nat):Option Obj→aj
 | some (.arr sz _ ep es)=>H.set i (.arr sz true ep es)
 | _=>H
@[go_sem] theorem Qu (i : Nat) (cs : List D) : Ab H i (some (.box cs)) = H := (rfl)
@[go_sem] theorem Qv (i sz ep : Nat) (pin : Bool) (es : List D) : Ab H i (some (.arr sz pin ep es)) = H.set i (.arr sz true ep es) := (rfl)
theorem EZ{α:Type}{l:List α}{i:Nat}{x:α}(h:l[i]?=some x):l.set i x=l:=by
 apply List.ext_getElem?
 intro j
 rw[List.getElem?_set]
 split
 · rename_i e;subst e
   split
   · exact h.symm
   · rename_i hl;rw[List.getElem?_eq_none (by omega)]at h;cases h
 · rfl
@[go_sem] theorem M7 (i : Nat) : List.modify H i yD = Ab H i H[i]? := by
 apply List.ext_getElem?
 intro j
 rw[List.getElem?_modify]
 cases h:H[i]? with
 | none=>
   simp only[Ab]
   by_cases e:i=j
   · subst e;rw[h];simp
   · simp[e]
 | some o=>
   have hi:i<H.length:=(List.getElem?_eq_some_iff.1 h).1
   cases o with
   | box cs=>
     simp only[Ab]
     by_cases e:i=j
     · subst e;rw[h];simp[yD]
     · simp[e]
   | arr sz pin ep es=>
     simp only[Ab]
     rw[List.getElem?_set]
     by_cases e:i=j
     · subst e;rw[h];simp[yD,hi]
     · simp[e]
section
variable (n : Nat)
@[go_sem] theorem Y5 (x : T) : ids n (.t x) = [] := by cases n <;> rfl
@[go_sem] theorem V3 : ids n .nil = [] := by cases n <;> rfl
@[go_sem] theorem Tn : ids n .nilp = [] := by cases n <;> rfl
@[go_sem] theorem V4 : ids n .und = [] := by cases n <;> rfl
@[go_sem] theorem XU (cs : List T) : ids n (.ep cs) = [] := by cases n <;> rfl
@[go_sem] theorem Qw (id off : Nat) : ids n (.bp id off) = [id] := by cases n <;> rfl
@[go_sem] theorem XV (id ep m i off : Nat) : ids n (.ap id ep m i off) = [id] := by cases n <;> rfl
@[go_sem] theorem V5 (id ep m : Nat) : ids n (.ref id ep m) = [id] := by cases n <;> rfl
@[go_sem] theorem V6 (id ep m lo hi : Nat) : ids n (.sub id ep m lo hi) = [id] := by cases n <;> rfl
@[go_sem] theorem V7 (cs : List D) : ids (n + 1) (.agg cs) = rV n cs := (rfl)
@[go_sem] theorem V8 (cs : List D) : ids (n + 1) (.tup cs) = rV n cs := (rfl)
@[go_sem] theorem Qx (f : Nat) (cs : List D) : ids (n + 1) (.fn f cs) = rV n cs := (rfl)
@[go_sem] theorem E1 : rV n [] = [] := (rfl)
@[go_sem] theorem B3 (d : D) (r : List D) : rV n (d :: r) = ids n d ++ rV n r := (rfl)
@[go_sem] theorem y8 (ts : List T) : rV n (ts.map .t) = [] := BX ts n
@[go_sem] theorem y9 (a b : List D) : rV n (a ++ b) = rV n a ++ rV n b := by simp [rV]
@[go_sem] theorem To (m : Nat) (x : T) : rV n (List.replicate m (.t x)) = [] := by
 have:List.replicate m (D.t x)=(List.replicate m x).map .t:=by simp
 rw[this,y8]
end
def B4(sel:List Nat)(i:Nat):Bool→List Nat
 | true=>sel
 | false=>sel++[i]
@[go_sem] theorem Tp (sel : List Nat) (i : Nat) : B4 sel i true = sel := (rfl)
@[go_sem] theorem Tq (sel : List Nat) (i : Nat) : B4 sel i false = sel ++ [i] := (rfl)
@[go_sem] theorem M8 (sel : List Nat) : ed sel [] = sel := (rfl)
@[go_sem] theorem Jp (sel : List Nat) (i : Nat) (r : List Nat) : ed sel (i :: r) = ed (B4 sel i (xd i sel)) r := by
 simp only[ed,ur]
 cases xd i sel<;>rfl
def za:Option Obj→List Nat
 | some (.box cs)=>rV 8 cs
 | some (.arr _ _ _ es)=>rV 8 es
 | none=>[]
@[go_sem] theorem M9 (cs : List D) : za (some (.box cs)) = rV 8 cs := (rfl)
@[go_sem] theorem Na (sz ep : Nat) (pin : Bool) (es : List D) : za (some (.arr sz pin ep es)) = rV 8 es := (rfl)
@[go_sem] theorem Qy : ly H [] = [] := (rfl)
@[go_sem] theorem Nb (i : Nat) (r : List Nat) : ly H (i :: r) = za H[i]? ++ ly H r := by
 simp only[ly,List.flatMap_cons]
 congr 1
 cases H[i]? with
 | none=>rfl
 | some o=>cases o<;>rfl
@[go_sem] theorem V9 (sel : List Nat) : reach H 0 sel = sel := (rfl)
@[go_sem] theorem Wa (n : Nat) (sel : List Nat) : reach H (n + 1) sel = reach H n (ed sel (ly H sel)) := (rfl)
@[go_sem] theorem Ts : pick H [] = some [] := (rfl)
def Qz(r:List Nat)(o:Obj):Option aj:=iE o (pick H r)
@[go_sem] theorem E2 (r : List Nat) (o : Obj) : Qz H r o = iE o (pick H r) := (rfl)
@[go_sem] theorem B5 (i : Nat) (r : List Nat) : pick H (i :: r) = H[i]?.bind (Qz H r) := (rfl)
end
section
variable (f : Nat → Option Nat) (n : Nat)
@[go_sem] theorem Wb (x : T) : ren f n (.t x) = some (.t x) := by cases n <;> rfl
@[go_sem] theorem Wc : ren f n .nil = some .nil := by cases n <;> rfl
@[go_sem] theorem Tt : ren f n .nilp = some .nilp := by cases n <;> rfl
@[go_sem] theorem Wd : ren f n .und = some .und := by cases n <;> rfl
@[go_sem] theorem XW (cs : List T) : ren f n (.ep cs) = some (.ep cs) := by cases n <;> rfl
def XX(off:Nat)(i:Nat):D:= .bp i off
@[go_sem] theorem We (off i : Nat) : XX off i = .bp i off := (rfl)
@[go_sem] theorem QA (id off : Nat) : ren f n (.bp id off) = (f id).map (XX off) := by cases n <;> rfl
def XY(ep m i off:Nat)(j:Nat):D:= .ap j ep m i off
@[go_sem] theorem Wf (ep m i off j : Nat) : XY ep m i off j = .ap j ep m i off := (rfl)
@[go_sem] theorem XZ (id ep m i off : Nat) : ren f n (.ap id ep m i off) = (f id).map (XY ep m i off) := by cases n <;> rfl
def QB(ep m:Nat)(j:Nat):D:= .ref j ep m
@[go_sem] theorem Tu (ep m j : Nat) : QB ep m j = .ref j ep m := (rfl)
@[go_sem] theorem Wg (id ep m : Nat) : ren f n (.ref id ep m) = (f id).map (QB ep m) := by cases n <;> rfl
def QC(ep m lo hi:Nat)(j:Nat):D:= .sub j ep m lo hi
@[go_sem] theorem Tv (ep m lo hi j : Nat) : QC ep m lo hi j = .sub j ep m lo hi := (rfl)
@[go_sem] theorem Wi (id ep m lo hi : Nat) : ren f n (.sub id ep m lo hi) = (f id).map (QC ep m lo hi) := by cases n <;> rfl
@[go_sem] theorem QD (g : Nat) (cs : List D) : ren f (n + 1) (.fn g cs) = (bX (ren f n) cs).map (.fn g) := (rfl)
@[go_sem] theorem Wj (cs : List D) : ren f (n + 1) (.agg cs) = (bX (ren f n) cs).map .agg := (rfl)
@[go_sem] theorem Wk (cs : List D) : ren f (n + 1) (.tup cs) = (bX (ren f n) cs).map .tup := (rfl)
@[go_sem] theorem my (ts : List T) : bX (ren f n) (ts.map .t) = some (ts.map .t) := by
 induction ts with
 | nil=>rfl
 | cons t ts ih=>rw[List.map_cons,vN,Wb,Option.bind_some,IL,ih];rfl
@[go_sem] theorem GA (m : Nat) (x : T) : bX (ren f n) (List.replicate m (.t x)) = some (List.replicate m (.t x)) := by
 have:List.replicate m (D.t x)=(List.replicate m x).map .t:=by simp
 rw[this,my]
@[go_sem] theorem Ac (cs : List D) : fE f (.box cs) = (bX (ren f 8) cs).map .box := (rfl)
@[go_sem] theorem Nc (sz ep : Nat) (pin : Bool) (es : List D) : fE f (.arr sz pin ep es) = (bX (ren f 8) es).map (.arr sz pin ep) := (rfl)
end
def Nd(x:Option Nat):Bool→Option Nat
 | true=>some 0
 | false=>x.map (· +1)
@[go_sem] theorem X0 (x : Option Nat) : Nd x true = some 0 := (rfl)
@[go_sem] theorem X1 (k : Nat) : Nd (some k) false = some (k + 1) := (rfl)
@[go_sem] theorem X2 : Nd none false = none := (rfl)
@[go_sem] theorem idxOf_nil (i : Nat) : idxOf [] i = none := (rfl)
@[go_sem] theorem idxOf_cons (j i : Nat) (r : List Nat) : idxOf (j :: r) i = Nd (idxOf r i) (eqB j i) := by
 simp only[idxOf,xQ]
 by_cases h:j=i
 · simp[h,Nd]
 · simp[h,Nd]
@[go_sem] theorem Nf (n i : Nat) : dv [] n i = some (n + i) := by simp [dv]
@[go_sem] theorem Tw (j n : Nat) (r : List Nat) : dv (j :: r) n 0 = some j := by simp [dv]
@[go_sem] theorem Tx (j n i : Nat) (r : List Nat) : dv (j :: r) n (i + 1) = dv r n i := by
 simp only[dv,List.length_cons,Nat.add_lt_add_iff_right,List.getElem?_cons_succ,Nat.add_sub_add_right]
@[go_sem] theorem Jq {α : Type} (H os : List α) : cN H [] os = H := by cases os <;> rfl
@[go_sem] theorem GB {α : Type} (H : List α) (i : Nat) (r : List Nat) (o : α) (os : List α) : cN H (i :: r) (o :: os) = cN (H.set i o) r os := (rfl)
def lbP(sz:Nat)(p:List D×aj):List D×aj:=(p.1,.arr sz false 0 []::p.2)
@[go_sem] theorem X3 (sz : Nat) (cs : List D) (os : aj) : lbP sz (cs, os) = (cs, .arr sz false 0 [] :: os) := (rfl)
def lbC(base:Nat)(cs:List D)(off sz:Nat)(r:List (Nat×Nat)):Option D→List D×aj
 | some .nil=>lbP sz (bL (base+1) (cs.set off (.ref base 0 0)) r)
 | _=>bL base cs r
@[go_sem] theorem Wl (base : Nat) (cs : List D) (off sz : Nat) (r : List (Nat × Nat)) : lbC base cs off sz r (some .nil) = lbP sz (bL (base + 1) (cs.set off (.ref base 0 0)) r) := (rfl)
@[go_sem] theorem Y6 (base : Nat) (cs : List D) (off sz : Nat) (r : List (Nat × Nat)) (x : T) : lbC base cs off sz r (some (.t x)) = bL base cs r := (rfl)
@[go_sem] theorem Wm (base : Nat) (cs : List D) (off sz : Nat) (r : List (Nat × Nat)) (a b c : Nat) : lbC base cs off sz r (some (.ref a b c)) = bL base cs r := (rfl)
@[go_sem] theorem GC (base : Nat) (cs : List D) (off sz : Nat) (r : List (Nat × Nat)) : bL base cs ((off, sz) :: r) = lbC base cs off sz r cs[off]? := by
 simp only[bL,lbC]
 split<;>split<;>simp_all [lbP]
def lvP(H:aj)(id:Nat)(p:List D×aj):Option (D×aj):=some (.tup [],H.set id (.box p.1)++p.2)
@[go_sem] theorem X4 (H : aj) (id : Nat) (cs : List D) (os : aj) : lvP H id (cs, os) = some (.tup [], H.set id (.box cs) ++ os) := (rfl)
def lvB(H:aj)(id:Nat)(l:List (Nat×Nat)):Option Obj→Option (D×aj)
 | some (.box cs)=>lvP H id (bL H.length cs l)
 | _=>none
@[go_sem] theorem X5 (H : aj) (id : Nat) (l : List (Nat × Nat)) (cs : List D) : lvB H id l (some (.box cs)) = lvP H id (bL H.length cs l) := (rfl)
@[go_sem] theorem Jr (H : aj) (id : Nat) (x : Nat × Nat) (r : List (Nat × Nat)) : tD H id (x :: r) = lvB H id (x :: r) H[id]? := by
 simp only[tD,kt]
 generalize H[id]?=o
 rcases o with _ | (cs | _)
 · rfl
 · rfl
 · rfl
section
variable (H : aj)
def klE(n:Nat)(sel new:List Nat)(os:aj)(q:List Nat×aj):Option (List Nat×aj):=some (new++q.1,os++q.2)
@[go_sem] theorem X6 (n : Nat) (sel new : List Nat) (os : aj) (a : List Nat) (b : aj) : klE n sel new os (a, b) = some (new ++ a, os ++ b) := (rfl)
def klD(n:Nat)(sel new:List Nat)(os:aj):Option (List Nat×aj):=(jH H n (sel++new) (ly H new)).bind (klE n sel new os)
@[go_sem] theorem X7 (n : Nat) (sel new : List Nat) (os : aj) : klD H n sel new os = (jH H n (sel ++ new) (ly H new)).bind (klE n sel new os) := (rfl)
def p5(sel:List Nat):List Nat→Bool
 | []=>true
 | i::r=> !xd i sel&&p5 sel r
@[go_sem] theorem Ng (sel : List Nat) : p5 sel [] = true := (rfl)
@[go_sem] theorem Js (sel : List Nat) (i : Nat) (r : List Nat) : p5 sel (i :: r) = (!xd i sel && p5 sel r) := (rfl)
theorem vT(sel l:List Nat):l.all (fun i=> !sel.contains i)=p5 sel l:=by
 induction l with
 | nil=>rfl
 | cons i r ih=>rw[List.all_cons,ih,ur];rfl
def klC(n:Nat)(sel new:List Nat)(os:aj):Option (List Nat×aj):=
 (if n=0 then(if(os.flatMap fun o=>o.ds.flatMap (dN H depth)).all (fun i=> !(sel++new).contains i)then bX (dG H) os else none)else some os).bind (klD H n sel new)
def oD:aj→List Nat
 | []=>[]
 | .box cs::r=>mH H 8 cs++oD r
 | .arr _ _ _ es::r=>mH H 8 es++oD r
@[go_sem] theorem Nh : oD H [] = [] := (rfl)
@[go_sem] theorem Ni (cs : List D) (r : aj) : oD H (.box cs :: r) = mH H 8 cs ++ oD H r := (rfl)
@[go_sem] theorem Nj (sz ep : Nat) (pin : Bool) (es : List D) (r : aj) : oD H (.arr sz pin ep es :: r) = mH H 8 es ++ oD H r := (rfl)
theorem B6(os:aj):(os.flatMap fun o=>o.ds.flatMap (dN H depth))=oD H os:=by
 induction os with
 | nil=>rfl
 | cons o r ih=>rw[List.flatMap_cons,ih];cases o<;>rfl
@[go_sem] theorem Y7 (sel new : List Nat) (os : aj) : klC H 0 sel new os = (if p5 (sel ++ new) (oD H os) = true then bX (dG H) os else none).bind (klD H 0 sel new) := by
 simp only[klC,B6,vT,if_true]
@[go_sem] theorem Y8 (n : Nat) (sel new : List Nat) (os : aj) : klC H (n + 1) sel new os = klD H (n + 1) sel new os := by
 simp[klC]
def klN(n:Nat)(sel new:List Nat):Option (List Nat×aj):=(pick H new).bind (klC H n sel new)
@[go_sem] theorem X8 (n : Nat) (sel new : List Nat) : klN H n sel new = (pick H new).bind (klC H n sel new) := (rfl)
@[go_sem] theorem Ty (sel front : List Nat) : jH H 0 sel front = some ([], []) := (rfl)
@[go_sem] theorem Tz (n : Nat) (sel front : List Nat) : jH H (n + 1) sel front = klN H n sel ((ed sel front).drop sel.length) := by
 simp only[jH,klN]
 generalize (ed sel front).drop sel.length=new
 cases pick H new with
 | none=>rfl
 | some os=>
   simp only[Option.bind_some,klC]
   congr 1
   funext os'
   simp only[klD]
   cases jH H n (sel++new) (ly H new)<;>rfl
@[go_sem] theorem E3 (cs : List D) : dG H (.box cs) = (bX (m7 H) cs).map .box := (rfl)
@[go_sem] theorem uu (sz ep : Nat) (pin : Bool) (ts : List T) : dG H (.arr sz pin ep (ts.map .t)) = some (.arr sz pin ep (ts.map .t)) := by
 simp only[dG,oC,Option.map_some]
@[go_sem] theorem E4 (sz ep : Nat) (pin : Bool) : dG H (.arr sz pin ep []) = some (.arr sz pin ep []) := (rfl)
@[go_sem] theorem E5 (sz ep : Nat) (pin : Bool) (m : Nat) (x : T) : dG H (.arr sz pin ep (List.replicate m (.t x))) = some (.arr sz pin ep (List.replicate m (.t x))) := by
 have:List.replicate m (D.t x)=(List.replicate m x).map .t:=by simp
 rw[this,uu]
def Wn(k raw:Nat)(H:aj)(ds rs:List D)(q:List Nat×aj):Option (D×aj):=
 if p5 (List.range k++q.1) (gN H raw ds)=true then
  (bX (ren (idxOf (List.range k++q.1)) depth) rs).bind fun rs'=>(bX (fE (idxOf (List.range k++q.1))) (H.take k++q.2)).map fun hs'=>(qn rs',hs')
 else none
def B7(sel:List Nat)(H2:aj)(rs':List D):Option (D×aj):=(bX (fE (idxOf sel)) H2).bind (finT3 rs')
where finT3 (rs':List D) (hs:aj):Option (D×aj):=some (qn rs',hs)
@[go_sem] theorem TA (rs' : List D) (hs : aj) : B7.finT3 rs' hs = some (qn rs', hs) := (rfl)
@[go_sem] theorem TC (sel : List Nat) (H2 : aj) (rs' : List D) : B7 sel H2 rs' = (bX (fE (idxOf sel)) H2).bind (B7.finT3 rs') := (rfl)
@[go_sem] theorem Wo (k raw : Nat) (ds rs : List D) (sel : List Nat) (os : aj) : Wn k raw H ds rs (sel, os) =
 if p5 (List.range k++sel) (gN H raw ds)=true then(bX (ren (idxOf (List.range k++sel)) 8) rs).bind (B7 (List.range k++sel) (H.take k++os))else none:=by
 simp only[Wn,depth]
 split
 · cases bX (ren (idxOf (List.range k++sel)) 8) rs with
   | none=>rfl
   | some rs'=>simp only[Option.bind_some,B7];cases bX (fE (idxOf (List.range k++sel))) (H.take k++os)<;>rfl
 · rfl
@[go_sem] theorem Wp (k raw : Nat) (ds rs : List D) : Ti k raw H ds rs = (jH H (max raw 1) (List.range k) (rV 8 rs ++ ly H (List.range k))).bind (Wn k raw H ds rs) := by
 simp only[Ti,vT,rV,depth];rfl
@[go_sem] theorem Nk (k raw : Nat) (ds rs : List D) : M3 k raw H ds rs false = Ti k raw H ds rs := (rfl)
@[go_sem] theorem Nl (k raw : Nat) (ds : List D) : finish k (raw + 1) H ds = Qj k (raw + 1) H ds ds := by
 simp only[finish,Nat.add_one_ne_zero,if_false,Option.bind_some,jd,y5,Qj,M3]
 show(if(eT k 8 ds&&ef k (H.take k))=true then _ else _)=_
 cases (eT k 8 ds&&ef k (H.take k))<;>rfl
@[go_sem] theorem Jt (raw : Nat) (ds : List D) : gN H (raw + 1) ds = [] := by simp [gN]
@[go_sem] theorem TD : max 0 1 = 1 := (rfl)
@[go_sem] theorem Wq (r : Nat) : max (r + 1) 1 = r + 1 := by omega
@[go_sem] theorem Nn : List.range 0 = [] := (rfl)
@[go_sem] theorem No : List.range 1 = [0] := (rfl)
@[go_sem] theorem Np : List.range 2 = [0, 1] := (rfl)
@[go_sem] theorem Nq : List.range 3 = [0, 1, 2] := (rfl)
@[go_sem] theorem Nr : List.range 4 = [0, 1, 2, 3] := (rfl)
end
theorem zb{α:Type}(f:α→T)(l:List α)(i:Nat)(x:α)(y:D)(h:y= .t (f x)):((l.map f).map D.t).set i y=((l.set i x).map f).map D.t:=by
 rw[h,List.map_map,List.map_map]
 exact(List.map_set (f:=D.t ∘ f)).symm
@[go_sem] theorem Ws (l : List Int) (i : Nat) (k : IntKind) (x : Int) : ((l.map (T.int k)).map D.t).set i (.t (.int k x)) = ((l.set i x).map (T.int k)).map D.t := zb _ l i x _ rfl
@[go_sem] theorem TE (l : List Bool) (i : Nat) (x : Bool) : ((l.map T.bool).map D.t).set i (.t (.bool x)) = ((l.set i x).map T.bool).map D.t := zb _ l i x _ rfl
end Go.Ev
namespace Go.Ev
class Lib where
 fs:Nat→Option Fn
end Go.Ev
namespace Go.Ev.K
abbrev u(x:O):R:={ o:=x}
abbrev w(n:Nat)(x:O):R:={ o:=x,d:=some n}
abbrev y(n:Nat)(b:Bool)(x:O):R:={ o:=x,g:=some (n,b)}
abbrev m(x:X):R:={ o:= .mv x}
abbrev g(x:X):R:={ o:= .ld x 1 false}
abbrev h(n:Nat)(x:X):R:={ o:= .ld x n true}
abbrev f(n:Nat)(x:X):R:={ o:= .fa x n}
abbrev a(n:Nat)(x z:X):R:={ o:= .ia x z n}
abbrev l0:X:= .l 0
abbrev l1:X:= .l 1
abbrev l2:X:= .l 2
abbrev l3:X:= .l 3
abbrev l4:X:= .l 4
abbrev l5:X:= .l 5
abbrev l6:X:= .l 6
abbrev l7:X:= .l 7
abbrev l8:X:= .l 8
abbrev l9:X:= .l 9
abbrev l10:X:= .l 10
abbrev l11:X:= .l 11
abbrev v0:X:= .v 0
abbrev v1:X:= .v 1
abbrev v2:X:= .v 2
abbrev v3:X:= .v 3
abbrev v4:X:= .v 4
abbrev v5:X:= .v 5
abbrev v6:X:= .v 6
abbrev v7:X:= .v 7
abbrev v8:X:= .v 8
abbrev v9:X:= .v 9
abbrev v10:X:= .v 10
abbrev v11:X:= .v 11
abbrev v12:X:= .v 12
abbrev v13:X:= .v 13
abbrev v14:X:= .v 14
abbrev v15:X:= .v 15
abbrev v16:X:= .v 16
abbrev v17:X:= .v 17
abbrev v18:X:= .v 18
abbrev v19:X:= .v 19
abbrev v20:X:= .v 20
abbrev v21:X:= .v 21
abbrev v22:X:= .v 22
abbrev v23:X:= .v 23
end Go.Ev.K
namespace Go.Ev.N
def xS:Nat:=0
def fL:Nat:=1
def Ju:Nat:=2
def gD:Nat:=3
def cr:Nat:=4
def Ns:Nat:=5
def AV:Nat:=6
def B8:Nat:=7
def AX:Nat:=8
def aF:Nat:=9
def bn:Nat:=10
def Ad:Nat:=11
def gj:Nat:=12
def DO:Nat:=13
def B9:Nat:=14
def cX:Nat:=15
def cF:Nat:=16
def Jv:Nat:=17
def GD:Nat:=18
def Jw:Nat:=19
def DP:Nat:=20
def QE:Nat:=21
def GF:Nat:=22
def gL:Nat:=23
def GG:Nat:=24
def Ca:Nat:=25
def DQ:Nat:=26
def DR:Nat:=27
def dQ:Nat:=28
def Jx:Nat:=29
def gE:Nat:=30
def Jy:Nat:=31
def Nt:Nat:=32
def Jz:Nat:=33
def GH:Nat:=34
def GI:Nat:=35
def JA:Nat:=36
def Nu:Nat:=37
def JB:Nat:=38
def Cb:Nat:=39
def Nv:Nat:=40
def JC:Nat:=41
def Nw:Nat:=42
def JD:Nat:=43
def GJ:Nat:=44
def QF:Nat:=45
def GK:Nat:=46
def JE:Nat:=47
def DT:Nat:=48
def aO:Nat:=49
def Ae:Nat:=50
def aZ:Nat:=51
def AY:Nat:=52
def DU:Nat:=53
def eU:Nat:=54
def Nx:Nat:=55
def GL:Nat:=56
def JF:Nat:=57
def JG:Nat:=58
def Ny:Nat:=59
def JH:Nat:=60
def Nz:Nat:=61
def ct:Nat:=62
def NA:Nat:=63
def JI:Nat:=64
def JJ:Nat:=65
def a8:Nat:=66
def bB:Nat:=67
def AZ:Nat:=68
def lJ:Nat:=69
def zc:Nat:=70
def b6:Nat:=71
def JK:Nat:=72
def JL:Nat:=73
def eV:Nat:=74
def mP:Nat:=75
def bS:Nat:=76
def fM:Nat:=77
end Go.Ev.N
namespace Go.Ev.K
open Go.Ev
def fL:Fn:={ nargs:=1,vars:=[0,2],body:=(.seq (.reg [w 1 (.mv (.b false))] []) (.seq (.reg [m v0,u (.ln l0),u (.bin .leq l0 (.i 400)),w 1 (.mv l0)] []) .ret)),res:=[(1,none)]}
def gD:Fn:={ nargs:=1,vars:=[0,2],body:=(.seq (.reg [w 1 (.mv (.c (.nilp)))] []) (.seq (.reg [m v0,u (.bd [.nil,.t (.int .i64 (0))] [(0,1,.l 0)]),u (.bx l0 2),w 1 (.mv l0)] []) .ret)),res:=[(1,none)]}
def fV:C:=(.seq (.ite [m v4,m v3,u (.bin .lss l1 l0)] [] 0 .skip (.exit 0)) (.seq (.blk 1 (.reg [f 0 v2,g l0,m v0,u (.ca N.aF 0 [] [.l 0,.i 4]),u (.bin .mul (.i (-10)) l0),m v4,u (.bin .eql l0 (.i 0)),m l0,y 0 false (.mv v0),y 1 false (.ca N.cX 0 [] [.l 0,.i 6]),u (.pk l2 (.b true) l0),u (.bd [.t (.int .i64 (0)),.t (.bool false)] [(0,1,.l 6),(1,1,.l 0)]),u (.bs [.l 0] 2),u (.app l11 l0 true 2),f 0 v2,u (.st l0 l1 1 [])] [(1,4),(1,10),(1,13)])) (.reg [m v4,u (.bin .add l0 (.i 1)),w 4 (.mv l0)] [])))
def kc:C:= .loop true [5,6,7,8,9] K.fV
def ie:C:=(.seq (.ite [m v6,m v3,u (.bin .lss l1 l0)] [] 0 .skip (.exit 2)) (.seq (.blk 3 (.seq (.reg [h 10 v5,w 7 (.al [.t (.int .i64 (0)),.t (.int .i64 (0)),.t (.int .i64 (0)),.t (.int .i64 (0)),.t (.bool false),.t (.bool false),.t (.int .i64 (0)),.t (.int .i64 (0)),.t (.int .i64 (0)),.t (.int .i64 (0))] []),u (.st l0 l1 10 [])] []) (.seq (.reg [m v6,u (.bin .sub l0 (.i 1)),m v0,m v6,u (.mn [.l 0,.i 2]),u (.ca N.aF 0 [] [.l 2,.l 0]),u (.bin .sub l4 l0),m v6,m v0,u (.bs [.i 11,.i 59,.i 119,.i 4] 1),u (.ca N.bn 0 [] [.l 1,.l 0]),u (.bin .add (.i 1) l0),m v0,u (.bs [.i 9,.i 3,.i 19] 1),u (.ca N.bn 0 [] [.l 1,.l 0]),u (.bin .add (.i 1) l0),f 0 v7,u (.st l0 l10 1 []),f 1 v7,u (.st l0 l11 1 []),f 2 v7,u (.st l0 l9 1 []),f 3 v7,u (.st l0 l7 1 [])] []) (.reg [f 1 v2,g l0,h 10 v7,u (.bs [.l 0] 10),u (.app l2 l0 true 10),f 1 v2,u (.st l0 l1 1 [])] [])))) (.reg [m v6,u (.bin .add l0 (.i 1)),w 6 (.mv l0)] [])))
def kd:C:= .loop true [4,7,8,9] K.ie
def cY:C:=(.seq (.ite [m v8,u (.bin .gtr l0 (.i 0)),m l0,y 0 true (.fa v2 1),y 1 true (.ld l0 1 false),y 2 true (.ln l0),y 3 true (.bin .lss l0 (.i 10)),u (.pk l4 l0 (.b false))] [] 0 .skip (.exit 4)) (.seq (.blk 5 (.seq (.reg [h 10 v5,w 9 (.al [.t (.int .i64 (0)),.t (.int .i64 (0)),.t (.int .i64 (0)),.t (.int .i64 (0)),.t (.bool false),.t (.bool false),.t (.int .i64 (0)),.t (.int .i64 (0)),.t (.int .i64 (0)),.t (.int .i64 (0))] []),u (.st l0 l1 10 [])] []) (.seq (.reg [m v0,m v3,u (.ca N.aF 0 [] [.l 1,.l 0]),m v0,m v3,u (.ca N.aF 0 [] [.l 1,.l 0]),m v0,u (.bs [.i 11,.i 59,.i 199] 1),u (.ca N.bn 0 [] [.l 1,.l 0]),u (.bin .add (.i 1) l0),m v0,u (.bs [.i 9,.i 3] 1),u (.ca N.bn 0 [] [.l 1,.l 0]),u (.bin .add (.i 1) l0),f 0 v9,u (.st l0 (.l 12) 1 []),f 1 v9,u (.st l0 l11 1 []),f 2 v9,u (.st l0 l9 1 []),f 3 v9,u (.st l0 l7 1 [])] []) (.seq (.reg [m v0,u (.ca N.aF 0 [] [.l 0,.i 5]),u (.bin .gtr l0 (.i 0)),m v0,u (.ca N.cX 0 [] [.l 0,.i 6]),f 4 v9,u (.st l0 l3 1 []),f 5 v9,u (.st l0 l3 1 [])] []) (.ite [f 0 v9,g l0,f 1 v9,g l0,u (.bin .neq l2 l0)] [] 0 (.reg [f 1 v2,g l0,h 10 v9,u (.bs [.l 0] 10),u (.app l2 l0 true 10),f 1 v2,u (.st l0 l1 1 [])] []) .skip))))) (.reg [m v8,u (.bin .sub l0 (.i 1)),w 8 (.mv l0)] [])))
def ke:C:= .loop true [4,6,7,9] K.cY
def cr:Fn:={ nargs:=1,vars:=[0,2,3,4,5,6,7,8,9,10],body:=(.seq (.reg [w 1 (.al [.nil,.nil] [])] []) (.seq (.reg [w 2 (.al [.nil,.nil] [(0,2),(1,10)])] []) (.seq (.reg [m v0,u (.ca N.aF 0 [] [.l 0,.i 6]),u (.bin .add (.i 2) l0),w 3 (.mv l0)] []) (.seq (.ite [m v0,u (.nc l0),f 0 l0,g l0,u (.ln l0),u (.bin .eql l0 (.i 0))] [] 0 (.reg [w 3 (.mv (.i 4))] []) .skip) (.seq (.seq (.reg [w 4 (.mv (.i 0))] []) (.blk 0 K.kc)) (.seq (.reg [u (.bd [.t (.int .i64 (0)),.t (.int .i64 (0))] [(0,1,.i 1),(1,1,.i 1)]),u (.bd [.t (.int .i64 (0)),.t (.int .i64 (0)),.t (.int .i64 (0)),.t (.int .i64 (0)),.t (.bool false),.t (.bool false),.t (.int .i64 (0)),.t (.int .i64 (0)),.t (.int .i64 (0)),.t (.int .i64 (0))] [(2,1,.i 12),(3,1,.i 10),(4,1,.b true),(6,2,.l 0)]),w 5 (.al [.t (.int .i64 (0)),.t (.int .i64 (0)),.t (.int .i64 (0)),.t (.int .i64 (0)),.t (.bool false),.t (.bool false),.t (.int .i64 (0)),.t (.int .i64 (0)),.t (.int .i64 (0)),.t (.int .i64 (0))] []),u (.st l0 l1 10 [])] []) (.seq (.seq (.reg [w 6 (.mv (.i 1))] []) (.blk 2 K.kd)) (.seq (.seq (.reg [m v0,u (.ca N.aF 0 [] [.l 0,.i 4]),w 8 (.mv l0)] []) (.blk 4 K.ke)) (.seq (.reg [h 2 v2,u (.st v1 l0 2 [])] []) .ret))))))))),res:=[(1,some (2,true))]}
def aF:Fn:={ nargs:=2,vars:=[0,1,4],body:=(.seq (.reg [w 2 (.mv (.i 0))] []) (.seq (.ite [m v0,u (.nc l0),f 1 l0,g l0,m v0,u (.nc l0),f 0 l0,g l0,u (.ln l0),u (.bin .geq l5 l0)] [] 0 (.seq (.reg [w 2 (.mv (.i 0))] []) .ret) .skip) (.seq (.reg [m v0,u (.nc l0),f 1 l0,g l0,u (.bin .add l0 (.i 1)),u (.nc l4),f 1 l0,u (.st l0 l2 1 [])] []) (.seq (.reg [m v0,u (.nc l0),f 0 l0,g l0,m v0,u (.nc l0),f 1 l0,g l0,u (.bin .sub l0 (.i 1)),a 1 l5 l0,g l0,m v1,u (.ca N.gL 0 [] [.l 1,.l 0]),w 2 (.mv l0)] []) .ret)))),res:=[(2,none)]}
def bn:Fn:={ nargs:=2,vars:=[0,1,4],body:=(.seq (.reg [w 2 (.mv (.i 0))] []) (.seq (.reg [m v1,m v0,m v1,u (.ln l0),u (.ca N.aF 0 [] [.l 2,.l 0]),a 1 l4 l0,g l0,w 2 (.mv l0)] []) .ret)),res:=[(2,none)]}
def jc:C:=(.seq (.ite [m v3,m v0,u (.ln l0),u (.bin .lss l2 l0)] [] 0 .skip (.exit 0)) (.seq (.blk 1 (.ite [m v0,m v3,a 1 l1 l0,g l0,m v1,u (.bin .eql l1 l0)] [] 0 (.seq (.reg [w 2 (.mv (.b true))] []) .ret) .skip)) (.reg [m v3,u (.bin .add l0 (.i 1)),w 3 (.mv l0)] [])))
def p6:C:= .loop true [2] K.jc
def gj:Fn:={ nargs:=2,vars:=[0,1,4,5],body:=(.seq (.reg [w 2 (.mv (.b false))] []) (.seq (.seq (.reg [w 3 (.mv (.i 0))] []) (.blk 0 K.p6)) (.seq (.reg [w 2 (.mv (.b false))] []) .ret))),res:=[(2,none)]}
def cX:Fn:={ nargs:=2,vars:=[0,1,4],body:=(.seq (.reg [w 2 (.mv (.b false))] []) (.seq (.reg [m v0,m v1,u (.ca N.aF 0 [] [.l 1,.l 0]),m v1,u (.bin .sub l0 (.i 1)),u (.bin .eql l2 l0),w 2 (.mv l0)] []) .ret)),res:=[(2,none)]}
def fW:C:=(.seq (.ite [m v4,m v1,u (.bin .lss l1 l0)] [] 0 .skip (.exit 0)) (.seq (.blk 1 (.ite [m v0,u (.ca N.aF 0 [] [.l 0,.i 3]),u (.bin .eql l0 (.i 0))] [] 0 (.reg [m v3,m v4,u (.bs [.l 0] 1),u (.app l2 l0 true 1),w 3 (.mv l0)] []) .skip)) (.reg [m v4,u (.bin .add l0 (.i 1)),w 4 (.mv l0)] [])))
def kf:C:= .loop true [2] K.fW
def cF:Fn:={ nargs:=2,vars:=[0,1,4,5,6],body:=(.seq (.reg [w 2 (.mv (.c (.nil)))] []) (.seq (.reg [w 3 (.nw 1)] []) (.seq (.seq (.reg [w 4 (.mv (.i 0))] []) (.blk 0 K.kf)) (.seq (.reg [m v3,w 2 (.mv l0)] []) .ret)))),res:=[(2,none)]}
def gL:Fn:={ nargs:=2,vars:=[0,1,4],body:=(.seq (.reg [w 2 (.mv (.i 0))] []) (.seq (.ite [m v1,u (.bin .lss l0 (.i 1))] [] 0 (.seq (.reg [w 2 (.mv (.i 0))] []) .ret) .skip) (.seq (.reg [m v0,m v1,u (.bin .rem l1 l0),w 0 (.mv l0)] []) (.seq (.ite [m v0,u (.bin .lss l0 (.i 0))] [] 0 (.reg [m v0,m v1,u (.bin .add l1 l0),w 0 (.mv l0)] []) .skip) (.seq (.reg [m v0,w 2 (.mv l0)] []) .ret))))),res:=[(2,none)]}
def ji:C:=(.seq (.ite [m v3,f 0 v1,g l0,u (.ln l0),u (.bin .lss l3 l0)] [] 0 .skip (.exit 0)) (.seq (.blk 1 (.seq (.reg [f 0 v1,g l0,m v3,a 2 l1 l0,f 0 l0,g l0,w 4 (.mv l0)] []) (.ite [m v4,u (.bin .lss l0 (.i (-10000))),m l0,y 0 false (.mv v4),y 1 false (.bin .gtr l0 (.i 10000)),u (.pk l2 (.b true) l0)] [] 0 (.seq (.reg [w 2 (.mv (.i 1))] []) .ret) .skip))) (.reg [m v3,u (.bin .add l0 (.i 1)),w 3 (.mv l0)] [])))
def mQ:C:= .loop true [0,2,4,5,6] K.ji
def jj:C:=(.seq (.ite [m v5,f 1 v1,g l0,u (.ln l0),u (.bin .lss l3 l0)] [] 0 .skip (.exit 2)) (.seq (.blk 3 (.seq (.reg [f 1 v1,g l0,m v5,a 10 l1 l0,h 10 l0,w 6 (.al [.t (.int .i64 (0)),.t (.int .i64 (0)),.t (.int .i64 (0)),.t (.int .i64 (0)),.t (.bool false),.t (.bool false),.t (.int .i64 (0)),.t (.int .i64 (0)),.t (.int .i64 (0)),.t (.int .i64 (0))] []),u (.st l0 l1 10 [])] []) (.seq (.ite [f 0 v6,g l0,u (.bin .lss l0 (.i 0)),m l0,y 0 false (.fa v6 0),y 1 false (.ld l0 1 false),y 2 false (.fa v1 0),y 3 false (.ld l0 1 false),y 4 false (.ln l0),y 5 false (.bin .geq l3 l0),u (.pk l6 (.b true) l0),m l0,y 0 false (.fa v6 1),y 1 false (.ld l0 1 false),y 2 false (.bin .lss l0 (.i 0)),u (.pk l3 (.b true) l0),m l0,y 0 false (.fa v6 1),y 1 false (.ld l0 1 false),y 2 false (.fa v1 0),y 3 false (.ld l0 1 false),y 4 false (.ln l0),y 5 false (.bin .geq l3 l0),u (.pk l6 (.b true) l0),m l0,y 0 false (.fa v6 0),y 1 false (.ld l0 1 false),y 2 false (.fa v6 1),y 3 false (.ld l0 1 false),y 4 false (.bin .eql l2 l0),u (.pk l5 (.b true) l0)] [] 0 (.seq (.reg [w 2 (.mv (.i 4))] []) .ret) .skip) (.ite [f 2 v6,g l0,u (.bin .lss l0 (.i 1)),m l0,y 0 false (.fa v6 2),y 1 false (.ld l0 1 false),y 2 false (.bin .gtr l0 (.i 100000)),u (.pk l3 (.b true) l0),m l0,y 0 false (.fa v6 3),y 1 false (.ld l0 1 false),y 2 false (.bin .lss l0 (.i 1)),u (.pk l3 (.b true) l0),m l0,y 0 false (.fa v6 3),y 1 false (.ld l0 1 false),y 2 false (.bin .gtr l0 (.i 1000)),u (.pk l3 (.b true) l0),m l0,y 0 false (.fa v6 6),y 1 false (.ld l0 2 true),y 2 false (.ca N.eU 0 [] [.l 0,.i 1,.i 262144]),y 3 false (.un .not l0),u (.pk l4 (.b true) l0),m l0,y 0 false (.fa v6 8),y 1 false (.ld l0 2 true),y 2 false (.ca N.eU 0 [] [.l 0,.i (-2199023255552),.i 2199023255552]),y 3 false (.un .not l0),u (.pk l4 (.b true) l0)] [] 0 (.seq (.reg [w 2 (.mv (.i 1))] []) .ret) .skip)))) (.reg [m v5,u (.bin .add l0 (.i 1)),w 5 (.mv l0)] [])))
def mR:C:= .loop true [0,2,3,4,6] K.jj
def dQ:Fn:={ nargs:=1,vars:=[0,1,2,3,4,5,6],body:=(.seq (.reg [w 1 (.bx v0 2),w 2 (.mv (.i 0))] []) (.seq (.ite [f 0 v1,g l0,u (.ln l0),u (.bin .gtr l0 (.i 64)),m l0,y 0 false (.fa v1 1),y 1 false (.ld l0 1 false),y 2 false (.ln l0),y 3 false (.bin .gtr l0 (.i 128)),u (.pk l4 (.b true) l0)] [] 0 (.seq (.reg [w 2 (.mv (.i 2))] []) .ret) .skip) (.seq (.seq (.reg [w 3 (.mv (.i 0))] []) (.blk 0 K.mQ)) (.seq (.seq (.reg [w 5 (.mv (.i 0))] []) (.blk 2 K.mR)) (.seq (.reg [w 2 (.mv (.i 0))] []) .ret))))),res:=[(2,none)]}
def fq:C:=(.seq (.ite [m v3,m v0,u (.ln l0),u (.bin .lss l2 l0)] [] 0 .skip (.exit 0)) (.seq (.blk 1 (.ite [m v0,m v3,a 1 l1 l0,g l0,u (.bin .lss l0 (.i 0)),m l0,y 0 false (.mv v0),y 1 false (.mv v3),y 2 false (.ia l1 l0 1),y 3 false (.ld l0 1 false),y 4 false (.mv v1),y 5 false (.bin .geq l1 l0),u (.pk l6 (.b true) l0),m l0,y 0 false (.mv v3),y 1 false (.bin .gtr l0 (.i 0)),y 2 false (.mv l0),y 0 true (.mv v0),y 1 true (.mv v3),y 2 true (.ia l1 l0 1),y 3 true (.ld l0 1 false),y 4 true (.mv v0),y 5 true (.mv v3),y 6 true (.bin .sub l0 (.i 1)),y 7 true (.ia l2 l0 1),y 8 true (.ld l0 1 false),y 9 true (.bin .leq l5 l0),y 13 false (.pk l10 l0 (.b false)),u (.pk (.l 14) (.b true) l0)] [] 0 (.seq (.reg [w 2 (.mv (.b false))] []) .ret) .skip)) (.reg [m v3,u (.bin .add l0 (.i 1)),w 3 (.mv l0)] [])))
def p7:C:= .loop true [2] K.fq
def gE:Fn:={ nargs:=2,vars:=[0,1,4,5],body:=(.seq (.reg [w 2 (.mv (.b false))] []) (.seq (.seq (.reg [w 3 (.mv (.i 0))] []) (.blk 0 K.p7)) (.seq (.reg [w 2 (.mv (.b true))] []) .ret))),res:=[(2,none)]}
end Go.Ev.K
namespace Go.Ev
class bT [Lib]:Prop where
 lK:Lib.fs N.fL=some K.fL
 nC:Lib.fs N.gD=some K.gD
 iR:Lib.fs N.cr=some K.cr
 iS:Lib.fs N.aF=some K.aF
 jR:Lib.fs N.bn=some K.bn
 nD:Lib.fs N.gj=some K.gj
 jk:Lib.fs N.cX=some K.cX
 iT:Lib.fs N.cF=some K.cF
 pw:Lib.fs N.gL=some K.gL
 kE:Lib.fs N.dQ=some K.dQ
 nE:Lib.fs N.gE=some K.gE
namespace K
variable [Lib] [bT]
theorem lK:Lib.fs N.fL=some K.fL:=bT.lK
theorem nC:Lib.fs N.gD=some K.gD:=bT.nC
theorem iR:Lib.fs N.cr=some K.cr:=bT.iR
theorem iS:Lib.fs N.aF=some K.aF:=bT.iS
theorem jR:Lib.fs N.bn=some K.bn:=bT.jR
theorem nD:Lib.fs N.gj=some K.gj:=bT.nD
theorem jk:Lib.fs N.cX=some K.cX:=bT.jk
theorem iT:Lib.fs N.cF=some K.cF:=bT.iT
theorem pw:Lib.fs N.gL=some K.gL:=bT.pw
theorem kE:Lib.fs N.dQ=some K.dQ:=bT.kE
theorem nE:Lib.fs N.gE=some K.gE:=bT.nE
end K
end Go.Ev
namespace Go.Ev.K
open Go.Ev
def aO:Fn:={ nargs:=2,vars:=[0,1,4],body:=(.seq (.reg [w 2 (.mv (.b false))] []) (.seq (.reg [m v0,m v1,u (.ca N.a8 0 [] [.l 1,.l 0]),u (.bin .geq l0 (.i 0)),w 2 (.mv l0)] []) .ret)),res:=[(2,none)]}
def aZ:Fn:={ nargs:=2,vars:=[0,1,4],body:=(.seq (.reg [w 2 (.mv (.b false))] []) (.seq (.reg [m v0,m v1,u (.ca N.bB 0 [] [.l 1,.l 0]),u (.bin .geq l0 (.i 0)),w 2 (.mv l0)] []) .ret)),res:=[(2,none)]}
def eU:Fn:={ nargs:=3,vars:=[0,1,2,3,6],body:=(.seq (.reg [w 3 (.bx v0 2),w 4 (.mv (.b false))] []) (.seq (.reg [m v1,f 0 v3,g l0,u (.bin .leq l2 l0),m l0,y 0 true (.fa v3 0),y 1 true (.ld l0 1 false),y 2 true (.fa v3 1),y 3 true (.ld l0 1 false),y 4 true (.bin .leq l2 l0),u (.pk l5 l0 (.b false)),m l0,y 0 true (.fa v3 1),y 1 true (.ld l0 1 false),y 2 true (.mv v2),y 3 true (.bin .leq l1 l0),u (.pk l4 l0 (.b false)),w 4 (.mv l0)] []) .ret)),res:=[(4,none)]}
def fX:C:=(.seq (.ite [m v3,m v0,u (.ln l0),u (.bin .lss l2 l0)] [] 0 .skip (.exit 0)) (.seq (.blk 1 (.ite [m v0,m v3,a 1 l1 l0,g l0,m v1,m v3,a 1 l1 l0,g l0,u (.bin .neq l4 l0)] [] 0 (.seq (.reg [w 2 (.mv (.b false))] []) .ret) .skip)) (.reg [m v3,u (.bin .add l0 (.i 1)),w 3 (.mv l0)] [])))
def kg:C:= .loop true [2] K.fX
def ct:Fn:={ nargs:=2,vars:=[0,1,4,5],body:=(.seq (.reg [w 2 (.mv (.b false))] []) (.seq (.ite [m v0,u (.ln l0),m v1,u (.ln l0),u (.bin .neq l2 l0)] [] 0 (.seq (.reg [w 2 (.mv (.b false))] []) .ret) .skip) (.seq (.seq (.reg [w 3 (.mv (.i 0))] []) (.blk 0 K.kg)) (.seq (.reg [w 2 (.mv (.b true))] []) .ret)))),res:=[(2,none)]}
def cT:C:=(.its [u (.bin .lss v5 v4)] [] 0 .skip (.exit 0) (.seq (.blk 1 (.seq (.reg [m v5,w 3 (.mv l0)] []) (.ite [m v1,m v0,m v3,a 1 l1 l0,g l0,u (.cw l4 0 [] [.l 0])] [] 0 (.seq (.reg [m v3,w 2 (.mv l0)] []) .ret) .skip))) (.reg [u (.bin .add v5 (.i 1)),w 5 (.mv l0)] [])))
def gk:C:= .loop true [2,3] K.cT
def a8:Fn:={ nargs:=2,vars:=[0,1,4,5,7,8],body:=(.seq (.reg [w 2 (.mv (.i 0))] []) (.seq (.seq (.reg [m v0,w 4 (.ln l0),w 5 (.mv (.i 0))] []) (.blk 0 K.gk)) (.seq (.reg [w 2 (.mv (.i (-1)))] []) .ret))),res:=[(2,none)]}
def dw:C:=(.its [u (.bin .lss v5 v4)] [] 0 .skip (.exit 0) (.seq (.blk 1 (.seq (.reg [m v5,w 3 (.mv l0)] []) (.ite [m v1,m v0,m v3,a 1 l1 l0,g l0,u (.bin .eql l4 l0)] [] 0 (.seq (.reg [m v3,w 2 (.mv l0)] []) .ret) .skip))) (.reg [u (.bin .add v5 (.i 1)),w 5 (.mv l0)] [])))
def ig:C:= .loop true [2,3] K.dw
def bB:Fn:={ nargs:=2,vars:=[0,1,4,5,7,8],body:=(.seq (.reg [w 2 (.mv (.i 0))] []) (.seq (.seq (.reg [m v0,w 4 (.ln l0),w 5 (.mv (.i 0))] []) (.blk 0 K.ig)) (.seq (.reg [w 2 (.mv (.i (-1)))] []) .ret))),res:=[(2,none)]}
def b6:Fn:={ nargs:=3,vars:=[0,1,2,6],body:=(.seq (.reg [w 3 (.mv (.b false))] []) (.seq (.reg [m v0,m v1,u (.bin .geq l1 l0),m l0,y 0 true (.mv v0),y 1 true (.mv v2),y 2 true (.bin .leq l1 l0),u (.pk l3 l0 (.b false)),w 3 (.mv l0)] []) .ret)),res:=[(3,none)]}
def eV:Fn:={ nargs:=3,vars:=[0,1,2,3,6],body:=(.seq (.reg [w 3 (.bx v0 2),w 4 (.mv (.i 0))] []) (.seq (.reg [h 2 v3,m v1,m v2,u (.ca N.bS 0 [] [.l 2,.l 1,.l 0,.i 6,.i 9,.i 12]),w 4 (.mv l0)] []) .ret)),res:=[(4,none)]}
def bS:Fn:={ nargs:=6,vars:=[0,1,2,3,4,5,6,12,13,14,15,16,17],body:=(.seq (.reg [w 6 (.bx v0 2),w 7 (.mv (.i 0))] []) (.seq (.ite [h 2 v6,u (.ca N.dQ 0 [] [.l 0]),u (.bin .neq l0 (.i 0)),m l0,y 0 false (.mv v1),y 1 false (.bin .lss l0 (.i 0)),u (.pk l2 (.b true) l0),m l0,y 0 false (.mv v1),y 1 false (.fa v6 1),y 2 false (.ld l0 1 false),y 3 false (.ln l0),y 4 false (.bin .geq l3 l0),u (.pk l5 (.b true) l0),m l0,y 0 false (.fa v6 1),y 1 false (.ld l0 1 false),y 2 false (.mv v1),y 3 false (.ia l1 l0 10),y 4 false (.fa l0 5),y 5 false (.ld l0 1 false),u (.pk l6 (.b true) l0),m l0,y 0 false (.fa v6 1),y 1 false (.ld l0 1 false),y 2 false (.mv v1),y 3 false (.ia l1 l0 10),y 4 false (.fa l0 4),y 5 false (.ld l0 1 false),y 6 false (.un .not l0),u (.pk l7 (.b true) l0)] [] 0 (.seq (.reg [w 7 (.mv (.i (-1)))] []) .ret) .skip) (.seq (.reg [f 1 v6,g l0,m v1,a 10 l1 l0,h 10 l0,w 8 (.al [.t (.int .i64 (0)),.t (.int .i64 (0)),.t (.int .i64 (0)),.t (.int .i64 (0)),.t (.bool false),.t (.bool false),.t (.int .i64 (0)),.t (.int .i64 (0)),.t (.int .i64 (0)),.t (.int .i64 (0))] []),u (.st l0 l1 10 [])] []) (.seq (.reg [h 10 v8,m v2,u (.ca N.fM 0 [] [.l 1,.l 0]),m l0,u (.ex l0 0),u (.ex l1 1),w 9 (.mv l1),w 10 (.mv l1)] []) (.seq (.reg [f 0 v6,g l0,m v10,a 2 l1 l0,f 0 l0,g l0,f 0 v6,g l0,m v9,a 2 l1 l0,f 0 l0,g l0,u (.bin .sub l6 l0),w 11 (.mv l0)] []) (.seq (.reg [m v5,w 12 (.mv l0)] []) (.seq (.ite [m v11,u (.bin .mul (.i 10) l0),f 2 v8,g l0,u (.bin .gtr l2 l0)] [] 0 (.reg [m v3,w 12 (.mv l0)] []) .skip) (.seq (.ite [m v11,u (.bin .mul (.i (-10)) l0),f 2 v8,g l0,u (.bin .gtr l2 l0)] [] 0 (.reg [m v4,w 12 (.mv l0)] []) .skip) (.seq (.reg [f 2 v8,g l0,u (.bin .mul (.i 10) l0),m v12,u (.bin .add l1 l0),u (.bin .sub l0 (.i 1)),m v12,u (.bin .quo l1 l0),w 7 (.mv l0)] []) .ret))))))))),res:=[(7,none)]}
def fM:Fn:={ nargs:=2,vars:=[0,1,2,4,5],body:=(.seq (.reg [w 2 (.bx v0 10),w 3 (.mv (.i 0)),w 4 (.mv (.i 0))] []) (.seq (.ite [m v1] [] 0 (.seq (.reg [f 1 v2,g l0,f 0 v2,g l0,w 3 (.mv l2),w 4 (.mv l1)] []) .ret) .skip) (.seq (.reg [f 0 v2,g l0,f 1 v2,g l0,w 3 (.mv l2),w 4 (.mv l1)] []) .ret))),res:=[(3,none),(4,none)]}
end Go.Ev.K
namespace Go.Ev
class bU [Lib]:Prop where
 dA:Lib.fs N.aO=some K.aO
 eJ:Lib.fs N.aZ=some K.aZ
 lL:Lib.fs N.eU=some K.eU
 iU:Lib.fs N.ct=some K.ct
 eh:Lib.fs N.a8=some K.a8
 fS:Lib.fs N.bB=some K.bB
 px:Lib.fs N.b6=some K.b6
 lM:Lib.fs N.eV=some K.eV
 jS:Lib.fs N.bS=some K.bS
 lN:Lib.fs N.fM=some K.fM
namespace K
variable [Lib] [bU]
theorem dA:Lib.fs N.aO=some K.aO:=bU.dA
theorem eJ:Lib.fs N.aZ=some K.aZ:=bU.eJ
theorem lL:Lib.fs N.eU=some K.eU:=bU.lL
theorem iU:Lib.fs N.ct=some K.ct:=bU.iU
theorem eh:Lib.fs N.a8=some K.a8:=bU.eh
theorem fS:Lib.fs N.bB=some K.bB:=bU.fS
theorem px:Lib.fs N.b6=some K.b6:=bU.px
theorem lM:Lib.fs N.eV=some K.eV:=bU.lM
theorem jS:Lib.fs N.bS=some K.bS:=bU.jS
theorem lN:Lib.fs N.fM=some K.fM:=bU.lN
end K
end Go.Ev
namespace Go.Ev
open Go
variable [Lib]
noncomputable def aT:aS:=jh Lib.fs
theorem aB{raw f:Nat}{args:List D}{H:aj}{fn:Fn}{r:D×aj}(hf:Lib.fs f=some fn)(hn:fn.nargs=args.length)
 (h:(exS aT fn.body ⟨mK args fn.vars,H⟩).bind (Sa fn.res H.length raw)=some r) (h0:fn.prim=[]:=by rfl):aT raw f args H=some r:=Iz hf hn h h0
theorem vU{raw f:Nat}{args:List D}{H:aj}{fn:Fn}{r:D×aj}(hf:Lib.fs f=some fn)(h0:fn.prim≠[])(h:qM fn.prim args H=some r):aT raw f args H=some r:=zU hf h0 h
theorem bV{gc:Bool}{dead:List Nat}{c:C}{vs:List D}{H:aj}(s:Nat→St)(n:Nat){e:Ex}{st:St}
 (h0:(⟨cR dead vs,H⟩:St)=s 0) (h:∀j,j<n→eB gc dead (s j).H.length (exS aT c (s j))=some (s (j+1)))
 (he:exS aT c (s n)=some (e,st)) (hn:e≠ .normal):exS aT (.loop gc dead c) ⟨vs,H⟩=some (e,st):=by
 show j8 gc dead (exS aT c) ⟨cR dead vs,H⟩=_
 rw[h0]
 exact um s n h (bj he hn)
theorem eW{gc:Bool}{dead:List Nat}{c:C}{vs:List D}{H:aj}{p:Ex×St}(h:j8 gc dead (exS aT c) ⟨cR dead vs,H⟩=some p):exS aT (.loop gc dead c) ⟨vs,H⟩=some p:=h
class Dat (α:Type) where
 dflt:α
instance : Dat Int := ⟨0⟩
instance : Dat Nat := ⟨0⟩
instance : Dat Bool := ⟨false⟩
instance {α : Type} : Dat (List α) := ⟨[]⟩
def nth{α:Type} [Dat α](l:List α)(j:Nat):α:=l.getD j Dat.dflt
theorem kF{α:Type} [Dat α]{l:List α}{j:Nat}(h:j<l.length):l[j]?=some (nth l j):=by simp[nth,h]
theorem aD{α β:Type} [Dat α](f:α→β){l:List α}{j:Nat}(h:j<l.length):(l.map f)[j]?=some (f (nth l j)):=by rw[List.getElem?_map,kF h];rfl
theorem zd{α β γ:Type} [Dat α](f:β→γ)(g:α→β){l:List α}{j:Nat}(h:j<l.length):((l.map g).map f)[j]?=some (f (g (nth l j))):=by rw[List.getElem?_map,aD g h];rfl
theorem bg{α:Type} [Dat α]{l:List α}{j:Nat}(h:j<l.length):nth l j∈l:=List.mem_of_getElem? (kF h)
theorem dR{α:Type} [Dat α]{l:List α}{j:Nat}{x:α}(h:l[j]?=some x):nth l j=x:=by simp[nth,h]
theorem jJ{α:Type} [Dat α]{l:List α}{j:Nat}(h:j<l.length):l.take (j+1)=l.take j++[nth l j]:=by
 rw[List.take_succ_eq_append_getElem h];simp[nth,h]
theorem Wt{a b:Int}(h:a<b):(a<b)=True:=by simp[h]
theorem Wu{a b:Int}(h:b≤a):(a<b)=False:=by simp[Int.not_lt.2 h]
theorem Wv{a b:Int}(h:a≤b):(a≤b)=True:=by simp[h]
theorem Ww{a b:Int}(h:b<a):(a≤b)=False:=by simp[Int.not_le.2 h]
theorem Wx{a b:Int}(h:a=b):(a=b)=True:=by simp[h]
theorem Wy{a b:Int}(h:a≠b):(a=b)=False:=by simp[h]
theorem Wz{a b:Nat}(h:a<b):(a<b)=True:=by simp[h]
theorem WA{a b:Nat}(h:b≤a):(a<b)=False:=by simp[Nat.not_lt.2 h]
theorem WB{a b:Nat}(h:a≤b):(a≤b)=True:=by simp[h]
theorem WC{a b:Nat}(h:b<a):(a≤b)=False:=by simp[Nat.not_le.2 h]
theorem WD{a b:Nat}(h:a=b):(a=b)=True:=by simp[h]
theorem WE{a b:Nat}(h:a≠b):(a=b)=False:=by simp[h]
attribute [go_sem] WD WE Wt Wu Wv Ww Wx Wy Wz WA WB WC rS aD zd IP
@[go_sem] theorem NB (a b : Nat) : ((a + b : Nat) : Int) = (a : Int) + (b : Int) := (rfl)
@[go_sem] theorem NC : ((1 : Nat) : Int) = 1 := (rfl)
@[go_sem] theorem JM : ((0 : Nat) : Int) = 0 := (rfl)
@[go_sem] theorem QG (a b : Int) : a + b - b = a := Int.add_sub_cancel a b
@[go_sem] theorem GM : (0 : Int).toNat = 0 := (rfl)
@[go_sem] theorem JN (n : Nat) : (n : Int).toNat = n := (rfl)
@[go_sem] theorem JO (n : Nat) : ((n : Int) + 1).toNat = n + 1 := (rfl)
@[go_sem] theorem JP (a : Int) : 0 + a = a := Int.zero_add a
@[go_sem] theorem JQ (a : Int) : a + 0 = a := Int.add_zero a
@[go_sem] theorem JR (a : Int) : a - 0 = a := Int.sub_zero a
abbrev tI(n:Int):T:= .int .i64 n
abbrev tL(l:List Int):T:= .sl (l.map (.int .i64))
@[go_sem] theorem E6 (H : aj) (n : Nat) (ts : List T) (x : T) : bX (frz H n) (ts.map .t ++ [.t x]) = some (ts ++ [x]) := by
 have:ts.map D.t++[.t x]=(ts++[x]).map .t:=by simp
 rw[this,zY]
@[go_sem] theorem GN {α β : Type} (f : α → β) (a b : List α) : (a ++ b).map f = a.map f ++ b.map f := List.map_append
end Go.Ev
namespace Go.Ev
open Go
variable [Lib] [bT] [bU]
theorem gU{gc:Bool}{dead:List Nat}{c:C}{vs:List D}{H:aj}(s:Nat→St)(n:Nat)(p:Nat→Bool)(e:Nat→Ex×St)(eN:Ex×St)
 (h0:(⟨cR dead vs,H⟩:St)=s 0) (hs:∀j,j<n→p j=false→eB gc dead (s j).H.length (exS aT c (s j))=some (s (j+1)))
 (he:∀j,j<n→p j=true→exS aT c (s j)=some (e j)∧(e j).1≠ .normal) (hN:exS aT c (s n)=some eN) (hn:eN.1≠ .normal):
 exS aT (.loop gc dead c) ⟨vs,H⟩=some (match (List.range n).find? p with | some j=>e j | none=>eN):=by
 show j8 gc dead (exS aT c) ⟨cR dead vs,H⟩=_
 rw[h0]
 cases hf:(List.range n).find? p with
 | none=>
   refine um s n (fun j hj=>hs j hj ?_) (bj hN hn)
   have:=List.find?_eq_none.1 hf j (List.mem_range.2 hj)
   simpa using this
 | some k=>
   obtain⟨h1,as,bs,h2,h3⟩:=List.find?_eq_some_iff_append.1 hf
   have hk:k<n:=List.mem_range.1 (List.mem_of_find?_eq_some hf)
   have hlt:∀j,j<k→p j=false:=by
    intro j hj
    have hlen:as.length=k:=by
     have h4:(List.range n)[as.length]?=some k:=by rw[h2];simp
     have h5:as.length<n:=by
      have:=congrArg List.length h2;simp at this;omega
     rw[List.getElem?_range h5]at h4
     exact Option.some.inj h4
    have:j∈as:=by
     have h6:(List.range n)[j]?=some j:=List.getElem?_range (by omega)
     rw[h2,List.getElem?_append_left (by omega)]at h6
     exact List.mem_of_getElem? h6
    simpa using h3 j this
   obtain⟨k1,k2⟩:=he k hk h1
   exact um s k (fun j hj=>hs j (by omega) (hlt j hj)) (bj k1 k2)
def Cc{α:Type}(f:α→α×Bool):Nat→α→α
 | 0,l=>l
 | n+1,l=>if(f l).2 then Cc f n (f l).1 else(f l).1
theorem E7{n:Nat}{p:Nat→Bool}:((List.range n).find? p).isSome=(List.range n).any p:=by
 rw[List.isSome_find?]
theorem uv{n j:Nat}{p:Nat→Bool}(h:(List.range n).find? p=some j):j<n∧p j=true:=⟨List.mem_range.1 (List.mem_of_find?_eq_some h),List.find?_some h⟩
def eK(m:Nat):List D:=(List.range m).map fun i=> .bp i 0
def aV(bs:List (List T)):aj:=bs.map fun cs=> .box (cs.map .t)
theorem tG{bs:List (List T)}{i:Nat}(h:i<bs.length):(aV bs)[i]?=some (.box (bs[i].map .t)):=by simp[aV,h]
theorem dK(bs:List (List T)):(aV bs).length=bs.length:=by simp[aV]
theorem pz:∀(l sel:List Nat),(sel++l).Nodup→ed sel l=sel++l
 | [],sel,_=>by simp[ed]
 | i::r,sel,h=>by
   have:sel.contains i=false:=by
    rw[← Bool.not_eq_true,List.contains_iff_mem]
    intro hm
    have:=List.nodup_append.1 h
    exact this.2.2 i hm i List.mem_cons_self rfl
   simp only[ed,this,Bool.false_eq_true,if_false]
   rw[pz r (sel++[i]) (by simpa using h)]
   simp
theorem p8:∀(l:List Nat) (i k:Nat),l.Nodup→l[k]?=some i→idxOf l i=some k
 | [],i,k,_,h=>by simp at h
 | a::l,i,0,_,h=>by simp at h;simp[idxOf,h]
 | a::l,i,k+1,hn,h=>by
   simp at h
   have hne:a≠i:=fun e=>(List.nodup_cons.1 hn).1 (e▸List.mem_of_getElem? h)
   simp only[idxOf,if_neg hne,p8 l i k (List.nodup_cons.1 hn).2 h,Option.map_some]
theorem xT{m i:Nat}(h:i<m):idxOf (List.range m) i=some i:=p8 _ _ _ List.nodup_range (List.getElem?_range h)
theorem xU{α:Type}{f:α→Option α}:∀ {l:List α},(∀x∈l,f x=some x)→bX f l=some l
 | [],_=>rfl
 | a::l,h=>by
   simp only[bX,h a List.mem_cons_self,Option.bind_some,xU fun x hx=>h x (List.mem_cons_of_mem _ hx),Option.map_some]
theorem xV(f:Nat→Option Nat)(cs:List T):fE f (.box (cs.map .t))=some (.box (cs.map .t)):=by
 simp only[Ac,my,Option.map_some]
theorem vV{H:aj}:∀ {l:List Nat} {hs:aj},l.length=hs.length→(∀(k i:Nat) (o:Obj),l[k]?=some i→hs[k]?=some o→H[i]?=some o)→pick H l=some hs
 | [],[],_,_=>rfl
 | [],_::_,h,_=>by simp at h
 | _::_,[],h,_=>by simp at h
 | i::l,o::hs,h,hg=>by
   rw[B5,hg 0 i o rfl rfl,Option.bind_some,E2,vV (l:=l) (hs:=hs) (by simpa using h) fun k i o hk ho=>hg (k+1) i o (by simpa using hk) (by simpa using ho)]
   rfl
theorem qb{H:aj}:∀ {l:List Nat} {os:aj},(∀(k i:Nat) (o:Obj),l[k]?=some i→os[k]?=some o→H[i]?=some o)→cN H l os=H
 | [],os,_=>by cases os<;>rfl
 | i::l,[],_=>rfl
 | i::l,o::os,hg=>by
   simp only[cN]
   rw[EZ (hg 0 i o rfl rfl)]
   exact qb fun k i o hk ho=>hg (k+1) i o (by simpa using hk) (by simpa using ho)
theorem vW(call:aS)(bs:List (List T))(E:aj)(f raw:Nat)(args:List D){r:D}(h:call raw f args (aV bs)=some (r,aV bs))(hr:qq r=true)
 (ha:∀H:aj,kr H [] 0 args=some args∧cA H [] 0 args=[]) (hids:ed [] (rV 8 args)=List.range bs.length)
 (hren:bX (ren (idxOf (List.range bs.length)) 8) args=some args):zX (aV bs++E) call f raw [] args=some (r,aV bs++E):=by
 generalize hH:aV bs++E=H
 have hget:∀i (hi:i<bs.length),H[i]?=some (.box (bs[i].map .t)):=fun i hi=>by
  rw[← hH,List.getElem?_append_left (by rw[dK];exact hi),tG hi]
 obtain⟨ha,hfz⟩:=ha H
 have hno:ly H (List.range bs.length)=[]:=by
  simp only[ly,List.flatMap_eq_nil_iff,List.mem_range]
  intro i hi
  rw[hget i hi]
  exact y8 8 bs[i]
 have hsel:reach H 3 (List.range bs.length)=List.range bs.length:=by
  simp only[reach,hno,ed]
 have hget2:∀(k i:Nat) (o:Obj),(List.range bs.length)[k]?=some i→(aV bs)[k]?=some o→H[i]?=some o:=by
  intro k i o hk ho
  have hkl:k<bs.length:=by have:=(List.getElem?_eq_some_iff.1 hk).1;simpa using this
  rw[List.getElem?_range hkl]at hk
  cases hk
  rw[tG hkl]at ho
  rw[hget k hkl,←ho]
 have hpick:pick H (List.range bs.length)=some (aV bs):=vV (by simp[dK]) hget2
 have hro:∀f:Nat→Option Nat,bX (fE f) (aV bs)=some (aV bs):=fun f=>xU fun o ho=>by
  simp only[aV,List.mem_map]at ho
  obtain⟨cs,_,rfl⟩:=ho
  exact xV f cs
 have hput:cN H (List.range bs.length) (aV bs)=H:=qb hget2
 rw[EO,EP,ha,Option.bind_some,ER,hids,hsel,ES,hren,Option.bind_some,hfz,ET]
 simp only[pins]
 rw[hpick,Option.bind_some,EU,hro,Option.bind_some,EW,h,Option.bind_some]
 cases hb:bs with
 | nil=>
   subst hb
   have hrr:=uo (f:=dv [] H.length) hr
   simp only[depth]at hrr
   simp only[List.length_nil,List.range_zero,aV,List.map_nil]
   unfold nB
   split
   · rfl
   · rw[y7,hrr,Option.bind_some,y6]
     simp[bX,EX,cN]
 | cons b bt=>
   rw[← hb]
   have hne:List.range bs.length=0::(List.range' 1 bt.length):=by rw[hb];simp[List.range_eq_range',List.range'_succ]
   have hrr:=uo (f:=dv (List.range bs.length) H.length) hr
   simp only[depth]at hrr
   have hw:nB H H (List.range bs.length) (r,aV bs)=uq H H.length (List.range bs.length) (r,aV bs):=by
    rw[hne];rfl
   rw[hw,y7,hrr,Option.bind_some,y6,hro,Option.bind_some,EY,List.length_range,List.take_of_length_le (by rw[dK];exact Nat.le_refl _),hput,
    List.drop_eq_nil_of_le (by rw[dK];exact Nat.le_refl _),List.append_nil]
theorem xW(H:aj)(cs:List D)(hc:∀i,kr H [] i cs=some cs∧cA H [] i cs=[]):∀(ts:List T) (i:Nat),kr H [] i (ts.map .t++cs)=some (ts.map .t++cs)∧cA H [] i (ts.map .t++cs)=[]
 | [],i=>hc i
 | t::ts,i=>by
   obtain⟨h1,h2⟩:=xW H cs hc ts (i+1)
   simp only[List.map_cons,List.cons_append,tF,lI,xd,Gz,Qb,Option.bind_some,B2,h1,h2,Qs,B0]
   exact⟨rfl,rfl⟩
theorem vX(H:aj):∀(l:List Nat) (i:Nat),kr H [] i (l.map fun i=> .bp i 0)=some (l.map fun i=> .bp i 0)∧cA H [] i (l.map fun i=> .bp i 0)=[]
 | [],i=>⟨rfl,rfl⟩
 | a::l,i=>by
   obtain⟨h1,h2⟩:=vX H l (i+1)
   simp only[List.map_cons,tF,lI,xd,Gz,Ja,Option.bind_some,B2,h1,h2,Qs,Jg]
   exact⟨rfl,rfl⟩
theorem vY(n m:Nat):rV n (eK m)=List.range m:=by
 simp only[rV,eK,List.flatMap_map]
 have:∀l:List Nat,(l.flatMap fun a=>ids n (.bp a 0))=l:=by
  intro l
  induction l with
  | nil=>rfl
  | cons a l ih=>rw[List.flatMap_cons,ih,Qw];rfl
 exact this _
theorem ze(n m:Nat):bX (ren (idxOf (List.range m)) n) (eK m)=some (eK m):=xU fun d hd=>by
 simp only[eK,List.mem_map,List.mem_range]at hd
 obtain⟨k,hk,rfl⟩:=hd
 rw[QA,xT hk];rfl
theorem uw{α β:Type}{f:α→Option β}:∀ {a b:List α} {x y:List β},bX f a=some x→bX f b=some y→bX f (a++b)=some (x++y)
 | [],b,x,y,h1,h2=>by simp[bX]at h1;subst h1;exact h2
 | c::a,b,x,y,h1,h2=>by
   simp only[bX,Option.bind_eq_some_iff,Option.map_eq_some_iff]at h1
   obtain⟨z,hz,r,hr,rfl⟩:=h1
   simp only[List.cons_append,bX,hz,Option.bind_some,uw hr h2,Option.map_some]
theorem Cd(call:aS)(bs:List (List T))(E:aj)(f raw:Nat)(ts:List T){r:D}(h:call raw f (ts.map .t++eK bs.length) (aV bs)=some (r,aV bs))(hr:qq r=true):
 zX (aV bs++E) call f raw [] (ts.map .t++eK bs.length)=some (r,aV bs++E):=
 vW call bs E f raw _ h hr (fun H=>xW H _ (vX H _) ts 0)
  (by rw[y9,y8,List.nil_append,vY,pz _ _ (by simpa using List.nodup_range),List.nil_append])
  (uw (my _ _ _) (ze _ _))
theorem JS(call:aS)(bs:List (List T))(E:aj)(g f raw:Nat)(ts:List T){r:D}(h:call raw f (ts.map .t++[.fn g (eK bs.length)]) (aV bs)=some (r,aV bs))(hr:qq r=true):
 zX (aV bs++E) call f raw [] (ts.map .t++[.fn g (eK bs.length)])=some (r,aV bs++E):=
 vW call bs E f raw _ h hr (fun H=>xW H _ (fun i=>⟨rfl,rfl⟩) ts 0)
  (by rw[y9,y8,List.nil_append,B3,Qx,vY,E1,List.append_nil,pz _ _ (by simpa using List.nodup_range),List.nil_append])
  (uw (my _ _ _) (by rw[vN,QD,ze];rfl))
theorem Ce{f:Nat}{bs:List (List T)}{x:T}{r:D}(E:aj)(h:aT 0 f (.t x::eK bs.length) (aV bs)=some (r,aV bs))(hr:qq r=true):
 zX (aV bs++E) aT f 0 [] (.t x::eK bs.length)=some (r,aV bs++E):=Cd aT bs E f 0 [x] h hr
theorem je{f:Nat}{bs:List (List T)}{x:T}{r:D}(h:aT 0 f (.t x::eK bs.length) (aV bs)=some (r,aV bs))(hr:qq r=true):
 zX (aV bs) aT f 0 [] (.t x::eK bs.length)=some (r,aV bs):=by
 have:=Ce [] h hr;rwa [List.append_nil]at this
theorem pA(call:aS)(bs:List (List T))(g f raw:Nat)(x:T){r:D}(h:call raw f [.t x,.fn g (eK bs.length)] (aV bs)=some (r,aV bs))(hr:qq r=true):
 zX (aV bs) call f raw [] [.t x,.fn g (eK bs.length)]=some (r,aV bs):=by
 have:=JS call bs [] g f raw [x] h hr
 rwa [List.append_nil]at this
section
variable (bs : List (List T)) (o o' : Obj)
@[go_sem] theorem E8 : (aV bs).length = bs.length := dK bs
@[go_sem] theorem ND : (aV bs ++ [o])[bs.length]? = some o := by
 rw[List.getElem?_append_right (by rw[dK];exact Nat.le_refl _),dK];simp
@[go_sem] theorem QH : (aV bs ++ [o]).set bs.length o' = aV bs ++ [o'] := by
 rw[List.set_append_right _ _ (by rw[dK];exact Nat.le_refl _),dK];simp
@[go_sem] theorem NF : (aV bs ++ [o]).take bs.length = aV bs := by
 rw[List.take_append_of_le_length (by rw[dK];exact Nat.le_refl _),List.take_of_length_le (by rw[dK];exact Nat.le_refl _)]
@[go_sem] theorem JT : (aV bs ++ [o]).take (bs.length + 1) = aV bs ++ [o] := List.take_of_length_le (by simp [dK])
@[go_sem] theorem JU : (aV bs).take bs.length = aV bs := List.take_of_length_le (by simp [dK])
@[go_sem] theorem JV (k : Nat) (a b : aj) : ef k (a ++ b) = (ef k a && ef k b) := by
 rw[← jd,←jd,←jd,List.all_append]
@[go_sem] theorem E9 (k : Nat) : ef k (aV bs) = true := by
 induction bs with
 | nil=>rfl
 | cons b r ih=>
   show(eT k 8 (b.map .t)&&ef k (aV r))=true
   rw[y0,ih];rfl
@[go_sem] theorem TF (n : Nat) : ltB n (n + 1) = true := by rw [kD]; simp
@[go_sem] theorem TG (n : Nat) : ltB n n = false := by rw [kD]; simp
theorem qc(k n m:Nat)(h:m≤k):eT k n (eK m)=true:=by
 unfold eT eK
 rw[List.all_eq_true]
 intro d hd
 obtain⟨i,hi,rfl⟩:=List.mem_map.1 hd
 rw[Qc,kD]
 have:=List.mem_range.1 hi
 simp;omega
@[go_sem] theorem JW (n m : Nat) : eT m n (eK m) = true := qc _ _ _ (Nat.le_refl _)
@[go_sem] theorem GO (n m : Nat) : eT (m + 1) n (eK m) = true := qc _ _ _ (Nat.le_succ _)
end
end Go.Ev
namespace Go.Ev
open Go
variable [Lib] [bT] [bU]
theorem gn{α:Type}(sz:Nat)(f:α→T)(h:∀a,jQ sz (f a).cells=true):∀l:List α,bP sz (l.map f)=true
 | []=>rfl
 | a::l=>by rw[List.map_cons,oB,h,gn sz f h l];rfl
@[go_sem] theorem GP (k : IntKind) (l : List Int) : bP 1 (l.map (.int k)) = true := gn 1 _ (fun _ => rfl) l
theorem oE(sz:Nat):∀ts:List T,(ts.all fun e=>e.cells.length==sz)=bP sz ts
 | []=>rfl
 | t::ts=>by
   rw[List.all_cons,oB,oE sz ts]
   congr 1
   rw[Bool.eq_iff_iff,eC];simp
section
variable (H : aj) (sz : Nat) (ts : List T) (i j : Int)
@[go_sem] theorem WG : vQ H sz (some (.t (.sl ts))) (some none) (some (some i)) = if 0 ≤ i then (if i ≤ ts.length then (if bP sz ts = true then some (.t (.sl (ts.take i.toNat)), H) else none) else none) else none := by
 simp only[vQ,Option.bind_some,jG,bound,oE,idx]
 by_cases h1:0≤i
 · rw[if_pos h1,if_pos h1,Option.bind_some]
   by_cases h2:i≤ts.length
   · rw[if_pos h2]
     by_cases h3:bP sz ts=true
     · rw[if_pos h3,if_pos ⟨by omega,by omega,h3⟩];rfl
     · rw[if_neg h3,if_neg fun h=>h3 h.2.2];rfl
   · rw[if_neg h2,if_neg fun h=>h2 (by omega)];rfl
 · rw[if_neg h1,if_neg h1];rfl
@[go_sem] theorem WH : vQ H sz (some (.t (.sl ts))) (some (some i)) (some none) = if 0 ≤ i then (if i ≤ ts.length then (if bP sz ts = true then some (.t (.sl (ts.drop i.toNat)), H) else none) else none) else none := by
 simp only[vQ,Option.bind_some,jG,bound,oE,idx]
 by_cases h1:0≤i
 · rw[if_pos h1,if_pos h1,Option.bind_some]
   by_cases h2:i≤ts.length
   · rw[if_pos h2]
     by_cases h3:bP sz ts=true
     · rw[if_pos h3,if_pos ⟨by omega,by omega,h3⟩,List.take_of_length_le (by simp)];rfl
     · rw[if_neg h3,if_neg fun h=>h3 h.2.2];rfl
   · rw[if_neg h2,if_neg fun h=>h2 (by omega)];rfl
 · rw[if_neg h1,if_neg h1];rfl
@[go_sem] theorem QI : vQ H sz (some (.t (.sl ts))) (some (some i)) (some (some j)) = if 0 ≤ i then (if i ≤ j then (if j ≤ ts.length then (if bP sz ts = true then some (.t (.sl ((ts.drop i.toNat).take (j.toNat - i.toNat))), H) else none) else none) else none) else none := by
 simp only[vQ,Option.bind_some,jG,bound,oE,idx]
 by_cases h1:0≤i
 · rw[if_pos h1,if_pos h1,Option.bind_some]
   by_cases h0:i≤j
   · rw[if_pos h0,if_pos (by omega:0≤j),Option.bind_some]
     by_cases h2:j≤ts.length
     · rw[if_pos h2]
       by_cases h3:bP sz ts=true
       · rw[if_pos h3,if_pos ⟨by omega,by omega,h3⟩];rfl
       · rw[if_neg h3,if_neg fun h=>h3 h.2.2];rfl
     · rw[if_neg h2,if_neg fun h=>h2 (by omega)];rfl
   · rw[if_neg h0]
     by_cases h2:0≤j
     · rw[if_pos h2,Option.bind_some,if_neg fun h=>h0 (by omega)];rfl
     · rw[if_neg h2];rfl
 · rw[if_neg h1,if_neg h1];rfl
end
def bsK(H:aj)(l:List Nat):Option T→Option (D×aj)
 | some t=>some (.t (.sl [t]),pins H l)
 | none=>none
@[go_sem] theorem TH (H : aj) (l : List Nat) (t : T) : bsK H l (some t) = some (.t (.sl [t]), pins H l) := (rfl)
@[go_sem] theorem TI (H : aj) (sz : Nat) (cs : List D) : tE H sz [.agg cs] = if jQ sz cs = true then bsK H (dN H 8 (.agg cs)) (frz H 8 (.agg cs)) else none := by
 simp only[tE,List.all_cons,List.all_nil,Bool.and_true,D.cells]
 by_cases h:jQ sz cs=true
 · rw[if_pos h,if_pos (by simpa using eC.1 h)]
   simp only[bX,depth,List.flatMap_cons,List.flatMap_nil,List.append_nil]
   cases frz H 8 (.agg cs)<;>rfl
 · rw[if_neg h,if_neg (by intro e;exact h (eC.2 (by simpa using e)))]
@[go_sem] theorem TJ (H : aj) (id ep n : Nat) : tE H 1 [.ref id ep n] = bsK H (dN H 8 (.ref id ep n)) (frz H 8 (.ref id ep n)) := by
 simp only[tE,List.all_cons,List.all_nil,Bool.and_true,D.cells,List.length_cons,List.length_nil,beq_self_eq_true,if_true,bX,depth,List.flatMap_cons,List.flatMap_nil,List.append_nil]
 cases frz H 8 (.ref id ep n)<;>rfl
def JX(H:aj)(r:D)(os:aj):D×aj:=(r,H++os)
@[go_sem] theorem TK (H : aj) (r : D) (os : aj) : JX H r os = (r, H ++ os) := (rfl)
def QJ(H:aj)(os:aj)(r:D):Option (D×aj):=(bX (fE (dv [] H.length)) os).map (JX H r)
@[go_sem] theorem TL (H : aj) (os : aj) (r : D) : QJ H os r = (bX (fE (dv [] H.length)) os).map (JX H r) := (rfl)
@[go_sem] theorem QK (H : aj) (r : D) (o : Obj) (os : aj) : rU H (r, o :: os) = (ren (dv [] H.length) 8 r).bind (QJ H (o :: os)) := by
 simp only[rU,List.isEmpty_cons,Bool.and_false,Bool.false_eq_true,if_false]
 rfl
end Go.Ev
namespace Go.Ev
open Go
variable [Lib] [bT] [bU]
@[go_sem] theorem WI (H : aj) (a b : List T) : tE H 1 [.t (.sl a), .t (.sl b), .nil] = some (.t (.sl [.sl a, .sl b, .sl []]), H) := by
 simp only[tE,List.all_cons,List.all_nil,D.cells,T.cells,List.map_cons,List.map_nil,List.length_cons,List.length_nil,bX,frz,depth,dN,List.flatMap_cons,List.flatMap_nil,pins]
 rfl
def Fa(c:Bool):Option Bool→Option Bool
 | some d=>some (c&&d)
 | none=>none
@[go_sem] theorem NG (c d : Bool) : Fa c (some d) = some (c && d) := (rfl)
@[go_sem] theorem NH : i5 [] [] = some true := (rfl)
@[go_sem] theorem JY (k : IntKind) (a b : Int) (xs ys : List T) : i5 (.int k a :: xs) (.int k b :: ys) = Fa (decide (a = b)) (i5 xs ys) := by
 simp only[i5,if_true,Pa]
 cases i5 xs ys<;>rfl
def Fb(H:aj)(neg:Bool):Option Bool→Option (D×aj)
 | some r=>some (.t (.bool (bif neg then !r else r)),H)
 | none=>none
@[go_sem] theorem NI (H : aj) (r : Bool) : Fb H true (some r) = some (.t (.bool (!r)), H) := (rfl)
@[go_sem] theorem JZ (H : aj) (r : Bool) : Fb H false (some r) = some (.t (.bool r), H) := (rfl)
@[go_sem] theorem J0 (H : aj) (n : Nat) (neg : Bool) (xs ys : List T) : mG H (.ints n) neg (some (.t (.agg xs))) (some (.t (.agg ys))) = if xs.length = n then Fb H neg (i5 xs ys) else none := by
 simp only[mG,Option.bind_some,Gd,eqD]
 by_cases h:xs.length=n
 · simp only[if_pos h]
   cases i5 xs ys with
   | none=>rfl
   | some r=>cases neg<;>rfl
 · simp only[if_neg h];rfl
@[go_sem] theorem NJ : ((2 : Nat) : Int) = 2 := (rfl)
@[go_sem] theorem GQ : ((3 : Nat) : Int) = 3 := (rfl)
def rW(n:Nat)(p:Nat→Bool):Nat:=((List.range n).find? p).getD 0
theorem oF{gc:Bool}{dead:List Nat}{c:C}{vs:List D}{H:aj}(s:Nat→St)(n:Nat)(p:Nat→Bool)(e:Nat→Ex×St)(eN:Ex×St)
 (h0:(⟨cR dead vs,H⟩:St)=s 0)
 (hs:∀j,j<n→p j=false→eB gc dead (s j).H.length (exS aT c (s j))=some (s (j+1)))
 (he:∀j,j<n→p j=true→exS aT c (s j)=some (e j)∧(e j).1≠ .normal)
 (hN:exS aT c (s n)=some eN) (hn:eN.1≠ .normal):
 exS aT (.loop gc dead c) ⟨vs,H⟩=some (if(List.range n).any p=true then e (rW n p)else eN):=by
 rw[gU s n p e eN h0 hs he hN hn,←E7]
 unfold rW
 cases hf:(List.range n).find? p with
 | none=>simp
 | some k=>simp
theorem Cf{α:Type} [Dat α](l:List α)(p:α→Bool):((List.range l.length).any fun j=>p (nth l j))=l.any p:=by
 rw[Bool.eq_iff_iff,List.any_eq_true,List.any_eq_true]
 constructor
 · rintro ⟨j,hj,hp⟩
   exact⟨_,bg (List.mem_range.1 hj),hp⟩
 · rintro ⟨x,hx,hp⟩
   obtain⟨j,hj,rfl⟩:=List.getElem_of_mem hx
   exact⟨j,List.mem_range.2 hj,by rw[dR (List.getElem?_eq_getElem hj)];exact hp⟩
theorem J1(n:Nat)(p:Nat→Bool):(List.range n).all p= !((List.range n).any fun j=> !p j):=by
 rw[List.all_eq_not_any_not]
@[go_sem] theorem QL : gZ [] [] [] = some true := (rfl)
@[go_sem] theorem QM (ks : List Bool) (k : IntKind) (a b : Int) (xs ys : List T) : gZ (true :: ks) (.int k a :: xs) (.int k b :: ys) = Fa (decide (a = b)) (gZ ks xs ys) := by
 simp only[gZ,if_true,Pa]
 cases gZ ks xs ys<;>rfl
@[go_sem] theorem NK (ks : List Bool) (a b : Bool) (xs ys : List T) : gZ (false :: ks) (.bool a :: xs) (.bool b :: ys) = Fa (decide (a = b)) (gZ ks xs ys) := by
 simp only[gZ,show(a==b)=decide (a=b)from rfl]
 cases gZ ks xs ys<;>rfl
@[go_sem] theorem TM (H : aj) (ks : List Bool) (neg : Bool) (xs ys : List T) : mG H (.sc ks) neg (some (.t (.agg xs))) (some (.t (.agg ys))) = Fb H neg (gZ ks xs ys) := by
 simp only[mG,Option.bind_some,Gd,eqD]
 cases gZ ks xs ys with
 | none=>rfl
 | some r=>cases neg<;>rfl
def Mod(n m:Int):Int:=if m<1 then 0 else if n.tmod m<0 then n.tmod m+m else n.tmod m
theorem QN(n m:Int):0≤Mod n m:=by
 unfold Mod
 split
 · omega
 · have h5:=Int.lt_tmod_of_pos n (b:=m) (by omega)
   split<;>omega
theorem QO(n m:Int)(h:1≤m):Mod n m<m:=by
 unfold Mod
 rw[if_neg (by omega)]
 have h3:=Int.tmod_lt_of_pos n (b:=m) (by omega)
 split<;>omega
theorem QP(n m:Int)(hm:m≤4611686018427387904):aT 0 N.gL [I n,I m] []=some (I (Mod n m),[]):=by
 refine aB K.pw rfl ?_
 unfold Mod
 by_cases h1:m<1
 · simp only[go_sem,K.gL,h1,↓reduceIte]
 · have h2:m≠0:=by omega
   have h3:=Int.tmod_lt_of_pos n (b:=m) (by omega)
   have h5:=Int.lt_tmod_of_pos n (b:=m) (by omega)
   by_cases h4:n.tmod m<0
   · simp (disch:=omega) only[go_sem,K.gL,h1,↓reduceIte,h2,h4]
   · simp (disch:=omega) only[go_sem,K.gL,h1,↓reduceIte,h2,h4]
theorem Fc(l:List Int):aT 0 N.fL [.t (tL l)] []=some (B (decide (l.length≤400)),[]):=by
 refine aB K.lK rfl ?_
 simp (disch:=omega) only[go_sem,K.fL,↓reduceIte]
 simp only[show((l.length:Int)≤400)=(l.length≤400)by rw[eq_iff_iff];omega]
structure aR where
 L:List Int
 at_:Nat
def aR.obj(d:aR):Obj:= .box [.t (tL d.L),I d.at_]
def aR.dk(d:aR):Prop:=d.L.length≤400
def aR.next(d:aR)(n:Int):Int×aR:=if d.at_<d.L.length then(Mod (nth d.L d.at_) n,⟨d.L,d.at_+1⟩)else(0,d)
theorem aR.GR(d:aR)(n:Int):(d.next n).2.L=d.L:=by unfold aR.next;split<;>rfl
theorem aR.cB{d:aR}(h:d.dk)(n:Int):(d.next n).2.dk:=by unfold aR.dk;rw[d.GR];exact h
theorem aR.iV(d:aR)(n:Int):0≤(d.next n).1:=by unfold aR.next;split<;>simp[QN]
theorem aR.iW(d:aR){n:Int}(h:1≤n):(d.next n).1<n:=by unfold aR.next;split<;>simp[QO _ _ h];omega
theorem jl(d:aR)(n:Int)(hn:n≤4611686018427387904)(hd:d.dk):aT 0 N.aF [.bp 0 0,I n] [d.obj]=some (I (d.next n).1,[(d.next n).2.obj]):=by
 refine aB K.iS rfl ?_
 have hm:=QP (nth d.L d.at_) n hn
 unfold aR.dk at hd
 unfold aR.next aR.obj
 by_cases h1:d.at_<d.L.length
 · simp (disch:=omega) only[go_sem,K.aF,↓reduceIte,↓if_pos,↓if_neg,Int.add_sub_cancel,hm,Int.natCast_add]
 · simp (disch:=omega) only[go_sem,K.aF,↓reduceIte,↓if_pos,↓if_neg]
@[go_sem] theorem TN (d : aR) : za (some d.obj) = [] := by simp only [aR.obj, go_sem]
@[go_sem] theorem TO (f : Nat → Option Nat) (d : aR) : fE f d.obj = some d.obj := by simp only [aR.obj, go_sem]
@[go_sem] theorem TP (k : Nat) (d : aR) (r : aj) : ef k (d.obj :: r) = ef k r := by simp only [aR.obj, go_sem]
def aR.one(d:aR)(n:Int):Bool×aR:=(decide ((d.next n).1=n-1),(d.next n).2)
theorem aR.vZ{d:aR}(h:d.dk)(n:Int):(d.one n).2.dk:=aR.cB h n
theorem GS(d:aR)(n:Int)(h1:0≤n)(hn:n≤4611686018427387904)(hd:d.dk):aT 0 N.cX [.bp 0 0,I n] [d.obj]=some (B (d.one n).1,[(d.one n).2.obj]):=by
 refine aB K.jk rfl ?_
 have hm:=jl d n hn hd
 unfold aR.one
 simp (disch:=omega) only[go_sem,K.cX,↓reduceIte,hm]
def aR.of(d:aR)(l:List Int):Int×aR:=(nth l (d.next l.length).1.toNat,(d.next l.length).2)
theorem aR.jK{d:aR}(h:d.dk)(l:List Int):(d.of l).2.dk:=aR.cB h _
theorem aR.oG(d:aR){l:List Int}(h:l≠[]):(d.of l).1∈l:=by
 unfold aR.of
 have hl:0<l.length:=List.length_pos_iff.2 h
 have:=d.iV l.length
 have:=d.iW (n:=l.length) (by omega)
 exact bg (by omega)
theorem Cg(d:aR)(l:List Int)(hl:l≠[])(hl2:l.length≤4294967296)(hd:d.dk):aT 0 N.bn [.bp 0 0,.t (tL l)] [d.obj]=some (I (d.of l).1,[(d.of l).2.obj]):=by
 refine aB K.jR rfl ?_
 have hm:=jl d l.length (by omega) hd
 have h0:0<l.length:=List.length_pos_iff.2 hl
 have h1:=d.iV l.length
 have h2:=d.iW (n:=l.length) (by omega)
 unfold aR.of
 simp (disch:=omega) only[go_sem,K.bn,↓reduceIte,hm]
def aR.jm(d:aR):Nat→List Int×aR
 | 0=>([],d)
 | k+1=>(if((d.jm k).2.next 3).1=0 then(d.jm k).1++[(k:Int)]else(d.jm k).1,((d.jm k).2.next 3).2)
theorem aR.nF{d:aR}(h:d.dk):∀n,(d.jm n).2.dk
 | 0=>h
 | n+1=>aR.cB (aR.nF h n) 3
theorem aR.rX(d:aR):∀n,(d.jm n).1.length≤n
 | 0=>Nat.le_refl _
 | n+1=>by
   have:=d.rX n
   unfold aR.jm
   simp only
   split<;>simp<;>omega
theorem J2(d:aR)(n:Nat)(hn:n≤1000000)(hd:d.dk):aT 0 N.cF [.bp 0 0,I n] [d.obj]=some (.t (tL (d.jm n).1),[(d.jm n).2.obj]):=by
 refine aB K.iT rfl ?_
 have hlen:=d.rX
 have loop:exS aT K.kf ⟨[.bp 0 0,I n,.nil,.ref 1 0 0,I 0],[d.obj,.arr 1 false 0 []]⟩=
  some (.exit 0,⟨[.bp 0 0,I n,.und,.ref 1 0 (d.jm n).1.length,I n],[(d.jm n).2.obj,.arr 1 false 0 (((d.jm n).1.map (T.int .i64)).map .t)]⟩):=by
  refine bV (fun j=>⟨[.bp 0 0,I n,.und,.ref 1 0 (d.jm j).1.length,I j],[(d.jm j).2.obj,.arr 1 false 0 (((d.jm j).1.map (T.int .i64)).map .t)]⟩) n rfl ?_ ?_ (by simp)
  · intro j hj
    have hm:=jl (d.jm j).2 3 (by omega) (aR.nF hd j)
    have:=hlen j
    by_cases h:((d.jm j).2.next 3).1=0
    · simp (disch:=omega) only[go_sem,K.fW,hm,h,aR.jm,↓reduceIte]
    · simp (disch:=omega) only[go_sem,K.fW,hm,h,aR.jm,↓reduceIte]
  · simp (disch:=omega) only[go_sem,K.fW,↓reduceIte]
 simp (disch:=omega) only[go_sem,K.cF,↓reduceIte,loop]
structure Place where
 h:Int
 surf:Bool
instance : Dat Place := ⟨⟨0, false⟩⟩
abbrev Place.e(p:Place):T:= .agg [tI p.h,.bool p.surf]
structure Road where
 frm:Int
 to:Int
 len:Int
 area:Int
 walk:Bool
 closed:Bool
 restL:Int
 restH:Int
 liftL:Int
 liftH:Int
instance : Dat Road := ⟨⟨0, 0, 0, 0, false, false, 0, 0, 0, 0⟩⟩
abbrev Road.e(r:Road):T:= .agg [tI r.frm,tI r.to,tI r.len,tI r.area,.bool r.walk,.bool r.closed,tI r.restL,tI r.restH,tI r.liftL,tI r.liftH]
structure cJ where
 places:List Place
 roads:List Road
instance : Dat cJ := ⟨⟨[], []⟩⟩
abbrev cJ.e(m:cJ):T:= .agg [.sl (m.places.map Place.e),.sl (m.roads.map Road.e)]
structure Road.ok(n:Nat)(r:Road):Prop where
 f0:0≤r.frm
 f1:r.frm<n
 t0:0≤r.to
 t1:r.to<n
 ne:r.frm≠r.to
 l0:1≤r.len
 l1:r.len≤100000
 a0:1≤r.area
 a1:r.area≤1000
 r0:1≤r.restL
 r1:r.restL≤r.restH
 r2:r.restH≤262144
 i0: -2199023255552≤r.liftL
 i1:r.liftL≤r.liftH
 i2:r.liftH≤2199023255552
structure cJ.ok(m:cJ):Prop where
 np:m.places.length≤64
 nr:m.roads.length≤128
 hs:∀p∈m.places, -10000≤p.h∧p.h≤10000
 rs:∀r∈m.roads,r.ok m.places.length
theorem wc(a b lo hi:Int):aT 0 N.eU [.t (.agg [tI a,tI b]),I lo,I hi] []=some (B (decide (lo≤a∧a≤b∧b≤hi)),[]):=by
 refine aB K.lL rfl ?_
 by_cases h1:lo≤a<;>by_cases h2:a≤b<;>by_cases h3:b≤hi<;>simp (disch:=omega) only[go_sem,K.eU,↓reduceIte,h1,h2,h3]
theorem zf{m:cJ}(h:m.ok):aT 0 N.dQ [.t m.e] []=some (I 0,[]):=by
 refine aB K.kE rfl ?_
 have np:=h.np
 have nr:=h.nr
 have loop1:∀a b c d e:D,exS aT K.mQ ⟨[a,.bp 0 0,b,I 0,c,d,e],[.box [.t (.sl (m.places.map Place.e)),.t (.sl (m.roads.map Road.e))]]⟩=
  some (.exit 0,⟨[.und,.bp 0 0,.und,I m.places.length,.und,.und,.und],[.box [.t (.sl (m.places.map Place.e)),.t (.sl (m.roads.map Road.e))]]⟩):=by
  intro a b c d e
  refine bV (fun j=>⟨[.und,.bp 0 0,.und,I j,.und,.und,.und],[.box [.t (.sl (m.places.map Place.e)),.t (.sl (m.roads.map Road.e))]]⟩) m.places.length rfl ?_ ?_ (by simp)
  · intro j hj
    have hh:=h.hs _ (bg hj)
    simp (disch:=omega) only[go_sem,K.ji,↓reduceIte]
  · simp (disch:=omega) only[go_sem,K.ji,↓reduceIte]
 have loop2:∀a b c d e:D,exS aT K.mR ⟨[a,.bp 0 0,b,c,d,I 0,e],[.box [.t (.sl (m.places.map Place.e)),.t (.sl (m.roads.map Road.e))]]⟩=
  some (.exit 2,⟨[.und,.bp 0 0,.und,.und,.und,I m.roads.length,.und],[.box [.t (.sl (m.places.map Place.e)),.t (.sl (m.roads.map Road.e))]]⟩):=by
  intro a b c d e
  refine bV (fun j=>⟨[.und,.bp 0 0,.und,.und,.und,I j,.und],[.box [.t (.sl (m.places.map Place.e)),.t (.sl (m.roads.map Road.e))]]⟩) m.roads.length rfl ?_ ?_ (by simp)
  · intro j hj
    obtain⟨f0,f1,t0,t1,ne,l0,l1,a0,a1,r0,r1,r2,i0,i1,i2⟩:=h.rs _ (bg hj)
    have s1:=wc (nth m.roads j).restL (nth m.roads j).restH 1 262144
    have s2:=wc (nth m.roads j).liftL (nth m.roads j).liftH (-2199023255552) 2199023255552
    simp (disch:=omega) only[go_sem]at s1 s2
    simp (disch:=omega) only[go_sem,K.jj,↓reduceIte,s1,s2]
  · simp (disch:=omega) only[go_sem,K.jj,↓reduceIte]
 simp (disch:=omega) only[go_sem,K.dQ,↓reduceIte,loop1,loop2]
theorem xX{l:List Int}{p:Int→Bool}:((List.range l.length).find? fun j=>p (nth l j)).isSome=l.any p:=by
 rw[List.isSome_find?,Bool.eq_iff_iff,List.any_eq_true,List.any_eq_true]
 constructor
 · rintro ⟨j,hj,h⟩
   exact⟨_,bg (List.mem_range.1 hj),h⟩
 · rintro ⟨x,hx,h⟩
   obtain⟨j,hj⟩:=List.mem_iff_getElem?.1 hx
   exact⟨j,List.mem_range.2 (List.getElem?_eq_some_iff.1 hj).1,by rw[dR hj];exact h⟩
theorem qd(l:List Int)(x:Int)(hl:l.length≤4294967296):aT 0 N.gj [.t (tL l),I x] []=some (B (decide (x∈l)),[]):=by
 refine aB K.nD rfl ?_
 have loop:∀a:D,exS aT K.p6 ⟨[.t (tL l),I x,a,I 0],[]⟩=
  some (match (List.range l.length).find? (fun j=>decide (nth l j=x))with
   | some j=>(.ret,⟨[.t (tL l),I x,B true,I j],[]⟩)
   | none=>(.exit 0,⟨[.t (tL l),I x,.und,I l.length],[]⟩)):=by
  intro a
  refine gU (fun j=>⟨[.t (tL l),I x,.und,I j],[]⟩) l.length (fun j=>decide (nth l j=x)) _ _ rfl ?_ ?_ ?_ (by simp)
  · intro j hj hp
    have hp:¬nth l j=x:=of_decide_eq_false hp
    simp (disch:=omega) only[go_sem,K.jc,↓reduceIte]
  · intro j hj hp
    have hp:nth l j=x:=of_decide_eq_true hp
    simp (disch:=omega) only[go_sem,K.jc,↓reduceIte,hp]
    simp
  · simp (disch:=omega) only[go_sem,K.jc,↓reduceIte]
 have e:=xX (l:=l) (p:=fun y=>decide (y=x))
 have e2:l.any (fun y=>decide (y=x))=decide (x∈l):=by rw[Bool.eq_iff_iff];simp
 rw[e2]at e
 simp only[go_sem,K.gj,↓reduceIte,loop]
 cases hf:(List.range l.length).find? (fun j=>decide (nth l j=x))with
 | some j=>rw[hf]at e;simp (disch:=omega) only[go_sem,↓reduceIte,←e]
 | none=>rw[hf]at e;simp (disch:=omega) only[go_sem,↓reduceIte,←e,Option.isSome_none]
theorem Ch(a b:List Int)(hl:a.length≤4294967296):aT 0 N.ct [.t (tL a),.t (tL b)] []=some (B (decide (a=b)),[]):=by
 refine aB K.iU rfl ?_
 by_cases hlen:a.length=b.length
 · have loop:∀c:D,exS aT K.kg ⟨[.t (tL a),.t (tL b),c,I 0],[]⟩=
    some (match (List.range a.length).find? (fun j=>decide (nth a j≠nth b j))with
     | some j=>(.ret,⟨[.t (tL a),.t (tL b),B false,I j],[]⟩)
     | none=>(.exit 0,⟨[.t (tL a),.t (tL b),.und,I a.length],[]⟩)):=by
    intro c
    refine gU (fun j=>⟨[.t (tL a),.t (tL b),.und,I j],[]⟩) a.length (fun j=>decide (nth a j≠nth b j)) _ _ rfl ?_ ?_ ?_ (by simp)
    · intro j hj hp
      have hp:nth a j=nth b j:=by simpa using hp
      simp (disch:=omega) only[go_sem,K.fX,↓reduceIte]
    · intro j hj hp
      have hp:nth a j≠nth b j:=by simpa using hp
      simp (disch:=omega) only[go_sem,K.fX,↓reduceIte]
      simp
    · simp (disch:=omega) only[go_sem,K.fX,↓reduceIte]
   have e:(a=b)↔(List.range a.length).find? (fun j=>decide (nth a j≠nth b j))=none:=by
    rw[List.find?_eq_none]
    constructor
    · intro h j _;simp[h]
    · intro h
      apply List.ext_getElem?
      intro j
      by_cases hj:j<a.length
      · rw[kF hj,kF (by omega)]
        have:=h j (List.mem_range.2 hj)
        simpa using this
      · rw[List.getElem?_eq_none (by omega),List.getElem?_eq_none (by omega)]
   simp (disch:=omega) only[go_sem,K.ct,↓reduceIte,loop]
   cases hf:(List.range a.length).find? (fun j=>decide (nth a j≠nth b j))with
   | some j=>rw[hf]at e;simp (disch:=omega) only[go_sem,↓reduceIte,e];simp
   | none=>rw[hf]at e;simp (disch:=omega) only[go_sem,↓reduceIte,e]
 · have hne:a≠b:=fun h=>hlen (by rw[h])
   simp (disch:=omega) only[go_sem,K.ct,↓reduceIte,hne]
def uW(l:List Int)(n:Int):Bool:=(List.range l.length).all fun j=>decide (0≤nth l j∧nth l j<n∧(0<j→nth l (j-1)<nth l j))
theorem Fe{n:Nat}{p:Nat→Bool}:((List.range n).all p)=((List.range n).find? fun j=> !p j).isNone:=by
 rw[← Option.not_isSome,List.isSome_find?,List.not_any_eq_all_not]
 simp
theorem GU(l:List Int)(n:Int)(hl:l.length≤4294967296):aT 0 N.gE [.t (tL l),I n] []=some (B (uW l n),[]):=by
 refine aB K.nE rfl ?_
 have loop:∀c:D,exS aT K.p7 ⟨[.t (tL l),I n,c,I 0],[]⟩=
  some (match (List.range l.length).find? (fun j=> !decide (0≤nth l j∧nth l j<n∧(0<j→nth l (j-1)<nth l j)))with
   | some j=>(.ret,⟨[.t (tL l),I n,B false,I j],[]⟩)
   | none=>(.exit 0,⟨[.t (tL l),I n,.und,I l.length],[]⟩)):=by
  intro c
  refine gU (fun j=>⟨[.t (tL l),I n,.und,I j],[]⟩) l.length _ _ _ rfl ?_ ?_ ?_ (by simp)
  · intro j hj hp
    simp only[Bool.not_eq_false',decide_eq_true_eq]at hp
    obtain⟨h1,h2,h3⟩:=hp
    cases j with
    | zero=>simp (disch:=omega) only[go_sem,K.fq,↓reduceIte]
    | succ j=>
      have h3:=h3 (by omega)
      rw[Nat.add_sub_cancel]at h3
      simp (disch:=omega) only[go_sem,K.fq,↓reduceIte]
  · intro j hj hp
    simp only[Bool.not_eq_true',decide_eq_false_iff_not]at hp
    refine⟨?_,by simp⟩
    by_cases h1:0≤nth l j
    · by_cases h2:nth l j<n
      · cases j with
        | zero=>exact absurd ⟨h1,h2,fun h=>absurd h (by omega)⟩ hp
        | succ j=>
          have h3:¬nth l j<nth l (j+1):=fun h=>hp ⟨h1,h2,fun _=>by simpa using h⟩
          simp (disch:=omega) only[go_sem,K.fq,↓reduceIte]
      · simp (disch:=omega) only[go_sem,K.fq,↓reduceIte]
    · simp (disch:=omega) only[go_sem,K.fq,↓reduceIte]
  · simp (disch:=omega) only[go_sem,K.fq,↓reduceIte]
 have e:uW l n=_:=Fe
 simp only[go_sem,K.gE,↓reduceIte,loop]
 cases hf:(List.range l.length).find? (fun j=> !decide (0≤nth l j∧nth l j<n∧(0<j→nth l (j-1)<nth l j)))with
 | some j=>rw[hf]at e;simp (disch:=omega) only[go_sem,↓reduceIte,e,Option.isNone_some]
 | none=>rw[hf]at e;simp (disch:=omega) only[go_sem,↓reduceIte,e,Option.isNone_none]
theorem hT(x lo hi:Int):aT 0 N.b6 [I x,I lo,I hi] []=some (B (decide (lo≤x∧x≤hi)),[]):=by
 refine aB K.px rfl ?_
 by_cases h1:lo≤x<;>by_cases h2:x≤hi<;>simp (disch:=omega) only[go_sem,K.b6,↓reduceIte]
theorem Ff(l:List Int)(x:Int)(hl:l.length≤4294967296):aT 0 N.bB [.t (tL l),I x] []=
 some (I (match (List.range l.length).find? (fun j=>decide (nth l j=x))with | some j=>(j:Int) | none=> -1),[]):=by
 refine aB K.fS rfl ?_
 have loop:∀a b:D,exS aT K.ig ⟨[.t (tL l),I x,a,b,I l.length,I 0],[]⟩=
  some (match (List.range l.length).find? (fun j=>decide (nth l j=x))with
   | some j=>(.ret,⟨[.t (tL l),I x,I j,I j,I l.length,I j],[]⟩)
   | none=>(.exit 0,⟨[.t (tL l),I x,.und,.und,I l.length,I l.length],[]⟩)):=by
  intro a b
  refine gU (fun j=>⟨[.t (tL l),I x,.und,.und,I l.length,I j],[]⟩) l.length (fun j=>decide (nth l j=x)) _ _ rfl ?_ ?_ ?_ (by simp)
  · intro j hj hp
    have hp:¬nth l j=x:=of_decide_eq_false hp
    simp (disch:=omega) only[go_sem,K.dw,↓reduceIte]
  · intro j hj hp
    have hp:nth l j=x:=of_decide_eq_true hp
    simp (disch:=omega) only[go_sem,K.dw,↓reduceIte,hp]
    simp
  · simp (disch:=omega) only[go_sem,K.dw,↓reduceIte]
 simp (disch:=omega) only[go_sem,K.bB,↓reduceIte,loop]
 cases hf:(List.range l.length).find? (fun j=>decide (nth l j=x))with
 | some j=>simp (disch:=omega) only[go_sem,↓reduceIte]
 | none=>simp (disch:=omega) only[go_sem,↓reduceIte]
theorem iF(l:List Int)(x:Int)(hl:l.length≤4294967296):aT 0 N.aZ [.t (tL l),I x] []=some (B (decide (x∈l)),[]):=by
 refine aB K.eJ rfl ?_
 have h:=Ff l x hl
 have e:=xX (l:=l) (p:=fun y=>decide (y=x))
 have e2:l.any (fun y=>decide (y=x))=decide (x∈l):=by rw[Bool.eq_iff_iff];simp
 rw[e2]at e
 cases hf:(List.range l.length).find? (fun j=>decide (nth l j=x))with
 | some j=>rw[hf]at e h;simp (disch:=omega) only[go_sem,K.aZ,↓reduceIte,←e,h]
 | none=>rw[hf]at e h;simp (disch:=omega) only[go_sem,K.aZ,↓reduceIte,←e,h,Option.isSome_none]
theorem we(l:List Int)(hl:l.length≤4294967296)(f:Nat)(bs:List (List T))(p:Int→Bool)(h:∀x,x∈l→aT 0 f (I x::eK bs.length) (aV bs)=some (B (p x),aV bs)):
 aT 0 N.a8 [.t (tL l),.fn f (eK bs.length)] (aV bs)=
 some (I (match (List.range l.length).find? (fun j=>p (nth l j))with | some j=>(j:Int) | none=> -1),aV bs):=by
 refine aB K.eh rfl ?_
 have loop:∀a b:D,exS aT K.gk ⟨[.t (tL l),.fn f (eK bs.length),a,b,I l.length,I 0],aV bs⟩=
  some (match (List.range l.length).find? (fun j=>p (nth l j))with
   | some j=>(.ret,⟨[.t (tL l),.fn f (eK bs.length),I j,I j,I l.length,I j],aV bs⟩)
   | none=>(.exit 0,⟨[.t (tL l),.fn f (eK bs.length),.und,.und,I l.length,I l.length],aV bs⟩)):=by
  intro a b
  refine gU (fun j=>⟨[.t (tL l),.fn f (eK bs.length),.und,.und,I l.length,I j],aV bs⟩) l.length (fun j=>p (nth l j)) _ _ rfl ?_ ?_ ?_ (by simp)
  · intro j hj hp
    have hc:=je (h _ (bg hj)) rfl
    simp (disch:=omega) only[go_sem,K.cT,↓reduceIte,hc,hp]
  · intro j hj hp
    have hc:=je (h _ (bg hj)) rfl
    simp (disch:=omega) only[go_sem,K.cT,↓reduceIte,hp,hc]
    simp
  · simp (disch:=omega) only[go_sem,K.cT,↓reduceIte]
 simp (disch:=omega) only[go_sem,K.a8,↓reduceIte,loop]
 cases hf:(List.range l.length).find? (fun j=>p (nth l j))with
 | some j=>simp (disch:=omega) only[go_sem,↓reduceIte]
 | none=>simp (disch:=omega) only[go_sem,↓reduceIte]
theorem rY(l:List Int)(hl:l.length≤4294967296)(f:Nat)(bs:List (List T))(p:Int→Bool)(h:∀x,x∈l→aT 0 f (I x::eK bs.length) (aV bs)=some (B (p x),aV bs)):
 aT 0 N.aO [.t (tL l),.fn f (eK bs.length)] (aV bs)=some (B (l.any p),aV bs):=by
 refine aB K.dA rfl ?_
 have h:=we l hl f bs p h
 have hc:=pA aT bs f _ 0 (tL l) h rfl
 have e:=xX (l:=l) (p:=p)
 cases hf:(List.range l.length).find? (fun j=>p (nth l j))with
 | some j=>rw[hf]at e hc;simp (disch:=omega) only[go_sem,K.aO,↓reduceIte,←e,hc]
 | none=>rw[hf]at e hc;simp (disch:=omega) only[go_sem,K.aO,↓reduceIte,←e,hc,Option.isSome_none]
theorem J3(r:Road)(back:Bool):aT 0 N.fM [.t r.e,B back] []=some (.tup [I (if back then r.to else r.frm),I (if back then r.frm else r.to)],[]):=by
 refine aB K.lN rfl ?_
 cases back<;>simp (disch:=omega) only[go_sem,K.fM,↓reduceIte]
def iM(m:cJ)(k:Nat)(back:Bool)(up down level:Int):Int:=
 let x:=nth m.roads k
 if x.closed=true∨x.walk=false then -1 else
 let a:=if back then x.to else x.frm
 let b:=if back then x.frm else x.to
 let rise:=(nth m.places b.toNat).h-(nth m.places a.toNat).h
 let speed:=if -10*rise>x.len then down else if 10*rise>x.len then up else level
 (10*x.len+speed-1).tdiv speed
theorem nG{a b:Int}(ha:0≤a)(hb:1≤b):0≤a.tdiv b∧a.tdiv b≤a:=by
 rw[Int.tdiv_eq_ediv_of_nonneg ha]
 exact⟨Int.ediv_nonneg ha (by omega),Int.ediv_le_self _ ha⟩
theorem Ci{m:cJ}(h:m.ok)(k:Nat)(hk:k<m.roads.length)(back:Bool)(up down level:Int)(hu:1≤up)(hu2:up≤100)(hd:1≤down)(hd2:down≤100)(hl:1≤level)(hl2:level≤100):
 aT 0 N.bS [.t m.e,I k,B back,I up,I down,I level] []=some (I (iM m k back up down level),[]):=by
 refine aB K.jS rfl ?_
 have hc:=zf h
 have nr:=h.nr
 have np:=h.np
 obtain⟨f0,f1,t0,t1, -,l0,l1, -, -, -, -, -, -, -, -⟩:=h.rs _ (bg hk)
 have he:=J3 (nth m.roads k) back
 have b1:=h.hs _ (bg (l:=m.places) (j:=(nth m.roads k).frm.toNat) (by omega))
 have b2:=h.hs _ (bg (l:=m.places) (j:=(nth m.roads k).to.toNat) (by omega))
 unfold iM
 generalize hx:nth m.roads k=x at*
 obtain⟨frm,to,len,area,walk,closed,rl,rh,ll,lh⟩:=x
 simp only at f0 f1 t0 t1 l0 l1 b1 b2 he ⊢
 cases closed with
 | true=>simp (disch:=omega) only[go_sem,K.bS,↓reduceIte,hc,hx]
 | false=>
   cases walk with
   | false=>simp (disch:=omega) only[go_sem,K.bS,↓reduceIte,hc,hx]
   | true=>
     have g1:=nG (a:=10*len+up-1) (b:=up) (by omega) hu
     have g2:=nG (a:=10*len+down-1) (b:=down) (by omega) hd
     have g3:=nG (a:=10*len+level-1) (b:=level) (by omega) hl
     cases back with
     | true=>
       simp only[↓reduceIte]at he ⊢
       have w1:IntKind.i64.wrap ((nth m.places frm.toNat).h-(nth m.places to.toNat).h)=(nth m.places frm.toNat).h-(nth m.places to.toNat).h:=rS (by omega) (by omega)
       by_cases c2:len< -10*((nth m.places frm.toNat).h-(nth m.places to.toNat).h)
       · simp (disch:=omega) only[go_sem,K.bS,↓reduceIte,hc,hx,he,w1,gt_iff_lt]
       · by_cases c1:len<10*((nth m.places frm.toNat).h-(nth m.places to.toNat).h)
         · simp (disch:=omega) only[go_sem,K.bS,↓reduceIte,hc,hx,he,w1,gt_iff_lt]
         · simp (disch:=omega) only[go_sem,K.bS,↓reduceIte,hc,hx,he,w1,gt_iff_lt]
     | false=>
       simp only[Bool.false_eq_true,↓reduceIte]at he ⊢
       have w1:IntKind.i64.wrap ((nth m.places to.toNat).h-(nth m.places frm.toNat).h)=(nth m.places to.toNat).h-(nth m.places frm.toNat).h:=rS (by omega) (by omega)
       by_cases c2:len< -10*((nth m.places to.toNat).h-(nth m.places frm.toNat).h)
       · simp (disch:=omega) only[go_sem,K.bS,↓reduceIte,hc,hx,he,w1,gt_iff_lt]
       · by_cases c1:len<10*((nth m.places to.toNat).h-(nth m.places frm.toNat).h)
         · simp (disch:=omega) only[go_sem,K.bS,↓reduceIte,hc,hx,he,w1,gt_iff_lt]
         · simp (disch:=omega) only[go_sem,K.bS,↓reduceIte,hc,hx,he,w1,gt_iff_lt]
theorem Cj{m:cJ}(h:m.ok)(k:Nat)(hk:k<m.roads.length)(back:Bool):aT 0 N.eV [.t m.e,I k,B back] []=some (I (iM m k back 6 9 12),[]):=by
 refine aB K.lM rfl ?_
 have hw:=Ci h k hk back 6 9 12 (by omega) (by omega) (by omega) (by omega) (by omega) (by omega)
 simp (disch:=omega) only[go_sem,K.eV,↓reduceIte,hw]
theorem zg{m:cJ}(h:m.ok)(k:Nat)(hk:k<m.roads.length)(back:Bool): -1≤iM m k back 6 9 12∧iM m k back 6 9 12≤1000012:=by
 have l0:=(h.rs _ (bg hk)).l0
 have l1:=(h.rs _ (bg hk)).l1
 unfold iM
 simp only
 split
 · omega
 · generalize hs:(if -10*_>(nth m.roads k).len then(9:Int)else _)=s
   have h1:1≤s∧s≤12:=by
    rw[← hs]
    split
    · omega
    · split<;>omega
   have g1:=nG (a:=10*(nth m.roads k).len+s-1) (b:=s) (by omega) h1.1
   omega
def bnd(l:List Int):Prop:=∀x∈l,0≤x∧x≤1099511627776
def GV(l:List Int)(p q:Nat)(walk t:Int):Bool:=
 decide (0≤walk)&&decide (nth l p<1099511627776)&&decide (max t (nth l p+walk)≤2147483648)&&decide (max t (nth l p+walk)<nth l q)
def QQ(l:List Int)(p q:Nat)(walk t:Int):List Int:=if GV l p q walk t=true then l.set q (max t (nth l p+walk))else l
def X9(into:Option (List Int))(p:Int):Bool:=match into with
 | none=>true
 | some l=>decide (p∈l)
def QR(into:Option (List Int)):D:=match into with
 | none=> .nil
 | some l=> .t (tL l)
def Road.src(r:Road)(back:Bool):Int:=if back then r.to else r.frm
def Road.dst(r:Road)(back:Bool):Int:=if back then r.frm else r.to
theorem Road.yG{n:Nat}{r:Road}(h:r.ok n)(back:Bool):0≤r.src back∧r.src back<n:=by
 unfold Road.src;have:=h.f0;have:=h.f1;have:=h.t0;have:=h.t1;cases back<;>simp<;>omega
def QS(m:cJ)(t:Int)(into:Option (List Int))(k:Nat)(back:Bool)(l:List Int):List Int×Bool:=
 if X9 into ((nth m.roads k).dst back)=true then
  (QQ l ((nth m.roads k).src back).toNat ((nth m.roads k).dst back).toNat (iM m k back 6 9 12) t,GV l ((nth m.roads k).src back).toNat ((nth m.roads k).dst back).toNat (iM m k back 6 9 12) t)
 else(l,false)
def WJ(m:cJ)(t:Int)(into:Option (List Int))(k:Nat)(s:List Int×Bool):List Int×Bool:=
 let a:=QS m t into k false s.1
 let b:=QS m t into k true a.1
 (b.1,s.2||a.2||b.2)
def GW(m:cJ)(t:Int)(into:Option (List Int))(l:List Int):Nat→List Int×Bool
 | 0=>(l,false)
 | k+1=>WJ m t into k (GW m t into l k)
def QT(m:cJ)(t:Int)(into:Option (List Int))(l:List Int):List Int×Bool:=GW m t into l m.roads.length
theorem J4{l:List Int}(h:bnd l){q:Nat}{x:Int}(h0:0≤x)(h1:x≤1099511627776):bnd (l.set q x):=by
 intro y hy
 rcases List.mem_or_eq_of_mem_set hy with hy | hy
 · exact h y hy
 · subst hy;exact⟨h0,h1⟩
section
variable {m : cJ} (h : m.ok) {t : Int} {into : Option (List Int)}
include h
end
def Ya(l:List Int):Nat:=(l.map Int.toNat).sum
section
variable {m : cJ} (h : m.ok) {t : Int} {into : Option (List Int)}
include h
end
end Go.Ev
namespace Go.Ev
open Go
variable [Lib] [bT] [bU]
abbrev aE(m:cJ):List D:=[.t (.sl (m.places.map Place.e)),.t (.sl (m.roads.map Road.e))]
@[go_sem] theorem QU (k n : Nat) (into : Option (List Int)) : old k n (QR into) = true := by
 cases into<;>simp only[QR,go_sem]
structure Wh where
 time:Int
 frm:List Int
instance : Dat Wh := ⟨⟨0, []⟩⟩
abbrev Wh.e(w:Wh):T:= .agg [tI w.time,tL w.frm]
def rZ(m:cJ)(t:Int)(into:Option (List Int))(l:List Int):List Int:=Cc (QT m t into) (Ya l+1) l
def inT(t:Int):Prop:=0≤t∧t≤2147483648
instance (t : Int) : Decidable (inT t) := by unfold inT; infer_instance
def plT(x:Int):Prop:=x=1099511627776∨inT x
instance (t : Int) : Decidable (plT t) := by unfold plT; infer_instance
def Ck(w:Wh)(n:Int):Bool:=decide ((w.frm.length:Int)=n∧inT w.time)&&(List.range w.frm.length).all fun j=>decide (plT (nth w.frm j))
def wg(m:cJ)(w:Wh):Bool:=Ck w m.places.length&&decide (rZ m w.time none w.frm=w.frm)
theorem xY{w:Wh}{n:Int}(h:Ck w n=true):(w.frm.length:Int)=n∧inT w.time∧∀x∈w.frm,plT x:=by
 simp only[Ck,Bool.and_eq_true,decide_eq_true_eq,List.all_eq_true,List.mem_range]at h
 refine⟨h.1.1,h.1.2,fun x hx=>?_⟩
 obtain⟨j,hj⟩:=List.mem_iff_getElem?.1 hx
 have:=h.2 j (List.getElem?_eq_some_iff.1 hj).1
 rwa [dR hj]at this
def Cl(n:Nat):List Int:=List.replicate n 1099511627776
@[simp] theorem NL (n : Nat) : (Cl n).length = n := List.length_replicate
def Cm(m:cJ)(p t:Int):Wh×Int:=
 if p<0∨(m.places.length:Int)≤p then(⟨0,[]⟩,3)else if inT t then(⟨t,rZ m t none ((Cl m.places.length).set p.toNat t)⟩,0)else(⟨0,[]⟩,8)
def Cn(w:Wh)(t:Int):Wh×Int:=if t<w.time∨2147483648<t then(w,8)else(⟨t,w.frm⟩,0)
def zh(m:cJ)(w:Wh)(places:List Int)(a b:Int):Int:=
 if wg m w=true∧places≠[]∧uW places m.places.length=true then(if inT a∧inT b∧a≤b then 0 else 8)else 6
def J5(w:Wh)(t p:Int)(s:List Int×Bool):List Int×Bool:=if nth w.frm p.toNat≤t then(s.1.set p.toNat (nth w.frm p.toNat),true)else s
def WK(w:Wh)(l:List Int)(t:Int)(n:Nat):Nat→List Int×Bool
 | 0=>(Cl n,false)
 | j+1=>J5 w t (nth l j) (WK w l t n j)
def Yb(m:cJ)(w:Wh)(l:List Int)(a b:Int):Wh×Int:=
 if zh m w l a b≠0 then(w,zh m w l a b)else if a<w.time then(w,42)else
 if(WK w l b m.places.length l.length).2=true then(⟨b,rZ m a none (WK w l b m.places.length l.length).1⟩,0)else(w,43)
theorem xZ{m:cJ}{w:Wh}(h:wg m w=true):w.frm.length=m.places.length∧inT w.time∧(∀x∈w.frm,plT x)∧rZ m w.time none w.frm=w.frm:=by
 simp only[wg,Bool.and_eq_true,decide_eq_true_eq]at h
 obtain⟨h1,h2,h3⟩:=xY h.1
 exact⟨by omega,h2,h3,h.2⟩
def Yc(l0 l:List Int):Nat→List Int
 | 0=>l0
 | j+1=>(Yc l0 l j).set (nth l j).toNat 1099511627776
def Yd(m:cJ)(w:Wh)(l:List Int)(a b bl:Int):Wh×Int:=
 if zh m w l a b≠0 then(w,zh m w l a b)else if ¬inT bl then(w,8)else if b<w.time then(w,42)else if b-max a w.time≤bl then(w,0)else
 (⟨b,rZ m b none (rZ m (b-bl) (some l) (Yc w.frm l l.length))⟩,0)
def Ye(a b:List Int):Nat→List Int
 | 0=>[]
 | j+1=>Ye a b j++[min (nth a j) (nth b j)]
def Co(a b:Wh):Wh×Int:=if a.frm.length=b.frm.length then(⟨max a.time b.time,Ye a.frm b.frm a.frm.length⟩,0)else(⟨0,[]⟩,6)
structure Spn where
 low:Int
 high:Int
instance : Dat Spn := ⟨⟨0, 0⟩⟩
abbrev Spn.e(f:Spn):T:= .agg [tI f.low,tI f.high]
def Spn.ok(f:Spn):Prop:= -1125899906842624≤f.low∧f.high≤1125899906842624∧f.low≤f.high
instance (f : Spn) : Decidable f.ok := by unfold Spn.ok; infer_instance
def Cp(m:cJ)(l:List Spn):Bool:=(List.range l.length).all (fun j=>decide (nth l j).ok)&&decide (l.length=m.roads.length)
def pB(x:Road)(f:Spn)(back:Bool):Int:=
 if x.closed=true then -1 else
 let g:=if back then -f.low else f.high
 let out:=if 0<g then(x.len*x.area*1000).tdiv g else -1
 if(if back then f.low<500*x.area else -500*x.area<f.high)∧(out<0∨x.len<out)then x.len else out
def QV(l:List Int)(p q:Nat)(t:Int):Bool:=decide (0≤t∧nth l p+t<nth l q)
def WL(l:List Int)(p q:Nat)(t:Int):List Int:=if QV l p q t=true then l.set q (nth l p+t)else l
def GX(m:cJ)(fl:List Spn)(k:Nat)(back:Bool)(l:List Int):List Int×Bool:=
 (WL l ((nth m.roads k).src back).toNat ((nth m.roads k).dst back).toNat (pB (nth m.roads k) (nth fl k) back),QV l ((nth m.roads k).src back).toNat ((nth m.roads k).dst back).toNat (pB (nth m.roads k) (nth fl k) back))
def QW(m:cJ)(fl:List Spn)(k:Nat)(s:List Int×Bool):List Int×Bool:=
 let a:=GX m fl k false s.1
 let b:=GX m fl k true a.1
 (b.1,s.2||a.2||b.2)
def Cq(m:cJ)(fl:List Spn)(l:List Int):Nat→List Int×Bool
 | 0=>(l,false)
 | k+1=>QW m fl k (Cq m fl l k)
def J6(m:cJ)(fl:List Spn)(l:List Int):List Int×Bool:=Cq m fl l m.roads.length
section
variable {m : cJ} (h : m.ok) {fl : List Spn}
include h
end
def TQ(l:List Int):Nat→List Int
 | 0=>l
 | j+1=>if 2147483648<nth (TQ l j) j then(TQ l j).set j 1099511627776 else TQ l j
def GY(m:cJ)(fl:List Spn)(l:List Int):List Int:=TQ (Cc (J6 m fl) (Ya l+1) l) m.places.length
end Go.Ev
namespace Go.Ev
open Go
variable [Lib] [bT] [bU]
def plS(t x:Int):Prop:=x=1099511627776∨(t≤x∧x≤2147483648)
instance (t x : Int) : Decidable (plS t x) := by unfold plS; infer_instance
def Cr(m:cJ)(s:Wh):Bool:=(List.range s.frm.length).all (fun j=>decide (plS s.time (nth s.frm j)))&&decide (s.frm.length=m.places.length∧inT s.time)
def J7(l:List Int)(t:Int)(n:Nat):List Int:=(List.range n).map fun(p:Nat)=>if(p:Int)∈l then t else 1099511627776
@[simp] theorem QX (l : List Int) (t : Int) (n : Nat) : (J7 l t n).length = n := by simp [J7]
def QY(m:cJ)(fl:List Spn)(l:List Int)(t:Int):Wh×Int:=
 if Cp m fl=false then(⟨0,[]⟩,6)else if uW l m.places.length=false then(⟨0,[]⟩,3)else if ¬inT t then(⟨0,[]⟩,8)else
 (⟨t,GY m fl (J7 l t m.places.length)⟩,0)
def GZ(m:cJ)(fl:List Spn)(frm:List Int)(t:Int)(k:Nat)(back:Bool)(l:List Int):List Int:=
 if nth frm ((nth m.roads k).src back).toNat≤t∧0≤pB (nth m.roads k) (nth fl k) back then l.set ((nth m.roads k).dst back).toNat (min (nth l ((nth m.roads k).dst back).toNat) t)else l
def QZ(m:cJ)(fl:List Spn)(frm:List Int)(t:Int)(k:Nat)(l:List Int):List Int:=GZ m fl frm t k true (GZ m fl frm t k false l)
def chN(m:cJ)(fl:List Spn)(frm:List Int)(t:Int):Nat→List Int
 | 0=>frm
 | k+1=>QZ m fl frm t k (chN m fl frm t k)
def WM(t:Int)(l:List Int):Nat→List Int
 | 0=>l
 | k+1=>(WM t l k).set k (max (nth (WM t l k) k) t)
def J8(m:cJ)(old:List Spn)(next:cJ)(fl:List Spn)(s:Wh)(t:Int):Wh×Int:=
 if Cr m s=false∨Cp m old=false∨Cp next fl=false∨next.places.length≠m.places.length then(s,6)else
 if t<s.time∨2147483648<t then(s,8)else(⟨t,GY next fl (WM t (chN m old s.frm t m.roads.length) m.places.length)⟩,0)
def Q0(a b:List Int):Bool:=match (List.range (min a.length b.length)).find? (fun j=>decide (nth a j≠nth b j))with
 | some j=>decide (nth a j<nth b j)
 | none=>decide (a.length<b.length)
def gx(l:List Int)(x:Int):Int:=match (List.range l.length).find? (fun j=>decide (nth l j=x))with
 | some j=>j
 | none=> -1
theorem Af{l:List Int}{x:Int}(h:0≤gx l x):gx l x<l.length∧nth l (gx l x).toNat=x:=by
 unfold gx at h ⊢
 cases hf:(List.range l.length).find? (fun j=>decide (nth l j=x))with
 | some j=>
   obtain⟨h1,h2⟩:=uv hf
   simp only[Int.toNat_natCast]
   exact⟨by omega,of_decide_eq_true h2⟩
 | none=>rw[hf]at h;simp at h
def ux(l:List Int)(j:Nat):Bool:=decide (1≤nth l j∧nth l j≤65535∧gx (l.take j) (nth l j)<0)
def ft(l:List Int):Bool:=(List.range l.length).all (ux l)
structure World where
 tags:List Int
 whr:List Wh
instance : Dat World := ⟨⟨[], []⟩⟩
abbrev World.e(x:World):T:= .agg [tL x.tags,.sl (x.whr.map Wh.e)]
structure Bel where
 worlds:List World
instance : Dat Bel := ⟨⟨[]⟩⟩
abbrev Bel.e(b:Bel):T:= .agg [.sl (b.worlds.map World.e)]
def World.sz(x:World):Prop:=x.tags.length≤1000000∧x.whr.length≤1000000∧∀w∈x.whr,w.frm.length≤1000000
def Bel.sz(b:Bel):Prop:=b.worlds.length≤1000000∧∀x∈b.worlds,x.sz
@[go_sem] theorem J9 (l : List Wh) : bP 2 (l.map Wh.e) = true := gn 2 _ (fun _ => rfl) l
@[go_sem] theorem DV (l : List World) : bP 2 (l.map World.e) = true := gn 2 _ (fun _ => rfl) l
@[go_sem] theorem TR (l : List Wh) : ja 2 (l.map Wh.e) = true := by cases l <;> rfl
@[go_sem] theorem Ka (l : List World) : ja 2 (l.map World.e) = true := by cases l <;> rfl
def Y9(m:cJ)(first:List Int)(x:World)(k:Nat):Bool:=decide (0≤gx first (nth x.tags k))&&wg m (nth x.whr k)
def Q1(m:cJ)(ws:List World)(first:List Int)(i:Nat):Bool:=
 decide ((nth ws i).tags.length=first.length∧(nth ws i).whr.length=first.length)&&ft (nth ws i).tags&&(decide (i=0)||Q0 (nth ws (i-1)).tags (nth ws i).tags)&&(List.range (nth ws i).tags.length).all (Y9 m first (nth ws i))
def Yf(m:cJ)(b:Bel):Bool:=
 decide (1≤b.worlds.length∧b.worlds.length≤24)&&decide (1≤(nth b.worlds 0).tags.length∧(nth b.worlds 0).tags.length≤12)&&(List.range b.worlds.length).all (Q1 m b.worlds (nth b.worlds 0).tags)
end Go.Ev
namespace Go.Ev.N
def Cs:Nat:=78
def A0:Nat:=79
def Ag:Nat:=80
def Kb:Nat:=81
def DW:Nat:=82
def Kc:Nat:=83
def Kd:Nat:=84
def Ke:Nat:=85
def NM:Nat:=86
def G0:Nat:=87
def Kf:Nat:=88
def G1:Nat:=89
def G2:Nat:=90
def NN:Nat:=91
def G3:Nat:=92
def NQ:Nat:=93
def Q2:Nat:=94
def Q3:Nat:=95
def Kg:Nat:=96
def NR:Nat:=97
def Kh:Nat:=98
def Ki:Nat:=99
def Kj:Nat:=100
def NS:Nat:=101
def Q4:Nat:=102
def xe:Nat:=103
def Fg:Nat:=104
def dm:Nat:=105
def G4:Nat:=106
def NT:Nat:=107
def NU:Nat:=108
def Kk:Nat:=109
def NV:Nat:=110
def NW:Nat:=111
def Kl:Nat:=112
def Km:Nat:=113
def eX:Nat:=114
def G5:Nat:=115
def NX:Nat:=116
def NY:Nat:=117
def G6:Nat:=118
def G7:Nat:=119
def Fh:Nat:=120
def Fi:Nat:=121
def zi:Nat:=122
end Go.Ev.N
namespace Go.Ev.K
open Go.Ev
end Go.Ev.K
namespace Go.Ev
class dL [Lib]:Prop where
namespace K
variable [Lib] [dL]
end K
end Go.Ev
namespace Go.Ev.K
open Go.Ev
def dB:C:=(.its [u (.bin .lss v8 v7)] [] 0 .skip (.exit 0) (.seq (.blk 1 (.seq (.reg [m v8,a 1 v6 v8,g l0,w 4 (.mv l2),w 5 (.mv l1)] []) (.ite [m v5,m v1,u (.bin .lss l1 l0),m l0,y 0 false (.mv v5),y 1 false (.mv v2),y 2 false (.bin .gtr l1 l0),u (.pk l3 (.b true) l0),m l0,y 0 false (.mv v4),y 1 false (.bin .gtr l0 (.i 0)),y 2 false (.mv l0),y 0 true (.mv v5),y 1 true (.mv v0),y 2 true (.mv v4),y 3 true (.bin .sub l0 (.i 1)),y 4 true (.ia l2 l0 1),y 5 true (.ld l0 1 false),y 6 true (.bin .leq l5 l0),y 10 false (.pk l7 l0 (.b false)),u (.pk l11 (.b true) l0)] [] 0 (.seq (.reg [w 3 (.mv (.b false))] []) .ret) .skip))) (.reg [u (.bin .add v8 (.i 1)),w 8 (.mv l0)] [])))
def lO:C:= .loop true [3,4,5] K.dB
def dm:Fn:={ nargs:=3,vars:=[0,1,2,6,7,8,9,10,11],body:=(.seq (.reg [w 3 (.mv (.b false))] []) (.seq (.seq (.reg [w 6 (.mv v0),w 7 (.ln l0),w 8 (.mv (.i 0))] []) (.blk 0 K.lO)) (.seq (.reg [w 3 (.mv (.b true))] []) .ret))),res:=[(3,none)]}
def eX:Fn:={ nargs:=1,vars:=[0,1,2],body:=(.seq (.reg [w 1 (.bx v0 2),w 2 (.al [.nil,.nil] [])] []) (.seq (.reg [f 0 v1,g l0,u (.app (.c (.nil)) l0 true 2),f 1 v1,g l0,u (.app (.c (.nil)) l0 true 10),u (.bd [.nil,.nil] [(0,1,.l 3),(1,1,.l 0)]),u (.st v2 l0 2 [])] [(4,0)]) .ret)),res:=[(2,some (2,true))]}
end Go.Ev.K
namespace Go.Ev
class dI [Lib]:Prop where
 jT:Lib.fs N.dm=some K.dm
 lQ:Lib.fs N.eX=some K.eX
namespace K
variable [Lib] [dI]
theorem jT:Lib.fs N.dm=some K.dm:=dI.jT
theorem lQ:Lib.fs N.eX=some K.eX:=dI.lQ
end K
end Go.Ev
namespace Go.Ev
open Go
variable [Lib] [bT] [bU] [dL] [dI]
def Ct(l:List Int)(lo hi:Int)(j:Nat):Bool:= !decide (lo≤nth l j∧nth l j≤hi∧(0<j→nth l (j-1)<nth l j))
def G8(l:List Int)(lo hi:Int):Bool:= !((List.range l.length).any (Ct l lo hi))
theorem wj(l:List Int)(lo hi:Int)(hl:l.length≤4294967296):aT 0 N.dm [.t (tL l),I lo,I hi] []=some (B (G8 l lo hi),[]):=by
 refine aB K.jT rfl ?_
 have loop:∀a b c:D,exS aT K.lO ⟨[.t (tL l),I lo,I hi,a,b,c,.t (tL l),I l.length,I 0],[]⟩=
  some (if(List.range l.length).any (Ct l lo hi)=true
   then(.ret,⟨[.t (tL l),I lo,I hi,B false,I (rW l.length (Ct l lo hi)),I (nth l (rW l.length (Ct l lo hi))),.t (tL l),I l.length,I (rW l.length (Ct l lo hi))],[]⟩)
   else(.exit 0,⟨[.t (tL l),I lo,I hi,.und,.und,.und,.t (tL l),I l.length,I l.length],[]⟩)):=by
  intro a b c
  refine oF (fun j=>⟨[.t (tL l),I lo,I hi,.und,.und,.und,.t (tL l),I l.length,I j],[]⟩) l.length (Ct l lo hi) (fun j=>(.ret,⟨[.t (tL l),I lo,I hi,B false,I j,I (nth l j),.t (tL l),I l.length,I j],[]⟩)) _ rfl ?_ ?_ ?_ (by simp)
  · intro j hj hp
    simp only[Ct,Bool.not_eq_false',decide_eq_true_eq]at hp
    obtain⟨h1,h2,h3⟩:=hp
    cases j with
    | zero=>simp (disch:=omega) only[go_sem,K.dB,↓reduceIte]
    | succ j=>
      have h3:=h3 (by omega)
      rw[Nat.add_sub_cancel]at h3
      simp (disch:=omega) only[go_sem,K.dB,↓reduceIte]
  · intro j hj hp
    simp only[Ct,Bool.not_eq_true',decide_eq_false_iff_not]at hp
    refine⟨?_,by simp⟩
    by_cases h1:lo≤nth l j
    · by_cases h2:nth l j≤hi
      · cases j with
        | zero=>exact absurd ⟨h1,h2,fun h=>absurd h (by omega)⟩ hp
        | succ j=>
          have h3:¬nth l j<nth l (j+1):=fun h=>hp ⟨h1,h2,fun _=>by simpa using h⟩
          simp (disch:=omega) only[go_sem,K.dB,↓reduceIte]
      · simp (disch:=omega) only[go_sem,K.dB,↓reduceIte]
    · simp (disch:=omega) only[go_sem,K.dB,↓reduceIte]
  · simp (disch:=omega) only[go_sem,K.dB,↓reduceIte]
 unfold G8
 simp (disch:=omega) only[go_sem,K.dm,↓reduceIte,loop]
 cases hf:(List.range l.length).any (Ct l lo hi)with
 | true=>simp (disch:=omega) only[go_sem,↓reduceIte]
 | false=>simp (disch:=omega) only[go_sem,↓reduceIte,Bool.false_eq_true]
theorem Kn(l:List Int)(n:Int):G8 l 0 (n-1)=uW l n:=by
 unfold G8 uW
 rw[J1]
 refine congrArg (!·) (congrArg _ (funext fun j=>?_))
 unfold Ct
 refine congrArg (!·) (decide_eq_decide.2 ⟨fun h=>⟨h.1,by omega,h.2.2⟩,fun h=>⟨h.1,by omega,h.2.2⟩⟩)
structure TS where
 st:Int
 fi:Int
 se:Int
 ti:Int
abbrev TS.e(s:TS):T:= .agg [tI s.st,tI s.fi,tI s.se,tI s.ti]
structure Fj where
 area:List Int
 hold:Int
 mis:Int
abbrev Fj.e(x:Fj):T:= .agg [tL x.area,tI x.hold,tI x.mis]
structure Keys where
 roads:List Int
 keys:List Int
 out:Bool
abbrev Keys.e(k:Keys):T:= .agg [tL k.roads,tL k.keys,.bool k.out]
end Go.Ev
namespace Go.Ev
open Go
variable [Lib] [bT] [bU]
@[go_sem] theorem Ko (l : List Place) : ja 2 (l.map Place.e) = true := by cases l <;> rfl
@[go_sem] theorem NZ (l : List Road) : ja 10 (l.map Road.e) = true := by cases l <;> rfl
@[go_sem] theorem N0 (H : aj) (d : aR) : EK H 0 1 false (some d.obj) = some (.t (tL d.L), H) := by simp only [aR.obj, go_sem]
def aR.dn(d:aR):Nat→List Place×aR
 | 0=>([],d)
 | k+1=>if k=0 then((d.dn k).1++[⟨-10*((d.dn k).2.next 4).1,true⟩],((d.dn k).2.next 4).2)
   else((d.dn k).1++[⟨-10*((d.dn k).2.next 4).1,(((d.dn k).2.next 4).2.one 6).1⟩],(((d.dn k).2.next 4).2.one 6).2)
def aR.Ah(d:aR)(i:Int):Road×aR:=
 (⟨i-1-(d.next (min i 2)).1,i,1+((d.next (min i 2)).2.of [11,59,119,4]).1,1+(((d.next (min i 2)).2.of [11,59,119,4]).2.of [9,3,19]).1,true,false,1,1,0,0⟩,
   (((d.next (min i 2)).2.of [11,59,119,4]).2.of [9,3,19]).2)
def aR.ij(d:aR):Nat→List Road×aR
 | 0=>([],d)
 | k+1=>((d.ij k).1++[((d.ij k).2.Ah (k+1)).1],((d.ij k).2.Ah (k+1)).2)
def aR.kG(d:aR)(n:Int):Road×aR:=
 let a:=d.next n
 let b:=a.2.next n
 let l:=b.2.of [11,59,199]
 let r:=l.2.of [9,3]
 let w:=r.2.next 5
 let c:=w.2.one 6
 (⟨a.1,b.1,1+l.1,1+r.1,decide (0<w.1),c.1,1,1,0,0⟩,c.2)
def aR.more(n:Int)(l:List Road)(d:aR):Nat→List Road×aR
 | 0=>(l,d)
 | k+1=>if l.length<10 then aR.more n (if(d.kG n).1.frm=(d.kG n).1.to then l else l++[(d.kG n).1]) (d.kG n).2 k else(l,d)
def aR.nH(d:aR):Nat:=if d.L.length=0 then 4 else(2+(d.next 6).1).toNat
def aR.Cu(d:aR):List Place×aR:=(d.next 6).2.dn d.nH
def aR.uy(d:aR):List Road×aR:=d.Cu.2.ij (d.nH-1)
def aR.Fk(d:aR):List Road×aR:=aR.more d.nH d.uy.1 (d.uy.2.next 4).2 (d.uy.2.next 4).1.toNat
def aR.gz(d:aR):cJ×aR:=(⟨d.Cu.1,d.Fk.1⟩,d.Fk.2)
theorem aR.ik{d:aR}(h:d.dk):∀n,(d.dn n).2.dk
 | 0=>h
 | n+1=>by
   unfold aR.dn
   split
   · exact aR.cB (aR.ik h n) 4
   · exact aR.vZ (aR.cB (aR.ik h n) 4) 6
theorem aR.kH(d:aR):∀n,(d.dn n).1.length=n
 | 0=>rfl
 | n+1=>by
   unfold aR.dn
   split<;>simp[d.kH n]
theorem aR.x7{d:aR}(h:d.dk)(i:Int):(d.Ah i).2.dk:=aR.jK (aR.jK (aR.cB h _) _) _
theorem aR.jL{d:aR}(h:d.dk):∀n,(d.ij n).2.dk
 | 0=>h
 | n+1=>aR.x7 (aR.jL h n) _
theorem aR.mz(d:aR):∀n,(d.ij n).1.length=n
 | 0=>rfl
 | n+1=>by simp[aR.ij,d.mz n]
theorem aR.r5{d:aR}(h:d.dk)(n:Int):(d.kG n).2.dk:=by
 unfold aR.kG;simp only
 exact aR.vZ (aR.cB (aR.jK (aR.jK (aR.cB (aR.cB h _) _) _) _) _) _
theorem aR.tH(n:Int):∀(k:Nat) (l:List Road) {d:aR},d.dk→(aR.more n l d k).2.dk
 | 0,l,d,h=>h
 | k+1,l,d,h=>by
   unfold aR.more
   split
   · exact aR.tH n k _ (aR.r5 h n)
   · exact h
theorem aR.Ai{d:aR}(h:d.dk):d.gz.2.dk:=
 aR.tH _ _ _ (aR.cB (aR.jL (aR.ik (aR.cB h _) _) _) _)
abbrev uz:List D:=[I 0,I 0,I 12,I 10,B true,B false,I 1,I 1,I 0,I 0]
theorem Aj(d:aR)(hd:d.dk)(n:Nat)(hn:n≤8)(a b c e f:D):
 exS aT K.kc ⟨[.bp 0 0,.bp 1 0,.bp 2 0,I n,I 0,a,b,c,e,f],[d.obj,.box [.nil,.nil],.box [.ref 3 0 0,.ref 4 0 0],.arr 2 false 0 [],.arr 10 false 0 []]⟩=
 some (.exit 0,⟨[.bp 0 0,.bp 1 0,.bp 2 0,I n,I n,.und,.und,.und,.und,.und],[(d.dn n).2.obj,.box [.nil,.nil],.box [.ref 3 0 (d.dn n).1.length,.ref 4 0 0],.arr 2 false 0 (((d.dn n).1.map Place.e).map .t),.arr 10 false 0 []]⟩):=by
 refine bV (fun j=>⟨[.bp 0 0,.bp 1 0,.bp 2 0,I n,I j,.und,.und,.und,.und,.und],[(d.dn j).2.obj,.box [.nil,.nil],.box [.ref 3 0 (d.dn j).1.length,.ref 4 0 0],.arr 2 false 0 (((d.dn j).1.map Place.e).map .t),.arr 10 false 0 []]⟩) n rfl ?_ ?_ (by simp)
 · intro j hj
   have ln:=d.kH j
   have lt:=aR.ik hd j
   simp only[aR.dn]
   generalize d.dn j=s at*
   obtain⟨l,d1⟩:=s
   simp only at ln lt ⊢
   have h1:=jl d1 4 (by omega) lt
   have b1:=d1.iV 4
   have b2:=d1.iW (n:=4) (by omega)
   have l1:=aR.cB lt 4
   generalize d1.next 4=a1 at*
   obtain⟨x,d2⟩:=a1
   simp only at h1 b1 b2 l1 ⊢
   by_cases j0:j=0
   · subst j0
     simp (disch:=omega) only[go_sem,K.fV,h1,↓reduceIte,Nat.reduceAdd,Nat.reduceSub]
   · have h2:=GS d2 6 (by omega) (by omega) l1
     simp (disch:=omega) only[go_sem,K.fV,h1,h2,j0,↓reduceIte,Nat.reduceAdd,Nat.reduceSub]
 · simp (disch:=omega) only[go_sem,K.fV,↓reduceIte]
theorem Ak(d:aR)(hd:d.dk)(n:Nat)(hn:n≤8)(h1:1≤n)(ps:List Place)(a b c e:D):
 exS aT K.kd ⟨[.bp 0 0,.bp 1 0,.bp 2 0,I n,a,.bp 5 0,I 1,b,c,e],[d.obj,.box [.nil,.nil],.box [.ref 3 0 ps.length,.ref 4 0 0],.arr 2 false 0 ((ps.map Place.e).map .t),.arr 10 false 0 [],.box uz]⟩=
 some (.exit 2,⟨[.bp 0 0,.bp 1 0,.bp 2 0,I n,.und,.bp 5 0,I n,.und,.und,.und],[(d.ij (n-1)).2.obj,.box [.nil,.nil],.box [.ref 3 0 ps.length,.ref 4 0 (d.ij (n-1)).1.length],.arr 2 false 0 ((ps.map Place.e).map .t),.arr 10 false 0 (((d.ij (n-1)).1.map Road.e).map .t),.box uz]⟩):=by
 refine bV (fun j=>⟨[.bp 0 0,.bp 1 0,.bp 2 0,I n,.und,.bp 5 0,I (j+1),.und,.und,.und],[(d.ij j).2.obj,.box [.nil,.nil],.box [.ref 3 0 ps.length,.ref 4 0 (d.ij j).1.length],.arr 2 false 0 ((ps.map Place.e).map .t),.arr 10 false 0 (((d.ij j).1.map Road.e).map .t),.box uz]⟩) (n-1) rfl ?_ ?_ (by simp)
 · intro j hj
   have ln:=d.mz j
   have lt:=aR.jL hd j
   simp only[aR.ij]
   generalize d.ij j=s at*
   obtain⟨l,d1⟩:=s
   simp only[aR.Ah]at ln lt ⊢
   have h1:=jl d1 (min ((j:Int)+1) 2) (by omega) lt
   have b1:=d1.iV (min ((j:Int)+1) 2)
   have b2:=d1.iW (n:=min ((j:Int)+1) 2) (by omega)
   have l1:=aR.cB lt (min ((j:Int)+1) 2)
   generalize d1.next (min ((j:Int)+1) 2)=a1 at*
   obtain⟨x,d2⟩:=a1
   simp only at h1 b1 b2 l1 ⊢
   have h2:=Cg d2 [11,59,119,4] (by simp) (by simp) l1
   have m2:=d2.oG (l:=[11,59,119,4]) (by simp)
   have l2:=aR.jK l1 [11,59,119,4]
   generalize d2.of [11,59,119,4]=a2 at*
   obtain⟨y,d3⟩:=a2
   simp only[tL,List.map_cons,List.map_nil]at h2 m2 l2 ⊢
   have h3:=Cg d3 [9,3,19] (by simp) (by simp) l2
   have m3:=d3.oG (l:=[9,3,19]) (by simp)
   generalize d3.of [9,3,19]=a3 at*
   obtain⟨z,d4⟩:=a3
   simp only[tL,List.map_cons,List.map_nil,List.mem_cons,List.not_mem_nil,or_false]at h3 m2 m3 ⊢
   simp (disch:=omega) only[go_sem,K.ie,h1,h2,h3,↓reduceIte,Nat.reduceAdd,Nat.reduceSub]
 · simp (disch:=omega) only[go_sem,K.ie,↓reduceIte]
   rw[show((n-1:Nat):Int)+1=n by omega]
abbrev wm(d:aR)(ps:List Place)(l:List Road):aj:=[d.obj,.box [.nil,.nil],.box [.ref 3 0 ps.length,.ref 4 0 l.length],.arr 2 false 0 ((ps.map Place.e).map .t),.arr 10 false 0 ((l.map Road.e).map .t),.box uz]
theorem Al(d:aR)(hd:d.dk)(n:Int)(hn:1≤n)(hn2:n≤8)(ps:List Place)(l:List Road)(hl:l.length<10)(k:Nat)(hk:k≤10):
 eB true [4,6,7,9] 6 (exS aT K.cY ⟨[.bp 0 0,.bp 1 0,.bp 2 0,I n,.und,.bp 5 0,.und,.und,I (k+1),.und],wm d ps l⟩)=
 some ⟨[.bp 0 0,.bp 1 0,.bp 2 0,I n,.und,.bp 5 0,.und,.und,I k,.und],wm (d.kG n).2 ps (if(d.kG n).1.frm=(d.kG n).1.to then l else l++[(d.kG n).1])⟩:=by
 unfold aR.kG wm
 simp only
 have h1:=jl d n (by omega) hd
 have l1:=aR.cB hd n
 generalize d.next n=a1 at*
 obtain⟨x1,d1⟩:=a1
 simp only at h1 l1 ⊢
 have h2:=jl d1 n (by omega) l1
 have l2:=aR.cB l1 n
 generalize d1.next n=a2 at*
 obtain⟨x2,d2⟩:=a2
 simp only at h2 l2 ⊢
 have h3:=Cg d2 [11,59,199] (by simp) (by simp) l2
 have m3:=d2.oG (l:=[11,59,199]) (by simp)
 have l3:=aR.jK l2 [11,59,199]
 generalize d2.of [11,59,199]=a3 at*
 obtain⟨x3,d3⟩:=a3
 simp only[tL,List.map_cons,List.map_nil]at h3 m3 l3 ⊢
 have h4:=Cg d3 [9,3] (by simp) (by simp) l3
 have m4:=d3.oG (l:=[9,3]) (by simp)
 have l4:=aR.jK l3 [9,3]
 generalize d3.of [9,3]=a4 at*
 obtain⟨x4,d4⟩:=a4
 simp only[tL,List.map_cons,List.map_nil]at h4 m4 l4 ⊢
 have h5:=jl d4 5 (by omega) l4
 have l5:=aR.cB l4 5
 generalize d4.next 5=a5 at*
 obtain⟨x5,d5⟩:=a5
 simp only at h5 l5 ⊢
 have h6:=GS d5 6 (by omega) (by omega) l5
 generalize d5.one 6=a6 at*
 obtain⟨x6,d6⟩:=a6
 simp only[List.mem_cons,List.not_mem_nil,or_false]at h6 m3 m4 ⊢
 by_cases e:x1=x2
 · simp (disch:=omega) only[go_sem,K.cY,h1,h2,h3,h4,h5,h6,e,↓reduceIte,Nat.reduceAdd,Nat.reduceSub]
 · simp (disch:=omega) only[go_sem,K.cY,h1,h2,h3,h4,h5,h6,e,↓reduceIte,Nat.reduceAdd,Nat.reduceSub]
theorem tJ(n:Int)(hn:1≤n)(hn2:n≤8)(ps:List Place):∀(k:Nat) (d:aR) (l:List Road),d.dk→l.length≤10→k≤10→
 ∃z:Int,j8 true [4,6,7,9] (exS aT K.cY) ⟨[.bp 0 0,.bp 1 0,.bp 2 0,I n,.und,.bp 5 0,.und,.und,I k,.und],wm d ps l⟩=
 some (.exit 4,⟨[.bp 0 0,.bp 1 0,.bp 2 0,I n,.und,.bp 5 0,.und,.und,I z,.und],wm (aR.more n l d k).2 ps (aR.more n l d k).1⟩)
 | 0,d,l,hd,hl,hk=>by
   refine⟨0,bj ?_ (by simp)⟩
   simp (disch:=omega) only[go_sem,K.cY,aR.more,↓reduceIte,Nat.reduceAdd,Nat.reduceSub]
 | k+1,d,l,hd,hl,hk=>by
   by_cases h:l.length<10
   · have hr:=Al d hd n hn hn2 ps l h k (by omega)
     obtain⟨z,hz⟩:=tJ n hn hn2 ps k (d.kG n).2 (if(d.kG n).1.frm=(d.kG n).1.to then l else l++[(d.kG n).1]) (aR.r5 hd n) (by split<;>(try rw[List.length_append,List.length_singleton])<;>omega) (by omega)
     refine⟨z,aY hr ?_⟩
     rw[hz]
     simp only[aR.more,if_pos h]
   · refine⟨(k:Int)+1,bj ?_ (by simp)⟩
     simp (disch:=omega) only[go_sem,K.cY,aR.more,↓reduceIte,Nat.reduceAdd,Nat.reduceSub]
theorem aR.zj(n:Int):∀(k:Nat) (l:List Road) (d:aR),l.length≤10→(aR.more n l d k).1.length≤10
 | 0,l,d,h=>h
 | k+1,l,d,h=>by
   unfold aR.more
   split
   · exact aR.zj n k _ _ (by split<;>(try rw[List.length_append,List.length_singleton])<;>omega)
   · exact h
theorem aR.qJ(d:aR):2≤d.nH∧d.nH≤7:=by
 unfold aR.nH
 have:=d.iV 6
 have:=d.iW (n:=6) (by omega)
 split<;>omega
theorem Kp(d:aR)(hd:d.dk):aT 0 N.cr [.bp 0 0] [d.obj]=some (.t d.gz.1.e,[d.gz.2.obj]):=by
 refine aB K.iR rfl ?_
 have nb:=d.qJ
 unfold aR.gz
 have h0:=jl d 6 (by omega) hd
 have l0:=aR.cB hd 6
 have b1:=d.iV 6
 have b2:=d.iW (n:=6) (by omega)
 have hL:=d.GR 6
 have hN:(d.nH:Int)=if d.L.length=0 then 4 else 2+(d.next 6).1:=by unfold aR.nH;split<;>omega
 have e1:d.Fk=aR.more d.nH d.uy.1 (d.uy.2.next 4).2 (d.uy.2.next 4).1.toNat:=rfl
 have e2:d.uy=d.Cu.2.ij (d.nH-1):=rfl
 have e3:d.Cu=(d.next 6).2.dn d.nH:=rfl
 generalize d.Fk=X at*
 generalize d.uy=R at*
 generalize d.Cu=P at*
 generalize d.nH=n at*
 generalize d.next 6=a at*
 obtain⟨x,d1⟩:=a
 simp only at h0 l0 b1 b2 hL hN e3 ⊢
 have q1:=Aj d1 l0 n (by omega)
 have lP:=aR.ik l0 n
 have nP:=d1.kH n
 rw[← e3]at q1 lP nP
 obtain⟨ps,d2⟩:=P
 simp only at q1 lP nP e2 ⊢
 have q2:=Ak d2 lP n (by omega) (by omega) ps
 have lR:=aR.jL lP (n-1)
 have nR:=d2.mz (n-1)
 rw[← e2]at q2 lR nR
 obtain⟨rs,d3⟩:=R
 simp only at q2 lR nR e1 ⊢
 have h4:=jl d3 4 (by omega) lR
 have l4:=aR.cB lR 4
 have b3:=d3.iV 4
 have b4:=d3.iW (n:=4) (by omega)
 generalize d3.next 4=c at*
 obtain⟨y,d4⟩:=c
 simp only at h4 l4 b3 b4 e1 ⊢
 obtain⟨z,q3⟩:=tJ n (by omega) (by omega) ps y.toNat d4 rs l4 (by omega) (by omega)
 rw[← e1]at q3
 have q3:=eW (vs:=[.bp 0 0,.bp 1 0,.bp 2 0,I n,.und,.bp 5 0,I n,.und,I y.toNat,.und]) q3
 have ey:(y.toNat:Int)=y:=by omega
 rw[ey]at q3
 obtain⟨xs,d5⟩:=X
 have fin:∀k:Int,(exS aT K.ke ⟨[.bp 0 0,.bp 1 0,.bp 2 0,I n,.und,.bp 5 0,I n,.und,I y,.und],wm d4 ps rs⟩)=
  some (.exit 4,⟨[.bp 0 0,.bp 1 0,.bp 2 0,I n,.und,.bp 5 0,.und,.und,I z,.und],wm d5 ps xs⟩):=fun _=>q3
 clear q3
 have q3:=fin 0
 clear fin
 simp only[wm]at q3
 by_cases c0:d.L.length=0
 · rw[if_pos c0]at hN
   obtain rfl:n=4:=by omega
   have e4:((4:Nat):Int)=4:=rfl
   simp only[e4]at q1 q2 q3
   simp (disch:=omega) only[go_sem,K.cr,↓reduceIte,h0,c0,q1,q2,q3,h4,hL,Nat.reduceAdd,Nat.reduceSub]
 · rw[if_neg c0]at hN
   simp (disch:=omega) only[go_sem,K.cr,↓reduceIte,h0,c0,q1,q2,q3,h4,hL,hN.symm,Nat.reduceAdd,Nat.reduceSub]
theorem aR.Fl(d:aR){n:Nat}{i:Int}(h1:1≤i)(h2:i<n):(d.Ah i).1.ok n:=by
 have b1:=d.iV (min i 2)
 have b2:=d.iW (n:=min i 2) (by omega)
 have m2:=(d.next (min i 2)).2.oG (l:=[11,59,119,4]) (by simp)
 have m3:=((d.next (min i 2)).2.of [11,59,119,4]).2.oG (l:=[9,3,19]) (by simp)
 simp only[List.mem_cons,List.not_mem_nil,or_false]at m2 m3
 unfold aR.Ah
 constructor<;>(simp only;omega)
theorem aR.wq(d:aR){n:Nat}:∀k,k+1≤n→∀r∈(d.ij k).1,r.ok n
 | 0,_,r,hr=>by simp[aR.ij]at hr
 | k+1,h,r,hr=>by
   simp only[aR.ij,List.mem_append,List.mem_singleton]at hr
   rcases hr with hr | rfl
   · exact d.wq k (by omega) r hr
   · exact aR.Fl _ (by omega) (by omega)
theorem aR.Fm(d:aR){n:Nat}(hn:1≤n)(hne:(d.kG n).1.frm≠(d.kG n).1.to):(d.kG n).1.ok n:=by
 unfold aR.kG at hne ⊢
 simp only at hne ⊢
 have b1:=d.iV n
 have b2:=d.iW (n:=(n:Int)) (by omega)
 generalize d.next n=a1 at*
 obtain⟨x1,d1⟩:=a1
 simp only at*
 have c1:=d1.iV n
 have c2:=d1.iW (n:=(n:Int)) (by omega)
 generalize d1.next n=a2 at*
 obtain⟨x2,d2⟩:=a2
 simp only at*
 have m3:=d2.oG (l:=[11,59,199]) (by simp)
 generalize d2.of [11,59,199]=a3 at*
 obtain⟨x3,d3⟩:=a3
 simp only at*
 have m4:=d3.oG (l:=[9,3]) (by simp)
 generalize d3.of [9,3]=a4 at*
 obtain⟨x4,d4⟩:=a4
 simp only[List.mem_cons,List.not_mem_nil,or_false]at m3 m4 ⊢
 constructor<;>(simp only;omega)
theorem aR.Cv{n:Nat}(hn:1≤n):∀(k:Nat) (l:List Road) (d:aR),(∀r∈l,r.ok n)→∀r∈(aR.more n l d k).1,r.ok n
 | 0,l,d,h=>h
 | k+1,l,d,h=>by
   unfold aR.more
   split
   · refine aR.Cv hn k _ _ ?_
     split
     · exact h
     · rename_i hne
       intro r hr
       rcases List.mem_append.1 hr with hr | hr
       · exact h r hr
       · rw[List.mem_singleton.1 hr];exact d.Fm hn hne
   · exact h
theorem aR.wt(n:Int):∀(k:Nat) (l:List Road) (d:aR),l.length≤(aR.more n l d k).1.length
 | 0,l,d=>Nat.le_refl _
 | k+1,l,d=>by
   unfold aR.more
   split
   · refine Nat.le_trans ?_ (aR.wt n k _ _)
     split<;>(try rw[List.length_append])<;>omega
   · exact Nat.le_refl _
theorem aR.wx(d:aR):∀k,∀p∈(d.dn k).1, -30≤p.h∧p.h≤0
 | 0,p,hp=>by simp[aR.dn]at hp
 | k+1,p,hp=>by
   have b1:=(d.dn k).2.iV 4
   have b2:=(d.dn k).2.iW (n:=4) (by omega)
   unfold aR.dn at hp
   split at hp
   all_goals
    simp only[List.mem_append,List.mem_singleton]at hp
    rcases hp with hp | rfl
    · exact d.wx k p hp
    · simp only;omega
theorem aR.r6(d:aR):d.gz.1.places.length=d.nH:=aR.kH _ _
theorem aR.tK(d:aR):d.nH-1≤d.gz.1.roads.length∧d.gz.1.roads.length≤10:=by
 have nb:=d.qJ
 have e:d.uy.1.length=d.nH-1:=aR.mz _ _
 constructor
 · rw[← e];exact aR.wt _ _ _ _
 · exact aR.zj _ _ _ _ (by omega)
theorem aR.Cw(d:aR):d.gz.1.ok:=by
 have nb:=d.qJ
 have h1:=d.r6
 have h2:=d.tK
 refine⟨by omega,by omega,fun p hp=>?_,?_⟩
 · have:=aR.wx _ _ p hp;omega
 · rw[h1]
   exact aR.Cv (by omega) _ _ _ (aR.wq _ _ (by omega))
@[go_sem] theorem Q5 (l : List Spn) : ja 2 (l.map Spn.e) = true := by cases l <;> rfl
@[go_sem] theorem WN (l : List Spn) (k : Nat) (a b : Int) : (List.map D.t (List.map Spn.e l)).set k (D.t (T.agg [tI a, tI b])) = List.map D.t (List.map Spn.e (l.set k ⟨a, b⟩)) := by
 rw[List.map_set,List.map_set]
@[go_sem] theorem Yg (H : aj) (sz : Nat) (a b c d e f : T) : tE H sz [.t a, .t b, .t c, .t d, .t e, .t f] = if bP sz [a, b, c, d, e, f] = true then some (.t (.sl [a, b, c, d, e, f]), H) else none := lH H sz [a, b, c, d, e, f]
@[go_sem] theorem Yh (H : aj) (sz : Nat) (a b c d e f g : T) : tE H sz [.t a, .t b, .t c, .t d, .t e, .t f, .t g] = if bP sz [a, b, c, d, e, f, g] = true then some (.t (.sl [a, b, c, d, e, f, g]), H) else none := lH H sz [a, b, c, d, e, f, g]
@[go_sem] theorem Yi (H : aj) (sz : Nat) (a b c d e f g h : T) : tE H sz [.t a, .t b, .t c, .t d, .t e, .t f, .t g, .t h] = if bP sz [a, b, c, d, e, f, g, h] = true then some (.t (.sl [a, b, c, d, e, f, g, h]), H) else none := lH H sz [a, b, c, d, e, f, g, h]
@[go_sem] theorem Q6 {α β γ : Type} {l : List α} {g : α → β} {f : β → γ} {x : γ} {j : Nat} (h : j = l.length) : (List.map f (List.map g l) ++ [x])[j]? = some x := by
 rw[List.getElem?_append_right (by simp;omega)];simp[h]
@[go_sem] theorem TT {α β γ : Type} {l : List α} {g : α → β} {f : β → γ} {x y : γ} {j : Nat} (h : j = l.length) : (List.map f (List.map g l) ++ [x]).set j y = List.map f (List.map g l) ++ [y] := by
 rw[List.set_append_right _ _ (by simp;omega)];simp[h]
def aR.Q7(d:aR):Spn×aR:=
 let a:=d.of [0,1000,5000,20000, -5000, -20000,4999,100]
 let b:=a.2.of [0,1,1000,6000]
 let c:=b.2.of [0,1,500]
 let w:=c.2.one 9
 (if w.1=true then⟨-1125899906842624,1125899906842624⟩else⟨a.1-b.1,a.1+c.1⟩,w.2)
def aR.zk(d:aR):Nat→List Spn×aR
 | 0=>([],d)
 | k+1=>((d.zk k).1++[((d.zk k).2.Q7).1],((d.zk k).2.Q7).2)
def aR.WO(d:aR)(m:cJ):List Spn×aR:=d.zk m.roads.length
theorem G9{gc:Bool}{dead:List Nat}{c:C}{vs:List D}{H:aj}(P:Nat→St→Prop)(n:Nat)(Q:Ex×St→Prop)(h0:P 0 ⟨cR dead vs,H⟩)
 (hs:∀j st,j<n→P j st→(∃st',eB gc dead st.H.length (exS aT c st)=some st'∧P (j+1) st')∨∃q,exS aT c st=some q∧q.1≠ .normal∧Q q)
 (he:∀st,P n st→∃q,exS aT c st=some q∧q.1≠ .normal∧Q q):∃q,exS aT (.loop gc dead c) ⟨vs,H⟩=some q∧Q q:=by
 have key:∀(k j:Nat) (st:St),j+k=n→P j st→∃q,j8 gc dead (exS aT c) st=some q∧Q q:=by
  intro k
  induction k with
  | zero=>
    intro j st hj hp
    obtain⟨q,h1,h2,h3⟩:=he st (by rw[← hj];exact hp)
    exact⟨q,bj h1 h2,h3⟩
  | succ k ih=>
    intro j st hj hp
    rcases hs j st (by omega) hp with⟨st',h1,h2⟩ | ⟨q,h1,h2,h3⟩
    · obtain⟨q,h3,h4⟩:=ih (j+1) st' (by omega) h2
      exact⟨q,aY h1 h3,h4⟩
    · exact⟨q,bj h1 h2,h3⟩
 exact key n 0 _ (by omega) h0
theorem Q8(l:List Int):aT 0 N.gD [.t (tL l)] []=some (.bp 0 0,[aR.obj ⟨l,0⟩]):=by
 refine aB K.nC rfl ?_
 simp (disch:=omega) only[go_sem,K.gD,↓reduceIte,aR.obj,Nat.reduceAdd,Nat.reduceSub]
theorem jn{d:aR}(hd:d.dk)(n:Int)(h1:1≤n)(hn:n≤4611686018427387904):
 ∃(v:Int) (e:aR),aT 0 N.aF [.bp 0 0,I n] [d.obj]=some (I v,[e.obj])∧e.dk∧0≤v∧v<n:=
 ⟨_,_,jl d n hn hd,aR.cB hd n,d.iV n,d.iW h1⟩
theorem Kq{d:aR}(hd:d.dk)(l:List Int)(hl:l≠[])(hn:l.length≤4294967296):
 ∃(v:Int) (e:aR),aT 0 N.bn [.bp 0 0,.t (tL l)] [d.obj]=some (I v,[e.obj])∧e.dk∧v∈l:=
 ⟨_,_,Cg d l hl hn hd,aR.jK hd l,d.oG hl⟩
theorem Q9{d:aR}(hd:d.dk):
 ∃(m:cJ) (e:aR),aT 0 N.cr [.bp 0 0] [d.obj]=some (.t m.e,[e.obj])∧e.dk∧m.ok∧2≤m.places.length∧m.places.length≤7∧1≤m.roads.length∧m.roads.length≤10:=by
 have b:=d.qJ
 have p:=d.r6
 have r:=d.tK
 exact⟨_,_,Kp d hd,aR.Ai hd,d.Cw,by omega,by omega,by omega,by omega⟩
end Go.Ev
namespace Go.Ev
open Go
variable [Lib] [bT] [bU] [dL] [dI]
abbrev never:Int:=1099511627776
abbrev Wh.box(w:Wh):Obj:= .box [I w.time,.t (tL w.frm)]
structure Req where
 x:Fj
 s:TS
 k:Keys
 b:Bel
 t:Int
 from_:Int
abbrev Req.e(r:Req):T:= .agg [tL r.x.area,tI r.x.hold,tI r.x.mis,tI r.s.st,tI r.s.fi,tI r.s.se,tI r.s.ti,tL r.k.roads,tL r.k.keys,.bool r.k.out,.sl (r.b.worlds.map World.e),tI r.t,tI r.from_]
structure Req.sz(r:Req):Prop where
 hx:r.x.area.length≤1000000
 hk:r.k.roads.length≤1000000
 hk2:r.k.keys.length≤1000000
 hb:r.b.sz
section
variable (x : Fj) (s : TS) (k : Keys) (b : Bel) (hx : x.area.length ≤ 1000000) (hk : k.roads.length ≤ 1000000) (hk2 : k.keys.length ≤ 1000000) (hb : b.sz)
include hx hk hk2 hb
end
end Go.Ev
namespace Go.Ev
open Go
variable [Lib] [bT] [bU] [dL] [dI]
section
variable (area : List Int) (ha : area.length ≤ 1000000) (xs : List World) (hx : xs.length ≤ 1000000)
include ha hx
end
end Go.Ev
namespace Go.Ev
open Go
section
variable (H : aj) (sz id ep n lo hi : Nat) (i j : Int) (fz : Bool)
def scO(r:D):Option Obj→Option (D×aj)
 | some (.arr sz' _ ep' es)=>if ep=ep'∧n=es.length then(if sz'=sz then some (r,H)else none)else none
 | _=>none
@[go_sem] theorem WQ (r : D) (sz' : Nat) (pin : Bool) (es : List D) : scO H sz ep n r (some (.arr sz' pin ep es)) = if n = es.length then (if sz' = sz then some (r, H) else none) else none := by simp [scO]
theorem scR{l h:Nat}:((eL H id ep n).bind fun a=>if l≤h∧h≤n∧a.1=sz then some (D.sub id ep n l h)else none).map (fun d=>(d,H))=if l≤h then(if h≤n then scO H sz ep n (.sub id ep n l h) H[id]? else none)else none:=by
 simp only[eL]
 generalize H[id]?=o
 by_cases h1:l≤h
 · by_cases h2:h≤n
   · rw[if_pos h1,if_pos h2]
     rcases o with _ | (_ | ⟨sz',pin,ep',es⟩)
     · rfl
     · rfl
     · simp only[scO]
       by_cases h3:ep=ep'∧n=es.length
       · rw[if_pos h3,if_pos h3,Option.bind_some]
         by_cases h4:sz'=sz
         · rw[if_pos h4,if_pos ⟨h1,h2,h4⟩];rfl
         · rw[if_neg h4,if_neg fun h=>h4 h.2.2];rfl
       · rw[if_neg h3,if_neg h3];rfl
   · rw[if_pos h1,if_neg h2]
     rcases o with _ | (_ | ⟨sz',pin,ep',es⟩)
     · rfl
     · rfl
     · by_cases h3:ep=ep'∧n=es.length
       · simp only[if_pos h3,Option.bind_some];rw[if_neg fun h=>h2 h.2.1];rfl
       · simp only[if_neg h3];rfl
 · rw[if_neg h1]
   rcases o with _ | (_ | ⟨sz',pin,ep',es⟩)
   · rfl
   · rfl
   · by_cases h3:ep=ep'∧n=es.length
     · simp only[if_pos h3,Option.bind_some];rw[if_neg fun h=>h1 h.1];rfl
     · simp only[if_neg h3];rfl
@[go_sem] theorem Kr : vQ H sz (some (.ref id ep n)) (some none) (some (some i)) = if 0 ≤ i then (if i ≤ n then scO H sz ep n (.sub id ep n 0 i.toNat) H[id]? else none) else none := by
 simp only[vQ,Option.bind_some,jG,bound,idx]
 by_cases h1:0≤i
 · rw[if_pos h1,if_pos h1,Option.bind_some,scR,if_pos (Nat.zero_le _)]
   by_cases h2:i≤n
   · rw[if_pos h2,if_pos (by omega)]
   · rw[if_neg h2,if_neg (by omega)]
 · rw[if_neg h1,if_neg h1];rfl
@[go_sem] theorem Ks : vQ H sz (some (.ref id ep n)) (some (some i)) (some none) = if 0 ≤ i then (if i ≤ n then scO H sz ep n (.sub id ep n i.toNat n) H[id]? else none) else none := by
 simp only[vQ,Option.bind_some,jG,bound,idx]
 by_cases h1:0≤i
 · rw[if_pos h1,if_pos h1,Option.bind_some,scR]
   by_cases h2:i≤n
   · rw[if_pos h2,if_pos (by omega),if_pos (by omega)]
   · rw[if_neg h2,if_neg (by omega)]
 · rw[if_neg h1,if_neg h1];rfl
@[go_sem] theorem Fo : vQ H sz (some (.ref id ep n)) (some (some i)) (some (some j)) = if 0 ≤ i then (if i ≤ j then (if j ≤ n then scO H sz ep n (.sub id ep n i.toNat j.toNat) H[id]? else none) else none) else none := by
 simp only[vQ,Option.bind_some,jG,bound,idx]
 by_cases h1:0≤i
 · rw[if_pos h1,if_pos h1,Option.bind_some]
   by_cases h0:i≤j
   · rw[if_pos h0,if_pos (by omega),Option.bind_some,scR,if_pos (by omega)]
     by_cases h2:j≤n
     · rw[if_pos h2,if_pos (by omega)]
     · rw[if_neg h2,if_neg (by omega)]
   · rw[if_neg h0]
     by_cases h2:0≤j
     · rw[if_pos h2,Option.bind_some,scR,if_neg (by omega)]
     · rw[if_neg h2];rfl
 · rw[if_neg h1,if_neg h1];rfl
@[go_sem] theorem Kt : vQ H sz (some .nil) (some none) (some (some i)) = if i = 0 then some (.nil, H) else none := by
 simp only[vQ,Option.bind_some,jG,bound,idx]
 by_cases h1:0≤i
 · rw[if_pos h1,Option.bind_some]
   by_cases h2:i=0
   · rw[if_pos h2,if_pos (by omega)];rfl
   · rw[if_neg h2,if_neg (by omega)];rfl
 · rw[if_neg h1,if_neg (by omega)];rfl
@[go_sem] theorem Ku : vQ H sz (some .nil) (some (some i)) (some none) = if i = 0 then some (.nil, H) else none := by
 simp only[vQ,Option.bind_some,jG,bound,idx]
 by_cases h1:0≤i
 · rw[if_pos h1,Option.bind_some]
   by_cases h2:i=0
   · rw[if_pos h2,if_pos (by omega)];rfl
   · rw[if_neg h2,if_neg (by omega)];rfl
 · rw[if_neg h1,if_neg (by omega)];rfl
def x8(x:D)(ys:List D):Option (D×aj):=if cz sz ys=true then(match x with
 | .nil=>if ys.length≤4294967296 then some (.ref H.length 0 ys.length,H++[.arr sz false 0 ys])else none
 | .ref id ep n=>p4 H sz id ep n ys H[id]?
 | _=>none)else none
@[go_sem] theorem TU (ys : List D) : x8 H sz .nil ys = if cz sz ys = true then (if ys.length ≤ 4294967296 then some (.ref H.length 0 ys.length, H ++ [.arr sz false 0 ys]) else none) else none := (rfl)
@[go_sem] theorem TV (ys : List D) : x8 H sz (.ref id ep n) ys = if cz sz ys = true then p4 H sz id ep n ys H[id]? else none := (rfl)
@[go_sem] theorem Hc : cz sz [] = true := (rfl)
@[go_sem] theorem Fp (d : D) (r : List D) : cz sz (d :: r) = jQ sz d.cells := by
 rw[Bool.eq_iff_iff,eC];simp[cz]
def Ra(x:D):Option Obj→Option (D×aj)
 | some (.arr _ _ ep' es)=>if ep=ep'∧n=es.length then x8 H sz x ((es.drop lo).take (hi-lo))else none
 | _=>none
def Rb(x:D):Option Obj→Option (D×aj)
 | some (.arr _ _ ep' es)=>if ep=ep'∧n=es.length then x8 H sz x es else none
 | _=>none
@[go_sem] theorem TW (x : D) (sz' : Nat) (pin : Bool) (es : List D) : Ra H sz ep n lo hi x (some (.arr sz' pin ep es)) = if n = es.length then x8 H sz x ((es.drop lo).take (hi - lo)) else none := by simp [Ra]
@[go_sem] theorem TX (x : D) (sz' : Nat) (pin : Bool) (es : List D) : Rb H sz ep n x (some (.arr sz' pin ep es)) = if n = es.length then x8 H sz x es else none := by simp [Rb]
theorem x9(x:D)(ys:List D):(if cz sz ys=true then(match x with
 | .nil=>if ys.length≤lim then some (D.ref H.length 0 ys.length,H++[.arr sz false 0 ys])else none
 | .ref id ep n=>(eL H id ep n).bind fun a=>if a.1=sz∧n+ys.length≤lim then some (.ref id ep (n+ys.length),H.set id (.arr sz a.2.1 ep (a.2.2++ys)))else none
 | _=>none)else none)=x8 H sz x ys:=by
 unfold x8
 split
 · cases x with
   | ref id ep n=>
     simp only[eL]
     generalize H[id]?=o
     rcases o with _ | (_ | ⟨sz',pin,ep',es⟩)
     · rfl
     · rfl
     · simp only[p4]
       by_cases h1:ep=ep'∧n=es.length
       · rw[if_pos h1,Option.bind_some]
         by_cases h2:sz'=sz∧n+ys.length≤lim
         · rw[if_pos h2,if_pos ⟨h1.1,h1.2,h2⟩]
         · rw[if_neg h2,if_neg fun h=>h2 h.2.2]
       · rw[if_neg h1,if_neg fun h=>h1 ⟨h.1,h.2.1⟩];rfl
   | _=>rfl
 · rfl
theorem pC(x y:D)(ys:List D)(h:elems H y=some ys):jD H sz false (some x) (some y)=x8 H sz x ys:=by
 simp only[jD,Option.bind_some,iN,h,Bool.false_eq_true,if_false]
 exact x9 H sz x ys
@[go_sem] theorem DX (x : D) : jD H sz false (some x) (some .nil) = x8 H sz x [] := pC H sz x .nil [] rfl
@[go_sem] theorem DY (x : D) : jD H sz false (some x) (some (.ref id ep n)) = Rb H sz ep n x H[id]? := by
 cases he:elems H (.ref id ep n)with
 | some ys=>
   rw[pC H sz x _ ys he]
   simp only[elems,eL]at he
   generalize H[id]?=o at he
   rcases o with _ | (_ | ⟨sz',pin,ep',es⟩)
   · cases he
   · cases he
   · simp only[Rb]
     by_cases h1:ep=ep'∧n=es.length
     · simp only[if_pos h1]at he ⊢;cases he;rfl
     · simp only[if_neg h1]at he;cases he
 | none=>
   have:jD H sz false (some x) (some (.ref id ep n))=none:=by simp only[jD,Option.bind_some,iN,he];rfl
   rw[this]
   simp only[elems,eL]at he
   generalize H[id]?=o at he
   rcases o with _ | (_ | ⟨sz',pin,ep',es⟩)
   · rfl
   · rfl
   · simp only[Rb]
     by_cases h1:ep=ep'∧n=es.length
     · simp only[if_pos h1]at he;cases he
     · simp only[if_neg h1]
@[go_sem] theorem DZ (x : D) : jD H sz false (some x) (some (.sub id ep n lo hi)) = Ra H sz ep n lo hi x H[id]? := by
 cases he:elems H (.sub id ep n lo hi)with
 | some ys=>
   rw[pC H sz x _ ys he]
   simp only[elems,eL]at he
   generalize H[id]?=o at he
   rcases o with _ | (_ | ⟨sz',pin,ep',es⟩)
   · cases he
   · cases he
   · simp only[Ra]
     by_cases h1:ep=ep'∧n=es.length
     · simp only[if_pos h1]at he ⊢;cases he;rfl
     · simp only[if_neg h1]at he;cases he
 | none=>
   have:jD H sz false (some x) (some (.sub id ep n lo hi))=none:=by simp only[jD,Option.bind_some,iN,he];rfl
   rw[this]
   simp only[elems,eL]at he
   generalize H[id]?=o at he
   rcases o with _ | (_ | ⟨sz',pin,ep',es⟩)
   · rfl
   · rfl
   · simp only[Ra]
     by_cases h1:ep=ep'∧n=es.length
     · simp only[if_pos h1]at he;cases he
     · simp only[if_neg h1]
def N1(ep n lo hi:Nat):Option Obj→Option (List D)
 | some (.arr _ _ ep' es)=>if ep=ep'∧n=es.length then some ((es.drop lo).take (hi-lo))else none
 | _=>none
def TY(x:D):Option (List D)→Option (D×aj)
 | some ys0=>(bX (fun d=>(frz H depth d).map .t) ys0).bind fun ys=>if cz sz ys then x8 (pins H (ys0.flatMap (dN H depth))) sz x ys else none
 | none=>none
@[go_sem] theorem Yj (x : D) (ts : List T) : TY H sz x (some (ts.map .t)) = x8 H sz x (ts.map .t) := by
 simp only[TY,oC,Option.bind_some,BU,pins]
 by_cases h:cz sz (ts.map D.t)=true
 · rw[if_pos h]
 · rw[if_neg h];unfold x8;rw[if_neg h]
@[go_sem] theorem Fq (x : D) : jD H sz true (some x) (some (.sub id ep n lo hi)) = TY H sz x (N1 ep n lo hi H[id]?) := by
 have e:elems H (.sub id ep n lo hi)=N1 ep n lo hi H[id]?:=by
  simp only[elems,eL]
  generalize H[id]?=o
  rcases o with _ | (_ | ⟨sz',pin,ep',es⟩)
  · rfl
  · rfl
  · simp only[N1]
    by_cases h1:ep=ep'∧n=es.length
    · simp only[if_pos h1];rfl
    · simp only[if_neg h1];rfl
 simp only[jD,Option.bind_some,iN,e]
 cases N1 ep n lo hi H[id]? with
 | none=>rfl
 | some ys0=>
   simp only[Option.bind_some,TY,if_true]
   cases hm:bX (fun d=>(frz H depth d).map D.t) ys0 with
   | none=>rfl
   | some ys=>
     simp only[Option.bind_some]
     refine(x9 _ _ _ _).trans ?_
     by_cases h:cz sz ys=true
     · rw[if_pos h]
     · rw[if_neg h];unfold x8;rw[if_neg h]
@[go_sem] theorem TZ (ep n lo hi sz : Nat) (pin : Bool) (ts : List T) : N1 ep n lo hi (some (.arr sz pin ep (ts.map .t))) = if n = ts.length then some (((ts.drop lo).take (hi - lo)).map .t) else none := by
 simp only[N1,true_and,List.length_map,List.map_take,List.map_drop]
def ya(ds:List D):Option (D×aj):=if ds.all (fun d=>d.cells.length==sz&&d.gv)then some (.ref H.length 0 ds.length,H++[.arr sz false 0 ds])else none
@[go_sem] theorem Yk (call : aS) (get : X → Option D) (xs : List X) : evO call get H (.bsr xs sz) = (bX get xs).bind (ya H sz) := (rfl)
@[go_sem] theorem Rc : ya H sz [] = some (.ref H.length 0 0, H ++ [.arr sz false 0 []]) := (rfl)
@[go_sem] theorem Re (k : IntKind) (n : Int) : ya H 1 [.t (.int k n)] = some (.ref H.length 0 1, H ++ [.arr 1 false 0 [.t (.int k n)]]) := (rfl)
@[go_sem] theorem Rf (cs : List D) : ya H sz [.agg cs] = if jQ sz cs = true then some (.ref H.length 0 1, H ++ [.arr sz false 0 [.agg cs]]) else none := by
 simp only[ya,List.all_cons,List.all_nil,Bool.and_true,D.cells,D.gv]
 by_cases h:jQ sz cs=true
 · rw[if_pos h,if_pos (by simpa using eC.1 h)];rfl
 · rw[if_neg h,if_neg (by intro e;exact h (eC.2 (by simpa using e)))]
end
@[go_sem] theorem Hd : (1 : Int).toNat = 1 := (rfl)
@[go_sem] theorem Kv : (2 : Int).toNat = 2 := (rfl)
@[go_sem] theorem Fs : (3 : Int).toNat = 3 := (rfl)
section
variable {H t : aj} {i j k : Nat} {o o' : Obj}
theorem mS(h:i<H.length):(H++t)[i]?=H[i]?:=List.getElem?_append_left h
theorem tM(h:i<H.length):(H.set i o)[i]?=some o:=by simp[h]
theorem kh(h:i≠j):(H.set i o)[j]?=H[j]?:=List.getElem?_set_ne h
theorem r7(h:H[i]?=some o):i<H.length:=(List.getElem?_eq_some_iff.1 h).1
end
end Go.Ev
namespace Go.Ev.N
def Cx:Nat:=123
def A1:Nat:=124
def D0:Nat:=125
def Cy:Nat:=126
def Kw:Nat:=127
def Kx:Nat:=128
def Ky:Nat:=129
def N2:Nat:=130
def N3:Nat:=131
def Kz:Nat:=132
def KA:Nat:=133
def Ft:Nat:=134
def Fu:Nat:=135
def N4:Nat:=136
def KB:Nat:=137
def Fv:Nat:=138
def He:Nat:=139
def D1:Nat:=140
def Hf:Nat:=141
def Fw:Nat:=142
def Cz:Nat:=143
def CA:Nat:=144
def CB:Nat:=145
def Hg:Nat:=146
def Hh:Nat:=147
def Am:Nat:=148
end Go.Ev.N
namespace Go.Ev.N
def zl:Nat:=149
def CC:Nat:=150
def CD:Nat:=151
def A2:Nat:=152
def KC:Nat:=153
def KD:Nat:=154
def Hi:Nat:=155
def Hj:Nat:=156
def KE:Nat:=157
def N5:Nat:=158
def KF:Nat:=159
def wy:Nat:=160
def zm:Nat:=161
def KG:Nat:=162
def N6:Nat:=163
def Hk:Nat:=164
def N7:Nat:=165
def Hl:Nat:=166
def eY:Nat:=167
def mI:Nat:=168
def Fx:Nat:=169
def Fy:Nat:=170
def An:Nat:=171
def FA:Nat:=172
def fN:Nat:=173
def nW:Nat:=174
def CE:Nat:=175
def CF:Nat:=176
def dS:Nat:=177
end Go.Ev.N
namespace Go.Ev.K
open Go.Ev
def eY:Fn:={ nargs:=1,vars:=[0,1,2],body:=(.seq (.reg [w 1 (.bx v0 2),w 2 (.mv (.b false))] []) (.seq (.reg [h 2 v1,u (.ca N.fN 0 [] [.l 0]),u (.bin .eql l0 (.i 0)),w 2 (.mv l0)] []) .ret)),res:=[(2,none)]}
end Go.Ev.K
namespace Go.Ev
class dF [Lib]:Prop where
 lS:Lib.fs N.eY=some K.eY
namespace K
variable [Lib] [dF]
theorem lS:Lib.fs N.eY=some K.eY:=dF.lS
end K
end Go.Ev
namespace Go.Ev.K
open Go.Ev
def jU:C:=(.its [u (.bin .lss v8 v7)] [] 0 .skip (.exit 0) (.seq (.blk 1 (.seq (.reg [a 2 v6 v8,h 2 l0,w 3 (.al [.t (.int .i64 (0)),.t (.bool false)] []),u (.st l0 l1 2 [])] []) (.ite [f 0 v3,g l0,u (.bin .lss l0 (.i (-10000))),m l0,y 0 false (.fa v3 0),y 1 false (.ld l0 1 false),y 2 false (.bin .gtr l0 (.i 10000)),u (.pk l3 (.b true) l0)] [] 0 (.seq (.reg [w 2 (.mv (.i 1))] []) .ret) .skip))) (.reg [u (.bin .add v8 (.i 1)),w 8 (.mv l0)] [])))
def oH:C:= .loop true [0,2,3,4,5,9,10,11] K.jU
def jV:C:=(.its [u (.bin .lss v11 v10)] [] 0 .skip (.exit 2) (.seq (.blk 3 (.seq (.reg [a 10 v9 v11,h 10 l0,w 5 (.al [.t (.int .i64 (0)),.t (.int .i64 (0)),.t (.int .i64 (0)),.t (.int .i64 (0)),.t (.bool false),.t (.bool false),.t (.int .i64 (0)),.t (.int .i64 (0)),.t (.int .i64 (0)),.t (.int .i64 (0))] []),u (.st l0 l1 10 [])] []) (.seq (.ite [f 0 v5,g l0,u (.bin .lss l0 (.i 0)),m l0,y 0 false (.fa v5 0),y 1 false (.ld l0 1 false),y 2 false (.mv v4),y 3 false (.bin .geq l1 l0),u (.pk l4 (.b true) l0),m l0,y 0 false (.fa v5 1),y 1 false (.ld l0 1 false),y 2 false (.bin .lss l0 (.i 0)),u (.pk l3 (.b true) l0),m l0,y 0 false (.fa v5 1),y 1 false (.ld l0 1 false),y 2 false (.mv v4),y 3 false (.bin .geq l1 l0),u (.pk l4 (.b true) l0),m l0,y 0 false (.fa v5 0),y 1 false (.ld l0 1 false),y 2 false (.fa v5 1),y 3 false (.ld l0 1 false),y 4 false (.bin .eql l2 l0),u (.pk l5 (.b true) l0)] [] 0 (.seq (.reg [w 2 (.mv (.i 4))] []) .ret) .skip) (.seq (.ite [f 2 v5,g l0,u (.bin .lss l0 (.i 1)),m l0,y 0 false (.fa v5 2),y 1 false (.ld l0 1 false),y 2 false (.bin .gtr l0 (.i 100000)),u (.pk l3 (.b true) l0),m l0,y 0 false (.fa v5 3),y 1 false (.ld l0 1 false),y 2 false (.bin .lss l0 (.i 1)),u (.pk l3 (.b true) l0),m l0,y 0 false (.fa v5 3),y 1 false (.ld l0 1 false),y 2 false (.bin .gtr l0 (.i 1000)),u (.pk l3 (.b true) l0)] [] 0 (.seq (.reg [w 2 (.mv (.i 1))] []) .ret) .skip) (.ite [f 6 v5,h 2 l0,u (.ca N.dS 0 [] [.l 0,.i 1,.i 262144]),u (.un .not l0),m l0,y 0 false (.fa v5 8),y 1 false (.ld l0 2 true),y 2 false (.ca N.dS 0 [] [.l 0,.i (-2199023255552),.i 2199023255552]),y 3 false (.un .not l0),u (.pk l4 (.b true) l0)] [] 0 (.seq (.reg [w 2 (.mv (.i 1))] []) .ret) .skip))))) (.reg [u (.bin .add v11 (.i 1)),w 11 (.mv l0)] [])))
def oI:C:= .loop true [0,1,2,3,5,6,7,8] K.jV
def fN:Fn:={ nargs:=1,vars:=[0,1,2,4,5,7,19,20,21,38,39,40],body:=(.seq (.reg [w 1 (.bx v0 2),w 2 (.mv (.i 0))] []) (.seq (.ite [f 0 v1,g l0,u (.ln l0),u (.bin .gtr l0 (.i 64)),m l0,y 0 false (.fa v1 1),y 1 false (.ld l0 1 false),y 2 false (.ln l0),y 3 false (.bin .gtr l0 (.i 128)),u (.pk l4 (.b true) l0)] [] 0 (.seq (.reg [w 2 (.mv (.i 2))] []) .ret) .skip) (.seq (.seq (.reg [f 0 v1,w 6 (.ld l0 1 false),w 7 (.ln l0),w 8 (.mv (.i 0))] []) (.blk 0 K.oH)) (.seq (.reg [f 0 v1,g l0,u (.ln l0),w 4 (.mv l0)] []) (.seq (.seq (.reg [f 1 v1,w 9 (.ld l0 1 false),w 10 (.ln l0),w 11 (.mv (.i 0))] []) (.blk 2 K.oI)) (.seq (.reg [w 2 (.mv (.i 0))] []) .ret)))))),res:=[(2,none)]}
def dS:Fn:={ nargs:=3,vars:=[0,1,2,3,6],body:=(.seq (.reg [w 3 (.bx v0 2),w 4 (.mv (.b false))] []) (.seq (.reg [m v1,f 0 v3,g l0,u (.bin .leq l2 l0),m l0,y 0 true (.fa v3 0),y 1 true (.ld l0 1 false),y 2 true (.fa v3 1),y 3 true (.ld l0 1 false),y 4 true (.bin .leq l2 l0),u (.pk l5 l0 (.b false)),m l0,y 0 true (.fa v3 1),y 1 true (.ld l0 1 false),y 2 true (.mv v2),y 3 true (.bin .leq l1 l0),u (.pk l4 l0 (.b false)),w 4 (.mv l0)] []) .ret)),res:=[(4,none)]}
end Go.Ev.K
namespace Go.Ev
class dC [Lib]:Prop where
 lT:Lib.fs N.fN=some K.fN
 kI:Lib.fs N.dS=some K.dS
namespace K
variable [Lib] [dC]
theorem lT:Lib.fs N.fN=some K.fN:=dC.lT
theorem kI:Lib.fs N.dS=some K.dS:=dC.kI
end K
end Go.Ev
namespace Go.Ev
open Go
variable [Lib] [bT] [bU] [dF] [dC]
section
variable (H : aj) (sz : Nat)
def Hm(id ep n lo hi:Nat)(ys:List D):Option Obj→Option (D×aj)
 | some (.arr sz' pin ep' es)=>if ep=ep'∧n=es.length then HL H id ep (sz',pin,es) lo hi ys sz else none
 | _=>none
def cpD(x:D)(ys:List D):Option (D×aj):=if cz sz ys=true then(match x with
 | .ref id ep n=>Hm H sz id ep n 0 n ys H[id]?
 | .sub id ep n lo hi=>Hm H sz id ep n lo hi ys H[id]?
 | _=>none)else none
def T0(x y:Option D):Option (D×aj):=x.bind fun a=>y.bind fun b=>tU H a b sz
@[go_sem] theorem Za (call : aS) (get : X → Option D) (x y : X) : evO call get H (.cp x y sz) = T0 H sz (get x) (get y) := (rfl)
theorem zn(x y:D)(ys:List D)(h:elems H y=some ys):tU H x y sz=cpD H sz x ys:=by
 unfold tU cpD
 rw[h,Option.bind_some]
 split
 · rename_i hh
   cases x with
   | ref id ep n=>
     simp only[eL,Hm]
     cases H[id]? with
     | none=>rfl
     | some o=>
       cases o with
       | box cs=>rfl
       | arr sz' pin ep' es=>
         simp only
         by_cases c:ep=ep'∧n=es.length
         · rw[if_pos c,if_pos c];rfl
         · rw[if_neg c,if_neg c];rfl
   | sub id ep n lo hi=>
     simp only[eL,Hm]
     cases H[id]? with
     | none=>rfl
     | some o=>
       cases o with
       | box cs=>rfl
       | arr sz' pin ep' es=>
         simp only
         by_cases c:ep=ep'∧n=es.length
         · rw[if_pos c,if_pos c];rfl
         · rw[if_neg c,if_neg c];rfl
   | _=>rfl
 · rfl
@[go_sem] theorem Yl (x : D) (ts : List T) : T0 H sz (some x) (some (.t (.sl ts))) = cpD H sz x (ts.map .t) := zn H sz x (.t (.sl ts)) (ts.map .t) rfl
def cpE(x:D)(ep n lo hi:Nat):Option Obj→Option (D×aj)
 | some (.arr _ _ ep' es)=>if ep=ep'∧n=es.length then cpD H sz x ((es.drop lo).take (hi-lo))else none
 | _=>none
@[go_sem] theorem WR (x : D) (n lo hi sz' : Nat) (pin : Bool) (ep : Nat) (es : List D) : cpE H sz x ep n lo hi (some (.arr sz' pin ep es)) = if n = es.length then cpD H sz x ((es.drop lo).take (hi - lo)) else none := by simp [cpE]
@[go_sem] theorem T1 (x : D) (id ep n lo hi : Nat) : T0 H sz (some x) (some (.sub id ep n lo hi)) = cpE H sz x ep n lo hi H[id]? := by
 unfold T0
 simp only[Option.bind_some]
 cases h:H[id]? with
 | none=>simp[tU,elems,eL,h,cpE]
 | some o=>
   cases o with
   | box cs=>simp[tU,elems,eL,h,cpE]
   | arr sz' pin ep' es=>
     by_cases c:ep=ep'∧n=es.length
     · rw[zn H sz x _ ((es.drop lo).take (hi-lo)) (by simp[elems,eL,h,c])]
       simp only[cpE,if_pos c]
     · simp[tU,elems,eL,h,cpE,c]
@[go_sem] theorem WS (id ep n : Nat) (ys : List D) : cpD H sz (.ref id ep n) ys = if cz sz ys = true then Hm H sz id ep n 0 n ys H[id]? else none := (rfl)
@[go_sem] theorem WT (id ep n lo hi : Nat) (ys : List D) : cpD H sz (.sub id ep n lo hi) ys = if cz sz ys = true then Hm H sz id ep n lo hi ys H[id]? else none := (rfl)
@[go_sem] theorem T2 (id n lo hi : Nat) (ys : List D) (ep : Nat) (es : List D) : Hm H sz id ep n lo hi ys (some (.arr sz false ep es)) =
 if n=es.length then(if min ys.length (hi-lo)=0 then some (.t (.int .i64 0),H)else some (.t (.int .i64 ((min ys.length (hi-lo):Nat):Int)),H.set id (.arr sz false ep (es.take lo++ys.take (min ys.length (hi-lo))++es.drop (lo+min ys.length (hi-lo))))))else none:=by
 simp[Hm,HL]
end
end Go.Ev
namespace Go.Ev
open Go
variable [Lib] [bT] [bU] [dF] [dC]
theorem wz(a b lo hi:Int)(h1:lo≤a)(h2:a≤b)(h3:b≤hi):aT 0 N.dS [.t (.agg [tI a,tI b]),I lo,I hi] []=some (B true,[]):=by
 refine aB K.kI rfl ?_
 simp (disch:=omega) only[go_sem,K.dS,↓reduceIte,Nat.reduceAdd,Nat.reduceSub]
theorem wA{m:cJ}(h:m.ok):aT 0 N.fN [.t m.e] []=some (I 0,[]):=by
 refine aB K.lT rfl ?_
 have np:=h.np
 have nr:=h.nr
 have hs:=h.hs
 have rs:=h.rs
 obtain⟨places,roads⟩:=m
 simp only at np nr hs rs
 have l1:∀z0 z2 z3 z4 z5 z9 z10 z11:D,exS aT K.oH ⟨[z0,.bp 0 0,z2,z3,z4,z5,.t (.sl (places.map Place.e)),I places.length,I 0,z9,z10,z11],[.box (aE ⟨places,roads⟩)]⟩=
  some (.exit 0,⟨[.und,.bp 0 0,.und,.und,.und,.und,.t (.sl (places.map Place.e)),I places.length,I places.length,.und,.und,.und],[.box (aE ⟨places,roads⟩)]⟩):=by
  intro z0 z2 z3 z4 z5 z9 z10 z11
  refine bV (fun j=>⟨[.und,.bp 0 0,.und,.und,.und,.und,.t (.sl (places.map Place.e)),I places.length,I j,.und,.und,.und],[.box (aE ⟨places,roads⟩)]⟩) places.length rfl ?_ ?_ (by simp)
  · intro j hj
    have g:(places.map Place.e)[j]?=some (nth places j).e:=aD _ hj
    have q:=hs _ (bg hj)
    generalize nth places j=x at*
    obtain⟨hh,sf⟩:=x
    simp only[aE]at*
    simp (disch:=omega) only[go_sem,K.jU,↓reduceIte,g,Nat.reduceAdd,Nat.reduceSub]
  · simp (disch:=omega) only[go_sem,K.jU,↓reduceIte,aE,Nat.reduceAdd,Nat.reduceSub]
 have l2:∀z0 z1 z2 z3 z5 z6 z7 z8:D,exS aT K.oI ⟨[z0,z1,z2,z3,I places.length,z5,z6,z7,z8,.t (.sl (roads.map Road.e)),I roads.length,I 0],[.box (aE ⟨places,roads⟩)]⟩=
  some (.exit 2,⟨[.und,.und,.und,.und,I places.length,.und,.und,.und,.und,.t (.sl (roads.map Road.e)),I roads.length,I roads.length],[.box (aE ⟨places,roads⟩)]⟩):=by
  intro z0 z1 z2 z3 z5 z6 z7 z8
  refine bV (fun j=>⟨[.und,.und,.und,.und,I places.length,.und,.und,.und,.und,.t (.sl (roads.map Road.e)),I roads.length,I j],[.box (aE ⟨places,roads⟩)]⟩) roads.length rfl ?_ ?_ (by simp)
  · intro j hj
    have g:(roads.map Road.e)[j]?=some (nth roads j).e:=aD _ hj
    have q:=rs _ (bg hj)
    generalize nth roads j=x at*
    have f0:=q.f0;have f1:=q.f1;have t0:=q.t0;have t1:=q.t1;have ne:=q.ne;have l0:=q.l0;have l1:=q.l1;have a0:=q.a0;have a1:=q.a1
    have r0:=q.r0;have r1:=q.r1;have r2:=q.r2;have i0:=q.i0;have i1:=q.i1;have i2:=q.i2
    clear q
    obtain⟨frm,to,len,area,walk,closed,rl,rh,ll,lh⟩:=x
    simp only[aE]at*
    have s1:=wz rl rh 1 262144 r0 r1 r2
    have s2:=wz ll lh (-2199023255552) 2199023255552 i0 i1 i2
    simp (disch:=omega) only[go_sem,K.jV,↓reduceIte,g,s1,s2,Nat.reduceAdd,Nat.reduceSub]
  · simp (disch:=omega) only[go_sem,K.jV,↓reduceIte,aE,Nat.reduceAdd,Nat.reduceSub]
 simp only[aE]at l1 l2
 simp (disch:=omega) only[go_sem,K.fN,↓reduceIte,l1,l2,Nat.reduceAdd,Nat.reduceSub]
theorem qf{m:cJ}(h:m.ok):aT 0 N.eY [.t m.e] []=some (B true,[]):=by
 refine aB K.lS rfl ?_
 have c:=wA h
 obtain⟨places,roads⟩:=m
 simp (disch:=omega) only[go_sem,K.eY,↓reduceIte,c,Nat.reduceAdd,Nat.reduceSub]
end Go.Ev
namespace Go.Ev.N
def Ao:Nat:=178
def Aq:Nat:=179
def A3:Nat:=180
def Ar:Nat:=181
def A4:Nat:=182
def CG:Nat:=183
def A5:Nat:=184
def KH:Nat:=185
def Hn:Nat:=186
def KI:Nat:=187
def CH:Nat:=188
def KJ:Nat:=189
def Ho:Nat:=190
def Hp:Nat:=191
def N8:Nat:=192
def FB:Nat:=193
def Hq:Nat:=194
def KK:Nat:=195
def N9:Nat:=196
def Rg:Nat:=197
def D2:Nat:=198
def D3:Nat:=199
def Oa:Nat:=200
def FC:Nat:=201
def xf:Nat:=202
def Hr:Nat:=203
def ay:Nat:=204
def CI:Nat:=205
def KL:Nat:=206
def Ht:Nat:=207
def CJ:Nat:=208
def A6:Nat:=209
def CK:Nat:=210
def gp:Nat:=211
def gF:Nat:=212
def dr:Nat:=213
def fO:Nat:=214
end Go.Ev.N
namespace Go.Ev.K
open Go.Ev
end Go.Ev.K
namespace Go.Ev
class eO [Lib]:Prop where
namespace K
variable [Lib] [eO]
end K
end Go.Ev
namespace Go.Ev.K
open Go.Ev
def ay:Fn:={ nargs:=1,vars:=[0,2],body:=(.seq (.reg [w 1 (.mv (.c (.nil)))] []) (.itk [m v0,u (.eqk (.sl) false l0 (.c (.nil)))] [] 0 (.seq (.reg [w 1 (.nw 1)] []) .ret) .skip (.seq (.reg [u (.bsr [] 1),m v0,u (.app l1 l0 false 1),w 1 (.mv l0)] []) .ret))),res:=[(1,none)]}
def gp:Fn:={ nargs:=3,vars:=[0,1,2,3,6],body:=(.seq (.reg [w 3 (.bx v0 2),w 4 (.mv (.i 0))] []) (.seq (.ite [h 2 v3,u (.ca N.eY 0 [] [.l 0]),u (.un .not l0),m l0,y 0 false (.mv v1),y 1 false (.bin .lss l0 (.i 0)),u (.pk l2 (.b true) l0),m l0,y 0 false (.mv v1),y 1 false (.fa v3 1),y 2 false (.ld l0 1 false),y 3 false (.ln l0),y 4 false (.bin .geq l3 l0),u (.pk l5 (.b true) l0)] [] 0 (.seq (.reg [w 4 (.mv (.i (-1)))] []) .ret) .skip) (.seq (.reg [h 2 v3,m v1,m v2,u (.ca N.gF 0 [] [.l 2,.l 1,.l 0]),w 4 (.mv l0)] []) .ret))),res:=[(4,none)]}
def gF:Fn:={ nargs:=3,vars:=[0,1,2,3,6],body:=(.seq (.reg [w 3 (.bx v0 2),w 4 (.mv (.i 0))] []) (.seq (.reg [h 2 v3,m v1,m v2,u (.ca N.fO 0 [] []),u (.ca N.dr 0 [] [.l 3,.l 2,.l 1,.l 0]),w 4 (.mv l0)] [(0,4)]) .ret)),res:=[(4,none)]}
def dr:Fn:={ nargs:=4,vars:=[0,1,2,3,4,7,8,9,10,11],body:=(.seq (.reg [w 4 (.bx v0 2),w 5 (.bx v3 3),w 6 (.mv (.i 0))] []) (.seq (.reg [f 1 v4,g l0,m v1,a 10 l1 l0,h 10 l0,w 7 (.al [.t (.int .i64 (0)),.t (.int .i64 (0)),.t (.int .i64 (0)),.t (.int .i64 (0)),.t (.bool false),.t (.bool false),.t (.int .i64 (0)),.t (.int .i64 (0)),.t (.int .i64 (0)),.t (.int .i64 (0))] []),u (.st l0 l1 10 [])] []) (.seq (.ite [f 5 v7,g l0,m l0,y 0 false (.fa v7 4),y 1 false (.ld l0 1 false),y 2 false (.un .not l0),u (.pk l3 (.b true) l0)] [] 0 (.seq (.reg [w 6 (.mv (.i (-1)))] []) .ret) .skip) (.seq (.reg [f 0 v4,g l0,f 1 v7,g l0,a 2 l2 l0,f 0 l0,g l0,f 0 v4,g l0,f 0 v7,g l0,a 2 l2 l0,f 0 l0,g l0,u (.bin .sub l7 l0),w 8 (.mv l0)] []) (.seq (.ite [m v2] [] 0 (.reg [m v8,u (.un .neg l0),w 8 (.mv l0)] []) .skip) (.seq (.reg [f 2 v5,g l0,w 9 (.mv l0)] []) (.seq (.blk 0 (.ite [m v8,u (.bin .mul (.i 10) l0),f 2 v7,g l0,u (.bin .gtr l2 l0),m l0] [] 0 (.reg [f 0 v5,g l0,w 9 (.mv l0)] []) (.ite [m v8,u (.bin .mul (.i (-10)) l0),f 2 v7,g l0,u (.bin .gtr l2 l0),m l0] [] 0 (.reg [f 1 v5,g l0,w 9 (.mv l0)] []) .skip))) (.seq (.reg [f 2 v7,g l0,u (.bin .mul (.i 10) l0),m v9,u (.bin .add l1 l0),u (.bin .sub l0 (.i 1)),m v9,u (.bin .quo l1 l0),w 6 (.mv l0)] []) .ret)))))))),res:=[(6,none)]}
def fO:Fn:={ nargs:=0,vars:=[0],body:=(.seq (.reg [w 0 (.al [.t (.int .i64 (0)),.t (.int .i64 (0)),.t (.int .i64 (0))] [])] []) (.seq (.reg [u (.bd [.t (.int .i64 (0)),.t (.int .i64 (0)),.t (.int .i64 (0))] [(0,1,.i 6),(1,1,.i 9),(2,1,.i 12)]),u (.st v0 l0 3 [])] []) .ret)),res:=[(0,some (3,true))]}
end Go.Ev.K
namespace Go.Ev
class eD [Lib]:Prop where
 dX:Lib.fs N.ay=some K.ay
 nI:Lib.fs N.gp=some K.gp
 nJ:Lib.fs N.gF=some K.gF
 nK:Lib.fs N.dr=some K.dr
 lU:Lib.fs N.fO=some K.fO
namespace K
variable [Lib] [eD]
theorem dX:Lib.fs N.ay=some K.ay:=eD.dX
theorem nI:Lib.fs N.gp=some K.gp:=eD.nI
theorem nJ:Lib.fs N.gF=some K.gF:=eD.nJ
theorem nK:Lib.fs N.dr=some K.dr:=eD.nK
theorem lU:Lib.fs N.fO=some K.fO:=eD.lU
end K
end Go.Ev
namespace Go.Ev
open Go
variable [Lib] [bT] [bU] [dF] [dC] [eO] [eD]
abbrev kZ(l:List Int):Obj:= .arr 1 false 0 ((l.map (T.int .i64)).map .t)
theorem eE(l:List Int)(hl:l.length≤1000000):aT 0 N.ay [.t (tL l)] []=some (.t (tL l),[]):=by
 refine aB K.dX rfl ?_
 by_cases h0:l=[]
 · subst h0
   simp only[tL,List.map_nil]
   simp (disch:=omega) only[go_sem,K.ay,↓reduceIte,List.map_nil,Nat.reduceAdd,Nat.reduceSub]
 · have e:=fun H=>mw H (l.map (T.int .i64)) (by simpa using h0)
   simp (disch:=omega) only[go_sem,K.ay,↓reduceIte,e,Nat.reduceAdd,Nat.reduceSub]
theorem fG(l:List Int)(hl:l.length≤1000000):aT 1 N.ay [.t (tL l)] []=some (.ref 0 0 l.length,[kZ l]):=by
 refine aB K.dX rfl ?_
 by_cases h0:l=[]
 · subst h0
   simp only[tL,List.map_nil]
   simp (disch:=omega) only[go_sem,K.ay,↓reduceIte,List.map_nil,List.length_nil,Nat.reduceAdd,Nat.reduceSub]
   rfl
 · have e:=fun H=>mw H (l.map (T.int .i64)) (by simpa using h0)
   simp (disch:=omega) only[go_sem,K.ay,↓reduceIte,e,Nat.reduceAdd,Nat.reduceSub]
theorem FD:aT 0 N.fO [] []=some (.t (.agg [tI 6,tI 9,tI 12]),[]):=by
 refine aB K.lU rfl ?_
 simp (disch:=omega) only[go_sem,K.fO,↓reduceIte,Nat.reduceAdd,Nat.reduceSub]
theorem KM{m:cJ}(h:m.ok)(k:Nat)(hk:k<m.roads.length)(back:Bool)(up down level:Int)(hu:1≤up)(hu2:up≤100)(hd:1≤down)(hd2:down≤100)(hl:1≤level)(hl2:level≤100):
 aT 0 N.dr [.t m.e,I k,B back,.t (.agg [tI up,tI down,tI level])] []=some (I (iM m k back up down level),[]):=by
 refine aB K.nK rfl ?_
 have nr:=h.nr
 have np:=h.np
 obtain⟨f0,f1,t0,t1, -,l0,l1, -, -, -, -, -, -, -, -⟩:=h.rs _ (bg hk)
 have b1:=h.hs _ (bg (l:=m.places) (j:=(nth m.roads k).frm.toNat) (by omega))
 have b2:=h.hs _ (bg (l:=m.places) (j:=(nth m.roads k).to.toNat) (by omega))
 have g:(m.roads.map Road.e)[k]?=some (nth m.roads k).e:=aD _ hk
 have p1:(m.places.map Place.e)[(nth m.roads k).frm.toNat]?=some (nth m.places (nth m.roads k).frm.toNat).e:=aD _ (by omega)
 have p2:(m.places.map Place.e)[(nth m.roads k).to.toNat]?=some (nth m.places (nth m.roads k).to.toNat).e:=aD _ (by omega)
 have key:∀h1 h2:Int, -10000≤h1→h1≤10000→ -10000≤h2→h2≤10000→IntKind.i64.wrap (h1-h2)=h1-h2∧IntKind.i64.wrap (-(h1-h2))=h2-h1:=fun h1 h2 _ _ _ _=>⟨rS (by omega) (by omega),by rw[rS (by omega) (by omega)];omega⟩
 unfold iM
 generalize nth m.roads k=x at*
 obtain⟨frm,to,len,area,walk,closed,rl,rh,ll,lh⟩:=x
 simp only at f0 f1 t0 t1 l0 l1 b1 b2 p1 p2 ⊢
 cases closed with
 | true=>
   obtain⟨places,roads⟩:=m
   simp (disch:=omega) only[go_sem,K.dr,↓reduceIte,g,Nat.reduceAdd,Nat.reduceSub]
 | false=>
   cases walk with
   | false=>
     obtain⟨places,roads⟩:=m
     simp (disch:=omega) only[go_sem,K.dr,↓reduceIte,g,Nat.reduceAdd,Nat.reduceSub]
   | true=>
     have g1:=nG (a:=10*len+up-1) (b:=up) (by omega) hu
     have g2:=nG (a:=10*len+down-1) (b:=down) (by omega) hd
     have g3:=nG (a:=10*len+level-1) (b:=level) (by omega) hl
     cases back with
     | true=>
       simp only[↓reduceIte]
       generalize nth m.places frm.toNat=q1 at*
       generalize nth m.places to.toNat=q2 at*
       obtain⟨h1,s1⟩:=q1
       obtain⟨h2,s2⟩:=q2
       obtain⟨places,roads⟩:=m
       simp only at*
       obtain⟨w2,w3⟩:=key h2 h1 (by omega) (by omega) (by omega) (by omega)
       by_cases c2:len< -10*(h1-h2)
       · simp (disch:=omega) only[go_sem,K.dr,↓reduceIte,g,p1,p2,w2,w3,gt_iff_lt,Int.zero_sub,Nat.reduceAdd,Nat.reduceSub]
       · by_cases c1:len<10*(h1-h2)
         · simp (disch:=omega) only[go_sem,K.dr,↓reduceIte,g,p1,p2,w2,w3,gt_iff_lt,Int.zero_sub,Nat.reduceAdd,Nat.reduceSub]
         · simp (disch:=omega) only[go_sem,K.dr,↓reduceIte,g,p1,p2,w2,w3,gt_iff_lt,Int.zero_sub,Nat.reduceAdd,Nat.reduceSub]
     | false=>
       simp only[Bool.false_eq_true,↓reduceIte]
       generalize nth m.places frm.toNat=q1 at*
       generalize nth m.places to.toNat=q2 at*
       obtain⟨h1,s1⟩:=q1
       obtain⟨h2,s2⟩:=q2
       obtain⟨places,roads⟩:=m
       simp only at*
       obtain⟨w2,w3⟩:=key h2 h1 (by omega) (by omega) (by omega) (by omega)
       by_cases c2:len< -10*(h2-h1)
       · simp (disch:=omega) only[go_sem,K.dr,↓reduceIte,g,p1,p2,w2,gt_iff_lt,Nat.reduceAdd,Nat.reduceSub]
       · by_cases c1:len<10*(h2-h1)
         · simp (disch:=omega) only[go_sem,K.dr,↓reduceIte,g,p1,p2,w2,gt_iff_lt,Nat.reduceAdd,Nat.reduceSub]
         · simp (disch:=omega) only[go_sem,K.dr,↓reduceIte,g,p1,p2,w2,gt_iff_lt,Nat.reduceAdd,Nat.reduceSub]
theorem zo{m:cJ}(h:m.ok)(k:Nat)(hk:k<m.roads.length)(back:Bool):aT 0 N.gp [.t m.e,I k,B back] []=some (I (iM m k back 6 9 12),[]):=by
 have q:=FD
 have w:=KM h k hk back 6 9 12 (by omega) (by omega) (by omega) (by omega) (by omega) (by omega)
 have v:=qf h
 have nr:=h.nr
 have s:aT 0 N.gF [.t m.e,I k,B back] []=some (I (iM m k back 6 9 12),[]):=by
  refine aB K.nJ rfl ?_
  generalize iM m k back 6 9 12=r at*
  obtain⟨places,roads⟩:=m
  simp (disch:=omega) only[go_sem,K.gF,↓reduceIte,q,w,Nat.reduceAdd,Nat.reduceSub]
 refine aB K.nI rfl ?_
 generalize iM m k back 6 9 12=r at*
 obtain⟨places,roads⟩:=m
 simp only at*
 simp (disch:=omega) only[go_sem,K.gp,↓reduceIte,v,s,Nat.reduceAdd,Nat.reduceSub]
end Go.Ev
namespace Go.Ev.K
open Go.Ev
end Go.Ev.K
namespace Go.Ev
class fP [Lib]:Prop where
namespace K
variable [Lib] [fP]
end K
end Go.Ev
namespace Go.Ev.N
def D4:Nat:=215
def D5:Nat:=216
def D6:Nat:=217
def KN:Nat:=218
def KO:Nat:=219
def KP:Nat:=220
def Ob:Nat:=221
def Oc:Nat:=222
def Od:Nat:=223
def Rh:Nat:=224
def KQ:Nat:=225
def KR:Nat:=226
def KS:Nat:=227
def Ri:Nat:=228
def KT:Nat:=229
def KU:Nat:=230
def Oe:Nat:=231
def Hu:Nat:=232
def Of:Nat:=233
def Hv:Nat:=234
def Hw:Nat:=235
def Hx:Nat:=236
def Og:Nat:=237
def Hy:Nat:=238
def Rj:Nat:=239
def Rk:Nat:=240
def bA:Nat:=241
def Oh:Nat:=242
def KV:Nat:=243
def D7:Nat:=244
end Go.Ev.N
namespace Go.Ev.K
open Go.Ev
def bA:Fn:={ nargs:=1,vars:=[],body:= .fail,res:=[],prim:=[1]}
end Go.Ev.K
namespace Go.Ev
class cE [Lib]:Prop where
 gq:Lib.fs N.bA=some K.bA
namespace K
variable [Lib] [cE]
theorem gq:Lib.fs N.bA=some K.bA:=cE.gq
end K
end Go.Ev
namespace Go.Ev
open Go
variable [Lib] [bT] [bU] [dL] [dI] [fP] [dF] [dC] [eO] [eD] [cE]
end Go.Ev
namespace Go.Ev
open Go
theorem yb{d:D}{n:Int}(h:tc d=some n):d= .t (.int .i64 n):=by
 unfold tc at h
 split at h
 · cases h;rfl
 · cases h
theorem CL:∀ {es:List D} {l:List Int},bX tc es=some l→es=l.map fun x=> .t (.int .i64 x)
 | [],l,h=>by simp[bX]at h;subst h;rfl
 | e::r,l,h=>by
   simp only[bX,Option.bind_eq_some_iff,Option.map_eq_some_iff]at h
   obtain⟨x,hx,y,hy,rfl⟩:=h
   rw[yb hx,CL hy];rfl
theorem r8(x:Int):∀l,(HN x l).Perm (x::l)
 | []=> .refl _
 | y::r=>by
   unfold HN
   split
   · exact .refl _
   · exact((r8 x r).cons y).trans (.swap x y r)
theorem mA:∀l,(fZ l).Perm l
 | []=> .refl _
 | x::r=>(r8 x _).trans ((mA r).cons x)
theorem CM{x:Int}:∀ {l:List Int},l.Pairwise (· ≤ ·)→(HN x l).Pairwise (· ≤ ·)
 | [],_=>by simp[HN]
 | y::r,h=>by
   unfold HN
   split
   · rename_i hx
     refine List.pairwise_cons.2 ⟨fun z hz=>?_,h⟩
     rcases List.mem_cons.1 hz with rfl | hz
     · exact hx
     · have:=(List.pairwise_cons.1 h).1 z hz;omega
   · rename_i hx
     have h':=List.pairwise_cons.1 h
     refine List.pairwise_cons.2 ⟨fun z hz=>?_,CM h'.2⟩
     have hz:=(r8 x r).mem_iff.1 hz
     rcases List.mem_cons.1 hz with rfl | hz
     · omega
     · exact h'.1 z hz
theorem uA:∀l,(fZ l).Pairwise (· ≤ ·)
 | []=> .nil
 | x::r=>CM (uA r)
theorem eZ(l:List Int):(fZ l).length=l.length:=(mA l).length_eq
theorem zp(l:List Int):(l.mergeSort fun x y=>decide (x≤y))=fZ l:=by
 refine List.Perm.eq_of_pairwise (le:=(· ≤ ·)) (fun a b _ _ h1 h2=>by omega) ?_ (uA l) ((List.mergeSort_perm _ _).trans (mA l).symm)
 have:=List.pairwise_mergeSort (le:=fun x y:Int=>decide (x≤y)) (fun a b c=>by simp;omega) (fun a b=>by simp;omega) l
 exact this.imp (by simp)
end Go.Ev
namespace Go.Ev
open Go
variable [Lib] [bT] [bU] [dL] [dI] [fP] [dF] [dC] [eO] [eD] [cE]
section
variable (k : Keys) (hl : k.keys.length ≤ 1000000) (hr : k.roads.length ≤ 1000000)
include hl hr
end
end Go.Ev
namespace Go.Ev
open Go
variable [Lib] [bT] [bU] [dL] [dI] [fP] [dF] [dC] [eO] [eD] [cE]
theorem wB:∀l:List Int,bX tc ((l.map (T.int .i64)).map .t)=some l
 | []=>rfl
 | x::r=>by simp only[List.map_cons,bX,tc,Option.bind_some,wB r,Option.map_some]
theorem pD(raw:Nat)(l:List Int)(hl:l.length≤4294967296):aT raw N.bA [.ref 0 0 l.length] [kZ l]=some (.tup [],[kZ (fZ l)]):=by
 refine vU K.gq (by simp[K.bA]) ?_
 have m:=wB l
 simp only[K.bA,qM,kZ,List.getElem?_cons_zero,List.length_map,lim,hl,and_self,↓reduceIte,m,Option.map_some,List.set_cons_zero]
 rw[List.map_map]
 rfl
section
variable (b u v y : Obj) (ds : aj)
end
end Go.Ev
namespace Go.Ev.N
def zq:Nat:=245
def yc:Nat:=246
def yd:Nat:=247
def KW:Nat:=248
def FE:Nat:=249
def KX:Nat:=250
def zr:Nat:=251
def D8:Nat:=252
def CN:Nat:=253
def KY:Nat:=254
def Hz:Nat:=255
def Oi:Nat:=256
def KZ:Nat:=257
def As:Nat:=258
def kJ:Nat:=259
def cC:Nat:=260
def bo:Nat:=261
def HA:Nat:=262
def uX:Nat:=263
def jo:Nat:=264
def FF:Nat:=265
def lx:Nat:=266
def aQ:Nat:=267
def CO:Nat:=268
def jM:Nat:=269
def cmp_isNaN_int:Nat:=270
end Go.Ev.N
namespace Go.Ev.K
open Go.Ev
def cC:Fn:={ nargs:=1,vars:=[2],body:= .fail,res:=[(0,none)],prim:=[2,N.aQ]}
def bo:Fn:={ nargs:=1,vars:=[0,1,2],body:=(.seq (.reg [w 1 (.bx v0 1),w 2 (.mv (.c (.und)))] []) (.seq (.reg [u (.mf N.aQ [.v 1]),w 2 (.mv l0)] []) .ret)),res:=[(2,none)]}
def jq:C:=(.its [u (.bin .lss v5 v4)] [] 0 .skip (.exit 0) (.seq (.blk 1 (.seq (.reg [a 1 v3 v5,g l0,w 2 (.mv l0)] []) (.ite [m v0,m v2,u (.cw l1 0 [] [.l 0]),u (.un .not l0)] [] 0 .ret .skip))) (.reg [u (.bin .add v5 (.i 1)),w 5 (.mv l0)] [])))
def jE:C:= .loop true [1,2] K.jq
def aQ:Fn:={ nargs:=2,vars:=[0,1,4,5,6,7],body:=(.seq (.reg [w 3 (.ld v1 1 false),w 4 (.ln l0),w 5 (.mv (.i 0))] []) (.blk 0 K.jE)),res:=[]}
end Go.Ev.K
namespace Go.Ev
class cO [Lib]:Prop where
 gP:Lib.fs N.cC=some K.cC
 fv:Lib.fs N.bo=some K.bo
 gG:Lib.fs N.aQ=some K.aQ
namespace K
variable [Lib] [cO]
theorem gP:Lib.fs N.cC=some K.cC:=cO.gP
theorem fv:Lib.fs N.bo=some K.bo:=cO.fv
theorem gG:Lib.fs N.aQ=some K.aQ:=cO.gG
end K
end Go.Ev
namespace Go.Ev
open Go
variable [Lib] [bT] [bU] [dL] [dI] [fP] [dF] [dC] [eO] [eD] [cE] [cO]
theorem CP(l:List Int):aT 0 N.bo [.t (tL l)] []=some (.fn N.aQ [.bp 0 0],[.box [.t (tL l)]]):=by
 refine aB K.fv rfl ?_
 simp (disch:=omega) only[go_sem,K.bo,↓reduceIte,Nat.reduceAdd,Nat.reduceSub]
theorem Au(l:List Int):qL (tL l)=some l:=by
 unfold qL
 simp only
 induction l with
 | nil=>rfl
 | cons x l ih=>
   simp only[List.map_cons,bX]at ih ⊢
   rw[ih];rfl
theorem CQ(l:List Int)(hl:l.length≤1000000):aT 0 N.cC [.fn N.aQ [.bp 0 0]] [.box [.t (tL l)]]=some (.t (tL (fZ l)),[.box [.t (tL l)]]):=by
 refine vU K.gP (by decide) ?_
 show qM [2,N.aQ] _ _=_
 simp only[qM,if_true,List.getElem?_cons_zero,m7,Option.bind_some,Au]
 rw[if_pos (by unfold lim;omega)]
end Go.Ev
namespace Go.Ev
open Go
variable [Lib] [bT] [bU]
theorem ye{l:List Int}{x:Int}:0≤gx l x↔x∈l:=by
 unfold gx
 cases hf:(List.range l.length).find? (fun j=>decide (nth l j=x))with
 | some j=>
   obtain⟨h1,h2⟩:=uv hf
   have:=bg h1
   rw[of_decide_eq_true h2]at this
   simp[this]
 | none=>
   have:=List.find?_eq_none.1 hf
   simp only[Int.reduceNeg]
   constructor
   · intro h;simp at h
   · intro h
     obtain⟨j,hj⟩:=List.mem_iff_getElem?.1 h
     have hl:=(List.getElem?_eq_some_iff.1 hj).1
     have:=this j (List.mem_range.2 hl)
     rw[dR hj]at this
     simp at this
theorem uB{l:List Int}(h:ft l=true):l.Nodup:=by
 simp only[ft,List.all_eq_true,List.mem_range,ux,decide_eq_true_eq]at h
 refine List.pairwise_iff_getElem.2 fun i j hi hj hij e=>?_
 obtain⟨-, -,h3⟩:=h j hj
 have h4:¬nth l j∈l.take j:=fun hm=>by have:=ye.2 hm;omega
 apply h4
 apply List.mem_iff_getElem?.2
 refine⟨i,?_⟩
 rw[List.getElem?_take_of_lt hij,List.getElem?_eq_getElem hi,e,←List.getElem?_eq_getElem hj,kF hj]
def zt(m:cJ)(b:Bel)(tag:Int):Int:=if Yf m b=false then 6 else if gx (nth b.worlds 0).tags tag<0 then 41 else 0
def WU(a b:Wh)(t:Int):Bool:=(List.range (min a.frm.length b.frm.length)).any fun p=>decide (nth a.frm p≤t∧nth b.frm p≤t)
def yf(m:cJ)(starts:List Int)(t:Int)(j:Nat):List Wh:=(List.range j).map fun i=>(Cm m (nth starts i) t).1
@[simp] theorem K0 (m : cJ) (starts : List Int) (t : Int) (j : Nat) : (yf m starts t j).length = j := by simp [yf]
def FH(m:cJ)(tags starts:List Int)(t:Int):Bel×Int:=
 if tags.length=starts.length∧1≤tags.length∧tags.length≤12 then
  if ft tags=true then match (List.range tags.length).find? (fun i=> !decide ((Cm m (nth starts i) t).2=0))with
   | some i=>(⟨[]⟩,(Cm m (nth starts i) t).2)
   | none=>(⟨[⟨tags,yf m starts t tags.length⟩]⟩,0)
  else(⟨[]⟩,41)
 else(⟨[]⟩,6)
@[go_sem] theorem T3 : ([] : List D).all bz = true := (rfl)
@[go_sem] theorem Rl (d : D) (r : List D) : (d :: r).all bz = (bz d && r.all bz) := (rfl)
@[go_sem] theorem K1 (cs : List T) : bz (.t (.agg cs)) = false := (rfl)
@[go_sem] theorem Oj (cs : List T) : bz (.t (.sl cs)) = false := (rfl)
@[go_sem] theorem K2 (k : IntKind) (n : Int) : bz (.t (.int k n)) = true := (rfl)
@[go_sem] theorem HB (b : Bool) : bz (.t (.bool b)) = true := (rfl)
@[go_sem] theorem Ym (l : List Wh) (k : Nat) (a : Int) (b : List Int) : (List.map D.t (List.map Wh.e l)).set k (D.t (T.agg [tI a, tL b])) = List.map D.t (List.map Wh.e (l.set k ⟨a, b⟩)) := by
 rw[List.map_set,List.map_set]
def T4(m:cJ)(tag:Int)(l:List Int)(a b:Int)(x:World):Wh×Int:=Yb m (nth x.whr (gx x.tags tag).toNat) l a b
def T5(tag:Int)(x:World)(w:Wh):World:=⟨x.tags,x.whr.set (gx x.tags tag).toNat w⟩
def WW(tag:Int)(r:Wh×Int)(x:World)(out:List World):List World:=
 if r.2=43 then out else out++[if r.2=0 then T5 tag x r.1 else x]
def K3(m:cJ)(tag:Int)(l:List Int)(a b:Int)(ws:List World):Nat→List World
 | 0=>[]
 | j+1=>WW tag (T4 m tag l a b (nth ws j)) (nth ws j) (K3 m tag l a b ws j)
def Rm(m:cJ)(tag:Int)(l:List Int)(a b:Int)(ws:List World)(j:Nat):Bool:=decide ((T4 m tag l a b (nth ws j)).2=6∨(T4 m tag l a b (nth ws j)).2=8)
def Rn(m:cJ)(b:Bel)(tag:Int)(l:List Int)(a c:Int):Bel×Int:=
 if zt m b tag≠0 then(b,zt m b tag)else match (List.range b.worlds.length).find? (Rm m tag l a c b.worlds)with
  | some i=>(b,(T4 m tag l a c (nth b.worlds i)).2)
  | none=>if(K3 m tag l a c b.worlds b.worlds.length).length=0 then(b,43)else(⟨K3 m tag l a c b.worlds b.worlds.length⟩,0)
def T6(m:cJ)(tag:Int)(l:List Int)(a b bl:Int)(x:World):Wh×Int:=Yd m (nth x.whr (gx x.tags tag).toNat) l a b bl
def WX(tag:Int)(r:Wh×Int)(x:World)(out:List World):List World:=out++[if r.2=0 then T5 tag x r.1 else x]
def Ro(m:cJ)(tag:Int)(l:List Int)(a b bl:Int)(ws:List World):Nat→List World
 | 0=>[]
 | j+1=>WX tag (T6 m tag l a b bl (nth ws j)) (nth ws j) (Ro m tag l a b bl ws j)
def Rq(m:cJ)(tag:Int)(l:List Int)(a b bl:Int)(ws:List World)(j:Nat):Bool:=decide ((T6 m tag l a b bl (nth ws j)).2=6∨(T6 m tag l a b bl (nth ws j)).2=8)
def Rr(m:cJ)(b:Bel)(tag:Int)(l:List Int)(a c bl:Int):Bel×Int:=
 if zt m b tag≠0 then(b,zt m b tag)else match (List.range b.worlds.length).find? (Rq m tag l a c bl b.worlds)with
  | some i=>(b,(T6 m tag l a c bl (nth b.worlds i)).2)
  | none=>(⟨Ro m tag l a c bl b.worlds b.worlds.length⟩,0)
theorem FI{gc:Bool}{dead:List Nat}{c:C}{vs:List D}{H:aj}(P:Nat→St→Prop)(n:Nat)(Q:Ex×St→Prop)(h0:P 0 ⟨cR dead vs,H⟩)
 (hs:∀j st,j<n→P j st→∃st',eB gc dead st.H.length (exS aT c st)=some st'∧P (j+1) st')
 (he:∀st,P n st→∃q,exS aT c st=some q∧q.1≠ .normal∧Q q):∃q,exS aT (.loop gc dead c) ⟨vs,H⟩=some q∧Q q:=by
 have key:∀(k j:Nat) (st:St),j+k=n→P j st→∃q,j8 gc dead (exS aT c) st=some q∧Q q:=by
  intro k
  induction k with
  | zero=>
    intro j st hj hp
    obtain⟨q,h1,h2,h3⟩:=he st (by rw[← hj];exact hp)
    exact⟨q,bj h1 h2,h3⟩
  | succ k ih=>
    intro j st hj hp
    obtain⟨st',h1,h2⟩:=hs j st (by omega) hp
    obtain⟨q,h3,h4⟩:=ih (j+1) st' (by omega) h2
    exact⟨q,aY h1 h3,h4⟩
 exact key n 0 _ (by omega) h0
abbrev ints(l:List Int):List D:=(l.map (T.int .i64)).map .t
abbrev whs(l:List Wh):List D:=(l.map Wh.e).map .t
def Av(out:List World)(x:World):Nat:=match (List.range out.length).find? (fun k=> !Q0 (nth out k).tags x.tags)with
 | some k=>k
 | none=>out.length
def Rs(a b:List Wh):Nat→List Wh
 | 0=>a
 | p+1=>(Rs a b p).set p (Co (nth a p) (nth b p)).1
def Rt(a b:List Wh):List Wh:=Rs a b (min a.length b.length)
def WY(out:List World)(x:World):List World:=
 if Av out x<out.length∧(nth out (Av out x)).tags=x.tags then out.set (Av out x) ⟨x.tags,Rt (nth out (Av out x)).whr x.whr⟩
 else out.take (Av out x)++[x]++out.drop (Av out x)
def Ru(l:List World):Nat→List World
 | 0=>[]
 | j+1=>WY (Ru l j) (nth l j)
def Rv(l:List World):List World:=Ru l l.length
structure Rp(H:aj)(id:Nat)(es:List D)(fa fb:Nat→Nat)(out:List World):Prop where
 arr:H[id]?=some (.arr 2 false 0 es)
 len:es.length=out.length
 el:∀j,j<out.length→es[j]?=some (.agg [.ref (fa j) 0 (nth out j).tags.length,.ref (fb j) 0 (nth out j).whr.length])
 ha:∀j,j<out.length→H[fa j]?=some (.arr 1 false 0 (ints (nth out j).tags))
 hb:∀j,j<out.length→H[fb j]?=some (.arr 2 false 0 (whs (nth out j).whr))
 na:∀j,j<out.length→fa j≠id
 nb:∀j,j<out.length→fb j≠id
 nab:∀i j,i<out.length→j<out.length→fa i≠fb j
 nbb:∀i j,i<out.length→j<out.length→i≠j→fb i≠fb j
@[go_sem] theorem T7 (a b : Wh) : (Co a b).1.e = .agg [tI (Co a b).1.time, tL (Co a b).1.frm] := rfl
theorem Rp.size{H:aj}{id:Nat}{es:List D}{fa fb:Nat→Nat}{out:List World}(hr:Rp H id es fa fb out):∀e∈es,e.cells.length=2:=by
 intro e he
 obtain⟨j,hj⟩:=List.mem_iff_getElem?.1 he
 have hl:=(List.getElem?_eq_some_iff.1 hj).1
 rw[hr.el j (by rw[← hr.len];exact hl)]at hj
 cases hj;rfl
theorem yg{α:Type} [Dat α](l:List α)(k:Nat)(hk:k<l.length)(x:α)(j:Nat):nth (l.set k x) j=if j=k then x else nth l j:=by
 unfold nth
 rw[List.getD_eq_getElem?_getD]
 by_cases h:j=k
 · rw[if_pos h,h,List.getElem?_set_self hk];rfl
 · rw[if_neg h,List.getElem?_set_ne (fun e=>h e.symm),List.getD_eq_getElem?_getD]
theorem Rp.merge{H:aj}{id:Nat}{es:List D}{fa fb:Nat→Nat}{out:List World}(hr:Rp H id es fa fb out){k:Nat}(hk:k<out.length)(x:World)(ht:(nth out k).tags=x.tags)(hw:x.whr.length=(nth out k).whr.length):
 Rp (H.set (fb k) (.arr 2 false 0 (whs x.whr))) id es fa fb (out.set k x):=by
 have ol:(out.set k x).length=out.length:=List.length_set
 have nk:=hr.nb k hk
 have kl:=r7 (hr.hb k hk)
 refine⟨by rw[kh nk];exact hr.arr,by rw[ol];exact hr.len,?_,?_,?_,by rw[ol];exact hr.na,by rw[ol];exact hr.nb,by rw[ol];exact hr.nab,by rw[ol];exact hr.nbb⟩
 · intro j hj
   rw[ol]at hj
   rw[hr.el j hj,yg out k hk]
   by_cases h:j=k
   · rw[if_pos h,h,ht,hw]
   · rw[if_neg h]
 · intro j hj
   rw[ol]at hj
   rw[kh (fun e=>hr.nab j k hj hk e.symm),hr.ha j hj,yg out k hk]
   by_cases h:j=k
   · rw[if_pos h,h,ht]
   · rw[if_neg h]
 · intro j hj
   rw[ol]at hj
   rw[yg out k hk]
   by_cases h:j=k
   · rw[if_pos h,h,tM kl]
   · rw[if_neg h,kh (fun e=>hr.nbb j k hj hk h e.symm)];exact hr.hb j hj
theorem Rp.frz{H:aj}{id:Nat}{es:List D}{fa fb:Nat→Nat}{out:List World}(hr:Rp H id es fa fb out):
 bX (frz H 8) es=some (out.map World.e)∧∀i∈es.flatMap (dN H 8),i≠id:=by
 have hl:=hr.len
 have key:∀(j:Nat) (hj:j<out.length),Go.Ev.frz H 8 (.agg [.ref (fa j) 0 (nth out j).tags.length,.ref (fb j) 0 (nth out j).whr.length])=some (nth out j).e∧
  dN H 8 (.agg [.ref (fa j) 0 (nth out j).tags.length,.ref (fb j) 0 (nth out j).whr.length])=[fa j,fb j]:=by
  intro j hj
  have h1:=hr.ha j hj
  have h2:=hr.hb j hj
  simp (disch:=omega) only[go_sem,h1,h2,ints,whs,↓reduceIte]
 constructor
 · have:∀(es:List D) (ts:List T),es.length=ts.length→(∀(j:Nat) e t,es[j]?=some e→ts[j]?=some t→Go.Ev.frz H 8 e=some t)→bX (Go.Ev.frz H 8) es=some ts:=by
    intro es
    induction es with
    | nil=>intro ts h _;cases ts with
      | nil=>rfl
      | cons=>simp at h
    | cons e es ih=>
      intro ts h hh
      cases ts with
      | nil=>simp at h
      | cons t ts=>
        have h1:=hh 0 e t rfl rfl
        have h2:=ih ts (by simpa using h) fun j e t he ht=>hh (j+1) e t (by simpa using he) (by simpa using ht)
        simp only[bX,h1,Option.bind_some,h2,Option.map_some]
   refine this es _ (by rw[List.length_map,hl]) fun j e t he ht=>?_
   have hj:j<out.length:=by rw[← hl];exact(List.getElem?_eq_some_iff.1 he).1
   rw[hr.el j hj]at he
   rw[aD _ hj]at ht
   cases he;cases ht
   exact(key j hj).1
 · intro i hi
   obtain⟨e,he,hi⟩:=List.mem_flatMap.1 hi
   obtain⟨j,hj⟩:=List.mem_iff_getElem?.1 he
   have hjl:j<out.length:=by rw[← hl];exact(List.getElem?_eq_some_iff.1 hj).1
   rw[hr.el j hjl]at hj
   cases hj
   rw[(key j hjl).2]at hi
   simp only[List.mem_cons,List.not_mem_nil,or_false]at hi
   rcases hi with rfl | rfl
   · exact hr.na j hjl
   · exact hr.nb j hjl
@[go_sem] theorem HC {α β γ : Type} [Dat α] (f : β → γ) (g : α → β) {l : List α} {i j : Nat} {x : α} (h : j < l.length) : (((l.set i x).map g).map f)[j]? = some (f (g (nth (l.set i x) j))) := zd f g (by rw [List.length_set]; exact h)
def WZ(l:List Int)(i j:Nat):List Int:=(l.set i (nth l j)).set j (nth l i)
def W4(i j:Nat)(t:Int)(x:World):World:=⟨WZ x.tags i j,(x.whr.set i (Cn (nth x.whr i) t).1).set j (Cn (nth x.whr j) t).1⟩
def W5(i j:Nat)(t:Int)(x:World)(out:List World):List World:=if WU (nth x.whr i) (nth x.whr j) t=true then out++[W4 i j t x]else out
def CR(i j:Nat)(t:Int)(ws:List World):Nat→List World
 | 0=>ws
 | k+1=>W5 i j t (nth ws k) (CR i j t ws k)
def K4(m:cJ)(b:Bel)(i j t:Int):Bel×Int:=
 if Yf m b=false then(b,6)else if i<0∨((nth b.worlds 0).tags.length:Int)≤i∨j<0∨((nth b.worlds 0).tags.length:Int)≤j∨i=j then(b,19)
 else if ¬inT t then(b,8)else if 24<(Rv (CR i.toNat j.toNat t b.worlds b.worlds.length)).length then(b,44)else(⟨Rv (CR i.toNat j.toNat t b.worlds b.worlds.length)⟩,0)
def Rw:Nat→List Int
 | 0=>[]
 | k+1=>Rw k++[3+(k:Int)*2]
def aR.zu(d:aR)(n:Int):Nat→List Int×aR
 | 0=>([],d)
 | k+1=>((d.zu n k).1++[((d.zu n k).2.next n).1],((d.zu n k).2.next n).2)
structure BSt where
 b:Bel
 t:Int
 d:aR
def aR.K5(m:cJ)(n:Int)(s:BSt):BSt:=
 let a:=s.d.next 60
 let c:=a.2.next 3
 if c.1=0 then
  let i:=c.2.next n
  let j:=i.2.next n
  let r:=K4 m s.b i.1 j.1 (s.t+a.1)
  ⟨if r.2=0 then r.1 else s.b,s.t+a.1,j.2⟩
 else if c.1=1 then
  let g:=c.2.next n
  let l:=g.2.jm m.places.length
  let e:=l.2.next 9
  let r:=Rn m s.b (3+2*g.1) l.1 (s.t+a.1) (s.t+a.1+e.1)
  ⟨if r.2=0 then r.1 else s.b,s.t+a.1,e.2⟩
 else
  let g:=c.2.next n
  let l:=g.2.jm m.places.length
  let e:=l.2.next 40
  let r:=Rr m s.b (3+2*g.1) l.1 (s.t+a.1) (s.t+a.1+50) e.1
  ⟨if r.2=0 then r.1 else s.b,s.t+a.1,e.2⟩
def aR.Yn(m:cJ)(n:Int)(s:BSt):Nat→BSt
 | 0=>s
 | k+1=>aR.K5 m n (aR.Yn m n s k)
def aR.W6(d:aR):Nat:=(1+(d.next 3).1).toNat
def aR.T8(d:aR)(m:cJ):List Int×aR:=(d.next 3).2.zu m.places.length d.W6
def aR.Zb(d:aR)(m:cJ):BSt:=⟨(FH m (Rw d.W6) (d.T8 m).1 ((d.T8 m).2.next 100).1).1,100,(((d.T8 m).2.next 100).2.next 5).2⟩
def aR.Zc(d:aR)(m:cJ):Nat:=(((d.T8 m).2.next 100).2.next 5).1.toNat
def aR.Yo(d:aR)(m:cJ):BSt:=aR.Yn m d.W6 (d.Zb m) (d.Zc m)
def aR.Yp(d:aR)(m:cJ):Bel×aR:=((d.Yo m).b,(d.Yo m).d)
structure WOk(m:cJ)(N:Nat)(x:World):Prop where
 tg:x.tags.length=N
 wh:x.whr.length=N
 fr:∀w∈x.whr,w.frm.length=m.places.length
 ti:∀w∈x.whr,inT w.time
structure BOk(m:cJ)(N:Nat)(b:Bel):Prop where
 w1:1≤b.worlds.length
 w2:b.worlds.length≤24
 n1:1≤N
 n2:N≤12
 ws:∀x∈b.worlds,WOk m N x
theorem WOk.sz{m:cJ}{N:Nat}{x:World}(h:WOk m N x)(hm:m.ok)(hn:N≤12):x.sz:=by
 have np:=hm.np
 obtain⟨t1,t2,t3, -⟩:=h
 exact⟨by omega,by omega,fun w hw=>by rw[t3 w hw];omega⟩
theorem BOk.sz{m:cJ}{N:Nat}{b:Bel}(h:BOk m N b)(hm:m.ok):b.sz:=
 ⟨by have:=h.w2;omega,fun x hx=>(h.ws x hx).sz hm h.n2⟩
def aR.spread(d:aR)(m:cJ)(fl:List Spn):Wh×aR:=
 let p:=d.next m.places.length
 let t:=p.2.next 200
 let s:=QY m fl [p.1] t.1
 let o:=t.2.one 2
 if o.1=true then
  let f:=o.2.WO m
  let a:=f.2.next 100
  let r:=J8 m fl m f.1 s.1 (s.1.time+a.1)
  if r.2=0 then(r.1,a.2)else(s.1,a.2)
 else(s.1,o.2)
structure Mch where
 kind:Int
 num:Int
 pl:List Int
instance : Dat Mch := ⟨⟨0, 0, []⟩⟩
abbrev Mch.e(x:Mch):T:= .agg [tI x.kind,tI x.num,tL x.pl]
@[go_sem] theorem Rx (l : List Mch) : ja 3 (l.map Mch.e) = true := by cases l <;> rfl
theorem zv{α:Type} [Dat α]{l:List α}{p:α→Bool}:((List.range l.length).find? fun j=>p (nth l j)).isSome=l.any p:=by
 rw[List.isSome_find?,Bool.eq_iff_iff,List.any_eq_true,List.any_eq_true]
 constructor
 · rintro ⟨j,hj,h⟩
   exact⟨_,bg (List.mem_range.1 hj),h⟩
 · rintro ⟨x,hx,h⟩
   obtain⟨j,hj⟩:=List.mem_iff_getElem?.1 hx
   exact⟨j,List.mem_range.2 (List.getElem?_eq_some_iff.1 hj).1,by rw[dR hj];exact h⟩
end Go.Ev
namespace Go.Ev
open Go
variable [Lib] [bT] [bU] [dL] [dI] [fP] [dF] [dC] [eO] [eD] [cE] [cO]
theorem nL{l:List Int}:ft l=true↔l.Nodup∧∀x∈l,1≤x∧x≤65535:=by
 constructor
 · intro h
   refine⟨uB h,fun x hx=>?_⟩
   simp only[ft,List.all_eq_true,List.mem_range,ux,decide_eq_true_eq]at h
   obtain⟨j,hj⟩:=List.mem_iff_getElem?.1 hx
   have:=h j (List.getElem?_eq_some_iff.1 hj).1
   rw[dR hj]at this
   exact⟨this.1,this.2.1⟩
 · rintro ⟨h1,h2⟩
   simp only[ft,List.all_eq_true,List.mem_range,ux,decide_eq_true_eq]
   intro j hj
   obtain⟨a,b⟩:=h2 _ (bg hj)
   refine⟨a,b,Decidable.byContradiction fun c=>?_⟩
   obtain⟨d,e⟩:=Af (l:=l.take j) (x:=nth l j) (by omega)
   have z:0≤gx (l.take j) (nth l j):=by omega
   generalize gx (l.take j) (nth l j)=k at*
   rw[List.length_take]at d
   have k1:k.toNat<j:=by omega
   have e1:(l.take j)[k.toNat]?=l[k.toNat]?:=List.getElem?_take_of_lt k1
   have e2:l[k.toNat]?=some l[k.toNat]:=List.getElem?_eq_getElem (by omega)
   rw[dR (e1.trans e2),←dR e2]at e
   have n2:=(List.getElem?_inj (by omega:k.toNat<l.length) h1).1 (show l[k.toNat]?=l[j]? by rw[kF (by omega),kF hj,e])
   omega
theorem FJ{l:List Int}{lo hi:Int}:G8 l lo hi=true↔l.Pairwise (· < ·)∧∀x∈l,lo≤x∧x≤hi:=by
 have e:G8 l lo hi=true↔∀j,j<l.length→lo≤nth l j∧nth l j≤hi∧(0<j→nth l (j-1)<nth l j):=by
  simp only[G8,Bool.not_eq_true',List.any_eq_false,List.mem_range,Ct,Bool.not_eq_true]
  constructor
  · intro h j hj
    have:=h j hj
    exact Decidable.byContradiction fun c=>this (decide_eq_false c)
  · intro h j hj c
    exact(of_decide_eq_false c) (h j hj)
 rw[e]
 constructor
 · intro h
   refine⟨?_,fun x hx=>?_⟩
   · have key:∀d i,i+d+1<l.length→nth l i<nth l (i+d+1):=by
      intro d
      induction d with
      | zero=>intro i hi;have:=(h (i+0+1) hi).2.2 (by omega);simpa using this
      | succ d ih=>
        intro i hi
        have a:=ih i (by omega)
        have b:=(h (i+(d+1)+1) hi).2.2 (by omega)
        rw[show i+(d+1)+1-1=i+d+1 by omega]at b
        omega
     rw[List.pairwise_iff_getElem]
     intro i j hi hj hij
     have:=key (j-i-1) i (by omega)
     rw[show i+(j-i-1)+1=j by omega,dR (List.getElem?_eq_getElem hi),dR (List.getElem?_eq_getElem hj)]at this
     exact this
   · obtain⟨j,hj⟩:=List.mem_iff_getElem?.1 hx
     have:=h j (List.getElem?_eq_some_iff.1 hj).1
     rw[dR hj]at this
     exact⟨this.1,this.2.1⟩
 · rintro ⟨h1,h2⟩ j hj
   refine⟨(h2 _ (bg hj)).1,(h2 _ (bg hj)).2,fun h0=>?_⟩
   have:=(List.pairwise_iff_getElem.1 h1) (j-1) j (by omega) hj (by omega)
   rwa [← dR (List.getElem?_eq_getElem (by omega:j-1<l.length)),←dR (List.getElem?_eq_getElem hj)]at this
theorem Aw(l:List Int):G8 (fZ l) 1 65535=ft l:=by
 rw[Bool.eq_iff_iff,FJ,nL]
 have p:=mA l
 have u:=uA l
 constructor
 · rintro ⟨h1,h2⟩
   refine⟨p.nodup_iff.1 (h1.imp fun h=>by omega),fun x hx=>h2 x (p.mem_iff.2 hx)⟩
 · rintro ⟨h1,h2⟩
   have nd:(fZ l).Nodup:=p.nodup_iff.2 h1
   refine⟨?_,fun x hx=>h2 x (p.mem_iff.1 hx)⟩
   have:=List.Pairwise.and u nd
   exact this.imp fun h=>by omega
end Go.Ev
namespace Go.Ev
open Go
variable [Lib] [bT] [bU]
theorem FK{α:Type} [Dat α](l:List α)(k:Nat)(hk:k<l.length)(x:α)(j:Nat):nth (l.set k x) j=if j=k then x else nth l j:=by
 unfold nth
 by_cases h:j=k
 · subst h;rw[if_pos rfl];simp[hk]
 · rw[if_neg h]
   have:¬k=j:=fun e=>h e.symm
   simp[List.getElem?_set,this]
def clW(m:cJ)(t:Int)(into:Option (List Int))(y:List Int):Prop:=∀k,k<m.roads.length→∀back,X9 into ((nth m.roads k).dst back)=true→0≤iM m k back 6 9 12→
 nth y ((nth m.roads k).src back).toNat<1099511627776→max t (nth y ((nth m.roads k).src back).toNat+iM m k back 6 9 12)≤2147483648→
 nth y ((nth m.roads k).dst back).toNat≤max t (nth y ((nth m.roads k).src back).toNat+iM m k back 6 9 12)
section
variable {m : cJ} (h : m.ok) {t : Int} {into : Option (List Int)}
include h
end
end Go.Ev
namespace Go.Ev
open Go
variable [Lib] [bT] [bU]
structure OfI(m:cJ)(p:Nat)(l:List Int):Prop where
 ln:l.length=m.places.length
 bd:bnd l
 z:nth l p=0
theorem OfI.set{m:cJ}{p:Nat}{l:List Int}(h:OfI m p l){q:Nat}{x:Int}(hq:q<l.length)(h0:0<x)(hx:x<nth l q):OfI m p (l.set q x):=by
 have b1:=h.bd _ (bg hq)
 refine⟨by rw[List.length_set];exact h.ln,J4 h.bd (by omega) (by omega),?_⟩
 rw[FK _ _ hq]
 split
 · rename_i e;subst e;have:=h.z;omega
 · exact h.z
end Go.Ev
namespace Go.Ev
open Go
variable [Lib] [bT] [bU] [dF] [dC] [eO] [eD]
@[go_sem] theorem Yq (H : aj) (len j : Nat) (ts : List T) (h : j < len) : PC H len 1 false (.t (.agg ts)) j = (ts[j]?).map fun t => (.t t, H) := by
 have h0:len≠0:=by omega
 unfold PC ta
 rw[if_neg h0,if_pos h]
 unfold nZ cut
 simp only[D.isAgg,D.cells,T.cells,if_true,Nat.mul_one,List.length_map]
 by_cases hj:j<ts.length
 · rw[if_pos (by omega),List.getElem?_eq_getElem hj]
   have e:((ts.map D.t).drop j).take 1=[D.t ts[j]]:=by
    rw[List.drop_eq_getElem_cons (by simpa using hj)];simp
   rw[e];rfl
 · rw[if_neg (by omega),List.getElem?_eq_none (by omega)];rfl
section
variable (a0 a1 a2 a3 a4 a5 x y : Obj) (ds : aj)
end
@[go_sem] theorem T9 (n : Nat) : eqB n n = true := by
 induction n with
 | zero=>rfl
 | succ n ih=>exact ih
end Go.Ev
namespace Go.Ev
open Go
variable [Lib] [bT] [bU] [dL] [dI] [dF] [dC] [eO] [eD]
end Go.Ev
namespace Go.Ev.N
def Ax:Nat:=271
def CS:Nat:=272
def CT:Nat:=273
def A7:Nat:=274
def D9:Nat:=275
def CU:Nat:=276
def K6:Nat:=277
def K7:Nat:=278
def Ol:Nat:=279
def Om:Nat:=280
def Ea:Nat:=281
def Ry:Nat:=282
def HD:Nat:=283
def K8:Nat:=284
def K9:Nat:=285
def On:Nat:=286
def oZ:Nat:=287
def Oo:Nat:=288
def La:Nat:=289
def Lb:Nat:=290
def Lc:Nat:=291
def Ld:Nat:=292
def Eb:Nat:=293
def Le:Nat:=294
def Lf:Nat:=295
def HE:Nat:=296
def oJ:Nat:=297
def oK:Nat:=298
def FL:Nat:=299
def tN:Nat:=300
def lf:Nat:=301
def nM:Nat:=302
def qg:Nat:=303
def mJ:Nat:=304
def o5:Nat:=305
def qh:Nat:=306
def oM:Nat:=307
def Ec:Nat:=308
end Go.Ev.N
namespace Go.Ev.N
def HF:Nat:=309
def CV:Nat:=310
def Ed:Nat:=311
def Ee:Nat:=312
def CW:Nat:=313
def Lg:Nat:=314
def W7:Nat:=315
def Rz:Nat:=316
def Lh:Nat:=317
def Li:Nat:=318
def Lj:Nat:=319
def Lk:Nat:=320
def RA:Nat:=321
def RB:Nat:=322
def Ll:Nat:=323
def FM:Nat:=324
def RC:Nat:=325
def Ua:Nat:=326
def Ef:Nat:=327
def HG:Nat:=328
def FN:Nat:=329
def aG:Nat:=330
def aJ:Nat:=331
def FO:Nat:=332
def CY:Nat:=333
end Go.Ev.N
