/- Parts of the proof: see the text that holds the theorem. -/
import Derived.Test.YtljlbkjecjloaaaGreatZ2
set_option linter.all false
set_option maxRecDepth 100000
namespace Go.Ev
open Go
abbrev I(n:Int):D:= .t (.int .i64 n)
abbrev B(b:Bool):D:= .t (.bool b)
def HJ{β:Type}(call:aS):List R→List D→List D→aj→(List D→List D→aj→Option β)→Option β
 | rs,L,vs,H,K=>(evR call rs L vs H).bind fun q=>K q.1 q.2.1 q.2.2
def O6{β:Type}(call:aS)(rs:List R)(d:Option Nat)(L vs:List D)(K:List D→List D→aj→Option β)(p:D×aj):Option β:=
 HJ call rs (p.1::L) (wr vs d p.1) p.2 K
@[go_sem] theorem VV {β : Type} (call : aS) (rs : List R) (d : Option Nat) (L vs : List D) (K : List D → List D → aj → Option β) (x : D) (H : aj) :
 O6 call rs d L vs K (x,H)=HJ call rs (x::L) (wr vs d x) H K:=(rfl)
@[go_sem] theorem VW {β : Type} (call : aS) (L vs : List D) (H : aj) (K : List D → List D → aj → Option β) : HJ call [] L vs H K = K L vs H := (rfl)
@[go_sem] theorem TN {β : Type} (call : aS) (o : O) (d : Option Nat) (rs : List R) (L vs : List D) (H : aj) (K : List D → List D → aj → Option β) :
 HJ call (⟨o,d,none⟩::rs) L vs H K=(evO call (X.get vs L) H o).bind (O6 call rs d L vs K):=by
 simp[HJ,evR,cu,Option.bind_assoc]
 rfl
def gate{β:Type}(c:Option D)(w:Bool)(a b:Option β):Option β:=match c with
 | some (.t (.bool x))=>if x=w then a else b
 | some (.tup [])=>b
 | _=>none
@[congr] theorem RK {β : Type} {c c' : Option D} {w : Bool} {a b : Option β} (h : True → c = c') : gate c w a b = gate c' w a b := by rw [h trivial]
@[go_sem] theorem TO {β : Type} (x : Bool) (a b : Option β) : gate (some (.t (.bool x))) true a b = if x = true then a else b := (rfl)
@[go_sem] theorem RL {β : Type} (x : Bool) (a b : Option β) : gate (some (.t (.bool x))) false a b = if x = true then b else a := by cases x <;> rfl
@[go_sem] theorem TP {β : Type} (w : Bool) (a b : Option β) : gate (some (.tup [])) w a b = b := (rfl)
@[go_sem] theorem TQ {β : Type} (call : aS) (o : O) (d : Option Nat) (k : Nat) (w : Bool) (rs : List R) (L vs : List D) (H : aj) (K : List D → List D → aj → Option β) :
 HJ call (⟨o,d,some (k,w)⟩::rs) L vs H K=gate L[k]? w ((evO call (X.get vs L) H o).bind (O6 call rs d L vs K)) (HJ call rs (.tup []::L) (wr vs d (.tup [])) H K):=by
 simp only[HJ,evR,cu]
 cases hL:L[k]? with
 | none=>simp[gate]
 | some c=>
   simp only[Option.bind_some]
   cases c with
   | t x=>
     cases x with
     | bool b=>cases b<;>cases w<;>simp[gate,Option.bind_assoc]<;>rfl
     | _=>simp[gate]
   | tup ds=>
     cases ds with
     | nil=>simp[gate]
     | cons=>simp[gate]
   | _=>simp[gate]
open Classical in
noncomputable def vQ{β:Type}(p:Prop)(x:Option β):Option β:=if p then x else none
@[go_sem] theorem O7 {β : Type} (x : Option β) : vQ True x = x := by simp [vQ]
noncomputable def B0{β:Type}(call:aS)(all:List R)(n:Nat)(ps:List (Nat×Nat))(rs:List R)(L vs:List D)(H:aj)(acc:List Tr)(K:List D→List D→aj→Option β):Option β:=
 (evR call rs L vs H).bind fun q=>vQ (p6 call all n ((trace call rs L vs H).reverse++acc) ps) (K q.1 q.2.1 q.2.2)
noncomputable def II{β:Type}(call:aS)(all:List R)(n:Nat)(ps:List (Nat×Nat))(rs:List R)(d:Option Nat)(L vs:List D)(H:aj)(acc:List Tr)(K:List D→List D→aj→Option β)(p:D×aj):Option β:=
 B0 call all n ps rs (p.1::L) (wr vs d p.1) p.2 ((L,vs,H)::acc) K
@[go_sem] theorem VX {β : Type} (call : aS) (all : List R) (n : Nat) (ps : List (Nat × Nat)) (rs : List R) (d : Option Nat) (L vs : List D) (H : aj) (acc : List Tr) (K : List D → List D → aj → Option β) (x : D) (H' : aj) :
 II call all n ps rs d L vs H acc K (x,H')=B0 call all n ps rs (x::L) (wr vs d x) H' ((L,vs,H)::acc) K:=(rfl)
@[go_sem] theorem VY {β : Type} (call : aS) (all : List R) (n : Nat) (ps : List (Nat × Nat)) (L vs : List D) (H : aj) (acc : List Tr) (K : List D → List D → aj → Option β) :
 B0 call all n ps [] L vs H acc K=vQ (p6 call all n ((L,vs,H)::acc) ps) (K L vs H):=by
 simp[B0,evR,trace]
theorem B1{β:Type}(call:aS)(all:List R)(n:Nat)(ps:List (Nat×Nat))(r:R)(rs:List R)(L vs:List D)(H:aj)(acc:List Tr)(K:List D→List D→aj→Option β):
 B0 call all n ps (r::rs) L vs H acc K=(cu L r.g).bind fun w=>
  if w then(evO call (X.get vs L) H r.o).bind (II call all n ps rs r.d L vs H acc K)else B0 call all n ps rs (.tup []::L) (wr vs r.d (.tup [])) H ((L,vs,H)::acc) K:=by
 obtain hw | ⟨w,hw⟩:cu L r.g=none∨∃w,cu L r.g=some w:=by cases cu L r.g<;>simp
 · simp[B0,evR,trace,hw]
 · cases w with
   | true=>
     obtain hq | ⟨q,hq⟩:evO call (X.get vs L) H r.o=none∨∃q,evO call (X.get vs L) H r.o=some q:=by cases evO call (X.get vs L) H r.o<;>simp
     · simp[B0,evR,trace,hw,hq]
     · simp[B0,evR,trace,hw,hq,II]
   | false=>simp[B0,evR,trace,hw]
@[go_sem] theorem TR {β : Type} (call : aS) (all : List R) (n : Nat) (ps : List (Nat × Nat)) (o : O) (d : Option Nat) (rs : List R) (L vs : List D) (H : aj) (acc : List Tr) (K : List D → List D → aj → Option β) :
 B0 call all n ps (⟨o,d,none⟩::rs) L vs H acc K=(evO call (X.get vs L) H o).bind (II call all n ps rs d L vs H acc K):=by
 rw[B1];simp[cu]
@[go_sem] theorem TS {β : Type} (call : aS) (all : List R) (n : Nat) (ps : List (Nat × Nat)) (o : O) (d : Option Nat) (k : Nat) (w : Bool) (rs : List R) (L vs : List D) (H : aj) (acc : List Tr) (K : List D → List D → aj → Option β) :
 B0 call all n ps (⟨o,d,some (k,w)⟩::rs) L vs H acc K=
  gate L[k]? w ((evO call (X.get vs L) H o).bind (II call all n ps rs d L vs H acc K)) (B0 call all n ps rs (.tup []::L) (wr vs d (.tup [])) H ((L,vs,H)::acc) K):=by
 rw[B1]
 simp only[cu]
 cases hL:L[k]? with
 | none=>simp[gate]
 | some c=>
   simp only[Option.bind_some]
   cases c with
   | t x=>
     cases x with
     | bool b=>cases b<;>cases w<;>simp[gate]
     | _=>simp[gate]
   | tup ds=>
     cases ds with
     | nil=>simp[gate]
     | cons=>simp[gate]
   | _=>simp[gate]
def An(call:aS):Option R→Option Tr→Option Tr→Option Tr→Prop
 | some r,some s,some a,some s'=>(match r.o with
   | .al _ _=>a.2.2[s.2.2.length]?=s'.2.2[s.2.2.length]?
   | .bs xs _=>cu s.1 r.g=some false∨((bQ (X.get s.2.1 s.1) xs).bind qa).isSome=true
   | o=>tM o=true∧(cu s.1 r.g=some false∨Bo (evO call (X.get s.2.1 s.1) a.2.2 o)=Bo (evO call (X.get s.2.1 s.1) s.2.2 o)))
 | _,_,_,_=>False
@[go_sem] theorem RM (call : aS) (all : List R) (n : Nat) (acc : List Tr) : p6 call all n acc [] = True := (rfl)
@[go_sem] theorem O8 (call : aS) (all : List R) (n : Nat) (acc : List Tr) (p m : Nat) (r : List (Nat × Nat)) :
 p6 call all n acc ((p,m)::r)=(An call all[p]? acc[n-p]? acc[n-m]? acc[n-(p+1)]?∧m≤n∧p6 call all n acc r):=by
 simp only[p6,O5,An]
 try rfl
section
variable (call : aS) (d : Option Nat) (gd : Option (Nat × Bool)) (L vs L' vs' : List D) (H H' : aj) (s' : Tr)
@[go_sem] theorem VZ (x : X) (n : Nat) (agg : Bool) : An call (some ⟨.ld x n agg, d, gd⟩) (some (L, vs, H)) (some (L', vs', H')) (some s') =
 (cu L gd=some false∨Bo (evO call (X.get vs L) H' (.ld x n agg))=Bo (evO call (X.get vs L) H (.ld x n agg))):=by simp[An,tM]
@[go_sem] theorem V0 (x i : X) (sz : Nat) : An call (some ⟨.ia x i sz, d, gd⟩) (some (L, vs, H)) (some (L', vs', H')) (some s') =
 (cu L gd=some false∨Bo (evO call (X.get vs L) H' (.ia x i sz))=Bo (evO call (X.get vs L) H (.ia x i sz))):=by simp[An,tM]
@[go_sem] theorem V1 (x : X) (lo hi : Option X) (sz : Nat) : An call (some ⟨.sc x lo hi sz, d, gd⟩) (some (L, vs, H)) (some (L', vs', H')) (some s') =
 (cu L gd=some false∨Bo (evO call (X.get vs L) H' (.sc x lo hi sz))=Bo (evO call (X.get vs L) H (.sc x lo hi sz))):=by simp[An,tM]
@[go_sem] theorem V2 (z : List D) (l : List (Nat × Nat)) (L2 vs2 : List D) (H2 : aj) : An call (some ⟨.al z l, d, gd⟩) (some (L, vs, H)) (some (L', vs', H')) (some (L2, vs2, H2)) = (H'[H.length]? = H2[H.length]?) := (rfl)
@[go_sem] theorem Nd (L : List D) : cu L none = some true := (rfl)
def TT(w:Bool):Option D→Option Bool
 | some (.t (.bool b))=>some (b==w)
 | some (.tup [])=>some false
 | _=>none
@[go_sem] theorem RN (w b : Bool) : TT w (some (.t (.bool b))) = some (b == w) := (rfl)
@[go_sem] theorem Nf (L : List D) (k : Nat) (w : Bool) : cu L (some (k, w)) = TT w L[k]? := by
 simp only[cu]
 cases L[k]? with
 | none=>rfl
 | some c=>cases c with
   | t x=>cases x<;>rfl
   | tup ds=>cases ds<;>rfl
   | _=>rfl
@[go_sem] theorem TU (x : D) : Bo (some (x, H)) = some x := (rfl)
attribute [go_sem] beq_true beq_false or_true true_or or_self
end
theorem Fk(call:aS)(rs:List R)(vs:List D)(H:aj):KK call rs [] vs H=evR call rs [] vs H:=by
 simp[KK,p6]
def XP(L vs:List D)(H:aj):Option (Ex×St):=some (.normal,⟨vs,H⟩)
noncomputable def XQ(call:aS)(k:Nat)(a b:C)(L vs:List D)(H:aj):Option (Ex×St):=gz L[k]? (exS call a ⟨vs,H⟩) (exS call b ⟨vs,H⟩)
@[go_sem] theorem XR (L vs : List D) (H : aj) : XP L vs H = some (.normal, ⟨vs, H⟩) := (rfl)
@[go_sem] theorem XT (call : aS) (k : Nat) (a b : C) (L vs : List D) (H : aj) : XQ call k a b L vs H = gz L[k]? (exS call a ⟨vs, H⟩) (exS call b ⟨vs, H⟩) := (rfl)
def andThen(x:Option (Ex×St))(k:St→Option (Ex×St)):Option (Ex×St):=x.bind fun p=>fY p k
@[go_sem] theorem KL (st : St) (k : St → Option (Ex × St)) : andThen (some (.normal, st)) k = k st := (rfl)
@[go_sem] theorem O9 (st : St) (k : St → Option (Ex × St)) : andThen (some (.ret, st)) k = some (.ret, st) := (rfl)
@[go_sem] theorem Ng (i : Nat) (st : St) (k : St → Option (Ex × St)) : andThen (some (.exit i, st)) k = some (.exit i, st) := (rfl)
@[go_sem] theorem andThen_ite (c : Prop) [Decidable c] (a b : Option (Ex × St)) (k : St → Option (Ex × St)) : andThen (if c then a else b) k = if c then andThen a k else andThen b k := by
 split<;>rfl
@[go_sem] theorem V3 (call : aS) (st : St) : exS call .skip st = some (.normal, st) := (rfl)
@[go_sem] theorem XU (call : aS) (rs : List R) (vs : List D) (H : aj) : exS call (.reg rs []) ⟨vs, H⟩ = HJ call rs [] vs H XP := by
 simp only[exS,Fk,HJ]
 cases evR call rs [] vs H<;>rfl
@[go_sem] theorem V4 (call : aS) (rs : List R) (p : Nat × Nat) (ps : List (Nat × Nat)) (vs : List D) (H : aj) :
 exS call (.reg rs (p::ps)) ⟨vs,H⟩=B0 call rs rs.length (p::ps) rs [] vs H [] XP:=by
 simp only[exS,KK,B0,List.append_nil]
 by_cases h:p6 call rs rs.length (trace call rs [] vs H).reverse (p::ps)
 · rw[if_pos h]
   simp only[vQ,if_pos h]
   cases evR call rs [] vs H<;>rfl
 · rw[if_neg h]
   simp only[vQ,if_neg h]
   cases evR call rs [] vs H<;>rfl
@[go_sem] theorem XV (call : aS) (a b : C) (st : St) : exS call (.seq a b) st = andThen (exS call a st) (exS call b) := (rfl)
@[go_sem] theorem XW (call : aS) (rs : List R) (k : Nat) (a b : C) (vs : List D) (H : aj) : exS call (.ite rs [] k a b) ⟨vs, H⟩ = HJ call rs [] vs H (XQ call k a b) := by
 simp only[exS,Fk,HJ]
 cases evR call rs [] vs H<;>rfl
@[go_sem] theorem V5 (call : aS) (rs : List R) (p : Nat × Nat) (ps : List (Nat × Nat)) (k : Nat) (a b : C) (vs : List D) (H : aj) :
 exS call (.ite rs (p::ps) k a b) ⟨vs,H⟩=B0 call rs rs.length (p::ps) rs [] vs H [] (XQ call k a b):=by
 simp only[exS,KK,B0,List.append_nil]
 by_cases h:p6 call rs rs.length (trace call rs [] vs H).reverse (p::ps)
 · rw[if_pos h]
   simp only[vQ,if_pos h]
   cases evR call rs [] vs H<;>rfl
 · rw[if_neg h]
   simp only[vQ,if_neg h]
   cases evR call rs [] vs H<;>rfl
@[go_sem] theorem XX (call : aS) (rs : List R) (ps : List (Nat × Nat)) (k : Nat) (a b c : C) (st : St) : exS call (.its rs ps k a b c) st = andThen (exS call (.ite rs ps k a b) st) (exS call c) := (rfl)
@[go_sem] theorem XY (call : aS) (rs : List R) (ps : List (Nat × Nat)) (k : Nat) (a b c : C) (st : St) : exS call (.itk rs ps k a b c) st = exS call (.ite rs ps k (.seq a c) (.seq b c)) st := (rfl)
@[go_sem] theorem XZ (call : aS) (j : Nat) (a b : C) (vs : List D) (H : aj) : exS call (.itv j a b) ⟨vs, H⟩ = gz vs[j]? (exS call a ⟨vs, H⟩) (exS call b ⟨vs, H⟩) := (rfl)
@[go_sem] theorem V6 (call : aS) (id : Nat) (st : St) : exS call (.exit id) st = some (.exit id, st) := (rfl)
@[go_sem] theorem X0 (call : aS) (st : St) : exS call .ret st = some (.ret, st) := (rfl)
@[go_sem] theorem X1 (call : aS) (v : Bool) (c : C) (st : St) : exS call (.cnd v c) st = exS call c st := (rfl)
def DN(id:Nat)(x:Option (Ex×St)):Option (Ex×St):=x.map (leave id)
@[go_sem] theorem X2 (call : aS) (id : Nat) (c : C) (st : St) : exS call (.blk id c) st = DN id (exS call c st) := (rfl)
@[go_sem] theorem Nh (id : Nat) (st : St) : DN id (some (.normal, st)) = some (.normal, st) := by simp [DN, leave]
@[go_sem] theorem TV (id : Nat) (st : St) : DN id (some (.ret, st)) = some (.ret, st) := by simp [DN, leave]
@[go_sem] theorem RO (id i : Nat) (st : St) : DN id (some (.exit i, st)) = if i = id then some (.normal, st) else some (.exit i, st) := by
 simp only[DN,leave,Option.map_some,Ex.exit.injEq]
 split<;>rfl
@[congr] theorem Pa {c c' : Option D} {a b : Option (Ex × St)} (h : True → c = c') : gz c a b = gz c' a b := by rw [h trivial]
@[go_sem] theorem V7 (a : Option (Ex × St)) : gz (some .ub) a a = a := by simp [gz]
@[go_sem] theorem RP (x : Bool) (a b : Option (Ex × St)) : gz (some (.t (.bool x))) a b = if x = true then a else b := (rfl)
def fJ(gc:Bool)(dead:List Nat)(k:Nat)(x:Option (Ex×St)):Option St:=x.bind fun p=>match p.1 with
 | .normal=>tidy gc dead k p.2
 | _=>none
@[go_sem] theorem Lu (gc : Bool) (dead : List Nat) (k : Nat) (st : St) : fJ gc dead k (some (.normal, st)) = tidy gc dead k st := (rfl)
theorem jO{gc:Bool}{dead:List Nat}{body:St→Option (Ex×St)}{st st2:St}(h:fJ gc dead st.H.length (body st)=some st2)
 {p:Ex×St} (h2:mz gc dead body st2=some p):mz gc dead body st=some p:=by
 unfold fJ at h
 obtain⟨⟨e,st1⟩,hq,h⟩:=Option.bind_eq_some_iff.1 h
 cases e with
 | normal=>exact zn hq h h2
 | ret=>cases h
 | exit=>cases h
theorem w9{gc:Bool}{dead:List Nat}{body:St→Option (Ex×St)}(s:Nat→St){p:Ex×St}(n:Nat)
 (h:∀j,j<n→fJ gc dead (s j).H.length (body (s j))=some (s (j+1))) (he:mz gc dead body (s n)=some p):mz gc dead body (s 0)=some p:=by
 have:=vO (s:=s) n 0 (fun j _ hj=>by
  have h:=h j (by omega)
  unfold fJ at h
  obtain⟨⟨e,st1⟩,hq,h⟩:=Option.bind_eq_some_iff.1 h
  cases e with
  | normal=>exact⟨st1,hq,h⟩
  | ret=>cases h
  | exit=>cases h) (by simpa using he)
 exact this
def V8(res:List (Nat×Option (Nat×Bool)))(k raw:Nat)(p:Ex×St):Option (D×aj):=match p.1 with
 | .exit _=>none
 | _=>(iw p.2 res).bind (finish k raw p.2.H)
@[go_sem] theorem V9 (res : List (Nat × Option (Nat × Bool))) (k raw : Nat) (vs : List D) (H : aj) : V8 res k raw (.ret, ⟨vs, H⟩) = (iw ⟨vs, H⟩ res).bind (finish k raw H) := (rfl)
@[go_sem] theorem Pb (res : List (Nat × Option (Nat × Bool))) (k raw : Nat) (vs : List D) (H : aj) : V8 res k raw (.normal, ⟨vs, H⟩) = (iw ⟨vs, H⟩ res).bind (finish k raw H) := (rfl)
theorem Pc{fs:Nat→Option Fn}{raw f:Nat}{args:List D}{H:aj}{fn:Fn}{r:D×aj}(hf:fs f=some fn)(hn:fn.nargs=args.length)
 (h:(exS (nG fs) fn.body ⟨rK args fn.vars,H⟩).bind (V8 fn.res H.length raw)=some r) (h0:fn.prim=[]:=by rfl):nG fs raw f args H=some r:=by
 obtain⟨p,hp,he⟩:=Option.bind_eq_some_iff.1 h
 exact Lo hf hn (Lt _ _ _ hp) he h0
@[go_sem] theorem Wb {α β : Type} (c : Prop) [Decidable c] (a b : Option α) (k : α → Option β) : (if c then a else b).bind k = if c then a.bind k else b.bind k := by
 split<;>rfl
theorem Z3(a b:Int):(a==b)=decide (a=b):=by rw[Bool.eq_iff_iff];simp
theorem uW{n:Int}(h1: -9223372036854775808≤n)(h2:n≤9223372036854775807):IntKind.i64.wrap n=n:=by
 have e:IntKind.i64.wrap n=if n % 18446744073709551616≥9223372036854775808 then n % 18446744073709551616-18446744073709551616 else n % 18446744073709551616:=by
  simp[IntKind.wrap,IntKind.signed,IntKind.bits]
 rw[e];split<;>omega
section
variable {α β : Type}
@[go_sem] theorem Pd (a : α) (f : α → Option β) : (some a).bind f = f a := (rfl)
@[go_sem] theorem RQ (a : α) (f : α → β) : (some a).map f = some (f a) := (rfl)
@[go_sem] theorem RR (a : α) (l : List α) (f : α → β) : (a :: l).map f = f a :: l.map f := (rfl)
@[go_sem] theorem TW (f : α → β) : ([] : List α).map f = [] := (rfl)
@[go_sem] theorem RS (a : α) (l : List α) : (a :: l)[0]? = some a := (rfl)
@[go_sem] theorem RT (a : α) (l : List α) (n : Nat) : (a :: l)[n + 1]? = l[n]? := (rfl)
@[go_sem] theorem Pe (a d : α) (l : List α) : (a :: l).getD 0 d = a := (rfl)
@[go_sem] theorem Pf (a d : α) (l : List α) (n : Nat) : (a :: l).getD (n + 1) d = l.getD n d := (rfl)
@[go_sem] theorem RU (d : α) (n : Nat) : ([] : List α).getD n d = d := by simp
@[go_sem] theorem RV (a b : α) (l : List α) : (a :: l).set 0 b = b :: l := (rfl)
@[go_sem] theorem RW (a b : α) (l : List α) (n : Nat) : (a :: l).set (n + 1) b = a :: l.set n b := (rfl)
@[go_sem] theorem Lv (a : α) (l m : List α) : (a :: l) ++ m = a :: (l ++ m) := (rfl)
@[go_sem] theorem Ni (l : List α) : [] ++ l = l := (rfl)
@[go_sem] theorem Nj (l : List α) : l ++ [] = l := by simp
@[go_sem] theorem Nk : ([] : List α).length = 0 := (rfl)
@[go_sem] theorem Lw (a : α) (l : List α) : (a :: l).length = l.length + 1 := (rfl)
@[go_sem] theorem Nl (l : List α) (f : α → β) : (l.map f).length = l.length := by simp
@[go_sem] theorem IJ (l m : List α) : (l ++ m).length = l.length + m.length := by simp
@[go_sem] theorem Nn (l : List α) (i : Nat) (a : α) : (l.set i a).length = l.length := by simp
@[go_sem] theorem Pg (l : List α) : l.drop 0 = l := (rfl)
@[go_sem] theorem Ph (a : α) (l : List α) (n : Nat) : (a :: l).drop (n + 1) = l.drop n := (rfl)
@[go_sem] theorem RX (n : Nat) : ([] : List α).drop n = [] := by simp
@[go_sem] theorem Pj (l : List α) : l.take 0 = [] := (rfl)
@[go_sem] theorem Pk (a : α) (l : List α) (n : Nat) : (a :: l).take (n + 1) = a :: l.take n := (rfl)
@[go_sem] theorem RY (n : Nat) : ([] : List α).take n = [] := by simp
@[go_sem] theorem Pl (a b : α) : (bif true then a else b) = a := (rfl)
@[go_sem] theorem No (a b : α) : (bif false then a else b) = b := (rfl)
@[go_sem] theorem RZ (n : Nat) : n + 0 = n := (rfl)
@[go_sem] theorem R0 (n : Nat) : 0 + n = n := by simp
@[go_sem] theorem R1 (a b : α) : (some a = some b) = (a = b) := by simp
@[go_sem] theorem Wc (a : α) : (some a).isSome = true := (rfl)
end
attribute [go_sem] decide_true decide_false if_true if_false Bool.false_eq_true Bool.true_eq_false decide_eq_true_eq decide_eq_false_iff_not Bool.and_eq_true Bool.or_eq_true Bool.not_eq_true' Bool.not_eq_true Bool.not_eq_false
 Bool.and_true Bool.true_and Bool.and_false Bool.false_and Bool.or_true Bool.true_or Bool.or_false Bool.false_or and_true true_and and_self not_true_eq_false not_false_eq_true beq_iff_eq bne_iff_ne ne_eq
@[go_sem] theorem R2 : (!true) = false := (rfl)
@[go_sem] theorem Pm : (!false) = true := (rfl)
@[go_sem] theorem aaL (vs L : List D) (j : Nat) : X.get vs L (.v j) = vs[j]? := (rfl)
@[go_sem] theorem aaM (vs L : List D) (k : Nat) : X.get vs L (.l k) = L[k]? := (rfl)
@[go_sem] theorem aaN (vs L : List D) (d : D) : X.get vs L (.c d) = some d := (rfl)
@[go_sem] theorem aaO (vs L : List D) (n : Int) : X.get vs L (.i n) = some (I n) := (rfl)
@[go_sem] theorem aaP (vs L : List D) (x : Bool) : X.get vs L (.b x) = some (B x) := (rfl)
@[go_sem] theorem X3 (vs : List D) (x : D) : wr vs none x = vs := (rfl)
@[go_sem] theorem X4 (vs : List D) (s : Nat) (x : D) : wr vs (some s) x = vs.set s x := (rfl)
@[go_sem] theorem R3 (args : List D) : rK args [] = [] := (rfl)
@[go_sem] theorem Pn (args : List D) (s : Nat) (r : List Nat) : rK args (s :: r) = args.getD s .und :: rK args r := (rfl)
def X5(H:aj)(d:D):Option (D×aj):=some (d,H)
@[go_sem] theorem X6 (H : aj) (d : D) : X5 H d = some (d, H) := (rfl)
def lg{α:Type}(a:α)(l:Option (List α)):Option (List α):=l.map (a:: ·)
@[go_sem] theorem R4 {α : Type} (a : α) (l : List α) : lg a (some l) = some (a :: l) := (rfl)
@[go_sem] theorem R5 {α : Type} (a : α) : lg a none = none := (rfl)
@[go_sem] theorem Wd {α β : Type} (f : α → Option β) : bQ f [] = some [] := (rfl)
def Z4{α β:Type}(f:α→Option β)(r:List α)(y:β):Option (List β):=lg y (bQ f r)
@[go_sem] theorem Po {α β : Type} (f : α → Option β) (r : List α) (y : β) : Z4 f r y = lg y (bQ f r) := (rfl)
@[go_sem] theorem B2 {α β : Type} (f : α → Option β) (x : α) (r : List α) : bQ f (x :: r) = (f x).bind (Z4 f r) := (rfl)
section
variable (call : aS) (get : X → Option D) (H : aj)
@[go_sem] theorem aaQ (x : X) : evO call get H (.mv x) = (get x).bind (X5 H) := by simp only [evO]; cases get x <;> rfl
def We(c a b:Option D):Option (D×aj):=c.bind fun c=>a.bind fun a=>b.bind fun b=>(La c a b).map fun d=>(d,H)
@[go_sem] theorem aaR (c a b : X) : evO call get H (.pk c a b) = We H (get c) (get a) (get b) := (rfl)
@[go_sem] theorem TX (x p q : Bool) : We H (some (.t (.bool x))) (some (.t (.bool p))) (some (.t (.bool q))) = some (.t (.bool (bif x then p else q)), H) := by cases x <;> rfl
@[go_sem] theorem TY (a b : D) : We H (some (.t (.bool true))) (some a) (some b) = some (a, H) := (rfl)
@[go_sem] theorem R6 (a b : D) : We H (some (.t (.bool false))) (some a) (some b) = some (b, H) := (rfl)
def kE(f:BinOp)(x y:Option D):Option (D×aj):=x.bind fun a=>y.bind fun b=>(Bq f a b).map fun d=>(d,H)
@[go_sem] theorem Z5 (f : BinOp) (x y : X) : evO call get H (.bin f x y) = kE H f (get x) (get y) := (rfl)
section
variable (k j : IntKind) (a b : Int)
@[go_sem] theorem TZ : kE H .add (some (.t (.int k a))) (some (.t (.int k b))) = some (.t (.int k (k.wrap (a + b))), H) := by simp [kE, Bq, EX]
@[go_sem] theorem T0 : kE H .sub (some (.t (.int k a))) (some (.t (.int k b))) = some (.t (.int k (k.wrap (a - b))), H) := by simp [kE, Bq, EX]
@[go_sem] theorem T1 : kE H .mul (some (.t (.int k a))) (some (.t (.int k b))) = some (.t (.int k (k.wrap (a * b))), H) := by simp [kE, Bq, EX]
@[go_sem] theorem T2 : kE H .quo (some (.t (.int k a))) (some (.t (.int k b))) = if b = 0 then none else some (.t (.int k (k.wrap (a.tdiv b))), H) := by simp only [kE, Bq, EX]; by_cases h : b = 0 <;> simp [h]
@[go_sem] theorem T3 : kE H .rem (some (.t (.int k a))) (some (.t (.int k b))) = if b = 0 then none else some (.t (.int k (a.tmod b)), H) := by simp only [kE, Bq, EX]; by_cases h : b = 0 <;> simp [h]
@[go_sem] theorem T4 : kE H .eql (some (.t (.int k a))) (some (.t (.int k b))) = some (.t (.bool (decide (a = b))), H) := by simp [kE, Bq, EX, Z3]
@[go_sem] theorem T5 : kE H .neq (some (.t (.int k a))) (some (.t (.int k b))) = some (.t (.bool (decide (¬ a = b))), H) := by simp [kE, Bq, EX, bne, Z3]
@[go_sem] theorem T6 : kE H .lss (some (.t (.int k a))) (some (.t (.int k b))) = some (.t (.bool (decide (a < b))), H) := by simp [kE, Bq, EX]
@[go_sem] theorem T7 : kE H .leq (some (.t (.int k a))) (some (.t (.int k b))) = some (.t (.bool (decide (a ≤ b))), H) := by simp [kE, Bq, EX]
@[go_sem] theorem T8 : kE H .gtr (some (.t (.int k a))) (some (.t (.int k b))) = some (.t (.bool (decide (b < a))), H) := by simp [kE, Bq, EX]
@[go_sem] theorem T9 : kE H .geq (some (.t (.int k a))) (some (.t (.int k b))) = some (.t (.bool (decide (b ≤ a))), H) := by simp [kE, Bq, EX]
@[go_sem] theorem Ua (h : 0 ≤ b) : kE H .shr (some (.t (.int k a))) (some (.t (.int j b))) = some (.t (.int k (a.fdiv (2 ^ min b.toNat k.bits))), H) := by simp [kE, Bq, Bp, Int.not_lt.2 h]
@[go_sem] theorem Ub : kE H .and (some (.t (.int k a))) (some (.t (.int k b))) = some (.t (.int k (k.wrap (BitVec.ofInt k.bits a &&& BitVec.ofInt k.bits b).toNat)), H) := by simp [kE, Bq, EX]
def X7(f:UnOp)(a:D):Option (D×aj):=(unD f a).map fun d=>(d,H)
@[go_sem] theorem aaS (f : UnOp) (x : X) : evO call get H (.un f x) = (get x).bind (X7 H f) := (rfl)
@[go_sem] theorem Wf (x : Bool) : X7 H .not (.t (.bool x)) = some (.t (.bool (!x)), H) := (rfl)
@[go_sem] theorem Wg : X7 H .neg (.t (.int k a)) = some (.t (.int k (k.wrap (0 - a))), H) := (rfl)
def Z6(k:IntKind)(a:D):Option (D×aj):=(Ow k a).map fun d=>(d,H)
@[go_sem] theorem aaT (x : X) : evO call get H (.cv k x) = (get x).bind (Z6 H k) := (rfl)
@[go_sem] theorem Wi : Z6 H k (.t (.int j a)) = some (.t (.int k (k.wrap a)), H) := (rfl)
end
def IK(q:EqK)(neg:Bool)(x y:Option D):Option (D×aj):=x.bind fun a=>y.bind fun b=>(VM q neg a b).map fun d=>(d,H)
@[go_sem] theorem Z7 (q : EqK) (neg : Bool) (x y : X) : evO call get H (.eqk q neg x y) = IK H q neg (get x) (get y) := (rfl)
@[go_sem] theorem Pp (x y : Bool) : IK H .bool true (some (.t (.bool x))) (some (.t (.bool y))) = some (.t (.bool (!(x == y))), H) := (rfl)
@[go_sem] theorem Uc : IK H .sl false (some (.t (.sl []))) (some .nil) = some (.ub, H) := (rfl)
theorem xa(es:List T)(h:es≠[]):IK H .sl false (some (.t (.sl es))) (some .nil)=some (.t (.bool false),H):=by cases es<;>first | exact(h rfl).elim | rfl
def Z8(a:D):Option (D×aj):=(VQ a).map fun d=>(d,H)
@[go_sem] theorem aaU (x : X) : evO call get H (.nc x) = (get x).bind (Z8 H) := (rfl)
@[go_sem] theorem X8 (id off : Nat) : Z8 H (.bp id off) = some (.bp id off, H) := (rfl)
def Wj(off:Nat)(a:D):Option (D×aj):=(HY a off).map fun d=>(d,H)
@[go_sem] theorem aaV (x : X) (off : Nat) : evO call get H (.fa x off) = (get x).bind (Wj H off) := (rfl)
@[go_sem] theorem X9 (id o off : Nat) : Wj H off (.bp id o) = some (.bp id (o + off), H) := (rfl)
@[go_sem] theorem Ya (id ep n i o off : Nat) : Wj H off (.ap id ep n i o) = some (.ap id ep n i (o + off), H) := (rfl)
@[go_sem] theorem Yb (cs : List T) (off : Nat) : Wj H off (.ep cs) = some (.ep (cs.drop off), H) := (rfl)
@[go_sem] theorem aaW (cs : List D) : cut cs 0 0 = some [] := by simp [cut]
@[go_sem] theorem aaX (c : D) (cs : List D) (n : Nat) : cut (c :: cs) 0 (n + 1) = lg c (cut cs 0 n) := by
 simp only[cut,lg];by_cases h:n≤cs.length<;>simp[h]
@[go_sem] theorem aaY (c : D) (cs : List D) (off n : Nat) : cut (c :: cs) (off + 1) n = cut cs off n := by
 simp only[cut,List.length_cons,List.drop_succ_cons]
 by_cases h:off+n≤cs.length
 · rw[if_pos h,if_pos (by omega)]
 · rw[if_neg h,if_neg (by omega)]
def mkA(cs:List D):Option (List T)→D
 | some ts=> .t (.agg ts)
 | none=> .agg cs
@[go_sem] theorem Wk (cs : List D) (ts : List T) : mkA cs (some ts) = .t (.agg ts) := (rfl)
@[go_sem] theorem Wl (cs : List D) : mkA cs none = .agg cs := (rfl)
@[go_sem] theorem Wm (cs : List D) : r8 cs = mkA cs (qa cs) := by unfold r8; cases qa cs <;> rfl
@[go_sem] theorem Wn : qa [] = some [] := (rfl)
@[go_sem] theorem Z9 (x : T) (r : List D) : qa (.t x :: r) = lg x (qa r) := (rfl)
@[go_sem] theorem aaa (r : List D) : qa (.nil :: r) = none := (rfl)
@[go_sem] theorem Wo (a b c : Nat) (r : List D) : qa (.ref a b c :: r) = none := (rfl)
@[go_sem] theorem Lx (l : List T) : qa (l.map .t) = some l := by induction l with | nil => rfl | cons a l ih => simp [qa, ih]
def Yc(off n:Nat)(agg:Bool)(a:D):Option (D×aj):=(xn a off n agg).map fun d=>(d,H)
@[go_sem] theorem aaZ (x : X) (off n : Nat) (agg : Bool) : evO call get H (.fl x off n agg) = (get x).bind (Yc H off n agg) := (rfl)
def ofC(agg:Bool)(cs:Option (List D)):Option (D×aj):=(cs.bind (fA agg)).bind (X5 H)
@[go_sem] theorem aa0 (c : D) : ofC H false (some [c]) = some (c, H) := (rfl)
@[go_sem] theorem aa1 (cs : List D) : ofC H true (some cs) = some (r8 cs, H) := (rfl)
@[go_sem] theorem Wp (cs : List D) (off n : Nat) (agg : Bool) : Yc H off n agg (.agg cs) = ofC H agg (cut cs off n) := by
 simp only[Yc,xn,D.isAgg,if_true,D.cells,ofC];cases (cut cs off n).bind (fA agg)<;>rfl
theorem Pq{i:Int}(h:0≤i):idx i=some i.toNat:=by simp[idx,h]
def Ud(sz:Nat)(x i:Option D):Option (D×aj):=x.bind fun a=>(i.bind intOf).bind fun n=>(Br H a n sz).map fun d=>(d,H)
@[go_sem] theorem aa2 (x i : X) (sz : Nat) : evO call get H (.ia x i sz) = Ud H sz (get x) (get i) := (rfl)
def Pr(sz:Nat)(e:T):Option (D×aj):=if e.cells.length=sz then some (.ep e.cells,H)else none
def Yd(sz:Nat)(es:List T)(j:Nat):Option (D×aj):=es[j]?.bind (Pr H sz)
@[go_sem] theorem Ye (sz : Nat) (es : List T) (j : Nat) : Yd H sz es j = es[j]?.bind (Pr H sz) := (rfl)
@[go_sem] theorem Yf (k : IntKind) (es : List T) (n : Int) (sz : Nat) : Ud H sz (some (.t (.sl es))) (some (.t (.int k n))) = (idx n).bind (Yd H sz es) := by
 simp only[Ud,Option.bind_some,intOf,Br]
 cases idx n with
 | none=>rfl
 | some j=>
   simp only[Option.bind_some,Yd]
   cases es[j]? with
   | none=>rfl
   | some e=>simp only[Option.bind_some,Pr];split<;>rfl
@[go_sem] theorem Wq (k : IntKind) (n : Int) : Pr H 1 (.int k n) = some (.ep [.int k n], H) := (rfl)
def nH{α:Type}:Nat→List α→Bool
 | 0,[]=>true
 | n+1,_::r=>nH n r
 | _,_=>false
@[go_sem] theorem Yg {α : Type} : nH 0 ([] : List α) = true := (rfl)
@[go_sem] theorem Yh {α : Type} (n : Nat) (a : α) (l : List α) : nH (n + 1) (a :: l) = nH n l := (rfl)
theorem eZ{α:Type}:∀ {n:Nat} {l:List α},nH n l=true↔l.length=n
 | 0,[]=>by simp[nH]
 | 0,_::_=>by simp[nH]
 | n+1,[]=>by simp[nH]
 | n+1,_::r=>by simp only[nH,List.length_cons,Nat.add_right_cancel_iff];exact eZ
@[go_sem] theorem Ws (cs : List T) (sz : Nat) : Pr H sz (.agg cs) = if nH sz cs = true then some (.ep cs, H) else none := by
 by_cases h:cs.length=sz
 · rw[Pr,if_pos (show(T.agg cs).cells.length=sz from h),if_pos (eZ.2 h)];rfl
 · rw[Pr,if_neg (show ¬(T.agg cs).cells.length=sz from h),if_neg fun e=>h (eZ.1 e)]
def Ps(sz id ep n j:Nat):Option Obj→Option (D×aj)
 | some (.arr sz' _ ep' es)=>if ep=ep'∧n=es.length then(if j<n∧sz'=sz then some (.ap id ep n j 0,H)else none)else none
 | _=>none
@[go_sem] theorem Wt (k : IntKind) (id ep n : Nat) (i : Int) (sz : Nat) : Ud H sz (some (.ref id ep n)) (some (.t (.int k i))) = (idx i).bind fun j => Ps H sz id ep n j H[id]? := by
 simp only[Ud,Option.bind_some,intOf,Br]
 cases idx i with
 | none=>rfl
 | some j=>
   simp only[Option.bind_some,fW]
   generalize H[id]?=o
   rcases o with _ | (_ | ⟨sz',pin,ep',es⟩)
   · rfl
   · rfl
   · simp only[Ps]
     by_cases h:ep=ep'∧n=es.length
     · rw[if_pos h,if_pos h,Option.bind_some];split<;>rfl
     · rw[if_neg h,if_neg h];rfl
@[go_sem] theorem Ue (sz id ep n j sz' : Nat) (pin : Bool) (ep' : Nat) (es : List D) : Ps H sz id ep n j (some (.arr sz' pin ep' es)) =
 if ep=ep'∧n=es.length then(if j<n∧sz'=sz then some (.ap id ep n j 0,H)else none)else none:=(rfl)
def Yi(len sz:Nat)(agg:Bool)(x i:Option D):Option (D×aj):=x.bind fun a=>(i.bind intOf).bind fun n=>(idx n).bind fun j=>(Bu a j len sz agg).map fun d=>(d,H)
def Yj(len sz:Nat)(agg:Bool)(a:D)(j:Nat):Option (D×aj):=(Bu a j len sz agg).map fun d=>(d,H)
@[go_sem] theorem aa3 (x i : X) (len sz : Nat) (agg : Bool) : evO call get H (.ix x i len sz agg) = Yi H len sz agg (get x) (get i) := (rfl)
@[go_sem] theorem Yk (len sz : Nat) (agg : Bool) (a : D) (k : IntKind) (n : Int) : Yi H len sz agg (some a) (some (.t (.int k n))) = (idx n).bind (Yj H len sz agg a) := by
 simp only[Yi,Option.bind_some,intOf];cases idx n<;>rfl
def KM(n:Nat)(agg:Bool)(a:D):Option (D×aj):=(uK H a n agg).map fun d=>(d,H)
@[go_sem] theorem aa4 (x : X) (n : Nat) (agg : Bool) : evO call get H (.ld x n agg) = (get x).bind (KM H n agg) := (rfl)
def Lz(off n:Nat)(agg:Bool):Option Obj→Option (D×aj)
 | some (.box cs)=>ofC H agg (cut cs off n)
 | _=>none
@[go_sem] theorem Wu (off n : Nat) (agg : Bool) (cs : List D) : Lz H off n agg (some (.box cs)) = ofC H agg (cut cs off n) := (rfl)
@[go_sem] theorem Yl (id off n : Nat) (agg : Bool) : KM H n agg (.bp id off) = Lz H off n agg H[id]? := by
 simp only[KM,uK]
 generalize H[id]?=o
 rcases o with _ | (cs | _)
 · rfl
 · simp only[Lz,ofC];cases (cut cs off n).bind (fA agg)<;>rfl
 · rfl
@[go_sem] theorem Ym (cs : List T) (n : Nat) (agg : Bool) : KM H n agg (.ep cs) = ofC H agg (cut (cs.map .t) 0 n) := by
 simp only[KM,uK,ofC];cases (cut _ 0 n).bind (fA agg)<;>rfl
def Wv(off n:Nat)(agg:Bool)(e:D):Option (D×aj):=ofC H agg (cut e.cells off n)
@[go_sem] theorem Yn (off n : Nat) (agg : Bool) (e : D) : Wv H off n agg e = ofC H agg (cut e.cells off n) := (rfl)
def Pt(ep m i off n:Nat)(agg:Bool):Option Obj→Option (D×aj)
 | some (.arr _ _ ep' es)=>if ep=ep'∧m=es.length then es[i]?.bind (Wv H off n agg)else none
 | _=>none
@[go_sem] theorem Ww (ep m i off n : Nat) (agg : Bool) (sz : Nat) (pin : Bool) (ep' : Nat) (es : List D) :
 Pt H ep m i off n agg (some (.arr sz pin ep' es))=if ep=ep'∧m=es.length then es[i]?.bind (Wv H off n agg)else none:=(rfl)
@[go_sem] theorem Yo (id ep m i off n : Nat) (agg : Bool) : KM H n agg (.ap id ep m i off) = Pt H ep m i off n agg H[id]? := by
 simp only[KM,uK,fW]
 generalize H[id]?=o
 rcases o with _ | (_ | ⟨sz',pin,ep',es⟩)
 · rfl
 · rfl
 · simp only[Pt]
   by_cases h:ep=ep'∧m=es.length
   · rw[if_pos h,if_pos h,Option.bind_some]
     cases es[i]? with
     | none=>rfl
     | some e=>simp only[Option.bind_some,Wv,ofC];cases (cut e.cells off n).bind (fA agg)<;>rfl
   · rw[if_neg h,if_neg h];rfl
@[go_sem] theorem R7 (cs : List D) : (D.agg cs).cells = cs := (rfl)
@[go_sem] theorem Wx (x : T) : (D.t x).cells = x.cells.map .t := (rfl)
@[go_sem] theorem R8 (a b c : Nat) : (D.ref a b c).cells = [.ref a b c] := (rfl)
@[go_sem] theorem Uf (f : Nat) (cs : List D) : (D.fn f cs).cells = [.fn f cs] := (rfl)
@[go_sem] theorem R9 (cs : List T) : (T.agg cs).cells = cs := (rfl)
@[go_sem] theorem Sa (k : IntKind) (n : Int) : (T.int k n).cells = [.int k n] := (rfl)
@[go_sem] theorem Pu (b : Bool) : (T.bool b).cells = [.bool b] := (rfl)
@[go_sem] theorem Ug (es : List T) : (T.sl es).cells = [.sl es] := (rfl)
def fits(n:Nat)(v:D):Bool:=decide (v.cells.length=n)&&v.iK
section
variable (n : Nat)
@[go_sem] theorem fits_int (k : IntKind) (a : Int) : fits 1 (.t (.int k a)) = true := (rfl)
@[go_sem] theorem fits_bool (b : Bool) : fits 1 (.t (.bool b)) = true := (rfl)
@[go_sem] theorem Yp (es : List T) : fits 1 (.t (.sl es)) = true := (rfl)
@[go_sem] theorem Wy (a b c : Nat) : fits 1 (.ref a b c) = true := (rfl)
@[go_sem] theorem Yq (f : Nat) (cs : List D) : fits 1 (.fn f cs) = true := (rfl)
@[go_sem] theorem Wz (cs : List D) : fits n (.agg cs) = nH n cs := by rw [Bool.eq_iff_iff, eZ]; show (decide (cs.length = n) && true) = true ↔ _; simp
@[go_sem] theorem Uh (cs : List T) : fits n (.t (.agg cs)) = nH n cs := by rw [Bool.eq_iff_iff, eZ]; simp [fits, D.cells, T.cells, D.iK]
end
@[go_sem] theorem Pv {α : Type} (cs : List α) : bj cs 0 [] = some cs := by simp [bj]
@[go_sem] theorem Pw {α : Type} (c x : α) (cs xs : List α) : bj (c :: cs) 0 (x :: xs) = lg x (bj cs 0 xs) := by
 simp only[bj,lg];by_cases h:xs.length≤cs.length<;>simp[h]
@[go_sem] theorem Px {α : Type} (c : α) (cs : List α) (off : Nat) (xs : List α) : bj (c :: cs) (off + 1) xs = lg c (bj cs off xs) := by
 simp only[bj,lg,List.length_cons]
 by_cases h:off+xs.length≤cs.length
 · rw[if_pos h,if_pos (by omega)];simp[show off+1+xs.length=(off+xs.length)+1 by omega]
 · rw[if_neg h,if_neg (by omega)];rfl
def Py(n:Nat)(live:List (Nat×Nat))(a x:Option D):Option (D×aj):=a.bind fun p=>x.bind fun d=>(vD H p d n).bind fun H'=>(oS H' p live).map fun H''=>(.tup [],H'')
@[go_sem] theorem aa5 (a x : X) (n : Nat) (live : List (Nat × Nat)) : evO call get H (.st a x n live) = Py H n live (get a) (get x) := (rfl)
def zp(H:aj)(id:Nat)(live:List (Nat×Nat)):Option (D×aj):=(oS H (.bp id 0) live).map fun H'=>(.tup [],H')
def Fl(id:Nat)(live:List (Nat×Nat))(cs:List D):Option (D×aj):=zp (H.set id (.box cs)) id live
@[go_sem] theorem Ui (id : Nat) (live : List (Nat × Nat)) (cs : List D) : Fl H id live cs = zp (H.set id (.box cs)) id live := (rfl)
@[go_sem] theorem Sb (H : aj) (id : Nat) : zp H id [] = some (.tup [], H) := (rfl)
def Pz(id off:Nat)(live:List (Nat×Nat))(xs:List D):Option Obj→Option (D×aj)
 | some (.box cs)=>(bj cs off xs).bind (Fl H id live)
 | _=>none
@[go_sem] theorem WA (id off : Nat) (live : List (Nat × Nat)) (xs cs : List D) : Pz H id off live xs (some (.box cs)) = (bj cs off xs).bind (Fl H id live) := (rfl)
@[go_sem] theorem Yr (n id off : Nat) (live : List (Nat × Nat)) (v : D) : Py H n live (some (.bp id off)) (some v) = if fits n v = true then Pz H id off live v.cells H[id]? else none := by
 by_cases h:fits n v=true
 case neg=>
  rw[if_neg h]
  simp only[fits,Bool.and_eq_true,decide_eq_true_eq]at h
  simp only[Py,Option.bind_some,vD,if_neg h];rfl
 rw[if_pos h]
 simp only[fits,Bool.and_eq_true,decide_eq_true_eq]at h
 simp only[Py,Option.bind_some,vD,h.1,h.2,and_self,if_true]
 generalize H[id]?=o
 rcases o with _ | (cs | _)
 · rfl
 · simp only[Pz]
   cases bj cs off v.cells with
   | none=>rfl
   | some cs'=>simp only[Option.map_some,Option.bind_some,Fl,zp,oS]
 · rfl
def Gz(id sz ep i:Nat)(es:List D)(agg:Bool)(cs:List D):Option (D×aj):=(fA agg cs).bind fun e=>if e.iK then some (.tup [],H.set id (.arr sz false ep (es.set i e)))else none
def WB(id sz ep i off:Nat)(es xs:List D)(e:D):Option (D×aj):=(bj e.cells off xs).bind (Gz H id sz ep i es e.isAgg)
@[go_sem] theorem Ys (id sz ep i off : Nat) (es xs : List D) (e : D) : WB H id sz ep i off es xs e = (bj e.cells off xs).bind (Gz H id sz ep i es e.isAgg) := (rfl)
@[go_sem] theorem Sc (cs : List T) : (D.t (.agg cs)).isAgg = true := (rfl)
@[go_sem] theorem Uj (k : IntKind) (n : Int) : (D.t (.int k n)).isAgg = false := (rfl)
@[go_sem] theorem Yt (id sz ep i : Nat) (es : List D) (x : T) : Gz H id sz ep i es false [.t x] = some (.tup [], H.set id (.arr sz false ep (es.set i (.t x)))) := (rfl)
theorem DO(cs:List D):(r8 cs).iK=true:=by unfold r8;cases qa cs<;>rfl
@[go_sem] theorem Yu (id sz ep i : Nat) (es cs : List D) : Gz H id sz ep i es true cs = some (.tup [], H.set id (.arr sz false ep (es.set i (r8 cs)))) := by
 simp[Gz,fA,DO]
def PA(id ep m i off:Nat)(xs:List D):Option Obj→Option (D×aj)
 | some (.arr sz pin ep' es)=>if ep=ep'∧m=es.length then(if pin then none else es[i]?.bind (WB H id sz ep i off es xs))else none
 | _=>none
@[go_sem] theorem WC (id ep m i off : Nat) (xs : List D) (sz : Nat) (pin : Bool) (ep' : Nat) (es : List D) :
 PA H id ep m i off xs (some (.arr sz pin ep' es))=if ep=ep'∧m=es.length then(if pin=true then none else es[i]?.bind (WB H id sz ep i off es xs))else none:=(rfl)
@[go_sem] theorem Yv (n id ep m i off : Nat) (v : D) : Py H n [] (some (.ap id ep m i off)) (some v) = if fits n v = true then PA H id ep m i off v.cells H[id]? else none := by
 by_cases h:fits n v=true
 case neg=>
  rw[if_neg h]
  simp only[fits,Bool.and_eq_true,decide_eq_true_eq]at h
  simp only[Py,Option.bind_some,vD,if_neg h];rfl
 rw[if_pos h]
 simp only[fits,Bool.and_eq_true,decide_eq_true_eq]at h
 simp only[Py,Option.bind_some,vD,h.1,h.2,and_self,if_true,fW]
 generalize H[id]?=o
 rcases o with _ | (_ | ⟨sz',pin,ep',es⟩)
 · rfl
 · rfl
 · simp only[PA]
   by_cases h:ep=ep'∧m=es.length
   · rw[if_pos h,if_pos h,Option.bind_some]
     cases pin with
     | true=>rfl
     | false=>
       simp only[Bool.false_eq_true,if_false]
       cases es[i]? with
       | none=>rfl
       | some e=>
         simp only[Option.bind_some,WB]
         cases bj e.cells off v.cells with
         | none=>rfl
         | some cs'=>
           simp only[Option.bind_some,Gz]
           cases fA e.isAgg cs' with
           | none=>rfl
           | some e'=>
             simp only[Option.bind_some]
             by_cases h3:e'.iK=true
             · rw[if_pos h3,if_pos h3,h.1];rfl
             · rw[if_neg h3,if_neg h3];rfl
   · rw[if_neg h,if_neg h];rfl
def PB(zero:List D)(ps:List (Nat×Nat×D)):Option (D×aj):=(s7 zero ps).map fun cs=>(r8 cs,H)
@[go_sem] theorem aa6 (zero : List D) (parts : List (Nat × Nat × X)) : evO call get H (.bd zero parts) = (lX get parts).bind (PB H zero) := (rfl)
@[go_sem] theorem Np : lX get [] = some [] := (rfl)
def Uk(off n:Nat)(r:List (Nat×Nat×X))(d:D):Option (List (Nat×Nat×D)):=lg (off,n,d) (lX get r)
@[go_sem] theorem WD (off n : Nat) (r : List (Nat × Nat × X)) (d : D) : Uk get off n r d = lg (off, n, d) (lX get r) := (rfl)
@[go_sem] theorem LA (off n : Nat) (x : X) (r : List (Nat × Nat × X)) : lX get ((off, n, x) :: r) = (get x).bind (Uk get off n r) := (rfl)
@[go_sem] theorem WE (zero : List D) : PB H zero [] = some (r8 zero, H) := (rfl)
def bdC(r:List (Nat×Nat×D))(z:List D):Option (D×aj):=PB H z r
@[go_sem] theorem aab (r : List (Nat × Nat × D)) (z : List D) : bdC H r z = PB H z r := (rfl)
@[go_sem] theorem Ul (zero : List D) (off n : Nat) (x : D) (r : List (Nat × Nat × D)) : PB H zero ((off, n, x) :: r) = if fits n x = true then (bj zero off x.cells).bind (bdC H r) else none := by
 by_cases h:fits n x=true
 case neg=>
  rw[if_neg h]
  have h2:(x.iK&&x.cells.length==n)=false:=by rw[← Bool.not_eq_true,Bool.and_comm];simpa [fits]using h
  simp only[PB,s7,h2];rfl
 rw[if_pos h]
 simp only[fits,Bool.and_eq_true,decide_eq_true_eq]at h
 simp only[PB,s7,h.1,h.2,beq_self_eq_true,Bool.and_self,if_true]
 cases bj zero off x.cells<;>rfl
def eL(n:Nat):List T→Bool
 | []=>true
 | x::r=>nH n x.cells&&eL n r
@[go_sem] theorem Nq (n : Nat) : eL n [] = true := (rfl)
@[go_sem] theorem tO (n : Nat) (x : T) (r : List T) : eL n (x :: r) = (nH n x.cells && eL n r) := (rfl)
def IL(sz:Nat)(ds:List D):Option (D×aj):=if ds.all (fun d=>d.cells.length==sz)then(bQ (frz H depth) ds).map fun ts=>(.t (.sl ts),pins H (ds.flatMap (fq H depth)))else none
@[go_sem] theorem aa7 (xs : List X) (sz : Nat) : evO call get H (.bs xs sz) = (bQ get xs).bind (IL H sz) := (rfl)
theorem Um(sz:Nat)(ds:List D)(ts:List T)(h:qa ds=some ts)(hc:eL sz ts=true):IL H sz ds=some (.t (.sl ts),H):=by
 have key:∀(ds:List D) (ts:List T),qa ds=some ts→eL sz ts=true→ds.all (fun d=>d.cells.length==sz)=true∧bQ (frz H depth) ds=some ts∧ds.flatMap (fq H depth)=[]:=by
  intro ds
  induction ds with
  | nil=>intro ts h hc;simp[qa]at h;subst h;simp[bQ]
  | cons d ds ih=>
    intro ts h hc
    cases d with
    | t x=>
      simp only[qa,Option.map_eq_some_iff]at h
      obtain⟨r,hr,rfl⟩:=h
      simp only[eL,Bool.and_eq_true,eZ]at hc
      obtain⟨h1,h2,h3⟩:=ih r hr hc.2
      refine⟨by rw[List.all_cons,h1,Bool.and_true];simp[D.cells,hc.1],by simp[bQ,frz,h2],by rw[List.flatMap_cons,h3];simp[fq]⟩
    | _=>simp[qa]at h
 obtain⟨h1,h2,h3⟩:=key ds ts h hc
 simp[IL,h1,h2,h3,pins]
theorem Ao(sz:Nat)(ts:List T):IL H sz (ts.map D.t)=if eL sz ts=true then some (.t (.sl ts),H)else none:=by
 by_cases h:eL sz ts=true
 · rw[if_pos h];exact Um H sz _ ts (Lx ts) h
 · rw[if_neg h]
   have:(ts.map D.t).all (fun d=>d.cells.length==sz)=false:=by
    rw[← Bool.not_eq_true];intro ha;apply h
    clear h
    induction ts with
    | nil=>rfl
    | cons a r ih=>
      simp only[List.map_cons,List.all_cons,Bool.and_eq_true,beq_iff_eq]at ha
      simp only[eL,Bool.and_eq_true,eZ]
      exact⟨by simpa [D.cells]using ha.1,ih ha.2⟩
   simp only[IL,this];rfl
@[go_sem] theorem aac (sz : Nat) (a : T) : IL H sz [.t a] = if eL sz [a] = true then some (.t (.sl [a]), H) else none := Ao H sz [a]
@[go_sem] theorem aad (sz : Nat) (a b : T) : IL H sz [.t a, .t b] = if eL sz [a, b] = true then some (.t (.sl [a, b]), H) else none := Ao H sz [a, b]
@[go_sem] theorem aae (sz : Nat) (a b c : T) : IL H sz [.t a, .t b, .t c] = if eL sz [a, b, c] = true then some (.t (.sl [a, b, c]), H) else none := Ao H sz [a, b, c]
@[go_sem] theorem aaf (sz : Nat) (a b c d : T) : IL H sz [.t a, .t b, .t c, .t d] = if eL sz [a, b, c, d] = true then some (.t (.sl [a, b, c, d]), H) else none := Ao H sz [a, b, c, d]
def WG(a:D):Option (D×aj):=(VN a).map fun(n:Nat)=>(D.t (.int .i64 (n:Int)),H)
@[go_sem] theorem aa8 (x : X) : evO call get H (.ln x) = (get x).bind (WG H) := (rfl)
@[go_sem] theorem Yw (es : List T) : WG H (.t (.sl es)) = some (I es.length, H) := (rfl)
@[go_sem] theorem WH : WG H .nil = some (I 0, H) := (rfl)
@[go_sem] theorem WI (id ep n : Nat) : WG H (.ref id ep n) = some (I n, H) := (rfl)
def Yx(ds:List D):Option (D×aj):=(VO ds).map fun d=>(d,H)
def Yy(ds:List D):Option (D×aj):=(VP ds).map fun d=>(d,H)
@[go_sem] theorem aa9 (xs : List X) : evO call get H (.mn xs) = (bQ get xs).bind (Yx H) := (rfl)
@[go_sem] theorem aba (xs : List X) : evO call get H (.mx xs) = (bQ get xs).bind (Yy H) := (rfl)
@[go_sem] theorem aag (k : IntKind) (a b : Int) : Yx H [.t (.int k a), .t (.int k b)] = some (.t (.int k (min a b)), H) := by
 simp only[Yx,VO,Bt,if_true,Option.map_some];congr 4;omega
@[go_sem] theorem aah (k : IntKind) (a b : Int) : Yy H [.t (.int k a), .t (.int k b)] = some (.t (.int k (max a b)), H) := by
 simp only[Yy,VP,Bt,if_true,Option.map_some];congr 4;omega
def IM(sz:Nat)(x:Option D)(lo hi:Option (Option Int)):Option (D×aj):=x.bind fun a=>lo.bind fun l=>hi.bind fun h=>(qi H a l h sz).map fun d=>(d,H)
@[go_sem] theorem abb (x : X) (lo hi : Option X) (sz : Nat) : evO call get H (.sc x lo hi sz) = IM H sz (get x) (Gi get lo) (Gi get hi) := (rfl)
def Un:D→Option (Option Int)
 | .t (.int _ n)=>some (some n)
 | _=>none
@[go_sem] theorem WJ (k : IntKind) (n : Int) : Un (.t (.int k n)) = some (some n) := (rfl)
@[go_sem] theorem Uo : Gi get none = some none := (rfl)
@[go_sem] theorem Up (x : X) : Gi get (some x) = (get x).bind Un := by
 simp only[Gi];cases get x with
 | none=>rfl
 | some d=>cases d with
   | t y=>cases y<;>rfl
   | _=>rfl
def Yz(i:Nat)(a:D):Option (D×aj):=(Tn i a).map fun d=>(d,H)
@[go_sem] theorem abc (x : X) (i : Nat) : evO call get H (.ex x i) = (get x).bind (Yz H i) := (rfl)
def exO:Option D→Option (D×aj)
 | some d=>some (d,H)
 | none=>none
@[go_sem] theorem WK (d : D) : exO H (some d) = some (d, H) := (rfl)
@[go_sem] theorem WL (i : Nat) (ds : List D) : Yz H i (.tup ds) = exO H ds[i]? := by simp only [Yz, Tn, exO]; cases ds[i]? <;> rfl
def YA(f:Nat)(ds:List D):Option (D×aj):=some (.fn f ds,H)
@[go_sem] theorem YB (f : Nat) (ds : List D) : YA H f ds = some (.fn f ds, H) := (rfl)
@[go_sem] theorem abd (f : Nat) (caps : List X) : evO call get H (.mf f caps) = (bQ get caps).bind (YA H f) := by simp only [evO, YA]; cases bQ get caps <;> rfl
@[go_sem] theorem abe (sz : Nat) : evO call get H (.nw sz) = some (.ref H.length 0 0, H ++ [.arr sz false 0 []]) := (rfl)
def alP(p:List D×aj):Option (D×aj):=some (.bp H.length 0,H++ .box p.1::p.2)
@[go_sem] theorem aai (cs : List D) (os : aj) : alP H (cs, os) = some (.bp H.length 0, H ++ .box cs :: os) := (rfl)
@[go_sem] theorem abf (zero : List D) (live : List (Nat × Nat)) : evO call get H (.al zero live) = alP H (bO (H.length + 1) zero live) := (rfl)
@[go_sem] theorem PC (base : Nat) (cs : List D) : bO base cs [] = (cs, []) := (rfl)
def YC(n:Nat)(a:D):Option (D×aj):=if a.cells.length=n∧a.iK then some (.bp H.length 0,H++[.box a.cells])else none
@[go_sem] theorem abg (x : X) (n : Nat) : evO call get H (.bx x n) = (get x).bind (YC H n) := (rfl)
@[go_sem] theorem YD (n : Nat) (a : D) : YC H n a = if fits n a = true then some (.bp H.length 0, H ++ [.box a.cells]) else none := by
 simp[YC,fits]
def WM(sz:Nat)(zero:D)(n:Option Nat):Option (D×aj):=n.bind fun m=>if m≤lim then some (.ref H.length 0 m,H++[.arr sz false 0 (List.replicate m zero)])else none
def mkN(sz:Nat)(zero:D):D→Option (D×aj)
 | .t (.int _ n)=>WM H sz zero (idx n)
 | _=>none
@[go_sem] theorem YE (sz : Nat) (zero : D) (k : IntKind) (n : Int) : mkN H sz zero (.t (.int k n)) = WM H sz zero (idx n) := (rfl)
@[go_sem] theorem abh (len : X) (zero : D) (sz : Nat) : evO call get H (.mk len zero sz) = (get len).bind (mkN H sz zero) := by
 simp only[evO];cases get len with
 | none=>rfl
 | some d=>cases d with
   | t y=>cases y<;>rfl
   | _=>rfl
@[go_sem] theorem YF (sz : Nat) (zero : D) (m : Nat) (h : m ≤ 4294967296) : WM H sz zero (some m) = some (.ref H.length 0 m, H ++ [.arr sz false 0 (List.replicate m zero)]) := by
 simp[WM,lim,h]
def qp(sz:Nat)(fz:Bool)(x y:Option D):Option (D×aj):=x.bind fun a=>y.bind fun b=>nF H a b fz sz
@[go_sem] theorem aaj (x y : X) (fz : Bool) (sz : Nat) : evO call get H (.app x y fz sz) = qp H sz fz (get x) (get y) := (rfl)
def vR(sz id ep n:Nat)(ys:List D):Option Obj→Option (D×aj)
 | some (.arr sz' pin ep' es)=>if ep=ep'∧n=es.length∧sz'=sz∧n+ys.length≤lim then some (.ref id ep (n+ys.length),H.set id (.arr sz pin ep (es++ys)))else none
 | _=>none
@[go_sem] theorem Uq (sz id ep n : Nat) (ys : List D) (pin : Bool) (es : List D) :
 vR H sz id ep n ys (some (.arr sz pin ep es))=if n=es.length then(if n+ys.length≤4294967296 then some (.ref id ep (n+ys.length),H.set id (.arr sz pin ep (es++ys)))else none)else none:=by
 simp only[vR,lim]
 by_cases h1:n=es.length
 · rw[if_pos h1]
   by_cases h2:n+ys.length≤4294967296
   · rw[if_pos h2,if_pos ⟨trivial,h1,trivial,h2⟩]
   · rw[if_neg h2,if_neg fun h=>h2 h.2.2.2]
 · rw[if_neg h1,if_neg fun h=>h1 h.2.1]
theorem xb(ts:List T):bQ (fun d=>(frz H depth d).map D.t) (ts.map D.t)=some (ts.map D.t):=by
 induction ts with
 | nil=>rfl
 | cons t ts ih=>simp[bQ,frz,ih]
theorem IN(ts:List T):(ts.map D.t).flatMap (fq H depth)=[]:=by
 induction ts with
 | nil=>rfl
 | cons t ts ih=>rw[List.map_cons,List.flatMap_cons,ih];simp[fq,depth]
theorem B3(sz:Nat)(fz:Bool)(x:D)(ts:List T)(h:cG sz (ts.map D.t)=false):qp H sz fz (some x) (some (.t (.sl ts)))=none:=by
 have e1:(if fz then bQ (fun d=>(frz H depth d).map D.t) (ts.map D.t)else some (ts.map D.t))=some (ts.map D.t):=by
  cases fz<;>simp[xb]
 simp only[qp,Option.bind_some,nF,elems,e1,h,Bool.false_eq_true,if_false]
def sA(sz:Nat)(ts:List T):Bool:=cG sz (ts.map D.t)
theorem IP(sz id ep n:Nat)(fz:Bool)(ts:List T)(h:sA sz ts=true):qp H sz fz (some (.ref id ep n)) (some (.t (.sl ts)))=vR H sz id ep n (ts.map .t) H[id]?:=by
 have e1:(if fz then bQ (fun d=>(frz H depth d).map D.t) (ts.map D.t)else some (ts.map D.t))=some (ts.map D.t):=by
  cases fz<;>simp[xb]
 have e2:(if fz then pins H ((ts.map D.t).flatMap (fq H depth))else H)=H:=by
  cases fz
  · rfl
  · simp only[if_true];rw[IN];rfl
 unfold sA at h
 simp only[qp,Option.bind_some,nF,elems,e1,h,if_true,e2,fW]
 generalize H[id]?=o
 rcases o with _ | (_ | ⟨sz',pin,ep',es⟩)
 · rfl
 · rfl
 · simp only[vR]
   by_cases h1:ep=ep'∧n=es.length
   · rw[if_pos h1,Option.bind_some]
     by_cases h2:sz'=sz∧n+(ts.map D.t).length≤lim
     · rw[if_pos h2,if_pos ⟨h1.1,h1.2,h2⟩]
     · rw[if_neg h2,if_neg fun h=>h2 h.2.2]
   · rw[if_neg h1,if_neg fun h=>h1 ⟨h.1,h.2.1⟩];rfl
@[go_sem] theorem Ur (sz id ep n : Nat) (fz : Bool) (ts : List T) : qp H sz fz (some (.ref id ep n)) (some (.t (.sl ts))) = if sA sz ts = true then vR H sz id ep n (ts.map .t) H[id]? else none := by
 by_cases h:sA sz ts=true
 · rw[if_pos h,IP H sz id ep n fz ts h]
 · rw[if_neg h];exact B3 H sz fz _ ts (by simpa [sA]using h)
@[go_sem] theorem Us (sz : Nat) (fz : Bool) (ts : List T) : qp H sz fz (some .nil) (some (.t (.sl ts))) =
 if sA sz ts=true then(if ts.length≤4294967296 then some (.ref H.length 0 ts.length,H++[.arr sz false 0 (ts.map .t)])else none)else none:=by
 by_cases h:sA sz ts=true
 · rw[if_pos h]
   have e1:(if fz then bQ (fun d=>(frz H depth d).map D.t) (ts.map D.t)else some (ts.map D.t))=some (ts.map D.t):=by
    cases fz<;>simp[xb]
   have e2:(if fz then pins H ((ts.map D.t).flatMap (fq H depth))else H)=H:=by
    cases fz
    · rfl
    · simp only[if_true];rw[IN];rfl
   unfold sA at h
   simp only[qp,Option.bind_some,nF,elems,e1,h,if_true,e2,lim,List.length_map]
 · rw[if_neg h];exact B3 H sz fz _ ts (by simpa [sA]using h)
@[go_sem] theorem Ut (sz : Nat) : sA sz [] = true := (rfl)
@[go_sem] theorem Sd (sz : Nat) (x : T) (r : List T) : sA sz (x :: r) = nH sz x.cells := by
 rw[Bool.eq_iff_iff,eZ];simp[sA,cG,D.cells]
@[go_sem] theorem Uu (l : List Int) (k : IntKind) : sA 1 (l.map (.int k)) = true := by cases l <;> rfl
def GA(call:aS)(f raw:Nat)(keep:List Nat)(ds:List D):Option (D×aj):=s8 call H f raw keep ds
@[go_sem] theorem abi (f raw : Nat) (keep : List Nat) (xs : List X) : evO call get H (.ca f raw keep xs) = (bQ get xs).bind (GA H call f raw keep) := (rfl)
def aak(call:aS)(raw:Nat)(keep:List Nat)(x:Option D)(xs:Option (List D)):Option (D×aj):=x.bind fun
 | .fn f caps=>xs.bind fun ds=>s8 call H f raw keep (ds++caps)
 | _=>none
@[go_sem] theorem abj (x : X) (raw : Nat) (keep : List Nat) (xs : List X) : evO call get H (.cw x raw keep xs) = aak H call raw keep (get x) (bQ get xs) := (rfl)
@[go_sem] theorem YG (raw : Nat) (keep : List Nat) (f : Nat) (caps ds : List D) : aak H call raw keep (some (.fn f caps)) (some ds) = GA H call f raw keep (ds ++ caps) := (rfl)
def qq(H:aj):List D→Option (List T)
 | []=>some []
 | .t x::r=>lg x (qq H r)
 | .nil::r=>lg (.sl []) (qq H r)
 | _::_=>none
@[go_sem] theorem YH : qq H [] = some [] := (rfl)
@[go_sem] theorem YI (x : T) (r : List D) : qq H (.t x :: r) = lg x (qq H r) := (rfl)
@[go_sem] theorem Uv (cs : List D) (r : List D) : qq H (.agg cs :: r) = none := (rfl)
@[go_sem] theorem WN (a b : Nat) (r : List D) : qq H (.bp a b :: r) = none := (rfl)
@[go_sem] theorem Uw (a b c : Nat) (r : List D) : qq H (.ref a b c :: r) = none := (rfl)
@[go_sem] theorem WO (f : Nat) (cs : List D) (r : List D) : qq H (.fn f cs :: r) = none := (rfl)
end
theorem sB(H:aj):∀ {ds:List D} {ts:List T},qq H ds=some ts→∀i,oR H [] i ds=some (ts.map .t)∧cr H [] i ds=[]
 | [],ts,h,i=>by simp[qq]at h;subst h;exact⟨rfl,rfl⟩
 | d::r,ts,h,i=>by
   cases d with
   | t x=>
     simp only[qq,lg,Option.map_eq_some_iff]at h
     obtain⟨l,hl,rfl⟩:=h
     obtain⟨h1,h2⟩:=sB H hl (i+1)
     exact⟨by simp[oR,uI,h1],by simp[cr,fq,depth,h2]⟩
   | nil=>
     simp only[qq,lg,Option.map_eq_some_iff]at h
     obtain⟨l,hl,rfl⟩:=h
     obtain⟨h1,h2⟩:=sB H hl (i+1)
     exact⟨by simp[oR,uI,h1],by simp[cr,fq,depth,h2]⟩
   | _=>simp[qq]at h
theorem IQ(ts:List T)(n:Nat):(ts.map D.t).flatMap (ids n)=[]:=by
 induction ts with
 | nil=>rfl
 | cons t ts ih=>rw[List.map_cons,List.flatMap_cons,ih];simp[ids]
theorem IS(f:Nat→Option Nat)(ts:List T):bQ (ren f depth) (ts.map .t)=some (ts.map .t):=by
 induction ts with
 | nil=>rfl
 | cons t ts ih=>simp[bQ,ren,depth]at ih ⊢;exact ih
def wI:D→Bool
 | .t _=>true
 | .tup ds=>ds.all fun | .t _=>true | _=>false
 | _=>false
theorem Aq{f:Nat→Option Nat}{d:D}(h:wI d=true):ren f depth d=some d:=by
 cases d with
 | t x=>rfl
 | tup ds=>
   simp only[wI]at h
   have:bQ (ren f 7) ds=some ds:=by
    induction ds with
    | nil=>rfl
    | cons d ds ih=>
      simp only[List.all_cons,Bool.and_eq_true]at h
      cases d with
      | t x=>simp[bQ,ren,ih h.2]
      | _=>simp at h
   simp[ren,depth,this]
 | _=>simp[wI]at h
def B4(H:aj)(p:D×aj):Option (D×aj):=if wI p.1&&p.2.isEmpty then some (p.1,H)else
 (ren (eh [] H.length) depth p.1).bind fun r'=>(bQ (gw (eh [] H.length)) p.2).map fun os=>(r',H++os)
@[go_sem] theorem YJ (H : aj) (x : T) : B4 H (.t x, []) = some (.t x, H) := (rfl)
@[go_sem] theorem YK (H : aj) (x y : T) : B4 H (.tup [.t x, .t y], []) = some (.tup [.t x, .t y], H) := (rfl)
theorem IT(H:aj)(call:aS)(f raw:Nat)(ds:List D)(ts:List T)(h:qq H ds=some ts):
 GA H call f raw [] ds=(call raw f (ts.map .t) []).bind (B4 H):=by
 obtain⟨h1,h2⟩:=sB H h 0
 simp only[GA,s8,h1,Option.bind_some,IQ,eQ,reach,oq,List.flatMap_nil,h2,pins,IS,pick,bQ]
 cases hc:call raw f (ts.map .t) []with
 | none=>rfl
 | some p=>
   obtain⟨d,os⟩:=p
   simp only[Option.bind_some,List.isEmpty_nil,Bool.true_and,B4]
   by_cases h3:os=[]
   · subst h3
     simp only[List.isEmpty_nil,Bool.true_and,Bool.and_true,bQ,Option.map_some,List.length_nil,List.take_nil,dk,List.drop_nil,List.append_nil]
     by_cases h4:wI d=true
     · rw[if_pos h4]
       split
       · rfl
       · rw[Aq h4];rfl
     · rw[if_neg h4]
       split
       · rename_i h5
         exfalso
         apply h4
         cases d with
         | t x=>rfl
         | tup ds=>
           simp only[qh,List.all_eq_true]at h5
           simp only[wI,List.all_eq_true]
           intro y hy
           have:=h5 y hy
           cases y<;>simp_all [mr]
         | _=>simp[qh]at h5
       · rfl
   · have:os.isEmpty=false:=by cases os<;>simp_all
     simp only[this,Bool.false_and,Bool.and_false,if_false,Bool.false_eq_true,List.length_nil,List.take_zero,dk,List.drop_zero]
@[go_sem] theorem Se (st : St) : iw st [] = some [] := (rfl)
def aal(st:St)(r:List (Nat×Option (Nat×Bool)))(d:D):Option (List D):=lg d (iw st r)
@[go_sem] theorem YL (vs : List D) (H : aj) (r : List (Nat × Option (Nat × Bool))) (d : D) : aal ⟨vs, H⟩ r d = lg d (iw ⟨vs, H⟩ r) := (rfl)
@[go_sem] theorem Sf (vs : List D) (H : aj) (j : Nat) (r : List (Nat × Option (Nat × Bool))) : iw ⟨vs, H⟩ ((j, none) :: r) = vs[j]?.bind (aal ⟨vs, H⟩ r) := (rfl)
def YM(st:St)(r:List (Nat×Option (Nat×Bool)))(p:D×aj):Option (List D):=lg p.1 (iw st r)
@[go_sem] theorem YN (vs : List D) (H : aj) (r : List (Nat × Option (Nat × Bool))) (d : D) (H' : aj) : YM ⟨vs, H⟩ r (d, H') = lg d (iw ⟨vs, H⟩ r) := (rfl)
def YO(st:St)(n:Nat)(agg:Bool)(r:List (Nat×Option (Nat×Bool)))(p:D):Option (List D):=(KM st.H n agg p).bind (YM st r)
@[go_sem] theorem YP (vs : List D) (H : aj) (n : Nat) (agg : Bool) (r : List (Nat × Option (Nat × Bool))) (p : D) : YO ⟨vs, H⟩ n agg r p = (KM H n agg p).bind (YM ⟨vs, H⟩ r) := (rfl)
@[go_sem] theorem PD (vs : List D) (H : aj) (j n : Nat) (agg : Bool) (r : List (Nat × Option (Nat × Bool))) : iw ⟨vs, H⟩ ((j, some (n, agg)) :: r) = vs[j]?.bind (YO ⟨vs, H⟩ n agg r) := by
 simp only[iw]
 cases vs[j]? with
 | none=>rfl
 | some p=>
   simp only[Option.bind_some,YO,KM]
   cases uK H p n agg<;>rfl
@[go_sem] theorem YQ (H : aj) (n : Nat) (x : T) : frz H n (.t x) = some x := by cases n <;> rfl
@[go_sem] theorem YR (H : aj) (n : Nat) : frz H n .nil = some (.sl []) := by cases n <;> rfl
@[go_sem] theorem YS (H : aj) (n : Nat) (cs : List D) : frz H (n + 1) (.agg cs) = (bQ (frz H n) cs).map .agg := (rfl)
@[go_sem] theorem Sg (H : aj) (n : Nat) (ts : List T) : bQ (frz H n) (ts.map .t) = some ts := by
 induction ts with
 | nil=>rfl
 | cons t ts ih=>simp[bQ,YQ,ih]
def frR(H:aj)(n ep m:Nat):Option Obj→Option T
 | some (.arr _ _ ep' es)=>if ep=ep'∧m=es.length then(bQ (frz H n) es).map .sl else none
 | _=>none
@[go_sem] theorem YT (H : aj) (n id ep m : Nat) : frz H (n + 1) (.ref id ep m) = frR H n ep m H[id]? := by
 simp only[frz,fW]
 generalize H[id]?=o
 rcases o with _ | (_ | ⟨sz',pin,ep',es⟩)
 · rfl
 · rfl
 · simp only[frR]
   by_cases h:ep=ep'∧m=es.length
   · rw[if_pos h,if_pos h];rfl
   · rw[if_neg h,if_neg h];rfl
@[go_sem] theorem YU (H : aj) (n ep m sz : Nat) (pin : Bool) (es : List D) : frR H n ep m (some (.arr sz pin ep es)) = if m = es.length then (bQ (frz H n) es).map .sl else none := by simp [frR]
@[go_sem] theorem Ux (H : aj) (x : T) : uI H (.t x) = some (.t x) := (rfl)
@[go_sem] theorem WQ (H : aj) (cs : List D) : uI H (.agg cs) = (frz H 8 (.agg cs)).map .t := (rfl)
@[go_sem] theorem WR (H : aj) (id ep n : Nat) : uI H (.ref id ep n) = (frz H 8 (.ref id ep n)).map .t := (rfl)
@[go_sem] theorem PE (H : aj) (id off : Nat) : uI H (.bp id off) = some (.bp id off) := (rfl)
@[go_sem] theorem YV (H : aj) (f : Nat) (cs : List D) : uI H (.fn f cs) = some (.fn f cs) := (rfl)
def ltB:Nat→Nat→Bool
 | _,0=>false
 | 0,_+1=>true
 | m+1,n+1=>ltB m n
@[go_sem] theorem abk (m : Nat) : ltB m 0 = false := by cases m <;> rfl
@[go_sem] theorem aam (n : Nat) : ltB 0 (n + 1) = true := (rfl)
@[go_sem] theorem aan (m n : Nat) : ltB (m + 1) (n + 1) = ltB m n := (rfl)
theorem sC:∀ {m n:Nat},ltB m n=decide (m<n)
 | m,0=>by cases m<;>simp[ltB]
 | 0,n+1=>by simp[ltB]
 | m+1,n+1=>by simp[ltB,sC (m:=m) (n:=n)]
def eqB:Nat→Nat→Bool
 | 0,0=>true
 | m+1,n+1=>eqB m n
 | _,_=>false
@[go_sem] theorem aao : eqB 0 0 = true := (rfl)
@[go_sem] theorem aap (n : Nat) : eqB 0 (n + 1) = false := (rfl)
@[go_sem] theorem aaq (n : Nat) : eqB (n + 1) 0 = false := (rfl)
@[go_sem] theorem aar (m n : Nat) : eqB (m + 1) (n + 1) = eqB m n := (rfl)
theorem DP:∀ {m n:Nat},eqB m n=decide (m=n)
 | 0,0=>rfl
 | 0,n+1=>rfl
 | m+1,0=>rfl
 | m+1,n+1=>by simp[eqB,DP (m:=m) (n:=n)]
section
variable (k n : Nat)
@[go_sem] theorem YW (x : T) : old k n (.t x) = true := by cases n <;> rfl
@[go_sem] theorem YX : old k n .nil = true := by cases n <;> rfl
@[go_sem] theorem YY : old k n .und = true := by cases n <;> rfl
@[go_sem] theorem Uy (id off : Nat) : old k n (.bp id off) = ltB id k := by cases n <;> simp [old, sC]
@[go_sem] theorem YZ (id ep m : Nat) : old k n (.ref id ep m) = ltB id k := by cases n <;> simp [old, sC]
def fU(n:Nat)(cs:List D):Bool:=cs.all (old k n)
@[go_sem] theorem Si : fU k n [] = true := (rfl)
@[go_sem] theorem DQ (d : D) (r : List D) : fU k n (d :: r) = (old k n d && fU k n r) := (rfl)
@[go_sem] theorem LB (ts : List T) : fU k n (ts.map .t) = true := by
 induction ts with
 | nil=>rfl
 | cons t ts ih=>rw[List.map_cons,DQ,YW,ih];rfl
@[go_sem] theorem Sj (a b : List D) : fU k n (a ++ b) = (fU k n a && fU k n b) := by simp [fU]
@[go_sem] theorem Y0 (cs : List D) : old k (n + 1) (.agg cs) = fU k n cs := (rfl)
@[go_sem] theorem aas (f : Nat) (cs : List D) : old k (n + 1) (.fn f cs) = fU k n cs := (rfl)
end
def fB(k:Nat):aj→Bool
 | []=>true
 | .box cs::r=>fU k 8 cs&&fB k r
 | .arr _ _ _ es::r=>fU k 8 es&&fB k r
@[go_sem] theorem PF (k : Nat) : fB k [] = true := (rfl)
@[go_sem] theorem PG (k : Nat) (cs : List D) (r : aj) : fB k (.box cs :: r) = (fU k 8 cs && fB k r) := (rfl)
@[go_sem] theorem PH (k sz ep : Nat) (pin : Bool) (es : List D) (r : aj) : fB k (.arr sz pin ep es :: r) = (fU k 8 es && fB k r) := (rfl)
theorem mh(k:Nat)(H:aj):H.all (fun o=>o.ds.all (old k depth))=fB k H:=by
 induction H with
 | nil=>rfl
 | cons o r ih=>rw[List.all_cons,ih];cases o<;>rfl
def Uz(d:D)(b:Bool):D:=if b then d else .und
@[go_sem] theorem Sk (d : D) : Uz d true = d := (rfl)
@[go_sem] theorem Y1 (k : Nat) (d : D) : kill k d = Uz d (old k 8 d) := (rfl)
def GB(k:Nat):List D→List D
 | []=>[]
 | d::r=>kill k d::GB k r
@[go_sem] theorem UA (k : Nat) : GB k [] = [] := (rfl)
@[go_sem] theorem Sl (k : Nat) (d : D) (r : List D) : GB k (d :: r) = kill k d :: GB k r := (rfl)
theorem LC(k:Nat)(vs:List D):vs.map (kill k)=GB k vs:=by
 induction vs with
 | nil=>rfl
 | cons d r ih=>rw[List.map_cons,ih];rfl
@[go_sem] theorem WS (k : Nat) (vs : List D) (H : aj) : Gj k ⟨vs, H⟩ = if fB k (H.take k) = true then some ⟨GB k vs, H.take k⟩ else none := by
 simp only[Gj,mh,LC]
@[go_sem] theorem IU (H : aj) (n : Nat) (x : T) : fq H n (.t x) = [] := by cases n <;> rfl
@[go_sem] theorem WT (H : aj) (n : Nat) : fq H n .nil = [] := by cases n <;> rfl
@[go_sem] theorem PI (H : aj) (n id off : Nat) : fq H n (.bp id off) = [] := by cases n <;> rfl
@[go_sem] theorem Y2 (H : aj) (n f : Nat) (cs : List D) : fq H n (.fn f cs) = [] := by cases n <;> rfl
def tP(H:aj)(n:Nat)(cs:List D):List Nat:=cs.flatMap (fq H n)
@[go_sem] theorem UB (H : aj) (n : Nat) : tP H n [] = [] := (rfl)
@[go_sem] theorem GC (H : aj) (n : Nat) (d : D) (r : List D) : tP H n (d :: r) = fq H n d ++ tP H n r := (rfl)
@[go_sem] theorem Y3 (H : aj) (n : Nat) (ts : List T) : tP H n (ts.map .t) = [] := by
 induction ts with
 | nil=>rfl
 | cons t ts ih=>rw[List.map_cons,GC,ih,IU];rfl
@[go_sem] theorem WU (H : aj) (n : Nat) (cs : List D) : fq H (n + 1) (.agg cs) = tP H n cs := (rfl)
def UC(H:aj)(n:Nat):Option Obj→List Nat
 | some (.arr _ _ _ es)=>tP H n es
 | _=>[]
@[go_sem] theorem UD (H : aj) (n sz ep : Nat) (pin : Bool) (es : List D) : UC H n (some (.arr sz pin ep es)) = tP H n es := (rfl)
@[go_sem] theorem WW (H : aj) (n id ep m : Nat) : fq H (n + 1) (.ref id ep m) = id :: UC H n H[id]? := (rfl)
@[go_sem] theorem Y4 : s9 [] = .tup [] := (rfl)
@[go_sem] theorem Y5 (d : D) : s9 [d] = d := (rfl)
@[go_sem] theorem Y6 (a b : D) (r : List D) : s9 (a :: b :: r) = .tup (a :: b :: r) := (rfl)
def B5(k:Nat):List Nat→Bool
 | []=>true
 | i::r=> !ltB i k&&B5 k r
@[go_sem] theorem UE (k : Nat) : B5 k [] = true := (rfl)
@[go_sem] theorem Sm (k i : Nat) (r : List Nat) : B5 k (i :: r) = (!ltB i k && B5 k r) := (rfl)
theorem Fm(k:Nat)(l:List Nat):l.all (fun i=>decide (k≤i))=B5 k l:=by
 induction l with
 | nil=>rfl
 | cons i r ih=>
   rw[List.all_cons,ih]
   simp only[B5,sC]
   congr 1
   rw[Bool.eq_iff_iff];simp
def WX(k raw:Nat)(H:aj)(ds rs:List D):Option (D×aj):=
 (kY H (max raw 1) (List.range k) (rs.flatMap (ids depth)++oq H (List.range k))).bind fun q=>
  if(iy H raw ds).all (fun i=> !(List.range k++q.1).contains i)then
   (bQ (ren (idxOf (List.range k++q.1)) depth) rs).bind fun rs'=>
    (bQ (gw (idxOf (List.range k++q.1))) (H.take k++q.2)).map fun hs'=>(s9 rs',hs')
  else none
def Sn(k raw:Nat)(H:aj)(ds rs:List D)(b:Bool):Option (D×aj):=
 if b then(if B5 k (iy H raw ds)=true then some (s9 rs,H.take k)else none)else WX k raw H ds rs
@[go_sem] theorem UF (k raw : Nat) (H : aj) (ds rs : List D) : Sn k raw H ds rs true = if B5 k (iy H raw ds) = true then some (s9 rs, H.take k) else none := (rfl)
def UG(k raw:Nat)(H:aj)(ds rs:List D):Option (D×aj):=Sn k raw H ds rs (fU k 8 rs&&fB k (H.take k))
@[go_sem] theorem Y7 (k raw : Nat) (H : aj) (ds rs : List D) : UG k raw H ds rs = Sn k raw H ds rs (fU k 8 rs && fB k (H.take k)) := (rfl)
@[go_sem] theorem UH (k : Nat) (H : aj) (ds : List D) : finish k 0 H ds = (bQ (uI H) ds).bind (UG k 0 H ds) := by
 simp only[finish,if_true,mh,Fm]
 cases bQ (uI H) ds with
 | none=>rfl
 | some rs=>
   simp only[Option.bind_some,UG,Sn]
   show(if(fU k 8 rs&&fB k (H.take k))=true then _ else _)=_
   cases (fU k 8 rs&&fB k (H.take k))<;>rfl
@[go_sem] theorem UI (H : aj) (ds : List D) : iy H 0 ds = tP H 8 ds := (rfl)
@[go_sem] theorem UJ (vs : List D) : jx [] vs = vs := (rfl)
@[go_sem] theorem Sp (i : Nat) (r : List Nat) (vs : List D) : jx (i :: r) vs = jx r (vs.set i .und) := (rfl)
@[go_sem] theorem Y8 (dead : List Nat) (k : Nat) (vs : List D) (H : aj) : tidy false dead k ⟨vs, H⟩ = some ⟨jx dead vs, H⟩ := (rfl)
@[go_sem] theorem Y9 (dead : List Nat) (k : Nat) (vs : List D) (H : aj) : tidy true dead k ⟨vs, H⟩ = Gj k ⟨jx dead vs, H⟩ := (rfl)
section
variable (H : aj) (call : aS) (f raw : Nat) (keep : List Nat) (ds : List D)
def DR(H1:aj)(n:Nat)(sel:List Nat)(p:D×aj):Option (D×aj):=
 (ren (eh sel n) depth p.1).bind fun r'=>(bQ (gw (eh sel n)) p.2).map fun os=>(r',dk H1 sel (os.take sel.length)++os.drop sel.length)
def wJ(H1:aj)(sel:List Nat)(p:D×aj):Option (D×aj):=
 if sel.isEmpty&&p.2.isEmpty&&qh p.1 then some (p.1,H)else DR H1 H.length sel p
def PJ(args:List D)(H1:aj)(sel:List Nat)(hs:aj):Option (D×aj):=(call raw f args hs).bind (wJ H H1 sel)
def PL(args:List D)(H1:aj)(sel:List Nat)(hs:aj):Option (D×aj):=(bQ (gw (idxOf sel)) hs).bind (PJ H call f raw args H1 sel)
def PM(H1:aj)(sel:List Nat)(args:List D):Option (D×aj):=(pick H1 sel).bind (PL H call f raw args H1 sel)
def PN(args:List D)(sel:List Nat):Option (D×aj):=(bQ (ren (idxOf sel) depth) args).bind (PM H call f raw (pins H (cr H keep 0 ds)) sel)
def yO(n:Nat)(cs:List D):List Nat:=cs.flatMap (ids n)
def PO(args:List D):Option (D×aj):=PN H call f raw keep ds args (reach H 3 (eQ [] (yO 8 args)))
def IV:Option (D×aj):=(oR H keep 0 ds).bind (PO H call f raw keep ds)
theorem LD:GA H call f raw keep ds=IV H call f raw keep ds:=(rfl)
@[go_sem] theorem LF : IV H call f raw keep ds = (oR H keep 0 ds).bind (PO H call f raw keep ds) := (rfl)
@[go_sem] theorem LG (args : List D) : PO H call f raw keep ds args = PN H call f raw keep ds args (reach H 3 (eQ [] (yO 8 args))) := (rfl)
@[go_sem] theorem LH (args : List D) (sel : List Nat) : PN H call f raw keep ds args sel = (bQ (ren (idxOf sel) 8) args).bind (PM H call f raw (pins H (cr H keep 0 ds)) sel) := (rfl)
@[go_sem] theorem LI (H1 : aj) (sel : List Nat) (args : List D) : PM H call f raw H1 sel args = (pick H1 sel).bind (PL H call f raw args H1 sel) := (rfl)
@[go_sem] theorem LJ (args : List D) (H1 : aj) (sel : List Nat) (hs : aj) : PL H call f raw args H1 sel hs = (bQ (gw (idxOf sel)) hs).bind (PJ H call f raw args H1 sel) := (rfl)
@[go_sem] theorem LK (args : List D) (H1 : aj) (sel : List Nat) (hs : aj) : PJ H call f raw args H1 sel hs = (call raw f args hs).bind (wJ H H1 sel) := (rfl)
def LL(H1:aj)(sel:List Nat)(r:D)(os:aj):Option (D×aj):=some (r,dk H1 sel (os.take sel.length)++os.drop sel.length)
@[go_sem] theorem LM (H1 : aj) (sel : List Nat) (r : D) (os : aj) : LL H1 sel r os = some (r, dk H1 sel (os.take sel.length) ++ os.drop sel.length) := (rfl)
def PQ(H1:aj)(n:Nat)(sel:List Nat)(os:aj)(r:D):Option (D×aj):=(bQ (gw (eh sel n)) os).bind (LL H1 sel r)
@[go_sem] theorem Fo (H1 : aj) (n : Nat) (sel : List Nat) (os : aj) (r : D) : PQ H1 n sel os r = (bQ (gw (eh sel n)) os).bind (LL H1 sel r) := (rfl)
@[go_sem] theorem Fp (H1 : aj) (n : Nat) (sel : List Nat) (r : D) (os : aj) : DR H1 n sel (r, os) = (ren (eh sel n) 8 r).bind (PQ H1 n sel os) := by
 simp only[DR,depth]
 cases ren (eh sel n) 8 r with
 | none=>rfl
 | some r'=>simp only[Option.bind_some,PQ];cases bQ (gw (eh sel n)) os<;>rfl
@[go_sem] theorem WY (H1 : aj) (sel : List Nat) (r : D) (o : Obj) (os : aj) : wJ H H1 sel (r, o :: os) = DR H1 H.length sel (r, o :: os) := by
 simp[wJ]
@[go_sem] theorem Za (H1 : aj) (k : IntKind) (n : Int) : wJ H H1 [] (.t (.int k n), []) = some (.t (.int k n), H) := (rfl)
@[go_sem] theorem Zb (H1 : aj) (b : Bool) : wJ H H1 [] (.t (.bool b), []) = some (.t (.bool b), H) := (rfl)
@[go_sem] theorem WZ (H1 : aj) (es : List T) : wJ H H1 [] (.t (.sl es), []) = some (.t (.sl es), H1) := by simp [wJ, DR, qh, T.scalar, ren, depth, bQ, dk]
@[go_sem] theorem UK (H1 : aj) (ds : List D) : wJ H H1 [] (.tup ds, []) = if ds.all mr then some (.tup ds, H) else DR H1 H.length [] (.tup ds, []) := by
 simp[wJ,qh]
def PR:Option (List T)→Option (D×aj)
 | some ts=>(call raw f (ts.map .t) []).bind (B4 H)
 | none=>IV H call f raw [] ds
@[go_sem] theorem Sq (ts : List T) : PR H call f raw ds (some ts) = (call raw f (ts.map .t) []).bind (B4 H) := (rfl)
@[go_sem] theorem Sr : PR H call f raw ds none = IV H call f raw [] ds := (rfl)
@[go_sem] theorem Zc : GA H call f raw [] ds = PR H call f raw ds (qq H ds) := by
 cases h:qq H ds with
 | none=>rfl
 | some ts=>exact IT H call f raw ds ts h
@[go_sem] theorem aat (k : Nat) : GA H call f raw (k :: keep) ds = IV H call f raw (k :: keep) ds := (rfl)
end
section
variable (H : aj) (keep : List Nat)
@[go_sem] theorem UL (i : Nat) : oR H keep i [] = some [] := (rfl)
def DT(i:Nat):List Nat→Bool
 | []=>false
 | j::r=>eqB i j||DT i r
@[go_sem] theorem W4 (i : Nat) : DT i [] = false := (rfl)
@[go_sem] theorem UM (i j : Nat) (r : List Nat) : DT i (j :: r) = (eqB i j || DT i r) := (rfl)
theorem Ar(i:Nat)(l:List Nat):l.contains i=DT i l:=by
 induction l with
 | nil=>rfl
 | cons j r ih=>rw[List.contains_cons,ih];simp only[DT,DP];rw[beq_eq_decide_nat]
where beq_eq_decide_nat {a b:Nat}:(a==b)=decide (a=b):=by rw[Bool.eq_iff_iff];simp
def Zd(d:D):Bool→Option D
 | true=>some d
 | false=>uI H d
@[go_sem] theorem aau (d : D) : Zd H d true = some d := (rfl)
@[go_sem] theorem Nr (d : D) : Zd H d false = uI H d := (rfl)
def aav(i:Nat)(r:List D)(x:D):Option (List D):=lg x (oR H keep (i+1) r)
@[go_sem] theorem IW (i : Nat) (r : List D) (x : D) : aav H keep i r x = lg x (oR H keep (i + 1) r) := (rfl)
@[go_sem] theorem zq (i : Nat) (d : D) (r : List D) : oR H keep i (d :: r) = (Zd H d (DT i keep)).bind (aav H keep i r) := by
 simp only[oR,Ar]
 cases DT i keep<;>rfl
@[go_sem] theorem KN (i : Nat) : cr H keep i [] = [] := (rfl)
def frK(l:List Nat):Bool→List Nat
 | true=>[]
 | false=>l
@[go_sem] theorem abl (l : List Nat) : frK l true = [] := (rfl)
@[go_sem] theorem UN (l : List Nat) : frK l false = l := (rfl)
@[go_sem] theorem qs (i : Nat) (d : D) (r : List D) : cr H keep i (d :: r) = frK (fq H 8 d) (DT i keep) ++ cr H keep (i + 1) r := by
 simp only[cr,Ar]
 cases DT i keep<;>rfl
@[go_sem] theorem W5 (H : aj) : pins H [] = H := (rfl)
@[go_sem] theorem UO (H : aj) (i : Nat) (r : List Nat) : pins H (i :: r) = pins (H.modify i EW) r := (rfl)
def IX(i:Nat):Option Obj→aj
 | some (.arr sz _ ep es)=>H.set i (.arr sz true ep es)
 | _=>H
@[go_sem] theorem UP (i sz ep : Nat) (pin : Bool) (es : List D) : IX H i (some (.arr sz pin ep es)) = H.set i (.arr sz true ep es) := (rfl)
theorem As{α:Type}{l:List α}{i:Nat}{x:α}(h:l[i]?=some x):l.set i x=l:=by
 apply List.ext_getElem?
 intro j
 rw[List.getElem?_set]
 split
 · rename_i e;subst e
   split
   · exact h.symm
   · rename_i hl;rw[List.getElem?_eq_none (by omega)]at h;cases h
 · rfl
@[go_sem] theorem Ss (i : Nat) : List.modify H i EW = IX H i H[i]? := by
 apply List.ext_getElem?
 intro j
 rw[List.getElem?_modify]
 cases h:H[i]? with
 | none=>
   simp only[IX]
   by_cases e:i=j
   · subst e;rw[h];simp
   · simp[e]
 | some o=>
   have hi:i<H.length:=(List.getElem?_eq_some_iff.1 h).1
   cases o with
   | box cs=>
     simp only[IX]
     by_cases e:i=j
     · subst e;rw[h];simp[EW]
     · simp[e]
   | arr sz pin ep es=>
     simp only[IX]
     rw[List.getElem?_set]
     by_cases e:i=j
     · subst e;rw[h];simp[EW,hi]
     · simp[e]
section
variable (n : Nat)
@[go_sem] theorem abm (x : T) : ids n (.t x) = [] := by cases n <;> rfl
@[go_sem] theorem Ze : ids n .nil = [] := by cases n <;> rfl
@[go_sem] theorem UQ (id off : Nat) : ids n (.bp id off) = [id] := by cases n <;> rfl
@[go_sem] theorem Zf (id ep m : Nat) : ids n (.ref id ep m) = [id] := by cases n <;> rfl
@[go_sem] theorem Zg (cs : List D) : ids (n + 1) (.agg cs) = yO n cs := (rfl)
@[go_sem] theorem UR (f : Nat) (cs : List D) : ids (n + 1) (.fn f cs) = yO n cs := (rfl)
@[go_sem] theorem LN : yO n [] = [] := (rfl)
@[go_sem] theorem IY (d : D) (r : List D) : yO n (d :: r) = ids n d ++ yO n r := (rfl)
@[go_sem] theorem Fq (ts : List T) : yO n (ts.map .t) = [] := IQ ts n
@[go_sem] theorem Fs (a b : List D) : yO n (a ++ b) = yO n a ++ yO n b := by simp [yO]
@[go_sem] theorem W6 (m : Nat) (x : T) : yO n (List.replicate m (.t x)) = [] := by
 have:List.replicate m (D.t x)=(List.replicate m x).map .t:=by simp
 rw[this,Fq]
end
def IZ(sel:List Nat)(i:Nat):Bool→List Nat
 | true=>sel
 | false=>sel++[i]
@[go_sem] theorem W7 (sel : List Nat) (i : Nat) : IZ sel i true = sel := (rfl)
@[go_sem] theorem W8 (sel : List Nat) (i : Nat) : IZ sel i false = sel ++ [i] := (rfl)
@[go_sem] theorem Su (sel : List Nat) : eQ sel [] = sel := (rfl)
@[go_sem] theorem PS (sel : List Nat) (i : Nat) (r : List Nat) : eQ sel (i :: r) = eQ (IZ sel i (DT i sel)) r := by
 simp only[eQ,Ar]
 cases DT i sel<;>rfl
def Ft:Option Obj→List Nat
 | some (.box cs)=>yO 8 cs
 | some (.arr _ _ _ es)=>yO 8 es
 | none=>[]
@[go_sem] theorem Sv (cs : List D) : Ft (some (.box cs)) = yO 8 cs := (rfl)
@[go_sem] theorem Sw (sz ep : Nat) (pin : Bool) (es : List D) : Ft (some (.arr sz pin ep es)) = yO 8 es := (rfl)
@[go_sem] theorem US : oq H [] = [] := (rfl)
@[go_sem] theorem Sx (i : Nat) (r : List Nat) : oq H (i :: r) = Ft H[i]? ++ oq H r := by
 simp only[oq,List.flatMap_cons]
 congr 1
 cases H[i]? with
 | none=>rfl
 | some o=>cases o<;>rfl
@[go_sem] theorem Zh (sel : List Nat) : reach H 0 sel = sel := (rfl)
@[go_sem] theorem Zi (n : Nat) (sel : List Nat) : reach H (n + 1) sel = reach H n (eQ sel (oq H sel)) := (rfl)
@[go_sem] theorem W9 : pick H [] = some [] := (rfl)
def UT(r:List Nat)(o:Obj):Option aj:=lg o (pick H r)
@[go_sem] theorem LO (r : List Nat) (o : Obj) : UT H r o = lg o (pick H r) := (rfl)
@[go_sem] theorem I0 (i : Nat) (r : List Nat) : pick H (i :: r) = H[i]?.bind (UT H r) := (rfl)
end
section
variable (f : Nat → Option Nat) (n : Nat)
@[go_sem] theorem Zj (x : T) : ren f n (.t x) = some (.t x) := by cases n <;> rfl
@[go_sem] theorem Zk : ren f n .nil = some .nil := by cases n <;> rfl
def aaw(off:Nat)(i:Nat):D:= .bp i off
@[go_sem] theorem Zl (off i : Nat) : aaw off i = .bp i off := (rfl)
@[go_sem] theorem UU (id off : Nat) : ren f n (.bp id off) = (f id).map (aaw off) := by cases n <;> rfl
def UW(ep m:Nat)(j:Nat):D:= .ref j ep m
@[go_sem] theorem Xa (ep m j : Nat) : UW ep m j = .ref j ep m := (rfl)
@[go_sem] theorem Zm (id ep m : Nat) : ren f n (.ref id ep m) = (f id).map (UW ep m) := by cases n <;> rfl
@[go_sem] theorem UX (g : Nat) (cs : List D) : ren f (n + 1) (.fn g cs) = (bQ (ren f n) cs).map (.fn g) := (rfl)
@[go_sem] theorem Zn (cs : List D) : ren f (n + 1) (.agg cs) = (bQ (ren f n) cs).map .agg := (rfl)
@[go_sem] theorem Zo (cs : List D) : ren f (n + 1) (.tup cs) = (bQ (ren f n) cs).map .tup := (rfl)
@[go_sem] theorem rr (ts : List T) : bQ (ren f n) (ts.map .t) = some (ts.map .t) := by
 induction ts with
 | nil=>rfl
 | cons t ts ih=>rw[List.map_cons,B2,Zj,Option.bind_some,Po,ih];rfl
@[go_sem] theorem Ns (m : Nat) (x : T) : bQ (ren f n) (List.replicate m (.t x)) = some (List.replicate m (.t x)) := by
 have:List.replicate m (D.t x)=(List.replicate m x).map .t:=by simp
 rw[this,rr]
@[go_sem] theorem GD (cs : List D) : gw f (.box cs) = (bQ (ren f 8) cs).map .box := (rfl)
@[go_sem] theorem Sy (sz ep : Nat) (pin : Bool) (es : List D) : gw f (.arr sz pin ep es) = (bQ (ren f 8) es).map (.arr sz pin ep) := (rfl)
end
def Sz(x:Option Nat):Bool→Option Nat
 | true=>some 0
 | false=>x.map (· +1)
@[go_sem] theorem aax (x : Option Nat) : Sz x true = some 0 := (rfl)
@[go_sem] theorem aay (k : Nat) : Sz (some k) false = some (k + 1) := (rfl)
@[go_sem] theorem aaz : Sz none false = none := (rfl)
@[go_sem] theorem idxOf_nil (i : Nat) : idxOf [] i = none := (rfl)
@[go_sem] theorem idxOf_cons (j i : Nat) (r : List Nat) : idxOf (j :: r) i = Sz (idxOf r i) (eqB j i) := by
 simp only[idxOf,DP]
 by_cases h:j=i
 · simp[h,Sz]
 · simp[h,Sz]
@[go_sem] theorem SA (n i : Nat) : eh [] n i = some (n + i) := by simp [eh]
@[go_sem] theorem Xb (j n : Nat) (r : List Nat) : eh (j :: r) n 0 = some j := by simp [eh]
@[go_sem] theorem Xc (j n i : Nat) (r : List Nat) : eh (j :: r) n (i + 1) = eh r n i := by
 simp only[eh,List.length_cons,Nat.add_lt_add_iff_right,List.getElem?_cons_succ,Nat.add_sub_add_right]
@[go_sem] theorem PT {α : Type} (H os : List α) : dk H [] os = H := by cases os <;> rfl
@[go_sem] theorem Nt {α : Type} (H : List α) (i : Nat) (r : List Nat) (o : α) (os : List α) : dk H (i :: r) (o :: os) = dk (H.set i o) r os := (rfl)
def lbP(sz:Nat)(p:List D×aj):List D×aj:=(p.1,.arr sz false 0 []::p.2)
@[go_sem] theorem aaA (sz : Nat) (cs : List D) (os : aj) : lbP sz (cs, os) = (cs, .arr sz false 0 [] :: os) := (rfl)
def lbC(base:Nat)(cs:List D)(off sz:Nat)(r:List (Nat×Nat)):Option D→List D×aj
 | some .nil=>lbP sz (bO (base+1) (cs.set off (.ref base 0 0)) r)
 | _=>bO base cs r
@[go_sem] theorem Zp (base : Nat) (cs : List D) (off sz : Nat) (r : List (Nat × Nat)) : lbC base cs off sz r (some .nil) = lbP sz (bO (base + 1) (cs.set off (.ref base 0 0)) r) := (rfl)
@[go_sem] theorem Nu (base : Nat) (cs : List D) (off sz : Nat) (r : List (Nat × Nat)) : bO base cs ((off, sz) :: r) = lbC base cs off sz r cs[off]? := by
 simp only[bO,lbC]
 split<;>split<;>simp_all [lbP]
def lvP(H:aj)(id:Nat)(p:List D×aj):Option (D×aj):=some (.tup [],H.set id (.box p.1)++p.2)
@[go_sem] theorem aaB (H : aj) (id : Nat) (cs : List D) (os : aj) : lvP H id (cs, os) = some (.tup [], H.set id (.box cs) ++ os) := (rfl)
def lvB(H:aj)(id:Nat)(l:List (Nat×Nat)):Option Obj→Option (D×aj)
 | some (.box cs)=>lvP H id (bO H.length cs l)
 | _=>none
@[go_sem] theorem aaC (H : aj) (id : Nat) (l : List (Nat × Nat)) (cs : List D) : lvB H id l (some (.box cs)) = lvP H id (bO H.length cs l) := (rfl)
@[go_sem] theorem PU (H : aj) (id : Nat) (x : Nat × Nat) (r : List (Nat × Nat)) : zp H id (x :: r) = lvB H id (x :: r) H[id]? := by
 simp only[zp,oS]
 generalize H[id]?=o
 rcases o with _ | (cs | _)
 · rfl
 · rfl
 · rfl
section
variable (H : aj)
def klE(n:Nat)(sel new:List Nat)(os:aj)(q:List Nat×aj):Option (List Nat×aj):=some (new++q.1,os++q.2)
@[go_sem] theorem aaD (n : Nat) (sel new : List Nat) (os : aj) (a : List Nat) (b : aj) : klE n sel new os (a, b) = some (new ++ a, os ++ b) := (rfl)
def klD(n:Nat)(sel new:List Nat)(os:aj):Option (List Nat×aj):=(kY H n (sel++new) (oq H new)).bind (klE n sel new os)
@[go_sem] theorem aaE (n : Nat) (sel new : List Nat) (os : aj) : klD H n sel new os = (kY H n (sel ++ new) (oq H new)).bind (klE n sel new os) := (rfl)
def zr(sel:List Nat):List Nat→Bool
 | []=>true
 | i::r=> !DT i sel&&zr sel r
@[go_sem] theorem SB (sel : List Nat) : zr sel [] = true := (rfl)
theorem B6(sel l:List Nat):l.all (fun i=> !sel.contains i)=zr sel l:=by
 induction l with
 | nil=>rfl
 | cons i r ih=>rw[List.all_cons,ih,Ar];rfl
def klC(n:Nat)(sel new:List Nat)(os:aj):Option (List Nat×aj):=
 (if n=0 then(if(os.flatMap fun o=>o.ds.flatMap (fq H depth)).all (fun i=> !(sel++new).contains i)then bQ (dV H) os else none)else some os).bind (klD H n sel new)
def tQ:aj→List Nat
 | []=>[]
 | .box cs::r=>tP H 8 cs++tQ r
 | .arr _ _ _ es::r=>tP H 8 es++tQ r
@[go_sem] theorem SC : tQ H [] = [] := (rfl)
@[go_sem] theorem SD (cs : List D) (r : aj) : tQ H (.box cs :: r) = tP H 8 cs ++ tQ H r := (rfl)
@[go_sem] theorem SE (sz ep : Nat) (pin : Bool) (es : List D) (r : aj) : tQ H (.arr sz pin ep es :: r) = tP H 8 es ++ tQ H r := (rfl)
theorem I1(os:aj):(os.flatMap fun o=>o.ds.flatMap (fq H depth))=tQ H os:=by
 induction os with
 | nil=>rfl
 | cons o r ih=>rw[List.flatMap_cons,ih];cases o<;>rfl
@[go_sem] theorem abn (sel new : List Nat) (os : aj) : klC H 0 sel new os = (if zr (sel ++ new) (tQ H os) = true then bQ (dV H) os else none).bind (klD H 0 sel new) := by
 simp only[klC,I1,B6,if_true]
def klN(n:Nat)(sel new:List Nat):Option (List Nat×aj):=(pick H new).bind (klC H n sel new)
@[go_sem] theorem aaF (n : Nat) (sel new : List Nat) : klN H n sel new = (pick H new).bind (klC H n sel new) := (rfl)
@[go_sem] theorem Xd (sel front : List Nat) : kY H 0 sel front = some ([], []) := (rfl)
@[go_sem] theorem Xe (n : Nat) (sel front : List Nat) : kY H (n + 1) sel front = klN H n sel ((eQ sel front).drop sel.length) := by
 simp only[kY,klN]
 generalize (eQ sel front).drop sel.length=new
 cases pick H new with
 | none=>rfl
 | some os=>
   simp only[Option.bind_some,klC]
   congr 1
   funext os'
   simp only[klD]
   cases kY H n (sel++new) (oq H new)<;>rfl
@[go_sem] theorem LP (cs : List D) : dV H (.box cs) = (bQ (uI H) cs).map .box := (rfl)
@[go_sem] theorem Au (sz ep : Nat) (pin : Bool) (ts : List T) : dV H (.arr sz pin ep (ts.map .t)) = some (.arr sz pin ep (ts.map .t)) := by
 simp only[dV,xb,Option.map_some]
@[go_sem] theorem LQ (sz ep : Nat) (pin : Bool) : dV H (.arr sz pin ep []) = some (.arr sz pin ep []) := (rfl)
@[go_sem] theorem LR (sz ep : Nat) (pin : Bool) (m : Nat) (x : T) : dV H (.arr sz pin ep (List.replicate m (.t x))) = some (.arr sz pin ep (List.replicate m (.t x))) := by
 have:List.replicate m (D.t x)=(List.replicate m x).map .t:=by simp
 rw[this,Au]
def Zq(k raw:Nat)(H:aj)(ds rs:List D)(q:List Nat×aj):Option (D×aj):=
 if zr (List.range k++q.1) (iy H raw ds)=true then
  (bQ (ren (idxOf (List.range k++q.1)) depth) rs).bind fun rs'=>(bQ (gw (idxOf (List.range k++q.1))) (H.take k++q.2)).map fun hs'=>(s9 rs',hs')
 else none
def I2(sel:List Nat)(H2:aj)(rs':List D):Option (D×aj):=(bQ (gw (idxOf sel)) H2).bind (finT3 rs')
where finT3 (rs':List D) (hs:aj):Option (D×aj):=some (s9 rs',hs)
@[go_sem] theorem Xf (rs' : List D) (hs : aj) : I2.finT3 rs' hs = some (s9 rs', hs) := (rfl)
@[go_sem] theorem Xg (sel : List Nat) (H2 : aj) (rs' : List D) : I2 sel H2 rs' = (bQ (gw (idxOf sel)) H2).bind (I2.finT3 rs') := (rfl)
@[go_sem] theorem Zr (k raw : Nat) (ds rs : List D) (sel : List Nat) (os : aj) : Zq k raw H ds rs (sel, os) =
 if zr (List.range k++sel) (iy H raw ds)=true then(bQ (ren (idxOf (List.range k++sel)) 8) rs).bind (I2 (List.range k++sel) (H.take k++os))else none:=by
 simp only[Zq,depth]
 split
 · cases bQ (ren (idxOf (List.range k++sel)) 8) rs with
   | none=>rfl
   | some rs'=>simp only[Option.bind_some,I2];cases bQ (gw (idxOf (List.range k++sel))) (H.take k++os)<;>rfl
 · rfl
@[go_sem] theorem Zs (k raw : Nat) (ds rs : List D) : WX k raw H ds rs = (kY H (max raw 1) (List.range k) (yO 8 rs ++ oq H (List.range k))).bind (Zq k raw H ds rs) := by
 simp only[WX,B6,yO,depth];rfl
@[go_sem] theorem SF (k raw : Nat) (ds rs : List D) : Sn k raw H ds rs false = WX k raw H ds rs := (rfl)
@[go_sem] theorem SG (k raw : Nat) (ds : List D) : finish k (raw + 1) H ds = UG k (raw + 1) H ds ds := by
 simp only[finish,Nat.add_one_ne_zero,if_false,Option.bind_some,mh,Fm,UG,Sn]
 show(if(fU k 8 ds&&fB k (H.take k))=true then _ else _)=_
 cases (fU k 8 ds&&fB k (H.take k))<;>rfl
@[go_sem] theorem PV (raw : Nat) (ds : List D) : iy H (raw + 1) ds = [] := by simp [iy]
@[go_sem] theorem Xh : max 0 1 = 1 := (rfl)
@[go_sem] theorem Zt (r : Nat) : max (r + 1) 1 = r + 1 := by omega
@[go_sem] theorem SI : List.range 0 = [] := (rfl)
end
theorem LS{α:Type}(f:α→T)(l:List α)(i:Nat)(x:α)(y:D)(h:y= .t (f x)):((l.map f).map D.t).set i y=((l.set i x).map f).map D.t:=by
 rw[h,List.map_map,List.map_map]
 exact(List.map_set (f:=D.t ∘ f)).symm
@[go_sem] theorem Zu (l : List Int) (i : Nat) (k : IntKind) (x : Int) : ((l.map (T.int k)).map D.t).set i (.t (.int k x)) = ((l.set i x).map (T.int k)).map D.t := LS _ l i x _ rfl
end Go.Ev
namespace Go.Ev
class Lib where
 fs:Nat→Option Fn
end Go.Ev
namespace Go.Ev.K
abbrev u(x:O):R:={ o:=x}
abbrev w(n:Nat)(x:O):R:={ o:=x,d:=some n}
abbrev y(n:Nat)(b:Bool)(x:O):R:={ o:=x,g:=some (n,b)}
abbrev m(x:X):R:={ o:= .mv x}
abbrev g(x:X):R:={ o:= .ld x 1 false}
abbrev h(n:Nat)(x:X):R:={ o:= .ld x n true}
abbrev f(n:Nat)(x:X):R:={ o:= .fa x n}
abbrev a(n:Nat)(x z:X):R:={ o:= .ia x z n}
abbrev l0:X:= .l 0
abbrev l1:X:= .l 1
abbrev l2:X:= .l 2
abbrev l3:X:= .l 3
abbrev l4:X:= .l 4
abbrev l5:X:= .l 5
abbrev l6:X:= .l 6
abbrev l7:X:= .l 7
abbrev l8:X:= .l 8
abbrev l9:X:= .l 9
abbrev l10:X:= .l 10
abbrev l11:X:= .l 11
abbrev v0:X:= .v 0
abbrev v1:X:= .v 1
abbrev v2:X:= .v 2
abbrev v3:X:= .v 3
abbrev v4:X:= .v 4
abbrev v5:X:= .v 5
abbrev v6:X:= .v 6
abbrev v7:X:= .v 7
abbrev v8:X:= .v 8
abbrev v9:X:= .v 9
abbrev v10:X:= .v 10
abbrev v11:X:= .v 11
abbrev v12:X:= .v 12
abbrev v13:X:= .v 13
abbrev v14:X:= .v 14
abbrev v15:X:= .v 15
abbrev v16:X:= .v 16
abbrev v17:X:= .v 17
abbrev v18:X:= .v 18
abbrev v19:X:= .v 19
abbrev v20:X:= .v 20
abbrev v21:X:= .v 21
abbrev v22:X:= .v 22
abbrev v23:X:= .v 23
end Go.Ev.K
namespace Go.Ev.N
def DU:Nat:=0
def gL:Nat:=1
def PW:Nat:=2
def i9:Nat:=3
def cj:Nat:=4
def SJ:Nat:=5
def HK:Nat:=6
def I3:Nat:=7
def bR:Nat:=8
def aA:Nat:=9
def c8:Nat:=10
def GF:Nat:=11
def fK:Nat:=12
def dq:Nat:=13
def I4:Nat:=14
def dv:Nat:=15
def bV:Nat:=16
def PX:Nat:=17
def Nv:Nat:=18
def cV:Nat:=19
def bk:Nat:=20
def gg:Nat:=21
def dC:Nat:=22
def jt:Nat:=23
def Nw:Nat:=24
def I5:Nat:=25
def KO:Nat:=26
def dt:Nat:=27
def cW:Nat:=28
def PY:Nat:=29
def iC:Nat:=30
def PZ:Nat:=31
def SK:Nat:=32
def P0:Nat:=33
def Nx:Nat:=34
def dW:Nat:=35
def dw:Nat:=36
def dH:Nat:=37
def cF:Nat:=38
def bw:Nat:=39
def gM:Nat:=40
def dI:Nat:=41
def gN:Nat:=42
def dJ:Nat:=43
def cH:Nat:=44
def gG:Nat:=45
def cI:Nat:=46
def dK:Nat:=47
def KP:Nat:=48
def aB:Nat:=49
def GG:Nat:=50
def aR:Nat:=51
def HL:Nat:=52
def KQ:Nat:=53
def gh:Nat:=54
def SL:Nat:=55
def de:Nat:=56
def fe:Nat:=57
def dL:Nat:=58
def gj:Nat:=59
def ew:Nat:=60
def cK:Nat:=61
def cm:Nat:=62
def gk:Nat:=63
def b8:Nat:=64
def ez:Nat:=65
def bh:Nat:=66
def bD:Nat:=67
def HM:Nat:=68
def av:Nat:=69
def Fu:Nat:=70
def eM:Nat:=71
def dM:Nat:=72
def cX:Nat:=73
def eU:Nat:=74
def aD:Nat:=75
def bN:Nat:=76
def gO:Nat:=77
end Go.Ev.N
namespace Go.Ev.K
open Go.Ev
def gL:Fn:={ nargs:=1,vars:=[0,2],body:=(.seq (.reg [w 1 (.mv (.b false))] []) (.seq (.reg [m v0,u (.ln l0),u (.bin .leq l0 (.i 400)),w 1 (.mv l0)] []) .ret)),res:=[(1,none)]}
def i9:Fn:={ nargs:=1,vars:=[0,2],body:=(.seq (.reg [w 1 (.mv (.c (.nilp)))] []) (.seq (.reg [m v0,u (.bd [.nil,.t (.int .i64 (0))] [(0,1,.l 0)]),u (.bx l0 2),w 1 (.mv l0)] []) .ret)),res:=[(1,none)]}
def ig:C:=(.seq (.ite [m v4,m v3,u (.bin .lss l1 l0)] [] 0 .skip (.exit 0)) (.seq (.blk 1 (.reg [f 0 v2,g l0,m v0,u (.ca N.aA 0 [] [.l 0,.i 4]),u (.bin .mul (.i (-10)) l0),m v4,u (.bin .eql l0 (.i 0)),m l0,y 0 false (.mv v0),y 1 false (.ca N.dv 0 [] [.l 0,.i 6]),u (.pk l2 (.b true) l0),u (.bd [.t (.int .i64 (0)),.t (.bool false)] [(0,1,.l 6),(1,1,.l 0)]),u (.bs [.l 0] 2),u (.app l11 l0 true 2),f 0 v2,u (.st l0 l1 1 [])] [(1,4),(1,10),(1,13)])) (.reg [m v4,u (.bin .add l0 (.i 1)),w 4 (.mv l0)] [])))
def ox:C:= .loop true [5,6,7,8,9] K.ig
def j4:C:=(.seq (.ite [m v6,m v3,u (.bin .lss l1 l0)] [] 0 .skip (.exit 2)) (.seq (.blk 3 (.seq (.reg [h 10 v5,w 7 (.al [.t (.int .i64 (0)),.t (.int .i64 (0)),.t (.int .i64 (0)),.t (.int .i64 (0)),.t (.bool false),.t (.bool false),.t (.int .i64 (0)),.t (.int .i64 (0)),.t (.int .i64 (0)),.t (.int .i64 (0))] []),u (.st l0 l1 10 [])] []) (.seq (.reg [m v6,u (.bin .sub l0 (.i 1)),m v0,m v6,u (.mn [.l 0,.i 2]),u (.ca N.aA 0 [] [.l 2,.l 0]),u (.bin .sub l4 l0),m v6,m v0,u (.bs [.i 11,.i 59,.i 119,.i 4] 1),u (.ca N.c8 0 [] [.l 1,.l 0]),u (.bin .add (.i 1) l0),m v0,u (.bs [.i 9,.i 3,.i 19] 1),u (.ca N.c8 0 [] [.l 1,.l 0]),u (.bin .add (.i 1) l0),f 0 v7,u (.st l0 l10 1 []),f 1 v7,u (.st l0 l11 1 []),f 2 v7,u (.st l0 l9 1 []),f 3 v7,u (.st l0 l7 1 [])] []) (.reg [f 1 v2,g l0,h 10 v7,u (.bs [.l 0] 10),u (.app l2 l0 true 10),f 1 v2,u (.st l0 l1 1 [])] [])))) (.reg [m v6,u (.bin .add l0 (.i 1)),w 6 (.mv l0)] [])))
def oy:C:= .loop true [4,7,8,9] K.j4
def dy:C:=(.seq (.ite [m v8,u (.bin .gtr l0 (.i 0)),m l0,y 0 true (.fa v2 1),y 1 true (.ld l0 1 false),y 2 true (.ln l0),y 3 true (.bin .lss l0 (.i 10)),u (.pk l4 l0 (.b false))] [] 0 .skip (.exit 4)) (.seq (.blk 5 (.seq (.reg [h 10 v5,w 9 (.al [.t (.int .i64 (0)),.t (.int .i64 (0)),.t (.int .i64 (0)),.t (.int .i64 (0)),.t (.bool false),.t (.bool false),.t (.int .i64 (0)),.t (.int .i64 (0)),.t (.int .i64 (0)),.t (.int .i64 (0))] []),u (.st l0 l1 10 [])] []) (.seq (.reg [m v0,m v3,u (.ca N.aA 0 [] [.l 1,.l 0]),m v0,m v3,u (.ca N.aA 0 [] [.l 1,.l 0]),m v0,u (.bs [.i 11,.i 59,.i 199] 1),u (.ca N.c8 0 [] [.l 1,.l 0]),u (.bin .add (.i 1) l0),m v0,u (.bs [.i 9,.i 3] 1),u (.ca N.c8 0 [] [.l 1,.l 0]),u (.bin .add (.i 1) l0),f 0 v9,u (.st l0 (.l 12) 1 []),f 1 v9,u (.st l0 l11 1 []),f 2 v9,u (.st l0 l9 1 []),f 3 v9,u (.st l0 l7 1 [])] []) (.seq (.reg [m v0,u (.ca N.aA 0 [] [.l 0,.i 5]),u (.bin .gtr l0 (.i 0)),m v0,u (.ca N.dv 0 [] [.l 0,.i 6]),f 4 v9,u (.st l0 l3 1 []),f 5 v9,u (.st l0 l3 1 [])] []) (.ite [f 0 v9,g l0,f 1 v9,g l0,u (.bin .neq l2 l0)] [] 0 (.reg [f 1 v2,g l0,h 10 v9,u (.bs [.l 0] 10),u (.app l2 l0 true 10),f 1 v2,u (.st l0 l1 1 [])] []) .skip))))) (.reg [m v8,u (.bin .sub l0 (.i 1)),w 8 (.mv l0)] [])))
def oz:C:= .loop true [4,6,7,9] K.dy
def cj:Fn:={ nargs:=1,vars:=[0,2,3,4,5,6,7,8,9,10],body:=(.seq (.reg [w 1 (.al [.nil,.nil] [])] []) (.seq (.reg [w 2 (.al [.nil,.nil] [(0,2),(1,10)])] []) (.seq (.reg [m v0,u (.ca N.aA 0 [] [.l 0,.i 6]),u (.bin .add (.i 2) l0),w 3 (.mv l0)] []) (.seq (.ite [m v0,u (.nc l0),f 0 l0,g l0,u (.ln l0),u (.bin .eql l0 (.i 0))] [] 0 (.reg [w 3 (.mv (.i 4))] []) .skip) (.seq (.seq (.reg [w 4 (.mv (.i 0))] []) (.blk 0 K.ox)) (.seq (.reg [u (.bd [.t (.int .i64 (0)),.t (.int .i64 (0))] [(0,1,.i 1),(1,1,.i 1)]),u (.bd [.t (.int .i64 (0)),.t (.int .i64 (0)),.t (.int .i64 (0)),.t (.int .i64 (0)),.t (.bool false),.t (.bool false),.t (.int .i64 (0)),.t (.int .i64 (0)),.t (.int .i64 (0)),.t (.int .i64 (0))] [(2,1,.i 12),(3,1,.i 10),(4,1,.b true),(6,2,.l 0)]),w 5 (.al [.t (.int .i64 (0)),.t (.int .i64 (0)),.t (.int .i64 (0)),.t (.int .i64 (0)),.t (.bool false),.t (.bool false),.t (.int .i64 (0)),.t (.int .i64 (0)),.t (.int .i64 (0)),.t (.int .i64 (0))] []),u (.st l0 l1 10 [])] []) (.seq (.seq (.reg [w 6 (.mv (.i 1))] []) (.blk 2 K.oy)) (.seq (.seq (.reg [m v0,u (.ca N.aA 0 [] [.l 0,.i 4]),w 8 (.mv l0)] []) (.blk 4 K.oz)) (.seq (.reg [h 2 v2,u (.st v1 l0 2 [])] []) .ret))))))))),res:=[(1,some (2,true))]}
def iZ:C:=(.seq (.ite [m v7,m v4,u (.bin .lss l1 l0)] [] 0 .skip (.exit 0)) (.seq (.blk 1 (.reg [m v5,m v7,u (.bin .mul l0 (.i 2)),u (.bin .add (.i 3) l0),u (.bs [.l 0] 1),u (.app l4 l0 true 1),m v6,m v0,f 0 v2,g l0,u (.ln l0),u (.ca N.aA 0 [] [.l 3,.l 0]),u (.bs [.l 0] 1),u (.app l6 l0 true 1),w 5 (.mv l8),w 6 (.mv l1)] [(9,0),(9,5)])) (.reg [m v7,u (.bin .add l0 (.i 1)),w 7 (.mv l0)] [])))
def mA:C:= .loop true [1,8,9,10,11,12,13,14,15,16,17] K.iZ
def bz:C:=(.seq (.ite [m v10,u (.bin .gtr l0 (.i 0))] [] 0 .skip (.exit 2)) (.seq (.blk 3 (.seq (.reg [m v9,m v0,u (.ca N.aA 0 [] [.l 0,.i 60]),u (.bin .add l2 l0),w 9 (.mv l0)] []) (.seq (.reg [m v0,w 17 (.ca N.aA 0 [] [.l 0,.i 3])] []) (.blk 4 (.ite [u (.bin .eql v17 (.i 0)),m l0] [] 0 (.seq (.reg [w 11 (.al [.nil] []),h 2 v2,h 1 v8,m v0,m v4,u (.ca N.aA 0 [] [.l 1,.l 0]),m v0,m v4,u (.ca N.aA 0 [] [.l 1,.l 0]),m v9,u (.ca N.bk 0 [] [.l 8,.l 7,.l 4,.l 1,.l 0]),m l0,u (.ex l0 0),u (.ex l1 1),u (.st (.l 13) l1 1 []),w 12 (.mv l1)] [(0,6),(0,9),(0,11),(1,6),(1,9),(2,6),(2,9)]) (.ite [m v12,u (.bin .eql l0 (.i 0))] [] 0 (.reg [h 1 v11,u (.st v8 l0 1 [])] []) .skip)) (.ite [u (.bin .eql v17 (.i 1)),m l0] [] 0 (.seq (.reg [w 13 (.al [.nil] []),h 2 v2,h 1 v8,m v0,m v4,u (.ca N.aA 0 [] [.l 1,.l 0]),u (.bin .mul (.i 2) l0),u (.bin .add (.i 3) l0),m v0,f 0 v2,g l0,u (.ln l0),u (.ca N.bV 0 [] [.l 3,.l 0]),m v9,m v9,m v0,u (.ca N.aA 0 [] [.l 0,.i 9]),u (.bin .add l2 l0),u (.ca N.gg 0 [] [.l 16,.l 15,.l 10,.l 5,.l 4,.l 0]),m l0,u (.ex l0 0),u (.ex l1 1),u (.st (.l 21) l1 1 []),w 14 (.mv l1)] [(0,6),(0,13),(0,17),(0,19),(1,6),(1,13),(1,17),(2,6),(2,13),(2,17),(10,1)]) (.ite [m v14,u (.bin .eql l0 (.i 0))] [] 0 (.reg [h 1 v13,u (.st v8 l0 1 [])] []) .skip)) (.seq (.reg [w 15 (.al [.nil] []),h 2 v2,h 1 v8,m v0,m v4,u (.ca N.aA 0 [] [.l 1,.l 0]),u (.bin .mul (.i 2) l0),u (.bin .add (.i 3) l0),m v0,f 0 v2,g l0,u (.ln l0),u (.ca N.bV 0 [] [.l 3,.l 0]),m v9,m v9,u (.bin .add l0 (.i 50)),m v0,u (.ca N.aA 0 [] [.l 0,.i 40]),u (.ca N.dC 0 [3] [.l 16,.l 15,.l 10,.l 5,.l 4,.l 2,.l 0]),m l0,u (.ex l0 0),u (.ex l1 1),u (.st (.l 21) l1 1 []),w 16 (.mv l1)] [(0,6),(0,13),(0,18),(0,19),(1,6),(1,13),(1,18),(2,6),(2,13),(2,18),(10,1)]) (.ite [m v16,u (.bin .eql l0 (.i 0))] [] 0 (.reg [h 1 v15,u (.st v8 l0 1 [])] []) .skip)))))))) (.reg [m v10,u (.bin .sub l0 (.i 1)),w 10 (.mv l0)] [])))
def mB:C:= .loop true [1,5,6,7,11,12,13,14,15,16,17] K.bz
def bR:Fn:={ nargs:=2,vars:=[0,1,3,4,5,6,7,8,9,11,12,13,14,15,16,17,18,61],body:=(.seq (.reg [w 2 (.bx v1 2),w 3 (.al [.nil] [])] []) (.seq (.reg [m v0,u (.ca N.aA 0 [] [.l 0,.i 3]),u (.bin .add (.i 1) l0),w 4 (.mv l0)] []) (.seq (.reg [w 5 (.nw 1),w 6 (.nw 1)] []) (.seq (.seq (.reg [w 7 (.mv (.i 0))] []) (.blk 0 K.mA)) (.seq (.reg [w 8 (.al [.nil] []),h 2 v2,m v5,m v6,m v0,u (.ca N.aA 0 [] [.l 0,.i 100]),u (.ca N.cV 0 [] [.l 4,.l 3,.l 2,.l 0]),m l0,u (.ex l0 0),u (.ex l1 1),u (.st l9 l1 1 []),m l1] [(0,6),(0,7),(1,6)]) (.seq (.reg [w 9 (.mv (.i 100))] []) (.seq (.seq (.reg [m v0,u (.ca N.aA 0 [] [.l 0,.i 5]),w 10 (.mv l0)] []) (.blk 2 K.mB)) (.seq (.reg [h 1 v8,u (.st v3 l0 1 [])] []) .ret)))))))),res:=[(3,some (1,true))]}
def aA:Fn:={ nargs:=2,vars:=[0,1,4],body:=(.seq (.reg [w 2 (.mv (.i 0))] []) (.seq (.ite [m v0,u (.nc l0),f 1 l0,g l0,m v0,u (.nc l0),f 0 l0,g l0,u (.ln l0),u (.bin .geq l5 l0)] [] 0 (.seq (.reg [w 2 (.mv (.i 0))] []) .ret) .skip) (.seq (.reg [m v0,u (.nc l0),f 1 l0,g l0,u (.bin .add l0 (.i 1)),u (.nc l4),f 1 l0,u (.st l0 l2 1 [])] []) (.seq (.reg [m v0,u (.nc l0),f 0 l0,g l0,m v0,u (.nc l0),f 1 l0,g l0,u (.bin .sub l0 (.i 1)),a 1 l5 l0,g l0,m v1,u (.ca N.jt 0 [] [.l 1,.l 0]),w 2 (.mv l0)] []) .ret)))),res:=[(2,none)]}
def c8:Fn:={ nargs:=2,vars:=[0,1,4],body:=(.seq (.reg [w 2 (.mv (.i 0))] []) (.seq (.reg [m v1,m v0,m v1,u (.ln l0),u (.ca N.aA 0 [] [.l 2,.l 0]),a 1 l4 l0,g l0,w 2 (.mv l0)] []) .ret)),res:=[(2,none)]}
def lZ:C:=(.seq (.ite [m v3,m v0,u (.ln l0),u (.bin .lss l2 l0)] [] 0 .skip (.exit 0)) (.seq (.blk 1 (.ite [m v0,m v3,a 1 l1 l0,g l0,m v1,u (.bin .eql l1 l0)] [] 0 (.seq (.reg [w 2 (.mv (.b true))] []) .ret) .skip)) (.reg [m v3,u (.bin .add l0 (.i 1)),w 3 (.mv l0)] [])))
def vS:C:= .loop true [2] K.lZ
def fK:Fn:={ nargs:=2,vars:=[0,1,4,5],body:=(.seq (.reg [w 2 (.mv (.b false))] []) (.seq (.seq (.reg [w 3 (.mv (.i 0))] []) (.blk 0 K.vS)) (.seq (.reg [w 2 (.mv (.b false))] []) .ret))),res:=[(2,none)]}
def ei:C:=(.seq (.ite [m v7,f 0 v3,g l0,u (.ln l0),u (.bin .lss l3 l0)] [] 0 .skip (.exit 2)) (.seq (.blk 3 (.ite [m v1,u (.bin .geq l0 (.i 0)),m l0,y 0 true (.mv v1),y 1 true (.fa v3 0),y 2 true (.ld l0 1 false),y 3 true (.mv v7),y 4 true (.ia l1 l0 2),y 5 true (.fa l0 1),y 6 true (.ld l0 1 false),y 7 true (.ln l0),y 8 true (.bin .lss l7 l0),u (.pk l9 l0 (.b false)),m l0,y 0 true (.fa v3 0),y 1 true (.ld l0 1 false),y 2 true (.mv v7),y 3 true (.ia l1 l0 2),y 4 true (.fa l0 1),y 5 true (.ld l0 1 false),y 6 true (.mv v1),y 7 true (.ia l1 l0 2),y 8 true (.ld l0 2 true),y 9 true (.mv v2),y 10 true (.ca N.dt 0 [] [.l 1,.l 0]),y 11 true (.mv v6),y 12 true (.ca N.fK 0 [] [.l 1,.l 0]),u (.pk (.l 13) l0 (.b false))] [] 0 (.seq (.reg [m v5,m v6,u (.bs [.l 0] 1),u (.app l2 l0 true 1),w 5 (.mv l0)] []) (.exit 2)) .skip)) (.reg [m v7,u (.bin .add l0 (.i 1)),w 7 (.mv l0)] [])))
def oA:C:= .loop true [0,4] K.ei
def ij:C:=(.seq (.ite [m v6,u (.bin .lss l0 (.i 64))] [] 0 .skip (.exit 0)) (.seq (.blk 1 (.seq (.reg [w 7 (.mv (.i 0))] []) (.blk 2 K.oA))) (.reg [m v6,u (.bin .add l0 (.i 1)),w 6 (.mv l0)] [])))
def oB:C:= .loop true [0,4,7] K.ij
def dq:Fn:={ nargs:=3,vars:=[0,1,2,3,6,7,8,9],body:=(.seq (.reg [w 3 (.bx v0 1),w 4 (.mv (.c (.nil)))] []) (.seq (.reg [w 5 (.nw 1)] []) (.seq (.seq (.reg [w 6 (.mv (.i 0))] []) (.blk 0 K.oB)) (.seq (.reg [m v5,w 4 (.mv l0)] []) .ret)))),res:=[(4,none)]}
def dv:Fn:={ nargs:=2,vars:=[0,1,4],body:=(.seq (.reg [w 2 (.mv (.b false))] []) (.seq (.reg [m v0,m v1,u (.ca N.aA 0 [] [.l 1,.l 0]),m v1,u (.bin .sub l0 (.i 1)),u (.bin .eql l2 l0),w 2 (.mv l0)] []) .ret)),res:=[(2,none)]}
def ik:C:=(.seq (.ite [m v4,m v1,u (.bin .lss l1 l0)] [] 0 .skip (.exit 0)) (.seq (.blk 1 (.ite [m v0,u (.ca N.aA 0 [] [.l 0,.i 3]),u (.bin .eql l0 (.i 0))] [] 0 (.reg [m v3,m v4,u (.bs [.l 0] 1),u (.app l2 l0 true 1),w 3 (.mv l0)] []) .skip)) (.reg [m v4,u (.bin .add l0 (.i 1)),w 4 (.mv l0)] [])))
def oC:C:= .loop true [2] K.ik
def bV:Fn:={ nargs:=2,vars:=[0,1,4,5,6],body:=(.seq (.reg [w 2 (.mv (.c (.nil)))] []) (.seq (.reg [w 3 (.nw 1)] []) (.seq (.seq (.reg [w 4 (.mv (.i 0))] []) (.blk 0 K.oC)) (.seq (.reg [m v3,w 2 (.mv l0)] []) .ret)))),res:=[(2,none)]}
def j5:C:=(.seq (.ite [m v8,m v1,u (.ln l0),u (.bin .lss l2 l0)] [] 0 .skip (.exit 0)) (.seq (.blk 1 (.seq (.reg [w 9 (.al [.t (.int .i64 (0)),.nil] []),h 2 v4,m v2,m v8,a 1 l1 l0,g l0,m v3,u (.ca N.dw 0 [] [.l 5,.l 1,.l 0]),m l0,u (.ex l0 0),u (.ex l1 1),u (.st l10 l1 2 []),w 10 (.mv l1)] [(0,8)]) (.seq (.ite [m v10,u (.bin .neq l0 (.i 0))] [] 0 (.seq (.reg [u (.bd [.nil] []),m v10,u (.st v5 l1 1 []),w 6 (.mv l1)] []) .ret) .skip) (.reg [f 1 v7,g l0,h 2 v9,u (.bs [.l 0] 2),u (.app l2 l0 true 2),f 1 v7,u (.st l0 l1 1 [])] [])))) (.reg [m v8,u (.bin .add l0 (.i 1)),w 8 (.mv l0)] [])))
def rO:C:= .loop true [0,6,9,10] K.j5
def cV:Fn:={ nargs:=4,vars:=[0,1,2,3,4,8,9,10,11,12,13],body:=(.seq (.reg [w 4 (.bx v0 2),w 5 (.al [.nil] []),w 6 (.mv (.i 0))] []) (.seq (.ite [h 2 v4,u (.ca N.cW 0 [] [.l 0]),u (.bin .neq l0 (.i 0)),m l0,y 0 false (.mv v1),y 1 false (.ln l0),y 2 false (.mv v2),y 3 false (.ln l0),y 4 false (.bin .neq l2 l0),u (.pk l5 (.b true) l0),m l0,y 0 false (.mv v1),y 1 false (.ln l0),y 2 false (.bin .lss l0 (.i 1)),u (.pk l3 (.b true) l0),m l0,y 0 false (.mv v1),y 1 false (.ln l0),y 2 false (.bin .gtr l0 (.i 12)),u (.pk l3 (.b true) l0)] [] 0 (.seq (.reg [u (.bd [.nil] []),u (.st v5 l0 1 []),w 6 (.mv (.i 6))] []) .ret) .skip) (.seq (.ite [m v1,u (.ca N.dW 0 [] [.l 0]),u (.un .not l0)] [] 0 (.seq (.reg [u (.bd [.nil] []),u (.st v5 l0 1 []),w 6 (.mv (.i 41))] []) .ret) .skip) (.seq (.reg [m v1,u (.app (.c (.nil)) l0 true 1),u (.bd [.nil,.nil] [(0,1,.l 0)]),w 7 (.al [.nil,.nil] [(1,2)]),u (.st l0 l1 2 [(1,2)])] []) (.seq (.seq (.reg [w 8 (.mv (.i 0))] []) (.blk 0 K.rO)) (.seq (.reg [h 2 v7,u (.bs [.l 0] 2),u (.bd [.nil] [(0,1,.l 0)]),u (.st v5 l0 1 []),w 6 (.mv (.i 0))] []) .ret)))))),res:=[(5,some (1,true)),(6,none)]}
def fL:C:=(.seq (.ite [m v11,f 0 v6,g l0,u (.ln l0),u (.bin .lss l3 l0)] [] 0 .skip (.exit 0)) (.seq (.blk 1 (.seq (.reg [f 0 v6,g l0,m v11,a 2 l1 l0,h 2 l0,u (.ca N.bw 1 [] [.l 0]),w 12 (.al [.nil,.nil] []),u (.st l0 l1 2 [])] []) (.seq (.ite [f 1 v12,g l0,m v2,a 2 l1 l0,h 2 l0,f 1 v12,g l0,m v3,a 2 l1 l0,h 2 l0,m v4,u (.ca N.gM 0 [] [.l 6,.l 1,.l 0]),u (.un .not l0)] [] 0 (.exit 1) .skip) (.seq (.reg [f 0 v12,g l0,m v2,f 0 v12,g l0,m v3,f 0 v12,g l0,m v3,a 1 l1 l0,g l0,f 0 v12,g l0,m v2,a 1 l1 l0,g l0,a 1 (.l 14) (.l 13),u (.st l0 l6 1 []),a 1 (.l 13) (.l 12),u (.st l0 l3 1 [])] [(4,18)]) (.seq (.reg [f 1 v12,g l0,m v2,f 1 v12,g l0,m v2,a 2 l1 l0,h 2 l0,m v4,u (.ca N.dI 0 [] [.l 1,.l 0]),m l0,u (.ex l0 0),u (.ex l1 1),a 2 l11 l10,u (.st l0 l2 2 [])] [(1,10)]) (.seq (.reg [f 1 v12,g l0,m v3,f 1 v12,g l0,m v3,a 2 l1 l0,h 2 l0,m v4,u (.ca N.dI 0 [] [.l 1,.l 0]),m l0,u (.ex l0 0),u (.ex l1 1),a 2 l11 l10,u (.st l0 l2 2 [])] [(1,10)]) (.reg [m v10,h 2 v12,u (.bs [.l 0] 2),u (.app l2 l0 true 2),w 10 (.mv l0)] []))))))) (.reg [m v11,u (.bin .add l0 (.i 1)),w 11 (.mv l0)] [])))
def oD:C:= .loop true [0,1,5,8,9,12] K.fL
def bk:Fn:={ nargs:=5,vars:=[0,1,2,3,4,5,6,10,11,12,13,14,15],body:=(.seq (.reg [w 5 (.bx v0 2),w 6 (.bx v1 1),w 7 (.al [.nil] []),w 8 (.mv (.i 0))] []) (.seq (.reg [h 1 v6,u (.ca N.dH 0 [] [.l 0]),u (.st v6 l0 1 [])] []) (.seq (.ite [h 2 v5,h 1 v6,u (.ca N.cF 0 [] [.l 1,.l 0]),u (.un .not l0)] [] 0 (.seq (.reg [h 1 v6,u (.st v7 l0 1 []),w 8 (.mv (.i 6))] []) .ret) .skip) (.seq (.reg [f 0 v6,g l0,a 2 l0 (.i 0),f 0 l0,g l0,u (.ln l0),w 9 (.mv l0)] []) (.seq (.ite [m v2,u (.bin .lss l0 (.i 0)),m l0,y 0 false (.mv v2),y 1 false (.mv v9),y 2 false (.bin .geq l1 l0),u (.pk l3 (.b true) l0),m l0,y 0 false (.mv v3),y 1 false (.bin .lss l0 (.i 0)),u (.pk l2 (.b true) l0),m l0,y 0 false (.mv v3),y 1 false (.mv v9),y 2 false (.bin .geq l1 l0),u (.pk l3 (.b true) l0),m l0,y 0 false (.mv v2),y 1 false (.mv v3),y 2 false (.bin .eql l1 l0),u (.pk l3 (.b true) l0)] [] 0 (.seq (.reg [h 1 v6,u (.st v7 l0 1 []),w 8 (.mv (.i 19))] []) .ret) .skip) (.seq (.ite [m v4,u (.bin .lss l0 (.i 0)),m l0,y 0 false (.mv v4),y 1 false (.bin .gtr l0 (.i 2147483648)),u (.pk l2 (.b true) l0)] [] 0 (.seq (.reg [h 1 v6,u (.st v7 l0 1 []),w 8 (.mv (.i 8))] []) .ret) .skip) (.seq (.reg [h 1 v6,u (.ca N.dH 1 [] [.l 0]),u (.fl l0 0 1 false),w 10 (.mv l0)] []) (.seq (.seq (.reg [w 11 (.mv (.i 0))] []) (.blk 0 K.oD)) (.seq (.reg [m v10,u (.ca N.gN 1 [] [.l 0]),w 10 (.mv l0)] []) (.seq (.ite [m v10,u (.ln l0),u (.bin .gtr l0 (.i 24))] [] 0 (.seq (.reg [h 1 v6,u (.st v7 l0 1 []),w 8 (.mv (.i 44))] []) .ret) .skip) (.seq (.reg [m v10,u (.bd [.nil] [(0,1,.l 0)]),u (.st v7 l0 1 []),w 8 (.mv (.i 0))] []) .ret))))))))))),res:=[(7,some (1,true)),(8,none)]}
def dS:C:=(.seq (.ite [m v12,f 0 v7,g l0,u (.ln l0),u (.bin .lss l3 l0)] [] 0 .skip (.exit 0)) (.seq (.blk 1 (.seq (.reg [f 0 v7,g l0,m v12,a 2 l1 l0,h 2 l0,u (.ca N.bw 1 [] [.l 0]),w 13 (.al [.nil,.nil] []),u (.st l0 l1 2 [])] []) (.seq (.reg [f 0 v13,g l0,m v2,u (.ca N.cH 0 [] [.l 1,.l 0]),w 14 (.mv l0)] []) (.seq (.reg [w 15 (.al [.t (.int .i64 (0)),.nil] []),h 2 v6,f 1 v13,g l0,m v14,a 2 l1 l0,h 2 l0,m v3,m v4,m v5,u (.ca N.gG 0 [] [.l 8,.l 3,.l 2,.l 1,.l 0]),m l0,u (.ex l0 0),u (.ex l1 1),u (.st (.l 13) l1 2 []),w 16 (.mv l1)] [(0,11)]) (.seq (.seq (.reg [w 17 (.mv v16)] []) (.blk 2 (.seq (.seq (.reg [u (.bin .eql v17 (.i 6)),w 18 (.mv l0)] []) (.itv 18 .skip (.reg [u (.bin .eql v17 (.i 8)),w 18 (.mv l0)] []))) (.itv 18 (.seq (.reg [h 1 v7,m v16,u (.st v8 l1 1 []),w 9 (.mv l1)] []) .ret) (.ite [u (.bin .eql v17 (.i 43)),m l0] [] 0 (.exit 1) (.ite [u (.bin .eql v17 (.i 0)),m l0] [] 0 (.reg [f 1 v13,g l0,m v14,h 2 v15,a 2 l2 l1,u (.st l0 l1 2 [])] []) .skip)))))) (.reg [f 0 v11,g l0,h 2 v13,u (.bs [.l 0] 2),u (.app l2 l0 true 2),f 0 v11,u (.st l0 l1 1 [])] [])))))) (.reg [m v12,u (.bin .add l0 (.i 1)),w 12 (.mv l0)] [])))
def qt:C:= .loop true [0,1,9,10,13,14,15,16,17,18] K.dS
def gg:Fn:={ nargs:=6,vars:=[0,1,2,3,4,5,6,7,12,13,14,15,16,17,18,19,20,61,62],body:=(.seq (.reg [w 6 (.bx v0 2),w 7 (.bx v1 1),w 8 (.al [.nil] []),w 9 (.mv (.i 0))] []) (.seq (.reg [h 1 v7,u (.ca N.dH 0 [] [.l 0]),u (.st v7 l0 1 [])] []) (.seq (.seq (.reg [h 2 v6,h 1 v7,m v2,u (.ca N.dJ 0 [] [.l 2,.l 1,.l 0]),w 10 (.mv l0)] []) (.ite [m v10,u (.bin .neq l0 (.i 0))] [] 0 (.seq (.reg [h 1 v7,m v10,u (.st v8 l1 1 []),w 9 (.mv l1)] []) .ret) .skip)) (.seq (.reg [w 11 (.al [.nil] [(0,2)])] []) (.seq (.seq (.reg [w 12 (.mv (.i 0))] []) (.blk 0 K.qt)) (.seq (.ite [f 0 v11,g l0,u (.ln l0),u (.bin .eql l0 (.i 0))] [] 0 (.seq (.reg [h 1 v7,u (.st v8 l0 1 []),w 9 (.mv (.i 43))] []) .ret) .skip) (.seq (.reg [h 1 v11,u (.st v8 l0 1 []),w 9 (.mv (.i 0))] []) .ret))))))),res:=[(8,some (1,true)),(9,none)]}
def cR:C:=(.seq (.ite [m v13,f 0 v8,g l0,u (.ln l0),u (.bin .lss l3 l0)] [] 0 .skip (.exit 0)) (.seq (.blk 1 (.seq (.reg [f 0 v8,g l0,m v13,a 2 l1 l0,h 2 l0,u (.ca N.bw 1 [] [.l 0]),w 14 (.al [.nil,.nil] []),u (.st l0 l1 2 [])] []) (.seq (.reg [f 0 v14,g l0,m v2,u (.ca N.cH 0 [] [.l 1,.l 0]),w 15 (.mv l0)] []) (.seq (.reg [w 16 (.al [.t (.int .i64 (0)),.nil] []),h 2 v7,f 1 v14,g l0,m v15,a 2 l1 l0,h 2 l0,m v3,m v4,m v5,m v6,u (.ca N.cI 0 [2] [.l 9,.l 4,.l 3,.l 2,.l 1,.l 0]),m l0,u (.ex l0 0),u (.ex l1 1),u (.st (.l 14) l1 2 []),w 17 (.mv l1)] [(0,12)]) (.seq (.ite [m v17,u (.bin .eql l0 (.i 6)),m l0,y 0 false (.mv v17),y 1 false (.bin .eql l0 (.i 8)),u (.pk l2 (.b true) l0)] [] 0 (.seq (.reg [h 1 v8,m v17,u (.st v9 l1 1 []),w 10 (.mv l1)] []) .ret) .skip) (.seq (.ite [m v17,u (.bin .eql l0 (.i 0))] [] 0 (.reg [f 1 v14,g l0,m v15,h 2 v16,a 2 l2 l1,u (.st l0 l1 2 [])] []) .skip) (.reg [f 0 v12,g l0,h 2 v14,u (.bs [.l 0] 2),u (.app l2 l0 true 2),f 0 v12,u (.st l0 l1 1 [])] []))))))) (.reg [m v13,u (.bin .add l0 (.i 1)),w 13 (.mv l0)] [])))
def mC:C:= .loop true [0,1,10,11,14,15,16,17] K.cR
def dC:Fn:={ nargs:=7,vars:=[0,1,2,3,4,5,6,7,8,14,15,16,17,18,19,20,21,22],body:=(.seq (.reg [w 7 (.bx v0 2),w 8 (.bx v1 1),w 9 (.al [.nil] []),w 10 (.mv (.i 0))] []) (.seq (.reg [h 1 v8,u (.ca N.dH 0 [] [.l 0]),u (.st v8 l0 1 [])] []) (.seq (.seq (.reg [h 2 v7,h 1 v8,m v2,u (.ca N.dJ 0 [] [.l 2,.l 1,.l 0]),w 11 (.mv l0)] []) (.ite [m v11,u (.bin .neq l0 (.i 0))] [] 0 (.seq (.reg [h 1 v8,m v11,u (.st v9 l1 1 []),w 10 (.mv l1)] []) .ret) .skip)) (.seq (.reg [w 12 (.al [.nil] [(0,2)])] []) (.seq (.seq (.reg [w 13 (.mv (.i 0))] []) (.blk 0 K.mC)) (.seq (.reg [h 1 v12,u (.st v9 l0 1 []),w 10 (.mv (.i 0))] []) .ret)))))),res:=[(9,some (1,true)),(10,none)]}
def jt:Fn:={ nargs:=2,vars:=[0,1,4],body:=(.seq (.reg [w 2 (.mv (.i 0))] []) (.seq (.ite [m v1,u (.bin .lss l0 (.i 1))] [] 0 (.seq (.reg [w 2 (.mv (.i 0))] []) .ret) .skip) (.seq (.reg [m v0,m v1,u (.bin .rem l1 l0),w 0 (.mv l0)] []) (.seq (.ite [m v0,u (.bin .lss l0 (.i 0))] [] 0 (.reg [m v0,m v1,u (.bin .add l1 l0),w 0 (.mv l0)] []) .skip) (.seq (.reg [m v0,w 2 (.mv l0)] []) .ret))))),res:=[(2,none)]}
def im:C:=(.seq (.ite [m v5,f 1 v2,g l0,u (.ln l0),u (.bin .lss l3 l0)] [] 0 .skip (.exit 0)) (.seq (.blk 1 (.ite [f 1 v2,g l0,m v5,a 1 l1 l0,g l0,m v1,u (.bin .leq l1 l0)] [] 0 (.reg [m v4,m v5,u (.bs [.l 0] 1),u (.app l2 l0 true 1),w 4 (.mv l0)] []) .skip)) (.reg [m v5,u (.bin .add l0 (.i 1)),w 5 (.mv l0)] [])))
def oE:C:= .loop true [0,3] K.im
def dt:Fn:={ nargs:=2,vars:=[0,1,2,4,5,6],body:=(.seq (.reg [w 2 (.bx v0 2),w 3 (.mv (.c (.nil)))] []) (.seq (.reg [w 4 (.nw 1)] []) (.seq (.seq (.reg [w 5 (.mv (.i 0))] []) (.blk 0 K.oE)) (.seq (.reg [m v4,w 3 (.mv l0)] []) .ret)))),res:=[(3,none)]}
def mD:C:=(.seq (.ite [m v3,f 0 v1,g l0,u (.ln l0),u (.bin .lss l3 l0)] [] 0 .skip (.exit 0)) (.seq (.blk 1 (.seq (.reg [f 0 v1,g l0,m v3,a 2 l1 l0,f 0 l0,g l0,w 4 (.mv l0)] []) (.ite [m v4,u (.bin .lss l0 (.i (-10000))),m l0,y 0 false (.mv v4),y 1 false (.bin .gtr l0 (.i 10000)),u (.pk l2 (.b true) l0)] [] 0 (.seq (.reg [w 2 (.mv (.i 1))] []) .ret) .skip))) (.reg [m v3,u (.bin .add l0 (.i 1)),w 3 (.mv l0)] [])))
def rP:C:= .loop true [0,2,4,5,6] K.mD
def mE:C:=(.seq (.ite [m v5,f 1 v1,g l0,u (.ln l0),u (.bin .lss l3 l0)] [] 0 .skip (.exit 2)) (.seq (.blk 3 (.seq (.reg [f 1 v1,g l0,m v5,a 10 l1 l0,h 10 l0,w 6 (.al [.t (.int .i64 (0)),.t (.int .i64 (0)),.t (.int .i64 (0)),.t (.int .i64 (0)),.t (.bool false),.t (.bool false),.t (.int .i64 (0)),.t (.int .i64 (0)),.t (.int .i64 (0)),.t (.int .i64 (0))] []),u (.st l0 l1 10 [])] []) (.seq (.ite [f 0 v6,g l0,u (.bin .lss l0 (.i 0)),m l0,y 0 false (.fa v6 0),y 1 false (.ld l0 1 false),y 2 false (.fa v1 0),y 3 false (.ld l0 1 false),y 4 false (.ln l0),y 5 false (.bin .geq l3 l0),u (.pk l6 (.b true) l0),m l0,y 0 false (.fa v6 1),y 1 false (.ld l0 1 false),y 2 false (.bin .lss l0 (.i 0)),u (.pk l3 (.b true) l0),m l0,y 0 false (.fa v6 1),y 1 false (.ld l0 1 false),y 2 false (.fa v1 0),y 3 false (.ld l0 1 false),y 4 false (.ln l0),y 5 false (.bin .geq l3 l0),u (.pk l6 (.b true) l0),m l0,y 0 false (.fa v6 0),y 1 false (.ld l0 1 false),y 2 false (.fa v6 1),y 3 false (.ld l0 1 false),y 4 false (.bin .eql l2 l0),u (.pk l5 (.b true) l0)] [] 0 (.seq (.reg [w 2 (.mv (.i 4))] []) .ret) .skip) (.ite [f 2 v6,g l0,u (.bin .lss l0 (.i 1)),m l0,y 0 false (.fa v6 2),y 1 false (.ld l0 1 false),y 2 false (.bin .gtr l0 (.i 100000)),u (.pk l3 (.b true) l0),m l0,y 0 false (.fa v6 3),y 1 false (.ld l0 1 false),y 2 false (.bin .lss l0 (.i 1)),u (.pk l3 (.b true) l0),m l0,y 0 false (.fa v6 3),y 1 false (.ld l0 1 false),y 2 false (.bin .gtr l0 (.i 1000)),u (.pk l3 (.b true) l0),m l0,y 0 false (.fa v6 6),y 1 false (.ld l0 2 true),y 2 false (.ca N.gh 0 [] [.l 0,.i 1,.i 262144]),y 3 false (.un .not l0),u (.pk l4 (.b true) l0),m l0,y 0 false (.fa v6 8),y 1 false (.ld l0 2 true),y 2 false (.ca N.gh 0 [] [.l 0,.i (-2199023255552),.i 2199023255552]),y 3 false (.un .not l0),u (.pk l4 (.b true) l0)] [] 0 (.seq (.reg [w 2 (.mv (.i 1))] []) .ret) .skip)))) (.reg [m v5,u (.bin .add l0 (.i 1)),w 5 (.mv l0)] [])))
def rQ:C:= .loop true [0,2,3,4,6] K.mE
def cW:Fn:={ nargs:=1,vars:=[0,1,2,3,4,5,6],body:=(.seq (.reg [w 1 (.bx v0 2),w 2 (.mv (.i 0))] []) (.seq (.ite [f 0 v1,g l0,u (.ln l0),u (.bin .gtr l0 (.i 64)),m l0,y 0 false (.fa v1 1),y 1 false (.ld l0 1 false),y 2 false (.ln l0),y 3 false (.bin .gtr l0 (.i 128)),u (.pk l4 (.b true) l0)] [] 0 (.seq (.reg [w 2 (.mv (.i 2))] []) .ret) .skip) (.seq (.seq (.reg [w 3 (.mv (.i 0))] []) (.blk 0 K.rP)) (.seq (.seq (.reg [w 5 (.mv (.i 0))] []) (.blk 2 K.rQ)) (.seq (.reg [w 2 (.mv (.i 0))] []) .ret))))),res:=[(2,none)]}
def gA:C:=(.seq (.ite [m v3,m v0,u (.ln l0),u (.bin .lss l2 l0)] [] 0 .skip (.exit 0)) (.seq (.blk 1 (.ite [m v0,m v3,a 1 l1 l0,g l0,u (.bin .lss l0 (.i 0)),m l0,y 0 false (.mv v0),y 1 false (.mv v3),y 2 false (.ia l1 l0 1),y 3 false (.ld l0 1 false),y 4 false (.mv v1),y 5 false (.bin .geq l1 l0),u (.pk l6 (.b true) l0),m l0,y 0 false (.mv v3),y 1 false (.bin .gtr l0 (.i 0)),y 2 false (.mv l0),y 0 true (.mv v0),y 1 true (.mv v3),y 2 true (.ia l1 l0 1),y 3 true (.ld l0 1 false),y 4 true (.mv v0),y 5 true (.mv v3),y 6 true (.bin .sub l0 (.i 1)),y 7 true (.ia l2 l0 1),y 8 true (.ld l0 1 false),y 9 true (.bin .leq l5 l0),y 13 false (.pk l10 l0 (.b false)),u (.pk (.l 14) (.b true) l0)] [] 0 (.seq (.reg [w 2 (.mv (.b false))] []) .ret) .skip)) (.reg [m v3,u (.bin .add l0 (.i 1)),w 3 (.mv l0)] [])))
def vT:C:= .loop true [2] K.gA
def iC:Fn:={ nargs:=2,vars:=[0,1,4,5],body:=(.seq (.reg [w 2 (.mv (.b false))] []) (.seq (.seq (.reg [w 3 (.mv (.i 0))] []) (.blk 0 K.vT)) (.seq (.reg [w 2 (.mv (.b true))] []) .ret))),res:=[(2,none)]}
def fG:C:=(.seq (.ite [m v2,m v0,u (.ln l0),u (.bin .lss l2 l0)] [] 0 .skip (.exit 0)) (.seq (.blk 1 (.ite [m v0,m v2,a 1 l1 l0,g l0,u (.bin .lss l0 (.i 1)),m l0,y 0 false (.mv v0),y 1 false (.mv v2),y 2 false (.ia l1 l0 1),y 3 false (.ld l0 1 false),y 4 false (.bin .gtr l0 (.i 65535)),u (.pk l5 (.b true) l0),m l0,y 0 false (.mv v0),y 1 false (.mv v2),y 2 false (.sc l1 none (some l0) 1),y 3 false (.mv v0),y 4 false (.mv v2),y 5 false (.ia l1 l0 1),y 6 false (.ld l0 1 false),y 7 false (.ca N.cH 0 [] [.l 4,.l 0]),y 8 false (.bin .geq l0 (.i 0)),u (.pk l9 (.b true) l0)] [] 0 (.seq (.reg [w 1 (.mv (.b false))] []) .ret) .skip)) (.reg [m v2,u (.bin .add l0 (.i 1)),w 2 (.mv l0)] [])))
def qu:C:= .loop true [1] K.fG
def dW:Fn:={ nargs:=1,vars:=[0,2,3],body:=(.seq (.reg [w 1 (.mv (.b false))] []) (.seq (.seq (.reg [w 2 (.mv (.i 0))] []) (.blk 0 K.qu)) (.seq (.reg [w 1 (.mv (.b true))] []) .ret))),res:=[(1,none)]}
def dw:Fn:={ nargs:=3,vars:=[0,1,2,3,6,7,8],body:=(.seq (.reg [w 3 (.bx v0 2),w 4 (.al [.t (.int .i64 (0)),.nil] []),w 5 (.mv (.i 0))] []) (.seq (.blk 0 (.ite [h 2 v3,u (.ca N.cW 0 [] [.l 0]),u (.bin .neq l0 (.i 0)),m l0] [] 0 (.seq (.reg [u (.bd [.t (.int .i64 (0)),.nil] []),u (.st v4 l0 2 []),w 5 (.mv (.i 6))] []) .ret) (.ite [m v1,u (.bin .lss l0 (.i 0)),m l0,y 0 false (.mv v1),y 1 false (.fa v3 0),y 2 false (.ld l0 1 false),y 3 false (.ln l0),y 4 false (.bin .geq l3 l0),u (.pk l5 (.b true) l0),m l0] [] 0 (.seq (.reg [u (.bd [.t (.int .i64 (0)),.nil] []),u (.st v4 l0 2 []),w 5 (.mv (.i 3))] []) .ret) (.ite [m v2,u (.ca N.de 0 [] [.l 0]),u (.un .not l0),m l0] [] 0 (.seq (.reg [u (.bd [.t (.int .i64 (0)),.nil] []),u (.st v4 l0 2 []),w 5 (.mv (.i 8))] []) .ret) .skip)))) (.seq (.reg [f 0 v3,g l0,u (.ln l0),u (.ca N.fe 1 [] [.l 0]),w 6 (.mv l0)] []) (.seq (.reg [m v6,m v1,m v2,a 1 l2 l1,u (.st l0 l1 1 [])] []) (.seq (.reg [m v2,h 2 v3,m v6,m v2,u (.ca N.dL 0 [] [.l 2,.l 1,.l 0]),u (.bd [.t (.int .i64 (0)),.nil] [(0,1,.l 4),(1,1,.l 0)]),u (.st v4 l0 2 []),w 5 (.mv (.i 0))] []) .ret))))),res:=[(4,some (2,true)),(5,none)]}
end Go.Ev.K
namespace Go.Ev
class cn [Lib]:Prop where
 qv:Lib.fs N.gL=some K.gL
 sD:Lib.fs N.i9=some K.i9
 lC:Lib.fs N.cj=some K.cj
 j6:Lib.fs N.bR=some K.bR
 lD:Lib.fs N.aA=some K.aA
 nI:Lib.fs N.c8=some K.c8
 sE:Lib.fs N.fK=some K.fK
 lE:Lib.fs N.dq=some K.dq
 mF:Lib.fs N.dv=some K.dv
 lF:Lib.fs N.bV=some K.bV
 o5:Lib.fs N.cV=some K.cV
 lG:Lib.fs N.bk=some K.bk
 sF:Lib.fs N.gg=some K.gg
 nJ:Lib.fs N.dC=some K.dC
 uX:Lib.fs N.jt=some K.jt
 lH:Lib.fs N.dt=some K.dt
 o6:Lib.fs N.cW=some K.cW
 sG:Lib.fs N.iC=some K.iC
 nK:Lib.fs N.dW=some K.dW
 o7:Lib.fs N.dw=some K.dw
namespace K
variable [Lib] [cn]
theorem qv:Lib.fs N.gL=some K.gL:=cn.qv
theorem sD:Lib.fs N.i9=some K.i9:=cn.sD
theorem lC:Lib.fs N.cj=some K.cj:=cn.lC
theorem j6:Lib.fs N.bR=some K.bR:=cn.j6
theorem lD:Lib.fs N.aA=some K.aA:=cn.lD
theorem nI:Lib.fs N.c8=some K.c8:=cn.nI
theorem sE:Lib.fs N.fK=some K.fK:=cn.sE
theorem lE:Lib.fs N.dq=some K.dq:=cn.lE
theorem mF:Lib.fs N.dv=some K.dv:=cn.mF
theorem lF:Lib.fs N.bV=some K.bV:=cn.lF
theorem o5:Lib.fs N.cV=some K.cV:=cn.o5
theorem lG:Lib.fs N.bk=some K.bk:=cn.lG
theorem sF:Lib.fs N.gg=some K.gg:=cn.sF
theorem nJ:Lib.fs N.dC=some K.dC:=cn.nJ
theorem uX:Lib.fs N.jt=some K.jt:=cn.uX
theorem lH:Lib.fs N.dt=some K.dt:=cn.lH
theorem o6:Lib.fs N.cW=some K.cW:=cn.o6
theorem sG:Lib.fs N.iC=some K.iC:=cn.sG
theorem nK:Lib.fs N.dW=some K.dW:=cn.nK
theorem o7:Lib.fs N.dw=some K.dw:=cn.o7
end K
end Go.Ev
namespace Go.Ev.K
open Go.Ev
def nL:C:=(.seq (.ite [m v4,f 0 v1,g l0,u (.ln l0),u (.bin .lss l3 l0)] [] 0 .skip (.exit 0)) (.seq (.blk 1 (.reg [f 0 v3,g l0,f 0 v1,g l0,m v4,a 2 l1 l0,h 2 l0,u (.ca N.bw 0 [] [.l 0]),u (.bs [.l 0] 2),u (.app l7 l0 true 2),f 0 v3,u (.st l0 l1 1 [])] [(1,8),(1,9)])) (.reg [m v4,u (.bin .add l0 (.i 1)),w 4 (.mv l0)] [])))
def tR:C:= .loop true [0] K.nL
def dH:Fn:={ nargs:=1,vars:=[0,1,2,3,4],body:=(.seq (.reg [w 1 (.bx v0 1),w 2 (.al [.nil] [])] []) (.seq (.reg [w 3 (.al [.nil] [(0,2)])] []) (.seq (.seq (.reg [w 4 (.mv (.i 0))] []) (.blk 0 K.tR)) (.seq (.reg [h 1 v3,u (.st v2 l0 1 [])] []) .ret)))),res:=[(2,some (1,true))]}
def gn:C:=(.seq (.ite [m v8,f 0 v7,g l0,u (.ln l0),u (.bin .lss l3 l0)] [] 0 .skip (.exit 2)) (.seq (.blk 3 (.ite [m v5,f 0 v7,g l0,m v8,a 1 l1 l0,g l0,u (.ca N.cH 0 [] [.l 5,.l 0]),u (.bin .lss l0 (.i 0)),m l0,y 0 false (.ld v2 2 true),y 1 false (.fa v7 1),y 2 false (.ld l0 1 false),y 3 false (.mv v8),y 4 false (.ia l1 l0 2),y 5 false (.ld l0 2 true),y 6 false (.ca N.ew 0 [] [.l 5,.l 0]),y 7 false (.un .not l0),u (.pk l8 (.b true) l0)] [] 0 (.seq (.reg [w 4 (.mv (.b false))] []) .ret) .skip)) (.reg [m v8,u (.bin .add l0 (.i 1)),w 8 (.mv l0)] [])))
def nM:C:= .loop true [0,1,4] K.gn
def bK:C:=(.seq (.ite [m v6,f 0 v3,g l0,u (.ln l0),u (.bin .lss l3 l0)] [] 0 .skip (.exit 0)) (.seq (.blk 1 (.seq (.reg [f 0 v3,g l0,m v6,a 2 l1 l0,h 2 l0,w 7 (.al [.nil,.nil] []),u (.st l0 l1 2 [])] []) (.seq (.ite [f 0 v7,g l0,u (.ln l0),m v5,u (.ln l0),u (.bin .neq l2 l0),m l0,y 0 false (.fa v7 1),y 1 false (.ld l0 1 false),y 2 false (.ln l0),y 3 false (.mv v5),y 4 false (.ln l0),y 5 false (.bin .neq l2 l0),u (.pk l6 (.b true) l0),m l0,y 0 false (.fa v7 0),y 1 false (.ld l0 1 false),y 2 false (.ca N.dW 0 [] [.l 0]),y 3 false (.un .not l0),u (.pk l4 (.b true) l0),m l0,y 0 false (.mv v6),y 1 false (.bin .gtr l0 (.i 0)),y 2 false (.mv l0),y 0 true (.fa v3 0),y 1 true (.ld l0 1 false),y 2 true (.mv v6),y 3 true (.bin .sub l0 (.i 1)),y 4 true (.ia l2 l0 2),y 5 true (.fa l0 0),y 6 true (.ld l0 1 false),y 7 true (.fa v7 0),y 8 true (.ld l0 1 false),y 9 true (.ca N.gj 0 [] [.l 2,.l 0]),y 10 true (.un .not l0),y 14 false (.pk l11 l0 (.b false)),u (.pk (.l 15) (.b true) l0)] [] 0 (.seq (.reg [w 4 (.mv (.b false))] []) .ret) .skip) (.seq (.reg [w 8 (.mv (.i 0))] []) (.blk 2 K.nM))))) (.reg [m v6,u (.bin .add l0 (.i 1)),w 6 (.mv l0)] [])))
def nN:C:= .loop true [0,1,4,7,8] K.bK
def cF:Fn:={ nargs:=2,vars:=[0,1,2,3,4,5,6,7,8],body:=(.seq (.reg [w 2 (.bx v0 2),w 3 (.bx v1 1),w 4 (.mv (.b false))] []) (.seq (.ite [f 0 v3,g l0,u (.ln l0),u (.bin .lss l0 (.i 1)),m l0,y 0 false (.fa v3 0),y 1 false (.ld l0 1 false),y 2 false (.ln l0),y 3 false (.bin .gtr l0 (.i 24)),u (.pk l4 (.b true) l0),m l0,y 0 false (.ld v2 2 true),y 1 false (.ca N.cW 0 [] [.l 0]),y 2 false (.bin .neq l0 (.i 0)),u (.pk l3 (.b true) l0)] [] 0 (.seq (.reg [w 4 (.mv (.b false))] []) .ret) .skip) (.seq (.reg [f 0 v3,g l0,a 2 l0 (.i 0),f 0 l0,g l0,w 5 (.mv l0)] []) (.seq (.ite [m v5,u (.ln l0),u (.bin .lss l0 (.i 1)),m l0,y 0 false (.mv v5),y 1 false (.ln l0),y 2 false (.bin .gtr l0 (.i 12)),u (.pk l3 (.b true) l0)] [] 0 (.seq (.reg [w 4 (.mv (.b false))] []) .ret) .skip) (.seq (.seq (.reg [w 6 (.mv (.i 0))] []) (.blk 0 K.nN)) (.seq (.reg [w 4 (.mv (.b true))] []) .ret)))))),res:=[(4,none)]}
def jy:C:=(.seq (.ite [m v4,f 1 v1,g l0,u (.ln l0),u (.bin .lss l3 l0)] [] 0 .skip (.exit 0)) (.seq (.blk 1 (.reg [f 1 v3,g l0,f 1 v1,g l0,m v4,a 2 l1 l0,h 2 l0,u (.ca N.cK 0 [] [.l 0]),u (.bs [.l 0] 2),u (.app l7 l0 true 2),f 1 v3,u (.st l0 l1 1 [])] [(1,8),(1,9)])) (.reg [m v4,u (.bin .add l0 (.i 1)),w 4 (.mv l0)] [])))
def ng:C:= .loop true [0] K.jy
def bw:Fn:={ nargs:=1,vars:=[0,1,2,3,4],body:=(.seq (.reg [w 1 (.bx v0 2),w 2 (.al [.nil,.nil] [])] []) (.seq (.reg [f 0 v1,g l0,u (.app (.c (.nil)) l0 true 1),u (.bd [.nil,.nil] [(0,1,.l 0)]),w 3 (.al [.nil,.nil] [(1,2)]),u (.st l0 l1 2 [(1,2)])] []) (.seq (.seq (.reg [w 4 (.mv (.i 0))] []) (.blk 0 K.ng)) (.seq (.reg [h 2 v3,u (.st v2 l0 2 [])] []) .ret)))),res:=[(2,some (2,true))]}
def gP:C:=(.seq (.ite [m v6,f 1 v3,g l0,u (.ln l0),u (.bin .lss l3 l0),m l0,y 0 true (.mv v6),y 1 true (.fa v4 1),y 2 true (.ld l0 1 false),y 3 true (.ln l0),y 4 true (.bin .lss l3 l0),u (.pk l5 l0 (.b false))] [] 0 .skip (.exit 0)) (.seq (.blk 1 (.ite [f 1 v3,g l0,m v6,a 1 l1 l0,g l0,m v2,u (.bin .leq l1 l0),m l0,y 0 true (.fa v4 1),y 1 true (.ld l0 1 false),y 2 true (.mv v6),y 3 true (.ia l1 l0 1),y 4 true (.ld l0 1 false),y 5 true (.mv v2),y 6 true (.bin .leq l1 l0),u (.pk l7 l0 (.b false))] [] 0 (.seq (.reg [w 5 (.mv (.b true))] []) .ret) .skip)) (.reg [m v6,u (.bin .add l0 (.i 1)),w 6 (.mv l0)] [])))
def tS:C:= .loop true [0,1,5] K.gP
def gM:Fn:={ nargs:=3,vars:=[0,1,2,3,4,6,7],body:=(.seq (.reg [w 3 (.bx v0 2),w 4 (.bx v1 2),w 5 (.mv (.b false))] []) (.seq (.seq (.reg [w 6 (.mv (.i 0))] []) (.blk 0 K.tS)) (.seq (.reg [w 5 (.mv (.b false))] []) .ret))),res:=[(5,none)]}
def dI:Fn:={ nargs:=2,vars:=[0,1,2,4,5],body:=(.seq (.reg [w 2 (.bx v0 2),w 3 (.al [.t (.int .i64 (0)),.nil] []),w 4 (.mv (.i 0))] []) (.seq (.reg [h 2 v2,u (.ca N.cK 0 [] [.l 0]),u (.st v2 l0 2 [])] []) (.seq (.ite [m v1,f 0 v2,g l0,u (.bin .lss l2 l0),m l0,y 0 false (.mv v1),y 1 false (.bin .gtr l0 (.i 2147483648)),u (.pk l2 (.b true) l0)] [] 0 (.seq (.reg [h 2 v2,u (.st v3 l0 2 []),w 4 (.mv (.i 8))] []) .ret) .skip) (.seq (.reg [m v1,f 0 v2,u (.st l0 l1 1 [])] []) (.seq (.reg [h 2 v2,u (.st v3 l0 2 []),w 4 (.mv (.i 0))] []) .ret))))),res:=[(3,some (2,true)),(4,none)]}
def ja:C:=(.seq (.ite [m v4,m v2,u (.ln l0),u (.bin .lss l2 l0),m l0,y 0 true (.mv v2),y 1 true (.mv v4),y 2 true (.ia l1 l0 2),y 3 true (.fa l0 0),y 4 true (.ld l0 1 false),y 5 true (.mv v0),y 6 true (.mv v3),y 7 true (.ia l1 l0 2),y 8 true (.fa l0 0),y 9 true (.ld l0 1 false),y 10 true (.ca N.gj 0 [] [.l 5,.l 0]),u (.pk l11 l0 (.b false))] [] 0 .skip (.exit 2)) (.blk 3 (.reg [m v4,u (.bin .add l0 (.i 1)),w 4 (.mv l0)] [])))
def o8:C:= .loop false [1,5] K.ja
def kT:C:=(.seq (.ite [m v5,m v2,m v4,a 2 l1 l0,f 1 l0,g l0,u (.ln l0),u (.bin .lss l6 l0),m l0,y 0 true (.mv v5),y 1 true (.mv v0),y 2 true (.mv v3),y 3 true (.ia l1 l0 2),y 4 true (.fa l0 1),y 5 true (.ld l0 1 false),y 6 true (.ln l0),y 7 true (.bin .lss l6 l0),u (.pk l8 l0 (.b false))] [] 0 .skip (.exit 4)) (.seq (.blk 5 (.reg [m v2,m v4,a 2 l1 l0,f 1 l0,g l0,m v5,m v2,m v4,a 2 l1 l0,f 1 l0,g l0,m v5,a 2 l1 l0,h 2 l0,m v0,m v3,a 2 l1 l0,f 1 l0,g l0,m v5,a 2 l1 l0,h 2 l0,u (.ca N.gk 0 [] [.l 8,.l 0]),m l0,u (.ex l0 0),u (.ex l1 1),a 2 (.l 21) (.l 20),u (.st l0 l2 2 [])] [(2,23),(4,23)])) (.reg [m v5,u (.bin .add l0 (.i 1)),w 5 (.mv l0)] [])))
def tT:C:= .loop false [1] K.kT
def dT:C:=(.seq (.ite [m v3,m v0,u (.ln l0),u (.bin .lss l2 l0)] [] 0 .skip (.exit 0)) (.seq (.blk 1 (.seq (.reg [w 4 (.mv (.i 0))] []) (.seq (.blk 2 K.o8) (.seq (.ite [m v4,m v2,u (.ln l0),u (.bin .lss l2 l0),m l0,y 0 true (.mv v2),y 1 true (.mv v4),y 2 true (.ia l1 l0 2),y 3 true (.fa l0 0),y 4 true (.ld l0 1 false),y 5 true (.mv v0),y 6 true (.mv v3),y 7 true (.ia l1 l0 2),y 8 true (.fa l0 0),y 9 true (.ld l0 1 false),y 10 true (.ca N.cm 0 [] [.l 5,.l 0]),u (.pk l11 l0 (.b false))] [] 0 (.seq (.seq (.reg [w 5 (.mv (.i 0))] []) (.blk 4 K.tT)) (.exit 1)) .skip) (.reg [m v2,m v4,u (.sc l1 none (some l0) 2),u (.app (.c (.nil)) l0 false 2),m v0,m v3,a 2 l1 l0,h 2 l0,u (.ca N.bw 1 [] [.l 0]),u (.bsr [.l 0] 2),u (.app l6 l0 false 2),m v2,m v4,u (.sc l1 (some l0) none 2),u (.app l3 l0 false 2),w 2 (.mv l0)] [(6,0),(7,0),(13,0),(13,4),(13,9),(13,10)]))))) (.reg [m v3,u (.bin .add l0 (.i 1)),w 3 (.mv l0)] [])))
def tU:C:= .loop false [1,4,5] K.dT
def gN:Fn:={ nargs:=1,vars:=[0,2,3,4,5,6],body:=(.seq (.reg [w 1 (.mv (.c (.nil)))] []) (.seq (.reg [w 2 (.mv (.c (.nil)))] []) (.seq (.seq (.reg [w 3 (.mv (.i 0))] []) (.blk 0 K.tU)) (.seq (.reg [m v2,w 1 (.mv l0)] []) .ret)))),res:=[(1,none)]}
def dJ:Fn:={ nargs:=3,vars:=[0,1,2,3,4,6],body:=(.seq (.reg [w 3 (.bx v0 2),w 4 (.bx v1 1),w 5 (.mv (.i 0))] []) (.seq (.ite [h 2 v3,h 1 v4,u (.ca N.cF 0 [] [.l 1,.l 0]),u (.un .not l0)] [] 0 (.seq (.reg [w 5 (.mv (.i 6))] []) .ret) .skip) (.seq (.ite [f 0 v4,g l0,a 2 l0 (.i 0),f 0 l0,g l0,m v2,u (.ca N.cH 0 [] [.l 1,.l 0]),u (.bin .lss l0 (.i 0))] [] 0 (.seq (.reg [w 5 (.mv (.i 41))] []) .ret) .skip) (.seq (.reg [w 5 (.mv (.i 0))] []) .ret)))),res:=[(5,none)]}
def ju:C:=(.seq (.ite [m v3,m v0,u (.ln l0),u (.bin .lss l2 l0)] [] 0 .skip (.exit 0)) (.seq (.blk 1 (.ite [m v0,m v3,a 1 l1 l0,g l0,m v1,u (.bin .eql l1 l0)] [] 0 (.seq (.reg [m v3,w 2 (.mv l0)] []) .ret) .skip)) (.reg [m v3,u (.bin .add l0 (.i 1)),w 3 (.mv l0)] [])))
def qw:C:= .loop true [2] K.ju
def cH:Fn:={ nargs:=2,vars:=[0,1,4,5],body:=(.seq (.reg [w 2 (.mv (.i 0))] []) (.seq (.seq (.reg [w 3 (.mv (.i 0))] []) (.blk 0 K.qw)) (.seq (.reg [w 2 (.mv (.i (-1)))] []) .ret))),res:=[(2,none)]}
def ma:C:=(.seq (.ite [m v12,m v2,u (.ln l0),u (.bin .lss l2 l0)] [] 0 .skip (.exit 0)) (.seq (.blk 1 (.seq (.reg [m v2,m v12,a 1 l1 l0,g l0,w 13 (.mv l0)] []) (.ite [f 1 v6,g l0,m v13,a 1 l1 l0,g l0,m v4,u (.bin .leq l1 l0)] [] 0 (.reg [m v10,m v13,f 1 v6,g l0,m v13,a 1 l1 l0,g l0,a 1 l6 l5,u (.st l0 l1 1 []),w 11 (.mv (.b true))] []) .skip))) (.reg [m v12,u (.bin .add l0 (.i 1)),w 12 (.mv l0)] [])))
def vU:C:= .loop true [0,1,8,9,13] K.ma
def gG:Fn:={ nargs:=5,vars:=[0,1,2,3,4,5,6,10,11,12,13,14,15,16],body:=(.seq (.reg [w 5 (.bx v0 2),w 6 (.bx v1 2),w 7 (.al [.t (.int .i64 (0)),.nil] []),w 8 (.mv (.i 0))] []) (.seq (.seq (.reg [h 2 v5,h 2 v6,m v2,m v3,m v4,u (.ca N.b8 0 [] [.l 4,.l 3,.l 2,.l 1,.l 0]),w 9 (.mv l0)] []) (.ite [m v9,u (.bin .neq l0 (.i 0))] [] 0 (.seq (.reg [h 2 v6,u (.ca N.cK 0 [] [.l 0]),m v9,u (.st v7 l1 2 []),w 8 (.mv l1)] []) .ret) .skip)) (.seq (.ite [m v3,f 0 v6,g l0,u (.bin .lss l2 l0)] [] 0 (.seq (.reg [h 2 v6,u (.ca N.cK 0 [] [.l 0]),u (.st v7 l0 2 []),w 8 (.mv (.i 42))] []) .ret) .skip) (.seq (.reg [f 0 v5,g l0,u (.ln l0),u (.ca N.fe 1 [] [.l 0]),w 10 (.mv l0)] []) (.seq (.reg [w 11 (.mv (.b false))] []) (.seq (.seq (.reg [w 12 (.mv (.i 0))] []) (.blk 0 K.vU)) (.seq (.ite [m v11,u (.un .not l0)] [] 0 (.seq (.reg [h 2 v6,u (.ca N.cK 0 [] [.l 0]),u (.st v7 l0 2 []),w 8 (.mv (.i 43))] []) .ret) .skip) (.seq (.reg [m v4,h 2 v5,m v10,m v3,u (.ca N.dL 0 [] [.l 2,.l 1,.l 0]),u (.bd [.t (.int .i64 (0)),.nil] [(0,1,.l 4),(1,1,.l 0)]),u (.st v7 l0 2 []),w 8 (.mv (.i 0))] []) .ret)))))))),res:=[(7,some (2,true)),(8,none)]}
def lI:C:=(.seq (.ite [m v12,m v2,u (.ln l0),u (.bin .lss l2 l0)] [] 0 .skip (.exit 0)) (.seq (.blk 1 (.reg [m v11,m v2,m v12,a 1 l1 l0,g l0,a 1 l4 l0,u (.st l0 (.i 1099511627776) 1 [])] [])) (.reg [m v12,u (.bin .add l0 (.i 1)),w 12 (.mv l0)] [])))
def qx:C:= .loop true [0,1,3,7,9,10] K.lI
def cI:Fn:={ nargs:=6,vars:=[0,1,2,3,4,5,6,7,12,13,14,15,16],body:=(.seq (.reg [w 6 (.bx v0 2),w 7 (.bx v1 2),w 8 (.al [.t (.int .i64 (0)),.nil] []),w 9 (.mv (.i 0))] []) (.seq (.seq (.reg [h 2 v6,h 2 v7,m v2,m v3,m v4,u (.ca N.b8 0 [] [.l 4,.l 3,.l 2,.l 1,.l 0]),w 10 (.mv l0)] []) (.ite [m v10,u (.bin .neq l0 (.i 0))] [] 0 (.seq (.reg [h 2 v7,u (.ca N.cK 0 [] [.l 0]),m v10,u (.st v8 l1 2 []),w 9 (.mv l1)] []) .ret) .skip)) (.seq (.ite [m v5,u (.ca N.de 0 [] [.l 0]),u (.un .not l0)] [] 0 (.seq (.reg [h 2 v7,u (.ca N.cK 0 [] [.l 0]),u (.st v8 l0 2 []),w 9 (.mv (.i 8))] []) .ret) .skip) (.seq (.ite [m v4,f 0 v7,g l0,u (.bin .lss l2 l0)] [] 0 (.seq (.reg [h 2 v7,u (.ca N.cK 0 [] [.l 0]),u (.st v8 l0 2 []),w 9 (.mv (.i 42))] []) .ret) .skip) (.seq (.ite [m v4,m v3,f 0 v7,g l0,u (.mx [.l 2,.l 0]),u (.bin .sub l4 l0),m v5,u (.bin .leq l1 l0)] [] 0 (.seq (.reg [h 2 v7,u (.ca N.cK 0 [] [.l 0]),u (.st v8 l0 2 []),w 9 (.mv (.i 0))] []) .ret) .skip) (.seq (.reg [f 1 v7,g l0,u (.app (.c (.nil)) l0 true 1),w 11 (.mv l0)] []) (.seq (.seq (.reg [w 12 (.mv (.i 0))] []) (.blk 0 K.qx)) (.seq (.reg [m v4,h 2 v6,h 2 v6,m v11,m v4,m v5,u (.bin .sub l1 l0),m v2,u (.ca N.ez 0 [3] [.l 5,.l 4,.l 1,.l 0]),m v4,u (.ca N.dL 0 [] [.l 8,.l 1,.l 0]),u (.bd [.t (.int .i64 (0)),.nil] [(0,1,.l 10),(1,1,.l 0)]),u (.st v8 l0 2 []),w 9 (.mv (.i 0))] [(1,9)]) .ret)))))))),res:=[(8,some (2,true)),(9,none)]}
def j7:C:=(.its [u (.bin .lss v6 v5)] [] 0 .skip (.exit 0) (.seq (.blk 1 (.seq (.reg [m v6,w 4 (.mv l0)] []) (.ite [m v1,m v4,u (.cw l1 0 [] [.l 0])] [] 0 (.reg [m v3,m v4,u (.bs [.l 0] 1),u (.app l2 l0 true 1),w 3 (.mv l0)] []) .skip))) (.reg [u (.bin .add v6 (.i 1)),w 6 (.mv l0)] [])))
def rR:C:= .loop true [0,2,4] K.j7
def dK:Fn:={ nargs:=2,vars:=[0,1,4,5,6,7,8],body:=(.seq (.reg [w 2 (.mv (.c (.nil)))] []) (.seq (.reg [w 3 (.nw 1)] []) (.seq (.seq (.reg [w 5 (.mv v0),w 6 (.mv (.i 0))] []) (.blk 0 K.rR)) (.seq (.reg [m v3,w 2 (.mv l0)] []) .ret)))),res:=[(2,none)]}
def aB:Fn:={ nargs:=2,vars:=[0,1,4],body:=(.seq (.reg [w 2 (.mv (.b false))] []) (.seq (.reg [m v0,m v1,u (.ca N.bh 0 [] [.l 1,.l 0]),u (.bin .geq l0 (.i 0)),w 2 (.mv l0)] []) .ret)),res:=[(2,none)]}
def aR:Fn:={ nargs:=2,vars:=[0,1,4],body:=(.seq (.reg [w 2 (.mv (.b false))] []) (.seq (.reg [m v0,m v1,u (.ca N.bD 0 [] [.l 1,.l 0]),u (.bin .geq l0 (.i 0)),w 2 (.mv l0)] []) .ret)),res:=[(2,none)]}
def gh:Fn:={ nargs:=3,vars:=[0,1,2,3,6],body:=(.seq (.reg [w 3 (.bx v0 2),w 4 (.mv (.b false))] []) (.seq (.reg [m v1,f 0 v3,g l0,u (.bin .leq l2 l0),m l0,y 0 true (.fa v3 0),y 1 true (.ld l0 1 false),y 2 true (.fa v3 1),y 3 true (.ld l0 1 false),y 4 true (.bin .leq l2 l0),u (.pk l5 l0 (.b false)),m l0,y 0 true (.fa v3 1),y 1 true (.ld l0 1 false),y 2 true (.mv v2),y 3 true (.bin .leq l1 l0),u (.pk l4 l0 (.b false)),w 4 (.mv l0)] []) .ret)),res:=[(4,none)]}
def de:Fn:={ nargs:=1,vars:=[0,2],body:=(.seq (.reg [w 1 (.mv (.b false))] []) (.seq (.reg [m v0,u (.bin .geq l0 (.i 0)),m l0,y 0 true (.mv v0),y 1 true (.bin .leq l0 (.i 2147483648)),u (.pk l2 l0 (.b false)),w 1 (.mv l0)] []) .ret)),res:=[(1,none)]}
def mG:C:=(.seq (.ite [m v3,m v0,u (.bin .lss l1 l0)] [] 0 .skip (.exit 0)) (.seq (.blk 1 (.reg [m v2,u (.bs [.i 1099511627776] 1),u (.app l1 l0 true 1),w 2 (.mv l0)] [])) (.reg [m v3,u (.bin .add l0 (.i 1)),w 3 (.mv l0)] [])))
def rS:C:= .loop true [1] K.mG
def fe:Fn:={ nargs:=1,vars:=[0,2,3,4],body:=(.seq (.reg [w 1 (.mv (.c (.nil)))] []) (.seq (.reg [w 2 (.nw 1)] []) (.seq (.seq (.reg [w 3 (.mv (.i 0))] []) (.blk 0 K.rS)) (.seq (.reg [m v2,w 1 (.mv l0)] []) .ret)))),res:=[(1,none)]}
def dL:Fn:={ nargs:=3,vars:=[0,1,2,3,6],body:=(.seq (.reg [w 3 (.bx v0 2),w 4 (.mv (.c (.nil)))] []) (.seq (.reg [h 2 v3,m v1,m v2,u (.ca N.ez 0 [3] [.l 2,.l 1,.l 0,.c (.nil)]),w 4 (.mv l0)] []) .ret)),res:=[(4,none)]}
def gQ:C:=(.seq (.ite [m v3,m v0,u (.ln l0),u (.bin .lss l2 l0),m l0,y 0 true (.mv v3),y 1 true (.mv v1),y 2 true (.ln l0),y 3 true (.bin .lss l2 l0),u (.pk l4 l0 (.b false))] [] 0 .skip (.exit 0)) (.seq (.blk 1 (.ite [m v0,m v3,a 1 l1 l0,g l0,m v1,m v3,a 1 l1 l0,g l0,u (.bin .neq l4 l0)] [] 0 (.seq (.reg [m v0,m v3,a 1 l1 l0,g l0,m v1,m v3,a 1 l1 l0,g l0,u (.bin .lss l4 l0),w 2 (.mv l0)] []) .ret) .skip)) (.reg [m v3,u (.bin .add l0 (.i 1)),w 3 (.mv l0)] [])))
def tV:C:= .loop true [2] K.gQ
def gj:Fn:={ nargs:=2,vars:=[0,1,4,5],body:=(.seq (.reg [w 2 (.mv (.b false))] []) (.seq (.seq (.reg [w 3 (.mv (.i 0))] []) (.blk 0 K.tV)) (.seq (.reg [m v0,u (.ln l0),m v1,u (.ln l0),u (.bin .lss l2 l0),w 2 (.mv l0)] []) .ret))),res:=[(2,none)]}
def ew:Fn:={ nargs:=2,vars:=[0,1,2,3,4],body:=(.seq (.reg [w 2 (.bx v0 2),w 3 (.bx v1 2),w 4 (.mv (.b false))] []) (.seq (.reg [h 2 v2,u (.ca N.cW 0 [] [.l 0]),u (.bin .eql l0 (.i 0)),m l0,y 0 true (.ld v3 2 true),y 1 true (.fa v2 0),y 2 true (.ld l0 1 false),y 3 true (.ln l0),y 4 true (.ca N.dM 0 [] [.l 3,.l 0]),u (.pk l5 l0 (.b false)),m l0,y 0 true (.ld v2 2 true),y 1 true (.fa v3 1),y 2 true (.ld l0 1 false),y 3 true (.fa v3 0),y 4 true (.ld l0 1 false),y 5 true (.ca N.dL 0 [] [.l 4,.l 2,.l 0]),y 6 true (.fa v3 1),y 7 true (.ld l0 1 false),y 8 true (.ca N.cm 0 [] [.l 2,.l 0]),u (.pk l9 l0 (.b false)),w 4 (.mv l0)] [(18,9)]) .ret)),res:=[(4,none)]}
def cK:Fn:={ nargs:=1,vars:=[0,1,2],body:=(.seq (.reg [w 1 (.bx v0 2),w 2 (.al [.t (.int .i64 (0)),.nil] [])] []) (.seq (.reg [f 0 v1,g l0,f 1 v1,g l0,u (.app (.c (.nil)) l0 true 1),u (.bd [.t (.int .i64 (0)),.nil] [(0,1,.l 3),(1,1,.l 0)]),u (.st v2 l0 2 [])] [(1,5)]) .ret)),res:=[(2,some (2,true))]}
def iq:C:=(.seq (.ite [m v3,m v0,u (.ln l0),u (.bin .lss l2 l0)] [] 0 .skip (.exit 0)) (.seq (.blk 1 (.ite [m v0,m v3,a 1 l1 l0,g l0,m v1,m v3,a 1 l1 l0,g l0,u (.bin .neq l4 l0)] [] 0 (.seq (.reg [w 2 (.mv (.b false))] []) .ret) .skip)) (.reg [m v3,u (.bin .add l0 (.i 1)),w 3 (.mv l0)] [])))
def oF:C:= .loop true [2] K.iq
def cm:Fn:={ nargs:=2,vars:=[0,1,4,5],body:=(.seq (.reg [w 2 (.mv (.b false))] []) (.seq (.ite [m v0,u (.ln l0),m v1,u (.ln l0),u (.bin .neq l2 l0)] [] 0 (.seq (.reg [w 2 (.mv (.b false))] []) .ret) .skip) (.seq (.seq (.reg [w 3 (.mv (.i 0))] []) (.blk 0 K.oF)) (.seq (.reg [w 2 (.mv (.b true))] []) .ret)))),res:=[(2,none)]}
def nO:C:=(.seq (.ite [m v7,f 1 v2,g l0,u (.ln l0),u (.bin .lss l3 l0)] [] 0 .skip (.exit 0)) (.seq (.blk 1 (.reg [f 1 v6,g l0,f 1 v2,g l0,m v7,a 1 l1 l0,g l0,f 1 v3,g l0,m v7,a 1 l1 l0,g l0,u (.mn [.l 5,.l 0]),u (.bs [.l 0] 1),u (.app (.l 12) l0 true 1),f 1 v6,u (.st l0 l1 1 [])] [(1,14)])) (.reg [m v7,u (.bin .add l0 (.i 1)),w 7 (.mv l0)] [])))
def tY:C:= .loop true [0,1,5] K.nO
def gk:Fn:={ nargs:=2,vars:=[0,1,2,3,4,5,6,7],body:=(.seq (.reg [w 2 (.bx v0 2),w 3 (.bx v1 2),w 4 (.al [.t (.int .i64 (0)),.nil] []),w 5 (.mv (.i 0))] []) (.seq (.ite [f 1 v2,g l0,u (.ln l0),f 1 v3,g l0,u (.ln l0),u (.bin .neq l3 l0)] [] 0 (.seq (.reg [u (.bd [.t (.int .i64 (0)),.nil] []),u (.st v4 l0 2 []),w 5 (.mv (.i 6))] []) .ret) .skip) (.seq (.reg [f 0 v2,g l0,f 0 v3,g l0,u (.mx [.l 2,.l 0]),u (.bd [.t (.int .i64 (0)),.nil] [(0,1,.l 0)]),w 6 (.al [.t (.int .i64 (0)),.nil] [(1,1)]),u (.st l0 l1 2 [(1,1)])] []) (.seq (.seq (.reg [w 7 (.mv (.i 0))] []) (.blk 0 K.tY)) (.seq (.reg [h 2 v6,u (.st v4 l0 2 []),w 5 (.mv (.i 0))] []) .ret))))),res:=[(4,some (2,true)),(5,none)]}
def b8:Fn:={ nargs:=5,vars:=[0,1,2,3,4,5,6,10],body:=(.seq (.reg [w 5 (.bx v0 2),w 6 (.bx v1 2),w 7 (.mv (.i 0))] []) (.seq (.ite [h 2 v5,h 2 v6,u (.ca N.ew 0 [] [.l 1,.l 0]),u (.un .not l0),m l0,y 0 false (.mv v2),y 1 false (.ln l0),y 2 false (.bin .eql l0 (.i 0)),u (.pk l3 (.b true) l0),m l0,y 0 false (.mv v2),y 1 false (.fa v5 0),y 2 false (.ld l0 1 false),y 3 false (.ln l0),y 4 false (.ca N.iC 0 [] [.l 3,.l 0]),y 5 false (.un .not l0),u (.pk l6 (.b true) l0)] [] 0 (.seq (.reg [w 7 (.mv (.i 6))] []) .ret) .skip) (.seq (.ite [m v3,u (.ca N.de 0 [] [.l 0]),u (.un .not l0),m l0,y 0 false (.mv v4),y 1 false (.ca N.de 0 [] [.l 0]),y 2 false (.un .not l0),u (.pk l3 (.b true) l0),m l0,y 0 false (.mv v3),y 1 false (.mv v4),y 2 false (.bin .gtr l1 l0),u (.pk l3 (.b true) l0)] [] 0 (.seq (.reg [w 7 (.mv (.i 8))] []) .ret) .skip) (.seq (.reg [w 7 (.mv (.i 0))] []) .ret)))),res:=[(7,none)]}
def dX:C:=(.seq (.ite [m v8,f 1 v4,g l0,u (.ln l0),u (.bin .lss l3 l0)] [] 0 .skip (.exit 2)) (.seq (.blk 3 (.seq (.reg [f 1 v4,g l0,m v8,a 10 l1 l0,h 10 l0,w 9 (.al [.t (.int .i64 (0)),.t (.int .i64 (0)),.t (.int .i64 (0)),.t (.int .i64 (0)),.t (.bool false),.t (.bool false),.t (.int .i64 (0)),.t (.int .i64 (0)),.t (.int .i64 (0)),.t (.int .i64 (0))] []),u (.st l0 l1 10 [])] []) (.seq (.ite [m v3,u (.eqk (.sl) false l0 (.c (.nil))),m l0,y 0 false (.mv v3),y 1 false (.fa v9 1),y 2 false (.ld l0 1 false),y 3 false (.ca N.fK 0 [] [.l 2,.l 0]),u (.pk l4 (.b true) l0),m l0,y 0 true (.mv v6),y 1 true (.fa v9 0),y 2 true (.ld l0 1 false),y 3 true (.fa v9 1),y 4 true (.ld l0 1 false),y 5 true (.ld v4 2 true),y 6 true (.mv v8),y 7 true (.ca N.eU 0 [] [.l 1,.l 0,.b false]),y 8 true (.mv v2),y 9 true (.ca N.cX 0 [0] [.l 8,.l 6,.l 4,.l 1,.l 0]),u (.pk l10 l0 (.b false))] [(11,17),(13,17)] 0 (.reg [w 7 (.mv (.b true))] []) .skip) (.ite [m v3,u (.eqk (.sl) false l0 (.c (.nil))),m l0,y 0 false (.mv v3),y 1 false (.fa v9 0),y 2 false (.ld l0 1 false),y 3 false (.ca N.fK 0 [] [.l 2,.l 0]),u (.pk l4 (.b true) l0),m l0,y 0 true (.mv v6),y 1 true (.fa v9 1),y 2 true (.ld l0 1 false),y 3 true (.fa v9 0),y 4 true (.ld l0 1 false),y 5 true (.ld v4 2 true),y 6 true (.mv v8),y 7 true (.ca N.eU 0 [] [.l 1,.l 0,.b true]),y 8 true (.mv v2),y 9 true (.ca N.cX 0 [0] [.l 8,.l 6,.l 4,.l 1,.l 0]),u (.pk l10 l0 (.b false))] [(11,17),(13,17)] 0 (.reg [w 7 (.mv (.b true))] []) .skip)))) (.reg [m v8,u (.bin .add l0 (.i 1)),w 8 (.mv l0)] [])))
def rT:C:= .loop true [0,1,5,9] K.dX
def j8:C:=(.seq (.ite [m v7] [] 0 .skip (.exit 0)) (.blk 1 (.seq (.reg [w 7 (.mv (.b false))] []) (.seq (.reg [w 8 (.mv (.i 0))] []) (.blk 2 K.rT)))))
def rU:C:= .loop true [0,1,5,8,9] K.j8
def ez:Fn:={ nargs:=4,vars:=[0,1,2,3,4,8,9,10,11,12],body:=(.seq (.reg [w 4 (.bx v0 2),w 5 (.mv (.c (.nil)))] []) (.seq (.reg [m v1,u (.app (.c (.nil)) l0 true 1),w 6 (.mv l0)] []) (.seq (.seq (.reg [w 7 (.mv (.b true))] []) (.blk 0 K.rU)) (.seq (.reg [m v6,w 5 (.mv l0)] []) .ret)))),res:=[(5,none)]}
def dj:C:=(.its [u (.bin .lss v5 v4)] [] 0 .skip (.exit 0) (.seq (.blk 1 (.seq (.reg [m v5,w 3 (.mv l0)] []) (.ite [m v1,m v0,m v3,a 1 l1 l0,g l0,u (.cw l4 0 [] [.l 0])] [] 0 (.seq (.reg [m v3,w 2 (.mv l0)] []) .ret) .skip))) (.reg [u (.bin .add v5 (.i 1)),w 5 (.mv l0)] [])))
def iD:C:= .loop true [2,3] K.dj
def bh:Fn:={ nargs:=2,vars:=[0,1,4,5,7,8],body:=(.seq (.reg [w 2 (.mv (.i 0))] []) (.seq (.seq (.reg [m v0,w 4 (.ln l0),w 5 (.mv (.i 0))] []) (.blk 0 K.iD)) (.seq (.reg [w 2 (.mv (.i (-1)))] []) .ret))),res:=[(2,none)]}
def eo:C:=(.its [u (.bin .lss v5 v4)] [] 0 .skip (.exit 0) (.seq (.blk 1 (.seq (.reg [m v5,w 3 (.mv l0)] []) (.ite [m v1,m v0,m v3,a 1 l1 l0,g l0,u (.bin .eql l4 l0)] [] 0 (.seq (.reg [m v3,w 2 (.mv l0)] []) .ret) .skip))) (.reg [u (.bin .add v5 (.i 1)),w 5 (.mv l0)] [])))
def j9:C:= .loop true [2,3] K.eo
def bD:Fn:={ nargs:=2,vars:=[0,1,4,5,7,8],body:=(.seq (.reg [w 2 (.mv (.i 0))] []) (.seq (.seq (.reg [m v0,w 4 (.ln l0),w 5 (.mv (.i 0))] []) (.blk 0 K.j9)) (.seq (.reg [w 2 (.mv (.i (-1)))] []) .ret))),res:=[(2,none)]}
def av:Fn:={ nargs:=2,vars:=[0,1,4],body:=(.seq (.reg [w 2 (.mv (.b false))] []) (.seq (.reg [m v0,m v1,u (.ca N.aD 0 [] [.l 1,.l 0]),u (.bin .geq l0 (.i 0)),w 2 (.mv l0)] []) .ret)),res:=[(2,none)]}
def eM:Fn:={ nargs:=3,vars:=[0,1,2,6],body:=(.seq (.reg [w 3 (.mv (.b false))] []) (.seq (.reg [m v0,m v1,u (.bin .geq l1 l0),m l0,y 0 true (.mv v0),y 1 true (.mv v2),y 2 true (.bin .leq l1 l0),u (.pk l3 l0 (.b false)),w 3 (.mv l0)] []) .ret)),res:=[(3,none)]}
def gp:C:=(.seq (.ite [m v4,f 1 v2,g l0,u (.ln l0),u (.bin .lss l3 l0)] [] 0 .skip (.exit 0)) (.seq (.blk 1 (.ite [f 1 v2,g l0,m v4,a 1 l1 l0,g l0,u (.bin .neq l0 (.i 1099511627776)),m l0,y 0 true (.fa v2 1),y 1 true (.ld l0 1 false),y 2 true (.mv v4),y 3 true (.ia l1 l0 1),y 4 true (.ld l0 1 false),y 5 true (.bin .lss l0 (.i 0)),y 6 true (.mv l0),y 0 false (.fa v2 1),y 1 false (.ld l0 1 false),y 2 false (.mv v4),y 3 false (.ia l1 l0 1),y 4 false (.ld l0 1 false),y 5 false (.bin .gtr l0 (.i 2147483648)),y 13 true (.pk l6 (.b true) l0),u (.pk (.l 14) l0 (.b false))] [] 0 (.seq (.reg [w 3 (.mv (.b false))] []) .ret) .skip)) (.reg [m v4,u (.bin .add l0 (.i 1)),w 4 (.mv l0)] [])))
def rV:C:= .loop true [0,1,3] K.gp
def dM:Fn:={ nargs:=2,vars:=[0,1,2,4,5],body:=(.seq (.reg [w 2 (.bx v0 2),w 3 (.mv (.b false))] []) (.seq (.ite [f 1 v2,g l0,u (.ln l0),m v1,u (.bin .neq l1 l0),m l0,y 0 false (.fa v2 0),y 1 false (.ld l0 1 false),y 2 false (.bin .lss l0 (.i 0)),u (.pk l3 (.b true) l0),m l0,y 0 false (.fa v2 0),y 1 false (.ld l0 1 false),y 2 false (.bin .gtr l0 (.i 2147483648)),u (.pk l3 (.b true) l0)] [] 0 (.seq (.reg [w 3 (.mv (.b false))] []) .ret) .skip) (.seq (.seq (.reg [w 4 (.mv (.i 0))] []) (.blk 0 K.rV)) (.seq (.reg [w 3 (.mv (.b true))] []) .ret)))),res:=[(3,none)]}
def cX:Fn:={ nargs:=5,vars:=[0,1,2,3,4,10,11],body:=(.seq (.reg [w 5 (.mv (.b false))] []) (.seq (.ite [m v3,u (.bin .lss l0 (.i 0)),m l0,y 0 false (.mv v0),y 1 false (.mv v1),y 2 false (.ia l1 l0 1),y 3 false (.ld l0 1 false),y 4 false (.bin .geq l0 (.i 1099511627776)),u (.pk l5 (.b true) l0)] [] 0 (.seq (.reg [w 5 (.mv (.b false))] []) .ret) .skip) (.seq (.reg [m v4,m v0,m v1,a 1 l1 l0,g l0,m v3,u (.bin .add l1 l0),u (.mx [.l 6,.l 0]),w 6 (.mv l0)] []) (.seq (.ite [m v6,u (.bin .gtr l0 (.i 2147483648)),m l0,y 0 false (.mv v6),y 1 false (.mv v0),y 2 false (.mv v2),y 3 false (.ia l1 l0 1),y 4 false (.ld l0 1 false),y 5 false (.bin .geq l4 l0),u (.pk l6 (.b true) l0)] [] 0 (.seq (.reg [w 5 (.mv (.b false))] []) .ret) .skip) (.seq (.reg [m v0,m v2,m v6,a 1 l2 l1,u (.st l0 l1 1 [])] []) (.seq (.reg [w 5 (.mv (.b true))] []) .ret)))))),res:=[(5,none)]}
def eU:Fn:={ nargs:=3,vars:=[0,1,2,3,6],body:=(.seq (.reg [w 3 (.bx v0 2),w 4 (.mv (.i 0))] []) (.seq (.reg [h 2 v3,m v1,m v2,u (.ca N.bN 0 [] [.l 2,.l 1,.l 0,.i 6,.i 9,.i 12]),w 4 (.mv l0)] []) .ret)),res:=[(4,none)]}
def bE:C:=(.its [u (.bin .lss v5 v4)] [] 0 .skip (.exit 0) (.seq (.blk 1 (.seq (.reg [m v5,w 3 (.mv l0)] []) (.ite [m v1,m v0,m v3,a 2 l1 l0,h 2 l0,u (.cw l4 0 [] [.l 0])] [] 0 (.seq (.reg [m v3,w 2 (.mv l0)] []) .ret) .skip))) (.reg [u (.bin .add v5 (.i 1)),w 5 (.mv l0)] [])))
def dY:C:= .loop true [2,3] K.bE
def aD:Fn:={ nargs:=2,vars:=[0,1,4,5,7,8],body:=(.seq (.reg [w 2 (.mv (.i 0))] []) (.seq (.seq (.reg [m v0,w 4 (.ln l0),w 5 (.mv (.i 0))] []) (.blk 0 K.dY)) (.seq (.reg [w 2 (.mv (.i (-1)))] []) .ret))),res:=[(2,none)]}
def bN:Fn:={ nargs:=6,vars:=[0,1,2,3,4,5,6,12,13,14,15,16,17],body:=(.seq (.reg [w 6 (.bx v0 2),w 7 (.mv (.i 0))] []) (.seq (.ite [h 2 v6,u (.ca N.cW 0 [] [.l 0]),u (.bin .neq l0 (.i 0)),m l0,y 0 false (.mv v1),y 1 false (.bin .lss l0 (.i 0)),u (.pk l2 (.b true) l0),m l0,y 0 false (.mv v1),y 1 false (.fa v6 1),y 2 false (.ld l0 1 false),y 3 false (.ln l0),y 4 false (.bin .geq l3 l0),u (.pk l5 (.b true) l0),m l0,y 0 false (.fa v6 1),y 1 false (.ld l0 1 false),y 2 false (.mv v1),y 3 false (.ia l1 l0 10),y 4 false (.fa l0 5),y 5 false (.ld l0 1 false),u (.pk l6 (.b true) l0),m l0,y 0 false (.fa v6 1),y 1 false (.ld l0 1 false),y 2 false (.mv v1),y 3 false (.ia l1 l0 10),y 4 false (.fa l0 4),y 5 false (.ld l0 1 false),y 6 false (.un .not l0),u (.pk l7 (.b true) l0)] [] 0 (.seq (.reg [w 7 (.mv (.i (-1)))] []) .ret) .skip) (.seq (.reg [f 1 v6,g l0,m v1,a 10 l1 l0,h 10 l0,w 8 (.al [.t (.int .i64 (0)),.t (.int .i64 (0)),.t (.int .i64 (0)),.t (.int .i64 (0)),.t (.bool false),.t (.bool false),.t (.int .i64 (0)),.t (.int .i64 (0)),.t (.int .i64 (0)),.t (.int .i64 (0))] []),u (.st l0 l1 10 [])] []) (.seq (.reg [h 10 v8,m v2,u (.ca N.gO 0 [] [.l 1,.l 0]),m l0,u (.ex l0 0),u (.ex l1 1),w 9 (.mv l1),w 10 (.mv l1)] []) (.seq (.reg [f 0 v6,g l0,m v10,a 2 l1 l0,f 0 l0,g l0,f 0 v6,g l0,m v9,a 2 l1 l0,f 0 l0,g l0,u (.bin .sub l6 l0),w 11 (.mv l0)] []) (.seq (.reg [m v5,w 12 (.mv l0)] []) (.seq (.ite [m v11,u (.bin .mul (.i 10) l0),f 2 v8,g l0,u (.bin .gtr l2 l0)] [] 0 (.reg [m v3,w 12 (.mv l0)] []) .skip) (.seq (.ite [m v11,u (.bin .mul (.i (-10)) l0),f 2 v8,g l0,u (.bin .gtr l2 l0)] [] 0 (.reg [m v4,w 12 (.mv l0)] []) .skip) (.seq (.reg [f 2 v8,g l0,u (.bin .mul (.i 10) l0),m v12,u (.bin .add l1 l0),u (.bin .sub l0 (.i 1)),m v12,u (.bin .quo l1 l0),w 7 (.mv l0)] []) .ret))))))))),res:=[(7,none)]}
def gO:Fn:={ nargs:=2,vars:=[0,1,2,4,5],body:=(.seq (.reg [w 2 (.bx v0 10),w 3 (.mv (.i 0)),w 4 (.mv (.i 0))] []) (.seq (.ite [m v1] [] 0 (.seq (.reg [f 1 v2,g l0,f 0 v2,g l0,w 3 (.mv l2),w 4 (.mv l1)] []) .ret) .skip) (.seq (.reg [f 0 v2,g l0,f 1 v2,g l0,w 3 (.mv l2),w 4 (.mv l1)] []) .ret))),res:=[(3,none),(4,none)]}
end Go.Ev.K
namespace Go.Ev
class bS [Lib]:Prop where
 nh:Lib.fs N.dH=some K.dH
 o9:Lib.fs N.cF=some K.cF
 iN:Lib.fs N.bw=some K.bw
 qy:Lib.fs N.gM=some K.gM
 pc:Lib.fs N.dI=some K.dI
 qz:Lib.fs N.gN=some K.gN
 pd:Lib.fs N.dJ=some K.dJ
 nQ:Lib.fs N.cH=some K.cH
 sH:Lib.fs N.gG=some K.gG
 nS:Lib.fs N.cI=some K.cI
 pe:Lib.fs N.dK=some K.dK
 eB:Lib.fs N.aB=some K.aB
 fQ:Lib.fs N.aR=some K.aR
 qA:Lib.fs N.gh=some K.gh
 nT:Lib.fs N.de=some K.de
 pf:Lib.fs N.fe=some K.fe
 pg:Lib.fs N.dL=some K.dL
 qB:Lib.fs N.gj=some K.gj
 ph:Lib.fs N.ew=some K.ew
 qC:Lib.fs N.cK=some K.cK
 lJ:Lib.fs N.cm=some K.cm
 qD:Lib.fs N.gk=some K.gk
 pj:Lib.fs N.b8=some K.b8
 pn:Lib.fs N.ez=some K.ez
 fC:Lib.fs N.bh=some K.bh
 gY:Lib.fs N.bD=some K.bD
 bY:Lib.fs N.av=some K.av
 uY:Lib.fs N.eM=some K.eM
 pq:Lib.fs N.dM=some K.dM
 pt:Lib.fs N.cX=some K.cX
 qE:Lib.fs N.eU=some K.eU
 cy:Lib.fs N.aD=some K.aD
 nU:Lib.fs N.bN=some K.bN
 qF:Lib.fs N.gO=some K.gO
namespace K
variable [Lib] [bS]
theorem nh:Lib.fs N.dH=some K.dH:=bS.nh
theorem o9:Lib.fs N.cF=some K.cF:=bS.o9
theorem iN:Lib.fs N.bw=some K.bw:=bS.iN
theorem qy:Lib.fs N.gM=some K.gM:=bS.qy
theorem pc:Lib.fs N.dI=some K.dI:=bS.pc
theorem qz:Lib.fs N.gN=some K.gN:=bS.qz
theorem pd:Lib.fs N.dJ=some K.dJ:=bS.pd
theorem nQ:Lib.fs N.cH=some K.cH:=bS.nQ
theorem sH:Lib.fs N.gG=some K.gG:=bS.sH
theorem nS:Lib.fs N.cI=some K.cI:=bS.nS
theorem pe:Lib.fs N.dK=some K.dK:=bS.pe
theorem eB:Lib.fs N.aB=some K.aB:=bS.eB
theorem fQ:Lib.fs N.aR=some K.aR:=bS.fQ
theorem qA:Lib.fs N.gh=some K.gh:=bS.qA
theorem nT:Lib.fs N.de=some K.de:=bS.nT
theorem pf:Lib.fs N.fe=some K.fe:=bS.pf
theorem pg:Lib.fs N.dL=some K.dL:=bS.pg
theorem qB:Lib.fs N.gj=some K.gj:=bS.qB
theorem ph:Lib.fs N.ew=some K.ew:=bS.ph
theorem qC:Lib.fs N.cK=some K.cK:=bS.qC
theorem lJ:Lib.fs N.cm=some K.cm:=bS.lJ
theorem qD:Lib.fs N.gk=some K.gk:=bS.qD
theorem pj:Lib.fs N.b8=some K.b8:=bS.pj
theorem pn:Lib.fs N.ez=some K.ez:=bS.pn
theorem fC:Lib.fs N.bh=some K.bh:=bS.fC
theorem gY:Lib.fs N.bD=some K.bD:=bS.gY
theorem bY:Lib.fs N.av=some K.av:=bS.bY
theorem uY:Lib.fs N.eM=some K.eM:=bS.uY
theorem pq:Lib.fs N.dM=some K.dM:=bS.pq
theorem pt:Lib.fs N.cX=some K.cX:=bS.pt
theorem qE:Lib.fs N.eU=some K.eU:=bS.qE
theorem cy:Lib.fs N.aD=some K.aD:=bS.cy
theorem nU:Lib.fs N.bN=some K.bN:=bS.nU
theorem qF:Lib.fs N.gO=some K.gO:=bS.qF
end K
end Go.Ev
namespace Go.Ev
open Go
variable [Lib]
noncomputable def aN:aS:=nG Lib.fs
theorem ax{raw f:Nat}{args:List D}{H:aj}{fn:Fn}{r:D×aj}(hf:Lib.fs f=some fn)(hn:fn.nargs=args.length)
 (h:(exS aN fn.body ⟨rK args fn.vars,H⟩).bind (V8 fn.res H.length raw)=some r) (h0:fn.prim=[]:=by rfl):aN raw f args H=some r:=Pc hf hn h h0
theorem B7{raw f:Nat}{args:List D}{H:aj}{fn:Fn}{r:D×aj}(hf:Lib.fs f=some fn)(h0:fn.prim≠[])(h:uL fn.prim args H=some r):aN raw f args H=some r:=Gw hf h0 h
theorem b5{gc:Bool}{dead:List Nat}{c:C}{vs:List D}{H:aj}(s:Nat→St)(n:Nat){e:Ex}{st:St}
 (h0:(⟨jx dead vs,H⟩:St)=s 0) (h:∀j,j<n→fJ gc dead (s j).H.length (exS aN c (s j))=some (s (j+1)))
 (he:exS aN c (s n)=some (e,st)) (hn:e≠ .normal):exS aN (.loop gc dead c) ⟨vs,H⟩=some (e,st):=by
 show mz gc dead (exS aN c) ⟨jx dead vs,H⟩=_
 rw[h0]
 exact w9 s n h (c7 he hn)
theorem uZ{gc:Bool}{dead:List Nat}{c:C}{vs:List D}{H:aj}{p:Ex×St}(h:mz gc dead (exS aN c) ⟨jx dead vs,H⟩=some p):exS aN (.loop gc dead c) ⟨vs,H⟩=some p:=h
class Dat (α:Type) where
 dflt:α
instance : Dat Int := ⟨0⟩
instance : Dat Nat := ⟨0⟩
instance : Dat Bool := ⟨false⟩
instance {α : Type} : Dat (List α) := ⟨[]⟩
def nth{α:Type} [Dat α](l:List α)(j:Nat):α:=l.getD j Dat.dflt
theorem jv{α:Type} [Dat α]{l:List α}{j:Nat}(h:j<l.length):l[j]?=some (nth l j):=by simp[nth,h]
theorem dz{α β:Type} [Dat α](f:α→β){l:List α}{j:Nat}(h:j<l.length):(l.map f)[j]?=some (f (nth l j)):=by rw[List.getElem?_map,jv h];rfl
theorem xc{α β γ:Type} [Dat α](f:β→γ)(g:α→β){l:List α}{j:Nat}(h:j<l.length):((l.map g).map f)[j]?=some (f (g (nth l j))):=by rw[List.getElem?_map,dz g h];rfl
theorem aa{α:Type} [Dat α]{l:List α}{j:Nat}(h:j<l.length):nth l j∈l:=List.mem_of_getElem? (jv h)
theorem bB{α:Type} [Dat α]{l:List α}{j:Nat}{x:α}(h:l[j]?=some x):nth l j=x:=by simp[nth,h]
theorem iP{α:Type} [Dat α]{l:List α}{j:Nat}(h:j<l.length):l.take (j+1)=l.take j++[nth l j]:=by
 rw[List.take_succ_eq_append_getElem h];simp[nth,h]
theorem Zv{a b:Int}(h:a<b):(a<b)=True:=by simp[h]
theorem Zw{a b:Int}(h:b≤a):(a<b)=False:=by simp[Int.not_lt.2 h]
theorem Zx{a b:Int}(h:a≤b):(a≤b)=True:=by simp[h]
theorem Zy{a b:Int}(h:b<a):(a≤b)=False:=by simp[Int.not_le.2 h]
theorem Zz{a b:Int}(h:a=b):(a=b)=True:=by simp[h]
theorem ZA{a b:Int}(h:a≠b):(a=b)=False:=by simp[h]
theorem ZB{a b:Nat}(h:a<b):(a<b)=True:=by simp[h]
theorem ZC{a b:Nat}(h:b≤a):(a<b)=False:=by simp[Nat.not_lt.2 h]
theorem ZD{a b:Nat}(h:a≤b):(a≤b)=True:=by simp[h]
theorem ZE{a b:Nat}(h:b<a):(a≤b)=False:=by simp[Nat.not_le.2 h]
theorem ZF{a b:Nat}(h:a=b):(a=b)=True:=by simp[h]
theorem ZG{a b:Nat}(h:a≠b):(a=b)=False:=by simp[h]
attribute [go_sem] ZF ZG Zv Zw Zx Zy Zz ZA ZB ZC ZD ZE uW dz xc Pq
@[go_sem] theorem GH (a b : Nat) : ((a + b : Nat) : Int) = (a : Int) + (b : Int) := (rfl)
@[go_sem] theorem GI : ((1 : Nat) : Int) = 1 := (rfl)
@[go_sem] theorem DV : ((0 : Nat) : Int) = 0 := (rfl)
@[go_sem] theorem UY (a b : Int) : a + b - b = a := Int.add_sub_cancel a b
@[go_sem] theorem Ny : (0 : Int).toNat = 0 := (rfl)
@[go_sem] theorem P1 (n : Nat) : (n : Int).toNat = n := (rfl)
@[go_sem] theorem P2 (n : Nat) : ((n : Int) + 1).toNat = n + 1 := (rfl)
@[go_sem] theorem P3 (a : Int) : 0 + a = a := Int.zero_add a
abbrev tI(n:Int):T:= .int .i64 n
abbrev tL(l:List Int):T:= .sl (l.map (.int .i64))
@[go_sem] theorem Nz {α β : Type} (f : α → β) (a b : List α) : (a ++ b).map f = a.map f ++ b.map f := List.map_append
end Go.Ev
namespace Go.Ev
open Go
variable [Lib] [cn] [bS]
def Mod(n m:Int):Int:=if m<1 then 0 else if n.tmod m<0 then n.tmod m+m else n.tmod m
theorem UZ(n m:Int):0≤Mod n m:=by
 unfold Mod
 split
 · omega
 · have h5:=Int.lt_tmod_of_pos n (b:=m) (by omega)
   split<;>omega
theorem U0(n m:Int)(h:1≤m):Mod n m<m:=by
 unfold Mod
 rw[if_neg (by omega)]
 have h3:=Int.tmod_lt_of_pos n (b:=m) (by omega)
 split<;>omega
theorem U1(n m:Int)(hm:m≤4611686018427387904):aN 0 N.jt [I n,I m] []=some (I (Mod n m),[]):=by
 refine ax K.uX rfl ?_
 unfold Mod
 by_cases h1:m<1
 · simp only[go_sem,K.jt,h1,↓reduceIte]
 · have h2:m≠0:=by omega
   have h3:=Int.tmod_lt_of_pos n (b:=m) (by omega)
   have h5:=Int.lt_tmod_of_pos n (b:=m) (by omega)
   by_cases h4:n.tmod m<0
   · simp (disch:=omega) only[go_sem,K.jt,h1,↓reduceIte,h2,h4]
   · simp (disch:=omega) only[go_sem,K.jt,h1,↓reduceIte,h2,h4]
theorem LU(l:List Int):aN 0 N.gL [.t (tL l)] []=some (B (decide (l.length≤400)),[]):=by
 refine ax K.qv rfl ?_
 simp (disch:=omega) only[go_sem,K.gL,↓reduceIte]
 simp only[show((l.length:Int)≤400)=(l.length≤400)by rw[eq_iff_iff];omega]
structure aC where
 L:List Int
 at_:Nat
def aC.obj(d:aC):Obj:= .box [.t (tL d.L),I d.at_]
def aC.dU(d:aC):Prop:=d.L.length≤400
def aC.next(d:aC)(n:Int):Int×aC:=if d.at_<d.L.length then(Mod (nth d.L d.at_) n,⟨d.L,d.at_+1⟩)else(0,d)
theorem aC.NA(d:aC)(n:Int):(d.next n).2.L=d.L:=by unfold aC.next;split<;>rfl
theorem aC.aV{d:aC}(h:d.dU)(n:Int):(d.next n).2.dU:=by unfold aC.dU;rw[d.NA];exact h
theorem aC.dD(d:aC)(n:Int):0≤(d.next n).1:=by unfold aC.next;split<;>simp[UZ]
theorem aC.dE(d:aC){n:Int}(h:1≤n):(d.next n).1<n:=by unfold aC.next;split<;>simp[U0 _ _ h];omega
theorem fR(d:aC)(n:Int)(hn:n≤4611686018427387904)(hd:d.dU):aN 0 N.aA [.bp 0 0,I n] [d.obj]=some (I (d.next n).1,[(d.next n).2.obj]):=by
 refine ax K.lD rfl ?_
 have hm:=U1 (nth d.L d.at_) n hn
 unfold aC.dU at hd
 unfold aC.next aC.obj
 by_cases h1:d.at_<d.L.length
 · simp (disch:=omega) only[go_sem,K.aA,↓reduceIte,↓if_pos,↓if_neg,Int.add_sub_cancel,hm,Int.natCast_add]
 · simp (disch:=omega) only[go_sem,K.aA,↓reduceIte,↓if_pos,↓if_neg]
@[go_sem] theorem Xi (d : aC) : Ft (some d.obj) = [] := by simp only [aC.obj, go_sem]
@[go_sem] theorem Xj (f : Nat → Option Nat) (d : aC) : gw f d.obj = some d.obj := by simp only [aC.obj, go_sem]
@[go_sem] theorem Xk (k : Nat) (d : aC) (r : aj) : fB k (d.obj :: r) = fB k r := by simp only [aC.obj, go_sem]
def aC.one(d:aC)(n:Int):Bool×aC:=(decide ((d.next n).1=n-1),(d.next n).2)
theorem aC.B8{d:aC}(h:d.dU)(n:Int):(d.one n).2.dU:=aC.aV h n
theorem NB(d:aC)(n:Int)(h1:0≤n)(hn:n≤4611686018427387904)(hd:d.dU):aN 0 N.dv [.bp 0 0,I n] [d.obj]=some (B (d.one n).1,[(d.one n).2.obj]):=by
 refine ax K.mF rfl ?_
 have hm:=fR d n hn hd
 unfold aC.one
 simp (disch:=omega) only[go_sem,K.dv,↓reduceIte,hm]
def aC.of(d:aC)(l:List Int):Int×aC:=(nth l (d.next l.length).1.toNat,(d.next l.length).2)
theorem aC.px{d:aC}(h:d.dU)(l:List Int):(d.of l).2.dU:=aC.aV h _
theorem aC.vV(d:aC){l:List Int}(h:l≠[]):(d.of l).1∈l:=by
 unfold aC.of
 have hl:0<l.length:=List.length_pos_iff.2 h
 have:=d.dD l.length
 have:=d.dE (n:=l.length) (by omega)
 exact aa (by omega)
theorem LV(d:aC)(l:List Int)(hl:l≠[])(hl2:l.length≤4294967296)(hd:d.dU):aN 0 N.c8 [.bp 0 0,.t (tL l)] [d.obj]=some (I (d.of l).1,[(d.of l).2.obj]):=by
 refine ax K.nI rfl ?_
 have hm:=fR d l.length (by omega) hd
 have h0:0<l.length:=List.length_pos_iff.2 hl
 have h1:=d.dD l.length
 have h2:=d.dE (n:=l.length) (by omega)
 unfold aC.of
 simp (disch:=omega) only[go_sem,K.c8,↓reduceIte,hm]
def aC.lk(d:aC):Nat→List Int×aC
 | 0=>([],d)
 | k+1=>(if((d.lk k).2.next 3).1=0 then(d.lk k).1++[(k:Int)]else(d.lk k).1,((d.lk k).2.next 3).2)
theorem aC.kF{d:aC}(h:d.dU):∀n,(d.lk n).2.dU
 | 0=>h
 | n+1=>aC.aV (aC.kF h n) 3
theorem aC.tZ(d:aC):∀n,(d.lk n).1.length≤n
 | 0=>Nat.le_refl _
 | n+1=>by
   have:=d.tZ n
   unfold aC.lk
   simp only
   split<;>simp<;>omega
theorem I6(d:aC)(n:Nat)(hn:n≤1000000)(hd:d.dU):aN 0 N.bV [.bp 0 0,I n] [d.obj]=some (.t (tL (d.lk n).1),[(d.lk n).2.obj]):=by
 refine ax K.lF rfl ?_
 have hlen:=d.tZ
 have loop:exS aN K.oC ⟨[.bp 0 0,I n,.nil,.ref 1 0 0,I 0],[d.obj,.arr 1 false 0 []]⟩=
  some (.exit 0,⟨[.bp 0 0,I n,.und,.ref 1 0 (d.lk n).1.length,I n],[(d.lk n).2.obj,.arr 1 false 0 (((d.lk n).1.map (T.int .i64)).map .t)]⟩):=by
  refine b5 (fun j=>⟨[.bp 0 0,I n,.und,.ref 1 0 (d.lk j).1.length,I j],[(d.lk j).2.obj,.arr 1 false 0 (((d.lk j).1.map (T.int .i64)).map .t)]⟩) n rfl ?_ ?_ (by simp)
  · intro j hj
    have hm:=fR (d.lk j).2 3 (by omega) (aC.kF hd j)
    have:=hlen j
    by_cases h:((d.lk j).2.next 3).1=0
    · simp (disch:=omega) only[go_sem,K.ik,hm,h,aC.lk,↓reduceIte]
    · simp (disch:=omega) only[go_sem,K.ik,hm,h,aC.lk,↓reduceIte]
  · simp (disch:=omega) only[go_sem,K.ik,↓reduceIte]
 simp (disch:=omega) only[go_sem,K.bV,↓reduceIte,loop]
theorem b7{gc:Bool}{dead:List Nat}{c:C}{vs:List D}{H:aj}(s:Nat→St)(n:Nat)(p:Nat→Bool)(e:Nat→Ex×St)(eN:Ex×St)
 (h0:(⟨jx dead vs,H⟩:St)=s 0) (hs:∀j,j<n→p j=false→fJ gc dead (s j).H.length (exS aN c (s j))=some (s (j+1)))
 (he:∀j,j<n→p j=true→exS aN c (s j)=some (e j)∧(e j).1≠ .normal) (hN:exS aN c (s n)=some eN) (hn:eN.1≠ .normal):
 exS aN (.loop gc dead c) ⟨vs,H⟩=some (match (List.range n).find? p with | some j=>e j | none=>eN):=by
 show mz gc dead (exS aN c) ⟨jx dead vs,H⟩=_
 rw[h0]
 cases hf:(List.range n).find? p with
 | none=>
   refine w9 s n (fun j hj=>hs j hj ?_) (c7 hN hn)
   have:=List.find?_eq_none.1 hf j (List.mem_range.2 hj)
   simpa using this
 | some k=>
   obtain⟨h1,as,bs,h2,h3⟩:=List.find?_eq_some_iff_append.1 hf
   have hk:k<n:=List.mem_range.1 (List.mem_of_find?_eq_some hf)
   have hlt:∀j,j<k→p j=false:=by
    intro j hj
    have hlen:as.length=k:=by
     have h4:(List.range n)[as.length]?=some k:=by rw[h2];simp
     have h5:as.length<n:=by
      have:=congrArg List.length h2;simp at this;omega
     rw[List.getElem?_range h5]at h4
     exact Option.some.inj h4
    have:j∈as:=by
     have h6:(List.range n)[j]?=some j:=List.getElem?_range (by omega)
     rw[h2,List.getElem?_append_left (by omega)]at h6
     exact List.mem_of_getElem? h6
    simpa using h3 j this
   obtain⟨k1,k2⟩:=he k hk h1
   exact w9 s k (fun j hj=>hs j (by omega) (hlt j hj)) (c7 k1 k2)
def iY{α:Type}(f:α→α×Bool):Nat→α→α
 | 0,l=>l
 | n+1,l=>if(f l).2 then iY f n (f l).1 else(f l).1
theorem GJ{α:Type}{gc:Bool}{dead:List Nat}{c:C}{vs:List D}{H:aj}(S:α→Bool→St)(E:α→Ex×St)(f:α→α×Bool)(inv:α→Prop)(mes:α→Nat)
 (hinv:∀l,inv l→inv (f l).1∧((f l).2=true→mes (f l).1<mes l))
 (hs:∀l,inv l→fJ gc dead (S l true).H.length (exS aN c (S l true))=some (S (f l).1 (f l).2))
 (he:∀l,inv l→exS aN c (S l false)=some (E l)∧(E l).1≠ .normal) (l:α) (hl:inv l) (h0:(⟨jx dead vs,H⟩:St)=S l true):
 exS aN (.loop gc dead c) ⟨vs,H⟩=some (E (iY f (mes l+1) l))∧inv (iY f (mes l+1) l):=by
 have key:∀(n:Nat) (l:α),inv l→mes l<n→mz gc dead (exS aN c) (S l true)=some (E (iY f n l))∧inv (iY f n l):=by
  intro n
  induction n with
  | zero=>intro l _ h;omega
  | succ n ih=>
    intro l hl hm
    obtain⟨h1,h2⟩:=hinv l hl
    have hr:=hs l hl
    cases hf:(f l).2 with
    | true=>
      rw[hf]at hr
      obtain⟨k1,k2⟩:=ih (f l).1 h1 (by have:=h2 hf;omega)
      simp only[iY,hf,if_true]
      exact⟨jO hr k1,k2⟩
    | false=>
      rw[hf]at hr
      obtain⟨k1,k2⟩:=he (f l).1 h1
      simp only[iY,hf,Bool.false_eq_true,if_false]
      exact⟨jO hr (c7 k1 k2),h1⟩
 have:=key (mes l+1) l hl (Nat.lt_succ_self _)
 show mz gc dead (exS aN c) ⟨jx dead vs,H⟩=_∧_
 rw[h0];exact this
theorem Av{n:Nat}{p:Nat→Bool}:((List.range n).find? p).isSome=(List.range n).any p:=by
 rw[List.isSome_find?]
theorem x7{n j:Nat}{p:Nat→Bool}(h:(List.range n).find? p=some j):j<n∧p j=true:=⟨List.mem_range.1 (List.mem_of_find?_eq_some h),List.find?_some h⟩
def eV(m:Nat):List D:=(List.range m).map fun i=> .bp i 0
def aQ(bs:List (List T)):aj:=bs.map fun cs=> .box (cs.map .t)
theorem zt{bs:List (List T)}{i:Nat}(h:i<bs.length):(aQ bs)[i]?=some (.box (bs[i].map .t)):=by simp[aQ,h]
theorem eW(bs:List (List T)):(aQ bs).length=bs.length:=by simp[aQ]
theorem u9:∀(l sel:List Nat),(sel++l).Nodup→eQ sel l=sel++l
 | [],sel,_=>by simp[eQ]
 | i::r,sel,h=>by
   have:sel.contains i=false:=by
    rw[← Bool.not_eq_true,List.contains_iff_mem]
    intro hm
    have:=List.nodup_append.1 h
    exact this.2.2 i hm i List.mem_cons_self rfl
   simp only[eQ,this,Bool.false_eq_true,if_false]
   rw[u9 r (sel++[i]) (by simpa using h)]
   simp
theorem vW:∀(l:List Nat) (i k:Nat),l.Nodup→l[k]?=some i→idxOf l i=some k
 | [],i,k,_,h=>by simp at h
 | a::l,i,0,_,h=>by simp at h;simp[idxOf,h]
 | a::l,i,k+1,hn,h=>by
   simp at h
   have hne:a≠i:=fun e=>(List.nodup_cons.1 hn).1 (e▸List.mem_of_getElem? h)
   simp only[idxOf,if_neg hne,vW l i k (List.nodup_cons.1 hn).2 h,Option.map_some]
theorem DW{m i:Nat}(h:i<m):idxOf (List.range m) i=some i:=vW _ _ _ List.nodup_range (List.getElem?_range h)
theorem DX{α:Type}{f:α→Option α}:∀ {l:List α},(∀x∈l,f x=some x)→bQ f l=some l
 | [],_=>rfl
 | a::l,h=>by
   simp only[bQ,h a List.mem_cons_self,Option.bind_some,DX fun x hx=>h x (List.mem_cons_of_mem _ hx),Option.map_some]
theorem DY(f:Nat→Option Nat)(cs:List T):gw f (.box (cs.map .t))=some (.box (cs.map .t)):=by
 simp only[GD,rr,Option.map_some]
theorem B9{H:aj}:∀ {l:List Nat} {hs:aj},l.length=hs.length→(∀(k i:Nat) (o:Obj),l[k]?=some i→hs[k]?=some o→H[i]?=some o)→pick H l=some hs
 | [],[],_,_=>rfl
 | [],_::_,h,_=>by simp at h
 | _::_,[],h,_=>by simp at h
 | i::l,o::hs,h,hg=>by
   rw[I0,hg 0 i o rfl rfl,Option.bind_some,LO,B9 (l:=l) (hs:=hs) (by simpa using h) fun k i o hk ho=>hg (k+1) i o (by simpa using hk) (by simpa using ho)]
   rfl
theorem vX{H:aj}:∀ {l:List Nat} {os:aj},(∀(k i:Nat) (o:Obj),l[k]?=some i→os[k]?=some o→H[i]?=some o)→dk H l os=H
 | [],os,_=>by cases os<;>rfl
 | i::l,[],_=>rfl
 | i::l,o::os,hg=>by
   simp only[dk]
   rw[As (hg 0 i o rfl rfl)]
   exact vX fun k i o hk ho=>hg (k+1) i o (by simpa using hk) (by simpa using ho)
theorem Ca(call:aS)(bs:List (List T))(E:aj)(f raw:Nat)(args:List D){r:D}(h:call raw f args (aQ bs)=some (r,aQ bs))(hr:wI r=true)
 (ha:∀H:aj,oR H [] 0 args=some args∧cr H [] 0 args=[]) (hids:eQ [] (yO 8 args)=List.range bs.length)
 (hren:bQ (ren (idxOf (List.range bs.length)) 8) args=some args):GA (aQ bs++E) call f raw [] args=some (r,aQ bs++E):=by
 generalize hH:aQ bs++E=H
 have hget:∀i (hi:i<bs.length),H[i]?=some (.box (bs[i].map .t)):=fun i hi=>by
  rw[← hH,List.getElem?_append_left (by rw[eW];exact hi),zt hi]
 obtain⟨ha,hfz⟩:=ha H
 have hno:oq H (List.range bs.length)=[]:=by
  simp only[oq,List.flatMap_eq_nil_iff,List.mem_range]
  intro i hi
  rw[hget i hi]
  exact Fq 8 bs[i]
 have hsel:reach H 3 (List.range bs.length)=List.range bs.length:=by
  simp only[reach,hno,eQ]
 have hget2:∀(k i:Nat) (o:Obj),(List.range bs.length)[k]?=some i→(aQ bs)[k]?=some o→H[i]?=some o:=by
  intro k i o hk ho
  have hkl:k<bs.length:=by have:=(List.getElem?_eq_some_iff.1 hk).1;simpa using this
  rw[List.getElem?_range hkl]at hk
  cases hk
  rw[zt hkl]at ho
  rw[hget k hkl,←ho]
 have hpick:pick H (List.range bs.length)=some (aQ bs):=B9 (by simp[eW]) hget2
 have hro:∀f:Nat→Option Nat,bQ (gw f) (aQ bs)=some (aQ bs):=fun f=>DX fun o ho=>by
  simp only[aQ,List.mem_map]at ho
  obtain⟨cs,_,rfl⟩:=ho
  exact DY f cs
 have hput:dk H (List.range bs.length) (aQ bs)=H:=vX hget2
 rw[LD,LF,ha,Option.bind_some,LG,hids,hsel,LH,hren,Option.bind_some,hfz,LI]
 simp only[pins]
 rw[hpick,Option.bind_some,LJ,hro,Option.bind_some,LK,h,Option.bind_some]
 cases hb:bs with
 | nil=>
   subst hb
   have hrr:=Aq (f:=eh [] H.length) hr
   simp only[depth]at hrr
   simp only[List.length_nil,List.range_zero,aQ,List.map_nil]
   unfold wJ
   split
   · rfl
   · rw[Fp,hrr,Option.bind_some,Fo]
     simp[bQ,LL,dk]
 | cons b bt=>
   rw[← hb]
   have hne:List.range bs.length=0::(List.range' 1 bt.length):=by rw[hb];simp[List.range_eq_range',List.range'_succ]
   have hrr:=Aq (f:=eh (List.range bs.length) H.length) hr
   simp only[depth]at hrr
   have hw:wJ H H (List.range bs.length) (r,aQ bs)=DR H H.length (List.range bs.length) (r,aQ bs):=by
    rw[hne];rfl
   rw[hw,Fp,hrr,Option.bind_some,Fo,hro,Option.bind_some,LM,List.length_range,List.take_of_length_le (by rw[eW];exact Nat.le_refl _),hput,
    List.drop_eq_nil_of_le (by rw[eW];exact Nat.le_refl _),List.append_nil]
theorem DZ(H:aj)(cs:List D)(hc:∀i,oR H [] i cs=some cs∧cr H [] i cs=[]):∀(ts:List T) (i:Nat),oR H [] i (ts.map .t++cs)=some (ts.map .t++cs)∧cr H [] i (ts.map .t++cs)=[]
 | [],i=>hc i
 | t::ts,i=>by
   obtain⟨h1,h2⟩:=DZ H cs hc ts (i+1)
   simp only[List.map_cons,List.cons_append,zq,qs,DT,Nr,Ux,Option.bind_some,IW,h1,h2,UN,IU]
   exact⟨rfl,rfl⟩
theorem Cb(H:aj):∀(l:List Nat) (i:Nat),oR H [] i (l.map fun i=> .bp i 0)=some (l.map fun i=> .bp i 0)∧cr H [] i (l.map fun i=> .bp i 0)=[]
 | [],i=>⟨rfl,rfl⟩
 | a::l,i=>by
   obtain⟨h1,h2⟩:=Cb H l (i+1)
   simp only[List.map_cons,zq,qs,DT,Nr,PE,Option.bind_some,IW,h1,h2,UN,PI]
   exact⟨rfl,rfl⟩
theorem Cc(n m:Nat):yO n (eV m)=List.range m:=by
 simp only[yO,eV,List.flatMap_map]
 have:∀l:List Nat,(l.flatMap fun a=>ids n (.bp a 0))=l:=by
  intro l
  induction l with
  | nil=>rfl
  | cons a l ih=>rw[List.flatMap_cons,ih,UQ];rfl
 exact this _
theorem Fv(n m:Nat):bQ (ren (idxOf (List.range m)) n) (eV m)=some (eV m):=DX fun d hd=>by
 simp only[eV,List.mem_map,List.mem_range]at hd
 obtain⟨k,hk,rfl⟩:=hd
 rw[UU,DW hk];rfl
theorem Aw{α β:Type}{f:α→Option β}:∀ {a b:List α} {x y:List β},bQ f a=some x→bQ f b=some y→bQ f (a++b)=some (x++y)
 | [],b,x,y,h1,h2=>by simp[bQ]at h1;subst h1;exact h2
 | c::a,b,x,y,h1,h2=>by
   simp only[bQ,Option.bind_eq_some_iff,Option.map_eq_some_iff]at h1
   obtain⟨z,hz,r,hr,rfl⟩:=h1
   simp only[List.cons_append,bQ,hz,Option.bind_some,Aw hr h2,Option.map_some]
theorem I7(call:aS)(bs:List (List T))(E:aj)(f raw:Nat)(ts:List T){r:D}(h:call raw f (ts.map .t++eV bs.length) (aQ bs)=some (r,aQ bs))(hr:wI r=true):
 GA (aQ bs++E) call f raw [] (ts.map .t++eV bs.length)=some (r,aQ bs++E):=
 Ca call bs E f raw _ h hr (fun H=>DZ H _ (Cb H _) ts 0)
  (by rw[Fs,Fq,List.nil_append,Cc,u9 _ _ (by simpa using List.nodup_range),List.nil_append])
  (Aw (rr _ _ _) (Fv _ _))
theorem P4(call:aS)(bs:List (List T))(E:aj)(g f raw:Nat)(ts:List T){r:D}(h:call raw f (ts.map .t++[.fn g (eV bs.length)]) (aQ bs)=some (r,aQ bs))(hr:wI r=true):
 GA (aQ bs++E) call f raw [] (ts.map .t++[.fn g (eV bs.length)])=some (r,aQ bs++E):=
 Ca call bs E f raw _ h hr (fun H=>DZ H _ (fun i=>⟨rfl,rfl⟩) ts 0)
  (by rw[Fs,Fq,List.nil_append,IY,UR,Cc,LN,List.append_nil,u9 _ _ (by simpa using List.nodup_range),List.nil_append])
  (Aw (rr _ _ _) (by rw[B2,UX,Fv];rfl))
theorem Cd{f:Nat}{bs:List (List T)}{x:T}{r:D}(E:aj)(h:aN 0 f (.t x::eV bs.length) (aQ bs)=some (r,aQ bs))(hr:wI r=true):
 GA (aQ bs++E) aN f 0 [] (.t x::eV bs.length)=some (r,aQ bs++E):=I7 aN bs E f 0 [x] h hr
theorem mi{f:Nat}{bs:List (List T)}{x:T}{r:D}(h:aN 0 f (.t x::eV bs.length) (aQ bs)=some (r,aQ bs))(hr:wI r=true):
 GA (aQ bs) aN f 0 [] (.t x::eV bs.length)=some (r,aQ bs):=by
 have:=Cd [] h hr;rwa [List.append_nil]at this
theorem vd(call:aS)(bs:List (List T))(g f raw:Nat)(x:T){r:D}(h:call raw f [.t x,.fn g (eV bs.length)] (aQ bs)=some (r,aQ bs))(hr:wI r=true):
 GA (aQ bs) call f raw [] [.t x,.fn g (eV bs.length)]=some (r,aQ bs):=by
 have:=P4 call bs [] g f raw [x] h hr
 rwa [List.append_nil]at this
section
variable (bs : List (List T)) (o o' : Obj)
@[go_sem] theorem LW : (aQ bs).length = bs.length := eW bs
@[go_sem] theorem SM : (aQ bs ++ [o])[bs.length]? = some o := by
 rw[List.getElem?_append_right (by rw[eW];exact Nat.le_refl _),eW];simp
@[go_sem] theorem U2 : (aQ bs ++ [o]).set bs.length o' = aQ bs ++ [o'] := by
 rw[List.set_append_right _ _ (by rw[eW];exact Nat.le_refl _),eW];simp
@[go_sem] theorem SN : (aQ bs ++ [o]).take bs.length = aQ bs := by
 rw[List.take_append_of_le_length (by rw[eW];exact Nat.le_refl _),List.take_of_length_le (by rw[eW];exact Nat.le_refl _)]
@[go_sem] theorem P5 : (aQ bs ++ [o]).take (bs.length + 1) = aQ bs ++ [o] := List.take_of_length_le (by simp [eW])
@[go_sem] theorem P6 : (aQ bs).take bs.length = aQ bs := List.take_of_length_le (by simp [eW])
@[go_sem] theorem P7 (k : Nat) (a b : aj) : fB k (a ++ b) = (fB k a && fB k b) := by
 rw[← mh,←mh,←mh,List.all_append]
@[go_sem] theorem LX (k : Nat) : fB k (aQ bs) = true := by
 induction bs with
 | nil=>rfl
 | cons b r ih=>
   show(fU k 8 (b.map .t)&&fB k (aQ r))=true
   rw[LB,ih];rfl
@[go_sem] theorem Xl (n : Nat) : ltB n (n + 1) = true := by rw [sC]; simp
@[go_sem] theorem Xm (n : Nat) : ltB n n = false := by rw [sC]; simp
theorem vY(k n m:Nat)(h:m≤k):fU k n (eV m)=true:=by
 unfold fU eV
 rw[List.all_eq_true]
 intro d hd
 obtain⟨i,hi,rfl⟩:=List.mem_map.1 hd
 rw[Uy,sC]
 have:=List.mem_range.1 hi
 simp;omega
@[go_sem] theorem P8 (n m : Nat) : fU m n (eV m) = true := vY _ _ _ (Nat.le_refl _)
@[go_sem] theorem NC (n m : Nat) : fU (m + 1) n (eV m) = true := vY _ _ _ (Nat.le_succ _)
end
def cq(n:Nat)(p:Nat→Bool):List Int:=((List.range n).filter p).map (fun(i:Nat)=>(i:Int))
theorem kG(n:Nat)(p:Nat→Bool):cq (n+1) p=if p n=true then cq n p++[(n:Int)]else cq n p:=by
 unfold cq
 rw[List.range_succ,List.filter_append,List.map_append]
 by_cases h:p n=true<;>simp[h]
theorem gR(n:Nat)(p:Nat→Bool):(cq n p).length≤n:=by
 unfold cq
 rw[List.length_map]
 have:=List.length_filter_le p (List.range n)
 simpa using this
theorem LY(n:Nat)(hn:n≤1000000)(f:Nat)(bs:List (List T))(p:Nat→Bool)(h:∀k,k<n→aN 0 f (I k::eV bs.length) (aQ bs)=some (B (p k),aQ bs)):
 aN 0 N.dK [I n,.fn f (eV bs.length)] (aQ bs)=some (.t (tL (cq n p)),aQ bs):=by
 refine ax K.pe rfl ?_
 have hlen:=fun k=>gR k p
 have loop:exS aN K.rR ⟨[I n,.fn f (eV bs.length),.nil,.ref bs.length 0 0,.und,I n,I 0],aQ bs++[.arr 1 false 0 []]⟩=
  some (.exit 0,⟨[.und,.fn f (eV bs.length),.und,.ref bs.length 0 (cq n p).length,.und,I n,I n],aQ bs++[.arr 1 false 0 (((cq n p).map (T.int .i64)).map .t)]⟩):=by
  refine b5 (fun j=>⟨[.und,.fn f (eV bs.length),.und,.ref bs.length 0 (cq j p).length,.und,I n,I j],aQ bs++[.arr 1 false 0 (((cq j p).map (T.int .i64)).map .t)]⟩) n rfl ?_ ?_ (by simp)
  · intro j hj
    have hc:=Cd [.arr 1 false 0 (((cq j p).map (T.int .i64)).map .t)] (h j hj) rfl
    have:=hlen j
    by_cases hp:p j=true
    · simp (disch:=omega) only[go_sem,K.j7,hc,hp,kG,↓reduceIte]
    · simp (disch:=omega) only[go_sem,K.j7,hc,hp,kG,↓reduceIte]
  · simp (disch:=omega) only[go_sem,K.j7,↓reduceIte]
 simp (disch:=omega) only[go_sem,K.dK,↓reduceIte,loop]
end Go.Ev
namespace Go.Ev
open Go
variable [Lib] [cn] [bS]
theorem vZ{α:Type}(sz:Nat)(f:α→T)(h:∀a,nH sz (f a).cells=true):∀l:List α,eL sz (l.map f)=true
 | []=>rfl
 | a::l=>by rw[List.map_cons,tO,h,vZ sz f h l];rfl
@[go_sem] theorem ND (k : IntKind) (l : List Int) : eL 1 (l.map (.int k)) = true := vZ 1 _ (fun _ => rfl) l
theorem Ce(sz:Nat):∀ts:List T,(ts.all fun e=>e.cells.length==sz)=eL sz ts
 | []=>rfl
 | t::ts=>by
   rw[List.all_cons,tO,Ce sz ts]
   congr 1
   rw[Bool.eq_iff_iff,eZ];simp
section
variable (H : aj) (sz : Nat) (ts : List T) (i j : Int)
@[go_sem] theorem ZH : IM H sz (some (.t (.sl ts))) (some none) (some (some i)) = if 0 ≤ i then (if i ≤ ts.length then (if eL sz ts = true then some (.t (.sl (ts.take i.toNat)), H) else none) else none) else none := by
 simp only[IM,Option.bind_some,qi,bound,Ce,idx]
 by_cases h1:0≤i
 · rw[if_pos h1,if_pos h1,Option.bind_some]
   by_cases h2:i≤ts.length
   · rw[if_pos h2]
     by_cases h3:eL sz ts=true
     · rw[if_pos h3,if_pos ⟨by omega,by omega,h3⟩];rfl
     · rw[if_neg h3,if_neg fun h=>h3 h.2.2];rfl
   · rw[if_neg h2,if_neg fun h=>h2 (by omega)];rfl
 · rw[if_neg h1,if_neg h1];rfl
end
def bsK(H:aj)(l:List Nat):Option T→Option (D×aj)
 | some t=>some (.t (.sl [t]),pins H l)
 | none=>none
@[go_sem] theorem Xn (H : aj) (l : List Nat) (t : T) : bsK H l (some t) = some (.t (.sl [t]), pins H l) := (rfl)
@[go_sem] theorem Xo (H : aj) (sz : Nat) (cs : List D) : IL H sz [.agg cs] = if nH sz cs = true then bsK H (fq H 8 (.agg cs)) (frz H 8 (.agg cs)) else none := by
 simp only[IL,List.all_cons,List.all_nil,Bool.and_true,D.cells]
 by_cases h:nH sz cs=true
 · rw[if_pos h,if_pos (by simpa using eZ.1 h)]
   simp only[bQ,depth,List.flatMap_cons,List.flatMap_nil,List.append_nil]
   cases frz H 8 (.agg cs)<;>rfl
 · rw[if_neg h,if_neg (by intro e;exact h (eZ.2 (by simpa using e)))]
def P9(H:aj)(r:D)(os:aj):D×aj:=(r,H++os)
@[go_sem] theorem Xp (H : aj) (r : D) (os : aj) : P9 H r os = (r, H ++ os) := (rfl)
def U3(H:aj)(os:aj)(r:D):Option (D×aj):=(bQ (gw (eh [] H.length)) os).map (P9 H r)
@[go_sem] theorem Xq (H : aj) (os : aj) (r : D) : U3 H os r = (bQ (gw (eh [] H.length)) os).map (P9 H r) := (rfl)
@[go_sem] theorem U4 (H : aj) (r : D) (o : Obj) (os : aj) : B4 H (r, o :: os) = (ren (eh [] H.length) 8 r).bind (U3 H (o :: os)) := by
 simp only[B4,List.isEmpty_cons,Bool.and_false,Bool.false_eq_true,if_false]
 rfl
end Go.Ev
namespace Go.Ev
open Go
variable [Lib] [cn] [bS]
structure Place where
 h:Int
 surf:Bool
instance : Dat Place := ⟨⟨0, false⟩⟩
abbrev Place.e(p:Place):T:= .agg [tI p.h,.bool p.surf]
structure Road where
 frm:Int
 to:Int
 len:Int
 area:Int
 walk:Bool
 closed:Bool
 restL:Int
 restH:Int
 liftL:Int
 liftH:Int
instance : Dat Road := ⟨⟨0, 0, 0, 0, false, false, 0, 0, 0, 0⟩⟩
abbrev Road.e(r:Road):T:= .agg [tI r.frm,tI r.to,tI r.len,tI r.area,.bool r.walk,.bool r.closed,tI r.restL,tI r.restH,tI r.liftL,tI r.liftH]
structure aT where
 places:List Place
 roads:List Road
instance : Dat aT := ⟨⟨[], []⟩⟩
abbrev aT.e(m:aT):T:= .agg [.sl (m.places.map Place.e),.sl (m.roads.map Road.e)]
structure Road.ok(n:Nat)(r:Road):Prop where
 f0:0≤r.frm
 f1:r.frm<n
 t0:0≤r.to
 t1:r.to<n
 ne:r.frm≠r.to
 l0:1≤r.len
 l1:r.len≤100000
 a0:1≤r.area
 a1:r.area≤1000
 r0:1≤r.restL
 r1:r.restL≤r.restH
 r2:r.restH≤262144
 i0: -2199023255552≤r.liftL
 i1:r.liftL≤r.liftH
 i2:r.liftH≤2199023255552
structure aT.ok(m:aT):Prop where
 np:m.places.length≤64
 nr:m.roads.length≤128
 hs:∀p∈m.places, -10000≤p.h∧p.h≤10000
 rs:∀r∈m.roads,r.ok m.places.length
theorem Cf(a b lo hi:Int):aN 0 N.gh [.t (.agg [tI a,tI b]),I lo,I hi] []=some (B (decide (lo≤a∧a≤b∧b≤hi)),[]):=by
 refine ax K.qA rfl ?_
 by_cases h1:lo≤a<;>by_cases h2:a≤b<;>by_cases h3:b≤hi<;>simp (disch:=omega) only[go_sem,K.gh,↓reduceIte,h1,h2,h3]
theorem ru{m:aT}(h:m.ok):aN 0 N.cW [.t m.e] []=some (I 0,[]):=by
 refine ax K.o6 rfl ?_
 have np:=h.np
 have nr:=h.nr
 have loop1:∀a b c d e:D,exS aN K.rP ⟨[a,.bp 0 0,b,I 0,c,d,e],[.box [.t (.sl (m.places.map Place.e)),.t (.sl (m.roads.map Road.e))]]⟩=
  some (.exit 0,⟨[.und,.bp 0 0,.und,I m.places.length,.und,.und,.und],[.box [.t (.sl (m.places.map Place.e)),.t (.sl (m.roads.map Road.e))]]⟩):=by
  intro a b c d e
  refine b5 (fun j=>⟨[.und,.bp 0 0,.und,I j,.und,.und,.und],[.box [.t (.sl (m.places.map Place.e)),.t (.sl (m.roads.map Road.e))]]⟩) m.places.length rfl ?_ ?_ (by simp)
  · intro j hj
    have hh:=h.hs _ (aa hj)
    simp (disch:=omega) only[go_sem,K.mD,↓reduceIte]
  · simp (disch:=omega) only[go_sem,K.mD,↓reduceIte]
 have loop2:∀a b c d e:D,exS aN K.rQ ⟨[a,.bp 0 0,b,c,d,I 0,e],[.box [.t (.sl (m.places.map Place.e)),.t (.sl (m.roads.map Road.e))]]⟩=
  some (.exit 2,⟨[.und,.bp 0 0,.und,.und,.und,I m.roads.length,.und],[.box [.t (.sl (m.places.map Place.e)),.t (.sl (m.roads.map Road.e))]]⟩):=by
  intro a b c d e
  refine b5 (fun j=>⟨[.und,.bp 0 0,.und,.und,.und,I j,.und],[.box [.t (.sl (m.places.map Place.e)),.t (.sl (m.roads.map Road.e))]]⟩) m.roads.length rfl ?_ ?_ (by simp)
  · intro j hj
    obtain⟨f0,f1,t0,t1,ne,l0,l1,a0,a1,r0,r1,r2,i0,i1,i2⟩:=h.rs _ (aa hj)
    have s1:=Cf (nth m.roads j).restL (nth m.roads j).restH 1 262144
    have s2:=Cf (nth m.roads j).liftL (nth m.roads j).liftH (-2199023255552) 2199023255552
    simp (disch:=omega) only[go_sem]at s1 s2
    simp (disch:=omega) only[go_sem,K.mE,↓reduceIte,s1,s2]
  · simp (disch:=omega) only[go_sem,K.mE,↓reduceIte]
 simp (disch:=omega) only[go_sem,K.cW,↓reduceIte,loop1,loop2]
theorem D0{l:List Int}{p:Int→Bool}:((List.range l.length).find? fun j=>p (nth l j)).isSome=l.any p:=by
 rw[List.isSome_find?,Bool.eq_iff_iff,List.any_eq_true,List.any_eq_true]
 constructor
 · rintro ⟨j,hj,h⟩
   exact⟨_,aa (List.mem_range.1 hj),h⟩
 · rintro ⟨x,hx,h⟩
   obtain⟨j,hj⟩:=List.mem_iff_getElem?.1 hx
   exact⟨j,List.mem_range.2 (List.getElem?_eq_some_iff.1 hj).1,by rw[bB hj];exact h⟩
theorem zu(l:List Int)(x:Int)(hl:l.length≤4294967296):aN 0 N.fK [.t (tL l),I x] []=some (B (decide (x∈l)),[]):=by
 refine ax K.sE rfl ?_
 have loop:∀a:D,exS aN K.vS ⟨[.t (tL l),I x,a,I 0],[]⟩=
  some (match (List.range l.length).find? (fun j=>decide (nth l j=x))with
   | some j=>(.ret,⟨[.t (tL l),I x,B true,I j],[]⟩)
   | none=>(.exit 0,⟨[.t (tL l),I x,.und,I l.length],[]⟩)):=by
  intro a
  refine b7 (fun j=>⟨[.t (tL l),I x,.und,I j],[]⟩) l.length (fun j=>decide (nth l j=x)) _ _ rfl ?_ ?_ ?_ (by simp)
  · intro j hj hp
    have hp:¬nth l j=x:=of_decide_eq_false hp
    simp (disch:=omega) only[go_sem,K.lZ,↓reduceIte]
  · intro j hj hp
    have hp:nth l j=x:=of_decide_eq_true hp
    simp (disch:=omega) only[go_sem,K.lZ,↓reduceIte,hp]
    simp
  · simp (disch:=omega) only[go_sem,K.lZ,↓reduceIte]
 have e:=D0 (l:=l) (p:=fun y=>decide (y=x))
 have e2:l.any (fun y=>decide (y=x))=decide (x∈l):=by rw[Bool.eq_iff_iff];simp
 rw[e2]at e
 simp only[go_sem,K.fK,↓reduceIte,loop]
 cases hf:(List.range l.length).find? (fun j=>decide (nth l j=x))with
 | some j=>rw[hf]at e;simp (disch:=omega) only[go_sem,↓reduceIte,←e]
 | none=>rw[hf]at e;simp (disch:=omega) only[go_sem,↓reduceIte,←e,Option.isSome_none]
theorem D1(a b:List Int)(hl:a.length≤4294967296):aN 0 N.cm [.t (tL a),.t (tL b)] []=some (B (decide (a=b)),[]):=by
 refine ax K.lJ rfl ?_
 by_cases hlen:a.length=b.length
 · have loop:∀c:D,exS aN K.oF ⟨[.t (tL a),.t (tL b),c,I 0],[]⟩=
    some (match (List.range a.length).find? (fun j=>decide (nth a j≠nth b j))with
     | some j=>(.ret,⟨[.t (tL a),.t (tL b),B false,I j],[]⟩)
     | none=>(.exit 0,⟨[.t (tL a),.t (tL b),.und,I a.length],[]⟩)):=by
    intro c
    refine b7 (fun j=>⟨[.t (tL a),.t (tL b),.und,I j],[]⟩) a.length (fun j=>decide (nth a j≠nth b j)) _ _ rfl ?_ ?_ ?_ (by simp)
    · intro j hj hp
      have hp:nth a j=nth b j:=by simpa using hp
      simp (disch:=omega) only[go_sem,K.iq,↓reduceIte]
    · intro j hj hp
      have hp:nth a j≠nth b j:=by simpa using hp
      simp (disch:=omega) only[go_sem,K.iq,↓reduceIte]
      simp
    · simp (disch:=omega) only[go_sem,K.iq,↓reduceIte]
   have e:(a=b)↔(List.range a.length).find? (fun j=>decide (nth a j≠nth b j))=none:=by
    rw[List.find?_eq_none]
    constructor
    · intro h j _;simp[h]
    · intro h
      apply List.ext_getElem?
      intro j
      by_cases hj:j<a.length
      · rw[jv hj,jv (by omega)]
        have:=h j (List.mem_range.2 hj)
        simpa using this
      · rw[List.getElem?_eq_none (by omega),List.getElem?_eq_none (by omega)]
   simp (disch:=omega) only[go_sem,K.cm,↓reduceIte,loop]
   cases hf:(List.range a.length).find? (fun j=>decide (nth a j≠nth b j))with
   | some j=>rw[hf]at e;simp (disch:=omega) only[go_sem,↓reduceIte,e];simp
   | none=>rw[hf]at e;simp (disch:=omega) only[go_sem,↓reduceIte,e]
 · have hne:a≠b:=fun h=>hlen (by rw[h])
   simp (disch:=omega) only[go_sem,K.cm,↓reduceIte,hne]
def sI(l:List Int)(n:Int):Bool:=(List.range l.length).all fun j=>decide (0≤nth l j∧nth l j<n∧(0<j→nth l (j-1)<nth l j))
theorem pz{n:Nat}{p:Nat→Bool}:((List.range n).all p)=((List.range n).find? fun j=> !p j).isNone:=by
 rw[← Option.not_isSome,List.isSome_find?,List.not_any_eq_all_not]
 simp
theorem NF(l:List Int)(n:Int)(hl:l.length≤4294967296):aN 0 N.iC [.t (tL l),I n] []=some (B (sI l n),[]):=by
 refine ax K.sG rfl ?_
 have loop:∀c:D,exS aN K.vT ⟨[.t (tL l),I n,c,I 0],[]⟩=
  some (match (List.range l.length).find? (fun j=> !decide (0≤nth l j∧nth l j<n∧(0<j→nth l (j-1)<nth l j)))with
   | some j=>(.ret,⟨[.t (tL l),I n,B false,I j],[]⟩)
   | none=>(.exit 0,⟨[.t (tL l),I n,.und,I l.length],[]⟩)):=by
  intro c
  refine b7 (fun j=>⟨[.t (tL l),I n,.und,I j],[]⟩) l.length _ _ _ rfl ?_ ?_ ?_ (by simp)
  · intro j hj hp
    simp only[Bool.not_eq_false',decide_eq_true_eq]at hp
    obtain⟨h1,h2,h3⟩:=hp
    cases j with
    | zero=>simp (disch:=omega) only[go_sem,K.gA,↓reduceIte]
    | succ j=>
      have h3:=h3 (by omega)
      rw[Nat.add_sub_cancel]at h3
      simp (disch:=omega) only[go_sem,K.gA,↓reduceIte]
  · intro j hj hp
    simp only[Bool.not_eq_true',decide_eq_false_iff_not]at hp
    refine⟨?_,by simp⟩
    by_cases h1:0≤nth l j
    · by_cases h2:nth l j<n
      · cases j with
        | zero=>exact absurd ⟨h1,h2,fun h=>absurd h (by omega)⟩ hp
        | succ j=>
          have h3:¬nth l j<nth l (j+1):=fun h=>hp ⟨h1,h2,fun _=>by simpa using h⟩
          simp (disch:=omega) only[go_sem,K.gA,↓reduceIte]
      · simp (disch:=omega) only[go_sem,K.gA,↓reduceIte]
    · simp (disch:=omega) only[go_sem,K.gA,↓reduceIte]
  · simp (disch:=omega) only[go_sem,K.gA,↓reduceIte]
 have e:sI l n=_:=pz
 simp only[go_sem,K.iC,↓reduceIte,loop]
 cases hf:(List.range l.length).find? (fun j=> !decide (0≤nth l j∧nth l j<n∧(0<j→nth l (j-1)<nth l j)))with
 | some j=>rw[hf]at e;simp (disch:=omega) only[go_sem,↓reduceIte,e,Option.isNone_some]
 | none=>rw[hf]at e;simp (disch:=omega) only[go_sem,↓reduceIte,e,Option.isNone_none]
theorem I8(x lo hi:Int):aN 0 N.eM [I x,I lo,I hi] []=some (B (decide (lo≤x∧x≤hi)),[]):=by
 refine ax K.uY rfl ?_
 by_cases h1:lo≤x<;>by_cases h2:x≤hi<;>simp (disch:=omega) only[go_sem,K.eM,↓reduceIte]
theorem LZ(l:List Int)(x:Int)(hl:l.length≤4294967296):aN 0 N.bD [.t (tL l),I x] []=
 some (I (match (List.range l.length).find? (fun j=>decide (nth l j=x))with | some j=>(j:Int) | none=> -1),[]):=by
 refine ax K.gY rfl ?_
 have loop:∀a b:D,exS aN K.j9 ⟨[.t (tL l),I x,a,b,I l.length,I 0],[]⟩=
  some (match (List.range l.length).find? (fun j=>decide (nth l j=x))with
   | some j=>(.ret,⟨[.t (tL l),I x,I j,I j,I l.length,I j],[]⟩)
   | none=>(.exit 0,⟨[.t (tL l),I x,.und,.und,I l.length,I l.length],[]⟩)):=by
  intro a b
  refine b7 (fun j=>⟨[.t (tL l),I x,.und,.und,I l.length,I j],[]⟩) l.length (fun j=>decide (nth l j=x)) _ _ rfl ?_ ?_ ?_ (by simp)
  · intro j hj hp
    have hp:¬nth l j=x:=of_decide_eq_false hp
    simp (disch:=omega) only[go_sem,K.eo,↓reduceIte]
  · intro j hj hp
    have hp:nth l j=x:=of_decide_eq_true hp
    simp (disch:=omega) only[go_sem,K.eo,↓reduceIte,hp]
    simp
  · simp (disch:=omega) only[go_sem,K.eo,↓reduceIte]
 simp (disch:=omega) only[go_sem,K.bD,↓reduceIte,loop]
 cases hf:(List.range l.length).find? (fun j=>decide (nth l j=x))with
 | some j=>simp (disch:=omega) only[go_sem,↓reduceIte]
 | none=>simp (disch:=omega) only[go_sem,↓reduceIte]
theorem D2(l:List Int)(x:Int)(hl:l.length≤4294967296):aN 0 N.aR [.t (tL l),I x] []=some (B (decide (x∈l)),[]):=by
 refine ax K.fQ rfl ?_
 have h:=LZ l x hl
 have e:=D0 (l:=l) (p:=fun y=>decide (y=x))
 have e2:l.any (fun y=>decide (y=x))=decide (x∈l):=by rw[Bool.eq_iff_iff];simp
 rw[e2]at e
 cases hf:(List.range l.length).find? (fun j=>decide (nth l j=x))with
 | some j=>rw[hf]at e h;simp (disch:=omega) only[go_sem,K.aR,↓reduceIte,←e,h]
 | none=>rw[hf]at e h;simp (disch:=omega) only[go_sem,K.aR,↓reduceIte,←e,h,Option.isSome_none]
theorem Cg(l:List Int)(hl:l.length≤4294967296)(f:Nat)(bs:List (List T))(p:Int→Bool)(h:∀x,x∈l→aN 0 f (I x::eV bs.length) (aQ bs)=some (B (p x),aQ bs)):
 aN 0 N.bh [.t (tL l),.fn f (eV bs.length)] (aQ bs)=
 some (I (match (List.range l.length).find? (fun j=>p (nth l j))with | some j=>(j:Int) | none=> -1),aQ bs):=by
 refine ax K.fC rfl ?_
 have loop:∀a b:D,exS aN K.iD ⟨[.t (tL l),.fn f (eV bs.length),a,b,I l.length,I 0],aQ bs⟩=
  some (match (List.range l.length).find? (fun j=>p (nth l j))with
   | some j=>(.ret,⟨[.t (tL l),.fn f (eV bs.length),I j,I j,I l.length,I j],aQ bs⟩)
   | none=>(.exit 0,⟨[.t (tL l),.fn f (eV bs.length),.und,.und,I l.length,I l.length],aQ bs⟩)):=by
  intro a b
  refine b7 (fun j=>⟨[.t (tL l),.fn f (eV bs.length),.und,.und,I l.length,I j],aQ bs⟩) l.length (fun j=>p (nth l j)) _ _ rfl ?_ ?_ ?_ (by simp)
  · intro j hj hp
    have hc:=mi (h _ (aa hj)) rfl
    simp (disch:=omega) only[go_sem,K.dj,↓reduceIte,hc,hp]
  · intro j hj hp
    have hc:=mi (h _ (aa hj)) rfl
    simp (disch:=omega) only[go_sem,K.dj,↓reduceIte,hp,hc]
    simp
  · simp (disch:=omega) only[go_sem,K.dj,↓reduceIte]
 simp (disch:=omega) only[go_sem,K.bh,↓reduceIte,loop]
 cases hf:(List.range l.length).find? (fun j=>p (nth l j))with
 | some j=>simp (disch:=omega) only[go_sem,↓reduceIte]
 | none=>simp (disch:=omega) only[go_sem,↓reduceIte]
theorem mH(l:List Int)(hl:l.length≤4294967296)(f:Nat)(bs:List (List T))(p:Int→Bool)(h:∀x,x∈l→aN 0 f (I x::eV bs.length) (aQ bs)=some (B (p x),aQ bs)):
 aN 0 N.aB [.t (tL l),.fn f (eV bs.length)] (aQ bs)=some (B (l.any p),aQ bs):=by
 refine ax K.eB rfl ?_
 have h:=Cg l hl f bs p h
 have hc:=vd aN bs f _ 0 (tL l) h rfl
 have e:=D0 (l:=l) (p:=p)
 cases hf:(List.range l.length).find? (fun j=>p (nth l j))with
 | some j=>rw[hf]at e hc;simp (disch:=omega) only[go_sem,K.aB,↓reduceIte,←e,hc]
 | none=>rw[hf]at e hc;simp (disch:=omega) only[go_sem,K.aB,↓reduceIte,←e,hc,Option.isSome_none]
theorem Qa(r:Road)(back:Bool):aN 0 N.gO [.t r.e,B back] []=some (.tup [I (if back then r.to else r.frm),I (if back then r.frm else r.to)],[]):=by
 refine ax K.qF rfl ?_
 cases back<;>simp (disch:=omega) only[go_sem,K.gO,↓reduceIte]
def eX(m:aT)(k:Nat)(back:Bool)(up down level:Int):Int:=
 let x:=nth m.roads k
 if x.closed=true∨x.walk=false then -1 else
 let a:=if back then x.to else x.frm
 let b:=if back then x.frm else x.to
 let rise:=(nth m.places b.toNat).h-(nth m.places a.toNat).h
 let speed:=if -10*rise>x.len then down else if 10*rise>x.len then up else level
 (10*x.len+speed-1).tdiv speed
theorem sJ{a b:Int}(ha:0≤a)(hb:1≤b):0≤a.tdiv b∧a.tdiv b≤a:=by
 rw[Int.tdiv_eq_ediv_of_nonneg ha]
 exact⟨Int.ediv_nonneg ha (by omega),Int.ediv_le_self _ ha⟩
theorem I9{m:aT}(h:m.ok)(k:Nat)(hk:k<m.roads.length)(back:Bool)(up down level:Int)(hu:1≤up)(hu2:up≤100)(hd:1≤down)(hd2:down≤100)(hl:1≤level)(hl2:level≤100):
 aN 0 N.bN [.t m.e,I k,B back,I up,I down,I level] []=some (I (eX m k back up down level),[]):=by
 refine ax K.nU rfl ?_
 have hc:=ru h
 have nr:=h.nr
 have np:=h.np
 obtain⟨f0,f1,t0,t1, -,l0,l1, -, -, -, -, -, -, -, -⟩:=h.rs _ (aa hk)
 have he:=Qa (nth m.roads k) back
 have b1:=h.hs _ (aa (l:=m.places) (j:=(nth m.roads k).frm.toNat) (by omega))
 have b2:=h.hs _ (aa (l:=m.places) (j:=(nth m.roads k).to.toNat) (by omega))
 unfold eX
 generalize hx:nth m.roads k=x at*
 obtain⟨frm,to,len,area,walk,closed,rl,rh,ll,lh⟩:=x
 simp only at f0 f1 t0 t1 l0 l1 b1 b2 he ⊢
 cases closed with
 | true=>simp (disch:=omega) only[go_sem,K.bN,↓reduceIte,hc,hx]
 | false=>
   cases walk with
   | false=>simp (disch:=omega) only[go_sem,K.bN,↓reduceIte,hc,hx]
   | true=>
     have g1:=sJ (a:=10*len+up-1) (b:=up) (by omega) hu
     have g2:=sJ (a:=10*len+down-1) (b:=down) (by omega) hd
     have g3:=sJ (a:=10*len+level-1) (b:=level) (by omega) hl
     cases back with
     | true=>
       simp only[↓reduceIte]at he ⊢
       have w1:IntKind.i64.wrap ((nth m.places frm.toNat).h-(nth m.places to.toNat).h)=(nth m.places frm.toNat).h-(nth m.places to.toNat).h:=uW (by omega) (by omega)
       by_cases c2:len< -10*((nth m.places frm.toNat).h-(nth m.places to.toNat).h)
       · simp (disch:=omega) only[go_sem,K.bN,↓reduceIte,hc,hx,he,w1,gt_iff_lt]
       · by_cases c1:len<10*((nth m.places frm.toNat).h-(nth m.places to.toNat).h)
         · simp (disch:=omega) only[go_sem,K.bN,↓reduceIte,hc,hx,he,w1,gt_iff_lt]
         · simp (disch:=omega) only[go_sem,K.bN,↓reduceIte,hc,hx,he,w1,gt_iff_lt]
     | false=>
       simp only[Bool.false_eq_true,↓reduceIte]at he ⊢
       have w1:IntKind.i64.wrap ((nth m.places to.toNat).h-(nth m.places frm.toNat).h)=(nth m.places to.toNat).h-(nth m.places frm.toNat).h:=uW (by omega) (by omega)
       by_cases c2:len< -10*((nth m.places to.toNat).h-(nth m.places frm.toNat).h)
       · simp (disch:=omega) only[go_sem,K.bN,↓reduceIte,hc,hx,he,w1,gt_iff_lt]
       · by_cases c1:len<10*((nth m.places to.toNat).h-(nth m.places frm.toNat).h)
         · simp (disch:=omega) only[go_sem,K.bN,↓reduceIte,hc,hx,he,w1,gt_iff_lt]
         · simp (disch:=omega) only[go_sem,K.bN,↓reduceIte,hc,hx,he,w1,gt_iff_lt]
theorem Ax{m:aT}(h:m.ok)(k:Nat)(hk:k<m.roads.length)(back:Bool):aN 0 N.eU [.t m.e,I k,B back] []=some (I (eX m k back 6 9 12),[]):=by
 refine ax K.qE rfl ?_
 have hw:=I9 h k hk back 6 9 12 (by omega) (by omega) (by omega) (by omega) (by omega) (by omega)
 simp (disch:=omega) only[go_sem,K.eU,↓reduceIte,hw]
theorem Ay{m:aT}(h:m.ok)(k:Nat)(hk:k<m.roads.length)(back:Bool): -1≤eX m k back 6 9 12∧eX m k back 6 9 12≤1000012:=by
 have l0:=(h.rs _ (aa hk)).l0
 have l1:=(h.rs _ (aa hk)).l1
 unfold eX
 simp only
 split
 · omega
 · generalize hs:(if -10*_>(nth m.roads k).len then(9:Int)else _)=s
   have h1:1≤s∧s≤12:=by
    rw[← hs]
    split
    · omega
    · split<;>omega
   have g1:=sJ (a:=10*(nth m.roads k).len+s-1) (b:=s) (by omega) h1.1
   omega
def bnd(l:List Int):Prop:=∀x∈l,0≤x∧x≤1099511627776
def lQ(l:List Int)(p q:Nat)(walk t:Int):Bool:=
 decide (0≤walk)&&decide (nth l p<1099511627776)&&decide (max t (nth l p+walk)≤2147483648)&&decide (max t (nth l p+walk)<nth l q)
def mI(l:List Int)(p q:Nat)(walk t:Int):List Int:=if lQ l p q walk t=true then l.set q (max t (nth l p+walk))else l
theorem Az(l:List Int)(hb:bnd l)(hl:l.length≤64)(p q:Int)(hp:0≤p)(hp2:p<l.length)(hq:0≤q)(hq2:q<l.length)(walk t:Int)(hw:walk≤1000000000)(ht:t≤1000000000000)(ht0: -1000000000000≤t):
 aN 0 N.cX [.ref 0 0 l.length,I p,I q,I walk,I t] [.arr 1 false 0 ((l.map (T.int .i64)).map .t)]=
  some (B (lQ l p.toNat q.toNat walk t),[.arr 1 false 0 (((mI l p.toNat q.toNat walk t).map (T.int .i64)).map .t)]):=by
 refine ax K.pt rfl ?_
 have b1:=hb _ (aa (l:=l) (j:=p.toNat) (by omega))
 have b2:=hb _ (aa (l:=l) (j:=q.toNat) (by omega))
 clear hb
 unfold mI lQ
 by_cases c1:0≤walk
 · by_cases c2:nth l p.toNat<1099511627776
   · by_cases c3:max t (nth l p.toNat+walk)≤2147483648
     · by_cases c4:max t (nth l p.toNat+walk)<nth l q.toNat
       · simp (disch:=omega) only[go_sem,K.cX,↓reduceIte]
       · simp (disch:=omega) only[go_sem,K.cX,↓reduceIte]
     · simp (disch:=omega) only[go_sem,K.cX,↓reduceIte]
   · simp (disch:=omega) only[go_sem,K.cX,↓reduceIte]
 · simp (disch:=omega) only[go_sem,K.cX,↓reduceIte]
def Ja(into:Option (List Int))(p:Int):Bool:=match into with
 | none=>true
 | some l=>decide (p∈l)
def nV(into:Option (List Int)):D:=match into with
 | none=> .nil
 | some l=> .t (tL l)
def Road.src(r:Road)(back:Bool):Int:=if back then r.to else r.frm
def Road.dst(r:Road)(back:Bool):Int:=if back then r.frm else r.to
theorem Road.vH{n:Nat}{r:Road}(h:r.ok n)(back:Bool):0≤r.src back∧r.src back<n:=by
 unfold Road.src;have:=h.f0;have:=h.f1;have:=h.t0;have:=h.t1;cases back<;>simp<;>omega
theorem Road.zv{n:Nat}{r:Road}(h:r.ok n)(back:Bool):0≤r.dst back∧r.dst back<n:=by
 unfold Road.dst;have:=h.f0;have:=h.f1;have:=h.t0;have:=h.t1;cases back<;>simp<;>omega
def eH(m:aT)(t:Int)(into:Option (List Int))(k:Nat)(back:Bool)(l:List Int):List Int×Bool:=
 if Ja into ((nth m.roads k).dst back)=true then
  (mI l ((nth m.roads k).src back).toNat ((nth m.roads k).dst back).toNat (eX m k back 6 9 12) t,lQ l ((nth m.roads k).src back).toNat ((nth m.roads k).dst back).toNat (eX m k back 6 9 12) t)
 else(l,false)
def sK(m:aT)(t:Int)(into:Option (List Int))(k:Nat)(s:List Int×Bool):List Int×Bool:=
 let a:=eH m t into k false s.1
 let b:=eH m t into k true a.1
 (b.1,s.2||a.2||b.2)
def et(m:aT)(t:Int)(into:Option (List Int))(l:List Int):Nat→List Int×Bool
 | 0=>(l,false)
 | k+1=>sK m t into k (et m t into l k)
def cU(m:aT)(t:Int)(into:Option (List Int))(l:List Int):List Int×Bool:=et m t into l m.roads.length
theorem mj(l:List Int)(p q:Nat)(w t:Int):(mI l p q w t).length=l.length:=by unfold mI;split<;>simp
theorem oG(m:aT)(t:Int)(into:Option (List Int))(k:Nat)(back:Bool)(l:List Int):(eH m t into k back l).1.length=l.length:=by
 unfold eH;split
 · exact mj _ _ _ _ _
 · rfl
theorem dg(m:aT)(t:Int)(into:Option (List Int))(l:List Int):∀k,(et m t into l k).1.length=l.length
 | 0=>rfl
 | k+1=>by simp only[et,sK,oG,dg m t into l k]
theorem sL{l:List Int}(h:bnd l){q:Nat}{x:Int}(h0:0≤x)(h1:x≤1099511627776):bnd (l.set q x):=by
 intro y hy
 rcases List.mem_or_eq_of_mem_set hy with hy | hy
 · exact h y hy
 · subst hy;exact⟨h0,h1⟩
theorem zw{l:List Int}(h:bnd l){p q:Nat}(hp:p<l.length){w t:Int}:bnd (mI l p q w t):=by
 unfold mI
 split
 · rename_i hc
   simp only[lQ,Bool.and_eq_true,decide_eq_true_eq]at hc
   have:=h _ (aa hp)
   exact sL h (by omega) (by omega)
 · exact h
section
variable {m : aT} (h : m.ok) {t : Int} {into : Option (List Int)}
include h
theorem qG{l:List Int}(hl:l.length=m.places.length)(hb:bnd l){k:Nat}(hk:k<m.roads.length)(back:Bool):bnd (eH m t into k back l).1:=by
 have r1:=Road.vH (h.rs _ (aa hk)) back
 unfold eH
 split
 · exact zw hb (by omega)
 · exact hb
theorem gS{l:List Int}(hl:l.length=m.places.length)(hb:bnd l):∀k,k≤m.roads.length→bnd (et m t into l k).1
 | 0,_=>hb
 | k+1,hk=>by
   simp only[et,sK]
   exact qG h (by rw[oG,dg,hl]) (qG h (by rw[dg,hl]) (gS hl hb k (by omega)) (by omega) _) (by omega) _
end
def xd(l:List Int):Nat:=(l.map Int.toNat).sum
theorem Fw:∀ {l:List Int} {q:Nat} {x:Int},q<l.length→0≤x→x<nth l q→xd (l.set q x)<xd l
 | [],q,x,h,_,_=>by simp at h
 | a::l,0,x,_,h0,h1=>by
   have h1:x<a:=by simpa [nth]using h1
   simp only[xd,List.set_cons_zero,List.map_cons,List.sum_cons];omega
 | a::l,q+1,x,h,h0,h1=>by
   have:=Fw (l:=l) (q:=q) (x:=x) (by simpa using h) h0 (by simpa [nth]using h1)
   simp only[xd,List.set_cons_succ,List.map_cons,List.sum_cons]at this ⊢;omega
theorem GK{l:List Int}(hb:bnd l){p q:Nat}(hp:p<l.length)(hq:q<l.length){w t:Int}:
 (lQ l p q w t=true→xd (mI l p q w t)<xd l)∧(lQ l p q w t=false→mI l p q w t=l):=by
 unfold mI
 constructor
 · intro hc
   rw[if_pos hc]
   simp only[lQ,Bool.and_eq_true,decide_eq_true_eq]at hc
   have:=hb _ (aa hp)
   exact Fw hq (by omega) hc.2
 · intro hc;rw[if_neg (by simp[hc])]
section
variable {m : aT} (h : m.ok) {t : Int} {into : Option (List Int)}
include h
theorem x8{l:List Int}(hl:l.length=m.places.length)(hb:bnd l){k:Nat}(hk:k<m.roads.length)(back:Bool):
 ((eH m t into k back l).2=true→xd (eH m t into k back l).1<xd l)∧((eH m t into k back l).2=false→(eH m t into k back l).1=l):=by
 have r1:=Road.vH (h.rs _ (aa hk)) back
 have r2:=Road.zv (h.rs _ (aa hk)) back
 unfold eH
 split
 · exact GK hb (by omega) (by omega)
 · simp
theorem oH{l:List Int}(hl:l.length=m.places.length)(hb:bnd l):∀k,k≤m.roads.length→
 ((et m t into l k).2=true→xd (et m t into l k).1<xd l)∧((et m t into l k).2=false→(et m t into l k).1=l)
 | 0,_=>⟨fun h=>by simp[et]at h,fun _=>rfl⟩
 | k+1,hk=>by
   obtain⟨i1,i2⟩:=oH hl hb k (by omega)
   have hb1:=gS h (t:=t) (into:=into) hl hb k (by omega)
   have hl1:(et m t into l k).1.length=m.places.length:=by rw[dg,hl]
   obtain⟨a1,a2⟩:=x8 h (t:=t) (into:=into) hl1 hb1 (k:=k) (by omega) false
   have hb2:=qG h (t:=t) (into:=into) hl1 hb1 (k:=k) (by omega) false
   obtain⟨c1,c2⟩:=x8 h (t:=t) (into:=into) (by rw[oG,hl1]) hb2 (k:=k) (by omega) true
   simp only[et,sK]
   generalize et m t into l k=s at*
   obtain⟨sl,sb⟩:=s
   simp only at*
   generalize eH m t into k false sl=a at*
   obtain⟨al,ab⟩:=a
   simp only at*
   generalize eH m t into k true al=b at*
   obtain⟨bl,bb⟩:=b
   simp only at*
   cases sb<;>cases ab<;>cases bb<;>simp_all<;>omega
end
end Go.Ev
namespace Go.Ev
open Go
variable [Lib] [cn] [bS]
abbrev af(m:aT):List D:=[.t (.sl (m.places.map Place.e)),.t (.sl (m.roads.map Road.e))]
theorem Qb(H:aj)(into:Option (List Int))(hi:∀l,into=some l→l≠[]):IK H .sl false (some (nV into)) (some .nil)=some (B (into.isNone),H):=by
 cases into with
 | none=>rfl
 | some l=>exact xa H _ (by simpa using hi l rfl)
@[go_sem] theorem U5 (k n : Nat) (into : Option (List Int)) : old k n (nV into) = true := by
 cases into<;>simp only[nV,go_sem]
theorem GL{m:aT}(h:m.ok)(t:Int)(ht:t≤1000000000000)(ht0: -1000000000000≤t)(into:Option (List Int))(hi:∀l,into=some l→l≠[]∧l.length≤64)(l:List Int)(hl:l.length=m.places.length)(hb:bnd l)
 (k:Nat) (hk:k<m.roads.length) (ag:Bool):
 fJ true [0,1,5,9] 2 (exS aN K.dX ⟨[.und,.und,I t,nV into,.bp 0 0,.und,.ref 1 0 l.length,B ag,I k,.und],[.box (af m),.arr 1 false 0 ((l.map (T.int .i64)).map .t)]⟩)=
  some ⟨[.und,.und,I t,nV into,.bp 0 0,.und,.ref 1 0 (sK m t into k (l,ag)).1.length,B (sK m t into k (l,ag)).2,I (k+1),.und],[.box (af m),.arr 1 false 0 (((sK m t into k (l,ag)).1.map (T.int .i64)).map .t)]⟩:=by
 have np:=h.np
 have nr:=h.nr
 have t1:=Ax h k hk false
 have t2:=Ax h k hk true
 have w1:=(Ay h k hk false).2
 have w2:=(Ay h k hk true).2
 obtain⟨f0,f1,t0,t1', -, -, -, -, -, -, -, -, -, -, -⟩:=h.rs _ (aa hk)
 have e0:=fun H=>Qb H into fun l hl=>(hi l hl).1
 have lw1:=Az l hb (by omega) (nth m.roads k).frm (nth m.roads k).to f0 (by omega) t0 (by omega) (eX m k false 6 9 12) t (by omega) ht ht0
 have lw2:=Az l hb (by omega) (nth m.roads k).to (nth m.roads k).frm t0 (by omega) f0 (by omega) (eX m k true 6 9 12) t (by omega) ht ht0
 have hl':(mI l (nth m.roads k).frm.toNat (nth m.roads k).to.toNat (eX m k false 6 9 12) t).length=l.length:=mj ..
 have lw3:=Az _ (zw hb (p:=(nth m.roads k).frm.toNat) (q:=(nth m.roads k).to.toNat) (w:=eX m k false 6 9 12) (t:=t) (by omega)) (by omega) (nth m.roads k).to (nth m.roads k).frm t0 (by omega) f0 (by omega) (eX m k true 6 9 12) t (by omega) ht ht0
 rw[hl']at lw3
 simp only[sK,eH,Road.src,Road.dst,Bool.false_eq_true,↓reduceIte]
 generalize hx:nth m.roads k=x at*
 obtain⟨frm,to,len,area,walk,closed,rl,rh,ll,lh⟩:=x
 simp only at f0 f1 t0 t1' lw1 lw2 lw3 hl' ⊢
 generalize hw1:eX m k false 6 9 12=v1 at*
 generalize hw2:eX m k true 6 9 12=v2 at*
 clear hb
 cases into with
 | none=>
   simp only[nV,Ja,↓reduceIte,Option.isNone]at e0 ⊢
   cases c1:lQ l frm.toNat to.toNat v1 t<;>cases c2:lQ (mI l frm.toNat to.toNat v1 t) to.toNat frm.toNat v2 t<;>rw[c1]at lw1<;>rw[c2]at lw3<;>
   simp (disch:=omega) only[go_sem,K.dX,↓reduceIte,hx,e0,t1,t2,lw1,lw3,mj,Nat.reduceAdd,Nat.reduceSub]
 | some s=>
   have hs:=(hi s rfl).2
   have g1:=zu s to (by omega)
   have g2:=zu s frm (by omega)
   simp only[nV,Ja,Option.isNone]at e0 ⊢
   by_cases m1:to∈s<;>by_cases m2:frm∈s
   · simp only[m1,m2,decide_true,↓reduceIte]at g1 g2 ⊢
     cases c1:lQ l frm.toNat to.toNat v1 t<;>cases c2:lQ (mI l frm.toNat to.toNat v1 t) to.toNat frm.toNat v2 t<;>rw[c1]at lw1<;>rw[c2]at lw3<;>
     simp (disch:=omega) only[go_sem,K.dX,↓reduceIte,hx,e0,t1,t2,lw1,lw3,g1,g2,c1,Bool.or_true,Bool.or_false,mj,Nat.reduceAdd,Nat.reduceSub]
   · simp only[m1,m2,decide_true,decide_false,↓reduceIte]at g1 g2 ⊢
     cases c1:lQ l frm.toNat to.toNat v1 t<;>rw[c1]at lw1<;>
     simp (disch:=omega) only[go_sem,K.dX,↓reduceIte,hx,e0,t1,t2,lw1,g1,g2,c1,Bool.or_true,Bool.or_false,mj,Nat.reduceAdd,Nat.reduceSub]
   · simp only[m1,m2,decide_true,decide_false,↓reduceIte]at g1 g2 ⊢
     cases c1:lQ l to.toNat frm.toNat v2 t<;>rw[c1]at lw2<;>
     simp (disch:=omega) only[go_sem,K.dX,↓reduceIte,hx,e0,t1,t2,lw2,g1,g2,c1,Bool.or_true,Bool.or_false,mj,Nat.reduceAdd,Nat.reduceSub]
   · simp only[m1,m2,decide_false,↓reduceIte]at g1 g2 ⊢
     simp (disch:=omega) only[go_sem,K.dX,↓reduceIte,hx,e0,t1,t2,g1,g2,Nat.reduceAdd,Nat.reduceSub]
theorem xe{m:aT}(h:m.ok)(t:Int)(ht:t≤1000000000000)(ht0: -1000000000000≤t)(into:Option (List Int))(hi:∀l,into=some l→l≠[]∧l.length≤64)(l:List Int)(hl:l.length=m.places.length)(hb:bnd l):
 aN 0 N.ez [.t m.e,.t (tL l),I t,nV into] []=some (.t (tL (iY (cU m t into) (xd l+1) l)),[])∧(iY (cU m t into) (xd l+1) l).length=m.places.length∧bnd (iY (cU m t into) (xd l+1) l):=by
 have nr:=h.nr
 have inner:∀(l:List Int),l.length=m.places.length→bnd l→∀(a b c d:D),exS aN K.rT ⟨[a,b,I t,nV into,.bp 0 0,c,.ref 1 0 l.length,B false,I 0,d],[.box (af m),.arr 1 false 0 ((l.map (T.int .i64)).map .t)]⟩=
  some (.exit 2,⟨[.und,.und,I t,nV into,.bp 0 0,.und,.ref 1 0 l.length,B (cU m t into l).2,I m.roads.length,.und],[.box (af m),.arr 1 false 0 (((cU m t into l).1.map (T.int .i64)).map .t)]⟩):=by
  intro l hl hb a b c d
  refine b5 (fun j=>⟨[.und,.und,I t,nV into,.bp 0 0,.und,.ref 1 0 (et m t into l j).1.length,B (et m t into l j).2,I j,.und],[.box (af m),.arr 1 false 0 (((et m t into l j).1.map (T.int .i64)).map .t)]⟩) m.roads.length rfl ?_ ?_ (by simp)
  · intro j hj
    have:=GL h t ht ht0 into hi (et m t into l j).1 (by rw[dg,hl]) (gS h hl hb j (by omega)) j hj (et m t into l j).2
    exact this
  · simp (disch:=omega) only[go_sem,K.dX,↓reduceIte,cU,dg]
 have outer:=fun(a b c d e:D)=>GJ (gc:=true) (dead:=[0,1,5,8,9]) (c:=K.j8) (vs:=[a,b,I t,nV into,.bp 0 0,c,.ref 1 0 l.length,B true,d,e]) (H:=[.box (af m),.arr 1 false 0 ((l.map (T.int .i64)).map .t)])
  (fun l ag=>⟨[.und,.und,I t,nV into,.bp 0 0,.und,.ref 1 0 l.length,B ag,.und,.und],[.box (af m),.arr 1 false 0 ((l.map (T.int .i64)).map .t)]⟩)
  (fun l=>(.exit 0,⟨[.und,.und,I t,nV into,.bp 0 0,.und,.ref 1 0 l.length,B false,.und,.und],[.box (af m),.arr 1 false 0 ((l.map (T.int .i64)).map .t)]⟩))
  (cU m t into) (fun l=>l.length=m.places.length∧bnd l) xd
  (fun l ⟨hl,hb⟩=>⟨⟨by rw[cU,dg,hl],gS h hl hb _ (Nat.le_refl _)⟩,(oH h hl hb _ (Nat.le_refl _)).1⟩)
  (by
   rintro l ⟨hl,hb⟩
   have:=inner l hl hb
   have e:(cU m t into l).1.length=l.length:=by rw[cU,dg]
   simp (disch:=omega) only[go_sem,K.j8,↓reduceIte,this,e])
  (by
   rintro l ⟨hl,hb⟩
   simp (disch:=omega) only[go_sem,K.j8,↓reduceIte,reduceCtorEq,ne_eq,not_false_eq_true,and_self])
  l ⟨hl,hb⟩ rfl
 obtain⟨-,o2⟩:=outer .und .und .und .und .und
 refine⟨?_,o2⟩
 refine ax K.pn rfl ?_
 have o1:∀a b c d e:D,exS aN K.rU ⟨[a,b,I t,nV into,.bp 0 0,c,.ref 1 0 l.length,B true,d,e],[.box (af m),.arr 1 false 0 ((l.map (T.int .i64)).map .t)]⟩=_:=fun a b c d e=>(outer a b c d e).1
 clear outer inner
 have np:=h.np
 have o2:=o2.1
 generalize iY (cU m t into) (xd l+1) l=l2 at*
 cases into with
 | none=>
   simp only[nV]at o1
   simp (disch:=omega) only[go_sem,K.ez,↓reduceIte,o1,nV]
 | some s=>
   simp only[nV]at o1
   simp (disch:=omega) only[go_sem,K.ez,↓reduceIte,o1,nV]
structure Wh where
 time:Int
 frm:List Int
instance : Dat Wh := ⟨⟨0, []⟩⟩
abbrev Wh.e(w:Wh):T:= .agg [tI w.time,tL w.frm]
def cD(m:aT)(t:Int)(into:Option (List Int))(l:List Int):List Int:=iY (cU m t into) (xd l+1) l
def inT(t:Int):Prop:=0≤t∧t≤2147483648
instance (t : Int) : Decidable (inT t) := by unfold inT; infer_instance
def plT(x:Int):Prop:=x=1099511627776∨inT x
instance (t : Int) : Decidable (plT t) := by unfold plT; infer_instance
def mJ(w:Wh)(n:Int):Bool:=decide ((w.frm.length:Int)=n∧inT w.time)&&(List.range w.frm.length).all fun j=>decide (plT (nth w.frm j))
theorem kH{x:Int}(h:plT x):0≤x∧x≤1099511627776:=by unfold plT inT at h;omega
theorem ua(t:Int):aN 0 N.de [I t] []=some (B (decide (inT t)),[]):=by
 refine ax K.nT rfl ?_
 unfold inT
 by_cases h1:0≤t<;>by_cases h2:t≤2147483648<;>simp (disch:=omega) only[go_sem,K.de,↓reduceIte,h1,h2]
theorem xf{m:aT}(h:m.ok)(t:Int)(ht:inT t)(l:List Int)(hl:l.length=m.places.length)(hb:bnd l):
 aN 0 N.dL [.t m.e,.t (tL l),I t] []=some (.t (tL (cD m t none l)),[]):=by
 refine ax K.pg rfl ?_
 unfold inT at ht
 have:=(xe h t (by omega) (by omega) none (by simp) l hl hb).1
 simp only[nV]at this
 unfold cD
 simp (disch:=omega) only[go_sem,K.dL,↓reduceIte,this]
theorem L1(w:Wh)(n:Int)(hl:w.frm.length≤4294967296):aN 0 N.dM [.t w.e,I n] []=some (B (mJ w n),[]):=by
 refine ax K.pq rfl ?_
 obtain⟨time,frm⟩:=w
 simp only at hl
 have loop:∀a b c:D,exS aN K.rV ⟨[a,b,.bp 0 0,c,I 0],[.box [I time,.t (tL frm)]]⟩=
  some (match (List.range frm.length).find? (fun j=> !decide (plT (nth frm j)))with
   | some j=>(.ret,⟨[.und,.und,.bp 0 0,B false,I j],[.box [I time,.t (tL frm)]]⟩)
   | none=>(.exit 0,⟨[.und,.und,.bp 0 0,.und,I frm.length],[.box [I time,.t (tL frm)]]⟩)):=by
  intro a b c
  refine b7 (fun j=>⟨[.und,.und,.bp 0 0,.und,I j],[.box [I time,.t (tL frm)]]⟩) frm.length (fun j=> !decide (plT (nth frm j))) _ _ rfl ?_ ?_ ?_ (by simp)
  · intro j hj hp
    have hp:plT (nth frm j):=by simpa using hp
    unfold plT inT at hp
    by_cases h1:nth frm j=1099511627776
    · simp (disch:=omega) only[go_sem,K.gp,↓reduceIte,h1]
    · simp (disch:=omega) only[go_sem,K.gp,↓reduceIte]
  · intro j hj hp
    have hp:¬plT (nth frm j):=by simpa using hp
    unfold plT inT at hp
    by_cases h2:0≤nth frm j
    · simp (disch:=omega) only[go_sem,K.gp,↓reduceIte]
      simp
    · simp (disch:=omega) only[go_sem,K.gp,↓reduceIte]
      simp
  · simp (disch:=omega) only[go_sem,K.gp,↓reduceIte]
 unfold mJ
 rw[pz]
 by_cases h1:(frm.length:Int)=n
 · by_cases h2:0≤time
   · by_cases h3:time≤2147483648
     · have h4:inT time:=⟨h2,h3⟩
       simp (disch:=omega) only[go_sem,K.dM,↓reduceIte,loop,h1]
       cases hf:(List.range frm.length).find? (fun j=> !decide (plT (nth frm j)))with
       | some j=>simp (disch:=omega) only[go_sem,↓reduceIte,Option.isNone]
       | none=>simp (disch:=omega) only[go_sem,↓reduceIte,Option.isNone,h4,and_self,decide_true]
     · have h4:¬inT time:=by unfold inT;omega
       simp (disch:=omega) only[go_sem,K.dM,↓reduceIte,loop,h1,h4,and_false,decide_false]
   · have h4:¬inT time:=by unfold inT;omega
     simp (disch:=omega) only[go_sem,K.dM,↓reduceIte,loop,h1,h4,and_false,decide_false]
 · simp (disch:=omega) only[go_sem,K.dM,↓reduceIte,loop,h1,false_and,decide_false]
def cL(m:aT)(w:Wh):Bool:=mJ w m.places.length&&decide (cD m w.time none w.frm=w.frm)
theorem pA{w:Wh}{n:Int}(h:mJ w n=true):(w.frm.length:Int)=n∧inT w.time∧∀x∈w.frm,plT x:=by
 simp only[mJ,Bool.and_eq_true,decide_eq_true_eq,List.all_eq_true,List.mem_range]at h
 refine⟨h.1.1,h.1.2,fun x hx=>?_⟩
 obtain⟨j,hj⟩:=List.mem_iff_getElem?.1 hx
 have:=h.2 j (List.getElem?_eq_some_iff.1 hj).1
 rwa [bB hj]at this
theorem kI{m:aT}(h:m.ok)(t:Int)(ht:inT t)(into:Option (List Int))(hi:∀l,into=some l→l≠[]∧l.length≤64){l:List Int}(hl:l.length=m.places.length)(hb:bnd l):(cD m t into l).length=m.places.length:=by
 unfold inT at ht
 exact(xe h t (by omega) (by omega) into hi l hl hb).2.1
theorem zx{m:aT}(h:m.ok)(t:Int)(ht:inT t)(into:Option (List Int))(hi:∀l,into=some l→l≠[]∧l.length≤64){l:List Int}(hl:l.length=m.places.length)(hb:bnd l):bnd (cD m t into l):=by
 unfold inT at ht
 exact(xe h t (by omega) (by omega) into hi l hl hb).2.2
theorem AA{m:aT}(h:m.ok)(w:Wh)(hl:w.frm.length≤4294967296):aN 0 N.ew [.t m.e,.t w.e] []=some (B (cL m w),[]):=by
 refine ax K.ph rfl ?_
 have c:=ru h
 have p:=L1 w m.places.length hl
 have np:=h.np
 unfold cL
 cases hp:mJ w m.places.length with
 | false=>
   rw[hp]at p
   obtain⟨time,frm⟩:=w
   simp (disch:=omega) only[go_sem,K.ew,↓reduceIte,c,p,Bool.false_and,Nat.reduceAdd,Nat.reduceSub]
 | true=>
   obtain⟨h1,h2,h3⟩:=pA hp
   rw[hp]at p
   have hb:bnd w.frm:=fun x hx=>kH (h3 x hx)
   have cl:=xf h w.time h2 w.frm (by omega) hb
   have ln:=kI h w.time h2 none (by simp) (l:=w.frm) (by omega) hb
   obtain⟨time,frm⟩:=w
   simp only at*
   have sm:=D1 (cD m time none frm) frm (by omega)
   simp (disch:=omega) only[go_sem,K.ew,↓reduceIte,c,p,cl,sm,Bool.true_and,Nat.reduceAdd,Nat.reduceSub]
theorem AB(w:Wh)(hl:w.frm.length≤4294967296):aN 0 N.cK [.t w.e] []=some (.t w.e,[]):=by
 refine ax K.qC rfl ?_
 obtain⟨time,frm⟩:=w
 simp only at*
 simp (disch:=omega) only[go_sem,K.cK,↓reduceIte,Nat.reduceAdd,Nat.reduceSub]
def gH(n:Nat):List Int:=List.replicate n 1099511627776
theorem D3(n:Nat):gH (n+1)=gH n++[1099511627776]:=List.replicate_succ'
@[simp] theorem iQ (n : Nat) : (gH n).length = n := List.length_replicate
theorem ve(n:Nat):bnd (gH n):=fun x hx=>by rw[List.eq_of_mem_replicate hx];omega
theorem GM(n:Nat)(hn:n≤1000000)(a:D):exS aN K.rS ⟨[I n,a,.ref 0 0 0,I 0],[.arr 1 false 0 []]⟩=
 some (.exit 0,⟨[I n,.und,.ref 0 0 n,I n],[.arr 1 false 0 (((gH n).map (T.int .i64)).map .t)]⟩):=by
 refine b5 (fun j=>⟨[I n,.und,.ref 0 0 (gH j).length,I j],[.arr 1 false 0 (((gH j).map (T.int .i64)).map .t)]⟩) n rfl ?_ ?_ (by simp)
 · intro j hj
   have:=iQ j
   simp (disch:=omega) only[go_sem,K.mG,D3,↓reduceIte]
 · simp (disch:=omega) only[go_sem,K.mG,↓reduceIte,iQ]
theorem Ch(n:Nat)(hn:n≤1000000):aN 1 N.fe [I n] []=some (.ref 0 0 n,[.arr 1 false 0 (((gH n).map (T.int .i64)).map .t)]):=by
 refine ax K.pf rfl ?_
 have:=GM n hn
 simp (disch:=omega) only[go_sem,K.fe,↓reduceIte,this]
def dh(m:aT)(p t:Int):Wh×Int:=
 if p<0∨(m.places.length:Int)≤p then(⟨0,[]⟩,3)else if inT t then(⟨t,cD m t none ((gH m.places.length).set p.toNat t)⟩,0)else(⟨0,[]⟩,8)
theorem AD{m:aT}(h:m.ok)(p t:Int):aN 0 N.dw [.t m.e,I p,I t] []=some (.tup [.t (dh m p t).1.e,I (dh m p t).2],[]):=by
 refine ax K.o7 rfl ?_
 have c:=ru h
 have np:=h.np
 have it:=ua t
 have nl:=iQ m.places.length
 have nv:=Ch m.places.length (by omega)
 unfold dh
 by_cases h1:p<0
 · simp (disch:=omega) only[go_sem,K.dw,↓reduceIte,c,h1,true_or]
   rfl
 · by_cases h2:(m.places.length:Int)≤p
   · simp (disch:=omega) only[go_sem,K.dw,↓reduceIte,c,h1,h2,or_true]
     rfl
   · by_cases h3:inT t
     · have b:bnd ((gH m.places.length).set p.toNat t):=sL (ve _) h3.1 (by have:=h3.2;omega)
       have cl:=xf h t h3 ((gH m.places.length).set p.toNat t) (by simp) b
       simp only[h3,decide_true]at it
       simp (disch:=omega) only[go_sem,K.dw,↓reduceIte,c,h1,h2,or_self,h3,it,nv,iQ,cl]
     · simp only[h3,decide_false]at it
       simp (disch:=omega) only[go_sem,K.dw,↓reduceIte,c,h1,h2,or_self,h3,it]
       rfl
def jS(w:Wh)(t:Int):List Int:=cq w.frm.length fun j=>decide (nth w.frm j≤t)
theorem uc(w:Wh)(t:Int)(hl:w.frm.length≤1000000):aN 0 N.dt [.t w.e,I t] []=some (.t (tL (jS w t)),[]):=by
 refine ax K.lH rfl ?_
 obtain⟨time,frm⟩:=w
 simp only[jS]at*
 have hlen:=fun k=>gR k (fun j=>decide (nth frm j≤t))
 have loop:∀a b:D,exS aN K.oE ⟨[a,I t,.bp 0 0,b,.ref 1 0 0,I 0],[.box [I time,.t (tL frm)],.arr 1 false 0 []]⟩=
  some (.exit 0,⟨[.und,I t,.bp 0 0,.und,.ref 1 0 (cq frm.length (fun j=>decide (nth frm j≤t))).length,I frm.length],[.box [I time,.t (tL frm)],.arr 1 false 0 (((cq frm.length (fun j=>decide (nth frm j≤t))).map (T.int .i64)).map .t)]⟩):=by
  intro a b
  refine b5 (fun j=>⟨[.und,I t,.bp 0 0,.und,.ref 1 0 (cq j (fun j=>decide (nth frm j≤t))).length,I j],[.box [I time,.t (tL frm)],.arr 1 false 0 (((cq j (fun j=>decide (nth frm j≤t))).map (T.int .i64)).map .t)]⟩) frm.length rfl ?_ ?_ (by simp)
  · intro j hj
    have:=hlen j
    by_cases hp:nth frm j≤t
    · simp (disch:=omega) only[go_sem,K.im,kG,hp,decide_true,↓reduceIte]
    · simp (disch:=omega) only[go_sem,K.im,kG,hp,decide_false,↓reduceIte]
  · simp (disch:=omega) only[go_sem,K.im,↓reduceIte]
 have:=hlen frm.length
 simp (disch:=omega) only[go_sem,K.dt,↓reduceIte,loop]
def lT(w:Wh)(t:Int):Wh×Int:=if t<w.time∨2147483648<t then(w,8)else(⟨t,w.frm⟩,0)
theorem Fx(w:Wh)(t:Int)(hl:w.frm.length≤1000000):aN 0 N.dI [.t w.e,I t] []=some (.tup [.t (lT w t).1.e,I (lT w t).2],[]):=by
 refine ax K.pc rfl ?_
 have c:=AB w (by omega)
 obtain⟨time,frm⟩:=w
 simp only[lT]at*
 by_cases h1:t<time
 · simp (disch:=omega) only[go_sem,K.dI,↓reduceIte,c,h1,true_or]
 · by_cases h2:2147483648<t
   · simp (disch:=omega) only[go_sem,K.dI,↓reduceIte,c,h1,h2,or_true]
   · simp (disch:=omega) only[go_sem,K.dI,↓reduceIte,c,h1,h2,or_self]
def ka(m:aT)(w:Wh)(places:List Int)(a b:Int):Int:=
 if cL m w=true∧places≠[]∧sI places m.places.length=true then(if inT a∧inT b∧a≤b then 0 else 8)else 6
theorem Fy{m:aT}(h:m.ok)(w:Wh)(hl:w.frm.length≤1000000)(places:List Int)(hp:places.length≤1000000)(a b:Int):
 aN 0 N.b8 [.t m.e,.t w.e,.t (tL places),I a,I b] []=some (I (ka m w places a b),[]):=by
 refine ax K.pj rfl ?_
 have v:=AA h w (by omega)
 have s:=NF places m.places.length (by omega)
 have np:=h.np
 have ia:=ua a
 have ib:=ua b
 obtain⟨time,frm⟩:=w
 simp only at*
 unfold ka
 cases hv:cL m ⟨time,frm⟩with
 | false=>
   rw[hv]at v
   simp (disch:=omega) only[go_sem,K.b8,↓reduceIte,v,Bool.false_eq_true,false_and]
 | true=>
   rw[hv]at v
   cases places with
   | nil=>simp (disch:=omega) only[go_sem,K.b8,↓reduceIte,v,ne_eq,not_true_eq_false,false_and,and_false,List.length_nil]
   | cons x xs=>
     have hne:0<(x::xs).length:=by simp
     generalize hx:x::xs=l at*
     have hne2:l≠[]:=by intro e;rw[e]at hne;simp at hne
     cases hs:sI l m.places.length with
     | false=>
       rw[hs]at s
       simp (disch:=omega) only[go_sem,K.b8,↓reduceIte,v,s,hne2,ne_eq,not_false_eq_true,true_and,Bool.false_eq_true,and_false]
     | true=>
       rw[hs]at s
       by_cases h1:inT a
       · by_cases h2:inT b
         · simp only[h1,h2,decide_true]at ia ib
           by_cases h3:a≤b
           · simp (disch:=omega) only[go_sem,K.b8,↓reduceIte,v,s,hne2,ia,ib,h1,h2,h3,ne_eq,not_false_eq_true,and_self]
           · simp (disch:=omega) only[go_sem,K.b8,↓reduceIte,v,s,hne2,ia,ib,h1,h2,h3,ne_eq,not_false_eq_true,and_self,and_false]
         · simp only[h1,h2,decide_true,decide_false]at ia ib
           simp (disch:=omega) only[go_sem,K.b8,↓reduceIte,v,s,hne2,ia,ib,h1,h2,ne_eq,not_false_eq_true,and_self,and_false,false_and]
       · simp only[h1,decide_false]at ia
         simp (disch:=omega) only[go_sem,K.b8,↓reduceIte,v,s,hne2,ia,h1,ne_eq,not_false_eq_true,and_self,and_false,false_and]
theorem pB{l:List Int}{n:Int}(h:sI l n=true){j:Nat}(hj:j<l.length):0≤nth l j∧nth l j<n∧(0<j→nth l (j-1)<nth l j):=by
 simp only[sI,List.all_eq_true,List.mem_range,decide_eq_true_eq]at h
 exact h j hj
theorem Jb{l:List Int}{n:Int}(h:sI l n=true):∀ {j:Nat},j<l.length→(j:Int)≤nth l j
 | 0,hj=>by have:=pB h hj;omega
 | j+1,hj=>by
   have h1:=Jb h (j:=j) (by omega)
   have:=(pB h hj).2.2 (by omega)
   simp only[Nat.add_sub_cancel]at this
   omega
theorem AE{l:List Int}{n:Nat}(h:sI l n=true):l.length≤n:=by
 cases hl:l.length with
 | zero=>omega
 | succ k=>
   have h1:=Jb h (j:=k) (by omega)
   have h2:=(pB h (j:=k) (by omega)).2.1
   omega
def vf(w:Wh)(t p:Int)(s:List Int×Bool):List Int×Bool:=if nth w.frm p.toNat≤t then(s.1.set p.toNat (nth w.frm p.toNat),true)else s
def yP(w:Wh)(l:List Int)(t:Int)(n:Nat):Nat→List Int×Bool
 | 0=>(gH n,false)
 | j+1=>vf w t (nth l j) (yP w l t n j)
theorem pC(w:Wh)(l:List Int)(t:Int)(n:Nat):∀j,(yP w l t n j).1.length=n
 | 0=>iQ n
 | j+1=>by
   have:=pC w l t n j
   simp only[yP,vf]
   split<;>simp[this]
theorem AF{w:Wh}(hw:bnd w.frm)(l:List Int)(t:Int){n:Nat}(hl:∀p∈l,0≤p∧p<w.frm.length):∀j,j≤l.length→bnd (yP w l t n j).1
 | 0,_=>ve n
 | j+1,hj=>by
   have:=AF hw l t hl (n:=n) j (by omega)
   simp only[yP,vf]
   split
   · have hp:=hl _ (aa (l:=l) (j:=j) (by omega))
     have:=hw _ (aa (l:=w.frm) (j:=(nth l j).toNat) (by omega))
     exact sL (by assumption) this.1 this.2
   · exact this
def yS(m:aT)(w:Wh)(l:List Int)(a b:Int):Wh×Int:=
 if ka m w l a b≠0 then(w,ka m w l a b)else if a<w.time then(w,42)else
 if(yP w l b m.places.length l.length).2=true then(⟨b,cD m a none (yP w l b m.places.length l.length).1⟩,0)else(w,43)
theorem mb{m:aT}{w:Wh}{l:List Int}{a b:Int}(h:ka m w l a b=0):cL m w=true∧l≠[]∧sI l m.places.length=true∧inT a∧inT b∧a≤b:=by
 unfold ka at h
 split at h
 · rename_i h1
   split at h
   · rename_i h2;exact⟨h1.1,h1.2.1,h1.2.2,h2⟩
   · omega
 · omega
theorem bZ{m:aT}{w:Wh}(h:cL m w=true):w.frm.length=m.places.length∧inT w.time∧(∀x∈w.frm,plT x)∧cD m w.time none w.frm=w.frm:=by
 simp only[cL,Bool.and_eq_true,decide_eq_true_eq]at h
 obtain⟨h1,h2,h3⟩:=pA h.1
 exact⟨by omega,h2,h3,h.2⟩
theorem U6{m:aT}(h:m.ok)(w:Wh)(hl:w.frm.length≤1000000)(l:List Int)(hp:l.length≤1000000)(a b:Int):
 aN 0 N.gG [.t m.e,.t w.e,.t (tL l),I a,I b] []=some (.tup [.t (yS m w l a b).1.e,I (yS m w l a b).2],[]):=by
 refine ax K.sH rfl ?_
 have as:=Fy h w hl l hp a b
 have cp:=AB w (by omega)
 have np:=h.np
 have nv:=Ch m.places.length (by omega)
 have nl:=iQ m.places.length
 unfold yS
 by_cases h0:ka m w l a b=0
 · obtain⟨v1,v2,v3,v4,v5,v6⟩:=mb h0
   obtain⟨w1,w2,w3,w4⟩:=bZ v1
   have hlen:=AE v3
   rw[h0]at as ⊢
   obtain⟨time,frm⟩:=w
   simp only at*
   by_cases h1:a<time
   · simp (disch:=omega) only[go_sem,K.gG,↓reduceIte,as,cp,h1,ne_eq,not_true_eq_false]
   · have hbw:bnd (Wh.frm ⟨time,frm⟩):=fun x hx=>kH (w3 x hx)
     have hb:=AF hbw l b (n:=m.places.length) (fun p hp=>by
      obtain⟨j,hj⟩:=List.mem_iff_getElem?.1 hp
      have:=pB v3 (List.getElem?_eq_some_iff.1 hj).1
      rw[bB hj]at this
      simp only
      omega) l.length (Nat.le_refl _)
     have ln:=pC ⟨time,frm⟩ l b m.places.length
     have loop:∀x y z u v:D,exS aN K.vU ⟨[x,y,.t (tL l),I a,I b,.bp 0 0,.bp 1 0,.bp 2 0,z,u,.ref 3 0 m.places.length,B false,I 0,v],[.box (af m),.box [I time,.t (tL frm)],.box [I 0,.nil],.arr 1 false 0 (((gH m.places.length).map (T.int .i64)).map .t)]⟩=
      some (.exit 0,⟨[.und,.und,.t (tL l),I a,I b,.bp 0 0,.bp 1 0,.bp 2 0,.und,.und,.ref 3 0 m.places.length,B (yP ⟨time,frm⟩ l b m.places.length l.length).2,I l.length,.und],[.box (af m),.box [I time,.t (tL frm)],.box [I 0,.nil],.arr 1 false 0 ((((yP ⟨time,frm⟩ l b m.places.length l.length).1).map (T.int .i64)).map .t)]⟩):=by
      intro x y z u v
      refine b5 (fun j=>⟨[.und,.und,.t (tL l),I a,I b,.bp 0 0,.bp 1 0,.bp 2 0,.und,.und,.ref 3 0 m.places.length,B (yP ⟨time,frm⟩ l b m.places.length j).2,I j,.und],[.box (af m),.box [I time,.t (tL frm)],.box [I 0,.nil],.arr 1 false 0 ((((yP ⟨time,frm⟩ l b m.places.length j).1).map (T.int .i64)).map .t)]⟩) l.length rfl ?_ ?_ (by simp)
      · intro j hj
        obtain⟨p1,p2, -⟩:=pB v3 hj
        have lj:=ln j
        by_cases hc:nth frm (nth l j).toNat≤b
        · simp (disch:=omega) only[go_sem,K.ma,↓reduceIte,yP,vf,hc]
        · simp (disch:=omega) only[go_sem,K.ma,↓reduceIte,yP,vf,hc]
      · simp (disch:=omega) only[go_sem,K.ma,↓reduceIte]
     have cl:=xf h a v4 _ (ln l.length) hb
     have ln:=ln l.length
     simp (disch:=omega) only[go_sem,K.gG,↓reduceIte,as,h1,nv,loop,ne_eq,not_true_eq_false]
     cases hs:(yP ⟨time,frm⟩ l b m.places.length l.length).2 with
     | true=>simp (disch:=omega) only[go_sem,↓reduceIte,ln,cl]
     | false=>simp (disch:=omega) only[go_sem,↓reduceIte,cp,Bool.false_eq_true]
 · obtain⟨time,frm⟩:=w
   simp only at*
   simp (disch:=omega) only[go_sem,K.gG,↓reduceIte,as,cp,h0,ne_eq,not_false_eq_true]
def D4(l0 l:List Int):Nat→List Int
 | 0=>l0
 | j+1=>(D4 l0 l j).set (nth l j).toNat 1099511627776
theorem ud(l0 l:List Int):∀j,(D4 l0 l j).length=l0.length
 | 0=>rfl
 | j+1=>by simp only[D4,List.length_set,ud l0 l j]
theorem AG{l0:List Int}(h:bnd l0)(l:List Int):∀j,bnd (D4 l0 l j)
 | 0=>h
 | j+1=>sL (AG h l j) (by omega) (by omega)
def zy(m:aT)(w:Wh)(l:List Int)(a b bl:Int):Wh×Int:=
 if ka m w l a b≠0 then(w,ka m w l a b)else if ¬inT bl then(w,8)else if b<w.time then(w,42)else if b-max a w.time≤bl then(w,0)else
 (⟨b,cD m b none (cD m (b-bl) (some l) (D4 w.frm l l.length))⟩,0)
theorem U7{m:aT}(h:m.ok)(w:Wh)(hl:w.frm.length≤1000000)(l:List Int)(hp:l.length≤1000000)(a b bl:Int):
 aN 0 N.cI [.t m.e,.t w.e,.t (tL l),I a,I b,I bl] []=some (.tup [.t (zy m w l a b bl).1.e,I (zy m w l a b bl).2],[]):=by
 refine ax K.nS rfl ?_
 have as:=Fy h w hl l hp a b
 have cp:=AB w (by omega)
 have ib:=ua bl
 have np:=h.np
 unfold zy
 by_cases h0:ka m w l a b=0
 · obtain⟨v1,v2,v3,v4,v5,v6⟩:=mb h0
   obtain⟨w1,w2,w3,w4⟩:=bZ v1
   have hlen:=AE v3
   rw[h0]at as ⊢
   obtain⟨time,frm⟩:=w
   simp only at*
   by_cases h1:inT bl
   · by_cases h2:b<time
     · simp only[h1,decide_true]at ib
       simp (disch:=omega) only[go_sem,K.cI,↓reduceIte,as,ib,cp,h1,h2,ne_eq,not_true_eq_false,not_false_eq_true]
     · simp only[h1,decide_true]at ib
       unfold inT at v4 v5 w2 h1
       by_cases h3:b-max a time≤bl
       · simp (disch:=omega) only[go_sem,K.cI,↓reduceIte,as,ib,cp,h1,h2,h3,ne_eq,not_true_eq_false,not_false_eq_true,inT,and_self]
       · have hb:bnd frm:=fun x hx=>kH (w3 x hx)
         have ln:=ud frm l
         have lb:=AG hb l
         have loop:∀x y z u v w:D,exS aN K.qx ⟨[x,y,.t (tL l),z,I b,I bl,.bp 0 0,u,.bp 2 0,v,w,.ref 3 0 frm.length,I 0],[.box (af m),.box [I time,.t (tL frm)],.box [I 0,.nil],.arr 1 false 0 ((frm.map (T.int .i64)).map .t)]⟩=
          some (.exit 0,⟨[.und,.und,.t (tL l),.und,I b,I bl,.bp 0 0,.und,.bp 2 0,.und,.und,.ref 3 0 frm.length,I l.length],[.box (af m),.box [I time,.t (tL frm)],.box [I 0,.nil],.arr 1 false 0 (((D4 frm l l.length).map (T.int .i64)).map .t)]⟩):=by
          intro x y z u v w
          refine b5 (fun j=>⟨[.und,.und,.t (tL l),.und,I b,I bl,.bp 0 0,.und,.bp 2 0,.und,.und,.ref 3 0 frm.length,I j],[.box (af m),.box [I time,.t (tL frm)],.box [I 0,.nil],.arr 1 false 0 (((D4 frm l j).map (T.int .i64)).map .t)]⟩) l.length rfl ?_ ?_ (by simp)
          · intro j hj
            obtain⟨p1,p2, -⟩:=pB v3 hj
            have lj:=ln j
            simp (disch:=omega) only[go_sem,K.lI,↓reduceIte,D4]
          · simp (disch:=omega) only[go_sem,K.lI,↓reduceIte]
         have hi:∀s,some l=some s→s≠[]∧s.length≤64:=by
          intro s hs;cases hs;exact⟨v2,by omega⟩
         have ln:=ln l.length
         have lb:=lb l.length
         have t1:inT (b-bl):=by unfold inT;omega
         have c1:=xe h (b-bl) (by omega) (by omega) (some l) hi _ (by omega) lb
         simp only[nV]at c1
         have c2:=xf h b v5 (cD m (b-bl) (some l) (D4 frm l l.length)) (kI h _ t1 _ hi (by omega) lb) (zx h _ t1 _ hi (by omega) lb)
         have c3:=c1.1
         unfold cD at c2 ⊢
         clear c1
         simp (disch:=omega) only[go_sem,K.cI,↓reduceIte,as,ib,loop,c2,c3,ln,h1,h2,h3,ne_eq,not_true_eq_false,not_false_eq_true,inT,and_self,Nat.reduceAdd,Nat.reduceSub]
   · simp only[h1,decide_false]at ib
     simp (disch:=omega) only[go_sem,K.cI,↓reduceIte,as,ib,cp,h1,ne_eq,not_true_eq_false,not_false_eq_true]
 · obtain⟨time,frm⟩:=w
   simp only at*
   simp (disch:=omega) only[go_sem,K.cI,↓reduceIte,as,cp,h0,ne_eq,not_false_eq_true]
def zz(a b:List Int):Nat→List Int
 | 0=>[]
 | j+1=>zz a b j++[min (nth a j) (nth b j)]
theorem kU(a b:List Int):∀j,(zz a b j).length=j
 | 0=>rfl
 | j+1=>by simp[zz,kU a b j]
def iR(a b:Wh):Wh×Int:=if a.frm.length=b.frm.length then(⟨max a.time b.time,zz a.frm b.frm a.frm.length⟩,0)else(⟨0,[]⟩,6)
theorem Qc(a b:Wh)(ha:a.frm.length≤1000000):aN 0 N.gk [.t a.e,.t b.e] []=some (.tup [.t (iR a b).1.e,I (iR a b).2],[]):=by
 refine ax K.qD rfl ?_
 obtain⟨t1,l1⟩:=a
 obtain⟨t2,l2⟩:=b
 simp only[iR]at*
 by_cases hl:l1.length=l2.length
 · have ln:=kU l1 l2
   have loop:∀x y z:D,exS aN K.tY ⟨[x,y,.bp 0 0,.bp 1 0,.bp 2 0,z,.bp 3 0,I 0],[.box [I t1,.t (tL l1)],.box [I t2,.t (tL l2)],.box [I 0,.nil],.box [I (max t1 t2),.ref 5 0 0],.arr 1 false 0 [],.arr 1 false 0 []]⟩=
    some (.exit 0,⟨[.und,.und,.bp 0 0,.bp 1 0,.bp 2 0,.und,.bp 3 0,I l1.length],[.box [I t1,.t (tL l1)],.box [I t2,.t (tL l2)],.box [I 0,.nil],.box [I (max t1 t2),.ref 5 0 l1.length],.arr 1 false 0 [],.arr 1 false 0 (((zz l1 l2 l1.length).map (T.int .i64)).map .t)]⟩):=by
    intro x y z
    refine b5 (fun j=>⟨[.und,.und,.bp 0 0,.bp 1 0,.bp 2 0,.und,.bp 3 0,I j],[.box [I t1,.t (tL l1)],.box [I t2,.t (tL l2)],.box [I 0,.nil],.box [I (max t1 t2),.ref 5 0 j],.arr 1 false 0 [],.arr 1 false 0 (((zz l1 l2 j).map (T.int .i64)).map .t)]⟩) l1.length rfl ?_ ?_ (by simp)
    · intro j hj
      have lj:=ln j
      simp (disch:=omega) only[go_sem,K.nO,↓reduceIte,zz,Nat.reduceAdd,Nat.reduceSub]
      done
    · simp (disch:=omega) only[go_sem,K.nO,↓reduceIte]
   have ln:=ln l1.length
   simp (disch:=omega) only[go_sem,K.gk,↓reduceIte,loop]
 · simp (disch:=omega) only[go_sem,K.gk,↓reduceIte,hl]
   rfl
theorem ni{α:Type} [Dat α](l:List α)(k:Nat)(hk:k<l.length)(x:α)(j:Nat):nth (l.set k x) j=if j=k then x else nth l j:=by
 unfold nth
 by_cases h:j=k
 · subst h;rw[if_pos rfl];simp[hk]
 · rw[if_neg h]
   have:¬k=j:=fun e=>h e.symm
   simp[List.getElem?_set,this]
theorem rv{α:Type} [Dat α]{a b:List α}(h:a.length=b.length)(e:∀j,j<a.length→nth a j=nth b j):a=b:=by
 apply List.ext_getElem h
 intro j h1 h2
 have:=e j h1
 rwa [bB (List.getElem?_eq_getElem h1),bB (List.getElem?_eq_getElem h2)]at this
theorem FA{l:List Int}{i:Nat}(h:l.length≤i):nth l i=0:=by unfold nth;rw[List.getD_eq_getElem?_getD,List.getElem?_eq_none h];rfl
def clW(m:aT)(t:Int)(into:Option (List Int))(y:List Int):Prop:=∀k,k<m.roads.length→∀back,Ja into ((nth m.roads k).dst back)=true→0≤eX m k back 6 9 12→
 nth y ((nth m.roads k).src back).toNat<1099511627776→max t (nth y ((nth m.roads k).src back).toNat+eX m k back 6 9 12)≤2147483648→
 nth y ((nth m.roads k).dst back).toNat≤max t (nth y ((nth m.roads k).src back).toNat+eX m k back 6 9 12)
theorem FB{m:aT}{t t':Int}(ht:t≤t'){into:Option (List Int)}{y:List Int}(h:clW m t none y):clW m t' into y:=by
 intro k hk back _ h1 h2 h3
 have:=h k hk back rfl h1 h2 (by omega)
 omega
theorem sM{α:Type}{f:α→α×Bool}(P:α→Prop)(hP:∀l,P l→P (f l).1):∀n l,P l→P (iY f n l)
 | 0,l,h=>h
 | n+1,l,h=>by
   unfold iY
   split
   · exact sM P hP n _ (hP l h)
   · exact hP l h
theorem x9{α:Type}{f:α→α×Bool}(P:α→Prop)(mes:α→Nat)(hP:∀l,P l→P (f l).1∧((f l).2=true→mes (f l).1<mes l)∧((f l).2=false→(f l).1=l)):∀n l,P l→mes l<n→(f (iY f n l)).2=false∧P (iY f n l)
 | 0,l,_,h=>by omega
 | n+1,l,hp,h=>by
   obtain⟨h1,h2,h3⟩:=hP l hp
   unfold iY
   cases hf:(f l).2 with
   | true=>
     rw[if_pos rfl]
     have:=h2 hf
     exact x9 P mes hP n _ h1 (by omega)
   | false=>
     rw[if_neg (by simp),h3 hf]
     exact⟨hf,hp⟩
theorem xg{m:aT}(t:Int)(into:Option (List Int))(k:Nat)(back:Bool)(l:List Int):
 (Ja into ((nth m.roads k).dst back)=true∧0≤eX m k back 6 9 12∧nth l ((nth m.roads k).src back).toNat<1099511627776∧max t (nth l ((nth m.roads k).src back).toNat+eX m k back 6 9 12)≤2147483648∧
  max t (nth l ((nth m.roads k).src back).toNat+eX m k back 6 9 12)<nth l ((nth m.roads k).dst back).toNat∧
  eH m t into k back l=(l.set ((nth m.roads k).dst back).toNat (max t (nth l ((nth m.roads k).src back).toNat+eX m k back 6 9 12)),true))∨
 (eH m t into k back l=(l,false)∧¬(Ja into ((nth m.roads k).dst back)=true∧0≤eX m k back 6 9 12∧nth l ((nth m.roads k).src back).toNat<1099511627776∧max t (nth l ((nth m.roads k).src back).toNat+eX m k back 6 9 12)≤2147483648∧
  max t (nth l ((nth m.roads k).src back).toNat+eX m k back 6 9 12)<nth l ((nth m.roads k).dst back).toNat)):=by
 unfold eH mI lQ
 cases Ja into ((nth m.roads k).dst back)with
 | false=>right;simp
 | true=>
   simp only[↓reduceIte,true_and,Bool.and_eq_true,decide_eq_true_eq]
   by_cases c:((0≤eX m k back 6 9 12∧nth l ((nth m.roads k).src back).toNat<1099511627776)∧max t (nth l ((nth m.roads k).src back).toNat+eX m k back 6 9 12)≤2147483648)∧max t (nth l ((nth m.roads k).src back).toNat+eX m k back 6 9 12)<nth l ((nth m.roads k).dst back).toNat
   · left
     refine⟨c.1.1.1,c.1.1.2,c.1.2,c.2,?_⟩
     rw[if_pos c]
     simp[c.1.1.1,c.1.1.2,c.1.2,c.2]
   · right
     refine⟨?_,fun h=>c ⟨⟨⟨h.1,h.2.1⟩,h.2.2.1⟩,h.2.2.2⟩⟩
     rw[if_neg c]
     simp only[Prod.mk.injEq,true_and]
     rw[Bool.eq_false_iff];intro h;simp only[Bool.and_eq_true,decide_eq_true_eq]at h;exact c h
section
variable {m : aT} (h : m.ok) {t : Int} {into : Option (List Int)}
include h
theorem zA(P:List Int→Prop)(hP:∀l,l.length=m.places.length→bnd l→P l→∀k,k<m.roads.length→∀back,P (eH m t into k back l).1){l:List Int}(hl:l.length=m.places.length)(hb:bnd l)(hp:P l):∀k,k≤m.roads.length→P (et m t into l k).1
 | 0,_=>hp
 | k+1,hk=>by
   have ih:=zA P hP hl hb hp k (by omega)
   have b1:=gS h (t:=t) (into:=into) hl hb k (by omega)
   have l1:(et m t into l k).1.length=m.places.length:=by rw[dg,hl]
   simp only[et,sK]
   exact hP _ (by rw[oG,l1]) (qG h l1 b1 (by omega) false) (hP _ l1 b1 ih k (by omega) false) k (by omega) true
theorem vg(P:List Int→Prop)(hP:∀l,l.length=m.places.length→bnd l→P l→∀k,k<m.roads.length→∀back,P (eH m t into k back l).1){l:List Int}(hl:l.length=m.places.length)(hb:bnd l)(hp:P l):P (cD m t into l):=
 (sM (f:=cU m t into) (fun l=>(l.length=m.places.length∧bnd l)∧P l) (fun l hl=>⟨⟨by unfold cU;rw[dg];exact hl.1.1,gS h hl.1.1 hl.1.2 _ (Nat.le_refl _)⟩,zA h P hP hl.1.1 hl.1.2 hl.2 _ (Nat.le_refl _)⟩) _ l ⟨⟨hl,hb⟩,hp⟩).2
theorem ue{l:List Int}(hl:l.length=m.places.length)(hb:bnd l):(cD m t into l).length=m.places.length∧bnd (cD m t into l):=
 (sM (f:=cU m t into) (fun l=>(l.length=m.places.length∧bnd l)) (fun l hl=>⟨by unfold cU;rw[dg];exact hl.1,gS h hl.1 hl.2 _ (Nat.le_refl _)⟩) _ l ⟨hl,hb⟩)
theorem Ci{l:List Int}(hl:l.length=m.places.length)(hb:bnd l)(j:Nat):nth (cD m t into l) j≤nth l j:=
 vg h (fun l'=>nth l' j≤nth l j) (fun l' hl' hb' hp k hk back=>by
  have r2:=Road.zv (h.rs _ (aa hk)) back
  rcases xg (m:=m) t into k back l' with⟨_,_,_,_,c,e⟩ | ⟨e,_⟩
  · rw[e];simp only
    rw[ni _ _ (by omega)]
    split
    · rename_i hj;rw[hj]at hp;rw[hj];omega
    · exact hp
  · rw[e];exact hp) hl hb (Int.le_refl _)
theorem Cj{y l:List Int}(hy:clW m t into y)(hl:l.length=m.places.length)(hb:bnd l)(hle:∀j,nth y j≤nth l j):∀j,nth y j≤nth (cD m t into l) j:=
 vg h (fun l'=>∀j,nth y j≤nth l' j) (fun l' hl' hb' hp k hk back=>by
  have r2:=Road.zv (h.rs _ (aa hk)) back
  rcases xg (m:=m) t into k back l' with⟨c1,c2,c3,c4,c5,e⟩ | ⟨e,_⟩
  · rw[e];simp only
    intro j
    rw[ni _ _ (by omega)]
    split
    · rename_i hj
      have:=hp ((nth m.roads k).src back).toNat
      have:=hy k hk back c1 c2 (by omega) (by omega)
      rw[hj];omega
    · exact hp j
  · rw[e];exact hp) hl hb hle
theorem Ck{l:List Int}(hl:l.length=m.places.length)(hb:bnd l):∀k,k≤m.roads.length→(et m t into l k).2=false→∀i,i<k→∀back,(eH m t into i back l).2=false
 | 0,_,_,i,hi,_=>by omega
 | k+1,hk,hf,i,hi,back=>by
   have e:=(oH h (t:=t) (into:=into) hl hb k (by omega)).2
   have ih:=Ck hl hb k (by omega)
   simp only[et,sK,Bool.or_eq_false_iff]at hf
   obtain⟨⟨f1,f2⟩,f3⟩:=hf
   have e:=e f1
   rw[e]at f2 f3
   have e2:=(x8 h (t:=t) (into:=into) hl hb (k:=k) (by omega) false).2 f2
   rw[e2]at f3
   by_cases c:i<k
   · exact ih f1 i c back
   · have:i=k:=by omega
     subst this
     cases back
     · exact f2
     · exact f3
theorem ya{l:List Int}(hl:l.length=m.places.length)(hb:bnd l):clW m t into (cD m t into l):=by
 obtain⟨h1,h2,h3⟩:=x9 (f:=cU m t into) (fun l=>l.length=m.places.length∧bnd l) xd (fun l ⟨hl,hb⟩=>⟨⟨by unfold cU;rw[dg];exact hl,gS h hl hb _ (Nat.le_refl _)⟩,oH h hl hb _ (Nat.le_refl _)⟩) (xd l+1) l ⟨hl,hb⟩ (Nat.lt_succ_self _)
 intro k hk back c1 c2 c3 c4
 have no:=Ck h (t:=t) (into:=into) h2 h3 m.roads.length (Nat.le_refl _) h1 k hk back
 change (eH m t into k back (cD m t into l)).2=false at no
 rcases xg (m:=m) t into k back (cD m t into l)with⟨_,_,_,_,_,e⟩ | ⟨_,e⟩
 · rw[e]at no;cases no
 · exact Classical.byContradiction fun hc=>e ⟨c1,c2,c3,c4,by omega⟩
theorem Jc{l:List Int}(hl:l.length=m.places.length)(hb:bnd l)(hc:clW m t into l):cD m t into l=l:=by
 apply rv (by rw[(ue h hl hb).1,hl])
 intro j hj
 exact Int.le_antisymm (Ci h hl hb j) (Cj h hc hl hb (fun _=>Int.le_refl _) j)
theorem zB(P:Int→Prop){l:List Int}(hl:l.length=m.places.length)(hb:bnd l)(hp:∀x∈l,P x)(ht:∀x,t≤x→x≤2147483648→P x):∀x∈cD m t into l,P x:=
 vg h (fun l'=>∀x∈l',P x) (fun l' hl' hb' hp k hk back=>by
  rcases xg (m:=m) t into k back l' with⟨c1,c2,c3,c4,c5,e⟩ | ⟨e,_⟩
  · rw[e]
    intro x hx
    rcases List.mem_or_eq_of_mem_set hx with hx | hx
    · exact hp x hx
    · subst hx;exact ht _ (by omega) c4
  · rw[e];exact hp) hl hb hp
end
theorem yb{m:aT}(h:m.ok){w:Wh}(hl:w.frm.length=m.places.length)(ht:inT w.time)(hp:∀x∈w.frm,plT x)(hc:clW m w.time none w.frm):cL m w=true:=by
 have hb:bnd w.frm:=fun x hx=>kH (hp x hx)
 simp only[cL,mJ,Bool.and_eq_true,decide_eq_true_eq,List.all_eq_true,List.mem_range]
 exact⟨⟨⟨by omega,ht⟩,fun j hj=>hp _ (aa hj)⟩,Jc h hl hb hc⟩
theorem yc{m:aT}(h:m.ok){w:Wh}(hv:cL m w=true):clW m w.time none w.frm:=by
 obtain⟨v1,v2,v3,v4⟩:=bZ hv
 have:=ya h (t:=w.time) (into:=none) v1 (fun x hx=>kH (v3 x hx))
 rwa [v4]at this
theorem pD{m:aT}(h:m.ok){l:List Int}(hl:l.length=m.places.length)(hp:∀x∈l,plT x){a b:Int}(ha:0≤a)(hab:a≤b)(hb:inT b):cL m ⟨b,cD m a none l⟩=true:=by
 have bn:bnd l:=fun x hx=>kH (hp x hx)
 exact yb h (ue h hl bn).1 hb (zB h plT hl bn hp (fun x h1 h2=> .inr ⟨by omega,h2⟩)) (FB hab (ya h hl bn))
theorem Jd(n:Nat):∀x∈gH n,plT x:=fun x hx=>by rw[List.eq_of_mem_replicate hx];exact .inl rfl
theorem pE{m:aT}(h:m.ok){p t:Int}(h0:0≤p)(h1:p<m.places.length)(ht:inT t):dh m p t=(⟨t,cD m t none ((gH m.places.length).set p.toNat t)⟩,0)∧cL m (dh m p t).1=true:=by
 have e:dh m p t=(⟨t,cD m t none ((gH m.places.length).set p.toNat t)⟩,0):=by
  unfold dh;rw[if_neg (by omega),if_pos ht]
 refine⟨e,?_⟩
 rw[e]
 refine pD h (by simp) (fun x hx=>?_) ht.1 (Int.le_refl _) ht
 rcases List.mem_or_eq_of_mem_set hx with hx | hx
 · exact Jd _ x hx
 · subst hx;exact .inr ht
theorem FC{w:Wh}{l:List Int}{b:Int}{n:Nat}(hl:∀p∈l,0≤p∧p<n):∀k,k≤l.length→∀j,j<n→nth (yP w l b n k).1 j=if(j:Int)∈l.take k∧nth w.frm j≤b then nth w.frm j else 1099511627776
 | 0,_,j,hj=>by
   rw[if_neg (by simp)]
   exact bB (by simp[yP,gH,hj])
 | k+1,hk,j,hj=>by
   have ih:=FC (w:=w) (b:=b) hl k (by omega) j hj
   have p:=hl _ (aa (l:=l) (j:=k) (by omega))
   rw[iP (by omega)]
   simp only[yP,vf]
   by_cases e:(j:Int)=nth l k
   · have e2:j=(nth l k).toNat:=by omega
     by_cases c:nth w.frm (nth l k).toNat≤b
     · rw[if_pos c,ni _ _ (by rw[pC];omega),if_pos e2,if_pos ⟨by simp[e],by rw[e2];exact c⟩,e2]
     · rw[if_neg c,ih,if_neg (fun x=>c (by rw[← e2];exact x.2)),if_neg (fun x=>c (by rw[← e2];exact x.2))]
   · have e2:¬j=(nth l k).toNat:=by omega
     have mm:((j:Int)∈l.take k++[nth l k])↔(j:Int)∈l.take k:=by simp[e]
     simp only[mm]
     rw[← ih]
     split
     · rw[ni _ _ (by rw[pC];omega),if_neg e2]
     · rfl
end Go.Ev
namespace Go.Ev
open Go
variable [Lib] [cn] [bS]
structure OfI(m:aT)(p:Nat)(l:List Int):Prop where
 ln:l.length=m.places.length
 bd:bnd l
 z:nth l p=0
theorem OfI.set{m:aT}{p:Nat}{l:List Int}(h:OfI m p l){q:Nat}{x:Int}(hq:q<l.length)(h0:0<x)(hx:x<nth l q):OfI m p (l.set q x):=by
 have b1:=h.bd _ (aa hq)
 refine⟨by rw[List.length_set];exact h.ln,sL h.bd (by omega) (by omega),?_⟩
 rw[ni _ _ hq]
 split
 · rename_i e;subst e;have:=h.z;omega
 · exact h.z
theorem zC(n q:Nat)(h:q<n):nth (gH n) q=1099511627776:=bB (by unfold gH;rw[List.getElem?_replicate,if_pos h])
theorem pF{n:Nat}{p:Nat→Bool}{x:Int}(h:x∈cq n p):∃k:Nat,x=k∧k<n∧p k=true:=by
 unfold cq at h
 simp only[List.mem_map,List.mem_filter,List.mem_range]at h
 obtain⟨k,⟨h1,h2⟩,rfl⟩:=h
 exact⟨k,rfl,h1,h2⟩
theorem D5(n:Nat)(p:Nat→Bool):sI (cq n p) n=true:=by
 unfold sI
 rw[List.all_eq_true]
 intro j hj
 rw[List.mem_range]at hj
 simp only[decide_eq_true_eq]
 have pw:(cq n p).Pairwise (· < ·):=by
  unfold cq
  rw[List.pairwise_map]
  exact(List.pairwise_lt_range.filter _).imp fun h=>by omega
 obtain⟨k,e,hk, -⟩:=pF (aa hj)
 refine⟨by omega,by omega,fun h0=>?_⟩
 have:=List.pairwise_iff_getElem.1 pw (j-1) j (by omega) hj (by omega)
 rwa [bB (List.getElem?_eq_getElem (by omega:j-1<_)),bB (List.getElem?_eq_getElem hj)]
@[go_sem] theorem SO : ((2 : Nat) : Int) = 2 := (rfl)
def p7(n:Nat)(p:Nat→Bool):Nat:=((List.range n).find? p).getD 0
theorem yd{gc:Bool}{dead:List Nat}{c:C}{vs:List D}{H:aj}(s:Nat→St)(n:Nat)(p:Nat→Bool)(e:Nat→Ex×St)(eN:Ex×St)
 (h0:(⟨jx dead vs,H⟩:St)=s 0)
 (hs:∀j,j<n→p j=false→fJ gc dead (s j).H.length (exS aN c (s j))=some (s (j+1)))
 (he:∀j,j<n→p j=true→exS aN c (s j)=some (e j)∧(e j).1≠ .normal)
 (hN:exS aN c (s n)=some eN) (hn:eN.1≠ .normal):
 exS aN (.loop gc dead c) ⟨vs,H⟩=some (if(List.range n).any p=true then e (p7 n p)else eN):=by
 rw[b7 s n p e eN h0 hs he hN hn,←Av]
 unfold p7
 cases hf:(List.range n).find? p with
 | none=>simp
 | some k=>simp
theorem ye{α:Type} [Dat α](l:List α)(p:α→Bool):((List.range l.length).any fun j=>p (nth l j))=l.any p:=by
 rw[Bool.eq_iff_iff,List.any_eq_true,List.any_eq_true]
 constructor
 · rintro ⟨j,hj,hp⟩
   exact⟨_,aa (List.mem_range.1 hj),hp⟩
 · rintro ⟨x,hx,hp⟩
   obtain⟨j,hj,rfl⟩:=List.getElem_of_mem hx
   exact⟨j,List.mem_range.2 hj,by rw[bB (List.getElem?_eq_getElem hj)];exact hp⟩
theorem Je(n:Nat)(p:Nat→Bool):(List.range n).all p= !((List.range n).any fun j=> !p j):=by
 rw[List.all_eq_not_any_not]
end Go.Ev
namespace Go.Ev
open Go
section
variable (H : aj) (sz id ep n lo hi : Nat) (i j : Int) (fz : Bool)
def scO(r:D):Option Obj→Option (D×aj)
 | some (.arr sz' _ ep' es)=>if ep=ep'∧n=es.length then(if sz'=sz then some (r,H)else none)else none
 | _=>none
@[go_sem] theorem ZI (r : D) (sz' : Nat) (pin : Bool) (es : List D) : scO H sz ep n r (some (.arr sz' pin ep es)) = if n = es.length then (if sz' = sz then some (r, H) else none) else none := by simp [scO]
theorem scR{l h:Nat}:((fW H id ep n).bind fun a=>if l≤h∧h≤n∧a.1=sz then some (D.sub id ep n l h)else none).map (fun d=>(d,H))=if l≤h then(if h≤n then scO H sz ep n (.sub id ep n l h) H[id]? else none)else none:=by
 simp only[fW]
 generalize H[id]?=o
 by_cases h1:l≤h
 · by_cases h2:h≤n
   · rw[if_pos h1,if_pos h2]
     rcases o with _ | (_ | ⟨sz',pin,ep',es⟩)
     · rfl
     · rfl
     · simp only[scO]
       by_cases h3:ep=ep'∧n=es.length
       · rw[if_pos h3,if_pos h3,Option.bind_some]
         by_cases h4:sz'=sz
         · rw[if_pos h4,if_pos ⟨h1,h2,h4⟩];rfl
         · rw[if_neg h4,if_neg fun h=>h4 h.2.2];rfl
       · rw[if_neg h3,if_neg h3];rfl
   · rw[if_pos h1,if_neg h2]
     rcases o with _ | (_ | ⟨sz',pin,ep',es⟩)
     · rfl
     · rfl
     · by_cases h3:ep=ep'∧n=es.length
       · simp only[if_pos h3,Option.bind_some];rw[if_neg fun h=>h2 h.2.1];rfl
       · simp only[if_neg h3];rfl
 · rw[if_neg h1]
   rcases o with _ | (_ | ⟨sz',pin,ep',es⟩)
   · rfl
   · rfl
   · by_cases h3:ep=ep'∧n=es.length
     · simp only[if_pos h3,Option.bind_some];rw[if_neg fun h=>h1 h.1];rfl
     · simp only[if_neg h3];rfl
@[go_sem] theorem Qd : IM H sz (some (.ref id ep n)) (some none) (some (some i)) = if 0 ≤ i then (if i ≤ n then scO H sz ep n (.sub id ep n 0 i.toNat) H[id]? else none) else none := by
 simp only[IM,Option.bind_some,qi,bound,idx]
 by_cases h1:0≤i
 · rw[if_pos h1,if_pos h1,Option.bind_some,scR,if_pos (Nat.zero_le _)]
   by_cases h2:i≤n
   · rw[if_pos h2,if_pos (by omega)]
   · rw[if_neg h2,if_neg (by omega)]
 · rw[if_neg h1,if_neg h1];rfl
@[go_sem] theorem Qe : IM H sz (some (.ref id ep n)) (some (some i)) (some none) = if 0 ≤ i then (if i ≤ n then scO H sz ep n (.sub id ep n i.toNat n) H[id]? else none) else none := by
 simp only[IM,Option.bind_some,qi,bound,idx]
 by_cases h1:0≤i
 · rw[if_pos h1,if_pos h1,Option.bind_some,scR]
   by_cases h2:i≤n
   · rw[if_pos h2,if_pos (by omega),if_pos (by omega)]
   · rw[if_neg h2,if_neg (by omega)]
 · rw[if_neg h1,if_neg h1];rfl
@[go_sem] theorem Qf : IM H sz (some .nil) (some none) (some (some i)) = if i = 0 then some (.nil, H) else none := by
 simp only[IM,Option.bind_some,qi,bound,idx]
 by_cases h1:0≤i
 · rw[if_pos h1,Option.bind_some]
   by_cases h2:i=0
   · rw[if_pos h2,if_pos (by omega)];rfl
   · rw[if_neg h2,if_neg (by omega)];rfl
 · rw[if_neg h1,if_neg (by omega)];rfl
@[go_sem] theorem Qg : IM H sz (some .nil) (some (some i)) (some none) = if i = 0 then some (.nil, H) else none := by
 simp only[IM,Option.bind_some,qi,bound,idx]
 by_cases h1:0≤i
 · rw[if_pos h1,Option.bind_some]
   by_cases h2:i=0
   · rw[if_pos h2,if_pos (by omega)];rfl
   · rw[if_neg h2,if_neg (by omega)];rfl
 · rw[if_neg h1,if_neg (by omega)];rfl
def KR(x:D)(ys:List D):Option (D×aj):=if cG sz ys=true then(match x with
 | .nil=>if ys.length≤4294967296 then some (.ref H.length 0 ys.length,H++[.arr sz false 0 ys])else none
 | .ref id ep n=>vR H sz id ep n ys H[id]?
 | _=>none)else none
@[go_sem] theorem Xr (ys : List D) : KR H sz .nil ys = if cG sz ys = true then (if ys.length ≤ 4294967296 then some (.ref H.length 0 ys.length, H ++ [.arr sz false 0 ys]) else none) else none := (rfl)
@[go_sem] theorem Xs (ys : List D) : KR H sz (.ref id ep n) ys = if cG sz ys = true then vR H sz id ep n ys H[id]? else none := (rfl)
@[go_sem] theorem NG : cG sz [] = true := (rfl)
@[go_sem] theorem AH (d : D) (r : List D) : cG sz (d :: r) = nH sz d.cells := by
 rw[Bool.eq_iff_iff,eZ];simp[cG]
def U8(x:D):Option Obj→Option (D×aj)
 | some (.arr _ _ ep' es)=>if ep=ep'∧n=es.length then KR H sz x ((es.drop lo).take (hi-lo))else none
 | _=>none
def U9(x:D):Option Obj→Option (D×aj)
 | some (.arr _ _ ep' es)=>if ep=ep'∧n=es.length then KR H sz x es else none
 | _=>none
@[go_sem] theorem Xt (x : D) (sz' : Nat) (pin : Bool) (es : List D) : U8 H sz ep n lo hi x (some (.arr sz' pin ep es)) = if n = es.length then KR H sz x ((es.drop lo).take (hi - lo)) else none := by simp [U8]
@[go_sem] theorem Xu (x : D) (sz' : Nat) (pin : Bool) (es : List D) : U9 H sz ep n x (some (.arr sz' pin ep es)) = if n = es.length then KR H sz x es else none := by simp [U9]
theorem Qh(x:D)(ys:List D):(if cG sz ys=true then(match x with
 | .nil=>if ys.length≤lim then some (D.ref H.length 0 ys.length,H++[.arr sz false 0 ys])else none
 | .ref id ep n=>(fW H id ep n).bind fun a=>if a.1=sz∧n+ys.length≤lim then some (.ref id ep (n+ys.length),H.set id (.arr sz a.2.1 ep (a.2.2++ys)))else none
 | _=>none)else none)=KR H sz x ys:=by
 unfold KR
 split
 · cases x with
   | ref id ep n=>
     simp only[fW]
     generalize H[id]?=o
     rcases o with _ | (_ | ⟨sz',pin,ep',es⟩)
     · rfl
     · rfl
     · simp only[vR]
       by_cases h1:ep=ep'∧n=es.length
       · rw[if_pos h1,Option.bind_some]
         by_cases h2:sz'=sz∧n+ys.length≤lim
         · rw[if_pos h2,if_pos ⟨h1.1,h1.2,h2⟩]
         · rw[if_neg h2,if_neg fun h=>h2 h.2.2]
       · rw[if_neg h1,if_neg fun h=>h1 ⟨h.1,h.2.1⟩];rfl
   | _=>rfl
 · rfl
theorem vh(x y:D)(ys:List D)(h:elems H y=some ys):qp H sz false (some x) (some y)=KR H sz x ys:=by
 simp only[qp,Option.bind_some,nF,h,Bool.false_eq_true,if_false]
 exact Qh H sz x ys
@[go_sem] theorem KS (x : D) : qp H sz false (some x) (some .nil) = KR H sz x [] := vh H sz x .nil [] rfl
@[go_sem] theorem KT (x : D) : qp H sz false (some x) (some (.ref id ep n)) = U9 H sz ep n x H[id]? := by
 cases he:elems H (.ref id ep n)with
 | some ys=>
   rw[vh H sz x _ ys he]
   simp only[elems,fW]at he
   generalize H[id]?=o at he
   rcases o with _ | (_ | ⟨sz',pin,ep',es⟩)
   · cases he
   · cases he
   · simp only[U9]
     by_cases h1:ep=ep'∧n=es.length
     · simp only[if_pos h1]at he ⊢;cases he;rfl
     · simp only[if_neg h1]at he;cases he
 | none=>
   have:qp H sz false (some x) (some (.ref id ep n))=none:=by simp only[qp,Option.bind_some,nF,he];rfl
   rw[this]
   simp only[elems,fW]at he
   generalize H[id]?=o at he
   rcases o with _ | (_ | ⟨sz',pin,ep',es⟩)
   · rfl
   · rfl
   · simp only[U9]
     by_cases h1:ep=ep'∧n=es.length
     · simp only[if_pos h1]at he;cases he
     · simp only[if_neg h1]
@[go_sem] theorem KU (x : D) : qp H sz false (some x) (some (.sub id ep n lo hi)) = U8 H sz ep n lo hi x H[id]? := by
 cases he:elems H (.sub id ep n lo hi)with
 | some ys=>
   rw[vh H sz x _ ys he]
   simp only[elems,fW]at he
   generalize H[id]?=o at he
   rcases o with _ | (_ | ⟨sz',pin,ep',es⟩)
   · cases he
   · cases he
   · simp only[U8]
     by_cases h1:ep=ep'∧n=es.length
     · simp only[if_pos h1]at he ⊢;cases he;rfl
     · simp only[if_neg h1]at he;cases he
 | none=>
   have:qp H sz false (some x) (some (.sub id ep n lo hi))=none:=by simp only[qp,Option.bind_some,nF,he];rfl
   rw[this]
   simp only[elems,fW]at he
   generalize H[id]?=o at he
   rcases o with _ | (_ | ⟨sz',pin,ep',es⟩)
   · rfl
   · rfl
   · simp only[U8]
     by_cases h1:ep=ep'∧n=es.length
     · simp only[if_pos h1]at he;cases he
     · simp only[if_neg h1]
def L3(ds:List D):Option (D×aj):=if ds.all (fun d=>d.cells.length==sz&&d.iK)then some (.ref H.length 0 ds.length,H++[.arr sz false 0 ds])else none
@[go_sem] theorem aaG (call : aS) (get : X → Option D) (xs : List X) : evO call get H (.bsr xs sz) = (bQ get xs).bind (L3 H sz) := (rfl)
@[go_sem] theorem Va : L3 H sz [] = some (.ref H.length 0 0, H ++ [.arr sz false 0 []]) := (rfl)
@[go_sem] theorem Vb (cs : List D) : L3 H sz [.agg cs] = if nH sz cs = true then some (.ref H.length 0 1, H ++ [.arr sz false 0 [.agg cs]]) else none := by
 simp only[L3,List.all_cons,List.all_nil,Bool.and_true,D.cells,D.iK]
 by_cases h:nH sz cs=true
 · rw[if_pos h,if_pos (by simpa using eZ.1 h)];rfl
 · rw[if_neg h,if_neg (by intro e;exact h (eZ.2 (by simpa using e)))]
end
@[go_sem] theorem NH : (1 : Int).toNat = 1 := (rfl)
section
variable {H t : aj} {i j k : Nat} {o o' : Obj}
theorem ir(h:i<H.length):(H++t)[i]?=H[i]?:=List.getElem?_append_left h
theorem iS:(H++t)[H.length]?=t[0]?:=by rw[List.getElem?_append_right (Nat.le_refl _),Nat.sub_self]
theorem gq:(H++t)[H.length+k]?=t[k]?:=by rw[List.getElem?_append_right (Nat.le_add_right _ _),Nat.add_sub_cancel_left]
theorem Jf(h:i<H.length):(H++t).set i o=H.set i o++t:=List.set_append_left _ _ h
theorem mq:(H++t).set H.length o=H++t.set 0 o:=by rw[List.set_append_right _ _ (Nat.le_refl _),Nat.sub_self]
theorem oI(h:i<H.length):(H.set i o)[i]?=some o:=by simp[h]
theorem jb(h:i≠j):(H.set i o)[j]?=H[j]?:=List.getElem?_set_ne h
theorem rz:(H.set i o).set i o'=H.set i o':=List.set_set ..
theorem rA(a b:aj):(H++a)++b=H++(a++b):=List.append_assoc ..
theorem mK(h:H[i]?=some o):i<H.length:=(List.getElem?_eq_some_iff.1 h).1
end
theorem D6(H:aj)(id sz n:Nat)(es:List D)(ts:List T)(hid:H[id]?=some (.arr sz false 0 es))(hn:n=es.length)(hf:bQ (frz H 8) es=some ts)(ha:∀i∈es.flatMap (fq H 8),i≠id):
 finish 0 1 H [.ref id 0 n]=some (.ref 0 0 n,[.arr sz false 0 (ts.map .t)]):=by
 have hold:([D.ref id 0 n].all (old 0 depth)&&(H.take 0).all (fun o=>o.ds.all (old 0 depth)))=false:=by
  simp[old,depth]
 have hmap:∀ {es:List D} {ts:List T},bQ (frz H 8) es=some ts→bQ (fun d=>(frz H 8 d).map D.t) es=some (ts.map .t):=by
  intro es
  induction es with
  | nil=>intro ts h;simp[bQ]at h;subst h;rfl
  | cons e es ih=>
    intro ts h
    simp only[bQ,Option.bind_eq_some_iff,Option.map_eq_some_iff]at h
    obtain⟨y,hy,r,hr,rfl⟩:=h
    simp only[bQ,hy,Option.map_some,Option.bind_some,ih hr,List.map_cons]
 have hnew:(eQ [] [id]).drop 0=[id]:=by simp[eQ]
 have hall:(es.flatMap (fq H 8)).all (fun i=> !([]++[id]).contains i)=true:=by
  rw[List.all_eq_true];intro i hi;simpa using ha i hi
 unfold finish
 rw[if_neg (by omega),Option.bind_some,hold,if_neg (by simp)]
 have hk:kY H (max 1 1) (List.range 0) ([D.ref id 0 n].flatMap (ids depth)++oq H (List.range 0))=some ([id],[.arr sz false 0 (ts.map .t)]):=by
  have e1:[D.ref id 0 n].flatMap (ids depth)++oq H (List.range 0)=[id]:=by simp[ids,depth,oq]
  rw[e1]
  simp only[Nat.max_self,List.range_zero]
  unfold kY
  simp only[List.length_nil,hnew,pick,hid,Option.bind_some,Option.map_some,if_true,List.flatMap_cons,List.flatMap_nil,List.append_nil,Obj.ds,depth,hall,bQ,dV,hmap hf]
  simp only[kY,Option.map_some,List.append_nil,Option.bind_some]
 rw[hk]
 simp only[Option.bind_some,List.range_zero,List.nil_append,List.take_zero,iy,Nat.succ_ne_zero,if_false,Nat.one_ne_zero,List.all_nil,if_true,bQ,ren,idxOf,Option.map_some,gw,s9,depth]
 have:=IS (fun i=>if id=i then some 0 else Option.map (fun x=>x+1) none) ts
 simp only[depth]at this
 rw[this];rfl
end Go.Ev
namespace Go.Ev.N
def Jg:Nat:=78
def HN:Nat:=79
def GN:Nat:=80
def Qi:Nat:=81
def KV:Nat:=82
def Qj:Nat:=83
def Qk:Nat:=84
def Ql:Nat:=85
def SP:Nat:=86
def NI:Nat:=87
def Qm:Nat:=88
def NJ:Nat:=89
def NK:Nat:=90
def SQ:Nat:=91
def eR:Nat:=92
def SR:Nat:=93
def jc:Nat:=94
def Vc:Nat:=95
def Qn:Nat:=96
def SS:Nat:=97
def Qo:Nat:=98
def Qp:Nat:=99
def Qq:Nat:=100
def SU:Nat:=101
def Vd:Nat:=102
def Di:Nat:=103
def L4:Nat:=104
def dZ:Nat:=105
def ec:Nat:=106
def SV:Nat:=107
def SW:Nat:=108
def Qr:Nat:=109
def SX:Nat:=110
def fH:Nat:=111
def Qs:Nat:=112
def Qt:Nat:=113
def gT:Nat:=114
def NL:Nat:=115
def SY:Nat:=116
def SZ:Nat:=117
def bX:Nat:=118
def NM:Nat:=119
def L5:Nat:=120
def L6:Nat:=121
def FD:Nat:=122
end Go.Ev.N
namespace Go.Ev.N
def Jh:Nat:=123
def HO:Nat:=124
def KW:Nat:=125
def Ji:Nat:=126
def Qu:Nat:=127
def Qv:Nat:=128
def Qw:Nat:=129
def S0:Nat:=130
def S1:Nat:=131
def Qx:Nat:=132
def Qy:Nat:=133
def L7:Nat:=134
def L8:Nat:=135
def S2:Nat:=136
def Qz:Nat:=137
def L9:Nat:=138
def NN:Nat:=139
def KX:Nat:=140
def NQ:Nat:=141
def Ma:Nat:=142
def Jj:Nat:=143
def Jk:Nat:=144
def cM:Nat:=145
def NR:Nat:=146
def NS:Nat:=147
def bF:Nat:=148
end Go.Ev.N
namespace Go.Ev.N
def FE:Nat:=149
def Jl:Nat:=150
def Jm:Nat:=151
def HP:Nat:=152
def QA:Nat:=153
def QB:Nat:=154
def NT:Nat:=155
def NU:Nat:=156
def QC:Nat:=157
def S3:Nat:=158
def QD:Nat:=159
def bc:Nat:=160
def FF:Nat:=161
def QE:Nat:=162
def S4:Nat:=163
def NV:Nat:=164
def S5:Nat:=165
def NW:Nat:=166
def dN:Nat:=167
def rJ:Nat:=168
def Mb:Nat:=169
def dA:Nat:=170
def GO:Nat:=171
def Mc:Nat:=172
def gU:Nat:=173
def s6:Nat:=174
def Jn:Nat:=175
def cN:Nat:=176
def ff:Nat:=177
end Go.Ev.N
namespace Go.Ev.K
open Go.Ev
def cO:C:=(.seq (.ite [m v6,m v5,u (.ln l0),u (.bin .lss l2 l0)] [] 0 .skip (.exit 0)) (.blk 1 (.reg [m v6,m v5,m v6,u (.sc l1 (some l0) none 1),m v5,m v6,u (.sc l1 none (some l0) 1),u (.cp l3 l0 1),u (.bin .add l7 l0),w 6 (.mv l0)] [])))
def jP:C:= .loop true [0,1,2,3,4] K.cO
def bc:Fn:={ nargs:=2,vars:=[0,1,4,5,6,7,8],body:=(.seq (.reg [w 2 (.mv (.c (.nil)))] []) (.seq (.ite [m v1,u (.bin .lss l0 (.i 0))] [] 0 .fail .skip) (.seq (.reg [m v0,u (.ln l0),u (.cv .u64 l0),m v1,u (.cv .u64 l0),u (.ca N.dA 0 [] [.l 2,.l 0]),m l0,u (.ex l0 0),u (.ex l1 1),w 3 (.mv l1),w 4 (.mv l1)] []) (.seq (.ite [m v3,u (.bin .gtr l0 (.c (.t (.int .u64 (0))))),m l0,y 0 false (.mv v4),y 1 false (.bin .gtr l0 (.c (.t (.int .u64 (9223372036854775807))))),u (.pk l2 (.b true) l0)] [] 0 .fail .skip) (.seq (.reg [m v4,u (.cv .i64 l0),u (.mk l0 (.t (.int .i64 (0))) 1),w 5 (.mv l0)] []) (.seq (.reg [m v5,m v0,u (.cp l1 l0 1),w 6 (.mv l0)] []) (.seq (.blk 0 K.jP) (.seq (.reg [m v5,w 2 (.mv l0)] []) .ret)))))))),res:=[(2,none)]}
def dN:Fn:={ nargs:=1,vars:=[0,1,2],body:=(.seq (.reg [w 1 (.bx v0 2),w 2 (.mv (.b false))] []) (.seq (.reg [h 2 v1,u (.ca N.gU 0 [] [.l 0]),u (.bin .eql l0 (.i 0)),w 2 (.mv l0)] []) .ret)),res:=[(2,none)]}
def dA:Fn:={ nargs:=2,vars:=[0,1,4,5,8,9],body:=(.seq (.reg [w 2 (.mv (.c (.t (.int .u64 (0))))),w 3 (.mv (.c (.t (.int .u64 (0)))))] []) (.seq (.cnd false .skip) (.seq (.reg [m v0,m v1,u (.ca N.cN 0 [] [.l 1,.l 0]),m l0,u (.ex l0 0),u (.ex l1 1),w 4 (.mv l1),w 5 (.mv l1)] []) (.seq (.reg [m v4,m v5,w 2 (.mv l1),w 3 (.mv l1)] []) .ret)))),res:=[(2,none),(3,none)]}
end Go.Ev.K
namespace Go.Ev
class gV [Lib]:Prop where
 gB:Lib.fs N.bc=some K.bc
 qH:Lib.fs N.dN=some K.dN
 mL:Lib.fs N.dA=some K.dA
namespace K
variable [Lib] [gV]
theorem gB:Lib.fs N.bc=some K.bc:=gV.gB
theorem qH:Lib.fs N.dN=some K.dN:=gV.qH
theorem mL:Lib.fs N.dA=some K.dA:=gV.mL
end K
end Go.Ev
namespace Go.Ev.K
open Go.Ev
def nW:C:=(.its [u (.bin .lss v8 v7)] [] 0 .skip (.exit 0) (.seq (.blk 1 (.seq (.reg [a 2 v6 v8,h 2 l0,w 3 (.al [.t (.int .i64 (0)),.t (.bool false)] []),u (.st l0 l1 2 [])] []) (.ite [f 0 v3,g l0,u (.bin .lss l0 (.i (-10000))),m l0,y 0 false (.fa v3 0),y 1 false (.ld l0 1 false),y 2 false (.bin .gtr l0 (.i 10000)),u (.pk l3 (.b true) l0)] [] 0 (.seq (.reg [w 2 (.mv (.i 1))] []) .ret) .skip))) (.reg [u (.bin .add v8 (.i 1)),w 8 (.mv l0)] [])))
def uf:C:= .loop true [0,2,3,4,5,9,10,11] K.nW
def nX:C:=(.its [u (.bin .lss v11 v10)] [] 0 .skip (.exit 2) (.seq (.blk 3 (.seq (.reg [a 10 v9 v11,h 10 l0,w 5 (.al [.t (.int .i64 (0)),.t (.int .i64 (0)),.t (.int .i64 (0)),.t (.int .i64 (0)),.t (.bool false),.t (.bool false),.t (.int .i64 (0)),.t (.int .i64 (0)),.t (.int .i64 (0)),.t (.int .i64 (0))] []),u (.st l0 l1 10 [])] []) (.seq (.ite [f 0 v5,g l0,u (.bin .lss l0 (.i 0)),m l0,y 0 false (.fa v5 0),y 1 false (.ld l0 1 false),y 2 false (.mv v4),y 3 false (.bin .geq l1 l0),u (.pk l4 (.b true) l0),m l0,y 0 false (.fa v5 1),y 1 false (.ld l0 1 false),y 2 false (.bin .lss l0 (.i 0)),u (.pk l3 (.b true) l0),m l0,y 0 false (.fa v5 1),y 1 false (.ld l0 1 false),y 2 false (.mv v4),y 3 false (.bin .geq l1 l0),u (.pk l4 (.b true) l0),m l0,y 0 false (.fa v5 0),y 1 false (.ld l0 1 false),y 2 false (.fa v5 1),y 3 false (.ld l0 1 false),y 4 false (.bin .eql l2 l0),u (.pk l5 (.b true) l0)] [] 0 (.seq (.reg [w 2 (.mv (.i 4))] []) .ret) .skip) (.seq (.ite [f 2 v5,g l0,u (.bin .lss l0 (.i 1)),m l0,y 0 false (.fa v5 2),y 1 false (.ld l0 1 false),y 2 false (.bin .gtr l0 (.i 100000)),u (.pk l3 (.b true) l0),m l0,y 0 false (.fa v5 3),y 1 false (.ld l0 1 false),y 2 false (.bin .lss l0 (.i 1)),u (.pk l3 (.b true) l0),m l0,y 0 false (.fa v5 3),y 1 false (.ld l0 1 false),y 2 false (.bin .gtr l0 (.i 1000)),u (.pk l3 (.b true) l0)] [] 0 (.seq (.reg [w 2 (.mv (.i 1))] []) .ret) .skip) (.ite [f 6 v5,h 2 l0,u (.ca N.ff 0 [] [.l 0,.i 1,.i 262144]),u (.un .not l0),m l0,y 0 false (.fa v5 8),y 1 false (.ld l0 2 true),y 2 false (.ca N.ff 0 [] [.l 0,.i (-2199023255552),.i 2199023255552]),y 3 false (.un .not l0),u (.pk l4 (.b true) l0)] [] 0 (.seq (.reg [w 2 (.mv (.i 1))] []) .ret) .skip))))) (.reg [u (.bin .add v11 (.i 1)),w 11 (.mv l0)] [])))
def ug:C:= .loop true [0,1,2,3,5,6,7,8] K.nX
def gU:Fn:={ nargs:=1,vars:=[0,1,2,4,5,7,19,20,21,38,39,40],body:=(.seq (.reg [w 1 (.bx v0 2),w 2 (.mv (.i 0))] []) (.seq (.ite [f 0 v1,g l0,u (.ln l0),u (.bin .gtr l0 (.i 64)),m l0,y 0 false (.fa v1 1),y 1 false (.ld l0 1 false),y 2 false (.ln l0),y 3 false (.bin .gtr l0 (.i 128)),u (.pk l4 (.b true) l0)] [] 0 (.seq (.reg [w 2 (.mv (.i 2))] []) .ret) .skip) (.seq (.seq (.reg [f 0 v1,w 6 (.ld l0 1 false),w 7 (.ln l0),w 8 (.mv (.i 0))] []) (.blk 0 K.uf)) (.seq (.reg [f 0 v1,g l0,u (.ln l0),w 4 (.mv l0)] []) (.seq (.seq (.reg [f 1 v1,w 9 (.ld l0 1 false),w 10 (.ln l0),w 11 (.mv (.i 0))] []) (.blk 2 K.ug)) (.seq (.reg [w 2 (.mv (.i 0))] []) .ret)))))),res:=[(2,none)]}
def cN:Fn:={ nargs:=2,vars:=[0,1,4,5,6,7,8,9,10,11,12,13],body:=(.seq (.reg [w 2 (.mv (.c (.t (.int .u64 (0))))),w 3 (.mv (.c (.t (.int .u64 (0)))))] []) (.seq (.reg [m v0,u (.bin .and l0 (.c (.t (.int .u64 (4294967295))))),w 4 (.mv l0)] []) (.seq (.reg [m v0,u (.bin .shr l0 (.c (.t (.int .u64 (32))))),w 5 (.mv l0)] []) (.seq (.reg [m v1,u (.bin .and l0 (.c (.t (.int .u64 (4294967295))))),w 6 (.mv l0)] []) (.seq (.reg [m v1,u (.bin .shr l0 (.c (.t (.int .u64 (32))))),w 7 (.mv l0)] []) (.seq (.reg [m v4,m v6,u (.bin .mul l1 l0),w 8 (.mv l0)] []) (.seq (.reg [m v5,m v6,u (.bin .mul l1 l0),m v8,u (.bin .shr l0 (.c (.t (.int .u64 (32))))),u (.bin .add l2 l0),w 9 (.mv l0)] []) (.seq (.reg [m v9,u (.bin .and l0 (.c (.t (.int .u64 (4294967295))))),w 10 (.mv l0)] []) (.seq (.reg [m v9,u (.bin .shr l0 (.c (.t (.int .u64 (32))))),w 11 (.mv l0)] []) (.seq (.reg [m v10,m v4,m v7,u (.bin .mul l1 l0),u (.bin .add l3 l0),w 10 (.mv l0)] []) (.seq (.reg [m v5,m v7,u (.bin .mul l1 l0),m v11,u (.bin .add l1 l0),m v10,u (.bin .shr l0 (.c (.t (.int .u64 (32))))),u (.bin .add l2 l0),w 2 (.mv l0)] []) (.seq (.reg [m v0,m v1,u (.bin .mul l1 l0),w 3 (.mv l0)] []) .ret)))))))))))),res:=[(2,none),(3,none)]}
def ff:Fn:={ nargs:=3,vars:=[0,1,2,3,6],body:=(.seq (.reg [w 3 (.bx v0 2),w 4 (.mv (.b false))] []) (.seq (.reg [m v1,f 0 v3,g l0,u (.bin .leq l2 l0),m l0,y 0 true (.fa v3 0),y 1 true (.ld l0 1 false),y 2 true (.fa v3 1),y 3 true (.ld l0 1 false),y 4 true (.bin .leq l2 l0),u (.pk l5 l0 (.b false)),m l0,y 0 true (.fa v3 1),y 1 true (.ld l0 1 false),y 2 true (.mv v2),y 3 true (.bin .leq l1 l0),u (.pk l4 l0 (.b false)),w 4 (.mv l0)] []) .ret)),res:=[(4,none)]}
end Go.Ev.K
namespace Go.Ev
class gW [Lib]:Prop where
 qI:Lib.fs N.gU=some K.gU
 kJ:Lib.fs N.cN=some K.cN
 pG:Lib.fs N.ff=some K.ff
namespace K
variable [Lib] [gW]
theorem qI:Lib.fs N.gU=some K.gU:=gW.qI
theorem kJ:Lib.fs N.cN=some K.cN:=gW.kJ
theorem pG:Lib.fs N.ff=some K.ff:=gW.pG
end K
end Go.Ev
