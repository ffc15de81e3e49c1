/- Parts of the proof: see the text that holds the theorem. -/
import Derived.Test.YtifghciaddehaaaGreatZ2
set_option linter.all false
open Nat (reduceAdd reduceSub)
set_option maxRecDepth 100000
namespace Go.Ev
open Go
abbrev I(n:Int):D:= .t (.int .i64 n)
abbrev B(b:Bool):D:= .t (.bool b)
def Ou{β:Type}(call:aW):List R→List D→List D→aq→(List D→List D→aq→Option β)→Option β
 | rs,L,vs,H,K=>(evR call rs L vs H).bind fun q=>K q.1 q.2.1 q.2.2
def XP{β:Type}(call:aW)(rs:List R)(d:Option Nat)(L vs:List D)(K:List D→List D→aq→Option β)(p:D×aq):Option β:=
 Ou call rs (p.1::L) (wr vs d p.1) p.2 K
@[go_sem] theorem agm {β : Type} (call : aW) (rs : List R) (d : Option Nat) (L vs : List D) (K : List D → List D → aq → Option β) (x : D) (H : aq) :
 XP call rs d L vs K (x,H)=Ou call rs (x::L) (wr vs d x) H K:=(rfl)
@[go_sem] theorem agn {β : Type} (call : aW) (L vs : List D) (H : aq) (K : List D → List D → aq → Option β) : Ou call [] L vs H K = K L vs H := (rfl)
@[go_sem] theorem adL {β : Type} (call : aW) (o : O) (d : Option Nat) (rs : List R) (L vs : List D) (H : aq) (K : List D → List D → aq → Option β) :
 Ou call (⟨o,d,none⟩::rs) L vs H K=(evO call (X.get vs L) H o).bind (XP call rs d L vs K):=by
 simp[Ou,evR,dt,Option.bind_assoc]
 rfl
def gate{β:Type}(c:Option D)(w:Bool)(a b:Option β):Option β:=match c with
 | some (.t (.bool x))=>if x=w then a else b
 | some (.tup [])=>b
 | _=>none
@[congr] theorem aa9 {β : Type} {c c' : Option D} {w : Bool} {a b : Option β} (h : True → c = c') : gate c w a b = gate c' w a b := by rw [h trivial]
@[go_sem] theorem adM {β : Type} (x : Bool) (a b : Option β) : gate (some (.t (.bool x))) true a b = if x = true then a else b := (rfl)
@[go_sem] theorem aba {β : Type} (x : Bool) (a b : Option β) : gate (some (.t (.bool x))) false a b = if x = true then b else a := by cases x <;> rfl
@[go_sem] theorem adN {β : Type} (w : Bool) (a b : Option β) : gate (some (.tup [])) w a b = b := (rfl)
@[go_sem] theorem adO {β : Type} (call : aW) (o : O) (d : Option Nat) (k : Nat) (w : Bool) (rs : List R) (L vs : List D) (H : aq) (K : List D → List D → aq → Option β) :
 Ou call (⟨o,d,some (k,w)⟩::rs) L vs H K=gate L[k]? w ((evO call (X.get vs L) H o).bind (XP call rs d L vs K)) (Ou call rs (.tup []::L) (wr vs d (.tup [])) H K):=by
 simp only[Ou,evR,dt]
 cases hL:L[k]? with
 | none=>simp[gate]
 | some c=>
   simp only[aLq]
   cases c with
   | t x=>
     cases x with
     | bool b=>cases b<;>cases w<;>simp[gate,Option.bind_assoc]<;>rfl
     | _=>simp[gate]
   | tup ds=>
     cases ds with
     | nil=>simp[gate]
     | cons=>simp[gate]
   | _=>simp[gate]
open Classical in
noncomputable def AU{β:Type}(p:Prop)(x:Option β):Option β:=if p then x else none
@[go_sem] theorem XQ {β : Type} (x : Option β) : AU True x = x := by simp [AU]
noncomputable def Hn{β:Type}(call:aW)(all:List R)(n:Nat)(ps:List (Nat×Nat))(rs:List R)(L vs:List D)(H:aq)(acc:List Tr)(K:List D→List D→aq→Option β):Option β:=
 (evR call rs L vs H).bind fun q=>AU (ua call all n ((trace call rs L vs H).reverse++acc) ps) (K q.1 q.2.1 q.2.2)
noncomputable def Px{β:Type}(call:aW)(all:List R)(n:Nat)(ps:List (Nat×Nat))(rs:List R)(d:Option Nat)(L vs:List D)(H:aq)(acc:List Tr)(K:List D→List D→aq→Option β)(p:D×aq):Option β:=
 Hn call all n ps rs (p.1::L) (wr vs d p.1) p.2 ((L,vs,H)::acc) K
@[go_sem] theorem ago {β : Type} (call : aW) (all : List R) (n : Nat) (ps : List (Nat × Nat)) (rs : List R) (d : Option Nat) (L vs : List D) (H : aq) (acc : List Tr) (K : List D → List D → aq → Option β) (x : D) (H' : aq) :
 Px call all n ps rs d L vs H acc K (x,H')=Hn call all n ps rs (x::L) (wr vs d x) H' ((L,vs,H)::acc) K:=(rfl)
@[go_sem] theorem agp {β : Type} (call : aW) (all : List R) (n : Nat) (ps : List (Nat × Nat)) (L vs : List D) (H : aq) (acc : List Tr) (K : List D → List D → aq → Option β) :
 Hn call all n ps [] L vs H acc K=AU (ua call all n ((L,vs,H)::acc) ps) (K L vs H):=by
 simp[Hn,evR,trace]
theorem Ho{β:Type}(call:aW)(all:List R)(n:Nat)(ps:List (Nat×Nat))(r:R)(rs:List R)(L vs:List D)(H:aq)(acc:List Tr)(K:List D→List D→aq→Option β):
 Hn call all n ps (r::rs) L vs H acc K=(dt L r.g).bind fun w=>
  if w then(evO call (X.get vs L) H r.o).bind (Px call all n ps rs r.d L vs H acc K)else Hn call all n ps rs (.tup []::L) (wr vs r.d (.tup [])) H ((L,vs,H)::acc) K:=by
 obtain hw | ⟨w,hw⟩:dt L r.g=none∨∃w,dt L r.g=some w:=by cases dt L r.g<;>simp
 · simp[Hn,evR,trace,hw]
 · cases w with
   | true=>
     obtain hq | ⟨q,hq⟩:evO call (X.get vs L) H r.o=none∨∃q,evO call (X.get vs L) H r.o=some q:=by cases evO call (X.get vs L) H r.o<;>simp
     · simp[Hn,evR,trace,hw,hq]
     · simp[Hn,evR,trace,hw,hq,Px]
   | false=>simp[Hn,evR,trace,hw]
@[go_sem] theorem adP {β : Type} (call : aW) (all : List R) (n : Nat) (ps : List (Nat × Nat)) (o : O) (d : Option Nat) (rs : List R) (L vs : List D) (H : aq) (acc : List Tr) (K : List D → List D → aq → Option β) :
 Hn call all n ps (⟨o,d,none⟩::rs) L vs H acc K=(evO call (X.get vs L) H o).bind (Px call all n ps rs d L vs H acc K):=by
 rw[Ho];simp[dt]
@[go_sem] theorem adQ {β : Type} (call : aW) (all : List R) (n : Nat) (ps : List (Nat × Nat)) (o : O) (d : Option Nat) (k : Nat) (w : Bool) (rs : List R) (L vs : List D) (H : aq) (acc : List Tr) (K : List D → List D → aq → Option β) :
 Hn call all n ps (⟨o,d,some (k,w)⟩::rs) L vs H acc K=
  gate L[k]? w ((evO call (X.get vs L) H o).bind (Px call all n ps rs d L vs H acc K)) (Hn call all n ps rs (.tup []::L) (wr vs d (.tup [])) H ((L,vs,H)::acc) K):=by
 rw[Ho]
 simp only[dt]
 cases hL:L[k]? with
 | none=>simp[gate]
 | some c=>
   simp only[aLq]
   cases c with
   | t x=>
     cases x with
     | bool b=>cases b<;>cases w<;>simp[gate]
     | _=>simp[gate]
   | tup ds=>
     cases ds with
     | nil=>simp[gate]
     | cons=>simp[gate]
   | _=>simp[gate]
def DI(call:aW):Option R→Option Tr→Option Tr→Option Tr→Prop
 | some r,some s,some a,some s'=>(match r.o with
   | .al _ _=>a.2.2[s.2.2.length]?=s'.2.2[s.2.2.length]?
   | .bs xs _=>dt s.1 r.g=some false∨((cD (X.get s.2.1 s.1) xs).bind tV).isSome=true
   | o=>yM o=true∧(dt s.1 r.g=some false∨GG (evO call (X.get s.2.1 s.1) a.2.2 o)=GG (evO call (X.get s.2.1 s.1) s.2.2 o)))
 | _,_,_,_=>False
@[go_sem] theorem abb (call : aW) (all : List R) (n : Nat) (acc : List Tr) : ua call all n acc [] = True := (rfl)
@[go_sem] theorem XR (call : aW) (all : List R) (n : Nat) (acc : List Tr) (p m : Nat) (r : List (Nat × Nat)) :
 ua call all n acc ((p,m)::r)=(DI call all[p]? acc[n-p]? acc[n-m]? acc[n-(p+1)]?∧m≤n∧ua call all n acc r):=by
 simp only[ua,XO,DI]
 try rfl
section
variable (call : aW) (d : Option Nat) (gd : Option (Nat × Bool)) (L vs L' vs' : List D) (H H' : aq) (s' : Tr)
@[go_sem] theorem agq (x : X) (n : Nat) (agg : Bool) : DI call (some ⟨.ld x n agg, d, gd⟩) (some (L, vs, H)) (some (L', vs', H')) (some s') =
 (dt L gd=some false∨GG (evO call (X.get vs L) H' (.ld x n agg))=GG (evO call (X.get vs L) H (.ld x n agg))):=by simp[DI,yM]
@[go_sem] theorem agr (x i : X) (sz : Nat) : DI call (some ⟨.ia x i sz, d, gd⟩) (some (L, vs, H)) (some (L', vs', H')) (some s') =
 (dt L gd=some false∨GG (evO call (X.get vs L) H' (.ia x i sz))=GG (evO call (X.get vs L) H (.ia x i sz))):=by simp[DI,yM]
@[go_sem] theorem ags (x : X) (lo hi : Option X) (sz : Nat) : DI call (some ⟨.sc x lo hi sz, d, gd⟩) (some (L, vs, H)) (some (L', vs', H')) (some s') =
 (dt L gd=some false∨GG (evO call (X.get vs L) H' (.sc x lo hi sz))=GG (evO call (X.get vs L) H (.sc x lo hi sz))):=by simp[DI,yM]
@[go_sem] theorem agt (z : List D) (l : List (Nat × Nat)) (L2 vs2 : List D) (H2 : aq) : DI call (some ⟨.al z l, d, gd⟩) (some (L, vs, H)) (some (L', vs', H')) (some (L2, vs2, H2)) = (H'[H.length]? = H2[H.length]?) := (rfl)
@[go_sem] theorem agu (xs : List X) (sz : Nat) : DI call (some ⟨.bs xs sz, d, gd⟩) (some (L, vs, H)) (some (L', vs', H')) (some s') =
 (dt L gd=some false∨((cD (X.get vs L) xs).bind tV).isSome=true):=(rfl)
@[go_sem] theorem VG (L : List D) : dt L none = some true := (rfl)
def adR(w:Bool):Option D→Option Bool
 | some (.t (.bool b))=>some (b==w)
 | some (.tup [])=>some false
 | _=>none
@[go_sem] theorem abc (w b : Bool) : adR w (some (.t (.bool b))) = some (b == w) := (rfl)
@[go_sem] theorem VH (L : List D) (k : Nat) (w : Bool) : dt L (some (k, w)) = adR w L[k]? := by
 simp only[dt]
 cases L[k]? with
 | none=>rfl
 | some c=>cases c with
   | t x=>cases x<;>rfl
   | tup ds=>cases ds<;>rfl
   | _=>rfl
@[go_sem] theorem adS (x : D) : GG (some (x, H)) = some x := (rfl)
attribute [go_sem] beq_true beq_false or_true true_or or_self
end
theorem Lf(call:aW)(rs:List R)(vs:List D)(H:aq):Pw call rs [] vs H=evR call rs [] vs H:=by
 simp[Pw,ua]
def aib(L vs:List D)(H:aq):Option (Ex×St):=some (.normal,⟨vs,H⟩)
noncomputable def aic(call:aW)(k:Nat)(a b:C)(L vs:List D)(H:aq):Option (Ex×St):=jC L[k]? (exS call a ⟨vs,H⟩) (exS call b ⟨vs,H⟩)
@[go_sem] theorem aid (L vs : List D) (H : aq) : aib L vs H = some (.normal, ⟨vs, H⟩) := (rfl)
@[go_sem] theorem aie (call : aW) (k : Nat) (a b : C) (L vs : List D) (H : aq) : aic call k a b L vs H = jC L[k]? (exS call a ⟨vs, H⟩) (exS call b ⟨vs, H⟩) := (rfl)
def andThen(x:Option (Ex×St))(k:St→Option (Ex×St)):Option (Ex×St):=x.bind fun p=>jd p k
@[go_sem] theorem Sy (st : St) (k : St → Option (Ex × St)) : andThen (some (.normal, st)) k = k st := (rfl)
@[go_sem] theorem XT (st : St) (k : St → Option (Ex × St)) : andThen (some (.ret, st)) k = some (.ret, st) := (rfl)
@[go_sem] theorem VI (i : Nat) (st : St) (k : St → Option (Ex × St)) : andThen (some (.exit i, st)) k = some (.exit i, st) := (rfl)
@[go_sem] theorem andThen_ite (c : Prop) [Decidable c] (a b : Option (Ex × St)) (k : St → Option (Ex × St)) : andThen (if c then a else b) k = if c then andThen a k else andThen b k := by
 split<;>rfl
@[go_sem] theorem agv (call : aW) (st : St) : exS call .skip st = some (.normal, st) := (rfl)
@[go_sem] theorem aif (call : aW) (rs : List R) (vs : List D) (H : aq) : exS call (.reg rs []) ⟨vs, H⟩ = Ou call rs [] vs H aib := by
 simp only[exS,Lf,Ou]
 cases evR call rs [] vs H<;>rfl
@[go_sem] theorem agw (call : aW) (rs : List R) (p : Nat × Nat) (ps : List (Nat × Nat)) (vs : List D) (H : aq) :
 exS call (.reg rs (p::ps)) ⟨vs,H⟩=Hn call rs rs.length (p::ps) rs [] vs H [] aib:=by
 simp only[exS,Pw,Hn,List.append_nil]
 by_cases h:ua call rs rs.length (trace call rs [] vs H).reverse (p::ps)
 · rw[if_pos h]
   simp only[AU,if_pos h]
   cases evR call rs [] vs H<;>rfl
 · rw[if_neg h]
   simp only[AU,if_neg h]
   cases evR call rs [] vs H<;>rfl
@[go_sem] theorem aih (call : aW) (a b : C) (st : St) : exS call (.seq a b) st = andThen (exS call a st) (exS call b) := (rfl)
@[go_sem] theorem aii (call : aW) (rs : List R) (k : Nat) (a b : C) (vs : List D) (H : aq) : exS call (.ite rs [] k a b) ⟨vs, H⟩ = Ou call rs [] vs H (aic call k a b) := by
 simp only[exS,Lf,Ou]
 cases evR call rs [] vs H<;>rfl
@[go_sem] theorem agx (call : aW) (rs : List R) (p : Nat × Nat) (ps : List (Nat × Nat)) (k : Nat) (a b : C) (vs : List D) (H : aq) :
 exS call (.ite rs (p::ps) k a b) ⟨vs,H⟩=Hn call rs rs.length (p::ps) rs [] vs H [] (aic call k a b):=by
 simp only[exS,Pw,Hn,List.append_nil]
 by_cases h:ua call rs rs.length (trace call rs [] vs H).reverse (p::ps)
 · rw[if_pos h]
   simp only[AU,if_pos h]
   cases evR call rs [] vs H<;>rfl
 · rw[if_neg h]
   simp only[AU,if_neg h]
   cases evR call rs [] vs H<;>rfl
@[go_sem] theorem aij (call : aW) (rs : List R) (ps : List (Nat × Nat)) (k : Nat) (a b c : C) (st : St) : exS call (.its rs ps k a b c) st = andThen (exS call (.ite rs ps k a b) st) (exS call c) := (rfl)
@[go_sem] theorem aik (call : aW) (rs : List R) (ps : List (Nat × Nat)) (k : Nat) (a b c : C) (st : St) : exS call (.itk rs ps k a b c) st = exS call (.ite rs ps k (.seq a c) (.seq b c)) st := (rfl)
@[go_sem] theorem ail (call : aW) (j : Nat) (a b : C) (vs : List D) (H : aq) : exS call (.itv j a b) ⟨vs, H⟩ = jC vs[j]? (exS call a ⟨vs, H⟩) (exS call b ⟨vs, H⟩) := (rfl)
@[go_sem] theorem agy (call : aW) (id : Nat) (st : St) : exS call (.exit id) st = some (.exit id, st) := (rfl)
@[go_sem] theorem aim (call : aW) (st : St) : exS call .ret st = some (.ret, st) := (rfl)
def Fj(id:Nat)(x:Option (Ex×St)):Option (Ex×St):=x.map (leave id)
@[go_sem] theorem ain (call : aW) (id : Nat) (c : C) (st : St) : exS call (.blk id c) st = Fj id (exS call c st) := (rfl)
@[go_sem] theorem VJ (id : Nat) (st : St) : Fj id (some (.normal, st)) = some (.normal, st) := by simp [Fj, leave]
@[go_sem] theorem adT (id : Nat) (st : St) : Fj id (some (.ret, st)) = some (.ret, st) := by simp [Fj, leave]
@[go_sem] theorem abd (id i : Nat) (st : St) : Fj id (some (.exit i, st)) = if i = id then some (.normal, st) else some (.exit i, st) := by
 simp only[Fj,leave,aLw,Ex.exit.injEq]
 split<;>rfl
@[congr] theorem XU {c c' : Option D} {a b : Option (Ex × St)} (h : True → c = c') : jC c a b = jC c' a b := by rw [h trivial]
@[go_sem] theorem agz (a : Option (Ex × St)) : jC (some .ub) a a = a := by simp [jC]
@[go_sem] theorem abe (x : Bool) (a b : Option (Ex × St)) : jC (some (.t (.bool x))) a b = if x = true then a else b := (rfl)
def gE(gc:Bool)(dead:List Nat)(k:Nat)(x:Option (Ex×St)):Option St:=x.bind fun p=>match p.1 with
 | .normal=>tidy gc dead k p.2
 | _=>none
@[go_sem] theorem Ts (gc : Bool) (dead : List Nat) (k : Nat) (st : St) : gE gc dead k (some (.normal, st)) = tidy gc dead k st := (rfl)
theorem fL{gc:Bool}{dead:List Nat}{body:St→Option (Ex×St)}{st st2:St}(h:gE gc dead st.H.length (body st)=some st2)
 {p:Ex×St} (h2:nW gc dead body st2=some p):nW gc dead body st=some p:=by
 unfold gE at h
 obtain⟨⟨e,st1⟩,hq,h⟩:=aLa.1 h
 cases e with
 | normal=>exact Ej hq h h2
 | ret=>cases h
 | exit=>cases h
theorem BM{gc:Bool}{dead:List Nat}{body:St→Option (Ex×St)}(s:Nat→St){p:Ex×St}(n:Nat)
 (h:∀j,j<n→gE gc dead (s j).H.length (body (s j))=some (s (j+1))) (he:nW gc dead body (s n)=some p):nW gc dead body (s 0)=some p:=by
 have:=AT (s:=s) n 0 (fun j _ hj=>by
  have h:=h j (by omega)
  unfold gE at h
  obtain⟨⟨e,st1⟩,hq,h⟩:=aLa.1 h
  cases e with
  | normal=>exact⟨st1,hq,h⟩
  | ret=>cases h
  | exit=>cases h) (by simpa using he)
 exact this
def agA(res:List (Nat×Option (Nat×Bool)))(k raw:Nat)(p:Ex×St):Option (D×aq):=match p.1 with
 | .exit _=>none
 | _=>(ko p.2 res).bind (finish k raw p.2.H)
@[go_sem] theorem agB (res : List (Nat × Option (Nat × Bool))) (k raw : Nat) (vs : List D) (H : aq) : agA res k raw (.ret, ⟨vs, H⟩) = (ko ⟨vs, H⟩ res).bind (finish k raw H) := (rfl)
@[go_sem] theorem XV (res : List (Nat × Option (Nat × Bool))) (k raw : Nat) (vs : List D) (H : aq) : agA res k raw (.normal, ⟨vs, H⟩) = (ko ⟨vs, H⟩ res).bind (finish k raw H) := (rfl)
theorem XW{fs:Nat→Option Fn}{raw f:Nat}{args:List D}{H:aq}{fn:Fn}{r:D×aq}(hf:fs f=some fn)(hn:fn.aP=args.length)
 (h:(exS (pz fs) fn.body ⟨wP args fn.vars,H⟩).bind (agA fn.res H.length raw)=some r) (h0:fn.prim=[]:=by rfl):pz fs raw f args H=some r:=by
 obtain⟨p,hp,he⟩:=aLa.1 h
 exact Tm hf hn (Tq _ _ _ hp) he h0
@[go_sem] theorem agC {α β : Type} (c : Prop) [Decidable c] (a b : Option α) (k : α → Option β) : (if c then a else b).bind k = if c then a.bind k else b.bind k := by
 split<;>rfl
theorem agD(a b:Int):(a==b)=decide (a=b):=by rw[Bool.eq_iff_iff];simp
theorem xD{n:Int}(h1: -9223372036854775808≤n)(h2:n≤9223372036854775807):IntKind.i64.wrap n=n:=by
 have e:IntKind.i64.wrap n=if n % 18446744073709551616≥9223372036854775808 then n % 18446744073709551616-18446744073709551616 else n % 18446744073709551616:=by
  simp[IntKind.wrap,IntKind.signed,IntKind.bits]
 rw[e];split<;>omega
section
variable {α β : Type}
@[go_sem] theorem XX (a : α) (f : α → Option β) : (some a).bind f = f a := (rfl)
@[go_sem] theorem abf (a : α) (f : α → β) : (some a).map f = some (f a) := (rfl)
@[go_sem] theorem abg (a : α) (l : List α) (f : α → β) : (a :: l).map f = f a :: l.map f := (rfl)
@[go_sem] theorem adU (f : α → β) : ([] : List α).map f = [] := (rfl)
@[go_sem] theorem abh (a : α) (l : List α) : (a :: l)[0]? = some a := (rfl)
@[go_sem] theorem abi (a : α) (l : List α) (n : Nat) : (a :: l)[n + 1]? = l[n]? := (rfl)
@[go_sem] theorem XY (a d : α) (l : List α) : (a :: l).getD 0 d = a := (rfl)
@[go_sem] theorem XZ (a d : α) (l : List α) (n : Nat) : (a :: l).getD (n + 1) d = l.getD n d := (rfl)
@[go_sem] theorem abj (d : α) (n : Nat) : ([] : List α).getD n d = d := by simp
@[go_sem] theorem abk (a b : α) (l : List α) : (a :: l).set 0 b = b :: l := (rfl)
@[go_sem] theorem abl (a b : α) (l : List α) (n : Nat) : (a :: l).set (n + 1) b = a :: l.set n b := (rfl)
@[go_sem] theorem Tt (a : α) (l m : List α) : (a :: l) ++ m = a :: (l ++ m) := (rfl)
@[go_sem] theorem VK (l : List α) : [] ++ l = l := (rfl)
@[go_sem] theorem VL (l : List α) : l ++ [] = l := by simp
@[go_sem] theorem VM : ([] : List α).length = 0 := (rfl)
@[go_sem] theorem Tu (a : α) (l : List α) : (a :: l).length = l.length + 1 := (rfl)
@[go_sem] theorem VN (l : List α) (f : α → β) : (l.map f).length = l.length := by simp
@[go_sem] theorem Py (l m : List α) : (l ++ m).length = l.length + m.length := by simp
@[go_sem] theorem VO (l : List α) (i : Nat) (a : α) : (l.set i a).length = l.length := by simp
@[go_sem] theorem X0 (l : List α) : l.drop 0 = l := (rfl)
@[go_sem] theorem X1 (a : α) (l : List α) (n : Nat) : (a :: l).drop (n + 1) = l.drop n := (rfl)
@[go_sem] theorem abm (n : Nat) : ([] : List α).drop n = [] := by simp
@[go_sem] theorem X2 (l : List α) : l.take 0 = [] := (rfl)
@[go_sem] theorem X3 (a : α) (l : List α) (n : Nat) : (a :: l).take (n + 1) = a :: l.take n := (rfl)
@[go_sem] theorem abn (n : Nat) : ([] : List α).take n = [] := by simp
@[go_sem] theorem X4 (a b : α) : (bif true then a else b) = a := (rfl)
@[go_sem] theorem VP (a b : α) : (bif false then a else b) = b := (rfl)
@[go_sem] theorem abo (n : Nat) : n + 0 = n := (rfl)
@[go_sem] theorem abp (n : Nat) : 0 + n = n := by simp
@[go_sem] theorem abq (a b : α) : (some a = some b) = (a = b) := by simp
@[go_sem] theorem agE (a : α) : (some a).isSome = true := (rfl)
end
attribute [go_sem] decide_true decide_false if_true if_false aLt Bool.true_eq_false decide_eq_true_eq decide_eq_false_iff_not aLr Bool.or_eq_true Bool.not_eq_true' Bool.not_eq_true Bool.not_eq_false
 Bool.and_true Bool.true_and Bool.and_false Bool.false_and Bool.or_true Bool.true_or Bool.or_false Bool.false_or and_true true_and and_self not_true_eq_false not_false_eq_true beq_iff_eq bne_iff_ne ne_eq
@[go_sem] theorem abr : (!true) = false := (rfl)
@[go_sem] theorem X5 : (!false) = true := (rfl)
@[go_sem] theorem alj (vs L : List D) (j : Nat) : X.get vs L (.v j) = vs[j]? := (rfl)
@[go_sem] theorem alk (vs L : List D) (k : Nat) : X.get vs L (.l k) = L[k]? := (rfl)
@[go_sem] theorem alm (vs L : List D) (d : D) : X.get vs L (.c d) = some d := (rfl)
@[go_sem] theorem aln (vs L : List D) (n : Int) : X.get vs L (.i n) = some (I n) := (rfl)
@[go_sem] theorem alo (vs L : List D) (x : Bool) : X.get vs L (.b x) = some (B x) := (rfl)
@[go_sem] theorem aio (vs : List D) (x : D) : wr vs none x = vs := (rfl)
@[go_sem] theorem aip (vs : List D) (s : Nat) (x : D) : wr vs (some s) x = vs.set s x := (rfl)
@[go_sem] theorem abt (args : List D) : wP args [] = [] := (rfl)
@[go_sem] theorem X6 (args : List D) (s : Nat) (r : List Nat) : wP args (s :: r) = args.getD s .und :: wP args r := (rfl)
def aiq(H:aq)(d:D):Option (D×aq):=some (d,H)
@[go_sem] theorem air (H : aq) (d : D) : aiq H d = some (d, H) := (rfl)
def nC{α:Type}(a:α)(l:Option (List α)):Option (List α):=l.map (a:: ·)
@[go_sem] theorem abu {α : Type} (a : α) (l : List α) : nC a (some l) = some (a :: l) := (rfl)
@[go_sem] theorem abv {α : Type} (a : α) : nC a none = none := (rfl)
@[go_sem] theorem agF {α β : Type} (f : α → Option β) : cD f [] = some [] := (rfl)
def akx{α β:Type}(f:α→Option β)(r:List α)(y:β):Option (List β):=nC y (cD f r)
@[go_sem] theorem X7 {α β : Type} (f : α → Option β) (r : List α) (y : β) : akx f r y = nC y (cD f r) := (rfl)
@[go_sem] theorem Hp {α β : Type} (f : α → Option β) (x : α) (r : List α) : cD f (x :: r) = (f x).bind (akx f r) := (rfl)
section
variable (call : aW) (get : X → Option D) (H : aq)
@[go_sem] theorem alp (x : X) : evO call get H (.mv x) = (get x).bind (aiq H) := by simp only [evO]; cases get x <;> rfl
def agG(c a b:Option D):Option (D×aq):=c.bind fun c=>a.bind fun a=>b.bind fun b=>(S5 c a b).map fun d=>(d,H)
@[go_sem] theorem alq (c a b : X) : evO call get H (.pk c a b) = agG H (get c) (get a) (get b) := (rfl)
@[go_sem] theorem adV (x p q : Bool) : agG H (some (.t (.bool x))) (some (.t (.bool p))) (some (.t (.bool q))) = some (.t (.bool (bif x then p else q)), H) := by cases x <;> rfl
@[go_sem] theorem adW (a b : D) : agG H (some (.t (.bool true))) (some a) (some b) = some (a, H) := (rfl)
@[go_sem] theorem abw (a b : D) : agG H (some (.t (.bool false))) (some a) (some b) = some (b, H) := (rfl)
def pA(f:BinOp)(x y:Option D):Option (D×aq):=x.bind fun a=>y.bind fun b=>(Ja f a b).map fun d=>(d,H)
@[go_sem] theorem aky (f : BinOp) (x y : X) : evO call get H (.bin f x y) = pA H f (get x) (get y) := (rfl)
section
variable (k j : IntKind) (a b : Int)
@[go_sem] theorem adX : pA H .add (some (.t (.int k a))) (some (.t (.int k b))) = some (.t (.int k (k.wrap (a + b))), H) := by simp [pA, Ja, MA]
@[go_sem] theorem adY : pA H .sub (some (.t (.int k a))) (some (.t (.int k b))) = some (.t (.int k (k.wrap (a - b))), H) := by simp [pA, Ja, MA]
@[go_sem] theorem adZ : pA H .mul (some (.t (.int k a))) (some (.t (.int k b))) = some (.t (.int k (k.wrap (a * b))), H) := by simp [pA, Ja, MA]
@[go_sem] theorem ad0 : pA H .quo (some (.t (.int k a))) (some (.t (.int k b))) = if b = 0 then none else some (.t (.int k (k.wrap (a.tdiv b))), H) := by simp only [pA, Ja, MA]; by_cases h : b = 0 <;> simp [h]
@[go_sem] theorem ad1 : pA H .rem (some (.t (.int k a))) (some (.t (.int k b))) = if b = 0 then none else some (.t (.int k (a.tmod b)), H) := by simp only [pA, Ja, MA]; by_cases h : b = 0 <;> simp [h]
@[go_sem] theorem ad2 : pA H .eql (some (.t (.int k a))) (some (.t (.int k b))) = some (.t (.bool (decide (a = b))), H) := by simp [pA, Ja, MA, agD]
@[go_sem] theorem ad3 : pA H .neq (some (.t (.int k a))) (some (.t (.int k b))) = some (.t (.bool (decide (¬ a = b))), H) := by simp [pA, Ja, MA, bne, agD]
@[go_sem] theorem ad4 : pA H .lss (some (.t (.int k a))) (some (.t (.int k b))) = some (.t (.bool (decide (a < b))), H) := by simp [pA, Ja, MA]
@[go_sem] theorem ad5 : pA H .leq (some (.t (.int k a))) (some (.t (.int k b))) = some (.t (.bool (decide (a ≤ b))), H) := by simp [pA, Ja, MA]
@[go_sem] theorem ad6 : pA H .gtr (some (.t (.int k a))) (some (.t (.int k b))) = some (.t (.bool (decide (b < a))), H) := by simp [pA, Ja, MA]
@[go_sem] theorem ad7 : pA H .geq (some (.t (.int k a))) (some (.t (.int k b))) = some (.t (.bool (decide (b ≤ a))), H) := by simp [pA, Ja, MA]
def ais(f:UnOp)(a:D):Option (D×aq):=(unD f a).map fun d=>(d,H)
@[go_sem] theorem alr (f : UnOp) (x : X) : evO call get H (.un f x) = (get x).bind (ais H f) := (rfl)
@[go_sem] theorem agH (x : Bool) : ais H .not (.t (.bool x)) = some (.t (.bool (!x)), H) := (rfl)
@[go_sem] theorem agI : ais H .neg (.t (.int k a)) = some (.t (.int k (k.wrap (0 - a))), H) := (rfl)
end
def Hq(q:EqK)(neg:Bool)(x y:Option D):Option (D×aq):=x.bind fun a=>y.bind fun b=>(aa2 q neg a b).map fun d=>(d,H)
@[go_sem] theorem akz (q : EqK) (neg : Bool) (x y : X) : evO call get H (.eqk q neg x y) = Hq H q neg (get x) (get y) := (rfl)
@[go_sem] theorem ad8 : Hq H .sl false (some (.t (.sl []))) (some .nil) = some (.ub, H) := (rfl)
theorem BN(es:List T)(h:es≠[]):Hq H .sl false (some (.t (.sl es))) (some .nil)=some (.t (.bool false),H):=by cases es<;>first | exact(h rfl).elim | rfl
def akA(a:D):Option (D×aq):=(agh a).map fun d=>(d,H)
@[go_sem] theorem als (x : X) : evO call get H (.nc x) = (get x).bind (akA H) := (rfl)
@[go_sem] theorem ait (id off : Nat) : akA H (.bp id off) = some (.bp id off, H) := (rfl)
def abx(off:Nat)(a:D):Option (D×aq):=(MB a off).map fun d=>(d,H)
@[go_sem] theorem alu (x : X) (off : Nat) : evO call get H (.fa x off) = (get x).bind (abx H off) := (rfl)
@[go_sem] theorem aiu (id o off : Nat) : abx H off (.bp id o) = some (.bp id (o + off), H) := (rfl)
@[go_sem] theorem aiv (id ep n i o off : Nat) : abx H off (.ap id ep n i o) = some (.ap id ep n i (o + off), H) := (rfl)
@[go_sem] theorem aiw (cs : List T) (off : Nat) : abx H off (.ep cs) = some (.ep (cs.drop off), H) := (rfl)
@[go_sem] theorem alv (cs : List D) : cut cs 0 0 = some [] := by simp [cut]
@[go_sem] theorem alw (c : D) (cs : List D) (n : Nat) : cut (c :: cs) 0 (n + 1) = nC c (cut cs 0 n) := by
 simp only[cut,nC];by_cases h:n≤cs.length<;>simp[h]
@[go_sem] theorem alx (c : D) (cs : List D) (off n : Nat) : cut (c :: cs) (off + 1) n = cut cs off n := by
 simp only[cut,List.length_cons,List.drop_succ_cons]
 by_cases h:off+n≤cs.length
 · rw[if_pos h,if_pos (by omega)]
 · rw[if_neg h,if_neg (by omega)]
def mkA(cs:List D):Option (List T)→D
 | some ts=> .t (.agg ts)
 | none=> .agg cs
@[go_sem] theorem agJ (cs : List D) (ts : List T) : mkA cs (some ts) = .t (.agg ts) := (rfl)
@[go_sem] theorem agK (cs : List D) : mkA cs none = .agg cs := (rfl)
@[go_sem] theorem agL (cs : List D) : xn cs = mkA cs (tV cs) := by unfold xn; cases tV cs <;> rfl
@[go_sem] theorem agM : tV [] = some [] := (rfl)
@[go_sem] theorem akB (x : T) (r : List D) : tV (.t x :: r) = nC x (tV r) := (rfl)
@[go_sem] theorem akC (r : List D) : tV (.nil :: r) = none := (rfl)
@[go_sem] theorem agN (a b c : Nat) (r : List D) : tV (.ref a b c :: r) = none := (rfl)
@[go_sem] theorem Tv (l : List T) : tV (l.map .t) = some l := by induction l with | nil => rfl | cons a l ih => simp [tV, ih]
def aix(off n:Nat)(agg:Bool)(a:D):Option (D×aq):=(B4 a off n agg).map fun d=>(d,H)
@[go_sem] theorem aly (x : X) (off n : Nat) (agg : Bool) : evO call get H (.fl x off n agg) = (get x).bind (aix H off n agg) := (rfl)
def ofC(agg:Bool)(cs:Option (List D)):Option (D×aq):=(cs.bind (iE agg)).bind (aiq H)
@[go_sem] theorem alz (c : D) : ofC H false (some [c]) = some (c, H) := (rfl)
@[go_sem] theorem alA (cs : List D) : ofC H true (some cs) = some (xn cs, H) := (rfl)
@[go_sem] theorem agO (cs : List D) (off n : Nat) (agg : Bool) : aix H off n agg (.agg cs) = ofC H agg (cut cs off n) := by
 simp only[aix,B4,D.isAgg,if_true,D.cells,ofC];cases (cut cs off n).bind (iE agg)<;>rfl
theorem X8{i:Int}(h:0≤i):idx i=some i.toNat:=by simp[idx,h]
def X9(sz:Nat)(x i:Option D):Option (D×aq):=x.bind fun a=>(i.bind intOf).bind fun n=>(EW H a n sz).map fun d=>(d,H)
@[go_sem] theorem alB (x i : X) (sz : Nat) : evO call get H (.ia x i sz) = X9 H sz (get x) (get i) := (rfl)
def VQ(sz:Nat)(e:T):Option (D×aq):=if e.cells.length=sz then some (.ep e.cells,H)else none
def aiy(sz:Nat)(es:List T)(j:Nat):Option (D×aq):=es[j]?.bind (VQ H sz)
@[go_sem] theorem aiz (sz : Nat) (es : List T) (j : Nat) : aiy H sz es j = es[j]?.bind (VQ H sz) := (rfl)
@[go_sem] theorem aiA (k : IntKind) (es : List T) (n : Int) (sz : Nat) : X9 H sz (some (.t (.sl es))) (some (.t (.int k n))) = (idx n).bind (aiy H sz es) := by
 simp only[X9,aLq,intOf,EW]
 cases idx n with
 | none=>rfl
 | some j=>
   simp only[aLq,aiy]
   cases es[j]? with
   | none=>rfl
   | some e=>simp only[aLq,VQ];split<;>rfl
@[go_sem] theorem agP (k : IntKind) (n : Int) : VQ H 1 (.int k n) = some (.ep [.int k n], H) := (rfl)
@[go_sem] theorem aiB (es : List T) : VQ H 1 (.sl es) = some (.ep [.sl es], H) := (rfl)
def qA{α:Type}:Nat→List α→Bool
 | 0,[]=>true
 | n+1,_::r=>qA n r
 | _,_=>false
@[go_sem] theorem aiC {α : Type} : qA 0 ([] : List α) = true := (rfl)
@[go_sem] theorem aiD {α : Type} (n : Nat) (a : α) (l : List α) : qA (n + 1) (a :: l) = qA n l := (rfl)
theorem im{α:Type}:∀ {n:Nat} {l:List α},qA n l=true↔l.length=n
 | 0,[]=>by simp[qA]
 | 0,_::_=>by simp[qA]
 | n+1,[]=>by simp[qA]
 | n+1,_::r=>by simp only[qA,List.length_cons,Nat.add_right_cancel_iff];exact im
@[go_sem] theorem agQ (cs : List T) (sz : Nat) : VQ H sz (.agg cs) = if qA sz cs = true then some (.ep cs, H) else none := by
 by_cases h:cs.length=sz
 · rw[VQ,if_pos (show(T.agg cs).cells.length=sz from h),if_pos (im.2 h)];rfl
 · rw[VQ,if_neg (show ¬(T.agg cs).cells.length=sz from h),if_neg fun e=>h (im.1 e)]
def Ya(sz id ep n j:Nat):Option Obj→Option (D×aq)
 | some (.arr sz' _ ep' es)=>if ep=ep'∧n=es.length then(if j<n∧sz'=sz then some (.ap id ep n j 0,H)else none)else none
 | _=>none
@[go_sem] theorem agR (k : IntKind) (id ep n : Nat) (i : Int) (sz : Nat) : X9 H sz (some (.ref id ep n)) (some (.t (.int k i))) = (idx i).bind fun j => Ya H sz id ep n j H[id]? := by
 simp only[X9,aLq,intOf,EW]
 cases idx i with
 | none=>rfl
 | some j=>
   simp only[aLq,jc]
   generalize H[id]?=o
   rcases o with _ | (_ | ⟨sz',pin,ep',es⟩)
   · rfl
   · rfl
   · simp only[Ya]
     by_cases h:ep=ep'∧n=es.length
     · rw[if_pos h,if_pos h,aLq];split<;>rfl
     · rw[if_neg h,if_neg h];rfl
@[go_sem] theorem ad9 (sz id ep n j sz' : Nat) (pin : Bool) (ep' : Nat) (es : List D) : Ya H sz id ep n j (some (.arr sz' pin ep' es)) =
 if ep=ep'∧n=es.length then(if j<n∧sz'=sz then some (.ap id ep n j 0,H)else none)else none:=(rfl)
def Yb(sz id ep n lo hi j:Nat):Option Obj→Option (D×aq)
 | some (.arr sz' _ ep' es)=>if ep=ep'∧n=es.length then(if lo+j<hi∧hi≤n∧sz'=sz then some (.ap id ep n (lo+j) 0,H)else none)else none
 | _=>none
@[go_sem] theorem agS (k : IntKind) (id ep n lo hi : Nat) (i : Int) (sz : Nat) : X9 H sz (some (.sub id ep n lo hi)) (some (.t (.int k i))) = (idx i).bind fun j => Yb H sz id ep n lo hi j H[id]? := by
 simp only[X9,aLq,intOf,EW]
 cases idx i with
 | none=>rfl
 | some j=>
   simp only[aLq,jc]
   generalize H[id]?=o
   rcases o with _ | (_ | ⟨sz',pin,ep',es⟩)
   · rfl
   · rfl
   · simp only[Yb]
     by_cases h:ep=ep'∧n=es.length
     · rw[if_pos h,if_pos h,aLq];split<;>rfl
     · rw[if_neg h,if_neg h];rfl
@[go_sem] theorem aea (sz id ep n lo hi j sz' : Nat) (pin : Bool) (ep' : Nat) (es : List D) : Yb H sz id ep n lo hi j (some (.arr sz' pin ep' es)) =
 if ep=ep'∧n=es.length then(if lo+j<hi∧hi≤n∧sz'=sz then some (.ap id ep n (lo+j) 0,H)else none)else none:=(rfl)
def aiE(len sz:Nat)(agg:Bool)(x i:Option D):Option (D×aq):=x.bind fun a=>(i.bind intOf).bind fun n=>(idx n).bind fun j=>(GO a j len sz agg).map fun d=>(d,H)
def aiF(len sz:Nat)(agg:Bool)(a:D)(j:Nat):Option (D×aq):=(GO a j len sz agg).map fun d=>(d,H)
@[go_sem] theorem alC (x i : X) (len sz : Nat) (agg : Bool) : evO call get H (.ix x i len sz agg) = aiE H len sz agg (get x) (get i) := (rfl)
@[go_sem] theorem aiG (len sz : Nat) (agg : Bool) (a : D) (k : IntKind) (n : Int) : aiE H len sz agg (some a) (some (.t (.int k n))) = (idx n).bind (aiF H len sz agg a) := by
 simp only[aiE,aLq,intOf];cases idx n<;>rfl
def Yc(len sz:Nat)(x i:Option D):Option (D×aq):=x.bind fun a=>(i.bind intOf).bind fun n=>(idx n).bind fun j=>if j<len then(MB a (j*sz)).map fun d=>(d,H)else none
@[go_sem] theorem akD (x i : X) (len sz : Nat) : evO call get H (.iaa x i len sz) = Yc H len sz (get x) (get i) := (rfl)
def akE(len sz:Nat)(a:D)(j:Nat):Option (D×aq):=if j<len then abx H (j*sz) a else none
@[go_sem] theorem aiH (len sz : Nat) (a : D) (j : Nat) : akE H len sz a j = if j < len then abx H (j * sz) a else none := (rfl)
@[go_sem] theorem agT (len sz : Nat) (a : D) (k : IntKind) (n : Int) : Yc H len sz (some a) (some (.t (.int k n))) = (idx n).bind (akE H len sz a) := by
 simp only[Yc,aLq,intOf];cases idx n<;>rfl
def Sz(n:Nat)(agg:Bool)(a:D):Option (D×aq):=(zM H a n agg).map fun d=>(d,H)
@[go_sem] theorem alD (x : X) (n : Nat) (agg : Bool) : evO call get H (.ld x n agg) = (get x).bind (Sz H n agg) := (rfl)
def Tw(off n:Nat)(agg:Bool):Option Obj→Option (D×aq)
 | some (.box cs)=>ofC H agg (cut cs off n)
 | _=>none
@[go_sem] theorem agU (off n : Nat) (agg : Bool) (cs : List D) : Tw H off n agg (some (.box cs)) = ofC H agg (cut cs off n) := (rfl)
@[go_sem] theorem aiI (id off n : Nat) (agg : Bool) : Sz H n agg (.bp id off) = Tw H off n agg H[id]? := by
 simp only[Sz,zM]
 generalize H[id]?=o
 rcases o with _ | (cs | _)
 · rfl
 · simp only[Tw,ofC];cases (cut cs off n).bind (iE agg)<;>rfl
 · rfl
@[go_sem] theorem aiJ (cs : List T) (n : Nat) (agg : Bool) : Sz H n agg (.ep cs) = ofC H agg (cut (cs.map .t) 0 n) := by
 simp only[Sz,zM,ofC];cases (cut _ 0 n).bind (iE agg)<;>rfl
def agV(off n:Nat)(agg:Bool)(e:D):Option (D×aq):=ofC H agg (cut e.cells off n)
@[go_sem] theorem aiK (off n : Nat) (agg : Bool) (e : D) : agV H off n agg e = ofC H agg (cut e.cells off n) := (rfl)
def Yd(ep m i off n:Nat)(agg:Bool):Option Obj→Option (D×aq)
 | some (.arr _ _ ep' es)=>if ep=ep'∧m=es.length then es[i]?.bind (agV H off n agg)else none
 | _=>none
@[go_sem] theorem agW (ep m i off n : Nat) (agg : Bool) (sz : Nat) (pin : Bool) (ep' : Nat) (es : List D) :
 Yd H ep m i off n agg (some (.arr sz pin ep' es))=if ep=ep'∧m=es.length then es[i]?.bind (agV H off n agg)else none:=(rfl)
@[go_sem] theorem aiL (id ep m i off n : Nat) (agg : Bool) : Sz H n agg (.ap id ep m i off) = Yd H ep m i off n agg H[id]? := by
 simp only[Sz,zM,jc]
 generalize H[id]?=o
 rcases o with _ | (_ | ⟨sz',pin,ep',es⟩)
 · rfl
 · rfl
 · simp only[Yd]
   by_cases h:ep=ep'∧m=es.length
   · rw[if_pos h,if_pos h,aLq]
     cases es[i]? with
     | none=>rfl
     | some e=>simp only[aLq,agV,ofC];cases (cut e.cells off n).bind (iE agg)<;>rfl
   · rw[if_neg h,if_neg h];rfl
@[go_sem] theorem aby (cs : List D) : (D.agg cs).cells = cs := (rfl)
@[go_sem] theorem agX (x : T) : (D.t x).cells = x.cells.map .t := (rfl)
@[go_sem] theorem abz : D.nil.cells = [.nil] := (rfl)
@[go_sem] theorem abA (a b c : Nat) : (D.ref a b c).cells = [.ref a b c] := (rfl)
@[go_sem] theorem aeb (f : Nat) (cs : List D) : (D.fn f cs).cells = [.fn f cs] := (rfl)
@[go_sem] theorem abB (cs : List T) : (T.agg cs).cells = cs := (rfl)
@[go_sem] theorem abC (k : IntKind) (n : Int) : (T.int k n).cells = [.int k n] := (rfl)
@[go_sem] theorem Ye (b : Bool) : (T.bool b).cells = [.bool b] := (rfl)
@[go_sem] theorem aec (es : List T) : (T.sl es).cells = [.sl es] := (rfl)
def fits(n:Nat)(v:D):Bool:=decide (v.cells.length=n)&&v.kn
section
variable (n : Nat)
@[go_sem] theorem fits_int (k : IntKind) (a : Int) : fits 1 (.t (.int k a)) = true := (rfl)
@[go_sem] theorem fits_bool (b : Bool) : fits 1 (.t (.bool b)) = true := (rfl)
@[go_sem] theorem aiM (es : List T) : fits 1 (.t (.sl es)) = true := (rfl)
@[go_sem] theorem agY : fits 1 .nil = true := (rfl)
@[go_sem] theorem agZ (a b c : Nat) : fits 1 (.ref a b c) = true := (rfl)
@[go_sem] theorem aiN (f : Nat) (cs : List D) : fits 1 (.fn f cs) = true := (rfl)
@[go_sem] theorem ag0 (cs : List D) : fits n (.agg cs) = qA n cs := by rw [Bool.eq_iff_iff, im]; show (decide (cs.length = n) && true) = true ↔ _; simp
@[go_sem] theorem aed (cs : List T) : fits n (.t (.agg cs)) = qA n cs := by rw [Bool.eq_iff_iff, im]; simp [fits, D.cells, T.cells, D.kn]
end
@[go_sem] theorem Yf {α : Type} (cs : List α) : bA cs 0 [] = some cs := by simp [bA]
@[go_sem] theorem Yg {α : Type} (c x : α) (cs xs : List α) : bA (c :: cs) 0 (x :: xs) = nC x (bA cs 0 xs) := by
 simp only[bA,nC];by_cases h:xs.length≤cs.length<;>simp[h]
@[go_sem] theorem Yh {α : Type} (c : α) (cs : List α) (off : Nat) (xs : List α) : bA (c :: cs) (off + 1) xs = nC c (bA cs off xs) := by
 simp only[bA,nC,List.length_cons]
 by_cases h:off+xs.length≤cs.length
 · rw[if_pos h,if_pos (by omega)];simp[show off+1+xs.length=(off+xs.length)+1 by omega]
 · rw[if_neg h,if_neg (by omega)];rfl
def Yi(n:Nat)(live:List (Nat×Nat))(a x:Option D):Option (D×aq):=a.bind fun p=>x.bind fun d=>(AH H p d n).bind fun H'=>(si H' p live).map fun H''=>(.tup [],H'')
@[go_sem] theorem alE (a x : X) (n : Nat) (live : List (Nat × Nat)) : evO call get H (.st a x n live) = Yi H n live (get a) (get x) := (rfl)
def El(H:aq)(id:Nat)(live:List (Nat×Nat)):Option (D×aq):=(si H (.bp id 0) live).map fun H'=>(.tup [],H')
def Em(id:Nat)(live:List (Nat×Nat))(cs:List D):Option (D×aq):=El (H.set id (.box cs)) id live
@[go_sem] theorem aee (id : Nat) (live : List (Nat × Nat)) (cs : List D) : Em H id live cs = El (H.set id (.box cs)) id live := (rfl)
@[go_sem] theorem abD (H : aq) (id : Nat) : El H id [] = some (.tup [], H) := (rfl)
def Yj(id off:Nat)(live:List (Nat×Nat))(xs:List D):Option Obj→Option (D×aq)
 | some (.box cs)=>(bA cs off xs).bind (Em H id live)
 | _=>none
@[go_sem] theorem ag1 (id off : Nat) (live : List (Nat × Nat)) (xs cs : List D) : Yj H id off live xs (some (.box cs)) = (bA cs off xs).bind (Em H id live) := (rfl)
@[go_sem] theorem aiO (n id off : Nat) (live : List (Nat × Nat)) (v : D) : Yi H n live (some (.bp id off)) (some v) = if fits n v = true then Yj H id off live v.cells H[id]? else none := by
 by_cases h:fits n v=true
 case neg=>
  rw[if_neg h]
  simp only[fits,aLr,decide_eq_true_eq]at h
  simp only[Yi,aLq,AH,if_neg h];rfl
 rw[if_pos h]
 simp only[fits,aLr,decide_eq_true_eq]at h
 simp only[Yi,aLq,AH,h.1,h.2,and_self,if_true]
 generalize H[id]?=o
 rcases o with _ | (cs | _)
 · rfl
 · simp only[Yj]
   cases bA cs off v.cells with
   | none=>rfl
   | some cs'=>simp only[aLw,aLq,Em,El,si]
 · rfl
def MS(id sz ep i:Nat)(es:List D)(agg:Bool)(cs:List D):Option (D×aq):=(iE agg cs).bind fun e=>if e.kn then some (.tup [],H.set id (.arr sz false ep (es.set i e)))else none
def ag2(id sz ep i off:Nat)(es xs:List D)(e:D):Option (D×aq):=(bA e.cells off xs).bind (MS H id sz ep i es e.isAgg)
@[go_sem] theorem aiP (id sz ep i off : Nat) (es xs : List D) (e : D) : ag2 H id sz ep i off es xs e = (bA e.cells off xs).bind (MS H id sz ep i es e.isAgg) := (rfl)
@[go_sem] theorem abE (cs : List T) : (D.t (.agg cs)).isAgg = true := (rfl)
@[go_sem] theorem aef (k : IntKind) (n : Int) : (D.t (.int k n)).isAgg = false := (rfl)
@[go_sem] theorem abF (b : Bool) : (D.t (.bool b)).isAgg = false := (rfl)
@[go_sem] theorem aiQ (id sz ep i : Nat) (es : List D) (x : T) : MS H id sz ep i es false [.t x] = some (.tup [], H.set id (.arr sz false ep (es.set i (.t x)))) := (rfl)
theorem JF(cs:List D):(xn cs).kn=true:=by unfold xn;cases tV cs<;>rfl
@[go_sem] theorem aiR (id sz ep i : Nat) (es cs : List D) : MS H id sz ep i es true cs = some (.tup [], H.set id (.arr sz false ep (es.set i (xn cs)))) := by
 simp[MS,iE,JF]
def Yk(id ep m i off:Nat)(xs:List D):Option Obj→Option (D×aq)
 | some (.arr sz pin ep' es)=>if ep=ep'∧m=es.length then(if pin then none else es[i]?.bind (ag2 H id sz ep i off es xs))else none
 | _=>none
@[go_sem] theorem ag3 (id ep m i off : Nat) (xs : List D) (sz : Nat) (pin : Bool) (ep' : Nat) (es : List D) :
 Yk H id ep m i off xs (some (.arr sz pin ep' es))=if ep=ep'∧m=es.length then(if pin=true then none else es[i]?.bind (ag2 H id sz ep i off es xs))else none:=(rfl)
@[go_sem] theorem aiS (n id ep m i off : Nat) (v : D) : Yi H n [] (some (.ap id ep m i off)) (some v) = if fits n v = true then Yk H id ep m i off v.cells H[id]? else none := by
 by_cases h:fits n v=true
 case neg=>
  rw[if_neg h]
  simp only[fits,aLr,decide_eq_true_eq]at h
  simp only[Yi,aLq,AH,if_neg h];rfl
 rw[if_pos h]
 simp only[fits,aLr,decide_eq_true_eq]at h
 simp only[Yi,aLq,AH,h.1,h.2,and_self,if_true,jc]
 generalize H[id]?=o
 rcases o with _ | (_ | ⟨sz',pin,ep',es⟩)
 · rfl
 · rfl
 · simp only[Yk]
   by_cases h:ep=ep'∧m=es.length
   · rw[if_pos h,if_pos h,aLq]
     cases pin with
     | true=>rfl
     | false=>
       simp only[aLt,if_false]
       cases es[i]? with
       | none=>rfl
       | some e=>
         simp only[aLq,ag2]
         cases bA e.cells off v.cells with
         | none=>rfl
         | some cs'=>
           simp only[aLq,MS]
           cases iE e.isAgg cs' with
           | none=>rfl
           | some e'=>
             simp only[aLq]
             by_cases h3:e'.kn=true
             · rw[if_pos h3,if_pos h3,h.1];rfl
             · rw[if_neg h3,if_neg h3];rfl
   · rw[if_neg h,if_neg h];rfl
def Yl(zero:List D)(ps:List (Nat×Nat×D)):Option (D×aq):=(yn zero ps).map fun cs=>(xn cs,H)
@[go_sem] theorem alF (zero : List D) (parts : List (Nat × Nat × X)) : evO call get H (.bd zero parts) = (oQ get parts).bind (Yl H zero) := (rfl)
@[go_sem] theorem VR : oQ get [] = some [] := (rfl)
def aeg(off n:Nat)(r:List (Nat×Nat×X))(d:D):Option (List (Nat×Nat×D)):=nC (off,n,d) (oQ get r)
@[go_sem] theorem ag4 (off n : Nat) (r : List (Nat × Nat × X)) (d : D) : aeg get off n r d = nC (off, n, d) (oQ get r) := (rfl)
@[go_sem] theorem Tx (off n : Nat) (x : X) (r : List (Nat × Nat × X)) : oQ get ((off, n, x) :: r) = (get x).bind (aeg get off n r) := (rfl)
@[go_sem] theorem ag5 (zero : List D) : Yl H zero [] = some (xn zero, H) := (rfl)
def bdC(r:List (Nat×Nat×D))(z:List D):Option (D×aq):=Yl H z r
@[go_sem] theorem akF (r : List (Nat × Nat × D)) (z : List D) : bdC H r z = Yl H z r := (rfl)
@[go_sem] theorem aeh (zero : List D) (off n : Nat) (x : D) (r : List (Nat × Nat × D)) : Yl H zero ((off, n, x) :: r) = if fits n x = true then (bA zero off x.cells).bind (bdC H r) else none := by
 by_cases h:fits n x=true
 case neg=>
  rw[if_neg h]
  have h2:(x.kn&&x.cells.length==n)=false:=by rw[← Bool.not_eq_true,Bool.and_comm];simpa [fits]using h
  simp only[Yl,yn,h2];rfl
 rw[if_pos h]
 simp only[fits,aLr,decide_eq_true_eq]at h
 simp only[Yl,yn,h.1,h.2,beq_self_eq_true,Bool.and_self,if_true]
 cases bA zero off x.cells<;>rfl
def fE(n:Nat):List T→Bool
 | []=>true
 | x::r=>qA n x.cells&&fE n r
@[go_sem] theorem VS (n : Nat) : fE n [] = true := (rfl)
@[go_sem] theorem yN (n : Nat) (x : T) (r : List T) : fE n (x :: r) = (qA n x.cells && fE n r) := (rfl)
def Ov(sz:Nat)(ds:List D):Option (D×aq):=if ds.all (fun d=>d.cells.length==sz)then(cD (frz H depth) ds).map fun ts=>(.t (.sl ts),pins H (ds.flatMap (gT H depth)))else none
@[go_sem] theorem alG (xs : List X) (sz : Nat) : evO call get H (.bs xs sz) = (cD get xs).bind (Ov H sz) := (rfl)
theorem aei(sz:Nat)(ds:List D)(ts:List T)(h:tV ds=some ts)(hc:fE sz ts=true):Ov H sz ds=some (.t (.sl ts),H):=by
 have key:∀(ds:List D) (ts:List T),tV ds=some ts→fE sz ts=true→ds.all (fun d=>d.cells.length==sz)=true∧cD (frz H depth) ds=some ts∧ds.flatMap (gT H depth)=[]:=by
  intro ds
  induction ds with
  | nil=>intro ts h hc;simp[tV]at h;subst h;simp[cD]
  | cons d ds ih=>
    intro ts h hc
    cases d with
    | t x=>
      simp only[tV,aLb]at h
      obtain⟨r,hr,rfl⟩:=h
      simp only[fE,aLr,im]at hc
      obtain⟨h1,h2,h3⟩:=ih r hr hc.2
      refine⟨by rw[List.all_cons,h1,Bool.and_true];simp[D.cells,hc.1],by simp[cD,frz,h2],by rw[List.flatMap_cons,h3];simp[gT]⟩
    | _=>simp[tV]at h
 obtain⟨h1,h2,h3⟩:=key ds ts h hc
 simp[Ov,h1,h2,h3,pins]
theorem CD(sz:Nat)(ts:List T):Ov H sz (ts.map D.t)=if fE sz ts=true then some (.t (.sl ts),H)else none:=by
 by_cases h:fE sz ts=true
 · rw[if_pos h];exact aei H sz _ ts (Tv ts) h
 · rw[if_neg h]
   have:(ts.map D.t).all (fun d=>d.cells.length==sz)=false:=by
    rw[← Bool.not_eq_true];intro ha;apply h
    clear h
    induction ts with
    | nil=>rfl
    | cons a r ih=>
      simp only[List.map_cons,List.all_cons,aLr,beq_iff_eq]at ha
      simp only[fE,aLr,im]
      exact⟨by simpa [D.cells]using ha.1,ih ha.2⟩
   simp only[Ov,this];rfl
@[go_sem] theorem akG (sz : Nat) (a : T) : Ov H sz [.t a] = if fE sz [a] = true then some (.t (.sl [a]), H) else none := CD H sz [a]
@[go_sem] theorem akH (sz : Nat) (a b : T) : Ov H sz [.t a, .t b] = if fE sz [a, b] = true then some (.t (.sl [a, b]), H) else none := CD H sz [a, b]
@[go_sem] theorem akI (sz : Nat) (a b c : T) : Ov H sz [.t a, .t b, .t c] = if fE sz [a, b, c] = true then some (.t (.sl [a, b, c]), H) else none := CD H sz [a, b, c]
@[go_sem] theorem akJ (sz : Nat) (a b c d : T) : Ov H sz [.t a, .t b, .t c, .t d] = if fE sz [a, b, c, d] = true then some (.t (.sl [a, b, c, d]), H) else none := CD H sz [a, b, c, d]
@[go_sem] theorem akK (sz : Nat) (a b c d e : T) : Ov H sz [.t a, .t b, .t c, .t d, .t e] = if fE sz [a, b, c, d, e] = true then some (.t (.sl [a, b, c, d, e]), H) else none := CD H sz [a, b, c, d, e]
def aej(a:D):Option (D×aq):=(agd a).map fun(n:Nat)=>(D.t (.int .i64 (n:Int)),H)
@[go_sem] theorem alH (x : X) : evO call get H (.ln x) = (get x).bind (aej H) := (rfl)
@[go_sem] theorem aiT (es : List T) : aej H (.t (.sl es)) = some (I es.length, H) := (rfl)
@[go_sem] theorem ag6 : aej H .nil = some (I 0, H) := (rfl)
@[go_sem] theorem ag7 (id ep n : Nat) : aej H (.ref id ep n) = some (I n, H) := (rfl)
@[go_sem] theorem ag8 (id ep n lo hi : Nat) : aej H (.sub id ep n lo hi) = some (I ((hi - lo : Nat) : Int), H) := (rfl)
def aiU(ds:List D):Option (D×aq):=(age ds).map fun d=>(d,H)
def aiV(ds:List D):Option (D×aq):=(agf ds).map fun d=>(d,H)
@[go_sem] theorem alI (xs : List X) : evO call get H (.mn xs) = (cD get xs).bind (aiU H) := (rfl)
@[go_sem] theorem alJ (xs : List X) : evO call get H (.mx xs) = (cD get xs).bind (aiV H) := (rfl)
@[go_sem] theorem akL (k : IntKind) (a b : Int) : aiU H [.t (.int k a), .t (.int k b)] = some (.t (.int k (min a b)), H) := by
 simp only[aiU,age,GN,if_true,aLw];congr 4;omega
@[go_sem] theorem akM (k : IntKind) (a b : Int) : aiV H [.t (.int k a), .t (.int k b)] = some (.t (.int k (max a b)), H) := by
 simp only[aiV,agf,GN,if_true,aLw];congr 4;omega
def MT(sz:Nat)(x:Option D)(lo hi:Option (Option Int)):Option (D×aq):=x.bind fun a=>lo.bind fun l=>hi.bind fun h=>(tW H a l h sz).map fun d=>(d,H)
@[go_sem] theorem alK (x : X) (lo hi : Option X) (sz : Nat) : evO call get H (.sc x lo hi sz) = MT H sz (get x) (MC get lo) (MC get hi) := (rfl)
def aek:D→Option (Option Int)
 | .t (.int _ n)=>some (some n)
 | _=>none
@[go_sem] theorem ag9 (k : IntKind) (n : Int) : aek (.t (.int k n)) = some (some n) := (rfl)
@[go_sem] theorem ael : MC get none = some none := (rfl)
@[go_sem] theorem aem (x : X) : MC get (some x) = (get x).bind aek := by
 simp only[MC];cases get x with
 | none=>rfl
 | some d=>cases d with
   | t y=>cases y<;>rfl
   | _=>rfl
def aiW(i:Nat)(a:D):Option (D×aq):=(adl i a).map fun d=>(d,H)
@[go_sem] theorem alL (x : X) (i : Nat) : evO call get H (.ex x i) = (get x).bind (aiW H i) := (rfl)
def exO:Option D→Option (D×aq)
 | some d=>some (d,H)
 | none=>none
@[go_sem] theorem aha (d : D) : exO H (some d) = some (d, H) := (rfl)
@[go_sem] theorem ahb (i : Nat) (ds : List D) : aiW H i (.tup ds) = exO H ds[i]? := by simp only [aiW, adl, exO]; cases ds[i]? <;> rfl
def aiX(f:Nat)(ds:List D):Option (D×aq):=some (.fn f ds,H)
@[go_sem] theorem aiY (f : Nat) (ds : List D) : aiX H f ds = some (.fn f ds, H) := (rfl)
@[go_sem] theorem alM (f : Nat) (caps : List X) : evO call get H (.mf f caps) = (cD get caps).bind (aiX H f) := by simp only [evO, aiX]; cases cD get caps <;> rfl
@[go_sem] theorem alN (sz : Nat) : evO call get H (.nw sz) = some (.ref H.length 0 0, H ++ [.arr sz false 0 []]) := (rfl)
def alP(p:List D×aq):Option (D×aq):=some (.bp H.length 0,H++ .box p.1::p.2)
@[go_sem] theorem akN (cs : List D) (os : aq) : alP H (cs, os) = some (.bp H.length 0, H ++ .box cs :: os) := (rfl)
@[go_sem] theorem alO (zero : List D) (live : List (Nat × Nat)) : evO call get H (.al zero live) = alP H (cV (H.length + 1) zero live) := (rfl)
@[go_sem] theorem Ym (base : Nat) (cs : List D) : cV base cs [] = (cs, []) := (rfl)
def aiZ(n:Nat)(a:D):Option (D×aq):=if a.cells.length=n∧a.kn then some (.bp H.length 0,H++[.box a.cells])else none
@[go_sem] theorem alQ (x : X) (n : Nat) : evO call get H (.bx x n) = (get x).bind (aiZ H n) := (rfl)
@[go_sem] theorem ai0 (n : Nat) (a : D) : aiZ H n a = if fits n a = true then some (.bp H.length 0, H ++ [.box a.cells]) else none := by
 simp[aiZ,fits]
def ahc(sz:Nat)(zero:D)(n:Option Nat):Option (D×aq):=n.bind fun m=>if m≤lim then some (.ref H.length 0 m,H++[.arr sz false 0 (List.replicate m zero)])else none
def mkN(sz:Nat)(zero:D):D→Option (D×aq)
 | .t (.int _ n)=>ahc H sz zero (idx n)
 | _=>none
@[go_sem] theorem ai1 (sz : Nat) (zero : D) (k : IntKind) (n : Int) : mkN H sz zero (.t (.int k n)) = ahc H sz zero (idx n) := (rfl)
@[go_sem] theorem alR (len : X) (zero : D) (sz : Nat) : evO call get H (.mk len zero sz) = (get len).bind (mkN H sz zero) := by
 simp only[evO];cases get len with
 | none=>rfl
 | some d=>cases d with
   | t y=>cases y<;>rfl
   | _=>rfl
@[go_sem] theorem ai2 (sz : Nat) (zero : D) (m : Nat) (h : m ≤ 4294967296) : ahc H sz zero (some m) = some (.ref H.length 0 m, H ++ [.arr sz false 0 (List.replicate m zero)]) := by
 simp[ahc,lim,h]
def Ty(sz:Nat)(zero:T)(n:Option Nat):Option (D×aq):=n.bind fun m=>if m≤lim∧0<m then some (.ref H.length 0 m,H++[.arr sz false 0 (List.replicate m (.t zero))])else none
def akO(sz:Nat)(zero:T):D→Option (D×aq)
 | .t (.int _ n)=>Ty H sz zero (idx n)
 | _=>none
@[go_sem] theorem ahd (sz : Nat) (zero : T) (k : IntKind) (n : Int) : akO H sz zero (.t (.int k n)) = Ty H sz zero (idx n) := (rfl)
@[go_sem] theorem akP (len : X) (zero : T) (sz : Nat) : evO call get H (.mkn len zero sz) = (get len).bind (akO H sz zero) := by
 simp only[evO];cases get len with
 | none=>rfl
 | some d=>cases d with
   | t y=>cases y<;>rfl
   | _=>rfl
@[go_sem] theorem ahe (sz : Nat) (zero : T) (m : Nat) (h : m ≤ 4294967296) (h0 : 0 < m) : Ty H sz zero (some m) = some (.ref H.length 0 m, H ++ [.arr sz false 0 (List.replicate m (.t zero))]) := by
 simp[Ty,lim,h,h0]
def uA(sz:Nat)(fz:Bool)(x y:Option D):Option (D×aq):=x.bind fun a=>y.bind fun b=>qz H a b fz sz
@[go_sem] theorem akQ (x y : X) (fz : Bool) (sz : Nat) : evO call get H (.app x y fz sz) = uA H sz fz (get x) (get y) := (rfl)
def AV(sz id ep n:Nat)(ys:List D):Option Obj→Option (D×aq)
 | some (.arr sz' pin ep' es)=>if ep=ep'∧n=es.length∧sz'=sz∧n+ys.length≤lim then some (.ref id ep (n+ys.length),H.set id (.arr sz pin ep (es++ys)))else none
 | _=>none
@[go_sem] theorem aen (sz id ep n : Nat) (ys : List D) (pin : Bool) (es : List D) :
 AV H sz id ep n ys (some (.arr sz pin ep es))=if n=es.length then(if n+ys.length≤4294967296 then some (.ref id ep (n+ys.length),H.set id (.arr sz pin ep (es++ys)))else none)else none:=by
 simp only[AV,lim]
 by_cases h1:n=es.length
 · rw[if_pos h1]
   by_cases h2:n+ys.length≤4294967296
   · rw[if_pos h2,if_pos ⟨trivial,h1,trivial,h2⟩]
   · rw[if_neg h2,if_neg fun h=>h2 h.2.2.2]
 · rw[if_neg h1,if_neg fun h=>h1 h.2.1]
theorem BO(ts:List T):cD (fun d=>(frz H depth d).map D.t) (ts.map D.t)=some (ts.map D.t):=by
 induction ts with
 | nil=>rfl
 | cons t ts ih=>simp[cD,frz,ih]
theorem Pz(ts:List T):(ts.map D.t).flatMap (gT H depth)=[]:=by
 induction ts with
 | nil=>rfl
 | cons t ts ih=>rw[List.map_cons,List.flatMap_cons,ih];simp[gT,depth]
theorem Hr(sz:Nat)(fz:Bool)(x:D)(ts:List T)(h:fD sz (ts.map D.t)=false):uA H sz fz (some x) (some (.t (.sl ts)))=none:=by
 have e1:(if fz then cD (fun d=>(frz H depth d).map D.t) (ts.map D.t)else some (ts.map D.t))=some (ts.map D.t):=by
  cases fz<;>simp[BO]
 simp only[uA,aLq,qz,elems,e1,h,aLt,if_false]
def xE(sz:Nat)(ts:List T):Bool:=fD sz (ts.map D.t)
theorem PA(sz id ep n:Nat)(fz:Bool)(ts:List T)(h:xE sz ts=true):uA H sz fz (some (.ref id ep n)) (some (.t (.sl ts)))=AV H sz id ep n (ts.map .t) H[id]?:=by
 have e1:(if fz then cD (fun d=>(frz H depth d).map D.t) (ts.map D.t)else some (ts.map D.t))=some (ts.map D.t):=by
  cases fz<;>simp[BO]
 have e2:(if fz then pins H ((ts.map D.t).flatMap (gT H depth))else H)=H:=by
  cases fz
  · rfl
  · simp only[if_true];rw[Pz];rfl
 unfold xE at h
 simp only[uA,aLq,qz,elems,e1,h,if_true,e2,jc]
 generalize H[id]?=o
 rcases o with _ | (_ | ⟨sz',pin,ep',es⟩)
 · rfl
 · rfl
 · simp only[AV]
   by_cases h1:ep=ep'∧n=es.length
   · rw[if_pos h1,aLq]
     by_cases h2:sz'=sz∧n+(ts.map D.t).length≤lim
     · rw[if_pos h2,if_pos ⟨h1.1,h1.2,h2⟩]
     · rw[if_neg h2,if_neg fun h=>h2 h.2.2]
   · rw[if_neg h1,if_neg fun h=>h1 ⟨h.1,h.2.1⟩];rfl
@[go_sem] theorem aeo (sz id ep n : Nat) (fz : Bool) (ts : List T) : uA H sz fz (some (.ref id ep n)) (some (.t (.sl ts))) = if xE sz ts = true then AV H sz id ep n (ts.map .t) H[id]? else none := by
 by_cases h:xE sz ts=true
 · rw[if_pos h,PA H sz id ep n fz ts h]
 · rw[if_neg h];exact Hr H sz fz _ ts (by simpa [xE]using h)
@[go_sem] theorem aep (sz : Nat) (fz : Bool) (ts : List T) : uA H sz fz (some .nil) (some (.t (.sl ts))) =
 if xE sz ts=true then(if ts.length≤4294967296 then some (.ref H.length 0 ts.length,H++[.arr sz false 0 (ts.map .t)])else none)else none:=by
 by_cases h:xE sz ts=true
 · rw[if_pos h]
   have e1:(if fz then cD (fun d=>(frz H depth d).map D.t) (ts.map D.t)else some (ts.map D.t))=some (ts.map D.t):=by
    cases fz<;>simp[BO]
   have e2:(if fz then pins H ((ts.map D.t).flatMap (gT H depth))else H)=H:=by
    cases fz
    · rfl
    · simp only[if_true];rw[Pz];rfl
   unfold xE at h
   simp only[uA,aLq,qz,elems,e1,h,if_true,e2,lim,List.length_map]
 · rw[if_neg h];exact Hr H sz fz _ ts (by simpa [xE]using h)
@[go_sem] theorem aeq (sz : Nat) : xE sz [] = true := (rfl)
@[go_sem] theorem abG (sz : Nat) (x : T) (r : List T) : xE sz (x :: r) = qA sz x.cells := by
 rw[Bool.eq_iff_iff,im];simp[xE,fD,D.cells]
@[go_sem] theorem aer (l : List Int) (k : IntKind) : xE 1 (l.map (.int k)) = true := by cases l <;> rfl
def Lg(call:aW)(f raw:Nat)(keep:List Nat)(ds:List D):Option (D×aq):=yp call H f raw keep ds
@[go_sem] theorem alS (f raw : Nat) (keep : List Nat) (xs : List X) : evO call get H (.ca f raw keep xs) = (cD get xs).bind (Lg H call f raw keep) := (rfl)
def akR(call:aW)(raw:Nat)(keep:List Nat)(x:Option D)(xs:Option (List D)):Option (D×aq):=x.bind fun
 | .fn f caps=>xs.bind fun ds=>yp call H f raw keep (ds++caps)
 | _=>none
@[go_sem] theorem alT (x : X) (raw : Nat) (keep : List Nat) (xs : List X) : evO call get H (.cw x raw keep xs) = akR H call raw keep (get x) (cD get xs) := (rfl)
@[go_sem] theorem ai3 (raw : Nat) (keep : List Nat) (f : Nat) (caps ds : List D) : akR H call raw keep (some (.fn f caps)) (some ds) = Lg H call f raw keep (ds ++ caps) := (rfl)
def ue(H:aq):List D→Option (List T)
 | []=>some []
 | .t x::r=>nC x (ue H r)
 | .nil::r=>nC (.sl []) (ue H r)
 | _::_=>none
@[go_sem] theorem ai4 : ue H [] = some [] := (rfl)
@[go_sem] theorem ai5 (x : T) (r : List D) : ue H (.t x :: r) = nC x (ue H r) := (rfl)
@[go_sem] theorem aet (r : List D) : ue H (.nil :: r) = nC (.sl []) (ue H r) := (rfl)
@[go_sem] theorem ahf (a b : Nat) (r : List D) : ue H (.bp a b :: r) = none := (rfl)
@[go_sem] theorem aeu (a b c : Nat) (r : List D) : ue H (.ref a b c :: r) = none := (rfl)
@[go_sem] theorem ahg (f : Nat) (cs : List D) (r : List D) : ue H (.fn f cs :: r) = none := (rfl)
end
theorem xF(H:aq):∀ {ds:List D} {ts:List T},ue H ds=some ts→∀i,rC H [] i ds=some (ts.map .t)∧du H [] i ds=[]
 | [],ts,h,i=>by simp[ue]at h;subst h;exact⟨rfl,rfl⟩
 | d::r,ts,h,i=>by
   cases d with
   | t x=>
     simp only[ue,nC,aLb]at h
     obtain⟨l,hl,rfl⟩:=h
     obtain⟨h1,h2⟩:=xF H hl (i+1)
     exact⟨by simp[rC,yo,h1],by simp[du,gT,depth,h2]⟩
   | nil=>
     simp only[ue,nC,aLb]at h
     obtain⟨l,hl,rfl⟩:=h
     obtain⟨h1,h2⟩:=xF H hl (i+1)
     exact⟨by simp[rC,yo,h1],by simp[du,gT,depth,h2]⟩
   | _=>simp[ue]at h
theorem PB(ts:List T)(n:Nat):(ts.map D.t).flatMap (ids n)=[]:=by
 induction ts with
 | nil=>rfl
 | cons t ts ih=>rw[List.map_cons,List.flatMap_cons,ih];simp[ids]
theorem JG(f:Nat→Option Nat)(ts:List T):cD (ren f depth) (ts.map .t)=some (ts.map .t):=by
 induction ts with
 | nil=>rfl
 | cons t ts ih=>simp[cD,ren,depth]at ih ⊢;exact ih
def Bp:D→Bool
 | .t _=>true
 | .tup ds=>ds.all fun | .t _=>true | _=>false
 | _=>false
theorem Fk{f:Nat→Option Nat}{d:D}(h:Bp d=true):ren f depth d=some d:=by
 cases d with
 | t x=>rfl
 | tup ds=>
   simp only[Bp]at h
   have:cD (ren f 7) ds=some ds:=by
    induction ds with
    | nil=>rfl
    | cons d ds ih=>
      simp only[List.all_cons,aLr]at h
      cases d with
      | t x=>simp[cD,ren,ih h.2]
      | _=>simp at h
   simp[ren,depth,this]
 | _=>simp[Bp]at h
def Ab(H:aq)(p:D×aq):Option (D×aq):=if Bp p.1&&p.2.isEmpty then some (p.1,H)else
 (ren (dI [] H.length) depth p.1).bind fun r'=>(cD (gD (dI [] H.length)) p.2).map fun os=>(r',H++os)
@[go_sem] theorem ai6 (H : aq) (x : T) : Ab H (.t x, []) = some (.t x, H) := (rfl)
@[go_sem] theorem ai7 (H : aq) (x y : T) : Ab H (.tup [.t x, .t y], []) = some (.tup [.t x, .t y], H) := (rfl)
@[go_sem] theorem ai8 (H : aq) (x y z : T) : Ab H (.tup [.t x, .t y, .t z], []) = some (.tup [.t x, .t y, .t z], H) := (rfl)
@[go_sem] theorem ai9 (H : aq) (x y z u : T) : Ab H (.tup [.t x, .t y, .t z, .t u], []) = some (.tup [.t x, .t y, .t z, .t u], H) := (rfl)
theorem PC(H:aq)(call:aW)(f raw:Nat)(ds:List D)(ts:List T)(h:ue H ds=some ts):
 Lg H call f raw [] ds=(call raw f (ts.map .t) []).bind (Ab H):=by
 obtain⟨h1,h2⟩:=xF H h 0
 simp only[Lg,yp,h1,aLq,PB,fp,reach,lN,List.flatMap_nil,h2,pins,JG,pick,cD]
 cases hc:call raw f (ts.map .t) []with
 | none=>rfl
 | some p=>
   obtain⟨d,os⟩:=p
   simp only[aLq,List.isEmpty_nil,Bool.true_and,Ab]
   by_cases h3:os=[]
   · subst h3
     simp only[List.isEmpty_nil,Bool.true_and,Bool.and_true,cD,aLw,List.length_nil,List.take_nil,eh,List.drop_nil,List.append_nil]
     by_cases h4:Bp d=true
     · rw[if_pos h4]
       split
       · rfl
       · rw[Fk h4];rfl
     · rw[if_neg h4]
       split
       · rename_i h5
         exfalso
         apply h4
         cases d with
         | t x=>rfl
         | tup ds=>
           simp only[uo,aLx]at h5
           simp only[Bp,aLx]
           intro y hy
           have:=h5 y hy
           cases y<;>simp_all [pw]
         | _=>simp[uo]at h5
       · rfl
   · have:os.isEmpty=false:=by cases os<;>simp_all
     simp only[this,Bool.false_and,Bool.and_false,if_false,aLt,List.length_nil,List.take_zero,eh,List.drop_zero]
@[go_sem] theorem abH (st : St) : ko st [] = some [] := (rfl)
def akS(st:St)(r:List (Nat×Option (Nat×Bool)))(d:D):Option (List D):=nC d (ko st r)
@[go_sem] theorem aja (vs : List D) (H : aq) (r : List (Nat × Option (Nat × Bool))) (d : D) : akS ⟨vs, H⟩ r d = nC d (ko ⟨vs, H⟩ r) := (rfl)
@[go_sem] theorem abI (vs : List D) (H : aq) (j : Nat) (r : List (Nat × Option (Nat × Bool))) : ko ⟨vs, H⟩ ((j, none) :: r) = vs[j]?.bind (akS ⟨vs, H⟩ r) := (rfl)
def ajb(st:St)(r:List (Nat×Option (Nat×Bool)))(p:D×aq):Option (List D):=nC p.1 (ko st r)
@[go_sem] theorem ajc (vs : List D) (H : aq) (r : List (Nat × Option (Nat × Bool))) (d : D) (H' : aq) : ajb ⟨vs, H⟩ r (d, H') = nC d (ko ⟨vs, H⟩ r) := (rfl)
def ajd(st:St)(n:Nat)(agg:Bool)(r:List (Nat×Option (Nat×Bool)))(p:D):Option (List D):=(Sz st.H n agg p).bind (ajb st r)
@[go_sem] theorem aje (vs : List D) (H : aq) (n : Nat) (agg : Bool) (r : List (Nat × Option (Nat × Bool))) (p : D) : ajd ⟨vs, H⟩ n agg r p = (Sz H n agg p).bind (ajb ⟨vs, H⟩ r) := (rfl)
@[go_sem] theorem Yn (vs : List D) (H : aq) (j n : Nat) (agg : Bool) (r : List (Nat × Option (Nat × Bool))) : ko ⟨vs, H⟩ ((j, some (n, agg)) :: r) = vs[j]?.bind (ajd ⟨vs, H⟩ n agg r) := by
 simp only[ko]
 cases vs[j]? with
 | none=>rfl
 | some p=>
   simp only[aLq,ajd,Sz]
   cases zM H p n agg<;>rfl
@[go_sem] theorem aev (H : aq) (n : Nat) (x : T) : frz H n (.t x) = some x := by cases n <;> rfl
@[go_sem] theorem ajf (H : aq) (n : Nat) : frz H n .nil = some (.sl []) := by cases n <;> rfl
@[go_sem] theorem ajg (H : aq) (n : Nat) (cs : List D) : frz H (n + 1) (.agg cs) = (cD (frz H n) cs).map .agg := (rfl)
@[go_sem] theorem abJ (H : aq) (n : Nat) (ts : List T) : cD (frz H n) (ts.map .t) = some ts := by
 induction ts with
 | nil=>rfl
 | cons t ts ih=>simp[cD,aev,ih]
def frR(H:aq)(n ep m:Nat):Option Obj→Option T
 | some (.arr _ _ ep' es)=>if ep=ep'∧m=es.length then(cD (frz H n) es).map .sl else none
 | _=>none
@[go_sem] theorem ajh (H : aq) (n id ep m : Nat) : frz H (n + 1) (.ref id ep m) = frR H n ep m H[id]? := by
 simp only[frz,jc]
 generalize H[id]?=o
 rcases o with _ | (_ | ⟨sz',pin,ep',es⟩)
 · rfl
 · rfl
 · simp only[frR]
   by_cases h:ep=ep'∧m=es.length
   · rw[if_pos h,if_pos h];rfl
   · rw[if_neg h,if_neg h];rfl
@[go_sem] theorem aji (H : aq) (n ep m sz : Nat) (pin : Bool) (es : List D) : frR H n ep m (some (.arr sz pin ep es)) = if m = es.length then (cD (frz H n) es).map .sl else none := by simp [frR]
@[go_sem] theorem aew (H : aq) (x : T) : yo H (.t x) = some (.t x) := (rfl)
@[go_sem] theorem ahh (H : aq) : yo H .nil = some (.t (.sl [])) := (rfl)
@[go_sem] theorem ahi (H : aq) (cs : List D) : yo H (.agg cs) = (frz H 8 (.agg cs)).map .t := (rfl)
@[go_sem] theorem ahj (H : aq) (id ep n : Nat) : yo H (.ref id ep n) = (frz H 8 (.ref id ep n)).map .t := (rfl)
@[go_sem] theorem Yo (H : aq) (id off : Nat) : yo H (.bp id off) = some (.bp id off) := (rfl)
@[go_sem] theorem ajj (H : aq) (f : Nat) (cs : List D) : yo H (.fn f cs) = some (.fn f cs) := (rfl)
def ltB:Nat→Nat→Bool
 | _,0=>false
 | 0,_+1=>true
 | m+1,n+1=>ltB m n
@[go_sem] theorem alU (m : Nat) : ltB m 0 = false := by cases m <;> rfl
@[go_sem] theorem akT (n : Nat) : ltB 0 (n + 1) = true := (rfl)
@[go_sem] theorem akU (m n : Nat) : ltB (m + 1) (n + 1) = ltB m n := (rfl)
theorem uC:∀ {m n:Nat},ltB m n=decide (m<n)
 | m,0=>by cases m<;>simp[ltB]
 | 0,n+1=>by simp[ltB]
 | m+1,n+1=>by simp[ltB,uC (m:=m) (n:=n)]
def eqB:Nat→Nat→Bool
 | 0,0=>true
 | m+1,n+1=>eqB m n
 | _,_=>false
@[go_sem] theorem akV : eqB 0 0 = true := (rfl)
@[go_sem] theorem akW (n : Nat) : eqB 0 (n + 1) = false := (rfl)
@[go_sem] theorem akX (n : Nat) : eqB (n + 1) 0 = false := (rfl)
@[go_sem] theorem akY (m n : Nat) : eqB (m + 1) (n + 1) = eqB m n := (rfl)
theorem JH:∀ {m n:Nat},eqB m n=decide (m=n)
 | 0,0=>rfl
 | 0,n+1=>rfl
 | m+1,0=>rfl
 | m+1,n+1=>by simp[eqB,JH (m:=m) (n:=n)]
section
variable (k n : Nat)
@[go_sem] theorem ajk (x : T) : old k n (.t x) = true := by cases n <;> rfl
@[go_sem] theorem ajl : old k n .nil = true := by cases n <;> rfl
@[go_sem] theorem ajm : old k n .und = true := by cases n <;> rfl
@[go_sem] theorem aex (id off : Nat) : old k n (.bp id off) = ltB id k := by cases n <;> simp [old, uC]
@[go_sem] theorem ajn (id ep m : Nat) : old k n (.ref id ep m) = ltB id k := by cases n <;> simp [old, uC]
@[go_sem] theorem ajo (id ep m lo hi : Nat) : old k n (.sub id ep m lo hi) = ltB id k := by cases n <;> simp [old, uC]
def jM(n:Nat)(cs:List D):Bool:=cs.all (old k n)
@[go_sem] theorem abK : jM k n [] = true := (rfl)
@[go_sem] theorem JI (d : D) (r : List D) : jM k n (d :: r) = (old k n d && jM k n r) := (rfl)
@[go_sem] theorem Tz (ts : List T) : jM k n (ts.map .t) = true := by
 induction ts with
 | nil=>rfl
 | cons t ts ih=>rw[List.map_cons,JI,ajk,ih];rfl
@[go_sem] theorem abL (a b : List D) : jM k n (a ++ b) = (jM k n a && jM k n b) := by simp [jM]
@[go_sem] theorem ajp (cs : List D) : old k (n + 1) (.agg cs) = jM k n cs := (rfl)
@[go_sem] theorem akZ (f : Nat) (cs : List D) : old k (n + 1) (.fn f cs) = jM k n cs := (rfl)
end
def iF(k:Nat):aq→Bool
 | []=>true
 | .box cs::r=>jM k 8 cs&&iF k r
 | .arr _ _ _ es::r=>jM k 8 es&&iF k r
@[go_sem] theorem Yp (k : Nat) : iF k [] = true := (rfl)
@[go_sem] theorem Yq (k : Nat) (cs : List D) (r : aq) : iF k (.box cs :: r) = (jM k 8 cs && iF k r) := (rfl)
@[go_sem] theorem Yr (k sz ep : Nat) (pin : Bool) (es : List D) (r : aq) : iF k (.arr sz pin ep es :: r) = (jM k 8 es && iF k r) := (rfl)
theorem pc(k:Nat)(H:aq):H.all (fun o=>o.ds.all (old k depth))=iF k H:=by
 induction H with
 | nil=>rfl
 | cons o r ih=>rw[List.all_cons,ih];cases o<;>rfl
def aey(d:D)(b:Bool):D:=if b then d else .und
@[go_sem] theorem abM (d : D) : aey d true = d := (rfl)
@[go_sem] theorem ajq (k : Nat) (d : D) : kill k d = aey d (old k 8 d) := (rfl)
def MU(k:Nat):List D→List D
 | []=>[]
 | d::r=>kill k d::MU k r
@[go_sem] theorem aez (k : Nat) : MU k [] = [] := (rfl)
@[go_sem] theorem abN (k : Nat) (d : D) (r : List D) : MU k (d :: r) = kill k d :: MU k r := (rfl)
theorem TA(k:Nat)(vs:List D):vs.map (kill k)=MU k vs:=by
 induction vs with
 | nil=>rfl
 | cons d r ih=>rw[List.map_cons,ih];rfl
@[go_sem] theorem ahk (k : Nat) (vs : List D) (H : aq) : MD k ⟨vs, H⟩ = if iF k (H.take k) = true then some ⟨MU k vs, H.take k⟩ else none := by
 simp only[MD,pc,TA]
@[go_sem] theorem PD (H : aq) (n : Nat) (x : T) : gT H n (.t x) = [] := by cases n <;> rfl
@[go_sem] theorem ahl (H : aq) (n : Nat) : gT H n .nil = [] := by cases n <;> rfl
@[go_sem] theorem Ys (H : aq) (n id off : Nat) : gT H n (.bp id off) = [] := by cases n <;> rfl
@[go_sem] theorem ajr (H : aq) (n f : Nat) (cs : List D) : gT H n (.fn f cs) = [] := by cases n <;> rfl
def Ac(H:aq)(n:Nat)(cs:List D):List Nat:=cs.flatMap (gT H n)
@[go_sem] theorem aeA (H : aq) (n : Nat) : Ac H n [] = [] := (rfl)
@[go_sem] theorem MV (H : aq) (n : Nat) (d : D) (r : List D) : Ac H n (d :: r) = gT H n d ++ Ac H n r := (rfl)
@[go_sem] theorem ajs (H : aq) (n : Nat) (ts : List T) : Ac H n (ts.map .t) = [] := by
 induction ts with
 | nil=>rfl
 | cons t ts ih=>rw[List.map_cons,MV,ih,PD];rfl
@[go_sem] theorem ahm (H : aq) (n : Nat) (cs : List D) : gT H (n + 1) (.agg cs) = Ac H n cs := (rfl)
def aeB(H:aq)(n:Nat):Option Obj→List Nat
 | some (.arr _ _ _ es)=>Ac H n es
 | _=>[]
@[go_sem] theorem aeC (H : aq) (n sz ep : Nat) (pin : Bool) (es : List D) : aeB H n (some (.arr sz pin ep es)) = Ac H n es := (rfl)
@[go_sem] theorem ahn (H : aq) (n id ep m : Nat) : gT H (n + 1) (.ref id ep m) = id :: aeB H n H[id]? := (rfl)
@[go_sem] theorem ajt : xp [] = .tup [] := (rfl)
@[go_sem] theorem aju (d : D) : xp [d] = d := (rfl)
@[go_sem] theorem ajv (a b : D) (r : List D) : xp (a :: b :: r) = .tup (a :: b :: r) := (rfl)
def Ht(k:Nat):List Nat→Bool
 | []=>true
 | i::r=> !ltB i k&&Ht k r
@[go_sem] theorem aeD (k : Nat) : Ht k [] = true := (rfl)
@[go_sem] theorem abO (k i : Nat) (r : List Nat) : Ht k (i :: r) = (!ltB i k && Ht k r) := (rfl)
theorem Lh(k:Nat)(l:List Nat):l.all (fun i=>decide (k≤i))=Ht k l:=by
 induction l with
 | nil=>rfl
 | cons i r ih=>
   rw[List.all_cons,ih]
   simp only[Ht,uC]
   congr 1
   rw[Bool.eq_iff_iff];simp
def aho(k raw:Nat)(H:aq)(ds rs:List D):Option (D×aq):=
 (kX H (max raw 1) (List.range k) (rs.flatMap (ids depth)++lN H (List.range k))).bind fun q=>
  if(j3 H raw ds).all (fun i=> !(List.range k++q.1).contains i)then
   (cD (ren (idxOf (List.range k++q.1)) depth) rs).bind fun rs'=>
    (cD (gD (idxOf (List.range k++q.1))) (H.take k++q.2)).map fun hs'=>(xp rs',hs')
  else none
def abP(k raw:Nat)(H:aq)(ds rs:List D)(b:Bool):Option (D×aq):=
 if b then(if Ht k (j3 H raw ds)=true then some (xp rs,H.take k)else none)else aho k raw H ds rs
@[go_sem] theorem aeE (k raw : Nat) (H : aq) (ds rs : List D) : abP k raw H ds rs true = if Ht k (j3 H raw ds) = true then some (xp rs, H.take k) else none := (rfl)
def aeF(k raw:Nat)(H:aq)(ds rs:List D):Option (D×aq):=abP k raw H ds rs (jM k 8 rs&&iF k (H.take k))
@[go_sem] theorem ajw (k raw : Nat) (H : aq) (ds rs : List D) : aeF k raw H ds rs = abP k raw H ds rs (jM k 8 rs && iF k (H.take k)) := (rfl)
@[go_sem] theorem aeG (k : Nat) (H : aq) (ds : List D) : finish k 0 H ds = (cD (yo H) ds).bind (aeF k 0 H ds) := by
 simp only[finish,if_true,pc,Lh]
 cases cD (yo H) ds with
 | none=>rfl
 | some rs=>
   simp only[aLq,aeF,abP]
   show(if(jM k 8 rs&&iF k (H.take k))=true then _ else _)=_
   cases (jM k 8 rs&&iF k (H.take k))<;>rfl
@[go_sem] theorem aeH (H : aq) (ds : List D) : j3 H 0 ds = Ac H 8 ds := (rfl)
@[go_sem] theorem aeI (vs : List D) : mr [] vs = vs := (rfl)
@[go_sem] theorem abQ (i : Nat) (r : List Nat) (vs : List D) : mr (i :: r) vs = mr r (vs.set i .und) := (rfl)
@[go_sem] theorem ajx (dead : List Nat) (k : Nat) (vs : List D) (H : aq) : tidy false dead k ⟨vs, H⟩ = some ⟨mr dead vs, H⟩ := (rfl)
@[go_sem] theorem ajy (dead : List Nat) (k : Nat) (vs : List D) (H : aq) : tidy true dead k ⟨vs, H⟩ = MD k ⟨mr dead vs, H⟩ := (rfl)
section
variable (H : aq) (call : aW) (f raw : Nat) (keep : List Nat) (ds : List D)
def Hu(H1:aq)(n:Nat)(sel:List Nat)(p:D×aq):Option (D×aq):=
 (ren (dI sel n) depth p.1).bind fun r'=>(cD (gD (dI sel n)) p.2).map fun os=>(r',eh H1 sel (os.take sel.length)++os.drop sel.length)
def xG(H1:aq)(sel:List Nat)(p:D×aq):Option (D×aq):=
 if sel.isEmpty&&p.2.isEmpty&&uo p.1 then some (p.1,H)else Hu H1 H.length sel p
def Yt(args:List D)(H1:aq)(sel:List Nat)(hs:aq):Option (D×aq):=(call raw f args hs).bind (xG H H1 sel)
def Yu(args:List D)(H1:aq)(sel:List Nat)(hs:aq):Option (D×aq):=(cD (gD (idxOf sel)) hs).bind (Yt H call f raw args H1 sel)
def Yv(H1:aq)(sel:List Nat)(args:List D):Option (D×aq):=(pick H1 sel).bind (Yu H call f raw args H1 sel)
def Yw(args:List D)(sel:List Nat):Option (D×aq):=(cD (ren (idxOf sel) depth) args).bind (Yv H call f raw (pins H (du H keep 0 ds)) sel)
def CE(n:Nat)(cs:List D):List Nat:=cs.flatMap (ids n)
def Yx(args:List D):Option (D×aq):=Yw H call f raw keep ds args (reach H 3 (fp [] (CE 8 args)))
def PE:Option (D×aq):=(rC H keep 0 ds).bind (Yx H call f raw keep ds)
theorem Li:Lg H call f raw keep ds=PE H call f raw keep ds:=(rfl)
@[go_sem] theorem Lj : PE H call f raw keep ds = (rC H keep 0 ds).bind (Yx H call f raw keep ds) := (rfl)
@[go_sem] theorem Lk (args : List D) : Yx H call f raw keep ds args = Yw H call f raw keep ds args (reach H 3 (fp [] (CE 8 args))) := (rfl)
@[go_sem] theorem Ll (args : List D) (sel : List Nat) : Yw H call f raw keep ds args sel = (cD (ren (idxOf sel) 8) args).bind (Yv H call f raw (pins H (du H keep 0 ds)) sel) := (rfl)
@[go_sem] theorem Lm (H1 : aq) (sel : List Nat) (args : List D) : Yv H call f raw H1 sel args = (pick H1 sel).bind (Yu H call f raw args H1 sel) := (rfl)
@[go_sem] theorem Ln (args : List D) (H1 : aq) (sel : List Nat) (hs : aq) : Yu H call f raw args H1 sel hs = (cD (gD (idxOf sel)) hs).bind (Yt H call f raw args H1 sel) := (rfl)
@[go_sem] theorem TC (args : List D) (H1 : aq) (sel : List Nat) (hs : aq) : Yt H call f raw args H1 sel hs = (call raw f args hs).bind (xG H H1 sel) := (rfl)
def PF(H1:aq)(sel:List Nat)(r:D)(os:aq):Option (D×aq):=some (r,eh H1 sel (os.take sel.length)++os.drop sel.length)
@[go_sem] theorem TD (H1 : aq) (sel : List Nat) (r : D) (os : aq) : PF H1 sel r os = some (r, eh H1 sel (os.take sel.length) ++ os.drop sel.length) := (rfl)
def TE(H1:aq)(n:Nat)(sel:List Nat)(os:aq)(r:D):Option (D×aq):=(cD (gD (dI sel n)) os).bind (PF H1 sel r)
@[go_sem] theorem Lo (H1 : aq) (n : Nat) (sel : List Nat) (os : aq) (r : D) : TE H1 n sel os r = (cD (gD (dI sel n)) os).bind (PF H1 sel r) := (rfl)
@[go_sem] theorem Fl (H1 : aq) (n : Nat) (sel : List Nat) (r : D) (os : aq) : Hu H1 n sel (r, os) = (ren (dI sel n) 8 r).bind (TE H1 n sel os) := by
 simp only[Hu,depth]
 cases ren (dI sel n) 8 r with
 | none=>rfl
 | some r'=>simp only[aLq,TE];cases cD (gD (dI sel n)) os<;>rfl
@[go_sem] theorem ahp (H1 : aq) (sel : List Nat) (r : D) (o : Obj) (os : aq) : xG H H1 sel (r, o :: os) = Hu H1 H.length sel (r, o :: os) := by
 simp[xG]
@[go_sem] theorem ajz (H1 : aq) (k : IntKind) (n : Int) : xG H H1 [] (.t (.int k n), []) = some (.t (.int k n), H) := (rfl)
@[go_sem] theorem ajA (H1 : aq) (b : Bool) : xG H H1 [] (.t (.bool b), []) = some (.t (.bool b), H) := (rfl)
@[go_sem] theorem ahq (H1 : aq) (es : List T) : xG H H1 [] (.t (.sl es), []) = some (.t (.sl es), H1) := by simp [xG, Hu, uo, T.scalar, ren, depth, cD, eh]
@[go_sem] theorem aeJ (H1 : aq) (ds : List D) : xG H H1 [] (.tup ds, []) = if ds.all pw then some (.tup ds, H) else Hu H1 H.length [] (.tup ds, []) := by
 simp[xG,uo]
def Yy:Option (List T)→Option (D×aq)
 | some ts=>(call raw f (ts.map .t) []).bind (Ab H)
 | none=>PE H call f raw [] ds
@[go_sem] theorem abR (ts : List T) : Yy H call f raw ds (some ts) = (call raw f (ts.map .t) []).bind (Ab H) := (rfl)
@[go_sem] theorem abS : Yy H call f raw ds none = PE H call f raw [] ds := (rfl)
@[go_sem] theorem ajB : Lg H call f raw [] ds = Yy H call f raw ds (ue H ds) := by
 cases h:ue H ds with
 | none=>rfl
 | some ts=>exact PC H call f raw ds ts h
@[go_sem] theorem ak0 (k : Nat) : Lg H call f raw (k :: keep) ds = PE H call f raw (k :: keep) ds := (rfl)
end
section
variable (H : aq) (keep : List Nat)
@[go_sem] theorem aeK (i : Nat) : rC H keep i [] = some [] := (rfl)
def JJ(i:Nat):List Nat→Bool
 | []=>false
 | j::r=>eqB i j||JJ i r
@[go_sem] theorem ahr (i : Nat) : JJ i [] = false := (rfl)
@[go_sem] theorem aeL (i j : Nat) (r : List Nat) : JJ i (j :: r) = (eqB i j || JJ i r) := (rfl)
theorem Fm(i:Nat)(l:List Nat):l.contains i=JJ i l:=by
 induction l with
 | nil=>rfl
 | cons j r ih=>rw[List.contains_cons,ih];simp only[JJ,JH];rw[beq_eq_decide_nat]
where beq_eq_decide_nat {a b:Nat}:(a==b)=decide (a=b):=by rw[Bool.eq_iff_iff];simp
def ajC(d:D):Bool→Option D
 | true=>some d
 | false=>yo H d
@[go_sem] theorem ak1 (d : D) : ajC H d true = some d := (rfl)
@[go_sem] theorem VT (d : D) : ajC H d false = yo H d := (rfl)
def ak2(i:Nat)(r:List D)(x:D):Option (List D):=nC x (rC H keep (i+1) r)
@[go_sem] theorem PG (i : Nat) (r : List D) (x : D) : ak2 H keep i r x = nC x (rC H keep (i + 1) r) := (rfl)
@[go_sem] theorem En (i : Nat) (d : D) (r : List D) : rC H keep i (d :: r) = (ajC H d (JJ i keep)).bind (ak2 H keep i r) := by
 simp only[rC,Fm]
 cases JJ i keep<;>rfl
@[go_sem] theorem SA (i : Nat) : du H keep i [] = [] := (rfl)
def frK(l:List Nat):Bool→List Nat
 | true=>[]
 | false=>l
@[go_sem] theorem alV (l : List Nat) : frK l true = [] := (rfl)
@[go_sem] theorem aeM (l : List Nat) : frK l false = l := (rfl)
@[go_sem] theorem uD (i : Nat) (d : D) (r : List D) : du H keep i (d :: r) = frK (gT H 8 d) (JJ i keep) ++ du H keep (i + 1) r := by
 simp only[du,Fm]
 cases JJ i keep<;>rfl
@[go_sem] theorem ahs (H : aq) : pins H [] = H := (rfl)
@[go_sem] theorem aeN (H : aq) (i : Nat) (r : List Nat) : pins H (i :: r) = pins (H.modify i KT) r := (rfl)
def PH(i:Nat):Option Obj→aq
 | some (.arr sz _ ep es)=>H.set i (.arr sz true ep es)
 | _=>H
@[go_sem] theorem aeO (i sz ep : Nat) (pin : Bool) (es : List D) : PH H i (some (.arr sz pin ep es)) = H.set i (.arr sz true ep es) := (rfl)
theorem qi{α:Type}{l:List α}{i:Nat}{x:α}(h:l[i]?=some x):l.set i x=l:=by
 apply List.ext_getElem?
 intro j
 rw[List.getElem?_set]
 split
 · rename_i e;subst e
   split
   · exact h.symm
   · rename_i hl;rw[aLm (by omega)]at h;cases h
 · rfl
@[go_sem] theorem abT (i : Nat) : List.modify H i KT = PH H i H[i]? := by
 apply List.ext_getElem?
 intro j
 rw[List.getElem?_modify]
 cases h:H[i]? with
 | none=>
   simp only[PH]
   by_cases e:i=j
   · subst e;rw[h];simp
   · simp[e]
 | some o=>
   have hi:i<H.length:=(aLe.1 h).1
   cases o with
   | box cs=>
     simp only[PH]
     by_cases e:i=j
     · subst e;rw[h];simp[KT]
     · simp[e]
   | arr sz pin ep es=>
     simp only[PH]
     rw[List.getElem?_set]
     by_cases e:i=j
     · subst e;rw[h];simp[KT,hi]
     · simp[e]
section
variable (n : Nat)
@[go_sem] theorem alW (x : T) : ids n (.t x) = [] := by cases n <;> rfl
@[go_sem] theorem ajD : ids n .nil = [] := by cases n <;> rfl
@[go_sem] theorem aeP (id off : Nat) : ids n (.bp id off) = [id] := by cases n <;> rfl
@[go_sem] theorem ajE (id ep m : Nat) : ids n (.ref id ep m) = [id] := by cases n <;> rfl
@[go_sem] theorem ajF (cs : List D) : ids (n + 1) (.agg cs) = CE n cs := (rfl)
@[go_sem] theorem aeQ (f : Nat) (cs : List D) : ids (n + 1) (.fn f cs) = CE n cs := (rfl)
@[go_sem] theorem TF : CE n [] = [] := (rfl)
@[go_sem] theorem PI (d : D) (r : List D) : CE n (d :: r) = ids n d ++ CE n r := (rfl)
@[go_sem] theorem CF (ts : List T) : CE n (ts.map .t) = [] := PB ts n
@[go_sem] theorem Lp (a b : List D) : CE n (a ++ b) = CE n a ++ CE n b := by simp [CE]
end
def PJ(sel:List Nat)(i:Nat):Bool→List Nat
 | true=>sel
 | false=>sel++[i]
@[go_sem] theorem aht (sel : List Nat) (i : Nat) : PJ sel i true = sel := (rfl)
@[go_sem] theorem ahu (sel : List Nat) (i : Nat) : PJ sel i false = sel ++ [i] := (rfl)
@[go_sem] theorem abU (sel : List Nat) : fp sel [] = sel := (rfl)
@[go_sem] theorem Yz (sel : List Nat) (i : Nat) (r : List Nat) : fp sel (i :: r) = fp (PJ sel i (JJ i sel)) r := by
 simp only[fp,Fm]
 cases JJ i sel<;>rfl
def Lq:Option Obj→List Nat
 | some (.box cs)=>CE 8 cs
 | some (.arr _ _ _ es)=>CE 8 es
 | none=>[]
@[go_sem] theorem abV (cs : List D) : Lq (some (.box cs)) = CE 8 cs := (rfl)
@[go_sem] theorem abW (sz ep : Nat) (pin : Bool) (es : List D) : Lq (some (.arr sz pin ep es)) = CE 8 es := (rfl)
@[go_sem] theorem aeR : lN H [] = [] := (rfl)
@[go_sem] theorem abX (i : Nat) (r : List Nat) : lN H (i :: r) = Lq H[i]? ++ lN H r := by
 simp only[lN,List.flatMap_cons]
 congr 1
 cases H[i]? with
 | none=>rfl
 | some o=>cases o<;>rfl
@[go_sem] theorem ajG (sel : List Nat) : reach H 0 sel = sel := (rfl)
@[go_sem] theorem ajH (n : Nat) (sel : List Nat) : reach H (n + 1) sel = reach H n (fp sel (lN H sel)) := (rfl)
@[go_sem] theorem ahv : pick H [] = some [] := (rfl)
def aeS(r:List Nat)(o:Obj):Option aq:=nC o (pick H r)
@[go_sem] theorem TG (r : List Nat) (o : Obj) : aeS H r o = nC o (pick H r) := (rfl)
@[go_sem] theorem PL (i : Nat) (r : List Nat) : pick H (i :: r) = H[i]?.bind (aeS H r) := (rfl)
end
section
variable (f : Nat → Option Nat) (n : Nat)
@[go_sem] theorem ajI (x : T) : ren f n (.t x) = some (.t x) := by cases n <;> rfl
@[go_sem] theorem ajJ : ren f n .nil = some .nil := by cases n <;> rfl
def ak3(off:Nat)(i:Nat):D:= .bp i off
@[go_sem] theorem ajK (off i : Nat) : ak3 off i = .bp i off := (rfl)
@[go_sem] theorem aeT (id off : Nat) : ren f n (.bp id off) = (f id).map (ak3 off) := by cases n <;> rfl
def aeU(ep m:Nat)(j:Nat):D:= .ref j ep m
@[go_sem] theorem ahw (ep m j : Nat) : aeU ep m j = .ref j ep m := (rfl)
@[go_sem] theorem ajL (id ep m : Nat) : ren f n (.ref id ep m) = (f id).map (aeU ep m) := by cases n <;> rfl
@[go_sem] theorem aeV (g : Nat) (cs : List D) : ren f (n + 1) (.fn g cs) = (cD (ren f n) cs).map (.fn g) := (rfl)
@[go_sem] theorem ajM (cs : List D) : ren f (n + 1) (.agg cs) = (cD (ren f n) cs).map .agg := (rfl)
@[go_sem] theorem ajN (cs : List D) : ren f (n + 1) (.tup cs) = (cD (ren f n) cs).map .tup := (rfl)
@[go_sem] theorem Ad (ts : List T) : cD (ren f n) (ts.map .t) = some (ts.map .t) := by
 induction ts with
 | nil=>rfl
 | cons t ts ih=>rw[List.map_cons,Hp,ajI,aLq,X7,ih];rfl
@[go_sem] theorem MW (cs : List D) : gD f (.box cs) = (cD (ren f 8) cs).map .box := (rfl)
@[go_sem] theorem abY (sz ep : Nat) (pin : Bool) (es : List D) : gD f (.arr sz pin ep es) = (cD (ren f 8) es).map (.arr sz pin ep) := (rfl)
end
def abZ(x:Option Nat):Bool→Option Nat
 | true=>some 0
 | false=>x.map (· +1)
@[go_sem] theorem ak4 (x : Option Nat) : abZ x true = some 0 := (rfl)
@[go_sem] theorem ak5 (k : Nat) : abZ (some k) false = some (k + 1) := (rfl)
@[go_sem] theorem ak6 : abZ none false = none := (rfl)
@[go_sem] theorem idxOf_nil (i : Nat) : idxOf [] i = none := (rfl)
@[go_sem] theorem idxOf_cons (j i : Nat) (r : List Nat) : idxOf (j :: r) i = abZ (idxOf r i) (eqB j i) := by
 simp only[idxOf,JH]
 by_cases h:j=i
 · simp[h,abZ]
 · simp[h,abZ]
@[go_sem] theorem ab0 (n i : Nat) : dI [] n i = some (n + i) := by simp [dI]
@[go_sem] theorem ahx (j n : Nat) (r : List Nat) : dI (j :: r) n 0 = some j := by simp [dI]
@[go_sem] theorem ahy (j n i : Nat) (r : List Nat) : dI (j :: r) n (i + 1) = dI r n i := by
 simp only[dI,List.length_cons,Nat.add_lt_add_iff_right,List.getElem?_cons_succ,Nat.add_sub_add_right]
@[go_sem] theorem YA {α : Type} (H os : List α) : eh H [] os = H := by cases os <;> rfl
@[go_sem] theorem VU {α : Type} (H : List α) (i : Nat) (r : List Nat) (o : α) (os : List α) : eh H (i :: r) (o :: os) = eh (H.set i o) r os := (rfl)
def lbP(sz:Nat)(p:List D×aq):List D×aq:=(p.1,.arr sz false 0 []::p.2)
@[go_sem] theorem ak7 (sz : Nat) (cs : List D) (os : aq) : lbP sz (cs, os) = (cs, .arr sz false 0 [] :: os) := (rfl)
def lbC(base:Nat)(cs:List D)(off sz:Nat)(r:List (Nat×Nat)):Option D→List D×aq
 | some .nil=>lbP sz (cV (base+1) (cs.set off (.ref base 0 0)) r)
 | _=>cV base cs r
@[go_sem] theorem ajO (base : Nat) (cs : List D) (off sz : Nat) (r : List (Nat × Nat)) : lbC base cs off sz r (some .nil) = lbP sz (cV (base + 1) (cs.set off (.ref base 0 0)) r) := (rfl)
@[go_sem] theorem VV (base : Nat) (cs : List D) (off sz : Nat) (r : List (Nat × Nat)) : cV base cs ((off, sz) :: r) = lbC base cs off sz r cs[off]? := by
 simp only[cV,lbC]
 split<;>split<;>simp_all [lbP]
def lvP(H:aq)(id:Nat)(p:List D×aq):Option (D×aq):=some (.tup [],H.set id (.box p.1)++p.2)
@[go_sem] theorem ak8 (H : aq) (id : Nat) (cs : List D) (os : aq) : lvP H id (cs, os) = some (.tup [], H.set id (.box cs) ++ os) := (rfl)
def lvB(H:aq)(id:Nat)(l:List (Nat×Nat)):Option Obj→Option (D×aq)
 | some (.box cs)=>lvP H id (cV H.length cs l)
 | _=>none
@[go_sem] theorem ak9 (H : aq) (id : Nat) (l : List (Nat × Nat)) (cs : List D) : lvB H id l (some (.box cs)) = lvP H id (cV H.length cs l) := (rfl)
@[go_sem] theorem YB (H : aq) (id : Nat) (x : Nat × Nat) (r : List (Nat × Nat)) : El H id (x :: r) = lvB H id (x :: r) H[id]? := by
 simp only[El,si]
 generalize H[id]?=o
 rcases o with _ | (cs | _)
 · rfl
 · rfl
 · rfl
section
variable (H : aq)
def klE(n:Nat)(sel new:List Nat)(os:aq)(q:List Nat×aq):Option (List Nat×aq):=some (new++q.1,os++q.2)
@[go_sem] theorem ala (n : Nat) (sel new : List Nat) (os : aq) (a : List Nat) (b : aq) : klE n sel new os (a, b) = some (new ++ a, os ++ b) := (rfl)
def klD(n:Nat)(sel new:List Nat)(os:aq):Option (List Nat×aq):=(kX H n (sel++new) (lN H new)).bind (klE n sel new os)
@[go_sem] theorem alb (n : Nat) (sel new : List Nat) (os : aq) : klD H n sel new os = (kX H n (sel ++ new) (lN H new)).bind (klE n sel new os) := (rfl)
def Eo(sel:List Nat):List Nat→Bool
 | []=>true
 | i::r=> !JJ i sel&&Eo sel r
@[go_sem] theorem ab1 (sel : List Nat) : Eo sel [] = true := (rfl)
theorem Hv(sel l:List Nat):l.all (fun i=> !sel.contains i)=Eo sel l:=by
 induction l with
 | nil=>rfl
 | cons i r ih=>rw[List.all_cons,ih,Fm];rfl
def klC(n:Nat)(sel new:List Nat)(os:aq):Option (List Nat×aq):=
 (if n=0 then(if(os.flatMap fun o=>o.ds.flatMap (gT H depth)).all (fun i=> !(sel++new).contains i)then cD (fG H) os else none)else some os).bind (klD H n sel new)
def yO:aq→List Nat
 | []=>[]
 | .box cs::r=>Ac H 8 cs++yO r
 | .arr _ _ _ es::r=>Ac H 8 es++yO r
@[go_sem] theorem ab2 : yO H [] = [] := (rfl)
@[go_sem] theorem ab3 (cs : List D) (r : aq) : yO H (.box cs :: r) = Ac H 8 cs ++ yO H r := (rfl)
@[go_sem] theorem ab4 (sz ep : Nat) (pin : Bool) (es : List D) (r : aq) : yO H (.arr sz pin ep es :: r) = Ac H 8 es ++ yO H r := (rfl)
theorem PN(os:aq):(os.flatMap fun o=>o.ds.flatMap (gT H depth))=yO H os:=by
 induction os with
 | nil=>rfl
 | cons o r ih=>rw[List.flatMap_cons,ih];cases o<;>rfl
@[go_sem] theorem alX (sel new : List Nat) (os : aq) : klC H 0 sel new os = (if Eo (sel ++ new) (yO H os) = true then cD (fG H) os else none).bind (klD H 0 sel new) := by
 simp only[klC,PN,Hv,if_true]
def klN(n:Nat)(sel new:List Nat):Option (List Nat×aq):=(pick H new).bind (klC H n sel new)
@[go_sem] theorem alc (n : Nat) (sel new : List Nat) : klN H n sel new = (pick H new).bind (klC H n sel new) := (rfl)
@[go_sem] theorem ahz (sel front : List Nat) : kX H 0 sel front = some ([], []) := (rfl)
@[go_sem] theorem ahA (n : Nat) (sel front : List Nat) : kX H (n + 1) sel front = klN H n sel ((fp sel front).drop sel.length) := by
 simp only[kX,klN]
 generalize (fp sel front).drop sel.length=new
 cases pick H new with
 | none=>rfl
 | some os=>
   simp only[aLq,klC]
   congr 1
   funext os'
   simp only[klD]
   cases kX H n (sel++new) (lN H new)<;>rfl
@[go_sem] theorem TH (cs : List D) : fG H (.box cs) = (cD (yo H) cs).map .box := (rfl)
@[go_sem] theorem TI (sz ep : Nat) (pin : Bool) (ts : List T) : fG H (.arr sz pin ep (ts.map .t)) = some (.arr sz pin ep (ts.map .t)) := by
 simp only[fG,BO,aLw]
@[go_sem] theorem TJ (sz ep : Nat) (pin : Bool) : fG H (.arr sz pin ep []) = some (.arr sz pin ep []) := (rfl)
def ajP(k raw:Nat)(H:aq)(ds rs:List D)(q:List Nat×aq):Option (D×aq):=
 if Eo (List.range k++q.1) (j3 H raw ds)=true then
  (cD (ren (idxOf (List.range k++q.1)) depth) rs).bind fun rs'=>(cD (gD (idxOf (List.range k++q.1))) (H.take k++q.2)).map fun hs'=>(xp rs',hs')
 else none
def PO(sel:List Nat)(H2:aq)(rs':List D):Option (D×aq):=(cD (gD (idxOf sel)) H2).bind (finT3 rs')
where finT3 (rs':List D) (hs:aq):Option (D×aq):=some (xp rs',hs)
@[go_sem] theorem ahB (rs' : List D) (hs : aq) : PO.finT3 rs' hs = some (xp rs', hs) := (rfl)
@[go_sem] theorem ahC (sel : List Nat) (H2 : aq) (rs' : List D) : PO sel H2 rs' = (cD (gD (idxOf sel)) H2).bind (PO.finT3 rs') := (rfl)
@[go_sem] theorem ajQ (k raw : Nat) (ds rs : List D) (sel : List Nat) (os : aq) : ajP k raw H ds rs (sel, os) =
 if Eo (List.range k++sel) (j3 H raw ds)=true then(cD (ren (idxOf (List.range k++sel)) 8) rs).bind (PO (List.range k++sel) (H.take k++os))else none:=by
 simp only[ajP,depth]
 split
 · cases cD (ren (idxOf (List.range k++sel)) 8) rs with
   | none=>rfl
   | some rs'=>simp only[aLq,PO];cases cD (gD (idxOf (List.range k++sel))) (H.take k++os)<;>rfl
 · rfl
@[go_sem] theorem ajR (k raw : Nat) (ds rs : List D) : aho k raw H ds rs = (kX H (max raw 1) (List.range k) (CE 8 rs ++ lN H (List.range k))).bind (ajP k raw H ds rs) := by
 simp only[aho,Hv,CE,depth];rfl
@[go_sem] theorem ab5 (k raw : Nat) (ds rs : List D) : abP k raw H ds rs false = aho k raw H ds rs := (rfl)
@[go_sem] theorem ab6 (k raw : Nat) (ds : List D) : finish k (raw + 1) H ds = aeF k (raw + 1) H ds ds := by
 simp only[finish,Nat.add_one_ne_zero,if_false,aLq,pc,Lh,aeF,abP]
 show(if(jM k 8 ds&&iF k (H.take k))=true then _ else _)=_
 cases (jM k 8 ds&&iF k (H.take k))<;>rfl
@[go_sem] theorem YC (raw : Nat) (ds : List D) : j3 H (raw + 1) ds = [] := by simp [j3]
@[go_sem] theorem ahD : max 0 1 = 1 := (rfl)
@[go_sem] theorem ajS (r : Nat) : max (r + 1) 1 = r + 1 := by omega
@[go_sem] theorem ab7 : List.range 0 = [] := (rfl)
end
theorem Lr{α:Type}(f:α→T)(l:List α)(i:Nat)(x:α)(y:D)(h:y= .t (f x)):((l.map f).map D.t).set i y=((l.set i x).map f).map D.t:=by
 rw[h,List.map_map,List.map_map]
 exact(List.map_set (f:=D.t ∘ f)).symm
@[go_sem] theorem JK (l : List Int) (i : Nat) (k : IntKind) (x : Int) : ((l.map (T.int k)).map D.t).set i (.t (.int k x)) = ((l.set i x).map (T.int k)).map D.t := Lr _ l i x _ rfl
@[go_sem] theorem BP (l : List Bool) (i : Nat) (x : Bool) : ((l.map T.bool).map D.t).set i (.t (.bool x)) = ((l.set i x).map T.bool).map D.t := Lr _ l i x _ rfl
end Go.Ev
namespace Go.Ev
class Lib where
 fs:Nat→Option Fn
end Go.Ev
namespace Go.Ev.K
abbrev u(x:O):R:={ o:=x}
abbrev w(n:Nat)(x:O):R:={ o:=x,d:=some n}
abbrev y(n:Nat)(b:Bool)(x:O):R:={ o:=x,g:=some (n,b)}
abbrev m(x:X):R:={ o:= .mv x}
abbrev g(x:X):R:={ o:= .ld x 1 false}
abbrev h(n:Nat)(x:X):R:={ o:= .ld x n true}
abbrev f(n:Nat)(x:X):R:={ o:= .fa x n}
abbrev a(n:Nat)(x z:X):R:={ o:= .ia x z n}
abbrev l0:X:= .l 0
abbrev l1:X:= .l 1
abbrev l2:X:= .l 2
abbrev l3:X:= .l 3
abbrev l4:X:= .l 4
abbrev l5:X:= .l 5
abbrev l6:X:= .l 6
abbrev l7:X:= .l 7
abbrev l8:X:= .l 8
abbrev l9:X:= .l 9
abbrev l10:X:= .l 10
abbrev l11:X:= .l 11
abbrev v0:X:= .v 0
abbrev v1:X:= .v 1
abbrev v2:X:= .v 2
abbrev v3:X:= .v 3
abbrev v4:X:= .v 4
abbrev v5:X:= .v 5
abbrev v6:X:= .v 6
abbrev v7:X:= .v 7
abbrev v8:X:= .v 8
abbrev v9:X:= .v 9
abbrev v10:X:= .v 10
abbrev v11:X:= .v 11
abbrev v12:X:= .v 12
abbrev v13:X:= .v 13
abbrev v14:X:= .v 14
abbrev v15:X:= .v 15
abbrev v16:X:= .v 16
abbrev v17:X:= .v 17
abbrev v18:X:= .v 18
abbrev v19:X:= .v 19
abbrev v20:X:= .v 20
abbrev v21:X:= .v 21
abbrev v22:X:= .v 22
abbrev v23:X:= .v 23
end Go.Ev.K
namespace Go.Ev.K
abbrev q(a:List R)(p:List (Nat×Nat))(c:C):C:= .seq (.reg a p) c
abbrev z0:D:= .t (.int .i64 (0))
abbrev z1:D:= .t (.bool false)
abbrev x(n:Nat)(z:X):R:={ o:= .mv z,d:=some n}
abbrev e(n:Nat)(b:Bool)(z:X):R:={ o:= .mv z,g:=some (n,b)}
abbrev i(n:Nat)(b:Bool)(z:X):R:={ o:= .ld z 1 false,g:=some (n,b)}
end Go.Ev.K
namespace Go.Ev.N
def JL:Nat:=0
def jP:Nat:=1
def YD:Nat:=2
def lk:Nat:=3
def dF:Nat:=4
def ab8:Nat:=5
def Ow:Nat:=6
def PQ:Nat:=7
def cZ:Nat:=8
def aC:Nat:=9
def cR:Nat:=10
def MX:Nat:=11
def c7:Nat:=12
def eM:Nat:=13
def PS:Nat:=14
def cK:Nat:=15
def di:Nat:=16
def YE:Nat:=17
def VW:Nat:=18
def ei:Nat:=19
def bF:Nat:=20
def ji:Nat:=21
def fv:Nat:=22
def lI:Nat:=23
def VX:Nat:=24
def PT:Nat:=25
def SB:Nat:=26
def eO:Nat:=27
def cW:Nat:=28
def YF:Nat:=29
def iq:Nat:=30
def YG:Nat:=31
def ab9:Nat:=32
def YH:Nat:=33
def VY:Nat:=34
def gv:Nat:=35
def fM:Nat:=36
def fh:Nat:=37
def dy:Nat:=38
def bG:Nat:=39
def jQ:Nat:=40
def fN:Nat:=41
def jR:Nat:=42
def fO:Nat:=43
def dS:Nat:=44
def jN:Nat:=45
def dT:Nat:=46
def eU:Nat:=47
def SC:Nat:=48
def aK:Nat:=49
def MY:Nat:=50
def aQ:Nat:=51
def Ox:Nat:=52
def eQ:Nat:=53
def jj:Nat:=54
def aca:Nat:=55
def eE:Nat:=56
def ir:Nat:=57
def eV:Nat:=58
def jk:Nat:=59
def gK:Nat:=60
def dv:Nat:=61
def cE:Nat:=62
def jm:Nat:=63
def dz:Nat:=64
def gL:Nat:=65
def aI:Nat:=66
def bV:Nat:=67
def cL:Nat:=68
def aA:Nat:=69
def bB:Nat:=70
def eW:Nat:=71
def eu:Nat:=72
def ez:Nat:=73
def jq:Nat:=74
def aJ:Nat:=75
def cJ:Nat:=76
def jS:Nat:=77
end Go.Ev.N
namespace Go.Ev.K
open Go.Ev
def jP:Fn:= { aP:=1,vars:=[0,2],body:=(q [x 1 (.b false)] [] (q [m v0,u (.ln l0),u (.bin .leq l0 (.i 400)),x 1 l0] [] .ret)),res:=[(1,none)]}
def lk:Fn:= { aP:=1,vars:=[0,2],body:=(q [w 1 (.mv (.c (.nilp)))] [] (q [m v0,u (.bd [.nil,z0] [(0,1,.l 0)]),u (.bx l0 2),x 1 l0] [] .ret)),res:=[(1,none)]}
def ka:C:= (.seq (.ite [m v4,m v3,u (.bin .lss l1 l0)] [] 0 .skip (.exit 0)) (.seq (.blk 1 (.reg [f 0 v2,g l0,m v0,u (.ca N.aC 0 [] [.l 0,.i 4]),u (.bin .mul (.i (-10)) l0),m v4,u (.bin .eql l0 (.i 0)),m l0,e 0 false v0,y 1 false (.ca N.cK 0 [] [.l 0,.i 6]),u (.pk l2 (.b true) l0),u (.bd [z0,z1] [(0,1,.l 6),(1,1,.l 0)]),u (.bs [.l 0] 2),u (.app l11 l0 true 2),f 0 v2,u (.st l0 l1 1 [])] [(1,4),(1,10),(1,13)])) (.reg [m v4,u (.bin .add l0 (.i 1)),x 4 l0] [])))
def rH:C:= .loop true [5,6,7,8,9] K.ka
def mB:C:= (.seq (.ite [m v6,m v3,u (.bin .lss l1 l0)] [] 0 .skip (.exit 2)) (.seq (.blk 3 (q [h 10 v5,w 7 (.al [z0,z0,z0,z0,z1,z1,z0,z0,z0,z0] []),u (.st l0 l1 10 [])] [] (q [m v6,u (.bin .sub l0 (.i 1)),m v0,m v6,u (.mn [.l 0,.i 2]),u (.ca N.aC 0 [] [.l 2,.l 0]),u (.bin .sub l4 l0),m v6,m v0,u (.bs [.i 11,.i 59,.i 119,.i 4] 1),u (.ca N.cR 0 [] [.l 1,.l 0]),u (.bin .add (.i 1) l0),m v0,u (.bs [.i 9,.i 3,.i 19] 1),u (.ca N.cR 0 [] [.l 1,.l 0]),u (.bin .add (.i 1) l0),f 0 v7,u (.st l0 l10 1 []),f 1 v7,u (.st l0 l11 1 []),f 2 v7,u (.st l0 l9 1 []),f 3 v7,u (.st l0 l7 1 [])] [] (.reg [f 1 v2,g l0,h 10 v7,u (.bs [.l 0] 10),u (.app l2 l0 true 10),f 1 v2,u (.st l0 l1 1 [])] [])))) (.reg [m v6,u (.bin .add l0 (.i 1)),x 6 l0] [])))
def rI:C:= .loop true [4,7,8,9] K.mB
def eX:C:= (.seq (.ite [m v8,u (.bin .gtr l0 (.i 0)),m l0,y 0 true (.fa v2 1),i 1 true l0,y 2 true (.ln l0),y 3 true (.bin .lss l0 (.i 10)),u (.pk l4 l0 (.b false))] [] 0 .skip (.exit 4)) (.seq (.blk 5 (q [h 10 v5,w 9 (.al [z0,z0,z0,z0,z1,z1,z0,z0,z0,z0] []),u (.st l0 l1 10 [])] [] (q [m v0,m v3,u (.ca N.aC 0 [] [.l 1,.l 0]),m v0,m v3,u (.ca N.aC 0 [] [.l 1,.l 0]),m v0,u (.bs [.i 11,.i 59,.i 199] 1),u (.ca N.cR 0 [] [.l 1,.l 0]),u (.bin .add (.i 1) l0),m v0,u (.bs [.i 9,.i 3] 1),u (.ca N.cR 0 [] [.l 1,.l 0]),u (.bin .add (.i 1) l0),f 0 v9,u (.st l0 (.l 12) 1 []),f 1 v9,u (.st l0 l11 1 []),f 2 v9,u (.st l0 l9 1 []),f 3 v9,u (.st l0 l7 1 [])] [] (q [m v0,u (.ca N.aC 0 [] [.l 0,.i 5]),u (.bin .gtr l0 (.i 0)),m v0,u (.ca N.cK 0 [] [.l 0,.i 6]),f 4 v9,u (.st l0 l3 1 []),f 5 v9,u (.st l0 l3 1 [])] [] (.ite [f 0 v9,g l0,f 1 v9,g l0,u (.bin .neq l2 l0)] [] 0 (.reg [f 1 v2,g l0,h 10 v9,u (.bs [.l 0] 10),u (.app l2 l0 true 10),f 1 v2,u (.st l0 l1 1 [])] []) .skip))))) (.reg [m v8,u (.bin .sub l0 (.i 1)),x 8 l0] [])))
def rJ:C:= .loop true [4,6,7,9] K.eX
def dF:Fn:= { aP:=1,vars:=[0,2,3,4,5,6,7,8,9,10],body:=(q [w 1 (.al [.nil,.nil] [])] [] (q [w 2 (.al [.nil,.nil] [(0,2),(1,10)])] [] (q [m v0,u (.ca N.aC 0 [] [.l 0,.i 6]),u (.bin .add (.i 2) l0),x 3 l0] [] (.seq (.ite [m v0,u (.nc l0),f 0 l0,g l0,u (.ln l0),u (.bin .eql l0 (.i 0))] [] 0 (.reg [x 3 (.i 4)] []) .skip) (.seq (q [x 4 (.i 0)] [] (.blk 0 K.rH)) (q [u (.bd [z0,z0] [(0,1,.i 1),(1,1,.i 1)]),u (.bd [z0,z0,z0,z0,z1,z1,z0,z0,z0,z0] [(2,1,.i 12),(3,1,.i 10),(4,1,.b true),(6,2,.l 0)]),w 5 (.al [z0,z0,z0,z0,z1,z1,z0,z0,z0,z0] []),u (.st l0 l1 10 [])] [] (.seq (q [x 6 (.i 1)] [] (.blk 2 K.rI)) (.seq (q [m v0,u (.ca N.aC 0 [] [.l 0,.i 4]),x 8 l0] [] (.blk 4 K.rJ)) (q [h 2 v2,u (.st v1 l0 2 [])] [] .ret))))))))),res:=[(1,some (2,true))]}
def kM:C:= (.seq (.ite [m v7,m v4,u (.bin .lss l1 l0)] [] 0 .skip (.exit 0)) (.seq (.blk 1 (.reg [m v5,m v7,u (.bin .mul l0 (.i 2)),u (.bin .add (.i 3) l0),u (.bs [.l 0] 1),u (.app l4 l0 true 1),m v6,m v0,f 0 v2,g l0,u (.ln l0),u (.ca N.aC 0 [] [.l 3,.l 0]),u (.bs [.l 0] 1),u (.app l6 l0 true 1),x 5 l8,x 6 l1] [(9,0),(9,5)])) (.reg [m v7,u (.bin .add l0 (.i 1)),x 7 l0] [])))
def pB:C:= .loop true [1,8,9,10,11,12,13,14,15,16,17] K.kM
def bK:C:= (.seq (.ite [m v10,u (.bin .gtr l0 (.i 0))] [] 0 .skip (.exit 2)) (.seq (.blk 3 (q [m v9,m v0,u (.ca N.aC 0 [] [.l 0,.i 60]),u (.bin .add l2 l0),x 9 l0] [] (q [m v0,w 17 (.ca N.aC 0 [] [.l 0,.i 3])] [] (.blk 4 (.ite [u (.bin .eql v17 (.i 0)),m l0] [] 0 (q [w 11 (.al [.nil] []),h 2 v2,h 1 v8,m v0,m v4,u (.ca N.aC 0 [] [.l 1,.l 0]),m v0,m v4,u (.ca N.aC 0 [] [.l 1,.l 0]),m v9,u (.ca N.bF 0 [] [.l 8,.l 7,.l 4,.l 1,.l 0]),m l0,u (.ex l0 0),u (.ex l1 1),u (.st (.l 13) l1 1 []),x 12 l1] [(0,6),(0,9),(0,11),(1,6),(1,9),(2,6),(2,9)] (.ite [m v12,u (.bin .eql l0 (.i 0))] [] 0 (.reg [h 1 v11,u (.st v8 l0 1 [])] []) .skip)) (.ite [u (.bin .eql v17 (.i 1)),m l0] [] 0 (q [w 13 (.al [.nil] []),h 2 v2,h 1 v8,m v0,m v4,u (.ca N.aC 0 [] [.l 1,.l 0]),u (.bin .mul (.i 2) l0),u (.bin .add (.i 3) l0),m v0,f 0 v2,g l0,u (.ln l0),u (.ca N.di 0 [] [.l 3,.l 0]),m v9,m v9,m v0,u (.ca N.aC 0 [] [.l 0,.i 9]),u (.bin .add l2 l0),u (.ca N.ji 0 [] [.l 16,.l 15,.l 10,.l 5,.l 4,.l 0]),m l0,u (.ex l0 0),u (.ex l1 1),u (.st (.l 21) l1 1 []),x 14 l1] [(0,6),(0,13),(0,17),(0,19),(1,6),(1,13),(1,17),(2,6),(2,13),(2,17),(10,1)] (.ite [m v14,u (.bin .eql l0 (.i 0))] [] 0 (.reg [h 1 v13,u (.st v8 l0 1 [])] []) .skip)) (q [w 15 (.al [.nil] []),h 2 v2,h 1 v8,m v0,m v4,u (.ca N.aC 0 [] [.l 1,.l 0]),u (.bin .mul (.i 2) l0),u (.bin .add (.i 3) l0),m v0,f 0 v2,g l0,u (.ln l0),u (.ca N.di 0 [] [.l 3,.l 0]),m v9,m v9,u (.bin .add l0 (.i 50)),m v0,u (.ca N.aC 0 [] [.l 0,.i 40]),u (.ca N.fv 0 [3] [.l 16,.l 15,.l 10,.l 5,.l 4,.l 2,.l 0]),m l0,u (.ex l0 0),u (.ex l1 1),u (.st (.l 21) l1 1 []),x 16 l1] [(0,6),(0,13),(0,18),(0,19),(1,6),(1,13),(1,18),(2,6),(2,13),(2,18),(10,1)] (.ite [m v16,u (.bin .eql l0 (.i 0))] [] 0 (.reg [h 1 v15,u (.st v8 l0 1 [])] []) .skip)))))))) (.reg [m v10,u (.bin .sub l0 (.i 1)),x 10 l0] [])))
def pC:C:= .loop true [1,5,6,7,11,12,13,14,15,16,17] K.bK
def cZ:Fn:= { aP:=2,vars:=[0,1,3,4,5,6,7,8,9,11,12,13,14,15,16,17,18,61],body:=(q [w 2 (.bx v1 2),w 3 (.al [.nil] [])] [] (q [m v0,u (.ca N.aC 0 [] [.l 0,.i 3]),u (.bin .add (.i 1) l0),x 4 l0] [] (q [w 5 (.nw 1),w 6 (.nw 1)] [] (.seq (q [x 7 (.i 0)] [] (.blk 0 K.pB)) (q [w 8 (.al [.nil] []),h 2 v2,m v5,m v6,m v0,u (.ca N.aC 0 [] [.l 0,.i 100]),u (.ca N.ei 0 [] [.l 4,.l 3,.l 2,.l 0]),m l0,u (.ex l0 0),u (.ex l1 1),u (.st l9 l1 1 []),m l1] [(0,6),(0,7),(1,6)] (q [x 9 (.i 100)] [] (.seq (q [m v0,u (.ca N.aC 0 [] [.l 0,.i 5]),x 10 l0] [] (.blk 2 K.pC)) (q [h 1 v8,u (.st v3 l0 1 [])] [] .ret)))))))),res:=[(3,some (1,true))]}
def aC:Fn:= { aP:=2,vars:=[0,1,4],body:=(q [x 2 (.i 0)] [] (.seq (.ite [m v0,u (.nc l0),f 1 l0,g l0,m v0,u (.nc l0),f 0 l0,g l0,u (.ln l0),u (.bin .geq l5 l0)] [] 0 (q [x 2 (.i 0)] [] .ret) .skip) (q [m v0,u (.nc l0),f 1 l0,g l0,u (.bin .add l0 (.i 1)),u (.nc l4),f 1 l0,u (.st l0 l2 1 [])] [] (q [m v0,u (.nc l0),f 0 l0,g l0,m v0,u (.nc l0),f 1 l0,g l0,u (.bin .sub l0 (.i 1)),a 1 l5 l0,g l0,m v1,u (.ca N.lI 0 [] [.l 1,.l 0]),x 2 l0] [] .ret)))),res:=[(2,none)]}
def cR:Fn:= { aP:=2,vars:=[0,1,4],body:=(q [x 2 (.i 0)] [] (q [m v1,m v0,m v1,u (.ln l0),u (.ca N.aC 0 [] [.l 2,.l 0]),a 1 l4 l0,g l0,x 2 l0] [] .ret)),res:=[(2,none)]}
def oT:C:= (.seq (.ite [m v3,m v0,u (.ln l0),u (.bin .lss l2 l0)] [] 0 .skip (.exit 0)) (.seq (.blk 1 (.ite [m v0,m v3,a 1 l1 l0,g l0,m v1,u (.bin .eql l1 l0)] [] 0 (q [x 2 (.b true)] [] .ret) .skip)) (.reg [m v3,u (.bin .add l0 (.i 1)),x 3 l0] [])))
def AX:C:= .loop true [2] K.oT
def c7:Fn:= { aP:=2,vars:=[0,1,4,5],body:=(q [x 2 (.b false)] [] (.seq (q [x 3 (.i 0)] [] (.blk 0 K.AX)) (q [x 2 (.b false)] [] .ret))),res:=[(2,none)]}
def gF:C:= (.seq (.ite [m v7,f 0 v3,g l0,u (.ln l0),u (.bin .lss l3 l0)] [] 0 .skip (.exit 2)) (.seq (.blk 3 (.ite [m v1,u (.bin .geq l0 (.i 0)),m l0,e 0 true v1,y 1 true (.fa v3 0),i 2 true l0,e 3 true v7,y 4 true (.ia l1 l0 2),y 5 true (.fa l0 1),i 6 true l0,y 7 true (.ln l0),y 8 true (.bin .lss l7 l0),u (.pk l9 l0 (.b false)),m l0,y 0 true (.fa v3 0),i 1 true l0,e 2 true v7,y 3 true (.ia l1 l0 2),y 4 true (.fa l0 1),i 5 true l0,e 6 true v1,y 7 true (.ia l1 l0 2),y 8 true (.ld l0 2 true),e 9 true v2,y 10 true (.ca N.eO 0 [] [.l 1,.l 0]),e 11 true v6,y 12 true (.ca N.c7 0 [] [.l 1,.l 0]),u (.pk (.l 13) l0 (.b false))] [] 0 (q [m v5,m v6,u (.bs [.l 0] 1),u (.app l2 l0 true 1),x 5 l0] [] (.exit 2)) .skip)) (.reg [m v7,u (.bin .add l0 (.i 1)),x 7 l0] [])))
def rK:C:= .loop true [0,4] K.gF
def kc:C:= (.seq (.ite [m v6,u (.bin .lss l0 (.i 64))] [] 0 .skip (.exit 0)) (.seq (.blk 1 (q [x 7 (.i 0)] [] (.blk 2 K.rK))) (.reg [m v6,u (.bin .add l0 (.i 1)),x 6 l0] [])))
def rL:C:= .loop true [0,4,7] K.kc
def eM:Fn:= { aP:=3,vars:=[0,1,2,3,6,7,8,9],body:=(q [w 3 (.bx v0 1),w 4 (.mv (.c (.nil)))] [] (q [w 5 (.nw 1)] [] (.seq (q [x 6 (.i 0)] [] (.blk 0 K.rL)) (q [m v5,x 4 l0] [] .ret)))),res:=[(4,none)]}
def cK:Fn:= { aP:=2,vars:=[0,1,4],body:=(q [x 2 (.b false)] [] (q [m v0,m v1,u (.ca N.aC 0 [] [.l 1,.l 0]),m v1,u (.bin .sub l0 (.i 1)),u (.bin .eql l2 l0),x 2 l0] [] .ret)),res:=[(2,none)]}
def kd:C:= (.seq (.ite [m v4,m v1,u (.bin .lss l1 l0)] [] 0 .skip (.exit 0)) (.seq (.blk 1 (.ite [m v0,u (.ca N.aC 0 [] [.l 0,.i 3]),u (.bin .eql l0 (.i 0))] [] 0 (.reg [m v3,m v4,u (.bs [.l 0] 1),u (.app l2 l0 true 1),x 3 l0] []) .skip)) (.reg [m v4,u (.bin .add l0 (.i 1)),x 4 l0] [])))
def rM:C:= .loop true [2] K.kd
def di:Fn:= { aP:=2,vars:=[0,1,4,5,6],body:=(q [w 2 (.mv (.c (.nil)))] [] (q [w 3 (.nw 1)] [] (.seq (q [x 4 (.i 0)] [] (.blk 0 K.rM)) (q [m v3,x 2 l0] [] .ret)))),res:=[(2,none)]}
def mC:C:= (.seq (.ite [m v8,m v1,u (.ln l0),u (.bin .lss l2 l0)] [] 0 .skip (.exit 0)) (.seq (.blk 1 (q [w 9 (.al [z0,.nil] []),h 2 v4,m v2,m v8,a 1 l1 l0,g l0,m v3,u (.ca N.fM 0 [] [.l 5,.l 1,.l 0]),m l0,u (.ex l0 0),u (.ex l1 1),u (.st l10 l1 2 []),x 10 l1] [(0,8)] (.seq (.ite [m v10,u (.bin .neq l0 (.i 0))] [] 0 (q [u (.bd [.nil] []),m v10,u (.st v5 l1 1 []),x 6 l1] [] .ret) .skip) (.reg [f 1 v7,g l0,h 2 v9,u (.bs [.l 0] 2),u (.app l2 l0 true 2),f 1 v7,u (.st l0 l1 1 [])] [])))) (.reg [m v8,u (.bin .add l0 (.i 1)),x 8 l0] [])))
def wV:C:= .loop true [0,6,9,10] K.mC
def ei:Fn:= { aP:=4,vars:=[0,1,2,3,4,8,9,10,11,12,13],body:=(q [w 4 (.bx v0 2),w 5 (.al [.nil] []),x 6 (.i 0)] [] (.seq (.ite [h 2 v4,u (.ca N.cW 0 [] [.l 0]),u (.bin .neq l0 (.i 0)),m l0,e 0 false v1,y 1 false (.ln l0),e 2 false v2,y 3 false (.ln l0),y 4 false (.bin .neq l2 l0),u (.pk l5 (.b true) l0),m l0,e 0 false v1,y 1 false (.ln l0),y 2 false (.bin .lss l0 (.i 1)),u (.pk l3 (.b true) l0),m l0,e 0 false v1,y 1 false (.ln l0),y 2 false (.bin .gtr l0 (.i 12)),u (.pk l3 (.b true) l0)] [] 0 (q [u (.bd [.nil] []),u (.st v5 l0 1 []),x 6 (.i 6)] [] .ret) .skip) (.seq (.ite [m v1,u (.ca N.gv 0 [] [.l 0]),u (.un .not l0)] [] 0 (q [u (.bd [.nil] []),u (.st v5 l0 1 []),x 6 (.i 41)] [] .ret) .skip) (q [m v1,u (.app (.c (.nil)) l0 true 1),u (.bd [.nil,.nil] [(0,1,.l 0)]),w 7 (.al [.nil,.nil] [(1,2)]),u (.st l0 l1 2 [(1,2)])] [] (.seq (q [x 8 (.i 0)] [] (.blk 0 K.wV)) (q [h 2 v7,u (.bs [.l 0] 2),u (.bd [.nil] [(0,1,.l 0)]),u (.st v5 l0 1 []),x 6 (.i 0)] [] .ret)))))),res:=[(5,some (1,true)),(6,none)]}
def iM:C:= (.seq (.ite [m v11,f 0 v6,g l0,u (.ln l0),u (.bin .lss l3 l0)] [] 0 .skip (.exit 0)) (.seq (.blk 1 (q [f 0 v6,g l0,m v11,a 2 l1 l0,h 2 l0,u (.ca N.bG 1 [] [.l 0]),w 12 (.al [.nil,.nil] []),u (.st l0 l1 2 [])] [] (.seq (.ite [f 1 v12,g l0,m v2,a 2 l1 l0,h 2 l0,f 1 v12,g l0,m v3,a 2 l1 l0,h 2 l0,m v4,u (.ca N.jQ 0 [] [.l 6,.l 1,.l 0]),u (.un .not l0)] [] 0 (.exit 1) .skip) (q [f 0 v12,g l0,m v2,f 0 v12,g l0,m v3,f 0 v12,g l0,m v3,a 1 l1 l0,g l0,f 0 v12,g l0,m v2,a 1 l1 l0,g l0,a 1 (.l 14) (.l 13),u (.st l0 l6 1 []),a 1 (.l 13) (.l 12),u (.st l0 l3 1 [])] [(4,18)] (q [f 1 v12,g l0,m v2,f 1 v12,g l0,m v2,a 2 l1 l0,h 2 l0,m v4,u (.ca N.fN 0 [] [.l 1,.l 0]),m l0,u (.ex l0 0),u (.ex l1 1),a 2 l11 l10,u (.st l0 l2 2 [])] [(1,10)] (q [f 1 v12,g l0,m v3,f 1 v12,g l0,m v3,a 2 l1 l0,h 2 l0,m v4,u (.ca N.fN 0 [] [.l 1,.l 0]),m l0,u (.ex l0 0),u (.ex l1 1),a 2 l11 l10,u (.st l0 l2 2 [])] [(1,10)] (.reg [m v10,h 2 v12,u (.bs [.l 0] 2),u (.app l2 l0 true 2),x 10 l0] []))))))) (.reg [m v11,u (.bin .add l0 (.i 1)),x 11 l0] [])))
def rN:C:= .loop true [0,1,5,8,9,12] K.iM
def bF:Fn:= { aP:=5,vars:=[0,1,2,3,4,5,6,10,11,12,13,14,15],body:=(q [w 5 (.bx v0 2),w 6 (.bx v1 1),w 7 (.al [.nil] []),x 8 (.i 0)] [] (q [h 1 v6,u (.ca N.fh 0 [] [.l 0]),u (.st v6 l0 1 [])] [] (.seq (.ite [h 2 v5,h 1 v6,u (.ca N.dy 0 [] [.l 1,.l 0]),u (.un .not l0)] [] 0 (q [h 1 v6,u (.st v7 l0 1 []),x 8 (.i 6)] [] .ret) .skip) (q [f 0 v6,g l0,a 2 l0 (.i 0),f 0 l0,g l0,u (.ln l0),x 9 l0] [] (.seq (.ite [m v2,u (.bin .lss l0 (.i 0)),m l0,e 0 false v2,e 1 false v9,y 2 false (.bin .geq l1 l0),u (.pk l3 (.b true) l0),m l0,e 0 false v3,y 1 false (.bin .lss l0 (.i 0)),u (.pk l2 (.b true) l0),m l0,e 0 false v3,e 1 false v9,y 2 false (.bin .geq l1 l0),u (.pk l3 (.b true) l0),m l0,e 0 false v2,e 1 false v3,y 2 false (.bin .eql l1 l0),u (.pk l3 (.b true) l0)] [] 0 (q [h 1 v6,u (.st v7 l0 1 []),x 8 (.i 19)] [] .ret) .skip) (.seq (.ite [m v4,u (.bin .lss l0 (.i 0)),m l0,e 0 false v4,y 1 false (.bin .gtr l0 (.i 2147483648)),u (.pk l2 (.b true) l0)] [] 0 (q [h 1 v6,u (.st v7 l0 1 []),x 8 (.i 8)] [] .ret) .skip) (q [h 1 v6,u (.ca N.fh 1 [] [.l 0]),u (.fl l0 0 1 false),x 10 l0] [] (.seq (q [x 11 (.i 0)] [] (.blk 0 K.rN)) (q [m v10,u (.ca N.jR 1 [] [.l 0]),x 10 l0] [] (.seq (.ite [m v10,u (.ln l0),u (.bin .gtr l0 (.i 24))] [] 0 (q [h 1 v6,u (.st v7 l0 1 []),x 8 (.i 44)] [] .ret) .skip) (q [m v10,u (.bd [.nil] [(0,1,.l 0)]),u (.st v7 l0 1 []),x 8 (.i 0)] [] .ret))))))))))),res:=[(7,some (1,true)),(8,none)]}
def fZ:C:= (.seq (.ite [m v12,f 0 v7,g l0,u (.ln l0),u (.bin .lss l3 l0)] [] 0 .skip (.exit 0)) (.seq (.blk 1 (q [f 0 v7,g l0,m v12,a 2 l1 l0,h 2 l0,u (.ca N.bG 1 [] [.l 0]),w 13 (.al [.nil,.nil] []),u (.st l0 l1 2 [])] [] (q [f 0 v13,g l0,m v2,u (.ca N.dS 0 [] [.l 1,.l 0]),x 14 l0] [] (q [w 15 (.al [z0,.nil] []),h 2 v6,f 1 v13,g l0,m v14,a 2 l1 l0,h 2 l0,m v3,m v4,m v5,u (.ca N.jN 0 [] [.l 8,.l 3,.l 2,.l 1,.l 0]),m l0,u (.ex l0 0),u (.ex l1 1),u (.st (.l 13) l1 2 []),x 16 l1] [(0,11)] (.seq (q [x 17 v16] [] (.blk 2 (.seq (q [u (.bin .eql v17 (.i 6)),x 18 l0] [] (.itv 18 .skip (.reg [u (.bin .eql v17 (.i 8)),x 18 l0] []))) (.itv 18 (q [h 1 v7,m v16,u (.st v8 l1 1 []),x 9 l1] [] .ret) (.ite [u (.bin .eql v17 (.i 43)),m l0] [] 0 (.exit 1) (.ite [u (.bin .eql v17 (.i 0)),m l0] [] 0 (.reg [f 1 v13,g l0,m v14,h 2 v15,a 2 l2 l1,u (.st l0 l1 2 [])] []) .skip)))))) (.reg [f 0 v11,g l0,h 2 v13,u (.bs [.l 0] 2),u (.app l2 l0 true 2),f 0 v11,u (.st l0 l1 1 [])] [])))))) (.reg [m v12,u (.bin .add l0 (.i 1)),x 12 l0] [])))
def uE:C:= .loop true [0,1,9,10,13,14,15,16,17,18] K.fZ
def ji:Fn:= { aP:=6,vars:=[0,1,2,3,4,5,6,7,12,13,14,15,16,17,18,19,20,61,62],body:=(q [w 6 (.bx v0 2),w 7 (.bx v1 1),w 8 (.al [.nil] []),x 9 (.i 0)] [] (q [h 1 v7,u (.ca N.fh 0 [] [.l 0]),u (.st v7 l0 1 [])] [] (.seq (q [h 2 v6,h 1 v7,m v2,u (.ca N.fO 0 [] [.l 2,.l 1,.l 0]),x 10 l0] [] (.ite [m v10,u (.bin .neq l0 (.i 0))] [] 0 (q [h 1 v7,m v10,u (.st v8 l1 1 []),x 9 l1] [] .ret) .skip)) (q [w 11 (.al [.nil] [(0,2)])] [] (.seq (q [x 12 (.i 0)] [] (.blk 0 K.uE)) (.seq (.ite [f 0 v11,g l0,u (.ln l0),u (.bin .eql l0 (.i 0))] [] 0 (q [h 1 v7,u (.st v8 l0 1 []),x 9 (.i 43)] [] .ret) .skip) (q [h 1 v11,u (.st v8 l0 1 []),x 9 (.i 0)] [] .ret))))))),res:=[(8,some (1,true)),(9,none)]}
def ec:C:= (.seq (.ite [m v13,f 0 v8,g l0,u (.ln l0),u (.bin .lss l3 l0)] [] 0 .skip (.exit 0)) (.seq (.blk 1 (q [f 0 v8,g l0,m v13,a 2 l1 l0,h 2 l0,u (.ca N.bG 1 [] [.l 0]),w 14 (.al [.nil,.nil] []),u (.st l0 l1 2 [])] [] (q [f 0 v14,g l0,m v2,u (.ca N.dS 0 [] [.l 1,.l 0]),x 15 l0] [] (q [w 16 (.al [z0,.nil] []),h 2 v7,f 1 v14,g l0,m v15,a 2 l1 l0,h 2 l0,m v3,m v4,m v5,m v6,u (.ca N.dT 0 [2] [.l 9,.l 4,.l 3,.l 2,.l 1,.l 0]),m l0,u (.ex l0 0),u (.ex l1 1),u (.st (.l 14) l1 2 []),x 17 l1] [(0,12)] (.seq (.ite [m v17,u (.bin .eql l0 (.i 6)),m l0,e 0 false v17,y 1 false (.bin .eql l0 (.i 8)),u (.pk l2 (.b true) l0)] [] 0 (q [h 1 v8,m v17,u (.st v9 l1 1 []),x 10 l1] [] .ret) .skip) (.seq (.ite [m v17,u (.bin .eql l0 (.i 0))] [] 0 (.reg [f 1 v14,g l0,m v15,h 2 v16,a 2 l2 l1,u (.st l0 l1 2 [])] []) .skip) (.reg [f 0 v12,g l0,h 2 v14,u (.bs [.l 0] 2),u (.app l2 l0 true 2),f 0 v12,u (.st l0 l1 1 [])] []))))))) (.reg [m v13,u (.bin .add l0 (.i 1)),x 13 l0] [])))
def pD:C:= .loop true [0,1,10,11,14,15,16,17] K.ec
def fv:Fn:= { aP:=7,vars:=[0,1,2,3,4,5,6,7,8,14,15,16,17,18,19,20,21,22],body:=(q [w 7 (.bx v0 2),w 8 (.bx v1 1),w 9 (.al [.nil] []),x 10 (.i 0)] [] (q [h 1 v8,u (.ca N.fh 0 [] [.l 0]),u (.st v8 l0 1 [])] [] (.seq (q [h 2 v7,h 1 v8,m v2,u (.ca N.fO 0 [] [.l 2,.l 1,.l 0]),x 11 l0] [] (.ite [m v11,u (.bin .neq l0 (.i 0))] [] 0 (q [h 1 v8,m v11,u (.st v9 l1 1 []),x 10 l1] [] .ret) .skip)) (q [w 12 (.al [.nil] [(0,2)])] [] (.seq (q [x 13 (.i 0)] [] (.blk 0 K.pD)) (q [h 1 v12,u (.st v9 l0 1 []),x 10 (.i 0)] [] .ret)))))),res:=[(9,some (1,true)),(10,none)]}
def lI:Fn:= { aP:=2,vars:=[0,1,4],body:=(q [x 2 (.i 0)] [] (.seq (.ite [m v1,u (.bin .lss l0 (.i 1))] [] 0 (q [x 2 (.i 0)] [] .ret) .skip) (q [m v0,m v1,u (.bin .rem l1 l0),x 0 l0] [] (.seq (.ite [m v0,u (.bin .lss l0 (.i 0))] [] 0 (.reg [m v0,m v1,u (.bin .add l1 l0),x 0 l0] []) .skip) (q [m v0,x 2 l0] [] .ret))))),res:=[(2,none)]}
def kf:C:= (.seq (.ite [m v5,f 1 v2,g l0,u (.ln l0),u (.bin .lss l3 l0)] [] 0 .skip (.exit 0)) (.seq (.blk 1 (.ite [f 1 v2,g l0,m v5,a 1 l1 l0,g l0,m v1,u (.bin .leq l1 l0)] [] 0 (.reg [m v4,m v5,u (.bs [.l 0] 1),u (.app l2 l0 true 1),x 4 l0] []) .skip)) (.reg [m v5,u (.bin .add l0 (.i 1)),x 5 l0] [])))
def rO:C:= .loop true [0,3] K.kf
def eO:Fn:= { aP:=2,vars:=[0,1,2,4,5,6],body:=(q [w 2 (.bx v0 2),w 3 (.mv (.c (.nil)))] [] (q [w 4 (.nw 1)] [] (.seq (q [x 5 (.i 0)] [] (.blk 0 K.rO)) (q [m v4,x 3 l0] [] .ret)))),res:=[(3,none)]}
def pE:C:= (.seq (.ite [m v3,f 0 v1,g l0,u (.ln l0),u (.bin .lss l3 l0)] [] 0 .skip (.exit 0)) (.seq (.blk 1 (q [f 0 v1,g l0,m v3,a 2 l1 l0,f 0 l0,g l0,x 4 l0] [] (.ite [m v4,u (.bin .lss l0 (.i (-10000))),m l0,e 0 false v4,y 1 false (.bin .gtr l0 (.i 10000)),u (.pk l2 (.b true) l0)] [] 0 (q [x 2 (.i 1)] [] .ret) .skip))) (.reg [m v3,u (.bin .add l0 (.i 1)),x 3 l0] [])))
def wW:C:= .loop true [0,2,4,5,6] K.pE
def pF:C:= (.seq (.ite [m v5,f 1 v1,g l0,u (.ln l0),u (.bin .lss l3 l0)] [] 0 .skip (.exit 2)) (.seq (.blk 3 (q [f 1 v1,g l0,m v5,a 10 l1 l0,h 10 l0,w 6 (.al [z0,z0,z0,z0,z1,z1,z0,z0,z0,z0] []),u (.st l0 l1 10 [])] [] (.seq (.ite [f 0 v6,g l0,u (.bin .lss l0 (.i 0)),m l0,y 0 false (.fa v6 0),i 1 false l0,y 2 false (.fa v1 0),i 3 false l0,y 4 false (.ln l0),y 5 false (.bin .geq l3 l0),u (.pk l6 (.b true) l0),m l0,y 0 false (.fa v6 1),i 1 false l0,y 2 false (.bin .lss l0 (.i 0)),u (.pk l3 (.b true) l0),m l0,y 0 false (.fa v6 1),i 1 false l0,y 2 false (.fa v1 0),i 3 false l0,y 4 false (.ln l0),y 5 false (.bin .geq l3 l0),u (.pk l6 (.b true) l0),m l0,y 0 false (.fa v6 0),i 1 false l0,y 2 false (.fa v6 1),i 3 false l0,y 4 false (.bin .eql l2 l0),u (.pk l5 (.b true) l0)] [] 0 (q [x 2 (.i 4)] [] .ret) .skip) (.ite [f 2 v6,g l0,u (.bin .lss l0 (.i 1)),m l0,y 0 false (.fa v6 2),i 1 false l0,y 2 false (.bin .gtr l0 (.i 100000)),u (.pk l3 (.b true) l0),m l0,y 0 false (.fa v6 3),i 1 false l0,y 2 false (.bin .lss l0 (.i 1)),u (.pk l3 (.b true) l0),m l0,y 0 false (.fa v6 3),i 1 false l0,y 2 false (.bin .gtr l0 (.i 1000)),u (.pk l3 (.b true) l0),m l0,y 0 false (.fa v6 6),y 1 false (.ld l0 2 true),y 2 false (.ca N.jj 0 [] [.l 0,.i 1,.i 262144]),y 3 false (.un .not l0),u (.pk l4 (.b true) l0),m l0,y 0 false (.fa v6 8),y 1 false (.ld l0 2 true),y 2 false (.ca N.jj 0 [] [.l 0,.i (-2199023255552),.i 2199023255552]),y 3 false (.un .not l0),u (.pk l4 (.b true) l0)] [] 0 (q [x 2 (.i 1)] [] .ret) .skip)))) (.reg [m v5,u (.bin .add l0 (.i 1)),x 5 l0] [])))
def wX:C:= .loop true [0,2,3,4,6] K.pF
def cW:Fn:= { aP:=1,vars:=[0,1,2,3,4,5,6],body:=(q [w 1 (.bx v0 2),x 2 (.i 0)] [] (.seq (.ite [f 0 v1,g l0,u (.ln l0),u (.bin .gtr l0 (.i 64)),m l0,y 0 false (.fa v1 1),i 1 false l0,y 2 false (.ln l0),y 3 false (.bin .gtr l0 (.i 128)),u (.pk l4 (.b true) l0)] [] 0 (q [x 2 (.i 2)] [] .ret) .skip) (.seq (q [x 3 (.i 0)] [] (.blk 0 K.wW)) (.seq (q [x 5 (.i 0)] [] (.blk 2 K.wX)) (q [x 2 (.i 0)] [] .ret))))),res:=[(2,none)]}
def jD:C:= (.seq (.ite [m v3,m v0,u (.ln l0),u (.bin .lss l2 l0)] [] 0 .skip (.exit 0)) (.seq (.blk 1 (.ite [m v0,m v3,a 1 l1 l0,g l0,u (.bin .lss l0 (.i 0)),m l0,e 0 false v0,e 1 false v3,y 2 false (.ia l1 l0 1),i 3 false l0,e 4 false v1,y 5 false (.bin .geq l1 l0),u (.pk l6 (.b true) l0),m l0,e 0 false v3,y 1 false (.bin .gtr l0 (.i 0)),e 2 false l0,e 0 true v0,e 1 true v3,y 2 true (.ia l1 l0 1),i 3 true l0,e 4 true v0,e 5 true v3,y 6 true (.bin .sub l0 (.i 1)),y 7 true (.ia l2 l0 1),i 8 true l0,y 9 true (.bin .leq l5 l0),y 13 false (.pk l10 l0 (.b false)),u (.pk (.l 14) (.b true) l0)] [] 0 (q [x 2 (.b false)] [] .ret) .skip)) (.reg [m v3,u (.bin .add l0 (.i 1)),x 3 l0] [])))
def AY:C:= .loop true [2] K.jD
def iq:Fn:= { aP:=2,vars:=[0,1,4,5],body:=(q [x 2 (.b false)] [] (.seq (q [x 3 (.i 0)] [] (.blk 0 K.AY)) (q [x 2 (.b true)] [] .ret))),res:=[(2,none)]}
def iI:C:= (.seq (.ite [m v2,m v0,u (.ln l0),u (.bin .lss l2 l0)] [] 0 .skip (.exit 0)) (.seq (.blk 1 (.ite [m v0,m v2,a 1 l1 l0,g l0,u (.bin .lss l0 (.i 1)),m l0,e 0 false v0,e 1 false v2,y 2 false (.ia l1 l0 1),i 3 false l0,y 4 false (.bin .gtr l0 (.i 65535)),u (.pk l5 (.b true) l0),m l0,e 0 false v0,e 1 false v2,y 2 false (.sc l1 none (some l0) 1),e 3 false v0,e 4 false v2,y 5 false (.ia l1 l0 1),i 6 false l0,y 7 false (.ca N.dS 0 [] [.l 4,.l 0]),y 8 false (.bin .geq l0 (.i 0)),u (.pk l9 (.b true) l0)] [] 0 (q [x 1 (.b false)] [] .ret) .skip)) (.reg [m v2,u (.bin .add l0 (.i 1)),x 2 l0] [])))
def uF:C:= .loop true [1] K.iI
def gv:Fn:= { aP:=1,vars:=[0,2,3],body:=(q [x 1 (.b false)] [] (.seq (q [x 2 (.i 0)] [] (.blk 0 K.uF)) (q [x 1 (.b true)] [] .ret))),res:=[(1,none)]}
def fM:Fn:= { aP:=3,vars:=[0,1,2,3,6,7,8],body:=(q [w 3 (.bx v0 2),w 4 (.al [z0,.nil] []),x 5 (.i 0)] [] (.seq (.blk 0 (.ite [h 2 v3,u (.ca N.cW 0 [] [.l 0]),u (.bin .neq l0 (.i 0)),m l0] [] 0 (q [u (.bd [z0,.nil] []),u (.st v4 l0 2 []),x 5 (.i 6)] [] .ret) (.ite [m v1,u (.bin .lss l0 (.i 0)),m l0,e 0 false v1,y 1 false (.fa v3 0),i 2 false l0,y 3 false (.ln l0),y 4 false (.bin .geq l3 l0),u (.pk l5 (.b true) l0),m l0] [] 0 (q [u (.bd [z0,.nil] []),u (.st v4 l0 2 []),x 5 (.i 3)] [] .ret) (.ite [m v2,u (.ca N.eE 0 [] [.l 0]),u (.un .not l0),m l0] [] 0 (q [u (.bd [z0,.nil] []),u (.st v4 l0 2 []),x 5 (.i 8)] [] .ret) .skip)))) (q [f 0 v3,g l0,u (.ln l0),u (.ca N.ir 1 [] [.l 0]),x 6 l0] [] (q [m v6,m v1,m v2,a 1 l2 l1,u (.st l0 l1 1 [])] [] (q [m v2,h 2 v3,m v6,m v2,u (.ca N.eV 0 [] [.l 2,.l 1,.l 0]),u (.bd [z0,.nil] [(0,1,.l 4),(1,1,.l 0)]),u (.st v4 l0 2 []),x 5 (.i 0)] [] .ret))))),res:=[(4,some (2,true)),(5,none)]}
end Go.Ev.K
namespace Go.Ev
class cu [Lib]:Prop where
 uG:Lib.fs N.jP=some K.jP
 xH:Lib.fs N.lk=some K.lk
 om:Lib.fs N.dF=some K.dF
 mD:Lib.fs N.cZ=some K.cZ
 oq:Lib.fs N.aC=some K.aC
 qB:Lib.fs N.cR=some K.cR
 xI:Lib.fs N.c7=some K.c7
 ou:Lib.fs N.eM=some K.eM
 pG:Lib.fs N.cK=some K.cK
 ov:Lib.fs N.di=some K.di
 sA:Lib.fs N.ei=some K.ei
 ow:Lib.fs N.bF=some K.bF
 xJ:Lib.fs N.ji=some K.ji
 qC:Lib.fs N.fv=some K.fv
 Ae:Lib.fs N.lI=some K.lI
 ox:Lib.fs N.eO=some K.eO
 sB:Lib.fs N.cW=some K.cW
 xK:Lib.fs N.iq=some K.iq
 qD:Lib.fs N.gv=some K.gv
 sC:Lib.fs N.fM=some K.fM
namespace K
variable [Lib] [cu]
theorem uG:Lib.fs N.jP=some K.jP:=cu.uG
theorem xH:Lib.fs N.lk=some K.lk:=cu.xH
theorem om:Lib.fs N.dF=some K.dF:=cu.om
theorem mD:Lib.fs N.cZ=some K.cZ:=cu.mD
theorem oq:Lib.fs N.aC=some K.aC:=cu.oq
theorem qB:Lib.fs N.cR=some K.cR:=cu.qB
theorem xI:Lib.fs N.c7=some K.c7:=cu.xI
theorem ou:Lib.fs N.eM=some K.eM:=cu.ou
theorem pG:Lib.fs N.cK=some K.cK:=cu.pG
theorem ov:Lib.fs N.di=some K.di:=cu.ov
theorem sA:Lib.fs N.ei=some K.ei:=cu.sA
theorem ow:Lib.fs N.bF=some K.bF:=cu.ow
theorem xJ:Lib.fs N.ji=some K.ji:=cu.xJ
theorem qC:Lib.fs N.fv=some K.fv:=cu.qC
theorem Ae:Lib.fs N.lI=some K.lI:=cu.Ae
theorem ox:Lib.fs N.eO=some K.eO:=cu.ox
theorem sB:Lib.fs N.cW=some K.cW:=cu.sB
theorem xK:Lib.fs N.iq=some K.iq:=cu.xK
theorem qD:Lib.fs N.gv=some K.gv:=cu.qD
theorem sC:Lib.fs N.fM=some K.fM:=cu.sC
end K
end Go.Ev
namespace Go.Ev.K
open Go.Ev
def qE:C:= (.seq (.ite [m v4,f 0 v1,g l0,u (.ln l0),u (.bin .lss l3 l0)] [] 0 .skip (.exit 0)) (.seq (.blk 1 (.reg [f 0 v3,g l0,f 0 v1,g l0,m v4,a 2 l1 l0,h 2 l0,u (.ca N.bG 0 [] [.l 0]),u (.bs [.l 0] 2),u (.app l7 l0 true 2),f 0 v3,u (.st l0 l1 1 [])] [(1,8),(1,9)])) (.reg [m v4,u (.bin .add l0 (.i 1)),x 4 l0] [])))
def yP:C:= .loop true [0] K.qE
def fh:Fn:= { aP:=1,vars:=[0,1,2,3,4],body:=(q [w 1 (.bx v0 1),w 2 (.al [.nil] [])] [] (q [w 3 (.al [.nil] [(0,2)])] [] (.seq (q [x 4 (.i 0)] [] (.blk 0 K.yP)) (q [h 1 v3,u (.st v2 l0 1 [])] [] .ret)))),res:=[(2,some (1,true))]}
def jr:C:= (.seq (.ite [m v8,f 0 v7,g l0,u (.ln l0),u (.bin .lss l3 l0)] [] 0 .skip (.exit 2)) (.seq (.blk 3 (.ite [m v5,f 0 v7,g l0,m v8,a 1 l1 l0,g l0,u (.ca N.dS 0 [] [.l 5,.l 0]),u (.bin .lss l0 (.i 0)),m l0,y 0 false (.ld v2 2 true),y 1 false (.fa v7 1),i 2 false l0,e 3 false v8,y 4 false (.ia l1 l0 2),y 5 false (.ld l0 2 true),y 6 false (.ca N.gK 0 [] [.l 5,.l 0]),y 7 false (.un .not l0),u (.pk l8 (.b true) l0)] [] 0 (q [x 4 (.b false)] [] .ret) .skip)) (.reg [m v8,u (.bin .add l0 (.i 1)),x 8 l0] [])))
def qF:C:= .loop true [0,1,4] K.jr
def cM:C:= (.seq (.ite [m v6,f 0 v3,g l0,u (.ln l0),u (.bin .lss l3 l0)] [] 0 .skip (.exit 0)) (.seq (.blk 1 (q [f 0 v3,g l0,m v6,a 2 l1 l0,h 2 l0,w 7 (.al [.nil,.nil] []),u (.st l0 l1 2 [])] [] (.seq (.ite [f 0 v7,g l0,u (.ln l0),m v5,u (.ln l0),u (.bin .neq l2 l0),m l0,y 0 false (.fa v7 1),i 1 false l0,y 2 false (.ln l0),e 3 false v5,y 4 false (.ln l0),y 5 false (.bin .neq l2 l0),u (.pk l6 (.b true) l0),m l0,y 0 false (.fa v7 0),i 1 false l0,y 2 false (.ca N.gv 0 [] [.l 0]),y 3 false (.un .not l0),u (.pk l4 (.b true) l0),m l0,e 0 false v6,y 1 false (.bin .gtr l0 (.i 0)),e 2 false l0,y 0 true (.fa v3 0),i 1 true l0,e 2 true v6,y 3 true (.bin .sub l0 (.i 1)),y 4 true (.ia l2 l0 2),y 5 true (.fa l0 0),i 6 true l0,y 7 true (.fa v7 0),i 8 true l0,y 9 true (.ca N.jk 0 [] [.l 2,.l 0]),y 10 true (.un .not l0),y 14 false (.pk l11 l0 (.b false)),u (.pk (.l 15) (.b true) l0)] [] 0 (q [x 4 (.b false)] [] .ret) .skip) (q [x 8 (.i 0)] [] (.blk 2 K.qF))))) (.reg [m v6,u (.bin .add l0 (.i 1)),x 6 l0] [])))
def qG:C:= .loop true [0,1,4,7,8] K.cM
def dy:Fn:= { aP:=2,vars:=[0,1,2,3,4,5,6,7,8],body:=(q [w 2 (.bx v0 2),w 3 (.bx v1 1),x 4 (.b false)] [] (.seq (.ite [f 0 v3,g l0,u (.ln l0),u (.bin .lss l0 (.i 1)),m l0,y 0 false (.fa v3 0),i 1 false l0,y 2 false (.ln l0),y 3 false (.bin .gtr l0 (.i 24)),u (.pk l4 (.b true) l0),m l0,y 0 false (.ld v2 2 true),y 1 false (.ca N.cW 0 [] [.l 0]),y 2 false (.bin .neq l0 (.i 0)),u (.pk l3 (.b true) l0)] [] 0 (q [x 4 (.b false)] [] .ret) .skip) (q [f 0 v3,g l0,a 2 l0 (.i 0),f 0 l0,g l0,x 5 l0] [] (.seq (.ite [m v5,u (.ln l0),u (.bin .lss l0 (.i 1)),m l0,e 0 false v5,y 1 false (.ln l0),y 2 false (.bin .gtr l0 (.i 12)),u (.pk l3 (.b true) l0)] [] 0 (q [x 4 (.b false)] [] .ret) .skip) (.seq (q [x 6 (.i 0)] [] (.blk 0 K.qG)) (q [x 4 (.b true)] [] .ret)))))),res:=[(4,none)]}
def lQ:C:= (.seq (.ite [m v4,f 1 v1,g l0,u (.ln l0),u (.bin .lss l3 l0)] [] 0 .skip (.exit 0)) (.seq (.blk 1 (.reg [f 1 v3,g l0,f 1 v1,g l0,m v4,a 2 l1 l0,h 2 l0,u (.ca N.dv 0 [] [.l 0]),u (.bs [.l 0] 2),u (.app l7 l0 true 2),f 1 v3,u (.st l0 l1 1 [])] [(1,8),(1,9)])) (.reg [m v4,u (.bin .add l0 (.i 1)),x 4 l0] [])))
def qj:C:= .loop true [0] K.lQ
def bG:Fn:= { aP:=1,vars:=[0,1,2,3,4],body:=(q [w 1 (.bx v0 2),w 2 (.al [.nil,.nil] [])] [] (q [f 0 v1,g l0,u (.app (.c (.nil)) l0 true 1),u (.bd [.nil,.nil] [(0,1,.l 0)]),w 3 (.al [.nil,.nil] [(1,2)]),u (.st l0 l1 2 [(1,2)])] [] (.seq (q [x 4 (.i 0)] [] (.blk 0 K.qj)) (q [h 2 v3,u (.st v2 l0 2 [])] [] .ret)))),res:=[(2,some (2,true))]}
def jT:C:= (.seq (.ite [m v6,f 1 v3,g l0,u (.ln l0),u (.bin .lss l3 l0),m l0,e 0 true v6,y 1 true (.fa v4 1),i 2 true l0,y 3 true (.ln l0),y 4 true (.bin .lss l3 l0),u (.pk l5 l0 (.b false))] [] 0 .skip (.exit 0)) (.seq (.blk 1 (.ite [f 1 v3,g l0,m v6,a 1 l1 l0,g l0,m v2,u (.bin .leq l1 l0),m l0,y 0 true (.fa v4 1),i 1 true l0,e 2 true v6,y 3 true (.ia l1 l0 1),i 4 true l0,e 5 true v2,y 6 true (.bin .leq l1 l0),u (.pk l7 l0 (.b false))] [] 0 (q [x 5 (.b true)] [] .ret) .skip)) (.reg [m v6,u (.bin .add l0 (.i 1)),x 6 l0] [])))
def yQ:C:= .loop true [0,1,5] K.jT
def jQ:Fn:= { aP:=3,vars:=[0,1,2,3,4,6,7],body:=(q [w 3 (.bx v0 2),w 4 (.bx v1 2),x 5 (.b false)] [] (.seq (q [x 6 (.i 0)] [] (.blk 0 K.yQ)) (q [x 5 (.b false)] [] .ret))),res:=[(5,none)]}
def fN:Fn:= { aP:=2,vars:=[0,1,2,4,5],body:=(q [w 2 (.bx v0 2),w 3 (.al [z0,.nil] []),x 4 (.i 0)] [] (q [h 2 v2,u (.ca N.dv 0 [] [.l 0]),u (.st v2 l0 2 [])] [] (.seq (.ite [m v1,f 0 v2,g l0,u (.bin .lss l2 l0),m l0,e 0 false v1,y 1 false (.bin .gtr l0 (.i 2147483648)),u (.pk l2 (.b true) l0)] [] 0 (q [h 2 v2,u (.st v3 l0 2 []),x 4 (.i 8)] [] .ret) .skip) (q [m v1,f 0 v2,u (.st l0 l1 1 [])] [] (q [h 2 v2,u (.st v3 l0 2 []),x 4 (.i 0)] [] .ret))))),res:=[(3,some (2,true)),(4,none)]}
def lq:C:= (.seq (.ite [m v4,m v2,u (.ln l0),u (.bin .lss l2 l0),m l0,e 0 true v2,e 1 true v4,y 2 true (.ia l1 l0 2),y 3 true (.fa l0 0),i 4 true l0,e 5 true v0,e 6 true v3,y 7 true (.ia l1 l0 2),y 8 true (.fa l0 0),i 9 true l0,y 10 true (.ca N.jk 0 [] [.l 5,.l 0]),u (.pk l11 l0 (.b false))] [] 0 .skip (.exit 2)) (.blk 3 (.reg [m v4,u (.bin .add l0 (.i 1)),x 4 l0] [])))
def sD:C:= .loop false [1,5] K.lq
def nN:C:= (.seq (.ite [m v5,m v2,m v4,a 2 l1 l0,f 1 l0,g l0,u (.ln l0),u (.bin .lss l6 l0),m l0,e 0 true v5,e 1 true v0,e 2 true v3,y 3 true (.ia l1 l0 2),y 4 true (.fa l0 1),i 5 true l0,y 6 true (.ln l0),y 7 true (.bin .lss l6 l0),u (.pk l8 l0 (.b false))] [] 0 .skip (.exit 4)) (.seq (.blk 5 (.reg [m v2,m v4,a 2 l1 l0,f 1 l0,g l0,m v5,m v2,m v4,a 2 l1 l0,f 1 l0,g l0,m v5,a 2 l1 l0,h 2 l0,m v0,m v3,a 2 l1 l0,f 1 l0,g l0,m v5,a 2 l1 l0,h 2 l0,u (.ca N.jm 0 [] [.l 8,.l 0]),m l0,u (.ex l0 0),u (.ex l1 1),a 2 (.l 21) (.l 20),u (.st l0 l2 2 [])] [(2,23),(4,23)])) (.reg [m v5,u (.bin .add l0 (.i 1)),x 5 l0] [])))
def yR:C:= .loop false [1] K.nN
def ga:C:= (.seq (.ite [m v3,m v0,u (.ln l0),u (.bin .lss l2 l0)] [] 0 .skip (.exit 0)) (.seq (.blk 1 (q [x 4 (.i 0)] [] (.seq (.blk 2 K.sD) (.seq (.ite [m v4,m v2,u (.ln l0),u (.bin .lss l2 l0),m l0,e 0 true v2,e 1 true v4,y 2 true (.ia l1 l0 2),y 3 true (.fa l0 0),i 4 true l0,e 5 true v0,e 6 true v3,y 7 true (.ia l1 l0 2),y 8 true (.fa l0 0),i 9 true l0,y 10 true (.ca N.cE 0 [] [.l 5,.l 0]),u (.pk l11 l0 (.b false))] [] 0 (.seq (q [x 5 (.i 0)] [] (.blk 4 K.yR)) (.exit 1)) .skip) (.reg [m v2,m v4,u (.sc l1 none (some l0) 2),u (.app (.c (.nil)) l0 false 2),m v0,m v3,a 2 l1 l0,h 2 l0,u (.ca N.bG 1 [] [.l 0]),u (.bsr [.l 0] 2),u (.app l6 l0 false 2),m v2,m v4,u (.sc l1 (some l0) none 2),u (.app l3 l0 false 2),x 2 l0] [(6,0),(7,0),(13,0),(13,4),(13,9),(13,10)]))))) (.reg [m v3,u (.bin .add l0 (.i 1)),x 3 l0] [])))
def yS:C:= .loop false [1,4,5] K.ga
def jR:Fn:= { aP:=1,vars:=[0,2,3,4,5,6],body:=(q [w 1 (.mv (.c (.nil)))] [] (q [w 2 (.mv (.c (.nil)))] [] (.seq (q [x 3 (.i 0)] [] (.blk 0 K.yS)) (q [m v2,x 1 l0] [] .ret)))),res:=[(1,none)]}
def fO:Fn:= { aP:=3,vars:=[0,1,2,3,4,6],body:=(q [w 3 (.bx v0 2),w 4 (.bx v1 1),x 5 (.i 0)] [] (.seq (.ite [h 2 v3,h 1 v4,u (.ca N.dy 0 [] [.l 1,.l 0]),u (.un .not l0)] [] 0 (q [x 5 (.i 6)] [] .ret) .skip) (.seq (.ite [f 0 v4,g l0,a 2 l0 (.i 0),f 0 l0,g l0,m v2,u (.ca N.dS 0 [] [.l 1,.l 0]),u (.bin .lss l0 (.i 0))] [] 0 (q [x 5 (.i 41)] [] .ret) .skip) (q [x 5 (.i 0)] [] .ret)))),res:=[(5,none)]}
def lJ:C:= (.seq (.ite [m v3,m v0,u (.ln l0),u (.bin .lss l2 l0)] [] 0 .skip (.exit 0)) (.seq (.blk 1 (.ite [m v0,m v3,a 1 l1 l0,g l0,m v1,u (.bin .eql l1 l0)] [] 0 (q [m v3,x 2 l0] [] .ret) .skip)) (.reg [m v3,u (.bin .add l0 (.i 1)),x 3 l0] [])))
def uH:C:= .loop true [2] K.lJ
def dS:Fn:= { aP:=2,vars:=[0,1,4,5],body:=(q [x 2 (.i 0)] [] (.seq (q [x 3 (.i 0)] [] (.blk 0 K.uH)) (q [w 2 (.mv (.i (-1)))] [] .ret))),res:=[(2,none)]}
def oU:C:= (.seq (.ite [m v12,m v2,u (.ln l0),u (.bin .lss l2 l0)] [] 0 .skip (.exit 0)) (.seq (.blk 1 (q [m v2,m v12,a 1 l1 l0,g l0,x 13 l0] [] (.ite [f 1 v6,g l0,m v13,a 1 l1 l0,g l0,m v4,u (.bin .leq l1 l0)] [] 0 (.reg [m v10,m v13,f 1 v6,g l0,m v13,a 1 l1 l0,g l0,a 1 l6 l5,u (.st l0 l1 1 []),x 11 (.b true)] []) .skip))) (.reg [m v12,u (.bin .add l0 (.i 1)),x 12 l0] [])))
def AZ:C:= .loop true [0,1,8,9,13] K.oU
def jN:Fn:= { aP:=5,vars:=[0,1,2,3,4,5,6,10,11,12,13,14,15,16],body:=(q [w 5 (.bx v0 2),w 6 (.bx v1 2),w 7 (.al [z0,.nil] []),x 8 (.i 0)] [] (.seq (q [h 2 v5,h 2 v6,m v2,m v3,m v4,u (.ca N.dz 0 [] [.l 4,.l 3,.l 2,.l 1,.l 0]),x 9 l0] [] (.ite [m v9,u (.bin .neq l0 (.i 0))] [] 0 (q [h 2 v6,u (.ca N.dv 0 [] [.l 0]),m v9,u (.st v7 l1 2 []),x 8 l1] [] .ret) .skip)) (.seq (.ite [m v3,f 0 v6,g l0,u (.bin .lss l2 l0)] [] 0 (q [h 2 v6,u (.ca N.dv 0 [] [.l 0]),u (.st v7 l0 2 []),x 8 (.i 42)] [] .ret) .skip) (q [f 0 v5,g l0,u (.ln l0),u (.ca N.ir 1 [] [.l 0]),x 10 l0] [] (q [x 11 (.b false)] [] (.seq (q [x 12 (.i 0)] [] (.blk 0 K.AZ)) (.seq (.ite [m v11,u (.un .not l0)] [] 0 (q [h 2 v6,u (.ca N.dv 0 [] [.l 0]),u (.st v7 l0 2 []),x 8 (.i 43)] [] .ret) .skip) (q [m v4,h 2 v5,m v10,m v3,u (.ca N.eV 0 [] [.l 2,.l 1,.l 0]),u (.bd [z0,.nil] [(0,1,.l 4),(1,1,.l 0)]),u (.st v7 l0 2 []),x 8 (.i 0)] [] .ret)))))))),res:=[(7,some (2,true)),(8,none)]}
def oy:C:= (.seq (.ite [m v12,m v2,u (.ln l0),u (.bin .lss l2 l0)] [] 0 .skip (.exit 0)) (.seq (.blk 1 (.reg [m v11,m v2,m v12,a 1 l1 l0,g l0,a 1 l4 l0,u (.st l0 (.i 1099511627776) 1 [])] [])) (.reg [m v12,u (.bin .add l0 (.i 1)),x 12 l0] [])))
def uI:C:= .loop true [0,1,3,7,9,10] K.oy
def dT:Fn:= { aP:=6,vars:=[0,1,2,3,4,5,6,7,12,13,14,15,16],body:=(q [w 6 (.bx v0 2),w 7 (.bx v1 2),w 8 (.al [z0,.nil] []),x 9 (.i 0)] [] (.seq (q [h 2 v6,h 2 v7,m v2,m v3,m v4,u (.ca N.dz 0 [] [.l 4,.l 3,.l 2,.l 1,.l 0]),x 10 l0] [] (.ite [m v10,u (.bin .neq l0 (.i 0))] [] 0 (q [h 2 v7,u (.ca N.dv 0 [] [.l 0]),m v10,u (.st v8 l1 2 []),x 9 l1] [] .ret) .skip)) (.seq (.ite [m v5,u (.ca N.eE 0 [] [.l 0]),u (.un .not l0)] [] 0 (q [h 2 v7,u (.ca N.dv 0 [] [.l 0]),u (.st v8 l0 2 []),x 9 (.i 8)] [] .ret) .skip) (.seq (.ite [m v4,f 0 v7,g l0,u (.bin .lss l2 l0)] [] 0 (q [h 2 v7,u (.ca N.dv 0 [] [.l 0]),u (.st v8 l0 2 []),x 9 (.i 42)] [] .ret) .skip) (.seq (.ite [m v4,m v3,f 0 v7,g l0,u (.mx [.l 2,.l 0]),u (.bin .sub l4 l0),m v5,u (.bin .leq l1 l0)] [] 0 (q [h 2 v7,u (.ca N.dv 0 [] [.l 0]),u (.st v8 l0 2 []),x 9 (.i 0)] [] .ret) .skip) (q [f 1 v7,g l0,u (.app (.c (.nil)) l0 true 1),x 11 l0] [] (.seq (q [x 12 (.i 0)] [] (.blk 0 K.uI)) (q [m v4,h 2 v6,h 2 v6,m v11,m v4,m v5,u (.bin .sub l1 l0),m v2,u (.ca N.gL 0 [3] [.l 5,.l 4,.l 1,.l 0]),m v4,u (.ca N.eV 0 [] [.l 8,.l 1,.l 0]),u (.bd [z0,.nil] [(0,1,.l 10),(1,1,.l 0)]),u (.st v8 l0 2 []),x 9 (.i 0)] [(1,9)] .ret)))))))),res:=[(8,some (2,true)),(9,none)]}
def mE:C:= (.its [u (.bin .lss v6 v5)] [] 0 .skip (.exit 0) (.seq (.blk 1 (q [m v6,x 4 l0] [] (.ite [m v1,m v4,u (.cw l1 0 [] [.l 0])] [] 0 (.reg [m v3,m v4,u (.bs [.l 0] 1),u (.app l2 l0 true 1),x 3 l0] []) .skip))) (.reg [u (.bin .add v6 (.i 1)),x 6 l0] [])))
def wY:C:= .loop true [0,2,4] K.mE
def eU:Fn:= { aP:=2,vars:=[0,1,4,5,6,7,8],body:=(q [w 2 (.mv (.c (.nil)))] [] (q [w 3 (.nw 1)] [] (.seq (q [x 5 v0,x 6 (.i 0)] [] (.blk 0 K.wY)) (q [m v3,x 2 l0] [] .ret)))),res:=[(2,none)]}
def aK:Fn:= { aP:=2,vars:=[0,1,4],body:=(q [x 2 (.b false)] [] (q [m v0,m v1,u (.ca N.aI 0 [] [.l 1,.l 0]),u (.bin .geq l0 (.i 0)),x 2 l0] [] .ret)),res:=[(2,none)]}
def aQ:Fn:= { aP:=2,vars:=[0,1,4],body:=(q [x 2 (.b false)] [] (q [m v0,m v1,u (.ca N.bV 0 [] [.l 1,.l 0]),u (.bin .geq l0 (.i 0)),x 2 l0] [] .ret)),res:=[(2,none)]}
def eQ:Fn:= { aP:=3,vars:=[0,1,2,3,4,5,6],body:=(q [w 3 (.bx v0 1),w 4 (.bx v1 1),w 5 (.bx v2 1),w 6 (.mv (.c (.nil)))] [] (q [u (.mf N.cL [.v 3,.v 4,.v 5]),u (.ca N.eU 0 [] [.i 64,.l 0]),x 6 l0] [] .ret)),res:=[(6,none)]}
def jj:Fn:= { aP:=3,vars:=[0,1,2,3,6],body:=(q [w 3 (.bx v0 2),x 4 (.b false)] [] (q [m v1,f 0 v3,g l0,u (.bin .leq l2 l0),m l0,y 0 true (.fa v3 0),i 1 true l0,y 2 true (.fa v3 1),i 3 true l0,y 4 true (.bin .leq l2 l0),u (.pk l5 l0 (.b false)),m l0,y 0 true (.fa v3 1),i 1 true l0,e 2 true v2,y 3 true (.bin .leq l1 l0),u (.pk l4 l0 (.b false)),x 4 l0] [] .ret)),res:=[(4,none)]}
def eE:Fn:= { aP:=1,vars:=[0,2],body:=(q [x 1 (.b false)] [] (q [m v0,u (.bin .geq l0 (.i 0)),m l0,e 0 true v0,y 1 true (.bin .leq l0 (.i 2147483648)),u (.pk l2 l0 (.b false)),x 1 l0] [] .ret)),res:=[(1,none)]}
def pH:C:= (.seq (.ite [m v3,m v0,u (.bin .lss l1 l0)] [] 0 .skip (.exit 0)) (.seq (.blk 1 (.reg [m v2,u (.bs [.i 1099511627776] 1),u (.app l1 l0 true 1),x 2 l0] [])) (.reg [m v3,u (.bin .add l0 (.i 1)),x 3 l0] [])))
def wZ:C:= .loop true [1] K.pH
def ir:Fn:= { aP:=1,vars:=[0,2,3,4],body:=(q [w 1 (.mv (.c (.nil)))] [] (q [w 2 (.nw 1)] [] (.seq (q [x 3 (.i 0)] [] (.blk 0 K.wZ)) (q [m v2,x 1 l0] [] .ret)))),res:=[(1,none)]}
def eV:Fn:= { aP:=3,vars:=[0,1,2,3,6],body:=(q [w 3 (.bx v0 2),w 4 (.mv (.c (.nil)))] [] (q [h 2 v3,m v1,m v2,u (.ca N.gL 0 [3] [.l 2,.l 1,.l 0,.c (.nil)]),x 4 l0] [] .ret)),res:=[(4,none)]}
def jU:C:= (.seq (.ite [m v3,m v0,u (.ln l0),u (.bin .lss l2 l0),m l0,e 0 true v3,e 1 true v1,y 2 true (.ln l0),y 3 true (.bin .lss l2 l0),u (.pk l4 l0 (.b false))] [] 0 .skip (.exit 0)) (.seq (.blk 1 (.ite [m v0,m v3,a 1 l1 l0,g l0,m v1,m v3,a 1 l1 l0,g l0,u (.bin .neq l4 l0)] [] 0 (q [m v0,m v3,a 1 l1 l0,g l0,m v1,m v3,a 1 l1 l0,g l0,u (.bin .lss l4 l0),x 2 l0] [] .ret) .skip)) (.reg [m v3,u (.bin .add l0 (.i 1)),x 3 l0] [])))
def yT:C:= .loop true [2] K.jU
def jk:Fn:= { aP:=2,vars:=[0,1,4,5],body:=(q [x 2 (.b false)] [] (.seq (q [x 3 (.i 0)] [] (.blk 0 K.yT)) (q [m v0,u (.ln l0),m v1,u (.ln l0),u (.bin .lss l2 l0),x 2 l0] [] .ret))),res:=[(2,none)]}
def gK:Fn:= { aP:=2,vars:=[0,1,2,3,4],body:=(q [w 2 (.bx v0 2),w 3 (.bx v1 2),x 4 (.b false)] [] (q [h 2 v2,u (.ca N.cW 0 [] [.l 0]),u (.bin .eql l0 (.i 0)),m l0,y 0 true (.ld v3 2 true),y 1 true (.fa v2 0),i 2 true l0,y 3 true (.ln l0),y 4 true (.ca N.eu 0 [] [.l 3,.l 0]),u (.pk l5 l0 (.b false)),m l0,y 0 true (.ld v2 2 true),y 1 true (.fa v3 1),i 2 true l0,y 3 true (.fa v3 0),i 4 true l0,y 5 true (.ca N.eV 0 [] [.l 4,.l 2,.l 0]),y 6 true (.fa v3 1),i 7 true l0,y 8 true (.ca N.cE 0 [] [.l 2,.l 0]),u (.pk l9 l0 (.b false)),x 4 l0] [(18,9)] .ret)),res:=[(4,none)]}
def dv:Fn:= { aP:=1,vars:=[0,1,2],body:=(q [w 1 (.bx v0 2),w 2 (.al [z0,.nil] [])] [] (q [f 0 v1,g l0,f 1 v1,g l0,u (.app (.c (.nil)) l0 true 1),u (.bd [z0,.nil] [(0,1,.l 3),(1,1,.l 0)]),u (.st v2 l0 2 [])] [(1,5)] .ret)),res:=[(2,some (2,true))]}
def kg:C:= (.seq (.ite [m v3,m v0,u (.ln l0),u (.bin .lss l2 l0)] [] 0 .skip (.exit 0)) (.seq (.blk 1 (.ite [m v0,m v3,a 1 l1 l0,g l0,m v1,m v3,a 1 l1 l0,g l0,u (.bin .neq l4 l0)] [] 0 (q [x 2 (.b false)] [] .ret) .skip)) (.reg [m v3,u (.bin .add l0 (.i 1)),x 3 l0] [])))
def rP:C:= .loop true [2] K.kg
def cE:Fn:= { aP:=2,vars:=[0,1,4,5],body:=(q [x 2 (.b false)] [] (.seq (.ite [m v0,u (.ln l0),m v1,u (.ln l0),u (.bin .neq l2 l0)] [] 0 (q [x 2 (.b false)] [] .ret) .skip) (.seq (q [x 3 (.i 0)] [] (.blk 0 K.rP)) (q [x 2 (.b true)] [] .ret)))),res:=[(2,none)]}
def qH:C:= (.seq (.ite [m v7,f 1 v2,g l0,u (.ln l0),u (.bin .lss l3 l0)] [] 0 .skip (.exit 0)) (.seq (.blk 1 (.reg [f 1 v6,g l0,f 1 v2,g l0,m v7,a 1 l1 l0,g l0,f 1 v3,g l0,m v7,a 1 l1 l0,g l0,u (.mn [.l 5,.l 0]),u (.bs [.l 0] 1),u (.app (.l 12) l0 true 1),f 1 v6,u (.st l0 l1 1 [])] [(1,14)])) (.reg [m v7,u (.bin .add l0 (.i 1)),x 7 l0] [])))
def yU:C:= .loop true [0,1,5] K.qH
def jm:Fn:= { aP:=2,vars:=[0,1,2,3,4,5,6,7],body:=(q [w 2 (.bx v0 2),w 3 (.bx v1 2),w 4 (.al [z0,.nil] []),x 5 (.i 0)] [] (.seq (.ite [f 1 v2,g l0,u (.ln l0),f 1 v3,g l0,u (.ln l0),u (.bin .neq l3 l0)] [] 0 (q [u (.bd [z0,.nil] []),u (.st v4 l0 2 []),x 5 (.i 6)] [] .ret) .skip) (q [f 0 v2,g l0,f 0 v3,g l0,u (.mx [.l 2,.l 0]),u (.bd [z0,.nil] [(0,1,.l 0)]),w 6 (.al [z0,.nil] [(1,1)]),u (.st l0 l1 2 [(1,1)])] [] (.seq (q [x 7 (.i 0)] [] (.blk 0 K.yU)) (q [h 2 v6,u (.st v4 l0 2 []),x 5 (.i 0)] [] .ret))))),res:=[(4,some (2,true)),(5,none)]}
def dz:Fn:= { aP:=5,vars:=[0,1,2,3,4,5,6,10],body:=(q [w 5 (.bx v0 2),w 6 (.bx v1 2),x 7 (.i 0)] [] (.seq (.ite [h 2 v5,h 2 v6,u (.ca N.gK 0 [] [.l 1,.l 0]),u (.un .not l0),m l0,e 0 false v2,y 1 false (.ln l0),y 2 false (.bin .eql l0 (.i 0)),u (.pk l3 (.b true) l0),m l0,e 0 false v2,y 1 false (.fa v5 0),i 2 false l0,y 3 false (.ln l0),y 4 false (.ca N.iq 0 [] [.l 3,.l 0]),y 5 false (.un .not l0),u (.pk l6 (.b true) l0)] [] 0 (q [x 7 (.i 6)] [] .ret) .skip) (.seq (.ite [m v3,u (.ca N.eE 0 [] [.l 0]),u (.un .not l0),m l0,e 0 false v4,y 1 false (.ca N.eE 0 [] [.l 0]),y 2 false (.un .not l0),u (.pk l3 (.b true) l0),m l0,e 0 false v3,e 1 false v4,y 2 false (.bin .gtr l1 l0),u (.pk l3 (.b true) l0)] [] 0 (q [x 7 (.i 8)] [] .ret) .skip) (q [x 7 (.i 0)] [] .ret)))),res:=[(7,none)]}
def gw:C:= (.seq (.ite [m v8,f 1 v4,g l0,u (.ln l0),u (.bin .lss l3 l0)] [] 0 .skip (.exit 2)) (.seq (.blk 3 (q [f 1 v4,g l0,m v8,a 10 l1 l0,h 10 l0,w 9 (.al [z0,z0,z0,z0,z1,z1,z0,z0,z0,z0] []),u (.st l0 l1 10 [])] [] (.seq (.ite [m v3,u (.eqk (.sl) false l0 (.c (.nil))),m l0,e 0 false v3,y 1 false (.fa v9 1),i 2 false l0,y 3 false (.ca N.c7 0 [] [.l 2,.l 0]),u (.pk l4 (.b true) l0),m l0,e 0 true v6,y 1 true (.fa v9 0),i 2 true l0,y 3 true (.fa v9 1),i 4 true l0,y 5 true (.ld v4 2 true),e 6 true v8,y 7 true (.ca N.jq 0 [] [.l 1,.l 0,.b false]),e 8 true v2,y 9 true (.ca N.ez 0 [0] [.l 8,.l 6,.l 4,.l 1,.l 0]),u (.pk l10 l0 (.b false))] [(11,17),(13,17)] 0 (.reg [x 7 (.b true)] []) .skip) (.ite [m v3,u (.eqk (.sl) false l0 (.c (.nil))),m l0,e 0 false v3,y 1 false (.fa v9 0),i 2 false l0,y 3 false (.ca N.c7 0 [] [.l 2,.l 0]),u (.pk l4 (.b true) l0),m l0,e 0 true v6,y 1 true (.fa v9 1),i 2 true l0,y 3 true (.fa v9 0),i 4 true l0,y 5 true (.ld v4 2 true),e 6 true v8,y 7 true (.ca N.jq 0 [] [.l 1,.l 0,.b true]),e 8 true v2,y 9 true (.ca N.ez 0 [0] [.l 8,.l 6,.l 4,.l 1,.l 0]),u (.pk l10 l0 (.b false))] [(11,17),(13,17)] 0 (.reg [x 7 (.b true)] []) .skip)))) (.reg [m v8,u (.bin .add l0 (.i 1)),x 8 l0] [])))
def w7:C:= .loop true [0,1,5,9] K.gw
def mF:C:= (.seq (.ite [m v7] [] 0 .skip (.exit 0)) (.blk 1 (q [x 7 (.b false)] [] (q [x 8 (.i 0)] [] (.blk 2 K.w7)))))
def w8:C:= .loop true [0,1,5,8,9] K.mF
def gL:Fn:= { aP:=4,vars:=[0,1,2,3,4,8,9,10,11,12],body:=(q [w 4 (.bx v0 2),w 5 (.mv (.c (.nil)))] [] (q [m v1,u (.app (.c (.nil)) l0 true 1),x 6 l0] [] (.seq (q [x 7 (.b true)] [] (.blk 0 K.w8)) (q [m v6,x 5 l0] [] .ret)))),res:=[(5,none)]}
def aY:C:= (.its [u (.bin .lss v5 v4)] [] 0 .skip (.exit 0) (.seq (.blk 1 (q [m v5,x 3 l0] [] (.ite [m v1,m v0,m v3,a 1 l1 l0,g l0,u (.cw l4 0 [] [.l 0])] [] 0 (q [m v3,x 2 l0] [] .ret) .skip))) (.reg [u (.bin .add v5 (.i 1)),x 5 l0] [])))
def eY:C:= .loop true [2,3] K.aY
def aI:Fn:= { aP:=2,vars:=[0,1,4,5,7,8],body:=(q [x 2 (.i 0)] [] (.seq (q [m v0,w 4 (.ln l0),x 5 (.i 0)] [] (.blk 0 K.eY)) (q [w 2 (.mv (.i (-1)))] [] .ret))),res:=[(2,none)]}
def gG:C:= (.its [u (.bin .lss v5 v4)] [] 0 .skip (.exit 0) (.seq (.blk 1 (q [m v5,x 3 l0] [] (.ite [m v1,m v0,m v3,a 1 l1 l0,g l0,u (.bin .eql l4 l0)] [] 0 (q [m v3,x 2 l0] [] .ret) .skip))) (.reg [u (.bin .add v5 (.i 1)),x 5 l0] [])))
def mG:C:= .loop true [2,3] K.gG
def bV:Fn:= { aP:=2,vars:=[0,1,4,5,7,8],body:=(q [x 2 (.i 0)] [] (.seq (q [m v0,w 4 (.ln l0),x 5 (.i 0)] [] (.blk 0 K.mG)) (q [w 2 (.mv (.i (-1)))] [] .ret))),res:=[(2,none)]}
def cL:Fn:= { aP:=4,vars:=[0,1,2,3,4,5],body:=(q [w 4 (.bx v0 1),x 5 (.b false)] [] (q [f 0 v1,g l0,u (.mf N.bB [.v 2,.v 4,.v 3]),u (.ca N.aA 0 [] [.l 1,.l 0]),x 5 l0] [] .ret)),res:=[(5,none)]}
def aA:Fn:= { aP:=2,vars:=[0,1,4],body:=(q [x 2 (.b false)] [] (q [m v0,m v1,u (.ca N.aJ 0 [] [.l 1,.l 0]),u (.bin .geq l0 (.i 0)),x 2 l0] [] .ret)),res:=[(2,none)]}
def bB:Fn:= { aP:=4,vars:=[0,1,2,3,4,5],body:=(q [w 4 (.bx v0 2),x 5 (.b false)] [] (q [g v1,f 1 v4,g l0,u (.ln l0),u (.bin .sub l0 (.i 1)),u (.ca N.eW 0 [] [.l 4,.i 0,.l 0]),m l0,i 0 true v2,y 1 true (.fa v4 1),i 2 true l0,i 3 true v1,y 4 true (.ia l1 l0 2),y 5 true (.fa l0 1),i 6 true l0,y 7 true (.ln l0),y 8 true (.bin .lss l7 l0),u (.pk l9 l0 (.b false)),m l0,y 0 true (.fa v4 1),i 1 true l0,i 2 true v1,y 3 true (.ia l1 l0 2),y 4 true (.fa l0 1),i 5 true l0,i 6 true v2,y 7 true (.ia l1 l0 1),i 8 true l0,i 9 true v3,y 10 true (.bin .leq l1 l0),u (.pk l11 l0 (.b false)),x 5 l0] [] .ret)),res:=[(5,none)]}
def eW:Fn:= { aP:=3,vars:=[0,1,2,6],body:=(q [x 3 (.b false)] [] (q [m v0,m v1,u (.bin .geq l1 l0),m l0,e 0 true v0,e 1 true v2,y 2 true (.bin .leq l1 l0),u (.pk l3 l0 (.b false)),x 3 l0] [] .ret)),res:=[(3,none)]}
def jt:C:= (.seq (.ite [m v4,f 1 v2,g l0,u (.ln l0),u (.bin .lss l3 l0)] [] 0 .skip (.exit 0)) (.seq (.blk 1 (.ite [f 1 v2,g l0,m v4,a 1 l1 l0,g l0,u (.bin .neq l0 (.i 1099511627776)),m l0,y 0 true (.fa v2 1),i 1 true l0,e 2 true v4,y 3 true (.ia l1 l0 1),i 4 true l0,y 5 true (.bin .lss l0 (.i 0)),e 6 true l0,y 0 false (.fa v2 1),i 1 false l0,e 2 false v4,y 3 false (.ia l1 l0 1),i 4 false l0,y 5 false (.bin .gtr l0 (.i 2147483648)),y 13 true (.pk l6 (.b true) l0),u (.pk (.l 14) l0 (.b false))] [] 0 (q [x 3 (.b false)] [] .ret) .skip)) (.reg [m v4,u (.bin .add l0 (.i 1)),x 4 l0] [])))
def w9:C:= .loop true [0,1,3] K.jt
def eu:Fn:= { aP:=2,vars:=[0,1,2,4,5],body:=(q [w 2 (.bx v0 2),x 3 (.b false)] [] (.seq (.ite [f 1 v2,g l0,u (.ln l0),m v1,u (.bin .neq l1 l0),m l0,y 0 false (.fa v2 0),i 1 false l0,y 2 false (.bin .lss l0 (.i 0)),u (.pk l3 (.b true) l0),m l0,y 0 false (.fa v2 0),i 1 false l0,y 2 false (.bin .gtr l0 (.i 2147483648)),u (.pk l3 (.b true) l0)] [] 0 (q [x 3 (.b false)] [] .ret) .skip) (.seq (q [x 4 (.i 0)] [] (.blk 0 K.w9)) (q [x 3 (.b true)] [] .ret)))),res:=[(3,none)]}
def ez:Fn:= { aP:=5,vars:=[0,1,2,3,4,10,11],body:=(q [x 5 (.b false)] [] (.seq (.ite [m v3,u (.bin .lss l0 (.i 0)),m l0,e 0 false v0,e 1 false v1,y 2 false (.ia l1 l0 1),i 3 false l0,y 4 false (.bin .geq l0 (.i 1099511627776)),u (.pk l5 (.b true) l0)] [] 0 (q [x 5 (.b false)] [] .ret) .skip) (q [m v4,m v0,m v1,a 1 l1 l0,g l0,m v3,u (.bin .add l1 l0),u (.mx [.l 6,.l 0]),x 6 l0] [] (.seq (.ite [m v6,u (.bin .gtr l0 (.i 2147483648)),m l0,e 0 false v6,e 1 false v0,e 2 false v2,y 3 false (.ia l1 l0 1),i 4 false l0,y 5 false (.bin .geq l4 l0),u (.pk l6 (.b true) l0)] [] 0 (q [x 5 (.b false)] [] .ret) .skip) (q [m v0,m v2,m v6,a 1 l2 l1,u (.st l0 l1 1 [])] [] (q [x 5 (.b true)] [] .ret)))))),res:=[(5,none)]}
def jq:Fn:= { aP:=3,vars:=[0,1,2,3,6],body:=(q [w 3 (.bx v0 2),x 4 (.i 0)] [] (q [h 2 v3,m v1,m v2,u (.ca N.cJ 0 [] [.l 2,.l 1,.l 0,.i 6,.i 9,.i 12]),x 4 l0] [] .ret)),res:=[(4,none)]}
def bZ:C:= (.its [u (.bin .lss v5 v4)] [] 0 .skip (.exit 0) (.seq (.blk 1 (q [m v5,x 3 l0] [] (.ite [m v1,m v0,m v3,a 2 l1 l0,h 2 l0,u (.cw l4 0 [] [.l 0])] [] 0 (q [m v3,x 2 l0] [] .ret) .skip))) (.reg [u (.bin .add v5 (.i 1)),x 5 l0] [])))
def gx:C:= .loop true [2,3] K.bZ
def aJ:Fn:= { aP:=2,vars:=[0,1,4,5,7,8],body:=(q [x 2 (.i 0)] [] (.seq (q [m v0,w 4 (.ln l0),x 5 (.i 0)] [] (.blk 0 K.gx)) (q [w 2 (.mv (.i (-1)))] [] .ret))),res:=[(2,none)]}
def cJ:Fn:= { aP:=6,vars:=[0,1,2,3,4,5,6,12,13,14,15,16,17],body:=(q [w 6 (.bx v0 2),x 7 (.i 0)] [] (.seq (.ite [h 2 v6,u (.ca N.cW 0 [] [.l 0]),u (.bin .neq l0 (.i 0)),m l0,e 0 false v1,y 1 false (.bin .lss l0 (.i 0)),u (.pk l2 (.b true) l0),m l0,e 0 false v1,y 1 false (.fa v6 1),i 2 false l0,y 3 false (.ln l0),y 4 false (.bin .geq l3 l0),u (.pk l5 (.b true) l0),m l0,y 0 false (.fa v6 1),i 1 false l0,e 2 false v1,y 3 false (.ia l1 l0 10),y 4 false (.fa l0 5),i 5 false l0,u (.pk l6 (.b true) l0),m l0,y 0 false (.fa v6 1),i 1 false l0,e 2 false v1,y 3 false (.ia l1 l0 10),y 4 false (.fa l0 4),i 5 false l0,y 6 false (.un .not l0),u (.pk l7 (.b true) l0)] [] 0 (q [w 7 (.mv (.i (-1)))] [] .ret) .skip) (q [f 1 v6,g l0,m v1,a 10 l1 l0,h 10 l0,w 8 (.al [z0,z0,z0,z0,z1,z1,z0,z0,z0,z0] []),u (.st l0 l1 10 [])] [] (q [h 10 v8,m v2,u (.ca N.jS 0 [] [.l 1,.l 0]),m l0,u (.ex l0 0),u (.ex l1 1),x 9 l1,x 10 l1] [] (q [f 0 v6,g l0,m v10,a 2 l1 l0,f 0 l0,g l0,f 0 v6,g l0,m v9,a 2 l1 l0,f 0 l0,g l0,u (.bin .sub l6 l0),x 11 l0] [] (q [m v5,x 12 l0] [] (.seq (.ite [m v11,u (.bin .mul (.i 10) l0),f 2 v8,g l0,u (.bin .gtr l2 l0)] [] 0 (.reg [m v3,x 12 l0] []) .skip) (.seq (.ite [m v11,u (.bin .mul (.i (-10)) l0),f 2 v8,g l0,u (.bin .gtr l2 l0)] [] 0 (.reg [m v4,x 12 l0] []) .skip) (q [f 2 v8,g l0,u (.bin .mul (.i 10) l0),m v12,u (.bin .add l1 l0),u (.bin .sub l0 (.i 1)),m v12,u (.bin .quo l1 l0),x 7 l0] [] .ret))))))))),res:=[(7,none)]}
def jS:Fn:= { aP:=2,vars:=[0,1,2,4,5],body:=(q [w 2 (.bx v0 10),x 3 (.i 0),x 4 (.i 0)] [] (.seq (.ite [m v1] [] 0 (q [f 1 v2,g l0,f 0 v2,g l0,x 3 l2,x 4 l1] [] .ret) .skip) (q [f 0 v2,g l0,f 1 v2,g l0,x 3 l2,x 4 l1] [] .ret))),res:=[(3,none),(4,none)]}
end Go.Ev.K
namespace Go.Ev
class bM [Lib]:Prop where
 qk:Lib.fs N.fh=some K.fh
 sE:Lib.fs N.dy=some K.dy
 kE:Lib.fs N.bG=some K.bG
 uJ:Lib.fs N.jQ=some K.jQ
 sF:Lib.fs N.fN=some K.fN
 uK:Lib.fs N.jR=some K.jR
 sG:Lib.fs N.fO=some K.fO
 qI:Lib.fs N.dS=some K.dS
 xL:Lib.fs N.jN=some K.jN
 qJ:Lib.fs N.dT=some K.dT
 sH:Lib.fs N.eU=some K.eU
 gM:Lib.fs N.aK=some K.aK
 iW:Lib.fs N.aQ=some K.aQ
 oz:Lib.fs N.eQ=some K.eQ
 uL:Lib.fs N.jj=some K.jj
 qK:Lib.fs N.eE=some K.eE
 sI:Lib.fs N.ir=some K.ir
 sJ:Lib.fs N.eV=some K.eV
 uM:Lib.fs N.jk=some K.jk
 sK:Lib.fs N.gK=some K.gK
 uO:Lib.fs N.dv=some K.dv
 oA:Lib.fs N.cE=some K.cE
 uP:Lib.fs N.jm=some K.jm
 sL:Lib.fs N.dz=some K.dz
 sM:Lib.fs N.gL=some K.gL
 dM:Lib.fs N.aI=some K.aI
 j4:Lib.fs N.bV=some K.bV
 mH:Lib.fs N.cL=some K.cL
 dn:Lib.fs N.aA=some K.aA
 kO:Lib.fs N.bB=some K.bB
 Af:Lib.fs N.eW=some K.eW
 sN:Lib.fs N.eu=some K.eu
 sO:Lib.fs N.ez=some K.ez
 uQ:Lib.fs N.jq=some K.jq
 dJ:Lib.fs N.aJ=some K.aJ
 qL:Lib.fs N.cJ=some K.cJ
 uS:Lib.fs N.jS=some K.jS
namespace K
variable [Lib] [bM]
theorem qk:Lib.fs N.fh=some K.fh:=bM.qk
theorem sE:Lib.fs N.dy=some K.dy:=bM.sE
theorem kE:Lib.fs N.bG=some K.bG:=bM.kE
theorem uJ:Lib.fs N.jQ=some K.jQ:=bM.uJ
theorem sF:Lib.fs N.fN=some K.fN:=bM.sF
theorem uK:Lib.fs N.jR=some K.jR:=bM.uK
theorem sG:Lib.fs N.fO=some K.fO:=bM.sG
theorem qI:Lib.fs N.dS=some K.dS:=bM.qI
theorem xL:Lib.fs N.jN=some K.jN:=bM.xL
theorem qJ:Lib.fs N.dT=some K.dT:=bM.qJ
theorem sH:Lib.fs N.eU=some K.eU:=bM.sH
theorem gM:Lib.fs N.aK=some K.aK:=bM.gM
theorem iW:Lib.fs N.aQ=some K.aQ:=bM.iW
theorem oz:Lib.fs N.eQ=some K.eQ:=bM.oz
theorem uL:Lib.fs N.jj=some K.jj:=bM.uL
theorem qK:Lib.fs N.eE=some K.eE:=bM.qK
theorem sI:Lib.fs N.ir=some K.ir:=bM.sI
theorem sJ:Lib.fs N.eV=some K.eV:=bM.sJ
theorem uM:Lib.fs N.jk=some K.jk:=bM.uM
theorem sK:Lib.fs N.gK=some K.gK:=bM.sK
theorem uO:Lib.fs N.dv=some K.dv:=bM.uO
theorem oA:Lib.fs N.cE=some K.cE:=bM.oA
theorem uP:Lib.fs N.jm=some K.jm:=bM.uP
theorem sL:Lib.fs N.dz=some K.dz:=bM.sL
theorem sM:Lib.fs N.gL=some K.gL:=bM.sM
theorem dM:Lib.fs N.aI=some K.aI:=bM.dM
theorem j4:Lib.fs N.bV=some K.bV:=bM.j4
theorem mH:Lib.fs N.cL=some K.cL:=bM.mH
theorem dn:Lib.fs N.aA=some K.aA:=bM.dn
theorem kO:Lib.fs N.bB=some K.bB:=bM.kO
theorem Af:Lib.fs N.eW=some K.eW:=bM.Af
theorem sN:Lib.fs N.eu=some K.eu:=bM.sN
theorem sO:Lib.fs N.ez=some K.ez:=bM.sO
theorem uQ:Lib.fs N.jq=some K.jq:=bM.uQ
theorem dJ:Lib.fs N.aJ=some K.aJ:=bM.dJ
theorem qL:Lib.fs N.cJ=some K.cJ:=bM.qL
theorem uS:Lib.fs N.jS=some K.jS:=bM.uS
end K
end Go.Ev
namespace Go.Ev
open Go
variable [Lib]
noncomputable def aD:aW:=pz Lib.fs
theorem ao{raw f:Nat}{args:List D}{H:aq}{fn:Fn}{r:D×aq}(hf:Lib.fs f=some fn)(hn:fn.aP=args.length)
 (h:(exS aD fn.body ⟨wP args fn.vars,H⟩).bind (agA fn.res H.length raw)=some r) (h0:fn.prim=[]:=by rfl):aD raw f args H=some r:=XW hf hn h h0
theorem CG{raw f:Nat}{args:List D}{H:aq}{fn:Fn}{r:D×aq}(hf:Lib.fs f=some fn)(h0:fn.prim≠[])(h:Bl fn.prim args H=some r):aD raw f args H=some r:=MQ hf h0 h
theorem bk{gc:Bool}{dead:List Nat}{c:C}{vs:List D}{H:aq}(s:Nat→St)(n:Nat){e:Ex}{st:St}
 (h0:(⟨mr dead vs,H⟩:St)=s 0) (h:∀j,j<n→gE gc dead (s j).H.length (exS aD c (s j))=some (s (j+1)))
 (he:exS aD c (s n)=some (e,st)) (hn:e≠ .normal):exS aD (.loop gc dead c) ⟨vs,H⟩=some (e,st):=by
 show nW gc dead (exS aD c) ⟨mr dead vs,H⟩=_
 rw[h0]
 exact BM s n h (eD he hn)
theorem uT{gc:Bool}{dead:List Nat}{c:C}{vs:List D}{H:aq}{p:Ex×St}(h:nW gc dead (exS aD c) ⟨mr dead vs,H⟩=some p):exS aD (.loop gc dead c) ⟨vs,H⟩=some p:=h
class Dat (α:Type) where
 dflt:α
instance : Dat Int := ⟨0⟩
instance : Dat Nat := ⟨0⟩
instance : Dat Bool := ⟨false⟩
instance {α : Type} : Dat (List α) := ⟨[]⟩
def nth{α:Type} [Dat α](l:List α)(j:Nat):α:=l.getD j Dat.dflt
theorem cG{α:Type} [Dat α]{l:List α}{j:Nat}(h:j<l.length):l[j]?=some (nth l j):=by simp[nth,h]
theorem b8{α β:Type} [Dat α](f:α→β){l:List α}{j:Nat}(h:j<l.length):(l.map f)[j]?=some (f (nth l j)):=by rw[aLn,cG h];rfl
theorem Fo{α β γ:Type} [Dat α](f:β→γ)(g:α→β){l:List α}{j:Nat}(h:j<l.length):((l.map g).map f)[j]?=some (f (g (nth l j))):=by rw[aLn,b8 g h];rfl
theorem ai{α:Type} [Dat α]{l:List α}{j:Nat}(h:j<l.length):nth l j∈l:=aLd (cG h)
theorem bC{α:Type} [Dat α]{l:List α}{j:Nat}{x:α}(h:l[j]?=some x):nth l j=x:=by simp[nth,h]
theorem oV{α:Type} [Dat α]{l:List α}{j:Nat}(h:j<l.length):l.take (j+1)=l.take j++[nth l j]:=by
 rw[List.take_succ_eq_append_getElem h];simp[nth,h]
theorem ajT{a b:Int}(h:a<b):(a<b)=True:=by simp[h]
theorem ajU{a b:Int}(h:b≤a):(a<b)=False:=by simp[Int.not_lt.2 h]
theorem ajV{a b:Int}(h:a≤b):(a≤b)=True:=by simp[h]
theorem ajW{a b:Int}(h:b<a):(a≤b)=False:=by simp[Int.not_le.2 h]
theorem ajX{a b:Int}(h:a=b):(a=b)=True:=by simp[h]
theorem ajY{a b:Int}(h:a≠b):(a=b)=False:=by simp[h]
theorem ajZ{a b:Nat}(h:a<b):(a<b)=True:=by simp[h]
theorem aj0{a b:Nat}(h:b≤a):(a<b)=False:=by simp[Nat.not_lt.2 h]
theorem aj1{a b:Nat}(h:a≤b):(a≤b)=True:=by simp[h]
theorem aj2{a b:Nat}(h:b<a):(a≤b)=False:=by simp[Nat.not_le.2 h]
theorem aj3{a b:Nat}(h:a=b):(a=b)=True:=by simp[h]
theorem aj4{a b:Nat}(h:a≠b):(a=b)=False:=by simp[h]
attribute [go_sem] aj3 aj4 ajT ajU ajV ajW ajX ajY ajZ aj0 aj1 aj2 xD b8 Fo X8
@[go_sem] theorem MZ (a b : Nat) : ((a + b : Nat) : Int) = (a : Int) + (b : Int) := (rfl)
@[go_sem] theorem M0 : ((1 : Nat) : Int) = 1 := (rfl)
@[go_sem] theorem JM : ((0 : Nat) : Int) = 0 := (rfl)
@[go_sem] theorem aeW (a b : Int) : a + b - b = a := Int.add_sub_cancel a b
@[go_sem] theorem VZ : (0 : Int).toNat = 0 := (rfl)
@[go_sem] theorem YI (n : Nat) : (n : Int).toNat = n := (rfl)
@[go_sem] theorem YJ (n : Nat) : ((n : Int) + 1).toNat = n + 1 := (rfl)
@[go_sem] theorem YK (a : Int) : 0 + a = a := Int.zero_add a
abbrev tI(n:Int):T:= .int .i64 n
abbrev tL(l:List Int):T:= .sl (l.map (.int .i64))
@[go_sem] theorem V0 {α β : Type} (f : α → β) (a b : List α) : (a ++ b).map f = a.map f ++ b.map f := List.map_append
end Go.Ev
namespace Go.Ev
open Go
variable [Lib] [cu] [bM]
def Mod(n m:Int):Int:=if m<1 then 0 else if n.tmod m<0 then n.tmod m+m else n.tmod m
theorem aeX(n m:Int):0≤Mod n m:=by
 unfold Mod
 split
 · omega
 · have h5:=Int.lt_tmod_of_pos n (b:=m) (by omega)
   split<;>omega
theorem aeY(n m:Int)(h:1≤m):Mod n m<m:=by
 unfold Mod
 rw[if_neg (by omega)]
 have h3:=Int.tmod_lt_of_pos n (b:=m) (by omega)
 split<;>omega
theorem aeZ(n m:Int)(hm:m≤4611686018427387904):aD 0 N.lI [I n,I m] []=some (I (Mod n m),[]):=by
 refine ao K.Ae rfl ?_
 unfold Mod
 by_cases h1:m<1
 · simp only[go_sem,K.lI,h1,↓reduceIte]
 · have h2:m≠0:=by omega
   have h3:=Int.tmod_lt_of_pos n (b:=m) (by omega)
   have h5:=Int.lt_tmod_of_pos n (b:=m) (by omega)
   by_cases h4:n.tmod m<0
   · simp(disch:=omega)only[go_sem,K.lI,h1,↓reduceIte,h2,h4]
   · simp(disch:=omega)only[go_sem,K.lI,h1,↓reduceIte,h2,h4]
theorem TK(l:List Int):aD 0 N.jP [.t (tL l)] []=some (B (decide (l.length≤400)),[]):=by
 refine ao K.uG rfl ?_
 simp(disch:=omega)only[go_sem,K.jP,↓reduceIte]
 simp only[show((l.length:Int)≤400)=(l.length≤400)by rw[eq_iff_iff];omega]
structure aG where
 L:List Int
 at_:Nat
def aG.obj(d:aG):Obj:= .box [.t (tL d.L),I d.at_]
def aG.dQ(d:aG):Prop:=d.L.length≤400
def aG.next(d:aG)(n:Int):Int×aG:=if d.at_<d.L.length then(Mod (nth d.L d.at_) n,⟨d.L,d.at_+1⟩)else(0,d)
theorem aG.V1(d:aG)(n:Int):(d.next n).2.L=d.L:=by unfold aG.next;split<;>rfl
theorem aG.aZ{d:aG}(h:d.dQ)(n:Int):(d.next n).2.dQ:=by unfold aG.dQ;rw[d.V1];exact h
theorem aG.fA(d:aG)(n:Int):0≤(d.next n).1:=by unfold aG.next;split<;>simp[aeX]
theorem aG.fB(d:aG){n:Int}(h:1≤n):(d.next n).1<n:=by unfold aG.next;split<;>simp[aeY _ _ h];omega
theorem iX(d:aG)(n:Int)(hn:n≤4611686018427387904)(hd:d.dQ):aD 0 N.aC [.bp 0 0,I n] [d.obj]=some (I (d.next n).1,[(d.next n).2.obj]):=by
 refine ao K.oq rfl ?_
 have hm:=aeZ (nth d.L d.at_) n hn
 unfold aG.dQ at hd
 unfold aG.next aG.obj
 by_cases h1:d.at_<d.L.length
 · simp(disch:=omega)only[go_sem,K.aC,↓reduceIte,↓if_pos,↓if_neg,Int.add_sub_cancel,hm,Int.natCast_add]
 · simp(disch:=omega)only[go_sem,K.aC,↓reduceIte,↓if_pos,↓if_neg]
@[go_sem] theorem ahE (d : aG) : Lq (some d.obj) = [] := by simp only [aG.obj, go_sem]
@[go_sem] theorem ahF (f : Nat → Option Nat) (d : aG) : gD f d.obj = some d.obj := by simp only [aG.obj, go_sem]
@[go_sem] theorem ahG (k : Nat) (d : aG) (r : aq) : iF k (d.obj :: r) = iF k r := by simp only [aG.obj, go_sem]
def aG.one(d:aG)(n:Int):Bool×aG:=(decide ((d.next n).1=n-1),(d.next n).2)
theorem aG.CH{d:aG}(h:d.dQ)(n:Int):(d.one n).2.dQ:=aG.aZ h n
theorem PU(d:aG)(n:Int)(h1:0≤n)(hn:n≤4611686018427387904)(hd:d.dQ):aD 0 N.cK [.bp 0 0,I n] [d.obj]=some (B (d.one n).1,[(d.one n).2.obj]):=by
 refine ao K.pG rfl ?_
 have hm:=iX d n hn hd
 unfold aG.one
 simp(disch:=omega)only[go_sem,K.cK,↓reduceIte,hm]
def aG.of(d:aG)(l:List Int):Int×aG:=(nth l (d.next l.length).1.toNat,(d.next l.length).2)
theorem aG.ql{d:aG}(h:d.dQ)(l:List Int):(d.of l).2.dQ:=aG.aZ h _
theorem aG.yV(d:aG){l:List Int}(h:l≠[]):(d.of l).1∈l:=by
 unfold aG.of
 have hl:0<l.length:=List.length_pos_iff.2 h
 have:=d.fA l.length
 have:=d.fB (n:=l.length) (by omega)
 exact ai (by omega)
theorem PV(d:aG)(l:List Int)(hl:l≠[])(hl2:l.length≤4294967296)(hd:d.dQ):aD 0 N.cR [.bp 0 0,.t (tL l)] [d.obj]=some (I (d.of l).1,[(d.of l).2.obj]):=by
 refine ao K.qB rfl ?_
 have hm:=iX d l.length (by omega) hd
 have h0:0<l.length:=List.length_pos_iff.2 hl
 have h1:=d.fA l.length
 have h2:=d.fB (n:=l.length) (by omega)
 unfold aG.of
 simp(disch:=omega)only[go_sem,K.cR,↓reduceIte,hm]
def aG.oW(d:aG):Nat→List Int×aG
 | 0=>([],d)
 | k+1=>(if((d.oW k).2.next 3).1=0 then(d.oW k).1++[(k:Int)]else(d.oW k).1,((d.oW k).2.next 3).2)
theorem aG.nD{d:aG}(h:d.dQ):∀n,(d.oW n).2.dQ
 | 0=>h
 | n+1=>aG.aZ (aG.nD h n) 3
theorem aG.yW(d:aG):∀n,(d.oW n).1.length≤n
 | 0=>aLs _
 | n+1=>by
   have:=d.yW n
   unfold aG.oW
   simp only
   split<;>simp<;>omega
theorem PW(d:aG)(n:Nat)(hn:n≤1000000)(hd:d.dQ):aD 0 N.di [.bp 0 0,I n] [d.obj]=some (.t (tL (d.oW n).1),[(d.oW n).2.obj]):=by
 refine ao K.ov rfl ?_
 have hlen:=d.yW
 have loop:exS aD K.rM ⟨[.bp 0 0,I n,.nil,.ref 1 0 0,I 0],[d.obj,.arr 1 false 0 []]⟩=
  some (.exit 0,⟨[.bp 0 0,I n,.und,.ref 1 0 (d.oW n).1.length,I n],[(d.oW n).2.obj,.arr 1 false 0 (((d.oW n).1.map (T.int .i64)).map .t)]⟩):=by
  refine bk (fun j=>⟨[.bp 0 0,I n,.und,.ref 1 0 (d.oW j).1.length,I j],[(d.oW j).2.obj,.arr 1 false 0 (((d.oW j).1.map (T.int .i64)).map .t)]⟩) n rfl ?_ ?_ (by simp)
  · intro j hj
    have hm:=iX (d.oW j).2 3 (by omega) (aG.nD hd j)
    have:=hlen j
    by_cases h:((d.oW j).2.next 3).1=0
    · simp(disch:=omega)only[go_sem,K.kd,hm,h,aG.oW,↓reduceIte]
    · simp(disch:=omega)only[go_sem,K.kd,hm,h,aG.oW,↓reduceIte]
  · simp(disch:=omega)only[go_sem,K.kd,↓reduceIte]
 simp(disch:=omega)only[go_sem,K.di,↓reduceIte,loop]
theorem cH{gc:Bool}{dead:List Nat}{c:C}{vs:List D}{H:aq}(s:Nat→St)(n:Nat)(p:Nat→Bool)(e:Nat→Ex×St)(eN:Ex×St)
 (h0:(⟨mr dead vs,H⟩:St)=s 0) (hs:∀j,j<n→p j=false→gE gc dead (s j).H.length (exS aD c (s j))=some (s (j+1)))
 (he:∀j,j<n→p j=true→exS aD c (s j)=some (e j)∧(e j).1≠ .normal) (hN:exS aD c (s n)=some eN) (hn:eN.1≠ .normal):
 exS aD (.loop gc dead c) ⟨vs,H⟩=some (match (List.range n).find? p with | some j=>e j | none=>eN):=by
 show nW gc dead (exS aD c) ⟨mr dead vs,H⟩=_
 rw[h0]
 cases hf:(List.range n).find? p with
 | none=>
   refine BM s n (fun j hj=>hs j hj ?_) (eD hN hn)
   have:=List.find?_eq_none.1 hf j (aLu.2 hj)
   simpa using this
 | some k=>
   obtain⟨h1,as,bs,h2,h3⟩:=List.find?_eq_some_iff_append.1 hf
   have hk:k<n:=aLu.1 (List.mem_of_find?_eq_some hf)
   have hlt:∀j,j<k→p j=false:=by
    intro j hj
    have hlen:as.length=k:=by
     have h4:(List.range n)[as.length]?=some k:=by rw[h2];simp
     have h5:as.length<n:=by
      have:=congrArg List.length h2;simp at this;omega
     rw[aLp h5]at h4
     exact Option.some.inj h4
    have:j∈as:=by
     have h6:(List.range n)[j]?=some j:=aLp (by omega)
     rw[h2,aLg (by omega)]at h6
     exact aLd h6
    simpa using h3 j this
   obtain⟨k1,k2⟩:=he k hk h1
   exact BM s k (fun j hj=>hs j (by omega) (hlt j hj)) (eD k1 k2)
def ju{α:Type}(f:α→α×Bool):Nat→α→α
 | 0,l=>l
 | n+1,l=>if(f l).2 then ju f n (f l).1 else(f l).1
theorem Ag{α:Type}{gc:Bool}{dead:List Nat}{c:C}{vs:List D}{H:aq}(S:α→Bool→St)(E:α→Ex×St)(f:α→α×Bool)(inv:α→Prop)(mes:α→Nat)
 (hinv:∀l,inv l→inv (f l).1∧((f l).2=true→mes (f l).1<mes l))
 (hs:∀l,inv l→gE gc dead (S l true).H.length (exS aD c (S l true))=some (S (f l).1 (f l).2))
 (he:∀l,inv l→exS aD c (S l false)=some (E l)∧(E l).1≠ .normal) (l:α) (hl:inv l) (h0:(⟨mr dead vs,H⟩:St)=S l true):
 exS aD (.loop gc dead c) ⟨vs,H⟩=some (E (ju f (mes l+1) l))∧inv (ju f (mes l+1) l):=by
 have key:∀(n:Nat) (l:α),inv l→mes l<n→nW gc dead (exS aD c) (S l true)=some (E (ju f n l))∧inv (ju f n l):=by
  intro n
  induction n with
  | zero=>intro l _ h;omega
  | succ n ih=>
    intro l hl hm
    obtain⟨h1,h2⟩:=hinv l hl
    have hr:=hs l hl
    cases hf:(f l).2 with
    | true=>
      rw[hf]at hr
      obtain⟨k1,k2⟩:=ih (f l).1 h1 (by have:=h2 hf;omega)
      simp only[ju,hf,if_true]
      exact⟨fL hr k1,k2⟩
    | false=>
      rw[hf]at hr
      obtain⟨k1,k2⟩:=he (f l).1 h1
      simp only[ju,hf,aLt,if_false]
      exact⟨fL hr (eD k1 k2),h1⟩
 have:=key (mes l+1) l hl (Nat.lt_succ_self _)
 show nW gc dead (exS aD c) ⟨mr dead vs,H⟩=_∧_
 rw[h0];exact this
theorem Fp{n:Nat}{p:Nat→Bool}:((List.range n).find? p).isSome=(List.range n).any p:=by
 rw[List.isSome_find?]
theorem CI{n j:Nat}{p:Nat→Bool}(h:(List.range n).find? p=some j):j<n∧p j=true:=⟨aLu.1 (List.mem_of_find?_eq_some h),List.find?_some h⟩
def hX(m:Nat):List D:=(List.range m).map fun i=> .bp i 0
def aX(bs:List (List T)):aq:=bs.map fun cs=> .box (cs.map .t)
theorem Ep{bs:List (List T)}{i:Nat}(h:i<bs.length):(aX bs)[i]?=some (.box (bs[i].map .t)):=by simp[aX,h]
theorem ic(bs:List (List T)):(aX bs).length=bs.length:=by simp[aX]
theorem vT:∀(l sel:List Nat),(sel++l).Nodup→fp sel l=sel++l
 | [],sel,_=>by simp[fp]
 | i::r,sel,h=>by
   have:sel.contains i=false:=by
    rw[← Bool.not_eq_true,List.contains_iff_mem]
    intro hm
    have:=List.nodup_append.1 h
    exact this.2.2 i hm i List.mem_cons_self rfl
   simp only[fp,this,aLt,if_false]
   rw[vT r (sel++[i]) (by simpa using h)]
   simp
theorem qm:∀(l:List Nat) (i k:Nat),l.Nodup→l[k]?=some i→idxOf l i=some k
 | [],i,k,_,h=>by simp at h
 | a::l,i,0,_,h=>by simp at h;simp[idxOf,h]
 | a::l,i,k+1,hn,h=>by
   simp at h
   have hne:a≠i:=fun e=>(List.nodup_cons.1 hn).1 (e▸aLd h)
   simp only[idxOf,if_neg hne,qm l i k (List.nodup_cons.1 hn).2 h,aLw]
theorem JN{m i:Nat}(h:i<m):idxOf (List.range m) i=some i:=qm _ _ _ List.nodup_range (aLp h)
theorem JO{α:Type}{f:α→Option α}:∀ {l:List α},(∀x∈l,f x=some x)→cD f l=some l
 | [],_=>rfl
 | a::l,h=>by
   simp only[cD,h a List.mem_cons_self,aLq,JO fun x hx=>h x (List.mem_cons_of_mem _ hx),aLw]
theorem JP(f:Nat→Option Nat)(cs:List T):gD f (.box (cs.map .t))=some (.box (cs.map .t)):=by
 simp only[MW,Ad,aLw]
theorem CJ{H:aq}:∀ {l:List Nat} {hs:aq},l.length=hs.length→(∀(k i:Nat) (o:Obj),l[k]?=some i→hs[k]?=some o→H[i]?=some o)→pick H l=some hs
 | [],[],_,_=>rfl
 | [],_::_,h,_=>by simp at h
 | _::_,[],h,_=>by simp at h
 | i::l,o::hs,h,hg=>by
   rw[PL,hg 0 i o rfl rfl,aLq,TG,CJ (l:=l) (hs:=hs) (by simpa using h) fun k i o hk ho=>hg (k+1) i o (by simpa using hk) (by simpa using ho)]
   rfl
theorem A0{H:aq}:∀ {l:List Nat} {os:aq},(∀(k i:Nat) (o:Obj),l[k]?=some i→os[k]?=some o→H[i]?=some o)→eh H l os=H
 | [],os,_=>by cases os<;>rfl
 | i::l,[],_=>rfl
 | i::l,o::os,hg=>by
   simp only[eh]
   rw[qi (hg 0 i o rfl rfl)]
   exact A0 fun k i o hk ho=>hg (k+1) i o (by simpa using hk) (by simpa using ho)
theorem Hw(call:aW)(bs:List (List T))(E:aq)(f raw:Nat)(args:List D){r:D}(h:call raw f args (aX bs)=some (r,aX bs))(hr:Bp r=true)
 (ha:∀H:aq,rC H [] 0 args=some args∧du H [] 0 args=[]) (hids:fp [] (CE 8 args)=List.range bs.length)
 (hren:cD (ren (idxOf (List.range bs.length)) 8) args=some args):Lg (aX bs++E) call f raw [] args=some (r,aX bs++E):=by
 generalize hH:aX bs++E=H
 have hget:∀i (hi:i<bs.length),H[i]?=some (.box (bs[i].map .t)):=fun i hi=>by
  rw[← hH,aLg (by rw[ic];exact hi),Ep hi]
 obtain⟨ha,hfz⟩:=ha H
 have hno:lN H (List.range bs.length)=[]:=by
  simp only[lN,List.flatMap_eq_nil_iff,aLu]
  intro i hi
  rw[hget i hi]
  exact CF 8 bs[i]
 have hsel:reach H 3 (List.range bs.length)=List.range bs.length:=by
  simp only[reach,hno,fp]
 have hget2:∀(k i:Nat) (o:Obj),(List.range bs.length)[k]?=some i→(aX bs)[k]?=some o→H[i]?=some o:=by
  intro k i o hk ho
  have hkl:k<bs.length:=by have:=(aLe.1 hk).1;simpa using this
  rw[aLp hkl]at hk
  cases hk
  rw[Ep hkl]at ho
  rw[hget k hkl,←ho]
 have hpick:pick H (List.range bs.length)=some (aX bs):=CJ (by simp[ic]) hget2
 have hro:∀f:Nat→Option Nat,cD (gD f) (aX bs)=some (aX bs):=fun f=>JO fun o ho=>by
  simp only[aX,List.mem_map]at ho
  obtain⟨cs,_,rfl⟩:=ho
  exact JP f cs
 have hput:eh H (List.range bs.length) (aX bs)=H:=A0 hget2
 rw[Li,Lj,ha,aLq,Lk,hids,hsel,Ll,hren,aLq,hfz,Lm]
 simp only[pins]
 rw[hpick,aLq,Ln,hro,aLq,TC,h,aLq]
 cases hb:bs with
 | nil=>
   subst hb
   have hrr:=Fk (f:=dI [] H.length) hr
   simp only[depth]at hrr
   simp only[List.length_nil,List.range_zero,aX,List.map_nil]
   unfold xG
   split
   · rfl
   · rw[Fl,hrr,aLq,Lo]
     simp[cD,PF,eh]
 | cons b bt=>
   rw[← hb]
   have hne:List.range bs.length=0::(List.range' 1 bt.length):=by rw[hb];simp[List.range_eq_range',List.range'_succ]
   have hrr:=Fk (f:=dI (List.range bs.length) H.length) hr
   simp only[depth]at hrr
   have hw:xG H H (List.range bs.length) (r,aX bs)=Hu H H.length (List.range bs.length) (r,aX bs):=by
    rw[hne];rfl
   rw[hw,Fl,hrr,aLq,Lo,hro,aLq,TD,List.length_range,List.take_of_length_le (by rw[ic];exact aLs _),hput,
    List.drop_eq_nil_of_le (by rw[ic];exact aLs _),List.append_nil]
theorem JQ(H:aq)(cs:List D)(hc:∀i,rC H [] i cs=some cs∧du H [] i cs=[]):∀(ts:List T) (i:Nat),rC H [] i (ts.map .t++cs)=some (ts.map .t++cs)∧du H [] i (ts.map .t++cs)=[]
 | [],i=>hc i
 | t::ts,i=>by
   obtain⟨h1,h2⟩:=JQ H cs hc ts (i+1)
   simp only[List.map_cons,List.cons_append,En,uD,JJ,VT,aew,aLq,PG,h1,h2,aeM,PD]
   exact⟨rfl,rfl⟩
theorem Hx(H:aq):∀(l:List Nat) (i:Nat),rC H [] i (l.map fun i=> .bp i 0)=some (l.map fun i=> .bp i 0)∧du H [] i (l.map fun i=> .bp i 0)=[]
 | [],i=>⟨rfl,rfl⟩
 | a::l,i=>by
   obtain⟨h1,h2⟩:=Hx H l (i+1)
   simp only[List.map_cons,En,uD,JJ,VT,Yo,aLq,PG,h1,h2,aeM,Ys]
   exact⟨rfl,rfl⟩
theorem Hy(n m:Nat):CE n (hX m)=List.range m:=by
 simp only[CE,hX,List.flatMap_map]
 have:∀l:List Nat,(l.flatMap fun a=>ids n (.bp a 0))=l:=by
  intro l
  induction l with
  | nil=>rfl
  | cons a l ih=>rw[List.flatMap_cons,ih,aeP];rfl
 exact this _
theorem Lt(n m:Nat):cD (ren (idxOf (List.range m)) n) (hX m)=some (hX m):=JO fun d hd=>by
 simp only[hX,List.mem_map,aLu]at hd
 obtain⟨k,hk,rfl⟩:=hd
 rw[aeT,JN hk];rfl
theorem Fq{α β:Type}{f:α→Option β}:∀ {a b:List α} {x y:List β},cD f a=some x→cD f b=some y→cD f (a++b)=some (x++y)
 | [],b,x,y,h1,h2=>by simp[cD]at h1;subst h1;exact h2
 | c::a,b,x,y,h1,h2=>by
   simp only[cD,aLa,aLb]at h1
   obtain⟨z,hz,r,hr,rfl⟩:=h1
   simp only[List.cons_append,cD,hz,aLq,Fq hr h2,aLw]
theorem PX(call:aW)(bs:List (List T))(E:aq)(f raw:Nat)(ts:List T){r:D}(h:call raw f (ts.map .t++hX bs.length) (aX bs)=some (r,aX bs))(hr:Bp r=true):
 Lg (aX bs++E) call f raw [] (ts.map .t++hX bs.length)=some (r,aX bs++E):=
 Hw call bs E f raw _ h hr (fun H=>JQ H _ (Hx H _) ts 0)
  (by rw[Lp,CF,List.nil_append,Hy,vT _ _ (by simpa using List.nodup_range),List.nil_append])
  (Fq (Ad _ _ _) (Lt _ _))
theorem YL(call:aW)(bs:List (List T))(E:aq)(g f raw:Nat)(ts:List T){r:D}(h:call raw f (ts.map .t++[.fn g (hX bs.length)]) (aX bs)=some (r,aX bs))(hr:Bp r=true):
 Lg (aX bs++E) call f raw [] (ts.map .t++[.fn g (hX bs.length)])=some (r,aX bs++E):=
 Hw call bs E f raw _ h hr (fun H=>JQ H _ (fun i=>⟨rfl,rfl⟩) ts 0)
  (by rw[Lp,CF,List.nil_append,PI,aeQ,Hy,TF,List.append_nil,vT _ _ (by simpa using List.nodup_range),List.nil_append])
  (Fq (Ad _ _ _) (by rw[Hp,aeV,Lt];rfl))
theorem Hz{f:Nat}{bs:List (List T)}{x:T}{r:D}(E:aq)(h:aD 0 f (.t x::hX bs.length) (aX bs)=some (r,aX bs))(hr:Bp r=true):
 Lg (aX bs++E) aD f 0 [] (.t x::hX bs.length)=some (r,aX bs++E):=PX aD bs E f 0 [x] h hr
theorem pf{f:Nat}{bs:List (List T)}{x:T}{r:D}(h:aD 0 f (.t x::hX bs.length) (aX bs)=some (r,aX bs))(hr:Bp r=true):
 Lg (aX bs) aD f 0 [] (.t x::hX bs.length)=some (r,aX bs):=by
 have:=Hz [] h hr;rwa [List.append_nil]at this
theorem Ah(call:aW)(bs:List (List T))(g f raw:Nat)(x:T){r:D}(h:call raw f [.t x,.fn g (hX bs.length)] (aX bs)=some (r,aX bs))(hr:Bp r=true):
 Lg (aX bs) call f raw [] [.t x,.fn g (hX bs.length)]=some (r,aX bs):=by
 have:=YL call bs [] g f raw [x] h hr
 rwa [List.append_nil]at this
section
variable (bs : List (List T)) (o o' : Obj)
@[go_sem] theorem TL : (aX bs).length = bs.length := ic bs
@[go_sem] theorem acb : (aX bs ++ [o])[bs.length]? = some o := by
 rw[aLh (by rw[ic];exact aLs _),ic];simp
@[go_sem] theorem ae0 : (aX bs ++ [o]).set bs.length o' = aX bs ++ [o'] := by
 rw[List.set_append_right _ _ (by rw[ic];exact aLs _),ic];simp
@[go_sem] theorem acd : (aX bs ++ [o]).take bs.length = aX bs := by
 rw[List.take_append_of_le_length (by rw[ic];exact aLs _),List.take_of_length_le (by rw[ic];exact aLs _)]
@[go_sem] theorem YM : (aX bs ++ [o]).take (bs.length + 1) = aX bs ++ [o] := List.take_of_length_le (by simp [ic])
@[go_sem] theorem YN : (aX bs).take bs.length = aX bs := List.take_of_length_le (by simp [ic])
@[go_sem] theorem YO (k : Nat) (a b : aq) : iF k (a ++ b) = (iF k a && iF k b) := by
 rw[← pc,←pc,←pc,List.all_append]
@[go_sem] theorem TM (k : Nat) : iF k (aX bs) = true := by
 induction bs with
 | nil=>rfl
 | cons b r ih=>
   show(jM k 8 (b.map .t)&&iF k (aX r))=true
   rw[Tz,ih];rfl
@[go_sem] theorem ahH (n : Nat) : ltB n (n + 1) = true := by rw [uC]; simp
@[go_sem] theorem ahI (n : Nat) : ltB n n = false := by rw [uC]; simp
theorem A1(k n m:Nat)(h:m≤k):jM k n (hX m)=true:=by
 unfold jM hX
 rw[aLx]
 intro d hd
 obtain⟨i,hi,rfl⟩:=List.mem_map.1 hd
 rw[aex,uC]
 have:=aLu.1 hi
 simp;omega
@[go_sem] theorem YP (n m : Nat) : jM m n (hX m) = true := A1 _ _ _ (aLs _)
@[go_sem] theorem V2 (n m : Nat) : jM (m + 1) n (hX m) = true := A1 _ _ _ (Nat.le_succ _)
end
def b9(n:Nat)(p:Nat→Bool):List Int:=((List.range n).filter p).map (fun(i:Nat)=>(i:Int))
theorem lT(n:Nat)(p:Nat→Bool):b9 (n+1) p=if p n=true then b9 n p++[(n:Int)]else b9 n p:=by
 unfold b9
 rw[List.range_succ,List.filter_append,List.map_append]
 by_cases h:p n=true<;>simp[h]
theorem iJ(n:Nat)(p:Nat→Bool):(b9 n p).length≤n:=by
 unfold b9
 rw[List.length_map]
 have:=List.length_filter_le p (List.range n)
 simpa using this
theorem Fs(n:Nat)(hn:n≤1000000)(f:Nat)(bs:List (List T))(p:Nat→Bool)(h:∀k,k<n→aD 0 f (I k::hX bs.length) (aX bs)=some (B (p k),aX bs)):
 aD 0 N.eU [I n,.fn f (hX bs.length)] (aX bs)=some (.t (tL (b9 n p)),aX bs):=by
 refine ao K.sH rfl ?_
 have hlen:=fun k=>iJ k p
 have loop:exS aD K.wY ⟨[I n,.fn f (hX bs.length),.nil,.ref bs.length 0 0,.und,I n,I 0],aX bs++[.arr 1 false 0 []]⟩=
  some (.exit 0,⟨[.und,.fn f (hX bs.length),.und,.ref bs.length 0 (b9 n p).length,.und,I n,I n],aX bs++[.arr 1 false 0 (((b9 n p).map (T.int .i64)).map .t)]⟩):=by
  refine bk (fun j=>⟨[.und,.fn f (hX bs.length),.und,.ref bs.length 0 (b9 j p).length,.und,I n,I j],aX bs++[.arr 1 false 0 (((b9 j p).map (T.int .i64)).map .t)]⟩) n rfl ?_ ?_ (by simp)
  · intro j hj
    have hc:=Hz [.arr 1 false 0 (((b9 j p).map (T.int .i64)).map .t)] (h j hj) rfl
    have:=hlen j
    by_cases hp:p j=true
    · simp(disch:=omega)only[go_sem,K.mE,hc,hp,lT,↓reduceIte]
    · simp(disch:=omega)only[go_sem,K.mE,hc,hp,lT,↓reduceIte]
  · simp(disch:=omega)only[go_sem,K.mE,↓reduceIte]
 simp(disch:=omega)only[go_sem,K.eU,↓reduceIte,loop]
end Go.Ev
namespace Go.Ev
open Go
variable [Lib] [cu] [bM]
theorem A2{α:Type}(sz:Nat)(f:α→T)(h:∀a,qA sz (f a).cells=true):∀l:List α,fE sz (l.map f)=true
 | []=>rfl
 | a::l=>by rw[List.map_cons,yN,h,A2 sz f h l];rfl
@[go_sem] theorem V3 (k : IntKind) (l : List Int) : fE 1 (l.map (.int k)) = true := A2 1 _ (fun _ => rfl) l
theorem CK(sz:Nat):∀ts:List T,(ts.all fun e=>e.cells.length==sz)=fE sz ts
 | []=>rfl
 | t::ts=>by
   rw[List.all_cons,yN,CK sz ts]
   congr 1
   rw[Bool.eq_iff_iff,im];simp
section
variable (H : aq) (sz : Nat) (ts : List T) (i j : Int)
@[go_sem] theorem aj5 : MT H sz (some (.t (.sl ts))) (some none) (some (some i)) = if 0 ≤ i then (if i ≤ ts.length then (if fE sz ts = true then some (.t (.sl (ts.take i.toNat)), H) else none) else none) else none := by
 simp only[MT,aLq,tW,bound,CK,idx]
 by_cases h1:0≤i
 · rw[if_pos h1,if_pos h1,aLq]
   by_cases h2:i≤ts.length
   · rw[if_pos h2]
     by_cases h3:fE sz ts=true
     · rw[if_pos h3,if_pos ⟨by omega,by omega,h3⟩];rfl
     · rw[if_neg h3,if_neg fun h=>h3 h.2.2];rfl
   · rw[if_neg h2,if_neg fun h=>h2 (by omega)];rfl
 · rw[if_neg h1,if_neg h1];rfl
@[go_sem] theorem aj6 : MT H sz (some (.t (.sl ts))) (some (some i)) (some none) = if 0 ≤ i then (if i ≤ ts.length then (if fE sz ts = true then some (.t (.sl (ts.drop i.toNat)), H) else none) else none) else none := by
 simp only[MT,aLq,tW,bound,CK,idx]
 by_cases h1:0≤i
 · rw[if_pos h1,if_pos h1,aLq]
   by_cases h2:i≤ts.length
   · rw[if_pos h2]
     by_cases h3:fE sz ts=true
     · rw[if_pos h3,if_pos ⟨by omega,by omega,h3⟩,List.take_of_length_le (by simp)];rfl
     · rw[if_neg h3,if_neg fun h=>h3 h.2.2];rfl
   · rw[if_neg h2,if_neg fun h=>h2 (by omega)];rfl
 · rw[if_neg h1,if_neg h1];rfl
end
def bsK(H:aq)(l:List Nat):Option T→Option (D×aq)
 | some t=>some (.t (.sl [t]),pins H l)
 | none=>none
@[go_sem] theorem ahJ (H : aq) (l : List Nat) (t : T) : bsK H l (some t) = some (.t (.sl [t]), pins H l) := (rfl)
@[go_sem] theorem ahK (H : aq) (sz : Nat) (cs : List D) : Ov H sz [.agg cs] = if qA sz cs = true then bsK H (gT H 8 (.agg cs)) (frz H 8 (.agg cs)) else none := by
 simp only[Ov,List.all_cons,List.all_nil,Bool.and_true,D.cells]
 by_cases h:qA sz cs=true
 · rw[if_pos h,if_pos (by simpa using im.1 h)]
   simp only[cD,depth,List.flatMap_cons,List.flatMap_nil,List.append_nil]
   cases frz H 8 (.agg cs)<;>rfl
 · rw[if_neg h,if_neg (by intro e;exact h (im.2 (by simpa using e)))]
def YQ(H:aq)(r:D)(os:aq):D×aq:=(r,H++os)
@[go_sem] theorem ahL (H : aq) (r : D) (os : aq) : YQ H r os = (r, H ++ os) := (rfl)
def ae1(H:aq)(os:aq)(r:D):Option (D×aq):=(cD (gD (dI [] H.length)) os).map (YQ H r)
@[go_sem] theorem ahM (H : aq) (os : aq) (r : D) : ae1 H os r = (cD (gD (dI [] H.length)) os).map (YQ H r) := (rfl)
@[go_sem] theorem ae2 (H : aq) (r : D) (o : Obj) (os : aq) : Ab H (r, o :: os) = (ren (dI [] H.length) 8 r).bind (ae1 H (o :: os)) := by
 simp only[Ab,List.isEmpty_cons,Bool.and_false,aLt,if_false]
 rfl
end Go.Ev
namespace Go.Ev
open Go
variable [Lib] [cu] [bM]
structure Place where
 h:Int
 surf:Bool
instance : Dat Place := ⟨⟨0, false⟩⟩
abbrev Place.e(p:Place):T:= .agg [tI p.h,.bool p.surf]
structure Road where
 frm:Int
 to:Int
 len:Int
 area:Int
 walk:Bool
 closed:Bool
 ng:Int
 restH:Int
 liftL:Int
 liftH:Int
instance : Dat Road := ⟨⟨0, 0, 0, 0, false, false, 0, 0, 0, 0⟩⟩
abbrev Road.e(r:Road):T:= .agg [tI r.frm,tI r.to,tI r.len,tI r.area,.bool r.walk,.bool r.closed,tI r.ng,tI r.restH,tI r.liftL,tI r.liftH]
structure aB where
 aa:List Place
 roads:List Road
instance : Dat aB := ⟨⟨[], []⟩⟩
abbrev aB.e(m:aB):T:= .agg [.sl (m.aa.map Place.e),.sl (m.roads.map Road.e)]
structure Road.ok(n:Nat)(r:Road):Prop where
 f0:0≤r.frm
 f1:r.frm<n
 t0:0≤r.to
 t1:r.to<n
 ne:r.frm≠r.to
 l0:1≤r.len
 l1:r.len≤100000
 a0:1≤r.area
 a1:r.area≤1000
 r0:1≤r.ng
 r1:r.ng≤r.restH
 r2:r.restH≤262144
 i0: -2199023255552≤r.liftL
 i1:r.liftL≤r.liftH
 i2:r.liftH≤2199023255552
structure aB.ok(m:aB):Prop where
 np:m.aa.length≤64
 nr:m.roads.length≤128
 hs:∀p∈m.aa, -10000≤p.h∧p.h≤10000
 rs:∀r∈m.roads,r.ok m.aa.length
theorem HA(a b lo hi:Int):aD 0 N.jj [.t (.agg [tI a,tI b]),I lo,I hi] []=some (B (decide (lo≤a∧a≤b∧b≤hi)),[]):=by
 refine ao K.uL rfl ?_
 by_cases h1:lo≤a<;>by_cases h2:a≤b<;>by_cases h3:b≤hi<;>simp(disch:=omega)only[go_sem,K.jj,↓reduceIte,h1,h2,h3]
theorem nO{m:aB}(h:m.ok):aD 0 N.cW [.t m.e] []=some (I 0,[]):=by
 refine ao K.sB rfl ?_
 have np:=h.np
 have nr:=h.nr
 have loop1:∀a b c d e:D,exS aD K.wW ⟨[a,.bp 0 0,b,I 0,c,d,e],[.box [.t (.sl (m.aa.map Place.e)),.t (.sl (m.roads.map Road.e))]]⟩=
  some (.exit 0,⟨[.und,.bp 0 0,.und,I m.aa.length,.und,.und,.und],[.box [.t (.sl (m.aa.map Place.e)),.t (.sl (m.roads.map Road.e))]]⟩):=by
  intro a b c d e
  refine bk (fun j=>⟨[.und,.bp 0 0,.und,I j,.und,.und,.und],[.box [.t (.sl (m.aa.map Place.e)),.t (.sl (m.roads.map Road.e))]]⟩) m.aa.length rfl ?_ ?_ (by simp)
  · intro j hj
    have hh:=h.hs _ (ai hj)
    simp(disch:=omega)only[go_sem,K.pE,↓reduceIte]
  · simp(disch:=omega)only[go_sem,K.pE,↓reduceIte]
 have loop2:∀a b c d e:D,exS aD K.wX ⟨[a,.bp 0 0,b,c,d,I 0,e],[.box [.t (.sl (m.aa.map Place.e)),.t (.sl (m.roads.map Road.e))]]⟩=
  some (.exit 2,⟨[.und,.bp 0 0,.und,.und,.und,I m.roads.length,.und],[.box [.t (.sl (m.aa.map Place.e)),.t (.sl (m.roads.map Road.e))]]⟩):=by
  intro a b c d e
  refine bk (fun j=>⟨[.und,.bp 0 0,.und,.und,.und,I j,.und],[.box [.t (.sl (m.aa.map Place.e)),.t (.sl (m.roads.map Road.e))]]⟩) m.roads.length rfl ?_ ?_ (by simp)
  · intro j hj
    obtain⟨f0,f1,t0,t1,ne,l0,l1,a0,a1,r0,r1,r2,i0,i1,i2⟩:=h.rs _ (ai hj)
    have s1:=HA (nth m.roads j).ng (nth m.roads j).restH 1 262144
    have s2:=HA (nth m.roads j).liftL (nth m.roads j).liftH (-2199023255552) 2199023255552
    simp(disch:=omega)only[go_sem]at s1 s2
    simp(disch:=omega)only[go_sem,K.pF,↓reduceIte,s1,s2]
  · simp(disch:=omega)only[go_sem,K.pF,↓reduceIte]
 simp(disch:=omega)only[go_sem,K.cW,↓reduceIte,loop1,loop2]
theorem JR{l:List Int}{p:Int→Bool}:((List.range l.length).find? fun j=>p (nth l j)).isSome=l.any p:=by
 rw[List.isSome_find?,Bool.eq_iff_iff,List.any_eq_true,List.any_eq_true]
 constructor
 · rintro ⟨j,hj,h⟩
   exact⟨_,ai (aLu.1 hj),h⟩
 · rintro ⟨x,hx,h⟩
   obtain⟨j,hj⟩:=aLf.1 hx
   exact⟨j,aLu.2 (aLe.1 hj).1,by rw[bC hj];exact h⟩
theorem mI(l:List Int)(x:Int)(hl:l.length≤4294967296):aD 0 N.c7 [.t (tL l),I x] []=some (B (decide (x∈l)),[]):=by
 refine ao K.xI rfl ?_
 have loop:∀a:D,exS aD K.AX ⟨[.t (tL l),I x,a,I 0],[]⟩=
  some (match (List.range l.length).find? (fun j=>decide (nth l j=x))with
   | some j=>(.ret,⟨[.t (tL l),I x,B true,I j],[]⟩)
   | none=>(.exit 0,⟨[.t (tL l),I x,.und,I l.length],[]⟩)):=by
  intro a
  refine cH (fun j=>⟨[.t (tL l),I x,.und,I j],[]⟩) l.length (fun j=>decide (nth l j=x)) _ _ rfl ?_ ?_ ?_ (by simp)
  · intro j hj hp
    have hp:¬nth l j=x:=of_decide_eq_false hp
    simp(disch:=omega)only[go_sem,K.oT,↓reduceIte]
  · intro j hj hp
    have hp:nth l j=x:=of_decide_eq_true hp
    simp(disch:=omega)only[go_sem,K.oT,↓reduceIte,hp]
    simp
  · simp(disch:=omega)only[go_sem,K.oT,↓reduceIte]
 have e:=JR (l:=l) (p:=fun y=>decide (y=x))
 have e2:l.any (fun y=>decide (y=x))=decide (x∈l):=by rw[Bool.eq_iff_iff];simp
 rw[e2]at e
 simp only[go_sem,K.c7,↓reduceIte,loop]
 cases hf:(List.range l.length).find? (fun j=>decide (nth l j=x))with
 | some j=>rw[hf]at e;simp(disch:=omega)only[go_sem,↓reduceIte,←e]
 | none=>rw[hf]at e;simp(disch:=omega)only[go_sem,↓reduceIte,←e,Option.isSome_none]
theorem xM(a b:List Int)(hl:a.length≤4294967296):aD 0 N.cE [.t (tL a),.t (tL b)] []=some (B (decide (a=b)),[]):=by
 refine ao K.oA rfl ?_
 by_cases hlen:a.length=b.length
 · have loop:∀c:D,exS aD K.rP ⟨[.t (tL a),.t (tL b),c,I 0],[]⟩=
    some (match (List.range a.length).find? (fun j=>decide (nth a j≠nth b j))with
     | some j=>(.ret,⟨[.t (tL a),.t (tL b),B false,I j],[]⟩)
     | none=>(.exit 0,⟨[.t (tL a),.t (tL b),.und,I a.length],[]⟩)):=by
    intro c
    refine cH (fun j=>⟨[.t (tL a),.t (tL b),.und,I j],[]⟩) a.length (fun j=>decide (nth a j≠nth b j)) _ _ rfl ?_ ?_ ?_ (by simp)
    · intro j hj hp
      have hp:nth a j=nth b j:=by simpa using hp
      simp(disch:=omega)only[go_sem,K.kg,↓reduceIte]
    · intro j hj hp
      have hp:nth a j≠nth b j:=by simpa using hp
      simp(disch:=omega)only[go_sem,K.kg,↓reduceIte]
      simp
    · simp(disch:=omega)only[go_sem,K.kg,↓reduceIte]
   have e:(a=b)↔(List.range a.length).find? (fun j=>decide (nth a j≠nth b j))=none:=by
    rw[List.find?_eq_none]
    constructor
    · intro h j _;simp[h]
    · intro h
      apply List.ext_getElem?
      intro j
      by_cases hj:j<a.length
      · rw[cG hj,cG (by omega)]
        have:=h j (aLu.2 hj)
        simpa using this
      · rw[aLm (by omega),aLm (by omega)]
   simp(disch:=omega)only[go_sem,K.cE,↓reduceIte,loop]
   cases hf:(List.range a.length).find? (fun j=>decide (nth a j≠nth b j))with
   | some j=>rw[hf]at e;simp(disch:=omega)only[go_sem,↓reduceIte,e];simp
   | none=>rw[hf]at e;simp(disch:=omega)only[go_sem,↓reduceIte,e]
 · have hne:a≠b:=fun h=>hlen (by rw[h])
   simp(disch:=omega)only[go_sem,K.cE,↓reduceIte,hne]
def lr(l:List Int)(n:Int):Bool:=(List.range l.length).all fun j=>decide (0≤nth l j∧nth l j<n∧(0<j→nth l (j-1)<nth l j))
theorem sP{n:Nat}{p:Nat→Bool}:((List.range n).all p)=((List.range n).find? fun j=> !p j).isNone:=by
 rw[← Option.not_isSome,List.isSome_find?,List.not_any_eq_all_not]
 simp
theorem yX(l:List Int)(n:Int)(hl:l.length≤4294967296):aD 0 N.iq [.t (tL l),I n] []=some (B (lr l n),[]):=by
 refine ao K.xK rfl ?_
 have loop:∀c:D,exS aD K.AY ⟨[.t (tL l),I n,c,I 0],[]⟩=
  some (match (List.range l.length).find? (fun j=> !decide (0≤nth l j∧nth l j<n∧(0<j→nth l (j-1)<nth l j)))with
   | some j=>(.ret,⟨[.t (tL l),I n,B false,I j],[]⟩)
   | none=>(.exit 0,⟨[.t (tL l),I n,.und,I l.length],[]⟩)):=by
  intro c
  refine cH (fun j=>⟨[.t (tL l),I n,.und,I j],[]⟩) l.length _ _ _ rfl ?_ ?_ ?_ (by simp)
  · intro j hj hp
    simp only[Bool.not_eq_false',decide_eq_true_eq]at hp
    obtain⟨h1,h2,h3⟩:=hp
    cases j with
    | zero=>simp(disch:=omega)only[go_sem,K.jD,↓reduceIte]
    | succ j=>
      have h3:=h3 (by omega)
      rw[Nat.add_sub_cancel]at h3
      simp(disch:=omega)only[go_sem,K.jD,↓reduceIte]
  · intro j hj hp
    simp only[Bool.not_eq_true',decide_eq_false_iff_not]at hp
    refine⟨?_,by simp⟩
    by_cases h1:0≤nth l j
    · by_cases h2:nth l j<n
      · cases j with
        | zero=>exact absurd ⟨h1,h2,fun h=>absurd h (by omega)⟩ hp
        | succ j=>
          have h3:¬nth l j<nth l (j+1):=fun h=>hp ⟨h1,h2,fun _=>by simpa using h⟩
          simp(disch:=omega)only[go_sem,K.jD,↓reduceIte]
      · simp(disch:=omega)only[go_sem,K.jD,↓reduceIte]
    · simp(disch:=omega)only[go_sem,K.jD,↓reduceIte]
  · simp(disch:=omega)only[go_sem,K.jD,↓reduceIte]
 have e:lr l n=_:=sP
 simp only[go_sem,K.iq,↓reduceIte,loop]
 cases hf:(List.range l.length).find? (fun j=> !decide (0≤nth l j∧nth l j<n∧(0<j→nth l (j-1)<nth l j)))with
 | some j=>rw[hf]at e;simp(disch:=omega)only[go_sem,↓reduceIte,e,Option.isNone_some]
 | none=>rw[hf]at e;simp(disch:=omega)only[go_sem,↓reduceIte,e,Option.isNone_none]
theorem Bq(x lo hi:Int):aD 0 N.eW [I x,I lo,I hi] []=some (B (decide (lo≤x∧x≤hi)),[]):=by
 refine ao K.Af rfl ?_
 by_cases h1:lo≤x<;>by_cases h2:x≤hi<;>simp(disch:=omega)only[go_sem,K.eW,↓reduceIte]
theorem TN(l:List Int)(x:Int)(hl:l.length≤4294967296):aD 0 N.bV [.t (tL l),I x] []=
 some (I (match (List.range l.length).find? (fun j=>decide (nth l j=x))with | some j=>(j:Int) | none=> -1),[]):=by
 refine ao K.j4 rfl ?_
 have loop:∀a b:D,exS aD K.mG ⟨[.t (tL l),I x,a,b,I l.length,I 0],[]⟩=
  some (match (List.range l.length).find? (fun j=>decide (nth l j=x))with
   | some j=>(.ret,⟨[.t (tL l),I x,I j,I j,I l.length,I j],[]⟩)
   | none=>(.exit 0,⟨[.t (tL l),I x,.und,.und,I l.length,I l.length],[]⟩)):=by
  intro a b
  refine cH (fun j=>⟨[.t (tL l),I x,.und,.und,I l.length,I j],[]⟩) l.length (fun j=>decide (nth l j=x)) _ _ rfl ?_ ?_ ?_ (by simp)
  · intro j hj hp
    have hp:¬nth l j=x:=of_decide_eq_false hp
    simp(disch:=omega)only[go_sem,K.gG,↓reduceIte]
  · intro j hj hp
    have hp:nth l j=x:=of_decide_eq_true hp
    simp(disch:=omega)only[go_sem,K.gG,↓reduceIte,hp]
    simp
  · simp(disch:=omega)only[go_sem,K.gG,↓reduceIte]
 simp(disch:=omega)only[go_sem,K.bV,↓reduceIte,loop]
 cases hf:(List.range l.length).find? (fun j=>decide (nth l j=x))with
 | some j=>simp(disch:=omega)only[go_sem,↓reduceIte]
 | none=>simp(disch:=omega)only[go_sem,↓reduceIte]
theorem pI(l:List Int)(x:Int)(hl:l.length≤4294967296):aD 0 N.aQ [.t (tL l),I x] []=some (B (decide (x∈l)),[]):=by
 refine ao K.iW rfl ?_
 have h:=TN l x hl
 have e:=JR (l:=l) (p:=fun y=>decide (y=x))
 have e2:l.any (fun y=>decide (y=x))=decide (x∈l):=by rw[Bool.eq_iff_iff];simp
 rw[e2]at e
 cases hf:(List.range l.length).find? (fun j=>decide (nth l j=x))with
 | some j=>rw[hf]at e h;simp(disch:=omega)only[go_sem,K.aQ,↓reduceIte,←e,h]
 | none=>rw[hf]at e h;simp(disch:=omega)only[go_sem,K.aQ,↓reduceIte,←e,h,Option.isSome_none]
theorem HB(l:List Int)(hl:l.length≤4294967296)(f:Nat)(bs:List (List T))(p:Int→Bool)(h:∀x,x∈l→aD 0 f (I x::hX bs.length) (aX bs)=some (B (p x),aX bs)):
 aD 0 N.aI [.t (tL l),.fn f (hX bs.length)] (aX bs)=
 some (I (match (List.range l.length).find? (fun j=>p (nth l j))with | some j=>(j:Int) | none=> -1),aX bs):=by
 refine ao K.dM rfl ?_
 have loop:∀a b:D,exS aD K.eY ⟨[.t (tL l),.fn f (hX bs.length),a,b,I l.length,I 0],aX bs⟩=
  some (match (List.range l.length).find? (fun j=>p (nth l j))with
   | some j=>(.ret,⟨[.t (tL l),.fn f (hX bs.length),I j,I j,I l.length,I j],aX bs⟩)
   | none=>(.exit 0,⟨[.t (tL l),.fn f (hX bs.length),.und,.und,I l.length,I l.length],aX bs⟩)):=by
  intro a b
  refine cH (fun j=>⟨[.t (tL l),.fn f (hX bs.length),.und,.und,I l.length,I j],aX bs⟩) l.length (fun j=>p (nth l j)) _ _ rfl ?_ ?_ ?_ (by simp)
  · intro j hj hp
    have hc:=pf (h _ (ai hj)) rfl
    simp(disch:=omega)only[go_sem,K.aY,↓reduceIte,hc,hp]
  · intro j hj hp
    have hc:=pf (h _ (ai hj)) rfl
    simp(disch:=omega)only[go_sem,K.aY,↓reduceIte,hp,hc]
    simp
  · simp(disch:=omega)only[go_sem,K.aY,↓reduceIte]
 simp(disch:=omega)only[go_sem,K.aI,↓reduceIte,loop]
 cases hf:(List.range l.length).find? (fun j=>p (nth l j))with
 | some j=>simp(disch:=omega)only[go_sem,↓reduceIte]
 | none=>simp(disch:=omega)only[go_sem,↓reduceIte]
theorem uU(l:List Int)(hl:l.length≤4294967296)(f:Nat)(bs:List (List T))(p:Int→Bool)(h:∀x,x∈l→aD 0 f (I x::hX bs.length) (aX bs)=some (B (p x),aX bs)):
 aD 0 N.aK [.t (tL l),.fn f (hX bs.length)] (aX bs)=some (B (l.any p),aX bs):=by
 refine ao K.gM rfl ?_
 have h:=HB l hl f bs p h
 have hc:=Ah aD bs f _ 0 (tL l) h rfl
 have e:=JR (l:=l) (p:=p)
 cases hf:(List.range l.length).find? (fun j=>p (nth l j))with
 | some j=>rw[hf]at e hc;simp(disch:=omega)only[go_sem,K.aK,↓reduceIte,←e,hc]
 | none=>rw[hf]at e hc;simp(disch:=omega)only[go_sem,K.aK,↓reduceIte,←e,hc,Option.isSome_none]
theorem YR(r:Road)(back:Bool):aD 0 N.jS [.t r.e,B back] []=some (.tup [I (if back then r.to else r.frm),I (if back then r.frm else r.to)],[]):=by
 refine ao K.uS rfl ?_
 cases back<;>simp(disch:=omega)only[go_sem,K.jS,↓reduceIte]
def iN(m:aB)(k:Nat)(back:Bool)(up down level:Int):Int:=
 let x:=nth m.roads k
 if x.closed=true∨x.walk=false then -1 else
 let a:=if back then x.to else x.frm
 let b:=if back then x.frm else x.to
 let rise:=(nth m.aa b.toNat).h-(nth m.aa a.toNat).h
 let speed:=if -10*rise>x.len then down else if 10*rise>x.len then up else level
 (10*x.len+speed-1).tdiv speed
theorem xN{a b:Int}(ha:0≤a)(hb:1≤b):0≤a.tdiv b∧a.tdiv b≤a:=by
 rw[Int.tdiv_eq_ediv_of_nonneg ha]
 exact⟨Int.ediv_nonneg ha (by omega),Int.ediv_le_self _ ha⟩
theorem HC{m:aB}(h:m.ok)(k:Nat)(hk:k<m.roads.length)(back:Bool)(up down level:Int)(hu:1≤up)(hu2:up≤100)(hd:1≤down)(hd2:down≤100)(hl:1≤level)(hl2:level≤100):
 aD 0 N.cJ [.t m.e,I k,B back,I up,I down,I level] []=some (I (iN m k back up down level),[]):=by
 refine ao K.qL rfl ?_
 have hc:=nO h
 have nr:=h.nr
 have np:=h.np
 obtain⟨f0,f1,t0,t1, -,l0,l1, -, -, -, -, -, -, -, -⟩:=h.rs _ (ai hk)
 have he:=YR (nth m.roads k) back
 have b1:=h.hs _ (ai (l:=m.aa) (j:=(nth m.roads k).frm.toNat) (by omega))
 have b2:=h.hs _ (ai (l:=m.aa) (j:=(nth m.roads k).to.toNat) (by omega))
 unfold iN
 generalize hx:nth m.roads k=x at*
 obtain⟨frm,to,len,area,walk,closed,rl,rh,ll,lh⟩:=x
 simp only at f0 f1 t0 t1 l0 l1 b1 b2 he ⊢
 cases closed with
 | true=>simp(disch:=omega)only[go_sem,K.cJ,↓reduceIte,hc,hx]
 | false=>
   cases walk with
   | false=>simp(disch:=omega)only[go_sem,K.cJ,↓reduceIte,hc,hx]
   | true=>
     have g1:=xN (a:=10*len+up-1) (b:=up) (by omega) hu
     have g2:=xN (a:=10*len+down-1) (b:=down) (by omega) hd
     have g3:=xN (a:=10*len+level-1) (b:=level) (by omega) hl
     cases back with
     | true=>
       simp only[↓reduceIte]at he ⊢
       have w1:IntKind.i64.wrap ((nth m.aa frm.toNat).h-(nth m.aa to.toNat).h)=(nth m.aa frm.toNat).h-(nth m.aa to.toNat).h:=xD (by omega) (by omega)
       by_cases c2:len< -10*((nth m.aa frm.toNat).h-(nth m.aa to.toNat).h)
       · simp(disch:=omega)only[go_sem,K.cJ,↓reduceIte,hc,hx,he,w1,gt_iff_lt]
       · by_cases c1:len<10*((nth m.aa frm.toNat).h-(nth m.aa to.toNat).h)
         · simp(disch:=omega)only[go_sem,K.cJ,↓reduceIte,hc,hx,he,w1,gt_iff_lt]
         · simp(disch:=omega)only[go_sem,K.cJ,↓reduceIte,hc,hx,he,w1,gt_iff_lt]
     | false=>
       simp only[aLt,↓reduceIte]at he ⊢
       have w1:IntKind.i64.wrap ((nth m.aa to.toNat).h-(nth m.aa frm.toNat).h)=(nth m.aa to.toNat).h-(nth m.aa frm.toNat).h:=xD (by omega) (by omega)
       by_cases c2:len< -10*((nth m.aa to.toNat).h-(nth m.aa frm.toNat).h)
       · simp(disch:=omega)only[go_sem,K.cJ,↓reduceIte,hc,hx,he,w1,gt_iff_lt]
       · by_cases c1:len<10*((nth m.aa to.toNat).h-(nth m.aa frm.toNat).h)
         · simp(disch:=omega)only[go_sem,K.cJ,↓reduceIte,hc,hx,he,w1,gt_iff_lt]
         · simp(disch:=omega)only[go_sem,K.cJ,↓reduceIte,hc,hx,he,w1,gt_iff_lt]
theorem PY{m:aB}(h:m.ok)(k:Nat)(hk:k<m.roads.length)(back:Bool):aD 0 N.jq [.t m.e,I k,B back] []=some (I (iN m k back 6 9 12),[]):=by
 refine ao K.uQ rfl ?_
 have hw:=HC h k hk back 6 9 12 (by omega) (by omega) (by omega) (by omega) (by omega) (by omega)
 simp(disch:=omega)only[go_sem,K.jq,↓reduceIte,hw]
theorem Ft{m:aB}(h:m.ok)(k:Nat)(hk:k<m.roads.length)(back:Bool): -1≤iN m k back 6 9 12∧iN m k back 6 9 12≤1000012:=by
 have l0:=(h.rs _ (ai hk)).l0
 have l1:=(h.rs _ (ai hk)).l1
 unfold iN
 simp only
 split
 · omega
 · generalize hs:(if -10*_>(nth m.roads k).len then(9:Int)else _)=s
   have h1:1≤s∧s≤12:=by
    rw[← hs]
    split
    · omega
    · split<;>omega
   have g1:=xN (a:=10*(nth m.roads k).len+s-1) (b:=s) (by omega) h1.1
   omega
def bnd(l:List Int):Prop:=∀x∈l,0≤x∧x≤1099511627776
def oK(l:List Int)(p q:Nat)(walk t:Int):Bool:=
 decide (0≤walk)&&decide (nth l p<1099511627776)&&decide (max t (nth l p+walk)≤2147483648)&&decide (max t (nth l p+walk)<nth l q)
def pJ(l:List Int)(p q:Nat)(walk t:Int):List Int:=if oK l p q walk t=true then l.set q (max t (nth l p+walk))else l
theorem Fu(l:List Int)(hb:bnd l)(hl:l.length≤64)(p q:Int)(hp:0≤p)(hp2:p<l.length)(hq:0≤q)(hq2:q<l.length)(walk t:Int)(hw:walk≤1000000000)(ht:t≤1000000000000)(ht0: -1000000000000≤t):
 aD 0 N.ez [.ref 0 0 l.length,I p,I q,I walk,I t] [.arr 1 false 0 ((l.map (T.int .i64)).map .t)]=
  some (B (oK l p.toNat q.toNat walk t),[.arr 1 false 0 (((pJ l p.toNat q.toNat walk t).map (T.int .i64)).map .t)]):=by
 refine ao K.sO rfl ?_
 have b1:=hb _ (ai (l:=l) (j:=p.toNat) (by omega))
 have b2:=hb _ (ai (l:=l) (j:=q.toNat) (by omega))
 clear hb
 unfold pJ oK
 by_cases c1:0≤walk
 · by_cases c2:nth l p.toNat<1099511627776
   · by_cases c3:max t (nth l p.toNat+walk)≤2147483648
     · by_cases c4:max t (nth l p.toNat+walk)<nth l q.toNat
       · simp(disch:=omega)only[go_sem,K.ez,↓reduceIte]
       · simp(disch:=omega)only[go_sem,K.ez,↓reduceIte]
     · simp(disch:=omega)only[go_sem,K.ez,↓reduceIte]
   · simp(disch:=omega)only[go_sem,K.ez,↓reduceIte]
 · simp(disch:=omega)only[go_sem,K.ez,↓reduceIte]
def PZ(into:Option (List Int))(p:Int):Bool:=match into with
 | none=>true
 | some l=>decide (p∈l)
def qM(into:Option (List Int)):D:=match into with
 | none=> .nil
 | some l=> .t (tL l)
def Road.src(r:Road)(back:Bool):Int:=if back then r.to else r.frm
def Road.dst(r:Road)(back:Bool):Int:=if back then r.frm else r.to
theorem Road.AL{n:Nat}{r:Road}(h:r.ok n)(back:Bool):0≤r.src back∧r.src back<n:=by
 unfold Road.src;have:=h.f0;have:=h.f1;have:=h.t0;have:=h.t1;cases back<;>simp<;>omega
theorem Road.Er{n:Nat}{r:Road}(h:r.ok n)(back:Bool):0≤r.dst back∧r.dst back<n:=by
 unfold Road.dst;have:=h.f0;have:=h.f1;have:=h.t0;have:=h.t1;cases back<;>simp<;>omega
def gR(m:aB)(t:Int)(into:Option (List Int))(k:Nat)(back:Bool)(l:List Int):List Int×Bool:=
 if PZ into ((nth m.roads k).dst back)=true then
  (pJ l ((nth m.roads k).src back).toNat ((nth m.roads k).dst back).toNat (iN m k back 6 9 12) t,oK l ((nth m.roads k).src back).toNat ((nth m.roads k).dst back).toNat (iN m k back 6 9 12) t)
 else(l,false)
def xO(m:aB)(t:Int)(into:Option (List Int))(k:Nat)(s:List Int×Bool):List Int×Bool:=
 let a:=gR m t into k false s.1
 let b:=gR m t into k true a.1
 (b.1,s.2||a.2||b.2)
def gH(m:aB)(t:Int)(into:Option (List Int))(l:List Int):Nat→List Int×Bool
 | 0=>(l,false)
 | k+1=>xO m t into k (gH m t into l k)
def ef(m:aB)(t:Int)(into:Option (List Int))(l:List Int):List Int×Bool:=gH m t into l m.roads.length
theorem pg(l:List Int)(p q:Nat)(w t:Int):(pJ l p q w t).length=l.length:=by unfold pJ;split<;>simp
theorem rQ(m:aB)(t:Int)(into:Option (List Int))(k:Nat)(back:Bool)(l:List Int):(gR m t into k back l).1.length=l.length:=by
 unfold gR;split
 · exact pg _ _ _ _ _
 · rfl
theorem eG(m:aB)(t:Int)(into:Option (List Int))(l:List Int):∀k,(gH m t into l k).1.length=l.length
 | 0=>rfl
 | k+1=>by simp only[gH,xO,rQ,eG m t into l k]
theorem Ai{l:List Int}(h:bnd l){q:Nat}{x:Int}(h0:0≤x)(h1:x≤1099511627776):bnd (l.set q x):=by
 intro y hy
 rcases aLk hy with hy | hy
 · exact h y hy
 · subst hy;exact⟨h0,h1⟩
theorem Es{l:List Int}(h:bnd l){p q:Nat}(hp:p<l.length){w t:Int}:bnd (pJ l p q w t):=by
 unfold pJ
 split
 · rename_i hc
   simp only[oK,aLr,decide_eq_true_eq]at hc
   have:=h _ (ai hp)
   exact Ai h (by omega) (by omega)
 · exact h
section
variable {m : aB} (h : m.ok) {t : Int} {into : Option (List Int)}
include h
theorem uV{l:List Int}(hl:l.length=m.aa.length)(hb:bnd l){k:Nat}(hk:k<m.roads.length)(back:Bool):bnd (gR m t into k back l).1:=by
 have r1:=Road.AL (h.rs _ (ai hk)) back
 unfold gR
 split
 · exact Es hb (by omega)
 · exact hb
theorem jV{l:List Int}(hl:l.length=m.aa.length)(hb:bnd l):∀k,k≤m.roads.length→bnd (gH m t into l k).1
 | 0,_=>hb
 | k+1,hk=>by
   simp only[gH,xO]
   exact uV h (by rw[rQ,eG,hl]) (uV h (by rw[eG,hl]) (jV hl hb k (by omega)) (by omega) _) (by omega) _
end
def BQ(l:List Int):Nat:=(l.map Int.toNat).sum
theorem Lu:∀ {l:List Int} {q:Nat} {x:Int},q<l.length→0≤x→x<nth l q→BQ (l.set q x)<BQ l
 | [],q,x,h,_,_=>by simp at h
 | a::l,0,x,_,h0,h1=>by
   have h1:x<a:=by simpa [nth]using h1
   simp only[BQ,List.set_cons_zero,List.map_cons,List.sum_cons];omega
 | a::l,q+1,x,h,h0,h1=>by
   have:=Lu (l:=l) (q:=q) (x:=x) (by simpa using h) h0 (by simpa [nth]using h1)
   simp only[BQ,List.set_cons_succ,List.map_cons,List.sum_cons]at this ⊢;omega
theorem M1{l:List Int}(hb:bnd l){p q:Nat}(hp:p<l.length)(hq:q<l.length){w t:Int}:
 (oK l p q w t=true→BQ (pJ l p q w t)<BQ l)∧(oK l p q w t=false→pJ l p q w t=l):=by
 unfold pJ
 constructor
 · intro hc
   rw[if_pos hc]
   simp only[oK,aLr,decide_eq_true_eq]at hc
   have:=hb _ (ai hp)
   exact Lu hq (by omega) hc.2
 · intro hc;rw[if_neg (by simp[hc])]
section
variable {m : aB} (h : m.ok) {t : Int} {into : Option (List Int)}
include h
theorem CL{l:List Int}(hl:l.length=m.aa.length)(hb:bnd l){k:Nat}(hk:k<m.roads.length)(back:Bool):
 ((gR m t into k back l).2=true→BQ (gR m t into k back l).1<BQ l)∧((gR m t into k back l).2=false→(gR m t into k back l).1=l):=by
 have r1:=Road.AL (h.rs _ (ai hk)) back
 have r2:=Road.Er (h.rs _ (ai hk)) back
 unfold gR
 split
 · exact M1 hb (by omega) (by omega)
 · simp
theorem rR{l:List Int}(hl:l.length=m.aa.length)(hb:bnd l):∀k,k≤m.roads.length→
 ((gH m t into l k).2=true→BQ (gH m t into l k).1<BQ l)∧((gH m t into l k).2=false→(gH m t into l k).1=l)
 | 0,_=>⟨fun h=>by simp[gH]at h,fun _=>rfl⟩
 | k+1,hk=>by
   obtain⟨i1,i2⟩:=rR hl hb k (by omega)
   have hb1:=jV h (t:=t) (into:=into) hl hb k (by omega)
   have hl1:(gH m t into l k).1.length=m.aa.length:=by rw[eG,hl]
   obtain⟨a1,a2⟩:=CL h (t:=t) (into:=into) hl1 hb1 (k:=k) (by omega) false
   have hb2:=uV h (t:=t) (into:=into) hl1 hb1 (k:=k) (by omega) false
   obtain⟨c1,c2⟩:=CL h (t:=t) (into:=into) (by rw[rQ,hl1]) hb2 (k:=k) (by omega) true
   simp only[gH,xO]
   generalize gH m t into l k=s at*
   obtain⟨sl,sb⟩:=s
   simp only at*
   generalize gR m t into k false sl=a at*
   obtain⟨al,ab⟩:=a
   simp only at*
   generalize gR m t into k true al=b at*
   obtain⟨bl,bb⟩:=b
   simp only at*
   cases sb<;>cases ab<;>cases bb<;>simp_all<;>omega
end
end Go.Ev
namespace Go.Ev
open Go
variable [Lib] [cu] [bM]
abbrev ae(m:aB):List D:=[.t (.sl (m.aa.map Place.e)),.t (.sl (m.roads.map Road.e))]
theorem YS(H:aq)(into:Option (List Int))(hi:∀l,into=some l→l≠[]):Hq H .sl false (some (qM into)) (some .nil)=some (B (into.isNone),H):=by
 cases into with
 | none=>rfl
 | some l=>exact BN H _ (by simpa using hi l rfl)
@[go_sem] theorem ae3 (k n : Nat) (into : Option (List Int)) : old k n (qM into) = true := by
 cases into<;>simp only[qM,go_sem]
theorem M3{m:aB}(h:m.ok)(t:Int)(ht:t≤1000000000000)(ht0: -1000000000000≤t)(into:Option (List Int))(hi:∀l,into=some l→l≠[]∧l.length≤64)(l:List Int)(hl:l.length=m.aa.length)(hb:bnd l)
 (k:Nat) (hk:k<m.roads.length) (ag:Bool):
 gE true [0,1,5,9] 2 (exS aD K.gw ⟨[.und,.und,I t,qM into,.bp 0 0,.und,.ref 1 0 l.length,B ag,I k,.und],[.box (ae m),.arr 1 false 0 ((l.map (T.int .i64)).map .t)]⟩)=
  some ⟨[.und,.und,I t,qM into,.bp 0 0,.und,.ref 1 0 (xO m t into k (l,ag)).1.length,B (xO m t into k (l,ag)).2,I (k+1),.und],[.box (ae m),.arr 1 false 0 (((xO m t into k (l,ag)).1.map (T.int .i64)).map .t)]⟩:=by
 have np:=h.np
 have nr:=h.nr
 have t1:=PY h k hk false
 have t2:=PY h k hk true
 have w1:=(Ft h k hk false).2
 have w2:=(Ft h k hk true).2
 obtain⟨f0,f1,t0,t1', -, -, -, -, -, -, -, -, -, -, -⟩:=h.rs _ (ai hk)
 have e0:=fun H=>YS H into fun l hl=>(hi l hl).1
 have lw1:=Fu l hb (by omega) (nth m.roads k).frm (nth m.roads k).to f0 (by omega) t0 (by omega) (iN m k false 6 9 12) t (by omega) ht ht0
 have lw2:=Fu l hb (by omega) (nth m.roads k).to (nth m.roads k).frm t0 (by omega) f0 (by omega) (iN m k true 6 9 12) t (by omega) ht ht0
 have hl':(pJ l (nth m.roads k).frm.toNat (nth m.roads k).to.toNat (iN m k false 6 9 12) t).length=l.length:=pg ..
 have lw3:=Fu _ (Es hb (p:=(nth m.roads k).frm.toNat) (q:=(nth m.roads k).to.toNat) (w:=iN m k false 6 9 12) (t:=t) (by omega)) (by omega) (nth m.roads k).to (nth m.roads k).frm t0 (by omega) f0 (by omega) (iN m k true 6 9 12) t (by omega) ht ht0
 rw[hl']at lw3
 simp only[xO,gR,Road.src,Road.dst,aLt,↓reduceIte]
 generalize hx:nth m.roads k=x at*
 obtain⟨frm,to,len,area,walk,closed,rl,rh,ll,lh⟩:=x
 simp only at f0 f1 t0 t1' lw1 lw2 lw3 hl' ⊢
 generalize hw1:iN m k false 6 9 12=v1 at*
 generalize hw2:iN m k true 6 9 12=v2 at*
 clear hb
 cases into with
 | none=>
   simp only[qM,PZ,↓reduceIte,Option.isNone]at e0 ⊢
   cases c1:oK l frm.toNat to.toNat v1 t<;>cases c2:oK (pJ l frm.toNat to.toNat v1 t) to.toNat frm.toNat v2 t<;>rw[c1]at lw1<;>rw[c2]at lw3<;>
   simp(disch:=omega)only[go_sem,K.gw,↓reduceIte,hx,e0,t1,t2,lw1,lw3,pg,reduceAdd,reduceSub]
 | some s=>
   have hs:=(hi s rfl).2
   have g1:=mI s to (by omega)
   have g2:=mI s frm (by omega)
   simp only[qM,PZ,Option.isNone]at e0 ⊢
   by_cases m1:to∈s<;>by_cases m2:frm∈s
   · simp only[m1,m2,decide_true,↓reduceIte]at g1 g2 ⊢
     cases c1:oK l frm.toNat to.toNat v1 t<;>cases c2:oK (pJ l frm.toNat to.toNat v1 t) to.toNat frm.toNat v2 t<;>rw[c1]at lw1<;>rw[c2]at lw3<;>
     simp(disch:=omega)only[go_sem,K.gw,↓reduceIte,hx,e0,t1,t2,lw1,lw3,g1,g2,c1,Bool.or_true,Bool.or_false,pg,reduceAdd,reduceSub]
   · simp only[m1,m2,decide_true,decide_false,↓reduceIte]at g1 g2 ⊢
     cases c1:oK l frm.toNat to.toNat v1 t<;>rw[c1]at lw1<;>
     simp(disch:=omega)only[go_sem,K.gw,↓reduceIte,hx,e0,t1,t2,lw1,g1,g2,c1,Bool.or_true,Bool.or_false,pg,reduceAdd,reduceSub]
   · simp only[m1,m2,decide_true,decide_false,↓reduceIte]at g1 g2 ⊢
     cases c1:oK l to.toNat frm.toNat v2 t<;>rw[c1]at lw2<;>
     simp(disch:=omega)only[go_sem,K.gw,↓reduceIte,hx,e0,t1,t2,lw2,g1,g2,c1,Bool.or_true,Bool.or_false,pg,reduceAdd,reduceSub]
   · simp only[m1,m2,decide_false,↓reduceIte]at g1 g2 ⊢
     simp(disch:=omega)only[go_sem,K.gw,↓reduceIte,hx,e0,t1,t2,g1,g2,reduceAdd,reduceSub]
theorem BR{m:aB}(h:m.ok)(t:Int)(ht:t≤1000000000000)(ht0: -1000000000000≤t)(into:Option (List Int))(hi:∀l,into=some l→l≠[]∧l.length≤64)(l:List Int)(hl:l.length=m.aa.length)(hb:bnd l):
 aD 0 N.gL [.t m.e,.t (tL l),I t,qM into] []=some (.t (tL (ju (ef m t into) (BQ l+1) l)),[])∧(ju (ef m t into) (BQ l+1) l).length=m.aa.length∧bnd (ju (ef m t into) (BQ l+1) l):=by
 have nr:=h.nr
 have inner:∀(l:List Int),l.length=m.aa.length→bnd l→∀(a b c d:D),exS aD K.w7 ⟨[a,b,I t,qM into,.bp 0 0,c,.ref 1 0 l.length,B false,I 0,d],[.box (ae m),.arr 1 false 0 ((l.map (T.int .i64)).map .t)]⟩=
  some (.exit 2,⟨[.und,.und,I t,qM into,.bp 0 0,.und,.ref 1 0 l.length,B (ef m t into l).2,I m.roads.length,.und],[.box (ae m),.arr 1 false 0 (((ef m t into l).1.map (T.int .i64)).map .t)]⟩):=by
  intro l hl hb a b c d
  refine bk (fun j=>⟨[.und,.und,I t,qM into,.bp 0 0,.und,.ref 1 0 (gH m t into l j).1.length,B (gH m t into l j).2,I j,.und],[.box (ae m),.arr 1 false 0 (((gH m t into l j).1.map (T.int .i64)).map .t)]⟩) m.roads.length rfl ?_ ?_ (by simp)
  · intro j hj
    have:=M3 h t ht ht0 into hi (gH m t into l j).1 (by rw[eG,hl]) (jV h hl hb j (by omega)) j hj (gH m t into l j).2
    exact this
  · simp(disch:=omega)only[go_sem,K.gw,↓reduceIte,ef,eG]
 have outer:=fun(a b c d e:D)=>Ag (gc:=true) (dead:=[0,1,5,8,9]) (c:=K.mF) (vs:=[a,b,I t,qM into,.bp 0 0,c,.ref 1 0 l.length,B true,d,e]) (H:=[.box (ae m),.arr 1 false 0 ((l.map (T.int .i64)).map .t)])
  (fun l ag=>⟨[.und,.und,I t,qM into,.bp 0 0,.und,.ref 1 0 l.length,B ag,.und,.und],[.box (ae m),.arr 1 false 0 ((l.map (T.int .i64)).map .t)]⟩)
  (fun l=>(.exit 0,⟨[.und,.und,I t,qM into,.bp 0 0,.und,.ref 1 0 l.length,B false,.und,.und],[.box (ae m),.arr 1 false 0 ((l.map (T.int .i64)).map .t)]⟩))
  (ef m t into) (fun l=>l.length=m.aa.length∧bnd l) BQ
  (fun l ⟨hl,hb⟩=>⟨⟨by rw[ef,eG,hl],jV h hl hb _ (aLs _)⟩,(rR h hl hb _ (aLs _)).1⟩)
  (by
   rintro l ⟨hl,hb⟩
   have:=inner l hl hb
   have e:(ef m t into l).1.length=l.length:=by rw[ef,eG]
   simp(disch:=omega)only[go_sem,K.mF,↓reduceIte,this,e])
  (by
   rintro l ⟨hl,hb⟩
   simp(disch:=omega)only[go_sem,K.mF,↓reduceIte,reduceCtorEq,ne_eq,not_false_eq_true,and_self])
  l ⟨hl,hb⟩ rfl
 obtain⟨-,o2⟩:=outer .und .und .und .und .und
 refine⟨?_,o2⟩
 refine ao K.sM rfl ?_
 have o1:∀a b c d e:D,exS aD K.w8 ⟨[a,b,I t,qM into,.bp 0 0,c,.ref 1 0 l.length,B true,d,e],[.box (ae m),.arr 1 false 0 ((l.map (T.int .i64)).map .t)]⟩=_:=fun a b c d e=>(outer a b c d e).1
 clear outer inner
 have np:=h.np
 have o2:=o2.1
 generalize ju (ef m t into) (BQ l+1) l=l2 at*
 cases into with
 | none=>
   simp only[qM]at o1
   simp(disch:=omega)only[go_sem,K.gL,↓reduceIte,o1,qM]
 | some s=>
   simp only[qM]at o1
   simp(disch:=omega)only[go_sem,K.gL,↓reduceIte,o1,qM]
structure Wh where
 time:Int
 frm:List Int
instance : Dat Wh := ⟨⟨0, []⟩⟩
abbrev Wh.e(w:Wh):T:= .agg [tI w.time,tL w.frm]
def dN(m:aB)(t:Int)(into:Option (List Int))(l:List Int):List Int:=ju (ef m t into) (BQ l+1) l
def inT(t:Int):Prop:=0≤t∧t≤2147483648
instance (t : Int) : Decidable (inT t) := by unfold inT; infer_instance
def plT(x:Int):Prop:=x=1099511627776∨inT x
instance (t : Int) : Decidable (plT t) := by unfold plT; infer_instance
def lu(w:Wh)(n:Int):Bool:=decide ((w.frm.length:Int)=n∧inT w.time)&&(List.range w.frm.length).all fun j=>decide (plT (nth w.frm j))
theorem nE{x:Int}(h:plT x):0≤x∧x≤1099511627776:=by unfold plT inT at h;omega
theorem yY(t:Int):aD 0 N.eE [I t] []=some (B (decide (inT t)),[]):=by
 refine ao K.qK rfl ?_
 unfold inT
 by_cases h1:0≤t<;>by_cases h2:t≤2147483648<;>simp(disch:=omega)only[go_sem,K.eE,↓reduceIte,h1,h2]
theorem yZ{m:aB}(h:m.ok)(t:Int)(ht:inT t)(l:List Int)(hl:l.length=m.aa.length)(hb:bnd l):
 aD 0 N.eV [.t m.e,.t (tL l),I t] []=some (.t (tL (dN m t none l)),[]):=by
 refine ao K.sJ rfl ?_
 unfold inT at ht
 have:=(BR h t (by omega) (by omega) none (by simp) l hl hb).1
 simp only[qM]at this
 unfold dN
 simp(disch:=omega)only[go_sem,K.eV,↓reduceIte,this]
theorem BS(w:Wh)(n:Int)(hl:w.frm.length≤4294967296):aD 0 N.eu [.t w.e,I n] []=some (B (lu w n),[]):=by
 refine ao K.sN rfl ?_
 obtain⟨time,frm⟩:=w
 simp only at hl
 have loop:∀a b c:D,exS aD K.w9 ⟨[a,b,.bp 0 0,c,I 0],[.box [I time,.t (tL frm)]]⟩=
  some (match (List.range frm.length).find? (fun j=> !decide (plT (nth frm j)))with
   | some j=>(.ret,⟨[.und,.und,.bp 0 0,B false,I j],[.box [I time,.t (tL frm)]]⟩)
   | none=>(.exit 0,⟨[.und,.und,.bp 0 0,.und,I frm.length],[.box [I time,.t (tL frm)]]⟩)):=by
  intro a b c
  refine cH (fun j=>⟨[.und,.und,.bp 0 0,.und,I j],[.box [I time,.t (tL frm)]]⟩) frm.length (fun j=> !decide (plT (nth frm j))) _ _ rfl ?_ ?_ ?_ (by simp)
  · intro j hj hp
    have hp:plT (nth frm j):=by simpa using hp
    unfold plT inT at hp
    by_cases h1:nth frm j=1099511627776
    · simp(disch:=omega)only[go_sem,K.jt,↓reduceIte,h1]
    · simp(disch:=omega)only[go_sem,K.jt,↓reduceIte]
  · intro j hj hp
    have hp:¬plT (nth frm j):=by simpa using hp
    unfold plT inT at hp
    by_cases h2:0≤nth frm j
    · simp(disch:=omega)only[go_sem,K.jt,↓reduceIte]
      simp
    · simp(disch:=omega)only[go_sem,K.jt,↓reduceIte]
      simp
  · simp(disch:=omega)only[go_sem,K.jt,↓reduceIte]
 unfold lu
 rw[sP]
 by_cases h1:(frm.length:Int)=n
 · by_cases h2:0≤time
   · by_cases h3:time≤2147483648
     · have h4:inT time:=⟨h2,h3⟩
       simp(disch:=omega)only[go_sem,K.eu,↓reduceIte,loop,h1]
       cases hf:(List.range frm.length).find? (fun j=> !decide (plT (nth frm j)))with
       | some j=>simp(disch:=omega)only[go_sem,↓reduceIte,Option.isNone]
       | none=>simp(disch:=omega)only[go_sem,↓reduceIte,Option.isNone,h4,and_self,decide_true]
     · have h4:¬inT time:=by unfold inT;omega
       simp(disch:=omega)only[go_sem,K.eu,↓reduceIte,loop,h1,h4,and_false,decide_false]
   · have h4:¬inT time:=by unfold inT;omega
     simp(disch:=omega)only[go_sem,K.eu,↓reduceIte,loop,h1,h4,and_false,decide_false]
 · simp(disch:=omega)only[go_sem,K.eu,↓reduceIte,loop,h1,false_and,decide_false]
def dX(m:aB)(w:Wh):Bool:=lu w m.aa.length&&decide (dN m w.time none w.frm=w.frm)
theorem lU{w:Wh}{n:Int}(h:lu w n=true):(w.frm.length:Int)=n∧inT w.time∧∀x∈w.frm,plT x:=by
 simp only[lu,aLr,decide_eq_true_eq,aLx,aLu]at h
 refine⟨h.1.1,h.1.2,fun x hx=>?_⟩
 obtain⟨j,hj⟩:=aLf.1 hx
 have:=h.2 j (aLe.1 hj).1
 rwa [bC hj]at this
theorem mb{m:aB}(h:m.ok)(t:Int)(ht:inT t)(into:Option (List Int))(hi:∀l,into=some l→l≠[]∧l.length≤64){l:List Int}(hl:l.length=m.aa.length)(hb:bnd l):(dN m t into l).length=m.aa.length:=by
 unfold inT at ht
 exact(BR h t (by omega) (by omega) into hi l hl hb).2.1
theorem Et{m:aB}(h:m.ok)(t:Int)(ht:inT t)(into:Option (List Int))(hi:∀l,into=some l→l≠[]∧l.length≤64){l:List Int}(hl:l.length=m.aa.length)(hb:bnd l):bnd (dN m t into l):=by
 unfold inT at ht
 exact(BR h t (by omega) (by omega) into hi l hl hb).2.2
theorem Fv{m:aB}(h:m.ok)(w:Wh)(hl:w.frm.length≤4294967296):aD 0 N.gK [.t m.e,.t w.e] []=some (B (dX m w),[]):=by
 refine ao K.sK rfl ?_
 have c:=nO h
 have p:=BS w m.aa.length hl
 have np:=h.np
 unfold dX
 cases hp:lu w m.aa.length with
 | false=>
   rw[hp]at p
   obtain⟨time,frm⟩:=w
   simp(disch:=omega)only[go_sem,K.gK,↓reduceIte,c,p,Bool.false_and,reduceAdd,reduceSub]
 | true=>
   obtain⟨h1,h2,h3⟩:=lU hp
   rw[hp]at p
   have hb:bnd w.frm:=fun x hx=>nE (h3 x hx)
   have cl:=yZ h w.time h2 w.frm (by omega) hb
   have ln:=mb h w.time h2 none (by simp) (l:=w.frm) (by omega) hb
   obtain⟨time,frm⟩:=w
   simp only at*
   have sm:=xM (dN m time none frm) frm (by omega)
   simp(disch:=omega)only[go_sem,K.gK,↓reduceIte,c,p,cl,sm,Bool.true_and,reduceAdd,reduceSub]
theorem CM(w:Wh)(hl:w.frm.length≤4294967296):aD 0 N.dv [.t w.e] []=some (.t w.e,[]):=by
 refine ao K.uO rfl ?_
 obtain⟨time,frm⟩:=w
 simp only at*
 simp(disch:=omega)only[go_sem,K.dv,↓reduceIte,reduceAdd,reduceSub]
def nX(n:Nat):List Int:=List.replicate n 1099511627776
theorem JS(n:Nat):nX (n+1)=nX n++[1099511627776]:=List.replicate_succ'
@[simp] theorem ph (n : Nat) : (nX n).length = n := List.length_replicate
theorem Aj(n:Nat):bnd (nX n):=fun x hx=>by rw[List.eq_of_mem_replicate hx];omega
theorem M4(n:Nat)(hn:n≤1000000)(a:D):exS aD K.wZ ⟨[I n,a,.ref 0 0 0,I 0],[.arr 1 false 0 []]⟩=
 some (.exit 0,⟨[I n,.und,.ref 0 0 n,I n],[.arr 1 false 0 (((nX n).map (T.int .i64)).map .t)]⟩):=by
 refine bk (fun j=>⟨[I n,.und,.ref 0 0 (nX j).length,I j],[.arr 1 false 0 (((nX j).map (T.int .i64)).map .t)]⟩) n rfl ?_ ?_ (by simp)
 · intro j hj
   have:=ph j
   simp(disch:=omega)only[go_sem,K.pH,JS,↓reduceIte]
 · simp(disch:=omega)only[go_sem,K.pH,↓reduceIte,ph]
theorem HD(n:Nat)(hn:n≤1000000):aD 1 N.ir [I n] []=some (.ref 0 0 n,[.arr 1 false 0 (((nX n).map (T.int .i64)).map .t)]):=by
 refine ao K.sI rfl ?_
 have:=M4 n hn
 simp(disch:=omega)only[go_sem,K.ir,↓reduceIte,this]
def iP(m:aB)(p t:Int):Wh×Int:=
 if p<0∨(m.aa.length:Int)≤p then(⟨0,[]⟩,3)else if inT t then(⟨t,dN m t none ((nX m.aa.length).set p.toNat t)⟩,0)else(⟨0,[]⟩,8)
theorem Lv{m:aB}(h:m.ok)(p t:Int):aD 0 N.fM [.t m.e,I p,I t] []=some (.tup [.t (iP m p t).1.e,I (iP m p t).2],[]):=by
 refine ao K.sC rfl ?_
 have c:=nO h
 have np:=h.np
 have it:=yY t
 have nl:=ph m.aa.length
 have nv:=HD m.aa.length (by omega)
 unfold iP
 by_cases h1:p<0
 · simp(disch:=omega)only[go_sem,K.fM,↓reduceIte,c,h1,true_or]
   rfl
 · by_cases h2:(m.aa.length:Int)≤p
   · simp(disch:=omega)only[go_sem,K.fM,↓reduceIte,c,h1,h2,or_true]
     rfl
   · by_cases h3:inT t
     · have b:bnd ((nX m.aa.length).set p.toNat t):=Ai (Aj _) h3.1 (by have:=h3.2;omega)
       have cl:=yZ h t h3 ((nX m.aa.length).set p.toNat t) (by simp) b
       simp only[h3,decide_true]at it
       simp(disch:=omega)only[go_sem,K.fM,↓reduceIte,c,h1,h2,or_self,h3,it,nv,ph,cl]
     · simp only[h3,decide_false]at it
       simp(disch:=omega)only[go_sem,K.fM,↓reduceIte,c,h1,h2,or_self,h3,it]
       rfl
def y0(w:Wh)(t:Int):List Int:=b9 w.frm.length fun j=>decide (nth w.frm j≤t)
theorem y4(w:Wh)(t:Int)(hl:w.frm.length≤1000000):aD 0 N.eO [.t w.e,I t] []=some (.t (tL (y0 w t)),[]):=by
 refine ao K.ox rfl ?_
 obtain⟨time,frm⟩:=w
 simp only[y0]at*
 have hlen:=fun k=>iJ k (fun j=>decide (nth frm j≤t))
 have loop:∀a b:D,exS aD K.rO ⟨[a,I t,.bp 0 0,b,.ref 1 0 0,I 0],[.box [I time,.t (tL frm)],.arr 1 false 0 []]⟩=
  some (.exit 0,⟨[.und,I t,.bp 0 0,.und,.ref 1 0 (b9 frm.length (fun j=>decide (nth frm j≤t))).length,I frm.length],[.box [I time,.t (tL frm)],.arr 1 false 0 (((b9 frm.length (fun j=>decide (nth frm j≤t))).map (T.int .i64)).map .t)]⟩):=by
  intro a b
  refine bk (fun j=>⟨[.und,I t,.bp 0 0,.und,.ref 1 0 (b9 j (fun j=>decide (nth frm j≤t))).length,I j],[.box [I time,.t (tL frm)],.arr 1 false 0 (((b9 j (fun j=>decide (nth frm j≤t))).map (T.int .i64)).map .t)]⟩) frm.length rfl ?_ ?_ (by simp)
  · intro j hj
    have:=hlen j
    by_cases hp:nth frm j≤t
    · simp(disch:=omega)only[go_sem,K.kf,lT,hp,decide_true,↓reduceIte]
    · simp(disch:=omega)only[go_sem,K.kf,lT,hp,decide_false,↓reduceIte]
  · simp(disch:=omega)only[go_sem,K.kf,↓reduceIte]
 have:=hlen frm.length
 simp(disch:=omega)only[go_sem,K.eO,↓reduceIte,loop]
def oL(w:Wh)(t:Int):Wh×Int:=if t<w.time∨2147483648<t then(w,8)else(⟨t,w.frm⟩,0)
theorem Lw(w:Wh)(t:Int)(hl:w.frm.length≤1000000):aD 0 N.fN [.t w.e,I t] []=some (.tup [.t (oL w t).1.e,I (oL w t).2],[]):=by
 refine ao K.sF rfl ?_
 have c:=CM w (by omega)
 obtain⟨time,frm⟩:=w
 simp only[oL]at*
 by_cases h1:t<time
 · simp(disch:=omega)only[go_sem,K.fN,↓reduceIte,c,h1,true_or]
 · by_cases h2:2147483648<t
   · simp(disch:=omega)only[go_sem,K.fN,↓reduceIte,c,h1,h2,or_true]
   · simp(disch:=omega)only[go_sem,K.fN,↓reduceIte,c,h1,h2,or_self]
def mJ(m:aB)(w:Wh)(aa:List Int)(a b:Int):Int:=
 if dX m w=true∧aa≠[]∧lr aa m.aa.length=true then(if inT a∧inT b∧a≤b then 0 else 8)else 6
theorem Lx{m:aB}(h:m.ok)(w:Wh)(hl:w.frm.length≤1000000)(aa:List Int)(hp:aa.length≤1000000)(a b:Int):
 aD 0 N.dz [.t m.e,.t w.e,.t (tL aa),I a,I b] []=some (I (mJ m w aa a b),[]):=by
 refine ao K.sL rfl ?_
 have v:=Fv h w (by omega)
 have s:=yX aa m.aa.length (by omega)
 have np:=h.np
 have ia:=yY a
 have ib:=yY b
 obtain⟨time,frm⟩:=w
 simp only at*
 unfold mJ
 cases hv:dX m ⟨time,frm⟩with
 | false=>
   rw[hv]at v
   simp(disch:=omega)only[go_sem,K.dz,↓reduceIte,v,aLt,false_and]
 | true=>
   rw[hv]at v
   cases aa with
   | nil=>simp(disch:=omega)only[go_sem,K.dz,↓reduceIte,v,ne_eq,not_true_eq_false,false_and,and_false,List.length_nil]
   | cons x xs=>
     have hne:0<(x::xs).length:=by simp
     generalize hx:x::xs=l at*
     have hne2:l≠[]:=by intro e;rw[e]at hne;simp at hne
     cases hs:lr l m.aa.length with
     | false=>
       rw[hs]at s
       simp(disch:=omega)only[go_sem,K.dz,↓reduceIte,v,s,hne2,ne_eq,not_false_eq_true,true_and,aLt,and_false]
     | true=>
       rw[hs]at s
       by_cases h1:inT a
       · by_cases h2:inT b
         · simp only[h1,h2,decide_true]at ia ib
           by_cases h3:a≤b
           · simp(disch:=omega)only[go_sem,K.dz,↓reduceIte,v,s,hne2,ia,ib,h1,h2,h3,ne_eq,not_false_eq_true,and_self]
           · simp(disch:=omega)only[go_sem,K.dz,↓reduceIte,v,s,hne2,ia,ib,h1,h2,h3,ne_eq,not_false_eq_true,and_self,and_false]
         · simp only[h1,h2,decide_true,decide_false]at ia ib
           simp(disch:=omega)only[go_sem,K.dz,↓reduceIte,v,s,hne2,ia,ib,h1,h2,ne_eq,not_false_eq_true,and_self,and_false,false_and]
       · simp only[h1,decide_false]at ia
         simp(disch:=omega)only[go_sem,K.dz,↓reduceIte,v,s,hne2,ia,h1,ne_eq,not_false_eq_true,and_self,and_false,false_and]
theorem sQ{l:List Int}{n:Int}(h:lr l n=true){j:Nat}(hj:j<l.length):0≤nth l j∧nth l j<n∧(0<j→nth l (j-1)<nth l j):=by
 simp only[lr,aLx,aLu,decide_eq_true_eq]at h
 exact h j hj
theorem P0{l:List Int}{n:Int}(h:lr l n=true):∀ {j:Nat},j<l.length→(j:Int)≤nth l j
 | 0,hj=>by have:=sQ h hj;omega
 | j+1,hj=>by
   have h1:=P0 h (j:=j) (by omega)
   have:=(sQ h hj).2.2 (by omega)
   simp only[Nat.add_sub_cancel]at this
   omega
theorem i9{l:List Int}{n:Nat}(h:lr l n=true):l.length≤n:=by
 cases hl:l.length with
 | zero=>omega
 | succ k=>
   have h1:=P0 h (j:=k) (by omega)
   have h2:=(sQ h (j:=k) (by omega)).2.1
   omega
def Ak(w:Wh)(t p:Int)(s:List Int×Bool):List Int×Bool:=if nth w.frm p.toNat≤t then(s.1.set p.toNat (nth w.frm p.toNat),true)else s
def DC(w:Wh)(l:List Int)(t:Int)(n:Nat):Nat→List Int×Bool
 | 0=>(nX n,false)
 | j+1=>Ak w t (nth l j) (DC w l t n j)
theorem sR(w:Wh)(l:List Int)(t:Int)(n:Nat):∀j,(DC w l t n j).1.length=n
 | 0=>ph n
 | j+1=>by
   have:=sR w l t n j
   simp only[DC,Ak]
   split<;>simp[this]
theorem Fw{w:Wh}(hw:bnd w.frm)(l:List Int)(t:Int){n:Nat}(hl:∀p∈l,0≤p∧p<w.frm.length):∀j,j≤l.length→bnd (DC w l t n j).1
 | 0,_=>Aj n
 | j+1,hj=>by
   have:=Fw hw l t hl (n:=n) j (by omega)
   simp only[DC,Ak]
   split
   · have hp:=hl _ (ai (l:=l) (j:=j) (by omega))
     have:=hw _ (ai (l:=w.frm) (j:=(nth l j).toNat) (by omega))
     exact Ai (by assumption) this.1 this.2
   · exact this
def DJ(m:aB)(w:Wh)(l:List Int)(a b:Int):Wh×Int:=
 if mJ m w l a b≠0 then(w,mJ m w l a b)else if a<w.time then(w,42)else
 if(DC w l b m.aa.length l.length).2=true then(⟨b,dN m a none (DC w l b m.aa.length l.length).1⟩,0)else(w,43)
theorem oX{m:aB}{w:Wh}{l:List Int}{a b:Int}(h:mJ m w l a b=0):dX m w=true∧l≠[]∧lr l m.aa.length=true∧inT a∧inT b∧a≤b:=by
 unfold mJ at h
 split at h
 · rename_i h1
   split at h
   · rename_i h2;exact⟨h1.1,h1.2.1,h1.2.2,h2⟩
   · omega
 · omega
theorem eZ{m:aB}{w:Wh}(h:dX m w=true):w.frm.length=m.aa.length∧inT w.time∧(∀x∈w.frm,plT x)∧dN m w.time none w.frm=w.frm:=by
 simp only[dX,aLr,decide_eq_true_eq]at h
 obtain⟨h1,h2,h3⟩:=lU h.1
 exact⟨by omega,h2,h3,h.2⟩
theorem ae4{m:aB}(h:m.ok)(w:Wh)(hl:w.frm.length≤1000000)(l:List Int)(hp:l.length≤1000000)(a b:Int):
 aD 0 N.jN [.t m.e,.t w.e,.t (tL l),I a,I b] []=some (.tup [.t (DJ m w l a b).1.e,I (DJ m w l a b).2],[]):=by
 refine ao K.xL rfl ?_
 have as:=Lx h w hl l hp a b
 have cp:=CM w (by omega)
 have np:=h.np
 have nv:=HD m.aa.length (by omega)
 have nl:=ph m.aa.length
 unfold DJ
 by_cases h0:mJ m w l a b=0
 · obtain⟨v1,v2,v3,v4,v5,v6⟩:=oX h0
   obtain⟨w1,w2,w3,w4⟩:=eZ v1
   have hlen:=i9 v3
   rw[h0]at as ⊢
   obtain⟨time,frm⟩:=w
   simp only at*
   by_cases h1:a<time
   · simp(disch:=omega)only[go_sem,K.jN,↓reduceIte,as,cp,h1,ne_eq,not_true_eq_false]
   · have hbw:bnd (Wh.frm ⟨time,frm⟩):=fun x hx=>nE (w3 x hx)
     have hb:=Fw hbw l b (n:=m.aa.length) (fun p hp=>by
      obtain⟨j,hj⟩:=aLf.1 hp
      have:=sQ v3 (aLe.1 hj).1
      rw[bC hj]at this
      simp only
      omega) l.length (aLs _)
     have ln:=sR ⟨time,frm⟩ l b m.aa.length
     have loop:∀x y z u v:D,exS aD K.AZ ⟨[x,y,.t (tL l),I a,I b,.bp 0 0,.bp 1 0,.bp 2 0,z,u,.ref 3 0 m.aa.length,B false,I 0,v],[.box (ae m),.box [I time,.t (tL frm)],.box [I 0,.nil],.arr 1 false 0 (((nX m.aa.length).map (T.int .i64)).map .t)]⟩=
      some (.exit 0,⟨[.und,.und,.t (tL l),I a,I b,.bp 0 0,.bp 1 0,.bp 2 0,.und,.und,.ref 3 0 m.aa.length,B (DC ⟨time,frm⟩ l b m.aa.length l.length).2,I l.length,.und],[.box (ae m),.box [I time,.t (tL frm)],.box [I 0,.nil],.arr 1 false 0 ((((DC ⟨time,frm⟩ l b m.aa.length l.length).1).map (T.int .i64)).map .t)]⟩):=by
      intro x y z u v
      refine bk (fun j=>⟨[.und,.und,.t (tL l),I a,I b,.bp 0 0,.bp 1 0,.bp 2 0,.und,.und,.ref 3 0 m.aa.length,B (DC ⟨time,frm⟩ l b m.aa.length j).2,I j,.und],[.box (ae m),.box [I time,.t (tL frm)],.box [I 0,.nil],.arr 1 false 0 ((((DC ⟨time,frm⟩ l b m.aa.length j).1).map (T.int .i64)).map .t)]⟩) l.length rfl ?_ ?_ (by simp)
      · intro j hj
        obtain⟨p1,p2, -⟩:=sQ v3 hj
        have lj:=ln j
        by_cases hc:nth frm (nth l j).toNat≤b
        · simp(disch:=omega)only[go_sem,K.oU,↓reduceIte,DC,Ak,hc]
        · simp(disch:=omega)only[go_sem,K.oU,↓reduceIte,DC,Ak,hc]
      · simp(disch:=omega)only[go_sem,K.oU,↓reduceIte]
     have cl:=yZ h a v4 _ (ln l.length) hb
     have ln:=ln l.length
     simp(disch:=omega)only[go_sem,K.jN,↓reduceIte,as,h1,nv,loop,ne_eq,not_true_eq_false]
     cases hs:(DC ⟨time,frm⟩ l b m.aa.length l.length).2 with
     | true=>simp(disch:=omega)only[go_sem,↓reduceIte,ln,cl]
     | false=>simp(disch:=omega)only[go_sem,↓reduceIte,cp,aLt]
 · obtain⟨time,frm⟩:=w
   simp only at*
   simp(disch:=omega)only[go_sem,K.jN,↓reduceIte,as,cp,h0,ne_eq,not_false_eq_true]
def JT(l0 l:List Int):Nat→List Int
 | 0=>l0
 | j+1=>(JT l0 l j).set (nth l j).toNat 1099511627776
theorem y5(l0 l:List Int):∀j,(JT l0 l j).length=l0.length
 | 0=>rfl
 | j+1=>by simp only[JT,List.length_set,y5 l0 l j]
theorem Fx{l0:List Int}(h:bnd l0)(l:List Int):∀j,bnd (JT l0 l j)
 | 0=>h
 | j+1=>Ai (Fx h l j) (by omega) (by omega)
def Eu(m:aB)(w:Wh)(l:List Int)(a b bl:Int):Wh×Int:=
 if mJ m w l a b≠0 then(w,mJ m w l a b)else if ¬inT bl then(w,8)else if b<w.time then(w,42)else if b-max a w.time≤bl then(w,0)else
 (⟨b,dN m b none (dN m (b-bl) (some l) (JT w.frm l l.length))⟩,0)
theorem ae5{m:aB}(h:m.ok)(w:Wh)(hl:w.frm.length≤1000000)(l:List Int)(hp:l.length≤1000000)(a b bl:Int):
 aD 0 N.dT [.t m.e,.t w.e,.t (tL l),I a,I b,I bl] []=some (.tup [.t (Eu m w l a b bl).1.e,I (Eu m w l a b bl).2],[]):=by
 refine ao K.qJ rfl ?_
 have as:=Lx h w hl l hp a b
 have cp:=CM w (by omega)
 have ib:=yY bl
 have np:=h.np
 unfold Eu
 by_cases h0:mJ m w l a b=0
 · obtain⟨v1,v2,v3,v4,v5,v6⟩:=oX h0
   obtain⟨w1,w2,w3,w4⟩:=eZ v1
   have hlen:=i9 v3
   rw[h0]at as ⊢
   obtain⟨time,frm⟩:=w
   simp only at*
   by_cases h1:inT bl
   · by_cases h2:b<time
     · simp only[h1,decide_true]at ib
       simp(disch:=omega)only[go_sem,K.dT,↓reduceIte,as,ib,cp,h1,h2,ne_eq,not_true_eq_false,not_false_eq_true]
     · simp only[h1,decide_true]at ib
       unfold inT at v4 v5 w2 h1
       by_cases h3:b-max a time≤bl
       · simp(disch:=omega)only[go_sem,K.dT,↓reduceIte,as,ib,cp,h1,h2,h3,ne_eq,not_true_eq_false,not_false_eq_true,inT,and_self]
       · have hb:bnd frm:=fun x hx=>nE (w3 x hx)
         have ln:=y5 frm l
         have lb:=Fx hb l
         have loop:∀x y z u v w:D,exS aD K.uI ⟨[x,y,.t (tL l),z,I b,I bl,.bp 0 0,u,.bp 2 0,v,w,.ref 3 0 frm.length,I 0],[.box (ae m),.box [I time,.t (tL frm)],.box [I 0,.nil],.arr 1 false 0 ((frm.map (T.int .i64)).map .t)]⟩=
          some (.exit 0,⟨[.und,.und,.t (tL l),.und,I b,I bl,.bp 0 0,.und,.bp 2 0,.und,.und,.ref 3 0 frm.length,I l.length],[.box (ae m),.box [I time,.t (tL frm)],.box [I 0,.nil],.arr 1 false 0 (((JT frm l l.length).map (T.int .i64)).map .t)]⟩):=by
          intro x y z u v w
          refine bk (fun j=>⟨[.und,.und,.t (tL l),.und,I b,I bl,.bp 0 0,.und,.bp 2 0,.und,.und,.ref 3 0 frm.length,I j],[.box (ae m),.box [I time,.t (tL frm)],.box [I 0,.nil],.arr 1 false 0 (((JT frm l j).map (T.int .i64)).map .t)]⟩) l.length rfl ?_ ?_ (by simp)
          · intro j hj
            obtain⟨p1,p2, -⟩:=sQ v3 hj
            have lj:=ln j
            simp(disch:=omega)only[go_sem,K.oy,↓reduceIte,JT]
          · simp(disch:=omega)only[go_sem,K.oy,↓reduceIte]
         have hi:∀s,some l=some s→s≠[]∧s.length≤64:=by
          intro s hs;cases hs;exact⟨v2,by omega⟩
         have ln:=ln l.length
         have lb:=lb l.length
         have t1:inT (b-bl):=by unfold inT;omega
         have c1:=BR h (b-bl) (by omega) (by omega) (some l) hi _ (by omega) lb
         simp only[qM]at c1
         have c2:=yZ h b v5 (dN m (b-bl) (some l) (JT frm l l.length)) (mb h _ t1 _ hi (by omega) lb) (Et h _ t1 _ hi (by omega) lb)
         have c3:=c1.1
         unfold dN at c2 ⊢
         clear c1
         simp(disch:=omega)only[go_sem,K.dT,↓reduceIte,as,ib,loop,c2,c3,ln,h1,h2,h3,ne_eq,not_true_eq_false,not_false_eq_true,inT,and_self,reduceAdd,reduceSub]
   · simp only[h1,decide_false]at ib
     simp(disch:=omega)only[go_sem,K.dT,↓reduceIte,as,ib,cp,h1,ne_eq,not_true_eq_false,not_false_eq_true]
 · obtain⟨time,frm⟩:=w
   simp only at*
   simp(disch:=omega)only[go_sem,K.dT,↓reduceIte,as,cp,h0,ne_eq,not_false_eq_true]
def M5(a b:List Int):Nat→List Int
 | 0=>[]
 | j+1=>M5 a b j++[min (nth a j) (nth b j)]
theorem qn(a b:List Int):∀j,(M5 a b j).length=j
 | 0=>rfl
 | j+1=>by simp[M5,qn a b j]
def qN(a b:Wh):Wh×Int:=if a.frm.length=b.frm.length then(⟨max a.time b.time,M5 a.frm b.frm a.frm.length⟩,0)else(⟨0,[]⟩,6)
theorem YT(a b:Wh)(ha:a.frm.length≤1000000):aD 0 N.jm [.t a.e,.t b.e] []=some (.tup [.t (qN a b).1.e,I (qN a b).2],[]):=by
 refine ao K.uP rfl ?_
 obtain⟨t1,l1⟩:=a
 obtain⟨t2,l2⟩:=b
 simp only[qN]at*
 by_cases hl:l1.length=l2.length
 · have ln:=qn l1 l2
   have loop:∀x y z:D,exS aD K.yU ⟨[x,y,.bp 0 0,.bp 1 0,.bp 2 0,z,.bp 3 0,I 0],[.box [I t1,.t (tL l1)],.box [I t2,.t (tL l2)],.box [I 0,.nil],.box [I (max t1 t2),.ref 5 0 0],.arr 1 false 0 [],.arr 1 false 0 []]⟩=
    some (.exit 0,⟨[.und,.und,.bp 0 0,.bp 1 0,.bp 2 0,.und,.bp 3 0,I l1.length],[.box [I t1,.t (tL l1)],.box [I t2,.t (tL l2)],.box [I 0,.nil],.box [I (max t1 t2),.ref 5 0 l1.length],.arr 1 false 0 [],.arr 1 false 0 (((M5 l1 l2 l1.length).map (T.int .i64)).map .t)]⟩):=by
    intro x y z
    refine bk (fun j=>⟨[.und,.und,.bp 0 0,.bp 1 0,.bp 2 0,.und,.bp 3 0,I j],[.box [I t1,.t (tL l1)],.box [I t2,.t (tL l2)],.box [I 0,.nil],.box [I (max t1 t2),.ref 5 0 j],.arr 1 false 0 [],.arr 1 false 0 (((M5 l1 l2 j).map (T.int .i64)).map .t)]⟩) l1.length rfl ?_ ?_ (by simp)
    · intro j hj
      have lj:=ln j
      simp(disch:=omega)only[go_sem,K.qH,↓reduceIte,M5,reduceAdd,reduceSub]
      done
    · simp(disch:=omega)only[go_sem,K.qH,↓reduceIte]
   have ln:=ln l1.length
   simp(disch:=omega)only[go_sem,K.jm,↓reduceIte,loop]
 · simp(disch:=omega)only[go_sem,K.jm,↓reduceIte,hl]
   rfl
theorem y6{α:Type} [Dat α](l:List α)(k:Nat)(hk:k<l.length)(x:α)(j:Nat):nth (l.set k x) j=if j=k then x else nth l j:=by
 unfold nth
 by_cases h:j=k
 · subst h;rw[if_pos rfl];simp[hk]
 · rw[if_neg h]
   have:¬k=j:=fun e=>h e.symm
   simp[List.getElem?_set,this]
theorem TO{α:Type} [Dat α]{a b:List α}(h:a.length=b.length)(e:∀j,j<a.length→nth a j=nth b j):a=b:=by
 apply List.ext_getElem h
 intro j h1 h2
 have:=e j h1
 rwa [bC (aLc h1),bC (aLc h2)]at this
def clW(m:aB)(t:Int)(into:Option (List Int))(y:List Int):Prop:=∀k,k<m.roads.length→∀back,PZ into ((nth m.roads k).dst back)=true→0≤iN m k back 6 9 12→
 nth y ((nth m.roads k).src back).toNat<1099511627776→max t (nth y ((nth m.roads k).src back).toNat+iN m k back 6 9 12)≤2147483648→
 nth y ((nth m.roads k).dst back).toNat≤max t (nth y ((nth m.roads k).src back).toNat+iN m k back 6 9 12)
theorem Lz{m:aB}{t t':Int}(ht:t≤t'){into:Option (List Int)}{y:List Int}(h:clW m t none y):clW m t' into y:=by
 intro k hk back _ h1 h2 h3
 have:=h k hk back rfl h1 h2 (by omega)
 omega
theorem xP{α:Type}{f:α→α×Bool}(P:α→Prop)(hP:∀l,P l→P (f l).1):∀n l,P l→P (ju f n l)
 | 0,l,h=>h
 | n+1,l,h=>by
   unfold ju
   split
   · exact xP P hP n _ (hP l h)
   · exact hP l h
theorem CN{α:Type}{f:α→α×Bool}(P:α→Prop)(mes:α→Nat)(hP:∀l,P l→P (f l).1∧((f l).2=true→mes (f l).1<mes l)∧((f l).2=false→(f l).1=l)):∀n l,P l→mes l<n→(f (ju f n l)).2=false∧P (ju f n l)
 | 0,l,_,h=>by omega
 | n+1,l,hp,h=>by
   obtain⟨h1,h2,h3⟩:=hP l hp
   unfold ju
   cases hf:(f l).2 with
   | true=>
     rw[if_pos rfl]
     have:=h2 hf
     exact CN P mes hP n _ h1 (by omega)
   | false=>
     rw[if_neg (by simp),h3 hf]
     exact⟨hf,hp⟩
theorem BT{m:aB}(t:Int)(into:Option (List Int))(k:Nat)(back:Bool)(l:List Int):
 (PZ into ((nth m.roads k).dst back)=true∧0≤iN m k back 6 9 12∧nth l ((nth m.roads k).src back).toNat<1099511627776∧max t (nth l ((nth m.roads k).src back).toNat+iN m k back 6 9 12)≤2147483648∧
  max t (nth l ((nth m.roads k).src back).toNat+iN m k back 6 9 12)<nth l ((nth m.roads k).dst back).toNat∧
  gR m t into k back l=(l.set ((nth m.roads k).dst back).toNat (max t (nth l ((nth m.roads k).src back).toNat+iN m k back 6 9 12)),true))∨
 (gR m t into k back l=(l,false)∧¬(PZ into ((nth m.roads k).dst back)=true∧0≤iN m k back 6 9 12∧nth l ((nth m.roads k).src back).toNat<1099511627776∧max t (nth l ((nth m.roads k).src back).toNat+iN m k back 6 9 12)≤2147483648∧
  max t (nth l ((nth m.roads k).src back).toNat+iN m k back 6 9 12)<nth l ((nth m.roads k).dst back).toNat)):=by
 unfold gR pJ oK
 cases PZ into ((nth m.roads k).dst back)with
 | false=>right;simp
 | true=>
   simp only[↓reduceIte,true_and,aLr,decide_eq_true_eq]
   by_cases c:((0≤iN m k back 6 9 12∧nth l ((nth m.roads k).src back).toNat<1099511627776)∧max t (nth l ((nth m.roads k).src back).toNat+iN m k back 6 9 12)≤2147483648)∧max t (nth l ((nth m.roads k).src back).toNat+iN m k back 6 9 12)<nth l ((nth m.roads k).dst back).toNat
   · left
     refine⟨c.1.1.1,c.1.1.2,c.1.2,c.2,?_⟩
     rw[if_pos c]
     simp[c.1.1.1,c.1.1.2,c.1.2,c.2]
   · right
     refine⟨?_,fun h=>c ⟨⟨⟨h.1,h.2.1⟩,h.2.2.1⟩,h.2.2.2⟩⟩
     rw[if_neg c]
     simp only[Prod.mk.injEq,true_and]
     rw[Bool.eq_false_iff];intro h;simp only[aLr,decide_eq_true_eq]at h;exact c h
section
variable {m : aB} (h : m.ok) {t : Int} {into : Option (List Int)}
include h
theorem Ew(P:List Int→Prop)(hP:∀l,l.length=m.aa.length→bnd l→P l→∀k,k<m.roads.length→∀back,P (gR m t into k back l).1){l:List Int}(hl:l.length=m.aa.length)(hb:bnd l)(hp:P l):∀k,k≤m.roads.length→P (gH m t into l k).1
 | 0,_=>hp
 | k+1,hk=>by
   have ih:=Ew P hP hl hb hp k (by omega)
   have b1:=jV h (t:=t) (into:=into) hl hb k (by omega)
   have l1:(gH m t into l k).1.length=m.aa.length:=by rw[eG,hl]
   simp only[gH,xO]
   exact hP _ (by rw[rQ,l1]) (uV h l1 b1 (by omega) false) (hP _ l1 b1 ih k (by omega) false) k (by omega) true
theorem Al(P:List Int→Prop)(hP:∀l,l.length=m.aa.length→bnd l→P l→∀k,k<m.roads.length→∀back,P (gR m t into k back l).1){l:List Int}(hl:l.length=m.aa.length)(hb:bnd l)(hp:P l):P (dN m t into l):=
 (xP (f:=ef m t into) (fun l=>(l.length=m.aa.length∧bnd l)∧P l) (fun l hl=>⟨⟨by unfold ef;rw[eG];exact hl.1.1,jV h hl.1.1 hl.1.2 _ (aLs _)⟩,Ew h P hP hl.1.1 hl.1.2 hl.2 _ (aLs _)⟩) _ l ⟨⟨hl,hb⟩,hp⟩).2
theorem CO{l:List Int}(hl:l.length=m.aa.length)(hb:bnd l):(dN m t into l).length=m.aa.length∧bnd (dN m t into l):=
 (xP (f:=ef m t into) (fun l=>(l.length=m.aa.length∧bnd l)) (fun l hl=>⟨by unfold ef;rw[eG];exact hl.1,jV h hl.1 hl.2 _ (aLs _)⟩) _ l ⟨hl,hb⟩)
theorem P1{l:List Int}(hl:l.length=m.aa.length)(hb:bnd l)(j:Nat):nth (dN m t into l) j≤nth l j:=
 Al h (fun l'=>nth l' j≤nth l j) (fun l' hl' hb' hp k hk back=>by
  have r2:=Road.Er (h.rs _ (ai hk)) back
  rcases BT (m:=m) t into k back l' with⟨_,_,_,_,c,e⟩ | ⟨e,_⟩
  · rw[e];simp only
    rw[y6 _ _ (by omega)]
    split
    · rename_i hj;rw[hj]at hp;rw[hj];omega
    · exact hp
  · rw[e];exact hp) hl hb (Int.le_refl _)
theorem P2{y l:List Int}(hy:clW m t into y)(hl:l.length=m.aa.length)(hb:bnd l)(hle:∀j,nth y j≤nth l j):∀j,nth y j≤nth (dN m t into l) j:=
 Al h (fun l'=>∀j,nth y j≤nth l' j) (fun l' hl' hb' hp k hk back=>by
  have r2:=Road.Er (h.rs _ (ai hk)) back
  rcases BT (m:=m) t into k back l' with⟨c1,c2,c3,c4,c5,e⟩ | ⟨e,_⟩
  · rw[e];simp only
    intro j
    rw[y6 _ _ (by omega)]
    split
    · rename_i hj
      have:=hp ((nth m.roads k).src back).toNat
      have:=hy k hk back c1 c2 (by omega) (by omega)
      rw[hj];omega
    · exact hp j
  · rw[e];exact hp) hl hb hle
theorem HE{l:List Int}(hl:l.length=m.aa.length)(hb:bnd l):∀k,k≤m.roads.length→(gH m t into l k).2=false→∀i,i<k→∀back,(gR m t into i back l).2=false
 | 0,_,_,i,hi,_=>by omega
 | k+1,hk,hf,i,hi,back=>by
   have e:=(rR h (t:=t) (into:=into) hl hb k (by omega)).2
   have ih:=HE hl hb k (by omega)
   simp only[gH,xO,Bool.or_eq_false_iff]at hf
   obtain⟨⟨f1,f2⟩,f3⟩:=hf
   have e:=e f1
   rw[e]at f2 f3
   have e2:=(CL h (t:=t) (into:=into) hl hb (k:=k) (by omega) false).2 f2
   rw[e2]at f3
   by_cases c:i<k
   · exact ih f1 i c back
   · have:i=k:=by omega
     subst this
     cases back
     · exact f2
     · exact f3
theorem HF{l:List Int}(hl:l.length=m.aa.length)(hb:bnd l):clW m t into (dN m t into l):=by
 obtain⟨h1,h2,h3⟩:=CN (f:=ef m t into) (fun l=>l.length=m.aa.length∧bnd l) BQ (fun l ⟨hl,hb⟩=>⟨⟨by unfold ef;rw[eG];exact hl,jV h hl hb _ (aLs _)⟩,rR h hl hb _ (aLs _)⟩) (BQ l+1) l ⟨hl,hb⟩ (Nat.lt_succ_self _)
 intro k hk back c1 c2 c3 c4
 have no:=HE h (t:=t) (into:=into) h2 h3 m.roads.length (aLs _) h1 k hk back
 change (gR m t into k back (dN m t into l)).2=false at no
 rcases BT (m:=m) t into k back (dN m t into l)with⟨_,_,_,_,_,e⟩ | ⟨_,e⟩
 · rw[e]at no;cases no
 · exact Classical.byContradiction fun hc=>e ⟨c1,c2,c3,c4,by omega⟩
theorem P3{l:List Int}(hl:l.length=m.aa.length)(hb:bnd l)(hc:clW m t into l):dN m t into l=l:=by
 apply TO (by rw[(CO h hl hb).1,hl])
 intro j hj
 exact Int.le_antisymm (P1 h hl hb j) (P2 h hc hl hb (fun _=>Int.le_refl _) j)
theorem Ey(P:Int→Prop){l:List Int}(hl:l.length=m.aa.length)(hb:bnd l)(hp:∀x∈l,P x)(ht:∀x,t≤x→x≤2147483648→P x):∀x∈dN m t into l,P x:=
 Al h (fun l'=>∀x∈l',P x) (fun l' hl' hb' hp k hk back=>by
  rcases BT (m:=m) t into k back l' with⟨c1,c2,c3,c4,c5,e⟩ | ⟨e,_⟩
  · rw[e]
    intro x hx
    rcases aLk hx with hx | hx
    · exact hp x hx
    · subst hx;exact ht _ (by omega) c4
  · rw[e];exact hp) hl hb hp
end
theorem CP{m:aB}(h:m.ok){w:Wh}(hl:w.frm.length=m.aa.length)(ht:inT w.time)(hp:∀x∈w.frm,plT x)(hc:clW m w.time none w.frm):dX m w=true:=by
 have hb:bnd w.frm:=fun x hx=>nE (hp x hx)
 simp only[dX,lu,aLr,decide_eq_true_eq,aLx,aLu]
 exact⟨⟨⟨by omega,ht⟩,fun j hj=>hp _ (ai hj)⟩,P3 h hl hb hc⟩
theorem CQ{m:aB}(h:m.ok){w:Wh}(hv:dX m w=true):clW m w.time none w.frm:=by
 obtain⟨v1,v2,v3,v4⟩:=eZ hv
 have:=HF h (t:=w.time) (into:=none) v1 (fun x hx=>nE (v3 x hx))
 rwa [v4]at this
theorem sT{m:aB}(h:m.ok){l:List Int}(hl:l.length=m.aa.length)(hp:∀x∈l,plT x){a b:Int}(ha:0≤a)(hab:a≤b)(hb:inT b):dX m ⟨b,dN m a none l⟩=true:=by
 have bn:bnd l:=fun x hx=>nE (hp x hx)
 exact CP h (CO h hl bn).1 hb (Ey h plT hl bn hp (fun x h1 h2=> .inr ⟨by omega,h2⟩)) (Lz hab (HF h hl bn))
theorem P4(n:Nat):∀x∈nX n,plT x:=fun x hx=>by rw[List.eq_of_mem_replicate hx];exact .inl rfl
theorem CR{m:aB}(h:m.ok){p t:Int}(h0:0≤p)(h1:p<m.aa.length)(ht:inT t):iP m p t=(⟨t,dN m t none ((nX m.aa.length).set p.toNat t)⟩,0)∧dX m (iP m p t).1=true:=by
 have e:iP m p t=(⟨t,dN m t none ((nX m.aa.length).set p.toNat t)⟩,0):=by
  unfold iP;rw[if_neg (by omega),if_pos ht]
 refine⟨e,?_⟩
 rw[e]
 refine sT h (by simp) (fun x hx=>?_) ht.1 (Int.le_refl _) ht
 rcases aLk hx with hx | hx
 · exact P4 _ x hx
 · subst hx;exact .inr ht
theorem LA{w:Wh}{l:List Int}{b:Int}{n:Nat}(hl:∀p∈l,0≤p∧p<n):∀k,k≤l.length→∀j,j<n→nth (DC w l b n k).1 j=if(j:Int)∈l.take k∧nth w.frm j≤b then nth w.frm j else 1099511627776
 | 0,_,j,hj=>by
   rw[if_neg (by simp)]
   exact bC (by simp[DC,nX,hj])
 | k+1,hk,j,hj=>by
   have ih:=LA (w:=w) (b:=b) hl k (by omega) j hj
   have p:=hl _ (ai (l:=l) (j:=k) (by omega))
   rw[oV (by omega)]
   simp only[DC,Ak]
   by_cases e:(j:Int)=nth l k
   · have e2:j=(nth l k).toNat:=by omega
     by_cases c:nth w.frm (nth l k).toNat≤b
     · rw[if_pos c,y6 _ _ (by rw[sR];omega),if_pos e2,if_pos ⟨by simp[e],by rw[e2];exact c⟩,e2]
     · rw[if_neg c,ih,if_neg (fun x=>c (by rw[← e2];exact x.2)),if_neg (fun x=>c (by rw[← e2];exact x.2))]
   · have e2:¬j=(nth l k).toNat:=by omega
     have mm:((j:Int)∈l.take k++[nth l k])↔(j:Int)∈l.take k:=by simp[e]
     simp only[mm]
     rw[← ih]
     split
     · rw[y6 _ _ (by rw[sR];omega),if_neg e2]
     · rfl
end Go.Ev
namespace Go.Ev
open Go
variable [Lib] [cu] [bM]
structure OfI(m:aB)(p:Nat)(l:List Int):Prop where
 ln:l.length=m.aa.length
 bd:bnd l
 z:nth l p=0
theorem OfI.set{m:aB}{p:Nat}{l:List Int}(h:OfI m p l){q:Nat}{x:Int}(hq:q<l.length)(h0:0<x)(hx:x<nth l q):OfI m p (l.set q x):=by
 have b1:=h.bd _ (ai hq)
 refine⟨by rw[List.length_set];exact h.ln,Ai h.bd (by omega) (by omega),?_⟩
 rw[y6 _ _ hq]
 split
 · rename_i e;subst e;have:=h.z;omega
 · exact h.z
def TP(c:Bool):Option Bool→Option Bool
 | some d=>some (c&&d)
 | none=>none
@[go_sem] theorem ace (c d : Bool) : TP c (some d) = some (c && d) := (rfl)
@[go_sem] theorem acf : qg [] [] = some true := (rfl)
@[go_sem] theorem YU (k : IntKind) (a b : Int) (xs ys : List T) : qg (.int k a :: xs) (.int k b :: ys) = TP (decide (a = b)) (qg xs ys) := by
 simp only[qg,if_true,agD]
 cases qg xs ys<;>rfl
def TQ(H:aq)(neg:Bool):Option Bool→Option (D×aq)
 | some r=>some (.t (.bool (bif neg then !r else r)),H)
 | none=>none
@[go_sem] theorem acg (H : aq) (r : Bool) : TQ H true (some r) = some (.t (.bool (!r)), H) := (rfl)
@[go_sem] theorem YV (H : aq) (r : Bool) : TQ H false (some r) = some (.t (.bool r), H) := (rfl)
@[go_sem] theorem YW (H : aq) (n : Nat) (neg : Bool) (xs ys : List T) : Hq H (.ints n) neg (some (.t (.agg xs))) (some (.t (.agg ys))) = if xs.length = n then TQ H neg (qg xs ys) else none := by
 simp only[Hq,aLq,aa2,eqD]
 by_cases h:xs.length=n
 · simp only[if_pos h]
   cases qg xs ys with
   | none=>rfl
   | some r=>cases neg<;>rfl
 · simp only[if_neg h];rfl
@[go_sem] theorem ach : ((2 : Nat) : Int) = 2 := (rfl)
@[go_sem] theorem V4 : ((3 : Nat) : Int) = 3 := (rfl)
def HG(n:Nat)(p:Nat→Bool):Nat:=((List.range n).find? p).getD 0
theorem P5{gc:Bool}{dead:List Nat}{c:C}{vs:List D}{H:aq}(s:Nat→St)(n:Nat)(p:Nat→Bool)(e:Nat→Ex×St)(eN:Ex×St)
 (h0:(⟨mr dead vs,H⟩:St)=s 0)
 (hs:∀j,j<n→p j=false→gE gc dead (s j).H.length (exS aD c (s j))=some (s (j+1)))
 (he:∀j,j<n→p j=true→exS aD c (s j)=some (e j)∧(e j).1≠ .normal)
 (hN:exS aD c (s n)=some eN) (hn:eN.1≠ .normal):
 exS aD (.loop gc dead c) ⟨vs,H⟩=some (if(List.range n).any p=true then e (HG n p)else eN):=by
 rw[cH s n p e eN h0 hs he hN hn,←Fp]
 unfold HG
 cases hf:(List.range n).find? p with
 | none=>simp
 | some k=>simp
theorem YX{α:Type} [Dat α](l:List α)(p:α→Bool):((List.range l.length).any fun j=>p (nth l j))=l.any p:=by
 rw[Bool.eq_iff_iff,List.any_eq_true,List.any_eq_true]
 constructor
 · rintro ⟨j,hj,hp⟩
   exact⟨_,ai (aLu.1 hj),hp⟩
 · rintro ⟨x,hx,hp⟩
   obtain⟨j,hj,rfl⟩:=List.getElem_of_mem hx
   exact⟨j,aLu.2 hj,by rw[bC (aLc hj)];exact hp⟩
theorem P6(n:Nat)(p:Nat→Bool):(List.range n).all p= !((List.range n).any fun j=> !p j):=by
 rw[List.all_eq_not_any_not]
@[go_sem] theorem ae6 : mq [] [] [] = some true := (rfl)
@[go_sem] theorem ae7 (ks : List Bool) (k : IntKind) (a b : Int) (xs ys : List T) : mq (true :: ks) (.int k a :: xs) (.int k b :: ys) = TP (decide (a = b)) (mq ks xs ys) := by
 simp only[mq,if_true,agD]
 cases mq ks xs ys<;>rfl
@[go_sem] theorem aci (ks : List Bool) (a b : Bool) (xs ys : List T) : mq (false :: ks) (.bool a :: xs) (.bool b :: ys) = TP (decide (a = b)) (mq ks xs ys) := by
 simp only[mq,show(a==b)=decide (a=b)from rfl]
 cases mq ks xs ys<;>rfl
@[go_sem] theorem ahN (H : aq) (ks : List Bool) (neg : Bool) (xs ys : List T) : Hq H (.sc ks) neg (some (.t (.agg xs))) (some (.t (.agg ys))) = TQ H neg (mq ks xs ys) := by
 simp only[Hq,aLq,aa2,eqD]
 cases mq ks xs ys with
 | none=>rfl
 | some r=>cases neg<;>rfl
end Go.Ev
namespace Go.Ev
open Go
section
variable (H : aq) (sz id ep n lo hi : Nat) (i j : Int) (fz : Bool)
def scO(r:D):Option Obj→Option (D×aq)
 | some (.arr sz' _ ep' es)=>if ep=ep'∧n=es.length then(if sz'=sz then some (r,H)else none)else none
 | _=>none
@[go_sem] theorem aj7 (r : D) (sz' : Nat) (pin : Bool) (es : List D) : scO H sz ep n r (some (.arr sz' pin ep es)) = if n = es.length then (if sz' = sz then some (r, H) else none) else none := by simp [scO]
theorem scR{l h:Nat}:((jc H id ep n).bind fun a=>if l≤h∧h≤n∧a.1=sz then some (D.sub id ep n l h)else none).map (fun d=>(d,H))=if l≤h then(if h≤n then scO H sz ep n (.sub id ep n l h) H[id]? else none)else none:=by
 simp only[jc]
 generalize H[id]?=o
 by_cases h1:l≤h
 · by_cases h2:h≤n
   · rw[if_pos h1,if_pos h2]
     rcases o with _ | (_ | ⟨sz',pin,ep',es⟩)
     · rfl
     · rfl
     · simp only[scO]
       by_cases h3:ep=ep'∧n=es.length
       · rw[if_pos h3,if_pos h3,aLq]
         by_cases h4:sz'=sz
         · rw[if_pos h4,if_pos ⟨h1,h2,h4⟩];rfl
         · rw[if_neg h4,if_neg fun h=>h4 h.2.2];rfl
       · rw[if_neg h3,if_neg h3];rfl
   · rw[if_pos h1,if_neg h2]
     rcases o with _ | (_ | ⟨sz',pin,ep',es⟩)
     · rfl
     · rfl
     · by_cases h3:ep=ep'∧n=es.length
       · simp only[if_pos h3,aLq];rw[if_neg fun h=>h2 h.2.1];rfl
       · simp only[if_neg h3];rfl
 · rw[if_neg h1]
   rcases o with _ | (_ | ⟨sz',pin,ep',es⟩)
   · rfl
   · rfl
   · by_cases h3:ep=ep'∧n=es.length
     · simp only[if_pos h3,aLq];rw[if_neg fun h=>h1 h.1];rfl
     · simp only[if_neg h3];rfl
@[go_sem] theorem YY : MT H sz (some (.ref id ep n)) (some none) (some (some i)) = if 0 ≤ i then (if i ≤ n then scO H sz ep n (.sub id ep n 0 i.toNat) H[id]? else none) else none := by
 simp only[MT,aLq,tW,bound,idx]
 by_cases h1:0≤i
 · rw[if_pos h1,if_pos h1,aLq,scR,if_pos (Nat.zero_le _)]
   by_cases h2:i≤n
   · rw[if_pos h2,if_pos (by omega)]
   · rw[if_neg h2,if_neg (by omega)]
 · rw[if_neg h1,if_neg h1];rfl
@[go_sem] theorem YZ : MT H sz (some (.ref id ep n)) (some (some i)) (some none) = if 0 ≤ i then (if i ≤ n then scO H sz ep n (.sub id ep n i.toNat n) H[id]? else none) else none := by
 simp only[MT,aLq,tW,bound,idx]
 by_cases h1:0≤i
 · rw[if_pos h1,if_pos h1,aLq,scR]
   by_cases h2:i≤n
   · rw[if_pos h2,if_pos (by omega),if_pos (by omega)]
   · rw[if_neg h2,if_neg (by omega)]
 · rw[if_neg h1,if_neg h1];rfl
@[go_sem] theorem Y0 : MT H sz (some .nil) (some none) (some (some i)) = if i = 0 then some (.nil, H) else none := by
 simp only[MT,aLq,tW,bound,idx]
 by_cases h1:0≤i
 · rw[if_pos h1,aLq]
   by_cases h2:i=0
   · rw[if_pos h2,if_pos (by omega)];rfl
   · rw[if_neg h2,if_neg (by omega)];rfl
 · rw[if_neg h1,if_neg (by omega)];rfl
@[go_sem] theorem Y1 : MT H sz (some .nil) (some (some i)) (some none) = if i = 0 then some (.nil, H) else none := by
 simp only[MT,aLq,tW,bound,idx]
 by_cases h1:0≤i
 · rw[if_pos h1,aLq]
   by_cases h2:i=0
   · rw[if_pos h2,if_pos (by omega)];rfl
   · rw[if_neg h2,if_neg (by omega)];rfl
 · rw[if_neg h1,if_neg (by omega)];rfl
def SD(x:D)(ys:List D):Option (D×aq):=if fD sz ys=true then(match x with
 | .nil=>if ys.length≤4294967296 then some (.ref H.length 0 ys.length,H++[.arr sz false 0 ys])else none
 | .ref id ep n=>AV H sz id ep n ys H[id]?
 | _=>none)else none
@[go_sem] theorem ahO (ys : List D) : SD H sz .nil ys = if fD sz ys = true then (if ys.length ≤ 4294967296 then some (.ref H.length 0 ys.length, H ++ [.arr sz false 0 ys]) else none) else none := (rfl)
@[go_sem] theorem ahP (ys : List D) : SD H sz (.ref id ep n) ys = if fD sz ys = true then AV H sz id ep n ys H[id]? else none := (rfl)
@[go_sem] theorem V5 : fD sz [] = true := (rfl)
@[go_sem] theorem Fy (d : D) (r : List D) : fD sz (d :: r) = qA sz d.cells := by
 rw[Bool.eq_iff_iff,im];simp[fD]
def ae8(x:D):Option Obj→Option (D×aq)
 | some (.arr _ _ ep' es)=>if ep=ep'∧n=es.length then SD H sz x ((es.drop lo).take (hi-lo))else none
 | _=>none
def ae9(x:D):Option Obj→Option (D×aq)
 | some (.arr _ _ ep' es)=>if ep=ep'∧n=es.length then SD H sz x es else none
 | _=>none
@[go_sem] theorem ahQ (x : D) (sz' : Nat) (pin : Bool) (es : List D) : ae8 H sz ep n lo hi x (some (.arr sz' pin ep es)) = if n = es.length then SD H sz x ((es.drop lo).take (hi - lo)) else none := by simp [ae8]
@[go_sem] theorem ahR (x : D) (sz' : Nat) (pin : Bool) (es : List D) : ae9 H sz ep n x (some (.arr sz' pin ep es)) = if n = es.length then SD H sz x es else none := by simp [ae9]
theorem Y2(x:D)(ys:List D):(if fD sz ys=true then(match x with
 | .nil=>if ys.length≤lim then some (D.ref H.length 0 ys.length,H++[.arr sz false 0 ys])else none
 | .ref id ep n=>(jc H id ep n).bind fun a=>if a.1=sz∧n+ys.length≤lim then some (.ref id ep (n+ys.length),H.set id (.arr sz a.2.1 ep (a.2.2++ys)))else none
 | _=>none)else none)=SD H sz x ys:=by
 unfold SD
 split
 · cases x with
   | ref id ep n=>
     simp only[jc]
     generalize H[id]?=o
     rcases o with _ | (_ | ⟨sz',pin,ep',es⟩)
     · rfl
     · rfl
     · simp only[AV]
       by_cases h1:ep=ep'∧n=es.length
       · rw[if_pos h1,aLq]
         by_cases h2:sz'=sz∧n+ys.length≤lim
         · rw[if_pos h2,if_pos ⟨h1.1,h1.2,h2⟩]
         · rw[if_neg h2,if_neg fun h=>h2 h.2.2]
       · rw[if_neg h1,if_neg fun h=>h1 ⟨h.1,h.2.1⟩];rfl
   | _=>rfl
 · rfl
theorem Am(x y:D)(ys:List D)(h:elems H y=some ys):uA H sz false (some x) (some y)=SD H sz x ys:=by
 simp only[uA,aLq,qz,h,aLt,if_false]
 exact Y2 H sz x ys
@[go_sem] theorem SE (x : D) : uA H sz false (some x) (some .nil) = SD H sz x [] := Am H sz x .nil [] rfl
@[go_sem] theorem SF (x : D) : uA H sz false (some x) (some (.ref id ep n)) = ae9 H sz ep n x H[id]? := by
 cases he:elems H (.ref id ep n)with
 | some ys=>
   rw[Am H sz x _ ys he]
   simp only[elems,jc]at he
   generalize H[id]?=o at he
   rcases o with _ | (_ | ⟨sz',pin,ep',es⟩)
   · cases he
   · cases he
   · simp only[ae9]
     by_cases h1:ep=ep'∧n=es.length
     · simp only[if_pos h1]at he ⊢;cases he;rfl
     · simp only[if_neg h1]at he;cases he
 | none=>
   have:uA H sz false (some x) (some (.ref id ep n))=none:=by simp only[uA,aLq,qz,he];rfl
   rw[this]
   simp only[elems,jc]at he
   generalize H[id]?=o at he
   rcases o with _ | (_ | ⟨sz',pin,ep',es⟩)
   · rfl
   · rfl
   · simp only[ae9]
     by_cases h1:ep=ep'∧n=es.length
     · simp only[if_pos h1]at he;cases he
     · simp only[if_neg h1]
@[go_sem] theorem SG (x : D) : uA H sz false (some x) (some (.sub id ep n lo hi)) = ae8 H sz ep n lo hi x H[id]? := by
 cases he:elems H (.sub id ep n lo hi)with
 | some ys=>
   rw[Am H sz x _ ys he]
   simp only[elems,jc]at he
   generalize H[id]?=o at he
   rcases o with _ | (_ | ⟨sz',pin,ep',es⟩)
   · cases he
   · cases he
   · simp only[ae8]
     by_cases h1:ep=ep'∧n=es.length
     · simp only[if_pos h1]at he ⊢;cases he;rfl
     · simp only[if_neg h1]at he;cases he
 | none=>
   have:uA H sz false (some x) (some (.sub id ep n lo hi))=none:=by simp only[uA,aLq,qz,he];rfl
   rw[this]
   simp only[elems,jc]at he
   generalize H[id]?=o at he
   rcases o with _ | (_ | ⟨sz',pin,ep',es⟩)
   · rfl
   · rfl
   · simp only[ae8]
     by_cases h1:ep=ep'∧n=es.length
     · simp only[if_pos h1]at he;cases he
     · simp only[if_neg h1]
def P7(ds:List D):Option (D×aq):=if ds.all (fun d=>d.cells.length==sz&&d.kn)then some (.ref H.length 0 ds.length,H++[.arr sz false 0 ds])else none
@[go_sem] theorem ald (call : aW) (get : X → Option D) (xs : List X) : evO call get H (.bsr xs sz) = (cD get xs).bind (P7 H sz) := (rfl)
@[go_sem] theorem afa : P7 H sz [] = some (.ref H.length 0 0, H ++ [.arr sz false 0 []]) := (rfl)
@[go_sem] theorem afb (k : IntKind) (n : Int) : P7 H 1 [.t (.int k n)] = some (.ref H.length 0 1, H ++ [.arr 1 false 0 [.t (.int k n)]]) := (rfl)
@[go_sem] theorem afc (cs : List D) : P7 H sz [.agg cs] = if qA sz cs = true then some (.ref H.length 0 1, H ++ [.arr sz false 0 [.agg cs]]) else none := by
 simp only[P7,List.all_cons,List.all_nil,Bool.and_true,D.cells,D.kn]
 by_cases h:qA sz cs=true
 · rw[if_pos h,if_pos (by simpa using im.1 h)];rfl
 · rw[if_neg h,if_neg (by intro e;exact h (im.2 (by simpa using e)))]
end
@[go_sem] theorem V6 : (1 : Int).toNat = 1 := (rfl)
section
variable {H t : aq} {i j k : Nat} {o o' : Obj}
theorem lx(h:i<H.length):(H++t)[i]?=H[i]?:=aLg h
theorem mc:(H++t)[H.length]?=t[0]?:=by rw[aLh (aLs _),Nat.sub_self]
theorem jW:(H++t)[H.length+k]?=t[k]?:=by rw[aLh (Nat.le_add_right _ _),Nat.add_sub_cancel_left]
theorem P8(h:i<H.length):(H++t).set i o=H.set i o++t:=List.set_append_left _ _ h
theorem pj:(H++t).set H.length o=H++t.set 0 o:=by rw[List.set_append_right _ _ (aLs _),Nat.sub_self]
theorem M6:(H++t).set (H.length+k) o=H++t.set k o:=by rw[List.set_append_right _ _ (Nat.le_add_right _ _),Nat.add_sub_cancel_left]
theorem me(h:i<H.length):(H.set i o)[i]?=some o:=by simp[h]
theorem fH(h:i≠j):(H.set i o)[j]?=H[j]?:=aLi h
theorem An:(H.set i o).set i o'=H.set i o':=List.set_set ..
theorem vU(a b:aq):(H++a)++b=H++(a++b):=List.append_assoc ..
theorem nY(h:H[i]?=some o):i<H.length:=(aLe.1 h).1
end
theorem JU(H:aq)(id sz n:Nat)(es:List D)(ts:List T)(hid:H[id]?=some (.arr sz false 0 es))(hn:n=es.length)(hf:cD (frz H 8) es=some ts)(ha:∀i∈es.flatMap (gT H 8),i≠id):
 finish 0 1 H [.ref id 0 n]=some (.ref 0 0 n,[.arr sz false 0 (ts.map .t)]):=by
 have hold:([D.ref id 0 n].all (old 0 depth)&&(H.take 0).all (fun o=>o.ds.all (old 0 depth)))=false:=by
  simp[old,depth]
 have hmap:∀ {es:List D} {ts:List T},cD (frz H 8) es=some ts→cD (fun d=>(frz H 8 d).map D.t) es=some (ts.map .t):=by
  intro es
  induction es with
  | nil=>intro ts h;simp[cD]at h;subst h;rfl
  | cons e es ih=>
    intro ts h
    simp only[cD,aLa,aLb]at h
    obtain⟨y,hy,r,hr,rfl⟩:=h
    simp only[cD,hy,aLw,aLq,ih hr,List.map_cons]
 have hnew:(fp [] [id]).drop 0=[id]:=by simp[fp]
 have hall:(es.flatMap (gT H 8)).all (fun i=> !([]++[id]).contains i)=true:=by
  rw[aLx];intro i hi;simpa using ha i hi
 unfold finish
 rw[if_neg (by omega),aLq,hold,if_neg (by simp)]
 have hk:kX H (max 1 1) (List.range 0) ([D.ref id 0 n].flatMap (ids depth)++lN H (List.range 0))=some ([id],[.arr sz false 0 (ts.map .t)]):=by
  have e1:[D.ref id 0 n].flatMap (ids depth)++lN H (List.range 0)=[id]:=by simp[ids,depth,lN]
  rw[e1]
  simp only[Nat.max_self,List.range_zero]
  unfold kX
  simp only[List.length_nil,hnew,pick,hid,aLq,aLw,if_true,List.flatMap_cons,List.flatMap_nil,List.append_nil,Obj.ds,depth,hall,cD,fG,hmap hf]
  simp only[kX,aLw,List.append_nil,aLq]
 rw[hk]
 simp only[aLq,List.range_zero,List.nil_append,List.take_zero,j3,Nat.succ_ne_zero,if_false,Nat.one_ne_zero,List.all_nil,if_true,cD,ren,idxOf,aLw,gD,xp,depth]
 have:=JG (fun i=>if id=i then some 0 else Option.map (fun x=>x+1) none) ts
 simp only[depth]at this
 rw[this];rfl
end Go.Ev
namespace Go.Ev.N
def P9:Nat:=78
def Oy:Nat:=79
def M7:Nat:=80
def Y3:Nat:=81
def SI:Nat:=82
def Y4:Nat:=83
def Y5:Nat:=84
def Y6:Nat:=85
def acj:Nat:=86
def V7:Nat:=87
def Y7:Nat:=88
def V8:Nat:=89
def V9:Nat:=90
def ack:Nat:=91
def Wa:Nat:=92
def acm:Nat:=93
def ly:Nat:=94
def afd:Nat:=95
def Y8:Nat:=96
def acn:Nat:=97
def Y9:Nat:=98
def Za:Nat:=99
def Zb:Nat:=100
def aco:Nat:=101
def afe:Nat:=102
def I8:Nat:=103
def TR:Nat:=104
def dA:Nat:=105
def Wb:Nat:=106
def acp:Nat:=107
def acq:Nat:=108
def Zc:Nat:=109
def acr:Nat:=110
def acs:Nat:=111
def Zd:Nat:=112
def Ze:Nat:=113
def ie:Nat:=114
def Wc:Nat:=115
def acu:Nat:=116
def acv:Nat:=117
def Wd:Nat:=118
def We:Nat:=119
def gg:Nat:=120
def TS:Nat:=121
def LB:Nat:=122
end Go.Ev.N
namespace Go.Ev.N
def Qa:Nat:=123
def Oz:Nat:=124
def SJ:Nat:=125
def Qb:Nat:=126
def Zf:Nat:=127
def Zg:Nat:=128
def Zh:Nat:=129
def acw:Nat:=130
def acx:Nat:=131
def Zi:Nat:=132
def Zj:Nat:=133
def TT:Nat:=134
def TU:Nat:=135
def acy:Nat:=136
def Zk:Nat:=137
def TV:Nat:=138
def Wf:Nat:=139
def SK:Nat:=140
def Wg:Nat:=141
def TW:Nat:=142
def Qc:Nat:=143
def Qd:Nat:=144
def Qe:Nat:=145
def Wi:Nat:=146
def Wj:Nat:=147
def M8:Nat:=148
end Go.Ev.N
namespace Go.Ev.N
def LC:Nat:=149
def Qf:Nat:=150
def Qg:Nat:=151
def OA:Nat:=152
def Zl:Nat:=153
def Zm:Nat:=154
def Wk:Nat:=155
def Wl:Nat:=156
def Zn:Nat:=157
def acz:Nat:=158
def Zo:Nat:=159
def HH:Nat:=160
def LD:Nat:=161
def Zp:Nat:=162
def acA:Nat:=163
def Wm:Nat:=164
def acB:Nat:=165
def Wn:Nat:=166
def dW:Nat:=167
def wD:Nat:=168
def TX:Nat:=169
def TY:Nat:=170
def M9:Nat:=171
def TZ:Nat:=172
def jX:Nat:=173
def yk:Nat:=174
def Qh:Nat:=175
def Qi:Nat:=176
def iu:Nat:=177
end Go.Ev.N
namespace Go.Ev.K
open Go.Ev
def dW:Fn:= { aP:=1,vars:=[0,1,2],body:=(q [w 1 (.bx v0 2),x 2 (.b false)] [] (q [h 2 v1,u (.ca N.jX 0 [] [.l 0]),u (.bin .eql l0 (.i 0)),x 2 l0] [] .ret)),res:=[(2,none)]}
end Go.Ev.K
namespace Go.Ev
class fK [Lib]:Prop where
 uW:Lib.fs N.dW=some K.dW
namespace K
variable [Lib] [fK]
theorem uW:Lib.fs N.dW=some K.dW:=fK.uW
end K
end Go.Ev
namespace Go.Ev.K
open Go.Ev
def qO:C:= (.its [u (.bin .lss v8 v7)] [] 0 .skip (.exit 0) (.seq (.blk 1 (q [a 2 v6 v8,h 2 l0,w 3 (.al [z0,z1] []),u (.st l0 l1 2 [])] [] (.ite [f 0 v3,g l0,u (.bin .lss l0 (.i (-10000))),m l0,y 0 false (.fa v3 0),i 1 false l0,y 2 false (.bin .gtr l0 (.i 10000)),u (.pk l3 (.b true) l0)] [] 0 (q [x 2 (.i 1)] [] .ret) .skip))) (.reg [u (.bin .add v8 (.i 1)),x 8 l0] [])))
def y7:C:= .loop true [0,2,3,4,5,9,10,11] K.qO
def qP:C:= (.its [u (.bin .lss v11 v10)] [] 0 .skip (.exit 2) (.seq (.blk 3 (q [a 10 v9 v11,h 10 l0,w 5 (.al [z0,z0,z0,z0,z1,z1,z0,z0,z0,z0] []),u (.st l0 l1 10 [])] [] (.seq (.ite [f 0 v5,g l0,u (.bin .lss l0 (.i 0)),m l0,y 0 false (.fa v5 0),i 1 false l0,e 2 false v4,y 3 false (.bin .geq l1 l0),u (.pk l4 (.b true) l0),m l0,y 0 false (.fa v5 1),i 1 false l0,y 2 false (.bin .lss l0 (.i 0)),u (.pk l3 (.b true) l0),m l0,y 0 false (.fa v5 1),i 1 false l0,e 2 false v4,y 3 false (.bin .geq l1 l0),u (.pk l4 (.b true) l0),m l0,y 0 false (.fa v5 0),i 1 false l0,y 2 false (.fa v5 1),i 3 false l0,y 4 false (.bin .eql l2 l0),u (.pk l5 (.b true) l0)] [] 0 (q [x 2 (.i 4)] [] .ret) .skip) (.seq (.ite [f 2 v5,g l0,u (.bin .lss l0 (.i 1)),m l0,y 0 false (.fa v5 2),i 1 false l0,y 2 false (.bin .gtr l0 (.i 100000)),u (.pk l3 (.b true) l0),m l0,y 0 false (.fa v5 3),i 1 false l0,y 2 false (.bin .lss l0 (.i 1)),u (.pk l3 (.b true) l0),m l0,y 0 false (.fa v5 3),i 1 false l0,y 2 false (.bin .gtr l0 (.i 1000)),u (.pk l3 (.b true) l0)] [] 0 (q [x 2 (.i 1)] [] .ret) .skip) (.ite [f 6 v5,h 2 l0,u (.ca N.iu 0 [] [.l 0,.i 1,.i 262144]),u (.un .not l0),m l0,y 0 false (.fa v5 8),y 1 false (.ld l0 2 true),y 2 false (.ca N.iu 0 [] [.l 0,.i (-2199023255552),.i 2199023255552]),y 3 false (.un .not l0),u (.pk l4 (.b true) l0)] [] 0 (q [x 2 (.i 1)] [] .ret) .skip))))) (.reg [u (.bin .add v11 (.i 1)),x 11 l0] [])))
def y8:C:= .loop true [0,1,2,3,5,6,7,8] K.qP
def jX:Fn:= { aP:=1,vars:=[0,1,2,4,5,7,19,20,21,38,39,40],body:=(q [w 1 (.bx v0 2),x 2 (.i 0)] [] (.seq (.ite [f 0 v1,g l0,u (.ln l0),u (.bin .gtr l0 (.i 64)),m l0,y 0 false (.fa v1 1),i 1 false l0,y 2 false (.ln l0),y 3 false (.bin .gtr l0 (.i 128)),u (.pk l4 (.b true) l0)] [] 0 (q [x 2 (.i 2)] [] .ret) .skip) (.seq (q [f 0 v1,w 6 (.ld l0 1 false),w 7 (.ln l0),x 8 (.i 0)] [] (.blk 0 K.y7)) (q [f 0 v1,g l0,u (.ln l0),x 4 l0] [] (.seq (q [f 1 v1,w 9 (.ld l0 1 false),w 10 (.ln l0),x 11 (.i 0)] [] (.blk 2 K.y8)) (q [x 2 (.i 0)] [] .ret)))))),res:=[(2,none)]}
def iu:Fn:= { aP:=3,vars:=[0,1,2,3,6],body:=(q [w 3 (.bx v0 2),x 4 (.b false)] [] (q [m v1,f 0 v3,g l0,u (.bin .leq l2 l0),m l0,y 0 true (.fa v3 0),i 1 true l0,y 2 true (.fa v3 1),i 3 true l0,y 4 true (.bin .leq l2 l0),u (.pk l5 l0 (.b false)),m l0,y 0 true (.fa v3 1),i 1 true l0,e 2 true v2,y 3 true (.bin .leq l1 l0),u (.pk l4 l0 (.b false)),x 4 l0] [] .ret)),res:=[(4,none)]}
end Go.Ev.K
namespace Go.Ev
class fI [Lib]:Prop where
 uX:Lib.fs N.jX=some K.jX
 sU:Lib.fs N.iu=some K.iu
namespace K
variable [Lib] [fI]
theorem uX:Lib.fs N.jX=some K.jX:=fI.uX
theorem sU:Lib.fs N.iu=some K.iu:=fI.sU
end K
end Go.Ev
namespace Go.Ev
open Go
variable [Lib] [cu] [bM] [fK] [fI]
section
variable (H : aq) (sz : Nat)
end
end Go.Ev
namespace Go.Ev
open Go
variable [Lib] [cu] [bM]
structure Spn where
 low:Int
 high:Int
instance : Dat Spn := ⟨⟨0, 0⟩⟩
abbrev Spn.e(f:Spn):T:= .agg [tI f.low,tI f.high]
def Spn.ok(f:Spn):Prop:= -1125899906842624≤f.low∧f.high≤1125899906842624∧f.low≤f.high
instance (f : Spn) : Decidable f.ok := by unfold Spn.ok; infer_instance
def Qj(m:aB)(l:List Spn):Bool:=(List.range l.length).all (fun j=>decide (nth l j).ok)&&decide (l.length=m.roads.length)
def Ao(x:Road)(f:Spn)(back:Bool):Int:=
 if x.closed=true then -1 else
 let g:=if back then -f.low else f.high
 let out:=if 0<g then(x.len*x.area*1000).tdiv g else -1
 if(if back then f.low<500*x.area else -500*x.area<f.high)∧(out<0∨x.len<out)then x.len else out
def aff(l:List Int)(p q:Nat)(t:Int):Bool:=decide (0≤t∧nth l p+t<nth l q)
def aj8(l:List Int)(p q:Nat)(t:Int):List Int:=if aff l p q t=true then l.set q (nth l p+t)else l
def Wo(m:aB)(fl:List Spn)(k:Nat)(back:Bool)(l:List Int):List Int×Bool:=
 (aj8 l ((nth m.roads k).src back).toNat ((nth m.roads k).dst back).toNat (Ao (nth m.roads k) (nth fl k) back),aff l ((nth m.roads k).src back).toNat ((nth m.roads k).dst back).toNat (Ao (nth m.roads k) (nth fl k) back))
def afg(m:aB)(fl:List Spn)(k:Nat)(s:List Int×Bool):List Int×Bool:=
 let a:=Wo m fl k false s.1
 let b:=Wo m fl k true a.1
 (b.1,s.2||a.2||b.2)
def Qk(m:aB)(fl:List Spn)(l:List Int):Nat→List Int×Bool
 | 0=>(l,false)
 | k+1=>afg m fl k (Qk m fl l k)
def Zq(m:aB)(fl:List Spn)(l:List Int):List Int×Bool:=Qk m fl l m.roads.length
section
variable {m : aB} (h : m.ok) {fl : List Spn}
include h
end
def ahS(l:List Int):Nat→List Int
 | 0=>l
 | j+1=>if 2147483648<nth (ahS l j) j then(ahS l j).set j 1099511627776 else ahS l j
def Wp(m:aB)(fl:List Spn)(l:List Int):List Int:=ahS (ju (Zq m fl) (BQ l+1) l) m.aa.length
end Go.Ev
namespace Go.Ev
open Go
variable [Lib] [cu] [bM]
def plS(t x:Int):Prop:=x=1099511627776∨(t≤x∧x≤2147483648)
instance (t x : Int) : Decidable (plS t x) := by unfold plS; infer_instance
def Ql(m:aB)(s:Wh):Bool:=(List.range s.frm.length).all (fun j=>decide (plS s.time (nth s.frm j)))&&decide (s.frm.length=m.aa.length∧inT s.time)
def aj9(l:List Int)(t:Int)(n:Nat):List Int:=(List.range n).map fun(p:Nat)=>if(p:Int)∈l then t else 1099511627776
def afh(m:aB)(fl:List Spn)(l:List Int)(t:Int):Wh×Int:=
 if Qj m fl=false then(⟨0,[]⟩,6)else if lr l m.aa.length=false then(⟨0,[]⟩,3)else if ¬inT t then(⟨0,[]⟩,8)else
 (⟨t,Wp m fl (aj9 l t m.aa.length)⟩,0)
def Wq(m:aB)(fl:List Spn)(frm:List Int)(t:Int)(k:Nat)(back:Bool)(l:List Int):List Int:=
 if nth frm ((nth m.roads k).src back).toNat≤t∧0≤Ao (nth m.roads k) (nth fl k) back then l.set ((nth m.roads k).dst back).toNat (min (nth l ((nth m.roads k).dst back).toNat) t)else l
def afi(m:aB)(fl:List Spn)(frm:List Int)(t:Int)(k:Nat)(l:List Int):List Int:=Wq m fl frm t k true (Wq m fl frm t k false l)
def chN(m:aB)(fl:List Spn)(frm:List Int)(t:Int):Nat→List Int
 | 0=>frm
 | k+1=>afi m fl frm t k (chN m fl frm t k)
def aka(t:Int)(l:List Int):Nat→List Int
 | 0=>l
 | k+1=>(aka t l k).set k (max (nth (aka t l k) k) t)
def Zr(m:aB)(old:List Spn)(next:aB)(fl:List Spn)(s:Wh)(t:Int):Wh×Int:=
 if Ql m s=false∨Qj m old=false∨Qj next fl=false∨next.aa.length≠m.aa.length then(s,6)else
 if t<s.time∨2147483648<t then(s,8)else(⟨t,Wp next fl (aka t (chN m old s.frm t m.roads.length) m.aa.length)⟩,0)
end Go.Ev
namespace Go.Ev
open Go
variable [Lib] [cu] [bM] [fK] [fI]
theorem HI(a b lo hi:Int)(h1:lo≤a)(h2:a≤b)(h3:b≤hi):aD 0 N.iu [.t (.agg [tI a,tI b]),I lo,I hi] []=some (B true,[]):=by
 refine ao K.sU rfl ?_
 simp(disch:=omega)only[go_sem,K.iu,↓reduceIte,reduceAdd,reduceSub]
theorem HJ{m:aB}(h:m.ok):aD 0 N.jX [.t m.e] []=some (I 0,[]):=by
 refine ao K.uX rfl ?_
 have np:=h.np
 have nr:=h.nr
 have hs:=h.hs
 have rs:=h.rs
 obtain⟨aa,roads⟩:=m
 simp only at np nr hs rs
 have l1:∀z0 z2 z3 z4 z5 z9 z10 z11:D,exS aD K.y7 ⟨[z0,.bp 0 0,z2,z3,z4,z5,.t (.sl (aa.map Place.e)),I aa.length,I 0,z9,z10,z11],[.box (ae ⟨aa,roads⟩)]⟩=
  some (.exit 0,⟨[.und,.bp 0 0,.und,.und,.und,.und,.t (.sl (aa.map Place.e)),I aa.length,I aa.length,.und,.und,.und],[.box (ae ⟨aa,roads⟩)]⟩):=by
  intro z0 z2 z3 z4 z5 z9 z10 z11
  refine bk (fun j=>⟨[.und,.bp 0 0,.und,.und,.und,.und,.t (.sl (aa.map Place.e)),I aa.length,I j,.und,.und,.und],[.box (ae ⟨aa,roads⟩)]⟩) aa.length rfl ?_ ?_ (by simp)
  · intro j hj
    have g:(aa.map Place.e)[j]?=some (nth aa j).e:=b8 _ hj
    have q:=hs _ (ai hj)
    generalize nth aa j=x at*
    obtain⟨hh,sf⟩:=x
    simp only[ae]at*
    simp(disch:=omega)only[go_sem,K.qO,↓reduceIte,g,reduceAdd,reduceSub]
  · simp(disch:=omega)only[go_sem,K.qO,↓reduceIte,ae,reduceAdd,reduceSub]
 have l2:∀z0 z1 z2 z3 z5 z6 z7 z8:D,exS aD K.y8 ⟨[z0,z1,z2,z3,I aa.length,z5,z6,z7,z8,.t (.sl (roads.map Road.e)),I roads.length,I 0],[.box (ae ⟨aa,roads⟩)]⟩=
  some (.exit 2,⟨[.und,.und,.und,.und,I aa.length,.und,.und,.und,.und,.t (.sl (roads.map Road.e)),I roads.length,I roads.length],[.box (ae ⟨aa,roads⟩)]⟩):=by
  intro z0 z1 z2 z3 z5 z6 z7 z8
  refine bk (fun j=>⟨[.und,.und,.und,.und,I aa.length,.und,.und,.und,.und,.t (.sl (roads.map Road.e)),I roads.length,I j],[.box (ae ⟨aa,roads⟩)]⟩) roads.length rfl ?_ ?_ (by simp)
  · intro j hj
    have g:(roads.map Road.e)[j]?=some (nth roads j).e:=b8 _ hj
    have q:=rs _ (ai hj)
    generalize nth roads j=x at*
    have f0:=q.f0;have f1:=q.f1;have t0:=q.t0;have t1:=q.t1;have ne:=q.ne;have l0:=q.l0;have l1:=q.l1;have a0:=q.a0;have a1:=q.a1
    have r0:=q.r0;have r1:=q.r1;have r2:=q.r2;have i0:=q.i0;have i1:=q.i1;have i2:=q.i2
    clear q
    obtain⟨frm,to,len,area,walk,closed,rl,rh,ll,lh⟩:=x
    simp only[ae]at*
    have s1:=HI rl rh 1 262144 r0 r1 r2
    have s2:=HI ll lh (-2199023255552) 2199023255552 i0 i1 i2
    simp(disch:=omega)only[go_sem,K.qP,↓reduceIte,g,s1,s2,reduceAdd,reduceSub]
  · simp(disch:=omega)only[go_sem,K.qP,↓reduceIte,ae,reduceAdd,reduceSub]
 simp only[ae]at l1 l2
 simp(disch:=omega)only[go_sem,K.jX,↓reduceIte,l1,l2,reduceAdd,reduceSub]
theorem iQ{m:aB}(h:m.ok):aD 0 N.dW [.t m.e] []=some (B true,[]):=by
 refine ao K.uW rfl ?_
 have c:=HJ h
 obtain⟨aa,roads⟩:=m
 simp(disch:=omega)only[go_sem,K.dW,↓reduceIte,c,reduceAdd,reduceSub]
end Go.Ev
namespace Go.Ev.N
def Na:Nat:=178
def Nb:Nat:=179
def OB:Nat:=180
def Nc:Nat:=181
def OC:Nat:=182
def Qm:Nat:=183
def OD:Nat:=184
def Zs:Nat:=185
def Ws:Nat:=186
def Zt:Nat:=187
def Qn:Nat:=188
def Zu:Nat:=189
def gy:Nat:=190
def Wt:Nat:=191
def acC:Nat:=192
def T0:Nat:=193
def eH:Nat:=194
def Zv:Nat:=195
def acE:Nat:=196
def afj:Nat:=197
def SL:Nat:=198
def dj:Nat:=199
def fP:Nat:=200
def dK:Nat:=201
def bq:Nat:=202
def Wu:Nat:=203
def aV:Nat:=204
def c8:Nat:=205
def fQ:Nat:=206
def Wv:Nat:=207
def dY:Nat:=208
def bw:Nat:=209
def cy:Nat:=210
def lA:Nat:=211
def lB:Nat:=212
def fJ:Nat:=213
def jY:Nat:=214
end Go.Ev.N
namespace Go.Ev.K
open Go.Ev
def gy:Fn:= { aP:=2,vars:=[0,1,2,3,4],body:=(q [w 2 (.bx v0 2),w 3 (.bx v1 2),x 4 (.b false)] [] (q [h 2 v2,u (.ca N.dW 0 [] [.l 0]),m l0,y 0 true (.ld v2 2 true),y 1 true (.ld v3 2 true),y 2 true (.ca N.dK 0 [] [.l 1,.l 0]),u (.pk l3 l0 (.b false)),m l0,y 0 true (.ld v2 2 true),y 1 true (.fa v3 1),i 2 true l0,y 3 true (.fa v3 0),i 4 true l0,y 5 true (.ca N.dj 0 [] [.l 4,.l 2,.l 0,.c (.fn N.fP [])]),y 6 true (.fa v3 1),i 7 true l0,y 8 true (.ca N.bq 0 [] [.l 2,.l 0]),u (.pk l9 l0 (.b false)),x 4 l0] [(15,6)] .ret)),res:=[(4,none)]}
end Go.Ev.K
namespace Go.Ev
class iv [Lib]:Prop where
 qQ:Lib.fs N.gy=some K.gy
namespace K
variable [Lib] [iv]
theorem qQ:Lib.fs N.gy=some K.gy:=iv.qQ
end K
end Go.Ev
