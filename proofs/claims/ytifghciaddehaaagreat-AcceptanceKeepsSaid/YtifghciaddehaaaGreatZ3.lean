/- Parts of the proof: see the text that holds the theorem. -/
import Derived.Test.YtifghciaddehaaaGreatZ2
set_option linter.all false
open Nat (reduceAdd reduceSub)
set_option maxRecDepth 100000
namespace Go.Ev
open Go
abbrev I(n:Int):D:= .t (.int .i64 n)
abbrev B(b:Bool):D:= .t (.bool b)
def Nt{β:Type}(call:aV):List R→List D→List D→aq→(List D→List D→aq→Option β)→Option β
 | rs,L,vs,H,K=>(evR call rs L vs H).bind fun q=>K q.1 q.2.1 q.2.2
def WC{β:Type}(call:aV)(rs:List R)(d:Option Nat)(L vs:List D)(K:List D→List D→aq→Option β)(p:D×aq):Option β:=
 Nt call rs (p.1::L) (wr vs d p.1) p.2 K
@[go_sem] theorem afb {β : Type} (call : aV) (rs : List R) (d : Option Nat) (L vs : List D) (K : List D → List D → aq → Option β) (x : D) (H : aq) :
 WC call rs d L vs K (x,H)=Nt call rs (x::L) (wr vs d x) H K:=(rfl)
@[go_sem] theorem afc {β : Type} (call : aV) (L vs : List D) (H : aq) (K : List D → List D → aq → Option β) : Nt call [] L vs H K = K L vs H := (rfl)
@[go_sem] theorem acF {β : Type} (call : aV) (o : O) (d : Option Nat) (rs : List R) (L vs : List D) (H : aq) (K : List D → List D → aq → Option β) :
 Nt call (⟨o,d,none⟩::rs) L vs H K=(evO call (X.get vs L) H o).bind (WC call rs d L vs K):=by
 simp[Nt,evR,c8,Option.bind_assoc]
 rfl
def gate{β:Type}(c:Option D)(w:Bool)(a b:Option β):Option β:=match c with
 | some (.t (.bool x))=>if x=w then a else b
 | some (.tup [])=>b
 | _=>none
@[congr] theorem Z3 {β : Type} {c c' : Option D} {w : Bool} {a b : Option β} (h : True → c = c') : gate c w a b = gate c' w a b := by rw [h trivial]
@[go_sem] theorem acG {β : Type} (x : Bool) (a b : Option β) : gate (some (.t (.bool x))) true a b = if x = true then a else b := (rfl)
@[go_sem] theorem Z4 {β : Type} (x : Bool) (a b : Option β) : gate (some (.t (.bool x))) false a b = if x = true then b else a := by cases x <;> rfl
@[go_sem] theorem acH {β : Type} (w : Bool) (a b : Option β) : gate (some (.tup [])) w a b = b := (rfl)
@[go_sem] theorem acI {β : Type} (call : aV) (o : O) (d : Option Nat) (k : Nat) (w : Bool) (rs : List R) (L vs : List D) (H : aq) (K : List D → List D → aq → Option β) :
 Nt call (⟨o,d,some (k,w)⟩::rs) L vs H K=gate L[k]? w ((evO call (X.get vs L) H o).bind (WC call rs d L vs K)) (Nt call rs (.tup []::L) (wr vs d (.tup [])) H K):=by
 simp only[Nt,evR,c8]
 cases hL:L[k]? with
 | none=>simp[gate]
 | some c=>
   simp only[aLq]
   cases c with
   | t x=>
     cases x with
     | bool b=>cases b<;>cases w<;>simp[gate,Option.bind_assoc]<;>rfl
     | _=>simp[gate]
   | tup ds=>
     cases ds with
     | nil=>simp[gate]
     | cons=>simp[gate]
   | _=>simp[gate]
open Classical in
noncomputable def Ae{β:Type}(p:Prop)(x:Option β):Option β:=if p then x else none
@[go_sem] theorem WD {β : Type} (x : Option β) : Ae True x = x := by simp [Ae]
noncomputable def Gt{β:Type}(call:aV)(all:List R)(n:Nat)(ps:List (Nat×Nat))(rs:List R)(L vs:List D)(H:aq)(acc:List Tr)(K:List D→List D→aq→Option β):Option β:=
 (evR call rs L vs H).bind fun q=>Ae (sY call all n ((trace call rs L vs H).reverse++acc) ps) (K q.1 q.2.1 q.2.2)
noncomputable def OC{β:Type}(call:aV)(all:List R)(n:Nat)(ps:List (Nat×Nat))(rs:List R)(d:Option Nat)(L vs:List D)(H:aq)(acc:List Tr)(K:List D→List D→aq→Option β)(p:D×aq):Option β:=
 Gt call all n ps rs (p.1::L) (wr vs d p.1) p.2 ((L,vs,H)::acc) K
@[go_sem] theorem afd {β : Type} (call : aV) (all : List R) (n : Nat) (ps : List (Nat × Nat)) (rs : List R) (d : Option Nat) (L vs : List D) (H : aq) (acc : List Tr) (K : List D → List D → aq → Option β) (x : D) (H' : aq) :
 OC call all n ps rs d L vs H acc K (x,H')=Gt call all n ps rs (x::L) (wr vs d x) H' ((L,vs,H)::acc) K:=(rfl)
@[go_sem] theorem afe {β : Type} (call : aV) (all : List R) (n : Nat) (ps : List (Nat × Nat)) (L vs : List D) (H : aq) (acc : List Tr) (K : List D → List D → aq → Option β) :
 Gt call all n ps [] L vs H acc K=Ae (sY call all n ((L,vs,H)::acc) ps) (K L vs H):=by
 simp[Gt,evR,trace]
theorem Gu{β:Type}(call:aV)(all:List R)(n:Nat)(ps:List (Nat×Nat))(r:R)(rs:List R)(L vs:List D)(H:aq)(acc:List Tr)(K:List D→List D→aq→Option β):
 Gt call all n ps (r::rs) L vs H acc K=(c8 L r.g).bind fun w=>
  if w then(evO call (X.get vs L) H r.o).bind (OC call all n ps rs r.d L vs H acc K)else Gt call all n ps rs (.tup []::L) (wr vs r.d (.tup [])) H ((L,vs,H)::acc) K:=by
 obtain hw | ⟨w,hw⟩:c8 L r.g=none∨∃w,c8 L r.g=some w:=by cases c8 L r.g<;>simp
 · simp[Gt,evR,trace,hw]
 · cases w with
   | true=>
     obtain hq | ⟨q,hq⟩:evO call (X.get vs L) H r.o=none∨∃q,evO call (X.get vs L) H r.o=some q:=by cases evO call (X.get vs L) H r.o<;>simp
     · simp[Gt,evR,trace,hw,hq]
     · simp[Gt,evR,trace,hw,hq,OC]
   | false=>simp[Gt,evR,trace,hw]
@[go_sem] theorem acJ {β : Type} (call : aV) (all : List R) (n : Nat) (ps : List (Nat × Nat)) (o : O) (d : Option Nat) (rs : List R) (L vs : List D) (H : aq) (acc : List Tr) (K : List D → List D → aq → Option β) :
 Gt call all n ps (⟨o,d,none⟩::rs) L vs H acc K=(evO call (X.get vs L) H o).bind (OC call all n ps rs d L vs H acc K):=by
 rw[Gu];simp[c8]
@[go_sem] theorem acK {β : Type} (call : aV) (all : List R) (n : Nat) (ps : List (Nat × Nat)) (o : O) (d : Option Nat) (k : Nat) (w : Bool) (rs : List R) (L vs : List D) (H : aq) (acc : List Tr) (K : List D → List D → aq → Option β) :
 Gt call all n ps (⟨o,d,some (k,w)⟩::rs) L vs H acc K=
  gate L[k]? w ((evO call (X.get vs L) H o).bind (OC call all n ps rs d L vs H acc K)) (Gt call all n ps rs (.tup []::L) (wr vs d (.tup [])) H ((L,vs,H)::acc) K):=by
 rw[Gu]
 simp only[c8]
 cases hL:L[k]? with
 | none=>simp[gate]
 | some c=>
   simp only[aLq]
   cases c with
   | t x=>
     cases x with
     | bool b=>cases b<;>cases w<;>simp[gate]
     | _=>simp[gate]
   | tup ds=>
     cases ds with
     | nil=>simp[gate]
     | cons=>simp[gate]
   | _=>simp[gate]
def C2(call:aV):Option R→Option Tr→Option Tr→Option Tr→Prop
 | some r,some s,some a,some s'=>(match r.o with
   | .al _ _=>a.2.2[s.2.2.length]?=s'.2.2[s.2.2.length]?
   | .bs xs _=>c8 s.1 r.g=some false∨((cg (X.get s.2.1 s.1) xs).bind sU).isSome=true
   | o=>x8 o=true∧(c8 s.1 r.g=some false∨FL (evO call (X.get s.2.1 s.1) a.2.2 o)=FL (evO call (X.get s.2.1 s.1) s.2.2 o)))
 | _,_,_,_=>False
@[go_sem] theorem Z5 (call : aV) (all : List R) (n : Nat) (acc : List Tr) : sY call all n acc [] = True := (rfl)
@[go_sem] theorem WE (call : aV) (all : List R) (n : Nat) (acc : List Tr) (p m : Nat) (r : List (Nat × Nat)) :
 sY call all n acc ((p,m)::r)=(C2 call all[p]? acc[n-p]? acc[n-m]? acc[n-(p+1)]?∧m≤n∧sY call all n acc r):=by
 simp only[sY,WB,C2]
 try rfl
section
variable (call : aV) (d : Option Nat) (gd : Option (Nat × Bool)) (L vs L' vs' : List D) (H H' : aq) (s' : Tr)
@[go_sem] theorem aff (x : X) (n : Nat) (agg : Bool) : C2 call (some ⟨.ld x n agg, d, gd⟩) (some (L, vs, H)) (some (L', vs', H')) (some s') =
 (c8 L gd=some false∨FL (evO call (X.get vs L) H' (.ld x n agg))=FL (evO call (X.get vs L) H (.ld x n agg))):=by simp[C2,x8]
@[go_sem] theorem afg (x i : X) (sz : Nat) : C2 call (some ⟨.ia x i sz, d, gd⟩) (some (L, vs, H)) (some (L', vs', H')) (some s') =
 (c8 L gd=some false∨FL (evO call (X.get vs L) H' (.ia x i sz))=FL (evO call (X.get vs L) H (.ia x i sz))):=by simp[C2,x8]
@[go_sem] theorem afh (x : X) (lo hi : Option X) (sz : Nat) : C2 call (some ⟨.sc x lo hi sz, d, gd⟩) (some (L, vs, H)) (some (L', vs', H')) (some s') =
 (c8 L gd=some false∨FL (evO call (X.get vs L) H' (.sc x lo hi sz))=FL (evO call (X.get vs L) H (.sc x lo hi sz))):=by simp[C2,x8]
@[go_sem] theorem afi (z : List D) (l : List (Nat × Nat)) (L2 vs2 : List D) (H2 : aq) : C2 call (some ⟨.al z l, d, gd⟩) (some (L, vs, H)) (some (L', vs', H')) (some (L2, vs2, H2)) = (H'[H.length]? = H2[H.length]?) := (rfl)
@[go_sem] theorem afj (xs : List X) (sz : Nat) : C2 call (some ⟨.bs xs sz, d, gd⟩) (some (L, vs, H)) (some (L', vs', H')) (some s') =
 (c8 L gd=some false∨((cg (X.get vs L) xs).bind sU).isSome=true):=(rfl)
@[go_sem] theorem Ux (L : List D) : c8 L none = some true := (rfl)
def acL(w:Bool):Option D→Option Bool
 | some (.t (.bool b))=>some (b==w)
 | some (.tup [])=>some false
 | _=>none
@[go_sem] theorem Z6 (w b : Bool) : acL w (some (.t (.bool b))) = some (b == w) := (rfl)
@[go_sem] theorem Uy (L : List D) (k : Nat) (w : Bool) : c8 L (some (k, w)) = acL w L[k]? := by
 simp only[c8]
 cases L[k]? with
 | none=>rfl
 | some c=>cases c with
   | t x=>cases x<;>rfl
   | tup ds=>cases ds<;>rfl
   | _=>rfl
@[go_sem] theorem acM (x : D) : FL (some (x, H)) = some x := (rfl)
attribute [go_sem] beq_true beq_false or_true true_or or_self
end
theorem Ko(call:aV)(rs:List R)(vs:List D)(H:aq):OB call rs [] vs H=evR call rs [] vs H:=by
 simp[OB,sY]
def ag3(L vs:List D)(H:aq):Option (Ex×St):=some (.normal,⟨vs,H⟩)
noncomputable def ag4(call:aV)(k:Nat)(a b:C)(L vs:List D)(H:aq):Option (Ex×St):=jq L[k]? (exS call a ⟨vs,H⟩) (exS call b ⟨vs,H⟩)
@[go_sem] theorem ag5 (L vs : List D) (H : aq) : ag3 L vs H = some (.normal, ⟨vs, H⟩) := (rfl)
@[go_sem] theorem ag6 (call : aV) (k : Nat) (a b : C) (L vs : List D) (H : aq) : ag4 call k a b L vs H = jq L[k]? (exS call a ⟨vs, H⟩) (exS call b ⟨vs, H⟩) := (rfl)
def andThen(x:Option (Ex×St))(k:St→Option (Ex×St)):Option (Ex×St):=x.bind fun p=>iR p k
@[go_sem] theorem Rv (st : St) (k : St → Option (Ex × St)) : andThen (some (.normal, st)) k = k st := (rfl)
@[go_sem] theorem WG (st : St) (k : St → Option (Ex × St)) : andThen (some (.ret, st)) k = some (.ret, st) := (rfl)
@[go_sem] theorem Uz (i : Nat) (st : St) (k : St → Option (Ex × St)) : andThen (some (.exit i, st)) k = some (.exit i, st) := (rfl)
@[go_sem] theorem andThen_ite (c : Prop) [Decidable c] (a b : Option (Ex × St)) (k : St → Option (Ex × St)) : andThen (if c then a else b) k = if c then andThen a k else andThen b k := by
 split<;>rfl
@[go_sem] theorem afk (call : aV) (st : St) : exS call .skip st = some (.normal, st) := (rfl)
@[go_sem] theorem ag7 (call : aV) (rs : List R) (vs : List D) (H : aq) : exS call (.reg rs []) ⟨vs, H⟩ = Nt call rs [] vs H ag3 := by
 simp only[exS,Ko,Nt]
 cases evR call rs [] vs H<;>rfl
@[go_sem] theorem afl (call : aV) (rs : List R) (p : Nat × Nat) (ps : List (Nat × Nat)) (vs : List D) (H : aq) :
 exS call (.reg rs (p::ps)) ⟨vs,H⟩=Gt call rs rs.length (p::ps) rs [] vs H [] ag3:=by
 simp only[exS,OB,Gt,List.append_nil]
 by_cases h:sY call rs rs.length (trace call rs [] vs H).reverse (p::ps)
 · rw[if_pos h]
   simp only[Ae,if_pos h]
   cases evR call rs [] vs H<;>rfl
 · rw[if_neg h]
   simp only[Ae,if_neg h]
   cases evR call rs [] vs H<;>rfl
@[go_sem] theorem ag8 (call : aV) (a b : C) (st : St) : exS call (.seq a b) st = andThen (exS call a st) (exS call b) := (rfl)
@[go_sem] theorem ag9 (call : aV) (rs : List R) (k : Nat) (a b : C) (vs : List D) (H : aq) : exS call (.ite rs [] k a b) ⟨vs, H⟩ = Nt call rs [] vs H (ag4 call k a b) := by
 simp only[exS,Ko,Nt]
 cases evR call rs [] vs H<;>rfl
@[go_sem] theorem afm (call : aV) (rs : List R) (p : Nat × Nat) (ps : List (Nat × Nat)) (k : Nat) (a b : C) (vs : List D) (H : aq) :
 exS call (.ite rs (p::ps) k a b) ⟨vs,H⟩=Gt call rs rs.length (p::ps) rs [] vs H [] (ag4 call k a b):=by
 simp only[exS,OB,Gt,List.append_nil]
 by_cases h:sY call rs rs.length (trace call rs [] vs H).reverse (p::ps)
 · rw[if_pos h]
   simp only[Ae,if_pos h]
   cases evR call rs [] vs H<;>rfl
 · rw[if_neg h]
   simp only[Ae,if_neg h]
   cases evR call rs [] vs H<;>rfl
@[go_sem] theorem aha (call : aV) (rs : List R) (ps : List (Nat × Nat)) (k : Nat) (a b c : C) (st : St) : exS call (.its rs ps k a b c) st = andThen (exS call (.ite rs ps k a b) st) (exS call c) := (rfl)
@[go_sem] theorem ahb (call : aV) (rs : List R) (ps : List (Nat × Nat)) (k : Nat) (a b c : C) (st : St) : exS call (.itk rs ps k a b c) st = exS call (.ite rs ps k (.seq a c) (.seq b c)) st := (rfl)
@[go_sem] theorem ahc (call : aV) (j : Nat) (a b : C) (vs : List D) (H : aq) : exS call (.itv j a b) ⟨vs, H⟩ = jq vs[j]? (exS call a ⟨vs, H⟩) (exS call b ⟨vs, H⟩) := (rfl)
@[go_sem] theorem afn (call : aV) (id : Nat) (st : St) : exS call (.exit id) st = some (.exit id, st) := (rfl)
@[go_sem] theorem ahd (call : aV) (st : St) : exS call .ret st = some (.ret, st) := (rfl)
def Ew(id:Nat)(x:Option (Ex×St)):Option (Ex×St):=x.map (leave id)
@[go_sem] theorem ahe (call : aV) (id : Nat) (c : C) (st : St) : exS call (.blk id c) st = Ew id (exS call c st) := (rfl)
@[go_sem] theorem UA (id : Nat) (st : St) : Ew id (some (.normal, st)) = some (.normal, st) := by simp [Ew, leave]
@[go_sem] theorem acN (id : Nat) (st : St) : Ew id (some (.ret, st)) = some (.ret, st) := by simp [Ew, leave]
@[go_sem] theorem Z7 (id i : Nat) (st : St) : Ew id (some (.exit i, st)) = if i = id then some (.normal, st) else some (.exit i, st) := by
 simp only[Ew,leave,aLw,Ex.exit.injEq]
 split<;>rfl
@[congr] theorem WH {c c' : Option D} {a b : Option (Ex × St)} (h : True → c = c') : jq c a b = jq c' a b := by rw [h trivial]
@[go_sem] theorem afo (a : Option (Ex × St)) : jq (some .ub) a a = a := by simp [jq]
@[go_sem] theorem Z8 (x : Bool) (a b : Option (Ex × St)) : jq (some (.t (.bool x))) a b = if x = true then a else b := (rfl)
def gp(gc:Bool)(dead:List Nat)(k:Nat)(x:Option (Ex×St)):Option St:=x.bind fun p=>match p.1 with
 | .normal=>tidy gc dead k p.2
 | _=>none
@[go_sem] theorem Sp (gc : Bool) (dead : List Nat) (k : Nat) (st : St) : gp gc dead k (some (.normal, st)) = tidy gc dead k st := (rfl)
theorem fC{gc:Bool}{dead:List Nat}{body:St→Option (Ex×St)}{st st2:St}(h:gp gc dead st.H.length (body st)=some st2)
 {p:Ex×St} (h2:nj gc dead body st2=some p):nj gc dead body st=some p:=by
 unfold gp at h
 obtain⟨⟨e,st1⟩,hq,h⟩:=aLa.1 h
 cases e with
 | normal=>exact DE hq h h2
 | ret=>cases h
 | exit=>cases h
theorem A6{gc:Bool}{dead:List Nat}{body:St→Option (Ex×St)}(s:Nat→St){p:Ex×St}(n:Nat)
 (h:∀j,j<n→gp gc dead (s j).H.length (body (s j))=some (s (j+1))) (he:nj gc dead body (s n)=some p):nj gc dead body (s 0)=some p:=by
 have:=Ad (s:=s) n 0 (fun j _ hj=>by
  have h:=h j (by omega)
  unfold gp at h
  obtain⟨⟨e,st1⟩,hq,h⟩:=aLa.1 h
  cases e with
  | normal=>exact⟨st1,hq,h⟩
  | ret=>cases h
  | exit=>cases h) (by simpa using he)
 exact this
def afp(res:List (Nat×Option (Nat×Bool)))(k raw:Nat)(p:Ex×St):Option (D×aq):=match p.1 with
 | .exit _=>none
 | _=>(j7 p.2 res).bind (finish k raw p.2.H)
@[go_sem] theorem afq (res : List (Nat × Option (Nat × Bool))) (k raw : Nat) (vs : List D) (H : aq) : afp res k raw (.ret, ⟨vs, H⟩) = (j7 ⟨vs, H⟩ res).bind (finish k raw H) := (rfl)
@[go_sem] theorem WI (res : List (Nat × Option (Nat × Bool))) (k raw : Nat) (vs : List D) (H : aq) : afp res k raw (.normal, ⟨vs, H⟩) = (j7 ⟨vs, H⟩ res).bind (finish k raw H) := (rfl)
theorem WJ{fs:Nat→Option Fn}{raw f:Nat}{args:List D}{H:aq}{fn:Fn}{r:D×aq}(hf:fs f=some fn)(hn:fn.aP=args.length)
 (h:(exS (oN fs) fn.body ⟨vT args fn.vars,H⟩).bind (afp fn.res H.length raw)=some r) (h0:fn.prim=[]:=by rfl):oN fs raw f args H=some r:=by
 obtain⟨p,hp,he⟩:=aLa.1 h
 exact Sj hf hn (Sn _ _ _ hp) he h0
@[go_sem] theorem afr {α β : Type} (c : Prop) [Decidable c] (a b : Option α) (k : α → Option β) : (if c then a else b).bind k = if c then a.bind k else b.bind k := by
 split<;>rfl
theorem afs(a b:Int):(a==b)=decide (a=b):=by rw[Bool.eq_iff_iff];simp
theorem wS{n:Int}(h1: -9223372036854775808≤n)(h2:n≤9223372036854775807):IntKind.i64.wrap n=n:=by
 have e:IntKind.i64.wrap n=if n % 18446744073709551616≥9223372036854775808 then n % 18446744073709551616-18446744073709551616 else n % 18446744073709551616:=by
  simp[IntKind.wrap,IntKind.signed,IntKind.bits]
 rw[e];split<;>omega
section
variable {α β : Type}
@[go_sem] theorem WK (a : α) (f : α → Option β) : (some a).bind f = f a := (rfl)
@[go_sem] theorem Z9 (a : α) (f : α → β) : (some a).map f = some (f a) := (rfl)
@[go_sem] theorem aaa (a : α) (l : List α) (f : α → β) : (a :: l).map f = f a :: l.map f := (rfl)
@[go_sem] theorem acO (f : α → β) : ([] : List α).map f = [] := (rfl)
@[go_sem] theorem aab (a : α) (l : List α) : (a :: l)[0]? = some a := (rfl)
@[go_sem] theorem aac (a : α) (l : List α) (n : Nat) : (a :: l)[n + 1]? = l[n]? := (rfl)
@[go_sem] theorem WL (a d : α) (l : List α) : (a :: l).getD 0 d = a := (rfl)
@[go_sem] theorem WM (a d : α) (l : List α) (n : Nat) : (a :: l).getD (n + 1) d = l.getD n d := (rfl)
@[go_sem] theorem aad (d : α) (n : Nat) : ([] : List α).getD n d = d := by simp
@[go_sem] theorem aae (a b : α) (l : List α) : (a :: l).set 0 b = b :: l := (rfl)
@[go_sem] theorem aaf (a b : α) (l : List α) (n : Nat) : (a :: l).set (n + 1) b = a :: l.set n b := (rfl)
@[go_sem] theorem Sq (a : α) (l m : List α) : (a :: l) ++ m = a :: (l ++ m) := (rfl)
@[go_sem] theorem UB (l : List α) : [] ++ l = l := (rfl)
@[go_sem] theorem UC (l : List α) : l ++ [] = l := by simp
@[go_sem] theorem UD : ([] : List α).length = 0 := (rfl)
@[go_sem] theorem Sr (a : α) (l : List α) : (a :: l).length = l.length + 1 := (rfl)
@[go_sem] theorem UE (l : List α) (f : α → β) : (l.map f).length = l.length := by simp
@[go_sem] theorem OD (l m : List α) : (l ++ m).length = l.length + m.length := by simp
@[go_sem] theorem UF (l : List α) (i : Nat) (a : α) : (l.set i a).length = l.length := by simp
@[go_sem] theorem WN (l : List α) : l.drop 0 = l := (rfl)
@[go_sem] theorem WO (a : α) (l : List α) (n : Nat) : (a :: l).drop (n + 1) = l.drop n := (rfl)
@[go_sem] theorem aag (n : Nat) : ([] : List α).drop n = [] := by simp
@[go_sem] theorem WQ (l : List α) : l.take 0 = [] := (rfl)
@[go_sem] theorem WR (a : α) (l : List α) (n : Nat) : (a :: l).take (n + 1) = a :: l.take n := (rfl)
@[go_sem] theorem aah (n : Nat) : ([] : List α).take n = [] := by simp
@[go_sem] theorem WS (a b : α) : (bif true then a else b) = a := (rfl)
@[go_sem] theorem UG (a b : α) : (bif false then a else b) = b := (rfl)
@[go_sem] theorem aai (n : Nat) : n + 0 = n := (rfl)
@[go_sem] theorem aaj (n : Nat) : 0 + n = n := by simp
@[go_sem] theorem aak (a b : α) : (some a = some b) = (a = b) := by simp
@[go_sem] theorem afu (a : α) : (some a).isSome = true := (rfl)
end
attribute [go_sem] decide_true decide_false if_true if_false aLt Bool.true_eq_false decide_eq_true_eq decide_eq_false_iff_not aLr Bool.or_eq_true Bool.not_eq_true' Bool.not_eq_true Bool.not_eq_false
 Bool.and_true Bool.true_and Bool.and_false Bool.false_and Bool.or_true Bool.true_or Bool.or_false Bool.false_or and_true true_and and_self not_true_eq_false not_false_eq_true beq_iff_eq bne_iff_ne ne_eq
@[go_sem] theorem aal : (!true) = false := (rfl)
@[go_sem] theorem WT : (!false) = true := (rfl)
@[go_sem] theorem akd (vs L : List D) (j : Nat) : X.get vs L (.v j) = vs[j]? := (rfl)
@[go_sem] theorem ake (vs L : List D) (k : Nat) : X.get vs L (.l k) = L[k]? := (rfl)
@[go_sem] theorem akf (vs L : List D) (d : D) : X.get vs L (.c d) = some d := (rfl)
@[go_sem] theorem akg (vs L : List D) (n : Int) : X.get vs L (.i n) = some (I n) := (rfl)
@[go_sem] theorem akh (vs L : List D) (x : Bool) : X.get vs L (.b x) = some (B x) := (rfl)
@[go_sem] theorem ahf (vs : List D) (x : D) : wr vs none x = vs := (rfl)
@[go_sem] theorem ahg (vs : List D) (s : Nat) (x : D) : wr vs (some s) x = vs.set s x := (rfl)
@[go_sem] theorem aam (args : List D) : vT args [] = [] := (rfl)
@[go_sem] theorem WU (args : List D) (s : Nat) (r : List Nat) : vT args (s :: r) = args.getD s .und :: vT args r := (rfl)
def ahh(H:aq)(d:D):Option (D×aq):=some (d,H)
@[go_sem] theorem ahi (H : aq) (d : D) : ahh H d = some (d, H) := (rfl)
def mU{α:Type}(a:α)(l:Option (List α)):Option (List α):=l.map (a:: ·)
@[go_sem] theorem aan {α : Type} (a : α) (l : List α) : mU a (some l) = some (a :: l) := (rfl)
@[go_sem] theorem aao {α : Type} (a : α) : mU a none = none := (rfl)
@[go_sem] theorem afv {α β : Type} (f : α → Option β) : cg f [] = some [] := (rfl)
def ajr{α β:Type}(f:α→Option β)(r:List α)(y:β):Option (List β):=mU y (cg f r)
@[go_sem] theorem WW {α β : Type} (f : α → Option β) (r : List α) (y : β) : ajr f r y = mU y (cg f r) := (rfl)
@[go_sem] theorem Gv {α β : Type} (f : α → Option β) (x : α) (r : List α) : cg f (x :: r) = (f x).bind (ajr f r) := (rfl)
section
variable (call : aV) (get : X → Option D) (H : aq)
@[go_sem] theorem aki (x : X) : evO call get H (.mv x) = (get x).bind (ahh H) := by simp only [evO]; cases get x <;> rfl
def afw(c a b:Option D):Option (D×aq):=c.bind fun c=>a.bind fun a=>b.bind fun b=>(R0 c a b).map fun d=>(d,H)
@[go_sem] theorem akj (c a b : X) : evO call get H (.pk c a b) = afw H (get c) (get a) (get b) := (rfl)
@[go_sem] theorem acP (x p q : Bool) : afw H (some (.t (.bool x))) (some (.t (.bool p))) (some (.t (.bool q))) = some (.t (.bool (bif x then p else q)), H) := by cases x <;> rfl
@[go_sem] theorem acQ (a b : D) : afw H (some (.t (.bool true))) (some a) (some b) = some (a, H) := (rfl)
@[go_sem] theorem aap (a b : D) : afw H (some (.t (.bool false))) (some a) (some b) = some (b, H) := (rfl)
def oO(f:BinOp)(x y:Option D):Option (D×aq):=x.bind fun a=>y.bind fun b=>(Ie f a b).map fun d=>(d,H)
@[go_sem] theorem ajs (f : BinOp) (x y : X) : evO call get H (.bin f x y) = oO H f (get x) (get y) := (rfl)
section
variable (k j : IntKind) (a b : Int)
@[go_sem] theorem acR : oO H .add (some (.t (.int k a))) (some (.t (.int k b))) = some (.t (.int k (k.wrap (a + b))), H) := by simp [oO, Ie, LG]
@[go_sem] theorem acS : oO H .sub (some (.t (.int k a))) (some (.t (.int k b))) = some (.t (.int k (k.wrap (a - b))), H) := by simp [oO, Ie, LG]
@[go_sem] theorem acT : oO H .mul (some (.t (.int k a))) (some (.t (.int k b))) = some (.t (.int k (k.wrap (a * b))), H) := by simp [oO, Ie, LG]
@[go_sem] theorem acU : oO H .quo (some (.t (.int k a))) (some (.t (.int k b))) = if b = 0 then none else some (.t (.int k (k.wrap (a.tdiv b))), H) := by simp only [oO, Ie, LG]; by_cases h : b = 0 <;> simp [h]
@[go_sem] theorem acV : oO H .rem (some (.t (.int k a))) (some (.t (.int k b))) = if b = 0 then none else some (.t (.int k (a.tmod b)), H) := by simp only [oO, Ie, LG]; by_cases h : b = 0 <;> simp [h]
@[go_sem] theorem acW : oO H .eql (some (.t (.int k a))) (some (.t (.int k b))) = some (.t (.bool (decide (a = b))), H) := by simp [oO, Ie, LG, afs]
@[go_sem] theorem acX : oO H .neq (some (.t (.int k a))) (some (.t (.int k b))) = some (.t (.bool (decide (¬ a = b))), H) := by simp [oO, Ie, LG, bne, afs]
@[go_sem] theorem acY : oO H .lss (some (.t (.int k a))) (some (.t (.int k b))) = some (.t (.bool (decide (a < b))), H) := by simp [oO, Ie, LG]
@[go_sem] theorem acZ : oO H .leq (some (.t (.int k a))) (some (.t (.int k b))) = some (.t (.bool (decide (a ≤ b))), H) := by simp [oO, Ie, LG]
@[go_sem] theorem ac0 : oO H .gtr (some (.t (.int k a))) (some (.t (.int k b))) = some (.t (.bool (decide (b < a))), H) := by simp [oO, Ie, LG]
@[go_sem] theorem ac1 : oO H .geq (some (.t (.int k a))) (some (.t (.int k b))) = some (.t (.bool (decide (b ≤ a))), H) := by simp [oO, Ie, LG]
def ahj(f:UnOp)(a:D):Option (D×aq):=(unD f a).map fun d=>(d,H)
@[go_sem] theorem akk (f : UnOp) (x : X) : evO call get H (.un f x) = (get x).bind (ahj H f) := (rfl)
@[go_sem] theorem afx (x : Bool) : ahj H .not (.t (.bool x)) = some (.t (.bool (!x)), H) := (rfl)
@[go_sem] theorem afy : ahj H .neg (.t (.int k a)) = some (.t (.int k (k.wrap (0 - a))), H) := (rfl)
end
def Gw(q:EqK)(neg:Bool)(x y:Option D):Option (D×aq):=x.bind fun a=>y.bind fun b=>(ZU q neg a b).map fun d=>(d,H)
@[go_sem] theorem ajt (q : EqK) (neg : Bool) (x y : X) : evO call get H (.eqk q neg x y) = Gw H q neg (get x) (get y) := (rfl)
@[go_sem] theorem ac2 : Gw H .sl false (some (.t (.sl []))) (some .nil) = some (.ub, H) := (rfl)
theorem A7(es:List T)(h:es≠[]):Gw H .sl false (some (.t (.sl es))) (some .nil)=some (.t (.bool false),H):=by cases es<;>first | exact(h rfl).elim | rfl
def aju(a:D):Option (D×aq):=(ae6 a).map fun d=>(d,H)
@[go_sem] theorem akl (x : X) : evO call get H (.nc x) = (get x).bind (aju H) := (rfl)
@[go_sem] theorem ahk (id off : Nat) : aju H (.bp id off) = some (.bp id off, H) := (rfl)
def aaq(off:Nat)(a:D):Option (D×aq):=(LH a off).map fun d=>(d,H)
@[go_sem] theorem akm (x : X) (off : Nat) : evO call get H (.fa x off) = (get x).bind (aaq H off) := (rfl)
@[go_sem] theorem ahl (id o off : Nat) : aaq H off (.bp id o) = some (.bp id (o + off), H) := (rfl)
@[go_sem] theorem ahn (id ep n i o off : Nat) : aaq H off (.ap id ep n i o) = some (.ap id ep n i (o + off), H) := (rfl)
@[go_sem] theorem aho (cs : List T) (off : Nat) : aaq H off (.ep cs) = some (.ep (cs.drop off), H) := (rfl)
@[go_sem] theorem akn (cs : List D) : cut cs 0 0 = some [] := by simp [cut]
@[go_sem] theorem ako (c : D) (cs : List D) (n : Nat) : cut (c :: cs) 0 (n + 1) = mU c (cut cs 0 n) := by
 simp only[cut,mU];by_cases h:n≤cs.length<;>simp[h]
@[go_sem] theorem akp (c : D) (cs : List D) (off n : Nat) : cut (c :: cs) (off + 1) n = cut cs off n := by
 simp only[cut,List.length_cons,List.drop_succ_cons]
 by_cases h:off+n≤cs.length
 · rw[if_pos h,if_pos (by omega)]
 · rw[if_neg h,if_neg (by omega)]
def mkA(cs:List D):Option (List T)→D
 | some ts=> .t (.agg ts)
 | none=> .agg cs
@[go_sem] theorem afz (cs : List D) (ts : List T) : mkA cs (some ts) = .t (.agg ts) := (rfl)
@[go_sem] theorem afA (cs : List D) : mkA cs none = .agg cs := (rfl)
@[go_sem] theorem afB (cs : List D) : wF cs = mkA cs (sU cs) := by unfold wF; cases sU cs <;> rfl
@[go_sem] theorem afC : sU [] = some [] := (rfl)
@[go_sem] theorem ajv (x : T) (r : List D) : sU (.t x :: r) = mU x (sU r) := (rfl)
@[go_sem] theorem ajw (r : List D) : sU (.nil :: r) = none := (rfl)
@[go_sem] theorem afD (a b c : Nat) (r : List D) : sU (.ref a b c :: r) = none := (rfl)
@[go_sem] theorem Ss (l : List T) : sU (l.map .t) = some l := by induction l with | nil => rfl | cons a l ih => simp [sU, ih]
def ahp(off n:Nat)(agg:Bool)(a:D):Option (D×aq):=(Bp a off n agg).map fun d=>(d,H)
@[go_sem] theorem akq (x : X) (off n : Nat) (agg : Bool) : evO call get H (.fl x off n agg) = (get x).bind (ahp H off n agg) := (rfl)
def ofC(agg:Bool)(cs:Option (List D)):Option (D×aq):=(cs.bind (iq agg)).bind (ahh H)
@[go_sem] theorem akr (c : D) : ofC H false (some [c]) = some (c, H) := (rfl)
@[go_sem] theorem aks (cs : List D) : ofC H true (some cs) = some (wF cs, H) := (rfl)
@[go_sem] theorem afE (cs : List D) (off n : Nat) (agg : Bool) : ahp H off n agg (.agg cs) = ofC H agg (cut cs off n) := by
 simp only[ahp,Bp,D.isAgg,if_true,D.cells,ofC];cases (cut cs off n).bind (iq agg)<;>rfl
theorem WX{i:Int}(h:0≤i):idx i=some i.toNat:=by simp[idx,h]
def WY(sz:Nat)(x i:Option D):Option (D×aq):=x.bind fun a=>(i.bind intOf).bind fun n=>(Eb H a n sz).map fun d=>(d,H)
@[go_sem] theorem akt (x i : X) (sz : Nat) : evO call get H (.ia x i sz) = WY H sz (get x) (get i) := (rfl)
def UH(sz:Nat)(e:T):Option (D×aq):=if e.cells.length=sz then some (.ep e.cells,H)else none
def ahq(sz:Nat)(es:List T)(j:Nat):Option (D×aq):=es[j]?.bind (UH H sz)
@[go_sem] theorem ahr (sz : Nat) (es : List T) (j : Nat) : ahq H sz es j = es[j]?.bind (UH H sz) := (rfl)
@[go_sem] theorem ahs (k : IntKind) (es : List T) (n : Int) (sz : Nat) : WY H sz (some (.t (.sl es))) (some (.t (.int k n))) = (idx n).bind (ahq H sz es) := by
 simp only[WY,aLq,intOf,Eb]
 cases idx n with
 | none=>rfl
 | some j=>
   simp only[aLq,ahq]
   cases es[j]? with
   | none=>rfl
   | some e=>simp only[aLq,UH];split<;>rfl
@[go_sem] theorem afF (k : IntKind) (n : Int) : UH H 1 (.int k n) = some (.ep [.int k n], H) := (rfl)
@[go_sem] theorem aht (es : List T) : UH H 1 (.sl es) = some (.ep [.sl es], H) := (rfl)
def pZ{α:Type}:Nat→List α→Bool
 | 0,[]=>true
 | n+1,_::r=>pZ n r
 | _,_=>false
@[go_sem] theorem ahu {α : Type} : pZ 0 ([] : List α) = true := (rfl)
@[go_sem] theorem ahv {α : Type} (n : Nat) (a : α) (l : List α) : pZ (n + 1) (a :: l) = pZ n l := (rfl)
theorem gY{α:Type}:∀ {n:Nat} {l:List α},pZ n l=true↔l.length=n
 | 0,[]=>by simp[pZ]
 | 0,_::_=>by simp[pZ]
 | n+1,[]=>by simp[pZ]
 | n+1,_::r=>by simp only[pZ,List.length_cons,Nat.add_right_cancel_iff];exact gY
@[go_sem] theorem afG (cs : List T) (sz : Nat) : UH H sz (.agg cs) = if pZ sz cs = true then some (.ep cs, H) else none := by
 by_cases h:cs.length=sz
 · rw[UH,if_pos (show(T.agg cs).cells.length=sz from h),if_pos (gY.2 h)];rfl
 · rw[UH,if_neg (show ¬(T.agg cs).cells.length=sz from h),if_neg fun e=>h (gY.1 e)]
def WZ(sz id ep n j:Nat):Option Obj→Option (D×aq)
 | some (.arr sz' _ ep' es)=>if ep=ep'∧n=es.length then(if j<n∧sz'=sz then some (.ap id ep n j 0,H)else none)else none
 | _=>none
@[go_sem] theorem afH (k : IntKind) (id ep n : Nat) (i : Int) (sz : Nat) : WY H sz (some (.ref id ep n)) (some (.t (.int k i))) = (idx i).bind fun j => WZ H sz id ep n j H[id]? := by
 simp only[WY,aLq,intOf,Eb]
 cases idx i with
 | none=>rfl
 | some j=>
   simp only[aLq,iQ]
   generalize H[id]?=o
   rcases o with _ | (_ | ⟨sz',pin,ep',es⟩)
   · rfl
   · rfl
   · simp only[WZ]
     by_cases h:ep=ep'∧n=es.length
     · rw[if_pos h,if_pos h,aLq];split<;>rfl
     · rw[if_neg h,if_neg h];rfl
@[go_sem] theorem ac3 (sz id ep n j sz' : Nat) (pin : Bool) (ep' : Nat) (es : List D) : WZ H sz id ep n j (some (.arr sz' pin ep' es)) =
 if ep=ep'∧n=es.length then(if j<n∧sz'=sz then some (.ap id ep n j 0,H)else none)else none:=(rfl)
def W4(sz id ep n lo hi j:Nat):Option Obj→Option (D×aq)
 | some (.arr sz' _ ep' es)=>if ep=ep'∧n=es.length then(if lo+j<hi∧hi≤n∧sz'=sz then some (.ap id ep n (lo+j) 0,H)else none)else none
 | _=>none
@[go_sem] theorem afI (k : IntKind) (id ep n lo hi : Nat) (i : Int) (sz : Nat) : WY H sz (some (.sub id ep n lo hi)) (some (.t (.int k i))) = (idx i).bind fun j => W4 H sz id ep n lo hi j H[id]? := by
 simp only[WY,aLq,intOf,Eb]
 cases idx i with
 | none=>rfl
 | some j=>
   simp only[aLq,iQ]
   generalize H[id]?=o
   rcases o with _ | (_ | ⟨sz',pin,ep',es⟩)
   · rfl
   · rfl
   · simp only[W4]
     by_cases h:ep=ep'∧n=es.length
     · rw[if_pos h,if_pos h,aLq];split<;>rfl
     · rw[if_neg h,if_neg h];rfl
@[go_sem] theorem ac4 (sz id ep n lo hi j sz' : Nat) (pin : Bool) (ep' : Nat) (es : List D) : W4 H sz id ep n lo hi j (some (.arr sz' pin ep' es)) =
 if ep=ep'∧n=es.length then(if lo+j<hi∧hi≤n∧sz'=sz then some (.ap id ep n (lo+j) 0,H)else none)else none:=(rfl)
def ahw(len sz:Nat)(agg:Bool)(x i:Option D):Option (D×aq):=x.bind fun a=>(i.bind intOf).bind fun n=>(idx n).bind fun j=>(FR a j len sz agg).map fun d=>(d,H)
def ahx(len sz:Nat)(agg:Bool)(a:D)(j:Nat):Option (D×aq):=(FR a j len sz agg).map fun d=>(d,H)
@[go_sem] theorem aku (x i : X) (len sz : Nat) (agg : Bool) : evO call get H (.ix x i len sz agg) = ahw H len sz agg (get x) (get i) := (rfl)
@[go_sem] theorem ahy (len sz : Nat) (agg : Bool) (a : D) (k : IntKind) (n : Int) : ahw H len sz agg (some a) (some (.t (.int k n))) = (idx n).bind (ahx H len sz agg a) := by
 simp only[ahw,aLq,intOf];cases idx n<;>rfl
def W5(len sz:Nat)(x i:Option D):Option (D×aq):=x.bind fun a=>(i.bind intOf).bind fun n=>(idx n).bind fun j=>if j<len then(LH a (j*sz)).map fun d=>(d,H)else none
@[go_sem] theorem ajx (x i : X) (len sz : Nat) : evO call get H (.iaa x i len sz) = W5 H len sz (get x) (get i) := (rfl)
def ajy(len sz:Nat)(a:D)(j:Nat):Option (D×aq):=if j<len then aaq H (j*sz) a else none
@[go_sem] theorem ahz (len sz : Nat) (a : D) (j : Nat) : ajy H len sz a j = if j < len then aaq H (j * sz) a else none := (rfl)
@[go_sem] theorem afJ (len sz : Nat) (a : D) (k : IntKind) (n : Int) : W5 H len sz (some a) (some (.t (.int k n))) = (idx n).bind (ajy H len sz a) := by
 simp only[W5,aLq,intOf];cases idx n<;>rfl
def Rw(n:Nat)(agg:Bool)(a:D):Option (D×aq):=(y4 H a n agg).map fun d=>(d,H)
@[go_sem] theorem akv (x : X) (n : Nat) (agg : Bool) : evO call get H (.ld x n agg) = (get x).bind (Rw H n agg) := (rfl)
def Su(off n:Nat)(agg:Bool):Option Obj→Option (D×aq)
 | some (.box cs)=>ofC H agg (cut cs off n)
 | _=>none
@[go_sem] theorem afK (off n : Nat) (agg : Bool) (cs : List D) : Su H off n agg (some (.box cs)) = ofC H agg (cut cs off n) := (rfl)
@[go_sem] theorem ahA (id off n : Nat) (agg : Bool) : Rw H n agg (.bp id off) = Su H off n agg H[id]? := by
 simp only[Rw,y4]
 generalize H[id]?=o
 rcases o with _ | (cs | _)
 · rfl
 · simp only[Su,ofC];cases (cut cs off n).bind (iq agg)<;>rfl
 · rfl
@[go_sem] theorem ahB (cs : List T) (n : Nat) (agg : Bool) : Rw H n agg (.ep cs) = ofC H agg (cut (cs.map .t) 0 n) := by
 simp only[Rw,y4,ofC];cases (cut _ 0 n).bind (iq agg)<;>rfl
def afL(off n:Nat)(agg:Bool)(e:D):Option (D×aq):=ofC H agg (cut e.cells off n)
@[go_sem] theorem ahC (off n : Nat) (agg : Bool) (e : D) : afL H off n agg e = ofC H agg (cut e.cells off n) := (rfl)
def W6(ep m i off n:Nat)(agg:Bool):Option Obj→Option (D×aq)
 | some (.arr _ _ ep' es)=>if ep=ep'∧m=es.length then es[i]?.bind (afL H off n agg)else none
 | _=>none
@[go_sem] theorem afM (ep m i off n : Nat) (agg : Bool) (sz : Nat) (pin : Bool) (ep' : Nat) (es : List D) :
 W6 H ep m i off n agg (some (.arr sz pin ep' es))=if ep=ep'∧m=es.length then es[i]?.bind (afL H off n agg)else none:=(rfl)
@[go_sem] theorem ahD (id ep m i off n : Nat) (agg : Bool) : Rw H n agg (.ap id ep m i off) = W6 H ep m i off n agg H[id]? := by
 simp only[Rw,y4,iQ]
 generalize H[id]?=o
 rcases o with _ | (_ | ⟨sz',pin,ep',es⟩)
 · rfl
 · rfl
 · simp only[W6]
   by_cases h:ep=ep'∧m=es.length
   · rw[if_pos h,if_pos h,aLq]
     cases es[i]? with
     | none=>rfl
     | some e=>simp only[aLq,afL,ofC];cases (cut e.cells off n).bind (iq agg)<;>rfl
   · rw[if_neg h,if_neg h];rfl
@[go_sem] theorem aar (cs : List D) : (D.agg cs).cells = cs := (rfl)
@[go_sem] theorem afN (x : T) : (D.t x).cells = x.cells.map .t := (rfl)
@[go_sem] theorem aas : D.nil.cells = [.nil] := (rfl)
@[go_sem] theorem aat (a b c : Nat) : (D.ref a b c).cells = [.ref a b c] := (rfl)
@[go_sem] theorem ac5 (f : Nat) (cs : List D) : (D.fn f cs).cells = [.fn f cs] := (rfl)
@[go_sem] theorem aau (cs : List T) : (T.agg cs).cells = cs := (rfl)
@[go_sem] theorem aav (k : IntKind) (n : Int) : (T.int k n).cells = [.int k n] := (rfl)
@[go_sem] theorem W7 (b : Bool) : (T.bool b).cells = [.bool b] := (rfl)
@[go_sem] theorem ac6 (es : List T) : (T.sl es).cells = [.sl es] := (rfl)
def fits(n:Nat)(v:D):Bool:=decide (v.cells.length=n)&&v.j6
section
variable (n : Nat)
@[go_sem] theorem fits_int (k : IntKind) (a : Int) : fits 1 (.t (.int k a)) = true := (rfl)
@[go_sem] theorem fits_bool (b : Bool) : fits 1 (.t (.bool b)) = true := (rfl)
@[go_sem] theorem ahE (es : List T) : fits 1 (.t (.sl es)) = true := (rfl)
@[go_sem] theorem afO : fits 1 .nil = true := (rfl)
@[go_sem] theorem afP (a b c : Nat) : fits 1 (.ref a b c) = true := (rfl)
@[go_sem] theorem ahF (f : Nat) (cs : List D) : fits 1 (.fn f cs) = true := (rfl)
@[go_sem] theorem afQ (cs : List D) : fits n (.agg cs) = pZ n cs := by rw [Bool.eq_iff_iff, gY]; show (decide (cs.length = n) && true) = true ↔ _; simp
@[go_sem] theorem ac7 (cs : List T) : fits n (.t (.agg cs)) = pZ n cs := by rw [Bool.eq_iff_iff, gY]; simp [fits, D.cells, T.cells, D.j6]
end
@[go_sem] theorem W8 {α : Type} (cs : List α) : bq cs 0 [] = some cs := by simp [bq]
@[go_sem] theorem W9 {α : Type} (c x : α) (cs xs : List α) : bq (c :: cs) 0 (x :: xs) = mU x (bq cs 0 xs) := by
 simp only[bq,mU];by_cases h:xs.length≤cs.length<;>simp[h]
@[go_sem] theorem Xa {α : Type} (c : α) (cs : List α) (off : Nat) (xs : List α) : bq (c :: cs) (off + 1) xs = mU c (bq cs off xs) := by
 simp only[bq,mU,List.length_cons]
 by_cases h:off+xs.length≤cs.length
 · rw[if_pos h,if_pos (by omega)];simp[show off+1+xs.length=(off+xs.length)+1 by omega]
 · rw[if_neg h,if_neg (by omega)];rfl
def Xb(n:Nat)(live:List (Nat×Nat))(a x:Option D):Option (D×aq):=a.bind fun p=>x.bind fun d=>(zQ H p d n).bind fun H'=>(rv H' p live).map fun H''=>(.tup [],H'')
@[go_sem] theorem akw (a x : X) (n : Nat) (live : List (Nat × Nat)) : evO call get H (.st a x n live) = Xb H n live (get a) (get x) := (rfl)
def DG(H:aq)(id:Nat)(live:List (Nat×Nat)):Option (D×aq):=(rv H (.bp id 0) live).map fun H'=>(.tup [],H')
def DH(id:Nat)(live:List (Nat×Nat))(cs:List D):Option (D×aq):=DG (H.set id (.box cs)) id live
@[go_sem] theorem ac8 (id : Nat) (live : List (Nat × Nat)) (cs : List D) : DH H id live cs = DG (H.set id (.box cs)) id live := (rfl)
@[go_sem] theorem aaw (H : aq) (id : Nat) : DG H id [] = some (.tup [], H) := (rfl)
def Xc(id off:Nat)(live:List (Nat×Nat))(xs:List D):Option Obj→Option (D×aq)
 | some (.box cs)=>(bq cs off xs).bind (DH H id live)
 | _=>none
@[go_sem] theorem afR (id off : Nat) (live : List (Nat × Nat)) (xs cs : List D) : Xc H id off live xs (some (.box cs)) = (bq cs off xs).bind (DH H id live) := (rfl)
@[go_sem] theorem ahG (n id off : Nat) (live : List (Nat × Nat)) (v : D) : Xb H n live (some (.bp id off)) (some v) = if fits n v = true then Xc H id off live v.cells H[id]? else none := by
 by_cases h:fits n v=true
 case neg=>
  rw[if_neg h]
  simp only[fits,aLr,decide_eq_true_eq]at h
  simp only[Xb,aLq,zQ,if_neg h];rfl
 rw[if_pos h]
 simp only[fits,aLr,decide_eq_true_eq]at h
 simp only[Xb,aLq,zQ,h.1,h.2,and_self,if_true]
 generalize H[id]?=o
 rcases o with _ | (cs | _)
 · rfl
 · simp only[Xc]
   cases bq cs off v.cells with
   | none=>rfl
   | some cs'=>simp only[aLw,aLq,DH,DG,rv]
 · rfl
def LZ(id sz ep i:Nat)(es:List D)(agg:Bool)(cs:List D):Option (D×aq):=(iq agg cs).bind fun e=>if e.j6 then some (.tup [],H.set id (.arr sz false ep (es.set i e)))else none
def afS(id sz ep i off:Nat)(es xs:List D)(e:D):Option (D×aq):=(bq e.cells off xs).bind (LZ H id sz ep i es e.isAgg)
@[go_sem] theorem ahH (id sz ep i off : Nat) (es xs : List D) (e : D) : afS H id sz ep i off es xs e = (bq e.cells off xs).bind (LZ H id sz ep i es e.isAgg) := (rfl)
@[go_sem] theorem aax (cs : List T) : (D.t (.agg cs)).isAgg = true := (rfl)
@[go_sem] theorem ac9 (k : IntKind) (n : Int) : (D.t (.int k n)).isAgg = false := (rfl)
@[go_sem] theorem aay (b : Bool) : (D.t (.bool b)).isAgg = false := (rfl)
@[go_sem] theorem ahI (id sz ep i : Nat) (es : List D) (x : T) : LZ H id sz ep i es false [.t x] = some (.tup [], H.set id (.arr sz false ep (es.set i (.t x)))) := (rfl)
theorem IL(cs:List D):(wF cs).j6=true:=by unfold wF;cases sU cs<;>rfl
@[go_sem] theorem ahJ (id sz ep i : Nat) (es cs : List D) : LZ H id sz ep i es true cs = some (.tup [], H.set id (.arr sz false ep (es.set i (wF cs)))) := by
 simp[LZ,iq,IL]
def Xd(id ep m i off:Nat)(xs:List D):Option Obj→Option (D×aq)
 | some (.arr sz pin ep' es)=>if ep=ep'∧m=es.length then(if pin then none else es[i]?.bind (afS H id sz ep i off es xs))else none
 | _=>none
@[go_sem] theorem afT (id ep m i off : Nat) (xs : List D) (sz : Nat) (pin : Bool) (ep' : Nat) (es : List D) :
 Xd H id ep m i off xs (some (.arr sz pin ep' es))=if ep=ep'∧m=es.length then(if pin=true then none else es[i]?.bind (afS H id sz ep i off es xs))else none:=(rfl)
@[go_sem] theorem ahK (n id ep m i off : Nat) (v : D) : Xb H n [] (some (.ap id ep m i off)) (some v) = if fits n v = true then Xd H id ep m i off v.cells H[id]? else none := by
 by_cases h:fits n v=true
 case neg=>
  rw[if_neg h]
  simp only[fits,aLr,decide_eq_true_eq]at h
  simp only[Xb,aLq,zQ,if_neg h];rfl
 rw[if_pos h]
 simp only[fits,aLr,decide_eq_true_eq]at h
 simp only[Xb,aLq,zQ,h.1,h.2,and_self,if_true,iQ]
 generalize H[id]?=o
 rcases o with _ | (_ | ⟨sz',pin,ep',es⟩)
 · rfl
 · rfl
 · simp only[Xd]
   by_cases h:ep=ep'∧m=es.length
   · rw[if_pos h,if_pos h,aLq]
     cases pin with
     | true=>rfl
     | false=>
       simp only[aLt,if_false]
       cases es[i]? with
       | none=>rfl
       | some e=>
         simp only[aLq,afS]
         cases bq e.cells off v.cells with
         | none=>rfl
         | some cs'=>
           simp only[aLq,LZ]
           cases iq e.isAgg cs' with
           | none=>rfl
           | some e'=>
             simp only[aLq]
             by_cases h3:e'.j6=true
             · rw[if_pos h3,if_pos h3,h.1];rfl
             · rw[if_neg h3,if_neg h3];rfl
   · rw[if_neg h,if_neg h];rfl
def Xe(zero:List D)(ps:List (Nat×Nat×D)):Option (D×aq):=(xF zero ps).map fun cs=>(wF cs,H)
@[go_sem] theorem akx (zero : List D) (parts : List (Nat × Nat × X)) : evO call get H (.bd zero parts) = (om get parts).bind (Xe H zero) := (rfl)
@[go_sem] theorem UI : om get [] = some [] := (rfl)
def ada(off n:Nat)(r:List (Nat×Nat×X))(d:D):Option (List (Nat×Nat×D)):=mU (off,n,d) (om get r)
@[go_sem] theorem afU (off n : Nat) (r : List (Nat × Nat × X)) (d : D) : ada get off n r d = mU (off, n, d) (om get r) := (rfl)
@[go_sem] theorem Sv (off n : Nat) (x : X) (r : List (Nat × Nat × X)) : om get ((off, n, x) :: r) = (get x).bind (ada get off n r) := (rfl)
@[go_sem] theorem afV (zero : List D) : Xe H zero [] = some (wF zero, H) := (rfl)
def bdC(r:List (Nat×Nat×D))(z:List D):Option (D×aq):=Xe H z r
@[go_sem] theorem ajz (r : List (Nat × Nat × D)) (z : List D) : bdC H r z = Xe H z r := (rfl)
@[go_sem] theorem adb (zero : List D) (off n : Nat) (x : D) (r : List (Nat × Nat × D)) : Xe H zero ((off, n, x) :: r) = if fits n x = true then (bq zero off x.cells).bind (bdC H r) else none := by
 by_cases h:fits n x=true
 case neg=>
  rw[if_neg h]
  have h2:(x.j6&&x.cells.length==n)=false:=by rw[← Bool.not_eq_true,Bool.and_comm];simpa [fits]using h
  simp only[Xe,xF,h2];rfl
 rw[if_pos h]
 simp only[fits,aLr,decide_eq_true_eq]at h
 simp only[Xe,xF,h.1,h.2,beq_self_eq_true,Bool.and_self,if_true]
 cases bq zero off x.cells<;>rfl
def fm(n:Nat):List T→Bool
 | []=>true
 | x::r=>pZ n x.cells&&fm n r
@[go_sem] theorem UJ (n : Nat) : fm n [] = true := (rfl)
@[go_sem] theorem x9 (n : Nat) (x : T) (r : List T) : fm n (x :: r) = (pZ n x.cells && fm n r) := (rfl)
def Nu(sz:Nat)(ds:List D):Option (D×aq):=if ds.all (fun d=>d.cells.length==sz)then(cg (frz H depth) ds).map fun ts=>(.t (.sl ts),pins H (ds.flatMap (gI H depth)))else none
@[go_sem] theorem aky (xs : List X) (sz : Nat) : evO call get H (.bs xs sz) = (cg get xs).bind (Nu H sz) := (rfl)
theorem ade(sz:Nat)(ds:List D)(ts:List T)(h:sU ds=some ts)(hc:fm sz ts=true):Nu H sz ds=some (.t (.sl ts),H):=by
 have key:∀(ds:List D) (ts:List T),sU ds=some ts→fm sz ts=true→ds.all (fun d=>d.cells.length==sz)=true∧cg (frz H depth) ds=some ts∧ds.flatMap (gI H depth)=[]:=by
  intro ds
  induction ds with
  | nil=>intro ts h hc;simp[sU]at h;subst h;simp[cg]
  | cons d ds ih=>
    intro ts h hc
    cases d with
    | t x=>
      simp only[sU,aLb]at h
      obtain⟨r,hr,rfl⟩:=h
      simp only[fm,aLr,gY]at hc
      obtain⟨h1,h2,h3⟩:=ih r hr hc.2
      refine⟨by rw[List.all_cons,h1,Bool.and_true];simp[D.cells,hc.1],by simp[cg,frz,h2],by rw[List.flatMap_cons,h3];simp[gI]⟩
    | _=>simp[sU]at h
 obtain⟨h1,h2,h3⟩:=key ds ts h hc
 simp[Nu,h1,h2,h3,pins]
theorem B2(sz:Nat)(ts:List T):Nu H sz (ts.map D.t)=if fm sz ts=true then some (.t (.sl ts),H)else none:=by
 by_cases h:fm sz ts=true
 · rw[if_pos h];exact ade H sz _ ts (Ss ts) h
 · rw[if_neg h]
   have:(ts.map D.t).all (fun d=>d.cells.length==sz)=false:=by
    rw[← Bool.not_eq_true];intro ha;apply h
    clear h
    induction ts with
    | nil=>rfl
    | cons a r ih=>
      simp only[List.map_cons,List.all_cons,aLr,beq_iff_eq]at ha
      simp only[fm,aLr,gY]
      exact⟨by simpa [D.cells]using ha.1,ih ha.2⟩
   simp only[Nu,this];rfl
@[go_sem] theorem ajA (sz : Nat) (a : T) : Nu H sz [.t a] = if fm sz [a] = true then some (.t (.sl [a]), H) else none := B2 H sz [a]
@[go_sem] theorem ajB (sz : Nat) (a b : T) : Nu H sz [.t a, .t b] = if fm sz [a, b] = true then some (.t (.sl [a, b]), H) else none := B2 H sz [a, b]
@[go_sem] theorem ajC (sz : Nat) (a b c : T) : Nu H sz [.t a, .t b, .t c] = if fm sz [a, b, c] = true then some (.t (.sl [a, b, c]), H) else none := B2 H sz [a, b, c]
@[go_sem] theorem ajD (sz : Nat) (a b c d : T) : Nu H sz [.t a, .t b, .t c, .t d] = if fm sz [a, b, c, d] = true then some (.t (.sl [a, b, c, d]), H) else none := B2 H sz [a, b, c, d]
@[go_sem] theorem ajE (sz : Nat) (a b c d e : T) : Nu H sz [.t a, .t b, .t c, .t d, .t e] = if fm sz [a, b, c, d, e] = true then some (.t (.sl [a, b, c, d, e]), H) else none := B2 H sz [a, b, c, d, e]
def adf(a:D):Option (D×aq):=(ae3 a).map fun(n:Nat)=>(D.t (.int .i64 (n:Int)),H)
@[go_sem] theorem akz (x : X) : evO call get H (.ln x) = (get x).bind (adf H) := (rfl)
@[go_sem] theorem ahL (es : List T) : adf H (.t (.sl es)) = some (I es.length, H) := (rfl)
@[go_sem] theorem afW : adf H .nil = some (I 0, H) := (rfl)
@[go_sem] theorem afX (id ep n : Nat) : adf H (.ref id ep n) = some (I n, H) := (rfl)
@[go_sem] theorem afY (id ep n lo hi : Nat) : adf H (.sub id ep n lo hi) = some (I ((hi - lo : Nat) : Int), H) := (rfl)
def ahM(ds:List D):Option (D×aq):=(ae4 ds).map fun d=>(d,H)
def ahN(ds:List D):Option (D×aq):=(ae5 ds).map fun d=>(d,H)
@[go_sem] theorem akA (xs : List X) : evO call get H (.mn xs) = (cg get xs).bind (ahM H) := (rfl)
@[go_sem] theorem akB (xs : List X) : evO call get H (.mx xs) = (cg get xs).bind (ahN H) := (rfl)
@[go_sem] theorem ajF (k : IntKind) (a b : Int) : ahM H [.t (.int k a), .t (.int k b)] = some (.t (.int k (min a b)), H) := by
 simp only[ahM,ae4,FQ,if_true,aLw];congr 4;omega
@[go_sem] theorem ajG (k : IntKind) (a b : Int) : ahN H [.t (.int k a), .t (.int k b)] = some (.t (.int k (max a b)), H) := by
 simp only[ahN,ae5,FQ,if_true,aLw];congr 4;omega
def L3(sz:Nat)(x:Option D)(lo hi:Option (Option Int)):Option (D×aq):=x.bind fun a=>lo.bind fun l=>hi.bind fun h=>(sV H a l h sz).map fun d=>(d,H)
@[go_sem] theorem akC (x : X) (lo hi : Option X) (sz : Nat) : evO call get H (.sc x lo hi sz) = L3 H sz (get x) (LI get lo) (LI get hi) := (rfl)
def adg:D→Option (Option Int)
 | .t (.int _ n)=>some (some n)
 | _=>none
@[go_sem] theorem afZ (k : IntKind) (n : Int) : adg (.t (.int k n)) = some (some n) := (rfl)
@[go_sem] theorem adh : LI get none = some none := (rfl)
@[go_sem] theorem adi (x : X) : LI get (some x) = (get x).bind adg := by
 simp only[LI];cases get x with
 | none=>rfl
 | some d=>cases d with
   | t y=>cases y<;>rfl
   | _=>rfl
def ahO(i:Nat)(a:D):Option (D×aq):=(acb i a).map fun d=>(d,H)
@[go_sem] theorem akD (x : X) (i : Nat) : evO call get H (.ex x i) = (get x).bind (ahO H i) := (rfl)
def exO:Option D→Option (D×aq)
 | some d=>some (d,H)
 | none=>none
@[go_sem] theorem af1 (d : D) : exO H (some d) = some (d, H) := (rfl)
@[go_sem] theorem af2 (i : Nat) (ds : List D) : ahO H i (.tup ds) = exO H ds[i]? := by simp only [ahO, acb, exO]; cases ds[i]? <;> rfl
def ahP(f:Nat)(ds:List D):Option (D×aq):=some (.fn f ds,H)
@[go_sem] theorem ahQ (f : Nat) (ds : List D) : ahP H f ds = some (.fn f ds, H) := (rfl)
@[go_sem] theorem akE (f : Nat) (caps : List X) : evO call get H (.mf f caps) = (cg get caps).bind (ahP H f) := by simp only [evO, ahP]; cases cg get caps <;> rfl
@[go_sem] theorem akF (sz : Nat) : evO call get H (.nw sz) = some (.ref H.length 0 0, H ++ [.arr sz false 0 []]) := (rfl)
def alP(p:List D×aq):Option (D×aq):=some (.bp H.length 0,H++ .box p.1::p.2)
@[go_sem] theorem ajH (cs : List D) (os : aq) : alP H (cs, os) = some (.bp H.length 0, H ++ .box cs :: os) := (rfl)
@[go_sem] theorem akG (zero : List D) (live : List (Nat × Nat)) : evO call get H (.al zero live) = alP H (cM (H.length + 1) zero live) := (rfl)
@[go_sem] theorem Xf (base : Nat) (cs : List D) : cM base cs [] = (cs, []) := (rfl)
def ahR(n:Nat)(a:D):Option (D×aq):=if a.cells.length=n∧a.j6 then some (.bp H.length 0,H++[.box a.cells])else none
@[go_sem] theorem akH (x : X) (n : Nat) : evO call get H (.bx x n) = (get x).bind (ahR H n) := (rfl)
@[go_sem] theorem ahS (n : Nat) (a : D) : ahR H n a = if fits n a = true then some (.bp H.length 0, H ++ [.box a.cells]) else none := by
 simp[ahR,fits]
def af3(sz:Nat)(zero:D)(n:Option Nat):Option (D×aq):=n.bind fun m=>if m≤lim then some (.ref H.length 0 m,H++[.arr sz false 0 (List.replicate m zero)])else none
def mkN(sz:Nat)(zero:D):D→Option (D×aq)
 | .t (.int _ n)=>af3 H sz zero (idx n)
 | _=>none
@[go_sem] theorem ahT (sz : Nat) (zero : D) (k : IntKind) (n : Int) : mkN H sz zero (.t (.int k n)) = af3 H sz zero (idx n) := (rfl)
@[go_sem] theorem akI (len : X) (zero : D) (sz : Nat) : evO call get H (.mk len zero sz) = (get len).bind (mkN H sz zero) := by
 simp only[evO];cases get len with
 | none=>rfl
 | some d=>cases d with
   | t y=>cases y<;>rfl
   | _=>rfl
@[go_sem] theorem ahU (sz : Nat) (zero : D) (m : Nat) (h : m ≤ 4294967296) : af3 H sz zero (some m) = some (.ref H.length 0 m, H ++ [.arr sz false 0 (List.replicate m zero)]) := by
 simp[af3,lim,h]
def Sw(sz:Nat)(zero:T)(n:Option Nat):Option (D×aq):=n.bind fun m=>if m≤lim∧0<m then some (.ref H.length 0 m,H++[.arr sz false 0 (List.replicate m (.t zero))])else none
def ajI(sz:Nat)(zero:T):D→Option (D×aq)
 | .t (.int _ n)=>Sw H sz zero (idx n)
 | _=>none
@[go_sem] theorem af4 (sz : Nat) (zero : T) (k : IntKind) (n : Int) : ajI H sz zero (.t (.int k n)) = Sw H sz zero (idx n) := (rfl)
@[go_sem] theorem ajJ (len : X) (zero : T) (sz : Nat) : evO call get H (.mkn len zero sz) = (get len).bind (ajI H sz zero) := by
 simp only[evO];cases get len with
 | none=>rfl
 | some d=>cases d with
   | t y=>cases y<;>rfl
   | _=>rfl
@[go_sem] theorem af5 (sz : Nat) (zero : T) (m : Nat) (h : m ≤ 4294967296) (h0 : 0 < m) : Sw H sz zero (some m) = some (.ref H.length 0 m, H ++ [.arr sz false 0 (List.replicate m (.t zero))]) := by
 simp[Sw,lim,h,h0]
def tM(sz:Nat)(fz:Bool)(x y:Option D):Option (D×aq):=x.bind fun a=>y.bind fun b=>pY H a b fz sz
@[go_sem] theorem ajK (x y : X) (fz : Bool) (sz : Nat) : evO call get H (.app x y fz sz) = tM H sz fz (get x) (get y) := (rfl)
def Af(sz id ep n:Nat)(ys:List D):Option Obj→Option (D×aq)
 | some (.arr sz' pin ep' es)=>if ep=ep'∧n=es.length∧sz'=sz∧n+ys.length≤lim then some (.ref id ep (n+ys.length),H.set id (.arr sz pin ep (es++ys)))else none
 | _=>none
@[go_sem] theorem adj (sz id ep n : Nat) (ys : List D) (pin : Bool) (es : List D) :
 Af H sz id ep n ys (some (.arr sz pin ep es))=if n=es.length then(if n+ys.length≤4294967296 then some (.ref id ep (n+ys.length),H.set id (.arr sz pin ep (es++ys)))else none)else none:=by
 simp only[Af,lim]
 by_cases h1:n=es.length
 · rw[if_pos h1]
   by_cases h2:n+ys.length≤4294967296
   · rw[if_pos h2,if_pos ⟨trivial,h1,trivial,h2⟩]
   · rw[if_neg h2,if_neg fun h=>h2 h.2.2.2]
 · rw[if_neg h1,if_neg fun h=>h1 h.2.1]
theorem A8(ts:List T):cg (fun d=>(frz H depth d).map D.t) (ts.map D.t)=some (ts.map D.t):=by
 induction ts with
 | nil=>rfl
 | cons t ts ih=>simp[cg,frz,ih]
theorem OE(ts:List T):(ts.map D.t).flatMap (gI H depth)=[]:=by
 induction ts with
 | nil=>rfl
 | cons t ts ih=>rw[List.map_cons,List.flatMap_cons,ih];simp[gI,depth]
theorem Gx(sz:Nat)(fz:Bool)(x:D)(ts:List T)(h:fk sz (ts.map D.t)=false):tM H sz fz (some x) (some (.t (.sl ts)))=none:=by
 have e1:(if fz then cg (fun d=>(frz H depth d).map D.t) (ts.map D.t)else some (ts.map D.t))=some (ts.map D.t):=by
  cases fz<;>simp[A8]
 simp only[tM,aLq,pY,elems,e1,h,aLt,if_false]
def wT(sz:Nat)(ts:List T):Bool:=fk sz (ts.map D.t)
theorem OF(sz id ep n:Nat)(fz:Bool)(ts:List T)(h:wT sz ts=true):tM H sz fz (some (.ref id ep n)) (some (.t (.sl ts)))=Af H sz id ep n (ts.map .t) H[id]?:=by
 have e1:(if fz then cg (fun d=>(frz H depth d).map D.t) (ts.map D.t)else some (ts.map D.t))=some (ts.map D.t):=by
  cases fz<;>simp[A8]
 have e2:(if fz then pins H ((ts.map D.t).flatMap (gI H depth))else H)=H:=by
  cases fz
  · rfl
  · simp only[if_true];rw[OE];rfl
 unfold wT at h
 simp only[tM,aLq,pY,elems,e1,h,if_true,e2,iQ]
 generalize H[id]?=o
 rcases o with _ | (_ | ⟨sz',pin,ep',es⟩)
 · rfl
 · rfl
 · simp only[Af]
   by_cases h1:ep=ep'∧n=es.length
   · rw[if_pos h1,aLq]
     by_cases h2:sz'=sz∧n+(ts.map D.t).length≤lim
     · rw[if_pos h2,if_pos ⟨h1.1,h1.2,h2⟩]
     · rw[if_neg h2,if_neg fun h=>h2 h.2.2]
   · rw[if_neg h1,if_neg fun h=>h1 ⟨h.1,h.2.1⟩];rfl
@[go_sem] theorem adk (sz id ep n : Nat) (fz : Bool) (ts : List T) : tM H sz fz (some (.ref id ep n)) (some (.t (.sl ts))) = if wT sz ts = true then Af H sz id ep n (ts.map .t) H[id]? else none := by
 by_cases h:wT sz ts=true
 · rw[if_pos h,OF H sz id ep n fz ts h]
 · rw[if_neg h];exact Gx H sz fz _ ts (by simpa [wT]using h)
@[go_sem] theorem adl (sz : Nat) (fz : Bool) (ts : List T) : tM H sz fz (some .nil) (some (.t (.sl ts))) =
 if wT sz ts=true then(if ts.length≤4294967296 then some (.ref H.length 0 ts.length,H++[.arr sz false 0 (ts.map .t)])else none)else none:=by
 by_cases h:wT sz ts=true
 · rw[if_pos h]
   have e1:(if fz then cg (fun d=>(frz H depth d).map D.t) (ts.map D.t)else some (ts.map D.t))=some (ts.map D.t):=by
    cases fz<;>simp[A8]
   have e2:(if fz then pins H ((ts.map D.t).flatMap (gI H depth))else H)=H:=by
    cases fz
    · rfl
    · simp only[if_true];rw[OE];rfl
   unfold wT at h
   simp only[tM,aLq,pY,elems,e1,h,if_true,e2,lim,List.length_map]
 · rw[if_neg h];exact Gx H sz fz _ ts (by simpa [wT]using h)
@[go_sem] theorem adm (sz : Nat) : wT sz [] = true := (rfl)
@[go_sem] theorem aaz (sz : Nat) (x : T) (r : List T) : wT sz (x :: r) = pZ sz x.cells := by
 rw[Bool.eq_iff_iff,gY];simp[wT,fk,D.cells]
@[go_sem] theorem adn (l : List Int) (k : IntKind) : wT 1 (l.map (.int k)) = true := by cases l <;> rfl
def Kp(call:aV)(f raw:Nat)(keep:List Nat)(ds:List D):Option (D×aq):=xH call H f raw keep ds
@[go_sem] theorem akJ (f raw : Nat) (keep : List Nat) (xs : List X) : evO call get H (.ca f raw keep xs) = (cg get xs).bind (Kp H call f raw keep) := (rfl)
def ajL(call:aV)(raw:Nat)(keep:List Nat)(x:Option D)(xs:Option (List D)):Option (D×aq):=x.bind fun
 | .fn f caps=>xs.bind fun ds=>xH call H f raw keep (ds++caps)
 | _=>none
@[go_sem] theorem akK (x : X) (raw : Nat) (keep : List Nat) (xs : List X) : evO call get H (.cw x raw keep xs) = ajL H call raw keep (get x) (cg get xs) := (rfl)
@[go_sem] theorem ahV (raw : Nat) (keep : List Nat) (f : Nat) (caps ds : List D) : ajL H call raw keep (some (.fn f caps)) (some ds) = Kp H call f raw keep (ds ++ caps) := (rfl)
def s7(H:aq):List D→Option (List T)
 | []=>some []
 | .t x::r=>mU x (s7 H r)
 | .nil::r=>mU (.sl []) (s7 H r)
 | _::_=>none
@[go_sem] theorem ahW : s7 H [] = some [] := (rfl)
@[go_sem] theorem ahX (x : T) (r : List D) : s7 H (.t x :: r) = mU x (s7 H r) := (rfl)
@[go_sem] theorem ado (r : List D) : s7 H (.nil :: r) = mU (.sl []) (s7 H r) := (rfl)
@[go_sem] theorem af6 (a b : Nat) (r : List D) : s7 H (.bp a b :: r) = none := (rfl)
@[go_sem] theorem adp (a b c : Nat) (r : List D) : s7 H (.ref a b c :: r) = none := (rfl)
@[go_sem] theorem af7 (f : Nat) (cs : List D) (r : List D) : s7 H (.fn f cs :: r) = none := (rfl)
end
theorem wU(H:aq):∀ {ds:List D} {ts:List T},s7 H ds=some ts→∀i,qE H [] i ds=some (ts.map .t)∧dg H [] i ds=[]
 | [],ts,h,i=>by simp[s7]at h;subst h;exact⟨rfl,rfl⟩
 | d::r,ts,h,i=>by
   cases d with
   | t x=>
     simp only[s7,mU,aLb]at h
     obtain⟨l,hl,rfl⟩:=h
     obtain⟨h1,h2⟩:=wU H hl (i+1)
     exact⟨by simp[qE,xG,h1],by simp[dg,gI,depth,h2]⟩
   | nil=>
     simp only[s7,mU,aLb]at h
     obtain⟨l,hl,rfl⟩:=h
     obtain⟨h1,h2⟩:=wU H hl (i+1)
     exact⟨by simp[qE,xG,h1],by simp[dg,gI,depth,h2]⟩
   | _=>simp[s7]at h
theorem OH(ts:List T)(n:Nat):(ts.map D.t).flatMap (ids n)=[]:=by
 induction ts with
 | nil=>rfl
 | cons t ts ih=>rw[List.map_cons,List.flatMap_cons,ih];simp[ids]
theorem IM(f:Nat→Option Nat)(ts:List T):cg (ren f depth) (ts.map .t)=some (ts.map .t):=by
 induction ts with
 | nil=>rfl
 | cons t ts ih=>simp[cg,ren,depth]at ih ⊢;exact ih
def AM:D→Bool
 | .t _=>true
 | .tup ds=>ds.all fun | .t _=>true | _=>false
 | _=>false
theorem Ey{f:Nat→Option Nat}{d:D}(h:AM d=true):ren f depth d=some d:=by
 cases d with
 | t x=>rfl
 | tup ds=>
   simp only[AM]at h
   have:cg (ren f 7) ds=some ds:=by
    induction ds with
    | nil=>rfl
    | cons d ds ih=>
      simp only[List.all_cons,aLr]at h
      cases d with
      | t x=>simp[cg,ren,ih h.2]
      | _=>simp at h
   simp[ren,depth,this]
 | _=>simp[AM]at h
def zi(H:aq)(p:D×aq):Option (D×aq):=if AM p.1&&p.2.isEmpty then some (p.1,H)else
 (ren (dy [] H.length) depth p.1).bind fun r'=>(cg (gn (dy [] H.length)) p.2).map fun os=>(r',H++os)
@[go_sem] theorem ahY (H : aq) (x : T) : zi H (.t x, []) = some (.t x, H) := (rfl)
@[go_sem] theorem ahZ (H : aq) (x y : T) : zi H (.tup [.t x, .t y], []) = some (.tup [.t x, .t y], H) := (rfl)
@[go_sem] theorem ah0 (H : aq) (x y z : T) : zi H (.tup [.t x, .t y, .t z], []) = some (.tup [.t x, .t y, .t z], H) := (rfl)
@[go_sem] theorem ah2 (H : aq) (x y z u : T) : zi H (.tup [.t x, .t y, .t z, .t u], []) = some (.tup [.t x, .t y, .t z, .t u], H) := (rfl)
theorem OI(H:aq)(call:aV)(f raw:Nat)(ds:List D)(ts:List T)(h:s7 H ds=some ts):
 Kp H call f raw [] ds=(call raw f (ts.map .t) []).bind (zi H):=by
 obtain⟨h1,h2⟩:=wU H h 0
 simp only[Kp,xH,h1,aLq,OH,eW,reach,lx,List.flatMap_nil,h2,pins,IM,pick,cg]
 cases hc:call raw f (ts.map .t) []with
 | none=>rfl
 | some p=>
   obtain⟨d,os⟩:=p
   simp only[aLq,List.isEmpty_nil,Bool.true_and,zi]
   by_cases h3:os=[]
   · subst h3
     simp only[List.isEmpty_nil,Bool.true_and,Bool.and_true,cg,aLw,List.length_nil,List.take_nil,dR,List.drop_nil,List.append_nil]
     by_cases h4:AM d=true
     · rw[if_pos h4]
       split
       · rfl
       · rw[Ey h4];rfl
     · rw[if_neg h4]
       split
       · rename_i h5
         exfalso
         apply h4
         cases d with
         | t x=>rfl
         | tup ds=>
           simp only[tB,aLx]at h5
           simp only[AM,aLx]
           intro y hy
           have:=h5 y hy
           cases y<;>simp_all [oL]
         | _=>simp[tB]at h5
       · rfl
   · have:os.isEmpty=false:=by cases os<;>simp_all
     simp only[this,Bool.false_and,Bool.and_false,if_false,aLt,List.length_nil,List.take_zero,dR,List.drop_zero]
@[go_sem] theorem aaA (st : St) : j7 st [] = some [] := (rfl)
def ajM(st:St)(r:List (Nat×Option (Nat×Bool)))(d:D):Option (List D):=mU d (j7 st r)
@[go_sem] theorem ah3 (vs : List D) (H : aq) (r : List (Nat × Option (Nat × Bool))) (d : D) : ajM ⟨vs, H⟩ r d = mU d (j7 ⟨vs, H⟩ r) := (rfl)
@[go_sem] theorem aaB (vs : List D) (H : aq) (j : Nat) (r : List (Nat × Option (Nat × Bool))) : j7 ⟨vs, H⟩ ((j, none) :: r) = vs[j]?.bind (ajM ⟨vs, H⟩ r) := (rfl)
def ah4(st:St)(r:List (Nat×Option (Nat×Bool)))(p:D×aq):Option (List D):=mU p.1 (j7 st r)
@[go_sem] theorem ah5 (vs : List D) (H : aq) (r : List (Nat × Option (Nat × Bool))) (d : D) (H' : aq) : ah4 ⟨vs, H⟩ r (d, H') = mU d (j7 ⟨vs, H⟩ r) := (rfl)
def ah6(st:St)(n:Nat)(agg:Bool)(r:List (Nat×Option (Nat×Bool)))(p:D):Option (List D):=(Rw st.H n agg p).bind (ah4 st r)
@[go_sem] theorem ah7 (vs : List D) (H : aq) (n : Nat) (agg : Bool) (r : List (Nat × Option (Nat × Bool))) (p : D) : ah6 ⟨vs, H⟩ n agg r p = (Rw H n agg p).bind (ah4 ⟨vs, H⟩ r) := (rfl)
@[go_sem] theorem Xg (vs : List D) (H : aq) (j n : Nat) (agg : Bool) (r : List (Nat × Option (Nat × Bool))) : j7 ⟨vs, H⟩ ((j, some (n, agg)) :: r) = vs[j]?.bind (ah6 ⟨vs, H⟩ n agg r) := by
 simp only[j7]
 cases vs[j]? with
 | none=>rfl
 | some p=>
   simp only[aLq,ah6,Rw]
   cases y4 H p n agg<;>rfl
@[go_sem] theorem adq (H : aq) (n : Nat) (x : T) : frz H n (.t x) = some x := by cases n <;> rfl
@[go_sem] theorem ah8 (H : aq) (n : Nat) : frz H n .nil = some (.sl []) := by cases n <;> rfl
@[go_sem] theorem ah9 (H : aq) (n : Nat) (cs : List D) : frz H (n + 1) (.agg cs) = (cg (frz H n) cs).map .agg := (rfl)
@[go_sem] theorem aaC (H : aq) (n : Nat) (ts : List T) : cg (frz H n) (ts.map .t) = some ts := by
 induction ts with
 | nil=>rfl
 | cons t ts ih=>simp[cg,adq,ih]
def frR(H:aq)(n ep m:Nat):Option Obj→Option T
 | some (.arr _ _ ep' es)=>if ep=ep'∧m=es.length then(cg (frz H n) es).map .sl else none
 | _=>none
@[go_sem] theorem aia (H : aq) (n id ep m : Nat) : frz H (n + 1) (.ref id ep m) = frR H n ep m H[id]? := by
 simp only[frz,iQ]
 generalize H[id]?=o
 rcases o with _ | (_ | ⟨sz',pin,ep',es⟩)
 · rfl
 · rfl
 · simp only[frR]
   by_cases h:ep=ep'∧m=es.length
   · rw[if_pos h,if_pos h];rfl
   · rw[if_neg h,if_neg h];rfl
@[go_sem] theorem aib (H : aq) (n ep m sz : Nat) (pin : Bool) (es : List D) : frR H n ep m (some (.arr sz pin ep es)) = if m = es.length then (cg (frz H n) es).map .sl else none := by simp [frR]
@[go_sem] theorem adr (H : aq) (x : T) : xG H (.t x) = some (.t x) := (rfl)
@[go_sem] theorem af8 (H : aq) : xG H .nil = some (.t (.sl [])) := (rfl)
@[go_sem] theorem af9 (H : aq) (cs : List D) : xG H (.agg cs) = (frz H 8 (.agg cs)).map .t := (rfl)
@[go_sem] theorem aga (H : aq) (id ep n : Nat) : xG H (.ref id ep n) = (frz H 8 (.ref id ep n)).map .t := (rfl)
@[go_sem] theorem Xh (H : aq) (id off : Nat) : xG H (.bp id off) = some (.bp id off) := (rfl)
@[go_sem] theorem aic (H : aq) (f : Nat) (cs : List D) : xG H (.fn f cs) = some (.fn f cs) := (rfl)
def ltB:Nat→Nat→Bool
 | _,0=>false
 | 0,_+1=>true
 | m+1,n+1=>ltB m n
@[go_sem] theorem akL (m : Nat) : ltB m 0 = false := by cases m <;> rfl
@[go_sem] theorem ajN (n : Nat) : ltB 0 (n + 1) = true := (rfl)
@[go_sem] theorem ajO (m n : Nat) : ltB (m + 1) (n + 1) = ltB m n := (rfl)
theorem tN:∀ {m n:Nat},ltB m n=decide (m<n)
 | m,0=>by cases m<;>simp[ltB]
 | 0,n+1=>by simp[ltB]
 | m+1,n+1=>by simp[ltB,tN (m:=m) (n:=n)]
def eqB:Nat→Nat→Bool
 | 0,0=>true
 | m+1,n+1=>eqB m n
 | _,_=>false
@[go_sem] theorem ajP : eqB 0 0 = true := (rfl)
@[go_sem] theorem ajQ (n : Nat) : eqB 0 (n + 1) = false := (rfl)
@[go_sem] theorem ajR (n : Nat) : eqB (n + 1) 0 = false := (rfl)
@[go_sem] theorem ajS (m n : Nat) : eqB (m + 1) (n + 1) = eqB m n := (rfl)
theorem IN:∀ {m n:Nat},eqB m n=decide (m=n)
 | 0,0=>rfl
 | 0,n+1=>rfl
 | m+1,0=>rfl
 | m+1,n+1=>by simp[eqB,IN (m:=m) (n:=n)]
section
variable (k n : Nat)
@[go_sem] theorem aid (x : T) : old k n (.t x) = true := by cases n <;> rfl
@[go_sem] theorem aie : old k n .nil = true := by cases n <;> rfl
@[go_sem] theorem aif : old k n .und = true := by cases n <;> rfl
@[go_sem] theorem ads (id off : Nat) : old k n (.bp id off) = ltB id k := by cases n <;> simp [old, tN]
@[go_sem] theorem aih (id ep m : Nat) : old k n (.ref id ep m) = ltB id k := by cases n <;> simp [old, tN]
@[go_sem] theorem aii (id ep m lo hi : Nat) : old k n (.sub id ep m lo hi) = ltB id k := by cases n <;> simp [old, tN]
def jA(n:Nat)(cs:List D):Bool:=cs.all (old k n)
@[go_sem] theorem aaD : jA k n [] = true := (rfl)
@[go_sem] theorem IP (d : D) (r : List D) : jA k n (d :: r) = (old k n d && jA k n r) := (rfl)
@[go_sem] theorem Sx (ts : List T) : jA k n (ts.map .t) = true := by
 induction ts with
 | nil=>rfl
 | cons t ts ih=>rw[List.map_cons,IP,aid,ih];rfl
@[go_sem] theorem aaE (a b : List D) : jA k n (a ++ b) = (jA k n a && jA k n b) := by simp [jA]
@[go_sem] theorem aij (cs : List D) : old k (n + 1) (.agg cs) = jA k n cs := (rfl)
@[go_sem] theorem ajT (f : Nat) (cs : List D) : old k (n + 1) (.fn f cs) = jA k n cs := (rfl)
end
def ir(k:Nat):aq→Bool
 | []=>true
 | .box cs::r=>jA k 8 cs&&ir k r
 | .arr _ _ _ es::r=>jA k 8 es&&ir k r
@[go_sem] theorem Xi (k : Nat) : ir k [] = true := (rfl)
@[go_sem] theorem Xj (k : Nat) (cs : List D) (r : aq) : ir k (.box cs :: r) = (jA k 8 cs && ir k r) := (rfl)
@[go_sem] theorem Xk (k sz ep : Nat) (pin : Bool) (es : List D) (r : aq) : ir k (.arr sz pin ep es :: r) = (jA k 8 es && ir k r) := (rfl)
theorem oD(k:Nat)(H:aq):H.all (fun o=>o.ds.all (old k depth))=ir k H:=by
 induction H with
 | nil=>rfl
 | cons o r ih=>rw[List.all_cons,ih];cases o<;>rfl
def adt(d:D)(b:Bool):D:=if b then d else .und
@[go_sem] theorem aaF (d : D) : adt d true = d := (rfl)
@[go_sem] theorem aik (k : Nat) (d : D) : kill k d = adt d (old k 8 d) := (rfl)
def L4(k:Nat):List D→List D
 | []=>[]
 | d::r=>kill k d::L4 k r
@[go_sem] theorem adu (k : Nat) : L4 k [] = [] := (rfl)
@[go_sem] theorem aaG (k : Nat) (d : D) (r : List D) : L4 k (d :: r) = kill k d :: L4 k r := (rfl)
theorem Sy(k:Nat)(vs:List D):vs.map (kill k)=L4 k vs:=by
 induction vs with
 | nil=>rfl
 | cons d r ih=>rw[List.map_cons,ih];rfl
@[go_sem] theorem agb (k : Nat) (vs : List D) (H : aq) : LJ k ⟨vs, H⟩ = if ir k (H.take k) = true then some ⟨L4 k vs, H.take k⟩ else none := by
 simp only[LJ,oD,Sy]
@[go_sem] theorem OJ (H : aq) (n : Nat) (x : T) : gI H n (.t x) = [] := by cases n <;> rfl
@[go_sem] theorem agc (H : aq) (n : Nat) : gI H n .nil = [] := by cases n <;> rfl
@[go_sem] theorem Xl (H : aq) (n id off : Nat) : gI H n (.bp id off) = [] := by cases n <;> rfl
@[go_sem] theorem ail (H : aq) (n f : Nat) (cs : List D) : gI H n (.fn f cs) = [] := by cases n <;> rfl
def zj(H:aq)(n:Nat)(cs:List D):List Nat:=cs.flatMap (gI H n)
@[go_sem] theorem adv (H : aq) (n : Nat) : zj H n [] = [] := (rfl)
@[go_sem] theorem L5 (H : aq) (n : Nat) (d : D) (r : List D) : zj H n (d :: r) = gI H n d ++ zj H n r := (rfl)
@[go_sem] theorem aim (H : aq) (n : Nat) (ts : List T) : zj H n (ts.map .t) = [] := by
 induction ts with
 | nil=>rfl
 | cons t ts ih=>rw[List.map_cons,L5,ih,OJ];rfl
@[go_sem] theorem agd (H : aq) (n : Nat) (cs : List D) : gI H (n + 1) (.agg cs) = zj H n cs := (rfl)
def adw(H:aq)(n:Nat):Option Obj→List Nat
 | some (.arr _ _ _ es)=>zj H n es
 | _=>[]
@[go_sem] theorem adx (H : aq) (n sz ep : Nat) (pin : Bool) (es : List D) : adw H n (some (.arr sz pin ep es)) = zj H n es := (rfl)
@[go_sem] theorem age (H : aq) (n id ep m : Nat) : gI H (n + 1) (.ref id ep m) = id :: adw H n H[id]? := (rfl)
@[go_sem] theorem ain : wG [] = .tup [] := (rfl)
@[go_sem] theorem aio (d : D) : wG [d] = d := (rfl)
@[go_sem] theorem aip (a b : D) (r : List D) : wG (a :: b :: r) = .tup (a :: b :: r) := (rfl)
def Gy(k:Nat):List Nat→Bool
 | []=>true
 | i::r=> !ltB i k&&Gy k r
@[go_sem] theorem ady (k : Nat) : Gy k [] = true := (rfl)
@[go_sem] theorem aaH (k i : Nat) (r : List Nat) : Gy k (i :: r) = (!ltB i k && Gy k r) := (rfl)
theorem Kq(k:Nat)(l:List Nat):l.all (fun i=>decide (k≤i))=Gy k l:=by
 induction l with
 | nil=>rfl
 | cons i r ih=>
   rw[List.all_cons,ih]
   simp only[Gy,tN]
   congr 1
   rw[Bool.eq_iff_iff];simp
def agf(k raw:Nat)(H:aq)(ds rs:List D):Option (D×aq):=
 (kK H (max raw 1) (List.range k) (rs.flatMap (ids depth)++lx H (List.range k))).bind fun q=>
  if(jP H raw ds).all (fun i=> !(List.range k++q.1).contains i)then
   (cg (ren (idxOf (List.range k++q.1)) depth) rs).bind fun rs'=>
    (cg (gn (idxOf (List.range k++q.1))) (H.take k++q.2)).map fun hs'=>(wG rs',hs')
  else none
def aaI(k raw:Nat)(H:aq)(ds rs:List D)(b:Bool):Option (D×aq):=
 if b then(if Gy k (jP H raw ds)=true then some (wG rs,H.take k)else none)else agf k raw H ds rs
@[go_sem] theorem adz (k raw : Nat) (H : aq) (ds rs : List D) : aaI k raw H ds rs true = if Gy k (jP H raw ds) = true then some (wG rs, H.take k) else none := (rfl)
def adA(k raw:Nat)(H:aq)(ds rs:List D):Option (D×aq):=aaI k raw H ds rs (jA k 8 rs&&ir k (H.take k))
@[go_sem] theorem aiq (k raw : Nat) (H : aq) (ds rs : List D) : adA k raw H ds rs = aaI k raw H ds rs (jA k 8 rs && ir k (H.take k)) := (rfl)
@[go_sem] theorem adB (k : Nat) (H : aq) (ds : List D) : finish k 0 H ds = (cg (xG H) ds).bind (adA k 0 H ds) := by
 simp only[finish,if_true,oD,Kq]
 cases cg (xG H) ds with
 | none=>rfl
 | some rs=>
   simp only[aLq,adA,aaI]
   show(if(jA k 8 rs&&ir k (H.take k))=true then _ else _)=_
   cases (jA k 8 rs&&ir k (H.take k))<;>rfl
@[go_sem] theorem adC (H : aq) (ds : List D) : jP H 0 ds = zj H 8 ds := (rfl)
@[go_sem] theorem adD (vs : List D) : lV [] vs = vs := (rfl)
@[go_sem] theorem aaJ (i : Nat) (r : List Nat) (vs : List D) : lV (i :: r) vs = lV r (vs.set i .und) := (rfl)
@[go_sem] theorem air (dead : List Nat) (k : Nat) (vs : List D) (H : aq) : tidy false dead k ⟨vs, H⟩ = some ⟨lV dead vs, H⟩ := (rfl)
@[go_sem] theorem ais (dead : List Nat) (k : Nat) (vs : List D) (H : aq) : tidy true dead k ⟨vs, H⟩ = LJ k ⟨lV dead vs, H⟩ := (rfl)
section
variable (H : aq) (call : aV) (f raw : Nat) (keep : List Nat) (ds : List D)
def Gz(H1:aq)(n:Nat)(sel:List Nat)(p:D×aq):Option (D×aq):=
 (ren (dy sel n) depth p.1).bind fun r'=>(cg (gn (dy sel n)) p.2).map fun os=>(r',dR H1 sel (os.take sel.length)++os.drop sel.length)
def wV(H1:aq)(sel:List Nat)(p:D×aq):Option (D×aq):=
 if sel.isEmpty&&p.2.isEmpty&&tB p.1 then some (p.1,H)else Gz H1 H.length sel p
def Xm(args:List D)(H1:aq)(sel:List Nat)(hs:aq):Option (D×aq):=(call raw f args hs).bind (wV H H1 sel)
def Xn(args:List D)(H1:aq)(sel:List Nat)(hs:aq):Option (D×aq):=(cg (gn (idxOf sel)) hs).bind (Xm H call f raw args H1 sel)
def Xo(H1:aq)(sel:List Nat)(args:List D):Option (D×aq):=(pick H1 sel).bind (Xn H call f raw args H1 sel)
def Xp(args:List D)(sel:List Nat):Option (D×aq):=(cg (ren (idxOf sel) depth) args).bind (Xo H call f raw (pins H (dg H keep 0 ds)) sel)
def B3(n:Nat)(cs:List D):List Nat:=cs.flatMap (ids n)
def Xq(args:List D):Option (D×aq):=Xp H call f raw keep ds args (reach H 3 (eW [] (B3 8 args)))
def OK:Option (D×aq):=(qE H keep 0 ds).bind (Xq H call f raw keep ds)
theorem Kr:Kp H call f raw keep ds=OK H call f raw keep ds:=(rfl)
@[go_sem] theorem Ks : OK H call f raw keep ds = (qE H keep 0 ds).bind (Xq H call f raw keep ds) := (rfl)
@[go_sem] theorem Kt (args : List D) : Xq H call f raw keep ds args = Xp H call f raw keep ds args (reach H 3 (eW [] (B3 8 args))) := (rfl)
@[go_sem] theorem Ku (args : List D) (sel : List Nat) : Xp H call f raw keep ds args sel = (cg (ren (idxOf sel) 8) args).bind (Xo H call f raw (pins H (dg H keep 0 ds)) sel) := (rfl)
@[go_sem] theorem Kv (H1 : aq) (sel : List Nat) (args : List D) : Xo H call f raw H1 sel args = (pick H1 sel).bind (Xn H call f raw args H1 sel) := (rfl)
@[go_sem] theorem Kw (args : List D) (H1 : aq) (sel : List Nat) (hs : aq) : Xn H call f raw args H1 sel hs = (cg (gn (idxOf sel)) hs).bind (Xm H call f raw args H1 sel) := (rfl)
@[go_sem] theorem Sz (args : List D) (H1 : aq) (sel : List Nat) (hs : aq) : Xm H call f raw args H1 sel hs = (call raw f args hs).bind (wV H H1 sel) := (rfl)
def OL(H1:aq)(sel:List Nat)(r:D)(os:aq):Option (D×aq):=some (r,dR H1 sel (os.take sel.length)++os.drop sel.length)
@[go_sem] theorem SA (H1 : aq) (sel : List Nat) (r : D) (os : aq) : OL H1 sel r os = some (r, dR H1 sel (os.take sel.length) ++ os.drop sel.length) := (rfl)
def SB(H1:aq)(n:Nat)(sel:List Nat)(os:aq)(r:D):Option (D×aq):=(cg (gn (dy sel n)) os).bind (OL H1 sel r)
@[go_sem] theorem Kx (H1 : aq) (n : Nat) (sel : List Nat) (os : aq) (r : D) : SB H1 n sel os r = (cg (gn (dy sel n)) os).bind (OL H1 sel r) := (rfl)
@[go_sem] theorem Ez (H1 : aq) (n : Nat) (sel : List Nat) (r : D) (os : aq) : Gz H1 n sel (r, os) = (ren (dy sel n) 8 r).bind (SB H1 n sel os) := by
 simp only[Gz,depth]
 cases ren (dy sel n) 8 r with
 | none=>rfl
 | some r'=>simp only[aLq,SB];cases cg (gn (dy sel n)) os<;>rfl
@[go_sem] theorem agh (H1 : aq) (sel : List Nat) (r : D) (o : Obj) (os : aq) : wV H H1 sel (r, o :: os) = Gz H1 H.length sel (r, o :: os) := by
 simp[wV]
@[go_sem] theorem ait (H1 : aq) (k : IntKind) (n : Int) : wV H H1 [] (.t (.int k n), []) = some (.t (.int k n), H) := (rfl)
@[go_sem] theorem aiu (H1 : aq) (b : Bool) : wV H H1 [] (.t (.bool b), []) = some (.t (.bool b), H) := (rfl)
@[go_sem] theorem agi (H1 : aq) (es : List T) : wV H H1 [] (.t (.sl es), []) = some (.t (.sl es), H1) := by simp [wV, Gz, tB, T.scalar, ren, depth, cg, dR]
@[go_sem] theorem adE (H1 : aq) (ds : List D) : wV H H1 [] (.tup ds, []) = if ds.all oL then some (.tup ds, H) else Gz H1 H.length [] (.tup ds, []) := by
 simp[wV,tB]
def Xr:Option (List T)→Option (D×aq)
 | some ts=>(call raw f (ts.map .t) []).bind (zi H)
 | none=>OK H call f raw [] ds
@[go_sem] theorem aaK (ts : List T) : Xr H call f raw ds (some ts) = (call raw f (ts.map .t) []).bind (zi H) := (rfl)
@[go_sem] theorem aaL : Xr H call f raw ds none = OK H call f raw [] ds := (rfl)
@[go_sem] theorem aiv : Kp H call f raw [] ds = Xr H call f raw ds (s7 H ds) := by
 cases h:s7 H ds with
 | none=>rfl
 | some ts=>exact OI H call f raw ds ts h
@[go_sem] theorem ajU (k : Nat) : Kp H call f raw (k :: keep) ds = OK H call f raw (k :: keep) ds := (rfl)
end
section
variable (H : aq) (keep : List Nat)
@[go_sem] theorem adF (i : Nat) : qE H keep i [] = some [] := (rfl)
def IQ(i:Nat):List Nat→Bool
 | []=>false
 | j::r=>eqB i j||IQ i r
@[go_sem] theorem agj (i : Nat) : IQ i [] = false := (rfl)
@[go_sem] theorem adG (i j : Nat) (r : List Nat) : IQ i (j :: r) = (eqB i j || IQ i r) := (rfl)
theorem EA(i:Nat)(l:List Nat):l.contains i=IQ i l:=by
 induction l with
 | nil=>rfl
 | cons j r ih=>rw[List.contains_cons,ih];simp only[IQ,IN];rw[beq_eq_decide_nat]
where beq_eq_decide_nat {a b:Nat}:(a==b)=decide (a=b):=by rw[Bool.eq_iff_iff];simp
def aiw(d:D):Bool→Option D
 | true=>some d
 | false=>xG H d
@[go_sem] theorem ajV (d : D) : aiw H d true = some d := (rfl)
@[go_sem] theorem UK (d : D) : aiw H d false = xG H d := (rfl)
def ajW(i:Nat)(r:List D)(x:D):Option (List D):=mU x (qE H keep (i+1) r)
@[go_sem] theorem OM (i : Nat) (r : List D) (x : D) : ajW H keep i r x = mU x (qE H keep (i + 1) r) := (rfl)
@[go_sem] theorem DI (i : Nat) (d : D) (r : List D) : qE H keep i (d :: r) = (aiw H d (IQ i keep)).bind (ajW H keep i r) := by
 simp only[qE,EA]
 cases IQ i keep<;>rfl
@[go_sem] theorem Rx (i : Nat) : dg H keep i [] = [] := (rfl)
def frK(l:List Nat):Bool→List Nat
 | true=>[]
 | false=>l
@[go_sem] theorem akM (l : List Nat) : frK l true = [] := (rfl)
@[go_sem] theorem adH (l : List Nat) : frK l false = l := (rfl)
@[go_sem] theorem tO (i : Nat) (d : D) (r : List D) : dg H keep i (d :: r) = frK (gI H 8 d) (IQ i keep) ++ dg H keep (i + 1) r := by
 simp only[dg,EA]
 cases IQ i keep<;>rfl
@[go_sem] theorem agk (H : aq) : pins H [] = H := (rfl)
@[go_sem] theorem adI (H : aq) (i : Nat) (r : List Nat) : pins H (i :: r) = pins (H.modify i J0) r := (rfl)
def ON(i:Nat):Option Obj→aq
 | some (.arr sz _ ep es)=>H.set i (.arr sz true ep es)
 | _=>H
@[go_sem] theorem adJ (i sz ep : Nat) (pin : Bool) (es : List D) : ON H i (some (.arr sz pin ep es)) = H.set i (.arr sz true ep es) := (rfl)
theorem pJ{α:Type}{l:List α}{i:Nat}{x:α}(h:l[i]?=some x):l.set i x=l:=by
 apply List.ext_getElem?
 intro j
 rw[List.getElem?_set]
 split
 · rename_i e;subst e
   split
   · exact h.symm
   · rename_i hl;rw[aLm (by omega)]at h;cases h
 · rfl
@[go_sem] theorem aaM (i : Nat) : List.modify H i J0 = ON H i H[i]? := by
 apply List.ext_getElem?
 intro j
 rw[List.getElem?_modify]
 cases h:H[i]? with
 | none=>
   simp only[ON]
   by_cases e:i=j
   · subst e;rw[h];simp
   · simp[e]
 | some o=>
   have hi:i<H.length:=(aLe.1 h).1
   cases o with
   | box cs=>
     simp only[ON]
     by_cases e:i=j
     · subst e;rw[h];simp[J0]
     · simp[e]
   | arr sz pin ep es=>
     simp only[ON]
     rw[List.getElem?_set]
     by_cases e:i=j
     · subst e;rw[h];simp[J0,hi]
     · simp[e]
section
variable (n : Nat)
@[go_sem] theorem akN (x : T) : ids n (.t x) = [] := by cases n <;> rfl
@[go_sem] theorem aix : ids n .nil = [] := by cases n <;> rfl
@[go_sem] theorem adK (id off : Nat) : ids n (.bp id off) = [id] := by cases n <;> rfl
@[go_sem] theorem aiy (id ep m : Nat) : ids n (.ref id ep m) = [id] := by cases n <;> rfl
@[go_sem] theorem aiz (cs : List D) : ids (n + 1) (.agg cs) = B3 n cs := (rfl)
@[go_sem] theorem adL (f : Nat) (cs : List D) : ids (n + 1) (.fn f cs) = B3 n cs := (rfl)
@[go_sem] theorem SC : B3 n [] = [] := (rfl)
@[go_sem] theorem OO (d : D) (r : List D) : B3 n (d :: r) = ids n d ++ B3 n r := (rfl)
@[go_sem] theorem B4 (ts : List T) : B3 n (ts.map .t) = [] := OH ts n
@[go_sem] theorem Ky (a b : List D) : B3 n (a ++ b) = B3 n a ++ B3 n b := by simp [B3]
end
def OP(sel:List Nat)(i:Nat):Bool→List Nat
 | true=>sel
 | false=>sel++[i]
@[go_sem] theorem agl (sel : List Nat) (i : Nat) : OP sel i true = sel := (rfl)
@[go_sem] theorem agm (sel : List Nat) (i : Nat) : OP sel i false = sel ++ [i] := (rfl)
@[go_sem] theorem aaN (sel : List Nat) : eW sel [] = sel := (rfl)
@[go_sem] theorem Xs (sel : List Nat) (i : Nat) (r : List Nat) : eW sel (i :: r) = eW (OP sel i (IQ i sel)) r := by
 simp only[eW,EA]
 cases IQ i sel<;>rfl
def Kz:Option Obj→List Nat
 | some (.box cs)=>B3 8 cs
 | some (.arr _ _ _ es)=>B3 8 es
 | none=>[]
@[go_sem] theorem aaO (cs : List D) : Kz (some (.box cs)) = B3 8 cs := (rfl)
@[go_sem] theorem aaP (sz ep : Nat) (pin : Bool) (es : List D) : Kz (some (.arr sz pin ep es)) = B3 8 es := (rfl)
@[go_sem] theorem adM : lx H [] = [] := (rfl)
@[go_sem] theorem aaQ (i : Nat) (r : List Nat) : lx H (i :: r) = Kz H[i]? ++ lx H r := by
 simp only[lx,List.flatMap_cons]
 congr 1
 cases H[i]? with
 | none=>rfl
 | some o=>cases o<;>rfl
@[go_sem] theorem aiA (sel : List Nat) : reach H 0 sel = sel := (rfl)
@[go_sem] theorem aiB (n : Nat) (sel : List Nat) : reach H (n + 1) sel = reach H n (eW sel (lx H sel)) := (rfl)
@[go_sem] theorem agn : pick H [] = some [] := (rfl)
def adN(r:List Nat)(o:Obj):Option aq:=mU o (pick H r)
@[go_sem] theorem SD (r : List Nat) (o : Obj) : adN H r o = mU o (pick H r) := (rfl)
@[go_sem] theorem OQ (i : Nat) (r : List Nat) : pick H (i :: r) = H[i]?.bind (adN H r) := (rfl)
end
section
variable (f : Nat → Option Nat) (n : Nat)
@[go_sem] theorem aiC (x : T) : ren f n (.t x) = some (.t x) := by cases n <;> rfl
@[go_sem] theorem aiD : ren f n .nil = some .nil := by cases n <;> rfl
def ajX(off:Nat)(i:Nat):D:= .bp i off
@[go_sem] theorem aiE (off i : Nat) : ajX off i = .bp i off := (rfl)
@[go_sem] theorem adO (id off : Nat) : ren f n (.bp id off) = (f id).map (ajX off) := by cases n <;> rfl
def adP(ep m:Nat)(j:Nat):D:= .ref j ep m
@[go_sem] theorem ago (ep m j : Nat) : adP ep m j = .ref j ep m := (rfl)
@[go_sem] theorem aiF (id ep m : Nat) : ren f n (.ref id ep m) = (f id).map (adP ep m) := by cases n <;> rfl
@[go_sem] theorem adQ (g : Nat) (cs : List D) : ren f (n + 1) (.fn g cs) = (cg (ren f n) cs).map (.fn g) := (rfl)
@[go_sem] theorem aiG (cs : List D) : ren f (n + 1) (.agg cs) = (cg (ren f n) cs).map .agg := (rfl)
@[go_sem] theorem aiH (cs : List D) : ren f (n + 1) (.tup cs) = (cg (ren f n) cs).map .tup := (rfl)
@[go_sem] theorem zl (ts : List T) : cg (ren f n) (ts.map .t) = some (ts.map .t) := by
 induction ts with
 | nil=>rfl
 | cons t ts ih=>rw[List.map_cons,Gv,aiC,aLq,WW,ih];rfl
@[go_sem] theorem L6 (cs : List D) : gn f (.box cs) = (cg (ren f 8) cs).map .box := (rfl)
@[go_sem] theorem aaR (sz ep : Nat) (pin : Bool) (es : List D) : gn f (.arr sz pin ep es) = (cg (ren f 8) es).map (.arr sz pin ep) := (rfl)
end
def aaS(x:Option Nat):Bool→Option Nat
 | true=>some 0
 | false=>x.map (· +1)
@[go_sem] theorem ajY (x : Option Nat) : aaS x true = some 0 := (rfl)
@[go_sem] theorem ajZ (k : Nat) : aaS (some k) false = some (k + 1) := (rfl)
@[go_sem] theorem aj0 : aaS none false = none := (rfl)
@[go_sem] theorem idxOf_nil (i : Nat) : idxOf [] i = none := (rfl)
@[go_sem] theorem idxOf_cons (j i : Nat) (r : List Nat) : idxOf (j :: r) i = aaS (idxOf r i) (eqB j i) := by
 simp only[idxOf,IN]
 by_cases h:j=i
 · simp[h,aaS]
 · simp[h,aaS]
@[go_sem] theorem aaT (n i : Nat) : dy [] n i = some (n + i) := by simp [dy]
@[go_sem] theorem agp (j n : Nat) (r : List Nat) : dy (j :: r) n 0 = some j := by simp [dy]
@[go_sem] theorem agq (j n i : Nat) (r : List Nat) : dy (j :: r) n (i + 1) = dy r n i := by
 simp only[dy,List.length_cons,Nat.add_lt_add_iff_right,List.getElem?_cons_succ,Nat.add_sub_add_right]
@[go_sem] theorem Xt {α : Type} (H os : List α) : dR H [] os = H := by cases os <;> rfl
@[go_sem] theorem UL {α : Type} (H : List α) (i : Nat) (r : List Nat) (o : α) (os : List α) : dR H (i :: r) (o :: os) = dR (H.set i o) r os := (rfl)
def lbP(sz:Nat)(p:List D×aq):List D×aq:=(p.1,.arr sz false 0 []::p.2)
@[go_sem] theorem aj1 (sz : Nat) (cs : List D) (os : aq) : lbP sz (cs, os) = (cs, .arr sz false 0 [] :: os) := (rfl)
def lbC(base:Nat)(cs:List D)(off sz:Nat)(r:List (Nat×Nat)):Option D→List D×aq
 | some .nil=>lbP sz (cM (base+1) (cs.set off (.ref base 0 0)) r)
 | _=>cM base cs r
@[go_sem] theorem aiI (base : Nat) (cs : List D) (off sz : Nat) (r : List (Nat × Nat)) : lbC base cs off sz r (some .nil) = lbP sz (cM (base + 1) (cs.set off (.ref base 0 0)) r) := (rfl)
@[go_sem] theorem UM (base : Nat) (cs : List D) (off sz : Nat) (r : List (Nat × Nat)) : cM base cs ((off, sz) :: r) = lbC base cs off sz r cs[off]? := by
 simp only[cM,lbC]
 split<;>split<;>simp_all [lbP]
def lvP(H:aq)(id:Nat)(p:List D×aq):Option (D×aq):=some (.tup [],H.set id (.box p.1)++p.2)
@[go_sem] theorem aj2 (H : aq) (id : Nat) (cs : List D) (os : aq) : lvP H id (cs, os) = some (.tup [], H.set id (.box cs) ++ os) := (rfl)
def lvB(H:aq)(id:Nat)(l:List (Nat×Nat)):Option Obj→Option (D×aq)
 | some (.box cs)=>lvP H id (cM H.length cs l)
 | _=>none
@[go_sem] theorem aj3 (H : aq) (id : Nat) (l : List (Nat × Nat)) (cs : List D) : lvB H id l (some (.box cs)) = lvP H id (cM H.length cs l) := (rfl)
@[go_sem] theorem Xu (H : aq) (id : Nat) (x : Nat × Nat) (r : List (Nat × Nat)) : DG H id (x :: r) = lvB H id (x :: r) H[id]? := by
 simp only[DG,rv]
 generalize H[id]?=o
 rcases o with _ | (cs | _)
 · rfl
 · rfl
 · rfl
section
variable (H : aq)
def klE(n:Nat)(sel new:List Nat)(os:aq)(q:List Nat×aq):Option (List Nat×aq):=some (new++q.1,os++q.2)
@[go_sem] theorem aj4 (n : Nat) (sel new : List Nat) (os : aq) (a : List Nat) (b : aq) : klE n sel new os (a, b) = some (new ++ a, os ++ b) := (rfl)
def klD(n:Nat)(sel new:List Nat)(os:aq):Option (List Nat×aq):=(kK H n (sel++new) (lx H new)).bind (klE n sel new os)
@[go_sem] theorem aj5 (n : Nat) (sel new : List Nat) (os : aq) : klD H n sel new os = (kK H n (sel ++ new) (lx H new)).bind (klE n sel new os) := (rfl)
def DJ(sel:List Nat):List Nat→Bool
 | []=>true
 | i::r=> !IQ i sel&&DJ sel r
@[go_sem] theorem aaU (sel : List Nat) : DJ sel [] = true := (rfl)
theorem GA(sel l:List Nat):l.all (fun i=> !sel.contains i)=DJ sel l:=by
 induction l with
 | nil=>rfl
 | cons i r ih=>rw[List.all_cons,ih,EA];rfl
def klC(n:Nat)(sel new:List Nat)(os:aq):Option (List Nat×aq):=
 (if n=0 then(if(os.flatMap fun o=>o.ds.flatMap (gI H depth)).all (fun i=> !(sel++new).contains i)then cg (fq H) os else none)else some os).bind (klD H n sel new)
def ya:aq→List Nat
 | []=>[]
 | .box cs::r=>zj H 8 cs++ya r
 | .arr _ _ _ es::r=>zj H 8 es++ya r
@[go_sem] theorem aaV : ya H [] = [] := (rfl)
@[go_sem] theorem aaW (cs : List D) (r : aq) : ya H (.box cs :: r) = zj H 8 cs ++ ya H r := (rfl)
@[go_sem] theorem aaX (sz ep : Nat) (pin : Bool) (es : List D) (r : aq) : ya H (.arr sz pin ep es :: r) = zj H 8 es ++ ya H r := (rfl)
theorem OR(os:aq):(os.flatMap fun o=>o.ds.flatMap (gI H depth))=ya H os:=by
 induction os with
 | nil=>rfl
 | cons o r ih=>rw[List.flatMap_cons,ih];cases o<;>rfl
@[go_sem] theorem akO (sel new : List Nat) (os : aq) : klC H 0 sel new os = (if DJ (sel ++ new) (ya H os) = true then cg (fq H) os else none).bind (klD H 0 sel new) := by
 simp only[klC,OR,GA,if_true]
def klN(n:Nat)(sel new:List Nat):Option (List Nat×aq):=(pick H new).bind (klC H n sel new)
@[go_sem] theorem aj6 (n : Nat) (sel new : List Nat) : klN H n sel new = (pick H new).bind (klC H n sel new) := (rfl)
@[go_sem] theorem agr (sel front : List Nat) : kK H 0 sel front = some ([], []) := (rfl)
@[go_sem] theorem ags (n : Nat) (sel front : List Nat) : kK H (n + 1) sel front = klN H n sel ((eW sel front).drop sel.length) := by
 simp only[kK,klN]
 generalize (eW sel front).drop sel.length=new
 cases pick H new with
 | none=>rfl
 | some os=>
   simp only[aLq,klC]
   congr 1
   funext os'
   simp only[klD]
   cases kK H n (sel++new) (lx H new)<;>rfl
@[go_sem] theorem SE (cs : List D) : fq H (.box cs) = (cg (xG H) cs).map .box := (rfl)
@[go_sem] theorem SF (sz ep : Nat) (pin : Bool) (ts : List T) : fq H (.arr sz pin ep (ts.map .t)) = some (.arr sz pin ep (ts.map .t)) := by
 simp only[fq,A8,aLw]
@[go_sem] theorem SG (sz ep : Nat) (pin : Bool) : fq H (.arr sz pin ep []) = some (.arr sz pin ep []) := (rfl)
def aiJ(k raw:Nat)(H:aq)(ds rs:List D)(q:List Nat×aq):Option (D×aq):=
 if DJ (List.range k++q.1) (jP H raw ds)=true then
  (cg (ren (idxOf (List.range k++q.1)) depth) rs).bind fun rs'=>(cg (gn (idxOf (List.range k++q.1))) (H.take k++q.2)).map fun hs'=>(wG rs',hs')
 else none
def OS(sel:List Nat)(H2:aq)(rs':List D):Option (D×aq):=(cg (gn (idxOf sel)) H2).bind (finT3 rs')
where finT3 (rs':List D) (hs:aq):Option (D×aq):=some (wG rs',hs)
@[go_sem] theorem agt (rs' : List D) (hs : aq) : OS.finT3 rs' hs = some (wG rs', hs) := (rfl)
@[go_sem] theorem agu (sel : List Nat) (H2 : aq) (rs' : List D) : OS sel H2 rs' = (cg (gn (idxOf sel)) H2).bind (OS.finT3 rs') := (rfl)
@[go_sem] theorem aiK (k raw : Nat) (ds rs : List D) (sel : List Nat) (os : aq) : aiJ k raw H ds rs (sel, os) =
 if DJ (List.range k++sel) (jP H raw ds)=true then(cg (ren (idxOf (List.range k++sel)) 8) rs).bind (OS (List.range k++sel) (H.take k++os))else none:=by
 simp only[aiJ,depth]
 split
 · cases cg (ren (idxOf (List.range k++sel)) 8) rs with
   | none=>rfl
   | some rs'=>simp only[aLq,OS];cases cg (gn (idxOf (List.range k++sel))) (H.take k++os)<;>rfl
 · rfl
@[go_sem] theorem aiL (k raw : Nat) (ds rs : List D) : agf k raw H ds rs = (kK H (max raw 1) (List.range k) (B3 8 rs ++ lx H (List.range k))).bind (aiJ k raw H ds rs) := by
 simp only[agf,GA,B3,depth];rfl
@[go_sem] theorem aaY (k raw : Nat) (ds rs : List D) : aaI k raw H ds rs false = agf k raw H ds rs := (rfl)
@[go_sem] theorem aaZ (k raw : Nat) (ds : List D) : finish k (raw + 1) H ds = adA k (raw + 1) H ds ds := by
 simp only[finish,Nat.add_one_ne_zero,if_false,aLq,oD,Kq,adA,aaI]
 show(if(jA k 8 ds&&ir k (H.take k))=true then _ else _)=_
 cases (jA k 8 ds&&ir k (H.take k))<;>rfl
@[go_sem] theorem Xv (raw : Nat) (ds : List D) : jP H (raw + 1) ds = [] := by simp [jP]
@[go_sem] theorem agv : max 0 1 = 1 := (rfl)
@[go_sem] theorem aiM (r : Nat) : max (r + 1) 1 = r + 1 := by omega
@[go_sem] theorem aa0 : List.range 0 = [] := (rfl)
end
theorem KA{α:Type}(f:α→T)(l:List α)(i:Nat)(x:α)(y:D)(h:y= .t (f x)):((l.map f).map D.t).set i y=((l.set i x).map f).map D.t:=by
 rw[h,List.map_map,List.map_map]
 exact(List.map_set (f:=D.t ∘ f)).symm
@[go_sem] theorem IS (l : List Int) (i : Nat) (k : IntKind) (x : Int) : ((l.map (T.int k)).map D.t).set i (.t (.int k x)) = ((l.set i x).map (T.int k)).map D.t := KA _ l i x _ rfl
@[go_sem] theorem A9 (l : List Bool) (i : Nat) (x : Bool) : ((l.map T.bool).map D.t).set i (.t (.bool x)) = ((l.set i x).map T.bool).map D.t := KA _ l i x _ rfl
end Go.Ev
namespace Go.Ev
class Lib where
 fs:Nat→Option Fn
end Go.Ev
namespace Go.Ev.K
abbrev u(x:O):R:={ o:=x}
abbrev w(n:Nat)(x:O):R:={ o:=x,d:=some n}
abbrev y(n:Nat)(b:Bool)(x:O):R:={ o:=x,g:=some (n,b)}
abbrev m(x:X):R:={ o:= .mv x}
abbrev g(x:X):R:={ o:= .ld x 1 false}
abbrev h(n:Nat)(x:X):R:={ o:= .ld x n true}
abbrev f(n:Nat)(x:X):R:={ o:= .fa x n}
abbrev a(n:Nat)(x z:X):R:={ o:= .ia x z n}
abbrev l0:X:= .l 0
abbrev l1:X:= .l 1
abbrev l2:X:= .l 2
abbrev l3:X:= .l 3
abbrev l4:X:= .l 4
abbrev l5:X:= .l 5
abbrev l6:X:= .l 6
abbrev l7:X:= .l 7
abbrev l8:X:= .l 8
abbrev l9:X:= .l 9
abbrev l10:X:= .l 10
abbrev l11:X:= .l 11
abbrev v0:X:= .v 0
abbrev v1:X:= .v 1
abbrev v2:X:= .v 2
abbrev v3:X:= .v 3
abbrev v4:X:= .v 4
abbrev v5:X:= .v 5
abbrev v6:X:= .v 6
abbrev v7:X:= .v 7
abbrev v8:X:= .v 8
abbrev v9:X:= .v 9
abbrev v10:X:= .v 10
abbrev v11:X:= .v 11
abbrev v12:X:= .v 12
abbrev v13:X:= .v 13
abbrev v14:X:= .v 14
abbrev v15:X:= .v 15
abbrev v16:X:= .v 16
abbrev v17:X:= .v 17
abbrev v18:X:= .v 18
abbrev v19:X:= .v 19
abbrev v20:X:= .v 20
abbrev v21:X:= .v 21
abbrev v22:X:= .v 22
abbrev v23:X:= .v 23
end Go.Ev.K
namespace Go.Ev.K
abbrev q(a:List R)(p:List (Nat×Nat))(c:C):C:= .seq (.reg a p) c
abbrev z0:D:= .t (.int .i64 (0))
abbrev z1:D:= .t (.bool false)
abbrev x(n:Nat)(z:X):R:={ o:= .mv z,d:=some n}
abbrev e(n:Nat)(b:Bool)(z:X):R:={ o:= .mv z,g:=some (n,b)}
abbrev i(n:Nat)(b:Bool)(z:X):R:={ o:= .ld z 1 false,g:=some (n,b)}
end Go.Ev.K
namespace Go.Ev.N
def IT:Nat:=0
def jD:Nat:=1
def Xw:Nat:=2
def kO:Nat:=3
def du:Nat:=4
def aa1:Nat:=5
def Nv:Nat:=6
def OT:Nat:=7
def cP:Nat:=8
def aB:Nat:=9
def cK:Nat:=10
def L7:Nat:=11
def cZ:Nat:=12
def ez:Nat:=13
def OU:Nat:=14
def cB:Nat:=15
def cT:Nat:=16
def Xx:Nat:=17
def UN:Nat:=18
def dS:Nat:=19
def bw:Nat:=20
def iW:Nat:=21
def eY:Nat:=22
def kZ:Nat:=23
def UO:Nat:=24
def OV:Nat:=25
def Ry:Nat:=26
def eB:Nat:=27
def di:Nat:=28
def Xy:Nat:=29
def iX:Nat:=30
def Xz:Nat:=31
def aa2:Nat:=32
def XA:Nat:=33
def UP:Nat:=34
def fY:Nat:=35
def fD:Nat:=36
def eT:Nat:=37
def dI:Nat:=38
def bA:Nat:=39
def jE:Nat:=40
def fE:Nat:=41
def jF:Nat:=42
def fF:Nat:=43
def dJ:Nat:=44
def jB:Nat:=45
def dK:Nat:=46
def gz:Nat:=47
def Rz:Nat:=48
def aK:Nat:=49
def L8:Nat:=50
def aO:Nat:=51
def Nw:Nat:=52
def eC:Nat:=53
def iY:Nat:=54
def aa3:Nat:=55
def dX:Nat:=56
def gZ:Nat:=57
def eH:Nat:=58
def iZ:Nat:=59
def gB:Nat:=60
def dh:Nat:=61
def dv:Nat:=62
def i4:Nat:=63
def dj:Nat:=64
def gC:Nat:=65
def aI:Nat:=66
def bT:Nat:=67
def cC:Nat:=68
def aA:Nat:=69
def bu:Nat:=70
def eI:Nat:=71
def dT:Nat:=72
def dU:Nat:=73
def i5:Nat:=74
def aJ:Nat:=75
def cA:Nat:=76
def jG:Nat:=77
end Go.Ev.N
namespace Go.Ev.K
open Go.Ev
def jD:Fn:= { aP:=1,vars:=[0,2],body:=(q [x 1 (.b false)] [] (q [m v0,u (.ln l0),u (.bin .leq l0 (.i 400)),x 1 l0] [] .ret)),res:=[(1,none)]}
def kO:Fn:= { aP:=1,vars:=[0,2],body:=(q [w 1 (.mv (.c (.nilp)))] [] (q [m v0,u (.bd [.nil,z0] [(0,1,.l 0)]),u (.bx l0 2),x 1 l0] [] .ret)),res:=[(1,none)]}
def jV:C:= (.seq (.ite [m v4,m v3,u (.bin .lss l1 l0)] [] 0 .skip (.exit 0)) (.seq (.blk 1 (.reg [f 0 v2,g l0,m v0,u (.ca N.aB 0 [] [.l 0,.i 4]),u (.bin .mul (.i (-10)) l0),m v4,u (.bin .eql l0 (.i 0)),m l0,e 0 false v0,y 1 false (.ca N.cB 0 [] [.l 0,.i 6]),u (.pk l2 (.b true) l0),u (.bd [z0,z1] [(0,1,.l 6),(1,1,.l 0)]),u (.bs [.l 0] 2),u (.app l11 l0 true 2),f 0 v2,u (.st l0 l1 1 [])] [(1,4),(1,10),(1,13)])) (.reg [m v4,u (.bin .add l0 (.i 1)),x 4 l0] [])))
def qJ:C:= .loop true [5,6,7,8,9] K.jV
def mb:C:= (.seq (.ite [m v6,m v3,u (.bin .lss l1 l0)] [] 0 .skip (.exit 2)) (.seq (.blk 3 (q [h 10 v5,w 7 (.al [z0,z0,z0,z0,z1,z1,z0,z0,z0,z0] []),u (.st l0 l1 10 [])] [] (q [m v6,u (.bin .sub l0 (.i 1)),m v0,m v6,u (.mn [.l 0,.i 2]),u (.ca N.aB 0 [] [.l 2,.l 0]),u (.bin .sub l4 l0),m v6,m v0,u (.bs [.i 11,.i 59,.i 119,.i 4] 1),u (.ca N.cK 0 [] [.l 1,.l 0]),u (.bin .add (.i 1) l0),m v0,u (.bs [.i 9,.i 3,.i 19] 1),u (.ca N.cK 0 [] [.l 1,.l 0]),u (.bin .add (.i 1) l0),f 0 v7,u (.st l0 l10 1 []),f 1 v7,u (.st l0 l11 1 []),f 2 v7,u (.st l0 l9 1 []),f 3 v7,u (.st l0 l7 1 [])] [] (.reg [f 1 v2,g l0,h 10 v7,u (.bs [.l 0] 10),u (.app l2 l0 true 10),f 1 v2,u (.st l0 l1 1 [])] [])))) (.reg [m v6,u (.bin .add l0 (.i 1)),x 6 l0] [])))
def qK:C:= .loop true [4,7,8,9] K.mb
def eJ:C:= (.seq (.ite [m v8,u (.bin .gtr l0 (.i 0)),m l0,y 0 true (.fa v2 1),i 1 true l0,y 2 true (.ln l0),y 3 true (.bin .lss l0 (.i 10)),u (.pk l4 l0 (.b false))] [] 0 .skip (.exit 4)) (.seq (.blk 5 (q [h 10 v5,w 9 (.al [z0,z0,z0,z0,z1,z1,z0,z0,z0,z0] []),u (.st l0 l1 10 [])] [] (q [m v0,m v3,u (.ca N.aB 0 [] [.l 1,.l 0]),m v0,m v3,u (.ca N.aB 0 [] [.l 1,.l 0]),m v0,u (.bs [.i 11,.i 59,.i 199] 1),u (.ca N.cK 0 [] [.l 1,.l 0]),u (.bin .add (.i 1) l0),m v0,u (.bs [.i 9,.i 3] 1),u (.ca N.cK 0 [] [.l 1,.l 0]),u (.bin .add (.i 1) l0),f 0 v9,u (.st l0 (.l 12) 1 []),f 1 v9,u (.st l0 l11 1 []),f 2 v9,u (.st l0 l9 1 []),f 3 v9,u (.st l0 l7 1 [])] [] (q [m v0,u (.ca N.aB 0 [] [.l 0,.i 5]),u (.bin .gtr l0 (.i 0)),m v0,u (.ca N.cB 0 [] [.l 0,.i 6]),f 4 v9,u (.st l0 l3 1 []),f 5 v9,u (.st l0 l3 1 [])] [] (.ite [f 0 v9,g l0,f 1 v9,g l0,u (.bin .neq l2 l0)] [] 0 (.reg [f 1 v2,g l0,h 10 v9,u (.bs [.l 0] 10),u (.app l2 l0 true 10),f 1 v2,u (.st l0 l1 1 [])] []) .skip))))) (.reg [m v8,u (.bin .sub l0 (.i 1)),x 8 l0] [])))
def qL:C:= .loop true [4,6,7,9] K.eJ
def du:Fn:= { aP:=1,vars:=[0,2,3,4,5,6,7,8,9,10],body:=(q [w 1 (.al [.nil,.nil] [])] [] (q [w 2 (.al [.nil,.nil] [(0,2),(1,10)])] [] (q [m v0,u (.ca N.aB 0 [] [.l 0,.i 6]),u (.bin .add (.i 2) l0),x 3 l0] [] (.seq (.ite [m v0,u (.nc l0),f 0 l0,g l0,u (.ln l0),u (.bin .eql l0 (.i 0))] [] 0 (.reg [x 3 (.i 4)] []) .skip) (.seq (q [x 4 (.i 0)] [] (.blk 0 K.qJ)) (q [u (.bd [z0,z0] [(0,1,.i 1),(1,1,.i 1)]),u (.bd [z0,z0,z0,z0,z1,z1,z0,z0,z0,z0] [(2,1,.i 12),(3,1,.i 10),(4,1,.b true),(6,2,.l 0)]),w 5 (.al [z0,z0,z0,z0,z1,z1,z0,z0,z0,z0] []),u (.st l0 l1 10 [])] [] (.seq (q [x 6 (.i 1)] [] (.blk 2 K.qK)) (.seq (q [m v0,u (.ca N.aB 0 [] [.l 0,.i 4]),x 8 l0] [] (.blk 4 K.qL)) (q [h 2 v2,u (.st v1 l0 2 [])] [] .ret))))))))),res:=[(1,some (2,true))]}
def kz:C:= (.seq (.ite [m v7,m v4,u (.bin .lss l1 l0)] [] 0 .skip (.exit 0)) (.seq (.blk 1 (.reg [m v5,m v7,u (.bin .mul l0 (.i 2)),u (.bin .add (.i 3) l0),u (.bs [.l 0] 1),u (.app l4 l0 true 1),m v6,m v0,f 0 v2,g l0,u (.ln l0),u (.ca N.aB 0 [] [.l 3,.l 0]),u (.bs [.l 0] 1),u (.app l6 l0 true 1),x 5 l8,x 6 l1] [(9,0),(9,5)])) (.reg [m v7,u (.bin .add l0 (.i 1)),x 7 l0] [])))
def oP:C:= .loop true [1,8,9,10,11,12,13,14,15,16,17] K.kz
def bH:C:= (.seq (.ite [m v10,u (.bin .gtr l0 (.i 0))] [] 0 .skip (.exit 2)) (.seq (.blk 3 (q [m v9,m v0,u (.ca N.aB 0 [] [.l 0,.i 60]),u (.bin .add l2 l0),x 9 l0] [] (q [m v0,w 17 (.ca N.aB 0 [] [.l 0,.i 3])] [] (.blk 4 (.ite [u (.bin .eql v17 (.i 0)),m l0] [] 0 (q [w 11 (.al [.nil] []),h 2 v2,h 1 v8,m v0,m v4,u (.ca N.aB 0 [] [.l 1,.l 0]),m v0,m v4,u (.ca N.aB 0 [] [.l 1,.l 0]),m v9,u (.ca N.bw 0 [] [.l 8,.l 7,.l 4,.l 1,.l 0]),m l0,u (.ex l0 0),u (.ex l1 1),u (.st (.l 13) l1 1 []),x 12 l1] [(0,6),(0,9),(0,11),(1,6),(1,9),(2,6),(2,9)] (.ite [m v12,u (.bin .eql l0 (.i 0))] [] 0 (.reg [h 1 v11,u (.st v8 l0 1 [])] []) .skip)) (.ite [u (.bin .eql v17 (.i 1)),m l0] [] 0 (q [w 13 (.al [.nil] []),h 2 v2,h 1 v8,m v0,m v4,u (.ca N.aB 0 [] [.l 1,.l 0]),u (.bin .mul (.i 2) l0),u (.bin .add (.i 3) l0),m v0,f 0 v2,g l0,u (.ln l0),u (.ca N.cT 0 [] [.l 3,.l 0]),m v9,m v9,m v0,u (.ca N.aB 0 [] [.l 0,.i 9]),u (.bin .add l2 l0),u (.ca N.iW 0 [] [.l 16,.l 15,.l 10,.l 5,.l 4,.l 0]),m l0,u (.ex l0 0),u (.ex l1 1),u (.st (.l 21) l1 1 []),x 14 l1] [(0,6),(0,13),(0,17),(0,19),(1,6),(1,13),(1,17),(2,6),(2,13),(2,17),(10,1)] (.ite [m v14,u (.bin .eql l0 (.i 0))] [] 0 (.reg [h 1 v13,u (.st v8 l0 1 [])] []) .skip)) (q [w 15 (.al [.nil] []),h 2 v2,h 1 v8,m v0,m v4,u (.ca N.aB 0 [] [.l 1,.l 0]),u (.bin .mul (.i 2) l0),u (.bin .add (.i 3) l0),m v0,f 0 v2,g l0,u (.ln l0),u (.ca N.cT 0 [] [.l 3,.l 0]),m v9,m v9,u (.bin .add l0 (.i 50)),m v0,u (.ca N.aB 0 [] [.l 0,.i 40]),u (.ca N.eY 0 [3] [.l 16,.l 15,.l 10,.l 5,.l 4,.l 2,.l 0]),m l0,u (.ex l0 0),u (.ex l1 1),u (.st (.l 21) l1 1 []),x 16 l1] [(0,6),(0,13),(0,18),(0,19),(1,6),(1,13),(1,18),(2,6),(2,13),(2,18),(10,1)] (.ite [m v16,u (.bin .eql l0 (.i 0))] [] 0 (.reg [h 1 v15,u (.st v8 l0 1 [])] []) .skip)))))))) (.reg [m v10,u (.bin .sub l0 (.i 1)),x 10 l0] [])))
def oQ:C:= .loop true [1,5,6,7,11,12,13,14,15,16,17] K.bH
def cP:Fn:= { aP:=2,vars:=[0,1,3,4,5,6,7,8,9,11,12,13,14,15,16,17,18,61],body:=(q [w 2 (.bx v1 2),w 3 (.al [.nil] [])] [] (q [m v0,u (.ca N.aB 0 [] [.l 0,.i 3]),u (.bin .add (.i 1) l0),x 4 l0] [] (q [w 5 (.nw 1),w 6 (.nw 1)] [] (.seq (q [x 7 (.i 0)] [] (.blk 0 K.oP)) (q [w 8 (.al [.nil] []),h 2 v2,m v5,m v6,m v0,u (.ca N.aB 0 [] [.l 0,.i 100]),u (.ca N.dS 0 [] [.l 4,.l 3,.l 2,.l 0]),m l0,u (.ex l0 0),u (.ex l1 1),u (.st l9 l1 1 []),m l1] [(0,6),(0,7),(1,6)] (q [x 9 (.i 100)] [] (.seq (q [m v0,u (.ca N.aB 0 [] [.l 0,.i 5]),x 10 l0] [] (.blk 2 K.oQ)) (q [h 1 v8,u (.st v3 l0 1 [])] [] .ret)))))))),res:=[(3,some (1,true))]}
def aB:Fn:= { aP:=2,vars:=[0,1,4],body:=(q [x 2 (.i 0)] [] (.seq (.ite [m v0,u (.nc l0),f 1 l0,g l0,m v0,u (.nc l0),f 0 l0,g l0,u (.ln l0),u (.bin .geq l5 l0)] [] 0 (q [x 2 (.i 0)] [] .ret) .skip) (q [m v0,u (.nc l0),f 1 l0,g l0,u (.bin .add l0 (.i 1)),u (.nc l4),f 1 l0,u (.st l0 l2 1 [])] [] (q [m v0,u (.nc l0),f 0 l0,g l0,m v0,u (.nc l0),f 1 l0,g l0,u (.bin .sub l0 (.i 1)),a 1 l5 l0,g l0,m v1,u (.ca N.kZ 0 [] [.l 1,.l 0]),x 2 l0] [] .ret)))),res:=[(2,none)]}
def cK:Fn:= { aP:=2,vars:=[0,1,4],body:=(q [x 2 (.i 0)] [] (q [m v1,m v0,m v1,u (.ln l0),u (.ca N.aB 0 [] [.l 2,.l 0]),a 1 l4 l0,g l0,x 2 l0] [] .ret)),res:=[(2,none)]}
def ov:C:= (.seq (.ite [m v3,m v0,u (.ln l0),u (.bin .lss l2 l0)] [] 0 .skip (.exit 0)) (.seq (.blk 1 (.ite [m v0,m v3,a 1 l1 l0,g l0,m v1,u (.bin .eql l1 l0)] [] 0 (q [x 2 (.b true)] [] .ret) .skip)) (.reg [m v3,u (.bin .add l0 (.i 1)),x 3 l0] [])))
def Ag:C:= .loop true [2] K.ov
def cZ:Fn:= { aP:=2,vars:=[0,1,4,5],body:=(q [x 2 (.b false)] [] (.seq (q [x 3 (.i 0)] [] (.blk 0 K.Ag)) (q [x 2 (.b false)] [] .ret))),res:=[(2,none)]}
def gq:C:= (.seq (.ite [m v7,f 0 v3,g l0,u (.ln l0),u (.bin .lss l3 l0)] [] 0 .skip (.exit 2)) (.seq (.blk 3 (.ite [m v1,u (.bin .geq l0 (.i 0)),m l0,e 0 true v1,y 1 true (.fa v3 0),i 2 true l0,e 3 true v7,y 4 true (.ia l1 l0 2),y 5 true (.fa l0 1),i 6 true l0,y 7 true (.ln l0),y 8 true (.bin .lss l7 l0),u (.pk l9 l0 (.b false)),m l0,y 0 true (.fa v3 0),i 1 true l0,e 2 true v7,y 3 true (.ia l1 l0 2),y 4 true (.fa l0 1),i 5 true l0,e 6 true v1,y 7 true (.ia l1 l0 2),y 8 true (.ld l0 2 true),e 9 true v2,y 10 true (.ca N.eB 0 [] [.l 1,.l 0]),e 11 true v6,y 12 true (.ca N.cZ 0 [] [.l 1,.l 0]),u (.pk (.l 13) l0 (.b false))] [] 0 (q [m v5,m v6,u (.bs [.l 0] 1),u (.app l2 l0 true 1),x 5 l0] [] (.exit 2)) .skip)) (.reg [m v7,u (.bin .add l0 (.i 1)),x 7 l0] [])))
def qM:C:= .loop true [0,4] K.gq
def jW:C:= (.seq (.ite [m v6,u (.bin .lss l0 (.i 64))] [] 0 .skip (.exit 0)) (.seq (.blk 1 (q [x 7 (.i 0)] [] (.blk 2 K.qM))) (.reg [m v6,u (.bin .add l0 (.i 1)),x 6 l0] [])))
def qN:C:= .loop true [0,4,7] K.jW
def ez:Fn:= { aP:=3,vars:=[0,1,2,3,6,7,8,9],body:=(q [w 3 (.bx v0 1),w 4 (.mv (.c (.nil)))] [] (q [w 5 (.nw 1)] [] (.seq (q [x 6 (.i 0)] [] (.blk 0 K.qN)) (q [m v5,x 4 l0] [] .ret)))),res:=[(4,none)]}
def cB:Fn:= { aP:=2,vars:=[0,1,4],body:=(q [x 2 (.b false)] [] (q [m v0,m v1,u (.ca N.aB 0 [] [.l 1,.l 0]),m v1,u (.bin .sub l0 (.i 1)),u (.bin .eql l2 l0),x 2 l0] [] .ret)),res:=[(2,none)]}
def jX:C:= (.seq (.ite [m v4,m v1,u (.bin .lss l1 l0)] [] 0 .skip (.exit 0)) (.seq (.blk 1 (.ite [m v0,u (.ca N.aB 0 [] [.l 0,.i 3]),u (.bin .eql l0 (.i 0))] [] 0 (.reg [m v3,m v4,u (.bs [.l 0] 1),u (.app l2 l0 true 1),x 3 l0] []) .skip)) (.reg [m v4,u (.bin .add l0 (.i 1)),x 4 l0] [])))
def qO:C:= .loop true [2] K.jX
def cT:Fn:= { aP:=2,vars:=[0,1,4,5,6],body:=(q [w 2 (.mv (.c (.nil)))] [] (q [w 3 (.nw 1)] [] (.seq (q [x 4 (.i 0)] [] (.blk 0 K.qO)) (q [m v3,x 2 l0] [] .ret)))),res:=[(2,none)]}
def mc:C:= (.seq (.ite [m v8,m v1,u (.ln l0),u (.bin .lss l2 l0)] [] 0 .skip (.exit 0)) (.seq (.blk 1 (q [w 9 (.al [z0,.nil] []),h 2 v4,m v2,m v8,a 1 l1 l0,g l0,m v3,u (.ca N.fD 0 [] [.l 5,.l 1,.l 0]),m l0,u (.ex l0 0),u (.ex l1 1),u (.st l10 l1 2 []),x 10 l1] [(0,8)] (.seq (.ite [m v10,u (.bin .neq l0 (.i 0))] [] 0 (q [u (.bd [.nil] []),m v10,u (.st v5 l1 1 []),x 6 l1] [] .ret) .skip) (.reg [f 1 v7,g l0,h 2 v9,u (.bs [.l 0] 2),u (.app l2 l0 true 2),f 1 v7,u (.st l0 l1 1 [])] [])))) (.reg [m v8,u (.bin .add l0 (.i 1)),x 8 l0] [])))
def vZ:C:= .loop true [0,6,9,10] K.mc
def dS:Fn:= { aP:=4,vars:=[0,1,2,3,4,8,9,10,11,12,13],body:=(q [w 4 (.bx v0 2),w 5 (.al [.nil] []),x 6 (.i 0)] [] (.seq (.ite [h 2 v4,u (.ca N.di 0 [] [.l 0]),u (.bin .neq l0 (.i 0)),m l0,e 0 false v1,y 1 false (.ln l0),e 2 false v2,y 3 false (.ln l0),y 4 false (.bin .neq l2 l0),u (.pk l5 (.b true) l0),m l0,e 0 false v1,y 1 false (.ln l0),y 2 false (.bin .lss l0 (.i 1)),u (.pk l3 (.b true) l0),m l0,e 0 false v1,y 1 false (.ln l0),y 2 false (.bin .gtr l0 (.i 12)),u (.pk l3 (.b true) l0)] [] 0 (q [u (.bd [.nil] []),u (.st v5 l0 1 []),x 6 (.i 6)] [] .ret) .skip) (.seq (.ite [m v1,u (.ca N.fY 0 [] [.l 0]),u (.un .not l0)] [] 0 (q [u (.bd [.nil] []),u (.st v5 l0 1 []),x 6 (.i 41)] [] .ret) .skip) (q [m v1,u (.app (.c (.nil)) l0 true 1),u (.bd [.nil,.nil] [(0,1,.l 0)]),w 7 (.al [.nil,.nil] [(1,2)]),u (.st l0 l1 2 [(1,2)])] [] (.seq (q [x 8 (.i 0)] [] (.blk 0 K.vZ)) (q [h 2 v7,u (.bs [.l 0] 2),u (.bd [.nil] [(0,1,.l 0)]),u (.st v5 l0 1 []),x 6 (.i 0)] [] .ret)))))),res:=[(5,some (1,true)),(6,none)]}
def iz:C:= (.seq (.ite [m v11,f 0 v6,g l0,u (.ln l0),u (.bin .lss l3 l0)] [] 0 .skip (.exit 0)) (.seq (.blk 1 (q [f 0 v6,g l0,m v11,a 2 l1 l0,h 2 l0,u (.ca N.bA 1 [] [.l 0]),w 12 (.al [.nil,.nil] []),u (.st l0 l1 2 [])] [] (.seq (.ite [f 1 v12,g l0,m v2,a 2 l1 l0,h 2 l0,f 1 v12,g l0,m v3,a 2 l1 l0,h 2 l0,m v4,u (.ca N.jE 0 [] [.l 6,.l 1,.l 0]),u (.un .not l0)] [] 0 (.exit 1) .skip) (q [f 0 v12,g l0,m v2,f 0 v12,g l0,m v3,f 0 v12,g l0,m v3,a 1 l1 l0,g l0,f 0 v12,g l0,m v2,a 1 l1 l0,g l0,a 1 (.l 14) (.l 13),u (.st l0 l6 1 []),a 1 (.l 13) (.l 12),u (.st l0 l3 1 [])] [(4,18)] (q [f 1 v12,g l0,m v2,f 1 v12,g l0,m v2,a 2 l1 l0,h 2 l0,m v4,u (.ca N.fE 0 [] [.l 1,.l 0]),m l0,u (.ex l0 0),u (.ex l1 1),a 2 l11 l10,u (.st l0 l2 2 [])] [(1,10)] (q [f 1 v12,g l0,m v3,f 1 v12,g l0,m v3,a 2 l1 l0,h 2 l0,m v4,u (.ca N.fE 0 [] [.l 1,.l 0]),m l0,u (.ex l0 0),u (.ex l1 1),a 2 l11 l10,u (.st l0 l2 2 [])] [(1,10)] (.reg [m v10,h 2 v12,u (.bs [.l 0] 2),u (.app l2 l0 true 2),x 10 l0] []))))))) (.reg [m v11,u (.bin .add l0 (.i 1)),x 11 l0] [])))
def qP:C:= .loop true [0,1,5,8,9,12] K.iz
def bw:Fn:= { aP:=5,vars:=[0,1,2,3,4,5,6,10,11,12,13,14,15],body:=(q [w 5 (.bx v0 2),w 6 (.bx v1 1),w 7 (.al [.nil] []),x 8 (.i 0)] [] (q [h 1 v6,u (.ca N.eT 0 [] [.l 0]),u (.st v6 l0 1 [])] [] (.seq (.ite [h 2 v5,h 1 v6,u (.ca N.dI 0 [] [.l 1,.l 0]),u (.un .not l0)] [] 0 (q [h 1 v6,u (.st v7 l0 1 []),x 8 (.i 6)] [] .ret) .skip) (q [f 0 v6,g l0,a 2 l0 (.i 0),f 0 l0,g l0,u (.ln l0),x 9 l0] [] (.seq (.ite [m v2,u (.bin .lss l0 (.i 0)),m l0,e 0 false v2,e 1 false v9,y 2 false (.bin .geq l1 l0),u (.pk l3 (.b true) l0),m l0,e 0 false v3,y 1 false (.bin .lss l0 (.i 0)),u (.pk l2 (.b true) l0),m l0,e 0 false v3,e 1 false v9,y 2 false (.bin .geq l1 l0),u (.pk l3 (.b true) l0),m l0,e 0 false v2,e 1 false v3,y 2 false (.bin .eql l1 l0),u (.pk l3 (.b true) l0)] [] 0 (q [h 1 v6,u (.st v7 l0 1 []),x 8 (.i 19)] [] .ret) .skip) (.seq (.ite [m v4,u (.bin .lss l0 (.i 0)),m l0,e 0 false v4,y 1 false (.bin .gtr l0 (.i 2147483648)),u (.pk l2 (.b true) l0)] [] 0 (q [h 1 v6,u (.st v7 l0 1 []),x 8 (.i 8)] [] .ret) .skip) (q [h 1 v6,u (.ca N.eT 1 [] [.l 0]),u (.fl l0 0 1 false),x 10 l0] [] (.seq (q [x 11 (.i 0)] [] (.blk 0 K.qP)) (q [m v10,u (.ca N.jF 1 [] [.l 0]),x 10 l0] [] (.seq (.ite [m v10,u (.ln l0),u (.bin .gtr l0 (.i 24))] [] 0 (q [h 1 v6,u (.st v7 l0 1 []),x 8 (.i 44)] [] .ret) .skip) (q [m v10,u (.bd [.nil] [(0,1,.l 0)]),u (.st v7 l0 1 []),x 8 (.i 0)] [] .ret))))))))))),res:=[(7,some (1,true)),(8,none)]}
def fO:C:= (.seq (.ite [m v12,f 0 v7,g l0,u (.ln l0),u (.bin .lss l3 l0)] [] 0 .skip (.exit 0)) (.seq (.blk 1 (q [f 0 v7,g l0,m v12,a 2 l1 l0,h 2 l0,u (.ca N.bA 1 [] [.l 0]),w 13 (.al [.nil,.nil] []),u (.st l0 l1 2 [])] [] (q [f 0 v13,g l0,m v2,u (.ca N.dJ 0 [] [.l 1,.l 0]),x 14 l0] [] (q [w 15 (.al [z0,.nil] []),h 2 v6,f 1 v13,g l0,m v14,a 2 l1 l0,h 2 l0,m v3,m v4,m v5,u (.ca N.jB 0 [] [.l 8,.l 3,.l 2,.l 1,.l 0]),m l0,u (.ex l0 0),u (.ex l1 1),u (.st (.l 13) l1 2 []),x 16 l1] [(0,11)] (.seq (q [x 17 v16] [] (.blk 2 (.seq (q [u (.bin .eql v17 (.i 6)),x 18 l0] [] (.itv 18 .skip (.reg [u (.bin .eql v17 (.i 8)),x 18 l0] []))) (.itv 18 (q [h 1 v7,m v16,u (.st v8 l1 1 []),x 9 l1] [] .ret) (.ite [u (.bin .eql v17 (.i 43)),m l0] [] 0 (.exit 1) (.ite [u (.bin .eql v17 (.i 0)),m l0] [] 0 (.reg [f 1 v13,g l0,m v14,h 2 v15,a 2 l2 l1,u (.st l0 l1 2 [])] []) .skip)))))) (.reg [f 0 v11,g l0,h 2 v13,u (.bs [.l 0] 2),u (.app l2 l0 true 2),f 0 v11,u (.st l0 l1 1 [])] [])))))) (.reg [m v12,u (.bin .add l0 (.i 1)),x 12 l0] [])))
def tP:C:= .loop true [0,1,9,10,13,14,15,16,17,18] K.fO
def iW:Fn:= { aP:=6,vars:=[0,1,2,3,4,5,6,7,12,13,14,15,16,17,18,19,20,61,62],body:=(q [w 6 (.bx v0 2),w 7 (.bx v1 1),w 8 (.al [.nil] []),x 9 (.i 0)] [] (q [h 1 v7,u (.ca N.eT 0 [] [.l 0]),u (.st v7 l0 1 [])] [] (.seq (q [h 2 v6,h 1 v7,m v2,u (.ca N.fF 0 [] [.l 2,.l 1,.l 0]),x 10 l0] [] (.ite [m v10,u (.bin .neq l0 (.i 0))] [] 0 (q [h 1 v7,m v10,u (.st v8 l1 1 []),x 9 l1] [] .ret) .skip)) (q [w 11 (.al [.nil] [(0,2)])] [] (.seq (q [x 12 (.i 0)] [] (.blk 0 K.tP)) (.seq (.ite [f 0 v11,g l0,u (.ln l0),u (.bin .eql l0 (.i 0))] [] 0 (q [h 1 v7,u (.st v8 l0 1 []),x 9 (.i 43)] [] .ret) .skip) (q [h 1 v11,u (.st v8 l0 1 []),x 9 (.i 0)] [] .ret))))))),res:=[(8,some (1,true)),(9,none)]}
def dO:C:= (.seq (.ite [m v13,f 0 v8,g l0,u (.ln l0),u (.bin .lss l3 l0)] [] 0 .skip (.exit 0)) (.seq (.blk 1 (q [f 0 v8,g l0,m v13,a 2 l1 l0,h 2 l0,u (.ca N.bA 1 [] [.l 0]),w 14 (.al [.nil,.nil] []),u (.st l0 l1 2 [])] [] (q [f 0 v14,g l0,m v2,u (.ca N.dJ 0 [] [.l 1,.l 0]),x 15 l0] [] (q [w 16 (.al [z0,.nil] []),h 2 v7,f 1 v14,g l0,m v15,a 2 l1 l0,h 2 l0,m v3,m v4,m v5,m v6,u (.ca N.dK 0 [2] [.l 9,.l 4,.l 3,.l 2,.l 1,.l 0]),m l0,u (.ex l0 0),u (.ex l1 1),u (.st (.l 14) l1 2 []),x 17 l1] [(0,12)] (.seq (.ite [m v17,u (.bin .eql l0 (.i 6)),m l0,e 0 false v17,y 1 false (.bin .eql l0 (.i 8)),u (.pk l2 (.b true) l0)] [] 0 (q [h 1 v8,m v17,u (.st v9 l1 1 []),x 10 l1] [] .ret) .skip) (.seq (.ite [m v17,u (.bin .eql l0 (.i 0))] [] 0 (.reg [f 1 v14,g l0,m v15,h 2 v16,a 2 l2 l1,u (.st l0 l1 2 [])] []) .skip) (.reg [f 0 v12,g l0,h 2 v14,u (.bs [.l 0] 2),u (.app l2 l0 true 2),f 0 v12,u (.st l0 l1 1 [])] []))))))) (.reg [m v13,u (.bin .add l0 (.i 1)),x 13 l0] [])))
def oR:C:= .loop true [0,1,10,11,14,15,16,17] K.dO
def eY:Fn:= { aP:=7,vars:=[0,1,2,3,4,5,6,7,8,14,15,16,17,18,19,20,21,22],body:=(q [w 7 (.bx v0 2),w 8 (.bx v1 1),w 9 (.al [.nil] []),x 10 (.i 0)] [] (q [h 1 v8,u (.ca N.eT 0 [] [.l 0]),u (.st v8 l0 1 [])] [] (.seq (q [h 2 v7,h 1 v8,m v2,u (.ca N.fF 0 [] [.l 2,.l 1,.l 0]),x 11 l0] [] (.ite [m v11,u (.bin .neq l0 (.i 0))] [] 0 (q [h 1 v8,m v11,u (.st v9 l1 1 []),x 10 l1] [] .ret) .skip)) (q [w 12 (.al [.nil] [(0,2)])] [] (.seq (q [x 13 (.i 0)] [] (.blk 0 K.oR)) (q [h 1 v12,u (.st v9 l0 1 []),x 10 (.i 0)] [] .ret)))))),res:=[(9,some (1,true)),(10,none)]}
def kZ:Fn:= { aP:=2,vars:=[0,1,4],body:=(q [x 2 (.i 0)] [] (.seq (.ite [m v1,u (.bin .lss l0 (.i 1))] [] 0 (q [x 2 (.i 0)] [] .ret) .skip) (q [m v0,m v1,u (.bin .rem l1 l0),x 0 l0] [] (.seq (.ite [m v0,u (.bin .lss l0 (.i 0))] [] 0 (.reg [m v0,m v1,u (.bin .add l1 l0),x 0 l0] []) .skip) (q [m v0,x 2 l0] [] .ret))))),res:=[(2,none)]}
def jY:C:= (.seq (.ite [m v5,f 1 v2,g l0,u (.ln l0),u (.bin .lss l3 l0)] [] 0 .skip (.exit 0)) (.seq (.blk 1 (.ite [f 1 v2,g l0,m v5,a 1 l1 l0,g l0,m v1,u (.bin .leq l1 l0)] [] 0 (.reg [m v4,m v5,u (.bs [.l 0] 1),u (.app l2 l0 true 1),x 4 l0] []) .skip)) (.reg [m v5,u (.bin .add l0 (.i 1)),x 5 l0] [])))
def qQ:C:= .loop true [0,3] K.jY
def eB:Fn:= { aP:=2,vars:=[0,1,2,4,5,6],body:=(q [w 2 (.bx v0 2),w 3 (.mv (.c (.nil)))] [] (q [w 4 (.nw 1)] [] (.seq (q [x 5 (.i 0)] [] (.blk 0 K.qQ)) (q [m v4,x 3 l0] [] .ret)))),res:=[(3,none)]}
def oS:C:= (.seq (.ite [m v3,f 0 v1,g l0,u (.ln l0),u (.bin .lss l3 l0)] [] 0 .skip (.exit 0)) (.seq (.blk 1 (q [f 0 v1,g l0,m v3,a 2 l1 l0,f 0 l0,g l0,x 4 l0] [] (.ite [m v4,u (.bin .lss l0 (.i (-10000))),m l0,e 0 false v4,y 1 false (.bin .gtr l0 (.i 10000)),u (.pk l2 (.b true) l0)] [] 0 (q [x 2 (.i 1)] [] .ret) .skip))) (.reg [m v3,u (.bin .add l0 (.i 1)),x 3 l0] [])))
def wc:C:= .loop true [0,2,4,5,6] K.oS
def oT:C:= (.seq (.ite [m v5,f 1 v1,g l0,u (.ln l0),u (.bin .lss l3 l0)] [] 0 .skip (.exit 2)) (.seq (.blk 3 (q [f 1 v1,g l0,m v5,a 10 l1 l0,h 10 l0,w 6 (.al [z0,z0,z0,z0,z1,z1,z0,z0,z0,z0] []),u (.st l0 l1 10 [])] [] (.seq (.ite [f 0 v6,g l0,u (.bin .lss l0 (.i 0)),m l0,y 0 false (.fa v6 0),i 1 false l0,y 2 false (.fa v1 0),i 3 false l0,y 4 false (.ln l0),y 5 false (.bin .geq l3 l0),u (.pk l6 (.b true) l0),m l0,y 0 false (.fa v6 1),i 1 false l0,y 2 false (.bin .lss l0 (.i 0)),u (.pk l3 (.b true) l0),m l0,y 0 false (.fa v6 1),i 1 false l0,y 2 false (.fa v1 0),i 3 false l0,y 4 false (.ln l0),y 5 false (.bin .geq l3 l0),u (.pk l6 (.b true) l0),m l0,y 0 false (.fa v6 0),i 1 false l0,y 2 false (.fa v6 1),i 3 false l0,y 4 false (.bin .eql l2 l0),u (.pk l5 (.b true) l0)] [] 0 (q [x 2 (.i 4)] [] .ret) .skip) (.ite [f 2 v6,g l0,u (.bin .lss l0 (.i 1)),m l0,y 0 false (.fa v6 2),i 1 false l0,y 2 false (.bin .gtr l0 (.i 100000)),u (.pk l3 (.b true) l0),m l0,y 0 false (.fa v6 3),i 1 false l0,y 2 false (.bin .lss l0 (.i 1)),u (.pk l3 (.b true) l0),m l0,y 0 false (.fa v6 3),i 1 false l0,y 2 false (.bin .gtr l0 (.i 1000)),u (.pk l3 (.b true) l0),m l0,y 0 false (.fa v6 6),y 1 false (.ld l0 2 true),y 2 false (.ca N.iY 0 [] [.l 0,.i 1,.i 262144]),y 3 false (.un .not l0),u (.pk l4 (.b true) l0),m l0,y 0 false (.fa v6 8),y 1 false (.ld l0 2 true),y 2 false (.ca N.iY 0 [] [.l 0,.i (-2199023255552),.i 2199023255552]),y 3 false (.un .not l0),u (.pk l4 (.b true) l0)] [] 0 (q [x 2 (.i 1)] [] .ret) .skip)))) (.reg [m v5,u (.bin .add l0 (.i 1)),x 5 l0] [])))
def we:C:= .loop true [0,2,3,4,6] K.oT
def di:Fn:= { aP:=1,vars:=[0,1,2,3,4,5,6],body:=(q [w 1 (.bx v0 2),x 2 (.i 0)] [] (.seq (.ite [f 0 v1,g l0,u (.ln l0),u (.bin .gtr l0 (.i 64)),m l0,y 0 false (.fa v1 1),i 1 false l0,y 2 false (.ln l0),y 3 false (.bin .gtr l0 (.i 128)),u (.pk l4 (.b true) l0)] [] 0 (q [x 2 (.i 2)] [] .ret) .skip) (.seq (q [x 3 (.i 0)] [] (.blk 0 K.wc)) (.seq (q [x 5 (.i 0)] [] (.blk 2 K.we)) (q [x 2 (.i 0)] [] .ret))))),res:=[(2,none)]}
def jr:C:= (.seq (.ite [m v3,m v0,u (.ln l0),u (.bin .lss l2 l0)] [] 0 .skip (.exit 0)) (.seq (.blk 1 (.ite [m v0,m v3,a 1 l1 l0,g l0,u (.bin .lss l0 (.i 0)),m l0,e 0 false v0,e 1 false v3,y 2 false (.ia l1 l0 1),i 3 false l0,e 4 false v1,y 5 false (.bin .geq l1 l0),u (.pk l6 (.b true) l0),m l0,e 0 false v3,y 1 false (.bin .gtr l0 (.i 0)),e 2 false l0,e 0 true v0,e 1 true v3,y 2 true (.ia l1 l0 1),i 3 true l0,e 4 true v0,e 5 true v3,y 6 true (.bin .sub l0 (.i 1)),y 7 true (.ia l2 l0 1),i 8 true l0,y 9 true (.bin .leq l5 l0),y 13 false (.pk l10 l0 (.b false)),u (.pk (.l 14) (.b true) l0)] [] 0 (q [x 2 (.b false)] [] .ret) .skip)) (.reg [m v3,u (.bin .add l0 (.i 1)),x 3 l0] [])))
def Ah:C:= .loop true [2] K.jr
def iX:Fn:= { aP:=2,vars:=[0,1,4,5],body:=(q [x 2 (.b false)] [] (.seq (q [x 3 (.i 0)] [] (.blk 0 K.Ah)) (q [x 2 (.b true)] [] .ret))),res:=[(2,none)]}
def iw:C:= (.seq (.ite [m v2,m v0,u (.ln l0),u (.bin .lss l2 l0)] [] 0 .skip (.exit 0)) (.seq (.blk 1 (.ite [m v0,m v2,a 1 l1 l0,g l0,u (.bin .lss l0 (.i 1)),m l0,e 0 false v0,e 1 false v2,y 2 false (.ia l1 l0 1),i 3 false l0,y 4 false (.bin .gtr l0 (.i 65535)),u (.pk l5 (.b true) l0),m l0,e 0 false v0,e 1 false v2,y 2 false (.sc l1 none (some l0) 1),e 3 false v0,e 4 false v2,y 5 false (.ia l1 l0 1),i 6 false l0,y 7 false (.ca N.dJ 0 [] [.l 4,.l 0]),y 8 false (.bin .geq l0 (.i 0)),u (.pk l9 (.b true) l0)] [] 0 (q [x 1 (.b false)] [] .ret) .skip)) (.reg [m v2,u (.bin .add l0 (.i 1)),x 2 l0] [])))
def tQ:C:= .loop true [1] K.iw
def fY:Fn:= { aP:=1,vars:=[0,2,3],body:=(q [x 1 (.b false)] [] (.seq (q [x 2 (.i 0)] [] (.blk 0 K.tQ)) (q [x 1 (.b true)] [] .ret))),res:=[(1,none)]}
def fD:Fn:= { aP:=3,vars:=[0,1,2,3,6,7,8],body:=(q [w 3 (.bx v0 2),w 4 (.al [z0,.nil] []),x 5 (.i 0)] [] (.seq (.blk 0 (.ite [h 2 v3,u (.ca N.di 0 [] [.l 0]),u (.bin .neq l0 (.i 0)),m l0] [] 0 (q [u (.bd [z0,.nil] []),u (.st v4 l0 2 []),x 5 (.i 6)] [] .ret) (.ite [m v1,u (.bin .lss l0 (.i 0)),m l0,e 0 false v1,y 1 false (.fa v3 0),i 2 false l0,y 3 false (.ln l0),y 4 false (.bin .geq l3 l0),u (.pk l5 (.b true) l0),m l0] [] 0 (q [u (.bd [z0,.nil] []),u (.st v4 l0 2 []),x 5 (.i 3)] [] .ret) (.ite [m v2,u (.ca N.dX 0 [] [.l 0]),u (.un .not l0),m l0] [] 0 (q [u (.bd [z0,.nil] []),u (.st v4 l0 2 []),x 5 (.i 8)] [] .ret) .skip)))) (q [f 0 v3,g l0,u (.ln l0),u (.ca N.gZ 1 [] [.l 0]),x 6 l0] [] (q [m v6,m v1,m v2,a 1 l2 l1,u (.st l0 l1 1 [])] [] (q [m v2,h 2 v3,m v6,m v2,u (.ca N.eH 0 [] [.l 2,.l 1,.l 0]),u (.bd [z0,.nil] [(0,1,.l 4),(1,1,.l 0)]),u (.st v4 l0 2 []),x 5 (.i 0)] [] .ret))))),res:=[(4,some (2,true)),(5,none)]}
end Go.Ev.K
namespace Go.Ev
class bX [Lib]:Prop where
 tR:Lib.fs N.jD=some K.jD
 wW:Lib.fs N.kO=some K.kO
 nG:Lib.fs N.du=some K.du
 me:Lib.fs N.cP=some K.cP
 nH:Lib.fs N.aB=some K.aB
 p4:Lib.fs N.cK=some K.cK
 wX:Lib.fs N.cZ=some K.cZ
 nI:Lib.fs N.ez=some K.ez
 oU:Lib.fs N.cB=some K.cB
 nJ:Lib.fs N.cT=some K.cT
 rH:Lib.fs N.dS=some K.dS
 nK:Lib.fs N.bw=some K.bw
 wY:Lib.fs N.iW=some K.iW
 p5:Lib.fs N.eY=some K.eY
 zm:Lib.fs N.kZ=some K.kZ
 nL:Lib.fs N.eB=some K.eB
 rI:Lib.fs N.di=some K.di
 wZ:Lib.fs N.iX=some K.iX
 p6:Lib.fs N.fY=some K.fY
 rJ:Lib.fs N.fD=some K.fD
namespace K
variable [Lib] [bX]
theorem tR:Lib.fs N.jD=some K.jD:=bX.tR
theorem wW:Lib.fs N.kO=some K.kO:=bX.wW
theorem nG:Lib.fs N.du=some K.du:=bX.nG
theorem me:Lib.fs N.cP=some K.cP:=bX.me
theorem nH:Lib.fs N.aB=some K.aB:=bX.nH
theorem p4:Lib.fs N.cK=some K.cK:=bX.p4
theorem wX:Lib.fs N.cZ=some K.cZ:=bX.wX
theorem nI:Lib.fs N.ez=some K.ez:=bX.nI
theorem oU:Lib.fs N.cB=some K.cB:=bX.oU
theorem nJ:Lib.fs N.cT=some K.cT:=bX.nJ
theorem rH:Lib.fs N.dS=some K.dS:=bX.rH
theorem nK:Lib.fs N.bw=some K.bw:=bX.nK
theorem wY:Lib.fs N.iW=some K.iW:=bX.wY
theorem p5:Lib.fs N.eY=some K.eY:=bX.p5
theorem zm:Lib.fs N.kZ=some K.kZ:=bX.zm
theorem nL:Lib.fs N.eB=some K.eB:=bX.nL
theorem rI:Lib.fs N.di=some K.di:=bX.rI
theorem wZ:Lib.fs N.iX=some K.iX:=bX.wZ
theorem p6:Lib.fs N.fY=some K.fY:=bX.p6
theorem rJ:Lib.fs N.fD=some K.fD:=bX.rJ
end K
end Go.Ev
namespace Go.Ev.K
open Go.Ev
def p7:C:= (.seq (.ite [m v4,f 0 v1,g l0,u (.ln l0),u (.bin .lss l3 l0)] [] 0 .skip (.exit 0)) (.seq (.blk 1 (.reg [f 0 v3,g l0,f 0 v1,g l0,m v4,a 2 l1 l0,h 2 l0,u (.ca N.bA 0 [] [.l 0]),u (.bs [.l 0] 2),u (.app l7 l0 true 2),f 0 v3,u (.st l0 l1 1 [])] [(1,8),(1,9)])) (.reg [m v4,u (.bin .add l0 (.i 1)),x 4 l0] [])))
def yb:C:= .loop true [0] K.p7
def eT:Fn:= { aP:=1,vars:=[0,1,2,3,4],body:=(q [w 1 (.bx v0 1),w 2 (.al [.nil] [])] [] (q [w 3 (.al [.nil] [(0,2)])] [] (.seq (q [x 4 (.i 0)] [] (.blk 0 K.yb)) (q [h 1 v3,u (.st v2 l0 1 [])] [] .ret)))),res:=[(2,some (1,true))]}
def i7:C:= (.seq (.ite [m v8,f 0 v7,g l0,u (.ln l0),u (.bin .lss l3 l0)] [] 0 .skip (.exit 2)) (.seq (.blk 3 (.ite [m v5,f 0 v7,g l0,m v8,a 1 l1 l0,g l0,u (.ca N.dJ 0 [] [.l 5,.l 0]),u (.bin .lss l0 (.i 0)),m l0,y 0 false (.ld v2 2 true),y 1 false (.fa v7 1),i 2 false l0,e 3 false v8,y 4 false (.ia l1 l0 2),y 5 false (.ld l0 2 true),y 6 false (.ca N.gB 0 [] [.l 5,.l 0]),y 7 false (.un .not l0),u (.pk l8 (.b true) l0)] [] 0 (q [x 4 (.b false)] [] .ret) .skip)) (.reg [m v8,u (.bin .add l0 (.i 1)),x 8 l0] [])))
def p8:C:= .loop true [0,1,4] K.i7
def cD:C:= (.seq (.ite [m v6,f 0 v3,g l0,u (.ln l0),u (.bin .lss l3 l0)] [] 0 .skip (.exit 0)) (.seq (.blk 1 (q [f 0 v3,g l0,m v6,a 2 l1 l0,h 2 l0,w 7 (.al [.nil,.nil] []),u (.st l0 l1 2 [])] [] (.seq (.ite [f 0 v7,g l0,u (.ln l0),m v5,u (.ln l0),u (.bin .neq l2 l0),m l0,y 0 false (.fa v7 1),i 1 false l0,y 2 false (.ln l0),e 3 false v5,y 4 false (.ln l0),y 5 false (.bin .neq l2 l0),u (.pk l6 (.b true) l0),m l0,y 0 false (.fa v7 0),i 1 false l0,y 2 false (.ca N.fY 0 [] [.l 0]),y 3 false (.un .not l0),u (.pk l4 (.b true) l0),m l0,e 0 false v6,y 1 false (.bin .gtr l0 (.i 0)),e 2 false l0,y 0 true (.fa v3 0),i 1 true l0,e 2 true v6,y 3 true (.bin .sub l0 (.i 1)),y 4 true (.ia l2 l0 2),y 5 true (.fa l0 0),i 6 true l0,y 7 true (.fa v7 0),i 8 true l0,y 9 true (.ca N.iZ 0 [] [.l 2,.l 0]),y 10 true (.un .not l0),y 14 false (.pk l11 l0 (.b false)),u (.pk (.l 15) (.b true) l0)] [] 0 (q [x 4 (.b false)] [] .ret) .skip) (q [x 8 (.i 0)] [] (.blk 2 K.p8))))) (.reg [m v6,u (.bin .add l0 (.i 1)),x 6 l0] [])))
def p9:C:= .loop true [0,1,4,7,8] K.cD
def dI:Fn:= { aP:=2,vars:=[0,1,2,3,4,5,6,7,8],body:=(q [w 2 (.bx v0 2),w 3 (.bx v1 1),x 4 (.b false)] [] (.seq (.ite [f 0 v3,g l0,u (.ln l0),u (.bin .lss l0 (.i 1)),m l0,y 0 false (.fa v3 0),i 1 false l0,y 2 false (.ln l0),y 3 false (.bin .gtr l0 (.i 24)),u (.pk l4 (.b true) l0),m l0,y 0 false (.ld v2 2 true),y 1 false (.ca N.di 0 [] [.l 0]),y 2 false (.bin .neq l0 (.i 0)),u (.pk l3 (.b true) l0)] [] 0 (q [x 4 (.b false)] [] .ret) .skip) (q [f 0 v3,g l0,a 2 l0 (.i 0),f 0 l0,g l0,x 5 l0] [] (.seq (.ite [m v5,u (.ln l0),u (.bin .lss l0 (.i 1)),m l0,e 0 false v5,y 1 false (.ln l0),y 2 false (.bin .gtr l0 (.i 12)),u (.pk l3 (.b true) l0)] [] 0 (q [x 4 (.b false)] [] .ret) .skip) (.seq (q [x 6 (.i 0)] [] (.blk 0 K.p9)) (q [x 4 (.b true)] [] .ret)))))),res:=[(4,none)]}
def lA:C:= (.seq (.ite [m v4,f 1 v1,g l0,u (.ln l0),u (.bin .lss l3 l0)] [] 0 .skip (.exit 0)) (.seq (.blk 1 (.reg [f 1 v3,g l0,f 1 v1,g l0,m v4,a 2 l1 l0,h 2 l0,u (.ca N.dh 0 [] [.l 0]),u (.bs [.l 0] 2),u (.app l7 l0 true 2),f 1 v3,u (.st l0 l1 1 [])] [(1,8),(1,9)])) (.reg [m v4,u (.bin .add l0 (.i 1)),x 4 l0] [])))
def pK:C:= .loop true [0] K.lA
def bA:Fn:= { aP:=1,vars:=[0,1,2,3,4],body:=(q [w 1 (.bx v0 2),w 2 (.al [.nil,.nil] [])] [] (q [f 0 v1,g l0,u (.app (.c (.nil)) l0 true 1),u (.bd [.nil,.nil] [(0,1,.l 0)]),w 3 (.al [.nil,.nil] [(1,2)]),u (.st l0 l1 2 [(1,2)])] [] (.seq (q [x 4 (.i 0)] [] (.blk 0 K.pK)) (q [h 2 v3,u (.st v2 l0 2 [])] [] .ret)))),res:=[(2,some (2,true))]}
def jH:C:= (.seq (.ite [m v6,f 1 v3,g l0,u (.ln l0),u (.bin .lss l3 l0),m l0,e 0 true v6,y 1 true (.fa v4 1),i 2 true l0,y 3 true (.ln l0),y 4 true (.bin .lss l3 l0),u (.pk l5 l0 (.b false))] [] 0 .skip (.exit 0)) (.seq (.blk 1 (.ite [f 1 v3,g l0,m v6,a 1 l1 l0,g l0,m v2,u (.bin .leq l1 l0),m l0,y 0 true (.fa v4 1),i 1 true l0,e 2 true v6,y 3 true (.ia l1 l0 1),i 4 true l0,e 5 true v2,y 6 true (.bin .leq l1 l0),u (.pk l7 l0 (.b false))] [] 0 (q [x 5 (.b true)] [] .ret) .skip)) (.reg [m v6,u (.bin .add l0 (.i 1)),x 6 l0] [])))
def yc:C:= .loop true [0,1,5] K.jH
def jE:Fn:= { aP:=3,vars:=[0,1,2,3,4,6,7],body:=(q [w 3 (.bx v0 2),w 4 (.bx v1 2),x 5 (.b false)] [] (.seq (q [x 6 (.i 0)] [] (.blk 0 K.yc)) (q [x 5 (.b false)] [] .ret))),res:=[(5,none)]}
def fE:Fn:= { aP:=2,vars:=[0,1,2,4,5],body:=(q [w 2 (.bx v0 2),w 3 (.al [z0,.nil] []),x 4 (.i 0)] [] (q [h 2 v2,u (.ca N.dh 0 [] [.l 0]),u (.st v2 l0 2 [])] [] (.seq (.ite [m v1,f 0 v2,g l0,u (.bin .lss l2 l0),m l0,e 0 false v1,y 1 false (.bin .gtr l0 (.i 2147483648)),u (.pk l2 (.b true) l0)] [] 0 (q [h 2 v2,u (.st v3 l0 2 []),x 4 (.i 8)] [] .ret) .skip) (q [m v1,f 0 v2,u (.st l0 l1 1 [])] [] (q [h 2 v2,u (.st v3 l0 2 []),x 4 (.i 0)] [] .ret))))),res:=[(3,some (2,true)),(4,none)]}
def kP:C:= (.seq (.ite [m v4,m v2,u (.ln l0),u (.bin .lss l2 l0),m l0,e 0 true v2,e 1 true v4,y 2 true (.ia l1 l0 2),y 3 true (.fa l0 0),i 4 true l0,e 5 true v0,e 6 true v3,y 7 true (.ia l1 l0 2),y 8 true (.fa l0 0),i 9 true l0,y 10 true (.ca N.iZ 0 [] [.l 5,.l 0]),u (.pk l11 l0 (.b false))] [] 0 .skip (.exit 2)) (.blk 3 (.reg [m v4,u (.bin .add l0 (.i 1)),x 4 l0] [])))
def rK:C:= .loop false [1,5] K.kP
def m9:C:= (.seq (.ite [m v5,m v2,m v4,a 2 l1 l0,f 1 l0,g l0,u (.ln l0),u (.bin .lss l6 l0),m l0,e 0 true v5,e 1 true v0,e 2 true v3,y 3 true (.ia l1 l0 2),y 4 true (.fa l0 1),i 5 true l0,y 6 true (.ln l0),y 7 true (.bin .lss l6 l0),u (.pk l8 l0 (.b false))] [] 0 .skip (.exit 4)) (.seq (.blk 5 (.reg [m v2,m v4,a 2 l1 l0,f 1 l0,g l0,m v5,m v2,m v4,a 2 l1 l0,f 1 l0,g l0,m v5,a 2 l1 l0,h 2 l0,m v0,m v3,a 2 l1 l0,f 1 l0,g l0,m v5,a 2 l1 l0,h 2 l0,u (.ca N.i4 0 [] [.l 8,.l 0]),m l0,u (.ex l0 0),u (.ex l1 1),a 2 (.l 21) (.l 20),u (.st l0 l2 2 [])] [(2,23),(4,23)])) (.reg [m v5,u (.bin .add l0 (.i 1)),x 5 l0] [])))
def yd:C:= .loop false [1] K.m9
def fP:C:= (.seq (.ite [m v3,m v0,u (.ln l0),u (.bin .lss l2 l0)] [] 0 .skip (.exit 0)) (.seq (.blk 1 (q [x 4 (.i 0)] [] (.seq (.blk 2 K.rK) (.seq (.ite [m v4,m v2,u (.ln l0),u (.bin .lss l2 l0),m l0,e 0 true v2,e 1 true v4,y 2 true (.ia l1 l0 2),y 3 true (.fa l0 0),i 4 true l0,e 5 true v0,e 6 true v3,y 7 true (.ia l1 l0 2),y 8 true (.fa l0 0),i 9 true l0,y 10 true (.ca N.dv 0 [] [.l 5,.l 0]),u (.pk l11 l0 (.b false))] [] 0 (.seq (q [x 5 (.i 0)] [] (.blk 4 K.yd)) (.exit 1)) .skip) (.reg [m v2,m v4,u (.sc l1 none (some l0) 2),u (.app (.c (.nil)) l0 false 2),m v0,m v3,a 2 l1 l0,h 2 l0,u (.ca N.bA 1 [] [.l 0]),u (.bsr [.l 0] 2),u (.app l6 l0 false 2),m v2,m v4,u (.sc l1 (some l0) none 2),u (.app l3 l0 false 2),x 2 l0] [(6,0),(7,0),(13,0),(13,4),(13,9),(13,10)]))))) (.reg [m v3,u (.bin .add l0 (.i 1)),x 3 l0] [])))
def ye:C:= .loop false [1,4,5] K.fP
def jF:Fn:= { aP:=1,vars:=[0,2,3,4,5,6],body:=(q [w 1 (.mv (.c (.nil)))] [] (q [w 2 (.mv (.c (.nil)))] [] (.seq (q [x 3 (.i 0)] [] (.blk 0 K.ye)) (q [m v2,x 1 l0] [] .ret)))),res:=[(1,none)]}
def fF:Fn:= { aP:=3,vars:=[0,1,2,3,4,6],body:=(q [w 3 (.bx v0 2),w 4 (.bx v1 1),x 5 (.i 0)] [] (.seq (.ite [h 2 v3,h 1 v4,u (.ca N.dI 0 [] [.l 1,.l 0]),u (.un .not l0)] [] 0 (q [x 5 (.i 6)] [] .ret) .skip) (.seq (.ite [f 0 v4,g l0,a 2 l0 (.i 0),f 0 l0,g l0,m v2,u (.ca N.dJ 0 [] [.l 1,.l 0]),u (.bin .lss l0 (.i 0))] [] 0 (q [x 5 (.i 41)] [] .ret) .skip) (q [x 5 (.i 0)] [] .ret)))),res:=[(5,none)]}
def lk:C:= (.seq (.ite [m v3,m v0,u (.ln l0),u (.bin .lss l2 l0)] [] 0 .skip (.exit 0)) (.seq (.blk 1 (.ite [m v0,m v3,a 1 l1 l0,g l0,m v1,u (.bin .eql l1 l0)] [] 0 (q [m v3,x 2 l0] [] .ret) .skip)) (.reg [m v3,u (.bin .add l0 (.i 1)),x 3 l0] [])))
def tS:C:= .loop true [2] K.lk
def dJ:Fn:= { aP:=2,vars:=[0,1,4,5],body:=(q [x 2 (.i 0)] [] (.seq (q [x 3 (.i 0)] [] (.blk 0 K.tS)) (q [w 2 (.mv (.i (-1)))] [] .ret))),res:=[(2,none)]}
def ow:C:= (.seq (.ite [m v12,m v2,u (.ln l0),u (.bin .lss l2 l0)] [] 0 .skip (.exit 0)) (.seq (.blk 1 (q [m v2,m v12,a 1 l1 l0,g l0,x 13 l0] [] (.ite [f 1 v6,g l0,m v13,a 1 l1 l0,g l0,m v4,u (.bin .leq l1 l0)] [] 0 (.reg [m v10,m v13,f 1 v6,g l0,m v13,a 1 l1 l0,g l0,a 1 l6 l5,u (.st l0 l1 1 []),x 11 (.b true)] []) .skip))) (.reg [m v12,u (.bin .add l0 (.i 1)),x 12 l0] [])))
def Ai:C:= .loop true [0,1,8,9,13] K.ow
def jB:Fn:= { aP:=5,vars:=[0,1,2,3,4,5,6,10,11,12,13,14,15,16],body:=(q [w 5 (.bx v0 2),w 6 (.bx v1 2),w 7 (.al [z0,.nil] []),x 8 (.i 0)] [] (.seq (q [h 2 v5,h 2 v6,m v2,m v3,m v4,u (.ca N.dj 0 [] [.l 4,.l 3,.l 2,.l 1,.l 0]),x 9 l0] [] (.ite [m v9,u (.bin .neq l0 (.i 0))] [] 0 (q [h 2 v6,u (.ca N.dh 0 [] [.l 0]),m v9,u (.st v7 l1 2 []),x 8 l1] [] .ret) .skip)) (.seq (.ite [m v3,f 0 v6,g l0,u (.bin .lss l2 l0)] [] 0 (q [h 2 v6,u (.ca N.dh 0 [] [.l 0]),u (.st v7 l0 2 []),x 8 (.i 42)] [] .ret) .skip) (q [f 0 v5,g l0,u (.ln l0),u (.ca N.gZ 1 [] [.l 0]),x 10 l0] [] (q [x 11 (.b false)] [] (.seq (q [x 12 (.i 0)] [] (.blk 0 K.Ai)) (.seq (.ite [m v11,u (.un .not l0)] [] 0 (q [h 2 v6,u (.ca N.dh 0 [] [.l 0]),u (.st v7 l0 2 []),x 8 (.i 43)] [] .ret) .skip) (q [m v4,h 2 v5,m v10,m v3,u (.ca N.eH 0 [] [.l 2,.l 1,.l 0]),u (.bd [z0,.nil] [(0,1,.l 4),(1,1,.l 0)]),u (.st v7 l0 2 []),x 8 (.i 0)] [] .ret)))))))),res:=[(7,some (2,true)),(8,none)]}
def nM:C:= (.seq (.ite [m v12,m v2,u (.ln l0),u (.bin .lss l2 l0)] [] 0 .skip (.exit 0)) (.seq (.blk 1 (.reg [m v11,m v2,m v12,a 1 l1 l0,g l0,a 1 l4 l0,u (.st l0 (.i 1099511627776) 1 [])] [])) (.reg [m v12,u (.bin .add l0 (.i 1)),x 12 l0] [])))
def tT:C:= .loop true [0,1,3,7,9,10] K.nM
def dK:Fn:= { aP:=6,vars:=[0,1,2,3,4,5,6,7,12,13,14,15,16],body:=(q [w 6 (.bx v0 2),w 7 (.bx v1 2),w 8 (.al [z0,.nil] []),x 9 (.i 0)] [] (.seq (q [h 2 v6,h 2 v7,m v2,m v3,m v4,u (.ca N.dj 0 [] [.l 4,.l 3,.l 2,.l 1,.l 0]),x 10 l0] [] (.ite [m v10,u (.bin .neq l0 (.i 0))] [] 0 (q [h 2 v7,u (.ca N.dh 0 [] [.l 0]),m v10,u (.st v8 l1 2 []),x 9 l1] [] .ret) .skip)) (.seq (.ite [m v5,u (.ca N.dX 0 [] [.l 0]),u (.un .not l0)] [] 0 (q [h 2 v7,u (.ca N.dh 0 [] [.l 0]),u (.st v8 l0 2 []),x 9 (.i 8)] [] .ret) .skip) (.seq (.ite [m v4,f 0 v7,g l0,u (.bin .lss l2 l0)] [] 0 (q [h 2 v7,u (.ca N.dh 0 [] [.l 0]),u (.st v8 l0 2 []),x 9 (.i 42)] [] .ret) .skip) (.seq (.ite [m v4,m v3,f 0 v7,g l0,u (.mx [.l 2,.l 0]),u (.bin .sub l4 l0),m v5,u (.bin .leq l1 l0)] [] 0 (q [h 2 v7,u (.ca N.dh 0 [] [.l 0]),u (.st v8 l0 2 []),x 9 (.i 0)] [] .ret) .skip) (q [f 1 v7,g l0,u (.app (.c (.nil)) l0 true 1),x 11 l0] [] (.seq (q [x 12 (.i 0)] [] (.blk 0 K.tT)) (q [m v4,h 2 v6,h 2 v6,m v11,m v4,m v5,u (.bin .sub l1 l0),m v2,u (.ca N.gC 0 [3] [.l 5,.l 4,.l 1,.l 0]),m v4,u (.ca N.eH 0 [] [.l 8,.l 1,.l 0]),u (.bd [z0,.nil] [(0,1,.l 10),(1,1,.l 0)]),u (.st v8 l0 2 []),x 9 (.i 0)] [(1,9)] .ret)))))))),res:=[(8,some (2,true)),(9,none)]}
def mh:C:= (.its [u (.bin .lss v6 v5)] [] 0 .skip (.exit 0) (.seq (.blk 1 (q [m v6,x 4 l0] [] (.ite [m v1,m v4,u (.cw l1 0 [] [.l 0])] [] 0 (.reg [m v3,m v4,u (.bs [.l 0] 1),u (.app l2 l0 true 1),x 3 l0] []) .skip))) (.reg [u (.bin .add v6 (.i 1)),x 6 l0] [])))
def wg:C:= .loop true [0,2,4] K.mh
def gz:Fn:= { aP:=2,vars:=[0,1,4,5,6,7,8],body:=(q [w 2 (.mv (.c (.nil)))] [] (q [w 3 (.nw 1)] [] (.seq (q [x 5 v0,x 6 (.i 0)] [] (.blk 0 K.wg)) (q [m v3,x 2 l0] [] .ret)))),res:=[(2,none)]}
def aK:Fn:= { aP:=2,vars:=[0,1,4],body:=(q [x 2 (.b false)] [] (q [m v0,m v1,u (.ca N.aI 0 [] [.l 1,.l 0]),u (.bin .geq l0 (.i 0)),x 2 l0] [] .ret)),res:=[(2,none)]}
def aO:Fn:= { aP:=2,vars:=[0,1,4],body:=(q [x 2 (.b false)] [] (q [m v0,m v1,u (.ca N.bT 0 [] [.l 1,.l 0]),u (.bin .geq l0 (.i 0)),x 2 l0] [] .ret)),res:=[(2,none)]}
def eC:Fn:= { aP:=3,vars:=[0,1,2,3,4,5,6],body:=(q [w 3 (.bx v0 1),w 4 (.bx v1 1),w 5 (.bx v2 1),w 6 (.mv (.c (.nil)))] [] (q [u (.mf N.cC [.v 3,.v 4,.v 5]),u (.ca N.gz 0 [] [.i 64,.l 0]),x 6 l0] [] .ret)),res:=[(6,none)]}
def iY:Fn:= { aP:=3,vars:=[0,1,2,3,6],body:=(q [w 3 (.bx v0 2),x 4 (.b false)] [] (q [m v1,f 0 v3,g l0,u (.bin .leq l2 l0),m l0,y 0 true (.fa v3 0),i 1 true l0,y 2 true (.fa v3 1),i 3 true l0,y 4 true (.bin .leq l2 l0),u (.pk l5 l0 (.b false)),m l0,y 0 true (.fa v3 1),i 1 true l0,e 2 true v2,y 3 true (.bin .leq l1 l0),u (.pk l4 l0 (.b false)),x 4 l0] [] .ret)),res:=[(4,none)]}
def dX:Fn:= { aP:=1,vars:=[0,2],body:=(q [x 1 (.b false)] [] (q [m v0,u (.bin .geq l0 (.i 0)),m l0,e 0 true v0,y 1 true (.bin .leq l0 (.i 2147483648)),u (.pk l2 l0 (.b false)),x 1 l0] [] .ret)),res:=[(1,none)]}
def oV:C:= (.seq (.ite [m v3,m v0,u (.bin .lss l1 l0)] [] 0 .skip (.exit 0)) (.seq (.blk 1 (.reg [m v2,u (.bs [.i 1099511627776] 1),u (.app l1 l0 true 1),x 2 l0] [])) (.reg [m v3,u (.bin .add l0 (.i 1)),x 3 l0] [])))
def wm:C:= .loop true [1] K.oV
def gZ:Fn:= { aP:=1,vars:=[0,2,3,4],body:=(q [w 1 (.mv (.c (.nil)))] [] (q [w 2 (.nw 1)] [] (.seq (q [x 3 (.i 0)] [] (.blk 0 K.wm)) (q [m v2,x 1 l0] [] .ret)))),res:=[(1,none)]}
def eH:Fn:= { aP:=3,vars:=[0,1,2,3,6],body:=(q [w 3 (.bx v0 2),w 4 (.mv (.c (.nil)))] [] (q [h 2 v3,m v1,m v2,u (.ca N.gC 0 [3] [.l 2,.l 1,.l 0,.c (.nil)]),x 4 l0] [] .ret)),res:=[(4,none)]}
def jI:C:= (.seq (.ite [m v3,m v0,u (.ln l0),u (.bin .lss l2 l0),m l0,e 0 true v3,e 1 true v1,y 2 true (.ln l0),y 3 true (.bin .lss l2 l0),u (.pk l4 l0 (.b false))] [] 0 .skip (.exit 0)) (.seq (.blk 1 (.ite [m v0,m v3,a 1 l1 l0,g l0,m v1,m v3,a 1 l1 l0,g l0,u (.bin .neq l4 l0)] [] 0 (q [m v0,m v3,a 1 l1 l0,g l0,m v1,m v3,a 1 l1 l0,g l0,u (.bin .lss l4 l0),x 2 l0] [] .ret) .skip)) (.reg [m v3,u (.bin .add l0 (.i 1)),x 3 l0] [])))
def yf:C:= .loop true [2] K.jI
def iZ:Fn:= { aP:=2,vars:=[0,1,4,5],body:=(q [x 2 (.b false)] [] (.seq (q [x 3 (.i 0)] [] (.blk 0 K.yf)) (q [m v0,u (.ln l0),m v1,u (.ln l0),u (.bin .lss l2 l0),x 2 l0] [] .ret))),res:=[(2,none)]}
def gB:Fn:= { aP:=2,vars:=[0,1,2,3,4],body:=(q [w 2 (.bx v0 2),w 3 (.bx v1 2),x 4 (.b false)] [] (q [h 2 v2,u (.ca N.di 0 [] [.l 0]),u (.bin .eql l0 (.i 0)),m l0,y 0 true (.ld v3 2 true),y 1 true (.fa v2 0),i 2 true l0,y 3 true (.ln l0),y 4 true (.ca N.dT 0 [] [.l 3,.l 0]),u (.pk l5 l0 (.b false)),m l0,y 0 true (.ld v2 2 true),y 1 true (.fa v3 1),i 2 true l0,y 3 true (.fa v3 0),i 4 true l0,y 5 true (.ca N.eH 0 [] [.l 4,.l 2,.l 0]),y 6 true (.fa v3 1),i 7 true l0,y 8 true (.ca N.dv 0 [] [.l 2,.l 0]),u (.pk l9 l0 (.b false)),x 4 l0] [(18,9)] .ret)),res:=[(4,none)]}
def dh:Fn:= { aP:=1,vars:=[0,1,2],body:=(q [w 1 (.bx v0 2),w 2 (.al [z0,.nil] [])] [] (q [f 0 v1,g l0,f 1 v1,g l0,u (.app (.c (.nil)) l0 true 1),u (.bd [z0,.nil] [(0,1,.l 3),(1,1,.l 0)]),u (.st v2 l0 2 [])] [(1,5)] .ret)),res:=[(2,some (2,true))]}
def jZ:C:= (.seq (.ite [m v3,m v0,u (.ln l0),u (.bin .lss l2 l0)] [] 0 .skip (.exit 0)) (.seq (.blk 1 (.ite [m v0,m v3,a 1 l1 l0,g l0,m v1,m v3,a 1 l1 l0,g l0,u (.bin .neq l4 l0)] [] 0 (q [x 2 (.b false)] [] .ret) .skip)) (.reg [m v3,u (.bin .add l0 (.i 1)),x 3 l0] [])))
def qR:C:= .loop true [2] K.jZ
def dv:Fn:= { aP:=2,vars:=[0,1,4,5],body:=(q [x 2 (.b false)] [] (.seq (.ite [m v0,u (.ln l0),m v1,u (.ln l0),u (.bin .neq l2 l0)] [] 0 (q [x 2 (.b false)] [] .ret) .skip) (.seq (q [x 3 (.i 0)] [] (.blk 0 K.qR)) (q [x 2 (.b true)] [] .ret)))),res:=[(2,none)]}
def qa:C:= (.seq (.ite [m v7,f 1 v2,g l0,u (.ln l0),u (.bin .lss l3 l0)] [] 0 .skip (.exit 0)) (.seq (.blk 1 (.reg [f 1 v6,g l0,f 1 v2,g l0,m v7,a 1 l1 l0,g l0,f 1 v3,g l0,m v7,a 1 l1 l0,g l0,u (.mn [.l 5,.l 0]),u (.bs [.l 0] 1),u (.app (.l 12) l0 true 1),f 1 v6,u (.st l0 l1 1 [])] [(1,14)])) (.reg [m v7,u (.bin .add l0 (.i 1)),x 7 l0] [])))
def yg:C:= .loop true [0,1,5] K.qa
def i4:Fn:= { aP:=2,vars:=[0,1,2,3,4,5,6,7],body:=(q [w 2 (.bx v0 2),w 3 (.bx v1 2),w 4 (.al [z0,.nil] []),x 5 (.i 0)] [] (.seq (.ite [f 1 v2,g l0,u (.ln l0),f 1 v3,g l0,u (.ln l0),u (.bin .neq l3 l0)] [] 0 (q [u (.bd [z0,.nil] []),u (.st v4 l0 2 []),x 5 (.i 6)] [] .ret) .skip) (q [f 0 v2,g l0,f 0 v3,g l0,u (.mx [.l 2,.l 0]),u (.bd [z0,.nil] [(0,1,.l 0)]),w 6 (.al [z0,.nil] [(1,1)]),u (.st l0 l1 2 [(1,1)])] [] (.seq (q [x 7 (.i 0)] [] (.blk 0 K.yg)) (q [h 2 v6,u (.st v4 l0 2 []),x 5 (.i 0)] [] .ret))))),res:=[(4,some (2,true)),(5,none)]}
def dj:Fn:= { aP:=5,vars:=[0,1,2,3,4,5,6,10],body:=(q [w 5 (.bx v0 2),w 6 (.bx v1 2),x 7 (.i 0)] [] (.seq (.ite [h 2 v5,h 2 v6,u (.ca N.gB 0 [] [.l 1,.l 0]),u (.un .not l0),m l0,e 0 false v2,y 1 false (.ln l0),y 2 false (.bin .eql l0 (.i 0)),u (.pk l3 (.b true) l0),m l0,e 0 false v2,y 1 false (.fa v5 0),i 2 false l0,y 3 false (.ln l0),y 4 false (.ca N.iX 0 [] [.l 3,.l 0]),y 5 false (.un .not l0),u (.pk l6 (.b true) l0)] [] 0 (q [x 7 (.i 6)] [] .ret) .skip) (.seq (.ite [m v3,u (.ca N.dX 0 [] [.l 0]),u (.un .not l0),m l0,e 0 false v4,y 1 false (.ca N.dX 0 [] [.l 0]),y 2 false (.un .not l0),u (.pk l3 (.b true) l0),m l0,e 0 false v3,e 1 false v4,y 2 false (.bin .gtr l1 l0),u (.pk l3 (.b true) l0)] [] 0 (q [x 7 (.i 8)] [] .ret) .skip) (q [x 7 (.i 0)] [] .ret)))),res:=[(7,none)]}
def fZ:C:= (.seq (.ite [m v8,f 1 v4,g l0,u (.ln l0),u (.bin .lss l3 l0)] [] 0 .skip (.exit 2)) (.seq (.blk 3 (q [f 1 v4,g l0,m v8,a 10 l1 l0,h 10 l0,w 9 (.al [z0,z0,z0,z0,z1,z1,z0,z0,z0,z0] []),u (.st l0 l1 10 [])] [] (.seq (.ite [m v3,u (.eqk (.sl) false l0 (.c (.nil))),m l0,e 0 false v3,y 1 false (.fa v9 1),i 2 false l0,y 3 false (.ca N.cZ 0 [] [.l 2,.l 0]),u (.pk l4 (.b true) l0),m l0,e 0 true v6,y 1 true (.fa v9 0),i 2 true l0,y 3 true (.fa v9 1),i 4 true l0,y 5 true (.ld v4 2 true),e 6 true v8,y 7 true (.ca N.i5 0 [] [.l 1,.l 0,.b false]),e 8 true v2,y 9 true (.ca N.dU 0 [0] [.l 8,.l 6,.l 4,.l 1,.l 0]),u (.pk l10 l0 (.b false))] [(11,17),(13,17)] 0 (.reg [x 7 (.b true)] []) .skip) (.ite [m v3,u (.eqk (.sl) false l0 (.c (.nil))),m l0,e 0 false v3,y 1 false (.fa v9 0),i 2 false l0,y 3 false (.ca N.cZ 0 [] [.l 2,.l 0]),u (.pk l4 (.b true) l0),m l0,e 0 true v6,y 1 true (.fa v9 1),i 2 true l0,y 3 true (.fa v9 0),i 4 true l0,y 5 true (.ld v4 2 true),e 6 true v8,y 7 true (.ca N.i5 0 [] [.l 1,.l 0,.b true]),e 8 true v2,y 9 true (.ca N.dU 0 [0] [.l 8,.l 6,.l 4,.l 1,.l 0]),u (.pk l10 l0 (.b false))] [(11,17),(13,17)] 0 (.reg [x 7 (.b true)] []) .skip)))) (.reg [m v8,u (.bin .add l0 (.i 1)),x 8 l0] [])))
def wq:C:= .loop true [0,1,5,9] K.fZ
def mi:C:= (.seq (.ite [m v7] [] 0 .skip (.exit 0)) (.blk 1 (q [x 7 (.b false)] [] (q [x 8 (.i 0)] [] (.blk 2 K.wq)))))
def wu:C:= .loop true [0,1,5,8,9] K.mi
def gC:Fn:= { aP:=4,vars:=[0,1,2,3,4,8,9,10,11,12],body:=(q [w 4 (.bx v0 2),w 5 (.mv (.c (.nil)))] [] (q [m v1,u (.app (.c (.nil)) l0 true 1),x 6 l0] [] (.seq (q [x 7 (.b true)] [] (.blk 0 K.wu)) (q [m v6,x 5 l0] [] .ret)))),res:=[(5,none)]}
def aX:C:= (.its [u (.bin .lss v5 v4)] [] 0 .skip (.exit 0) (.seq (.blk 1 (q [m v5,x 3 l0] [] (.ite [m v1,m v0,m v3,a 1 l1 l0,g l0,u (.cw l4 0 [] [.l 0])] [] 0 (q [m v3,x 2 l0] [] .ret) .skip))) (.reg [u (.bin .add v5 (.i 1)),x 5 l0] [])))
def eL:C:= .loop true [2,3] K.aX
def aI:Fn:= { aP:=2,vars:=[0,1,4,5,7,8],body:=(q [x 2 (.i 0)] [] (.seq (q [m v0,w 4 (.ln l0),x 5 (.i 0)] [] (.blk 0 K.eL)) (q [w 2 (.mv (.i (-1)))] [] .ret))),res:=[(2,none)]}
def gu:C:= (.its [u (.bin .lss v5 v4)] [] 0 .skip (.exit 0) (.seq (.blk 1 (q [m v5,x 3 l0] [] (.ite [m v1,m v0,m v3,a 1 l1 l0,g l0,u (.bin .eql l4 l0)] [] 0 (q [m v3,x 2 l0] [] .ret) .skip))) (.reg [u (.bin .add v5 (.i 1)),x 5 l0] [])))
def mj:C:= .loop true [2,3] K.gu
def bT:Fn:= { aP:=2,vars:=[0,1,4,5,7,8],body:=(q [x 2 (.i 0)] [] (.seq (q [m v0,w 4 (.ln l0),x 5 (.i 0)] [] (.blk 0 K.mj)) (q [w 2 (.mv (.i (-1)))] [] .ret))),res:=[(2,none)]}
def cC:Fn:= { aP:=4,vars:=[0,1,2,3,4,5],body:=(q [w 4 (.bx v0 1),x 5 (.b false)] [] (q [f 0 v1,g l0,u (.mf N.bu [.v 2,.v 4,.v 3]),u (.ca N.aA 0 [] [.l 1,.l 0]),x 5 l0] [] .ret)),res:=[(5,none)]}
def aA:Fn:= { aP:=2,vars:=[0,1,4],body:=(q [x 2 (.b false)] [] (q [m v0,m v1,u (.ca N.aJ 0 [] [.l 1,.l 0]),u (.bin .geq l0 (.i 0)),x 2 l0] [] .ret)),res:=[(2,none)]}
def bu:Fn:= { aP:=4,vars:=[0,1,2,3,4,5],body:=(q [w 4 (.bx v0 2),x 5 (.b false)] [] (q [g v1,f 1 v4,g l0,u (.ln l0),u (.bin .sub l0 (.i 1)),u (.ca N.eI 0 [] [.l 4,.i 0,.l 0]),m l0,i 0 true v2,y 1 true (.fa v4 1),i 2 true l0,i 3 true v1,y 4 true (.ia l1 l0 2),y 5 true (.fa l0 1),i 6 true l0,y 7 true (.ln l0),y 8 true (.bin .lss l7 l0),u (.pk l9 l0 (.b false)),m l0,y 0 true (.fa v4 1),i 1 true l0,i 2 true v1,y 3 true (.ia l1 l0 2),y 4 true (.fa l0 1),i 5 true l0,i 6 true v2,y 7 true (.ia l1 l0 1),i 8 true l0,i 9 true v3,y 10 true (.bin .leq l1 l0),u (.pk l11 l0 (.b false)),x 5 l0] [] .ret)),res:=[(5,none)]}
def eI:Fn:= { aP:=3,vars:=[0,1,2,6],body:=(q [x 3 (.b false)] [] (q [m v0,m v1,u (.bin .geq l1 l0),m l0,e 0 true v0,e 1 true v2,y 2 true (.bin .leq l1 l0),u (.pk l3 l0 (.b false)),x 3 l0] [] .ret)),res:=[(3,none)]}
def i9:C:= (.seq (.ite [m v4,f 1 v2,g l0,u (.ln l0),u (.bin .lss l3 l0)] [] 0 .skip (.exit 0)) (.seq (.blk 1 (.ite [f 1 v2,g l0,m v4,a 1 l1 l0,g l0,u (.bin .neq l0 (.i 1099511627776)),m l0,y 0 true (.fa v2 1),i 1 true l0,e 2 true v4,y 3 true (.ia l1 l0 1),i 4 true l0,y 5 true (.bin .lss l0 (.i 0)),e 6 true l0,y 0 false (.fa v2 1),i 1 false l0,e 2 false v4,y 3 false (.ia l1 l0 1),i 4 false l0,y 5 false (.bin .gtr l0 (.i 2147483648)),y 13 true (.pk l6 (.b true) l0),u (.pk (.l 14) l0 (.b false))] [] 0 (q [x 3 (.b false)] [] .ret) .skip)) (.reg [m v4,u (.bin .add l0 (.i 1)),x 4 l0] [])))
def wy:C:= .loop true [0,1,3] K.i9
def dT:Fn:= { aP:=2,vars:=[0,1,2,4,5],body:=(q [w 2 (.bx v0 2),x 3 (.b false)] [] (.seq (.ite [f 1 v2,g l0,u (.ln l0),m v1,u (.bin .neq l1 l0),m l0,y 0 false (.fa v2 0),i 1 false l0,y 2 false (.bin .lss l0 (.i 0)),u (.pk l3 (.b true) l0),m l0,y 0 false (.fa v2 0),i 1 false l0,y 2 false (.bin .gtr l0 (.i 2147483648)),u (.pk l3 (.b true) l0)] [] 0 (q [x 3 (.b false)] [] .ret) .skip) (.seq (q [x 4 (.i 0)] [] (.blk 0 K.wy)) (q [x 3 (.b true)] [] .ret)))),res:=[(3,none)]}
def dU:Fn:= { aP:=5,vars:=[0,1,2,3,4,10,11],body:=(q [x 5 (.b false)] [] (.seq (.ite [m v3,u (.bin .lss l0 (.i 0)),m l0,e 0 false v0,e 1 false v1,y 2 false (.ia l1 l0 1),i 3 false l0,y 4 false (.bin .geq l0 (.i 1099511627776)),u (.pk l5 (.b true) l0)] [] 0 (q [x 5 (.b false)] [] .ret) .skip) (q [m v4,m v0,m v1,a 1 l1 l0,g l0,m v3,u (.bin .add l1 l0),u (.mx [.l 6,.l 0]),x 6 l0] [] (.seq (.ite [m v6,u (.bin .gtr l0 (.i 2147483648)),m l0,e 0 false v6,e 1 false v0,e 2 false v2,y 3 false (.ia l1 l0 1),i 4 false l0,y 5 false (.bin .geq l4 l0),u (.pk l6 (.b true) l0)] [] 0 (q [x 5 (.b false)] [] .ret) .skip) (q [m v0,m v2,m v6,a 1 l2 l1,u (.st l0 l1 1 [])] [] (q [x 5 (.b true)] [] .ret)))))),res:=[(5,none)]}
def i5:Fn:= { aP:=3,vars:=[0,1,2,3,6],body:=(q [w 3 (.bx v0 2),x 4 (.i 0)] [] (q [h 2 v3,m v1,m v2,u (.ca N.cA 0 [] [.l 2,.l 1,.l 0,.i 6,.i 9,.i 12]),x 4 l0] [] .ret)),res:=[(4,none)]}
def bV:C:= (.its [u (.bin .lss v5 v4)] [] 0 .skip (.exit 0) (.seq (.blk 1 (q [m v5,x 3 l0] [] (.ite [m v1,m v0,m v3,a 2 l1 l0,h 2 l0,u (.cw l4 0 [] [.l 0])] [] 0 (q [m v3,x 2 l0] [] .ret) .skip))) (.reg [u (.bin .add v5 (.i 1)),x 5 l0] [])))
def ga:C:= .loop true [2,3] K.bV
def aJ:Fn:= { aP:=2,vars:=[0,1,4,5,7,8],body:=(q [x 2 (.i 0)] [] (.seq (q [m v0,w 4 (.ln l0),x 5 (.i 0)] [] (.blk 0 K.ga)) (q [w 2 (.mv (.i (-1)))] [] .ret))),res:=[(2,none)]}
def cA:Fn:= { aP:=6,vars:=[0,1,2,3,4,5,6,12,13,14,15,16,17],body:=(q [w 6 (.bx v0 2),x 7 (.i 0)] [] (.seq (.ite [h 2 v6,u (.ca N.di 0 [] [.l 0]),u (.bin .neq l0 (.i 0)),m l0,e 0 false v1,y 1 false (.bin .lss l0 (.i 0)),u (.pk l2 (.b true) l0),m l0,e 0 false v1,y 1 false (.fa v6 1),i 2 false l0,y 3 false (.ln l0),y 4 false (.bin .geq l3 l0),u (.pk l5 (.b true) l0),m l0,y 0 false (.fa v6 1),i 1 false l0,e 2 false v1,y 3 false (.ia l1 l0 10),y 4 false (.fa l0 5),i 5 false l0,u (.pk l6 (.b true) l0),m l0,y 0 false (.fa v6 1),i 1 false l0,e 2 false v1,y 3 false (.ia l1 l0 10),y 4 false (.fa l0 4),i 5 false l0,y 6 false (.un .not l0),u (.pk l7 (.b true) l0)] [] 0 (q [w 7 (.mv (.i (-1)))] [] .ret) .skip) (q [f 1 v6,g l0,m v1,a 10 l1 l0,h 10 l0,w 8 (.al [z0,z0,z0,z0,z1,z1,z0,z0,z0,z0] []),u (.st l0 l1 10 [])] [] (q [h 10 v8,m v2,u (.ca N.jG 0 [] [.l 1,.l 0]),m l0,u (.ex l0 0),u (.ex l1 1),x 9 l1,x 10 l1] [] (q [f 0 v6,g l0,m v10,a 2 l1 l0,f 0 l0,g l0,f 0 v6,g l0,m v9,a 2 l1 l0,f 0 l0,g l0,u (.bin .sub l6 l0),x 11 l0] [] (q [m v5,x 12 l0] [] (.seq (.ite [m v11,u (.bin .mul (.i 10) l0),f 2 v8,g l0,u (.bin .gtr l2 l0)] [] 0 (.reg [m v3,x 12 l0] []) .skip) (.seq (.ite [m v11,u (.bin .mul (.i (-10)) l0),f 2 v8,g l0,u (.bin .gtr l2 l0)] [] 0 (.reg [m v4,x 12 l0] []) .skip) (q [f 2 v8,g l0,u (.bin .mul (.i 10) l0),m v12,u (.bin .add l1 l0),u (.bin .sub l0 (.i 1)),m v12,u (.bin .quo l1 l0),x 7 l0] [] .ret))))))))),res:=[(7,none)]}
def jG:Fn:= { aP:=2,vars:=[0,1,2,4,5],body:=(q [w 2 (.bx v0 10),x 3 (.i 0),x 4 (.i 0)] [] (.seq (.ite [m v1] [] 0 (q [f 1 v2,g l0,f 0 v2,g l0,x 3 l2,x 4 l1] [] .ret) .skip) (q [f 0 v2,g l0,f 1 v2,g l0,x 3 l2,x 4 l1] [] .ret))),res:=[(3,none),(4,none)]}
end Go.Ev.K
namespace Go.Ev
class bJ [Lib]:Prop where
 pL:Lib.fs N.eT=some K.eT
 rL:Lib.fs N.dI=some K.dI
 kp:Lib.fs N.bA=some K.bA
 tU:Lib.fs N.jE=some K.jE
 rM:Lib.fs N.fE=some K.fE
 tV:Lib.fs N.jF=some K.jF
 rN:Lib.fs N.fF=some K.fF
 qb:Lib.fs N.dJ=some K.dJ
 w7:Lib.fs N.jB=some K.jB
 qc:Lib.fs N.dK=some K.dK
 rO:Lib.fs N.gz=some K.gz
 gD:Lib.fs N.aK=some K.aK
 iI:Lib.fs N.aO=some K.aO
 nN:Lib.fs N.eC=some K.eC
 tW:Lib.fs N.iY=some K.iY
 qd:Lib.fs N.dX=some K.dX
 rP:Lib.fs N.gZ=some K.gZ
 rQ:Lib.fs N.eH=some K.eH
 tY:Lib.fs N.iZ=some K.iZ
 rR:Lib.fs N.gB=some K.gB
 tZ:Lib.fs N.dh=some K.dh
 nO:Lib.fs N.dv=some K.dv
 ua:Lib.fs N.i4=some K.i4
 rS:Lib.fs N.dj=some K.dj
 rT:Lib.fs N.gC=some K.gC
 dD:Lib.fs N.aI=some K.aI
 jQ:Lib.fs N.bT=some K.bT
 mq:Lib.fs N.cC=some K.cC
 cY:Lib.fs N.aA=some K.aA
 kB:Lib.fs N.bu=some K.bu
 zn:Lib.fs N.eI=some K.eI
 rU:Lib.fs N.dT=some K.dT
 rV:Lib.fs N.dU=some K.dU
 uc:Lib.fs N.i5=some K.i5
 dA:Lib.fs N.aJ=some K.aJ
 qe:Lib.fs N.cA=some K.cA
 ud:Lib.fs N.jG=some K.jG
namespace K
variable [Lib] [bJ]
theorem pL:Lib.fs N.eT=some K.eT:=bJ.pL
theorem rL:Lib.fs N.dI=some K.dI:=bJ.rL
theorem kp:Lib.fs N.bA=some K.bA:=bJ.kp
theorem tU:Lib.fs N.jE=some K.jE:=bJ.tU
theorem rM:Lib.fs N.fE=some K.fE:=bJ.rM
theorem tV:Lib.fs N.jF=some K.jF:=bJ.tV
theorem rN:Lib.fs N.fF=some K.fF:=bJ.rN
theorem qb:Lib.fs N.dJ=some K.dJ:=bJ.qb
theorem w7:Lib.fs N.jB=some K.jB:=bJ.w7
theorem qc:Lib.fs N.dK=some K.dK:=bJ.qc
theorem rO:Lib.fs N.gz=some K.gz:=bJ.rO
theorem gD:Lib.fs N.aK=some K.aK:=bJ.gD
theorem iI:Lib.fs N.aO=some K.aO:=bJ.iI
theorem nN:Lib.fs N.eC=some K.eC:=bJ.nN
theorem tW:Lib.fs N.iY=some K.iY:=bJ.tW
theorem qd:Lib.fs N.dX=some K.dX:=bJ.qd
theorem rP:Lib.fs N.gZ=some K.gZ:=bJ.rP
theorem rQ:Lib.fs N.eH=some K.eH:=bJ.rQ
theorem tY:Lib.fs N.iZ=some K.iZ:=bJ.tY
theorem rR:Lib.fs N.gB=some K.gB:=bJ.rR
theorem tZ:Lib.fs N.dh=some K.dh:=bJ.tZ
theorem nO:Lib.fs N.dv=some K.dv:=bJ.nO
theorem ua:Lib.fs N.i4=some K.i4:=bJ.ua
theorem rS:Lib.fs N.dj=some K.dj:=bJ.rS
theorem rT:Lib.fs N.gC=some K.gC:=bJ.rT
theorem dD:Lib.fs N.aI=some K.aI:=bJ.dD
theorem jQ:Lib.fs N.bT=some K.bT:=bJ.jQ
theorem mq:Lib.fs N.cC=some K.cC:=bJ.mq
theorem cY:Lib.fs N.aA=some K.aA:=bJ.cY
theorem kB:Lib.fs N.bu=some K.bu:=bJ.kB
theorem zn:Lib.fs N.eI=some K.eI:=bJ.zn
theorem rU:Lib.fs N.dT=some K.dT:=bJ.rU
theorem rV:Lib.fs N.dU=some K.dU:=bJ.rV
theorem uc:Lib.fs N.i5=some K.i5:=bJ.uc
theorem dA:Lib.fs N.aJ=some K.aJ:=bJ.dA
theorem qe:Lib.fs N.cA=some K.cA:=bJ.qe
theorem ud:Lib.fs N.jG=some K.jG:=bJ.ud
end K
end Go.Ev
namespace Go.Ev
open Go
variable [Lib]
noncomputable def aH:aV:=oN Lib.fs
theorem av{raw f:Nat}{args:List D}{H:aq}{fn:Fn}{r:D×aq}(hf:Lib.fs f=some fn)(hn:fn.aP=args.length)
 (h:(exS aH fn.body ⟨vT args fn.vars,H⟩).bind (afp fn.res H.length raw)=some r) (h0:fn.prim=[]:=by rfl):aH raw f args H=some r:=WJ hf hn h h0
theorem B5{raw f:Nat}{args:List D}{H:aq}{fn:Fn}{r:D×aq}(hf:Lib.fs f=some fn)(h0:fn.prim≠[])(h:AJ fn.prim args H=some r):aH raw f args H=some r:=LX hf h0 h
theorem bz{gc:Bool}{dead:List Nat}{c:C}{vs:List D}{H:aq}(s:Nat→St)(n:Nat){e:Ex}{st:St}
 (h0:(⟨lV dead vs,H⟩:St)=s 0) (h:∀j,j<n→gp gc dead (s j).H.length (exS aH c (s j))=some (s (j+1)))
 (he:exS aH c (s n)=some (e,st)) (hn:e≠ .normal):exS aH (.loop gc dead c) ⟨vs,H⟩=some (e,st):=by
 show nj gc dead (exS aH c) ⟨lV dead vs,H⟩=_
 rw[h0]
 exact A6 s n h (dW he hn)
theorem ue{gc:Bool}{dead:List Nat}{c:C}{vs:List D}{H:aq}{p:Ex×St}(h:nj gc dead (exS aH c) ⟨lV dead vs,H⟩=some p):exS aH (.loop gc dead c) ⟨vs,H⟩=some p:=h
class Dat (α:Type) where
 dflt:α
instance : Dat Int := ⟨0⟩
instance : Dat Nat := ⟨0⟩
instance : Dat Bool := ⟨false⟩
instance {α : Type} : Dat (List α) := ⟨[]⟩
def nth{α:Type} [Dat α](l:List α)(j:Nat):α:=l.getD j Dat.dflt
theorem c7{α:Type} [Dat α]{l:List α}{j:Nat}(h:j<l.length):l[j]?=some (nth l j):=by simp[nth,h]
theorem bR{α β:Type} [Dat α](f:α→β){l:List α}{j:Nat}(h:j<l.length):(l.map f)[j]?=some (f (nth l j)):=by rw[aLn,c7 h];rfl
theorem KB{α β γ:Type} [Dat α](f:β→γ)(g:α→β){l:List α}{j:Nat}(h:j<l.length):((l.map g).map f)[j]?=some (f (g (nth l j))):=by rw[aLn,bR g h];rfl
theorem ai{α:Type} [Dat α]{l:List α}{j:Nat}(h:j<l.length):nth l j∈l:=aLd (c7 h)
theorem bD{α:Type} [Dat α]{l:List α}{j:Nat}{x:α}(h:l[j]?=some x):nth l j=x:=by simp[nth,h]
theorem ox{α:Type} [Dat α]{l:List α}{j:Nat}(h:j<l.length):l.take (j+1)=l.take j++[nth l j]:=by
 rw[List.take_succ_eq_append_getElem h];simp[nth,h]
theorem aiN{a b:Int}(h:a<b):(a<b)=True:=by simp[h]
theorem aiO{a b:Int}(h:b≤a):(a<b)=False:=by simp[Int.not_lt.2 h]
theorem aiP{a b:Int}(h:a≤b):(a≤b)=True:=by simp[h]
theorem aiQ{a b:Int}(h:b<a):(a≤b)=False:=by simp[Int.not_le.2 h]
theorem aiR{a b:Int}(h:a=b):(a=b)=True:=by simp[h]
theorem aiS{a b:Int}(h:a≠b):(a=b)=False:=by simp[h]
theorem aiT{a b:Nat}(h:a<b):(a<b)=True:=by simp[h]
theorem aiU{a b:Nat}(h:b≤a):(a<b)=False:=by simp[Nat.not_lt.2 h]
theorem aiV{a b:Nat}(h:a≤b):(a≤b)=True:=by simp[h]
theorem aiW{a b:Nat}(h:b<a):(a≤b)=False:=by simp[Nat.not_le.2 h]
theorem aiX{a b:Nat}(h:a=b):(a=b)=True:=by simp[h]
theorem aiY{a b:Nat}(h:a≠b):(a=b)=False:=by simp[h]
attribute [go_sem] aiX aiY aiN aiO aiP aiQ aiR aiS aiT aiU aiV aiW wS bR KB WX
@[go_sem] theorem L9 (a b : Nat) : ((a + b : Nat) : Int) = (a : Int) + (b : Int) := (rfl)
@[go_sem] theorem Ma : ((1 : Nat) : Int) = 1 := (rfl)
@[go_sem] theorem IU : ((0 : Nat) : Int) = 0 := (rfl)
@[go_sem] theorem adR (a b : Int) : a + b - b = a := Int.add_sub_cancel a b
@[go_sem] theorem UQ : (0 : Int).toNat = 0 := (rfl)
@[go_sem] theorem XB (n : Nat) : (n : Int).toNat = n := (rfl)
@[go_sem] theorem XC (n : Nat) : ((n : Int) + 1).toNat = n + 1 := (rfl)
@[go_sem] theorem XD (a : Int) : 0 + a = a := Int.zero_add a
abbrev tI(n:Int):T:= .int .i64 n
abbrev tL(l:List Int):T:= .sl (l.map (.int .i64))
@[go_sem] theorem UR {α β : Type} (f : α → β) (a b : List α) : (a ++ b).map f = a.map f ++ b.map f := List.map_append
end Go.Ev
namespace Go.Ev
open Go
variable [Lib] [bX] [bJ]
def Mod(n m:Int):Int:=if m<1 then 0 else if n.tmod m<0 then n.tmod m+m else n.tmod m
theorem adS(n m:Int):0≤Mod n m:=by
 unfold Mod
 split
 · omega
 · have h5:=Int.lt_tmod_of_pos n (b:=m) (by omega)
   split<;>omega
theorem adT(n m:Int)(h:1≤m):Mod n m<m:=by
 unfold Mod
 rw[if_neg (by omega)]
 have h3:=Int.tmod_lt_of_pos n (b:=m) (by omega)
 split<;>omega
theorem adU(n m:Int)(hm:m≤4611686018427387904):aH 0 N.kZ [I n,I m] []=some (I (Mod n m),[]):=by
 refine av K.zm rfl ?_
 unfold Mod
 by_cases h1:m<1
 · simp only[go_sem,K.kZ,h1,↓reduceIte]
 · have h2:m≠0:=by omega
   have h3:=Int.tmod_lt_of_pos n (b:=m) (by omega)
   have h5:=Int.lt_tmod_of_pos n (b:=m) (by omega)
   by_cases h4:n.tmod m<0
   · simp(disch:=omega)only[go_sem,K.kZ,h1,↓reduceIte,h2,h4]
   · simp(disch:=omega)only[go_sem,K.kZ,h1,↓reduceIte,h2,h4]
theorem SI(l:List Int):aH 0 N.jD [.t (tL l)] []=some (B (decide (l.length≤400)),[]):=by
 refine av K.tR rfl ?_
 simp(disch:=omega)only[go_sem,K.jD,↓reduceIte]
 simp only[show((l.length:Int)≤400)=(l.length≤400)by rw[eq_iff_iff];omega]
structure aF where
 L:List Int
 at_:Nat
def aF.obj(d:aF):Obj:= .box [.t (tL d.L),I d.at_]
def aF.dY(d:aF):Prop:=d.L.length≤400
def aF.next(d:aF)(n:Int):Int×aF:=if d.at_<d.L.length then(Mod (nth d.L d.at_) n,⟨d.L,d.at_+1⟩)else(0,d)
theorem aF.US(d:aF)(n:Int):(d.next n).2.L=d.L:=by unfold aF.next;split<;>rfl
theorem aF.aY{d:aF}(h:d.dY)(n:Int):(d.next n).2.dY:=by unfold aF.dY;rw[d.US];exact h
theorem aF.ff(d:aF)(n:Int):0≤(d.next n).1:=by unfold aF.next;split<;>simp[adS]
theorem aF.fg(d:aF){n:Int}(h:1≤n):(d.next n).1<n:=by unfold aF.next;split<;>simp[adT _ _ h];omega
theorem iJ(d:aF)(n:Int)(hn:n≤4611686018427387904)(hd:d.dY):aH 0 N.aB [.bp 0 0,I n] [d.obj]=some (I (d.next n).1,[(d.next n).2.obj]):=by
 refine av K.nH rfl ?_
 have hm:=adU (nth d.L d.at_) n hn
 unfold aF.dY at hd
 unfold aF.next aF.obj
 by_cases h1:d.at_<d.L.length
 · simp(disch:=omega)only[go_sem,K.aB,↓reduceIte,↓if_pos,↓if_neg,Int.add_sub_cancel,hm,Int.natCast_add]
 · simp(disch:=omega)only[go_sem,K.aB,↓reduceIte,↓if_pos,↓if_neg]
@[go_sem] theorem agw (d : aF) : Kz (some d.obj) = [] := by simp only [aF.obj, go_sem]
@[go_sem] theorem agx (f : Nat → Option Nat) (d : aF) : gn f d.obj = some d.obj := by simp only [aF.obj, go_sem]
@[go_sem] theorem agy (k : Nat) (d : aF) (r : aq) : ir k (d.obj :: r) = ir k r := by simp only [aF.obj, go_sem]
def aF.one(d:aF)(n:Int):Bool×aF:=(decide ((d.next n).1=n-1),(d.next n).2)
theorem aF.B6{d:aF}(h:d.dY)(n:Int):(d.one n).2.dY:=aF.aY h n
theorem OW(d:aF)(n:Int)(h1:0≤n)(hn:n≤4611686018427387904)(hd:d.dY):aH 0 N.cB [.bp 0 0,I n] [d.obj]=some (B (d.one n).1,[(d.one n).2.obj]):=by
 refine av K.oU rfl ?_
 have hm:=iJ d n hn hd
 unfold aF.one
 simp(disch:=omega)only[go_sem,K.cB,↓reduceIte,hm]
def aF.of(d:aF)(l:List Int):Int×aF:=(nth l (d.next l.length).1.toNat,(d.next l.length).2)
theorem aF.pM{d:aF}(h:d.dY)(l:List Int):(d.of l).2.dY:=aF.aY h _
theorem aF.yh(d:aF){l:List Int}(h:l≠[]):(d.of l).1∈l:=by
 unfold aF.of
 have hl:0<l.length:=List.length_pos_iff.2 h
 have:=d.ff l.length
 have:=d.fg (n:=l.length) (by omega)
 exact ai (by omega)
theorem OX(d:aF)(l:List Int)(hl:l≠[])(hl2:l.length≤4294967296)(hd:d.dY):aH 0 N.cK [.bp 0 0,.t (tL l)] [d.obj]=some (I (d.of l).1,[(d.of l).2.obj]):=by
 refine av K.p4 rfl ?_
 have hm:=iJ d l.length (by omega) hd
 have h0:0<l.length:=List.length_pos_iff.2 hl
 have h1:=d.ff l.length
 have h2:=d.fg (n:=l.length) (by omega)
 unfold aF.of
 simp(disch:=omega)only[go_sem,K.cK,↓reduceIte,hm]
def aF.oy(d:aF):Nat→List Int×aF
 | 0=>([],d)
 | k+1=>(if((d.oy k).2.next 3).1=0 then(d.oy k).1++[(k:Int)]else(d.oy k).1,((d.oy k).2.next 3).2)
theorem aF.mV{d:aF}(h:d.dY):∀n,(d.oy n).2.dY
 | 0=>h
 | n+1=>aF.aY (aF.mV h n) 3
theorem aF.yi(d:aF):∀n,(d.oy n).1.length≤n
 | 0=>aLs _
 | n+1=>by
   have:=d.yi n
   unfold aF.oy
   simp only
   split<;>simp<;>omega
theorem OY(d:aF)(n:Nat)(hn:n≤1000000)(hd:d.dY):aH 0 N.cT [.bp 0 0,I n] [d.obj]=some (.t (tL (d.oy n).1),[(d.oy n).2.obj]):=by
 refine av K.nJ rfl ?_
 have hlen:=d.yi
 have loop:exS aH K.qO ⟨[.bp 0 0,I n,.nil,.ref 1 0 0,I 0],[d.obj,.arr 1 false 0 []]⟩=
  some (.exit 0,⟨[.bp 0 0,I n,.und,.ref 1 0 (d.oy n).1.length,I n],[(d.oy n).2.obj,.arr 1 false 0 (((d.oy n).1.map (T.int .i64)).map .t)]⟩):=by
  refine bz (fun j=>⟨[.bp 0 0,I n,.und,.ref 1 0 (d.oy j).1.length,I j],[(d.oy j).2.obj,.arr 1 false 0 (((d.oy j).1.map (T.int .i64)).map .t)]⟩) n rfl ?_ ?_ (by simp)
  · intro j hj
    have hm:=iJ (d.oy j).2 3 (by omega) (aF.mV hd j)
    have:=hlen j
    by_cases h:((d.oy j).2.next 3).1=0
    · simp(disch:=omega)only[go_sem,K.jX,hm,h,aF.oy,↓reduceIte]
    · simp(disch:=omega)only[go_sem,K.jX,hm,h,aF.oy,↓reduceIte]
  · simp(disch:=omega)only[go_sem,K.jX,↓reduceIte]
 simp(disch:=omega)only[go_sem,K.cT,↓reduceIte,loop]
theorem cq{gc:Bool}{dead:List Nat}{c:C}{vs:List D}{H:aq}(s:Nat→St)(n:Nat)(p:Nat→Bool)(e:Nat→Ex×St)(eN:Ex×St)
 (h0:(⟨lV dead vs,H⟩:St)=s 0) (hs:∀j,j<n→p j=false→gp gc dead (s j).H.length (exS aH c (s j))=some (s (j+1)))
 (he:∀j,j<n→p j=true→exS aH c (s j)=some (e j)∧(e j).1≠ .normal) (hN:exS aH c (s n)=some eN) (hn:eN.1≠ .normal):
 exS aH (.loop gc dead c) ⟨vs,H⟩=some (match (List.range n).find? p with | some j=>e j | none=>eN):=by
 show nj gc dead (exS aH c) ⟨lV dead vs,H⟩=_
 rw[h0]
 cases hf:(List.range n).find? p with
 | none=>
   refine A6 s n (fun j hj=>hs j hj ?_) (dW hN hn)
   have:=List.find?_eq_none.1 hf j (aLu.2 hj)
   simpa using this
 | some k=>
   obtain⟨h1,as,bs,h2,h3⟩:=List.find?_eq_some_iff_append.1 hf
   have hk:k<n:=aLu.1 (List.mem_of_find?_eq_some hf)
   have hlt:∀j,j<k→p j=false:=by
    intro j hj
    have hlen:as.length=k:=by
     have h4:(List.range n)[as.length]?=some k:=by rw[h2];simp
     have h5:as.length<n:=by
      have:=congrArg List.length h2;simp at this;omega
     rw[aLp h5]at h4
     exact Option.some.inj h4
    have:j∈as:=by
     have h6:(List.range n)[j]?=some j:=aLp (by omega)
     rw[h2,aLg (by omega)]at h6
     exact aLd h6
    simpa using h3 j this
   obtain⟨k1,k2⟩:=he k hk h1
   exact A6 s k (fun j hj=>hs j (by omega) (hlt j hj)) (dW k1 k2)
def ja{α:Type}(f:α→α×Bool):Nat→α→α
 | 0,l=>l
 | n+1,l=>if(f l).2 then ja f n (f l).1 else(f l).1
theorem zo{α:Type}{gc:Bool}{dead:List Nat}{c:C}{vs:List D}{H:aq}(S:α→Bool→St)(E:α→Ex×St)(f:α→α×Bool)(inv:α→Prop)(mes:α→Nat)
 (hinv:∀l,inv l→inv (f l).1∧((f l).2=true→mes (f l).1<mes l))
 (hs:∀l,inv l→gp gc dead (S l true).H.length (exS aH c (S l true))=some (S (f l).1 (f l).2))
 (he:∀l,inv l→exS aH c (S l false)=some (E l)∧(E l).1≠ .normal) (l:α) (hl:inv l) (h0:(⟨lV dead vs,H⟩:St)=S l true):
 exS aH (.loop gc dead c) ⟨vs,H⟩=some (E (ja f (mes l+1) l))∧inv (ja f (mes l+1) l):=by
 have key:∀(n:Nat) (l:α),inv l→mes l<n→nj gc dead (exS aH c) (S l true)=some (E (ja f n l))∧inv (ja f n l):=by
  intro n
  induction n with
  | zero=>intro l _ h;omega
  | succ n ih=>
    intro l hl hm
    obtain⟨h1,h2⟩:=hinv l hl
    have hr:=hs l hl
    cases hf:(f l).2 with
    | true=>
      rw[hf]at hr
      obtain⟨k1,k2⟩:=ih (f l).1 h1 (by have:=h2 hf;omega)
      simp only[ja,hf,if_true]
      exact⟨fC hr k1,k2⟩
    | false=>
      rw[hf]at hr
      obtain⟨k1,k2⟩:=he (f l).1 h1
      simp only[ja,hf,aLt,if_false]
      exact⟨fC hr (dW k1 k2),h1⟩
 have:=key (mes l+1) l hl (Nat.lt_succ_self _)
 show nj gc dead (exS aH c) ⟨lV dead vs,H⟩=_∧_
 rw[h0];exact this
theorem EB{n:Nat}{p:Nat→Bool}:((List.range n).find? p).isSome=(List.range n).any p:=by
 rw[List.isSome_find?]
theorem B7{n j:Nat}{p:Nat→Bool}(h:(List.range n).find? p=some j):j<n∧p j=true:=⟨aLu.1 (List.mem_of_find?_eq_some h),List.find?_some h⟩
def gP(m:Nat):List D:=(List.range m).map fun i=> .bp i 0
def aW(bs:List (List T)):aq:=bs.map fun cs=> .box (cs.map .t)
theorem DK{bs:List (List T)}{i:Nat}(h:i<bs.length):(aW bs)[i]?=some (.box (bs[i].map .t)):=by simp[aW,h]
theorem gQ(bs:List (List T)):(aW bs).length=bs.length:=by simp[aW]
theorem vm:∀(l sel:List Nat),(sel++l).Nodup→eW sel l=sel++l
 | [],sel,_=>by simp[eW]
 | i::r,sel,h=>by
   have:sel.contains i=false:=by
    rw[← Bool.not_eq_true,List.contains_iff_mem]
    intro hm
    have:=List.nodup_append.1 h
    exact this.2.2 i hm i List.mem_cons_self rfl
   simp only[eW,this,aLt,if_false]
   rw[vm r (sel++[i]) (by simpa using h)]
   simp
theorem pN:∀(l:List Nat) (i k:Nat),l.Nodup→l[k]?=some i→idxOf l i=some k
 | [],i,k,_,h=>by simp at h
 | a::l,i,0,_,h=>by simp at h;simp[idxOf,h]
 | a::l,i,k+1,hn,h=>by
   simp at h
   have hne:a≠i:=fun e=>(List.nodup_cons.1 hn).1 (e▸aLd h)
   simp only[idxOf,if_neg hne,pN l i k (List.nodup_cons.1 hn).2 h,aLw]
theorem IV{m i:Nat}(h:i<m):idxOf (List.range m) i=some i:=pN _ _ _ List.nodup_range (aLp h)
theorem IW{α:Type}{f:α→Option α}:∀ {l:List α},(∀x∈l,f x=some x)→cg f l=some l
 | [],_=>rfl
 | a::l,h=>by
   simp only[cg,h a List.mem_cons_self,aLq,IW fun x hx=>h x (List.mem_cons_of_mem _ hx),aLw]
theorem IX(f:Nat→Option Nat)(cs:List T):gn f (.box (cs.map .t))=some (.box (cs.map .t)):=by
 simp only[L6,zl,aLw]
theorem B8{H:aq}:∀ {l:List Nat} {hs:aq},l.length=hs.length→(∀(k i:Nat) (o:Obj),l[k]?=some i→hs[k]?=some o→H[i]?=some o)→pick H l=some hs
 | [],[],_,_=>rfl
 | [],_::_,h,_=>by simp at h
 | _::_,[],h,_=>by simp at h
 | i::l,o::hs,h,hg=>by
   rw[OQ,hg 0 i o rfl rfl,aLq,SD,B8 (l:=l) (hs:=hs) (by simpa using h) fun k i o hk ho=>hg (k+1) i o (by simpa using hk) (by simpa using ho)]
   rfl
theorem Aj{H:aq}:∀ {l:List Nat} {os:aq},(∀(k i:Nat) (o:Obj),l[k]?=some i→os[k]?=some o→H[i]?=some o)→dR H l os=H
 | [],os,_=>by cases os<;>rfl
 | i::l,[],_=>rfl
 | i::l,o::os,hg=>by
   simp only[dR]
   rw[pJ (hg 0 i o rfl rfl)]
   exact Aj fun k i o hk ho=>hg (k+1) i o (by simpa using hk) (by simpa using ho)
theorem GB(call:aV)(bs:List (List T))(E:aq)(f raw:Nat)(args:List D){r:D}(h:call raw f args (aW bs)=some (r,aW bs))(hr:AM r=true)
 (ha:∀H:aq,qE H [] 0 args=some args∧dg H [] 0 args=[]) (hids:eW [] (B3 8 args)=List.range bs.length)
 (hren:cg (ren (idxOf (List.range bs.length)) 8) args=some args):Kp (aW bs++E) call f raw [] args=some (r,aW bs++E):=by
 generalize hH:aW bs++E=H
 have hget:∀i (hi:i<bs.length),H[i]?=some (.box (bs[i].map .t)):=fun i hi=>by
  rw[← hH,aLg (by rw[gQ];exact hi),DK hi]
 obtain⟨ha,hfz⟩:=ha H
 have hno:lx H (List.range bs.length)=[]:=by
  simp only[lx,List.flatMap_eq_nil_iff,aLu]
  intro i hi
  rw[hget i hi]
  exact B4 8 bs[i]
 have hsel:reach H 3 (List.range bs.length)=List.range bs.length:=by
  simp only[reach,hno,eW]
 have hget2:∀(k i:Nat) (o:Obj),(List.range bs.length)[k]?=some i→(aW bs)[k]?=some o→H[i]?=some o:=by
  intro k i o hk ho
  have hkl:k<bs.length:=by have:=(aLe.1 hk).1;simpa using this
  rw[aLp hkl]at hk
  cases hk
  rw[DK hkl]at ho
  rw[hget k hkl,←ho]
 have hpick:pick H (List.range bs.length)=some (aW bs):=B8 (by simp[gQ]) hget2
 have hro:∀f:Nat→Option Nat,cg (gn f) (aW bs)=some (aW bs):=fun f=>IW fun o ho=>by
  simp only[aW,List.mem_map]at ho
  obtain⟨cs,_,rfl⟩:=ho
  exact IX f cs
 have hput:dR H (List.range bs.length) (aW bs)=H:=Aj hget2
 rw[Kr,Ks,ha,aLq,Kt,hids,hsel,Ku,hren,aLq,hfz,Kv]
 simp only[pins]
 rw[hpick,aLq,Kw,hro,aLq,Sz,h,aLq]
 cases hb:bs with
 | nil=>
   subst hb
   have hrr:=Ey (f:=dy [] H.length) hr
   simp only[depth]at hrr
   simp only[List.length_nil,List.range_zero,aW,List.map_nil]
   unfold wV
   split
   · rfl
   · rw[Ez,hrr,aLq,Kx]
     simp[cg,OL,dR]
 | cons b bt=>
   rw[← hb]
   have hne:List.range bs.length=0::(List.range' 1 bt.length):=by rw[hb];simp[List.range_eq_range',List.range'_succ]
   have hrr:=Ey (f:=dy (List.range bs.length) H.length) hr
   simp only[depth]at hrr
   have hw:wV H H (List.range bs.length) (r,aW bs)=Gz H H.length (List.range bs.length) (r,aW bs):=by
    rw[hne];rfl
   rw[hw,Ez,hrr,aLq,Kx,hro,aLq,SA,List.length_range,List.take_of_length_le (by rw[gQ];exact aLs _),hput,
    List.drop_eq_nil_of_le (by rw[gQ];exact aLs _),List.append_nil]
theorem IY(H:aq)(cs:List D)(hc:∀i,qE H [] i cs=some cs∧dg H [] i cs=[]):∀(ts:List T) (i:Nat),qE H [] i (ts.map .t++cs)=some (ts.map .t++cs)∧dg H [] i (ts.map .t++cs)=[]
 | [],i=>hc i
 | t::ts,i=>by
   obtain⟨h1,h2⟩:=IY H cs hc ts (i+1)
   simp only[List.map_cons,List.cons_append,DI,tO,IQ,UK,adr,aLq,OM,h1,h2,adH,OJ]
   exact⟨rfl,rfl⟩
theorem GC(H:aq):∀(l:List Nat) (i:Nat),qE H [] i (l.map fun i=> .bp i 0)=some (l.map fun i=> .bp i 0)∧dg H [] i (l.map fun i=> .bp i 0)=[]
 | [],i=>⟨rfl,rfl⟩
 | a::l,i=>by
   obtain⟨h1,h2⟩:=GC H l (i+1)
   simp only[List.map_cons,DI,tO,IQ,UK,Xh,aLq,OM,h1,h2,adH,Xl]
   exact⟨rfl,rfl⟩
theorem GD(n m:Nat):B3 n (gP m)=List.range m:=by
 simp only[B3,gP,List.flatMap_map]
 have:∀l:List Nat,(l.flatMap fun a=>ids n (.bp a 0))=l:=by
  intro l
  induction l with
  | nil=>rfl
  | cons a l ih=>rw[List.flatMap_cons,ih,adK];rfl
 exact this _
theorem KC(n m:Nat):cg (ren (idxOf (List.range m)) n) (gP m)=some (gP m):=IW fun d hd=>by
 simp only[gP,List.mem_map,aLu]at hd
 obtain⟨k,hk,rfl⟩:=hd
 rw[adO,IV hk];rfl
theorem EC{α β:Type}{f:α→Option β}:∀ {a b:List α} {x y:List β},cg f a=some x→cg f b=some y→cg f (a++b)=some (x++y)
 | [],b,x,y,h1,h2=>by simp[cg]at h1;subst h1;exact h2
 | c::a,b,x,y,h1,h2=>by
   simp only[cg,aLa,aLb]at h1
   obtain⟨z,hz,r,hr,rfl⟩:=h1
   simp only[List.cons_append,cg,hz,aLq,EC hr h2,aLw]
theorem OZ(call:aV)(bs:List (List T))(E:aq)(f raw:Nat)(ts:List T){r:D}(h:call raw f (ts.map .t++gP bs.length) (aW bs)=some (r,aW bs))(hr:AM r=true):
 Kp (aW bs++E) call f raw [] (ts.map .t++gP bs.length)=some (r,aW bs++E):=
 GB call bs E f raw _ h hr (fun H=>IY H _ (GC H _) ts 0)
  (by rw[Ky,B4,List.nil_append,GD,vm _ _ (by simpa using List.nodup_range),List.nil_append])
  (EC (zl _ _ _) (KC _ _))
theorem XE(call:aV)(bs:List (List T))(E:aq)(g f raw:Nat)(ts:List T){r:D}(h:call raw f (ts.map .t++[.fn g (gP bs.length)]) (aW bs)=some (r,aW bs))(hr:AM r=true):
 Kp (aW bs++E) call f raw [] (ts.map .t++[.fn g (gP bs.length)])=some (r,aW bs++E):=
 GB call bs E f raw _ h hr (fun H=>IY H _ (fun i=>⟨rfl,rfl⟩) ts 0)
  (by rw[Ky,B4,List.nil_append,OO,adL,GD,SC,List.append_nil,vm _ _ (by simpa using List.nodup_range),List.nil_append])
  (EC (zl _ _ _) (by rw[Gv,adQ,KC];rfl))
theorem GF{f:Nat}{bs:List (List T)}{x:T}{r:D}(E:aq)(h:aH 0 f (.t x::gP bs.length) (aW bs)=some (r,aW bs))(hr:AM r=true):
 Kp (aW bs++E) aH f 0 [] (.t x::gP bs.length)=some (r,aW bs++E):=OZ aH bs E f 0 [x] h hr
theorem oE{f:Nat}{bs:List (List T)}{x:T}{r:D}(h:aH 0 f (.t x::gP bs.length) (aW bs)=some (r,aW bs))(hr:AM r=true):
 Kp (aW bs) aH f 0 [] (.t x::gP bs.length)=some (r,aW bs):=by
 have:=GF [] h hr;rwa [List.append_nil]at this
theorem zp(call:aV)(bs:List (List T))(g f raw:Nat)(x:T){r:D}(h:call raw f [.t x,.fn g (gP bs.length)] (aW bs)=some (r,aW bs))(hr:AM r=true):
 Kp (aW bs) call f raw [] [.t x,.fn g (gP bs.length)]=some (r,aW bs):=by
 have:=XE call bs [] g f raw [x] h hr
 rwa [List.append_nil]at this
section
variable (bs : List (List T)) (o o' : Obj)
@[go_sem] theorem SJ : (aW bs).length = bs.length := gQ bs
@[go_sem] theorem aa4 : (aW bs ++ [o])[bs.length]? = some o := by
 rw[aLh (by rw[gQ];exact aLs _),gQ];simp
@[go_sem] theorem adV : (aW bs ++ [o]).set bs.length o' = aW bs ++ [o'] := by
 rw[List.set_append_right _ _ (by rw[gQ];exact aLs _),gQ];simp
@[go_sem] theorem aa5 : (aW bs ++ [o]).take bs.length = aW bs := by
 rw[List.take_append_of_le_length (by rw[gQ];exact aLs _),List.take_of_length_le (by rw[gQ];exact aLs _)]
@[go_sem] theorem XF : (aW bs ++ [o]).take (bs.length + 1) = aW bs ++ [o] := List.take_of_length_le (by simp [gQ])
@[go_sem] theorem XG : (aW bs).take bs.length = aW bs := List.take_of_length_le (by simp [gQ])
@[go_sem] theorem XH (k : Nat) (a b : aq) : ir k (a ++ b) = (ir k a && ir k b) := by
 rw[← oD,←oD,←oD,List.all_append]
@[go_sem] theorem SK (k : Nat) : ir k (aW bs) = true := by
 induction bs with
 | nil=>rfl
 | cons b r ih=>
   show(jA k 8 (b.map .t)&&ir k (aW r))=true
   rw[Sx,ih];rfl
@[go_sem] theorem agz (n : Nat) : ltB n (n + 1) = true := by rw [tN]; simp
@[go_sem] theorem agA (n : Nat) : ltB n n = false := by rw [tN]; simp
theorem Ak(k n m:Nat)(h:m≤k):jA k n (gP m)=true:=by
 unfold jA gP
 rw[aLx]
 intro d hd
 obtain⟨i,hi,rfl⟩:=List.mem_map.1 hd
 rw[ads,tN]
 have:=aLu.1 hi
 simp;omega
@[go_sem] theorem XI (n m : Nat) : jA m n (gP m) = true := Ak _ _ _ (aLs _)
@[go_sem] theorem UT (n m : Nat) : jA (m + 1) n (gP m) = true := Ak _ _ _ (Nat.le_succ _)
end
def fL(n:Nat)(p:Nat→Bool):List Int:=((List.range n).filter p).map (fun(i:Nat)=>(i:Int))
theorem oW(n:Nat)(p:Nat→Bool):fL (n+1) p=if p n=true then fL n p++[(n:Int)]else fL n p:=by
 unfold fL
 rw[List.range_succ,List.filter_append,List.map_append]
 by_cases h:p n=true<;>simp[h]
theorem oF(n:Nat)(p:Nat→Bool):(fL n p).length≤n:=by
 unfold fL
 rw[List.length_map]
 have:=List.length_filter_le p (List.range n)
 simpa using this
theorem SL(n:Nat)(hn:n≤1000000)(f:Nat)(bs:List (List T))(p:Nat→Bool)(h:∀k,k<n→aH 0 f (I k::gP bs.length) (aW bs)=some (B (p k),aW bs)):
 aH 0 N.gz [I n,.fn f (gP bs.length)] (aW bs)=some (.t (tL (fL n p)),aW bs):=by
 refine av K.rO rfl ?_
 have hlen:=fun k=>oF k p
 have loop:exS aH K.wg ⟨[I n,.fn f (gP bs.length),.nil,.ref bs.length 0 0,.und,I n,I 0],aW bs++[.arr 1 false 0 []]⟩=
  some (.exit 0,⟨[.und,.fn f (gP bs.length),.und,.ref bs.length 0 (fL n p).length,.und,I n,I n],aW bs++[.arr 1 false 0 (((fL n p).map (T.int .i64)).map .t)]⟩):=by
  refine bz (fun j=>⟨[.und,.fn f (gP bs.length),.und,.ref bs.length 0 (fL j p).length,.und,I n,I j],aW bs++[.arr 1 false 0 (((fL j p).map (T.int .i64)).map .t)]⟩) n rfl ?_ ?_ (by simp)
  · intro j hj
    have hc:=GF [.arr 1 false 0 (((fL j p).map (T.int .i64)).map .t)] (h j hj) rfl
    have:=hlen j
    by_cases hp:p j=true
    · simp(disch:=omega)only[go_sem,K.mh,hc,hp,oW,↓reduceIte]
    · simp(disch:=omega)only[go_sem,K.mh,hc,hp,oW,↓reduceIte]
  · simp(disch:=omega)only[go_sem,K.mh,↓reduceIte]
 simp(disch:=omega)only[go_sem,K.gz,↓reduceIte,loop]
end Go.Ev
namespace Go.Ev
open Go
variable [Lib] [bX] [bJ]
theorem Al{α:Type}(sz:Nat)(f:α→T)(h:∀a,pZ sz (f a).cells=true):∀l:List α,fm sz (l.map f)=true
 | []=>rfl
 | a::l=>by rw[List.map_cons,x9,h,Al sz f h l];rfl
@[go_sem] theorem UU (k : IntKind) (l : List Int) : fm 1 (l.map (.int k)) = true := Al 1 _ (fun _ => rfl) l
theorem B9(sz:Nat):∀ts:List T,(ts.all fun e=>e.cells.length==sz)=fm sz ts
 | []=>rfl
 | t::ts=>by
   rw[List.all_cons,x9,B9 sz ts]
   congr 1
   rw[Bool.eq_iff_iff,gY];simp
section
variable (H : aq) (sz : Nat) (ts : List T) (i j : Int)
@[go_sem] theorem aiZ : L3 H sz (some (.t (.sl ts))) (some none) (some (some i)) = if 0 ≤ i then (if i ≤ ts.length then (if fm sz ts = true then some (.t (.sl (ts.take i.toNat)), H) else none) else none) else none := by
 simp only[L3,aLq,sV,bound,B9,idx]
 by_cases h1:0≤i
 · rw[if_pos h1,if_pos h1,aLq]
   by_cases h2:i≤ts.length
   · rw[if_pos h2]
     by_cases h3:fm sz ts=true
     · rw[if_pos h3,if_pos ⟨by omega,by omega,h3⟩];rfl
     · rw[if_neg h3,if_neg fun h=>h3 h.2.2];rfl
   · rw[if_neg h2,if_neg fun h=>h2 (by omega)];rfl
 · rw[if_neg h1,if_neg h1];rfl
@[go_sem] theorem ai0 : L3 H sz (some (.t (.sl ts))) (some (some i)) (some none) = if 0 ≤ i then (if i ≤ ts.length then (if fm sz ts = true then some (.t (.sl (ts.drop i.toNat)), H) else none) else none) else none := by
 simp only[L3,aLq,sV,bound,B9,idx]
 by_cases h1:0≤i
 · rw[if_pos h1,if_pos h1,aLq]
   by_cases h2:i≤ts.length
   · rw[if_pos h2]
     by_cases h3:fm sz ts=true
     · rw[if_pos h3,if_pos ⟨by omega,by omega,h3⟩,List.take_of_length_le (by simp)];rfl
     · rw[if_neg h3,if_neg fun h=>h3 h.2.2];rfl
   · rw[if_neg h2,if_neg fun h=>h2 (by omega)];rfl
 · rw[if_neg h1,if_neg h1];rfl
end
def bsK(H:aq)(l:List Nat):Option T→Option (D×aq)
 | some t=>some (.t (.sl [t]),pins H l)
 | none=>none
@[go_sem] theorem agB (H : aq) (l : List Nat) (t : T) : bsK H l (some t) = some (.t (.sl [t]), pins H l) := (rfl)
@[go_sem] theorem agC (H : aq) (sz : Nat) (cs : List D) : Nu H sz [.agg cs] = if pZ sz cs = true then bsK H (gI H 8 (.agg cs)) (frz H 8 (.agg cs)) else none := by
 simp only[Nu,List.all_cons,List.all_nil,Bool.and_true,D.cells]
 by_cases h:pZ sz cs=true
 · rw[if_pos h,if_pos (by simpa using gY.1 h)]
   simp only[cg,depth,List.flatMap_cons,List.flatMap_nil,List.append_nil]
   cases frz H 8 (.agg cs)<;>rfl
 · rw[if_neg h,if_neg (by intro e;exact h (gY.2 (by simpa using e)))]
def XJ(H:aq)(r:D)(os:aq):D×aq:=(r,H++os)
@[go_sem] theorem agD (H : aq) (r : D) (os : aq) : XJ H r os = (r, H ++ os) := (rfl)
def adW(H:aq)(os:aq)(r:D):Option (D×aq):=(cg (gn (dy [] H.length)) os).map (XJ H r)
@[go_sem] theorem agE (H : aq) (os : aq) (r : D) : adW H os r = (cg (gn (dy [] H.length)) os).map (XJ H r) := (rfl)
@[go_sem] theorem adX (H : aq) (r : D) (o : Obj) (os : aq) : zi H (r, o :: os) = (ren (dy [] H.length) 8 r).bind (adW H (o :: os)) := by
 simp only[zi,List.isEmpty_cons,Bool.and_false,aLt,if_false]
 rfl
end Go.Ev
namespace Go.Ev
open Go
variable [Lib] [bX] [bJ]
structure Place where
 h:Int
 surf:Bool
instance : Dat Place := ⟨⟨0, false⟩⟩
abbrev Place.e(p:Place):T:= .agg [tI p.h,.bool p.surf]
structure Road where
 frm:Int
 to:Int
 len:Int
 area:Int
 walk:Bool
 closed:Bool
 te:Int
 restH:Int
 liftL:Int
 liftH:Int
instance : Dat Road := ⟨⟨0, 0, 0, 0, false, false, 0, 0, 0, 0⟩⟩
abbrev Road.e(r:Road):T:= .agg [tI r.frm,tI r.to,tI r.len,tI r.area,.bool r.walk,.bool r.closed,tI r.te,tI r.restH,tI r.liftL,tI r.liftH]
structure aC where
 aa:List Place
 roads:List Road
instance : Dat aC := ⟨⟨[], []⟩⟩
abbrev aC.e(m:aC):T:= .agg [.sl (m.aa.map Place.e),.sl (m.roads.map Road.e)]
structure Road.ok(n:Nat)(r:Road):Prop where
 f0:0≤r.frm
 f1:r.frm<n
 t0:0≤r.to
 t1:r.to<n
 ne:r.frm≠r.to
 l0:1≤r.len
 l1:r.len≤100000
 a0:1≤r.area
 a1:r.area≤1000
 r0:1≤r.te
 r1:r.te≤r.restH
 r2:r.restH≤262144
 i0: -2199023255552≤r.liftL
 i1:r.liftL≤r.liftH
 i2:r.liftH≤2199023255552
structure aC.ok(m:aC):Prop where
 np:m.aa.length≤64
 nr:m.roads.length≤128
 hs:∀p∈m.aa, -10000≤p.h∧p.h≤10000
 rs:∀r∈m.roads,r.ok m.aa.length
theorem GG(a b lo hi:Int):aH 0 N.iY [.t (.agg [tI a,tI b]),I lo,I hi] []=some (B (decide (lo≤a∧a≤b∧b≤hi)),[]):=by
 refine av K.tW rfl ?_
 by_cases h1:lo≤a<;>by_cases h2:a≤b<;>by_cases h3:b≤hi<;>simp(disch:=omega)only[go_sem,K.iY,↓reduceIte,h1,h2,h3]
theorem pO{m:aC}(h:m.ok):aH 0 N.di [.t m.e] []=some (I 0,[]):=by
 refine av K.rI rfl ?_
 have np:=h.np
 have nr:=h.nr
 have loop1:∀a b c d e:D,exS aH K.wc ⟨[a,.bp 0 0,b,I 0,c,d,e],[.box [.t (.sl (m.aa.map Place.e)),.t (.sl (m.roads.map Road.e))]]⟩=
  some (.exit 0,⟨[.und,.bp 0 0,.und,I m.aa.length,.und,.und,.und],[.box [.t (.sl (m.aa.map Place.e)),.t (.sl (m.roads.map Road.e))]]⟩):=by
  intro a b c d e
  refine bz (fun j=>⟨[.und,.bp 0 0,.und,I j,.und,.und,.und],[.box [.t (.sl (m.aa.map Place.e)),.t (.sl (m.roads.map Road.e))]]⟩) m.aa.length rfl ?_ ?_ (by simp)
  · intro j hj
    have hh:=h.hs _ (ai hj)
    simp(disch:=omega)only[go_sem,K.oS,↓reduceIte]
  · simp(disch:=omega)only[go_sem,K.oS,↓reduceIte]
 have loop2:∀a b c d e:D,exS aH K.we ⟨[a,.bp 0 0,b,c,d,I 0,e],[.box [.t (.sl (m.aa.map Place.e)),.t (.sl (m.roads.map Road.e))]]⟩=
  some (.exit 2,⟨[.und,.bp 0 0,.und,.und,.und,I m.roads.length,.und],[.box [.t (.sl (m.aa.map Place.e)),.t (.sl (m.roads.map Road.e))]]⟩):=by
  intro a b c d e
  refine bz (fun j=>⟨[.und,.bp 0 0,.und,.und,.und,I j,.und],[.box [.t (.sl (m.aa.map Place.e)),.t (.sl (m.roads.map Road.e))]]⟩) m.roads.length rfl ?_ ?_ (by simp)
  · intro j hj
    obtain⟨f0,f1,t0,t1,ne,l0,l1,a0,a1,r0,r1,r2,i0,i1,i2⟩:=h.rs _ (ai hj)
    have s1:=GG (nth m.roads j).te (nth m.roads j).restH 1 262144
    have s2:=GG (nth m.roads j).liftL (nth m.roads j).liftH (-2199023255552) 2199023255552
    simp(disch:=omega)only[go_sem]at s1 s2
    simp(disch:=omega)only[go_sem,K.oT,↓reduceIte,s1,s2]
  · simp(disch:=omega)only[go_sem,K.oT,↓reduceIte]
 simp(disch:=omega)only[go_sem,K.di,↓reduceIte,loop1,loop2]
theorem IZ{l:List Int}{p:Int→Bool}:((List.range l.length).find? fun j=>p (nth l j)).isSome=l.any p:=by
 rw[List.isSome_find?,Bool.eq_iff_iff,List.any_eq_true,List.any_eq_true]
 constructor
 · rintro ⟨j,hj,h⟩
   exact⟨_,ai (aLu.1 hj),h⟩
 · rintro ⟨x,hx,h⟩
   obtain⟨j,hj⟩:=aLf.1 hx
   exact⟨j,aLu.2 (aLe.1 hj).1,by rw[bD hj];exact h⟩
theorem mO(l:List Int)(x:Int)(hl:l.length≤4294967296):aH 0 N.cZ [.t (tL l),I x] []=some (B (decide (x∈l)),[]):=by
 refine av K.wX rfl ?_
 have loop:∀a:D,exS aH K.Ag ⟨[.t (tL l),I x,a,I 0],[]⟩=
  some (match (List.range l.length).find? (fun j=>decide (nth l j=x))with
   | some j=>(.ret,⟨[.t (tL l),I x,B true,I j],[]⟩)
   | none=>(.exit 0,⟨[.t (tL l),I x,.und,I l.length],[]⟩)):=by
  intro a
  refine cq (fun j=>⟨[.t (tL l),I x,.und,I j],[]⟩) l.length (fun j=>decide (nth l j=x)) _ _ rfl ?_ ?_ ?_ (by simp)
  · intro j hj hp
    have hp:¬nth l j=x:=of_decide_eq_false hp
    simp(disch:=omega)only[go_sem,K.ov,↓reduceIte]
  · intro j hj hp
    have hp:nth l j=x:=of_decide_eq_true hp
    simp(disch:=omega)only[go_sem,K.ov,↓reduceIte,hp]
    simp
  · simp(disch:=omega)only[go_sem,K.ov,↓reduceIte]
 have e:=IZ (l:=l) (p:=fun y=>decide (y=x))
 have e2:l.any (fun y=>decide (y=x))=decide (x∈l):=by rw[Bool.eq_iff_iff];simp
 rw[e2]at e
 simp only[go_sem,K.cZ,↓reduceIte,loop]
 cases hf:(List.range l.length).find? (fun j=>decide (nth l j=x))with
 | some j=>rw[hf]at e;simp(disch:=omega)only[go_sem,↓reduceIte,←e]
 | none=>rw[hf]at e;simp(disch:=omega)only[go_sem,↓reduceIte,←e,Option.isSome_none]
theorem I0(a b:List Int)(hl:a.length≤4294967296):aH 0 N.dv [.t (tL a),.t (tL b)] []=some (B (decide (a=b)),[]):=by
 refine av K.nO rfl ?_
 by_cases hlen:a.length=b.length
 · have loop:∀c:D,exS aH K.qR ⟨[.t (tL a),.t (tL b),c,I 0],[]⟩=
    some (match (List.range a.length).find? (fun j=>decide (nth a j≠nth b j))with
     | some j=>(.ret,⟨[.t (tL a),.t (tL b),B false,I j],[]⟩)
     | none=>(.exit 0,⟨[.t (tL a),.t (tL b),.und,I a.length],[]⟩)):=by
    intro c
    refine cq (fun j=>⟨[.t (tL a),.t (tL b),.und,I j],[]⟩) a.length (fun j=>decide (nth a j≠nth b j)) _ _ rfl ?_ ?_ ?_ (by simp)
    · intro j hj hp
      have hp:nth a j=nth b j:=by simpa using hp
      simp(disch:=omega)only[go_sem,K.jZ,↓reduceIte]
    · intro j hj hp
      have hp:nth a j≠nth b j:=by simpa using hp
      simp(disch:=omega)only[go_sem,K.jZ,↓reduceIte]
      simp
    · simp(disch:=omega)only[go_sem,K.jZ,↓reduceIte]
   have e:(a=b)↔(List.range a.length).find? (fun j=>decide (nth a j≠nth b j))=none:=by
    rw[List.find?_eq_none]
    constructor
    · intro h j _;simp[h]
    · intro h
      apply List.ext_getElem?
      intro j
      by_cases hj:j<a.length
      · rw[c7 hj,c7 (by omega)]
        have:=h j (aLu.2 hj)
        simpa using this
      · rw[aLm (by omega),aLm (by omega)]
   simp(disch:=omega)only[go_sem,K.dv,↓reduceIte,loop]
   cases hf:(List.range a.length).find? (fun j=>decide (nth a j≠nth b j))with
   | some j=>rw[hf]at e;simp(disch:=omega)only[go_sem,↓reduceIte,e];simp
   | none=>rw[hf]at e;simp(disch:=omega)only[go_sem,↓reduceIte,e]
 · have hne:a≠b:=fun h=>hlen (by rw[h])
   simp(disch:=omega)only[go_sem,K.dv,↓reduceIte,hne]
def rq(l:List Int)(n:Int):Bool:=(List.range l.length).all fun j=>decide (0≤nth l j∧nth l j<n∧(0<j→nth l (j-1)<nth l j))
theorem rW{n:Nat}{p:Nat→Bool}:((List.range n).all p)=((List.range n).find? fun j=> !p j).isNone:=by
 rw[← Option.not_isSome,List.isSome_find?,List.not_any_eq_all_not]
 simp
theorem KD(l:List Int)(n:Int)(hl:l.length≤4294967296):aH 0 N.iX [.t (tL l),I n] []=some (B (rq l n),[]):=by
 refine av K.wZ rfl ?_
 have loop:∀c:D,exS aH K.Ah ⟨[.t (tL l),I n,c,I 0],[]⟩=
  some (match (List.range l.length).find? (fun j=> !decide (0≤nth l j∧nth l j<n∧(0<j→nth l (j-1)<nth l j)))with
   | some j=>(.ret,⟨[.t (tL l),I n,B false,I j],[]⟩)
   | none=>(.exit 0,⟨[.t (tL l),I n,.und,I l.length],[]⟩)):=by
  intro c
  refine cq (fun j=>⟨[.t (tL l),I n,.und,I j],[]⟩) l.length _ _ _ rfl ?_ ?_ ?_ (by simp)
  · intro j hj hp
    simp only[Bool.not_eq_false',decide_eq_true_eq]at hp
    obtain⟨h1,h2,h3⟩:=hp
    cases j with
    | zero=>simp(disch:=omega)only[go_sem,K.jr,↓reduceIte]
    | succ j=>
      have h3:=h3 (by omega)
      rw[Nat.add_sub_cancel]at h3
      simp(disch:=omega)only[go_sem,K.jr,↓reduceIte]
  · intro j hj hp
    simp only[Bool.not_eq_true',decide_eq_false_iff_not]at hp
    refine⟨?_,by simp⟩
    by_cases h1:0≤nth l j
    · by_cases h2:nth l j<n
      · cases j with
        | zero=>exact absurd ⟨h1,h2,fun h=>absurd h (by omega)⟩ hp
        | succ j=>
          have h3:¬nth l j<nth l (j+1):=fun h=>hp ⟨h1,h2,fun _=>by simpa using h⟩
          simp(disch:=omega)only[go_sem,K.jr,↓reduceIte]
      · simp(disch:=omega)only[go_sem,K.jr,↓reduceIte]
    · simp(disch:=omega)only[go_sem,K.jr,↓reduceIte]
  · simp(disch:=omega)only[go_sem,K.jr,↓reduceIte]
 have e:rq l n=_:=rW
 simp only[go_sem,K.iX,↓reduceIte,loop]
 cases hf:(List.range l.length).find? (fun j=> !decide (0≤nth l j∧nth l j<n∧(0<j→nth l (j-1)<nth l j)))with
 | some j=>rw[hf]at e;simp(disch:=omega)only[go_sem,↓reduceIte,e,Option.isNone_some]
 | none=>rw[hf]at e;simp(disch:=omega)only[go_sem,↓reduceIte,e,Option.isNone_none]
theorem C3(x lo hi:Int):aH 0 N.eI [I x,I lo,I hi] []=some (B (decide (lo≤x∧x≤hi)),[]):=by
 refine av K.zn rfl ?_
 by_cases h1:lo≤x<;>by_cases h2:x≤hi<;>simp(disch:=omega)only[go_sem,K.eI,↓reduceIte]
theorem SM(l:List Int)(x:Int)(hl:l.length≤4294967296):aH 0 N.bT [.t (tL l),I x] []=
 some (I (match (List.range l.length).find? (fun j=>decide (nth l j=x))with | some j=>(j:Int) | none=> -1),[]):=by
 refine av K.jQ rfl ?_
 have loop:∀a b:D,exS aH K.mj ⟨[.t (tL l),I x,a,b,I l.length,I 0],[]⟩=
  some (match (List.range l.length).find? (fun j=>decide (nth l j=x))with
   | some j=>(.ret,⟨[.t (tL l),I x,I j,I j,I l.length,I j],[]⟩)
   | none=>(.exit 0,⟨[.t (tL l),I x,.und,.und,I l.length,I l.length],[]⟩)):=by
  intro a b
  refine cq (fun j=>⟨[.t (tL l),I x,.und,.und,I l.length,I j],[]⟩) l.length (fun j=>decide (nth l j=x)) _ _ rfl ?_ ?_ ?_ (by simp)
  · intro j hj hp
    have hp:¬nth l j=x:=of_decide_eq_false hp
    simp(disch:=omega)only[go_sem,K.gu,↓reduceIte]
  · intro j hj hp
    have hp:nth l j=x:=of_decide_eq_true hp
    simp(disch:=omega)only[go_sem,K.gu,↓reduceIte,hp]
    simp
  · simp(disch:=omega)only[go_sem,K.gu,↓reduceIte]
 simp(disch:=omega)only[go_sem,K.bT,↓reduceIte,loop]
 cases hf:(List.range l.length).find? (fun j=>decide (nth l j=x))with
 | some j=>simp(disch:=omega)only[go_sem,↓reduceIte]
 | none=>simp(disch:=omega)only[go_sem,↓reduceIte]
theorem oX(l:List Int)(x:Int)(hl:l.length≤4294967296):aH 0 N.aO [.t (tL l),I x] []=some (B (decide (x∈l)),[]):=by
 refine av K.iI rfl ?_
 have h:=SM l x hl
 have e:=IZ (l:=l) (p:=fun y=>decide (y=x))
 have e2:l.any (fun y=>decide (y=x))=decide (x∈l):=by rw[Bool.eq_iff_iff];simp
 rw[e2]at e
 cases hf:(List.range l.length).find? (fun j=>decide (nth l j=x))with
 | some j=>rw[hf]at e h;simp(disch:=omega)only[go_sem,K.aO,↓reduceIte,←e,h]
 | none=>rw[hf]at e h;simp(disch:=omega)only[go_sem,K.aO,↓reduceIte,←e,h,Option.isSome_none]
theorem GH(l:List Int)(hl:l.length≤4294967296)(f:Nat)(bs:List (List T))(p:Int→Bool)(h:∀x,x∈l→aH 0 f (I x::gP bs.length) (aW bs)=some (B (p x),aW bs)):
 aH 0 N.aI [.t (tL l),.fn f (gP bs.length)] (aW bs)=
 some (I (match (List.range l.length).find? (fun j=>p (nth l j))with | some j=>(j:Int) | none=> -1),aW bs):=by
 refine av K.dD rfl ?_
 have loop:∀a b:D,exS aH K.eL ⟨[.t (tL l),.fn f (gP bs.length),a,b,I l.length,I 0],aW bs⟩=
  some (match (List.range l.length).find? (fun j=>p (nth l j))with
   | some j=>(.ret,⟨[.t (tL l),.fn f (gP bs.length),I j,I j,I l.length,I j],aW bs⟩)
   | none=>(.exit 0,⟨[.t (tL l),.fn f (gP bs.length),.und,.und,I l.length,I l.length],aW bs⟩)):=by
  intro a b
  refine cq (fun j=>⟨[.t (tL l),.fn f (gP bs.length),.und,.und,I l.length,I j],aW bs⟩) l.length (fun j=>p (nth l j)) _ _ rfl ?_ ?_ ?_ (by simp)
  · intro j hj hp
    have hc:=oE (h _ (ai hj)) rfl
    simp(disch:=omega)only[go_sem,K.aX,↓reduceIte,hc,hp]
  · intro j hj hp
    have hc:=oE (h _ (ai hj)) rfl
    simp(disch:=omega)only[go_sem,K.aX,↓reduceIte,hp,hc]
    simp
  · simp(disch:=omega)only[go_sem,K.aX,↓reduceIte]
 simp(disch:=omega)only[go_sem,K.aI,↓reduceIte,loop]
 cases hf:(List.range l.length).find? (fun j=>p (nth l j))with
 | some j=>simp(disch:=omega)only[go_sem,↓reduceIte]
 | none=>simp(disch:=omega)only[go_sem,↓reduceIte]
theorem uf(l:List Int)(hl:l.length≤4294967296)(f:Nat)(bs:List (List T))(p:Int→Bool)(h:∀x,x∈l→aH 0 f (I x::gP bs.length) (aW bs)=some (B (p x),aW bs)):
 aH 0 N.aK [.t (tL l),.fn f (gP bs.length)] (aW bs)=some (B (l.any p),aW bs):=by
 refine av K.gD rfl ?_
 have h:=GH l hl f bs p h
 have hc:=zp aH bs f _ 0 (tL l) h rfl
 have e:=IZ (l:=l) (p:=p)
 cases hf:(List.range l.length).find? (fun j=>p (nth l j))with
 | some j=>rw[hf]at e hc;simp(disch:=omega)only[go_sem,K.aK,↓reduceIte,←e,hc]
 | none=>rw[hf]at e hc;simp(disch:=omega)only[go_sem,K.aK,↓reduceIte,←e,hc,Option.isSome_none]
theorem XK(r:Road)(back:Bool):aH 0 N.jG [.t r.e,B back] []=some (.tup [I (if back then r.to else r.frm),I (if back then r.frm else r.to)],[]):=by
 refine av K.ud rfl ?_
 cases back<;>simp(disch:=omega)only[go_sem,K.jG,↓reduceIte]
def iC(m:aC)(k:Nat)(back:Bool)(up down level:Int):Int:=
 let x:=nth m.roads k
 if x.closed=true∨x.walk=false then -1 else
 let a:=if back then x.to else x.frm
 let b:=if back then x.frm else x.to
 let rise:=(nth m.aa b.toNat).h-(nth m.aa a.toNat).h
 let speed:=if -10*rise>x.len then down else if 10*rise>x.len then up else level
 (10*x.len+speed-1).tdiv speed
theorem w8{a b:Int}(ha:0≤a)(hb:1≤b):0≤a.tdiv b∧a.tdiv b≤a:=by
 rw[Int.tdiv_eq_ediv_of_nonneg ha]
 exact⟨Int.ediv_nonneg ha (by omega),Int.ediv_le_self _ ha⟩
theorem GI{m:aC}(h:m.ok)(k:Nat)(hk:k<m.roads.length)(back:Bool)(up down level:Int)(hu:1≤up)(hu2:up≤100)(hd:1≤down)(hd2:down≤100)(hl:1≤level)(hl2:level≤100):
 aH 0 N.cA [.t m.e,I k,B back,I up,I down,I level] []=some (I (iC m k back up down level),[]):=by
 refine av K.qe rfl ?_
 have hc:=pO h
 have nr:=h.nr
 have np:=h.np
 obtain⟨f0,f1,t0,t1, -,l0,l1, -, -, -, -, -, -, -, -⟩:=h.rs _ (ai hk)
 have he:=XK (nth m.roads k) back
 have b1:=h.hs _ (ai (l:=m.aa) (j:=(nth m.roads k).frm.toNat) (by omega))
 have b2:=h.hs _ (ai (l:=m.aa) (j:=(nth m.roads k).to.toNat) (by omega))
 unfold iC
 generalize hx:nth m.roads k=x at*
 obtain⟨frm,to,len,area,walk,closed,rl,rh,ll,lh⟩:=x
 simp only at f0 f1 t0 t1 l0 l1 b1 b2 he ⊢
 cases closed with
 | true=>simp(disch:=omega)only[go_sem,K.cA,↓reduceIte,hc,hx]
 | false=>
   cases walk with
   | false=>simp(disch:=omega)only[go_sem,K.cA,↓reduceIte,hc,hx]
   | true=>
     have g1:=w8 (a:=10*len+up-1) (b:=up) (by omega) hu
     have g2:=w8 (a:=10*len+down-1) (b:=down) (by omega) hd
     have g3:=w8 (a:=10*len+level-1) (b:=level) (by omega) hl
     cases back with
     | true=>
       simp only[↓reduceIte]at he ⊢
       have w1:IntKind.i64.wrap ((nth m.aa frm.toNat).h-(nth m.aa to.toNat).h)=(nth m.aa frm.toNat).h-(nth m.aa to.toNat).h:=wS (by omega) (by omega)
       by_cases c2:len< -10*((nth m.aa frm.toNat).h-(nth m.aa to.toNat).h)
       · simp(disch:=omega)only[go_sem,K.cA,↓reduceIte,hc,hx,he,w1,gt_iff_lt]
       · by_cases c1:len<10*((nth m.aa frm.toNat).h-(nth m.aa to.toNat).h)
         · simp(disch:=omega)only[go_sem,K.cA,↓reduceIte,hc,hx,he,w1,gt_iff_lt]
         · simp(disch:=omega)only[go_sem,K.cA,↓reduceIte,hc,hx,he,w1,gt_iff_lt]
     | false=>
       simp only[aLt,↓reduceIte]at he ⊢
       have w1:IntKind.i64.wrap ((nth m.aa to.toNat).h-(nth m.aa frm.toNat).h)=(nth m.aa to.toNat).h-(nth m.aa frm.toNat).h:=wS (by omega) (by omega)
       by_cases c2:len< -10*((nth m.aa to.toNat).h-(nth m.aa frm.toNat).h)
       · simp(disch:=omega)only[go_sem,K.cA,↓reduceIte,hc,hx,he,w1,gt_iff_lt]
       · by_cases c1:len<10*((nth m.aa to.toNat).h-(nth m.aa frm.toNat).h)
         · simp(disch:=omega)only[go_sem,K.cA,↓reduceIte,hc,hx,he,w1,gt_iff_lt]
         · simp(disch:=omega)only[go_sem,K.cA,↓reduceIte,hc,hx,he,w1,gt_iff_lt]
theorem O0{m:aC}(h:m.ok)(k:Nat)(hk:k<m.roads.length)(back:Bool):aH 0 N.i5 [.t m.e,I k,B back] []=some (I (iC m k back 6 9 12),[]):=by
 refine av K.uc rfl ?_
 have hw:=GI h k hk back 6 9 12 (by omega) (by omega) (by omega) (by omega) (by omega) (by omega)
 simp(disch:=omega)only[go_sem,K.i5,↓reduceIte,hw]
theorem ED{m:aC}(h:m.ok)(k:Nat)(hk:k<m.roads.length)(back:Bool): -1≤iC m k back 6 9 12∧iC m k back 6 9 12≤1000012:=by
 have l0:=(h.rs _ (ai hk)).l0
 have l1:=(h.rs _ (ai hk)).l1
 unfold iC
 simp only
 split
 · omega
 · generalize hs:(if -10*_>(nth m.roads k).len then(9:Int)else _)=s
   have h1:1≤s∧s≤12:=by
    rw[← hs]
    split
    · omega
    · split<;>omega
   have g1:=w8 (a:=10*(nth m.roads k).len+s-1) (b:=s) (by omega) h1.1
   omega
def bnd(l:List Int):Prop:=∀x∈l,0≤x∧x≤1099511627776
def n5(l:List Int)(p q:Nat)(walk t:Int):Bool:=
 decide (0≤walk)&&decide (nth l p<1099511627776)&&decide (max t (nth l p+walk)≤2147483648)&&decide (max t (nth l p+walk)<nth l q)
def oY(l:List Int)(p q:Nat)(walk t:Int):List Int:=if n5 l p q walk t=true then l.set q (max t (nth l p+walk))else l
theorem EE(l:List Int)(hb:bnd l)(hl:l.length≤64)(p q:Int)(hp:0≤p)(hp2:p<l.length)(hq:0≤q)(hq2:q<l.length)(walk t:Int)(hw:walk≤1000000000)(ht:t≤1000000000000)(ht0: -1000000000000≤t):
 aH 0 N.dU [.ref 0 0 l.length,I p,I q,I walk,I t] [.arr 1 false 0 ((l.map (T.int .i64)).map .t)]=
  some (B (n5 l p.toNat q.toNat walk t),[.arr 1 false 0 (((oY l p.toNat q.toNat walk t).map (T.int .i64)).map .t)]):=by
 refine av K.rV rfl ?_
 have b1:=hb _ (ai (l:=l) (j:=p.toNat) (by omega))
 have b2:=hb _ (ai (l:=l) (j:=q.toNat) (by omega))
 clear hb
 unfold oY n5
 by_cases c1:0≤walk
 · by_cases c2:nth l p.toNat<1099511627776
   · by_cases c3:max t (nth l p.toNat+walk)≤2147483648
     · by_cases c4:max t (nth l p.toNat+walk)<nth l q.toNat
       · simp(disch:=omega)only[go_sem,K.dU,↓reduceIte]
       · simp(disch:=omega)only[go_sem,K.dU,↓reduceIte]
     · simp(disch:=omega)only[go_sem,K.dU,↓reduceIte]
   · simp(disch:=omega)only[go_sem,K.dU,↓reduceIte]
 · simp(disch:=omega)only[go_sem,K.dU,↓reduceIte]
def O1(into:Option (List Int))(p:Int):Bool:=match into with
 | none=>true
 | some l=>decide (p∈l)
def qf(into:Option (List Int)):D:=match into with
 | none=> .nil
 | some l=> .t (tL l)
def Road.src(r:Road)(back:Bool):Int:=if back then r.to else r.frm
def Road.dst(r:Road)(back:Bool):Int:=if back then r.frm else r.to
theorem Road.zV{n:Nat}{r:Road}(h:r.ok n)(back:Bool):0≤r.src back∧r.src back<n:=by
 unfold Road.src;have:=h.f0;have:=h.f1;have:=h.t0;have:=h.t1;cases back<;>simp<;>omega
theorem Road.DL{n:Nat}{r:Road}(h:r.ok n)(back:Bool):0≤r.dst back∧r.dst back<n:=by
 unfold Road.dst;have:=h.f0;have:=h.f1;have:=h.t0;have:=h.t1;cases back<;>simp<;>omega
def gG(m:aC)(t:Int)(into:Option (List Int))(k:Nat)(back:Bool)(l:List Int):List Int×Bool:=
 if O1 into ((nth m.roads k).dst back)=true then
  (oY l ((nth m.roads k).src back).toNat ((nth m.roads k).dst back).toNat (iC m k back 6 9 12) t,n5 l ((nth m.roads k).src back).toNat ((nth m.roads k).dst back).toNat (iC m k back 6 9 12) t)
 else(l,false)
def w9(m:aC)(t:Int)(into:Option (List Int))(k:Nat)(s:List Int×Bool):List Int×Bool:=
 let a:=gG m t into k false s.1
 let b:=gG m t into k true a.1
 (b.1,s.2||a.2||b.2)
def gv(m:aC)(t:Int)(into:Option (List Int))(l:List Int):Nat→List Int×Bool
 | 0=>(l,false)
 | k+1=>w9 m t into k (gv m t into l k)
def dQ(m:aC)(t:Int)(into:Option (List Int))(l:List Int):List Int×Bool:=gv m t into l m.roads.length
theorem oG(l:List Int)(p q:Nat)(w t:Int):(oY l p q w t).length=l.length:=by unfold oY;split<;>simp
theorem qS(m:aC)(t:Int)(into:Option (List Int))(k:Nat)(back:Bool)(l:List Int):(gG m t into k back l).1.length=l.length:=by
 unfold gG;split
 · exact oG _ _ _ _ _
 · rfl
theorem dZ(m:aC)(t:Int)(into:Option (List Int))(l:List Int):∀k,(gv m t into l k).1.length=l.length
 | 0=>rfl
 | k+1=>by simp only[gv,w9,qS,dZ m t into l k]
theorem zq{l:List Int}(h:bnd l){q:Nat}{x:Int}(h0:0≤x)(h1:x≤1099511627776):bnd (l.set q x):=by
 intro y hy
 rcases aLk hy with hy | hy
 · exact h y hy
 · subst hy;exact⟨h0,h1⟩
theorem DM{l:List Int}(h:bnd l){p q:Nat}(hp:p<l.length){w t:Int}:bnd (oY l p q w t):=by
 unfold oY
 split
 · rename_i hc
   simp only[n5,aLr,decide_eq_true_eq]at hc
   have:=h _ (ai hp)
   exact zq h (by omega) (by omega)
 · exact h
section
variable {m : aC} (h : m.ok) {t : Int} {into : Option (List Int)}
include h
theorem ug{l:List Int}(hl:l.length=m.aa.length)(hb:bnd l){k:Nat}(hk:k<m.roads.length)(back:Bool):bnd (gG m t into k back l).1:=by
 have r1:=Road.zV (h.rs _ (ai hk)) back
 unfold gG
 split
 · exact DM hb (by omega)
 · exact hb
theorem jJ{l:List Int}(hl:l.length=m.aa.length)(hb:bnd l):∀k,k≤m.roads.length→bnd (gv m t into l k).1
 | 0,_=>hb
 | k+1,hk=>by
   simp only[gv,w9]
   exact ug h (by rw[qS,dZ,hl]) (ug h (by rw[dZ,hl]) (jJ hl hb k (by omega)) (by omega) _) (by omega) _
end
def Ba(l:List Int):Nat:=(l.map Int.toNat).sum
theorem KE:∀ {l:List Int} {q:Nat} {x:Int},q<l.length→0≤x→x<nth l q→Ba (l.set q x)<Ba l
 | [],q,x,h,_,_=>by simp at h
 | a::l,0,x,_,h0,h1=>by
   have h1:x<a:=by simpa [nth]using h1
   simp only[Ba,List.set_cons_zero,List.map_cons,List.sum_cons];omega
 | a::l,q+1,x,h,h0,h1=>by
   have:=KE (l:=l) (q:=q) (x:=x) (by simpa using h) h0 (by simpa [nth]using h1)
   simp only[Ba,List.set_cons_succ,List.map_cons,List.sum_cons]at this ⊢;omega
theorem Mb{l:List Int}(hb:bnd l){p q:Nat}(hp:p<l.length)(hq:q<l.length){w t:Int}:
 (n5 l p q w t=true→Ba (oY l p q w t)<Ba l)∧(n5 l p q w t=false→oY l p q w t=l):=by
 unfold oY
 constructor
 · intro hc
   rw[if_pos hc]
   simp only[n5,aLr,decide_eq_true_eq]at hc
   have:=hb _ (ai hp)
   exact KE hq (by omega) hc.2
 · intro hc;rw[if_neg (by simp[hc])]
section
variable {m : aC} (h : m.ok) {t : Int} {into : Option (List Int)}
include h
theorem Ca{l:List Int}(hl:l.length=m.aa.length)(hb:bnd l){k:Nat}(hk:k<m.roads.length)(back:Bool):
 ((gG m t into k back l).2=true→Ba (gG m t into k back l).1<Ba l)∧((gG m t into k back l).2=false→(gG m t into k back l).1=l):=by
 have r1:=Road.zV (h.rs _ (ai hk)) back
 have r2:=Road.DL (h.rs _ (ai hk)) back
 unfold gG
 split
 · exact Mb hb (by omega) (by omega)
 · simp
theorem qT{l:List Int}(hl:l.length=m.aa.length)(hb:bnd l):∀k,k≤m.roads.length→
 ((gv m t into l k).2=true→Ba (gv m t into l k).1<Ba l)∧((gv m t into l k).2=false→(gv m t into l k).1=l)
 | 0,_=>⟨fun h=>by simp[gv]at h,fun _=>rfl⟩
 | k+1,hk=>by
   obtain⟨i1,i2⟩:=qT hl hb k (by omega)
   have hb1:=jJ h (t:=t) (into:=into) hl hb k (by omega)
   have hl1:(gv m t into l k).1.length=m.aa.length:=by rw[dZ,hl]
   obtain⟨a1,a2⟩:=Ca h (t:=t) (into:=into) hl1 hb1 (k:=k) (by omega) false
   have hb2:=ug h (t:=t) (into:=into) hl1 hb1 (k:=k) (by omega) false
   obtain⟨c1,c2⟩:=Ca h (t:=t) (into:=into) (by rw[qS,hl1]) hb2 (k:=k) (by omega) true
   simp only[gv,w9]
   generalize gv m t into l k=s at*
   obtain⟨sl,sb⟩:=s
   simp only at*
   generalize gG m t into k false sl=a at*
   obtain⟨al,ab⟩:=a
   simp only at*
   generalize gG m t into k true al=b at*
   obtain⟨bl,bb⟩:=b
   simp only at*
   cases sb<;>cases ab<;>cases bb<;>simp_all<;>omega
end
end Go.Ev
namespace Go.Ev
open Go
variable [Lib] [bX] [bJ]
abbrev ae(m:aC):List D:=[.t (.sl (m.aa.map Place.e)),.t (.sl (m.roads.map Road.e))]
theorem XL(H:aq)(into:Option (List Int))(hi:∀l,into=some l→l≠[]):Gw H .sl false (some (qf into)) (some .nil)=some (B (into.isNone),H):=by
 cases into with
 | none=>rfl
 | some l=>exact A7 H _ (by simpa using hi l rfl)
@[go_sem] theorem adY (k n : Nat) (into : Option (List Int)) : old k n (qf into) = true := by
 cases into<;>simp only[qf,go_sem]
theorem Mc{m:aC}(h:m.ok)(t:Int)(ht:t≤1000000000000)(ht0: -1000000000000≤t)(into:Option (List Int))(hi:∀l,into=some l→l≠[]∧l.length≤64)(l:List Int)(hl:l.length=m.aa.length)(hb:bnd l)
 (k:Nat) (hk:k<m.roads.length) (ag:Bool):
 gp true [0,1,5,9] 2 (exS aH K.fZ ⟨[.und,.und,I t,qf into,.bp 0 0,.und,.ref 1 0 l.length,B ag,I k,.und],[.box (ae m),.arr 1 false 0 ((l.map (T.int .i64)).map .t)]⟩)=
  some ⟨[.und,.und,I t,qf into,.bp 0 0,.und,.ref 1 0 (w9 m t into k (l,ag)).1.length,B (w9 m t into k (l,ag)).2,I (k+1),.und],[.box (ae m),.arr 1 false 0 (((w9 m t into k (l,ag)).1.map (T.int .i64)).map .t)]⟩:=by
 have np:=h.np
 have nr:=h.nr
 have t1:=O0 h k hk false
 have t2:=O0 h k hk true
 have w1:=(ED h k hk false).2
 have w2:=(ED h k hk true).2
 obtain⟨f0,f1,t0,t1', -, -, -, -, -, -, -, -, -, -, -⟩:=h.rs _ (ai hk)
 have e0:=fun H=>XL H into fun l hl=>(hi l hl).1
 have lw1:=EE l hb (by omega) (nth m.roads k).frm (nth m.roads k).to f0 (by omega) t0 (by omega) (iC m k false 6 9 12) t (by omega) ht ht0
 have lw2:=EE l hb (by omega) (nth m.roads k).to (nth m.roads k).frm t0 (by omega) f0 (by omega) (iC m k true 6 9 12) t (by omega) ht ht0
 have hl':(oY l (nth m.roads k).frm.toNat (nth m.roads k).to.toNat (iC m k false 6 9 12) t).length=l.length:=oG ..
 have lw3:=EE _ (DM hb (p:=(nth m.roads k).frm.toNat) (q:=(nth m.roads k).to.toNat) (w:=iC m k false 6 9 12) (t:=t) (by omega)) (by omega) (nth m.roads k).to (nth m.roads k).frm t0 (by omega) f0 (by omega) (iC m k true 6 9 12) t (by omega) ht ht0
 rw[hl']at lw3
 simp only[w9,gG,Road.src,Road.dst,aLt,↓reduceIte]
 generalize hx:nth m.roads k=x at*
 obtain⟨frm,to,len,area,walk,closed,rl,rh,ll,lh⟩:=x
 simp only at f0 f1 t0 t1' lw1 lw2 lw3 hl' ⊢
 generalize hw1:iC m k false 6 9 12=v1 at*
 generalize hw2:iC m k true 6 9 12=v2 at*
 clear hb
 cases into with
 | none=>
   simp only[qf,O1,↓reduceIte,Option.isNone]at e0 ⊢
   cases c1:n5 l frm.toNat to.toNat v1 t<;>cases c2:n5 (oY l frm.toNat to.toNat v1 t) to.toNat frm.toNat v2 t<;>rw[c1]at lw1<;>rw[c2]at lw3<;>
   simp(disch:=omega)only[go_sem,K.fZ,↓reduceIte,hx,e0,t1,t2,lw1,lw3,oG,reduceAdd,reduceSub]
 | some s=>
   have hs:=(hi s rfl).2
   have g1:=mO s to (by omega)
   have g2:=mO s frm (by omega)
   simp only[qf,O1,Option.isNone]at e0 ⊢
   by_cases m1:to∈s<;>by_cases m2:frm∈s
   · simp only[m1,m2,decide_true,↓reduceIte]at g1 g2 ⊢
     cases c1:n5 l frm.toNat to.toNat v1 t<;>cases c2:n5 (oY l frm.toNat to.toNat v1 t) to.toNat frm.toNat v2 t<;>rw[c1]at lw1<;>rw[c2]at lw3<;>
     simp(disch:=omega)only[go_sem,K.fZ,↓reduceIte,hx,e0,t1,t2,lw1,lw3,g1,g2,c1,Bool.or_true,Bool.or_false,oG,reduceAdd,reduceSub]
   · simp only[m1,m2,decide_true,decide_false,↓reduceIte]at g1 g2 ⊢
     cases c1:n5 l frm.toNat to.toNat v1 t<;>rw[c1]at lw1<;>
     simp(disch:=omega)only[go_sem,K.fZ,↓reduceIte,hx,e0,t1,t2,lw1,g1,g2,c1,Bool.or_true,Bool.or_false,oG,reduceAdd,reduceSub]
   · simp only[m1,m2,decide_true,decide_false,↓reduceIte]at g1 g2 ⊢
     cases c1:n5 l to.toNat frm.toNat v2 t<;>rw[c1]at lw2<;>
     simp(disch:=omega)only[go_sem,K.fZ,↓reduceIte,hx,e0,t1,t2,lw2,g1,g2,c1,Bool.or_true,Bool.or_false,oG,reduceAdd,reduceSub]
   · simp only[m1,m2,decide_false,↓reduceIte]at g1 g2 ⊢
     simp(disch:=omega)only[go_sem,K.fZ,↓reduceIte,hx,e0,t1,t2,g1,g2,reduceAdd,reduceSub]
theorem Bb{m:aC}(h:m.ok)(t:Int)(ht:t≤1000000000000)(ht0: -1000000000000≤t)(into:Option (List Int))(hi:∀l,into=some l→l≠[]∧l.length≤64)(l:List Int)(hl:l.length=m.aa.length)(hb:bnd l):
 aH 0 N.gC [.t m.e,.t (tL l),I t,qf into] []=some (.t (tL (ja (dQ m t into) (Ba l+1) l)),[])∧(ja (dQ m t into) (Ba l+1) l).length=m.aa.length∧bnd (ja (dQ m t into) (Ba l+1) l):=by
 have nr:=h.nr
 have inner:∀(l:List Int),l.length=m.aa.length→bnd l→∀(a b c d:D),exS aH K.wq ⟨[a,b,I t,qf into,.bp 0 0,c,.ref 1 0 l.length,B false,I 0,d],[.box (ae m),.arr 1 false 0 ((l.map (T.int .i64)).map .t)]⟩=
  some (.exit 2,⟨[.und,.und,I t,qf into,.bp 0 0,.und,.ref 1 0 l.length,B (dQ m t into l).2,I m.roads.length,.und],[.box (ae m),.arr 1 false 0 (((dQ m t into l).1.map (T.int .i64)).map .t)]⟩):=by
  intro l hl hb a b c d
  refine bz (fun j=>⟨[.und,.und,I t,qf into,.bp 0 0,.und,.ref 1 0 (gv m t into l j).1.length,B (gv m t into l j).2,I j,.und],[.box (ae m),.arr 1 false 0 (((gv m t into l j).1.map (T.int .i64)).map .t)]⟩) m.roads.length rfl ?_ ?_ (by simp)
  · intro j hj
    have:=Mc h t ht ht0 into hi (gv m t into l j).1 (by rw[dZ,hl]) (jJ h hl hb j (by omega)) j hj (gv m t into l j).2
    exact this
  · simp(disch:=omega)only[go_sem,K.fZ,↓reduceIte,dQ,dZ]
 have outer:=fun(a b c d e:D)=>zo (gc:=true) (dead:=[0,1,5,8,9]) (c:=K.mi) (vs:=[a,b,I t,qf into,.bp 0 0,c,.ref 1 0 l.length,B true,d,e]) (H:=[.box (ae m),.arr 1 false 0 ((l.map (T.int .i64)).map .t)])
  (fun l ag=>⟨[.und,.und,I t,qf into,.bp 0 0,.und,.ref 1 0 l.length,B ag,.und,.und],[.box (ae m),.arr 1 false 0 ((l.map (T.int .i64)).map .t)]⟩)
  (fun l=>(.exit 0,⟨[.und,.und,I t,qf into,.bp 0 0,.und,.ref 1 0 l.length,B false,.und,.und],[.box (ae m),.arr 1 false 0 ((l.map (T.int .i64)).map .t)]⟩))
  (dQ m t into) (fun l=>l.length=m.aa.length∧bnd l) Ba
  (fun l ⟨hl,hb⟩=>⟨⟨by rw[dQ,dZ,hl],jJ h hl hb _ (aLs _)⟩,(qT h hl hb _ (aLs _)).1⟩)
  (by
   rintro l ⟨hl,hb⟩
   have:=inner l hl hb
   have e:(dQ m t into l).1.length=l.length:=by rw[dQ,dZ]
   simp(disch:=omega)only[go_sem,K.mi,↓reduceIte,this,e])
  (by
   rintro l ⟨hl,hb⟩
   simp(disch:=omega)only[go_sem,K.mi,↓reduceIte,reduceCtorEq,ne_eq,not_false_eq_true,and_self])
  l ⟨hl,hb⟩ rfl
 obtain⟨-,o2⟩:=outer .und .und .und .und .und
 refine⟨?_,o2⟩
 refine av K.rT rfl ?_
 have o1:∀a b c d e:D,exS aH K.wu ⟨[a,b,I t,qf into,.bp 0 0,c,.ref 1 0 l.length,B true,d,e],[.box (ae m),.arr 1 false 0 ((l.map (T.int .i64)).map .t)]⟩=_:=fun a b c d e=>(outer a b c d e).1
 clear outer inner
 have np:=h.np
 have o2:=o2.1
 generalize ja (dQ m t into) (Ba l+1) l=l2 at*
 cases into with
 | none=>
   simp only[qf]at o1
   simp(disch:=omega)only[go_sem,K.gC,↓reduceIte,o1,qf]
 | some s=>
   simp only[qf]at o1
   simp(disch:=omega)only[go_sem,K.gC,↓reduceIte,o1,qf]
structure Wh where
 time:Int
 frm:List Int
instance : Dat Wh := ⟨⟨0, []⟩⟩
abbrev Wh.e(w:Wh):T:= .agg [tI w.time,tL w.frm]
def dE(m:aC)(t:Int)(into:Option (List Int))(l:List Int):List Int:=ja (dQ m t into) (Ba l+1) l
def inT(t:Int):Prop:=0≤t∧t≤2147483648
instance (t : Int) : Decidable (inT t) := by unfold inT; infer_instance
def plT(x:Int):Prop:=x=1099511627776∨inT x
instance (t : Int) : Decidable (plT t) := by unfold plT; infer_instance
def ky(w:Wh)(n:Int):Bool:=decide ((w.frm.length:Int)=n∧inT w.time)&&(List.range w.frm.length).all fun j=>decide (plT (nth w.frm j))
theorem mW{x:Int}(h:plT x):0≤x∧x≤1099511627776:=by unfold plT inT at h;omega
theorem yj(t:Int):aH 0 N.dX [I t] []=some (B (decide (inT t)),[]):=by
 refine av K.qd rfl ?_
 unfold inT
 by_cases h1:0≤t<;>by_cases h2:t≤2147483648<;>simp(disch:=omega)only[go_sem,K.dX,↓reduceIte,h1,h2]
theorem yk{m:aC}(h:m.ok)(t:Int)(ht:inT t)(l:List Int)(hl:l.length=m.aa.length)(hb:bnd l):
 aH 0 N.eH [.t m.e,.t (tL l),I t] []=some (.t (tL (dE m t none l)),[]):=by
 refine av K.rQ rfl ?_
 unfold inT at ht
 have:=(Bb h t (by omega) (by omega) none (by simp) l hl hb).1
 simp only[qf]at this
 unfold dE
 simp(disch:=omega)only[go_sem,K.eH,↓reduceIte,this]
theorem Bc(w:Wh)(n:Int)(hl:w.frm.length≤4294967296):aH 0 N.dT [.t w.e,I n] []=some (B (ky w n),[]):=by
 refine av K.rU rfl ?_
 obtain⟨time,frm⟩:=w
 simp only at hl
 have loop:∀a b c:D,exS aH K.wy ⟨[a,b,.bp 0 0,c,I 0],[.box [I time,.t (tL frm)]]⟩=
  some (match (List.range frm.length).find? (fun j=> !decide (plT (nth frm j)))with
   | some j=>(.ret,⟨[.und,.und,.bp 0 0,B false,I j],[.box [I time,.t (tL frm)]]⟩)
   | none=>(.exit 0,⟨[.und,.und,.bp 0 0,.und,I frm.length],[.box [I time,.t (tL frm)]]⟩)):=by
  intro a b c
  refine cq (fun j=>⟨[.und,.und,.bp 0 0,.und,I j],[.box [I time,.t (tL frm)]]⟩) frm.length (fun j=> !decide (plT (nth frm j))) _ _ rfl ?_ ?_ ?_ (by simp)
  · intro j hj hp
    have hp:plT (nth frm j):=by simpa using hp
    unfold plT inT at hp
    by_cases h1:nth frm j=1099511627776
    · simp(disch:=omega)only[go_sem,K.i9,↓reduceIte,h1]
    · simp(disch:=omega)only[go_sem,K.i9,↓reduceIte]
  · intro j hj hp
    have hp:¬plT (nth frm j):=by simpa using hp
    unfold plT inT at hp
    by_cases h2:0≤nth frm j
    · simp(disch:=omega)only[go_sem,K.i9,↓reduceIte]
      simp
    · simp(disch:=omega)only[go_sem,K.i9,↓reduceIte]
      simp
  · simp(disch:=omega)only[go_sem,K.i9,↓reduceIte]
 unfold ky
 rw[rW]
 by_cases h1:(frm.length:Int)=n
 · by_cases h2:0≤time
   · by_cases h3:time≤2147483648
     · have h4:inT time:=⟨h2,h3⟩
       simp(disch:=omega)only[go_sem,K.dT,↓reduceIte,loop,h1]
       cases hf:(List.range frm.length).find? (fun j=> !decide (plT (nth frm j)))with
       | some j=>simp(disch:=omega)only[go_sem,↓reduceIte,Option.isNone]
       | none=>simp(disch:=omega)only[go_sem,↓reduceIte,Option.isNone,h4,and_self,decide_true]
     · have h4:¬inT time:=by unfold inT;omega
       simp(disch:=omega)only[go_sem,K.dT,↓reduceIte,loop,h1,h4,and_false,decide_false]
   · have h4:¬inT time:=by unfold inT;omega
     simp(disch:=omega)only[go_sem,K.dT,↓reduceIte,loop,h1,h4,and_false,decide_false]
 · simp(disch:=omega)only[go_sem,K.dT,↓reduceIte,loop,h1,false_and,decide_false]
def dF(m:aC)(w:Wh):Bool:=ky w m.aa.length&&decide (dE m w.time none w.frm=w.frm)
theorem lB{w:Wh}{n:Int}(h:ky w n=true):(w.frm.length:Int)=n∧inT w.time∧∀x∈w.frm,plT x:=by
 simp only[ky,aLr,decide_eq_true_eq,aLx,aLu]at h
 refine⟨h.1.1,h.1.2,fun x hx=>?_⟩
 obtain⟨j,hj⟩:=aLf.1 hx
 have:=h.2 j (aLe.1 hj).1
 rwa [bD hj]at this
theorem lI{m:aC}(h:m.ok)(t:Int)(ht:inT t)(into:Option (List Int))(hi:∀l,into=some l→l≠[]∧l.length≤64){l:List Int}(hl:l.length=m.aa.length)(hb:bnd l):(dE m t into l).length=m.aa.length:=by
 unfold inT at ht
 exact(Bb h t (by omega) (by omega) into hi l hl hb).2.1
theorem DN{m:aC}(h:m.ok)(t:Int)(ht:inT t)(into:Option (List Int))(hi:∀l,into=some l→l≠[]∧l.length≤64){l:List Int}(hl:l.length=m.aa.length)(hb:bnd l):bnd (dE m t into l):=by
 unfold inT at ht
 exact(Bb h t (by omega) (by omega) into hi l hl hb).2.2
theorem EF{m:aC}(h:m.ok)(w:Wh)(hl:w.frm.length≤4294967296):aH 0 N.gB [.t m.e,.t w.e] []=some (B (dF m w),[]):=by
 refine av K.rR rfl ?_
 have c:=pO h
 have p:=Bc w m.aa.length hl
 have np:=h.np
 unfold dF
 cases hp:ky w m.aa.length with
 | false=>
   rw[hp]at p
   obtain⟨time,frm⟩:=w
   simp(disch:=omega)only[go_sem,K.gB,↓reduceIte,c,p,Bool.false_and,reduceAdd,reduceSub]
 | true=>
   obtain⟨h1,h2,h3⟩:=lB hp
   rw[hp]at p
   have hb:bnd w.frm:=fun x hx=>mW (h3 x hx)
   have cl:=yk h w.time h2 w.frm (by omega) hb
   have ln:=lI h w.time h2 none (by simp) (l:=w.frm) (by omega) hb
   obtain⟨time,frm⟩:=w
   simp only at*
   have sm:=I0 (dE m time none frm) frm (by omega)
   simp(disch:=omega)only[go_sem,K.gB,↓reduceIte,c,p,cl,sm,Bool.true_and,reduceAdd,reduceSub]
theorem Cb(w:Wh)(hl:w.frm.length≤4294967296):aH 0 N.dh [.t w.e] []=some (.t w.e,[]):=by
 refine av K.tZ rfl ?_
 obtain⟨time,frm⟩:=w
 simp only at*
 simp(disch:=omega)only[go_sem,K.dh,↓reduceIte,reduceAdd,reduceSub]
def nq(n:Nat):List Int:=List.replicate n 1099511627776
theorem I3(n:Nat):nq (n+1)=nq n++[1099511627776]:=List.replicate_succ'
@[simp] theorem oH (n : Nat) : (nq n).length = n := List.length_replicate
theorem zr(n:Nat):bnd (nq n):=fun x hx=>by rw[List.eq_of_mem_replicate hx];omega
theorem Md(n:Nat)(hn:n≤1000000)(a:D):exS aH K.wm ⟨[I n,a,.ref 0 0 0,I 0],[.arr 1 false 0 []]⟩=
 some (.exit 0,⟨[I n,.und,.ref 0 0 n,I n],[.arr 1 false 0 (((nq n).map (T.int .i64)).map .t)]⟩):=by
 refine bz (fun j=>⟨[I n,.und,.ref 0 0 (nq j).length,I j],[.arr 1 false 0 (((nq j).map (T.int .i64)).map .t)]⟩) n rfl ?_ ?_ (by simp)
 · intro j hj
   have:=oH j
   simp(disch:=omega)only[go_sem,K.oV,I3,↓reduceIte]
 · simp(disch:=omega)only[go_sem,K.oV,↓reduceIte,oH]
theorem GJ(n:Nat)(hn:n≤1000000):aH 1 N.gZ [I n] []=some (.ref 0 0 n,[.arr 1 false 0 (((nq n).map (T.int .i64)).map .t)]):=by
 refine av K.rP rfl ?_
 have:=Md n hn
 simp(disch:=omega)only[go_sem,K.gZ,↓reduceIte,this]
def iD(m:aC)(p t:Int):Wh×Int:=
 if p<0∨(m.aa.length:Int)≤p then(⟨0,[]⟩,3)else if inT t then(⟨t,dE m t none ((nq m.aa.length).set p.toNat t)⟩,0)else(⟨0,[]⟩,8)
theorem KF{m:aC}(h:m.ok)(p t:Int):aH 0 N.fD [.t m.e,I p,I t] []=some (.tup [.t (iD m p t).1.e,I (iD m p t).2],[]):=by
 refine av K.rJ rfl ?_
 have c:=pO h
 have np:=h.np
 have it:=yj t
 have nl:=oH m.aa.length
 have nv:=GJ m.aa.length (by omega)
 unfold iD
 by_cases h1:p<0
 · simp(disch:=omega)only[go_sem,K.fD,↓reduceIte,c,h1,true_or]
   rfl
 · by_cases h2:(m.aa.length:Int)≤p
   · simp(disch:=omega)only[go_sem,K.fD,↓reduceIte,c,h1,h2,or_true]
     rfl
   · by_cases h3:inT t
     · have b:bnd ((nq m.aa.length).set p.toNat t):=zq (zr _) h3.1 (by have:=h3.2;omega)
       have cl:=yk h t h3 ((nq m.aa.length).set p.toNat t) (by simp) b
       simp only[h3,decide_true]at it
       simp(disch:=omega)only[go_sem,K.fD,↓reduceIte,c,h1,h2,or_self,h3,it,nv,oH,cl]
     · simp only[h3,decide_false]at it
       simp(disch:=omega)only[go_sem,K.fD,↓reduceIte,c,h1,h2,or_self,h3,it]
       rfl
def yl(w:Wh)(t:Int):List Int:=fL w.frm.length fun j=>decide (nth w.frm j≤t)
theorem ym(w:Wh)(t:Int)(hl:w.frm.length≤1000000):aH 0 N.eB [.t w.e,I t] []=some (.t (tL (yl w t)),[]):=by
 refine av K.nL rfl ?_
 obtain⟨time,frm⟩:=w
 simp only[yl]at*
 have hlen:=fun k=>oF k (fun j=>decide (nth frm j≤t))
 have loop:∀a b:D,exS aH K.qQ ⟨[a,I t,.bp 0 0,b,.ref 1 0 0,I 0],[.box [I time,.t (tL frm)],.arr 1 false 0 []]⟩=
  some (.exit 0,⟨[.und,I t,.bp 0 0,.und,.ref 1 0 (fL frm.length (fun j=>decide (nth frm j≤t))).length,I frm.length],[.box [I time,.t (tL frm)],.arr 1 false 0 (((fL frm.length (fun j=>decide (nth frm j≤t))).map (T.int .i64)).map .t)]⟩):=by
  intro a b
  refine bz (fun j=>⟨[.und,I t,.bp 0 0,.und,.ref 1 0 (fL j (fun j=>decide (nth frm j≤t))).length,I j],[.box [I time,.t (tL frm)],.arr 1 false 0 (((fL j (fun j=>decide (nth frm j≤t))).map (T.int .i64)).map .t)]⟩) frm.length rfl ?_ ?_ (by simp)
  · intro j hj
    have:=hlen j
    by_cases hp:nth frm j≤t
    · simp(disch:=omega)only[go_sem,K.jY,oW,hp,decide_true,↓reduceIte]
    · simp(disch:=omega)only[go_sem,K.jY,oW,hp,decide_false,↓reduceIte]
  · simp(disch:=omega)only[go_sem,K.jY,↓reduceIte]
 have:=hlen frm.length
 simp(disch:=omega)only[go_sem,K.eB,↓reduceIte,loop]
def n9(w:Wh)(t:Int):Wh×Int:=if t<w.time∨2147483648<t then(w,8)else(⟨t,w.frm⟩,0)
theorem KG(w:Wh)(t:Int)(hl:w.frm.length≤1000000):aH 0 N.fE [.t w.e,I t] []=some (.tup [.t (n9 w t).1.e,I (n9 w t).2],[]):=by
 refine av K.rM rfl ?_
 have c:=Cb w (by omega)
 obtain⟨time,frm⟩:=w
 simp only[n9]at*
 by_cases h1:t<time
 · simp(disch:=omega)only[go_sem,K.fE,↓reduceIte,c,h1,true_or]
 · by_cases h2:2147483648<t
   · simp(disch:=omega)only[go_sem,K.fE,↓reduceIte,c,h1,h2,or_true]
   · simp(disch:=omega)only[go_sem,K.fE,↓reduceIte,c,h1,h2,or_self]
def mr(m:aC)(w:Wh)(aa:List Int)(a b:Int):Int:=
 if dF m w=true∧aa≠[]∧rq aa m.aa.length=true then(if inT a∧inT b∧a≤b then 0 else 8)else 6
theorem KH{m:aC}(h:m.ok)(w:Wh)(hl:w.frm.length≤1000000)(aa:List Int)(hp:aa.length≤1000000)(a b:Int):
 aH 0 N.dj [.t m.e,.t w.e,.t (tL aa),I a,I b] []=some (I (mr m w aa a b),[]):=by
 refine av K.rS rfl ?_
 have v:=EF h w (by omega)
 have s:=KD aa m.aa.length (by omega)
 have np:=h.np
 have ia:=yj a
 have ib:=yj b
 obtain⟨time,frm⟩:=w
 simp only at*
 unfold mr
 cases hv:dF m ⟨time,frm⟩with
 | false=>
   rw[hv]at v
   simp(disch:=omega)only[go_sem,K.dj,↓reduceIte,v,aLt,false_and]
 | true=>
   rw[hv]at v
   cases aa with
   | nil=>simp(disch:=omega)only[go_sem,K.dj,↓reduceIte,v,ne_eq,not_true_eq_false,false_and,and_false,List.length_nil]
   | cons x xs=>
     have hne:0<(x::xs).length:=by simp
     generalize hx:x::xs=l at*
     have hne2:l≠[]:=by intro e;rw[e]at hne;simp at hne
     cases hs:rq l m.aa.length with
     | false=>
       rw[hs]at s
       simp(disch:=omega)only[go_sem,K.dj,↓reduceIte,v,s,hne2,ne_eq,not_false_eq_true,true_and,aLt,and_false]
     | true=>
       rw[hs]at s
       by_cases h1:inT a
       · by_cases h2:inT b
         · simp only[h1,h2,decide_true]at ia ib
           by_cases h3:a≤b
           · simp(disch:=omega)only[go_sem,K.dj,↓reduceIte,v,s,hne2,ia,ib,h1,h2,h3,ne_eq,not_false_eq_true,and_self]
           · simp(disch:=omega)only[go_sem,K.dj,↓reduceIte,v,s,hne2,ia,ib,h1,h2,h3,ne_eq,not_false_eq_true,and_self,and_false]
         · simp only[h1,h2,decide_true,decide_false]at ia ib
           simp(disch:=omega)only[go_sem,K.dj,↓reduceIte,v,s,hne2,ia,ib,h1,h2,ne_eq,not_false_eq_true,and_self,and_false,false_and]
       · simp only[h1,decide_false]at ia
         simp(disch:=omega)only[go_sem,K.dj,↓reduceIte,v,s,hne2,ia,h1,ne_eq,not_false_eq_true,and_self,and_false,false_and]
theorem rX{l:List Int}{n:Int}(h:rq l n=true){j:Nat}(hj:j<l.length):0≤nth l j∧nth l j<n∧(0<j→nth l (j-1)<nth l j):=by
 simp only[rq,aLx,aLu,decide_eq_true_eq]at h
 exact h j hj
theorem O2{l:List Int}{n:Int}(h:rq l n=true):∀ {j:Nat},j<l.length→(j:Int)≤nth l j
 | 0,hj=>by have:=rX h hj;omega
 | j+1,hj=>by
   have h1:=O2 h (j:=j) (by omega)
   have:=(rX h hj).2.2 (by omega)
   simp only[Nat.add_sub_cancel]at this
   omega
theorem pP{l:List Int}{n:Nat}(h:rq l n=true):l.length≤n:=by
 cases hl:l.length with
 | zero=>omega
 | succ k=>
   have h1:=O2 h (j:=k) (by omega)
   have h2:=(rX h (j:=k) (by omega)).2.1
   omega
def zt(w:Wh)(t p:Int)(s:List Int×Bool):List Int×Bool:=if nth w.frm p.toNat≤t then(s.1.set p.toNat (nth w.frm p.toNat),true)else s
def CV(w:Wh)(l:List Int)(t:Int)(n:Nat):Nat→List Int×Bool
 | 0=>(nq n,false)
 | j+1=>zt w t (nth l j) (CV w l t n j)
theorem rY(w:Wh)(l:List Int)(t:Int)(n:Nat):∀j,(CV w l t n j).1.length=n
 | 0=>oH n
 | j+1=>by
   have:=rY w l t n j
   simp only[CV,zt]
   split<;>simp[this]
theorem EG{w:Wh}(hw:bnd w.frm)(l:List Int)(t:Int){n:Nat}(hl:∀p∈l,0≤p∧p<w.frm.length):∀j,j≤l.length→bnd (CV w l t n j).1
 | 0,_=>zr n
 | j+1,hj=>by
   have:=EG hw l t hl (n:=n) j (by omega)
   simp only[CV,zt]
   split
   · have hp:=hl _ (ai (l:=l) (j:=j) (by omega))
     have:=hw _ (ai (l:=w.frm) (j:=(nth l j).toNat) (by omega))
     exact zq (by assumption) this.1 this.2
   · exact this
def C4(m:aC)(w:Wh)(l:List Int)(a b:Int):Wh×Int:=
 if mr m w l a b≠0 then(w,mr m w l a b)else if a<w.time then(w,42)else
 if(CV w l b m.aa.length l.length).2=true then(⟨b,dE m a none (CV w l b m.aa.length l.length).1⟩,0)else(w,43)
theorem oz{m:aC}{w:Wh}{l:List Int}{a b:Int}(h:mr m w l a b=0):dF m w=true∧l≠[]∧rq l m.aa.length=true∧inT a∧inT b∧a≤b:=by
 unfold mr at h
 split at h
 · rename_i h1
   split at h
   · rename_i h2;exact⟨h1.1,h1.2.1,h1.2.2,h2⟩
   · omega
 · omega
theorem eM{m:aC}{w:Wh}(h:dF m w=true):w.frm.length=m.aa.length∧inT w.time∧(∀x∈w.frm,plT x)∧dE m w.time none w.frm=w.frm:=by
 simp only[dF,aLr,decide_eq_true_eq]at h
 obtain⟨h1,h2,h3⟩:=lB h.1
 exact⟨by omega,h2,h3,h.2⟩
theorem adZ{m:aC}(h:m.ok)(w:Wh)(hl:w.frm.length≤1000000)(l:List Int)(hp:l.length≤1000000)(a b:Int):
 aH 0 N.jB [.t m.e,.t w.e,.t (tL l),I a,I b] []=some (.tup [.t (C4 m w l a b).1.e,I (C4 m w l a b).2],[]):=by
 refine av K.w7 rfl ?_
 have as:=KH h w hl l hp a b
 have cp:=Cb w (by omega)
 have np:=h.np
 have nv:=GJ m.aa.length (by omega)
 have nl:=oH m.aa.length
 unfold C4
 by_cases h0:mr m w l a b=0
 · obtain⟨v1,v2,v3,v4,v5,v6⟩:=oz h0
   obtain⟨w1,w2,w3,w4⟩:=eM v1
   have hlen:=pP v3
   rw[h0]at as ⊢
   obtain⟨time,frm⟩:=w
   simp only at*
   by_cases h1:a<time
   · simp(disch:=omega)only[go_sem,K.jB,↓reduceIte,as,cp,h1,ne_eq,not_true_eq_false]
   · have hbw:bnd (Wh.frm ⟨time,frm⟩):=fun x hx=>mW (w3 x hx)
     have hb:=EG hbw l b (n:=m.aa.length) (fun p hp=>by
      obtain⟨j,hj⟩:=aLf.1 hp
      have:=rX v3 (aLe.1 hj).1
      rw[bD hj]at this
      simp only
      omega) l.length (aLs _)
     have ln:=rY ⟨time,frm⟩ l b m.aa.length
     have loop:∀x y z u v:D,exS aH K.Ai ⟨[x,y,.t (tL l),I a,I b,.bp 0 0,.bp 1 0,.bp 2 0,z,u,.ref 3 0 m.aa.length,B false,I 0,v],[.box (ae m),.box [I time,.t (tL frm)],.box [I 0,.nil],.arr 1 false 0 (((nq m.aa.length).map (T.int .i64)).map .t)]⟩=
      some (.exit 0,⟨[.und,.und,.t (tL l),I a,I b,.bp 0 0,.bp 1 0,.bp 2 0,.und,.und,.ref 3 0 m.aa.length,B (CV ⟨time,frm⟩ l b m.aa.length l.length).2,I l.length,.und],[.box (ae m),.box [I time,.t (tL frm)],.box [I 0,.nil],.arr 1 false 0 ((((CV ⟨time,frm⟩ l b m.aa.length l.length).1).map (T.int .i64)).map .t)]⟩):=by
      intro x y z u v
      refine bz (fun j=>⟨[.und,.und,.t (tL l),I a,I b,.bp 0 0,.bp 1 0,.bp 2 0,.und,.und,.ref 3 0 m.aa.length,B (CV ⟨time,frm⟩ l b m.aa.length j).2,I j,.und],[.box (ae m),.box [I time,.t (tL frm)],.box [I 0,.nil],.arr 1 false 0 ((((CV ⟨time,frm⟩ l b m.aa.length j).1).map (T.int .i64)).map .t)]⟩) l.length rfl ?_ ?_ (by simp)
      · intro j hj
        obtain⟨p1,p2, -⟩:=rX v3 hj
        have lj:=ln j
        by_cases hc:nth frm (nth l j).toNat≤b
        · simp(disch:=omega)only[go_sem,K.ow,↓reduceIte,CV,zt,hc]
        · simp(disch:=omega)only[go_sem,K.ow,↓reduceIte,CV,zt,hc]
      · simp(disch:=omega)only[go_sem,K.ow,↓reduceIte]
     have cl:=yk h a v4 _ (ln l.length) hb
     have ln:=ln l.length
     simp(disch:=omega)only[go_sem,K.jB,↓reduceIte,as,h1,nv,loop,ne_eq,not_true_eq_false]
     cases hs:(CV ⟨time,frm⟩ l b m.aa.length l.length).2 with
     | true=>simp(disch:=omega)only[go_sem,↓reduceIte,ln,cl]
     | false=>simp(disch:=omega)only[go_sem,↓reduceIte,cp,aLt]
 · obtain⟨time,frm⟩:=w
   simp only at*
   simp(disch:=omega)only[go_sem,K.jB,↓reduceIte,as,cp,h0,ne_eq,not_false_eq_true]
def I4(l0 l:List Int):Nat→List Int
 | 0=>l0
 | j+1=>(I4 l0 l j).set (nth l j).toNat 1099511627776
theorem yn(l0 l:List Int):∀j,(I4 l0 l j).length=l0.length
 | 0=>rfl
 | j+1=>by simp only[I4,List.length_set,yn l0 l j]
theorem EH{l0:List Int}(h:bnd l0)(l:List Int):∀j,bnd (I4 l0 l j)
 | 0=>h
 | j+1=>zq (EH h l j) (by omega) (by omega)
def DO(m:aC)(w:Wh)(l:List Int)(a b bl:Int):Wh×Int:=
 if mr m w l a b≠0 then(w,mr m w l a b)else if ¬inT bl then(w,8)else if b<w.time then(w,42)else if b-max a w.time≤bl then(w,0)else
 (⟨b,dE m b none (dE m (b-bl) (some l) (I4 w.frm l l.length))⟩,0)
theorem ad0{m:aC}(h:m.ok)(w:Wh)(hl:w.frm.length≤1000000)(l:List Int)(hp:l.length≤1000000)(a b bl:Int):
 aH 0 N.dK [.t m.e,.t w.e,.t (tL l),I a,I b,I bl] []=some (.tup [.t (DO m w l a b bl).1.e,I (DO m w l a b bl).2],[]):=by
 refine av K.qc rfl ?_
 have as:=KH h w hl l hp a b
 have cp:=Cb w (by omega)
 have ib:=yj bl
 have np:=h.np
 unfold DO
 by_cases h0:mr m w l a b=0
 · obtain⟨v1,v2,v3,v4,v5,v6⟩:=oz h0
   obtain⟨w1,w2,w3,w4⟩:=eM v1
   have hlen:=pP v3
   rw[h0]at as ⊢
   obtain⟨time,frm⟩:=w
   simp only at*
   by_cases h1:inT bl
   · by_cases h2:b<time
     · simp only[h1,decide_true]at ib
       simp(disch:=omega)only[go_sem,K.dK,↓reduceIte,as,ib,cp,h1,h2,ne_eq,not_true_eq_false,not_false_eq_true]
     · simp only[h1,decide_true]at ib
       unfold inT at v4 v5 w2 h1
       by_cases h3:b-max a time≤bl
       · simp(disch:=omega)only[go_sem,K.dK,↓reduceIte,as,ib,cp,h1,h2,h3,ne_eq,not_true_eq_false,not_false_eq_true,inT,and_self]
       · have hb:bnd frm:=fun x hx=>mW (w3 x hx)
         have ln:=yn frm l
         have lb:=EH hb l
         have loop:∀x y z u v w:D,exS aH K.tT ⟨[x,y,.t (tL l),z,I b,I bl,.bp 0 0,u,.bp 2 0,v,w,.ref 3 0 frm.length,I 0],[.box (ae m),.box [I time,.t (tL frm)],.box [I 0,.nil],.arr 1 false 0 ((frm.map (T.int .i64)).map .t)]⟩=
          some (.exit 0,⟨[.und,.und,.t (tL l),.und,I b,I bl,.bp 0 0,.und,.bp 2 0,.und,.und,.ref 3 0 frm.length,I l.length],[.box (ae m),.box [I time,.t (tL frm)],.box [I 0,.nil],.arr 1 false 0 (((I4 frm l l.length).map (T.int .i64)).map .t)]⟩):=by
          intro x y z u v w
          refine bz (fun j=>⟨[.und,.und,.t (tL l),.und,I b,I bl,.bp 0 0,.und,.bp 2 0,.und,.und,.ref 3 0 frm.length,I j],[.box (ae m),.box [I time,.t (tL frm)],.box [I 0,.nil],.arr 1 false 0 (((I4 frm l j).map (T.int .i64)).map .t)]⟩) l.length rfl ?_ ?_ (by simp)
          · intro j hj
            obtain⟨p1,p2, -⟩:=rX v3 hj
            have lj:=ln j
            simp(disch:=omega)only[go_sem,K.nM,↓reduceIte,I4]
          · simp(disch:=omega)only[go_sem,K.nM,↓reduceIte]
         have hi:∀s,some l=some s→s≠[]∧s.length≤64:=by
          intro s hs;cases hs;exact⟨v2,by omega⟩
         have ln:=ln l.length
         have lb:=lb l.length
         have t1:inT (b-bl):=by unfold inT;omega
         have c1:=Bb h (b-bl) (by omega) (by omega) (some l) hi _ (by omega) lb
         simp only[qf]at c1
         have c2:=yk h b v5 (dE m (b-bl) (some l) (I4 frm l l.length)) (lI h _ t1 _ hi (by omega) lb) (DN h _ t1 _ hi (by omega) lb)
         have c3:=c1.1
         unfold dE at c2 ⊢
         clear c1
         simp(disch:=omega)only[go_sem,K.dK,↓reduceIte,as,ib,loop,c2,c3,ln,h1,h2,h3,ne_eq,not_true_eq_false,not_false_eq_true,inT,and_self,reduceAdd,reduceSub]
   · simp only[h1,decide_false]at ib
     simp(disch:=omega)only[go_sem,K.dK,↓reduceIte,as,ib,cp,h1,ne_eq,not_true_eq_false,not_false_eq_true]
 · obtain⟨time,frm⟩:=w
   simp only at*
   simp(disch:=omega)only[go_sem,K.dK,↓reduceIte,as,cp,h0,ne_eq,not_false_eq_true]
def Me(a b:List Int):Nat→List Int
 | 0=>[]
 | j+1=>Me a b j++[min (nth a j) (nth b j)]
theorem pQ(a b:List Int):∀j,(Me a b j).length=j
 | 0=>rfl
 | j+1=>by simp[Me,pQ a b j]
def qg(a b:Wh):Wh×Int:=if a.frm.length=b.frm.length then(⟨max a.time b.time,Me a.frm b.frm a.frm.length⟩,0)else(⟨0,[]⟩,6)
theorem XM(a b:Wh)(ha:a.frm.length≤1000000):aH 0 N.i4 [.t a.e,.t b.e] []=some (.tup [.t (qg a b).1.e,I (qg a b).2],[]):=by
 refine av K.ua rfl ?_
 obtain⟨t1,l1⟩:=a
 obtain⟨t2,l2⟩:=b
 simp only[qg]at*
 by_cases hl:l1.length=l2.length
 · have ln:=pQ l1 l2
   have loop:∀x y z:D,exS aH K.yg ⟨[x,y,.bp 0 0,.bp 1 0,.bp 2 0,z,.bp 3 0,I 0],[.box [I t1,.t (tL l1)],.box [I t2,.t (tL l2)],.box [I 0,.nil],.box [I (max t1 t2),.ref 5 0 0],.arr 1 false 0 [],.arr 1 false 0 []]⟩=
    some (.exit 0,⟨[.und,.und,.bp 0 0,.bp 1 0,.bp 2 0,.und,.bp 3 0,I l1.length],[.box [I t1,.t (tL l1)],.box [I t2,.t (tL l2)],.box [I 0,.nil],.box [I (max t1 t2),.ref 5 0 l1.length],.arr 1 false 0 [],.arr 1 false 0 (((Me l1 l2 l1.length).map (T.int .i64)).map .t)]⟩):=by
    intro x y z
    refine bz (fun j=>⟨[.und,.und,.bp 0 0,.bp 1 0,.bp 2 0,.und,.bp 3 0,I j],[.box [I t1,.t (tL l1)],.box [I t2,.t (tL l2)],.box [I 0,.nil],.box [I (max t1 t2),.ref 5 0 j],.arr 1 false 0 [],.arr 1 false 0 (((Me l1 l2 j).map (T.int .i64)).map .t)]⟩) l1.length rfl ?_ ?_ (by simp)
    · intro j hj
      have lj:=ln j
      simp(disch:=omega)only[go_sem,K.qa,↓reduceIte,Me,reduceAdd,reduceSub]
      done
    · simp(disch:=omega)only[go_sem,K.qa,↓reduceIte]
   have ln:=ln l1.length
   simp(disch:=omega)only[go_sem,K.i4,↓reduceIte,loop]
 · simp(disch:=omega)only[go_sem,K.i4,↓reduceIte,hl]
   rfl
theorem yo{α:Type} [Dat α](l:List α)(k:Nat)(hk:k<l.length)(x:α)(j:Nat):nth (l.set k x) j=if j=k then x else nth l j:=by
 unfold nth
 by_cases h:j=k
 · subst h;rw[if_pos rfl];simp[hk]
 · rw[if_neg h]
   have:¬k=j:=fun e=>h e.symm
   simp[List.getElem?_set,this]
theorem SN{α:Type} [Dat α]{a b:List α}(h:a.length=b.length)(e:∀j,j<a.length→nth a j=nth b j):a=b:=by
 apply List.ext_getElem h
 intro j h1 h2
 have:=e j h1
 rwa [bD (aLc h1),bD (aLc h2)]at this
def clW(m:aC)(t:Int)(into:Option (List Int))(y:List Int):Prop:=∀k,k<m.roads.length→∀back,O1 into ((nth m.roads k).dst back)=true→0≤iC m k back 6 9 12→
 nth y ((nth m.roads k).src back).toNat<1099511627776→max t (nth y ((nth m.roads k).src back).toNat+iC m k back 6 9 12)≤2147483648→
 nth y ((nth m.roads k).dst back).toNat≤max t (nth y ((nth m.roads k).src back).toNat+iC m k back 6 9 12)
theorem KI{m:aC}{t t':Int}(ht:t≤t'){into:Option (List Int)}{y:List Int}(h:clW m t none y):clW m t' into y:=by
 intro k hk back _ h1 h2 h3
 have:=h k hk back rfl h1 h2 (by omega)
 omega
theorem xc{α:Type}{f:α→α×Bool}(P:α→Prop)(hP:∀l,P l→P (f l).1):∀n l,P l→P (ja f n l)
 | 0,l,h=>h
 | n+1,l,h=>by
   unfold ja
   split
   · exact xc P hP n _ (hP l h)
   · exact hP l h
theorem Cc{α:Type}{f:α→α×Bool}(P:α→Prop)(mes:α→Nat)(hP:∀l,P l→P (f l).1∧((f l).2=true→mes (f l).1<mes l)∧((f l).2=false→(f l).1=l)):∀n l,P l→mes l<n→(f (ja f n l)).2=false∧P (ja f n l)
 | 0,l,_,h=>by omega
 | n+1,l,hp,h=>by
   obtain⟨h1,h2,h3⟩:=hP l hp
   unfold ja
   cases hf:(f l).2 with
   | true=>
     rw[if_pos rfl]
     have:=h2 hf
     exact Cc P mes hP n _ h1 (by omega)
   | false=>
     rw[if_neg (by simp),h3 hf]
     exact⟨hf,hp⟩
theorem Bd{m:aC}(t:Int)(into:Option (List Int))(k:Nat)(back:Bool)(l:List Int):
 (O1 into ((nth m.roads k).dst back)=true∧0≤iC m k back 6 9 12∧nth l ((nth m.roads k).src back).toNat<1099511627776∧max t (nth l ((nth m.roads k).src back).toNat+iC m k back 6 9 12)≤2147483648∧
  max t (nth l ((nth m.roads k).src back).toNat+iC m k back 6 9 12)<nth l ((nth m.roads k).dst back).toNat∧
  gG m t into k back l=(l.set ((nth m.roads k).dst back).toNat (max t (nth l ((nth m.roads k).src back).toNat+iC m k back 6 9 12)),true))∨
 (gG m t into k back l=(l,false)∧¬(O1 into ((nth m.roads k).dst back)=true∧0≤iC m k back 6 9 12∧nth l ((nth m.roads k).src back).toNat<1099511627776∧max t (nth l ((nth m.roads k).src back).toNat+iC m k back 6 9 12)≤2147483648∧
  max t (nth l ((nth m.roads k).src back).toNat+iC m k back 6 9 12)<nth l ((nth m.roads k).dst back).toNat)):=by
 unfold gG oY n5
 cases O1 into ((nth m.roads k).dst back)with
 | false=>right;simp
 | true=>
   simp only[↓reduceIte,true_and,aLr,decide_eq_true_eq]
   by_cases c:((0≤iC m k back 6 9 12∧nth l ((nth m.roads k).src back).toNat<1099511627776)∧max t (nth l ((nth m.roads k).src back).toNat+iC m k back 6 9 12)≤2147483648)∧max t (nth l ((nth m.roads k).src back).toNat+iC m k back 6 9 12)<nth l ((nth m.roads k).dst back).toNat
   · left
     refine⟨c.1.1.1,c.1.1.2,c.1.2,c.2,?_⟩
     rw[if_pos c]
     simp[c.1.1.1,c.1.1.2,c.1.2,c.2]
   · right
     refine⟨?_,fun h=>c ⟨⟨⟨h.1,h.2.1⟩,h.2.2.1⟩,h.2.2.2⟩⟩
     rw[if_neg c]
     simp only[Prod.mk.injEq,true_and]
     rw[Bool.eq_false_iff];intro h;simp only[aLr,decide_eq_true_eq]at h;exact c h
section
variable {m : aC} (h : m.ok) {t : Int} {into : Option (List Int)}
include h
theorem DP(P:List Int→Prop)(hP:∀l,l.length=m.aa.length→bnd l→P l→∀k,k<m.roads.length→∀back,P (gG m t into k back l).1){l:List Int}(hl:l.length=m.aa.length)(hb:bnd l)(hp:P l):∀k,k≤m.roads.length→P (gv m t into l k).1
 | 0,_=>hp
 | k+1,hk=>by
   have ih:=DP P hP hl hb hp k (by omega)
   have b1:=jJ h (t:=t) (into:=into) hl hb k (by omega)
   have l1:(gv m t into l k).1.length=m.aa.length:=by rw[dZ,hl]
   simp only[gv,w9]
   exact hP _ (by rw[qS,l1]) (ug h l1 b1 (by omega) false) (hP _ l1 b1 ih k (by omega) false) k (by omega) true
theorem zu(P:List Int→Prop)(hP:∀l,l.length=m.aa.length→bnd l→P l→∀k,k<m.roads.length→∀back,P (gG m t into k back l).1){l:List Int}(hl:l.length=m.aa.length)(hb:bnd l)(hp:P l):P (dE m t into l):=
 (xc (f:=dQ m t into) (fun l=>(l.length=m.aa.length∧bnd l)∧P l) (fun l hl=>⟨⟨by unfold dQ;rw[dZ];exact hl.1.1,jJ h hl.1.1 hl.1.2 _ (aLs _)⟩,DP h P hP hl.1.1 hl.1.2 hl.2 _ (aLs _)⟩) _ l ⟨⟨hl,hb⟩,hp⟩).2
theorem Cd{l:List Int}(hl:l.length=m.aa.length)(hb:bnd l):(dE m t into l).length=m.aa.length∧bnd (dE m t into l):=
 (xc (f:=dQ m t into) (fun l=>(l.length=m.aa.length∧bnd l)) (fun l hl=>⟨by unfold dQ;rw[dZ];exact hl.1,jJ h hl.1 hl.2 _ (aLs _)⟩) _ l ⟨hl,hb⟩)
theorem O3{l:List Int}(hl:l.length=m.aa.length)(hb:bnd l)(j:Nat):nth (dE m t into l) j≤nth l j:=
 zu h (fun l'=>nth l' j≤nth l j) (fun l' hl' hb' hp k hk back=>by
  have r2:=Road.DL (h.rs _ (ai hk)) back
  rcases Bd (m:=m) t into k back l' with⟨_,_,_,_,c,e⟩ | ⟨e,_⟩
  · rw[e];simp only
    rw[yo _ _ (by omega)]
    split
    · rename_i hj;rw[hj]at hp;rw[hj];omega
    · exact hp
  · rw[e];exact hp) hl hb (Int.le_refl _)
theorem O4{y l:List Int}(hy:clW m t into y)(hl:l.length=m.aa.length)(hb:bnd l)(hle:∀j,nth y j≤nth l j):∀j,nth y j≤nth (dE m t into l) j:=
 zu h (fun l'=>∀j,nth y j≤nth l' j) (fun l' hl' hb' hp k hk back=>by
  have r2:=Road.DL (h.rs _ (ai hk)) back
  rcases Bd (m:=m) t into k back l' with⟨c1,c2,c3,c4,c5,e⟩ | ⟨e,_⟩
  · rw[e];simp only
    intro j
    rw[yo _ _ (by omega)]
    split
    · rename_i hj
      have:=hp ((nth m.roads k).src back).toNat
      have:=hy k hk back c1 c2 (by omega) (by omega)
      rw[hj];omega
    · exact hp j
  · rw[e];exact hp) hl hb hle
theorem GK{l:List Int}(hl:l.length=m.aa.length)(hb:bnd l):∀k,k≤m.roads.length→(gv m t into l k).2=false→∀i,i<k→∀back,(gG m t into i back l).2=false
 | 0,_,_,i,hi,_=>by omega
 | k+1,hk,hf,i,hi,back=>by
   have e:=(qT h (t:=t) (into:=into) hl hb k (by omega)).2
   have ih:=GK hl hb k (by omega)
   simp only[gv,w9,Bool.or_eq_false_iff]at hf
   obtain⟨⟨f1,f2⟩,f3⟩:=hf
   have e:=e f1
   rw[e]at f2 f3
   have e2:=(Ca h (t:=t) (into:=into) hl hb (k:=k) (by omega) false).2 f2
   rw[e2]at f3
   by_cases c:i<k
   · exact ih f1 i c back
   · have:i=k:=by omega
     subst this
     cases back
     · exact f2
     · exact f3
theorem GL{l:List Int}(hl:l.length=m.aa.length)(hb:bnd l):clW m t into (dE m t into l):=by
 obtain⟨h1,h2,h3⟩:=Cc (f:=dQ m t into) (fun l=>l.length=m.aa.length∧bnd l) Ba (fun l ⟨hl,hb⟩=>⟨⟨by unfold dQ;rw[dZ];exact hl,jJ h hl hb _ (aLs _)⟩,qT h hl hb _ (aLs _)⟩) (Ba l+1) l ⟨hl,hb⟩ (Nat.lt_succ_self _)
 intro k hk back c1 c2 c3 c4
 have no:=GK h (t:=t) (into:=into) h2 h3 m.roads.length (aLs _) h1 k hk back
 change (gG m t into k back (dE m t into l)).2=false at no
 rcases Bd (m:=m) t into k back (dE m t into l)with⟨_,_,_,_,_,e⟩ | ⟨_,e⟩
 · rw[e]at no;cases no
 · exact Classical.byContradiction fun hc=>e ⟨c1,c2,c3,c4,by omega⟩
theorem O5{l:List Int}(hl:l.length=m.aa.length)(hb:bnd l)(hc:clW m t into l):dE m t into l=l:=by
 apply SN (by rw[(Cd h hl hb).1,hl])
 intro j hj
 exact Int.le_antisymm (O3 h hl hb j) (O4 h hc hl hb (fun _=>Int.le_refl _) j)
theorem DQ(P:Int→Prop){l:List Int}(hl:l.length=m.aa.length)(hb:bnd l)(hp:∀x∈l,P x)(ht:∀x,t≤x→x≤2147483648→P x):∀x∈dE m t into l,P x:=
 zu h (fun l'=>∀x∈l',P x) (fun l' hl' hb' hp k hk back=>by
  rcases Bd (m:=m) t into k back l' with⟨c1,c2,c3,c4,c5,e⟩ | ⟨e,_⟩
  · rw[e]
    intro x hx
    rcases aLk hx with hx | hx
    · exact hp x hx
    · subst hx;exact ht _ (by omega) c4
  · rw[e];exact hp) hl hb hp
end
theorem Ce{m:aC}(h:m.ok){w:Wh}(hl:w.frm.length=m.aa.length)(ht:inT w.time)(hp:∀x∈w.frm,plT x)(hc:clW m w.time none w.frm):dF m w=true:=by
 have hb:bnd w.frm:=fun x hx=>mW (hp x hx)
 simp only[dF,ky,aLr,decide_eq_true_eq,aLx,aLu]
 exact⟨⟨⟨by omega,ht⟩,fun j hj=>hp _ (ai hj)⟩,O5 h hl hb hc⟩
theorem Cf{m:aC}(h:m.ok){w:Wh}(hv:dF m w=true):clW m w.time none w.frm:=by
 obtain⟨v1,v2,v3,v4⟩:=eM hv
 have:=GL h (t:=w.time) (into:=none) v1 (fun x hx=>mW (v3 x hx))
 rwa [v4]at this
theorem rZ{m:aC}(h:m.ok){l:List Int}(hl:l.length=m.aa.length)(hp:∀x∈l,plT x){a b:Int}(ha:0≤a)(hab:a≤b)(hb:inT b):dF m ⟨b,dE m a none l⟩=true:=by
 have bn:bnd l:=fun x hx=>mW (hp x hx)
 exact Ce h (Cd h hl bn).1 hb (DQ h plT hl bn hp (fun x h1 h2=> .inr ⟨by omega,h2⟩)) (KI hab (GL h hl bn))
theorem O6(n:Nat):∀x∈nq n,plT x:=fun x hx=>by rw[List.eq_of_mem_replicate hx];exact .inl rfl
theorem Cg{m:aC}(h:m.ok){p t:Int}(h0:0≤p)(h1:p<m.aa.length)(ht:inT t):iD m p t=(⟨t,dE m t none ((nq m.aa.length).set p.toNat t)⟩,0)∧dF m (iD m p t).1=true:=by
 have e:iD m p t=(⟨t,dE m t none ((nq m.aa.length).set p.toNat t)⟩,0):=by
  unfold iD;rw[if_neg (by omega),if_pos ht]
 refine⟨e,?_⟩
 rw[e]
 refine rZ h (by simp) (fun x hx=>?_) ht.1 (Int.le_refl _) ht
 rcases aLk hx with hx | hx
 · exact O6 _ x hx
 · subst hx;exact .inr ht
theorem KJ{w:Wh}{l:List Int}{b:Int}{n:Nat}(hl:∀p∈l,0≤p∧p<n):∀k,k≤l.length→∀j,j<n→nth (CV w l b n k).1 j=if(j:Int)∈l.take k∧nth w.frm j≤b then nth w.frm j else 1099511627776
 | 0,_,j,hj=>by
   rw[if_neg (by simp)]
   exact bD (by simp[CV,nq,hj])
 | k+1,hk,j,hj=>by
   have ih:=KJ (w:=w) (b:=b) hl k (by omega) j hj
   have p:=hl _ (ai (l:=l) (j:=k) (by omega))
   rw[ox (by omega)]
   simp only[CV,zt]
   by_cases e:(j:Int)=nth l k
   · have e2:j=(nth l k).toNat:=by omega
     by_cases c:nth w.frm (nth l k).toNat≤b
     · rw[if_pos c,yo _ _ (by rw[rY];omega),if_pos e2,if_pos ⟨by simp[e],by rw[e2];exact c⟩,e2]
     · rw[if_neg c,ih,if_neg (fun x=>c (by rw[← e2];exact x.2)),if_neg (fun x=>c (by rw[← e2];exact x.2))]
   · have e2:¬j=(nth l k).toNat:=by omega
     have mm:((j:Int)∈l.take k++[nth l k])↔(j:Int)∈l.take k:=by simp[e]
     simp only[mm]
     rw[← ih]
     split
     · rw[yo _ _ (by rw[rY];omega),if_neg e2]
     · rfl
end Go.Ev
namespace Go.Ev
open Go
variable [Lib] [bX] [bJ]
structure OfI(m:aC)(p:Nat)(l:List Int):Prop where
 ln:l.length=m.aa.length
 bd:bnd l
 z:nth l p=0
theorem OfI.set{m:aC}{p:Nat}{l:List Int}(h:OfI m p l){q:Nat}{x:Int}(hq:q<l.length)(h0:0<x)(hx:x<nth l q):OfI m p (l.set q x):=by
 have b1:=h.bd _ (ai hq)
 refine⟨by rw[List.length_set];exact h.ln,zq h.bd (by omega) (by omega),?_⟩
 rw[yo _ _ hq]
 split
 · rename_i e;subst e;have:=h.z;omega
 · exact h.z
def SO(c:Bool):Option Bool→Option Bool
 | some d=>some (c&&d)
 | none=>none
@[go_sem] theorem aa6 (c d : Bool) : SO c (some d) = some (c && d) := (rfl)
@[go_sem] theorem aa7 : pH [] [] = some true := (rfl)
@[go_sem] theorem XN (k : IntKind) (a b : Int) (xs ys : List T) : pH (.int k a :: xs) (.int k b :: ys) = SO (decide (a = b)) (pH xs ys) := by
 simp only[pH,if_true,afs]
 cases pH xs ys<;>rfl
def SP(H:aq)(neg:Bool):Option Bool→Option (D×aq)
 | some r=>some (.t (.bool (bif neg then !r else r)),H)
 | none=>none
@[go_sem] theorem aa8 (H : aq) (r : Bool) : SP H true (some r) = some (.t (.bool (!r)), H) := (rfl)
@[go_sem] theorem XO (H : aq) (r : Bool) : SP H false (some r) = some (.t (.bool r), H) := (rfl)
@[go_sem] theorem XP (H : aq) (n : Nat) (neg : Bool) (xs ys : List T) : Gw H (.ints n) neg (some (.t (.agg xs))) (some (.t (.agg ys))) = if xs.length = n then SP H neg (pH xs ys) else none := by
 simp only[Gw,aLq,ZU,eqD]
 by_cases h:xs.length=n
 · simp only[if_pos h]
   cases pH xs ys with
   | none=>rfl
   | some r=>cases neg<;>rfl
 · simp only[if_neg h];rfl
@[go_sem] theorem aa9 : ((2 : Nat) : Int) = 2 := (rfl)
@[go_sem] theorem UW : ((3 : Nat) : Int) = 3 := (rfl)
def GM(n:Nat)(p:Nat→Bool):Nat:=((List.range n).find? p).getD 0
theorem O7{gc:Bool}{dead:List Nat}{c:C}{vs:List D}{H:aq}(s:Nat→St)(n:Nat)(p:Nat→Bool)(e:Nat→Ex×St)(eN:Ex×St)
 (h0:(⟨lV dead vs,H⟩:St)=s 0)
 (hs:∀j,j<n→p j=false→gp gc dead (s j).H.length (exS aH c (s j))=some (s (j+1)))
 (he:∀j,j<n→p j=true→exS aH c (s j)=some (e j)∧(e j).1≠ .normal)
 (hN:exS aH c (s n)=some eN) (hn:eN.1≠ .normal):
 exS aH (.loop gc dead c) ⟨vs,H⟩=some (if(List.range n).any p=true then e (GM n p)else eN):=by
 rw[cq s n p e eN h0 hs he hN hn,←EB]
 unfold GM
 cases hf:(List.range n).find? p with
 | none=>simp
 | some k=>simp
theorem XQ{α:Type} [Dat α](l:List α)(p:α→Bool):((List.range l.length).any fun j=>p (nth l j))=l.any p:=by
 rw[Bool.eq_iff_iff,List.any_eq_true,List.any_eq_true]
 constructor
 · rintro ⟨j,hj,hp⟩
   exact⟨_,ai (aLu.1 hj),hp⟩
 · rintro ⟨x,hx,hp⟩
   obtain⟨j,hj,rfl⟩:=List.getElem_of_mem hx
   exact⟨j,aLu.2 hj,by rw[bD (aLc hj)];exact hp⟩
theorem O8(n:Nat)(p:Nat→Bool):(List.range n).all p= !((List.range n).any fun j=> !p j):=by
 rw[List.all_eq_not_any_not]
@[go_sem] theorem ad1 : lU [] [] [] = some true := (rfl)
@[go_sem] theorem ad2 (ks : List Bool) (k : IntKind) (a b : Int) (xs ys : List T) : lU (true :: ks) (.int k a :: xs) (.int k b :: ys) = SO (decide (a = b)) (lU ks xs ys) := by
 simp only[lU,if_true,afs]
 cases lU ks xs ys<;>rfl
@[go_sem] theorem aba (ks : List Bool) (a b : Bool) (xs ys : List T) : lU (false :: ks) (.bool a :: xs) (.bool b :: ys) = SO (decide (a = b)) (lU ks xs ys) := by
 simp only[lU,show(a==b)=decide (a=b)from rfl]
 cases lU ks xs ys<;>rfl
@[go_sem] theorem agF (H : aq) (ks : List Bool) (neg : Bool) (xs ys : List T) : Gw H (.sc ks) neg (some (.t (.agg xs))) (some (.t (.agg ys))) = SP H neg (lU ks xs ys) := by
 simp only[Gw,aLq,ZU,eqD]
 cases lU ks xs ys with
 | none=>rfl
 | some r=>cases neg<;>rfl
end Go.Ev
namespace Go.Ev
open Go
section
variable (H : aq) (sz id ep n lo hi : Nat) (i j : Int) (fz : Bool)
def scO(r:D):Option Obj→Option (D×aq)
 | some (.arr sz' _ ep' es)=>if ep=ep'∧n=es.length then(if sz'=sz then some (r,H)else none)else none
 | _=>none
@[go_sem] theorem ai1 (r : D) (sz' : Nat) (pin : Bool) (es : List D) : scO H sz ep n r (some (.arr sz' pin ep es)) = if n = es.length then (if sz' = sz then some (r, H) else none) else none := by simp [scO]
theorem scR{l h:Nat}:((iQ H id ep n).bind fun a=>if l≤h∧h≤n∧a.1=sz then some (D.sub id ep n l h)else none).map (fun d=>(d,H))=if l≤h then(if h≤n then scO H sz ep n (.sub id ep n l h) H[id]? else none)else none:=by
 simp only[iQ]
 generalize H[id]?=o
 by_cases h1:l≤h
 · by_cases h2:h≤n
   · rw[if_pos h1,if_pos h2]
     rcases o with _ | (_ | ⟨sz',pin,ep',es⟩)
     · rfl
     · rfl
     · simp only[scO]
       by_cases h3:ep=ep'∧n=es.length
       · rw[if_pos h3,if_pos h3,aLq]
         by_cases h4:sz'=sz
         · rw[if_pos h4,if_pos ⟨h1,h2,h4⟩];rfl
         · rw[if_neg h4,if_neg fun h=>h4 h.2.2];rfl
       · rw[if_neg h3,if_neg h3];rfl
   · rw[if_pos h1,if_neg h2]
     rcases o with _ | (_ | ⟨sz',pin,ep',es⟩)
     · rfl
     · rfl
     · by_cases h3:ep=ep'∧n=es.length
       · simp only[if_pos h3,aLq];rw[if_neg fun h=>h2 h.2.1];rfl
       · simp only[if_neg h3];rfl
 · rw[if_neg h1]
   rcases o with _ | (_ | ⟨sz',pin,ep',es⟩)
   · rfl
   · rfl
   · by_cases h3:ep=ep'∧n=es.length
     · simp only[if_pos h3,aLq];rw[if_neg fun h=>h1 h.1];rfl
     · simp only[if_neg h3];rfl
@[go_sem] theorem XR : L3 H sz (some (.ref id ep n)) (some none) (some (some i)) = if 0 ≤ i then (if i ≤ n then scO H sz ep n (.sub id ep n 0 i.toNat) H[id]? else none) else none := by
 simp only[L3,aLq,sV,bound,idx]
 by_cases h1:0≤i
 · rw[if_pos h1,if_pos h1,aLq,scR,if_pos (Nat.zero_le _)]
   by_cases h2:i≤n
   · rw[if_pos h2,if_pos (by omega)]
   · rw[if_neg h2,if_neg (by omega)]
 · rw[if_neg h1,if_neg h1];rfl
@[go_sem] theorem XT : L3 H sz (some (.ref id ep n)) (some (some i)) (some none) = if 0 ≤ i then (if i ≤ n then scO H sz ep n (.sub id ep n i.toNat n) H[id]? else none) else none := by
 simp only[L3,aLq,sV,bound,idx]
 by_cases h1:0≤i
 · rw[if_pos h1,if_pos h1,aLq,scR]
   by_cases h2:i≤n
   · rw[if_pos h2,if_pos (by omega),if_pos (by omega)]
   · rw[if_neg h2,if_neg (by omega)]
 · rw[if_neg h1,if_neg h1];rfl
@[go_sem] theorem XU : L3 H sz (some .nil) (some none) (some (some i)) = if i = 0 then some (.nil, H) else none := by
 simp only[L3,aLq,sV,bound,idx]
 by_cases h1:0≤i
 · rw[if_pos h1,aLq]
   by_cases h2:i=0
   · rw[if_pos h2,if_pos (by omega)];rfl
   · rw[if_neg h2,if_neg (by omega)];rfl
 · rw[if_neg h1,if_neg (by omega)];rfl
@[go_sem] theorem XV : L3 H sz (some .nil) (some (some i)) (some none) = if i = 0 then some (.nil, H) else none := by
 simp only[L3,aLq,sV,bound,idx]
 by_cases h1:0≤i
 · rw[if_pos h1,aLq]
   by_cases h2:i=0
   · rw[if_pos h2,if_pos (by omega)];rfl
   · rw[if_neg h2,if_neg (by omega)];rfl
 · rw[if_neg h1,if_neg (by omega)];rfl
def RA(x:D)(ys:List D):Option (D×aq):=if fk sz ys=true then(match x with
 | .nil=>if ys.length≤4294967296 then some (.ref H.length 0 ys.length,H++[.arr sz false 0 ys])else none
 | .ref id ep n=>Af H sz id ep n ys H[id]?
 | _=>none)else none
@[go_sem] theorem agG (ys : List D) : RA H sz .nil ys = if fk sz ys = true then (if ys.length ≤ 4294967296 then some (.ref H.length 0 ys.length, H ++ [.arr sz false 0 ys]) else none) else none := (rfl)
@[go_sem] theorem agH (ys : List D) : RA H sz (.ref id ep n) ys = if fk sz ys = true then Af H sz id ep n ys H[id]? else none := (rfl)
@[go_sem] theorem UX : fk sz [] = true := (rfl)
@[go_sem] theorem EI (d : D) (r : List D) : fk sz (d :: r) = pZ sz d.cells := by
 rw[Bool.eq_iff_iff,gY];simp[fk]
def ad3(x:D):Option Obj→Option (D×aq)
 | some (.arr _ _ ep' es)=>if ep=ep'∧n=es.length then RA H sz x ((es.drop lo).take (hi-lo))else none
 | _=>none
def ad4(x:D):Option Obj→Option (D×aq)
 | some (.arr _ _ ep' es)=>if ep=ep'∧n=es.length then RA H sz x es else none
 | _=>none
@[go_sem] theorem agI (x : D) (sz' : Nat) (pin : Bool) (es : List D) : ad3 H sz ep n lo hi x (some (.arr sz' pin ep es)) = if n = es.length then RA H sz x ((es.drop lo).take (hi - lo)) else none := by simp [ad3]
@[go_sem] theorem agJ (x : D) (sz' : Nat) (pin : Bool) (es : List D) : ad4 H sz ep n x (some (.arr sz' pin ep es)) = if n = es.length then RA H sz x es else none := by simp [ad4]
theorem XW(x:D)(ys:List D):(if fk sz ys=true then(match x with
 | .nil=>if ys.length≤lim then some (D.ref H.length 0 ys.length,H++[.arr sz false 0 ys])else none
 | .ref id ep n=>(iQ H id ep n).bind fun a=>if a.1=sz∧n+ys.length≤lim then some (.ref id ep (n+ys.length),H.set id (.arr sz a.2.1 ep (a.2.2++ys)))else none
 | _=>none)else none)=RA H sz x ys:=by
 unfold RA
 split
 · cases x with
   | ref id ep n=>
     simp only[iQ]
     generalize H[id]?=o
     rcases o with _ | (_ | ⟨sz',pin,ep',es⟩)
     · rfl
     · rfl
     · simp only[Af]
       by_cases h1:ep=ep'∧n=es.length
       · rw[if_pos h1,aLq]
         by_cases h2:sz'=sz∧n+ys.length≤lim
         · rw[if_pos h2,if_pos ⟨h1.1,h1.2,h2⟩]
         · rw[if_neg h2,if_neg fun h=>h2 h.2.2]
       · rw[if_neg h1,if_neg fun h=>h1 ⟨h.1,h.2.1⟩];rfl
   | _=>rfl
 · rfl
theorem zv(x y:D)(ys:List D)(h:elems H y=some ys):tM H sz false (some x) (some y)=RA H sz x ys:=by
 simp only[tM,aLq,pY,h,aLt,if_false]
 exact XW H sz x ys
@[go_sem] theorem RB (x : D) : tM H sz false (some x) (some .nil) = RA H sz x [] := zv H sz x .nil [] rfl
@[go_sem] theorem RC (x : D) : tM H sz false (some x) (some (.ref id ep n)) = ad4 H sz ep n x H[id]? := by
 cases he:elems H (.ref id ep n)with
 | some ys=>
   rw[zv H sz x _ ys he]
   simp only[elems,iQ]at he
   generalize H[id]?=o at he
   rcases o with _ | (_ | ⟨sz',pin,ep',es⟩)
   · cases he
   · cases he
   · simp only[ad4]
     by_cases h1:ep=ep'∧n=es.length
     · simp only[if_pos h1]at he ⊢;cases he;rfl
     · simp only[if_neg h1]at he;cases he
 | none=>
   have:tM H sz false (some x) (some (.ref id ep n))=none:=by simp only[tM,aLq,pY,he];rfl
   rw[this]
   simp only[elems,iQ]at he
   generalize H[id]?=o at he
   rcases o with _ | (_ | ⟨sz',pin,ep',es⟩)
   · rfl
   · rfl
   · simp only[ad4]
     by_cases h1:ep=ep'∧n=es.length
     · simp only[if_pos h1]at he;cases he
     · simp only[if_neg h1]
@[go_sem] theorem RD (x : D) : tM H sz false (some x) (some (.sub id ep n lo hi)) = ad3 H sz ep n lo hi x H[id]? := by
 cases he:elems H (.sub id ep n lo hi)with
 | some ys=>
   rw[zv H sz x _ ys he]
   simp only[elems,iQ]at he
   generalize H[id]?=o at he
   rcases o with _ | (_ | ⟨sz',pin,ep',es⟩)
   · cases he
   · cases he
   · simp only[ad3]
     by_cases h1:ep=ep'∧n=es.length
     · simp only[if_pos h1]at he ⊢;cases he;rfl
     · simp only[if_neg h1]at he;cases he
 | none=>
   have:tM H sz false (some x) (some (.sub id ep n lo hi))=none:=by simp only[tM,aLq,pY,he];rfl
   rw[this]
   simp only[elems,iQ]at he
   generalize H[id]?=o at he
   rcases o with _ | (_ | ⟨sz',pin,ep',es⟩)
   · rfl
   · rfl
   · simp only[ad3]
     by_cases h1:ep=ep'∧n=es.length
     · simp only[if_pos h1]at he;cases he
     · simp only[if_neg h1]
def O9(ds:List D):Option (D×aq):=if ds.all (fun d=>d.cells.length==sz&&d.j6)then some (.ref H.length 0 ds.length,H++[.arr sz false 0 ds])else none
@[go_sem] theorem aj7 (call : aV) (get : X → Option D) (xs : List X) : evO call get H (.bsr xs sz) = (cg get xs).bind (O9 H sz) := (rfl)
@[go_sem] theorem ad5 : O9 H sz [] = some (.ref H.length 0 0, H ++ [.arr sz false 0 []]) := (rfl)
@[go_sem] theorem ad6 (k : IntKind) (n : Int) : O9 H 1 [.t (.int k n)] = some (.ref H.length 0 1, H ++ [.arr 1 false 0 [.t (.int k n)]]) := (rfl)
@[go_sem] theorem ad7 (cs : List D) : O9 H sz [.agg cs] = if pZ sz cs = true then some (.ref H.length 0 1, H ++ [.arr sz false 0 [.agg cs]]) else none := by
 simp only[O9,List.all_cons,List.all_nil,Bool.and_true,D.cells,D.j6]
 by_cases h:pZ sz cs=true
 · rw[if_pos h,if_pos (by simpa using gY.1 h)];rfl
 · rw[if_neg h,if_neg (by intro e;exact h (gY.2 (by simpa using e)))]
end
@[go_sem] theorem UY : (1 : Int).toNat = 1 := (rfl)
section
variable {H t : aq} {i j k : Nat} {o o' : Obj}
theorem kQ(h:i<H.length):(H++t)[i]?=H[i]?:=aLg h
theorem lJ:(H++t)[H.length]?=t[0]?:=by rw[aLh (aLs _),Nat.sub_self]
theorem jK:(H++t)[H.length+k]?=t[k]?:=by rw[aLh (Nat.le_add_right _ _),Nat.add_sub_cancel_left]
theorem Pa(h:i<H.length):(H++t).set i o=H.set i o++t:=List.set_append_left _ _ h
theorem oI:(H++t).set H.length o=H++t.set 0 o:=by rw[List.set_append_right _ _ (aLs _),Nat.sub_self]
theorem Mf:(H++t).set (H.length+k) o=H++t.set k o:=by rw[List.set_append_right _ _ (Nat.le_add_right _ _),Nat.add_sub_cancel_left]
theorem lK(h:i<H.length):(H.set i o)[i]?=some o:=by simp[h]
theorem fv(h:i≠j):(H.set i o)[j]?=H[j]?:=aLi h
theorem zw:(H.set i o).set i o'=H.set i o':=List.set_set ..
theorem vn(a b:aq):(H++a)++b=H++(a++b):=List.append_assoc ..
theorem nu(h:H[i]?=some o):i<H.length:=(aLe.1 h).1
end
theorem I5(H:aq)(id sz n:Nat)(es:List D)(ts:List T)(hid:H[id]?=some (.arr sz false 0 es))(hn:n=es.length)(hf:cg (frz H 8) es=some ts)(ha:∀i∈es.flatMap (gI H 8),i≠id):
 finish 0 1 H [.ref id 0 n]=some (.ref 0 0 n,[.arr sz false 0 (ts.map .t)]):=by
 have hold:([D.ref id 0 n].all (old 0 depth)&&(H.take 0).all (fun o=>o.ds.all (old 0 depth)))=false:=by
  simp[old,depth]
 have hmap:∀ {es:List D} {ts:List T},cg (frz H 8) es=some ts→cg (fun d=>(frz H 8 d).map D.t) es=some (ts.map .t):=by
  intro es
  induction es with
  | nil=>intro ts h;simp[cg]at h;subst h;rfl
  | cons e es ih=>
    intro ts h
    simp only[cg,aLa,aLb]at h
    obtain⟨y,hy,r,hr,rfl⟩:=h
    simp only[cg,hy,aLw,aLq,ih hr,List.map_cons]
 have hnew:(eW [] [id]).drop 0=[id]:=by simp[eW]
 have hall:(es.flatMap (gI H 8)).all (fun i=> !([]++[id]).contains i)=true:=by
  rw[aLx];intro i hi;simpa using ha i hi
 unfold finish
 rw[if_neg (by omega),aLq,hold,if_neg (by simp)]
 have hk:kK H (max 1 1) (List.range 0) ([D.ref id 0 n].flatMap (ids depth)++lx H (List.range 0))=some ([id],[.arr sz false 0 (ts.map .t)]):=by
  have e1:[D.ref id 0 n].flatMap (ids depth)++lx H (List.range 0)=[id]:=by simp[ids,depth,lx]
  rw[e1]
  simp only[Nat.max_self,List.range_zero]
  unfold kK
  simp only[List.length_nil,hnew,pick,hid,aLq,aLw,if_true,List.flatMap_cons,List.flatMap_nil,List.append_nil,Obj.ds,depth,hall,cg,fq,hmap hf]
  simp only[kK,aLw,List.append_nil,aLq]
 rw[hk]
 simp only[aLq,List.range_zero,List.nil_append,List.take_zero,jP,Nat.succ_ne_zero,if_false,Nat.one_ne_zero,List.all_nil,if_true,cg,ren,idxOf,aLw,gn,wG,depth]
 have:=IM (fun i=>if id=i then some 0 else Option.map (fun x=>x+1) none) ts
 simp only[depth]at this
 rw[this];rfl
end Go.Ev
namespace Go.Ev.N
def Pb:Nat:=78
def Nx:Nat:=79
def Mg:Nat:=80
def XX:Nat:=81
def RE:Nat:=82
def XY:Nat:=83
def XZ:Nat:=84
def X0:Nat:=85
def abb:Nat:=86
def UZ:Nat:=87
def X1:Nat:=88
def U0:Nat:=89
def U4:Nat:=90
def abc:Nat:=91
def U5:Nat:=92
def abd:Nat:=93
def kR:Nat:=94
def ad8:Nat:=95
def X2:Nat:=96
def abe:Nat:=97
def X3:Nat:=98
def X4:Nat:=99
def X5:Nat:=100
def abf:Nat:=101
def ad9:Nat:=102
def Ia:Nat:=103
def SQ:Nat:=104
def dm:Nat:=105
def U6:Nat:=106
def abg:Nat:=107
def abh:Nat:=108
def X6:Nat:=109
def abi:Nat:=110
def abj:Nat:=111
def X7:Nat:=112
def X8:Nat:=113
def abk:Nat:=114
def U7:Nat:=115
def abl:Nat:=116
def abm:Nat:=117
def U8:Nat:=118
def U9:Nat:=119
def fQ:Nat:=120
def SR:Nat:=121
def KK:Nat:=122
end Go.Ev.N
namespace Go.Ev.N
def Pc:Nat:=123
def Ny:Nat:=124
def RF:Nat:=125
def Pd:Nat:=126
def X9:Nat:=127
def Ya:Nat:=128
def Yb:Nat:=129
def abn:Nat:=130
def abo:Nat:=131
def Yc:Nat:=132
def Yd:Nat:=133
def SS:Nat:=134
def SU:Nat:=135
def abp:Nat:=136
def Ye:Nat:=137
def SV:Nat:=138
def Va:Nat:=139
def RG:Nat:=140
def Vb:Nat:=141
def SW:Nat:=142
def Pe:Nat:=143
def Pf:Nat:=144
def Pg:Nat:=145
def Vc:Nat:=146
def Vd:Nat:=147
def Mh:Nat:=148
end Go.Ev.N
namespace Go.Ev.N
def KL:Nat:=149
def Ph:Nat:=150
def Pj:Nat:=151
def Nz:Nat:=152
def Yf:Nat:=153
def Yg:Nat:=154
def Ve:Nat:=155
def Vf:Nat:=156
def Yh:Nat:=157
def abq:Nat:=158
def Yi:Nat:=159
def GN:Nat:=160
def KM:Nat:=161
def Yj:Nat:=162
def abr:Nat:=163
def Vg:Nat:=164
def abt:Nat:=165
def Vh:Nat:=166
def ec:Nat:=167
def vI:Nat:=168
def SX:Nat:=169
def SY:Nat:=170
def Mi:Nat:=171
def SZ:Nat:=172
def jL:Nat:=173
def xC:Nat:=174
def Pk:Nat:=175
def Pl:Nat:=176
def hU:Nat:=177
end Go.Ev.N
namespace Go.Ev.K
open Go.Ev
def ec:Fn:= { aP:=1,vars:=[0,1,2],body:=(q [w 1 (.bx v0 2),x 2 (.b false)] [] (q [h 2 v1,u (.ca N.jL 0 [] [.l 0]),u (.bin .eql l0 (.i 0)),x 2 l0] [] .ret)),res:=[(2,none)]}
end Go.Ev.K
namespace Go.Ev
class fy [Lib]:Prop where
 uh:Lib.fs N.ec=some K.ec
namespace K
variable [Lib] [fy]
theorem uh:Lib.fs N.ec=some K.ec:=fy.uh
end K
end Go.Ev
namespace Go.Ev.K
open Go.Ev
def qh:C:= (.its [u (.bin .lss v8 v7)] [] 0 .skip (.exit 0) (.seq (.blk 1 (q [a 2 v6 v8,h 2 l0,w 3 (.al [z0,z1] []),u (.st l0 l1 2 [])] [] (.ite [f 0 v3,g l0,u (.bin .lss l0 (.i (-10000))),m l0,y 0 false (.fa v3 0),i 1 false l0,y 2 false (.bin .gtr l0 (.i 10000)),u (.pk l3 (.b true) l0)] [] 0 (q [x 2 (.i 1)] [] .ret) .skip))) (.reg [u (.bin .add v8 (.i 1)),x 8 l0] [])))
def yp:C:= .loop true [0,2,3,4,5,9,10,11] K.qh
def qi:C:= (.its [u (.bin .lss v11 v10)] [] 0 .skip (.exit 2) (.seq (.blk 3 (q [a 10 v9 v11,h 10 l0,w 5 (.al [z0,z0,z0,z0,z1,z1,z0,z0,z0,z0] []),u (.st l0 l1 10 [])] [] (.seq (.ite [f 0 v5,g l0,u (.bin .lss l0 (.i 0)),m l0,y 0 false (.fa v5 0),i 1 false l0,e 2 false v4,y 3 false (.bin .geq l1 l0),u (.pk l4 (.b true) l0),m l0,y 0 false (.fa v5 1),i 1 false l0,y 2 false (.bin .lss l0 (.i 0)),u (.pk l3 (.b true) l0),m l0,y 0 false (.fa v5 1),i 1 false l0,e 2 false v4,y 3 false (.bin .geq l1 l0),u (.pk l4 (.b true) l0),m l0,y 0 false (.fa v5 0),i 1 false l0,y 2 false (.fa v5 1),i 3 false l0,y 4 false (.bin .eql l2 l0),u (.pk l5 (.b true) l0)] [] 0 (q [x 2 (.i 4)] [] .ret) .skip) (.seq (.ite [f 2 v5,g l0,u (.bin .lss l0 (.i 1)),m l0,y 0 false (.fa v5 2),i 1 false l0,y 2 false (.bin .gtr l0 (.i 100000)),u (.pk l3 (.b true) l0),m l0,y 0 false (.fa v5 3),i 1 false l0,y 2 false (.bin .lss l0 (.i 1)),u (.pk l3 (.b true) l0),m l0,y 0 false (.fa v5 3),i 1 false l0,y 2 false (.bin .gtr l0 (.i 1000)),u (.pk l3 (.b true) l0)] [] 0 (q [x 2 (.i 1)] [] .ret) .skip) (.ite [f 6 v5,h 2 l0,u (.ca N.hU 0 [] [.l 0,.i 1,.i 262144]),u (.un .not l0),m l0,y 0 false (.fa v5 8),y 1 false (.ld l0 2 true),y 2 false (.ca N.hU 0 [] [.l 0,.i (-2199023255552),.i 2199023255552]),y 3 false (.un .not l0),u (.pk l4 (.b true) l0)] [] 0 (q [x 2 (.i 1)] [] .ret) .skip))))) (.reg [u (.bin .add v11 (.i 1)),x 11 l0] [])))
def yq:C:= .loop true [0,1,2,3,5,6,7,8] K.qi
def jL:Fn:= { aP:=1,vars:=[0,1,2,4,5,7,19,20,21,38,39,40],body:=(q [w 1 (.bx v0 2),x 2 (.i 0)] [] (.seq (.ite [f 0 v1,g l0,u (.ln l0),u (.bin .gtr l0 (.i 64)),m l0,y 0 false (.fa v1 1),i 1 false l0,y 2 false (.ln l0),y 3 false (.bin .gtr l0 (.i 128)),u (.pk l4 (.b true) l0)] [] 0 (q [x 2 (.i 2)] [] .ret) .skip) (.seq (q [f 0 v1,w 6 (.ld l0 1 false),w 7 (.ln l0),x 8 (.i 0)] [] (.blk 0 K.yp)) (q [f 0 v1,g l0,u (.ln l0),x 4 l0] [] (.seq (q [f 1 v1,w 9 (.ld l0 1 false),w 10 (.ln l0),x 11 (.i 0)] [] (.blk 2 K.yq)) (q [x 2 (.i 0)] [] .ret)))))),res:=[(2,none)]}
def hU:Fn:= { aP:=3,vars:=[0,1,2,3,6],body:=(q [w 3 (.bx v0 2),x 4 (.b false)] [] (q [m v1,f 0 v3,g l0,u (.bin .leq l2 l0),m l0,y 0 true (.fa v3 0),i 1 true l0,y 2 true (.fa v3 1),i 3 true l0,y 4 true (.bin .leq l2 l0),u (.pk l5 l0 (.b false)),m l0,y 0 true (.fa v3 1),i 1 true l0,e 2 true v2,y 3 true (.bin .leq l1 l0),u (.pk l4 l0 (.b false)),x 4 l0] [] .ret)),res:=[(4,none)]}
end Go.Ev.K
namespace Go.Ev
class fo [Lib]:Prop where
 ui:Lib.fs N.jL=some K.jL
 r5:Lib.fs N.hU=some K.hU
namespace K
variable [Lib] [fo]
theorem ui:Lib.fs N.jL=some K.jL:=fo.ui
theorem r5:Lib.fs N.hU=some K.hU:=fo.r5
end K
end Go.Ev
namespace Go.Ev
open Go
variable [Lib] [bX] [bJ] [fy] [fo]
section
variable (H : aq) (sz : Nat)
end
end Go.Ev
namespace Go.Ev
open Go
variable [Lib] [bX] [bJ]
structure Spn where
 low:Int
 high:Int
instance : Dat Spn := ⟨⟨0, 0⟩⟩
abbrev Spn.e(f:Spn):T:= .agg [tI f.low,tI f.high]
def Spn.ok(f:Spn):Prop:= -1125899906842624≤f.low∧f.high≤1125899906842624∧f.low≤f.high
instance (f : Spn) : Decidable f.ok := by unfold Spn.ok; infer_instance
def Pm(m:aC)(l:List Spn):Bool:=(List.range l.length).all (fun j=>decide (nth l j).ok)&&decide (l.length=m.roads.length)
def zx(x:Road)(f:Spn)(back:Bool):Int:=
 if x.closed=true then -1 else
 let g:=if back then -f.low else f.high
 let out:=if 0<g then(x.len*x.area*1000).tdiv g else -1
 if(if back then f.low<500*x.area else -500*x.area<f.high)∧(out<0∨x.len<out)then x.len else out
def aea(l:List Int)(p q:Nat)(t:Int):Bool:=decide (0≤t∧nth l p+t<nth l q)
def ai2(l:List Int)(p q:Nat)(t:Int):List Int:=if aea l p q t=true then l.set q (nth l p+t)else l
def Vi(m:aC)(fl:List Spn)(k:Nat)(back:Bool)(l:List Int):List Int×Bool:=
 (ai2 l ((nth m.roads k).src back).toNat ((nth m.roads k).dst back).toNat (zx (nth m.roads k) (nth fl k) back),aea l ((nth m.roads k).src back).toNat ((nth m.roads k).dst back).toNat (zx (nth m.roads k) (nth fl k) back))
def aeb(m:aC)(fl:List Spn)(k:Nat)(s:List Int×Bool):List Int×Bool:=
 let a:=Vi m fl k false s.1
 let b:=Vi m fl k true a.1
 (b.1,s.2||a.2||b.2)
def Pn(m:aC)(fl:List Spn)(l:List Int):Nat→List Int×Bool
 | 0=>(l,false)
 | k+1=>aeb m fl k (Pn m fl l k)
def Yk(m:aC)(fl:List Spn)(l:List Int):List Int×Bool:=Pn m fl l m.roads.length
section
variable {m : aC} (h : m.ok) {fl : List Spn}
include h
end
def agK(l:List Int):Nat→List Int
 | 0=>l
 | j+1=>if 2147483648<nth (agK l j) j then(agK l j).set j 1099511627776 else agK l j
def Vj(m:aC)(fl:List Spn)(l:List Int):List Int:=agK (ja (Yk m fl) (Ba l+1) l) m.aa.length
end Go.Ev
namespace Go.Ev
open Go
variable [Lib] [bX] [bJ]
def plS(t x:Int):Prop:=x=1099511627776∨(t≤x∧x≤2147483648)
instance (t x : Int) : Decidable (plS t x) := by unfold plS; infer_instance
def Po(m:aC)(s:Wh):Bool:=(List.range s.frm.length).all (fun j=>decide (plS s.time (nth s.frm j)))&&decide (s.frm.length=m.aa.length∧inT s.time)
def ai3(l:List Int)(t:Int)(n:Nat):List Int:=(List.range n).map fun(p:Nat)=>if(p:Int)∈l then t else 1099511627776
def aec(m:aC)(fl:List Spn)(l:List Int)(t:Int):Wh×Int:=
 if Pm m fl=false then(⟨0,[]⟩,6)else if rq l m.aa.length=false then(⟨0,[]⟩,3)else if ¬inT t then(⟨0,[]⟩,8)else
 (⟨t,Vj m fl (ai3 l t m.aa.length)⟩,0)
def Vk(m:aC)(fl:List Spn)(frm:List Int)(t:Int)(k:Nat)(back:Bool)(l:List Int):List Int:=
 if nth frm ((nth m.roads k).src back).toNat≤t∧0≤zx (nth m.roads k) (nth fl k) back then l.set ((nth m.roads k).dst back).toNat (min (nth l ((nth m.roads k).dst back).toNat) t)else l
def aed(m:aC)(fl:List Spn)(frm:List Int)(t:Int)(k:Nat)(l:List Int):List Int:=Vk m fl frm t k true (Vk m fl frm t k false l)
def chN(m:aC)(fl:List Spn)(frm:List Int)(t:Int):Nat→List Int
 | 0=>frm
 | k+1=>aed m fl frm t k (chN m fl frm t k)
def ai4(t:Int)(l:List Int):Nat→List Int
 | 0=>l
 | k+1=>(ai4 t l k).set k (max (nth (ai4 t l k) k) t)
def Yl(m:aC)(old:List Spn)(next:aC)(fl:List Spn)(s:Wh)(t:Int):Wh×Int:=
 if Po m s=false∨Pm m old=false∨Pm next fl=false∨next.aa.length≠m.aa.length then(s,6)else
 if t<s.time∨2147483648<t then(s,8)else(⟨t,Vj next fl (ai4 t (chN m old s.frm t m.roads.length) m.aa.length)⟩,0)
end Go.Ev
namespace Go.Ev
open Go
variable [Lib] [bX] [bJ] [fy] [fo]
theorem GO(a b lo hi:Int)(h1:lo≤a)(h2:a≤b)(h3:b≤hi):aH 0 N.hU [.t (.agg [tI a,tI b]),I lo,I hi] []=some (B true,[]):=by
 refine av K.r5 rfl ?_
 simp(disch:=omega)only[go_sem,K.hU,↓reduceIte,reduceAdd,reduceSub]
theorem GP{m:aC}(h:m.ok):aH 0 N.jL [.t m.e] []=some (I 0,[]):=by
 refine av K.ui rfl ?_
 have np:=h.np
 have nr:=h.nr
 have hs:=h.hs
 have rs:=h.rs
 obtain⟨aa,roads⟩:=m
 simp only at np nr hs rs
 have l1:∀z0 z2 z3 z4 z5 z9 z10 z11:D,exS aH K.yp ⟨[z0,.bp 0 0,z2,z3,z4,z5,.t (.sl (aa.map Place.e)),I aa.length,I 0,z9,z10,z11],[.box (ae ⟨aa,roads⟩)]⟩=
  some (.exit 0,⟨[.und,.bp 0 0,.und,.und,.und,.und,.t (.sl (aa.map Place.e)),I aa.length,I aa.length,.und,.und,.und],[.box (ae ⟨aa,roads⟩)]⟩):=by
  intro z0 z2 z3 z4 z5 z9 z10 z11
  refine bz (fun j=>⟨[.und,.bp 0 0,.und,.und,.und,.und,.t (.sl (aa.map Place.e)),I aa.length,I j,.und,.und,.und],[.box (ae ⟨aa,roads⟩)]⟩) aa.length rfl ?_ ?_ (by simp)
  · intro j hj
    have g:(aa.map Place.e)[j]?=some (nth aa j).e:=bR _ hj
    have q:=hs _ (ai hj)
    generalize nth aa j=x at*
    obtain⟨hh,sf⟩:=x
    simp only[ae]at*
    simp(disch:=omega)only[go_sem,K.qh,↓reduceIte,g,reduceAdd,reduceSub]
  · simp(disch:=omega)only[go_sem,K.qh,↓reduceIte,ae,reduceAdd,reduceSub]
 have l2:∀z0 z1 z2 z3 z5 z6 z7 z8:D,exS aH K.yq ⟨[z0,z1,z2,z3,I aa.length,z5,z6,z7,z8,.t (.sl (roads.map Road.e)),I roads.length,I 0],[.box (ae ⟨aa,roads⟩)]⟩=
  some (.exit 2,⟨[.und,.und,.und,.und,I aa.length,.und,.und,.und,.und,.t (.sl (roads.map Road.e)),I roads.length,I roads.length],[.box (ae ⟨aa,roads⟩)]⟩):=by
  intro z0 z1 z2 z3 z5 z6 z7 z8
  refine bz (fun j=>⟨[.und,.und,.und,.und,I aa.length,.und,.und,.und,.und,.t (.sl (roads.map Road.e)),I roads.length,I j],[.box (ae ⟨aa,roads⟩)]⟩) roads.length rfl ?_ ?_ (by simp)
  · intro j hj
    have g:(roads.map Road.e)[j]?=some (nth roads j).e:=bR _ hj
    have q:=rs _ (ai hj)
    generalize nth roads j=x at*
    have f0:=q.f0;have f1:=q.f1;have t0:=q.t0;have t1:=q.t1;have ne:=q.ne;have l0:=q.l0;have l1:=q.l1;have a0:=q.a0;have a1:=q.a1
    have r0:=q.r0;have r1:=q.r1;have r2:=q.r2;have i0:=q.i0;have i1:=q.i1;have i2:=q.i2
    clear q
    obtain⟨frm,to,len,area,walk,closed,rl,rh,ll,lh⟩:=x
    simp only[ae]at*
    have s1:=GO rl rh 1 262144 r0 r1 r2
    have s2:=GO ll lh (-2199023255552) 2199023255552 i0 i1 i2
    simp(disch:=omega)only[go_sem,K.qi,↓reduceIte,g,s1,s2,reduceAdd,reduceSub]
  · simp(disch:=omega)only[go_sem,K.qi,↓reduceIte,ae,reduceAdd,reduceSub]
 simp only[ae]at l1 l2
 simp(disch:=omega)only[go_sem,K.jL,↓reduceIte,l1,l2,reduceAdd,reduceSub]
theorem jk{m:aC}(h:m.ok):aH 0 N.ec [.t m.e] []=some (B true,[]):=by
 refine av K.uh rfl ?_
 have c:=GP h
 obtain⟨aa,roads⟩:=m
 simp(disch:=omega)only[go_sem,K.ec,↓reduceIte,c,reduceAdd,reduceSub]
end Go.Ev
namespace Go.Ev.N
def Mj:Nat:=178
def Mk:Nat:=179
def NA:Nat:=180
def Ml:Nat:=181
def NB:Nat:=182
def Pp:Nat:=183
def NC:Nat:=184
def Ym:Nat:=185
def Vl:Nat:=186
def Yn:Nat:=187
def Pq:Nat:=188
def Yo:Nat:=189
def gg:Nat:=190
def Vm:Nat:=191
def abu:Nat:=192
def S0:Nat:=193
def ed:Nat:=194
def Yp:Nat:=195
def abv:Nat:=196
def aee:Nat:=197
def RH:Nat:=198
def cU:Nat:=199
def fG:Nat:=200
def dB:Nat:=201
def bg:Nat:=202
def Vn:Nat:=203
def aU:Nat:=204
def cQ:Nat:=205
def fH:Nat:=206
def Vo:Nat:=207
def dN:Nat:=208
def bj:Nat:=209
def bZ:Nat:=210
def kS:Nat:=211
def kT:Nat:=212
def fA:Nat:=213
def jM:Nat:=214
end Go.Ev.N
namespace Go.Ev.K
open Go.Ev
def gg:Fn:= { aP:=2,vars:=[0,1,2,3,4],body:=(q [w 2 (.bx v0 2),w 3 (.bx v1 2),x 4 (.b false)] [] (q [h 2 v2,u (.ca N.ec 0 [] [.l 0]),m l0,y 0 true (.ld v2 2 true),y 1 true (.ld v3 2 true),y 2 true (.ca N.dB 0 [] [.l 1,.l 0]),u (.pk l3 l0 (.b false)),m l0,y 0 true (.ld v2 2 true),y 1 true (.fa v3 1),i 2 true l0,y 3 true (.fa v3 0),i 4 true l0,y 5 true (.ca N.cU 0 [] [.l 4,.l 2,.l 0,.c (.fn N.fG [])]),y 6 true (.fa v3 1),i 7 true l0,y 8 true (.ca N.bg 0 [] [.l 2,.l 0]),u (.pk l9 l0 (.b false)),x 4 l0] [(15,6)] .ret)),res:=[(4,none)]}
end Go.Ev.K
namespace Go.Ev
class gU [Lib]:Prop where
 qj:Lib.fs N.gg=some K.gg
namespace K
variable [Lib] [gU]
theorem qj:Lib.fs N.gg=some K.gg:=gU.qj
end K
end Go.Ev
