/- Parts of the proof: see the text that holds the theorem. -/
import Derived.Test.YtjjghpgeifjojaaGreatZ2
set_option linter.all false
open Nat (reduceAdd reduceSub)
set_option maxRecDepth 100000
namespace Go.Ev
open Go
abbrev I(n:Int):D:= .t (.int .i64 n)
abbrev B(b:Bool):D:= .t (.bool b)
def M6{β:Type}(call:aX):List R→List D→List D→aq→(List D→List D→aq→Option β)→Option β
 | rs,L,vs,H,K=>(evR call rs L vs H).bind fun q=>K q.1 q.2.1 q.2.2
def UY{β:Type}(call:aX)(rs:List R)(d:Option Nat)(L vs:List D)(K:List D→List D→aq→Option β)(p:D×aq):Option β:=
 M6 call rs (p.1::L) (wr vs d p.1) p.2 K
@[go_sem] theorem aer {β : Type} (call : aX) (rs : List R) (d : Option Nat) (L vs : List D) (K : List D → List D → aq → Option β) (x : D) (H : aq) :
 UY call rs d L vs K (x,H)=M6 call rs (x::L) (wr vs d x) H K:=(rfl)
@[go_sem] theorem aes {β : Type} (call : aX) (L vs : List D) (H : aq) (K : List D → List D → aq → Option β) : M6 call [] L vs H K = K L vs H := (rfl)
@[go_sem] theorem aa7 {β : Type} (call : aX) (o : O) (d : Option Nat) (rs : List R) (L vs : List D) (H : aq) (K : List D → List D → aq → Option β) :
 M6 call (⟨o,d,none⟩::rs) L vs H K=(evO call (X.get vs L) H o).bind (UY call rs d L vs K):=by
 simp[M6,evR,cP,Option.bind_assoc]
 rfl
def gate{β:Type}(c:Option D)(w:Bool)(a b:Option β):Option β:=match c with
 | some (.t (.bool x))=>if x=w then a else b
 | some (.tup [])=>b
 | _=>none
@[congr] theorem Yr {β : Type} {c c' : Option D} {w : Bool} {a b : Option β} (h : True → c = c') : gate c w a b = gate c' w a b := by rw [h trivial]
@[go_sem] theorem aet {β : Type} (p : Prop) [Decidable p] (a b : Option β) : gate (some (.t (.bool (decide p)))) true a b = if p then a else b := by
 by_cases h:p<;>simp[gate,h]
@[go_sem] theorem aa8 {β : Type} (p : Prop) [Decidable p] (a b : Option β) : gate (some (.t (.bool (decide p)))) false a b = if p then b else a := by
 by_cases h:p<;>simp[gate,h]
@[go_sem] theorem aa9 {β : Type} (x : Bool) (a b : Option β) : gate (some (.t (.bool x))) true a b = if x = true then a else b := (rfl)
@[go_sem] theorem Ys {β : Type} (x : Bool) (a b : Option β) : gate (some (.t (.bool x))) false a b = if x = true then b else a := by cases x <;> rfl
@[go_sem] theorem aba {β : Type} (w : Bool) (a b : Option β) : gate (some (.tup [])) w a b = b := (rfl)
@[go_sem] theorem abb {β : Type} (call : aX) (o : O) (d : Option Nat) (k : Nat) (w : Bool) (rs : List R) (L vs : List D) (H : aq) (K : List D → List D → aq → Option β) :
 M6 call (⟨o,d,some (k,w)⟩::rs) L vs H K=gate L[k]? w ((evO call (X.get vs L) H o).bind (UY call rs d L vs K)) (M6 call rs (.tup []::L) (wr vs d (.tup [])) H K):=by
 simp only[M6,evR,cP]
 cases hL:L[k]? with
 | none=>simp[gate]
 | some c=>
   simp only[aLq]
   cases c with
   | t x=>
     cases x with
     | bool b=>cases b<;>cases w<;>simp[gate,Option.bind_assoc]<;>rfl
     | _=>simp[gate]
   | tup ds=>
     cases ds with
     | nil=>simp[gate]
     | cons=>simp[gate]
   | _=>simp[gate]
open Classical in
noncomputable def An{β:Type}(p:Prop)(x:Option β):Option β:=if p then x else none
@[go_sem] theorem UZ {β : Type} (x : Option β) : An True x = x := by simp [An]
noncomputable def GK{β:Type}(call:aX)(all:List R)(n:Nat)(ps:List (Nat×Nat))(rs:List R)(L vs:List D)(H:aq)(acc:List Tr)(K:List D→List D→aq→Option β):Option β:=
 (evR call rs L vs H).bind fun q=>An (s9 call all n ((trace call rs L vs H).reverse++acc) ps) (K q.1 q.2.1 q.2.2)
noncomputable def Oc{β:Type}(call:aX)(all:List R)(n:Nat)(ps:List (Nat×Nat))(rs:List R)(d:Option Nat)(L vs:List D)(H:aq)(acc:List Tr)(K:List D→List D→aq→Option β)(p:D×aq):Option β:=
 GK call all n ps rs (p.1::L) (wr vs d p.1) p.2 ((L,vs,H)::acc) K
@[go_sem] theorem aeu {β : Type} (call : aX) (all : List R) (n : Nat) (ps : List (Nat × Nat)) (rs : List R) (d : Option Nat) (L vs : List D) (H : aq) (acc : List Tr) (K : List D → List D → aq → Option β) (x : D) (H' : aq) :
 Oc call all n ps rs d L vs H acc K (x,H')=GK call all n ps rs (x::L) (wr vs d x) H' ((L,vs,H)::acc) K:=(rfl)
@[go_sem] theorem aev {β : Type} (call : aX) (all : List R) (n : Nat) (ps : List (Nat × Nat)) (L vs : List D) (H : aq) (acc : List Tr) (K : List D → List D → aq → Option β) :
 GK call all n ps [] L vs H acc K=An (s9 call all n ((L,vs,H)::acc) ps) (K L vs H):=by
 simp[GK,evR,trace]
theorem GL{β:Type}(call:aX)(all:List R)(n:Nat)(ps:List (Nat×Nat))(r:R)(rs:List R)(L vs:List D)(H:aq)(acc:List Tr)(K:List D→List D→aq→Option β):
 GK call all n ps (r::rs) L vs H acc K=(cP L r.g).bind fun w=>
  if w then(evO call (X.get vs L) H r.o).bind (Oc call all n ps rs r.d L vs H acc K)else GK call all n ps rs (.tup []::L) (wr vs r.d (.tup [])) H ((L,vs,H)::acc) K:=by
 obtain hw | ⟨w,hw⟩:cP L r.g=none∨∃w,cP L r.g=some w:=by cases cP L r.g<;>simp
 · simp[GK,evR,trace,hw]
 · cases w with
   | true=>
     obtain hq | ⟨q,hq⟩:evO call (X.get vs L) H r.o=none∨∃q,evO call (X.get vs L) H r.o=some q:=by cases evO call (X.get vs L) H r.o<;>simp
     · simp[GK,evR,trace,hw,hq]
     · simp[GK,evR,trace,hw,hq,Oc]
   | false=>simp[GK,evR,trace,hw]
@[go_sem] theorem abc {β : Type} (call : aX) (all : List R) (n : Nat) (ps : List (Nat × Nat)) (o : O) (d : Option Nat) (rs : List R) (L vs : List D) (H : aq) (acc : List Tr) (K : List D → List D → aq → Option β) :
 GK call all n ps (⟨o,d,none⟩::rs) L vs H acc K=(evO call (X.get vs L) H o).bind (Oc call all n ps rs d L vs H acc K):=by
 rw[GL];simp[cP]
@[go_sem] theorem abd {β : Type} (call : aX) (all : List R) (n : Nat) (ps : List (Nat × Nat)) (o : O) (d : Option Nat) (k : Nat) (w : Bool) (rs : List R) (L vs : List D) (H : aq) (acc : List Tr) (K : List D → List D → aq → Option β) :
 GK call all n ps (⟨o,d,some (k,w)⟩::rs) L vs H acc K=
  gate L[k]? w ((evO call (X.get vs L) H o).bind (Oc call all n ps rs d L vs H acc K)) (GK call all n ps rs (.tup []::L) (wr vs d (.tup [])) H ((L,vs,H)::acc) K):=by
 rw[GL]
 simp only[cP]
 cases hL:L[k]? with
 | none=>simp[gate]
 | some c=>
   simp only[aLq]
   cases c with
   | t x=>
     cases x with
     | bool b=>cases b<;>cases w<;>simp[gate]
     | _=>simp[gate]
   | tup ds=>
     cases ds with
     | nil=>simp[gate]
     | cons=>simp[gate]
   | _=>simp[gate]
def AQ(call:aX):Option R→Option Tr→Option Tr→Option Tr→Prop
 | some r,some s,some a,some s'=>(match r.o with
   | .al _ _=>a.2.2[s.2.2.length]?=s'.2.2[s.2.2.length]?
   | .bs xs _=>cP s.1 r.g=some false∨((cK (X.get s.2.1 s.1) xs).bind rT).isSome=true
   | o=>vX o=true∧(cP s.1 r.g=some false∨D3 (evO call (X.get s.2.1 s.1) a.2.2 o)=D3 (evO call (X.get s.2.1 s.1) s.2.2 o)))
 | _,_,_,_=>False
@[go_sem] theorem Yt (call : aX) (all : List R) (n : Nat) (acc : List Tr) : s9 call all n acc [] = True := (rfl)
@[go_sem] theorem U0 (call : aX) (all : List R) (n : Nat) (acc : List Tr) (p m : Nat) (r : List (Nat × Nat)) :
 s9 call all n acc ((p,m)::r)=(AQ call all[p]? acc[n-p]? acc[n-m]? acc[n-(p+1)]?∧m≤n∧s9 call all n acc r):=by
 simp only[s9,UX,AQ]
 try rfl
section
variable (call : aX) (d : Option Nat) (gd : Option (Nat × Bool)) (L vs L' vs' : List D) (H H' : aq) (s' : Tr)
@[go_sem] theorem aew (x : X) (n : Nat) (agg : Bool) : AQ call (some ⟨.ld x n agg, d, gd⟩) (some (L, vs, H)) (some (L', vs', H')) (some s') =
 (cP L gd=some false∨D3 (evO call (X.get vs L) H' (.ld x n agg))=D3 (evO call (X.get vs L) H (.ld x n agg))):=by simp[AQ,vX]
@[go_sem] theorem aex (x i : X) (sz : Nat) : AQ call (some ⟨.ia x i sz, d, gd⟩) (some (L, vs, H)) (some (L', vs', H')) (some s') =
 (cP L gd=some false∨D3 (evO call (X.get vs L) H' (.ia x i sz))=D3 (evO call (X.get vs L) H (.ia x i sz))):=by simp[AQ,vX]
@[go_sem] theorem aey (x : X) (lo hi : Option X) (sz : Nat) : AQ call (some ⟨.sc x lo hi sz, d, gd⟩) (some (L, vs, H)) (some (L', vs', H')) (some s') =
 (cP L gd=some false∨D3 (evO call (X.get vs L) H' (.sc x lo hi sz))=D3 (evO call (X.get vs L) H (.sc x lo hi sz))):=by simp[AQ,vX]
@[go_sem] theorem abe (x : X) (z : T) (sz : Nat) : AQ call (some ⟨.mkt x z sz, d, gd⟩) (some (L, vs, H)) (some (L', vs', H')) (some s') =
 (cP L gd=some false∨D3 (evO call (X.get vs L) H' (.mkt x z sz))=D3 (evO call (X.get vs L) H (.mkt x z sz))):=by simp[AQ,vX]
@[go_sem] theorem aez (z : List D) (l : List (Nat × Nat)) (L2 vs2 : List D) (H2 : aq) : AQ call (some ⟨.al z l, d, gd⟩) (some (L, vs, H)) (some (L', vs', H')) (some (L2, vs2, H2)) = (H'[H.length]? = H2[H.length]?) := (rfl)
@[go_sem] theorem aeA (xs : List X) (sz : Nat) : AQ call (some ⟨.bs xs sz, d, gd⟩) (some (L, vs, H)) (some (L', vs', H')) (some s') =
 (cP L gd=some false∨((cK (X.get vs L) xs).bind rT).isSome=true):=(rfl)
@[go_sem] theorem SY (L : List D) : cP L none = some true := (rfl)
def U1(w:Bool):Option D→Option Bool
 | some (.t (.bool b))=>some (b==w)
 | some (.tup [])=>some false
 | _=>none
@[go_sem] theorem Yu (w b : Bool) : U1 w (some (.t (.bool b))) = some (b == w) := (rfl)
@[go_sem] theorem abf (w : Bool) : U1 w (some (.tup [])) = some false := (rfl)
@[go_sem] theorem SZ (L : List D) (k : Nat) (w : Bool) : cP L (some (k, w)) = U1 w L[k]? := by
 simp only[cP]
 cases L[k]? with
 | none=>rfl
 | some c=>cases c with
   | t x=>cases x<;>rfl
   | tup ds=>cases ds<;>rfl
   | _=>rfl
@[go_sem] theorem abg (x : D) : D3 (some (x, H)) = some x := (rfl)
attribute [go_sem] beq_true beq_false or_true true_or or_self
end
theorem KK(call:aX)(rs:List R)(vs:List D)(H:aq):M5 call rs [] vs H=evR call rs [] vs H:=by
 simp[M5,s9]
def agY(L vs:List D)(H:aq):Option (Ex×St):=some (.normal,⟨vs,H⟩)
noncomputable def agZ(call:aX)(k:Nat)(a b:C)(L vs:List D)(H:aq):Option (Ex×St):=iW L[k]? (exS call a ⟨vs,H⟩) (exS call b ⟨vs,H⟩)
@[go_sem] theorem ag0 (L vs : List D) (H : aq) : agY L vs H = some (.normal, ⟨vs, H⟩) := (rfl)
@[go_sem] theorem ag1 (call : aX) (k : Nat) (a b : C) (L vs : List D) (H : aq) : agZ call k a b L vs H = iW L[k]? (exS call a ⟨vs, H⟩) (exS call b ⟨vs, H⟩) := (rfl)
def andThen(x:Option (Ex×St))(k:St→Option (Ex×St)):Option (Ex×St):=x.bind fun p=>je p k
@[go_sem] theorem P4 (st : St) (k : St → Option (Ex × St)) : andThen (some (.normal, st)) k = k st := (rfl)
@[go_sem] theorem U2 (st : St) (k : St → Option (Ex × St)) : andThen (some (.ret, st)) k = some (.ret, st) := (rfl)
@[go_sem] theorem S0 (i : Nat) (st : St) (k : St → Option (Ex × St)) : andThen (some (.exit i, st)) k = some (.exit i, st) := (rfl)
@[go_sem] theorem S1 (k : St → Option (Ex × St)) : andThen none k = none := (rfl)
@[go_sem] theorem andThen_ite (c : Prop) [Decidable c] (a b : Option (Ex × St)) (k : St → Option (Ex × St)) : andThen (if c then a else b) k = if c then andThen a k else andThen b k := by
 split<;>rfl
@[go_sem] theorem aeB (call : aX) (st : St) : exS call .skip st = some (.normal, st) := (rfl)
@[go_sem] theorem ag2 (call : aX) (rs : List R) (vs : List D) (H : aq) : exS call (.reg rs []) ⟨vs, H⟩ = M6 call rs [] vs H agY := by
 simp only[exS,KK,M6]
 cases evR call rs [] vs H<;>rfl
@[go_sem] theorem aeC (call : aX) (rs : List R) (p : Nat × Nat) (ps : List (Nat × Nat)) (vs : List D) (H : aq) :
 exS call (.reg rs (p::ps)) ⟨vs,H⟩=GK call rs rs.length (p::ps) rs [] vs H [] agY:=by
 simp only[exS,M5,GK,List.append_nil]
 by_cases h:s9 call rs rs.length (trace call rs [] vs H).reverse (p::ps)
 · rw[if_pos h]
   simp only[An,if_pos h]
   cases evR call rs [] vs H<;>rfl
 · rw[if_neg h]
   simp only[An,if_neg h]
   cases evR call rs [] vs H<;>rfl
@[go_sem] theorem ag3 (call : aX) (a b : C) (st : St) : exS call (.seq a b) st = andThen (exS call a st) (exS call b) := (rfl)
@[go_sem] theorem ag4 (call : aX) (rs : List R) (k : Nat) (a b : C) (vs : List D) (H : aq) : exS call (.ite rs [] k a b) ⟨vs, H⟩ = M6 call rs [] vs H (agZ call k a b) := by
 simp only[exS,KK,M6]
 cases evR call rs [] vs H<;>rfl
@[go_sem] theorem aeD (call : aX) (rs : List R) (p : Nat × Nat) (ps : List (Nat × Nat)) (k : Nat) (a b : C) (vs : List D) (H : aq) :
 exS call (.ite rs (p::ps) k a b) ⟨vs,H⟩=GK call rs rs.length (p::ps) rs [] vs H [] (agZ call k a b):=by
 simp only[exS,M5,GK,List.append_nil]
 by_cases h:s9 call rs rs.length (trace call rs [] vs H).reverse (p::ps)
 · rw[if_pos h]
   simp only[An,if_pos h]
   cases evR call rs [] vs H<;>rfl
 · rw[if_neg h]
   simp only[An,if_neg h]
   cases evR call rs [] vs H<;>rfl
@[go_sem] theorem ag5 (call : aX) (rs : List R) (ps : List (Nat × Nat)) (k : Nat) (a b c : C) (st : St) : exS call (.its rs ps k a b c) st = andThen (exS call (.ite rs ps k a b) st) (exS call c) := (rfl)
@[go_sem] theorem ag6 (call : aX) (rs : List R) (ps : List (Nat × Nat)) (k : Nat) (a b c : C) (st : St) : exS call (.itk rs ps k a b c) st = exS call (.ite rs ps k (.seq a c) (.seq b c)) st := (rfl)
@[go_sem] theorem ag7 (call : aX) (j : Nat) (a b : C) (vs : List D) (H : aq) : exS call (.itv j a b) ⟨vs, H⟩ = iW vs[j]? (exS call a ⟨vs, H⟩) (exS call b ⟨vs, H⟩) := (rfl)
@[go_sem] theorem aeE (call : aX) (id : Nat) (st : St) : exS call (.exit id) st = some (.exit id, st) := (rfl)
@[go_sem] theorem ag8 (call : aX) (st : St) : exS call .ret st = some (.ret, st) := (rfl)
@[go_sem] theorem aeF (call : aX) (st : St) : exS call .fail st = none := (rfl)
@[go_sem] theorem ag9 (call : aX) (x p f : Nat) (r1 : List R) (p1 : List (Nat × Nat)) (r2 : List R) (p2 : List (Nat × Nat)) (vs : List D) (H : aq) : exS call (.rng x p f r1 p1 r2 p2) ⟨vs, H⟩ = (M0 (stepG (M5 call) vs p r1 p1 r2 p2) (P2 f vs[x]?) H).map fun H => (.normal, ⟨vs, H⟩) := (rfl)
@[go_sem] theorem aha (call : aX) (v : Bool) (c : C) (st : St) : exS call (.cnd v c) st = exS call c st := (rfl)
def B6(id:Nat)(x:Option (Ex×St)):Option (Ex×St):=x.map (leave id)
@[go_sem] theorem ahb (call : aX) (id : Nat) (c : C) (st : St) : exS call (.blk id c) st = B6 id (exS call c st) := (rfl)
@[go_sem] theorem S2 (id : Nat) (st : St) : B6 id (some (.normal, st)) = some (.normal, st) := by simp [B6, leave]
@[go_sem] theorem abh (id : Nat) (st : St) : B6 id (some (.ret, st)) = some (.ret, st) := by simp [B6, leave]
@[go_sem] theorem Yv (id i : Nat) (st : St) : B6 id (some (.exit i, st)) = if i = id then some (.normal, st) else some (.exit i, st) := by
 simp only[B6,leave,aLw,Ex.exit.injEq]
 split<;>rfl
@[go_sem] theorem Yw (id : Nat) : B6 id none = none := (rfl)
@[go_sem] theorem abi (id : Nat) (c : Prop) [Decidable c] (a b : Option (Ex × St)) : B6 id (if c then a else b) = if c then B6 id a else B6 id b := by
 split<;>rfl
@[congr] theorem U3 {c c' : Option D} {a b : Option (Ex × St)} (h : True → c = c') : iW c a b = iW c' a b := by rw [h trivial]
@[go_sem] theorem abj (p : Prop) [Decidable p] (a b : Option (Ex × St)) : iW (some (.t (.bool (decide p)))) a b = if p then a else b := by
 by_cases h:p<;>simp[iW,h]
@[go_sem] theorem Yx (p : Prop) [Decidable p] (a b : Option (Ex × St)) : iW (some (.t (.bool (!decide p)))) a b = if p then b else a := by
 by_cases h:p<;>simp[iW,h]
@[go_sem] theorem aeG (a : Option (Ex × St)) : iW (some .ub) a a = a := by simp [iW]
@[go_sem] theorem Yy (x : Bool) (a b : Option (Ex × St)) : iW (some (.t (.bool x))) a b = if x = true then a else b := (rfl)
def kV(gc:Bool)(dead:List Nat)(k:Nat)(x:Option (Ex×St)):Option St:=x.bind fun p=>match p.1 with
 | .normal=>tidy gc dead k p.2
 | _=>none
@[go_sem] theorem QZ (gc : Bool) (dead : List Nat) (k : Nat) (st : St) : kV gc dead k (some (.normal, st)) = tidy gc dead k st := (rfl)
@[go_sem] theorem Yz (gc : Bool) (dead : List Nat) (k : Nat) (c : Prop) [Decidable c] (a b : Option (Ex × St)) : kV gc dead k (if c then a else b) = if c then kV gc dead k a else kV gc dead k b := by
 split<;>rfl
theorem lN{gc:Bool}{dead:List Nat}{body:St→Option (Ex×St)}{st st2:St}(h:kV gc dead st.H.length (body st)=some st2)
 {p:Ex×St} (h2:oX gc dead body st2=some p):oX gc dead body st=some p:=by
 unfold kV at h
 obtain⟨⟨e,st1⟩,hq,h⟩:=aLa.1 h
 cases e with
 | normal=>exact D1 hq h h2
 | ret=>cases h
 | exit=>cases h
theorem EU{gc:Bool}{dead:List Nat}{body:St→Option (Ex×St)}(s:Nat→St){p:Ex×St}(n:Nat)
 (h:∀j,j<n→kV gc dead (s j).H.length (body (s j))=some (s (j+1))) (he:oX gc dead body (s n)=some p):oX gc dead body (s 0)=some p:=by
 have:=Am (s:=s) n 0 (fun j _ hj=>by
  have h:=h j (by omega)
  unfold kV at h
  obtain⟨⟨e,st1⟩,hq,h⟩:=aLa.1 h
  cases e with
  | normal=>exact⟨st1,hq,h⟩
  | ret=>cases h
  | exit=>cases h) (by simpa using he)
 exact this
def aeH(res:List (Nat×Option (Nat×Bool)))(k raw:Nat)(p:Ex×St):Option (D×aq):=match p.1 with
 | .exit _=>none
 | _=>(kR p.2 res).bind (finish k raw p.2.H)
@[go_sem] theorem aeI (res : List (Nat × Option (Nat × Bool))) (k raw : Nat) (vs : List D) (H : aq) : aeH res k raw (.ret, ⟨vs, H⟩) = (kR ⟨vs, H⟩ res).bind (finish k raw H) := (rfl)
@[go_sem] theorem U4 (res : List (Nat × Option (Nat × Bool))) (k raw : Nat) (vs : List D) (H : aq) : aeH res k raw (.normal, ⟨vs, H⟩) = (kR ⟨vs, H⟩ res).bind (finish k raw H) := (rfl)
theorem U5{fs:Nat→Option Fn}{raw f:Nat}{args:List D}{H:aq}{fn:Fn}{r:D×aq}(hf:fs f=some fn)(hn:fn.aD=args.length)
 (h:(exS (oY fs) fn.body ⟨vT args fn.vars,H⟩).bind (aeH fn.res H.length raw)=some r) (h0:fn.prim=[]:=by rfl):oY fs raw f args H=some r:=by
 obtain⟨p,hp,he⟩:=aLa.1 h
 exact QV hf hn (QY _ _ _ hp) he h0
@[go_sem] theorem aeJ {α β : Type} (c : Prop) [Decidable c] (a b : Option α) (k : α → Option β) : (if c then a else b).bind k = if c then a.bind k else b.bind k := by
 split<;>rfl
@[go_sem] theorem ahc {α β : Type} (c : Prop) [Decidable c] (a b : Option α) (k : α → β) : (if c then a else b).map k = if c then a.map k else b.map k := by
 split<;>rfl
theorem abk(a b:Int):(a==b)=decide (a=b):=by rw[Bool.eq_iff_iff];simp
theorem uc{n:Int}(h1: -9223372036854775808≤n)(h2:n≤9223372036854775807):IntKind.i64.wrap n=n:=by
 have e:IntKind.i64.wrap n=if n % 18446744073709551616≥9223372036854775808 then n % 18446744073709551616-18446744073709551616 else n % 18446744073709551616:=by
  simp[IntKind.wrap,IntKind.signed,IntKind.bits]
 rw[e];split<;>omega
section
variable {α β : Type}
@[go_sem] theorem U6 (a : α) (f : α → Option β) : (some a).bind f = f a := (rfl)
@[go_sem] theorem YA (a : α) (f : α → β) : (some a).map f = some (f a) := (rfl)
@[go_sem] theorem U7 (f : α → Option β) : (none : Option α).bind f = none := (rfl)
@[go_sem] theorem YB (f : α → β) : (none : Option α).map f = none := (rfl)
@[go_sem] theorem YC (a : α) (l : List α) (f : α → β) : (a :: l).map f = f a :: l.map f := (rfl)
@[go_sem] theorem abl (f : α → β) : ([] : List α).map f = [] := (rfl)
@[go_sem] theorem YD (a : α) (l : List α) : (a :: l)[0]? = some a := (rfl)
@[go_sem] theorem YE (a : α) (l : List α) (n : Nat) : (a :: l)[n + 1]? = l[n]? := (rfl)
@[go_sem] theorem U8 (a d : α) (l : List α) : (a :: l).getD 0 d = a := (rfl)
@[go_sem] theorem U9 (a d : α) (l : List α) (n : Nat) : (a :: l).getD (n + 1) d = l.getD n d := (rfl)
@[go_sem] theorem YF (d : α) (n : Nat) : ([] : List α).getD n d = d := by simp
@[go_sem] theorem YG (a b : α) (l : List α) : (a :: l).set 0 b = b :: l := (rfl)
@[go_sem] theorem YH (a b : α) (l : List α) (n : Nat) : (a :: l).set (n + 1) b = a :: l.set n b := (rfl)
@[go_sem] theorem Q0 (a : α) (l m : List α) : (a :: l) ++ m = a :: (l ++ m) := (rfl)
@[go_sem] theorem S3 (l : List α) : [] ++ l = l := (rfl)
@[go_sem] theorem S4 (l : List α) : l ++ [] = l := by simp
@[go_sem] theorem P5 (a : α) (l : List α) (f : α → List β) : (a :: l).flatMap f = f a ++ l.flatMap f := by simp
@[go_sem] theorem Q1 (f : α → List β) : ([] : List α).flatMap f = [] := by simp
@[go_sem] theorem S5 : ([] : List α).length = 0 := (rfl)
@[go_sem] theorem Q2 (a : α) (l : List α) : (a :: l).length = l.length + 1 := (rfl)
@[go_sem] theorem S6 (l : List α) (f : α → β) : (l.map f).length = l.length := by simp
@[go_sem] theorem Od (l m : List α) : (l ++ m).length = l.length + m.length := by simp
@[go_sem] theorem KL (n : Nat) (a : α) : (List.replicate n a).length = n := by simp
@[go_sem] theorem S7 (l : List α) (i : Nat) (a : α) : (l.set i a).length = l.length := by simp
@[go_sem] theorem Va (l : List α) : l.drop 0 = l := (rfl)
@[go_sem] theorem Vb (a : α) (l : List α) (n : Nat) : (a :: l).drop (n + 1) = l.drop n := (rfl)
@[go_sem] theorem YI (n : Nat) : ([] : List α).drop n = [] := by simp
@[go_sem] theorem Vc (l : List α) : l.take 0 = [] := (rfl)
@[go_sem] theorem Vd (a : α) (l : List α) (n : Nat) : (a :: l).take (n + 1) = a :: l.take n := (rfl)
@[go_sem] theorem YJ (n : Nat) : ([] : List α).take n = [] := by simp
@[go_sem] theorem Ve (a b : α) : (bif true then a else b) = a := (rfl)
@[go_sem] theorem S8 (a b : α) : (bif false then a else b) = b := (rfl)
@[go_sem] theorem YK (n : Nat) : n + 0 = n := (rfl)
@[go_sem] theorem YL (n : Nat) : 0 + n = n := by simp
@[go_sem] theorem YM (a b : α) : (some a = some b) = (a = b) := by simp
@[go_sem] theorem aeK (a : α) : (some a).isSome = true := (rfl)
end
attribute [go_sem] decide_true decide_false if_true if_false aLt Bool.true_eq_false decide_eq_true_eq decide_eq_false_iff_not aLr Bool.or_eq_true Bool.not_eq_true' Bool.not_eq_true Bool.not_eq_false
 Bool.and_true Bool.true_and Bool.and_false Bool.false_and Bool.or_true Bool.true_or Bool.or_false Bool.false_or and_true true_and and_self not_true_eq_false not_false_eq_true beq_iff_eq bne_iff_ne ne_eq
@[go_sem] theorem YN : (!true) = false := (rfl)
@[go_sem] theorem Vf : (!false) = true := (rfl)
@[go_sem] theorem ak8 (vs L : List D) (j : Nat) : X.get vs L (.v j) = vs[j]? := (rfl)
@[go_sem] theorem ak9 (vs L : List D) (k : Nat) : X.get vs L (.l k) = L[k]? := (rfl)
@[go_sem] theorem ala (vs L : List D) (d : D) : X.get vs L (.c d) = some d := (rfl)
@[go_sem] theorem alb (vs L : List D) (n : Int) : X.get vs L (.i n) = some (I n) := (rfl)
@[go_sem] theorem alc (vs L : List D) (x : Bool) : X.get vs L (.b x) = some (B x) := (rfl)
@[go_sem] theorem ahd (vs : List D) (x : D) : wr vs none x = vs := (rfl)
@[go_sem] theorem ahe (vs : List D) (s : Nat) (x : D) : wr vs (some s) x = vs.set s x := (rfl)
@[go_sem] theorem YO (args : List D) : vT args [] = [] := (rfl)
@[go_sem] theorem Vg (args : List D) (s : Nat) (r : List Nat) : vT args (s :: r) = args.getD s .und :: vT args r := (rfl)
def ahf(H:aq)(d:D):Option (D×aq):=some (d,H)
@[go_sem] theorem ahg (H : aq) (d : D) : ahf H d = some (d, H) := (rfl)
def m7{α:Type}(a:α)(l:Option (List α)):Option (List α):=l.map (a:: ·)
@[go_sem] theorem YP {α : Type} (a : α) (l : List α) : m7 a (some l) = some (a :: l) := (rfl)
@[go_sem] theorem YQ {α : Type} (a : α) : m7 a none = none := (rfl)
@[go_sem] theorem aeL {α β : Type} (f : α → Option β) : cK f [] = some [] := (rfl)
def ajR{α β:Type}(f:α→Option β)(r:List α)(y:β):Option (List β):=m7 y (cK f r)
@[go_sem] theorem Vh {α β : Type} (f : α → Option β) (r : List α) (y : β) : ajR f r y = m7 y (cK f r) := (rfl)
@[go_sem] theorem GM {α β : Type} (f : α → Option β) (x : α) (r : List α) : cK f (x :: r) = (f x).bind (ajR f r) := (rfl)
section
variable (call : aX) (get : X → Option D) (H : aq)
@[go_sem] theorem ald (x : X) : evO call get H (.mv x) = (get x).bind (ahf H) := by simp only [evO]; cases get x <;> rfl
def aeM(c a b:Option D):Option (D×aq):=c.bind fun c=>a.bind fun a=>b.bind fun b=>(QF c a b).map fun d=>(d,H)
@[go_sem] theorem ale (c a b : X) : evO call get H (.pk c a b) = aeM H (get c) (get a) (get b) := (rfl)
@[go_sem] theorem abm (x p q : Bool) : aeM H (some (.t (.bool x))) (some (.t (.bool p))) (some (.t (.bool q))) = some (.t (.bool (bif x then p else q)), H) := by cases x <;> rfl
@[go_sem] theorem abn (a b : D) : aeM H (some (.t (.bool true))) (some a) (some b) = some (a, H) := (rfl)
@[go_sem] theorem YR (a b : D) : aeM H (some (.t (.bool false))) (some a) (some b) = some (b, H) := (rfl)
@[go_sem] theorem aeN (x p : Bool) : (bif x then p else false) = (x && p) := by cases x <;> rfl
@[go_sem] theorem ahh (x q : Bool) : (bif x then true else q) = (x || q) := by cases x <;> rfl
def kO(f:BinOp)(x y:Option D):Option (D×aq):=x.bind fun a=>y.bind fun b=>(DM f a b).map fun d=>(d,H)
@[go_sem] theorem ajS (f : BinOp) (x y : X) : evO call get H (.bin f x y) = kO H f (get x) (get y) := (rfl)
section
variable (k j : IntKind) (a b : Int)
@[go_sem] theorem abo : kO H .add (some (.t (.int k a))) (some (.t (.int k b))) = some (.t (.int k (k.wrap (a + b))), H) := by simp [kO, DM, Iz]
@[go_sem] theorem abp : kO H .sub (some (.t (.int k a))) (some (.t (.int k b))) = some (.t (.int k (k.wrap (a - b))), H) := by simp [kO, DM, Iz]
@[go_sem] theorem abq : kO H .mul (some (.t (.int k a))) (some (.t (.int k b))) = some (.t (.int k (k.wrap (a * b))), H) := by simp [kO, DM, Iz]
@[go_sem] theorem abr : kO H .quo (some (.t (.int k a))) (some (.t (.int k b))) = if b = 0 then none else some (.t (.int k (k.wrap (a.tdiv b))), H) := by simp only [kO, DM, Iz]; by_cases h : b = 0 <;> simp [h]
@[go_sem] theorem abt : kO H .rem (some (.t (.int k a))) (some (.t (.int k b))) = if b = 0 then none else some (.t (.int k (a.tmod b)), H) := by simp only [kO, DM, Iz]; by_cases h : b = 0 <;> simp [h]
@[go_sem] theorem abu : kO H .eql (some (.t (.int k a))) (some (.t (.int k b))) = some (.t (.bool (decide (a = b))), H) := by simp [kO, DM, Iz, abk]
@[go_sem] theorem abv : kO H .neq (some (.t (.int k a))) (some (.t (.int k b))) = some (.t (.bool (decide (¬ a = b))), H) := by simp [kO, DM, Iz, bne, abk]
@[go_sem] theorem abw : kO H .lss (some (.t (.int k a))) (some (.t (.int k b))) = some (.t (.bool (decide (a < b))), H) := by simp [kO, DM, Iz]
@[go_sem] theorem abx : kO H .leq (some (.t (.int k a))) (some (.t (.int k b))) = some (.t (.bool (decide (a ≤ b))), H) := by simp [kO, DM, Iz]
@[go_sem] theorem aby : kO H .gtr (some (.t (.int k a))) (some (.t (.int k b))) = some (.t (.bool (decide (b < a))), H) := by simp [kO, DM, Iz]
@[go_sem] theorem abz : kO H .geq (some (.t (.int k a))) (some (.t (.int k b))) = some (.t (.bool (decide (b ≤ a))), H) := by simp [kO, DM, Iz]
@[go_sem] theorem abA (h : 0 ≤ b) : kO H .shl (some (.t (.int k a))) (some (.t (.int j b))) = some (.t (.int k (k.wrap (a * 2 ^ min b.toNat k.bits))), H) := by simp [kO, DM, DL, Int.not_lt.2 h]
@[go_sem] theorem abB (h : 0 ≤ b) : kO H .shr (some (.t (.int k a))) (some (.t (.int j b))) = some (.t (.int k (a.fdiv (2 ^ min b.toNat k.bits))), H) := by simp [kO, DM, DL, Int.not_lt.2 h]
@[go_sem] theorem abC : kO H .and (some (.t (.int k a))) (some (.t (.int k b))) = some (.t (.int k (k.wrap (BitVec.ofInt k.bits a &&& BitVec.ofInt k.bits b).toNat)), H) := by simp [kO, DM, Iz]
@[go_sem] theorem aeO : kO H .or (some (.t (.int k a))) (some (.t (.int k b))) = some (.t (.int k (k.wrap (BitVec.ofInt k.bits a ||| BitVec.ofInt k.bits b).toNat)), H) := by simp [kO, DM, Iz]
@[go_sem] theorem abD : kO H .xor (some (.t (.int k a))) (some (.t (.int k b))) = some (.t (.int k (k.wrap (BitVec.ofInt k.bits a ^^^ BitVec.ofInt k.bits b).toNat)), H) := by simp [kO, DM, Iz]
def ahi(f:UnOp)(a:D):Option (D×aq):=(unD f a).map fun d=>(d,H)
@[go_sem] theorem alf (f : UnOp) (x : X) : evO call get H (.un f x) = (get x).bind (ahi H f) := (rfl)
@[go_sem] theorem aeP (x : Bool) : ahi H .not (.t (.bool x)) = some (.t (.bool (!x)), H) := (rfl)
@[go_sem] theorem aeQ : ahi H .neg (.t (.int k a)) = some (.t (.int k (k.wrap (0 - a))), H) := (rfl)
def ajT(k:IntKind)(a:D):Option (D×aq):=(Un k a).map fun d=>(d,H)
@[go_sem] theorem alg (x : X) : evO call get H (.cv k x) = (get x).bind (ajT H k) := (rfl)
@[go_sem] theorem aeR : ajT H k (.t (.int j a)) = some (.t (.int k (k.wrap a)), H) := (rfl)
end
def r9(q:EqK)(neg:Bool)(x y:Option D):Option (D×aq):=x.bind fun a=>y.bind fun b=>(SS q neg a b).map fun d=>(d,H)
@[go_sem] theorem ajU (q : EqK) (neg : Bool) (x y : X) : evO call get H (.eqk q neg x y) = r9 H q neg (get x) (get y) := (rfl)
@[go_sem] theorem YS (x y : Bool) : r9 H .bool false (some (.t (.bool x))) (some (.t (.bool y))) = some (.t (.bool (x == y)), H) := (rfl)
@[go_sem] theorem Vi (x y : Bool) : r9 H .bool true (some (.t (.bool x))) (some (.t (.bool y))) = some (.t (.bool (!(x == y))), H) := (rfl)
def S9:List T→List T→Bool
 | .int _ a::xs,.int _ b::ys=>decide (a=b)&&S9 xs ys
 | _,_=>true
def LP:Nat→List T→List T→Bool
 | 0,[],[]=>true
 | n+1,.int j _::xs,.int k _::ys=>decide (j=k)&&LP n xs ys
 | _,_,_=>false
@[go_sem] theorem abE (k j : IntKind) (a b : Int) (xs ys : List T) : S9 (.int k a :: xs) (.int j b :: ys) = (decide (a = b) && S9 xs ys) := (rfl)
@[go_sem] theorem aeS : S9 [] [] = true := (rfl)
@[go_sem] theorem aeT : LP 0 [] [] = true := (rfl)
@[go_sem] theorem abF (n : Nat) (k : IntKind) (a b : Int) (xs ys : List T) : LP (n + 1) (.int k a :: xs) (.int k b :: ys) = LP n xs ys := by simp [LP]
theorem B7:∀ {n:Nat} {xs ys:List T},LP n xs ys=true→xs.length=n∧ow xs ys=some (S9 xs ys)
 | 0,[],[],_=>⟨rfl,rfl⟩
 | 0,[],_::_,h=>by simp[LP]at h
 | 0,_::_,_,h=>by simp[LP]at h
 | n+1,[],_,h=>by simp[LP]at h
 | n+1,x::xs,[],h=>by cases x<;>simp[LP]at h
 | n+1,x::xs,y::ys,h=>by
   cases x<;>cases y<;>simp only[LP,aLr,decide_eq_true_eq,aLt]at h
   obtain⟨rfl,h⟩:=h
   obtain⟨h1,h2⟩:=B7 h
   exact⟨by simp[h1],by simp[ow,h2,S9,abk]⟩
@[go_sem] theorem YT (n : Nat) (xs ys : List T) (h : LP n xs ys = true) : r9 H (.ints n) false (some (.t (.agg xs))) (some (.t (.agg ys))) = some (.t (.bool (S9 xs ys)), H) := by
 obtain⟨h1,h2⟩:=B7 h;simp[r9,SS,eqD,h1,h2]
@[go_sem] theorem Vj (n : Nat) (xs ys : List T) (h : LP n xs ys = true) : r9 H (.ints n) true (some (.t (.agg xs))) (some (.t (.agg ys))) = some (.t (.bool (!S9 xs ys)), H) := by
 obtain⟨h1,h2⟩:=B7 h;simp[r9,SS,eqD,h1,h2]
@[go_sem] theorem abG (id ep n : Nat) (h : 0 < n) : r9 H .sl false (some (.ref id ep n)) (some .nil) = some (.t (.bool false), H) := by
 cases n with
 | zero=>omega
 | succ n=>rfl
@[go_sem] theorem abH : r9 H .sl false (some .nil) (some .nil) = some (.t (.bool true), H) := (rfl)
@[go_sem] theorem abI : r9 H .sl false (some (.t (.sl []))) (some .nil) = some (.ub, H) := (rfl)
@[go_sem] theorem YU : r9 H .sl true (some (.t (.sl []))) (some .nil) = some (.ub, H) := (rfl)
@[go_sem] theorem YV : r9 H .sl true (some .nil) (some .nil) = some (.t (.bool false), H) := (rfl)
theorem p5(es:List T)(h:es≠[]):r9 H .sl false (some (.t (.sl es))) (some .nil)=some (.t (.bool false),H):=by cases es<;>first | exact(h rfl).elim | rfl
def aeU(a:D):Option (D×aq):=(aem a).map fun d=>(d,H)
@[go_sem] theorem alh (x : X) : evO call get H (.nc x) = (get x).bind (aeU H) := (rfl)
@[go_sem] theorem ahj (id off : Nat) : aeU H (.bp id off) = some (.bp id off, H) := (rfl)
@[go_sem] theorem ahk (id ep n i off : Nat) : aeU H (.ap id ep n i off) = some (.ap id ep n i off, H) := (rfl)
@[go_sem] theorem ahl (cs : List T) : aeU H (.ep cs) = some (.ep cs, H) := (rfl)
def YW(off:Nat)(a:D):Option (D×aq):=(Lw a off).map fun d=>(d,H)
@[go_sem] theorem ali (x : X) (off : Nat) : evO call get H (.fa x off) = (get x).bind (YW H off) := (rfl)
@[go_sem] theorem ahm (id o off : Nat) : YW H off (.bp id o) = some (.bp id (o + off), H) := (rfl)
@[go_sem] theorem ahn (id ep n i o off : Nat) : YW H off (.ap id ep n i o) = some (.ap id ep n i (o + off), H) := (rfl)
@[go_sem] theorem aho (cs : List T) (off : Nat) : YW H off (.ep cs) = some (.ep (cs.drop off), H) := (rfl)
@[go_sem] theorem alj (cs : List D) : cut cs 0 0 = some [] := by simp [cut]
@[go_sem] theorem alk (c : D) (cs : List D) : cut (c :: cs) 0 1 = some [c] := by simp [cut]
@[go_sem] theorem alm (c : D) (cs : List D) (n : Nat) : cut (c :: cs) 0 (n + 1) = m7 c (cut cs 0 n) := by
 simp only[cut,m7];by_cases h:n≤cs.length<;>simp[h]
@[go_sem] theorem aln (c : D) (cs : List D) (off n : Nat) : cut (c :: cs) (off + 1) n = cut cs off n := by
 simp only[cut,List.length_cons,List.drop_succ_cons]
 by_cases h:off+n≤cs.length
 · rw[if_pos h,if_pos (by omega)]
 · rw[if_neg h,if_neg (by omega)]
@[go_sem] theorem abJ (c : D) : fZ false [c] = some c := (rfl)
@[go_sem] theorem abK (cs : List D) : fZ true cs = some (vK cs) := (rfl)
def mkA(cs:List D):Option (List T)→D
 | some ts=> .t (.agg ts)
 | none=> .agg cs
@[go_sem] theorem aeV (cs : List D) (ts : List T) : mkA cs (some ts) = .t (.agg ts) := (rfl)
@[go_sem] theorem aeW (cs : List D) : mkA cs none = .agg cs := (rfl)
@[go_sem] theorem aeX (cs : List D) : vK cs = mkA cs (rT cs) := by unfold vK; cases rT cs <;> rfl
@[go_sem] theorem aeY : rT [] = some [] := (rfl)
@[go_sem] theorem ajV (x : T) (r : List D) : rT (.t x :: r) = m7 x (rT r) := (rfl)
@[go_sem] theorem ajW (r : List D) : rT (.nil :: r) = none := (rfl)
@[go_sem] theorem aeZ (a b c : Nat) (r : List D) : rT (.ref a b c :: r) = none := (rfl)
@[go_sem] theorem ae0 (a b c d e : Nat) (r : List D) : rT (.sub a b c d e :: r) = none := (rfl)
@[go_sem] theorem Q3 (l : List T) : rT (l.map .t) = some l := by induction l with | nil => rfl | cons a l ih => simp [rT, ih]
def abL(off n:Nat)(agg:Bool)(a:D):Option (D×aq):=(xD a off n agg).map fun d=>(d,H)
@[go_sem] theorem alo (x : X) (off n : Nat) (agg : Bool) : evO call get H (.fl x off n agg) = (get x).bind (abL H off n agg) := (rfl)
def ofC(agg:Bool)(cs:Option (List D)):Option (D×aq):=(cs.bind (fZ agg)).bind (ahf H)
@[go_sem] theorem alp (c : D) : ofC H false (some [c]) = some (c, H) := (rfl)
@[go_sem] theorem alq (cs : List D) : ofC H true (some cs) = some (vK cs, H) := (rfl)
@[go_sem] theorem ajX (cs : List T) (off n : Nat) (agg : Bool) : abL H off n agg (.t (.agg cs)) = ofC H agg (cut (cs.map .t) off n) := by
 simp only[abL,xD,D.isAgg,if_true,D.cells,T.cells,ofC];cases (cut (cs.map .t) off n).bind (fZ agg)<;>rfl
@[go_sem] theorem ae1 (cs : List D) (off n : Nat) (agg : Bool) : abL H off n agg (.agg cs) = ofC H agg (cut cs off n) := by
 simp only[abL,xD,D.isAgg,if_true,D.cells,ofC];cases (cut cs off n).bind (fZ agg)<;>rfl
@[go_sem] theorem ahp (n : Nat) : idx (n : Int) = some n := by simp [idx]
@[go_sem] theorem alr : idx 0 = some 0 := (rfl)
theorem Vk{i:Int}(h:0≤i):idx i=some i.toNat:=by simp[idx,h]
def Vl(sz:Nat)(x i:Option D):Option (D×aq):=x.bind fun a=>(i.bind intOf).bind fun n=>(Ez H a n sz).map fun d=>(d,H)
@[go_sem] theorem als (x i : X) (sz : Nat) : evO call get H (.ia x i sz) = Vl H sz (get x) (get i) := (rfl)
def Q4(sz:Nat)(e:T):Option (D×aq):=if e.cells.length=sz then some (.ep e.cells,H)else none
def ahq(sz:Nat)(es:List T)(j:Nat):Option (D×aq):=es[j]?.bind (Q4 H sz)
@[go_sem] theorem ahr (sz : Nat) (es : List T) (j : Nat) : ahq H sz es j = es[j]?.bind (Q4 H sz) := (rfl)
@[go_sem] theorem ahs (k : IntKind) (es : List T) (n : Int) (sz : Nat) : Vl H sz (some (.t (.sl es))) (some (.t (.int k n))) = (idx n).bind (ahq H sz es) := by
 simp only[Vl,aLq,intOf,Ez]
 cases idx n with
 | none=>rfl
 | some j=>
   simp only[aLq,ahq]
   cases es[j]? with
   | none=>rfl
   | some e=>simp only[aLq,Q4];split<;>rfl
@[go_sem] theorem ae2 (k : IntKind) (n : Int) : Q4 H 1 (.int k n) = some (.ep [.int k n], H) := (rfl)
@[go_sem] theorem abM (b : Bool) : Q4 H 1 (.bool b) = some (.ep [.bool b], H) := (rfl)
@[go_sem] theorem aht (es : List T) : Q4 H 1 (.sl es) = some (.ep [.sl es], H) := (rfl)
def qq{α:Type}:Nat→List α→Bool
 | 0,[]=>true
 | n+1,_::r=>qq n r
 | _,_=>false
@[go_sem] theorem ahu {α : Type} : qq 0 ([] : List α) = true := (rfl)
@[go_sem] theorem ahv {α : Type} (n : Nat) (a : α) (l : List α) : qq (n + 1) (a :: l) = qq n l := (rfl)
theorem iK{α:Type}:∀ {n:Nat} {l:List α},qq n l=true↔l.length=n
 | 0,[]=>by simp[qq]
 | 0,_::_=>by simp[qq]
 | n+1,[]=>by simp[qq]
 | n+1,_::r=>by simp only[qq,List.length_cons,Nat.add_right_cancel_iff];exact iK
@[go_sem] theorem ae3 (cs : List T) (sz : Nat) : Q4 H sz (.agg cs) = if qq sz cs = true then some (.ep cs, H) else none := by
 by_cases h:cs.length=sz
 · rw[Q4,if_pos (show(T.agg cs).cells.length=sz from h),if_pos (iK.2 h)];rfl
 · rw[Q4,if_neg (show ¬(T.agg cs).cells.length=sz from h),if_neg fun e=>h (iK.1 e)]
def Vm(sz id ep n j:Nat):Option Obj→Option (D×aq)
 | some (.arr sz' _ ep' es)=>if ep=ep'∧n=es.length then(if j<n∧sz'=sz then some (.ap id ep n j 0,H)else none)else none
 | _=>none
@[go_sem] theorem ae4 (k : IntKind) (id ep n : Nat) (i : Int) (sz : Nat) : Vl H sz (some (.ref id ep n)) (some (.t (.int k i))) = (idx i).bind fun j => Vm H sz id ep n j H[id]? := by
 simp only[Vl,aLq,intOf,Ez]
 cases idx i with
 | none=>rfl
 | some j=>
   simp only[aLq,iI]
   generalize H[id]?=o
   rcases o with _ | (_ | ⟨sz',pin,ep',es⟩)
   · rfl
   · rfl
   · simp only[Vm]
     by_cases h:ep=ep'∧n=es.length
     · rw[if_pos h,if_pos h,aLq];split<;>rfl
     · rw[if_neg h,if_neg h];rfl
@[go_sem] theorem abN (sz id ep n j sz' : Nat) (pin : Bool) (ep' : Nat) (es : List D) : Vm H sz id ep n j (some (.arr sz' pin ep' es)) =
 if ep=ep'∧n=es.length then(if j<n∧sz'=sz then some (.ap id ep n j 0,H)else none)else none:=(rfl)
def Vn(sz id ep n lo hi j:Nat):Option Obj→Option (D×aq)
 | some (.arr sz' _ ep' es)=>if ep=ep'∧n=es.length then(if lo+j<hi∧hi≤n∧sz'=sz then some (.ap id ep n (lo+j) 0,H)else none)else none
 | _=>none
@[go_sem] theorem ae5 (k : IntKind) (id ep n lo hi : Nat) (i : Int) (sz : Nat) : Vl H sz (some (.sub id ep n lo hi)) (some (.t (.int k i))) = (idx i).bind fun j => Vn H sz id ep n lo hi j H[id]? := by
 simp only[Vl,aLq,intOf,Ez]
 cases idx i with
 | none=>rfl
 | some j=>
   simp only[aLq,iI]
   generalize H[id]?=o
   rcases o with _ | (_ | ⟨sz',pin,ep',es⟩)
   · rfl
   · rfl
   · simp only[Vn]
     by_cases h:ep=ep'∧n=es.length
     · rw[if_pos h,if_pos h,aLq];split<;>rfl
     · rw[if_neg h,if_neg h];rfl
@[go_sem] theorem abO (sz id ep n lo hi j sz' : Nat) (pin : Bool) (ep' : Nat) (es : List D) : Vn H sz id ep n lo hi j (some (.arr sz' pin ep' es)) =
 if ep=ep'∧n=es.length then(if lo+j<hi∧hi≤n∧sz'=sz then some (.ap id ep n (lo+j) 0,H)else none)else none:=(rfl)
def ahw(len sz:Nat)(agg:Bool)(x i:Option D):Option (D×aq):=x.bind fun a=>(i.bind intOf).bind fun n=>(idx n).bind fun j=>(DN a j len sz agg).map fun d=>(d,H)
def abP(len sz:Nat)(agg:Bool)(a:D)(j:Nat):Option (D×aq):=(DN a j len sz agg).map fun d=>(d,H)
@[go_sem] theorem alu (x i : X) (len sz : Nat) (agg : Bool) : evO call get H (.ix x i len sz agg) = ahw H len sz agg (get x) (get i) := (rfl)
@[go_sem] theorem ahx (len sz : Nat) (agg : Bool) (a : D) (k : IntKind) (n : Int) : ahw H len sz agg (some a) (some (.t (.int k n))) = (idx n).bind (abP H len sz agg a) := by
 simp only[ahw,aLq,intOf];cases idx n<;>rfl
@[go_sem] theorem ae6 (len j : Nat) (ts : List T) (h : j < len) (hs : (ts.all fun t => t.scalar) = true) : abP H len 1 false (.t (.agg ts)) j = (ts[j]?).map fun t => (.t t, H) := by
 have h0:len≠0:=by omega
 unfold abP DN
 rw[if_neg h0,if_pos h]
 unfold xD cut
 simp only[D.isAgg,D.cells,T.cells,if_true,Nat.mul_one,List.length_map]
 by_cases hj:j<ts.length
 · rw[if_pos (by omega),aLc hj]
   have e:((ts.map D.t).drop j).take 1=[D.t ts[j]]:=by
    rw[List.drop_eq_getElem_cons (by simpa using hj)];simp
   rw[e];rfl
 · rw[if_neg (by omega),aLm (by omega)];rfl
def Vo(len sz:Nat)(x i:Option D):Option (D×aq):=x.bind fun a=>(i.bind intOf).bind fun n=>(idx n).bind fun j=>if j<len then(Lw a (j*sz)).map fun d=>(d,H)else none
@[go_sem] theorem ajY (x i : X) (len sz : Nat) : evO call get H (.iaa x i len sz) = Vo H len sz (get x) (get i) := (rfl)
def ajZ(len sz:Nat)(a:D)(j:Nat):Option (D×aq):=if j<len then YW H (j*sz) a else none
@[go_sem] theorem ahy (len sz : Nat) (a : D) (j : Nat) : ajZ H len sz a j = if j < len then YW H (j * sz) a else none := (rfl)
@[go_sem] theorem ae7 (len sz : Nat) (a : D) (k : IntKind) (n : Int) : Vo H len sz (some a) (some (.t (.int k n))) = (idx n).bind (ajZ H len sz a) := by
 simp only[Vo,aLq,intOf];cases idx n<;>rfl
def P6(n:Nat)(agg:Bool)(a:D):Option (D×aq):=(y0 H a n agg).map fun d=>(d,H)
@[go_sem] theorem alv (x : X) (n : Nat) (agg : Bool) : evO call get H (.ld x n agg) = (get x).bind (P6 H n agg) := (rfl)
def Q5(off n:Nat)(agg:Bool):Option Obj→Option (D×aq)
 | some (.box cs)=>ofC H agg (cut cs off n)
 | _=>none
@[go_sem] theorem ae8 (off n : Nat) (agg : Bool) (cs : List D) : Q5 H off n agg (some (.box cs)) = ofC H agg (cut cs off n) := (rfl)
@[go_sem] theorem ahz (id off n : Nat) (agg : Bool) : P6 H n agg (.bp id off) = Q5 H off n agg H[id]? := by
 simp only[P6,y0]
 generalize H[id]?=o
 rcases o with _ | (cs | _)
 · rfl
 · simp only[Q5,ofC];cases (cut cs off n).bind (fZ agg)<;>rfl
 · rfl
@[go_sem] theorem ahA (cs : List T) (n : Nat) (agg : Bool) : P6 H n agg (.ep cs) = ofC H agg (cut (cs.map .t) 0 n) := by
 simp only[P6,y0,ofC];cases (cut _ 0 n).bind (fZ agg)<;>rfl
def ae9(off n:Nat)(agg:Bool)(e:D):Option (D×aq):=ofC H agg (cut e.cells off n)
@[go_sem] theorem ahB (off n : Nat) (agg : Bool) (e : D) : ae9 H off n agg e = ofC H agg (cut e.cells off n) := (rfl)
def Vp(ep m i off n:Nat)(agg:Bool):Option Obj→Option (D×aq)
 | some (.arr _ _ ep' es)=>if ep=ep'∧m=es.length then es[i]?.bind (ae9 H off n agg)else none
 | _=>none
@[go_sem] theorem afa (ep m i off n : Nat) (agg : Bool) (sz : Nat) (pin : Bool) (ep' : Nat) (es : List D) :
 Vp H ep m i off n agg (some (.arr sz pin ep' es))=if ep=ep'∧m=es.length then es[i]?.bind (ae9 H off n agg)else none:=(rfl)
@[go_sem] theorem ahC (id ep m i off n : Nat) (agg : Bool) : P6 H n agg (.ap id ep m i off) = Vp H ep m i off n agg H[id]? := by
 simp only[P6,y0,iI]
 generalize H[id]?=o
 rcases o with _ | (_ | ⟨sz',pin,ep',es⟩)
 · rfl
 · rfl
 · simp only[Vp]
   by_cases h:ep=ep'∧m=es.length
   · rw[if_pos h,if_pos h,aLq]
     cases es[i]? with
     | none=>rfl
     | some e=>simp only[aLq,ae9,ofC];cases (cut e.cells off n).bind (fZ agg)<;>rfl
   · rw[if_neg h,if_neg h];rfl
@[go_sem] theorem YX (cs : List D) : (D.agg cs).cells = cs := (rfl)
@[go_sem] theorem afb (x : T) : (D.t x).cells = x.cells.map .t := (rfl)
@[go_sem] theorem YY : D.nil.cells = [.nil] := (rfl)
@[go_sem] theorem abQ (a b : Nat) : (D.bp a b).cells = [.bp a b] := (rfl)
@[go_sem] theorem YZ (a b c : Nat) : (D.ref a b c).cells = [.ref a b c] := (rfl)
@[go_sem] theorem Y0 (a b c d e : Nat) : (D.sub a b c d e).cells = [.sub a b c d e] := (rfl)
@[go_sem] theorem abR (f : Nat) (cs : List D) : (D.fn f cs).cells = [.fn f cs] := (rfl)
@[go_sem] theorem Vq : D.nilp.cells = [.nilp] := (rfl)
@[go_sem] theorem Y1 (cs : List T) : (T.agg cs).cells = cs := (rfl)
@[go_sem] theorem Y2 (k : IntKind) (n : Int) : (T.int k n).cells = [.int k n] := (rfl)
@[go_sem] theorem Vr (b : Bool) : (T.bool b).cells = [.bool b] := (rfl)
@[go_sem] theorem Y3 (b : ByteArray) : (T.str b).cells = [.str b] := (rfl)
@[go_sem] theorem abS (es : List T) : (T.sl es).cells = [.sl es] := (rfl)
def fits(n:Nat)(v:D):Bool:=decide (v.cells.length=n)&&v.km
section
variable (n : Nat)
@[go_sem] theorem fits_int (k : IntKind) (a : Int) : fits 1 (.t (.int k a)) = true := (rfl)
@[go_sem] theorem fits_bool (b : Bool) : fits 1 (.t (.bool b)) = true := (rfl)
@[go_sem] theorem ahD (es : List T) : fits 1 (.t (.sl es)) = true := (rfl)
@[go_sem] theorem afc : fits 1 .nil = true := (rfl)
@[go_sem] theorem afd (a b c : Nat) : fits 1 (.ref a b c) = true := (rfl)
@[go_sem] theorem afe (a b c d e : Nat) : fits 1 (.sub a b c d e) = true := (rfl)
@[go_sem] theorem ahE (a b : Nat) : fits 1 (.bp a b) = true := (rfl)
@[go_sem] theorem ahF (f : Nat) (cs : List D) : fits 1 (.fn f cs) = true := (rfl)
@[go_sem] theorem aff (cs : List D) : fits n (.agg cs) = qq n cs := by rw [Bool.eq_iff_iff, iK]; show (decide (cs.length = n) && true) = true ↔ _; simp
@[go_sem] theorem abT (cs : List T) : fits n (.t (.agg cs)) = qq n cs := by rw [Bool.eq_iff_iff, iK]; simp [fits, D.cells, T.cells, D.km]
end
@[go_sem] theorem Vs {α : Type} (cs : List α) : bB cs 0 [] = some cs := by simp [bB]
@[go_sem] theorem Vt {α : Type} (c x : α) (cs xs : List α) : bB (c :: cs) 0 (x :: xs) = m7 x (bB cs 0 xs) := by
 simp only[bB,m7];by_cases h:xs.length≤cs.length<;>simp[h]
@[go_sem] theorem Vu {α : Type} (c : α) (cs : List α) (off : Nat) (xs : List α) : bB (c :: cs) (off + 1) xs = m7 c (bB cs off xs) := by
 simp only[bB,m7,List.length_cons]
 by_cases h:off+xs.length≤cs.length
 · rw[if_pos h,if_pos (by omega)];simp[show off+1+xs.length=(off+xs.length)+1 by omega]
 · rw[if_neg h,if_neg (by omega)];rfl
def Vv(n:Nat)(live:List (Nat×Nat))(a x:Option D):Option (D×aq):=a.bind fun p=>x.bind fun d=>(Aa H p d n).bind fun H'=>(rW H' p live).map fun H''=>(.tup [],H'')
@[go_sem] theorem alw (a x : X) (n : Nat) (live : List (Nat × Nat)) : evO call get H (.st a x n live) = Vv H n live (get a) (get x) := (rfl)
def D4(H:aq)(id:Nat)(live:List (Nat×Nat)):Option (D×aq):=(rW H (.bp id 0) live).map fun H'=>(.tup [],H')
def KM(id:Nat)(live:List (Nat×Nat))(cs:List D):Option (D×aq):=D4 (H.set id (.box cs)) id live
@[go_sem] theorem abU (id : Nat) (live : List (Nat × Nat)) (cs : List D) : KM H id live cs = D4 (H.set id (.box cs)) id live := (rfl)
@[go_sem] theorem Y4 (H : aq) (id : Nat) : D4 H id [] = some (.tup [], H) := (rfl)
def Vw(id off:Nat)(live:List (Nat×Nat))(xs:List D):Option Obj→Option (D×aq)
 | some (.box cs)=>(bB cs off xs).bind (KM H id live)
 | _=>none
@[go_sem] theorem afg (id off : Nat) (live : List (Nat × Nat)) (xs cs : List D) : Vw H id off live xs (some (.box cs)) = (bB cs off xs).bind (KM H id live) := (rfl)
@[go_sem] theorem ahG (n id off : Nat) (live : List (Nat × Nat)) (v : D) : Vv H n live (some (.bp id off)) (some v) = if fits n v = true then Vw H id off live v.cells H[id]? else none := by
 by_cases h:fits n v=true
 case neg=>
  rw[if_neg h]
  simp only[fits,aLr,decide_eq_true_eq]at h
  simp only[Vv,aLq,Aa,if_neg h];rfl
 rw[if_pos h]
 simp only[fits,aLr,decide_eq_true_eq]at h
 simp only[Vv,aLq,Aa,h.1,h.2,and_self,if_true]
 generalize H[id]?=o
 rcases o with _ | (cs | _)
 · rfl
 · simp only[Vw]
   cases bB cs off v.cells with
   | none=>rfl
   | some cs'=>simp only[aLw,aLq,KM,D4,rW]
 · rfl
def GN(id sz ep i:Nat)(es:List D)(agg:Bool)(cs:List D):Option (D×aq):=(fZ agg cs).bind fun e=>if e.km then some (.tup [],H.set id (.arr sz false ep (es.set i e)))else none
def afh(id sz ep i off:Nat)(es xs:List D)(e:D):Option (D×aq):=(bB e.cells off xs).bind (GN H id sz ep i es e.isAgg)
@[go_sem] theorem ahH (id sz ep i off : Nat) (es xs : List D) (e : D) : afh H id sz ep i off es xs e = (bB e.cells off xs).bind (GN H id sz ep i es e.isAgg) := (rfl)
@[go_sem] theorem abV (cs : List D) : (D.agg cs).isAgg = true := (rfl)
@[go_sem] theorem Y5 (cs : List T) : (D.t (.agg cs)).isAgg = true := (rfl)
@[go_sem] theorem abW (k : IntKind) (n : Int) : (D.t (.int k n)).isAgg = false := (rfl)
@[go_sem] theorem Y6 (b : Bool) : (D.t (.bool b)).isAgg = false := (rfl)
@[go_sem] theorem abX (b : ByteArray) : (D.t (.str b)).isAgg = false := (rfl)
@[go_sem] theorem afi (es : List T) : (D.t (.sl es)).isAgg = false := (rfl)
@[go_sem] theorem abY : D.nil.isAgg = false := (rfl)
@[go_sem] theorem abZ (a b c : Nat) : (D.ref a b c).isAgg = false := (rfl)
@[go_sem] theorem ab0 (a b c d e : Nat) : (D.sub a b c d e).isAgg = false := (rfl)
@[go_sem] theorem ahI (id sz ep i : Nat) (es : List D) (x : T) : GN H id sz ep i es false [.t x] = some (.tup [], H.set id (.arr sz false ep (es.set i (.t x)))) := (rfl)
@[go_sem] theorem ab1 (id sz ep i : Nat) (es : List D) : GN H id sz ep i es false [.nil] = some (.tup [], H.set id (.arr sz false ep (es.set i .nil))) := (rfl)
@[go_sem] theorem ab2 (id sz ep i a b c : Nat) (es : List D) : GN H id sz ep i es false [.ref a b c] = some (.tup [], H.set id (.arr sz false ep (es.set i (.ref a b c)))) := (rfl)
theorem Jg(cs:List D):(vK cs).km=true:=by unfold vK;cases rT cs<;>rfl
@[go_sem] theorem ahJ (id sz ep i : Nat) (es cs : List D) : GN H id sz ep i es true cs = some (.tup [], H.set id (.arr sz false ep (es.set i (vK cs)))) := by
 simp[GN,fZ,Jg]
def Vx(id ep m i off:Nat)(xs:List D):Option Obj→Option (D×aq)
 | some (.arr sz pin ep' es)=>if ep=ep'∧m=es.length then(if pin then none else es[i]?.bind (afh H id sz ep i off es xs))else none
 | _=>none
@[go_sem] theorem afj (id ep m i off : Nat) (xs : List D) (sz : Nat) (pin : Bool) (ep' : Nat) (es : List D) :
 Vx H id ep m i off xs (some (.arr sz pin ep' es))=if ep=ep'∧m=es.length then(if pin=true then none else es[i]?.bind (afh H id sz ep i off es xs))else none:=(rfl)
@[go_sem] theorem ahK (n id ep m i off : Nat) (v : D) : Vv H n [] (some (.ap id ep m i off)) (some v) = if fits n v = true then Vx H id ep m i off v.cells H[id]? else none := by
 by_cases h:fits n v=true
 case neg=>
  rw[if_neg h]
  simp only[fits,aLr,decide_eq_true_eq]at h
  simp only[Vv,aLq,Aa,if_neg h];rfl
 rw[if_pos h]
 simp only[fits,aLr,decide_eq_true_eq]at h
 simp only[Vv,aLq,Aa,h.1,h.2,and_self,if_true,iI]
 generalize H[id]?=o
 rcases o with _ | (_ | ⟨sz',pin,ep',es⟩)
 · rfl
 · rfl
 · simp only[Vx]
   by_cases h:ep=ep'∧m=es.length
   · rw[if_pos h,if_pos h,aLq]
     cases pin with
     | true=>rfl
     | false=>
       simp only[aLt,if_false]
       cases es[i]? with
       | none=>rfl
       | some e=>
         simp only[aLq,afh]
         cases bB e.cells off v.cells with
         | none=>rfl
         | some cs'=>
           simp only[aLq,GN]
           cases fZ e.isAgg cs' with
           | none=>rfl
           | some e'=>
             simp only[aLq]
             by_cases h3:e'.km=true
             · rw[if_pos h3,if_pos h3,h.1];rfl
             · rw[if_neg h3,if_neg h3];rfl
   · rw[if_neg h,if_neg h];rfl
def Vy(zero:List D)(ps:List (Nat×Nat×D)):Option (D×aq):=(xB zero ps).map fun cs=>(vK cs,H)
@[go_sem] theorem alx (zero : List D) (parts : List (Nat × Nat × X)) : evO call get H (.bd zero parts) = (oE get parts).bind (Vy H zero) := (rfl)
@[go_sem] theorem Ta : oE get [] = some [] := (rfl)
def ab3(off n:Nat)(r:List (Nat×Nat×X))(d:D):Option (List (Nat×Nat×D)):=m7 (off,n,d) (oE get r)
@[go_sem] theorem afk (off n : Nat) (r : List (Nat × Nat × X)) (d : D) : ab3 get off n r d = m7 (off, n, d) (oE get r) := (rfl)
@[go_sem] theorem Q6 (off n : Nat) (x : X) (r : List (Nat × Nat × X)) : oE get ((off, n, x) :: r) = (get x).bind (ab3 get off n r) := (rfl)
@[go_sem] theorem afl (zero : List D) : Vy H zero [] = some (vK zero, H) := (rfl)
def bdC(r:List (Nat×Nat×D))(z:List D):Option (D×aq):=Vy H z r
@[go_sem] theorem aj0 (r : List (Nat × Nat × D)) (z : List D) : bdC H r z = Vy H z r := (rfl)
@[go_sem] theorem ab4 (zero : List D) (off n : Nat) (x : D) (r : List (Nat × Nat × D)) : Vy H zero ((off, n, x) :: r) = if fits n x = true then (bB zero off x.cells).bind (bdC H r) else none := by
 by_cases h:fits n x=true
 case neg=>
  rw[if_neg h]
  have h2:(x.km&&x.cells.length==n)=false:=by rw[← Bool.not_eq_true,Bool.and_comm];simpa [fits]using h
  simp only[Vy,xB,h2];rfl
 rw[if_pos h]
 simp only[fits,aLr,decide_eq_true_eq]at h
 simp only[Vy,xB,h.1,h.2,beq_self_eq_true,Bool.and_self,if_true]
 cases bB zero off x.cells<;>rfl
def bV(n:Nat):List T→Bool
 | []=>true
 | x::r=>qq n x.cells&&bV n r
@[go_sem] theorem Tb (n : Nat) : bV n [] = true := (rfl)
@[go_sem] theorem xX (n : Nat) (x : T) (r : List T) : bV n (x :: r) = (qq n x.cells && bV n r) := (rfl)
def D5(sz:Nat)(ds:List D):Option (D×aq):=if ds.all (fun d=>d.cells.length==sz)then(cK (frz H depth) ds).map fun ts=>(.t (.sl ts),pins H (ds.flatMap (gz H depth)))else none
@[go_sem] theorem aly (xs : List X) (sz : Nat) : evO call get H (.bs xs sz) = (cK get xs).bind (D5 H sz) := (rfl)
theorem ab5(sz:Nat)(ds:List D)(ts:List T)(h:rT ds=some ts)(hc:bV sz ts=true):D5 H sz ds=some (.t (.sl ts),H):=by
 have key:∀(ds:List D) (ts:List T),rT ds=some ts→bV sz ts=true→ds.all (fun d=>d.cells.length==sz)=true∧cK (frz H depth) ds=some ts∧ds.flatMap (gz H depth)=[]:=by
  intro ds
  induction ds with
  | nil=>intro ts h hc;simp[rT]at h;subst h;simp[cK]
  | cons d ds ih=>
    intro ts h hc
    cases d with
    | t x=>
      simp only[rT,aLb]at h
      obtain⟨r,hr,rfl⟩:=h
      simp only[bV,aLr,iK]at hc
      obtain⟨h1,h2,h3⟩:=ih r hr hc.2
      refine⟨by rw[List.all_cons,h1,Bool.and_true];simp[D.cells,hc.1],by simp[cK,frz,h2],by rw[List.flatMap_cons,h3];simp[gz]⟩
    | _=>simp[rT]at h
 obtain⟨h1,h2,h3⟩:=key ds ts h hc
 simp[D5,h1,h2,h3,pins]
theorem ud(sz:Nat)(ts:List T):D5 H sz (ts.map D.t)=if bV sz ts=true then some (.t (.sl ts),H)else none:=by
 by_cases h:bV sz ts=true
 · rw[if_pos h];exact ab5 H sz _ ts (Q3 ts) h
 · rw[if_neg h]
   have:(ts.map D.t).all (fun d=>d.cells.length==sz)=false:=by
    rw[← Bool.not_eq_true];intro ha;apply h
    clear h
    induction ts with
    | nil=>rfl
    | cons a r ih=>
      simp only[List.map_cons,List.all_cons,aLr,beq_iff_eq]at ha
      simp only[bV,aLr,iK]
      exact⟨by simpa [D.cells]using ha.1,ih ha.2⟩
   simp only[D5,this];rfl
@[go_sem] theorem aj1 (sz : Nat) : D5 H sz [] = some (.t (.sl []), H) := (rfl)
@[go_sem] theorem aj2 (sz : Nat) (a : T) : D5 H sz [.t a] = if bV sz [a] = true then some (.t (.sl [a]), H) else none := ud H sz [a]
@[go_sem] theorem aj3 (sz : Nat) (a b : T) : D5 H sz [.t a, .t b] = if bV sz [a, b] = true then some (.t (.sl [a, b]), H) else none := ud H sz [a, b]
@[go_sem] theorem aj4 (sz : Nat) (a b c : T) : D5 H sz [.t a, .t b, .t c] = if bV sz [a, b, c] = true then some (.t (.sl [a, b, c]), H) else none := ud H sz [a, b, c]
@[go_sem] theorem aj5 (sz : Nat) (a b c d : T) : D5 H sz [.t a, .t b, .t c, .t d] = if bV sz [a, b, c, d] = true then some (.t (.sl [a, b, c, d]), H) else none := ud H sz [a, b, c, d]
@[go_sem] theorem aj6 (sz : Nat) (a b c d e : T) : D5 H sz [.t a, .t b, .t c, .t d, .t e] = if bV sz [a, b, c, d, e] = true then some (.t (.sl [a, b, c, d, e]), H) else none := ud H sz [a, b, c, d, e]
def ab6(a:D):Option (D×aq):=(ael a).map fun(n:Nat)=>(D.t (.int .i64 (n:Int)),H)
@[go_sem] theorem alz (x : X) : evO call get H (.ln x) = (get x).bind (ab6 H) := (rfl)
@[go_sem] theorem ahL (es : List T) : ab6 H (.t (.sl es)) = some (I es.length, H) := (rfl)
@[go_sem] theorem afm : ab6 H .nil = some (I 0, H) := (rfl)
@[go_sem] theorem afn (id ep n : Nat) : ab6 H (.ref id ep n) = some (I n, H) := (rfl)
@[go_sem] theorem afo (id ep n lo hi : Nat) : ab6 H (.sub id ep n lo hi) = some (I ((hi - lo : Nat) : Int), H) := (rfl)
def ab7(ds:List D):Option (D×aq):=(aaE ds).map fun d=>(d,H)
def ab8(ds:List D):Option (D×aq):=(aaF ds).map fun d=>(d,H)
@[go_sem] theorem alA (xs : List X) : evO call get H (.mn xs) = (cK get xs).bind (ab7 H) := (rfl)
@[go_sem] theorem alB (xs : List X) : evO call get H (.mx xs) = (cK get xs).bind (ab8 H) := (rfl)
@[go_sem] theorem aj7 (k : IntKind) (a b : Int) : ab7 H [.t (.int k a), .t (.int k b)] = some (.t (.int k (min a b)), H) := by
 simp only[ab7,aaE,C4,if_true,aLw];congr 4;omega
@[go_sem] theorem aj8 (k : IntKind) (a b : Int) : ab8 H [.t (.int k a), .t (.int k b)] = some (.t (.int k (max a b)), H) := by
 simp only[ab8,aaF,C4,if_true,aLw];congr 4;omega
@[go_sem] theorem aj9 (k : IntKind) (a b c : Int) : ab7 H [.t (.int k a), .t (.int k b), .t (.int k c)] = some (.t (.int k (min (min a b) c)), H) := by
 simp only[ab7,aaE,C4,if_true,aLw];congr 4;omega
@[go_sem] theorem aka (k : IntKind) (a b c : Int) : ab8 H [.t (.int k a), .t (.int k b), .t (.int k c)] = some (.t (.int k (max (max a b) c)), H) := by
 simp only[ab8,aaF,C4,if_true,aLw];congr 4;omega
def GO(sz:Nat)(x:Option D)(lo hi:Option (Option Int)):Option (D×aq):=x.bind fun a=>lo.bind fun l=>hi.bind fun h=>(pX H a l h sz).map fun d=>(d,H)
@[go_sem] theorem alC (x : X) (lo hi : Option X) (sz : Nat) : evO call get H (.sc x lo hi sz) = GO H sz (get x) (Lx get lo) (Lx get hi) := (rfl)
def ab9:D→Option (Option Int)
 | .t (.int _ n)=>some (some n)
 | _=>none
@[go_sem] theorem afp (k : IntKind) (n : Int) : ab9 (.t (.int k n)) = some (some n) := (rfl)
@[go_sem] theorem aca : Lx get none = some none := (rfl)
@[go_sem] theorem acb (x : X) : Lx get (some x) = (get x).bind ab9 := by
 simp only[Lx];cases get x with
 | none=>rfl
 | some d=>cases d with
   | t y=>cases y<;>rfl
   | _=>rfl
def ahM(i:Nat)(a:D):Option (D×aq):=(aaG i a).map fun d=>(d,H)
@[go_sem] theorem alD (x : X) (i : Nat) : evO call get H (.ex x i) = (get x).bind (ahM H i) := (rfl)
def exO:Option D→Option (D×aq)
 | some d=>some (d,H)
 | none=>none
@[go_sem] theorem afq (d : D) : exO H (some d) = some (d, H) := (rfl)
@[go_sem] theorem afr (i : Nat) (ds : List D) : ahM H i (.tup ds) = exO H ds[i]? := by simp only [ahM, aaG, exO]; cases ds[i]? <;> rfl
def ahN(f:Nat)(ds:List D):Option (D×aq):=some (.fn f ds,H)
@[go_sem] theorem ahO (f : Nat) (ds : List D) : ahN H f ds = some (.fn f ds, H) := (rfl)
@[go_sem] theorem alE (f : Nat) (caps : List X) : evO call get H (.mf f caps) = (cK get caps).bind (ahN H f) := by simp only [evO, ahN]; cases cK get caps <;> rfl
@[go_sem] theorem alF (sz : Nat) : evO call get H (.nw sz) = some (.ref H.length 0 0, H ++ [.arr sz false 0 []]) := (rfl)
def alP(p:List D×aq):Option (D×aq):=some (.bp H.length 0,H++ .box p.1::p.2)
@[go_sem] theorem akb (cs : List D) (os : aq) : alP H (cs, os) = some (.bp H.length 0, H ++ .box cs :: os) := (rfl)
@[go_sem] theorem alG (zero : List D) (live : List (Nat × Nat)) : evO call get H (.al zero live) = alP H (cu (H.length + 1) zero live) := (rfl)
@[go_sem] theorem Vz (base : Nat) (cs : List D) : cu base cs [] = (cs, []) := (rfl)
def ahP(n:Nat)(a:D):Option (D×aq):=if a.cells.length=n∧a.km then some (.bp H.length 0,H++[.box a.cells])else none
@[go_sem] theorem alH (x : X) (n : Nat) : evO call get H (.bx x n) = (get x).bind (ahP H n) := (rfl)
@[go_sem] theorem ahQ (n : Nat) (a : D) : ahP H n a = if fits n a = true then some (.bp H.length 0, H ++ [.box a.cells]) else none := by
 simp[ahP,fits]
def afs(sz:Nat)(zero:D)(n:Option Nat):Option (D×aq):=n.bind fun m=>if m≤lim then some (.ref H.length 0 m,H++[.arr sz false 0 (List.replicate m zero)])else none
def mkN(sz:Nat)(zero:D):D→Option (D×aq)
 | .t (.int _ n)=>afs H sz zero (idx n)
 | _=>none
@[go_sem] theorem ahR (sz : Nat) (zero : D) (k : IntKind) (n : Int) : mkN H sz zero (.t (.int k n)) = afs H sz zero (idx n) := (rfl)
@[go_sem] theorem alI (len : X) (zero : D) (sz : Nat) : evO call get H (.mk len zero sz) = (get len).bind (mkN H sz zero) := by
 simp only[evO];cases get len with
 | none=>rfl
 | some d=>cases d with
   | t y=>cases y<;>rfl
   | _=>rfl
@[go_sem] theorem ahS (sz : Nat) (zero : D) (m : Nat) (h : m ≤ 4294967296) : afs H sz zero (some m) = some (.ref H.length 0 m, H ++ [.arr sz false 0 (List.replicate m zero)]) := by
 simp[afs,lim,h]
def Q7(zero:T)(n:Option Nat):Option (D×aq):=n.bind fun m=>if m≤lim then some (.t (.sl (List.replicate m zero)),H)else none
def akc(zero:T):D→Option (D×aq)
 | .t (.int _ n)=>Q7 H zero (idx n)
 | _=>none
@[go_sem] theorem afu (zero : T) (k : IntKind) (n : Int) : akc H zero (.t (.int k n)) = Q7 H zero (idx n) := (rfl)
@[go_sem] theorem akd (len : X) (zero : T) (sz : Nat) : evO call get H (.mkt len zero sz) = (get len).bind (akc H zero) := by
 simp only[evO];cases get len with
 | none=>rfl
 | some d=>cases d with
   | t y=>cases y<;>rfl
   | _=>rfl
@[go_sem] theorem afv (zero : T) (m : Nat) (h : m ≤ 4294967296) : Q7 H zero (some m) = some (.t (.sl (List.replicate m zero)), H) := by
 simp[Q7,lim,h]
def Q8(sz:Nat)(zero:T)(n:Option Nat):Option (D×aq):=n.bind fun m=>if m≤lim∧0<m then some (.ref H.length 0 m,H++[.arr sz false 0 (List.replicate m (.t zero))])else none
def ake(sz:Nat)(zero:T):D→Option (D×aq)
 | .t (.int _ n)=>Q8 H sz zero (idx n)
 | _=>none
@[go_sem] theorem afw (sz : Nat) (zero : T) (k : IntKind) (n : Int) : ake H sz zero (.t (.int k n)) = Q8 H sz zero (idx n) := (rfl)
@[go_sem] theorem akf (len : X) (zero : T) (sz : Nat) : evO call get H (.mkn len zero sz) = (get len).bind (ake H sz zero) := by
 simp only[evO];cases get len with
 | none=>rfl
 | some d=>cases d with
   | t y=>cases y<;>rfl
   | _=>rfl
@[go_sem] theorem afx (sz : Nat) (zero : T) (m : Nat) (h : m ≤ 4294967296) (h0 : 0 < m) : Q8 H sz zero (some m) = some (.ref H.length 0 m, H ++ [.arr sz false 0 (List.replicate m (.t zero))]) := by
 simp[Q8,lim,h,h0]
def pQ(sz:Nat)(fz:Bool)(x y:Option D):Option (D×aq):=x.bind fun a=>y.bind fun b=>nU H a b fz sz
@[go_sem] theorem akg (x y : X) (fz : Bool) (sz : Nat) : evO call get H (.app x y fz sz) = pQ H sz fz (get x) (get y) := (rfl)
def Ao(sz id ep n:Nat)(ys:List D):Option Obj→Option (D×aq)
 | some (.arr sz' pin ep' es)=>if ep=ep'∧n=es.length∧sz'=sz∧n+ys.length≤lim then some (.ref id ep (n+ys.length),H.set id (.arr sz pin ep (es++ys)))else none
 | _=>none
@[go_sem] theorem acd (sz id ep n : Nat) (ys : List D) (pin : Bool) (es : List D) :
 Ao H sz id ep n ys (some (.arr sz pin ep es))=if n=es.length then(if n+ys.length≤4294967296 then some (.ref id ep (n+ys.length),H.set id (.arr sz pin ep (es++ys)))else none)else none:=by
 simp only[Ao,lim]
 by_cases h1:n=es.length
 · rw[if_pos h1]
   by_cases h2:n+ys.length≤4294967296
   · rw[if_pos h2,if_pos ⟨trivial,h1,trivial,h2⟩]
   · rw[if_neg h2,if_neg fun h=>h2 h.2.2.2]
 · rw[if_neg h1,if_neg fun h=>h1 h.2.1]
theorem xY(ts:List T):cK (fun d=>(frz H depth d).map D.t) (ts.map D.t)=some (ts.map D.t):=by
 induction ts with
 | nil=>rfl
 | cons t ts ih=>simp[cK,frz,ih]
theorem KN(ts:List T):(ts.map D.t).flatMap (gz H depth)=[]:=by
 induction ts with
 | nil=>rfl
 | cons t ts ih=>rw[List.map_cons,List.flatMap_cons,ih];simp[gz,depth]
theorem GP(sz:Nat)(fz:Bool)(x:D)(ts:List T)(h:cF sz (ts.map D.t)=false):pQ H sz fz (some x) (some (.t (.sl ts)))=none:=by
 have e1:(if fz then cK (fun d=>(frz H depth d).map D.t) (ts.map D.t)else some (ts.map D.t))=some (ts.map D.t):=by
  cases fz<;>simp[xY]
 simp only[pQ,aLq,nU,elems,e1,h,aLt,if_false]
def nH(sz:Nat)(ts:List T):Bool:=cF sz (ts.map D.t)
theorem Oe(sz id ep n:Nat)(fz:Bool)(ts:List T)(h:nH sz ts=true):pQ H sz fz (some (.ref id ep n)) (some (.t (.sl ts)))=Ao H sz id ep n (ts.map .t) H[id]?:=by
 have e1:(if fz then cK (fun d=>(frz H depth d).map D.t) (ts.map D.t)else some (ts.map D.t))=some (ts.map D.t):=by
  cases fz<;>simp[xY]
 have e2:(if fz then pins H ((ts.map D.t).flatMap (gz H depth))else H)=H:=by
  cases fz
  · rfl
  · simp only[if_true];rw[KN];rfl
 unfold nH at h
 simp only[pQ,aLq,nU,elems,e1,h,if_true,e2,iI]
 generalize H[id]?=o
 rcases o with _ | (_ | ⟨sz',pin,ep',es⟩)
 · rfl
 · rfl
 · simp only[Ao]
   by_cases h1:ep=ep'∧n=es.length
   · rw[if_pos h1,aLq]
     by_cases h2:sz'=sz∧n+(ts.map D.t).length≤lim
     · rw[if_pos h2,if_pos ⟨h1.1,h1.2,h2⟩]
     · rw[if_neg h2,if_neg fun h=>h2 h.2.2]
   · rw[if_neg h1,if_neg fun h=>h1 ⟨h.1,h.2.1⟩];rfl
@[go_sem] theorem ace (sz id ep n : Nat) (fz : Bool) (ts : List T) : pQ H sz fz (some (.ref id ep n)) (some (.t (.sl ts))) = if nH sz ts = true then Ao H sz id ep n (ts.map .t) H[id]? else none := by
 by_cases h:nH sz ts=true
 · rw[if_pos h,Oe H sz id ep n fz ts h]
 · rw[if_neg h];exact GP H sz fz _ ts (by simpa [nH]using h)
@[go_sem] theorem acf (sz : Nat) (fz : Bool) (ts : List T) : pQ H sz fz (some .nil) (some (.t (.sl ts))) =
 if nH sz ts=true then(if ts.length≤4294967296 then some (.ref H.length 0 ts.length,H++[.arr sz false 0 (ts.map .t)])else none)else none:=by
 by_cases h:nH sz ts=true
 · rw[if_pos h]
   have e1:(if fz then cK (fun d=>(frz H depth d).map D.t) (ts.map D.t)else some (ts.map D.t))=some (ts.map D.t):=by
    cases fz<;>simp[xY]
   have e2:(if fz then pins H ((ts.map D.t).flatMap (gz H depth))else H)=H:=by
    cases fz
    · rfl
    · simp only[if_true];rw[KN];rfl
   unfold nH at h
   simp only[pQ,aLq,nU,elems,e1,h,if_true,e2,lim,List.length_map]
 · rw[if_neg h];exact GP H sz fz _ ts (by simpa [nH]using h)
@[go_sem] theorem acg (sz : Nat) : nH sz [] = true := (rfl)
@[go_sem] theorem Y7 (sz : Nat) (x : T) (r : List T) : nH sz (x :: r) = qq sz x.cells := by
 rw[Bool.eq_iff_iff,iK];simp[nH,cF,D.cells]
@[go_sem] theorem ach (l : List Int) (k : IntKind) : nH 1 (l.map (.int k)) = true := by cases l <;> rfl
@[go_sem] theorem Y8 (l : List Bool) : nH 1 (l.map .bool) = true := by cases l <;> rfl
@[go_sem] theorem afy (l : List (List T)) : nH 1 (l.map .sl) = true := by cases l <;> rfl
def LQ(call:aX)(f raw:Nat)(keep:List Nat)(ds:List D):Option (D×aq):=xC call H f raw keep ds
@[go_sem] theorem alJ (f raw : Nat) (keep : List Nat) (xs : List X) : evO call get H (.ca f raw keep xs) = (cK get xs).bind (LQ H call f raw keep) := (rfl)
def akh(call:aX)(raw:Nat)(keep:List Nat)(x:Option D)(xs:Option (List D)):Option (D×aq):=x.bind fun
 | .fn f caps=>xs.bind fun ds=>xC call H f raw keep (ds++caps)
 | _=>none
@[go_sem] theorem alK (x : X) (raw : Nat) (keep : List Nat) (xs : List X) : evO call get H (.cw x raw keep xs) = akh H call raw keep (get x) (cK get xs) := (rfl)
@[go_sem] theorem ahT (raw : Nat) (keep : List Nat) (f : Nat) (caps ds : List D) : akh H call raw keep (some (.fn f caps)) (some ds) = LQ H call f raw keep (ds ++ caps) := (rfl)
def oH(H:aq):List D→Option (List T)
 | []=>some []
 | .t x::r=>m7 x (oH H r)
 | .nil::r=>m7 (.sl []) (oH H r)
 | _::_=>none
@[go_sem] theorem ahU : oH H [] = some [] := (rfl)
@[go_sem] theorem ahV (x : T) (r : List D) : oH H (.t x :: r) = m7 x (oH H r) := (rfl)
@[go_sem] theorem aci (r : List D) : oH H (.nil :: r) = m7 (.sl []) (oH H r) := (rfl)
@[go_sem] theorem acj (cs : List D) (r : List D) : oH H (.agg cs :: r) = none := (rfl)
@[go_sem] theorem afz (a b : Nat) (r : List D) : oH H (.bp a b :: r) = none := (rfl)
@[go_sem] theorem ack (a b c : Nat) (r : List D) : oH H (.ref a b c :: r) = none := (rfl)
@[go_sem] theorem acm (a b c d e : Nat) (r : List D) : oH H (.sub a b c d e :: r) = none := (rfl)
@[go_sem] theorem afA (f : Nat) (cs : List D) (r : List D) : oH H (.fn f cs :: r) = none := (rfl)
@[go_sem] theorem afB (a b c d e : Nat) (r : List D) : oH H (.ap a b c d e :: r) = none := (rfl)
@[go_sem] theorem afC (cs : List T) (r : List D) : oH H (.ep cs :: r) = none := (rfl)
@[go_sem] theorem Y9 (r : List D) : oH H (.nilp :: r) = none := (rfl)
@[go_sem] theorem acn (r : List D) : oH H (.und :: r) = none := (rfl)
end
theorem xc(H:aq):∀ {ds:List D} {ts:List T},oH H ds=some ts→∀i,rV H [] i ds=some (ts.map .t)∧di H [] i ds=[]
 | [],ts,h,i=>by simp[oH]at h;subst h;exact⟨rfl,rfl⟩
 | d::r,ts,h,i=>by
   cases d with
   | t x=>
     simp only[oH,m7,aLb]at h
     obtain⟨l,hl,rfl⟩:=h
     obtain⟨h1,h2⟩:=xc H hl (i+1)
     exact⟨by simp[rV,vS,h1],by simp[di,gz,depth,h2]⟩
   | nil=>
     simp only[oH,m7,aLb]at h
     obtain⟨l,hl,rfl⟩:=h
     obtain⟨h1,h2⟩:=xc H hl (i+1)
     exact⟨by simp[rV,vS,h1],by simp[di,gz,depth,h2]⟩
   | _=>simp[oH]at h
theorem Of(ts:List T)(n:Nat):(ts.map D.t).flatMap (ids n)=[]:=by
 induction ts with
 | nil=>rfl
 | cons t ts ih=>rw[List.map_cons,List.flatMap_cons,ih];simp[ids]
theorem VA(f:Nat→Option Nat)(ts:List T):cK (ren f depth) (ts.map .t)=some (ts.map .t):=by
 induction ts with
 | nil=>rfl
 | cons t ts ih=>simp[cK,ren,depth]at ih ⊢;exact ih
def AR:D→Bool
 | .t _=>true
 | .tup ds=>ds.all fun | .t _=>true | _=>false
 | _=>false
theorem EW{f:Nat→Option Nat}{d:D}(h:AR d=true):ren f depth d=some d:=by
 cases d with
 | t x=>rfl
 | tup ds=>
   simp only[AR]at h
   have:cK (ren f 7) ds=some ds:=by
    induction ds with
    | nil=>rfl
    | cons d ds ih=>
      simp only[List.all_cons,aLr]at h
      cases d with
      | t x=>simp[cK,ren,ih h.2]
      | _=>simp at h
   simp[ren,depth,this]
 | _=>simp[AR]at h
def B8(H:aq)(p:D×aq):Option (D×aq):=if AR p.1&&p.2.isEmpty then some (p.1,H)else
 (ren (fV [] H.length) depth p.1).bind fun r'=>(cK (jP (fV [] H.length)) p.2).map fun os=>(r',H++os)
@[go_sem] theorem ahW (H : aq) (x : T) : B8 H (.t x, []) = some (.t x, H) := (rfl)
@[go_sem] theorem ahX (H : aq) : B8 H (.tup [], []) = some (.tup [], H) := (rfl)
@[go_sem] theorem ahY (H : aq) (x y : T) : B8 H (.tup [.t x, .t y], []) = some (.tup [.t x, .t y], H) := (rfl)
@[go_sem] theorem ahZ (H : aq) (x y z : T) : B8 H (.tup [.t x, .t y, .t z], []) = some (.tup [.t x, .t y, .t z], H) := (rfl)
@[go_sem] theorem ah0 (H : aq) (x y z u : T) : B8 H (.tup [.t x, .t y, .t z, .t u], []) = some (.tup [.t x, .t y, .t z, .t u], H) := (rfl)
theorem Og(H:aq)(call:aX)(f raw:Nat)(ds:List D)(ts:List T)(h:oH H ds=some ts):
 LQ H call f raw [] ds=(call raw f (ts.map .t) []).bind (B8 H):=by
 obtain⟨h1,h2⟩:=xc H h 0
 simp only[LQ,xC,h1,aLq,Of,ir,reach,tQ,List.flatMap_nil,h2,pins,VA,pick,cK]
 cases hc:call raw f (ts.map .t) []with
 | none=>rfl
 | some p=>
   obtain⟨d,os⟩:=p
   simp only[aLq,List.isEmpty_nil,Bool.true_and,B8]
   by_cases h3:os=[]
   · subst h3
     simp only[List.isEmpty_nil,Bool.true_and,Bool.and_true,cK,aLw,List.length_nil,List.take_nil,dR,List.drop_nil,List.append_nil]
     by_cases h4:AR d=true
     · rw[if_pos h4]
       split
       · rfl
       · rw[EW h4];rfl
     · rw[if_neg h4]
       split
       · rename_i h5
         exfalso
         apply h4
         cases d with
         | t x=>rfl
         | tup ds=>
           simp only[rU,aLx]at h5
           simp only[AR,aLx]
           intro y hy
           have:=h5 y hy
           cases y<;>simp_all [kN]
         | _=>simp[rU]at h5
       · rfl
   · have:os.isEmpty=false:=by cases os<;>simp_all
     simp only[this,Bool.false_and,Bool.and_false,if_false,aLt,List.length_nil,List.take_zero,dR,List.drop_zero]
@[go_sem] theorem Za (st : St) : kR st [] = some [] := (rfl)
def aki(st:St)(r:List (Nat×Option (Nat×Bool)))(d:D):Option (List D):=m7 d (kR st r)
@[go_sem] theorem ah1 (vs : List D) (H : aq) (r : List (Nat × Option (Nat × Bool))) (d : D) : aki ⟨vs, H⟩ r d = m7 d (kR ⟨vs, H⟩ r) := (rfl)
@[go_sem] theorem Zb (vs : List D) (H : aq) (j : Nat) (r : List (Nat × Option (Nat × Bool))) : kR ⟨vs, H⟩ ((j, none) :: r) = vs[j]?.bind (aki ⟨vs, H⟩ r) := (rfl)
def ah2(st:St)(r:List (Nat×Option (Nat×Bool)))(p:D×aq):Option (List D):=m7 p.1 (kR st r)
@[go_sem] theorem ah3 (vs : List D) (H : aq) (r : List (Nat × Option (Nat × Bool))) (d : D) (H' : aq) : ah2 ⟨vs, H⟩ r (d, H') = m7 d (kR ⟨vs, H⟩ r) := (rfl)
def ah4(st:St)(n:Nat)(agg:Bool)(r:List (Nat×Option (Nat×Bool)))(p:D):Option (List D):=(P6 st.H n agg p).bind (ah2 st r)
@[go_sem] theorem ah5 (vs : List D) (H : aq) (n : Nat) (agg : Bool) (r : List (Nat × Option (Nat × Bool))) (p : D) : ah4 ⟨vs, H⟩ n agg r p = (P6 H n agg p).bind (ah2 ⟨vs, H⟩ r) := (rfl)
@[go_sem] theorem VB (vs : List D) (H : aq) (j n : Nat) (agg : Bool) (r : List (Nat × Option (Nat × Bool))) : kR ⟨vs, H⟩ ((j, some (n, agg)) :: r) = vs[j]?.bind (ah4 ⟨vs, H⟩ n agg r) := by
 simp only[kR]
 cases vs[j]? with
 | none=>rfl
 | some p=>
   simp only[aLq,ah4,P6]
   cases y0 H p n agg<;>rfl
@[go_sem] theorem ah6 (H : aq) (n : Nat) (x : T) : frz H n (.t x) = some x := by cases n <;> rfl
@[go_sem] theorem ah7 (H : aq) (n : Nat) : frz H n .nil = some (.sl []) := by cases n <;> rfl
@[go_sem] theorem ah8 (H : aq) (n : Nat) (cs : List D) : frz H (n + 1) (.agg cs) = (cK (frz H n) cs).map .agg := (rfl)
@[go_sem] theorem LR (H : aq) (n : Nat) (ts : List T) : cK (frz H n) (ts.map .t) = some ts := by
 induction ts with
 | nil=>rfl
 | cons t ts ih=>simp[cK,ah6,ih]
def frA(H:aq)(n ep m lo hi:Nat):Option Obj→Option T
 | some (.arr _ _ ep' es)=>if ep=ep'∧m=es.length then(cK (frz H n) ((es.drop lo).take (hi-lo))).map .sl else none
 | _=>none
def frR(H:aq)(n ep m:Nat):Option Obj→Option T
 | some (.arr _ _ ep' es)=>if ep=ep'∧m=es.length then(cK (frz H n) es).map .sl else none
 | _=>none
@[go_sem] theorem ah9 (H : aq) (n id ep m : Nat) : frz H (n + 1) (.ref id ep m) = frR H n ep m H[id]? := by
 simp only[frz,iI]
 generalize H[id]?=o
 rcases o with _ | (_ | ⟨sz',pin,ep',es⟩)
 · rfl
 · rfl
 · simp only[frR]
   by_cases h:ep=ep'∧m=es.length
   · rw[if_pos h,if_pos h];rfl
   · rw[if_neg h,if_neg h];rfl
@[go_sem] theorem aia (H : aq) (n id ep m lo hi : Nat) : frz H (n + 1) (.sub id ep m lo hi) = frA H n ep m lo hi H[id]? := by
 simp only[frz,iI]
 generalize H[id]?=o
 rcases o with _ | (_ | ⟨sz',pin,ep',es⟩)
 · rfl
 · rfl
 · simp only[frA]
   by_cases h:ep=ep'∧m=es.length
   · rw[if_pos h,if_pos h];rfl
   · rw[if_neg h,if_neg h];rfl
@[go_sem] theorem aib (H : aq) (n ep m sz : Nat) (pin : Bool) (es : List D) : frR H n ep m (some (.arr sz pin ep es)) = if m = es.length then (cK (frz H n) es).map .sl else none := by simp [frR]
@[go_sem] theorem aic (H : aq) (n ep m lo hi sz : Nat) (pin : Bool) (es : List D) : frA H n ep m lo hi (some (.arr sz pin ep es)) = if m = es.length then (cK (frz H n) ((es.drop lo).take (hi - lo))).map .sl else none := by simp [frA]
@[go_sem] theorem aco (H : aq) (x : T) : vS H (.t x) = some (.t x) := (rfl)
@[go_sem] theorem afD (H : aq) : vS H .nil = some (.t (.sl [])) := (rfl)
@[go_sem] theorem afE (H : aq) (cs : List D) : vS H (.agg cs) = (frz H 8 (.agg cs)).map .t := (rfl)
@[go_sem] theorem afF (H : aq) (id ep n : Nat) : vS H (.ref id ep n) = (frz H 8 (.ref id ep n)).map .t := (rfl)
@[go_sem] theorem afG (H : aq) (id ep n lo hi : Nat) : vS H (.sub id ep n lo hi) = (frz H 8 (.sub id ep n lo hi)).map .t := (rfl)
@[go_sem] theorem VC (H : aq) (id off : Nat) : vS H (.bp id off) = some (.bp id off) := (rfl)
@[go_sem] theorem aid (H : aq) (id ep n i off : Nat) : vS H (.ap id ep n i off) = some (.ap id ep n i off) := (rfl)
@[go_sem] theorem aie (H : aq) (cs : List T) : vS H (.ep cs) = some (.ep cs) := (rfl)
@[go_sem] theorem aif (H : aq) (f : Nat) (cs : List D) : vS H (.fn f cs) = some (.fn f cs) := (rfl)
def ltB:Nat→Nat→Bool
 | _,0=>false
 | 0,_+1=>true
 | m+1,n+1=>ltB m n
@[go_sem] theorem alL (m : Nat) : ltB m 0 = false := by cases m <;> rfl
@[go_sem] theorem akj (n : Nat) : ltB 0 (n + 1) = true := (rfl)
@[go_sem] theorem akk (m n : Nat) : ltB (m + 1) (n + 1) = ltB m n := (rfl)
theorem sg:∀ {m n:Nat},ltB m n=decide (m<n)
 | m,0=>by cases m<;>simp[ltB]
 | 0,n+1=>by simp[ltB]
 | m+1,n+1=>by simp[ltB,sg (m:=m) (n:=n)]
def eqB:Nat→Nat→Bool
 | 0,0=>true
 | m+1,n+1=>eqB m n
 | _,_=>false
@[go_sem] theorem akl : eqB 0 0 = true := (rfl)
@[go_sem] theorem akm (n : Nat) : eqB 0 (n + 1) = false := (rfl)
@[go_sem] theorem akn (n : Nat) : eqB (n + 1) 0 = false := (rfl)
@[go_sem] theorem ako (m n : Nat) : eqB (m + 1) (n + 1) = eqB m n := (rfl)
theorem Jh:∀ {m n:Nat},eqB m n=decide (m=n)
 | 0,0=>rfl
 | 0,n+1=>rfl
 | m+1,0=>rfl
 | m+1,n+1=>by simp[eqB,Jh (m:=m) (n:=n)]
section
variable (k n : Nat)
@[go_sem] theorem aih (x : T) : old k n (.t x) = true := by cases n <;> rfl
@[go_sem] theorem aii : old k n .nil = true := by cases n <;> rfl
@[go_sem] theorem akp (cs : List T) : old k n (.ep cs) = true := by cases n <;> rfl
@[go_sem] theorem afH : old k n .nilp = true := by cases n <;> rfl
@[go_sem] theorem aij : old k n .und = true := by cases n <;> rfl
@[go_sem] theorem acp (id off : Nat) : old k n (.bp id off) = ltB id k := by cases n <;> simp [old, sg]
@[go_sem] theorem akq (id ep m i off : Nat) : old k n (.ap id ep m i off) = ltB id k := by cases n <;> simp [old, sg]
@[go_sem] theorem aik (id ep m : Nat) : old k n (.ref id ep m) = ltB id k := by cases n <;> simp [old, sg]
@[go_sem] theorem ail (id ep m lo hi : Nat) : old k n (.sub id ep m lo hi) = ltB id k := by cases n <;> simp [old, sg]
def iu(n:Nat)(cs:List D):Bool:=cs.all (old k n)
@[go_sem] theorem Zc : iu k n [] = true := (rfl)
@[go_sem] theorem Ji (d : D) (r : List D) : iu k n (d :: r) = (old k n d && iu k n r) := (rfl)
@[go_sem] theorem KO (ts : List T) : iu k n (ts.map .t) = true := by
 induction ts with
 | nil=>rfl
 | cons t ts ih=>rw[List.map_cons,Ji,aih,ih];rfl
@[go_sem] theorem Zd (m : Nat) (x : T) : iu k n (List.replicate m (.t x)) = true := by
 have:List.replicate m (D.t x)=(List.replicate m x).map .t:=by simp
 rw[this,KO]
@[go_sem] theorem Ze (a b : List D) : iu k n (a ++ b) = (iu k n a && iu k n b) := by simp [iu]
@[go_sem] theorem aim (cs : List D) : old k (n + 1) (.agg cs) = iu k n cs := (rfl)
@[go_sem] theorem ain (cs : List D) : old k (n + 1) (.tup cs) = iu k n cs := (rfl)
@[go_sem] theorem akr (f : Nat) (cs : List D) : old k (n + 1) (.fn f cs) = iu k n cs := (rfl)
end
def iv(k:Nat):aq→Bool
 | []=>true
 | .box cs::r=>iu k 8 cs&&iv k r
 | .arr _ _ _ es::r=>iu k 8 es&&iv k r
@[go_sem] theorem VD (k : Nat) : iv k [] = true := (rfl)
@[go_sem] theorem VE (k : Nat) (cs : List D) (r : aq) : iv k (.box cs :: r) = (iu k 8 cs && iv k r) := (rfl)
@[go_sem] theorem VF (k sz ep : Nat) (pin : Bool) (es : List D) (r : aq) : iv k (.arr sz pin ep es :: r) = (iu k 8 es && iv k r) := (rfl)
theorem oQ(k:Nat)(H:aq):H.all (fun o=>o.ds.all (old k depth))=iv k H:=by
 induction H with
 | nil=>rfl
 | cons o r ih=>rw[List.all_cons,ih];cases o<;>rfl
def VG(d:D)(b:Bool):D:=if b then d else .und
@[go_sem] theorem Zf (d : D) : VG d true = d := (rfl)
@[go_sem] theorem VH (d : D) : VG d false = .und := (rfl)
@[go_sem] theorem aio (k : Nat) (d : D) : kill k d = VG d (old k 8 d) := (rfl)
def LS(k:Nat):List D→List D
 | []=>[]
 | d::r=>kill k d::LS k r
@[go_sem] theorem acq (k : Nat) : LS k [] = [] := (rfl)
@[go_sem] theorem Zg (k : Nat) (d : D) (r : List D) : LS k (d :: r) = kill k d :: LS k r := (rfl)
theorem Q9(k:Nat)(vs:List D):vs.map (kill k)=LS k vs:=by
 induction vs with
 | nil=>rfl
 | cons d r ih=>rw[List.map_cons,ih];rfl
@[go_sem] theorem afI (k : Nat) (vs : List D) (H : aq) : Lz k ⟨vs, H⟩ = if iv k (H.take k) = true then some ⟨LS k vs, H.take k⟩ else none := by
 simp only[Lz,oQ,Q9]
@[go_sem] theorem Oh (H : aq) (n : Nat) (x : T) : gz H n (.t x) = [] := by cases n <;> rfl
@[go_sem] theorem afJ (H : aq) (n : Nat) : gz H n .nil = [] := by cases n <;> rfl
@[go_sem] theorem VI (H : aq) (n id off : Nat) : gz H n (.bp id off) = [] := by cases n <;> rfl
@[go_sem] theorem aip (H : aq) (n f : Nat) (cs : List D) : gz H n (.fn f cs) = [] := by cases n <;> rfl
@[go_sem] theorem aiq (H : aq) (n : Nat) (cs : List T) : gz H n (.ep cs) = [] := by cases n <;> rfl
@[go_sem] theorem air (H : aq) (n a b c d e : Nat) : gz H n (.ap a b c d e) = [] := by cases n <;> rfl
def tD(H:aq)(n:Nat)(cs:List D):List Nat:=cs.flatMap (gz H n)
@[go_sem] theorem acr (H : aq) (n : Nat) : tD H n [] = [] := (rfl)
@[go_sem] theorem LU (H : aq) (n : Nat) (d : D) (r : List D) : tD H n (d :: r) = gz H n d ++ tD H n r := (rfl)
@[go_sem] theorem ais (H : aq) (n : Nat) (ts : List T) : tD H n (ts.map .t) = [] := by
 induction ts with
 | nil=>rfl
 | cons t ts ih=>rw[List.map_cons,LU,ih,Oh];rfl
@[go_sem] theorem acs (H : aq) (n : Nat) (a b : List D) : tD H n (a ++ b) = tD H n a ++ tD H n b := by simp [tD]
@[go_sem] theorem afK (H : aq) (n : Nat) (cs : List D) : gz H (n + 1) (.agg cs) = tD H n cs := (rfl)
def VJ(H:aq)(n:Nat):Option Obj→List Nat
 | some (.arr _ _ _ es)=>tD H n es
 | _=>[]
@[go_sem] theorem acu (H : aq) (n sz ep : Nat) (pin : Bool) (es : List D) : VJ H n (some (.arr sz pin ep es)) = tD H n es := (rfl)
@[go_sem] theorem afL (H : aq) (n id ep m : Nat) : gz H (n + 1) (.ref id ep m) = id :: VJ H n H[id]? := (rfl)
@[go_sem] theorem afM (H : aq) (n id ep m lo hi : Nat) : gz H (n + 1) (.sub id ep m lo hi) = id :: VJ H n H[id]? := (rfl)
@[go_sem] theorem ait : AL [] = .tup [] := (rfl)
@[go_sem] theorem aiu (d : D) : AL [d] = d := (rfl)
@[go_sem] theorem aiv (a b : D) (r : List D) : AL (a :: b :: r) = .tup (a :: b :: r) := (rfl)
def GQ(k:Nat):List Nat→Bool
 | []=>true
 | i::r=> !ltB i k&&GQ k r
@[go_sem] theorem acv (k : Nat) : GQ k [] = true := (rfl)
@[go_sem] theorem Zh (k i : Nat) (r : List Nat) : GQ k (i :: r) = (!ltB i k && GQ k r) := (rfl)
theorem KP(k:Nat)(l:List Nat):l.all (fun i=>decide (k≤i))=GQ k l:=by
 induction l with
 | nil=>rfl
 | cons i r ih=>
   rw[List.all_cons,ih]
   simp only[GQ,sg]
   congr 1
   rw[Bool.eq_iff_iff];simp
def afN(k raw:Nat)(H:aq)(ds rs:List D):Option (D×aq):=
 (pY H (max raw 1) (List.range k) (rs.flatMap (ids depth)++tQ H (List.range k))).bind fun q=>
  if(lA H raw ds).all (fun i=> !(List.range k++q.1).contains i)then
   (cK (ren (idxOf (List.range k++q.1)) depth) rs).bind fun rs'=>
    (cK (jP (idxOf (List.range k++q.1))) (H.take k++q.2)).map fun hs'=>(AL rs',hs')
  else none
def Zi(k raw:Nat)(H:aq)(ds rs:List D)(b:Bool):Option (D×aq):=
 if b then(if GQ k (lA H raw ds)=true then some (AL rs,H.take k)else none)else afN k raw H ds rs
@[go_sem] theorem acw (k raw : Nat) (H : aq) (ds rs : List D) : Zi k raw H ds rs true = if GQ k (lA H raw ds) = true then some (AL rs, H.take k) else none := (rfl)
def acx(k raw:Nat)(H:aq)(ds rs:List D):Option (D×aq):=Zi k raw H ds rs (iu k 8 rs&&iv k (H.take k))
@[go_sem] theorem aiw (k raw : Nat) (H : aq) (ds rs : List D) : acx k raw H ds rs = Zi k raw H ds rs (iu k 8 rs && iv k (H.take k)) := (rfl)
@[go_sem] theorem acy (k : Nat) (H : aq) (ds : List D) : finish k 0 H ds = (cK (vS H) ds).bind (acx k 0 H ds) := by
 simp only[finish,if_true,oQ,KP]
 cases cK (vS H) ds with
 | none=>rfl
 | some rs=>
   simp only[aLq,acx,Zi]
   show(if(iu k 8 rs&&iv k (H.take k))=true then _ else _)=_
   cases (iu k 8 rs&&iv k (H.take k))<;>rfl
@[go_sem] theorem acz (H : aq) (ds : List D) : lA H 0 ds = tD H 8 ds := (rfl)
@[go_sem] theorem acA (vs : List D) : mh [] vs = vs := (rfl)
@[go_sem] theorem Zj (i : Nat) (r : List Nat) (vs : List D) : mh (i :: r) vs = mh r (vs.set i .und) := (rfl)
@[go_sem] theorem aix (dead : List Nat) (k : Nat) (vs : List D) (H : aq) : tidy false dead k ⟨vs, H⟩ = some ⟨mh dead vs, H⟩ := (rfl)
@[go_sem] theorem aiy (dead : List Nat) (k : Nat) (vs : List D) (H : aq) : tidy true dead k ⟨vs, H⟩ = Lz k ⟨mh dead vs, H⟩ := (rfl)
section
variable (H : aq) (call : aX) (f raw : Nat) (keep : List Nat) (ds : List D)
def EX(H1:aq)(n:Nat)(sel:List Nat)(p:D×aq):Option (D×aq):=
 (ren (fV sel n) depth p.1).bind fun r'=>(cK (jP (fV sel n)) p.2).map fun os=>(r',dR H1 sel (os.take sel.length)++os.drop sel.length)
def xd(H1:aq)(sel:List Nat)(p:D×aq):Option (D×aq):=
 if sel.isEmpty&&p.2.isEmpty&&rU p.1 then some (p.1,H)else EX H1 H.length sel p
def VK(args:List D)(H1:aq)(sel:List Nat)(hs:aq):Option (D×aq):=(call raw f args hs).bind (xd H H1 sel)
def VL(args:List D)(H1:aq)(sel:List Nat)(hs:aq):Option (D×aq):=(cK (jP (idxOf sel)) hs).bind (VK H call f raw args H1 sel)
def VM(H1:aq)(sel:List Nat)(args:List D):Option (D×aq):=(pick H1 sel).bind (VL H call f raw args H1 sel)
def VN(args:List D)(sel:List Nat):Option (D×aq):=(cK (ren (idxOf sel) depth) args).bind (VM H call f raw (pins H (di H keep 0 ds)) sel)
def B9(n:Nat)(cs:List D):List Nat:=cs.flatMap (ids n)
def VO(args:List D):Option (D×aq):=VN H call f raw keep ds args (reach H 3 (ir [] (B9 8 args)))
def Oi:Option (D×aq):=(rV H keep 0 ds).bind (VO H call f raw keep ds)
theorem Ra:LQ H call f raw keep ds=Oi H call f raw keep ds:=(rfl)
@[go_sem] theorem Rb : Oi H call f raw keep ds = (rV H keep 0 ds).bind (VO H call f raw keep ds) := (rfl)
@[go_sem] theorem Rc (args : List D) : VO H call f raw keep ds args = VN H call f raw keep ds args (reach H 3 (ir [] (B9 8 args))) := (rfl)
@[go_sem] theorem Re (args : List D) (sel : List Nat) : VN H call f raw keep ds args sel = (cK (ren (idxOf sel) 8) args).bind (VM H call f raw (pins H (di H keep 0 ds)) sel) := (rfl)
@[go_sem] theorem Rf (H1 : aq) (sel : List Nat) (args : List D) : VM H call f raw H1 sel args = (pick H1 sel).bind (VL H call f raw args H1 sel) := (rfl)
@[go_sem] theorem Rg (args : List D) (H1 : aq) (sel : List Nat) (hs : aq) : VL H call f raw args H1 sel hs = (cK (jP (idxOf sel)) hs).bind (VK H call f raw args H1 sel) := (rfl)
@[go_sem] theorem Rh (args : List D) (H1 : aq) (sel : List Nat) (hs : aq) : VK H call f raw args H1 sel hs = (call raw f args hs).bind (xd H H1 sel) := (rfl)
def Ri(H1:aq)(sel:List Nat)(r:D)(os:aq):Option (D×aq):=some (r,dR H1 sel (os.take sel.length)++os.drop sel.length)
@[go_sem] theorem Rj (H1 : aq) (sel : List Nat) (r : D) (os : aq) : Ri H1 sel r os = some (r, dR H1 sel (os.take sel.length) ++ os.drop sel.length) := (rfl)
def VP(H1:aq)(n:Nat)(sel:List Nat)(os:aq)(r:D):Option (D×aq):=(cK (jP (fV sel n)) os).bind (Ri H1 sel r)
@[go_sem] theorem KQ (H1 : aq) (n : Nat) (sel : List Nat) (os : aq) (r : D) : VP H1 n sel os r = (cK (jP (fV sel n)) os).bind (Ri H1 sel r) := (rfl)
@[go_sem] theorem KR (H1 : aq) (n : Nat) (sel : List Nat) (r : D) (os : aq) : EX H1 n sel (r, os) = (ren (fV sel n) 8 r).bind (VP H1 n sel os) := by
 simp only[EX,depth]
 cases ren (fV sel n) 8 r with
 | none=>rfl
 | some r'=>simp only[aLq,VP];cases cK (jP (fV sel n)) os<;>rfl
@[go_sem] theorem acB (H1 : aq) (i : Nat) (sel : List Nat) (p : D × aq) : xd H H1 (i :: sel) p = EX H1 H.length (i :: sel) p := (rfl)
@[go_sem] theorem afO (H1 : aq) (sel : List Nat) (r : D) (o : Obj) (os : aq) : xd H H1 sel (r, o :: os) = EX H1 H.length sel (r, o :: os) := by
 simp[xd]
@[go_sem] theorem aiz (H1 : aq) (k : IntKind) (n : Int) : xd H H1 [] (.t (.int k n), []) = some (.t (.int k n), H) := (rfl)
@[go_sem] theorem aiA (H1 : aq) (b : Bool) : xd H H1 [] (.t (.bool b), []) = some (.t (.bool b), H) := (rfl)
@[go_sem] theorem afP (H1 : aq) (es : List T) : xd H H1 [] (.t (.sl es), []) = some (.t (.sl es), H1) := by simp [xd, EX, rU, T.scalar, ren, depth, cK, dR]
@[go_sem] theorem acC (H1 : aq) (es : List T) : xd H H1 [] (.t (.agg es), []) = some (.t (.agg es), H1) := by simp [xd, EX, rU, T.scalar, ren, depth, cK, dR]
@[go_sem] theorem acD (H1 : aq) (ds : List D) : xd H H1 [] (.tup ds, []) = if ds.all kN then some (.tup ds, H) else EX H1 H.length [] (.tup ds, []) := by
 simp[xd,rU]
def VQ:Option (List T)→Option (D×aq)
 | some ts=>(call raw f (ts.map .t) []).bind (B8 H)
 | none=>Oi H call f raw [] ds
@[go_sem] theorem Zk (ts : List T) : VQ H call f raw ds (some ts) = (call raw f (ts.map .t) []).bind (B8 H) := (rfl)
@[go_sem] theorem Zl : VQ H call f raw ds none = Oi H call f raw [] ds := (rfl)
@[go_sem] theorem aiB : LQ H call f raw [] ds = VQ H call f raw ds (oH H ds) := by
 cases h:oH H ds with
 | none=>rfl
 | some ts=>exact Og H call f raw ds ts h
@[go_sem] theorem aks (k : Nat) : LQ H call f raw (k :: keep) ds = Oi H call f raw (k :: keep) ds := (rfl)
end
section
variable (H : aq) (keep : List Nat)
@[go_sem] theorem acE (i : Nat) : rV H keep i [] = some [] := (rfl)
def IB(i:Nat):List Nat→Bool
 | []=>false
 | j::r=>eqB i j||IB i r
@[go_sem] theorem afQ (i : Nat) : IB i [] = false := (rfl)
@[go_sem] theorem acF (i j : Nat) (r : List Nat) : IB i (j :: r) = (eqB i j || IB i r) := (rfl)
theorem EY(i:Nat)(l:List Nat):l.contains i=IB i l:=by
 induction l with
 | nil=>rfl
 | cons j r ih=>rw[List.contains_cons,ih];simp only[IB,Jh];rw[beq_eq_decide_nat]
where beq_eq_decide_nat {a b:Nat}:(a==b)=decide (a=b):=by rw[Bool.eq_iff_iff];simp
def aiC(d:D):Bool→Option D
 | true=>some d
 | false=>vS H d
@[go_sem] theorem akt (d : D) : aiC H d true = some d := (rfl)
@[go_sem] theorem Tc (d : D) : aiC H d false = vS H d := (rfl)
def aku(i:Nat)(r:List D)(x:D):Option (List D):=m7 x (rV H keep (i+1) r)
@[go_sem] theorem Oj (i : Nat) (r : List D) (x : D) : aku H keep i r x = m7 x (rV H keep (i + 1) r) := (rfl)
@[go_sem] theorem D6 (i : Nat) (d : D) (r : List D) : rV H keep i (d :: r) = (aiC H d (IB i keep)).bind (aku H keep i r) := by
 simp only[rV,EY]
 cases IB i keep<;>rfl
@[go_sem] theorem P7 (i : Nat) : di H keep i [] = [] := (rfl)
def frK(l:List Nat):Bool→List Nat
 | true=>[]
 | false=>l
@[go_sem] theorem alM (l : List Nat) : frK l true = [] := (rfl)
@[go_sem] theorem acG (l : List Nat) : frK l false = l := (rfl)
@[go_sem] theorem ue (i : Nat) (d : D) (r : List D) : di H keep i (d :: r) = frK (gz H 8 d) (IB i keep) ++ di H keep (i + 1) r := by
 simp only[di,EY]
 cases IB i keep<;>rfl
@[go_sem] theorem afR (H : aq) : pins H [] = H := (rfl)
@[go_sem] theorem acH (H : aq) (i : Nat) (r : List Nat) : pins H (i :: r) = pins (H.modify i Kp) r := (rfl)
def LV(i:Nat):Option Obj→aq
 | some (.arr sz _ ep es)=>H.set i (.arr sz true ep es)
 | _=>H
@[go_sem] theorem acI (i : Nat) (cs : List D) : LV H i (some (.box cs)) = H := (rfl)
@[go_sem] theorem acJ (i sz ep : Nat) (pin : Bool) (es : List D) : LV H i (some (.arr sz pin ep es)) = H.set i (.arr sz true ep es) := (rfl)
theorem Rk{α:Type}{l:List α}{i:Nat}{x:α}(h:l[i]?=some x):l.set i x=l:=by
 apply List.ext_getElem?
 intro j
 rw[List.getElem?_set]
 split
 · rename_i e;subst e
   split
   · exact h.symm
   · rename_i hl;rw[aLm (by omega)]at h;cases h
 · rfl
@[go_sem] theorem Zm (i : Nat) : List.modify H i Kp = LV H i H[i]? := by
 apply List.ext_getElem?
 intro j
 rw[List.getElem?_modify]
 cases h:H[i]? with
 | none=>
   simp only[LV]
   by_cases e:i=j
   · subst e;rw[h];simp
   · simp[e]
 | some o=>
   have hi:i<H.length:=(aLe.1 h).1
   cases o with
   | box cs=>
     simp only[LV]
     by_cases e:i=j
     · subst e;rw[h];simp[Kp]
     · simp[e]
   | arr sz pin ep es=>
     simp only[LV]
     rw[List.getElem?_set]
     by_cases e:i=j
     · subst e;rw[h];simp[Kp,hi]
     · simp[e]
section
variable (n : Nat)
@[go_sem] theorem alN (x : T) : ids n (.t x) = [] := by cases n <;> rfl
@[go_sem] theorem aiD : ids n .nil = [] := by cases n <;> rfl
@[go_sem] theorem afS : ids n .nilp = [] := by cases n <;> rfl
@[go_sem] theorem aiE : ids n .und = [] := by cases n <;> rfl
@[go_sem] theorem akv (cs : List T) : ids n (.ep cs) = [] := by cases n <;> rfl
@[go_sem] theorem acK (id off : Nat) : ids n (.bp id off) = [id] := by cases n <;> rfl
@[go_sem] theorem akw (id ep m i off : Nat) : ids n (.ap id ep m i off) = [id] := by cases n <;> rfl
@[go_sem] theorem aiF (id ep m : Nat) : ids n (.ref id ep m) = [id] := by cases n <;> rfl
@[go_sem] theorem aiG (id ep m lo hi : Nat) : ids n (.sub id ep m lo hi) = [id] := by cases n <;> rfl
@[go_sem] theorem aiH (cs : List D) : ids (n + 1) (.agg cs) = B9 n cs := (rfl)
@[go_sem] theorem aiI (cs : List D) : ids (n + 1) (.tup cs) = B9 n cs := (rfl)
@[go_sem] theorem acL (f : Nat) (cs : List D) : ids (n + 1) (.fn f cs) = B9 n cs := (rfl)
@[go_sem] theorem Rl : B9 n [] = [] := (rfl)
@[go_sem] theorem Ol (d : D) (r : List D) : B9 n (d :: r) = ids n d ++ B9 n r := (rfl)
@[go_sem] theorem KS (ts : List T) : B9 n (ts.map .t) = [] := Of ts n
@[go_sem] theorem KT (a b : List D) : B9 n (a ++ b) = B9 n a ++ B9 n b := by simp [B9]
@[go_sem] theorem afT (m : Nat) (x : T) : B9 n (List.replicate m (.t x)) = [] := by
 have:List.replicate m (D.t x)=(List.replicate m x).map .t:=by simp
 rw[this,KS]
end
def Om(sel:List Nat)(i:Nat):Bool→List Nat
 | true=>sel
 | false=>sel++[i]
@[go_sem] theorem afU (sel : List Nat) (i : Nat) : Om sel i true = sel := (rfl)
@[go_sem] theorem afV (sel : List Nat) (i : Nat) : Om sel i false = sel ++ [i] := (rfl)
@[go_sem] theorem Zn (sel : List Nat) : ir sel [] = sel := (rfl)
@[go_sem] theorem VR (sel : List Nat) (i : Nat) (r : List Nat) : ir sel (i :: r) = ir (Om sel i (IB i sel)) r := by
 simp only[ir,EY]
 cases IB i sel<;>rfl
def KU:Option Obj→List Nat
 | some (.box cs)=>B9 8 cs
 | some (.arr _ _ _ es)=>B9 8 es
 | none=>[]
@[go_sem] theorem Zo (cs : List D) : KU (some (.box cs)) = B9 8 cs := (rfl)
@[go_sem] theorem Zp (sz ep : Nat) (pin : Bool) (es : List D) : KU (some (.arr sz pin ep es)) = B9 8 es := (rfl)
@[go_sem] theorem acM : tQ H [] = [] := (rfl)
@[go_sem] theorem Zq (i : Nat) (r : List Nat) : tQ H (i :: r) = KU H[i]? ++ tQ H r := by
 simp only[tQ,List.flatMap_cons]
 congr 1
 cases H[i]? with
 | none=>rfl
 | some o=>cases o<;>rfl
@[go_sem] theorem aiJ (sel : List Nat) : reach H 0 sel = sel := (rfl)
@[go_sem] theorem aiK (n : Nat) (sel : List Nat) : reach H (n + 1) sel = reach H n (ir sel (tQ H sel)) := (rfl)
@[go_sem] theorem afW : pick H [] = some [] := (rfl)
def acN(r:List Nat)(o:Obj):Option aq:=m7 o (pick H r)
@[go_sem] theorem Rm (r : List Nat) (o : Obj) : acN H r o = m7 o (pick H r) := (rfl)
@[go_sem] theorem On (i : Nat) (r : List Nat) : pick H (i :: r) = H[i]?.bind (acN H r) := (rfl)
end
section
variable (f : Nat → Option Nat) (n : Nat)
@[go_sem] theorem aiL (x : T) : ren f n (.t x) = some (.t x) := by cases n <;> rfl
@[go_sem] theorem aiM : ren f n .nil = some .nil := by cases n <;> rfl
@[go_sem] theorem afX : ren f n .nilp = some .nilp := by cases n <;> rfl
@[go_sem] theorem aiN : ren f n .und = some .und := by cases n <;> rfl
@[go_sem] theorem akx (cs : List T) : ren f n (.ep cs) = some (.ep cs) := by cases n <;> rfl
def aky(off:Nat)(i:Nat):D:= .bp i off
@[go_sem] theorem aiO (off i : Nat) : aky off i = .bp i off := (rfl)
@[go_sem] theorem acO (id off : Nat) : ren f n (.bp id off) = (f id).map (aky off) := by cases n <;> rfl
def akz(ep m i off:Nat)(j:Nat):D:= .ap j ep m i off
@[go_sem] theorem aiP (ep m i off j : Nat) : akz ep m i off j = .ap j ep m i off := (rfl)
@[go_sem] theorem akA (id ep m i off : Nat) : ren f n (.ap id ep m i off) = (f id).map (akz ep m i off) := by cases n <;> rfl
def acP(ep m:Nat)(j:Nat):D:= .ref j ep m
@[go_sem] theorem afY (ep m j : Nat) : acP ep m j = .ref j ep m := (rfl)
@[go_sem] theorem aiQ (id ep m : Nat) : ren f n (.ref id ep m) = (f id).map (acP ep m) := by cases n <;> rfl
def acQ(ep m lo hi:Nat)(j:Nat):D:= .sub j ep m lo hi
@[go_sem] theorem afZ (ep m lo hi j : Nat) : acQ ep m lo hi j = .sub j ep m lo hi := (rfl)
@[go_sem] theorem aiR (id ep m lo hi : Nat) : ren f n (.sub id ep m lo hi) = (f id).map (acQ ep m lo hi) := by cases n <;> rfl
@[go_sem] theorem acR (g : Nat) (cs : List D) : ren f (n + 1) (.fn g cs) = (cK (ren f n) cs).map (.fn g) := (rfl)
@[go_sem] theorem aiS (cs : List D) : ren f (n + 1) (.agg cs) = (cK (ren f n) cs).map .agg := (rfl)
@[go_sem] theorem aiT (cs : List D) : ren f (n + 1) (.tup cs) = (cK (ren f n) cs).map .tup := (rfl)
@[go_sem] theorem vA (ts : List T) : cK (ren f n) (ts.map .t) = some (ts.map .t) := by
 induction ts with
 | nil=>rfl
 | cons t ts ih=>rw[List.map_cons,GM,aiL,aLq,Vh,ih];rfl
@[go_sem] theorem Td (m : Nat) (x : T) : cK (ren f n) (List.replicate m (.t x)) = some (List.replicate m (.t x)) := by
 have:List.replicate m (D.t x)=(List.replicate m x).map .t:=by simp
 rw[this,vA]
@[go_sem] theorem LW (cs : List D) : jP f (.box cs) = (cK (ren f 8) cs).map .box := (rfl)
@[go_sem] theorem Zr (sz ep : Nat) (pin : Bool) (es : List D) : jP f (.arr sz pin ep es) = (cK (ren f 8) es).map (.arr sz pin ep) := (rfl)
end
def Zs(x:Option Nat):Bool→Option Nat
 | true=>some 0
 | false=>x.map (· +1)
@[go_sem] theorem akB (x : Option Nat) : Zs x true = some 0 := (rfl)
@[go_sem] theorem akC (k : Nat) : Zs (some k) false = some (k + 1) := (rfl)
@[go_sem] theorem akD : Zs none false = none := (rfl)
@[go_sem] theorem idxOf_nil (i : Nat) : idxOf [] i = none := (rfl)
@[go_sem] theorem idxOf_cons (j i : Nat) (r : List Nat) : idxOf (j :: r) i = Zs (idxOf r i) (eqB j i) := by
 simp only[idxOf,Jh]
 by_cases h:j=i
 · simp[h,Zs]
 · simp[h,Zs]
@[go_sem] theorem Zt (n i : Nat) : fV [] n i = some (n + i) := by simp [fV]
@[go_sem] theorem af0 (j n : Nat) (r : List Nat) : fV (j :: r) n 0 = some j := by simp [fV]
@[go_sem] theorem af1 (j n i : Nat) (r : List Nat) : fV (j :: r) n (i + 1) = fV r n i := by
 simp only[fV,List.length_cons,Nat.add_lt_add_iff_right,List.getElem?_cons_succ,Nat.add_sub_add_right]
@[go_sem] theorem VS {α : Type} (H os : List α) : dR H [] os = H := by cases os <;> rfl
@[go_sem] theorem Te {α : Type} (H : List α) (i : Nat) (r : List Nat) (o : α) (os : List α) : dR H (i :: r) (o :: os) = dR (H.set i o) r os := (rfl)
def lbP(sz:Nat)(p:List D×aq):List D×aq:=(p.1,.arr sz false 0 []::p.2)
@[go_sem] theorem akE (sz : Nat) (cs : List D) (os : aq) : lbP sz (cs, os) = (cs, .arr sz false 0 [] :: os) := (rfl)
def lbC(base:Nat)(cs:List D)(off sz:Nat)(r:List (Nat×Nat)):Option D→List D×aq
 | some .nil=>lbP sz (cu (base+1) (cs.set off (.ref base 0 0)) r)
 | _=>cu base cs r
@[go_sem] theorem aiU (base : Nat) (cs : List D) (off sz : Nat) (r : List (Nat × Nat)) : lbC base cs off sz r (some .nil) = lbP sz (cu (base + 1) (cs.set off (.ref base 0 0)) r) := (rfl)
@[go_sem] theorem alO (base : Nat) (cs : List D) (off sz : Nat) (r : List (Nat × Nat)) (x : T) : lbC base cs off sz r (some (.t x)) = cu base cs r := (rfl)
@[go_sem] theorem aiV (base : Nat) (cs : List D) (off sz : Nat) (r : List (Nat × Nat)) (a b c : Nat) : lbC base cs off sz r (some (.ref a b c)) = cu base cs r := (rfl)
@[go_sem] theorem Tf (base : Nat) (cs : List D) (off sz : Nat) (r : List (Nat × Nat)) : cu base cs ((off, sz) :: r) = lbC base cs off sz r cs[off]? := by
 simp only[cu,lbC]
 split<;>split<;>simp_all [lbP]
def lvP(H:aq)(id:Nat)(p:List D×aq):Option (D×aq):=some (.tup [],H.set id (.box p.1)++p.2)
@[go_sem] theorem akF (H : aq) (id : Nat) (cs : List D) (os : aq) : lvP H id (cs, os) = some (.tup [], H.set id (.box cs) ++ os) := (rfl)
def lvB(H:aq)(id:Nat)(l:List (Nat×Nat)):Option Obj→Option (D×aq)
 | some (.box cs)=>lvP H id (cu H.length cs l)
 | _=>none
@[go_sem] theorem akG (H : aq) (id : Nat) (l : List (Nat × Nat)) (cs : List D) : lvB H id l (some (.box cs)) = lvP H id (cu H.length cs l) := (rfl)
@[go_sem] theorem VT (H : aq) (id : Nat) (x : Nat × Nat) (r : List (Nat × Nat)) : D4 H id (x :: r) = lvB H id (x :: r) H[id]? := by
 simp only[D4,rW]
 generalize H[id]?=o
 rcases o with _ | (cs | _)
 · rfl
 · rfl
 · rfl
section
variable (H : aq)
def klE(n:Nat)(sel new:List Nat)(os:aq)(q:List Nat×aq):Option (List Nat×aq):=some (new++q.1,os++q.2)
@[go_sem] theorem akH (n : Nat) (sel new : List Nat) (os : aq) (a : List Nat) (b : aq) : klE n sel new os (a, b) = some (new ++ a, os ++ b) := (rfl)
def klD(n:Nat)(sel new:List Nat)(os:aq):Option (List Nat×aq):=(pY H n (sel++new) (tQ H new)).bind (klE n sel new os)
@[go_sem] theorem akI (n : Nat) (sel new : List Nat) (os : aq) : klD H n sel new os = (pY H n (sel ++ new) (tQ H new)).bind (klE n sel new os) := (rfl)
def Aq(sel:List Nat):List Nat→Bool
 | []=>true
 | i::r=> !IB i sel&&Aq sel r
@[go_sem] theorem Zu (sel : List Nat) : Aq sel [] = true := (rfl)
@[go_sem] theorem VU (sel : List Nat) (i : Nat) (r : List Nat) : Aq sel (i :: r) = (!IB i sel && Aq sel r) := (rfl)
theorem GR(sel l:List Nat):l.all (fun i=> !sel.contains i)=Aq sel l:=by
 induction l with
 | nil=>rfl
 | cons i r ih=>rw[List.all_cons,ih,EY];rfl
def klC(n:Nat)(sel new:List Nat)(os:aq):Option (List Nat×aq):=
 (if n=0 then(if(os.flatMap fun o=>o.ds.flatMap (gz H depth)).all (fun i=> !(sel++new).contains i)then cK (gl H) os else none)else some os).bind (klD H n sel new)
def xZ:aq→List Nat
 | []=>[]
 | .box cs::r=>tD H 8 cs++xZ r
 | .arr _ _ _ es::r=>tD H 8 es++xZ r
@[go_sem] theorem Zv : xZ H [] = [] := (rfl)
@[go_sem] theorem Zw (cs : List D) (r : aq) : xZ H (.box cs :: r) = tD H 8 cs ++ xZ H r := (rfl)
@[go_sem] theorem Zx (sz ep : Nat) (pin : Bool) (es : List D) (r : aq) : xZ H (.arr sz pin ep es :: r) = tD H 8 es ++ xZ H r := (rfl)
theorem Oo(os:aq):(os.flatMap fun o=>o.ds.flatMap (gz H depth))=xZ H os:=by
 induction os with
 | nil=>rfl
 | cons o r ih=>rw[List.flatMap_cons,ih];cases o<;>rfl
@[go_sem] theorem alQ (sel new : List Nat) (os : aq) : klC H 0 sel new os = (if Aq (sel ++ new) (xZ H os) = true then cK (gl H) os else none).bind (klD H 0 sel new) := by
 simp only[klC,Oo,GR,if_true]
@[go_sem] theorem alR (n : Nat) (sel new : List Nat) (os : aq) : klC H (n + 1) sel new os = klD H (n + 1) sel new os := by
 simp[klC]
def klN(n:Nat)(sel new:List Nat):Option (List Nat×aq):=(pick H new).bind (klC H n sel new)
@[go_sem] theorem akJ (n : Nat) (sel new : List Nat) : klN H n sel new = (pick H new).bind (klC H n sel new) := (rfl)
@[go_sem] theorem af2 (sel front : List Nat) : pY H 0 sel front = some ([], []) := (rfl)
@[go_sem] theorem af3 (n : Nat) (sel front : List Nat) : pY H (n + 1) sel front = klN H n sel ((ir sel front).drop sel.length) := by
 simp only[pY,klN]
 generalize (ir sel front).drop sel.length=new
 cases pick H new with
 | none=>rfl
 | some os=>
   simp only[aLq,klC]
   congr 1
   funext os'
   simp only[klD]
   cases pY H n (sel++new) (tQ H new)<;>rfl
@[go_sem] theorem Rn (cs : List D) : gl H (.box cs) = (cK (vS H) cs).map .box := (rfl)
@[go_sem] theorem EZ (sz ep : Nat) (pin : Bool) (ts : List T) : gl H (.arr sz pin ep (ts.map .t)) = some (.arr sz pin ep (ts.map .t)) := by
 simp only[gl,xY,aLw]
@[go_sem] theorem Ro (sz ep : Nat) (pin : Bool) : gl H (.arr sz pin ep []) = some (.arr sz pin ep []) := (rfl)
@[go_sem] theorem Rq (sz ep : Nat) (pin : Bool) (m : Nat) (x : T) : gl H (.arr sz pin ep (List.replicate m (.t x))) = some (.arr sz pin ep (List.replicate m (.t x))) := by
 have:List.replicate m (D.t x)=(List.replicate m x).map .t:=by simp
 rw[this,EZ]
def aiW(k raw:Nat)(H:aq)(ds rs:List D)(q:List Nat×aq):Option (D×aq):=
 if Aq (List.range k++q.1) (lA H raw ds)=true then
  (cK (ren (idxOf (List.range k++q.1)) depth) rs).bind fun rs'=>(cK (jP (idxOf (List.range k++q.1))) (H.take k++q.2)).map fun hs'=>(AL rs',hs')
 else none
def Oq(sel:List Nat)(H2:aq)(rs':List D):Option (D×aq):=(cK (jP (idxOf sel)) H2).bind (finT3 rs')
where finT3 (rs':List D) (hs:aq):Option (D×aq):=some (AL rs',hs)
@[go_sem] theorem af4 (rs' : List D) (hs : aq) : Oq.finT3 rs' hs = some (AL rs', hs) := (rfl)
@[go_sem] theorem af5 (sel : List Nat) (H2 : aq) (rs' : List D) : Oq sel H2 rs' = (cK (jP (idxOf sel)) H2).bind (Oq.finT3 rs') := (rfl)
@[go_sem] theorem aiX (k raw : Nat) (ds rs : List D) (sel : List Nat) (os : aq) : aiW k raw H ds rs (sel, os) =
 if Aq (List.range k++sel) (lA H raw ds)=true then(cK (ren (idxOf (List.range k++sel)) 8) rs).bind (Oq (List.range k++sel) (H.take k++os))else none:=by
 simp only[aiW,depth]
 split
 · cases cK (ren (idxOf (List.range k++sel)) 8) rs with
   | none=>rfl
   | some rs'=>simp only[aLq,Oq];cases cK (jP (idxOf (List.range k++sel))) (H.take k++os)<;>rfl
 · rfl
@[go_sem] theorem aiY (k raw : Nat) (ds rs : List D) : afN k raw H ds rs = (pY H (max raw 1) (List.range k) (B9 8 rs ++ tQ H (List.range k))).bind (aiW k raw H ds rs) := by
 simp only[afN,GR,B9,depth];rfl
@[go_sem] theorem Zy (k raw : Nat) (ds rs : List D) : Zi k raw H ds rs false = afN k raw H ds rs := (rfl)
@[go_sem] theorem Zz (k raw : Nat) (ds : List D) : finish k (raw + 1) H ds = acx k (raw + 1) H ds ds := by
 simp only[finish,Nat.add_one_ne_zero,if_false,aLq,oQ,KP,acx,Zi]
 show(if(iu k 8 ds&&iv k (H.take k))=true then _ else _)=_
 cases (iu k 8 ds&&iv k (H.take k))<;>rfl
@[go_sem] theorem VV (raw : Nat) (ds : List D) : lA H (raw + 1) ds = [] := by simp [lA]
@[go_sem] theorem af6 : max 0 1 = 1 := (rfl)
@[go_sem] theorem aiZ (r : Nat) : max (r + 1) 1 = r + 1 := by omega
@[go_sem] theorem ZA : List.range 0 = [] := (rfl)
@[go_sem] theorem ZB : List.range 1 = [0] := (rfl)
@[go_sem] theorem ZC : List.range 2 = [0, 1] := (rfl)
@[go_sem] theorem ZD : List.range 3 = [0, 1, 2] := (rfl)
@[go_sem] theorem ZE : List.range 4 = [0, 1, 2, 3] := (rfl)
end
theorem KV{α:Type}(f:α→T)(l:List α)(i:Nat)(x:α)(y:D)(h:y= .t (f x)):((l.map f).map D.t).set i y=((l.set i x).map f).map D.t:=by
 rw[h,List.map_map,List.map_map]
 exact(List.map_set (f:=D.t ∘ f)).symm
@[go_sem] theorem ai0 (l : List Int) (i : Nat) (k : IntKind) (x : Int) : ((l.map (T.int k)).map D.t).set i (.t (.int k x)) = ((l.set i x).map (T.int k)).map D.t := KV _ l i x _ rfl
@[go_sem] theorem af7 (l : List Bool) (i : Nat) (x : Bool) : ((l.map T.bool).map D.t).set i (.t (.bool x)) = ((l.set i x).map T.bool).map D.t := KV _ l i x _ rfl
end Go.Ev
namespace Go.Ev
class Lib where
 fs:Nat→Option Fn
end Go.Ev
namespace Go.Ev.K
abbrev u(x:O):R:={ o:=x}
abbrev w(n:Nat)(x:O):R:={ o:=x,d:=some n}
abbrev y(n:Nat)(b:Bool)(x:O):R:={ o:=x,g:=some (n,b)}
abbrev m(x:X):R:={ o:= .mv x}
abbrev g(x:X):R:={ o:= .ld x 1 false}
abbrev h(n:Nat)(x:X):R:={ o:= .ld x n true}
abbrev f(n:Nat)(x:X):R:={ o:= .fa x n}
abbrev a(n:Nat)(x z:X):R:={ o:= .ia x z n}
abbrev l0:X:= .l 0
abbrev l1:X:= .l 1
abbrev l2:X:= .l 2
abbrev l3:X:= .l 3
abbrev l4:X:= .l 4
abbrev l5:X:= .l 5
abbrev l6:X:= .l 6
abbrev l7:X:= .l 7
abbrev l8:X:= .l 8
abbrev l9:X:= .l 9
abbrev l10:X:= .l 10
abbrev l11:X:= .l 11
abbrev v0:X:= .v 0
abbrev v1:X:= .v 1
abbrev v2:X:= .v 2
abbrev v3:X:= .v 3
abbrev v4:X:= .v 4
abbrev v5:X:= .v 5
abbrev v6:X:= .v 6
abbrev v7:X:= .v 7
abbrev v8:X:= .v 8
abbrev v9:X:= .v 9
abbrev v10:X:= .v 10
abbrev v11:X:= .v 11
abbrev v12:X:= .v 12
abbrev v13:X:= .v 13
abbrev v14:X:= .v 14
abbrev v15:X:= .v 15
abbrev v16:X:= .v 16
abbrev v17:X:= .v 17
abbrev v18:X:= .v 18
abbrev v19:X:= .v 19
abbrev v20:X:= .v 20
abbrev v21:X:= .v 21
abbrev v22:X:= .v 22
abbrev v23:X:= .v 23
end Go.Ev.K
namespace Go.Ev.K
abbrev q(a:List R)(p:List (Nat×Nat))(c:C):C:= .seq (.reg a p) c
abbrev z0:D:= .t (.int .i64 (0))
abbrev z1:D:= .t (.bool false)
abbrev x(n:Nat)(z:X):R:={ o:= .mv z,d:=some n}
abbrev e(n:Nat)(b:Bool)(z:X):R:={ o:= .mv z,g:=some (n,b)}
abbrev i(n:Nat)(b:Bool)(z:X):R:={ o:= .ld z 1 false,g:=some (n,b)}
end Go.Ev.K
namespace Go.Ev.N
def Jj:Nat:=0
def jT:Nat:=1
def VW:Nat:=2
def kW:Nat:=3
def df:Nat:=4
def ZF:Nat:=5
def M7:Nat:=6
def cX:Nat:=7
def M8:Nat:=8
def aR:Nat:=9
def bI:Nat:=10
def LX:Nat:=11
def iL:Nat:=12
def P8:Nat:=13
def Ot:Nat:=14
def cm:Nat:=15
def dy:Nat:=16
def VX:Nat:=17
def Tg:Nat:=18
def eD:Nat:=19
def P9:Nat:=20
def acS:Nat:=21
def Th:Nat:=22
def ka:Nat:=23
def Ti:Nat:=24
def Ou:Nat:=25
def Qa:Nat:=26
def Qb:Nat:=27
def cG:Nat:=28
def iY:Nat:=29
def gn:Nat:=30
def VY:Nat:=31
def jU:Nat:=32
def VZ:Nat:=33
def Tj:Nat:=34
def gA:Nat:=35
def fj:Nat:=36
def iC:Nat:=37
def V0:Nat:=38
def dz:Nat:=39
def ZG:Nat:=40
def V1:Nat:=41
def ZH:Nat:=42
def V2:Nat:=43
def gB:Nat:=44
def acT:Nat:=45
def Tk:Nat:=46
def V3:Nat:=47
def Qc:Nat:=48
def ax:Nat:=49
def LY:Nat:=50
def aP:Nat:=51
def M9:Nat:=52
def Qd:Nat:=53
def ji:Nat:=54
def jV:Nat:=55
def gC:Nat:=56
def iZ:Nat:=57
def i4:Nat:=58
def ZI:Nat:=59
def V4:Nat:=60
def jW:Nat:=61
def aS:Nat:=62
def ZJ:Nat:=63
def V5:Nat:=64
def gT:Nat:=65
def bA:Nat:=66
def bK:Nat:=67
def Na:Nat:=68
def uf:Nat:=69
def KW:Nat:=70
def bc:Nat:=71
def V6:Nat:=72
def dS:Nat:=73
def gJ:Nat:=74
def vY:Nat:=75
def cE:Nat:=76
def jX:Nat:=77
end Go.Ev.N
namespace Go.Ev.K
open Go.Ev
def jT:Fn:= { aD:=1,vars:=[0,2],body:=(q [x 1 (.b false)] [] (q [m v0,u (.ln l0),u (.bin .leq l0 (.i 400)),x 1 l0] [] .ret)),res:=[(1,none)]}
def kW:Fn:= { aD:=1,vars:=[0,2],body:=(q [w 1 (.mv (.c (.nilp)))] [] (q [m v0,u (.bd [.nil,z0] [(0,1,.l 0)]),u (.bx l0 2),x 1 l0] [] .ret)),res:=[(1,none)]}
def kc:C:= (.seq (.ite [m v4,m v3,u (.bin .lss l1 l0)] [] 0 .skip (.exit 0)) (.seq (.blk 1 (.reg [f 0 v2,g l0,m v0,u (.ca N.aR 0 [] [.l 0,.i 4]),u (.bin .mul (.i (-10)) l0),m v4,u (.bin .eql l0 (.i 0)),m l0,e 0 false v0,y 1 false (.ca N.cm 0 [] [.l 0,.i 6]),u (.pk l2 (.b true) l0),u (.bd [z0,z1] [(0,1,.l 6),(1,1,.l 0)]),u (.bs [.l 0] 2),u (.app l11 l0 true 2),f 0 v2,u (.st l0 l1 1 [])] [(1,4),(1,10),(1,13)])) (.reg [m v4,u (.bin .add l0 (.i 1)),x 4 l0] [])))
def rk:C:= .loop true [5,6,7,8,9] K.kc
def mz:C:= (.seq (.ite [m v6,m v3,u (.bin .lss l1 l0)] [] 0 .skip (.exit 2)) (.seq (.blk 3 (q [h 10 v5,w 7 (.al [z0,z0,z0,z0,z1,z1,z0,z0,z0,z0] []),u (.st l0 l1 10 [])] [] (q [m v6,u (.bin .sub l0 (.i 1)),m v0,m v6,u (.mn [.l 0,.i 2]),u (.ca N.aR 0 [] [.l 2,.l 0]),u (.bin .sub l4 l0),m v6,m v0,u (.bs [.i 11,.i 59,.i 119,.i 4] 1),u (.ca N.bI 0 [] [.l 1,.l 0]),u (.bin .add (.i 1) l0),m v0,u (.bs [.i 9,.i 3,.i 19] 1),u (.ca N.bI 0 [] [.l 1,.l 0]),u (.bin .add (.i 1) l0),f 0 v7,u (.st l0 l10 1 []),f 1 v7,u (.st l0 l11 1 []),f 2 v7,u (.st l0 l9 1 []),f 3 v7,u (.st l0 l7 1 [])] [] (.reg [f 1 v2,g l0,h 10 v7,u (.bs [.l 0] 10),u (.app l2 l0 true 10),f 1 v2,u (.st l0 l1 1 [])] [])))) (.reg [m v6,u (.bin .add l0 (.i 1)),x 6 l0] [])))
def rm:C:= .loop true [4,7,8,9] K.mz
def eE:C:= (.seq (.ite [m v8,u (.bin .gtr l0 (.i 0)),m l0,y 0 true (.fa v2 1),i 1 true l0,y 2 true (.ln l0),y 3 true (.bin .lss l0 (.i 10)),u (.pk l4 l0 (.b false))] [] 0 .skip (.exit 4)) (.seq (.blk 5 (q [h 10 v5,w 9 (.al [z0,z0,z0,z0,z1,z1,z0,z0,z0,z0] []),u (.st l0 l1 10 [])] [] (q [m v0,m v3,u (.ca N.aR 0 [] [.l 1,.l 0]),m v0,m v3,u (.ca N.aR 0 [] [.l 1,.l 0]),m v0,u (.bs [.i 11,.i 59,.i 199] 1),u (.ca N.bI 0 [] [.l 1,.l 0]),u (.bin .add (.i 1) l0),m v0,u (.bs [.i 9,.i 3] 1),u (.ca N.bI 0 [] [.l 1,.l 0]),u (.bin .add (.i 1) l0),f 0 v9,u (.st l0 (.l 12) 1 []),f 1 v9,u (.st l0 l11 1 []),f 2 v9,u (.st l0 l9 1 []),f 3 v9,u (.st l0 l7 1 [])] [] (q [m v0,u (.ca N.aR 0 [] [.l 0,.i 5]),u (.bin .gtr l0 (.i 0)),m v0,u (.ca N.cm 0 [] [.l 0,.i 6]),f 4 v9,u (.st l0 l3 1 []),f 5 v9,u (.st l0 l3 1 [])] [] (.ite [f 0 v9,g l0,f 1 v9,g l0,u (.bin .neq l2 l0)] [] 0 (.reg [f 1 v2,g l0,h 10 v9,u (.bs [.l 0] 10),u (.app l2 l0 true 10),f 1 v2,u (.st l0 l1 1 [])] []) .skip))))) (.reg [m v8,u (.bin .sub l0 (.i 1)),x 8 l0] [])))
def rn:C:= .loop true [4,6,7,9] K.eE
def df:Fn:= { aD:=1,vars:=[0,2,3,4,5,6,7,8,9,10],body:=(q [w 1 (.al [.nil,.nil] [])] [] (q [w 2 (.al [.nil,.nil] [(0,2),(1,10)])] [] (q [m v0,u (.ca N.aR 0 [] [.l 0,.i 6]),u (.bin .add (.i 2) l0),x 3 l0] [] (.seq (.ite [m v0,u (.nc l0),f 0 l0,g l0,u (.ln l0),u (.bin .eql l0 (.i 0))] [] 0 (.reg [x 3 (.i 4)] []) .skip) (.seq (q [x 4 (.i 0)] [] (.blk 0 K.rk)) (q [u (.bd [z0,z0] [(0,1,.i 1),(1,1,.i 1)]),u (.bd [z0,z0,z0,z0,z1,z1,z0,z0,z0,z0] [(2,1,.i 12),(3,1,.i 10),(4,1,.b true),(6,2,.l 0)]),w 5 (.al [z0,z0,z0,z0,z1,z1,z0,z0,z0,z0] []),u (.st l0 l1 10 [])] [] (.seq (q [x 6 (.i 1)] [] (.blk 2 K.rm)) (.seq (q [m v0,u (.ca N.aR 0 [] [.l 0,.i 4]),x 8 l0] [] (.blk 4 K.rn)) (q [h 2 v2,u (.st v1 l0 2 [])] [] .ret))))))))),res:=[(1,some (2,true))]}
def gU:C:= (.seq (.ite [m v5,f 1 v2,g l0,u (.ln l0),u (.bin .lss l3 l0)] [] 0 .skip (.exit 0)) (.seq (.blk 1 (q [m v0,u (.bs [.i 0,.i 1000,.i 5000,.i 20000,.i (-5000),.i (-20000),.i 4999,.i 100] 1),u (.ca N.bI 0 [] [.l 1,.l 0]),x 6 l0] [] (q [m v4,m v6,m v0,u (.bs [.i 0,.i 1,.i 1000,.i 6000] 1),u (.ca N.bI 0 [] [.l 1,.l 0]),u (.bin .sub l3 l0),m v6,m v0,u (.bs [.i 0,.i 1,.i 500] 1),u (.ca N.bI 0 [] [.l 1,.l 0]),u (.bin .add l3 l0),u (.bd [z0,z0] [(0,1,.l 5),(1,1,.l 0)]),u (.bs [.l 0] 2),u (.app (.l 12) l0 true 2),x 4 l0] [] (.ite [m v0,u (.ca N.cm 0 [] [.l 0,.i 9])] [] 0 (.reg [m v4,m v5,u (.bd [z0,z0] [(0,1,.i (-1125899906842624)),(1,1,.i 1125899906842624)]),a 2 l2 l1,u (.st l0 l1 2 [])] []) .skip)))) (.reg [m v5,u (.bin .add l0 (.i 1)),x 5 l0] [])))
def p6:C:= .loop true [1,3,6] K.gU
def cX:Fn:= { aD:=2,vars:=[0,1,3,4,5,6,7],body:=(q [w 2 (.bx v1 2),w 3 (.mv (.c (.nil)))] [] (q [w 4 (.nw 2)] [] (.seq (q [x 5 (.i 0)] [] (.blk 0 K.p6)) (q [m v4,x 3 l0] [] .ret)))),res:=[(3,none)]}
def aR:Fn:= { aD:=2,vars:=[0,1,4],body:=(q [x 2 (.i 0)] [] (.seq (.ite [m v0,u (.nc l0),f 1 l0,g l0,m v0,u (.nc l0),f 0 l0,g l0,u (.ln l0),u (.bin .geq l5 l0)] [] 0 (q [x 2 (.i 0)] [] .ret) .skip) (q [m v0,u (.nc l0),f 1 l0,g l0,u (.bin .add l0 (.i 1)),u (.nc l4),f 1 l0,u (.st l0 l2 1 [])] [] (q [m v0,u (.nc l0),f 0 l0,g l0,m v0,u (.nc l0),f 1 l0,g l0,u (.bin .sub l0 (.i 1)),a 1 l5 l0,g l0,m v1,u (.ca N.ka 0 [] [.l 1,.l 0]),x 2 l0] [] .ret)))),res:=[(2,none)]}
def bI:Fn:= { aD:=2,vars:=[0,1,4],body:=(q [x 2 (.i 0)] [] (q [m v1,m v0,m v1,u (.ln l0),u (.ca N.aR 0 [] [.l 2,.l 0]),a 1 l4 l0,g l0,x 2 l0] [] .ret)),res:=[(2,none)]}
def oI:C:= (.seq (.ite [m v3,m v0,u (.ln l0),u (.bin .lss l2 l0)] [] 0 .skip (.exit 0)) (.seq (.blk 1 (.ite [m v0,m v3,a 1 l1 l0,g l0,m v1,u (.bin .eql l1 l0)] [] 0 (q [x 2 (.b true)] [] .ret) .skip)) (.reg [m v3,u (.bin .add l0 (.i 1)),x 3 l0] [])))
def Ar:C:= .loop true [2] K.oI
def iL:Fn:= { aD:=2,vars:=[0,1,4,5],body:=(q [x 2 (.b false)] [] (.seq (q [x 3 (.i 0)] [] (.blk 0 K.Ar)) (q [x 2 (.b false)] [] .ret))),res:=[(2,none)]}
def cm:Fn:= { aD:=2,vars:=[0,1,4],body:=(q [x 2 (.b false)] [] (q [m v0,m v1,u (.ca N.aR 0 [] [.l 1,.l 0]),m v1,u (.bin .sub l0 (.i 1)),u (.bin .eql l2 l0),x 2 l0] [] .ret)),res:=[(2,none)]}
def kd:C:= (.seq (.ite [m v4,m v1,u (.bin .lss l1 l0)] [] 0 .skip (.exit 0)) (.seq (.blk 1 (.ite [m v0,u (.ca N.aR 0 [] [.l 0,.i 3]),u (.bin .eql l0 (.i 0))] [] 0 (.reg [m v3,m v4,u (.bs [.l 0] 1),u (.app l2 l0 true 1),x 3 l0] []) .skip)) (.reg [m v4,u (.bin .add l0 (.i 1)),x 4 l0] [])))
def rq:C:= .loop true [2] K.kd
def dy:Fn:= { aD:=2,vars:=[0,1,4,5,6],body:=(q [w 2 (.mv (.c (.nil)))] [] (q [w 3 (.nw 1)] [] (.seq (q [x 4 (.i 0)] [] (.blk 0 K.rq)) (q [m v3,x 2 l0] [] .ret)))),res:=[(2,none)]}
def mA:C:= (.seq (.ite [m v8,m v1,u (.ln l0),u (.bin .lss l2 l0)] [] 0 .skip (.exit 0)) (.seq (.blk 1 (q [w 9 (.al [z0,.nil] []),h 2 v4,m v2,m v8,a 1 l1 l0,g l0,m v3,u (.ca N.fj 0 [] [.l 5,.l 1,.l 0]),m l0,u (.ex l0 0),u (.ex l1 1),u (.st l10 l1 2 []),x 10 l1] [(0,8)] (.seq (.ite [m v10,u (.bin .neq l0 (.i 0))] [] 0 (q [u (.bd [.nil] []),m v10,u (.st v5 l1 1 []),x 6 l1] [] .ret) .skip) (.reg [f 1 v7,g l0,h 2 v9,u (.bs [.l 0] 2),u (.app l2 l0 true 2),f 1 v7,u (.st l0 l1 1 [])] [])))) (.reg [m v8,u (.bin .add l0 (.i 1)),x 8 l0] [])))
def vZ:C:= .loop true [0,6,9,10] K.mA
def eD:Fn:= { aD:=4,vars:=[0,1,2,3,4,8,9,10,11,12,13],body:=(q [w 4 (.bx v0 2),w 5 (.al [.nil] []),x 6 (.i 0)] [] (.seq (.ite [h 2 v4,u (.ca N.cG 0 [] [.l 0]),u (.bin .neq l0 (.i 0)),m l0,e 0 false v1,y 1 false (.ln l0),e 2 false v2,y 3 false (.ln l0),y 4 false (.bin .neq l2 l0),u (.pk l5 (.b true) l0),m l0,e 0 false v1,y 1 false (.ln l0),y 2 false (.bin .lss l0 (.i 1)),u (.pk l3 (.b true) l0),m l0,e 0 false v1,y 1 false (.ln l0),y 2 false (.bin .gtr l0 (.i 12)),u (.pk l3 (.b true) l0)] [] 0 (q [u (.bd [.nil] []),u (.st v5 l0 1 []),x 6 (.i 6)] [] .ret) .skip) (.seq (.ite [m v1,u (.ca N.gA 0 [] [.l 0]),u (.un .not l0)] [] 0 (q [u (.bd [.nil] []),u (.st v5 l0 1 []),x 6 (.i 41)] [] .ret) .skip) (q [m v1,u (.app (.c (.nil)) l0 true 1),u (.bd [.nil,.nil] [(0,1,.l 0)]),w 7 (.al [.nil,.nil] [(1,2)]),u (.st l0 l1 2 [(1,2)])] [] (.seq (q [x 8 (.i 0)] [] (.blk 0 K.vZ)) (q [h 2 v7,u (.bs [.l 0] 2),u (.bd [.nil] [(0,1,.l 0)]),u (.st v5 l0 1 []),x 6 (.i 0)] [] .ret)))))),res:=[(5,some (1,true)),(6,none)]}
def ka:Fn:= { aD:=2,vars:=[0,1,4],body:=(q [x 2 (.i 0)] [] (.seq (.ite [m v1,u (.bin .lss l0 (.i 1))] [] 0 (q [x 2 (.i 0)] [] .ret) .skip) (q [m v0,m v1,u (.bin .rem l1 l0),x 0 l0] [] (.seq (.ite [m v0,u (.bin .lss l0 (.i 0))] [] 0 (.reg [m v0,m v1,u (.bin .add l1 l0),x 0 l0] []) .skip) (q [m v0,x 2 l0] [] .ret))))),res:=[(2,none)]}
def kp:C:= (.seq (.ite [m v3,f 0 v1,g l0,u (.ln l0),u (.bin .lss l3 l0)] [] 0 .skip (.exit 0)) (.seq (.blk 1 (q [f 0 v1,g l0,m v3,a 2 l1 l0,f 0 l0,g l0,x 4 l0] [] (.ite [m v4,u (.bin .lss l0 (.i (-10000))),m l0,e 0 false v4,y 1 false (.bin .gtr l0 (.i 10000)),u (.pk l2 (.b true) l0)] [] 0 (q [x 2 (.i 1)] [] .ret) .skip))) (.reg [m v3,u (.bin .add l0 (.i 1)),x 3 l0] [])))
def qs:C:= .loop true [0,2,4,5,6] K.kp
def jj:C:= (.seq (.ite [m v5,f 1 v1,g l0,u (.ln l0),u (.bin .lss l3 l0)] [] 0 .skip (.exit 2)) (.seq (.blk 3 (q [f 1 v1,g l0,m v5,a 10 l1 l0,h 10 l0,w 6 (.al [z0,z0,z0,z0,z1,z1,z0,z0,z0,z0] []),u (.st l0 l1 10 [])] [] (.seq (.ite [f 0 v6,g l0,u (.bin .lss l0 (.i 0)),m l0,y 0 false (.fa v6 0),i 1 false l0,y 2 false (.fa v1 0),i 3 false l0,y 4 false (.ln l0),y 5 false (.bin .geq l3 l0),u (.pk l6 (.b true) l0),m l0,y 0 false (.fa v6 1),i 1 false l0,y 2 false (.bin .lss l0 (.i 0)),u (.pk l3 (.b true) l0),m l0,y 0 false (.fa v6 1),i 1 false l0,y 2 false (.fa v1 0),i 3 false l0,y 4 false (.ln l0),y 5 false (.bin .geq l3 l0),u (.pk l6 (.b true) l0),m l0,y 0 false (.fa v6 0),i 1 false l0,y 2 false (.fa v6 1),i 3 false l0,y 4 false (.bin .eql l2 l0),u (.pk l5 (.b true) l0)] [] 0 (q [x 2 (.i 4)] [] .ret) .skip) (.ite [f 2 v6,g l0,u (.bin .lss l0 (.i 1)),m l0,y 0 false (.fa v6 2),i 1 false l0,y 2 false (.bin .gtr l0 (.i 100000)),u (.pk l3 (.b true) l0),m l0,y 0 false (.fa v6 3),i 1 false l0,y 2 false (.bin .lss l0 (.i 1)),u (.pk l3 (.b true) l0),m l0,y 0 false (.fa v6 3),i 1 false l0,y 2 false (.bin .gtr l0 (.i 1000)),u (.pk l3 (.b true) l0),m l0,y 0 false (.fa v6 6),y 1 false (.ld l0 2 true),y 2 false (.ca N.ji 0 [] [.l 0,.i 1,.i 262144]),y 3 false (.un .not l0),u (.pk l4 (.b true) l0),m l0,y 0 false (.fa v6 8),y 1 false (.ld l0 2 true),y 2 false (.ca N.ji 0 [] [.l 0,.i (-2199023255552),.i 2199023255552]),y 3 false (.un .not l0),u (.pk l4 (.b true) l0)] [] 0 (q [x 2 (.i 1)] [] .ret) .skip)))) (.reg [m v5,u (.bin .add l0 (.i 1)),x 5 l0] [])))
def qt:C:= .loop true [0,2,3,4,6] K.jj
def cG:Fn:= { aD:=1,vars:=[0,1,2,3,4,5,6],body:=(q [w 1 (.bx v0 2),x 2 (.i 0)] [] (.seq (.ite [f 0 v1,g l0,u (.ln l0),u (.bin .gtr l0 (.i 64)),m l0,y 0 false (.fa v1 1),i 1 false l0,y 2 false (.ln l0),y 3 false (.bin .gtr l0 (.i 128)),u (.pk l4 (.b true) l0)] [] 0 (q [x 2 (.i 2)] [] .ret) .skip) (.seq (q [x 3 (.i 0)] [] (.blk 0 K.qs)) (.seq (q [x 5 (.i 0)] [] (.blk 2 K.qt)) (q [x 2 (.i 0)] [] .ret))))),res:=[(2,none)]}
def mB:C:= (.seq (.ite [m v4,m v1,u (.ln l0),u (.bin .lss l2 l0)] [] 0 .skip (.exit 0)) (.seq (.blk 1 (.ite [m v1,m v4,a 2 l1 l0,h 2 l0,u (.ca N.jV 0 [] [.l 0]),u (.un .not l0)] [] 0 (q [x 3 (.b false)] [] .ret) .skip)) (.reg [m v4,u (.bin .add l0 (.i 1)),x 4 l0] [])))
def wa:C:= .loop true [0,3] K.mB
def iY:Fn:= { aD:=2,vars:=[0,1,2,4,5],body:=(q [w 2 (.bx v0 2),x 3 (.b false)] [] (.seq (q [x 4 (.i 0)] [] (.blk 0 K.wa)) (q [m v1,u (.ln l0),f 1 v2,g l0,u (.ln l0),u (.bin .eql l3 l0),x 3 l0] [] .ret))),res:=[(3,none)]}
def jG:C:= (.seq (.ite [m v3,m v0,u (.ln l0),u (.bin .lss l2 l0)] [] 0 .skip (.exit 0)) (.seq (.blk 1 (.ite [m v0,m v3,a 1 l1 l0,g l0,u (.bin .lss l0 (.i 0)),m l0,e 0 false v0,e 1 false v3,y 2 false (.ia l1 l0 1),i 3 false l0,e 4 false v1,y 5 false (.bin .geq l1 l0),u (.pk l6 (.b true) l0),m l0,e 0 false v3,y 1 false (.bin .gtr l0 (.i 0)),e 2 false l0,e 0 true v0,e 1 true v3,y 2 true (.ia l1 l0 1),i 3 true l0,e 4 true v0,e 5 true v3,y 6 true (.bin .sub l0 (.i 1)),y 7 true (.ia l2 l0 1),i 8 true l0,y 9 true (.bin .leq l5 l0),y 13 false (.pk l10 l0 (.b false)),u (.pk (.l 14) (.b true) l0)] [] 0 (q [x 2 (.b false)] [] .ret) .skip)) (.reg [m v3,u (.bin .add l0 (.i 1)),x 3 l0] [])))
def As:C:= .loop true [2] K.jG
def gn:Fn:= { aD:=2,vars:=[0,1,4,5],body:=(q [x 2 (.b false)] [] (.seq (q [x 3 (.i 0)] [] (.blk 0 K.As)) (q [x 2 (.b true)] [] .ret))),res:=[(2,none)]}
def jU:Fn:= { aD:=1,vars:=[0,1,2],body:=(q [w 1 (.bx v0 2),w 2 (.al [z0,.nil] [])] [] (q [f 0 v1,g l0,f 1 v1,g l0,u (.app (.c (.nil)) l0 true 1),u (.bd [z0,.nil] [(0,1,.l 3),(1,1,.l 0)]),u (.st v2 l0 2 [])] [(1,5)] .ret)),res:=[(2,some (2,true))]}
def iD:C:= (.seq (.ite [m v2,m v0,u (.ln l0),u (.bin .lss l2 l0)] [] 0 .skip (.exit 0)) (.seq (.blk 1 (.ite [m v0,m v2,a 1 l1 l0,g l0,u (.bin .lss l0 (.i 1)),m l0,e 0 false v0,e 1 false v2,y 2 false (.ia l1 l0 1),i 3 false l0,y 4 false (.bin .gtr l0 (.i 65535)),u (.pk l5 (.b true) l0),m l0,e 0 false v0,e 1 false v2,y 2 false (.sc l1 none (some l0) 1),e 3 false v0,e 4 false v2,y 5 false (.ia l1 l0 1),i 6 false l0,y 7 false (.ca N.gB 0 [] [.l 4,.l 0]),y 8 false (.bin .geq l0 (.i 0)),u (.pk l9 (.b true) l0)] [] 0 (q [x 1 (.b false)] [] .ret) .skip)) (.reg [m v2,u (.bin .add l0 (.i 1)),x 2 l0] [])))
def ug:C:= .loop true [1] K.iD
def gA:Fn:= { aD:=1,vars:=[0,2,3],body:=(q [x 1 (.b false)] [] (.seq (q [x 2 (.i 0)] [] (.blk 0 K.ug)) (q [x 1 (.b true)] [] .ret))),res:=[(1,none)]}
def fj:Fn:= { aD:=3,vars:=[0,1,2,3,6,7,8],body:=(q [w 3 (.bx v0 2),w 4 (.al [z0,.nil] []),x 5 (.i 0)] [] (.seq (.blk 0 (.ite [h 2 v3,u (.ca N.cG 0 [] [.l 0]),u (.bin .neq l0 (.i 0)),m l0] [] 0 (q [u (.bd [z0,.nil] []),u (.st v4 l0 2 []),x 5 (.i 6)] [] .ret) (.ite [m v1,u (.bin .lss l0 (.i 0)),m l0,e 0 false v1,y 1 false (.fa v3 0),i 2 false l0,y 3 false (.ln l0),y 4 false (.bin .geq l3 l0),u (.pk l5 (.b true) l0),m l0] [] 0 (q [u (.bd [z0,.nil] []),u (.st v4 l0 2 []),x 5 (.i 3)] [] .ret) (.ite [m v2,u (.ca N.gC 0 [] [.l 0]),u (.un .not l0),m l0] [] 0 (q [u (.bd [z0,.nil] []),u (.st v4 l0 2 []),x 5 (.i 8)] [] .ret) .skip)))) (q [f 0 v3,g l0,u (.ln l0),u (.ca N.iZ 1 [] [.l 0]),x 6 l0] [] (q [m v6,m v1,m v2,a 1 l2 l1,u (.st l0 l1 1 [])] [] (q [m v2,h 2 v3,m v6,m v2,u (.ca N.i4 0 [] [.l 2,.l 1,.l 0]),u (.bd [z0,.nil] [(0,1,.l 4),(1,1,.l 0)]),u (.st v4 l0 2 []),x 5 (.i 0)] [] .ret))))),res:=[(4,some (2,true)),(5,none)]}
end Go.Ev.K
namespace Go.Ev
class bO [Lib]:Prop where
 uh:Lib.fs N.jT=some K.jT
 xe:Lib.fs N.kW=some K.kW
 nW:Lib.fs N.df=some K.df
 m8:Lib.fs N.cX=some K.cX
 nX:Lib.fs N.aR=some K.aR
 qu:Lib.fs N.bI=some K.bI
 xf:Lib.fs N.iL=some K.iL
 oZ:Lib.fs N.cm=some K.cm
 nY:Lib.fs N.dy=some K.dy
 si:Lib.fs N.eD=some K.eD
 zi:Lib.fs N.ka=some K.ka
 oJ:Lib.fs N.cG=some K.cG
 sj:Lib.fs N.iY=some K.iY
 xg:Lib.fs N.gn=some K.gn
 ui:Lib.fs N.jU=some K.jU
 qv:Lib.fs N.gA=some K.gA
 sk:Lib.fs N.fj=some K.fj
namespace K
variable [Lib] [bO]
theorem uh:Lib.fs N.jT=some K.jT:=bO.uh
theorem xe:Lib.fs N.kW=some K.kW:=bO.xe
theorem nW:Lib.fs N.df=some K.df:=bO.nW
theorem m8:Lib.fs N.cX=some K.cX:=bO.m8
theorem nX:Lib.fs N.aR=some K.aR:=bO.nX
theorem qu:Lib.fs N.bI=some K.bI:=bO.qu
theorem xf:Lib.fs N.iL=some K.iL:=bO.xf
theorem oZ:Lib.fs N.cm=some K.cm:=bO.oZ
theorem nY:Lib.fs N.dy=some K.dy:=bO.nY
theorem si:Lib.fs N.eD=some K.eD:=bO.si
theorem zi:Lib.fs N.ka=some K.ka:=bO.zi
theorem oJ:Lib.fs N.cG=some K.cG:=bO.oJ
theorem sj:Lib.fs N.iY=some K.iY:=bO.sj
theorem xg:Lib.fs N.gn=some K.gn:=bO.xg
theorem ui:Lib.fs N.jU=some K.jU:=bO.ui
theorem qv:Lib.fs N.gA=some K.gA:=bO.qv
theorem sk:Lib.fs N.fj=some K.fj:=bO.sk
end K
end Go.Ev
namespace Go.Ev.K
open Go.Ev
def qw:C:= (.seq (.ite [m v4,f 0 v1,g l0,u (.ln l0),u (.bin .lss l3 l0)] [] 0 .skip (.exit 0)) (.seq (.blk 1 (.reg [f 0 v3,g l0,f 0 v1,g l0,m v4,a 2 l1 l0,h 2 l0,u (.ca N.dz 0 [] [.l 0]),u (.bs [.l 0] 2),u (.app l7 l0 true 2),f 0 v3,u (.st l0 l1 1 [])] [(1,8),(1,9)])) (.reg [m v4,u (.bin .add l0 (.i 1)),x 4 l0] [])))
def x0:C:= .loop true [0] K.qw
def iC:Fn:= { aD:=1,vars:=[0,1,2,3,4],body:=(q [w 1 (.bx v0 1),w 2 (.al [.nil] [])] [] (q [w 3 (.al [.nil] [(0,2)])] [] (.seq (q [x 4 (.i 0)] [] (.blk 0 K.x0)) (q [h 1 v3,u (.st v2 l0 1 [])] [] .ret)))),res:=[(2,some (1,true))]}
def lC:C:= (.seq (.ite [m v4,f 1 v1,g l0,u (.ln l0),u (.bin .lss l3 l0)] [] 0 .skip (.exit 0)) (.seq (.blk 1 (.reg [f 1 v3,g l0,f 1 v1,g l0,m v4,a 2 l1 l0,h 2 l0,u (.ca N.jW 0 [] [.l 0]),u (.bs [.l 0] 2),u (.app l7 l0 true 2),f 1 v3,u (.st l0 l1 1 [])] [(1,8),(1,9)])) (.reg [m v4,u (.bin .add l0 (.i 1)),x 4 l0] [])))
def p7:C:= .loop true [0] K.lC
def dz:Fn:= { aD:=1,vars:=[0,1,2,3,4],body:=(q [w 1 (.bx v0 2),w 2 (.al [.nil,.nil] [])] [] (q [f 0 v1,g l0,u (.app (.c (.nil)) l0 true 1),u (.bd [.nil,.nil] [(0,1,.l 0)]),w 3 (.al [.nil,.nil] [(1,2)]),u (.st l0 l1 2 [(1,2)])] [] (.seq (q [x 4 (.i 0)] [] (.blk 0 K.p7)) (q [h 2 v3,u (.st v2 l0 2 [])] [] .ret)))),res:=[(2,some (2,true))]}
def lx:C:= (.seq (.ite [m v3,m v0,u (.ln l0),u (.bin .lss l2 l0)] [] 0 .skip (.exit 0)) (.seq (.blk 1 (.ite [m v0,m v3,a 1 l1 l0,g l0,m v1,u (.bin .eql l1 l0)] [] 0 (q [m v3,x 2 l0] [] .ret) .skip)) (.reg [m v3,u (.bin .add l0 (.i 1)),x 3 l0] [])))
def uj:C:= .loop true [2] K.lx
def gB:Fn:= { aD:=2,vars:=[0,1,4,5],body:=(q [x 2 (.i 0)] [] (.seq (q [x 3 (.i 0)] [] (.blk 0 K.uj)) (q [w 2 (.mv (.i (-1)))] [] .ret))),res:=[(2,none)]}
def ax:Fn:= { aD:=2,vars:=[0,1,4],body:=(q [x 2 (.b false)] [] (q [m v0,m v1,u (.ca N.bA 0 [] [.l 1,.l 0]),u (.bin .geq l0 (.i 0)),x 2 l0] [] .ret)),res:=[(2,none)]}
def aP:Fn:= { aD:=2,vars:=[0,1,4],body:=(q [x 2 (.b false)] [] (q [m v0,m v1,u (.ca N.bK 0 [] [.l 1,.l 0]),u (.bin .geq l0 (.i 0)),x 2 l0] [] .ret)),res:=[(2,none)]}
def ji:Fn:= { aD:=3,vars:=[0,1,2,3,6],body:=(q [w 3 (.bx v0 2),x 4 (.b false)] [] (q [m v1,f 0 v3,g l0,u (.bin .leq l2 l0),m l0,y 0 true (.fa v3 0),i 1 true l0,y 2 true (.fa v3 1),i 3 true l0,y 4 true (.bin .leq l2 l0),u (.pk l5 l0 (.b false)),m l0,y 0 true (.fa v3 1),i 1 true l0,e 2 true v2,y 3 true (.bin .leq l1 l0),u (.pk l4 l0 (.b false)),x 4 l0] [] .ret)),res:=[(4,none)]}
def jV:Fn:= { aD:=1,vars:=[0,1,2],body:=(q [w 1 (.bx v0 2),x 2 (.b false)] [] (q [f 0 v1,g l0,u (.bin .geq l0 (.i (-1125899906842624))),m l0,y 0 true (.fa v1 1),i 1 true l0,y 2 true (.bin .leq l0 (.i 1125899906842624)),u (.pk l3 l0 (.b false)),m l0,y 0 true (.fa v1 0),i 1 true l0,y 2 true (.fa v1 1),i 3 true l0,y 4 true (.bin .leq l2 l0),u (.pk l5 l0 (.b false)),x 2 l0] [] .ret)),res:=[(2,none)]}
def gC:Fn:= { aD:=1,vars:=[0,2],body:=(q [x 1 (.b false)] [] (q [m v0,u (.bin .geq l0 (.i 0)),m l0,e 0 true v0,y 1 true (.bin .leq l0 (.i 2147483648)),u (.pk l2 l0 (.b false)),x 1 l0] [] .ret)),res:=[(1,none)]}
def o5:C:= (.seq (.ite [m v3,m v0,u (.bin .lss l1 l0)] [] 0 .skip (.exit 0)) (.seq (.blk 1 (.reg [m v2,u (.bs [.i 1099511627776] 1),u (.app l1 l0 true 1),x 2 l0] [])) (.reg [m v3,u (.bin .add l0 (.i 1)),x 3 l0] [])))
def wc:C:= .loop true [1] K.o5
def iZ:Fn:= { aD:=1,vars:=[0,2,3,4],body:=(q [w 1 (.mv (.c (.nil)))] [] (q [w 2 (.nw 1)] [] (.seq (q [x 3 (.i 0)] [] (.blk 0 K.wc)) (q [m v2,x 1 l0] [] .ret)))),res:=[(1,none)]}
def i4:Fn:= { aD:=3,vars:=[0,1,2,3,6],body:=(q [w 3 (.bx v0 2),w 4 (.mv (.c (.nil)))] [] (q [h 2 v3,m v1,m v2,u (.ca N.gT 0 [3] [.l 2,.l 1,.l 0,.c (.nil)]),x 4 l0] [] .ret)),res:=[(4,none)]}
def jW:Fn:= { aD:=1,vars:=[0,1,2],body:=(q [w 1 (.bx v0 2),w 2 (.al [z0,.nil] [])] [] (q [f 0 v1,g l0,f 1 v1,g l0,u (.app (.c (.nil)) l0 true 1),u (.bd [z0,.nil] [(0,1,.l 3),(1,1,.l 0)]),u (.st v2 l0 2 [])] [(1,5)] .ret)),res:=[(2,some (2,true))]}
def kf:C:= (.seq (.ite [m v3,m v0,u (.ln l0),u (.bin .lss l2 l0)] [] 0 .skip (.exit 0)) (.seq (.blk 1 (.ite [m v0,m v3,a 1 l1 l0,g l0,m v1,m v3,a 1 l1 l0,g l0,u (.bin .neq l4 l0)] [] 0 (q [x 2 (.b false)] [] .ret) .skip)) (.reg [m v3,u (.bin .add l0 (.i 1)),x 3 l0] [])))
def ru:C:= .loop true [2] K.kf
def aS:Fn:= { aD:=2,vars:=[0,1,4,5],body:=(q [x 2 (.b false)] [] (.seq (.ite [m v0,u (.ln l0),m v1,u (.ln l0),u (.bin .neq l2 l0)] [] 0 (q [x 2 (.b false)] [] .ret) .skip) (.seq (q [x 3 (.i 0)] [] (.blk 0 K.ru)) (q [x 2 (.b true)] [] .ret)))),res:=[(2,none)]}
def fE:C:= (.seq (.ite [m v8,f 1 v4,g l0,u (.ln l0),u (.bin .lss l3 l0)] [] 0 .skip (.exit 2)) (.seq (.blk 3 (q [f 1 v4,g l0,m v8,a 10 l1 l0,h 10 l0,w 9 (.al [z0,z0,z0,z0,z1,z1,z0,z0,z0,z0] []),u (.st l0 l1 10 [])] [] (.seq (.ite [m v3,u (.eqk (.sl) false l0 (.c (.nil))),m l0,e 0 false v3,y 1 false (.fa v9 1),i 2 false l0,y 3 false (.ca N.iL 0 [] [.l 2,.l 0]),u (.pk l4 (.b true) l0),m l0,e 0 true v6,y 1 true (.fa v9 0),i 2 true l0,y 3 true (.fa v9 1),i 4 true l0,y 5 true (.ld v4 2 true),e 6 true v8,y 7 true (.ca N.gJ 0 [] [.l 1,.l 0,.b false]),e 8 true v2,y 9 true (.ca N.dS 0 [0] [.l 8,.l 6,.l 4,.l 1,.l 0]),u (.pk l10 l0 (.b false))] [(11,17),(13,17)] 0 (.reg [x 7 (.b true)] []) .skip) (.ite [m v3,u (.eqk (.sl) false l0 (.c (.nil))),m l0,e 0 false v3,y 1 false (.fa v9 0),i 2 false l0,y 3 false (.ca N.iL 0 [] [.l 2,.l 0]),u (.pk l4 (.b true) l0),m l0,e 0 true v6,y 1 true (.fa v9 1),i 2 true l0,y 3 true (.fa v9 0),i 4 true l0,y 5 true (.ld v4 2 true),e 6 true v8,y 7 true (.ca N.gJ 0 [] [.l 1,.l 0,.b true]),e 8 true v2,y 9 true (.ca N.dS 0 [0] [.l 8,.l 6,.l 4,.l 1,.l 0]),u (.pk l10 l0 (.b false))] [(11,17),(13,17)] 0 (.reg [x 7 (.b true)] []) .skip)))) (.reg [m v8,u (.bin .add l0 (.i 1)),x 8 l0] [])))
def we:C:= .loop true [0,1,5,9] K.fE
def mC:C:= (.seq (.ite [m v7] [] 0 .skip (.exit 0)) (.blk 1 (q [x 7 (.b false)] [] (q [x 8 (.i 0)] [] (.blk 2 K.we)))))
def wg:C:= .loop true [0,1,5,8,9] K.mC
def gT:Fn:= { aD:=4,vars:=[0,1,2,3,4,8,9,10,11,12],body:=(q [w 4 (.bx v0 2),w 5 (.mv (.c (.nil)))] [] (q [m v1,u (.app (.c (.nil)) l0 true 1),x 6 l0] [] (.seq (q [x 7 (.b true)] [] (.blk 0 K.wg)) (q [m v6,x 5 l0] [] .ret)))),res:=[(5,none)]}
def ed:C:= (.its [u (.bin .lss v5 v4)] [] 0 .skip (.exit 0) (.seq (.blk 1 (q [m v5,x 3 l0] [] (.ite [m v1,m v0,m v3,a 1 l1 l0,g l0,u (.cw l4 0 [] [.l 0])] [] 0 (q [m v3,x 2 l0] [] .ret) .skip))) (.reg [u (.bin .add v5 (.i 1)),x 5 l0] [])))
def kq:C:= .loop true [2,3] K.ed
def bA:Fn:= { aD:=2,vars:=[0,1,4,5,7,8],body:=(q [x 2 (.i 0)] [] (.seq (q [m v0,w 4 (.ln l0),x 5 (.i 0)] [] (.blk 0 K.kq)) (q [w 2 (.mv (.i (-1)))] [] .ret))),res:=[(2,none)]}
def fX:C:= (.its [u (.bin .lss v5 v4)] [] 0 .skip (.exit 0) (.seq (.blk 1 (q [m v5,x 3 l0] [] (.ite [m v1,m v0,m v3,a 1 l1 l0,g l0,u (.bin .eql l4 l0)] [] 0 (q [m v3,x 2 l0] [] .ret) .skip))) (.reg [u (.bin .add v5 (.i 1)),x 5 l0] [])))
def mD:C:= .loop true [2,3] K.fX
def bK:Fn:= { aD:=2,vars:=[0,1,4,5,7,8],body:=(q [x 2 (.i 0)] [] (.seq (q [m v0,w 4 (.ln l0),x 5 (.i 0)] [] (.blk 0 K.mD)) (q [w 2 (.mv (.i (-1)))] [] .ret))),res:=[(2,none)]}
def bc:Fn:= { aD:=3,vars:=[0,1,2,6],body:=(q [x 3 (.b false)] [] (q [m v0,m v1,u (.bin .geq l1 l0),m l0,e 0 true v0,e 1 true v2,y 2 true (.bin .leq l1 l0),u (.pk l3 l0 (.b false)),x 3 l0] [] .ret)),res:=[(3,none)]}
def dS:Fn:= { aD:=5,vars:=[0,1,2,3,4,10,11],body:=(q [x 5 (.b false)] [] (.seq (.ite [m v3,u (.bin .lss l0 (.i 0)),m l0,e 0 false v0,e 1 false v1,y 2 false (.ia l1 l0 1),i 3 false l0,y 4 false (.bin .geq l0 (.i 1099511627776)),u (.pk l5 (.b true) l0)] [] 0 (q [x 5 (.b false)] [] .ret) .skip) (q [m v4,m v0,m v1,a 1 l1 l0,g l0,m v3,u (.bin .add l1 l0),u (.mx [.l 6,.l 0]),x 6 l0] [] (.seq (.ite [m v6,u (.bin .gtr l0 (.i 2147483648)),m l0,e 0 false v6,e 1 false v0,e 2 false v2,y 3 false (.ia l1 l0 1),i 4 false l0,y 5 false (.bin .geq l4 l0),u (.pk l6 (.b true) l0)] [] 0 (q [x 5 (.b false)] [] .ret) .skip) (q [m v0,m v2,m v6,a 1 l2 l1,u (.st l0 l1 1 [])] [] (q [x 5 (.b true)] [] .ret)))))),res:=[(5,none)]}
def gJ:Fn:= { aD:=3,vars:=[0,1,2,3,6],body:=(q [w 3 (.bx v0 2),x 4 (.i 0)] [] (q [h 2 v3,m v1,m v2,u (.ca N.cE 0 [] [.l 2,.l 1,.l 0,.i 6,.i 9,.i 12]),x 4 l0] [] .ret)),res:=[(4,none)]}
def cE:Fn:= { aD:=6,vars:=[0,1,2,3,4,5,6,12,13,14,15,16,17],body:=(q [w 6 (.bx v0 2),x 7 (.i 0)] [] (.seq (.ite [h 2 v6,u (.ca N.cG 0 [] [.l 0]),u (.bin .neq l0 (.i 0)),m l0,e 0 false v1,y 1 false (.bin .lss l0 (.i 0)),u (.pk l2 (.b true) l0),m l0,e 0 false v1,y 1 false (.fa v6 1),i 2 false l0,y 3 false (.ln l0),y 4 false (.bin .geq l3 l0),u (.pk l5 (.b true) l0),m l0,y 0 false (.fa v6 1),i 1 false l0,e 2 false v1,y 3 false (.ia l1 l0 10),y 4 false (.fa l0 5),i 5 false l0,u (.pk l6 (.b true) l0),m l0,y 0 false (.fa v6 1),i 1 false l0,e 2 false v1,y 3 false (.ia l1 l0 10),y 4 false (.fa l0 4),i 5 false l0,y 6 false (.un .not l0),u (.pk l7 (.b true) l0)] [] 0 (q [w 7 (.mv (.i (-1)))] [] .ret) .skip) (q [f 1 v6,g l0,m v1,a 10 l1 l0,h 10 l0,w 8 (.al [z0,z0,z0,z0,z1,z1,z0,z0,z0,z0] []),u (.st l0 l1 10 [])] [] (q [h 10 v8,m v2,u (.ca N.jX 0 [] [.l 1,.l 0]),m l0,u (.ex l0 0),u (.ex l1 1),x 9 l1,x 10 l1] [] (q [f 0 v6,g l0,m v10,a 2 l1 l0,f 0 l0,g l0,f 0 v6,g l0,m v9,a 2 l1 l0,f 0 l0,g l0,u (.bin .sub l6 l0),x 11 l0] [] (q [m v5,x 12 l0] [] (.seq (.ite [m v11,u (.bin .mul (.i 10) l0),f 2 v8,g l0,u (.bin .gtr l2 l0)] [] 0 (.reg [m v3,x 12 l0] []) .skip) (.seq (.ite [m v11,u (.bin .mul (.i (-10)) l0),f 2 v8,g l0,u (.bin .gtr l2 l0)] [] 0 (.reg [m v4,x 12 l0] []) .skip) (q [f 2 v8,g l0,u (.bin .mul (.i 10) l0),m v12,u (.bin .add l1 l0),u (.bin .sub l0 (.i 1)),m v12,u (.bin .quo l1 l0),x 7 l0] [] .ret))))))))),res:=[(7,none)]}
def jX:Fn:= { aD:=2,vars:=[0,1,2,4,5],body:=(q [w 2 (.bx v0 10),x 3 (.i 0),x 4 (.i 0)] [] (.seq (.ite [m v1] [] 0 (q [f 1 v2,g l0,f 0 v2,g l0,x 3 l2,x 4 l1] [] .ret) .skip) (q [f 0 v2,g l0,f 1 v2,g l0,x 3 l2,x 4 l1] [] .ret))),res:=[(3,none),(4,none)]}
end Go.Ev.K
namespace Go.Ev
class bL [Lib]:Prop where
 uk:Lib.fs N.iC=some K.iC
 m9:Lib.fs N.dz=some K.dz
 qx:Lib.fs N.gB=some K.gB
 ga:Lib.fs N.ax=some K.ax
 i5:Lib.fs N.aP=some K.aP
 um:Lib.fs N.ji=some K.ji
 uo:Lib.fs N.jV=some K.jV
 qy:Lib.fs N.gC=some K.gC
 sn:Lib.fs N.iZ=some K.iZ
 sq:Lib.fs N.i4=some K.i4
 uq:Lib.fs N.jW=some K.jW
 nZ:Lib.fs N.aS=some K.aS
 sx:Lib.fs N.gT=some K.gT
 iw:Lib.fs N.bA=some K.bA
 j5:Lib.fs N.bK=some K.bK
 zj:Lib.fs N.bc=some K.bc
 sy:Lib.fs N.dS=some K.dS
 ur:Lib.fs N.gJ=some K.gJ
 qz:Lib.fs N.cE=some K.cE
 uu:Lib.fs N.jX=some K.jX
namespace K
variable [Lib] [bL]
theorem uk:Lib.fs N.iC=some K.iC:=bL.uk
theorem m9:Lib.fs N.dz=some K.dz:=bL.m9
theorem qx:Lib.fs N.gB=some K.gB:=bL.qx
theorem ga:Lib.fs N.ax=some K.ax:=bL.ga
theorem i5:Lib.fs N.aP=some K.aP:=bL.i5
theorem um:Lib.fs N.ji=some K.ji:=bL.um
theorem uo:Lib.fs N.jV=some K.jV:=bL.uo
theorem qy:Lib.fs N.gC=some K.gC:=bL.qy
theorem sn:Lib.fs N.iZ=some K.iZ:=bL.sn
theorem sq:Lib.fs N.i4=some K.i4:=bL.sq
theorem uq:Lib.fs N.jW=some K.jW:=bL.uq
theorem nZ:Lib.fs N.aS=some K.aS:=bL.nZ
theorem sx:Lib.fs N.gT=some K.gT:=bL.sx
theorem iw:Lib.fs N.bA=some K.bA:=bL.iw
theorem j5:Lib.fs N.bK=some K.bK:=bL.j5
theorem zj:Lib.fs N.bc=some K.bc:=bL.zj
theorem sy:Lib.fs N.dS=some K.dS:=bL.sy
theorem ur:Lib.fs N.gJ=some K.gJ:=bL.ur
theorem qz:Lib.fs N.cE=some K.cE:=bL.qz
theorem uu:Lib.fs N.jX=some K.jX:=bL.uu
end K
end Go.Ev
namespace Go.Ev
open Go
variable [Lib]
noncomputable def aL:aX:=oY Lib.fs
theorem aj{raw f:Nat}{args:List D}{H:aq}{fn:Fn}{r:D×aq}(hf:Lib.fs f=some fn)(hn:fn.aD=args.length)
 (h:(exS aL fn.body ⟨vT args fn.vars,H⟩).bind (aeH fn.res H.length raw)=some r) (h0:fn.prim=[]:=by rfl):aL raw f args H=some r:=U5 hf hn h h0
theorem Ov{raw f:Nat}{args:List D}{H:aq}{fn:Fn}{r:D×aq}(hf:Lib.fs f=some fn)(h0:fn.prim≠[])(h:AM fn.prim args H=some r):aL raw f args H=some r:=LN hf h0 h
theorem bH{gc:Bool}{dead:List Nat}{c:C}{vs:List D}{H:aq}(s:Nat→St)(n:Nat){e:Ex}{st:St}
 (h0:(⟨mh dead vs,H⟩:St)=s 0) (h:∀j,j<n→kV gc dead (s j).H.length (exS aL c (s j))=some (s (j+1)))
 (he:exS aL c (s n)=some (e,st)) (hn:e≠ .normal):exS aL (.loop gc dead c) ⟨vs,H⟩=some (e,st):=by
 show oX gc dead (exS aL c) ⟨mh dead vs,H⟩=_
 rw[h0]
 exact EU s n h (fW he hn)
theorem Ow{gc:Bool}{dead:List Nat}{c:C}{vs:List D}{H:aq}{p:Ex×St}(h:oX gc dead (exS aL c) ⟨mh dead vs,H⟩=some p):exS aL (.loop gc dead c) ⟨vs,H⟩=some p:=h
class Dat (α:Type) where
 dflt:α
instance : Dat Int := ⟨0⟩
instance : Dat Nat := ⟨0⟩
instance : Dat Bool := ⟨false⟩
instance {α : Type} : Dat (List α) := ⟨[]⟩
def nth{α:Type} [Dat α](l:List α)(j:Nat):α:=l.getD j Dat.dflt
theorem sB{α:Type} [Dat α]{l:List α}{j:Nat}(h:j<l.length):l[j]?=some (nth l j):=by simp[nth,h]
theorem bE{α β:Type} [Dat α](f:α→β){l:List α}{j:Nat}(h:j<l.length):(l.map f)[j]?=some (f (nth l j)):=by rw[aLn,sB h];rfl
theorem Br{α β γ:Type} [Dat α](f:β→γ)(g:α→β){l:List α}{j:Nat}(h:j<l.length):((l.map g).map f)[j]?=some (f (g (nth l j))):=by rw[aLn,bE g h];rfl
theorem aE{α:Type} [Dat α]{l:List α}{j:Nat}(h:j<l.length):nth l j∈l:=aLd (sB h)
theorem gr{α:Type} [Dat α]{l:List α}{j:Nat}{x:α}(h:l[j]?=some x):nth l j=x:=by simp[nth,h]
theorem jd{α:Type} [Dat α]{l:List α}{j:Nat}(h:j<l.length):l.take (j+1)=l.take j++[nth l j]:=by
 rw[List.take_succ_eq_append_getElem h];simp[nth,h]
theorem ai1{a b:Int}(h:a<b):(a<b)=True:=by simp[h]
theorem ai2{a b:Int}(h:b≤a):(a<b)=False:=by simp[Int.not_lt.2 h]
theorem ai3{a b:Int}(h:a≤b):(a≤b)=True:=by simp[h]
theorem ai4{a b:Int}(h:b<a):(a≤b)=False:=by simp[Int.not_le.2 h]
theorem ai5{a b:Int}(h:a=b):(a=b)=True:=by simp[h]
theorem ai6{a b:Int}(h:a≠b):(a=b)=False:=by simp[h]
theorem ai7{a b:Nat}(h:a<b):(a<b)=True:=by simp[h]
theorem ai8{a b:Nat}(h:b≤a):(a<b)=False:=by simp[Nat.not_lt.2 h]
theorem ai9{a b:Nat}(h:a≤b):(a≤b)=True:=by simp[h]
theorem aja{a b:Nat}(h:b<a):(a≤b)=False:=by simp[Nat.not_le.2 h]
theorem ajb{a b:Nat}(h:a=b):(a=b)=True:=by simp[h]
theorem ajc{a b:Nat}(h:a≠b):(a=b)=False:=by simp[h]
attribute [go_sem] ajb ajc ai1 ai2 ai3 ai4 ai5 ai6 ai7 ai8 ai9 aja uc bE Br Vk
@[go_sem] theorem ZK (a b : Nat) : ((a + b : Nat) : Int) = (a : Int) + (b : Int) := (rfl)
@[go_sem] theorem ZL : ((1 : Nat) : Int) = 1 := (rfl)
@[go_sem] theorem V7 : ((0 : Nat) : Int) = 0 := (rfl)
@[go_sem] theorem acU (a b : Int) : a + b - b = a := Int.add_sub_cancel a b
@[go_sem] theorem Tl : (0 : Int).toNat = 0 := (rfl)
@[go_sem] theorem V8 (n : Nat) : (n : Int).toNat = n := (rfl)
@[go_sem] theorem V9 (n : Nat) : ((n : Int) + 1).toNat = n + 1 := (rfl)
@[go_sem] theorem Wa (a : Int) : 0 + a = a := Int.zero_add a
@[go_sem] theorem Wb (a : Int) : a + 0 = a := Int.add_zero a
@[go_sem] theorem Wc (a : Int) : a - 0 = a := Int.sub_zero a
abbrev tI(n:Int):T:= .int .i64 n
abbrev tL(l:List Int):T:= .sl (l.map (.int .i64))
@[go_sem] theorem Rr (H : aq) (n : Nat) (ts : List T) (x : T) : cK (frz H n) (ts.map .t ++ [.t x]) = some (ts ++ [x]) := by
 have:ts.map D.t++[.t x]=(ts++[x]).map .t:=by simp
 rw[this,LR]
@[go_sem] theorem Tm {α β : Type} (f : α → β) (a b : List α) : (a ++ b).map f = a.map f ++ b.map f := List.map_append
end Go.Ev
namespace Go.Ev
open Go
variable [Lib] [bO] [bL]
def Mod(n m:Int):Int:=if m<1 then 0 else if n.tmod m<0 then n.tmod m+m else n.tmod m
theorem acV(n m:Int):0≤Mod n m:=by
 unfold Mod
 split
 · omega
 · have h5:=Int.lt_tmod_of_pos n (b:=m) (by omega)
   split<;>omega
theorem acW(n m:Int)(h:1≤m):Mod n m<m:=by
 unfold Mod
 rw[if_neg (by omega)]
 have h3:=Int.tmod_lt_of_pos n (b:=m) (by omega)
 split<;>omega
theorem Ox(n m:Int)(hm:m≤4611686018427387904):aL 0 N.ka [I n,I m] []=some (I (Mod n m),[]):=by
 refine aj K.zi rfl ?_
 unfold Mod
 by_cases h1:m<1
 · simp only[go_sem,K.ka,h1,↓reduceIte]
 · have h2:m≠0:=by omega
   have h3:=Int.tmod_lt_of_pos n (b:=m) (by omega)
   have h5:=Int.lt_tmod_of_pos n (b:=m) (by omega)
   by_cases h4:n.tmod m<0
   · simp(disch:=omega)only[go_sem,K.ka,h1,↓reduceIte,h2,h4]
   · simp(disch:=omega)only[go_sem,K.ka,h1,↓reduceIte,h2,h4]
theorem Rs(l:List Int):aL 0 N.jT [.t (tL l)] []=some (B (decide (l.length≤400)),[]):=by
 refine aj K.uh rfl ?_
 simp(disch:=omega)only[go_sem,K.jT,↓reduceIte]
 simp only[show((l.length:Int)≤400)=(l.length≤400)by rw[eq_iff_iff];omega]
structure aT where
 L:List Int
 at_:Nat
def aT.obj(d:aT):Obj:= .box [.t (tL d.L),I d.at_]
def aT.dY(d:aT):Prop:=d.L.length≤400
def aT.next(d:aT)(n:Int):Int×aT:=if d.at_<d.L.length then(Mod (nth d.L d.at_) n,⟨d.L,d.at_+1⟩)else(0,d)
theorem aT.Tn(d:aT)(n:Int):(d.next n).2.L=d.L:=by unfold aT.next;split<;>rfl
theorem aT.dj{d:aT}(h:d.dY)(n:Int):(d.next n).2.dY:=by unfold aT.dY;rw[d.Tn];exact h
theorem aT.n5(d:aT)(n:Int):0≤(d.next n).1:=by unfold aT.next;split<;>simp[acV]
theorem aT.n9(d:aT){n:Int}(h:1≤n):(d.next n).1<n:=by unfold aT.next;split<;>simp[acW _ _ h];omega
theorem o6(d:aT)(n:Int)(hn:n≤4611686018427387904)(hd:d.dY):aL 0 N.aR [.bp 0 0,I n] [d.obj]=some (I (d.next n).1,[(d.next n).2.obj]):=by
 refine aj K.nX rfl ?_
 have hm:=Ox (nth d.L d.at_) n hn
 unfold aT.dY at hd
 unfold aT.next aT.obj
 by_cases h1:d.at_<d.L.length
 · simp(disch:=omega)only[go_sem,K.aR,↓reduceIte,↓if_pos,↓if_neg,Int.add_sub_cancel,hm,Int.natCast_add]
 · simp(disch:=omega)only[go_sem,K.aR,↓reduceIte,↓if_pos,↓if_neg]
@[go_sem] theorem af8 (d : aT) : KU (some d.obj) = [] := by simp only [aT.obj, go_sem]
@[go_sem] theorem af9 (f : Nat → Option Nat) (d : aT) : jP f d.obj = some d.obj := by simp only [aT.obj, go_sem]
@[go_sem] theorem aga (k : Nat) (d : aT) (r : aq) : iv k (d.obj :: r) = iv k r := by simp only [aT.obj, go_sem]
def aT.one(d:aT)(n:Int):Bool×aT:=(decide ((d.next n).1=n-1),(d.next n).2)
theorem aT.x7{d:aT}(h:d.dY)(n:Int):(d.one n).2.dY:=aT.dj h n
theorem KX(d:aT)(n:Int)(h1:0≤n)(hn:n≤4611686018427387904)(hd:d.dY):aL 0 N.cm [.bp 0 0,I n] [d.obj]=some (B (d.one n).1,[(d.one n).2.obj]):=by
 refine aj K.oZ rfl ?_
 have hm:=o6 d n hn hd
 unfold aT.one
 simp(disch:=omega)only[go_sem,K.cm,↓reduceIte,hm]
def aT.of(d:aT)(l:List Int):Int×aT:=(nth l (d.next l.length).1.toNat,(d.next l.length).2)
theorem aT.kg{d:aT}(h:d.dY)(l:List Int):(d.of l).2.dY:=aT.dj h _
theorem aT.o7(d:aT){l:List Int}(h:l≠[]):(d.of l).1∈l:=by
 unfold aT.of
 have hl:0<l.length:=List.length_pos_iff.2 h
 have:=d.n5 l.length
 have:=d.n9 (n:=l.length) (by omega)
 exact aE (by omega)
theorem GS(d:aT)(l:List Int)(hl:l≠[])(hl2:l.length≤4294967296)(hd:d.dY):aL 0 N.bI [.bp 0 0,.t (tL l)] [d.obj]=some (I (d.of l).1,[(d.of l).2.obj]):=by
 refine aj K.qu rfl ?_
 have hm:=o6 d l.length (by omega) hd
 have h0:0<l.length:=List.length_pos_iff.2 hl
 have h1:=d.n5 l.length
 have h2:=d.n9 (n:=l.length) (by omega)
 unfold aT.of
 simp(disch:=omega)only[go_sem,K.bI,↓reduceIte,hm]
def aT.o8(d:aT):Nat→List Int×aT
 | 0=>([],d)
 | k+1=>(if((d.o8 k).2.next 3).1=0 then(d.o8 k).1++[(k:Int)]else(d.o8 k).1,((d.o8 k).2.next 3).2)
theorem aT.xh{d:aT}(h:d.dY):∀n,(d.o8 n).2.dY
 | 0=>h
 | n+1=>aT.dj (aT.xh h n) 3
theorem aT.Ca(d:aT):∀n,(d.o8 n).1.length≤n
 | 0=>aLs _
 | n+1=>by
   have:=d.Ca n
   unfold aT.o8
   simp only
   split<;>simp<;>omega
theorem Wd(d:aT)(n:Nat)(hn:n≤1000000)(hd:d.dY):aL 0 N.dy [.bp 0 0,I n] [d.obj]=some (.t (tL (d.o8 n).1),[(d.o8 n).2.obj]):=by
 refine aj K.nY rfl ?_
 have hlen:=d.Ca
 have loop:exS aL K.rq ⟨[.bp 0 0,I n,.nil,.ref 1 0 0,I 0],[d.obj,.arr 1 false 0 []]⟩=
  some (.exit 0,⟨[.bp 0 0,I n,.und,.ref 1 0 (d.o8 n).1.length,I n],[(d.o8 n).2.obj,.arr 1 false 0 (((d.o8 n).1.map (T.int .i64)).map .t)]⟩):=by
  refine bH (fun j=>⟨[.bp 0 0,I n,.und,.ref 1 0 (d.o8 j).1.length,I j],[(d.o8 j).2.obj,.arr 1 false 0 (((d.o8 j).1.map (T.int .i64)).map .t)]⟩) n rfl ?_ ?_ (by simp)
  · intro j hj
    have hm:=o6 (d.o8 j).2 3 (by omega) (aT.xh hd j)
    have:=hlen j
    by_cases h:((d.o8 j).2.next 3).1=0
    · simp(disch:=omega)only[go_sem,K.kd,hm,h,aT.o8,↓reduceIte]
    · simp(disch:=omega)only[go_sem,K.kd,hm,h,aT.o8,↓reduceIte]
  · simp(disch:=omega)only[go_sem,K.kd,↓reduceIte]
 simp(disch:=omega)only[go_sem,K.dy,↓reduceIte,loop]
theorem fY{gc:Bool}{dead:List Nat}{c:C}{vs:List D}{H:aq}(s:Nat→St)(n:Nat)(p:Nat→Bool)(e:Nat→Ex×St)(eN:Ex×St)
 (h0:(⟨mh dead vs,H⟩:St)=s 0) (hs:∀j,j<n→p j=false→kV gc dead (s j).H.length (exS aL c (s j))=some (s (j+1)))
 (he:∀j,j<n→p j=true→exS aL c (s j)=some (e j)∧(e j).1≠ .normal) (hN:exS aL c (s n)=some eN) (hn:eN.1≠ .normal):
 exS aL (.loop gc dead c) ⟨vs,H⟩=some (match (List.range n).find? p with | some j=>e j | none=>eN):=by
 show oX gc dead (exS aL c) ⟨mh dead vs,H⟩=_
 rw[h0]
 cases hf:(List.range n).find? p with
 | none=>
   refine EU s n (fun j hj=>hs j hj ?_) (fW hN hn)
   have:=List.find?_eq_none.1 hf j (aLu.2 hj)
   simpa using this
 | some k=>
   obtain⟨h1,as,bs,h2,h3⟩:=List.find?_eq_some_iff_append.1 hf
   have hk:k<n:=aLu.1 (List.mem_of_find?_eq_some hf)
   have hlt:∀j,j<k→p j=false:=by
    intro j hj
    have hlen:as.length=k:=by
     have h4:(List.range n)[as.length]?=some k:=by rw[h2];simp
     have h5:as.length<n:=by
      have:=congrArg List.length h2;simp at this;omega
     rw[aLp h5]at h4
     exact Option.some.inj h4
    have:j∈as:=by
     have h6:(List.range n)[j]?=some j:=aLp (by omega)
     rw[h2,aLg (by omega)]at h6
     exact aLd h6
    simpa using h3 j this
   obtain⟨k1,k2⟩:=he k hk h1
   exact EU s k (fun j hj=>hs j (by omega) (hlt j hj)) (fW k1 k2)
def fw{α:Type}(f:α→α×Bool):Nat→α→α
 | 0,l=>l
 | n+1,l=>if(f l).2 then fw f n (f l).1 else(f l).1
theorem D7{α:Type}{gc:Bool}{dead:List Nat}{c:C}{vs:List D}{H:aq}(S:α→Bool→St)(E:α→Ex×St)(f:α→α×Bool)(inv:α→Prop)(mes:α→Nat)
 (hinv:∀l,inv l→inv (f l).1∧((f l).2=true→mes (f l).1<mes l))
 (hs:∀l,inv l→kV gc dead (S l true).H.length (exS aL c (S l true))=some (S (f l).1 (f l).2))
 (he:∀l,inv l→exS aL c (S l false)=some (E l)∧(E l).1≠ .normal) (l:α) (hl:inv l) (h0:(⟨mh dead vs,H⟩:St)=S l true):
 exS aL (.loop gc dead c) ⟨vs,H⟩=some (E (fw f (mes l+1) l))∧inv (fw f (mes l+1) l):=by
 have key:∀(n:Nat) (l:α),inv l→mes l<n→oX gc dead (exS aL c) (S l true)=some (E (fw f n l))∧inv (fw f n l):=by
  intro n
  induction n with
  | zero=>intro l _ h;omega
  | succ n ih=>
    intro l hl hm
    obtain⟨h1,h2⟩:=hinv l hl
    have hr:=hs l hl
    cases hf:(f l).2 with
    | true=>
      rw[hf]at hr
      obtain⟨k1,k2⟩:=ih (f l).1 h1 (by have:=h2 hf;omega)
      simp only[fw,hf,if_true]
      exact⟨lN hr k1,k2⟩
    | false=>
      rw[hf]at hr
      obtain⟨k1,k2⟩:=he (f l).1 h1
      simp only[fw,hf,aLt,if_false]
      exact⟨lN hr (fW k1 k2),h1⟩
 have:=key (mes l+1) l hl (Nat.lt_succ_self _)
 show oX gc dead (exS aL c) ⟨mh dead vs,H⟩=_∧_
 rw[h0];exact this
theorem Rt{n:Nat}{p:Nat→Bool}:((List.range n).find? p).isSome=(List.range n).any p:=by
 rw[List.isSome_find?]
theorem Oy{n j:Nat}{p:Nat→Bool}(h:(List.range n).find? p=some j):j<n∧p j=true:=⟨aLu.1 (List.mem_of_find?_eq_some h),List.find?_some h⟩
def gg(m:Nat):List D:=(List.range m).map fun i=> .bp i 0
def aY(bs:List (List T)):aq:=bs.map fun cs=> .box (cs.map .t)
theorem D8{bs:List (List T)}{i:Nat}(h:i<bs.length):(aY bs)[i]?=some (.box (bs[i].map .t)):=by simp[aY,h]
theorem gK(bs:List (List T)):(aY bs).length=bs.length:=by simp[aY]
theorem zk:∀(l sel:List Nat),(sel++l).Nodup→ir sel l=sel++l
 | [],sel,_=>by simp[ir]
 | i::r,sel,h=>by
   have:sel.contains i=false:=by
    rw[← Bool.not_eq_true,List.contains_iff_mem]
    intro hm
    have:=List.nodup_append.1 h
    exact this.2.2 i hm i List.mem_cons_self rfl
   simp only[ir,this,aLt,if_false]
   rw[zk r (sel++[i]) (by simpa using h)]
   simp
theorem Au:∀(l:List Nat) (i k:Nat),l.Nodup→l[k]?=some i→idxOf l i=some k
 | [],i,k,_,h=>by simp at h
 | a::l,i,0,_,h=>by simp at h;simp[idxOf,h]
 | a::l,i,k+1,hn,h=>by
   simp at h
   have hne:a≠i:=fun e=>(List.nodup_cons.1 hn).1 (e▸aLd h)
   simp only[idxOf,if_neg hne,Au l i k (List.nodup_cons.1 hn).2 h,aLw]
theorem Jk{m i:Nat}(h:i<m):idxOf (List.range m) i=some i:=Au _ _ _ List.nodup_range (aLp h)
theorem Jl{α:Type}{f:α→Option α}:∀ {l:List α},(∀x∈l,f x=some x)→cK f l=some l
 | [],_=>rfl
 | a::l,h=>by
   simp only[cK,h a List.mem_cons_self,aLq,Jl fun x hx=>h x (List.mem_cons_of_mem _ hx),aLw]
theorem Jm(f:Nat→Option Nat)(cs:List T):jP f (.box (cs.map .t))=some (.box (cs.map .t)):=by
 simp only[LW,vA,aLw]
theorem GU{H:aq}:∀ {l:List Nat} {hs:aq},l.length=hs.length→(∀(k i:Nat) (o:Obj),l[k]?=some i→hs[k]?=some o→H[i]?=some o)→pick H l=some hs
 | [],[],_,_=>rfl
 | [],_::_,h,_=>by simp at h
 | _::_,[],h,_=>by simp at h
 | i::l,o::hs,h,hg=>by
   rw[On,hg 0 i o rfl rfl,aLq,Rm,GU (l:=l) (hs:=hs) (by simpa using h) fun k i o hk ho=>hg (k+1) i o (by simpa using hk) (by simpa using ho)]
   rfl
theorem Av{H:aq}:∀ {l:List Nat} {os:aq},(∀(k i:Nat) (o:Obj),l[k]?=some i→os[k]?=some o→H[i]?=some o)→dR H l os=H
 | [],os,_=>by cases os<;>rfl
 | i::l,[],_=>rfl
 | i::l,o::os,hg=>by
   simp only[dR]
   rw[Rk (hg 0 i o rfl rfl)]
   exact Av fun k i o hk ho=>hg (k+1) i o (by simpa using hk) (by simpa using ho)
theorem GV(call:aX)(bs:List (List T))(E:aq)(f raw:Nat)(args:List D){r:D}(h:call raw f args (aY bs)=some (r,aY bs))(hr:AR r=true)
 (ha:∀H:aq,rV H [] 0 args=some args∧di H [] 0 args=[]) (hids:ir [] (B9 8 args)=List.range bs.length)
 (hren:cK (ren (idxOf (List.range bs.length)) 8) args=some args):LQ (aY bs++E) call f raw [] args=some (r,aY bs++E):=by
 generalize hH:aY bs++E=H
 have hget:∀i (hi:i<bs.length),H[i]?=some (.box (bs[i].map .t)):=fun i hi=>by
  rw[← hH,aLg (by rw[gK];exact hi),D8 hi]
 obtain⟨ha,hfz⟩:=ha H
 have hno:tQ H (List.range bs.length)=[]:=by
  simp only[tQ,List.flatMap_eq_nil_iff,aLu]
  intro i hi
  rw[hget i hi]
  exact KS 8 bs[i]
 have hsel:reach H 3 (List.range bs.length)=List.range bs.length:=by
  simp only[reach,hno,ir]
 have hget2:∀(k i:Nat) (o:Obj),(List.range bs.length)[k]?=some i→(aY bs)[k]?=some o→H[i]?=some o:=by
  intro k i o hk ho
  have hkl:k<bs.length:=by have:=(aLe.1 hk).1;simpa using this
  rw[aLp hkl]at hk
  cases hk
  rw[D8 hkl]at ho
  rw[hget k hkl,←ho]
 have hpick:pick H (List.range bs.length)=some (aY bs):=GU (by simp[gK]) hget2
 have hro:∀f:Nat→Option Nat,cK (jP f) (aY bs)=some (aY bs):=fun f=>Jl fun o ho=>by
  simp only[aY,List.mem_map]at ho
  obtain⟨cs,_,rfl⟩:=ho
  exact Jm f cs
 have hput:dR H (List.range bs.length) (aY bs)=H:=Av hget2
 rw[Ra,Rb,ha,aLq,Rc,hids,hsel,Re,hren,aLq,hfz,Rf]
 simp only[pins]
 rw[hpick,aLq,Rg,hro,aLq,Rh,h,aLq]
 cases hb:bs with
 | nil=>
   subst hb
   have hrr:=EW (f:=fV [] H.length) hr
   simp only[depth]at hrr
   simp only[List.length_nil,List.range_zero,aY,List.map_nil]
   unfold xd
   split
   · rfl
   · rw[KR,hrr,aLq,KQ]
     simp[cK,Ri,dR]
 | cons b bt=>
   rw[← hb]
   have hne:List.range bs.length=0::(List.range' 1 bt.length):=by rw[hb];simp[List.range_eq_range',List.range'_succ]
   have hrr:=EW (f:=fV (List.range bs.length) H.length) hr
   simp only[depth]at hrr
   have hw:xd H H (List.range bs.length) (r,aY bs)=EX H H.length (List.range bs.length) (r,aY bs):=by
    rw[hne];rfl
   rw[hw,KR,hrr,aLq,KQ,hro,aLq,Rj,List.length_range,List.take_of_length_le (by rw[gK];exact aLs _),hput,
    List.drop_eq_nil_of_le (by rw[gK];exact aLs _),List.append_nil]
theorem Jn(H:aq)(cs:List D)(hc:∀i,rV H [] i cs=some cs∧di H [] i cs=[]):∀(ts:List T) (i:Nat),rV H [] i (ts.map .t++cs)=some (ts.map .t++cs)∧di H [] i (ts.map .t++cs)=[]
 | [],i=>hc i
 | t::ts,i=>by
   obtain⟨h1,h2⟩:=Jn H cs hc ts (i+1)
   simp only[List.map_cons,List.cons_append,D6,ue,IB,Tc,aco,aLq,Oj,h1,h2,acG,Oh]
   exact⟨rfl,rfl⟩
theorem GW(H:aq):∀(l:List Nat) (i:Nat),rV H [] i (l.map fun i=> .bp i 0)=some (l.map fun i=> .bp i 0)∧di H [] i (l.map fun i=> .bp i 0)=[]
 | [],i=>⟨rfl,rfl⟩
 | a::l,i=>by
   obtain⟨h1,h2⟩:=GW H l (i+1)
   simp only[List.map_cons,D6,ue,IB,Tc,VC,aLq,Oj,h1,h2,acG,VI]
   exact⟨rfl,rfl⟩
theorem GX(n m:Nat):B9 n (gg m)=List.range m:=by
 simp only[B9,gg,List.flatMap_map]
 have:∀l:List Nat,(l.flatMap fun a=>ids n (.bp a 0))=l:=by
  intro l
  induction l with
  | nil=>rfl
  | cons a l ih=>rw[List.flatMap_cons,ih,acK];rfl
 exact this _
theorem KY(n m:Nat):cK (ren (idxOf (List.range m)) n) (gg m)=some (gg m):=Jl fun d hd=>by
 simp only[gg,List.mem_map,aLu]at hd
 obtain⟨k,hk,rfl⟩:=hd
 rw[acO,Jk hk];rfl
theorem E1{α β:Type}{f:α→Option β}:∀ {a b:List α} {x y:List β},cK f a=some x→cK f b=some y→cK f (a++b)=some (x++y)
 | [],b,x,y,h1,h2=>by simp[cK]at h1;subst h1;exact h2
 | c::a,b,x,y,h1,h2=>by
   simp only[cK,aLa,aLb]at h1
   obtain⟨z,hz,r,hr,rfl⟩:=h1
   simp only[List.cons_append,cK,hz,aLq,E1 hr h2,aLw]
theorem Oz(call:aX)(bs:List (List T))(E:aq)(f raw:Nat)(ts:List T){r:D}(h:call raw f (ts.map .t++gg bs.length) (aY bs)=some (r,aY bs))(hr:AR r=true):
 LQ (aY bs++E) call f raw [] (ts.map .t++gg bs.length)=some (r,aY bs++E):=
 GV call bs E f raw _ h hr (fun H=>Jn H _ (GW H _) ts 0)
  (by rw[KT,KS,List.nil_append,GX,zk _ _ (by simpa using List.nodup_range),List.nil_append])
  (E1 (vA _ _ _) (KY _ _))
theorem We(call:aX)(bs:List (List T))(E:aq)(g f raw:Nat)(ts:List T){r:D}(h:call raw f (ts.map .t++[.fn g (gg bs.length)]) (aY bs)=some (r,aY bs))(hr:AR r=true):
 LQ (aY bs++E) call f raw [] (ts.map .t++[.fn g (gg bs.length)])=some (r,aY bs++E):=
 GV call bs E f raw _ h hr (fun H=>Jn H _ (fun i=>⟨rfl,rfl⟩) ts 0)
  (by rw[KT,KS,List.nil_append,Ol,acL,GX,Rl,List.append_nil,zk _ _ (by simpa using List.nodup_range),List.nil_append])
  (E1 (vA _ _ _) (by rw[GM,acR,KY];rfl))
theorem OA{f:Nat}{bs:List (List T)}{x:T}{r:D}(E:aq)(h:aL 0 f (.t x::gg bs.length) (aY bs)=some (r,aY bs))(hr:AR r=true):
 LQ (aY bs++E) aL f 0 [] (.t x::gg bs.length)=some (r,aY bs++E):=Oz aL bs E f 0 [x] h hr
theorem lO{f:Nat}{bs:List (List T)}{x:T}{r:D}(h:aL 0 f (.t x::gg bs.length) (aY bs)=some (r,aY bs))(hr:AR r=true):
 LQ (aY bs) aL f 0 [] (.t x::gg bs.length)=some (r,aY bs):=by
 have:=OA [] h hr;rwa [List.append_nil]at this
theorem vB(call:aX)(bs:List (List T))(g f raw:Nat)(x:T){r:D}(h:call raw f [.t x,.fn g (gg bs.length)] (aY bs)=some (r,aY bs))(hr:AR r=true):
 LQ (aY bs) call f raw [] [.t x,.fn g (gg bs.length)]=some (r,aY bs):=by
 have:=We call bs [] g f raw [x] h hr
 rwa [List.append_nil]at this
section
variable (bs : List (List T)) (o o' : Obj)
@[go_sem] theorem Ru : (aY bs).length = bs.length := gK bs
@[go_sem] theorem ZM : (aY bs ++ [o])[bs.length]? = some o := by
 rw[aLh (by rw[gK];exact aLs _),gK];simp
@[go_sem] theorem acX : (aY bs ++ [o]).set bs.length o' = aY bs ++ [o'] := by
 rw[List.set_append_right _ _ (by rw[gK];exact aLs _),gK];simp
@[go_sem] theorem ZN : (aY bs ++ [o]).take bs.length = aY bs := by
 rw[List.take_append_of_le_length (by rw[gK];exact aLs _),List.take_of_length_le (by rw[gK];exact aLs _)]
@[go_sem] theorem Wf : (aY bs ++ [o]).take (bs.length + 1) = aY bs ++ [o] := List.take_of_length_le (by simp [gK])
@[go_sem] theorem Wg : (aY bs).take bs.length = aY bs := List.take_of_length_le (by simp [gK])
@[go_sem] theorem Wi (k : Nat) (a b : aq) : iv k (a ++ b) = (iv k a && iv k b) := by
 rw[← oQ,←oQ,←oQ,List.all_append]
@[go_sem] theorem Rv (k : Nat) : iv k (aY bs) = true := by
 induction bs with
 | nil=>rfl
 | cons b r ih=>
   show(iu k 8 (b.map .t)&&iv k (aY r))=true
   rw[KO,ih];rfl
@[go_sem] theorem agb (n : Nat) : ltB n (n + 1) = true := by rw [sg]; simp
@[go_sem] theorem agc (n : Nat) : ltB n n = false := by rw [sg]; simp
theorem Aw(k n m:Nat)(h:m≤k):iu k n (gg m)=true:=by
 unfold iu gg
 rw[aLx]
 intro d hd
 obtain⟨i,hi,rfl⟩:=List.mem_map.1 hd
 rw[acp,sg]
 have:=aLu.1 hi
 simp;omega
@[go_sem] theorem Wj (n m : Nat) : iu m n (gg m) = true := Aw _ _ _ (aLs _)
@[go_sem] theorem To (n m : Nat) : iu (m + 1) n (gg m) = true := Aw _ _ _ (Nat.le_succ _)
end
def kJ(n:Nat)(p:Nat→Bool):List Int:=((List.range n).filter p).map (fun(i:Nat)=>(i:Int))
theorem Jo(n:Nat)(p:Nat→Bool):kJ (n+1) p=if p n=true then kJ n p++[(n:Int)]else kJ n p:=by
 unfold kJ
 rw[List.range_succ,List.filter_append,List.map_append]
 by_cases h:p n=true<;>simp[h]
theorem zl(n:Nat)(p:Nat→Bool):(kJ n p).length≤n:=by
 unfold kJ
 rw[List.length_map]
 have:=List.length_filter_le p (List.range n)
 simpa using this
end Go.Ev
namespace Go.Ev
open Go
variable [Lib] [bO] [bL]
theorem fF{α:Type}(sz:Nat)(f:α→T)(h:∀a,qq sz (f a).cells=true):∀l:List α,bV sz (l.map f)=true
 | []=>rfl
 | a::l=>by rw[List.map_cons,xX,h,fF sz f h l];rfl
@[go_sem] theorem Tp (k : IntKind) (l : List Int) : bV 1 (l.map (.int k)) = true := fF 1 _ (fun _ => rfl) l
theorem x8(sz:Nat):∀ts:List T,(ts.all fun e=>e.cells.length==sz)=bV sz ts
 | []=>rfl
 | t::ts=>by
   rw[List.all_cons,xX,x8 sz ts]
   congr 1
   rw[Bool.eq_iff_iff,iK];simp
section
variable (H : aq) (sz : Nat) (ts : List T) (i j : Int)
@[go_sem] theorem ajd : GO H sz (some (.t (.sl ts))) (some none) (some (some i)) = if 0 ≤ i then (if i ≤ ts.length then (if bV sz ts = true then some (.t (.sl (ts.take i.toNat)), H) else none) else none) else none := by
 simp only[GO,aLq,pX,bound,x8,idx]
 by_cases h1:0≤i
 · rw[if_pos h1,if_pos h1,aLq]
   by_cases h2:i≤ts.length
   · rw[if_pos h2]
     by_cases h3:bV sz ts=true
     · rw[if_pos h3,if_pos ⟨by omega,by omega,h3⟩];rfl
     · rw[if_neg h3,if_neg fun h=>h3 h.2.2];rfl
   · rw[if_neg h2,if_neg fun h=>h2 (by omega)];rfl
 · rw[if_neg h1,if_neg h1];rfl
@[go_sem] theorem aje : GO H sz (some (.t (.sl ts))) (some (some i)) (some none) = if 0 ≤ i then (if i ≤ ts.length then (if bV sz ts = true then some (.t (.sl (ts.drop i.toNat)), H) else none) else none) else none := by
 simp only[GO,aLq,pX,bound,x8,idx]
 by_cases h1:0≤i
 · rw[if_pos h1,if_pos h1,aLq]
   by_cases h2:i≤ts.length
   · rw[if_pos h2]
     by_cases h3:bV sz ts=true
     · rw[if_pos h3,if_pos ⟨by omega,by omega,h3⟩,List.take_of_length_le (by simp)];rfl
     · rw[if_neg h3,if_neg fun h=>h3 h.2.2];rfl
   · rw[if_neg h2,if_neg fun h=>h2 (by omega)];rfl
 · rw[if_neg h1,if_neg h1];rfl
@[go_sem] theorem acY : GO H sz (some (.t (.sl ts))) (some (some i)) (some (some j)) = if 0 ≤ i then (if i ≤ j then (if j ≤ ts.length then (if bV sz ts = true then some (.t (.sl ((ts.drop i.toNat).take (j.toNat - i.toNat))), H) else none) else none) else none) else none := by
 simp only[GO,aLq,pX,bound,x8,idx]
 by_cases h1:0≤i
 · rw[if_pos h1,if_pos h1,aLq]
   by_cases h0:i≤j
   · rw[if_pos h0,if_pos (by omega:0≤j),aLq]
     by_cases h2:j≤ts.length
     · rw[if_pos h2]
       by_cases h3:bV sz ts=true
       · rw[if_pos h3,if_pos ⟨by omega,by omega,h3⟩];rfl
       · rw[if_neg h3,if_neg fun h=>h3 h.2.2];rfl
     · rw[if_neg h2,if_neg fun h=>h2 (by omega)];rfl
   · rw[if_neg h0]
     by_cases h2:0≤j
     · rw[if_pos h2,aLq,if_neg fun h=>h0 (by omega)];rfl
     · rw[if_neg h2];rfl
 · rw[if_neg h1,if_neg h1];rfl
end
def bsK(H:aq)(l:List Nat):Option T→Option (D×aq)
 | some t=>some (.t (.sl [t]),pins H l)
 | none=>none
@[go_sem] theorem agd (H : aq) (l : List Nat) (t : T) : bsK H l (some t) = some (.t (.sl [t]), pins H l) := (rfl)
@[go_sem] theorem age (H : aq) (sz : Nat) (cs : List D) : D5 H sz [.agg cs] = if qq sz cs = true then bsK H (gz H 8 (.agg cs)) (frz H 8 (.agg cs)) else none := by
 simp only[D5,List.all_cons,List.all_nil,Bool.and_true,D.cells]
 by_cases h:qq sz cs=true
 · rw[if_pos h,if_pos (by simpa using iK.1 h)]
   simp only[cK,depth,List.flatMap_cons,List.flatMap_nil,List.append_nil]
   cases frz H 8 (.agg cs)<;>rfl
 · rw[if_neg h,if_neg (by intro e;exact h (iK.2 (by simpa using e)))]
@[go_sem] theorem agf (H : aq) (id ep n : Nat) : D5 H 1 [.ref id ep n] = bsK H (gz H 8 (.ref id ep n)) (frz H 8 (.ref id ep n)) := by
 simp only[D5,List.all_cons,List.all_nil,Bool.and_true,D.cells,List.length_cons,List.length_nil,beq_self_eq_true,if_true,cK,depth,List.flatMap_cons,List.flatMap_nil,List.append_nil]
 cases frz H 8 (.ref id ep n)<;>rfl
def Wk(H:aq)(r:D)(os:aq):D×aq:=(r,H++os)
@[go_sem] theorem agh (H : aq) (r : D) (os : aq) : Wk H r os = (r, H ++ os) := (rfl)
def acZ(H:aq)(os:aq)(r:D):Option (D×aq):=(cK (jP (fV [] H.length)) os).map (Wk H r)
@[go_sem] theorem agi (H : aq) (os : aq) (r : D) : acZ H os r = (cK (jP (fV [] H.length)) os).map (Wk H r) := (rfl)
@[go_sem] theorem ac0 (H : aq) (r : D) (o : Obj) (os : aq) : B8 H (r, o :: os) = (ren (fV [] H.length) 8 r).bind (acZ H (o :: os)) := by
 simp only[B8,List.isEmpty_cons,Bool.and_false,aLt,if_false]
 rfl
end Go.Ev
namespace Go.Ev
open Go
variable [Lib] [bO] [bL]
structure Place where
 h:Int
 surf:Bool
instance : Dat Place := ⟨⟨0, false⟩⟩
abbrev Place.e(p:Place):T:= .agg [tI p.h,.bool p.surf]
structure Road where
 frm:Int
 to:Int
 len:Int
 area:Int
 walk:Bool
 closed:Bool
 restL:Int
 restH:Int
 liftL:Int
 liftH:Int
instance : Dat Road := ⟨⟨0, 0, 0, 0, false, false, 0, 0, 0, 0⟩⟩
abbrev Road.e(r:Road):T:= .agg [tI r.frm,tI r.to,tI r.len,tI r.area,.bool r.walk,.bool r.closed,tI r.restL,tI r.restH,tI r.liftL,tI r.liftH]
structure bq where
 aa:List Place
 roads:List Road
instance : Dat bq := ⟨⟨[], []⟩⟩
abbrev bq.e(m:bq):T:= .agg [.sl (m.aa.map Place.e),.sl (m.roads.map Road.e)]
structure Road.ok(n:Nat)(r:Road):Prop where
 f0:0≤r.frm
 f1:r.frm<n
 t0:0≤r.to
 t1:r.to<n
 ne:r.frm≠r.to
 l0:1≤r.len
 l1:r.len≤100000
 a0:1≤r.area
 a1:r.area≤1000
 r0:1≤r.restL
 r1:r.restL≤r.restH
 r2:r.restH≤262144
 i0: -2199023255552≤r.liftL
 i1:r.liftL≤r.liftH
 i2:r.liftH≤2199023255552
structure bq.ok(m:bq):Prop where
 np:m.aa.length≤64
 nr:m.roads.length≤128
 hs:∀p∈m.aa, -10000≤p.h∧p.h≤10000
 rs:∀r∈m.roads,r.ok m.aa.length
theorem GY(a b lo hi:Int):aL 0 N.ji [.t (.agg [tI a,tI b]),I lo,I hi] []=some (B (decide (lo≤a∧a≤b∧b≤hi)),[]):=by
 refine aj K.um rfl ?_
 by_cases h1:lo≤a<;>by_cases h2:a≤b<;>by_cases h3:b≤hi<;>simp(disch:=omega)only[go_sem,K.ji,↓reduceIte,h1,h2,h3]
theorem x9{m:bq}(h:m.ok):aL 0 N.cG [.t m.e] []=some (I 0,[]):=by
 refine aj K.oJ rfl ?_
 have np:=h.np
 have nr:=h.nr
 have loop1:∀a b c d e:D,exS aL K.qs ⟨[a,.bp 0 0,b,I 0,c,d,e],[.box [.t (.sl (m.aa.map Place.e)),.t (.sl (m.roads.map Road.e))]]⟩=
  some (.exit 0,⟨[.und,.bp 0 0,.und,I m.aa.length,.und,.und,.und],[.box [.t (.sl (m.aa.map Place.e)),.t (.sl (m.roads.map Road.e))]]⟩):=by
  intro a b c d e
  refine bH (fun j=>⟨[.und,.bp 0 0,.und,I j,.und,.und,.und],[.box [.t (.sl (m.aa.map Place.e)),.t (.sl (m.roads.map Road.e))]]⟩) m.aa.length rfl ?_ ?_ (by simp)
  · intro j hj
    have hh:=h.hs _ (aE hj)
    simp(disch:=omega)only[go_sem,K.kp,↓reduceIte]
  · simp(disch:=omega)only[go_sem,K.kp,↓reduceIte]
 have loop2:∀a b c d e:D,exS aL K.qt ⟨[a,.bp 0 0,b,c,d,I 0,e],[.box [.t (.sl (m.aa.map Place.e)),.t (.sl (m.roads.map Road.e))]]⟩=
  some (.exit 2,⟨[.und,.bp 0 0,.und,.und,.und,I m.roads.length,.und],[.box [.t (.sl (m.aa.map Place.e)),.t (.sl (m.roads.map Road.e))]]⟩):=by
  intro a b c d e
  refine bH (fun j=>⟨[.und,.bp 0 0,.und,.und,.und,I j,.und],[.box [.t (.sl (m.aa.map Place.e)),.t (.sl (m.roads.map Road.e))]]⟩) m.roads.length rfl ?_ ?_ (by simp)
  · intro j hj
    obtain⟨f0,f1,t0,t1,ne,l0,l1,a0,a1,r0,r1,r2,i0,i1,i2⟩:=h.rs _ (aE hj)
    have s1:=GY (nth m.roads j).restL (nth m.roads j).restH 1 262144
    have s2:=GY (nth m.roads j).liftL (nth m.roads j).liftH (-2199023255552) 2199023255552
    simp(disch:=omega)only[go_sem]at s1 s2
    simp(disch:=omega)only[go_sem,K.jj,↓reduceIte,s1,s2]
  · simp(disch:=omega)only[go_sem,K.jj,↓reduceIte]
 simp(disch:=omega)only[go_sem,K.cG,↓reduceIte,loop1,loop2]
theorem Jp{l:List Int}{p:Int→Bool}:((List.range l.length).find? fun j=>p (nth l j)).isSome=l.any p:=by
 rw[List.isSome_find?,Bool.eq_iff_iff,List.any_eq_true,List.any_eq_true]
 constructor
 · rintro ⟨j,hj,h⟩
   exact⟨_,aE (aLu.1 hj),h⟩
 · rintro ⟨x,hx,h⟩
   obtain⟨j,hj⟩:=aLf.1 hx
   exact⟨j,aLu.2 (aLe.1 hj).1,by rw[gr hj];exact h⟩
theorem D9(l:List Int)(x:Int)(hl:l.length≤4294967296):aL 0 N.iL [.t (tL l),I x] []=some (B (decide (x∈l)),[]):=by
 refine aj K.xf rfl ?_
 have loop:∀a:D,exS aL K.Ar ⟨[.t (tL l),I x,a,I 0],[]⟩=
  some (match (List.range l.length).find? (fun j=>decide (nth l j=x))with
   | some j=>(.ret,⟨[.t (tL l),I x,B true,I j],[]⟩)
   | none=>(.exit 0,⟨[.t (tL l),I x,.und,I l.length],[]⟩)):=by
  intro a
  refine fY (fun j=>⟨[.t (tL l),I x,.und,I j],[]⟩) l.length (fun j=>decide (nth l j=x)) _ _ rfl ?_ ?_ ?_ (by simp)
  · intro j hj hp
    have hp:¬nth l j=x:=of_decide_eq_false hp
    simp(disch:=omega)only[go_sem,K.oI,↓reduceIte]
  · intro j hj hp
    have hp:nth l j=x:=of_decide_eq_true hp
    simp(disch:=omega)only[go_sem,K.oI,↓reduceIte,hp]
    simp
  · simp(disch:=omega)only[go_sem,K.oI,↓reduceIte]
 have e:=Jp (l:=l) (p:=fun y=>decide (y=x))
 have e2:l.any (fun y=>decide (y=x))=decide (x∈l):=by rw[Bool.eq_iff_iff];simp
 rw[e2]at e
 simp only[go_sem,K.iL,↓reduceIte,loop]
 cases hf:(List.range l.length).find? (fun j=>decide (nth l j=x))with
 | some j=>rw[hf]at e;simp(disch:=omega)only[go_sem,↓reduceIte,←e]
 | none=>rw[hf]at e;simp(disch:=omega)only[go_sem,↓reduceIte,←e,Option.isSome_none]
theorem kt(a b:List Int)(hl:a.length≤4294967296):aL 0 N.aS [.t (tL a),.t (tL b)] []=some (B (decide (a=b)),[]):=by
 refine aj K.nZ rfl ?_
 by_cases hlen:a.length=b.length
 · have loop:∀c:D,exS aL K.ru ⟨[.t (tL a),.t (tL b),c,I 0],[]⟩=
    some (match (List.range a.length).find? (fun j=>decide (nth a j≠nth b j))with
     | some j=>(.ret,⟨[.t (tL a),.t (tL b),B false,I j],[]⟩)
     | none=>(.exit 0,⟨[.t (tL a),.t (tL b),.und,I a.length],[]⟩)):=by
    intro c
    refine fY (fun j=>⟨[.t (tL a),.t (tL b),.und,I j],[]⟩) a.length (fun j=>decide (nth a j≠nth b j)) _ _ rfl ?_ ?_ ?_ (by simp)
    · intro j hj hp
      have hp:nth a j=nth b j:=by simpa using hp
      simp(disch:=omega)only[go_sem,K.kf,↓reduceIte]
    · intro j hj hp
      have hp:nth a j≠nth b j:=by simpa using hp
      simp(disch:=omega)only[go_sem,K.kf,↓reduceIte]
      simp
    · simp(disch:=omega)only[go_sem,K.kf,↓reduceIte]
   have e:(a=b)↔(List.range a.length).find? (fun j=>decide (nth a j≠nth b j))=none:=by
    rw[List.find?_eq_none]
    constructor
    · intro h j _;simp[h]
    · intro h
      apply List.ext_getElem?
      intro j
      by_cases hj:j<a.length
      · rw[sB hj,sB (by omega)]
        have:=h j (aLu.2 hj)
        simpa using this
      · rw[aLm (by omega),aLm (by omega)]
   simp(disch:=omega)only[go_sem,K.aS,↓reduceIte,loop]
   cases hf:(List.range a.length).find? (fun j=>decide (nth a j≠nth b j))with
   | some j=>rw[hf]at e;simp(disch:=omega)only[go_sem,↓reduceIte,e];simp
   | none=>rw[hf]at e;simp(disch:=omega)only[go_sem,↓reduceIte,e]
 · have hne:a≠b:=fun h=>hlen (by rw[h])
   simp(disch:=omega)only[go_sem,K.aS,↓reduceIte,hne]
def lQ(l:List Int)(n:Int):Bool:=(List.range l.length).all fun j=>decide (0≤nth l j∧nth l j<n∧(0<j→nth l (j-1)<nth l j))
theorem E2{n:Nat}{p:Nat→Bool}:((List.range n).all p)=((List.range n).find? fun j=> !p j).isNone:=by
 rw[← Option.not_isSome,List.isSome_find?,List.not_any_eq_all_not]
 simp
theorem wj(l:List Int)(n:Int)(hl:l.length≤4294967296):aL 0 N.gn [.t (tL l),I n] []=some (B (lQ l n),[]):=by
 refine aj K.xg rfl ?_
 have loop:∀c:D,exS aL K.As ⟨[.t (tL l),I n,c,I 0],[]⟩=
  some (match (List.range l.length).find? (fun j=> !decide (0≤nth l j∧nth l j<n∧(0<j→nth l (j-1)<nth l j)))with
   | some j=>(.ret,⟨[.t (tL l),I n,B false,I j],[]⟩)
   | none=>(.exit 0,⟨[.t (tL l),I n,.und,I l.length],[]⟩)):=by
  intro c
  refine fY (fun j=>⟨[.t (tL l),I n,.und,I j],[]⟩) l.length _ _ _ rfl ?_ ?_ ?_ (by simp)
  · intro j hj hp
    simp only[Bool.not_eq_false',decide_eq_true_eq]at hp
    obtain⟨h1,h2,h3⟩:=hp
    cases j with
    | zero=>simp(disch:=omega)only[go_sem,K.jG,↓reduceIte]
    | succ j=>
      have h3:=h3 (by omega)
      rw[Nat.add_sub_cancel]at h3
      simp(disch:=omega)only[go_sem,K.jG,↓reduceIte]
  · intro j hj hp
    simp only[Bool.not_eq_true',decide_eq_false_iff_not]at hp
    refine⟨?_,by simp⟩
    by_cases h1:0≤nth l j
    · by_cases h2:nth l j<n
      · cases j with
        | zero=>exact absurd ⟨h1,h2,fun h=>absurd h (by omega)⟩ hp
        | succ j=>
          have h3:¬nth l j<nth l (j+1):=fun h=>hp ⟨h1,h2,fun _=>by simpa using h⟩
          simp(disch:=omega)only[go_sem,K.jG,↓reduceIte]
      · simp(disch:=omega)only[go_sem,K.jG,↓reduceIte]
    · simp(disch:=omega)only[go_sem,K.jG,↓reduceIte]
  · simp(disch:=omega)only[go_sem,K.jG,↓reduceIte]
 have e:lQ l n=_:=E2
 simp only[go_sem,K.gn,↓reduceIte,loop]
 cases hf:(List.range l.length).find? (fun j=> !decide (0≤nth l j∧nth l j<n∧(0<j→nth l (j-1)<nth l j)))with
 | some j=>rw[hf]at e;simp(disch:=omega)only[go_sem,↓reduceIte,e,Option.isNone_some]
 | none=>rw[hf]at e;simp(disch:=omega)only[go_sem,↓reduceIte,e,Option.isNone_none]
theorem oa(x lo hi:Int):aL 0 N.bc [I x,I lo,I hi] []=some (B (decide (lo≤x∧x≤hi)),[]):=by
 refine aj K.zj rfl ?_
 by_cases h1:lo≤x<;>by_cases h2:x≤hi<;>simp(disch:=omega)only[go_sem,K.bc,↓reduceIte]
theorem Rw(l:List Int)(x:Int)(hl:l.length≤4294967296):aL 0 N.bK [.t (tL l),I x] []=
 some (I (match (List.range l.length).find? (fun j=>decide (nth l j=x))with | some j=>(j:Int) | none=> -1),[]):=by
 refine aj K.j5 rfl ?_
 have loop:∀a b:D,exS aL K.mD ⟨[.t (tL l),I x,a,b,I l.length,I 0],[]⟩=
  some (match (List.range l.length).find? (fun j=>decide (nth l j=x))with
   | some j=>(.ret,⟨[.t (tL l),I x,I j,I j,I l.length,I j],[]⟩)
   | none=>(.exit 0,⟨[.t (tL l),I x,.und,.und,I l.length,I l.length],[]⟩)):=by
  intro a b
  refine fY (fun j=>⟨[.t (tL l),I x,.und,.und,I l.length,I j],[]⟩) l.length (fun j=>decide (nth l j=x)) _ _ rfl ?_ ?_ ?_ (by simp)
  · intro j hj hp
    have hp:¬nth l j=x:=of_decide_eq_false hp
    simp(disch:=omega)only[go_sem,K.fX,↓reduceIte]
  · intro j hj hp
    have hp:nth l j=x:=of_decide_eq_true hp
    simp(disch:=omega)only[go_sem,K.fX,↓reduceIte,hp]
    simp
  · simp(disch:=omega)only[go_sem,K.fX,↓reduceIte]
 simp(disch:=omega)only[go_sem,K.bK,↓reduceIte,loop]
 cases hf:(List.range l.length).find? (fun j=>decide (nth l j=x))with
 | some j=>simp(disch:=omega)only[go_sem,↓reduceIte]
 | none=>simp(disch:=omega)only[go_sem,↓reduceIte]
theorem Jq(l:List Int)(x:Int)(hl:l.length≤4294967296):aL 0 N.aP [.t (tL l),I x] []=some (B (decide (x∈l)),[]):=by
 refine aj K.i5 rfl ?_
 have h:=Rw l x hl
 have e:=Jp (l:=l) (p:=fun y=>decide (y=x))
 have e2:l.any (fun y=>decide (y=x))=decide (x∈l):=by rw[Bool.eq_iff_iff];simp
 rw[e2]at e
 cases hf:(List.range l.length).find? (fun j=>decide (nth l j=x))with
 | some j=>rw[hf]at e h;simp(disch:=omega)only[go_sem,K.aP,↓reduceIte,←e,h]
 | none=>rw[hf]at e h;simp(disch:=omega)only[go_sem,K.aP,↓reduceIte,←e,h,Option.isSome_none]
theorem GZ(l:List Int)(hl:l.length≤4294967296)(f:Nat)(bs:List (List T))(p:Int→Bool)(h:∀x,x∈l→aL 0 f (I x::gg bs.length) (aY bs)=some (B (p x),aY bs)):
 aL 0 N.bA [.t (tL l),.fn f (gg bs.length)] (aY bs)=
 some (I (match (List.range l.length).find? (fun j=>p (nth l j))with | some j=>(j:Int) | none=> -1),aY bs):=by
 refine aj K.iw rfl ?_
 have loop:∀a b:D,exS aL K.kq ⟨[.t (tL l),.fn f (gg bs.length),a,b,I l.length,I 0],aY bs⟩=
  some (match (List.range l.length).find? (fun j=>p (nth l j))with
   | some j=>(.ret,⟨[.t (tL l),.fn f (gg bs.length),I j,I j,I l.length,I j],aY bs⟩)
   | none=>(.exit 0,⟨[.t (tL l),.fn f (gg bs.length),.und,.und,I l.length,I l.length],aY bs⟩)):=by
  intro a b
  refine fY (fun j=>⟨[.t (tL l),.fn f (gg bs.length),.und,.und,I l.length,I j],aY bs⟩) l.length (fun j=>p (nth l j)) _ _ rfl ?_ ?_ ?_ (by simp)
  · intro j hj hp
    have hc:=lO (h _ (aE hj)) rfl
    simp(disch:=omega)only[go_sem,K.ed,↓reduceIte,hc,hp]
  · intro j hj hp
    have hc:=lO (h _ (aE hj)) rfl
    simp(disch:=omega)only[go_sem,K.ed,↓reduceIte,hp,hc]
    simp
  · simp(disch:=omega)only[go_sem,K.ed,↓reduceIte]
 simp(disch:=omega)only[go_sem,K.bA,↓reduceIte,loop]
 cases hf:(List.range l.length).find? (fun j=>p (nth l j))with
 | some j=>simp(disch:=omega)only[go_sem,↓reduceIte]
 | none=>simp(disch:=omega)only[go_sem,↓reduceIte]
theorem o9(l:List Int)(hl:l.length≤4294967296)(f:Nat)(bs:List (List T))(p:Int→Bool)(h:∀x,x∈l→aL 0 f (I x::gg bs.length) (aY bs)=some (B (p x),aY bs)):
 aL 0 N.ax [.t (tL l),.fn f (gg bs.length)] (aY bs)=some (B (l.any p),aY bs):=by
 refine aj K.ga rfl ?_
 have h:=GZ l hl f bs p h
 have hc:=vB aL bs f _ 0 (tL l) h rfl
 have e:=Jp (l:=l) (p:=p)
 cases hf:(List.range l.length).find? (fun j=>p (nth l j))with
 | some j=>rw[hf]at e hc;simp(disch:=omega)only[go_sem,K.ax,↓reduceIte,←e,hc]
 | none=>rw[hf]at e hc;simp(disch:=omega)only[go_sem,K.ax,↓reduceIte,←e,hc,Option.isSome_none]
theorem Wl(r:Road)(back:Bool):aL 0 N.jX [.t r.e,B back] []=some (.tup [I (if back then r.to else r.frm),I (if back then r.frm else r.to)],[]):=by
 refine aj K.uu rfl ?_
 cases back<;>simp(disch:=omega)only[go_sem,K.jX,↓reduceIte]
def jk(m:bq)(k:Nat)(back:Bool)(up down level:Int):Int:=
 let x:=nth m.roads k
 if x.closed=true∨x.walk=false then -1 else
 let a:=if back then x.to else x.frm
 let b:=if back then x.frm else x.to
 let rise:=(nth m.aa b.toNat).h-(nth m.aa a.toNat).h
 let speed:=if -10*rise>x.len then down else if 10*rise>x.len then up else level
 (10*x.len+speed-1).tdiv speed
theorem qA{a b:Int}(ha:0≤a)(hb:1≤b):0≤a.tdiv b∧a.tdiv b≤a:=by
 rw[Int.tdiv_eq_ediv_of_nonneg ha]
 exact⟨Int.ediv_nonneg ha (by omega),Int.ediv_le_self _ ha⟩
theorem OB{m:bq}(h:m.ok)(k:Nat)(hk:k<m.roads.length)(back:Bool)(up down level:Int)(hu:1≤up)(hu2:up≤100)(hd:1≤down)(hd2:down≤100)(hl:1≤level)(hl2:level≤100):
 aL 0 N.cE [.t m.e,I k,B back,I up,I down,I level] []=some (I (jk m k back up down level),[]):=by
 refine aj K.qz rfl ?_
 have hc:=x9 h
 have nr:=h.nr
 have np:=h.np
 obtain⟨f0,f1,t0,t1, -,l0,l1, -, -, -, -, -, -, -, -⟩:=h.rs _ (aE hk)
 have he:=Wl (nth m.roads k) back
 have b1:=h.hs _ (aE (l:=m.aa) (j:=(nth m.roads k).frm.toNat) (by omega))
 have b2:=h.hs _ (aE (l:=m.aa) (j:=(nth m.roads k).to.toNat) (by omega))
 unfold jk
 generalize hx:nth m.roads k=x at*
 obtain⟨frm,to,len,area,walk,closed,rl,rh,ll,lh⟩:=x
 simp only at f0 f1 t0 t1 l0 l1 b1 b2 he ⊢
 cases closed with
 | true=>simp(disch:=omega)only[go_sem,K.cE,↓reduceIte,hc,hx]
 | false=>
   cases walk with
   | false=>simp(disch:=omega)only[go_sem,K.cE,↓reduceIte,hc,hx]
   | true=>
     have g1:=qA (a:=10*len+up-1) (b:=up) (by omega) hu
     have g2:=qA (a:=10*len+down-1) (b:=down) (by omega) hd
     have g3:=qA (a:=10*len+level-1) (b:=level) (by omega) hl
     cases back with
     | true=>
       simp only[↓reduceIte]at he ⊢
       have w1:IntKind.i64.wrap ((nth m.aa frm.toNat).h-(nth m.aa to.toNat).h)=(nth m.aa frm.toNat).h-(nth m.aa to.toNat).h:=uc (by omega) (by omega)
       by_cases c2:len< -10*((nth m.aa frm.toNat).h-(nth m.aa to.toNat).h)
       · simp(disch:=omega)only[go_sem,K.cE,↓reduceIte,hc,hx,he,w1,gt_iff_lt]
       · by_cases c1:len<10*((nth m.aa frm.toNat).h-(nth m.aa to.toNat).h)
         · simp(disch:=omega)only[go_sem,K.cE,↓reduceIte,hc,hx,he,w1,gt_iff_lt]
         · simp(disch:=omega)only[go_sem,K.cE,↓reduceIte,hc,hx,he,w1,gt_iff_lt]
     | false=>
       simp only[aLt,↓reduceIte]at he ⊢
       have w1:IntKind.i64.wrap ((nth m.aa to.toNat).h-(nth m.aa frm.toNat).h)=(nth m.aa to.toNat).h-(nth m.aa frm.toNat).h:=uc (by omega) (by omega)
       by_cases c2:len< -10*((nth m.aa to.toNat).h-(nth m.aa frm.toNat).h)
       · simp(disch:=omega)only[go_sem,K.cE,↓reduceIte,hc,hx,he,w1,gt_iff_lt]
       · by_cases c1:len<10*((nth m.aa to.toNat).h-(nth m.aa frm.toNat).h)
         · simp(disch:=omega)only[go_sem,K.cE,↓reduceIte,hc,hx,he,w1,gt_iff_lt]
         · simp(disch:=omega)only[go_sem,K.cE,↓reduceIte,hc,hx,he,w1,gt_iff_lt]
theorem E3{m:bq}(h:m.ok)(k:Nat)(hk:k<m.roads.length)(back:Bool):aL 0 N.gJ [.t m.e,I k,B back] []=some (I (jk m k back 6 9 12),[]):=by
 refine aj K.ur rfl ?_
 have hw:=OB h k hk back 6 9 12 (by omega) (by omega) (by omega) (by omega) (by omega) (by omega)
 simp(disch:=omega)only[go_sem,K.gJ,↓reduceIte,hw]
theorem E4{m:bq}(h:m.ok)(k:Nat)(hk:k<m.roads.length)(back:Bool): -1≤jk m k back 6 9 12∧jk m k back 6 9 12≤1000012:=by
 have l0:=(h.rs _ (aE hk)).l0
 have l1:=(h.rs _ (aE hk)).l1
 unfold jk
 simp only
 split
 · omega
 · generalize hs:(if -10*_>(nth m.roads k).len then(9:Int)else _)=s
   have h1:1≤s∧s≤12:=by
    rw[← hs]
    split
    · omega
    · split<;>omega
   have g1:=qA (a:=10*(nth m.roads k).len+s-1) (b:=s) (by omega) h1.1
   omega
def bnd(l:List Int):Prop:=∀x∈l,0≤x∧x≤1099511627776
def pb(l:List Int)(p q:Nat)(walk t:Int):Bool:=
 decide (0≤walk)&&decide (nth l p<1099511627776)&&decide (max t (nth l p+walk)≤2147483648)&&decide (max t (nth l p+walk)<nth l q)
def p8(l:List Int)(p q:Nat)(walk t:Int):List Int:=if pb l p q walk t=true then l.set q (max t (nth l p+walk))else l
theorem E5(l:List Int)(hb:bnd l)(hl:l.length≤64)(p q:Int)(hp:0≤p)(hp2:p<l.length)(hq:0≤q)(hq2:q<l.length)(walk t:Int)(hw:walk≤1000000000)(ht:t≤1000000000000)(ht0: -1000000000000≤t):
 aL 0 N.dS [.ref 0 0 l.length,I p,I q,I walk,I t] [.arr 1 false 0 ((l.map (T.int .i64)).map .t)]=
  some (B (pb l p.toNat q.toNat walk t),[.arr 1 false 0 (((p8 l p.toNat q.toNat walk t).map (T.int .i64)).map .t)]):=by
 refine aj K.sy rfl ?_
 have b1:=hb _ (aE (l:=l) (j:=p.toNat) (by omega))
 have b2:=hb _ (aE (l:=l) (j:=q.toNat) (by omega))
 clear hb
 unfold p8 pb
 by_cases c1:0≤walk
 · by_cases c2:nth l p.toNat<1099511627776
   · by_cases c3:max t (nth l p.toNat+walk)≤2147483648
     · by_cases c4:max t (nth l p.toNat+walk)<nth l q.toNat
       · simp(disch:=omega)only[go_sem,K.dS,↓reduceIte]
       · simp(disch:=omega)only[go_sem,K.dS,↓reduceIte]
     · simp(disch:=omega)only[go_sem,K.dS,↓reduceIte]
   · simp(disch:=omega)only[go_sem,K.dS,↓reduceIte]
 · simp(disch:=omega)only[go_sem,K.dS,↓reduceIte]
def Tq(into:Option (List Int))(p:Int):Bool:=match into with
 | none=>true
 | some l=>decide (p∈l)
def rv(into:Option (List Int)):D:=match into with
 | none=> .nil
 | some l=> .t (tL l)
def Road.src(r:Road)(back:Bool):Int:=if back then r.to else r.frm
def Road.dst(r:Road)(back:Bool):Int:=if back then r.frm else r.to
theorem Road.oV{n:Nat}{r:Road}(h:r.ok n)(back:Bool):0≤r.src back∧r.src back<n:=by
 unfold Road.src;have:=h.f0;have:=h.f1;have:=h.t0;have:=h.t1;cases back<;>simp<;>omega
theorem Road.rA{n:Nat}{r:Road}(h:r.ok n)(back:Bool):0≤r.dst back∧r.dst back<n:=by
 unfold Road.dst;have:=h.f0;have:=h.f1;have:=h.t0;have:=h.t1;cases back<;>simp<;>omega
def i6(m:bq)(t:Int)(into:Option (List Int))(k:Nat)(back:Bool)(l:List Int):List Int×Bool:=
 if Tq into ((nth m.roads k).dst back)=true then
  (p8 l ((nth m.roads k).src back).toNat ((nth m.roads k).dst back).toNat (jk m k back 6 9 12) t,pb l ((nth m.roads k).src back).toNat ((nth m.roads k).dst back).toNat (jk m k back 6 9 12) t)
 else(l,false)
def zm(m:bq)(t:Int)(into:Option (List Int))(k:Nat)(s:List Int×Bool):List Int×Bool:=
 let a:=i6 m t into k false s.1
 let b:=i6 m t into k true a.1
 (b.1,s.2||a.2||b.2)
def iM(m:bq)(t:Int)(into:Option (List Int))(l:List Int):Nat→List Int×Bool
 | 0=>(l,false)
 | k+1=>zm m t into k (iM m t into l k)
def fy(m:bq)(t:Int)(into:Option (List Int))(l:List Int):List Int×Bool:=iM m t into l m.roads.length
theorem oR(l:List Int)(p q:Nat)(w t:Int):(p8 l p q w t).length=l.length:=by unfold p8;split<;>simp
theorem uv(m:bq)(t:Int)(into:Option (List Int))(k:Nat)(back:Bool)(l:List Int):(i6 m t into k back l).1.length=l.length:=by
 unfold i6;split
 · exact oR _ _ _ _ _
 · rfl
theorem gL(m:bq)(t:Int)(into:Option (List Int))(l:List Int):∀k,(iM m t into l k).1.length=l.length
 | 0=>rfl
 | k+1=>by simp only[iM,zm,uv,gL m t into l k]
theorem zn{l:List Int}(h:bnd l){q:Nat}{x:Int}(h0:0≤x)(h1:x≤1099511627776):bnd (l.set q x):=by
 intro y hy
 rcases aLk hy with hy | hy
 · exact h y hy
 · subst hy;exact⟨h0,h1⟩
theorem Ea{l:List Int}(h:bnd l){p q:Nat}(hp:p<l.length){w t:Int}:bnd (p8 l p q w t):=by
 unfold p8
 split
 · rename_i hc
   simp only[pb,aLr,decide_eq_true_eq]at hc
   have:=h _ (aE hp)
   exact zn h (by omega) (by omega)
 · exact h
section
variable {m : bq} (h : m.ok) {t : Int} {into : Option (List Int)}
include h
theorem ya{l:List Int}(hl:l.length=m.aa.length)(hb:bnd l){k:Nat}(hk:k<m.roads.length)(back:Bool):bnd (i6 m t into k back l).1:=by
 have r1:=Road.oV (h.rs _ (aE hk)) back
 unfold i6
 split
 · exact Ea hb (by omega)
 · exact hb
theorem oS{l:List Int}(hl:l.length=m.aa.length)(hb:bnd l):∀k,k≤m.roads.length→bnd (iM m t into l k).1
 | 0,_=>hb
 | k+1,hk=>by
   simp only[iM,zm]
   exact ya h (by rw[uv,gL,hl]) (ya h (by rw[gL,hl]) (oS hl hb k (by omega)) (by omega) _) (by omega) _
end
def nD(l:List Int):Nat:=(l.map Int.toNat).sum
theorem Bt:∀ {l:List Int} {q:Nat} {x:Int},q<l.length→0≤x→x<nth l q→nD (l.set q x)<nD l
 | [],q,x,h,_,_=>by simp at h
 | a::l,0,x,_,h0,h1=>by
   have h1:x<a:=by simpa [nth]using h1
   simp only[nD,List.set_cons_zero,List.map_cons,List.sum_cons];omega
 | a::l,q+1,x,h,h0,h1=>by
   have:=Bt (l:=l) (q:=q) (x:=x) (by simpa using h) h0 (by simpa [nth]using h1)
   simp only[nD,List.set_cons_succ,List.map_cons,List.sum_cons]at this ⊢;omega
theorem LZ{l:List Int}(hb:bnd l){p q:Nat}(hp:p<l.length)(hq:q<l.length){w t:Int}:
 (pb l p q w t=true→nD (p8 l p q w t)<nD l)∧(pb l p q w t=false→p8 l p q w t=l):=by
 unfold p8
 constructor
 · intro hc
   rw[if_pos hc]
   simp only[pb,aLr,decide_eq_true_eq]at hc
   have:=hb _ (aE hp)
   exact Bt hq (by omega) hc.2
 · intro hc;rw[if_neg (by simp[hc])]
section
variable {m : bq} (h : m.ok) {t : Int} {into : Option (List Int)}
include h
theorem G0{l:List Int}(hl:l.length=m.aa.length)(hb:bnd l){k:Nat}(hk:k<m.roads.length)(back:Bool):
 ((i6 m t into k back l).2=true→nD (i6 m t into k back l).1<nD l)∧((i6 m t into k back l).2=false→(i6 m t into k back l).1=l):=by
 have r1:=Road.oV (h.rs _ (aE hk)) back
 have r2:=Road.rA (h.rs _ (aE hk)) back
 unfold i6
 split
 · exact LZ hb (by omega) (by omega)
 · simp
theorem zo{l:List Int}(hl:l.length=m.aa.length)(hb:bnd l):∀k,k≤m.roads.length→
 ((iM m t into l k).2=true→nD (iM m t into l k).1<nD l)∧((iM m t into l k).2=false→(iM m t into l k).1=l)
 | 0,_=>⟨fun h=>by simp[iM]at h,fun _=>rfl⟩
 | k+1,hk=>by
   obtain⟨i1,i2⟩:=zo hl hb k (by omega)
   have hb1:=oS h (t:=t) (into:=into) hl hb k (by omega)
   have hl1:(iM m t into l k).1.length=m.aa.length:=by rw[gL,hl]
   obtain⟨a1,a2⟩:=G0 h (t:=t) (into:=into) hl1 hb1 (k:=k) (by omega) false
   have hb2:=ya h (t:=t) (into:=into) hl1 hb1 (k:=k) (by omega) false
   obtain⟨c1,c2⟩:=G0 h (t:=t) (into:=into) (by rw[uv,hl1]) hb2 (k:=k) (by omega) true
   simp only[iM,zm]
   generalize iM m t into l k=s at*
   obtain⟨sl,sb⟩:=s
   simp only at*
   generalize i6 m t into k false sl=a at*
   obtain⟨al,ab⟩:=a
   simp only at*
   generalize i6 m t into k true al=b at*
   obtain⟨bl,bb⟩:=b
   simp only at*
   cases sb<;>cases ab<;>cases bb<;>simp_all<;>omega
end
end Go.Ev
namespace Go.Ev
open Go
variable [Lib] [bO] [bL]
abbrev ae(m:bq):List D:=[.t (.sl (m.aa.map Place.e)),.t (.sl (m.roads.map Road.e))]
theorem Wm(H:aq)(into:Option (List Int))(hi:∀l,into=some l→l≠[]):r9 H .sl false (some (rv into)) (some .nil)=some (B (into.isNone),H):=by
 cases into with
 | none=>rfl
 | some l=>exact p5 H _ (by simpa using hi l rfl)
@[go_sem] theorem ac1 (k n : Nat) (into : Option (List Int)) : old k n (rv into) = true := by
 cases into<;>simp only[rv,go_sem]
theorem L0{m:bq}(h:m.ok)(t:Int)(ht:t≤1000000000000)(ht0: -1000000000000≤t)(into:Option (List Int))(hi:∀l,into=some l→l≠[]∧l.length≤64)(l:List Int)(hl:l.length=m.aa.length)(hb:bnd l)
 (k:Nat) (hk:k<m.roads.length) (ag:Bool):
 kV true [0,1,5,9] 2 (exS aL K.fE ⟨[.und,.und,I t,rv into,.bp 0 0,.und,.ref 1 0 l.length,B ag,I k,.und],[.box (ae m),.arr 1 false 0 ((l.map (T.int .i64)).map .t)]⟩)=
  some ⟨[.und,.und,I t,rv into,.bp 0 0,.und,.ref 1 0 (zm m t into k (l,ag)).1.length,B (zm m t into k (l,ag)).2,I (k+1),.und],[.box (ae m),.arr 1 false 0 (((zm m t into k (l,ag)).1.map (T.int .i64)).map .t)]⟩:=by
 have np:=h.np
 have nr:=h.nr
 have t1:=E3 h k hk false
 have t2:=E3 h k hk true
 have w1:=(E4 h k hk false).2
 have w2:=(E4 h k hk true).2
 obtain⟨f0,f1,t0,t1', -, -, -, -, -, -, -, -, -, -, -⟩:=h.rs _ (aE hk)
 have e0:=fun H=>Wm H into fun l hl=>(hi l hl).1
 have lw1:=E5 l hb (by omega) (nth m.roads k).frm (nth m.roads k).to f0 (by omega) t0 (by omega) (jk m k false 6 9 12) t (by omega) ht ht0
 have lw2:=E5 l hb (by omega) (nth m.roads k).to (nth m.roads k).frm t0 (by omega) f0 (by omega) (jk m k true 6 9 12) t (by omega) ht ht0
 have hl':(p8 l (nth m.roads k).frm.toNat (nth m.roads k).to.toNat (jk m k false 6 9 12) t).length=l.length:=oR ..
 have lw3:=E5 _ (Ea hb (p:=(nth m.roads k).frm.toNat) (q:=(nth m.roads k).to.toNat) (w:=jk m k false 6 9 12) (t:=t) (by omega)) (by omega) (nth m.roads k).to (nth m.roads k).frm t0 (by omega) f0 (by omega) (jk m k true 6 9 12) t (by omega) ht ht0
 rw[hl']at lw3
 simp only[zm,i6,Road.src,Road.dst,aLt,↓reduceIte]
 generalize hx:nth m.roads k=x at*
 obtain⟨frm,to,len,area,walk,closed,rl,rh,ll,lh⟩:=x
 simp only at f0 f1 t0 t1' lw1 lw2 lw3 hl' ⊢
 generalize hw1:jk m k false 6 9 12=v1 at*
 generalize hw2:jk m k true 6 9 12=v2 at*
 clear hb
 cases into with
 | none=>
   simp only[rv,Tq,↓reduceIte,Option.isNone]at e0 ⊢
   cases c1:pb l frm.toNat to.toNat v1 t<;>cases c2:pb (p8 l frm.toNat to.toNat v1 t) to.toNat frm.toNat v2 t<;>rw[c1]at lw1<;>rw[c2]at lw3<;>
   simp(disch:=omega)only[go_sem,K.fE,↓reduceIte,hx,e0,t1,t2,lw1,lw3,oR,reduceAdd,reduceSub]
 | some s=>
   have hs:=(hi s rfl).2
   have g1:=D9 s to (by omega)
   have g2:=D9 s frm (by omega)
   simp only[rv,Tq,Option.isNone]at e0 ⊢
   by_cases m1:to∈s<;>by_cases m2:frm∈s
   · simp only[m1,m2,decide_true,↓reduceIte]at g1 g2 ⊢
     cases c1:pb l frm.toNat to.toNat v1 t<;>cases c2:pb (p8 l frm.toNat to.toNat v1 t) to.toNat frm.toNat v2 t<;>rw[c1]at lw1<;>rw[c2]at lw3<;>
     simp(disch:=omega)only[go_sem,K.fE,↓reduceIte,hx,e0,t1,t2,lw1,lw3,g1,g2,c1,Bool.or_true,Bool.or_false,oR,reduceAdd,reduceSub]
   · simp only[m1,m2,decide_true,decide_false,↓reduceIte]at g1 g2 ⊢
     cases c1:pb l frm.toNat to.toNat v1 t<;>rw[c1]at lw1<;>
     simp(disch:=omega)only[go_sem,K.fE,↓reduceIte,hx,e0,t1,t2,lw1,g1,g2,c1,Bool.or_true,Bool.or_false,oR,reduceAdd,reduceSub]
   · simp only[m1,m2,decide_true,decide_false,↓reduceIte]at g1 g2 ⊢
     cases c1:pb l to.toNat frm.toNat v2 t<;>rw[c1]at lw2<;>
     simp(disch:=omega)only[go_sem,K.fE,↓reduceIte,hx,e0,t1,t2,lw2,g1,g2,c1,Bool.or_true,Bool.or_false,oR,reduceAdd,reduceSub]
   · simp only[m1,m2,decide_false,↓reduceIte]at g1 g2 ⊢
     simp(disch:=omega)only[go_sem,K.fE,↓reduceIte,hx,e0,t1,t2,g1,g2,reduceAdd,reduceSub]
theorem KZ{m:bq}(h:m.ok)(t:Int)(ht:t≤1000000000000)(ht0: -1000000000000≤t)(into:Option (List Int))(hi:∀l,into=some l→l≠[]∧l.length≤64)(l:List Int)(hl:l.length=m.aa.length)(hb:bnd l):
 aL 0 N.gT [.t m.e,.t (tL l),I t,rv into] []=some (.t (tL (fw (fy m t into) (nD l+1) l)),[])∧(fw (fy m t into) (nD l+1) l).length=m.aa.length∧bnd (fw (fy m t into) (nD l+1) l):=by
 have nr:=h.nr
 have inner:∀(l:List Int),l.length=m.aa.length→bnd l→∀(a b c d:D),exS aL K.we ⟨[a,b,I t,rv into,.bp 0 0,c,.ref 1 0 l.length,B false,I 0,d],[.box (ae m),.arr 1 false 0 ((l.map (T.int .i64)).map .t)]⟩=
  some (.exit 2,⟨[.und,.und,I t,rv into,.bp 0 0,.und,.ref 1 0 l.length,B (fy m t into l).2,I m.roads.length,.und],[.box (ae m),.arr 1 false 0 (((fy m t into l).1.map (T.int .i64)).map .t)]⟩):=by
  intro l hl hb a b c d
  refine bH (fun j=>⟨[.und,.und,I t,rv into,.bp 0 0,.und,.ref 1 0 (iM m t into l j).1.length,B (iM m t into l j).2,I j,.und],[.box (ae m),.arr 1 false 0 (((iM m t into l j).1.map (T.int .i64)).map .t)]⟩) m.roads.length rfl ?_ ?_ (by simp)
  · intro j hj
    have:=L0 h t ht ht0 into hi (iM m t into l j).1 (by rw[gL,hl]) (oS h hl hb j (by omega)) j hj (iM m t into l j).2
    exact this
  · simp(disch:=omega)only[go_sem,K.fE,↓reduceIte,fy,gL]
 have outer:=fun(a b c d e:D)=>D7 (gc:=true) (dead:=[0,1,5,8,9]) (c:=K.mC) (vs:=[a,b,I t,rv into,.bp 0 0,c,.ref 1 0 l.length,B true,d,e]) (H:=[.box (ae m),.arr 1 false 0 ((l.map (T.int .i64)).map .t)])
  (fun l ag=>⟨[.und,.und,I t,rv into,.bp 0 0,.und,.ref 1 0 l.length,B ag,.und,.und],[.box (ae m),.arr 1 false 0 ((l.map (T.int .i64)).map .t)]⟩)
  (fun l=>(.exit 0,⟨[.und,.und,I t,rv into,.bp 0 0,.und,.ref 1 0 l.length,B false,.und,.und],[.box (ae m),.arr 1 false 0 ((l.map (T.int .i64)).map .t)]⟩))
  (fy m t into) (fun l=>l.length=m.aa.length∧bnd l) nD
  (fun l ⟨hl,hb⟩=>⟨⟨by rw[fy,gL,hl],oS h hl hb _ (aLs _)⟩,(zo h hl hb _ (aLs _)).1⟩)
  (by
   rintro l ⟨hl,hb⟩
   have:=inner l hl hb
   have e:(fy m t into l).1.length=l.length:=by rw[fy,gL]
   simp(disch:=omega)only[go_sem,K.mC,↓reduceIte,this,e])
  (by
   rintro l ⟨hl,hb⟩
   simp(disch:=omega)only[go_sem,K.mC,↓reduceIte,reduceCtorEq,ne_eq,not_false_eq_true,and_self])
  l ⟨hl,hb⟩ rfl
 obtain⟨-,o2⟩:=outer .und .und .und .und .und
 refine⟨?_,o2⟩
 refine aj K.sx rfl ?_
 have o1:∀a b c d e:D,exS aL K.wg ⟨[a,b,I t,rv into,.bp 0 0,c,.ref 1 0 l.length,B true,d,e],[.box (ae m),.arr 1 false 0 ((l.map (T.int .i64)).map .t)]⟩=_:=fun a b c d e=>(outer a b c d e).1
 clear outer inner
 have np:=h.np
 have o2:=o2.1
 generalize fw (fy m t into) (nD l+1) l=l2 at*
 cases into with
 | none=>
   simp only[rv]at o1
   simp(disch:=omega)only[go_sem,K.gT,↓reduceIte,o1,rv]
 | some s=>
   simp only[rv]at o1
   simp(disch:=omega)only[go_sem,K.gT,↓reduceIte,o1,rv]
structure Wh where
 time:Int
 frm:List Int
instance : Dat Wh := ⟨⟨0, []⟩⟩
abbrev Wh.e(w:Wh):T:= .agg [tI w.time,tL w.frm]
def mT(m:bq)(t:Int)(into:Option (List Int))(l:List Int):List Int:=fw (fy m t into) (nD l+1) l
def inT(t:Int):Prop:=0≤t∧t≤2147483648
instance (t : Int) : Decidable (inT t) := by unfold inT; infer_instance
def plT(x:Int):Prop:=x=1099511627776∨inT x
instance (t : Int) : Decidable (plT t) := by unfold plT; infer_instance
def OC(w:Wh)(n:Int):Bool:=decide ((w.frm.length:Int)=n∧inT w.time)&&(List.range w.frm.length).all fun j=>decide (plT (nth w.frm j))
theorem OD(t:Int):aL 0 N.gC [I t] []=some (B (decide (inT t)),[]):=by
 refine aj K.qy rfl ?_
 unfold inT
 by_cases h1:0≤t<;>by_cases h2:t≤2147483648<;>simp(disch:=omega)only[go_sem,K.gC,↓reduceIte,h1,h2]
theorem Rx{m:bq}(h:m.ok)(t:Int)(ht:inT t)(l:List Int)(hl:l.length=m.aa.length)(hb:bnd l):
 aL 0 N.i4 [.t m.e,.t (tL l),I t] []=some (.t (tL (mT m t none l)),[]):=by
 refine aj K.sq rfl ?_
 unfold inT at ht
 have:=(KZ h t (by omega) (by omega) none (by simp) l hl hb).1
 simp only[rv]at this
 unfold mT
 simp(disch:=omega)only[go_sem,K.i4,↓reduceIte,this]
def G1(m:bq)(w:Wh):Bool:=OC w m.aa.length&&decide (mT m w.time none w.frm=w.frm)
theorem Jr{w:Wh}{n:Int}(h:OC w n=true):(w.frm.length:Int)=n∧inT w.time∧∀x∈w.frm,plT x:=by
 simp only[OC,aLr,decide_eq_true_eq,aLx,aLu]at h
 refine⟨h.1.1,h.1.2,fun x hx=>?_⟩
 obtain⟨j,hj⟩:=aLf.1 hx
 have:=h.2 j (aLe.1 hj).1
 rwa [gr hj]at this
theorem L3{m:bq}(h:m.ok)(t:Int)(ht:inT t)(into:Option (List Int))(hi:∀l,into=some l→l≠[]∧l.length≤64){l:List Int}(hl:l.length=m.aa.length)(hb:bnd l):(mT m t into l).length=m.aa.length:=by
 unfold inT at ht
 exact(KZ h t (by omega) (by omega) into hi l hl hb).2.1
theorem Wn(w:Wh)(hl:w.frm.length≤4294967296):aL 0 N.jW [.t w.e] []=some (.t w.e,[]):=by
 refine aj K.uq rfl ?_
 obtain⟨time,frm⟩:=w
 simp only at*
 simp(disch:=omega)only[go_sem,K.jW,↓reduceIte,reduceAdd,reduceSub]
def kK(n:Nat):List Int:=List.replicate n 1099511627776
theorem Js(n:Nat):kK (n+1)=kK n++[1099511627776]:=List.replicate_succ'
@[simp] theorem oT (n : Nat) : (kK n).length = n := List.length_replicate
theorem zp(n:Nat):bnd (kK n):=fun x hx=>by rw[List.eq_of_mem_replicate hx];omega
theorem L4(n:Nat)(hn:n≤1000000)(a:D):exS aL K.wc ⟨[I n,a,.ref 0 0 0,I 0],[.arr 1 false 0 []]⟩=
 some (.exit 0,⟨[I n,.und,.ref 0 0 n,I n],[.arr 1 false 0 (((kK n).map (T.int .i64)).map .t)]⟩):=by
 refine bH (fun j=>⟨[I n,.und,.ref 0 0 (kK j).length,I j],[.arr 1 false 0 (((kK j).map (T.int .i64)).map .t)]⟩) n rfl ?_ ?_ (by simp)
 · intro j hj
   have:=oT j
   simp(disch:=omega)only[go_sem,K.o5,Js,↓reduceIte]
 · simp(disch:=omega)only[go_sem,K.o5,↓reduceIte,oT]
theorem OE(n:Nat)(hn:n≤1000000):aL 1 N.iZ [I n] []=some (.ref 0 0 n,[.arr 1 false 0 (((kK n).map (T.int .i64)).map .t)]):=by
 refine aj K.sn rfl ?_
 have:=L4 n hn
 simp(disch:=omega)only[go_sem,K.iZ,↓reduceIte,this]
def fG(m:bq)(p t:Int):Wh×Int:=
 if p<0∨(m.aa.length:Int)≤p then(⟨0,[]⟩,3)else if inT t then(⟨t,mT m t none ((kK m.aa.length).set p.toNat t)⟩,0)else(⟨0,[]⟩,8)
theorem K0{m:bq}(h:m.ok)(p t:Int):aL 0 N.fj [.t m.e,I p,I t] []=some (.tup [.t (fG m p t).1.e,I (fG m p t).2],[]):=by
 refine aj K.sk rfl ?_
 have c:=x9 h
 have np:=h.np
 have it:=OD t
 have nl:=oT m.aa.length
 have nv:=OE m.aa.length (by omega)
 unfold fG
 by_cases h1:p<0
 · simp(disch:=omega)only[go_sem,K.fj,↓reduceIte,c,h1,true_or]
   rfl
 · by_cases h2:(m.aa.length:Int)≤p
   · simp(disch:=omega)only[go_sem,K.fj,↓reduceIte,c,h1,h2,or_true]
     rfl
   · by_cases h3:inT t
     · have b:bnd ((kK m.aa.length).set p.toNat t):=zn (zp _) h3.1 (by have:=h3.2;omega)
       have cl:=Rx h t h3 ((kK m.aa.length).set p.toNat t) (by simp) b
       simp only[h3,decide_true]at it
       simp(disch:=omega)only[go_sem,K.fj,↓reduceIte,c,h1,h2,or_self,h3,it,nv,oT,cl]
     · simp only[h3,decide_false]at it
       simp(disch:=omega)only[go_sem,K.fj,↓reduceIte,c,h1,h2,or_self,h3,it]
       rfl
def OF(w:Wh)(t:Int):Wh×Int:=if t<w.time∨2147483648<t then(w,8)else(⟨t,w.frm⟩,0)
def K1(m:bq)(w:Wh)(aa:List Int)(a b:Int):Int:=
 if G1 m w=true∧aa≠[]∧lQ aa m.aa.length=true then(if inT a∧inT b∧a≤b then 0 else 8)else 6
theorem E6{l:List Int}{n:Int}(h:lQ l n=true){j:Nat}(hj:j<l.length):0≤nth l j∧nth l j<n∧(0<j→nth l (j-1)<nth l j):=by
 simp only[lQ,aLx,aLu,decide_eq_true_eq]at h
 exact h j hj
theorem OH{l:List Int}{n:Int}(h:lQ l n=true):∀ {j:Nat},j<l.length→(j:Int)≤nth l j
 | 0,hj=>by have:=E6 h hj;omega
 | j+1,hj=>by
   have h1:=OH h (j:=j) (by omega)
   have:=(E6 h hj).2.2 (by omega)
   simp only[Nat.add_sub_cancel]at this
   omega
theorem E7{l:List Int}{n:Nat}(h:lQ l n=true):l.length≤n:=by
 cases hl:l.length with
 | zero=>omega
 | succ k=>
   have h1:=OH h (j:=k) (by omega)
   have h2:=(E6 h (j:=k) (by omega)).2.1
   omega
def Wo(w:Wh)(t p:Int)(s:List Int×Bool):List Int×Bool:=if nth w.frm p.toNat≤t then(s.1.set p.toNat (nth w.frm p.toNat),true)else s
def ajf(w:Wh)(l:List Int)(t:Int)(n:Nat):Nat→List Int×Bool
 | 0=>(kK n,false)
 | j+1=>Wo w t (nth l j) (ajf w l t n j)
def akK(m:bq)(w:Wh)(l:List Int)(a b:Int):Wh×Int:=
 if K1 m w l a b≠0 then(w,K1 m w l a b)else if a<w.time then(w,42)else
 if(ajf w l b m.aa.length l.length).2=true then(⟨b,mT m a none (ajf w l b m.aa.length l.length).1⟩,0)else(w,43)
theorem Jt{m:bq}{w:Wh}(h:G1 m w=true):w.frm.length=m.aa.length∧inT w.time∧(∀x∈w.frm,plT x)∧mT m w.time none w.frm=w.frm:=by
 simp only[G1,aLr,decide_eq_true_eq]at h
 obtain⟨h1,h2,h3⟩:=Jr h.1
 exact⟨by omega,h2,h3,h.2⟩
def akL(l0 l:List Int):Nat→List Int
 | 0=>l0
 | j+1=>(akL l0 l j).set (nth l j).toNat 1099511627776
def akM(m:bq)(w:Wh)(l:List Int)(a b bl:Int):Wh×Int:=
 if K1 m w l a b≠0 then(w,K1 m w l a b)else if ¬inT bl then(w,8)else if b<w.time then(w,42)else if b-max a w.time≤bl then(w,0)else
 (⟨b,mT m b none (mT m (b-bl) (some l) (akL w.frm l l.length))⟩,0)
def akN(a b:List Int):Nat→List Int
 | 0=>[]
 | j+1=>akN a b j++[min (nth a j) (nth b j)]
def OI(a b:Wh):Wh×Int:=if a.frm.length=b.frm.length then(⟨max a.time b.time,akN a.frm b.frm a.frm.length⟩,0)else(⟨0,[]⟩,6)
theorem Ry{α:Type} [Dat α](l:List α)(k:Nat)(hk:k<l.length)(x:α)(j:Nat):nth (l.set k x) j=if j=k then x else nth l j:=by
 unfold nth
 by_cases h:j=k
 · subst h;rw[if_pos rfl];simp[hk]
 · rw[if_neg h]
   have:¬k=j:=fun e=>h e.symm
   simp[List.getElem?_set,this]
def clW(m:bq)(t:Int)(into:Option (List Int))(y:List Int):Prop:=∀k,k<m.roads.length→∀back,Tq into ((nth m.roads k).dst back)=true→0≤jk m k back 6 9 12→
 nth y ((nth m.roads k).src back).toNat<1099511627776→max t (nth y ((nth m.roads k).src back).toNat+jk m k back 6 9 12)≤2147483648→
 nth y ((nth m.roads k).dst back).toNat≤max t (nth y ((nth m.roads k).src back).toNat+jk m k back 6 9 12)
section
variable {m : bq} (h : m.ok) {t : Int} {into : Option (List Int)}
include h
end
end Go.Ev
namespace Go.Ev
open Go
variable [Lib] [bO] [bL]
structure OfI(m:bq)(p:Nat)(l:List Int):Prop where
 ln:l.length=m.aa.length
 bd:bnd l
 z:nth l p=0
theorem OfI.set{m:bq}{p:Nat}{l:List Int}(h:OfI m p l){q:Nat}{x:Int}(hq:q<l.length)(h0:0<x)(hx:x<nth l q):OfI m p (l.set q x):=by
 have b1:=h.bd _ (aE hq)
 refine⟨by rw[List.length_set];exact h.ln,zn h.bd (by omega) (by omega),?_⟩
 rw[Ry _ _ hq]
 split
 · rename_i e;subst e;have:=h.z;omega
 · exact h.z
theorem Ju{n:Nat}{p:Nat→Bool}{x:Int}(h:x∈kJ n p):∃k:Nat,x=k∧k<n∧p k=true:=by
 unfold kJ at h
 simp only[List.mem_map,List.mem_filter,aLu]at h
 obtain⟨k,⟨h1,h2⟩,rfl⟩:=h
 exact⟨k,rfl,h1,h2⟩
theorem nf(n:Nat)(p:Nat→Bool):lQ (kJ n p) n=true:=by
 unfold lQ
 rw[aLx]
 intro j hj
 rw[aLu]at hj
 simp only[decide_eq_true_eq]
 have pw:(kJ n p).Pairwise (· < ·):=by
  unfold kJ
  rw[List.pairwise_map]
  exact(List.pairwise_lt_range.filter _).imp fun h=>by omega
 obtain⟨k,e,hk, -⟩:=Ju (aE hj)
 refine⟨by omega,by omega,fun h0=>?_⟩
 have:=List.pairwise_iff_getElem.1 pw (j-1) j (by omega) hj (by omega)
 rwa [gr (aLc (by omega:j-1<_)),gr (aLc hj)]
@[go_sem] theorem ajg (H : aq) (a b : List T) : D5 H 1 [.t (.sl a), .t (.sl b), .nil] = some (.t (.sl [.sl a, .sl b, .sl []]), H) := by
 simp only[D5,List.all_cons,List.all_nil,D.cells,T.cells,List.map_cons,List.map_nil,List.length_cons,List.length_nil,cK,frz,depth,gz,List.flatMap_cons,List.flatMap_nil,pins]
 rfl
def Rz(c:Bool):Option Bool→Option Bool
 | some d=>some (c&&d)
 | none=>none
@[go_sem] theorem ZO (c d : Bool) : Rz c (some d) = some (c && d) := (rfl)
@[go_sem] theorem ZP : ow [] [] = some true := (rfl)
@[go_sem] theorem Wp (k : IntKind) (a b : Int) (xs ys : List T) : ow (.int k a :: xs) (.int k b :: ys) = Rz (decide (a = b)) (ow xs ys) := by
 simp only[ow,if_true,abk]
 cases ow xs ys<;>rfl
def RA(H:aq)(neg:Bool):Option Bool→Option (D×aq)
 | some r=>some (.t (.bool (bif neg then !r else r)),H)
 | none=>none
@[go_sem] theorem ZQ (H : aq) (r : Bool) : RA H true (some r) = some (.t (.bool (!r)), H) := (rfl)
@[go_sem] theorem Wq (H : aq) (r : Bool) : RA H false (some r) = some (.t (.bool r), H) := (rfl)
@[go_sem] theorem Ws (H : aq) (n : Nat) (neg : Bool) (xs ys : List T) : r9 H (.ints n) neg (some (.t (.agg xs))) (some (.t (.agg ys))) = if xs.length = n then RA H neg (ow xs ys) else none := by
 simp only[r9,aLq,SS,eqD]
 by_cases h:xs.length=n
 · simp only[if_pos h]
   cases ow xs ys with
   | none=>rfl
   | some r=>cases neg<;>rfl
 · simp only[if_neg h];rfl
@[go_sem] theorem ZR : ((2 : Nat) : Int) = 2 := (rfl)
@[go_sem] theorem Ts : ((3 : Nat) : Int) = 3 := (rfl)
def uw(n:Nat)(p:Nat→Bool):Nat:=((List.range n).find? p).getD 0
theorem pc{gc:Bool}{dead:List Nat}{c:C}{vs:List D}{H:aq}(s:Nat→St)(n:Nat)(p:Nat→Bool)(e:Nat→Ex×St)(eN:Ex×St)
 (h0:(⟨mh dead vs,H⟩:St)=s 0)
 (hs:∀j,j<n→p j=false→kV gc dead (s j).H.length (exS aL c (s j))=some (s (j+1)))
 (he:∀j,j<n→p j=true→exS aL c (s j)=some (e j)∧(e j).1≠ .normal)
 (hN:exS aL c (s n)=some eN) (hn:eN.1≠ .normal):
 exS aL (.loop gc dead c) ⟨vs,H⟩=some (if(List.range n).any p=true then e (uw n p)else eN):=by
 rw[fY s n p e eN h0 hs he hN hn,←Rt]
 unfold uw
 cases hf:(List.range n).find? p with
 | none=>simp
 | some k=>simp
theorem Cb{α:Type} [Dat α](l:List α)(p:α→Bool):((List.range l.length).any fun j=>p (nth l j))=l.any p:=by
 rw[Bool.eq_iff_iff,List.any_eq_true,List.any_eq_true]
 constructor
 · rintro ⟨j,hj,hp⟩
   exact⟨_,aE (aLu.1 hj),hp⟩
 · rintro ⟨x,hx,hp⟩
   obtain⟨j,hj,rfl⟩:=List.getElem_of_mem hx
   exact⟨j,aLu.2 hj,by rw[gr (aLc hj)];exact hp⟩
theorem OJ(n:Nat)(p:Nat→Bool):(List.range n).all p= !((List.range n).any fun j=> !p j):=by
 rw[List.all_eq_not_any_not]
@[go_sem] theorem ac2 : mg [] [] [] = some true := (rfl)
@[go_sem] theorem ac3 (ks : List Bool) (k : IntKind) (a b : Int) (xs ys : List T) : mg (true :: ks) (.int k a :: xs) (.int k b :: ys) = Rz (decide (a = b)) (mg ks xs ys) := by
 simp only[mg,if_true,abk]
 cases mg ks xs ys<;>rfl
@[go_sem] theorem ZS (ks : List Bool) (a b : Bool) (xs ys : List T) : mg (false :: ks) (.bool a :: xs) (.bool b :: ys) = Rz (decide (a = b)) (mg ks xs ys) := by
 simp only[mg,show(a==b)=decide (a=b)from rfl]
 cases mg ks xs ys<;>rfl
@[go_sem] theorem agj (H : aq) (ks : List Bool) (neg : Bool) (xs ys : List T) : r9 H (.sc ks) neg (some (.t (.agg xs))) (some (.t (.agg ys))) = RA H neg (mg ks xs ys) := by
 simp only[r9,aLq,SS,eqD]
 cases mg ks xs ys with
 | none=>rfl
 | some r=>cases neg<;>rfl
end Go.Ev
namespace Go.Ev
open Go
section
variable (H : aq) (sz id ep n lo hi : Nat) (i j : Int) (fz : Bool)
def scO(r:D):Option Obj→Option (D×aq)
 | some (.arr sz' _ ep' es)=>if ep=ep'∧n=es.length then(if sz'=sz then some (r,H)else none)else none
 | _=>none
@[go_sem] theorem ajh (r : D) (sz' : Nat) (pin : Bool) (es : List D) : scO H sz ep n r (some (.arr sz' pin ep es)) = if n = es.length then (if sz' = sz then some (r, H) else none) else none := by simp [scO]
theorem scR{l h:Nat}:((iI H id ep n).bind fun a=>if l≤h∧h≤n∧a.1=sz then some (D.sub id ep n l h)else none).map (fun d=>(d,H))=if l≤h then(if h≤n then scO H sz ep n (.sub id ep n l h) H[id]? else none)else none:=by
 simp only[iI]
 generalize H[id]?=o
 by_cases h1:l≤h
 · by_cases h2:h≤n
   · rw[if_pos h1,if_pos h2]
     rcases o with _ | (_ | ⟨sz',pin,ep',es⟩)
     · rfl
     · rfl
     · simp only[scO]
       by_cases h3:ep=ep'∧n=es.length
       · rw[if_pos h3,if_pos h3,aLq]
         by_cases h4:sz'=sz
         · rw[if_pos h4,if_pos ⟨h1,h2,h4⟩];rfl
         · rw[if_neg h4,if_neg fun h=>h4 h.2.2];rfl
       · rw[if_neg h3,if_neg h3];rfl
   · rw[if_pos h1,if_neg h2]
     rcases o with _ | (_ | ⟨sz',pin,ep',es⟩)
     · rfl
     · rfl
     · by_cases h3:ep=ep'∧n=es.length
       · simp only[if_pos h3,aLq];rw[if_neg fun h=>h2 h.2.1];rfl
       · simp only[if_neg h3];rfl
 · rw[if_neg h1]
   rcases o with _ | (_ | ⟨sz',pin,ep',es⟩)
   · rfl
   · rfl
   · by_cases h3:ep=ep'∧n=es.length
     · simp only[if_pos h3,aLq];rw[if_neg fun h=>h1 h.1];rfl
     · simp only[if_neg h3];rfl
@[go_sem] theorem Wt : GO H sz (some (.ref id ep n)) (some none) (some (some i)) = if 0 ≤ i then (if i ≤ n then scO H sz ep n (.sub id ep n 0 i.toNat) H[id]? else none) else none := by
 simp only[GO,aLq,pX,bound,idx]
 by_cases h1:0≤i
 · rw[if_pos h1,if_pos h1,aLq,scR,if_pos (Nat.zero_le _)]
   by_cases h2:i≤n
   · rw[if_pos h2,if_pos (by omega)]
   · rw[if_neg h2,if_neg (by omega)]
 · rw[if_neg h1,if_neg h1];rfl
@[go_sem] theorem Wu : GO H sz (some (.ref id ep n)) (some (some i)) (some none) = if 0 ≤ i then (if i ≤ n then scO H sz ep n (.sub id ep n i.toNat n) H[id]? else none) else none := by
 simp only[GO,aLq,pX,bound,idx]
 by_cases h1:0≤i
 · rw[if_pos h1,if_pos h1,aLq,scR]
   by_cases h2:i≤n
   · rw[if_pos h2,if_pos (by omega),if_pos (by omega)]
   · rw[if_neg h2,if_neg (by omega)]
 · rw[if_neg h1,if_neg h1];rfl
@[go_sem] theorem RB : GO H sz (some (.ref id ep n)) (some (some i)) (some (some j)) = if 0 ≤ i then (if i ≤ j then (if j ≤ n then scO H sz ep n (.sub id ep n i.toNat j.toNat) H[id]? else none) else none) else none := by
 simp only[GO,aLq,pX,bound,idx]
 by_cases h1:0≤i
 · rw[if_pos h1,if_pos h1,aLq]
   by_cases h0:i≤j
   · rw[if_pos h0,if_pos (by omega),aLq,scR,if_pos (by omega)]
     by_cases h2:j≤n
     · rw[if_pos h2,if_pos (by omega)]
     · rw[if_neg h2,if_neg (by omega)]
   · rw[if_neg h0]
     by_cases h2:0≤j
     · rw[if_pos h2,aLq,scR,if_neg (by omega)]
     · rw[if_neg h2];rfl
 · rw[if_neg h1,if_neg h1];rfl
@[go_sem] theorem Wv : GO H sz (some .nil) (some none) (some (some i)) = if i = 0 then some (.nil, H) else none := by
 simp only[GO,aLq,pX,bound,idx]
 by_cases h1:0≤i
 · rw[if_pos h1,aLq]
   by_cases h2:i=0
   · rw[if_pos h2,if_pos (by omega)];rfl
   · rw[if_neg h2,if_neg (by omega)];rfl
 · rw[if_neg h1,if_neg (by omega)];rfl
@[go_sem] theorem Ww : GO H sz (some .nil) (some (some i)) (some none) = if i = 0 then some (.nil, H) else none := by
 simp only[GO,aLq,pX,bound,idx]
 by_cases h1:0≤i
 · rw[if_pos h1,aLq]
   by_cases h2:i=0
   · rw[if_pos h2,if_pos (by omega)];rfl
   · rw[if_neg h2,if_neg (by omega)];rfl
 · rw[if_neg h1,if_neg (by omega)];rfl
def IC(x:D)(ys:List D):Option (D×aq):=if cF sz ys=true then(match x with
 | .nil=>if ys.length≤4294967296 then some (.ref H.length 0 ys.length,H++[.arr sz false 0 ys])else none
 | .ref id ep n=>Ao H sz id ep n ys H[id]?
 | .cl es=>if 0<ys.length∧es.length+ys.length≤lim∧cF sz (es.map .t)=true then some (.ref H.length 0 (es.map D.t++ys).length,H++[.arr sz false 0 (es.map .t++ys)])else none
 | _=>none)else none
@[go_sem] theorem agk (ys : List D) : IC H sz .nil ys = if cF sz ys = true then (if ys.length ≤ 4294967296 then some (.ref H.length 0 ys.length, H ++ [.arr sz false 0 ys]) else none) else none := (rfl)
@[go_sem] theorem agl (ys : List D) : IC H sz (.ref id ep n) ys = if cF sz ys = true then Ao H sz id ep n ys H[id]? else none := (rfl)
@[go_sem] theorem aji (es : List T) (ys : List D) : IC H sz (.cl es) ys = if cF sz ys = true then (if 0 < ys.length ∧ es.length + ys.length ≤ 4294967296 ∧ cF sz (es.map .t) = true then some (.ref H.length 0 (es.map D.t ++ ys).length, H ++ [.arr sz false 0 (es.map .t ++ ys)]) else none) else none := (rfl)
@[go_sem] theorem Tt : cF sz [] = true := (rfl)
@[go_sem] theorem RC (d : D) (r : List D) : cF sz (d :: r) = qq sz d.cells := by
 rw[Bool.eq_iff_iff,iK];simp[cF]
def ac4(x:D):Option Obj→Option (D×aq)
 | some (.arr _ _ ep' es)=>if ep=ep'∧n=es.length then IC H sz x ((es.drop lo).take (hi-lo))else none
 | _=>none
def ac5(x:D):Option Obj→Option (D×aq)
 | some (.arr _ _ ep' es)=>if ep=ep'∧n=es.length then IC H sz x es else none
 | _=>none
@[go_sem] theorem agm (x : D) (sz' : Nat) (pin : Bool) (es : List D) : ac4 H sz ep n lo hi x (some (.arr sz' pin ep es)) = if n = es.length then IC H sz x ((es.drop lo).take (hi - lo)) else none := by simp [ac4]
@[go_sem] theorem agn (x : D) (sz' : Nat) (pin : Bool) (es : List D) : ac5 H sz ep n x (some (.arr sz' pin ep es)) = if n = es.length then IC H sz x es else none := by simp [ac5]
theorem Jv(x:D)(ys:List D):(if cF sz ys=true then(match x with
 | .nil=>if ys.length≤lim then some (D.ref H.length 0 ys.length,H++[.arr sz false 0 ys])else none
 | .ref id ep n=>(iI H id ep n).bind fun a=>if a.1=sz∧n+ys.length≤lim then some (.ref id ep (n+ys.length),H.set id (.arr sz a.2.1 ep (a.2.2++ys)))else none
 | .cl es=>if 0<ys.length∧es.length+ys.length≤lim∧cF sz (es.map .t)=true then some (.ref H.length 0 (es.map D.t++ys).length,H++[.arr sz false 0 (es.map .t++ys)])else none
 | _=>none)else none)=IC H sz x ys:=by
 unfold IC
 split
 · cases x with
   | ref id ep n=>
     simp only[iI]
     generalize H[id]?=o
     rcases o with _ | (_ | ⟨sz',pin,ep',es⟩)
     · rfl
     · rfl
     · simp only[Ao]
       by_cases h1:ep=ep'∧n=es.length
       · rw[if_pos h1,aLq]
         by_cases h2:sz'=sz∧n+ys.length≤lim
         · rw[if_pos h2,if_pos ⟨h1.1,h1.2,h2⟩]
         · rw[if_neg h2,if_neg fun h=>h2 h.2.2]
       · rw[if_neg h1,if_neg fun h=>h1 ⟨h.1,h.2.1⟩];rfl
   | _=>rfl
 · rfl
theorem zq(x y:D)(ys:List D)(h:elems H y=some ys):pQ H sz false (some x) (some y)=IC H sz x ys:=by
 simp only[pQ,aLq,nU,h,aLt,if_false]
 exact Jv H sz x ys
@[go_sem] theorem Qe (x : D) : pQ H sz false (some x) (some .nil) = IC H sz x [] := zq H sz x .nil [] rfl
@[go_sem] theorem Qf (x : D) : pQ H sz false (some x) (some (.ref id ep n)) = ac5 H sz ep n x H[id]? := by
 cases he:elems H (.ref id ep n)with
 | some ys=>
   rw[zq H sz x _ ys he]
   simp only[elems,iI]at he
   generalize H[id]?=o at he
   rcases o with _ | (_ | ⟨sz',pin,ep',es⟩)
   · cases he
   · cases he
   · simp only[ac5]
     by_cases h1:ep=ep'∧n=es.length
     · simp only[if_pos h1]at he ⊢;cases he;rfl
     · simp only[if_neg h1]at he;cases he
 | none=>
   have:pQ H sz false (some x) (some (.ref id ep n))=none:=by simp only[pQ,aLq,nU,he];rfl
   rw[this]
   simp only[elems,iI]at he
   generalize H[id]?=o at he
   rcases o with _ | (_ | ⟨sz',pin,ep',es⟩)
   · rfl
   · rfl
   · simp only[ac5]
     by_cases h1:ep=ep'∧n=es.length
     · simp only[if_pos h1]at he;cases he
     · simp only[if_neg h1]
@[go_sem] theorem Qg (x : D) : pQ H sz false (some x) (some (.sub id ep n lo hi)) = ac4 H sz ep n lo hi x H[id]? := by
 cases he:elems H (.sub id ep n lo hi)with
 | some ys=>
   rw[zq H sz x _ ys he]
   simp only[elems,iI]at he
   generalize H[id]?=o at he
   rcases o with _ | (_ | ⟨sz',pin,ep',es⟩)
   · cases he
   · cases he
   · simp only[ac4]
     by_cases h1:ep=ep'∧n=es.length
     · simp only[if_pos h1]at he ⊢;cases he;rfl
     · simp only[if_neg h1]at he;cases he
 | none=>
   have:pQ H sz false (some x) (some (.sub id ep n lo hi))=none:=by simp only[pQ,aLq,nU,he];rfl
   rw[this]
   simp only[elems,iI]at he
   generalize H[id]?=o at he
   rcases o with _ | (_ | ⟨sz',pin,ep',es⟩)
   · rfl
   · rfl
   · simp only[ac4]
     by_cases h1:ep=ep'∧n=es.length
     · simp only[if_pos h1]at he;cases he
     · simp only[if_neg h1]
def ZT(ep n lo hi:Nat):Option Obj→Option (List D)
 | some (.arr _ _ ep' es)=>if ep=ep'∧n=es.length then some ((es.drop lo).take (hi-lo))else none
 | _=>none
def ago(x:D):Option (List D)→Option (D×aq)
 | some ys0=>(cK (fun d=>(frz H depth d).map .t) ys0).bind fun ys=>if cF sz ys then IC (pins H (ys0.flatMap (gz H depth))) sz x ys else none
 | none=>none
@[go_sem] theorem akO (x : D) (ts : List T) : ago H sz x (some (ts.map .t)) = IC H sz x (ts.map .t) := by
 simp only[ago,xY,aLq,KN,pins]
 by_cases h:cF sz (ts.map D.t)=true
 · rw[if_pos h]
 · rw[if_neg h];unfold IC;rw[if_neg h]
@[go_sem] theorem RD (x : D) : pQ H sz true (some x) (some (.sub id ep n lo hi)) = ago H sz x (ZT ep n lo hi H[id]?) := by
 have e:elems H (.sub id ep n lo hi)=ZT ep n lo hi H[id]?:=by
  simp only[elems,iI]
  generalize H[id]?=o
  rcases o with _ | (_ | ⟨sz',pin,ep',es⟩)
  · rfl
  · rfl
  · simp only[ZT]
    by_cases h1:ep=ep'∧n=es.length
    · simp only[if_pos h1];rfl
    · simp only[if_neg h1];rfl
 simp only[pQ,aLq,nU,e]
 cases ZT ep n lo hi H[id]? with
 | none=>rfl
 | some ys0=>
   simp only[aLq,ago,if_true]
   cases hm:cK (fun d=>(frz H depth d).map D.t) ys0 with
   | none=>rfl
   | some ys=>
     simp only[aLq]
     refine(Jv _ _ _ _).trans ?_
     by_cases h:cF sz ys=true
     · rw[if_pos h]
     · rw[if_neg h];unfold IC;rw[if_neg h]
@[go_sem] theorem agp (ep n lo hi sz : Nat) (pin : Bool) (ts : List T) : ZT ep n lo hi (some (.arr sz pin ep (ts.map .t))) = if n = ts.length then some (((ts.drop lo).take (hi - lo)).map .t) else none := by
 simp only[ZT,true_and,List.length_map,List.map_take,List.map_drop]
def G2(ds:List D):Option (D×aq):=if ds.all (fun d=>d.cells.length==sz&&d.km)then some (.ref H.length 0 ds.length,H++[.arr sz false 0 ds])else none
@[go_sem] theorem akP (call : aX) (get : X → Option D) (xs : List X) : evO call get H (.bsr xs sz) = (cK get xs).bind (G2 H sz) := (rfl)
@[go_sem] theorem ac6 : G2 H sz [] = some (.ref H.length 0 0, H ++ [.arr sz false 0 []]) := (rfl)
@[go_sem] theorem ac7 (k : IntKind) (n : Int) : G2 H 1 [.t (.int k n)] = some (.ref H.length 0 1, H ++ [.arr 1 false 0 [.t (.int k n)]]) := (rfl)
@[go_sem] theorem ac8 (cs : List D) : G2 H sz [.agg cs] = if qq sz cs = true then some (.ref H.length 0 1, H ++ [.arr sz false 0 [.agg cs]]) else none := by
 simp only[G2,List.all_cons,List.all_nil,Bool.and_true,D.cells,D.km]
 by_cases h:qq sz cs=true
 · rw[if_pos h,if_pos (by simpa using iK.1 h)];rfl
 · rw[if_neg h,if_neg (by intro e;exact h (iK.2 (by simpa using e)))]
end
@[go_sem] theorem Tu : (1 : Int).toNat = 1 := (rfl)
@[go_sem] theorem Wx : (2 : Int).toNat = 2 := (rfl)
@[go_sem] theorem RE : (3 : Int).toNat = 3 := (rfl)
section
variable {H t : aq} {i j k : Nat} {o o' : Obj}
theorem wm(h:i<H.length):(H++t)[i]?=H[i]?:=aLg h
theorem Eb(h:i<H.length):(H.set i o)[i]?=some o:=by simp[h]
theorem rB(h:i≠j):(H.set i o)[j]?=H[j]?:=aLi h
theorem Cc(h:H[i]?=some o):i<H.length:=(aLe.1 h).1
end
end Go.Ev
namespace Go.Ev.N
def OK:Nat:=78
def Nb:Nat:=79
def L5:Nat:=80
def Wy:Nat:=81
def Qh:Nat:=82
def Wz:Nat:=83
def WA:Nat:=84
def WB:Nat:=85
def ZU:Nat:=86
def Tv:Nat:=87
def WC:Nat:=88
def Tw:Nat:=89
def bS:Nat:=90
def ZV:Nat:=91
def gD:Nat:=92
def ZW:Nat:=93
def ac9:Nat:=94
def ada:Nat:=95
def WD:Nat:=96
def ZX:Nat:=97
def WE:Nat:=98
def cY:Nat:=99
def WG:Nat:=100
def ZY:Nat:=101
def adb:Nat:=102
def ID:Nat:=103
def RF:Nat:=104
def bM:Nat:=105
def Tx:Nat:=106
def ZZ:Nat:=107
def Z0:Nat:=108
def gj:Nat:=109
def lS:Nat:=110
def Z1:Nat:=111
def dT:Nat:=112
def WH:Nat:=113
def iE:Nat:=114
def jB:Nat:=115
def jl:Nat:=116
def lT:Nat:=117
def Ty:Nat:=118
def jC:Nat:=119
def RG:Nat:=120
def RH:Nat:=121
def K3:Nat:=122
end Go.Ev.N
namespace Go.Ev.N
def OL:Nat:=123
def Nc:Nat:=124
def Qi:Nat:=125
def OM:Nat:=126
def WI:Nat:=127
def WJ:Nat:=128
def WK:Nat:=129
def Z2:Nat:=130
def Z3:Nat:=131
def WL:Nat:=132
def WM:Nat:=133
def RJ:Nat:=134
def RK:Nat:=135
def Z4:Nat:=136
def WN:Nat:=137
def RL:Nat:=138
def Tz:Nat:=139
def Qj:Nat:=140
def TA:Nat:=141
def RM:Nat:=142
def ON:Nat:=143
def OO:Nat:=144
def OP:Nat:=145
def TC:Nat:=146
def TD:Nat:=147
def L6:Nat:=148
end Go.Ev.N
namespace Go.Ev.N
def K4:Nat:=149
def OQ:Nat:=150
def OR:Nat:=151
def Nd:Nat:=152
def WO:Nat:=153
def fk:Nat:=154
def bT:Nat:=155
def TE:Nat:=156
def WQ:Nat:=157
def Z5:Nat:=158
def gV:Nat:=159
def bj:Nat:=160
def cA:Nat:=161
def WR:Nat:=162
def jm:Nat:=163
def TF:Nat:=164
def Z6:Nat:=165
def TG:Nat:=166
def cy:Nat:=167
def aF:Nat:=168
def cR:Nat:=169
def eF:Nat:=170
def bD:Nat:=171
def RN:Nat:=172
def iF:Nat:=173
def aO:Nat:=174
def OS:Nat:=175
def dA:Nat:=176
def gW:Nat:=177
end Go.Ev.N
namespace Go.Ev.K
open Go.Ev
def pd:C:= (.its [u (.bin .lss v11 v10)] [] 0 .skip (.exit 1) (.seq (.blk 2 (q [a 1 v9 v11,g l0,x 8 l0] [] (.reg [m v7,m v8,m v3,a 1 l2 l1,u (.st l0 l1 1 [])] []))) (.reg [u (.bin .add v11 (.i 1)),x 11 l0] [])))
def wq:C:= .loop true [0,2,6,8] K.pd
def fk:Fn:= { aD:=4,vars:=[0,1,2,3,4,8,9,10,12,38,39,40],body:=(q [w 4 (.bx v0 2),w 5 (.al [z0,.nil] []),x 6 (.i 0)] [] (.seq (.blk 0 (.ite [h 2 v4,m v1,u (.ca N.gV 0 [] [.l 1,.l 0]),u (.un .not l0),m l0] [] 0 (q [u (.bd [z0,.nil] []),u (.st v5 l0 2 []),x 6 (.i 6)] [] .ret) (.ite [m v2,f 0 v4,g l0,u (.ln l0),u (.bin .sub l0 (.i 1)),u (.ca N.bM 0 [] [.l 4,.i 0,.l 0]),u (.un .not l0),m l0] [] 0 (q [u (.bd [z0,.nil] []),u (.st v5 l0 2 []),x 6 (.i 3)] [] .ret) (.ite [m v3,u (.ca N.bc 0 [] [.l 0,.i 0,.i 2147483648]),u (.un .not l0),m l0] [] 0 (q [u (.bd [z0,.nil] []),u (.st v5 l0 2 []),x 6 (.i 8)] [] .ret) .skip)))) (q [u (.bs [.i 1099511627776] 1),f 0 v4,g l0,u (.ln l0),u (.ca N.bj 1 [] [.l 3,.l 0]),x 7 l0] [] (.seq (q [x 9 v2,w 10 (.ln l0),x 11 (.i 0)] [] (.blk 1 K.wq)) (q [h 2 v4,m v1,m v7,u (.bd [.nil,.nil,.nil,.nil] [(0,2,.l 2),(2,1,.l 1),(3,1,.l 0)]),u (.ca N.cA 0 [0] [.l 0])] [] (q [m v3,m v7,u (.bd [z0,.nil] [(0,1,.l 1),(1,1,.l 0)]),u (.st v5 l0 2 []),x 6 (.i 0)] [] .ret)))))),res:=[(5,some (2,true)),(6,none)]}
def bT:Fn:= { aD:=4,vars:=[0,1,2,3,4,6,8,9,10,11,12],body:=(q [w 4 (.bx v0 2),w 5 (.bx v2 2),x 6 (.i 0)] [] (.seq (.ite [m v1,u (.bin .lss l0 (.i 0)),m l0,e 0 false v1,y 1 false (.fa v4 1),i 2 false l0,y 3 false (.ln l0),y 4 false (.bin .geq l3 l0),u (.pk l5 (.b true) l0),m l0,y 0 false (.fa v4 1),i 1 false l0,e 2 false v1,y 3 false (.ia l1 l0 10),y 4 false (.fa l0 5),i 5 false l0,u (.pk l6 (.b true) l0)] [] 0 (q [w 6 (.mv (.i (-1)))] [] .ret) .skip) (q [f 1 v4,g l0,m v1,a 10 l1 l0,h 10 l0,w 7 (.al [z0,z0,z0,z0,z1,z1,z0,z0,z0,z0] []),u (.st l0 l1 10 [])] [] (q [h 2 v5,w 8 (.al [z0,z0] []),u (.st l0 l1 2 [])] [] (.seq (.ite [m v3] [] 0 (.reg [f 1 v5,g l0,u (.un .neg l0),f 0 v5,g l0,u (.un .neg l0),u (.bd [z0,z0] [(0,1,.l 3),(1,1,.l 0)]),u (.st v8 l0 2 [])] []) .skip) (q [w 9 (.mv (.i (-1)))] [] (.seq (.ite [f 1 v8,g l0,f 3 v7,g l0,u (.bin .mul (.i (-500)) l0),u (.bin .gtr l3 l0)] [] 0 (.reg [f 2 v7,g l0,x 9 l0] []) .skip) (.seq (.ite [f 1 v8,g l0,u (.bin .gtr l0 (.i 0))] [] 0 (q [f 2 v7,g l0,f 3 v7,g l0,u (.bin .mul l2 l0),u (.bin .mul l0 (.i 1000)),f 1 v8,g l0,u (.bin .quo l2 l0),x 10 l0] [] (.ite [m v9,u (.bin .lss l0 (.i 0)),m l0,e 0 false v10,e 1 false v9,y 2 false (.bin .lss l1 l0),u (.pk l3 (.b true) l0)] [] 0 (.reg [m v10,x 9 l0] []) .skip)) .skip) (q [m v9,x 6 l0] [] .ret))))))))),res:=[(6,none)]}
def gV:Fn:= { aD:=2,vars:=[0,1,2,4],body:=(q [w 2 (.bx v0 2),x 3 (.b false)] [] (q [h 2 v2,u (.ca N.cy 0 [] [.l 0]),m l0,e 0 true v1,y 1 true (.ln l0),y 2 true (.fa v2 1),i 3 true l0,y 4 true (.ln l0),y 5 true (.bin .eql l3 l0),u (.pk l6 l0 (.b false)),m l0,e 0 true v1,y 1 true (.ca N.aF 0 [] [.l 0,.c (.fn N.cR [])]),y 2 true (.un .not l0),u (.pk l3 l0 (.b false)),x 3 l0] [] .ret)),res:=[(3,none)]}
def dB:C:= (.seq (.ite [m v6,m v5,u (.ln l0),u (.bin .lss l2 l0)] [] 0 .skip (.exit 0)) (.blk 1 (.reg [m v6,m v5,m v6,u (.sc l1 (some l0) none 1),m v5,m v6,u (.sc l1 none (some l0) 1),u (.cp l3 l0 1),u (.bin .add l7 l0),x 6 l0] [])))
def lU:C:= .loop true [0,1,2,3,4] K.dB
def bj:Fn:= { aD:=2,vars:=[0,1,4,5,6,7,8],body:=(q [w 2 (.mv (.c (.nil)))] [] (.seq (.ite [m v1,u (.bin .lss l0 (.i 0))] [] 0 .fail .skip) (q [m v0,u (.ln l0),u (.cv .u64 l0),m v1,u (.cv .u64 l0),u (.ca N.eF 0 [] [.l 2,.l 0]),m l0,u (.ex l0 0),u (.ex l1 1),x 3 l1,x 4 l1] [] (.seq (.ite [m v3,u (.bin .gtr l0 (.c (.t (.int .u64 (0))))),m l0,e 0 false v4,y 1 false (.bin .gtr l0 (.c (.t (.int .u64 (9223372036854775807))))),u (.pk l2 (.b true) l0)] [] 0 .fail .skip) (q [m v4,u (.cv .i64 l0),u (.mk l0 (z0) 1),x 5 l0] [] (q [m v5,m v0,u (.cp l1 l0 1),x 6 l0] [] (.seq (.blk 0 K.lU) (q [m v5,x 2 l0] [] .ret)))))))),res:=[(2,none)]}
def ib:C:= (.its [u (.bin .lss v9 v8)] [] 0 .skip (.exit 2) (.seq (.blk 3 (q [m v9,a 10 v7 v9,h 10 l0,w 4 (.al [z0,z0,z0,z0,z1,z1,z0,z0,z0,z0] []),x 3 l3,u (.st l1 l2 10 [])] [] (q [h 4 v1,m v3,f 0 v4,g l0,f 1 v4,g l0,u (.ca N.bD 0 [0] [.l 5,.l 4,.l 2,.l 0,.b false]),x 5 l0] [] (q [h 4 v1,m v3,f 1 v4,g l0,f 0 v4,g l0,u (.ca N.bD 0 [0] [.l 5,.l 4,.l 2,.l 0,.b true]),x 6 l0] [] (.reg [m v2,m l0,e 0 false v5,u (.pk l1 (.b true) l0),m l0,e 0 false v6,u (.pk l1 (.b true) l0),x 2 l0] []))))) (.reg [u (.bin .add v9 (.i 1)),x 9 l0] [])))
def nI:C:= .loop true [0,3,4,5,6] K.ib
def ic:C:= (.seq (.ite [m v2] [] 0 .skip (.exit 0)) (.blk 1 (q [x 2 (.b false)] [] (q [f 0 v1,f 1 l0,w 7 (.ld l0 1 false),w 8 (.ln l0),x 9 (.i 0)] [] (.blk 2 K.nI)))))
def nJ:C:= .loop true [0,3,4,5,6,7,8,9] K.ic
def cA:Fn:= { aD:=1,vars:=[0,1,2,3,4,5,6,10,11,12],body:=(q [w 1 (.bx v0 4)] [] (q [x 2 (.b true)] [] (.blk 0 K.nJ))),res:=[]}
def jm:Fn:= { aD:=2,vars:=[0,1,2,3,4],body:=(q [w 2 (.bx v0 2),w 3 (.bx v1 2),x 4 (.b false)] [] (q [f 0 v2,g l0,f 0 v3,g l0,u (.bin .eql l2 l0),m l0,y 0 true (.fa v2 1),i 1 true l0,y 2 true (.fa v3 1),i 3 true l0,y 4 true (.ca N.aS 0 [] [.l 2,.l 0]),u (.pk l5 l0 (.b false)),x 4 l0] [] .ret)),res:=[(4,none)]}
def cy:Fn:= { aD:=1,vars:=[0,1,2],body:=(q [w 1 (.bx v0 2),x 2 (.b false)] [] (q [h 2 v1,u (.ca N.iF 0 [] [.l 0]),u (.bin .eql l0 (.i 0)),x 2 l0] [] .ret)),res:=[(2,none)]}
def aF:Fn:= { aD:=2,vars:=[0,1,4],body:=(q [x 2 (.b false)] [] (q [m v0,m v1,u (.ca N.aO 0 [] [.l 1,.l 0]),u (.bin .geq l0 (.i 0)),x 2 l0] [] .ret)),res:=[(2,none)]}
def cR:Fn:= { aD:=1,vars:=[0,1,2],body:=(q [w 1 (.bx v0 2),x 2 (.b false)] [] (q [f 0 v1,g l0,u (.bin .lss l0 (.i (-1125899906842624))),m l0,y 0 false (.fa v1 1),i 1 false l0,y 2 false (.bin .gtr l0 (.i 1125899906842624)),u (.pk l3 (.b true) l0),m l0,y 0 false (.fa v1 0),i 1 false l0,y 2 false (.fa v1 1),i 3 false l0,y 4 false (.bin .gtr l2 l0),u (.pk l5 (.b true) l0),x 2 l0] [] .ret)),res:=[(2,none)]}
def eF:Fn:= { aD:=2,vars:=[0,1,4,5,8,9],body:=(q [w 2 (.mv (.c (.t (.int .u64 (0))))),w 3 (.mv (.c (.t (.int .u64 (0)))))] [] (.seq (.cnd false .skip) (q [m v0,m v1,u (.ca N.dA 0 [] [.l 1,.l 0]),m l0,u (.ex l0 0),u (.ex l1 1),x 4 l1,x 5 l1] [] (q [m v4,m v5,x 2 l1,x 3 l1] [] .ret)))),res:=[(2,none),(3,none)]}
def bD:Fn:= { aD:=5,vars:=[0,1,2,3,4,5,10,11],body:=(q [w 5 (.bx v0 4),x 6 (.b false)] [] (q [f 0 v5,h 2 l0,m v1,f 2 v5,g l0,m v1,a 2 l1 l0,h 2 l0,m v4,u (.ca N.bT 0 [] [.l 7,.l 6,.l 1,.l 0]),x 7 l0] [] (.seq (.ite [m v7,u (.bin .lss l0 (.i 0)),m l0,y 0 false (.fa v5 3),i 1 false l0,e 2 false v2,y 3 false (.ia l1 l0 1),i 4 false l0,y 5 false (.bin .gtr l0 (.i 2147483648)),u (.pk l6 (.b true) l0),m l0,y 0 false (.fa v5 3),i 1 false l0,e 2 false v2,y 3 false (.ia l1 l0 1),i 4 false l0,e 5 false v7,y 6 false (.bin .add l1 l0),y 7 false (.bin .gtr l0 (.i 2147483648)),u (.pk l8 (.b true) l0),m l0,y 0 false (.fa v5 3),i 1 false l0,e 2 false v2,y 3 false (.ia l1 l0 1),i 4 false l0,e 5 false v7,y 6 false (.bin .add l1 l0),y 7 false (.fa v5 3),i 8 false l0,e 9 false v3,y 10 false (.ia l1 l0 1),i 11 false l0,y 12 false (.bin .geq l5 l0),u (.pk (.l 13) (.b true) l0)] [] 0 (q [x 6 (.b false)] [] .ret) .skip) (q [f 3 v5,g l0,m v3,f 3 v5,g l0,m v2,a 1 l1 l0,g l0,m v7,u (.bin .add l1 l0),a 1 l8 l7,u (.st l0 l1 1 [])] [] (q [x 6 (.b true)] [] .ret))))),res:=[(6,none)]}
end Go.Ev.K
namespace Go.Ev
class dg [Lib]:Prop where
 sC:Lib.fs N.fk=some K.fk
 qB:Lib.fs N.bT=some K.bT
 sD:Lib.fs N.gV=some K.gV
 jH:Lib.fs N.bj=some K.bj
 kP:Lib.fs N.cA=some K.cA
 ux:Lib.fs N.jm=some K.jm
 qa:Lib.fs N.cy=some K.cy
 cZ:Lib.fs N.aF=some K.aF
 pf:Lib.fs N.cR=some K.cR
 pg:Lib.fs N.eF=some K.eF
 lD:Lib.fs N.bD=some K.bD
namespace K
variable [Lib] [dg]
theorem sC:Lib.fs N.fk=some K.fk:=dg.sC
theorem qB:Lib.fs N.bT=some K.bT:=dg.qB
theorem sD:Lib.fs N.gV=some K.gV:=dg.sD
theorem jH:Lib.fs N.bj=some K.bj:=dg.jH
theorem kP:Lib.fs N.cA=some K.cA:=dg.kP
theorem ux:Lib.fs N.jm=some K.jm:=dg.ux
theorem qa:Lib.fs N.cy=some K.cy:=dg.qa
theorem cZ:Lib.fs N.aF=some K.aF:=dg.cZ
theorem pf:Lib.fs N.cR=some K.cR:=dg.pf
theorem pg:Lib.fs N.eF=some K.eF:=dg.pg
theorem lD:Lib.fs N.bD=some K.bD:=dg.lD
end K
end Go.Ev
namespace Go.Ev.K
open Go.Ev
def kX:C:= (.its [u (.bin .lss v8 v7)] [] 0 .skip (.exit 0) (.seq (.blk 1 (q [a 2 v6 v8,h 2 l0,w 3 (.al [z0,z1] []),u (.st l0 l1 2 [])] [] (.ite [f 0 v3,g l0,u (.bin .lss l0 (.i (-10000))),m l0,y 0 false (.fa v3 0),i 1 false l0,y 2 false (.bin .gtr l0 (.i 10000)),u (.pk l3 (.b true) l0)] [] 0 (q [x 2 (.i 1)] [] .ret) .skip))) (.reg [u (.bin .add v8 (.i 1)),x 8 l0] [])))
def sE:C:= .loop true [0,2,3,4,5,9,10,11] K.kX
def jY:C:= (.its [u (.bin .lss v11 v10)] [] 0 .skip (.exit 2) (.seq (.blk 3 (q [a 10 v9 v11,h 10 l0,w 5 (.al [z0,z0,z0,z0,z1,z1,z0,z0,z0,z0] []),u (.st l0 l1 10 [])] [] (.seq (.ite [f 0 v5,g l0,u (.bin .lss l0 (.i 0)),m l0,y 0 false (.fa v5 0),i 1 false l0,e 2 false v4,y 3 false (.bin .geq l1 l0),u (.pk l4 (.b true) l0),m l0,y 0 false (.fa v5 1),i 1 false l0,y 2 false (.bin .lss l0 (.i 0)),u (.pk l3 (.b true) l0),m l0,y 0 false (.fa v5 1),i 1 false l0,e 2 false v4,y 3 false (.bin .geq l1 l0),u (.pk l4 (.b true) l0),m l0,y 0 false (.fa v5 0),i 1 false l0,y 2 false (.fa v5 1),i 3 false l0,y 4 false (.bin .eql l2 l0),u (.pk l5 (.b true) l0)] [] 0 (q [x 2 (.i 4)] [] .ret) .skip) (.seq (.ite [f 2 v5,g l0,u (.bin .lss l0 (.i 1)),m l0,y 0 false (.fa v5 2),i 1 false l0,y 2 false (.bin .gtr l0 (.i 100000)),u (.pk l3 (.b true) l0),m l0,y 0 false (.fa v5 3),i 1 false l0,y 2 false (.bin .lss l0 (.i 1)),u (.pk l3 (.b true) l0),m l0,y 0 false (.fa v5 3),i 1 false l0,y 2 false (.bin .gtr l0 (.i 1000)),u (.pk l3 (.b true) l0)] [] 0 (q [x 2 (.i 1)] [] .ret) .skip) (.ite [f 6 v5,h 2 l0,u (.ca N.gW 0 [] [.l 0,.i 1,.i 262144]),u (.un .not l0),m l0,y 0 false (.fa v5 8),y 1 false (.ld l0 2 true),y 2 false (.ca N.gW 0 [] [.l 0,.i (-2199023255552),.i 2199023255552]),y 3 false (.un .not l0),u (.pk l4 (.b true) l0)] [] 0 (q [x 2 (.i 1)] [] .ret) .skip))))) (.reg [u (.bin .add v11 (.i 1)),x 11 l0] [])))
def sF:C:= .loop true [0,1,2,3,5,6,7,8] K.jY
def iF:Fn:= { aD:=1,vars:=[0,1,2,4,5,7,19,20,21,38,39,40],body:=(q [w 1 (.bx v0 2),x 2 (.i 0)] [] (.seq (.ite [f 0 v1,g l0,u (.ln l0),u (.bin .gtr l0 (.i 64)),m l0,y 0 false (.fa v1 1),i 1 false l0,y 2 false (.ln l0),y 3 false (.bin .gtr l0 (.i 128)),u (.pk l4 (.b true) l0)] [] 0 (q [x 2 (.i 2)] [] .ret) .skip) (.seq (q [f 0 v1,w 6 (.ld l0 1 false),w 7 (.ln l0),x 8 (.i 0)] [] (.blk 0 K.sE)) (q [f 0 v1,g l0,u (.ln l0),x 4 l0] [] (.seq (q [f 1 v1,w 9 (.ld l0 1 false),w 10 (.ln l0),x 11 (.i 0)] [] (.blk 2 K.sF)) (q [x 2 (.i 0)] [] .ret)))))),res:=[(2,none)]}
def b8:C:= (.its [u (.bin .lss v5 v4)] [] 0 .skip (.exit 0) (.seq (.blk 1 (q [m v5,x 3 l0] [] (.ite [m v1,m v0,m v3,a 2 l1 l0,h 2 l0,u (.cw l4 0 [] [.l 0])] [] 0 (q [m v3,x 2 l0] [] .ret) .skip))) (.reg [u (.bin .add v5 (.i 1)),x 5 l0] [])))
def gu:C:= .loop true [2,3] K.b8
def aO:Fn:= { aD:=2,vars:=[0,1,4,5,7,8],body:=(q [x 2 (.i 0)] [] (.seq (q [m v0,w 4 (.ln l0),x 5 (.i 0)] [] (.blk 0 K.gu)) (q [w 2 (.mv (.i (-1)))] [] .ret))),res:=[(2,none)]}
def dA:Fn:= { aD:=2,vars:=[0,1,4,5,6,7,8,9,10,11,12,13],body:=(q [w 2 (.mv (.c (.t (.int .u64 (0))))),w 3 (.mv (.c (.t (.int .u64 (0)))))] [] (q [m v0,u (.bin .and l0 (.c (.t (.int .u64 (4294967295))))),x 4 l0] [] (q [m v0,u (.bin .shr l0 (.c (.t (.int .u64 (32))))),x 5 l0] [] (q [m v1,u (.bin .and l0 (.c (.t (.int .u64 (4294967295))))),x 6 l0] [] (q [m v1,u (.bin .shr l0 (.c (.t (.int .u64 (32))))),x 7 l0] [] (q [m v4,m v6,u (.bin .mul l1 l0),x 8 l0] [] (q [m v5,m v6,u (.bin .mul l1 l0),m v8,u (.bin .shr l0 (.c (.t (.int .u64 (32))))),u (.bin .add l2 l0),x 9 l0] [] (q [m v9,u (.bin .and l0 (.c (.t (.int .u64 (4294967295))))),x 10 l0] [] (q [m v9,u (.bin .shr l0 (.c (.t (.int .u64 (32))))),x 11 l0] [] (q [m v10,m v4,m v7,u (.bin .mul l1 l0),u (.bin .add l3 l0),x 10 l0] [] (q [m v5,m v7,u (.bin .mul l1 l0),m v11,u (.bin .add l1 l0),m v10,u (.bin .shr l0 (.c (.t (.int .u64 (32))))),u (.bin .add l2 l0),x 2 l0] [] (q [m v0,m v1,u (.bin .mul l1 l0),x 3 l0] [] .ret)))))))))))),res:=[(2,none),(3,none)]}
def gW:Fn:= { aD:=3,vars:=[0,1,2,3,6],body:=(q [w 3 (.bx v0 2),x 4 (.b false)] [] (q [m v1,f 0 v3,g l0,u (.bin .leq l2 l0),m l0,y 0 true (.fa v3 0),i 1 true l0,y 2 true (.fa v3 1),i 3 true l0,y 4 true (.bin .leq l2 l0),u (.pk l5 l0 (.b false)),m l0,y 0 true (.fa v3 1),i 1 true l0,e 2 true v2,y 3 true (.bin .leq l1 l0),u (.pk l4 l0 (.b false)),x 4 l0] [] .ret)),res:=[(4,none)]}
end Go.Ev.K
namespace Go.Ev
class dn [Lib]:Prop where
 qb:Lib.fs N.iF=some K.iF
 dC:Lib.fs N.aO=some K.aO
 ng:Lib.fs N.dA=some K.dA
 sG:Lib.fs N.gW=some K.gW
namespace K
variable [Lib] [dn]
theorem qb:Lib.fs N.iF=some K.iF:=dn.qb
theorem dC:Lib.fs N.aO=some K.aO:=dn.dC
theorem ng:Lib.fs N.dA=some K.dA:=dn.ng
theorem sG:Lib.fs N.gW=some K.gW:=dn.sG
end K
end Go.Ev
namespace Go.Ev
open Go
variable [Lib] [bO] [bL] [dg] [dn]
section
variable (H : aq) (sz : Nat)
def TH(id ep n lo hi:Nat)(ys:List D):Option Obj→Option (D×aq)
 | some (.arr sz' pin ep' es)=>if ep=ep'∧n=es.length then Ul H id ep (sz',pin,es) lo hi ys sz else none
 | _=>none
def cpD(x:D)(ys:List D):Option (D×aq):=if cF sz ys=true then(match x with
 | .ref id ep n=>TH H sz id ep n 0 n ys H[id]?
 | .sub id ep n lo hi=>TH H sz id ep n lo hi ys H[id]?
 | _=>none)else none
def agq(x y:Option D):Option (D×aq):=x.bind fun a=>y.bind fun b=>EA H a b sz
@[go_sem] theorem alS (call : aX) (get : X → Option D) (x y : X) : evO call get H (.cp x y sz) = agq H sz (get x) (get y) := (rfl)
theorem K5(x y:D)(ys:List D)(h:elems H y=some ys):EA H x y sz=cpD H sz x ys:=by
 unfold EA cpD
 rw[h,aLq]
 split
 · rename_i hh
   cases x with
   | ref id ep n=>
     simp only[iI,TH]
     cases H[id]? with
     | none=>rfl
     | some o=>
       cases o with
       | box cs=>rfl
       | arr sz' pin ep' es=>
         simp only
         by_cases c:ep=ep'∧n=es.length
         · rw[if_pos c,if_pos c];rfl
         · rw[if_neg c,if_neg c];rfl
   | sub id ep n lo hi=>
     simp only[iI,TH]
     cases H[id]? with
     | none=>rfl
     | some o=>
       cases o with
       | box cs=>rfl
       | arr sz' pin ep' es=>
         simp only
         by_cases c:ep=ep'∧n=es.length
         · rw[if_pos c,if_pos c];rfl
         · rw[if_neg c,if_neg c];rfl
   | _=>rfl
 · rfl
@[go_sem] theorem akQ (x : D) (ts : List T) : agq H sz (some x) (some (.t (.sl ts))) = cpD H sz x (ts.map .t) := K5 H sz x (.t (.sl ts)) (ts.map .t) rfl
def cpE(x:D)(ep n lo hi:Nat):Option Obj→Option (D×aq)
 | some (.arr _ _ ep' es)=>if ep=ep'∧n=es.length then cpD H sz x ((es.drop lo).take (hi-lo))else none
 | _=>none
@[go_sem] theorem ajj (x : D) (n lo hi sz' : Nat) (pin : Bool) (ep : Nat) (es : List D) : cpE H sz x ep n lo hi (some (.arr sz' pin ep es)) = if n = es.length then cpD H sz x ((es.drop lo).take (hi - lo)) else none := by simp [cpE]
@[go_sem] theorem agr (x : D) (id ep n lo hi : Nat) : agq H sz (some x) (some (.sub id ep n lo hi)) = cpE H sz x ep n lo hi H[id]? := by
 unfold agq
 simp only[aLq]
 cases h:H[id]? with
 | none=>simp[EA,elems,iI,h,cpE]
 | some o=>
   cases o with
   | box cs=>simp[EA,elems,iI,h,cpE]
   | arr sz' pin ep' es=>
     by_cases c:ep=ep'∧n=es.length
     · rw[K5 H sz x _ ((es.drop lo).take (hi-lo)) (by simp[elems,iI,h,c])]
       simp only[cpE,if_pos c]
     · simp[EA,elems,iI,h,cpE,c]
@[go_sem] theorem ajk (id ep n : Nat) (ys : List D) : cpD H sz (.ref id ep n) ys = if cF sz ys = true then TH H sz id ep n 0 n ys H[id]? else none := (rfl)
@[go_sem] theorem ajl (id ep n lo hi : Nat) (ys : List D) : cpD H sz (.sub id ep n lo hi) ys = if cF sz ys = true then TH H sz id ep n lo hi ys H[id]? else none := (rfl)
@[go_sem] theorem ags (id n lo hi : Nat) (ys : List D) (ep : Nat) (es : List D) : TH H sz id ep n lo hi ys (some (.arr sz false ep es)) =
 if n=es.length then(if min ys.length (hi-lo)=0 then some (.t (.int .i64 0),H)else some (.t (.int .i64 ((min ys.length (hi-lo):Nat):Int)),H.set id (.arr sz false ep (es.take lo++ys.take (min ys.length (hi-lo))++es.drop (lo+min ys.length (hi-lo))))))else none:=by
 simp[TH,Ul]
end
theorem RO{n:Int}(h1:0≤n)(h2:n<18446744073709551616):IntKind.u64.wrap n=n:=by
 have e:IntKind.u64.wrap n=n % 18446744073709551616:=by simp[IntKind.wrap,IntKind.signed,IntKind.bits]
 rw[e];omega
theorem ade{n:Nat}(h:n<4294967296):IntKind.u64.wrap ((BitVec.ofInt IntKind.u64.bits (n:Int) &&& BitVec.ofInt IntKind.u64.bits 4294967295).toNat:Nat)=(n:Int):=by
 have e:(BitVec.ofInt IntKind.u64.bits (n:Int) &&& BitVec.ofInt IntKind.u64.bits 4294967295).toNat=n:=by
  rw[BitVec.toNat_and]
  have a:(BitVec.ofInt IntKind.u64.bits (n:Int)).toNat=n:=by
   rw[BitVec.ofInt_natCast,BitVec.toNat_ofNat]
   exact Nat.mod_eq_of_lt (Nat.lt_of_lt_of_le h (by decide))
  have b:(BitVec.ofInt IntKind.u64.bits 4294967295).toNat=2 ^ 32-1:=by decide
  rw[a,b,Nat.and_two_pow_sub_one_eq_mod]
  exact Nat.mod_eq_of_lt h
 rw[e]
 exact RO (by omega) (by omega)
theorem adf{n:Nat}(h:n<4294967296):(n:Int).fdiv (2 ^ min (32:Int).toNat IntKind.u64.bits)=0:=by
 have e:(2 ^ min (32:Int).toNat IntKind.u64.bits:Int)=4294967296:=by decide
 rw[e,Int.fdiv_eq_ediv_of_nonneg _ (by omega)]
 omega
theorem TI{n:Nat}(h:n<4294967296):(((BitVec.ofInt IntKind.u64.bits (n:Int) &&& BitVec.ofInt IntKind.u64.bits 4294967295).toNat:Nat):Int)=(n:Int):=by
 have e:=ade h
 rwa [RO (by omega) (by
  have:(BitVec.ofInt IntKind.u64.bits (n:Int) &&& BitVec.ofInt IntKind.u64.bits 4294967295).toNat<2 ^ IntKind.u64.bits:=BitVec.isLt _
  have:2 ^ IntKind.u64.bits=18446744073709551616:=by decide
  omega)]at e
theorem RP(a b:Nat)(ha:a<4294967296)(hb:b<4294967296)(h:a*b<4294967296):aL 0 N.dA [.t (.int .u64 a),.t (.int .u64 b)] []=some (.tup [.t (.int .u64 0),.t (.int .u64 ((a*b:Nat):Int))],[]):=by
 refine aj K.ng rfl ?_
 have m:(a:Int)*(b:Int)=((a*b:Nat):Int):=(Int.natCast_mul a b).symm
 have z:=ade (n:=0) (by omega)
 have z2:=adf (n:=0) (by omega)
 have z3:=TI (n:=0) (by omega)
 have g3:=fun(n:Nat) (h:n<4294967296)=>TI (n:=n) h
 have g4:=fun(n:Nat) (h:n<4294967296)=>adf (n:=n) h
 simp only[Int.ofNat_zero,Int.natCast_zero]at z z2 z3
 simp only[go_sem]at z2 z3 g3 g4
 simp(disch:=omega)only[go_sem,K.dA,↓reduceIte,g3,g4,m,z2,z3,RO,Int.zero_mul,Int.mul_zero,Int.add_zero,Int.zero_add,reduceAdd,reduceSub]
theorem adg(a b:Nat)(ha:a<4294967296)(hb:b<4294967296)(h:a*b<4294967296):aL 0 N.eF [.t (.int .u64 a),.t (.int .u64 b)] []=some (.tup [.t (.int .u64 0),.t (.int .u64 ((a*b:Nat):Int))],[]):=by
 refine aj K.pg rfl ?_
 have m:=RP a b ha hb h
 simp(disch:=omega)only[go_sem,K.eF,↓reduceIte,m,reduceAdd,reduceSub]
def Bu(v:Int)(n cur:Nat):List D:=List.replicate cur (I v)++List.replicate (n-cur) (I 0)
theorem K6(v:Int){n cur:Nat}(h:cur≤n):(Bu v n cur).length=n:=by simp[Bu];omega
theorem OT(v:Int){n cur m:Nat}(h:cur+m≤n)(hm:m≤cur):(Bu v n cur).take cur++((Bu v n cur).take cur).take m++(Bu v n cur).drop (cur+m)=Bu v n (cur+m):=by
 unfold Bu
 have e1:(List.replicate cur (I v)++List.replicate (n-cur) (I 0)).take cur=List.replicate cur (I v):=by
  rw[List.take_append_of_le_length (by simp),List.take_of_length_le (by simp)]
 have e2:(List.replicate cur (I v)++List.replicate (n-cur) (I 0)).drop (cur+m)=List.replicate (n-(cur+m)) (I 0):=by
  rw[List.drop_append,List.length_replicate]
  simp;omega
 rw[e1,e2,List.take_replicate,Nat.min_eq_left hm,List.replicate_append_replicate]
theorem adh(v:Int)(n cur:Nat):∃ts:List T,Bu v n cur=ts.map .t:=⟨List.replicate cur (tI v)++List.replicate (n-cur) (tI 0),by simp[Bu]⟩
theorem G3(v:Int)(n cur:Nat)(lo k:Nat):cF 1 (((Bu v n cur).drop lo).take k)=true:=by
 cases h:((Bu v n cur).drop lo).take k with
 | nil=>rfl
 | cons d r=>
   have hm:d∈Bu v n cur:=List.mem_of_mem_drop (List.mem_of_mem_take (h▸List.mem_cons_self))
   unfold Bu at hm
   simp only[List.mem_append,List.mem_replicate]at hm
   rcases hm with⟨-,rfl⟩ | ⟨-,rfl⟩<;>rfl
theorem Jw(v:Int)(n:Nat)(hn:n≤1000000):∀(k cur:Nat),n-cur≤k→1≤cur→cur≤n→
 oX true [0,1,2,3,4] (exS aL K.dB) ⟨[.und,.und,.und,.und,.und,.ref 0 0 n,I cur],[.arr 1 false 0 (Bu v n cur)]⟩=
  some (.exit 0,⟨[.und,.und,.und,.und,.und,.ref 0 0 n,I n],[.arr 1 false 0 (Bu v n n)]⟩):=by
 intro k
 induction k with
 | zero=>
   intro cur h1 h2 h3
   have:cur=n:=by omega
   subst this
   refine fW ?_ (by simp)
   have rl:=K6 v (aLs cur)
   simp(disch:=omega)only[go_sem,K.dB,↓reduceIte,reduceAdd,reduceSub]
 | succ k ih=>
   intro cur h1 h2 h3
   by_cases c:cur=n
   · subst c
     refine fW ?_ (by simp)
     simp(disch:=omega)only[go_sem,K.dB,↓reduceIte,reduceAdd,reduceSub]
   · have rl:=K6 v (n:=n) (cur:=cur) (by omega)
     have st:=OT v (n:=n) (cur:=cur) (m:=min cur (n-cur)) (by omega) (by omega)
     have hs:=G3 v n cur 0 cur
     rw[List.drop_zero]at hs
     have tl:((Bu v n cur).take cur).length=cur:=by rw[List.length_take];omega
     refine lN (st2:=⟨[.und,.und,.und,.und,.und,.ref 0 0 n,I ((cur+min cur (n-cur):Nat):Int)],[.arr 1 false 0 (Bu v n (cur+min cur (n-cur)))]⟩) ?_ (ih _ (by omega) (by omega) (by omega))
     rw[← st]
     obtain⟨ts,hts⟩:=adh v n cur
     have ao:∀a b c:Nat,iu 1 8 ((Bu v n cur).take a)=true∧iu 1 8 (((Bu v n cur).take a).take b)=true∧iu 1 8 ((Bu v n cur).drop c)=true:=fun a b c=>by
      rw[hts,←List.map_take,←List.map_take,←List.map_drop]
      simp only[go_sem,and_self]
     have ao1:=fun a=>(ao a 0 0).1
     have ao2:=fun a b=>(ao a b 0).2.1
     have ao3:=fun c=>(ao 0 0 c).2.2
     clear ao hts
     generalize Bu v n cur=es at*
     simp(disch:=omega)only[go_sem,K.dB,↓reduceIte,rl,hs,tl,ao1,ao2,ao3,and_self,List.drop_zero,Nat.sub_zero,reduceAdd,reduceSub]
theorem Cd(v:Int)(n:Nat)(h1:1≤n)(hn:n≤1000000):aL 1 N.bj [.t (tL [v]),I n] []=some (.ref 0 0 n,[.arr 1 false 0 (List.replicate n (I v))]):=by
 refine aj K.jH rfl ?_
 have m:=adg 1 n (by omega) (by omega) (by omega)
 rw[Nat.one_mul]at m
 change aL 0 N.eF [.t (.int .u64 1),.t (.int .u64 n)] []=_ at m
 have w1:IntKind.u64.wrap 1=1:=by decide
 have w2:IntKind.u64.wrap (n:Int)=n:=RO (by omega) (by omega)
 have w3:IntKind.i64.wrap (n:Int)=n:=uc (by omega) (by omega)
 have lp:=Jw v n hn n 1 (by omega) (by omega) h1
 have loop:∀z0 z1 z2 z3 z4:D,exS aL K.lU ⟨[z0,z1,z2,z3,z4,.ref 0 0 n,I 1],[.arr 1 false 0 (I v::List.replicate (n-1) (I 0))]⟩=some (.exit 0,⟨[.und,.und,.und,.und,.und,.ref 0 0 n,I n],[.arr 1 false 0 (List.replicate n (I v))]⟩):=by
  intro z0 z1 z2 z3 z4
  have e1:Bu v n 1=I v::List.replicate (n-1) (I 0):=rfl
  have e2:Bu v n n=List.replicate n (I v):=by simp[Bu]
  rw[e1,e2]at lp
  exact lp
 have dr:(List.replicate n (D.t (.int .i64 0))).drop 1=List.replicate (n-1) (I 0):=List.drop_replicate ..
 have mn:min 1 n=1:=by omega
 have ar:∀H:aq,tD H 8 (List.replicate n (I v))=[]:=fun H=>by
  have e:List.replicate n (I v)=(List.replicate n (tI v)).map D.t:=by simp
  rw[e]
  unfold tD
  exact KN ..
 simp(disch:=omega)only[go_sem,K.bj,↓reduceIte,tL,List.map_cons,List.map_nil,m,w1,w2,w3,loop,dr,mn,ar,List.length_replicate,Nat.sub_zero,List.take_zero,List.nil_append,List.take_succ_cons,Nat.zero_add,reduceAdd,reduceSub]
end Go.Ev
namespace Go.Ev
open Go
variable [Lib] [bO] [bL]
structure Spn where
 low:Int
 high:Int
instance : Dat Spn := ⟨⟨0, 0⟩⟩
abbrev Spn.e(f:Spn):T:= .agg [tI f.low,tI f.high]
abbrev tS(l:List Spn):T:= .sl (l.map Spn.e)
def Spn.ok(f:Spn):Prop:= -1125899906842624≤f.low∧f.high≤1125899906842624∧f.low≤f.high
instance (f : Spn) : Decidable f.ok := by unfold Spn.ok; infer_instance
theorem G4(f:Spn):aL 0 N.jV [.t f.e] []=some (B (decide f.ok),[]):=by
 refine aj K.uo rfl ?_
 unfold Spn.ok
 by_cases h1: -1125899906842624≤f.low<;>by_cases h2:f.high≤1125899906842624<;>by_cases h3:f.low≤f.high<;>simp(disch:=omega)only[go_sem,K.jV,↓reduceIte,h1,h2,h3]
def kY(m:bq)(l:List Spn):Bool:=(List.range l.length).all (fun j=>decide (nth l j).ok)&&decide (l.length=m.roads.length)
theorem Jx{m:bq}{l:List Spn}(h:kY m l=true):l.length=m.roads.length∧∀j,j<l.length→(nth l j).ok:=by
 simp only[kY,aLr,decide_eq_true_eq,aLx,aLu]at h
 exact⟨h.2,h.1⟩
theorem RQ(m:bq)(hm:m.roads.length≤1000000)(l:List Spn)(hl:l.length≤1000000):aL 0 N.iY [.t m.e,.t (tS l)] []=some (B (kY m l),[]):=by
 refine aj K.sj rfl ?_
 have loop:∀a b:D,exS aL K.wa ⟨[a,.t (tS l),.bp 0 0,b,I 0],[.box (ae m)]⟩=
  some (match (List.range l.length).find? (fun j=> !decide (nth l j).ok)with
   | some j=>(.ret,⟨[.und,.t (tS l),.bp 0 0,B false,I j],[.box (ae m)]⟩)
   | none=>(.exit 0,⟨[.und,.t (tS l),.bp 0 0,.und,I l.length],[.box (ae m)]⟩)):=by
  intro a b
  refine fY (fun j=>⟨[.und,.t (tS l),.bp 0 0,.und,I j],[.box (ae m)]⟩) l.length (fun j=> !decide (nth l j).ok) _ _ rfl ?_ ?_ ?_ (by simp)
  · intro j hj hp
    have s:=G4 (nth l j)
    have hp:(nth l j).ok:=by simpa using hp
    simp only[hp,decide_true]at s
    simp(disch:=omega)only[go_sem,K.mB,↓reduceIte,s]
  · intro j hj hp
    have s:=G4 (nth l j)
    have hp:¬(nth l j).ok:=by simpa using hp
    simp only[hp,decide_false]at s
    simp(disch:=omega)only[go_sem,K.mB,↓reduceIte,s]
    simp
  · simp(disch:=omega)only[go_sem,K.mB,↓reduceIte]
 unfold kY
 rw[E2]
 simp(disch:=omega)only[go_sem,K.iY,↓reduceIte,loop]
 cases hf:(List.range l.length).find? (fun j=> !decide (nth l j).ok)with
 | some j=>simp(disch:=omega)only[go_sem,↓reduceIte,Option.isNone,Bool.false_and]
 | none=>
   by_cases he:l.length=m.roads.length
   · simp(disch:=omega)only[go_sem,↓reduceIte,Option.isNone,he,Bool.true_and,decide_true]
   · simp(disch:=omega)only[go_sem,↓reduceIte,Option.isNone,he,Bool.true_and,decide_false]
def iy(x:Road)(f:Spn)(back:Bool):Int:=
 if x.closed=true then -1 else
 let g:=if back then -f.low else f.high
 let out:=if 0<g then(x.len*x.area*1000).tdiv g else -1
 if(if back then f.low<500*x.area else -500*x.area<f.high)∧(out<0∨x.len<out)then x.len else out
theorem L7{n:Nat}{x:Road}(h:x.ok n){f:Spn}(back:Bool): -1≤iy x f back∧iy x f back≤100000000000:=by
 have l0:=h.l0;have l1:=h.l1;have a0:=h.a0;have a1:=h.a1
 have hm:0≤x.len*x.area:=Int.mul_nonneg (by omega) (by omega)
 have hm2:x.len*x.area≤100000*1000:=Int.mul_le_mul l1 a1 (by omega) (by omega)
 unfold iy
 simp only
 split
 · omega
 · have key:∀g:Int, -1≤(if 0<g then(x.len*x.area*1000).tdiv g else -1)∧(if 0<g then(x.len*x.area*1000).tdiv g else -1)≤100000000000:=by
    intro g
    split
    · have:=qA (a:=x.len*x.area*1000) (b:=g) (by omega) (by omega)
      omega
    · omega
   cases back with
   | false=>
     have k:=key f.high
     simp only[aLt,↓reduceIte]
     generalize (if 0<f.high then(x.len*x.area*1000).tdiv f.high else -1)=o at*
     split<;>omega
   | true=>
     have k:=key (-f.low)
     simp only[↓reduceIte]
     generalize (if 0< -f.low then(x.len*x.area*1000).tdiv (-f.low)else -1)=o at*
     split<;>omega
def E8(l:List Int)(p q:Nat)(t:Int):Bool:=decide (0≤t∧nth l p+t<nth l q)
def C8(l:List Int)(p q:Nat)(t:Int):List Int:=if E8 l p q t=true then l.set q (nth l p+t)else l
def nK(m:bq)(fl:List Spn)(k:Nat)(back:Bool)(l:List Int):List Int×Bool:=
 (C8 l ((nth m.roads k).src back).toNat ((nth m.roads k).dst back).toNat (iy (nth m.roads k) (nth fl k) back),E8 l ((nth m.roads k).src back).toNat ((nth m.roads k).dst back).toNat (iy (nth m.roads k) (nth fl k) back))
def Ce(m:bq)(fl:List Spn)(k:Nat)(s:List Int×Bool):List Int×Bool:=
 let a:=nK m fl k false s.1
 let b:=nK m fl k true a.1
 (b.1,s.2||a.2||b.2)
def gX(m:bq)(fl:List Spn)(l:List Int):Nat→List Int×Bool
 | 0=>(l,false)
 | k+1=>Ce m fl k (gX m fl l k)
def ku(m:bq)(fl:List Spn)(l:List Int):List Int×Bool:=gX m fl l m.roads.length
theorem OU(l:List Int)(p q:Nat)(t:Int):(C8 l p q t).length=l.length:=by unfold C8;split<;>simp
theorem rC(m:bq)(fl:List Spn)(k:Nat)(back:Bool)(l:List Int):(nK m fl k back l).1.length=l.length:=OU ..
theorem i7(m:bq)(fl:List Spn)(l:List Int):∀k,(gX m fl l k).1.length=l.length
 | 0=>rfl
 | k+1=>by simp only[gX,Ce,rC,i7 m fl l k]
theorem OV{l:List Int}(h:bnd l){p q:Nat}(hp:p<l.length)(hq:q<l.length){t:Int}:bnd (C8 l p q t):=by
 unfold C8
 split
 · rename_i hc
   simp only[E8,decide_eq_true_eq]at hc
   have h1:=h _ (aE hp)
   have h2:=h _ (aE hq)
   exact zn h (by omega) (by omega)
 · exact h
theorem OW{l:List Int}(hb:bnd l){p q:Nat}(hp:p<l.length)(hq:q<l.length){t:Int}:
 (E8 l p q t=true→nD (C8 l p q t)<nD l)∧(E8 l p q t=false→C8 l p q t=l):=by
 unfold C8
 constructor
 · intro hc
   rw[if_pos hc]
   simp only[E8,decide_eq_true_eq]at hc
   have:=hb _ (aE hp)
   exact Bt hq (by omega) hc.2
 · intro hc;rw[if_neg (by simp[hc])]
section
variable {m : bq} (h : m.ok) {fl : List Spn}
include h
theorem vC{l:List Int}(hl:l.length=m.aa.length)(hb:bnd l){k:Nat}(hk:k<m.roads.length)(back:Bool):bnd (nK m fl k back l).1:=by
 have r1:=Road.oV (h.rs _ (aE hk)) back
 have r2:=Road.rA (h.rs _ (aE hk)) back
 exact OV hb (by omega) (by omega)
theorem ph{l:List Int}(hl:l.length=m.aa.length)(hb:bnd l):∀k,k≤m.roads.length→bnd (gX m fl l k).1
 | 0,_=>hb
 | k+1,hk=>by
   simp only[gX,Ce]
   exact vC h (by rw[rC,i7,hl]) (vC h (by rw[i7,hl]) (ph hl hb k (by omega)) (by omega) _) (by omega) _
theorem zr{l:List Int}(hl:l.length=m.aa.length)(hb:bnd l){k:Nat}(hk:k<m.roads.length)(back:Bool):
 ((nK m fl k back l).2=true→nD (nK m fl k back l).1<nD l)∧((nK m fl k back l).2=false→(nK m fl k back l).1=l):=by
 have r1:=Road.oV (h.rs _ (aE hk)) back
 have r2:=Road.rA (h.rs _ (aE hk)) back
 exact OW hb (by omega) (by omega)
theorem sH{l:List Int}(hl:l.length=m.aa.length)(hb:bnd l):∀k,k≤m.roads.length→
 ((gX m fl l k).2=true→nD (gX m fl l k).1<nD l)∧((gX m fl l k).2=false→(gX m fl l k).1=l)
 | 0,_=>⟨fun h=>by simp[gX]at h,fun _=>rfl⟩
 | k+1,hk=>by
   obtain⟨i1,i2⟩:=sH hl hb k (by omega)
   have hb1:=ph h (fl:=fl) hl hb k (by omega)
   have hl1:(gX m fl l k).1.length=m.aa.length:=by rw[i7,hl]
   obtain⟨a1,a2⟩:=zr h (fl:=fl) hl1 hb1 (k:=k) (by omega) false
   have hb2:=vC h (fl:=fl) hl1 hb1 (k:=k) (by omega) false
   obtain⟨c1,c2⟩:=zr h (fl:=fl) (by rw[rC,hl1]) hb2 (k:=k) (by omega) true
   simp only[gX,Ce]
   generalize gX m fl l k=s at*
   obtain⟨sl,sb⟩:=s
   simp only at*
   generalize nK m fl k false sl=a at*
   obtain⟨al,ab⟩:=a
   simp only at*
   generalize nK m fl k true al=b at*
   obtain⟨bl,bb⟩:=b
   simp only at*
   cases sb<;>cases ab<;>cases bb<;>simp_all<;>omega
end
def RR(l:List Int):Nat→List Int
 | 0=>l
 | j+1=>if 2147483648<nth (RR l j) j then(RR l j).set j 1099511627776 else RR l j
theorem E9(l:List Int):∀j,(RR l j).length=l.length
 | 0=>rfl
 | j+1=>by
   have:=E9 l j
   simp only[RR];split<;>simp[this]
def wu(m:bq)(fl:List Spn)(l:List Int):List Int:=RR (fw (ku m fl) (nD l+1) l) m.aa.length
end Go.Ev
namespace Go.Ev
open Go
variable [Lib] [bO] [bL]
def plS(t x:Int):Prop:=x=1099511627776∨(t≤x∧x≤2147483648)
instance (t x : Int) : Decidable (plS t x) := by unfold plS; infer_instance
def OX(m:bq)(s:Wh):Bool:=(List.range s.frm.length).all (fun j=>decide (plS s.time (nth s.frm j)))&&decide (s.frm.length=m.aa.length∧inT s.time)
theorem RS(w:Wh)(hl:w.frm.length≤4294967296):aL 0 N.jU [.t w.e] []=some (.t w.e,[]):=by
 refine aj K.ui rfl ?_
 obtain⟨time,frm⟩:=w
 simp only at*
 simp(disch:=omega)only[go_sem,K.jU,↓reduceIte,reduceAdd,reduceSub]
def AS(l:List Int)(t:Int)(n:Nat):List Int:=(List.range n).map fun(p:Nat)=>if(p:Int)∈l then t else 1099511627776
@[simp] theorem yb (l : List Int) (t : Int) (n : Nat) : (AS l t n).length = n := by simp [AS]
theorem G5(l:List Int){t:Int}(ht:inT t)(n:Nat):bnd (AS l t n):=by
 intro x hx
 simp only[AS,List.mem_map]at hx
 obtain⟨p, -,rfl⟩:=hx
 unfold inT at ht
 split<;>omega
def Cf(m:bq)(fl:List Spn)(l:List Int)(t:Int):Wh×Int:=
 if kY m fl=false then(⟨0,[]⟩,6)else if lQ l m.aa.length=false then(⟨0,[]⟩,3)else if ¬inT t then(⟨0,[]⟩,8)else
 (⟨t,wu m fl (AS l t m.aa.length)⟩,0)
def TJ(m:bq)(fl:List Spn)(frm:List Int)(t:Int)(k:Nat)(back:Bool)(l:List Int):List Int:=
 if nth frm ((nth m.roads k).src back).toNat≤t∧0≤iy (nth m.roads k) (nth fl k) back then l.set ((nth m.roads k).dst back).toNat (min (nth l ((nth m.roads k).dst back).toNat) t)else l
def adi(m:bq)(fl:List Spn)(frm:List Int)(t:Int)(k:Nat)(l:List Int):List Int:=TJ m fl frm t k true (TJ m fl frm t k false l)
def chN(m:bq)(fl:List Spn)(frm:List Int)(t:Int):Nat→List Int
 | 0=>frm
 | k+1=>adi m fl frm t k (chN m fl frm t k)
def ajm(t:Int)(l:List Int):Nat→List Int
 | 0=>l
 | k+1=>(ajm t l k).set k (max (nth (ajm t l k) k) t)
def WS(m:bq)(old:List Spn)(next:bq)(fl:List Spn)(s:Wh)(t:Int):Wh×Int:=
 if OX m s=false∨kY m old=false∨kY next fl=false∨next.aa.length≠m.aa.length then(s,6)else
 if t<s.time∨2147483648<t then(s,8)else(⟨t,wu next fl (ajm t (chN m old s.frm t m.roads.length) m.aa.length)⟩,0)
end Go.Ev
namespace Go.Ev
open Go
variable [Lib] [bO] [bL] [dg] [dn]
theorem L8{m:bq}(h:m.ok)(k:Nat)(hk:k<m.roads.length)(f:Spn)(hf:f.ok)(back:Bool):
 aL 0 N.bT [.t m.e,I k,.t f.e,B back] []=some (I (iy (nth m.roads k) f back),[]):=by
 refine aj K.qB rfl ?_
 have nr:=h.nr
 have ok:=h.rs _ (aE hk)
 obtain⟨lo,hi⟩:=f
 unfold Spn.ok at hf
 unfold iy
 have g0:(m.roads.map Road.e)[k]?=some (nth m.roads k).e:=bE _ hk
 generalize nth m.roads k=x at*
 have l0:=ok.l0;have l1:=ok.l1;have a0:=ok.a0;have a1:=ok.a1
 obtain⟨frm,to,len,area,walk,closed,rl,rh,ll,lh⟩:=x
 simp only at l0 l1 a0 a1 hf g0 ⊢
 clear ok
 have hm:0≤len*area:=Int.mul_nonneg (by omega) (by omega)
 have hm2:len*area≤100000*1000:=Int.mul_le_mul l1 a1 (by omega) (by omega)
 have w1:IntKind.i64.wrap (-lo)= -lo:=uc (by omega) (by omega)
 have w2:IntKind.i64.wrap (-hi)= -hi:=uc (by omega) (by omega)
 obtain⟨aa,roads⟩:=m
 simp only at hk nr g0
 cases closed with
 | true=>simp(disch:=omega)only[go_sem,K.bT,↓reduceIte,g0,reduceAdd,reduceSub]
 | false=>
   cases back with
   | false=>
     by_cases c1:0<hi
     · have g1:=qA (a:=len*area*1000) (b:=hi) (by omega) (by omega)
       by_cases c2:len<(len*area*1000).tdiv hi
       · simp(disch:=omega)only[go_sem,K.bT,↓reduceIte,g0,w1,w2,c1,c2,and_self,or_true,and_true,aLt,reduceAdd,reduceSub]
       · by_cases c3:(len*area*1000).tdiv hi<len
         · simp(disch:=omega)only[go_sem,K.bT,↓reduceIte,g0,w1,w2,c1,c2,c3,and_self,or_false,and_true,and_false,aLt,reduceAdd,reduceSub]
         · have e:(len*area*1000).tdiv hi=len:=by omega
           simp(disch:=omega)only[go_sem,K.bT,↓reduceIte,g0,w1,w2,c1,e,and_self,or_false,and_true,and_false,aLt,reduceAdd,reduceSub]
     · by_cases c2: -500*area<hi
       · simp(disch:=omega)only[go_sem,K.bT,↓reduceIte,g0,w1,w2,c1,c2,and_self,true_or,and_true,aLt,reduceAdd,reduceSub]
       · simp(disch:=omega)only[go_sem,K.bT,↓reduceIte,g0,w1,w2,c1,c2,false_and,aLt,reduceAdd,reduceSub]
   | true=>
     by_cases c1:0< -lo
     · have g1:=qA (a:=len*area*1000) (b:= -lo) (by omega) (by omega)
       by_cases c2:len<(len*area*1000).tdiv (-lo)
       · simp(disch:=omega)only[go_sem,K.bT,↓reduceIte,g0,w1,w2,c1,c2,Int.zero_sub,and_self,or_true,and_true,aLt,reduceAdd,reduceSub]
       · by_cases c3:(len*area*1000).tdiv (-lo)<len
         · simp(disch:=omega)only[go_sem,K.bT,↓reduceIte,g0,w1,w2,c1,c2,c3,Int.zero_sub,and_self,or_false,and_true,and_false,aLt,reduceAdd,reduceSub]
         · have e:(len*area*1000).tdiv (-lo)=len:=by omega
           simp(disch:=omega)only[go_sem,K.bT,↓reduceIte,g0,w1,w2,c1,e,Int.zero_sub,and_self,or_false,and_true,and_false,aLt,reduceAdd,reduceSub]
     · by_cases c2:lo<500*area
       · simp(disch:=omega)only[go_sem,K.bT,↓reduceIte,g0,w1,w2,c1,c2,Int.zero_sub,and_self,true_or,and_true,aLt,reduceAdd,reduceSub]
       · simp(disch:=omega)only[go_sem,K.bT,↓reduceIte,g0,w1,w2,c1,c2,Int.zero_sub,false_and,aLt,reduceAdd,reduceSub]
theorem G6(a b lo hi:Int)(h1:lo≤a)(h2:a≤b)(h3:b≤hi):aL 0 N.gW [.t (.agg [tI a,tI b]),I lo,I hi] []=some (B true,[]):=by
 refine aj K.sG rfl ?_
 simp(disch:=omega)only[go_sem,K.gW,↓reduceIte,reduceAdd,reduceSub]
theorem G7{m:bq}(h:m.ok):aL 0 N.iF [.t m.e] []=some (I 0,[]):=by
 refine aj K.qb rfl ?_
 have np:=h.np
 have nr:=h.nr
 have hs:=h.hs
 have rs:=h.rs
 obtain⟨aa,roads⟩:=m
 simp only at np nr hs rs
 have l1:∀z0 z2 z3 z4 z5 z9 z10 z11:D,exS aL K.sE ⟨[z0,.bp 0 0,z2,z3,z4,z5,.t (.sl (aa.map Place.e)),I aa.length,I 0,z9,z10,z11],[.box (ae ⟨aa,roads⟩)]⟩=
  some (.exit 0,⟨[.und,.bp 0 0,.und,.und,.und,.und,.t (.sl (aa.map Place.e)),I aa.length,I aa.length,.und,.und,.und],[.box (ae ⟨aa,roads⟩)]⟩):=by
  intro z0 z2 z3 z4 z5 z9 z10 z11
  refine bH (fun j=>⟨[.und,.bp 0 0,.und,.und,.und,.und,.t (.sl (aa.map Place.e)),I aa.length,I j,.und,.und,.und],[.box (ae ⟨aa,roads⟩)]⟩) aa.length rfl ?_ ?_ (by simp)
  · intro j hj
    have g:(aa.map Place.e)[j]?=some (nth aa j).e:=bE _ hj
    have q:=hs _ (aE hj)
    generalize nth aa j=x at*
    obtain⟨hh,sf⟩:=x
    simp only[ae]at*
    simp(disch:=omega)only[go_sem,K.kX,↓reduceIte,g,reduceAdd,reduceSub]
  · simp(disch:=omega)only[go_sem,K.kX,↓reduceIte,ae,reduceAdd,reduceSub]
 have l2:∀z0 z1 z2 z3 z5 z6 z7 z8:D,exS aL K.sF ⟨[z0,z1,z2,z3,I aa.length,z5,z6,z7,z8,.t (.sl (roads.map Road.e)),I roads.length,I 0],[.box (ae ⟨aa,roads⟩)]⟩=
  some (.exit 2,⟨[.und,.und,.und,.und,I aa.length,.und,.und,.und,.und,.t (.sl (roads.map Road.e)),I roads.length,I roads.length],[.box (ae ⟨aa,roads⟩)]⟩):=by
  intro z0 z1 z2 z3 z5 z6 z7 z8
  refine bH (fun j=>⟨[.und,.und,.und,.und,I aa.length,.und,.und,.und,.und,.t (.sl (roads.map Road.e)),I roads.length,I j],[.box (ae ⟨aa,roads⟩)]⟩) roads.length rfl ?_ ?_ (by simp)
  · intro j hj
    have g:(roads.map Road.e)[j]?=some (nth roads j).e:=bE _ hj
    have q:=rs _ (aE hj)
    generalize nth roads j=x at*
    have f0:=q.f0;have f1:=q.f1;have t0:=q.t0;have t1:=q.t1;have ne:=q.ne;have l0:=q.l0;have l1:=q.l1;have a0:=q.a0;have a1:=q.a1
    have r0:=q.r0;have r1:=q.r1;have r2:=q.r2;have i0:=q.i0;have i1:=q.i1;have i2:=q.i2
    clear q
    obtain⟨frm,to,len,area,walk,closed,rl,rh,ll,lh⟩:=x
    simp only[ae]at*
    have s1:=G6 rl rh 1 262144 r0 r1 r2
    have s2:=G6 ll lh (-2199023255552) 2199023255552 i0 i1 i2
    simp(disch:=omega)only[go_sem,K.jY,↓reduceIte,g,s1,s2,reduceAdd,reduceSub]
  · simp(disch:=omega)only[go_sem,K.jY,↓reduceIte,ae,reduceAdd,reduceSub]
 simp only[ae]at l1 l2
 simp(disch:=omega)only[go_sem,K.iF,↓reduceIte,l1,l2,reduceAdd,reduceSub]
theorem lV{m:bq}(h:m.ok):aL 0 N.cy [.t m.e] []=some (B true,[]):=by
 refine aj K.qa rfl ?_
 have c:=G7 h
 obtain⟨aa,roads⟩:=m
 simp(disch:=omega)only[go_sem,K.cy,↓reduceIte,c,reduceAdd,reduceSub]
end Go.Ev
namespace Go.Ev.N
def L9:Nat:=178
def Ma:Nat:=179
def Nf:Nat:=180
def Mb:Nat:=181
def Ng:Nat:=182
def OY:Nat:=183
def Nh:Nat:=184
def WT:Nat:=185
def eU:Nat:=186
def WU:Nat:=187
def OZ:Nat:=188
def WW:Nat:=189
def iN:Nat:=190
def TK:Nat:=191
def lW:Nat:=192
def iP:Nat:=193
def TL:Nat:=194
def WX:Nat:=195
def jn:Nat:=196
def adj:Nat:=197
def dD:Nat:=198
def bU:Nat:=199
def dZ:Nat:=200
def iQ:Nat:=201
def cq:Nat:=202
def iR:Nat:=203
def ai:Nat:=204
def b5:Nat:=205
def WY:Nat:=206
def TM:Nat:=207
def dE:Nat:=208
def bu:Nat:=209
def fH:Nat:=210
def jR:Nat:=211
def kZ:Nat:=212
def fI:Nat:=213
def jZ:Nat:=214
end Go.Ev.N
namespace Go.Ev.K
open Go.Ev
def eU:Fn:= { aD:=3,vars:=[0,1,2,3,6,7,8],body:=(q [w 3 (.bx v0 2),w 4 (.al [z0,.nil] []),x 5 (.i 0)] [] (.seq (.blk 0 (.ite [h 2 v3,u (.ca N.cy 0 [] [.l 0]),u (.un .not l0),m l0] [] 0 (q [u (.bd [z0,.nil] []),u (.st v4 l0 2 []),x 5 (.i 6)] [] .ret) (.ite [m v1,f 0 v3,g l0,u (.ln l0),u (.bin .sub l0 (.i 1)),u (.ca N.bc 0 [] [.l 4,.i 0,.l 0]),u (.un .not l0),m l0] [] 0 (q [u (.bd [z0,.nil] []),u (.st v4 l0 2 []),x 5 (.i 3)] [] .ret) (.ite [m v2,u (.ca N.bc 0 [] [.l 0,.i 0,.i 2147483648]),u (.un .not l0),m l0] [] 0 (q [u (.bd [z0,.nil] []),u (.st v4 l0 2 []),x 5 (.i 8)] [] .ret) .skip)))) (q [h 2 v3,u (.ca N.dD 1 [] [.l 0]),x 6 l0] [] (q [m v6,m v1,m v2,a 1 l2 l1,u (.st l0 l1 1 [])] [] (q [m v2,h 2 v3,m v6,m v2,u (.ca N.bU 0 [] [.l 2,.l 1,.l 0,.c (.fn N.dZ [])]),u (.bd [z0,.nil] [(0,1,.l 4),(1,1,.l 0)]),u (.st v4 l0 2 []),x 5 (.i 0)] [] .ret))))),res:=[(4,some (2,true)),(5,none)]}
def iN:Fn:= { aD:=2,vars:=[0,1,2,3,4],body:=(q [w 2 (.bx v0 2),w 3 (.bx v1 2),x 4 (.b false)] [] (q [h 2 v2,u (.ca N.cy 0 [] [.l 0]),m l0,y 0 true (.ld v2 2 true),y 1 true (.ld v3 2 true),y 2 true (.ca N.iQ 0 [] [.l 1,.l 0]),u (.pk l3 l0 (.b false)),m l0,y 0 true (.ld v2 2 true),y 1 true (.fa v3 1),i 2 true l0,y 3 true (.fa v3 0),i 4 true l0,y 5 true (.ca N.bU 0 [] [.l 4,.l 2,.l 0,.c (.fn N.dZ [])]),y 6 true (.fa v3 1),i 7 true l0,y 8 true (.ca N.cq 0 [] [.l 2,.l 0]),u (.pk l9 l0 (.b false)),x 4 l0] [(15,6)] .ret)),res:=[(4,none)]}
def C9:C:= (.its [u (.bin .lss v15 v14)] [] 0 .skip (.exit 0) (.seq (.blk 1 (q [a 1 v13 v15,g l0,x 12 l0] [] (.ite [f 1 v6,g l0,m v12,a 1 l1 l0,g l0,m v4,u (.bin .leq l1 l0)] [] 0 (.reg [m v10,m v12,f 1 v6,g l0,m v12,a 1 l1 l0,g l0,a 1 l6 l5,u (.st l0 l1 1 []),x 11 (.b true)] []) .skip))) (.reg [u (.bin .add v15 (.i 1)),x 15 l0] [])))
def Fa:C:= .loop true [0,1,2,8,9,12] K.C9
def lW:Fn:= { aD:=5,vars:=[0,1,2,3,4,5,6,10,11,12,13,14,16,34,35,36],body:=(q [w 5 (.bx v0 2),w 6 (.bx v1 2),w 7 (.al [z0,.nil] []),x 8 (.i 0)] [] (.seq (q [h 2 v5,h 2 v6,m v2,m v3,m v4,u (.ca N.iR 0 [] [.l 4,.l 3,.l 2,.l 1,.l 0]),x 9 l0] [] (.ite [m v9,u (.bin .neq l0 (.i 0))] [] 0 (q [h 2 v6,m v9,u (.st v7 l1 2 []),x 8 l1] [] .ret) .skip)) (.seq (.ite [m v3,f 0 v6,g l0,u (.bin .lss l2 l0)] [] 0 (q [h 2 v6,u (.st v7 l0 2 []),x 8 (.i 42)] [] .ret) .skip) (q [h 2 v5,u (.ca N.dD 1 [] [.l 0]),x 10 l0,x 11 (.b false)] [] (.seq (q [x 13 v2,w 14 (.ln l0),x 15 (.i 0)] [] (.blk 0 K.Fa)) (.seq (.ite [m v11,u (.un .not l0)] [] 0 (q [h 2 v6,u (.st v7 l0 2 []),x 8 (.i 43)] [] .ret) .skip) (q [m v4,h 2 v5,m v10,m v3,u (.ca N.bU 0 [] [.l 2,.l 1,.l 0,.c (.fn N.dZ [])]),u (.bd [z0,.nil] [(0,1,.l 4),(1,1,.l 0)]),u (.st v7 l0 2 []),x 8 (.i 0)] [] .ret))))))),res:=[(7,some (2,true)),(8,none)]}
end Go.Ev.K
namespace Go.Ev
class eR [Lib]:Prop where
 qC:Lib.fs N.eU=some K.eU
 wx:Lib.fs N.iN=some K.iN
 Ax:Lib.fs N.lW=some K.lW
namespace K
variable [Lib] [eR]
theorem qC:Lib.fs N.eU=some K.eU:=eR.qC
theorem wx:Lib.fs N.iN=some K.iN:=eR.wx
theorem Ax:Lib.fs N.lW=some K.lW:=eR.Ax
end K
end Go.Ev
