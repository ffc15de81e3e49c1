/- Parts of the proof: see the text that holds the theorem. -/
import Derived.Test.YtljlbkjecjloaaaGreatZ2
set_option linter.all false
set_option maxRecDepth 100000
namespace Go.Ev
open Go
abbrev I(n:Int):D:= .t (.int .i64 n)
abbrev B(b:Bool):D:= .t (.bool b)
def HN{β:Type}(call:aQ):List R→List D→List D→ai→(List D→List D→ai→Option β)→Option β
 | rs,L,vs,H,K=>(evR call rs L vs H).bind fun q=>K q.1 q.2.1 q.2.2
def Pj{β:Type}(call:aQ)(rs:List R)(d:Option Nat)(L vs:List D)(K:List D→List D→ai→Option β)(p:D×ai):Option β:=
 HN call rs (p.1::L) (wr vs d p.1) p.2 K
@[go_sem] theorem XD {β : Type} (call : aQ) (rs : List R) (d : Option Nat) (L vs : List D) (K : List D → List D → ai → Option β) (x : D) (H : ai) :
 Pj call rs d L vs K (x,H)=HN call rs (x::L) (wr vs d x) H K:=(rfl)
@[go_sem] theorem XE {β : Type} (call : aQ) (L vs : List D) (H : ai) (K : List D → List D → ai → Option β) : HN call [] L vs H K = K L vs H := (rfl)
@[go_sem] theorem UJ {β : Type} (call : aQ) (o : O) (d : Option Nat) (rs : List R) (L vs : List D) (H : ai) (K : List D → List D → ai → Option β) :
 HN call (⟨o,d,none⟩::rs) L vs H K=(evO call (X.get vs L) H o).bind (Pj call rs d L vs K):=by
 simp[HN,evR,b7,Option.bind_assoc]
 rfl
def gate{β:Type}(c:Option D)(w:Bool)(a b:Option β):Option β:=match c with
 | some (.t (.bool x))=>if x=w then a else b
 | some (.tup [])=>b
 | _=>none
@[congr] theorem Se {β : Type} {c c' : Option D} {w : Bool} {a b : Option β} (h : True → c = c') : gate c w a b = gate c' w a b := by rw [h trivial]
@[go_sem] theorem XF {β : Type} (p : Prop) [Decidable p] (a b : Option β) : gate (some (.t (.bool (decide p)))) true a b = if p then a else b := by
 by_cases h:p<;>simp[gate,h]
@[go_sem] theorem UK {β : Type} (p : Prop) [Decidable p] (a b : Option β) : gate (some (.t (.bool (decide p)))) false a b = if p then b else a := by
 by_cases h:p<;>simp[gate,h]
@[go_sem] theorem UL {β : Type} (x : Bool) (a b : Option β) : gate (some (.t (.bool x))) true a b = if x = true then a else b := (rfl)
@[go_sem] theorem Sf {β : Type} (x : Bool) (a b : Option β) : gate (some (.t (.bool x))) false a b = if x = true then b else a := by cases x <;> rfl
@[go_sem] theorem UM {β : Type} (w : Bool) (a b : Option β) : gate (some (.tup [])) w a b = b := (rfl)
@[go_sem] theorem UN {β : Type} (call : aQ) (o : O) (d : Option Nat) (k : Nat) (w : Bool) (rs : List R) (L vs : List D) (H : ai) (K : List D → List D → ai → Option β) :
 HN call (⟨o,d,some (k,w)⟩::rs) L vs H K=gate L[k]? w ((evO call (X.get vs L) H o).bind (Pj call rs d L vs K)) (HN call rs (.tup []::L) (wr vs d (.tup [])) H K):=by
 simp only[HN,evR,b7]
 cases hL:L[k]? with
 | none=>simp[gate]
 | some c=>
   simp only[Option.bind_some]
   cases c with
   | t x=>
     cases x with
     | bool b=>cases b<;>cases w<;>simp[gate,Option.bind_assoc]<;>rfl
     | _=>simp[gate]
   | tup ds=>
     cases ds with
     | nil=>simp[gate]
     | cons=>simp[gate]
   | _=>simp[gate]
open Classical in
noncomputable def vP{β:Type}(p:Prop)(x:Option β):Option β:=if p then x else none
@[go_sem] theorem Pk {β : Type} (x : Option β) : vP True x = x := by simp [vP]
noncomputable def B2{β:Type}(call:aQ)(all:List R)(n:Nat)(ps:List (Nat×Nat))(rs:List R)(L vs:List D)(H:ai)(acc:List Tr)(K:List D→List D→ai→Option β):Option β:=
 (evR call rs L vs H).bind fun q=>vP (qc call all n ((trace call rs L vs H).reverse++acc) ps) (K q.1 q.2.1 q.2.2)
noncomputable def IL{β:Type}(call:aQ)(all:List R)(n:Nat)(ps:List (Nat×Nat))(rs:List R)(d:Option Nat)(L vs:List D)(H:ai)(acc:List Tr)(K:List D→List D→ai→Option β)(p:D×ai):Option β:=
 B2 call all n ps rs (p.1::L) (wr vs d p.1) p.2 ((L,vs,H)::acc) K
@[go_sem] theorem XG {β : Type} (call : aQ) (all : List R) (n : Nat) (ps : List (Nat × Nat)) (rs : List R) (d : Option Nat) (L vs : List D) (H : ai) (acc : List Tr) (K : List D → List D → ai → Option β) (x : D) (H' : ai) :
 IL call all n ps rs d L vs H acc K (x,H')=B2 call all n ps rs (x::L) (wr vs d x) H' ((L,vs,H)::acc) K:=(rfl)
@[go_sem] theorem XH {β : Type} (call : aQ) (all : List R) (n : Nat) (ps : List (Nat × Nat)) (L vs : List D) (H : ai) (acc : List Tr) (K : List D → List D → ai → Option β) :
 B2 call all n ps [] L vs H acc K=vP (qc call all n ((L,vs,H)::acc) ps) (K L vs H):=by
 simp[B2,evR,trace]
theorem B3{β:Type}(call:aQ)(all:List R)(n:Nat)(ps:List (Nat×Nat))(r:R)(rs:List R)(L vs:List D)(H:ai)(acc:List Tr)(K:List D→List D→ai→Option β):
 B2 call all n ps (r::rs) L vs H acc K=(b7 L r.g).bind fun w=>
  if w then(evO call (X.get vs L) H r.o).bind (IL call all n ps rs r.d L vs H acc K)else B2 call all n ps rs (.tup []::L) (wr vs r.d (.tup [])) H ((L,vs,H)::acc) K:=by
 obtain hw | ⟨w,hw⟩:b7 L r.g=none∨∃w,b7 L r.g=some w:=by cases b7 L r.g<;>simp
 · simp[B2,evR,trace,hw]
 · cases w with
   | true=>
     obtain hq | ⟨q,hq⟩:evO call (X.get vs L) H r.o=none∨∃q,evO call (X.get vs L) H r.o=some q:=by cases evO call (X.get vs L) H r.o<;>simp
     · simp[B2,evR,trace,hw,hq]
     · simp[B2,evR,trace,hw,hq,IL]
   | false=>simp[B2,evR,trace,hw]
@[go_sem] theorem UO {β : Type} (call : aQ) (all : List R) (n : Nat) (ps : List (Nat × Nat)) (o : O) (d : Option Nat) (rs : List R) (L vs : List D) (H : ai) (acc : List Tr) (K : List D → List D → ai → Option β) :
 B2 call all n ps (⟨o,d,none⟩::rs) L vs H acc K=(evO call (X.get vs L) H o).bind (IL call all n ps rs d L vs H acc K):=by
 rw[B3];simp[b7]
@[go_sem] theorem UP {β : Type} (call : aQ) (all : List R) (n : Nat) (ps : List (Nat × Nat)) (o : O) (d : Option Nat) (k : Nat) (w : Bool) (rs : List R) (L vs : List D) (H : ai) (acc : List Tr) (K : List D → List D → ai → Option β) :
 B2 call all n ps (⟨o,d,some (k,w)⟩::rs) L vs H acc K=
  gate L[k]? w ((evO call (X.get vs L) H o).bind (IL call all n ps rs d L vs H acc K)) (B2 call all n ps rs (.tup []::L) (wr vs d (.tup [])) H ((L,vs,H)::acc) K):=by
 rw[B3]
 simp only[b7]
 cases hL:L[k]? with
 | none=>simp[gate]
 | some c=>
   simp only[Option.bind_some]
   cases c with
   | t x=>
     cases x with
     | bool b=>cases b<;>cases w<;>simp[gate]
     | _=>simp[gate]
   | tup ds=>
     cases ds with
     | nil=>simp[gate]
     | cons=>simp[gate]
   | _=>simp[gate]
def wJ(call:aQ):Option R→Option Tr→Option Tr→Option Tr→Prop
 | some r,some s,some a,some s'=>(match r.o with
   | .al _ _=>a.2.2[s.2.2.length]?=s'.2.2[s.2.2.length]?
   | .bs xs _=>b7 s.1 r.g=some false∨((bL (X.get s.2.1 s.1) xs).bind oQ).isSome=true
   | o=>rU o=true∧(b7 s.1 r.g=some false∨zy (evO call (X.get s.2.1 s.1) a.2.2 o)=zy (evO call (X.get s.2.1 s.1) s.2.2 o)))
 | _,_,_,_=>False
@[go_sem] theorem Sg (call : aQ) (all : List R) (n : Nat) (acc : List Tr) : qc call all n acc [] = True := (rfl)
@[go_sem] theorem Pl (call : aQ) (all : List R) (n : Nat) (acc : List Tr) (p m : Nat) (r : List (Nat × Nat)) :
 qc call all n acc ((p,m)::r)=(wJ call all[p]? acc[n-p]? acc[n-m]? acc[n-(p+1)]?∧m≤n∧qc call all n acc r):=by
 simp only[qc,Ph,wJ]
 try rfl
section
variable (call : aQ) (d : Option Nat) (gd : Option (Nat × Bool)) (L vs L' vs' : List D) (H H' : ai) (s' : Tr)
@[go_sem] theorem XI (x : X) (n : Nat) (agg : Bool) : wJ call (some ⟨.ld x n agg, d, gd⟩) (some (L, vs, H)) (some (L', vs', H')) (some s') =
 (b7 L gd=some false∨zy (evO call (X.get vs L) H' (.ld x n agg))=zy (evO call (X.get vs L) H (.ld x n agg))):=by simp[wJ,rU]
@[go_sem] theorem XJ (x i : X) (sz : Nat) : wJ call (some ⟨.ia x i sz, d, gd⟩) (some (L, vs, H)) (some (L', vs', H')) (some s') =
 (b7 L gd=some false∨zy (evO call (X.get vs L) H' (.ia x i sz))=zy (evO call (X.get vs L) H (.ia x i sz))):=by simp[wJ,rU]
@[go_sem] theorem XK (x : X) (lo hi : Option X) (sz : Nat) : wJ call (some ⟨.sc x lo hi sz, d, gd⟩) (some (L, vs, H)) (some (L', vs', H')) (some s') =
 (b7 L gd=some false∨zy (evO call (X.get vs L) H' (.sc x lo hi sz))=zy (evO call (X.get vs L) H (.sc x lo hi sz))):=by simp[wJ,rU]
@[go_sem] theorem UQ (x : X) (z : T) (sz : Nat) : wJ call (some ⟨.mkt x z sz, d, gd⟩) (some (L, vs, H)) (some (L', vs', H')) (some s') =
 (b7 L gd=some false∨zy (evO call (X.get vs L) H' (.mkt x z sz))=zy (evO call (X.get vs L) H (.mkt x z sz))):=by simp[wJ,rU]
@[go_sem] theorem XL (z : List D) (l : List (Nat × Nat)) (L2 vs2 : List D) (H2 : ai) : wJ call (some ⟨.al z l, d, gd⟩) (some (L, vs, H)) (some (L', vs', H')) (some (L2, vs2, H2)) = (H'[H.length]? = H2[H.length]?) := (rfl)
@[go_sem] theorem XM (xs : List X) (sz : Nat) : wJ call (some ⟨.bs xs sz, d, gd⟩) (some (L, vs, H)) (some (L', vs', H')) (some s') =
 (b7 L gd=some false∨((bL (X.get vs L) xs).bind oQ).isSome=true):=(rfl)
@[go_sem] theorem Nk (L : List D) : b7 L none = some true := (rfl)
def Pm(w:Bool):Option D→Option Bool
 | some (.t (.bool b))=>some (b==w)
 | some (.tup [])=>some false
 | _=>none
@[go_sem] theorem Si (w b : Bool) : Pm w (some (.t (.bool b))) = some (b == w) := (rfl)
@[go_sem] theorem UR (w : Bool) : Pm w (some (.tup [])) = some false := (rfl)
@[go_sem] theorem Nl (L : List D) (k : Nat) (w : Bool) : b7 L (some (k, w)) = Pm w L[k]? := by
 simp only[b7]
 cases L[k]? with
 | none=>rfl
 | some c=>cases c with
   | t x=>cases x<;>rfl
   | tup ds=>cases ds<;>rfl
   | _=>rfl
@[go_sem] theorem US (x : D) : zy (some (x, H)) = some x := (rfl)
attribute [go_sem] beq_true beq_false or_true true_or or_self
end
theorem Fi(call:aQ)(rs:List R)(vs:List D)(H:ai):KJ call rs [] vs H=evR call rs [] vs H:=by
 simp[KJ,qc]
def ZW(L vs:List D)(H:ai):Option (Ex×St):=some (.normal,⟨vs,H⟩)
noncomputable def ZX(call:aQ)(k:Nat)(a b:C)(L vs:List D)(H:ai):Option (Ex×St):=fL L[k]? (exS call a ⟨vs,H⟩) (exS call b ⟨vs,H⟩)
@[go_sem] theorem ZY (L vs : List D) (H : ai) : ZW L vs H = some (.normal, ⟨vs, H⟩) := (rfl)
@[go_sem] theorem ZZ (call : aQ) (k : Nat) (a b : C) (L vs : List D) (H : ai) : ZX call k a b L vs H = fL L[k]? (exS call a ⟨vs, H⟩) (exS call b ⟨vs, H⟩) := (rfl)
def andThen(x:Option (Ex×St))(k:St→Option (Ex×St)):Option (Ex×St):=x.bind fun p=>fS p k
@[go_sem] theorem KK (st : St) (k : St → Option (Ex × St)) : andThen (some (.normal, st)) k = k st := (rfl)
@[go_sem] theorem Pn (st : St) (k : St → Option (Ex × St)) : andThen (some (.ret, st)) k = some (.ret, st) := (rfl)
@[go_sem] theorem Nn (i : Nat) (st : St) (k : St → Option (Ex × St)) : andThen (some (.exit i, st)) k = some (.exit i, st) := (rfl)
@[go_sem] theorem No (k : St → Option (Ex × St)) : andThen none k = none := (rfl)
@[go_sem] theorem andThen_ite (c : Prop) [Decidable c] (a b : Option (Ex × St)) (k : St → Option (Ex × St)) : andThen (if c then a else b) k = if c then andThen a k else andThen b k := by
 split<;>rfl
@[go_sem] theorem XN (call : aQ) (st : St) : exS call .skip st = some (.normal, st) := (rfl)
@[go_sem] theorem Z0 (call : aQ) (rs : List R) (vs : List D) (H : ai) : exS call (.reg rs []) ⟨vs, H⟩ = HN call rs [] vs H ZW := by
 simp only[exS,Fi,HN]
 cases evR call rs [] vs H<;>rfl
@[go_sem] theorem XO (call : aQ) (rs : List R) (p : Nat × Nat) (ps : List (Nat × Nat)) (vs : List D) (H : ai) :
 exS call (.reg rs (p::ps)) ⟨vs,H⟩=B2 call rs rs.length (p::ps) rs [] vs H [] ZW:=by
 simp only[exS,KJ,B2,List.append_nil]
 by_cases h:qc call rs rs.length (trace call rs [] vs H).reverse (p::ps)
 · rw[if_pos h]
   simp only[vP,if_pos h]
   cases evR call rs [] vs H<;>rfl
 · rw[if_neg h]
   simp only[vP,if_neg h]
   cases evR call rs [] vs H<;>rfl
@[go_sem] theorem Z1 (call : aQ) (a b : C) (st : St) : exS call (.seq a b) st = andThen (exS call a st) (exS call b) := (rfl)
@[go_sem] theorem Z2 (call : aQ) (rs : List R) (k : Nat) (a b : C) (vs : List D) (H : ai) : exS call (.ite rs [] k a b) ⟨vs, H⟩ = HN call rs [] vs H (ZX call k a b) := by
 simp only[exS,Fi,HN]
 cases evR call rs [] vs H<;>rfl
@[go_sem] theorem XP (call : aQ) (rs : List R) (p : Nat × Nat) (ps : List (Nat × Nat)) (k : Nat) (a b : C) (vs : List D) (H : ai) :
 exS call (.ite rs (p::ps) k a b) ⟨vs,H⟩=B2 call rs rs.length (p::ps) rs [] vs H [] (ZX call k a b):=by
 simp only[exS,KJ,B2,List.append_nil]
 by_cases h:qc call rs rs.length (trace call rs [] vs H).reverse (p::ps)
 · rw[if_pos h]
   simp only[vP,if_pos h]
   cases evR call rs [] vs H<;>rfl
 · rw[if_neg h]
   simp only[vP,if_neg h]
   cases evR call rs [] vs H<;>rfl
@[go_sem] theorem Z3 (call : aQ) (rs : List R) (ps : List (Nat × Nat)) (k : Nat) (a b c : C) (st : St) : exS call (.its rs ps k a b c) st = andThen (exS call (.ite rs ps k a b) st) (exS call c) := (rfl)
@[go_sem] theorem Z4 (call : aQ) (rs : List R) (ps : List (Nat × Nat)) (k : Nat) (a b c : C) (st : St) : exS call (.itk rs ps k a b c) st = exS call (.ite rs ps k (.seq a c) (.seq b c)) st := (rfl)
@[go_sem] theorem Z5 (call : aQ) (j : Nat) (a b : C) (vs : List D) (H : ai) : exS call (.itv j a b) ⟨vs, H⟩ = fL vs[j]? (exS call a ⟨vs, H⟩) (exS call b ⟨vs, H⟩) := (rfl)
@[go_sem] theorem XQ (call : aQ) (id : Nat) (st : St) : exS call (.exit id) st = some (.exit id, st) := (rfl)
@[go_sem] theorem Z6 (call : aQ) (st : St) : exS call .ret st = some (.ret, st) := (rfl)
@[go_sem] theorem XR (call : aQ) (st : St) : exS call .fail st = none := (rfl)
@[go_sem] theorem Z7 (call : aQ) (v : Bool) (c : C) (st : St) : exS call (.cnd v c) st = exS call c st := (rfl)
def xW(id:Nat)(x:Option (Ex×St)):Option (Ex×St):=x.map (leave id)
@[go_sem] theorem Z8 (call : aQ) (id : Nat) (c : C) (st : St) : exS call (.blk id c) st = xW id (exS call c st) := (rfl)
@[go_sem] theorem Np (id : Nat) (st : St) : xW id (some (.normal, st)) = some (.normal, st) := by simp [xW, leave]
@[go_sem] theorem UT (id : Nat) (st : St) : xW id (some (.ret, st)) = some (.ret, st) := by simp [xW, leave]
@[go_sem] theorem Sj (id i : Nat) (st : St) : xW id (some (.exit i, st)) = if i = id then some (.normal, st) else some (.exit i, st) := by
 simp only[xW,leave,Option.map_some,Ex.exit.injEq]
 split<;>rfl
@[go_sem] theorem Sk (id : Nat) : xW id none = none := (rfl)
@[go_sem] theorem UU (id : Nat) (c : Prop) [Decidable c] (a b : Option (Ex × St)) : xW id (if c then a else b) = if c then xW id a else xW id b := by
 split<;>rfl
@[congr] theorem Po {c c' : Option D} {a b : Option (Ex × St)} (h : True → c = c') : fL c a b = fL c' a b := by rw [h trivial]
@[go_sem] theorem UW (p : Prop) [Decidable p] (a b : Option (Ex × St)) : fL (some (.t (.bool (decide p)))) a b = if p then a else b := by
 by_cases h:p<;>simp[fL,h]
@[go_sem] theorem Sl (p : Prop) [Decidable p] (a b : Option (Ex × St)) : fL (some (.t (.bool (!decide p)))) a b = if p then b else a := by
 by_cases h:p<;>simp[fL,h]
@[go_sem] theorem XT (a : Option (Ex × St)) : fL (some .ub) a a = a := by simp [fL]
@[go_sem] theorem Sm (x : Bool) (a b : Option (Ex × St)) : fL (some (.t (.bool x))) a b = if x = true then a else b := (rfl)
def eO(gc:Bool)(dead:List Nat)(k:Nat)(x:Option (Ex×St)):Option St:=x.bind fun p=>match p.1 with
 | .normal=>tidy gc dead k p.2
 | _=>none
@[go_sem] theorem Lu (gc : Bool) (dead : List Nat) (k : Nat) (st : St) : eO gc dead k (some (.normal, st)) = tidy gc dead k st := (rfl)
@[go_sem] theorem Sn (gc : Bool) (dead : List Nat) (k : Nat) (c : Prop) [Decidable c] (a b : Option (Ex × St)) : eO gc dead k (if c then a else b) = if c then eO gc dead k a else eO gc dead k b := by
 split<;>rfl
theorem jK{gc:Bool}{dead:List Nat}{body:St→Option (Ex×St)}{st st2:St}(h:eO gc dead st.H.length (body st)=some st2)
 {p:Ex×St} (h2:lX gc dead body st2=some p):lX gc dead body st=some p:=by
 unfold eO at h
 obtain⟨⟨e,st1⟩,hq,h⟩:=Option.bind_eq_some_iff.1 h
 cases e with
 | normal=>exact zw hq h h2
 | ret=>cases h
 | exit=>cases h
theorem w9{gc:Bool}{dead:List Nat}{body:St→Option (Ex×St)}(s:Nat→St){p:Ex×St}(n:Nat)
 (h:∀j,j<n→eO gc dead (s j).H.length (body (s j))=some (s (j+1))) (he:lX gc dead body (s n)=some p):lX gc dead body (s 0)=some p:=by
 have:=vN (s:=s) n 0 (fun j _ hj=>by
  have h:=h j (by omega)
  unfold eO at h
  obtain⟨⟨e,st1⟩,hq,h⟩:=Option.bind_eq_some_iff.1 h
  cases e with
  | normal=>exact⟨st1,hq,h⟩
  | ret=>cases h
  | exit=>cases h) (by simpa using he)
 exact this
def XU(res:List (Nat×Option (Nat×Bool)))(k raw:Nat)(p:Ex×St):Option (D×ai):=match p.1 with
 | .exit _=>none
 | _=>(iw p.2 res).bind (finish k raw p.2.H)
@[go_sem] theorem XV (res : List (Nat × Option (Nat × Bool))) (k raw : Nat) (vs : List D) (H : ai) : XU res k raw (.ret, ⟨vs, H⟩) = (iw ⟨vs, H⟩ res).bind (finish k raw H) := (rfl)
@[go_sem] theorem Pp (res : List (Nat × Option (Nat × Bool))) (k raw : Nat) (vs : List D) (H : ai) : XU res k raw (.normal, ⟨vs, H⟩) = (iw ⟨vs, H⟩ res).bind (finish k raw H) := (rfl)
theorem Pq{fs:Nat→Option Fn}{raw f:Nat}{args:List D}{H:ai}{fn:Fn}{r:D×ai}(hf:fs f=some fn)(hn:fn.nargs=args.length)
 (h:(exS (nE fs) fn.body ⟨rQ args fn.vars,H⟩).bind (XU fn.res H.length raw)=some r) (h0:fn.prim=[]:=by rfl):nE fs raw f args H=some r:=by
 obtain⟨p,hp,he⟩:=Option.bind_eq_some_iff.1 h
 exact Lo hf hn (Lt _ _ _ hp) he h0
@[go_sem] theorem XW {α β : Type} (c : Prop) [Decidable c] (a b : Option α) (k : α → Option β) : (if c then a else b).bind k = if c then a.bind k else b.bind k := by
 split<;>rfl
@[go_sem] theorem Z9 {α β : Type} (c : Prop) [Decidable c] (a b : Option α) (k : α → β) : (if c then a else b).map k = if c then a.map k else b.map k := by
 split<;>rfl
theorem UX(a b:Int):(a==b)=decide (a=b):=by rw[Bool.eq_iff_iff];simp
theorem uX{n:Int}(h1: -9223372036854775808≤n)(h2:n≤9223372036854775807):IntKind.i64.wrap n=n:=by
 have e:IntKind.i64.wrap n=if n % 18446744073709551616≥9223372036854775808 then n % 18446744073709551616-18446744073709551616 else n % 18446744073709551616:=by
  simp[IntKind.wrap,IntKind.signed,IntKind.bits]
 rw[e];split<;>omega
section
variable {α β : Type}
@[go_sem] theorem Pr (a : α) (f : α → Option β) : (some a).bind f = f a := (rfl)
@[go_sem] theorem Sp (a : α) (f : α → β) : (some a).map f = some (f a) := (rfl)
@[go_sem] theorem Ps (f : α → Option β) : (none : Option α).bind f = none := (rfl)
@[go_sem] theorem Sq (f : α → β) : (none : Option α).map f = none := (rfl)
@[go_sem] theorem Sr (a : α) (l : List α) (f : α → β) : (a :: l).map f = f a :: l.map f := (rfl)
@[go_sem] theorem UY (f : α → β) : ([] : List α).map f = [] := (rfl)
@[go_sem] theorem Ss (a : α) (l : List α) : (a :: l)[0]? = some a := (rfl)
@[go_sem] theorem Su (a : α) (l : List α) (n : Nat) : (a :: l)[n + 1]? = l[n]? := (rfl)
@[go_sem] theorem Pt (a d : α) (l : List α) : (a :: l).getD 0 d = a := (rfl)
@[go_sem] theorem Pu (a d : α) (l : List α) (n : Nat) : (a :: l).getD (n + 1) d = l.getD n d := (rfl)
@[go_sem] theorem Sv (d : α) (n : Nat) : ([] : List α).getD n d = d := by simp
@[go_sem] theorem Sw (a b : α) (l : List α) : (a :: l).set 0 b = b :: l := (rfl)
@[go_sem] theorem Sx (a b : α) (l : List α) (n : Nat) : (a :: l).set (n + 1) b = a :: l.set n b := (rfl)
@[go_sem] theorem Lv (a : α) (l m : List α) : (a :: l) ++ m = a :: (l ++ m) := (rfl)
@[go_sem] theorem Nq (l : List α) : [] ++ l = l := (rfl)
@[go_sem] theorem Nr (l : List α) : l ++ [] = l := by simp
@[go_sem] theorem KL (a : α) (l : List α) (f : α → List β) : (a :: l).flatMap f = f a ++ l.flatMap f := by simp
@[go_sem] theorem Lw (f : α → List β) : ([] : List α).flatMap f = [] := by simp
@[go_sem] theorem Ns : ([] : List α).length = 0 := (rfl)
@[go_sem] theorem Lx (a : α) (l : List α) : (a :: l).length = l.length + 1 := (rfl)
@[go_sem] theorem Nt (l : List α) (f : α → β) : (l.map f).length = l.length := by simp
@[go_sem] theorem IM (l m : List α) : (l ++ m).length = l.length + m.length := by simp
@[go_sem] theorem Fj (n : Nat) (a : α) : (List.replicate n a).length = n := by simp
@[go_sem] theorem Nu (l : List α) (i : Nat) (a : α) : (l.set i a).length = l.length := by simp
@[go_sem] theorem Pv (l : List α) : l.drop 0 = l := (rfl)
@[go_sem] theorem Pw (a : α) (l : List α) (n : Nat) : (a :: l).drop (n + 1) = l.drop n := (rfl)
@[go_sem] theorem Sy (n : Nat) : ([] : List α).drop n = [] := by simp
@[go_sem] theorem Px (l : List α) : l.take 0 = [] := (rfl)
@[go_sem] theorem Py (a : α) (l : List α) (n : Nat) : (a :: l).take (n + 1) = a :: l.take n := (rfl)
@[go_sem] theorem Sz (n : Nat) : ([] : List α).take n = [] := by simp
@[go_sem] theorem Pz (a b : α) : (bif true then a else b) = a := (rfl)
@[go_sem] theorem Nv (a b : α) : (bif false then a else b) = b := (rfl)
@[go_sem] theorem SA (n : Nat) : n + 0 = n := (rfl)
@[go_sem] theorem SB (n : Nat) : 0 + n = n := by simp
@[go_sem] theorem SC (a b : α) : (some a = some b) = (a = b) := by simp
@[go_sem] theorem XX (a : α) : (some a).isSome = true := (rfl)
end
attribute [go_sem] decide_true decide_false if_true if_false Bool.false_eq_true Bool.true_eq_false decide_eq_true_eq decide_eq_false_iff_not Bool.and_eq_true Bool.or_eq_true Bool.not_eq_true' Bool.not_eq_true Bool.not_eq_false
 Bool.and_true Bool.true_and Bool.and_false Bool.false_and Bool.or_true Bool.true_or Bool.or_false Bool.false_or and_true true_and and_self not_true_eq_false not_false_eq_true beq_iff_eq bne_iff_ne ne_eq
@[go_sem] theorem SD : (!true) = false := (rfl)
@[go_sem] theorem PA : (!false) = true := (rfl)
@[go_sem] theorem adG (vs L : List D) (j : Nat) : X.get vs L (.v j) = vs[j]? := (rfl)
@[go_sem] theorem adH (vs L : List D) (k : Nat) : X.get vs L (.l k) = L[k]? := (rfl)
@[go_sem] theorem adI (vs L : List D) (d : D) : X.get vs L (.c d) = some d := (rfl)
@[go_sem] theorem adJ (vs L : List D) (n : Int) : X.get vs L (.i n) = some (I n) := (rfl)
@[go_sem] theorem adK (vs L : List D) (x : Bool) : X.get vs L (.b x) = some (B x) := (rfl)
@[go_sem] theorem aaa (vs : List D) (x : D) : wr vs none x = vs := (rfl)
@[go_sem] theorem aab (vs : List D) (s : Nat) (x : D) : wr vs (some s) x = vs.set s x := (rfl)
@[go_sem] theorem SE (args : List D) : rQ args [] = [] := (rfl)
@[go_sem] theorem PB (args : List D) (s : Nat) (r : List Nat) : rQ args (s :: r) = args.getD s .und :: rQ args r := (rfl)
def aac(H:ai)(d:D):Option (D×ai):=some (d,H)
@[go_sem] theorem aad (H : ai) (d : D) : aac H d = some (d, H) := (rfl)
def kG{α:Type}(a:α)(l:Option (List α)):Option (List α):=l.map (a:: ·)
@[go_sem] theorem SF {α : Type} (a : α) (l : List α) : kG a (some l) = some (a :: l) := (rfl)
@[go_sem] theorem SG {α : Type} (a : α) : kG a none = none := (rfl)
@[go_sem] theorem XY {α β : Type} (f : α → Option β) : bL f [] = some [] := (rfl)
def acE{α β:Type}(f:α→Option β)(r:List α)(y:β):Option (List β):=kG y (bL f r)
@[go_sem] theorem PC {α β : Type} (f : α → Option β) (r : List α) (y : β) : acE f r y = kG y (bL f r) := (rfl)
@[go_sem] theorem B4 {α β : Type} (f : α → Option β) (x : α) (r : List α) : bL f (x :: r) = (f x).bind (acE f r) := (rfl)
section
variable (call : aQ) (get : X → Option D) (H : ai)
@[go_sem] theorem adL (x : X) : evO call get H (.mv x) = (get x).bind (aac H) := by simp only [evO]; cases get x <;> rfl
def XZ(c a b:Option D):Option (D×ai):=c.bind fun c=>a.bind fun a=>b.bind fun b=>(La c a b).map fun d=>(d,H)
@[go_sem] theorem adM (c a b : X) : evO call get H (.pk c a b) = XZ H (get c) (get a) (get b) := (rfl)
@[go_sem] theorem UZ (x p q : Bool) : XZ H (some (.t (.bool x))) (some (.t (.bool p))) (some (.t (.bool q))) = some (.t (.bool (bif x then p else q)), H) := by cases x <;> rfl
@[go_sem] theorem U0 (a b : D) : XZ H (some (.t (.bool true))) (some a) (some b) = some (a, H) := (rfl)
@[go_sem] theorem SI (a b : D) : XZ H (some (.t (.bool false))) (some a) (some b) = some (b, H) := (rfl)
@[go_sem] theorem X0 (x p : Bool) : (bif x then p else false) = (x && p) := by cases x <;> rfl
@[go_sem] theorem aae (x q : Bool) : (bif x then true else q) = (x || q) := by cases x <;> rfl
def iU(f:BinOp)(x y:Option D):Option (D×ai):=x.bind fun a=>y.bind fun b=>(zi f a b).map fun d=>(d,H)
@[go_sem] theorem acF (f : BinOp) (x y : X) : evO call get H (.bin f x y) = iU H f (get x) (get y) := (rfl)
section
variable (k j : IntKind) (a b : Int)
@[go_sem] theorem U1 : iU H .add (some (.t (.int k a))) (some (.t (.int k b))) = some (.t (.int k (k.wrap (a + b))), H) := by simp [iU, zi, Dg]
@[go_sem] theorem U2 : iU H .sub (some (.t (.int k a))) (some (.t (.int k b))) = some (.t (.int k (k.wrap (a - b))), H) := by simp [iU, zi, Dg]
@[go_sem] theorem U3 : iU H .mul (some (.t (.int k a))) (some (.t (.int k b))) = some (.t (.int k (k.wrap (a * b))), H) := by simp [iU, zi, Dg]
@[go_sem] theorem U4 : iU H .quo (some (.t (.int k a))) (some (.t (.int k b))) = if b = 0 then none else some (.t (.int k (k.wrap (a.tdiv b))), H) := by simp only [iU, zi, Dg]; by_cases h : b = 0 <;> simp [h]
@[go_sem] theorem U5 : iU H .rem (some (.t (.int k a))) (some (.t (.int k b))) = if b = 0 then none else some (.t (.int k (a.tmod b)), H) := by simp only [iU, zi, Dg]; by_cases h : b = 0 <;> simp [h]
@[go_sem] theorem U6 : iU H .eql (some (.t (.int k a))) (some (.t (.int k b))) = some (.t (.bool (decide (a = b))), H) := by simp [iU, zi, Dg, UX]
@[go_sem] theorem U7 : iU H .neq (some (.t (.int k a))) (some (.t (.int k b))) = some (.t (.bool (decide (¬ a = b))), H) := by simp [iU, zi, Dg, bne, UX]
@[go_sem] theorem U8 : iU H .lss (some (.t (.int k a))) (some (.t (.int k b))) = some (.t (.bool (decide (a < b))), H) := by simp [iU, zi, Dg]
@[go_sem] theorem U9 : iU H .leq (some (.t (.int k a))) (some (.t (.int k b))) = some (.t (.bool (decide (a ≤ b))), H) := by simp [iU, zi, Dg]
@[go_sem] theorem Va : iU H .gtr (some (.t (.int k a))) (some (.t (.int k b))) = some (.t (.bool (decide (b < a))), H) := by simp [iU, zi, Dg]
@[go_sem] theorem Vb : iU H .geq (some (.t (.int k a))) (some (.t (.int k b))) = some (.t (.bool (decide (b ≤ a))), H) := by simp [iU, zi, Dg]
@[go_sem] theorem Vc (h : 0 ≤ b) : iU H .shl (some (.t (.int k a))) (some (.t (.int j b))) = some (.t (.int k (k.wrap (a * 2 ^ min b.toNat k.bits))), H) := by simp [iU, zi, zh, Int.not_lt.2 h]
@[go_sem] theorem Vd (h : 0 ≤ b) : iU H .shr (some (.t (.int k a))) (some (.t (.int j b))) = some (.t (.int k (a.fdiv (2 ^ min b.toNat k.bits))), H) := by simp [iU, zi, zh, Int.not_lt.2 h]
@[go_sem] theorem Ve : iU H .and (some (.t (.int k a))) (some (.t (.int k b))) = some (.t (.int k (k.wrap (BitVec.ofInt k.bits a &&& BitVec.ofInt k.bits b).toNat)), H) := by simp [iU, zi, Dg]
@[go_sem] theorem X1 : iU H .or (some (.t (.int k a))) (some (.t (.int k b))) = some (.t (.int k (k.wrap (BitVec.ofInt k.bits a ||| BitVec.ofInt k.bits b).toNat)), H) := by simp [iU, zi, Dg]
@[go_sem] theorem Vf : iU H .xor (some (.t (.int k a))) (some (.t (.int k b))) = some (.t (.int k (k.wrap (BitVec.ofInt k.bits a ^^^ BitVec.ofInt k.bits b).toNat)), H) := by simp [iU, zi, Dg]
def aaf(f:UnOp)(a:D):Option (D×ai):=(unD f a).map fun d=>(d,H)
@[go_sem] theorem adN (f : UnOp) (x : X) : evO call get H (.un f x) = (get x).bind (aaf H f) := (rfl)
@[go_sem] theorem X2 (x : Bool) : aaf H .not (.t (.bool x)) = some (.t (.bool (!x)), H) := (rfl)
@[go_sem] theorem X3 : aaf H .neg (.t (.int k a)) = some (.t (.int k (k.wrap (0 - a))), H) := (rfl)
def acG(k:IntKind)(a:D):Option (D×ai):=(OJ k a).map fun d=>(d,H)
@[go_sem] theorem adO (x : X) : evO call get H (.cv k x) = (get x).bind (acG H k) := (rfl)
@[go_sem] theorem X4 : acG H k (.t (.int j a)) = some (.t (.int k (k.wrap a)), H) := (rfl)
end
def qv(q:EqK)(neg:Bool)(x y:Option D):Option (D×ai):=x.bind fun a=>y.bind fun b=>(Nd q neg a b).map fun d=>(d,H)
@[go_sem] theorem acH (q : EqK) (neg : Bool) (x y : X) : evO call get H (.eqk q neg x y) = qv H q neg (get x) (get y) := (rfl)
@[go_sem] theorem SJ (x y : Bool) : qv H .bool false (some (.t (.bool x))) (some (.t (.bool y))) = some (.t (.bool (x == y)), H) := (rfl)
@[go_sem] theorem PD (x y : Bool) : qv H .bool true (some (.t (.bool x))) (some (.t (.bool y))) = some (.t (.bool (!(x == y))), H) := (rfl)
def Nw:List T→List T→Bool
 | .int _ a::xs,.int _ b::ys=>decide (a=b)&&Nw xs ys
 | _,_=>true
def GF:Nat→List T→List T→Bool
 | 0,[],[]=>true
 | n+1,.int j _::xs,.int k _::ys=>decide (j=k)&&GF n xs ys
 | _,_,_=>false
@[go_sem] theorem Vg (k j : IntKind) (a b : Int) (xs ys : List T) : Nw (.int k a :: xs) (.int j b :: ys) = (decide (a = b) && Nw xs ys) := (rfl)
@[go_sem] theorem X5 : Nw [] [] = true := (rfl)
@[go_sem] theorem X6 : GF 0 [] [] = true := (rfl)
@[go_sem] theorem Vh (n : Nat) (k : IntKind) (a b : Int) (xs ys : List T) : GF (n + 1) (.int k a :: xs) (.int k b :: ys) = GF n xs ys := by simp [GF]
theorem xX:∀ {n:Nat} {xs ys:List T},GF n xs ys=true→xs.length=n∧lM xs ys=some (Nw xs ys)
 | 0,[],[],_=>⟨rfl,rfl⟩
 | 0,[],_::_,h=>by simp[GF]at h
 | 0,_::_,_,h=>by simp[GF]at h
 | n+1,[],_,h=>by simp[GF]at h
 | n+1,x::xs,[],h=>by cases x<;>simp[GF]at h
 | n+1,x::xs,y::ys,h=>by
   cases x<;>cases y<;>simp only[GF,Bool.and_eq_true,decide_eq_true_eq,Bool.false_eq_true]at h
   obtain⟨rfl,h⟩:=h
   obtain⟨h1,h2⟩:=xX h
   exact⟨by simp[h1],by simp[lM,h2,Nw,UX]⟩
@[go_sem] theorem SK (n : Nat) (xs ys : List T) (h : GF n xs ys = true) : qv H (.ints n) false (some (.t (.agg xs))) (some (.t (.agg ys))) = some (.t (.bool (Nw xs ys)), H) := by
 obtain⟨h1,h2⟩:=xX h;simp[qv,Nd,eqD,h1,h2]
@[go_sem] theorem PE (n : Nat) (xs ys : List T) (h : GF n xs ys = true) : qv H (.ints n) true (some (.t (.agg xs))) (some (.t (.agg ys))) = some (.t (.bool (!Nw xs ys)), H) := by
 obtain⟨h1,h2⟩:=xX h;simp[qv,Nd,eqD,h1,h2]
@[go_sem] theorem Vi : qv H .sl false (some .nil) (some .nil) = some (.t (.bool true), H) := (rfl)
@[go_sem] theorem Vj : qv H .sl false (some (.t (.sl []))) (some .nil) = some (.ub, H) := (rfl)
@[go_sem] theorem SL : qv H .sl true (some (.t (.sl []))) (some .nil) = some (.ub, H) := (rfl)
@[go_sem] theorem SM : qv H .sl true (some .nil) (some .nil) = some (.t (.bool false), H) := (rfl)
theorem xa(es:List T)(h:es≠[]):qv H .sl false (some (.t (.sl es))) (some .nil)=some (.t (.bool false),H):=by cases es<;>first | exact(h rfl).elim | rfl
def X7(a:D):Option (D×ai):=(Xy a).map fun d=>(d,H)
@[go_sem] theorem adP (x : X) : evO call get H (.nc x) = (get x).bind (X7 H) := (rfl)
@[go_sem] theorem aag (id off : Nat) : X7 H (.bp id off) = some (.bp id off, H) := (rfl)
@[go_sem] theorem aah (id ep n i off : Nat) : X7 H (.ap id ep n i off) = some (.ap id ep n i off, H) := (rfl)
@[go_sem] theorem aai (cs : List T) : X7 H (.ep cs) = some (.ep cs, H) := (rfl)
def SN(off:Nat)(a:D):Option (D×ai):=(Gm a off).map fun d=>(d,H)
@[go_sem] theorem adQ (x : X) (off : Nat) : evO call get H (.fa x off) = (get x).bind (SN H off) := (rfl)
@[go_sem] theorem aaj (id o off : Nat) : SN H off (.bp id o) = some (.bp id (o + off), H) := (rfl)
@[go_sem] theorem aak (id ep n i o off : Nat) : SN H off (.ap id ep n i o) = some (.ap id ep n i (o + off), H) := (rfl)
@[go_sem] theorem aal (cs : List T) (off : Nat) : SN H off (.ep cs) = some (.ep (cs.drop off), H) := (rfl)
@[go_sem] theorem adR (cs : List D) : cut cs 0 0 = some [] := by simp [cut]
@[go_sem] theorem adS (c : D) (cs : List D) : cut (c :: cs) 0 1 = some [c] := by simp [cut]
@[go_sem] theorem adT (c : D) (cs : List D) (n : Nat) : cut (c :: cs) 0 (n + 1) = kG c (cut cs 0 n) := by
 simp only[cut,kG];by_cases h:n≤cs.length<;>simp[h]
@[go_sem] theorem adU (c : D) (cs : List D) (off n : Nat) : cut (c :: cs) (off + 1) n = cut cs off n := by
 simp only[cut,List.length_cons,List.drop_succ_cons]
 by_cases h:off+n≤cs.length
 · rw[if_pos h,if_pos (by omega)]
 · rw[if_neg h,if_neg (by omega)]
@[go_sem] theorem Vk (c : D) : ei false [c] = some c := (rfl)
@[go_sem] theorem Vl (cs : List D) : ei true cs = some (rL cs) := (rfl)
def mkA(cs:List D):Option (List T)→D
 | some ts=> .t (.agg ts)
 | none=> .agg cs
@[go_sem] theorem X8 (cs : List D) (ts : List T) : mkA cs (some ts) = .t (.agg ts) := (rfl)
@[go_sem] theorem X9 (cs : List D) : mkA cs none = .agg cs := (rfl)
@[go_sem] theorem Ya (cs : List D) : rL cs = mkA cs (oQ cs) := by unfold rL; cases oQ cs <;> rfl
@[go_sem] theorem Yb : oQ [] = some [] := (rfl)
@[go_sem] theorem acI (x : T) (r : List D) : oQ (.t x :: r) = kG x (oQ r) := (rfl)
@[go_sem] theorem acJ (r : List D) : oQ (.nil :: r) = none := (rfl)
@[go_sem] theorem Yc (a b c : Nat) (r : List D) : oQ (.ref a b c :: r) = none := (rfl)
@[go_sem] theorem Yd (a b c d e : Nat) (r : List D) : oQ (.sub a b c d e :: r) = none := (rfl)
@[go_sem] theorem Lz (l : List T) : oQ (l.map .t) = some l := by induction l with | nil => rfl | cons a l ih => simp [oQ, ih]
def Vm(off n:Nat)(agg:Bool)(a:D):Option (D×ai):=(tn a off n agg).map fun d=>(d,H)
@[go_sem] theorem adV (x : X) (off n : Nat) (agg : Bool) : evO call get H (.fl x off n agg) = (get x).bind (Vm H off n agg) := (rfl)
def ofC(agg:Bool)(cs:Option (List D)):Option (D×ai):=(cs.bind (ei agg)).bind (aac H)
@[go_sem] theorem adW (c : D) : ofC H false (some [c]) = some (c, H) := (rfl)
@[go_sem] theorem adX (cs : List D) : ofC H true (some cs) = some (rL cs, H) := (rfl)
@[go_sem] theorem acK (cs : List T) (off n : Nat) (agg : Bool) : Vm H off n agg (.t (.agg cs)) = ofC H agg (cut (cs.map .t) off n) := by
 simp only[Vm,tn,D.isAgg,if_true,D.cells,T.cells,ofC];cases (cut (cs.map .t) off n).bind (ei agg)<;>rfl
@[go_sem] theorem Ye (cs : List D) (off n : Nat) (agg : Bool) : Vm H off n agg (.agg cs) = ofC H agg (cut cs off n) := by
 simp only[Vm,tn,D.isAgg,if_true,D.cells,ofC];cases (cut cs off n).bind (ei agg)<;>rfl
@[go_sem] theorem aam (n : Nat) : idx (n : Int) = some n := by simp [idx]
@[go_sem] theorem adY : idx 0 = some 0 := (rfl)
theorem PF{i:Int}(h:0≤i):idx i=some i.toNat:=by simp[idx,h]
def PG(sz:Nat)(x i:Option D):Option (D×ai):=x.bind fun a=>(i.bind intOf).bind fun n=>(Ae H a n sz).map fun d=>(d,H)
@[go_sem] theorem adZ (x i : X) (sz : Nat) : evO call get H (.ia x i sz) = PG H sz (get x) (get i) := (rfl)
def LA(sz:Nat)(e:T):Option (D×ai):=if e.cells.length=sz then some (.ep e.cells,H)else none
def aan(sz:Nat)(es:List T)(j:Nat):Option (D×ai):=es[j]?.bind (LA H sz)
@[go_sem] theorem aao (sz : Nat) (es : List T) (j : Nat) : aan H sz es j = es[j]?.bind (LA H sz) := (rfl)
@[go_sem] theorem aap (k : IntKind) (es : List T) (n : Int) (sz : Nat) : PG H sz (some (.t (.sl es))) (some (.t (.int k n))) = (idx n).bind (aan H sz es) := by
 simp only[PG,Option.bind_some,intOf,Ae]
 cases idx n with
 | none=>rfl
 | some j=>
   simp only[Option.bind_some,aan]
   cases es[j]? with
   | none=>rfl
   | some e=>simp only[Option.bind_some,LA];split<;>rfl
@[go_sem] theorem Yf (k : IntKind) (n : Int) : LA H 1 (.int k n) = some (.ep [.int k n], H) := (rfl)
@[go_sem] theorem Vn (b : Bool) : LA H 1 (.bool b) = some (.ep [.bool b], H) := (rfl)
@[go_sem] theorem aaq (es : List T) : LA H 1 (.sl es) = some (.ep [.sl es], H) := (rfl)
def nF{α:Type}:Nat→List α→Bool
 | 0,[]=>true
 | n+1,_::r=>nF n r
 | _,_=>false
@[go_sem] theorem aar {α : Type} : nF 0 ([] : List α) = true := (rfl)
@[go_sem] theorem aas {α : Type} (n : Nat) (a : α) (l : List α) : nF (n + 1) (a :: l) = nF n l := (rfl)
theorem eV{α:Type}:∀ {n:Nat} {l:List α},nF n l=true↔l.length=n
 | 0,[]=>by simp[nF]
 | 0,_::_=>by simp[nF]
 | n+1,[]=>by simp[nF]
 | n+1,_::r=>by simp only[nF,List.length_cons,Nat.add_right_cancel_iff];exact eV
@[go_sem] theorem Yg (cs : List T) (sz : Nat) : LA H sz (.agg cs) = if nF sz cs = true then some (.ep cs, H) else none := by
 by_cases h:cs.length=sz
 · rw[LA,if_pos (show(T.agg cs).cells.length=sz from h),if_pos (eV.2 h)];rfl
 · rw[LA,if_neg (show ¬(T.agg cs).cells.length=sz from h),if_neg fun e=>h (eV.1 e)]
def PH(sz id ep n j:Nat):Option Obj→Option (D×ai)
 | some (.arr sz' _ ep' es)=>if ep=ep'∧n=es.length then(if j<n∧sz'=sz then some (.ap id ep n j 0,H)else none)else none
 | _=>none
@[go_sem] theorem Yh (k : IntKind) (id ep n : Nat) (i : Int) (sz : Nat) : PG H sz (some (.ref id ep n)) (some (.t (.int k i))) = (idx i).bind fun j => PH H sz id ep n j H[id]? := by
 simp only[PG,Option.bind_some,intOf,Ae]
 cases idx i with
 | none=>rfl
 | some j=>
   simp only[Option.bind_some,fq]
   generalize H[id]?=o
   rcases o with _ | (_ | ⟨sz',pin,ep',es⟩)
   · rfl
   · rfl
   · simp only[PH]
     by_cases h:ep=ep'∧n=es.length
     · rw[if_pos h,if_pos h,Option.bind_some];split<;>rfl
     · rw[if_neg h,if_neg h];rfl
@[go_sem] theorem Vo (sz id ep n j sz' : Nat) (pin : Bool) (ep' : Nat) (es : List D) : PH H sz id ep n j (some (.arr sz' pin ep' es)) =
 if ep=ep'∧n=es.length then(if j<n∧sz'=sz then some (.ap id ep n j 0,H)else none)else none:=(rfl)
def PI(sz id ep n lo hi j:Nat):Option Obj→Option (D×ai)
 | some (.arr sz' _ ep' es)=>if ep=ep'∧n=es.length then(if lo+j<hi∧hi≤n∧sz'=sz then some (.ap id ep n (lo+j) 0,H)else none)else none
 | _=>none
@[go_sem] theorem Yi (k : IntKind) (id ep n lo hi : Nat) (i : Int) (sz : Nat) : PG H sz (some (.sub id ep n lo hi)) (some (.t (.int k i))) = (idx i).bind fun j => PI H sz id ep n lo hi j H[id]? := by
 simp only[PG,Option.bind_some,intOf,Ae]
 cases idx i with
 | none=>rfl
 | some j=>
   simp only[Option.bind_some,fq]
   generalize H[id]?=o
   rcases o with _ | (_ | ⟨sz',pin,ep',es⟩)
   · rfl
   · rfl
   · simp only[PI]
     by_cases h:ep=ep'∧n=es.length
     · rw[if_pos h,if_pos h,Option.bind_some];split<;>rfl
     · rw[if_neg h,if_neg h];rfl
@[go_sem] theorem Vp (sz id ep n lo hi j sz' : Nat) (pin : Bool) (ep' : Nat) (es : List D) : PI H sz id ep n lo hi j (some (.arr sz' pin ep' es)) =
 if ep=ep'∧n=es.length then(if lo+j<hi∧hi≤n∧sz'=sz then some (.ap id ep n (lo+j) 0,H)else none)else none:=(rfl)
def aat(len sz:Nat)(agg:Bool)(x i:Option D):Option (D×ai):=x.bind fun a=>(i.bind intOf).bind fun n=>(idx n).bind fun j=>(zj a j len sz agg).map fun d=>(d,H)
def Vq(len sz:Nat)(agg:Bool)(a:D)(j:Nat):Option (D×ai):=(zj a j len sz agg).map fun d=>(d,H)
@[go_sem] theorem ad0 (x i : X) (len sz : Nat) (agg : Bool) : evO call get H (.ix x i len sz agg) = aat H len sz agg (get x) (get i) := (rfl)
@[go_sem] theorem aau (len sz : Nat) (agg : Bool) (a : D) (k : IntKind) (n : Int) : aat H len sz agg (some a) (some (.t (.int k n))) = (idx n).bind (Vq H len sz agg a) := by
 simp only[aat,Option.bind_some,intOf];cases idx n<;>rfl
@[go_sem] theorem Yj (len j : Nat) (ts : List T) (h : j < len) (hs : (ts.all fun t => t.scalar) = true) : Vq H len 1 false (.t (.agg ts)) j = (ts[j]?).map fun t => (.t t, H) := by
 have h0:len≠0:=by omega
 unfold Vq zj
 rw[if_neg h0,if_pos h]
 unfold tn cut
 simp only[D.isAgg,D.cells,T.cells,if_true,Nat.mul_one,List.length_map]
 by_cases hj:j<ts.length
 · rw[if_pos (by omega),List.getElem?_eq_getElem hj]
   have e:((ts.map D.t).drop j).take 1=[D.t ts[j]]:=by
    rw[List.drop_eq_getElem_cons (by simpa using hj)];simp
   rw[e];rfl
 · rw[if_neg (by omega),List.getElem?_eq_none (by omega)];rfl
def PJ(len sz:Nat)(x i:Option D):Option (D×ai):=x.bind fun a=>(i.bind intOf).bind fun n=>(idx n).bind fun j=>if j<len then(Gm a (j*sz)).map fun d=>(d,H)else none
@[go_sem] theorem acL (x i : X) (len sz : Nat) : evO call get H (.iaa x i len sz) = PJ H len sz (get x) (get i) := (rfl)
def acM(len sz:Nat)(a:D)(j:Nat):Option (D×ai):=if j<len then SN H (j*sz) a else none
@[go_sem] theorem aav (len sz : Nat) (a : D) (j : Nat) : acM H len sz a j = if j < len then SN H (j * sz) a else none := (rfl)
@[go_sem] theorem Yk (len sz : Nat) (a : D) (k : IntKind) (n : Int) : PJ H len sz (some a) (some (.t (.int k n))) = (idx n).bind (acM H len sz a) := by
 simp only[PJ,Option.bind_some,intOf];cases idx n<;>rfl
def KM(n:Nat)(agg:Bool)(a:D):Option (D×ai):=(uL H a n agg).map fun d=>(d,H)
@[go_sem] theorem ad1 (x : X) (n : Nat) (agg : Bool) : evO call get H (.ld x n agg) = (get x).bind (KM H n agg) := (rfl)
def LB(off n:Nat)(agg:Bool):Option Obj→Option (D×ai)
 | some (.box cs)=>ofC H agg (cut cs off n)
 | _=>none
@[go_sem] theorem Yl (off n : Nat) (agg : Bool) (cs : List D) : LB H off n agg (some (.box cs)) = ofC H agg (cut cs off n) := (rfl)
@[go_sem] theorem aaw (id off n : Nat) (agg : Bool) : KM H n agg (.bp id off) = LB H off n agg H[id]? := by
 simp only[KM,uL]
 generalize H[id]?=o
 rcases o with _ | (cs | _)
 · rfl
 · simp only[LB,ofC];cases (cut cs off n).bind (ei agg)<;>rfl
 · rfl
@[go_sem] theorem aax (cs : List T) (n : Nat) (agg : Bool) : KM H n agg (.ep cs) = ofC H agg (cut (cs.map .t) 0 n) := by
 simp only[KM,uL,ofC];cases (cut _ 0 n).bind (ei agg)<;>rfl
def Ym(off n:Nat)(agg:Bool)(e:D):Option (D×ai):=ofC H agg (cut e.cells off n)
@[go_sem] theorem aay (off n : Nat) (agg : Bool) (e : D) : Ym H off n agg e = ofC H agg (cut e.cells off n) := (rfl)
def PL(ep m i off n:Nat)(agg:Bool):Option Obj→Option (D×ai)
 | some (.arr _ _ ep' es)=>if ep=ep'∧m=es.length then es[i]?.bind (Ym H off n agg)else none
 | _=>none
@[go_sem] theorem Yn (ep m i off n : Nat) (agg : Bool) (sz : Nat) (pin : Bool) (ep' : Nat) (es : List D) :
 PL H ep m i off n agg (some (.arr sz pin ep' es))=if ep=ep'∧m=es.length then es[i]?.bind (Ym H off n agg)else none:=(rfl)
@[go_sem] theorem aaz (id ep m i off n : Nat) (agg : Bool) : KM H n agg (.ap id ep m i off) = PL H ep m i off n agg H[id]? := by
 simp only[KM,uL,fq]
 generalize H[id]?=o
 rcases o with _ | (_ | ⟨sz',pin,ep',es⟩)
 · rfl
 · rfl
 · simp only[PL]
   by_cases h:ep=ep'∧m=es.length
   · rw[if_pos h,if_pos h,Option.bind_some]
     cases es[i]? with
     | none=>rfl
     | some e=>simp only[Option.bind_some,Ym,ofC];cases (cut e.cells off n).bind (ei agg)<;>rfl
   · rw[if_neg h,if_neg h];rfl
@[go_sem] theorem SO (cs : List D) : (D.agg cs).cells = cs := (rfl)
@[go_sem] theorem Yo (x : T) : (D.t x).cells = x.cells.map .t := (rfl)
@[go_sem] theorem SP : D.nil.cells = [.nil] := (rfl)
@[go_sem] theorem Vr (a b : Nat) : (D.bp a b).cells = [.bp a b] := (rfl)
@[go_sem] theorem SQ (a b c : Nat) : (D.ref a b c).cells = [.ref a b c] := (rfl)
@[go_sem] theorem SR (a b c d e : Nat) : (D.sub a b c d e).cells = [.sub a b c d e] := (rfl)
@[go_sem] theorem Vs (f : Nat) (cs : List D) : (D.fn f cs).cells = [.fn f cs] := (rfl)
@[go_sem] theorem PM : D.nilp.cells = [.nilp] := (rfl)
@[go_sem] theorem SS (cs : List T) : (T.agg cs).cells = cs := (rfl)
@[go_sem] theorem SU (k : IntKind) (n : Int) : (T.int k n).cells = [.int k n] := (rfl)
@[go_sem] theorem PN (b : Bool) : (T.bool b).cells = [.bool b] := (rfl)
@[go_sem] theorem SV (b : ByteArray) : (T.str b).cells = [.str b] := (rfl)
@[go_sem] theorem Vt (es : List T) : (T.sl es).cells = [.sl es] := (rfl)
def fits(n:Nat)(v:D):Bool:=decide (v.cells.length=n)&&v.iG
section
variable (n : Nat)
@[go_sem] theorem fits_int (k : IntKind) (a : Int) : fits 1 (.t (.int k a)) = true := (rfl)
@[go_sem] theorem fits_bool (b : Bool) : fits 1 (.t (.bool b)) = true := (rfl)
@[go_sem] theorem aaA (es : List T) : fits 1 (.t (.sl es)) = true := (rfl)
@[go_sem] theorem Yp : fits 1 .nil = true := (rfl)
@[go_sem] theorem Yq (a b c : Nat) : fits 1 (.ref a b c) = true := (rfl)
@[go_sem] theorem Yr (a b c d e : Nat) : fits 1 (.sub a b c d e) = true := (rfl)
@[go_sem] theorem aaB (a b : Nat) : fits 1 (.bp a b) = true := (rfl)
@[go_sem] theorem aaC (f : Nat) (cs : List D) : fits 1 (.fn f cs) = true := (rfl)
@[go_sem] theorem Ys (cs : List D) : fits n (.agg cs) = nF n cs := by rw [Bool.eq_iff_iff, eV]; show (decide (cs.length = n) && true) = true ↔ _; simp
@[go_sem] theorem Vu (cs : List T) : fits n (.t (.agg cs)) = nF n cs := by rw [Bool.eq_iff_iff, eV]; simp [fits, D.cells, T.cells, D.iG]
end
@[go_sem] theorem PO {α : Type} (cs : List α) : bj cs 0 [] = some cs := by simp [bj]
@[go_sem] theorem PQ {α : Type} (c x : α) (cs xs : List α) : bj (c :: cs) 0 (x :: xs) = kG x (bj cs 0 xs) := by
 simp only[bj,kG];by_cases h:xs.length≤cs.length<;>simp[h]
@[go_sem] theorem PR {α : Type} (c : α) (cs : List α) (off : Nat) (xs : List α) : bj (c :: cs) (off + 1) xs = kG c (bj cs off xs) := by
 simp only[bj,kG,List.length_cons]
 by_cases h:off+xs.length≤cs.length
 · rw[if_pos h,if_pos (by omega)];simp[show off+1+xs.length=(off+xs.length)+1 by omega]
 · rw[if_neg h,if_neg (by omega)];rfl
def PS(n:Nat)(live:List (Nat×Nat))(a x:Option D):Option (D×ai):=a.bind fun p=>x.bind fun d=>(vC H p d n).bind fun H'=>(oT H' p live).map fun H''=>(.tup [],H'')
@[go_sem] theorem ad2 (a x : X) (n : Nat) (live : List (Nat × Nat)) : evO call get H (.st a x n live) = PS H n live (get a) (get x) := (rfl)
def zz(H:ai)(id:Nat)(live:List (Nat×Nat)):Option (D×ai):=(oT H (.bp id 0) live).map fun H'=>(.tup [],H')
def Fk(id:Nat)(live:List (Nat×Nat))(cs:List D):Option (D×ai):=zz (H.set id (.box cs)) id live
@[go_sem] theorem Vv (id : Nat) (live : List (Nat × Nat)) (cs : List D) : Fk H id live cs = zz (H.set id (.box cs)) id live := (rfl)
@[go_sem] theorem SW (H : ai) (id : Nat) : zz H id [] = some (.tup [], H) := (rfl)
def PT(id off:Nat)(live:List (Nat×Nat))(xs:List D):Option Obj→Option (D×ai)
 | some (.box cs)=>(bj cs off xs).bind (Fk H id live)
 | _=>none
@[go_sem] theorem Yt (id off : Nat) (live : List (Nat × Nat)) (xs cs : List D) : PT H id off live xs (some (.box cs)) = (bj cs off xs).bind (Fk H id live) := (rfl)
@[go_sem] theorem aaD (n id off : Nat) (live : List (Nat × Nat)) (v : D) : PS H n live (some (.bp id off)) (some v) = if fits n v = true then PT H id off live v.cells H[id]? else none := by
 by_cases h:fits n v=true
 case neg=>
  rw[if_neg h]
  simp only[fits,Bool.and_eq_true,decide_eq_true_eq]at h
  simp only[PS,Option.bind_some,vC,if_neg h];rfl
 rw[if_pos h]
 simp only[fits,Bool.and_eq_true,decide_eq_true_eq]at h
 simp only[PS,Option.bind_some,vC,h.1,h.2,and_self,if_true]
 generalize H[id]?=o
 rcases o with _ | (cs | _)
 · rfl
 · simp only[PT]
   cases bj cs off v.cells with
   | none=>rfl
   | some cs'=>simp only[Option.map_some,Option.bind_some,Fk,zz,oT]
 · rfl
def B5(id sz ep i:Nat)(es:List D)(agg:Bool)(cs:List D):Option (D×ai):=(ei agg cs).bind fun e=>if e.iG then some (.tup [],H.set id (.arr sz false ep (es.set i e)))else none
def Yu(id sz ep i off:Nat)(es xs:List D)(e:D):Option (D×ai):=(bj e.cells off xs).bind (B5 H id sz ep i es e.isAgg)
@[go_sem] theorem aaE (id sz ep i off : Nat) (es xs : List D) (e : D) : Yu H id sz ep i off es xs e = (bj e.cells off xs).bind (B5 H id sz ep i es e.isAgg) := (rfl)
@[go_sem] theorem Vw (cs : List D) : (D.agg cs).isAgg = true := (rfl)
@[go_sem] theorem SX (cs : List T) : (D.t (.agg cs)).isAgg = true := (rfl)
@[go_sem] theorem Vx (k : IntKind) (n : Int) : (D.t (.int k n)).isAgg = false := (rfl)
@[go_sem] theorem SY (b : Bool) : (D.t (.bool b)).isAgg = false := (rfl)
@[go_sem] theorem Vy (b : ByteArray) : (D.t (.str b)).isAgg = false := (rfl)
@[go_sem] theorem Yv (es : List T) : (D.t (.sl es)).isAgg = false := (rfl)
@[go_sem] theorem Vz : D.nil.isAgg = false := (rfl)
@[go_sem] theorem VA (a b c : Nat) : (D.ref a b c).isAgg = false := (rfl)
@[go_sem] theorem VB (a b c d e : Nat) : (D.sub a b c d e).isAgg = false := (rfl)
@[go_sem] theorem aaF (id sz ep i : Nat) (es : List D) (x : T) : B5 H id sz ep i es false [.t x] = some (.tup [], H.set id (.arr sz false ep (es.set i (.t x)))) := (rfl)
@[go_sem] theorem VC (id sz ep i : Nat) (es : List D) : B5 H id sz ep i es false [.nil] = some (.tup [], H.set id (.arr sz false ep (es.set i .nil))) := (rfl)
@[go_sem] theorem VD (id sz ep i a b c : Nat) (es : List D) : B5 H id sz ep i es false [.ref a b c] = some (.tup [], H.set id (.arr sz false ep (es.set i (.ref a b c)))) := (rfl)
theorem DO(cs:List D):(rL cs).iG=true:=by unfold rL;cases oQ cs<;>rfl
@[go_sem] theorem aaG (id sz ep i : Nat) (es cs : List D) : B5 H id sz ep i es true cs = some (.tup [], H.set id (.arr sz false ep (es.set i (rL cs)))) := by
 simp[B5,ei,DO]
def PU(id ep m i off:Nat)(xs:List D):Option Obj→Option (D×ai)
 | some (.arr sz pin ep' es)=>if ep=ep'∧m=es.length then(if pin then none else es[i]?.bind (Yu H id sz ep i off es xs))else none
 | _=>none
@[go_sem] theorem Yw (id ep m i off : Nat) (xs : List D) (sz : Nat) (pin : Bool) (ep' : Nat) (es : List D) :
 PU H id ep m i off xs (some (.arr sz pin ep' es))=if ep=ep'∧m=es.length then(if pin=true then none else es[i]?.bind (Yu H id sz ep i off es xs))else none:=(rfl)
@[go_sem] theorem aaH (n id ep m i off : Nat) (v : D) : PS H n [] (some (.ap id ep m i off)) (some v) = if fits n v = true then PU H id ep m i off v.cells H[id]? else none := by
 by_cases h:fits n v=true
 case neg=>
  rw[if_neg h]
  simp only[fits,Bool.and_eq_true,decide_eq_true_eq]at h
  simp only[PS,Option.bind_some,vC,if_neg h];rfl
 rw[if_pos h]
 simp only[fits,Bool.and_eq_true,decide_eq_true_eq]at h
 simp only[PS,Option.bind_some,vC,h.1,h.2,and_self,if_true,fq]
 generalize H[id]?=o
 rcases o with _ | (_ | ⟨sz',pin,ep',es⟩)
 · rfl
 · rfl
 · simp only[PU]
   by_cases h:ep=ep'∧m=es.length
   · rw[if_pos h,if_pos h,Option.bind_some]
     cases pin with
     | true=>rfl
     | false=>
       simp only[Bool.false_eq_true,if_false]
       cases es[i]? with
       | none=>rfl
       | some e=>
         simp only[Option.bind_some,Yu]
         cases bj e.cells off v.cells with
         | none=>rfl
         | some cs'=>
           simp only[Option.bind_some,B5]
           cases ei e.isAgg cs' with
           | none=>rfl
           | some e'=>
             simp only[Option.bind_some]
             by_cases h3:e'.iG=true
             · rw[if_pos h3,if_pos h3,h.1];rfl
             · rw[if_neg h3,if_neg h3];rfl
   · rw[if_neg h,if_neg h];rfl
def PV(zero:List D)(ps:List (Nat×Nat×D)):Option (D×ai):=(te zero ps).map fun cs=>(rL cs,H)
@[go_sem] theorem ad3 (zero : List D) (parts : List (Nat × Nat × X)) : evO call get H (.bd zero parts) = (lV get parts).bind (PV H zero) := (rfl)
@[go_sem] theorem Nx : lV get [] = some [] := (rfl)
def VE(off n:Nat)(r:List (Nat×Nat×X))(d:D):Option (List (Nat×Nat×D)):=kG (off,n,d) (lV get r)
@[go_sem] theorem Yx (off n : Nat) (r : List (Nat × Nat × X)) (d : D) : VE get off n r d = kG (off, n, d) (lV get r) := (rfl)
@[go_sem] theorem LC (off n : Nat) (x : X) (r : List (Nat × Nat × X)) : lV get ((off, n, x) :: r) = (get x).bind (VE get off n r) := (rfl)
@[go_sem] theorem Yy (zero : List D) : PV H zero [] = some (rL zero, H) := (rfl)
def bdC(r:List (Nat×Nat×D))(z:List D):Option (D×ai):=PV H z r
@[go_sem] theorem acN (r : List (Nat × Nat × D)) (z : List D) : bdC H r z = PV H z r := (rfl)
@[go_sem] theorem VF (zero : List D) (off n : Nat) (x : D) (r : List (Nat × Nat × D)) : PV H zero ((off, n, x) :: r) = if fits n x = true then (bj zero off x.cells).bind (bdC H r) else none := by
 by_cases h:fits n x=true
 case neg=>
  rw[if_neg h]
  have h2:(x.iG&&x.cells.length==n)=false:=by rw[← Bool.not_eq_true,Bool.and_comm];simpa [fits]using h
  simp only[PV,te,h2];rfl
 rw[if_pos h]
 simp only[fits,Bool.and_eq_true,decide_eq_true_eq]at h
 simp only[PV,te,h.1,h.2,beq_self_eq_true,Bool.and_self,if_true]
 cases bj zero off x.cells<;>rfl
def b6(n:Nat):List T→Bool
 | []=>true
 | x::r=>nF n x.cells&&b6 n r
@[go_sem] theorem Ny (n : Nat) : b6 n [] = true := (rfl)
@[go_sem] theorem tS (n : Nat) (x : T) (r : List T) : b6 n (x :: r) = (nF n x.cells && b6 n r) := (rfl)
def zA(sz:Nat)(ds:List D):Option (D×ai):=if ds.all (fun d=>d.cells.length==sz)then(bL (frz H depth) ds).map fun ts=>(.t (.sl ts),pins H (ds.flatMap (eL H depth)))else none
@[go_sem] theorem ad4 (xs : List X) (sz : Nat) : evO call get H (.bs xs sz) = (bL get xs).bind (zA H sz) := (rfl)
theorem VG(sz:Nat)(ds:List D)(ts:List T)(h:oQ ds=some ts)(hc:b6 sz ts=true):zA H sz ds=some (.t (.sl ts),H):=by
 have key:∀(ds:List D) (ts:List T),oQ ds=some ts→b6 sz ts=true→ds.all (fun d=>d.cells.length==sz)=true∧bL (frz H depth) ds=some ts∧ds.flatMap (eL H depth)=[]:=by
  intro ds
  induction ds with
  | nil=>intro ts h hc;simp[oQ]at h;subst h;simp[bL]
  | cons d ds ih=>
    intro ts h hc
    cases d with
    | t x=>
      simp only[oQ,Option.map_eq_some_iff]at h
      obtain⟨r,hr,rfl⟩:=h
      simp only[b6,Bool.and_eq_true,eV]at hc
      obtain⟨h1,h2,h3⟩:=ih r hr hc.2
      refine⟨by rw[List.all_cons,h1,Bool.and_true];simp[D.cells,hc.1],by simp[bL,frz,h2],by rw[List.flatMap_cons,h3];simp[eL]⟩
    | _=>simp[oQ]at h
 obtain⟨h1,h2,h3⟩:=key ds ts h hc
 simp[zA,h1,h2,h3,pins]
theorem qw(sz:Nat)(ts:List T):zA H sz (ts.map D.t)=if b6 sz ts=true then some (.t (.sl ts),H)else none:=by
 by_cases h:b6 sz ts=true
 · rw[if_pos h];exact VG H sz _ ts (Lz ts) h
 · rw[if_neg h]
   have:(ts.map D.t).all (fun d=>d.cells.length==sz)=false:=by
    rw[← Bool.not_eq_true];intro ha;apply h
    clear h
    induction ts with
    | nil=>rfl
    | cons a r ih=>
      simp only[List.map_cons,List.all_cons,Bool.and_eq_true,beq_iff_eq]at ha
      simp only[b6,Bool.and_eq_true,eV]
      exact⟨by simpa [D.cells]using ha.1,ih ha.2⟩
   simp only[zA,this];rfl
@[go_sem] theorem acO (sz : Nat) : zA H sz [] = some (.t (.sl []), H) := (rfl)
@[go_sem] theorem acP (sz : Nat) (a : T) : zA H sz [.t a] = if b6 sz [a] = true then some (.t (.sl [a]), H) else none := qw H sz [a]
@[go_sem] theorem acQ (sz : Nat) (a b : T) : zA H sz [.t a, .t b] = if b6 sz [a, b] = true then some (.t (.sl [a, b]), H) else none := qw H sz [a, b]
@[go_sem] theorem acR (sz : Nat) (a b c : T) : zA H sz [.t a, .t b, .t c] = if b6 sz [a, b, c] = true then some (.t (.sl [a, b, c]), H) else none := qw H sz [a, b, c]
@[go_sem] theorem acS (sz : Nat) (a b c d : T) : zA H sz [.t a, .t b, .t c, .t d] = if b6 sz [a, b, c, d] = true then some (.t (.sl [a, b, c, d]), H) else none := qw H sz [a, b, c, d]
@[go_sem] theorem acT (sz : Nat) (a b c d e : T) : zA H sz [.t a, .t b, .t c, .t d, .t e] = if b6 sz [a, b, c, d, e] = true then some (.t (.sl [a, b, c, d, e]), H) else none := qw H sz [a, b, c, d, e]
def VH(a:D):Option (D×ai):=(Xx a).map fun(n:Nat)=>(D.t (.int .i64 (n:Int)),H)
@[go_sem] theorem ad5 (x : X) : evO call get H (.ln x) = (get x).bind (VH H) := (rfl)
@[go_sem] theorem aaI (es : List T) : VH H (.t (.sl es)) = some (I es.length, H) := (rfl)
@[go_sem] theorem Yz : VH H .nil = some (I 0, H) := (rfl)
@[go_sem] theorem YA (id ep n : Nat) : VH H (.ref id ep n) = some (I n, H) := (rfl)
@[go_sem] theorem YB (id ep n lo hi : Nat) : VH H (.sub id ep n lo hi) = some (I ((hi - lo : Nat) : Int), H) := (rfl)
def VI(ds:List D):Option (D×ai):=(Uj ds).map fun d=>(d,H)
def VJ(ds:List D):Option (D×ai):=(Uk ds).map fun d=>(d,H)
@[go_sem] theorem ad6 (xs : List X) : evO call get H (.mn xs) = (bL get xs).bind (VI H) := (rfl)
@[go_sem] theorem ad7 (xs : List X) : evO call get H (.mx xs) = (bL get xs).bind (VJ H) := (rfl)
@[go_sem] theorem acU (k : IntKind) (a b : Int) : VI H [.t (.int k a), .t (.int k b)] = some (.t (.int k (min a b)), H) := by
 simp only[VI,Uj,yT,if_true,Option.map_some];congr 4;omega
@[go_sem] theorem acV (k : IntKind) (a b : Int) : VJ H [.t (.int k a), .t (.int k b)] = some (.t (.int k (max a b)), H) := by
 simp only[VJ,Uk,yT,if_true,Option.map_some];congr 4;omega
@[go_sem] theorem acW (k : IntKind) (a b c : Int) : VI H [.t (.int k a), .t (.int k b), .t (.int k c)] = some (.t (.int k (min (min a b) c)), H) := by
 simp only[VI,Uj,yT,if_true,Option.map_some];congr 4;omega
@[go_sem] theorem acX (k : IntKind) (a b c : Int) : VJ H [.t (.int k a), .t (.int k b), .t (.int k c)] = some (.t (.int k (max (max a b) c)), H) := by
 simp only[VJ,Uk,yT,if_true,Option.map_some];congr 4;omega
def B6(sz:Nat)(x:Option D)(lo hi:Option (Option Int)):Option (D×ai):=x.bind fun a=>lo.bind fun l=>hi.bind fun h=>(m9 H a l h sz).map fun d=>(d,H)
@[go_sem] theorem ad8 (x : X) (lo hi : Option X) (sz : Nat) : evO call get H (.sc x lo hi sz) = B6 H sz (get x) (Gn get lo) (Gn get hi) := (rfl)
def VK:D→Option (Option Int)
 | .t (.int _ n)=>some (some n)
 | _=>none
@[go_sem] theorem YC (k : IntKind) (n : Int) : VK (.t (.int k n)) = some (some n) := (rfl)
@[go_sem] theorem VL : Gn get none = some none := (rfl)
@[go_sem] theorem VM (x : X) : Gn get (some x) = (get x).bind VK := by
 simp only[Gn];cases get x with
 | none=>rfl
 | some d=>cases d with
   | t y=>cases y<;>rfl
   | _=>rfl
def aaJ(i:Nat)(a:D):Option (D×ai):=(Ul i a).map fun d=>(d,H)
@[go_sem] theorem ad9 (x : X) (i : Nat) : evO call get H (.ex x i) = (get x).bind (aaJ H i) := (rfl)
def exO:Option D→Option (D×ai)
 | some d=>some (d,H)
 | none=>none
@[go_sem] theorem YD (d : D) : exO H (some d) = some (d, H) := (rfl)
@[go_sem] theorem YE (i : Nat) (ds : List D) : aaJ H i (.tup ds) = exO H ds[i]? := by simp only [aaJ, Ul, exO]; cases ds[i]? <;> rfl
def aaK(f:Nat)(ds:List D):Option (D×ai):=some (.fn f ds,H)
@[go_sem] theorem aaL (f : Nat) (ds : List D) : aaK H f ds = some (.fn f ds, H) := (rfl)
@[go_sem] theorem aea (f : Nat) (caps : List X) : evO call get H (.mf f caps) = (bL get caps).bind (aaK H f) := by simp only [evO, aaK]; cases bL get caps <;> rfl
@[go_sem] theorem aeb (sz : Nat) : evO call get H (.nw sz) = some (.ref H.length 0 0, H ++ [.arr sz false 0 []]) := (rfl)
def alP(p:List D×ai):Option (D×ai):=some (.bp H.length 0,H++ .box p.1::p.2)
@[go_sem] theorem acY (cs : List D) (os : ai) : alP H (cs, os) = some (.bp H.length 0, H ++ .box cs :: os) := (rfl)
@[go_sem] theorem aec (zero : List D) (live : List (Nat × Nat)) : evO call get H (.al zero live) = alP H (bM (H.length + 1) zero live) := (rfl)
@[go_sem] theorem PW (base : Nat) (cs : List D) : bM base cs [] = (cs, []) := (rfl)
def aaM(n:Nat)(a:D):Option (D×ai):=if a.cells.length=n∧a.iG then some (.bp H.length 0,H++[.box a.cells])else none
@[go_sem] theorem aed (x : X) (n : Nat) : evO call get H (.bx x n) = (get x).bind (aaM H n) := (rfl)
@[go_sem] theorem aaN (n : Nat) (a : D) : aaM H n a = if fits n a = true then some (.bp H.length 0, H ++ [.box a.cells]) else none := by
 simp[aaM,fits]
def YF(sz:Nat)(zero:D)(n:Option Nat):Option (D×ai):=n.bind fun m=>if m≤lim then some (.ref H.length 0 m,H++[.arr sz false 0 (List.replicate m zero)])else none
def mkN(sz:Nat)(zero:D):D→Option (D×ai)
 | .t (.int _ n)=>YF H sz zero (idx n)
 | _=>none
@[go_sem] theorem aaO (sz : Nat) (zero : D) (k : IntKind) (n : Int) : mkN H sz zero (.t (.int k n)) = YF H sz zero (idx n) := (rfl)
@[go_sem] theorem aee (len : X) (zero : D) (sz : Nat) : evO call get H (.mk len zero sz) = (get len).bind (mkN H sz zero) := by
 simp only[evO];cases get len with
 | none=>rfl
 | some d=>cases d with
   | t y=>cases y<;>rfl
   | _=>rfl
@[go_sem] theorem aaP (sz : Nat) (zero : D) (m : Nat) (h : m ≤ 4294967296) : YF H sz zero (some m) = some (.ref H.length 0 m, H ++ [.arr sz false 0 (List.replicate m zero)]) := by
 simp[YF,lim,h]
def LD(zero:T)(n:Option Nat):Option (D×ai):=n.bind fun m=>if m≤lim then some (.t (.sl (List.replicate m zero)),H)else none
def acZ(zero:T):D→Option (D×ai)
 | .t (.int _ n)=>LD H zero (idx n)
 | _=>none
@[go_sem] theorem YG (zero : T) (k : IntKind) (n : Int) : acZ H zero (.t (.int k n)) = LD H zero (idx n) := (rfl)
@[go_sem] theorem ac0 (len : X) (zero : T) (sz : Nat) : evO call get H (.mkt len zero sz) = (get len).bind (acZ H zero) := by
 simp only[evO];cases get len with
 | none=>rfl
 | some d=>cases d with
   | t y=>cases y<;>rfl
   | _=>rfl
@[go_sem] theorem YH (zero : T) (m : Nat) (h : m ≤ 4294967296) : LD H zero (some m) = some (.t (.sl (List.replicate m zero)), H) := by
 simp[LD,lim,h]
def o6(sz:Nat)(fz:Bool)(x y:Option D):Option (D×ai):=x.bind fun a=>y.bind fun b=>mr H a b fz sz
@[go_sem] theorem ac1 (x y : X) (fz : Bool) (sz : Nat) : evO call get H (.app x y fz sz) = o6 H sz fz (get x) (get y) := (rfl)
def vQ(sz id ep n:Nat)(ys:List D):Option Obj→Option (D×ai)
 | some (.arr sz' pin ep' es)=>if ep=ep'∧n=es.length∧sz'=sz∧n+ys.length≤lim then some (.ref id ep (n+ys.length),H.set id (.arr sz pin ep (es++ys)))else none
 | _=>none
@[go_sem] theorem VN (sz id ep n : Nat) (ys : List D) (pin : Bool) (es : List D) :
 vQ H sz id ep n ys (some (.arr sz pin ep es))=if n=es.length then(if n+ys.length≤4294967296 then some (.ref id ep (n+ys.length),H.set id (.arr sz pin ep (es++ys)))else none)else none:=by
 simp only[vQ,lim]
 by_cases h1:n=es.length
 · rw[if_pos h1]
   by_cases h2:n+ys.length≤4294967296
   · rw[if_pos h2,if_pos ⟨trivial,h1,trivial,h2⟩]
   · rw[if_neg h2,if_neg fun h=>h2 h.2.2.2]
 · rw[if_neg h1,if_neg fun h=>h1 h.2.1]
theorem tT(ts:List T):bL (fun d=>(frz H depth d).map D.t) (ts.map D.t)=some (ts.map D.t):=by
 induction ts with
 | nil=>rfl
 | cons t ts ih=>simp[bL,frz,ih]
theorem Fl(ts:List T):(ts.map D.t).flatMap (eL H depth)=[]:=by
 induction ts with
 | nil=>rfl
 | cons t ts ih=>rw[List.map_cons,List.flatMap_cons,ih];simp[eL,depth]
theorem B7(sz:Nat)(fz:Bool)(x:D)(ts:List T)(h:b5 sz (ts.map D.t)=false):o6 H sz fz (some x) (some (.t (.sl ts)))=none:=by
 have e1:(if fz then bL (fun d=>(frz H depth d).map D.t) (ts.map D.t)else some (ts.map D.t))=some (ts.map D.t):=by
  cases fz<;>simp[tT]
 simp only[o6,Option.bind_some,mr,elems,e1,h,Bool.false_eq_true,if_false]
def nG(sz:Nat)(ts:List T):Bool:=b5 sz (ts.map D.t)
theorem IN(sz id ep n:Nat)(fz:Bool)(ts:List T)(h:nG sz ts=true):o6 H sz fz (some (.ref id ep n)) (some (.t (.sl ts)))=vQ H sz id ep n (ts.map .t) H[id]?:=by
 have e1:(if fz then bL (fun d=>(frz H depth d).map D.t) (ts.map D.t)else some (ts.map D.t))=some (ts.map D.t):=by
  cases fz<;>simp[tT]
 have e2:(if fz then pins H ((ts.map D.t).flatMap (eL H depth))else H)=H:=by
  cases fz
  · rfl
  · simp only[if_true];rw[Fl];rfl
 unfold nG at h
 simp only[o6,Option.bind_some,mr,elems,e1,h,if_true,e2,fq]
 generalize H[id]?=o
 rcases o with _ | (_ | ⟨sz',pin,ep',es⟩)
 · rfl
 · rfl
 · simp only[vQ]
   by_cases h1:ep=ep'∧n=es.length
   · rw[if_pos h1,Option.bind_some]
     by_cases h2:sz'=sz∧n+(ts.map D.t).length≤lim
     · rw[if_pos h2,if_pos ⟨h1.1,h1.2,h2⟩]
     · rw[if_neg h2,if_neg fun h=>h2 h.2.2]
   · rw[if_neg h1,if_neg fun h=>h1 ⟨h.1,h.2.1⟩];rfl
@[go_sem] theorem VO (sz id ep n : Nat) (fz : Bool) (ts : List T) : o6 H sz fz (some (.ref id ep n)) (some (.t (.sl ts))) = if nG sz ts = true then vQ H sz id ep n (ts.map .t) H[id]? else none := by
 by_cases h:nG sz ts=true
 · rw[if_pos h,IN H sz id ep n fz ts h]
 · rw[if_neg h];exact B7 H sz fz _ ts (by simpa [nG]using h)
@[go_sem] theorem VP (sz : Nat) (fz : Bool) (ts : List T) : o6 H sz fz (some .nil) (some (.t (.sl ts))) =
 if nG sz ts=true then(if ts.length≤4294967296 then some (.ref H.length 0 ts.length,H++[.arr sz false 0 (ts.map .t)])else none)else none:=by
 by_cases h:nG sz ts=true
 · rw[if_pos h]
   have e1:(if fz then bL (fun d=>(frz H depth d).map D.t) (ts.map D.t)else some (ts.map D.t))=some (ts.map D.t):=by
    cases fz<;>simp[tT]
   have e2:(if fz then pins H ((ts.map D.t).flatMap (eL H depth))else H)=H:=by
    cases fz
    · rfl
    · simp only[if_true];rw[Fl];rfl
   unfold nG at h
   simp only[o6,Option.bind_some,mr,elems,e1,h,if_true,e2,lim,List.length_map]
 · rw[if_neg h];exact B7 H sz fz _ ts (by simpa [nG]using h)
@[go_sem] theorem VQ (sz : Nat) : nG sz [] = true := (rfl)
@[go_sem] theorem SZ (sz : Nat) (x : T) (r : List T) : nG sz (x :: r) = nF sz x.cells := by
 rw[Bool.eq_iff_iff,eV];simp[nG,b5,D.cells]
@[go_sem] theorem VR (l : List Int) (k : IntKind) : nG 1 (l.map (.int k)) = true := by cases l <;> rfl
@[go_sem] theorem S0 (l : List Bool) : nG 1 (l.map .bool) = true := by cases l <;> rfl
@[go_sem] theorem YI (l : List (List T)) : nG 1 (l.map .sl) = true := by cases l <;> rfl
def GG(call:aQ)(f raw:Nat)(keep:List Nat)(ds:List D):Option (D×ai):=th call H f raw keep ds
@[go_sem] theorem aef (f raw : Nat) (keep : List Nat) (xs : List X) : evO call get H (.ca f raw keep xs) = (bL get xs).bind (GG H call f raw keep) := (rfl)
def ac2(call:aQ)(raw:Nat)(keep:List Nat)(x:Option D)(xs:Option (List D)):Option (D×ai):=x.bind fun
 | .fn f caps=>xs.bind fun ds=>th call H f raw keep (ds++caps)
 | _=>none
@[go_sem] theorem aeg (x : X) (raw : Nat) (keep : List Nat) (xs : List X) : evO call get H (.cw x raw keep xs) = ac2 H call raw keep (get x) (bL get xs) := (rfl)
@[go_sem] theorem aaQ (raw : Nat) (keep : List Nat) (f : Nat) (caps ds : List D) : ac2 H call raw keep (some (.fn f caps)) (some ds) = GG H call f raw keep (ds ++ caps) := (rfl)
def lY(H:ai):List D→Option (List T)
 | []=>some []
 | .t x::r=>kG x (lY H r)
 | .nil::r=>kG (.sl []) (lY H r)
 | _::_=>none
@[go_sem] theorem aaR : lY H [] = some [] := (rfl)
@[go_sem] theorem aaS (x : T) (r : List D) : lY H (.t x :: r) = kG x (lY H r) := (rfl)
@[go_sem] theorem VS (r : List D) : lY H (.nil :: r) = kG (.sl []) (lY H r) := (rfl)
@[go_sem] theorem VT (cs : List D) (r : List D) : lY H (.agg cs :: r) = none := (rfl)
@[go_sem] theorem YJ (a b : Nat) (r : List D) : lY H (.bp a b :: r) = none := (rfl)
@[go_sem] theorem VU (a b c : Nat) (r : List D) : lY H (.ref a b c :: r) = none := (rfl)
@[go_sem] theorem VV (a b c d e : Nat) (r : List D) : lY H (.sub a b c d e :: r) = none := (rfl)
@[go_sem] theorem YK (f : Nat) (cs : List D) (r : List D) : lY H (.fn f cs :: r) = none := (rfl)
@[go_sem] theorem YL (a b c d e : Nat) (r : List D) : lY H (.ap a b c d e :: r) = none := (rfl)
@[go_sem] theorem YM (cs : List T) (r : List D) : lY H (.ep cs :: r) = none := (rfl)
@[go_sem] theorem S1 (r : List D) : lY H (.nilp :: r) = none := (rfl)
@[go_sem] theorem VW (r : List D) : lY H (.und :: r) = none := (rfl)
end
theorem sG(H:ai):∀ {ds:List D} {ts:List T},lY H ds=some ts→∀i,oS H [] i ds=some (ts.map .t)∧cn H [] i ds=[]
 | [],ts,h,i=>by simp[lY]at h;subst h;exact⟨rfl,rfl⟩
 | d::r,ts,h,i=>by
   cases d with
   | t x=>
     simp only[lY,kG,Option.map_eq_some_iff]at h
     obtain⟨l,hl,rfl⟩:=h
     obtain⟨h1,h2⟩:=sG H hl (i+1)
     exact⟨by simp[oS,rP,h1],by simp[cn,eL,depth,h2]⟩
   | nil=>
     simp only[lY,kG,Option.map_eq_some_iff]at h
     obtain⟨l,hl,rfl⟩:=h
     obtain⟨h1,h2⟩:=sG H hl (i+1)
     exact⟨by simp[oS,rP,h1],by simp[cn,eL,depth,h2]⟩
   | _=>simp[lY]at h
theorem IP(ts:List T)(n:Nat):(ts.map D.t).flatMap (ids n)=[]:=by
 induction ts with
 | nil=>rfl
 | cons t ts ih=>rw[List.map_cons,List.flatMap_cons,ih];simp[ids]
theorem IQ(f:Nat→Option Nat)(ts:List T):bL (ren f depth) (ts.map .t)=some (ts.map .t):=by
 induction ts with
 | nil=>rfl
 | cons t ts ih=>simp[bL,ren,depth]at ih ⊢;exact ih
def wK:D→Bool
 | .t _=>true
 | .tup ds=>ds.all fun | .t _=>true | _=>false
 | _=>false
theorem Av{f:Nat→Option Nat}{d:D}(h:wK d=true):ren f depth d=some d:=by
 cases d with
 | t x=>rfl
 | tup ds=>
   simp only[wK]at h
   have:bL (ren f 7) ds=some ds:=by
    induction ds with
    | nil=>rfl
    | cons d ds ih=>
      simp only[List.all_cons,Bool.and_eq_true]at h
      cases d with
      | t x=>simp[bL,ren,ih h.2]
      | _=>simp at h
   simp[ren,depth,this]
 | _=>simp[wK]at h
def xY(H:ai)(p:D×ai):Option (D×ai):=if wK p.1&&p.2.isEmpty then some (p.1,H)else
 (ren (ed [] H.length) depth p.1).bind fun r'=>(bL (gp (ed [] H.length)) p.2).map fun os=>(r',H++os)
@[go_sem] theorem aaT (H : ai) (x : T) : xY H (.t x, []) = some (.t x, H) := (rfl)
@[go_sem] theorem aaU (H : ai) : xY H (.tup [], []) = some (.tup [], H) := (rfl)
@[go_sem] theorem aaV (H : ai) (x y : T) : xY H (.tup [.t x, .t y], []) = some (.tup [.t x, .t y], H) := (rfl)
@[go_sem] theorem aaW (H : ai) (x y z : T) : xY H (.tup [.t x, .t y, .t z], []) = some (.tup [.t x, .t y, .t z], H) := (rfl)
@[go_sem] theorem aaX (H : ai) (x y z u : T) : xY H (.tup [.t x, .t y, .t z, .t u], []) = some (.tup [.t x, .t y, .t z, .t u], H) := (rfl)
theorem IS(H:ai)(call:aQ)(f raw:Nat)(ds:List D)(ts:List T)(h:lY H ds=some ts):
 GG H call f raw [] ds=(call raw f (ts.map .t) []).bind (xY H):=by
 obtain⟨h1,h2⟩:=sG H h 0
 simp only[GG,th,h1,Option.bind_some,IP,eM,reach,oe,List.flatMap_nil,h2,pins,IQ,pick,bL]
 cases hc:call raw f (ts.map .t) []with
 | none=>rfl
 | some p=>
   obtain⟨d,os⟩:=p
   simp only[Option.bind_some,List.isEmpty_nil,Bool.true_and,xY]
   by_cases h3:os=[]
   · subst h3
     simp only[List.isEmpty_nil,Bool.true_and,Bool.and_true,bL,Option.map_some,List.length_nil,List.take_nil,cW,List.drop_nil,List.append_nil]
     by_cases h4:wK d=true
     · rw[if_pos h4]
       split
       · rfl
       · rw[Av h4];rfl
     · rw[if_neg h4]
       split
       · rename_i h5
         exfalso
         apply h4
         cases d with
         | t x=>rfl
         | tup ds=>
           simp only[oR,List.all_eq_true]at h5
           simp only[wK,List.all_eq_true]
           intro y hy
           have:=h5 y hy
           cases y<;>simp_all [kA]
         | _=>simp[oR]at h5
       · rfl
   · have:os.isEmpty=false:=by cases os<;>simp_all
     simp only[this,Bool.false_and,Bool.and_false,if_false,Bool.false_eq_true,List.length_nil,List.take_zero,cW,List.drop_zero]
@[go_sem] theorem S2 (st : St) : iw st [] = some [] := (rfl)
def ac3(st:St)(r:List (Nat×Option (Nat×Bool)))(d:D):Option (List D):=kG d (iw st r)
@[go_sem] theorem aaY (vs : List D) (H : ai) (r : List (Nat × Option (Nat × Bool))) (d : D) : ac3 ⟨vs, H⟩ r d = kG d (iw ⟨vs, H⟩ r) := (rfl)
@[go_sem] theorem S3 (vs : List D) (H : ai) (j : Nat) (r : List (Nat × Option (Nat × Bool))) : iw ⟨vs, H⟩ ((j, none) :: r) = vs[j]?.bind (ac3 ⟨vs, H⟩ r) := (rfl)
def aaZ(st:St)(r:List (Nat×Option (Nat×Bool)))(p:D×ai):Option (List D):=kG p.1 (iw st r)
@[go_sem] theorem aa0 (vs : List D) (H : ai) (r : List (Nat × Option (Nat × Bool))) (d : D) (H' : ai) : aaZ ⟨vs, H⟩ r (d, H') = kG d (iw ⟨vs, H⟩ r) := (rfl)
def aa1(st:St)(n:Nat)(agg:Bool)(r:List (Nat×Option (Nat×Bool)))(p:D):Option (List D):=(KM st.H n agg p).bind (aaZ st r)
@[go_sem] theorem aa2 (vs : List D) (H : ai) (n : Nat) (agg : Bool) (r : List (Nat × Option (Nat × Bool))) (p : D) : aa1 ⟨vs, H⟩ n agg r p = (KM H n agg p).bind (aaZ ⟨vs, H⟩ r) := (rfl)
@[go_sem] theorem PX (vs : List D) (H : ai) (j n : Nat) (agg : Bool) (r : List (Nat × Option (Nat × Bool))) : iw ⟨vs, H⟩ ((j, some (n, agg)) :: r) = vs[j]?.bind (aa1 ⟨vs, H⟩ n agg r) := by
 simp only[iw]
 cases vs[j]? with
 | none=>rfl
 | some p=>
   simp only[Option.bind_some,aa1,KM]
   cases uL H p n agg<;>rfl
@[go_sem] theorem aa3 (H : ai) (n : Nat) (x : T) : frz H n (.t x) = some x := by cases n <;> rfl
@[go_sem] theorem aa4 (H : ai) (n : Nat) : frz H n .nil = some (.sl []) := by cases n <;> rfl
@[go_sem] theorem aa5 (H : ai) (n : Nat) (cs : List D) : frz H (n + 1) (.agg cs) = (bL (frz H n) cs).map .agg := (rfl)
@[go_sem] theorem GH (H : ai) (n : Nat) (ts : List T) : bL (frz H n) (ts.map .t) = some ts := by
 induction ts with
 | nil=>rfl
 | cons t ts ih=>simp[bL,aa3,ih]
def frA(H:ai)(n ep m lo hi:Nat):Option Obj→Option T
 | some (.arr _ _ ep' es)=>if ep=ep'∧m=es.length then(bL (frz H n) ((es.drop lo).take (hi-lo))).map .sl else none
 | _=>none
def frR(H:ai)(n ep m:Nat):Option Obj→Option T
 | some (.arr _ _ ep' es)=>if ep=ep'∧m=es.length then(bL (frz H n) es).map .sl else none
 | _=>none
@[go_sem] theorem aa6 (H : ai) (n id ep m : Nat) : frz H (n + 1) (.ref id ep m) = frR H n ep m H[id]? := by
 simp only[frz,fq]
 generalize H[id]?=o
 rcases o with _ | (_ | ⟨sz',pin,ep',es⟩)
 · rfl
 · rfl
 · simp only[frR]
   by_cases h:ep=ep'∧m=es.length
   · rw[if_pos h,if_pos h];rfl
   · rw[if_neg h,if_neg h];rfl
@[go_sem] theorem aa7 (H : ai) (n id ep m lo hi : Nat) : frz H (n + 1) (.sub id ep m lo hi) = frA H n ep m lo hi H[id]? := by
 simp only[frz,fq]
 generalize H[id]?=o
 rcases o with _ | (_ | ⟨sz',pin,ep',es⟩)
 · rfl
 · rfl
 · simp only[frA]
   by_cases h:ep=ep'∧m=es.length
   · rw[if_pos h,if_pos h];rfl
   · rw[if_neg h,if_neg h];rfl
@[go_sem] theorem aa8 (H : ai) (n ep m sz : Nat) (pin : Bool) (es : List D) : frR H n ep m (some (.arr sz pin ep es)) = if m = es.length then (bL (frz H n) es).map .sl else none := by simp [frR]
@[go_sem] theorem aa9 (H : ai) (n ep m lo hi sz : Nat) (pin : Bool) (es : List D) : frA H n ep m lo hi (some (.arr sz pin ep es)) = if m = es.length then (bL (frz H n) ((es.drop lo).take (hi - lo))).map .sl else none := by simp [frA]
@[go_sem] theorem VX (H : ai) (x : T) : rP H (.t x) = some (.t x) := (rfl)
@[go_sem] theorem YN (H : ai) : rP H .nil = some (.t (.sl [])) := (rfl)
@[go_sem] theorem YO (H : ai) (cs : List D) : rP H (.agg cs) = (frz H 8 (.agg cs)).map .t := (rfl)
@[go_sem] theorem YP (H : ai) (id ep n : Nat) : rP H (.ref id ep n) = (frz H 8 (.ref id ep n)).map .t := (rfl)
@[go_sem] theorem YQ (H : ai) (id ep n lo hi : Nat) : rP H (.sub id ep n lo hi) = (frz H 8 (.sub id ep n lo hi)).map .t := (rfl)
@[go_sem] theorem PY (H : ai) (id off : Nat) : rP H (.bp id off) = some (.bp id off) := (rfl)
@[go_sem] theorem aba (H : ai) (id ep n i off : Nat) : rP H (.ap id ep n i off) = some (.ap id ep n i off) := (rfl)
@[go_sem] theorem abb (H : ai) (cs : List T) : rP H (.ep cs) = some (.ep cs) := (rfl)
@[go_sem] theorem abc (H : ai) (f : Nat) (cs : List D) : rP H (.fn f cs) = some (.fn f cs) := (rfl)
def ltB:Nat→Nat→Bool
 | _,0=>false
 | 0,_+1=>true
 | m+1,n+1=>ltB m n
@[go_sem] theorem aeh (m : Nat) : ltB m 0 = false := by cases m <;> rfl
@[go_sem] theorem ac4 (n : Nat) : ltB 0 (n + 1) = true := (rfl)
@[go_sem] theorem ac5 (m n : Nat) : ltB (m + 1) (n + 1) = ltB m n := (rfl)
theorem o7:∀ {m n:Nat},ltB m n=decide (m<n)
 | m,0=>by cases m<;>simp[ltB]
 | 0,n+1=>by simp[ltB]
 | m+1,n+1=>by simp[ltB,o7 (m:=m) (n:=n)]
def eqB:Nat→Nat→Bool
 | 0,0=>true
 | m+1,n+1=>eqB m n
 | _,_=>false
@[go_sem] theorem ac6 : eqB 0 0 = true := (rfl)
@[go_sem] theorem ac7 (n : Nat) : eqB 0 (n + 1) = false := (rfl)
@[go_sem] theorem ac8 (n : Nat) : eqB (n + 1) 0 = false := (rfl)
@[go_sem] theorem ac9 (m n : Nat) : eqB (m + 1) (n + 1) = eqB m n := (rfl)
theorem DP:∀ {m n:Nat},eqB m n=decide (m=n)
 | 0,0=>rfl
 | 0,n+1=>rfl
 | m+1,0=>rfl
 | m+1,n+1=>by simp[eqB,DP (m:=m) (n:=n)]
section
variable (k n : Nat)
@[go_sem] theorem abd (x : T) : old k n (.t x) = true := by cases n <;> rfl
@[go_sem] theorem abe : old k n .nil = true := by cases n <;> rfl
@[go_sem] theorem ada (cs : List T) : old k n (.ep cs) = true := by cases n <;> rfl
@[go_sem] theorem YR : old k n .nilp = true := by cases n <;> rfl
@[go_sem] theorem abf : old k n .und = true := by cases n <;> rfl
@[go_sem] theorem VY (id off : Nat) : old k n (.bp id off) = ltB id k := by cases n <;> simp [old, o7]
@[go_sem] theorem adb (id ep m i off : Nat) : old k n (.ap id ep m i off) = ltB id k := by cases n <;> simp [old, o7]
@[go_sem] theorem abg (id ep m : Nat) : old k n (.ref id ep m) = ltB id k := by cases n <;> simp [old, o7]
@[go_sem] theorem abh (id ep m lo hi : Nat) : old k n (.sub id ep m lo hi) = ltB id k := by cases n <;> simp [old, o7]
def fk(n:Nat)(cs:List D):Bool:=cs.all (old k n)
@[go_sem] theorem S4 : fk k n [] = true := (rfl)
@[go_sem] theorem DQ (d : D) (r : List D) : fk k n (d :: r) = (old k n d && fk k n r) := (rfl)
@[go_sem] theorem Fm (ts : List T) : fk k n (ts.map .t) = true := by
 induction ts with
 | nil=>rfl
 | cons t ts ih=>rw[List.map_cons,DQ,abd,ih];rfl
@[go_sem] theorem S5 (m : Nat) (x : T) : fk k n (List.replicate m (.t x)) = true := by
 have:List.replicate m (D.t x)=(List.replicate m x).map .t:=by simp
 rw[this,Fm]
@[go_sem] theorem S6 (a b : List D) : fk k n (a ++ b) = (fk k n a && fk k n b) := by simp [fk]
@[go_sem] theorem abi (cs : List D) : old k (n + 1) (.agg cs) = fk k n cs := (rfl)
@[go_sem] theorem abj (cs : List D) : old k (n + 1) (.tup cs) = fk k n cs := (rfl)
@[go_sem] theorem ade (f : Nat) (cs : List D) : old k (n + 1) (.fn f cs) = fk k n cs := (rfl)
end
def ft(k:Nat):ai→Bool
 | []=>true
 | .box cs::r=>fk k 8 cs&&ft k r
 | .arr _ _ _ es::r=>fk k 8 es&&ft k r
@[go_sem] theorem PZ (k : Nat) : ft k [] = true := (rfl)
@[go_sem] theorem P0 (k : Nat) (cs : List D) (r : ai) : ft k (.box cs :: r) = (fk k 8 cs && ft k r) := (rfl)
@[go_sem] theorem P1 (k sz ep : Nat) (pin : Bool) (es : List D) (r : ai) : ft k (.arr sz pin ep es :: r) = (fk k 8 es && ft k r) := (rfl)
theorem mh(k:Nat)(H:ai):H.all (fun o=>o.ds.all (old k depth))=ft k H:=by
 induction H with
 | nil=>rfl
 | cons o r ih=>rw[List.all_cons,ih];cases o<;>rfl
def P2(d:D)(b:Bool):D:=if b then d else .und
@[go_sem] theorem S7 (d : D) : P2 d true = d := (rfl)
@[go_sem] theorem P3 (d : D) : P2 d false = .und := (rfl)
@[go_sem] theorem abk (k : Nat) (d : D) : kill k d = P2 d (old k 8 d) := (rfl)
def GI(k:Nat):List D→List D
 | []=>[]
 | d::r=>kill k d::GI k r
@[go_sem] theorem VZ (k : Nat) : GI k [] = [] := (rfl)
@[go_sem] theorem S8 (k : Nat) (d : D) (r : List D) : GI k (d :: r) = kill k d :: GI k r := (rfl)
theorem LF(k:Nat)(vs:List D):vs.map (kill k)=GI k vs:=by
 induction vs with
 | nil=>rfl
 | cons d r ih=>rw[List.map_cons,ih];rfl
@[go_sem] theorem YS (k : Nat) (vs : List D) (H : ai) : Gp k ⟨vs, H⟩ = if ft k (H.take k) = true then some ⟨GI k vs, H.take k⟩ else none := by
 simp only[Gp,mh,LF]
@[go_sem] theorem IT (H : ai) (n : Nat) (x : T) : eL H n (.t x) = [] := by cases n <;> rfl
@[go_sem] theorem YT (H : ai) (n : Nat) : eL H n .nil = [] := by cases n <;> rfl
@[go_sem] theorem P4 (H : ai) (n id off : Nat) : eL H n (.bp id off) = [] := by cases n <;> rfl
@[go_sem] theorem abl (H : ai) (n f : Nat) (cs : List D) : eL H n (.fn f cs) = [] := by cases n <;> rfl
@[go_sem] theorem abm (H : ai) (n : Nat) (cs : List T) : eL H n (.ep cs) = [] := by cases n <;> rfl
@[go_sem] theorem abn (H : ai) (n a b c d e : Nat) : eL H n (.ap a b c d e) = [] := by cases n <;> rfl
def qh(H:ai)(n:Nat)(cs:List D):List Nat:=cs.flatMap (eL H n)
@[go_sem] theorem V0 (H : ai) (n : Nat) : qh H n [] = [] := (rfl)
@[go_sem] theorem GJ (H : ai) (n : Nat) (d : D) (r : List D) : qh H n (d :: r) = eL H n d ++ qh H n r := (rfl)
@[go_sem] theorem abo (H : ai) (n : Nat) (ts : List T) : qh H n (ts.map .t) = [] := by
 induction ts with
 | nil=>rfl
 | cons t ts ih=>rw[List.map_cons,GJ,ih,IT];rfl
@[go_sem] theorem V1 (H : ai) (n : Nat) (a b : List D) : qh H n (a ++ b) = qh H n a ++ qh H n b := by simp [qh]
@[go_sem] theorem YU (H : ai) (n : Nat) (cs : List D) : eL H (n + 1) (.agg cs) = qh H n cs := (rfl)
def P5(H:ai)(n:Nat):Option Obj→List Nat
 | some (.arr _ _ _ es)=>qh H n es
 | _=>[]
@[go_sem] theorem V2 (H : ai) (n sz ep : Nat) (pin : Bool) (es : List D) : P5 H n (some (.arr sz pin ep es)) = qh H n es := (rfl)
@[go_sem] theorem YV (H : ai) (n id ep m : Nat) : eL H (n + 1) (.ref id ep m) = id :: P5 H n H[id]? := (rfl)
@[go_sem] theorem YW (H : ai) (n id ep m lo hi : Nat) : eL H (n + 1) (.sub id ep m lo hi) = id :: P5 H n H[id]? := (rfl)
@[go_sem] theorem abp : tp [] = .tup [] := (rfl)
@[go_sem] theorem abq (d : D) : tp [d] = d := (rfl)
@[go_sem] theorem abr (a b : D) (r : List D) : tp (a :: b :: r) = .tup (a :: b :: r) := (rfl)
def B8(k:Nat):List Nat→Bool
 | []=>true
 | i::r=> !ltB i k&&B8 k r
@[go_sem] theorem V3 (k : Nat) : B8 k [] = true := (rfl)
@[go_sem] theorem S9 (k i : Nat) (r : List Nat) : B8 k (i :: r) = (!ltB i k && B8 k r) := (rfl)
theorem Fo(k:Nat)(l:List Nat):l.all (fun i=>decide (k≤i))=B8 k l:=by
 induction l with
 | nil=>rfl
 | cons i r ih=>
   rw[List.all_cons,ih]
   simp only[B8,o7]
   congr 1
   rw[Bool.eq_iff_iff];simp
def YX(k raw:Nat)(H:ai)(ds rs:List D):Option (D×ai):=
 (kU H (max raw 1) (List.range k) (rs.flatMap (ids depth)++oe H (List.range k))).bind fun q=>
  if(iy H raw ds).all (fun i=> !(List.range k++q.1).contains i)then
   (bL (ren (idxOf (List.range k++q.1)) depth) rs).bind fun rs'=>
    (bL (gp (idxOf (List.range k++q.1))) (H.take k++q.2)).map fun hs'=>(tp rs',hs')
  else none
def Ta(k raw:Nat)(H:ai)(ds rs:List D)(b:Bool):Option (D×ai):=
 if b then(if B8 k (iy H raw ds)=true then some (tp rs,H.take k)else none)else YX k raw H ds rs
@[go_sem] theorem V4 (k raw : Nat) (H : ai) (ds rs : List D) : Ta k raw H ds rs true = if B8 k (iy H raw ds) = true then some (tp rs, H.take k) else none := (rfl)
def V5(k raw:Nat)(H:ai)(ds rs:List D):Option (D×ai):=Ta k raw H ds rs (fk k 8 rs&&ft k (H.take k))
@[go_sem] theorem abt (k raw : Nat) (H : ai) (ds rs : List D) : V5 k raw H ds rs = Ta k raw H ds rs (fk k 8 rs && ft k (H.take k)) := (rfl)
@[go_sem] theorem V6 (k : Nat) (H : ai) (ds : List D) : finish k 0 H ds = (bL (rP H) ds).bind (V5 k 0 H ds) := by
 simp only[finish,if_true,mh,Fo]
 cases bL (rP H) ds with
 | none=>rfl
 | some rs=>
   simp only[Option.bind_some,V5,Ta]
   show(if(fk k 8 rs&&ft k (H.take k))=true then _ else _)=_
   cases (fk k 8 rs&&ft k (H.take k))<;>rfl
@[go_sem] theorem V7 (H : ai) (ds : List D) : iy H 0 ds = qh H 8 ds := (rfl)
@[go_sem] theorem V8 (vs : List D) : iY [] vs = vs := (rfl)
@[go_sem] theorem Tb (i : Nat) (r : List Nat) (vs : List D) : iY (i :: r) vs = iY r (vs.set i .und) := (rfl)
@[go_sem] theorem abu (dead : List Nat) (k : Nat) (vs : List D) (H : ai) : tidy false dead k ⟨vs, H⟩ = some ⟨iY dead vs, H⟩ := (rfl)
@[go_sem] theorem abv (dead : List Nat) (k : Nat) (vs : List D) (H : ai) : tidy true dead k ⟨vs, H⟩ = Gp k ⟨iY dead vs, H⟩ := (rfl)
section
variable (H : ai) (call : aQ) (f raw : Nat) (keep : List Nat) (ds : List D)
def Aw(H1:ai)(n:Nat)(sel:List Nat)(p:D×ai):Option (D×ai):=
 (ren (ed sel n) depth p.1).bind fun r'=>(bL (gp (ed sel n)) p.2).map fun os=>(r',cW H1 sel (os.take sel.length)++os.drop sel.length)
def sH(H1:ai)(sel:List Nat)(p:D×ai):Option (D×ai):=
 if sel.isEmpty&&p.2.isEmpty&&oR p.1 then some (p.1,H)else Aw H1 H.length sel p
def P6(args:List D)(H1:ai)(sel:List Nat)(hs:ai):Option (D×ai):=(call raw f args hs).bind (sH H H1 sel)
def P7(args:List D)(H1:ai)(sel:List Nat)(hs:ai):Option (D×ai):=(bL (gp (idxOf sel)) hs).bind (P6 H call f raw args H1 sel)
def P8(H1:ai)(sel:List Nat)(args:List D):Option (D×ai):=(pick H1 sel).bind (P7 H call f raw args H1 sel)
def P9(args:List D)(sel:List Nat):Option (D×ai):=(bL (ren (idxOf sel) depth) args).bind (P8 H call f raw (pins H (cn H keep 0 ds)) sel)
def xZ(n:Nat)(cs:List D):List Nat:=cs.flatMap (ids n)
def Qa(args:List D):Option (D×ai):=P9 H call f raw keep ds args (reach H 3 (eM [] (xZ 8 args)))
def IU:Option (D×ai):=(oS H keep 0 ds).bind (Qa H call f raw keep ds)
theorem LG:GG H call f raw keep ds=IU H call f raw keep ds:=(rfl)
@[go_sem] theorem LH : IU H call f raw keep ds = (oS H keep 0 ds).bind (Qa H call f raw keep ds) := (rfl)
@[go_sem] theorem LI (args : List D) : Qa H call f raw keep ds args = P9 H call f raw keep ds args (reach H 3 (eM [] (xZ 8 args))) := (rfl)
@[go_sem] theorem LJ (args : List D) (sel : List Nat) : P9 H call f raw keep ds args sel = (bL (ren (idxOf sel) 8) args).bind (P8 H call f raw (pins H (cn H keep 0 ds)) sel) := (rfl)
@[go_sem] theorem LK (H1 : ai) (sel : List Nat) (args : List D) : P8 H call f raw H1 sel args = (pick H1 sel).bind (P7 H call f raw args H1 sel) := (rfl)
@[go_sem] theorem LL (args : List D) (H1 : ai) (sel : List Nat) (hs : ai) : P7 H call f raw args H1 sel hs = (bL (gp (idxOf sel)) hs).bind (P6 H call f raw args H1 sel) := (rfl)
@[go_sem] theorem LM (args : List D) (H1 : ai) (sel : List Nat) (hs : ai) : P6 H call f raw args H1 sel hs = (call raw f args hs).bind (sH H H1 sel) := (rfl)
def LN(H1:ai)(sel:List Nat)(r:D)(os:ai):Option (D×ai):=some (r,cW H1 sel (os.take sel.length)++os.drop sel.length)
@[go_sem] theorem LO (H1 : ai) (sel : List Nat) (r : D) (os : ai) : LN H1 sel r os = some (r, cW H1 sel (os.take sel.length) ++ os.drop sel.length) := (rfl)
def Qb(H1:ai)(n:Nat)(sel:List Nat)(os:ai)(r:D):Option (D×ai):=(bL (gp (ed sel n)) os).bind (LN H1 sel r)
@[go_sem] theorem Fp (H1 : ai) (n : Nat) (sel : List Nat) (os : ai) (r : D) : Qb H1 n sel os r = (bL (gp (ed sel n)) os).bind (LN H1 sel r) := (rfl)
@[go_sem] theorem Fq (H1 : ai) (n : Nat) (sel : List Nat) (r : D) (os : ai) : Aw H1 n sel (r, os) = (ren (ed sel n) 8 r).bind (Qb H1 n sel os) := by
 simp only[Aw,depth]
 cases ren (ed sel n) 8 r with
 | none=>rfl
 | some r'=>simp only[Option.bind_some,Qb];cases bL (gp (ed sel n)) os<;>rfl
@[go_sem] theorem V9 (H1 : ai) (i : Nat) (sel : List Nat) (p : D × ai) : sH H H1 (i :: sel) p = Aw H1 H.length (i :: sel) p := (rfl)
@[go_sem] theorem YY (H1 : ai) (sel : List Nat) (r : D) (o : Obj) (os : ai) : sH H H1 sel (r, o :: os) = Aw H1 H.length sel (r, o :: os) := by
 simp[sH]
@[go_sem] theorem abw (H1 : ai) (k : IntKind) (n : Int) : sH H H1 [] (.t (.int k n), []) = some (.t (.int k n), H) := (rfl)
@[go_sem] theorem abx (H1 : ai) (b : Bool) : sH H H1 [] (.t (.bool b), []) = some (.t (.bool b), H) := (rfl)
@[go_sem] theorem YZ (H1 : ai) (es : List T) : sH H H1 [] (.t (.sl es), []) = some (.t (.sl es), H1) := by simp [sH, Aw, oR, T.scalar, ren, depth, bL, cW]
@[go_sem] theorem Wb (H1 : ai) (es : List T) : sH H H1 [] (.t (.agg es), []) = some (.t (.agg es), H1) := by simp [sH, Aw, oR, T.scalar, ren, depth, bL, cW]
@[go_sem] theorem Wc (H1 : ai) (ds : List D) : sH H H1 [] (.tup ds, []) = if ds.all kA then some (.tup ds, H) else Aw H1 H.length [] (.tup ds, []) := by
 simp[sH,oR]
def Qc:Option (List T)→Option (D×ai)
 | some ts=>(call raw f (ts.map .t) []).bind (xY H)
 | none=>IU H call f raw [] ds
@[go_sem] theorem Tc (ts : List T) : Qc H call f raw ds (some ts) = (call raw f (ts.map .t) []).bind (xY H) := (rfl)
@[go_sem] theorem Td : Qc H call f raw ds none = IU H call f raw [] ds := (rfl)
@[go_sem] theorem aby : GG H call f raw [] ds = Qc H call f raw ds (lY H ds) := by
 cases h:lY H ds with
 | none=>rfl
 | some ts=>exact IS H call f raw ds ts h
@[go_sem] theorem adf (k : Nat) : GG H call f raw (k :: keep) ds = IU H call f raw (k :: keep) ds := (rfl)
end
section
variable (H : ai) (keep : List Nat)
@[go_sem] theorem Wd (i : Nat) : oS H keep i [] = some [] := (rfl)
def Di(i:Nat):List Nat→Bool
 | []=>false
 | j::r=>eqB i j||Di i r
@[go_sem] theorem Y0 (i : Nat) : Di i [] = false := (rfl)
@[go_sem] theorem We (i j : Nat) (r : List Nat) : Di i (j :: r) = (eqB i j || Di i r) := (rfl)
theorem Ax(i:Nat)(l:List Nat):l.contains i=Di i l:=by
 induction l with
 | nil=>rfl
 | cons j r ih=>rw[List.contains_cons,ih];simp only[Di,DP];rw[beq_eq_decide_nat]
where beq_eq_decide_nat {a b:Nat}:(a==b)=decide (a=b):=by rw[Bool.eq_iff_iff];simp
def abz(d:D):Bool→Option D
 | true=>some d
 | false=>rP H d
@[go_sem] theorem adg (d : D) : abz H d true = some d := (rfl)
@[go_sem] theorem Nz (d : D) : abz H d false = rP H d := (rfl)
def adh(i:Nat)(r:List D)(x:D):Option (List D):=kG x (oS H keep (i+1) r)
@[go_sem] theorem IV (i : Nat) (r : List D) (x : D) : adh H keep i r x = kG x (oS H keep (i + 1) r) := (rfl)
@[go_sem] theorem zB (i : Nat) (d : D) (r : List D) : oS H keep i (d :: r) = (abz H d (Di i keep)).bind (adh H keep i r) := by
 simp only[oS,Ax]
 cases Di i keep<;>rfl
@[go_sem] theorem KN (i : Nat) : cn H keep i [] = [] := (rfl)
def frK(l:List Nat):Bool→List Nat
 | true=>[]
 | false=>l
@[go_sem] theorem aei (l : List Nat) : frK l true = [] := (rfl)
@[go_sem] theorem Wf (l : List Nat) : frK l false = l := (rfl)
@[go_sem] theorem qx (i : Nat) (d : D) (r : List D) : cn H keep i (d :: r) = frK (eL H 8 d) (Di i keep) ++ cn H keep (i + 1) r := by
 simp only[cn,Ax]
 cases Di i keep<;>rfl
@[go_sem] theorem Y1 (H : ai) : pins H [] = H := (rfl)
@[go_sem] theorem Wg (H : ai) (i : Nat) (r : List Nat) : pins H (i :: r) = pins (H.modify i EU) r := (rfl)
def GK(i:Nat):Option Obj→ai
 | some (.arr sz _ ep es)=>H.set i (.arr sz true ep es)
 | _=>H
@[go_sem] theorem Wi (i : Nat) (cs : List D) : GK H i (some (.box cs)) = H := (rfl)
@[go_sem] theorem Wj (i sz ep : Nat) (pin : Bool) (es : List D) : GK H i (some (.arr sz pin ep es)) = H.set i (.arr sz true ep es) := (rfl)
theorem Ay{α:Type}{l:List α}{i:Nat}{x:α}(h:l[i]?=some x):l.set i x=l:=by
 apply List.ext_getElem?
 intro j
 rw[List.getElem?_set]
 split
 · rename_i e;subst e
   split
   · exact h.symm
   · rename_i hl;rw[List.getElem?_eq_none (by omega)]at h;cases h
 · rfl
@[go_sem] theorem Te (i : Nat) : List.modify H i EU = GK H i H[i]? := by
 apply List.ext_getElem?
 intro j
 rw[List.getElem?_modify]
 cases h:H[i]? with
 | none=>
   simp only[GK]
   by_cases e:i=j
   · subst e;rw[h];simp
   · simp[e]
 | some o=>
   have hi:i<H.length:=(List.getElem?_eq_some_iff.1 h).1
   cases o with
   | box cs=>
     simp only[GK]
     by_cases e:i=j
     · subst e;rw[h];simp[EU]
     · simp[e]
   | arr sz pin ep es=>
     simp only[GK]
     rw[List.getElem?_set]
     by_cases e:i=j
     · subst e;rw[h];simp[EU,hi]
     · simp[e]
section
variable (n : Nat)
@[go_sem] theorem aej (x : T) : ids n (.t x) = [] := by cases n <;> rfl
@[go_sem] theorem abA : ids n .nil = [] := by cases n <;> rfl
@[go_sem] theorem Y2 : ids n .nilp = [] := by cases n <;> rfl
@[go_sem] theorem abB : ids n .und = [] := by cases n <;> rfl
@[go_sem] theorem adi (cs : List T) : ids n (.ep cs) = [] := by cases n <;> rfl
@[go_sem] theorem Wk (id off : Nat) : ids n (.bp id off) = [id] := by cases n <;> rfl
@[go_sem] theorem adj (id ep m i off : Nat) : ids n (.ap id ep m i off) = [id] := by cases n <;> rfl
@[go_sem] theorem abC (id ep m : Nat) : ids n (.ref id ep m) = [id] := by cases n <;> rfl
@[go_sem] theorem abD (id ep m lo hi : Nat) : ids n (.sub id ep m lo hi) = [id] := by cases n <;> rfl
@[go_sem] theorem abE (cs : List D) : ids (n + 1) (.agg cs) = xZ n cs := (rfl)
@[go_sem] theorem abF (cs : List D) : ids (n + 1) (.tup cs) = xZ n cs := (rfl)
@[go_sem] theorem Wl (f : Nat) (cs : List D) : ids (n + 1) (.fn f cs) = xZ n cs := (rfl)
@[go_sem] theorem LP : xZ n [] = [] := (rfl)
@[go_sem] theorem IW (d : D) (r : List D) : xZ n (d :: r) = ids n d ++ xZ n r := (rfl)
@[go_sem] theorem Fs (ts : List T) : xZ n (ts.map .t) = [] := IP ts n
@[go_sem] theorem Ft (a b : List D) : xZ n (a ++ b) = xZ n a ++ xZ n b := by simp [xZ]
@[go_sem] theorem Y3 (m : Nat) (x : T) : xZ n (List.replicate m (.t x)) = [] := by
 have:List.replicate m (D.t x)=(List.replicate m x).map .t:=by simp
 rw[this,Fs]
end
def IX(sel:List Nat)(i:Nat):Bool→List Nat
 | true=>sel
 | false=>sel++[i]
@[go_sem] theorem Y4 (sel : List Nat) (i : Nat) : IX sel i true = sel := (rfl)
@[go_sem] theorem Y5 (sel : List Nat) (i : Nat) : IX sel i false = sel ++ [i] := (rfl)
@[go_sem] theorem Tf (sel : List Nat) : eM sel [] = sel := (rfl)
@[go_sem] theorem Qd (sel : List Nat) (i : Nat) (r : List Nat) : eM sel (i :: r) = eM (IX sel i (Di i sel)) r := by
 simp only[eM,Ax]
 cases Di i sel<;>rfl
def Fu:Option Obj→List Nat
 | some (.box cs)=>xZ 8 cs
 | some (.arr _ _ _ es)=>xZ 8 es
 | none=>[]
@[go_sem] theorem Tg (cs : List D) : Fu (some (.box cs)) = xZ 8 cs := (rfl)
@[go_sem] theorem Th (sz ep : Nat) (pin : Bool) (es : List D) : Fu (some (.arr sz pin ep es)) = xZ 8 es := (rfl)
@[go_sem] theorem Wm : oe H [] = [] := (rfl)
@[go_sem] theorem Ti (i : Nat) (r : List Nat) : oe H (i :: r) = Fu H[i]? ++ oe H r := by
 simp only[oe,List.flatMap_cons]
 congr 1
 cases H[i]? with
 | none=>rfl
 | some o=>cases o<;>rfl
@[go_sem] theorem abG (sel : List Nat) : reach H 0 sel = sel := (rfl)
@[go_sem] theorem abH (n : Nat) (sel : List Nat) : reach H (n + 1) sel = reach H n (eM sel (oe H sel)) := (rfl)
@[go_sem] theorem Y6 : pick H [] = some [] := (rfl)
def Wn(r:List Nat)(o:Obj):Option ai:=kG o (pick H r)
@[go_sem] theorem LQ (r : List Nat) (o : Obj) : Wn H r o = kG o (pick H r) := (rfl)
@[go_sem] theorem IY (i : Nat) (r : List Nat) : pick H (i :: r) = H[i]?.bind (Wn H r) := (rfl)
end
section
variable (f : Nat → Option Nat) (n : Nat)
@[go_sem] theorem abI (x : T) : ren f n (.t x) = some (.t x) := by cases n <;> rfl
@[go_sem] theorem abJ : ren f n .nil = some .nil := by cases n <;> rfl
@[go_sem] theorem Y7 : ren f n .nilp = some .nilp := by cases n <;> rfl
@[go_sem] theorem abK : ren f n .und = some .und := by cases n <;> rfl
@[go_sem] theorem adk (cs : List T) : ren f n (.ep cs) = some (.ep cs) := by cases n <;> rfl
def adl(off:Nat)(i:Nat):D:= .bp i off
@[go_sem] theorem abL (off i : Nat) : adl off i = .bp i off := (rfl)
@[go_sem] theorem Wo (id off : Nat) : ren f n (.bp id off) = (f id).map (adl off) := by cases n <;> rfl
def adm(ep m i off:Nat)(j:Nat):D:= .ap j ep m i off
@[go_sem] theorem abM (ep m i off j : Nat) : adm ep m i off j = .ap j ep m i off := (rfl)
@[go_sem] theorem adn (id ep m i off : Nat) : ren f n (.ap id ep m i off) = (f id).map (adm ep m i off) := by cases n <;> rfl
def Wp(ep m:Nat)(j:Nat):D:= .ref j ep m
@[go_sem] theorem Y8 (ep m j : Nat) : Wp ep m j = .ref j ep m := (rfl)
@[go_sem] theorem abN (id ep m : Nat) : ren f n (.ref id ep m) = (f id).map (Wp ep m) := by cases n <;> rfl
def Wq(ep m lo hi:Nat)(j:Nat):D:= .sub j ep m lo hi
@[go_sem] theorem Y9 (ep m lo hi j : Nat) : Wq ep m lo hi j = .sub j ep m lo hi := (rfl)
@[go_sem] theorem abO (id ep m lo hi : Nat) : ren f n (.sub id ep m lo hi) = (f id).map (Wq ep m lo hi) := by cases n <;> rfl
@[go_sem] theorem Ws (g : Nat) (cs : List D) : ren f (n + 1) (.fn g cs) = (bL (ren f n) cs).map (.fn g) := (rfl)
@[go_sem] theorem abP (cs : List D) : ren f (n + 1) (.agg cs) = (bL (ren f n) cs).map .agg := (rfl)
@[go_sem] theorem abQ (cs : List D) : ren f (n + 1) (.tup cs) = (bL (ren f n) cs).map .tup := (rfl)
@[go_sem] theorem rz (ts : List T) : bL (ren f n) (ts.map .t) = some (ts.map .t) := by
 induction ts with
 | nil=>rfl
 | cons t ts ih=>rw[List.map_cons,B4,abI,Option.bind_some,PC,ih];rfl
@[go_sem] theorem NA (m : Nat) (x : T) : bL (ren f n) (List.replicate m (.t x)) = some (List.replicate m (.t x)) := by
 have:List.replicate m (D.t x)=(List.replicate m x).map .t:=by simp
 rw[this,rz]
@[go_sem] theorem GL (cs : List D) : gp f (.box cs) = (bL (ren f 8) cs).map .box := (rfl)
@[go_sem] theorem Tj (sz ep : Nat) (pin : Bool) (es : List D) : gp f (.arr sz pin ep es) = (bL (ren f 8) es).map (.arr sz pin ep) := (rfl)
end
def Tk(x:Option Nat):Bool→Option Nat
 | true=>some 0
 | false=>x.map (· +1)
@[go_sem] theorem ado (x : Option Nat) : Tk x true = some 0 := (rfl)
@[go_sem] theorem adp (k : Nat) : Tk (some k) false = some (k + 1) := (rfl)
@[go_sem] theorem adq : Tk none false = none := (rfl)
@[go_sem] theorem idxOf_nil (i : Nat) : idxOf [] i = none := (rfl)
@[go_sem] theorem idxOf_cons (j i : Nat) (r : List Nat) : idxOf (j :: r) i = Tk (idxOf r i) (eqB j i) := by
 simp only[idxOf,DP]
 by_cases h:j=i
 · simp[h,Tk]
 · simp[h,Tk]
@[go_sem] theorem Tl (n i : Nat) : ed [] n i = some (n + i) := by simp [ed]
@[go_sem] theorem Za (j n : Nat) (r : List Nat) : ed (j :: r) n 0 = some j := by simp [ed]
@[go_sem] theorem Zb (j n i : Nat) (r : List Nat) : ed (j :: r) n (i + 1) = ed r n i := by
 simp only[ed,List.length_cons,Nat.add_lt_add_iff_right,List.getElem?_cons_succ,Nat.add_sub_add_right]
@[go_sem] theorem Qe {α : Type} (H os : List α) : cW H [] os = H := by cases os <;> rfl
@[go_sem] theorem NB {α : Type} (H : List α) (i : Nat) (r : List Nat) (o : α) (os : List α) : cW H (i :: r) (o :: os) = cW (H.set i o) r os := (rfl)
def lbP(sz:Nat)(p:List D×ai):List D×ai:=(p.1,.arr sz false 0 []::p.2)
@[go_sem] theorem adr (sz : Nat) (cs : List D) (os : ai) : lbP sz (cs, os) = (cs, .arr sz false 0 [] :: os) := (rfl)
def lbC(base:Nat)(cs:List D)(off sz:Nat)(r:List (Nat×Nat)):Option D→List D×ai
 | some .nil=>lbP sz (bM (base+1) (cs.set off (.ref base 0 0)) r)
 | _=>bM base cs r
@[go_sem] theorem abR (base : Nat) (cs : List D) (off sz : Nat) (r : List (Nat × Nat)) : lbC base cs off sz r (some .nil) = lbP sz (bM (base + 1) (cs.set off (.ref base 0 0)) r) := (rfl)
@[go_sem] theorem aek (base : Nat) (cs : List D) (off sz : Nat) (r : List (Nat × Nat)) (x : T) : lbC base cs off sz r (some (.t x)) = bM base cs r := (rfl)
@[go_sem] theorem abS (base : Nat) (cs : List D) (off sz : Nat) (r : List (Nat × Nat)) (a b c : Nat) : lbC base cs off sz r (some (.ref a b c)) = bM base cs r := (rfl)
@[go_sem] theorem NC (base : Nat) (cs : List D) (off sz : Nat) (r : List (Nat × Nat)) : bM base cs ((off, sz) :: r) = lbC base cs off sz r cs[off]? := by
 simp only[bM,lbC]
 split<;>split<;>simp_all [lbP]
def lvP(H:ai)(id:Nat)(p:List D×ai):Option (D×ai):=some (.tup [],H.set id (.box p.1)++p.2)
@[go_sem] theorem ads (H : ai) (id : Nat) (cs : List D) (os : ai) : lvP H id (cs, os) = some (.tup [], H.set id (.box cs) ++ os) := (rfl)
def lvB(H:ai)(id:Nat)(l:List (Nat×Nat)):Option Obj→Option (D×ai)
 | some (.box cs)=>lvP H id (bM H.length cs l)
 | _=>none
@[go_sem] theorem adt (H : ai) (id : Nat) (l : List (Nat × Nat)) (cs : List D) : lvB H id l (some (.box cs)) = lvP H id (bM H.length cs l) := (rfl)
@[go_sem] theorem Qf (H : ai) (id : Nat) (x : Nat × Nat) (r : List (Nat × Nat)) : zz H id (x :: r) = lvB H id (x :: r) H[id]? := by
 simp only[zz,oT]
 generalize H[id]?=o
 rcases o with _ | (cs | _)
 · rfl
 · rfl
 · rfl
section
variable (H : ai)
def klE(n:Nat)(sel new:List Nat)(os:ai)(q:List Nat×ai):Option (List Nat×ai):=some (new++q.1,os++q.2)
@[go_sem] theorem adu (n : Nat) (sel new : List Nat) (os : ai) (a : List Nat) (b : ai) : klE n sel new os (a, b) = some (new ++ a, os ++ b) := (rfl)
def klD(n:Nat)(sel new:List Nat)(os:ai):Option (List Nat×ai):=(kU H n (sel++new) (oe H new)).bind (klE n sel new os)
@[go_sem] theorem adv (n : Nat) (sel new : List Nat) (os : ai) : klD H n sel new os = (kU H n (sel ++ new) (oe H new)).bind (klE n sel new os) := (rfl)
def vR(sel:List Nat):List Nat→Bool
 | []=>true
 | i::r=> !Di i sel&&vR sel r
@[go_sem] theorem Tm (sel : List Nat) : vR sel [] = true := (rfl)
@[go_sem] theorem Qg (sel : List Nat) (i : Nat) (r : List Nat) : vR sel (i :: r) = (!Di i sel && vR sel r) := (rfl)
theorem B9(sel l:List Nat):l.all (fun i=> !sel.contains i)=vR sel l:=by
 induction l with
 | nil=>rfl
 | cons i r ih=>rw[List.all_cons,ih,Ax];rfl
def klC(n:Nat)(sel new:List Nat)(os:ai):Option (List Nat×ai):=
 (if n=0 then(if(os.flatMap fun o=>o.ds.flatMap (eL H depth)).all (fun i=> !(sel++new).contains i)then bL (dS H) os else none)else some os).bind (klD H n sel new)
def tU:ai→List Nat
 | []=>[]
 | .box cs::r=>qh H 8 cs++tU r
 | .arr _ _ _ es::r=>qh H 8 es++tU r
@[go_sem] theorem Tn : tU H [] = [] := (rfl)
@[go_sem] theorem To (cs : List D) (r : ai) : tU H (.box cs :: r) = qh H 8 cs ++ tU H r := (rfl)
@[go_sem] theorem Tp (sz ep : Nat) (pin : Bool) (es : List D) (r : ai) : tU H (.arr sz pin ep es :: r) = qh H 8 es ++ tU H r := (rfl)
theorem IZ(os:ai):(os.flatMap fun o=>o.ds.flatMap (eL H depth))=tU H os:=by
 induction os with
 | nil=>rfl
 | cons o r ih=>rw[List.flatMap_cons,ih];cases o<;>rfl
@[go_sem] theorem ael (sel new : List Nat) (os : ai) : klC H 0 sel new os = (if vR (sel ++ new) (tU H os) = true then bL (dS H) os else none).bind (klD H 0 sel new) := by
 simp only[klC,IZ,B9,if_true]
@[go_sem] theorem aem (n : Nat) (sel new : List Nat) (os : ai) : klC H (n + 1) sel new os = klD H (n + 1) sel new os := by
 simp[klC]
def klN(n:Nat)(sel new:List Nat):Option (List Nat×ai):=(pick H new).bind (klC H n sel new)
@[go_sem] theorem adw (n : Nat) (sel new : List Nat) : klN H n sel new = (pick H new).bind (klC H n sel new) := (rfl)
@[go_sem] theorem Zc (sel front : List Nat) : kU H 0 sel front = some ([], []) := (rfl)
@[go_sem] theorem Zd (n : Nat) (sel front : List Nat) : kU H (n + 1) sel front = klN H n sel ((eM sel front).drop sel.length) := by
 simp only[kU,klN]
 generalize (eM sel front).drop sel.length=new
 cases pick H new with
 | none=>rfl
 | some os=>
   simp only[Option.bind_some,klC]
   congr 1
   funext os'
   simp only[klD]
   cases kU H n (sel++new) (oe H new)<;>rfl
@[go_sem] theorem LR (cs : List D) : dS H (.box cs) = (bL (rP H) cs).map .box := (rfl)
@[go_sem] theorem Az (sz ep : Nat) (pin : Bool) (ts : List T) : dS H (.arr sz pin ep (ts.map .t)) = some (.arr sz pin ep (ts.map .t)) := by
 simp only[dS,tT,Option.map_some]
@[go_sem] theorem LS (sz ep : Nat) (pin : Bool) : dS H (.arr sz pin ep []) = some (.arr sz pin ep []) := (rfl)
@[go_sem] theorem LU (sz ep : Nat) (pin : Bool) (m : Nat) (x : T) : dS H (.arr sz pin ep (List.replicate m (.t x))) = some (.arr sz pin ep (List.replicate m (.t x))) := by
 have:List.replicate m (D.t x)=(List.replicate m x).map .t:=by simp
 rw[this,Az]
def abT(k raw:Nat)(H:ai)(ds rs:List D)(q:List Nat×ai):Option (D×ai):=
 if vR (List.range k++q.1) (iy H raw ds)=true then
  (bL (ren (idxOf (List.range k++q.1)) depth) rs).bind fun rs'=>(bL (gp (idxOf (List.range k++q.1))) (H.take k++q.2)).map fun hs'=>(tp rs',hs')
 else none
def I0(sel:List Nat)(H2:ai)(rs':List D):Option (D×ai):=(bL (gp (idxOf sel)) H2).bind (finT3 rs')
where finT3 (rs':List D) (hs:ai):Option (D×ai):=some (tp rs',hs)
@[go_sem] theorem Ze (rs' : List D) (hs : ai) : I0.finT3 rs' hs = some (tp rs', hs) := (rfl)
@[go_sem] theorem Zf (sel : List Nat) (H2 : ai) (rs' : List D) : I0 sel H2 rs' = (bL (gp (idxOf sel)) H2).bind (I0.finT3 rs') := (rfl)
@[go_sem] theorem abU (k raw : Nat) (ds rs : List D) (sel : List Nat) (os : ai) : abT k raw H ds rs (sel, os) =
 if vR (List.range k++sel) (iy H raw ds)=true then(bL (ren (idxOf (List.range k++sel)) 8) rs).bind (I0 (List.range k++sel) (H.take k++os))else none:=by
 simp only[abT,depth]
 split
 · cases bL (ren (idxOf (List.range k++sel)) 8) rs with
   | none=>rfl
   | some rs'=>simp only[Option.bind_some,I0];cases bL (gp (idxOf (List.range k++sel))) (H.take k++os)<;>rfl
 · rfl
@[go_sem] theorem abV (k raw : Nat) (ds rs : List D) : YX k raw H ds rs = (kU H (max raw 1) (List.range k) (xZ 8 rs ++ oe H (List.range k))).bind (abT k raw H ds rs) := by
 simp only[YX,B9,xZ,depth];rfl
@[go_sem] theorem Tq (k raw : Nat) (ds rs : List D) : Ta k raw H ds rs false = YX k raw H ds rs := (rfl)
@[go_sem] theorem Ts (k raw : Nat) (ds : List D) : finish k (raw + 1) H ds = V5 k (raw + 1) H ds ds := by
 simp only[finish,Nat.add_one_ne_zero,if_false,Option.bind_some,mh,Fo,V5,Ta]
 show(if(fk k 8 ds&&ft k (H.take k))=true then _ else _)=_
 cases (fk k 8 ds&&ft k (H.take k))<;>rfl
@[go_sem] theorem Qh (raw : Nat) (ds : List D) : iy H (raw + 1) ds = [] := by simp [iy]
@[go_sem] theorem Zg : max 0 1 = 1 := (rfl)
@[go_sem] theorem abW (r : Nat) : max (r + 1) 1 = r + 1 := by omega
@[go_sem] theorem Tt : List.range 0 = [] := (rfl)
@[go_sem] theorem Tu : List.range 1 = [0] := (rfl)
@[go_sem] theorem Tv : List.range 2 = [0, 1] := (rfl)
@[go_sem] theorem Tw : List.range 3 = [0, 1, 2] := (rfl)
@[go_sem] theorem Tx : List.range 4 = [0, 1, 2, 3] := (rfl)
end
theorem Fv{α:Type}(f:α→T)(l:List α)(i:Nat)(x:α)(y:D)(h:y= .t (f x)):((l.map f).map D.t).set i y=((l.set i x).map f).map D.t:=by
 rw[h,List.map_map,List.map_map]
 exact(List.map_set (f:=D.t ∘ f)).symm
@[go_sem] theorem abX (l : List Int) (i : Nat) (k : IntKind) (x : Int) : ((l.map (T.int k)).map D.t).set i (.t (.int k x)) = ((l.set i x).map (T.int k)).map D.t := Fv _ l i x _ rfl
@[go_sem] theorem Zh (l : List Bool) (i : Nat) (x : Bool) : ((l.map T.bool).map D.t).set i (.t (.bool x)) = ((l.set i x).map T.bool).map D.t := Fv _ l i x _ rfl
end Go.Ev
namespace Go.Ev
class Lib where
 fs:Nat→Option Fn
end Go.Ev
namespace Go.Ev.K
abbrev u(x:O):R:={ o:=x}
abbrev w(n:Nat)(x:O):R:={ o:=x,d:=some n}
abbrev y(n:Nat)(b:Bool)(x:O):R:={ o:=x,g:=some (n,b)}
abbrev m(x:X):R:={ o:= .mv x}
abbrev g(x:X):R:={ o:= .ld x 1 false}
abbrev h(n:Nat)(x:X):R:={ o:= .ld x n true}
abbrev f(n:Nat)(x:X):R:={ o:= .fa x n}
abbrev a(n:Nat)(x z:X):R:={ o:= .ia x z n}
abbrev l0:X:= .l 0
abbrev l1:X:= .l 1
abbrev l2:X:= .l 2
abbrev l3:X:= .l 3
abbrev l4:X:= .l 4
abbrev l5:X:= .l 5
abbrev l6:X:= .l 6
abbrev l7:X:= .l 7
abbrev l8:X:= .l 8
abbrev l9:X:= .l 9
abbrev l10:X:= .l 10
abbrev l11:X:= .l 11
abbrev v0:X:= .v 0
abbrev v1:X:= .v 1
abbrev v2:X:= .v 2
abbrev v3:X:= .v 3
abbrev v4:X:= .v 4
abbrev v5:X:= .v 5
abbrev v6:X:= .v 6
abbrev v7:X:= .v 7
abbrev v8:X:= .v 8
abbrev v9:X:= .v 9
abbrev v10:X:= .v 10
abbrev v11:X:= .v 11
abbrev v12:X:= .v 12
abbrev v13:X:= .v 13
abbrev v14:X:= .v 14
abbrev v15:X:= .v 15
abbrev v16:X:= .v 16
abbrev v17:X:= .v 17
abbrev v18:X:= .v 18
abbrev v19:X:= .v 19
abbrev v20:X:= .v 20
abbrev v21:X:= .v 21
abbrev v22:X:= .v 22
abbrev v23:X:= .v 23
end Go.Ev.K
namespace Go.Ev.N
def DR:Nat:=0
def gM:Nat:=1
def Qi:Nat:=2
def i6:Nat:=3
def cj:Nat:=4
def Ty:Nat:=5
def HO:Nat:=6
def I1:Nat:=7
def bT:Nat:=8
def aA:Nat:=9
def dg:Nat:=10
def GM:Nat:=11
def gG:Nat:=12
def KO:Nat:=13
def I2:Nat:=14
def cq:Nat:=15
def bW:Nat:=16
def Qj:Nat:=17
def ND:Nat:=18
def cX:Nat:=19
def bk:Nat:=20
def fV:Nat:=21
def dz:Nat:=22
def jt:Nat:=23
def NF:Nat:=24
def I3:Nat:=25
def KP:Nat:=26
def cL:Nat:=27
def du:Nat:=28
def Qk:Nat:=29
def i7:Nat:=30
def Ql:Nat:=31
def Tz:Nat:=32
def Qm:Nat:=33
def NG:Nat:=34
def dT:Nat:=35
def dE:Nat:=36
def dF:Nat:=37
def cD:Nat:=38
def bw:Nat:=39
def gN:Nat:=40
def dG:Nat:=41
def gO:Nat:=42
def dH:Nat:=43
def cF:Nat:=44
def gH:Nat:=45
def cG:Nat:=46
def dI:Nat:=47
def KQ:Nat:=48
def aF:Nat:=49
def GN:Nat:=50
def aS:Nat:=51
def HP:Nat:=52
def KR:Nat:=53
def fW:Nat:=54
def TA:Nat:=55
def dh:Nat:=56
def eW:Nat:=57
def dJ:Nat:=58
def fX:Nat:=59
def eo:Nat:=60
def cK:Nat:=61
def bX:Nat:=62
def fY:Nat:=63
def b9:Nat:=64
def et:Nat:=65
def bh:Nat:=66
def bD:Nat:=67
def HQ:Nat:=68
def av:Nat:=69
def Fw:Nat:=70
def eI:Nat:=71
def dK:Nat:=72
def cY:Nat:=73
def fZ:Nat:=74
def aC:Nat:=75
def bQ:Nat:=76
def gP:Nat:=77
end Go.Ev.N
namespace Go.Ev.K
open Go.Ev
def gM:Fn:={ nargs:=1,vars:=[0,2],body:=(.seq (.reg [w 1 (.mv (.b false))] []) (.seq (.reg [m v0,u (.ln l0),u (.bin .leq l0 (.i 400)),w 1 (.mv l0)] []) .ret)),res:=[(1,none)]}
def i6:Fn:={ nargs:=1,vars:=[0,2],body:=(.seq (.reg [w 1 (.mv (.c (.nilp)))] []) (.seq (.reg [m v0,u (.bd [.nil,.t (.int .i64 (0))] [(0,1,.l 0)]),u (.bx l0 2),w 1 (.mv l0)] []) .ret)),res:=[(1,none)]}
def hX:C:=(.seq (.ite [m v4,m v3,u (.bin .lss l1 l0)] [] 0 .skip (.exit 0)) (.seq (.blk 1 (.reg [f 0 v2,g l0,m v0,u (.ca N.aA 0 [] [.l 0,.i 4]),u (.bin .mul (.i (-10)) l0),m v4,u (.bin .eql l0 (.i 0)),m l0,y 0 false (.mv v0),y 1 false (.ca N.cq 0 [] [.l 0,.i 6]),u (.pk l2 (.b true) l0),u (.bd [.t (.int .i64 (0)),.t (.bool false)] [(0,1,.l 6),(1,1,.l 0)]),u (.bs [.l 0] 2),u (.app l11 l0 true 2),f 0 v2,u (.st l0 l1 1 [])] [(1,4),(1,10),(1,13)])) (.reg [m v4,u (.bin .add l0 (.i 1)),w 4 (.mv l0)] [])))
def ot:C:= .loop true [5,6,7,8,9] K.hX
def jZ:C:=(.seq (.ite [m v6,m v3,u (.bin .lss l1 l0)] [] 0 .skip (.exit 2)) (.seq (.blk 3 (.seq (.reg [h 10 v5,w 7 (.al [.t (.int .i64 (0)),.t (.int .i64 (0)),.t (.int .i64 (0)),.t (.int .i64 (0)),.t (.bool false),.t (.bool false),.t (.int .i64 (0)),.t (.int .i64 (0)),.t (.int .i64 (0)),.t (.int .i64 (0))] []),u (.st l0 l1 10 [])] []) (.seq (.reg [m v6,u (.bin .sub l0 (.i 1)),m v0,m v6,u (.mn [.l 0,.i 2]),u (.ca N.aA 0 [] [.l 2,.l 0]),u (.bin .sub l4 l0),m v6,m v0,u (.bs [.i 11,.i 59,.i 119,.i 4] 1),u (.ca N.dg 0 [] [.l 1,.l 0]),u (.bin .add (.i 1) l0),m v0,u (.bs [.i 9,.i 3,.i 19] 1),u (.ca N.dg 0 [] [.l 1,.l 0]),u (.bin .add (.i 1) l0),f 0 v7,u (.st l0 l10 1 []),f 1 v7,u (.st l0 l11 1 []),f 2 v7,u (.st l0 l9 1 []),f 3 v7,u (.st l0 l7 1 [])] []) (.reg [f 1 v2,g l0,h 10 v7,u (.bs [.l 0] 10),u (.app l2 l0 true 10),f 1 v2,u (.st l0 l1 1 [])] [])))) (.reg [m v6,u (.bin .add l0 (.i 1)),w 6 (.mv l0)] [])))
def ou:C:= .loop true [4,7,8,9] K.jZ
def dv:C:=(.seq (.ite [m v8,u (.bin .gtr l0 (.i 0)),m l0,y 0 true (.fa v2 1),y 1 true (.ld l0 1 false),y 2 true (.ln l0),y 3 true (.bin .lss l0 (.i 10)),u (.pk l4 l0 (.b false))] [] 0 .skip (.exit 4)) (.seq (.blk 5 (.seq (.reg [h 10 v5,w 9 (.al [.t (.int .i64 (0)),.t (.int .i64 (0)),.t (.int .i64 (0)),.t (.int .i64 (0)),.t (.bool false),.t (.bool false),.t (.int .i64 (0)),.t (.int .i64 (0)),.t (.int .i64 (0)),.t (.int .i64 (0))] []),u (.st l0 l1 10 [])] []) (.seq (.reg [m v0,m v3,u (.ca N.aA 0 [] [.l 1,.l 0]),m v0,m v3,u (.ca N.aA 0 [] [.l 1,.l 0]),m v0,u (.bs [.i 11,.i 59,.i 199] 1),u (.ca N.dg 0 [] [.l 1,.l 0]),u (.bin .add (.i 1) l0),m v0,u (.bs [.i 9,.i 3] 1),u (.ca N.dg 0 [] [.l 1,.l 0]),u (.bin .add (.i 1) l0),f 0 v9,u (.st l0 (.l 12) 1 []),f 1 v9,u (.st l0 l11 1 []),f 2 v9,u (.st l0 l9 1 []),f 3 v9,u (.st l0 l7 1 [])] []) (.seq (.reg [m v0,u (.ca N.aA 0 [] [.l 0,.i 5]),u (.bin .gtr l0 (.i 0)),m v0,u (.ca N.cq 0 [] [.l 0,.i 6]),f 4 v9,u (.st l0 l3 1 []),f 5 v9,u (.st l0 l3 1 [])] []) (.ite [f 0 v9,g l0,f 1 v9,g l0,u (.bin .neq l2 l0)] [] 0 (.reg [f 1 v2,g l0,h 10 v9,u (.bs [.l 0] 10),u (.app l2 l0 true 10),f 1 v2,u (.st l0 l1 1 [])] []) .skip))))) (.reg [m v8,u (.bin .sub l0 (.i 1)),w 8 (.mv l0)] [])))
def ov:C:= .loop true [4,6,7,9] K.dv
def cj:Fn:={ nargs:=1,vars:=[0,2,3,4,5,6,7,8,9,10],body:=(.seq (.reg [w 1 (.al [.nil,.nil] [])] []) (.seq (.reg [w 2 (.al [.nil,.nil] [(0,2),(1,10)])] []) (.seq (.reg [m v0,u (.ca N.aA 0 [] [.l 0,.i 6]),u (.bin .add (.i 2) l0),w 3 (.mv l0)] []) (.seq (.ite [m v0,u (.nc l0),f 0 l0,g l0,u (.ln l0),u (.bin .eql l0 (.i 0))] [] 0 (.reg [w 3 (.mv (.i 4))] []) .skip) (.seq (.seq (.reg [w 4 (.mv (.i 0))] []) (.blk 0 K.ot)) (.seq (.reg [u (.bd [.t (.int .i64 (0)),.t (.int .i64 (0))] [(0,1,.i 1),(1,1,.i 1)]),u (.bd [.t (.int .i64 (0)),.t (.int .i64 (0)),.t (.int .i64 (0)),.t (.int .i64 (0)),.t (.bool false),.t (.bool false),.t (.int .i64 (0)),.t (.int .i64 (0)),.t (.int .i64 (0)),.t (.int .i64 (0))] [(2,1,.i 12),(3,1,.i 10),(4,1,.b true),(6,2,.l 0)]),w 5 (.al [.t (.int .i64 (0)),.t (.int .i64 (0)),.t (.int .i64 (0)),.t (.int .i64 (0)),.t (.bool false),.t (.bool false),.t (.int .i64 (0)),.t (.int .i64 (0)),.t (.int .i64 (0)),.t (.int .i64 (0))] []),u (.st l0 l1 10 [])] []) (.seq (.seq (.reg [w 6 (.mv (.i 1))] []) (.blk 2 K.ou)) (.seq (.seq (.reg [m v0,u (.ca N.aA 0 [] [.l 0,.i 4]),w 8 (.mv l0)] []) (.blk 4 K.ov)) (.seq (.reg [h 2 v2,u (.st v1 l0 2 [])] []) .ret))))))))),res:=[(1,some (2,true))]}
def iV:C:=(.seq (.ite [m v7,m v4,u (.bin .lss l1 l0)] [] 0 .skip (.exit 0)) (.seq (.blk 1 (.reg [m v5,m v7,u (.bin .mul l0 (.i 2)),u (.bin .add (.i 3) l0),u (.bs [.l 0] 1),u (.app l4 l0 true 1),m v6,m v0,f 0 v2,g l0,u (.ln l0),u (.ca N.aA 0 [] [.l 3,.l 0]),u (.bs [.l 0] 1),u (.app l6 l0 true 1),w 5 (.mv l8),w 6 (.mv l1)] [(9,0),(9,5)])) (.reg [m v7,u (.bin .add l0 (.i 1)),w 7 (.mv l0)] [])))
def mz:C:= .loop true [1,8,9,10,11,12,13,14,15,16,17] K.iV
def bz:C:=(.seq (.ite [m v10,u (.bin .gtr l0 (.i 0))] [] 0 .skip (.exit 2)) (.seq (.blk 3 (.seq (.reg [m v9,m v0,u (.ca N.aA 0 [] [.l 0,.i 60]),u (.bin .add l2 l0),w 9 (.mv l0)] []) (.seq (.reg [m v0,w 17 (.ca N.aA 0 [] [.l 0,.i 3])] []) (.blk 4 (.ite [u (.bin .eql v17 (.i 0)),m l0] [] 0 (.seq (.reg [w 11 (.al [.nil] []),h 2 v2,h 1 v8,m v0,m v4,u (.ca N.aA 0 [] [.l 1,.l 0]),m v0,m v4,u (.ca N.aA 0 [] [.l 1,.l 0]),m v9,u (.ca N.bk 0 [] [.l 8,.l 7,.l 4,.l 1,.l 0]),m l0,u (.ex l0 0),u (.ex l1 1),u (.st (.l 13) l1 1 []),w 12 (.mv l1)] [(0,6),(0,9),(0,11),(1,6),(1,9),(2,6),(2,9)]) (.ite [m v12,u (.bin .eql l0 (.i 0))] [] 0 (.reg [h 1 v11,u (.st v8 l0 1 [])] []) .skip)) (.ite [u (.bin .eql v17 (.i 1)),m l0] [] 0 (.seq (.reg [w 13 (.al [.nil] []),h 2 v2,h 1 v8,m v0,m v4,u (.ca N.aA 0 [] [.l 1,.l 0]),u (.bin .mul (.i 2) l0),u (.bin .add (.i 3) l0),m v0,f 0 v2,g l0,u (.ln l0),u (.ca N.bW 0 [] [.l 3,.l 0]),m v9,m v9,m v0,u (.ca N.aA 0 [] [.l 0,.i 9]),u (.bin .add l2 l0),u (.ca N.fV 0 [] [.l 16,.l 15,.l 10,.l 5,.l 4,.l 0]),m l0,u (.ex l0 0),u (.ex l1 1),u (.st (.l 21) l1 1 []),w 14 (.mv l1)] [(0,6),(0,13),(0,17),(0,19),(1,6),(1,13),(1,17),(2,6),(2,13),(2,17),(10,1)]) (.ite [m v14,u (.bin .eql l0 (.i 0))] [] 0 (.reg [h 1 v13,u (.st v8 l0 1 [])] []) .skip)) (.seq (.reg [w 15 (.al [.nil] []),h 2 v2,h 1 v8,m v0,m v4,u (.ca N.aA 0 [] [.l 1,.l 0]),u (.bin .mul (.i 2) l0),u (.bin .add (.i 3) l0),m v0,f 0 v2,g l0,u (.ln l0),u (.ca N.bW 0 [] [.l 3,.l 0]),m v9,m v9,u (.bin .add l0 (.i 50)),m v0,u (.ca N.aA 0 [] [.l 0,.i 40]),u (.ca N.dz 0 [3] [.l 16,.l 15,.l 10,.l 5,.l 4,.l 2,.l 0]),m l0,u (.ex l0 0),u (.ex l1 1),u (.st (.l 21) l1 1 []),w 16 (.mv l1)] [(0,6),(0,13),(0,18),(0,19),(1,6),(1,13),(1,18),(2,6),(2,13),(2,18),(10,1)]) (.ite [m v16,u (.bin .eql l0 (.i 0))] [] 0 (.reg [h 1 v15,u (.st v8 l0 1 [])] []) .skip)))))))) (.reg [m v10,u (.bin .sub l0 (.i 1)),w 10 (.mv l0)] [])))
def mA:C:= .loop true [1,5,6,7,11,12,13,14,15,16,17] K.bz
def bT:Fn:={ nargs:=2,vars:=[0,1,3,4,5,6,7,8,9,11,12,13,14,15,16,17,18,61],body:=(.seq (.reg [w 2 (.bx v1 2),w 3 (.al [.nil] [])] []) (.seq (.reg [m v0,u (.ca N.aA 0 [] [.l 0,.i 3]),u (.bin .add (.i 1) l0),w 4 (.mv l0)] []) (.seq (.reg [w 5 (.nw 1),w 6 (.nw 1)] []) (.seq (.seq (.reg [w 7 (.mv (.i 0))] []) (.blk 0 K.mz)) (.seq (.reg [w 8 (.al [.nil] []),h 2 v2,m v5,m v6,m v0,u (.ca N.aA 0 [] [.l 0,.i 100]),u (.ca N.cX 0 [] [.l 4,.l 3,.l 2,.l 0]),m l0,u (.ex l0 0),u (.ex l1 1),u (.st l9 l1 1 []),m l1] [(0,6),(0,7),(1,6)]) (.seq (.reg [w 9 (.mv (.i 100))] []) (.seq (.seq (.reg [m v0,u (.ca N.aA 0 [] [.l 0,.i 5]),w 10 (.mv l0)] []) (.blk 2 K.mA)) (.seq (.reg [h 1 v8,u (.st v3 l0 1 [])] []) .ret)))))))),res:=[(3,some (1,true))]}
def aA:Fn:={ nargs:=2,vars:=[0,1,4],body:=(.seq (.reg [w 2 (.mv (.i 0))] []) (.seq (.ite [m v0,u (.nc l0),f 1 l0,g l0,m v0,u (.nc l0),f 0 l0,g l0,u (.ln l0),u (.bin .geq l5 l0)] [] 0 (.seq (.reg [w 2 (.mv (.i 0))] []) .ret) .skip) (.seq (.reg [m v0,u (.nc l0),f 1 l0,g l0,u (.bin .add l0 (.i 1)),u (.nc l4),f 1 l0,u (.st l0 l2 1 [])] []) (.seq (.reg [m v0,u (.nc l0),f 0 l0,g l0,m v0,u (.nc l0),f 1 l0,g l0,u (.bin .sub l0 (.i 1)),a 1 l5 l0,g l0,m v1,u (.ca N.jt 0 [] [.l 1,.l 0]),w 2 (.mv l0)] []) .ret)))),res:=[(2,none)]}
def dg:Fn:={ nargs:=2,vars:=[0,1,4],body:=(.seq (.reg [w 2 (.mv (.i 0))] []) (.seq (.reg [m v1,m v0,m v1,u (.ln l0),u (.ca N.aA 0 [] [.l 2,.l 0]),a 1 l4 l0,g l0,w 2 (.mv l0)] []) .ret)),res:=[(2,none)]}
def lZ:C:=(.seq (.ite [m v3,m v0,u (.ln l0),u (.bin .lss l2 l0)] [] 0 .skip (.exit 0)) (.seq (.blk 1 (.ite [m v0,m v3,a 1 l1 l0,g l0,m v1,u (.bin .eql l1 l0)] [] 0 (.seq (.reg [w 2 (.mv (.b true))] []) .ret) .skip)) (.reg [m v3,u (.bin .add l0 (.i 1)),w 3 (.mv l0)] [])))
def vS:C:= .loop true [2] K.lZ
def gG:Fn:={ nargs:=2,vars:=[0,1,4,5],body:=(.seq (.reg [w 2 (.mv (.b false))] []) (.seq (.seq (.reg [w 3 (.mv (.i 0))] []) (.blk 0 K.vS)) (.seq (.reg [w 2 (.mv (.b false))] []) .ret))),res:=[(2,none)]}
def cq:Fn:={ nargs:=2,vars:=[0,1,4],body:=(.seq (.reg [w 2 (.mv (.b false))] []) (.seq (.reg [m v0,m v1,u (.ca N.aA 0 [] [.l 1,.l 0]),m v1,u (.bin .sub l0 (.i 1)),u (.bin .eql l2 l0),w 2 (.mv l0)] []) .ret)),res:=[(2,none)]}
def ic:C:=(.seq (.ite [m v4,m v1,u (.bin .lss l1 l0)] [] 0 .skip (.exit 0)) (.seq (.blk 1 (.ite [m v0,u (.ca N.aA 0 [] [.l 0,.i 3]),u (.bin .eql l0 (.i 0))] [] 0 (.reg [m v3,m v4,u (.bs [.l 0] 1),u (.app l2 l0 true 1),w 3 (.mv l0)] []) .skip)) (.reg [m v4,u (.bin .add l0 (.i 1)),w 4 (.mv l0)] [])))
def ow:C:= .loop true [2] K.ic
def bW:Fn:={ nargs:=2,vars:=[0,1,4,5,6],body:=(.seq (.reg [w 2 (.mv (.c (.nil)))] []) (.seq (.reg [w 3 (.nw 1)] []) (.seq (.seq (.reg [w 4 (.mv (.i 0))] []) (.blk 0 K.ow)) (.seq (.reg [m v3,w 2 (.mv l0)] []) .ret)))),res:=[(2,none)]}
def j3:C:=(.seq (.ite [m v8,m v1,u (.ln l0),u (.bin .lss l2 l0)] [] 0 .skip (.exit 0)) (.seq (.blk 1 (.seq (.reg [w 9 (.al [.t (.int .i64 (0)),.nil] []),h 2 v4,m v2,m v8,a 1 l1 l0,g l0,m v3,u (.ca N.dE 0 [] [.l 5,.l 1,.l 0]),m l0,u (.ex l0 0),u (.ex l1 1),u (.st l10 l1 2 []),w 10 (.mv l1)] [(0,8)]) (.seq (.ite [m v10,u (.bin .neq l0 (.i 0))] [] 0 (.seq (.reg [u (.bd [.nil] []),m v10,u (.st v5 l1 1 []),w 6 (.mv l1)] []) .ret) .skip) (.reg [f 1 v7,g l0,h 2 v9,u (.bs [.l 0] 2),u (.app l2 l0 true 2),f 1 v7,u (.st l0 l1 1 [])] [])))) (.reg [m v8,u (.bin .add l0 (.i 1)),w 8 (.mv l0)] [])))
def rV:C:= .loop true [0,6,9,10] K.j3
def cX:Fn:={ nargs:=4,vars:=[0,1,2,3,4,8,9,10,11,12,13],body:=(.seq (.reg [w 4 (.bx v0 2),w 5 (.al [.nil] []),w 6 (.mv (.i 0))] []) (.seq (.ite [h 2 v4,u (.ca N.du 0 [] [.l 0]),u (.bin .neq l0 (.i 0)),m l0,y 0 false (.mv v1),y 1 false (.ln l0),y 2 false (.mv v2),y 3 false (.ln l0),y 4 false (.bin .neq l2 l0),u (.pk l5 (.b true) l0),m l0,y 0 false (.mv v1),y 1 false (.ln l0),y 2 false (.bin .lss l0 (.i 1)),u (.pk l3 (.b true) l0),m l0,y 0 false (.mv v1),y 1 false (.ln l0),y 2 false (.bin .gtr l0 (.i 12)),u (.pk l3 (.b true) l0)] [] 0 (.seq (.reg [u (.bd [.nil] []),u (.st v5 l0 1 []),w 6 (.mv (.i 6))] []) .ret) .skip) (.seq (.ite [m v1,u (.ca N.dT 0 [] [.l 0]),u (.un .not l0)] [] 0 (.seq (.reg [u (.bd [.nil] []),u (.st v5 l0 1 []),w 6 (.mv (.i 41))] []) .ret) .skip) (.seq (.reg [m v1,u (.app (.c (.nil)) l0 true 1),u (.bd [.nil,.nil] [(0,1,.l 0)]),w 7 (.al [.nil,.nil] [(1,2)]),u (.st l0 l1 2 [(1,2)])] []) (.seq (.seq (.reg [w 8 (.mv (.i 0))] []) (.blk 0 K.rV)) (.seq (.reg [h 2 v7,u (.bs [.l 0] 2),u (.bd [.nil] [(0,1,.l 0)]),u (.st v5 l0 1 []),w 6 (.mv (.i 0))] []) .ret)))))),res:=[(5,some (1,true)),(6,none)]}
def fF:C:=(.seq (.ite [m v11,f 0 v6,g l0,u (.ln l0),u (.bin .lss l3 l0)] [] 0 .skip (.exit 0)) (.seq (.blk 1 (.seq (.reg [f 0 v6,g l0,m v11,a 2 l1 l0,h 2 l0,u (.ca N.bw 1 [] [.l 0]),w 12 (.al [.nil,.nil] []),u (.st l0 l1 2 [])] []) (.seq (.ite [f 1 v12,g l0,m v2,a 2 l1 l0,h 2 l0,f 1 v12,g l0,m v3,a 2 l1 l0,h 2 l0,m v4,u (.ca N.gN 0 [] [.l 6,.l 1,.l 0]),u (.un .not l0)] [] 0 (.exit 1) .skip) (.seq (.reg [f 0 v12,g l0,m v2,f 0 v12,g l0,m v3,f 0 v12,g l0,m v3,a 1 l1 l0,g l0,f 0 v12,g l0,m v2,a 1 l1 l0,g l0,a 1 (.l 14) (.l 13),u (.st l0 l6 1 []),a 1 (.l 13) (.l 12),u (.st l0 l3 1 [])] [(4,18)]) (.seq (.reg [f 1 v12,g l0,m v2,f 1 v12,g l0,m v2,a 2 l1 l0,h 2 l0,m v4,u (.ca N.dG 0 [] [.l 1,.l 0]),m l0,u (.ex l0 0),u (.ex l1 1),a 2 l11 l10,u (.st l0 l2 2 [])] [(1,10)]) (.seq (.reg [f 1 v12,g l0,m v3,f 1 v12,g l0,m v3,a 2 l1 l0,h 2 l0,m v4,u (.ca N.dG 0 [] [.l 1,.l 0]),m l0,u (.ex l0 0),u (.ex l1 1),a 2 l11 l10,u (.st l0 l2 2 [])] [(1,10)]) (.reg [m v10,h 2 v12,u (.bs [.l 0] 2),u (.app l2 l0 true 2),w 10 (.mv l0)] []))))))) (.reg [m v11,u (.bin .add l0 (.i 1)),w 11 (.mv l0)] [])))
def ox:C:= .loop true [0,1,5,8,9,12] K.fF
def bk:Fn:={ nargs:=5,vars:=[0,1,2,3,4,5,6,10,11,12,13,14,15],body:=(.seq (.reg [w 5 (.bx v0 2),w 6 (.bx v1 1),w 7 (.al [.nil] []),w 8 (.mv (.i 0))] []) (.seq (.reg [h 1 v6,u (.ca N.dF 0 [] [.l 0]),u (.st v6 l0 1 [])] []) (.seq (.ite [h 2 v5,h 1 v6,u (.ca N.cD 0 [] [.l 1,.l 0]),u (.un .not l0)] [] 0 (.seq (.reg [h 1 v6,u (.st v7 l0 1 []),w 8 (.mv (.i 6))] []) .ret) .skip) (.seq (.reg [f 0 v6,g l0,a 2 l0 (.i 0),f 0 l0,g l0,u (.ln l0),w 9 (.mv l0)] []) (.seq (.ite [m v2,u (.bin .lss l0 (.i 0)),m l0,y 0 false (.mv v2),y 1 false (.mv v9),y 2 false (.bin .geq l1 l0),u (.pk l3 (.b true) l0),m l0,y 0 false (.mv v3),y 1 false (.bin .lss l0 (.i 0)),u (.pk l2 (.b true) l0),m l0,y 0 false (.mv v3),y 1 false (.mv v9),y 2 false (.bin .geq l1 l0),u (.pk l3 (.b true) l0),m l0,y 0 false (.mv v2),y 1 false (.mv v3),y 2 false (.bin .eql l1 l0),u (.pk l3 (.b true) l0)] [] 0 (.seq (.reg [h 1 v6,u (.st v7 l0 1 []),w 8 (.mv (.i 19))] []) .ret) .skip) (.seq (.ite [m v4,u (.bin .lss l0 (.i 0)),m l0,y 0 false (.mv v4),y 1 false (.bin .gtr l0 (.i 2147483648)),u (.pk l2 (.b true) l0)] [] 0 (.seq (.reg [h 1 v6,u (.st v7 l0 1 []),w 8 (.mv (.i 8))] []) .ret) .skip) (.seq (.reg [h 1 v6,u (.ca N.dF 1 [] [.l 0]),u (.fl l0 0 1 false),w 10 (.mv l0)] []) (.seq (.seq (.reg [w 11 (.mv (.i 0))] []) (.blk 0 K.ox)) (.seq (.reg [m v10,u (.ca N.gO 1 [] [.l 0]),w 10 (.mv l0)] []) (.seq (.ite [m v10,u (.ln l0),u (.bin .gtr l0 (.i 24))] [] 0 (.seq (.reg [h 1 v6,u (.st v7 l0 1 []),w 8 (.mv (.i 44))] []) .ret) .skip) (.seq (.reg [m v10,u (.bd [.nil] [(0,1,.l 0)]),u (.st v7 l0 1 []),w 8 (.mv (.i 0))] []) .ret))))))))))),res:=[(7,some (1,true)),(8,none)]}
def dQ:C:=(.seq (.ite [m v12,f 0 v7,g l0,u (.ln l0),u (.bin .lss l3 l0)] [] 0 .skip (.exit 0)) (.seq (.blk 1 (.seq (.reg [f 0 v7,g l0,m v12,a 2 l1 l0,h 2 l0,u (.ca N.bw 1 [] [.l 0]),w 13 (.al [.nil,.nil] []),u (.st l0 l1 2 [])] []) (.seq (.reg [f 0 v13,g l0,m v2,u (.ca N.cF 0 [] [.l 1,.l 0]),w 14 (.mv l0)] []) (.seq (.reg [w 15 (.al [.t (.int .i64 (0)),.nil] []),h 2 v6,f 1 v13,g l0,m v14,a 2 l1 l0,h 2 l0,m v3,m v4,m v5,u (.ca N.gH 0 [] [.l 8,.l 3,.l 2,.l 1,.l 0]),m l0,u (.ex l0 0),u (.ex l1 1),u (.st (.l 13) l1 2 []),w 16 (.mv l1)] [(0,11)]) (.seq (.seq (.reg [w 17 (.mv v16)] []) (.blk 2 (.seq (.seq (.reg [u (.bin .eql v17 (.i 6)),w 18 (.mv l0)] []) (.itv 18 .skip (.reg [u (.bin .eql v17 (.i 8)),w 18 (.mv l0)] []))) (.itv 18 (.seq (.reg [h 1 v7,m v16,u (.st v8 l1 1 []),w 9 (.mv l1)] []) .ret) (.ite [u (.bin .eql v17 (.i 43)),m l0] [] 0 (.exit 1) (.ite [u (.bin .eql v17 (.i 0)),m l0] [] 0 (.reg [f 1 v13,g l0,m v14,h 2 v15,a 2 l2 l1,u (.st l0 l1 2 [])] []) .skip)))))) (.reg [f 0 v11,g l0,h 2 v13,u (.bs [.l 0] 2),u (.app l2 l0 true 2),f 0 v11,u (.st l0 l1 1 [])] [])))))) (.reg [m v12,u (.bin .add l0 (.i 1)),w 12 (.mv l0)] [])))
def qy:C:= .loop true [0,1,9,10,13,14,15,16,17,18] K.dQ
def fV:Fn:={ nargs:=6,vars:=[0,1,2,3,4,5,6,7,12,13,14,15,16,17,18,19,20,61,62],body:=(.seq (.reg [w 6 (.bx v0 2),w 7 (.bx v1 1),w 8 (.al [.nil] []),w 9 (.mv (.i 0))] []) (.seq (.reg [h 1 v7,u (.ca N.dF 0 [] [.l 0]),u (.st v7 l0 1 [])] []) (.seq (.seq (.reg [h 2 v6,h 1 v7,m v2,u (.ca N.dH 0 [] [.l 2,.l 1,.l 0]),w 10 (.mv l0)] []) (.ite [m v10,u (.bin .neq l0 (.i 0))] [] 0 (.seq (.reg [h 1 v7,m v10,u (.st v8 l1 1 []),w 9 (.mv l1)] []) .ret) .skip)) (.seq (.reg [w 11 (.al [.nil] [(0,2)])] []) (.seq (.seq (.reg [w 12 (.mv (.i 0))] []) (.blk 0 K.qy)) (.seq (.ite [f 0 v11,g l0,u (.ln l0),u (.bin .eql l0 (.i 0))] [] 0 (.seq (.reg [h 1 v7,u (.st v8 l0 1 []),w 9 (.mv (.i 43))] []) .ret) .skip) (.seq (.reg [h 1 v11,u (.st v8 l0 1 []),w 9 (.mv (.i 0))] []) .ret))))))),res:=[(8,some (1,true)),(9,none)]}
def cT:C:=(.seq (.ite [m v13,f 0 v8,g l0,u (.ln l0),u (.bin .lss l3 l0)] [] 0 .skip (.exit 0)) (.seq (.blk 1 (.seq (.reg [f 0 v8,g l0,m v13,a 2 l1 l0,h 2 l0,u (.ca N.bw 1 [] [.l 0]),w 14 (.al [.nil,.nil] []),u (.st l0 l1 2 [])] []) (.seq (.reg [f 0 v14,g l0,m v2,u (.ca N.cF 0 [] [.l 1,.l 0]),w 15 (.mv l0)] []) (.seq (.reg [w 16 (.al [.t (.int .i64 (0)),.nil] []),h 2 v7,f 1 v14,g l0,m v15,a 2 l1 l0,h 2 l0,m v3,m v4,m v5,m v6,u (.ca N.cG 0 [2] [.l 9,.l 4,.l 3,.l 2,.l 1,.l 0]),m l0,u (.ex l0 0),u (.ex l1 1),u (.st (.l 14) l1 2 []),w 17 (.mv l1)] [(0,12)]) (.seq (.ite [m v17,u (.bin .eql l0 (.i 6)),m l0,y 0 false (.mv v17),y 1 false (.bin .eql l0 (.i 8)),u (.pk l2 (.b true) l0)] [] 0 (.seq (.reg [h 1 v8,m v17,u (.st v9 l1 1 []),w 10 (.mv l1)] []) .ret) .skip) (.seq (.ite [m v17,u (.bin .eql l0 (.i 0))] [] 0 (.reg [f 1 v14,g l0,m v15,h 2 v16,a 2 l2 l1,u (.st l0 l1 2 [])] []) .skip) (.reg [f 0 v12,g l0,h 2 v14,u (.bs [.l 0] 2),u (.app l2 l0 true 2),f 0 v12,u (.st l0 l1 1 [])] []))))))) (.reg [m v13,u (.bin .add l0 (.i 1)),w 13 (.mv l0)] [])))
def mB:C:= .loop true [0,1,10,11,14,15,16,17] K.cT
def dz:Fn:={ nargs:=7,vars:=[0,1,2,3,4,5,6,7,8,14,15,16,17,18,19,20,21,22],body:=(.seq (.reg [w 7 (.bx v0 2),w 8 (.bx v1 1),w 9 (.al [.nil] []),w 10 (.mv (.i 0))] []) (.seq (.reg [h 1 v8,u (.ca N.dF 0 [] [.l 0]),u (.st v8 l0 1 [])] []) (.seq (.seq (.reg [h 2 v7,h 1 v8,m v2,u (.ca N.dH 0 [] [.l 2,.l 1,.l 0]),w 11 (.mv l0)] []) (.ite [m v11,u (.bin .neq l0 (.i 0))] [] 0 (.seq (.reg [h 1 v8,m v11,u (.st v9 l1 1 []),w 10 (.mv l1)] []) .ret) .skip)) (.seq (.reg [w 12 (.al [.nil] [(0,2)])] []) (.seq (.seq (.reg [w 13 (.mv (.i 0))] []) (.blk 0 K.mB)) (.seq (.reg [h 1 v12,u (.st v9 l0 1 []),w 10 (.mv (.i 0))] []) .ret)))))),res:=[(9,some (1,true)),(10,none)]}
def jt:Fn:={ nargs:=2,vars:=[0,1,4],body:=(.seq (.reg [w 2 (.mv (.i 0))] []) (.seq (.ite [m v1,u (.bin .lss l0 (.i 1))] [] 0 (.seq (.reg [w 2 (.mv (.i 0))] []) .ret) .skip) (.seq (.reg [m v0,m v1,u (.bin .rem l1 l0),w 0 (.mv l0)] []) (.seq (.ite [m v0,u (.bin .lss l0 (.i 0))] [] 0 (.reg [m v0,m v1,u (.bin .add l1 l0),w 0 (.mv l0)] []) .skip) (.seq (.reg [m v0,w 2 (.mv l0)] []) .ret))))),res:=[(2,none)]}
def ie:C:=(.seq (.ite [m v5,f 1 v2,g l0,u (.ln l0),u (.bin .lss l3 l0)] [] 0 .skip (.exit 0)) (.seq (.blk 1 (.ite [f 1 v2,g l0,m v5,a 1 l1 l0,g l0,m v1,u (.bin .leq l1 l0)] [] 0 (.reg [m v4,m v5,u (.bs [.l 0] 1),u (.app l2 l0 true 1),w 4 (.mv l0)] []) .skip)) (.reg [m v5,u (.bin .add l0 (.i 1)),w 5 (.mv l0)] [])))
def oy:C:= .loop true [0,3] K.ie
def cL:Fn:={ nargs:=2,vars:=[0,1,2,4,5,6],body:=(.seq (.reg [w 2 (.bx v0 2),w 3 (.mv (.c (.nil)))] []) (.seq (.reg [w 4 (.nw 1)] []) (.seq (.seq (.reg [w 5 (.mv (.i 0))] []) (.blk 0 K.oy)) (.seq (.reg [m v4,w 3 (.mv l0)] []) .ret)))),res:=[(3,none)]}
def mC:C:=(.seq (.ite [m v3,f 0 v1,g l0,u (.ln l0),u (.bin .lss l3 l0)] [] 0 .skip (.exit 0)) (.seq (.blk 1 (.seq (.reg [f 0 v1,g l0,m v3,a 2 l1 l0,f 0 l0,g l0,w 4 (.mv l0)] []) (.ite [m v4,u (.bin .lss l0 (.i (-10000))),m l0,y 0 false (.mv v4),y 1 false (.bin .gtr l0 (.i 10000)),u (.pk l2 (.b true) l0)] [] 0 (.seq (.reg [w 2 (.mv (.i 1))] []) .ret) .skip))) (.reg [m v3,u (.bin .add l0 (.i 1)),w 3 (.mv l0)] [])))
def rW:C:= .loop true [0,2,4,5,6] K.mC
def mD:C:=(.seq (.ite [m v5,f 1 v1,g l0,u (.ln l0),u (.bin .lss l3 l0)] [] 0 .skip (.exit 2)) (.seq (.blk 3 (.seq (.reg [f 1 v1,g l0,m v5,a 10 l1 l0,h 10 l0,w 6 (.al [.t (.int .i64 (0)),.t (.int .i64 (0)),.t (.int .i64 (0)),.t (.int .i64 (0)),.t (.bool false),.t (.bool false),.t (.int .i64 (0)),.t (.int .i64 (0)),.t (.int .i64 (0)),.t (.int .i64 (0))] []),u (.st l0 l1 10 [])] []) (.seq (.ite [f 0 v6,g l0,u (.bin .lss l0 (.i 0)),m l0,y 0 false (.fa v6 0),y 1 false (.ld l0 1 false),y 2 false (.fa v1 0),y 3 false (.ld l0 1 false),y 4 false (.ln l0),y 5 false (.bin .geq l3 l0),u (.pk l6 (.b true) l0),m l0,y 0 false (.fa v6 1),y 1 false (.ld l0 1 false),y 2 false (.bin .lss l0 (.i 0)),u (.pk l3 (.b true) l0),m l0,y 0 false (.fa v6 1),y 1 false (.ld l0 1 false),y 2 false (.fa v1 0),y 3 false (.ld l0 1 false),y 4 false (.ln l0),y 5 false (.bin .geq l3 l0),u (.pk l6 (.b true) l0),m l0,y 0 false (.fa v6 0),y 1 false (.ld l0 1 false),y 2 false (.fa v6 1),y 3 false (.ld l0 1 false),y 4 false (.bin .eql l2 l0),u (.pk l5 (.b true) l0)] [] 0 (.seq (.reg [w 2 (.mv (.i 4))] []) .ret) .skip) (.ite [f 2 v6,g l0,u (.bin .lss l0 (.i 1)),m l0,y 0 false (.fa v6 2),y 1 false (.ld l0 1 false),y 2 false (.bin .gtr l0 (.i 100000)),u (.pk l3 (.b true) l0),m l0,y 0 false (.fa v6 3),y 1 false (.ld l0 1 false),y 2 false (.bin .lss l0 (.i 1)),u (.pk l3 (.b true) l0),m l0,y 0 false (.fa v6 3),y 1 false (.ld l0 1 false),y 2 false (.bin .gtr l0 (.i 1000)),u (.pk l3 (.b true) l0),m l0,y 0 false (.fa v6 6),y 1 false (.ld l0 2 true),y 2 false (.ca N.fW 0 [] [.l 0,.i 1,.i 262144]),y 3 false (.un .not l0),u (.pk l4 (.b true) l0),m l0,y 0 false (.fa v6 8),y 1 false (.ld l0 2 true),y 2 false (.ca N.fW 0 [] [.l 0,.i (-2199023255552),.i 2199023255552]),y 3 false (.un .not l0),u (.pk l4 (.b true) l0)] [] 0 (.seq (.reg [w 2 (.mv (.i 1))] []) .ret) .skip)))) (.reg [m v5,u (.bin .add l0 (.i 1)),w 5 (.mv l0)] [])))
def rX:C:= .loop true [0,2,3,4,6] K.mD
def du:Fn:={ nargs:=1,vars:=[0,1,2,3,4,5,6],body:=(.seq (.reg [w 1 (.bx v0 2),w 2 (.mv (.i 0))] []) (.seq (.ite [f 0 v1,g l0,u (.ln l0),u (.bin .gtr l0 (.i 64)),m l0,y 0 false (.fa v1 1),y 1 false (.ld l0 1 false),y 2 false (.ln l0),y 3 false (.bin .gtr l0 (.i 128)),u (.pk l4 (.b true) l0)] [] 0 (.seq (.reg [w 2 (.mv (.i 2))] []) .ret) .skip) (.seq (.seq (.reg [w 3 (.mv (.i 0))] []) (.blk 0 K.rW)) (.seq (.seq (.reg [w 5 (.mv (.i 0))] []) (.blk 2 K.rX)) (.seq (.reg [w 2 (.mv (.i 0))] []) .ret))))),res:=[(2,none)]}
def gu:C:=(.seq (.ite [m v3,m v0,u (.ln l0),u (.bin .lss l2 l0)] [] 0 .skip (.exit 0)) (.seq (.blk 1 (.ite [m v0,m v3,a 1 l1 l0,g l0,u (.bin .lss l0 (.i 0)),m l0,y 0 false (.mv v0),y 1 false (.mv v3),y 2 false (.ia l1 l0 1),y 3 false (.ld l0 1 false),y 4 false (.mv v1),y 5 false (.bin .geq l1 l0),u (.pk l6 (.b true) l0),m l0,y 0 false (.mv v3),y 1 false (.bin .gtr l0 (.i 0)),y 2 false (.mv l0),y 0 true (.mv v0),y 1 true (.mv v3),y 2 true (.ia l1 l0 1),y 3 true (.ld l0 1 false),y 4 true (.mv v0),y 5 true (.mv v3),y 6 true (.bin .sub l0 (.i 1)),y 7 true (.ia l2 l0 1),y 8 true (.ld l0 1 false),y 9 true (.bin .leq l5 l0),y 13 false (.pk l10 l0 (.b false)),u (.pk (.l 14) (.b true) l0)] [] 0 (.seq (.reg [w 2 (.mv (.b false))] []) .ret) .skip)) (.reg [m v3,u (.bin .add l0 (.i 1)),w 3 (.mv l0)] [])))
def vT:C:= .loop true [2] K.gu
def i7:Fn:={ nargs:=2,vars:=[0,1,4,5],body:=(.seq (.reg [w 2 (.mv (.b false))] []) (.seq (.seq (.reg [w 3 (.mv (.i 0))] []) (.blk 0 K.vT)) (.seq (.reg [w 2 (.mv (.b true))] []) .ret))),res:=[(2,none)]}
def fD:C:=(.seq (.ite [m v2,m v0,u (.ln l0),u (.bin .lss l2 l0)] [] 0 .skip (.exit 0)) (.seq (.blk 1 (.ite [m v0,m v2,a 1 l1 l0,g l0,u (.bin .lss l0 (.i 1)),m l0,y 0 false (.mv v0),y 1 false (.mv v2),y 2 false (.ia l1 l0 1),y 3 false (.ld l0 1 false),y 4 false (.bin .gtr l0 (.i 65535)),u (.pk l5 (.b true) l0),m l0,y 0 false (.mv v0),y 1 false (.mv v2),y 2 false (.sc l1 none (some l0) 1),y 3 false (.mv v0),y 4 false (.mv v2),y 5 false (.ia l1 l0 1),y 6 false (.ld l0 1 false),y 7 false (.ca N.cF 0 [] [.l 4,.l 0]),y 8 false (.bin .geq l0 (.i 0)),u (.pk l9 (.b true) l0)] [] 0 (.seq (.reg [w 1 (.mv (.b false))] []) .ret) .skip)) (.reg [m v2,u (.bin .add l0 (.i 1)),w 2 (.mv l0)] [])))
def qz:C:= .loop true [1] K.fD
def dT:Fn:={ nargs:=1,vars:=[0,2,3],body:=(.seq (.reg [w 1 (.mv (.b false))] []) (.seq (.seq (.reg [w 2 (.mv (.i 0))] []) (.blk 0 K.qz)) (.seq (.reg [w 1 (.mv (.b true))] []) .ret))),res:=[(1,none)]}
def dE:Fn:={ nargs:=3,vars:=[0,1,2,3,6,7,8],body:=(.seq (.reg [w 3 (.bx v0 2),w 4 (.al [.t (.int .i64 (0)),.nil] []),w 5 (.mv (.i 0))] []) (.seq (.blk 0 (.ite [h 2 v3,u (.ca N.du 0 [] [.l 0]),u (.bin .neq l0 (.i 0)),m l0] [] 0 (.seq (.reg [u (.bd [.t (.int .i64 (0)),.nil] []),u (.st v4 l0 2 []),w 5 (.mv (.i 6))] []) .ret) (.ite [m v1,u (.bin .lss l0 (.i 0)),m l0,y 0 false (.mv v1),y 1 false (.fa v3 0),y 2 false (.ld l0 1 false),y 3 false (.ln l0),y 4 false (.bin .geq l3 l0),u (.pk l5 (.b true) l0),m l0] [] 0 (.seq (.reg [u (.bd [.t (.int .i64 (0)),.nil] []),u (.st v4 l0 2 []),w 5 (.mv (.i 3))] []) .ret) (.ite [m v2,u (.ca N.dh 0 [] [.l 0]),u (.un .not l0),m l0] [] 0 (.seq (.reg [u (.bd [.t (.int .i64 (0)),.nil] []),u (.st v4 l0 2 []),w 5 (.mv (.i 8))] []) .ret) .skip)))) (.seq (.reg [f 0 v3,g l0,u (.ln l0),u (.ca N.eW 1 [] [.l 0]),w 6 (.mv l0)] []) (.seq (.reg [m v6,m v1,m v2,a 1 l2 l1,u (.st l0 l1 1 [])] []) (.seq (.reg [m v2,h 2 v3,m v6,m v2,u (.ca N.dJ 0 [] [.l 2,.l 1,.l 0]),u (.bd [.t (.int .i64 (0)),.nil] [(0,1,.l 4),(1,1,.l 0)]),u (.st v4 l0 2 []),w 5 (.mv (.i 0))] []) .ret))))),res:=[(4,some (2,true)),(5,none)]}
end Go.Ev.K
namespace Go.Ev
class cm [Lib]:Prop where
 qA:Lib.fs N.gM=some K.gM
 sI:Lib.fs N.i6=some K.i6
 lB:Lib.fs N.cj=some K.cj
 j4:Lib.fs N.bT=some K.bT
 lC:Lib.fs N.aA=some K.aA
 nH:Lib.fs N.dg=some K.dg
 sJ:Lib.fs N.gG=some K.gG
 mE:Lib.fs N.cq=some K.cq
 lD:Lib.fs N.bW=some K.bW
 o8:Lib.fs N.cX=some K.cX
 lE:Lib.fs N.bk=some K.bk
 sK:Lib.fs N.fV=some K.fV
 nI:Lib.fs N.dz=some K.dz
 uY:Lib.fs N.jt=some K.jt
 lF:Lib.fs N.cL=some K.cL
 o9:Lib.fs N.du=some K.du
 sL:Lib.fs N.i7=some K.i7
 nJ:Lib.fs N.dT=some K.dT
 pc:Lib.fs N.dE=some K.dE
namespace K
variable [Lib] [cm]
theorem qA:Lib.fs N.gM=some K.gM:=cm.qA
theorem sI:Lib.fs N.i6=some K.i6:=cm.sI
theorem lB:Lib.fs N.cj=some K.cj:=cm.lB
theorem j4:Lib.fs N.bT=some K.bT:=cm.j4
theorem lC:Lib.fs N.aA=some K.aA:=cm.lC
theorem nH:Lib.fs N.dg=some K.dg:=cm.nH
theorem sJ:Lib.fs N.gG=some K.gG:=cm.sJ
theorem mE:Lib.fs N.cq=some K.cq:=cm.mE
theorem lD:Lib.fs N.bW=some K.bW:=cm.lD
theorem o8:Lib.fs N.cX=some K.cX:=cm.o8
theorem lE:Lib.fs N.bk=some K.bk:=cm.lE
theorem sK:Lib.fs N.fV=some K.fV:=cm.sK
theorem nI:Lib.fs N.dz=some K.dz:=cm.nI
theorem uY:Lib.fs N.jt=some K.jt:=cm.uY
theorem lF:Lib.fs N.cL=some K.cL:=cm.lF
theorem o9:Lib.fs N.du=some K.du:=cm.o9
theorem sL:Lib.fs N.i7=some K.i7:=cm.sL
theorem nJ:Lib.fs N.dT=some K.dT:=cm.nJ
theorem pc:Lib.fs N.dE=some K.dE:=cm.pc
end K
end Go.Ev
namespace Go.Ev.K
open Go.Ev
def nK:C:=(.seq (.ite [m v4,f 0 v1,g l0,u (.ln l0),u (.bin .lss l3 l0)] [] 0 .skip (.exit 0)) (.seq (.blk 1 (.reg [f 0 v3,g l0,f 0 v1,g l0,m v4,a 2 l1 l0,h 2 l0,u (.ca N.bw 0 [] [.l 0]),u (.bs [.l 0] 2),u (.app l7 l0 true 2),f 0 v3,u (.st l0 l1 1 [])] [(1,8),(1,9)])) (.reg [m v4,u (.bin .add l0 (.i 1)),w 4 (.mv l0)] [])))
def tV:C:= .loop true [0] K.nK
def dF:Fn:={ nargs:=1,vars:=[0,1,2,3,4],body:=(.seq (.reg [w 1 (.bx v0 1),w 2 (.al [.nil] [])] []) (.seq (.reg [w 3 (.al [.nil] [(0,2)])] []) (.seq (.seq (.reg [w 4 (.mv (.i 0))] []) (.blk 0 K.tV)) (.seq (.reg [h 1 v3,u (.st v2 l0 1 [])] []) .ret)))),res:=[(2,some (1,true))]}
def ga:C:=(.seq (.ite [m v8,f 0 v7,g l0,u (.ln l0),u (.bin .lss l3 l0)] [] 0 .skip (.exit 2)) (.seq (.blk 3 (.ite [m v5,f 0 v7,g l0,m v8,a 1 l1 l0,g l0,u (.ca N.cF 0 [] [.l 5,.l 0]),u (.bin .lss l0 (.i 0)),m l0,y 0 false (.ld v2 2 true),y 1 false (.fa v7 1),y 2 false (.ld l0 1 false),y 3 false (.mv v8),y 4 false (.ia l1 l0 2),y 5 false (.ld l0 2 true),y 6 false (.ca N.eo 0 [] [.l 5,.l 0]),y 7 false (.un .not l0),u (.pk l8 (.b true) l0)] [] 0 (.seq (.reg [w 4 (.mv (.b false))] []) .ret) .skip)) (.reg [m v8,u (.bin .add l0 (.i 1)),w 8 (.mv l0)] [])))
def nL:C:= .loop true [0,1,4] K.ga
def bN:C:=(.seq (.ite [m v6,f 0 v3,g l0,u (.ln l0),u (.bin .lss l3 l0)] [] 0 .skip (.exit 0)) (.seq (.blk 1 (.seq (.reg [f 0 v3,g l0,m v6,a 2 l1 l0,h 2 l0,w 7 (.al [.nil,.nil] []),u (.st l0 l1 2 [])] []) (.seq (.ite [f 0 v7,g l0,u (.ln l0),m v5,u (.ln l0),u (.bin .neq l2 l0),m l0,y 0 false (.fa v7 1),y 1 false (.ld l0 1 false),y 2 false (.ln l0),y 3 false (.mv v5),y 4 false (.ln l0),y 5 false (.bin .neq l2 l0),u (.pk l6 (.b true) l0),m l0,y 0 false (.fa v7 0),y 1 false (.ld l0 1 false),y 2 false (.ca N.dT 0 [] [.l 0]),y 3 false (.un .not l0),u (.pk l4 (.b true) l0),m l0,y 0 false (.mv v6),y 1 false (.bin .gtr l0 (.i 0)),y 2 false (.mv l0),y 0 true (.fa v3 0),y 1 true (.ld l0 1 false),y 2 true (.mv v6),y 3 true (.bin .sub l0 (.i 1)),y 4 true (.ia l2 l0 2),y 5 true (.fa l0 0),y 6 true (.ld l0 1 false),y 7 true (.fa v7 0),y 8 true (.ld l0 1 false),y 9 true (.ca N.fX 0 [] [.l 2,.l 0]),y 10 true (.un .not l0),y 14 false (.pk l11 l0 (.b false)),u (.pk (.l 15) (.b true) l0)] [] 0 (.seq (.reg [w 4 (.mv (.b false))] []) .ret) .skip) (.seq (.reg [w 8 (.mv (.i 0))] []) (.blk 2 K.nL))))) (.reg [m v6,u (.bin .add l0 (.i 1)),w 6 (.mv l0)] [])))
def nM:C:= .loop true [0,1,4,7,8] K.bN
def cD:Fn:={ nargs:=2,vars:=[0,1,2,3,4,5,6,7,8],body:=(.seq (.reg [w 2 (.bx v0 2),w 3 (.bx v1 1),w 4 (.mv (.b false))] []) (.seq (.ite [f 0 v3,g l0,u (.ln l0),u (.bin .lss l0 (.i 1)),m l0,y 0 false (.fa v3 0),y 1 false (.ld l0 1 false),y 2 false (.ln l0),y 3 false (.bin .gtr l0 (.i 24)),u (.pk l4 (.b true) l0),m l0,y 0 false (.ld v2 2 true),y 1 false (.ca N.du 0 [] [.l 0]),y 2 false (.bin .neq l0 (.i 0)),u (.pk l3 (.b true) l0)] [] 0 (.seq (.reg [w 4 (.mv (.b false))] []) .ret) .skip) (.seq (.reg [f 0 v3,g l0,a 2 l0 (.i 0),f 0 l0,g l0,w 5 (.mv l0)] []) (.seq (.ite [m v5,u (.ln l0),u (.bin .lss l0 (.i 1)),m l0,y 0 false (.mv v5),y 1 false (.ln l0),y 2 false (.bin .gtr l0 (.i 12)),u (.pk l3 (.b true) l0)] [] 0 (.seq (.reg [w 4 (.mv (.b false))] []) .ret) .skip) (.seq (.seq (.reg [w 6 (.mv (.i 0))] []) (.blk 0 K.nM)) (.seq (.reg [w 4 (.mv (.b true))] []) .ret)))))),res:=[(4,none)]}
def jx:C:=(.seq (.ite [m v4,f 1 v1,g l0,u (.ln l0),u (.bin .lss l3 l0)] [] 0 .skip (.exit 0)) (.seq (.blk 1 (.reg [f 1 v3,g l0,f 1 v1,g l0,m v4,a 2 l1 l0,h 2 l0,u (.ca N.cK 0 [] [.l 0]),u (.bs [.l 0] 2),u (.app l7 l0 true 2),f 1 v3,u (.st l0 l1 1 [])] [(1,8),(1,9)])) (.reg [m v4,u (.bin .add l0 (.i 1)),w 4 (.mv l0)] [])))
def ng:C:= .loop true [0] K.jx
def bw:Fn:={ nargs:=1,vars:=[0,1,2,3,4],body:=(.seq (.reg [w 1 (.bx v0 2),w 2 (.al [.nil,.nil] [])] []) (.seq (.reg [f 0 v1,g l0,u (.app (.c (.nil)) l0 true 1),u (.bd [.nil,.nil] [(0,1,.l 0)]),w 3 (.al [.nil,.nil] [(1,2)]),u (.st l0 l1 2 [(1,2)])] []) (.seq (.seq (.reg [w 4 (.mv (.i 0))] []) (.blk 0 K.ng)) (.seq (.reg [h 2 v3,u (.st v2 l0 2 [])] []) .ret)))),res:=[(2,some (2,true))]}
def gQ:C:=(.seq (.ite [m v6,f 1 v3,g l0,u (.ln l0),u (.bin .lss l3 l0),m l0,y 0 true (.mv v6),y 1 true (.fa v4 1),y 2 true (.ld l0 1 false),y 3 true (.ln l0),y 4 true (.bin .lss l3 l0),u (.pk l5 l0 (.b false))] [] 0 .skip (.exit 0)) (.seq (.blk 1 (.ite [f 1 v3,g l0,m v6,a 1 l1 l0,g l0,m v2,u (.bin .leq l1 l0),m l0,y 0 true (.fa v4 1),y 1 true (.ld l0 1 false),y 2 true (.mv v6),y 3 true (.ia l1 l0 1),y 4 true (.ld l0 1 false),y 5 true (.mv v2),y 6 true (.bin .leq l1 l0),u (.pk l7 l0 (.b false))] [] 0 (.seq (.reg [w 5 (.mv (.b true))] []) .ret) .skip)) (.reg [m v6,u (.bin .add l0 (.i 1)),w 6 (.mv l0)] [])))
def tW:C:= .loop true [0,1,5] K.gQ
def gN:Fn:={ nargs:=3,vars:=[0,1,2,3,4,6,7],body:=(.seq (.reg [w 3 (.bx v0 2),w 4 (.bx v1 2),w 5 (.mv (.b false))] []) (.seq (.seq (.reg [w 6 (.mv (.i 0))] []) (.blk 0 K.tW)) (.seq (.reg [w 5 (.mv (.b false))] []) .ret))),res:=[(5,none)]}
def dG:Fn:={ nargs:=2,vars:=[0,1,2,4,5],body:=(.seq (.reg [w 2 (.bx v0 2),w 3 (.al [.t (.int .i64 (0)),.nil] []),w 4 (.mv (.i 0))] []) (.seq (.reg [h 2 v2,u (.ca N.cK 0 [] [.l 0]),u (.st v2 l0 2 [])] []) (.seq (.ite [m v1,f 0 v2,g l0,u (.bin .lss l2 l0),m l0,y 0 false (.mv v1),y 1 false (.bin .gtr l0 (.i 2147483648)),u (.pk l2 (.b true) l0)] [] 0 (.seq (.reg [h 2 v2,u (.st v3 l0 2 []),w 4 (.mv (.i 8))] []) .ret) .skip) (.seq (.reg [m v1,f 0 v2,u (.st l0 l1 1 [])] []) (.seq (.reg [h 2 v2,u (.st v3 l0 2 []),w 4 (.mv (.i 0))] []) .ret))))),res:=[(3,some (2,true)),(4,none)]}
def i9:C:=(.seq (.ite [m v4,m v2,u (.ln l0),u (.bin .lss l2 l0),m l0,y 0 true (.mv v2),y 1 true (.mv v4),y 2 true (.ia l1 l0 2),y 3 true (.fa l0 0),y 4 true (.ld l0 1 false),y 5 true (.mv v0),y 6 true (.mv v3),y 7 true (.ia l1 l0 2),y 8 true (.fa l0 0),y 9 true (.ld l0 1 false),y 10 true (.ca N.fX 0 [] [.l 5,.l 0]),u (.pk l11 l0 (.b false))] [] 0 .skip (.exit 2)) (.blk 3 (.reg [m v4,u (.bin .add l0 (.i 1)),w 4 (.mv l0)] [])))
def pd:C:= .loop false [1,5] K.i9
def kS:C:=(.seq (.ite [m v5,m v2,m v4,a 2 l1 l0,f 1 l0,g l0,u (.ln l0),u (.bin .lss l6 l0),m l0,y 0 true (.mv v5),y 1 true (.mv v0),y 2 true (.mv v3),y 3 true (.ia l1 l0 2),y 4 true (.fa l0 1),y 5 true (.ld l0 1 false),y 6 true (.ln l0),y 7 true (.bin .lss l6 l0),u (.pk l8 l0 (.b false))] [] 0 .skip (.exit 4)) (.seq (.blk 5 (.reg [m v2,m v4,a 2 l1 l0,f 1 l0,g l0,m v5,m v2,m v4,a 2 l1 l0,f 1 l0,g l0,m v5,a 2 l1 l0,h 2 l0,m v0,m v3,a 2 l1 l0,f 1 l0,g l0,m v5,a 2 l1 l0,h 2 l0,u (.ca N.fY 0 [] [.l 8,.l 0]),m l0,u (.ex l0 0),u (.ex l1 1),a 2 (.l 21) (.l 20),u (.st l0 l2 2 [])] [(2,23),(4,23)])) (.reg [m v5,u (.bin .add l0 (.i 1)),w 5 (.mv l0)] [])))
def tX:C:= .loop false [1] K.kS
def dR:C:=(.seq (.ite [m v3,m v0,u (.ln l0),u (.bin .lss l2 l0)] [] 0 .skip (.exit 0)) (.seq (.blk 1 (.seq (.reg [w 4 (.mv (.i 0))] []) (.seq (.blk 2 K.pd) (.seq (.ite [m v4,m v2,u (.ln l0),u (.bin .lss l2 l0),m l0,y 0 true (.mv v2),y 1 true (.mv v4),y 2 true (.ia l1 l0 2),y 3 true (.fa l0 0),y 4 true (.ld l0 1 false),y 5 true (.mv v0),y 6 true (.mv v3),y 7 true (.ia l1 l0 2),y 8 true (.fa l0 0),y 9 true (.ld l0 1 false),y 10 true (.ca N.bX 0 [] [.l 5,.l 0]),u (.pk l11 l0 (.b false))] [] 0 (.seq (.seq (.reg [w 5 (.mv (.i 0))] []) (.blk 4 K.tX)) (.exit 1)) .skip) (.reg [m v2,m v4,u (.sc l1 none (some l0) 2),u (.app (.c (.nil)) l0 false 2),m v0,m v3,a 2 l1 l0,h 2 l0,u (.ca N.bw 1 [] [.l 0]),u (.bsr [.l 0] 2),u (.app l6 l0 false 2),m v2,m v4,u (.sc l1 (some l0) none 2),u (.app l3 l0 false 2),w 2 (.mv l0)] [(6,0),(7,0),(13,0),(13,4),(13,9),(13,10)]))))) (.reg [m v3,u (.bin .add l0 (.i 1)),w 3 (.mv l0)] [])))
def tY:C:= .loop false [1,4,5] K.dR
def gO:Fn:={ nargs:=1,vars:=[0,2,3,4,5,6],body:=(.seq (.reg [w 1 (.mv (.c (.nil)))] []) (.seq (.reg [w 2 (.mv (.c (.nil)))] []) (.seq (.seq (.reg [w 3 (.mv (.i 0))] []) (.blk 0 K.tY)) (.seq (.reg [m v2,w 1 (.mv l0)] []) .ret)))),res:=[(1,none)]}
def dH:Fn:={ nargs:=3,vars:=[0,1,2,3,4,6],body:=(.seq (.reg [w 3 (.bx v0 2),w 4 (.bx v1 1),w 5 (.mv (.i 0))] []) (.seq (.ite [h 2 v3,h 1 v4,u (.ca N.cD 0 [] [.l 1,.l 0]),u (.un .not l0)] [] 0 (.seq (.reg [w 5 (.mv (.i 6))] []) .ret) .skip) (.seq (.ite [f 0 v4,g l0,a 2 l0 (.i 0),f 0 l0,g l0,m v2,u (.ca N.cF 0 [] [.l 1,.l 0]),u (.bin .lss l0 (.i 0))] [] 0 (.seq (.reg [w 5 (.mv (.i 41))] []) .ret) .skip) (.seq (.reg [w 5 (.mv (.i 0))] []) .ret)))),res:=[(5,none)]}
def ju:C:=(.seq (.ite [m v3,m v0,u (.ln l0),u (.bin .lss l2 l0)] [] 0 .skip (.exit 0)) (.seq (.blk 1 (.ite [m v0,m v3,a 1 l1 l0,g l0,m v1,u (.bin .eql l1 l0)] [] 0 (.seq (.reg [m v3,w 2 (.mv l0)] []) .ret) .skip)) (.reg [m v3,u (.bin .add l0 (.i 1)),w 3 (.mv l0)] [])))
def qB:C:= .loop true [2] K.ju
def cF:Fn:={ nargs:=2,vars:=[0,1,4,5],body:=(.seq (.reg [w 2 (.mv (.i 0))] []) (.seq (.seq (.reg [w 3 (.mv (.i 0))] []) (.blk 0 K.qB)) (.seq (.reg [w 2 (.mv (.i (-1)))] []) .ret))),res:=[(2,none)]}
def ma:C:=(.seq (.ite [m v12,m v2,u (.ln l0),u (.bin .lss l2 l0)] [] 0 .skip (.exit 0)) (.seq (.blk 1 (.seq (.reg [m v2,m v12,a 1 l1 l0,g l0,w 13 (.mv l0)] []) (.ite [f 1 v6,g l0,m v13,a 1 l1 l0,g l0,m v4,u (.bin .leq l1 l0)] [] 0 (.reg [m v10,m v13,f 1 v6,g l0,m v13,a 1 l1 l0,g l0,a 1 l6 l5,u (.st l0 l1 1 []),w 11 (.mv (.b true))] []) .skip))) (.reg [m v12,u (.bin .add l0 (.i 1)),w 12 (.mv l0)] [])))
def vU:C:= .loop true [0,1,8,9,13] K.ma
def gH:Fn:={ nargs:=5,vars:=[0,1,2,3,4,5,6,10,11,12,13,14,15,16],body:=(.seq (.reg [w 5 (.bx v0 2),w 6 (.bx v1 2),w 7 (.al [.t (.int .i64 (0)),.nil] []),w 8 (.mv (.i 0))] []) (.seq (.seq (.reg [h 2 v5,h 2 v6,m v2,m v3,m v4,u (.ca N.b9 0 [] [.l 4,.l 3,.l 2,.l 1,.l 0]),w 9 (.mv l0)] []) (.ite [m v9,u (.bin .neq l0 (.i 0))] [] 0 (.seq (.reg [h 2 v6,u (.ca N.cK 0 [] [.l 0]),m v9,u (.st v7 l1 2 []),w 8 (.mv l1)] []) .ret) .skip)) (.seq (.ite [m v3,f 0 v6,g l0,u (.bin .lss l2 l0)] [] 0 (.seq (.reg [h 2 v6,u (.ca N.cK 0 [] [.l 0]),u (.st v7 l0 2 []),w 8 (.mv (.i 42))] []) .ret) .skip) (.seq (.reg [f 0 v5,g l0,u (.ln l0),u (.ca N.eW 1 [] [.l 0]),w 10 (.mv l0)] []) (.seq (.reg [w 11 (.mv (.b false))] []) (.seq (.seq (.reg [w 12 (.mv (.i 0))] []) (.blk 0 K.vU)) (.seq (.ite [m v11,u (.un .not l0)] [] 0 (.seq (.reg [h 2 v6,u (.ca N.cK 0 [] [.l 0]),u (.st v7 l0 2 []),w 8 (.mv (.i 43))] []) .ret) .skip) (.seq (.reg [m v4,h 2 v5,m v10,m v3,u (.ca N.dJ 0 [] [.l 2,.l 1,.l 0]),u (.bd [.t (.int .i64 (0)),.nil] [(0,1,.l 4),(1,1,.l 0)]),u (.st v7 l0 2 []),w 8 (.mv (.i 0))] []) .ret)))))))),res:=[(7,some (2,true)),(8,none)]}
def lG:C:=(.seq (.ite [m v12,m v2,u (.ln l0),u (.bin .lss l2 l0)] [] 0 .skip (.exit 0)) (.seq (.blk 1 (.reg [m v11,m v2,m v12,a 1 l1 l0,g l0,a 1 l4 l0,u (.st l0 (.i 1099511627776) 1 [])] [])) (.reg [m v12,u (.bin .add l0 (.i 1)),w 12 (.mv l0)] [])))
def qC:C:= .loop true [0,1,3,7,9,10] K.lG
def cG:Fn:={ nargs:=6,vars:=[0,1,2,3,4,5,6,7,12,13,14,15,16],body:=(.seq (.reg [w 6 (.bx v0 2),w 7 (.bx v1 2),w 8 (.al [.t (.int .i64 (0)),.nil] []),w 9 (.mv (.i 0))] []) (.seq (.seq (.reg [h 2 v6,h 2 v7,m v2,m v3,m v4,u (.ca N.b9 0 [] [.l 4,.l 3,.l 2,.l 1,.l 0]),w 10 (.mv l0)] []) (.ite [m v10,u (.bin .neq l0 (.i 0))] [] 0 (.seq (.reg [h 2 v7,u (.ca N.cK 0 [] [.l 0]),m v10,u (.st v8 l1 2 []),w 9 (.mv l1)] []) .ret) .skip)) (.seq (.ite [m v5,u (.ca N.dh 0 [] [.l 0]),u (.un .not l0)] [] 0 (.seq (.reg [h 2 v7,u (.ca N.cK 0 [] [.l 0]),u (.st v8 l0 2 []),w 9 (.mv (.i 8))] []) .ret) .skip) (.seq (.ite [m v4,f 0 v7,g l0,u (.bin .lss l2 l0)] [] 0 (.seq (.reg [h 2 v7,u (.ca N.cK 0 [] [.l 0]),u (.st v8 l0 2 []),w 9 (.mv (.i 42))] []) .ret) .skip) (.seq (.ite [m v4,m v3,f 0 v7,g l0,u (.mx [.l 2,.l 0]),u (.bin .sub l4 l0),m v5,u (.bin .leq l1 l0)] [] 0 (.seq (.reg [h 2 v7,u (.ca N.cK 0 [] [.l 0]),u (.st v8 l0 2 []),w 9 (.mv (.i 0))] []) .ret) .skip) (.seq (.reg [f 1 v7,g l0,u (.app (.c (.nil)) l0 true 1),w 11 (.mv l0)] []) (.seq (.seq (.reg [w 12 (.mv (.i 0))] []) (.blk 0 K.qC)) (.seq (.reg [m v4,h 2 v6,h 2 v6,m v11,m v4,m v5,u (.bin .sub l1 l0),m v2,u (.ca N.et 0 [3] [.l 5,.l 4,.l 1,.l 0]),m v4,u (.ca N.dJ 0 [] [.l 8,.l 1,.l 0]),u (.bd [.t (.int .i64 (0)),.nil] [(0,1,.l 10),(1,1,.l 0)]),u (.st v8 l0 2 []),w 9 (.mv (.i 0))] [(1,9)]) .ret)))))))),res:=[(8,some (2,true)),(9,none)]}
def j5:C:=(.its [u (.bin .lss v6 v5)] [] 0 .skip (.exit 0) (.seq (.blk 1 (.seq (.reg [m v6,w 4 (.mv l0)] []) (.ite [m v1,m v4,u (.cw l1 0 [] [.l 0])] [] 0 (.reg [m v3,m v4,u (.bs [.l 0] 1),u (.app l2 l0 true 1),w 3 (.mv l0)] []) .skip))) (.reg [u (.bin .add v6 (.i 1)),w 6 (.mv l0)] [])))
def rY:C:= .loop true [0,2,4] K.j5
def dI:Fn:={ nargs:=2,vars:=[0,1,4,5,6,7,8],body:=(.seq (.reg [w 2 (.mv (.c (.nil)))] []) (.seq (.reg [w 3 (.nw 1)] []) (.seq (.seq (.reg [w 5 (.mv v0),w 6 (.mv (.i 0))] []) (.blk 0 K.rY)) (.seq (.reg [m v3,w 2 (.mv l0)] []) .ret)))),res:=[(2,none)]}
def aF:Fn:={ nargs:=2,vars:=[0,1,4],body:=(.seq (.reg [w 2 (.mv (.b false))] []) (.seq (.reg [m v0,m v1,u (.ca N.bh 0 [] [.l 1,.l 0]),u (.bin .geq l0 (.i 0)),w 2 (.mv l0)] []) .ret)),res:=[(2,none)]}
def aS:Fn:={ nargs:=2,vars:=[0,1,4],body:=(.seq (.reg [w 2 (.mv (.b false))] []) (.seq (.reg [m v0,m v1,u (.ca N.bD 0 [] [.l 1,.l 0]),u (.bin .geq l0 (.i 0)),w 2 (.mv l0)] []) .ret)),res:=[(2,none)]}
def fW:Fn:={ nargs:=3,vars:=[0,1,2,3,6],body:=(.seq (.reg [w 3 (.bx v0 2),w 4 (.mv (.b false))] []) (.seq (.reg [m v1,f 0 v3,g l0,u (.bin .leq l2 l0),m l0,y 0 true (.fa v3 0),y 1 true (.ld l0 1 false),y 2 true (.fa v3 1),y 3 true (.ld l0 1 false),y 4 true (.bin .leq l2 l0),u (.pk l5 l0 (.b false)),m l0,y 0 true (.fa v3 1),y 1 true (.ld l0 1 false),y 2 true (.mv v2),y 3 true (.bin .leq l1 l0),u (.pk l4 l0 (.b false)),w 4 (.mv l0)] []) .ret)),res:=[(4,none)]}
def dh:Fn:={ nargs:=1,vars:=[0,2],body:=(.seq (.reg [w 1 (.mv (.b false))] []) (.seq (.reg [m v0,u (.bin .geq l0 (.i 0)),m l0,y 0 true (.mv v0),y 1 true (.bin .leq l0 (.i 2147483648)),u (.pk l2 l0 (.b false)),w 1 (.mv l0)] []) .ret)),res:=[(1,none)]}
def mF:C:=(.seq (.ite [m v3,m v0,u (.bin .lss l1 l0)] [] 0 .skip (.exit 0)) (.seq (.blk 1 (.reg [m v2,u (.bs [.i 1099511627776] 1),u (.app l1 l0 true 1),w 2 (.mv l0)] [])) (.reg [m v3,u (.bin .add l0 (.i 1)),w 3 (.mv l0)] [])))
def rZ:C:= .loop true [1] K.mF
def eW:Fn:={ nargs:=1,vars:=[0,2,3,4],body:=(.seq (.reg [w 1 (.mv (.c (.nil)))] []) (.seq (.reg [w 2 (.nw 1)] []) (.seq (.seq (.reg [w 3 (.mv (.i 0))] []) (.blk 0 K.rZ)) (.seq (.reg [m v2,w 1 (.mv l0)] []) .ret)))),res:=[(1,none)]}
def dJ:Fn:={ nargs:=3,vars:=[0,1,2,3,6],body:=(.seq (.reg [w 3 (.bx v0 2),w 4 (.mv (.c (.nil)))] []) (.seq (.reg [h 2 v3,m v1,m v2,u (.ca N.et 0 [3] [.l 2,.l 1,.l 0,.c (.nil)]),w 4 (.mv l0)] []) .ret)),res:=[(4,none)]}
def gR:C:=(.seq (.ite [m v3,m v0,u (.ln l0),u (.bin .lss l2 l0),m l0,y 0 true (.mv v3),y 1 true (.mv v1),y 2 true (.ln l0),y 3 true (.bin .lss l2 l0),u (.pk l4 l0 (.b false))] [] 0 .skip (.exit 0)) (.seq (.blk 1 (.ite [m v0,m v3,a 1 l1 l0,g l0,m v1,m v3,a 1 l1 l0,g l0,u (.bin .neq l4 l0)] [] 0 (.seq (.reg [m v0,m v3,a 1 l1 l0,g l0,m v1,m v3,a 1 l1 l0,g l0,u (.bin .lss l4 l0),w 2 (.mv l0)] []) .ret) .skip)) (.reg [m v3,u (.bin .add l0 (.i 1)),w 3 (.mv l0)] [])))
def tZ:C:= .loop true [2] K.gR
def fX:Fn:={ nargs:=2,vars:=[0,1,4,5],body:=(.seq (.reg [w 2 (.mv (.b false))] []) (.seq (.seq (.reg [w 3 (.mv (.i 0))] []) (.blk 0 K.tZ)) (.seq (.reg [m v0,u (.ln l0),m v1,u (.ln l0),u (.bin .lss l2 l0),w 2 (.mv l0)] []) .ret))),res:=[(2,none)]}
def eo:Fn:={ nargs:=2,vars:=[0,1,2,3,4],body:=(.seq (.reg [w 2 (.bx v0 2),w 3 (.bx v1 2),w 4 (.mv (.b false))] []) (.seq (.reg [h 2 v2,u (.ca N.du 0 [] [.l 0]),u (.bin .eql l0 (.i 0)),m l0,y 0 true (.ld v3 2 true),y 1 true (.fa v2 0),y 2 true (.ld l0 1 false),y 3 true (.ln l0),y 4 true (.ca N.dK 0 [] [.l 3,.l 0]),u (.pk l5 l0 (.b false)),m l0,y 0 true (.ld v2 2 true),y 1 true (.fa v3 1),y 2 true (.ld l0 1 false),y 3 true (.fa v3 0),y 4 true (.ld l0 1 false),y 5 true (.ca N.dJ 0 [] [.l 4,.l 2,.l 0]),y 6 true (.fa v3 1),y 7 true (.ld l0 1 false),y 8 true (.ca N.bX 0 [] [.l 2,.l 0]),u (.pk l9 l0 (.b false)),w 4 (.mv l0)] [(18,9)]) .ret)),res:=[(4,none)]}
def cK:Fn:={ nargs:=1,vars:=[0,1,2],body:=(.seq (.reg [w 1 (.bx v0 2),w 2 (.al [.t (.int .i64 (0)),.nil] [])] []) (.seq (.reg [f 0 v1,g l0,f 1 v1,g l0,u (.app (.c (.nil)) l0 true 1),u (.bd [.t (.int .i64 (0)),.nil] [(0,1,.l 3),(1,1,.l 0)]),u (.st v2 l0 2 [])] [(1,5)]) .ret)),res:=[(2,some (2,true))]}
def ig:C:=(.seq (.ite [m v3,m v0,u (.ln l0),u (.bin .lss l2 l0)] [] 0 .skip (.exit 0)) (.seq (.blk 1 (.ite [m v0,m v3,a 1 l1 l0,g l0,m v1,m v3,a 1 l1 l0,g l0,u (.bin .neq l4 l0)] [] 0 (.seq (.reg [w 2 (.mv (.b false))] []) .ret) .skip)) (.reg [m v3,u (.bin .add l0 (.i 1)),w 3 (.mv l0)] [])))
def oz:C:= .loop true [2] K.ig
def bX:Fn:={ nargs:=2,vars:=[0,1,4,5],body:=(.seq (.reg [w 2 (.mv (.b false))] []) (.seq (.ite [m v0,u (.ln l0),m v1,u (.ln l0),u (.bin .neq l2 l0)] [] 0 (.seq (.reg [w 2 (.mv (.b false))] []) .ret) .skip) (.seq (.seq (.reg [w 3 (.mv (.i 0))] []) (.blk 0 K.oz)) (.seq (.reg [w 2 (.mv (.b true))] []) .ret)))),res:=[(2,none)]}
def nN:C:=(.seq (.ite [m v7,f 1 v2,g l0,u (.ln l0),u (.bin .lss l3 l0)] [] 0 .skip (.exit 0)) (.seq (.blk 1 (.reg [f 1 v6,g l0,f 1 v2,g l0,m v7,a 1 l1 l0,g l0,f 1 v3,g l0,m v7,a 1 l1 l0,g l0,u (.mn [.l 5,.l 0]),u (.bs [.l 0] 1),u (.app (.l 12) l0 true 1),f 1 v6,u (.st l0 l1 1 [])] [(1,14)])) (.reg [m v7,u (.bin .add l0 (.i 1)),w 7 (.mv l0)] [])))
def ua:C:= .loop true [0,1,5] K.nN
def fY:Fn:={ nargs:=2,vars:=[0,1,2,3,4,5,6,7],body:=(.seq (.reg [w 2 (.bx v0 2),w 3 (.bx v1 2),w 4 (.al [.t (.int .i64 (0)),.nil] []),w 5 (.mv (.i 0))] []) (.seq (.ite [f 1 v2,g l0,u (.ln l0),f 1 v3,g l0,u (.ln l0),u (.bin .neq l3 l0)] [] 0 (.seq (.reg [u (.bd [.t (.int .i64 (0)),.nil] []),u (.st v4 l0 2 []),w 5 (.mv (.i 6))] []) .ret) .skip) (.seq (.reg [f 0 v2,g l0,f 0 v3,g l0,u (.mx [.l 2,.l 0]),u (.bd [.t (.int .i64 (0)),.nil] [(0,1,.l 0)]),w 6 (.al [.t (.int .i64 (0)),.nil] [(1,1)]),u (.st l0 l1 2 [(1,1)])] []) (.seq (.seq (.reg [w 7 (.mv (.i 0))] []) (.blk 0 K.ua)) (.seq (.reg [h 2 v6,u (.st v4 l0 2 []),w 5 (.mv (.i 0))] []) .ret))))),res:=[(4,some (2,true)),(5,none)]}
def b9:Fn:={ nargs:=5,vars:=[0,1,2,3,4,5,6,10],body:=(.seq (.reg [w 5 (.bx v0 2),w 6 (.bx v1 2),w 7 (.mv (.i 0))] []) (.seq (.ite [h 2 v5,h 2 v6,u (.ca N.eo 0 [] [.l 1,.l 0]),u (.un .not l0),m l0,y 0 false (.mv v2),y 1 false (.ln l0),y 2 false (.bin .eql l0 (.i 0)),u (.pk l3 (.b true) l0),m l0,y 0 false (.mv v2),y 1 false (.fa v5 0),y 2 false (.ld l0 1 false),y 3 false (.ln l0),y 4 false (.ca N.i7 0 [] [.l 3,.l 0]),y 5 false (.un .not l0),u (.pk l6 (.b true) l0)] [] 0 (.seq (.reg [w 7 (.mv (.i 6))] []) .ret) .skip) (.seq (.ite [m v3,u (.ca N.dh 0 [] [.l 0]),u (.un .not l0),m l0,y 0 false (.mv v4),y 1 false (.ca N.dh 0 [] [.l 0]),y 2 false (.un .not l0),u (.pk l3 (.b true) l0),m l0,y 0 false (.mv v3),y 1 false (.mv v4),y 2 false (.bin .gtr l1 l0),u (.pk l3 (.b true) l0)] [] 0 (.seq (.reg [w 7 (.mv (.i 8))] []) .ret) .skip) (.seq (.reg [w 7 (.mv (.i 0))] []) .ret)))),res:=[(7,none)]}
def dU:C:=(.seq (.ite [m v8,f 1 v4,g l0,u (.ln l0),u (.bin .lss l3 l0)] [] 0 .skip (.exit 2)) (.seq (.blk 3 (.seq (.reg [f 1 v4,g l0,m v8,a 10 l1 l0,h 10 l0,w 9 (.al [.t (.int .i64 (0)),.t (.int .i64 (0)),.t (.int .i64 (0)),.t (.int .i64 (0)),.t (.bool false),.t (.bool false),.t (.int .i64 (0)),.t (.int .i64 (0)),.t (.int .i64 (0)),.t (.int .i64 (0))] []),u (.st l0 l1 10 [])] []) (.seq (.ite [m v3,u (.eqk (.sl) false l0 (.c (.nil))),m l0,y 0 false (.mv v3),y 1 false (.fa v9 1),y 2 false (.ld l0 1 false),y 3 false (.ca N.gG 0 [] [.l 2,.l 0]),u (.pk l4 (.b true) l0),m l0,y 0 true (.mv v6),y 1 true (.fa v9 0),y 2 true (.ld l0 1 false),y 3 true (.fa v9 1),y 4 true (.ld l0 1 false),y 5 true (.ld v4 2 true),y 6 true (.mv v8),y 7 true (.ca N.fZ 0 [] [.l 1,.l 0,.b false]),y 8 true (.mv v2),y 9 true (.ca N.cY 0 [0] [.l 8,.l 6,.l 4,.l 1,.l 0]),u (.pk l10 l0 (.b false))] [(11,17),(13,17)] 0 (.reg [w 7 (.mv (.b true))] []) .skip) (.ite [m v3,u (.eqk (.sl) false l0 (.c (.nil))),m l0,y 0 false (.mv v3),y 1 false (.fa v9 0),y 2 false (.ld l0 1 false),y 3 false (.ca N.gG 0 [] [.l 2,.l 0]),u (.pk l4 (.b true) l0),m l0,y 0 true (.mv v6),y 1 true (.fa v9 1),y 2 true (.ld l0 1 false),y 3 true (.fa v9 0),y 4 true (.ld l0 1 false),y 5 true (.ld v4 2 true),y 6 true (.mv v8),y 7 true (.ca N.fZ 0 [] [.l 1,.l 0,.b true]),y 8 true (.mv v2),y 9 true (.ca N.cY 0 [0] [.l 8,.l 6,.l 4,.l 1,.l 0]),u (.pk l10 l0 (.b false))] [(11,17),(13,17)] 0 (.reg [w 7 (.mv (.b true))] []) .skip)))) (.reg [m v8,u (.bin .add l0 (.i 1)),w 8 (.mv l0)] [])))
def r5:C:= .loop true [0,1,5,9] K.dU
def j6:C:=(.seq (.ite [m v7] [] 0 .skip (.exit 0)) (.blk 1 (.seq (.reg [w 7 (.mv (.b false))] []) (.seq (.reg [w 8 (.mv (.i 0))] []) (.blk 2 K.r5)))))
def r6:C:= .loop true [0,1,5,8,9] K.j6
def et:Fn:={ nargs:=4,vars:=[0,1,2,3,4,8,9,10,11,12],body:=(.seq (.reg [w 4 (.bx v0 2),w 5 (.mv (.c (.nil)))] []) (.seq (.reg [m v1,u (.app (.c (.nil)) l0 true 1),w 6 (.mv l0)] []) (.seq (.seq (.reg [w 7 (.mv (.b true))] []) (.blk 0 K.r6)) (.seq (.reg [m v6,w 5 (.mv l0)] []) .ret)))),res:=[(5,none)]}
def dk:C:=(.its [u (.bin .lss v5 v4)] [] 0 .skip (.exit 0) (.seq (.blk 1 (.seq (.reg [m v5,w 3 (.mv l0)] []) (.ite [m v1,m v0,m v3,a 1 l1 l0,g l0,u (.cw l4 0 [] [.l 0])] [] 0 (.seq (.reg [m v3,w 2 (.mv l0)] []) .ret) .skip))) (.reg [u (.bin .add v5 (.i 1)),w 5 (.mv l0)] [])))
def iC:C:= .loop true [2,3] K.dk
def bh:Fn:={ nargs:=2,vars:=[0,1,4,5,7,8],body:=(.seq (.reg [w 2 (.mv (.i 0))] []) (.seq (.seq (.reg [m v0,w 4 (.ln l0),w 5 (.mv (.i 0))] []) (.blk 0 K.iC)) (.seq (.reg [w 2 (.mv (.i (-1)))] []) .ret))),res:=[(2,none)]}
def ee:C:=(.its [u (.bin .lss v5 v4)] [] 0 .skip (.exit 0) (.seq (.blk 1 (.seq (.reg [m v5,w 3 (.mv l0)] []) (.ite [m v1,m v0,m v3,a 1 l1 l0,g l0,u (.bin .eql l4 l0)] [] 0 (.seq (.reg [m v3,w 2 (.mv l0)] []) .ret) .skip))) (.reg [u (.bin .add v5 (.i 1)),w 5 (.mv l0)] [])))
def j7:C:= .loop true [2,3] K.ee
def bD:Fn:={ nargs:=2,vars:=[0,1,4,5,7,8],body:=(.seq (.reg [w 2 (.mv (.i 0))] []) (.seq (.seq (.reg [m v0,w 4 (.ln l0),w 5 (.mv (.i 0))] []) (.blk 0 K.j7)) (.seq (.reg [w 2 (.mv (.i (-1)))] []) .ret))),res:=[(2,none)]}
def av:Fn:={ nargs:=2,vars:=[0,1,4],body:=(.seq (.reg [w 2 (.mv (.b false))] []) (.seq (.reg [m v0,m v1,u (.ca N.aC 0 [] [.l 1,.l 0]),u (.bin .geq l0 (.i 0)),w 2 (.mv l0)] []) .ret)),res:=[(2,none)]}
def eI:Fn:={ nargs:=3,vars:=[0,1,2,6],body:=(.seq (.reg [w 3 (.mv (.b false))] []) (.seq (.reg [m v0,m v1,u (.bin .geq l1 l0),m l0,y 0 true (.mv v0),y 1 true (.mv v2),y 2 true (.bin .leq l1 l0),u (.pk l3 l0 (.b false)),w 3 (.mv l0)] []) .ret)),res:=[(3,none)]}
def gg:C:=(.seq (.ite [m v4,f 1 v2,g l0,u (.ln l0),u (.bin .lss l3 l0)] [] 0 .skip (.exit 0)) (.seq (.blk 1 (.ite [f 1 v2,g l0,m v4,a 1 l1 l0,g l0,u (.bin .neq l0 (.i 1099511627776)),m l0,y 0 true (.fa v2 1),y 1 true (.ld l0 1 false),y 2 true (.mv v4),y 3 true (.ia l1 l0 1),y 4 true (.ld l0 1 false),y 5 true (.bin .lss l0 (.i 0)),y 6 true (.mv l0),y 0 false (.fa v2 1),y 1 false (.ld l0 1 false),y 2 false (.mv v4),y 3 false (.ia l1 l0 1),y 4 false (.ld l0 1 false),y 5 false (.bin .gtr l0 (.i 2147483648)),y 13 true (.pk l6 (.b true) l0),u (.pk (.l 14) l0 (.b false))] [] 0 (.seq (.reg [w 3 (.mv (.b false))] []) .ret) .skip)) (.reg [m v4,u (.bin .add l0 (.i 1)),w 4 (.mv l0)] [])))
def r7:C:= .loop true [0,1,3] K.gg
def dK:Fn:={ nargs:=2,vars:=[0,1,2,4,5],body:=(.seq (.reg [w 2 (.bx v0 2),w 3 (.mv (.b false))] []) (.seq (.ite [f 1 v2,g l0,u (.ln l0),m v1,u (.bin .neq l1 l0),m l0,y 0 false (.fa v2 0),y 1 false (.ld l0 1 false),y 2 false (.bin .lss l0 (.i 0)),u (.pk l3 (.b true) l0),m l0,y 0 false (.fa v2 0),y 1 false (.ld l0 1 false),y 2 false (.bin .gtr l0 (.i 2147483648)),u (.pk l3 (.b true) l0)] [] 0 (.seq (.reg [w 3 (.mv (.b false))] []) .ret) .skip) (.seq (.seq (.reg [w 4 (.mv (.i 0))] []) (.blk 0 K.r7)) (.seq (.reg [w 3 (.mv (.b true))] []) .ret)))),res:=[(3,none)]}
def cY:Fn:={ nargs:=5,vars:=[0,1,2,3,4,10,11],body:=(.seq (.reg [w 5 (.mv (.b false))] []) (.seq (.ite [m v3,u (.bin .lss l0 (.i 0)),m l0,y 0 false (.mv v0),y 1 false (.mv v1),y 2 false (.ia l1 l0 1),y 3 false (.ld l0 1 false),y 4 false (.bin .geq l0 (.i 1099511627776)),u (.pk l5 (.b true) l0)] [] 0 (.seq (.reg [w 5 (.mv (.b false))] []) .ret) .skip) (.seq (.reg [m v4,m v0,m v1,a 1 l1 l0,g l0,m v3,u (.bin .add l1 l0),u (.mx [.l 6,.l 0]),w 6 (.mv l0)] []) (.seq (.ite [m v6,u (.bin .gtr l0 (.i 2147483648)),m l0,y 0 false (.mv v6),y 1 false (.mv v0),y 2 false (.mv v2),y 3 false (.ia l1 l0 1),y 4 false (.ld l0 1 false),y 5 false (.bin .geq l4 l0),u (.pk l6 (.b true) l0)] [] 0 (.seq (.reg [w 5 (.mv (.b false))] []) .ret) .skip) (.seq (.reg [m v0,m v2,m v6,a 1 l2 l1,u (.st l0 l1 1 [])] []) (.seq (.reg [w 5 (.mv (.b true))] []) .ret)))))),res:=[(5,none)]}
def fZ:Fn:={ nargs:=3,vars:=[0,1,2,3,6],body:=(.seq (.reg [w 3 (.bx v0 2),w 4 (.mv (.i 0))] []) (.seq (.reg [h 2 v3,m v1,m v2,u (.ca N.bQ 0 [] [.l 2,.l 1,.l 0,.i 6,.i 9,.i 12]),w 4 (.mv l0)] []) .ret)),res:=[(4,none)]}
def bE:C:=(.its [u (.bin .lss v5 v4)] [] 0 .skip (.exit 0) (.seq (.blk 1 (.seq (.reg [m v5,w 3 (.mv l0)] []) (.ite [m v1,m v0,m v3,a 2 l1 l0,h 2 l0,u (.cw l4 0 [] [.l 0])] [] 0 (.seq (.reg [m v3,w 2 (.mv l0)] []) .ret) .skip))) (.reg [u (.bin .add v5 (.i 1)),w 5 (.mv l0)] [])))
def dV:C:= .loop true [2,3] K.bE
def aC:Fn:={ nargs:=2,vars:=[0,1,4,5,7,8],body:=(.seq (.reg [w 2 (.mv (.i 0))] []) (.seq (.seq (.reg [m v0,w 4 (.ln l0),w 5 (.mv (.i 0))] []) (.blk 0 K.dV)) (.seq (.reg [w 2 (.mv (.i (-1)))] []) .ret))),res:=[(2,none)]}
def bQ:Fn:={ nargs:=6,vars:=[0,1,2,3,4,5,6,12,13,14,15,16,17],body:=(.seq (.reg [w 6 (.bx v0 2),w 7 (.mv (.i 0))] []) (.seq (.ite [h 2 v6,u (.ca N.du 0 [] [.l 0]),u (.bin .neq l0 (.i 0)),m l0,y 0 false (.mv v1),y 1 false (.bin .lss l0 (.i 0)),u (.pk l2 (.b true) l0),m l0,y 0 false (.mv v1),y 1 false (.fa v6 1),y 2 false (.ld l0 1 false),y 3 false (.ln l0),y 4 false (.bin .geq l3 l0),u (.pk l5 (.b true) l0),m l0,y 0 false (.fa v6 1),y 1 false (.ld l0 1 false),y 2 false (.mv v1),y 3 false (.ia l1 l0 10),y 4 false (.fa l0 5),y 5 false (.ld l0 1 false),u (.pk l6 (.b true) l0),m l0,y 0 false (.fa v6 1),y 1 false (.ld l0 1 false),y 2 false (.mv v1),y 3 false (.ia l1 l0 10),y 4 false (.fa l0 4),y 5 false (.ld l0 1 false),y 6 false (.un .not l0),u (.pk l7 (.b true) l0)] [] 0 (.seq (.reg [w 7 (.mv (.i (-1)))] []) .ret) .skip) (.seq (.reg [f 1 v6,g l0,m v1,a 10 l1 l0,h 10 l0,w 8 (.al [.t (.int .i64 (0)),.t (.int .i64 (0)),.t (.int .i64 (0)),.t (.int .i64 (0)),.t (.bool false),.t (.bool false),.t (.int .i64 (0)),.t (.int .i64 (0)),.t (.int .i64 (0)),.t (.int .i64 (0))] []),u (.st l0 l1 10 [])] []) (.seq (.reg [h 10 v8,m v2,u (.ca N.gP 0 [] [.l 1,.l 0]),m l0,u (.ex l0 0),u (.ex l1 1),w 9 (.mv l1),w 10 (.mv l1)] []) (.seq (.reg [f 0 v6,g l0,m v10,a 2 l1 l0,f 0 l0,g l0,f 0 v6,g l0,m v9,a 2 l1 l0,f 0 l0,g l0,u (.bin .sub l6 l0),w 11 (.mv l0)] []) (.seq (.reg [m v5,w 12 (.mv l0)] []) (.seq (.ite [m v11,u (.bin .mul (.i 10) l0),f 2 v8,g l0,u (.bin .gtr l2 l0)] [] 0 (.reg [m v3,w 12 (.mv l0)] []) .skip) (.seq (.ite [m v11,u (.bin .mul (.i (-10)) l0),f 2 v8,g l0,u (.bin .gtr l2 l0)] [] 0 (.reg [m v4,w 12 (.mv l0)] []) .skip) (.seq (.reg [f 2 v8,g l0,u (.bin .mul (.i 10) l0),m v12,u (.bin .add l1 l0),u (.bin .sub l0 (.i 1)),m v12,u (.bin .quo l1 l0),w 7 (.mv l0)] []) .ret))))))))),res:=[(7,none)]}
def gP:Fn:={ nargs:=2,vars:=[0,1,2,4,5],body:=(.seq (.reg [w 2 (.bx v0 10),w 3 (.mv (.i 0)),w 4 (.mv (.i 0))] []) (.seq (.ite [m v1] [] 0 (.seq (.reg [f 1 v2,g l0,f 0 v2,g l0,w 3 (.mv l2),w 4 (.mv l1)] []) .ret) .skip) (.seq (.reg [f 0 v2,g l0,f 1 v2,g l0,w 3 (.mv l2),w 4 (.mv l1)] []) .ret))),res:=[(3,none),(4,none)]}
end Go.Ev.K
namespace Go.Ev
class bS [Lib]:Prop where
 nh:Lib.fs N.dF=some K.dF
 pe:Lib.fs N.cD=some K.cD
 iJ:Lib.fs N.bw=some K.bw
 qD:Lib.fs N.gN=some K.gN
 pg:Lib.fs N.dG=some K.dG
 qE:Lib.fs N.gO=some K.gO
 ph:Lib.fs N.dH=some K.dH
 nO:Lib.fs N.cF=some K.cF
 sM:Lib.fs N.gH=some K.gH
 nQ:Lib.fs N.cG=some K.cG
 pj:Lib.fs N.dI=some K.dI
 eu:Lib.fs N.aF=some K.aF
 fM:Lib.fs N.aS=some K.aS
 qF:Lib.fs N.fW=some K.fW
 nS:Lib.fs N.dh=some K.dh
 pq:Lib.fs N.eW=some K.eW
 px:Lib.fs N.dJ=some K.dJ
 qG:Lib.fs N.fX=some K.fX
 pA:Lib.fs N.eo=some K.eo
 qH:Lib.fs N.cK=some K.cK
 lH:Lib.fs N.bX=some K.bX
 qI:Lib.fs N.fY=some K.fY
 pB:Lib.fs N.b9=some K.b9
 pC:Lib.fs N.et=some K.et
 fv:Lib.fs N.bh=some K.bh
 gV:Lib.fs N.bD=some K.bD
 bZ:Lib.fs N.av=some K.av
 uZ:Lib.fs N.eI=some K.eI
 pD:Lib.fs N.dK=some K.dK
 pE:Lib.fs N.cY=some K.cY
 qJ:Lib.fs N.fZ=some K.fZ
 cr:Lib.fs N.aC=some K.aC
 nT:Lib.fs N.bQ=some K.bQ
 qK:Lib.fs N.gP=some K.gP
namespace K
variable [Lib] [bS]
theorem nh:Lib.fs N.dF=some K.dF:=bS.nh
theorem pe:Lib.fs N.cD=some K.cD:=bS.pe
theorem iJ:Lib.fs N.bw=some K.bw:=bS.iJ
theorem qD:Lib.fs N.gN=some K.gN:=bS.qD
theorem pg:Lib.fs N.dG=some K.dG:=bS.pg
theorem qE:Lib.fs N.gO=some K.gO:=bS.qE
theorem ph:Lib.fs N.dH=some K.dH:=bS.ph
theorem nO:Lib.fs N.cF=some K.cF:=bS.nO
theorem sM:Lib.fs N.gH=some K.gH:=bS.sM
theorem nQ:Lib.fs N.cG=some K.cG:=bS.nQ
theorem pj:Lib.fs N.dI=some K.dI:=bS.pj
theorem eu:Lib.fs N.aF=some K.aF:=bS.eu
theorem fM:Lib.fs N.aS=some K.aS:=bS.fM
theorem qF:Lib.fs N.fW=some K.fW:=bS.qF
theorem nS:Lib.fs N.dh=some K.dh:=bS.nS
theorem pq:Lib.fs N.eW=some K.eW:=bS.pq
theorem px:Lib.fs N.dJ=some K.dJ:=bS.px
theorem qG:Lib.fs N.fX=some K.fX:=bS.qG
theorem pA:Lib.fs N.eo=some K.eo:=bS.pA
theorem qH:Lib.fs N.cK=some K.cK:=bS.qH
theorem lH:Lib.fs N.bX=some K.bX:=bS.lH
theorem qI:Lib.fs N.fY=some K.fY:=bS.qI
theorem pB:Lib.fs N.b9=some K.b9:=bS.pB
theorem pC:Lib.fs N.et=some K.et:=bS.pC
theorem fv:Lib.fs N.bh=some K.bh:=bS.fv
theorem gV:Lib.fs N.bD=some K.bD:=bS.gV
theorem bZ:Lib.fs N.av=some K.av:=bS.bZ
theorem uZ:Lib.fs N.eI=some K.eI:=bS.uZ
theorem pD:Lib.fs N.dK=some K.dK:=bS.pD
theorem pE:Lib.fs N.cY=some K.cY:=bS.pE
theorem qJ:Lib.fs N.fZ=some K.fZ:=bS.qJ
theorem cr:Lib.fs N.aC=some K.aC:=bS.cr
theorem nT:Lib.fs N.bQ=some K.bQ:=bS.nT
theorem qK:Lib.fs N.gP=some K.gP:=bS.qK
end K
end Go.Ev
namespace Go.Ev
open Go
variable [Lib]
noncomputable def aO:aQ:=nE Lib.fs
theorem ay{raw f:Nat}{args:List D}{H:ai}{fn:Fn}{r:D×ai}(hf:Lib.fs f=some fn)(hn:fn.nargs=args.length)
 (h:(exS aO fn.body ⟨rQ args fn.vars,H⟩).bind (XU fn.res H.length raw)=some r) (h0:fn.prim=[]:=by rfl):aO raw f args H=some r:=Pq hf hn h h0
theorem Ca{raw f:Nat}{args:List D}{H:ai}{fn:Fn}{r:D×ai}(hf:Lib.fs f=some fn)(h0:fn.prim≠[])(h:uM fn.prim args H=some r):aO raw f args H=some r:=GB hf h0 h
theorem cE{gc:Bool}{dead:List Nat}{c:C}{vs:List D}{H:ai}(s:Nat→St)(n:Nat){e:Ex}{st:St}
 (h0:(⟨iY dead vs,H⟩:St)=s 0) (h:∀j,j<n→eO gc dead (s j).H.length (exS aO c (s j))=some (s (j+1)))
 (he:exS aO c (s n)=some (e,st)) (hn:e≠ .normal):exS aO (.loop gc dead c) ⟨vs,H⟩=some (e,st):=by
 show lX gc dead (exS aO c) ⟨iY dead vs,H⟩=_
 rw[h0]
 exact w9 s n h (de he hn)
theorem sN{gc:Bool}{dead:List Nat}{c:C}{vs:List D}{H:ai}{p:Ex×St}(h:lX gc dead (exS aO c) ⟨iY dead vs,H⟩=some p):exS aO (.loop gc dead c) ⟨vs,H⟩=some p:=h
class Dat (α:Type) where
 dflt:α
instance : Dat Int := ⟨0⟩
instance : Dat Nat := ⟨0⟩
instance : Dat Bool := ⟨false⟩
instance {α : Type} : Dat (List α) := ⟨[]⟩
def nth{α:Type} [Dat α](l:List α)(j:Nat):α:=l.getD j Dat.dflt
theorem jv{α:Type} [Dat α]{l:List α}{j:Nat}(h:j<l.length):l[j]?=some (nth l j):=by simp[nth,h]
theorem cZ{α β:Type} [Dat α](f:α→β){l:List α}{j:Nat}(h:j<l.length):(l.map f)[j]?=some (f (nth l j)):=by rw[List.getElem?_map,jv h];rfl
theorem AA{α β γ:Type} [Dat α](f:β→γ)(g:α→β){l:List α}{j:Nat}(h:j<l.length):((l.map g).map f)[j]?=some (f (g (nth l j))):=by rw[List.getElem?_map,cZ g h];rfl
theorem ae{α:Type} [Dat α]{l:List α}{j:Nat}(h:j<l.length):nth l j∈l:=List.mem_of_getElem? (jv h)
theorem bA{α:Type} [Dat α]{l:List α}{j:Nat}{x:α}(h:l[j]?=some x):nth l j=x:=by simp[nth,h]
theorem ij{α:Type} [Dat α]{l:List α}{j:Nat}(h:j<l.length):l.take (j+1)=l.take j++[nth l j]:=by
 rw[List.take_succ_eq_append_getElem h];simp[nth,h]
theorem abY{a b:Int}(h:a<b):(a<b)=True:=by simp[h]
theorem abZ{a b:Int}(h:b≤a):(a<b)=False:=by simp[Int.not_lt.2 h]
theorem ab0{a b:Int}(h:a≤b):(a≤b)=True:=by simp[h]
theorem ab1{a b:Int}(h:b<a):(a≤b)=False:=by simp[Int.not_le.2 h]
theorem ab2{a b:Int}(h:a=b):(a=b)=True:=by simp[h]
theorem ab3{a b:Int}(h:a≠b):(a=b)=False:=by simp[h]
theorem ab4{a b:Nat}(h:a<b):(a<b)=True:=by simp[h]
theorem ab5{a b:Nat}(h:b≤a):(a<b)=False:=by simp[Nat.not_lt.2 h]
theorem ab6{a b:Nat}(h:a≤b):(a≤b)=True:=by simp[h]
theorem ab7{a b:Nat}(h:b<a):(a≤b)=False:=by simp[Nat.not_le.2 h]
theorem ab8{a b:Nat}(h:a=b):(a=b)=True:=by simp[h]
theorem ab9{a b:Nat}(h:a≠b):(a=b)=False:=by simp[h]
attribute [go_sem] ab8 ab9 abY abZ ab0 ab1 ab2 ab3 ab4 ab5 ab6 ab7 uX cZ AA PF
@[go_sem] theorem GO (a b : Nat) : ((a + b : Nat) : Int) = (a : Int) + (b : Int) := (rfl)
@[go_sem] theorem GP : ((1 : Nat) : Int) = 1 := (rfl)
@[go_sem] theorem DT : ((0 : Nat) : Int) = 0 := (rfl)
@[go_sem] theorem Wt (a b : Int) : a + b - b = a := Int.add_sub_cancel a b
@[go_sem] theorem NH : (0 : Int).toNat = 0 := (rfl)
@[go_sem] theorem Qn (n : Nat) : (n : Int).toNat = n := (rfl)
@[go_sem] theorem Qo (n : Nat) : ((n : Int) + 1).toNat = n + 1 := (rfl)
@[go_sem] theorem Qp (a : Int) : 0 + a = a := Int.zero_add a
@[go_sem] theorem Qq (a : Int) : a + 0 = a := Int.add_zero a
@[go_sem] theorem Qr (a : Int) : a - 0 = a := Int.sub_zero a
abbrev tI(n:Int):T:= .int .i64 n
abbrev tL(l:List Int):T:= .sl (l.map (.int .i64))
@[go_sem] theorem LV (H : ai) (n : Nat) (ts : List T) (x : T) : bL (frz H n) (ts.map .t ++ [.t x]) = some (ts ++ [x]) := by
 have:ts.map D.t++[.t x]=(ts++[x]).map .t:=by simp
 rw[this,GH]
@[go_sem] theorem NI {α β : Type} (f : α → β) (a b : List α) : (a ++ b).map f = a.map f ++ b.map f := List.map_append
end Go.Ev
namespace Go.Ev
open Go
variable [Lib] [cm] [bS]
def Mod(n m:Int):Int:=if m<1 then 0 else if n.tmod m<0 then n.tmod m+m else n.tmod m
theorem Wu(n m:Int):0≤Mod n m:=by
 unfold Mod
 split
 · omega
 · have h5:=Int.lt_tmod_of_pos n (b:=m) (by omega)
   split<;>omega
theorem Wv(n m:Int)(h:1≤m):Mod n m<m:=by
 unfold Mod
 rw[if_neg (by omega)]
 have h3:=Int.tmod_lt_of_pos n (b:=m) (by omega)
 split<;>omega
theorem Ww(n m:Int)(hm:m≤4611686018427387904):aO 0 N.jt [I n,I m] []=some (I (Mod n m),[]):=by
 refine ay K.uY rfl ?_
 unfold Mod
 by_cases h1:m<1
 · simp only[go_sem,K.jt,h1,↓reduceIte]
 · have h2:m≠0:=by omega
   have h3:=Int.tmod_lt_of_pos n (b:=m) (by omega)
   have h5:=Int.lt_tmod_of_pos n (b:=m) (by omega)
   by_cases h4:n.tmod m<0
   · simp (disch:=omega) only[go_sem,K.jt,h1,↓reduceIte,h2,h4]
   · simp (disch:=omega) only[go_sem,K.jt,h1,↓reduceIte,h2,h4]
theorem LW(l:List Int):aO 0 N.gM [.t (tL l)] []=some (B (decide (l.length≤400)),[]):=by
 refine ay K.qA rfl ?_
 simp (disch:=omega) only[go_sem,K.gM,↓reduceIte]
 simp only[show((l.length:Int)≤400)=(l.length≤400)by rw[eq_iff_iff];omega]
structure aB where
 L:List Int
 at_:Nat
def aB.obj(d:aB):Obj:= .box [.t (tL d.L),I d.at_]
def aB.dn(d:aB):Prop:=d.L.length≤400
def aB.next(d:aB)(n:Int):Int×aB:=if d.at_<d.L.length then(Mod (nth d.L d.at_) n,⟨d.L,d.at_+1⟩)else(0,d)
theorem aB.NJ(d:aB)(n:Int):(d.next n).2.L=d.L:=by unfold aB.next;split<;>rfl
theorem aB.aV{d:aB}(h:d.dn)(n:Int):(d.next n).2.dn:=by unfold aB.dn;rw[d.NJ];exact h
theorem aB.dA(d:aB)(n:Int):0≤(d.next n).1:=by unfold aB.next;split<;>simp[Wu]
theorem aB.dB(d:aB){n:Int}(h:1≤n):(d.next n).1<n:=by unfold aB.next;split<;>simp[Wv _ _ h];omega
theorem fN(d:aB)(n:Int)(hn:n≤4611686018427387904)(hd:d.dn):aO 0 N.aA [.bp 0 0,I n] [d.obj]=some (I (d.next n).1,[(d.next n).2.obj]):=by
 refine ay K.lC rfl ?_
 have hm:=Ww (nth d.L d.at_) n hn
 unfold aB.dn at hd
 unfold aB.next aB.obj
 by_cases h1:d.at_<d.L.length
 · simp (disch:=omega) only[go_sem,K.aA,↓reduceIte,↓if_pos,↓if_neg,Int.add_sub_cancel,hm,Int.natCast_add]
 · simp (disch:=omega) only[go_sem,K.aA,↓reduceIte,↓if_pos,↓if_neg]
@[go_sem] theorem Zi (d : aB) : Fu (some d.obj) = [] := by simp only [aB.obj, go_sem]
@[go_sem] theorem Zj (f : Nat → Option Nat) (d : aB) : gp f d.obj = some d.obj := by simp only [aB.obj, go_sem]
@[go_sem] theorem Zk (k : Nat) (d : aB) (r : ai) : ft k (d.obj :: r) = ft k r := by simp only [aB.obj, go_sem]
def aB.one(d:aB)(n:Int):Bool×aB:=(decide ((d.next n).1=n-1),(d.next n).2)
theorem aB.x7{d:aB}(h:d.dn)(n:Int):(d.one n).2.dn:=aB.aV h n
theorem I4(d:aB)(n:Int)(h1:0≤n)(hn:n≤4611686018427387904)(hd:d.dn):aO 0 N.cq [.bp 0 0,I n] [d.obj]=some (B (d.one n).1,[(d.one n).2.obj]):=by
 refine ay K.mE rfl ?_
 have hm:=fN d n hn hd
 unfold aB.one
 simp (disch:=omega) only[go_sem,K.cq,↓reduceIte,hm]
def aB.of(d:aB)(l:List Int):Int×aB:=(nth l (d.next l.length).1.toNat,(d.next l.length).2)
theorem aB.pF{d:aB}(h:d.dn)(l:List Int):(d.of l).2.dn:=aB.aV h _
theorem aB.vV(d:aB){l:List Int}(h:l≠[]):(d.of l).1∈l:=by
 unfold aB.of
 have hl:0<l.length:=List.length_pos_iff.2 h
 have:=d.dA l.length
 have:=d.dB (n:=l.length) (by omega)
 exact ae (by omega)
theorem LX(d:aB)(l:List Int)(hl:l≠[])(hl2:l.length≤4294967296)(hd:d.dn):aO 0 N.dg [.bp 0 0,.t (tL l)] [d.obj]=some (I (d.of l).1,[(d.of l).2.obj]):=by
 refine ay K.nH rfl ?_
 have hm:=fN d l.length (by omega) hd
 have h0:0<l.length:=List.length_pos_iff.2 hl
 have h1:=d.dA l.length
 have h2:=d.dB (n:=l.length) (by omega)
 unfold aB.of
 simp (disch:=omega) only[go_sem,K.dg,↓reduceIte,hm]
def aB.kX(d:aB):Nat→List Int×aB
 | 0=>([],d)
 | k+1=>(if((d.kX k).2.next 3).1=0 then(d.kX k).1++[(k:Int)]else(d.kX k).1,((d.kX k).2.next 3).2)
theorem aB.kH{d:aB}(h:d.dn):∀n,(d.kX n).2.dn
 | 0=>h
 | n+1=>aB.aV (aB.kH h n) 3
theorem aB.uc(d:aB):∀n,(d.kX n).1.length≤n
 | 0=>Nat.le_refl _
 | n+1=>by
   have:=d.uc n
   unfold aB.kX
   simp only
   split<;>simp<;>omega
theorem I5(d:aB)(n:Nat)(hn:n≤1000000)(hd:d.dn):aO 0 N.bW [.bp 0 0,I n] [d.obj]=some (.t (tL (d.kX n).1),[(d.kX n).2.obj]):=by
 refine ay K.lD rfl ?_
 have hlen:=d.uc
 have loop:exS aO K.ow ⟨[.bp 0 0,I n,.nil,.ref 1 0 0,I 0],[d.obj,.arr 1 false 0 []]⟩=
  some (.exit 0,⟨[.bp 0 0,I n,.und,.ref 1 0 (d.kX n).1.length,I n],[(d.kX n).2.obj,.arr 1 false 0 (((d.kX n).1.map (T.int .i64)).map .t)]⟩):=by
  refine cE (fun j=>⟨[.bp 0 0,I n,.und,.ref 1 0 (d.kX j).1.length,I j],[(d.kX j).2.obj,.arr 1 false 0 (((d.kX j).1.map (T.int .i64)).map .t)]⟩) n rfl ?_ ?_ (by simp)
  · intro j hj
    have hm:=fN (d.kX j).2 3 (by omega) (aB.kH hd j)
    have:=hlen j
    by_cases h:((d.kX j).2.next 3).1=0
    · simp (disch:=omega) only[go_sem,K.ic,hm,h,aB.kX,↓reduceIte]
    · simp (disch:=omega) only[go_sem,K.ic,hm,h,aB.kX,↓reduceIte]
  · simp (disch:=omega) only[go_sem,K.ic,↓reduceIte]
 simp (disch:=omega) only[go_sem,K.bW,↓reduceIte,loop]
theorem cu{gc:Bool}{dead:List Nat}{c:C}{vs:List D}{H:ai}(s:Nat→St)(n:Nat)(p:Nat→Bool)(e:Nat→Ex×St)(eN:Ex×St)
 (h0:(⟨iY dead vs,H⟩:St)=s 0) (hs:∀j,j<n→p j=false→eO gc dead (s j).H.length (exS aO c (s j))=some (s (j+1)))
 (he:∀j,j<n→p j=true→exS aO c (s j)=some (e j)∧(e j).1≠ .normal) (hN:exS aO c (s n)=some eN) (hn:eN.1≠ .normal):
 exS aO (.loop gc dead c) ⟨vs,H⟩=some (match (List.range n).find? p with | some j=>e j | none=>eN):=by
 show lX gc dead (exS aO c) ⟨iY dead vs,H⟩=_
 rw[h0]
 cases hf:(List.range n).find? p with
 | none=>
   refine w9 s n (fun j hj=>hs j hj ?_) (de hN hn)
   have:=List.find?_eq_none.1 hf j (List.mem_range.2 hj)
   simpa using this
 | some k=>
   obtain⟨h1,as,bs,h2,h3⟩:=List.find?_eq_some_iff_append.1 hf
   have hk:k<n:=List.mem_range.1 (List.mem_of_find?_eq_some hf)
   have hlt:∀j,j<k→p j=false:=by
    intro j hj
    have hlen:as.length=k:=by
     have h4:(List.range n)[as.length]?=some k:=by rw[h2];simp
     have h5:as.length<n:=by
      have:=congrArg List.length h2;simp at this;omega
     rw[List.getElem?_range h5]at h4
     exact Option.some.inj h4
    have:j∈as:=by
     have h6:(List.range n)[j]?=some j:=List.getElem?_range (by omega)
     rw[h2,List.getElem?_append_left (by omega)]at h6
     exact List.mem_of_getElem? h6
    simpa using h3 j this
   obtain⟨k1,k2⟩:=he k hk h1
   exact w9 s k (fun j hj=>hs j (by omega) (hlt j hj)) (de k1 k2)
def iT{α:Type}(f:α→α×Bool):Nat→α→α
 | 0,l=>l
 | n+1,l=>if(f l).2 then iT f n (f l).1 else(f l).1
theorem GQ{α:Type}{gc:Bool}{dead:List Nat}{c:C}{vs:List D}{H:ai}(S:α→Bool→St)(E:α→Ex×St)(f:α→α×Bool)(inv:α→Prop)(mes:α→Nat)
 (hinv:∀l,inv l→inv (f l).1∧((f l).2=true→mes (f l).1<mes l))
 (hs:∀l,inv l→eO gc dead (S l true).H.length (exS aO c (S l true))=some (S (f l).1 (f l).2))
 (he:∀l,inv l→exS aO c (S l false)=some (E l)∧(E l).1≠ .normal) (l:α) (hl:inv l) (h0:(⟨iY dead vs,H⟩:St)=S l true):
 exS aO (.loop gc dead c) ⟨vs,H⟩=some (E (iT f (mes l+1) l))∧inv (iT f (mes l+1) l):=by
 have key:∀(n:Nat) (l:α),inv l→mes l<n→lX gc dead (exS aO c) (S l true)=some (E (iT f n l))∧inv (iT f n l):=by
  intro n
  induction n with
  | zero=>intro l _ h;omega
  | succ n ih=>
    intro l hl hm
    obtain⟨h1,h2⟩:=hinv l hl
    have hr:=hs l hl
    cases hf:(f l).2 with
    | true=>
      rw[hf]at hr
      obtain⟨k1,k2⟩:=ih (f l).1 h1 (by have:=h2 hf;omega)
      simp only[iT,hf,if_true]
      exact⟨jK hr k1,k2⟩
    | false=>
      rw[hf]at hr
      obtain⟨k1,k2⟩:=he (f l).1 h1
      simp only[iT,hf,Bool.false_eq_true,if_false]
      exact⟨jK hr (de k1 k2),h1⟩
 have:=key (mes l+1) l hl (Nat.lt_succ_self _)
 show lX gc dead (exS aO c) ⟨iY dead vs,H⟩=_∧_
 rw[h0];exact this
theorem Fx{n:Nat}{p:Nat→Bool}:((List.range n).find? p).isSome=(List.range n).any p:=by
 rw[List.isSome_find?]
theorem x8{n j:Nat}{p:Nat→Bool}(h:(List.range n).find? p=some j):j<n∧p j=true:=⟨List.mem_range.1 (List.mem_of_find?_eq_some h),List.find?_some h⟩
def eR(m:Nat):List D:=(List.range m).map fun i=> .bp i 0
def aR(bs:List (List T)):ai:=bs.map fun cs=> .box (cs.map .t)
theorem zC{bs:List (List T)}{i:Nat}(h:i<bs.length):(aR bs)[i]?=some (.box (bs[i].map .t)):=by simp[aR,h]
theorem eT(bs:List (List T)):(aR bs).length=bs.length:=by simp[aR]
theorem u9:∀(l sel:List Nat),(sel++l).Nodup→eM sel l=sel++l
 | [],sel,_=>by simp[eM]
 | i::r,sel,h=>by
   have:sel.contains i=false:=by
    rw[← Bool.not_eq_true,List.contains_iff_mem]
    intro hm
    have:=List.nodup_append.1 h
    exact this.2.2 i hm i List.mem_cons_self rfl
   simp only[eM,this,Bool.false_eq_true,if_false]
   rw[u9 r (sel++[i]) (by simpa using h)]
   simp
theorem vW:∀(l:List Nat) (i k:Nat),l.Nodup→l[k]?=some i→idxOf l i=some k
 | [],i,k,_,h=>by simp at h
 | a::l,i,0,_,h=>by simp at h;simp[idxOf,h]
 | a::l,i,k+1,hn,h=>by
   simp at h
   have hne:a≠i:=fun e=>(List.nodup_cons.1 hn).1 (e▸List.mem_of_getElem? h)
   simp only[idxOf,if_neg hne,vW l i k (List.nodup_cons.1 hn).2 h,Option.map_some]
theorem DU{m i:Nat}(h:i<m):idxOf (List.range m) i=some i:=vW _ _ _ List.nodup_range (List.getElem?_range h)
theorem DV{α:Type}{f:α→Option α}:∀ {l:List α},(∀x∈l,f x=some x)→bL f l=some l
 | [],_=>rfl
 | a::l,h=>by
   simp only[bL,h a List.mem_cons_self,Option.bind_some,DV fun x hx=>h x (List.mem_cons_of_mem _ hx),Option.map_some]
theorem DW(f:Nat→Option Nat)(cs:List T):gp f (.box (cs.map .t))=some (.box (cs.map .t)):=by
 simp only[GL,rz,Option.map_some]
theorem Cb{H:ai}:∀ {l:List Nat} {hs:ai},l.length=hs.length→(∀(k i:Nat) (o:Obj),l[k]?=some i→hs[k]?=some o→H[i]?=some o)→pick H l=some hs
 | [],[],_,_=>rfl
 | [],_::_,h,_=>by simp at h
 | _::_,[],h,_=>by simp at h
 | i::l,o::hs,h,hg=>by
   rw[IY,hg 0 i o rfl rfl,Option.bind_some,LQ,Cb (l:=l) (hs:=hs) (by simpa using h) fun k i o hk ho=>hg (k+1) i o (by simpa using hk) (by simpa using ho)]
   rfl
theorem vX{H:ai}:∀ {l:List Nat} {os:ai},(∀(k i:Nat) (o:Obj),l[k]?=some i→os[k]?=some o→H[i]?=some o)→cW H l os=H
 | [],os,_=>by cases os<;>rfl
 | i::l,[],_=>rfl
 | i::l,o::os,hg=>by
   simp only[cW]
   rw[Ay (hg 0 i o rfl rfl)]
   exact vX fun k i o hk ho=>hg (k+1) i o (by simpa using hk) (by simpa using ho)
theorem Cc(call:aQ)(bs:List (List T))(E:ai)(f raw:Nat)(args:List D){r:D}(h:call raw f args (aR bs)=some (r,aR bs))(hr:wK r=true)
 (ha:∀H:ai,oS H [] 0 args=some args∧cn H [] 0 args=[]) (hids:eM [] (xZ 8 args)=List.range bs.length)
 (hren:bL (ren (idxOf (List.range bs.length)) 8) args=some args):GG (aR bs++E) call f raw [] args=some (r,aR bs++E):=by
 generalize hH:aR bs++E=H
 have hget:∀i (hi:i<bs.length),H[i]?=some (.box (bs[i].map .t)):=fun i hi=>by
  rw[← hH,List.getElem?_append_left (by rw[eT];exact hi),zC hi]
 obtain⟨ha,hfz⟩:=ha H
 have hno:oe H (List.range bs.length)=[]:=by
  simp only[oe,List.flatMap_eq_nil_iff,List.mem_range]
  intro i hi
  rw[hget i hi]
  exact Fs 8 bs[i]
 have hsel:reach H 3 (List.range bs.length)=List.range bs.length:=by
  simp only[reach,hno,eM]
 have hget2:∀(k i:Nat) (o:Obj),(List.range bs.length)[k]?=some i→(aR bs)[k]?=some o→H[i]?=some o:=by
  intro k i o hk ho
  have hkl:k<bs.length:=by have:=(List.getElem?_eq_some_iff.1 hk).1;simpa using this
  rw[List.getElem?_range hkl]at hk
  cases hk
  rw[zC hkl]at ho
  rw[hget k hkl,←ho]
 have hpick:pick H (List.range bs.length)=some (aR bs):=Cb (by simp[eT]) hget2
 have hro:∀f:Nat→Option Nat,bL (gp f) (aR bs)=some (aR bs):=fun f=>DV fun o ho=>by
  simp only[aR,List.mem_map]at ho
  obtain⟨cs,_,rfl⟩:=ho
  exact DW f cs
 have hput:cW H (List.range bs.length) (aR bs)=H:=vX hget2
 rw[LG,LH,ha,Option.bind_some,LI,hids,hsel,LJ,hren,Option.bind_some,hfz,LK]
 simp only[pins]
 rw[hpick,Option.bind_some,LL,hro,Option.bind_some,LM,h,Option.bind_some]
 cases hb:bs with
 | nil=>
   subst hb
   have hrr:=Av (f:=ed [] H.length) hr
   simp only[depth]at hrr
   simp only[List.length_nil,List.range_zero,aR,List.map_nil]
   unfold sH
   split
   · rfl
   · rw[Fq,hrr,Option.bind_some,Fp]
     simp[bL,LN,cW]
 | cons b bt=>
   rw[← hb]
   have hne:List.range bs.length=0::(List.range' 1 bt.length):=by rw[hb];simp[List.range_eq_range',List.range'_succ]
   have hrr:=Av (f:=ed (List.range bs.length) H.length) hr
   simp only[depth]at hrr
   have hw:sH H H (List.range bs.length) (r,aR bs)=Aw H H.length (List.range bs.length) (r,aR bs):=by
    rw[hne];rfl
   rw[hw,Fq,hrr,Option.bind_some,Fp,hro,Option.bind_some,LO,List.length_range,List.take_of_length_le (by rw[eT];exact Nat.le_refl _),hput,
    List.drop_eq_nil_of_le (by rw[eT];exact Nat.le_refl _),List.append_nil]
theorem DX(H:ai)(cs:List D)(hc:∀i,oS H [] i cs=some cs∧cn H [] i cs=[]):∀(ts:List T) (i:Nat),oS H [] i (ts.map .t++cs)=some (ts.map .t++cs)∧cn H [] i (ts.map .t++cs)=[]
 | [],i=>hc i
 | t::ts,i=>by
   obtain⟨h1,h2⟩:=DX H cs hc ts (i+1)
   simp only[List.map_cons,List.cons_append,zB,qx,Di,Nz,VX,Option.bind_some,IV,h1,h2,Wf,IT]
   exact⟨rfl,rfl⟩
theorem Cd(H:ai):∀(l:List Nat) (i:Nat),oS H [] i (l.map fun i=> .bp i 0)=some (l.map fun i=> .bp i 0)∧cn H [] i (l.map fun i=> .bp i 0)=[]
 | [],i=>⟨rfl,rfl⟩
 | a::l,i=>by
   obtain⟨h1,h2⟩:=Cd H l (i+1)
   simp only[List.map_cons,zB,qx,Di,Nz,PY,Option.bind_some,IV,h1,h2,Wf,P4]
   exact⟨rfl,rfl⟩
theorem Ce(n m:Nat):xZ n (eR m)=List.range m:=by
 simp only[xZ,eR,List.flatMap_map]
 have:∀l:List Nat,(l.flatMap fun a=>ids n (.bp a 0))=l:=by
  intro l
  induction l with
  | nil=>rfl
  | cons a l ih=>rw[List.flatMap_cons,ih,Wk];rfl
 exact this _
theorem Fy(n m:Nat):bL (ren (idxOf (List.range m)) n) (eR m)=some (eR m):=DV fun d hd=>by
 simp only[eR,List.mem_map,List.mem_range]at hd
 obtain⟨k,hk,rfl⟩:=hd
 rw[Wo,DU hk];rfl
theorem AB{α β:Type}{f:α→Option β}:∀ {a b:List α} {x y:List β},bL f a=some x→bL f b=some y→bL f (a++b)=some (x++y)
 | [],b,x,y,h1,h2=>by simp[bL]at h1;subst h1;exact h2
 | c::a,b,x,y,h1,h2=>by
   simp only[bL,Option.bind_eq_some_iff,Option.map_eq_some_iff]at h1
   obtain⟨z,hz,r,hr,rfl⟩:=h1
   simp only[List.cons_append,bL,hz,Option.bind_some,AB hr h2,Option.map_some]
theorem I6(call:aQ)(bs:List (List T))(E:ai)(f raw:Nat)(ts:List T){r:D}(h:call raw f (ts.map .t++eR bs.length) (aR bs)=some (r,aR bs))(hr:wK r=true):
 GG (aR bs++E) call f raw [] (ts.map .t++eR bs.length)=some (r,aR bs++E):=
 Cc call bs E f raw _ h hr (fun H=>DX H _ (Cd H _) ts 0)
  (by rw[Ft,Fs,List.nil_append,Ce,u9 _ _ (by simpa using List.nodup_range),List.nil_append])
  (AB (rz _ _ _) (Fy _ _))
theorem Qs(call:aQ)(bs:List (List T))(E:ai)(g f raw:Nat)(ts:List T){r:D}(h:call raw f (ts.map .t++[.fn g (eR bs.length)]) (aR bs)=some (r,aR bs))(hr:wK r=true):
 GG (aR bs++E) call f raw [] (ts.map .t++[.fn g (eR bs.length)])=some (r,aR bs++E):=
 Cc call bs E f raw _ h hr (fun H=>DX H _ (fun i=>⟨rfl,rfl⟩) ts 0)
  (by rw[Ft,Fs,List.nil_append,IW,Wl,Ce,LP,List.append_nil,u9 _ _ (by simpa using List.nodup_range),List.nil_append])
  (AB (rz _ _ _) (by rw[B4,Ws,Fy];rfl))
theorem Cf{f:Nat}{bs:List (List T)}{x:T}{r:D}(E:ai)(h:aO 0 f (.t x::eR bs.length) (aR bs)=some (r,aR bs))(hr:wK r=true):
 GG (aR bs++E) aO f 0 [] (.t x::eR bs.length)=some (r,aR bs++E):=I6 aO bs E f 0 [x] h hr
theorem mi{f:Nat}{bs:List (List T)}{x:T}{r:D}(h:aO 0 f (.t x::eR bs.length) (aR bs)=some (r,aR bs))(hr:wK r=true):
 GG (aR bs) aO f 0 [] (.t x::eR bs.length)=some (r,aR bs):=by
 have:=Cf [] h hr;rwa [List.append_nil]at this
theorem vd(call:aQ)(bs:List (List T))(g f raw:Nat)(x:T){r:D}(h:call raw f [.t x,.fn g (eR bs.length)] (aR bs)=some (r,aR bs))(hr:wK r=true):
 GG (aR bs) call f raw [] [.t x,.fn g (eR bs.length)]=some (r,aR bs):=by
 have:=Qs call bs [] g f raw [x] h hr
 rwa [List.append_nil]at this
section
variable (bs : List (List T)) (o o' : Obj)
@[go_sem] theorem LY : (aR bs).length = bs.length := eT bs
@[go_sem] theorem TC : (aR bs ++ [o])[bs.length]? = some o := by
 rw[List.getElem?_append_right (by rw[eT];exact Nat.le_refl _),eT];simp
@[go_sem] theorem Wx : (aR bs ++ [o]).set bs.length o' = aR bs ++ [o'] := by
 rw[List.set_append_right _ _ (by rw[eT];exact Nat.le_refl _),eT];simp
@[go_sem] theorem TD : (aR bs ++ [o]).take bs.length = aR bs := by
 rw[List.take_append_of_le_length (by rw[eT];exact Nat.le_refl _),List.take_of_length_le (by rw[eT];exact Nat.le_refl _)]
@[go_sem] theorem Qt : (aR bs ++ [o]).take (bs.length + 1) = aR bs ++ [o] := List.take_of_length_le (by simp [eT])
@[go_sem] theorem Qu : (aR bs).take bs.length = aR bs := List.take_of_length_le (by simp [eT])
@[go_sem] theorem Qv (k : Nat) (a b : ai) : ft k (a ++ b) = (ft k a && ft k b) := by
 rw[← mh,←mh,←mh,List.all_append]
@[go_sem] theorem LZ (k : Nat) : ft k (aR bs) = true := by
 induction bs with
 | nil=>rfl
 | cons b r ih=>
   show(fk k 8 (b.map .t)&&ft k (aR r))=true
   rw[Fm,ih];rfl
@[go_sem] theorem Zl (n : Nat) : ltB n (n + 1) = true := by rw [o7]; simp
@[go_sem] theorem Zm (n : Nat) : ltB n n = false := by rw [o7]; simp
theorem vY(k n m:Nat)(h:m≤k):fk k n (eR m)=true:=by
 unfold fk eR
 rw[List.all_eq_true]
 intro d hd
 obtain⟨i,hi,rfl⟩:=List.mem_map.1 hd
 rw[VY,o7]
 have:=List.mem_range.1 hi
 simp;omega
@[go_sem] theorem Qw (n m : Nat) : fk m n (eR m) = true := vY _ _ _ (Nat.le_refl _)
@[go_sem] theorem NK (n m : Nat) : fk (m + 1) n (eR m) = true := vY _ _ _ (Nat.le_succ _)
end
def gI(n:Nat)(p:Nat→Bool):List Int:=((List.range n).filter p).map (fun(i:Nat)=>(i:Int))
theorem pG(n:Nat)(p:Nat→Bool):gI (n+1) p=if p n=true then gI n p++[(n:Int)]else gI n p:=by
 unfold gI
 rw[List.range_succ,List.filter_append,List.map_append]
 by_cases h:p n=true<;>simp[h]
theorem rA(n:Nat)(p:Nat→Bool):(gI n p).length≤n:=by
 unfold gI
 rw[List.length_map]
 have:=List.length_filter_le p (List.range n)
 simpa using this
theorem L1(n:Nat)(hn:n≤1000000)(f:Nat)(bs:List (List T))(p:Nat→Bool)(h:∀k,k<n→aO 0 f (I k::eR bs.length) (aR bs)=some (B (p k),aR bs)):
 aO 0 N.dI [I n,.fn f (eR bs.length)] (aR bs)=some (.t (tL (gI n p)),aR bs):=by
 refine ay K.pj rfl ?_
 have hlen:=fun k=>rA k p
 have loop:exS aO K.rY ⟨[I n,.fn f (eR bs.length),.nil,.ref bs.length 0 0,.und,I n,I 0],aR bs++[.arr 1 false 0 []]⟩=
  some (.exit 0,⟨[.und,.fn f (eR bs.length),.und,.ref bs.length 0 (gI n p).length,.und,I n,I n],aR bs++[.arr 1 false 0 (((gI n p).map (T.int .i64)).map .t)]⟩):=by
  refine cE (fun j=>⟨[.und,.fn f (eR bs.length),.und,.ref bs.length 0 (gI j p).length,.und,I n,I j],aR bs++[.arr 1 false 0 (((gI j p).map (T.int .i64)).map .t)]⟩) n rfl ?_ ?_ (by simp)
  · intro j hj
    have hc:=Cf [.arr 1 false 0 (((gI j p).map (T.int .i64)).map .t)] (h j hj) rfl
    have:=hlen j
    by_cases hp:p j=true
    · simp (disch:=omega) only[go_sem,K.j5,hc,hp,pG,↓reduceIte]
    · simp (disch:=omega) only[go_sem,K.j5,hc,hp,pG,↓reduceIte]
  · simp (disch:=omega) only[go_sem,K.j5,↓reduceIte]
 simp (disch:=omega) only[go_sem,K.dI,↓reduceIte,loop]
end Go.Ev
namespace Go.Ev
open Go
variable [Lib] [cm] [bS]
theorem ni{α:Type}(sz:Nat)(f:α→T)(h:∀a,nF sz (f a).cells=true):∀l:List α,b6 sz (l.map f)=true
 | []=>rfl
 | a::l=>by rw[List.map_cons,tS,h,ni sz f h l];rfl
@[go_sem] theorem NL (k : IntKind) (l : List Int) : b6 1 (l.map (.int k)) = true := ni 1 _ (fun _ => rfl) l
theorem ud(sz:Nat):∀ts:List T,(ts.all fun e=>e.cells.length==sz)=b6 sz ts
 | []=>rfl
 | t::ts=>by
   rw[List.all_cons,tS,ud sz ts]
   congr 1
   rw[Bool.eq_iff_iff,eV];simp
section
variable (H : ai) (sz : Nat) (ts : List T) (i j : Int)
@[go_sem] theorem aca : B6 H sz (some (.t (.sl ts))) (some none) (some (some i)) = if 0 ≤ i then (if i ≤ ts.length then (if b6 sz ts = true then some (.t (.sl (ts.take i.toNat)), H) else none) else none) else none := by
 simp only[B6,Option.bind_some,m9,bound,ud,idx]
 by_cases h1:0≤i
 · rw[if_pos h1,if_pos h1,Option.bind_some]
   by_cases h2:i≤ts.length
   · rw[if_pos h2]
     by_cases h3:b6 sz ts=true
     · rw[if_pos h3,if_pos ⟨by omega,by omega,h3⟩];rfl
     · rw[if_neg h3,if_neg fun h=>h3 h.2.2];rfl
   · rw[if_neg h2,if_neg fun h=>h2 (by omega)];rfl
 · rw[if_neg h1,if_neg h1];rfl
@[go_sem] theorem acb : B6 H sz (some (.t (.sl ts))) (some (some i)) (some none) = if 0 ≤ i then (if i ≤ ts.length then (if b6 sz ts = true then some (.t (.sl (ts.drop i.toNat)), H) else none) else none) else none := by
 simp only[B6,Option.bind_some,m9,bound,ud,idx]
 by_cases h1:0≤i
 · rw[if_pos h1,if_pos h1,Option.bind_some]
   by_cases h2:i≤ts.length
   · rw[if_pos h2]
     by_cases h3:b6 sz ts=true
     · rw[if_pos h3,if_pos ⟨by omega,by omega,h3⟩,List.take_of_length_le (by simp)];rfl
     · rw[if_neg h3,if_neg fun h=>h3 h.2.2];rfl
   · rw[if_neg h2,if_neg fun h=>h2 (by omega)];rfl
 · rw[if_neg h1,if_neg h1];rfl
@[go_sem] theorem Wy : B6 H sz (some (.t (.sl ts))) (some (some i)) (some (some j)) = if 0 ≤ i then (if i ≤ j then (if j ≤ ts.length then (if b6 sz ts = true then some (.t (.sl ((ts.drop i.toNat).take (j.toNat - i.toNat))), H) else none) else none) else none) else none := by
 simp only[B6,Option.bind_some,m9,bound,ud,idx]
 by_cases h1:0≤i
 · rw[if_pos h1,if_pos h1,Option.bind_some]
   by_cases h0:i≤j
   · rw[if_pos h0,if_pos (by omega:0≤j),Option.bind_some]
     by_cases h2:j≤ts.length
     · rw[if_pos h2]
       by_cases h3:b6 sz ts=true
       · rw[if_pos h3,if_pos ⟨by omega,by omega,h3⟩];rfl
       · rw[if_neg h3,if_neg fun h=>h3 h.2.2];rfl
     · rw[if_neg h2,if_neg fun h=>h2 (by omega)];rfl
   · rw[if_neg h0]
     by_cases h2:0≤j
     · rw[if_pos h2,Option.bind_some,if_neg fun h=>h0 (by omega)];rfl
     · rw[if_neg h2];rfl
 · rw[if_neg h1,if_neg h1];rfl
end
def bsK(H:ai)(l:List Nat):Option T→Option (D×ai)
 | some t=>some (.t (.sl [t]),pins H l)
 | none=>none
@[go_sem] theorem Zn (H : ai) (l : List Nat) (t : T) : bsK H l (some t) = some (.t (.sl [t]), pins H l) := (rfl)
@[go_sem] theorem Zo (H : ai) (sz : Nat) (cs : List D) : zA H sz [.agg cs] = if nF sz cs = true then bsK H (eL H 8 (.agg cs)) (frz H 8 (.agg cs)) else none := by
 simp only[zA,List.all_cons,List.all_nil,Bool.and_true,D.cells]
 by_cases h:nF sz cs=true
 · rw[if_pos h,if_pos (by simpa using eV.1 h)]
   simp only[bL,depth,List.flatMap_cons,List.flatMap_nil,List.append_nil]
   cases frz H 8 (.agg cs)<;>rfl
 · rw[if_neg h,if_neg (by intro e;exact h (eV.2 (by simpa using e)))]
@[go_sem] theorem Zp (H : ai) (id ep n : Nat) : zA H 1 [.ref id ep n] = bsK H (eL H 8 (.ref id ep n)) (frz H 8 (.ref id ep n)) := by
 simp only[zA,List.all_cons,List.all_nil,Bool.and_true,D.cells,List.length_cons,List.length_nil,beq_self_eq_true,if_true,bL,depth,List.flatMap_cons,List.flatMap_nil,List.append_nil]
 cases frz H 8 (.ref id ep n)<;>rfl
def Qx(H:ai)(r:D)(os:ai):D×ai:=(r,H++os)
@[go_sem] theorem Zq (H : ai) (r : D) (os : ai) : Qx H r os = (r, H ++ os) := (rfl)
def Wz(H:ai)(os:ai)(r:D):Option (D×ai):=(bL (gp (ed [] H.length)) os).map (Qx H r)
@[go_sem] theorem Zr (H : ai) (os : ai) (r : D) : Wz H os r = (bL (gp (ed [] H.length)) os).map (Qx H r) := (rfl)
@[go_sem] theorem WA (H : ai) (r : D) (o : Obj) (os : ai) : xY H (r, o :: os) = (ren (ed [] H.length) 8 r).bind (Wz H (o :: os)) := by
 simp only[xY,List.isEmpty_cons,Bool.and_false,Bool.false_eq_true,if_false]
 rfl
end Go.Ev
namespace Go.Ev
open Go
variable [Lib] [cm] [bS]
structure Place where
 h:Int
 surf:Bool
instance : Dat Place := ⟨⟨0, false⟩⟩
abbrev Place.e(p:Place):T:= .agg [tI p.h,.bool p.surf]
structure Road where
 frm:Int
 to:Int
 len:Int
 area:Int
 walk:Bool
 closed:Bool
 restL:Int
 restH:Int
 liftL:Int
 liftH:Int
instance : Dat Road := ⟨⟨0, 0, 0, 0, false, false, 0, 0, 0, 0⟩⟩
abbrev Road.e(r:Road):T:= .agg [tI r.frm,tI r.to,tI r.len,tI r.area,.bool r.walk,.bool r.closed,tI r.restL,tI r.restH,tI r.liftL,tI r.liftH]
structure aT where
 places:List Place
 roads:List Road
instance : Dat aT := ⟨⟨[], []⟩⟩
abbrev aT.e(m:aT):T:= .agg [.sl (m.places.map Place.e),.sl (m.roads.map Road.e)]
structure Road.ok(n:Nat)(r:Road):Prop where
 f0:0≤r.frm
 f1:r.frm<n
 t0:0≤r.to
 t1:r.to<n
 ne:r.frm≠r.to
 l0:1≤r.len
 l1:r.len≤100000
 a0:1≤r.area
 a1:r.area≤1000
 r0:1≤r.restL
 r1:r.restL≤r.restH
 r2:r.restH≤262144
 i0: -2199023255552≤r.liftL
 i1:r.liftL≤r.liftH
 i2:r.liftH≤2199023255552
structure aT.ok(m:aT):Prop where
 np:m.places.length≤64
 nr:m.roads.length≤128
 hs:∀p∈m.places, -10000≤p.h∧p.h≤10000
 rs:∀r∈m.roads,r.ok m.places.length
theorem Cg(a b lo hi:Int):aO 0 N.fW [.t (.agg [tI a,tI b]),I lo,I hi] []=some (B (decide (lo≤a∧a≤b∧b≤hi)),[]):=by
 refine ay K.qF rfl ?_
 by_cases h1:lo≤a<;>by_cases h2:a≤b<;>by_cases h3:b≤hi<;>simp (disch:=omega) only[go_sem,K.fW,↓reduceIte,h1,h2,h3]
theorem ue{m:aT}(h:m.ok):aO 0 N.du [.t m.e] []=some (I 0,[]):=by
 refine ay K.o9 rfl ?_
 have np:=h.np
 have nr:=h.nr
 have loop1:∀a b c d e:D,exS aO K.rW ⟨[a,.bp 0 0,b,I 0,c,d,e],[.box [.t (.sl (m.places.map Place.e)),.t (.sl (m.roads.map Road.e))]]⟩=
  some (.exit 0,⟨[.und,.bp 0 0,.und,I m.places.length,.und,.und,.und],[.box [.t (.sl (m.places.map Place.e)),.t (.sl (m.roads.map Road.e))]]⟩):=by
  intro a b c d e
  refine cE (fun j=>⟨[.und,.bp 0 0,.und,I j,.und,.und,.und],[.box [.t (.sl (m.places.map Place.e)),.t (.sl (m.roads.map Road.e))]]⟩) m.places.length rfl ?_ ?_ (by simp)
  · intro j hj
    have hh:=h.hs _ (ae hj)
    simp (disch:=omega) only[go_sem,K.mC,↓reduceIte]
  · simp (disch:=omega) only[go_sem,K.mC,↓reduceIte]
 have loop2:∀a b c d e:D,exS aO K.rX ⟨[a,.bp 0 0,b,c,d,I 0,e],[.box [.t (.sl (m.places.map Place.e)),.t (.sl (m.roads.map Road.e))]]⟩=
  some (.exit 2,⟨[.und,.bp 0 0,.und,.und,.und,I m.roads.length,.und],[.box [.t (.sl (m.places.map Place.e)),.t (.sl (m.roads.map Road.e))]]⟩):=by
  intro a b c d e
  refine cE (fun j=>⟨[.und,.bp 0 0,.und,.und,.und,I j,.und],[.box [.t (.sl (m.places.map Place.e)),.t (.sl (m.roads.map Road.e))]]⟩) m.roads.length rfl ?_ ?_ (by simp)
  · intro j hj
    obtain⟨f0,f1,t0,t1,ne,l0,l1,a0,a1,r0,r1,r2,i0,i1,i2⟩:=h.rs _ (ae hj)
    have s1:=Cg (nth m.roads j).restL (nth m.roads j).restH 1 262144
    have s2:=Cg (nth m.roads j).liftL (nth m.roads j).liftH (-2199023255552) 2199023255552
    simp (disch:=omega) only[go_sem]at s1 s2
    simp (disch:=omega) only[go_sem,K.mD,↓reduceIte,s1,s2]
  · simp (disch:=omega) only[go_sem,K.mD,↓reduceIte]
 simp (disch:=omega) only[go_sem,K.du,↓reduceIte,loop1,loop2]
theorem DY{l:List Int}{p:Int→Bool}:((List.range l.length).find? fun j=>p (nth l j)).isSome=l.any p:=by
 rw[List.isSome_find?,Bool.eq_iff_iff,List.any_eq_true,List.any_eq_true]
 constructor
 · rintro ⟨j,hj,h⟩
   exact⟨_,ae (List.mem_range.1 hj),h⟩
 · rintro ⟨x,hx,h⟩
   obtain⟨j,hj⟩:=List.mem_iff_getElem?.1 hx
   exact⟨j,List.mem_range.2 (List.getElem?_eq_some_iff.1 hj).1,by rw[bA hj];exact h⟩
theorem I7(l:List Int)(x:Int)(hl:l.length≤4294967296):aO 0 N.gG [.t (tL l),I x] []=some (B (decide (x∈l)),[]):=by
 refine ay K.sJ rfl ?_
 have loop:∀a:D,exS aO K.vS ⟨[.t (tL l),I x,a,I 0],[]⟩=
  some (match (List.range l.length).find? (fun j=>decide (nth l j=x))with
   | some j=>(.ret,⟨[.t (tL l),I x,B true,I j],[]⟩)
   | none=>(.exit 0,⟨[.t (tL l),I x,.und,I l.length],[]⟩)):=by
  intro a
  refine cu (fun j=>⟨[.t (tL l),I x,.und,I j],[]⟩) l.length (fun j=>decide (nth l j=x)) _ _ rfl ?_ ?_ ?_ (by simp)
  · intro j hj hp
    have hp:¬nth l j=x:=of_decide_eq_false hp
    simp (disch:=omega) only[go_sem,K.lZ,↓reduceIte]
  · intro j hj hp
    have hp:nth l j=x:=of_decide_eq_true hp
    simp (disch:=omega) only[go_sem,K.lZ,↓reduceIte,hp]
    simp
  · simp (disch:=omega) only[go_sem,K.lZ,↓reduceIte]
 have e:=DY (l:=l) (p:=fun y=>decide (y=x))
 have e2:l.any (fun y=>decide (y=x))=decide (x∈l):=by rw[Bool.eq_iff_iff];simp
 rw[e2]at e
 simp only[go_sem,K.gG,↓reduceIte,loop]
 cases hf:(List.range l.length).find? (fun j=>decide (nth l j=x))with
 | some j=>rw[hf]at e;simp (disch:=omega) only[go_sem,↓reduceIte,←e]
 | none=>rw[hf]at e;simp (disch:=omega) only[go_sem,↓reduceIte,←e,Option.isSome_none]
theorem AD(a b:List Int)(hl:a.length≤4294967296):aO 0 N.bX [.t (tL a),.t (tL b)] []=some (B (decide (a=b)),[]):=by
 refine ay K.lH rfl ?_
 by_cases hlen:a.length=b.length
 · have loop:∀c:D,exS aO K.oz ⟨[.t (tL a),.t (tL b),c,I 0],[]⟩=
    some (match (List.range a.length).find? (fun j=>decide (nth a j≠nth b j))with
     | some j=>(.ret,⟨[.t (tL a),.t (tL b),B false,I j],[]⟩)
     | none=>(.exit 0,⟨[.t (tL a),.t (tL b),.und,I a.length],[]⟩)):=by
    intro c
    refine cu (fun j=>⟨[.t (tL a),.t (tL b),.und,I j],[]⟩) a.length (fun j=>decide (nth a j≠nth b j)) _ _ rfl ?_ ?_ ?_ (by simp)
    · intro j hj hp
      have hp:nth a j=nth b j:=by simpa using hp
      simp (disch:=omega) only[go_sem,K.ig,↓reduceIte]
    · intro j hj hp
      have hp:nth a j≠nth b j:=by simpa using hp
      simp (disch:=omega) only[go_sem,K.ig,↓reduceIte]
      simp
    · simp (disch:=omega) only[go_sem,K.ig,↓reduceIte]
   have e:(a=b)↔(List.range a.length).find? (fun j=>decide (nth a j≠nth b j))=none:=by
    rw[List.find?_eq_none]
    constructor
    · intro h j _;simp[h]
    · intro h
      apply List.ext_getElem?
      intro j
      by_cases hj:j<a.length
      · rw[jv hj,jv (by omega)]
        have:=h j (List.mem_range.2 hj)
        simpa using this
      · rw[List.getElem?_eq_none (by omega),List.getElem?_eq_none (by omega)]
   simp (disch:=omega) only[go_sem,K.bX,↓reduceIte,loop]
   cases hf:(List.range a.length).find? (fun j=>decide (nth a j≠nth b j))with
   | some j=>rw[hf]at e;simp (disch:=omega) only[go_sem,↓reduceIte,e];simp
   | none=>rw[hf]at e;simp (disch:=omega) only[go_sem,↓reduceIte,e]
 · have hne:a≠b:=fun h=>hlen (by rw[h])
   simp (disch:=omega) only[go_sem,K.bX,↓reduceIte,hne]
def oP(l:List Int)(n:Int):Bool:=(List.range l.length).all fun j=>decide (0≤nth l j∧nth l j<n∧(0<j→nth l (j-1)<nth l j))
theorem pH{n:Nat}{p:Nat→Bool}:((List.range n).all p)=((List.range n).find? fun j=> !p j).isNone:=by
 rw[← Option.not_isSome,List.isSome_find?,List.not_any_eq_all_not]
 simp
theorem WB(l:List Int)(n:Int)(hl:l.length≤4294967296):aO 0 N.i7 [.t (tL l),I n] []=some (B (oP l n),[]):=by
 refine ay K.sL rfl ?_
 have loop:∀c:D,exS aO K.vT ⟨[.t (tL l),I n,c,I 0],[]⟩=
  some (match (List.range l.length).find? (fun j=> !decide (0≤nth l j∧nth l j<n∧(0<j→nth l (j-1)<nth l j)))with
   | some j=>(.ret,⟨[.t (tL l),I n,B false,I j],[]⟩)
   | none=>(.exit 0,⟨[.t (tL l),I n,.und,I l.length],[]⟩)):=by
  intro c
  refine cu (fun j=>⟨[.t (tL l),I n,.und,I j],[]⟩) l.length _ _ _ rfl ?_ ?_ ?_ (by simp)
  · intro j hj hp
    simp only[Bool.not_eq_false',decide_eq_true_eq]at hp
    obtain⟨h1,h2,h3⟩:=hp
    cases j with
    | zero=>simp (disch:=omega) only[go_sem,K.gu,↓reduceIte]
    | succ j=>
      have h3:=h3 (by omega)
      rw[Nat.add_sub_cancel]at h3
      simp (disch:=omega) only[go_sem,K.gu,↓reduceIte]
  · intro j hj hp
    simp only[Bool.not_eq_true',decide_eq_false_iff_not]at hp
    refine⟨?_,by simp⟩
    by_cases h1:0≤nth l j
    · by_cases h2:nth l j<n
      · cases j with
        | zero=>exact absurd ⟨h1,h2,fun h=>absurd h (by omega)⟩ hp
        | succ j=>
          have h3:¬nth l j<nth l (j+1):=fun h=>hp ⟨h1,h2,fun _=>by simpa using h⟩
          simp (disch:=omega) only[go_sem,K.gu,↓reduceIte]
      · simp (disch:=omega) only[go_sem,K.gu,↓reduceIte]
    · simp (disch:=omega) only[go_sem,K.gu,↓reduceIte]
  · simp (disch:=omega) only[go_sem,K.gu,↓reduceIte]
 have e:oP l n=_:=pH
 simp only[go_sem,K.i7,↓reduceIte,loop]
 cases hf:(List.range l.length).find? (fun j=> !decide (0≤nth l j∧nth l j<n∧(0<j→nth l (j-1)<nth l j)))with
 | some j=>rw[hf]at e;simp (disch:=omega) only[go_sem,↓reduceIte,e,Option.isNone_some]
 | none=>rw[hf]at e;simp (disch:=omega) only[go_sem,↓reduceIte,e,Option.isNone_none]
theorem L3(x lo hi:Int):aO 0 N.eI [I x,I lo,I hi] []=some (B (decide (lo≤x∧x≤hi)),[]):=by
 refine ay K.uZ rfl ?_
 by_cases h1:lo≤x<;>by_cases h2:x≤hi<;>simp (disch:=omega) only[go_sem,K.eI,↓reduceIte]
theorem L4(l:List Int)(x:Int)(hl:l.length≤4294967296):aO 0 N.bD [.t (tL l),I x] []=
 some (I (match (List.range l.length).find? (fun j=>decide (nth l j=x))with | some j=>(j:Int) | none=> -1),[]):=by
 refine ay K.gV rfl ?_
 have loop:∀a b:D,exS aO K.j7 ⟨[.t (tL l),I x,a,b,I l.length,I 0],[]⟩=
  some (match (List.range l.length).find? (fun j=>decide (nth l j=x))with
   | some j=>(.ret,⟨[.t (tL l),I x,I j,I j,I l.length,I j],[]⟩)
   | none=>(.exit 0,⟨[.t (tL l),I x,.und,.und,I l.length,I l.length],[]⟩)):=by
  intro a b
  refine cu (fun j=>⟨[.t (tL l),I x,.und,.und,I l.length,I j],[]⟩) l.length (fun j=>decide (nth l j=x)) _ _ rfl ?_ ?_ ?_ (by simp)
  · intro j hj hp
    have hp:¬nth l j=x:=of_decide_eq_false hp
    simp (disch:=omega) only[go_sem,K.ee,↓reduceIte]
  · intro j hj hp
    have hp:nth l j=x:=of_decide_eq_true hp
    simp (disch:=omega) only[go_sem,K.ee,↓reduceIte,hp]
    simp
  · simp (disch:=omega) only[go_sem,K.ee,↓reduceIte]
 simp (disch:=omega) only[go_sem,K.bD,↓reduceIte,loop]
 cases hf:(List.range l.length).find? (fun j=>decide (nth l j=x))with
 | some j=>simp (disch:=omega) only[go_sem,↓reduceIte]
 | none=>simp (disch:=omega) only[go_sem,↓reduceIte]
theorem DZ(l:List Int)(x:Int)(hl:l.length≤4294967296):aO 0 N.aS [.t (tL l),I x] []=some (B (decide (x∈l)),[]):=by
 refine ay K.fM rfl ?_
 have h:=L4 l x hl
 have e:=DY (l:=l) (p:=fun y=>decide (y=x))
 have e2:l.any (fun y=>decide (y=x))=decide (x∈l):=by rw[Bool.eq_iff_iff];simp
 rw[e2]at e
 cases hf:(List.range l.length).find? (fun j=>decide (nth l j=x))with
 | some j=>rw[hf]at e h;simp (disch:=omega) only[go_sem,K.aS,↓reduceIte,←e,h]
 | none=>rw[hf]at e h;simp (disch:=omega) only[go_sem,K.aS,↓reduceIte,←e,h,Option.isSome_none]
theorem Ch(l:List Int)(hl:l.length≤4294967296)(f:Nat)(bs:List (List T))(p:Int→Bool)(h:∀x,x∈l→aO 0 f (I x::eR bs.length) (aR bs)=some (B (p x),aR bs)):
 aO 0 N.bh [.t (tL l),.fn f (eR bs.length)] (aR bs)=
 some (I (match (List.range l.length).find? (fun j=>p (nth l j))with | some j=>(j:Int) | none=> -1),aR bs):=by
 refine ay K.fv rfl ?_
 have loop:∀a b:D,exS aO K.iC ⟨[.t (tL l),.fn f (eR bs.length),a,b,I l.length,I 0],aR bs⟩=
  some (match (List.range l.length).find? (fun j=>p (nth l j))with
   | some j=>(.ret,⟨[.t (tL l),.fn f (eR bs.length),I j,I j,I l.length,I j],aR bs⟩)
   | none=>(.exit 0,⟨[.t (tL l),.fn f (eR bs.length),.und,.und,I l.length,I l.length],aR bs⟩)):=by
  intro a b
  refine cu (fun j=>⟨[.t (tL l),.fn f (eR bs.length),.und,.und,I l.length,I j],aR bs⟩) l.length (fun j=>p (nth l j)) _ _ rfl ?_ ?_ ?_ (by simp)
  · intro j hj hp
    have hc:=mi (h _ (ae hj)) rfl
    simp (disch:=omega) only[go_sem,K.dk,↓reduceIte,hc,hp]
  · intro j hj hp
    have hc:=mi (h _ (ae hj)) rfl
    simp (disch:=omega) only[go_sem,K.dk,↓reduceIte,hp,hc]
    simp
  · simp (disch:=omega) only[go_sem,K.dk,↓reduceIte]
 simp (disch:=omega) only[go_sem,K.bh,↓reduceIte,loop]
 cases hf:(List.range l.length).find? (fun j=>p (nth l j))with
 | some j=>simp (disch:=omega) only[go_sem,↓reduceIte]
 | none=>simp (disch:=omega) only[go_sem,↓reduceIte]
theorem x9(l:List Int)(hl:l.length≤4294967296)(f:Nat)(bs:List (List T))(p:Int→Bool)(h:∀x,x∈l→aO 0 f (I x::eR bs.length) (aR bs)=some (B (p x),aR bs)):
 aO 0 N.aF [.t (tL l),.fn f (eR bs.length)] (aR bs)=some (B (l.any p),aR bs):=by
 refine ay K.eu rfl ?_
 have h:=Ch l hl f bs p h
 have hc:=vd aO bs f _ 0 (tL l) h rfl
 have e:=DY (l:=l) (p:=p)
 cases hf:(List.range l.length).find? (fun j=>p (nth l j))with
 | some j=>rw[hf]at e hc;simp (disch:=omega) only[go_sem,K.aF,↓reduceIte,←e,hc]
 | none=>rw[hf]at e hc;simp (disch:=omega) only[go_sem,K.aF,↓reduceIte,←e,hc,Option.isSome_none]
theorem Qy(r:Road)(back:Bool):aO 0 N.gP [.t r.e,B back] []=some (.tup [I (if back then r.to else r.frm),I (if back then r.frm else r.to)],[]):=by
 refine ay K.qK rfl ?_
 cases back<;>simp (disch:=omega) only[go_sem,K.gP,↓reduceIte]
def eX(m:aT)(k:Nat)(back:Bool)(up down level:Int):Int:=
 let x:=nth m.roads k
 if x.closed=true∨x.walk=false then -1 else
 let a:=if back then x.to else x.frm
 let b:=if back then x.frm else x.to
 let rise:=(nth m.places b.toNat).h-(nth m.places a.toNat).h
 let speed:=if -10*rise>x.len then down else if 10*rise>x.len then up else level
 (10*x.len+speed-1).tdiv speed
theorem sO{a b:Int}(ha:0≤a)(hb:1≤b):0≤a.tdiv b∧a.tdiv b≤a:=by
 rw[Int.tdiv_eq_ediv_of_nonneg ha]
 exact⟨Int.ediv_nonneg ha (by omega),Int.ediv_le_self _ ha⟩
theorem I8{m:aT}(h:m.ok)(k:Nat)(hk:k<m.roads.length)(back:Bool)(up down level:Int)(hu:1≤up)(hu2:up≤100)(hd:1≤down)(hd2:down≤100)(hl:1≤level)(hl2:level≤100):
 aO 0 N.bQ [.t m.e,I k,B back,I up,I down,I level] []=some (I (eX m k back up down level),[]):=by
 refine ay K.nT rfl ?_
 have hc:=ue h
 have nr:=h.nr
 have np:=h.np
 obtain⟨f0,f1,t0,t1, -,l0,l1, -, -, -, -, -, -, -, -⟩:=h.rs _ (ae hk)
 have he:=Qy (nth m.roads k) back
 have b1:=h.hs _ (ae (l:=m.places) (j:=(nth m.roads k).frm.toNat) (by omega))
 have b2:=h.hs _ (ae (l:=m.places) (j:=(nth m.roads k).to.toNat) (by omega))
 unfold eX
 generalize hx:nth m.roads k=x at*
 obtain⟨frm,to,len,area,walk,closed,rl,rh,ll,lh⟩:=x
 simp only at f0 f1 t0 t1 l0 l1 b1 b2 he ⊢
 cases closed with
 | true=>simp (disch:=omega) only[go_sem,K.bQ,↓reduceIte,hc,hx]
 | false=>
   cases walk with
   | false=>simp (disch:=omega) only[go_sem,K.bQ,↓reduceIte,hc,hx]
   | true=>
     have g1:=sO (a:=10*len+up-1) (b:=up) (by omega) hu
     have g2:=sO (a:=10*len+down-1) (b:=down) (by omega) hd
     have g3:=sO (a:=10*len+level-1) (b:=level) (by omega) hl
     cases back with
     | true=>
       simp only[↓reduceIte]at he ⊢
       have w1:IntKind.i64.wrap ((nth m.places frm.toNat).h-(nth m.places to.toNat).h)=(nth m.places frm.toNat).h-(nth m.places to.toNat).h:=uX (by omega) (by omega)
       by_cases c2:len< -10*((nth m.places frm.toNat).h-(nth m.places to.toNat).h)
       · simp (disch:=omega) only[go_sem,K.bQ,↓reduceIte,hc,hx,he,w1,gt_iff_lt]
       · by_cases c1:len<10*((nth m.places frm.toNat).h-(nth m.places to.toNat).h)
         · simp (disch:=omega) only[go_sem,K.bQ,↓reduceIte,hc,hx,he,w1,gt_iff_lt]
         · simp (disch:=omega) only[go_sem,K.bQ,↓reduceIte,hc,hx,he,w1,gt_iff_lt]
     | false=>
       simp only[Bool.false_eq_true,↓reduceIte]at he ⊢
       have w1:IntKind.i64.wrap ((nth m.places to.toNat).h-(nth m.places frm.toNat).h)=(nth m.places to.toNat).h-(nth m.places frm.toNat).h:=uX (by omega) (by omega)
       by_cases c2:len< -10*((nth m.places to.toNat).h-(nth m.places frm.toNat).h)
       · simp (disch:=omega) only[go_sem,K.bQ,↓reduceIte,hc,hx,he,w1,gt_iff_lt]
       · by_cases c1:len<10*((nth m.places to.toNat).h-(nth m.places frm.toNat).h)
         · simp (disch:=omega) only[go_sem,K.bQ,↓reduceIte,hc,hx,he,w1,gt_iff_lt]
         · simp (disch:=omega) only[go_sem,K.bQ,↓reduceIte,hc,hx,he,w1,gt_iff_lt]
theorem I9{m:aT}(h:m.ok)(k:Nat)(hk:k<m.roads.length)(back:Bool):aO 0 N.fZ [.t m.e,I k,B back] []=some (I (eX m k back 6 9 12),[]):=by
 refine ay K.qJ rfl ?_
 have hw:=I8 h k hk back 6 9 12 (by omega) (by omega) (by omega) (by omega) (by omega) (by omega)
 simp (disch:=omega) only[go_sem,K.fZ,↓reduceIte,hw]
theorem AE{m:aT}(h:m.ok)(k:Nat)(hk:k<m.roads.length)(back:Bool): -1≤eX m k back 6 9 12∧eX m k back 6 9 12≤1000012:=by
 have l0:=(h.rs _ (ae hk)).l0
 have l1:=(h.rs _ (ae hk)).l1
 unfold eX
 simp only
 split
 · omega
 · generalize hs:(if -10*_>(nth m.roads k).len then(9:Int)else _)=s
   have h1:1≤s∧s≤12:=by
    rw[← hs]
    split
    · omega
    · split<;>omega
   have g1:=sO (a:=10*(nth m.roads k).len+s-1) (b:=s) (by omega) h1.1
   omega
def bnd(l:List Int):Prop:=∀x∈l,0≤x∧x≤1099511627776
def lO(l:List Int)(p q:Nat)(walk t:Int):Bool:=
 decide (0≤walk)&&decide (nth l p<1099511627776)&&decide (max t (nth l p+walk)≤2147483648)&&decide (max t (nth l p+walk)<nth l q)
def mG(l:List Int)(p q:Nat)(walk t:Int):List Int:=if lO l p q walk t=true then l.set q (max t (nth l p+walk))else l
theorem AF(l:List Int)(hb:bnd l)(hl:l.length≤64)(p q:Int)(hp:0≤p)(hp2:p<l.length)(hq:0≤q)(hq2:q<l.length)(walk t:Int)(hw:walk≤1000000000)(ht:t≤1000000000000)(ht0: -1000000000000≤t):
 aO 0 N.cY [.ref 0 0 l.length,I p,I q,I walk,I t] [.arr 1 false 0 ((l.map (T.int .i64)).map .t)]=
  some (B (lO l p.toNat q.toNat walk t),[.arr 1 false 0 (((mG l p.toNat q.toNat walk t).map (T.int .i64)).map .t)]):=by
 refine ay K.pE rfl ?_
 have b1:=hb _ (ae (l:=l) (j:=p.toNat) (by omega))
 have b2:=hb _ (ae (l:=l) (j:=q.toNat) (by omega))
 clear hb
 unfold mG lO
 by_cases c1:0≤walk
 · by_cases c2:nth l p.toNat<1099511627776
   · by_cases c3:max t (nth l p.toNat+walk)≤2147483648
     · by_cases c4:max t (nth l p.toNat+walk)<nth l q.toNat
       · simp (disch:=omega) only[go_sem,K.cY,↓reduceIte]
       · simp (disch:=omega) only[go_sem,K.cY,↓reduceIte]
     · simp (disch:=omega) only[go_sem,K.cY,↓reduceIte]
   · simp (disch:=omega) only[go_sem,K.cY,↓reduceIte]
 · simp (disch:=omega) only[go_sem,K.cY,↓reduceIte]
def Ja(into:Option (List Int))(p:Int):Bool:=match into with
 | none=>true
 | some l=>decide (p∈l)
def nU(into:Option (List Int)):D:=match into with
 | none=> .nil
 | some l=> .t (tL l)
def Road.src(r:Road)(back:Bool):Int:=if back then r.to else r.frm
def Road.dst(r:Road)(back:Bool):Int:=if back then r.frm else r.to
theorem Road.vG{n:Nat}{r:Road}(h:r.ok n)(back:Bool):0≤r.src back∧r.src back<n:=by
 unfold Road.src;have:=h.f0;have:=h.f1;have:=h.t0;have:=h.t1;cases back<;>simp<;>omega
theorem Road.zD{n:Nat}{r:Road}(h:r.ok n)(back:Bool):0≤r.dst back∧r.dst back<n:=by
 unfold Road.dst;have:=h.f0;have:=h.f1;have:=h.t0;have:=h.t1;cases back<;>simp<;>omega
def eE(m:aT)(t:Int)(into:Option (List Int))(k:Nat)(back:Bool)(l:List Int):List Int×Bool:=
 if Ja into ((nth m.roads k).dst back)=true then
  (mG l ((nth m.roads k).src back).toNat ((nth m.roads k).dst back).toNat (eX m k back 6 9 12) t,lO l ((nth m.roads k).src back).toNat ((nth m.roads k).dst back).toNat (eX m k back 6 9 12) t)
 else(l,false)
def sP(m:aT)(t:Int)(into:Option (List Int))(k:Nat)(s:List Int×Bool):List Int×Bool:=
 let a:=eE m t into k false s.1
 let b:=eE m t into k true a.1
 (b.1,s.2||a.2||b.2)
def ef(m:aT)(t:Int)(into:Option (List Int))(l:List Int):Nat→List Int×Bool
 | 0=>(l,false)
 | k+1=>sP m t into k (ef m t into l k)
def cV(m:aT)(t:Int)(into:Option (List Int))(l:List Int):List Int×Bool:=ef m t into l m.roads.length
theorem mj(l:List Int)(p q:Nat)(w t:Int):(mG l p q w t).length=l.length:=by unfold mG;split<;>simp
theorem oA(m:aT)(t:Int)(into:Option (List Int))(k:Nat)(back:Bool)(l:List Int):(eE m t into k back l).1.length=l.length:=by
 unfold eE;split
 · exact mj _ _ _ _ _
 · rfl
theorem di(m:aT)(t:Int)(into:Option (List Int))(l:List Int):∀k,(ef m t into l k).1.length=l.length
 | 0=>rfl
 | k+1=>by simp only[ef,sP,oA,di m t into l k]
theorem ve{l:List Int}(h:bnd l){q:Nat}{x:Int}(h0:0≤x)(h1:x≤1099511627776):bnd (l.set q x):=by
 intro y hy
 rcases List.mem_or_eq_of_mem_set hy with hy | hy
 · exact h y hy
 · subst hy;exact⟨h0,h1⟩
theorem zE{l:List Int}(h:bnd l){p q:Nat}(hp:p<l.length){w t:Int}:bnd (mG l p q w t):=by
 unfold mG
 split
 · rename_i hc
   simp only[lO,Bool.and_eq_true,decide_eq_true_eq]at hc
   have:=h _ (ae hp)
   exact ve h (by omega) (by omega)
 · exact h
section
variable {m : aT} (h : m.ok) {t : Int} {into : Option (List Int)}
include h
theorem qL{l:List Int}(hl:l.length=m.places.length)(hb:bnd l){k:Nat}(hk:k<m.roads.length)(back:Bool):bnd (eE m t into k back l).1:=by
 have r1:=Road.vG (h.rs _ (ae hk)) back
 unfold eE
 split
 · exact zE hb (by omega)
 · exact hb
theorem gS{l:List Int}(hl:l.length=m.places.length)(hb:bnd l):∀k,k≤m.roads.length→bnd (ef m t into l k).1
 | 0,_=>hb
 | k+1,hk=>by
   simp only[ef,sP]
   exact qL h (by rw[oA,di,hl]) (qL h (by rw[di,hl]) (gS hl hb k (by omega)) (by omega) _) (by omega) _
end
def xb(l:List Int):Nat:=(l.map Int.toNat).sum
theorem FA:∀ {l:List Int} {q:Nat} {x:Int},q<l.length→0≤x→x<nth l q→xb (l.set q x)<xb l
 | [],q,x,h,_,_=>by simp at h
 | a::l,0,x,_,h0,h1=>by
   have h1:x<a:=by simpa [nth]using h1
   simp only[xb,List.set_cons_zero,List.map_cons,List.sum_cons];omega
 | a::l,q+1,x,h,h0,h1=>by
   have:=FA (l:=l) (q:=q) (x:=x) (by simpa using h) h0 (by simpa [nth]using h1)
   simp only[xb,List.set_cons_succ,List.map_cons,List.sum_cons]at this ⊢;omega
theorem GR{l:List Int}(hb:bnd l){p q:Nat}(hp:p<l.length)(hq:q<l.length){w t:Int}:
 (lO l p q w t=true→xb (mG l p q w t)<xb l)∧(lO l p q w t=false→mG l p q w t=l):=by
 unfold mG
 constructor
 · intro hc
   rw[if_pos hc]
   simp only[lO,Bool.and_eq_true,decide_eq_true_eq]at hc
   have:=hb _ (ae hp)
   exact FA hq (by omega) hc.2
 · intro hc;rw[if_neg (by simp[hc])]
section
variable {m : aT} (h : m.ok) {t : Int} {into : Option (List Int)}
include h
theorem ya{l:List Int}(hl:l.length=m.places.length)(hb:bnd l){k:Nat}(hk:k<m.roads.length)(back:Bool):
 ((eE m t into k back l).2=true→xb (eE m t into k back l).1<xb l)∧((eE m t into k back l).2=false→(eE m t into k back l).1=l):=by
 have r1:=Road.vG (h.rs _ (ae hk)) back
 have r2:=Road.zD (h.rs _ (ae hk)) back
 unfold eE
 split
 · exact GR hb (by omega) (by omega)
 · simp
theorem oB{l:List Int}(hl:l.length=m.places.length)(hb:bnd l):∀k,k≤m.roads.length→
 ((ef m t into l k).2=true→xb (ef m t into l k).1<xb l)∧((ef m t into l k).2=false→(ef m t into l k).1=l)
 | 0,_=>⟨fun h=>by simp[ef]at h,fun _=>rfl⟩
 | k+1,hk=>by
   obtain⟨i1,i2⟩:=oB hl hb k (by omega)
   have hb1:=gS h (t:=t) (into:=into) hl hb k (by omega)
   have hl1:(ef m t into l k).1.length=m.places.length:=by rw[di,hl]
   obtain⟨a1,a2⟩:=ya h (t:=t) (into:=into) hl1 hb1 (k:=k) (by omega) false
   have hb2:=qL h (t:=t) (into:=into) hl1 hb1 (k:=k) (by omega) false
   obtain⟨c1,c2⟩:=ya h (t:=t) (into:=into) (by rw[oA,hl1]) hb2 (k:=k) (by omega) true
   simp only[ef,sP]
   generalize ef m t into l k=s at*
   obtain⟨sl,sb⟩:=s
   simp only at*
   generalize eE m t into k false sl=a at*
   obtain⟨al,ab⟩:=a
   simp only at*
   generalize eE m t into k true al=b at*
   obtain⟨bl,bb⟩:=b
   simp only at*
   cases sb<;>cases ab<;>cases bb<;>simp_all<;>omega
end
end Go.Ev
namespace Go.Ev
open Go
variable [Lib] [cm] [bS]
abbrev af(m:aT):List D:=[.t (.sl (m.places.map Place.e)),.t (.sl (m.roads.map Road.e))]
theorem Qz(H:ai)(into:Option (List Int))(hi:∀l,into=some l→l≠[]):qv H .sl false (some (nU into)) (some .nil)=some (B (into.isNone),H):=by
 cases into with
 | none=>rfl
 | some l=>exact xa H _ (by simpa using hi l rfl)
@[go_sem] theorem WC (k n : Nat) (into : Option (List Int)) : old k n (nU into) = true := by
 cases into<;>simp only[nU,go_sem]
theorem GS{m:aT}(h:m.ok)(t:Int)(ht:t≤1000000000000)(ht0: -1000000000000≤t)(into:Option (List Int))(hi:∀l,into=some l→l≠[]∧l.length≤64)(l:List Int)(hl:l.length=m.places.length)(hb:bnd l)
 (k:Nat) (hk:k<m.roads.length) (ag:Bool):
 eO true [0,1,5,9] 2 (exS aO K.dU ⟨[.und,.und,I t,nU into,.bp 0 0,.und,.ref 1 0 l.length,B ag,I k,.und],[.box (af m),.arr 1 false 0 ((l.map (T.int .i64)).map .t)]⟩)=
  some ⟨[.und,.und,I t,nU into,.bp 0 0,.und,.ref 1 0 (sP m t into k (l,ag)).1.length,B (sP m t into k (l,ag)).2,I (k+1),.und],[.box (af m),.arr 1 false 0 (((sP m t into k (l,ag)).1.map (T.int .i64)).map .t)]⟩:=by
 have np:=h.np
 have nr:=h.nr
 have t1:=I9 h k hk false
 have t2:=I9 h k hk true
 have w1:=(AE h k hk false).2
 have w2:=(AE h k hk true).2
 obtain⟨f0,f1,t0,t1', -, -, -, -, -, -, -, -, -, -, -⟩:=h.rs _ (ae hk)
 have e0:=fun H=>Qz H into fun l hl=>(hi l hl).1
 have lw1:=AF l hb (by omega) (nth m.roads k).frm (nth m.roads k).to f0 (by omega) t0 (by omega) (eX m k false 6 9 12) t (by omega) ht ht0
 have lw2:=AF l hb (by omega) (nth m.roads k).to (nth m.roads k).frm t0 (by omega) f0 (by omega) (eX m k true 6 9 12) t (by omega) ht ht0
 have hl':(mG l (nth m.roads k).frm.toNat (nth m.roads k).to.toNat (eX m k false 6 9 12) t).length=l.length:=mj ..
 have lw3:=AF _ (zE hb (p:=(nth m.roads k).frm.toNat) (q:=(nth m.roads k).to.toNat) (w:=eX m k false 6 9 12) (t:=t) (by omega)) (by omega) (nth m.roads k).to (nth m.roads k).frm t0 (by omega) f0 (by omega) (eX m k true 6 9 12) t (by omega) ht ht0
 rw[hl']at lw3
 simp only[sP,eE,Road.src,Road.dst,Bool.false_eq_true,↓reduceIte]
 generalize hx:nth m.roads k=x at*
 obtain⟨frm,to,len,area,walk,closed,rl,rh,ll,lh⟩:=x
 simp only at f0 f1 t0 t1' lw1 lw2 lw3 hl' ⊢
 generalize hw1:eX m k false 6 9 12=v1 at*
 generalize hw2:eX m k true 6 9 12=v2 at*
 clear hb
 cases into with
 | none=>
   simp only[nU,Ja,↓reduceIte,Option.isNone]at e0 ⊢
   cases c1:lO l frm.toNat to.toNat v1 t<;>cases c2:lO (mG l frm.toNat to.toNat v1 t) to.toNat frm.toNat v2 t<;>rw[c1]at lw1<;>rw[c2]at lw3<;>
   simp (disch:=omega) only[go_sem,K.dU,↓reduceIte,hx,e0,t1,t2,lw1,lw3,mj,Nat.reduceAdd,Nat.reduceSub]
 | some s=>
   have hs:=(hi s rfl).2
   have g1:=I7 s to (by omega)
   have g2:=I7 s frm (by omega)
   simp only[nU,Ja,Option.isNone]at e0 ⊢
   by_cases m1:to∈s<;>by_cases m2:frm∈s
   · simp only[m1,m2,decide_true,↓reduceIte]at g1 g2 ⊢
     cases c1:lO l frm.toNat to.toNat v1 t<;>cases c2:lO (mG l frm.toNat to.toNat v1 t) to.toNat frm.toNat v2 t<;>rw[c1]at lw1<;>rw[c2]at lw3<;>
     simp (disch:=omega) only[go_sem,K.dU,↓reduceIte,hx,e0,t1,t2,lw1,lw3,g1,g2,c1,Bool.or_true,Bool.or_false,mj,Nat.reduceAdd,Nat.reduceSub]
   · simp only[m1,m2,decide_true,decide_false,↓reduceIte]at g1 g2 ⊢
     cases c1:lO l frm.toNat to.toNat v1 t<;>rw[c1]at lw1<;>
     simp (disch:=omega) only[go_sem,K.dU,↓reduceIte,hx,e0,t1,t2,lw1,g1,g2,c1,Bool.or_true,Bool.or_false,mj,Nat.reduceAdd,Nat.reduceSub]
   · simp only[m1,m2,decide_true,decide_false,↓reduceIte]at g1 g2 ⊢
     cases c1:lO l to.toNat frm.toNat v2 t<;>rw[c1]at lw2<;>
     simp (disch:=omega) only[go_sem,K.dU,↓reduceIte,hx,e0,t1,t2,lw2,g1,g2,c1,Bool.or_true,Bool.or_false,mj,Nat.reduceAdd,Nat.reduceSub]
   · simp only[m1,m2,decide_false,↓reduceIte]at g1 g2 ⊢
     simp (disch:=omega) only[go_sem,K.dU,↓reduceIte,hx,e0,t1,t2,g1,g2,Nat.reduceAdd,Nat.reduceSub]
theorem xc{m:aT}(h:m.ok)(t:Int)(ht:t≤1000000000000)(ht0: -1000000000000≤t)(into:Option (List Int))(hi:∀l,into=some l→l≠[]∧l.length≤64)(l:List Int)(hl:l.length=m.places.length)(hb:bnd l):
 aO 0 N.et [.t m.e,.t (tL l),I t,nU into] []=some (.t (tL (iT (cV m t into) (xb l+1) l)),[])∧(iT (cV m t into) (xb l+1) l).length=m.places.length∧bnd (iT (cV m t into) (xb l+1) l):=by
 have nr:=h.nr
 have inner:∀(l:List Int),l.length=m.places.length→bnd l→∀(a b c d:D),exS aO K.r5 ⟨[a,b,I t,nU into,.bp 0 0,c,.ref 1 0 l.length,B false,I 0,d],[.box (af m),.arr 1 false 0 ((l.map (T.int .i64)).map .t)]⟩=
  some (.exit 2,⟨[.und,.und,I t,nU into,.bp 0 0,.und,.ref 1 0 l.length,B (cV m t into l).2,I m.roads.length,.und],[.box (af m),.arr 1 false 0 (((cV m t into l).1.map (T.int .i64)).map .t)]⟩):=by
  intro l hl hb a b c d
  refine cE (fun j=>⟨[.und,.und,I t,nU into,.bp 0 0,.und,.ref 1 0 (ef m t into l j).1.length,B (ef m t into l j).2,I j,.und],[.box (af m),.arr 1 false 0 (((ef m t into l j).1.map (T.int .i64)).map .t)]⟩) m.roads.length rfl ?_ ?_ (by simp)
  · intro j hj
    have:=GS h t ht ht0 into hi (ef m t into l j).1 (by rw[di,hl]) (gS h hl hb j (by omega)) j hj (ef m t into l j).2
    exact this
  · simp (disch:=omega) only[go_sem,K.dU,↓reduceIte,cV,di]
 have outer:=fun(a b c d e:D)=>GQ (gc:=true) (dead:=[0,1,5,8,9]) (c:=K.j6) (vs:=[a,b,I t,nU into,.bp 0 0,c,.ref 1 0 l.length,B true,d,e]) (H:=[.box (af m),.arr 1 false 0 ((l.map (T.int .i64)).map .t)])
  (fun l ag=>⟨[.und,.und,I t,nU into,.bp 0 0,.und,.ref 1 0 l.length,B ag,.und,.und],[.box (af m),.arr 1 false 0 ((l.map (T.int .i64)).map .t)]⟩)
  (fun l=>(.exit 0,⟨[.und,.und,I t,nU into,.bp 0 0,.und,.ref 1 0 l.length,B false,.und,.und],[.box (af m),.arr 1 false 0 ((l.map (T.int .i64)).map .t)]⟩))
  (cV m t into) (fun l=>l.length=m.places.length∧bnd l) xb
  (fun l ⟨hl,hb⟩=>⟨⟨by rw[cV,di,hl],gS h hl hb _ (Nat.le_refl _)⟩,(oB h hl hb _ (Nat.le_refl _)).1⟩)
  (by
   rintro l ⟨hl,hb⟩
   have:=inner l hl hb
   have e:(cV m t into l).1.length=l.length:=by rw[cV,di]
   simp (disch:=omega) only[go_sem,K.j6,↓reduceIte,this,e])
  (by
   rintro l ⟨hl,hb⟩
   simp (disch:=omega) only[go_sem,K.j6,↓reduceIte,reduceCtorEq,ne_eq,not_false_eq_true,and_self])
  l ⟨hl,hb⟩ rfl
 obtain⟨-,o2⟩:=outer .und .und .und .und .und
 refine⟨?_,o2⟩
 refine ay K.pC rfl ?_
 have o1:∀a b c d e:D,exS aO K.r6 ⟨[a,b,I t,nU into,.bp 0 0,c,.ref 1 0 l.length,B true,d,e],[.box (af m),.arr 1 false 0 ((l.map (T.int .i64)).map .t)]⟩=_:=fun a b c d e=>(outer a b c d e).1
 clear outer inner
 have np:=h.np
 have o2:=o2.1
 generalize iT (cV m t into) (xb l+1) l=l2 at*
 cases into with
 | none=>
   simp only[nU]at o1
   simp (disch:=omega) only[go_sem,K.et,↓reduceIte,o1,nU]
 | some s=>
   simp only[nU]at o1
   simp (disch:=omega) only[go_sem,K.et,↓reduceIte,o1,nU]
structure Wh where
 time:Int
 frm:List Int
instance : Dat Wh := ⟨⟨0, []⟩⟩
abbrev Wh.e(w:Wh):T:= .agg [tI w.time,tL w.frm]
def cB(m:aT)(t:Int)(into:Option (List Int))(l:List Int):List Int:=iT (cV m t into) (xb l+1) l
def inT(t:Int):Prop:=0≤t∧t≤2147483648
instance (t : Int) : Decidable (inT t) := by unfold inT; infer_instance
def plT(x:Int):Prop:=x=1099511627776∨inT x
instance (t : Int) : Decidable (plT t) := by unfold plT; infer_instance
def mH(w:Wh)(n:Int):Bool:=decide ((w.frm.length:Int)=n∧inT w.time)&&(List.range w.frm.length).all fun j=>decide (plT (nth w.frm j))
theorem j8{x:Int}(h:plT x):0≤x∧x≤1099511627776:=by unfold plT inT at h;omega
theorem uf(t:Int):aO 0 N.dh [I t] []=some (B (decide (inT t)),[]):=by
 refine ay K.nS rfl ?_
 unfold inT
 by_cases h1:0≤t<;>by_cases h2:t≤2147483648<;>simp (disch:=omega) only[go_sem,K.dh,↓reduceIte,h1,h2]
theorem xd{m:aT}(h:m.ok)(t:Int)(ht:inT t)(l:List Int)(hl:l.length=m.places.length)(hb:bnd l):
 aO 0 N.dJ [.t m.e,.t (tL l),I t] []=some (.t (tL (cB m t none l)),[]):=by
 refine ay K.px rfl ?_
 unfold inT at ht
 have:=(xc h t (by omega) (by omega) none (by simp) l hl hb).1
 simp only[nU]at this
 unfold cB
 simp (disch:=omega) only[go_sem,K.dJ,↓reduceIte,this]
theorem L5(w:Wh)(n:Int)(hl:w.frm.length≤4294967296):aO 0 N.dK [.t w.e,I n] []=some (B (mH w n),[]):=by
 refine ay K.pD rfl ?_
 obtain⟨time,frm⟩:=w
 simp only at hl
 have loop:∀a b c:D,exS aO K.r7 ⟨[a,b,.bp 0 0,c,I 0],[.box [I time,.t (tL frm)]]⟩=
  some (match (List.range frm.length).find? (fun j=> !decide (plT (nth frm j)))with
   | some j=>(.ret,⟨[.und,.und,.bp 0 0,B false,I j],[.box [I time,.t (tL frm)]]⟩)
   | none=>(.exit 0,⟨[.und,.und,.bp 0 0,.und,I frm.length],[.box [I time,.t (tL frm)]]⟩)):=by
  intro a b c
  refine cu (fun j=>⟨[.und,.und,.bp 0 0,.und,I j],[.box [I time,.t (tL frm)]]⟩) frm.length (fun j=> !decide (plT (nth frm j))) _ _ rfl ?_ ?_ ?_ (by simp)
  · intro j hj hp
    have hp:plT (nth frm j):=by simpa using hp
    unfold plT inT at hp
    by_cases h1:nth frm j=1099511627776
    · simp (disch:=omega) only[go_sem,K.gg,↓reduceIte,h1]
    · simp (disch:=omega) only[go_sem,K.gg,↓reduceIte]
  · intro j hj hp
    have hp:¬plT (nth frm j):=by simpa using hp
    unfold plT inT at hp
    by_cases h2:0≤nth frm j
    · simp (disch:=omega) only[go_sem,K.gg,↓reduceIte]
      simp
    · simp (disch:=omega) only[go_sem,K.gg,↓reduceIte]
      simp
  · simp (disch:=omega) only[go_sem,K.gg,↓reduceIte]
 unfold mH
 rw[pH]
 by_cases h1:(frm.length:Int)=n
 · by_cases h2:0≤time
   · by_cases h3:time≤2147483648
     · have h4:inT time:=⟨h2,h3⟩
       simp (disch:=omega) only[go_sem,K.dK,↓reduceIte,loop,h1]
       cases hf:(List.range frm.length).find? (fun j=> !decide (plT (nth frm j)))with
       | some j=>simp (disch:=omega) only[go_sem,↓reduceIte,Option.isNone]
       | none=>simp (disch:=omega) only[go_sem,↓reduceIte,Option.isNone,h4,and_self,decide_true]
     · have h4:¬inT time:=by unfold inT;omega
       simp (disch:=omega) only[go_sem,K.dK,↓reduceIte,loop,h1,h4,and_false,decide_false]
   · have h4:¬inT time:=by unfold inT;omega
     simp (disch:=omega) only[go_sem,K.dK,↓reduceIte,loop,h1,h4,and_false,decide_false]
 · simp (disch:=omega) only[go_sem,K.dK,↓reduceIte,loop,h1,false_and,decide_false]
def cH(m:aT)(w:Wh):Bool:=mH w m.places.length&&decide (cB m w.time none w.frm=w.frm)
theorem pI{w:Wh}{n:Int}(h:mH w n=true):(w.frm.length:Int)=n∧inT w.time∧∀x∈w.frm,plT x:=by
 simp only[mH,Bool.and_eq_true,decide_eq_true_eq,List.all_eq_true,List.mem_range]at h
 refine⟨h.1.1,h.1.2,fun x hx=>?_⟩
 obtain⟨j,hj⟩:=List.mem_iff_getElem?.1 hx
 have:=h.2 j (List.getElem?_eq_some_iff.1 hj).1
 rwa [bA hj]at this
theorem kI{m:aT}(h:m.ok)(t:Int)(ht:inT t)(into:Option (List Int))(hi:∀l,into=some l→l≠[]∧l.length≤64){l:List Int}(hl:l.length=m.places.length)(hb:bnd l):(cB m t into l).length=m.places.length:=by
 unfold inT at ht
 exact(xc h t (by omega) (by omega) into hi l hl hb).2.1
theorem zF{m:aT}(h:m.ok)(t:Int)(ht:inT t)(into:Option (List Int))(hi:∀l,into=some l→l≠[]∧l.length≤64){l:List Int}(hl:l.length=m.places.length)(hb:bnd l):bnd (cB m t into l):=by
 unfold inT at ht
 exact(xc h t (by omega) (by omega) into hi l hl hb).2.2
theorem AG{m:aT}(h:m.ok)(w:Wh)(hl:w.frm.length≤4294967296):aO 0 N.eo [.t m.e,.t w.e] []=some (B (cH m w),[]):=by
 refine ay K.pA rfl ?_
 have c:=ue h
 have p:=L5 w m.places.length hl
 have np:=h.np
 unfold cH
 cases hp:mH w m.places.length with
 | false=>
   rw[hp]at p
   obtain⟨time,frm⟩:=w
   simp (disch:=omega) only[go_sem,K.eo,↓reduceIte,c,p,Bool.false_and,Nat.reduceAdd,Nat.reduceSub]
 | true=>
   obtain⟨h1,h2,h3⟩:=pI hp
   rw[hp]at p
   have hb:bnd w.frm:=fun x hx=>j8 (h3 x hx)
   have cl:=xd h w.time h2 w.frm (by omega) hb
   have ln:=kI h w.time h2 none (by simp) (l:=w.frm) (by omega) hb
   obtain⟨time,frm⟩:=w
   simp only at*
   have sm:=AD (cB m time none frm) frm (by omega)
   simp (disch:=omega) only[go_sem,K.eo,↓reduceIte,c,p,cl,sm,Bool.true_and,Nat.reduceAdd,Nat.reduceSub]
theorem AH(w:Wh)(hl:w.frm.length≤4294967296):aO 0 N.cK [.t w.e] []=some (.t w.e,[]):=by
 refine ay K.qH rfl ?_
 obtain⟨time,frm⟩:=w
 simp only at*
 simp (disch:=omega) only[go_sem,K.cK,↓reduceIte,Nat.reduceAdd,Nat.reduceSub]
def ik(n:Nat):List Int:=List.replicate n 1099511627776
theorem D0(n:Nat):ik (n+1)=ik n++[1099511627776]:=List.replicate_succ'
@[simp] theorem jL (n : Nat) : (ik n).length = n := List.length_replicate
theorem vf(n:Nat):bnd (ik n):=fun x hx=>by rw[List.eq_of_mem_replicate hx];omega
theorem GU(n:Nat)(hn:n≤1000000)(a:D):exS aO K.rZ ⟨[I n,a,.ref 0 0 0,I 0],[.arr 1 false 0 []]⟩=
 some (.exit 0,⟨[I n,.und,.ref 0 0 n,I n],[.arr 1 false 0 (((ik n).map (T.int .i64)).map .t)]⟩):=by
 refine cE (fun j=>⟨[I n,.und,.ref 0 0 (ik j).length,I j],[.arr 1 false 0 (((ik j).map (T.int .i64)).map .t)]⟩) n rfl ?_ ?_ (by simp)
 · intro j hj
   have:=jL j
   simp (disch:=omega) only[go_sem,K.mF,D0,↓reduceIte]
 · simp (disch:=omega) only[go_sem,K.mF,↓reduceIte,jL]
theorem Ci(n:Nat)(hn:n≤1000000):aO 1 N.eW [I n] []=some (.ref 0 0 n,[.arr 1 false 0 (((ik n).map (T.int .i64)).map .t)]):=by
 refine ay K.pq rfl ?_
 have:=GU n hn
 simp (disch:=omega) only[go_sem,K.eW,↓reduceIte,this]
def fG(m:aT)(p t:Int):Wh×Int:=
 if p<0∨(m.places.length:Int)≤p then(⟨0,[]⟩,3)else if inT t then(⟨t,cB m t none ((ik m.places.length).set p.toNat t)⟩,0)else(⟨0,[]⟩,8)
theorem FB{m:aT}(h:m.ok)(p t:Int):aO 0 N.dE [.t m.e,I p,I t] []=some (.tup [.t (fG m p t).1.e,I (fG m p t).2],[]):=by
 refine ay K.pc rfl ?_
 have c:=ue h
 have np:=h.np
 have it:=uf t
 have nl:=jL m.places.length
 have nv:=Ci m.places.length (by omega)
 unfold fG
 by_cases h1:p<0
 · simp (disch:=omega) only[go_sem,K.dE,↓reduceIte,c,h1,true_or]
   rfl
 · by_cases h2:(m.places.length:Int)≤p
   · simp (disch:=omega) only[go_sem,K.dE,↓reduceIte,c,h1,h2,or_true]
     rfl
   · by_cases h3:inT t
     · have b:bnd ((ik m.places.length).set p.toNat t):=ve (vf _) h3.1 (by have:=h3.2;omega)
       have cl:=xd h t h3 ((ik m.places.length).set p.toNat t) (by simp) b
       simp only[h3,decide_true]at it
       simp (disch:=omega) only[go_sem,K.dE,↓reduceIte,c,h1,h2,or_self,h3,it,nv,jL,cl]
     · simp only[h3,decide_false]at it
       simp (disch:=omega) only[go_sem,K.dE,↓reduceIte,c,h1,h2,or_self,h3,it]
       rfl
def jQ(w:Wh)(t:Int):List Int:=gI w.frm.length fun j=>decide (nth w.frm j≤t)
theorem ug(w:Wh)(t:Int)(hl:w.frm.length≤1000000):aO 0 N.cL [.t w.e,I t] []=some (.t (tL (jQ w t)),[]):=by
 refine ay K.lF rfl ?_
 obtain⟨time,frm⟩:=w
 simp only[jQ]at*
 have hlen:=fun k=>rA k (fun j=>decide (nth frm j≤t))
 have loop:∀a b:D,exS aO K.oy ⟨[a,I t,.bp 0 0,b,.ref 1 0 0,I 0],[.box [I time,.t (tL frm)],.arr 1 false 0 []]⟩=
  some (.exit 0,⟨[.und,I t,.bp 0 0,.und,.ref 1 0 (gI frm.length (fun j=>decide (nth frm j≤t))).length,I frm.length],[.box [I time,.t (tL frm)],.arr 1 false 0 (((gI frm.length (fun j=>decide (nth frm j≤t))).map (T.int .i64)).map .t)]⟩):=by
  intro a b
  refine cE (fun j=>⟨[.und,I t,.bp 0 0,.und,.ref 1 0 (gI j (fun j=>decide (nth frm j≤t))).length,I j],[.box [I time,.t (tL frm)],.arr 1 false 0 (((gI j (fun j=>decide (nth frm j≤t))).map (T.int .i64)).map .t)]⟩) frm.length rfl ?_ ?_ (by simp)
  · intro j hj
    have:=hlen j
    by_cases hp:nth frm j≤t
    · simp (disch:=omega) only[go_sem,K.ie,pG,hp,decide_true,↓reduceIte]
    · simp (disch:=omega) only[go_sem,K.ie,pG,hp,decide_false,↓reduceIte]
  · simp (disch:=omega) only[go_sem,K.ie,↓reduceIte]
 have:=hlen frm.length
 simp (disch:=omega) only[go_sem,K.cL,↓reduceIte,loop]
def lQ(w:Wh)(t:Int):Wh×Int:=if t<w.time∨2147483648<t then(w,8)else(⟨t,w.frm⟩,0)
theorem FC(w:Wh)(t:Int)(hl:w.frm.length≤1000000):aO 0 N.dG [.t w.e,I t] []=some (.tup [.t (lQ w t).1.e,I (lQ w t).2],[]):=by
 refine ay K.pg rfl ?_
 have c:=AH w (by omega)
 obtain⟨time,frm⟩:=w
 simp only[lQ]at*
 by_cases h1:t<time
 · simp (disch:=omega) only[go_sem,K.dG,↓reduceIte,c,h1,true_or]
 · by_cases h2:2147483648<t
   · simp (disch:=omega) only[go_sem,K.dG,↓reduceIte,c,h1,h2,or_true]
   · simp (disch:=omega) only[go_sem,K.dG,↓reduceIte,c,h1,h2,or_self]
def j9(m:aT)(w:Wh)(places:List Int)(a b:Int):Int:=
 if cH m w=true∧places≠[]∧oP places m.places.length=true then(if inT a∧inT b∧a≤b then 0 else 8)else 6
theorem FD{m:aT}(h:m.ok)(w:Wh)(hl:w.frm.length≤1000000)(places:List Int)(hp:places.length≤1000000)(a b:Int):
 aO 0 N.b9 [.t m.e,.t w.e,.t (tL places),I a,I b] []=some (I (j9 m w places a b),[]):=by
 refine ay K.pB rfl ?_
 have v:=AG h w (by omega)
 have s:=WB places m.places.length (by omega)
 have np:=h.np
 have ia:=uf a
 have ib:=uf b
 obtain⟨time,frm⟩:=w
 simp only at*
 unfold j9
 cases hv:cH m ⟨time,frm⟩with
 | false=>
   rw[hv]at v
   simp (disch:=omega) only[go_sem,K.b9,↓reduceIte,v,Bool.false_eq_true,false_and]
 | true=>
   rw[hv]at v
   cases places with
   | nil=>simp (disch:=omega) only[go_sem,K.b9,↓reduceIte,v,ne_eq,not_true_eq_false,false_and,and_false,List.length_nil]
   | cons x xs=>
     have hne:0<(x::xs).length:=by simp
     generalize hx:x::xs=l at*
     have hne2:l≠[]:=by intro e;rw[e]at hne;simp at hne
     cases hs:oP l m.places.length with
     | false=>
       rw[hs]at s
       simp (disch:=omega) only[go_sem,K.b9,↓reduceIte,v,s,hne2,ne_eq,not_false_eq_true,true_and,Bool.false_eq_true,and_false]
     | true=>
       rw[hs]at s
       by_cases h1:inT a
       · by_cases h2:inT b
         · simp only[h1,h2,decide_true]at ia ib
           by_cases h3:a≤b
           · simp (disch:=omega) only[go_sem,K.b9,↓reduceIte,v,s,hne2,ia,ib,h1,h2,h3,ne_eq,not_false_eq_true,and_self]
           · simp (disch:=omega) only[go_sem,K.b9,↓reduceIte,v,s,hne2,ia,ib,h1,h2,h3,ne_eq,not_false_eq_true,and_self,and_false]
         · simp only[h1,h2,decide_true,decide_false]at ia ib
           simp (disch:=omega) only[go_sem,K.b9,↓reduceIte,v,s,hne2,ia,ib,h1,h2,ne_eq,not_false_eq_true,and_self,and_false,false_and]
       · simp only[h1,decide_false]at ia
         simp (disch:=omega) only[go_sem,K.b9,↓reduceIte,v,s,hne2,ia,h1,ne_eq,not_false_eq_true,and_self,and_false,false_and]
theorem pJ{l:List Int}{n:Int}(h:oP l n=true){j:Nat}(hj:j<l.length):0≤nth l j∧nth l j<n∧(0<j→nth l (j-1)<nth l j):=by
 simp only[oP,List.all_eq_true,List.mem_range,decide_eq_true_eq]at h
 exact h j hj
theorem Jb{l:List Int}{n:Int}(h:oP l n=true):∀ {j:Nat},j<l.length→(j:Int)≤nth l j
 | 0,hj=>by have:=pJ h hj;omega
 | j+1,hj=>by
   have h1:=Jb h (j:=j) (by omega)
   have:=(pJ h hj).2.2 (by omega)
   simp only[Nat.add_sub_cancel]at this
   omega
theorem AI{l:List Int}{n:Nat}(h:oP l n=true):l.length≤n:=by
 cases hl:l.length with
 | zero=>omega
 | succ k=>
   have h1:=Jb h (j:=k) (by omega)
   have h2:=(pJ h (j:=k) (by omega)).2.1
   omega
def vg(w:Wh)(t p:Int)(s:List Int×Bool):List Int×Bool:=if nth w.frm p.toNat≤t then(s.1.set p.toNat (nth w.frm p.toNat),true)else s
def yS(w:Wh)(l:List Int)(t:Int)(n:Nat):Nat→List Int×Bool
 | 0=>(ik n,false)
 | j+1=>vg w t (nth l j) (yS w l t n j)
theorem pK(w:Wh)(l:List Int)(t:Int)(n:Nat):∀j,(yS w l t n j).1.length=n
 | 0=>jL n
 | j+1=>by
   have:=pK w l t n j
   simp only[yS,vg]
   split<;>simp[this]
theorem AJ{w:Wh}(hw:bnd w.frm)(l:List Int)(t:Int){n:Nat}(hl:∀p∈l,0≤p∧p<w.frm.length):∀j,j≤l.length→bnd (yS w l t n j).1
 | 0,_=>vf n
 | j+1,hj=>by
   have:=AJ hw l t hl (n:=n) j (by omega)
   simp only[yS,vg]
   split
   · have hp:=hl _ (ae (l:=l) (j:=j) (by omega))
     have:=hw _ (ae (l:=w.frm) (j:=(nth l j).toNat) (by omega))
     exact ve (by assumption) this.1 this.2
   · exact this
def yW(m:aT)(w:Wh)(l:List Int)(a b:Int):Wh×Int:=
 if j9 m w l a b≠0 then(w,j9 m w l a b)else if a<w.time then(w,42)else
 if(yS w l b m.places.length l.length).2=true then(⟨b,cB m a none (yS w l b m.places.length l.length).1⟩,0)else(w,43)
theorem mb{m:aT}{w:Wh}{l:List Int}{a b:Int}(h:j9 m w l a b=0):cH m w=true∧l≠[]∧oP l m.places.length=true∧inT a∧inT b∧a≤b:=by
 unfold j9 at h
 split at h
 · rename_i h1
   split at h
   · rename_i h2;exact⟨h1.1,h1.2.1,h1.2.2,h2⟩
   · omega
 · omega
theorem bF{m:aT}{w:Wh}(h:cH m w=true):w.frm.length=m.places.length∧inT w.time∧(∀x∈w.frm,plT x)∧cB m w.time none w.frm=w.frm:=by
 simp only[cH,Bool.and_eq_true,decide_eq_true_eq]at h
 obtain⟨h1,h2,h3⟩:=pI h.1
 exact⟨by omega,h2,h3,h.2⟩
theorem WD{m:aT}(h:m.ok)(w:Wh)(hl:w.frm.length≤1000000)(l:List Int)(hp:l.length≤1000000)(a b:Int):
 aO 0 N.gH [.t m.e,.t w.e,.t (tL l),I a,I b] []=some (.tup [.t (yW m w l a b).1.e,I (yW m w l a b).2],[]):=by
 refine ay K.sM rfl ?_
 have as:=FD h w hl l hp a b
 have cp:=AH w (by omega)
 have np:=h.np
 have nv:=Ci m.places.length (by omega)
 have nl:=jL m.places.length
 unfold yW
 by_cases h0:j9 m w l a b=0
 · obtain⟨v1,v2,v3,v4,v5,v6⟩:=mb h0
   obtain⟨w1,w2,w3,w4⟩:=bF v1
   have hlen:=AI v3
   rw[h0]at as ⊢
   obtain⟨time,frm⟩:=w
   simp only at*
   by_cases h1:a<time
   · simp (disch:=omega) only[go_sem,K.gH,↓reduceIte,as,cp,h1,ne_eq,not_true_eq_false]
   · have hbw:bnd (Wh.frm ⟨time,frm⟩):=fun x hx=>j8 (w3 x hx)
     have hb:=AJ hbw l b (n:=m.places.length) (fun p hp=>by
      obtain⟨j,hj⟩:=List.mem_iff_getElem?.1 hp
      have:=pJ v3 (List.getElem?_eq_some_iff.1 hj).1
      rw[bA hj]at this
      simp only
      omega) l.length (Nat.le_refl _)
     have ln:=pK ⟨time,frm⟩ l b m.places.length
     have loop:∀x y z u v:D,exS aO K.vU ⟨[x,y,.t (tL l),I a,I b,.bp 0 0,.bp 1 0,.bp 2 0,z,u,.ref 3 0 m.places.length,B false,I 0,v],[.box (af m),.box [I time,.t (tL frm)],.box [I 0,.nil],.arr 1 false 0 (((ik m.places.length).map (T.int .i64)).map .t)]⟩=
      some (.exit 0,⟨[.und,.und,.t (tL l),I a,I b,.bp 0 0,.bp 1 0,.bp 2 0,.und,.und,.ref 3 0 m.places.length,B (yS ⟨time,frm⟩ l b m.places.length l.length).2,I l.length,.und],[.box (af m),.box [I time,.t (tL frm)],.box [I 0,.nil],.arr 1 false 0 ((((yS ⟨time,frm⟩ l b m.places.length l.length).1).map (T.int .i64)).map .t)]⟩):=by
      intro x y z u v
      refine cE (fun j=>⟨[.und,.und,.t (tL l),I a,I b,.bp 0 0,.bp 1 0,.bp 2 0,.und,.und,.ref 3 0 m.places.length,B (yS ⟨time,frm⟩ l b m.places.length j).2,I j,.und],[.box (af m),.box [I time,.t (tL frm)],.box [I 0,.nil],.arr 1 false 0 ((((yS ⟨time,frm⟩ l b m.places.length j).1).map (T.int .i64)).map .t)]⟩) l.length rfl ?_ ?_ (by simp)
      · intro j hj
        obtain⟨p1,p2, -⟩:=pJ v3 hj
        have lj:=ln j
        by_cases hc:nth frm (nth l j).toNat≤b
        · simp (disch:=omega) only[go_sem,K.ma,↓reduceIte,yS,vg,hc]
        · simp (disch:=omega) only[go_sem,K.ma,↓reduceIte,yS,vg,hc]
      · simp (disch:=omega) only[go_sem,K.ma,↓reduceIte]
     have cl:=xd h a v4 _ (ln l.length) hb
     have ln:=ln l.length
     simp (disch:=omega) only[go_sem,K.gH,↓reduceIte,as,h1,nv,loop,ne_eq,not_true_eq_false]
     cases hs:(yS ⟨time,frm⟩ l b m.places.length l.length).2 with
     | true=>simp (disch:=omega) only[go_sem,↓reduceIte,ln,cl]
     | false=>simp (disch:=omega) only[go_sem,↓reduceIte,cp,Bool.false_eq_true]
 · obtain⟨time,frm⟩:=w
   simp only at*
   simp (disch:=omega) only[go_sem,K.gH,↓reduceIte,as,cp,h0,ne_eq,not_false_eq_true]
def D1(l0 l:List Int):Nat→List Int
 | 0=>l0
 | j+1=>(D1 l0 l j).set (nth l j).toNat 1099511627776
theorem uh(l0 l:List Int):∀j,(D1 l0 l j).length=l0.length
 | 0=>rfl
 | j+1=>by simp only[D1,List.length_set,uh l0 l j]
theorem AK{l0:List Int}(h:bnd l0)(l:List Int):∀j,bnd (D1 l0 l j)
 | 0=>h
 | j+1=>ve (AK h l j) (by omega) (by omega)
def zG(m:aT)(w:Wh)(l:List Int)(a b bl:Int):Wh×Int:=
 if j9 m w l a b≠0 then(w,j9 m w l a b)else if ¬inT bl then(w,8)else if b<w.time then(w,42)else if b-max a w.time≤bl then(w,0)else
 (⟨b,cB m b none (cB m (b-bl) (some l) (D1 w.frm l l.length))⟩,0)
theorem WE{m:aT}(h:m.ok)(w:Wh)(hl:w.frm.length≤1000000)(l:List Int)(hp:l.length≤1000000)(a b bl:Int):
 aO 0 N.cG [.t m.e,.t w.e,.t (tL l),I a,I b,I bl] []=some (.tup [.t (zG m w l a b bl).1.e,I (zG m w l a b bl).2],[]):=by
 refine ay K.nQ rfl ?_
 have as:=FD h w hl l hp a b
 have cp:=AH w (by omega)
 have ib:=uf bl
 have np:=h.np
 unfold zG
 by_cases h0:j9 m w l a b=0
 · obtain⟨v1,v2,v3,v4,v5,v6⟩:=mb h0
   obtain⟨w1,w2,w3,w4⟩:=bF v1
   have hlen:=AI v3
   rw[h0]at as ⊢
   obtain⟨time,frm⟩:=w
   simp only at*
   by_cases h1:inT bl
   · by_cases h2:b<time
     · simp only[h1,decide_true]at ib
       simp (disch:=omega) only[go_sem,K.cG,↓reduceIte,as,ib,cp,h1,h2,ne_eq,not_true_eq_false,not_false_eq_true]
     · simp only[h1,decide_true]at ib
       unfold inT at v4 v5 w2 h1
       by_cases h3:b-max a time≤bl
       · simp (disch:=omega) only[go_sem,K.cG,↓reduceIte,as,ib,cp,h1,h2,h3,ne_eq,not_true_eq_false,not_false_eq_true,inT,and_self]
       · have hb:bnd frm:=fun x hx=>j8 (w3 x hx)
         have ln:=uh frm l
         have lb:=AK hb l
         have loop:∀x y z u v w:D,exS aO K.qC ⟨[x,y,.t (tL l),z,I b,I bl,.bp 0 0,u,.bp 2 0,v,w,.ref 3 0 frm.length,I 0],[.box (af m),.box [I time,.t (tL frm)],.box [I 0,.nil],.arr 1 false 0 ((frm.map (T.int .i64)).map .t)]⟩=
          some (.exit 0,⟨[.und,.und,.t (tL l),.und,I b,I bl,.bp 0 0,.und,.bp 2 0,.und,.und,.ref 3 0 frm.length,I l.length],[.box (af m),.box [I time,.t (tL frm)],.box [I 0,.nil],.arr 1 false 0 (((D1 frm l l.length).map (T.int .i64)).map .t)]⟩):=by
          intro x y z u v w
          refine cE (fun j=>⟨[.und,.und,.t (tL l),.und,I b,I bl,.bp 0 0,.und,.bp 2 0,.und,.und,.ref 3 0 frm.length,I j],[.box (af m),.box [I time,.t (tL frm)],.box [I 0,.nil],.arr 1 false 0 (((D1 frm l j).map (T.int .i64)).map .t)]⟩) l.length rfl ?_ ?_ (by simp)
          · intro j hj
            obtain⟨p1,p2, -⟩:=pJ v3 hj
            have lj:=ln j
            simp (disch:=omega) only[go_sem,K.lG,↓reduceIte,D1]
          · simp (disch:=omega) only[go_sem,K.lG,↓reduceIte]
         have hi:∀s,some l=some s→s≠[]∧s.length≤64:=by
          intro s hs;cases hs;exact⟨v2,by omega⟩
         have ln:=ln l.length
         have lb:=lb l.length
         have t1:inT (b-bl):=by unfold inT;omega
         have c1:=xc h (b-bl) (by omega) (by omega) (some l) hi _ (by omega) lb
         simp only[nU]at c1
         have c2:=xd h b v5 (cB m (b-bl) (some l) (D1 frm l l.length)) (kI h _ t1 _ hi (by omega) lb) (zF h _ t1 _ hi (by omega) lb)
         have c3:=c1.1
         unfold cB at c2 ⊢
         clear c1
         simp (disch:=omega) only[go_sem,K.cG,↓reduceIte,as,ib,loop,c2,c3,ln,h1,h2,h3,ne_eq,not_true_eq_false,not_false_eq_true,inT,and_self,Nat.reduceAdd,Nat.reduceSub]
   · simp only[h1,decide_false]at ib
     simp (disch:=omega) only[go_sem,K.cG,↓reduceIte,as,ib,cp,h1,ne_eq,not_true_eq_false,not_false_eq_true]
 · obtain⟨time,frm⟩:=w
   simp only at*
   simp (disch:=omega) only[go_sem,K.cG,↓reduceIte,as,cp,h0,ne_eq,not_false_eq_true]
def zH(a b:List Int):Nat→List Int
 | 0=>[]
 | j+1=>zH a b j++[min (nth a j) (nth b j)]
theorem kT(a b:List Int):∀j,(zH a b j).length=j
 | 0=>rfl
 | j+1=>by simp[zH,kT a b j]
def gW(a b:Wh):Wh×Int:=if a.frm.length=b.frm.length then(⟨max a.time b.time,zH a.frm b.frm a.frm.length⟩,0)else(⟨0,[]⟩,6)
theorem QA(a b:Wh)(ha:a.frm.length≤1000000):aO 0 N.fY [.t a.e,.t b.e] []=some (.tup [.t (gW a b).1.e,I (gW a b).2],[]):=by
 refine ay K.qI rfl ?_
 obtain⟨t1,l1⟩:=a
 obtain⟨t2,l2⟩:=b
 simp only[gW]at*
 by_cases hl:l1.length=l2.length
 · have ln:=kT l1 l2
   have loop:∀x y z:D,exS aO K.ua ⟨[x,y,.bp 0 0,.bp 1 0,.bp 2 0,z,.bp 3 0,I 0],[.box [I t1,.t (tL l1)],.box [I t2,.t (tL l2)],.box [I 0,.nil],.box [I (max t1 t2),.ref 5 0 0],.arr 1 false 0 [],.arr 1 false 0 []]⟩=
    some (.exit 0,⟨[.und,.und,.bp 0 0,.bp 1 0,.bp 2 0,.und,.bp 3 0,I l1.length],[.box [I t1,.t (tL l1)],.box [I t2,.t (tL l2)],.box [I 0,.nil],.box [I (max t1 t2),.ref 5 0 l1.length],.arr 1 false 0 [],.arr 1 false 0 (((zH l1 l2 l1.length).map (T.int .i64)).map .t)]⟩):=by
    intro x y z
    refine cE (fun j=>⟨[.und,.und,.bp 0 0,.bp 1 0,.bp 2 0,.und,.bp 3 0,I j],[.box [I t1,.t (tL l1)],.box [I t2,.t (tL l2)],.box [I 0,.nil],.box [I (max t1 t2),.ref 5 0 j],.arr 1 false 0 [],.arr 1 false 0 (((zH l1 l2 j).map (T.int .i64)).map .t)]⟩) l1.length rfl ?_ ?_ (by simp)
    · intro j hj
      have lj:=ln j
      simp (disch:=omega) only[go_sem,K.nN,↓reduceIte,zH,Nat.reduceAdd,Nat.reduceSub]
      done
    · simp (disch:=omega) only[go_sem,K.nN,↓reduceIte]
   have ln:=ln l1.length
   simp (disch:=omega) only[go_sem,K.fY,↓reduceIte,loop]
 · simp (disch:=omega) only[go_sem,K.fY,↓reduceIte,hl]
   rfl
theorem nj{α:Type} [Dat α](l:List α)(k:Nat)(hk:k<l.length)(x:α)(j:Nat):nth (l.set k x) j=if j=k then x else nth l j:=by
 unfold nth
 by_cases h:j=k
 · subst h;rw[if_pos rfl];simp[hk]
 · rw[if_neg h]
   have:¬k=j:=fun e=>h e.symm
   simp[List.getElem?_set,this]
theorem rB{α:Type} [Dat α]{a b:List α}(h:a.length=b.length)(e:∀j,j<a.length→nth a j=nth b j):a=b:=by
 apply List.ext_getElem h
 intro j h1 h2
 have:=e j h1
 rwa [bA (List.getElem?_eq_getElem h1),bA (List.getElem?_eq_getElem h2)]at this
theorem FE{l:List Int}{i:Nat}(h:l.length≤i):nth l i=0:=by unfold nth;rw[List.getD_eq_getElem?_getD,List.getElem?_eq_none h];rfl
def clW(m:aT)(t:Int)(into:Option (List Int))(y:List Int):Prop:=∀k,k<m.roads.length→∀back,Ja into ((nth m.roads k).dst back)=true→0≤eX m k back 6 9 12→
 nth y ((nth m.roads k).src back).toNat<1099511627776→max t (nth y ((nth m.roads k).src back).toNat+eX m k back 6 9 12)≤2147483648→
 nth y ((nth m.roads k).dst back).toNat≤max t (nth y ((nth m.roads k).src back).toNat+eX m k back 6 9 12)
theorem AL{m:aT}{t t':Int}(ht:t≤t'){into:Option (List Int)}{y:List Int}(h:clW m t none y):clW m t' into y:=by
 intro k hk back _ h1 h2 h3
 have:=h k hk back rfl h1 h2 (by omega)
 omega
theorem sQ{α:Type}{f:α→α×Bool}(P:α→Prop)(hP:∀l,P l→P (f l).1):∀n l,P l→P (iT f n l)
 | 0,l,h=>h
 | n+1,l,h=>by
   unfold iT
   split
   · exact sQ P hP n _ (hP l h)
   · exact hP l h
theorem yc{α:Type}{f:α→α×Bool}(P:α→Prop)(mes:α→Nat)(hP:∀l,P l→P (f l).1∧((f l).2=true→mes (f l).1<mes l)∧((f l).2=false→(f l).1=l)):∀n l,P l→mes l<n→(f (iT f n l)).2=false∧P (iT f n l)
 | 0,l,_,h=>by omega
 | n+1,l,hp,h=>by
   obtain⟨h1,h2,h3⟩:=hP l hp
   unfold iT
   cases hf:(f l).2 with
   | true=>
     rw[if_pos rfl]
     have:=h2 hf
     exact yc P mes hP n _ h1 (by omega)
   | false=>
     rw[if_neg (by simp),h3 hf]
     exact⟨hf,hp⟩
theorem xe{m:aT}(t:Int)(into:Option (List Int))(k:Nat)(back:Bool)(l:List Int):
 (Ja into ((nth m.roads k).dst back)=true∧0≤eX m k back 6 9 12∧nth l ((nth m.roads k).src back).toNat<1099511627776∧max t (nth l ((nth m.roads k).src back).toNat+eX m k back 6 9 12)≤2147483648∧
  max t (nth l ((nth m.roads k).src back).toNat+eX m k back 6 9 12)<nth l ((nth m.roads k).dst back).toNat∧
  eE m t into k back l=(l.set ((nth m.roads k).dst back).toNat (max t (nth l ((nth m.roads k).src back).toNat+eX m k back 6 9 12)),true))∨
 (eE m t into k back l=(l,false)∧¬(Ja into ((nth m.roads k).dst back)=true∧0≤eX m k back 6 9 12∧nth l ((nth m.roads k).src back).toNat<1099511627776∧max t (nth l ((nth m.roads k).src back).toNat+eX m k back 6 9 12)≤2147483648∧
  max t (nth l ((nth m.roads k).src back).toNat+eX m k back 6 9 12)<nth l ((nth m.roads k).dst back).toNat)):=by
 unfold eE mG lO
 cases Ja into ((nth m.roads k).dst back)with
 | false=>right;simp
 | true=>
   simp only[↓reduceIte,true_and,Bool.and_eq_true,decide_eq_true_eq]
   by_cases c:((0≤eX m k back 6 9 12∧nth l ((nth m.roads k).src back).toNat<1099511627776)∧max t (nth l ((nth m.roads k).src back).toNat+eX m k back 6 9 12)≤2147483648)∧max t (nth l ((nth m.roads k).src back).toNat+eX m k back 6 9 12)<nth l ((nth m.roads k).dst back).toNat
   · left
     refine⟨c.1.1.1,c.1.1.2,c.1.2,c.2,?_⟩
     rw[if_pos c]
     simp[c.1.1.1,c.1.1.2,c.1.2,c.2]
   · right
     refine⟨?_,fun h=>c ⟨⟨⟨h.1,h.2.1⟩,h.2.2.1⟩,h.2.2.2⟩⟩
     rw[if_neg c]
     simp only[Prod.mk.injEq,true_and]
     rw[Bool.eq_false_iff];intro h;simp only[Bool.and_eq_true,decide_eq_true_eq]at h;exact c h
section
variable {m : aT} (h : m.ok) {t : Int} {into : Option (List Int)}
include h
theorem zI(P:List Int→Prop)(hP:∀l,l.length=m.places.length→bnd l→P l→∀k,k<m.roads.length→∀back,P (eE m t into k back l).1){l:List Int}(hl:l.length=m.places.length)(hb:bnd l)(hp:P l):∀k,k≤m.roads.length→P (ef m t into l k).1
 | 0,_=>hp
 | k+1,hk=>by
   have ih:=zI P hP hl hb hp k (by omega)
   have b1:=gS h (t:=t) (into:=into) hl hb k (by omega)
   have l1:(ef m t into l k).1.length=m.places.length:=by rw[di,hl]
   simp only[ef,sP]
   exact hP _ (by rw[oA,l1]) (qL h l1 b1 (by omega) false) (hP _ l1 b1 ih k (by omega) false) k (by omega) true
theorem vh(P:List Int→Prop)(hP:∀l,l.length=m.places.length→bnd l→P l→∀k,k<m.roads.length→∀back,P (eE m t into k back l).1){l:List Int}(hl:l.length=m.places.length)(hb:bnd l)(hp:P l):P (cB m t into l):=
 (sQ (f:=cV m t into) (fun l=>(l.length=m.places.length∧bnd l)∧P l) (fun l hl=>⟨⟨by unfold cV;rw[di];exact hl.1.1,gS h hl.1.1 hl.1.2 _ (Nat.le_refl _)⟩,zI h P hP hl.1.1 hl.1.2 hl.2 _ (Nat.le_refl _)⟩) _ l ⟨⟨hl,hb⟩,hp⟩).2
theorem ui{l:List Int}(hl:l.length=m.places.length)(hb:bnd l):(cB m t into l).length=m.places.length∧bnd (cB m t into l):=
 (sQ (f:=cV m t into) (fun l=>(l.length=m.places.length∧bnd l)) (fun l hl=>⟨by unfold cV;rw[di];exact hl.1,gS h hl.1 hl.2 _ (Nat.le_refl _)⟩) _ l ⟨hl,hb⟩)
theorem Cj{l:List Int}(hl:l.length=m.places.length)(hb:bnd l)(j:Nat):nth (cB m t into l) j≤nth l j:=
 vh h (fun l'=>nth l' j≤nth l j) (fun l' hl' hb' hp k hk back=>by
  have r2:=Road.zD (h.rs _ (ae hk)) back
  rcases xe (m:=m) t into k back l' with⟨_,_,_,_,c,e⟩ | ⟨e,_⟩
  · rw[e];simp only
    rw[nj _ _ (by omega)]
    split
    · rename_i hj;rw[hj]at hp;rw[hj];omega
    · exact hp
  · rw[e];exact hp) hl hb (Int.le_refl _)
theorem Ck{y l:List Int}(hy:clW m t into y)(hl:l.length=m.places.length)(hb:bnd l)(hle:∀j,nth y j≤nth l j):∀j,nth y j≤nth (cB m t into l) j:=
 vh h (fun l'=>∀j,nth y j≤nth l' j) (fun l' hl' hb' hp k hk back=>by
  have r2:=Road.zD (h.rs _ (ae hk)) back
  rcases xe (m:=m) t into k back l' with⟨c1,c2,c3,c4,c5,e⟩ | ⟨e,_⟩
  · rw[e];simp only
    intro j
    rw[nj _ _ (by omega)]
    split
    · rename_i hj
      have:=hp ((nth m.roads k).src back).toNat
      have:=hy k hk back c1 c2 (by omega) (by omega)
      rw[hj];omega
    · exact hp j
  · rw[e];exact hp) hl hb hle
theorem Cl{l:List Int}(hl:l.length=m.places.length)(hb:bnd l):∀k,k≤m.roads.length→(ef m t into l k).2=false→∀i,i<k→∀back,(eE m t into i back l).2=false
 | 0,_,_,i,hi,_=>by omega
 | k+1,hk,hf,i,hi,back=>by
   have e:=(oB h (t:=t) (into:=into) hl hb k (by omega)).2
   have ih:=Cl hl hb k (by omega)
   simp only[ef,sP,Bool.or_eq_false_iff]at hf
   obtain⟨⟨f1,f2⟩,f3⟩:=hf
   have e:=e f1
   rw[e]at f2 f3
   have e2:=(ya h (t:=t) (into:=into) hl hb (k:=k) (by omega) false).2 f2
   rw[e2]at f3
   by_cases c:i<k
   · exact ih f1 i c back
   · have:i=k:=by omega
     subst this
     cases back
     · exact f2
     · exact f3
theorem yd{l:List Int}(hl:l.length=m.places.length)(hb:bnd l):clW m t into (cB m t into l):=by
 obtain⟨h1,h2,h3⟩:=yc (f:=cV m t into) (fun l=>l.length=m.places.length∧bnd l) xb (fun l ⟨hl,hb⟩=>⟨⟨by unfold cV;rw[di];exact hl,gS h hl hb _ (Nat.le_refl _)⟩,oB h hl hb _ (Nat.le_refl _)⟩) (xb l+1) l ⟨hl,hb⟩ (Nat.lt_succ_self _)
 intro k hk back c1 c2 c3 c4
 have no:=Cl h (t:=t) (into:=into) h2 h3 m.roads.length (Nat.le_refl _) h1 k hk back
 change (eE m t into k back (cB m t into l)).2=false at no
 rcases xe (m:=m) t into k back (cB m t into l)with⟨_,_,_,_,_,e⟩ | ⟨_,e⟩
 · rw[e]at no;cases no
 · exact Classical.byContradiction fun hc=>e ⟨c1,c2,c3,c4,by omega⟩
theorem Jc{l:List Int}(hl:l.length=m.places.length)(hb:bnd l)(hc:clW m t into l):cB m t into l=l:=by
 apply rB (by rw[(ui h hl hb).1,hl])
 intro j hj
 exact Int.le_antisymm (Cj h hl hb j) (Ck h hc hl hb (fun _=>Int.le_refl _) j)
theorem zJ(P:Int→Prop){l:List Int}(hl:l.length=m.places.length)(hb:bnd l)(hp:∀x∈l,P x)(ht:∀x,t≤x→x≤2147483648→P x):∀x∈cB m t into l,P x:=
 vh h (fun l'=>∀x∈l',P x) (fun l' hl' hb' hp k hk back=>by
  rcases xe (m:=m) t into k back l' with⟨c1,c2,c3,c4,c5,e⟩ | ⟨e,_⟩
  · rw[e]
    intro x hx
    rcases List.mem_or_eq_of_mem_set hx with hx | hx
    · exact hp x hx
    · subst hx;exact ht _ (by omega) c4
  · rw[e];exact hp) hl hb hp
end
theorem ye{m:aT}(h:m.ok){w:Wh}(hl:w.frm.length=m.places.length)(ht:inT w.time)(hp:∀x∈w.frm,plT x)(hc:clW m w.time none w.frm):cH m w=true:=by
 have hb:bnd w.frm:=fun x hx=>j8 (hp x hx)
 simp only[cH,mH,Bool.and_eq_true,decide_eq_true_eq,List.all_eq_true,List.mem_range]
 exact⟨⟨⟨by omega,ht⟩,fun j hj=>hp _ (ae hj)⟩,Jc h hl hb hc⟩
theorem uk{m:aT}(h:m.ok){w:Wh}(hv:cH m w=true):clW m w.time none w.frm:=by
 obtain⟨v1,v2,v3,v4⟩:=bF hv
 have:=yd h (t:=w.time) (into:=none) v1 (fun x hx=>j8 (v3 x hx))
 rwa [v4]at this
theorem pL{m:aT}(h:m.ok){l:List Int}(hl:l.length=m.places.length)(hp:∀x∈l,plT x){a b:Int}(ha:0≤a)(hab:a≤b)(hb:inT b):cH m ⟨b,cB m a none l⟩=true:=by
 have bn:bnd l:=fun x hx=>j8 (hp x hx)
 exact ye h (ui h hl bn).1 hb (zJ h plT hl bn hp (fun x h1 h2=> .inr ⟨by omega,h2⟩)) (AL hab (yd h hl bn))
theorem Jd(n:Nat):∀x∈ik n,plT x:=fun x hx=>by rw[List.eq_of_mem_replicate hx];exact .inl rfl
theorem yf{m:aT}(h:m.ok){p t:Int}(h0:0≤p)(h1:p<m.places.length)(ht:inT t):fG m p t=(⟨t,cB m t none ((ik m.places.length).set p.toNat t)⟩,0)∧cH m (fG m p t).1=true:=by
 have e:fG m p t=(⟨t,cB m t none ((ik m.places.length).set p.toNat t)⟩,0):=by
  unfold fG;rw[if_neg (by omega),if_pos ht]
 refine⟨e,?_⟩
 rw[e]
 refine pL h (by simp) (fun x hx=>?_) ht.1 (Int.le_refl _) ht
 rcases List.mem_or_eq_of_mem_set hx with hx | hx
 · exact Jd _ x hx
 · subst hx;exact .inr ht
theorem FF{w:Wh}{l:List Int}{b:Int}{n:Nat}(hl:∀p∈l,0≤p∧p<n):∀k,k≤l.length→∀j,j<n→nth (yS w l b n k).1 j=if(j:Int)∈l.take k∧nth w.frm j≤b then nth w.frm j else 1099511627776
 | 0,_,j,hj=>by
   rw[if_neg (by simp)]
   exact bA (by simp[yS,ik,hj])
 | k+1,hk,j,hj=>by
   have ih:=FF (w:=w) (b:=b) hl k (by omega) j hj
   have p:=hl _ (ae (l:=l) (j:=k) (by omega))
   rw[ij (by omega)]
   simp only[yS,vg]
   by_cases e:(j:Int)=nth l k
   · have e2:j=(nth l k).toNat:=by omega
     by_cases c:nth w.frm (nth l k).toNat≤b
     · rw[if_pos c,nj _ _ (by rw[pK];omega),if_pos e2,if_pos ⟨by simp[e],by rw[e2];exact c⟩,e2]
     · rw[if_neg c,ih,if_neg (fun x=>c (by rw[← e2];exact x.2)),if_neg (fun x=>c (by rw[← e2];exact x.2))]
   · have e2:¬j=(nth l k).toNat:=by omega
     have mm:((j:Int)∈l.take k++[nth l k])↔(j:Int)∈l.take k:=by simp[e]
     simp only[mm]
     rw[← ih]
     split
     · rw[nj _ _ (by rw[pK];omega),if_neg e2]
     · rfl
end Go.Ev
namespace Go.Ev
open Go
variable [Lib] [cm] [bS]
structure OfI(m:aT)(p:Nat)(l:List Int):Prop where
 ln:l.length=m.places.length
 bd:bnd l
 z:nth l p=0
theorem OfI.set{m:aT}{p:Nat}{l:List Int}(h:OfI m p l){q:Nat}{x:Int}(hq:q<l.length)(h0:0<x)(hx:x<nth l q):OfI m p (l.set q x):=by
 have b1:=h.bd _ (ae hq)
 refine⟨by rw[List.length_set];exact h.ln,ve h.bd (by omega) (by omega),?_⟩
 rw[nj _ _ hq]
 split
 · rename_i e;subst e;have:=h.z;omega
 · exact h.z
theorem GV(n q:Nat)(h:q<n):nth (ik n) q=1099511627776:=bA (by unfold ik;rw[List.getElem?_replicate,if_pos h])
theorem yg{n:Nat}{p:Nat→Bool}{x:Int}(h:x∈gI n p):∃k:Nat,x=k∧k<n∧p k=true:=by
 unfold gI at h
 simp only[List.mem_map,List.mem_filter,List.mem_range]at h
 obtain⟨k,⟨h1,h2⟩,rfl⟩:=h
 exact⟨k,rfl,h1,h2⟩
@[go_sem] theorem acd (H : ai) (a b : List T) : zA H 1 [.t (.sl a), .t (.sl b), .nil] = some (.t (.sl [.sl a, .sl b, .sl []]), H) := by
 simp only[zA,List.all_cons,List.all_nil,D.cells,T.cells,List.map_cons,List.map_nil,List.length_cons,List.length_nil,bL,frz,depth,eL,List.flatMap_cons,List.flatMap_nil,pins]
 rfl
def L6(c:Bool):Option Bool→Option Bool
 | some d=>some (c&&d)
 | none=>none
@[go_sem] theorem TE (c d : Bool) : L6 c (some d) = some (c && d) := (rfl)
@[go_sem] theorem TF : lM [] [] = some true := (rfl)
@[go_sem] theorem QB (k : IntKind) (a b : Int) (xs ys : List T) : lM (.int k a :: xs) (.int k b :: ys) = L6 (decide (a = b)) (lM xs ys) := by
 simp only[lM,if_true,UX]
 cases lM xs ys<;>rfl
def L7(H:ai)(neg:Bool):Option Bool→Option (D×ai)
 | some r=>some (.t (.bool (bif neg then !r else r)),H)
 | none=>none
@[go_sem] theorem TG (H : ai) (r : Bool) : L7 H true (some r) = some (.t (.bool (!r)), H) := (rfl)
@[go_sem] theorem QC (H : ai) (r : Bool) : L7 H false (some r) = some (.t (.bool r), H) := (rfl)
@[go_sem] theorem QD (H : ai) (n : Nat) (neg : Bool) (xs ys : List T) : qv H (.ints n) neg (some (.t (.agg xs))) (some (.t (.agg ys))) = if xs.length = n then L7 H neg (lM xs ys) else none := by
 simp only[qv,Option.bind_some,Nd,eqD]
 by_cases h:xs.length=n
 · simp only[if_pos h]
   cases lM xs ys with
   | none=>rfl
   | some r=>cases neg<;>rfl
 · simp only[if_neg h];rfl
@[go_sem] theorem TH : ((2 : Nat) : Int) = 2 := (rfl)
@[go_sem] theorem NM : ((3 : Nat) : Int) = 3 := (rfl)
def Cm(n:Nat)(p:Nat→Bool):Nat:=((List.range n).find? p).getD 0
theorem Je{gc:Bool}{dead:List Nat}{c:C}{vs:List D}{H:ai}(s:Nat→St)(n:Nat)(p:Nat→Bool)(e:Nat→Ex×St)(eN:Ex×St)
 (h0:(⟨iY dead vs,H⟩:St)=s 0)
 (hs:∀j,j<n→p j=false→eO gc dead (s j).H.length (exS aO c (s j))=some (s (j+1)))
 (he:∀j,j<n→p j=true→exS aO c (s j)=some (e j)∧(e j).1≠ .normal)
 (hN:exS aO c (s n)=some eN) (hn:eN.1≠ .normal):
 exS aO (.loop gc dead c) ⟨vs,H⟩=some (if(List.range n).any p=true then e (Cm n p)else eN):=by
 rw[cu s n p e eN h0 hs he hN hn,←Fx]
 unfold Cm
 cases hf:(List.range n).find? p with
 | none=>simp
 | some k=>simp
theorem D2{α:Type} [Dat α](l:List α)(p:α→Bool):((List.range l.length).any fun j=>p (nth l j))=l.any p:=by
 rw[Bool.eq_iff_iff,List.any_eq_true,List.any_eq_true]
 constructor
 · rintro ⟨j,hj,hp⟩
   exact⟨_,ae (List.mem_range.1 hj),hp⟩
 · rintro ⟨x,hx,hp⟩
   obtain⟨j,hj,rfl⟩:=List.getElem_of_mem hx
   exact⟨j,List.mem_range.2 hj,by rw[bA (List.getElem?_eq_getElem hj)];exact hp⟩
theorem Jf(n:Nat)(p:Nat→Bool):(List.range n).all p= !((List.range n).any fun j=> !p j):=by
 rw[List.all_eq_not_any_not]
@[go_sem] theorem WG : jP [] [] [] = some true := (rfl)
@[go_sem] theorem WH (ks : List Bool) (k : IntKind) (a b : Int) (xs ys : List T) : jP (true :: ks) (.int k a :: xs) (.int k b :: ys) = L6 (decide (a = b)) (jP ks xs ys) := by
 simp only[jP,if_true,UX]
 cases jP ks xs ys<;>rfl
@[go_sem] theorem TI (ks : List Bool) (a b : Bool) (xs ys : List T) : jP (false :: ks) (.bool a :: xs) (.bool b :: ys) = L6 (decide (a = b)) (jP ks xs ys) := by
 simp only[jP,show(a==b)=decide (a=b)from rfl]
 cases jP ks xs ys<;>rfl
@[go_sem] theorem Zs (H : ai) (ks : List Bool) (neg : Bool) (xs ys : List T) : qv H (.sc ks) neg (some (.t (.agg xs))) (some (.t (.agg ys))) = L7 H neg (jP ks xs ys) := by
 simp only[qv,Option.bind_some,Nd,eqD]
 cases jP ks xs ys with
 | none=>rfl
 | some r=>cases neg<;>rfl
end Go.Ev
