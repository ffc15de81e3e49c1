/- Parts of the proof: see the text that holds the theorem. -/
import Derived.Test.YtgedjeljhicagaaGreatZ2
set_option linter.all false
open Nat (reduceAdd reduceSub)
set_option maxRecDepth 100000
namespace Go.Ev
open Go
abbrev I(n:Int):D:= .t (.int .i64 n)
abbrev B(b:Bool):D:= .t (.bool b)
def KQ{β:Type}(call:aV):List R→List D→List D→ah→(List D→List D→ah→Option β)→Option β
 | rs,L,vs,H,K=>(evR call rs L vs H).bind fun q=>K q.1 q.2.1 q.2.2
def SR{β:Type}(call:aV)(rs:List R)(d:Option Nat)(L vs:List D)(K:List D→List D→ah→Option β)(p:D×ah):Option β:=
 KQ call rs (p.1::L) (wr vs d p.1) p.2 K
@[go_sem] theorem abp {β : Type} (call : aV) (rs : List R) (d : Option Nat) (L vs : List D) (K : List D → List D → ah → Option β) (x : D) (H : ah) :
 SR call rs d L vs K (x,H)=KQ call rs (x::L) (wr vs d x) H K:=(rfl)
@[go_sem] theorem abq {β : Type} (call : aV) (L vs : List D) (H : ah) (K : List D → List D → ah → Option β) : KQ call [] L vs H K = K L vs H := (rfl)
@[go_sem] theorem Ys {β : Type} (call : aV) (o : O) (d : Option Nat) (rs : List R) (L vs : List D) (H : ah) (K : List D → List D → ah → Option β) :
 KQ call (⟨o,d,none⟩::rs) L vs H K=(evO call (X.get vs L) H o).bind (SR call rs d L vs K):=by
 simp[KQ,evR,cG,Option.bind_assoc]
 rfl
def gate{β:Type}(c:Option D)(w:Bool)(a b:Option β):Option β:=match c with
 | some (.t (.bool x))=>if x=w then a else b
 | some (.tup [])=>b
 | _=>none
@[congr] theorem VT {β : Type} {c c' : Option D} {w : Bool} {a b : Option β} (h : True → c = c') : gate c w a b = gate c' w a b := by rw [h trivial]
@[go_sem] theorem abr {β : Type} (p : Prop) [Decidable p] (a b : Option β) : gate (some (.t (.bool (decide p)))) true a b = if p then a else b := by
 by_cases h:p<;>simp[gate,h]
@[go_sem] theorem Yt {β : Type} (p : Prop) [Decidable p] (a b : Option β) : gate (some (.t (.bool (decide p)))) false a b = if p then b else a := by
 by_cases h:p<;>simp[gate,h]
@[go_sem] theorem Yu {β : Type} (x : Bool) (a b : Option β) : gate (some (.t (.bool x))) true a b = if x = true then a else b := (rfl)
@[go_sem] theorem VU {β : Type} (x : Bool) (a b : Option β) : gate (some (.t (.bool x))) false a b = if x = true then b else a := by cases x <;> rfl
@[go_sem] theorem Yv {β : Type} (w : Bool) (a b : Option β) : gate (some (.tup [])) w a b = b := (rfl)
@[go_sem] theorem Yw {β : Type} (call : aV) (o : O) (d : Option Nat) (k : Nat) (w : Bool) (rs : List R) (L vs : List D) (H : ah) (K : List D → List D → ah → Option β) :
 KQ call (⟨o,d,some (k,w)⟩::rs) L vs H K=gate L[k]? w ((evO call (X.get vs L) H o).bind (SR call rs d L vs K)) (KQ call rs (.tup []::L) (wr vs d (.tup [])) H K):=by
 simp only[KQ,evR,cG]
 cases hL:L[k]? with
 | none=>simp[gate]
 | some c=>
   simp only[aLq]
   cases c with
   | t x=>
     cases x with
     | bool b=>cases b<;>cases w<;>simp[gate,Option.bind_assoc]<;>rfl
     | _=>simp[gate]
   | tup ds=>
     cases ds with
     | nil=>simp[gate]
     | cons=>simp[gate]
   | _=>simp[gate]
open Classical in
noncomputable def yj{β:Type}(p:Prop)(x:Option β):Option β:=if p then x else none
@[go_sem] theorem SS {β : Type} (x : Option β) : yj True x = x := by simp [yj]
noncomputable def Ep{β:Type}(call:aV)(all:List R)(n:Nat)(ps:List (Nat×Nat))(rs:List R)(L vs:List D)(H:ah)(acc:List Tr)(K:List D→List D→ah→Option β):Option β:=
 (evR call rs L vs H).bind fun q=>yj (rN call all n ((trace call rs L vs H).reverse++acc) ps) (K q.1 q.2.1 q.2.2)
noncomputable def LN{β:Type}(call:aV)(all:List R)(n:Nat)(ps:List (Nat×Nat))(rs:List R)(d:Option Nat)(L vs:List D)(H:ah)(acc:List Tr)(K:List D→List D→ah→Option β)(p:D×ah):Option β:=
 Ep call all n ps rs (p.1::L) (wr vs d p.1) p.2 ((L,vs,H)::acc) K
@[go_sem] theorem abt {β : Type} (call : aV) (all : List R) (n : Nat) (ps : List (Nat × Nat)) (rs : List R) (d : Option Nat) (L vs : List D) (H : ah) (acc : List Tr) (K : List D → List D → ah → Option β) (x : D) (H' : ah) :
 LN call all n ps rs d L vs H acc K (x,H')=Ep call all n ps rs (x::L) (wr vs d x) H' ((L,vs,H)::acc) K:=(rfl)
@[go_sem] theorem abu {β : Type} (call : aV) (all : List R) (n : Nat) (ps : List (Nat × Nat)) (L vs : List D) (H : ah) (acc : List Tr) (K : List D → List D → ah → Option β) :
 Ep call all n ps [] L vs H acc K=yj (rN call all n ((L,vs,H)::acc) ps) (K L vs H):=by
 simp[Ep,evR,trace]
theorem Er{β:Type}(call:aV)(all:List R)(n:Nat)(ps:List (Nat×Nat))(r:R)(rs:List R)(L vs:List D)(H:ah)(acc:List Tr)(K:List D→List D→ah→Option β):
 Ep call all n ps (r::rs) L vs H acc K=(cG L r.g).bind fun w=>
  if w then(evO call (X.get vs L) H r.o).bind (LN call all n ps rs r.d L vs H acc K)else Ep call all n ps rs (.tup []::L) (wr vs r.d (.tup [])) H ((L,vs,H)::acc) K:=by
 obtain hw | ⟨w,hw⟩:cG L r.g=none∨∃w,cG L r.g=some w:=by cases cG L r.g<;>simp
 · simp[Ep,evR,trace,hw]
 · cases w with
   | true=>
     obtain hq | ⟨q,hq⟩:evO call (X.get vs L) H r.o=none∨∃q,evO call (X.get vs L) H r.o=some q:=by cases evO call (X.get vs L) H r.o<;>simp
     · simp[Ep,evR,trace,hw,hq]
     · simp[Ep,evR,trace,hw,hq,LN]
   | false=>simp[Ep,evR,trace,hw]
@[go_sem] theorem Yx {β : Type} (call : aV) (all : List R) (n : Nat) (ps : List (Nat × Nat)) (o : O) (d : Option Nat) (rs : List R) (L vs : List D) (H : ah) (acc : List Tr) (K : List D → List D → ah → Option β) :
 Ep call all n ps (⟨o,d,none⟩::rs) L vs H acc K=(evO call (X.get vs L) H o).bind (LN call all n ps rs d L vs H acc K):=by
 rw[Er];simp[cG]
@[go_sem] theorem Yy {β : Type} (call : aV) (all : List R) (n : Nat) (ps : List (Nat × Nat)) (o : O) (d : Option Nat) (k : Nat) (w : Bool) (rs : List R) (L vs : List D) (H : ah) (acc : List Tr) (K : List D → List D → ah → Option β) :
 Ep call all n ps (⟨o,d,some (k,w)⟩::rs) L vs H acc K=
  gate L[k]? w ((evO call (X.get vs L) H o).bind (LN call all n ps rs d L vs H acc K)) (Ep call all n ps rs (.tup []::L) (wr vs d (.tup [])) H ((L,vs,H)::acc) K):=by
 rw[Er]
 simp only[cG]
 cases hL:L[k]? with
 | none=>simp[gate]
 | some c=>
   simp only[aLq]
   cases c with
   | t x=>
     cases x with
     | bool b=>cases b<;>cases w<;>simp[gate]
     | _=>simp[gate]
   | tup ds=>
     cases ds with
     | nil=>simp[gate]
     | cons=>simp[gate]
   | _=>simp[gate]
def yL(call:aV):Option R→Option Tr→Option Tr→Option Tr→Prop
 | some r,some s,some a,some s'=>(match r.o with
   | .al _ _=>a.2.2[s.2.2.length]?=s'.2.2[s.2.2.length]?
   | .bs xs _=>cG s.1 r.g=some false∨((bf (X.get s.2.1 s.1) xs).bind qs).isSome=true
   | o=>ui o=true∧(cG s.1 r.g=some false∨BS (evO call (X.get s.2.1 s.1) a.2.2 o)=BS (evO call (X.get s.2.1 s.1) s.2.2 o)))
 | _,_,_,_=>False
@[go_sem] theorem VV (call : aV) (all : List R) (n : Nat) (acc : List Tr) : rN call all n acc [] = True := (rfl)
@[go_sem] theorem SU (call : aV) (all : List R) (n : Nat) (acc : List Tr) (p m : Nat) (r : List (Nat × Nat)) :
 rN call all n acc ((p,m)::r)=(yL call all[p]? acc[n-p]? acc[n-m]? acc[n-(p+1)]?∧m≤n∧rN call all n acc r):=by
 simp only[rN,SQ,yL]
 try rfl
section
variable (call : aV) (d : Option Nat) (gd : Option (Nat × Bool)) (L vs L' vs' : List D) (H H' : ah) (s' : Tr)
@[go_sem] theorem abv (x : X) (n : Nat) (agg : Bool) : yL call (some ⟨.ld x n agg, d, gd⟩) (some (L, vs, H)) (some (L', vs', H')) (some s') =
 (cG L gd=some false∨BS (evO call (X.get vs L) H' (.ld x n agg))=BS (evO call (X.get vs L) H (.ld x n agg))):=by simp[yL,ui]
@[go_sem] theorem abw (x i : X) (sz : Nat) : yL call (some ⟨.ia x i sz, d, gd⟩) (some (L, vs, H)) (some (L', vs', H')) (some s') =
 (cG L gd=some false∨BS (evO call (X.get vs L) H' (.ia x i sz))=BS (evO call (X.get vs L) H (.ia x i sz))):=by simp[yL,ui]
@[go_sem] theorem abx (x : X) (lo hi : Option X) (sz : Nat) : yL call (some ⟨.sc x lo hi sz, d, gd⟩) (some (L, vs, H)) (some (L', vs', H')) (some s') =
 (cG L gd=some false∨BS (evO call (X.get vs L) H' (.sc x lo hi sz))=BS (evO call (X.get vs L) H (.sc x lo hi sz))):=by simp[yL,ui]
@[go_sem] theorem Yz (x : X) (z : T) (sz : Nat) : yL call (some ⟨.mkt x z sz, d, gd⟩) (some (L, vs, H)) (some (L', vs', H')) (some s') =
 (cG L gd=some false∨BS (evO call (X.get vs L) H' (.mkt x z sz))=BS (evO call (X.get vs L) H (.mkt x z sz))):=by simp[yL,ui]
@[go_sem] theorem aby (z : List D) (l : List (Nat × Nat)) (L2 vs2 : List D) (H2 : ah) : yL call (some ⟨.al z l, d, gd⟩) (some (L, vs, H)) (some (L', vs', H')) (some (L2, vs2, H2)) = (H'[H.length]? = H2[H.length]?) := (rfl)
@[go_sem] theorem abz (xs : List X) (sz : Nat) : yL call (some ⟨.bs xs sz, d, gd⟩) (some (L, vs, H)) (some (L', vs', H')) (some s') =
 (cG L gd=some false∨((bf (X.get vs L) xs).bind qs).isSome=true):=(rfl)
@[go_sem] theorem QV (L : List D) : cG L none = some true := (rfl)
def SV(w:Bool):Option D→Option Bool
 | some (.t (.bool b))=>some (b==w)
 | some (.tup [])=>some false
 | _=>none
@[go_sem] theorem VW (w b : Bool) : SV w (some (.t (.bool b))) = some (b == w) := (rfl)
@[go_sem] theorem YA (w : Bool) : SV w (some (.tup [])) = some false := (rfl)
@[go_sem] theorem QW (L : List D) (k : Nat) (w : Bool) : cG L (some (k, w)) = SV w L[k]? := by
 simp only[cG]
 cases L[k]? with
 | none=>rfl
 | some c=>cases c with
   | t x=>cases x<;>rfl
   | tup ds=>cases ds<;>rfl
   | _=>rfl
@[go_sem] theorem YB (x : D) : BS (some (x, H)) = some x := (rfl)
attribute [go_sem] beq_true beq_false or_true true_or or_self
end
theorem Io(call:aV)(rs:List R)(vs:List D)(H:ah):KP call rs [] vs H=evR call rs [] vs H:=by
 simp[KP,rN]
def adO(L vs:List D)(H:ah):Option (Ex×St):=some (.normal,⟨vs,H⟩)
noncomputable def adP(call:aV)(k:Nat)(a b:C)(L vs:List D)(H:ah):Option (Ex×St):=hX L[k]? (exS call a ⟨vs,H⟩) (exS call b ⟨vs,H⟩)
@[go_sem] theorem adQ (L vs : List D) (H : ah) : adO L vs H = some (.normal, ⟨vs, H⟩) := (rfl)
@[go_sem] theorem adR (call : aV) (k : Nat) (a b : C) (L vs : List D) (H : ah) : adP call k a b L vs H = hX L[k]? (exS call a ⟨vs, H⟩) (exS call b ⟨vs, H⟩) := (rfl)
def andThen(x:Option (Ex×St))(k:St→Option (Ex×St)):Option (Ex×St):=x.bind fun p=>iu p k
@[go_sem] theorem N9 (st : St) (k : St → Option (Ex × St)) : andThen (some (.normal, st)) k = k st := (rfl)
@[go_sem] theorem SW (st : St) (k : St → Option (Ex × St)) : andThen (some (.ret, st)) k = some (.ret, st) := (rfl)
@[go_sem] theorem QX (i : Nat) (st : St) (k : St → Option (Ex × St)) : andThen (some (.exit i, st)) k = some (.exit i, st) := (rfl)
@[go_sem] theorem QY (k : St → Option (Ex × St)) : andThen none k = none := (rfl)
@[go_sem] theorem andThen_ite (c : Prop) [Decidable c] (a b : Option (Ex × St)) (k : St → Option (Ex × St)) : andThen (if c then a else b) k = if c then andThen a k else andThen b k := by
 split<;>rfl
@[go_sem] theorem abA (call : aV) (st : St) : exS call .skip st = some (.normal, st) := (rfl)
@[go_sem] theorem adS (call : aV) (rs : List R) (vs : List D) (H : ah) : exS call (.reg rs []) ⟨vs, H⟩ = KQ call rs [] vs H adO := by
 simp only[exS,Io,KQ]
 cases evR call rs [] vs H<;>rfl
@[go_sem] theorem abB (call : aV) (rs : List R) (p : Nat × Nat) (ps : List (Nat × Nat)) (vs : List D) (H : ah) :
 exS call (.reg rs (p::ps)) ⟨vs,H⟩=Ep call rs rs.length (p::ps) rs [] vs H [] adO:=by
 simp only[exS,KP,Ep,List.append_nil]
 by_cases h:rN call rs rs.length (trace call rs [] vs H).reverse (p::ps)
 · rw[if_pos h]
   simp only[yj,if_pos h]
   cases evR call rs [] vs H<;>rfl
 · rw[if_neg h]
   simp only[yj,if_neg h]
   cases evR call rs [] vs H<;>rfl
@[go_sem] theorem adT (call : aV) (a b : C) (st : St) : exS call (.seq a b) st = andThen (exS call a st) (exS call b) := (rfl)
@[go_sem] theorem adU (call : aV) (rs : List R) (k : Nat) (a b : C) (vs : List D) (H : ah) : exS call (.ite rs [] k a b) ⟨vs, H⟩ = KQ call rs [] vs H (adP call k a b) := by
 simp only[exS,Io,KQ]
 cases evR call rs [] vs H<;>rfl
@[go_sem] theorem abC (call : aV) (rs : List R) (p : Nat × Nat) (ps : List (Nat × Nat)) (k : Nat) (a b : C) (vs : List D) (H : ah) :
 exS call (.ite rs (p::ps) k a b) ⟨vs,H⟩=Ep call rs rs.length (p::ps) rs [] vs H [] (adP call k a b):=by
 simp only[exS,KP,Ep,List.append_nil]
 by_cases h:rN call rs rs.length (trace call rs [] vs H).reverse (p::ps)
 · rw[if_pos h]
   simp only[yj,if_pos h]
   cases evR call rs [] vs H<;>rfl
 · rw[if_neg h]
   simp only[yj,if_neg h]
   cases evR call rs [] vs H<;>rfl
@[go_sem] theorem adV (call : aV) (rs : List R) (ps : List (Nat × Nat)) (k : Nat) (a b c : C) (st : St) : exS call (.its rs ps k a b c) st = andThen (exS call (.ite rs ps k a b) st) (exS call c) := (rfl)
@[go_sem] theorem adW (call : aV) (rs : List R) (ps : List (Nat × Nat)) (k : Nat) (a b c : C) (st : St) : exS call (.itk rs ps k a b c) st = exS call (.ite rs ps k (.seq a c) (.seq b c)) st := (rfl)
@[go_sem] theorem adX (call : aV) (j : Nat) (a b : C) (vs : List D) (H : ah) : exS call (.itv j a b) ⟨vs, H⟩ = hX vs[j]? (exS call a ⟨vs, H⟩) (exS call b ⟨vs, H⟩) := (rfl)
@[go_sem] theorem abD (call : aV) (id : Nat) (st : St) : exS call (.exit id) st = some (.exit id, st) := (rfl)
@[go_sem] theorem adY (call : aV) (st : St) : exS call .ret st = some (.ret, st) := (rfl)
@[go_sem] theorem abE (call : aV) (st : St) : exS call .fail st = none := (rfl)
@[go_sem] theorem adZ (call : aV) (x p f : Nat) (r1 : List R) (p1 : List (Nat × Nat)) (r2 : List R) (p2 : List (Nat × Nat)) (vs : List D) (H : ah) : exS call (.rng x p f r1 p1 r2 p2) ⟨vs, H⟩ = (KM (stepG (KP call) vs p r1 p1 r2 p2) (N7 f vs[x]?) H).map fun H => (.normal, ⟨vs, H⟩) := (rfl)
@[go_sem] theorem ad0 (call : aV) (v : Bool) (c : C) (st : St) : exS call (.cnd v c) st = exS call c st := (rfl)
def Ag(id:Nat)(x:Option (Ex×St)):Option (Ex×St):=x.map (leave id)
@[go_sem] theorem ad1 (call : aV) (id : Nat) (c : C) (st : St) : exS call (.blk id c) st = Ag id (exS call c st) := (rfl)
@[go_sem] theorem QZ (id : Nat) (st : St) : Ag id (some (.normal, st)) = some (.normal, st) := by simp [Ag, leave]
@[go_sem] theorem YC (id : Nat) (st : St) : Ag id (some (.ret, st)) = some (.ret, st) := by simp [Ag, leave]
@[go_sem] theorem VX (id i : Nat) (st : St) : Ag id (some (.exit i, st)) = if i = id then some (.normal, st) else some (.exit i, st) := by
 simp only[Ag,leave,aLw,Ex.exit.injEq]
 split<;>rfl
@[go_sem] theorem VY (id : Nat) : Ag id none = none := (rfl)
@[go_sem] theorem YD (id : Nat) (c : Prop) [Decidable c] (a b : Option (Ex × St)) : Ag id (if c then a else b) = if c then Ag id a else Ag id b := by
 split<;>rfl
@[congr] theorem SX {c c' : Option D} {a b : Option (Ex × St)} (h : True → c = c') : hX c a b = hX c' a b := by rw [h trivial]
@[go_sem] theorem YE (p : Prop) [Decidable p] (a b : Option (Ex × St)) : hX (some (.t (.bool (decide p)))) a b = if p then a else b := by
 by_cases h:p<;>simp[hX,h]
@[go_sem] theorem VZ (p : Prop) [Decidable p] (a b : Option (Ex × St)) : hX (some (.t (.bool (!decide p)))) a b = if p then b else a := by
 by_cases h:p<;>simp[hX,h]
@[go_sem] theorem abF (a : Option (Ex × St)) : hX (some .ub) a a = a := by simp [hX]
@[go_sem] theorem V0 (x : Bool) (a b : Option (Ex × St)) : hX (some (.t (.bool x))) a b = if x = true then a else b := (rfl)
def dV(gc:Bool)(dead:List Nat)(k:Nat)(x:Option (Ex×St)):Option St:=x.bind fun p=>match p.1 with
 | .normal=>tidy gc dead k p.2
 | _=>none
@[go_sem] theorem OW (gc : Bool) (dead : List Nat) (k : Nat) (st : St) : dV gc dead k (some (.normal, st)) = tidy gc dead k st := (rfl)
@[go_sem] theorem V1 (gc : Bool) (dead : List Nat) (k : Nat) (c : Prop) [Decidable c] (a b : Option (Ex × St)) : dV gc dead k (if c then a else b) = if c then dV gc dead k a else dV gc dead k b := by
 split<;>rfl
theorem iZ{gc:Bool}{dead:List Nat}{body:St→Option (Ex×St)}{st st2:St}(h:dV gc dead st.H.length (body st)=some st2)
 {p:Ex×St} (h2:nN gc dead body st2=some p):nN gc dead body st=some p:=by
 unfold dV at h
 obtain⟨⟨e,st1⟩,hq,h⟩:=aLa.1 h
 cases e with
 | normal=>exact BQ hq h h2
 | ret=>cases h
 | exit=>cases h
theorem zd{gc:Bool}{dead:List Nat}{body:St→Option (Ex×St)}(s:Nat→St){p:Ex×St}(n:Nat)
 (h:∀j,j<n→dV gc dead (s j).H.length (body (s j))=some (s (j+1))) (he:nN gc dead body (s n)=some p):nN gc dead body (s 0)=some p:=by
 have:=yi (s:=s) n 0 (fun j _ hj=>by
  have h:=h j (by omega)
  unfold dV at h
  obtain⟨⟨e,st1⟩,hq,h⟩:=aLa.1 h
  cases e with
  | normal=>exact⟨st1,hq,h⟩
  | ret=>cases h
  | exit=>cases h) (by simpa using he)
 exact this
def abG(res:List (Nat×Option (Nat×Bool)))(k raw:Nat)(p:Ex×St):Option (D×ah):=match p.1 with
 | .exit _=>none
 | _=>(jE p.2 res).bind (finish k raw p.2.H)
@[go_sem] theorem abH (res : List (Nat × Option (Nat × Bool))) (k raw : Nat) (vs : List D) (H : ah) : abG res k raw (.ret, ⟨vs, H⟩) = (jE ⟨vs, H⟩ res).bind (finish k raw H) := (rfl)
@[go_sem] theorem SY (res : List (Nat × Option (Nat × Bool))) (k raw : Nat) (vs : List D) (H : ah) : abG res k raw (.normal, ⟨vs, H⟩) = (jE ⟨vs, H⟩ res).bind (finish k raw H) := (rfl)
theorem SZ{fs:Nat→Option Fn}{raw f:Nat}{args:List D}{H:ah}{fn:Fn}{r:D×ah}(hf:fs f=some fn)(hn:fn.aU=args.length)
 (h:(exS (oc fs) fn.body ⟨ud args fn.vars,H⟩).bind (abG fn.res H.length raw)=some r) (h0:fn.prim=[]:=by rfl):oc fs raw f args H=some r:=by
 obtain⟨p,hp,he⟩:=aLa.1 h
 exact OQ hf hn (OV _ _ _ hp) he h0
@[go_sem] theorem abI {α β : Type} (c : Prop) [Decidable c] (a b : Option α) (k : α → Option β) : (if c then a else b).bind k = if c then a.bind k else b.bind k := by
 split<;>rfl
@[go_sem] theorem ad2 {α β : Type} (c : Prop) [Decidable c] (a b : Option α) (k : α → β) : (if c then a else b).map k = if c then a.map k else b.map k := by
 split<;>rfl
theorem YF(a b:Int):(a==b)=decide (a=b):=by rw[Bool.eq_iff_iff];simp
theorem xq{n:Int}(h1: -9223372036854775808≤n)(h2:n≤9223372036854775807):IntKind.i64.wrap n=n:=by
 have e:IntKind.i64.wrap n=if n % 18446744073709551616≥9223372036854775808 then n % 18446744073709551616-18446744073709551616 else n % 18446744073709551616:=by
  simp[IntKind.wrap,IntKind.signed,IntKind.bits]
 rw[e];split<;>omega
section
variable {α β : Type}
@[go_sem] theorem S0 (a : α) (f : α → Option β) : (some a).bind f = f a := (rfl)
@[go_sem] theorem V2 (a : α) (f : α → β) : (some a).map f = some (f a) := (rfl)
@[go_sem] theorem S1 (f : α → Option β) : (none : Option α).bind f = none := (rfl)
@[go_sem] theorem V3 (f : α → β) : (none : Option α).map f = none := (rfl)
@[go_sem] theorem V4 (a : α) (l : List α) (f : α → β) : (a :: l).map f = f a :: l.map f := (rfl)
@[go_sem] theorem YG (f : α → β) : ([] : List α).map f = [] := (rfl)
@[go_sem] theorem V5 (a : α) (l : List α) : (a :: l)[0]? = some a := (rfl)
@[go_sem] theorem V6 (a : α) (l : List α) (n : Nat) : (a :: l)[n + 1]? = l[n]? := (rfl)
@[go_sem] theorem S2 (a d : α) (l : List α) : (a :: l).getD 0 d = a := (rfl)
@[go_sem] theorem S3 (a d : α) (l : List α) (n : Nat) : (a :: l).getD (n + 1) d = l.getD n d := (rfl)
@[go_sem] theorem V7 (d : α) (n : Nat) : ([] : List α).getD n d = d := by simp
@[go_sem] theorem V8 (a b : α) (l : List α) : (a :: l).set 0 b = b :: l := (rfl)
@[go_sem] theorem V9 (a b : α) (l : List α) (n : Nat) : (a :: l).set (n + 1) b = a :: l.set n b := (rfl)
@[go_sem] theorem OX (a : α) (l m : List α) : (a :: l) ++ m = a :: (l ++ m) := (rfl)
@[go_sem] theorem Q0 (l : List α) : [] ++ l = l := (rfl)
@[go_sem] theorem Q1 (l : List α) : l ++ [] = l := by simp
@[go_sem] theorem Oa (a : α) (l : List α) (f : α → List β) : (a :: l).flatMap f = f a ++ l.flatMap f := by simp
@[go_sem] theorem OY (f : α → List β) : ([] : List α).flatMap f = [] := by simp
@[go_sem] theorem Q2 : ([] : List α).length = 0 := (rfl)
@[go_sem] theorem OZ (a : α) (l : List α) : (a :: l).length = l.length + 1 := (rfl)
@[go_sem] theorem Q3 (l : List α) (f : α → β) : (l.map f).length = l.length := by simp
@[go_sem] theorem LO (l m : List α) : (l ++ m).length = l.length + m.length := by simp
@[go_sem] theorem Ip (n : Nat) (a : α) : (List.replicate n a).length = n := by simp
@[go_sem] theorem Q4 (l : List α) (i : Nat) (a : α) : (l.set i a).length = l.length := by simp
@[go_sem] theorem S4 (l : List α) : l.drop 0 = l := (rfl)
@[go_sem] theorem S5 (a : α) (l : List α) (n : Nat) : (a :: l).drop (n + 1) = l.drop n := (rfl)
@[go_sem] theorem Wb (n : Nat) : ([] : List α).drop n = [] := by simp
@[go_sem] theorem S6 (l : List α) : l.take 0 = [] := (rfl)
@[go_sem] theorem S7 (a : α) (l : List α) (n : Nat) : (a :: l).take (n + 1) = a :: l.take n := (rfl)
@[go_sem] theorem Wc (n : Nat) : ([] : List α).take n = [] := by simp
@[go_sem] theorem S8 (a b : α) : (bif true then a else b) = a := (rfl)
@[go_sem] theorem Q5 (a b : α) : (bif false then a else b) = b := (rfl)
@[go_sem] theorem Wd (n : Nat) : n + 0 = n := (rfl)
@[go_sem] theorem We (n : Nat) : 0 + n = n := by simp
@[go_sem] theorem Wf (a b : α) : (some a = some b) = (a = b) := by simp
@[go_sem] theorem abJ (a : α) : (some a).isSome = true := (rfl)
end
attribute [go_sem] decide_true decide_false if_true if_false aLt Bool.true_eq_false decide_eq_true_eq decide_eq_false_iff_not aLr Bool.or_eq_true Bool.not_eq_true' Bool.not_eq_true Bool.not_eq_false
 Bool.and_true Bool.true_and Bool.and_false Bool.false_and Bool.or_true Bool.true_or Bool.or_false Bool.false_or and_true true_and and_self not_true_eq_false not_false_eq_true beq_iff_eq bne_iff_ne ne_eq
@[go_sem] theorem Wg : (!true) = false := (rfl)
@[go_sem] theorem S9 : (!false) = true := (rfl)
@[go_sem] theorem ahv (vs L : List D) (j : Nat) : X.get vs L (.v j) = vs[j]? := (rfl)
@[go_sem] theorem ahw (vs L : List D) (k : Nat) : X.get vs L (.l k) = L[k]? := (rfl)
@[go_sem] theorem ahx (vs L : List D) (d : D) : X.get vs L (.c d) = some d := (rfl)
@[go_sem] theorem ahy (vs L : List D) (n : Int) : X.get vs L (.i n) = some (I n) := (rfl)
@[go_sem] theorem ahz (vs L : List D) (x : Bool) : X.get vs L (.b x) = some (B x) := (rfl)
@[go_sem] theorem ad3 (vs : List D) (x : D) : wr vs none x = vs := (rfl)
@[go_sem] theorem ad4 (vs : List D) (s : Nat) (x : D) : wr vs (some s) x = vs.set s x := (rfl)
@[go_sem] theorem Wi (args : List D) : ud args [] = [] := (rfl)
@[go_sem] theorem Ta (args : List D) (s : Nat) (r : List Nat) : ud args (s :: r) = args.getD s .und :: ud args r := (rfl)
def ad5(H:ah)(d:D):Option (D×ah):=some (d,H)
@[go_sem] theorem ad6 (H : ah) (d : D) : ad5 H d = some (d, H) := (rfl)
def mw{α:Type}(a:α)(l:Option (List α)):Option (List α):=l.map (a:: ·)
@[go_sem] theorem Wj {α : Type} (a : α) (l : List α) : mw a (some l) = some (a :: l) := (rfl)
@[go_sem] theorem Wk {α : Type} (a : α) : mw a none = none := (rfl)
@[go_sem] theorem abK {α β : Type} (f : α → Option β) : bf f [] = some [] := (rfl)
def ags{α β:Type}(f:α→Option β)(r:List α)(y:β):Option (List β):=mw y (bf f r)
@[go_sem] theorem Tb {α β : Type} (f : α → Option β) (r : List α) (y : β) : ags f r y = mw y (bf f r) := (rfl)
@[go_sem] theorem Es {α β : Type} (f : α → Option β) (x : α) (r : List α) : bf f (x :: r) = (f x).bind (ags f r) := (rfl)
section
variable (call : aV) (get : X → Option D) (H : ah)
@[go_sem] theorem ahA (x : X) : evO call get H (.mv x) = (get x).bind (ad5 H) := by simp only [evO]; cases get x <;> rfl
def abL(c a b:Option D):Option (D×ah):=c.bind fun c=>a.bind fun a=>b.bind fun b=>(OA c a b).map fun d=>(d,H)
@[go_sem] theorem ahB (c a b : X) : evO call get H (.pk c a b) = abL H (get c) (get a) (get b) := (rfl)
@[go_sem] theorem YH (x p q : Bool) : abL H (some (.t (.bool x))) (some (.t (.bool p))) (some (.t (.bool q))) = some (.t (.bool (bif x then p else q)), H) := by cases x <;> rfl
@[go_sem] theorem YI (a b : D) : abL H (some (.t (.bool true))) (some a) (some b) = some (a, H) := (rfl)
@[go_sem] theorem Wl (a b : D) : abL H (some (.t (.bool false))) (some a) (some b) = some (b, H) := (rfl)
@[go_sem] theorem abM (x p : Bool) : (bif x then p else false) = (x && p) := by cases x <;> rfl
@[go_sem] theorem ad7 (x q : Bool) : (bif x then true else q) = (x || q) := by cases x <;> rfl
def j3(f:BinOp)(x y:Option D):Option (D×ah):=x.bind fun a=>y.bind fun b=>(BD f a b).map fun d=>(d,H)
@[go_sem] theorem agt (f : BinOp) (x y : X) : evO call get H (.bin f x y) = j3 H f (get x) (get y) := (rfl)
section
variable (k j : IntKind) (a b : Int)
@[go_sem] theorem YJ : j3 H .add (some (.t (.int k a))) (some (.t (.int k b))) = some (.t (.int k (k.wrap (a + b))), H) := by simp [j3, BD, Ga]
@[go_sem] theorem YK : j3 H .sub (some (.t (.int k a))) (some (.t (.int k b))) = some (.t (.int k (k.wrap (a - b))), H) := by simp [j3, BD, Ga]
@[go_sem] theorem YL : j3 H .mul (some (.t (.int k a))) (some (.t (.int k b))) = some (.t (.int k (k.wrap (a * b))), H) := by simp [j3, BD, Ga]
@[go_sem] theorem YM : j3 H .quo (some (.t (.int k a))) (some (.t (.int k b))) = if b = 0 then none else some (.t (.int k (k.wrap (a.tdiv b))), H) := by simp only [j3, BD, Ga]; by_cases h : b = 0 <;> simp [h]
@[go_sem] theorem YN : j3 H .rem (some (.t (.int k a))) (some (.t (.int k b))) = if b = 0 then none else some (.t (.int k (a.tmod b)), H) := by simp only [j3, BD, Ga]; by_cases h : b = 0 <;> simp [h]
@[go_sem] theorem YO : j3 H .eql (some (.t (.int k a))) (some (.t (.int k b))) = some (.t (.bool (decide (a = b))), H) := by simp [j3, BD, Ga, YF]
@[go_sem] theorem YP : j3 H .neq (some (.t (.int k a))) (some (.t (.int k b))) = some (.t (.bool (decide (¬ a = b))), H) := by simp [j3, BD, Ga, bne, YF]
@[go_sem] theorem YQ : j3 H .lss (some (.t (.int k a))) (some (.t (.int k b))) = some (.t (.bool (decide (a < b))), H) := by simp [j3, BD, Ga]
@[go_sem] theorem YR : j3 H .leq (some (.t (.int k a))) (some (.t (.int k b))) = some (.t (.bool (decide (a ≤ b))), H) := by simp [j3, BD, Ga]
@[go_sem] theorem YS : j3 H .gtr (some (.t (.int k a))) (some (.t (.int k b))) = some (.t (.bool (decide (b < a))), H) := by simp [j3, BD, Ga]
@[go_sem] theorem YT : j3 H .geq (some (.t (.int k a))) (some (.t (.int k b))) = some (.t (.bool (decide (b ≤ a))), H) := by simp [j3, BD, Ga]
@[go_sem] theorem YU (h : 0 ≤ b) : j3 H .shl (some (.t (.int k a))) (some (.t (.int j b))) = some (.t (.int k (k.wrap (a * 2 ^ min b.toNat k.bits))), H) := by simp [j3, BD, BB, Int.not_lt.2 h]
@[go_sem] theorem YV (h : 0 ≤ b) : j3 H .shr (some (.t (.int k a))) (some (.t (.int j b))) = some (.t (.int k (a.fdiv (2 ^ min b.toNat k.bits))), H) := by simp [j3, BD, BB, Int.not_lt.2 h]
@[go_sem] theorem YW : j3 H .and (some (.t (.int k a))) (some (.t (.int k b))) = some (.t (.int k (k.wrap (BitVec.ofInt k.bits a &&& BitVec.ofInt k.bits b).toNat)), H) := by simp [j3, BD, Ga]
@[go_sem] theorem abN : j3 H .or (some (.t (.int k a))) (some (.t (.int k b))) = some (.t (.int k (k.wrap (BitVec.ofInt k.bits a ||| BitVec.ofInt k.bits b).toNat)), H) := by simp [j3, BD, Ga]
@[go_sem] theorem YX : j3 H .xor (some (.t (.int k a))) (some (.t (.int k b))) = some (.t (.int k (k.wrap (BitVec.ofInt k.bits a ^^^ BitVec.ofInt k.bits b).toNat)), H) := by simp [j3, BD, Ga]
def ad8(f:UnOp)(a:D):Option (D×ah):=(unD f a).map fun d=>(d,H)
@[go_sem] theorem ahC (f : UnOp) (x : X) : evO call get H (.un f x) = (get x).bind (ad8 H f) := (rfl)
@[go_sem] theorem abO (x : Bool) : ad8 H .not (.t (.bool x)) = some (.t (.bool (!x)), H) := (rfl)
@[go_sem] theorem abP : ad8 H .neg (.t (.int k a)) = some (.t (.int k (k.wrap (0 - a))), H) := (rfl)
def agu(k:IntKind)(a:D):Option (D×ah):=(Se k a).map fun d=>(d,H)
@[go_sem] theorem ahD (x : X) : evO call get H (.cv k x) = (get x).bind (agu H k) := (rfl)
@[go_sem] theorem abQ : agu H k (.t (.int j a)) = some (.t (.int k (k.wrap a)), H) := (rfl)
end
def sj(q:EqK)(neg:Bool)(x y:Option D):Option (D×ah):=x.bind fun a=>y.bind fun b=>(QQ q neg a b).map fun d=>(d,H)
@[go_sem] theorem agv (q : EqK) (neg : Bool) (x y : X) : evO call get H (.eqk q neg x y) = sj H q neg (get x) (get y) := (rfl)
@[go_sem] theorem Wm (x y : Bool) : sj H .bool false (some (.t (.bool x))) (some (.t (.bool y))) = some (.t (.bool (x == y)), H) := (rfl)
@[go_sem] theorem Tc (x y : Bool) : sj H .bool true (some (.t (.bool x))) (some (.t (.bool y))) = some (.t (.bool (!(x == y))), H) := (rfl)
def Q6:List T→List T→Bool
 | .int _ a::xs,.int _ b::ys=>decide (a=b)&&Q6 xs ys
 | _,_=>true
def JM:Nat→List T→List T→Bool
 | 0,[],[]=>true
 | n+1,.int j _::xs,.int k _::ys=>decide (j=k)&&JM n xs ys
 | _,_,_=>false
@[go_sem] theorem YY (k j : IntKind) (a b : Int) (xs ys : List T) : Q6 (.int k a :: xs) (.int j b :: ys) = (decide (a = b) && Q6 xs ys) := (rfl)
@[go_sem] theorem abR : Q6 [] [] = true := (rfl)
@[go_sem] theorem abS : JM 0 [] [] = true := (rfl)
@[go_sem] theorem YZ (n : Nat) (k : IntKind) (a b : Int) (xs ys : List T) : JM (n + 1) (.int k a :: xs) (.int k b :: ys) = JM n xs ys := by simp [JM]
theorem Ah:∀ {n:Nat} {xs ys:List T},JM n xs ys=true→xs.length=n∧nH xs ys=some (Q6 xs ys)
 | 0,[],[],_=>⟨rfl,rfl⟩
 | 0,[],_::_,h=>by simp[JM]at h
 | 0,_::_,_,h=>by simp[JM]at h
 | n+1,[],_,h=>by simp[JM]at h
 | n+1,x::xs,[],h=>by cases x<;>simp[JM]at h
 | n+1,x::xs,y::ys,h=>by
   cases x<;>cases y<;>simp only[JM,aLr,decide_eq_true_eq,aLt]at h
   obtain⟨rfl,h⟩:=h
   obtain⟨h1,h2⟩:=Ah h
   exact⟨by simp[h1],by simp[nH,h2,Q6,YF]⟩
@[go_sem] theorem Wn (n : Nat) (xs ys : List T) (h : JM n xs ys = true) : sj H (.ints n) false (some (.t (.agg xs))) (some (.t (.agg ys))) = some (.t (.bool (Q6 xs ys)), H) := by
 obtain⟨h1,h2⟩:=Ah h;simp[sj,QQ,eqD,h1,h2]
@[go_sem] theorem Td (n : Nat) (xs ys : List T) (h : JM n xs ys = true) : sj H (.ints n) true (some (.t (.agg xs))) (some (.t (.agg ys))) = some (.t (.bool (!Q6 xs ys)), H) := by
 obtain⟨h1,h2⟩:=Ah h;simp[sj,QQ,eqD,h1,h2]
@[go_sem] theorem Y0 : sj H .sl false (some .nil) (some .nil) = some (.t (.bool true), H) := (rfl)
@[go_sem] theorem Y1 : sj H .sl false (some (.t (.sl []))) (some .nil) = some (.ub, H) := (rfl)
@[go_sem] theorem Wo : sj H .sl true (some (.t (.sl []))) (some .nil) = some (.ub, H) := (rfl)
@[go_sem] theorem Wp : sj H .sl true (some .nil) (some .nil) = some (.t (.bool false), H) := (rfl)
theorem ze(es:List T)(h:es≠[]):sj H .sl false (some (.t (.sl es))) (some .nil)=some (.t (.bool false),H):=by cases es<;>first | exact(h rfl).elim | rfl
def abT(a:D):Option (D×ah):=(abk a).map fun d=>(d,H)
@[go_sem] theorem ahE (x : X) : evO call get H (.nc x) = (get x).bind (abT H) := (rfl)
@[go_sem] theorem ad9 (id off : Nat) : abT H (.bp id off) = some (.bp id off, H) := (rfl)
@[go_sem] theorem aea (id ep n i off : Nat) : abT H (.ap id ep n i off) = some (.ap id ep n i off, H) := (rfl)
@[go_sem] theorem aeb (cs : List T) : abT H (.ep cs) = some (.ep cs, H) := (rfl)
def Wq(off:Nat)(a:D):Option (D×ah):=(Ju a off).map fun d=>(d,H)
@[go_sem] theorem ahF (x : X) (off : Nat) : evO call get H (.fa x off) = (get x).bind (Wq H off) := (rfl)
@[go_sem] theorem aec (id o off : Nat) : Wq H off (.bp id o) = some (.bp id (o + off), H) := (rfl)
@[go_sem] theorem aed (id ep n i o off : Nat) : Wq H off (.ap id ep n i o) = some (.ap id ep n i (o + off), H) := (rfl)
@[go_sem] theorem aee (cs : List T) (off : Nat) : Wq H off (.ep cs) = some (.ep (cs.drop off), H) := (rfl)
@[go_sem] theorem ahG (cs : List D) : cut cs 0 0 = some [] := by simp [cut]
@[go_sem] theorem ahH (c : D) (cs : List D) : cut (c :: cs) 0 1 = some [c] := by simp [cut]
@[go_sem] theorem ahI (c : D) (cs : List D) (n : Nat) : cut (c :: cs) 0 (n + 1) = mw c (cut cs 0 n) := by
 simp only[cut,mw];by_cases h:n≤cs.length<;>simp[h]
@[go_sem] theorem ahJ (c : D) (cs : List D) (off n : Nat) : cut (c :: cs) (off + 1) n = cut cs off n := by
 simp only[cut,List.length_cons,List.drop_succ_cons]
 by_cases h:off+n≤cs.length
 · rw[if_pos h,if_pos (by omega)]
 · rw[if_neg h,if_neg (by omega)]
@[go_sem] theorem Y4 (c : D) : fJ false [c] = some c := (rfl)
@[go_sem] theorem Y5 (cs : List D) : fJ true cs = some (tR cs) := (rfl)
def mkA(cs:List D):Option (List T)→D
 | some ts=> .t (.agg ts)
 | none=> .agg cs
@[go_sem] theorem abU (cs : List D) (ts : List T) : mkA cs (some ts) = .t (.agg ts) := (rfl)
@[go_sem] theorem abV (cs : List D) : mkA cs none = .agg cs := (rfl)
@[go_sem] theorem abW (cs : List D) : tR cs = mkA cs (qs cs) := by unfold tR; cases qs cs <;> rfl
@[go_sem] theorem abX : qs [] = some [] := (rfl)
@[go_sem] theorem agw (x : T) (r : List D) : qs (.t x :: r) = mw x (qs r) := (rfl)
@[go_sem] theorem agx (r : List D) : qs (.nil :: r) = none := (rfl)
@[go_sem] theorem abY (a b c : Nat) (r : List D) : qs (.ref a b c :: r) = none := (rfl)
@[go_sem] theorem abZ (a b c d e : Nat) (r : List D) : qs (.sub a b c d e :: r) = none := (rfl)
@[go_sem] theorem O3 (l : List T) : qs (l.map .t) = some l := by induction l with | nil => rfl | cons a l ih => simp [qs, ih]
def Y6(off n:Nat)(agg:Bool)(a:D):Option (D×ah):=(vv a off n agg).map fun d=>(d,H)
@[go_sem] theorem ahK (x : X) (off n : Nat) (agg : Bool) : evO call get H (.fl x off n agg) = (get x).bind (Y6 H off n agg) := (rfl)
def ofC(agg:Bool)(cs:Option (List D)):Option (D×ah):=(cs.bind (fJ agg)).bind (ad5 H)
@[go_sem] theorem ahL (c : D) : ofC H false (some [c]) = some (c, H) := (rfl)
@[go_sem] theorem ahM (cs : List D) : ofC H true (some cs) = some (tR cs, H) := (rfl)
@[go_sem] theorem agy (cs : List T) (off n : Nat) (agg : Bool) : Y6 H off n agg (.t (.agg cs)) = ofC H agg (cut (cs.map .t) off n) := by
 simp only[Y6,vv,D.isAgg,if_true,D.cells,T.cells,ofC];cases (cut (cs.map .t) off n).bind (fJ agg)<;>rfl
@[go_sem] theorem ab0 (cs : List D) (off n : Nat) (agg : Bool) : Y6 H off n agg (.agg cs) = ofC H agg (cut cs off n) := by
 simp only[Y6,vv,D.isAgg,if_true,D.cells,ofC];cases (cut cs off n).bind (fJ agg)<;>rfl
@[go_sem] theorem aef (n : Nat) : idx (n : Int) = some n := by simp [idx]
@[go_sem] theorem ahN : idx 0 = some 0 := (rfl)
theorem Te{i:Int}(h:0≤i):idx i=some i.toNat:=by simp[idx,h]
def Tf(sz:Nat)(x i:Option D):Option (D×ah):=x.bind fun a=>(i.bind intOf).bind fun n=>(Cr H a n sz).map fun d=>(d,H)
@[go_sem] theorem ahO (x i : X) (sz : Nat) : evO call get H (.ia x i sz) = Tf H sz (get x) (get i) := (rfl)
def O4(sz:Nat)(e:T):Option (D×ah):=if e.cells.length=sz then some (.ep e.cells,H)else none
def aeg(sz:Nat)(es:List T)(j:Nat):Option (D×ah):=es[j]?.bind (O4 H sz)
@[go_sem] theorem aeh (sz : Nat) (es : List T) (j : Nat) : aeg H sz es j = es[j]?.bind (O4 H sz) := (rfl)
@[go_sem] theorem aei (k : IntKind) (es : List T) (n : Int) (sz : Nat) : Tf H sz (some (.t (.sl es))) (some (.t (.int k n))) = (idx n).bind (aeg H sz es) := by
 simp only[Tf,aLq,intOf,Cr]
 cases idx n with
 | none=>rfl
 | some j=>
   simp only[aLq,aeg]
   cases es[j]? with
   | none=>rfl
   | some e=>simp only[aLq,O4];split<;>rfl
@[go_sem] theorem ab1 (k : IntKind) (n : Int) : O4 H 1 (.int k n) = some (.ep [.int k n], H) := (rfl)
@[go_sem] theorem Y7 (b : Bool) : O4 H 1 (.bool b) = some (.ep [.bool b], H) := (rfl)
@[go_sem] theorem aej (es : List T) : O4 H 1 (.sl es) = some (.ep [.sl es], H) := (rfl)
def o8{α:Type}:Nat→List α→Bool
 | 0,[]=>true
 | n+1,_::r=>o8 n r
 | _,_=>false
@[go_sem] theorem aek {α : Type} : o8 0 ([] : List α) = true := (rfl)
@[go_sem] theorem ael {α : Type} (n : Nat) (a : α) (l : List α) : o8 (n + 1) (a :: l) = o8 n l := (rfl)
theorem gj{α:Type}:∀ {n:Nat} {l:List α},o8 n l=true↔l.length=n
 | 0,[]=>by simp[o8]
 | 0,_::_=>by simp[o8]
 | n+1,[]=>by simp[o8]
 | n+1,_::r=>by simp only[o8,List.length_cons,Nat.add_right_cancel_iff];exact gj
@[go_sem] theorem ab2 (cs : List T) (sz : Nat) : O4 H sz (.agg cs) = if o8 sz cs = true then some (.ep cs, H) else none := by
 by_cases h:cs.length=sz
 · rw[O4,if_pos (show(T.agg cs).cells.length=sz from h),if_pos (gj.2 h)];rfl
 · rw[O4,if_neg (show ¬(T.agg cs).cells.length=sz from h),if_neg fun e=>h (gj.1 e)]
def Tg(sz id ep n j:Nat):Option Obj→Option (D×ah)
 | some (.arr sz' _ ep' es)=>if ep=ep'∧n=es.length then(if j<n∧sz'=sz then some (.ap id ep n j 0,H)else none)else none
 | _=>none
@[go_sem] theorem ab3 (k : IntKind) (id ep n : Nat) (i : Int) (sz : Nat) : Tf H sz (some (.ref id ep n)) (some (.t (.int k i))) = (idx i).bind fun j => Tg H sz id ep n j H[id]? := by
 simp only[Tf,aLq,intOf,Cr]
 cases idx i with
 | none=>rfl
 | some j=>
   simp only[aLq,eY]
   generalize H[id]?=o
   rcases o with _ | (_ | ⟨sz',pin,ep',es⟩)
   · rfl
   · rfl
   · simp only[Tg]
     by_cases h:ep=ep'∧n=es.length
     · rw[if_pos h,if_pos h,aLq];split<;>rfl
     · rw[if_neg h,if_neg h];rfl
@[go_sem] theorem Y8 (sz id ep n j sz' : Nat) (pin : Bool) (ep' : Nat) (es : List D) : Tg H sz id ep n j (some (.arr sz' pin ep' es)) =
 if ep=ep'∧n=es.length then(if j<n∧sz'=sz then some (.ap id ep n j 0,H)else none)else none:=(rfl)
def Th(sz id ep n lo hi j:Nat):Option Obj→Option (D×ah)
 | some (.arr sz' _ ep' es)=>if ep=ep'∧n=es.length then(if lo+j<hi∧hi≤n∧sz'=sz then some (.ap id ep n (lo+j) 0,H)else none)else none
 | _=>none
@[go_sem] theorem ab4 (k : IntKind) (id ep n lo hi : Nat) (i : Int) (sz : Nat) : Tf H sz (some (.sub id ep n lo hi)) (some (.t (.int k i))) = (idx i).bind fun j => Th H sz id ep n lo hi j H[id]? := by
 simp only[Tf,aLq,intOf,Cr]
 cases idx i with
 | none=>rfl
 | some j=>
   simp only[aLq,eY]
   generalize H[id]?=o
   rcases o with _ | (_ | ⟨sz',pin,ep',es⟩)
   · rfl
   · rfl
   · simp only[Th]
     by_cases h:ep=ep'∧n=es.length
     · rw[if_pos h,if_pos h,aLq];split<;>rfl
     · rw[if_neg h,if_neg h];rfl
@[go_sem] theorem Y9 (sz id ep n lo hi j sz' : Nat) (pin : Bool) (ep' : Nat) (es : List D) : Th H sz id ep n lo hi j (some (.arr sz' pin ep' es)) =
 if ep=ep'∧n=es.length then(if lo+j<hi∧hi≤n∧sz'=sz then some (.ap id ep n (lo+j) 0,H)else none)else none:=(rfl)
def aem(len sz:Nat)(agg:Bool)(x i:Option D):Option (D×ah):=x.bind fun a=>(i.bind intOf).bind fun n=>(idx n).bind fun j=>(BE a j len sz agg).map fun d=>(d,H)
def Za(len sz:Nat)(agg:Bool)(a:D)(j:Nat):Option (D×ah):=(BE a j len sz agg).map fun d=>(d,H)
@[go_sem] theorem ahP (x i : X) (len sz : Nat) (agg : Bool) : evO call get H (.ix x i len sz agg) = aem H len sz agg (get x) (get i) := (rfl)
@[go_sem] theorem aen (len sz : Nat) (agg : Bool) (a : D) (k : IntKind) (n : Int) : aem H len sz agg (some a) (some (.t (.int k n))) = (idx n).bind (Za H len sz agg a) := by
 simp only[aem,aLq,intOf];cases idx n<;>rfl
@[go_sem] theorem ab5 (len j : Nat) (ts : List T) (h : j < len) (hs : (ts.all fun t => t.scalar) = true) : Za H len 1 false (.t (.agg ts)) j = (ts[j]?).map fun t => (.t t, H) := by
 have h0:len≠0:=by omega
 unfold Za BE
 rw[if_neg h0,if_pos h]
 unfold vv cut
 simp only[D.isAgg,D.cells,T.cells,if_true,Nat.mul_one,List.length_map]
 by_cases hj:j<ts.length
 · rw[if_pos (by omega),aLc hj]
   have e:((ts.map D.t).drop j).take 1=[D.t ts[j]]:=by
    rw[List.drop_eq_getElem_cons (by simpa using hj)];simp
   rw[e];rfl
 · rw[if_neg (by omega),aLm (by omega)];rfl
def Ti(len sz:Nat)(x i:Option D):Option (D×ah):=x.bind fun a=>(i.bind intOf).bind fun n=>(idx n).bind fun j=>if j<len then(Ju a (j*sz)).map fun d=>(d,H)else none
@[go_sem] theorem agz (x i : X) (len sz : Nat) : evO call get H (.iaa x i len sz) = Ti H len sz (get x) (get i) := (rfl)
def agA(len sz:Nat)(a:D)(j:Nat):Option (D×ah):=if j<len then Wq H (j*sz) a else none
@[go_sem] theorem aeo (len sz : Nat) (a : D) (j : Nat) : agA H len sz a j = if j < len then Wq H (j * sz) a else none := (rfl)
@[go_sem] theorem ab6 (len sz : Nat) (a : D) (k : IntKind) (n : Int) : Ti H len sz (some a) (some (.t (.int k n))) = (idx n).bind (agA H len sz a) := by
 simp only[Ti,aLq,intOf];cases idx n<;>rfl
def Ob(n:Nat)(agg:Bool)(a:D):Option (D×ah):=(xb H a n agg).map fun d=>(d,H)
@[go_sem] theorem ahQ (x : X) (n : Nat) (agg : Bool) : evO call get H (.ld x n agg) = (get x).bind (Ob H n agg) := (rfl)
def O5(off n:Nat)(agg:Bool):Option Obj→Option (D×ah)
 | some (.box cs)=>ofC H agg (cut cs off n)
 | _=>none
@[go_sem] theorem ab7 (off n : Nat) (agg : Bool) (cs : List D) : O5 H off n agg (some (.box cs)) = ofC H agg (cut cs off n) := (rfl)
@[go_sem] theorem aep (id off n : Nat) (agg : Bool) : Ob H n agg (.bp id off) = O5 H off n agg H[id]? := by
 simp only[Ob,xb]
 generalize H[id]?=o
 rcases o with _ | (cs | _)
 · rfl
 · simp only[O5,ofC];cases (cut cs off n).bind (fJ agg)<;>rfl
 · rfl
@[go_sem] theorem aeq (cs : List T) (n : Nat) (agg : Bool) : Ob H n agg (.ep cs) = ofC H agg (cut (cs.map .t) 0 n) := by
 simp only[Ob,xb,ofC];cases (cut _ 0 n).bind (fJ agg)<;>rfl
def ab8(off n:Nat)(agg:Bool)(e:D):Option (D×ah):=ofC H agg (cut e.cells off n)
@[go_sem] theorem aer (off n : Nat) (agg : Bool) (e : D) : ab8 H off n agg e = ofC H agg (cut e.cells off n) := (rfl)
def Tj(ep m i off n:Nat)(agg:Bool):Option Obj→Option (D×ah)
 | some (.arr _ _ ep' es)=>if ep=ep'∧m=es.length then es[i]?.bind (ab8 H off n agg)else none
 | _=>none
@[go_sem] theorem ab9 (ep m i off n : Nat) (agg : Bool) (sz : Nat) (pin : Bool) (ep' : Nat) (es : List D) :
 Tj H ep m i off n agg (some (.arr sz pin ep' es))=if ep=ep'∧m=es.length then es[i]?.bind (ab8 H off n agg)else none:=(rfl)
@[go_sem] theorem aes (id ep m i off n : Nat) (agg : Bool) : Ob H n agg (.ap id ep m i off) = Tj H ep m i off n agg H[id]? := by
 simp only[Ob,xb,eY]
 generalize H[id]?=o
 rcases o with _ | (_ | ⟨sz',pin,ep',es⟩)
 · rfl
 · rfl
 · simp only[Tj]
   by_cases h:ep=ep'∧m=es.length
   · rw[if_pos h,if_pos h,aLq]
     cases es[i]? with
     | none=>rfl
     | some e=>simp only[aLq,ab8,ofC];cases (cut e.cells off n).bind (fJ agg)<;>rfl
   · rw[if_neg h,if_neg h];rfl
@[go_sem] theorem Ws (cs : List D) : (D.agg cs).cells = cs := (rfl)
@[go_sem] theorem aca (x : T) : (D.t x).cells = x.cells.map .t := (rfl)
@[go_sem] theorem Wt : D.nil.cells = [.nil] := (rfl)
@[go_sem] theorem Zb (a b : Nat) : (D.bp a b).cells = [.bp a b] := (rfl)
@[go_sem] theorem Wu (a b c : Nat) : (D.ref a b c).cells = [.ref a b c] := (rfl)
@[go_sem] theorem Wv (a b c d e : Nat) : (D.sub a b c d e).cells = [.sub a b c d e] := (rfl)
@[go_sem] theorem Zc (f : Nat) (cs : List D) : (D.fn f cs).cells = [.fn f cs] := (rfl)
@[go_sem] theorem Tk : D.nilp.cells = [.nilp] := (rfl)
@[go_sem] theorem Ww (cs : List T) : (T.agg cs).cells = cs := (rfl)
@[go_sem] theorem Wx (k : IntKind) (n : Int) : (T.int k n).cells = [.int k n] := (rfl)
@[go_sem] theorem Tl (b : Bool) : (T.bool b).cells = [.bool b] := (rfl)
@[go_sem] theorem Wy (b : ByteArray) : (T.str b).cells = [.str b] := (rfl)
@[go_sem] theorem Zd (es : List T) : (T.sl es).cells = [.sl es] := (rfl)
def fits(n:Nat)(v:D):Bool:=decide (v.cells.length=n)&&v.jD
section
variable (n : Nat)
@[go_sem] theorem fits_int (k : IntKind) (a : Int) : fits 1 (.t (.int k a)) = true := (rfl)
@[go_sem] theorem fits_bool (b : Bool) : fits 1 (.t (.bool b)) = true := (rfl)
@[go_sem] theorem aet (es : List T) : fits 1 (.t (.sl es)) = true := (rfl)
@[go_sem] theorem acb : fits 1 .nil = true := (rfl)
@[go_sem] theorem acd (a b c : Nat) : fits 1 (.ref a b c) = true := (rfl)
@[go_sem] theorem ace (a b c d e : Nat) : fits 1 (.sub a b c d e) = true := (rfl)
@[go_sem] theorem aeu (a b : Nat) : fits 1 (.bp a b) = true := (rfl)
@[go_sem] theorem aev (f : Nat) (cs : List D) : fits 1 (.fn f cs) = true := (rfl)
@[go_sem] theorem acf (cs : List D) : fits n (.agg cs) = o8 n cs := by rw [Bool.eq_iff_iff, gj]; show (decide (cs.length = n) && true) = true ↔ _; simp
@[go_sem] theorem Ze (cs : List T) : fits n (.t (.agg cs)) = o8 n cs := by rw [Bool.eq_iff_iff, gj]; simp [fits, D.cells, T.cells, D.jD]
end
@[go_sem] theorem Tm {α : Type} (cs : List α) : bC cs 0 [] = some cs := by simp [bC]
@[go_sem] theorem Tn {α : Type} (c x : α) (cs xs : List α) : bC (c :: cs) 0 (x :: xs) = mw x (bC cs 0 xs) := by
 simp only[bC,mw];by_cases h:xs.length≤cs.length<;>simp[h]
@[go_sem] theorem To {α : Type} (c : α) (cs : List α) (off : Nat) (xs : List α) : bC (c :: cs) (off + 1) xs = mw c (bC cs off xs) := by
 simp only[bC,mw,List.length_cons]
 by_cases h:off+xs.length≤cs.length
 · rw[if_pos h,if_pos (by omega)];simp[show off+1+xs.length=(off+xs.length)+1 by omega]
 · rw[if_neg h,if_neg (by omega)];rfl
def Tp(n:Nat)(live:List (Nat×Nat))(a x:Option D):Option (D×ah):=a.bind fun p=>x.bind fun d=>(xY H p d n).bind fun H'=>(qx H' p live).map fun H''=>(.tup [],H'')
@[go_sem] theorem ahR (a x : X) (n : Nat) (live : List (Nat × Nat)) : evO call get H (.st a x n live) = Tp H n live (get a) (get x) := (rfl)
def BT(H:ah)(id:Nat)(live:List (Nat×Nat)):Option (D×ah):=(qx H (.bp id 0) live).map fun H'=>(.tup [],H')
def BU(id:Nat)(live:List (Nat×Nat))(cs:List D):Option (D×ah):=BT (H.set id (.box cs)) id live
@[go_sem] theorem Zf (id : Nat) (live : List (Nat × Nat)) (cs : List D) : BU H id live cs = BT (H.set id (.box cs)) id live := (rfl)
@[go_sem] theorem Wz (H : ah) (id : Nat) : BT H id [] = some (.tup [], H) := (rfl)
def Tq(id off:Nat)(live:List (Nat×Nat))(xs:List D):Option Obj→Option (D×ah)
 | some (.box cs)=>(bC cs off xs).bind (BU H id live)
 | _=>none
@[go_sem] theorem acg (id off : Nat) (live : List (Nat × Nat)) (xs cs : List D) : Tq H id off live xs (some (.box cs)) = (bC cs off xs).bind (BU H id live) := (rfl)
@[go_sem] theorem aew (n id off : Nat) (live : List (Nat × Nat)) (v : D) : Tp H n live (some (.bp id off)) (some v) = if fits n v = true then Tq H id off live v.cells H[id]? else none := by
 by_cases h:fits n v=true
 case neg=>
  rw[if_neg h]
  simp only[fits,aLr,decide_eq_true_eq]at h
  simp only[Tp,aLq,xY,if_neg h];rfl
 rw[if_pos h]
 simp only[fits,aLr,decide_eq_true_eq]at h
 simp only[Tp,aLq,xY,h.1,h.2,and_self,if_true]
 generalize H[id]?=o
 rcases o with _ | (cs | _)
 · rfl
 · simp only[Tq]
   cases bC cs off v.cells with
   | none=>rfl
   | some cs'=>simp only[aLw,aLq,BU,BT,qx]
 · rfl
def Et(id sz ep i:Nat)(es:List D)(agg:Bool)(cs:List D):Option (D×ah):=(fJ agg cs).bind fun e=>if e.jD then some (.tup [],H.set id (.arr sz false ep (es.set i e)))else none
def ach(id sz ep i off:Nat)(es xs:List D)(e:D):Option (D×ah):=(bC e.cells off xs).bind (Et H id sz ep i es e.isAgg)
@[go_sem] theorem aex (id sz ep i off : Nat) (es xs : List D) (e : D) : ach H id sz ep i off es xs e = (bC e.cells off xs).bind (Et H id sz ep i es e.isAgg) := (rfl)
@[go_sem] theorem Zg (cs : List D) : (D.agg cs).isAgg = true := (rfl)
@[go_sem] theorem WA (cs : List T) : (D.t (.agg cs)).isAgg = true := (rfl)
@[go_sem] theorem Zh (k : IntKind) (n : Int) : (D.t (.int k n)).isAgg = false := (rfl)
@[go_sem] theorem WB (b : Bool) : (D.t (.bool b)).isAgg = false := (rfl)
@[go_sem] theorem Zi (b : ByteArray) : (D.t (.str b)).isAgg = false := (rfl)
@[go_sem] theorem aci (es : List T) : (D.t (.sl es)).isAgg = false := (rfl)
@[go_sem] theorem Zj : D.nil.isAgg = false := (rfl)
@[go_sem] theorem Zk (a b c : Nat) : (D.ref a b c).isAgg = false := (rfl)
@[go_sem] theorem Zl (a b c d e : Nat) : (D.sub a b c d e).isAgg = false := (rfl)
@[go_sem] theorem aey (id sz ep i : Nat) (es : List D) (x : T) : Et H id sz ep i es false [.t x] = some (.tup [], H.set id (.arr sz false ep (es.set i (.t x)))) := (rfl)
@[go_sem] theorem Zm (id sz ep i : Nat) (es : List D) : Et H id sz ep i es false [.nil] = some (.tup [], H.set id (.arr sz false ep (es.set i .nil))) := (rfl)
@[go_sem] theorem Zn (id sz ep i a b c : Nat) (es : List D) : Et H id sz ep i es false [.ref a b c] = some (.tup [], H.set id (.arr sz false ep (es.set i (.ref a b c)))) := (rfl)
theorem GM(cs:List D):(tR cs).jD=true:=by unfold tR;cases qs cs<;>rfl
@[go_sem] theorem aez (id sz ep i : Nat) (es cs : List D) : Et H id sz ep i es true cs = some (.tup [], H.set id (.arr sz false ep (es.set i (tR cs)))) := by
 simp[Et,fJ,GM]
def Ts(id ep m i off:Nat)(xs:List D):Option Obj→Option (D×ah)
 | some (.arr sz pin ep' es)=>if ep=ep'∧m=es.length then(if pin then none else es[i]?.bind (ach H id sz ep i off es xs))else none
 | _=>none
@[go_sem] theorem acj (id ep m i off : Nat) (xs : List D) (sz : Nat) (pin : Bool) (ep' : Nat) (es : List D) :
 Ts H id ep m i off xs (some (.arr sz pin ep' es))=if ep=ep'∧m=es.length then(if pin=true then none else es[i]?.bind (ach H id sz ep i off es xs))else none:=(rfl)
@[go_sem] theorem aeA (n id ep m i off : Nat) (v : D) : Tp H n [] (some (.ap id ep m i off)) (some v) = if fits n v = true then Ts H id ep m i off v.cells H[id]? else none := by
 by_cases h:fits n v=true
 case neg=>
  rw[if_neg h]
  simp only[fits,aLr,decide_eq_true_eq]at h
  simp only[Tp,aLq,xY,if_neg h];rfl
 rw[if_pos h]
 simp only[fits,aLr,decide_eq_true_eq]at h
 simp only[Tp,aLq,xY,h.1,h.2,and_self,if_true,eY]
 generalize H[id]?=o
 rcases o with _ | (_ | ⟨sz',pin,ep',es⟩)
 · rfl
 · rfl
 · simp only[Ts]
   by_cases h:ep=ep'∧m=es.length
   · rw[if_pos h,if_pos h,aLq]
     cases pin with
     | true=>rfl
     | false=>
       simp only[aLt,if_false]
       cases es[i]? with
       | none=>rfl
       | some e=>
         simp only[aLq,ach]
         cases bC e.cells off v.cells with
         | none=>rfl
         | some cs'=>
           simp only[aLq,Et]
           cases fJ e.isAgg cs' with
           | none=>rfl
           | some e'=>
             simp only[aLq]
             by_cases h3:e'.jD=true
             · rw[if_pos h3,if_pos h3,h.1];rfl
             · rw[if_neg h3,if_neg h3];rfl
   · rw[if_neg h,if_neg h];rfl
def Tt(zero:List D)(ps:List (Nat×Nat×D)):Option (D×ah):=(vt zero ps).map fun cs=>(tR cs,H)
@[go_sem] theorem ahS (zero : List D) (parts : List (Nat × Nat × X)) : evO call get H (.bd zero parts) = (nK get parts).bind (Tt H zero) := (rfl)
@[go_sem] theorem Q7 : nK get [] = some [] := (rfl)
def Zo(off n:Nat)(r:List (Nat×Nat×X))(d:D):Option (List (Nat×Nat×D)):=mw (off,n,d) (nK get r)
@[go_sem] theorem ack (off n : Nat) (r : List (Nat × Nat × X)) (d : D) : Zo get off n r d = mw (off, n, d) (nK get r) := (rfl)
@[go_sem] theorem O6 (off n : Nat) (x : X) (r : List (Nat × Nat × X)) : nK get ((off, n, x) :: r) = (get x).bind (Zo get off n r) := (rfl)
@[go_sem] theorem acm (zero : List D) : Tt H zero [] = some (tR zero, H) := (rfl)
def bdC(r:List (Nat×Nat×D))(z:List D):Option (D×ah):=Tt H z r
@[go_sem] theorem agB (r : List (Nat × Nat × D)) (z : List D) : bdC H r z = Tt H z r := (rfl)
@[go_sem] theorem Zp (zero : List D) (off n : Nat) (x : D) (r : List (Nat × Nat × D)) : Tt H zero ((off, n, x) :: r) = if fits n x = true then (bC zero off x.cells).bind (bdC H r) else none := by
 by_cases h:fits n x=true
 case neg=>
  rw[if_neg h]
  have h2:(x.jD&&x.cells.length==n)=false:=by rw[← Bool.not_eq_true,Bool.and_comm];simpa [fits]using h
  simp only[Tt,vt,h2];rfl
 rw[if_pos h]
 simp only[fits,aLr,decide_eq_true_eq]at h
 simp only[Tt,vt,h.1,h.2,beq_self_eq_true,Bool.and_self,if_true]
 cases bC zero off x.cells<;>rfl
def cK(n:Nat):List T→Bool
 | []=>true
 | x::r=>o8 n x.cells&&cK n r
@[go_sem] theorem Q8 (n : Nat) : cK n [] = true := (rfl)
@[go_sem] theorem vU (n : Nat) (x : T) (r : List T) : cK n (x :: r) = (o8 n x.cells && cK n r) := (rfl)
def BW(sz:Nat)(ds:List D):Option (D×ah):=if ds.all (fun d=>d.cells.length==sz)then(bf (frz H depth) ds).map fun ts=>(.t (.sl ts),pins H (ds.flatMap (fm H depth)))else none
@[go_sem] theorem ahT (xs : List X) (sz : Nat) : evO call get H (.bs xs sz) = (bf get xs).bind (BW H sz) := (rfl)
theorem Zq(sz:Nat)(ds:List D)(ts:List T)(h:qs ds=some ts)(hc:cK sz ts=true):BW H sz ds=some (.t (.sl ts),H):=by
 have key:∀(ds:List D) (ts:List T),qs ds=some ts→cK sz ts=true→ds.all (fun d=>d.cells.length==sz)=true∧bf (frz H depth) ds=some ts∧ds.flatMap (fm H depth)=[]:=by
  intro ds
  induction ds with
  | nil=>intro ts h hc;simp[qs]at h;subst h;simp[bf]
  | cons d ds ih=>
    intro ts h hc
    cases d with
    | t x=>
      simp only[qs,aLb]at h
      obtain⟨r,hr,rfl⟩:=h
      simp only[cK,aLr,gj]at hc
      obtain⟨h1,h2,h3⟩:=ih r hr hc.2
      refine⟨by rw[List.all_cons,h1,Bool.and_true];simp[D.cells,hc.1],by simp[bf,frz,h2],by rw[List.flatMap_cons,h3];simp[fm]⟩
    | _=>simp[qs]at h
 obtain⟨h1,h2,h3⟩:=key ds ts h hc
 simp[BW,h1,h2,h3,pins]
theorem sk(sz:Nat)(ts:List T):BW H sz (ts.map D.t)=if cK sz ts=true then some (.t (.sl ts),H)else none:=by
 by_cases h:cK sz ts=true
 · rw[if_pos h];exact Zq H sz _ ts (O3 ts) h
 · rw[if_neg h]
   have:(ts.map D.t).all (fun d=>d.cells.length==sz)=false:=by
    rw[← Bool.not_eq_true];intro ha;apply h
    clear h
    induction ts with
    | nil=>rfl
    | cons a r ih=>
      simp only[List.map_cons,List.all_cons,aLr,beq_iff_eq]at ha
      simp only[cK,aLr,gj]
      exact⟨by simpa [D.cells]using ha.1,ih ha.2⟩
   simp only[BW,this];rfl
@[go_sem] theorem agC (sz : Nat) : BW H sz [] = some (.t (.sl []), H) := (rfl)
@[go_sem] theorem agD (sz : Nat) (a : T) : BW H sz [.t a] = if cK sz [a] = true then some (.t (.sl [a]), H) else none := sk H sz [a]
@[go_sem] theorem agE (sz : Nat) (a b : T) : BW H sz [.t a, .t b] = if cK sz [a, b] = true then some (.t (.sl [a, b]), H) else none := sk H sz [a, b]
@[go_sem] theorem agF (sz : Nat) (a b c : T) : BW H sz [.t a, .t b, .t c] = if cK sz [a, b, c] = true then some (.t (.sl [a, b, c]), H) else none := sk H sz [a, b, c]
@[go_sem] theorem agG (sz : Nat) (a b c d : T) : BW H sz [.t a, .t b, .t c, .t d] = if cK sz [a, b, c, d] = true then some (.t (.sl [a, b, c, d]), H) else none := sk H sz [a, b, c, d]
@[go_sem] theorem agH (sz : Nat) (a b c d e : T) : BW H sz [.t a, .t b, .t c, .t d, .t e] = if cK sz [a, b, c, d, e] = true then some (.t (.sl [a, b, c, d, e]), H) else none := sk H sz [a, b, c, d, e]
def Zr(a:D):Option (D×ah):=(abj a).map fun(n:Nat)=>(D.t (.int .i64 (n:Int)),H)
@[go_sem] theorem ahU (x : X) : evO call get H (.ln x) = (get x).bind (Zr H) := (rfl)
@[go_sem] theorem aeB (es : List T) : Zr H (.t (.sl es)) = some (I es.length, H) := (rfl)
@[go_sem] theorem acn : Zr H .nil = some (I 0, H) := (rfl)
@[go_sem] theorem aco (id ep n : Nat) : Zr H (.ref id ep n) = some (I n, H) := (rfl)
@[go_sem] theorem acp (id ep n lo hi : Nat) : Zr H (.sub id ep n lo hi) = some (I ((hi - lo : Nat) : Int), H) := (rfl)
def Zs(ds:List D):Option (D×ah):=(XZ ds).map fun d=>(d,H)
def Zt(ds:List D):Option (D×ah):=(X0 ds).map fun d=>(d,H)
@[go_sem] theorem ahV (xs : List X) : evO call get H (.mn xs) = (bf get xs).bind (Zs H) := (rfl)
@[go_sem] theorem ahW (xs : List X) : evO call get H (.mx xs) = (bf get xs).bind (Zt H) := (rfl)
@[go_sem] theorem agI (k : IntKind) (a b : Int) : Zs H [.t (.int k a), .t (.int k b)] = some (.t (.int k (min a b)), H) := by
 simp only[Zs,XZ,A4,if_true,aLw];congr 4;omega
@[go_sem] theorem agJ (k : IntKind) (a b : Int) : Zt H [.t (.int k a), .t (.int k b)] = some (.t (.int k (max a b)), H) := by
 simp only[Zt,X0,A4,if_true,aLw];congr 4;omega
@[go_sem] theorem agK (k : IntKind) (a b c : Int) : Zs H [.t (.int k a), .t (.int k b), .t (.int k c)] = some (.t (.int k (min (min a b) c)), H) := by
 simp only[Zs,XZ,A4,if_true,aLw];congr 4;omega
@[go_sem] theorem agL (k : IntKind) (a b c : Int) : Zt H [.t (.int k a), .t (.int k b), .t (.int k c)] = some (.t (.int k (max (max a b) c)), H) := by
 simp only[Zt,X0,A4,if_true,aLw];congr 4;omega
def Eu(sz:Nat)(x:Option D)(lo hi:Option (Option Int)):Option (D×ah):=x.bind fun a=>lo.bind fun l=>hi.bind fun h=>(oP H a l h sz).map fun d=>(d,H)
@[go_sem] theorem ahX (x : X) (lo hi : Option X) (sz : Nat) : evO call get H (.sc x lo hi sz) = Eu H sz (get x) (Jv get lo) (Jv get hi) := (rfl)
def Zu:D→Option (Option Int)
 | .t (.int _ n)=>some (some n)
 | _=>none
@[go_sem] theorem acq (k : IntKind) (n : Int) : Zu (.t (.int k n)) = some (some n) := (rfl)
@[go_sem] theorem Zv : Jv get none = some none := (rfl)
@[go_sem] theorem Zw (x : X) : Jv get (some x) = (get x).bind Zu := by
 simp only[Jv];cases get x with
 | none=>rfl
 | some d=>cases d with
   | t y=>cases y<;>rfl
   | _=>rfl
def aeC(i:Nat)(a:D):Option (D×ah):=(X1 i a).map fun d=>(d,H)
@[go_sem] theorem ahY (x : X) (i : Nat) : evO call get H (.ex x i) = (get x).bind (aeC H i) := (rfl)
def exO:Option D→Option (D×ah)
 | some d=>some (d,H)
 | none=>none
@[go_sem] theorem acr (d : D) : exO H (some d) = some (d, H) := (rfl)
@[go_sem] theorem acs (i : Nat) (ds : List D) : aeC H i (.tup ds) = exO H ds[i]? := by simp only [aeC, X1, exO]; cases ds[i]? <;> rfl
def aeD(f:Nat)(ds:List D):Option (D×ah):=some (.fn f ds,H)
@[go_sem] theorem aeE (f : Nat) (ds : List D) : aeD H f ds = some (.fn f ds, H) := (rfl)
@[go_sem] theorem ahZ (f : Nat) (caps : List X) : evO call get H (.mf f caps) = (bf get caps).bind (aeD H f) := by simp only [evO, aeD]; cases bf get caps <;> rfl
@[go_sem] theorem ah0 (sz : Nat) : evO call get H (.nw sz) = some (.ref H.length 0 0, H ++ [.arr sz false 0 []]) := (rfl)
def alP(p:List D×ah):Option (D×ah):=some (.bp H.length 0,H++ .box p.1::p.2)
@[go_sem] theorem agM (cs : List D) (os : ah) : alP H (cs, os) = some (.bp H.length 0, H ++ .box cs :: os) := (rfl)
@[go_sem] theorem ah1 (zero : List D) (live : List (Nat × Nat)) : evO call get H (.al zero live) = alP H (b8 (H.length + 1) zero live) := (rfl)
@[go_sem] theorem Tu (base : Nat) (cs : List D) : b8 base cs [] = (cs, []) := (rfl)
def aeF(n:Nat)(a:D):Option (D×ah):=if a.cells.length=n∧a.jD then some (.bp H.length 0,H++[.box a.cells])else none
@[go_sem] theorem ah2 (x : X) (n : Nat) : evO call get H (.bx x n) = (get x).bind (aeF H n) := (rfl)
@[go_sem] theorem aeG (n : Nat) (a : D) : aeF H n a = if fits n a = true then some (.bp H.length 0, H ++ [.box a.cells]) else none := by
 simp[aeF,fits]
def acu(sz:Nat)(zero:D)(n:Option Nat):Option (D×ah):=n.bind fun m=>if m≤lim then some (.ref H.length 0 m,H++[.arr sz false 0 (List.replicate m zero)])else none
def mkN(sz:Nat)(zero:D):D→Option (D×ah)
 | .t (.int _ n)=>acu H sz zero (idx n)
 | _=>none
@[go_sem] theorem aeH (sz : Nat) (zero : D) (k : IntKind) (n : Int) : mkN H sz zero (.t (.int k n)) = acu H sz zero (idx n) := (rfl)
@[go_sem] theorem ah3 (len : X) (zero : D) (sz : Nat) : evO call get H (.mk len zero sz) = (get len).bind (mkN H sz zero) := by
 simp only[evO];cases get len with
 | none=>rfl
 | some d=>cases d with
   | t y=>cases y<;>rfl
   | _=>rfl
@[go_sem] theorem aeI (sz : Nat) (zero : D) (m : Nat) (h : m ≤ 4294967296) : acu H sz zero (some m) = some (.ref H.length 0 m, H ++ [.arr sz false 0 (List.replicate m zero)]) := by
 simp[acu,lim,h]
def O7(zero:T)(n:Option Nat):Option (D×ah):=n.bind fun m=>if m≤lim then some (.t (.sl (List.replicate m zero)),H)else none
def agN(zero:T):D→Option (D×ah)
 | .t (.int _ n)=>O7 H zero (idx n)
 | _=>none
@[go_sem] theorem acv (zero : T) (k : IntKind) (n : Int) : agN H zero (.t (.int k n)) = O7 H zero (idx n) := (rfl)
@[go_sem] theorem agO (len : X) (zero : T) (sz : Nat) : evO call get H (.mkt len zero sz) = (get len).bind (agN H zero) := by
 simp only[evO];cases get len with
 | none=>rfl
 | some d=>cases d with
   | t y=>cases y<;>rfl
   | _=>rfl
@[go_sem] theorem acw (zero : T) (m : Nat) (h : m ≤ 4294967296) : O7 H zero (some m) = some (.t (.sl (List.replicate m zero)), H) := by
 simp[O7,lim,h]
def O8(sz:Nat)(zero:T)(n:Option Nat):Option (D×ah):=n.bind fun m=>if m≤lim∧0<m then some (.ref H.length 0 m,H++[.arr sz false 0 (List.replicate m (.t zero))])else none
def agP(sz:Nat)(zero:T):D→Option (D×ah)
 | .t (.int _ n)=>O8 H sz zero (idx n)
 | _=>none
@[go_sem] theorem acx (sz : Nat) (zero : T) (k : IntKind) (n : Int) : agP H sz zero (.t (.int k n)) = O8 H sz zero (idx n) := (rfl)
@[go_sem] theorem agQ (len : X) (zero : T) (sz : Nat) : evO call get H (.mkn len zero sz) = (get len).bind (agP H sz zero) := by
 simp only[evO];cases get len with
 | none=>rfl
 | some d=>cases d with
   | t y=>cases y<;>rfl
   | _=>rfl
@[go_sem] theorem acy (sz : Nat) (zero : T) (m : Nat) (h : m ≤ 4294967296) (h0 : 0 < m) : O8 H sz zero (some m) = some (.ref H.length 0 m, H ++ [.arr sz false 0 (List.replicate m (.t zero))]) := by
 simp[O8,lim,h,h0]
def qF(sz:Nat)(fz:Bool)(x y:Option D):Option (D×ah):=x.bind fun a=>y.bind fun b=>n9 H a b fz sz
@[go_sem] theorem agR (x y : X) (fz : Bool) (sz : Nat) : evO call get H (.app x y fz sz) = qF H sz fz (get x) (get y) := (rfl)
def yk(sz id ep n:Nat)(ys:List D):Option Obj→Option (D×ah)
 | some (.arr sz' pin ep' es)=>if ep=ep'∧n=es.length∧sz'=sz∧n+ys.length≤lim then some (.ref id ep (n+ys.length),H.set id (.arr sz pin ep (es++ys)))else none
 | _=>none
@[go_sem] theorem Zx (sz id ep n : Nat) (ys : List D) (pin : Bool) (es : List D) :
 yk H sz id ep n ys (some (.arr sz pin ep es))=if n=es.length then(if n+ys.length≤4294967296 then some (.ref id ep (n+ys.length),H.set id (.arr sz pin ep (es++ys)))else none)else none:=by
 simp only[yk,lim]
 by_cases h1:n=es.length
 · rw[if_pos h1]
   by_cases h2:n+ys.length≤4294967296
   · rw[if_pos h2,if_pos ⟨trivial,h1,trivial,h2⟩]
   · rw[if_neg h2,if_neg fun h=>h2 h.2.2.2]
 · rw[if_neg h1,if_neg fun h=>h1 h.2.1]
theorem tF(ts:List T):bf (fun d=>(frz H depth d).map D.t) (ts.map D.t)=some (ts.map D.t):=by
 induction ts with
 | nil=>rfl
 | cons t ts ih=>simp[bf,frz,ih]
theorem BX(ts:List T):(ts.map D.t).flatMap (fm H depth)=[]:=by
 induction ts with
 | nil=>rfl
 | cons t ts ih=>rw[List.map_cons,List.flatMap_cons,ih];simp[fm,depth]
theorem Ew(sz:Nat)(fz:Bool)(x:D)(ts:List T)(h:cJ sz (ts.map D.t)=false):qF H sz fz (some x) (some (.t (.sl ts)))=none:=by
 have e1:(if fz then bf (fun d=>(frz H depth d).map D.t) (ts.map D.t)else some (ts.map D.t))=some (ts.map D.t):=by
  cases fz<;>simp[tF]
 simp only[qF,aLq,n9,elems,e1,h,aLt,if_false]
def o9(sz:Nat)(ts:List T):Bool:=cJ sz (ts.map D.t)
theorem LP(sz id ep n:Nat)(fz:Bool)(ts:List T)(h:o9 sz ts=true):qF H sz fz (some (.ref id ep n)) (some (.t (.sl ts)))=yk H sz id ep n (ts.map .t) H[id]?:=by
 have e1:(if fz then bf (fun d=>(frz H depth d).map D.t) (ts.map D.t)else some (ts.map D.t))=some (ts.map D.t):=by
  cases fz<;>simp[tF]
 have e2:(if fz then pins H ((ts.map D.t).flatMap (fm H depth))else H)=H:=by
  cases fz
  · rfl
  · simp only[if_true];rw[BX];rfl
 unfold o9 at h
 simp only[qF,aLq,n9,elems,e1,h,if_true,e2,eY]
 generalize H[id]?=o
 rcases o with _ | (_ | ⟨sz',pin,ep',es⟩)
 · rfl
 · rfl
 · simp only[yk]
   by_cases h1:ep=ep'∧n=es.length
   · rw[if_pos h1,aLq]
     by_cases h2:sz'=sz∧n+(ts.map D.t).length≤lim
     · rw[if_pos h2,if_pos ⟨h1.1,h1.2,h2⟩]
     · rw[if_neg h2,if_neg fun h=>h2 h.2.2]
   · rw[if_neg h1,if_neg fun h=>h1 ⟨h.1,h.2.1⟩];rfl
@[go_sem] theorem Zy (sz id ep n : Nat) (fz : Bool) (ts : List T) : qF H sz fz (some (.ref id ep n)) (some (.t (.sl ts))) = if o9 sz ts = true then yk H sz id ep n (ts.map .t) H[id]? else none := by
 by_cases h:o9 sz ts=true
 · rw[if_pos h,LP H sz id ep n fz ts h]
 · rw[if_neg h];exact Ew H sz fz _ ts (by simpa [o9]using h)
@[go_sem] theorem Zz (sz : Nat) (fz : Bool) (ts : List T) : qF H sz fz (some .nil) (some (.t (.sl ts))) =
 if o9 sz ts=true then(if ts.length≤4294967296 then some (.ref H.length 0 ts.length,H++[.arr sz false 0 (ts.map .t)])else none)else none:=by
 by_cases h:o9 sz ts=true
 · rw[if_pos h]
   have e1:(if fz then bf (fun d=>(frz H depth d).map D.t) (ts.map D.t)else some (ts.map D.t))=some (ts.map D.t):=by
    cases fz<;>simp[tF]
   have e2:(if fz then pins H ((ts.map D.t).flatMap (fm H depth))else H)=H:=by
    cases fz
    · rfl
    · simp only[if_true];rw[BX];rfl
   unfold o9 at h
   simp only[qF,aLq,n9,elems,e1,h,if_true,e2,lim,List.length_map]
 · rw[if_neg h];exact Ew H sz fz _ ts (by simpa [o9]using h)
@[go_sem] theorem ZA (sz : Nat) : o9 sz [] = true := (rfl)
@[go_sem] theorem WC (sz : Nat) (x : T) (r : List T) : o9 sz (x :: r) = o8 sz x.cells := by
 rw[Bool.eq_iff_iff,gj];simp[o9,cJ,D.cells]
@[go_sem] theorem ZB (l : List Int) (k : IntKind) : o9 1 (l.map (.int k)) = true := by cases l <;> rfl
@[go_sem] theorem WD (l : List Bool) : o9 1 (l.map .bool) = true := by cases l <;> rfl
@[go_sem] theorem acz (l : List (List T)) : o9 1 (l.map .sl) = true := by cases l <;> rfl
def JN(call:aV)(f raw:Nat)(keep:List Nat)(ds:List D):Option (D×ah):=vu call H f raw keep ds
@[go_sem] theorem ah4 (f raw : Nat) (keep : List Nat) (xs : List X) : evO call get H (.ca f raw keep xs) = (bf get xs).bind (JN H call f raw keep) := (rfl)
def agS(call:aV)(raw:Nat)(keep:List Nat)(x:Option D)(xs:Option (List D)):Option (D×ah):=x.bind fun
 | .fn f caps=>xs.bind fun ds=>vu call H f raw keep (ds++caps)
 | _=>none
@[go_sem] theorem ah5 (x : X) (raw : Nat) (keep : List Nat) (xs : List X) : evO call get H (.cw x raw keep xs) = agS H call raw keep (get x) (bf get xs) := (rfl)
@[go_sem] theorem aeJ (raw : Nat) (keep : List Nat) (f : Nat) (caps ds : List D) : agS H call raw keep (some (.fn f caps)) (some ds) = JN H call f raw keep (ds ++ caps) := (rfl)
def nO(H:ah):List D→Option (List T)
 | []=>some []
 | .t x::r=>mw x (nO H r)
 | .nil::r=>mw (.sl []) (nO H r)
 | _::_=>none
@[go_sem] theorem aeK : nO H [] = some [] := (rfl)
@[go_sem] theorem aeL (x : T) (r : List D) : nO H (.t x :: r) = mw x (nO H r) := (rfl)
@[go_sem] theorem ZC (r : List D) : nO H (.nil :: r) = mw (.sl []) (nO H r) := (rfl)
@[go_sem] theorem ZD (cs : List D) (r : List D) : nO H (.agg cs :: r) = none := (rfl)
@[go_sem] theorem acA (a b : Nat) (r : List D) : nO H (.bp a b :: r) = none := (rfl)
@[go_sem] theorem ZE (a b c : Nat) (r : List D) : nO H (.ref a b c :: r) = none := (rfl)
@[go_sem] theorem ZF (a b c d e : Nat) (r : List D) : nO H (.sub a b c d e :: r) = none := (rfl)
@[go_sem] theorem acB (f : Nat) (cs : List D) (r : List D) : nO H (.fn f cs :: r) = none := (rfl)
@[go_sem] theorem acC (a b c d e : Nat) (r : List D) : nO H (.ap a b c d e :: r) = none := (rfl)
@[go_sem] theorem acD (cs : List T) (r : List D) : nO H (.ep cs :: r) = none := (rfl)
@[go_sem] theorem WG (r : List D) : nO H (.nilp :: r) = none := (rfl)
@[go_sem] theorem ZG (r : List D) : nO H (.und :: r) = none := (rfl)
end
theorem uQ(H:ah):∀ {ds:List D} {ts:List T},nO H ds=some ts→∀i,qv H [] i ds=some (ts.map .t)∧cZ H [] i ds=[]
 | [],ts,h,i=>by simp[nO]at h;subst h;exact⟨rfl,rfl⟩
 | d::r,ts,h,i=>by
   cases d with
   | t x=>
     simp only[nO,mw,aLb]at h
     obtain⟨l,hl,rfl⟩:=h
     obtain⟨h1,h2⟩:=uQ H hl (i+1)
     exact⟨by simp[qv,tS,h1],by simp[cZ,fm,depth,h2]⟩
   | nil=>
     simp only[nO,mw,aLb]at h
     obtain⟨l,hl,rfl⟩:=h
     obtain⟨h1,h2⟩:=uQ H hl (i+1)
     exact⟨by simp[qv,tS,h1],by simp[cZ,fm,depth,h2]⟩
   | _=>simp[nO]at h
theorem LQ(ts:List T)(n:Nat):(ts.map D.t).flatMap (ids n)=[]:=by
 induction ts with
 | nil=>rfl
 | cons t ts ih=>rw[List.map_cons,List.flatMap_cons,ih];simp[ids]
theorem uR(f:Nat→Option Nat)(ts:List T):bf (ren f depth) (ts.map .t)=some (ts.map .t):=by
 induction ts with
 | nil=>rfl
 | cons t ts ih=>simp[bf,ren,depth]at ih ⊢;exact ih
def yM:D→Bool
 | .t _=>true
 | .tup ds=>ds.all fun | .t _=>true | _=>false
 | _=>false
theorem CL{f:Nat→Option Nat}{d:D}(h:yM d=true):ren f depth d=some d:=by
 cases d with
 | t x=>rfl
 | tup ds=>
   simp only[yM]at h
   have:bf (ren f 7) ds=some ds:=by
    induction ds with
    | nil=>rfl
    | cons d ds ih=>
      simp only[List.all_cons,aLr]at h
      cases d with
      | t x=>simp[bf,ren,ih h.2]
      | _=>simp at h
   simp[ren,depth,this]
 | _=>simp[yM]at h
def pW(H:ah)(p:D×ah):Option (D×ah):=if yM p.1&&p.2.isEmpty then some (p.1,H)else
 (ren (bO [] H.length) depth p.1).bind fun r'=>(bf (b7 (bO [] H.length)) p.2).map fun os=>(r',H++os)
@[go_sem] theorem aeM (H : ah) (x : T) : pW H (.t x, []) = some (.t x, H) := (rfl)
@[go_sem] theorem aeN (H : ah) : pW H (.tup [], []) = some (.tup [], H) := (rfl)
@[go_sem] theorem aeO (H : ah) (x y : T) : pW H (.tup [.t x, .t y], []) = some (.tup [.t x, .t y], H) := (rfl)
@[go_sem] theorem aeP (H : ah) (x y z : T) : pW H (.tup [.t x, .t y, .t z], []) = some (.tup [.t x, .t y, .t z], H) := (rfl)
@[go_sem] theorem aeQ (H : ah) (x y z u : T) : pW H (.tup [.t x, .t y, .t z, .t u], []) = some (.tup [.t x, .t y, .t z, .t u], H) := (rfl)
theorem LR(H:ah)(call:aV)(f raw:Nat)(ds:List D)(ts:List T)(h:nO H ds=some ts):
 JN H call f raw [] ds=(call raw f (ts.map .t) []).bind (pW H):=by
 obtain⟨h1,h2⟩:=uQ H h 0
 simp only[JN,vu,h1,aLq,LQ,eV,reach,jA,List.flatMap_nil,h2,pins,uR,pick,bf]
 cases hc:call raw f (ts.map .t) []with
 | none=>rfl
 | some p=>
   obtain⟨d,os⟩:=p
   simp only[aLq,List.isEmpty_nil,Bool.true_and,pW]
   by_cases h3:os=[]
   · subst h3
     simp only[List.isEmpty_nil,Bool.true_and,Bool.and_true,bf,aLw,List.length_nil,List.take_nil,du,List.drop_nil,List.append_nil]
     by_cases h4:yM d=true
     · rw[if_pos h4]
       split
       · rfl
       · rw[CL h4];rfl
     · rw[if_neg h4]
       split
       · rename_i h5
         exfalso
         apply h4
         cases d with
         | t x=>rfl
         | tup ds=>
           simp only[qu,aLx]at h5
           simp only[yM,aLx]
           intro y hy
           have:=h5 y hy
           cases y<;>simp_all [mh]
         | _=>simp[qu]at h5
       · rfl
   · have:os.isEmpty=false:=by cases os<;>simp_all
     simp only[this,Bool.false_and,Bool.and_false,if_false,aLt,List.length_nil,List.take_zero,du,List.drop_zero]
@[go_sem] theorem WH (st : St) : jE st [] = some [] := (rfl)
def agT(st:St)(r:List (Nat×Option (Nat×Bool)))(d:D):Option (List D):=mw d (jE st r)
@[go_sem] theorem aeR (vs : List D) (H : ah) (r : List (Nat × Option (Nat × Bool))) (d : D) : agT ⟨vs, H⟩ r d = mw d (jE ⟨vs, H⟩ r) := (rfl)
@[go_sem] theorem WI (vs : List D) (H : ah) (j : Nat) (r : List (Nat × Option (Nat × Bool))) : jE ⟨vs, H⟩ ((j, none) :: r) = vs[j]?.bind (agT ⟨vs, H⟩ r) := (rfl)
def aeS(st:St)(r:List (Nat×Option (Nat×Bool)))(p:D×ah):Option (List D):=mw p.1 (jE st r)
@[go_sem] theorem aeT (vs : List D) (H : ah) (r : List (Nat × Option (Nat × Bool))) (d : D) (H' : ah) : aeS ⟨vs, H⟩ r (d, H') = mw d (jE ⟨vs, H⟩ r) := (rfl)
def aeU(st:St)(n:Nat)(agg:Bool)(r:List (Nat×Option (Nat×Bool)))(p:D):Option (List D):=(Ob st.H n agg p).bind (aeS st r)
@[go_sem] theorem aeV (vs : List D) (H : ah) (n : Nat) (agg : Bool) (r : List (Nat × Option (Nat × Bool))) (p : D) : aeU ⟨vs, H⟩ n agg r p = (Ob H n agg p).bind (aeS ⟨vs, H⟩ r) := (rfl)
@[go_sem] theorem Tv (vs : List D) (H : ah) (j n : Nat) (agg : Bool) (r : List (Nat × Option (Nat × Bool))) : jE ⟨vs, H⟩ ((j, some (n, agg)) :: r) = vs[j]?.bind (aeU ⟨vs, H⟩ n agg r) := by
 simp only[jE]
 cases vs[j]? with
 | none=>rfl
 | some p=>
   simp only[aLq,aeU,Ob]
   cases xb H p n agg<;>rfl
@[go_sem] theorem ZH (H : ah) (n : Nat) (x : T) : frz H n (.t x) = some x := by cases n <;> rfl
@[go_sem] theorem aeW (H : ah) (n : Nat) : frz H n .nil = some (.sl []) := by cases n <;> rfl
@[go_sem] theorem aeX (H : ah) (n : Nat) (cs : List D) : frz H (n + 1) (.agg cs) = (bf (frz H n) cs).map .agg := (rfl)
@[go_sem] theorem JO (H : ah) (n : Nat) (ts : List T) : bf (frz H n) (ts.map .t) = some ts := by
 induction ts with
 | nil=>rfl
 | cons t ts ih=>simp[bf,ZH,ih]
def frA(H:ah)(n ep m lo hi:Nat):Option Obj→Option T
 | some (.arr _ _ ep' es)=>if ep=ep'∧m=es.length then(bf (frz H n) ((es.drop lo).take (hi-lo))).map .sl else none
 | _=>none
def frR(H:ah)(n ep m:Nat):Option Obj→Option T
 | some (.arr _ _ ep' es)=>if ep=ep'∧m=es.length then(bf (frz H n) es).map .sl else none
 | _=>none
@[go_sem] theorem aeY (H : ah) (n id ep m : Nat) : frz H (n + 1) (.ref id ep m) = frR H n ep m H[id]? := by
 simp only[frz,eY]
 generalize H[id]?=o
 rcases o with _ | (_ | ⟨sz',pin,ep',es⟩)
 · rfl
 · rfl
 · simp only[frR]
   by_cases h:ep=ep'∧m=es.length
   · rw[if_pos h,if_pos h];rfl
   · rw[if_neg h,if_neg h];rfl
@[go_sem] theorem aeZ (H : ah) (n id ep m lo hi : Nat) : frz H (n + 1) (.sub id ep m lo hi) = frA H n ep m lo hi H[id]? := by
 simp only[frz,eY]
 generalize H[id]?=o
 rcases o with _ | (_ | ⟨sz',pin,ep',es⟩)
 · rfl
 · rfl
 · simp only[frA]
   by_cases h:ep=ep'∧m=es.length
   · rw[if_pos h,if_pos h];rfl
   · rw[if_neg h,if_neg h];rfl
@[go_sem] theorem ae0 (H : ah) (n ep m sz : Nat) (pin : Bool) (es : List D) : frR H n ep m (some (.arr sz pin ep es)) = if m = es.length then (bf (frz H n) es).map .sl else none := by simp [frR]
@[go_sem] theorem ae1 (H : ah) (n ep m lo hi sz : Nat) (pin : Bool) (es : List D) : frA H n ep m lo hi (some (.arr sz pin ep es)) = if m = es.length then (bf (frz H n) ((es.drop lo).take (hi - lo))).map .sl else none := by simp [frA]
@[go_sem] theorem ZI (H : ah) (x : T) : tS H (.t x) = some (.t x) := (rfl)
@[go_sem] theorem acE (H : ah) : tS H .nil = some (.t (.sl [])) := (rfl)
@[go_sem] theorem acF (H : ah) (cs : List D) : tS H (.agg cs) = (frz H 8 (.agg cs)).map .t := (rfl)
@[go_sem] theorem acG (H : ah) (id ep n : Nat) : tS H (.ref id ep n) = (frz H 8 (.ref id ep n)).map .t := (rfl)
@[go_sem] theorem acH (H : ah) (id ep n lo hi : Nat) : tS H (.sub id ep n lo hi) = (frz H 8 (.sub id ep n lo hi)).map .t := (rfl)
@[go_sem] theorem Tw (H : ah) (id off : Nat) : tS H (.bp id off) = some (.bp id off) := (rfl)
@[go_sem] theorem ae2 (H : ah) (id ep n i off : Nat) : tS H (.ap id ep n i off) = some (.ap id ep n i off) := (rfl)
@[go_sem] theorem ae3 (H : ah) (cs : List T) : tS H (.ep cs) = some (.ep cs) := (rfl)
@[go_sem] theorem ae4 (H : ah) (f : Nat) (cs : List D) : tS H (.fn f cs) = some (.fn f cs) := (rfl)
def ltB:Nat→Nat→Bool
 | _,0=>false
 | 0,_+1=>true
 | m+1,n+1=>ltB m n
@[go_sem] theorem ah6 (m : Nat) : ltB m 0 = false := by cases m <;> rfl
@[go_sem] theorem agU (n : Nat) : ltB 0 (n + 1) = true := (rfl)
@[go_sem] theorem agV (m n : Nat) : ltB (m + 1) (n + 1) = ltB m n := (rfl)
theorem qG:∀ {m n:Nat},ltB m n=decide (m<n)
 | m,0=>by cases m<;>simp[ltB]
 | 0,n+1=>by simp[ltB]
 | m+1,n+1=>by simp[ltB,qG (m:=m) (n:=n)]
def eqB:Nat→Nat→Bool
 | 0,0=>true
 | m+1,n+1=>eqB m n
 | _,_=>false
@[go_sem] theorem agW : eqB 0 0 = true := (rfl)
@[go_sem] theorem agX (n : Nat) : eqB 0 (n + 1) = false := (rfl)
@[go_sem] theorem agY (n : Nat) : eqB (n + 1) 0 = false := (rfl)
@[go_sem] theorem agZ (m n : Nat) : eqB (m + 1) (n + 1) = eqB m n := (rfl)
theorem GN:∀ {m n:Nat},eqB m n=decide (m=n)
 | 0,0=>rfl
 | 0,n+1=>rfl
 | m+1,0=>rfl
 | m+1,n+1=>by simp[eqB,GN (m:=m) (n:=n)]
section
variable (k n : Nat)
@[go_sem] theorem ae5 (x : T) : old k n (.t x) = true := by cases n <;> rfl
@[go_sem] theorem ae6 : old k n .nil = true := by cases n <;> rfl
@[go_sem] theorem ag0 (cs : List T) : old k n (.ep cs) = true := by cases n <;> rfl
@[go_sem] theorem acI : old k n .nilp = true := by cases n <;> rfl
@[go_sem] theorem ae7 : old k n .und = true := by cases n <;> rfl
@[go_sem] theorem ZJ (id off : Nat) : old k n (.bp id off) = ltB id k := by cases n <;> simp [old, qG]
@[go_sem] theorem ag1 (id ep m i off : Nat) : old k n (.ap id ep m i off) = ltB id k := by cases n <;> simp [old, qG]
@[go_sem] theorem ae8 (id ep m : Nat) : old k n (.ref id ep m) = ltB id k := by cases n <;> simp [old, qG]
@[go_sem] theorem ae9 (id ep m lo hi : Nat) : old k n (.sub id ep m lo hi) = ltB id k := by cases n <;> simp [old, qG]
def gC(n:Nat)(cs:List D):Bool:=cs.all (old k n)
@[go_sem] theorem WJ : gC k n [] = true := (rfl)
@[go_sem] theorem GO (d : D) (r : List D) : gC k n (d :: r) = (old k n d && gC k n r) := (rfl)
@[go_sem] theorem Iq (ts : List T) : gC k n (ts.map .t) = true := by
 induction ts with
 | nil=>rfl
 | cons t ts ih=>rw[List.map_cons,GO,ae5,ih];rfl
@[go_sem] theorem WK (m : Nat) (x : T) : gC k n (List.replicate m (.t x)) = true := by
 have:List.replicate m (D.t x)=(List.replicate m x).map .t:=by simp
 rw[this,Iq]
@[go_sem] theorem WL (a b : List D) : gC k n (a ++ b) = (gC k n a && gC k n b) := by simp [gC]
@[go_sem] theorem afa (cs : List D) : old k (n + 1) (.agg cs) = gC k n cs := (rfl)
@[go_sem] theorem afb (cs : List D) : old k (n + 1) (.tup cs) = gC k n cs := (rfl)
@[go_sem] theorem ag2 (f : Nat) (cs : List D) : old k (n + 1) (.fn f cs) = gC k n cs := (rfl)
end
def gH(k:Nat):ah→Bool
 | []=>true
 | .box cs::r=>gC k 8 cs&&gH k r
 | .arr _ _ _ es::r=>gC k 8 es&&gH k r
@[go_sem] theorem Tx (k : Nat) : gH k [] = true := (rfl)
@[go_sem] theorem Ty (k : Nat) (cs : List D) (r : ah) : gH k (.box cs :: r) = (gC k 8 cs && gH k r) := (rfl)
@[go_sem] theorem Tz (k sz ep : Nat) (pin : Bool) (es : List D) (r : ah) : gH k (.arr sz pin ep es :: r) = (gC k 8 es && gH k r) := (rfl)
theorem nX(k:Nat)(H:ah):H.all (fun o=>o.ds.all (old k depth))=gH k H:=by
 induction H with
 | nil=>rfl
 | cons o r ih=>rw[List.all_cons,ih];cases o<;>rfl
def TA(d:D)(b:Bool):D:=if b then d else .und
@[go_sem] theorem WM (d : D) : TA d true = d := (rfl)
@[go_sem] theorem TC (d : D) : TA d false = .und := (rfl)
@[go_sem] theorem afc (k : Nat) (d : D) : kill k d = TA d (old k 8 d) := (rfl)
def JP(k:Nat):List D→List D
 | []=>[]
 | d::r=>kill k d::JP k r
@[go_sem] theorem ZK (k : Nat) : JP k [] = [] := (rfl)
@[go_sem] theorem WN (k : Nat) (d : D) (r : List D) : JP k (d :: r) = kill k d :: JP k r := (rfl)
theorem O9(k:Nat)(vs:List D):vs.map (kill k)=JP k vs:=by
 induction vs with
 | nil=>rfl
 | cons d r ih=>rw[List.map_cons,ih];rfl
@[go_sem] theorem acJ (k : Nat) (vs : List D) (H : ah) : Jw k ⟨vs, H⟩ = if gH k (H.take k) = true then some ⟨JP k vs, H.take k⟩ else none := by
 simp only[Jw,nX,O9]
@[go_sem] theorem LS (H : ah) (n : Nat) (x : T) : fm H n (.t x) = [] := by cases n <;> rfl
@[go_sem] theorem acK (H : ah) (n : Nat) : fm H n .nil = [] := by cases n <;> rfl
@[go_sem] theorem TD (H : ah) (n id off : Nat) : fm H n (.bp id off) = [] := by cases n <;> rfl
@[go_sem] theorem afd (H : ah) (n f : Nat) (cs : List D) : fm H n (.fn f cs) = [] := by cases n <;> rfl
@[go_sem] theorem afe (H : ah) (n : Nat) (cs : List T) : fm H n (.ep cs) = [] := by cases n <;> rfl
@[go_sem] theorem aff (H : ah) (n a b c d e : Nat) : fm H n (.ap a b c d e) = [] := by cases n <;> rfl
def qH(H:ah)(n:Nat)(cs:List D):List Nat:=cs.flatMap (fm H n)
@[go_sem] theorem ZL (H : ah) (n : Nat) : qH H n [] = [] := (rfl)
@[go_sem] theorem JQ (H : ah) (n : Nat) (d : D) (r : List D) : qH H n (d :: r) = fm H n d ++ qH H n r := (rfl)
@[go_sem] theorem afg (H : ah) (n : Nat) (ts : List T) : qH H n (ts.map .t) = [] := by
 induction ts with
 | nil=>rfl
 | cons t ts ih=>rw[List.map_cons,JQ,ih,LS];rfl
@[go_sem] theorem ZM (H : ah) (n : Nat) (a b : List D) : qH H n (a ++ b) = qH H n a ++ qH H n b := by simp [qH]
@[go_sem] theorem acL (H : ah) (n : Nat) (cs : List D) : fm H (n + 1) (.agg cs) = qH H n cs := (rfl)
def TE(H:ah)(n:Nat):Option Obj→List Nat
 | some (.arr _ _ _ es)=>qH H n es
 | _=>[]
@[go_sem] theorem ZN (H : ah) (n sz ep : Nat) (pin : Bool) (es : List D) : TE H n (some (.arr sz pin ep es)) = qH H n es := (rfl)
@[go_sem] theorem acM (H : ah) (n id ep m : Nat) : fm H (n + 1) (.ref id ep m) = id :: TE H n H[id]? := (rfl)
@[go_sem] theorem acN (H : ah) (n id ep m lo hi : Nat) : fm H (n + 1) (.sub id ep m lo hi) = id :: TE H n H[id]? := (rfl)
@[go_sem] theorem afh : rS [] = .tup [] := (rfl)
@[go_sem] theorem afi (d : D) : rS [d] = d := (rfl)
@[go_sem] theorem afj (a b : D) (r : List D) : rS (a :: b :: r) = .tup (a :: b :: r) := (rfl)
def Ey(k:Nat):List Nat→Bool
 | []=>true
 | i::r=> !ltB i k&&Ey k r
@[go_sem] theorem ZO (k : Nat) : Ey k [] = true := (rfl)
@[go_sem] theorem WO (k i : Nat) (r : List Nat) : Ey k (i :: r) = (!ltB i k && Ey k r) := (rfl)
theorem Ir(k:Nat)(l:List Nat):l.all (fun i=>decide (k≤i))=Ey k l:=by
 induction l with
 | nil=>rfl
 | cons i r ih=>
   rw[List.all_cons,ih]
   simp only[Ey,qG]
   congr 1
   rw[Bool.eq_iff_iff];simp
def acO(k raw:Nat)(H:ah)(ds rs:List D):Option (D×ah):=
 (gB H (max raw 1) (List.range k) (rs.flatMap (ids depth)++jA H (List.range k))).bind fun q=>
  if(ie H raw ds).all (fun i=> !(List.range k++q.1).contains i)then
   (bf (ren (idxOf (List.range k++q.1)) depth) rs).bind fun rs'=>
    (bf (b7 (idxOf (List.range k++q.1))) (H.take k++q.2)).map fun hs'=>(rS rs',hs')
  else none
def WQ(k raw:Nat)(H:ah)(ds rs:List D)(b:Bool):Option (D×ah):=
 if b then(if Ey k (ie H raw ds)=true then some (rS rs,H.take k)else none)else acO k raw H ds rs
@[go_sem] theorem ZP (k raw : Nat) (H : ah) (ds rs : List D) : WQ k raw H ds rs true = if Ey k (ie H raw ds) = true then some (rS rs, H.take k) else none := (rfl)
def ZQ(k raw:Nat)(H:ah)(ds rs:List D):Option (D×ah):=WQ k raw H ds rs (gC k 8 rs&&gH k (H.take k))
@[go_sem] theorem afk (k raw : Nat) (H : ah) (ds rs : List D) : ZQ k raw H ds rs = WQ k raw H ds rs (gC k 8 rs && gH k (H.take k)) := (rfl)
@[go_sem] theorem ZR (k : Nat) (H : ah) (ds : List D) : finish k 0 H ds = (bf (tS H) ds).bind (ZQ k 0 H ds) := by
 simp only[finish,if_true,nX,Ir]
 cases bf (tS H) ds with
 | none=>rfl
 | some rs=>
   simp only[aLq,ZQ,WQ]
   show(if(gC k 8 rs&&gH k (H.take k))=true then _ else _)=_
   cases (gC k 8 rs&&gH k (H.take k))<;>rfl
@[go_sem] theorem ZS (H : ah) (ds : List D) : ie H 0 ds = qH H 8 ds := (rfl)
@[go_sem] theorem ZT (vs : List D) : lk [] vs = vs := (rfl)
@[go_sem] theorem WR (i : Nat) (r : List Nat) (vs : List D) : lk (i :: r) vs = lk r (vs.set i .und) := (rfl)
@[go_sem] theorem afl (dead : List Nat) (k : Nat) (vs : List D) (H : ah) : tidy false dead k ⟨vs, H⟩ = some ⟨lk dead vs, H⟩ := (rfl)
@[go_sem] theorem afm (dead : List Nat) (k : Nat) (vs : List D) (H : ah) : tidy true dead k ⟨vs, H⟩ = Jw k ⟨lk dead vs, H⟩ := (rfl)
section
variable (H : ah) (call : aV) (f raw : Nat) (keep : List Nat) (ds : List D)
def A8(H1:ah)(n:Nat)(sel:List Nat)(p:D×ah):Option (D×ah):=
 (ren (bO sel n) depth p.1).bind fun r'=>(bf (b7 (bO sel n)) p.2).map fun os=>(r',du H1 sel (os.take sel.length)++os.drop sel.length)
def rT(H1:ah)(sel:List Nat)(p:D×ah):Option (D×ah):=
 if sel.isEmpty&&p.2.isEmpty&&qu p.1 then some (p.1,H)else A8 H1 H.length sel p
def TF(args:List D)(H1:ah)(sel:List Nat)(hs:ah):Option (D×ah):=(call raw f args hs).bind (rT H H1 sel)
def TH(args:List D)(H1:ah)(sel:List Nat)(hs:ah):Option (D×ah):=(bf (b7 (idxOf sel)) hs).bind (TF H call f raw args H1 sel)
def TI(H1:ah)(sel:List Nat)(args:List D):Option (D×ah):=(pick H1 sel).bind (TH H call f raw args H1 sel)
def TJ(args:List D)(sel:List Nat):Option (D×ah):=(bf (ren (idxOf sel) depth) args).bind (TI H call f raw (pins H (cZ H keep 0 ds)) sel)
def Ai(n:Nat)(cs:List D):List Nat:=cs.flatMap (ids n)
def TK(args:List D):Option (D×ah):=TJ H call f raw keep ds args (reach H 3 (eV [] (Ai 8 args)))
def LU:Option (D×ah):=(qv H keep 0 ds).bind (TK H call f raw keep ds)
theorem Pa:JN H call f raw keep ds=LU H call f raw keep ds:=(rfl)
@[go_sem] theorem Pb : LU H call f raw keep ds = (qv H keep 0 ds).bind (TK H call f raw keep ds) := (rfl)
@[go_sem] theorem Pc (args : List D) : TK H call f raw keep ds args = TJ H call f raw keep ds args (reach H 3 (eV [] (Ai 8 args))) := (rfl)
@[go_sem] theorem Pd (args : List D) (sel : List Nat) : TJ H call f raw keep ds args sel = (bf (ren (idxOf sel) 8) args).bind (TI H call f raw (pins H (cZ H keep 0 ds)) sel) := (rfl)
@[go_sem] theorem Pe (H1 : ah) (sel : List Nat) (args : List D) : TI H call f raw H1 sel args = (pick H1 sel).bind (TH H call f raw args H1 sel) := (rfl)
@[go_sem] theorem Pf (args : List D) (H1 : ah) (sel : List Nat) (hs : ah) : TH H call f raw args H1 sel hs = (bf (b7 (idxOf sel)) hs).bind (TF H call f raw args H1 sel) := (rfl)
@[go_sem] theorem Pg (args : List D) (H1 : ah) (sel : List Nat) (hs : ah) : TF H call f raw args H1 sel hs = (call raw f args hs).bind (rT H H1 sel) := (rfl)
def LV(H1:ah)(sel:List Nat)(r:D)(os:ah):Option (D×ah):=some (r,du H1 sel (os.take sel.length)++os.drop sel.length)
@[go_sem] theorem Ph (H1 : ah) (sel : List Nat) (r : D) (os : ah) : LV H1 sel r os = some (r, du H1 sel (os.take sel.length) ++ os.drop sel.length) := (rfl)
def Pj(H1:ah)(n:Nat)(sel:List Nat)(os:ah)(r:D):Option (D×ah):=(bf (b7 (bO sel n)) os).bind (LV H1 sel r)
@[go_sem] theorem Is (H1 : ah) (n : Nat) (sel : List Nat) (os : ah) (r : D) : Pj H1 n sel os r = (bf (b7 (bO sel n)) os).bind (LV H1 sel r) := (rfl)
@[go_sem] theorem CM (H1 : ah) (n : Nat) (sel : List Nat) (r : D) (os : ah) : A8 H1 n sel (r, os) = (ren (bO sel n) 8 r).bind (Pj H1 n sel os) := by
 simp only[A8,depth]
 cases ren (bO sel n) 8 r with
 | none=>rfl
 | some r'=>simp only[aLq,Pj];cases bf (b7 (bO sel n)) os<;>rfl
@[go_sem] theorem ZU (H1 : ah) (i : Nat) (sel : List Nat) (p : D × ah) : rT H H1 (i :: sel) p = A8 H1 H.length (i :: sel) p := (rfl)
@[go_sem] theorem acP (H1 : ah) (sel : List Nat) (r : D) (o : Obj) (os : ah) : rT H H1 sel (r, o :: os) = A8 H1 H.length sel (r, o :: os) := by
 simp[rT]
@[go_sem] theorem afn (H1 : ah) (k : IntKind) (n : Int) : rT H H1 [] (.t (.int k n), []) = some (.t (.int k n), H) := (rfl)
@[go_sem] theorem afo (H1 : ah) (b : Bool) : rT H H1 [] (.t (.bool b), []) = some (.t (.bool b), H) := (rfl)
@[go_sem] theorem acQ (H1 : ah) (es : List T) : rT H H1 [] (.t (.sl es), []) = some (.t (.sl es), H1) := by simp [rT, A8, qu, T.scalar, ren, depth, bf, du]
@[go_sem] theorem ZV (H1 : ah) (es : List T) : rT H H1 [] (.t (.agg es), []) = some (.t (.agg es), H1) := by simp [rT, A8, qu, T.scalar, ren, depth, bf, du]
@[go_sem] theorem ZW (H1 : ah) (ds : List D) : rT H H1 [] (.tup ds, []) = if ds.all mh then some (.tup ds, H) else A8 H1 H.length [] (.tup ds, []) := by
 simp[rT,qu]
def TL:Option (List T)→Option (D×ah)
 | some ts=>(call raw f (ts.map .t) []).bind (pW H)
 | none=>LU H call f raw [] ds
@[go_sem] theorem WS (ts : List T) : TL H call f raw ds (some ts) = (call raw f (ts.map .t) []).bind (pW H) := (rfl)
@[go_sem] theorem WT : TL H call f raw ds none = LU H call f raw [] ds := (rfl)
@[go_sem] theorem afp : JN H call f raw [] ds = TL H call f raw ds (nO H ds) := by
 cases h:nO H ds with
 | none=>rfl
 | some ts=>exact LR H call f raw ds ts h
@[go_sem] theorem ag3 (k : Nat) : JN H call f raw (k :: keep) ds = LU H call f raw (k :: keep) ds := (rfl)
end
section
variable (H : ah) (keep : List Nat)
@[go_sem] theorem ZX (i : Nat) : qv H keep i [] = some [] := (rfl)
def Gc(i:Nat):List Nat→Bool
 | []=>false
 | j::r=>eqB i j||Gc i r
@[go_sem] theorem acR (i : Nat) : Gc i [] = false := (rfl)
@[go_sem] theorem ZY (i j : Nat) (r : List Nat) : Gc i (j :: r) = (eqB i j || Gc i r) := (rfl)
theorem CN(i:Nat)(l:List Nat):l.contains i=Gc i l:=by
 induction l with
 | nil=>rfl
 | cons j r ih=>rw[List.contains_cons,ih];simp only[Gc,GN];rw[beq_eq_decide_nat]
where beq_eq_decide_nat {a b:Nat}:(a==b)=decide (a=b):=by rw[Bool.eq_iff_iff];simp
def afq(d:D):Bool→Option D
 | true=>some d
 | false=>tS H d
@[go_sem] theorem ag4 (d : D) : afq H d true = some d := (rfl)
@[go_sem] theorem Q9 (d : D) : afq H d false = tS H d := (rfl)
def ag5(i:Nat)(r:List D)(x:D):Option (List D):=mw x (qv H keep (i+1) r)
@[go_sem] theorem LW (i : Nat) (r : List D) (x : D) : ag5 H keep i r x = mw x (qv H keep (i + 1) r) := (rfl)
@[go_sem] theorem BZ (i : Nat) (d : D) (r : List D) : qv H keep i (d :: r) = (afq H d (Gc i keep)).bind (ag5 H keep i r) := by
 simp only[qv,CN]
 cases Gc i keep<;>rfl
@[go_sem] theorem Oc (i : Nat) : cZ H keep i [] = [] := (rfl)
def frK(l:List Nat):Bool→List Nat
 | true=>[]
 | false=>l
@[go_sem] theorem ah7 (l : List Nat) : frK l true = [] := (rfl)
@[go_sem] theorem ZZ (l : List Nat) : frK l false = l := (rfl)
@[go_sem] theorem sn (i : Nat) (d : D) (r : List D) : cZ H keep i (d :: r) = frK (fm H 8 d) (Gc i keep) ++ cZ H keep (i + 1) r := by
 simp only[cZ,CN]
 cases Gc i keep<;>rfl
@[go_sem] theorem acS (H : ah) : pins H [] = H := (rfl)
@[go_sem] theorem Z0 (H : ah) (i : Nat) (r : List Nat) : pins H (i :: r) = pins (H.modify i HX) r := (rfl)
def JR(i:Nat):Option Obj→ah
 | some (.arr sz _ ep es)=>H.set i (.arr sz true ep es)
 | _=>H
@[go_sem] theorem Z1 (i : Nat) (cs : List D) : JR H i (some (.box cs)) = H := (rfl)
@[go_sem] theorem Z2 (i sz ep : Nat) (pin : Bool) (es : List D) : JR H i (some (.arr sz pin ep es)) = H.set i (.arr sz true ep es) := (rfl)
theorem CO{α:Type}{l:List α}{i:Nat}{x:α}(h:l[i]?=some x):l.set i x=l:=by
 apply List.ext_getElem?
 intro j
 rw[List.getElem?_set]
 split
 · rename_i e;subst e
   split
   · exact h.symm
   · rename_i hl;rw[aLm (by omega)]at h;cases h
 · rfl
@[go_sem] theorem WU (i : Nat) : List.modify H i HX = JR H i H[i]? := by
 apply List.ext_getElem?
 intro j
 rw[List.getElem?_modify]
 cases h:H[i]? with
 | none=>
   simp only[JR]
   by_cases e:i=j
   · subst e;rw[h];simp
   · simp[e]
 | some o=>
   have hi:i<H.length:=(aLe.1 h).1
   cases o with
   | box cs=>
     simp only[JR]
     by_cases e:i=j
     · subst e;rw[h];simp[HX]
     · simp[e]
   | arr sz pin ep es=>
     simp only[JR]
     rw[List.getElem?_set]
     by_cases e:i=j
     · subst e;rw[h];simp[HX,hi]
     · simp[e]
section
variable (n : Nat)
@[go_sem] theorem ah8 (x : T) : ids n (.t x) = [] := by cases n <;> rfl
@[go_sem] theorem afr : ids n .nil = [] := by cases n <;> rfl
@[go_sem] theorem acT : ids n .nilp = [] := by cases n <;> rfl
@[go_sem] theorem afs : ids n .und = [] := by cases n <;> rfl
@[go_sem] theorem ag6 (cs : List T) : ids n (.ep cs) = [] := by cases n <;> rfl
@[go_sem] theorem Z3 (id off : Nat) : ids n (.bp id off) = [id] := by cases n <;> rfl
@[go_sem] theorem ag7 (id ep m i off : Nat) : ids n (.ap id ep m i off) = [id] := by cases n <;> rfl
@[go_sem] theorem afu (id ep m : Nat) : ids n (.ref id ep m) = [id] := by cases n <;> rfl
@[go_sem] theorem afv (id ep m lo hi : Nat) : ids n (.sub id ep m lo hi) = [id] := by cases n <;> rfl
@[go_sem] theorem afw (cs : List D) : ids (n + 1) (.agg cs) = Ai n cs := (rfl)
@[go_sem] theorem afx (cs : List D) : ids (n + 1) (.tup cs) = Ai n cs := (rfl)
@[go_sem] theorem Z4 (f : Nat) (cs : List D) : ids (n + 1) (.fn f cs) = Ai n cs := (rfl)
@[go_sem] theorem Pk : Ai n [] = [] := (rfl)
@[go_sem] theorem LX (d : D) (r : List D) : Ai n (d :: r) = ids n d ++ Ai n r := (rfl)
@[go_sem] theorem It (ts : List T) : Ai n (ts.map .t) = [] := LQ ts n
@[go_sem] theorem Iu (a b : List D) : Ai n (a ++ b) = Ai n a ++ Ai n b := by simp [Ai]
@[go_sem] theorem acU (m : Nat) (x : T) : Ai n (List.replicate m (.t x)) = [] := by
 have:List.replicate m (D.t x)=(List.replicate m x).map .t:=by simp
 rw[this,It]
end
def LY(sel:List Nat)(i:Nat):Bool→List Nat
 | true=>sel
 | false=>sel++[i]
@[go_sem] theorem acV (sel : List Nat) (i : Nat) : LY sel i true = sel := (rfl)
@[go_sem] theorem acW (sel : List Nat) (i : Nat) : LY sel i false = sel ++ [i] := (rfl)
@[go_sem] theorem WW (sel : List Nat) : eV sel [] = sel := (rfl)
@[go_sem] theorem TM (sel : List Nat) (i : Nat) (r : List Nat) : eV sel (i :: r) = eV (LY sel i (Gc i sel)) r := by
 simp only[eV,CN]
 cases Gc i sel<;>rfl
def Iv:Option Obj→List Nat
 | some (.box cs)=>Ai 8 cs
 | some (.arr _ _ _ es)=>Ai 8 es
 | none=>[]
@[go_sem] theorem WX (cs : List D) : Iv (some (.box cs)) = Ai 8 cs := (rfl)
@[go_sem] theorem WY (sz ep : Nat) (pin : Bool) (es : List D) : Iv (some (.arr sz pin ep es)) = Ai 8 es := (rfl)
@[go_sem] theorem Z5 : jA H [] = [] := (rfl)
@[go_sem] theorem WZ (i : Nat) (r : List Nat) : jA H (i :: r) = Iv H[i]? ++ jA H r := by
 simp only[jA,List.flatMap_cons]
 congr 1
 cases H[i]? with
 | none=>rfl
 | some o=>cases o<;>rfl
@[go_sem] theorem afy (sel : List Nat) : reach H 0 sel = sel := (rfl)
@[go_sem] theorem afz (n : Nat) (sel : List Nat) : reach H (n + 1) sel = reach H n (eV sel (jA H sel)) := (rfl)
@[go_sem] theorem acX : pick H [] = some [] := (rfl)
def Z6(r:List Nat)(o:Obj):Option ah:=mw o (pick H r)
@[go_sem] theorem Pl (r : List Nat) (o : Obj) : Z6 H r o = mw o (pick H r) := (rfl)
@[go_sem] theorem LZ (i : Nat) (r : List Nat) : pick H (i :: r) = H[i]?.bind (Z6 H r) := (rfl)
end
section
variable (f : Nat → Option Nat) (n : Nat)
@[go_sem] theorem afA (x : T) : ren f n (.t x) = some (.t x) := by cases n <;> rfl
@[go_sem] theorem afB : ren f n .nil = some .nil := by cases n <;> rfl
@[go_sem] theorem acY : ren f n .nilp = some .nilp := by cases n <;> rfl
@[go_sem] theorem afC : ren f n .und = some .und := by cases n <;> rfl
@[go_sem] theorem ag8 (cs : List T) : ren f n (.ep cs) = some (.ep cs) := by cases n <;> rfl
def ag9(off:Nat)(i:Nat):D:= .bp i off
@[go_sem] theorem afD (off i : Nat) : ag9 off i = .bp i off := (rfl)
@[go_sem] theorem Z7 (id off : Nat) : ren f n (.bp id off) = (f id).map (ag9 off) := by cases n <;> rfl
def aha(ep m i off:Nat)(j:Nat):D:= .ap j ep m i off
@[go_sem] theorem afE (ep m i off j : Nat) : aha ep m i off j = .ap j ep m i off := (rfl)
@[go_sem] theorem ahb (id ep m i off : Nat) : ren f n (.ap id ep m i off) = (f id).map (aha ep m i off) := by cases n <;> rfl
def Z8(ep m:Nat)(j:Nat):D:= .ref j ep m
@[go_sem] theorem acZ (ep m j : Nat) : Z8 ep m j = .ref j ep m := (rfl)
@[go_sem] theorem afF (id ep m : Nat) : ren f n (.ref id ep m) = (f id).map (Z8 ep m) := by cases n <;> rfl
def Z9(ep m lo hi:Nat)(j:Nat):D:= .sub j ep m lo hi
@[go_sem] theorem ac0 (ep m lo hi j : Nat) : Z9 ep m lo hi j = .sub j ep m lo hi := (rfl)
@[go_sem] theorem afG (id ep m lo hi : Nat) : ren f n (.sub id ep m lo hi) = (f id).map (Z9 ep m lo hi) := by cases n <;> rfl
@[go_sem] theorem aaa (g : Nat) (cs : List D) : ren f (n + 1) (.fn g cs) = (bf (ren f n) cs).map (.fn g) := (rfl)
@[go_sem] theorem afH (cs : List D) : ren f (n + 1) (.agg cs) = (bf (ren f n) cs).map .agg := (rfl)
@[go_sem] theorem afI (cs : List D) : ren f (n + 1) (.tup cs) = (bf (ren f n) cs).map .tup := (rfl)
@[go_sem] theorem tG (ts : List T) : bf (ren f n) (ts.map .t) = some (ts.map .t) := by
 induction ts with
 | nil=>rfl
 | cons t ts ih=>rw[List.map_cons,Es,afA,aLq,Tb,ih];rfl
@[go_sem] theorem Ra (m : Nat) (x : T) : bf (ren f n) (List.replicate m (.t x)) = some (List.replicate m (.t x)) := by
 have:List.replicate m (D.t x)=(List.replicate m x).map .t:=by simp
 rw[this,tG]
@[go_sem] theorem JS (cs : List D) : b7 f (.box cs) = (bf (ren f 8) cs).map .box := (rfl)
@[go_sem] theorem W4 (sz ep : Nat) (pin : Bool) (es : List D) : b7 f (.arr sz pin ep es) = (bf (ren f 8) es).map (.arr sz pin ep) := (rfl)
end
def W5(x:Option Nat):Bool→Option Nat
 | true=>some 0
 | false=>x.map (· +1)
@[go_sem] theorem ahc (x : Option Nat) : W5 x true = some 0 := (rfl)
@[go_sem] theorem ahd (k : Nat) : W5 (some k) false = some (k + 1) := (rfl)
@[go_sem] theorem ahe : W5 none false = none := (rfl)
@[go_sem] theorem idxOf_nil (i : Nat) : idxOf [] i = none := (rfl)
@[go_sem] theorem idxOf_cons (j i : Nat) (r : List Nat) : idxOf (j :: r) i = W5 (idxOf r i) (eqB j i) := by
 simp only[idxOf,GN]
 by_cases h:j=i
 · simp[h,W5]
 · simp[h,W5]
@[go_sem] theorem W6 (n i : Nat) : bO [] n i = some (n + i) := by simp [bO]
@[go_sem] theorem ac1 (j n : Nat) (r : List Nat) : bO (j :: r) n 0 = some j := by simp [bO]
@[go_sem] theorem ac2 (j n i : Nat) (r : List Nat) : bO (j :: r) n (i + 1) = bO r n i := by
 simp only[bO,List.length_cons,Nat.add_lt_add_iff_right,List.getElem?_cons_succ,Nat.add_sub_add_right]
@[go_sem] theorem TN {α : Type} (H os : List α) : du H [] os = H := by cases os <;> rfl
@[go_sem] theorem Rb {α : Type} (H : List α) (i : Nat) (r : List Nat) (o : α) (os : List α) : du H (i :: r) (o :: os) = du (H.set i o) r os := (rfl)
def lbP(sz:Nat)(p:List D×ah):List D×ah:=(p.1,.arr sz false 0 []::p.2)
@[go_sem] theorem ahf (sz : Nat) (cs : List D) (os : ah) : lbP sz (cs, os) = (cs, .arr sz false 0 [] :: os) := (rfl)
def lbC(base:Nat)(cs:List D)(off sz:Nat)(r:List (Nat×Nat)):Option D→List D×ah
 | some .nil=>lbP sz (b8 (base+1) (cs.set off (.ref base 0 0)) r)
 | _=>b8 base cs r
@[go_sem] theorem afJ (base : Nat) (cs : List D) (off sz : Nat) (r : List (Nat × Nat)) : lbC base cs off sz r (some .nil) = lbP sz (b8 (base + 1) (cs.set off (.ref base 0 0)) r) := (rfl)
@[go_sem] theorem ah9 (base : Nat) (cs : List D) (off sz : Nat) (r : List (Nat × Nat)) (x : T) : lbC base cs off sz r (some (.t x)) = b8 base cs r := (rfl)
@[go_sem] theorem afK (base : Nat) (cs : List D) (off sz : Nat) (r : List (Nat × Nat)) (a b c : Nat) : lbC base cs off sz r (some (.ref a b c)) = b8 base cs r := (rfl)
@[go_sem] theorem Rc (base : Nat) (cs : List D) (off sz : Nat) (r : List (Nat × Nat)) : b8 base cs ((off, sz) :: r) = lbC base cs off sz r cs[off]? := by
 simp only[b8,lbC]
 split<;>split<;>simp_all [lbP]
def lvP(H:ah)(id:Nat)(p:List D×ah):Option (D×ah):=some (.tup [],H.set id (.box p.1)++p.2)
@[go_sem] theorem ahg (H : ah) (id : Nat) (cs : List D) (os : ah) : lvP H id (cs, os) = some (.tup [], H.set id (.box cs) ++ os) := (rfl)
def lvB(H:ah)(id:Nat)(l:List (Nat×Nat)):Option Obj→Option (D×ah)
 | some (.box cs)=>lvP H id (b8 H.length cs l)
 | _=>none
@[go_sem] theorem ahh (H : ah) (id : Nat) (l : List (Nat × Nat)) (cs : List D) : lvB H id l (some (.box cs)) = lvP H id (b8 H.length cs l) := (rfl)
@[go_sem] theorem TO (H : ah) (id : Nat) (x : Nat × Nat) (r : List (Nat × Nat)) : BT H id (x :: r) = lvB H id (x :: r) H[id]? := by
 simp only[BT,qx]
 generalize H[id]?=o
 rcases o with _ | (cs | _)
 · rfl
 · rfl
 · rfl
section
variable (H : ah)
def klE(n:Nat)(sel new:List Nat)(os:ah)(q:List Nat×ah):Option (List Nat×ah):=some (new++q.1,os++q.2)
@[go_sem] theorem ahi (n : Nat) (sel new : List Nat) (os : ah) (a : List Nat) (b : ah) : klE n sel new os (a, b) = some (new ++ a, os ++ b) := (rfl)
def klD(n:Nat)(sel new:List Nat)(os:ah):Option (List Nat×ah):=(gB H n (sel++new) (jA H new)).bind (klE n sel new os)
@[go_sem] theorem ahj (n : Nat) (sel new : List Nat) (os : ah) : klD H n sel new os = (gB H n (sel ++ new) (jA H new)).bind (klE n sel new os) := (rfl)
def ym(sel:List Nat):List Nat→Bool
 | []=>true
 | i::r=> !Gc i sel&&ym sel r
@[go_sem] theorem W7 (sel : List Nat) : ym sel [] = true := (rfl)
@[go_sem] theorem TP (sel : List Nat) (i : Nat) (r : List Nat) : ym sel (i :: r) = (!Gc i sel && ym sel r) := (rfl)
theorem Ez(sel l:List Nat):l.all (fun i=> !sel.contains i)=ym sel l:=by
 induction l with
 | nil=>rfl
 | cons i r ih=>rw[List.all_cons,ih,CN];rfl
def klC(n:Nat)(sel new:List Nat)(os:ah):Option (List Nat×ah):=
 (if n=0 then(if(os.flatMap fun o=>o.ds.flatMap (fm H depth)).all (fun i=> !(sel++new).contains i)then bf (dg H) os else none)else some os).bind (klD H n sel new)
def vV:ah→List Nat
 | []=>[]
 | .box cs::r=>qH H 8 cs++vV r
 | .arr _ _ _ es::r=>qH H 8 es++vV r
@[go_sem] theorem W8 : vV H [] = [] := (rfl)
@[go_sem] theorem W9 (cs : List D) (r : ah) : vV H (.box cs :: r) = qH H 8 cs ++ vV H r := (rfl)
@[go_sem] theorem Xa (sz ep : Nat) (pin : Bool) (es : List D) (r : ah) : vV H (.arr sz pin ep es :: r) = qH H 8 es ++ vV H r := (rfl)
theorem L3(os:ah):(os.flatMap fun o=>o.ds.flatMap (fm H depth))=vV H os:=by
 induction os with
 | nil=>rfl
 | cons o r ih=>rw[List.flatMap_cons,ih];cases o<;>rfl
@[go_sem] theorem aia (sel new : List Nat) (os : ah) : klC H 0 sel new os = (if ym (sel ++ new) (vV H os) = true then bf (dg H) os else none).bind (klD H 0 sel new) := by
 simp only[klC,L3,Ez,if_true]
@[go_sem] theorem aib (n : Nat) (sel new : List Nat) (os : ah) : klC H (n + 1) sel new os = klD H (n + 1) sel new os := by
 simp[klC]
def klN(n:Nat)(sel new:List Nat):Option (List Nat×ah):=(pick H new).bind (klC H n sel new)
@[go_sem] theorem ahk (n : Nat) (sel new : List Nat) : klN H n sel new = (pick H new).bind (klC H n sel new) := (rfl)
@[go_sem] theorem ac3 (sel front : List Nat) : gB H 0 sel front = some ([], []) := (rfl)
@[go_sem] theorem ac4 (n : Nat) (sel front : List Nat) : gB H (n + 1) sel front = klN H n sel ((eV sel front).drop sel.length) := by
 simp only[gB,klN]
 generalize (eV sel front).drop sel.length=new
 cases pick H new with
 | none=>rfl
 | some os=>
   simp only[aLq,klC]
   congr 1
   funext os'
   simp only[klD]
   cases gB H n (sel++new) (jA H new)<;>rfl
@[go_sem] theorem Pm (cs : List D) : dg H (.box cs) = (bf (tS H) cs).map .box := (rfl)
@[go_sem] theorem CP (sz ep : Nat) (pin : Bool) (ts : List T) : dg H (.arr sz pin ep (ts.map .t)) = some (.arr sz pin ep (ts.map .t)) := by
 simp only[dg,tF,aLw]
@[go_sem] theorem Pn (sz ep : Nat) (pin : Bool) : dg H (.arr sz pin ep []) = some (.arr sz pin ep []) := (rfl)
@[go_sem] theorem Po (sz ep : Nat) (pin : Bool) (m : Nat) (x : T) : dg H (.arr sz pin ep (List.replicate m (.t x))) = some (.arr sz pin ep (List.replicate m (.t x))) := by
 have:List.replicate m (D.t x)=(List.replicate m x).map .t:=by simp
 rw[this,CP]
def afL(k raw:Nat)(H:ah)(ds rs:List D)(q:List Nat×ah):Option (D×ah):=
 if ym (List.range k++q.1) (ie H raw ds)=true then
  (bf (ren (idxOf (List.range k++q.1)) depth) rs).bind fun rs'=>(bf (b7 (idxOf (List.range k++q.1))) (H.take k++q.2)).map fun hs'=>(rS rs',hs')
 else none
def L4(sel:List Nat)(H2:ah)(rs':List D):Option (D×ah):=(bf (b7 (idxOf sel)) H2).bind (finT3 rs')
where finT3 (rs':List D) (hs:ah):Option (D×ah):=some (rS rs',hs)
@[go_sem] theorem ac5 (rs' : List D) (hs : ah) : L4.finT3 rs' hs = some (rS rs', hs) := (rfl)
@[go_sem] theorem ac6 (sel : List Nat) (H2 : ah) (rs' : List D) : L4 sel H2 rs' = (bf (b7 (idxOf sel)) H2).bind (L4.finT3 rs') := (rfl)
@[go_sem] theorem afM (k raw : Nat) (ds rs : List D) (sel : List Nat) (os : ah) : afL k raw H ds rs (sel, os) =
 if ym (List.range k++sel) (ie H raw ds)=true then(bf (ren (idxOf (List.range k++sel)) 8) rs).bind (L4 (List.range k++sel) (H.take k++os))else none:=by
 simp only[afL,depth]
 split
 · cases bf (ren (idxOf (List.range k++sel)) 8) rs with
   | none=>rfl
   | some rs'=>simp only[aLq,L4];cases bf (b7 (idxOf (List.range k++sel))) (H.take k++os)<;>rfl
 · rfl
@[go_sem] theorem afN (k raw : Nat) (ds rs : List D) : acO k raw H ds rs = (gB H (max raw 1) (List.range k) (Ai 8 rs ++ jA H (List.range k))).bind (afL k raw H ds rs) := by
 simp only[acO,Ez,Ai,depth];rfl
@[go_sem] theorem Xb (k raw : Nat) (ds rs : List D) : WQ k raw H ds rs false = acO k raw H ds rs := (rfl)
@[go_sem] theorem Xc (k raw : Nat) (ds : List D) : finish k (raw + 1) H ds = ZQ k (raw + 1) H ds ds := by
 simp only[finish,Nat.add_one_ne_zero,if_false,aLq,nX,Ir,ZQ,WQ]
 show(if(gC k 8 ds&&gH k (H.take k))=true then _ else _)=_
 cases (gC k 8 ds&&gH k (H.take k))<;>rfl
@[go_sem] theorem TQ (raw : Nat) (ds : List D) : ie H (raw + 1) ds = [] := by simp [ie]
@[go_sem] theorem ac7 : max 0 1 = 1 := (rfl)
@[go_sem] theorem afO (r : Nat) : max (r + 1) 1 = r + 1 := by omega
@[go_sem] theorem Xd : List.range 0 = [] := (rfl)
@[go_sem] theorem Xe : List.range 1 = [0] := (rfl)
@[go_sem] theorem Xf : List.range 2 = [0, 1] := (rfl)
@[go_sem] theorem Xg : List.range 3 = [0, 1, 2] := (rfl)
@[go_sem] theorem Xh : List.range 4 = [0, 1, 2, 3] := (rfl)
end
theorem Iw{α:Type}(f:α→T)(l:List α)(i:Nat)(x:α)(y:D)(h:y= .t (f x)):((l.map f).map D.t).set i y=((l.set i x).map f).map D.t:=by
 rw[h,List.map_map,List.map_map]
 exact(List.map_set (f:=D.t ∘ f)).symm
@[go_sem] theorem afP (l : List Int) (i : Nat) (k : IntKind) (x : Int) : ((l.map (T.int k)).map D.t).set i (.t (.int k x)) = ((l.set i x).map (T.int k)).map D.t := Iw _ l i x _ rfl
@[go_sem] theorem ac8 (l : List Bool) (i : Nat) (x : Bool) : ((l.map T.bool).map D.t).set i (.t (.bool x)) = ((l.set i x).map T.bool).map D.t := Iw _ l i x _ rfl
end Go.Ev
namespace Go.Ev
class Lib where
 fs:Nat→Option Fn
end Go.Ev
namespace Go.Ev.K
abbrev u(x:O):R:={ o:=x}
abbrev w(n:Nat)(x:O):R:={ o:=x,d:=some n}
abbrev y(n:Nat)(b:Bool)(x:O):R:={ o:=x,g:=some (n,b)}
abbrev m(x:X):R:={ o:= .mv x}
abbrev g(x:X):R:={ o:= .ld x 1 false}
abbrev h(n:Nat)(x:X):R:={ o:= .ld x n true}
abbrev f(n:Nat)(x:X):R:={ o:= .fa x n}
abbrev a(n:Nat)(x z:X):R:={ o:= .ia x z n}
abbrev l0:X:= .l 0
abbrev l1:X:= .l 1
abbrev l2:X:= .l 2
abbrev l3:X:= .l 3
abbrev l4:X:= .l 4
abbrev l5:X:= .l 5
abbrev l6:X:= .l 6
abbrev l7:X:= .l 7
abbrev l8:X:= .l 8
abbrev l9:X:= .l 9
abbrev l10:X:= .l 10
abbrev l11:X:= .l 11
abbrev v0:X:= .v 0
abbrev v1:X:= .v 1
abbrev v2:X:= .v 2
abbrev v3:X:= .v 3
abbrev v4:X:= .v 4
abbrev v5:X:= .v 5
abbrev v6:X:= .v 6
abbrev v7:X:= .v 7
abbrev v8:X:= .v 8
abbrev v9:X:= .v 9
abbrev v10:X:= .v 10
abbrev v11:X:= .v 11
abbrev v12:X:= .v 12
abbrev v13:X:= .v 13
abbrev v14:X:= .v 14
abbrev v15:X:= .v 15
abbrev v16:X:= .v 16
abbrev v17:X:= .v 17
abbrev v18:X:= .v 18
abbrev v19:X:= .v 19
abbrev v20:X:= .v 20
abbrev v21:X:= .v 21
abbrev v22:X:= .v 22
abbrev v23:X:= .v 23
end Go.Ev.K
namespace Go.Ev.K
abbrev q(a:List R)(p:List (Nat×Nat))(c:C):C:= .seq (.reg a p) c
abbrev z0:D:= .t (.int .i64 (0))
abbrev z1:D:= .t (.bool false)
abbrev x(n:Nat)(z:X):R:={ o:= .mv z,d:=some n}
abbrev e(n:Nat)(b:Bool)(z:X):R:={ o:= .mv z,g:=some (n,b)}
abbrev i(n:Nat)(b:Bool)(z:X):R:={ o:= .ld z 1 false,g:=some (n,b)}
end Go.Ev.K
namespace Go.Ev.N
def GP:Nat:=0
def i4:Nat:=1
def TR:Nat:=2
def kd:Nat:=3
def cY:Nat:=4
def Xi:Nat:=5
def KR:Nat:=6
def L5:Nat:=7
def cC:Nat:=8
def ax:Nat:=9
def dL:Nat:=10
def JT:Nat:=11
def iW:Nat:=12
def dW:Nat:=13
def L6:Nat:=14
def dY:Nat:=15
def cE:Nat:=16
def TS:Nat:=17
def Re:Nat:=18
def dZ:Nat:=19
def bA:Nat:=20
def gQ:Nat:=21
def dM:Nat:=22
def iP:Nat:=23
def Rf:Nat:=24
def L7:Nat:=25
def Od:Nat:=26
def dX:Nat:=27
def dj:Nat:=28
def TT:Nat:=29
def ke:Nat:=30
def TU:Nat:=31
def Xj:Nat:=32
def TV:Nat:=33
def Rg:Nat:=34
def fo:Nat:=35
def eI:Nat:=36
def ei:Nat:=37
def cR:Nat:=38
def bE:Nat:=39
def i5:Nat:=40
def eJ:Nat:=41
def i6:Nat:=42
def eL:Nat:=43
def dk:Nat:=44
def iX:Nat:=45
def dm:Nat:=46
def eM:Nat:=47
def Oe:Nat:=48
def aJ:Nat:=49
def JU:Nat:=50
def aZ:Nat:=51
def KS:Nat:=52
def dv:Nat:=53
def iw:Nat:=54
def Xk:Nat:=55
def dN:Nat:=56
def gk:Nat:=57
def eb:Nat:=58
def iy:Nat:=59
def fK:Nat:=60
def b9:Nat:=61
def b5:Nat:=62
def iz:Nat:=63
def cT:Nat:=64
def fL:Nat:=65
def bB:Nat:=66
def bq:Nat:=67
def b6:Nat:=68
def aA:Nat:=69
def bD:Nat:=70
def cQ:Nat:=71
def dG:Nat:=72
def dH:Nat:=73
def iC:Nat:=74
def aI:Nat:=75
def cu:Nat:=76
def i7:Nat:=77
end Go.Ev.N
namespace Go.Ev.K
open Go.Ev
def i4:Fn:= { aU:=1,vars:=[0,2],body:=(q [x 1 (.b false)] [] (q [m v0,u (.ln l0),u (.bin .leq l0 (.i 400)),x 1 l0] [] .ret)),res:=[(1,none)]}
def kd:Fn:= { aU:=1,vars:=[0,2],body:=(q [w 1 (.mv (.c (.nilp)))] [] (q [m v0,u (.bd [.nil,z0] [(0,1,.l 0)]),u (.bx l0 2),x 1 l0] [] .ret)),res:=[(1,none)]}
def jt:C:= (.seq (.ite [m v4,m v3,u (.bin .lss l1 l0)] [] 0 .skip (.exit 0)) (.seq (.blk 1 (.reg [f 0 v2,g l0,m v0,u (.ca N.ax 0 [] [.l 0,.i 4]),u (.bin .mul (.i (-10)) l0),m v4,u (.bin .eql l0 (.i 0)),m l0,e 0 false v0,y 1 false (.ca N.dY 0 [] [.l 0,.i 6]),u (.pk l2 (.b true) l0),u (.bd [z0,z1] [(0,1,.l 6),(1,1,.l 0)]),u (.bs [.l 0] 2),u (.app l11 l0 true 2),f 0 v2,u (.st l0 l1 1 [])] [(1,4),(1,10),(1,13)])) (.reg [m v4,u (.bin .add l0 (.i 1)),x 4 l0] [])))
def pX:C:= .loop true [5,6,7,8,9] K.jt
def lD:C:= (.seq (.ite [m v6,m v3,u (.bin .lss l1 l0)] [] 0 .skip (.exit 2)) (.seq (.blk 3 (q [h 10 v5,w 7 (.al [z0,z0,z0,z0,z1,z1,z0,z0,z0,z0] []),u (.st l0 l1 10 [])] [] (q [m v6,u (.bin .sub l0 (.i 1)),m v0,m v6,u (.mn [.l 0,.i 2]),u (.ca N.ax 0 [] [.l 2,.l 0]),u (.bin .sub l4 l0),m v6,m v0,u (.bs [.i 11,.i 59,.i 119,.i 4] 1),u (.ca N.dL 0 [] [.l 1,.l 0]),u (.bin .add (.i 1) l0),m v0,u (.bs [.i 9,.i 3,.i 19] 1),u (.ca N.dL 0 [] [.l 1,.l 0]),u (.bin .add (.i 1) l0),f 0 v7,u (.st l0 l10 1 []),f 1 v7,u (.st l0 l11 1 []),f 2 v7,u (.st l0 l9 1 []),f 3 v7,u (.st l0 l7 1 [])] [] (.reg [f 1 v2,g l0,h 10 v7,u (.bs [.l 0] 10),u (.app l2 l0 true 10),f 1 v2,u (.st l0 l1 1 [])] [])))) (.reg [m v6,u (.bin .add l0 (.i 1)),x 6 l0] [])))
def pY:C:= .loop true [4,7,8,9] K.lD
def ec:C:= (.seq (.ite [m v8,u (.bin .gtr l0 (.i 0)),m l0,y 0 true (.fa v2 1),i 1 true l0,y 2 true (.ln l0),y 3 true (.bin .lss l0 (.i 10)),u (.pk l4 l0 (.b false))] [] 0 .skip (.exit 4)) (.seq (.blk 5 (q [h 10 v5,w 9 (.al [z0,z0,z0,z0,z1,z1,z0,z0,z0,z0] []),u (.st l0 l1 10 [])] [] (q [m v0,m v3,u (.ca N.ax 0 [] [.l 1,.l 0]),m v0,m v3,u (.ca N.ax 0 [] [.l 1,.l 0]),m v0,u (.bs [.i 11,.i 59,.i 199] 1),u (.ca N.dL 0 [] [.l 1,.l 0]),u (.bin .add (.i 1) l0),m v0,u (.bs [.i 9,.i 3] 1),u (.ca N.dL 0 [] [.l 1,.l 0]),u (.bin .add (.i 1) l0),f 0 v9,u (.st l0 (.l 12) 1 []),f 1 v9,u (.st l0 l11 1 []),f 2 v9,u (.st l0 l9 1 []),f 3 v9,u (.st l0 l7 1 [])] [] (q [m v0,u (.ca N.ax 0 [] [.l 0,.i 5]),u (.bin .gtr l0 (.i 0)),m v0,u (.ca N.dY 0 [] [.l 0,.i 6]),f 4 v9,u (.st l0 l3 1 []),f 5 v9,u (.st l0 l3 1 [])] [] (.ite [f 0 v9,g l0,f 1 v9,g l0,u (.bin .neq l2 l0)] [] 0 (.reg [f 1 v2,g l0,h 10 v9,u (.bs [.l 0] 10),u (.app l2 l0 true 10),f 1 v2,u (.st l0 l1 1 [])] []) .skip))))) (.reg [m v8,u (.bin .sub l0 (.i 1)),x 8 l0] [])))
def pZ:C:= .loop true [4,6,7,9] K.ec
def cY:Fn:= { aU:=1,vars:=[0,2,3,4,5,6,7,8,9,10],body:=(q [w 1 (.al [.nil,.nil] [])] [] (q [w 2 (.al [.nil,.nil] [(0,2),(1,10)])] [] (q [m v0,u (.ca N.ax 0 [] [.l 0,.i 6]),u (.bin .add (.i 2) l0),x 3 l0] [] (.seq (.ite [m v0,u (.nc l0),f 0 l0,g l0,u (.ln l0),u (.bin .eql l0 (.i 0))] [] 0 (.reg [x 3 (.i 4)] []) .skip) (.seq (q [x 4 (.i 0)] [] (.blk 0 K.pX)) (q [u (.bd [z0,z0] [(0,1,.i 1),(1,1,.i 1)]),u (.bd [z0,z0,z0,z0,z1,z1,z0,z0,z0,z0] [(2,1,.i 12),(3,1,.i 10),(4,1,.b true),(6,2,.l 0)]),w 5 (.al [z0,z0,z0,z0,z1,z1,z0,z0,z0,z0] []),u (.st l0 l1 10 [])] [] (.seq (q [x 6 (.i 1)] [] (.blk 2 K.pY)) (.seq (q [m v0,u (.ca N.ax 0 [] [.l 0,.i 4]),x 8 l0] [] (.blk 4 K.pZ)) (q [h 2 v2,u (.st v1 l0 2 [])] [] .ret))))))))),res:=[(1,some (2,true))]}
def j4:C:= (.seq (.ite [m v7,m v4,u (.bin .lss l1 l0)] [] 0 .skip (.exit 0)) (.seq (.blk 1 (.reg [m v5,m v7,u (.bin .mul l0 (.i 2)),u (.bin .add (.i 3) l0),u (.bs [.l 0] 1),u (.app l4 l0 true 1),m v6,m v0,f 0 v2,g l0,u (.ln l0),u (.ca N.ax 0 [] [.l 3,.l 0]),u (.bs [.l 0] 1),u (.app l6 l0 true 1),x 5 l8,x 6 l1] [(9,0),(9,5)])) (.reg [m v7,u (.bin .add l0 (.i 1)),x 7 l0] [])))
def od:C:= .loop true [1,8,9,10,11,12,13,14,15,16,17] K.j4
def bI:C:= (.seq (.ite [m v10,u (.bin .gtr l0 (.i 0))] [] 0 .skip (.exit 2)) (.seq (.blk 3 (q [m v9,m v0,u (.ca N.ax 0 [] [.l 0,.i 60]),u (.bin .add l2 l0),x 9 l0] [] (q [m v0,w 17 (.ca N.ax 0 [] [.l 0,.i 3])] [] (.blk 4 (.ite [u (.bin .eql v17 (.i 0)),m l0] [] 0 (q [w 11 (.al [.nil] []),h 2 v2,h 1 v8,m v0,m v4,u (.ca N.ax 0 [] [.l 1,.l 0]),m v0,m v4,u (.ca N.ax 0 [] [.l 1,.l 0]),m v9,u (.ca N.bA 0 [] [.l 8,.l 7,.l 4,.l 1,.l 0]),m l0,u (.ex l0 0),u (.ex l1 1),u (.st (.l 13) l1 1 []),x 12 l1] [(0,6),(0,9),(0,11),(1,6),(1,9),(2,6),(2,9)] (.ite [m v12,u (.bin .eql l0 (.i 0))] [] 0 (.reg [h 1 v11,u (.st v8 l0 1 [])] []) .skip)) (.ite [u (.bin .eql v17 (.i 1)),m l0] [] 0 (q [w 13 (.al [.nil] []),h 2 v2,h 1 v8,m v0,m v4,u (.ca N.ax 0 [] [.l 1,.l 0]),u (.bin .mul (.i 2) l0),u (.bin .add (.i 3) l0),m v0,f 0 v2,g l0,u (.ln l0),u (.ca N.cE 0 [] [.l 3,.l 0]),m v9,m v9,m v0,u (.ca N.ax 0 [] [.l 0,.i 9]),u (.bin .add l2 l0),u (.ca N.gQ 0 [] [.l 16,.l 15,.l 10,.l 5,.l 4,.l 0]),m l0,u (.ex l0 0),u (.ex l1 1),u (.st (.l 21) l1 1 []),x 14 l1] [(0,6),(0,13),(0,17),(0,19),(1,6),(1,13),(1,17),(2,6),(2,13),(2,17),(10,1)] (.ite [m v14,u (.bin .eql l0 (.i 0))] [] 0 (.reg [h 1 v13,u (.st v8 l0 1 [])] []) .skip)) (q [w 15 (.al [.nil] []),h 2 v2,h 1 v8,m v0,m v4,u (.ca N.ax 0 [] [.l 1,.l 0]),u (.bin .mul (.i 2) l0),u (.bin .add (.i 3) l0),m v0,f 0 v2,g l0,u (.ln l0),u (.ca N.cE 0 [] [.l 3,.l 0]),m v9,m v9,u (.bin .add l0 (.i 50)),m v0,u (.ca N.ax 0 [] [.l 0,.i 40]),u (.ca N.dM 0 [3] [.l 16,.l 15,.l 10,.l 5,.l 4,.l 2,.l 0]),m l0,u (.ex l0 0),u (.ex l1 1),u (.st (.l 21) l1 1 []),x 16 l1] [(0,6),(0,13),(0,18),(0,19),(1,6),(1,13),(1,18),(2,6),(2,13),(2,18),(10,1)] (.ite [m v16,u (.bin .eql l0 (.i 0))] [] 0 (.reg [h 1 v15,u (.st v8 l0 1 [])] []) .skip)))))))) (.reg [m v10,u (.bin .sub l0 (.i 1)),x 10 l0] [])))
def oe:C:= .loop true [1,5,6,7,11,12,13,14,15,16,17] K.bI
def cC:Fn:= { aU:=2,vars:=[0,1,3,4,5,6,7,8,9,11,12,13,14,15,16,17,18,61],body:=(q [w 2 (.bx v1 2),w 3 (.al [.nil] [])] [] (q [m v0,u (.ca N.ax 0 [] [.l 0,.i 3]),u (.bin .add (.i 1) l0),x 4 l0] [] (q [w 5 (.nw 1),w 6 (.nw 1)] [] (.seq (q [x 7 (.i 0)] [] (.blk 0 K.od)) (q [w 8 (.al [.nil] []),h 2 v2,m v5,m v6,m v0,u (.ca N.ax 0 [] [.l 0,.i 100]),u (.ca N.dZ 0 [] [.l 4,.l 3,.l 2,.l 0]),m l0,u (.ex l0 0),u (.ex l1 1),u (.st l9 l1 1 []),m l1] [(0,6),(0,7),(1,6)] (q [x 9 (.i 100)] [] (.seq (q [m v0,u (.ca N.ax 0 [] [.l 0,.i 5]),x 10 l0] [] (.blk 2 K.oe)) (q [h 1 v8,u (.st v3 l0 1 [])] [] .ret)))))))),res:=[(3,some (1,true))]}
def ax:Fn:= { aU:=2,vars:=[0,1,4],body:=(q [x 2 (.i 0)] [] (.seq (.ite [m v0,u (.nc l0),f 1 l0,g l0,m v0,u (.nc l0),f 0 l0,g l0,u (.ln l0),u (.bin .geq l5 l0)] [] 0 (q [x 2 (.i 0)] [] .ret) .skip) (q [m v0,u (.nc l0),f 1 l0,g l0,u (.bin .add l0 (.i 1)),u (.nc l4),f 1 l0,u (.st l0 l2 1 [])] [] (q [m v0,u (.nc l0),f 0 l0,g l0,m v0,u (.nc l0),f 1 l0,g l0,u (.bin .sub l0 (.i 1)),a 1 l5 l0,g l0,m v1,u (.ca N.iP 0 [] [.l 1,.l 0]),x 2 l0] [] .ret)))),res:=[(2,none)]}
def dL:Fn:= { aU:=2,vars:=[0,1,4],body:=(q [x 2 (.i 0)] [] (q [m v1,m v0,m v1,u (.ln l0),u (.ca N.ax 0 [] [.l 2,.l 0]),a 1 l4 l0,g l0,x 2 l0] [] .ret)),res:=[(2,none)]}
def nQ:C:= (.seq (.ite [m v3,m v0,u (.ln l0),u (.bin .lss l2 l0)] [] 0 .skip (.exit 0)) (.seq (.blk 1 (.ite [m v0,m v3,a 1 l1 l0,g l0,m v1,u (.bin .eql l1 l0)] [] 0 (q [x 2 (.b true)] [] .ret) .skip)) (.reg [m v3,u (.bin .add l0 (.i 1)),x 3 l0] [])))
def yn:C:= .loop true [2] K.nQ
def iW:Fn:= { aU:=2,vars:=[0,1,4,5],body:=(q [x 2 (.b false)] [] (.seq (q [x 3 (.i 0)] [] (.blk 0 K.yn)) (q [x 2 (.b false)] [] .ret))),res:=[(2,none)]}
def fF:C:= (.seq (.ite [m v7,f 0 v3,g l0,u (.ln l0),u (.bin .lss l3 l0)] [] 0 .skip (.exit 2)) (.seq (.blk 3 (.ite [m v1,u (.bin .geq l0 (.i 0)),m l0,e 0 true v1,y 1 true (.fa v3 0),i 2 true l0,e 3 true v7,y 4 true (.ia l1 l0 2),y 5 true (.fa l0 1),i 6 true l0,y 7 true (.ln l0),y 8 true (.bin .lss l7 l0),u (.pk l9 l0 (.b false)),m l0,y 0 true (.fa v3 0),i 1 true l0,e 2 true v7,y 3 true (.ia l1 l0 2),y 4 true (.fa l0 1),i 5 true l0,e 6 true v1,y 7 true (.ia l1 l0 2),y 8 true (.ld l0 2 true),e 9 true v2,y 10 true (.ca N.dX 0 [] [.l 1,.l 0]),e 11 true v6,y 12 true (.ca N.iW 0 [] [.l 1,.l 0]),u (.pk (.l 13) l0 (.b false))] [] 0 (q [m v5,m v6,u (.bs [.l 0] 1),u (.app l2 l0 true 1),x 5 l0] [] (.exit 2)) .skip)) (.reg [m v7,u (.bin .add l0 (.i 1)),x 7 l0] [])))
def p4:C:= .loop true [0,4] K.fF
def ju:C:= (.seq (.ite [m v6,u (.bin .lss l0 (.i 64))] [] 0 .skip (.exit 0)) (.seq (.blk 1 (q [x 7 (.i 0)] [] (.blk 2 K.p4))) (.reg [m v6,u (.bin .add l0 (.i 1)),x 6 l0] [])))
def p5:C:= .loop true [0,4,7] K.ju
def dW:Fn:= { aU:=3,vars:=[0,1,2,3,6,7,8,9],body:=(q [w 3 (.bx v0 1),w 4 (.mv (.c (.nil)))] [] (q [w 5 (.nw 1)] [] (.seq (q [x 6 (.i 0)] [] (.blk 0 K.p5)) (q [m v5,x 4 l0] [] .ret)))),res:=[(4,none)]}
def dY:Fn:= { aU:=2,vars:=[0,1,4],body:=(q [x 2 (.b false)] [] (q [m v0,m v1,u (.ca N.ax 0 [] [.l 1,.l 0]),m v1,u (.bin .sub l0 (.i 1)),u (.bin .eql l2 l0),x 2 l0] [] .ret)),res:=[(2,none)]}
def jv:C:= (.seq (.ite [m v4,m v1,u (.bin .lss l1 l0)] [] 0 .skip (.exit 0)) (.seq (.blk 1 (.ite [m v0,u (.ca N.ax 0 [] [.l 0,.i 3]),u (.bin .eql l0 (.i 0))] [] 0 (.reg [m v3,m v4,u (.bs [.l 0] 1),u (.app l2 l0 true 1),x 3 l0] []) .skip)) (.reg [m v4,u (.bin .add l0 (.i 1)),x 4 l0] [])))
def p6:C:= .loop true [2] K.jv
def cE:Fn:= { aU:=2,vars:=[0,1,4,5,6],body:=(q [w 2 (.mv (.c (.nil)))] [] (q [w 3 (.nw 1)] [] (.seq (q [x 4 (.i 0)] [] (.blk 0 K.p6)) (q [m v3,x 2 l0] [] .ret)))),res:=[(2,none)]}
def lE:C:= (.seq (.ite [m v8,m v1,u (.ln l0),u (.bin .lss l2 l0)] [] 0 .skip (.exit 0)) (.seq (.blk 1 (q [w 9 (.al [z0,.nil] []),h 2 v4,m v2,m v8,a 1 l1 l0,g l0,m v3,u (.ca N.eI 0 [] [.l 5,.l 1,.l 0]),m l0,u (.ex l0 0),u (.ex l1 1),u (.st l10 l1 2 []),x 10 l1] [(0,8)] (.seq (.ite [m v10,u (.bin .neq l0 (.i 0))] [] 0 (q [u (.bd [.nil] []),m v10,u (.st v5 l1 1 []),x 6 l1] [] .ret) .skip) (.reg [f 1 v7,g l0,h 2 v9,u (.bs [.l 0] 2),u (.app l2 l0 true 2),f 1 v7,u (.st l0 l1 1 [])] [])))) (.reg [m v8,u (.bin .add l0 (.i 1)),x 8 l0] [])))
def uj:C:= .loop true [0,6,9,10] K.lE
def dZ:Fn:= { aU:=4,vars:=[0,1,2,3,4,8,9,10,11,12,13],body:=(q [w 4 (.bx v0 2),w 5 (.al [.nil] []),x 6 (.i 0)] [] (.seq (.ite [h 2 v4,u (.ca N.dj 0 [] [.l 0]),u (.bin .neq l0 (.i 0)),m l0,e 0 false v1,y 1 false (.ln l0),e 2 false v2,y 3 false (.ln l0),y 4 false (.bin .neq l2 l0),u (.pk l5 (.b true) l0),m l0,e 0 false v1,y 1 false (.ln l0),y 2 false (.bin .lss l0 (.i 1)),u (.pk l3 (.b true) l0),m l0,e 0 false v1,y 1 false (.ln l0),y 2 false (.bin .gtr l0 (.i 12)),u (.pk l3 (.b true) l0)] [] 0 (q [u (.bd [.nil] []),u (.st v5 l0 1 []),x 6 (.i 6)] [] .ret) .skip) (.seq (.ite [m v1,u (.ca N.fo 0 [] [.l 0]),u (.un .not l0)] [] 0 (q [u (.bd [.nil] []),u (.st v5 l0 1 []),x 6 (.i 41)] [] .ret) .skip) (q [m v1,u (.app (.c (.nil)) l0 true 1),u (.bd [.nil,.nil] [(0,1,.l 0)]),w 7 (.al [.nil,.nil] [(1,2)]),u (.st l0 l1 2 [(1,2)])] [] (.seq (q [x 8 (.i 0)] [] (.blk 0 K.uj)) (q [h 2 v7,u (.bs [.l 0] 2),u (.bd [.nil] [(0,1,.l 0)]),u (.st v5 l0 1 []),x 6 (.i 0)] [] .ret)))))),res:=[(5,some (1,true)),(6,none)]}
def gR:C:= (.seq (.ite [m v11,f 0 v6,g l0,u (.ln l0),u (.bin .lss l3 l0)] [] 0 .skip (.exit 0)) (.seq (.blk 1 (q [f 0 v6,g l0,m v11,a 2 l1 l0,h 2 l0,u (.ca N.bE 1 [] [.l 0]),w 12 (.al [.nil,.nil] []),u (.st l0 l1 2 [])] [] (.seq (.ite [f 1 v12,g l0,m v2,a 2 l1 l0,h 2 l0,f 1 v12,g l0,m v3,a 2 l1 l0,h 2 l0,m v4,u (.ca N.i5 0 [] [.l 6,.l 1,.l 0]),u (.un .not l0)] [] 0 (.exit 1) .skip) (q [f 0 v12,g l0,m v2,f 0 v12,g l0,m v3,f 0 v12,g l0,m v3,a 1 l1 l0,g l0,f 0 v12,g l0,m v2,a 1 l1 l0,g l0,a 1 (.l 14) (.l 13),u (.st l0 l6 1 []),a 1 (.l 13) (.l 12),u (.st l0 l3 1 [])] [(4,18)] (q [f 1 v12,g l0,m v2,f 1 v12,g l0,m v2,a 2 l1 l0,h 2 l0,m v4,u (.ca N.eJ 0 [] [.l 1,.l 0]),m l0,u (.ex l0 0),u (.ex l1 1),a 2 l11 l10,u (.st l0 l2 2 [])] [(1,10)] (q [f 1 v12,g l0,m v3,f 1 v12,g l0,m v3,a 2 l1 l0,h 2 l0,m v4,u (.ca N.eJ 0 [] [.l 1,.l 0]),m l0,u (.ex l0 0),u (.ex l1 1),a 2 l11 l10,u (.st l0 l2 2 [])] [(1,10)] (.reg [m v10,h 2 v12,u (.bs [.l 0] 2),u (.app l2 l0 true 2),x 10 l0] []))))))) (.reg [m v11,u (.bin .add l0 (.i 1)),x 11 l0] [])))
def p7:C:= .loop true [0,1,5,8,9,12] K.gR
def bA:Fn:= { aU:=5,vars:=[0,1,2,3,4,5,6,10,11,12,13,14,15],body:=(q [w 5 (.bx v0 2),w 6 (.bx v1 1),w 7 (.al [.nil] []),x 8 (.i 0)] [] (q [h 1 v6,u (.ca N.ei 0 [] [.l 0]),u (.st v6 l0 1 [])] [] (.seq (.ite [h 2 v5,h 1 v6,u (.ca N.cR 0 [] [.l 1,.l 0]),u (.un .not l0)] [] 0 (q [h 1 v6,u (.st v7 l0 1 []),x 8 (.i 6)] [] .ret) .skip) (q [f 0 v6,g l0,a 2 l0 (.i 0),f 0 l0,g l0,u (.ln l0),x 9 l0] [] (.seq (.ite [m v2,u (.bin .lss l0 (.i 0)),m l0,e 0 false v2,e 1 false v9,y 2 false (.bin .geq l1 l0),u (.pk l3 (.b true) l0),m l0,e 0 false v3,y 1 false (.bin .lss l0 (.i 0)),u (.pk l2 (.b true) l0),m l0,e 0 false v3,e 1 false v9,y 2 false (.bin .geq l1 l0),u (.pk l3 (.b true) l0),m l0,e 0 false v2,e 1 false v3,y 2 false (.bin .eql l1 l0),u (.pk l3 (.b true) l0)] [] 0 (q [h 1 v6,u (.st v7 l0 1 []),x 8 (.i 19)] [] .ret) .skip) (.seq (.ite [m v4,u (.bin .lss l0 (.i 0)),m l0,e 0 false v4,y 1 false (.bin .gtr l0 (.i 2147483648)),u (.pk l2 (.b true) l0)] [] 0 (q [h 1 v6,u (.st v7 l0 1 []),x 8 (.i 8)] [] .ret) .skip) (q [h 1 v6,u (.ca N.ei 1 [] [.l 0]),u (.fl l0 0 1 false),x 10 l0] [] (.seq (q [x 11 (.i 0)] [] (.blk 0 K.p7)) (q [m v10,u (.ca N.i6 1 [] [.l 0]),x 10 l0] [] (.seq (.ite [m v10,u (.ln l0),u (.bin .gtr l0 (.i 24))] [] 0 (q [h 1 v6,u (.st v7 l0 1 []),x 8 (.i 44)] [] .ret) .skip) (q [m v10,u (.bd [.nil] [(0,1,.l 0)]),u (.st v7 l0 1 []),x 8 (.i 0)] [] .ret))))))))))),res:=[(7,some (1,true)),(8,none)]}
def eZ:C:= (.seq (.ite [m v12,f 0 v7,g l0,u (.ln l0),u (.bin .lss l3 l0)] [] 0 .skip (.exit 0)) (.seq (.blk 1 (q [f 0 v7,g l0,m v12,a 2 l1 l0,h 2 l0,u (.ca N.bE 1 [] [.l 0]),w 13 (.al [.nil,.nil] []),u (.st l0 l1 2 [])] [] (q [f 0 v13,g l0,m v2,u (.ca N.dk 0 [] [.l 1,.l 0]),x 14 l0] [] (q [w 15 (.al [z0,.nil] []),h 2 v6,f 1 v13,g l0,m v14,a 2 l1 l0,h 2 l0,m v3,m v4,m v5,u (.ca N.iX 0 [] [.l 8,.l 3,.l 2,.l 1,.l 0]),m l0,u (.ex l0 0),u (.ex l1 1),u (.st (.l 13) l1 2 []),x 16 l1] [(0,11)] (.seq (q [x 17 v16] [] (.blk 2 (.seq (q [u (.bin .eql v17 (.i 6)),x 18 l0] [] (.itv 18 .skip (.reg [u (.bin .eql v17 (.i 8)),x 18 l0] []))) (.itv 18 (q [h 1 v7,m v16,u (.st v8 l1 1 []),x 9 l1] [] .ret) (.ite [u (.bin .eql v17 (.i 43)),m l0] [] 0 (.exit 1) (.ite [u (.bin .eql v17 (.i 0)),m l0] [] 0 (.reg [f 1 v13,g l0,m v14,h 2 v15,a 2 l2 l1,u (.st l0 l1 2 [])] []) .skip)))))) (.reg [f 0 v11,g l0,h 2 v13,u (.bs [.l 0] 2),u (.app l2 l0 true 2),f 0 v11,u (.st l0 l1 1 [])] [])))))) (.reg [m v12,u (.bin .add l0 (.i 1)),x 12 l0] [])))
def sq:C:= .loop true [0,1,9,10,13,14,15,16,17,18] K.eZ
def gQ:Fn:= { aU:=6,vars:=[0,1,2,3,4,5,6,7,12,13,14,15,16,17,18,19,20,61,62],body:=(q [w 6 (.bx v0 2),w 7 (.bx v1 1),w 8 (.al [.nil] []),x 9 (.i 0)] [] (q [h 1 v7,u (.ca N.ei 0 [] [.l 0]),u (.st v7 l0 1 [])] [] (.seq (q [h 2 v6,h 1 v7,m v2,u (.ca N.eL 0 [] [.l 2,.l 1,.l 0]),x 10 l0] [] (.ite [m v10,u (.bin .neq l0 (.i 0))] [] 0 (q [h 1 v7,m v10,u (.st v8 l1 1 []),x 9 l1] [] .ret) .skip)) (q [w 11 (.al [.nil] [(0,2)])] [] (.seq (q [x 12 (.i 0)] [] (.blk 0 K.sq)) (.seq (.ite [f 0 v11,g l0,u (.ln l0),u (.bin .eql l0 (.i 0))] [] 0 (q [h 1 v7,u (.st v8 l0 1 []),x 9 (.i 43)] [] .ret) .skip) (q [h 1 v11,u (.st v8 l0 1 []),x 9 (.i 0)] [] .ret))))))),res:=[(8,some (1,true)),(9,none)]}
def dD:C:= (.seq (.ite [m v13,f 0 v8,g l0,u (.ln l0),u (.bin .lss l3 l0)] [] 0 .skip (.exit 0)) (.seq (.blk 1 (q [f 0 v8,g l0,m v13,a 2 l1 l0,h 2 l0,u (.ca N.bE 1 [] [.l 0]),w 14 (.al [.nil,.nil] []),u (.st l0 l1 2 [])] [] (q [f 0 v14,g l0,m v2,u (.ca N.dk 0 [] [.l 1,.l 0]),x 15 l0] [] (q [w 16 (.al [z0,.nil] []),h 2 v7,f 1 v14,g l0,m v15,a 2 l1 l0,h 2 l0,m v3,m v4,m v5,m v6,u (.ca N.dm 0 [2] [.l 9,.l 4,.l 3,.l 2,.l 1,.l 0]),m l0,u (.ex l0 0),u (.ex l1 1),u (.st (.l 14) l1 2 []),x 17 l1] [(0,12)] (.seq (.ite [m v17,u (.bin .eql l0 (.i 6)),m l0,e 0 false v17,y 1 false (.bin .eql l0 (.i 8)),u (.pk l2 (.b true) l0)] [] 0 (q [h 1 v8,m v17,u (.st v9 l1 1 []),x 10 l1] [] .ret) .skip) (.seq (.ite [m v17,u (.bin .eql l0 (.i 0))] [] 0 (.reg [f 1 v14,g l0,m v15,h 2 v16,a 2 l2 l1,u (.st l0 l1 2 [])] []) .skip) (.reg [f 0 v12,g l0,h 2 v14,u (.bs [.l 0] 2),u (.app l2 l0 true 2),f 0 v12,u (.st l0 l1 1 [])] []))))))) (.reg [m v13,u (.bin .add l0 (.i 1)),x 13 l0] [])))
def oh:C:= .loop true [0,1,10,11,14,15,16,17] K.dD
def dM:Fn:= { aU:=7,vars:=[0,1,2,3,4,5,6,7,8,14,15,16,17,18,19,20,21,22],body:=(q [w 7 (.bx v0 2),w 8 (.bx v1 1),w 9 (.al [.nil] []),x 10 (.i 0)] [] (q [h 1 v8,u (.ca N.ei 0 [] [.l 0]),u (.st v8 l0 1 [])] [] (.seq (q [h 2 v7,h 1 v8,m v2,u (.ca N.eL 0 [] [.l 2,.l 1,.l 0]),x 11 l0] [] (.ite [m v11,u (.bin .neq l0 (.i 0))] [] 0 (q [h 1 v8,m v11,u (.st v9 l1 1 []),x 10 l1] [] .ret) .skip)) (q [w 12 (.al [.nil] [(0,2)])] [] (.seq (q [x 13 (.i 0)] [] (.blk 0 K.oh)) (q [h 1 v12,u (.st v9 l0 1 []),x 10 (.i 0)] [] .ret)))))),res:=[(9,some (1,true)),(10,none)]}
def iP:Fn:= { aU:=2,vars:=[0,1,4],body:=(q [x 2 (.i 0)] [] (.seq (.ite [m v1,u (.bin .lss l0 (.i 1))] [] 0 (q [x 2 (.i 0)] [] .ret) .skip) (q [m v0,m v1,u (.bin .rem l1 l0),x 0 l0] [] (.seq (.ite [m v0,u (.bin .lss l0 (.i 0))] [] 0 (.reg [m v0,m v1,u (.bin .add l1 l0),x 0 l0] []) .skip) (q [m v0,x 2 l0] [] .ret))))),res:=[(2,none)]}
def jw:C:= (.seq (.ite [m v5,f 1 v2,g l0,u (.ln l0),u (.bin .lss l3 l0)] [] 0 .skip (.exit 0)) (.seq (.blk 1 (.ite [f 1 v2,g l0,m v5,a 1 l1 l0,g l0,m v1,u (.bin .leq l1 l0)] [] 0 (.reg [m v4,m v5,u (.bs [.l 0] 1),u (.app l2 l0 true 1),x 4 l0] []) .skip)) (.reg [m v5,u (.bin .add l0 (.i 1)),x 5 l0] [])))
def p8:C:= .loop true [0,3] K.jw
def dX:Fn:= { aU:=2,vars:=[0,1,2,4,5,6],body:=(q [w 2 (.bx v0 2),w 3 (.mv (.c (.nil)))] [] (q [w 4 (.nw 1)] [] (.seq (q [x 5 (.i 0)] [] (.blk 0 K.p8)) (q [m v4,x 3 l0] [] .ret)))),res:=[(3,none)]}
def om:C:= (.seq (.ite [m v3,f 0 v1,g l0,u (.ln l0),u (.bin .lss l3 l0)] [] 0 .skip (.exit 0)) (.seq (.blk 1 (q [f 0 v1,g l0,m v3,a 2 l1 l0,f 0 l0,g l0,x 4 l0] [] (.ite [m v4,u (.bin .lss l0 (.i (-10000))),m l0,e 0 false v4,y 1 false (.bin .gtr l0 (.i 10000)),u (.pk l2 (.b true) l0)] [] 0 (q [x 2 (.i 1)] [] .ret) .skip))) (.reg [m v3,u (.bin .add l0 (.i 1)),x 3 l0] [])))
def uk:C:= .loop true [0,2,4,5,6] K.om
def oo:C:= (.seq (.ite [m v5,f 1 v1,g l0,u (.ln l0),u (.bin .lss l3 l0)] [] 0 .skip (.exit 2)) (.seq (.blk 3 (q [f 1 v1,g l0,m v5,a 10 l1 l0,h 10 l0,w 6 (.al [z0,z0,z0,z0,z1,z1,z0,z0,z0,z0] []),u (.st l0 l1 10 [])] [] (.seq (.ite [f 0 v6,g l0,u (.bin .lss l0 (.i 0)),m l0,y 0 false (.fa v6 0),i 1 false l0,y 2 false (.fa v1 0),i 3 false l0,y 4 false (.ln l0),y 5 false (.bin .geq l3 l0),u (.pk l6 (.b true) l0),m l0,y 0 false (.fa v6 1),i 1 false l0,y 2 false (.bin .lss l0 (.i 0)),u (.pk l3 (.b true) l0),m l0,y 0 false (.fa v6 1),i 1 false l0,y 2 false (.fa v1 0),i 3 false l0,y 4 false (.ln l0),y 5 false (.bin .geq l3 l0),u (.pk l6 (.b true) l0),m l0,y 0 false (.fa v6 0),i 1 false l0,y 2 false (.fa v6 1),i 3 false l0,y 4 false (.bin .eql l2 l0),u (.pk l5 (.b true) l0)] [] 0 (q [x 2 (.i 4)] [] .ret) .skip) (.ite [f 2 v6,g l0,u (.bin .lss l0 (.i 1)),m l0,y 0 false (.fa v6 2),i 1 false l0,y 2 false (.bin .gtr l0 (.i 100000)),u (.pk l3 (.b true) l0),m l0,y 0 false (.fa v6 3),i 1 false l0,y 2 false (.bin .lss l0 (.i 1)),u (.pk l3 (.b true) l0),m l0,y 0 false (.fa v6 3),i 1 false l0,y 2 false (.bin .gtr l0 (.i 1000)),u (.pk l3 (.b true) l0),m l0,y 0 false (.fa v6 6),y 1 false (.ld l0 2 true),y 2 false (.ca N.iw 0 [] [.l 0,.i 1,.i 262144]),y 3 false (.un .not l0),u (.pk l4 (.b true) l0),m l0,y 0 false (.fa v6 8),y 1 false (.ld l0 2 true),y 2 false (.ca N.iw 0 [] [.l 0,.i (-2199023255552),.i 2199023255552]),y 3 false (.un .not l0),u (.pk l4 (.b true) l0)] [] 0 (q [x 2 (.i 1)] [] .ret) .skip)))) (.reg [m v5,u (.bin .add l0 (.i 1)),x 5 l0] [])))
def um:C:= .loop true [0,2,3,4,6] K.oo
def dj:Fn:= { aU:=1,vars:=[0,1,2,3,4,5,6],body:=(q [w 1 (.bx v0 2),x 2 (.i 0)] [] (.seq (.ite [f 0 v1,g l0,u (.ln l0),u (.bin .gtr l0 (.i 64)),m l0,y 0 false (.fa v1 1),i 1 false l0,y 2 false (.ln l0),y 3 false (.bin .gtr l0 (.i 128)),u (.pk l4 (.b true) l0)] [] 0 (q [x 2 (.i 2)] [] .ret) .skip) (.seq (q [x 3 (.i 0)] [] (.blk 0 K.uk)) (.seq (q [x 5 (.i 0)] [] (.blk 2 K.um)) (q [x 2 (.i 0)] [] .ret))))),res:=[(2,none)]}
def iQ:C:= (.seq (.ite [m v3,m v0,u (.ln l0),u (.bin .lss l2 l0)] [] 0 .skip (.exit 0)) (.seq (.blk 1 (.ite [m v0,m v3,a 1 l1 l0,g l0,u (.bin .lss l0 (.i 0)),m l0,e 0 false v0,e 1 false v3,y 2 false (.ia l1 l0 1),i 3 false l0,e 4 false v1,y 5 false (.bin .geq l1 l0),u (.pk l6 (.b true) l0),m l0,e 0 false v3,y 1 false (.bin .gtr l0 (.i 0)),e 2 false l0,e 0 true v0,e 1 true v3,y 2 true (.ia l1 l0 1),i 3 true l0,e 4 true v0,e 5 true v3,y 6 true (.bin .sub l0 (.i 1)),y 7 true (.ia l2 l0 1),i 8 true l0,y 9 true (.bin .leq l5 l0),y 13 false (.pk l10 l0 (.b false)),u (.pk (.l 14) (.b true) l0)] [] 0 (q [x 2 (.b false)] [] .ret) .skip)) (.reg [m v3,u (.bin .add l0 (.i 1)),x 3 l0] [])))
def yo:C:= .loop true [2] K.iQ
def ke:Fn:= { aU:=2,vars:=[0,1,4,5],body:=(q [x 2 (.b false)] [] (.seq (q [x 3 (.i 0)] [] (.blk 0 K.yo)) (q [x 2 (.b true)] [] .ret))),res:=[(2,none)]}
def gN:C:= (.seq (.ite [m v2,m v0,u (.ln l0),u (.bin .lss l2 l0)] [] 0 .skip (.exit 0)) (.seq (.blk 1 (.ite [m v0,m v2,a 1 l1 l0,g l0,u (.bin .lss l0 (.i 1)),m l0,e 0 false v0,e 1 false v2,y 2 false (.ia l1 l0 1),i 3 false l0,y 4 false (.bin .gtr l0 (.i 65535)),u (.pk l5 (.b true) l0),m l0,e 0 false v0,e 1 false v2,y 2 false (.sc l1 none (some l0) 1),e 3 false v0,e 4 false v2,y 5 false (.ia l1 l0 1),i 6 false l0,y 7 false (.ca N.dk 0 [] [.l 4,.l 0]),y 8 false (.bin .geq l0 (.i 0)),u (.pk l9 (.b true) l0)] [] 0 (q [x 1 (.b false)] [] .ret) .skip)) (.reg [m v2,u (.bin .add l0 (.i 1)),x 2 l0] [])))
def sr:C:= .loop true [1] K.gN
def fo:Fn:= { aU:=1,vars:=[0,2,3],body:=(q [x 1 (.b false)] [] (.seq (q [x 2 (.i 0)] [] (.blk 0 K.sr)) (q [x 1 (.b true)] [] .ret))),res:=[(1,none)]}
def eI:Fn:= { aU:=3,vars:=[0,1,2,3,6,7,8],body:=(q [w 3 (.bx v0 2),w 4 (.al [z0,.nil] []),x 5 (.i 0)] [] (.seq (.blk 0 (.ite [h 2 v3,u (.ca N.dj 0 [] [.l 0]),u (.bin .neq l0 (.i 0)),m l0] [] 0 (q [u (.bd [z0,.nil] []),u (.st v4 l0 2 []),x 5 (.i 6)] [] .ret) (.ite [m v1,u (.bin .lss l0 (.i 0)),m l0,e 0 false v1,y 1 false (.fa v3 0),i 2 false l0,y 3 false (.ln l0),y 4 false (.bin .geq l3 l0),u (.pk l5 (.b true) l0),m l0] [] 0 (q [u (.bd [z0,.nil] []),u (.st v4 l0 2 []),x 5 (.i 3)] [] .ret) (.ite [m v2,u (.ca N.dN 0 [] [.l 0]),u (.un .not l0),m l0] [] 0 (q [u (.bd [z0,.nil] []),u (.st v4 l0 2 []),x 5 (.i 8)] [] .ret) .skip)))) (q [f 0 v3,g l0,u (.ln l0),u (.ca N.gk 1 [] [.l 0]),x 6 l0] [] (q [m v6,m v1,m v2,a 1 l2 l1,u (.st l0 l1 1 [])] [] (q [m v2,h 2 v3,m v6,m v2,u (.ca N.eb 0 [] [.l 2,.l 1,.l 0]),u (.bd [z0,.nil] [(0,1,.l 4),(1,1,.l 0)]),u (.st v4 l0 2 []),x 5 (.i 0)] [] .ret))))),res:=[(4,some (2,true)),(5,none)]}
end Go.Ev.K
namespace Go.Ev
class cz [Lib]:Prop where
 su:Lib.fs N.i4=some K.i4
 uS:Lib.fs N.kd=some K.kd
 m9:Lib.fs N.cY=some K.cY
 lF:Lib.fs N.cC=some K.cC
 nf:Lib.fs N.ax=some K.ax
 pc:Lib.fs N.dL=some K.dL
 uT:Lib.fs N.iW=some K.iW
 ng:Lib.fs N.dW=some K.dW
 oq:Lib.fs N.dY=some K.dY
 nh:Lib.fs N.cE=some K.cE
 qI:Lib.fs N.dZ=some K.dZ
 ni:Lib.fs N.bA=some K.bA
 uU:Lib.fs N.gQ=some K.gQ
 pd:Lib.fs N.dM=some K.dM
 xr:Lib.fs N.iP=some K.iP
 nq:Lib.fs N.dX=some K.dX
 qJ:Lib.fs N.dj=some K.dj
 uV:Lib.fs N.ke=some K.ke
 pf:Lib.fs N.fo=some K.fo
 qK:Lib.fs N.eI=some K.eI
namespace K
variable [Lib] [cz]
theorem su:Lib.fs N.i4=some K.i4:=cz.su
theorem uS:Lib.fs N.kd=some K.kd:=cz.uS
theorem m9:Lib.fs N.cY=some K.cY:=cz.m9
theorem lF:Lib.fs N.cC=some K.cC:=cz.lF
theorem nf:Lib.fs N.ax=some K.ax:=cz.nf
theorem pc:Lib.fs N.dL=some K.dL:=cz.pc
theorem uT:Lib.fs N.iW=some K.iW:=cz.uT
theorem ng:Lib.fs N.dW=some K.dW:=cz.ng
theorem oq:Lib.fs N.dY=some K.dY:=cz.oq
theorem nh:Lib.fs N.cE=some K.cE:=cz.nh
theorem qI:Lib.fs N.dZ=some K.dZ:=cz.qI
theorem ni:Lib.fs N.bA=some K.bA:=cz.ni
theorem uU:Lib.fs N.gQ=some K.gQ:=cz.uU
theorem pd:Lib.fs N.dM=some K.dM:=cz.pd
theorem xr:Lib.fs N.iP=some K.iP:=cz.xr
theorem nq:Lib.fs N.dX=some K.dX:=cz.nq
theorem qJ:Lib.fs N.dj=some K.dj:=cz.qJ
theorem uV:Lib.fs N.ke=some K.ke:=cz.uV
theorem pf:Lib.fs N.fo=some K.fo:=cz.pf
theorem qK:Lib.fs N.eI=some K.eI:=cz.qK
end K
end Go.Ev
namespace Go.Ev.K
open Go.Ev
def pg:C:= (.seq (.ite [m v4,f 0 v1,g l0,u (.ln l0),u (.bin .lss l3 l0)] [] 0 .skip (.exit 0)) (.seq (.blk 1 (.reg [f 0 v3,g l0,f 0 v1,g l0,m v4,a 2 l1 l0,h 2 l0,u (.ca N.bE 0 [] [.l 0]),u (.bs [.l 0] 2),u (.app l7 l0 true 2),f 0 v3,u (.st l0 l1 1 [])] [(1,8),(1,9)])) (.reg [m v4,u (.bin .add l0 (.i 1)),x 4 l0] [])))
def vW:C:= .loop true [0] K.pg
def ei:Fn:= { aU:=1,vars:=[0,1,2,3,4],body:=(q [w 1 (.bx v0 1),w 2 (.al [.nil] [])] [] (q [w 3 (.al [.nil] [(0,2)])] [] (.seq (q [x 4 (.i 0)] [] (.blk 0 K.vW)) (q [h 1 v3,u (.st v2 l0 1 [])] [] .ret)))),res:=[(2,some (1,true))]}
def iD:C:= (.seq (.ite [m v8,f 0 v7,g l0,u (.ln l0),u (.bin .lss l3 l0)] [] 0 .skip (.exit 2)) (.seq (.blk 3 (.ite [m v5,f 0 v7,g l0,m v8,a 1 l1 l0,g l0,u (.ca N.dk 0 [] [.l 5,.l 0]),u (.bin .lss l0 (.i 0)),m l0,y 0 false (.ld v2 2 true),y 1 false (.fa v7 1),i 2 false l0,e 3 false v8,y 4 false (.ia l1 l0 2),y 5 false (.ld l0 2 true),y 6 false (.ca N.fK 0 [] [.l 5,.l 0]),y 7 false (.un .not l0),u (.pk l8 (.b true) l0)] [] 0 (q [x 4 (.b false)] [] .ret) .skip)) (.reg [m v8,u (.bin .add l0 (.i 1)),x 8 l0] [])))
def ph:C:= .loop true [0,1,4] K.iD
def cg:C:= (.seq (.ite [m v6,f 0 v3,g l0,u (.ln l0),u (.bin .lss l3 l0)] [] 0 .skip (.exit 0)) (.seq (.blk 1 (q [f 0 v3,g l0,m v6,a 2 l1 l0,h 2 l0,w 7 (.al [.nil,.nil] []),u (.st l0 l1 2 [])] [] (.seq (.ite [f 0 v7,g l0,u (.ln l0),m v5,u (.ln l0),u (.bin .neq l2 l0),m l0,y 0 false (.fa v7 1),i 1 false l0,y 2 false (.ln l0),e 3 false v5,y 4 false (.ln l0),y 5 false (.bin .neq l2 l0),u (.pk l6 (.b true) l0),m l0,y 0 false (.fa v7 0),i 1 false l0,y 2 false (.ca N.fo 0 [] [.l 0]),y 3 false (.un .not l0),u (.pk l4 (.b true) l0),m l0,e 0 false v6,y 1 false (.bin .gtr l0 (.i 0)),e 2 false l0,y 0 true (.fa v3 0),i 1 true l0,e 2 true v6,y 3 true (.bin .sub l0 (.i 1)),y 4 true (.ia l2 l0 2),y 5 true (.fa l0 0),i 6 true l0,y 7 true (.fa v7 0),i 8 true l0,y 9 true (.ca N.iy 0 [] [.l 2,.l 0]),y 10 true (.un .not l0),y 14 false (.pk l11 l0 (.b false)),u (.pk (.l 15) (.b true) l0)] [] 0 (q [x 4 (.b false)] [] .ret) .skip) (q [x 8 (.i 0)] [] (.blk 2 K.ph))))) (.reg [m v6,u (.bin .add l0 (.i 1)),x 6 l0] [])))
def pj:C:= .loop true [0,1,4,7,8] K.cg
def cR:Fn:= { aU:=2,vars:=[0,1,2,3,4,5,6,7,8],body:=(q [w 2 (.bx v0 2),w 3 (.bx v1 1),x 4 (.b false)] [] (.seq (.ite [f 0 v3,g l0,u (.ln l0),u (.bin .lss l0 (.i 1)),m l0,y 0 false (.fa v3 0),i 1 false l0,y 2 false (.ln l0),y 3 false (.bin .gtr l0 (.i 24)),u (.pk l4 (.b true) l0),m l0,y 0 false (.ld v2 2 true),y 1 false (.ca N.dj 0 [] [.l 0]),y 2 false (.bin .neq l0 (.i 0)),u (.pk l3 (.b true) l0)] [] 0 (q [x 4 (.b false)] [] .ret) .skip) (q [f 0 v3,g l0,a 2 l0 (.i 0),f 0 l0,g l0,x 5 l0] [] (.seq (.ite [m v5,u (.ln l0),u (.bin .lss l0 (.i 1)),m l0,e 0 false v5,y 1 false (.ln l0),y 2 false (.bin .gtr l0 (.i 12)),u (.pk l3 (.b true) l0)] [] 0 (q [x 4 (.b false)] [] .ret) .skip) (.seq (q [x 6 (.i 0)] [] (.blk 0 K.pj)) (q [x 4 (.b true)] [] .ret)))))),res:=[(4,none)]}
def kE:C:= (.seq (.ite [m v4,f 1 v1,g l0,u (.ln l0),u (.bin .lss l3 l0)] [] 0 .skip (.exit 0)) (.seq (.blk 1 (.reg [f 1 v3,g l0,f 1 v1,g l0,m v4,a 2 l1 l0,h 2 l0,u (.ca N.b9 0 [] [.l 0]),u (.bs [.l 0] 2),u (.app l7 l0 true 2),f 1 v3,u (.st l0 l1 1 [])] [(1,8),(1,9)])) (.reg [m v4,u (.bin .add l0 (.i 1)),x 4 l0] [])))
def oR:C:= .loop true [0] K.kE
def bE:Fn:= { aU:=1,vars:=[0,1,2,3,4],body:=(q [w 1 (.bx v0 2),w 2 (.al [.nil,.nil] [])] [] (q [f 0 v1,g l0,u (.app (.c (.nil)) l0 true 1),u (.bd [.nil,.nil] [(0,1,.l 0)]),w 3 (.al [.nil,.nil] [(1,2)]),u (.st l0 l1 2 [(1,2)])] [] (.seq (q [x 4 (.i 0)] [] (.blk 0 K.oR)) (q [h 2 v3,u (.st v2 l0 2 [])] [] .ret)))),res:=[(2,some (2,true))]}
def i9:C:= (.seq (.ite [m v6,f 1 v3,g l0,u (.ln l0),u (.bin .lss l3 l0),m l0,e 0 true v6,y 1 true (.fa v4 1),i 2 true l0,y 3 true (.ln l0),y 4 true (.bin .lss l3 l0),u (.pk l5 l0 (.b false))] [] 0 .skip (.exit 0)) (.seq (.blk 1 (.ite [f 1 v3,g l0,m v6,a 1 l1 l0,g l0,m v2,u (.bin .leq l1 l0),m l0,y 0 true (.fa v4 1),i 1 true l0,e 2 true v6,y 3 true (.ia l1 l0 1),i 4 true l0,e 5 true v2,y 6 true (.bin .leq l1 l0),u (.pk l7 l0 (.b false))] [] 0 (q [x 5 (.b true)] [] .ret) .skip)) (.reg [m v6,u (.bin .add l0 (.i 1)),x 6 l0] [])))
def vX:C:= .loop true [0,1,5] K.i9
def i5:Fn:= { aU:=3,vars:=[0,1,2,3,4,6,7],body:=(q [w 3 (.bx v0 2),w 4 (.bx v1 2),x 5 (.b false)] [] (.seq (q [x 6 (.i 0)] [] (.blk 0 K.vX)) (q [x 5 (.b false)] [] .ret))),res:=[(5,none)]}
def eJ:Fn:= { aU:=2,vars:=[0,1,2,4,5],body:=(q [w 2 (.bx v0 2),w 3 (.al [z0,.nil] []),x 4 (.i 0)] [] (q [h 2 v2,u (.ca N.b9 0 [] [.l 0]),u (.st v2 l0 2 [])] [] (.seq (.ite [m v1,f 0 v2,g l0,u (.bin .lss l2 l0),m l0,e 0 false v1,y 1 false (.bin .gtr l0 (.i 2147483648)),u (.pk l2 (.b true) l0)] [] 0 (q [h 2 v2,u (.st v3 l0 2 []),x 4 (.i 8)] [] .ret) .skip) (q [m v1,f 0 v2,u (.st l0 l1 1 [])] [] (q [h 2 v2,u (.st v3 l0 2 []),x 4 (.i 0)] [] .ret))))),res:=[(3,some (2,true)),(4,none)]}
def kf:C:= (.seq (.ite [m v4,m v2,u (.ln l0),u (.bin .lss l2 l0),m l0,e 0 true v2,e 1 true v4,y 2 true (.ia l1 l0 2),y 3 true (.fa l0 0),i 4 true l0,e 5 true v0,e 6 true v3,y 7 true (.ia l1 l0 2),y 8 true (.fa l0 0),i 9 true l0,y 10 true (.ca N.iy 0 [] [.l 5,.l 0]),u (.pk l11 l0 (.b false))] [] 0 .skip (.exit 2)) (.blk 3 (.reg [m v4,u (.bin .add l0 (.i 1)),x 4 l0] [])))
def qL:C:= .loop false [1,5] K.kf
def mN:C:= (.seq (.ite [m v5,m v2,m v4,a 2 l1 l0,f 1 l0,g l0,u (.ln l0),u (.bin .lss l6 l0),m l0,e 0 true v5,e 1 true v0,e 2 true v3,y 3 true (.ia l1 l0 2),y 4 true (.fa l0 1),i 5 true l0,y 6 true (.ln l0),y 7 true (.bin .lss l6 l0),u (.pk l8 l0 (.b false))] [] 0 .skip (.exit 4)) (.seq (.blk 5 (.reg [m v2,m v4,a 2 l1 l0,f 1 l0,g l0,m v5,m v2,m v4,a 2 l1 l0,f 1 l0,g l0,m v5,a 2 l1 l0,h 2 l0,m v0,m v3,a 2 l1 l0,f 1 l0,g l0,m v5,a 2 l1 l0,h 2 l0,u (.ca N.iz 0 [] [.l 8,.l 0]),m l0,u (.ex l0 0),u (.ex l1 1),a 2 (.l 21) (.l 20),u (.st l0 l2 2 [])] [(2,23),(4,23)])) (.reg [m v5,u (.bin .add l0 (.i 1)),x 5 l0] [])))
def vY:C:= .loop false [1] K.mN
def fe:C:= (.seq (.ite [m v3,m v0,u (.ln l0),u (.bin .lss l2 l0)] [] 0 .skip (.exit 0)) (.seq (.blk 1 (q [x 4 (.i 0)] [] (.seq (.blk 2 K.qL) (.seq (.ite [m v4,m v2,u (.ln l0),u (.bin .lss l2 l0),m l0,e 0 true v2,e 1 true v4,y 2 true (.ia l1 l0 2),y 3 true (.fa l0 0),i 4 true l0,e 5 true v0,e 6 true v3,y 7 true (.ia l1 l0 2),y 8 true (.fa l0 0),i 9 true l0,y 10 true (.ca N.b5 0 [] [.l 5,.l 0]),u (.pk l11 l0 (.b false))] [] 0 (.seq (q [x 5 (.i 0)] [] (.blk 4 K.vY)) (.exit 1)) .skip) (.reg [m v2,m v4,u (.sc l1 none (some l0) 2),u (.app (.c (.nil)) l0 false 2),m v0,m v3,a 2 l1 l0,h 2 l0,u (.ca N.bE 1 [] [.l 0]),u (.bsr [.l 0] 2),u (.app l6 l0 false 2),m v2,m v4,u (.sc l1 (some l0) none 2),u (.app l3 l0 false 2),x 2 l0] [(6,0),(7,0),(13,0),(13,4),(13,9),(13,10)]))))) (.reg [m v3,u (.bin .add l0 (.i 1)),x 3 l0] [])))
def vZ:C:= .loop false [1,4,5] K.fe
def i6:Fn:= { aU:=1,vars:=[0,2,3,4,5,6],body:=(q [w 1 (.mv (.c (.nil)))] [] (q [w 2 (.mv (.c (.nil)))] [] (.seq (q [x 3 (.i 0)] [] (.blk 0 K.vZ)) (q [m v2,x 1 l0] [] .ret)))),res:=[(1,none)]}
def eL:Fn:= { aU:=3,vars:=[0,1,2,3,4,6],body:=(q [w 3 (.bx v0 2),w 4 (.bx v1 1),x 5 (.i 0)] [] (.seq (.ite [h 2 v3,h 1 v4,u (.ca N.cR 0 [] [.l 1,.l 0]),u (.un .not l0)] [] 0 (q [x 5 (.i 6)] [] .ret) .skip) (.seq (.ite [f 0 v4,g l0,a 2 l0 (.i 0),f 0 l0,g l0,m v2,u (.ca N.dk 0 [] [.l 1,.l 0]),u (.bin .lss l0 (.i 0))] [] 0 (q [x 5 (.i 41)] [] .ret) .skip) (q [x 5 (.i 0)] [] .ret)))),res:=[(5,none)]}
def kB:C:= (.seq (.ite [m v3,m v0,u (.ln l0),u (.bin .lss l2 l0)] [] 0 .skip (.exit 0)) (.seq (.blk 1 (.ite [m v0,m v3,a 1 l1 l0,g l0,m v1,u (.bin .eql l1 l0)] [] 0 (q [m v3,x 2 l0] [] .ret) .skip)) (.reg [m v3,u (.bin .add l0 (.i 1)),x 3 l0] [])))
def sA:C:= .loop true [2] K.kB
def dk:Fn:= { aU:=2,vars:=[0,1,4,5],body:=(q [x 2 (.i 0)] [] (.seq (q [x 3 (.i 0)] [] (.blk 0 K.sA)) (q [w 2 (.mv (.i (-1)))] [] .ret))),res:=[(2,none)]}
def nS:C:= (.seq (.ite [m v12,m v2,u (.ln l0),u (.bin .lss l2 l0)] [] 0 .skip (.exit 0)) (.seq (.blk 1 (q [m v2,m v12,a 1 l1 l0,g l0,x 13 l0] [] (.ite [f 1 v6,g l0,m v13,a 1 l1 l0,g l0,m v4,u (.bin .leq l1 l0)] [] 0 (.reg [m v10,m v13,f 1 v6,g l0,m v13,a 1 l1 l0,g l0,a 1 l6 l5,u (.st l0 l1 1 []),x 11 (.b true)] []) .skip))) (.reg [m v12,u (.bin .add l0 (.i 1)),x 12 l0] [])))
def yp:C:= .loop true [0,1,8,9,13] K.nS
def iX:Fn:= { aU:=5,vars:=[0,1,2,3,4,5,6,10,11,12,13,14,15,16],body:=(q [w 5 (.bx v0 2),w 6 (.bx v1 2),w 7 (.al [z0,.nil] []),x 8 (.i 0)] [] (.seq (q [h 2 v5,h 2 v6,m v2,m v3,m v4,u (.ca N.cT 0 [] [.l 4,.l 3,.l 2,.l 1,.l 0]),x 9 l0] [] (.ite [m v9,u (.bin .neq l0 (.i 0))] [] 0 (q [h 2 v6,u (.ca N.b9 0 [] [.l 0]),m v9,u (.st v7 l1 2 []),x 8 l1] [] .ret) .skip)) (.seq (.ite [m v3,f 0 v6,g l0,u (.bin .lss l2 l0)] [] 0 (q [h 2 v6,u (.ca N.b9 0 [] [.l 0]),u (.st v7 l0 2 []),x 8 (.i 42)] [] .ret) .skip) (q [f 0 v5,g l0,u (.ln l0),u (.ca N.gk 1 [] [.l 0]),x 10 l0] [] (q [x 11 (.b false)] [] (.seq (q [x 12 (.i 0)] [] (.blk 0 K.yp)) (.seq (.ite [m v11,u (.un .not l0)] [] 0 (q [h 2 v6,u (.ca N.b9 0 [] [.l 0]),u (.st v7 l0 2 []),x 8 (.i 43)] [] .ret) .skip) (q [m v4,h 2 v5,m v10,m v3,u (.ca N.eb 0 [] [.l 2,.l 1,.l 0]),u (.bd [z0,.nil] [(0,1,.l 4),(1,1,.l 0)]),u (.st v7 l0 2 []),x 8 (.i 0)] [] .ret)))))))),res:=[(7,some (2,true)),(8,none)]}
def ns:C:= (.seq (.ite [m v12,m v2,u (.ln l0),u (.bin .lss l2 l0)] [] 0 .skip (.exit 0)) (.seq (.blk 1 (.reg [m v11,m v2,m v12,a 1 l1 l0,g l0,a 1 l4 l0,u (.st l0 (.i 1099511627776) 1 [])] [])) (.reg [m v12,u (.bin .add l0 (.i 1)),x 12 l0] [])))
def sB:C:= .loop true [0,1,3,7,9,10] K.ns
def dm:Fn:= { aU:=6,vars:=[0,1,2,3,4,5,6,7,12,13,14,15,16],body:=(q [w 6 (.bx v0 2),w 7 (.bx v1 2),w 8 (.al [z0,.nil] []),x 9 (.i 0)] [] (.seq (q [h 2 v6,h 2 v7,m v2,m v3,m v4,u (.ca N.cT 0 [] [.l 4,.l 3,.l 2,.l 1,.l 0]),x 10 l0] [] (.ite [m v10,u (.bin .neq l0 (.i 0))] [] 0 (q [h 2 v7,u (.ca N.b9 0 [] [.l 0]),m v10,u (.st v8 l1 2 []),x 9 l1] [] .ret) .skip)) (.seq (.ite [m v5,u (.ca N.dN 0 [] [.l 0]),u (.un .not l0)] [] 0 (q [h 2 v7,u (.ca N.b9 0 [] [.l 0]),u (.st v8 l0 2 []),x 9 (.i 8)] [] .ret) .skip) (.seq (.ite [m v4,f 0 v7,g l0,u (.bin .lss l2 l0)] [] 0 (q [h 2 v7,u (.ca N.b9 0 [] [.l 0]),u (.st v8 l0 2 []),x 9 (.i 42)] [] .ret) .skip) (.seq (.ite [m v4,m v3,f 0 v7,g l0,u (.mx [.l 2,.l 0]),u (.bin .sub l4 l0),m v5,u (.bin .leq l1 l0)] [] 0 (q [h 2 v7,u (.ca N.b9 0 [] [.l 0]),u (.st v8 l0 2 []),x 9 (.i 0)] [] .ret) .skip) (q [f 1 v7,g l0,u (.app (.c (.nil)) l0 true 1),x 11 l0] [] (.seq (q [x 12 (.i 0)] [] (.blk 0 K.sB)) (q [m v4,h 2 v6,h 2 v6,m v11,m v4,m v5,u (.bin .sub l1 l0),m v2,u (.ca N.fL 0 [3] [.l 5,.l 4,.l 1,.l 0]),m v4,u (.ca N.eb 0 [] [.l 8,.l 1,.l 0]),u (.bd [z0,.nil] [(0,1,.l 10),(1,1,.l 0)]),u (.st v8 l0 2 []),x 9 (.i 0)] [(1,9)] .ret)))))))),res:=[(8,some (2,true)),(9,none)]}
def lG:C:= (.its [u (.bin .lss v6 v5)] [] 0 .skip (.exit 0) (.seq (.blk 1 (q [m v6,x 4 l0] [] (.ite [m v1,m v4,u (.cw l1 0 [] [.l 0])] [] 0 (.reg [m v3,m v4,u (.bs [.l 0] 1),u (.app l2 l0 true 1),x 3 l0] []) .skip))) (.reg [u (.bin .add v6 (.i 1)),x 6 l0] [])))
def uo:C:= .loop true [0,2,4] K.lG
def eM:Fn:= { aU:=2,vars:=[0,1,4,5,6,7,8],body:=(q [w 2 (.mv (.c (.nil)))] [] (q [w 3 (.nw 1)] [] (.seq (q [x 5 v0,x 6 (.i 0)] [] (.blk 0 K.uo)) (q [m v3,x 2 l0] [] .ret)))),res:=[(2,none)]}
def aJ:Fn:= { aU:=2,vars:=[0,1,4],body:=(q [x 2 (.b false)] [] (q [m v0,m v1,u (.ca N.bB 0 [] [.l 1,.l 0]),u (.bin .geq l0 (.i 0)),x 2 l0] [] .ret)),res:=[(2,none)]}
def aZ:Fn:= { aU:=2,vars:=[0,1,4],body:=(q [x 2 (.b false)] [] (q [m v0,m v1,u (.ca N.bq 0 [] [.l 1,.l 0]),u (.bin .geq l0 (.i 0)),x 2 l0] [] .ret)),res:=[(2,none)]}
def dv:Fn:= { aU:=3,vars:=[0,1,2,3,4,5,6],body:=(q [w 3 (.bx v0 1),w 4 (.bx v1 1),w 5 (.bx v2 1),w 6 (.mv (.c (.nil)))] [] (q [u (.mf N.b6 [.v 3,.v 4,.v 5]),u (.ca N.eM 0 [] [.i 64,.l 0]),x 6 l0] [] .ret)),res:=[(6,none)]}
def iw:Fn:= { aU:=3,vars:=[0,1,2,3,6],body:=(q [w 3 (.bx v0 2),x 4 (.b false)] [] (q [m v1,f 0 v3,g l0,u (.bin .leq l2 l0),m l0,y 0 true (.fa v3 0),i 1 true l0,y 2 true (.fa v3 1),i 3 true l0,y 4 true (.bin .leq l2 l0),u (.pk l5 l0 (.b false)),m l0,y 0 true (.fa v3 1),i 1 true l0,e 2 true v2,y 3 true (.bin .leq l1 l0),u (.pk l4 l0 (.b false)),x 4 l0] [] .ret)),res:=[(4,none)]}
def dN:Fn:= { aU:=1,vars:=[0,2],body:=(q [x 1 (.b false)] [] (q [m v0,u (.bin .geq l0 (.i 0)),m l0,e 0 true v0,y 1 true (.bin .leq l0 (.i 2147483648)),u (.pk l2 l0 (.b false)),x 1 l0] [] .ret)),res:=[(1,none)]}
def ot:C:= (.seq (.ite [m v3,m v0,u (.bin .lss l1 l0)] [] 0 .skip (.exit 0)) (.seq (.blk 1 (.reg [m v2,u (.bs [.i 1099511627776] 1),u (.app l1 l0 true 1),x 2 l0] [])) (.reg [m v3,u (.bin .add l0 (.i 1)),x 3 l0] [])))
def uq:C:= .loop true [1] K.ot
def gk:Fn:= { aU:=1,vars:=[0,2,3,4],body:=(q [w 1 (.mv (.c (.nil)))] [] (q [w 2 (.nw 1)] [] (.seq (q [x 3 (.i 0)] [] (.blk 0 K.uq)) (q [m v2,x 1 l0] [] .ret)))),res:=[(1,none)]}
def eb:Fn:= { aU:=3,vars:=[0,1,2,3,6],body:=(q [w 3 (.bx v0 2),w 4 (.mv (.c (.nil)))] [] (q [h 2 v3,m v1,m v2,u (.ca N.fL 0 [3] [.l 2,.l 1,.l 0,.c (.nil)]),x 4 l0] [] .ret)),res:=[(4,none)]}
def ja:C:= (.seq (.ite [m v3,m v0,u (.ln l0),u (.bin .lss l2 l0),m l0,e 0 true v3,e 1 true v1,y 2 true (.ln l0),y 3 true (.bin .lss l2 l0),u (.pk l4 l0 (.b false))] [] 0 .skip (.exit 0)) (.seq (.blk 1 (.ite [m v0,m v3,a 1 l1 l0,g l0,m v1,m v3,a 1 l1 l0,g l0,u (.bin .neq l4 l0)] [] 0 (q [m v0,m v3,a 1 l1 l0,g l0,m v1,m v3,a 1 l1 l0,g l0,u (.bin .lss l4 l0),x 2 l0] [] .ret) .skip)) (.reg [m v3,u (.bin .add l0 (.i 1)),x 3 l0] [])))
def wc:C:= .loop true [2] K.ja
def iy:Fn:= { aU:=2,vars:=[0,1,4,5],body:=(q [x 2 (.b false)] [] (.seq (q [x 3 (.i 0)] [] (.blk 0 K.wc)) (q [m v0,u (.ln l0),m v1,u (.ln l0),u (.bin .lss l2 l0),x 2 l0] [] .ret))),res:=[(2,none)]}
def fK:Fn:= { aU:=2,vars:=[0,1,2,3,4],body:=(q [w 2 (.bx v0 2),w 3 (.bx v1 2),x 4 (.b false)] [] (q [h 2 v2,u (.ca N.dj 0 [] [.l 0]),u (.bin .eql l0 (.i 0)),m l0,y 0 true (.ld v3 2 true),y 1 true (.fa v2 0),i 2 true l0,y 3 true (.ln l0),y 4 true (.ca N.dG 0 [] [.l 3,.l 0]),u (.pk l5 l0 (.b false)),m l0,y 0 true (.ld v2 2 true),y 1 true (.fa v3 1),i 2 true l0,y 3 true (.fa v3 0),i 4 true l0,y 5 true (.ca N.eb 0 [] [.l 4,.l 2,.l 0]),y 6 true (.fa v3 1),i 7 true l0,y 8 true (.ca N.b5 0 [] [.l 2,.l 0]),u (.pk l9 l0 (.b false)),x 4 l0] [(18,9)] .ret)),res:=[(4,none)]}
def b9:Fn:= { aU:=1,vars:=[0,1,2],body:=(q [w 1 (.bx v0 2),w 2 (.al [z0,.nil] [])] [] (q [f 0 v1,g l0,f 1 v1,g l0,u (.app (.c (.nil)) l0 true 1),u (.bd [z0,.nil] [(0,1,.l 3),(1,1,.l 0)]),u (.st v2 l0 2 [])] [(1,5)] .ret)),res:=[(2,some (2,true))]}
def jx:C:= (.seq (.ite [m v3,m v0,u (.ln l0),u (.bin .lss l2 l0)] [] 0 .skip (.exit 0)) (.seq (.blk 1 (.ite [m v0,m v3,a 1 l1 l0,g l0,m v1,m v3,a 1 l1 l0,g l0,u (.bin .neq l4 l0)] [] 0 (q [x 2 (.b false)] [] .ret) .skip)) (.reg [m v3,u (.bin .add l0 (.i 1)),x 3 l0] [])))
def p9:C:= .loop true [2] K.jx
def b5:Fn:= { aU:=2,vars:=[0,1,4,5],body:=(q [x 2 (.b false)] [] (.seq (.ite [m v0,u (.ln l0),m v1,u (.ln l0),u (.bin .neq l2 l0)] [] 0 (q [x 2 (.b false)] [] .ret) .skip) (.seq (q [x 3 (.i 0)] [] (.blk 0 K.p9)) (q [x 2 (.b true)] [] .ret)))),res:=[(2,none)]}
def pn:C:= (.seq (.ite [m v7,f 1 v2,g l0,u (.ln l0),u (.bin .lss l3 l0)] [] 0 .skip (.exit 0)) (.seq (.blk 1 (.reg [f 1 v6,g l0,f 1 v2,g l0,m v7,a 1 l1 l0,g l0,f 1 v3,g l0,m v7,a 1 l1 l0,g l0,u (.mn [.l 5,.l 0]),u (.bs [.l 0] 1),u (.app (.l 12) l0 true 1),f 1 v6,u (.st l0 l1 1 [])] [(1,14)])) (.reg [m v7,u (.bin .add l0 (.i 1)),x 7 l0] [])))
def we:C:= .loop true [0,1,5] K.pn
def iz:Fn:= { aU:=2,vars:=[0,1,2,3,4,5,6,7],body:=(q [w 2 (.bx v0 2),w 3 (.bx v1 2),w 4 (.al [z0,.nil] []),x 5 (.i 0)] [] (.seq (.ite [f 1 v2,g l0,u (.ln l0),f 1 v3,g l0,u (.ln l0),u (.bin .neq l3 l0)] [] 0 (q [u (.bd [z0,.nil] []),u (.st v4 l0 2 []),x 5 (.i 6)] [] .ret) .skip) (q [f 0 v2,g l0,f 0 v3,g l0,u (.mx [.l 2,.l 0]),u (.bd [z0,.nil] [(0,1,.l 0)]),w 6 (.al [z0,.nil] [(1,1)]),u (.st l0 l1 2 [(1,1)])] [] (.seq (q [x 7 (.i 0)] [] (.blk 0 K.we)) (q [h 2 v6,u (.st v4 l0 2 []),x 5 (.i 0)] [] .ret))))),res:=[(4,some (2,true)),(5,none)]}
def cT:Fn:= { aU:=5,vars:=[0,1,2,3,4,5,6,10],body:=(q [w 5 (.bx v0 2),w 6 (.bx v1 2),x 7 (.i 0)] [] (.seq (.ite [h 2 v5,h 2 v6,u (.ca N.fK 0 [] [.l 1,.l 0]),u (.un .not l0),m l0,e 0 false v2,y 1 false (.ln l0),y 2 false (.bin .eql l0 (.i 0)),u (.pk l3 (.b true) l0),m l0,e 0 false v2,y 1 false (.fa v5 0),i 2 false l0,y 3 false (.ln l0),y 4 false (.ca N.ke 0 [] [.l 3,.l 0]),y 5 false (.un .not l0),u (.pk l6 (.b true) l0)] [] 0 (q [x 7 (.i 6)] [] .ret) .skip) (.seq (.ite [m v3,u (.ca N.dN 0 [] [.l 0]),u (.un .not l0),m l0,e 0 false v4,y 1 false (.ca N.dN 0 [] [.l 0]),y 2 false (.un .not l0),u (.pk l3 (.b true) l0),m l0,e 0 false v3,e 1 false v4,y 2 false (.bin .gtr l1 l0),u (.pk l3 (.b true) l0)] [] 0 (q [x 7 (.i 8)] [] .ret) .skip) (q [x 7 (.i 0)] [] .ret)))),res:=[(7,none)]}
def fp:C:= (.seq (.ite [m v8,f 1 v4,g l0,u (.ln l0),u (.bin .lss l3 l0)] [] 0 .skip (.exit 2)) (.seq (.blk 3 (q [f 1 v4,g l0,m v8,a 10 l1 l0,h 10 l0,w 9 (.al [z0,z0,z0,z0,z1,z1,z0,z0,z0,z0] []),u (.st l0 l1 10 [])] [] (.seq (.ite [m v3,u (.eqk (.sl) false l0 (.c (.nil))),m l0,e 0 false v3,y 1 false (.fa v9 1),i 2 false l0,y 3 false (.ca N.iW 0 [] [.l 2,.l 0]),u (.pk l4 (.b true) l0),m l0,e 0 true v6,y 1 true (.fa v9 0),i 2 true l0,y 3 true (.fa v9 1),i 4 true l0,y 5 true (.ld v4 2 true),e 6 true v8,y 7 true (.ca N.iC 0 [] [.l 1,.l 0,.b false]),e 8 true v2,y 9 true (.ca N.dH 0 [0] [.l 8,.l 6,.l 4,.l 1,.l 0]),u (.pk l10 l0 (.b false))] [(11,17),(13,17)] 0 (.reg [x 7 (.b true)] []) .skip) (.ite [m v3,u (.eqk (.sl) false l0 (.c (.nil))),m l0,e 0 false v3,y 1 false (.fa v9 0),i 2 false l0,y 3 false (.ca N.iW 0 [] [.l 2,.l 0]),u (.pk l4 (.b true) l0),m l0,e 0 true v6,y 1 true (.fa v9 1),i 2 true l0,y 3 true (.fa v9 0),i 4 true l0,y 5 true (.ld v4 2 true),e 6 true v8,y 7 true (.ca N.iC 0 [] [.l 1,.l 0,.b true]),e 8 true v2,y 9 true (.ca N.dH 0 [0] [.l 8,.l 6,.l 4,.l 1,.l 0]),u (.pk l10 l0 (.b false))] [(11,17),(13,17)] 0 (.reg [x 7 (.b true)] []) .skip)))) (.reg [m v8,u (.bin .add l0 (.i 1)),x 8 l0] [])))
def ur:C:= .loop true [0,1,5,9] K.fp
def lH:C:= (.seq (.ite [m v7] [] 0 .skip (.exit 0)) (.blk 1 (q [x 7 (.b false)] [] (q [x 8 (.i 0)] [] (.blk 2 K.ur)))))
def uu:C:= .loop true [0,1,5,8,9] K.lH
def fL:Fn:= { aU:=4,vars:=[0,1,2,3,4,8,9,10,11,12],body:=(q [w 4 (.bx v0 2),w 5 (.mv (.c (.nil)))] [] (q [m v1,u (.app (.c (.nil)) l0 true 1),x 6 l0] [] (.seq (q [x 7 (.b true)] [] (.blk 0 K.uu)) (q [m v6,x 5 l0] [] .ret)))),res:=[(5,none)]}
def dS:C:= (.its [u (.bin .lss v5 v4)] [] 0 .skip (.exit 0) (.seq (.blk 1 (q [m v5,x 3 l0] [] (.ite [m v1,m v0,m v3,a 1 l1 l0,g l0,u (.cw l4 0 [] [.l 0])] [] 0 (q [m v3,x 2 l0] [] .ret) .skip))) (.reg [u (.bin .add v5 (.i 1)),x 5 l0] [])))
def jG:C:= .loop true [2,3] K.dS
def bB:Fn:= { aU:=2,vars:=[0,1,4,5,7,8],body:=(q [x 2 (.i 0)] [] (.seq (q [m v0,w 4 (.ln l0),x 5 (.i 0)] [] (.blk 0 K.jG)) (q [w 2 (.mv (.i (-1)))] [] .ret))),res:=[(2,none)]}
def fG:C:= (.its [u (.bin .lss v5 v4)] [] 0 .skip (.exit 0) (.seq (.blk 1 (q [m v5,x 3 l0] [] (.ite [m v1,m v0,m v3,a 1 l1 l0,g l0,u (.bin .eql l4 l0)] [] 0 (q [m v3,x 2 l0] [] .ret) .skip))) (.reg [u (.bin .add v5 (.i 1)),x 5 l0] [])))
def lI:C:= .loop true [2,3] K.fG
def bq:Fn:= { aU:=2,vars:=[0,1,4,5,7,8],body:=(q [x 2 (.i 0)] [] (.seq (q [m v0,w 4 (.ln l0),x 5 (.i 0)] [] (.blk 0 K.lI)) (q [w 2 (.mv (.i (-1)))] [] .ret))),res:=[(2,none)]}
def b6:Fn:= { aU:=4,vars:=[0,1,2,3,4,5],body:=(q [w 4 (.bx v0 1),x 5 (.b false)] [] (q [f 0 v1,g l0,u (.mf N.bD [.v 2,.v 4,.v 3]),u (.ca N.aA 0 [] [.l 1,.l 0]),x 5 l0] [] .ret)),res:=[(5,none)]}
def aA:Fn:= { aU:=2,vars:=[0,1,4],body:=(q [x 2 (.b false)] [] (q [m v0,m v1,u (.ca N.aI 0 [] [.l 1,.l 0]),u (.bin .geq l0 (.i 0)),x 2 l0] [] .ret)),res:=[(2,none)]}
def bD:Fn:= { aU:=4,vars:=[0,1,2,3,4,5],body:=(q [w 4 (.bx v0 2),x 5 (.b false)] [] (q [g v1,f 1 v4,g l0,u (.ln l0),u (.bin .sub l0 (.i 1)),u (.ca N.cQ 0 [] [.l 4,.i 0,.l 0]),m l0,i 0 true v2,y 1 true (.fa v4 1),i 2 true l0,i 3 true v1,y 4 true (.ia l1 l0 2),y 5 true (.fa l0 1),i 6 true l0,y 7 true (.ln l0),y 8 true (.bin .lss l7 l0),u (.pk l9 l0 (.b false)),m l0,y 0 true (.fa v4 1),i 1 true l0,i 2 true v1,y 3 true (.ia l1 l0 2),y 4 true (.fa l0 1),i 5 true l0,i 6 true v2,y 7 true (.ia l1 l0 1),i 8 true l0,i 9 true v3,y 10 true (.bin .leq l1 l0),u (.pk l11 l0 (.b false)),x 5 l0] [] .ret)),res:=[(5,none)]}
def cQ:Fn:= { aU:=3,vars:=[0,1,2,6],body:=(q [x 3 (.b false)] [] (q [m v0,m v1,u (.bin .geq l1 l0),m l0,e 0 true v0,e 1 true v2,y 2 true (.bin .leq l1 l0),u (.pk l3 l0 (.b false)),x 3 l0] [] .ret)),res:=[(3,none)]}
def iE:C:= (.seq (.ite [m v4,f 1 v2,g l0,u (.ln l0),u (.bin .lss l3 l0)] [] 0 .skip (.exit 0)) (.seq (.blk 1 (.ite [f 1 v2,g l0,m v4,a 1 l1 l0,g l0,u (.bin .neq l0 (.i 1099511627776)),m l0,y 0 true (.fa v2 1),i 1 true l0,e 2 true v4,y 3 true (.ia l1 l0 1),i 4 true l0,y 5 true (.bin .lss l0 (.i 0)),e 6 true l0,y 0 false (.fa v2 1),i 1 false l0,e 2 false v4,y 3 false (.ia l1 l0 1),i 4 false l0,y 5 false (.bin .gtr l0 (.i 2147483648)),y 13 true (.pk l6 (.b true) l0),u (.pk (.l 14) l0 (.b false))] [] 0 (q [x 3 (.b false)] [] .ret) .skip)) (.reg [m v4,u (.bin .add l0 (.i 1)),x 4 l0] [])))
def uv:C:= .loop true [0,1,3] K.iE
def dG:Fn:= { aU:=2,vars:=[0,1,2,4,5],body:=(q [w 2 (.bx v0 2),x 3 (.b false)] [] (.seq (.ite [f 1 v2,g l0,u (.ln l0),m v1,u (.bin .neq l1 l0),m l0,y 0 false (.fa v2 0),i 1 false l0,y 2 false (.bin .lss l0 (.i 0)),u (.pk l3 (.b true) l0),m l0,y 0 false (.fa v2 0),i 1 false l0,y 2 false (.bin .gtr l0 (.i 2147483648)),u (.pk l3 (.b true) l0)] [] 0 (q [x 3 (.b false)] [] .ret) .skip) (.seq (q [x 4 (.i 0)] [] (.blk 0 K.uv)) (q [x 3 (.b true)] [] .ret)))),res:=[(3,none)]}
def dH:Fn:= { aU:=5,vars:=[0,1,2,3,4,10,11],body:=(q [x 5 (.b false)] [] (.seq (.ite [m v3,u (.bin .lss l0 (.i 0)),m l0,e 0 false v0,e 1 false v1,y 2 false (.ia l1 l0 1),i 3 false l0,y 4 false (.bin .geq l0 (.i 1099511627776)),u (.pk l5 (.b true) l0)] [] 0 (q [x 5 (.b false)] [] .ret) .skip) (q [m v4,m v0,m v1,a 1 l1 l0,g l0,m v3,u (.bin .add l1 l0),u (.mx [.l 6,.l 0]),x 6 l0] [] (.seq (.ite [m v6,u (.bin .gtr l0 (.i 2147483648)),m l0,e 0 false v6,e 1 false v0,e 2 false v2,y 3 false (.ia l1 l0 1),i 4 false l0,y 5 false (.bin .geq l4 l0),u (.pk l6 (.b true) l0)] [] 0 (q [x 5 (.b false)] [] .ret) .skip) (q [m v0,m v2,m v6,a 1 l2 l1,u (.st l0 l1 1 [])] [] (q [x 5 (.b true)] [] .ret)))))),res:=[(5,none)]}
def iC:Fn:= { aU:=3,vars:=[0,1,2,3,6],body:=(q [w 3 (.bx v0 2),x 4 (.i 0)] [] (q [h 2 v3,m v1,m v2,u (.ca N.cu 0 [] [.l 2,.l 1,.l 0,.i 6,.i 9,.i 12]),x 4 l0] [] .ret)),res:=[(4,none)]}
def bS:C:= (.its [u (.bin .lss v5 v4)] [] 0 .skip (.exit 0) (.seq (.blk 1 (q [m v5,x 3 l0] [] (.ite [m v1,m v0,m v3,a 2 l1 l0,h 2 l0,u (.cw l4 0 [] [.l 0])] [] 0 (q [m v3,x 2 l0] [] .ret) .skip))) (.reg [u (.bin .add v5 (.i 1)),x 5 l0] [])))
def fq:C:= .loop true [2,3] K.bS
def aI:Fn:= { aU:=2,vars:=[0,1,4,5,7,8],body:=(q [x 2 (.i 0)] [] (.seq (q [m v0,w 4 (.ln l0),x 5 (.i 0)] [] (.blk 0 K.fq)) (q [w 2 (.mv (.i (-1)))] [] .ret))),res:=[(2,none)]}
def cu:Fn:= { aU:=6,vars:=[0,1,2,3,4,5,6,12,13,14,15,16,17],body:=(q [w 6 (.bx v0 2),x 7 (.i 0)] [] (.seq (.ite [h 2 v6,u (.ca N.dj 0 [] [.l 0]),u (.bin .neq l0 (.i 0)),m l0,e 0 false v1,y 1 false (.bin .lss l0 (.i 0)),u (.pk l2 (.b true) l0),m l0,e 0 false v1,y 1 false (.fa v6 1),i 2 false l0,y 3 false (.ln l0),y 4 false (.bin .geq l3 l0),u (.pk l5 (.b true) l0),m l0,y 0 false (.fa v6 1),i 1 false l0,e 2 false v1,y 3 false (.ia l1 l0 10),y 4 false (.fa l0 5),i 5 false l0,u (.pk l6 (.b true) l0),m l0,y 0 false (.fa v6 1),i 1 false l0,e 2 false v1,y 3 false (.ia l1 l0 10),y 4 false (.fa l0 4),i 5 false l0,y 6 false (.un .not l0),u (.pk l7 (.b true) l0)] [] 0 (q [w 7 (.mv (.i (-1)))] [] .ret) .skip) (q [f 1 v6,g l0,m v1,a 10 l1 l0,h 10 l0,w 8 (.al [z0,z0,z0,z0,z1,z1,z0,z0,z0,z0] []),u (.st l0 l1 10 [])] [] (q [h 10 v8,m v2,u (.ca N.i7 0 [] [.l 1,.l 0]),m l0,u (.ex l0 0),u (.ex l1 1),x 9 l1,x 10 l1] [] (q [f 0 v6,g l0,m v10,a 2 l1 l0,f 0 l0,g l0,f 0 v6,g l0,m v9,a 2 l1 l0,f 0 l0,g l0,u (.bin .sub l6 l0),x 11 l0] [] (q [m v5,x 12 l0] [] (.seq (.ite [m v11,u (.bin .mul (.i 10) l0),f 2 v8,g l0,u (.bin .gtr l2 l0)] [] 0 (.reg [m v3,x 12 l0] []) .skip) (.seq (.ite [m v11,u (.bin .mul (.i (-10)) l0),f 2 v8,g l0,u (.bin .gtr l2 l0)] [] 0 (.reg [m v4,x 12 l0] []) .skip) (q [f 2 v8,g l0,u (.bin .mul (.i 10) l0),m v12,u (.bin .add l1 l0),u (.bin .sub l0 (.i 1)),m v12,u (.bin .quo l1 l0),x 7 l0] [] .ret))))))))),res:=[(7,none)]}
def i7:Fn:= { aU:=2,vars:=[0,1,2,4,5],body:=(q [w 2 (.bx v0 10),x 3 (.i 0),x 4 (.i 0)] [] (.seq (.ite [m v1] [] 0 (q [f 1 v2,g l0,f 0 v2,g l0,x 3 l2,x 4 l1] [] .ret) .skip) (q [f 0 v2,g l0,f 1 v2,g l0,x 3 l2,x 4 l1] [] .ret))),res:=[(3,none),(4,none)]}
end Go.Ev.K
namespace Go.Ev
class bZ [Lib]:Prop where
 oS:Lib.fs N.ei=some K.ei
 qM:Lib.fs N.cR=some K.cR
 jQ:Lib.fs N.bE=some K.bE
 sC:Lib.fs N.i5=some K.i5
 qN:Lib.fs N.eJ=some K.eJ
 sD:Lib.fs N.i6=some K.i6
 qO:Lib.fs N.eL=some K.eL
 po:Lib.fs N.dk=some K.dk
 uW:Lib.fs N.iX=some K.iX
 pq:Lib.fs N.dm=some K.dm
 qP:Lib.fs N.eM=some K.eM
 fM:Lib.fs N.aJ=some K.aJ
 ig:Lib.fs N.aZ=some K.aZ
 nu:Lib.fs N.dv=some K.dv
 sE:Lib.fs N.iw=some K.iw
 pt:Lib.fs N.dN=some K.dN
 qQ:Lib.fs N.gk=some K.gk
 qR:Lib.fs N.eb=some K.eb
 sF:Lib.fs N.iy=some K.iy
 qS:Lib.fs N.fK=some K.fK
 oT:Lib.fs N.b9=some K.b9
 ny:Lib.fs N.b5=some K.b5
 sG:Lib.fs N.iz=some K.iz
 qT:Lib.fs N.cT=some K.cT
 qU:Lib.fs N.fL=some K.fL
 gI:Lib.fs N.bB=some K.bB
 jg:Lib.fs N.bq=some K.bq
 lJ:Lib.fs N.b6=some K.b6
 cH:Lib.fs N.aA=some K.aA
 j5:Lib.fs N.bD=some K.bD
 xu:Lib.fs N.cQ=some K.cQ
 qV:Lib.fs N.dG=some K.dG
 qW:Lib.fs N.dH=some K.dH
 sH:Lib.fs N.iC=some K.iC
 c7:Lib.fs N.aI=some K.aI
 pv:Lib.fs N.cu=some K.cu
 sI:Lib.fs N.i7=some K.i7
namespace K
variable [Lib] [bZ]
theorem oS:Lib.fs N.ei=some K.ei:=bZ.oS
theorem qM:Lib.fs N.cR=some K.cR:=bZ.qM
theorem jQ:Lib.fs N.bE=some K.bE:=bZ.jQ
theorem sC:Lib.fs N.i5=some K.i5:=bZ.sC
theorem qN:Lib.fs N.eJ=some K.eJ:=bZ.qN
theorem sD:Lib.fs N.i6=some K.i6:=bZ.sD
theorem qO:Lib.fs N.eL=some K.eL:=bZ.qO
theorem po:Lib.fs N.dk=some K.dk:=bZ.po
theorem uW:Lib.fs N.iX=some K.iX:=bZ.uW
theorem pq:Lib.fs N.dm=some K.dm:=bZ.pq
theorem qP:Lib.fs N.eM=some K.eM:=bZ.qP
theorem fM:Lib.fs N.aJ=some K.aJ:=bZ.fM
theorem ig:Lib.fs N.aZ=some K.aZ:=bZ.ig
theorem nu:Lib.fs N.dv=some K.dv:=bZ.nu
theorem sE:Lib.fs N.iw=some K.iw:=bZ.sE
theorem pt:Lib.fs N.dN=some K.dN:=bZ.pt
theorem qQ:Lib.fs N.gk=some K.gk:=bZ.qQ
theorem qR:Lib.fs N.eb=some K.eb:=bZ.qR
theorem sF:Lib.fs N.iy=some K.iy:=bZ.sF
theorem qS:Lib.fs N.fK=some K.fK:=bZ.qS
theorem oT:Lib.fs N.b9=some K.b9:=bZ.oT
theorem ny:Lib.fs N.b5=some K.b5:=bZ.ny
theorem sG:Lib.fs N.iz=some K.iz:=bZ.sG
theorem qT:Lib.fs N.cT=some K.cT:=bZ.qT
theorem qU:Lib.fs N.fL=some K.fL:=bZ.qU
theorem gI:Lib.fs N.bB=some K.bB:=bZ.gI
theorem jg:Lib.fs N.bq=some K.bq:=bZ.jg
theorem lJ:Lib.fs N.b6=some K.b6:=bZ.lJ
theorem cH:Lib.fs N.aA=some K.aA:=bZ.cH
theorem j5:Lib.fs N.bD=some K.bD:=bZ.j5
theorem xu:Lib.fs N.cQ=some K.cQ:=bZ.xu
theorem qV:Lib.fs N.dG=some K.dG:=bZ.qV
theorem qW:Lib.fs N.dH=some K.dH:=bZ.qW
theorem sH:Lib.fs N.iC=some K.iC:=bZ.sH
theorem c7:Lib.fs N.aI=some K.aI:=bZ.c7
theorem pv:Lib.fs N.cu=some K.cu:=bZ.pv
theorem sI:Lib.fs N.i7=some K.i7:=bZ.sI
end K
end Go.Ev
namespace Go.Ev
open Go
variable [Lib]
noncomputable def aH:aV:=oc Lib.fs
theorem av{raw f:Nat}{args:List D}{H:ah}{fn:Fn}{r:D×ah}(hf:Lib.fs f=some fn)(hn:fn.aU=args.length)
 (h:(exS aH fn.body ⟨ud args fn.vars,H⟩).bind (abG fn.res H.length raw)=some r) (h0:fn.prim=[]:=by rfl):aH raw f args H=some r:=SZ hf hn h h0
theorem EA{raw f:Nat}{args:List D}{H:ah}{fn:Fn}{r:D×ah}(hf:Lib.fs f=some fn)(h0:fn.prim≠[])(h:xd fn.prim args H=some r):aH raw f args H=some r:=JK hf h0 h
theorem dw{gc:Bool}{dead:List Nat}{c:C}{vs:List D}{H:ah}(s:Nat→St)(n:Nat){e:Ex}{st:St}
 (h0:(⟨lk dead vs,H⟩:St)=s 0) (h:∀j,j<n→dV gc dead (s j).H.length (exS aH c (s j))=some (s (j+1)))
 (he:exS aH c (s n)=some (e,st)) (hn:e≠ .normal):exS aH (.loop gc dead c) ⟨vs,H⟩=some (e,st):=by
 show nN gc dead (exS aH c) ⟨lk dead vs,H⟩=_
 rw[h0]
 exact zd s n h (dq he hn)
theorem xv{gc:Bool}{dead:List Nat}{c:C}{vs:List D}{H:ah}{p:Ex×St}(h:nN gc dead (exS aH c) ⟨lk dead vs,H⟩=some p):exS aH (.loop gc dead c) ⟨vs,H⟩=some p:=h
class Dat (α:Type) where
 dflt:α
instance : Dat Int := ⟨0⟩
instance : Dat Nat := ⟨0⟩
instance : Dat Bool := ⟨false⟩
instance {α : Type} : Dat (List α) := ⟨[]⟩
def nth{α:Type} [Dat α](l:List α)(j:Nat):α:=l.getD j Dat.dflt
theorem ff{α:Type} [Dat α]{l:List α}{j:Nat}(h:j<l.length):l[j]?=some (nth l j):=by simp[nth,h]
theorem cI{α β:Type} [Dat α](f:α→β){l:List α}{j:Nat}(h:j<l.length):(l.map f)[j]?=some (f (nth l j)):=by rw[aLn,ff h];rfl
theorem CQ{α β γ:Type} [Dat α](f:β→γ)(g:α→β){l:List α}{j:Nat}(h:j<l.length):((l.map g).map f)[j]?=some (f (g (nth l j))):=by rw[aLn,cI g h];rfl
theorem af{α:Type} [Dat α]{l:List α}{j:Nat}(h:j<l.length):nth l j∈l:=aLd (ff h)
theorem bP{α:Type} [Dat α]{l:List α}{j:Nat}{x:α}(h:l[j]?=some x):nth l j=x:=by simp[nth,h]
theorem jR{α:Type} [Dat α]{l:List α}{j:Nat}(h:j<l.length):l.take (j+1)=l.take j++[nth l j]:=by
 rw[List.take_succ_eq_append_getElem h];simp[nth,h]
theorem afQ{a b:Int}(h:a<b):(a<b)=True:=by simp[h]
theorem afR{a b:Int}(h:b≤a):(a<b)=False:=by simp[Int.not_lt.2 h]
theorem afS{a b:Int}(h:a≤b):(a≤b)=True:=by simp[h]
theorem afT{a b:Int}(h:b<a):(a≤b)=False:=by simp[Int.not_le.2 h]
theorem afU{a b:Int}(h:a=b):(a=b)=True:=by simp[h]
theorem afV{a b:Int}(h:a≠b):(a=b)=False:=by simp[h]
theorem afW{a b:Nat}(h:a<b):(a<b)=True:=by simp[h]
theorem afX{a b:Nat}(h:b≤a):(a<b)=False:=by simp[Nat.not_lt.2 h]
theorem afY{a b:Nat}(h:a≤b):(a≤b)=True:=by simp[h]
theorem afZ{a b:Nat}(h:b<a):(a≤b)=False:=by simp[Nat.not_le.2 h]
theorem af0{a b:Nat}(h:a=b):(a=b)=True:=by simp[h]
theorem af1{a b:Nat}(h:a≠b):(a=b)=False:=by simp[h]
attribute [go_sem] af0 af1 afQ afR afS afT afU afV afW afX afY afZ xq cI CQ Te
@[go_sem] theorem JV (a b : Nat) : ((a + b : Nat) : Int) = (a : Int) + (b : Int) := (rfl)
@[go_sem] theorem JW : ((1 : Nat) : Int) = 1 := (rfl)
@[go_sem] theorem GQ : ((0 : Nat) : Int) = 0 := (rfl)
@[go_sem] theorem aab (a b : Int) : a + b - b = a := Int.add_sub_cancel a b
@[go_sem] theorem Rh : (0 : Int).toNat = 0 := (rfl)
@[go_sem] theorem TW (n : Nat) : (n : Int).toNat = n := (rfl)
@[go_sem] theorem TX (n : Nat) : ((n : Int) + 1).toNat = n + 1 := (rfl)
@[go_sem] theorem TY (a : Int) : 0 + a = a := Int.zero_add a
@[go_sem] theorem TZ (a : Int) : a + 0 = a := Int.add_zero a
@[go_sem] theorem T0 (a : Int) : a - 0 = a := Int.sub_zero a
abbrev tI(n:Int):T:= .int .i64 n
abbrev tL(l:List Int):T:= .sl (l.map (.int .i64))
@[go_sem] theorem Pp (H : ah) (n : Nat) (ts : List T) (x : T) : bf (frz H n) (ts.map .t ++ [.t x]) = some (ts ++ [x]) := by
 have:ts.map D.t++[.t x]=(ts++[x]).map .t:=by simp
 rw[this,JO]
@[go_sem] theorem Ri {α β : Type} (f : α → β) (a b : List α) : (a ++ b).map f = a.map f ++ b.map f := List.map_append
end Go.Ev
namespace Go.Ev
open Go
variable [Lib] [cz] [bZ]
def Mod(n m:Int):Int:=if m<1 then 0 else if n.tmod m<0 then n.tmod m+m else n.tmod m
theorem L8(n m:Int):0≤Mod n m:=by
 unfold Mod
 split
 · omega
 · have h5:=Int.lt_tmod_of_pos n (b:=m) (by omega)
   split<;>omega
theorem L9(n m:Int)(h:1≤m):Mod n m<m:=by
 unfold Mod
 rw[if_neg (by omega)]
 have h3:=Int.tmod_lt_of_pos n (b:=m) (by omega)
 split<;>omega
theorem Ix(n m:Int)(hm:m≤4611686018427387904):aH 0 N.iP [I n,I m] []=some (I (Mod n m),[]):=by
 refine av K.xr rfl ?_
 unfold Mod
 by_cases h1:m<1
 · simp only[go_sem,K.iP,h1,↓reduceIte]
 · have h2:m≠0:=by omega
   have h3:=Int.tmod_lt_of_pos n (b:=m) (by omega)
   have h5:=Int.lt_tmod_of_pos n (b:=m) (by omega)
   by_cases h4:n.tmod m<0
   · simp(disch:=omega)only[go_sem,K.iP,h1,↓reduceIte,h2,h4]
   · simp(disch:=omega)only[go_sem,K.iP,h1,↓reduceIte,h2,h4]
theorem Pq(l:List Int):aH 0 N.i4 [.t (tL l)] []=some (B (decide (l.length≤400)),[]):=by
 refine av K.su rfl ?_
 simp(disch:=omega)only[go_sem,K.i4,↓reduceIte]
 simp only[show((l.length:Int)≤400)=(l.length≤400)by rw[eq_iff_iff];omega]
structure aE where
 L:List Int
 at_:Nat
def aE.obj(d:aE):Obj:= .box [.t (tL d.L),I d.at_]
def aE.dO(d:aE):Prop:=d.L.length≤400
def aE.next(d:aE)(n:Int):Int×aE:=if d.at_<d.L.length then(Mod (nth d.L d.at_) n,⟨d.L,d.at_+1⟩)else(0,d)
theorem aE.Rj(d:aE)(n:Int):(d.next n).2.L=d.L:=by unfold aE.next;split<;>rfl
theorem aE.a7{d:aE}(h:d.dO)(n:Int):(d.next n).2.dO:=by unfold aE.dO;rw[d.Rj];exact h
theorem aE.eE(d:aE)(n:Int):0≤(d.next n).1:=by unfold aE.next;split<;>simp[L8]
theorem aE.eG(d:aE){n:Int}(h:1≤n):(d.next n).1<n:=by unfold aE.next;split<;>simp[L9 _ _ h];omega
theorem ij(d:aE)(n:Int)(hn:n≤4611686018427387904)(hd:d.dO):aH 0 N.ax [.bp 0 0,I n] [d.obj]=some (I (d.next n).1,[(d.next n).2.obj]):=by
 refine av K.nf rfl ?_
 have hm:=Ix (nth d.L d.at_) n hn
 unfold aE.dO at hd
 unfold aE.next aE.obj
 by_cases h1:d.at_<d.L.length
 · simp(disch:=omega)only[go_sem,K.ax,↓reduceIte,↓if_pos,↓if_neg,Int.add_sub_cancel,hm,Int.natCast_add]
 · simp(disch:=omega)only[go_sem,K.ax,↓reduceIte,↓if_pos,↓if_neg]
@[go_sem] theorem ac9 (d : aE) : Iv (some d.obj) = [] := by simp only [aE.obj, go_sem]
@[go_sem] theorem ada (f : Nat → Option Nat) (d : aE) : b7 f d.obj = some d.obj := by simp only [aE.obj, go_sem]
@[go_sem] theorem adb (k : Nat) (d : aE) (r : ah) : gH k (d.obj :: r) = gH k r := by simp only [aE.obj, go_sem]
def aE.one(d:aE)(n:Int):Bool×aE:=(decide ((d.next n).1=n-1),(d.next n).2)
theorem aE.EB{d:aE}(h:d.dO)(n:Int):(d.one n).2.dO:=aE.a7 h n
theorem Rk(d:aE)(n:Int)(h1:0≤n)(hn:n≤4611686018427387904)(hd:d.dO):aH 0 N.dY [.bp 0 0,I n] [d.obj]=some (B (d.one n).1,[(d.one n).2.obj]):=by
 refine av K.oq rfl ?_
 have hm:=ij d n hn hd
 unfold aE.one
 simp(disch:=omega)only[go_sem,K.dY,↓reduceIte,hm]
def aE.of(d:aE)(l:List Int):Int×aE:=(nth l (d.next l.length).1.toNat,(d.next l.length).2)
theorem aE.qX{d:aE}(h:d.dO)(l:List Int):(d.of l).2.dO:=aE.a7 h _
theorem aE.yq(d:aE){l:List Int}(h:l≠[]):(d.of l).1∈l:=by
 unfold aE.of
 have hl:0<l.length:=List.length_pos_iff.2 h
 have:=d.eE l.length
 have:=d.eG (n:=l.length) (by omega)
 exact af (by omega)
theorem Pr(d:aE)(l:List Int)(hl:l≠[])(hl2:l.length≤4294967296)(hd:d.dO):aH 0 N.dL [.bp 0 0,.t (tL l)] [d.obj]=some (I (d.of l).1,[(d.of l).2.obj]):=by
 refine av K.pc rfl ?_
 have hm:=ij d l.length (by omega) hd
 have h0:0<l.length:=List.length_pos_iff.2 hl
 have h1:=d.eE l.length
 have h2:=d.eG (n:=l.length) (by omega)
 unfold aE.of
 simp(disch:=omega)only[go_sem,K.dL,↓reduceIte,hm]
def aE.mU(d:aE):Nat→List Int×aE
 | 0=>([],d)
 | k+1=>(if((d.mU k).2.next 3).1=0 then(d.mU k).1++[(k:Int)]else(d.mU k).1,((d.mU k).2.next 3).2)
theorem aE.my{d:aE}(h:d.dO):∀n,(d.mU n).2.dO
 | 0=>h
 | n+1=>aE.a7 (aE.my h n) 3
theorem aE.wg(d:aE):∀n,(d.mU n).1.length≤n
 | 0=>aLs _
 | n+1=>by
   have:=d.wg n
   unfold aE.mU
   simp only
   split<;>simp<;>omega
theorem Ma(d:aE)(n:Nat)(hn:n≤1000000)(hd:d.dO):aH 0 N.cE [.bp 0 0,I n] [d.obj]=some (.t (tL (d.mU n).1),[(d.mU n).2.obj]):=by
 refine av K.nh rfl ?_
 have hlen:=d.wg
 have loop:exS aH K.p6 ⟨[.bp 0 0,I n,.nil,.ref 1 0 0,I 0],[d.obj,.arr 1 false 0 []]⟩=
  some (.exit 0,⟨[.bp 0 0,I n,.und,.ref 1 0 (d.mU n).1.length,I n],[(d.mU n).2.obj,.arr 1 false 0 (((d.mU n).1.map (T.int .i64)).map .t)]⟩):=by
  refine dw (fun j=>⟨[.bp 0 0,I n,.und,.ref 1 0 (d.mU j).1.length,I j],[(d.mU j).2.obj,.arr 1 false 0 (((d.mU j).1.map (T.int .i64)).map .t)]⟩) n rfl ?_ ?_ (by simp)
  · intro j hj
    have hm:=ij (d.mU j).2 3 (by omega) (aE.my hd j)
    have:=hlen j
    by_cases h:((d.mU j).2.next 3).1=0
    · simp(disch:=omega)only[go_sem,K.jv,hm,h,aE.mU,↓reduceIte]
    · simp(disch:=omega)only[go_sem,K.jv,hm,h,aE.mU,↓reduceIte]
  · simp(disch:=omega)only[go_sem,K.jv,↓reduceIte]
 simp(disch:=omega)only[go_sem,K.cE,↓reduceIte,loop]
theorem cP{gc:Bool}{dead:List Nat}{c:C}{vs:List D}{H:ah}(s:Nat→St)(n:Nat)(p:Nat→Bool)(e:Nat→Ex×St)(eN:Ex×St)
 (h0:(⟨lk dead vs,H⟩:St)=s 0) (hs:∀j,j<n→p j=false→dV gc dead (s j).H.length (exS aH c (s j))=some (s (j+1)))
 (he:∀j,j<n→p j=true→exS aH c (s j)=some (e j)∧(e j).1≠ .normal) (hN:exS aH c (s n)=some eN) (hn:eN.1≠ .normal):
 exS aH (.loop gc dead c) ⟨vs,H⟩=some (match (List.range n).find? p with | some j=>e j | none=>eN):=by
 show nN gc dead (exS aH c) ⟨lk dead vs,H⟩=_
 rw[h0]
 cases hf:(List.range n).find? p with
 | none=>
   refine zd s n (fun j hj=>hs j hj ?_) (dq hN hn)
   have:=List.find?_eq_none.1 hf j (aLu.2 hj)
   simpa using this
 | some k=>
   obtain⟨h1,as,bs,h2,h3⟩:=List.find?_eq_some_iff_append.1 hf
   have hk:k<n:=aLu.1 (List.mem_of_find?_eq_some hf)
   have hlt:∀j,j<k→p j=false:=by
    intro j hj
    have hlen:as.length=k:=by
     have h4:(List.range n)[as.length]?=some k:=by rw[h2];simp
     have h5:as.length<n:=by
      have:=congrArg List.length h2;simp at this;omega
     rw[aLp h5]at h4
     exact Option.some.inj h4
    have:j∈as:=by
     have h6:(List.range n)[j]?=some j:=aLp (by omega)
     rw[h2,aLg (by omega)]at h6
     exact aLd h6
    simpa using h3 j this
   obtain⟨k1,k2⟩:=he k hk h1
   exact zd s k (fun j hj=>hs j (by omega) (hlt j hj)) (dq k1 k2)
def jZ{α:Type}(f:α→α×Bool):Nat→α→α
 | 0,l=>l
 | n+1,l=>if(f l).2 then jZ f n (f l).1 else(f l).1
theorem JX{α:Type}{gc:Bool}{dead:List Nat}{c:C}{vs:List D}{H:ah}(S:α→Bool→St)(E:α→Ex×St)(f:α→α×Bool)(inv:α→Prop)(mes:α→Nat)
 (hinv:∀l,inv l→inv (f l).1∧((f l).2=true→mes (f l).1<mes l))
 (hs:∀l,inv l→dV gc dead (S l true).H.length (exS aH c (S l true))=some (S (f l).1 (f l).2))
 (he:∀l,inv l→exS aH c (S l false)=some (E l)∧(E l).1≠ .normal) (l:α) (hl:inv l) (h0:(⟨lk dead vs,H⟩:St)=S l true):
 exS aH (.loop gc dead c) ⟨vs,H⟩=some (E (jZ f (mes l+1) l))∧inv (jZ f (mes l+1) l):=by
 have key:∀(n:Nat) (l:α),inv l→mes l<n→nN gc dead (exS aH c) (S l true)=some (E (jZ f n l))∧inv (jZ f n l):=by
  intro n
  induction n with
  | zero=>intro l _ h;omega
  | succ n ih=>
    intro l hl hm
    obtain⟨h1,h2⟩:=hinv l hl
    have hr:=hs l hl
    cases hf:(f l).2 with
    | true=>
      rw[hf]at hr
      obtain⟨k1,k2⟩:=ih (f l).1 h1 (by have:=h2 hf;omega)
      simp only[jZ,hf,if_true]
      exact⟨iZ hr k1,k2⟩
    | false=>
      rw[hf]at hr
      obtain⟨k1,k2⟩:=he (f l).1 h1
      simp only[jZ,hf,aLt,if_false]
      exact⟨iZ hr (dq k1 k2),h1⟩
 have:=key (mes l+1) l hl (Nat.lt_succ_self _)
 show nN gc dead (exS aH c) ⟨lk dead vs,H⟩=_∧_
 rw[h0];exact this
theorem CR{n:Nat}{p:Nat→Bool}:((List.range n).find? p).isSome=(List.range n).any p:=by
 rw[List.isSome_find?]
theorem xx{n j:Nat}{p:Nat→Bool}(h:(List.range n).find? p=some j):j<n∧p j=true:=⟨aLu.1 (List.mem_of_find?_eq_some h),List.find?_some h⟩
def fW(m:Nat):List D:=(List.range m).map fun i=> .bp i 0
def aX(bs:List (List T)):ah:=bs.map fun cs=> .box (cs.map .t)
theorem B0{bs:List (List T)}{i:Nat}(h:i<bs.length):(aX bs)[i]?=some (.box (bs[i].map .t)):=by simp[aX,h]
theorem fX(bs:List (List T)):(aX bs).length=bs.length:=by simp[aX]
theorem jS:∀(l sel:List Nat),(sel++l).Nodup→eV sel l=sel++l
 | [],sel,_=>by simp[eV]
 | i::r,sel,h=>by
   have:sel.contains i=false:=by
    rw[← Bool.not_eq_true,List.contains_iff_mem]
    intro hm
    have:=List.nodup_append.1 h
    exact this.2.2 i hm i List.mem_cons_self rfl
   simp only[eV,this,aLt,if_false]
   rw[jS r (sel++[i]) (by simpa using h)]
   simp
theorem iL:∀(l:List Nat) (i k:Nat),l.Nodup→l[k]?=some i→idxOf l i=some k
 | [],i,k,_,h=>by simp at h
 | a::l,i,0,_,h=>by simp at h;simp[idxOf,h]
 | a::l,i,k+1,hn,h=>by
   simp at h
   have hne:a≠i:=fun e=>(List.nodup_cons.1 hn).1 (e▸aLd h)
   simp only[idxOf,if_neg hne,iL l i k (List.nodup_cons.1 hn).2 h,aLw]
theorem GR{m i:Nat}(h:i<m):idxOf (List.range m) i=some i:=iL _ _ _ List.nodup_range (aLp h)
theorem uX{α:Type}{f:α→Option α}:∀ {l:List α},(∀x∈l,f x=some x)→bf f l=some l
 | [],_=>rfl
 | a::l,h=>by
   simp only[bf,h a List.mem_cons_self,aLq,uX fun x hx=>h x (List.mem_cons_of_mem _ hx),aLw]
theorem GS(f:Nat→Option Nat)(cs:List T):b7 f (.box (cs.map .t))=some (.box (cs.map .t)):=by
 simp only[JS,tG,aLw]
theorem qa{H:ah}:∀ {l:List Nat} {hs:ah},l.length=hs.length→(∀(k i:Nat) (o:Obj),l[k]?=some i→hs[k]?=some o→H[i]?=some o)→pick H l=some hs
 | [],[],_,_=>rfl
 | [],_::_,h,_=>by simp at h
 | _::_,[],h,_=>by simp at h
 | i::l,o::hs,h,hg=>by
   rw[LZ,hg 0 i o rfl rfl,aLq,Pl,qa (l:=l) (hs:=hs) (by simpa using h) fun k i o hk ho=>hg (k+1) i o (by simpa using hk) (by simpa using ho)]
   rfl
theorem yr{H:ah}:∀ {l:List Nat} {os:ah},(∀(k i:Nat) (o:Obj),l[k]?=some i→os[k]?=some o→H[i]?=some o)→du H l os=H
 | [],os,_=>by cases os<;>rfl
 | i::l,[],_=>rfl
 | i::l,o::os,hg=>by
   simp only[du]
   rw[CO (hg 0 i o rfl rfl)]
   exact yr fun k i o hk ho=>hg (k+1) i o (by simpa using hk) (by simpa using ho)
theorem EC(call:aV)(bs:List (List T))(E:ah)(f raw:Nat)(args:List D){r:D}(h:call raw f args (aX bs)=some (r,aX bs))(hr:yM r=true)
 (ha:∀H:ah,qv H [] 0 args=some args∧cZ H [] 0 args=[]) (hids:eV [] (Ai 8 args)=List.range bs.length)
 (hren:bf (ren (idxOf (List.range bs.length)) 8) args=some args):JN (aX bs++E) call f raw [] args=some (r,aX bs++E):=by
 generalize hH:aX bs++E=H
 have hget:∀i (hi:i<bs.length),H[i]?=some (.box (bs[i].map .t)):=fun i hi=>by
  rw[← hH,aLg (by rw[fX];exact hi),B0 hi]
 obtain⟨ha,hfz⟩:=ha H
 have hno:jA H (List.range bs.length)=[]:=by
  simp only[jA,List.flatMap_eq_nil_iff,aLu]
  intro i hi
  rw[hget i hi]
  exact It 8 bs[i]
 have hsel:reach H 3 (List.range bs.length)=List.range bs.length:=by
  simp only[reach,hno,eV]
 have hget2:∀(k i:Nat) (o:Obj),(List.range bs.length)[k]?=some i→(aX bs)[k]?=some o→H[i]?=some o:=by
  intro k i o hk ho
  have hkl:k<bs.length:=by have:=(aLe.1 hk).1;simpa using this
  rw[aLp hkl]at hk
  cases hk
  rw[B0 hkl]at ho
  rw[hget k hkl,←ho]
 have hpick:pick H (List.range bs.length)=some (aX bs):=qa (by simp[fX]) hget2
 have hro:∀f:Nat→Option Nat,bf (b7 f) (aX bs)=some (aX bs):=fun f=>uX fun o ho=>by
  simp only[aX,List.mem_map]at ho
  obtain⟨cs,_,rfl⟩:=ho
  exact GS f cs
 have hput:du H (List.range bs.length) (aX bs)=H:=yr hget2
 rw[Pa,Pb,ha,aLq,Pc,hids,hsel,Pd,hren,aLq,hfz,Pe]
 simp only[pins]
 rw[hpick,aLq,Pf,hro,aLq,Pg,h,aLq]
 cases hb:bs with
 | nil=>
   subst hb
   have hrr:=CL (f:=bO [] H.length) hr
   simp only[depth]at hrr
   simp only[List.length_nil,List.range_zero,aX,List.map_nil]
   unfold rT
   split
   · rfl
   · rw[CM,hrr,aLq,Is]
     simp[bf,LV,du]
 | cons b bt=>
   rw[← hb]
   have hne:List.range bs.length=0::(List.range' 1 bt.length):=by rw[hb];simp[List.range_eq_range',List.range'_succ]
   have hrr:=CL (f:=bO (List.range bs.length) H.length) hr
   simp only[depth]at hrr
   have hw:rT H H (List.range bs.length) (r,aX bs)=A8 H H.length (List.range bs.length) (r,aX bs):=by
    rw[hne];rfl
   rw[hw,CM,hrr,aLq,Is,hro,aLq,Ph,List.length_range,List.take_of_length_le (by rw[fX];exact aLs _),hput,
    List.drop_eq_nil_of_le (by rw[fX];exact aLs _),List.append_nil]
theorem GU(H:ah)(cs:List D)(hc:∀i,qv H [] i cs=some cs∧cZ H [] i cs=[]):∀(ts:List T) (i:Nat),qv H [] i (ts.map .t++cs)=some (ts.map .t++cs)∧cZ H [] i (ts.map .t++cs)=[]
 | [],i=>hc i
 | t::ts,i=>by
   obtain⟨h1,h2⟩:=GU H cs hc ts (i+1)
   simp only[List.map_cons,List.cons_append,BZ,sn,Gc,Q9,ZI,aLq,LW,h1,h2,ZZ,LS]
   exact⟨rfl,rfl⟩
theorem ED(H:ah):∀(l:List Nat) (i:Nat),qv H [] i (l.map fun i=> .bp i 0)=some (l.map fun i=> .bp i 0)∧cZ H [] i (l.map fun i=> .bp i 0)=[]
 | [],i=>⟨rfl,rfl⟩
 | a::l,i=>by
   obtain⟨h1,h2⟩:=ED H l (i+1)
   simp only[List.map_cons,BZ,sn,Gc,Q9,Tw,aLq,LW,h1,h2,ZZ,TD]
   exact⟨rfl,rfl⟩
theorem EE(n m:Nat):Ai n (fW m)=List.range m:=by
 simp only[Ai,fW,List.flatMap_map]
 have:∀l:List Nat,(l.flatMap fun a=>ids n (.bp a 0))=l:=by
  intro l
  induction l with
  | nil=>rfl
  | cons a l ih=>rw[List.flatMap_cons,ih,Z3];rfl
 exact this _
theorem Iy(n m:Nat):bf (ren (idxOf (List.range m)) n) (fW m)=some (fW m):=uX fun d hd=>by
 simp only[fW,List.mem_map,aLu]at hd
 obtain⟨k,hk,rfl⟩:=hd
 rw[Z7,GR hk];rfl
theorem oU{α β:Type}{f:α→Option β}:∀ {a b:List α} {x y:List β},bf f a=some x→bf f b=some y→bf f (a++b)=some (x++y)
 | [],b,x,y,h1,h2=>by simp[bf]at h1;subst h1;exact h2
 | c::a,b,x,y,h1,h2=>by
   simp only[bf,aLa,aLb]at h1
   obtain⟨z,hz,r,hr,rfl⟩:=h1
   simp only[List.cons_append,bf,hz,aLq,oU hr h2,aLw]
theorem Mb(call:aV)(bs:List (List T))(E:ah)(f raw:Nat)(ts:List T){r:D}(h:call raw f (ts.map .t++fW bs.length) (aX bs)=some (r,aX bs))(hr:yM r=true):
 JN (aX bs++E) call f raw [] (ts.map .t++fW bs.length)=some (r,aX bs++E):=
 EC call bs E f raw _ h hr (fun H=>GU H _ (ED H _) ts 0)
  (by rw[Iu,It,List.nil_append,EE,jS _ _ (by simpa using List.nodup_range),List.nil_append])
  (oU (tG _ _ _) (Iy _ _))
theorem T1(call:aV)(bs:List (List T))(E:ah)(g f raw:Nat)(ts:List T){r:D}(h:call raw f (ts.map .t++[.fn g (fW bs.length)]) (aX bs)=some (r,aX bs))(hr:yM r=true):
 JN (aX bs++E) call f raw [] (ts.map .t++[.fn g (fW bs.length)])=some (r,aX bs++E):=
 EC call bs E f raw _ h hr (fun H=>GU H _ (fun i=>⟨rfl,rfl⟩) ts 0)
  (by rw[Iu,It,List.nil_append,LX,Z4,EE,Pk,List.append_nil,jS _ _ (by simpa using List.nodup_range),List.nil_append])
  (oU (tG _ _ _) (by rw[Es,aaa,Iy];rfl))
theorem EF{f:Nat}{bs:List (List T)}{x:T}{r:D}(E:ah)(h:aH 0 f (.t x::fW bs.length) (aX bs)=some (r,aX bs))(hr:yM r=true):
 JN (aX bs++E) aH f 0 [] (.t x::fW bs.length)=some (r,aX bs++E):=Mb aH bs E f 0 [x] h hr
theorem nY{f:Nat}{bs:List (List T)}{x:T}{r:D}(h:aH 0 f (.t x::fW bs.length) (aX bs)=some (r,aX bs))(hr:yM r=true):
 JN (aX bs) aH f 0 [] (.t x::fW bs.length)=some (r,aX bs):=by
 have:=EF [] h hr;rwa [List.append_nil]at this
theorem xy(call:aV)(bs:List (List T))(g f raw:Nat)(x:T){r:D}(h:call raw f [.t x,.fn g (fW bs.length)] (aX bs)=some (r,aX bs))(hr:yM r=true):
 JN (aX bs) call f raw [] [.t x,.fn g (fW bs.length)]=some (r,aX bs):=by
 have:=T1 call bs [] g f raw [x] h hr
 rwa [List.append_nil]at this
section
variable (bs : List (List T)) (o o' : Obj)
@[go_sem] theorem Ps : (aX bs).length = bs.length := fX bs
@[go_sem] theorem Xl : (aX bs ++ [o])[bs.length]? = some o := by
 rw[aLh (by rw[fX];exact aLs _),fX];simp
@[go_sem] theorem aac : (aX bs ++ [o]).set bs.length o' = aX bs ++ [o'] := by
 rw[List.set_append_right _ _ (by rw[fX];exact aLs _),fX];simp
@[go_sem] theorem Xm : (aX bs ++ [o]).take bs.length = aX bs := by
 rw[List.take_append_of_le_length (by rw[fX];exact aLs _),List.take_of_length_le (by rw[fX];exact aLs _)]
@[go_sem] theorem T2 : (aX bs ++ [o]).take (bs.length + 1) = aX bs ++ [o] := List.take_of_length_le (by simp [fX])
@[go_sem] theorem T3 : (aX bs).take bs.length = aX bs := List.take_of_length_le (by simp [fX])
@[go_sem] theorem T4 (k : Nat) (a b : ah) : gH k (a ++ b) = (gH k a && gH k b) := by
 rw[← nX,←nX,←nX,List.all_append]
@[go_sem] theorem Pt (k : Nat) : gH k (aX bs) = true := by
 induction bs with
 | nil=>rfl
 | cons b r ih=>
   show(gC k 8 (b.map .t)&&gH k (aX r))=true
   rw[Iq,ih];rfl
@[go_sem] theorem ade (n : Nat) : ltB n (n + 1) = true := by rw [qG]; simp
@[go_sem] theorem adf (n : Nat) : ltB n n = false := by rw [qG]; simp
theorem yu(k n m:Nat)(h:m≤k):gC k n (fW m)=true:=by
 unfold gC fW
 rw[aLx]
 intro d hd
 obtain⟨i,hi,rfl⟩:=List.mem_map.1 hd
 rw[ZJ,qG]
 have:=aLu.1 hi
 simp;omega
@[go_sem] theorem T5 (n m : Nat) : gC m n (fW m) = true := yu _ _ _ (aLs _)
@[go_sem] theorem Rl (n m : Nat) : gC (m + 1) n (fW m) = true := yu _ _ _ (Nat.le_succ _)
end
def eW(n:Nat)(p:Nat→Bool):List Int:=((List.range n).filter p).map (fun(i:Nat)=>(i:Int))
theorem ou(n:Nat)(p:Nat→Bool):eW (n+1) p=if p n=true then eW n p++[(n:Int)]else eW n p:=by
 unfold eW
 rw[List.range_succ,List.filter_append,List.map_append]
 by_cases h:p n=true<;>simp[h]
theorem mz(n:Nat)(p:Nat→Bool):(eW n p).length≤n:=by
 unfold eW
 rw[List.length_map]
 have:=List.length_filter_le p (List.range n)
 simpa using this
theorem Iz(n:Nat)(hn:n≤1000000)(f:Nat)(bs:List (List T))(p:Nat→Bool)(h:∀k,k<n→aH 0 f (I k::fW bs.length) (aX bs)=some (B (p k),aX bs)):
 aH 0 N.eM [I n,.fn f (fW bs.length)] (aX bs)=some (.t (tL (eW n p)),aX bs):=by
 refine av K.qP rfl ?_
 have hlen:=fun k=>mz k p
 have loop:exS aH K.uo ⟨[I n,.fn f (fW bs.length),.nil,.ref bs.length 0 0,.und,I n,I 0],aX bs++[.arr 1 false 0 []]⟩=
  some (.exit 0,⟨[.und,.fn f (fW bs.length),.und,.ref bs.length 0 (eW n p).length,.und,I n,I n],aX bs++[.arr 1 false 0 (((eW n p).map (T.int .i64)).map .t)]⟩):=by
  refine dw (fun j=>⟨[.und,.fn f (fW bs.length),.und,.ref bs.length 0 (eW j p).length,.und,I n,I j],aX bs++[.arr 1 false 0 (((eW j p).map (T.int .i64)).map .t)]⟩) n rfl ?_ ?_ (by simp)
  · intro j hj
    have hc:=EF [.arr 1 false 0 (((eW j p).map (T.int .i64)).map .t)] (h j hj) rfl
    have:=hlen j
    by_cases hp:p j=true
    · simp(disch:=omega)only[go_sem,K.lG,hc,hp,ou,↓reduceIte]
    · simp(disch:=omega)only[go_sem,K.lG,hc,hp,ou,↓reduceIte]
  · simp(disch:=omega)only[go_sem,K.lG,↓reduceIte]
 simp(disch:=omega)only[go_sem,K.eM,↓reduceIte,loop]
end Go.Ev
namespace Go.Ev
open Go
variable [Lib] [cz] [bZ]
theorem oV{α:Type}(sz:Nat)(f:α→T)(h:∀a,o8 sz (f a).cells=true):∀l:List α,cK sz (l.map f)=true
 | []=>rfl
 | a::l=>by rw[List.map_cons,vU,h,oV sz f h l];rfl
@[go_sem] theorem Rm (k : IntKind) (l : List Int) : cK 1 (l.map (.int k)) = true := oV 1 _ (fun _ => rfl) l
theorem wm(sz:Nat):∀ts:List T,(ts.all fun e=>e.cells.length==sz)=cK sz ts
 | []=>rfl
 | t::ts=>by
   rw[List.all_cons,vU,wm sz ts]
   congr 1
   rw[Bool.eq_iff_iff,gj];simp
section
variable (H : ah) (sz : Nat) (ts : List T) (i j : Int)
@[go_sem] theorem af2 : Eu H sz (some (.t (.sl ts))) (some none) (some (some i)) = if 0 ≤ i then (if i ≤ ts.length then (if cK sz ts = true then some (.t (.sl (ts.take i.toNat)), H) else none) else none) else none := by
 simp only[Eu,aLq,oP,bound,wm,idx]
 by_cases h1:0≤i
 · rw[if_pos h1,if_pos h1,aLq]
   by_cases h2:i≤ts.length
   · rw[if_pos h2]
     by_cases h3:cK sz ts=true
     · rw[if_pos h3,if_pos ⟨by omega,by omega,h3⟩];rfl
     · rw[if_neg h3,if_neg fun h=>h3 h.2.2];rfl
   · rw[if_neg h2,if_neg fun h=>h2 (by omega)];rfl
 · rw[if_neg h1,if_neg h1];rfl
@[go_sem] theorem af3 : Eu H sz (some (.t (.sl ts))) (some (some i)) (some none) = if 0 ≤ i then (if i ≤ ts.length then (if cK sz ts = true then some (.t (.sl (ts.drop i.toNat)), H) else none) else none) else none := by
 simp only[Eu,aLq,oP,bound,wm,idx]
 by_cases h1:0≤i
 · rw[if_pos h1,if_pos h1,aLq]
   by_cases h2:i≤ts.length
   · rw[if_pos h2]
     by_cases h3:cK sz ts=true
     · rw[if_pos h3,if_pos ⟨by omega,by omega,h3⟩,List.take_of_length_le (by simp)];rfl
     · rw[if_neg h3,if_neg fun h=>h3 h.2.2];rfl
   · rw[if_neg h2,if_neg fun h=>h2 (by omega)];rfl
 · rw[if_neg h1,if_neg h1];rfl
@[go_sem] theorem aad : Eu H sz (some (.t (.sl ts))) (some (some i)) (some (some j)) = if 0 ≤ i then (if i ≤ j then (if j ≤ ts.length then (if cK sz ts = true then some (.t (.sl ((ts.drop i.toNat).take (j.toNat - i.toNat))), H) else none) else none) else none) else none := by
 simp only[Eu,aLq,oP,bound,wm,idx]
 by_cases h1:0≤i
 · rw[if_pos h1,if_pos h1,aLq]
   by_cases h0:i≤j
   · rw[if_pos h0,if_pos (by omega:0≤j),aLq]
     by_cases h2:j≤ts.length
     · rw[if_pos h2]
       by_cases h3:cK sz ts=true
       · rw[if_pos h3,if_pos ⟨by omega,by omega,h3⟩];rfl
       · rw[if_neg h3,if_neg fun h=>h3 h.2.2];rfl
     · rw[if_neg h2,if_neg fun h=>h2 (by omega)];rfl
   · rw[if_neg h0]
     by_cases h2:0≤j
     · rw[if_pos h2,aLq,if_neg fun h=>h0 (by omega)];rfl
     · rw[if_neg h2];rfl
 · rw[if_neg h1,if_neg h1];rfl
end
def bsK(H:ah)(l:List Nat):Option T→Option (D×ah)
 | some t=>some (.t (.sl [t]),pins H l)
 | none=>none
@[go_sem] theorem adg (H : ah) (l : List Nat) (t : T) : bsK H l (some t) = some (.t (.sl [t]), pins H l) := (rfl)
@[go_sem] theorem adh (H : ah) (sz : Nat) (cs : List D) : BW H sz [.agg cs] = if o8 sz cs = true then bsK H (fm H 8 (.agg cs)) (frz H 8 (.agg cs)) else none := by
 simp only[BW,List.all_cons,List.all_nil,Bool.and_true,D.cells]
 by_cases h:o8 sz cs=true
 · rw[if_pos h,if_pos (by simpa using gj.1 h)]
   simp only[bf,depth,List.flatMap_cons,List.flatMap_nil,List.append_nil]
   cases frz H 8 (.agg cs)<;>rfl
 · rw[if_neg h,if_neg (by intro e;exact h (gj.2 (by simpa using e)))]
@[go_sem] theorem adi (H : ah) (id ep n : Nat) : BW H 1 [.ref id ep n] = bsK H (fm H 8 (.ref id ep n)) (frz H 8 (.ref id ep n)) := by
 simp only[BW,List.all_cons,List.all_nil,Bool.and_true,D.cells,List.length_cons,List.length_nil,beq_self_eq_true,if_true,bf,depth,List.flatMap_cons,List.flatMap_nil,List.append_nil]
 cases frz H 8 (.ref id ep n)<;>rfl
def T6(H:ah)(r:D)(os:ah):D×ah:=(r,H++os)
@[go_sem] theorem adj (H : ah) (r : D) (os : ah) : T6 H r os = (r, H ++ os) := (rfl)
def aae(H:ah)(os:ah)(r:D):Option (D×ah):=(bf (b7 (bO [] H.length)) os).map (T6 H r)
@[go_sem] theorem adk (H : ah) (os : ah) (r : D) : aae H os r = (bf (b7 (bO [] H.length)) os).map (T6 H r) := (rfl)
@[go_sem] theorem aaf (H : ah) (r : D) (o : Obj) (os : ah) : pW H (r, o :: os) = (ren (bO [] H.length) 8 r).bind (aae H (o :: os)) := by
 simp only[pW,List.isEmpty_cons,Bool.and_false,aLt,if_false]
 rfl
end Go.Ev
namespace Go.Ev
open Go
variable [Lib] [cz] [bZ]
structure Place where
 h:Int
 surf:Bool
instance : Dat Place := ⟨⟨0, false⟩⟩
abbrev Place.e(p:Place):T:= .agg [tI p.h,.bool p.surf]
structure Road where
 frm:Int
 to:Int
 len:Int
 area:Int
 walk:Bool
 closed:Bool
 restL:Int
 restH:Int
 liftL:Int
 liftH:Int
instance : Dat Road := ⟨⟨0, 0, 0, 0, false, false, 0, 0, 0, 0⟩⟩
abbrev Road.e(r:Road):T:= .agg [tI r.frm,tI r.to,tI r.len,tI r.area,.bool r.walk,.bool r.closed,tI r.restL,tI r.restH,tI r.liftL,tI r.liftH]
structure aP where
 aa:List Place
 roads:List Road
instance : Dat aP := ⟨⟨[], []⟩⟩
abbrev aP.e(m:aP):T:= .agg [.sl (m.aa.map Place.e),.sl (m.roads.map Road.e)]
structure Road.ok(n:Nat)(r:Road):Prop where
 f0:0≤r.frm
 f1:r.frm<n
 t0:0≤r.to
 t1:r.to<n
 ne:r.frm≠r.to
 l0:1≤r.len
 l1:r.len≤100000
 a0:1≤r.area
 a1:r.area≤1000
 r0:1≤r.restL
 r1:r.restL≤r.restH
 r2:r.restH≤262144
 i0: -2199023255552≤r.liftL
 i1:r.liftL≤r.liftH
 i2:r.liftH≤2199023255552
structure aP.ok(m:aP):Prop where
 np:m.aa.length≤64
 nr:m.roads.length≤128
 hs:∀p∈m.aa, -10000≤p.h∧p.h≤10000
 rs:∀r∈m.roads,r.ok m.aa.length
theorem EG(a b lo hi:Int):aH 0 N.iw [.t (.agg [tI a,tI b]),I lo,I hi] []=some (B (decide (lo≤a∧a≤b∧b≤hi)),[]):=by
 refine av K.sE rfl ?_
 by_cases h1:lo≤a<;>by_cases h2:a≤b<;>by_cases h3:b≤hi<;>simp(disch:=omega)only[go_sem,K.iw,↓reduceIte,h1,h2,h3]
theorem qY{m:aP}(h:m.ok):aH 0 N.dj [.t m.e] []=some (I 0,[]):=by
 refine av K.qJ rfl ?_
 have np:=h.np
 have nr:=h.nr
 have loop1:∀a b c d e:D,exS aH K.uk ⟨[a,.bp 0 0,b,I 0,c,d,e],[.box [.t (.sl (m.aa.map Place.e)),.t (.sl (m.roads.map Road.e))]]⟩=
  some (.exit 0,⟨[.und,.bp 0 0,.und,I m.aa.length,.und,.und,.und],[.box [.t (.sl (m.aa.map Place.e)),.t (.sl (m.roads.map Road.e))]]⟩):=by
  intro a b c d e
  refine dw (fun j=>⟨[.und,.bp 0 0,.und,I j,.und,.und,.und],[.box [.t (.sl (m.aa.map Place.e)),.t (.sl (m.roads.map Road.e))]]⟩) m.aa.length rfl ?_ ?_ (by simp)
  · intro j hj
    have hh:=h.hs _ (af hj)
    simp(disch:=omega)only[go_sem,K.om,↓reduceIte]
  · simp(disch:=omega)only[go_sem,K.om,↓reduceIte]
 have loop2:∀a b c d e:D,exS aH K.um ⟨[a,.bp 0 0,b,c,d,I 0,e],[.box [.t (.sl (m.aa.map Place.e)),.t (.sl (m.roads.map Road.e))]]⟩=
  some (.exit 2,⟨[.und,.bp 0 0,.und,.und,.und,I m.roads.length,.und],[.box [.t (.sl (m.aa.map Place.e)),.t (.sl (m.roads.map Road.e))]]⟩):=by
  intro a b c d e
  refine dw (fun j=>⟨[.und,.bp 0 0,.und,.und,.und,I j,.und],[.box [.t (.sl (m.aa.map Place.e)),.t (.sl (m.roads.map Road.e))]]⟩) m.roads.length rfl ?_ ?_ (by simp)
  · intro j hj
    obtain⟨f0,f1,t0,t1,ne,l0,l1,a0,a1,r0,r1,r2,i0,i1,i2⟩:=h.rs _ (af hj)
    have s1:=EG (nth m.roads j).restL (nth m.roads j).restH 1 262144
    have s2:=EG (nth m.roads j).liftL (nth m.roads j).liftH (-2199023255552) 2199023255552
    simp(disch:=omega)only[go_sem]at s1 s2
    simp(disch:=omega)only[go_sem,K.oo,↓reduceIte,s1,s2]
  · simp(disch:=omega)only[go_sem,K.oo,↓reduceIte]
 simp(disch:=omega)only[go_sem,K.dj,↓reduceIte,loop1,loop2]
theorem GV{l:List Int}{p:Int→Bool}:((List.range l.length).find? fun j=>p (nth l j)).isSome=l.any p:=by
 rw[List.isSome_find?,Bool.eq_iff_iff,List.any_eq_true,List.any_eq_true]
 constructor
 · rintro ⟨j,hj,h⟩
   exact⟨_,af (aLu.1 hj),h⟩
 · rintro ⟨x,hx,h⟩
   obtain⟨j,hj⟩:=aLf.1 hx
   exact⟨j,aLu.2 (aLe.1 hj).1,by rw[bP hj];exact h⟩
theorem IA(l:List Int)(x:Int)(hl:l.length≤4294967296):aH 0 N.iW [.t (tL l),I x] []=some (B (decide (x∈l)),[]):=by
 refine av K.uT rfl ?_
 have loop:∀a:D,exS aH K.yn ⟨[.t (tL l),I x,a,I 0],[]⟩=
  some (match (List.range l.length).find? (fun j=>decide (nth l j=x))with
   | some j=>(.ret,⟨[.t (tL l),I x,B true,I j],[]⟩)
   | none=>(.exit 0,⟨[.t (tL l),I x,.und,I l.length],[]⟩)):=by
  intro a
  refine cP (fun j=>⟨[.t (tL l),I x,.und,I j],[]⟩) l.length (fun j=>decide (nth l j=x)) _ _ rfl ?_ ?_ ?_ (by simp)
  · intro j hj hp
    have hp:¬nth l j=x:=of_decide_eq_false hp
    simp(disch:=omega)only[go_sem,K.nQ,↓reduceIte]
  · intro j hj hp
    have hp:nth l j=x:=of_decide_eq_true hp
    simp(disch:=omega)only[go_sem,K.nQ,↓reduceIte,hp]
    simp
  · simp(disch:=omega)only[go_sem,K.nQ,↓reduceIte]
 have e:=GV (l:=l) (p:=fun y=>decide (y=x))
 have e2:l.any (fun y=>decide (y=x))=decide (x∈l):=by rw[Bool.eq_iff_iff];simp
 rw[e2]at e
 simp only[go_sem,K.iW,↓reduceIte,loop]
 cases hf:(List.range l.length).find? (fun j=>decide (nth l j=x))with
 | some j=>rw[hf]at e;simp(disch:=omega)only[go_sem,↓reduceIte,←e]
 | none=>rw[hf]at e;simp(disch:=omega)only[go_sem,↓reduceIte,←e,Option.isSome_none]
theorem xz(a b:List Int)(hl:a.length≤4294967296):aH 0 N.b5 [.t (tL a),.t (tL b)] []=some (B (decide (a=b)),[]):=by
 refine av K.ny rfl ?_
 by_cases hlen:a.length=b.length
 · have loop:∀c:D,exS aH K.p9 ⟨[.t (tL a),.t (tL b),c,I 0],[]⟩=
    some (match (List.range a.length).find? (fun j=>decide (nth a j≠nth b j))with
     | some j=>(.ret,⟨[.t (tL a),.t (tL b),B false,I j],[]⟩)
     | none=>(.exit 0,⟨[.t (tL a),.t (tL b),.und,I a.length],[]⟩)):=by
    intro c
    refine cP (fun j=>⟨[.t (tL a),.t (tL b),.und,I j],[]⟩) a.length (fun j=>decide (nth a j≠nth b j)) _ _ rfl ?_ ?_ ?_ (by simp)
    · intro j hj hp
      have hp:nth a j=nth b j:=by simpa using hp
      simp(disch:=omega)only[go_sem,K.jx,↓reduceIte]
    · intro j hj hp
      have hp:nth a j≠nth b j:=by simpa using hp
      simp(disch:=omega)only[go_sem,K.jx,↓reduceIte]
      simp
    · simp(disch:=omega)only[go_sem,K.jx,↓reduceIte]
   have e:(a=b)↔(List.range a.length).find? (fun j=>decide (nth a j≠nth b j))=none:=by
    rw[List.find?_eq_none]
    constructor
    · intro h j _;simp[h]
    · intro h
      apply List.ext_getElem?
      intro j
      by_cases hj:j<a.length
      · rw[ff hj,ff (by omega)]
        have:=h j (aLu.2 hj)
        simpa using this
      · rw[aLm (by omega),aLm (by omega)]
   simp(disch:=omega)only[go_sem,K.b5,↓reduceIte,loop]
   cases hf:(List.range a.length).find? (fun j=>decide (nth a j≠nth b j))with
   | some j=>rw[hf]at e;simp(disch:=omega)only[go_sem,↓reduceIte,e];simp
   | none=>rw[hf]at e;simp(disch:=omega)only[go_sem,↓reduceIte,e]
 · have hne:a≠b:=fun h=>hlen (by rw[h])
   simp(disch:=omega)only[go_sem,K.b5,↓reduceIte,hne]
def A9(l:List Int)(n:Int):Bool:=(List.range l.length).all fun j=>decide (0≤nth l j∧nth l j<n∧(0<j→nth l (j-1)<nth l j))
theorem qZ{n:Nat}{p:Nat→Bool}:((List.range n).all p)=((List.range n).find? fun j=> !p j).isNone:=by
 rw[← Option.not_isSome,List.isSome_find?,List.not_any_eq_all_not]
 simp
theorem aag(l:List Int)(n:Int)(hl:l.length≤4294967296):aH 0 N.ke [.t (tL l),I n] []=some (B (A9 l n),[]):=by
 refine av K.uV rfl ?_
 have loop:∀c:D,exS aH K.yo ⟨[.t (tL l),I n,c,I 0],[]⟩=
  some (match (List.range l.length).find? (fun j=> !decide (0≤nth l j∧nth l j<n∧(0<j→nth l (j-1)<nth l j)))with
   | some j=>(.ret,⟨[.t (tL l),I n,B false,I j],[]⟩)
   | none=>(.exit 0,⟨[.t (tL l),I n,.und,I l.length],[]⟩)):=by
  intro c
  refine cP (fun j=>⟨[.t (tL l),I n,.und,I j],[]⟩) l.length _ _ _ rfl ?_ ?_ ?_ (by simp)
  · intro j hj hp
    simp only[Bool.not_eq_false',decide_eq_true_eq]at hp
    obtain⟨h1,h2,h3⟩:=hp
    cases j with
    | zero=>simp(disch:=omega)only[go_sem,K.iQ,↓reduceIte]
    | succ j=>
      have h3:=h3 (by omega)
      rw[Nat.add_sub_cancel]at h3
      simp(disch:=omega)only[go_sem,K.iQ,↓reduceIte]
  · intro j hj hp
    simp only[Bool.not_eq_true',decide_eq_false_iff_not]at hp
    refine⟨?_,by simp⟩
    by_cases h1:0≤nth l j
    · by_cases h2:nth l j<n
      · cases j with
        | zero=>exact absurd ⟨h1,h2,fun h=>absurd h (by omega)⟩ hp
        | succ j=>
          have h3:¬nth l j<nth l (j+1):=fun h=>hp ⟨h1,h2,fun _=>by simpa using h⟩
          simp(disch:=omega)only[go_sem,K.iQ,↓reduceIte]
      · simp(disch:=omega)only[go_sem,K.iQ,↓reduceIte]
    · simp(disch:=omega)only[go_sem,K.iQ,↓reduceIte]
  · simp(disch:=omega)only[go_sem,K.iQ,↓reduceIte]
 have e:A9 l n=_:=qZ
 simp only[go_sem,K.ke,↓reduceIte,loop]
 cases hf:(List.range l.length).find? (fun j=> !decide (0≤nth l j∧nth l j<n∧(0<j→nth l (j-1)<nth l j)))with
 | some j=>rw[hf]at e;simp(disch:=omega)only[go_sem,↓reduceIte,e,Option.isNone_some]
 | none=>rw[hf]at e;simp(disch:=omega)only[go_sem,↓reduceIte,e,Option.isNone_none]
theorem yN(x lo hi:Int):aH 0 N.cQ [I x,I lo,I hi] []=some (B (decide (lo≤x∧x≤hi)),[]):=by
 refine av K.xu rfl ?_
 by_cases h1:lo≤x<;>by_cases h2:x≤hi<;>simp(disch:=omega)only[go_sem,K.cQ,↓reduceIte]
theorem CS(l:List Int)(x:Int)(hl:l.length≤4294967296):aH 0 N.bq [.t (tL l),I x] []=
 some (I (match (List.range l.length).find? (fun j=>decide (nth l j=x))with | some j=>(j:Int) | none=> -1),[]):=by
 refine av K.jg rfl ?_
 have loop:∀a b:D,exS aH K.lI ⟨[.t (tL l),I x,a,b,I l.length,I 0],[]⟩=
  some (match (List.range l.length).find? (fun j=>decide (nth l j=x))with
   | some j=>(.ret,⟨[.t (tL l),I x,I j,I j,I l.length,I j],[]⟩)
   | none=>(.exit 0,⟨[.t (tL l),I x,.und,.und,I l.length,I l.length],[]⟩)):=by
  intro a b
  refine cP (fun j=>⟨[.t (tL l),I x,.und,.und,I l.length,I j],[]⟩) l.length (fun j=>decide (nth l j=x)) _ _ rfl ?_ ?_ ?_ (by simp)
  · intro j hj hp
    have hp:¬nth l j=x:=of_decide_eq_false hp
    simp(disch:=omega)only[go_sem,K.fG,↓reduceIte]
  · intro j hj hp
    have hp:nth l j=x:=of_decide_eq_true hp
    simp(disch:=omega)only[go_sem,K.fG,↓reduceIte,hp]
    simp
  · simp(disch:=omega)only[go_sem,K.fG,↓reduceIte]
 simp(disch:=omega)only[go_sem,K.bq,↓reduceIte,loop]
 cases hf:(List.range l.length).find? (fun j=>decide (nth l j=x))with
 | some j=>simp(disch:=omega)only[go_sem,↓reduceIte]
 | none=>simp(disch:=omega)only[go_sem,↓reduceIte]
theorem q7(l:List Int)(x:Int)(hl:l.length≤4294967296):aH 0 N.aZ [.t (tL l),I x] []=some (B (decide (x∈l)),[]):=by
 refine av K.ig rfl ?_
 have h:=CS l x hl
 have e:=GV (l:=l) (p:=fun y=>decide (y=x))
 have e2:l.any (fun y=>decide (y=x))=decide (x∈l):=by rw[Bool.eq_iff_iff];simp
 rw[e2]at e
 cases hf:(List.range l.length).find? (fun j=>decide (nth l j=x))with
 | some j=>rw[hf]at e h;simp(disch:=omega)only[go_sem,K.aZ,↓reduceIte,←e,h]
 | none=>rw[hf]at e h;simp(disch:=omega)only[go_sem,K.aZ,↓reduceIte,←e,h,Option.isSome_none]
theorem EH(l:List Int)(hl:l.length≤4294967296)(f:Nat)(bs:List (List T))(p:Int→Bool)(h:∀x,x∈l→aH 0 f (I x::fW bs.length) (aX bs)=some (B (p x),aX bs)):
 aH 0 N.bB [.t (tL l),.fn f (fW bs.length)] (aX bs)=
 some (I (match (List.range l.length).find? (fun j=>p (nth l j))with | some j=>(j:Int) | none=> -1),aX bs):=by
 refine av K.gI rfl ?_
 have loop:∀a b:D,exS aH K.jG ⟨[.t (tL l),.fn f (fW bs.length),a,b,I l.length,I 0],aX bs⟩=
  some (match (List.range l.length).find? (fun j=>p (nth l j))with
   | some j=>(.ret,⟨[.t (tL l),.fn f (fW bs.length),I j,I j,I l.length,I j],aX bs⟩)
   | none=>(.exit 0,⟨[.t (tL l),.fn f (fW bs.length),.und,.und,I l.length,I l.length],aX bs⟩)):=by
  intro a b
  refine cP (fun j=>⟨[.t (tL l),.fn f (fW bs.length),.und,.und,I l.length,I j],aX bs⟩) l.length (fun j=>p (nth l j)) _ _ rfl ?_ ?_ ?_ (by simp)
  · intro j hj hp
    have hc:=nY (h _ (af hj)) rfl
    simp(disch:=omega)only[go_sem,K.dS,↓reduceIte,hc,hp]
  · intro j hj hp
    have hc:=nY (h _ (af hj)) rfl
    simp(disch:=omega)only[go_sem,K.dS,↓reduceIte,hp,hc]
    simp
  · simp(disch:=omega)only[go_sem,K.dS,↓reduceIte]
 simp(disch:=omega)only[go_sem,K.bB,↓reduceIte,loop]
 cases hf:(List.range l.length).find? (fun j=>p (nth l j))with
 | some j=>simp(disch:=omega)only[go_sem,↓reduceIte]
 | none=>simp(disch:=omega)only[go_sem,↓reduceIte]
theorem sJ(l:List Int)(hl:l.length≤4294967296)(f:Nat)(bs:List (List T))(p:Int→Bool)(h:∀x,x∈l→aH 0 f (I x::fW bs.length) (aX bs)=some (B (p x),aX bs)):
 aH 0 N.aJ [.t (tL l),.fn f (fW bs.length)] (aX bs)=some (B (l.any p),aX bs):=by
 refine av K.fM rfl ?_
 have h:=EH l hl f bs p h
 have hc:=xy aH bs f _ 0 (tL l) h rfl
 have e:=GV (l:=l) (p:=p)
 cases hf:(List.range l.length).find? (fun j=>p (nth l j))with
 | some j=>rw[hf]at e hc;simp(disch:=omega)only[go_sem,K.aJ,↓reduceIte,←e,hc]
 | none=>rw[hf]at e hc;simp(disch:=omega)only[go_sem,K.aJ,↓reduceIte,←e,hc,Option.isSome_none]
theorem T7(r:Road)(back:Bool):aH 0 N.i7 [.t r.e,B back] []=some (.tup [I (if back then r.to else r.frm),I (if back then r.frm else r.to)],[]):=by
 refine av K.sI rfl ?_
 cases back<;>simp(disch:=omega)only[go_sem,K.i7,↓reduceIte]
def ir(m:aP)(k:Nat)(back:Bool)(up down level:Int):Int:=
 let x:=nth m.roads k
 if x.closed=true∨x.walk=false then -1 else
 let a:=if back then x.to else x.frm
 let b:=if back then x.frm else x.to
 let rise:=(nth m.aa b.toNat).h-(nth m.aa a.toNat).h
 let speed:=if -10*rise>x.len then down else if 10*rise>x.len then up else level
 (10*x.len+speed-1).tdiv speed
theorem uY{a b:Int}(ha:0≤a)(hb:1≤b):0≤a.tdiv b∧a.tdiv b≤a:=by
 rw[Int.tdiv_eq_ediv_of_nonneg ha]
 exact⟨Int.ediv_nonneg ha (by omega),Int.ediv_le_self _ ha⟩
theorem Mc{m:aP}(h:m.ok)(k:Nat)(hk:k<m.roads.length)(back:Bool)(up down level:Int)(hu:1≤up)(hu2:up≤100)(hd:1≤down)(hd2:down≤100)(hl:1≤level)(hl2:level≤100):
 aH 0 N.cu [.t m.e,I k,B back,I up,I down,I level] []=some (I (ir m k back up down level),[]):=by
 refine av K.pv rfl ?_
 have hc:=qY h
 have nr:=h.nr
 have np:=h.np
 obtain⟨f0,f1,t0,t1, -,l0,l1, -, -, -, -, -, -, -, -⟩:=h.rs _ (af hk)
 have he:=T7 (nth m.roads k) back
 have b1:=h.hs _ (af (l:=m.aa) (j:=(nth m.roads k).frm.toNat) (by omega))
 have b2:=h.hs _ (af (l:=m.aa) (j:=(nth m.roads k).to.toNat) (by omega))
 unfold ir
 generalize hx:nth m.roads k=x at*
 obtain⟨frm,to,len,area,walk,closed,rl,rh,ll,lh⟩:=x
 simp only at f0 f1 t0 t1 l0 l1 b1 b2 he ⊢
 cases closed with
 | true=>simp(disch:=omega)only[go_sem,K.cu,↓reduceIte,hc,hx]
 | false=>
   cases walk with
   | false=>simp(disch:=omega)only[go_sem,K.cu,↓reduceIte,hc,hx]
   | true=>
     have g1:=uY (a:=10*len+up-1) (b:=up) (by omega) hu
     have g2:=uY (a:=10*len+down-1) (b:=down) (by omega) hd
     have g3:=uY (a:=10*len+level-1) (b:=level) (by omega) hl
     cases back with
     | true=>
       simp only[↓reduceIte]at he ⊢
       have w1:IntKind.i64.wrap ((nth m.aa frm.toNat).h-(nth m.aa to.toNat).h)=(nth m.aa frm.toNat).h-(nth m.aa to.toNat).h:=xq (by omega) (by omega)
       by_cases c2:len< -10*((nth m.aa frm.toNat).h-(nth m.aa to.toNat).h)
       · simp(disch:=omega)only[go_sem,K.cu,↓reduceIte,hc,hx,he,w1,gt_iff_lt]
       · by_cases c1:len<10*((nth m.aa frm.toNat).h-(nth m.aa to.toNat).h)
         · simp(disch:=omega)only[go_sem,K.cu,↓reduceIte,hc,hx,he,w1,gt_iff_lt]
         · simp(disch:=omega)only[go_sem,K.cu,↓reduceIte,hc,hx,he,w1,gt_iff_lt]
     | false=>
       simp only[aLt,↓reduceIte]at he ⊢
       have w1:IntKind.i64.wrap ((nth m.aa to.toNat).h-(nth m.aa frm.toNat).h)=(nth m.aa to.toNat).h-(nth m.aa frm.toNat).h:=xq (by omega) (by omega)
       by_cases c2:len< -10*((nth m.aa to.toNat).h-(nth m.aa frm.toNat).h)
       · simp(disch:=omega)only[go_sem,K.cu,↓reduceIte,hc,hx,he,w1,gt_iff_lt]
       · by_cases c1:len<10*((nth m.aa to.toNat).h-(nth m.aa frm.toNat).h)
         · simp(disch:=omega)only[go_sem,K.cu,↓reduceIte,hc,hx,he,w1,gt_iff_lt]
         · simp(disch:=omega)only[go_sem,K.cu,↓reduceIte,hc,hx,he,w1,gt_iff_lt]
theorem Md{m:aP}(h:m.ok)(k:Nat)(hk:k<m.roads.length)(back:Bool):aH 0 N.iC [.t m.e,I k,B back] []=some (I (ir m k back 6 9 12),[]):=by
 refine av K.sH rfl ?_
 have hw:=Mc h k hk back 6 9 12 (by omega) (by omega) (by omega) (by omega) (by omega) (by omega)
 simp(disch:=omega)only[go_sem,K.iC,↓reduceIte,hw]
theorem CT{m:aP}(h:m.ok)(k:Nat)(hk:k<m.roads.length)(back:Bool): -1≤ir m k back 6 9 12∧ir m k back 6 9 12≤1000012:=by
 have l0:=(h.rs _ (af hk)).l0
 have l1:=(h.rs _ (af hk)).l1
 unfold ir
 simp only
 split
 · omega
 · generalize hs:(if -10*_>(nth m.roads k).len then(9:Int)else _)=s
   have h1:1≤s∧s≤12:=by
    rw[← hs]
    split
    · omega
    · split<;>omega
   have g1:=uY (a:=10*(nth m.roads k).len+s-1) (b:=s) (by omega) h1.1
   omega
def bnd(l:List Int):Prop:=∀x∈l,0≤x∧x≤1099511627776
def nI(l:List Int)(p q:Nat)(walk t:Int):Bool:=
 decide (0≤walk)&&decide (nth l p<1099511627776)&&decide (max t (nth l p+walk)≤2147483648)&&decide (max t (nth l p+walk)<nth l q)
def ov(l:List Int)(p q:Nat)(walk t:Int):List Int:=if nI l p q walk t=true then l.set q (max t (nth l p+walk))else l
theorem CU(l:List Int)(hb:bnd l)(hl:l.length≤64)(p q:Int)(hp:0≤p)(hp2:p<l.length)(hq:0≤q)(hq2:q<l.length)(walk t:Int)(hw:walk≤1000000000)(ht:t≤1000000000000)(ht0: -1000000000000≤t):
 aH 0 N.dH [.ref 0 0 l.length,I p,I q,I walk,I t] [.arr 1 false 0 ((l.map (T.int .i64)).map .t)]=
  some (B (nI l p.toNat q.toNat walk t),[.arr 1 false 0 (((ov l p.toNat q.toNat walk t).map (T.int .i64)).map .t)]):=by
 refine av K.qW rfl ?_
 have b1:=hb _ (af (l:=l) (j:=p.toNat) (by omega))
 have b2:=hb _ (af (l:=l) (j:=q.toNat) (by omega))
 clear hb
 unfold ov nI
 by_cases c1:0≤walk
 · by_cases c2:nth l p.toNat<1099511627776
   · by_cases c3:max t (nth l p.toNat+walk)≤2147483648
     · by_cases c4:max t (nth l p.toNat+walk)<nth l q.toNat
       · simp(disch:=omega)only[go_sem,K.dH,↓reduceIte]
       · simp(disch:=omega)only[go_sem,K.dH,↓reduceIte]
     · simp(disch:=omega)only[go_sem,K.dH,↓reduceIte]
   · simp(disch:=omega)only[go_sem,K.dH,↓reduceIte]
 · simp(disch:=omega)only[go_sem,K.dH,↓reduceIte]
def Me(into:Option (List Int))(p:Int):Bool:=match into with
 | none=>true
 | some l=>decide (p∈l)
def pw(into:Option (List Int)):D:=match into with
 | none=> .nil
 | some l=> .t (tL l)
def Road.src(r:Road)(back:Bool):Int:=if back then r.to else r.frm
def Road.dst(r:Road)(back:Bool):Int:=if back then r.frm else r.to
theorem Road.ya{n:Nat}{r:Road}(h:r.ok n)(back:Bool):0≤r.src back∧r.src back<n:=by
 unfold Road.src;have:=h.f0;have:=h.f1;have:=h.t0;have:=h.t1;cases back<;>simp<;>omega
theorem Road.B1{n:Nat}{r:Road}(h:r.ok n)(back:Bool):0≤r.dst back∧r.dst back<n:=by
 unfold Road.dst;have:=h.f0;have:=h.f1;have:=h.t0;have:=h.t1;cases back<;>simp<;>omega
def fP(m:aP)(t:Int)(into:Option (List Int))(k:Nat)(back:Bool)(l:List Int):List Int×Bool:=
 if Me into ((nth m.roads k).dst back)=true then
  (ov l ((nth m.roads k).src back).toNat ((nth m.roads k).dst back).toNat (ir m k back 6 9 12) t,nI l ((nth m.roads k).src back).toNat ((nth m.roads k).dst back).toNat (ir m k back 6 9 12) t)
 else(l,false)
def uZ(m:aP)(t:Int)(into:Option (List Int))(k:Nat)(s:List Int×Bool):List Int×Bool:=
 let a:=fP m t into k false s.1
 let b:=fP m t into k true a.1
 (b.1,s.2||a.2||b.2)
def fH(m:aP)(t:Int)(into:Option (List Int))(l:List Int):Nat→List Int×Bool
 | 0=>(l,false)
 | k+1=>uZ m t into k (fH m t into l k)
def dF(m:aP)(t:Int)(into:Option (List Int))(l:List Int):List Int×Bool:=fH m t into l m.roads.length
theorem nZ(l:List Int)(p q:Nat)(w t:Int):(ov l p q w t).length=l.length:=by unfold ov;split<;>simp
theorem qc(m:aP)(t:Int)(into:Option (List Int))(k:Nat)(back:Bool)(l:List Int):(fP m t into k back l).1.length=l.length:=by
 unfold fP;split
 · exact nZ _ _ _ _ _
 · rfl
theorem dP(m:aP)(t:Int)(into:Option (List Int))(l:List Int):∀k,(fH m t into l k).1.length=l.length
 | 0=>rfl
 | k+1=>by simp only[fH,uZ,qc,dP m t into l k]
theorem xA{l:List Int}(h:bnd l){q:Nat}{x:Int}(h0:0≤x)(h1:x≤1099511627776):bnd (l.set q x):=by
 intro y hy
 rcases aLk hy with hy | hy
 · exact h y hy
 · subst hy;exact⟨h0,h1⟩
theorem B2{l:List Int}(h:bnd l){p q:Nat}(hp:p<l.length){w t:Int}:bnd (ov l p q w t):=by
 unfold ov
 split
 · rename_i hc
   simp only[nI,aLr,decide_eq_true_eq]at hc
   have:=h _ (af hp)
   exact xA h (by omega) (by omega)
 · exact h
section
variable {m : aP} (h : m.ok) {t : Int} {into : Option (List Int)}
include h
theorem sK{l:List Int}(hl:l.length=m.aa.length)(hb:bnd l){k:Nat}(hk:k<m.roads.length)(back:Bool):bnd (fP m t into k back l).1:=by
 have r1:=Road.ya (h.rs _ (af hk)) back
 unfold fP
 split
 · exact B2 hb (by omega)
 · exact hb
theorem jb{l:List Int}(hl:l.length=m.aa.length)(hb:bnd l):∀k,k≤m.roads.length→bnd (fH m t into l k).1
 | 0,_=>hb
 | k+1,hk=>by
   simp only[fH,uZ]
   exact sK h (by rw[qc,dP,hl]) (sK h (by rw[dP,hl]) (jb hl hb k (by omega)) (by omega) _) (by omega) _
end
def zf(l:List Int):Nat:=(l.map Int.toNat).sum
theorem IB:∀ {l:List Int} {q:Nat} {x:Int},q<l.length→0≤x→x<nth l q→zf (l.set q x)<zf l
 | [],q,x,h,_,_=>by simp at h
 | a::l,0,x,_,h0,h1=>by
   have h1:x<a:=by simpa [nth]using h1
   simp only[zf,List.set_cons_zero,List.map_cons,List.sum_cons];omega
 | a::l,q+1,x,h,h0,h1=>by
   have:=IB (l:=l) (q:=q) (x:=x) (by simpa using h) h0 (by simpa [nth]using h1)
   simp only[zf,List.set_cons_succ,List.map_cons,List.sum_cons]at this ⊢;omega
theorem JY{l:List Int}(hb:bnd l){p q:Nat}(hp:p<l.length)(hq:q<l.length){w t:Int}:
 (nI l p q w t=true→zf (ov l p q w t)<zf l)∧(nI l p q w t=false→ov l p q w t=l):=by
 unfold ov
 constructor
 · intro hc
   rw[if_pos hc]
   simp only[nI,aLr,decide_eq_true_eq]at hc
   have:=hb _ (af hp)
   exact IB hq (by omega) hc.2
 · intro hc;rw[if_neg (by simp[hc])]
section
variable {m : aP} (h : m.ok) {t : Int} {into : Option (List Int)}
include h
theorem Aj{l:List Int}(hl:l.length=m.aa.length)(hb:bnd l){k:Nat}(hk:k<m.roads.length)(back:Bool):
 ((fP m t into k back l).2=true→zf (fP m t into k back l).1<zf l)∧((fP m t into k back l).2=false→(fP m t into k back l).1=l):=by
 have r1:=Road.ya (h.rs _ (af hk)) back
 have r2:=Road.B1 (h.rs _ (af hk)) back
 unfold fP
 split
 · exact JY hb (by omega) (by omega)
 · simp
theorem qd{l:List Int}(hl:l.length=m.aa.length)(hb:bnd l):∀k,k≤m.roads.length→
 ((fH m t into l k).2=true→zf (fH m t into l k).1<zf l)∧((fH m t into l k).2=false→(fH m t into l k).1=l)
 | 0,_=>⟨fun h=>by simp[fH]at h,fun _=>rfl⟩
 | k+1,hk=>by
   obtain⟨i1,i2⟩:=qd hl hb k (by omega)
   have hb1:=jb h (t:=t) (into:=into) hl hb k (by omega)
   have hl1:(fH m t into l k).1.length=m.aa.length:=by rw[dP,hl]
   obtain⟨a1,a2⟩:=Aj h (t:=t) (into:=into) hl1 hb1 (k:=k) (by omega) false
   have hb2:=sK h (t:=t) (into:=into) hl1 hb1 (k:=k) (by omega) false
   obtain⟨c1,c2⟩:=Aj h (t:=t) (into:=into) (by rw[qc,hl1]) hb2 (k:=k) (by omega) true
   simp only[fH,uZ]
   generalize fH m t into l k=s at*
   obtain⟨sl,sb⟩:=s
   simp only at*
   generalize fP m t into k false sl=a at*
   obtain⟨al,ab⟩:=a
   simp only at*
   generalize fP m t into k true al=b at*
   obtain⟨bl,bb⟩:=b
   simp only at*
   cases sb<;>cases ab<;>cases bb<;>simp_all<;>omega
end
end Go.Ev
namespace Go.Ev
open Go
variable [Lib] [cz] [bZ]
abbrev ae(m:aP):List D:=[.t (.sl (m.aa.map Place.e)),.t (.sl (m.roads.map Road.e))]
theorem T8(H:ah)(into:Option (List Int))(hi:∀l,into=some l→l≠[]):sj H .sl false (some (pw into)) (some .nil)=some (B (into.isNone),H):=by
 cases into with
 | none=>rfl
 | some l=>exact ze H _ (by simpa using hi l rfl)
@[go_sem] theorem aah (k n : Nat) (into : Option (List Int)) : old k n (pw into) = true := by
 cases into<;>simp only[pw,go_sem]
theorem JZ{m:aP}(h:m.ok)(t:Int)(ht:t≤1000000000000)(ht0: -1000000000000≤t)(into:Option (List Int))(hi:∀l,into=some l→l≠[]∧l.length≤64)(l:List Int)(hl:l.length=m.aa.length)(hb:bnd l)
 (k:Nat) (hk:k<m.roads.length) (ag:Bool):
 dV true [0,1,5,9] 2 (exS aH K.fp ⟨[.und,.und,I t,pw into,.bp 0 0,.und,.ref 1 0 l.length,B ag,I k,.und],[.box (ae m),.arr 1 false 0 ((l.map (T.int .i64)).map .t)]⟩)=
  some ⟨[.und,.und,I t,pw into,.bp 0 0,.und,.ref 1 0 (uZ m t into k (l,ag)).1.length,B (uZ m t into k (l,ag)).2,I (k+1),.und],[.box (ae m),.arr 1 false 0 (((uZ m t into k (l,ag)).1.map (T.int .i64)).map .t)]⟩:=by
 have np:=h.np
 have nr:=h.nr
 have t1:=Md h k hk false
 have t2:=Md h k hk true
 have w1:=(CT h k hk false).2
 have w2:=(CT h k hk true).2
 obtain⟨f0,f1,t0,t1', -, -, -, -, -, -, -, -, -, -, -⟩:=h.rs _ (af hk)
 have e0:=fun H=>T8 H into fun l hl=>(hi l hl).1
 have lw1:=CU l hb (by omega) (nth m.roads k).frm (nth m.roads k).to f0 (by omega) t0 (by omega) (ir m k false 6 9 12) t (by omega) ht ht0
 have lw2:=CU l hb (by omega) (nth m.roads k).to (nth m.roads k).frm t0 (by omega) f0 (by omega) (ir m k true 6 9 12) t (by omega) ht ht0
 have hl':(ov l (nth m.roads k).frm.toNat (nth m.roads k).to.toNat (ir m k false 6 9 12) t).length=l.length:=nZ ..
 have lw3:=CU _ (B2 hb (p:=(nth m.roads k).frm.toNat) (q:=(nth m.roads k).to.toNat) (w:=ir m k false 6 9 12) (t:=t) (by omega)) (by omega) (nth m.roads k).to (nth m.roads k).frm t0 (by omega) f0 (by omega) (ir m k true 6 9 12) t (by omega) ht ht0
 rw[hl']at lw3
 simp only[uZ,fP,Road.src,Road.dst,aLt,↓reduceIte]
 generalize hx:nth m.roads k=x at*
 obtain⟨frm,to,len,area,walk,closed,rl,rh,ll,lh⟩:=x
 simp only at f0 f1 t0 t1' lw1 lw2 lw3 hl' ⊢
 generalize hw1:ir m k false 6 9 12=v1 at*
 generalize hw2:ir m k true 6 9 12=v2 at*
 clear hb
 cases into with
 | none=>
   simp only[pw,Me,↓reduceIte,Option.isNone]at e0 ⊢
   cases c1:nI l frm.toNat to.toNat v1 t<;>cases c2:nI (ov l frm.toNat to.toNat v1 t) to.toNat frm.toNat v2 t<;>rw[c1]at lw1<;>rw[c2]at lw3<;>
   simp(disch:=omega)only[go_sem,K.fp,↓reduceIte,hx,e0,t1,t2,lw1,lw3,nZ,reduceAdd,reduceSub]
 | some s=>
   have hs:=(hi s rfl).2
   have g1:=IA s to (by omega)
   have g2:=IA s frm (by omega)
   simp only[pw,Me,Option.isNone]at e0 ⊢
   by_cases m1:to∈s<;>by_cases m2:frm∈s
   · simp only[m1,m2,decide_true,↓reduceIte]at g1 g2 ⊢
     cases c1:nI l frm.toNat to.toNat v1 t<;>cases c2:nI (ov l frm.toNat to.toNat v1 t) to.toNat frm.toNat v2 t<;>rw[c1]at lw1<;>rw[c2]at lw3<;>
     simp(disch:=omega)only[go_sem,K.fp,↓reduceIte,hx,e0,t1,t2,lw1,lw3,g1,g2,c1,Bool.or_true,Bool.or_false,nZ,reduceAdd,reduceSub]
   · simp only[m1,m2,decide_true,decide_false,↓reduceIte]at g1 g2 ⊢
     cases c1:nI l frm.toNat to.toNat v1 t<;>rw[c1]at lw1<;>
     simp(disch:=omega)only[go_sem,K.fp,↓reduceIte,hx,e0,t1,t2,lw1,g1,g2,c1,Bool.or_true,Bool.or_false,nZ,reduceAdd,reduceSub]
   · simp only[m1,m2,decide_true,decide_false,↓reduceIte]at g1 g2 ⊢
     cases c1:nI l to.toNat frm.toNat v2 t<;>rw[c1]at lw2<;>
     simp(disch:=omega)only[go_sem,K.fp,↓reduceIte,hx,e0,t1,t2,lw2,g1,g2,c1,Bool.or_true,Bool.or_false,nZ,reduceAdd,reduceSub]
   · simp only[m1,m2,decide_false,↓reduceIte]at g1 g2 ⊢
     simp(disch:=omega)only[go_sem,K.fp,↓reduceIte,hx,e0,t1,t2,g1,g2,reduceAdd,reduceSub]
theorem zg{m:aP}(h:m.ok)(t:Int)(ht:t≤1000000000000)(ht0: -1000000000000≤t)(into:Option (List Int))(hi:∀l,into=some l→l≠[]∧l.length≤64)(l:List Int)(hl:l.length=m.aa.length)(hb:bnd l):
 aH 0 N.fL [.t m.e,.t (tL l),I t,pw into] []=some (.t (tL (jZ (dF m t into) (zf l+1) l)),[])∧(jZ (dF m t into) (zf l+1) l).length=m.aa.length∧bnd (jZ (dF m t into) (zf l+1) l):=by
 have nr:=h.nr
 have inner:∀(l:List Int),l.length=m.aa.length→bnd l→∀(a b c d:D),exS aH K.ur ⟨[a,b,I t,pw into,.bp 0 0,c,.ref 1 0 l.length,B false,I 0,d],[.box (ae m),.arr 1 false 0 ((l.map (T.int .i64)).map .t)]⟩=
  some (.exit 2,⟨[.und,.und,I t,pw into,.bp 0 0,.und,.ref 1 0 l.length,B (dF m t into l).2,I m.roads.length,.und],[.box (ae m),.arr 1 false 0 (((dF m t into l).1.map (T.int .i64)).map .t)]⟩):=by
  intro l hl hb a b c d
  refine dw (fun j=>⟨[.und,.und,I t,pw into,.bp 0 0,.und,.ref 1 0 (fH m t into l j).1.length,B (fH m t into l j).2,I j,.und],[.box (ae m),.arr 1 false 0 (((fH m t into l j).1.map (T.int .i64)).map .t)]⟩) m.roads.length rfl ?_ ?_ (by simp)
  · intro j hj
    have:=JZ h t ht ht0 into hi (fH m t into l j).1 (by rw[dP,hl]) (jb h hl hb j (by omega)) j hj (fH m t into l j).2
    exact this
  · simp(disch:=omega)only[go_sem,K.fp,↓reduceIte,dF,dP]
 have outer:=fun(a b c d e:D)=>JX (gc:=true) (dead:=[0,1,5,8,9]) (c:=K.lH) (vs:=[a,b,I t,pw into,.bp 0 0,c,.ref 1 0 l.length,B true,d,e]) (H:=[.box (ae m),.arr 1 false 0 ((l.map (T.int .i64)).map .t)])
  (fun l ag=>⟨[.und,.und,I t,pw into,.bp 0 0,.und,.ref 1 0 l.length,B ag,.und,.und],[.box (ae m),.arr 1 false 0 ((l.map (T.int .i64)).map .t)]⟩)
  (fun l=>(.exit 0,⟨[.und,.und,I t,pw into,.bp 0 0,.und,.ref 1 0 l.length,B false,.und,.und],[.box (ae m),.arr 1 false 0 ((l.map (T.int .i64)).map .t)]⟩))
  (dF m t into) (fun l=>l.length=m.aa.length∧bnd l) zf
  (fun l ⟨hl,hb⟩=>⟨⟨by rw[dF,dP,hl],jb h hl hb _ (aLs _)⟩,(qd h hl hb _ (aLs _)).1⟩)
  (by
   rintro l ⟨hl,hb⟩
   have:=inner l hl hb
   have e:(dF m t into l).1.length=l.length:=by rw[dF,dP]
   simp(disch:=omega)only[go_sem,K.lH,↓reduceIte,this,e])
  (by
   rintro l ⟨hl,hb⟩
   simp(disch:=omega)only[go_sem,K.lH,↓reduceIte,reduceCtorEq,ne_eq,not_false_eq_true,and_self])
  l ⟨hl,hb⟩ rfl
 obtain⟨-,o2⟩:=outer .und .und .und .und .und
 refine⟨?_,o2⟩
 refine av K.qU rfl ?_
 have o1:∀a b c d e:D,exS aH K.uu ⟨[a,b,I t,pw into,.bp 0 0,c,.ref 1 0 l.length,B true,d,e],[.box (ae m),.arr 1 false 0 ((l.map (T.int .i64)).map .t)]⟩=_:=fun a b c d e=>(outer a b c d e).1
 clear outer inner
 have np:=h.np
 have o2:=o2.1
 generalize jZ (dF m t into) (zf l+1) l=l2 at*
 cases into with
 | none=>
   simp only[pw]at o1
   simp(disch:=omega)only[go_sem,K.fL,↓reduceIte,o1,pw]
 | some s=>
   simp only[pw]at o1
   simp(disch:=omega)only[go_sem,K.fL,↓reduceIte,o1,pw]
structure Wh where
 time:Int
 frm:List Int
instance : Dat Wh := ⟨⟨0, []⟩⟩
abbrev Wh.e(w:Wh):T:= .agg [tI w.time,tL w.frm]
def cL(m:aP)(t:Int)(into:Option (List Int))(l:List Int):List Int:=jZ (dF m t into) (zf l+1) l
def inT(t:Int):Prop:=0≤t∧t≤2147483648
instance (t : Int) : Decidable (inT t) := by unfold inT; infer_instance
def plT(x:Int):Prop:=x=1099511627776∨inT x
instance (t : Int) : Decidable (plT t) := by unfold plT; infer_instance
def kU(w:Wh)(n:Int):Bool:=decide ((w.frm.length:Int)=n∧inT w.time)&&(List.range w.frm.length).all fun j=>decide (plT (nth w.frm j))
theorem kF{x:Int}(h:plT x):0≤x∧x≤1099511627776:=by unfold plT inT at h;omega
theorem wq(t:Int):aH 0 N.dN [I t] []=some (B (decide (inT t)),[]):=by
 refine av K.pt rfl ?_
 unfold inT
 by_cases h1:0≤t<;>by_cases h2:t≤2147483648<;>simp(disch:=omega)only[go_sem,K.dN,↓reduceIte,h1,h2]
theorem wu{m:aP}(h:m.ok)(t:Int)(ht:inT t)(l:List Int)(hl:l.length=m.aa.length)(hb:bnd l):
 aH 0 N.eb [.t m.e,.t (tL l),I t] []=some (.t (tL (cL m t none l)),[]):=by
 refine av K.qR rfl ?_
 unfold inT at ht
 have:=(zg h t (by omega) (by omega) none (by simp) l hl hb).1
 simp only[pw]at this
 unfold cL
 simp(disch:=omega)only[go_sem,K.eb,↓reduceIte,this]
theorem zh(w:Wh)(n:Int)(hl:w.frm.length≤4294967296):aH 0 N.dG [.t w.e,I n] []=some (B (kU w n),[]):=by
 refine av K.qV rfl ?_
 obtain⟨time,frm⟩:=w
 simp only at hl
 have loop:∀a b c:D,exS aH K.uv ⟨[a,b,.bp 0 0,c,I 0],[.box [I time,.t (tL frm)]]⟩=
  some (match (List.range frm.length).find? (fun j=> !decide (plT (nth frm j)))with
   | some j=>(.ret,⟨[.und,.und,.bp 0 0,B false,I j],[.box [I time,.t (tL frm)]]⟩)
   | none=>(.exit 0,⟨[.und,.und,.bp 0 0,.und,I frm.length],[.box [I time,.t (tL frm)]]⟩)):=by
  intro a b c
  refine cP (fun j=>⟨[.und,.und,.bp 0 0,.und,I j],[.box [I time,.t (tL frm)]]⟩) frm.length (fun j=> !decide (plT (nth frm j))) _ _ rfl ?_ ?_ ?_ (by simp)
  · intro j hj hp
    have hp:plT (nth frm j):=by simpa using hp
    unfold plT inT at hp
    by_cases h1:nth frm j=1099511627776
    · simp(disch:=omega)only[go_sem,K.iE,↓reduceIte,h1]
    · simp(disch:=omega)only[go_sem,K.iE,↓reduceIte]
  · intro j hj hp
    have hp:¬plT (nth frm j):=by simpa using hp
    unfold plT inT at hp
    by_cases h2:0≤nth frm j
    · simp(disch:=omega)only[go_sem,K.iE,↓reduceIte]
      simp
    · simp(disch:=omega)only[go_sem,K.iE,↓reduceIte]
      simp
  · simp(disch:=omega)only[go_sem,K.iE,↓reduceIte]
 unfold kU
 rw[qZ]
 by_cases h1:(frm.length:Int)=n
 · by_cases h2:0≤time
   · by_cases h3:time≤2147483648
     · have h4:inT time:=⟨h2,h3⟩
       simp(disch:=omega)only[go_sem,K.dG,↓reduceIte,loop,h1]
       cases hf:(List.range frm.length).find? (fun j=> !decide (plT (nth frm j)))with
       | some j=>simp(disch:=omega)only[go_sem,↓reduceIte,Option.isNone]
       | none=>simp(disch:=omega)only[go_sem,↓reduceIte,Option.isNone,h4,and_self,decide_true]
     · have h4:¬inT time:=by unfold inT;omega
       simp(disch:=omega)only[go_sem,K.dG,↓reduceIte,loop,h1,h4,and_false,decide_false]
   · have h4:¬inT time:=by unfold inT;omega
     simp(disch:=omega)only[go_sem,K.dG,↓reduceIte,loop,h1,h4,and_false,decide_false]
 · simp(disch:=omega)only[go_sem,K.dG,↓reduceIte,loop,h1,false_and,decide_false]
def dy(m:aP)(w:Wh):Bool:=kU w m.aa.length&&decide (cL m w.time none w.frm=w.frm)
theorem mA{w:Wh}{n:Int}(h:kU w n=true):(w.frm.length:Int)=n∧inT w.time∧∀x∈w.frm,plT x:=by
 simp only[kU,aLr,decide_eq_true_eq,aLx,aLu]at h
 refine⟨h.1.1,h.1.2,fun x hx=>?_⟩
 obtain⟨j,hj⟩:=aLf.1 hx
 have:=h.2 j (aLe.1 hj).1
 rwa [bP hj]at this
theorem jT{m:aP}(h:m.ok)(t:Int)(ht:inT t)(into:Option (List Int))(hi:∀l,into=some l→l≠[]∧l.length≤64){l:List Int}(hl:l.length=m.aa.length)(hb:bnd l):(cL m t into l).length=m.aa.length:=by
 unfold inT at ht
 exact(zg h t (by omega) (by omega) into hi l hl hb).2.1
theorem xB{m:aP}(h:m.ok)(t:Int)(ht:inT t)(into:Option (List Int))(hi:∀l,into=some l→l≠[]∧l.length≤64){l:List Int}(hl:l.length=m.aa.length)(hb:bnd l):bnd (cL m t into l):=by
 unfold inT at ht
 exact(zg h t (by omega) (by omega) into hi l hl hb).2.2
theorem CV{m:aP}(h:m.ok)(w:Wh)(hl:w.frm.length≤4294967296):aH 0 N.fK [.t m.e,.t w.e] []=some (B (dy m w),[]):=by
 refine av K.qS rfl ?_
 have c:=qY h
 have p:=zh w m.aa.length hl
 have np:=h.np
 unfold dy
 cases hp:kU w m.aa.length with
 | false=>
   rw[hp]at p
   obtain⟨time,frm⟩:=w
   simp(disch:=omega)only[go_sem,K.fK,↓reduceIte,c,p,Bool.false_and,reduceAdd,reduceSub]
 | true=>
   obtain⟨h1,h2,h3⟩:=mA hp
   rw[hp]at p
   have hb:bnd w.frm:=fun x hx=>kF (h3 x hx)
   have cl:=wu h w.time h2 w.frm (by omega) hb
   have ln:=jT h w.time h2 none (by simp) (l:=w.frm) (by omega) hb
   obtain⟨time,frm⟩:=w
   simp only at*
   have sm:=xz (cL m time none frm) frm (by omega)
   simp(disch:=omega)only[go_sem,K.fK,↓reduceIte,c,p,cl,sm,Bool.true_and,reduceAdd,reduceSub]
theorem Ak(w:Wh)(hl:w.frm.length≤4294967296):aH 0 N.b9 [.t w.e] []=some (.t w.e,[]):=by
 refine av K.oT rfl ?_
 obtain⟨time,frm⟩:=w
 simp only at*
 simp(disch:=omega)only[go_sem,K.b9,↓reduceIte,reduceAdd,reduceSub]
def jy(n:Nat):List Int:=List.replicate n 1099511627776
theorem GW(n:Nat):jy (n+1)=jy n++[1099511627776]:=List.replicate_succ'
@[simp] theorem n5 (n : Nat) : (jy n).length = n := List.length_replicate
theorem xC(n:Nat):bnd (jy n):=fun x hx=>by rw[List.eq_of_mem_replicate hx];omega
theorem J0(n:Nat)(hn:n≤1000000)(a:D):exS aH K.uq ⟨[I n,a,.ref 0 0 0,I 0],[.arr 1 false 0 []]⟩=
 some (.exit 0,⟨[I n,.und,.ref 0 0 n,I n],[.arr 1 false 0 (((jy n).map (T.int .i64)).map .t)]⟩):=by
 refine dw (fun j=>⟨[I n,.und,.ref 0 0 (jy j).length,I j],[.arr 1 false 0 (((jy j).map (T.int .i64)).map .t)]⟩) n rfl ?_ ?_ (by simp)
 · intro j hj
   have:=n5 j
   simp(disch:=omega)only[go_sem,K.ot,GW,↓reduceIte]
 · simp(disch:=omega)only[go_sem,K.ot,↓reduceIte,n5]
theorem EI(n:Nat)(hn:n≤1000000):aH 1 N.gk [I n] []=some (.ref 0 0 n,[.arr 1 false 0 (((jy n).map (T.int .i64)).map .t)]):=by
 refine av K.qQ rfl ?_
 have:=J0 n hn
 simp(disch:=omega)only[go_sem,K.gk,↓reduceIte,this]
def gT(m:aP)(p t:Int):Wh×Int:=
 if p<0∨(m.aa.length:Int)≤p then(⟨0,[]⟩,3)else if inT t then(⟨t,cL m t none ((jy m.aa.length).set p.toNat t)⟩,0)else(⟨0,[]⟩,8)
theorem IC{m:aP}(h:m.ok)(p t:Int):aH 0 N.eI [.t m.e,I p,I t] []=some (.tup [.t (gT m p t).1.e,I (gT m p t).2],[]):=by
 refine av K.qK rfl ?_
 have c:=qY h
 have np:=h.np
 have it:=wq t
 have nl:=n5 m.aa.length
 have nv:=EI m.aa.length (by omega)
 unfold gT
 by_cases h1:p<0
 · simp(disch:=omega)only[go_sem,K.eI,↓reduceIte,c,h1,true_or]
   rfl
 · by_cases h2:(m.aa.length:Int)≤p
   · simp(disch:=omega)only[go_sem,K.eI,↓reduceIte,c,h1,h2,or_true]
     rfl
   · by_cases h3:inT t
     · have b:bnd ((jy m.aa.length).set p.toNat t):=xA (xC _) h3.1 (by have:=h3.2;omega)
       have cl:=wu h t h3 ((jy m.aa.length).set p.toNat t) (by simp) b
       simp only[h3,decide_true]at it
       simp(disch:=omega)only[go_sem,K.eI,↓reduceIte,c,h1,h2,or_self,h3,it,nv,n5,cl]
     · simp only[h3,decide_false]at it
       simp(disch:=omega)only[go_sem,K.eI,↓reduceIte,c,h1,h2,or_self,h3,it]
       rfl
def mV(w:Wh)(t:Int):List Int:=eW w.frm.length fun j=>decide (nth w.frm j≤t)
theorem wy(w:Wh)(t:Int)(hl:w.frm.length≤1000000):aH 0 N.dX [.t w.e,I t] []=some (.t (tL (mV w t)),[]):=by
 refine av K.nq rfl ?_
 obtain⟨time,frm⟩:=w
 simp only[mV]at*
 have hlen:=fun k=>mz k (fun j=>decide (nth frm j≤t))
 have loop:∀a b:D,exS aH K.p8 ⟨[a,I t,.bp 0 0,b,.ref 1 0 0,I 0],[.box [I time,.t (tL frm)],.arr 1 false 0 []]⟩=
  some (.exit 0,⟨[.und,I t,.bp 0 0,.und,.ref 1 0 (eW frm.length (fun j=>decide (nth frm j≤t))).length,I frm.length],[.box [I time,.t (tL frm)],.arr 1 false 0 (((eW frm.length (fun j=>decide (nth frm j≤t))).map (T.int .i64)).map .t)]⟩):=by
  intro a b
  refine dw (fun j=>⟨[.und,I t,.bp 0 0,.und,.ref 1 0 (eW j (fun j=>decide (nth frm j≤t))).length,I j],[.box [I time,.t (tL frm)],.arr 1 false 0 (((eW j (fun j=>decide (nth frm j≤t))).map (T.int .i64)).map .t)]⟩) frm.length rfl ?_ ?_ (by simp)
  · intro j hj
    have:=hlen j
    by_cases hp:nth frm j≤t
    · simp(disch:=omega)only[go_sem,K.jw,ou,hp,decide_true,↓reduceIte]
    · simp(disch:=omega)only[go_sem,K.jw,ou,hp,decide_false,↓reduceIte]
  · simp(disch:=omega)only[go_sem,K.jw,↓reduceIte]
 have:=hlen frm.length
 simp(disch:=omega)only[go_sem,K.dX,↓reduceIte,loop]
def ez(w:Wh)(t:Int):Wh×Int:=if t<w.time∨2147483648<t then(w,8)else(⟨t,w.frm⟩,0)
theorem ID(w:Wh)(t:Int)(hl:w.frm.length≤1000000):aH 0 N.eJ [.t w.e,I t] []=some (.tup [.t (ez w t).1.e,I (ez w t).2],[]):=by
 refine av K.qN rfl ?_
 have c:=Ak w (by omega)
 obtain⟨time,frm⟩:=w
 simp only[ez]at*
 by_cases h1:t<time
 · simp(disch:=omega)only[go_sem,K.eJ,↓reduceIte,c,h1,true_or]
 · by_cases h2:2147483648<t
   · simp(disch:=omega)only[go_sem,K.eJ,↓reduceIte,c,h1,h2,or_true]
   · simp(disch:=omega)only[go_sem,K.eJ,↓reduceIte,c,h1,h2,or_self]
def iF(m:aP)(w:Wh)(aa:List Int)(a b:Int):Int:=
 if dy m w=true∧aa≠[]∧A9 aa m.aa.length=true then(if inT a∧inT b∧a≤b then 0 else 8)else 6
theorem IE{m:aP}(h:m.ok)(w:Wh)(hl:w.frm.length≤1000000)(aa:List Int)(hp:aa.length≤1000000)(a b:Int):
 aH 0 N.cT [.t m.e,.t w.e,.t (tL aa),I a,I b] []=some (I (iF m w aa a b),[]):=by
 refine av K.qT rfl ?_
 have v:=CV h w (by omega)
 have s:=aag aa m.aa.length (by omega)
 have np:=h.np
 have ia:=wq a
 have ib:=wq b
 obtain⟨time,frm⟩:=w
 simp only at*
 unfold iF
 cases hv:dy m ⟨time,frm⟩with
 | false=>
   rw[hv]at v
   simp(disch:=omega)only[go_sem,K.cT,↓reduceIte,v,aLt,false_and]
 | true=>
   rw[hv]at v
   cases aa with
   | nil=>simp(disch:=omega)only[go_sem,K.cT,↓reduceIte,v,ne_eq,not_true_eq_false,false_and,and_false,List.length_nil]
   | cons x xs=>
     have hne:0<(x::xs).length:=by simp
     generalize hx:x::xs=l at*
     have hne2:l≠[]:=by intro e;rw[e]at hne;simp at hne
     cases hs:A9 l m.aa.length with
     | false=>
       rw[hs]at s
       simp(disch:=omega)only[go_sem,K.cT,↓reduceIte,v,s,hne2,ne_eq,not_false_eq_true,true_and,aLt,and_false]
     | true=>
       rw[hs]at s
       by_cases h1:inT a
       · by_cases h2:inT b
         · simp only[h1,h2,decide_true]at ia ib
           by_cases h3:a≤b
           · simp(disch:=omega)only[go_sem,K.cT,↓reduceIte,v,s,hne2,ia,ib,h1,h2,h3,ne_eq,not_false_eq_true,and_self]
           · simp(disch:=omega)only[go_sem,K.cT,↓reduceIte,v,s,hne2,ia,ib,h1,h2,h3,ne_eq,not_false_eq_true,and_self,and_false]
         · simp only[h1,h2,decide_true,decide_false]at ia ib
           simp(disch:=omega)only[go_sem,K.cT,↓reduceIte,v,s,hne2,ia,ib,h1,h2,ne_eq,not_false_eq_true,and_self,and_false,false_and]
       · simp only[h1,decide_false]at ia
         simp(disch:=omega)only[go_sem,K.cT,↓reduceIte,v,s,hne2,ia,h1,ne_eq,not_false_eq_true,and_self,and_false,false_and]
theorem nT{l:List Int}{n:Int}(h:A9 l n=true){j:Nat}(hj:j<l.length):0≤nth l j∧nth l j<n∧(0<j→nth l (j-1)<nth l j):=by
 simp only[A9,aLx,aLu,decide_eq_true_eq]at h
 exact h j hj
theorem Mf{l:List Int}{n:Int}(h:A9 l n=true):∀ {j:Nat},j<l.length→(j:Int)≤nth l j
 | 0,hj=>by have:=nT h hj;omega
 | j+1,hj=>by
   have h1:=Mf h (j:=j) (by omega)
   have:=(nT h hj).2.2 (by omega)
   simp only[Nat.add_sub_cancel]at this
   omega
theorem zi{l:List Int}{n:Nat}(h:A9 l n=true):l.length≤n:=by
 cases hl:l.length with
 | zero=>omega
 | succ k=>
   have h1:=Mf h (j:=k) (by omega)
   have h2:=(nT h (j:=k) (by omega)).2.1
   omega
def u9(w:Wh)(t p:Int)(s:List Int×Bool):List Int×Bool:=if nth w.frm p.toNat≤t then(s.1.set p.toNat (nth w.frm p.toNat),true)else s
def tV(w:Wh)(l:List Int)(t:Int)(n:Nat):Nat→List Int×Bool
 | 0=>(jy n,false)
 | j+1=>u9 w t (nth l j) (tV w l t n j)
theorem oW(w:Wh)(l:List Int)(t:Int)(n:Nat):∀j,(tV w l t n j).1.length=n
 | 0=>n5 n
 | j+1=>by
   have:=oW w l t n j
   simp only[tV,u9]
   split<;>simp[this]
theorem zj{w:Wh}(hw:bnd w.frm)(l:List Int)(t:Int){n:Nat}(hl:∀p∈l,0≤p∧p<w.frm.length):∀j,j≤l.length→bnd (tV w l t n j).1
 | 0,_=>xC n
 | j+1,hj=>by
   have:=zj hw l t hl (n:=n) j (by omega)
   simp only[tV,u9]
   split
   · have hp:=hl _ (af (l:=l) (j:=j) (by omega))
     have:=hw _ (af (l:=w.frm) (j:=(nth l j).toNat) (by omega))
     exact xA (by assumption) this.1 this.2
   · exact this
def w8(m:aP)(w:Wh)(l:List Int)(a b:Int):Wh×Int:=
 if iF m w l a b≠0 then(w,iF m w l a b)else if a<w.time then(w,42)else
 if(tV w l b m.aa.length l.length).2=true then(⟨b,cL m a none (tV w l b m.aa.length l.length).1⟩,0)else(w,43)
theorem lK{m:aP}{w:Wh}{l:List Int}{a b:Int}(h:iF m w l a b=0):dy m w=true∧l≠[]∧A9 l m.aa.length=true∧inT a∧inT b∧a≤b:=by
 unfold iF at h
 split at h
 · rename_i h1
   split at h
   · rename_i h2;exact⟨h1.1,h1.2.1,h1.2.2,h2⟩
   · omega
 · omega
theorem cU{m:aP}{w:Wh}(h:dy m w=true):w.frm.length=m.aa.length∧inT w.time∧(∀x∈w.frm,plT x)∧cL m w.time none w.frm=w.frm:=by
 simp only[dy,aLr,decide_eq_true_eq]at h
 obtain⟨h1,h2,h3⟩:=mA h.1
 exact⟨by omega,h2,h3,h.2⟩
theorem aai{m:aP}(h:m.ok)(w:Wh)(hl:w.frm.length≤1000000)(l:List Int)(hp:l.length≤1000000)(a b:Int):
 aH 0 N.iX [.t m.e,.t w.e,.t (tL l),I a,I b] []=some (.tup [.t (w8 m w l a b).1.e,I (w8 m w l a b).2],[]):=by
 refine av K.uW rfl ?_
 have as:=IE h w hl l hp a b
 have cp:=Ak w (by omega)
 have np:=h.np
 have nv:=EI m.aa.length (by omega)
 have nl:=n5 m.aa.length
 unfold w8
 by_cases h0:iF m w l a b=0
 · obtain⟨v1,v2,v3,v4,v5,v6⟩:=lK h0
   obtain⟨w1,w2,w3,w4⟩:=cU v1
   have hlen:=zi v3
   rw[h0]at as ⊢
   obtain⟨time,frm⟩:=w
   simp only at*
   by_cases h1:a<time
   · simp(disch:=omega)only[go_sem,K.iX,↓reduceIte,as,cp,h1,ne_eq,not_true_eq_false]
   · have hbw:bnd (Wh.frm ⟨time,frm⟩):=fun x hx=>kF (w3 x hx)
     have hb:=zj hbw l b (n:=m.aa.length) (fun p hp=>by
      obtain⟨j,hj⟩:=aLf.1 hp
      have:=nT v3 (aLe.1 hj).1
      rw[bP hj]at this
      simp only
      omega) l.length (aLs _)
     have ln:=oW ⟨time,frm⟩ l b m.aa.length
     have loop:∀x y z u v:D,exS aH K.yp ⟨[x,y,.t (tL l),I a,I b,.bp 0 0,.bp 1 0,.bp 2 0,z,u,.ref 3 0 m.aa.length,B false,I 0,v],[.box (ae m),.box [I time,.t (tL frm)],.box [I 0,.nil],.arr 1 false 0 (((jy m.aa.length).map (T.int .i64)).map .t)]⟩=
      some (.exit 0,⟨[.und,.und,.t (tL l),I a,I b,.bp 0 0,.bp 1 0,.bp 2 0,.und,.und,.ref 3 0 m.aa.length,B (tV ⟨time,frm⟩ l b m.aa.length l.length).2,I l.length,.und],[.box (ae m),.box [I time,.t (tL frm)],.box [I 0,.nil],.arr 1 false 0 ((((tV ⟨time,frm⟩ l b m.aa.length l.length).1).map (T.int .i64)).map .t)]⟩):=by
      intro x y z u v
      refine dw (fun j=>⟨[.und,.und,.t (tL l),I a,I b,.bp 0 0,.bp 1 0,.bp 2 0,.und,.und,.ref 3 0 m.aa.length,B (tV ⟨time,frm⟩ l b m.aa.length j).2,I j,.und],[.box (ae m),.box [I time,.t (tL frm)],.box [I 0,.nil],.arr 1 false 0 ((((tV ⟨time,frm⟩ l b m.aa.length j).1).map (T.int .i64)).map .t)]⟩) l.length rfl ?_ ?_ (by simp)
      · intro j hj
        obtain⟨p1,p2, -⟩:=nT v3 hj
        have lj:=ln j
        by_cases hc:nth frm (nth l j).toNat≤b
        · simp(disch:=omega)only[go_sem,K.nS,↓reduceIte,tV,u9,hc]
        · simp(disch:=omega)only[go_sem,K.nS,↓reduceIte,tV,u9,hc]
      · simp(disch:=omega)only[go_sem,K.nS,↓reduceIte]
     have cl:=wu h a v4 _ (ln l.length) hb
     have ln:=ln l.length
     simp(disch:=omega)only[go_sem,K.iX,↓reduceIte,as,h1,nv,loop,ne_eq,not_true_eq_false]
     cases hs:(tV ⟨time,frm⟩ l b m.aa.length l.length).2 with
     | true=>simp(disch:=omega)only[go_sem,↓reduceIte,ln,cl]
     | false=>simp(disch:=omega)only[go_sem,↓reduceIte,cp,aLt]
 · obtain⟨time,frm⟩:=w
   simp only at*
   simp(disch:=omega)only[go_sem,K.iX,↓reduceIte,as,cp,h0,ne_eq,not_false_eq_true]
def yO(l0 l:List Int):Nat→List Int
 | 0=>l0
 | j+1=>(yO l0 l j).set (nth l j).toNat 1099511627776
theorem tH(l0 l:List Int):∀j,(yO l0 l j).length=l0.length
 | 0=>rfl
 | j+1=>by simp only[yO,List.length_set,tH l0 l j]
theorem zk{l0:List Int}(h:bnd l0)(l:List Int):∀j,bnd (yO l0 l j)
 | 0=>h
 | j+1=>xA (zk h l j) (by omega) (by omega)
def w9(m:aP)(w:Wh)(l:List Int)(a b bl:Int):Wh×Int:=
 if iF m w l a b≠0 then(w,iF m w l a b)else if ¬inT bl then(w,8)else if b<w.time then(w,42)else if b-max a w.time≤bl then(w,0)else
 (⟨b,cL m b none (cL m (b-bl) (some l) (yO w.frm l l.length))⟩,0)
theorem aaj{m:aP}(h:m.ok)(w:Wh)(hl:w.frm.length≤1000000)(l:List Int)(hp:l.length≤1000000)(a b bl:Int):
 aH 0 N.dm [.t m.e,.t w.e,.t (tL l),I a,I b,I bl] []=some (.tup [.t (w9 m w l a b bl).1.e,I (w9 m w l a b bl).2],[]):=by
 refine av K.pq rfl ?_
 have as:=IE h w hl l hp a b
 have cp:=Ak w (by omega)
 have ib:=wq bl
 have np:=h.np
 unfold w9
 by_cases h0:iF m w l a b=0
 · obtain⟨v1,v2,v3,v4,v5,v6⟩:=lK h0
   obtain⟨w1,w2,w3,w4⟩:=cU v1
   have hlen:=zi v3
   rw[h0]at as ⊢
   obtain⟨time,frm⟩:=w
   simp only at*
   by_cases h1:inT bl
   · by_cases h2:b<time
     · simp only[h1,decide_true]at ib
       simp(disch:=omega)only[go_sem,K.dm,↓reduceIte,as,ib,cp,h1,h2,ne_eq,not_true_eq_false,not_false_eq_true]
     · simp only[h1,decide_true]at ib
       unfold inT at v4 v5 w2 h1
       by_cases h3:b-max a time≤bl
       · simp(disch:=omega)only[go_sem,K.dm,↓reduceIte,as,ib,cp,h1,h2,h3,ne_eq,not_true_eq_false,not_false_eq_true,inT,and_self]
       · have hb:bnd frm:=fun x hx=>kF (w3 x hx)
         have ln:=tH frm l
         have lb:=zk hb l
         have loop:∀x y z u v w:D,exS aH K.sB ⟨[x,y,.t (tL l),z,I b,I bl,.bp 0 0,u,.bp 2 0,v,w,.ref 3 0 frm.length,I 0],[.box (ae m),.box [I time,.t (tL frm)],.box [I 0,.nil],.arr 1 false 0 ((frm.map (T.int .i64)).map .t)]⟩=
          some (.exit 0,⟨[.und,.und,.t (tL l),.und,I b,I bl,.bp 0 0,.und,.bp 2 0,.und,.und,.ref 3 0 frm.length,I l.length],[.box (ae m),.box [I time,.t (tL frm)],.box [I 0,.nil],.arr 1 false 0 (((yO frm l l.length).map (T.int .i64)).map .t)]⟩):=by
          intro x y z u v w
          refine dw (fun j=>⟨[.und,.und,.t (tL l),.und,I b,I bl,.bp 0 0,.und,.bp 2 0,.und,.und,.ref 3 0 frm.length,I j],[.box (ae m),.box [I time,.t (tL frm)],.box [I 0,.nil],.arr 1 false 0 (((yO frm l j).map (T.int .i64)).map .t)]⟩) l.length rfl ?_ ?_ (by simp)
          · intro j hj
            obtain⟨p1,p2, -⟩:=nT v3 hj
            have lj:=ln j
            simp(disch:=omega)only[go_sem,K.ns,↓reduceIte,yO]
          · simp(disch:=omega)only[go_sem,K.ns,↓reduceIte]
         have hi:∀s,some l=some s→s≠[]∧s.length≤64:=by
          intro s hs;cases hs;exact⟨v2,by omega⟩
         have ln:=ln l.length
         have lb:=lb l.length
         have t1:inT (b-bl):=by unfold inT;omega
         have c1:=zg h (b-bl) (by omega) (by omega) (some l) hi _ (by omega) lb
         simp only[pw]at c1
         have c2:=wu h b v5 (cL m (b-bl) (some l) (yO frm l l.length)) (jT h _ t1 _ hi (by omega) lb) (xB h _ t1 _ hi (by omega) lb)
         have c3:=c1.1
         unfold cL at c2 ⊢
         clear c1
         simp(disch:=omega)only[go_sem,K.dm,↓reduceIte,as,ib,loop,c2,c3,ln,h1,h2,h3,ne_eq,not_true_eq_false,not_false_eq_true,inT,and_self,reduceAdd,reduceSub]
   · simp only[h1,decide_false]at ib
     simp(disch:=omega)only[go_sem,K.dm,↓reduceIte,as,ib,cp,h1,ne_eq,not_true_eq_false,not_false_eq_true]
 · obtain⟨time,frm⟩:=w
   simp only at*
   simp(disch:=omega)only[go_sem,K.dm,↓reduceIte,as,cp,h0,ne_eq,not_false_eq_true]
def B3(a b:List Int):Nat→List Int
 | 0=>[]
 | j+1=>B3 a b j++[min (nth a j) (nth b j)]
theorem mO(a b:List Int):∀j,(B3 a b j).length=j
 | 0=>rfl
 | j+1=>by simp[B3,mO a b j]
def jh(a b:Wh):Wh×Int:=if a.frm.length=b.frm.length then(⟨max a.time b.time,B3 a.frm b.frm a.frm.length⟩,0)else(⟨0,[]⟩,6)
theorem T9(a b:Wh)(ha:a.frm.length≤1000000):aH 0 N.iz [.t a.e,.t b.e] []=some (.tup [.t (jh a b).1.e,I (jh a b).2],[]):=by
 refine av K.sG rfl ?_
 obtain⟨t1,l1⟩:=a
 obtain⟨t2,l2⟩:=b
 simp only[jh]at*
 by_cases hl:l1.length=l2.length
 · have ln:=mO l1 l2
   have loop:∀x y z:D,exS aH K.we ⟨[x,y,.bp 0 0,.bp 1 0,.bp 2 0,z,.bp 3 0,I 0],[.box [I t1,.t (tL l1)],.box [I t2,.t (tL l2)],.box [I 0,.nil],.box [I (max t1 t2),.ref 5 0 0],.arr 1 false 0 [],.arr 1 false 0 []]⟩=
    some (.exit 0,⟨[.und,.und,.bp 0 0,.bp 1 0,.bp 2 0,.und,.bp 3 0,I l1.length],[.box [I t1,.t (tL l1)],.box [I t2,.t (tL l2)],.box [I 0,.nil],.box [I (max t1 t2),.ref 5 0 l1.length],.arr 1 false 0 [],.arr 1 false 0 (((B3 l1 l2 l1.length).map (T.int .i64)).map .t)]⟩):=by
    intro x y z
    refine dw (fun j=>⟨[.und,.und,.bp 0 0,.bp 1 0,.bp 2 0,.und,.bp 3 0,I j],[.box [I t1,.t (tL l1)],.box [I t2,.t (tL l2)],.box [I 0,.nil],.box [I (max t1 t2),.ref 5 0 j],.arr 1 false 0 [],.arr 1 false 0 (((B3 l1 l2 j).map (T.int .i64)).map .t)]⟩) l1.length rfl ?_ ?_ (by simp)
    · intro j hj
      have lj:=ln j
      simp(disch:=omega)only[go_sem,K.pn,↓reduceIte,B3,reduceAdd,reduceSub]
      done
    · simp(disch:=omega)only[go_sem,K.pn,↓reduceIte]
   have ln:=ln l1.length
   simp(disch:=omega)only[go_sem,K.iz,↓reduceIte,loop]
 · simp(disch:=omega)only[go_sem,K.iz,↓reduceIte,hl]
   rfl
structure Spn where
 low:Int
 high:Int
instance : Dat Spn := ⟨⟨0, 0⟩⟩
abbrev Spn.e(f:Spn):T:= .agg [tI f.low,tI f.high]
def Spn.ok(f:Spn):Prop:= -1125899906842624≤f.low∧f.high≤1125899906842624∧f.low≤f.high
instance (f : Spn) : Decidable f.ok := by unfold Spn.ok; infer_instance
def Mg(m:aP)(l:List Spn):Bool:=(List.range l.length).all (fun j=>decide (nth l j).ok)&&decide (l.length=m.roads.length)
def xD(x:Road)(f:Spn)(back:Bool):Int:=
 if x.closed=true then -1 else
 let g:=if back then -f.low else f.high
 let out:=if 0<g then(x.len*x.area*1000).tdiv g else -1
 if(if back then f.low<500*x.area else -500*x.area<f.high)∧(out<0∨x.len<out)then x.len else out
def aak(l:List Int)(p q:Nat)(t:Int):Bool:=decide (0≤t∧nth l p+t<nth l q)
def af4(l:List Int)(p q:Nat)(t:Int):List Int:=if aak l p q t=true then l.set q (nth l p+t)else l
def Rn(m:aP)(fl:List Spn)(k:Nat)(back:Bool)(l:List Int):List Int×Bool:=
 (af4 l ((nth m.roads k).src back).toNat ((nth m.roads k).dst back).toNat (xD (nth m.roads k) (nth fl k) back),aak l ((nth m.roads k).src back).toNat ((nth m.roads k).dst back).toNat (xD (nth m.roads k) (nth fl k) back))
def aal(m:aP)(fl:List Spn)(k:Nat)(s:List Int×Bool):List Int×Bool:=
 let a:=Rn m fl k false s.1
 let b:=Rn m fl k true a.1
 (b.1,s.2||a.2||b.2)
def Mh(m:aP)(fl:List Spn)(l:List Int):Nat→List Int×Bool
 | 0=>(l,false)
 | k+1=>aal m fl k (Mh m fl l k)
def Ua(m:aP)(fl:List Spn)(l:List Int):List Int×Bool:=Mh m fl l m.roads.length
section
variable {m : aP} (h : m.ok) {fl : List Spn}
include h
end
def adl(l:List Int):Nat→List Int
 | 0=>l
 | j+1=>if 2147483648<nth (adl l j) j then(adl l j).set j 1099511627776 else adl l j
def Ro(m:aP)(fl:List Spn)(l:List Int):List Int:=adl (jZ (Ua m fl) (zf l+1) l) m.aa.length
end Go.Ev
namespace Go.Ev
open Go
variable [Lib] [cz] [bZ]
def plS(t x:Int):Prop:=x=1099511627776∨(t≤x∧x≤2147483648)
instance (t x : Int) : Decidable (plS t x) := by unfold plS; infer_instance
def Mi(m:aP)(s:Wh):Bool:=(List.range s.frm.length).all (fun j=>decide (plS s.time (nth s.frm j)))&&decide (s.frm.length=m.aa.length∧inT s.time)
def Ub(l:List Int)(t:Int)(n:Nat):List Int:=(List.range n).map fun(p:Nat)=>if(p:Int)∈l then t else 1099511627776
@[simp] theorem aam (l : List Int) (t : Int) (n : Nat) : (Ub l t n).length = n := by simp [Ub]
def aan(m:aP)(fl:List Spn)(l:List Int)(t:Int):Wh×Int:=
 if Mg m fl=false then(⟨0,[]⟩,6)else if A9 l m.aa.length=false then(⟨0,[]⟩,3)else if ¬inT t then(⟨0,[]⟩,8)else
 (⟨t,Ro m fl (Ub l t m.aa.length)⟩,0)
def Rq(m:aP)(fl:List Spn)(frm:List Int)(t:Int)(k:Nat)(back:Bool)(l:List Int):List Int:=
 if nth frm ((nth m.roads k).src back).toNat≤t∧0≤xD (nth m.roads k) (nth fl k) back then l.set ((nth m.roads k).dst back).toNat (min (nth l ((nth m.roads k).dst back).toNat) t)else l
def aao(m:aP)(fl:List Spn)(frm:List Int)(t:Int)(k:Nat)(l:List Int):List Int:=Rq m fl frm t k true (Rq m fl frm t k false l)
def chN(m:aP)(fl:List Spn)(frm:List Int)(t:Int):Nat→List Int
 | 0=>frm
 | k+1=>aao m fl frm t k (chN m fl frm t k)
def af5(t:Int)(l:List Int):Nat→List Int
 | 0=>l
 | k+1=>(af5 t l k).set k (max (nth (af5 t l k) k) t)
def Uc(m:aP)(old:List Spn)(next:aP)(fl:List Spn)(s:Wh)(t:Int):Wh×Int:=
 if Mi m s=false∨Mg m old=false∨Mg next fl=false∨next.aa.length≠m.aa.length then(s,6)else
 if t<s.time∨2147483648<t then(s,8)else(⟨t,Ro next fl (af5 t (chN m old s.frm t m.roads.length) m.aa.length)⟩,0)
theorem kg{gc:Bool}{dead:List Nat}{c:C}{vs:List D}{H:ah}(s:Nat→St)(n:Nat)(p:Nat→Bool)(P:Nat→Ex×St→Prop)(eN:Ex×St)
 (h0:(⟨lk dead vs,H⟩:St)=s 0) (hs:∀j,j<n→p j=false→dV gc dead (s j).H.length (exS aH c (s j))=some (s (j+1)))
 (he:∀j,j<n→p j=true→∃q,exS aH c (s j)=some q∧q.1≠ .normal∧P j q) (hN:exS aH c (s n)=some eN) (hn:eN.1≠ .normal):
 ((List.range n).find? p=none∧exS aH (.loop gc dead c) ⟨vs,H⟩=some eN)∨∃j q,(List.range n).find? p=some j∧exS aH (.loop gc dead c) ⟨vs,H⟩=some q∧P j q:=by
 classical
 let e:Nat→Ex×St:=fun j=>if h:j<n∧p j=true then Classical.choose (he j h.1 h.2)else eN
 have h2:∀j,j<n→p j=true→exS aH c (s j)=some (e j)∧(e j).1≠ .normal∧P j (e j):=by
  intro j hj hp
  have e1:e j=Classical.choose (he j hj hp):=dif_pos ⟨hj,hp⟩
  rw[e1]
  exact Classical.choose_spec (he j hj hp)
 have:=cP s n p e eN h0 hs (fun j hj hp=>⟨(h2 j hj hp).1,(h2 j hj hp).2.1⟩) hN hn
 cases hf:(List.range n).find? p with
 | none=>rw[hf]at this;exact .inl ⟨rfl,this⟩
 | some j=>
   rw[hf]at this
   obtain⟨h3,h4⟩:=xx hf
   exact .inr ⟨j,e j,rfl,this,(h2 j h3 h4).2.2⟩
def sL(a b:List Int):Bool:=match (List.range (min a.length b.length)).find? (fun j=>decide (nth a j≠nth b j))with
 | some j=>decide (nth a j<nth b j)
 | none=>decide (a.length<b.length)
theorem GX(a b:List Int)(ha:a.length≤1000000)(hb:b.length≤1000000):aH 0 N.iy [.t (tL a),.t (tL b)] []=some (B (sL a b),[]):=by
 refine av K.sF rfl ?_
 have loop:∀c:D,exS aH K.wc ⟨[.t (tL a),.t (tL b),c,I 0],[]⟩=
  some (match (List.range (min a.length b.length)).find? (fun j=>decide (nth a j≠nth b j))with
   | some j=>(.ret,⟨[.t (tL a),.t (tL b),B (decide (nth a j<nth b j)),I j],[]⟩)
   | none=>(.exit 0,⟨[.t (tL a),.t (tL b),.und,I (min a.length b.length:Nat)],[]⟩)):=by
  intro c
  refine cP (fun j=>⟨[.t (tL a),.t (tL b),.und,I j],[]⟩) (min a.length b.length) (fun j=>decide (nth a j≠nth b j)) _ _ rfl ?_ ?_ ?_ (by simp)
  · intro j hj hp
    have hp:nth a j=nth b j:=by simpa using hp
    simp(disch:=omega)only[go_sem,K.ja,↓reduceIte]
  · intro j hj hp
    have hp:nth a j≠nth b j:=by simpa using hp
    refine⟨?_,by simp⟩
    by_cases h1:nth a j<nth b j
    · simp(disch:=omega)only[go_sem,K.ja,↓reduceIte,h1,decide_true]
    · simp(disch:=omega)only[go_sem,K.ja,↓reduceIte,h1,decide_false]
  · by_cases h1:a.length≤b.length
    · have e:min a.length b.length=a.length:=by omega
      rw[e]
      simp(disch:=omega)only[go_sem,K.ja,↓reduceIte]
    · have e:min a.length b.length=b.length:=by omega
      rw[e]
      simp(disch:=omega)only[go_sem,K.ja,↓reduceIte]
 unfold sL
 simp(disch:=omega)only[go_sem,K.iy,↓reduceIte,loop]
 cases hf:(List.range (min a.length b.length)).find? (fun j=>decide (nth a j≠nth b j))with
 | some j=>simp(disch:=omega)only[go_sem,↓reduceIte]
 | none=>
   by_cases h1:a.length<b.length
   · simp(disch:=omega)only[go_sem,↓reduceIte,h1,decide_true]
   · simp(disch:=omega)only[go_sem,↓reduceIte,h1,decide_false]
def bz(l:List Int)(x:Int):Int:=match (List.range l.length).find? (fun j=>decide (nth l j=x))with
 | some j=>j
 | none=> -1
theorem ow(l:List Int)(x:Int)(hl:l.length≤1000000):aH 0 N.dk [.t (tL l),I x] []=some (I (bz l x),[]):=by
 refine av K.po rfl ?_
 have loop:∀c:D,exS aH K.sA ⟨[.t (tL l),I x,c,I 0],[]⟩=
  some (match (List.range l.length).find? (fun j=>decide (nth l j=x))with
   | some j=>(.ret,⟨[.t (tL l),I x,I j,I j],[]⟩)
   | none=>(.exit 0,⟨[.t (tL l),I x,.und,I l.length],[]⟩)):=by
  intro c
  refine cP (fun j=>⟨[.t (tL l),I x,.und,I j],[]⟩) l.length (fun j=>decide (nth l j=x)) _ _ rfl ?_ ?_ ?_ (by simp)
  · intro j hj hp
    have hp:¬nth l j=x:=by simpa using hp
    simp(disch:=omega)only[go_sem,K.kB,↓reduceIte]
  · intro j hj hp
    have hp:nth l j=x:=by simpa using hp
    refine⟨?_,by simp⟩
    simp(disch:=omega)only[go_sem,K.kB,↓reduceIte,hp]
  · simp(disch:=omega)only[go_sem,K.kB,↓reduceIte]
 unfold bz
 simp(disch:=omega)only[go_sem,K.dk,↓reduceIte,loop]
 cases hf:(List.range l.length).find? (fun j=>decide (nth l j=x))with
 | some j=>simp(disch:=omega)only[go_sem,↓reduceIte]
 | none=>simp(disch:=omega)only[go_sem,↓reduceIte]
theorem xE{l:List Int}{x:Int}(h:0≤bz l x):bz l x<l.length∧nth l (bz l x).toNat=x:=by
 unfold bz at h ⊢
 cases hf:(List.range l.length).find? (fun j=>decide (nth l j=x))with
 | some j=>
   obtain⟨h1,h2⟩:=xx hf
   simp only[Int.toNat_natCast]
   exact⟨by omega,of_decide_eq_true h2⟩
 | none=>rw[hf]at h;simp at h
def ox(l:List Int)(j:Nat):Bool:=decide (1≤nth l j∧nth l j≤65535∧bz (l.take j) (nth l j)<0)
def fN(l:List Int):Bool:=(List.range l.length).all (ox l)
theorem EJ(l:List Int)(hl:l.length≤1000000):aH 0 N.fo [.t (tL l)] []=some (B (fN l),[]):=by
 refine av K.pf rfl ?_
 have loop:∀c:D,exS aH K.sr ⟨[.t (tL l),c,I 0],[]⟩=
  some (match (List.range l.length).find? (fun j=> !ox l j)with
   | some j=>(.ret,⟨[.t (tL l),B false,I j],[]⟩)
   | none=>(.exit 0,⟨[.t (tL l),.und,I l.length],[]⟩)):=by
  intro c
  refine cP (fun j=>⟨[.t (tL l),.und,I j],[]⟩) l.length (fun j=> !ox l j) _ _ rfl ?_ ?_ ?_ (by simp)
  · intro j hj hp
    have hp:ox l j=true:=by simpa using hp
    have b:=ow (l.take j) (nth l j) (by rw[List.length_take];omega)
    simp only[ox,decide_eq_true_eq]at hp
    simp only[tL,List.map_take]at b
    simp(disch:=omega)only[go_sem,K.gN,↓reduceIte,b]
  · intro j hj hp
    have hp:ox l j=false:=by simpa using hp
    have b:=ow (l.take j) (nth l j) (by rw[List.length_take];omega)
    simp only[ox,decide_eq_false_iff_not]at hp
    simp only[tL,List.map_take]at b
    refine⟨?_,by simp⟩
    by_cases h1:nth l j<1
    · simp(disch:=omega)only[go_sem,K.gN,↓reduceIte,b]
    · by_cases h2:65535<nth l j
      · simp(disch:=omega)only[go_sem,K.gN,↓reduceIte,b]
      · simp(disch:=omega)only[go_sem,K.gN,↓reduceIte,b]
  · simp(disch:=omega)only[go_sem,K.gN,↓reduceIte]
 unfold fN
 rw[qZ]
 simp(disch:=omega)only[go_sem,K.fo,↓reduceIte,loop]
 cases hf:(List.range l.length).find? (fun j=> !ox l j)with
 | some j=>simp(disch:=omega)only[go_sem,↓reduceIte,Option.isNone]
 | none=>simp(disch:=omega)only[go_sem,↓reduceIte,Option.isNone]
structure World where
 tags:List Int
 whr:List Wh
instance : Dat World := ⟨⟨[], []⟩⟩
abbrev World.e(x:World):T:= .agg [tL x.tags,.sl (x.whr.map Wh.e)]
structure Bel where
 aq:List World
instance : Dat Bel := ⟨⟨[]⟩⟩
abbrev Bel.e(b:Bel):T:= .agg [.sl (b.aq.map World.e)]
def World.sz(x:World):Prop:=x.tags.length≤1000000∧x.whr.length≤1000000∧∀w∈x.whr,w.frm.length≤1000000
def Bel.sz(b:Bel):Prop:=b.aq.length≤1000000∧∀x∈b.aq,x.sz
@[go_sem] theorem Ud (l : List Wh) : cK 2 (l.map Wh.e) = true := oV 2 _ (fun _ => rfl) l
@[go_sem] theorem Of (l : List World) : cK 2 (l.map World.e) = true := oV 2 _ (fun _ => rfl) l
@[go_sem] theorem adm (l : List Wh) : o9 2 (l.map Wh.e) = true := by cases l <;> rfl
@[go_sem] theorem Ue (l : List World) : o9 2 (l.map World.e) = true := by cases l <;> rfl
theorem uw(x:World)(h:x.sz)(a:D):exS aH K.oR ⟨[a,.bp 0 0,.bp 1 0,.bp 3 0,I 0],[.box [.t (tL x.tags),.t (.sl (x.whr.map Wh.e))],.box [.nil,.nil],.arr 1 false 0 ((x.tags.map (T.int .i64)).map .t),.box [.ref 2 0 x.tags.length,.ref 5 0 0],.arr 2 false 0 [],.arr 2 false 0 []]⟩=
 some (.exit 0,⟨[.und,.bp 0 0,.bp 1 0,.bp 3 0,I x.whr.length],[.box [.t (tL x.tags),.t (.sl (x.whr.map Wh.e))],.box [.nil,.nil],.arr 1 false 0 ((x.tags.map (T.int .i64)).map .t),.box [.ref 2 0 x.tags.length,.ref 5 0 x.whr.length],.arr 2 false 0 [],.arr 2 false 0 ((x.whr.map Wh.e).map .t)]⟩):=by
 obtain⟨tags,whr⟩:=x
 obtain⟨h1,h2,h3⟩:=h
 simp only at h1 h2 h3 ⊢
 have tk:whr.take whr.length=whr:=by simp
 refine dw (fun j=>⟨[.und,.bp 0 0,.bp 1 0,.bp 3 0,I j],[.box [.t (tL tags),.t (.sl (whr.map Wh.e))],.box [.nil,.nil],.arr 1 false 0 ((tags.map (T.int .i64)).map .t),.box [.ref 2 0 tags.length,.ref 5 0 (whr.take j).length],.arr 2 false 0 [],.arr 2 false 0 (((whr.take j).map Wh.e).map .t)]⟩) whr.length rfl ?_ ?_ (by simp)
 · intro j hj
   have c:=Ak (nth whr j) (by have:=h3 _ (af hj);omega)
   have lt:(whr.take j).length=j:=by rw[List.length_take];omega
   generalize hx:nth whr j=w at*
   obtain⟨time,frm⟩:=w
   have tk:whr.take (j+1)=whr.take j++[⟨time,frm⟩]:=by rw[jR hj,hx]
   generalize whr.take j=pre at*
   simp(disch:=omega)only[go_sem,K.kE,↓reduceIte,hx,c,lt,tk,reduceAdd,reduceSub]
 · simp(disch:=omega)only[go_sem,K.kE,↓reduceIte,tk]
theorem EK(x:World)(h:x.sz):aH 0 N.bE [.t x.e] []=some (.t x.e,[]):=by
 refine av K.jQ rfl ?_
 have loop:=uw x h
 obtain⟨tags,whr⟩:=x
 obtain⟨h1,h2,h3⟩:=h
 simp only at h1 h2 h3 loop ⊢
 simp(disch:=omega)only[go_sem,K.bE,↓reduceIte,loop]
theorem lL(x:World)(h:x.sz):aH 1 N.bE [.t x.e] []=some (.agg [.ref 0 0 x.tags.length,.ref 1 0 x.whr.length],[.arr 1 false 0 ((x.tags.map (T.int .i64)).map .t),.arr 2 false 0 ((x.whr.map Wh.e).map .t)]):=by
 refine av K.jQ rfl ?_
 have loop:=uw x h
 obtain⟨tags,whr⟩:=x
 obtain⟨h1,h2,h3⟩:=h
 simp only at h1 h2 h3 loop ⊢
 simp(disch:=omega)only[go_sem,K.bE,↓reduceIte,loop]
theorem yv(l:List World)(h1:l.length≤1000000)(h2:∀x∈l,x.sz)(a:D):exS aH K.vW ⟨[a,.bp 0 0,.bp 1 0,.bp 2 0,I 0],[.box [.t (.sl (l.map World.e))],.box [.nil],.box [.ref 3 0 0],.arr 2 false 0 []]⟩=
 some (.exit 0,⟨[.und,.bp 0 0,.bp 1 0,.bp 2 0,I l.length],[.box [.t (.sl (l.map World.e))],.box [.nil],.box [.ref 3 0 l.length],.arr 2 false 0 ((l.map World.e).map .t)]⟩):=by
 have tk:l.take l.length=l:=by simp
 refine dw (fun j=>⟨[.und,.bp 0 0,.bp 1 0,.bp 2 0,I j],[.box [.t (.sl (l.map World.e))],.box [.nil],.box [.ref 3 0 (l.take j).length],.arr 2 false 0 (((l.take j).map World.e).map .t)]⟩) l.length rfl ?_ ?_ (by simp)
 · intro j hj
   have c:=EK (nth l j) (h2 _ (af hj))
   have lt:(l.take j).length=j:=by rw[List.length_take];omega
   generalize hx:nth l j=w at*
   obtain⟨tags,whr⟩:=w
   have tk:l.take (j+1)=l.take j++[⟨tags,whr⟩]:=by rw[jR hj,hx]
   generalize l.take j=pre at*
   simp(disch:=omega)only[go_sem,K.pg,↓reduceIte,hx,c,lt,tk,reduceAdd,reduceSub]
 · simp(disch:=omega)only[go_sem,K.pg,↓reduceIte,tk]
theorem tJ(b:Bel)(h:b.sz):aH 0 N.ei [.t b.e] []=some (.t b.e,[]):=by
 refine av K.oS rfl ?_
 obtain⟨h1,h2⟩:=h
 have loop:=yv b.aq h1 h2
 obtain⟨l⟩:=b
 simp only at h1 h2 loop ⊢
 simp(disch:=omega)only[go_sem,K.ei,↓reduceIte,loop]
theorem GY(b:Bel)(h:b.sz):aH 1 N.ei [.t b.e] []=some (.agg [.ref 0 0 b.aq.length],[.arr 2 false 0 ((b.aq.map World.e).map .t)]):=by
 refine av K.oS rfl ?_
 obtain⟨h1,h2⟩:=h
 have loop:=yv b.aq h1 h2
 obtain⟨l⟩:=b
 simp only at h1 h2 loop ⊢
 simp(disch:=omega)only[go_sem,K.ei,↓reduceIte,loop]
def KT(m:aP)(first:List Int)(x:World)(k:Nat):Bool:=decide (0≤bz first (nth x.tags k))&&dy m (nth x.whr k)
def qe(m:aP)(ws:List World)(first:List Int)(i:Nat):Bool:=
 decide ((nth ws i).tags.length=first.length∧(nth ws i).whr.length=first.length)&&fN (nth ws i).tags&&(decide (i=0)||sL (nth ws (i-1)).tags (nth ws i).tags)&&(List.range (nth ws i).tags.length).all (KT m first (nth ws i))
def oX(m:aP)(b:Bel):Bool:=
 decide (1≤b.aq.length∧b.aq.length≤24)&&decide (1≤(nth b.aq 0).tags.length∧(nth b.aq 0).tags.length≤12)&&(List.range b.aq.length).all (qe m b.aq (nth b.aq 0).tags)
theorem Al{m:aP}(h:m.ok)(ws:List World)(first:List Int)(hf:first.length≤1000000)(hs:∀x∈ws,x.sz)(i:Nat)(hi:i<ws.length)(hl:ws.length≤1000000):
 (qe m ws first i=true→dV true [0,1,4,7,8] 2 (exS aH K.cg ⟨[.und,.und,.bp 0 0,.bp 1 0,.und,.t (tL first),I i,.und,.und],[.box (ae m),.box [.t (.sl (ws.map World.e))]]⟩)=some ⟨[.und,.und,.bp 0 0,.bp 1 0,.und,.t (tL first),I (i+1),.und,.und],[.box (ae m),.box [.t (.sl (ws.map World.e))]]⟩)∧
 (qe m ws first i=false→∃q,exS aH K.cg ⟨[.und,.und,.bp 0 0,.bp 1 0,.und,.t (tL first),I i,.und,.und],[.box (ae m),.box [.t (.sl (ws.map World.e))]]⟩=some q∧q.1= .ret∧q.2.vs[4]?=some (B false)):=by
 have np:=h.np
 have sz:=hs _ (af hi)
 have sz0:0<i→(nth ws (i-1)).sz:=fun h0=>hs _ (af (by omega))
 unfold qe
 generalize hy:nth ws (i-1)=y at*
 generalize hx:nth ws i=x at*
 obtain⟨tags,whr⟩:=x
 obtain⟨ptags,pwhr⟩:=y
 obtain⟨s1,s2,s3⟩:=sz
 simp only at s1 s2 s3 sz0 ⊢
 have p:=EJ tags s1
 have inner:tags.length=first.length→whr.length=first.length→∀a b c:D,
  ((List.range tags.length).all (KT m first ⟨tags,whr⟩)=true∧exS aH K.ph ⟨[a,b,.bp 0 0,.bp 1 0,c,.t (tL first),I i,.bp 2 0,I 0],[.box (ae m),.box [.t (.sl (ws.map World.e))],.box [.t (tL tags),.t (.sl (whr.map Wh.e))]]⟩=
    some (.exit 2,⟨[.und,.und,.bp 0 0,.bp 1 0,.und,.t (tL first),I i,.bp 2 0,I tags.length],[.box (ae m),.box [.t (.sl (ws.map World.e))],.box [.t (tL tags),.t (.sl (whr.map Wh.e))]]⟩))∨
  ((List.range tags.length).all (KT m first ⟨tags,whr⟩)=false∧∃j,exS aH K.ph ⟨[a,b,.bp 0 0,.bp 1 0,c,.t (tL first),I i,.bp 2 0,I 0],[.box (ae m),.box [.t (.sl (ws.map World.e))],.box [.t (tL tags),.t (.sl (whr.map Wh.e))]]⟩=
    some (.ret,⟨[.und,.und,.bp 0 0,.bp 1 0,B false,.t (tL first),I i,.bp 2 0,j],[.box (ae m),.box [.t (.sl (ws.map World.e))],.box [.t (tL tags),.t (.sl (whr.map Wh.e))]]⟩)):=by
  intro l1 l2 a b c
  have:=cP (gc:=true) (dead:=[0,1,4]) (c:=K.iD) (vs:=[a,b,.bp 0 0,.bp 1 0,c,.t (tL first),I i,.bp 2 0,I 0]) (H:=[.box (ae m),.box [.t (.sl (ws.map World.e))],.box [.t (tL tags),.t (.sl (whr.map Wh.e))]])
   (fun j=>⟨[.und,.und,.bp 0 0,.bp 1 0,.und,.t (tL first),I i,.bp 2 0,I j],[.box (ae m),.box [.t (.sl (ws.map World.e))],.box [.t (tL tags),.t (.sl (whr.map Wh.e))]]⟩) tags.length (fun j=> !KT m first ⟨tags,whr⟩ j)
   (fun j=>(.ret,⟨[.und,.und,.bp 0 0,.bp 1 0,B false,.t (tL first),I i,.bp 2 0,I j],[.box (ae m),.box [.t (.sl (ws.map World.e))],.box [.t (tL tags),.t (.sl (whr.map Wh.e))]]⟩))
   (.exit 2,⟨[.und,.und,.bp 0 0,.bp 1 0,.und,.t (tL first),I i,.bp 2 0,I tags.length],[.box (ae m),.box [.t (.sl (ws.map World.e))],.box [.t (tL tags),.t (.sl (whr.map Wh.e))]]⟩) rfl
   (by
    intro j hj hp
    have hp:KT m first ⟨tags,whr⟩ j=true:=by simpa using hp
    have b:=ow first (nth tags j) hf
    have v:=CV h (nth whr j) (by have:=s3 _ (af (l:=whr) (j:=j) (by omega));omega)
    simp only[KT,aLr,decide_eq_true_eq]at hp
    rw[hp.2]at v
    have hp:=hp.1
    simp(disch:=omega)only[go_sem,K.iD,↓reduceIte,b,v])
   (by
    intro j hj hp
    have hp:KT m first ⟨tags,whr⟩ j=false:=by simpa using hp
    have b:=ow first (nth tags j) hf
    have v:=CV h (nth whr j) (by have:=s3 _ (af (l:=whr) (j:=j) (by omega));omega)
    refine⟨?_,by simp⟩
    by_cases c1:bz first (nth tags j)<0
    · simp(disch:=omega)only[go_sem,K.iD,↓reduceIte,b,v]
    · have:dy m (nth whr j)=false:=by
       simp only[KT,Bool.and_eq_false_iff,decide_eq_false_iff_not]at hp
       rcases hp with hp | hp
       · exact absurd (by omega) hp
       · exact hp
      rw[this]at v
      simp(disch:=omega)only[go_sem,K.iD,↓reduceIte,b,v])
   (by simp(disch:=omega)only[go_sem,K.iD,↓reduceIte]) (by simp)
  cases hf:(List.range tags.length).find? (fun j=> !KT m first ⟨tags,whr⟩ j)with
  | none=>rw[hf]at this;exact .inl ⟨by rw[qZ,hf];rfl,this⟩
  | some j=>rw[hf]at this;exact .inr ⟨by rw[qZ,hf];rfl,⟨_,this⟩⟩
 by_cases l1:tags.length=first.length
 · by_cases l2:whr.length=first.length
   · cases hp:fN tags with
     | false=>
       rw[hp]at p
       refine⟨fun h=>by simp[hp]at h,fun _=>?_⟩
       simp(disch:=omega)only[go_sem,K.cg,↓reduceIte,hx,p]
       refine⟨_,rfl,?_,?_⟩<;>rfl
     | true=>
       rw[hp]at p
       have inner:=inner l1 l2
       cases i with
       | zero=>
         simp only[GQ]at inner
         simp only[l1,l2,and_self,decide_true,Bool.true_and,Bool.true_or]at inner ⊢
         rcases inner .und .und .und with⟨e, -⟩ | ⟨e, -⟩
         · refine⟨fun _=>?_,fun h=>by rw[e]at h;exact absurd h (by simp)⟩
           have inner:=fun a b c=>((inner a b c).resolve_right fun h=>by rw[e]at h;exact absurd h.1 (by simp)).2
           simp(disch:=omega)only[go_sem,K.cg,↓reduceIte,hx,p,inner]
         · refine⟨fun h=>by rw[e]at h;exact absurd h (by simp),fun _=>?_⟩
           have inner:∀a b c,_:=fun a b c=>((inner a b c).resolve_left fun h=>by rw[e]at h;exact absurd h.1 (by simp)).2
           obtain⟨j,inner⟩:=inner .und .und .und
           simp(disch:=omega)only[go_sem,K.cg,↓reduceIte,hx,p,inner]
           refine⟨_,rfl,?_,?_⟩<;>rfl
       | succ i=>
         simp only[JV,JW]at inner
         rw[Nat.add_sub_cancel]at hy
         have ls:=GX ptags tags (sz0 (by omega)).1 s1
         cases hl:sL ptags tags with
         | false=>
           rw[hl]at ls
           refine⟨fun h=>by simp at h,fun _=>?_⟩
           simp(disch:=omega)only[go_sem,K.cg,↓reduceIte,hx,p,hy,ls]
           refine⟨_,rfl,?_,?_⟩<;>rfl
         | true=>
           rw[hl]at ls
           simp only[l1,l2,and_self,decide_true,Bool.true_and,Bool.or_true]at inner ⊢
           rcases inner .und .und .und with⟨e, -⟩ | ⟨e, -⟩
           · refine⟨fun _=>?_,fun h=>by rw[e]at h;exact absurd h (by simp)⟩
             have inner:=fun a b c=>((inner a b c).resolve_right fun h=>by rw[e]at h;exact absurd h.1 (by simp)).2
             simp(disch:=omega)only[go_sem,K.cg,↓reduceIte,hx,hy,ls,p,inner]
           · refine⟨fun h=>by rw[e]at h;exact absurd h (by simp),fun _=>?_⟩
             have inner:∀a b c,_:=fun a b c=>((inner a b c).resolve_left fun h=>by rw[e]at h;exact absurd h.1 (by simp)).2
             obtain⟨j,inner⟩:=inner .und .und .und
             simp(disch:=omega)only[go_sem,K.cg,↓reduceIte,hx,hy,ls,p,inner]
             refine⟨_,rfl,?_,?_⟩<;>rfl
   · refine⟨fun h=>by simp[l2]at h,fun _=>?_⟩
     simp(disch:=omega)only[go_sem,K.cg,↓reduceIte,hx,p]
     refine⟨_,rfl,?_,?_⟩<;>rfl
 · refine⟨fun h=>by simp[l1]at h,fun _=>?_⟩
   simp(disch:=omega)only[go_sem,K.cg,↓reduceIte,hx,p]
   refine⟨_,rfl,?_,?_⟩<;>rfl
theorem GZ{m:aP}(h:m.ok)(b:Bel)(hs:b.sz):aH 0 N.cR [.t m.e,.t b.e] []=some (B (oX m b),[]):=by
 refine av K.qM rfl ?_
 obtain⟨h1,h2⟩:=hs
 have ck:=qY h
 obtain⟨ws⟩:=b
 unfold oX
 simp only at h1 h2 ⊢
 by_cases c1:ws.length<1
 · simp(disch:=omega)only[go_sem,K.cR,↓reduceIte,show ¬(1≤ws.length∧ws.length≤24)by omega,decide_false,Bool.false_and]
 · by_cases c2:24<ws.length
   · simp(disch:=omega)only[go_sem,K.cR,↓reduceIte,show ¬(1≤ws.length∧ws.length≤24)by omega,decide_false,Bool.false_and]
   · have c3:1≤ws.length∧ws.length≤24:=by omega
     have sz:=h2 _ (af (l:=ws) (j:=0) (by omega))
     have i0:(ws.map World.e)[0]?=some (nth ws 0).e:=cI _ (by omega)
     generalize hx:nth ws 0=x at*
     obtain⟨first,whr⟩:=x
     have hf:=sz.1
     simp only at hf ⊢
     by_cases c4:first.length<1
     · simp(disch:=omega)only[go_sem,K.cR,↓reduceIte,ck,hx,c3,and_self,show ¬(1≤first.length∧first.length≤12)by omega,decide_true,decide_false,Bool.true_and,Bool.false_and]
     · by_cases c5:12<first.length
       · simp(disch:=omega)only[go_sem,K.cR,↓reduceIte,ck,hx,c3,and_self,show ¬(1≤first.length∧first.length≤12)by omega,decide_true,decide_false,Bool.true_and,Bool.false_and]
       · have loop:=fun a b c d e=>kg (gc:=true) (dead:=[0,1,4,7,8]) (c:=K.cg) (vs:=[a,b,.bp 0 0,.bp 1 0,c,.t (tL first),I 0,d,e]) (H:=[.box (ae m),.box [.t (.sl (ws.map World.e))]])
          (fun j=>⟨[.und,.und,.bp 0 0,.bp 1 0,.und,.t (tL first),I j,.und,.und],[.box (ae m),.box [.t (.sl (ws.map World.e))]]⟩) ws.length (fun j=> !qe m ws first j) (fun _ q=>q.1= .ret∧q.2.vs[4]?=some (B false))
          (.exit 0,⟨[.und,.und,.bp 0 0,.bp 1 0,.und,.t (tL first),I ws.length,.und,.und],[.box (ae m),.box [.t (.sl (ws.map World.e))]]⟩) rfl
          (fun j hj hp=>(Al h ws first hf h2 j hj h1).1 (by simpa using hp))
          (fun j hj hp=>by
           obtain⟨q,q1,q2,q3⟩:=(Al h ws first hf h2 j hj h1).2 (by simpa using hp)
           exact⟨q,q1,by rw[q2];simp,q2,q3⟩)
          (by simp(disch:=omega)only[go_sem,K.cg,↓reduceIte]) (by simp)
         rw[qZ]
         rcases loop (.t m.e) (.t (Bel.e ⟨ws⟩)) (B false) .und .und with⟨e1,e2⟩ | ⟨j,⟨x,vs,H⟩,e1,e2,e3,e4⟩
         · have e2:exS aH K.pj ⟨[.t m.e,.t (Bel.e ⟨ws⟩),.bp 0 0,.bp 1 0,B false,.t (tL first),I 0,.und,.und],[.box (ae m),.box [.t (.sl (ws.map World.e))]]⟩=_:=e2
           simp(disch:=omega)only[go_sem,K.cR,↓reduceIte,ck,hx,c3,and_self,show(1≤first.length∧first.length≤12)by omega,decide_true,decide_false,Bool.true_and,e1,e2,Option.isNone]
         · have e2:exS aH K.pj ⟨[.t m.e,.t (Bel.e ⟨ws⟩),.bp 0 0,.bp 1 0,B false,.t (tL first),I 0,.und,.und],[.box (ae m),.box [.t (.sl (ws.map World.e))]]⟩=_:=e2
           simp only at e3 e4
           subst e3
           simp(disch:=omega)only[go_sem,K.cR,↓reduceIte,ck,hx,c3,and_self,show(1≤first.length∧first.length≤12)by omega,decide_true,decide_false,Bool.true_and,e1,e2,Option.isNone]
           simp(disch:=omega)only[go_sem,jE,e4,List.take_zero]
end Go.Ev
