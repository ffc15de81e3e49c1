/- Parts of the proof: see the text that holds the theorem. -/
import Derived.Test.YtljlbkjecjloaaaGreatZ2
set_option linter.all false
set_option maxRecDepth 100000
namespace Go.Ev
open Go
abbrev I(n:Int):D:= .t (.int .i64 n)
abbrev B(b:Bool):D:= .t (.bool b)
def HW{β:Type}(call:aR):List R→List D→List D→aj→(List D→List D→aj→Option β)→Option β
 | rs,L,vs,H,K=>(evR call rs L vs H).bind fun q=>K q.1 q.2.1 q.2.2
def Px{β:Type}(call:aR)(rs:List R)(d:Option Nat)(L vs:List D)(K:List D→List D→aj→Option β)(p:D×aj):Option β:=
 HW call rs (p.1::L) (wr vs d p.1) p.2 K
@[go_sem] theorem XV {β : Type} (call : aR) (rs : List R) (d : Option Nat) (L vs : List D) (K : List D → List D → aj → Option β) (x : D) (H : aj) :
 Px call rs d L vs K (x,H)=HW call rs (x::L) (wr vs d x) H K:=(rfl)
@[go_sem] theorem XW {β : Type} (call : aR) (L vs : List D) (H : aj) (K : List D → List D → aj → Option β) : HW call [] L vs H K = K L vs H := (rfl)
@[go_sem] theorem UZ {β : Type} (call : aR) (o : O) (d : Option Nat) (rs : List R) (L vs : List D) (H : aj) (K : List D → List D → aj → Option β) :
 HW call (⟨o,d,none⟩::rs) L vs H K=(evO call (X.get vs L) H o).bind (Px call rs d L vs K):=by
 simp[HW,evR,cq,Option.bind_assoc]
 rfl
def gate{β:Type}(c:Option D)(w:Bool)(a b:Option β):Option β:=match c with
 | some (.t (.bool x))=>if x=w then a else b
 | some (.tup [])=>b
 | _=>none
@[congr] theorem Sv {β : Type} {c c' : Option D} {w : Bool} {a b : Option β} (h : True → c = c') : gate c w a b = gate c' w a b := by rw [h trivial]
@[go_sem] theorem XX {β : Type} (p : Prop) [Decidable p] (a b : Option β) : gate (some (.t (.bool (decide p)))) true a b = if p then a else b := by
 by_cases h:p<;>simp[gate,h]
@[go_sem] theorem U0 {β : Type} (p : Prop) [Decidable p] (a b : Option β) : gate (some (.t (.bool (decide p)))) false a b = if p then b else a := by
 by_cases h:p<;>simp[gate,h]
@[go_sem] theorem U1 {β : Type} (x : Bool) (a b : Option β) : gate (some (.t (.bool x))) true a b = if x = true then a else b := (rfl)
@[go_sem] theorem Sw {β : Type} (x : Bool) (a b : Option β) : gate (some (.t (.bool x))) false a b = if x = true then b else a := by cases x <;> rfl
@[go_sem] theorem U2 {β : Type} (w : Bool) (a b : Option β) : gate (some (.tup [])) w a b = b := (rfl)
@[go_sem] theorem U3 {β : Type} (call : aR) (o : O) (d : Option Nat) (k : Nat) (w : Bool) (rs : List R) (L vs : List D) (H : aj) (K : List D → List D → aj → Option β) :
 HW call (⟨o,d,some (k,w)⟩::rs) L vs H K=gate L[k]? w ((evO call (X.get vs L) H o).bind (Px call rs d L vs K)) (HW call rs (.tup []::L) (wr vs d (.tup [])) H K):=by
 simp only[HW,evR,cq]
 cases hL:L[k]? with
 | none=>simp[gate]
 | some c=>
   simp only[Option.bind_some]
   cases c with
   | t x=>
     cases x with
     | bool b=>cases b<;>cases w<;>simp[gate,Option.bind_assoc]<;>rfl
     | _=>simp[gate]
   | tup ds=>
     cases ds with
     | nil=>simp[gate]
     | cons=>simp[gate]
   | _=>simp[gate]
open Classical in
noncomputable def vT{β:Type}(p:Prop)(x:Option β):Option β:=if p then x else none
@[go_sem] theorem Py {β : Type} (x : Option β) : vT True x = x := by simp [vT]
noncomputable def B4{β:Type}(call:aR)(all:List R)(n:Nat)(ps:List (Nat×Nat))(rs:List R)(L vs:List D)(H:aj)(acc:List Tr)(K:List D→List D→aj→Option β):Option β:=
 (evR call rs L vs H).bind fun q=>vT (p9 call all n ((trace call rs L vs H).reverse++acc) ps) (K q.1 q.2.1 q.2.2)
noncomputable def IU{β:Type}(call:aR)(all:List R)(n:Nat)(ps:List (Nat×Nat))(rs:List R)(d:Option Nat)(L vs:List D)(H:aj)(acc:List Tr)(K:List D→List D→aj→Option β)(p:D×aj):Option β:=
 B4 call all n ps rs (p.1::L) (wr vs d p.1) p.2 ((L,vs,H)::acc) K
@[go_sem] theorem XY {β : Type} (call : aR) (all : List R) (n : Nat) (ps : List (Nat × Nat)) (rs : List R) (d : Option Nat) (L vs : List D) (H : aj) (acc : List Tr) (K : List D → List D → aj → Option β) (x : D) (H' : aj) :
 IU call all n ps rs d L vs H acc K (x,H')=B4 call all n ps rs (x::L) (wr vs d x) H' ((L,vs,H)::acc) K:=(rfl)
@[go_sem] theorem XZ {β : Type} (call : aR) (all : List R) (n : Nat) (ps : List (Nat × Nat)) (L vs : List D) (H : aj) (acc : List Tr) (K : List D → List D → aj → Option β) :
 B4 call all n ps [] L vs H acc K=vT (p9 call all n ((L,vs,H)::acc) ps) (K L vs H):=by
 simp[B4,evR,trace]
theorem B5{β:Type}(call:aR)(all:List R)(n:Nat)(ps:List (Nat×Nat))(r:R)(rs:List R)(L vs:List D)(H:aj)(acc:List Tr)(K:List D→List D→aj→Option β):
 B4 call all n ps (r::rs) L vs H acc K=(cq L r.g).bind fun w=>
  if w then(evO call (X.get vs L) H r.o).bind (IU call all n ps rs r.d L vs H acc K)else B4 call all n ps rs (.tup []::L) (wr vs r.d (.tup [])) H ((L,vs,H)::acc) K:=by
 obtain hw | ⟨w,hw⟩:cq L r.g=none∨∃w,cq L r.g=some w:=by cases cq L r.g<;>simp
 · simp[B4,evR,trace,hw]
 · cases w with
   | true=>
     obtain hq | ⟨q,hq⟩:evO call (X.get vs L) H r.o=none∨∃q,evO call (X.get vs L) H r.o=some q:=by cases evO call (X.get vs L) H r.o<;>simp
     · simp[B4,evR,trace,hw,hq]
     · simp[B4,evR,trace,hw,hq,IU]
   | false=>simp[B4,evR,trace,hw]
@[go_sem] theorem U4 {β : Type} (call : aR) (all : List R) (n : Nat) (ps : List (Nat × Nat)) (o : O) (d : Option Nat) (rs : List R) (L vs : List D) (H : aj) (acc : List Tr) (K : List D → List D → aj → Option β) :
 B4 call all n ps (⟨o,d,none⟩::rs) L vs H acc K=(evO call (X.get vs L) H o).bind (IU call all n ps rs d L vs H acc K):=by
 rw[B5];simp[cq]
@[go_sem] theorem U5 {β : Type} (call : aR) (all : List R) (n : Nat) (ps : List (Nat × Nat)) (o : O) (d : Option Nat) (k : Nat) (w : Bool) (rs : List R) (L vs : List D) (H : aj) (acc : List Tr) (K : List D → List D → aj → Option β) :
 B4 call all n ps (⟨o,d,some (k,w)⟩::rs) L vs H acc K=
  gate L[k]? w ((evO call (X.get vs L) H o).bind (IU call all n ps rs d L vs H acc K)) (B4 call all n ps rs (.tup []::L) (wr vs d (.tup [])) H ((L,vs,H)::acc) K):=by
 rw[B5]
 simp only[cq]
 cases hL:L[k]? with
 | none=>simp[gate]
 | some c=>
   simp only[Option.bind_some]
   cases c with
   | t x=>
     cases x with
     | bool b=>cases b<;>cases w<;>simp[gate]
     | _=>simp[gate]
   | tup ds=>
     cases ds with
     | nil=>simp[gate]
     | cons=>simp[gate]
   | _=>simp[gate]
def wK(call:aR):Option R→Option Tr→Option Tr→Option Tr→Prop
 | some r,some s,some a,some s'=>(match r.o with
   | .al _ _=>a.2.2[s.2.2.length]?=s'.2.2[s.2.2.length]?
   | .bs xs _=>cq s.1 r.g=some false∨((bO (X.get s.2.1 s.1) xs).bind oP).isSome=true
   | o=>rQ o=true∧(cq s.1 r.g=some false∨zD (evO call (X.get s.2.1 s.1) a.2.2 o)=zD (evO call (X.get s.2.1 s.1) s.2.2 o)))
 | _,_,_,_=>False
@[go_sem] theorem Sx (call : aR) (all : List R) (n : Nat) (acc : List Tr) : p9 call all n acc [] = True := (rfl)
@[go_sem] theorem Pz (call : aR) (all : List R) (n : Nat) (acc : List Tr) (p m : Nat) (r : List (Nat × Nat)) :
 p9 call all n acc ((p,m)::r)=(wK call all[p]? acc[n-p]? acc[n-m]? acc[n-(p+1)]?∧m≤n∧p9 call all n acc r):=by
 simp only[p9,Pw,wK]
 try rfl
section
variable (call : aR) (d : Option Nat) (gd : Option (Nat × Bool)) (L vs L' vs' : List D) (H H' : aj) (s' : Tr)
@[go_sem] theorem X0 (x : X) (n : Nat) (agg : Bool) : wK call (some ⟨.ld x n agg, d, gd⟩) (some (L, vs, H)) (some (L', vs', H')) (some s') =
 (cq L gd=some false∨zD (evO call (X.get vs L) H' (.ld x n agg))=zD (evO call (X.get vs L) H (.ld x n agg))):=by simp[wK,rQ]
@[go_sem] theorem X1 (x i : X) (sz : Nat) : wK call (some ⟨.ia x i sz, d, gd⟩) (some (L, vs, H)) (some (L', vs', H')) (some s') =
 (cq L gd=some false∨zD (evO call (X.get vs L) H' (.ia x i sz))=zD (evO call (X.get vs L) H (.ia x i sz))):=by simp[wK,rQ]
@[go_sem] theorem X2 (x : X) (lo hi : Option X) (sz : Nat) : wK call (some ⟨.sc x lo hi sz, d, gd⟩) (some (L, vs, H)) (some (L', vs', H')) (some s') =
 (cq L gd=some false∨zD (evO call (X.get vs L) H' (.sc x lo hi sz))=zD (evO call (X.get vs L) H (.sc x lo hi sz))):=by simp[wK,rQ]
@[go_sem] theorem U6 (x : X) (z : T) (sz : Nat) : wK call (some ⟨.mkt x z sz, d, gd⟩) (some (L, vs, H)) (some (L', vs', H')) (some s') =
 (cq L gd=some false∨zD (evO call (X.get vs L) H' (.mkt x z sz))=zD (evO call (X.get vs L) H (.mkt x z sz))):=by simp[wK,rQ]
@[go_sem] theorem X3 (z : List D) (l : List (Nat × Nat)) (L2 vs2 : List D) (H2 : aj) : wK call (some ⟨.al z l, d, gd⟩) (some (L, vs, H)) (some (L', vs', H')) (some (L2, vs2, H2)) = (H'[H.length]? = H2[H.length]?) := (rfl)
@[go_sem] theorem X4 (xs : List X) (sz : Nat) : wK call (some ⟨.bs xs sz, d, gd⟩) (some (L, vs, H)) (some (L', vs', H')) (some s') =
 (cq L gd=some false∨((bO (X.get vs L) xs).bind oP).isSome=true):=(rfl)
@[go_sem] theorem Nx (L : List D) : cq L none = some true := (rfl)
def PA(w:Bool):Option D→Option Bool
 | some (.t (.bool b))=>some (b==w)
 | some (.tup [])=>some false
 | _=>none
@[go_sem] theorem Sy (w b : Bool) : PA w (some (.t (.bool b))) = some (b == w) := (rfl)
@[go_sem] theorem U7 (w : Bool) : PA w (some (.tup [])) = some false := (rfl)
@[go_sem] theorem Ny (L : List D) (k : Nat) (w : Bool) : cq L (some (k, w)) = PA w L[k]? := by
 simp only[cq]
 cases L[k]? with
 | none=>rfl
 | some c=>cases c with
   | t x=>cases x<;>rfl
   | tup ds=>cases ds<;>rfl
   | _=>rfl
@[go_sem] theorem U8 (x : D) : zD (some (x, H)) = some x := (rfl)
attribute [go_sem] beq_true beq_false or_true true_or or_self
end
theorem Fs(call:aR)(rs:List R)(vs:List D)(H:aj):KT call rs [] vs H=evR call rs [] vs H:=by
 simp[KT,p9]
def aac(L vs:List D)(H:aj):Option (Ex×St):=some (.normal,⟨vs,H⟩)
noncomputable def aad(call:aR)(k:Nat)(a b:C)(L vs:List D)(H:aj):Option (Ex×St):=fT L[k]? (exS call a ⟨vs,H⟩) (exS call b ⟨vs,H⟩)
@[go_sem] theorem aae (L vs : List D) (H : aj) : aac L vs H = some (.normal, ⟨vs, H⟩) := (rfl)
@[go_sem] theorem aaf (call : aR) (k : Nat) (a b : C) (L vs : List D) (H : aj) : aad call k a b L vs H = fT L[k]? (exS call a ⟨vs, H⟩) (exS call b ⟨vs, H⟩) := (rfl)
def andThen(x:Option (Ex×St))(k:St→Option (Ex×St)):Option (Ex×St):=x.bind fun p=>gj p k
@[go_sem] theorem KU (st : St) (k : St → Option (Ex × St)) : andThen (some (.normal, st)) k = k st := (rfl)
@[go_sem] theorem PB (st : St) (k : St → Option (Ex × St)) : andThen (some (.ret, st)) k = some (.ret, st) := (rfl)
@[go_sem] theorem Nz (i : Nat) (st : St) (k : St → Option (Ex × St)) : andThen (some (.exit i, st)) k = some (.exit i, st) := (rfl)
@[go_sem] theorem NA (k : St → Option (Ex × St)) : andThen none k = none := (rfl)
@[go_sem] theorem andThen_ite (c : Prop) [Decidable c] (a b : Option (Ex × St)) (k : St → Option (Ex × St)) : andThen (if c then a else b) k = if c then andThen a k else andThen b k := by
 split<;>rfl
@[go_sem] theorem X5 (call : aR) (st : St) : exS call .skip st = some (.normal, st) := (rfl)
@[go_sem] theorem aag (call : aR) (rs : List R) (vs : List D) (H : aj) : exS call (.reg rs []) ⟨vs, H⟩ = HW call rs [] vs H aac := by
 simp only[exS,Fs,HW]
 cases evR call rs [] vs H<;>rfl
@[go_sem] theorem X6 (call : aR) (rs : List R) (p : Nat × Nat) (ps : List (Nat × Nat)) (vs : List D) (H : aj) :
 exS call (.reg rs (p::ps)) ⟨vs,H⟩=B4 call rs rs.length (p::ps) rs [] vs H [] aac:=by
 simp only[exS,KT,B4,List.append_nil]
 by_cases h:p9 call rs rs.length (trace call rs [] vs H).reverse (p::ps)
 · rw[if_pos h]
   simp only[vT,if_pos h]
   cases evR call rs [] vs H<;>rfl
 · rw[if_neg h]
   simp only[vT,if_neg h]
   cases evR call rs [] vs H<;>rfl
@[go_sem] theorem aah (call : aR) (a b : C) (st : St) : exS call (.seq a b) st = andThen (exS call a st) (exS call b) := (rfl)
@[go_sem] theorem aai (call : aR) (rs : List R) (k : Nat) (a b : C) (vs : List D) (H : aj) : exS call (.ite rs [] k a b) ⟨vs, H⟩ = HW call rs [] vs H (aad call k a b) := by
 simp only[exS,Fs,HW]
 cases evR call rs [] vs H<;>rfl
@[go_sem] theorem X7 (call : aR) (rs : List R) (p : Nat × Nat) (ps : List (Nat × Nat)) (k : Nat) (a b : C) (vs : List D) (H : aj) :
 exS call (.ite rs (p::ps) k a b) ⟨vs,H⟩=B4 call rs rs.length (p::ps) rs [] vs H [] (aad call k a b):=by
 simp only[exS,KT,B4,List.append_nil]
 by_cases h:p9 call rs rs.length (trace call rs [] vs H).reverse (p::ps)
 · rw[if_pos h]
   simp only[vT,if_pos h]
   cases evR call rs [] vs H<;>rfl
 · rw[if_neg h]
   simp only[vT,if_neg h]
   cases evR call rs [] vs H<;>rfl
@[go_sem] theorem aaj (call : aR) (rs : List R) (ps : List (Nat × Nat)) (k : Nat) (a b c : C) (st : St) : exS call (.its rs ps k a b c) st = andThen (exS call (.ite rs ps k a b) st) (exS call c) := (rfl)
@[go_sem] theorem aak (call : aR) (rs : List R) (ps : List (Nat × Nat)) (k : Nat) (a b c : C) (st : St) : exS call (.itk rs ps k a b c) st = exS call (.ite rs ps k (.seq a c) (.seq b c)) st := (rfl)
@[go_sem] theorem aal (call : aR) (j : Nat) (a b : C) (vs : List D) (H : aj) : exS call (.itv j a b) ⟨vs, H⟩ = fT vs[j]? (exS call a ⟨vs, H⟩) (exS call b ⟨vs, H⟩) := (rfl)
@[go_sem] theorem X8 (call : aR) (id : Nat) (st : St) : exS call (.exit id) st = some (.exit id, st) := (rfl)
@[go_sem] theorem aam (call : aR) (st : St) : exS call .ret st = some (.ret, st) := (rfl)
@[go_sem] theorem X9 (call : aR) (st : St) : exS call .fail st = none := (rfl)
@[go_sem] theorem aan (call : aR) (v : Bool) (c : C) (st : St) : exS call (.cnd v c) st = exS call c st := (rfl)
def xX(id:Nat)(x:Option (Ex×St)):Option (Ex×St):=x.map (leave id)
@[go_sem] theorem aao (call : aR) (id : Nat) (c : C) (st : St) : exS call (.blk id c) st = xX id (exS call c st) := (rfl)
@[go_sem] theorem NB (id : Nat) (st : St) : xX id (some (.normal, st)) = some (.normal, st) := by simp [xX, leave]
@[go_sem] theorem U9 (id : Nat) (st : St) : xX id (some (.ret, st)) = some (.ret, st) := by simp [xX, leave]
@[go_sem] theorem Sz (id i : Nat) (st : St) : xX id (some (.exit i, st)) = if i = id then some (.normal, st) else some (.exit i, st) := by
 simp only[xX,leave,Option.map_some,Ex.exit.injEq]
 split<;>rfl
@[go_sem] theorem SA (id : Nat) : xX id none = none := (rfl)
@[go_sem] theorem Va (id : Nat) (c : Prop) [Decidable c] (a b : Option (Ex × St)) : xX id (if c then a else b) = if c then xX id a else xX id b := by
 split<;>rfl
@[congr] theorem PC {c c' : Option D} {a b : Option (Ex × St)} (h : True → c = c') : fT c a b = fT c' a b := by rw [h trivial]
@[go_sem] theorem Vb (p : Prop) [Decidable p] (a b : Option (Ex × St)) : fT (some (.t (.bool (decide p)))) a b = if p then a else b := by
 by_cases h:p<;>simp[fT,h]
@[go_sem] theorem SB (p : Prop) [Decidable p] (a b : Option (Ex × St)) : fT (some (.t (.bool (!decide p)))) a b = if p then b else a := by
 by_cases h:p<;>simp[fT,h]
@[go_sem] theorem Ya (a : Option (Ex × St)) : fT (some .ub) a a = a := by simp [fT]
@[go_sem] theorem SC (x : Bool) (a b : Option (Ex × St)) : fT (some (.t (.bool x))) a b = if x = true then a else b := (rfl)
def eY(gc:Bool)(dead:List Nat)(k:Nat)(x:Option (Ex×St)):Option St:=x.bind fun p=>match p.1 with
 | .normal=>tidy gc dead k p.2
 | _=>none
@[go_sem] theorem LH (gc : Bool) (dead : List Nat) (k : Nat) (st : St) : eY gc dead k (some (.normal, st)) = tidy gc dead k st := (rfl)
@[go_sem] theorem SD (gc : Bool) (dead : List Nat) (k : Nat) (c : Prop) [Decidable c] (a b : Option (Ex × St)) : eY gc dead k (if c then a else b) = if c then eY gc dead k a else eY gc dead k b := by
 split<;>rfl
theorem jO{gc:Bool}{dead:List Nat}{body:St→Option (Ex×St)}{st st2:St}(h:eY gc dead st.H.length (body st)=some st2)
 {p:Ex×St} (h2:mz gc dead body st2=some p):mz gc dead body st=some p:=by
 unfold eY at h
 obtain⟨⟨e,st1⟩,hq,h⟩:=Option.bind_eq_some_iff.1 h
 cases e with
 | normal=>exact zB hq h h2
 | ret=>cases h
 | exit=>cases h
theorem w7{gc:Bool}{dead:List Nat}{body:St→Option (Ex×St)}(s:Nat→St){p:Ex×St}(n:Nat)
 (h:∀j,j<n→eY gc dead (s j).H.length (body (s j))=some (s (j+1))) (he:mz gc dead body (s n)=some p):mz gc dead body (s 0)=some p:=by
 have:=vR (s:=s) n 0 (fun j _ hj=>by
  have h:=h j (by omega)
  unfold eY at h
  obtain⟨⟨e,st1⟩,hq,h⟩:=Option.bind_eq_some_iff.1 h
  cases e with
  | normal=>exact⟨st1,hq,h⟩
  | ret=>cases h
  | exit=>cases h) (by simpa using he)
 exact this
def Yb(res:List (Nat×Option (Nat×Bool)))(k raw:Nat)(p:Ex×St):Option (D×aj):=match p.1 with
 | .exit _=>none
 | _=>(iA p.2 res).bind (finish k raw p.2.H)
@[go_sem] theorem Yc (res : List (Nat × Option (Nat × Bool))) (k raw : Nat) (vs : List D) (H : aj) : Yb res k raw (.ret, ⟨vs, H⟩) = (iA ⟨vs, H⟩ res).bind (finish k raw H) := (rfl)
@[go_sem] theorem PD (res : List (Nat × Option (Nat × Bool))) (k raw : Nat) (vs : List D) (H : aj) : Yb res k raw (.normal, ⟨vs, H⟩) = (iA ⟨vs, H⟩ res).bind (finish k raw H) := (rfl)
theorem PE{fs:Nat→Option Fn}{raw f:Nat}{args:List D}{H:aj}{fn:Fn}{r:D×aj}(hf:fs f=some fn)(hn:fn.nargs=args.length)
 (h:(exS (nI fs) fn.body ⟨rM args fn.vars,H⟩).bind (Yb fn.res H.length raw)=some r) (h0:fn.prim=[]:=by rfl):nI fs raw f args H=some r:=by
 obtain⟨p,hp,he⟩:=Option.bind_eq_some_iff.1 h
 exact LB hf hn (LG _ _ _ hp) he h0
@[go_sem] theorem Yd {α β : Type} (c : Prop) [Decidable c] (a b : Option α) (k : α → Option β) : (if c then a else b).bind k = if c then a.bind k else b.bind k := by
 split<;>rfl
@[go_sem] theorem aap {α β : Type} (c : Prop) [Decidable c] (a b : Option α) (k : α → β) : (if c then a else b).map k = if c then a.map k else b.map k := by
 split<;>rfl
theorem Vc(a b:Int):(a==b)=decide (a=b):=by rw[Bool.eq_iff_iff];simp
theorem uW{n:Int}(h1: -9223372036854775808≤n)(h2:n≤9223372036854775807):IntKind.i64.wrap n=n:=by
 have e:IntKind.i64.wrap n=if n % 18446744073709551616≥9223372036854775808 then n % 18446744073709551616-18446744073709551616 else n % 18446744073709551616:=by
  simp[IntKind.wrap,IntKind.signed,IntKind.bits]
 rw[e];split<;>omega
section
variable {α β : Type}
@[go_sem] theorem PF (a : α) (f : α → Option β) : (some a).bind f = f a := (rfl)
@[go_sem] theorem SE (a : α) (f : α → β) : (some a).map f = some (f a) := (rfl)
@[go_sem] theorem PG (f : α → Option β) : (none : Option α).bind f = none := (rfl)
@[go_sem] theorem SF (f : α → β) : (none : Option α).map f = none := (rfl)
@[go_sem] theorem SG (a : α) (l : List α) (f : α → β) : (a :: l).map f = f a :: l.map f := (rfl)
@[go_sem] theorem Vd (f : α → β) : ([] : List α).map f = [] := (rfl)
@[go_sem] theorem SI (a : α) (l : List α) : (a :: l)[0]? = some a := (rfl)
@[go_sem] theorem SJ (a : α) (l : List α) (n : Nat) : (a :: l)[n + 1]? = l[n]? := (rfl)
@[go_sem] theorem PH (a d : α) (l : List α) : (a :: l).getD 0 d = a := (rfl)
@[go_sem] theorem PI (a d : α) (l : List α) (n : Nat) : (a :: l).getD (n + 1) d = l.getD n d := (rfl)
@[go_sem] theorem SK (d : α) (n : Nat) : ([] : List α).getD n d = d := by simp
@[go_sem] theorem SL (a b : α) (l : List α) : (a :: l).set 0 b = b :: l := (rfl)
@[go_sem] theorem SM (a b : α) (l : List α) (n : Nat) : (a :: l).set (n + 1) b = a :: l.set n b := (rfl)
@[go_sem] theorem LI (a : α) (l m : List α) : (a :: l) ++ m = a :: (l ++ m) := (rfl)
@[go_sem] theorem NC (l : List α) : [] ++ l = l := (rfl)
@[go_sem] theorem ND (l : List α) : l ++ [] = l := by simp
@[go_sem] theorem KV (a : α) (l : List α) (f : α → List β) : (a :: l).flatMap f = f a ++ l.flatMap f := by simp
@[go_sem] theorem LJ (f : α → List β) : ([] : List α).flatMap f = [] := by simp
@[go_sem] theorem NF : ([] : List α).length = 0 := (rfl)
@[go_sem] theorem LK (a : α) (l : List α) : (a :: l).length = l.length + 1 := (rfl)
@[go_sem] theorem NG (l : List α) (f : α → β) : (l.map f).length = l.length := by simp
@[go_sem] theorem IV (l m : List α) : (l ++ m).length = l.length + m.length := by simp
@[go_sem] theorem Ft (n : Nat) (a : α) : (List.replicate n a).length = n := by simp
@[go_sem] theorem NH (l : List α) (i : Nat) (a : α) : (l.set i a).length = l.length := by simp
@[go_sem] theorem PJ (l : List α) : l.drop 0 = l := (rfl)
@[go_sem] theorem PL (a : α) (l : List α) (n : Nat) : (a :: l).drop (n + 1) = l.drop n := (rfl)
@[go_sem] theorem SN (n : Nat) : ([] : List α).drop n = [] := by simp
@[go_sem] theorem PM (l : List α) : l.take 0 = [] := (rfl)
@[go_sem] theorem PN (a : α) (l : List α) (n : Nat) : (a :: l).take (n + 1) = a :: l.take n := (rfl)
@[go_sem] theorem SO (n : Nat) : ([] : List α).take n = [] := by simp
@[go_sem] theorem PO (a b : α) : (bif true then a else b) = a := (rfl)
@[go_sem] theorem NI (a b : α) : (bif false then a else b) = b := (rfl)
@[go_sem] theorem SP (n : Nat) : n + 0 = n := (rfl)
@[go_sem] theorem SQ (n : Nat) : 0 + n = n := by simp
@[go_sem] theorem SR (a b : α) : (some a = some b) = (a = b) := by simp
@[go_sem] theorem Ye (a : α) : (some a).isSome = true := (rfl)
end
attribute [go_sem] decide_true decide_false if_true if_false Bool.false_eq_true Bool.true_eq_false decide_eq_true_eq decide_eq_false_iff_not Bool.and_eq_true Bool.or_eq_true Bool.not_eq_true' Bool.not_eq_true Bool.not_eq_false
 Bool.and_true Bool.true_and Bool.and_false Bool.false_and Bool.or_true Bool.true_or Bool.or_false Bool.false_or and_true true_and and_self not_true_eq_false not_false_eq_true beq_iff_eq bne_iff_ne ne_eq
@[go_sem] theorem SS : (!true) = false := (rfl)
@[go_sem] theorem PQ : (!false) = true := (rfl)
@[go_sem] theorem adS (vs L : List D) (j : Nat) : X.get vs L (.v j) = vs[j]? := (rfl)
@[go_sem] theorem adT (vs L : List D) (k : Nat) : X.get vs L (.l k) = L[k]? := (rfl)
@[go_sem] theorem adU (vs L : List D) (d : D) : X.get vs L (.c d) = some d := (rfl)
@[go_sem] theorem adV (vs L : List D) (n : Int) : X.get vs L (.i n) = some (I n) := (rfl)
@[go_sem] theorem adW (vs L : List D) (x : Bool) : X.get vs L (.b x) = some (B x) := (rfl)
@[go_sem] theorem aaq (vs : List D) (x : D) : wr vs none x = vs := (rfl)
@[go_sem] theorem aar (vs : List D) (s : Nat) (x : D) : wr vs (some s) x = vs.set s x := (rfl)
@[go_sem] theorem SU (args : List D) : rM args [] = [] := (rfl)
@[go_sem] theorem PR (args : List D) (s : Nat) (r : List Nat) : rM args (s :: r) = args.getD s .und :: rM args r := (rfl)
def aas(H:aj)(d:D):Option (D×aj):=some (d,H)
@[go_sem] theorem aat (H : aj) (d : D) : aas H d = some (d, H) := (rfl)
def kG{α:Type}(a:α)(l:Option (List α)):Option (List α):=l.map (a:: ·)
@[go_sem] theorem SV {α : Type} (a : α) (l : List α) : kG a (some l) = some (a :: l) := (rfl)
@[go_sem] theorem SW {α : Type} (a : α) : kG a none = none := (rfl)
@[go_sem] theorem Yf {α β : Type} (f : α → Option β) : bO f [] = some [] := (rfl)
def acQ{α β:Type}(f:α→Option β)(r:List α)(y:β):Option (List β):=kG y (bO f r)
@[go_sem] theorem PS {α β : Type} (f : α → Option β) (r : List α) (y : β) : acQ f r y = kG y (bO f r) := (rfl)
@[go_sem] theorem B6 {α β : Type} (f : α → Option β) (x : α) (r : List α) : bO f (x :: r) = (f x).bind (acQ f r) := (rfl)
section
variable (call : aR) (get : X → Option D) (H : aj)
@[go_sem] theorem adX (x : X) : evO call get H (.mv x) = (get x).bind (aas H) := by simp only [evO]; cases get x <;> rfl
def Yg(c a b:Option D):Option (D×aj):=c.bind fun c=>a.bind fun a=>b.bind fun b=>(Ll c a b).map fun d=>(d,H)
@[go_sem] theorem adY (c a b : X) : evO call get H (.pk c a b) = Yg H (get c) (get a) (get b) := (rfl)
@[go_sem] theorem Ve (x p q : Bool) : Yg H (some (.t (.bool x))) (some (.t (.bool p))) (some (.t (.bool q))) = some (.t (.bool (bif x then p else q)), H) := by cases x <;> rfl
@[go_sem] theorem Vf (a b : D) : Yg H (some (.t (.bool true))) (some a) (some b) = some (a, H) := (rfl)
@[go_sem] theorem SX (a b : D) : Yg H (some (.t (.bool false))) (some a) (some b) = some (b, H) := (rfl)
@[go_sem] theorem Yh (x p : Bool) : (bif x then p else false) = (x && p) := by cases x <;> rfl
@[go_sem] theorem aau (x q : Bool) : (bif x then true else q) = (x || q) := by cases x <;> rfl
def iX(f:BinOp)(x y:Option D):Option (D×aj):=x.bind fun a=>y.bind fun b=>(zo f a b).map fun d=>(d,H)
@[go_sem] theorem acR (f : BinOp) (x y : X) : evO call get H (.bin f x y) = iX H f (get x) (get y) := (rfl)
section
variable (k j : IntKind) (a b : Int)
@[go_sem] theorem Vg : iX H .add (some (.t (.int k a))) (some (.t (.int k b))) = some (.t (.int k (k.wrap (a + b))), H) := by simp [iX, zo, Dn]
@[go_sem] theorem Vh : iX H .sub (some (.t (.int k a))) (some (.t (.int k b))) = some (.t (.int k (k.wrap (a - b))), H) := by simp [iX, zo, Dn]
@[go_sem] theorem Vi : iX H .mul (some (.t (.int k a))) (some (.t (.int k b))) = some (.t (.int k (k.wrap (a * b))), H) := by simp [iX, zo, Dn]
@[go_sem] theorem Vj : iX H .quo (some (.t (.int k a))) (some (.t (.int k b))) = if b = 0 then none else some (.t (.int k (k.wrap (a.tdiv b))), H) := by simp only [iX, zo, Dn]; by_cases h : b = 0 <;> simp [h]
@[go_sem] theorem Vk : iX H .rem (some (.t (.int k a))) (some (.t (.int k b))) = if b = 0 then none else some (.t (.int k (a.tmod b)), H) := by simp only [iX, zo, Dn]; by_cases h : b = 0 <;> simp [h]
@[go_sem] theorem Vl : iX H .eql (some (.t (.int k a))) (some (.t (.int k b))) = some (.t (.bool (decide (a = b))), H) := by simp [iX, zo, Dn, Vc]
@[go_sem] theorem Vm : iX H .neq (some (.t (.int k a))) (some (.t (.int k b))) = some (.t (.bool (decide (¬ a = b))), H) := by simp [iX, zo, Dn, bne, Vc]
@[go_sem] theorem Vn : iX H .lss (some (.t (.int k a))) (some (.t (.int k b))) = some (.t (.bool (decide (a < b))), H) := by simp [iX, zo, Dn]
@[go_sem] theorem Vo : iX H .leq (some (.t (.int k a))) (some (.t (.int k b))) = some (.t (.bool (decide (a ≤ b))), H) := by simp [iX, zo, Dn]
@[go_sem] theorem Vp : iX H .gtr (some (.t (.int k a))) (some (.t (.int k b))) = some (.t (.bool (decide (b < a))), H) := by simp [iX, zo, Dn]
@[go_sem] theorem Vq : iX H .geq (some (.t (.int k a))) (some (.t (.int k b))) = some (.t (.bool (decide (b ≤ a))), H) := by simp [iX, zo, Dn]
@[go_sem] theorem Vr (h : 0 ≤ b) : iX H .shl (some (.t (.int k a))) (some (.t (.int j b))) = some (.t (.int k (k.wrap (a * 2 ^ min b.toNat k.bits))), H) := by simp [iX, zo, zn, Int.not_lt.2 h]
@[go_sem] theorem Vs (h : 0 ≤ b) : iX H .shr (some (.t (.int k a))) (some (.t (.int j b))) = some (.t (.int k (a.fdiv (2 ^ min b.toNat k.bits))), H) := by simp [iX, zo, zn, Int.not_lt.2 h]
@[go_sem] theorem Vt : iX H .and (some (.t (.int k a))) (some (.t (.int k b))) = some (.t (.int k (k.wrap (BitVec.ofInt k.bits a &&& BitVec.ofInt k.bits b).toNat)), H) := by simp [iX, zo, Dn]
@[go_sem] theorem Yi : iX H .or (some (.t (.int k a))) (some (.t (.int k b))) = some (.t (.int k (k.wrap (BitVec.ofInt k.bits a ||| BitVec.ofInt k.bits b).toNat)), H) := by simp [iX, zo, Dn]
@[go_sem] theorem Vu : iX H .xor (some (.t (.int k a))) (some (.t (.int k b))) = some (.t (.int k (k.wrap (BitVec.ofInt k.bits a ^^^ BitVec.ofInt k.bits b).toNat)), H) := by simp [iX, zo, Dn]
def aav(f:UnOp)(a:D):Option (D×aj):=(unD f a).map fun d=>(d,H)
@[go_sem] theorem adZ (f : UnOp) (x : X) : evO call get H (.un f x) = (get x).bind (aav H f) := (rfl)
@[go_sem] theorem Yj (x : Bool) : aav H .not (.t (.bool x)) = some (.t (.bool (!x)), H) := (rfl)
@[go_sem] theorem Yk : aav H .neg (.t (.int k a)) = some (.t (.int k (k.wrap (0 - a))), H) := (rfl)
def acS(k:IntKind)(a:D):Option (D×aj):=(OX k a).map fun d=>(d,H)
@[go_sem] theorem ad0 (x : X) : evO call get H (.cv k x) = (get x).bind (acS H k) := (rfl)
@[go_sem] theorem Yl : acS H k (.t (.int j a)) = some (.t (.int k (k.wrap a)), H) := (rfl)
end
def qp(q:EqK)(neg:Bool)(x y:Option D):Option (D×aj):=x.bind fun a=>y.bind fun b=>(Nr q neg a b).map fun d=>(d,H)
@[go_sem] theorem acT (q : EqK) (neg : Bool) (x y : X) : evO call get H (.eqk q neg x y) = qp H q neg (get x) (get y) := (rfl)
@[go_sem] theorem SY (x y : Bool) : qp H .bool false (some (.t (.bool x))) (some (.t (.bool y))) = some (.t (.bool (x == y)), H) := (rfl)
@[go_sem] theorem PT (x y : Bool) : qp H .bool true (some (.t (.bool x))) (some (.t (.bool y))) = some (.t (.bool (!(x == y))), H) := (rfl)
def NJ:List T→List T→Bool
 | .int _ a::xs,.int _ b::ys=>decide (a=b)&&NJ xs ys
 | _,_=>true
def GJ:Nat→List T→List T→Bool
 | 0,[],[]=>true
 | n+1,.int j _::xs,.int k _::ys=>decide (j=k)&&GJ n xs ys
 | _,_,_=>false
@[go_sem] theorem Vv (k j : IntKind) (a b : Int) (xs ys : List T) : NJ (.int k a :: xs) (.int j b :: ys) = (decide (a = b) && NJ xs ys) := (rfl)
@[go_sem] theorem Ym : NJ [] [] = true := (rfl)
@[go_sem] theorem Yn : GJ 0 [] [] = true := (rfl)
@[go_sem] theorem Vw (n : Nat) (k : IntKind) (a b : Int) (xs ys : List T) : GJ (n + 1) (.int k a :: xs) (.int k b :: ys) = GJ n xs ys := by simp [GJ]
theorem xY:∀ {n:Nat} {xs ys:List T},GJ n xs ys=true→xs.length=n∧lO xs ys=some (NJ xs ys)
 | 0,[],[],_=>⟨rfl,rfl⟩
 | 0,[],_::_,h=>by simp[GJ]at h
 | 0,_::_,_,h=>by simp[GJ]at h
 | n+1,[],_,h=>by simp[GJ]at h
 | n+1,x::xs,[],h=>by cases x<;>simp[GJ]at h
 | n+1,x::xs,y::ys,h=>by
   cases x<;>cases y<;>simp only[GJ,Bool.and_eq_true,decide_eq_true_eq,Bool.false_eq_true]at h
   obtain⟨rfl,h⟩:=h
   obtain⟨h1,h2⟩:=xY h
   exact⟨by simp[h1],by simp[lO,h2,NJ,Vc]⟩
@[go_sem] theorem SZ (n : Nat) (xs ys : List T) (h : GJ n xs ys = true) : qp H (.ints n) false (some (.t (.agg xs))) (some (.t (.agg ys))) = some (.t (.bool (NJ xs ys)), H) := by
 obtain⟨h1,h2⟩:=xY h;simp[qp,Nr,eqD,h1,h2]
@[go_sem] theorem PU (n : Nat) (xs ys : List T) (h : GJ n xs ys = true) : qp H (.ints n) true (some (.t (.agg xs))) (some (.t (.agg ys))) = some (.t (.bool (!NJ xs ys)), H) := by
 obtain⟨h1,h2⟩:=xY h;simp[qp,Nr,eqD,h1,h2]
@[go_sem] theorem Vx : qp H .sl false (some .nil) (some .nil) = some (.t (.bool true), H) := (rfl)
@[go_sem] theorem Vy : qp H .sl false (some (.t (.sl []))) (some .nil) = some (.ub, H) := (rfl)
@[go_sem] theorem S0 : qp H .sl true (some (.t (.sl []))) (some .nil) = some (.ub, H) := (rfl)
@[go_sem] theorem S1 : qp H .sl true (some .nil) (some .nil) = some (.t (.bool false), H) := (rfl)
theorem w8(es:List T)(h:es≠[]):qp H .sl false (some (.t (.sl es))) (some .nil)=some (.t (.bool false),H):=by cases es<;>first | exact(h rfl).elim | rfl
def Yo(a:D):Option (D×aj):=(XP a).map fun d=>(d,H)
@[go_sem] theorem ad1 (x : X) : evO call get H (.nc x) = (get x).bind (Yo H) := (rfl)
@[go_sem] theorem aaw (id off : Nat) : Yo H (.bp id off) = some (.bp id off, H) := (rfl)
@[go_sem] theorem aax (id ep n i off : Nat) : Yo H (.ap id ep n i off) = some (.ap id ep n i off, H) := (rfl)
@[go_sem] theorem aay (cs : List T) : Yo H (.ep cs) = some (.ep cs, H) := (rfl)
def S2(off:Nat)(a:D):Option (D×aj):=(Gr a off).map fun d=>(d,H)
@[go_sem] theorem ad2 (x : X) (off : Nat) : evO call get H (.fa x off) = (get x).bind (S2 H off) := (rfl)
@[go_sem] theorem aaz (id o off : Nat) : S2 H off (.bp id o) = some (.bp id (o + off), H) := (rfl)
@[go_sem] theorem aaA (id ep n i o off : Nat) : S2 H off (.ap id ep n i o) = some (.ap id ep n i (o + off), H) := (rfl)
@[go_sem] theorem aaB (cs : List T) (off : Nat) : S2 H off (.ep cs) = some (.ep (cs.drop off), H) := (rfl)
@[go_sem] theorem ad3 (cs : List D) : cut cs 0 0 = some [] := by simp [cut]
@[go_sem] theorem ad4 (c : D) (cs : List D) : cut (c :: cs) 0 1 = some [c] := by simp [cut]
@[go_sem] theorem ad5 (c : D) (cs : List D) (n : Nat) : cut (c :: cs) 0 (n + 1) = kG c (cut cs 0 n) := by
 simp only[cut,kG];by_cases h:n≤cs.length<;>simp[h]
@[go_sem] theorem ad6 (c : D) (cs : List D) (off n : Nat) : cut (c :: cs) (off + 1) n = cut cs off n := by
 simp only[cut,List.length_cons,List.drop_succ_cons]
 by_cases h:off+n≤cs.length
 · rw[if_pos h,if_pos (by omega)]
 · rw[if_neg h,if_neg (by omega)]
@[go_sem] theorem Vz (c : D) : eC false [c] = some c := (rfl)
@[go_sem] theorem VA (cs : List D) : eC true cs = some (rG cs) := (rfl)
def mkA(cs:List D):Option (List T)→D
 | some ts=> .t (.agg ts)
 | none=> .agg cs
@[go_sem] theorem Yp (cs : List D) (ts : List T) : mkA cs (some ts) = .t (.agg ts) := (rfl)
@[go_sem] theorem Yq (cs : List D) : mkA cs none = .agg cs := (rfl)
@[go_sem] theorem Yr (cs : List D) : rG cs = mkA cs (oP cs) := by unfold rG; cases oP cs <;> rfl
@[go_sem] theorem Ys : oP [] = some [] := (rfl)
@[go_sem] theorem acU (x : T) (r : List D) : oP (.t x :: r) = kG x (oP r) := (rfl)
@[go_sem] theorem acV (r : List D) : oP (.nil :: r) = none := (rfl)
@[go_sem] theorem Yt (a b c : Nat) (r : List D) : oP (.ref a b c :: r) = none := (rfl)
@[go_sem] theorem Yu (a b c d e : Nat) (r : List D) : oP (.sub a b c d e :: r) = none := (rfl)
@[go_sem] theorem LL (l : List T) : oP (l.map .t) = some l := by induction l with | nil => rfl | cons a l ih => simp [oP, ih]
def VB(off n:Nat)(agg:Bool)(a:D):Option (D×aj):=(tc a off n agg).map fun d=>(d,H)
@[go_sem] theorem ad7 (x : X) (off n : Nat) (agg : Bool) : evO call get H (.fl x off n agg) = (get x).bind (VB H off n agg) := (rfl)
def ofC(agg:Bool)(cs:Option (List D)):Option (D×aj):=(cs.bind (eC agg)).bind (aas H)
@[go_sem] theorem ad8 (c : D) : ofC H false (some [c]) = some (c, H) := (rfl)
@[go_sem] theorem ad9 (cs : List D) : ofC H true (some cs) = some (rG cs, H) := (rfl)
@[go_sem] theorem acW (cs : List T) (off n : Nat) (agg : Bool) : VB H off n agg (.t (.agg cs)) = ofC H agg (cut (cs.map .t) off n) := by
 simp only[VB,tc,D.isAgg,if_true,D.cells,T.cells,ofC];cases (cut (cs.map .t) off n).bind (eC agg)<;>rfl
@[go_sem] theorem Yv (cs : List D) (off n : Nat) (agg : Bool) : VB H off n agg (.agg cs) = ofC H agg (cut cs off n) := by
 simp only[VB,tc,D.isAgg,if_true,D.cells,ofC];cases (cut cs off n).bind (eC agg)<;>rfl
@[go_sem] theorem aaC (n : Nat) : idx (n : Int) = some n := by simp [idx]
@[go_sem] theorem aea : idx 0 = some 0 := (rfl)
theorem PV{i:Int}(h:0≤i):idx i=some i.toNat:=by simp[idx,h]
def PW(sz:Nat)(x i:Option D):Option (D×aj):=x.bind fun a=>(i.bind intOf).bind fun n=>(Ah H a n sz).map fun d=>(d,H)
@[go_sem] theorem aeb (x i : X) (sz : Nat) : evO call get H (.ia x i sz) = PW H sz (get x) (get i) := (rfl)
def LM(sz:Nat)(e:T):Option (D×aj):=if e.cells.length=sz then some (.ep e.cells,H)else none
def aaD(sz:Nat)(es:List T)(j:Nat):Option (D×aj):=es[j]?.bind (LM H sz)
@[go_sem] theorem aaE (sz : Nat) (es : List T) (j : Nat) : aaD H sz es j = es[j]?.bind (LM H sz) := (rfl)
@[go_sem] theorem aaF (k : IntKind) (es : List T) (n : Int) (sz : Nat) : PW H sz (some (.t (.sl es))) (some (.t (.int k n))) = (idx n).bind (aaD H sz es) := by
 simp only[PW,Option.bind_some,intOf,Ah]
 cases idx n with
 | none=>rfl
 | some j=>
   simp only[Option.bind_some,aaD]
   cases es[j]? with
   | none=>rfl
   | some e=>simp only[Option.bind_some,LM];split<;>rfl
@[go_sem] theorem Yw (k : IntKind) (n : Int) : LM H 1 (.int k n) = some (.ep [.int k n], H) := (rfl)
@[go_sem] theorem VC (b : Bool) : LM H 1 (.bool b) = some (.ep [.bool b], H) := (rfl)
@[go_sem] theorem aaG (es : List T) : LM H 1 (.sl es) = some (.ep [.sl es], H) := (rfl)
def nJ{α:Type}:Nat→List α→Bool
 | 0,[]=>true
 | n+1,_::r=>nJ n r
 | _,_=>false
@[go_sem] theorem aaH {α : Type} : nJ 0 ([] : List α) = true := (rfl)
@[go_sem] theorem aaI {α : Type} (n : Nat) (a : α) (l : List α) : nJ (n + 1) (a :: l) = nJ n l := (rfl)
theorem fk{α:Type}:∀ {n:Nat} {l:List α},nJ n l=true↔l.length=n
 | 0,[]=>by simp[nJ]
 | 0,_::_=>by simp[nJ]
 | n+1,[]=>by simp[nJ]
 | n+1,_::r=>by simp only[nJ,List.length_cons,Nat.add_right_cancel_iff];exact fk
@[go_sem] theorem Yx (cs : List T) (sz : Nat) : LM H sz (.agg cs) = if nJ sz cs = true then some (.ep cs, H) else none := by
 by_cases h:cs.length=sz
 · rw[LM,if_pos (show(T.agg cs).cells.length=sz from h),if_pos (fk.2 h)];rfl
 · rw[LM,if_neg (show ¬(T.agg cs).cells.length=sz from h),if_neg fun e=>h (fk.1 e)]
def PX(sz id ep n j:Nat):Option Obj→Option (D×aj)
 | some (.arr sz' _ ep' es)=>if ep=ep'∧n=es.length then(if j<n∧sz'=sz then some (.ap id ep n j 0,H)else none)else none
 | _=>none
@[go_sem] theorem Yy (k : IntKind) (id ep n : Nat) (i : Int) (sz : Nat) : PW H sz (some (.ref id ep n)) (some (.t (.int k i))) = (idx i).bind fun j => PX H sz id ep n j H[id]? := by
 simp only[PW,Option.bind_some,intOf,Ah]
 cases idx i with
 | none=>rfl
 | some j=>
   simp only[Option.bind_some,fF]
   generalize H[id]?=o
   rcases o with _ | (_ | ⟨sz',pin,ep',es⟩)
   · rfl
   · rfl
   · simp only[PX]
     by_cases h:ep=ep'∧n=es.length
     · rw[if_pos h,if_pos h,Option.bind_some];split<;>rfl
     · rw[if_neg h,if_neg h];rfl
@[go_sem] theorem VD (sz id ep n j sz' : Nat) (pin : Bool) (ep' : Nat) (es : List D) : PX H sz id ep n j (some (.arr sz' pin ep' es)) =
 if ep=ep'∧n=es.length then(if j<n∧sz'=sz then some (.ap id ep n j 0,H)else none)else none:=(rfl)
def PY(sz id ep n lo hi j:Nat):Option Obj→Option (D×aj)
 | some (.arr sz' _ ep' es)=>if ep=ep'∧n=es.length then(if lo+j<hi∧hi≤n∧sz'=sz then some (.ap id ep n (lo+j) 0,H)else none)else none
 | _=>none
@[go_sem] theorem Yz (k : IntKind) (id ep n lo hi : Nat) (i : Int) (sz : Nat) : PW H sz (some (.sub id ep n lo hi)) (some (.t (.int k i))) = (idx i).bind fun j => PY H sz id ep n lo hi j H[id]? := by
 simp only[PW,Option.bind_some,intOf,Ah]
 cases idx i with
 | none=>rfl
 | some j=>
   simp only[Option.bind_some,fF]
   generalize H[id]?=o
   rcases o with _ | (_ | ⟨sz',pin,ep',es⟩)
   · rfl
   · rfl
   · simp only[PY]
     by_cases h:ep=ep'∧n=es.length
     · rw[if_pos h,if_pos h,Option.bind_some];split<;>rfl
     · rw[if_neg h,if_neg h];rfl
@[go_sem] theorem VE (sz id ep n lo hi j sz' : Nat) (pin : Bool) (ep' : Nat) (es : List D) : PY H sz id ep n lo hi j (some (.arr sz' pin ep' es)) =
 if ep=ep'∧n=es.length then(if lo+j<hi∧hi≤n∧sz'=sz then some (.ap id ep n (lo+j) 0,H)else none)else none:=(rfl)
def aaJ(len sz:Nat)(agg:Bool)(x i:Option D):Option (D×aj):=x.bind fun a=>(i.bind intOf).bind fun n=>(idx n).bind fun j=>(zp a j len sz agg).map fun d=>(d,H)
def VF(len sz:Nat)(agg:Bool)(a:D)(j:Nat):Option (D×aj):=(zp a j len sz agg).map fun d=>(d,H)
@[go_sem] theorem aec (x i : X) (len sz : Nat) (agg : Bool) : evO call get H (.ix x i len sz agg) = aaJ H len sz agg (get x) (get i) := (rfl)
@[go_sem] theorem aaK (len sz : Nat) (agg : Bool) (a : D) (k : IntKind) (n : Int) : aaJ H len sz agg (some a) (some (.t (.int k n))) = (idx n).bind (VF H len sz agg a) := by
 simp only[aaJ,Option.bind_some,intOf];cases idx n<;>rfl
@[go_sem] theorem YA (len j : Nat) (ts : List T) (h : j < len) (hs : (ts.all fun t => t.scalar) = true) : VF H len 1 false (.t (.agg ts)) j = (ts[j]?).map fun t => (.t t, H) := by
 have h0:len≠0:=by omega
 unfold VF zp
 rw[if_neg h0,if_pos h]
 unfold tc cut
 simp only[D.isAgg,D.cells,T.cells,if_true,Nat.mul_one,List.length_map]
 by_cases hj:j<ts.length
 · rw[if_pos (by omega),List.getElem?_eq_getElem hj]
   have e:((ts.map D.t).drop j).take 1=[D.t ts[j]]:=by
    rw[List.drop_eq_getElem_cons (by simpa using hj)];simp
   rw[e];rfl
 · rw[if_neg (by omega),List.getElem?_eq_none (by omega)];rfl
def PZ(len sz:Nat)(x i:Option D):Option (D×aj):=x.bind fun a=>(i.bind intOf).bind fun n=>(idx n).bind fun j=>if j<len then(Gr a (j*sz)).map fun d=>(d,H)else none
@[go_sem] theorem acX (x i : X) (len sz : Nat) : evO call get H (.iaa x i len sz) = PZ H len sz (get x) (get i) := (rfl)
def acY(len sz:Nat)(a:D)(j:Nat):Option (D×aj):=if j<len then S2 H (j*sz) a else none
@[go_sem] theorem aaL (len sz : Nat) (a : D) (j : Nat) : acY H len sz a j = if j < len then S2 H (j * sz) a else none := (rfl)
@[go_sem] theorem YB (len sz : Nat) (a : D) (k : IntKind) (n : Int) : PZ H len sz (some a) (some (.t (.int k n))) = (idx n).bind (acY H len sz a) := by
 simp only[PZ,Option.bind_some,intOf];cases idx n<;>rfl
def KW(n:Nat)(agg:Bool)(a:D):Option (D×aj):=(uK H a n agg).map fun d=>(d,H)
@[go_sem] theorem aed (x : X) (n : Nat) (agg : Bool) : evO call get H (.ld x n agg) = (get x).bind (KW H n agg) := (rfl)
def LN(off n:Nat)(agg:Bool):Option Obj→Option (D×aj)
 | some (.box cs)=>ofC H agg (cut cs off n)
 | _=>none
@[go_sem] theorem YC (off n : Nat) (agg : Bool) (cs : List D) : LN H off n agg (some (.box cs)) = ofC H agg (cut cs off n) := (rfl)
@[go_sem] theorem aaM (id off n : Nat) (agg : Bool) : KW H n agg (.bp id off) = LN H off n agg H[id]? := by
 simp only[KW,uK]
 generalize H[id]?=o
 rcases o with _ | (cs | _)
 · rfl
 · simp only[LN,ofC];cases (cut cs off n).bind (eC agg)<;>rfl
 · rfl
@[go_sem] theorem aaN (cs : List T) (n : Nat) (agg : Bool) : KW H n agg (.ep cs) = ofC H agg (cut (cs.map .t) 0 n) := by
 simp only[KW,uK,ofC];cases (cut _ 0 n).bind (eC agg)<;>rfl
def YD(off n:Nat)(agg:Bool)(e:D):Option (D×aj):=ofC H agg (cut e.cells off n)
@[go_sem] theorem aaO (off n : Nat) (agg : Bool) (e : D) : YD H off n agg e = ofC H agg (cut e.cells off n) := (rfl)
def P0(ep m i off n:Nat)(agg:Bool):Option Obj→Option (D×aj)
 | some (.arr _ _ ep' es)=>if ep=ep'∧m=es.length then es[i]?.bind (YD H off n agg)else none
 | _=>none
@[go_sem] theorem YE (ep m i off n : Nat) (agg : Bool) (sz : Nat) (pin : Bool) (ep' : Nat) (es : List D) :
 P0 H ep m i off n agg (some (.arr sz pin ep' es))=if ep=ep'∧m=es.length then es[i]?.bind (YD H off n agg)else none:=(rfl)
@[go_sem] theorem aaP (id ep m i off n : Nat) (agg : Bool) : KW H n agg (.ap id ep m i off) = P0 H ep m i off n agg H[id]? := by
 simp only[KW,uK,fF]
 generalize H[id]?=o
 rcases o with _ | (_ | ⟨sz',pin,ep',es⟩)
 · rfl
 · rfl
 · simp only[P0]
   by_cases h:ep=ep'∧m=es.length
   · rw[if_pos h,if_pos h,Option.bind_some]
     cases es[i]? with
     | none=>rfl
     | some e=>simp only[Option.bind_some,YD,ofC];cases (cut e.cells off n).bind (eC agg)<;>rfl
   · rw[if_neg h,if_neg h];rfl
@[go_sem] theorem S3 (cs : List D) : (D.agg cs).cells = cs := (rfl)
@[go_sem] theorem YF (x : T) : (D.t x).cells = x.cells.map .t := (rfl)
@[go_sem] theorem S4 : D.nil.cells = [.nil] := (rfl)
@[go_sem] theorem VG (a b : Nat) : (D.bp a b).cells = [.bp a b] := (rfl)
@[go_sem] theorem S5 (a b c : Nat) : (D.ref a b c).cells = [.ref a b c] := (rfl)
@[go_sem] theorem S6 (a b c d e : Nat) : (D.sub a b c d e).cells = [.sub a b c d e] := (rfl)
@[go_sem] theorem VH (f : Nat) (cs : List D) : (D.fn f cs).cells = [.fn f cs] := (rfl)
@[go_sem] theorem P1 : D.nilp.cells = [.nilp] := (rfl)
@[go_sem] theorem S7 (cs : List T) : (T.agg cs).cells = cs := (rfl)
@[go_sem] theorem S8 (k : IntKind) (n : Int) : (T.int k n).cells = [.int k n] := (rfl)
@[go_sem] theorem P2 (b : Bool) : (T.bool b).cells = [.bool b] := (rfl)
@[go_sem] theorem S9 (b : ByteArray) : (T.str b).cells = [.str b] := (rfl)
@[go_sem] theorem VI (es : List T) : (T.sl es).cells = [.sl es] := (rfl)
def fits(n:Nat)(v:D):Bool:=decide (v.cells.length=n)&&v.iK
section
variable (n : Nat)
@[go_sem] theorem fits_int (k : IntKind) (a : Int) : fits 1 (.t (.int k a)) = true := (rfl)
@[go_sem] theorem fits_bool (b : Bool) : fits 1 (.t (.bool b)) = true := (rfl)
@[go_sem] theorem aaQ (es : List T) : fits 1 (.t (.sl es)) = true := (rfl)
@[go_sem] theorem YG : fits 1 .nil = true := (rfl)
@[go_sem] theorem YH (a b c : Nat) : fits 1 (.ref a b c) = true := (rfl)
@[go_sem] theorem YI (a b c d e : Nat) : fits 1 (.sub a b c d e) = true := (rfl)
@[go_sem] theorem aaR (a b : Nat) : fits 1 (.bp a b) = true := (rfl)
@[go_sem] theorem aaS (f : Nat) (cs : List D) : fits 1 (.fn f cs) = true := (rfl)
@[go_sem] theorem YJ (cs : List D) : fits n (.agg cs) = nJ n cs := by rw [Bool.eq_iff_iff, fk]; show (decide (cs.length = n) && true) = true ↔ _; simp
@[go_sem] theorem VJ (cs : List T) : fits n (.t (.agg cs)) = nJ n cs := by rw [Bool.eq_iff_iff, fk]; simp [fits, D.cells, T.cells, D.iK]
end
@[go_sem] theorem P3 {α : Type} (cs : List α) : bj cs 0 [] = some cs := by simp [bj]
@[go_sem] theorem P4 {α : Type} (c x : α) (cs xs : List α) : bj (c :: cs) 0 (x :: xs) = kG x (bj cs 0 xs) := by
 simp only[bj,kG];by_cases h:xs.length≤cs.length<;>simp[h]
@[go_sem] theorem P5 {α : Type} (c : α) (cs : List α) (off : Nat) (xs : List α) : bj (c :: cs) (off + 1) xs = kG c (bj cs off xs) := by
 simp only[bj,kG,List.length_cons]
 by_cases h:off+xs.length≤cs.length
 · rw[if_pos h,if_pos (by omega)];simp[show off+1+xs.length=(off+xs.length)+1 by omega]
 · rw[if_neg h,if_neg (by omega)];rfl
def P6(n:Nat)(live:List (Nat×Nat))(a x:Option D):Option (D×aj):=a.bind fun p=>x.bind fun d=>(vH H p d n).bind fun H'=>(oS H' p live).map fun H''=>(.tup [],H'')
@[go_sem] theorem aee (a x : X) (n : Nat) (live : List (Nat × Nat)) : evO call get H (.st a x n live) = P6 H n live (get a) (get x) := (rfl)
def zE(H:aj)(id:Nat)(live:List (Nat×Nat)):Option (D×aj):=(oS H (.bp id 0) live).map fun H'=>(.tup [],H')
def B7(id:Nat)(live:List (Nat×Nat))(cs:List D):Option (D×aj):=zE (H.set id (.box cs)) id live
@[go_sem] theorem VK (id : Nat) (live : List (Nat × Nat)) (cs : List D) : B7 H id live cs = zE (H.set id (.box cs)) id live := (rfl)
@[go_sem] theorem Ta (H : aj) (id : Nat) : zE H id [] = some (.tup [], H) := (rfl)
def P7(id off:Nat)(live:List (Nat×Nat))(xs:List D):Option Obj→Option (D×aj)
 | some (.box cs)=>(bj cs off xs).bind (B7 H id live)
 | _=>none
@[go_sem] theorem YK (id off : Nat) (live : List (Nat × Nat)) (xs cs : List D) : P7 H id off live xs (some (.box cs)) = (bj cs off xs).bind (B7 H id live) := (rfl)
@[go_sem] theorem aaT (n id off : Nat) (live : List (Nat × Nat)) (v : D) : P6 H n live (some (.bp id off)) (some v) = if fits n v = true then P7 H id off live v.cells H[id]? else none := by
 by_cases h:fits n v=true
 case neg=>
  rw[if_neg h]
  simp only[fits,Bool.and_eq_true,decide_eq_true_eq]at h
  simp only[P6,Option.bind_some,vH,if_neg h];rfl
 rw[if_pos h]
 simp only[fits,Bool.and_eq_true,decide_eq_true_eq]at h
 simp only[P6,Option.bind_some,vH,h.1,h.2,and_self,if_true]
 generalize H[id]?=o
 rcases o with _ | (cs | _)
 · rfl
 · simp only[P7]
   cases bj cs off v.cells with
   | none=>rfl
   | some cs'=>simp only[Option.map_some,Option.bind_some,B7,zE,oS]
 · rfl
def B8(id sz ep i:Nat)(es:List D)(agg:Bool)(cs:List D):Option (D×aj):=(eC agg cs).bind fun e=>if e.iK then some (.tup [],H.set id (.arr sz false ep (es.set i e)))else none
def YL(id sz ep i off:Nat)(es xs:List D)(e:D):Option (D×aj):=(bj e.cells off xs).bind (B8 H id sz ep i es e.isAgg)
@[go_sem] theorem aaU (id sz ep i off : Nat) (es xs : List D) (e : D) : YL H id sz ep i off es xs e = (bj e.cells off xs).bind (B8 H id sz ep i es e.isAgg) := (rfl)
@[go_sem] theorem VL (cs : List D) : (D.agg cs).isAgg = true := (rfl)
@[go_sem] theorem Tb (cs : List T) : (D.t (.agg cs)).isAgg = true := (rfl)
@[go_sem] theorem VM (k : IntKind) (n : Int) : (D.t (.int k n)).isAgg = false := (rfl)
@[go_sem] theorem Tc (b : Bool) : (D.t (.bool b)).isAgg = false := (rfl)
@[go_sem] theorem VN (b : ByteArray) : (D.t (.str b)).isAgg = false := (rfl)
@[go_sem] theorem YM (es : List T) : (D.t (.sl es)).isAgg = false := (rfl)
@[go_sem] theorem VO : D.nil.isAgg = false := (rfl)
@[go_sem] theorem VP (a b c : Nat) : (D.ref a b c).isAgg = false := (rfl)
@[go_sem] theorem VQ (a b c d e : Nat) : (D.sub a b c d e).isAgg = false := (rfl)
@[go_sem] theorem aaV (id sz ep i : Nat) (es : List D) (x : T) : B8 H id sz ep i es false [.t x] = some (.tup [], H.set id (.arr sz false ep (es.set i (.t x)))) := (rfl)
@[go_sem] theorem VR (id sz ep i : Nat) (es : List D) : B8 H id sz ep i es false [.nil] = some (.tup [], H.set id (.arr sz false ep (es.set i .nil))) := (rfl)
@[go_sem] theorem VS (id sz ep i a b c : Nat) (es : List D) : B8 H id sz ep i es false [.ref a b c] = some (.tup [], H.set id (.arr sz false ep (es.set i (.ref a b c)))) := (rfl)
theorem DX(cs:List D):(rG cs).iK=true:=by unfold rG;cases oP cs<;>rfl
@[go_sem] theorem aaW (id sz ep i : Nat) (es cs : List D) : B8 H id sz ep i es true cs = some (.tup [], H.set id (.arr sz false ep (es.set i (rG cs)))) := by
 simp[B8,eC,DX]
def P8(id ep m i off:Nat)(xs:List D):Option Obj→Option (D×aj)
 | some (.arr sz pin ep' es)=>if ep=ep'∧m=es.length then(if pin then none else es[i]?.bind (YL H id sz ep i off es xs))else none
 | _=>none
@[go_sem] theorem YN (id ep m i off : Nat) (xs : List D) (sz : Nat) (pin : Bool) (ep' : Nat) (es : List D) :
 P8 H id ep m i off xs (some (.arr sz pin ep' es))=if ep=ep'∧m=es.length then(if pin=true then none else es[i]?.bind (YL H id sz ep i off es xs))else none:=(rfl)
@[go_sem] theorem aaX (n id ep m i off : Nat) (v : D) : P6 H n [] (some (.ap id ep m i off)) (some v) = if fits n v = true then P8 H id ep m i off v.cells H[id]? else none := by
 by_cases h:fits n v=true
 case neg=>
  rw[if_neg h]
  simp only[fits,Bool.and_eq_true,decide_eq_true_eq]at h
  simp only[P6,Option.bind_some,vH,if_neg h];rfl
 rw[if_pos h]
 simp only[fits,Bool.and_eq_true,decide_eq_true_eq]at h
 simp only[P6,Option.bind_some,vH,h.1,h.2,and_self,if_true,fF]
 generalize H[id]?=o
 rcases o with _ | (_ | ⟨sz',pin,ep',es⟩)
 · rfl
 · rfl
 · simp only[P8]
   by_cases h:ep=ep'∧m=es.length
   · rw[if_pos h,if_pos h,Option.bind_some]
     cases pin with
     | true=>rfl
     | false=>
       simp only[Bool.false_eq_true,if_false]
       cases es[i]? with
       | none=>rfl
       | some e=>
         simp only[Option.bind_some,YL]
         cases bj e.cells off v.cells with
         | none=>rfl
         | some cs'=>
           simp only[Option.bind_some,B8]
           cases eC e.isAgg cs' with
           | none=>rfl
           | some e'=>
             simp only[Option.bind_some]
             by_cases h3:e'.iK=true
             · rw[if_pos h3,if_pos h3,h.1];rfl
             · rw[if_neg h3,if_neg h3];rfl
   · rw[if_neg h,if_neg h];rfl
def P9(zero:List D)(ps:List (Nat×Nat×D)):Option (D×aj):=(s8 zero ps).map fun cs=>(rG cs,H)
@[go_sem] theorem aef (zero : List D) (parts : List (Nat × Nat × X)) : evO call get H (.bd zero parts) = (lX get parts).bind (P9 H zero) := (rfl)
@[go_sem] theorem NK : lX get [] = some [] := (rfl)
def VT(off n:Nat)(r:List (Nat×Nat×X))(d:D):Option (List (Nat×Nat×D)):=kG (off,n,d) (lX get r)
@[go_sem] theorem YO (off n : Nat) (r : List (Nat × Nat × X)) (d : D) : VT get off n r d = kG (off, n, d) (lX get r) := (rfl)
@[go_sem] theorem LO (off n : Nat) (x : X) (r : List (Nat × Nat × X)) : lX get ((off, n, x) :: r) = (get x).bind (VT get off n r) := (rfl)
@[go_sem] theorem YP (zero : List D) : P9 H zero [] = some (rG zero, H) := (rfl)
def bdC(r:List (Nat×Nat×D))(z:List D):Option (D×aj):=P9 H z r
@[go_sem] theorem acZ (r : List (Nat × Nat × D)) (z : List D) : bdC H r z = P9 H z r := (rfl)
@[go_sem] theorem VU (zero : List D) (off n : Nat) (x : D) (r : List (Nat × Nat × D)) : P9 H zero ((off, n, x) :: r) = if fits n x = true then (bj zero off x.cells).bind (bdC H r) else none := by
 by_cases h:fits n x=true
 case neg=>
  rw[if_neg h]
  have h2:(x.iK&&x.cells.length==n)=false:=by rw[← Bool.not_eq_true,Bool.and_comm];simpa [fits]using h
  simp only[P9,s8,h2];rfl
 rw[if_pos h]
 simp only[fits,Bool.and_eq_true,decide_eq_true_eq]at h
 simp only[P9,s8,h.1,h.2,beq_self_eq_true,Bool.and_self,if_true]
 cases bj zero off x.cells<;>rfl
def cm(n:Nat):List T→Bool
 | []=>true
 | x::r=>nJ n x.cells&&cm n r
@[go_sem] theorem NL (n : Nat) : cm n [] = true := (rfl)
@[go_sem] theorem tP (n : Nat) (x : T) (r : List T) : cm n (x :: r) = (nJ n x.cells && cm n r) := (rfl)
def zF(sz:Nat)(ds:List D):Option (D×aj):=if ds.all (fun d=>d.cells.length==sz)then(bO (frz H depth) ds).map fun ts=>(.t (.sl ts),pins H (ds.flatMap (eW H depth)))else none
@[go_sem] theorem aeg (xs : List X) (sz : Nat) : evO call get H (.bs xs sz) = (bO get xs).bind (zF H sz) := (rfl)
theorem VV(sz:Nat)(ds:List D)(ts:List T)(h:oP ds=some ts)(hc:cm sz ts=true):zF H sz ds=some (.t (.sl ts),H):=by
 have key:∀(ds:List D) (ts:List T),oP ds=some ts→cm sz ts=true→ds.all (fun d=>d.cells.length==sz)=true∧bO (frz H depth) ds=some ts∧ds.flatMap (eW H depth)=[]:=by
  intro ds
  induction ds with
  | nil=>intro ts h hc;simp[oP]at h;subst h;simp[bO]
  | cons d ds ih=>
    intro ts h hc
    cases d with
    | t x=>
      simp only[oP,Option.map_eq_some_iff]at h
      obtain⟨r,hr,rfl⟩:=h
      simp only[cm,Bool.and_eq_true,fk]at hc
      obtain⟨h1,h2,h3⟩:=ih r hr hc.2
      refine⟨by rw[List.all_cons,h1,Bool.and_true];simp[D.cells,hc.1],by simp[bO,frz,h2],by rw[List.flatMap_cons,h3];simp[eW]⟩
    | _=>simp[oP]at h
 obtain⟨h1,h2,h3⟩:=key ds ts h hc
 simp[zF,h1,h2,h3,pins]
theorem qq(sz:Nat)(ts:List T):zF H sz (ts.map D.t)=if cm sz ts=true then some (.t (.sl ts),H)else none:=by
 by_cases h:cm sz ts=true
 · rw[if_pos h];exact VV H sz _ ts (LL ts) h
 · rw[if_neg h]
   have:(ts.map D.t).all (fun d=>d.cells.length==sz)=false:=by
    rw[← Bool.not_eq_true];intro ha;apply h
    clear h
    induction ts with
    | nil=>rfl
    | cons a r ih=>
      simp only[List.map_cons,List.all_cons,Bool.and_eq_true,beq_iff_eq]at ha
      simp only[cm,Bool.and_eq_true,fk]
      exact⟨by simpa [D.cells]using ha.1,ih ha.2⟩
   simp only[zF,this];rfl
@[go_sem] theorem ac0 (sz : Nat) : zF H sz [] = some (.t (.sl []), H) := (rfl)
@[go_sem] theorem ac1 (sz : Nat) (a : T) : zF H sz [.t a] = if cm sz [a] = true then some (.t (.sl [a]), H) else none := qq H sz [a]
@[go_sem] theorem ac2 (sz : Nat) (a b : T) : zF H sz [.t a, .t b] = if cm sz [a, b] = true then some (.t (.sl [a, b]), H) else none := qq H sz [a, b]
@[go_sem] theorem ac3 (sz : Nat) (a b c : T) : zF H sz [.t a, .t b, .t c] = if cm sz [a, b, c] = true then some (.t (.sl [a, b, c]), H) else none := qq H sz [a, b, c]
@[go_sem] theorem ac4 (sz : Nat) (a b c d : T) : zF H sz [.t a, .t b, .t c, .t d] = if cm sz [a, b, c, d] = true then some (.t (.sl [a, b, c, d]), H) else none := qq H sz [a, b, c, d]
@[go_sem] theorem ac5 (sz : Nat) (a b c d e : T) : zF H sz [.t a, .t b, .t c, .t d, .t e] = if cm sz [a, b, c, d, e] = true then some (.t (.sl [a, b, c, d, e]), H) else none := qq H sz [a, b, c, d, e]
def VW(a:D):Option (D×aj):=(XO a).map fun(n:Nat)=>(D.t (.int .i64 (n:Int)),H)
@[go_sem] theorem aeh (x : X) : evO call get H (.ln x) = (get x).bind (VW H) := (rfl)
@[go_sem] theorem aaY (es : List T) : VW H (.t (.sl es)) = some (I es.length, H) := (rfl)
@[go_sem] theorem YQ : VW H .nil = some (I 0, H) := (rfl)
@[go_sem] theorem YR (id ep n : Nat) : VW H (.ref id ep n) = some (I n, H) := (rfl)
@[go_sem] theorem YS (id ep n lo hi : Nat) : VW H (.sub id ep n lo hi) = some (I ((hi - lo : Nat) : Int), H) := (rfl)
def VX(ds:List D):Option (D×aj):=(Uy ds).map fun d=>(d,H)
def VY(ds:List D):Option (D×aj):=(Uz ds).map fun d=>(d,H)
@[go_sem] theorem aei (xs : List X) : evO call get H (.mn xs) = (bO get xs).bind (VX H) := (rfl)
@[go_sem] theorem aej (xs : List X) : evO call get H (.mx xs) = (bO get xs).bind (VY H) := (rfl)
@[go_sem] theorem ac6 (k : IntKind) (a b : Int) : VX H [.t (.int k a), .t (.int k b)] = some (.t (.int k (min a b)), H) := by
 simp only[VX,Uy,y3,if_true,Option.map_some];congr 4;omega
@[go_sem] theorem ac7 (k : IntKind) (a b : Int) : VY H [.t (.int k a), .t (.int k b)] = some (.t (.int k (max a b)), H) := by
 simp only[VY,Uz,y3,if_true,Option.map_some];congr 4;omega
@[go_sem] theorem ac8 (k : IntKind) (a b c : Int) : VX H [.t (.int k a), .t (.int k b), .t (.int k c)] = some (.t (.int k (min (min a b) c)), H) := by
 simp only[VX,Uy,y3,if_true,Option.map_some];congr 4;omega
@[go_sem] theorem ac9 (k : IntKind) (a b c : Int) : VY H [.t (.int k a), .t (.int k b), .t (.int k c)] = some (.t (.int k (max (max a b) c)), H) := by
 simp only[VY,Uz,y3,if_true,Option.map_some];congr 4;omega
def B9(sz:Nat)(x:Option D)(lo hi:Option (Option Int)):Option (D×aj):=x.bind fun a=>lo.bind fun l=>hi.bind fun h=>(ni H a l h sz).map fun d=>(d,H)
@[go_sem] theorem aek (x : X) (lo hi : Option X) (sz : Nat) : evO call get H (.sc x lo hi sz) = B9 H sz (get x) (Gs get lo) (Gs get hi) := (rfl)
def VZ:D→Option (Option Int)
 | .t (.int _ n)=>some (some n)
 | _=>none
@[go_sem] theorem YT (k : IntKind) (n : Int) : VZ (.t (.int k n)) = some (some n) := (rfl)
@[go_sem] theorem V0 : Gs get none = some none := (rfl)
@[go_sem] theorem V1 (x : X) : Gs get (some x) = (get x).bind VZ := by
 simp only[Gs];cases get x with
 | none=>rfl
 | some d=>cases d with
   | t y=>cases y<;>rfl
   | _=>rfl
def aaZ(i:Nat)(a:D):Option (D×aj):=(UA i a).map fun d=>(d,H)
@[go_sem] theorem ael (x : X) (i : Nat) : evO call get H (.ex x i) = (get x).bind (aaZ H i) := (rfl)
def exO:Option D→Option (D×aj)
 | some d=>some (d,H)
 | none=>none
@[go_sem] theorem YU (d : D) : exO H (some d) = some (d, H) := (rfl)
@[go_sem] theorem YV (i : Nat) (ds : List D) : aaZ H i (.tup ds) = exO H ds[i]? := by simp only [aaZ, UA, exO]; cases ds[i]? <;> rfl
def aa0(f:Nat)(ds:List D):Option (D×aj):=some (.fn f ds,H)
@[go_sem] theorem aa1 (f : Nat) (ds : List D) : aa0 H f ds = some (.fn f ds, H) := (rfl)
@[go_sem] theorem aem (f : Nat) (caps : List X) : evO call get H (.mf f caps) = (bO get caps).bind (aa0 H f) := by simp only [evO, aa0]; cases bO get caps <;> rfl
@[go_sem] theorem aen (sz : Nat) : evO call get H (.nw sz) = some (.ref H.length 0 0, H ++ [.arr sz false 0 []]) := (rfl)
def alP(p:List D×aj):Option (D×aj):=some (.bp H.length 0,H++ .box p.1::p.2)
@[go_sem] theorem ada (cs : List D) (os : aj) : alP H (cs, os) = some (.bp H.length 0, H ++ .box cs :: os) := (rfl)
@[go_sem] theorem aeo (zero : List D) (live : List (Nat × Nat)) : evO call get H (.al zero live) = alP H (bP (H.length + 1) zero live) := (rfl)
@[go_sem] theorem Qa (base : Nat) (cs : List D) : bP base cs [] = (cs, []) := (rfl)
def aa2(n:Nat)(a:D):Option (D×aj):=if a.cells.length=n∧a.iK then some (.bp H.length 0,H++[.box a.cells])else none
@[go_sem] theorem aep (x : X) (n : Nat) : evO call get H (.bx x n) = (get x).bind (aa2 H n) := (rfl)
@[go_sem] theorem aa3 (n : Nat) (a : D) : aa2 H n a = if fits n a = true then some (.bp H.length 0, H ++ [.box a.cells]) else none := by
 simp[aa2,fits]
def YW(sz:Nat)(zero:D)(n:Option Nat):Option (D×aj):=n.bind fun m=>if m≤lim then some (.ref H.length 0 m,H++[.arr sz false 0 (List.replicate m zero)])else none
def mkN(sz:Nat)(zero:D):D→Option (D×aj)
 | .t (.int _ n)=>YW H sz zero (idx n)
 | _=>none
@[go_sem] theorem aa4 (sz : Nat) (zero : D) (k : IntKind) (n : Int) : mkN H sz zero (.t (.int k n)) = YW H sz zero (idx n) := (rfl)
@[go_sem] theorem aeq (len : X) (zero : D) (sz : Nat) : evO call get H (.mk len zero sz) = (get len).bind (mkN H sz zero) := by
 simp only[evO];cases get len with
 | none=>rfl
 | some d=>cases d with
   | t y=>cases y<;>rfl
   | _=>rfl
@[go_sem] theorem aa5 (sz : Nat) (zero : D) (m : Nat) (h : m ≤ 4294967296) : YW H sz zero (some m) = some (.ref H.length 0 m, H ++ [.arr sz false 0 (List.replicate m zero)]) := by
 simp[YW,lim,h]
def LP(zero:T)(n:Option Nat):Option (D×aj):=n.bind fun m=>if m≤lim then some (.t (.sl (List.replicate m zero)),H)else none
def adb(zero:T):D→Option (D×aj)
 | .t (.int _ n)=>LP H zero (idx n)
 | _=>none
@[go_sem] theorem YX (zero : T) (k : IntKind) (n : Int) : adb H zero (.t (.int k n)) = LP H zero (idx n) := (rfl)
@[go_sem] theorem ade (len : X) (zero : T) (sz : Nat) : evO call get H (.mkt len zero sz) = (get len).bind (adb H zero) := by
 simp only[evO];cases get len with
 | none=>rfl
 | some d=>cases d with
   | t y=>cases y<;>rfl
   | _=>rfl
@[go_sem] theorem YY (zero : T) (m : Nat) (h : m ≤ 4294967296) : LP H zero (some m) = some (.t (.sl (List.replicate m zero)), H) := by
 simp[LP,lim,h]
def o5(sz:Nat)(fz:Bool)(x y:Option D):Option (D×aj):=x.bind fun a=>y.bind fun b=>mr H a b fz sz
@[go_sem] theorem adf (x y : X) (fz : Bool) (sz : Nat) : evO call get H (.app x y fz sz) = o5 H sz fz (get x) (get y) := (rfl)
def vU(sz id ep n:Nat)(ys:List D):Option Obj→Option (D×aj)
 | some (.arr sz' pin ep' es)=>if ep=ep'∧n=es.length∧sz'=sz∧n+ys.length≤lim then some (.ref id ep (n+ys.length),H.set id (.arr sz pin ep (es++ys)))else none
 | _=>none
@[go_sem] theorem V2 (sz id ep n : Nat) (ys : List D) (pin : Bool) (es : List D) :
 vU H sz id ep n ys (some (.arr sz pin ep es))=if n=es.length then(if n+ys.length≤4294967296 then some (.ref id ep (n+ys.length),H.set id (.arr sz pin ep (es++ys)))else none)else none:=by
 simp only[vU,lim]
 by_cases h1:n=es.length
 · rw[if_pos h1]
   by_cases h2:n+ys.length≤4294967296
   · rw[if_pos h2,if_pos ⟨trivial,h1,trivial,h2⟩]
   · rw[if_neg h2,if_neg fun h=>h2 h.2.2.2]
 · rw[if_neg h1,if_neg fun h=>h1 h.2.1]
theorem tQ(ts:List T):bO (fun d=>(frz H depth d).map D.t) (ts.map D.t)=some (ts.map D.t):=by
 induction ts with
 | nil=>rfl
 | cons t ts ih=>simp[bO,frz,ih]
theorem Fu(ts:List T):(ts.map D.t).flatMap (eW H depth)=[]:=by
 induction ts with
 | nil=>rfl
 | cons t ts ih=>rw[List.map_cons,List.flatMap_cons,ih];simp[eW,depth]
theorem Ca(sz:Nat)(fz:Bool)(x:D)(ts:List T)(h:cj sz (ts.map D.t)=false):o5 H sz fz (some x) (some (.t (.sl ts)))=none:=by
 have e1:(if fz then bO (fun d=>(frz H depth d).map D.t) (ts.map D.t)else some (ts.map D.t))=some (ts.map D.t):=by
  cases fz<;>simp[tQ]
 simp only[o5,Option.bind_some,mr,elems,e1,h,Bool.false_eq_true,if_false]
def nK(sz:Nat)(ts:List T):Bool:=cj sz (ts.map D.t)
theorem IW(sz id ep n:Nat)(fz:Bool)(ts:List T)(h:nK sz ts=true):o5 H sz fz (some (.ref id ep n)) (some (.t (.sl ts)))=vU H sz id ep n (ts.map .t) H[id]?:=by
 have e1:(if fz then bO (fun d=>(frz H depth d).map D.t) (ts.map D.t)else some (ts.map D.t))=some (ts.map D.t):=by
  cases fz<;>simp[tQ]
 have e2:(if fz then pins H ((ts.map D.t).flatMap (eW H depth))else H)=H:=by
  cases fz
  · rfl
  · simp only[if_true];rw[Fu];rfl
 unfold nK at h
 simp only[o5,Option.bind_some,mr,elems,e1,h,if_true,e2,fF]
 generalize H[id]?=o
 rcases o with _ | (_ | ⟨sz',pin,ep',es⟩)
 · rfl
 · rfl
 · simp only[vU]
   by_cases h1:ep=ep'∧n=es.length
   · rw[if_pos h1,Option.bind_some]
     by_cases h2:sz'=sz∧n+(ts.map D.t).length≤lim
     · rw[if_pos h2,if_pos ⟨h1.1,h1.2,h2⟩]
     · rw[if_neg h2,if_neg fun h=>h2 h.2.2]
   · rw[if_neg h1,if_neg fun h=>h1 ⟨h.1,h.2.1⟩];rfl
@[go_sem] theorem V3 (sz id ep n : Nat) (fz : Bool) (ts : List T) : o5 H sz fz (some (.ref id ep n)) (some (.t (.sl ts))) = if nK sz ts = true then vU H sz id ep n (ts.map .t) H[id]? else none := by
 by_cases h:nK sz ts=true
 · rw[if_pos h,IW H sz id ep n fz ts h]
 · rw[if_neg h];exact Ca H sz fz _ ts (by simpa [nK]using h)
@[go_sem] theorem V4 (sz : Nat) (fz : Bool) (ts : List T) : o5 H sz fz (some .nil) (some (.t (.sl ts))) =
 if nK sz ts=true then(if ts.length≤4294967296 then some (.ref H.length 0 ts.length,H++[.arr sz false 0 (ts.map .t)])else none)else none:=by
 by_cases h:nK sz ts=true
 · rw[if_pos h]
   have e1:(if fz then bO (fun d=>(frz H depth d).map D.t) (ts.map D.t)else some (ts.map D.t))=some (ts.map D.t):=by
    cases fz<;>simp[tQ]
   have e2:(if fz then pins H ((ts.map D.t).flatMap (eW H depth))else H)=H:=by
    cases fz
    · rfl
    · simp only[if_true];rw[Fu];rfl
   unfold nK at h
   simp only[o5,Option.bind_some,mr,elems,e1,h,if_true,e2,lim,List.length_map]
 · rw[if_neg h];exact Ca H sz fz _ ts (by simpa [nK]using h)
@[go_sem] theorem V5 (sz : Nat) : nK sz [] = true := (rfl)
@[go_sem] theorem Td (sz : Nat) (x : T) (r : List T) : nK sz (x :: r) = nJ sz x.cells := by
 rw[Bool.eq_iff_iff,fk];simp[nK,cj,D.cells]
@[go_sem] theorem V6 (l : List Int) (k : IntKind) : nK 1 (l.map (.int k)) = true := by cases l <;> rfl
@[go_sem] theorem Te (l : List Bool) : nK 1 (l.map .bool) = true := by cases l <;> rfl
@[go_sem] theorem YZ (l : List (List T)) : nK 1 (l.map .sl) = true := by cases l <;> rfl
def GK(call:aR)(f raw:Nat)(keep:List Nat)(ds:List D):Option (D×aj):=s9 call H f raw keep ds
@[go_sem] theorem aer (f raw : Nat) (keep : List Nat) (xs : List X) : evO call get H (.ca f raw keep xs) = (bO get xs).bind (GK H call f raw keep) := (rfl)
def adg(call:aR)(raw:Nat)(keep:List Nat)(x:Option D)(xs:Option (List D)):Option (D×aj):=x.bind fun
 | .fn f caps=>xs.bind fun ds=>s9 call H f raw keep (ds++caps)
 | _=>none
@[go_sem] theorem aes (x : X) (raw : Nat) (keep : List Nat) (xs : List X) : evO call get H (.cw x raw keep xs) = adg H call raw keep (get x) (bO get xs) := (rfl)
@[go_sem] theorem aa6 (raw : Nat) (keep : List Nat) (f : Nat) (caps ds : List D) : adg H call raw keep (some (.fn f caps)) (some ds) = GK H call f raw keep (ds ++ caps) := (rfl)
def lZ(H:aj):List D→Option (List T)
 | []=>some []
 | .t x::r=>kG x (lZ H r)
 | .nil::r=>kG (.sl []) (lZ H r)
 | _::_=>none
@[go_sem] theorem aa7 : lZ H [] = some [] := (rfl)
@[go_sem] theorem aa8 (x : T) (r : List D) : lZ H (.t x :: r) = kG x (lZ H r) := (rfl)
@[go_sem] theorem V7 (r : List D) : lZ H (.nil :: r) = kG (.sl []) (lZ H r) := (rfl)
@[go_sem] theorem V8 (cs : List D) (r : List D) : lZ H (.agg cs :: r) = none := (rfl)
@[go_sem] theorem Y0 (a b : Nat) (r : List D) : lZ H (.bp a b :: r) = none := (rfl)
@[go_sem] theorem V9 (a b c : Nat) (r : List D) : lZ H (.ref a b c :: r) = none := (rfl)
@[go_sem] theorem Wb (a b c d e : Nat) (r : List D) : lZ H (.sub a b c d e :: r) = none := (rfl)
@[go_sem] theorem Y1 (f : Nat) (cs : List D) (r : List D) : lZ H (.fn f cs :: r) = none := (rfl)
@[go_sem] theorem Y2 (a b c d e : Nat) (r : List D) : lZ H (.ap a b c d e :: r) = none := (rfl)
@[go_sem] theorem Y3 (cs : List T) (r : List D) : lZ H (.ep cs :: r) = none := (rfl)
@[go_sem] theorem Tf (r : List D) : lZ H (.nilp :: r) = none := (rfl)
@[go_sem] theorem Wc (r : List D) : lZ H (.und :: r) = none := (rfl)
end
theorem sC(H:aj):∀ {ds:List D} {ts:List T},lZ H ds=some ts→∀i,oR H [] i ds=some (ts.map .t)∧cD H [] i ds=[]
 | [],ts,h,i=>by simp[lZ]at h;subst h;exact⟨rfl,rfl⟩
 | d::r,ts,h,i=>by
   cases d with
   | t x=>
     simp only[lZ,kG,Option.map_eq_some_iff]at h
     obtain⟨l,hl,rfl⟩:=h
     obtain⟨h1,h2⟩:=sC H hl (i+1)
     exact⟨by simp[oR,rL,h1],by simp[cD,eW,depth,h2]⟩
   | nil=>
     simp only[lZ,kG,Option.map_eq_some_iff]at h
     obtain⟨l,hl,rfl⟩:=h
     obtain⟨h1,h2⟩:=sC H hl (i+1)
     exact⟨by simp[oR,rL,h1],by simp[cD,eW,depth,h2]⟩
   | _=>simp[lZ]at h
theorem IX(ts:List T)(n:Nat):(ts.map D.t).flatMap (ids n)=[]:=by
 induction ts with
 | nil=>rfl
 | cons t ts ih=>rw[List.map_cons,List.flatMap_cons,ih];simp[ids]
theorem IY(f:Nat→Option Nat)(ts:List T):bO (ren f depth) (ts.map .t)=some (ts.map .t):=by
 induction ts with
 | nil=>rfl
 | cons t ts ih=>simp[bO,ren,depth]at ih ⊢;exact ih
def wL:D→Bool
 | .t _=>true
 | .tup ds=>ds.all fun | .t _=>true | _=>false
 | _=>false
theorem Ay{f:Nat→Option Nat}{d:D}(h:wL d=true):ren f depth d=some d:=by
 cases d with
 | t x=>rfl
 | tup ds=>
   simp only[wL]at h
   have:bO (ren f 7) ds=some ds:=by
    induction ds with
    | nil=>rfl
    | cons d ds ih=>
      simp only[List.all_cons,Bool.and_eq_true]at h
      cases d with
      | t x=>simp[bO,ren,ih h.2]
      | _=>simp at h
   simp[ren,depth,this]
 | _=>simp[wL]at h
def xZ(H:aj)(p:D×aj):Option (D×aj):=if wL p.1&&p.2.isEmpty then some (p.1,H)else
 (ren (et [] H.length) depth p.1).bind fun r'=>(bO (gE (et [] H.length)) p.2).map fun os=>(r',H++os)
@[go_sem] theorem aa9 (H : aj) (x : T) : xZ H (.t x, []) = some (.t x, H) := (rfl)
@[go_sem] theorem aba (H : aj) : xZ H (.tup [], []) = some (.tup [], H) := (rfl)
@[go_sem] theorem abb (H : aj) (x y : T) : xZ H (.tup [.t x, .t y], []) = some (.tup [.t x, .t y], H) := (rfl)
@[go_sem] theorem abc (H : aj) (x y z : T) : xZ H (.tup [.t x, .t y, .t z], []) = some (.tup [.t x, .t y, .t z], H) := (rfl)
@[go_sem] theorem abd (H : aj) (x y z u : T) : xZ H (.tup [.t x, .t y, .t z, .t u], []) = some (.tup [.t x, .t y, .t z, .t u], H) := (rfl)
theorem IZ(H:aj)(call:aR)(f raw:Nat)(ds:List D)(ts:List T)(h:lZ H ds=some ts):
 GK H call f raw [] ds=(call raw f (ts.map .t) []).bind (xZ H):=by
 obtain⟨h1,h2⟩:=sC H h 0
 simp only[GK,s9,h1,Option.bind_some,IX,eX,reach,ot,List.flatMap_nil,h2,pins,IY,pick,bO]
 cases hc:call raw f (ts.map .t) []with
 | none=>rfl
 | some p=>
   obtain⟨d,os⟩:=p
   simp only[Option.bind_some,List.isEmpty_nil,Bool.true_and,xZ]
   by_cases h3:os=[]
   · subst h3
     simp only[List.isEmpty_nil,Bool.true_and,Bool.and_true,bO,Option.map_some,List.length_nil,List.take_nil,de,List.drop_nil,List.append_nil]
     by_cases h4:wL d=true
     · rw[if_pos h4]
       split
       · rfl
       · rw[Ay h4];rfl
     · rw[if_neg h4]
       split
       · rename_i h5
         exfalso
         apply h4
         cases d with
         | t x=>rfl
         | tup ds=>
           simp only[oQ,List.all_eq_true]at h5
           simp only[wL,List.all_eq_true]
           intro y hy
           have:=h5 y hy
           cases y<;>simp_all [kA]
         | _=>simp[oQ]at h5
       · rfl
   · have:os.isEmpty=false:=by cases os<;>simp_all
     simp only[this,Bool.false_and,Bool.and_false,if_false,Bool.false_eq_true,List.length_nil,List.take_zero,de,List.drop_zero]
@[go_sem] theorem Tg (st : St) : iA st [] = some [] := (rfl)
def adh(st:St)(r:List (Nat×Option (Nat×Bool)))(d:D):Option (List D):=kG d (iA st r)
@[go_sem] theorem abe (vs : List D) (H : aj) (r : List (Nat × Option (Nat × Bool))) (d : D) : adh ⟨vs, H⟩ r d = kG d (iA ⟨vs, H⟩ r) := (rfl)
@[go_sem] theorem Th (vs : List D) (H : aj) (j : Nat) (r : List (Nat × Option (Nat × Bool))) : iA ⟨vs, H⟩ ((j, none) :: r) = vs[j]?.bind (adh ⟨vs, H⟩ r) := (rfl)
def abf(st:St)(r:List (Nat×Option (Nat×Bool)))(p:D×aj):Option (List D):=kG p.1 (iA st r)
@[go_sem] theorem abg (vs : List D) (H : aj) (r : List (Nat × Option (Nat × Bool))) (d : D) (H' : aj) : abf ⟨vs, H⟩ r (d, H') = kG d (iA ⟨vs, H⟩ r) := (rfl)
def abh(st:St)(n:Nat)(agg:Bool)(r:List (Nat×Option (Nat×Bool)))(p:D):Option (List D):=(KW st.H n agg p).bind (abf st r)
@[go_sem] theorem abi (vs : List D) (H : aj) (n : Nat) (agg : Bool) (r : List (Nat × Option (Nat × Bool))) (p : D) : abh ⟨vs, H⟩ n agg r p = (KW H n agg p).bind (abf ⟨vs, H⟩ r) := (rfl)
@[go_sem] theorem Qb (vs : List D) (H : aj) (j n : Nat) (agg : Bool) (r : List (Nat × Option (Nat × Bool))) : iA ⟨vs, H⟩ ((j, some (n, agg)) :: r) = vs[j]?.bind (abh ⟨vs, H⟩ n agg r) := by
 simp only[iA]
 cases vs[j]? with
 | none=>rfl
 | some p=>
   simp only[Option.bind_some,abh,KW]
   cases uK H p n agg<;>rfl
@[go_sem] theorem abj (H : aj) (n : Nat) (x : T) : frz H n (.t x) = some x := by cases n <;> rfl
@[go_sem] theorem abk (H : aj) (n : Nat) : frz H n .nil = some (.sl []) := by cases n <;> rfl
@[go_sem] theorem abl (H : aj) (n : Nat) (cs : List D) : frz H (n + 1) (.agg cs) = (bO (frz H n) cs).map .agg := (rfl)
@[go_sem] theorem GL (H : aj) (n : Nat) (ts : List T) : bO (frz H n) (ts.map .t) = some ts := by
 induction ts with
 | nil=>rfl
 | cons t ts ih=>simp[bO,abj,ih]
def frA(H:aj)(n ep m lo hi:Nat):Option Obj→Option T
 | some (.arr _ _ ep' es)=>if ep=ep'∧m=es.length then(bO (frz H n) ((es.drop lo).take (hi-lo))).map .sl else none
 | _=>none
def frR(H:aj)(n ep m:Nat):Option Obj→Option T
 | some (.arr _ _ ep' es)=>if ep=ep'∧m=es.length then(bO (frz H n) es).map .sl else none
 | _=>none
@[go_sem] theorem abm (H : aj) (n id ep m : Nat) : frz H (n + 1) (.ref id ep m) = frR H n ep m H[id]? := by
 simp only[frz,fF]
 generalize H[id]?=o
 rcases o with _ | (_ | ⟨sz',pin,ep',es⟩)
 · rfl
 · rfl
 · simp only[frR]
   by_cases h:ep=ep'∧m=es.length
   · rw[if_pos h,if_pos h];rfl
   · rw[if_neg h,if_neg h];rfl
@[go_sem] theorem abn (H : aj) (n id ep m lo hi : Nat) : frz H (n + 1) (.sub id ep m lo hi) = frA H n ep m lo hi H[id]? := by
 simp only[frz,fF]
 generalize H[id]?=o
 rcases o with _ | (_ | ⟨sz',pin,ep',es⟩)
 · rfl
 · rfl
 · simp only[frA]
   by_cases h:ep=ep'∧m=es.length
   · rw[if_pos h,if_pos h];rfl
   · rw[if_neg h,if_neg h];rfl
@[go_sem] theorem abo (H : aj) (n ep m sz : Nat) (pin : Bool) (es : List D) : frR H n ep m (some (.arr sz pin ep es)) = if m = es.length then (bO (frz H n) es).map .sl else none := by simp [frR]
@[go_sem] theorem abp (H : aj) (n ep m lo hi sz : Nat) (pin : Bool) (es : List D) : frA H n ep m lo hi (some (.arr sz pin ep es)) = if m = es.length then (bO (frz H n) ((es.drop lo).take (hi - lo))).map .sl else none := by simp [frA]
@[go_sem] theorem Wd (H : aj) (x : T) : rL H (.t x) = some (.t x) := (rfl)
@[go_sem] theorem Y4 (H : aj) : rL H .nil = some (.t (.sl [])) := (rfl)
@[go_sem] theorem Y5 (H : aj) (cs : List D) : rL H (.agg cs) = (frz H 8 (.agg cs)).map .t := (rfl)
@[go_sem] theorem Y6 (H : aj) (id ep n : Nat) : rL H (.ref id ep n) = (frz H 8 (.ref id ep n)).map .t := (rfl)
@[go_sem] theorem Y7 (H : aj) (id ep n lo hi : Nat) : rL H (.sub id ep n lo hi) = (frz H 8 (.sub id ep n lo hi)).map .t := (rfl)
@[go_sem] theorem Qc (H : aj) (id off : Nat) : rL H (.bp id off) = some (.bp id off) := (rfl)
@[go_sem] theorem abq (H : aj) (id ep n i off : Nat) : rL H (.ap id ep n i off) = some (.ap id ep n i off) := (rfl)
@[go_sem] theorem abr (H : aj) (cs : List T) : rL H (.ep cs) = some (.ep cs) := (rfl)
@[go_sem] theorem abt (H : aj) (f : Nat) (cs : List D) : rL H (.fn f cs) = some (.fn f cs) := (rfl)
def ltB:Nat→Nat→Bool
 | _,0=>false
 | 0,_+1=>true
 | m+1,n+1=>ltB m n
@[go_sem] theorem aet (m : Nat) : ltB m 0 = false := by cases m <;> rfl
@[go_sem] theorem adi (n : Nat) : ltB 0 (n + 1) = true := (rfl)
@[go_sem] theorem adj (m n : Nat) : ltB (m + 1) (n + 1) = ltB m n := (rfl)
theorem o6:∀ {m n:Nat},ltB m n=decide (m<n)
 | m,0=>by cases m<;>simp[ltB]
 | 0,n+1=>by simp[ltB]
 | m+1,n+1=>by simp[ltB,o6 (m:=m) (n:=n)]
def eqB:Nat→Nat→Bool
 | 0,0=>true
 | m+1,n+1=>eqB m n
 | _,_=>false
@[go_sem] theorem adk : eqB 0 0 = true := (rfl)
@[go_sem] theorem adl (n : Nat) : eqB 0 (n + 1) = false := (rfl)
@[go_sem] theorem adm (n : Nat) : eqB (n + 1) 0 = false := (rfl)
@[go_sem] theorem adn (m n : Nat) : eqB (m + 1) (n + 1) = eqB m n := (rfl)
theorem DY:∀ {m n:Nat},eqB m n=decide (m=n)
 | 0,0=>rfl
 | 0,n+1=>rfl
 | m+1,0=>rfl
 | m+1,n+1=>by simp[eqB,DY (m:=m) (n:=n)]
section
variable (k n : Nat)
@[go_sem] theorem abu (x : T) : old k n (.t x) = true := by cases n <;> rfl
@[go_sem] theorem abv : old k n .nil = true := by cases n <;> rfl
@[go_sem] theorem ado (cs : List T) : old k n (.ep cs) = true := by cases n <;> rfl
@[go_sem] theorem Y8 : old k n .nilp = true := by cases n <;> rfl
@[go_sem] theorem abw : old k n .und = true := by cases n <;> rfl
@[go_sem] theorem We (id off : Nat) : old k n (.bp id off) = ltB id k := by cases n <;> simp [old, o6]
@[go_sem] theorem adp (id ep m i off : Nat) : old k n (.ap id ep m i off) = ltB id k := by cases n <;> simp [old, o6]
@[go_sem] theorem abx (id ep m : Nat) : old k n (.ref id ep m) = ltB id k := by cases n <;> simp [old, o6]
@[go_sem] theorem aby (id ep m lo hi : Nat) : old k n (.sub id ep m lo hi) = ltB id k := by cases n <;> simp [old, o6]
def fB(n:Nat)(cs:List D):Bool:=cs.all (old k n)
@[go_sem] theorem Ti : fB k n [] = true := (rfl)
@[go_sem] theorem DZ (d : D) (r : List D) : fB k n (d :: r) = (old k n d && fB k n r) := (rfl)
@[go_sem] theorem Fv (ts : List T) : fB k n (ts.map .t) = true := by
 induction ts with
 | nil=>rfl
 | cons t ts ih=>rw[List.map_cons,DZ,abu,ih];rfl
@[go_sem] theorem Tj (m : Nat) (x : T) : fB k n (List.replicate m (.t x)) = true := by
 have:List.replicate m (D.t x)=(List.replicate m x).map .t:=by simp
 rw[this,Fv]
@[go_sem] theorem Tk (a b : List D) : fB k n (a ++ b) = (fB k n a && fB k n b) := by simp [fB]
@[go_sem] theorem abz (cs : List D) : old k (n + 1) (.agg cs) = fB k n cs := (rfl)
@[go_sem] theorem abA (cs : List D) : old k (n + 1) (.tup cs) = fB k n cs := (rfl)
@[go_sem] theorem adq (f : Nat) (cs : List D) : old k (n + 1) (.fn f cs) = fB k n cs := (rfl)
end
def fG(k:Nat):aj→Bool
 | []=>true
 | .box cs::r=>fB k 8 cs&&fG k r
 | .arr _ _ _ es::r=>fB k 8 es&&fG k r
@[go_sem] theorem Qd (k : Nat) : fG k [] = true := (rfl)
@[go_sem] theorem Qe (k : Nat) (cs : List D) (r : aj) : fG k (.box cs :: r) = (fB k 8 cs && fG k r) := (rfl)
@[go_sem] theorem Qf (k sz ep : Nat) (pin : Bool) (es : List D) (r : aj) : fG k (.arr sz pin ep es :: r) = (fB k 8 es && fG k r) := (rfl)
theorem mh(k:Nat)(H:aj):H.all (fun o=>o.ds.all (old k depth))=fG k H:=by
 induction H with
 | nil=>rfl
 | cons o r ih=>rw[List.all_cons,ih];cases o<;>rfl
def Qg(d:D)(b:Bool):D:=if b then d else .und
@[go_sem] theorem Tl (d : D) : Qg d true = d := (rfl)
@[go_sem] theorem Qh (d : D) : Qg d false = .und := (rfl)
@[go_sem] theorem abB (k : Nat) (d : D) : kill k d = Qg d (old k 8 d) := (rfl)
def GM(k:Nat):List D→List D
 | []=>[]
 | d::r=>kill k d::GM k r
@[go_sem] theorem Wf (k : Nat) : GM k [] = [] := (rfl)
@[go_sem] theorem Tm (k : Nat) (d : D) (r : List D) : GM k (d :: r) = kill k d :: GM k r := (rfl)
theorem LQ(k:Nat)(vs:List D):vs.map (kill k)=GM k vs:=by
 induction vs with
 | nil=>rfl
 | cons d r ih=>rw[List.map_cons,ih];rfl
@[go_sem] theorem Y9 (k : Nat) (vs : List D) (H : aj) : Gt k ⟨vs, H⟩ = if fG k (H.take k) = true then some ⟨GM k vs, H.take k⟩ else none := by
 simp only[Gt,mh,LQ]
@[go_sem] theorem I0 (H : aj) (n : Nat) (x : T) : eW H n (.t x) = [] := by cases n <;> rfl
@[go_sem] theorem Za (H : aj) (n : Nat) : eW H n .nil = [] := by cases n <;> rfl
@[go_sem] theorem Qi (H : aj) (n id off : Nat) : eW H n (.bp id off) = [] := by cases n <;> rfl
@[go_sem] theorem abC (H : aj) (n f : Nat) (cs : List D) : eW H n (.fn f cs) = [] := by cases n <;> rfl
@[go_sem] theorem abD (H : aj) (n : Nat) (cs : List T) : eW H n (.ep cs) = [] := by cases n <;> rfl
@[go_sem] theorem abE (H : aj) (n a b c d e : Nat) : eW H n (.ap a b c d e) = [] := by cases n <;> rfl
def qe(H:aj)(n:Nat)(cs:List D):List Nat:=cs.flatMap (eW H n)
@[go_sem] theorem Wg (H : aj) (n : Nat) : qe H n [] = [] := (rfl)
@[go_sem] theorem GN (H : aj) (n : Nat) (d : D) (r : List D) : qe H n (d :: r) = eW H n d ++ qe H n r := (rfl)
@[go_sem] theorem abF (H : aj) (n : Nat) (ts : List T) : qe H n (ts.map .t) = [] := by
 induction ts with
 | nil=>rfl
 | cons t ts ih=>rw[List.map_cons,GN,ih,I0];rfl
@[go_sem] theorem Wi (H : aj) (n : Nat) (a b : List D) : qe H n (a ++ b) = qe H n a ++ qe H n b := by simp [qe]
@[go_sem] theorem Zb (H : aj) (n : Nat) (cs : List D) : eW H (n + 1) (.agg cs) = qe H n cs := (rfl)
def Qj(H:aj)(n:Nat):Option Obj→List Nat
 | some (.arr _ _ _ es)=>qe H n es
 | _=>[]
@[go_sem] theorem Wj (H : aj) (n sz ep : Nat) (pin : Bool) (es : List D) : Qj H n (some (.arr sz pin ep es)) = qe H n es := (rfl)
@[go_sem] theorem Zc (H : aj) (n id ep m : Nat) : eW H (n + 1) (.ref id ep m) = id :: Qj H n H[id]? := (rfl)
@[go_sem] theorem Zd (H : aj) (n id ep m lo hi : Nat) : eW H (n + 1) (.sub id ep m lo hi) = id :: Qj H n H[id]? := (rfl)
@[go_sem] theorem abG : te [] = .tup [] := (rfl)
@[go_sem] theorem abH (d : D) : te [d] = d := (rfl)
@[go_sem] theorem abI (a b : D) (r : List D) : te (a :: b :: r) = .tup (a :: b :: r) := (rfl)
def Cb(k:Nat):List Nat→Bool
 | []=>true
 | i::r=> !ltB i k&&Cb k r
@[go_sem] theorem Wk (k : Nat) : Cb k [] = true := (rfl)
@[go_sem] theorem Tn (k i : Nat) (r : List Nat) : Cb k (i :: r) = (!ltB i k && Cb k r) := (rfl)
theorem Fw(k:Nat)(l:List Nat):l.all (fun i=>decide (k≤i))=Cb k l:=by
 induction l with
 | nil=>rfl
 | cons i r ih=>
   rw[List.all_cons,ih]
   simp only[Cb,o6]
   congr 1
   rw[Bool.eq_iff_iff];simp
def Ze(k raw:Nat)(H:aj)(ds rs:List D):Option (D×aj):=
 (kZ H (max raw 1) (List.range k) (rs.flatMap (ids depth)++ot H (List.range k))).bind fun q=>
  if(iC H raw ds).all (fun i=> !(List.range k++q.1).contains i)then
   (bO (ren (idxOf (List.range k++q.1)) depth) rs).bind fun rs'=>
    (bO (gE (idxOf (List.range k++q.1))) (H.take k++q.2)).map fun hs'=>(te rs',hs')
  else none
def To(k raw:Nat)(H:aj)(ds rs:List D)(b:Bool):Option (D×aj):=
 if b then(if Cb k (iC H raw ds)=true then some (te rs,H.take k)else none)else Ze k raw H ds rs
@[go_sem] theorem Wl (k raw : Nat) (H : aj) (ds rs : List D) : To k raw H ds rs true = if Cb k (iC H raw ds) = true then some (te rs, H.take k) else none := (rfl)
def Wm(k raw:Nat)(H:aj)(ds rs:List D):Option (D×aj):=To k raw H ds rs (fB k 8 rs&&fG k (H.take k))
@[go_sem] theorem abJ (k raw : Nat) (H : aj) (ds rs : List D) : Wm k raw H ds rs = To k raw H ds rs (fB k 8 rs && fG k (H.take k)) := (rfl)
@[go_sem] theorem Wn (k : Nat) (H : aj) (ds : List D) : finish k 0 H ds = (bO (rL H) ds).bind (Wm k 0 H ds) := by
 simp only[finish,if_true,mh,Fw]
 cases bO (rL H) ds with
 | none=>rfl
 | some rs=>
   simp only[Option.bind_some,Wm,To]
   show(if(fB k 8 rs&&fG k (H.take k))=true then _ else _)=_
   cases (fB k 8 rs&&fG k (H.take k))<;>rfl
@[go_sem] theorem Wo (H : aj) (ds : List D) : iC H 0 ds = qe H 8 ds := (rfl)
@[go_sem] theorem Wp (vs : List D) : jA [] vs = vs := (rfl)
@[go_sem] theorem Tp (i : Nat) (r : List Nat) (vs : List D) : jA (i :: r) vs = jA r (vs.set i .und) := (rfl)
@[go_sem] theorem abK (dead : List Nat) (k : Nat) (vs : List D) (H : aj) : tidy false dead k ⟨vs, H⟩ = some ⟨jA dead vs, H⟩ := (rfl)
@[go_sem] theorem abL (dead : List Nat) (k : Nat) (vs : List D) (H : aj) : tidy true dead k ⟨vs, H⟩ = Gt k ⟨jA dead vs, H⟩ := (rfl)
section
variable (H : aj) (call : aR) (f raw : Nat) (keep : List Nat) (ds : List D)
def Az(H1:aj)(n:Nat)(sel:List Nat)(p:D×aj):Option (D×aj):=
 (ren (et sel n) depth p.1).bind fun r'=>(bO (gE (et sel n)) p.2).map fun os=>(r',de H1 sel (os.take sel.length)++os.drop sel.length)
def sD(H1:aj)(sel:List Nat)(p:D×aj):Option (D×aj):=
 if sel.isEmpty&&p.2.isEmpty&&oQ p.1 then some (p.1,H)else Az H1 H.length sel p
def Qk(args:List D)(H1:aj)(sel:List Nat)(hs:aj):Option (D×aj):=(call raw f args hs).bind (sD H H1 sel)
def Ql(args:List D)(H1:aj)(sel:List Nat)(hs:aj):Option (D×aj):=(bO (gE (idxOf sel)) hs).bind (Qk H call f raw args H1 sel)
def Qm(H1:aj)(sel:List Nat)(args:List D):Option (D×aj):=(pick H1 sel).bind (Ql H call f raw args H1 sel)
def Qn(args:List D)(sel:List Nat):Option (D×aj):=(bO (ren (idxOf sel) depth) args).bind (Qm H call f raw (pins H (cD H keep 0 ds)) sel)
def x7(n:Nat)(cs:List D):List Nat:=cs.flatMap (ids n)
def Qo(args:List D):Option (D×aj):=Qn H call f raw keep ds args (reach H 3 (eX [] (x7 8 args)))
def I1:Option (D×aj):=(oR H keep 0 ds).bind (Qo H call f raw keep ds)
theorem LR:GK H call f raw keep ds=I1 H call f raw keep ds:=(rfl)
@[go_sem] theorem LS : I1 H call f raw keep ds = (oR H keep 0 ds).bind (Qo H call f raw keep ds) := (rfl)
@[go_sem] theorem LU (args : List D) : Qo H call f raw keep ds args = Qn H call f raw keep ds args (reach H 3 (eX [] (x7 8 args))) := (rfl)
@[go_sem] theorem LV (args : List D) (sel : List Nat) : Qn H call f raw keep ds args sel = (bO (ren (idxOf sel) 8) args).bind (Qm H call f raw (pins H (cD H keep 0 ds)) sel) := (rfl)
@[go_sem] theorem LW (H1 : aj) (sel : List Nat) (args : List D) : Qm H call f raw H1 sel args = (pick H1 sel).bind (Ql H call f raw args H1 sel) := (rfl)
@[go_sem] theorem LX (args : List D) (H1 : aj) (sel : List Nat) (hs : aj) : Ql H call f raw args H1 sel hs = (bO (gE (idxOf sel)) hs).bind (Qk H call f raw args H1 sel) := (rfl)
@[go_sem] theorem LY (args : List D) (H1 : aj) (sel : List Nat) (hs : aj) : Qk H call f raw args H1 sel hs = (call raw f args hs).bind (sD H H1 sel) := (rfl)
def LZ(H1:aj)(sel:List Nat)(r:D)(os:aj):Option (D×aj):=some (r,de H1 sel (os.take sel.length)++os.drop sel.length)
@[go_sem] theorem L1 (H1 : aj) (sel : List Nat) (r : D) (os : aj) : LZ H1 sel r os = some (r, de H1 sel (os.take sel.length) ++ os.drop sel.length) := (rfl)
def Qp(H1:aj)(n:Nat)(sel:List Nat)(os:aj)(r:D):Option (D×aj):=(bO (gE (et sel n)) os).bind (LZ H1 sel r)
@[go_sem] theorem Fx (H1 : aj) (n : Nat) (sel : List Nat) (os : aj) (r : D) : Qp H1 n sel os r = (bO (gE (et sel n)) os).bind (LZ H1 sel r) := (rfl)
@[go_sem] theorem Fy (H1 : aj) (n : Nat) (sel : List Nat) (r : D) (os : aj) : Az H1 n sel (r, os) = (ren (et sel n) 8 r).bind (Qp H1 n sel os) := by
 simp only[Az,depth]
 cases ren (et sel n) 8 r with
 | none=>rfl
 | some r'=>simp only[Option.bind_some,Qp];cases bO (gE (et sel n)) os<;>rfl
@[go_sem] theorem Wq (H1 : aj) (i : Nat) (sel : List Nat) (p : D × aj) : sD H H1 (i :: sel) p = Az H1 H.length (i :: sel) p := (rfl)
@[go_sem] theorem Zf (H1 : aj) (sel : List Nat) (r : D) (o : Obj) (os : aj) : sD H H1 sel (r, o :: os) = Az H1 H.length sel (r, o :: os) := by
 simp[sD]
@[go_sem] theorem abM (H1 : aj) (k : IntKind) (n : Int) : sD H H1 [] (.t (.int k n), []) = some (.t (.int k n), H) := (rfl)
@[go_sem] theorem abN (H1 : aj) (b : Bool) : sD H H1 [] (.t (.bool b), []) = some (.t (.bool b), H) := (rfl)
@[go_sem] theorem Zg (H1 : aj) (es : List T) : sD H H1 [] (.t (.sl es), []) = some (.t (.sl es), H1) := by simp [sD, Az, oQ, T.scalar, ren, depth, bO, de]
@[go_sem] theorem Ws (H1 : aj) (es : List T) : sD H H1 [] (.t (.agg es), []) = some (.t (.agg es), H1) := by simp [sD, Az, oQ, T.scalar, ren, depth, bO, de]
@[go_sem] theorem Wt (H1 : aj) (ds : List D) : sD H H1 [] (.tup ds, []) = if ds.all kA then some (.tup ds, H) else Az H1 H.length [] (.tup ds, []) := by
 simp[sD,oQ]
def Qq:Option (List T)→Option (D×aj)
 | some ts=>(call raw f (ts.map .t) []).bind (xZ H)
 | none=>I1 H call f raw [] ds
@[go_sem] theorem Tq (ts : List T) : Qq H call f raw ds (some ts) = (call raw f (ts.map .t) []).bind (xZ H) := (rfl)
@[go_sem] theorem Ts : Qq H call f raw ds none = I1 H call f raw [] ds := (rfl)
@[go_sem] theorem abO : GK H call f raw [] ds = Qq H call f raw ds (lZ H ds) := by
 cases h:lZ H ds with
 | none=>rfl
 | some ts=>exact IZ H call f raw ds ts h
@[go_sem] theorem adr (k : Nat) : GK H call f raw (k :: keep) ds = I1 H call f raw (k :: keep) ds := (rfl)
end
section
variable (H : aj) (keep : List Nat)
@[go_sem] theorem Wu (i : Nat) : oR H keep i [] = some [] := (rfl)
def Dq(i:Nat):List Nat→Bool
 | []=>false
 | j::r=>eqB i j||Dq i r
@[go_sem] theorem Zh (i : Nat) : Dq i [] = false := (rfl)
@[go_sem] theorem Wv (i j : Nat) (r : List Nat) : Dq i (j :: r) = (eqB i j || Dq i r) := (rfl)
theorem AA(i:Nat)(l:List Nat):l.contains i=Dq i l:=by
 induction l with
 | nil=>rfl
 | cons j r ih=>rw[List.contains_cons,ih];simp only[Dq,DY];rw[beq_eq_decide_nat]
where beq_eq_decide_nat {a b:Nat}:(a==b)=decide (a=b):=by rw[Bool.eq_iff_iff];simp
def abP(d:D):Bool→Option D
 | true=>some d
 | false=>rL H d
@[go_sem] theorem ads (d : D) : abP H d true = some d := (rfl)
@[go_sem] theorem NM (d : D) : abP H d false = rL H d := (rfl)
def adt(i:Nat)(r:List D)(x:D):Option (List D):=kG x (oR H keep (i+1) r)
@[go_sem] theorem I2 (i : Nat) (r : List D) (x : D) : adt H keep i r x = kG x (oR H keep (i + 1) r) := (rfl)
@[go_sem] theorem zG (i : Nat) (d : D) (r : List D) : oR H keep i (d :: r) = (abP H d (Dq i keep)).bind (adt H keep i r) := by
 simp only[oR,AA]
 cases Dq i keep<;>rfl
@[go_sem] theorem KX (i : Nat) : cD H keep i [] = [] := (rfl)
def frK(l:List Nat):Bool→List Nat
 | true=>[]
 | false=>l
@[go_sem] theorem aeu (l : List Nat) : frK l true = [] := (rfl)
@[go_sem] theorem Ww (l : List Nat) : frK l false = l := (rfl)
@[go_sem] theorem qs (i : Nat) (d : D) (r : List D) : cD H keep i (d :: r) = frK (eW H 8 d) (Dq i keep) ++ cD H keep (i + 1) r := by
 simp only[cD,AA]
 cases Dq i keep<;>rfl
@[go_sem] theorem Zi (H : aj) : pins H [] = H := (rfl)
@[go_sem] theorem Wx (H : aj) (i : Nat) (r : List Nat) : pins H (i :: r) = pins (H.modify i E4) r := (rfl)
def GO(i:Nat):Option Obj→aj
 | some (.arr sz _ ep es)=>H.set i (.arr sz true ep es)
 | _=>H
@[go_sem] theorem Wy (i : Nat) (cs : List D) : GO H i (some (.box cs)) = H := (rfl)
@[go_sem] theorem Wz (i sz ep : Nat) (pin : Bool) (es : List D) : GO H i (some (.arr sz pin ep es)) = H.set i (.arr sz true ep es) := (rfl)
theorem AB{α:Type}{l:List α}{i:Nat}{x:α}(h:l[i]?=some x):l.set i x=l:=by
 apply List.ext_getElem?
 intro j
 rw[List.getElem?_set]
 split
 · rename_i e;subst e
   split
   · exact h.symm
   · rename_i hl;rw[List.getElem?_eq_none (by omega)]at h;cases h
 · rfl
@[go_sem] theorem Tt (i : Nat) : List.modify H i E4 = GO H i H[i]? := by
 apply List.ext_getElem?
 intro j
 rw[List.getElem?_modify]
 cases h:H[i]? with
 | none=>
   simp only[GO]
   by_cases e:i=j
   · subst e;rw[h];simp
   · simp[e]
 | some o=>
   have hi:i<H.length:=(List.getElem?_eq_some_iff.1 h).1
   cases o with
   | box cs=>
     simp only[GO]
     by_cases e:i=j
     · subst e;rw[h];simp[E4]
     · simp[e]
   | arr sz pin ep es=>
     simp only[GO]
     rw[List.getElem?_set]
     by_cases e:i=j
     · subst e;rw[h];simp[E4,hi]
     · simp[e]
section
variable (n : Nat)
@[go_sem] theorem aev (x : T) : ids n (.t x) = [] := by cases n <;> rfl
@[go_sem] theorem abQ : ids n .nil = [] := by cases n <;> rfl
@[go_sem] theorem Zj : ids n .nilp = [] := by cases n <;> rfl
@[go_sem] theorem abR : ids n .und = [] := by cases n <;> rfl
@[go_sem] theorem adu (cs : List T) : ids n (.ep cs) = [] := by cases n <;> rfl
@[go_sem] theorem WA (id off : Nat) : ids n (.bp id off) = [id] := by cases n <;> rfl
@[go_sem] theorem adv (id ep m i off : Nat) : ids n (.ap id ep m i off) = [id] := by cases n <;> rfl
@[go_sem] theorem abS (id ep m : Nat) : ids n (.ref id ep m) = [id] := by cases n <;> rfl
@[go_sem] theorem abT (id ep m lo hi : Nat) : ids n (.sub id ep m lo hi) = [id] := by cases n <;> rfl
@[go_sem] theorem abU (cs : List D) : ids (n + 1) (.agg cs) = x7 n cs := (rfl)
@[go_sem] theorem abV (cs : List D) : ids (n + 1) (.tup cs) = x7 n cs := (rfl)
@[go_sem] theorem WB (f : Nat) (cs : List D) : ids (n + 1) (.fn f cs) = x7 n cs := (rfl)
@[go_sem] theorem L3 : x7 n [] = [] := (rfl)
@[go_sem] theorem I3 (d : D) (r : List D) : x7 n (d :: r) = ids n d ++ x7 n r := (rfl)
@[go_sem] theorem FA (ts : List T) : x7 n (ts.map .t) = [] := IX ts n
@[go_sem] theorem FB (a b : List D) : x7 n (a ++ b) = x7 n a ++ x7 n b := by simp [x7]
@[go_sem] theorem Zk (m : Nat) (x : T) : x7 n (List.replicate m (.t x)) = [] := by
 have:List.replicate m (D.t x)=(List.replicate m x).map .t:=by simp
 rw[this,FA]
end
def I4(sel:List Nat)(i:Nat):Bool→List Nat
 | true=>sel
 | false=>sel++[i]
@[go_sem] theorem Zl (sel : List Nat) (i : Nat) : I4 sel i true = sel := (rfl)
@[go_sem] theorem Zm (sel : List Nat) (i : Nat) : I4 sel i false = sel ++ [i] := (rfl)
@[go_sem] theorem Tu (sel : List Nat) : eX sel [] = sel := (rfl)
@[go_sem] theorem Qr (sel : List Nat) (i : Nat) (r : List Nat) : eX sel (i :: r) = eX (I4 sel i (Dq i sel)) r := by
 simp only[eX,AA]
 cases Dq i sel<;>rfl
def FC:Option Obj→List Nat
 | some (.box cs)=>x7 8 cs
 | some (.arr _ _ _ es)=>x7 8 es
 | none=>[]
@[go_sem] theorem Tv (cs : List D) : FC (some (.box cs)) = x7 8 cs := (rfl)
@[go_sem] theorem Tw (sz ep : Nat) (pin : Bool) (es : List D) : FC (some (.arr sz pin ep es)) = x7 8 es := (rfl)
@[go_sem] theorem WC : ot H [] = [] := (rfl)
@[go_sem] theorem Tx (i : Nat) (r : List Nat) : ot H (i :: r) = FC H[i]? ++ ot H r := by
 simp only[ot,List.flatMap_cons]
 congr 1
 cases H[i]? with
 | none=>rfl
 | some o=>cases o<;>rfl
@[go_sem] theorem abW (sel : List Nat) : reach H 0 sel = sel := (rfl)
@[go_sem] theorem abX (n : Nat) (sel : List Nat) : reach H (n + 1) sel = reach H n (eX sel (ot H sel)) := (rfl)
@[go_sem] theorem Zn : pick H [] = some [] := (rfl)
def WD(r:List Nat)(o:Obj):Option aj:=kG o (pick H r)
@[go_sem] theorem L4 (r : List Nat) (o : Obj) : WD H r o = kG o (pick H r) := (rfl)
@[go_sem] theorem I5 (i : Nat) (r : List Nat) : pick H (i :: r) = H[i]?.bind (WD H r) := (rfl)
end
section
variable (f : Nat → Option Nat) (n : Nat)
@[go_sem] theorem abY (x : T) : ren f n (.t x) = some (.t x) := by cases n <;> rfl
@[go_sem] theorem abZ : ren f n .nil = some .nil := by cases n <;> rfl
@[go_sem] theorem Zo : ren f n .nilp = some .nilp := by cases n <;> rfl
@[go_sem] theorem ab0 : ren f n .und = some .und := by cases n <;> rfl
@[go_sem] theorem adw (cs : List T) : ren f n (.ep cs) = some (.ep cs) := by cases n <;> rfl
def adx(off:Nat)(i:Nat):D:= .bp i off
@[go_sem] theorem ab1 (off i : Nat) : adx off i = .bp i off := (rfl)
@[go_sem] theorem WE (id off : Nat) : ren f n (.bp id off) = (f id).map (adx off) := by cases n <;> rfl
def ady(ep m i off:Nat)(j:Nat):D:= .ap j ep m i off
@[go_sem] theorem ab2 (ep m i off j : Nat) : ady ep m i off j = .ap j ep m i off := (rfl)
@[go_sem] theorem adz (id ep m i off : Nat) : ren f n (.ap id ep m i off) = (f id).map (ady ep m i off) := by cases n <;> rfl
def WG(ep m:Nat)(j:Nat):D:= .ref j ep m
@[go_sem] theorem Zp (ep m j : Nat) : WG ep m j = .ref j ep m := (rfl)
@[go_sem] theorem ab3 (id ep m : Nat) : ren f n (.ref id ep m) = (f id).map (WG ep m) := by cases n <;> rfl
def WH(ep m lo hi:Nat)(j:Nat):D:= .sub j ep m lo hi
@[go_sem] theorem Zq (ep m lo hi j : Nat) : WH ep m lo hi j = .sub j ep m lo hi := (rfl)
@[go_sem] theorem ab4 (id ep m lo hi : Nat) : ren f n (.sub id ep m lo hi) = (f id).map (WH ep m lo hi) := by cases n <;> rfl
@[go_sem] theorem WI (g : Nat) (cs : List D) : ren f (n + 1) (.fn g cs) = (bO (ren f n) cs).map (.fn g) := (rfl)
@[go_sem] theorem ab5 (cs : List D) : ren f (n + 1) (.agg cs) = (bO (ren f n) cs).map .agg := (rfl)
@[go_sem] theorem ab6 (cs : List D) : ren f (n + 1) (.tup cs) = (bO (ren f n) cs).map .tup := (rfl)
@[go_sem] theorem rq (ts : List T) : bO (ren f n) (ts.map .t) = some (ts.map .t) := by
 induction ts with
 | nil=>rfl
 | cons t ts ih=>rw[List.map_cons,B6,abY,Option.bind_some,PS,ih];rfl
@[go_sem] theorem NN (m : Nat) (x : T) : bO (ren f n) (List.replicate m (.t x)) = some (List.replicate m (.t x)) := by
 have:List.replicate m (D.t x)=(List.replicate m x).map .t:=by simp
 rw[this,rq]
@[go_sem] theorem GP (cs : List D) : gE f (.box cs) = (bO (ren f 8) cs).map .box := (rfl)
@[go_sem] theorem Ty (sz ep : Nat) (pin : Bool) (es : List D) : gE f (.arr sz pin ep es) = (bO (ren f 8) es).map (.arr sz pin ep) := (rfl)
end
def Tz(x:Option Nat):Bool→Option Nat
 | true=>some 0
 | false=>x.map (· +1)
@[go_sem] theorem adA (x : Option Nat) : Tz x true = some 0 := (rfl)
@[go_sem] theorem adB (k : Nat) : Tz (some k) false = some (k + 1) := (rfl)
@[go_sem] theorem adC : Tz none false = none := (rfl)
@[go_sem] theorem idxOf_nil (i : Nat) : idxOf [] i = none := (rfl)
@[go_sem] theorem idxOf_cons (j i : Nat) (r : List Nat) : idxOf (j :: r) i = Tz (idxOf r i) (eqB j i) := by
 simp only[idxOf,DY]
 by_cases h:j=i
 · simp[h,Tz]
 · simp[h,Tz]
@[go_sem] theorem TA (n i : Nat) : et [] n i = some (n + i) := by simp [et]
@[go_sem] theorem Zr (j n : Nat) (r : List Nat) : et (j :: r) n 0 = some j := by simp [et]
@[go_sem] theorem Zs (j n i : Nat) (r : List Nat) : et (j :: r) n (i + 1) = et r n i := by
 simp only[et,List.length_cons,Nat.add_lt_add_iff_right,List.getElem?_cons_succ,Nat.add_sub_add_right]
@[go_sem] theorem Qs {α : Type} (H os : List α) : de H [] os = H := by cases os <;> rfl
@[go_sem] theorem NQ {α : Type} (H : List α) (i : Nat) (r : List Nat) (o : α) (os : List α) : de H (i :: r) (o :: os) = de (H.set i o) r os := (rfl)
def lbP(sz:Nat)(p:List D×aj):List D×aj:=(p.1,.arr sz false 0 []::p.2)
@[go_sem] theorem adD (sz : Nat) (cs : List D) (os : aj) : lbP sz (cs, os) = (cs, .arr sz false 0 [] :: os) := (rfl)
def lbC(base:Nat)(cs:List D)(off sz:Nat)(r:List (Nat×Nat)):Option D→List D×aj
 | some .nil=>lbP sz (bP (base+1) (cs.set off (.ref base 0 0)) r)
 | _=>bP base cs r
@[go_sem] theorem ab7 (base : Nat) (cs : List D) (off sz : Nat) (r : List (Nat × Nat)) : lbC base cs off sz r (some .nil) = lbP sz (bP (base + 1) (cs.set off (.ref base 0 0)) r) := (rfl)
@[go_sem] theorem aew (base : Nat) (cs : List D) (off sz : Nat) (r : List (Nat × Nat)) (x : T) : lbC base cs off sz r (some (.t x)) = bP base cs r := (rfl)
@[go_sem] theorem ab8 (base : Nat) (cs : List D) (off sz : Nat) (r : List (Nat × Nat)) (a b c : Nat) : lbC base cs off sz r (some (.ref a b c)) = bP base cs r := (rfl)
@[go_sem] theorem NR (base : Nat) (cs : List D) (off sz : Nat) (r : List (Nat × Nat)) : bP base cs ((off, sz) :: r) = lbC base cs off sz r cs[off]? := by
 simp only[bP,lbC]
 split<;>split<;>simp_all [lbP]
def lvP(H:aj)(id:Nat)(p:List D×aj):Option (D×aj):=some (.tup [],H.set id (.box p.1)++p.2)
@[go_sem] theorem adE (H : aj) (id : Nat) (cs : List D) (os : aj) : lvP H id (cs, os) = some (.tup [], H.set id (.box cs) ++ os) := (rfl)
def lvB(H:aj)(id:Nat)(l:List (Nat×Nat)):Option Obj→Option (D×aj)
 | some (.box cs)=>lvP H id (bP H.length cs l)
 | _=>none
@[go_sem] theorem adF (H : aj) (id : Nat) (l : List (Nat × Nat)) (cs : List D) : lvB H id l (some (.box cs)) = lvP H id (bP H.length cs l) := (rfl)
@[go_sem] theorem Qt (H : aj) (id : Nat) (x : Nat × Nat) (r : List (Nat × Nat)) : zE H id (x :: r) = lvB H id (x :: r) H[id]? := by
 simp only[zE,oS]
 generalize H[id]?=o
 rcases o with _ | (cs | _)
 · rfl
 · rfl
 · rfl
section
variable (H : aj)
def klE(n:Nat)(sel new:List Nat)(os:aj)(q:List Nat×aj):Option (List Nat×aj):=some (new++q.1,os++q.2)
@[go_sem] theorem adG (n : Nat) (sel new : List Nat) (os : aj) (a : List Nat) (b : aj) : klE n sel new os (a, b) = some (new ++ a, os ++ b) := (rfl)
def klD(n:Nat)(sel new:List Nat)(os:aj):Option (List Nat×aj):=(kZ H n (sel++new) (ot H new)).bind (klE n sel new os)
@[go_sem] theorem adH (n : Nat) (sel new : List Nat) (os : aj) : klD H n sel new os = (kZ H n (sel ++ new) (ot H new)).bind (klE n sel new os) := (rfl)
def vV(sel:List Nat):List Nat→Bool
 | []=>true
 | i::r=> !Dq i sel&&vV sel r
@[go_sem] theorem TC (sel : List Nat) : vV sel [] = true := (rfl)
@[go_sem] theorem Qu (sel : List Nat) (i : Nat) (r : List Nat) : vV sel (i :: r) = (!Dq i sel && vV sel r) := (rfl)
theorem Cc(sel l:List Nat):l.all (fun i=> !sel.contains i)=vV sel l:=by
 induction l with
 | nil=>rfl
 | cons i r ih=>rw[List.all_cons,ih,AA];rfl
def klC(n:Nat)(sel new:List Nat)(os:aj):Option (List Nat×aj):=
 (if n=0 then(if(os.flatMap fun o=>o.ds.flatMap (eW H depth)).all (fun i=> !(sel++new).contains i)then bO (dZ H) os else none)else some os).bind (klD H n sel new)
def tR:aj→List Nat
 | []=>[]
 | .box cs::r=>qe H 8 cs++tR r
 | .arr _ _ _ es::r=>qe H 8 es++tR r
@[go_sem] theorem TD : tR H [] = [] := (rfl)
@[go_sem] theorem TE (cs : List D) (r : aj) : tR H (.box cs :: r) = qe H 8 cs ++ tR H r := (rfl)
@[go_sem] theorem TF (sz ep : Nat) (pin : Bool) (es : List D) (r : aj) : tR H (.arr sz pin ep es :: r) = qe H 8 es ++ tR H r := (rfl)
theorem I6(os:aj):(os.flatMap fun o=>o.ds.flatMap (eW H depth))=tR H os:=by
 induction os with
 | nil=>rfl
 | cons o r ih=>rw[List.flatMap_cons,ih];cases o<;>rfl
@[go_sem] theorem aex (sel new : List Nat) (os : aj) : klC H 0 sel new os = (if vV (sel ++ new) (tR H os) = true then bO (dZ H) os else none).bind (klD H 0 sel new) := by
 simp only[klC,I6,Cc,if_true]
@[go_sem] theorem aey (n : Nat) (sel new : List Nat) (os : aj) : klC H (n + 1) sel new os = klD H (n + 1) sel new os := by
 simp[klC]
def klN(n:Nat)(sel new:List Nat):Option (List Nat×aj):=(pick H new).bind (klC H n sel new)
@[go_sem] theorem adI (n : Nat) (sel new : List Nat) : klN H n sel new = (pick H new).bind (klC H n sel new) := (rfl)
@[go_sem] theorem Zt (sel front : List Nat) : kZ H 0 sel front = some ([], []) := (rfl)
@[go_sem] theorem Zu (n : Nat) (sel front : List Nat) : kZ H (n + 1) sel front = klN H n sel ((eX sel front).drop sel.length) := by
 simp only[kZ,klN]
 generalize (eX sel front).drop sel.length=new
 cases pick H new with
 | none=>rfl
 | some os=>
   simp only[Option.bind_some,klC]
   congr 1
   funext os'
   simp only[klD]
   cases kZ H n (sel++new) (ot H new)<;>rfl
@[go_sem] theorem L5 (cs : List D) : dZ H (.box cs) = (bO (rL H) cs).map .box := (rfl)
@[go_sem] theorem AD (sz ep : Nat) (pin : Bool) (ts : List T) : dZ H (.arr sz pin ep (ts.map .t)) = some (.arr sz pin ep (ts.map .t)) := by
 simp only[dZ,tQ,Option.map_some]
@[go_sem] theorem L6 (sz ep : Nat) (pin : Bool) : dZ H (.arr sz pin ep []) = some (.arr sz pin ep []) := (rfl)
@[go_sem] theorem L7 (sz ep : Nat) (pin : Bool) (m : Nat) (x : T) : dZ H (.arr sz pin ep (List.replicate m (.t x))) = some (.arr sz pin ep (List.replicate m (.t x))) := by
 have:List.replicate m (D.t x)=(List.replicate m x).map .t:=by simp
 rw[this,AD]
def ab9(k raw:Nat)(H:aj)(ds rs:List D)(q:List Nat×aj):Option (D×aj):=
 if vV (List.range k++q.1) (iC H raw ds)=true then
  (bO (ren (idxOf (List.range k++q.1)) depth) rs).bind fun rs'=>(bO (gE (idxOf (List.range k++q.1))) (H.take k++q.2)).map fun hs'=>(te rs',hs')
 else none
def I7(sel:List Nat)(H2:aj)(rs':List D):Option (D×aj):=(bO (gE (idxOf sel)) H2).bind (finT3 rs')
where finT3 (rs':List D) (hs:aj):Option (D×aj):=some (te rs',hs)
@[go_sem] theorem Zv (rs' : List D) (hs : aj) : I7.finT3 rs' hs = some (te rs', hs) := (rfl)
@[go_sem] theorem Zw (sel : List Nat) (H2 : aj) (rs' : List D) : I7 sel H2 rs' = (bO (gE (idxOf sel)) H2).bind (I7.finT3 rs') := (rfl)
@[go_sem] theorem aca (k raw : Nat) (ds rs : List D) (sel : List Nat) (os : aj) : ab9 k raw H ds rs (sel, os) =
 if vV (List.range k++sel) (iC H raw ds)=true then(bO (ren (idxOf (List.range k++sel)) 8) rs).bind (I7 (List.range k++sel) (H.take k++os))else none:=by
 simp only[ab9,depth]
 split
 · cases bO (ren (idxOf (List.range k++sel)) 8) rs with
   | none=>rfl
   | some rs'=>simp only[Option.bind_some,I7];cases bO (gE (idxOf (List.range k++sel))) (H.take k++os)<;>rfl
 · rfl
@[go_sem] theorem acb (k raw : Nat) (ds rs : List D) : Ze k raw H ds rs = (kZ H (max raw 1) (List.range k) (x7 8 rs ++ ot H (List.range k))).bind (ab9 k raw H ds rs) := by
 simp only[Ze,Cc,x7,depth];rfl
@[go_sem] theorem TG (k raw : Nat) (ds rs : List D) : To k raw H ds rs false = Ze k raw H ds rs := (rfl)
@[go_sem] theorem TH (k raw : Nat) (ds : List D) : finish k (raw + 1) H ds = Wm k (raw + 1) H ds ds := by
 simp only[finish,Nat.add_one_ne_zero,if_false,Option.bind_some,mh,Fw,Wm,To]
 show(if(fB k 8 ds&&fG k (H.take k))=true then _ else _)=_
 cases (fB k 8 ds&&fG k (H.take k))<;>rfl
@[go_sem] theorem Qv (raw : Nat) (ds : List D) : iC H (raw + 1) ds = [] := by simp [iC]
@[go_sem] theorem Zx : max 0 1 = 1 := (rfl)
@[go_sem] theorem acd (r : Nat) : max (r + 1) 1 = r + 1 := by omega
@[go_sem] theorem TI : List.range 0 = [] := (rfl)
@[go_sem] theorem TJ : List.range 1 = [0] := (rfl)
@[go_sem] theorem TK : List.range 2 = [0, 1] := (rfl)
@[go_sem] theorem TL : List.range 3 = [0, 1, 2] := (rfl)
@[go_sem] theorem TM : List.range 4 = [0, 1, 2, 3] := (rfl)
end
theorem FD{α:Type}(f:α→T)(l:List α)(i:Nat)(x:α)(y:D)(h:y= .t (f x)):((l.map f).map D.t).set i y=((l.set i x).map f).map D.t:=by
 rw[h,List.map_map,List.map_map]
 exact(List.map_set (f:=D.t ∘ f)).symm
@[go_sem] theorem ace (l : List Int) (i : Nat) (k : IntKind) (x : Int) : ((l.map (T.int k)).map D.t).set i (.t (.int k x)) = ((l.set i x).map (T.int k)).map D.t := FD _ l i x _ rfl
@[go_sem] theorem Zy (l : List Bool) (i : Nat) (x : Bool) : ((l.map T.bool).map D.t).set i (.t (.bool x)) = ((l.set i x).map T.bool).map D.t := FD _ l i x _ rfl
end Go.Ev
namespace Go.Ev
class Lib where
 fs:Nat→Option Fn
end Go.Ev
namespace Go.Ev.K
abbrev u(x:O):R:={ o:=x}
abbrev w(n:Nat)(x:O):R:={ o:=x,d:=some n}
abbrev y(n:Nat)(b:Bool)(x:O):R:={ o:=x,g:=some (n,b)}
abbrev m(x:X):R:={ o:= .mv x}
abbrev g(x:X):R:={ o:= .ld x 1 false}
abbrev h(n:Nat)(x:X):R:={ o:= .ld x n true}
abbrev f(n:Nat)(x:X):R:={ o:= .fa x n}
abbrev a(n:Nat)(x z:X):R:={ o:= .ia x z n}
abbrev l0:X:= .l 0
abbrev l1:X:= .l 1
abbrev l2:X:= .l 2
abbrev l3:X:= .l 3
abbrev l4:X:= .l 4
abbrev l5:X:= .l 5
abbrev l6:X:= .l 6
abbrev l7:X:= .l 7
abbrev l8:X:= .l 8
abbrev l9:X:= .l 9
abbrev l10:X:= .l 10
abbrev l11:X:= .l 11
abbrev v0:X:= .v 0
abbrev v1:X:= .v 1
abbrev v2:X:= .v 2
abbrev v3:X:= .v 3
abbrev v4:X:= .v 4
abbrev v5:X:= .v 5
abbrev v6:X:= .v 6
abbrev v7:X:= .v 7
abbrev v8:X:= .v 8
abbrev v9:X:= .v 9
abbrev v10:X:= .v 10
abbrev v11:X:= .v 11
abbrev v12:X:= .v 12
abbrev v13:X:= .v 13
abbrev v14:X:= .v 14
abbrev v15:X:= .v 15
abbrev v16:X:= .v 16
abbrev v17:X:= .v 17
abbrev v18:X:= .v 18
abbrev v19:X:= .v 19
abbrev v20:X:= .v 20
abbrev v21:X:= .v 21
abbrev v22:X:= .v 22
abbrev v23:X:= .v 23
end Go.Ev.K
namespace Go.Ev.N
def D0:Nat:=0
def gT:Nat:=1
def Qw:Nat:=2
def jd:Nat:=3
def cB:Nat:=4
def TN:Nat:=5
def HX:Nat:=6
def I8:Nat:=7
def bX:Nat:=8
def aB:Nat:=9
def dm:Nat:=10
def GQ:Nat:=11
def iF:Nat:=12
def KY:Nat:=13
def I9:Nat:=14
def dz:Nat:=15
def bU:Nat:=16
def Qx:Nat:=17
def NS:Nat:=18
def dg:Nat:=19
def bq:Nat:=20
def fO:Nat:=21
def dF:Nat:=22
def jx:Nat:=23
def NT:Nat:=24
def Ja:Nat:=25
def KZ:Nat:=26
def K0:Nat:=27
def dA:Nat:=28
def Qy:Nat:=29
def je:Nat:=30
def Qz:Nat:=31
def TO:Nat:=32
def QA:Nat:=33
def NU:Nat:=34
def ec:Nat:=35
def dL:Nat:=36
def dM:Nat:=37
def cu:Nat:=38
def bz:Nat:=39
def gU:Nat:=40
def dN:Nat:=41
def gV:Nat:=42
def dO:Nat:=43
def cM:Nat:=44
def gP:Nat:=45
def cN:Nat:=46
def b9:Nat:=47
def K1:Nat:=48
def az:Nat:=49
def GR:Nat:=50
def aM:Nat:=51
def HY:Nat:=52
def dw:Nat:=53
def gp:Nat:=54
def TP:Nat:=55
def dn:Nat:=56
def fm:Nat:=57
def dP:Nat:=58
def gq:Nat:=59
def eD:Nat:=60
def cQ:Nat:=61
def cC:Nat:=62
def gr:Nat:=63
def cy:Nat:=64
def eE:Nat:=65
def bh:Nat:=66
def bE:Nat:=67
def bN:Nat:=68
def ak:Nat:=69
def bk:Nat:=70
def eu:Nat:=71
def dQ:Nat:=72
def dh:Nat:=73
def gu:Nat:=74
def aD:Nat:=75
def bV:Nat:=76
def gW:Nat:=77
end Go.Ev.N
namespace Go.Ev.K
open Go.Ev
def gT:Fn:={ nargs:=1,vars:=[0,2],body:=(.seq (.reg [w 1 (.mv (.b false))] []) (.seq (.reg [m v0,u (.ln l0),u (.bin .leq l0 (.i 400)),w 1 (.mv l0)] []) .ret)),res:=[(1,none)]}
def jd:Fn:={ nargs:=1,vars:=[0,2],body:=(.seq (.reg [w 1 (.mv (.c (.nilp)))] []) (.seq (.reg [m v0,u (.bd [.nil,.t (.int .i64 (0))] [(0,1,.l 0)]),u (.bx l0 2),w 1 (.mv l0)] []) .ret)),res:=[(1,none)]}
def iq:C:=(.seq (.ite [m v4,m v3,u (.bin .lss l1 l0)] [] 0 .skip (.exit 0)) (.seq (.blk 1 (.reg [f 0 v2,g l0,m v0,u (.ca N.aB 0 [] [.l 0,.i 4]),u (.bin .mul (.i (-10)) l0),m v4,u (.bin .eql l0 (.i 0)),m l0,y 0 false (.mv v0),y 1 false (.ca N.dz 0 [] [.l 0,.i 6]),u (.pk l2 (.b true) l0),u (.bd [.t (.int .i64 (0)),.t (.bool false)] [(0,1,.l 6),(1,1,.l 0)]),u (.bs [.l 0] 2),u (.app l11 l0 true 2),f 0 v2,u (.st l0 l1 1 [])] [(1,4),(1,10),(1,13)])) (.reg [m v4,u (.bin .add l0 (.i 1)),w 4 (.mv l0)] [])))
def oy:C:= .loop true [5,6,7,8,9] K.iq
def j5:C:=(.seq (.ite [m v6,m v3,u (.bin .lss l1 l0)] [] 0 .skip (.exit 2)) (.seq (.blk 3 (.seq (.reg [h 10 v5,w 7 (.al [.t (.int .i64 (0)),.t (.int .i64 (0)),.t (.int .i64 (0)),.t (.int .i64 (0)),.t (.bool false),.t (.bool false),.t (.int .i64 (0)),.t (.int .i64 (0)),.t (.int .i64 (0)),.t (.int .i64 (0))] []),u (.st l0 l1 10 [])] []) (.seq (.reg [m v6,u (.bin .sub l0 (.i 1)),m v0,m v6,u (.mn [.l 0,.i 2]),u (.ca N.aB 0 [] [.l 2,.l 0]),u (.bin .sub l4 l0),m v6,m v0,u (.bs [.i 11,.i 59,.i 119,.i 4] 1),u (.ca N.dm 0 [] [.l 1,.l 0]),u (.bin .add (.i 1) l0),m v0,u (.bs [.i 9,.i 3,.i 19] 1),u (.ca N.dm 0 [] [.l 1,.l 0]),u (.bin .add (.i 1) l0),f 0 v7,u (.st l0 l10 1 []),f 1 v7,u (.st l0 l11 1 []),f 2 v7,u (.st l0 l9 1 []),f 3 v7,u (.st l0 l7 1 [])] []) (.reg [f 1 v2,g l0,h 10 v7,u (.bs [.l 0] 10),u (.app l2 l0 true 10),f 1 v2,u (.st l0 l1 1 [])] [])))) (.reg [m v6,u (.bin .add l0 (.i 1)),w 6 (.mv l0)] [])))
def oz:C:= .loop true [4,7,8,9] K.j5
def dB:C:=(.seq (.ite [m v8,u (.bin .gtr l0 (.i 0)),m l0,y 0 true (.fa v2 1),y 1 true (.ld l0 1 false),y 2 true (.ln l0),y 3 true (.bin .lss l0 (.i 10)),u (.pk l4 l0 (.b false))] [] 0 .skip (.exit 4)) (.seq (.blk 5 (.seq (.reg [h 10 v5,w 9 (.al [.t (.int .i64 (0)),.t (.int .i64 (0)),.t (.int .i64 (0)),.t (.int .i64 (0)),.t (.bool false),.t (.bool false),.t (.int .i64 (0)),.t (.int .i64 (0)),.t (.int .i64 (0)),.t (.int .i64 (0))] []),u (.st l0 l1 10 [])] []) (.seq (.reg [m v0,m v3,u (.ca N.aB 0 [] [.l 1,.l 0]),m v0,m v3,u (.ca N.aB 0 [] [.l 1,.l 0]),m v0,u (.bs [.i 11,.i 59,.i 199] 1),u (.ca N.dm 0 [] [.l 1,.l 0]),u (.bin .add (.i 1) l0),m v0,u (.bs [.i 9,.i 3] 1),u (.ca N.dm 0 [] [.l 1,.l 0]),u (.bin .add (.i 1) l0),f 0 v9,u (.st l0 (.l 12) 1 []),f 1 v9,u (.st l0 l11 1 []),f 2 v9,u (.st l0 l9 1 []),f 3 v9,u (.st l0 l7 1 [])] []) (.seq (.reg [m v0,u (.ca N.aB 0 [] [.l 0,.i 5]),u (.bin .gtr l0 (.i 0)),m v0,u (.ca N.dz 0 [] [.l 0,.i 6]),f 4 v9,u (.st l0 l3 1 []),f 5 v9,u (.st l0 l3 1 [])] []) (.ite [f 0 v9,g l0,f 1 v9,g l0,u (.bin .neq l2 l0)] [] 0 (.reg [f 1 v2,g l0,h 10 v9,u (.bs [.l 0] 10),u (.app l2 l0 true 10),f 1 v2,u (.st l0 l1 1 [])] []) .skip))))) (.reg [m v8,u (.bin .sub l0 (.i 1)),w 8 (.mv l0)] [])))
def oA:C:= .loop true [4,6,7,9] K.dB
def cB:Fn:={ nargs:=1,vars:=[0,2,3,4,5,6,7,8,9,10],body:=(.seq (.reg [w 1 (.al [.nil,.nil] [])] []) (.seq (.reg [w 2 (.al [.nil,.nil] [(0,2),(1,10)])] []) (.seq (.reg [m v0,u (.ca N.aB 0 [] [.l 0,.i 6]),u (.bin .add (.i 2) l0),w 3 (.mv l0)] []) (.seq (.ite [m v0,u (.nc l0),f 0 l0,g l0,u (.ln l0),u (.bin .eql l0 (.i 0))] [] 0 (.reg [w 3 (.mv (.i 4))] []) .skip) (.seq (.seq (.reg [w 4 (.mv (.i 0))] []) (.blk 0 K.oy)) (.seq (.reg [u (.bd [.t (.int .i64 (0)),.t (.int .i64 (0))] [(0,1,.i 1),(1,1,.i 1)]),u (.bd [.t (.int .i64 (0)),.t (.int .i64 (0)),.t (.int .i64 (0)),.t (.int .i64 (0)),.t (.bool false),.t (.bool false),.t (.int .i64 (0)),.t (.int .i64 (0)),.t (.int .i64 (0)),.t (.int .i64 (0))] [(2,1,.i 12),(3,1,.i 10),(4,1,.b true),(6,2,.l 0)]),w 5 (.al [.t (.int .i64 (0)),.t (.int .i64 (0)),.t (.int .i64 (0)),.t (.int .i64 (0)),.t (.bool false),.t (.bool false),.t (.int .i64 (0)),.t (.int .i64 (0)),.t (.int .i64 (0)),.t (.int .i64 (0))] []),u (.st l0 l1 10 [])] []) (.seq (.seq (.reg [w 6 (.mv (.i 1))] []) (.blk 2 K.oz)) (.seq (.seq (.reg [m v0,u (.ca N.aB 0 [] [.l 0,.i 4]),w 8 (.mv l0)] []) (.blk 4 K.oA)) (.seq (.reg [h 2 v2,u (.st v1 l0 2 [])] []) .ret))))))))),res:=[(1,some (2,true))]}
def iY:C:=(.seq (.ite [m v7,m v4,u (.bin .lss l1 l0)] [] 0 .skip (.exit 0)) (.seq (.blk 1 (.reg [m v5,m v7,u (.bin .mul l0 (.i 2)),u (.bin .add (.i 3) l0),u (.bs [.l 0] 1),u (.app l4 l0 true 1),m v6,m v0,f 0 v2,g l0,u (.ln l0),u (.ca N.aB 0 [] [.l 3,.l 0]),u (.bs [.l 0] 1),u (.app l6 l0 true 1),w 5 (.mv l8),w 6 (.mv l1)] [(9,0),(9,5)])) (.reg [m v7,u (.bin .add l0 (.i 1)),w 7 (.mv l0)] [])))
def mA:C:= .loop true [1,8,9,10,11,12,13,14,15,16,17] K.iY
def bA:C:=(.seq (.ite [m v10,u (.bin .gtr l0 (.i 0))] [] 0 .skip (.exit 2)) (.seq (.blk 3 (.seq (.reg [m v9,m v0,u (.ca N.aB 0 [] [.l 0,.i 60]),u (.bin .add l2 l0),w 9 (.mv l0)] []) (.seq (.reg [m v0,w 17 (.ca N.aB 0 [] [.l 0,.i 3])] []) (.blk 4 (.ite [u (.bin .eql v17 (.i 0)),m l0] [] 0 (.seq (.reg [w 11 (.al [.nil] []),h 2 v2,h 1 v8,m v0,m v4,u (.ca N.aB 0 [] [.l 1,.l 0]),m v0,m v4,u (.ca N.aB 0 [] [.l 1,.l 0]),m v9,u (.ca N.bq 0 [] [.l 8,.l 7,.l 4,.l 1,.l 0]),m l0,u (.ex l0 0),u (.ex l1 1),u (.st (.l 13) l1 1 []),w 12 (.mv l1)] [(0,6),(0,9),(0,11),(1,6),(1,9),(2,6),(2,9)]) (.ite [m v12,u (.bin .eql l0 (.i 0))] [] 0 (.reg [h 1 v11,u (.st v8 l0 1 [])] []) .skip)) (.ite [u (.bin .eql v17 (.i 1)),m l0] [] 0 (.seq (.reg [w 13 (.al [.nil] []),h 2 v2,h 1 v8,m v0,m v4,u (.ca N.aB 0 [] [.l 1,.l 0]),u (.bin .mul (.i 2) l0),u (.bin .add (.i 3) l0),m v0,f 0 v2,g l0,u (.ln l0),u (.ca N.bU 0 [] [.l 3,.l 0]),m v9,m v9,m v0,u (.ca N.aB 0 [] [.l 0,.i 9]),u (.bin .add l2 l0),u (.ca N.fO 0 [] [.l 16,.l 15,.l 10,.l 5,.l 4,.l 0]),m l0,u (.ex l0 0),u (.ex l1 1),u (.st (.l 21) l1 1 []),w 14 (.mv l1)] [(0,6),(0,13),(0,17),(0,19),(1,6),(1,13),(1,17),(2,6),(2,13),(2,17),(10,1)]) (.ite [m v14,u (.bin .eql l0 (.i 0))] [] 0 (.reg [h 1 v13,u (.st v8 l0 1 [])] []) .skip)) (.seq (.reg [w 15 (.al [.nil] []),h 2 v2,h 1 v8,m v0,m v4,u (.ca N.aB 0 [] [.l 1,.l 0]),u (.bin .mul (.i 2) l0),u (.bin .add (.i 3) l0),m v0,f 0 v2,g l0,u (.ln l0),u (.ca N.bU 0 [] [.l 3,.l 0]),m v9,m v9,u (.bin .add l0 (.i 50)),m v0,u (.ca N.aB 0 [] [.l 0,.i 40]),u (.ca N.dF 0 [3] [.l 16,.l 15,.l 10,.l 5,.l 4,.l 2,.l 0]),m l0,u (.ex l0 0),u (.ex l1 1),u (.st (.l 21) l1 1 []),w 16 (.mv l1)] [(0,6),(0,13),(0,18),(0,19),(1,6),(1,13),(1,18),(2,6),(2,13),(2,18),(10,1)]) (.ite [m v16,u (.bin .eql l0 (.i 0))] [] 0 (.reg [h 1 v15,u (.st v8 l0 1 [])] []) .skip)))))))) (.reg [m v10,u (.bin .sub l0 (.i 1)),w 10 (.mv l0)] [])))
def mB:C:= .loop true [1,5,6,7,11,12,13,14,15,16,17] K.bA
def bX:Fn:={ nargs:=2,vars:=[0,1,3,4,5,6,7,8,9,11,12,13,14,15,16,17,18,61],body:=(.seq (.reg [w 2 (.bx v1 2),w 3 (.al [.nil] [])] []) (.seq (.reg [m v0,u (.ca N.aB 0 [] [.l 0,.i 3]),u (.bin .add (.i 1) l0),w 4 (.mv l0)] []) (.seq (.reg [w 5 (.nw 1),w 6 (.nw 1)] []) (.seq (.seq (.reg [w 7 (.mv (.i 0))] []) (.blk 0 K.mA)) (.seq (.reg [w 8 (.al [.nil] []),h 2 v2,m v5,m v6,m v0,u (.ca N.aB 0 [] [.l 0,.i 100]),u (.ca N.dg 0 [] [.l 4,.l 3,.l 2,.l 0]),m l0,u (.ex l0 0),u (.ex l1 1),u (.st l9 l1 1 []),m l1] [(0,6),(0,7),(1,6)]) (.seq (.reg [w 9 (.mv (.i 100))] []) (.seq (.seq (.reg [m v0,u (.ca N.aB 0 [] [.l 0,.i 5]),w 10 (.mv l0)] []) (.blk 2 K.mB)) (.seq (.reg [h 1 v8,u (.st v3 l0 1 [])] []) .ret)))))))),res:=[(3,some (1,true))]}
def aB:Fn:={ nargs:=2,vars:=[0,1,4],body:=(.seq (.reg [w 2 (.mv (.i 0))] []) (.seq (.ite [m v0,u (.nc l0),f 1 l0,g l0,m v0,u (.nc l0),f 0 l0,g l0,u (.ln l0),u (.bin .geq l5 l0)] [] 0 (.seq (.reg [w 2 (.mv (.i 0))] []) .ret) .skip) (.seq (.reg [m v0,u (.nc l0),f 1 l0,g l0,u (.bin .add l0 (.i 1)),u (.nc l4),f 1 l0,u (.st l0 l2 1 [])] []) (.seq (.reg [m v0,u (.nc l0),f 0 l0,g l0,m v0,u (.nc l0),f 1 l0,g l0,u (.bin .sub l0 (.i 1)),a 1 l5 l0,g l0,m v1,u (.ca N.jx 0 [] [.l 1,.l 0]),w 2 (.mv l0)] []) .ret)))),res:=[(2,none)]}
def dm:Fn:={ nargs:=2,vars:=[0,1,4],body:=(.seq (.reg [w 2 (.mv (.i 0))] []) (.seq (.reg [m v1,m v0,m v1,u (.ln l0),u (.ca N.aB 0 [] [.l 2,.l 0]),a 1 l4 l0,g l0,w 2 (.mv l0)] []) .ret)),res:=[(2,none)]}
def ma:C:=(.seq (.ite [m v3,m v0,u (.ln l0),u (.bin .lss l2 l0)] [] 0 .skip (.exit 0)) (.seq (.blk 1 (.ite [m v0,m v3,a 1 l1 l0,g l0,m v1,u (.bin .eql l1 l0)] [] 0 (.seq (.reg [w 2 (.mv (.b true))] []) .ret) .skip)) (.reg [m v3,u (.bin .add l0 (.i 1)),w 3 (.mv l0)] [])))
def vW:C:= .loop true [2] K.ma
def iF:Fn:={ nargs:=2,vars:=[0,1,4,5],body:=(.seq (.reg [w 2 (.mv (.b false))] []) (.seq (.seq (.reg [w 3 (.mv (.i 0))] []) (.blk 0 K.vW)) (.seq (.reg [w 2 (.mv (.b false))] []) .ret))),res:=[(2,none)]}
def dz:Fn:={ nargs:=2,vars:=[0,1,4],body:=(.seq (.reg [w 2 (.mv (.b false))] []) (.seq (.reg [m v0,m v1,u (.ca N.aB 0 [] [.l 1,.l 0]),m v1,u (.bin .sub l0 (.i 1)),u (.bin .eql l2 l0),w 2 (.mv l0)] []) .ret)),res:=[(2,none)]}
def ir:C:=(.seq (.ite [m v4,m v1,u (.bin .lss l1 l0)] [] 0 .skip (.exit 0)) (.seq (.blk 1 (.ite [m v0,u (.ca N.aB 0 [] [.l 0,.i 3]),u (.bin .eql l0 (.i 0))] [] 0 (.reg [m v3,m v4,u (.bs [.l 0] 1),u (.app l2 l0 true 1),w 3 (.mv l0)] []) .skip)) (.reg [m v4,u (.bin .add l0 (.i 1)),w 4 (.mv l0)] [])))
def oB:C:= .loop true [2] K.ir
def bU:Fn:={ nargs:=2,vars:=[0,1,4,5,6],body:=(.seq (.reg [w 2 (.mv (.c (.nil)))] []) (.seq (.reg [w 3 (.nw 1)] []) (.seq (.seq (.reg [w 4 (.mv (.i 0))] []) (.blk 0 K.oB)) (.seq (.reg [m v3,w 2 (.mv l0)] []) .ret)))),res:=[(2,none)]}
def j6:C:=(.seq (.ite [m v8,m v1,u (.ln l0),u (.bin .lss l2 l0)] [] 0 .skip (.exit 0)) (.seq (.blk 1 (.seq (.reg [w 9 (.al [.t (.int .i64 (0)),.nil] []),h 2 v4,m v2,m v8,a 1 l1 l0,g l0,m v3,u (.ca N.dL 0 [] [.l 5,.l 1,.l 0]),m l0,u (.ex l0 0),u (.ex l1 1),u (.st l10 l1 2 []),w 10 (.mv l1)] [(0,8)]) (.seq (.ite [m v10,u (.bin .neq l0 (.i 0))] [] 0 (.seq (.reg [u (.bd [.nil] []),m v10,u (.st v5 l1 1 []),w 6 (.mv l1)] []) .ret) .skip) (.reg [f 1 v7,g l0,h 2 v9,u (.bs [.l 0] 2),u (.app l2 l0 true 2),f 1 v7,u (.st l0 l1 1 [])] [])))) (.reg [m v8,u (.bin .add l0 (.i 1)),w 8 (.mv l0)] [])))
def rR:C:= .loop true [0,6,9,10] K.j6
def dg:Fn:={ nargs:=4,vars:=[0,1,2,3,4,8,9,10,11,12,13],body:=(.seq (.reg [w 4 (.bx v0 2),w 5 (.al [.nil] []),w 6 (.mv (.i 0))] []) (.seq (.ite [h 2 v4,u (.ca N.dA 0 [] [.l 0]),u (.bin .neq l0 (.i 0)),m l0,y 0 false (.mv v1),y 1 false (.ln l0),y 2 false (.mv v2),y 3 false (.ln l0),y 4 false (.bin .neq l2 l0),u (.pk l5 (.b true) l0),m l0,y 0 false (.mv v1),y 1 false (.ln l0),y 2 false (.bin .lss l0 (.i 1)),u (.pk l3 (.b true) l0),m l0,y 0 false (.mv v1),y 1 false (.ln l0),y 2 false (.bin .gtr l0 (.i 12)),u (.pk l3 (.b true) l0)] [] 0 (.seq (.reg [u (.bd [.nil] []),u (.st v5 l0 1 []),w 6 (.mv (.i 6))] []) .ret) .skip) (.seq (.ite [m v1,u (.ca N.ec 0 [] [.l 0]),u (.un .not l0)] [] 0 (.seq (.reg [u (.bd [.nil] []),u (.st v5 l0 1 []),w 6 (.mv (.i 41))] []) .ret) .skip) (.seq (.reg [m v1,u (.app (.c (.nil)) l0 true 1),u (.bd [.nil,.nil] [(0,1,.l 0)]),w 7 (.al [.nil,.nil] [(1,2)]),u (.st l0 l1 2 [(1,2)])] []) (.seq (.seq (.reg [w 8 (.mv (.i 0))] []) (.blk 0 K.rR)) (.seq (.reg [h 2 v7,u (.bs [.l 0] 2),u (.bd [.nil] [(0,1,.l 0)]),u (.st v5 l0 1 []),w 6 (.mv (.i 0))] []) .ret)))))),res:=[(5,some (1,true)),(6,none)]}
def fP:C:=(.seq (.ite [m v11,f 0 v6,g l0,u (.ln l0),u (.bin .lss l3 l0)] [] 0 .skip (.exit 0)) (.seq (.blk 1 (.seq (.reg [f 0 v6,g l0,m v11,a 2 l1 l0,h 2 l0,u (.ca N.bz 1 [] [.l 0]),w 12 (.al [.nil,.nil] []),u (.st l0 l1 2 [])] []) (.seq (.ite [f 1 v12,g l0,m v2,a 2 l1 l0,h 2 l0,f 1 v12,g l0,m v3,a 2 l1 l0,h 2 l0,m v4,u (.ca N.gU 0 [] [.l 6,.l 1,.l 0]),u (.un .not l0)] [] 0 (.exit 1) .skip) (.seq (.reg [f 0 v12,g l0,m v2,f 0 v12,g l0,m v3,f 0 v12,g l0,m v3,a 1 l1 l0,g l0,f 0 v12,g l0,m v2,a 1 l1 l0,g l0,a 1 (.l 14) (.l 13),u (.st l0 l6 1 []),a 1 (.l 13) (.l 12),u (.st l0 l3 1 [])] [(4,18)]) (.seq (.reg [f 1 v12,g l0,m v2,f 1 v12,g l0,m v2,a 2 l1 l0,h 2 l0,m v4,u (.ca N.dN 0 [] [.l 1,.l 0]),m l0,u (.ex l0 0),u (.ex l1 1),a 2 l11 l10,u (.st l0 l2 2 [])] [(1,10)]) (.seq (.reg [f 1 v12,g l0,m v3,f 1 v12,g l0,m v3,a 2 l1 l0,h 2 l0,m v4,u (.ca N.dN 0 [] [.l 1,.l 0]),m l0,u (.ex l0 0),u (.ex l1 1),a 2 l11 l10,u (.st l0 l2 2 [])] [(1,10)]) (.reg [m v10,h 2 v12,u (.bs [.l 0] 2),u (.app l2 l0 true 2),w 10 (.mv l0)] []))))))) (.reg [m v11,u (.bin .add l0 (.i 1)),w 11 (.mv l0)] [])))
def oC:C:= .loop true [0,1,5,8,9,12] K.fP
def bq:Fn:={ nargs:=5,vars:=[0,1,2,3,4,5,6,10,11,12,13,14,15],body:=(.seq (.reg [w 5 (.bx v0 2),w 6 (.bx v1 1),w 7 (.al [.nil] []),w 8 (.mv (.i 0))] []) (.seq (.reg [h 1 v6,u (.ca N.dM 0 [] [.l 0]),u (.st v6 l0 1 [])] []) (.seq (.ite [h 2 v5,h 1 v6,u (.ca N.cu 0 [] [.l 1,.l 0]),u (.un .not l0)] [] 0 (.seq (.reg [h 1 v6,u (.st v7 l0 1 []),w 8 (.mv (.i 6))] []) .ret) .skip) (.seq (.reg [f 0 v6,g l0,a 2 l0 (.i 0),f 0 l0,g l0,u (.ln l0),w 9 (.mv l0)] []) (.seq (.ite [m v2,u (.bin .lss l0 (.i 0)),m l0,y 0 false (.mv v2),y 1 false (.mv v9),y 2 false (.bin .geq l1 l0),u (.pk l3 (.b true) l0),m l0,y 0 false (.mv v3),y 1 false (.bin .lss l0 (.i 0)),u (.pk l2 (.b true) l0),m l0,y 0 false (.mv v3),y 1 false (.mv v9),y 2 false (.bin .geq l1 l0),u (.pk l3 (.b true) l0),m l0,y 0 false (.mv v2),y 1 false (.mv v3),y 2 false (.bin .eql l1 l0),u (.pk l3 (.b true) l0)] [] 0 (.seq (.reg [h 1 v6,u (.st v7 l0 1 []),w 8 (.mv (.i 19))] []) .ret) .skip) (.seq (.ite [m v4,u (.bin .lss l0 (.i 0)),m l0,y 0 false (.mv v4),y 1 false (.bin .gtr l0 (.i 2147483648)),u (.pk l2 (.b true) l0)] [] 0 (.seq (.reg [h 1 v6,u (.st v7 l0 1 []),w 8 (.mv (.i 8))] []) .ret) .skip) (.seq (.reg [h 1 v6,u (.ca N.dM 1 [] [.l 0]),u (.fl l0 0 1 false),w 10 (.mv l0)] []) (.seq (.seq (.reg [w 11 (.mv (.i 0))] []) (.blk 0 K.oC)) (.seq (.reg [m v10,u (.ca N.gV 1 [] [.l 0]),w 10 (.mv l0)] []) (.seq (.ite [m v10,u (.ln l0),u (.bin .gtr l0 (.i 24))] [] 0 (.seq (.reg [h 1 v6,u (.st v7 l0 1 []),w 8 (.mv (.i 44))] []) .ret) .skip) (.seq (.reg [m v10,u (.bd [.nil] [(0,1,.l 0)]),u (.st v7 l0 1 []),w 8 (.mv (.i 0))] []) .ret))))))))))),res:=[(7,some (1,true)),(8,none)]}
def dW:C:=(.seq (.ite [m v12,f 0 v7,g l0,u (.ln l0),u (.bin .lss l3 l0)] [] 0 .skip (.exit 0)) (.seq (.blk 1 (.seq (.reg [f 0 v7,g l0,m v12,a 2 l1 l0,h 2 l0,u (.ca N.bz 1 [] [.l 0]),w 13 (.al [.nil,.nil] []),u (.st l0 l1 2 [])] []) (.seq (.reg [f 0 v13,g l0,m v2,u (.ca N.cM 0 [] [.l 1,.l 0]),w 14 (.mv l0)] []) (.seq (.reg [w 15 (.al [.t (.int .i64 (0)),.nil] []),h 2 v6,f 1 v13,g l0,m v14,a 2 l1 l0,h 2 l0,m v3,m v4,m v5,u (.ca N.gP 0 [] [.l 8,.l 3,.l 2,.l 1,.l 0]),m l0,u (.ex l0 0),u (.ex l1 1),u (.st (.l 13) l1 2 []),w 16 (.mv l1)] [(0,11)]) (.seq (.seq (.reg [w 17 (.mv v16)] []) (.blk 2 (.seq (.seq (.reg [u (.bin .eql v17 (.i 6)),w 18 (.mv l0)] []) (.itv 18 .skip (.reg [u (.bin .eql v17 (.i 8)),w 18 (.mv l0)] []))) (.itv 18 (.seq (.reg [h 1 v7,m v16,u (.st v8 l1 1 []),w 9 (.mv l1)] []) .ret) (.ite [u (.bin .eql v17 (.i 43)),m l0] [] 0 (.exit 1) (.ite [u (.bin .eql v17 (.i 0)),m l0] [] 0 (.reg [f 1 v13,g l0,m v14,h 2 v15,a 2 l2 l1,u (.st l0 l1 2 [])] []) .skip)))))) (.reg [f 0 v11,g l0,h 2 v13,u (.bs [.l 0] 2),u (.app l2 l0 true 2),f 0 v11,u (.st l0 l1 1 [])] [])))))) (.reg [m v12,u (.bin .add l0 (.i 1)),w 12 (.mv l0)] [])))
def qt:C:= .loop true [0,1,9,10,13,14,15,16,17,18] K.dW
def fO:Fn:={ nargs:=6,vars:=[0,1,2,3,4,5,6,7,12,13,14,15,16,17,18,19,20,61,62],body:=(.seq (.reg [w 6 (.bx v0 2),w 7 (.bx v1 1),w 8 (.al [.nil] []),w 9 (.mv (.i 0))] []) (.seq (.reg [h 1 v7,u (.ca N.dM 0 [] [.l 0]),u (.st v7 l0 1 [])] []) (.seq (.seq (.reg [h 2 v6,h 1 v7,m v2,u (.ca N.dO 0 [] [.l 2,.l 1,.l 0]),w 10 (.mv l0)] []) (.ite [m v10,u (.bin .neq l0 (.i 0))] [] 0 (.seq (.reg [h 1 v7,m v10,u (.st v8 l1 1 []),w 9 (.mv l1)] []) .ret) .skip)) (.seq (.reg [w 11 (.al [.nil] [(0,2)])] []) (.seq (.seq (.reg [w 12 (.mv (.i 0))] []) (.blk 0 K.qt)) (.seq (.ite [f 0 v11,g l0,u (.ln l0),u (.bin .eql l0 (.i 0))] [] 0 (.seq (.reg [h 1 v7,u (.st v8 l0 1 []),w 9 (.mv (.i 43))] []) .ret) .skip) (.seq (.reg [h 1 v11,u (.st v8 l0 1 []),w 9 (.mv (.i 0))] []) .ret))))))),res:=[(8,some (1,true)),(9,none)]}
def cY:C:=(.seq (.ite [m v13,f 0 v8,g l0,u (.ln l0),u (.bin .lss l3 l0)] [] 0 .skip (.exit 0)) (.seq (.blk 1 (.seq (.reg [f 0 v8,g l0,m v13,a 2 l1 l0,h 2 l0,u (.ca N.bz 1 [] [.l 0]),w 14 (.al [.nil,.nil] []),u (.st l0 l1 2 [])] []) (.seq (.reg [f 0 v14,g l0,m v2,u (.ca N.cM 0 [] [.l 1,.l 0]),w 15 (.mv l0)] []) (.seq (.reg [w 16 (.al [.t (.int .i64 (0)),.nil] []),h 2 v7,f 1 v14,g l0,m v15,a 2 l1 l0,h 2 l0,m v3,m v4,m v5,m v6,u (.ca N.cN 0 [2] [.l 9,.l 4,.l 3,.l 2,.l 1,.l 0]),m l0,u (.ex l0 0),u (.ex l1 1),u (.st (.l 14) l1 2 []),w 17 (.mv l1)] [(0,12)]) (.seq (.ite [m v17,u (.bin .eql l0 (.i 6)),m l0,y 0 false (.mv v17),y 1 false (.bin .eql l0 (.i 8)),u (.pk l2 (.b true) l0)] [] 0 (.seq (.reg [h 1 v8,m v17,u (.st v9 l1 1 []),w 10 (.mv l1)] []) .ret) .skip) (.seq (.ite [m v17,u (.bin .eql l0 (.i 0))] [] 0 (.reg [f 1 v14,g l0,m v15,h 2 v16,a 2 l2 l1,u (.st l0 l1 2 [])] []) .skip) (.reg [f 0 v12,g l0,h 2 v14,u (.bs [.l 0] 2),u (.app l2 l0 true 2),f 0 v12,u (.st l0 l1 1 [])] []))))))) (.reg [m v13,u (.bin .add l0 (.i 1)),w 13 (.mv l0)] [])))
def mC:C:= .loop true [0,1,10,11,14,15,16,17] K.cY
def dF:Fn:={ nargs:=7,vars:=[0,1,2,3,4,5,6,7,8,14,15,16,17,18,19,20,21,22],body:=(.seq (.reg [w 7 (.bx v0 2),w 8 (.bx v1 1),w 9 (.al [.nil] []),w 10 (.mv (.i 0))] []) (.seq (.reg [h 1 v8,u (.ca N.dM 0 [] [.l 0]),u (.st v8 l0 1 [])] []) (.seq (.seq (.reg [h 2 v7,h 1 v8,m v2,u (.ca N.dO 0 [] [.l 2,.l 1,.l 0]),w 11 (.mv l0)] []) (.ite [m v11,u (.bin .neq l0 (.i 0))] [] 0 (.seq (.reg [h 1 v8,m v11,u (.st v9 l1 1 []),w 10 (.mv l1)] []) .ret) .skip)) (.seq (.reg [w 12 (.al [.nil] [(0,2)])] []) (.seq (.seq (.reg [w 13 (.mv (.i 0))] []) (.blk 0 K.mC)) (.seq (.reg [h 1 v12,u (.st v9 l0 1 []),w 10 (.mv (.i 0))] []) .ret)))))),res:=[(9,some (1,true)),(10,none)]}
def jx:Fn:={ nargs:=2,vars:=[0,1,4],body:=(.seq (.reg [w 2 (.mv (.i 0))] []) (.seq (.ite [m v1,u (.bin .lss l0 (.i 1))] [] 0 (.seq (.reg [w 2 (.mv (.i 0))] []) .ret) .skip) (.seq (.reg [m v0,m v1,u (.bin .rem l1 l0),w 0 (.mv l0)] []) (.seq (.ite [m v0,u (.bin .lss l0 (.i 0))] [] 0 (.reg [m v0,m v1,u (.bin .add l1 l0),w 0 (.mv l0)] []) .skip) (.seq (.reg [m v0,w 2 (.mv l0)] []) .ret))))),res:=[(2,none)]}
def mD:C:=(.seq (.ite [m v3,f 0 v1,g l0,u (.ln l0),u (.bin .lss l3 l0)] [] 0 .skip (.exit 0)) (.seq (.blk 1 (.seq (.reg [f 0 v1,g l0,m v3,a 2 l1 l0,f 0 l0,g l0,w 4 (.mv l0)] []) (.ite [m v4,u (.bin .lss l0 (.i (-10000))),m l0,y 0 false (.mv v4),y 1 false (.bin .gtr l0 (.i 10000)),u (.pk l2 (.b true) l0)] [] 0 (.seq (.reg [w 2 (.mv (.i 1))] []) .ret) .skip))) (.reg [m v3,u (.bin .add l0 (.i 1)),w 3 (.mv l0)] [])))
def rS:C:= .loop true [0,2,4,5,6] K.mD
def mE:C:=(.seq (.ite [m v5,f 1 v1,g l0,u (.ln l0),u (.bin .lss l3 l0)] [] 0 .skip (.exit 2)) (.seq (.blk 3 (.seq (.reg [f 1 v1,g l0,m v5,a 10 l1 l0,h 10 l0,w 6 (.al [.t (.int .i64 (0)),.t (.int .i64 (0)),.t (.int .i64 (0)),.t (.int .i64 (0)),.t (.bool false),.t (.bool false),.t (.int .i64 (0)),.t (.int .i64 (0)),.t (.int .i64 (0)),.t (.int .i64 (0))] []),u (.st l0 l1 10 [])] []) (.seq (.ite [f 0 v6,g l0,u (.bin .lss l0 (.i 0)),m l0,y 0 false (.fa v6 0),y 1 false (.ld l0 1 false),y 2 false (.fa v1 0),y 3 false (.ld l0 1 false),y 4 false (.ln l0),y 5 false (.bin .geq l3 l0),u (.pk l6 (.b true) l0),m l0,y 0 false (.fa v6 1),y 1 false (.ld l0 1 false),y 2 false (.bin .lss l0 (.i 0)),u (.pk l3 (.b true) l0),m l0,y 0 false (.fa v6 1),y 1 false (.ld l0 1 false),y 2 false (.fa v1 0),y 3 false (.ld l0 1 false),y 4 false (.ln l0),y 5 false (.bin .geq l3 l0),u (.pk l6 (.b true) l0),m l0,y 0 false (.fa v6 0),y 1 false (.ld l0 1 false),y 2 false (.fa v6 1),y 3 false (.ld l0 1 false),y 4 false (.bin .eql l2 l0),u (.pk l5 (.b true) l0)] [] 0 (.seq (.reg [w 2 (.mv (.i 4))] []) .ret) .skip) (.ite [f 2 v6,g l0,u (.bin .lss l0 (.i 1)),m l0,y 0 false (.fa v6 2),y 1 false (.ld l0 1 false),y 2 false (.bin .gtr l0 (.i 100000)),u (.pk l3 (.b true) l0),m l0,y 0 false (.fa v6 3),y 1 false (.ld l0 1 false),y 2 false (.bin .lss l0 (.i 1)),u (.pk l3 (.b true) l0),m l0,y 0 false (.fa v6 3),y 1 false (.ld l0 1 false),y 2 false (.bin .gtr l0 (.i 1000)),u (.pk l3 (.b true) l0),m l0,y 0 false (.fa v6 6),y 1 false (.ld l0 2 true),y 2 false (.ca N.gp 0 [] [.l 0,.i 1,.i 262144]),y 3 false (.un .not l0),u (.pk l4 (.b true) l0),m l0,y 0 false (.fa v6 8),y 1 false (.ld l0 2 true),y 2 false (.ca N.gp 0 [] [.l 0,.i (-2199023255552),.i 2199023255552]),y 3 false (.un .not l0),u (.pk l4 (.b true) l0)] [] 0 (.seq (.reg [w 2 (.mv (.i 1))] []) .ret) .skip)))) (.reg [m v5,u (.bin .add l0 (.i 1)),w 5 (.mv l0)] [])))
def rT:C:= .loop true [0,2,3,4,6] K.mE
def dA:Fn:={ nargs:=1,vars:=[0,1,2,3,4,5,6],body:=(.seq (.reg [w 1 (.bx v0 2),w 2 (.mv (.i 0))] []) (.seq (.ite [f 0 v1,g l0,u (.ln l0),u (.bin .gtr l0 (.i 64)),m l0,y 0 false (.fa v1 1),y 1 false (.ld l0 1 false),y 2 false (.ln l0),y 3 false (.bin .gtr l0 (.i 128)),u (.pk l4 (.b true) l0)] [] 0 (.seq (.reg [w 2 (.mv (.i 2))] []) .ret) .skip) (.seq (.seq (.reg [w 3 (.mv (.i 0))] []) (.blk 0 K.rS)) (.seq (.seq (.reg [w 5 (.mv (.i 0))] []) (.blk 2 K.rT)) (.seq (.reg [w 2 (.mv (.i 0))] []) .ret))))),res:=[(2,none)]}
def gH:C:=(.seq (.ite [m v3,m v0,u (.ln l0),u (.bin .lss l2 l0)] [] 0 .skip (.exit 0)) (.seq (.blk 1 (.ite [m v0,m v3,a 1 l1 l0,g l0,u (.bin .lss l0 (.i 0)),m l0,y 0 false (.mv v0),y 1 false (.mv v3),y 2 false (.ia l1 l0 1),y 3 false (.ld l0 1 false),y 4 false (.mv v1),y 5 false (.bin .geq l1 l0),u (.pk l6 (.b true) l0),m l0,y 0 false (.mv v3),y 1 false (.bin .gtr l0 (.i 0)),y 2 false (.mv l0),y 0 true (.mv v0),y 1 true (.mv v3),y 2 true (.ia l1 l0 1),y 3 true (.ld l0 1 false),y 4 true (.mv v0),y 5 true (.mv v3),y 6 true (.bin .sub l0 (.i 1)),y 7 true (.ia l2 l0 1),y 8 true (.ld l0 1 false),y 9 true (.bin .leq l5 l0),y 13 false (.pk l10 l0 (.b false)),u (.pk (.l 14) (.b true) l0)] [] 0 (.seq (.reg [w 2 (.mv (.b false))] []) .ret) .skip)) (.reg [m v3,u (.bin .add l0 (.i 1)),w 3 (.mv l0)] [])))
def vX:C:= .loop true [2] K.gH
def je:Fn:={ nargs:=2,vars:=[0,1,4,5],body:=(.seq (.reg [w 2 (.mv (.b false))] []) (.seq (.seq (.reg [w 3 (.mv (.i 0))] []) (.blk 0 K.vX)) (.seq (.reg [w 2 (.mv (.b true))] []) .ret))),res:=[(2,none)]}
def fM:C:=(.seq (.ite [m v2,m v0,u (.ln l0),u (.bin .lss l2 l0)] [] 0 .skip (.exit 0)) (.seq (.blk 1 (.ite [m v0,m v2,a 1 l1 l0,g l0,u (.bin .lss l0 (.i 1)),m l0,y 0 false (.mv v0),y 1 false (.mv v2),y 2 false (.ia l1 l0 1),y 3 false (.ld l0 1 false),y 4 false (.bin .gtr l0 (.i 65535)),u (.pk l5 (.b true) l0),m l0,y 0 false (.mv v0),y 1 false (.mv v2),y 2 false (.sc l1 none (some l0) 1),y 3 false (.mv v0),y 4 false (.mv v2),y 5 false (.ia l1 l0 1),y 6 false (.ld l0 1 false),y 7 false (.ca N.cM 0 [] [.l 4,.l 0]),y 8 false (.bin .geq l0 (.i 0)),u (.pk l9 (.b true) l0)] [] 0 (.seq (.reg [w 1 (.mv (.b false))] []) .ret) .skip)) (.reg [m v2,u (.bin .add l0 (.i 1)),w 2 (.mv l0)] [])))
def qu:C:= .loop true [1] K.fM
def ec:Fn:={ nargs:=1,vars:=[0,2,3],body:=(.seq (.reg [w 1 (.mv (.b false))] []) (.seq (.seq (.reg [w 2 (.mv (.i 0))] []) (.blk 0 K.qu)) (.seq (.reg [w 1 (.mv (.b true))] []) .ret))),res:=[(1,none)]}
def dL:Fn:={ nargs:=3,vars:=[0,1,2,3,6,7,8],body:=(.seq (.reg [w 3 (.bx v0 2),w 4 (.al [.t (.int .i64 (0)),.nil] []),w 5 (.mv (.i 0))] []) (.seq (.blk 0 (.ite [h 2 v3,u (.ca N.dA 0 [] [.l 0]),u (.bin .neq l0 (.i 0)),m l0] [] 0 (.seq (.reg [u (.bd [.t (.int .i64 (0)),.nil] []),u (.st v4 l0 2 []),w 5 (.mv (.i 6))] []) .ret) (.ite [m v1,u (.bin .lss l0 (.i 0)),m l0,y 0 false (.mv v1),y 1 false (.fa v3 0),y 2 false (.ld l0 1 false),y 3 false (.ln l0),y 4 false (.bin .geq l3 l0),u (.pk l5 (.b true) l0),m l0] [] 0 (.seq (.reg [u (.bd [.t (.int .i64 (0)),.nil] []),u (.st v4 l0 2 []),w 5 (.mv (.i 3))] []) .ret) (.ite [m v2,u (.ca N.dn 0 [] [.l 0]),u (.un .not l0),m l0] [] 0 (.seq (.reg [u (.bd [.t (.int .i64 (0)),.nil] []),u (.st v4 l0 2 []),w 5 (.mv (.i 8))] []) .ret) .skip)))) (.seq (.reg [f 0 v3,g l0,u (.ln l0),u (.ca N.fm 1 [] [.l 0]),w 6 (.mv l0)] []) (.seq (.reg [m v6,m v1,m v2,a 1 l2 l1,u (.st l0 l1 1 [])] []) (.seq (.reg [m v2,h 2 v3,m v6,m v2,u (.ca N.dP 0 [] [.l 2,.l 1,.l 0]),u (.bd [.t (.int .i64 (0)),.nil] [(0,1,.l 4),(1,1,.l 0)]),u (.st v4 l0 2 []),w 5 (.mv (.i 0))] []) .ret))))),res:=[(4,some (2,true)),(5,none)]}
end Go.Ev.K
namespace Go.Ev
class cn [Lib]:Prop where
 qv:Lib.fs N.gT=some K.gT
 sE:Lib.fs N.jd=some K.jd
 lF:Lib.fs N.cB=some K.cB
 j7:Lib.fs N.bX=some K.bX
 lG:Lib.fs N.aB=some K.aB
 nL:Lib.fs N.dm=some K.dm
 sF:Lib.fs N.iF=some K.iF
 mF:Lib.fs N.dz=some K.dz
 lH:Lib.fs N.bU=some K.bU
 o7:Lib.fs N.dg=some K.dg
 lI:Lib.fs N.bq=some K.bq
 sG:Lib.fs N.fO=some K.fO
 nM:Lib.fs N.dF=some K.dF
 uX:Lib.fs N.jx=some K.jx
 o8:Lib.fs N.dA=some K.dA
 sH:Lib.fs N.je=some K.je
 nN:Lib.fs N.ec=some K.ec
 o9:Lib.fs N.dL=some K.dL
namespace K
variable [Lib] [cn]
theorem qv:Lib.fs N.gT=some K.gT:=cn.qv
theorem sE:Lib.fs N.jd=some K.jd:=cn.sE
theorem lF:Lib.fs N.cB=some K.cB:=cn.lF
theorem j7:Lib.fs N.bX=some K.bX:=cn.j7
theorem lG:Lib.fs N.aB=some K.aB:=cn.lG
theorem nL:Lib.fs N.dm=some K.dm:=cn.nL
theorem sF:Lib.fs N.iF=some K.iF:=cn.sF
theorem mF:Lib.fs N.dz=some K.dz:=cn.mF
theorem lH:Lib.fs N.bU=some K.bU:=cn.lH
theorem o7:Lib.fs N.dg=some K.dg:=cn.o7
theorem lI:Lib.fs N.bq=some K.bq:=cn.lI
theorem sG:Lib.fs N.fO=some K.fO:=cn.sG
theorem nM:Lib.fs N.dF=some K.dF:=cn.nM
theorem uX:Lib.fs N.jx=some K.jx:=cn.uX
theorem o8:Lib.fs N.dA=some K.dA:=cn.o8
theorem sH:Lib.fs N.je=some K.je:=cn.sH
theorem nN:Lib.fs N.ec=some K.ec:=cn.nN
theorem o9:Lib.fs N.dL=some K.dL:=cn.o9
end K
end Go.Ev
namespace Go.Ev.K
open Go.Ev
def nO:C:=(.seq (.ite [m v4,f 0 v1,g l0,u (.ln l0),u (.bin .lss l3 l0)] [] 0 .skip (.exit 0)) (.seq (.blk 1 (.reg [f 0 v3,g l0,f 0 v1,g l0,m v4,a 2 l1 l0,h 2 l0,u (.ca N.bz 0 [] [.l 0]),u (.bs [.l 0] 2),u (.app l7 l0 true 2),f 0 v3,u (.st l0 l1 1 [])] [(1,8),(1,9)])) (.reg [m v4,u (.bin .add l0 (.i 1)),w 4 (.mv l0)] [])))
def tS:C:= .loop true [0] K.nO
def dM:Fn:={ nargs:=1,vars:=[0,1,2,3,4],body:=(.seq (.reg [w 1 (.bx v0 1),w 2 (.al [.nil] [])] []) (.seq (.reg [w 3 (.al [.nil] [(0,2)])] []) (.seq (.seq (.reg [w 4 (.mv (.i 0))] []) (.blk 0 K.tS)) (.seq (.reg [h 1 v3,u (.st v2 l0 1 [])] []) .ret)))),res:=[(2,some (1,true))]}
def gv:C:=(.seq (.ite [m v8,f 0 v7,g l0,u (.ln l0),u (.bin .lss l3 l0)] [] 0 .skip (.exit 2)) (.seq (.blk 3 (.ite [m v5,f 0 v7,g l0,m v8,a 1 l1 l0,g l0,u (.ca N.cM 0 [] [.l 5,.l 0]),u (.bin .lss l0 (.i 0)),m l0,y 0 false (.ld v2 2 true),y 1 false (.fa v7 1),y 2 false (.ld l0 1 false),y 3 false (.mv v8),y 4 false (.ia l1 l0 2),y 5 false (.ld l0 2 true),y 6 false (.ca N.eD 0 [] [.l 5,.l 0]),y 7 false (.un .not l0),u (.pk l8 (.b true) l0)] [] 0 (.seq (.reg [w 4 (.mv (.b false))] []) .ret) .skip)) (.reg [m v8,u (.bin .add l0 (.i 1)),w 8 (.mv l0)] [])))
def nQ:C:= .loop true [0,1,4] K.gv
def bQ:C:=(.seq (.ite [m v6,f 0 v3,g l0,u (.ln l0),u (.bin .lss l3 l0)] [] 0 .skip (.exit 0)) (.seq (.blk 1 (.seq (.reg [f 0 v3,g l0,m v6,a 2 l1 l0,h 2 l0,w 7 (.al [.nil,.nil] []),u (.st l0 l1 2 [])] []) (.seq (.ite [f 0 v7,g l0,u (.ln l0),m v5,u (.ln l0),u (.bin .neq l2 l0),m l0,y 0 false (.fa v7 1),y 1 false (.ld l0 1 false),y 2 false (.ln l0),y 3 false (.mv v5),y 4 false (.ln l0),y 5 false (.bin .neq l2 l0),u (.pk l6 (.b true) l0),m l0,y 0 false (.fa v7 0),y 1 false (.ld l0 1 false),y 2 false (.ca N.ec 0 [] [.l 0]),y 3 false (.un .not l0),u (.pk l4 (.b true) l0),m l0,y 0 false (.mv v6),y 1 false (.bin .gtr l0 (.i 0)),y 2 false (.mv l0),y 0 true (.fa v3 0),y 1 true (.ld l0 1 false),y 2 true (.mv v6),y 3 true (.bin .sub l0 (.i 1)),y 4 true (.ia l2 l0 2),y 5 true (.fa l0 0),y 6 true (.ld l0 1 false),y 7 true (.fa v7 0),y 8 true (.ld l0 1 false),y 9 true (.ca N.gq 0 [] [.l 2,.l 0]),y 10 true (.un .not l0),y 14 false (.pk l11 l0 (.b false)),u (.pk (.l 15) (.b true) l0)] [] 0 (.seq (.reg [w 4 (.mv (.b false))] []) .ret) .skip) (.seq (.reg [w 8 (.mv (.i 0))] []) (.blk 2 K.nQ))))) (.reg [m v6,u (.bin .add l0 (.i 1)),w 6 (.mv l0)] [])))
def nS:C:= .loop true [0,1,4,7,8] K.bQ
def cu:Fn:={ nargs:=2,vars:=[0,1,2,3,4,5,6,7,8],body:=(.seq (.reg [w 2 (.bx v0 2),w 3 (.bx v1 1),w 4 (.mv (.b false))] []) (.seq (.ite [f 0 v3,g l0,u (.ln l0),u (.bin .lss l0 (.i 1)),m l0,y 0 false (.fa v3 0),y 1 false (.ld l0 1 false),y 2 false (.ln l0),y 3 false (.bin .gtr l0 (.i 24)),u (.pk l4 (.b true) l0),m l0,y 0 false (.ld v2 2 true),y 1 false (.ca N.dA 0 [] [.l 0]),y 2 false (.bin .neq l0 (.i 0)),u (.pk l3 (.b true) l0)] [] 0 (.seq (.reg [w 4 (.mv (.b false))] []) .ret) .skip) (.seq (.reg [f 0 v3,g l0,a 2 l0 (.i 0),f 0 l0,g l0,w 5 (.mv l0)] []) (.seq (.ite [m v5,u (.ln l0),u (.bin .lss l0 (.i 1)),m l0,y 0 false (.mv v5),y 1 false (.ln l0),y 2 false (.bin .gtr l0 (.i 12)),u (.pk l3 (.b true) l0)] [] 0 (.seq (.reg [w 4 (.mv (.b false))] []) .ret) .skip) (.seq (.seq (.reg [w 6 (.mv (.i 0))] []) (.blk 0 K.nS)) (.seq (.reg [w 4 (.mv (.b true))] []) .ret)))))),res:=[(4,none)]}
def jB:C:=(.seq (.ite [m v4,f 1 v1,g l0,u (.ln l0),u (.bin .lss l3 l0)] [] 0 .skip (.exit 0)) (.seq (.blk 1 (.reg [f 1 v3,g l0,f 1 v1,g l0,m v4,a 2 l1 l0,h 2 l0,u (.ca N.cQ 0 [] [.l 0]),u (.bs [.l 0] 2),u (.app l7 l0 true 2),f 1 v3,u (.st l0 l1 1 [])] [(1,8),(1,9)])) (.reg [m v4,u (.bin .add l0 (.i 1)),w 4 (.mv l0)] [])))
def nq:C:= .loop true [0] K.jB
def bz:Fn:={ nargs:=1,vars:=[0,1,2,3,4],body:=(.seq (.reg [w 1 (.bx v0 2),w 2 (.al [.nil,.nil] [])] []) (.seq (.reg [f 0 v1,g l0,u (.app (.c (.nil)) l0 true 1),u (.bd [.nil,.nil] [(0,1,.l 0)]),w 3 (.al [.nil,.nil] [(1,2)]),u (.st l0 l1 2 [(1,2)])] []) (.seq (.seq (.reg [w 4 (.mv (.i 0))] []) (.blk 0 K.nq)) (.seq (.reg [h 2 v3,u (.st v2 l0 2 [])] []) .ret)))),res:=[(2,some (2,true))]}
def gX:C:=(.seq (.ite [m v6,f 1 v3,g l0,u (.ln l0),u (.bin .lss l3 l0),m l0,y 0 true (.mv v6),y 1 true (.fa v4 1),y 2 true (.ld l0 1 false),y 3 true (.ln l0),y 4 true (.bin .lss l3 l0),u (.pk l5 l0 (.b false))] [] 0 .skip (.exit 0)) (.seq (.blk 1 (.ite [f 1 v3,g l0,m v6,a 1 l1 l0,g l0,m v2,u (.bin .leq l1 l0),m l0,y 0 true (.fa v4 1),y 1 true (.ld l0 1 false),y 2 true (.mv v6),y 3 true (.ia l1 l0 1),y 4 true (.ld l0 1 false),y 5 true (.mv v2),y 6 true (.bin .leq l1 l0),u (.pk l7 l0 (.b false))] [] 0 (.seq (.reg [w 5 (.mv (.b true))] []) .ret) .skip)) (.reg [m v6,u (.bin .add l0 (.i 1)),w 6 (.mv l0)] [])))
def tT:C:= .loop true [0,1,5] K.gX
def gU:Fn:={ nargs:=3,vars:=[0,1,2,3,4,6,7],body:=(.seq (.reg [w 3 (.bx v0 2),w 4 (.bx v1 2),w 5 (.mv (.b false))] []) (.seq (.seq (.reg [w 6 (.mv (.i 0))] []) (.blk 0 K.tT)) (.seq (.reg [w 5 (.mv (.b false))] []) .ret))),res:=[(5,none)]}
def dN:Fn:={ nargs:=2,vars:=[0,1,2,4,5],body:=(.seq (.reg [w 2 (.bx v0 2),w 3 (.al [.t (.int .i64 (0)),.nil] []),w 4 (.mv (.i 0))] []) (.seq (.reg [h 2 v2,u (.ca N.cQ 0 [] [.l 0]),u (.st v2 l0 2 [])] []) (.seq (.ite [m v1,f 0 v2,g l0,u (.bin .lss l2 l0),m l0,y 0 false (.mv v1),y 1 false (.bin .gtr l0 (.i 2147483648)),u (.pk l2 (.b true) l0)] [] 0 (.seq (.reg [h 2 v2,u (.st v3 l0 2 []),w 4 (.mv (.i 8))] []) .ret) .skip) (.seq (.reg [m v1,f 0 v2,u (.st l0 l1 1 [])] []) (.seq (.reg [h 2 v2,u (.st v3 l0 2 []),w 4 (.mv (.i 0))] []) .ret))))),res:=[(3,some (2,true)),(4,none)]}
def jf:C:=(.seq (.ite [m v4,m v2,u (.ln l0),u (.bin .lss l2 l0),m l0,y 0 true (.mv v2),y 1 true (.mv v4),y 2 true (.ia l1 l0 2),y 3 true (.fa l0 0),y 4 true (.ld l0 1 false),y 5 true (.mv v0),y 6 true (.mv v3),y 7 true (.ia l1 l0 2),y 8 true (.fa l0 0),y 9 true (.ld l0 1 false),y 10 true (.ca N.gq 0 [] [.l 5,.l 0]),u (.pk l11 l0 (.b false))] [] 0 .skip (.exit 2)) (.blk 3 (.reg [m v4,u (.bin .add l0 (.i 1)),w 4 (.mv l0)] [])))
def pc:C:= .loop false [1,5] K.jf
def kT:C:=(.seq (.ite [m v5,m v2,m v4,a 2 l1 l0,f 1 l0,g l0,u (.ln l0),u (.bin .lss l6 l0),m l0,y 0 true (.mv v5),y 1 true (.mv v0),y 2 true (.mv v3),y 3 true (.ia l1 l0 2),y 4 true (.fa l0 1),y 5 true (.ld l0 1 false),y 6 true (.ln l0),y 7 true (.bin .lss l6 l0),u (.pk l8 l0 (.b false))] [] 0 .skip (.exit 4)) (.seq (.blk 5 (.reg [m v2,m v4,a 2 l1 l0,f 1 l0,g l0,m v5,m v2,m v4,a 2 l1 l0,f 1 l0,g l0,m v5,a 2 l1 l0,h 2 l0,m v0,m v3,a 2 l1 l0,f 1 l0,g l0,m v5,a 2 l1 l0,h 2 l0,u (.ca N.gr 0 [] [.l 8,.l 0]),m l0,u (.ex l0 0),u (.ex l1 1),a 2 (.l 21) (.l 20),u (.st l0 l2 2 [])] [(2,23),(4,23)])) (.reg [m v5,u (.bin .add l0 (.i 1)),w 5 (.mv l0)] [])))
def tU:C:= .loop false [1] K.kT
def dX:C:=(.seq (.ite [m v3,m v0,u (.ln l0),u (.bin .lss l2 l0)] [] 0 .skip (.exit 0)) (.seq (.blk 1 (.seq (.reg [w 4 (.mv (.i 0))] []) (.seq (.blk 2 K.pc) (.seq (.ite [m v4,m v2,u (.ln l0),u (.bin .lss l2 l0),m l0,y 0 true (.mv v2),y 1 true (.mv v4),y 2 true (.ia l1 l0 2),y 3 true (.fa l0 0),y 4 true (.ld l0 1 false),y 5 true (.mv v0),y 6 true (.mv v3),y 7 true (.ia l1 l0 2),y 8 true (.fa l0 0),y 9 true (.ld l0 1 false),y 10 true (.ca N.cC 0 [] [.l 5,.l 0]),u (.pk l11 l0 (.b false))] [] 0 (.seq (.seq (.reg [w 5 (.mv (.i 0))] []) (.blk 4 K.tU)) (.exit 1)) .skip) (.reg [m v2,m v4,u (.sc l1 none (some l0) 2),u (.app (.c (.nil)) l0 false 2),m v0,m v3,a 2 l1 l0,h 2 l0,u (.ca N.bz 1 [] [.l 0]),u (.bsr [.l 0] 2),u (.app l6 l0 false 2),m v2,m v4,u (.sc l1 (some l0) none 2),u (.app l3 l0 false 2),w 2 (.mv l0)] [(6,0),(7,0),(13,0),(13,4),(13,9),(13,10)]))))) (.reg [m v3,u (.bin .add l0 (.i 1)),w 3 (.mv l0)] [])))
def tV:C:= .loop false [1,4,5] K.dX
def gV:Fn:={ nargs:=1,vars:=[0,2,3,4,5,6],body:=(.seq (.reg [w 1 (.mv (.c (.nil)))] []) (.seq (.reg [w 2 (.mv (.c (.nil)))] []) (.seq (.seq (.reg [w 3 (.mv (.i 0))] []) (.blk 0 K.tV)) (.seq (.reg [m v2,w 1 (.mv l0)] []) .ret)))),res:=[(1,none)]}
def dO:Fn:={ nargs:=3,vars:=[0,1,2,3,4,6],body:=(.seq (.reg [w 3 (.bx v0 2),w 4 (.bx v1 1),w 5 (.mv (.i 0))] []) (.seq (.ite [h 2 v3,h 1 v4,u (.ca N.cu 0 [] [.l 1,.l 0]),u (.un .not l0)] [] 0 (.seq (.reg [w 5 (.mv (.i 6))] []) .ret) .skip) (.seq (.ite [f 0 v4,g l0,a 2 l0 (.i 0),f 0 l0,g l0,m v2,u (.ca N.cM 0 [] [.l 1,.l 0]),u (.bin .lss l0 (.i 0))] [] 0 (.seq (.reg [w 5 (.mv (.i 41))] []) .ret) .skip) (.seq (.reg [w 5 (.mv (.i 0))] []) .ret)))),res:=[(5,none)]}
def jy:C:=(.seq (.ite [m v3,m v0,u (.ln l0),u (.bin .lss l2 l0)] [] 0 .skip (.exit 0)) (.seq (.blk 1 (.ite [m v0,m v3,a 1 l1 l0,g l0,m v1,u (.bin .eql l1 l0)] [] 0 (.seq (.reg [m v3,w 2 (.mv l0)] []) .ret) .skip)) (.reg [m v3,u (.bin .add l0 (.i 1)),w 3 (.mv l0)] [])))
def qw:C:= .loop true [2] K.jy
def cM:Fn:={ nargs:=2,vars:=[0,1,4,5],body:=(.seq (.reg [w 2 (.mv (.i 0))] []) (.seq (.seq (.reg [w 3 (.mv (.i 0))] []) (.blk 0 K.qw)) (.seq (.reg [w 2 (.mv (.i (-1)))] []) .ret))),res:=[(2,none)]}
def mb:C:=(.seq (.ite [m v12,m v2,u (.ln l0),u (.bin .lss l2 l0)] [] 0 .skip (.exit 0)) (.seq (.blk 1 (.seq (.reg [m v2,m v12,a 1 l1 l0,g l0,w 13 (.mv l0)] []) (.ite [f 1 v6,g l0,m v13,a 1 l1 l0,g l0,m v4,u (.bin .leq l1 l0)] [] 0 (.reg [m v10,m v13,f 1 v6,g l0,m v13,a 1 l1 l0,g l0,a 1 l6 l5,u (.st l0 l1 1 []),w 11 (.mv (.b true))] []) .skip))) (.reg [m v12,u (.bin .add l0 (.i 1)),w 12 (.mv l0)] [])))
def vY:C:= .loop true [0,1,8,9,13] K.mb
def gP:Fn:={ nargs:=5,vars:=[0,1,2,3,4,5,6,10,11,12,13,14,15,16],body:=(.seq (.reg [w 5 (.bx v0 2),w 6 (.bx v1 2),w 7 (.al [.t (.int .i64 (0)),.nil] []),w 8 (.mv (.i 0))] []) (.seq (.seq (.reg [h 2 v5,h 2 v6,m v2,m v3,m v4,u (.ca N.cy 0 [] [.l 4,.l 3,.l 2,.l 1,.l 0]),w 9 (.mv l0)] []) (.ite [m v9,u (.bin .neq l0 (.i 0))] [] 0 (.seq (.reg [h 2 v6,u (.ca N.cQ 0 [] [.l 0]),m v9,u (.st v7 l1 2 []),w 8 (.mv l1)] []) .ret) .skip)) (.seq (.ite [m v3,f 0 v6,g l0,u (.bin .lss l2 l0)] [] 0 (.seq (.reg [h 2 v6,u (.ca N.cQ 0 [] [.l 0]),u (.st v7 l0 2 []),w 8 (.mv (.i 42))] []) .ret) .skip) (.seq (.reg [f 0 v5,g l0,u (.ln l0),u (.ca N.fm 1 [] [.l 0]),w 10 (.mv l0)] []) (.seq (.reg [w 11 (.mv (.b false))] []) (.seq (.seq (.reg [w 12 (.mv (.i 0))] []) (.blk 0 K.vY)) (.seq (.ite [m v11,u (.un .not l0)] [] 0 (.seq (.reg [h 2 v6,u (.ca N.cQ 0 [] [.l 0]),u (.st v7 l0 2 []),w 8 (.mv (.i 43))] []) .ret) .skip) (.seq (.reg [m v4,h 2 v5,m v10,m v3,u (.ca N.dP 0 [] [.l 2,.l 1,.l 0]),u (.bd [.t (.int .i64 (0)),.nil] [(0,1,.l 4),(1,1,.l 0)]),u (.st v7 l0 2 []),w 8 (.mv (.i 0))] []) .ret)))))))),res:=[(7,some (2,true)),(8,none)]}
def lJ:C:=(.seq (.ite [m v12,m v2,u (.ln l0),u (.bin .lss l2 l0)] [] 0 .skip (.exit 0)) (.seq (.blk 1 (.reg [m v11,m v2,m v12,a 1 l1 l0,g l0,a 1 l4 l0,u (.st l0 (.i 1099511627776) 1 [])] [])) (.reg [m v12,u (.bin .add l0 (.i 1)),w 12 (.mv l0)] [])))
def qx:C:= .loop true [0,1,3,7,9,10] K.lJ
def cN:Fn:={ nargs:=6,vars:=[0,1,2,3,4,5,6,7,12,13,14,15,16],body:=(.seq (.reg [w 6 (.bx v0 2),w 7 (.bx v1 2),w 8 (.al [.t (.int .i64 (0)),.nil] []),w 9 (.mv (.i 0))] []) (.seq (.seq (.reg [h 2 v6,h 2 v7,m v2,m v3,m v4,u (.ca N.cy 0 [] [.l 4,.l 3,.l 2,.l 1,.l 0]),w 10 (.mv l0)] []) (.ite [m v10,u (.bin .neq l0 (.i 0))] [] 0 (.seq (.reg [h 2 v7,u (.ca N.cQ 0 [] [.l 0]),m v10,u (.st v8 l1 2 []),w 9 (.mv l1)] []) .ret) .skip)) (.seq (.ite [m v5,u (.ca N.dn 0 [] [.l 0]),u (.un .not l0)] [] 0 (.seq (.reg [h 2 v7,u (.ca N.cQ 0 [] [.l 0]),u (.st v8 l0 2 []),w 9 (.mv (.i 8))] []) .ret) .skip) (.seq (.ite [m v4,f 0 v7,g l0,u (.bin .lss l2 l0)] [] 0 (.seq (.reg [h 2 v7,u (.ca N.cQ 0 [] [.l 0]),u (.st v8 l0 2 []),w 9 (.mv (.i 42))] []) .ret) .skip) (.seq (.ite [m v4,m v3,f 0 v7,g l0,u (.mx [.l 2,.l 0]),u (.bin .sub l4 l0),m v5,u (.bin .leq l1 l0)] [] 0 (.seq (.reg [h 2 v7,u (.ca N.cQ 0 [] [.l 0]),u (.st v8 l0 2 []),w 9 (.mv (.i 0))] []) .ret) .skip) (.seq (.reg [f 1 v7,g l0,u (.app (.c (.nil)) l0 true 1),w 11 (.mv l0)] []) (.seq (.seq (.reg [w 12 (.mv (.i 0))] []) (.blk 0 K.qx)) (.seq (.reg [m v4,h 2 v6,h 2 v6,m v11,m v4,m v5,u (.bin .sub l1 l0),m v2,u (.ca N.eE 0 [3] [.l 5,.l 4,.l 1,.l 0]),m v4,u (.ca N.dP 0 [] [.l 8,.l 1,.l 0]),u (.bd [.t (.int .i64 (0)),.nil] [(0,1,.l 10),(1,1,.l 0)]),u (.st v8 l0 2 []),w 9 (.mv (.i 0))] [(1,9)]) .ret)))))))),res:=[(8,some (2,true)),(9,none)]}
def j8:C:=(.its [u (.bin .lss v6 v5)] [] 0 .skip (.exit 0) (.seq (.blk 1 (.seq (.reg [m v6,w 4 (.mv l0)] []) (.ite [m v1,m v4,u (.cw l1 0 [] [.l 0])] [] 0 (.reg [m v3,m v4,u (.bs [.l 0] 1),u (.app l2 l0 true 1),w 3 (.mv l0)] []) .skip))) (.reg [u (.bin .add v6 (.i 1)),w 6 (.mv l0)] [])))
def rU:C:= .loop true [0,2,4] K.j8
def b9:Fn:={ nargs:=2,vars:=[0,1,4,5,6,7,8],body:=(.seq (.reg [w 2 (.mv (.c (.nil)))] []) (.seq (.reg [w 3 (.nw 1)] []) (.seq (.seq (.reg [w 5 (.mv v0),w 6 (.mv (.i 0))] []) (.blk 0 K.rU)) (.seq (.reg [m v3,w 2 (.mv l0)] []) .ret)))),res:=[(2,none)]}
def az:Fn:={ nargs:=2,vars:=[0,1,4],body:=(.seq (.reg [w 2 (.mv (.b false))] []) (.seq (.reg [m v0,m v1,u (.ca N.bh 0 [] [.l 1,.l 0]),u (.bin .geq l0 (.i 0)),w 2 (.mv l0)] []) .ret)),res:=[(2,none)]}
def aM:Fn:={ nargs:=2,vars:=[0,1,4],body:=(.seq (.reg [w 2 (.mv (.b false))] []) (.seq (.reg [m v0,m v1,u (.ca N.bE 0 [] [.l 1,.l 0]),u (.bin .geq l0 (.i 0)),w 2 (.mv l0)] []) .ret)),res:=[(2,none)]}
def dw:Fn:={ nargs:=3,vars:=[0,1,2,3,4,5,6],body:=(.seq (.reg [w 3 (.bx v0 1),w 4 (.bx v1 1),w 5 (.bx v2 1),w 6 (.mv (.c (.nil)))] []) (.seq (.reg [u (.mf N.bN [.v 3,.v 4,.v 5]),u (.ca N.b9 0 [] [.i 64,.l 0]),w 6 (.mv l0)] []) .ret)),res:=[(6,none)]}
def gp:Fn:={ nargs:=3,vars:=[0,1,2,3,6],body:=(.seq (.reg [w 3 (.bx v0 2),w 4 (.mv (.b false))] []) (.seq (.reg [m v1,f 0 v3,g l0,u (.bin .leq l2 l0),m l0,y 0 true (.fa v3 0),y 1 true (.ld l0 1 false),y 2 true (.fa v3 1),y 3 true (.ld l0 1 false),y 4 true (.bin .leq l2 l0),u (.pk l5 l0 (.b false)),m l0,y 0 true (.fa v3 1),y 1 true (.ld l0 1 false),y 2 true (.mv v2),y 3 true (.bin .leq l1 l0),u (.pk l4 l0 (.b false)),w 4 (.mv l0)] []) .ret)),res:=[(4,none)]}
def dn:Fn:={ nargs:=1,vars:=[0,2],body:=(.seq (.reg [w 1 (.mv (.b false))] []) (.seq (.reg [m v0,u (.bin .geq l0 (.i 0)),m l0,y 0 true (.mv v0),y 1 true (.bin .leq l0 (.i 2147483648)),u (.pk l2 l0 (.b false)),w 1 (.mv l0)] []) .ret)),res:=[(1,none)]}
def mG:C:=(.seq (.ite [m v3,m v0,u (.bin .lss l1 l0)] [] 0 .skip (.exit 0)) (.seq (.blk 1 (.reg [m v2,u (.bs [.i 1099511627776] 1),u (.app l1 l0 true 1),w 2 (.mv l0)] [])) (.reg [m v3,u (.bin .add l0 (.i 1)),w 3 (.mv l0)] [])))
def rV:C:= .loop true [1] K.mG
def fm:Fn:={ nargs:=1,vars:=[0,2,3,4],body:=(.seq (.reg [w 1 (.mv (.c (.nil)))] []) (.seq (.reg [w 2 (.nw 1)] []) (.seq (.seq (.reg [w 3 (.mv (.i 0))] []) (.blk 0 K.rV)) (.seq (.reg [m v2,w 1 (.mv l0)] []) .ret)))),res:=[(1,none)]}
def dP:Fn:={ nargs:=3,vars:=[0,1,2,3,6],body:=(.seq (.reg [w 3 (.bx v0 2),w 4 (.mv (.c (.nil)))] []) (.seq (.reg [h 2 v3,m v1,m v2,u (.ca N.eE 0 [3] [.l 2,.l 1,.l 0,.c (.nil)]),w 4 (.mv l0)] []) .ret)),res:=[(4,none)]}
def gY:C:=(.seq (.ite [m v3,m v0,u (.ln l0),u (.bin .lss l2 l0),m l0,y 0 true (.mv v3),y 1 true (.mv v1),y 2 true (.ln l0),y 3 true (.bin .lss l2 l0),u (.pk l4 l0 (.b false))] [] 0 .skip (.exit 0)) (.seq (.blk 1 (.ite [m v0,m v3,a 1 l1 l0,g l0,m v1,m v3,a 1 l1 l0,g l0,u (.bin .neq l4 l0)] [] 0 (.seq (.reg [m v0,m v3,a 1 l1 l0,g l0,m v1,m v3,a 1 l1 l0,g l0,u (.bin .lss l4 l0),w 2 (.mv l0)] []) .ret) .skip)) (.reg [m v3,u (.bin .add l0 (.i 1)),w 3 (.mv l0)] [])))
def tY:C:= .loop true [2] K.gY
def gq:Fn:={ nargs:=2,vars:=[0,1,4,5],body:=(.seq (.reg [w 2 (.mv (.b false))] []) (.seq (.seq (.reg [w 3 (.mv (.i 0))] []) (.blk 0 K.tY)) (.seq (.reg [m v0,u (.ln l0),m v1,u (.ln l0),u (.bin .lss l2 l0),w 2 (.mv l0)] []) .ret))),res:=[(2,none)]}
def eD:Fn:={ nargs:=2,vars:=[0,1,2,3,4],body:=(.seq (.reg [w 2 (.bx v0 2),w 3 (.bx v1 2),w 4 (.mv (.b false))] []) (.seq (.reg [h 2 v2,u (.ca N.dA 0 [] [.l 0]),u (.bin .eql l0 (.i 0)),m l0,y 0 true (.ld v3 2 true),y 1 true (.fa v2 0),y 2 true (.ld l0 1 false),y 3 true (.ln l0),y 4 true (.ca N.dQ 0 [] [.l 3,.l 0]),u (.pk l5 l0 (.b false)),m l0,y 0 true (.ld v2 2 true),y 1 true (.fa v3 1),y 2 true (.ld l0 1 false),y 3 true (.fa v3 0),y 4 true (.ld l0 1 false),y 5 true (.ca N.dP 0 [] [.l 4,.l 2,.l 0]),y 6 true (.fa v3 1),y 7 true (.ld l0 1 false),y 8 true (.ca N.cC 0 [] [.l 2,.l 0]),u (.pk l9 l0 (.b false)),w 4 (.mv l0)] [(18,9)]) .ret)),res:=[(4,none)]}
def cQ:Fn:={ nargs:=1,vars:=[0,1,2],body:=(.seq (.reg [w 1 (.bx v0 2),w 2 (.al [.t (.int .i64 (0)),.nil] [])] []) (.seq (.reg [f 0 v1,g l0,f 1 v1,g l0,u (.app (.c (.nil)) l0 true 1),u (.bd [.t (.int .i64 (0)),.nil] [(0,1,.l 3),(1,1,.l 0)]),u (.st v2 l0 2 [])] [(1,5)]) .ret)),res:=[(2,some (2,true))]}
def iu:C:=(.seq (.ite [m v3,m v0,u (.ln l0),u (.bin .lss l2 l0)] [] 0 .skip (.exit 0)) (.seq (.blk 1 (.ite [m v0,m v3,a 1 l1 l0,g l0,m v1,m v3,a 1 l1 l0,g l0,u (.bin .neq l4 l0)] [] 0 (.seq (.reg [w 2 (.mv (.b false))] []) .ret) .skip)) (.reg [m v3,u (.bin .add l0 (.i 1)),w 3 (.mv l0)] [])))
def oD:C:= .loop true [2] K.iu
def cC:Fn:={ nargs:=2,vars:=[0,1,4,5],body:=(.seq (.reg [w 2 (.mv (.b false))] []) (.seq (.ite [m v0,u (.ln l0),m v1,u (.ln l0),u (.bin .neq l2 l0)] [] 0 (.seq (.reg [w 2 (.mv (.b false))] []) .ret) .skip) (.seq (.seq (.reg [w 3 (.mv (.i 0))] []) (.blk 0 K.oD)) (.seq (.reg [w 2 (.mv (.b true))] []) .ret)))),res:=[(2,none)]}
def nT:C:=(.seq (.ite [m v7,f 1 v2,g l0,u (.ln l0),u (.bin .lss l3 l0)] [] 0 .skip (.exit 0)) (.seq (.blk 1 (.reg [f 1 v6,g l0,f 1 v2,g l0,m v7,a 1 l1 l0,g l0,f 1 v3,g l0,m v7,a 1 l1 l0,g l0,u (.mn [.l 5,.l 0]),u (.bs [.l 0] 1),u (.app (.l 12) l0 true 1),f 1 v6,u (.st l0 l1 1 [])] [(1,14)])) (.reg [m v7,u (.bin .add l0 (.i 1)),w 7 (.mv l0)] [])))
def tZ:C:= .loop true [0,1,5] K.nT
def gr:Fn:={ nargs:=2,vars:=[0,1,2,3,4,5,6,7],body:=(.seq (.reg [w 2 (.bx v0 2),w 3 (.bx v1 2),w 4 (.al [.t (.int .i64 (0)),.nil] []),w 5 (.mv (.i 0))] []) (.seq (.ite [f 1 v2,g l0,u (.ln l0),f 1 v3,g l0,u (.ln l0),u (.bin .neq l3 l0)] [] 0 (.seq (.reg [u (.bd [.t (.int .i64 (0)),.nil] []),u (.st v4 l0 2 []),w 5 (.mv (.i 6))] []) .ret) .skip) (.seq (.reg [f 0 v2,g l0,f 0 v3,g l0,u (.mx [.l 2,.l 0]),u (.bd [.t (.int .i64 (0)),.nil] [(0,1,.l 0)]),w 6 (.al [.t (.int .i64 (0)),.nil] [(1,1)]),u (.st l0 l1 2 [(1,1)])] []) (.seq (.seq (.reg [w 7 (.mv (.i 0))] []) (.blk 0 K.tZ)) (.seq (.reg [h 2 v6,u (.st v4 l0 2 []),w 5 (.mv (.i 0))] []) .ret))))),res:=[(4,some (2,true)),(5,none)]}
def cy:Fn:={ nargs:=5,vars:=[0,1,2,3,4,5,6,10],body:=(.seq (.reg [w 5 (.bx v0 2),w 6 (.bx v1 2),w 7 (.mv (.i 0))] []) (.seq (.ite [h 2 v5,h 2 v6,u (.ca N.eD 0 [] [.l 1,.l 0]),u (.un .not l0),m l0,y 0 false (.mv v2),y 1 false (.ln l0),y 2 false (.bin .eql l0 (.i 0)),u (.pk l3 (.b true) l0),m l0,y 0 false (.mv v2),y 1 false (.fa v5 0),y 2 false (.ld l0 1 false),y 3 false (.ln l0),y 4 false (.ca N.je 0 [] [.l 3,.l 0]),y 5 false (.un .not l0),u (.pk l6 (.b true) l0)] [] 0 (.seq (.reg [w 7 (.mv (.i 6))] []) .ret) .skip) (.seq (.ite [m v3,u (.ca N.dn 0 [] [.l 0]),u (.un .not l0),m l0,y 0 false (.mv v4),y 1 false (.ca N.dn 0 [] [.l 0]),y 2 false (.un .not l0),u (.pk l3 (.b true) l0),m l0,y 0 false (.mv v3),y 1 false (.mv v4),y 2 false (.bin .gtr l1 l0),u (.pk l3 (.b true) l0)] [] 0 (.seq (.reg [w 7 (.mv (.i 8))] []) .ret) .skip) (.seq (.reg [w 7 (.mv (.i 0))] []) .ret)))),res:=[(7,none)]}
def ed:C:=(.seq (.ite [m v8,f 1 v4,g l0,u (.ln l0),u (.bin .lss l3 l0)] [] 0 .skip (.exit 2)) (.seq (.blk 3 (.seq (.reg [f 1 v4,g l0,m v8,a 10 l1 l0,h 10 l0,w 9 (.al [.t (.int .i64 (0)),.t (.int .i64 (0)),.t (.int .i64 (0)),.t (.int .i64 (0)),.t (.bool false),.t (.bool false),.t (.int .i64 (0)),.t (.int .i64 (0)),.t (.int .i64 (0)),.t (.int .i64 (0))] []),u (.st l0 l1 10 [])] []) (.seq (.ite [m v3,u (.eqk (.sl) false l0 (.c (.nil))),m l0,y 0 false (.mv v3),y 1 false (.fa v9 1),y 2 false (.ld l0 1 false),y 3 false (.ca N.iF 0 [] [.l 2,.l 0]),u (.pk l4 (.b true) l0),m l0,y 0 true (.mv v6),y 1 true (.fa v9 0),y 2 true (.ld l0 1 false),y 3 true (.fa v9 1),y 4 true (.ld l0 1 false),y 5 true (.ld v4 2 true),y 6 true (.mv v8),y 7 true (.ca N.gu 0 [] [.l 1,.l 0,.b false]),y 8 true (.mv v2),y 9 true (.ca N.dh 0 [0] [.l 8,.l 6,.l 4,.l 1,.l 0]),u (.pk l10 l0 (.b false))] [(11,17),(13,17)] 0 (.reg [w 7 (.mv (.b true))] []) .skip) (.ite [m v3,u (.eqk (.sl) false l0 (.c (.nil))),m l0,y 0 false (.mv v3),y 1 false (.fa v9 0),y 2 false (.ld l0 1 false),y 3 false (.ca N.iF 0 [] [.l 2,.l 0]),u (.pk l4 (.b true) l0),m l0,y 0 true (.mv v6),y 1 true (.fa v9 1),y 2 true (.ld l0 1 false),y 3 true (.fa v9 0),y 4 true (.ld l0 1 false),y 5 true (.ld v4 2 true),y 6 true (.mv v8),y 7 true (.ca N.gu 0 [] [.l 1,.l 0,.b true]),y 8 true (.mv v2),y 9 true (.ca N.dh 0 [0] [.l 8,.l 6,.l 4,.l 1,.l 0]),u (.pk l10 l0 (.b false))] [(11,17),(13,17)] 0 (.reg [w 7 (.mv (.b true))] []) .skip)))) (.reg [m v8,u (.bin .add l0 (.i 1)),w 8 (.mv l0)] [])))
def rW:C:= .loop true [0,1,5,9] K.ed
def j9:C:=(.seq (.ite [m v7] [] 0 .skip (.exit 0)) (.blk 1 (.seq (.reg [w 7 (.mv (.b false))] []) (.seq (.reg [w 8 (.mv (.i 0))] []) (.blk 2 K.rW)))))
def rX:C:= .loop true [0,1,5,8,9] K.j9
def eE:Fn:={ nargs:=4,vars:=[0,1,2,3,4,8,9,10,11,12],body:=(.seq (.reg [w 4 (.bx v0 2),w 5 (.mv (.c (.nil)))] []) (.seq (.reg [m v1,u (.app (.c (.nil)) l0 true 1),w 6 (.mv l0)] []) (.seq (.seq (.reg [w 7 (.mv (.b true))] []) (.blk 0 K.rX)) (.seq (.reg [m v6,w 5 (.mv l0)] []) .ret)))),res:=[(5,none)]}
def du:C:=(.its [u (.bin .lss v5 v4)] [] 0 .skip (.exit 0) (.seq (.blk 1 (.seq (.reg [m v5,w 3 (.mv l0)] []) (.ite [m v1,m v0,m v3,a 1 l1 l0,g l0,u (.cw l4 0 [] [.l 0])] [] 0 (.seq (.reg [m v3,w 2 (.mv l0)] []) .ret) .skip))) (.reg [u (.bin .add v5 (.i 1)),w 5 (.mv l0)] [])))
def iG:C:= .loop true [2,3] K.du
def bh:Fn:={ nargs:=2,vars:=[0,1,4,5,7,8],body:=(.seq (.reg [w 2 (.mv (.i 0))] []) (.seq (.seq (.reg [m v0,w 4 (.ln l0),w 5 (.mv (.i 0))] []) (.blk 0 K.iG)) (.seq (.reg [w 2 (.mv (.i (-1)))] []) .ret))),res:=[(2,none)]}
def ew:C:=(.its [u (.bin .lss v5 v4)] [] 0 .skip (.exit 0) (.seq (.blk 1 (.seq (.reg [m v5,w 3 (.mv l0)] []) (.ite [m v1,m v0,m v3,a 1 l1 l0,g l0,u (.bin .eql l4 l0)] [] 0 (.seq (.reg [m v3,w 2 (.mv l0)] []) .ret) .skip))) (.reg [u (.bin .add v5 (.i 1)),w 5 (.mv l0)] [])))
def ka:C:= .loop true [2,3] K.ew
def bE:Fn:={ nargs:=2,vars:=[0,1,4,5,7,8],body:=(.seq (.reg [w 2 (.mv (.i 0))] []) (.seq (.seq (.reg [m v0,w 4 (.ln l0),w 5 (.mv (.i 0))] []) (.blk 0 K.ka)) (.seq (.reg [w 2 (.mv (.i (-1)))] []) .ret))),res:=[(2,none)]}
def bN:Fn:={ nargs:=4,vars:=[0,1,2,3,4,5],body:=(.seq (.reg [w 4 (.bx v0 1),w 5 (.mv (.b false))] []) (.seq (.reg [f 0 v1,g l0,u (.mf N.bk [.v 2,.v 4,.v 3]),u (.ca N.ak 0 [] [.l 1,.l 0]),w 5 (.mv l0)] []) .ret)),res:=[(5,none)]}
def ak:Fn:={ nargs:=2,vars:=[0,1,4],body:=(.seq (.reg [w 2 (.mv (.b false))] []) (.seq (.reg [m v0,m v1,u (.ca N.aD 0 [] [.l 1,.l 0]),u (.bin .geq l0 (.i 0)),w 2 (.mv l0)] []) .ret)),res:=[(2,none)]}
def bk:Fn:={ nargs:=4,vars:=[0,1,2,3,4,5],body:=(.seq (.reg [w 4 (.bx v0 2),w 5 (.mv (.b false))] []) (.seq (.reg [g v1,f 1 v4,g l0,u (.ln l0),u (.bin .sub l0 (.i 1)),u (.ca N.eu 0 [] [.l 4,.i 0,.l 0]),m l0,y 0 true (.ld v2 1 false),y 1 true (.fa v4 1),y 2 true (.ld l0 1 false),y 3 true (.ld v1 1 false),y 4 true (.ia l1 l0 2),y 5 true (.fa l0 1),y 6 true (.ld l0 1 false),y 7 true (.ln l0),y 8 true (.bin .lss l7 l0),u (.pk l9 l0 (.b false)),m l0,y 0 true (.fa v4 1),y 1 true (.ld l0 1 false),y 2 true (.ld v1 1 false),y 3 true (.ia l1 l0 2),y 4 true (.fa l0 1),y 5 true (.ld l0 1 false),y 6 true (.ld v2 1 false),y 7 true (.ia l1 l0 1),y 8 true (.ld l0 1 false),y 9 true (.ld v3 1 false),y 10 true (.bin .leq l1 l0),u (.pk l11 l0 (.b false)),w 5 (.mv l0)] []) .ret)),res:=[(5,none)]}
def eu:Fn:={ nargs:=3,vars:=[0,1,2,6],body:=(.seq (.reg [w 3 (.mv (.b false))] []) (.seq (.reg [m v0,m v1,u (.bin .geq l1 l0),m l0,y 0 true (.mv v0),y 1 true (.mv v2),y 2 true (.bin .leq l1 l0),u (.pk l3 l0 (.b false)),w 3 (.mv l0)] []) .ret)),res:=[(3,none)]}
def gw:C:=(.seq (.ite [m v4,f 1 v2,g l0,u (.ln l0),u (.bin .lss l3 l0)] [] 0 .skip (.exit 0)) (.seq (.blk 1 (.ite [f 1 v2,g l0,m v4,a 1 l1 l0,g l0,u (.bin .neq l0 (.i 1099511627776)),m l0,y 0 true (.fa v2 1),y 1 true (.ld l0 1 false),y 2 true (.mv v4),y 3 true (.ia l1 l0 1),y 4 true (.ld l0 1 false),y 5 true (.bin .lss l0 (.i 0)),y 6 true (.mv l0),y 0 false (.fa v2 1),y 1 false (.ld l0 1 false),y 2 false (.mv v4),y 3 false (.ia l1 l0 1),y 4 false (.ld l0 1 false),y 5 false (.bin .gtr l0 (.i 2147483648)),y 13 true (.pk l6 (.b true) l0),u (.pk (.l 14) l0 (.b false))] [] 0 (.seq (.reg [w 3 (.mv (.b false))] []) .ret) .skip)) (.reg [m v4,u (.bin .add l0 (.i 1)),w 4 (.mv l0)] [])))
def rY:C:= .loop true [0,1,3] K.gw
def dQ:Fn:={ nargs:=2,vars:=[0,1,2,4,5],body:=(.seq (.reg [w 2 (.bx v0 2),w 3 (.mv (.b false))] []) (.seq (.ite [f 1 v2,g l0,u (.ln l0),m v1,u (.bin .neq l1 l0),m l0,y 0 false (.fa v2 0),y 1 false (.ld l0 1 false),y 2 false (.bin .lss l0 (.i 0)),u (.pk l3 (.b true) l0),m l0,y 0 false (.fa v2 0),y 1 false (.ld l0 1 false),y 2 false (.bin .gtr l0 (.i 2147483648)),u (.pk l3 (.b true) l0)] [] 0 (.seq (.reg [w 3 (.mv (.b false))] []) .ret) .skip) (.seq (.seq (.reg [w 4 (.mv (.i 0))] []) (.blk 0 K.rY)) (.seq (.reg [w 3 (.mv (.b true))] []) .ret)))),res:=[(3,none)]}
def dh:Fn:={ nargs:=5,vars:=[0,1,2,3,4,10,11],body:=(.seq (.reg [w 5 (.mv (.b false))] []) (.seq (.ite [m v3,u (.bin .lss l0 (.i 0)),m l0,y 0 false (.mv v0),y 1 false (.mv v1),y 2 false (.ia l1 l0 1),y 3 false (.ld l0 1 false),y 4 false (.bin .geq l0 (.i 1099511627776)),u (.pk l5 (.b true) l0)] [] 0 (.seq (.reg [w 5 (.mv (.b false))] []) .ret) .skip) (.seq (.reg [m v4,m v0,m v1,a 1 l1 l0,g l0,m v3,u (.bin .add l1 l0),u (.mx [.l 6,.l 0]),w 6 (.mv l0)] []) (.seq (.ite [m v6,u (.bin .gtr l0 (.i 2147483648)),m l0,y 0 false (.mv v6),y 1 false (.mv v0),y 2 false (.mv v2),y 3 false (.ia l1 l0 1),y 4 false (.ld l0 1 false),y 5 false (.bin .geq l4 l0),u (.pk l6 (.b true) l0)] [] 0 (.seq (.reg [w 5 (.mv (.b false))] []) .ret) .skip) (.seq (.reg [m v0,m v2,m v6,a 1 l2 l1,u (.st l0 l1 1 [])] []) (.seq (.reg [w 5 (.mv (.b true))] []) .ret)))))),res:=[(5,none)]}
def gu:Fn:={ nargs:=3,vars:=[0,1,2,3,6],body:=(.seq (.reg [w 3 (.bx v0 2),w 4 (.mv (.i 0))] []) (.seq (.reg [h 2 v3,m v1,m v2,u (.ca N.bV 0 [] [.l 2,.l 1,.l 0,.i 6,.i 9,.i 12]),w 4 (.mv l0)] []) .ret)),res:=[(4,none)]}
def bF:C:=(.its [u (.bin .lss v5 v4)] [] 0 .skip (.exit 0) (.seq (.blk 1 (.seq (.reg [m v5,w 3 (.mv l0)] []) (.ite [m v1,m v0,m v3,a 2 l1 l0,h 2 l0,u (.cw l4 0 [] [.l 0])] [] 0 (.seq (.reg [m v3,w 2 (.mv l0)] []) .ret) .skip))) (.reg [u (.bin .add v5 (.i 1)),w 5 (.mv l0)] [])))
def ee:C:= .loop true [2,3] K.bF
def aD:Fn:={ nargs:=2,vars:=[0,1,4,5,7,8],body:=(.seq (.reg [w 2 (.mv (.i 0))] []) (.seq (.seq (.reg [m v0,w 4 (.ln l0),w 5 (.mv (.i 0))] []) (.blk 0 K.ee)) (.seq (.reg [w 2 (.mv (.i (-1)))] []) .ret))),res:=[(2,none)]}
def bV:Fn:={ nargs:=6,vars:=[0,1,2,3,4,5,6,12,13,14,15,16,17],body:=(.seq (.reg [w 6 (.bx v0 2),w 7 (.mv (.i 0))] []) (.seq (.ite [h 2 v6,u (.ca N.dA 0 [] [.l 0]),u (.bin .neq l0 (.i 0)),m l0,y 0 false (.mv v1),y 1 false (.bin .lss l0 (.i 0)),u (.pk l2 (.b true) l0),m l0,y 0 false (.mv v1),y 1 false (.fa v6 1),y 2 false (.ld l0 1 false),y 3 false (.ln l0),y 4 false (.bin .geq l3 l0),u (.pk l5 (.b true) l0),m l0,y 0 false (.fa v6 1),y 1 false (.ld l0 1 false),y 2 false (.mv v1),y 3 false (.ia l1 l0 10),y 4 false (.fa l0 5),y 5 false (.ld l0 1 false),u (.pk l6 (.b true) l0),m l0,y 0 false (.fa v6 1),y 1 false (.ld l0 1 false),y 2 false (.mv v1),y 3 false (.ia l1 l0 10),y 4 false (.fa l0 4),y 5 false (.ld l0 1 false),y 6 false (.un .not l0),u (.pk l7 (.b true) l0)] [] 0 (.seq (.reg [w 7 (.mv (.i (-1)))] []) .ret) .skip) (.seq (.reg [f 1 v6,g l0,m v1,a 10 l1 l0,h 10 l0,w 8 (.al [.t (.int .i64 (0)),.t (.int .i64 (0)),.t (.int .i64 (0)),.t (.int .i64 (0)),.t (.bool false),.t (.bool false),.t (.int .i64 (0)),.t (.int .i64 (0)),.t (.int .i64 (0)),.t (.int .i64 (0))] []),u (.st l0 l1 10 [])] []) (.seq (.reg [h 10 v8,m v2,u (.ca N.gW 0 [] [.l 1,.l 0]),m l0,u (.ex l0 0),u (.ex l1 1),w 9 (.mv l1),w 10 (.mv l1)] []) (.seq (.reg [f 0 v6,g l0,m v10,a 2 l1 l0,f 0 l0,g l0,f 0 v6,g l0,m v9,a 2 l1 l0,f 0 l0,g l0,u (.bin .sub l6 l0),w 11 (.mv l0)] []) (.seq (.reg [m v5,w 12 (.mv l0)] []) (.seq (.ite [m v11,u (.bin .mul (.i 10) l0),f 2 v8,g l0,u (.bin .gtr l2 l0)] [] 0 (.reg [m v3,w 12 (.mv l0)] []) .skip) (.seq (.ite [m v11,u (.bin .mul (.i (-10)) l0),f 2 v8,g l0,u (.bin .gtr l2 l0)] [] 0 (.reg [m v4,w 12 (.mv l0)] []) .skip) (.seq (.reg [f 2 v8,g l0,u (.bin .mul (.i 10) l0),m v12,u (.bin .add l1 l0),u (.bin .sub l0 (.i 1)),m v12,u (.bin .quo l1 l0),w 7 (.mv l0)] []) .ret))))))))),res:=[(7,none)]}
def gW:Fn:={ nargs:=2,vars:=[0,1,2,4,5],body:=(.seq (.reg [w 2 (.bx v0 10),w 3 (.mv (.i 0)),w 4 (.mv (.i 0))] []) (.seq (.ite [m v1] [] 0 (.seq (.reg [f 1 v2,g l0,f 0 v2,g l0,w 3 (.mv l2),w 4 (.mv l1)] []) .ret) .skip) (.seq (.reg [f 0 v2,g l0,f 1 v2,g l0,w 3 (.mv l2),w 4 (.mv l1)] []) .ret))),res:=[(3,none),(4,none)]}
end Go.Ev.K
namespace Go.Ev
class bR [Lib]:Prop where
 ns:Lib.fs N.dM=some K.dM
 pd:Lib.fs N.cu=some K.cu
 iN:Lib.fs N.bz=some K.bz
 qy:Lib.fs N.gU=some K.gU
 pe:Lib.fs N.dN=some K.dN
 qz:Lib.fs N.gV=some K.gV
 pf:Lib.fs N.dO=some K.dO
 nU:Lib.fs N.cM=some K.cM
 sI:Lib.fs N.gP=some K.gP
 nV:Lib.fs N.cN=some K.cN
 pg:Lib.fs N.b9=some K.b9
 eG:Lib.fs N.az=some K.az
 fU:Lib.fs N.aM=some K.aM
 lK:Lib.fs N.dw=some K.dw
 qA:Lib.fs N.gp=some K.gp
 nW:Lib.fs N.dn=some K.dn
 ph:Lib.fs N.fm=some K.fm
 pj:Lib.fs N.dP=some K.dP
 qB:Lib.fs N.gq=some K.gq
 pn:Lib.fs N.eD=some K.eD
 qC:Lib.fs N.cQ=some K.cQ
 lL:Lib.fs N.cC=some K.cC
 qD:Lib.fs N.gr=some K.gr
 pq:Lib.fs N.cy=some K.cy
 pt:Lib.fs N.eE=some K.eE
 fH:Lib.fs N.bh=some K.bh
 ic:Lib.fs N.bE=some K.bE
 kc:Lib.fs N.bN=some K.bN
 cg:Lib.fs N.ak=some K.ak
 iZ:Lib.fs N.bk=some K.bk
 uY:Lib.fs N.eu=some K.eu
 px:Lib.fs N.dQ=some K.dQ
 pz:Lib.fs N.dh=some K.dh
 qE:Lib.fs N.gu=some K.gu
 cE:Lib.fs N.aD=some K.aD
 nX:Lib.fs N.bV=some K.bV
 qF:Lib.fs N.gW=some K.gW
namespace K
variable [Lib] [bR]
theorem ns:Lib.fs N.dM=some K.dM:=bR.ns
theorem pd:Lib.fs N.cu=some K.cu:=bR.pd
theorem iN:Lib.fs N.bz=some K.bz:=bR.iN
theorem qy:Lib.fs N.gU=some K.gU:=bR.qy
theorem pe:Lib.fs N.dN=some K.dN:=bR.pe
theorem qz:Lib.fs N.gV=some K.gV:=bR.qz
theorem pf:Lib.fs N.dO=some K.dO:=bR.pf
theorem nU:Lib.fs N.cM=some K.cM:=bR.nU
theorem sI:Lib.fs N.gP=some K.gP:=bR.sI
theorem nV:Lib.fs N.cN=some K.cN:=bR.nV
theorem pg:Lib.fs N.b9=some K.b9:=bR.pg
theorem eG:Lib.fs N.az=some K.az:=bR.eG
theorem fU:Lib.fs N.aM=some K.aM:=bR.fU
theorem lK:Lib.fs N.dw=some K.dw:=bR.lK
theorem qA:Lib.fs N.gp=some K.gp:=bR.qA
theorem nW:Lib.fs N.dn=some K.dn:=bR.nW
theorem ph:Lib.fs N.fm=some K.fm:=bR.ph
theorem pj:Lib.fs N.dP=some K.dP:=bR.pj
theorem qB:Lib.fs N.gq=some K.gq:=bR.qB
theorem pn:Lib.fs N.eD=some K.eD:=bR.pn
theorem qC:Lib.fs N.cQ=some K.cQ:=bR.qC
theorem lL:Lib.fs N.cC=some K.cC:=bR.lL
theorem qD:Lib.fs N.gr=some K.gr:=bR.qD
theorem pq:Lib.fs N.cy=some K.cy:=bR.pq
theorem pt:Lib.fs N.eE=some K.eE:=bR.pt
theorem fH:Lib.fs N.bh=some K.bh:=bR.fH
theorem ic:Lib.fs N.bE=some K.bE:=bR.ic
theorem kc:Lib.fs N.bN=some K.bN:=bR.kc
theorem cg:Lib.fs N.ak=some K.ak:=bR.cg
theorem iZ:Lib.fs N.bk=some K.bk:=bR.iZ
theorem uY:Lib.fs N.eu=some K.eu:=bR.uY
theorem px:Lib.fs N.dQ=some K.dQ:=bR.px
theorem pz:Lib.fs N.dh=some K.dh:=bR.pz
theorem qE:Lib.fs N.gu=some K.gu:=bR.qE
theorem cE:Lib.fs N.aD=some K.aD:=bR.cE
theorem nX:Lib.fs N.bV=some K.bV:=bR.nX
theorem qF:Lib.fs N.gW=some K.gW:=bR.qF
end K
end Go.Ev
namespace Go.Ev
open Go
variable [Lib]
noncomputable def aO:aR:=nI Lib.fs
theorem ax{raw f:Nat}{args:List D}{H:aj}{fn:Fn}{r:D×aj}(hf:Lib.fs f=some fn)(hn:fn.nargs=args.length)
 (h:(exS aO fn.body ⟨rM args fn.vars,H⟩).bind (Yb fn.res H.length raw)=some r) (h0:fn.prim=[]:=by rfl):aO raw f args H=some r:=PE hf hn h h0
theorem Cd{raw f:Nat}{args:List D}{H:aj}{fn:Fn}{r:D×aj}(hf:Lib.fs f=some fn)(h0:fn.prim≠[])(h:uL fn.prim args H=some r):aO raw f args H=some r:=GG hf h0 h
theorem dC{gc:Bool}{dead:List Nat}{c:C}{vs:List D}{H:aj}(s:Nat→St)(n:Nat){e:Ex}{st:St}
 (h0:(⟨jA dead vs,H⟩:St)=s 0) (h:∀j,j<n→eY gc dead (s j).H.length (exS aO c (s j))=some (s (j+1)))
 (he:exS aO c (s n)=some (e,st)) (hn:e≠ .normal):exS aO (.loop gc dead c) ⟨vs,H⟩=some (e,st):=by
 show mz gc dead (exS aO c) ⟨jA dead vs,H⟩=_
 rw[h0]
 exact w7 s n h (dk he hn)
theorem uZ{gc:Bool}{dead:List Nat}{c:C}{vs:List D}{H:aj}{p:Ex×St}(h:mz gc dead (exS aO c) ⟨jA dead vs,H⟩=some p):exS aO (.loop gc dead c) ⟨vs,H⟩=some p:=h
class Dat (α:Type) where
 dflt:α
instance : Dat Int := ⟨0⟩
instance : Dat Nat := ⟨0⟩
instance : Dat Bool := ⟨false⟩
instance {α : Type} : Dat (List α) := ⟨[]⟩
def nth{α:Type} [Dat α](l:List α)(j:Nat):α:=l.getD j Dat.dflt
theorem iP{α:Type} [Dat α]{l:List α}{j:Nat}(h:j<l.length):l[j]?=some (nth l j):=by simp[nth,h]
theorem cR{α β:Type} [Dat α](f:α→β){l:List α}{j:Nat}(h:j<l.length):(l.map f)[j]?=some (f (nth l j)):=by rw[List.getElem?_map,iP h];rfl
theorem AE{α β γ:Type} [Dat α](f:β→γ)(g:α→β){l:List α}{j:Nat}(h:j<l.length):((l.map g).map f)[j]?=some (f (g (nth l j))):=by rw[List.getElem?_map,cR g h];rfl
theorem aa{α:Type} [Dat α]{l:List α}{j:Nat}(h:j<l.length):nth l j∈l:=List.mem_of_getElem? (iP h)
theorem bB{α:Type} [Dat α]{l:List α}{j:Nat}{x:α}(h:l[j]?=some x):nth l j=x:=by simp[nth,h]
theorem iv{α:Type} [Dat α]{l:List α}{j:Nat}(h:j<l.length):l.take (j+1)=l.take j++[nth l j]:=by
 rw[List.take_succ_eq_append_getElem h];simp[nth,h]
theorem acf{a b:Int}(h:a<b):(a<b)=True:=by simp[h]
theorem acg{a b:Int}(h:b≤a):(a<b)=False:=by simp[Int.not_lt.2 h]
theorem ach{a b:Int}(h:a≤b):(a≤b)=True:=by simp[h]
theorem aci{a b:Int}(h:b<a):(a≤b)=False:=by simp[Int.not_le.2 h]
theorem acj{a b:Int}(h:a=b):(a=b)=True:=by simp[h]
theorem ack{a b:Int}(h:a≠b):(a=b)=False:=by simp[h]
theorem acm{a b:Nat}(h:a<b):(a<b)=True:=by simp[h]
theorem acn{a b:Nat}(h:b≤a):(a<b)=False:=by simp[Nat.not_lt.2 h]
theorem aco{a b:Nat}(h:a≤b):(a≤b)=True:=by simp[h]
theorem acp{a b:Nat}(h:b<a):(a≤b)=False:=by simp[Nat.not_le.2 h]
theorem acq{a b:Nat}(h:a=b):(a=b)=True:=by simp[h]
theorem acr{a b:Nat}(h:a≠b):(a=b)=False:=by simp[h]
attribute [go_sem] acq acr acf acg ach aci acj ack acm acn aco acp uW cR AE PV
@[go_sem] theorem GS (a b : Nat) : ((a + b : Nat) : Int) = (a : Int) + (b : Int) := (rfl)
@[go_sem] theorem GU : ((1 : Nat) : Int) = 1 := (rfl)
@[go_sem] theorem D1 : ((0 : Nat) : Int) = 0 := (rfl)
@[go_sem] theorem WJ (a b : Int) : a + b - b = a := Int.add_sub_cancel a b
@[go_sem] theorem NV : (0 : Int).toNat = 0 := (rfl)
@[go_sem] theorem QB (n : Nat) : (n : Int).toNat = n := (rfl)
@[go_sem] theorem QC (n : Nat) : ((n : Int) + 1).toNat = n + 1 := (rfl)
@[go_sem] theorem QD (a : Int) : 0 + a = a := Int.zero_add a
@[go_sem] theorem QE (a : Int) : a + 0 = a := Int.add_zero a
@[go_sem] theorem QF (a : Int) : a - 0 = a := Int.sub_zero a
abbrev tI(n:Int):T:= .int .i64 n
abbrev tL(l:List Int):T:= .sl (l.map (.int .i64))
@[go_sem] theorem L8 (H : aj) (n : Nat) (ts : List T) (x : T) : bO (frz H n) (ts.map .t ++ [.t x]) = some (ts ++ [x]) := by
 have:ts.map D.t++[.t x]=(ts++[x]).map .t:=by simp
 rw[this,GL]
@[go_sem] theorem NW {α β : Type} (f : α → β) (a b : List α) : (a ++ b).map f = a.map f ++ b.map f := List.map_append
end Go.Ev
namespace Go.Ev
open Go
variable [Lib] [cn] [bR]
def Mod(n m:Int):Int:=if m<1 then 0 else if n.tmod m<0 then n.tmod m+m else n.tmod m
theorem WK(n m:Int):0≤Mod n m:=by
 unfold Mod
 split
 · omega
 · have h5:=Int.lt_tmod_of_pos n (b:=m) (by omega)
   split<;>omega
theorem WL(n m:Int)(h:1≤m):Mod n m<m:=by
 unfold Mod
 rw[if_neg (by omega)]
 have h3:=Int.tmod_lt_of_pos n (b:=m) (by omega)
 split<;>omega
theorem WM(n m:Int)(hm:m≤4611686018427387904):aO 0 N.jx [I n,I m] []=some (I (Mod n m),[]):=by
 refine ax K.uX rfl ?_
 unfold Mod
 by_cases h1:m<1
 · simp only[go_sem,K.jx,h1,↓reduceIte]
 · have h2:m≠0:=by omega
   have h3:=Int.tmod_lt_of_pos n (b:=m) (by omega)
   have h5:=Int.lt_tmod_of_pos n (b:=m) (by omega)
   by_cases h4:n.tmod m<0
   · simp (disch:=omega) only[go_sem,K.jx,h1,↓reduceIte,h2,h4]
   · simp (disch:=omega) only[go_sem,K.jx,h1,↓reduceIte,h2,h4]
theorem L9(l:List Int):aO 0 N.gT [.t (tL l)] []=some (B (decide (l.length≤400)),[]):=by
 refine ax K.qv rfl ?_
 simp (disch:=omega) only[go_sem,K.gT,↓reduceIte]
 simp only[show((l.length:Int)≤400)=(l.length≤400)by rw[eq_iff_iff];omega]
structure aC where
 L:List Int
 at_:Nat
def aC.obj(d:aC):Obj:= .box [.t (tL d.L),I d.at_]
def aC.dY(d:aC):Prop:=d.L.length≤400
def aC.next(d:aC)(n:Int):Int×aC:=if d.at_<d.L.length then(Mod (nth d.L d.at_) n,⟨d.L,d.at_+1⟩)else(0,d)
theorem aC.NX(d:aC)(n:Int):(d.next n).2.L=d.L:=by unfold aC.next;split<;>rfl
theorem aC.aV{d:aC}(h:d.dY)(n:Int):(d.next n).2.dY:=by unfold aC.dY;rw[d.NX];exact h
theorem aC.dG(d:aC)(n:Int):0≤(d.next n).1:=by unfold aC.next;split<;>simp[WK]
theorem aC.dH(d:aC){n:Int}(h:1≤n):(d.next n).1<n:=by unfold aC.next;split<;>simp[WL _ _ h];omega
theorem fV(d:aC)(n:Int)(hn:n≤4611686018427387904)(hd:d.dY):aO 0 N.aB [.bp 0 0,I n] [d.obj]=some (I (d.next n).1,[(d.next n).2.obj]):=by
 refine ax K.lG rfl ?_
 have hm:=WM (nth d.L d.at_) n hn
 unfold aC.dY at hd
 unfold aC.next aC.obj
 by_cases h1:d.at_<d.L.length
 · simp (disch:=omega) only[go_sem,K.aB,↓reduceIte,↓if_pos,↓if_neg,Int.add_sub_cancel,hm,Int.natCast_add]
 · simp (disch:=omega) only[go_sem,K.aB,↓reduceIte,↓if_pos,↓if_neg]
@[go_sem] theorem Zz (d : aC) : FC (some d.obj) = [] := by simp only [aC.obj, go_sem]
@[go_sem] theorem ZA (f : Nat → Option Nat) (d : aC) : gE f d.obj = some d.obj := by simp only [aC.obj, go_sem]
@[go_sem] theorem ZB (k : Nat) (d : aC) (r : aj) : fG k (d.obj :: r) = fG k r := by simp only [aC.obj, go_sem]
def aC.one(d:aC)(n:Int):Bool×aC:=(decide ((d.next n).1=n-1),(d.next n).2)
theorem aC.Ce{d:aC}(h:d.dY)(n:Int):(d.one n).2.dY:=aC.aV h n
theorem NY(d:aC)(n:Int)(h1:0≤n)(hn:n≤4611686018427387904)(hd:d.dY):aO 0 N.dz [.bp 0 0,I n] [d.obj]=some (B (d.one n).1,[(d.one n).2.obj]):=by
 refine ax K.mF rfl ?_
 have hm:=fV d n hn hd
 unfold aC.one
 simp (disch:=omega) only[go_sem,K.dz,↓reduceIte,hm]
def aC.of(d:aC)(l:List Int):Int×aC:=(nth l (d.next l.length).1.toNat,(d.next l.length).2)
theorem aC.pA{d:aC}(h:d.dY)(l:List Int):(d.of l).2.dY:=aC.aV h _
theorem aC.vZ(d:aC){l:List Int}(h:l≠[]):(d.of l).1∈l:=by
 unfold aC.of
 have hl:0<l.length:=List.length_pos_iff.2 h
 have:=d.dG l.length
 have:=d.dH (n:=l.length) (by omega)
 exact aa (by omega)
theorem Ma(d:aC)(l:List Int)(hl:l≠[])(hl2:l.length≤4294967296)(hd:d.dY):aO 0 N.dm [.bp 0 0,.t (tL l)] [d.obj]=some (I (d.of l).1,[(d.of l).2.obj]):=by
 refine ax K.nL rfl ?_
 have hm:=fV d l.length (by omega) hd
 have h0:0<l.length:=List.length_pos_iff.2 hl
 have h1:=d.dG l.length
 have h2:=d.dH (n:=l.length) (by omega)
 unfold aC.of
 simp (disch:=omega) only[go_sem,K.dm,↓reduceIte,hm]
def aC.lk(d:aC):Nat→List Int×aC
 | 0=>([],d)
 | k+1=>(if((d.lk k).2.next 3).1=0 then(d.lk k).1++[(k:Int)]else(d.lk k).1,((d.lk k).2.next 3).2)
theorem aC.kH{d:aC}(h:d.dY):∀n,(d.lk n).2.dY
 | 0=>h
 | n+1=>aC.aV (aC.kH h n) 3
theorem aC.ua(d:aC):∀n,(d.lk n).1.length≤n
 | 0=>Nat.le_refl _
 | n+1=>by
   have:=d.ua n
   unfold aC.lk
   simp only
   split<;>simp<;>omega
theorem Jb(d:aC)(n:Nat)(hn:n≤1000000)(hd:d.dY):aO 0 N.bU [.bp 0 0,I n] [d.obj]=some (.t (tL (d.lk n).1),[(d.lk n).2.obj]):=by
 refine ax K.lH rfl ?_
 have hlen:=d.ua
 have loop:exS aO K.oB ⟨[.bp 0 0,I n,.nil,.ref 1 0 0,I 0],[d.obj,.arr 1 false 0 []]⟩=
  some (.exit 0,⟨[.bp 0 0,I n,.und,.ref 1 0 (d.lk n).1.length,I n],[(d.lk n).2.obj,.arr 1 false 0 (((d.lk n).1.map (T.int .i64)).map .t)]⟩):=by
  refine dC (fun j=>⟨[.bp 0 0,I n,.und,.ref 1 0 (d.lk j).1.length,I j],[(d.lk j).2.obj,.arr 1 false 0 (((d.lk j).1.map (T.int .i64)).map .t)]⟩) n rfl ?_ ?_ (by simp)
  · intro j hj
    have hm:=fV (d.lk j).2 3 (by omega) (aC.kH hd j)
    have:=hlen j
    by_cases h:((d.lk j).2.next 3).1=0
    · simp (disch:=omega) only[go_sem,K.ir,hm,h,aC.lk,↓reduceIte]
    · simp (disch:=omega) only[go_sem,K.ir,hm,h,aC.lk,↓reduceIte]
  · simp (disch:=omega) only[go_sem,K.ir,↓reduceIte]
 simp (disch:=omega) only[go_sem,K.bU,↓reduceIte,loop]
theorem cF{gc:Bool}{dead:List Nat}{c:C}{vs:List D}{H:aj}(s:Nat→St)(n:Nat)(p:Nat→Bool)(e:Nat→Ex×St)(eN:Ex×St)
 (h0:(⟨jA dead vs,H⟩:St)=s 0) (hs:∀j,j<n→p j=false→eY gc dead (s j).H.length (exS aO c (s j))=some (s (j+1)))
 (he:∀j,j<n→p j=true→exS aO c (s j)=some (e j)∧(e j).1≠ .normal) (hN:exS aO c (s n)=some eN) (hn:eN.1≠ .normal):
 exS aO (.loop gc dead c) ⟨vs,H⟩=some (match (List.range n).find? p with | some j=>e j | none=>eN):=by
 show mz gc dead (exS aO c) ⟨jA dead vs,H⟩=_
 rw[h0]
 cases hf:(List.range n).find? p with
 | none=>
   refine w7 s n (fun j hj=>hs j hj ?_) (dk hN hn)
   have:=List.find?_eq_none.1 hf j (List.mem_range.2 hj)
   simpa using this
 | some k=>
   obtain⟨h1,as,bs,h2,h3⟩:=List.find?_eq_some_iff_append.1 hf
   have hk:k<n:=List.mem_range.1 (List.mem_of_find?_eq_some hf)
   have hlt:∀j,j<k→p j=false:=by
    intro j hj
    have hlen:as.length=k:=by
     have h4:(List.range n)[as.length]?=some k:=by rw[h2];simp
     have h5:as.length<n:=by
      have:=congrArg List.length h2;simp at this;omega
     rw[List.getElem?_range h5]at h4
     exact Option.some.inj h4
    have:j∈as:=by
     have h6:(List.range n)[j]?=some j:=List.getElem?_range (by omega)
     rw[h2,List.getElem?_append_left (by omega)]at h6
     exact List.mem_of_getElem? h6
    simpa using h3 j this
   obtain⟨k1,k2⟩:=he k hk h1
   exact w7 s k (fun j hj=>hs j (by omega) (hlt j hj)) (dk k1 k2)
def iW{α:Type}(f:α→α×Bool):Nat→α→α
 | 0,l=>l
 | n+1,l=>if(f l).2 then iW f n (f l).1 else(f l).1
theorem GV{α:Type}{gc:Bool}{dead:List Nat}{c:C}{vs:List D}{H:aj}(S:α→Bool→St)(E:α→Ex×St)(f:α→α×Bool)(inv:α→Prop)(mes:α→Nat)
 (hinv:∀l,inv l→inv (f l).1∧((f l).2=true→mes (f l).1<mes l))
 (hs:∀l,inv l→eY gc dead (S l true).H.length (exS aO c (S l true))=some (S (f l).1 (f l).2))
 (he:∀l,inv l→exS aO c (S l false)=some (E l)∧(E l).1≠ .normal) (l:α) (hl:inv l) (h0:(⟨jA dead vs,H⟩:St)=S l true):
 exS aO (.loop gc dead c) ⟨vs,H⟩=some (E (iW f (mes l+1) l))∧inv (iW f (mes l+1) l):=by
 have key:∀(n:Nat) (l:α),inv l→mes l<n→mz gc dead (exS aO c) (S l true)=some (E (iW f n l))∧inv (iW f n l):=by
  intro n
  induction n with
  | zero=>intro l _ h;omega
  | succ n ih=>
    intro l hl hm
    obtain⟨h1,h2⟩:=hinv l hl
    have hr:=hs l hl
    cases hf:(f l).2 with
    | true=>
      rw[hf]at hr
      obtain⟨k1,k2⟩:=ih (f l).1 h1 (by have:=h2 hf;omega)
      simp only[iW,hf,if_true]
      exact⟨jO hr k1,k2⟩
    | false=>
      rw[hf]at hr
      obtain⟨k1,k2⟩:=he (f l).1 h1
      simp only[iW,hf,Bool.false_eq_true,if_false]
      exact⟨jO hr (dk k1 k2),h1⟩
 have:=key (mes l+1) l hl (Nat.lt_succ_self _)
 show mz gc dead (exS aO c) ⟨jA dead vs,H⟩=_∧_
 rw[h0];exact this
theorem FE{n:Nat}{p:Nat→Bool}:((List.range n).find? p).isSome=(List.range n).any p:=by
 rw[List.isSome_find?]
theorem x8{n j:Nat}{p:Nat→Bool}(h:(List.range n).find? p=some j):j<n∧p j=true:=⟨List.mem_range.1 (List.mem_of_find?_eq_some h),List.find?_some h⟩
def fe(m:Nat):List D:=(List.range m).map fun i=> .bp i 0
def aS(bs:List (List T)):aj:=bs.map fun cs=> .box (cs.map .t)
theorem zH{bs:List (List T)}{i:Nat}(h:i<bs.length):(aS bs)[i]?=some (.box (bs[i].map .t)):=by simp[aS,h]
theorem ff(bs:List (List T)):(aS bs).length=bs.length:=by simp[aS]
theorem u9:∀(l sel:List Nat),(sel++l).Nodup→eX sel l=sel++l
 | [],sel,_=>by simp[eX]
 | i::r,sel,h=>by
   have:sel.contains i=false:=by
    rw[← Bool.not_eq_true,List.contains_iff_mem]
    intro hm
    have:=List.nodup_append.1 h
    exact this.2.2 i hm i List.mem_cons_self rfl
   simp only[eX,this,Bool.false_eq_true,if_false]
   rw[u9 r (sel++[i]) (by simpa using h)]
   simp
theorem wc:∀(l:List Nat) (i k:Nat),l.Nodup→l[k]?=some i→idxOf l i=some k
 | [],i,k,_,h=>by simp at h
 | a::l,i,0,_,h=>by simp at h;simp[idxOf,h]
 | a::l,i,k+1,hn,h=>by
   simp at h
   have hne:a≠i:=fun e=>(List.nodup_cons.1 hn).1 (e▸List.mem_of_getElem? h)
   simp only[idxOf,if_neg hne,wc l i k (List.nodup_cons.1 hn).2 h,Option.map_some]
theorem D2{m i:Nat}(h:i<m):idxOf (List.range m) i=some i:=wc _ _ _ List.nodup_range (List.getElem?_range h)
theorem D3{α:Type}{f:α→Option α}:∀ {l:List α},(∀x∈l,f x=some x)→bO f l=some l
 | [],_=>rfl
 | a::l,h=>by
   simp only[bO,h a List.mem_cons_self,Option.bind_some,D3 fun x hx=>h x (List.mem_cons_of_mem _ hx),Option.map_some]
theorem D4(f:Nat→Option Nat)(cs:List T):gE f (.box (cs.map .t))=some (.box (cs.map .t)):=by
 simp only[GP,rq,Option.map_some]
theorem Cf{H:aj}:∀ {l:List Nat} {hs:aj},l.length=hs.length→(∀(k i:Nat) (o:Obj),l[k]?=some i→hs[k]?=some o→H[i]?=some o)→pick H l=some hs
 | [],[],_,_=>rfl
 | [],_::_,h,_=>by simp at h
 | _::_,[],h,_=>by simp at h
 | i::l,o::hs,h,hg=>by
   rw[I5,hg 0 i o rfl rfl,Option.bind_some,L4,Cf (l:=l) (hs:=hs) (by simpa using h) fun k i o hk ho=>hg (k+1) i o (by simpa using hk) (by simpa using ho)]
   rfl
theorem we{H:aj}:∀ {l:List Nat} {os:aj},(∀(k i:Nat) (o:Obj),l[k]?=some i→os[k]?=some o→H[i]?=some o)→de H l os=H
 | [],os,_=>by cases os<;>rfl
 | i::l,[],_=>rfl
 | i::l,o::os,hg=>by
   simp only[de]
   rw[AB (hg 0 i o rfl rfl)]
   exact we fun k i o hk ho=>hg (k+1) i o (by simpa using hk) (by simpa using ho)
theorem Cg(call:aR)(bs:List (List T))(E:aj)(f raw:Nat)(args:List D){r:D}(h:call raw f args (aS bs)=some (r,aS bs))(hr:wL r=true)
 (ha:∀H:aj,oR H [] 0 args=some args∧cD H [] 0 args=[]) (hids:eX [] (x7 8 args)=List.range bs.length)
 (hren:bO (ren (idxOf (List.range bs.length)) 8) args=some args):GK (aS bs++E) call f raw [] args=some (r,aS bs++E):=by
 generalize hH:aS bs++E=H
 have hget:∀i (hi:i<bs.length),H[i]?=some (.box (bs[i].map .t)):=fun i hi=>by
  rw[← hH,List.getElem?_append_left (by rw[ff];exact hi),zH hi]
 obtain⟨ha,hfz⟩:=ha H
 have hno:ot H (List.range bs.length)=[]:=by
  simp only[ot,List.flatMap_eq_nil_iff,List.mem_range]
  intro i hi
  rw[hget i hi]
  exact FA 8 bs[i]
 have hsel:reach H 3 (List.range bs.length)=List.range bs.length:=by
  simp only[reach,hno,eX]
 have hget2:∀(k i:Nat) (o:Obj),(List.range bs.length)[k]?=some i→(aS bs)[k]?=some o→H[i]?=some o:=by
  intro k i o hk ho
  have hkl:k<bs.length:=by have:=(List.getElem?_eq_some_iff.1 hk).1;simpa using this
  rw[List.getElem?_range hkl]at hk
  cases hk
  rw[zH hkl]at ho
  rw[hget k hkl,←ho]
 have hpick:pick H (List.range bs.length)=some (aS bs):=Cf (by simp[ff]) hget2
 have hro:∀f:Nat→Option Nat,bO (gE f) (aS bs)=some (aS bs):=fun f=>D3 fun o ho=>by
  simp only[aS,List.mem_map]at ho
  obtain⟨cs,_,rfl⟩:=ho
  exact D4 f cs
 have hput:de H (List.range bs.length) (aS bs)=H:=we hget2
 rw[LR,LS,ha,Option.bind_some,LU,hids,hsel,LV,hren,Option.bind_some,hfz,LW]
 simp only[pins]
 rw[hpick,Option.bind_some,LX,hro,Option.bind_some,LY,h,Option.bind_some]
 cases hb:bs with
 | nil=>
   subst hb
   have hrr:=Ay (f:=et [] H.length) hr
   simp only[depth]at hrr
   simp only[List.length_nil,List.range_zero,aS,List.map_nil]
   unfold sD
   split
   · rfl
   · rw[Fy,hrr,Option.bind_some,Fx]
     simp[bO,LZ,de]
 | cons b bt=>
   rw[← hb]
   have hne:List.range bs.length=0::(List.range' 1 bt.length):=by rw[hb];simp[List.range_eq_range',List.range'_succ]
   have hrr:=Ay (f:=et (List.range bs.length) H.length) hr
   simp only[depth]at hrr
   have hw:sD H H (List.range bs.length) (r,aS bs)=Az H H.length (List.range bs.length) (r,aS bs):=by
    rw[hne];rfl
   rw[hw,Fy,hrr,Option.bind_some,Fx,hro,Option.bind_some,L1,List.length_range,List.take_of_length_le (by rw[ff];exact Nat.le_refl _),hput,
    List.drop_eq_nil_of_le (by rw[ff];exact Nat.le_refl _),List.append_nil]
theorem D5(H:aj)(cs:List D)(hc:∀i,oR H [] i cs=some cs∧cD H [] i cs=[]):∀(ts:List T) (i:Nat),oR H [] i (ts.map .t++cs)=some (ts.map .t++cs)∧cD H [] i (ts.map .t++cs)=[]
 | [],i=>hc i
 | t::ts,i=>by
   obtain⟨h1,h2⟩:=D5 H cs hc ts (i+1)
   simp only[List.map_cons,List.cons_append,zG,qs,Dq,NM,Wd,Option.bind_some,I2,h1,h2,Ww,I0]
   exact⟨rfl,rfl⟩
theorem Ch(H:aj):∀(l:List Nat) (i:Nat),oR H [] i (l.map fun i=> .bp i 0)=some (l.map fun i=> .bp i 0)∧cD H [] i (l.map fun i=> .bp i 0)=[]
 | [],i=>⟨rfl,rfl⟩
 | a::l,i=>by
   obtain⟨h1,h2⟩:=Ch H l (i+1)
   simp only[List.map_cons,zG,qs,Dq,NM,Qc,Option.bind_some,I2,h1,h2,Ww,Qi]
   exact⟨rfl,rfl⟩
theorem Ci(n m:Nat):x7 n (fe m)=List.range m:=by
 simp only[x7,fe,List.flatMap_map]
 have:∀l:List Nat,(l.flatMap fun a=>ids n (.bp a 0))=l:=by
  intro l
  induction l with
  | nil=>rfl
  | cons a l ih=>rw[List.flatMap_cons,ih,WA];rfl
 exact this _
theorem FF(n m:Nat):bO (ren (idxOf (List.range m)) n) (fe m)=some (fe m):=D3 fun d hd=>by
 simp only[fe,List.mem_map,List.mem_range]at hd
 obtain⟨k,hk,rfl⟩:=hd
 rw[WE,D2 hk];rfl
theorem AF{α β:Type}{f:α→Option β}:∀ {a b:List α} {x y:List β},bO f a=some x→bO f b=some y→bO f (a++b)=some (x++y)
 | [],b,x,y,h1,h2=>by simp[bO]at h1;subst h1;exact h2
 | c::a,b,x,y,h1,h2=>by
   simp only[bO,Option.bind_eq_some_iff,Option.map_eq_some_iff]at h1
   obtain⟨z,hz,r,hr,rfl⟩:=h1
   simp only[List.cons_append,bO,hz,Option.bind_some,AF hr h2,Option.map_some]
theorem Jc(call:aR)(bs:List (List T))(E:aj)(f raw:Nat)(ts:List T){r:D}(h:call raw f (ts.map .t++fe bs.length) (aS bs)=some (r,aS bs))(hr:wL r=true):
 GK (aS bs++E) call f raw [] (ts.map .t++fe bs.length)=some (r,aS bs++E):=
 Cg call bs E f raw _ h hr (fun H=>D5 H _ (Ch H _) ts 0)
  (by rw[FB,FA,List.nil_append,Ci,u9 _ _ (by simpa using List.nodup_range),List.nil_append])
  (AF (rq _ _ _) (FF _ _))
theorem QG(call:aR)(bs:List (List T))(E:aj)(g f raw:Nat)(ts:List T){r:D}(h:call raw f (ts.map .t++[.fn g (fe bs.length)]) (aS bs)=some (r,aS bs))(hr:wL r=true):
 GK (aS bs++E) call f raw [] (ts.map .t++[.fn g (fe bs.length)])=some (r,aS bs++E):=
 Cg call bs E f raw _ h hr (fun H=>D5 H _ (fun i=>⟨rfl,rfl⟩) ts 0)
  (by rw[FB,FA,List.nil_append,I3,WB,Ci,L3,List.append_nil,u9 _ _ (by simpa using List.nodup_range),List.nil_append])
  (AF (rq _ _ _) (by rw[B6,WI,FF];rfl))
theorem Cj{f:Nat}{bs:List (List T)}{x:T}{r:D}(E:aj)(h:aO 0 f (.t x::fe bs.length) (aS bs)=some (r,aS bs))(hr:wL r=true):
 GK (aS bs++E) aO f 0 [] (.t x::fe bs.length)=some (r,aS bs++E):=Jc aO bs E f 0 [x] h hr
theorem mi{f:Nat}{bs:List (List T)}{x:T}{r:D}(h:aO 0 f (.t x::fe bs.length) (aS bs)=some (r,aS bs))(hr:wL r=true):
 GK (aS bs) aO f 0 [] (.t x::fe bs.length)=some (r,aS bs):=by
 have:=Cj [] h hr;rwa [List.append_nil]at this
theorem vd(call:aR)(bs:List (List T))(g f raw:Nat)(x:T){r:D}(h:call raw f [.t x,.fn g (fe bs.length)] (aS bs)=some (r,aS bs))(hr:wL r=true):
 GK (aS bs) call f raw [] [.t x,.fn g (fe bs.length)]=some (r,aS bs):=by
 have:=QG call bs [] g f raw [x] h hr
 rwa [List.append_nil]at this
section
variable (bs : List (List T)) (o o' : Obj)
@[go_sem] theorem Mb : (aS bs).length = bs.length := ff bs
@[go_sem] theorem TQ : (aS bs ++ [o])[bs.length]? = some o := by
 rw[List.getElem?_append_right (by rw[ff];exact Nat.le_refl _),ff];simp
@[go_sem] theorem WN : (aS bs ++ [o]).set bs.length o' = aS bs ++ [o'] := by
 rw[List.set_append_right _ _ (by rw[ff];exact Nat.le_refl _),ff];simp
@[go_sem] theorem TR : (aS bs ++ [o]).take bs.length = aS bs := by
 rw[List.take_append_of_le_length (by rw[ff];exact Nat.le_refl _),List.take_of_length_le (by rw[ff];exact Nat.le_refl _)]
@[go_sem] theorem QH : (aS bs ++ [o]).take (bs.length + 1) = aS bs ++ [o] := List.take_of_length_le (by simp [ff])
@[go_sem] theorem QI : (aS bs).take bs.length = aS bs := List.take_of_length_le (by simp [ff])
@[go_sem] theorem QJ (k : Nat) (a b : aj) : fG k (a ++ b) = (fG k a && fG k b) := by
 rw[← mh,←mh,←mh,List.all_append]
@[go_sem] theorem Mc (k : Nat) : fG k (aS bs) = true := by
 induction bs with
 | nil=>rfl
 | cons b r ih=>
   show(fB k 8 (b.map .t)&&fG k (aS r))=true
   rw[Fv,ih];rfl
@[go_sem] theorem ZC (n : Nat) : ltB n (n + 1) = true := by rw [o6]; simp
@[go_sem] theorem ZD (n : Nat) : ltB n n = false := by rw [o6]; simp
theorem wg(k n m:Nat)(h:m≤k):fB k n (fe m)=true:=by
 unfold fB fe
 rw[List.all_eq_true]
 intro d hd
 obtain⟨i,hi,rfl⟩:=List.mem_map.1 hd
 rw[We,o6]
 have:=List.mem_range.1 hi
 simp;omega
@[go_sem] theorem QK (n m : Nat) : fB m n (fe m) = true := wg _ _ _ (Nat.le_refl _)
@[go_sem] theorem NZ (n m : Nat) : fB (m + 1) n (fe m) = true := wg _ _ _ (Nat.le_succ _)
end
def gx(n:Nat)(p:Nat→Bool):List Int:=((List.range n).filter p).map (fun(i:Nat)=>(i:Int))
theorem x9(n:Nat)(p:Nat→Bool):gx (n+1) p=if p n=true then gx n p++[(n:Int)]else gx n p:=by
 unfold gx
 rw[List.range_succ,List.filter_append,List.map_append]
 by_cases h:p n=true<;>simp[h]
theorem oE(n:Nat)(p:Nat→Bool):(gx n p).length≤n:=by
 unfold gx
 rw[List.length_map]
 have:=List.length_filter_le p (List.range n)
 simpa using this
theorem w9(n:Nat)(hn:n≤1000000)(f:Nat)(bs:List (List T))(p:Nat→Bool)(h:∀k,k<n→aO 0 f (I k::fe bs.length) (aS bs)=some (B (p k),aS bs)):
 aO 0 N.b9 [I n,.fn f (fe bs.length)] (aS bs)=some (.t (tL (gx n p)),aS bs):=by
 refine ax K.pg rfl ?_
 have hlen:=fun k=>oE k p
 have loop:exS aO K.rU ⟨[I n,.fn f (fe bs.length),.nil,.ref bs.length 0 0,.und,I n,I 0],aS bs++[.arr 1 false 0 []]⟩=
  some (.exit 0,⟨[.und,.fn f (fe bs.length),.und,.ref bs.length 0 (gx n p).length,.und,I n,I n],aS bs++[.arr 1 false 0 (((gx n p).map (T.int .i64)).map .t)]⟩):=by
  refine dC (fun j=>⟨[.und,.fn f (fe bs.length),.und,.ref bs.length 0 (gx j p).length,.und,I n,I j],aS bs++[.arr 1 false 0 (((gx j p).map (T.int .i64)).map .t)]⟩) n rfl ?_ ?_ (by simp)
  · intro j hj
    have hc:=Cj [.arr 1 false 0 (((gx j p).map (T.int .i64)).map .t)] (h j hj) rfl
    have:=hlen j
    by_cases hp:p j=true
    · simp (disch:=omega) only[go_sem,K.j8,hc,hp,x9,↓reduceIte]
    · simp (disch:=omega) only[go_sem,K.j8,hc,hp,x9,↓reduceIte]
  · simp (disch:=omega) only[go_sem,K.j8,↓reduceIte]
 simp (disch:=omega) only[go_sem,K.b9,↓reduceIte,loop]
end Go.Ev
namespace Go.Ev
open Go
variable [Lib] [cn] [bR]
theorem nu{α:Type}(sz:Nat)(f:α→T)(h:∀a,nJ sz (f a).cells=true):∀l:List α,cm sz (l.map f)=true
 | []=>rfl
 | a::l=>by rw[List.map_cons,tP,h,nu sz f h l];rfl
@[go_sem] theorem N0 (k : IntKind) (l : List Int) : cm 1 (l.map (.int k)) = true := nu 1 _ (fun _ => rfl) l
theorem uc(sz:Nat):∀ts:List T,(ts.all fun e=>e.cells.length==sz)=cm sz ts
 | []=>rfl
 | t::ts=>by
   rw[List.all_cons,tP,uc sz ts]
   congr 1
   rw[Bool.eq_iff_iff,fk];simp
section
variable (H : aj) (sz : Nat) (ts : List T) (i j : Int)
@[go_sem] theorem acs : B9 H sz (some (.t (.sl ts))) (some none) (some (some i)) = if 0 ≤ i then (if i ≤ ts.length then (if cm sz ts = true then some (.t (.sl (ts.take i.toNat)), H) else none) else none) else none := by
 simp only[B9,Option.bind_some,ni,bound,uc,idx]
 by_cases h1:0≤i
 · rw[if_pos h1,if_pos h1,Option.bind_some]
   by_cases h2:i≤ts.length
   · rw[if_pos h2]
     by_cases h3:cm sz ts=true
     · rw[if_pos h3,if_pos ⟨by omega,by omega,h3⟩];rfl
     · rw[if_neg h3,if_neg fun h=>h3 h.2.2];rfl
   · rw[if_neg h2,if_neg fun h=>h2 (by omega)];rfl
 · rw[if_neg h1,if_neg h1];rfl
@[go_sem] theorem acu : B9 H sz (some (.t (.sl ts))) (some (some i)) (some none) = if 0 ≤ i then (if i ≤ ts.length then (if cm sz ts = true then some (.t (.sl (ts.drop i.toNat)), H) else none) else none) else none := by
 simp only[B9,Option.bind_some,ni,bound,uc,idx]
 by_cases h1:0≤i
 · rw[if_pos h1,if_pos h1,Option.bind_some]
   by_cases h2:i≤ts.length
   · rw[if_pos h2]
     by_cases h3:cm sz ts=true
     · rw[if_pos h3,if_pos ⟨by omega,by omega,h3⟩,List.take_of_length_le (by simp)];rfl
     · rw[if_neg h3,if_neg fun h=>h3 h.2.2];rfl
   · rw[if_neg h2,if_neg fun h=>h2 (by omega)];rfl
 · rw[if_neg h1,if_neg h1];rfl
@[go_sem] theorem WO : B9 H sz (some (.t (.sl ts))) (some (some i)) (some (some j)) = if 0 ≤ i then (if i ≤ j then (if j ≤ ts.length then (if cm sz ts = true then some (.t (.sl ((ts.drop i.toNat).take (j.toNat - i.toNat))), H) else none) else none) else none) else none := by
 simp only[B9,Option.bind_some,ni,bound,uc,idx]
 by_cases h1:0≤i
 · rw[if_pos h1,if_pos h1,Option.bind_some]
   by_cases h0:i≤j
   · rw[if_pos h0,if_pos (by omega:0≤j),Option.bind_some]
     by_cases h2:j≤ts.length
     · rw[if_pos h2]
       by_cases h3:cm sz ts=true
       · rw[if_pos h3,if_pos ⟨by omega,by omega,h3⟩];rfl
       · rw[if_neg h3,if_neg fun h=>h3 h.2.2];rfl
     · rw[if_neg h2,if_neg fun h=>h2 (by omega)];rfl
   · rw[if_neg h0]
     by_cases h2:0≤j
     · rw[if_pos h2,Option.bind_some,if_neg fun h=>h0 (by omega)];rfl
     · rw[if_neg h2];rfl
 · rw[if_neg h1,if_neg h1];rfl
end
def bsK(H:aj)(l:List Nat):Option T→Option (D×aj)
 | some t=>some (.t (.sl [t]),pins H l)
 | none=>none
@[go_sem] theorem ZE (H : aj) (l : List Nat) (t : T) : bsK H l (some t) = some (.t (.sl [t]), pins H l) := (rfl)
@[go_sem] theorem ZF (H : aj) (sz : Nat) (cs : List D) : zF H sz [.agg cs] = if nJ sz cs = true then bsK H (eW H 8 (.agg cs)) (frz H 8 (.agg cs)) else none := by
 simp only[zF,List.all_cons,List.all_nil,Bool.and_true,D.cells]
 by_cases h:nJ sz cs=true
 · rw[if_pos h,if_pos (by simpa using fk.1 h)]
   simp only[bO,depth,List.flatMap_cons,List.flatMap_nil,List.append_nil]
   cases frz H 8 (.agg cs)<;>rfl
 · rw[if_neg h,if_neg (by intro e;exact h (fk.2 (by simpa using e)))]
@[go_sem] theorem ZG (H : aj) (id ep n : Nat) : zF H 1 [.ref id ep n] = bsK H (eW H 8 (.ref id ep n)) (frz H 8 (.ref id ep n)) := by
 simp only[zF,List.all_cons,List.all_nil,Bool.and_true,D.cells,List.length_cons,List.length_nil,beq_self_eq_true,if_true,bO,depth,List.flatMap_cons,List.flatMap_nil,List.append_nil]
 cases frz H 8 (.ref id ep n)<;>rfl
def QL(H:aj)(r:D)(os:aj):D×aj:=(r,H++os)
@[go_sem] theorem ZH (H : aj) (r : D) (os : aj) : QL H r os = (r, H ++ os) := (rfl)
def WQ(H:aj)(os:aj)(r:D):Option (D×aj):=(bO (gE (et [] H.length)) os).map (QL H r)
@[go_sem] theorem ZI (H : aj) (os : aj) (r : D) : WQ H os r = (bO (gE (et [] H.length)) os).map (QL H r) := (rfl)
@[go_sem] theorem WR (H : aj) (r : D) (o : Obj) (os : aj) : xZ H (r, o :: os) = (ren (et [] H.length) 8 r).bind (WQ H (o :: os)) := by
 simp only[xZ,List.isEmpty_cons,Bool.and_false,Bool.false_eq_true,if_false]
 rfl
end Go.Ev
namespace Go.Ev
open Go
variable [Lib] [cn] [bR]
structure Place where
 h:Int
 surf:Bool
instance : Dat Place := ⟨⟨0, false⟩⟩
abbrev Place.e(p:Place):T:= .agg [tI p.h,.bool p.surf]
structure Road where
 frm:Int
 to:Int
 len:Int
 area:Int
 walk:Bool
 closed:Bool
 restL:Int
 restH:Int
 liftL:Int
 liftH:Int
instance : Dat Road := ⟨⟨0, 0, 0, 0, false, false, 0, 0, 0, 0⟩⟩
abbrev Road.e(r:Road):T:= .agg [tI r.frm,tI r.to,tI r.len,tI r.area,.bool r.walk,.bool r.closed,tI r.restL,tI r.restH,tI r.liftL,tI r.liftH]
structure aT where
 places:List Place
 roads:List Road
instance : Dat aT := ⟨⟨[], []⟩⟩
abbrev aT.e(m:aT):T:= .agg [.sl (m.places.map Place.e),.sl (m.roads.map Road.e)]
structure Road.ok(n:Nat)(r:Road):Prop where
 f0:0≤r.frm
 f1:r.frm<n
 t0:0≤r.to
 t1:r.to<n
 ne:r.frm≠r.to
 l0:1≤r.len
 l1:r.len≤100000
 a0:1≤r.area
 a1:r.area≤1000
 r0:1≤r.restL
 r1:r.restL≤r.restH
 r2:r.restH≤262144
 i0: -2199023255552≤r.liftL
 i1:r.liftL≤r.liftH
 i2:r.liftH≤2199023255552
structure aT.ok(m:aT):Prop where
 np:m.places.length≤64
 nr:m.roads.length≤128
 hs:∀p∈m.places, -10000≤p.h∧p.h≤10000
 rs:∀r∈m.roads,r.ok m.places.length
theorem Ck(a b lo hi:Int):aO 0 N.gp [.t (.agg [tI a,tI b]),I lo,I hi] []=some (B (decide (lo≤a∧a≤b∧b≤hi)),[]):=by
 refine ax K.qA rfl ?_
 by_cases h1:lo≤a<;>by_cases h2:a≤b<;>by_cases h3:b≤hi<;>simp (disch:=omega) only[go_sem,K.gp,↓reduceIte,h1,h2,h3]
theorem ud{m:aT}(h:m.ok):aO 0 N.dA [.t m.e] []=some (I 0,[]):=by
 refine ax K.o8 rfl ?_
 have np:=h.np
 have nr:=h.nr
 have loop1:∀a b c d e:D,exS aO K.rS ⟨[a,.bp 0 0,b,I 0,c,d,e],[.box [.t (.sl (m.places.map Place.e)),.t (.sl (m.roads.map Road.e))]]⟩=
  some (.exit 0,⟨[.und,.bp 0 0,.und,I m.places.length,.und,.und,.und],[.box [.t (.sl (m.places.map Place.e)),.t (.sl (m.roads.map Road.e))]]⟩):=by
  intro a b c d e
  refine dC (fun j=>⟨[.und,.bp 0 0,.und,I j,.und,.und,.und],[.box [.t (.sl (m.places.map Place.e)),.t (.sl (m.roads.map Road.e))]]⟩) m.places.length rfl ?_ ?_ (by simp)
  · intro j hj
    have hh:=h.hs _ (aa hj)
    simp (disch:=omega) only[go_sem,K.mD,↓reduceIte]
  · simp (disch:=omega) only[go_sem,K.mD,↓reduceIte]
 have loop2:∀a b c d e:D,exS aO K.rT ⟨[a,.bp 0 0,b,c,d,I 0,e],[.box [.t (.sl (m.places.map Place.e)),.t (.sl (m.roads.map Road.e))]]⟩=
  some (.exit 2,⟨[.und,.bp 0 0,.und,.und,.und,I m.roads.length,.und],[.box [.t (.sl (m.places.map Place.e)),.t (.sl (m.roads.map Road.e))]]⟩):=by
  intro a b c d e
  refine dC (fun j=>⟨[.und,.bp 0 0,.und,.und,.und,I j,.und],[.box [.t (.sl (m.places.map Place.e)),.t (.sl (m.roads.map Road.e))]]⟩) m.roads.length rfl ?_ ?_ (by simp)
  · intro j hj
    obtain⟨f0,f1,t0,t1,ne,l0,l1,a0,a1,r0,r1,r2,i0,i1,i2⟩:=h.rs _ (aa hj)
    have s1:=Ck (nth m.roads j).restL (nth m.roads j).restH 1 262144
    have s2:=Ck (nth m.roads j).liftL (nth m.roads j).liftH (-2199023255552) 2199023255552
    simp (disch:=omega) only[go_sem]at s1 s2
    simp (disch:=omega) only[go_sem,K.mE,↓reduceIte,s1,s2]
  · simp (disch:=omega) only[go_sem,K.mE,↓reduceIte]
 simp (disch:=omega) only[go_sem,K.dA,↓reduceIte,loop1,loop2]
theorem D6{l:List Int}{p:Int→Bool}:((List.range l.length).find? fun j=>p (nth l j)).isSome=l.any p:=by
 rw[List.isSome_find?,Bool.eq_iff_iff,List.any_eq_true,List.any_eq_true]
 constructor
 · rintro ⟨j,hj,h⟩
   exact⟨_,aa (List.mem_range.1 hj),h⟩
 · rintro ⟨x,hx,h⟩
   obtain⟨j,hj⟩:=List.mem_iff_getElem?.1 hx
   exact⟨j,List.mem_range.2 (List.getElem?_eq_some_iff.1 hj).1,by rw[bB hj];exact h⟩
theorem N1(l:List Int)(x:Int)(hl:l.length≤4294967296):aO 0 N.iF [.t (tL l),I x] []=some (B (decide (x∈l)),[]):=by
 refine ax K.sF rfl ?_
 have loop:∀a:D,exS aO K.vW ⟨[.t (tL l),I x,a,I 0],[]⟩=
  some (match (List.range l.length).find? (fun j=>decide (nth l j=x))with
   | some j=>(.ret,⟨[.t (tL l),I x,B true,I j],[]⟩)
   | none=>(.exit 0,⟨[.t (tL l),I x,.und,I l.length],[]⟩)):=by
  intro a
  refine cF (fun j=>⟨[.t (tL l),I x,.und,I j],[]⟩) l.length (fun j=>decide (nth l j=x)) _ _ rfl ?_ ?_ ?_ (by simp)
  · intro j hj hp
    have hp:¬nth l j=x:=of_decide_eq_false hp
    simp (disch:=omega) only[go_sem,K.ma,↓reduceIte]
  · intro j hj hp
    have hp:nth l j=x:=of_decide_eq_true hp
    simp (disch:=omega) only[go_sem,K.ma,↓reduceIte,hp]
    simp
  · simp (disch:=omega) only[go_sem,K.ma,↓reduceIte]
 have e:=D6 (l:=l) (p:=fun y=>decide (y=x))
 have e2:l.any (fun y=>decide (y=x))=decide (x∈l):=by rw[Bool.eq_iff_iff];simp
 rw[e2]at e
 simp only[go_sem,K.iF,↓reduceIte,loop]
 cases hf:(List.range l.length).find? (fun j=>decide (nth l j=x))with
 | some j=>rw[hf]at e;simp (disch:=omega) only[go_sem,↓reduceIte,←e]
 | none=>rw[hf]at e;simp (disch:=omega) only[go_sem,↓reduceIte,←e,Option.isSome_none]
theorem D7(a b:List Int)(hl:a.length≤4294967296):aO 0 N.cC [.t (tL a),.t (tL b)] []=some (B (decide (a=b)),[]):=by
 refine ax K.lL rfl ?_
 by_cases hlen:a.length=b.length
 · have loop:∀c:D,exS aO K.oD ⟨[.t (tL a),.t (tL b),c,I 0],[]⟩=
    some (match (List.range a.length).find? (fun j=>decide (nth a j≠nth b j))with
     | some j=>(.ret,⟨[.t (tL a),.t (tL b),B false,I j],[]⟩)
     | none=>(.exit 0,⟨[.t (tL a),.t (tL b),.und,I a.length],[]⟩)):=by
    intro c
    refine cF (fun j=>⟨[.t (tL a),.t (tL b),.und,I j],[]⟩) a.length (fun j=>decide (nth a j≠nth b j)) _ _ rfl ?_ ?_ ?_ (by simp)
    · intro j hj hp
      have hp:nth a j=nth b j:=by simpa using hp
      simp (disch:=omega) only[go_sem,K.iu,↓reduceIte]
    · intro j hj hp
      have hp:nth a j≠nth b j:=by simpa using hp
      simp (disch:=omega) only[go_sem,K.iu,↓reduceIte]
      simp
    · simp (disch:=omega) only[go_sem,K.iu,↓reduceIte]
   have e:(a=b)↔(List.range a.length).find? (fun j=>decide (nth a j≠nth b j))=none:=by
    rw[List.find?_eq_none]
    constructor
    · intro h j _;simp[h]
    · intro h
      apply List.ext_getElem?
      intro j
      by_cases hj:j<a.length
      · rw[iP hj,iP (by omega)]
        have:=h j (List.mem_range.2 hj)
        simpa using this
      · rw[List.getElem?_eq_none (by omega),List.getElem?_eq_none (by omega)]
   simp (disch:=omega) only[go_sem,K.cC,↓reduceIte,loop]
   cases hf:(List.range a.length).find? (fun j=>decide (nth a j≠nth b j))with
   | some j=>rw[hf]at e;simp (disch:=omega) only[go_sem,↓reduceIte,e];simp
   | none=>rw[hf]at e;simp (disch:=omega) only[go_sem,↓reduceIte,e]
 · have hne:a≠b:=fun h=>hlen (by rw[h])
   simp (disch:=omega) only[go_sem,K.cC,↓reduceIte,hne]
def rr(l:List Int)(n:Int):Bool:=(List.range l.length).all fun j=>decide (0≤nth l j∧nth l j<n∧(0<j→nth l (j-1)<nth l j))
theorem pB{n:Nat}{p:Nat→Bool}:((List.range n).all p)=((List.range n).find? fun j=> !p j).isNone:=by
 rw[← Option.not_isSome,List.isSome_find?,List.not_any_eq_all_not]
 simp
theorem WS(l:List Int)(n:Int)(hl:l.length≤4294967296):aO 0 N.je [.t (tL l),I n] []=some (B (rr l n),[]):=by
 refine ax K.sH rfl ?_
 have loop:∀c:D,exS aO K.vX ⟨[.t (tL l),I n,c,I 0],[]⟩=
  some (match (List.range l.length).find? (fun j=> !decide (0≤nth l j∧nth l j<n∧(0<j→nth l (j-1)<nth l j)))with
   | some j=>(.ret,⟨[.t (tL l),I n,B false,I j],[]⟩)
   | none=>(.exit 0,⟨[.t (tL l),I n,.und,I l.length],[]⟩)):=by
  intro c
  refine cF (fun j=>⟨[.t (tL l),I n,.und,I j],[]⟩) l.length _ _ _ rfl ?_ ?_ ?_ (by simp)
  · intro j hj hp
    simp only[Bool.not_eq_false',decide_eq_true_eq]at hp
    obtain⟨h1,h2,h3⟩:=hp
    cases j with
    | zero=>simp (disch:=omega) only[go_sem,K.gH,↓reduceIte]
    | succ j=>
      have h3:=h3 (by omega)
      rw[Nat.add_sub_cancel]at h3
      simp (disch:=omega) only[go_sem,K.gH,↓reduceIte]
  · intro j hj hp
    simp only[Bool.not_eq_true',decide_eq_false_iff_not]at hp
    refine⟨?_,by simp⟩
    by_cases h1:0≤nth l j
    · by_cases h2:nth l j<n
      · cases j with
        | zero=>exact absurd ⟨h1,h2,fun h=>absurd h (by omega)⟩ hp
        | succ j=>
          have h3:¬nth l j<nth l (j+1):=fun h=>hp ⟨h1,h2,fun _=>by simpa using h⟩
          simp (disch:=omega) only[go_sem,K.gH,↓reduceIte]
      · simp (disch:=omega) only[go_sem,K.gH,↓reduceIte]
    · simp (disch:=omega) only[go_sem,K.gH,↓reduceIte]
  · simp (disch:=omega) only[go_sem,K.gH,↓reduceIte]
 have e:rr l n=_:=pB
 simp only[go_sem,K.je,↓reduceIte,loop]
 cases hf:(List.range l.length).find? (fun j=> !decide (0≤nth l j∧nth l j<n∧(0<j→nth l (j-1)<nth l j)))with
 | some j=>rw[hf]at e;simp (disch:=omega) only[go_sem,↓reduceIte,e,Option.isNone_some]
 | none=>rw[hf]at e;simp (disch:=omega) only[go_sem,↓reduceIte,e,Option.isNone_none]
theorem GW(x lo hi:Int):aO 0 N.eu [I x,I lo,I hi] []=some (B (decide (lo≤x∧x≤hi)),[]):=by
 refine ax K.uY rfl ?_
 by_cases h1:lo≤x<;>by_cases h2:x≤hi<;>simp (disch:=omega) only[go_sem,K.eu,↓reduceIte]
theorem Md(l:List Int)(x:Int)(hl:l.length≤4294967296):aO 0 N.bE [.t (tL l),I x] []=
 some (I (match (List.range l.length).find? (fun j=>decide (nth l j=x))with | some j=>(j:Int) | none=> -1),[]):=by
 refine ax K.ic rfl ?_
 have loop:∀a b:D,exS aO K.ka ⟨[.t (tL l),I x,a,b,I l.length,I 0],[]⟩=
  some (match (List.range l.length).find? (fun j=>decide (nth l j=x))with
   | some j=>(.ret,⟨[.t (tL l),I x,I j,I j,I l.length,I j],[]⟩)
   | none=>(.exit 0,⟨[.t (tL l),I x,.und,.und,I l.length,I l.length],[]⟩)):=by
  intro a b
  refine cF (fun j=>⟨[.t (tL l),I x,.und,.und,I l.length,I j],[]⟩) l.length (fun j=>decide (nth l j=x)) _ _ rfl ?_ ?_ ?_ (by simp)
  · intro j hj hp
    have hp:¬nth l j=x:=of_decide_eq_false hp
    simp (disch:=omega) only[go_sem,K.ew,↓reduceIte]
  · intro j hj hp
    have hp:nth l j=x:=of_decide_eq_true hp
    simp (disch:=omega) only[go_sem,K.ew,↓reduceIte,hp]
    simp
  · simp (disch:=omega) only[go_sem,K.ew,↓reduceIte]
 simp (disch:=omega) only[go_sem,K.bE,↓reduceIte,loop]
 cases hf:(List.range l.length).find? (fun j=>decide (nth l j=x))with
 | some j=>simp (disch:=omega) only[go_sem,↓reduceIte]
 | none=>simp (disch:=omega) only[go_sem,↓reduceIte]
theorem pC(l:List Int)(x:Int)(hl:l.length≤4294967296):aO 0 N.aM [.t (tL l),I x] []=some (B (decide (x∈l)),[]):=by
 refine ax K.fU rfl ?_
 have h:=Md l x hl
 have e:=D6 (l:=l) (p:=fun y=>decide (y=x))
 have e2:l.any (fun y=>decide (y=x))=decide (x∈l):=by rw[Bool.eq_iff_iff];simp
 rw[e2]at e
 cases hf:(List.range l.length).find? (fun j=>decide (nth l j=x))with
 | some j=>rw[hf]at e h;simp (disch:=omega) only[go_sem,K.aM,↓reduceIte,←e,h]
 | none=>rw[hf]at e h;simp (disch:=omega) only[go_sem,K.aM,↓reduceIte,←e,h,Option.isSome_none]
theorem Cl(l:List Int)(hl:l.length≤4294967296)(f:Nat)(bs:List (List T))(p:Int→Bool)(h:∀x,x∈l→aO 0 f (I x::fe bs.length) (aS bs)=some (B (p x),aS bs)):
 aO 0 N.bh [.t (tL l),.fn f (fe bs.length)] (aS bs)=
 some (I (match (List.range l.length).find? (fun j=>p (nth l j))with | some j=>(j:Int) | none=> -1),aS bs):=by
 refine ax K.fH rfl ?_
 have loop:∀a b:D,exS aO K.iG ⟨[.t (tL l),.fn f (fe bs.length),a,b,I l.length,I 0],aS bs⟩=
  some (match (List.range l.length).find? (fun j=>p (nth l j))with
   | some j=>(.ret,⟨[.t (tL l),.fn f (fe bs.length),I j,I j,I l.length,I j],aS bs⟩)
   | none=>(.exit 0,⟨[.t (tL l),.fn f (fe bs.length),.und,.und,I l.length,I l.length],aS bs⟩)):=by
  intro a b
  refine cF (fun j=>⟨[.t (tL l),.fn f (fe bs.length),.und,.und,I l.length,I j],aS bs⟩) l.length (fun j=>p (nth l j)) _ _ rfl ?_ ?_ ?_ (by simp)
  · intro j hj hp
    have hc:=mi (h _ (aa hj)) rfl
    simp (disch:=omega) only[go_sem,K.du,↓reduceIte,hc,hp]
  · intro j hj hp
    have hc:=mi (h _ (aa hj)) rfl
    simp (disch:=omega) only[go_sem,K.du,↓reduceIte,hp,hc]
    simp
  · simp (disch:=omega) only[go_sem,K.du,↓reduceIte]
 simp (disch:=omega) only[go_sem,K.bh,↓reduceIte,loop]
 cases hf:(List.range l.length).find? (fun j=>p (nth l j))with
 | some j=>simp (disch:=omega) only[go_sem,↓reduceIte]
 | none=>simp (disch:=omega) only[go_sem,↓reduceIte]
theorem kd(l:List Int)(hl:l.length≤4294967296)(f:Nat)(bs:List (List T))(p:Int→Bool)(h:∀x,x∈l→aO 0 f (I x::fe bs.length) (aS bs)=some (B (p x),aS bs)):
 aO 0 N.az [.t (tL l),.fn f (fe bs.length)] (aS bs)=some (B (l.any p),aS bs):=by
 refine ax K.eG rfl ?_
 have h:=Cl l hl f bs p h
 have hc:=vd aO bs f _ 0 (tL l) h rfl
 have e:=D6 (l:=l) (p:=p)
 cases hf:(List.range l.length).find? (fun j=>p (nth l j))with
 | some j=>rw[hf]at e hc;simp (disch:=omega) only[go_sem,K.az,↓reduceIte,←e,hc]
 | none=>rw[hf]at e hc;simp (disch:=omega) only[go_sem,K.az,↓reduceIte,←e,hc,Option.isSome_none]
theorem QM(r:Road)(back:Bool):aO 0 N.gW [.t r.e,B back] []=some (.tup [I (if back then r.to else r.frm),I (if back then r.frm else r.to)],[]):=by
 refine ax K.qF rfl ?_
 cases back<;>simp (disch:=omega) only[go_sem,K.gW,↓reduceIte]
def dI(m:aT)(k:Nat)(back:Bool)(up down level:Int):Int:=
 let x:=nth m.roads k
 if x.closed=true∨x.walk=false then -1 else
 let a:=if back then x.to else x.frm
 let b:=if back then x.frm else x.to
 let rise:=(nth m.places b.toNat).h-(nth m.places a.toNat).h
 let speed:=if -10*rise>x.len then down else if 10*rise>x.len then up else level
 (10*x.len+speed-1).tdiv speed
theorem sJ{a b:Int}(ha:0≤a)(hb:1≤b):0≤a.tdiv b∧a.tdiv b≤a:=by
 rw[Int.tdiv_eq_ediv_of_nonneg ha]
 exact⟨Int.ediv_nonneg ha (by omega),Int.ediv_le_self _ ha⟩
theorem Jd{m:aT}(h:m.ok)(k:Nat)(hk:k<m.roads.length)(back:Bool)(up down level:Int)(hu:1≤up)(hu2:up≤100)(hd:1≤down)(hd2:down≤100)(hl:1≤level)(hl2:level≤100):
 aO 0 N.bV [.t m.e,I k,B back,I up,I down,I level] []=some (I (dI m k back up down level),[]):=by
 refine ax K.nX rfl ?_
 have hc:=ud h
 have nr:=h.nr
 have np:=h.np
 obtain⟨f0,f1,t0,t1, -,l0,l1, -, -, -, -, -, -, -, -⟩:=h.rs _ (aa hk)
 have he:=QM (nth m.roads k) back
 have b1:=h.hs _ (aa (l:=m.places) (j:=(nth m.roads k).frm.toNat) (by omega))
 have b2:=h.hs _ (aa (l:=m.places) (j:=(nth m.roads k).to.toNat) (by omega))
 unfold dI
 generalize hx:nth m.roads k=x at*
 obtain⟨frm,to,len,area,walk,closed,rl,rh,ll,lh⟩:=x
 simp only at f0 f1 t0 t1 l0 l1 b1 b2 he ⊢
 cases closed with
 | true=>simp (disch:=omega) only[go_sem,K.bV,↓reduceIte,hc,hx]
 | false=>
   cases walk with
   | false=>simp (disch:=omega) only[go_sem,K.bV,↓reduceIte,hc,hx]
   | true=>
     have g1:=sJ (a:=10*len+up-1) (b:=up) (by omega) hu
     have g2:=sJ (a:=10*len+down-1) (b:=down) (by omega) hd
     have g3:=sJ (a:=10*len+level-1) (b:=level) (by omega) hl
     cases back with
     | true=>
       simp only[↓reduceIte]at he ⊢
       have w1:IntKind.i64.wrap ((nth m.places frm.toNat).h-(nth m.places to.toNat).h)=(nth m.places frm.toNat).h-(nth m.places to.toNat).h:=uW (by omega) (by omega)
       by_cases c2:len< -10*((nth m.places frm.toNat).h-(nth m.places to.toNat).h)
       · simp (disch:=omega) only[go_sem,K.bV,↓reduceIte,hc,hx,he,w1,gt_iff_lt]
       · by_cases c1:len<10*((nth m.places frm.toNat).h-(nth m.places to.toNat).h)
         · simp (disch:=omega) only[go_sem,K.bV,↓reduceIte,hc,hx,he,w1,gt_iff_lt]
         · simp (disch:=omega) only[go_sem,K.bV,↓reduceIte,hc,hx,he,w1,gt_iff_lt]
     | false=>
       simp only[Bool.false_eq_true,↓reduceIte]at he ⊢
       have w1:IntKind.i64.wrap ((nth m.places to.toNat).h-(nth m.places frm.toNat).h)=(nth m.places to.toNat).h-(nth m.places frm.toNat).h:=uW (by omega) (by omega)
       by_cases c2:len< -10*((nth m.places to.toNat).h-(nth m.places frm.toNat).h)
       · simp (disch:=omega) only[go_sem,K.bV,↓reduceIte,hc,hx,he,w1,gt_iff_lt]
       · by_cases c1:len<10*((nth m.places to.toNat).h-(nth m.places frm.toNat).h)
         · simp (disch:=omega) only[go_sem,K.bV,↓reduceIte,hc,hx,he,w1,gt_iff_lt]
         · simp (disch:=omega) only[go_sem,K.bV,↓reduceIte,hc,hx,he,w1,gt_iff_lt]
theorem Je{m:aT}(h:m.ok)(k:Nat)(hk:k<m.roads.length)(back:Bool):aO 0 N.gu [.t m.e,I k,B back] []=some (I (dI m k back 6 9 12),[]):=by
 refine ax K.qE rfl ?_
 have hw:=Jd h k hk back 6 9 12 (by omega) (by omega) (by omega) (by omega) (by omega) (by omega)
 simp (disch:=omega) only[go_sem,K.gu,↓reduceIte,hw]
theorem AG{m:aT}(h:m.ok)(k:Nat)(hk:k<m.roads.length)(back:Bool): -1≤dI m k back 6 9 12∧dI m k back 6 9 12≤1000012:=by
 have l0:=(h.rs _ (aa hk)).l0
 have l1:=(h.rs _ (aa hk)).l1
 unfold dI
 simp only
 split
 · omega
 · generalize hs:(if -10*_>(nth m.roads k).len then(9:Int)else _)=s
   have h1:1≤s∧s≤12:=by
    rw[← hs]
    split
    · omega
    · split<;>omega
   have g1:=sJ (a:=10*(nth m.roads k).len+s-1) (b:=s) (by omega) h1.1
   omega
def bnd(l:List Int):Prop:=∀x∈l,0≤x∧x≤1099511627776
def lT(l:List Int)(p q:Nat)(walk t:Int):Bool:=
 decide (0≤walk)&&decide (nth l p<1099511627776)&&decide (max t (nth l p+walk)≤2147483648)&&decide (max t (nth l p+walk)<nth l q)
def mH(l:List Int)(p q:Nat)(walk t:Int):List Int:=if lT l p q walk t=true then l.set q (max t (nth l p+walk))else l
theorem AH(l:List Int)(hb:bnd l)(hl:l.length≤64)(p q:Int)(hp:0≤p)(hp2:p<l.length)(hq:0≤q)(hq2:q<l.length)(walk t:Int)(hw:walk≤1000000000)(ht:t≤1000000000000)(ht0: -1000000000000≤t):
 aO 0 N.dh [.ref 0 0 l.length,I p,I q,I walk,I t] [.arr 1 false 0 ((l.map (T.int .i64)).map .t)]=
  some (B (lT l p.toNat q.toNat walk t),[.arr 1 false 0 (((mH l p.toNat q.toNat walk t).map (T.int .i64)).map .t)]):=by
 refine ax K.pz rfl ?_
 have b1:=hb _ (aa (l:=l) (j:=p.toNat) (by omega))
 have b2:=hb _ (aa (l:=l) (j:=q.toNat) (by omega))
 clear hb
 unfold mH lT
 by_cases c1:0≤walk
 · by_cases c2:nth l p.toNat<1099511627776
   · by_cases c3:max t (nth l p.toNat+walk)≤2147483648
     · by_cases c4:max t (nth l p.toNat+walk)<nth l q.toNat
       · simp (disch:=omega) only[go_sem,K.dh,↓reduceIte]
       · simp (disch:=omega) only[go_sem,K.dh,↓reduceIte]
     · simp (disch:=omega) only[go_sem,K.dh,↓reduceIte]
   · simp (disch:=omega) only[go_sem,K.dh,↓reduceIte]
 · simp (disch:=omega) only[go_sem,K.dh,↓reduceIte]
def Jf(into:Option (List Int))(p:Int):Bool:=match into with
 | none=>true
 | some l=>decide (p∈l)
def nY(into:Option (List Int)):D:=match into with
 | none=> .nil
 | some l=> .t (tL l)
def Road.src(r:Road)(back:Bool):Int:=if back then r.to else r.frm
def Road.dst(r:Road)(back:Bool):Int:=if back then r.frm else r.to
theorem Road.tA{n:Nat}{r:Road}(h:r.ok n)(back:Bool):0≤r.src back∧r.src back<n:=by
 unfold Road.src;have:=h.f0;have:=h.f1;have:=h.t0;have:=h.t1;cases back<;>simp<;>omega
theorem Road.ya{n:Nat}{r:Road}(h:r.ok n)(back:Bool):0≤r.dst back∧r.dst back<n:=by
 unfold Road.dst;have:=h.f0;have:=h.f1;have:=h.t0;have:=h.t1;cases back<;>simp<;>omega
def eQ(m:aT)(t:Int)(into:Option (List Int))(k:Nat)(back:Bool)(l:List Int):List Int×Bool:=
 if Jf into ((nth m.roads k).dst back)=true then
  (mH l ((nth m.roads k).src back).toNat ((nth m.roads k).dst back).toNat (dI m k back 6 9 12) t,lT l ((nth m.roads k).src back).toNat ((nth m.roads k).dst back).toNat (dI m k back 6 9 12) t)
 else(l,false)
def sK(m:aT)(t:Int)(into:Option (List Int))(k:Nat)(s:List Int×Bool):List Int×Bool:=
 let a:=eQ m t into k false s.1
 let b:=eQ m t into k true a.1
 (b.1,s.2||a.2||b.2)
def ez(m:aT)(t:Int)(into:Option (List Int))(l:List Int):Nat→List Int×Bool
 | 0=>(l,false)
 | k+1=>sK m t into k (ez m t into l k)
def c8(m:aT)(t:Int)(into:Option (List Int))(l:List Int):List Int×Bool:=ez m t into l m.roads.length
theorem mj(l:List Int)(p q:Nat)(w t:Int):(mH l p q w t).length=l.length:=by unfold mH;split<;>simp
theorem oF(m:aT)(t:Int)(into:Option (List Int))(k:Nat)(back:Bool)(l:List Int):(eQ m t into k back l).1.length=l.length:=by
 unfold eQ;split
 · exact mj _ _ _ _ _
 · rfl
theorem dq(m:aT)(t:Int)(into:Option (List Int))(l:List Int):∀k,(ez m t into l k).1.length=l.length
 | 0=>rfl
 | k+1=>by simp only[ez,sK,oF,dq m t into l k]
theorem ve{l:List Int}(h:bnd l){q:Nat}{x:Int}(h0:0≤x)(h1:x≤1099511627776):bnd (l.set q x):=by
 intro y hy
 rcases List.mem_or_eq_of_mem_set hy with hy | hy
 · exact h y hy
 · subst hy;exact⟨h0,h1⟩
theorem zI{l:List Int}(h:bnd l){p q:Nat}(hp:p<l.length){w t:Int}:bnd (mH l p q w t):=by
 unfold mH
 split
 · rename_i hc
   simp only[lT,Bool.and_eq_true,decide_eq_true_eq]at hc
   have:=h _ (aa hp)
   exact ve h (by omega) (by omega)
 · exact h
section
variable {m : aT} (h : m.ok) {t : Int} {into : Option (List Int)}
include h
theorem qG{l:List Int}(hl:l.length=m.places.length)(hb:bnd l){k:Nat}(hk:k<m.roads.length)(back:Bool):bnd (eQ m t into k back l).1:=by
 have r1:=Road.tA (h.rs _ (aa hk)) back
 unfold eQ
 split
 · exact zI hb (by omega)
 · exact hb
theorem gZ{l:List Int}(hl:l.length=m.places.length)(hb:bnd l):∀k,k≤m.roads.length→bnd (ez m t into l k).1
 | 0,_=>hb
 | k+1,hk=>by
   simp only[ez,sK]
   exact qG h (by rw[oF,dq,hl]) (qG h (by rw[dq,hl]) (gZ hl hb k (by omega)) (by omega) _) (by omega) _
end
def xa(l:List Int):Nat:=(l.map Int.toNat).sum
theorem FH:∀ {l:List Int} {q:Nat} {x:Int},q<l.length→0≤x→x<nth l q→xa (l.set q x)<xa l
 | [],q,x,h,_,_=>by simp at h
 | a::l,0,x,_,h0,h1=>by
   have h1:x<a:=by simpa [nth]using h1
   simp only[xa,List.set_cons_zero,List.map_cons,List.sum_cons];omega
 | a::l,q+1,x,h,h0,h1=>by
   have:=FH (l:=l) (q:=q) (x:=x) (by simpa using h) h0 (by simpa [nth]using h1)
   simp only[xa,List.set_cons_succ,List.map_cons,List.sum_cons]at this ⊢;omega
theorem GX{l:List Int}(hb:bnd l){p q:Nat}(hp:p<l.length)(hq:q<l.length){w t:Int}:
 (lT l p q w t=true→xa (mH l p q w t)<xa l)∧(lT l p q w t=false→mH l p q w t=l):=by
 unfold mH
 constructor
 · intro hc
   rw[if_pos hc]
   simp only[lT,Bool.and_eq_true,decide_eq_true_eq]at hc
   have:=hb _ (aa hp)
   exact FH hq (by omega) hc.2
 · intro hc;rw[if_neg (by simp[hc])]
section
variable {m : aT} (h : m.ok) {t : Int} {into : Option (List Int)}
include h
theorem yc{l:List Int}(hl:l.length=m.places.length)(hb:bnd l){k:Nat}(hk:k<m.roads.length)(back:Bool):
 ((eQ m t into k back l).2=true→xa (eQ m t into k back l).1<xa l)∧((eQ m t into k back l).2=false→(eQ m t into k back l).1=l):=by
 have r1:=Road.tA (h.rs _ (aa hk)) back
 have r2:=Road.ya (h.rs _ (aa hk)) back
 unfold eQ
 split
 · exact GX hb (by omega) (by omega)
 · simp
theorem oG{l:List Int}(hl:l.length=m.places.length)(hb:bnd l):∀k,k≤m.roads.length→
 ((ez m t into l k).2=true→xa (ez m t into l k).1<xa l)∧((ez m t into l k).2=false→(ez m t into l k).1=l)
 | 0,_=>⟨fun h=>by simp[ez]at h,fun _=>rfl⟩
 | k+1,hk=>by
   obtain⟨i1,i2⟩:=oG hl hb k (by omega)
   have hb1:=gZ h (t:=t) (into:=into) hl hb k (by omega)
   have hl1:(ez m t into l k).1.length=m.places.length:=by rw[dq,hl]
   obtain⟨a1,a2⟩:=yc h (t:=t) (into:=into) hl1 hb1 (k:=k) (by omega) false
   have hb2:=qG h (t:=t) (into:=into) hl1 hb1 (k:=k) (by omega) false
   obtain⟨c1,c2⟩:=yc h (t:=t) (into:=into) (by rw[oF,hl1]) hb2 (k:=k) (by omega) true
   simp only[ez,sK]
   generalize ez m t into l k=s at*
   obtain⟨sl,sb⟩:=s
   simp only at*
   generalize eQ m t into k false sl=a at*
   obtain⟨al,ab⟩:=a
   simp only at*
   generalize eQ m t into k true al=b at*
   obtain⟨bl,bb⟩:=b
   simp only at*
   cases sb<;>cases ab<;>cases bb<;>simp_all<;>omega
end
end Go.Ev
namespace Go.Ev
open Go
variable [Lib] [cn] [bR]
abbrev ah(m:aT):List D:=[.t (.sl (m.places.map Place.e)),.t (.sl (m.roads.map Road.e))]
theorem QN(H:aj)(into:Option (List Int))(hi:∀l,into=some l→l≠[]):qp H .sl false (some (nY into)) (some .nil)=some (B (into.isNone),H):=by
 cases into with
 | none=>rfl
 | some l=>exact w8 H _ (by simpa using hi l rfl)
@[go_sem] theorem WT (k n : Nat) (into : Option (List Int)) : old k n (nY into) = true := by
 cases into<;>simp only[nY,go_sem]
theorem GY{m:aT}(h:m.ok)(t:Int)(ht:t≤1000000000000)(ht0: -1000000000000≤t)(into:Option (List Int))(hi:∀l,into=some l→l≠[]∧l.length≤64)(l:List Int)(hl:l.length=m.places.length)(hb:bnd l)
 (k:Nat) (hk:k<m.roads.length) (ag:Bool):
 eY true [0,1,5,9] 2 (exS aO K.ed ⟨[.und,.und,I t,nY into,.bp 0 0,.und,.ref 1 0 l.length,B ag,I k,.und],[.box (ah m),.arr 1 false 0 ((l.map (T.int .i64)).map .t)]⟩)=
  some ⟨[.und,.und,I t,nY into,.bp 0 0,.und,.ref 1 0 (sK m t into k (l,ag)).1.length,B (sK m t into k (l,ag)).2,I (k+1),.und],[.box (ah m),.arr 1 false 0 (((sK m t into k (l,ag)).1.map (T.int .i64)).map .t)]⟩:=by
 have np:=h.np
 have nr:=h.nr
 have t1:=Je h k hk false
 have t2:=Je h k hk true
 have w1:=(AG h k hk false).2
 have w2:=(AG h k hk true).2
 obtain⟨f0,f1,t0,t1', -, -, -, -, -, -, -, -, -, -, -⟩:=h.rs _ (aa hk)
 have e0:=fun H=>QN H into fun l hl=>(hi l hl).1
 have lw1:=AH l hb (by omega) (nth m.roads k).frm (nth m.roads k).to f0 (by omega) t0 (by omega) (dI m k false 6 9 12) t (by omega) ht ht0
 have lw2:=AH l hb (by omega) (nth m.roads k).to (nth m.roads k).frm t0 (by omega) f0 (by omega) (dI m k true 6 9 12) t (by omega) ht ht0
 have hl':(mH l (nth m.roads k).frm.toNat (nth m.roads k).to.toNat (dI m k false 6 9 12) t).length=l.length:=mj ..
 have lw3:=AH _ (zI hb (p:=(nth m.roads k).frm.toNat) (q:=(nth m.roads k).to.toNat) (w:=dI m k false 6 9 12) (t:=t) (by omega)) (by omega) (nth m.roads k).to (nth m.roads k).frm t0 (by omega) f0 (by omega) (dI m k true 6 9 12) t (by omega) ht ht0
 rw[hl']at lw3
 simp only[sK,eQ,Road.src,Road.dst,Bool.false_eq_true,↓reduceIte]
 generalize hx:nth m.roads k=x at*
 obtain⟨frm,to,len,area,walk,closed,rl,rh,ll,lh⟩:=x
 simp only at f0 f1 t0 t1' lw1 lw2 lw3 hl' ⊢
 generalize hw1:dI m k false 6 9 12=v1 at*
 generalize hw2:dI m k true 6 9 12=v2 at*
 clear hb
 cases into with
 | none=>
   simp only[nY,Jf,↓reduceIte,Option.isNone]at e0 ⊢
   cases c1:lT l frm.toNat to.toNat v1 t<;>cases c2:lT (mH l frm.toNat to.toNat v1 t) to.toNat frm.toNat v2 t<;>rw[c1]at lw1<;>rw[c2]at lw3<;>
   simp (disch:=omega) only[go_sem,K.ed,↓reduceIte,hx,e0,t1,t2,lw1,lw3,mj,Nat.reduceAdd,Nat.reduceSub]
 | some s=>
   have hs:=(hi s rfl).2
   have g1:=N1 s to (by omega)
   have g2:=N1 s frm (by omega)
   simp only[nY,Jf,Option.isNone]at e0 ⊢
   by_cases m1:to∈s<;>by_cases m2:frm∈s
   · simp only[m1,m2,decide_true,↓reduceIte]at g1 g2 ⊢
     cases c1:lT l frm.toNat to.toNat v1 t<;>cases c2:lT (mH l frm.toNat to.toNat v1 t) to.toNat frm.toNat v2 t<;>rw[c1]at lw1<;>rw[c2]at lw3<;>
     simp (disch:=omega) only[go_sem,K.ed,↓reduceIte,hx,e0,t1,t2,lw1,lw3,g1,g2,c1,Bool.or_true,Bool.or_false,mj,Nat.reduceAdd,Nat.reduceSub]
   · simp only[m1,m2,decide_true,decide_false,↓reduceIte]at g1 g2 ⊢
     cases c1:lT l frm.toNat to.toNat v1 t<;>rw[c1]at lw1<;>
     simp (disch:=omega) only[go_sem,K.ed,↓reduceIte,hx,e0,t1,t2,lw1,g1,g2,c1,Bool.or_true,Bool.or_false,mj,Nat.reduceAdd,Nat.reduceSub]
   · simp only[m1,m2,decide_true,decide_false,↓reduceIte]at g1 g2 ⊢
     cases c1:lT l to.toNat frm.toNat v2 t<;>rw[c1]at lw2<;>
     simp (disch:=omega) only[go_sem,K.ed,↓reduceIte,hx,e0,t1,t2,lw2,g1,g2,c1,Bool.or_true,Bool.or_false,mj,Nat.reduceAdd,Nat.reduceSub]
   · simp only[m1,m2,decide_false,↓reduceIte]at g1 g2 ⊢
     simp (disch:=omega) only[go_sem,K.ed,↓reduceIte,hx,e0,t1,t2,g1,g2,Nat.reduceAdd,Nat.reduceSub]
theorem xb{m:aT}(h:m.ok)(t:Int)(ht:t≤1000000000000)(ht0: -1000000000000≤t)(into:Option (List Int))(hi:∀l,into=some l→l≠[]∧l.length≤64)(l:List Int)(hl:l.length=m.places.length)(hb:bnd l):
 aO 0 N.eE [.t m.e,.t (tL l),I t,nY into] []=some (.t (tL (iW (c8 m t into) (xa l+1) l)),[])∧(iW (c8 m t into) (xa l+1) l).length=m.places.length∧bnd (iW (c8 m t into) (xa l+1) l):=by
 have nr:=h.nr
 have inner:∀(l:List Int),l.length=m.places.length→bnd l→∀(a b c d:D),exS aO K.rW ⟨[a,b,I t,nY into,.bp 0 0,c,.ref 1 0 l.length,B false,I 0,d],[.box (ah m),.arr 1 false 0 ((l.map (T.int .i64)).map .t)]⟩=
  some (.exit 2,⟨[.und,.und,I t,nY into,.bp 0 0,.und,.ref 1 0 l.length,B (c8 m t into l).2,I m.roads.length,.und],[.box (ah m),.arr 1 false 0 (((c8 m t into l).1.map (T.int .i64)).map .t)]⟩):=by
  intro l hl hb a b c d
  refine dC (fun j=>⟨[.und,.und,I t,nY into,.bp 0 0,.und,.ref 1 0 (ez m t into l j).1.length,B (ez m t into l j).2,I j,.und],[.box (ah m),.arr 1 false 0 (((ez m t into l j).1.map (T.int .i64)).map .t)]⟩) m.roads.length rfl ?_ ?_ (by simp)
  · intro j hj
    have:=GY h t ht ht0 into hi (ez m t into l j).1 (by rw[dq,hl]) (gZ h hl hb j (by omega)) j hj (ez m t into l j).2
    exact this
  · simp (disch:=omega) only[go_sem,K.ed,↓reduceIte,c8,dq]
 have outer:=fun(a b c d e:D)=>GV (gc:=true) (dead:=[0,1,5,8,9]) (c:=K.j9) (vs:=[a,b,I t,nY into,.bp 0 0,c,.ref 1 0 l.length,B true,d,e]) (H:=[.box (ah m),.arr 1 false 0 ((l.map (T.int .i64)).map .t)])
  (fun l ag=>⟨[.und,.und,I t,nY into,.bp 0 0,.und,.ref 1 0 l.length,B ag,.und,.und],[.box (ah m),.arr 1 false 0 ((l.map (T.int .i64)).map .t)]⟩)
  (fun l=>(.exit 0,⟨[.und,.und,I t,nY into,.bp 0 0,.und,.ref 1 0 l.length,B false,.und,.und],[.box (ah m),.arr 1 false 0 ((l.map (T.int .i64)).map .t)]⟩))
  (c8 m t into) (fun l=>l.length=m.places.length∧bnd l) xa
  (fun l ⟨hl,hb⟩=>⟨⟨by rw[c8,dq,hl],gZ h hl hb _ (Nat.le_refl _)⟩,(oG h hl hb _ (Nat.le_refl _)).1⟩)
  (by
   rintro l ⟨hl,hb⟩
   have:=inner l hl hb
   have e:(c8 m t into l).1.length=l.length:=by rw[c8,dq]
   simp (disch:=omega) only[go_sem,K.j9,↓reduceIte,this,e])
  (by
   rintro l ⟨hl,hb⟩
   simp (disch:=omega) only[go_sem,K.j9,↓reduceIte,reduceCtorEq,ne_eq,not_false_eq_true,and_self])
  l ⟨hl,hb⟩ rfl
 obtain⟨-,o2⟩:=outer .und .und .und .und .und
 refine⟨?_,o2⟩
 refine ax K.pt rfl ?_
 have o1:∀a b c d e:D,exS aO K.rX ⟨[a,b,I t,nY into,.bp 0 0,c,.ref 1 0 l.length,B true,d,e],[.box (ah m),.arr 1 false 0 ((l.map (T.int .i64)).map .t)]⟩=_:=fun a b c d e=>(outer a b c d e).1
 clear outer inner
 have np:=h.np
 have o2:=o2.1
 generalize iW (c8 m t into) (xa l+1) l=l2 at*
 cases into with
 | none=>
   simp only[nY]at o1
   simp (disch:=omega) only[go_sem,K.eE,↓reduceIte,o1,nY]
 | some s=>
   simp only[nY]at o1
   simp (disch:=omega) only[go_sem,K.eE,↓reduceIte,o1,nY]
structure Wh where
 time:Int
 frm:List Int
instance : Dat Wh := ⟨⟨0, []⟩⟩
abbrev Wh.e(w:Wh):T:= .agg [tI w.time,tL w.frm]
def cK(m:aT)(t:Int)(into:Option (List Int))(l:List Int):List Int:=iW (c8 m t into) (xa l+1) l
def inT(t:Int):Prop:=0≤t∧t≤2147483648
instance (t : Int) : Decidable (inT t) := by unfold inT; infer_instance
def plT(x:Int):Prop:=x=1099511627776∨inT x
instance (t : Int) : Decidable (plT t) := by unfold plT; infer_instance
def mI(w:Wh)(n:Int):Bool:=decide ((w.frm.length:Int)=n∧inT w.time)&&(List.range w.frm.length).all fun j=>decide (plT (nth w.frm j))
theorem iH{x:Int}(h:plT x):0≤x∧x≤1099511627776:=by unfold plT inT at h;omega
theorem ue(t:Int):aO 0 N.dn [I t] []=some (B (decide (inT t)),[]):=by
 refine ax K.nW rfl ?_
 unfold inT
 by_cases h1:0≤t<;>by_cases h2:t≤2147483648<;>simp (disch:=omega) only[go_sem,K.dn,↓reduceIte,h1,h2]
theorem xc{m:aT}(h:m.ok)(t:Int)(ht:inT t)(l:List Int)(hl:l.length=m.places.length)(hb:bnd l):
 aO 0 N.dP [.t m.e,.t (tL l),I t] []=some (.t (tL (cK m t none l)),[]):=by
 refine ax K.pj rfl ?_
 unfold inT at ht
 have:=(xb h t (by omega) (by omega) none (by simp) l hl hb).1
 simp only[nY]at this
 unfold cK
 simp (disch:=omega) only[go_sem,K.dP,↓reduceIte,this]
theorem Me(w:Wh)(n:Int)(hl:w.frm.length≤4294967296):aO 0 N.dQ [.t w.e,I n] []=some (B (mI w n),[]):=by
 refine ax K.px rfl ?_
 obtain⟨time,frm⟩:=w
 simp only at hl
 have loop:∀a b c:D,exS aO K.rY ⟨[a,b,.bp 0 0,c,I 0],[.box [I time,.t (tL frm)]]⟩=
  some (match (List.range frm.length).find? (fun j=> !decide (plT (nth frm j)))with
   | some j=>(.ret,⟨[.und,.und,.bp 0 0,B false,I j],[.box [I time,.t (tL frm)]]⟩)
   | none=>(.exit 0,⟨[.und,.und,.bp 0 0,.und,I frm.length],[.box [I time,.t (tL frm)]]⟩)):=by
  intro a b c
  refine cF (fun j=>⟨[.und,.und,.bp 0 0,.und,I j],[.box [I time,.t (tL frm)]]⟩) frm.length (fun j=> !decide (plT (nth frm j))) _ _ rfl ?_ ?_ ?_ (by simp)
  · intro j hj hp
    have hp:plT (nth frm j):=by simpa using hp
    unfold plT inT at hp
    by_cases h1:nth frm j=1099511627776
    · simp (disch:=omega) only[go_sem,K.gw,↓reduceIte,h1]
    · simp (disch:=omega) only[go_sem,K.gw,↓reduceIte]
  · intro j hj hp
    have hp:¬plT (nth frm j):=by simpa using hp
    unfold plT inT at hp
    by_cases h2:0≤nth frm j
    · simp (disch:=omega) only[go_sem,K.gw,↓reduceIte]
      simp
    · simp (disch:=omega) only[go_sem,K.gw,↓reduceIte]
      simp
  · simp (disch:=omega) only[go_sem,K.gw,↓reduceIte]
 unfold mI
 rw[pB]
 by_cases h1:(frm.length:Int)=n
 · by_cases h2:0≤time
   · by_cases h3:time≤2147483648
     · have h4:inT time:=⟨h2,h3⟩
       simp (disch:=omega) only[go_sem,K.dQ,↓reduceIte,loop,h1]
       cases hf:(List.range frm.length).find? (fun j=> !decide (plT (nth frm j)))with
       | some j=>simp (disch:=omega) only[go_sem,↓reduceIte,Option.isNone]
       | none=>simp (disch:=omega) only[go_sem,↓reduceIte,Option.isNone,h4,and_self,decide_true]
     · have h4:¬inT time:=by unfold inT;omega
       simp (disch:=omega) only[go_sem,K.dQ,↓reduceIte,loop,h1,h4,and_false,decide_false]
   · have h4:¬inT time:=by unfold inT;omega
     simp (disch:=omega) only[go_sem,K.dQ,↓reduceIte,loop,h1,h4,and_false,decide_false]
 · simp (disch:=omega) only[go_sem,K.dQ,↓reduceIte,loop,h1,false_and,decide_false]
def cO(m:aT)(w:Wh):Bool:=mI w m.places.length&&decide (cK m w.time none w.frm=w.frm)
theorem pD{w:Wh}{n:Int}(h:mI w n=true):(w.frm.length:Int)=n∧inT w.time∧∀x∈w.frm,plT x:=by
 simp only[mI,Bool.and_eq_true,decide_eq_true_eq,List.all_eq_true,List.mem_range]at h
 refine⟨h.1.1,h.1.2,fun x hx=>?_⟩
 obtain⟨j,hj⟩:=List.mem_iff_getElem?.1 hx
 have:=h.2 j (List.getElem?_eq_some_iff.1 hj).1
 rwa [bB hj]at this
theorem kI{m:aT}(h:m.ok)(t:Int)(ht:inT t)(into:Option (List Int))(hi:∀l,into=some l→l≠[]∧l.length≤64){l:List Int}(hl:l.length=m.places.length)(hb:bnd l):(cK m t into l).length=m.places.length:=by
 unfold inT at ht
 exact(xb h t (by omega) (by omega) into hi l hl hb).2.1
theorem zJ{m:aT}(h:m.ok)(t:Int)(ht:inT t)(into:Option (List Int))(hi:∀l,into=some l→l≠[]∧l.length≤64){l:List Int}(hl:l.length=m.places.length)(hb:bnd l):bnd (cK m t into l):=by
 unfold inT at ht
 exact(xb h t (by omega) (by omega) into hi l hl hb).2.2
theorem AI{m:aT}(h:m.ok)(w:Wh)(hl:w.frm.length≤4294967296):aO 0 N.eD [.t m.e,.t w.e] []=some (B (cO m w),[]):=by
 refine ax K.pn rfl ?_
 have c:=ud h
 have p:=Me w m.places.length hl
 have np:=h.np
 unfold cO
 cases hp:mI w m.places.length with
 | false=>
   rw[hp]at p
   obtain⟨time,frm⟩:=w
   simp (disch:=omega) only[go_sem,K.eD,↓reduceIte,c,p,Bool.false_and,Nat.reduceAdd,Nat.reduceSub]
 | true=>
   obtain⟨h1,h2,h3⟩:=pD hp
   rw[hp]at p
   have hb:bnd w.frm:=fun x hx=>iH (h3 x hx)
   have cl:=xc h w.time h2 w.frm (by omega) hb
   have ln:=kI h w.time h2 none (by simp) (l:=w.frm) (by omega) hb
   obtain⟨time,frm⟩:=w
   simp only at*
   have sm:=D7 (cK m time none frm) frm (by omega)
   simp (disch:=omega) only[go_sem,K.eD,↓reduceIte,c,p,cl,sm,Bool.true_and,Nat.reduceAdd,Nat.reduceSub]
theorem AJ(w:Wh)(hl:w.frm.length≤4294967296):aO 0 N.cQ [.t w.e] []=some (.t w.e,[]):=by
 refine ax K.qC rfl ?_
 obtain⟨time,frm⟩:=w
 simp only at*
 simp (disch:=omega) only[go_sem,K.cQ,↓reduceIte,Nat.reduceAdd,Nat.reduceSub]
def iw(n:Nat):List Int:=List.replicate n 1099511627776
theorem D8(n:Nat):iw (n+1)=iw n++[1099511627776]:=List.replicate_succ'
@[simp] theorem jP (n : Nat) : (iw n).length = n := List.length_replicate
theorem vf(n:Nat):bnd (iw n):=fun x hx=>by rw[List.eq_of_mem_replicate hx];omega
theorem GZ(n:Nat)(hn:n≤1000000)(a:D):exS aO K.rV ⟨[I n,a,.ref 0 0 0,I 0],[.arr 1 false 0 []]⟩=
 some (.exit 0,⟨[I n,.und,.ref 0 0 n,I n],[.arr 1 false 0 (((iw n).map (T.int .i64)).map .t)]⟩):=by
 refine dC (fun j=>⟨[I n,.und,.ref 0 0 (iw j).length,I j],[.arr 1 false 0 (((iw j).map (T.int .i64)).map .t)]⟩) n rfl ?_ ?_ (by simp)
 · intro j hj
   have:=jP j
   simp (disch:=omega) only[go_sem,K.mG,D8,↓reduceIte]
 · simp (disch:=omega) only[go_sem,K.mG,↓reduceIte,jP]
theorem Cm(n:Nat)(hn:n≤1000000):aO 1 N.fm [I n] []=some (.ref 0 0 n,[.arr 1 false 0 (((iw n).map (T.int .i64)).map .t)]):=by
 refine ax K.ph rfl ?_
 have:=GZ n hn
 simp (disch:=omega) only[go_sem,K.fm,↓reduceIte,this]
def fQ(m:aT)(p t:Int):Wh×Int:=
 if p<0∨(m.places.length:Int)≤p then(⟨0,[]⟩,3)else if inT t then(⟨t,cK m t none ((iw m.places.length).set p.toNat t)⟩,0)else(⟨0,[]⟩,8)
theorem FI{m:aT}(h:m.ok)(p t:Int):aO 0 N.dL [.t m.e,I p,I t] []=some (.tup [.t (fQ m p t).1.e,I (fQ m p t).2],[]):=by
 refine ax K.o9 rfl ?_
 have c:=ud h
 have np:=h.np
 have it:=ue t
 have nl:=jP m.places.length
 have nv:=Cm m.places.length (by omega)
 unfold fQ
 by_cases h1:p<0
 · simp (disch:=omega) only[go_sem,K.dL,↓reduceIte,c,h1,true_or]
   rfl
 · by_cases h2:(m.places.length:Int)≤p
   · simp (disch:=omega) only[go_sem,K.dL,↓reduceIte,c,h1,h2,or_true]
     rfl
   · by_cases h3:inT t
     · have b:bnd ((iw m.places.length).set p.toNat t):=ve (vf _) h3.1 (by have:=h3.2;omega)
       have cl:=xc h t h3 ((iw m.places.length).set p.toNat t) (by simp) b
       simp only[h3,decide_true]at it
       simp (disch:=omega) only[go_sem,K.dL,↓reduceIte,c,h1,h2,or_self,h3,it,nv,jP,cl]
     · simp only[h3,decide_false]at it
       simp (disch:=omega) only[go_sem,K.dL,↓reduceIte,c,h1,h2,or_self,h3,it]
       rfl
def mJ(w:Wh)(t:Int):List Int:=gx w.frm.length fun j=>decide (nth w.frm j≤t)
def lU(w:Wh)(t:Int):Wh×Int:=if t<w.time∨2147483648<t then(w,8)else(⟨t,w.frm⟩,0)
theorem FJ(w:Wh)(t:Int)(hl:w.frm.length≤1000000):aO 0 N.dN [.t w.e,I t] []=some (.tup [.t (lU w t).1.e,I (lU w t).2],[]):=by
 refine ax K.pe rfl ?_
 have c:=AJ w (by omega)
 obtain⟨time,frm⟩:=w
 simp only[lU]at*
 by_cases h1:t<time
 · simp (disch:=omega) only[go_sem,K.dN,↓reduceIte,c,h1,true_or]
 · by_cases h2:2147483648<t
   · simp (disch:=omega) only[go_sem,K.dN,↓reduceIte,c,h1,h2,or_true]
   · simp (disch:=omega) only[go_sem,K.dN,↓reduceIte,c,h1,h2,or_self]
def ke(m:aT)(w:Wh)(places:List Int)(a b:Int):Int:=
 if cO m w=true∧places≠[]∧rr places m.places.length=true then(if inT a∧inT b∧a≤b then 0 else 8)else 6
theorem FK{m:aT}(h:m.ok)(w:Wh)(hl:w.frm.length≤1000000)(places:List Int)(hp:places.length≤1000000)(a b:Int):
 aO 0 N.cy [.t m.e,.t w.e,.t (tL places),I a,I b] []=some (I (ke m w places a b),[]):=by
 refine ax K.pq rfl ?_
 have v:=AI h w (by omega)
 have s:=WS places m.places.length (by omega)
 have np:=h.np
 have ia:=ue a
 have ib:=ue b
 obtain⟨time,frm⟩:=w
 simp only at*
 unfold ke
 cases hv:cO m ⟨time,frm⟩with
 | false=>
   rw[hv]at v
   simp (disch:=omega) only[go_sem,K.cy,↓reduceIte,v,Bool.false_eq_true,false_and]
 | true=>
   rw[hv]at v
   cases places with
   | nil=>simp (disch:=omega) only[go_sem,K.cy,↓reduceIte,v,ne_eq,not_true_eq_false,false_and,and_false,List.length_nil]
   | cons x xs=>
     have hne:0<(x::xs).length:=by simp
     generalize hx:x::xs=l at*
     have hne2:l≠[]:=by intro e;rw[e]at hne;simp at hne
     cases hs:rr l m.places.length with
     | false=>
       rw[hs]at s
       simp (disch:=omega) only[go_sem,K.cy,↓reduceIte,v,s,hne2,ne_eq,not_false_eq_true,true_and,Bool.false_eq_true,and_false]
     | true=>
       rw[hs]at s
       by_cases h1:inT a
       · by_cases h2:inT b
         · simp only[h1,h2,decide_true]at ia ib
           by_cases h3:a≤b
           · simp (disch:=omega) only[go_sem,K.cy,↓reduceIte,v,s,hne2,ia,ib,h1,h2,h3,ne_eq,not_false_eq_true,and_self]
           · simp (disch:=omega) only[go_sem,K.cy,↓reduceIte,v,s,hne2,ia,ib,h1,h2,h3,ne_eq,not_false_eq_true,and_self,and_false]
         · simp only[h1,h2,decide_true,decide_false]at ia ib
           simp (disch:=omega) only[go_sem,K.cy,↓reduceIte,v,s,hne2,ia,ib,h1,h2,ne_eq,not_false_eq_true,and_self,and_false,false_and]
       · simp only[h1,decide_false]at ia
         simp (disch:=omega) only[go_sem,K.cy,↓reduceIte,v,s,hne2,ia,h1,ne_eq,not_false_eq_true,and_self,and_false,false_and]
theorem pE{l:List Int}{n:Int}(h:rr l n=true){j:Nat}(hj:j<l.length):0≤nth l j∧nth l j<n∧(0<j→nth l (j-1)<nth l j):=by
 simp only[rr,List.all_eq_true,List.mem_range,decide_eq_true_eq]at h
 exact h j hj
theorem Jg{l:List Int}{n:Int}(h:rr l n=true):∀ {j:Nat},j<l.length→(j:Int)≤nth l j
 | 0,hj=>by have:=pE h hj;omega
 | j+1,hj=>by
   have h1:=Jg h (j:=j) (by omega)
   have:=(pE h hj).2.2 (by omega)
   simp only[Nat.add_sub_cancel]at this
   omega
theorem AK{l:List Int}{n:Nat}(h:rr l n=true):l.length≤n:=by
 cases hl:l.length with
 | zero=>omega
 | succ k=>
   have h1:=Jg h (j:=k) (by omega)
   have h2:=(pE h (j:=k) (by omega)).2.1
   omega
def vg(w:Wh)(t p:Int)(s:List Int×Bool):List Int×Bool:=if nth w.frm p.toNat≤t then(s.1.set p.toNat (nth w.frm p.toNat),true)else s
def yd(w:Wh)(l:List Int)(t:Int)(n:Nat):Nat→List Int×Bool
 | 0=>(iw n,false)
 | j+1=>vg w t (nth l j) (yd w l t n j)
theorem kU(w:Wh)(l:List Int)(t:Int)(n:Nat):∀j,(yd w l t n j).1.length=n
 | 0=>jP n
 | j+1=>by
   have:=kU w l t n j
   simp only[yd,vg]
   split<;>simp[this]
theorem AL{w:Wh}(hw:bnd w.frm)(l:List Int)(t:Int){n:Nat}(hl:∀p∈l,0≤p∧p<w.frm.length):∀j,j≤l.length→bnd (yd w l t n j).1
 | 0,_=>vf n
 | j+1,hj=>by
   have:=AL hw l t hl (n:=n) j (by omega)
   simp only[yd,vg]
   split
   · have hp:=hl _ (aa (l:=l) (j:=j) (by omega))
     have:=hw _ (aa (l:=w.frm) (j:=(nth l j).toNat) (by omega))
     exact ve (by assumption) this.1 this.2
   · exact this
def xd(m:aT)(w:Wh)(l:List Int)(a b:Int):Wh×Int:=
 if ke m w l a b≠0 then(w,ke m w l a b)else if a<w.time then(w,42)else
 if(yd w l b m.places.length l.length).2=true then(⟨b,cK m a none (yd w l b m.places.length l.length).1⟩,0)else(w,43)
theorem kV{m:aT}{w:Wh}{l:List Int}{a b:Int}(h:ke m w l a b=0):cO m w=true∧l≠[]∧rr l m.places.length=true∧inT a∧inT b∧a≤b:=by
 unfold ke at h
 split at h
 · rename_i h1
   split at h
   · rename_i h2;exact⟨h1.1,h1.2.1,h1.2.2,h2⟩
   · omega
 · omega
theorem bL{m:aT}{w:Wh}(h:cO m w=true):w.frm.length=m.places.length∧inT w.time∧(∀x∈w.frm,plT x)∧cK m w.time none w.frm=w.frm:=by
 simp only[cO,Bool.and_eq_true,decide_eq_true_eq]at h
 obtain⟨h1,h2,h3⟩:=pD h.1
 exact⟨by omega,h2,h3,h.2⟩
theorem WU{m:aT}(h:m.ok)(w:Wh)(hl:w.frm.length≤1000000)(l:List Int)(hp:l.length≤1000000)(a b:Int):
 aO 0 N.gP [.t m.e,.t w.e,.t (tL l),I a,I b] []=some (.tup [.t (xd m w l a b).1.e,I (xd m w l a b).2],[]):=by
 refine ax K.sI rfl ?_
 have as:=FK h w hl l hp a b
 have cp:=AJ w (by omega)
 have np:=h.np
 have nv:=Cm m.places.length (by omega)
 have nl:=jP m.places.length
 unfold xd
 by_cases h0:ke m w l a b=0
 · obtain⟨v1,v2,v3,v4,v5,v6⟩:=kV h0
   obtain⟨w1,w2,w3,w4⟩:=bL v1
   have hlen:=AK v3
   rw[h0]at as ⊢
   obtain⟨time,frm⟩:=w
   simp only at*
   by_cases h1:a<time
   · simp (disch:=omega) only[go_sem,K.gP,↓reduceIte,as,cp,h1,ne_eq,not_true_eq_false]
   · have hbw:bnd (Wh.frm ⟨time,frm⟩):=fun x hx=>iH (w3 x hx)
     have hb:=AL hbw l b (n:=m.places.length) (fun p hp=>by
      obtain⟨j,hj⟩:=List.mem_iff_getElem?.1 hp
      have:=pE v3 (List.getElem?_eq_some_iff.1 hj).1
      rw[bB hj]at this
      simp only
      omega) l.length (Nat.le_refl _)
     have ln:=kU ⟨time,frm⟩ l b m.places.length
     have loop:∀x y z u v:D,exS aO K.vY ⟨[x,y,.t (tL l),I a,I b,.bp 0 0,.bp 1 0,.bp 2 0,z,u,.ref 3 0 m.places.length,B false,I 0,v],[.box (ah m),.box [I time,.t (tL frm)],.box [I 0,.nil],.arr 1 false 0 (((iw m.places.length).map (T.int .i64)).map .t)]⟩=
      some (.exit 0,⟨[.und,.und,.t (tL l),I a,I b,.bp 0 0,.bp 1 0,.bp 2 0,.und,.und,.ref 3 0 m.places.length,B (yd ⟨time,frm⟩ l b m.places.length l.length).2,I l.length,.und],[.box (ah m),.box [I time,.t (tL frm)],.box [I 0,.nil],.arr 1 false 0 ((((yd ⟨time,frm⟩ l b m.places.length l.length).1).map (T.int .i64)).map .t)]⟩):=by
      intro x y z u v
      refine dC (fun j=>⟨[.und,.und,.t (tL l),I a,I b,.bp 0 0,.bp 1 0,.bp 2 0,.und,.und,.ref 3 0 m.places.length,B (yd ⟨time,frm⟩ l b m.places.length j).2,I j,.und],[.box (ah m),.box [I time,.t (tL frm)],.box [I 0,.nil],.arr 1 false 0 ((((yd ⟨time,frm⟩ l b m.places.length j).1).map (T.int .i64)).map .t)]⟩) l.length rfl ?_ ?_ (by simp)
      · intro j hj
        obtain⟨p1,p2, -⟩:=pE v3 hj
        have lj:=ln j
        by_cases hc:nth frm (nth l j).toNat≤b
        · simp (disch:=omega) only[go_sem,K.mb,↓reduceIte,yd,vg,hc]
        · simp (disch:=omega) only[go_sem,K.mb,↓reduceIte,yd,vg,hc]
      · simp (disch:=omega) only[go_sem,K.mb,↓reduceIte]
     have cl:=xc h a v4 _ (ln l.length) hb
     have ln:=ln l.length
     simp (disch:=omega) only[go_sem,K.gP,↓reduceIte,as,h1,nv,loop,ne_eq,not_true_eq_false]
     cases hs:(yd ⟨time,frm⟩ l b m.places.length l.length).2 with
     | true=>simp (disch:=omega) only[go_sem,↓reduceIte,ln,cl]
     | false=>simp (disch:=omega) only[go_sem,↓reduceIte,cp,Bool.false_eq_true]
 · obtain⟨time,frm⟩:=w
   simp only at*
   simp (disch:=omega) only[go_sem,K.gP,↓reduceIte,as,cp,h0,ne_eq,not_false_eq_true]
def D9(l0 l:List Int):Nat→List Int
 | 0=>l0
 | j+1=>(D9 l0 l j).set (nth l j).toNat 1099511627776
theorem uf(l0 l:List Int):∀j,(D9 l0 l j).length=l0.length
 | 0=>rfl
 | j+1=>by simp only[D9,List.length_set,uf l0 l j]
theorem AM{l0:List Int}(h:bnd l0)(l:List Int):∀j,bnd (D9 l0 l j)
 | 0=>h
 | j+1=>ve (AM h l j) (by omega) (by omega)
def zK(m:aT)(w:Wh)(l:List Int)(a b bl:Int):Wh×Int:=
 if ke m w l a b≠0 then(w,ke m w l a b)else if ¬inT bl then(w,8)else if b<w.time then(w,42)else if b-max a w.time≤bl then(w,0)else
 (⟨b,cK m b none (cK m (b-bl) (some l) (D9 w.frm l l.length))⟩,0)
theorem WW{m:aT}(h:m.ok)(w:Wh)(hl:w.frm.length≤1000000)(l:List Int)(hp:l.length≤1000000)(a b bl:Int):
 aO 0 N.cN [.t m.e,.t w.e,.t (tL l),I a,I b,I bl] []=some (.tup [.t (zK m w l a b bl).1.e,I (zK m w l a b bl).2],[]):=by
 refine ax K.nV rfl ?_
 have as:=FK h w hl l hp a b
 have cp:=AJ w (by omega)
 have ib:=ue bl
 have np:=h.np
 unfold zK
 by_cases h0:ke m w l a b=0
 · obtain⟨v1,v2,v3,v4,v5,v6⟩:=kV h0
   obtain⟨w1,w2,w3,w4⟩:=bL v1
   have hlen:=AK v3
   rw[h0]at as ⊢
   obtain⟨time,frm⟩:=w
   simp only at*
   by_cases h1:inT bl
   · by_cases h2:b<time
     · simp only[h1,decide_true]at ib
       simp (disch:=omega) only[go_sem,K.cN,↓reduceIte,as,ib,cp,h1,h2,ne_eq,not_true_eq_false,not_false_eq_true]
     · simp only[h1,decide_true]at ib
       unfold inT at v4 v5 w2 h1
       by_cases h3:b-max a time≤bl
       · simp (disch:=omega) only[go_sem,K.cN,↓reduceIte,as,ib,cp,h1,h2,h3,ne_eq,not_true_eq_false,not_false_eq_true,inT,and_self]
       · have hb:bnd frm:=fun x hx=>iH (w3 x hx)
         have ln:=uf frm l
         have lb:=AM hb l
         have loop:∀x y z u v w:D,exS aO K.qx ⟨[x,y,.t (tL l),z,I b,I bl,.bp 0 0,u,.bp 2 0,v,w,.ref 3 0 frm.length,I 0],[.box (ah m),.box [I time,.t (tL frm)],.box [I 0,.nil],.arr 1 false 0 ((frm.map (T.int .i64)).map .t)]⟩=
          some (.exit 0,⟨[.und,.und,.t (tL l),.und,I b,I bl,.bp 0 0,.und,.bp 2 0,.und,.und,.ref 3 0 frm.length,I l.length],[.box (ah m),.box [I time,.t (tL frm)],.box [I 0,.nil],.arr 1 false 0 (((D9 frm l l.length).map (T.int .i64)).map .t)]⟩):=by
          intro x y z u v w
          refine dC (fun j=>⟨[.und,.und,.t (tL l),.und,I b,I bl,.bp 0 0,.und,.bp 2 0,.und,.und,.ref 3 0 frm.length,I j],[.box (ah m),.box [I time,.t (tL frm)],.box [I 0,.nil],.arr 1 false 0 (((D9 frm l j).map (T.int .i64)).map .t)]⟩) l.length rfl ?_ ?_ (by simp)
          · intro j hj
            obtain⟨p1,p2, -⟩:=pE v3 hj
            have lj:=ln j
            simp (disch:=omega) only[go_sem,K.lJ,↓reduceIte,D9]
          · simp (disch:=omega) only[go_sem,K.lJ,↓reduceIte]
         have hi:∀s,some l=some s→s≠[]∧s.length≤64:=by
          intro s hs;cases hs;exact⟨v2,by omega⟩
         have ln:=ln l.length
         have lb:=lb l.length
         have t1:inT (b-bl):=by unfold inT;omega
         have c1:=xb h (b-bl) (by omega) (by omega) (some l) hi _ (by omega) lb
         simp only[nY]at c1
         have c2:=xc h b v5 (cK m (b-bl) (some l) (D9 frm l l.length)) (kI h _ t1 _ hi (by omega) lb) (zJ h _ t1 _ hi (by omega) lb)
         have c3:=c1.1
         unfold cK at c2 ⊢
         clear c1
         simp (disch:=omega) only[go_sem,K.cN,↓reduceIte,as,ib,loop,c2,c3,ln,h1,h2,h3,ne_eq,not_true_eq_false,not_false_eq_true,inT,and_self,Nat.reduceAdd,Nat.reduceSub]
   · simp only[h1,decide_false]at ib
     simp (disch:=omega) only[go_sem,K.cN,↓reduceIte,as,ib,cp,h1,ne_eq,not_true_eq_false,not_false_eq_true]
 · obtain⟨time,frm⟩:=w
   simp only at*
   simp (disch:=omega) only[go_sem,K.cN,↓reduceIte,as,cp,h0,ne_eq,not_false_eq_true]
def zL(a b:List Int):Nat→List Int
 | 0=>[]
 | j+1=>zL a b j++[min (nth a j) (nth b j)]
theorem kW(a b:List Int):∀j,(zL a b j).length=j
 | 0=>rfl
 | j+1=>by simp[zL,kW a b j]
def ie(a b:Wh):Wh×Int:=if a.frm.length=b.frm.length then(⟨max a.time b.time,zL a.frm b.frm a.frm.length⟩,0)else(⟨0,[]⟩,6)
theorem QO(a b:Wh)(ha:a.frm.length≤1000000):aO 0 N.gr [.t a.e,.t b.e] []=some (.tup [.t (ie a b).1.e,I (ie a b).2],[]):=by
 refine ax K.qD rfl ?_
 obtain⟨t1,l1⟩:=a
 obtain⟨t2,l2⟩:=b
 simp only[ie]at*
 by_cases hl:l1.length=l2.length
 · have ln:=kW l1 l2
   have loop:∀x y z:D,exS aO K.tZ ⟨[x,y,.bp 0 0,.bp 1 0,.bp 2 0,z,.bp 3 0,I 0],[.box [I t1,.t (tL l1)],.box [I t2,.t (tL l2)],.box [I 0,.nil],.box [I (max t1 t2),.ref 5 0 0],.arr 1 false 0 [],.arr 1 false 0 []]⟩=
    some (.exit 0,⟨[.und,.und,.bp 0 0,.bp 1 0,.bp 2 0,.und,.bp 3 0,I l1.length],[.box [I t1,.t (tL l1)],.box [I t2,.t (tL l2)],.box [I 0,.nil],.box [I (max t1 t2),.ref 5 0 l1.length],.arr 1 false 0 [],.arr 1 false 0 (((zL l1 l2 l1.length).map (T.int .i64)).map .t)]⟩):=by
    intro x y z
    refine dC (fun j=>⟨[.und,.und,.bp 0 0,.bp 1 0,.bp 2 0,.und,.bp 3 0,I j],[.box [I t1,.t (tL l1)],.box [I t2,.t (tL l2)],.box [I 0,.nil],.box [I (max t1 t2),.ref 5 0 j],.arr 1 false 0 [],.arr 1 false 0 (((zL l1 l2 j).map (T.int .i64)).map .t)]⟩) l1.length rfl ?_ ?_ (by simp)
    · intro j hj
      have lj:=ln j
      simp (disch:=omega) only[go_sem,K.nT,↓reduceIte,zL,Nat.reduceAdd,Nat.reduceSub]
      done
    · simp (disch:=omega) only[go_sem,K.nT,↓reduceIte]
   have ln:=ln l1.length
   simp (disch:=omega) only[go_sem,K.gr,↓reduceIte,loop]
 · simp (disch:=omega) only[go_sem,K.gr,↓reduceIte,hl]
   rfl
theorem ny{α:Type} [Dat α](l:List α)(k:Nat)(hk:k<l.length)(x:α)(j:Nat):nth (l.set k x) j=if j=k then x else nth l j:=by
 unfold nth
 by_cases h:j=k
 · subst h;rw[if_pos rfl];simp[hk]
 · rw[if_neg h]
   have:¬k=j:=fun e=>h e.symm
   simp[List.getElem?_set,this]
theorem ru{α:Type} [Dat α]{a b:List α}(h:a.length=b.length)(e:∀j,j<a.length→nth a j=nth b j):a=b:=by
 apply List.ext_getElem h
 intro j h1 h2
 have:=e j h1
 rwa [bB (List.getElem?_eq_getElem h1),bB (List.getElem?_eq_getElem h2)]at this
theorem xe{l:List Int}{i:Nat}(h:l.length≤i):nth l i=0:=by unfold nth;rw[List.getD_eq_getElem?_getD,List.getElem?_eq_none h];rfl
def clW(m:aT)(t:Int)(into:Option (List Int))(y:List Int):Prop:=∀k,k<m.roads.length→∀back,Jf into ((nth m.roads k).dst back)=true→0≤dI m k back 6 9 12→
 nth y ((nth m.roads k).src back).toNat<1099511627776→max t (nth y ((nth m.roads k).src back).toNat+dI m k back 6 9 12)≤2147483648→
 nth y ((nth m.roads k).dst back).toNat≤max t (nth y ((nth m.roads k).src back).toNat+dI m k back 6 9 12)
theorem AN{m:aT}{t t':Int}(ht:t≤t'){into:Option (List Int)}{y:List Int}(h:clW m t none y):clW m t' into y:=by
 intro k hk back _ h1 h2 h3
 have:=h k hk back rfl h1 h2 (by omega)
 omega
theorem sL{α:Type}{f:α→α×Bool}(P:α→Prop)(hP:∀l,P l→P (f l).1):∀n l,P l→P (iW f n l)
 | 0,l,h=>h
 | n+1,l,h=>by
   unfold iW
   split
   · exact sL P hP n _ (hP l h)
   · exact hP l h
theorem ye{α:Type}{f:α→α×Bool}(P:α→Prop)(mes:α→Nat)(hP:∀l,P l→P (f l).1∧((f l).2=true→mes (f l).1<mes l)∧((f l).2=false→(f l).1=l)):∀n l,P l→mes l<n→(f (iW f n l)).2=false∧P (iW f n l)
 | 0,l,_,h=>by omega
 | n+1,l,hp,h=>by
   obtain⟨h1,h2,h3⟩:=hP l hp
   unfold iW
   cases hf:(f l).2 with
   | true=>
     rw[if_pos rfl]
     have:=h2 hf
     exact ye P mes hP n _ h1 (by omega)
   | false=>
     rw[if_neg (by simp),h3 hf]
     exact⟨hf,hp⟩
theorem xf{m:aT}(t:Int)(into:Option (List Int))(k:Nat)(back:Bool)(l:List Int):
 (Jf into ((nth m.roads k).dst back)=true∧0≤dI m k back 6 9 12∧nth l ((nth m.roads k).src back).toNat<1099511627776∧max t (nth l ((nth m.roads k).src back).toNat+dI m k back 6 9 12)≤2147483648∧
  max t (nth l ((nth m.roads k).src back).toNat+dI m k back 6 9 12)<nth l ((nth m.roads k).dst back).toNat∧
  eQ m t into k back l=(l.set ((nth m.roads k).dst back).toNat (max t (nth l ((nth m.roads k).src back).toNat+dI m k back 6 9 12)),true))∨
 (eQ m t into k back l=(l,false)∧¬(Jf into ((nth m.roads k).dst back)=true∧0≤dI m k back 6 9 12∧nth l ((nth m.roads k).src back).toNat<1099511627776∧max t (nth l ((nth m.roads k).src back).toNat+dI m k back 6 9 12)≤2147483648∧
  max t (nth l ((nth m.roads k).src back).toNat+dI m k back 6 9 12)<nth l ((nth m.roads k).dst back).toNat)):=by
 unfold eQ mH lT
 cases Jf into ((nth m.roads k).dst back)with
 | false=>right;simp
 | true=>
   simp only[↓reduceIte,true_and,Bool.and_eq_true,decide_eq_true_eq]
   by_cases c:((0≤dI m k back 6 9 12∧nth l ((nth m.roads k).src back).toNat<1099511627776)∧max t (nth l ((nth m.roads k).src back).toNat+dI m k back 6 9 12)≤2147483648)∧max t (nth l ((nth m.roads k).src back).toNat+dI m k back 6 9 12)<nth l ((nth m.roads k).dst back).toNat
   · left
     refine⟨c.1.1.1,c.1.1.2,c.1.2,c.2,?_⟩
     rw[if_pos c]
     simp[c.1.1.1,c.1.1.2,c.1.2,c.2]
   · right
     refine⟨?_,fun h=>c ⟨⟨⟨h.1,h.2.1⟩,h.2.2.1⟩,h.2.2.2⟩⟩
     rw[if_neg c]
     simp only[Prod.mk.injEq,true_and]
     rw[Bool.eq_false_iff];intro h;simp only[Bool.and_eq_true,decide_eq_true_eq]at h;exact c h
section
variable {m : aT} (h : m.ok) {t : Int} {into : Option (List Int)}
include h
theorem zM(P:List Int→Prop)(hP:∀l,l.length=m.places.length→bnd l→P l→∀k,k<m.roads.length→∀back,P (eQ m t into k back l).1){l:List Int}(hl:l.length=m.places.length)(hb:bnd l)(hp:P l):∀k,k≤m.roads.length→P (ez m t into l k).1
 | 0,_=>hp
 | k+1,hk=>by
   have ih:=zM P hP hl hb hp k (by omega)
   have b1:=gZ h (t:=t) (into:=into) hl hb k (by omega)
   have l1:(ez m t into l k).1.length=m.places.length:=by rw[dq,hl]
   simp only[ez,sK]
   exact hP _ (by rw[oF,l1]) (qG h l1 b1 (by omega) false) (hP _ l1 b1 ih k (by omega) false) k (by omega) true
theorem vh(P:List Int→Prop)(hP:∀l,l.length=m.places.length→bnd l→P l→∀k,k<m.roads.length→∀back,P (eQ m t into k back l).1){l:List Int}(hl:l.length=m.places.length)(hb:bnd l)(hp:P l):P (cK m t into l):=
 (sL (f:=c8 m t into) (fun l=>(l.length=m.places.length∧bnd l)∧P l) (fun l hl=>⟨⟨by unfold c8;rw[dq];exact hl.1.1,gZ h hl.1.1 hl.1.2 _ (Nat.le_refl _)⟩,zM h P hP hl.1.1 hl.1.2 hl.2 _ (Nat.le_refl _)⟩) _ l ⟨⟨hl,hb⟩,hp⟩).2
theorem qH{l:List Int}(hl:l.length=m.places.length)(hb:bnd l):(cK m t into l).length=m.places.length∧bnd (cK m t into l):=
 (sL (f:=c8 m t into) (fun l=>(l.length=m.places.length∧bnd l)) (fun l hl=>⟨by unfold c8;rw[dq];exact hl.1,gZ h hl.1 hl.2 _ (Nat.le_refl _)⟩) _ l ⟨hl,hb⟩)
theorem Cn{l:List Int}(hl:l.length=m.places.length)(hb:bnd l)(j:Nat):nth (cK m t into l) j≤nth l j:=
 vh h (fun l'=>nth l' j≤nth l j) (fun l' hl' hb' hp k hk back=>by
  have r2:=Road.ya (h.rs _ (aa hk)) back
  rcases xf (m:=m) t into k back l' with⟨_,_,_,_,c,e⟩ | ⟨e,_⟩
  · rw[e];simp only
    rw[ny _ _ (by omega)]
    split
    · rename_i hj;rw[hj]at hp;rw[hj];omega
    · exact hp
  · rw[e];exact hp) hl hb (Int.le_refl _)
theorem yf{y l:List Int}(hy:clW m t into y)(hl:l.length=m.places.length)(hb:bnd l)(hle:∀j,nth y j≤nth l j):∀j,nth y j≤nth (cK m t into l) j:=
 vh h (fun l'=>∀j,nth y j≤nth l' j) (fun l' hl' hb' hp k hk back=>by
  have r2:=Road.ya (h.rs _ (aa hk)) back
  rcases xf (m:=m) t into k back l' with⟨c1,c2,c3,c4,c5,e⟩ | ⟨e,_⟩
  · rw[e];simp only
    intro j
    rw[ny _ _ (by omega)]
    split
    · rename_i hj
      have:=hp ((nth m.roads k).src back).toNat
      have:=hy k hk back c1 c2 (by omega) (by omega)
      rw[hj];omega
    · exact hp j
  · rw[e];exact hp) hl hb hle
theorem Co{l:List Int}(hl:l.length=m.places.length)(hb:bnd l):∀k,k≤m.roads.length→(ez m t into l k).2=false→∀i,i<k→∀back,(eQ m t into i back l).2=false
 | 0,_,_,i,hi,_=>by omega
 | k+1,hk,hf,i,hi,back=>by
   have e:=(oG h (t:=t) (into:=into) hl hb k (by omega)).2
   have ih:=Co hl hb k (by omega)
   simp only[ez,sK,Bool.or_eq_false_iff]at hf
   obtain⟨⟨f1,f2⟩,f3⟩:=hf
   have e:=e f1
   rw[e]at f2 f3
   have e2:=(yc h (t:=t) (into:=into) hl hb (k:=k) (by omega) false).2 f2
   rw[e2]at f3
   by_cases c:i<k
   · exact ih f1 i c back
   · have:i=k:=by omega
     subst this
     cases back
     · exact f2
     · exact f3
theorem yg{l:List Int}(hl:l.length=m.places.length)(hb:bnd l):clW m t into (cK m t into l):=by
 obtain⟨h1,h2,h3⟩:=ye (f:=c8 m t into) (fun l=>l.length=m.places.length∧bnd l) xa (fun l ⟨hl,hb⟩=>⟨⟨by unfold c8;rw[dq];exact hl,gZ h hl hb _ (Nat.le_refl _)⟩,oG h hl hb _ (Nat.le_refl _)⟩) (xa l+1) l ⟨hl,hb⟩ (Nat.lt_succ_self _)
 intro k hk back c1 c2 c3 c4
 have no:=Co h (t:=t) (into:=into) h2 h3 m.roads.length (Nat.le_refl _) h1 k hk back
 change (eQ m t into k back (cK m t into l)).2=false at no
 rcases xf (m:=m) t into k back (cK m t into l)with⟨_,_,_,_,_,e⟩ | ⟨_,e⟩
 · rw[e]at no;cases no
 · exact Classical.byContradiction fun hc=>e ⟨c1,c2,c3,c4,by omega⟩
theorem Jh{l:List Int}(hl:l.length=m.places.length)(hb:bnd l)(hc:clW m t into l):cK m t into l=l:=by
 apply ru (by rw[(qH h hl hb).1,hl])
 intro j hj
 exact Int.le_antisymm (Cn h hl hb j) (yf h hc hl hb (fun _=>Int.le_refl _) j)
theorem zN(P:Int→Prop){l:List Int}(hl:l.length=m.places.length)(hb:bnd l)(hp:∀x∈l,P x)(ht:∀x,t≤x→x≤2147483648→P x):∀x∈cK m t into l,P x:=
 vh h (fun l'=>∀x∈l',P x) (fun l' hl' hb' hp k hk back=>by
  rcases xf (m:=m) t into k back l' with⟨c1,c2,c3,c4,c5,e⟩ | ⟨e,_⟩
  · rw[e]
    intro x hx
    rcases List.mem_or_eq_of_mem_set hx with hx | hx
    · exact hp x hx
    · subst hx;exact ht _ (by omega) c4
  · rw[e];exact hp) hl hb hp
end
theorem yh{m:aT}(h:m.ok){w:Wh}(hl:w.frm.length=m.places.length)(ht:inT w.time)(hp:∀x∈w.frm,plT x)(hc:clW m w.time none w.frm):cO m w=true:=by
 have hb:bnd w.frm:=fun x hx=>iH (hp x hx)
 simp only[cO,mI,Bool.and_eq_true,decide_eq_true_eq,List.all_eq_true,List.mem_range]
 exact⟨⟨⟨by omega,ht⟩,fun j hj=>hp _ (aa hj)⟩,Jh h hl hb hc⟩
theorem ug{m:aT}(h:m.ok){w:Wh}(hv:cO m w=true):clW m w.time none w.frm:=by
 obtain⟨v1,v2,v3,v4⟩:=bL hv
 have:=yg h (t:=w.time) (into:=none) v1 (fun x hx=>iH (v3 x hx))
 rwa [v4]at this
theorem pF{m:aT}(h:m.ok){l:List Int}(hl:l.length=m.places.length)(hp:∀x∈l,plT x){a b:Int}(ha:0≤a)(hab:a≤b)(hb:inT b):cO m ⟨b,cK m a none l⟩=true:=by
 have bn:bnd l:=fun x hx=>iH (hp x hx)
 exact yh h (qH h hl bn).1 hb (zN h plT hl bn hp (fun x h1 h2=> .inr ⟨by omega,h2⟩)) (AN hab (yg h hl bn))
theorem Ji(n:Nat):∀x∈iw n,plT x:=fun x hx=>by rw[List.eq_of_mem_replicate hx];exact .inl rfl
theorem yi{m:aT}(h:m.ok){p t:Int}(h0:0≤p)(h1:p<m.places.length)(ht:inT t):fQ m p t=(⟨t,cK m t none ((iw m.places.length).set p.toNat t)⟩,0)∧cO m (fQ m p t).1=true:=by
 have e:fQ m p t=(⟨t,cK m t none ((iw m.places.length).set p.toNat t)⟩,0):=by
  unfold fQ;rw[if_neg (by omega),if_pos ht]
 refine⟨e,?_⟩
 rw[e]
 refine pF h (by simp) (fun x hx=>?_) ht.1 (Int.le_refl _) ht
 rcases List.mem_or_eq_of_mem_set hx with hx | hx
 · exact Ji _ x hx
 · subst hx;exact .inr ht
theorem AO{w:Wh}{l:List Int}{b:Int}{n:Nat}(hl:∀p∈l,0≤p∧p<n):∀k,k≤l.length→∀j,j<n→nth (yd w l b n k).1 j=if(j:Int)∈l.take k∧nth w.frm j≤b then nth w.frm j else 1099511627776
 | 0,_,j,hj=>by
   rw[if_neg (by simp)]
   exact bB (by simp[yd,iw,hj])
 | k+1,hk,j,hj=>by
   have ih:=AO (w:=w) (b:=b) hl k (by omega) j hj
   have p:=hl _ (aa (l:=l) (j:=k) (by omega))
   rw[iv (by omega)]
   simp only[yd,vg]
   by_cases e:(j:Int)=nth l k
   · have e2:j=(nth l k).toNat:=by omega
     by_cases c:nth w.frm (nth l k).toNat≤b
     · rw[if_pos c,ny _ _ (by rw[kU];omega),if_pos e2,if_pos ⟨by simp[e],by rw[e2];exact c⟩,e2]
     · rw[if_neg c,ih,if_neg (fun x=>c (by rw[← e2];exact x.2)),if_neg (fun x=>c (by rw[← e2];exact x.2))]
   · have e2:¬j=(nth l k).toNat:=by omega
     have mm:((j:Int)∈l.take k++[nth l k])↔(j:Int)∈l.take k:=by simp[e]
     simp only[mm]
     rw[← ih]
     split
     · rw[ny _ _ (by rw[kU];omega),if_neg e2]
     · rfl
end Go.Ev
namespace Go.Ev
open Go
variable [Lib] [cn] [bR]
structure OfI(m:aT)(p:Nat)(l:List Int):Prop where
 ln:l.length=m.places.length
 bd:bnd l
 z:nth l p=0
theorem OfI.set{m:aT}{p:Nat}{l:List Int}(h:OfI m p l){q:Nat}{x:Int}(hq:q<l.length)(h0:0<x)(hx:x<nth l q):OfI m p (l.set q x):=by
 have b1:=h.bd _ (aa hq)
 refine⟨by rw[List.length_set];exact h.ln,ve h.bd (by omega) (by omega),?_⟩
 rw[ny _ _ hq]
 split
 · rename_i e;subst e;have:=h.z;omega
 · exact h.z
theorem G0(n q:Nat)(h:q<n):nth (iw n) q=1099511627776:=bB (by unfold iw;rw[List.getElem?_replicate,if_pos h])
theorem mK{n:Nat}{p:Nat→Bool}{x:Int}(h:x∈gx n p):∃k:Nat,x=k∧k<n∧p k=true:=by
 unfold gx at h
 simp only[List.mem_map,List.mem_filter,List.mem_range]at h
 obtain⟨k,⟨h1,h2⟩,rfl⟩:=h
 exact⟨k,rfl,h1,h2⟩
theorem sM(n:Nat)(p:Nat→Bool):rr (gx n p) n=true:=by
 unfold rr
 rw[List.all_eq_true]
 intro j hj
 rw[List.mem_range]at hj
 simp only[decide_eq_true_eq]
 have pw:(gx n p).Pairwise (· < ·):=by
  unfold gx
  rw[List.pairwise_map]
  exact(List.pairwise_lt_range.filter _).imp fun h=>by omega
 obtain⟨k,e,hk, -⟩:=mK (aa hj)
 refine⟨by omega,by omega,fun h0=>?_⟩
 have:=List.pairwise_iff_getElem.1 pw (j-1) j (by omega) hj (by omega)
 rwa [bB (List.getElem?_eq_getElem (by omega:j-1<_)),bB (List.getElem?_eq_getElem hj)]
@[go_sem] theorem acv (H : aj) (a b : List T) : zF H 1 [.t (.sl a), .t (.sl b), .nil] = some (.t (.sl [.sl a, .sl b, .sl []]), H) := by
 simp only[zF,List.all_cons,List.all_nil,D.cells,T.cells,List.map_cons,List.map_nil,List.length_cons,List.length_nil,bO,frz,depth,eW,List.flatMap_cons,List.flatMap_nil,pins]
 rfl
def Mf(c:Bool):Option Bool→Option Bool
 | some d=>some (c&&d)
 | none=>none
@[go_sem] theorem TS (c d : Bool) : Mf c (some d) = some (c && d) := (rfl)
@[go_sem] theorem TT : lO [] [] = some true := (rfl)
@[go_sem] theorem QP (k : IntKind) (a b : Int) (xs ys : List T) : lO (.int k a :: xs) (.int k b :: ys) = Mf (decide (a = b)) (lO xs ys) := by
 simp only[lO,if_true,Vc]
 cases lO xs ys<;>rfl
def Mg(H:aj)(neg:Bool):Option Bool→Option (D×aj)
 | some r=>some (.t (.bool (bif neg then !r else r)),H)
 | none=>none
@[go_sem] theorem TU (H : aj) (r : Bool) : Mg H true (some r) = some (.t (.bool (!r)), H) := (rfl)
@[go_sem] theorem QQ (H : aj) (r : Bool) : Mg H false (some r) = some (.t (.bool r), H) := (rfl)
@[go_sem] theorem QR (H : aj) (n : Nat) (neg : Bool) (xs ys : List T) : qp H (.ints n) neg (some (.t (.agg xs))) (some (.t (.agg ys))) = if xs.length = n then Mg H neg (lO xs ys) else none := by
 simp only[qp,Option.bind_some,Nr,eqD]
 by_cases h:xs.length=n
 · simp only[if_pos h]
   cases lO xs ys with
   | none=>rfl
   | some r=>cases neg<;>rfl
 · simp only[if_neg h];rfl
@[go_sem] theorem TV : ((2 : Nat) : Int) = 2 := (rfl)
@[go_sem] theorem N2 : ((3 : Nat) : Int) = 3 := (rfl)
def qa(n:Nat)(p:Nat→Bool):Nat:=((List.range n).find? p).getD 0
theorem yj{gc:Bool}{dead:List Nat}{c:C}{vs:List D}{H:aj}(s:Nat→St)(n:Nat)(p:Nat→Bool)(e:Nat→Ex×St)(eN:Ex×St)
 (h0:(⟨jA dead vs,H⟩:St)=s 0)
 (hs:∀j,j<n→p j=false→eY gc dead (s j).H.length (exS aO c (s j))=some (s (j+1)))
 (he:∀j,j<n→p j=true→exS aO c (s j)=some (e j)∧(e j).1≠ .normal)
 (hN:exS aO c (s n)=some eN) (hn:eN.1≠ .normal):
 exS aO (.loop gc dead c) ⟨vs,H⟩=some (if(List.range n).any p=true then e (qa n p)else eN):=by
 rw[cF s n p e eN h0 hs he hN hn,←FE]
 unfold qa
 cases hf:(List.range n).find? p with
 | none=>simp
 | some k=>simp
theorem yk{α:Type} [Dat α](l:List α)(p:α→Bool):((List.range l.length).any fun j=>p (nth l j))=l.any p:=by
 rw[Bool.eq_iff_iff,List.any_eq_true,List.any_eq_true]
 constructor
 · rintro ⟨j,hj,hp⟩
   exact⟨_,aa (List.mem_range.1 hj),hp⟩
 · rintro ⟨x,hx,hp⟩
   obtain⟨j,hj,rfl⟩:=List.getElem_of_mem hx
   exact⟨j,List.mem_range.2 hj,by rw[bB (List.getElem?_eq_getElem hj)];exact hp⟩
theorem Jj(n:Nat)(p:Nat→Bool):(List.range n).all p= !((List.range n).any fun j=> !p j):=by
 rw[List.all_eq_not_any_not]
@[go_sem] theorem WX : jU [] [] [] = some true := (rfl)
@[go_sem] theorem WY (ks : List Bool) (k : IntKind) (a b : Int) (xs ys : List T) : jU (true :: ks) (.int k a :: xs) (.int k b :: ys) = Mf (decide (a = b)) (jU ks xs ys) := by
 simp only[jU,if_true,Vc]
 cases jU ks xs ys<;>rfl
@[go_sem] theorem TW (ks : List Bool) (a b : Bool) (xs ys : List T) : jU (false :: ks) (.bool a :: xs) (.bool b :: ys) = Mf (decide (a = b)) (jU ks xs ys) := by
 simp only[jU,show(a==b)=decide (a=b)from rfl]
 cases jU ks xs ys<;>rfl
@[go_sem] theorem ZJ (H : aj) (ks : List Bool) (neg : Bool) (xs ys : List T) : qp H (.sc ks) neg (some (.t (.agg xs))) (some (.t (.agg ys))) = Mg H neg (jU ks xs ys) := by
 simp only[qp,Option.bind_some,Nr,eqD]
 cases jU ks xs ys with
 | none=>rfl
 | some r=>cases neg<;>rfl
end Go.Ev
