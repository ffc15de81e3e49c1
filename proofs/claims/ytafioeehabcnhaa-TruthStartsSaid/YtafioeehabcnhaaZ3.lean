/- Parts of the proof: see the text that holds the theorem. -/
import Derived.Test.YtafioeehabcnhaaZ2
set_option linter.all false
set_option maxRecDepth 100000
namespace Go.Ev
open Go
abbrev I(n:Int):D:= .t (.int .i64 n)
abbrev B(b:Bool):D:= .t (.bool b)
def wB{β:Type}(call:aC):List R→List D→List D→ab→(List D→List D→ab→Option β)→Option β
 | rs,L,vs,H,K=>(evR call rs L vs H).bind fun q=>K q.1 q.2.1 q.2.2
def Dr{β:Type}(call:aC)(rs:List R)(d:Option Nat)(L vs:List D)(K:List D→List D→ab→Option β)(p:D×ab):Option β:=
 wB call rs (p.1::L) (wr vs d p.1) p.2 K
@[go_sem] theorem MC {β : Type} (call : aC) (rs : List R) (d : Option Nat) (L vs : List D) (K : List D → List D → ab → Option β) (x : D) (H : ab) :
 Dr call rs d L vs K (x,H)=wB call rs (x::L) (wr vs d x) H K:=(rfl)
@[go_sem] theorem MD {β : Type} (call : aC) (L vs : List D) (H : ab) (K : List D → List D → ab → Option β) : wB call [] L vs H K = K L vs H := (rfl)
@[go_sem] theorem JH {β : Type} (call : aC) (o : O) (d : Option Nat) (rs : List R) (L vs : List D) (H : ab) (K : List D → List D → ab → Option β) :
 wB call (⟨o,d,none⟩::rs) L vs H K=(evO call (X.get vs L) H o).bind (Dr call rs d L vs K):=by
 simp[wB,evR,bc,Option.bind_assoc]
 rfl
def gate{β:Type}(c:Option D)(w:Bool)(a b:Option β):Option β:=match c with
 | some (.t (.bool x))=>if x=w then a else b
 | some (.tup [])=>b
 | _=>none
@[congr] theorem GQ {β : Type} {c c' : Option D} {w : Bool} {a b : Option β} (h : True → c = c') : gate c w a b = gate c' w a b := by rw [h trivial]
@[go_sem] theorem ME {β : Type} (p : Prop) [Decidable p] (a b : Option β) : gate (some (.t (.bool (decide p)))) true a b = if p then a else b := by
 by_cases h:p<;>simp[gate,h]
@[go_sem] theorem JI {β : Type} (p : Prop) [Decidable p] (a b : Option β) : gate (some (.t (.bool (decide p)))) false a b = if p then b else a := by
 by_cases h:p<;>simp[gate,h]
@[go_sem] theorem JJ {β : Type} (x : Bool) (a b : Option β) : gate (some (.t (.bool x))) true a b = if x = true then a else b := (rfl)
@[go_sem] theorem GR {β : Type} (x : Bool) (a b : Option β) : gate (some (.t (.bool x))) false a b = if x = true then b else a := by cases x <;> rfl
@[go_sem] theorem JK {β : Type} (w : Bool) (a b : Option β) : gate (some (.tup [])) w a b = b := (rfl)
@[go_sem] theorem JL {β : Type} (call : aC) (o : O) (d : Option Nat) (k : Nat) (w : Bool) (rs : List R) (L vs : List D) (H : ab) (K : List D → List D → ab → Option β) :
 wB call (⟨o,d,some (k,w)⟩::rs) L vs H K=gate L[k]? w ((evO call (X.get vs L) H o).bind (Dr call rs d L vs K)) (wB call rs (.tup []::L) (wr vs d (.tup [])) H K):=by
 simp only[wB,evR,bc]
 cases hL:L[k]? with
 | none=>simp[gate]
 | some c=>
   simp only[Option.bind_some]
   cases c with
   | t x=>
     cases x with
     | bool b=>cases b<;>cases w<;>simp[gate,Option.bind_assoc]<;>rfl
     | _=>simp[gate]
   | tup ds=>
     cases ds with
     | nil=>simp[gate]
     | cons=>simp[gate]
   | _=>simp[gate]
open Classical in
noncomputable def mP{β:Type}(p:Prop)(x:Option β):Option β:=if p then x else none
@[go_sem] theorem Dt {β : Type} (x : Option β) : mP True x = x := by simp [mP]
noncomputable def rz{β:Type}(call:aC)(all:List R)(n:Nat)(ps:List (Nat×Nat))(rs:List R)(L vs:List D)(H:ab)(acc:List Tr)(K:List D→List D→ab→Option β):Option β:=
 (evR call rs L vs H).bind fun q=>mP (iV call all n ((trace call rs L vs H).reverse++acc) ps) (K q.1 q.2.1 q.2.2)
noncomputable def xA{β:Type}(call:aC)(all:List R)(n:Nat)(ps:List (Nat×Nat))(rs:List R)(d:Option Nat)(L vs:List D)(H:ab)(acc:List Tr)(K:List D→List D→ab→Option β)(p:D×ab):Option β:=
 rz call all n ps rs (p.1::L) (wr vs d p.1) p.2 ((L,vs,H)::acc) K
@[go_sem] theorem MF {β : Type} (call : aC) (all : List R) (n : Nat) (ps : List (Nat × Nat)) (rs : List R) (d : Option Nat) (L vs : List D) (H : ab) (acc : List Tr) (K : List D → List D → ab → Option β) (x : D) (H' : ab) :
 xA call all n ps rs d L vs H acc K (x,H')=rz call all n ps rs (x::L) (wr vs d x) H' ((L,vs,H)::acc) K:=(rfl)
@[go_sem] theorem MG {β : Type} (call : aC) (all : List R) (n : Nat) (ps : List (Nat × Nat)) (L vs : List D) (H : ab) (acc : List Tr) (K : List D → List D → ab → Option β) :
 rz call all n ps [] L vs H acc K=mP (iV call all n ((L,vs,H)::acc) ps) (K L vs H):=by
 simp[rz,evR,trace]
theorem rA{β:Type}(call:aC)(all:List R)(n:Nat)(ps:List (Nat×Nat))(r:R)(rs:List R)(L vs:List D)(H:ab)(acc:List Tr)(K:List D→List D→ab→Option β):
 rz call all n ps (r::rs) L vs H acc K=(bc L r.g).bind fun w=>
  if w then(evO call (X.get vs L) H r.o).bind (xA call all n ps rs r.d L vs H acc K)else rz call all n ps rs (.tup []::L) (wr vs r.d (.tup [])) H ((L,vs,H)::acc) K:=by
 obtain hw | ⟨w,hw⟩:bc L r.g=none∨∃w,bc L r.g=some w:=by cases bc L r.g<;>simp
 · simp[rz,evR,trace,hw]
 · cases w with
   | true=>
     obtain hq | ⟨q,hq⟩:evO call (X.get vs L) H r.o=none∨∃q,evO call (X.get vs L) H r.o=some q:=by cases evO call (X.get vs L) H r.o<;>simp
     · simp[rz,evR,trace,hw,hq]
     · simp[rz,evR,trace,hw,hq,xA]
   | false=>simp[rz,evR,trace,hw]
@[go_sem] theorem JM {β : Type} (call : aC) (all : List R) (n : Nat) (ps : List (Nat × Nat)) (o : O) (d : Option Nat) (rs : List R) (L vs : List D) (H : ab) (acc : List Tr) (K : List D → List D → ab → Option β) :
 rz call all n ps (⟨o,d,none⟩::rs) L vs H acc K=(evO call (X.get vs L) H o).bind (xA call all n ps rs d L vs H acc K):=by
 rw[rA];simp[bc]
@[go_sem] theorem JN {β : Type} (call : aC) (all : List R) (n : Nat) (ps : List (Nat × Nat)) (o : O) (d : Option Nat) (k : Nat) (w : Bool) (rs : List R) (L vs : List D) (H : ab) (acc : List Tr) (K : List D → List D → ab → Option β) :
 rz call all n ps (⟨o,d,some (k,w)⟩::rs) L vs H acc K=
  gate L[k]? w ((evO call (X.get vs L) H o).bind (xA call all n ps rs d L vs H acc K)) (rz call all n ps rs (.tup []::L) (wr vs d (.tup [])) H ((L,vs,H)::acc) K):=by
 rw[rA]
 simp only[bc]
 cases hL:L[k]? with
 | none=>simp[gate]
 | some c=>
   simp only[Option.bind_some]
   cases c with
   | t x=>
     cases x with
     | bool b=>cases b<;>cases w<;>simp[gate]
     | _=>simp[gate]
   | tup ds=>
     cases ds with
     | nil=>simp[gate]
     | cons=>simp[gate]
   | _=>simp[gate]
def ng(call:aC):Option R→Option Tr→Option Tr→Option Tr→Prop
 | some r,some s,some a,some s'=>(match r.o with
   | .al _ _=>a.2.2[s.2.2.length]?=s'.2.2[s.2.2.length]?
   | .bs xs _=>bc s.1 r.g=some false∨((aZ (X.get s.2.1 s.1) xs).bind im).isSome=true
   | o=>jY o=true∧(bc s.1 r.g=some false∨pM (evO call (X.get s.2.1 s.1) a.2.2 o)=pM (evO call (X.get s.2.1 s.1) s.2.2 o)))
 | _,_,_,_=>False
@[go_sem] theorem GS (call : aC) (all : List R) (n : Nat) (acc : List Tr) : iV call all n acc [] = True := (rfl)
@[go_sem] theorem Du (call : aC) (all : List R) (n : Nat) (acc : List Tr) (p m : Nat) (r : List (Nat × Nat)) :
 iV call all n acc ((p,m)::r)=(ng call all[p]? acc[n-p]? acc[n-m]? acc[n-(p+1)]?∧m≤n∧iV call all n acc r):=by
 simp only[iV,Dq,ng]
 try rfl
section
variable (call : aC) (d : Option Nat) (gd : Option (Nat × Bool)) (L vs L' vs' : List D) (H H' : ab) (s' : Tr)
@[go_sem] theorem MH (x : X) (n : Nat) (agg : Bool) : ng call (some ⟨.ld x n agg, d, gd⟩) (some (L, vs, H)) (some (L', vs', H')) (some s') =
 (bc L gd=some false∨pM (evO call (X.get vs L) H' (.ld x n agg))=pM (evO call (X.get vs L) H (.ld x n agg))):=by simp[ng,jY]
@[go_sem] theorem MI (x i : X) (sz : Nat) : ng call (some ⟨.ia x i sz, d, gd⟩) (some (L, vs, H)) (some (L', vs', H')) (some s') =
 (bc L gd=some false∨pM (evO call (X.get vs L) H' (.ia x i sz))=pM (evO call (X.get vs L) H (.ia x i sz))):=by simp[ng,jY]
@[go_sem] theorem MJ (x : X) (lo hi : Option X) (sz : Nat) : ng call (some ⟨.sc x lo hi sz, d, gd⟩) (some (L, vs, H)) (some (L', vs', H')) (some s') =
 (bc L gd=some false∨pM (evO call (X.get vs L) H' (.sc x lo hi sz))=pM (evO call (X.get vs L) H (.sc x lo hi sz))):=by simp[ng,jY]
@[go_sem] theorem JO (x : X) (z : T) (sz : Nat) : ng call (some ⟨.mkt x z sz, d, gd⟩) (some (L, vs, H)) (some (L', vs', H')) (some s') =
 (bc L gd=some false∨pM (evO call (X.get vs L) H' (.mkt x z sz))=pM (evO call (X.get vs L) H (.mkt x z sz))):=by simp[ng,jY]
@[go_sem] theorem MK (z : List D) (l : List (Nat × Nat)) (L2 vs2 : List D) (H2 : ab) : ng call (some ⟨.al z l, d, gd⟩) (some (L, vs, H)) (some (L', vs', H')) (some (L2, vs2, H2)) = (H'[H.length]? = H2[H.length]?) := (rfl)
@[go_sem] theorem ML (xs : List X) (sz : Nat) : ng call (some ⟨.bs xs sz, d, gd⟩) (some (L, vs, H)) (some (L', vs', H')) (some s') =
 (bc L gd=some false∨((aZ (X.get vs L) xs).bind im).isSome=true):=(rfl)
@[go_sem] theorem Bq (L : List D) : bc L none = some true := (rfl)
def Dv(w:Bool):Option D→Option Bool
 | some (.t (.bool b))=>some (b==w)
 | some (.tup [])=>some false
 | _=>none
@[go_sem] theorem GU (w b : Bool) : Dv w (some (.t (.bool b))) = some (b == w) := (rfl)
@[go_sem] theorem JP (w : Bool) : Dv w (some (.tup [])) = some false := (rfl)
@[go_sem] theorem Br (L : List D) (k : Nat) (w : Bool) : bc L (some (k, w)) = Dv w L[k]? := by
 simp only[bc]
 cases L[k]? with
 | none=>rfl
 | some c=>cases c with
   | t x=>cases x<;>rfl
   | tup ds=>cases ds<;>rfl
   | _=>rfl
@[go_sem] theorem JQ (x : D) : pM (some (x, H)) = some x := (rfl)
attribute [go_sem] beq_true beq_false or_true true_or or_self
end
theorem uC(call:aC)(rs:List R)(vs:List D)(H:ab):y1 call rs [] vs H=evR call rs [] vs H:=by
 simp[y1,iV]
def O8(L vs:List D)(H:ab):Option (Ex×St):=some (.normal,⟨vs,H⟩)
noncomputable def O9(call:aC)(k:Nat)(a b:C)(L vs:List D)(H:ab):Option (Ex×St):=cI L[k]? (exS call a ⟨vs,H⟩) (exS call b ⟨vs,H⟩)
@[go_sem] theorem Pa (L vs : List D) (H : ab) : O8 L vs H = some (.normal, ⟨vs, H⟩) := (rfl)
@[go_sem] theorem Pb (call : aC) (k : Nat) (a b : C) (L vs : List D) (H : ab) : O9 call k a b L vs H = cI L[k]? (exS call a ⟨vs, H⟩) (exS call b ⟨vs, H⟩) := (rfl)
def andThen(x:Option (Ex×St))(k:St→Option (Ex×St)):Option (Ex×St):=x.bind fun p=>cQ p k
@[go_sem] theorem y2 (st : St) (k : St → Option (Ex × St)) : andThen (some (.normal, st)) k = k st := (rfl)
@[go_sem] theorem Dw (st : St) (k : St → Option (Ex × St)) : andThen (some (.ret, st)) k = some (.ret, st) := (rfl)
@[go_sem] theorem Bt (i : Nat) (st : St) (k : St → Option (Ex × St)) : andThen (some (.exit i, st)) k = some (.exit i, st) := (rfl)
@[go_sem] theorem Bu (k : St → Option (Ex × St)) : andThen none k = none := (rfl)
@[go_sem] theorem andThen_ite (c : Prop) [Decidable c] (a b : Option (Ex × St)) (k : St → Option (Ex × St)) : andThen (if c then a else b) k = if c then andThen a k else andThen b k := by
 split<;>rfl
@[go_sem] theorem MM (call : aC) (st : St) : exS call .skip st = some (.normal, st) := (rfl)
@[go_sem] theorem Pc (call : aC) (rs : List R) (vs : List D) (H : ab) : exS call (.reg rs []) ⟨vs, H⟩ = wB call rs [] vs H O8 := by
 simp only[exS,uC,wB]
 cases evR call rs [] vs H<;>rfl
@[go_sem] theorem MN (call : aC) (rs : List R) (p : Nat × Nat) (ps : List (Nat × Nat)) (vs : List D) (H : ab) :
 exS call (.reg rs (p::ps)) ⟨vs,H⟩=rz call rs rs.length (p::ps) rs [] vs H [] O8:=by
 simp only[exS,y1,rz,List.append_nil]
 by_cases h:iV call rs rs.length (trace call rs [] vs H).reverse (p::ps)
 · rw[if_pos h]
   simp only[mP,if_pos h]
   cases evR call rs [] vs H<;>rfl
 · rw[if_neg h]
   simp only[mP,if_neg h]
   cases evR call rs [] vs H<;>rfl
@[go_sem] theorem Pd (call : aC) (a b : C) (st : St) : exS call (.seq a b) st = andThen (exS call a st) (exS call b) := (rfl)
@[go_sem] theorem Pe (call : aC) (rs : List R) (k : Nat) (a b : C) (vs : List D) (H : ab) : exS call (.ite rs [] k a b) ⟨vs, H⟩ = wB call rs [] vs H (O9 call k a b) := by
 simp only[exS,uC,wB]
 cases evR call rs [] vs H<;>rfl
@[go_sem] theorem MO (call : aC) (rs : List R) (p : Nat × Nat) (ps : List (Nat × Nat)) (k : Nat) (a b : C) (vs : List D) (H : ab) :
 exS call (.ite rs (p::ps) k a b) ⟨vs,H⟩=rz call rs rs.length (p::ps) rs [] vs H [] (O9 call k a b):=by
 simp only[exS,y1,rz,List.append_nil]
 by_cases h:iV call rs rs.length (trace call rs [] vs H).reverse (p::ps)
 · rw[if_pos h]
   simp only[mP,if_pos h]
   cases evR call rs [] vs H<;>rfl
 · rw[if_neg h]
   simp only[mP,if_neg h]
   cases evR call rs [] vs H<;>rfl
@[go_sem] theorem Pf (call : aC) (rs : List R) (ps : List (Nat × Nat)) (k : Nat) (a b c : C) (st : St) : exS call (.its rs ps k a b c) st = andThen (exS call (.ite rs ps k a b) st) (exS call c) := (rfl)
@[go_sem] theorem Pg (call : aC) (rs : List R) (ps : List (Nat × Nat)) (k : Nat) (a b c : C) (st : St) : exS call (.itk rs ps k a b c) st = exS call (.ite rs ps k (.seq a c) (.seq b c)) st := (rfl)
@[go_sem] theorem Ph (call : aC) (j : Nat) (a b : C) (vs : List D) (H : ab) : exS call (.itv j a b) ⟨vs, H⟩ = cI vs[j]? (exS call a ⟨vs, H⟩) (exS call b ⟨vs, H⟩) := (rfl)
@[go_sem] theorem MP (call : aC) (id : Nat) (st : St) : exS call (.exit id) st = some (.exit id, st) := (rfl)
@[go_sem] theorem Pj (call : aC) (st : St) : exS call .ret st = some (.ret, st) := (rfl)
@[go_sem] theorem MQ (call : aC) (st : St) : exS call .fail st = none := (rfl)
@[go_sem] theorem Pk (call : aC) (v : Bool) (c : C) (st : St) : exS call (.cnd v c) st = exS call c st := (rfl)
def oD(id:Nat)(x:Option (Ex×St)):Option (Ex×St):=x.map (leave id)
@[go_sem] theorem Pl (call : aC) (id : Nat) (c : C) (st : St) : exS call (.blk id c) st = oD id (exS call c st) := (rfl)
@[go_sem] theorem Bv (id : Nat) (st : St) : oD id (some (.normal, st)) = some (.normal, st) := by simp [oD, leave]
@[go_sem] theorem JR (id : Nat) (st : St) : oD id (some (.ret, st)) = some (.ret, st) := by simp [oD, leave]
@[go_sem] theorem GV (id i : Nat) (st : St) : oD id (some (.exit i, st)) = if i = id then some (.normal, st) else some (.exit i, st) := by
 simp only[oD,leave,Option.map_some,Ex.exit.injEq]
 split<;>rfl
@[go_sem] theorem GW (id : Nat) : oD id none = none := (rfl)
@[go_sem] theorem JS (id : Nat) (c : Prop) [Decidable c] (a b : Option (Ex × St)) : oD id (if c then a else b) = if c then oD id a else oD id b := by
 split<;>rfl
@[congr] theorem Dx {c c' : Option D} {a b : Option (Ex × St)} (h : True → c = c') : cI c a b = cI c' a b := by rw [h trivial]
@[go_sem] theorem JT (p : Prop) [Decidable p] (a b : Option (Ex × St)) : cI (some (.t (.bool (decide p)))) a b = if p then a else b := by
 by_cases h:p<;>simp[cI,h]
@[go_sem] theorem GX (p : Prop) [Decidable p] (a b : Option (Ex × St)) : cI (some (.t (.bool (!decide p)))) a b = if p then b else a := by
 by_cases h:p<;>simp[cI,h]
@[go_sem] theorem MR (a : Option (Ex × St)) : cI (some .ub) a a = a := by simp [cI]
@[go_sem] theorem GY (x : Bool) (a b : Option (Ex × St)) : cI (some (.t (.bool x))) a b = if x = true then a else b := (rfl)
def gw(gc:Bool)(dead:List Nat)(k:Nat)(x:Option (Ex×St)):Option St:=x.bind fun p=>match p.1 with
 | .normal=>tidy gc dead k p.2
 | _=>none
@[go_sem] theorem zS (gc : Bool) (dead : List Nat) (k : Nat) (st : St) : gw gc dead k (some (.normal, st)) = tidy gc dead k st := (rfl)
@[go_sem] theorem GZ (gc : Bool) (dead : List Nat) (k : Nat) (c : Prop) [Decidable c] (a b : Option (Ex × St)) : gw gc dead k (if c then a else b) = if c then gw gc dead k a else gw gc dead k b := by
 split<;>rfl
theorem mm{gc:Bool}{dead:List Nat}{body:St→Option (Ex×St)}{st st2:St}(h:gw gc dead st.H.length (body st)=some st2)
 {p:Ex×St} (h2:gA gc dead body st2=some p):gA gc dead body st=some p:=by
 unfold gw at h
 obtain⟨⟨e,st1⟩,hq,h⟩:=Option.bind_eq_some_iff.1 h
 cases e with
 | normal=>exact pK hq h h2
 | ret=>cases h
 | exit=>cases h
theorem qj{gc:Bool}{dead:List Nat}{body:St→Option (Ex×St)}(s:Nat→St){p:Ex×St}(n:Nat)
 (h:∀j,j<n→gw gc dead (s j).H.length (body (s j))=some (s (j+1))) (he:gA gc dead body (s n)=some p):gA gc dead body (s 0)=some p:=by
 have:=mN (s:=s) n 0 (fun j _ hj=>by
  have h:=h j (by omega)
  unfold gw at h
  obtain⟨⟨e,st1⟩,hq,h⟩:=Option.bind_eq_some_iff.1 h
  cases e with
  | normal=>exact⟨st1,hq,h⟩
  | ret=>cases h
  | exit=>cases h) (by simpa using he)
 exact this
def JU(res:List (Nat×Option (Nat×Bool)))(k raw:Nat)(p:Ex×St):Option (D×ab):=match p.1 with
 | .exit _=>none
 | _=>(dV p.2 res).bind (finish k raw p.2.H)
@[go_sem] theorem MS (res : List (Nat × Option (Nat × Bool))) (k raw : Nat) (vs : List D) (H : ab) : JU res k raw (.ret, ⟨vs, H⟩) = (dV ⟨vs, H⟩ res).bind (finish k raw H) := (rfl)
@[go_sem] theorem Dy (res : List (Nat × Option (Nat × Bool))) (k raw : Nat) (vs : List D) (H : ab) : JU res k raw (.normal, ⟨vs, H⟩) = (dV ⟨vs, H⟩ res).bind (finish k raw H) := (rfl)
theorem Dz{fs:Nat→Option Fn}{raw f:Nat}{args:List D}{H:ab}{fn:Fn}{r:D×ab}(hf:fs f=some fn)(hn:fn.nargs=args.length)
 (h:(exS (gB fs) fn.body ⟨i6 args fn.vars,H⟩).bind (JU fn.res H.length raw)=some r) (h0:fn.prim=[]:=by rfl):gB fs raw f args H=some r:=by
 obtain⟨p,hp,he⟩:=Option.bind_eq_some_iff.1 h
 exact zN hf hn (zR _ _ _ hp) he h0
@[go_sem] theorem MT {α β : Type} (c : Prop) [Decidable c] (a b : Option α) (k : α → Option β) : (if c then a else b).bind k = if c then a.bind k else b.bind k := by
 split<;>rfl
@[go_sem] theorem Pm {α β : Type} (c : Prop) [Decidable c] (a b : Option α) (k : α → β) : (if c then a else b).map k = if c then a.map k else b.map k := by
 split<;>rfl
theorem JV(a b:Int):(a==b)=decide (a=b):=by rw[Bool.eq_iff_iff];simp
theorem DA{n:Int}(h1: -9223372036854775808≤n)(h2:n≤9223372036854775807):IntKind.i64.wrap n=n:=by
 have e:IntKind.i64.wrap n=if n % 18446744073709551616≥9223372036854775808 then n % 18446744073709551616-18446744073709551616 else n % 18446744073709551616:=by
  simp[IntKind.wrap,IntKind.signed,IntKind.bits]
 rw[e];split<;>omega
section
variable {α β : Type}
@[go_sem] theorem DB (a : α) (f : α → Option β) : (some a).bind f = f a := (rfl)
@[go_sem] theorem G0 (a : α) (f : α → β) : (some a).map f = some (f a) := (rfl)
@[go_sem] theorem DC (f : α → Option β) : (none : Option α).bind f = none := (rfl)
@[go_sem] theorem G1 (f : α → β) : (none : Option α).map f = none := (rfl)
@[go_sem] theorem G2 (a : α) (l : List α) (f : α → β) : (a :: l).map f = f a :: l.map f := (rfl)
@[go_sem] theorem JW (f : α → β) : ([] : List α).map f = [] := (rfl)
@[go_sem] theorem G3 (a : α) (l : List α) : (a :: l)[0]? = some a := (rfl)
@[go_sem] theorem G4 (a : α) (l : List α) (n : Nat) : (a :: l)[n + 1]? = l[n]? := (rfl)
@[go_sem] theorem DD (a d : α) (l : List α) : (a :: l).getD 0 d = a := (rfl)
@[go_sem] theorem DE (a d : α) (l : List α) (n : Nat) : (a :: l).getD (n + 1) d = l.getD n d := (rfl)
@[go_sem] theorem G5 (d : α) (n : Nat) : ([] : List α).getD n d = d := by simp
@[go_sem] theorem G6 (a b : α) (l : List α) : (a :: l).set 0 b = b :: l := (rfl)
@[go_sem] theorem G7 (a b : α) (l : List α) (n : Nat) : (a :: l).set (n + 1) b = a :: l.set n b := (rfl)
@[go_sem] theorem zT (a : α) (l m : List α) : (a :: l) ++ m = a :: (l ++ m) := (rfl)
@[go_sem] theorem Bw (l : List α) : [] ++ l = l := (rfl)
@[go_sem] theorem Bx (l : List α) : l ++ [] = l := by simp
@[go_sem] theorem y3 (a : α) (l : List α) (f : α → List β) : (a :: l).flatMap f = f a ++ l.flatMap f := by simp
@[go_sem] theorem zU (f : α → List β) : ([] : List α).flatMap f = [] := by simp
@[go_sem] theorem By : ([] : List α).length = 0 := (rfl)
@[go_sem] theorem zV (a : α) (l : List α) : (a :: l).length = l.length + 1 := (rfl)
@[go_sem] theorem Bz (l : List α) (f : α → β) : (l.map f).length = l.length := by simp
@[go_sem] theorem xB (l m : List α) : (l ++ m).length = l.length + m.length := by simp
@[go_sem] theorem uD (n : Nat) (a : α) : (List.replicate n a).length = n := by simp
@[go_sem] theorem BA (l : List α) (i : Nat) (a : α) : (l.set i a).length = l.length := by simp
@[go_sem] theorem DF (l : List α) : l.drop 0 = l := (rfl)
@[go_sem] theorem DG (a : α) (l : List α) (n : Nat) : (a :: l).drop (n + 1) = l.drop n := (rfl)
@[go_sem] theorem G8 (n : Nat) : ([] : List α).drop n = [] := by simp
@[go_sem] theorem DH (l : List α) : l.take 0 = [] := (rfl)
@[go_sem] theorem DI (a : α) (l : List α) (n : Nat) : (a :: l).take (n + 1) = a :: l.take n := (rfl)
@[go_sem] theorem G9 (n : Nat) : ([] : List α).take n = [] := by simp
@[go_sem] theorem DJ (a b : α) : (bif true then a else b) = a := (rfl)
@[go_sem] theorem BB (a b : α) : (bif false then a else b) = b := (rfl)
@[go_sem] theorem Ha (n : Nat) : n + 0 = n := (rfl)
@[go_sem] theorem Hb (n : Nat) : 0 + n = n := by simp
@[go_sem] theorem Hc (a b : α) : (some a = some b) = (a = b) := by simp
@[go_sem] theorem MU (a : α) : (some a).isSome = true := (rfl)
end
attribute [go_sem] decide_true decide_false if_true if_false Bool.false_eq_true Bool.true_eq_false decide_eq_true_eq decide_eq_false_iff_not Bool.and_eq_true Bool.or_eq_true Bool.not_eq_true' Bool.not_eq_true Bool.not_eq_false
 Bool.and_true Bool.true_and Bool.and_false Bool.false_and Bool.or_true Bool.true_or Bool.or_false Bool.false_or and_true true_and and_self not_true_eq_false not_false_eq_true beq_iff_eq bne_iff_ne ne_eq
@[go_sem] theorem Hd : (!true) = false := (rfl)
@[go_sem] theorem DK : (!false) = true := (rfl)
@[go_sem] theorem S9 (vs L : List D) (j : Nat) : X.get vs L (.v j) = vs[j]? := (rfl)
@[go_sem] theorem Ta (vs L : List D) (k : Nat) : X.get vs L (.l k) = L[k]? := (rfl)
@[go_sem] theorem Tb (vs L : List D) (d : D) : X.get vs L (.c d) = some d := (rfl)
@[go_sem] theorem Tc (vs L : List D) (n : Int) : X.get vs L (.i n) = some (I n) := (rfl)
@[go_sem] theorem Td (vs L : List D) (x : Bool) : X.get vs L (.b x) = some (B x) := (rfl)
@[go_sem] theorem Pn (vs : List D) (x : D) : wr vs none x = vs := (rfl)
@[go_sem] theorem Po (vs : List D) (s : Nat) (x : D) : wr vs (some s) x = vs.set s x := (rfl)
@[go_sem] theorem He (args : List D) : i6 args [] = [] := (rfl)
@[go_sem] theorem DL (args : List D) (s : Nat) (r : List Nat) : i6 args (s :: r) = args.getD s .und :: i6 args r := (rfl)
def Pp(H:ab)(d:D):Option (D×ab):=some (d,H)
@[go_sem] theorem Pq (H : ab) (d : D) : Pp H d = some (d, H) := (rfl)
def eY{α:Type}(a:α)(l:Option (List α)):Option (List α):=l.map (a:: ·)
@[go_sem] theorem Hf {α : Type} (a : α) (l : List α) : eY a (some l) = some (a :: l) := (rfl)
@[go_sem] theorem Hg {α : Type} (a : α) : eY a none = none := (rfl)
@[go_sem] theorem MV {α β : Type} (f : α → Option β) : aZ f [] = some [] := (rfl)
def RV{α β:Type}(f:α→Option β)(r:List α)(y:β):Option (List β):=eY y (aZ f r)
@[go_sem] theorem DM {α β : Type} (f : α → Option β) (r : List α) (y : β) : RV f r y = eY y (aZ f r) := (rfl)
@[go_sem] theorem rB {α β : Type} (f : α → Option β) (x : α) (r : List α) : aZ f (x :: r) = (f x).bind (RV f r) := (rfl)
section
variable (call : aC) (get : X → Option D) (H : ab)
@[go_sem] theorem Te (x : X) : evO call get H (.mv x) = (get x).bind (Pp H) := by simp only [evO]; cases get x <;> rfl
def MW(c a b:Option D):Option (D×ab):=c.bind fun c=>a.bind fun a=>b.bind fun b=>(zz c a b).map fun d=>(d,H)
@[go_sem] theorem Tf (c a b : X) : evO call get H (.pk c a b) = MW H (get c) (get a) (get b) := (rfl)
@[go_sem] theorem JX (x p q : Bool) : MW H (some (.t (.bool x))) (some (.t (.bool p))) (some (.t (.bool q))) = some (.t (.bool (bif x then p else q)), H) := by cases x <;> rfl
@[go_sem] theorem JY (a b : D) : MW H (some (.t (.bool true))) (some a) (some b) = some (a, H) := (rfl)
@[go_sem] theorem Hh (a b : D) : MW H (some (.t (.bool false))) (some a) (some b) = some (b, H) := (rfl)
@[go_sem] theorem MX (x p : Bool) : (bif x then p else false) = (x && p) := by cases x <;> rfl
@[go_sem] theorem Pr (x q : Bool) : (bif x then true else q) = (x || q) := by cases x <;> rfl
def dS(f:BinOp)(x y:Option D):Option (D×ab):=x.bind fun a=>y.bind fun b=>(px f a b).map fun d=>(d,H)
@[go_sem] theorem RW (f : BinOp) (x y : X) : evO call get H (.bin f x y) = dS H f (get x) (get y) := (rfl)
section
variable (k j : IntKind) (a b : Int)
@[go_sem] theorem JZ : dS H .add (some (.t (.int k a))) (some (.t (.int k b))) = some (.t (.int k (k.wrap (a + b))), H) := by simp [dS, px, sD]
@[go_sem] theorem J0 : dS H .sub (some (.t (.int k a))) (some (.t (.int k b))) = some (.t (.int k (k.wrap (a - b))), H) := by simp [dS, px, sD]
@[go_sem] theorem J1 : dS H .mul (some (.t (.int k a))) (some (.t (.int k b))) = some (.t (.int k (k.wrap (a * b))), H) := by simp [dS, px, sD]
@[go_sem] theorem J2 : dS H .quo (some (.t (.int k a))) (some (.t (.int k b))) = if b = 0 then none else some (.t (.int k (k.wrap (a.tdiv b))), H) := by simp only [dS, px, sD]; by_cases h : b = 0 <;> simp [h]
@[go_sem] theorem J3 : dS H .rem (some (.t (.int k a))) (some (.t (.int k b))) = if b = 0 then none else some (.t (.int k (a.tmod b)), H) := by simp only [dS, px, sD]; by_cases h : b = 0 <;> simp [h]
@[go_sem] theorem J4 : dS H .eql (some (.t (.int k a))) (some (.t (.int k b))) = some (.t (.bool (decide (a = b))), H) := by simp [dS, px, sD, JV]
@[go_sem] theorem J5 : dS H .neq (some (.t (.int k a))) (some (.t (.int k b))) = some (.t (.bool (decide (¬ a = b))), H) := by simp [dS, px, sD, bne, JV]
@[go_sem] theorem J6 : dS H .lss (some (.t (.int k a))) (some (.t (.int k b))) = some (.t (.bool (decide (a < b))), H) := by simp [dS, px, sD]
@[go_sem] theorem J7 : dS H .leq (some (.t (.int k a))) (some (.t (.int k b))) = some (.t (.bool (decide (a ≤ b))), H) := by simp [dS, px, sD]
@[go_sem] theorem J8 : dS H .gtr (some (.t (.int k a))) (some (.t (.int k b))) = some (.t (.bool (decide (b < a))), H) := by simp [dS, px, sD]
@[go_sem] theorem J9 : dS H .geq (some (.t (.int k a))) (some (.t (.int k b))) = some (.t (.bool (decide (b ≤ a))), H) := by simp [dS, px, sD]
@[go_sem] theorem Ka (h : 0 ≤ b) : dS H .shl (some (.t (.int k a))) (some (.t (.int j b))) = some (.t (.int k (k.wrap (a * 2 ^ min b.toNat k.bits))), H) := by simp [dS, px, pw, Int.not_lt.2 h]
@[go_sem] theorem Kb (h : 0 ≤ b) : dS H .shr (some (.t (.int k a))) (some (.t (.int j b))) = some (.t (.int k (a.fdiv (2 ^ min b.toNat k.bits))), H) := by simp [dS, px, pw, Int.not_lt.2 h]
@[go_sem] theorem Kc : dS H .and (some (.t (.int k a))) (some (.t (.int k b))) = some (.t (.int k (k.wrap (BitVec.ofInt k.bits a &&& BitVec.ofInt k.bits b).toNat)), H) := by simp [dS, px, sD]
@[go_sem] theorem MY : dS H .or (some (.t (.int k a))) (some (.t (.int k b))) = some (.t (.int k (k.wrap (BitVec.ofInt k.bits a ||| BitVec.ofInt k.bits b).toNat)), H) := by simp [dS, px, sD]
@[go_sem] theorem Kd : dS H .xor (some (.t (.int k a))) (some (.t (.int k b))) = some (.t (.int k (k.wrap (BitVec.ofInt k.bits a ^^^ BitVec.ofInt k.bits b).toNat)), H) := by simp [dS, px, sD]
def Ps(f:UnOp)(a:D):Option (D×ab):=(unD f a).map fun d=>(d,H)
@[go_sem] theorem Tg (f : UnOp) (x : X) : evO call get H (.un f x) = (get x).bind (Ps H f) := (rfl)
@[go_sem] theorem MZ (x : Bool) : Ps H .not (.t (.bool x)) = some (.t (.bool (!x)), H) := (rfl)
@[go_sem] theorem M0 : Ps H .neg (.t (.int k a)) = some (.t (.int k (k.wrap (0 - a))), H) := (rfl)
def RX(k:IntKind)(a:D):Option (D×ab):=(CR k a).map fun d=>(d,H)
@[go_sem] theorem Th (x : X) : evO call get H (.cv k x) = (get x).bind (RX H k) := (rfl)
@[go_sem] theorem M1 : RX H k (.t (.int j a)) = some (.t (.int k (k.wrap a)), H) := (rfl)
end
def jR(q:EqK)(neg:Bool)(x y:Option D):Option (D×ab):=x.bind fun a=>y.bind fun b=>(Bk q neg a b).map fun d=>(d,H)
@[go_sem] theorem RY (q : EqK) (neg : Bool) (x y : X) : evO call get H (.eqk q neg x y) = jR H q neg (get x) (get y) := (rfl)
@[go_sem] theorem Hi (x y : Bool) : jR H .bool false (some (.t (.bool x))) (some (.t (.bool y))) = some (.t (.bool (x == y)), H) := (rfl)
@[go_sem] theorem DN (x y : Bool) : jR H .bool true (some (.t (.bool x))) (some (.t (.bool y))) = some (.t (.bool (!(x == y))), H) := (rfl)
def BD:List T→List T→Bool
 | .int _ a::xs,.int _ b::ys=>decide (a=b)&&BD xs ys
 | _,_=>true
def vB:Nat→List T→List T→Bool
 | 0,[],[]=>true
 | n+1,.int j _::xs,.int k _::ys=>decide (j=k)&&vB n xs ys
 | _,_,_=>false
@[go_sem] theorem Ke (k j : IntKind) (a b : Int) (xs ys : List T) : BD (.int k a :: xs) (.int j b :: ys) = (decide (a = b) && BD xs ys) := (rfl)
@[go_sem] theorem M3 : BD [] [] = true := (rfl)
@[go_sem] theorem M4 : vB 0 [] [] = true := (rfl)
@[go_sem] theorem Kf (n : Nat) (k : IntKind) (a b : Int) (xs ys : List T) : vB (n + 1) (.int k a :: xs) (.int k b :: ys) = vB n xs ys := by simp [vB]
theorem oE:∀ {n:Nat} {xs ys:List T},vB n xs ys=true→xs.length=n∧fE xs ys=some (BD xs ys)
 | 0,[],[],_=>⟨rfl,rfl⟩
 | 0,[],_::_,h=>by simp[vB]at h
 | 0,_::_,_,h=>by simp[vB]at h
 | n+1,[],_,h=>by simp[vB]at h
 | n+1,x::xs,[],h=>by cases x<;>simp[vB]at h
 | n+1,x::xs,y::ys,h=>by
   cases x<;>cases y<;>simp only[vB,Bool.and_eq_true,decide_eq_true_eq,Bool.false_eq_true]at h
   obtain⟨rfl,h⟩:=h
   obtain⟨h1,h2⟩:=oE h
   exact⟨by simp[h1],by simp[fE,h2,BD,JV]⟩
@[go_sem] theorem Hj (n : Nat) (xs ys : List T) (h : vB n xs ys = true) : jR H (.ints n) false (some (.t (.agg xs))) (some (.t (.agg ys))) = some (.t (.bool (BD xs ys)), H) := by
 obtain⟨h1,h2⟩:=oE h;simp[jR,Bk,eqD,h1,h2]
@[go_sem] theorem DO (n : Nat) (xs ys : List T) (h : vB n xs ys = true) : jR H (.ints n) true (some (.t (.agg xs))) (some (.t (.agg ys))) = some (.t (.bool (!BD xs ys)), H) := by
 obtain⟨h1,h2⟩:=oE h;simp[jR,Bk,eqD,h1,h2]
@[go_sem] theorem Kg : jR H .sl false (some .nil) (some .nil) = some (.t (.bool true), H) := (rfl)
@[go_sem] theorem Kh : jR H .sl false (some (.t (.sl []))) (some .nil) = some (.ub, H) := (rfl)
@[go_sem] theorem Hk : jR H .sl true (some (.t (.sl []))) (some .nil) = some (.ub, H) := (rfl)
@[go_sem] theorem Hl : jR H .sl true (some .nil) (some .nil) = some (.t (.bool false), H) := (rfl)
theorem nH(es:List T)(h:es≠[]):jR H .sl false (some (.t (.sl es))) (some .nil)=some (.t (.bool false),H):=by cases es<;>first | exact(h rfl).elim | rfl
def M5(a:D):Option (D×ab):=(Mx a).map fun d=>(d,H)
@[go_sem] theorem Ti (x : X) : evO call get H (.nc x) = (get x).bind (M5 H) := (rfl)
@[go_sem] theorem Pt (id off : Nat) : M5 H (.bp id off) = some (.bp id off, H) := (rfl)
@[go_sem] theorem Pu (id ep n i off : Nat) : M5 H (.ap id ep n i off) = some (.ap id ep n i off, H) := (rfl)
@[go_sem] theorem Pv (cs : List T) : M5 H (.ep cs) = some (.ep cs, H) := (rfl)
def Hm(off:Nat)(a:D):Option (D×ab):=(vh a off).map fun d=>(d,H)
@[go_sem] theorem Tj (x : X) (off : Nat) : evO call get H (.fa x off) = (get x).bind (Hm H off) := (rfl)
@[go_sem] theorem Pw (id o off : Nat) : Hm H off (.bp id o) = some (.bp id (o + off), H) := (rfl)
@[go_sem] theorem Px (id ep n i o off : Nat) : Hm H off (.ap id ep n i o) = some (.ap id ep n i (o + off), H) := (rfl)
@[go_sem] theorem Py (cs : List T) (off : Nat) : Hm H off (.ep cs) = some (.ep (cs.drop off), H) := (rfl)
@[go_sem] theorem Tk (cs : List D) : cut cs 0 0 = some [] := by simp [cut]
@[go_sem] theorem Tl (c : D) (cs : List D) : cut (c :: cs) 0 1 = some [c] := by simp [cut]
@[go_sem] theorem Tm (c : D) (cs : List D) (n : Nat) : cut (c :: cs) 0 (n + 1) = eY c (cut cs 0 n) := by
 simp only[cut,eY];by_cases h:n≤cs.length<;>simp[h]
@[go_sem] theorem Tn (c : D) (cs : List D) (off n : Nat) : cut (c :: cs) (off + 1) n = cut cs off n := by
 simp only[cut,List.length_cons,List.drop_succ_cons]
 by_cases h:off+n≤cs.length
 · rw[if_pos h,if_pos (by omega)]
 · rw[if_neg h,if_neg (by omega)]
@[go_sem] theorem Ki (c : D) : bZ false [c] = some c := (rfl)
@[go_sem] theorem Kj (cs : List D) : bZ true cs = some (jP cs) := (rfl)
def mkA(cs:List D):Option (List T)→D
 | some ts=> .t (.agg ts)
 | none=> .agg cs
@[go_sem] theorem M6 (cs : List D) (ts : List T) : mkA cs (some ts) = .t (.agg ts) := (rfl)
@[go_sem] theorem M7 (cs : List D) : mkA cs none = .agg cs := (rfl)
@[go_sem] theorem M8 (cs : List D) : jP cs = mkA cs (im cs) := by unfold jP; cases im cs <;> rfl
@[go_sem] theorem M9 : im [] = some [] := (rfl)
@[go_sem] theorem RZ (x : T) (r : List D) : im (.t x :: r) = eY x (im r) := (rfl)
@[go_sem] theorem R0 (r : List D) : im (.nil :: r) = none := (rfl)
@[go_sem] theorem Na (a b c : Nat) (r : List D) : im (.ref a b c :: r) = none := (rfl)
@[go_sem] theorem Nb (a b c d e : Nat) (r : List D) : im (.sub a b c d e :: r) = none := (rfl)
@[go_sem] theorem zW (l : List T) : im (l.map .t) = some l := by induction l with | nil => rfl | cons a l ih => simp [im, ih]
def Kk(off n:Nat)(agg:Bool)(a:D):Option (D×ab):=(kN a off n agg).map fun d=>(d,H)
@[go_sem] theorem To (x : X) (off n : Nat) (agg : Bool) : evO call get H (.fl x off n agg) = (get x).bind (Kk H off n agg) := (rfl)
def ofC(agg:Bool)(cs:Option (List D)):Option (D×ab):=(cs.bind (bZ agg)).bind (Pp H)
@[go_sem] theorem Tp (c : D) : ofC H false (some [c]) = some (c, H) := (rfl)
@[go_sem] theorem Tq (cs : List D) : ofC H true (some cs) = some (jP cs, H) := (rfl)
@[go_sem] theorem R1 (cs : List T) (off n : Nat) (agg : Bool) : Kk H off n agg (.t (.agg cs)) = ofC H agg (cut (cs.map .t) off n) := by
 simp only[Kk,kN,D.isAgg,if_true,D.cells,T.cells,ofC];cases (cut (cs.map .t) off n).bind (bZ agg)<;>rfl
@[go_sem] theorem Nc (cs : List D) (off n : Nat) (agg : Bool) : Kk H off n agg (.agg cs) = ofC H agg (cut cs off n) := by
 simp only[Kk,kN,D.isAgg,if_true,D.cells,ofC];cases (cut cs off n).bind (bZ agg)<;>rfl
@[go_sem] theorem Pz (n : Nat) : idx (n : Int) = some n := by simp [idx]
@[go_sem] theorem Ts : idx 0 = some 0 := (rfl)
theorem DP{i:Int}(h:0≤i):idx i=some i.toNat:=by simp[idx,h]
def DQ(sz:Nat)(x i:Option D):Option (D×ab):=x.bind fun a=>(i.bind intOf).bind fun n=>(pZ H a n sz).map fun d=>(d,H)
@[go_sem] theorem Tt (x i : X) (sz : Nat) : evO call get H (.ia x i sz) = DQ H sz (get x) (get i) := (rfl)
def zX(sz:Nat)(e:T):Option (D×ab):=if e.cells.length=sz then some (.ep e.cells,H)else none
def PA(sz:Nat)(es:List T)(j:Nat):Option (D×ab):=es[j]?.bind (zX H sz)
@[go_sem] theorem PB (sz : Nat) (es : List T) (j : Nat) : PA H sz es j = es[j]?.bind (zX H sz) := (rfl)
@[go_sem] theorem PC (k : IntKind) (es : List T) (n : Int) (sz : Nat) : DQ H sz (some (.t (.sl es))) (some (.t (.int k n))) = (idx n).bind (PA H sz es) := by
 simp only[DQ,Option.bind_some,intOf,pZ]
 cases idx n with
 | none=>rfl
 | some j=>
   simp only[Option.bind_some,PA]
   cases es[j]? with
   | none=>rfl
   | some e=>simp only[Option.bind_some,zX];split<;>rfl
@[go_sem] theorem Nd (k : IntKind) (n : Int) : zX H 1 (.int k n) = some (.ep [.int k n], H) := (rfl)
@[go_sem] theorem Kl (b : Bool) : zX H 1 (.bool b) = some (.ep [.bool b], H) := (rfl)
@[go_sem] theorem PD (es : List T) : zX H 1 (.sl es) = some (.ep [.sl es], H) := (rfl)
def gC{α:Type}:Nat→List α→Bool
 | 0,[]=>true
 | n+1,_::r=>gC n r
 | _,_=>false
@[go_sem] theorem PE {α : Type} : gC 0 ([] : List α) = true := (rfl)
@[go_sem] theorem PF {α : Type} (n : Nat) (a : α) (l : List α) : gC (n + 1) (a :: l) = gC n l := (rfl)
theorem cB{α:Type}:∀ {n:Nat} {l:List α},gC n l=true↔l.length=n
 | 0,[]=>by simp[gC]
 | 0,_::_=>by simp[gC]
 | n+1,[]=>by simp[gC]
 | n+1,_::r=>by simp only[gC,List.length_cons,Nat.add_right_cancel_iff];exact cB
@[go_sem] theorem Nf (cs : List T) (sz : Nat) : zX H sz (.agg cs) = if gC sz cs = true then some (.ep cs, H) else none := by
 by_cases h:cs.length=sz
 · rw[zX,if_pos (show(T.agg cs).cells.length=sz from h),if_pos (cB.2 h)];rfl
 · rw[zX,if_neg (show ¬(T.agg cs).cells.length=sz from h),if_neg fun e=>h (cB.1 e)]
def DR(sz id ep n j:Nat):Option Obj→Option (D×ab)
 | some (.arr sz' _ ep' es)=>if ep=ep'∧n=es.length then(if j<n∧sz'=sz then some (.ap id ep n j 0,H)else none)else none
 | _=>none
@[go_sem] theorem Ng (k : IntKind) (id ep n : Nat) (i : Int) (sz : Nat) : DQ H sz (some (.ref id ep n)) (some (.t (.int k i))) = (idx i).bind fun j => DR H sz id ep n j H[id]? := by
 simp only[DQ,Option.bind_some,intOf,pZ]
 cases idx i with
 | none=>rfl
 | some j=>
   simp only[Option.bind_some,cM]
   generalize H[id]?=o
   rcases o with _ | (_ | ⟨sz',pin,ep',es⟩)
   · rfl
   · rfl
   · simp only[DR]
     by_cases h:ep=ep'∧n=es.length
     · rw[if_pos h,if_pos h,Option.bind_some];split<;>rfl
     · rw[if_neg h,if_neg h];rfl
@[go_sem] theorem Km (sz id ep n j sz' : Nat) (pin : Bool) (ep' : Nat) (es : List D) : DR H sz id ep n j (some (.arr sz' pin ep' es)) =
 if ep=ep'∧n=es.length then(if j<n∧sz'=sz then some (.ap id ep n j 0,H)else none)else none:=(rfl)
def DT(sz id ep n lo hi j:Nat):Option Obj→Option (D×ab)
 | some (.arr sz' _ ep' es)=>if ep=ep'∧n=es.length then(if lo+j<hi∧hi≤n∧sz'=sz then some (.ap id ep n (lo+j) 0,H)else none)else none
 | _=>none
@[go_sem] theorem Nh (k : IntKind) (id ep n lo hi : Nat) (i : Int) (sz : Nat) : DQ H sz (some (.sub id ep n lo hi)) (some (.t (.int k i))) = (idx i).bind fun j => DT H sz id ep n lo hi j H[id]? := by
 simp only[DQ,Option.bind_some,intOf,pZ]
 cases idx i with
 | none=>rfl
 | some j=>
   simp only[Option.bind_some,cM]
   generalize H[id]?=o
   rcases o with _ | (_ | ⟨sz',pin,ep',es⟩)
   · rfl
   · rfl
   · simp only[DT]
     by_cases h:ep=ep'∧n=es.length
     · rw[if_pos h,if_pos h,Option.bind_some];split<;>rfl
     · rw[if_neg h,if_neg h];rfl
@[go_sem] theorem Kn (sz id ep n lo hi j sz' : Nat) (pin : Bool) (ep' : Nat) (es : List D) : DT H sz id ep n lo hi j (some (.arr sz' pin ep' es)) =
 if ep=ep'∧n=es.length then(if lo+j<hi∧hi≤n∧sz'=sz then some (.ap id ep n (lo+j) 0,H)else none)else none:=(rfl)
def PG(len sz:Nat)(agg:Bool)(x i:Option D):Option (D×ab):=x.bind fun a=>(i.bind intOf).bind fun n=>(idx n).bind fun j=>(pz a j len sz agg).map fun d=>(d,H)
def Ko(len sz:Nat)(agg:Bool)(a:D)(j:Nat):Option (D×ab):=(pz a j len sz agg).map fun d=>(d,H)
@[go_sem] theorem Tu (x i : X) (len sz : Nat) (agg : Bool) : evO call get H (.ix x i len sz agg) = PG H len sz agg (get x) (get i) := (rfl)
@[go_sem] theorem PH (len sz : Nat) (agg : Bool) (a : D) (k : IntKind) (n : Int) : PG H len sz agg (some a) (some (.t (.int k n))) = (idx n).bind (Ko H len sz agg a) := by
 simp only[PG,Option.bind_some,intOf];cases idx n<;>rfl
@[go_sem] theorem Ni (len j : Nat) (ts : List T) (h : j < len) (hs : (ts.all fun t => t.scalar) = true) : Ko H len 1 false (.t (.agg ts)) j = (ts[j]?).map fun t => (.t t, H) := by
 have h0:len≠0:=by omega
 unfold Ko pz
 rw[if_neg h0,if_pos h]
 unfold kN cut
 simp only[D.isAgg,D.cells,T.cells,if_true,Nat.mul_one,List.length_map]
 by_cases hj:j<ts.length
 · rw[if_pos (by omega),List.getElem?_eq_getElem hj]
   have e:((ts.map D.t).drop j).take 1=[D.t ts[j]]:=by
    rw[List.drop_eq_getElem_cons (by simpa using hj)];simp
   rw[e];rfl
 · rw[if_neg (by omega),List.getElem?_eq_none (by omega)];rfl
def DU(len sz:Nat)(x i:Option D):Option (D×ab):=x.bind fun a=>(i.bind intOf).bind fun n=>(idx n).bind fun j=>if j<len then(vh a (j*sz)).map fun d=>(d,H)else none
@[go_sem] theorem R2 (x i : X) (len sz : Nat) : evO call get H (.iaa x i len sz) = DU H len sz (get x) (get i) := (rfl)
def R3(len sz:Nat)(a:D)(j:Nat):Option (D×ab):=if j<len then Hm H (j*sz) a else none
@[go_sem] theorem PI (len sz : Nat) (a : D) (j : Nat) : R3 H len sz a j = if j < len then Hm H (j * sz) a else none := (rfl)
@[go_sem] theorem Nj (len sz : Nat) (a : D) (k : IntKind) (n : Int) : DU H len sz (some a) (some (.t (.int k n))) = (idx n).bind (R3 H len sz a) := by
 simp only[DU,Option.bind_some,intOf];cases idx n<;>rfl
def y4(n:Nat)(agg:Bool)(a:D):Option (D×ab):=(lY H a n agg).map fun d=>(d,H)
@[go_sem] theorem Tv (x : X) (n : Nat) (agg : Bool) : evO call get H (.ld x n agg) = (get x).bind (y4 H n agg) := (rfl)
def zY(off n:Nat)(agg:Bool):Option Obj→Option (D×ab)
 | some (.box cs)=>ofC H agg (cut cs off n)
 | _=>none
@[go_sem] theorem Nk (off n : Nat) (agg : Bool) (cs : List D) : zY H off n agg (some (.box cs)) = ofC H agg (cut cs off n) := (rfl)
@[go_sem] theorem PJ (id off n : Nat) (agg : Bool) : y4 H n agg (.bp id off) = zY H off n agg H[id]? := by
 simp only[y4,lY]
 generalize H[id]?=o
 rcases o with _ | (cs | _)
 · rfl
 · simp only[zY,ofC];cases (cut cs off n).bind (bZ agg)<;>rfl
 · rfl
@[go_sem] theorem PL (cs : List T) (n : Nat) (agg : Bool) : y4 H n agg (.ep cs) = ofC H agg (cut (cs.map .t) 0 n) := by
 simp only[y4,lY,ofC];cases (cut _ 0 n).bind (bZ agg)<;>rfl
def Nl(off n:Nat)(agg:Bool)(e:D):Option (D×ab):=ofC H agg (cut e.cells off n)
@[go_sem] theorem PM (off n : Nat) (agg : Bool) (e : D) : Nl H off n agg e = ofC H agg (cut e.cells off n) := (rfl)
def DV(ep m i off n:Nat)(agg:Bool):Option Obj→Option (D×ab)
 | some (.arr _ _ ep' es)=>if ep=ep'∧m=es.length then es[i]?.bind (Nl H off n agg)else none
 | _=>none
@[go_sem] theorem Nn (ep m i off n : Nat) (agg : Bool) (sz : Nat) (pin : Bool) (ep' : Nat) (es : List D) :
 DV H ep m i off n agg (some (.arr sz pin ep' es))=if ep=ep'∧m=es.length then es[i]?.bind (Nl H off n agg)else none:=(rfl)
@[go_sem] theorem PN (id ep m i off n : Nat) (agg : Bool) : y4 H n agg (.ap id ep m i off) = DV H ep m i off n agg H[id]? := by
 simp only[y4,lY,cM]
 generalize H[id]?=o
 rcases o with _ | (_ | ⟨sz',pin,ep',es⟩)
 · rfl
 · rfl
 · simp only[DV]
   by_cases h:ep=ep'∧m=es.length
   · rw[if_pos h,if_pos h,Option.bind_some]
     cases es[i]? with
     | none=>rfl
     | some e=>simp only[Option.bind_some,Nl,ofC];cases (cut e.cells off n).bind (bZ agg)<;>rfl
   · rw[if_neg h,if_neg h];rfl
@[go_sem] theorem Hn (cs : List D) : (D.agg cs).cells = cs := (rfl)
@[go_sem] theorem No (x : T) : (D.t x).cells = x.cells.map .t := (rfl)
@[go_sem] theorem Ho : D.nil.cells = [.nil] := (rfl)
@[go_sem] theorem Kp (a b : Nat) : (D.bp a b).cells = [.bp a b] := (rfl)
@[go_sem] theorem Hp (a b c : Nat) : (D.ref a b c).cells = [.ref a b c] := (rfl)
@[go_sem] theorem Hq (a b c d e : Nat) : (D.sub a b c d e).cells = [.sub a b c d e] := (rfl)
@[go_sem] theorem Kq (f : Nat) (cs : List D) : (D.fn f cs).cells = [.fn f cs] := (rfl)
@[go_sem] theorem DW : D.nilp.cells = [.nilp] := (rfl)
@[go_sem] theorem Hr (cs : List T) : (T.agg cs).cells = cs := (rfl)
@[go_sem] theorem Ht (k : IntKind) (n : Int) : (T.int k n).cells = [.int k n] := (rfl)
@[go_sem] theorem DX (b : Bool) : (T.bool b).cells = [.bool b] := (rfl)
@[go_sem] theorem Hu (b : ByteArray) : (T.str b).cells = [.str b] := (rfl)
@[go_sem] theorem Kr (es : List T) : (T.sl es).cells = [.sl es] := (rfl)
def fits(n:Nat)(v:D):Bool:=decide (v.cells.length=n)&&v.dO
section
variable (n : Nat)
@[go_sem] theorem fits_int (k : IntKind) (a : Int) : fits 1 (.t (.int k a)) = true := (rfl)
@[go_sem] theorem fits_bool (b : Bool) : fits 1 (.t (.bool b)) = true := (rfl)
@[go_sem] theorem PO (es : List T) : fits 1 (.t (.sl es)) = true := (rfl)
@[go_sem] theorem Np : fits 1 .nil = true := (rfl)
@[go_sem] theorem Nq (a b c : Nat) : fits 1 (.ref a b c) = true := (rfl)
@[go_sem] theorem Nr (a b c d e : Nat) : fits 1 (.sub a b c d e) = true := (rfl)
@[go_sem] theorem PQ (a b : Nat) : fits 1 (.bp a b) = true := (rfl)
@[go_sem] theorem PR (f : Nat) (cs : List D) : fits 1 (.fn f cs) = true := (rfl)
@[go_sem] theorem Ns (cs : List D) : fits n (.agg cs) = gC n cs := by rw [Bool.eq_iff_iff, cB]; show (decide (cs.length = n) && true) = true ↔ _; simp
@[go_sem] theorem Ks (cs : List T) : fits n (.t (.agg cs)) = gC n cs := by rw [Bool.eq_iff_iff, cB]; simp [fits, D.cells, T.cells, D.dO]
end
@[go_sem] theorem DY {α : Type} (cs : List α) : aF cs 0 [] = some cs := by simp [aF]
@[go_sem] theorem DZ {α : Type} (c x : α) (cs xs : List α) : aF (c :: cs) 0 (x :: xs) = eY x (aF cs 0 xs) := by
 simp only[aF,eY];by_cases h:xs.length≤cs.length<;>simp[h]
@[go_sem] theorem D0 {α : Type} (c : α) (cs : List α) (off : Nat) (xs : List α) : aF (c :: cs) (off + 1) xs = eY c (aF cs off xs) := by
 simp only[aF,eY,List.length_cons]
 by_cases h:off+xs.length≤cs.length
 · rw[if_pos h,if_pos (by omega)];simp[show off+1+xs.length=(off+xs.length)+1 by omega]
 · rw[if_neg h,if_neg (by omega)];rfl
def D1(n:Nat)(live:List (Nat×Nat))(a x:Option D):Option (D×ab):=a.bind fun p=>x.bind fun d=>(mD H p d n).bind fun H'=>(iu H' p live).map fun H''=>(.tup [],H'')
@[go_sem] theorem Tw (a x : X) (n : Nat) (live : List (Nat × Nat)) : evO call get H (.st a x n live) = D1 H n live (get a) (get x) := (rfl)
def pN(H:ab)(id:Nat)(live:List (Nat×Nat)):Option (D×ab):=(iu H (.bp id 0) live).map fun H'=>(.tup [],H')
def uE(id:Nat)(live:List (Nat×Nat))(cs:List D):Option (D×ab):=pN (H.set id (.box cs)) id live
@[go_sem] theorem Kt (id : Nat) (live : List (Nat × Nat)) (cs : List D) : uE H id live cs = pN (H.set id (.box cs)) id live := (rfl)
@[go_sem] theorem Hv (H : ab) (id : Nat) : pN H id [] = some (.tup [], H) := (rfl)
def D2(id off:Nat)(live:List (Nat×Nat))(xs:List D):Option Obj→Option (D×ab)
 | some (.box cs)=>(aF cs off xs).bind (uE H id live)
 | _=>none
@[go_sem] theorem Nt (id off : Nat) (live : List (Nat × Nat)) (xs cs : List D) : D2 H id off live xs (some (.box cs)) = (aF cs off xs).bind (uE H id live) := (rfl)
@[go_sem] theorem PS (n id off : Nat) (live : List (Nat × Nat)) (v : D) : D1 H n live (some (.bp id off)) (some v) = if fits n v = true then D2 H id off live v.cells H[id]? else none := by
 by_cases h:fits n v=true
 case neg=>
  rw[if_neg h]
  simp only[fits,Bool.and_eq_true,decide_eq_true_eq]at h
  simp only[D1,Option.bind_some,mD,if_neg h];rfl
 rw[if_pos h]
 simp only[fits,Bool.and_eq_true,decide_eq_true_eq]at h
 simp only[D1,Option.bind_some,mD,h.1,h.2,and_self,if_true]
 generalize H[id]?=o
 rcases o with _ | (cs | _)
 · rfl
 · simp only[D2]
   cases aF cs off v.cells with
   | none=>rfl
   | some cs'=>simp only[Option.map_some,Option.bind_some,uE,pN,iu]
 · rfl
def rC(id sz ep i:Nat)(es:List D)(agg:Bool)(cs:List D):Option (D×ab):=(bZ agg cs).bind fun e=>if e.dO then some (.tup [],H.set id (.arr sz false ep (es.set i e)))else none
def Nu(id sz ep i off:Nat)(es xs:List D)(e:D):Option (D×ab):=(aF e.cells off xs).bind (rC H id sz ep i es e.isAgg)
@[go_sem] theorem PT (id sz ep i off : Nat) (es xs : List D) (e : D) : Nu H id sz ep i off es xs e = (aF e.cells off xs).bind (rC H id sz ep i es e.isAgg) := (rfl)
@[go_sem] theorem Ku (cs : List D) : (D.agg cs).isAgg = true := (rfl)
@[go_sem] theorem Hw (cs : List T) : (D.t (.agg cs)).isAgg = true := (rfl)
@[go_sem] theorem Kv (k : IntKind) (n : Int) : (D.t (.int k n)).isAgg = false := (rfl)
@[go_sem] theorem Hx (b : Bool) : (D.t (.bool b)).isAgg = false := (rfl)
@[go_sem] theorem Kw (b : ByteArray) : (D.t (.str b)).isAgg = false := (rfl)
@[go_sem] theorem Nv (es : List T) : (D.t (.sl es)).isAgg = false := (rfl)
@[go_sem] theorem Kx : D.nil.isAgg = false := (rfl)
@[go_sem] theorem Ky (a b c : Nat) : (D.ref a b c).isAgg = false := (rfl)
@[go_sem] theorem Kz (a b c d e : Nat) : (D.sub a b c d e).isAgg = false := (rfl)
@[go_sem] theorem PU (id sz ep i : Nat) (es : List D) (x : T) : rC H id sz ep i es false [.t x] = some (.tup [], H.set id (.arr sz false ep (es.set i (.t x)))) := (rfl)
@[go_sem] theorem KA (id sz ep i : Nat) (es : List D) : rC H id sz ep i es false [.nil] = some (.tup [], H.set id (.arr sz false ep (es.set i .nil))) := (rfl)
@[go_sem] theorem KB (id sz ep i a b c : Nat) (es : List D) : rC H id sz ep i es false [.ref a b c] = some (.tup [], H.set id (.arr sz false ep (es.set i (.ref a b c)))) := (rfl)
theorem tj(cs:List D):(jP cs).dO=true:=by unfold jP;cases im cs<;>rfl
@[go_sem] theorem PV (id sz ep i : Nat) (es cs : List D) : rC H id sz ep i es true cs = some (.tup [], H.set id (.arr sz false ep (es.set i (jP cs)))) := by
 simp[rC,bZ,tj]
def D3(id ep m i off:Nat)(xs:List D):Option Obj→Option (D×ab)
 | some (.arr sz pin ep' es)=>if ep=ep'∧m=es.length then(if pin then none else es[i]?.bind (Nu H id sz ep i off es xs))else none
 | _=>none
@[go_sem] theorem Nw (id ep m i off : Nat) (xs : List D) (sz : Nat) (pin : Bool) (ep' : Nat) (es : List D) :
 D3 H id ep m i off xs (some (.arr sz pin ep' es))=if ep=ep'∧m=es.length then(if pin=true then none else es[i]?.bind (Nu H id sz ep i off es xs))else none:=(rfl)
@[go_sem] theorem PW (n id ep m i off : Nat) (v : D) : D1 H n [] (some (.ap id ep m i off)) (some v) = if fits n v = true then D3 H id ep m i off v.cells H[id]? else none := by
 by_cases h:fits n v=true
 case neg=>
  rw[if_neg h]
  simp only[fits,Bool.and_eq_true,decide_eq_true_eq]at h
  simp only[D1,Option.bind_some,mD,if_neg h];rfl
 rw[if_pos h]
 simp only[fits,Bool.and_eq_true,decide_eq_true_eq]at h
 simp only[D1,Option.bind_some,mD,h.1,h.2,and_self,if_true,cM]
 generalize H[id]?=o
 rcases o with _ | (_ | ⟨sz',pin,ep',es⟩)
 · rfl
 · rfl
 · simp only[D3]
   by_cases h:ep=ep'∧m=es.length
   · rw[if_pos h,if_pos h,Option.bind_some]
     cases pin with
     | true=>rfl
     | false=>
       simp only[Bool.false_eq_true,if_false]
       cases es[i]? with
       | none=>rfl
       | some e=>
         simp only[Option.bind_some,Nu]
         cases aF e.cells off v.cells with
         | none=>rfl
         | some cs'=>
           simp only[Option.bind_some,rC]
           cases bZ e.isAgg cs' with
           | none=>rfl
           | some e'=>
             simp only[Option.bind_some]
             by_cases h3:e'.dO=true
             · rw[if_pos h3,if_pos h3,h.1];rfl
             · rw[if_neg h3,if_neg h3];rfl
   · rw[if_neg h,if_neg h];rfl
def D4(zero:List D)(ps:List (Nat×Nat×D)):Option (D×ab):=(kL zero ps).map fun cs=>(jP cs,H)
@[go_sem] theorem Tx (zero : List D) (parts : List (Nat × Nat × X)) : evO call get H (.bd zero parts) = (fH get parts).bind (D4 H zero) := (rfl)
@[go_sem] theorem BE : fH get [] = some [] := (rfl)
def KC(off n:Nat)(r:List (Nat×Nat×X))(d:D):Option (List (Nat×Nat×D)):=eY (off,n,d) (fH get r)
@[go_sem] theorem Nx (off n : Nat) (r : List (Nat × Nat × X)) (d : D) : KC get off n r d = eY (off, n, d) (fH get r) := (rfl)
@[go_sem] theorem zZ (off n : Nat) (x : X) (r : List (Nat × Nat × X)) : fH get ((off, n, x) :: r) = (get x).bind (KC get off n r) := (rfl)
@[go_sem] theorem Ny (zero : List D) : D4 H zero [] = some (jP zero, H) := (rfl)
def bdC(r:List (Nat×Nat×D))(z:List D):Option (D×ab):=D4 H z r
@[go_sem] theorem R4 (r : List (Nat × Nat × D)) (z : List D) : bdC H r z = D4 H z r := (rfl)
@[go_sem] theorem KD (zero : List D) (off n : Nat) (x : D) (r : List (Nat × Nat × D)) : D4 H zero ((off, n, x) :: r) = if fits n x = true then (aF zero off x.cells).bind (bdC H r) else none := by
 by_cases h:fits n x=true
 case neg=>
  rw[if_neg h]
  have h2:(x.dO&&x.cells.length==n)=false:=by rw[← Bool.not_eq_true,Bool.and_comm];simpa [fits]using h
  simp only[D4,kL,h2];rfl
 rw[if_pos h]
 simp only[fits,Bool.and_eq_true,decide_eq_true_eq]at h
 simp only[D4,kL,h.1,h.2,beq_self_eq_true,Bool.and_self,if_true]
 cases aF zero off x.cells<;>rfl
def aV(n:Nat):List T→Bool
 | []=>true
 | x::r=>gC n x.cells&&aV n r
@[go_sem] theorem BF (n : Nat) : aV n [] = true := (rfl)
@[go_sem] theorem lu (n : Nat) (x : T) (r : List T) : aV n (x :: r) = (gC n x.cells && aV n r) := (rfl)
def pO(sz:Nat)(ds:List D):Option (D×ab):=if ds.all (fun d=>d.cells.length==sz)then(aZ (frz H depth) ds).map fun ts=>(.t (.sl ts),pins H (ds.flatMap (cm H depth)))else none
@[go_sem] theorem Ty (xs : List X) (sz : Nat) : evO call get H (.bs xs sz) = (aZ get xs).bind (pO H sz) := (rfl)
theorem KE(sz:Nat)(ds:List D)(ts:List T)(h:im ds=some ts)(hc:aV sz ts=true):pO H sz ds=some (.t (.sl ts),H):=by
 have key:∀(ds:List D) (ts:List T),im ds=some ts→aV sz ts=true→ds.all (fun d=>d.cells.length==sz)=true∧aZ (frz H depth) ds=some ts∧ds.flatMap (cm H depth)=[]:=by
  intro ds
  induction ds with
  | nil=>intro ts h hc;simp[im]at h;subst h;simp[aZ]
  | cons d ds ih=>
    intro ts h hc
    cases d with
    | t x=>
      simp only[im,Option.map_eq_some_iff]at h
      obtain⟨r,hr,rfl⟩:=h
      simp only[aV,Bool.and_eq_true,cB]at hc
      obtain⟨h1,h2,h3⟩:=ih r hr hc.2
      refine⟨by rw[List.all_cons,h1,Bool.and_true];simp[D.cells,hc.1],by simp[aZ,frz,h2],by rw[List.flatMap_cons,h3];simp[cm]⟩
    | _=>simp[im]at h
 obtain⟨h1,h2,h3⟩:=key ds ts h hc
 simp[pO,h1,h2,h3,pins]
theorem je(sz:Nat)(ts:List T):pO H sz (ts.map D.t)=if aV sz ts=true then some (.t (.sl ts),H)else none:=by
 by_cases h:aV sz ts=true
 · rw[if_pos h];exact KE H sz _ ts (zW ts) h
 · rw[if_neg h]
   have:(ts.map D.t).all (fun d=>d.cells.length==sz)=false:=by
    rw[← Bool.not_eq_true];intro ha;apply h
    clear h
    induction ts with
    | nil=>rfl
    | cons a r ih=>
      simp only[List.map_cons,List.all_cons,Bool.and_eq_true,beq_iff_eq]at ha
      simp only[aV,Bool.and_eq_true,cB]
      exact⟨by simpa [D.cells]using ha.1,ih ha.2⟩
   simp only[pO,this];rfl
@[go_sem] theorem R5 (sz : Nat) : pO H sz [] = some (.t (.sl []), H) := (rfl)
@[go_sem] theorem R6 (sz : Nat) (a : T) : pO H sz [.t a] = if aV sz [a] = true then some (.t (.sl [a]), H) else none := je H sz [a]
@[go_sem] theorem R7 (sz : Nat) (a b : T) : pO H sz [.t a, .t b] = if aV sz [a, b] = true then some (.t (.sl [a, b]), H) else none := je H sz [a, b]
@[go_sem] theorem R8 (sz : Nat) (a b c : T) : pO H sz [.t a, .t b, .t c] = if aV sz [a, b, c] = true then some (.t (.sl [a, b, c]), H) else none := je H sz [a, b, c]
@[go_sem] theorem R9 (sz : Nat) (a b c d : T) : pO H sz [.t a, .t b, .t c, .t d] = if aV sz [a, b, c, d] = true then some (.t (.sl [a, b, c, d]), H) else none := je H sz [a, b, c, d]
@[go_sem] theorem Sa (sz : Nat) (a b c d e : T) : pO H sz [.t a, .t b, .t c, .t d, .t e] = if aV sz [a, b, c, d, e] = true then some (.t (.sl [a, b, c, d, e]), H) else none := je H sz [a, b, c, d, e]
def KF(a:D):Option (D×ab):=(Mw a).map fun(n:Nat)=>(D.t (.int .i64 (n:Int)),H)
@[go_sem] theorem Tz (x : X) : evO call get H (.ln x) = (get x).bind (KF H) := (rfl)
@[go_sem] theorem PX (es : List T) : KF H (.t (.sl es)) = some (I es.length, H) := (rfl)
@[go_sem] theorem Nz : KF H .nil = some (I 0, H) := (rfl)
@[go_sem] theorem NA (id ep n : Nat) : KF H (.ref id ep n) = some (I n, H) := (rfl)
@[go_sem] theorem NB (id ep n lo hi : Nat) : KF H (.sub id ep n lo hi) = some (I ((hi - lo : Nat) : Int), H) := (rfl)
def KG(ds:List D):Option (D×ab):=(Jh ds).map fun d=>(d,H)
def KH(ds:List D):Option (D×ab):=(Ji ds).map fun d=>(d,H)
@[go_sem] theorem TA (xs : List X) : evO call get H (.mn xs) = (aZ get xs).bind (KG H) := (rfl)
@[go_sem] theorem TC (xs : List X) : evO call get H (.mx xs) = (aZ get xs).bind (KH H) := (rfl)
@[go_sem] theorem Sb (k : IntKind) (a b : Int) : KG H [.t (.int k a), .t (.int k b)] = some (.t (.int k (min a b)), H) := by
 simp only[KG,Jh,o9,if_true,Option.map_some];congr 4;omega
@[go_sem] theorem Sc (k : IntKind) (a b : Int) : KH H [.t (.int k a), .t (.int k b)] = some (.t (.int k (max a b)), H) := by
 simp only[KH,Ji,o9,if_true,Option.map_some];congr 4;omega
@[go_sem] theorem Sd (k : IntKind) (a b c : Int) : KG H [.t (.int k a), .t (.int k b), .t (.int k c)] = some (.t (.int k (min (min a b) c)), H) := by
 simp only[KG,Jh,o9,if_true,Option.map_some];congr 4;omega
@[go_sem] theorem Se (k : IntKind) (a b c : Int) : KH H [.t (.int k a), .t (.int k b), .t (.int k c)] = some (.t (.int k (max (max a b) c)), H) := by
 simp only[KH,Ji,o9,if_true,Option.map_some];congr 4;omega
def rD(sz:Nat)(x:Option D)(lo hi:Option (Option Int)):Option (D×ab):=x.bind fun a=>lo.bind fun l=>hi.bind fun h=>(gr H a l h sz).map fun d=>(d,H)
@[go_sem] theorem TD (x : X) (lo hi : Option X) (sz : Nat) : evO call get H (.sc x lo hi sz) = rD H sz (get x) (vi get lo) (vi get hi) := (rfl)
def KI:D→Option (Option Int)
 | .t (.int _ n)=>some (some n)
 | _=>none
@[go_sem] theorem NC (k : IntKind) (n : Int) : KI (.t (.int k n)) = some (some n) := (rfl)
@[go_sem] theorem KJ : vi get none = some none := (rfl)
@[go_sem] theorem KK (x : X) : vi get (some x) = (get x).bind KI := by
 simp only[vi];cases get x with
 | none=>rfl
 | some d=>cases d with
   | t y=>cases y<;>rfl
   | _=>rfl
def PY(i:Nat)(a:D):Option (D×ab):=(Jj i a).map fun d=>(d,H)
@[go_sem] theorem TE (x : X) (i : Nat) : evO call get H (.ex x i) = (get x).bind (PY H i) := (rfl)
def exO:Option D→Option (D×ab)
 | some d=>some (d,H)
 | none=>none
@[go_sem] theorem ND (d : D) : exO H (some d) = some (d, H) := (rfl)
@[go_sem] theorem NF (i : Nat) (ds : List D) : PY H i (.tup ds) = exO H ds[i]? := by simp only [PY, Jj, exO]; cases ds[i]? <;> rfl
def PZ(f:Nat)(ds:List D):Option (D×ab):=some (.fn f ds,H)
@[go_sem] theorem P1 (f : Nat) (ds : List D) : PZ H f ds = some (.fn f ds, H) := (rfl)
@[go_sem] theorem TF (f : Nat) (caps : List X) : evO call get H (.mf f caps) = (aZ get caps).bind (PZ H f) := by simp only [evO, PZ]; cases aZ get caps <;> rfl
@[go_sem] theorem TG (sz : Nat) : evO call get H (.nw sz) = some (.ref H.length 0 0, H ++ [.arr sz false 0 []]) := (rfl)
def alP(p:List D×ab):Option (D×ab):=some (.bp H.length 0,H++ .box p.1::p.2)
@[go_sem] theorem Sf (cs : List D) (os : ab) : alP H (cs, os) = some (.bp H.length 0, H ++ .box cs :: os) := (rfl)
@[go_sem] theorem TH (zero : List D) (live : List (Nat × Nat)) : evO call get H (.al zero live) = alP H (aT (H.length + 1) zero live) := (rfl)
@[go_sem] theorem D5 (base : Nat) (cs : List D) : aT base cs [] = (cs, []) := (rfl)
def P2(n:Nat)(a:D):Option (D×ab):=if a.cells.length=n∧a.dO then some (.bp H.length 0,H++[.box a.cells])else none
@[go_sem] theorem TI (x : X) (n : Nat) : evO call get H (.bx x n) = (get x).bind (P2 H n) := (rfl)
@[go_sem] theorem P3 (n : Nat) (a : D) : P2 H n a = if fits n a = true then some (.bp H.length 0, H ++ [.box a.cells]) else none := by
 simp[P2,fits]
def NG(sz:Nat)(zero:D)(n:Option Nat):Option (D×ab):=n.bind fun m=>if m≤lim then some (.ref H.length 0 m,H++[.arr sz false 0 (List.replicate m zero)])else none
def mkN(sz:Nat)(zero:D):D→Option (D×ab)
 | .t (.int _ n)=>NG H sz zero (idx n)
 | _=>none
@[go_sem] theorem P4 (sz : Nat) (zero : D) (k : IntKind) (n : Int) : mkN H sz zero (.t (.int k n)) = NG H sz zero (idx n) := (rfl)
@[go_sem] theorem TJ (len : X) (zero : D) (sz : Nat) : evO call get H (.mk len zero sz) = (get len).bind (mkN H sz zero) := by
 simp only[evO];cases get len with
 | none=>rfl
 | some d=>cases d with
   | t y=>cases y<;>rfl
   | _=>rfl
@[go_sem] theorem P5 (sz : Nat) (zero : D) (m : Nat) (h : m ≤ 4294967296) : NG H sz zero (some m) = some (.ref H.length 0 m, H ++ [.arr sz false 0 (List.replicate m zero)]) := by
 simp[NG,lim,h]
def Aa(zero:T)(n:Option Nat):Option (D×ab):=n.bind fun m=>if m≤lim then some (.t (.sl (List.replicate m zero)),H)else none
def Sg(zero:T):D→Option (D×ab)
 | .t (.int _ n)=>Aa H zero (idx n)
 | _=>none
@[go_sem] theorem NH (zero : T) (k : IntKind) (n : Int) : Sg H zero (.t (.int k n)) = Aa H zero (idx n) := (rfl)
@[go_sem] theorem Si (len : X) (zero : T) (sz : Nat) : evO call get H (.mkt len zero sz) = (get len).bind (Sg H zero) := by
 simp only[evO];cases get len with
 | none=>rfl
 | some d=>cases d with
   | t y=>cases y<;>rfl
   | _=>rfl
@[go_sem] theorem NI (zero : T) (m : Nat) (h : m ≤ 4294967296) : Aa H zero (some m) = some (.t (.sl (List.replicate m zero)), H) := by
 simp[Aa,lim,h]
def iF(sz:Nat)(fz:Bool)(x y:Option D):Option (D×ab):=x.bind fun a=>y.bind fun b=>fQ H a b fz sz
@[go_sem] theorem Sj (x y : X) (fz : Bool) (sz : Nat) : evO call get H (.app x y fz sz) = iF H sz fz (get x) (get y) := (rfl)
def mQ(sz id ep n:Nat)(ys:List D):Option Obj→Option (D×ab)
 | some (.arr sz' pin ep' es)=>if ep=ep'∧n=es.length∧sz'=sz∧n+ys.length≤lim then some (.ref id ep (n+ys.length),H.set id (.arr sz pin ep (es++ys)))else none
 | _=>none
@[go_sem] theorem KL (sz id ep n : Nat) (ys : List D) (pin : Bool) (es : List D) :
 mQ H sz id ep n ys (some (.arr sz pin ep es))=if n=es.length then(if n+ys.length≤4294967296 then some (.ref id ep (n+ys.length),H.set id (.arr sz pin ep (es++ys)))else none)else none:=by
 simp only[mQ,lim]
 by_cases h1:n=es.length
 · rw[if_pos h1]
   by_cases h2:n+ys.length≤4294967296
   · rw[if_pos h2,if_pos ⟨trivial,h1,trivial,h2⟩]
   · rw[if_neg h2,if_neg fun h=>h2 h.2.2.2]
 · rw[if_neg h1,if_neg fun h=>h1 h.2.1]
theorem lx(ts:List T):aZ (fun d=>(frz H depth d).map D.t) (ts.map D.t)=some (ts.map D.t):=by
 induction ts with
 | nil=>rfl
 | cons t ts ih=>simp[aZ,frz,ih]
theorem xC(ts:List T):(ts.map D.t).flatMap (cm H depth)=[]:=by
 induction ts with
 | nil=>rfl
 | cons t ts ih=>rw[List.map_cons,List.flatMap_cons,ih];simp[cm,depth]
theorem rE(sz:Nat)(fz:Bool)(x:D)(ts:List T)(h:bC sz (ts.map D.t)=false):iF H sz fz (some x) (some (.t (.sl ts)))=none:=by
 have e1:(if fz then aZ (fun d=>(frz H depth d).map D.t) (ts.map D.t)else some (ts.map D.t))=some (ts.map D.t):=by
  cases fz<;>simp[lx]
 simp only[iF,Option.bind_some,fQ,elems,e1,h,Bool.false_eq_true,if_false]
def fJ(sz:Nat)(ts:List T):Bool:=bC sz (ts.map D.t)
theorem xD(sz id ep n:Nat)(fz:Bool)(ts:List T)(h:fJ sz ts=true):iF H sz fz (some (.ref id ep n)) (some (.t (.sl ts)))=mQ H sz id ep n (ts.map .t) H[id]?:=by
 have e1:(if fz then aZ (fun d=>(frz H depth d).map D.t) (ts.map D.t)else some (ts.map D.t))=some (ts.map D.t):=by
  cases fz<;>simp[lx]
 have e2:(if fz then pins H ((ts.map D.t).flatMap (cm H depth))else H)=H:=by
  cases fz
  · rfl
  · simp only[if_true];rw[xC];rfl
 unfold fJ at h
 simp only[iF,Option.bind_some,fQ,elems,e1,h,if_true,e2,cM]
 generalize H[id]?=o
 rcases o with _ | (_ | ⟨sz',pin,ep',es⟩)
 · rfl
 · rfl
 · simp only[mQ]
   by_cases h1:ep=ep'∧n=es.length
   · rw[if_pos h1,Option.bind_some]
     by_cases h2:sz'=sz∧n+(ts.map D.t).length≤lim
     · rw[if_pos h2,if_pos ⟨h1.1,h1.2,h2⟩]
     · rw[if_neg h2,if_neg fun h=>h2 h.2.2]
   · rw[if_neg h1,if_neg fun h=>h1 ⟨h.1,h.2.1⟩];rfl
@[go_sem] theorem KM (sz id ep n : Nat) (fz : Bool) (ts : List T) : iF H sz fz (some (.ref id ep n)) (some (.t (.sl ts))) = if fJ sz ts = true then mQ H sz id ep n (ts.map .t) H[id]? else none := by
 by_cases h:fJ sz ts=true
 · rw[if_pos h,xD H sz id ep n fz ts h]
 · rw[if_neg h];exact rE H sz fz _ ts (by simpa [fJ]using h)
@[go_sem] theorem KN (sz : Nat) (fz : Bool) (ts : List T) : iF H sz fz (some .nil) (some (.t (.sl ts))) =
 if fJ sz ts=true then(if ts.length≤4294967296 then some (.ref H.length 0 ts.length,H++[.arr sz false 0 (ts.map .t)])else none)else none:=by
 by_cases h:fJ sz ts=true
 · rw[if_pos h]
   have e1:(if fz then aZ (fun d=>(frz H depth d).map D.t) (ts.map D.t)else some (ts.map D.t))=some (ts.map D.t):=by
    cases fz<;>simp[lx]
   have e2:(if fz then pins H ((ts.map D.t).flatMap (cm H depth))else H)=H:=by
    cases fz
    · rfl
    · simp only[if_true];rw[xC];rfl
   unfold fJ at h
   simp only[iF,Option.bind_some,fQ,elems,e1,h,if_true,e2,lim,List.length_map]
 · rw[if_neg h];exact rE H sz fz _ ts (by simpa [fJ]using h)
@[go_sem] theorem KO (sz : Nat) : fJ sz [] = true := (rfl)
@[go_sem] theorem Hy (sz : Nat) (x : T) (r : List T) : fJ sz (x :: r) = gC sz x.cells := by
 rw[Bool.eq_iff_iff,cB];simp[fJ,bC,D.cells]
@[go_sem] theorem KP (l : List Int) (k : IntKind) : fJ 1 (l.map (.int k)) = true := by cases l <;> rfl
@[go_sem] theorem Hz (l : List Bool) : fJ 1 (l.map .bool) = true := by cases l <;> rfl
@[go_sem] theorem NJ (l : List (List T)) : fJ 1 (l.map .sl) = true := by cases l <;> rfl
def vC(call:aC)(f raw:Nat)(keep:List Nat)(ds:List D):Option (D×ab):=kM call H f raw keep ds
@[go_sem] theorem TK (f raw : Nat) (keep : List Nat) (xs : List X) : evO call get H (.ca f raw keep xs) = (aZ get xs).bind (vC H call f raw keep) := (rfl)
def Sk(call:aC)(raw:Nat)(keep:List Nat)(x:Option D)(xs:Option (List D)):Option (D×ab):=x.bind fun
 | .fn f caps=>xs.bind fun ds=>kM call H f raw keep (ds++caps)
 | _=>none
@[go_sem] theorem TL (x : X) (raw : Nat) (keep : List Nat) (xs : List X) : evO call get H (.cw x raw keep xs) = Sk H call raw keep (get x) (aZ get xs) := (rfl)
@[go_sem] theorem P6 (raw : Nat) (keep : List Nat) (f : Nat) (caps ds : List D) : Sk H call raw keep (some (.fn f caps)) (some ds) = vC H call f raw keep (ds ++ caps) := (rfl)
def fK(H:ab):List D→Option (List T)
 | []=>some []
 | .t x::r=>eY x (fK H r)
 | .nil::r=>eY (.sl []) (fK H r)
 | _::_=>none
@[go_sem] theorem P7 : fK H [] = some [] := (rfl)
@[go_sem] theorem P8 (x : T) (r : List D) : fK H (.t x :: r) = eY x (fK H r) := (rfl)
@[go_sem] theorem KQ (r : List D) : fK H (.nil :: r) = eY (.sl []) (fK H r) := (rfl)
@[go_sem] theorem KR (cs : List D) (r : List D) : fK H (.agg cs :: r) = none := (rfl)
@[go_sem] theorem NK (a b : Nat) (r : List D) : fK H (.bp a b :: r) = none := (rfl)
@[go_sem] theorem KS (a b c : Nat) (r : List D) : fK H (.ref a b c :: r) = none := (rfl)
@[go_sem] theorem KT (a b c d e : Nat) (r : List D) : fK H (.sub a b c d e :: r) = none := (rfl)
@[go_sem] theorem NL (f : Nat) (cs : List D) (r : List D) : fK H (.fn f cs :: r) = none := (rfl)
@[go_sem] theorem NM (a b c d e : Nat) (r : List D) : fK H (.ap a b c d e :: r) = none := (rfl)
@[go_sem] theorem NN (cs : List T) (r : List D) : fK H (.ep cs :: r) = none := (rfl)
@[go_sem] theorem HA (r : List D) : fK H (.nilp :: r) = none := (rfl)
@[go_sem] theorem KU (r : List D) : fK H (.und :: r) = none := (rfl)
end
theorem kr(H:ab):∀ {ds:List D} {ts:List T},fK H ds=some ts→∀i,ir H [] i ds=some (ts.map .t)∧bk H [] i ds=[]
 | [],ts,h,i=>by simp[fK]at h;subst h;exact⟨rfl,rfl⟩
 | d::r,ts,h,i=>by
   cases d with
   | t x=>
     simp only[fK,eY,Option.map_eq_some_iff]at h
     obtain⟨l,hl,rfl⟩:=h
     obtain⟨h1,h2⟩:=kr H hl (i+1)
     exact⟨by simp[ir,ke,h1],by simp[bk,cm,depth,h2]⟩
   | nil=>
     simp only[fK,eY,Option.map_eq_some_iff]at h
     obtain⟨l,hl,rfl⟩:=h
     obtain⟨h1,h2⟩:=kr H hl (i+1)
     exact⟨by simp[ir,ke,h1],by simp[bk,cm,depth,h2]⟩
   | _=>simp[fK]at h
theorem xE(ts:List T)(n:Nat):(ts.map D.t).flatMap (ids n)=[]:=by
 induction ts with
 | nil=>rfl
 | cons t ts ih=>rw[List.map_cons,List.flatMap_cons,ih];simp[ids]
theorem D6(f:Nat→Option Nat)(ts:List T):aZ (ren f depth) (ts.map .t)=some (ts.map .t):=by
 induction ts with
 | nil=>rfl
 | cons t ts ih=>simp[aZ,ren,depth]at ih ⊢;exact ih
def nh:D→Bool
 | .t _=>true
 | .tup ds=>ds.all fun | .t _=>true | _=>false
 | _=>false
theorem qk{f:Nat→Option Nat}{d:D}(h:nh d=true):ren f depth d=some d:=by
 cases d with
 | t x=>rfl
 | tup ds=>
   simp only[nh]at h
   have:aZ (ren f 7) ds=some ds:=by
    induction ds with
    | nil=>rfl
    | cons d ds ih=>
      simp only[List.all_cons,Bool.and_eq_true]at h
      cases d with
      | t x=>simp[aZ,ren,ih h.2]
      | _=>simp at h
   simp[ren,depth,this]
 | _=>simp[nh]at h
def oF(H:ab)(p:D×ab):Option (D×ab):=if nh p.1&&p.2.isEmpty then some (p.1,H)else
 (ren (bY [] H.length) depth p.1).bind fun r'=>(aZ (dj (bY [] H.length)) p.2).map fun os=>(r',H++os)
@[go_sem] theorem P9 (H : ab) (x : T) : oF H (.t x, []) = some (.t x, H) := (rfl)
@[go_sem] theorem Qa (H : ab) : oF H (.tup [], []) = some (.tup [], H) := (rfl)
@[go_sem] theorem Qb (H : ab) (x y : T) : oF H (.tup [.t x, .t y], []) = some (.tup [.t x, .t y], H) := (rfl)
@[go_sem] theorem Qc (H : ab) (x y z : T) : oF H (.tup [.t x, .t y, .t z], []) = some (.tup [.t x, .t y, .t z], H) := (rfl)
@[go_sem] theorem Qd (H : ab) (x y z u : T) : oF H (.tup [.t x, .t y, .t z, .t u], []) = some (.tup [.t x, .t y, .t z, .t u], H) := (rfl)
theorem xF(H:ab)(call:aC)(f raw:Nat)(ds:List D)(ts:List T)(h:fK H ds=some ts):
 vC H call f raw [] ds=(call raw f (ts.map .t) []).bind (oF H):=by
 obtain⟨h1,h2⟩:=kr H h 0
 simp only[vC,kM,h1,Option.bind_some,xE,cr,reach,i5,List.flatMap_nil,h2,pins,D6,pick,aZ]
 cases hc:call raw f (ts.map .t) []with
 | none=>rfl
 | some p=>
   obtain⟨d,os⟩:=p
   simp only[Option.bind_some,List.isEmpty_nil,Bool.true_and,oF]
   by_cases h3:os=[]
   · subst h3
     simp only[List.isEmpty_nil,Bool.true_and,Bool.and_true,aZ,Option.map_some,List.length_nil,List.take_nil,bE,List.drop_nil,List.append_nil]
     by_cases h4:nh d=true
     · rw[if_pos h4]
       split
       · rfl
       · rw[qk h4];rfl
     · rw[if_neg h4]
       split
       · rename_i h5
         exfalso
         apply h4
         cases d with
         | t x=>rfl
         | tup ds=>
           simp only[iq,List.all_eq_true]at h5
           simp only[nh,List.all_eq_true]
           intro y hy
           have:=h5 y hy
           cases y<;>simp_all [eS]
         | _=>simp[iq]at h5
       · rfl
   · have:os.isEmpty=false:=by cases os<;>simp_all
     simp only[this,Bool.false_and,Bool.and_false,if_false,Bool.false_eq_true,List.length_nil,List.take_zero,bE,List.drop_zero]
@[go_sem] theorem HB (st : St) : dV st [] = some [] := (rfl)
def Sl(st:St)(r:List (Nat×Option (Nat×Bool)))(d:D):Option (List D):=eY d (dV st r)
@[go_sem] theorem Qe (vs : List D) (H : ab) (r : List (Nat × Option (Nat × Bool))) (d : D) : Sl ⟨vs, H⟩ r d = eY d (dV ⟨vs, H⟩ r) := (rfl)
@[go_sem] theorem HC (vs : List D) (H : ab) (j : Nat) (r : List (Nat × Option (Nat × Bool))) : dV ⟨vs, H⟩ ((j, none) :: r) = vs[j]?.bind (Sl ⟨vs, H⟩ r) := (rfl)
def Qf(st:St)(r:List (Nat×Option (Nat×Bool)))(p:D×ab):Option (List D):=eY p.1 (dV st r)
@[go_sem] theorem Qg (vs : List D) (H : ab) (r : List (Nat × Option (Nat × Bool))) (d : D) (H' : ab) : Qf ⟨vs, H⟩ r (d, H') = eY d (dV ⟨vs, H⟩ r) := (rfl)
def Qh(st:St)(n:Nat)(agg:Bool)(r:List (Nat×Option (Nat×Bool)))(p:D):Option (List D):=(y4 st.H n agg p).bind (Qf st r)
@[go_sem] theorem Qi (vs : List D) (H : ab) (n : Nat) (agg : Bool) (r : List (Nat × Option (Nat × Bool))) (p : D) : Qh ⟨vs, H⟩ n agg r p = (y4 H n agg p).bind (Qf ⟨vs, H⟩ r) := (rfl)
@[go_sem] theorem D7 (vs : List D) (H : ab) (j n : Nat) (agg : Bool) (r : List (Nat × Option (Nat × Bool))) : dV ⟨vs, H⟩ ((j, some (n, agg)) :: r) = vs[j]?.bind (Qh ⟨vs, H⟩ n agg r) := by
 simp only[dV]
 cases vs[j]? with
 | none=>rfl
 | some p=>
   simp only[Option.bind_some,Qh,y4]
   cases lY H p n agg<;>rfl
@[go_sem] theorem Qj (H : ab) (n : Nat) (x : T) : frz H n (.t x) = some x := by cases n <;> rfl
@[go_sem] theorem Qk (H : ab) (n : Nat) : frz H n .nil = some (.sl []) := by cases n <;> rfl
@[go_sem] theorem Ql (H : ab) (n : Nat) (cs : List D) : frz H (n + 1) (.agg cs) = (aZ (frz H n) cs).map .agg := (rfl)
@[go_sem] theorem vD (H : ab) (n : Nat) (ts : List T) : aZ (frz H n) (ts.map .t) = some ts := by
 induction ts with
 | nil=>rfl
 | cons t ts ih=>simp[aZ,Qj,ih]
def frA(H:ab)(n ep m lo hi:Nat):Option Obj→Option T
 | some (.arr _ _ ep' es)=>if ep=ep'∧m=es.length then(aZ (frz H n) ((es.drop lo).take (hi-lo))).map .sl else none
 | _=>none
def frR(H:ab)(n ep m:Nat):Option Obj→Option T
 | some (.arr _ _ ep' es)=>if ep=ep'∧m=es.length then(aZ (frz H n) es).map .sl else none
 | _=>none
@[go_sem] theorem Qm (H : ab) (n id ep m : Nat) : frz H (n + 1) (.ref id ep m) = frR H n ep m H[id]? := by
 simp only[frz,cM]
 generalize H[id]?=o
 rcases o with _ | (_ | ⟨sz',pin,ep',es⟩)
 · rfl
 · rfl
 · simp only[frR]
   by_cases h:ep=ep'∧m=es.length
   · rw[if_pos h,if_pos h];rfl
   · rw[if_neg h,if_neg h];rfl
@[go_sem] theorem Qn (H : ab) (n id ep m lo hi : Nat) : frz H (n + 1) (.sub id ep m lo hi) = frA H n ep m lo hi H[id]? := by
 simp only[frz,cM]
 generalize H[id]?=o
 rcases o with _ | (_ | ⟨sz',pin,ep',es⟩)
 · rfl
 · rfl
 · simp only[frA]
   by_cases h:ep=ep'∧m=es.length
   · rw[if_pos h,if_pos h];rfl
   · rw[if_neg h,if_neg h];rfl
@[go_sem] theorem Qo (H : ab) (n ep m sz : Nat) (pin : Bool) (es : List D) : frR H n ep m (some (.arr sz pin ep es)) = if m = es.length then (aZ (frz H n) es).map .sl else none := by simp [frR]
@[go_sem] theorem Qp (H : ab) (n ep m lo hi sz : Nat) (pin : Bool) (es : List D) : frA H n ep m lo hi (some (.arr sz pin ep es)) = if m = es.length then (aZ (frz H n) ((es.drop lo).take (hi - lo))).map .sl else none := by simp [frA]
@[go_sem] theorem KV (H : ab) (x : T) : ke H (.t x) = some (.t x) := (rfl)
@[go_sem] theorem NQ (H : ab) : ke H .nil = some (.t (.sl [])) := (rfl)
@[go_sem] theorem NR (H : ab) (cs : List D) : ke H (.agg cs) = (frz H 8 (.agg cs)).map .t := (rfl)
@[go_sem] theorem NS (H : ab) (id ep n : Nat) : ke H (.ref id ep n) = (frz H 8 (.ref id ep n)).map .t := (rfl)
@[go_sem] theorem NT (H : ab) (id ep n lo hi : Nat) : ke H (.sub id ep n lo hi) = (frz H 8 (.sub id ep n lo hi)).map .t := (rfl)
@[go_sem] theorem D8 (H : ab) (id off : Nat) : ke H (.bp id off) = some (.bp id off) := (rfl)
@[go_sem] theorem Qq (H : ab) (id ep n i off : Nat) : ke H (.ap id ep n i off) = some (.ap id ep n i off) := (rfl)
@[go_sem] theorem Qr (H : ab) (cs : List T) : ke H (.ep cs) = some (.ep cs) := (rfl)
@[go_sem] theorem Qs (H : ab) (f : Nat) (cs : List D) : ke H (.fn f cs) = some (.fn f cs) := (rfl)
def ltB:Nat→Nat→Bool
 | _,0=>false
 | 0,_+1=>true
 | m+1,n+1=>ltB m n
@[go_sem] theorem TM (m : Nat) : ltB m 0 = false := by cases m <;> rfl
@[go_sem] theorem Sm (n : Nat) : ltB 0 (n + 1) = true := (rfl)
@[go_sem] theorem Sn (m n : Nat) : ltB (m + 1) (n + 1) = ltB m n := (rfl)
theorem iG:∀ {m n:Nat},ltB m n=decide (m<n)
 | m,0=>by cases m<;>simp[ltB]
 | 0,n+1=>by simp[ltB]
 | m+1,n+1=>by simp[ltB,iG (m:=m) (n:=n)]
def eqB:Nat→Nat→Bool
 | 0,0=>true
 | m+1,n+1=>eqB m n
 | _,_=>false
@[go_sem] theorem Sp : eqB 0 0 = true := (rfl)
@[go_sem] theorem Sq (n : Nat) : eqB 0 (n + 1) = false := (rfl)
@[go_sem] theorem Sr (n : Nat) : eqB (n + 1) 0 = false := (rfl)
@[go_sem] theorem Ss (m n : Nat) : eqB (m + 1) (n + 1) = eqB m n := (rfl)
theorem tn:∀ {m n:Nat},eqB m n=decide (m=n)
 | 0,0=>rfl
 | 0,n+1=>rfl
 | m+1,0=>rfl
 | m+1,n+1=>by simp[eqB,tn (m:=m) (n:=n)]
section
variable (k n : Nat)
@[go_sem] theorem Qt (x : T) : old k n (.t x) = true := by cases n <;> rfl
@[go_sem] theorem Qu : old k n .nil = true := by cases n <;> rfl
@[go_sem] theorem Su (cs : List T) : old k n (.ep cs) = true := by cases n <;> rfl
@[go_sem] theorem NU : old k n .nilp = true := by cases n <;> rfl
@[go_sem] theorem Qv : old k n .und = true := by cases n <;> rfl
@[go_sem] theorem KW (id off : Nat) : old k n (.bp id off) = ltB id k := by cases n <;> simp [old, iG]
@[go_sem] theorem Sv (id ep m i off : Nat) : old k n (.ap id ep m i off) = ltB id k := by cases n <;> simp [old, iG]
@[go_sem] theorem Qw (id ep m : Nat) : old k n (.ref id ep m) = ltB id k := by cases n <;> simp [old, iG]
@[go_sem] theorem Qx (id ep m lo hi : Nat) : old k n (.sub id ep m lo hi) = ltB id k := by cases n <;> simp [old, iG]
def cU(n:Nat)(cs:List D):Bool:=cs.all (old k n)
@[go_sem] theorem HD : cU k n [] = true := (rfl)
@[go_sem] theorem tp (d : D) (r : List D) : cU k n (d :: r) = (old k n d && cU k n r) := (rfl)
@[go_sem] theorem uF (ts : List T) : cU k n (ts.map .t) = true := by
 induction ts with
 | nil=>rfl
 | cons t ts ih=>rw[List.map_cons,tp,Qt,ih];rfl
@[go_sem] theorem HE (m : Nat) (x : T) : cU k n (List.replicate m (.t x)) = true := by
 have:List.replicate m (D.t x)=(List.replicate m x).map .t:=by simp
 rw[this,uF]
@[go_sem] theorem HF (a b : List D) : cU k n (a ++ b) = (cU k n a && cU k n b) := by simp [cU]
@[go_sem] theorem Qy (cs : List D) : old k (n + 1) (.agg cs) = cU k n cs := (rfl)
@[go_sem] theorem Qz (cs : List D) : old k (n + 1) (.tup cs) = cU k n cs := (rfl)
@[go_sem] theorem Sw (f : Nat) (cs : List D) : old k (n + 1) (.fn f cs) = cU k n cs := (rfl)
end
def cu(k:Nat):ab→Bool
 | []=>true
 | .box cs::r=>cU k 8 cs&&cu k r
 | .arr _ _ _ es::r=>cU k 8 es&&cu k r
@[go_sem] theorem D9 (k : Nat) : cu k [] = true := (rfl)
@[go_sem] theorem Ea (k : Nat) (cs : List D) (r : ab) : cu k (.box cs :: r) = (cU k 8 cs && cu k r) := (rfl)
@[go_sem] theorem Eb (k sz ep : Nat) (pin : Bool) (es : List D) (r : ab) : cu k (.arr sz pin ep es :: r) = (cU k 8 es && cu k r) := (rfl)
theorem fO(k:Nat)(H:ab):H.all (fun o=>o.ds.all (old k depth))=cu k H:=by
 induction H with
 | nil=>rfl
 | cons o r ih=>rw[List.all_cons,ih];cases o<;>rfl
def Ec(d:D)(b:Bool):D:=if b then d else .und
@[go_sem] theorem HG (d : D) : Ec d true = d := (rfl)
@[go_sem] theorem Ed (d : D) : Ec d false = .und := (rfl)
@[go_sem] theorem QA (k : Nat) (d : D) : kill k d = Ec d (old k 8 d) := (rfl)
def vE(k:Nat):List D→List D
 | []=>[]
 | d::r=>kill k d::vE k r
@[go_sem] theorem KX (k : Nat) : vE k [] = [] := (rfl)
@[go_sem] theorem HH (k : Nat) (d : D) (r : List D) : vE k (d :: r) = kill k d :: vE k r := (rfl)
theorem Ab(k:Nat)(vs:List D):vs.map (kill k)=vE k vs:=by
 induction vs with
 | nil=>rfl
 | cons d r ih=>rw[List.map_cons,ih];rfl
@[go_sem] theorem NV (k : Nat) (vs : List D) (H : ab) : vj k ⟨vs, H⟩ = if cu k (H.take k) = true then some ⟨vE k vs, H.take k⟩ else none := by
 simp only[vj,fO,Ab]
@[go_sem] theorem xG (H : ab) (n : Nat) (x : T) : cm H n (.t x) = [] := by cases n <;> rfl
@[go_sem] theorem NW (H : ab) (n : Nat) : cm H n .nil = [] := by cases n <;> rfl
@[go_sem] theorem Ee (H : ab) (n id off : Nat) : cm H n (.bp id off) = [] := by cases n <;> rfl
@[go_sem] theorem QB (H : ab) (n f : Nat) (cs : List D) : cm H n (.fn f cs) = [] := by cases n <;> rfl
@[go_sem] theorem QC (H : ab) (n : Nat) (cs : List T) : cm H n (.ep cs) = [] := by cases n <;> rfl
@[go_sem] theorem QD (H : ab) (n a b c d e : Nat) : cm H n (.ap a b c d e) = [] := by cases n <;> rfl
def jS(H:ab)(n:Nat)(cs:List D):List Nat:=cs.flatMap (cm H n)
@[go_sem] theorem KY (H : ab) (n : Nat) : jS H n [] = [] := (rfl)
@[go_sem] theorem vF (H : ab) (n : Nat) (d : D) (r : List D) : jS H n (d :: r) = cm H n d ++ jS H n r := (rfl)
@[go_sem] theorem QE (H : ab) (n : Nat) (ts : List T) : jS H n (ts.map .t) = [] := by
 induction ts with
 | nil=>rfl
 | cons t ts ih=>rw[List.map_cons,vF,ih,xG];rfl
@[go_sem] theorem KZ (H : ab) (n : Nat) (a b : List D) : jS H n (a ++ b) = jS H n a ++ jS H n b := by simp [jS]
@[go_sem] theorem NX (H : ab) (n : Nat) (cs : List D) : cm H (n + 1) (.agg cs) = jS H n cs := (rfl)
def Ef(H:ab)(n:Nat):Option Obj→List Nat
 | some (.arr _ _ _ es)=>jS H n es
 | _=>[]
@[go_sem] theorem K0 (H : ab) (n sz ep : Nat) (pin : Bool) (es : List D) : Ef H n (some (.arr sz pin ep es)) = jS H n es := (rfl)
@[go_sem] theorem NY (H : ab) (n id ep m : Nat) : cm H (n + 1) (.ref id ep m) = id :: Ef H n H[id]? := (rfl)
@[go_sem] theorem NZ (H : ab) (n id ep m lo hi : Nat) : cm H (n + 1) (.sub id ep m lo hi) = id :: Ef H n H[id]? := (rfl)
@[go_sem] theorem QF : m9 [] = .tup [] := (rfl)
@[go_sem] theorem QG (d : D) : m9 [d] = d := (rfl)
@[go_sem] theorem QH (a b : D) (r : List D) : m9 (a :: b :: r) = .tup (a :: b :: r) := (rfl)
def rF(k:Nat):List Nat→Bool
 | []=>true
 | i::r=> !ltB i k&&rF k r
@[go_sem] theorem K1 (k : Nat) : rF k [] = true := (rfl)
@[go_sem] theorem HI (k i : Nat) (r : List Nat) : rF k (i :: r) = (!ltB i k && rF k r) := (rfl)
theorem uG(k:Nat)(l:List Nat):l.all (fun i=>decide (k≤i))=rF k l:=by
 induction l with
 | nil=>rfl
 | cons i r ih=>
   rw[List.all_cons,ih]
   simp only[rF,iG]
   congr 1
   rw[Bool.eq_iff_iff];simp
def N0(k raw:Nat)(H:ab)(ds rs:List D):Option (D×ab):=
 (gu H (max raw 1) (List.range k) (rs.flatMap (ids depth)++i5 H (List.range k))).bind fun q=>
  if(eh H raw ds).all (fun i=> !(List.range k++q.1).contains i)then
   (aZ (ren (idxOf (List.range k++q.1)) depth) rs).bind fun rs'=>
    (aZ (dj (idxOf (List.range k++q.1))) (H.take k++q.2)).map fun hs'=>(m9 rs',hs')
  else none
def HJ(k raw:Nat)(H:ab)(ds rs:List D)(b:Bool):Option (D×ab):=
 if b then(if rF k (eh H raw ds)=true then some (m9 rs,H.take k)else none)else N0 k raw H ds rs
@[go_sem] theorem K2 (k raw : Nat) (H : ab) (ds rs : List D) : HJ k raw H ds rs true = if rF k (eh H raw ds) = true then some (m9 rs, H.take k) else none := (rfl)
def K3(k raw:Nat)(H:ab)(ds rs:List D):Option (D×ab):=HJ k raw H ds rs (cU k 8 rs&&cu k (H.take k))
@[go_sem] theorem QI (k raw : Nat) (H : ab) (ds rs : List D) : K3 k raw H ds rs = HJ k raw H ds rs (cU k 8 rs && cu k (H.take k)) := (rfl)
@[go_sem] theorem K4 (k : Nat) (H : ab) (ds : List D) : finish k 0 H ds = (aZ (ke H) ds).bind (K3 k 0 H ds) := by
 simp only[finish,if_true,fO,uG]
 cases aZ (ke H) ds with
 | none=>rfl
 | some rs=>
   simp only[Option.bind_some,K3,HJ]
   show(if(cU k 8 rs&&cu k (H.take k))=true then _ else _)=_
   cases (cU k 8 rs&&cu k (H.take k))<;>rfl
@[go_sem] theorem K5 (H : ab) (ds : List D) : eh H 0 ds = jS H 8 ds := (rfl)
@[go_sem] theorem K6 (vs : List D) : eD [] vs = vs := (rfl)
@[go_sem] theorem HK (i : Nat) (r : List Nat) (vs : List D) : eD (i :: r) vs = eD r (vs.set i .und) := (rfl)
@[go_sem] theorem QJ (dead : List Nat) (k : Nat) (vs : List D) (H : ab) : tidy false dead k ⟨vs, H⟩ = some ⟨eD dead vs, H⟩ := (rfl)
@[go_sem] theorem QK (dead : List Nat) (k : Nat) (vs : List D) (H : ab) : tidy true dead k ⟨vs, H⟩ = vj k ⟨eD dead vs, H⟩ := (rfl)
section
variable (H : ab) (call : aC) (f raw : Nat) (keep : List Nat) (ds : List D)
def ql(H1:ab)(n:Nat)(sel:List Nat)(p:D×ab):Option (D×ab):=
 (ren (bY sel n) depth p.1).bind fun r'=>(aZ (dj (bY sel n)) p.2).map fun os=>(r',bE H1 sel (os.take sel.length)++os.drop sel.length)
def kt(H1:ab)(sel:List Nat)(p:D×ab):Option (D×ab):=
 if sel.isEmpty&&p.2.isEmpty&&iq p.1 then some (p.1,H)else ql H1 H.length sel p
def Eg(args:List D)(H1:ab)(sel:List Nat)(hs:ab):Option (D×ab):=(call raw f args hs).bind (kt H H1 sel)
def Eh(args:List D)(H1:ab)(sel:List Nat)(hs:ab):Option (D×ab):=(aZ (dj (idxOf sel)) hs).bind (Eg H call f raw args H1 sel)
def Ei(H1:ab)(sel:List Nat)(args:List D):Option (D×ab):=(pick H1 sel).bind (Eh H call f raw args H1 sel)
def Ej(args:List D)(sel:List Nat):Option (D×ab):=(aZ (ren (idxOf sel) depth) args).bind (Ei H call f raw (pins H (bk H keep 0 ds)) sel)
def oG(n:Nat)(cs:List D):List Nat:=cs.flatMap (ids n)
def Ek(args:List D):Option (D×ab):=Ej H call f raw keep ds args (reach H 3 (cr [] (oG 8 args)))
def xH:Option (D×ab):=(ir H keep 0 ds).bind (Ek H call f raw keep ds)
theorem Ac:vC H call f raw keep ds=xH H call f raw keep ds:=(rfl)
@[go_sem] theorem Ad : xH H call f raw keep ds = (ir H keep 0 ds).bind (Ek H call f raw keep ds) := (rfl)
@[go_sem] theorem Ae (args : List D) : Ek H call f raw keep ds args = Ej H call f raw keep ds args (reach H 3 (cr [] (oG 8 args))) := (rfl)
@[go_sem] theorem Af (args : List D) (sel : List Nat) : Ej H call f raw keep ds args sel = (aZ (ren (idxOf sel) 8) args).bind (Ei H call f raw (pins H (bk H keep 0 ds)) sel) := (rfl)
@[go_sem] theorem Ag (H1 : ab) (sel : List Nat) (args : List D) : Ei H call f raw H1 sel args = (pick H1 sel).bind (Eh H call f raw args H1 sel) := (rfl)
@[go_sem] theorem Ah (args : List D) (H1 : ab) (sel : List Nat) (hs : ab) : Eh H call f raw args H1 sel hs = (aZ (dj (idxOf sel)) hs).bind (Eg H call f raw args H1 sel) := (rfl)
@[go_sem] theorem Ai (args : List D) (H1 : ab) (sel : List Nat) (hs : ab) : Eg H call f raw args H1 sel hs = (call raw f args hs).bind (kt H H1 sel) := (rfl)
def Aj(H1:ab)(sel:List Nat)(r:D)(os:ab):Option (D×ab):=some (r,bE H1 sel (os.take sel.length)++os.drop sel.length)
@[go_sem] theorem Ak (H1 : ab) (sel : List Nat) (r : D) (os : ab) : Aj H1 sel r os = some (r, bE H1 sel (os.take sel.length) ++ os.drop sel.length) := (rfl)
def El(H1:ab)(n:Nat)(sel:List Nat)(os:ab)(r:D):Option (D×ab):=(aZ (dj (bY sel n)) os).bind (Aj H1 sel r)
@[go_sem] theorem uH (H1 : ab) (n : Nat) (sel : List Nat) (os : ab) (r : D) : El H1 n sel os r = (aZ (dj (bY sel n)) os).bind (Aj H1 sel r) := (rfl)
@[go_sem] theorem uI (H1 : ab) (n : Nat) (sel : List Nat) (r : D) (os : ab) : ql H1 n sel (r, os) = (ren (bY sel n) 8 r).bind (El H1 n sel os) := by
 simp only[ql,depth]
 cases ren (bY sel n) 8 r with
 | none=>rfl
 | some r'=>simp only[Option.bind_some,El];cases aZ (dj (bY sel n)) os<;>rfl
@[go_sem] theorem K7 (H1 : ab) (i : Nat) (sel : List Nat) (p : D × ab) : kt H H1 (i :: sel) p = ql H1 H.length (i :: sel) p := (rfl)
@[go_sem] theorem N1 (H1 : ab) (sel : List Nat) (r : D) (o : Obj) (os : ab) : kt H H1 sel (r, o :: os) = ql H1 H.length sel (r, o :: os) := by
 simp[kt]
@[go_sem] theorem QL (H1 : ab) (k : IntKind) (n : Int) : kt H H1 [] (.t (.int k n), []) = some (.t (.int k n), H) := (rfl)
@[go_sem] theorem QM (H1 : ab) (b : Bool) : kt H H1 [] (.t (.bool b), []) = some (.t (.bool b), H) := (rfl)
@[go_sem] theorem N2 (H1 : ab) (es : List T) : kt H H1 [] (.t (.sl es), []) = some (.t (.sl es), H1) := by simp [kt, ql, iq, T.scalar, ren, depth, aZ, bE]
@[go_sem] theorem K8 (H1 : ab) (es : List T) : kt H H1 [] (.t (.agg es), []) = some (.t (.agg es), H1) := by simp [kt, ql, iq, T.scalar, ren, depth, aZ, bE]
@[go_sem] theorem K9 (H1 : ab) (ds : List D) : kt H H1 [] (.tup ds, []) = if ds.all eS then some (.tup ds, H) else ql H1 H.length [] (.tup ds, []) := by
 simp[kt,iq]
def Em:Option (List T)→Option (D×ab)
 | some ts=>(call raw f (ts.map .t) []).bind (oF H)
 | none=>xH H call f raw [] ds
@[go_sem] theorem HL (ts : List T) : Em H call f raw ds (some ts) = (call raw f (ts.map .t) []).bind (oF H) := (rfl)
@[go_sem] theorem HM : Em H call f raw ds none = xH H call f raw [] ds := (rfl)
@[go_sem] theorem QN : vC H call f raw [] ds = Em H call f raw ds (fK H ds) := by
 cases h:fK H ds with
 | none=>rfl
 | some ts=>exact xF H call f raw ds ts h
@[go_sem] theorem Sx (k : Nat) : vC H call f raw (k :: keep) ds = xH H call f raw (k :: keep) ds := (rfl)
end
section
variable (H : ab) (keep : List Nat)
@[go_sem] theorem La (i : Nat) : ir H keep i [] = some [] := (rfl)
def sF(i:Nat):List Nat→Bool
 | []=>false
 | j::r=>eqB i j||sF i r
@[go_sem] theorem N3 (i : Nat) : sF i [] = false := (rfl)
@[go_sem] theorem Lb (i j : Nat) (r : List Nat) : sF i (j :: r) = (eqB i j || sF i r) := (rfl)
theorem qm(i:Nat)(l:List Nat):l.contains i=sF i l:=by
 induction l with
 | nil=>rfl
 | cons j r ih=>rw[List.contains_cons,ih];simp only[sF,tn];rw[beq_eq_decide_nat]
where beq_eq_decide_nat {a b:Nat}:(a==b)=decide (a=b):=by rw[Bool.eq_iff_iff];simp
def QO(d:D):Bool→Option D
 | true=>some d
 | false=>ke H d
@[go_sem] theorem Sy (d : D) : QO H d true = some d := (rfl)
@[go_sem] theorem BG (d : D) : QO H d false = ke H d := (rfl)
def Sz(i:Nat)(r:List D)(x:D):Option (List D):=eY x (ir H keep (i+1) r)
@[go_sem] theorem xI (i : Nat) (r : List D) (x : D) : Sz H keep i r x = eY x (ir H keep (i + 1) r) := (rfl)
@[go_sem] theorem pP (i : Nat) (d : D) (r : List D) : ir H keep i (d :: r) = (QO H d (sF i keep)).bind (Sz H keep i r) := by
 simp only[ir,qm]
 cases sF i keep<;>rfl
@[go_sem] theorem y5 (i : Nat) : bk H keep i [] = [] := (rfl)
def frK(l:List Nat):Bool→List Nat
 | true=>[]
 | false=>l
@[go_sem] theorem TN (l : List Nat) : frK l true = [] := (rfl)
@[go_sem] theorem Lc (l : List Nat) : frK l false = l := (rfl)
@[go_sem] theorem jf (i : Nat) (d : D) (r : List D) : bk H keep i (d :: r) = frK (cm H 8 d) (sF i keep) ++ bk H keep (i + 1) r := by
 simp only[bk,qm]
 cases sF i keep<;>rfl
@[go_sem] theorem N4 (H : ab) : pins H [] = H := (rfl)
@[go_sem] theorem Ld (H : ab) (i : Nat) (r : List Nat) : pins H (i :: r) = pins (H.modify i ua) r := (rfl)
def vG(i:Nat):Option Obj→ab
 | some (.arr sz _ ep es)=>H.set i (.arr sz true ep es)
 | _=>H
@[go_sem] theorem Le (i : Nat) (cs : List D) : vG H i (some (.box cs)) = H := (rfl)
@[go_sem] theorem Lf (i sz ep : Nat) (pin : Bool) (es : List D) : vG H i (some (.arr sz pin ep es)) = H.set i (.arr sz true ep es) := (rfl)
theorem Al{α:Type}{l:List α}{i:Nat}{x:α}(h:l[i]?=some x):l.set i x=l:=by
 apply List.ext_getElem?
 intro j
 rw[List.getElem?_set]
 split
 · rename_i e;subst e
   split
   · exact h.symm
   · rename_i hl;rw[List.getElem?_eq_none (by omega)]at h;cases h
 · rfl
@[go_sem] theorem HN (i : Nat) : List.modify H i ua = vG H i H[i]? := by
 apply List.ext_getElem?
 intro j
 rw[List.getElem?_modify]
 cases h:H[i]? with
 | none=>
   simp only[vG]
   by_cases e:i=j
   · subst e;rw[h];simp
   · simp[e]
 | some o=>
   have hi:i<H.length:=(List.getElem?_eq_some_iff.1 h).1
   cases o with
   | box cs=>
     simp only[vG]
     by_cases e:i=j
     · subst e;rw[h];simp[ua]
     · simp[e]
   | arr sz pin ep es=>
     simp only[vG]
     rw[List.getElem?_set]
     by_cases e:i=j
     · subst e;rw[h];simp[ua,hi]
     · simp[e]
section
variable (n : Nat)
@[go_sem] theorem TO (x : T) : ids n (.t x) = [] := by cases n <;> rfl
@[go_sem] theorem QP : ids n .nil = [] := by cases n <;> rfl
@[go_sem] theorem N5 : ids n .nilp = [] := by cases n <;> rfl
@[go_sem] theorem QQ : ids n .und = [] := by cases n <;> rfl
@[go_sem] theorem SA (cs : List T) : ids n (.ep cs) = [] := by cases n <;> rfl
@[go_sem] theorem Lg (id off : Nat) : ids n (.bp id off) = [id] := by cases n <;> rfl
@[go_sem] theorem SB (id ep m i off : Nat) : ids n (.ap id ep m i off) = [id] := by cases n <;> rfl
@[go_sem] theorem QR (id ep m : Nat) : ids n (.ref id ep m) = [id] := by cases n <;> rfl
@[go_sem] theorem QS (id ep m lo hi : Nat) : ids n (.sub id ep m lo hi) = [id] := by cases n <;> rfl
@[go_sem] theorem QT (cs : List D) : ids (n + 1) (.agg cs) = oG n cs := (rfl)
@[go_sem] theorem QU (cs : List D) : ids (n + 1) (.tup cs) = oG n cs := (rfl)
@[go_sem] theorem Lh (f : Nat) (cs : List D) : ids (n + 1) (.fn f cs) = oG n cs := (rfl)
@[go_sem] theorem Am : oG n [] = [] := (rfl)
@[go_sem] theorem xJ (d : D) (r : List D) : oG n (d :: r) = ids n d ++ oG n r := (rfl)
@[go_sem] theorem uJ (ts : List T) : oG n (ts.map .t) = [] := xE ts n
@[go_sem] theorem uK (a b : List D) : oG n (a ++ b) = oG n a ++ oG n b := by simp [oG]
@[go_sem] theorem N6 (m : Nat) (x : T) : oG n (List.replicate m (.t x)) = [] := by
 have:List.replicate m (D.t x)=(List.replicate m x).map .t:=by simp
 rw[this,uJ]
end
def xK(sel:List Nat)(i:Nat):Bool→List Nat
 | true=>sel
 | false=>sel++[i]
@[go_sem] theorem N7 (sel : List Nat) (i : Nat) : xK sel i true = sel := (rfl)
@[go_sem] theorem N8 (sel : List Nat) (i : Nat) : xK sel i false = sel ++ [i] := (rfl)
@[go_sem] theorem HO (sel : List Nat) : cr sel [] = sel := (rfl)
@[go_sem] theorem En (sel : List Nat) (i : Nat) (r : List Nat) : cr sel (i :: r) = cr (xK sel i (sF i sel)) r := by
 simp only[cr,qm]
 cases sF i sel<;>rfl
def uL:Option Obj→List Nat
 | some (.box cs)=>oG 8 cs
 | some (.arr _ _ _ es)=>oG 8 es
 | none=>[]
@[go_sem] theorem HP (cs : List D) : uL (some (.box cs)) = oG 8 cs := (rfl)
@[go_sem] theorem HQ (sz ep : Nat) (pin : Bool) (es : List D) : uL (some (.arr sz pin ep es)) = oG 8 es := (rfl)
@[go_sem] theorem Li : i5 H [] = [] := (rfl)
@[go_sem] theorem HR (i : Nat) (r : List Nat) : i5 H (i :: r) = uL H[i]? ++ i5 H r := by
 simp only[i5,List.flatMap_cons]
 congr 1
 cases H[i]? with
 | none=>rfl
 | some o=>cases o<;>rfl
@[go_sem] theorem QV (sel : List Nat) : reach H 0 sel = sel := (rfl)
@[go_sem] theorem QW (n : Nat) (sel : List Nat) : reach H (n + 1) sel = reach H n (cr sel (i5 H sel)) := (rfl)
@[go_sem] theorem N9 : pick H [] = some [] := (rfl)
def Lj(r:List Nat)(o:Obj):Option ab:=eY o (pick H r)
@[go_sem] theorem An (r : List Nat) (o : Obj) : Lj H r o = eY o (pick H r) := (rfl)
@[go_sem] theorem xL (i : Nat) (r : List Nat) : pick H (i :: r) = H[i]?.bind (Lj H r) := (rfl)
end
section
variable (f : Nat → Option Nat) (n : Nat)
@[go_sem] theorem QX (x : T) : ren f n (.t x) = some (.t x) := by cases n <;> rfl
@[go_sem] theorem QY : ren f n .nil = some .nil := by cases n <;> rfl
@[go_sem] theorem Oa : ren f n .nilp = some .nilp := by cases n <;> rfl
@[go_sem] theorem QZ : ren f n .und = some .und := by cases n <;> rfl
@[go_sem] theorem SC (cs : List T) : ren f n (.ep cs) = some (.ep cs) := by cases n <;> rfl
def SD(off:Nat)(i:Nat):D:= .bp i off
@[go_sem] theorem Q0 (off i : Nat) : SD off i = .bp i off := (rfl)
@[go_sem] theorem Lk (id off : Nat) : ren f n (.bp id off) = (f id).map (SD off) := by cases n <;> rfl
def SE(ep m i off:Nat)(j:Nat):D:= .ap j ep m i off
@[go_sem] theorem Q1 (ep m i off j : Nat) : SE ep m i off j = .ap j ep m i off := (rfl)
@[go_sem] theorem SF (id ep m i off : Nat) : ren f n (.ap id ep m i off) = (f id).map (SE ep m i off) := by cases n <;> rfl
def Ll(ep m:Nat)(j:Nat):D:= .ref j ep m
@[go_sem] theorem Ob (ep m j : Nat) : Ll ep m j = .ref j ep m := (rfl)
@[go_sem] theorem Q2 (id ep m : Nat) : ren f n (.ref id ep m) = (f id).map (Ll ep m) := by cases n <;> rfl
def Lm(ep m lo hi:Nat)(j:Nat):D:= .sub j ep m lo hi
@[go_sem] theorem Oc (ep m lo hi j : Nat) : Lm ep m lo hi j = .sub j ep m lo hi := (rfl)
@[go_sem] theorem Q3 (id ep m lo hi : Nat) : ren f n (.sub id ep m lo hi) = (f id).map (Lm ep m lo hi) := by cases n <;> rfl
@[go_sem] theorem Ln (g : Nat) (cs : List D) : ren f (n + 1) (.fn g cs) = (aZ (ren f n) cs).map (.fn g) := (rfl)
@[go_sem] theorem Q4 (cs : List D) : ren f (n + 1) (.agg cs) = (aZ (ren f n) cs).map .agg := (rfl)
@[go_sem] theorem Q5 (cs : List D) : ren f (n + 1) (.tup cs) = (aZ (ren f n) cs).map .tup := (rfl)
@[go_sem] theorem jK (ts : List T) : aZ (ren f n) (ts.map .t) = some (ts.map .t) := by
 induction ts with
 | nil=>rfl
 | cons t ts ih=>rw[List.map_cons,rB,QX,Option.bind_some,DM,ih];rfl
@[go_sem] theorem BH (m : Nat) (x : T) : aZ (ren f n) (List.replicate m (.t x)) = some (List.replicate m (.t x)) := by
 have:List.replicate m (D.t x)=(List.replicate m x).map .t:=by simp
 rw[this,jK]
@[go_sem] theorem vH (cs : List D) : dj f (.box cs) = (aZ (ren f 8) cs).map .box := (rfl)
@[go_sem] theorem HT (sz ep : Nat) (pin : Bool) (es : List D) : dj f (.arr sz pin ep es) = (aZ (ren f 8) es).map (.arr sz pin ep) := (rfl)
end
def HU(x:Option Nat):Bool→Option Nat
 | true=>some 0
 | false=>x.map (· +1)
@[go_sem] theorem SG (x : Option Nat) : HU x true = some 0 := (rfl)
@[go_sem] theorem SI (k : Nat) : HU (some k) false = some (k + 1) := (rfl)
@[go_sem] theorem SJ : HU none false = none := (rfl)
@[go_sem] theorem idxOf_nil (i : Nat) : idxOf [] i = none := (rfl)
@[go_sem] theorem idxOf_cons (j i : Nat) (r : List Nat) : idxOf (j :: r) i = HU (idxOf r i) (eqB j i) := by
 simp only[idxOf,tn]
 by_cases h:j=i
 · simp[h,HU]
 · simp[h,HU]
@[go_sem] theorem HV (n i : Nat) : bY [] n i = some (n + i) := by simp [bY]
@[go_sem] theorem Od (j n : Nat) (r : List Nat) : bY (j :: r) n 0 = some j := by simp [bY]
@[go_sem] theorem Oe (j n i : Nat) (r : List Nat) : bY (j :: r) n (i + 1) = bY r n i := by
 simp only[bY,List.length_cons,Nat.add_lt_add_iff_right,List.getElem?_cons_succ,Nat.add_sub_add_right]
@[go_sem] theorem Eo {α : Type} (H os : List α) : bE H [] os = H := by cases os <;> rfl
@[go_sem] theorem BI {α : Type} (H : List α) (i : Nat) (r : List Nat) (o : α) (os : List α) : bE H (i :: r) (o :: os) = bE (H.set i o) r os := (rfl)
def lbP(sz:Nat)(p:List D×ab):List D×ab:=(p.1,.arr sz false 0 []::p.2)
@[go_sem] theorem SK (sz : Nat) (cs : List D) (os : ab) : lbP sz (cs, os) = (cs, .arr sz false 0 [] :: os) := (rfl)
def lbC(base:Nat)(cs:List D)(off sz:Nat)(r:List (Nat×Nat)):Option D→List D×ab
 | some .nil=>lbP sz (aT (base+1) (cs.set off (.ref base 0 0)) r)
 | _=>aT base cs r
@[go_sem] theorem Q6 (base : Nat) (cs : List D) (off sz : Nat) (r : List (Nat × Nat)) : lbC base cs off sz r (some .nil) = lbP sz (aT (base + 1) (cs.set off (.ref base 0 0)) r) := (rfl)
@[go_sem] theorem TP (base : Nat) (cs : List D) (off sz : Nat) (r : List (Nat × Nat)) (x : T) : lbC base cs off sz r (some (.t x)) = aT base cs r := (rfl)
@[go_sem] theorem Q7 (base : Nat) (cs : List D) (off sz : Nat) (r : List (Nat × Nat)) (a b c : Nat) : lbC base cs off sz r (some (.ref a b c)) = aT base cs r := (rfl)
@[go_sem] theorem BJ (base : Nat) (cs : List D) (off sz : Nat) (r : List (Nat × Nat)) : aT base cs ((off, sz) :: r) = lbC base cs off sz r cs[off]? := by
 simp only[aT,lbC]
 split<;>split<;>simp_all [lbP]
def lvP(H:ab)(id:Nat)(p:List D×ab):Option (D×ab):=some (.tup [],H.set id (.box p.1)++p.2)
@[go_sem] theorem SL (H : ab) (id : Nat) (cs : List D) (os : ab) : lvP H id (cs, os) = some (.tup [], H.set id (.box cs) ++ os) := (rfl)
def lvB(H:ab)(id:Nat)(l:List (Nat×Nat)):Option Obj→Option (D×ab)
 | some (.box cs)=>lvP H id (aT H.length cs l)
 | _=>none
@[go_sem] theorem SM (H : ab) (id : Nat) (l : List (Nat × Nat)) (cs : List D) : lvB H id l (some (.box cs)) = lvP H id (aT H.length cs l) := (rfl)
@[go_sem] theorem Ep (H : ab) (id : Nat) (x : Nat × Nat) (r : List (Nat × Nat)) : pN H id (x :: r) = lvB H id (x :: r) H[id]? := by
 simp only[pN,iu]
 generalize H[id]?=o
 rcases o with _ | (cs | _)
 · rfl
 · rfl
 · rfl
section
variable (H : ab)
def klE(n:Nat)(sel new:List Nat)(os:ab)(q:List Nat×ab):Option (List Nat×ab):=some (new++q.1,os++q.2)
@[go_sem] theorem SN (n : Nat) (sel new : List Nat) (os : ab) (a : List Nat) (b : ab) : klE n sel new os (a, b) = some (new ++ a, os ++ b) := (rfl)
def klD(n:Nat)(sel new:List Nat)(os:ab):Option (List Nat×ab):=(gu H n (sel++new) (i5 H new)).bind (klE n sel new os)
@[go_sem] theorem SO (n : Nat) (sel new : List Nat) (os : ab) : klD H n sel new os = (gu H n (sel ++ new) (i5 H new)).bind (klE n sel new os) := (rfl)
def mR(sel:List Nat):List Nat→Bool
 | []=>true
 | i::r=> !sF i sel&&mR sel r
@[go_sem] theorem HW (sel : List Nat) : mR sel [] = true := (rfl)
@[go_sem] theorem Er (sel : List Nat) (i : Nat) (r : List Nat) : mR sel (i :: r) = (!sF i sel && mR sel r) := (rfl)
theorem rG(sel l:List Nat):l.all (fun i=> !sel.contains i)=mR sel l:=by
 induction l with
 | nil=>rfl
 | cons i r ih=>rw[List.all_cons,ih,qm];rfl
def klC(n:Nat)(sel new:List Nat)(os:ab):Option (List Nat×ab):=
 (if n=0 then(if(os.flatMap fun o=>o.ds.flatMap (cm H depth)).all (fun i=> !(sel++new).contains i)then aZ (b8 H) os else none)else some os).bind (klD H n sel new)
def ly:ab→List Nat
 | []=>[]
 | .box cs::r=>jS H 8 cs++ly r
 | .arr _ _ _ es::r=>jS H 8 es++ly r
@[go_sem] theorem HX : ly H [] = [] := (rfl)
@[go_sem] theorem HY (cs : List D) (r : ab) : ly H (.box cs :: r) = jS H 8 cs ++ ly H r := (rfl)
@[go_sem] theorem HZ (sz ep : Nat) (pin : Bool) (es : List D) (r : ab) : ly H (.arr sz pin ep es :: r) = jS H 8 es ++ ly H r := (rfl)
theorem xM(os:ab):(os.flatMap fun o=>o.ds.flatMap (cm H depth))=ly H os:=by
 induction os with
 | nil=>rfl
 | cons o r ih=>rw[List.flatMap_cons,ih];cases o<;>rfl
@[go_sem] theorem TQ (sel new : List Nat) (os : ab) : klC H 0 sel new os = (if mR (sel ++ new) (ly H os) = true then aZ (b8 H) os else none).bind (klD H 0 sel new) := by
 simp only[klC,xM,rG,if_true]
@[go_sem] theorem TR (n : Nat) (sel new : List Nat) (os : ab) : klC H (n + 1) sel new os = klD H (n + 1) sel new os := by
 simp[klC]
def klN(n:Nat)(sel new:List Nat):Option (List Nat×ab):=(pick H new).bind (klC H n sel new)
@[go_sem] theorem SP (n : Nat) (sel new : List Nat) : klN H n sel new = (pick H new).bind (klC H n sel new) := (rfl)
@[go_sem] theorem Of (sel front : List Nat) : gu H 0 sel front = some ([], []) := (rfl)
@[go_sem] theorem Og (n : Nat) (sel front : List Nat) : gu H (n + 1) sel front = klN H n sel ((cr sel front).drop sel.length) := by
 simp only[gu,klN]
 generalize (cr sel front).drop sel.length=new
 cases pick H new with
 | none=>rfl
 | some os=>
   simp only[Option.bind_some,klC]
   congr 1
   funext os'
   simp only[klD]
   cases gu H n (sel++new) (i5 H new)<;>rfl
@[go_sem] theorem Ao (cs : List D) : b8 H (.box cs) = (aZ (ke H) cs).map .box := (rfl)
@[go_sem] theorem qn (sz ep : Nat) (pin : Bool) (ts : List T) : b8 H (.arr sz pin ep (ts.map .t)) = some (.arr sz pin ep (ts.map .t)) := by
 simp only[b8,lx,Option.map_some]
@[go_sem] theorem Aq (sz ep : Nat) (pin : Bool) : b8 H (.arr sz pin ep []) = some (.arr sz pin ep []) := (rfl)
@[go_sem] theorem Ar (sz ep : Nat) (pin : Bool) (m : Nat) (x : T) : b8 H (.arr sz pin ep (List.replicate m (.t x))) = some (.arr sz pin ep (List.replicate m (.t x))) := by
 have:List.replicate m (D.t x)=(List.replicate m x).map .t:=by simp
 rw[this,qn]
def Q8(k raw:Nat)(H:ab)(ds rs:List D)(q:List Nat×ab):Option (D×ab):=
 if mR (List.range k++q.1) (eh H raw ds)=true then
  (aZ (ren (idxOf (List.range k++q.1)) depth) rs).bind fun rs'=>(aZ (dj (idxOf (List.range k++q.1))) (H.take k++q.2)).map fun hs'=>(m9 rs',hs')
 else none
def xN(sel:List Nat)(H2:ab)(rs':List D):Option (D×ab):=(aZ (dj (idxOf sel)) H2).bind (finT3 rs')
where finT3 (rs':List D) (hs:ab):Option (D×ab):=some (m9 rs',hs)
@[go_sem] theorem Oh (rs' : List D) (hs : ab) : xN.finT3 rs' hs = some (m9 rs', hs) := (rfl)
@[go_sem] theorem Oi (sel : List Nat) (H2 : ab) (rs' : List D) : xN sel H2 rs' = (aZ (dj (idxOf sel)) H2).bind (xN.finT3 rs') := (rfl)
@[go_sem] theorem Q9 (k raw : Nat) (ds rs : List D) (sel : List Nat) (os : ab) : Q8 k raw H ds rs (sel, os) =
 if mR (List.range k++sel) (eh H raw ds)=true then(aZ (ren (idxOf (List.range k++sel)) 8) rs).bind (xN (List.range k++sel) (H.take k++os))else none:=by
 simp only[Q8,depth]
 split
 · cases aZ (ren (idxOf (List.range k++sel)) 8) rs with
   | none=>rfl
   | some rs'=>simp only[Option.bind_some,xN];cases aZ (dj (idxOf (List.range k++sel))) (H.take k++os)<;>rfl
 · rfl
@[go_sem] theorem Ra (k raw : Nat) (ds rs : List D) : N0 k raw H ds rs = (gu H (max raw 1) (List.range k) (oG 8 rs ++ i5 H (List.range k))).bind (Q8 k raw H ds rs) := by
 simp only[N0,rG,oG,depth];rfl
@[go_sem] theorem H3 (k raw : Nat) (ds rs : List D) : HJ k raw H ds rs false = N0 k raw H ds rs := (rfl)
@[go_sem] theorem H4 (k raw : Nat) (ds : List D) : finish k (raw + 1) H ds = K3 k (raw + 1) H ds ds := by
 simp only[finish,Nat.add_one_ne_zero,if_false,Option.bind_some,fO,uG,K3,HJ]
 show(if(cU k 8 ds&&cu k (H.take k))=true then _ else _)=_
 cases (cU k 8 ds&&cu k (H.take k))<;>rfl
@[go_sem] theorem Es (raw : Nat) (ds : List D) : eh H (raw + 1) ds = [] := by simp [eh]
@[go_sem] theorem Oj : max 0 1 = 1 := (rfl)
@[go_sem] theorem Rb (r : Nat) : max (r + 1) 1 = r + 1 := by omega
@[go_sem] theorem H5 : List.range 0 = [] := (rfl)
@[go_sem] theorem H6 : List.range 1 = [0] := (rfl)
@[go_sem] theorem H7 : List.range 2 = [0, 1] := (rfl)
@[go_sem] theorem H8 : List.range 3 = [0, 1, 2] := (rfl)
@[go_sem] theorem H9 : List.range 4 = [0, 1, 2, 3] := (rfl)
end
theorem uM{α:Type}(f:α→T)(l:List α)(i:Nat)(x:α)(y:D)(h:y= .t (f x)):((l.map f).map D.t).set i y=((l.set i x).map f).map D.t:=by
 rw[h,List.map_map,List.map_map]
 exact(List.map_set (f:=D.t ∘ f)).symm
@[go_sem] theorem Rc (l : List Int) (i : Nat) (k : IntKind) (x : Int) : ((l.map (T.int k)).map D.t).set i (.t (.int k x)) = ((l.set i x).map (T.int k)).map D.t := uM _ l i x _ rfl
@[go_sem] theorem Ol (l : List Bool) (i : Nat) (x : Bool) : ((l.map T.bool).map D.t).set i (.t (.bool x)) = ((l.set i x).map T.bool).map D.t := uM _ l i x _ rfl
end Go.Ev
namespace Go.Ev
class Lib where
 fs:Nat→Option Fn
end Go.Ev
namespace Go.Ev.K
abbrev u(x:O):R:={ o:=x}
abbrev w(n:Nat)(x:O):R:={ o:=x,d:=some n}
abbrev y(n:Nat)(b:Bool)(x:O):R:={ o:=x,g:=some (n,b)}
abbrev m(x:X):R:={ o:= .mv x}
abbrev g(x:X):R:={ o:= .ld x 1 false}
abbrev h(n:Nat)(x:X):R:={ o:= .ld x n true}
abbrev f(n:Nat)(x:X):R:={ o:= .fa x n}
abbrev a(n:Nat)(x z:X):R:={ o:= .ia x z n}
abbrev l0:X:= .l 0
abbrev l1:X:= .l 1
abbrev l2:X:= .l 2
abbrev l3:X:= .l 3
abbrev l4:X:= .l 4
abbrev l5:X:= .l 5
abbrev l6:X:= .l 6
abbrev l7:X:= .l 7
abbrev l8:X:= .l 8
abbrev l9:X:= .l 9
abbrev l10:X:= .l 10
abbrev l11:X:= .l 11
abbrev v0:X:= .v 0
abbrev v1:X:= .v 1
abbrev v2:X:= .v 2
abbrev v3:X:= .v 3
abbrev v4:X:= .v 4
abbrev v5:X:= .v 5
abbrev v6:X:= .v 6
abbrev v7:X:= .v 7
abbrev v8:X:= .v 8
abbrev v9:X:= .v 9
abbrev v10:X:= .v 10
abbrev v11:X:= .v 11
abbrev v12:X:= .v 12
abbrev v13:X:= .v 13
abbrev v14:X:= .v 14
abbrev v15:X:= .v 15
abbrev v16:X:= .v 16
abbrev v17:X:= .v 17
abbrev v18:X:= .v 18
abbrev v19:X:= .v 19
abbrev v20:X:= .v 20
abbrev v21:X:= .v 21
abbrev v22:X:= .v 22
abbrev v23:X:= .v 23
end Go.Ev.K
namespace Go.Ev.N
def tq:Nat:=0
def dn:Nat:=1
def Et:Nat:=2
def dY:Nat:=3
def bh:Nat:=4
def Ia:Nat:=5
def wC:Nat:=6
def xO:Nat:=7
def wD:Nat:=8
def az:Nat:=9
def aW:Nat:=10
def vI:Nat:=11
def dZ:Nat:=12
def y6:Nat:=13
def xP:Nat:=14
def a8:Nat:=15
def bw:Nat:=16
def Eu:Nat:=17
def BK:Nat:=18
def Ew:Nat:=19
def y7:Nat:=20
def Lo:Nat:=21
def BL:Nat:=22
def dC:Nat:=23
def BM:Nat:=24
def xQ:Nat:=25
def y8:Nat:=26
def y9:Nat:=27
def cJ:Nat:=28
def Ey:Nat:=29
def ec:Nat:=30
def Ez:Nat:=31
def Ib:Nat:=32
def EA:Nat:=33
def BN:Nat:=34
def BO:Nat:=35
def EB:Nat:=36
def Ic:Nat:=37
def EC:Nat:=38
def xR:Nat:=39
def Ie:Nat:=40
def ED:Nat:=41
def Ig:Nat:=42
def EE:Nat:=43
def BP:Nat:=44
def Lp:Nat:=45
def BQ:Nat:=46
def EF:Nat:=47
def za:Nat:=48
def av:Nat:=49
def vJ:Nat:=50
def aN:Nat:=51
def wE:Nat:=52
def zb:Nat:=53
def cV:Nat:=54
def Ih:Nat:=55
def BR:Nat:=56
def EG:Nat:=57
def EH:Nat:=58
def Ii:Nat:=59
def EI:Nat:=60
def Ij:Nat:=61
def aQ:Nat:=62
def Ik:Nat:=63
def EJ:Nat:=64
def EK:Nat:=65
def aE:Nat:=66
def a7:Nat:=67
def wF:Nat:=68
def jg:Nat:=69
def uN:Nat:=70
def ba:Nat:=71
def EL:Nat:=72
def EM:Nat:=73
def Il:Nat:=74
def jZ:Nat:=75
def BS:Nat:=76
def Im:Nat:=77
end Go.Ev.N
namespace Go.Ev.K
open Go.Ev
def dn:Fn:={ nargs:=1,vars:=[0,2],body:=(.seq (.reg [w 1 (.mv (.b false))] []) (.seq (.reg [m v0,u (.ln l0),u (.bin .leq l0 (.i 400)),w 1 (.mv l0)] []) .ret)),res:=[(1,none)]}
def dY:Fn:={ nargs:=1,vars:=[0,2],body:=(.seq (.reg [w 1 (.mv (.c (.nilp)))] []) (.seq (.reg [m v0,u (.bd [.nil,.t (.int .i64 (0))] [(0,1,.l 0)]),u (.bx l0 2),w 1 (.mv l0)] []) .ret)),res:=[(1,none)]}
def dD:C:=(.seq (.ite [m v4,m v3,u (.bin .lss l1 l0)] [] 0 .skip (.exit 0)) (.seq (.blk 1 (.reg [f 0 v2,g l0,m v0,u (.ca N.az 0 [] [.l 0,.i 4]),u (.bin .mul (.i (-10)) l0),m v4,u (.bin .eql l0 (.i 0)),m l0,y 0 false (.mv v0),y 1 false (.ca N.a8 0 [] [.l 0,.i 6]),u (.pk l2 (.b true) l0),u (.bd [.t (.int .i64 (0)),.t (.bool false)] [(0,1,.l 6),(1,1,.l 0)]),u (.bs [.l 0] 2),u (.app l11 l0 true 2),f 0 v2,u (.st l0 l1 1 [])] [(1,4),(1,10),(1,13)])) (.reg [m v4,u (.bin .add l0 (.i 1)),w 4 (.mv l0)] [])))
def gW:C:= .loop true [5,6,7,8,9] K.dD
def eH:C:=(.seq (.ite [m v6,m v3,u (.bin .lss l1 l0)] [] 0 .skip (.exit 2)) (.seq (.blk 3 (.seq (.reg [h 10 v5,w 7 (.al [.t (.int .i64 (0)),.t (.int .i64 (0)),.t (.int .i64 (0)),.t (.int .i64 (0)),.t (.bool false),.t (.bool false),.t (.int .i64 (0)),.t (.int .i64 (0)),.t (.int .i64 (0)),.t (.int .i64 (0))] []),u (.st l0 l1 10 [])] []) (.seq (.reg [m v6,u (.bin .sub l0 (.i 1)),m v0,m v6,u (.mn [.l 0,.i 2]),u (.ca N.az 0 [] [.l 2,.l 0]),u (.bin .sub l4 l0),m v6,m v0,u (.bs [.i 11,.i 59,.i 119,.i 4] 1),u (.ca N.aW 0 [] [.l 1,.l 0]),u (.bin .add (.i 1) l0),m v0,u (.bs [.i 9,.i 3,.i 19] 1),u (.ca N.aW 0 [] [.l 1,.l 0]),u (.bin .add (.i 1) l0),f 0 v7,u (.st l0 l10 1 []),f 1 v7,u (.st l0 l11 1 []),f 2 v7,u (.st l0 l9 1 []),f 3 v7,u (.st l0 l7 1 [])] []) (.reg [f 1 v2,g l0,h 10 v7,u (.bs [.l 0] 10),u (.app l2 l0 true 10),f 1 v2,u (.st l0 l1 1 [])] [])))) (.reg [m v6,u (.bin .add l0 (.i 1)),w 6 (.mv l0)] [])))
def gX:C:= .loop true [4,7,8,9] K.eH
def bK:C:=(.seq (.ite [m v8,u (.bin .gtr l0 (.i 0)),m l0,y 0 true (.fa v2 1),y 1 true (.ld l0 1 false),y 2 true (.ln l0),y 3 true (.bin .lss l0 (.i 10)),u (.pk l4 l0 (.b false))] [] 0 .skip (.exit 4)) (.seq (.blk 5 (.seq (.reg [h 10 v5,w 9 (.al [.t (.int .i64 (0)),.t (.int .i64 (0)),.t (.int .i64 (0)),.t (.int .i64 (0)),.t (.bool false),.t (.bool false),.t (.int .i64 (0)),.t (.int .i64 (0)),.t (.int .i64 (0)),.t (.int .i64 (0))] []),u (.st l0 l1 10 [])] []) (.seq (.reg [m v0,m v3,u (.ca N.az 0 [] [.l 1,.l 0]),m v0,m v3,u (.ca N.az 0 [] [.l 1,.l 0]),m v0,u (.bs [.i 11,.i 59,.i 199] 1),u (.ca N.aW 0 [] [.l 1,.l 0]),u (.bin .add (.i 1) l0),m v0,u (.bs [.i 9,.i 3] 1),u (.ca N.aW 0 [] [.l 1,.l 0]),u (.bin .add (.i 1) l0),f 0 v9,u (.st l0 (.l 12) 1 []),f 1 v9,u (.st l0 l11 1 []),f 2 v9,u (.st l0 l9 1 []),f 3 v9,u (.st l0 l7 1 [])] []) (.seq (.reg [m v0,u (.ca N.az 0 [] [.l 0,.i 5]),u (.bin .gtr l0 (.i 0)),m v0,u (.ca N.a8 0 [] [.l 0,.i 6]),f 4 v9,u (.st l0 l3 1 []),f 5 v9,u (.st l0 l3 1 [])] []) (.ite [f 0 v9,g l0,f 1 v9,g l0,u (.bin .neq l2 l0)] [] 0 (.reg [f 1 v2,g l0,h 10 v9,u (.bs [.l 0] 10),u (.app l2 l0 true 10),f 1 v2,u (.st l0 l1 1 [])] []) .skip))))) (.reg [m v8,u (.bin .sub l0 (.i 1)),w 8 (.mv l0)] [])))
def gY:C:= .loop true [4,6,7,9] K.bK
def bh:Fn:={ nargs:=1,vars:=[0,2,3,4,5,6,7,8,9,10],body:=(.seq (.reg [w 1 (.al [.nil,.nil] [])] []) (.seq (.reg [w 2 (.al [.nil,.nil] [(0,2),(1,10)])] []) (.seq (.reg [m v0,u (.ca N.az 0 [] [.l 0,.i 6]),u (.bin .add (.i 2) l0),w 3 (.mv l0)] []) (.seq (.ite [m v0,u (.nc l0),f 0 l0,g l0,u (.ln l0),u (.bin .eql l0 (.i 0))] [] 0 (.reg [w 3 (.mv (.i 4))] []) .skip) (.seq (.seq (.reg [w 4 (.mv (.i 0))] []) (.blk 0 K.gW)) (.seq (.reg [u (.bd [.t (.int .i64 (0)),.t (.int .i64 (0))] [(0,1,.i 1),(1,1,.i 1)]),u (.bd [.t (.int .i64 (0)),.t (.int .i64 (0)),.t (.int .i64 (0)),.t (.int .i64 (0)),.t (.bool false),.t (.bool false),.t (.int .i64 (0)),.t (.int .i64 (0)),.t (.int .i64 (0)),.t (.int .i64 (0))] [(2,1,.i 12),(3,1,.i 10),(4,1,.b true),(6,2,.l 0)]),w 5 (.al [.t (.int .i64 (0)),.t (.int .i64 (0)),.t (.int .i64 (0)),.t (.int .i64 (0)),.t (.bool false),.t (.bool false),.t (.int .i64 (0)),.t (.int .i64 (0)),.t (.int .i64 (0)),.t (.int .i64 (0))] []),u (.st l0 l1 10 [])] []) (.seq (.seq (.reg [w 6 (.mv (.i 1))] []) (.blk 2 K.gX)) (.seq (.seq (.reg [m v0,u (.ca N.az 0 [] [.l 0,.i 4]),w 8 (.mv l0)] []) (.blk 4 K.gY)) (.seq (.reg [h 2 v2,u (.st v1 l0 2 [])] []) .ret))))))))),res:=[(1,some (2,true))]}
def az:Fn:={ nargs:=2,vars:=[0,1,4],body:=(.seq (.reg [w 2 (.mv (.i 0))] []) (.seq (.ite [m v0,u (.nc l0),f 1 l0,g l0,m v0,u (.nc l0),f 0 l0,g l0,u (.ln l0),u (.bin .geq l5 l0)] [] 0 (.seq (.reg [w 2 (.mv (.i 0))] []) .ret) .skip) (.seq (.reg [m v0,u (.nc l0),f 1 l0,g l0,u (.bin .add l0 (.i 1)),u (.nc l4),f 1 l0,u (.st l0 l2 1 [])] []) (.seq (.reg [m v0,u (.nc l0),f 0 l0,g l0,m v0,u (.nc l0),f 1 l0,g l0,u (.bin .sub l0 (.i 1)),a 1 l5 l0,g l0,m v1,u (.ca N.dC 0 [] [.l 1,.l 0]),w 2 (.mv l0)] []) .ret)))),res:=[(2,none)]}
def aW:Fn:={ nargs:=2,vars:=[0,1,4],body:=(.seq (.reg [w 2 (.mv (.i 0))] []) (.seq (.reg [m v1,m v0,m v1,u (.ln l0),u (.ca N.az 0 [] [.l 2,.l 0]),a 1 l4 l0,g l0,w 2 (.mv l0)] []) .ret)),res:=[(2,none)]}
def fL:C:=(.seq (.ite [m v3,m v0,u (.ln l0),u (.bin .lss l2 l0)] [] 0 .skip (.exit 0)) (.seq (.blk 1 (.ite [m v0,m v3,a 1 l1 l0,g l0,m v1,u (.bin .eql l1 l0)] [] 0 (.seq (.reg [w 2 (.mv (.b true))] []) .ret) .skip)) (.reg [m v3,u (.bin .add l0 (.i 1)),w 3 (.mv l0)] [])))
def mS:C:= .loop true [2] K.fL
def dZ:Fn:={ nargs:=2,vars:=[0,1,4,5],body:=(.seq (.reg [w 2 (.mv (.b false))] []) (.seq (.seq (.reg [w 3 (.mv (.i 0))] []) (.blk 0 K.mS)) (.seq (.reg [w 2 (.mv (.b false))] []) .ret))),res:=[(2,none)]}
def a8:Fn:={ nargs:=2,vars:=[0,1,4],body:=(.seq (.reg [w 2 (.mv (.b false))] []) (.seq (.reg [m v0,m v1,u (.ca N.az 0 [] [.l 1,.l 0]),m v1,u (.bin .sub l0 (.i 1)),u (.bin .eql l2 l0),w 2 (.mv l0)] []) .ret)),res:=[(2,none)]}
def dE:C:=(.seq (.ite [m v4,m v1,u (.bin .lss l1 l0)] [] 0 .skip (.exit 0)) (.seq (.blk 1 (.ite [m v0,u (.ca N.az 0 [] [.l 0,.i 3]),u (.bin .eql l0 (.i 0))] [] 0 (.reg [m v3,m v4,u (.bs [.l 0] 1),u (.app l2 l0 true 1),w 3 (.mv l0)] []) .skip)) (.reg [m v4,u (.bin .add l0 (.i 1)),w 4 (.mv l0)] [])))
def gZ:C:= .loop true [2] K.dE
def bw:Fn:={ nargs:=2,vars:=[0,1,4,5,6],body:=(.seq (.reg [w 2 (.mv (.c (.nil)))] []) (.seq (.reg [w 3 (.nw 1)] []) (.seq (.seq (.reg [w 4 (.mv (.i 0))] []) (.blk 0 K.gZ)) (.seq (.reg [m v3,w 2 (.mv l0)] []) .ret)))),res:=[(2,none)]}
def dC:Fn:={ nargs:=2,vars:=[0,1,4],body:=(.seq (.reg [w 2 (.mv (.i 0))] []) (.seq (.ite [m v1,u (.bin .lss l0 (.i 1))] [] 0 (.seq (.reg [w 2 (.mv (.i 0))] []) .ret) .skip) (.seq (.reg [m v0,m v1,u (.bin .rem l1 l0),w 0 (.mv l0)] []) (.seq (.ite [m v0,u (.bin .lss l0 (.i 0))] [] 0 (.reg [m v0,m v1,u (.bin .add l1 l0),w 0 (.mv l0)] []) .skip) (.seq (.reg [m v0,w 2 (.mv l0)] []) .ret))))),res:=[(2,none)]}
def fU:C:=(.seq (.ite [m v3,f 0 v1,g l0,u (.ln l0),u (.bin .lss l3 l0)] [] 0 .skip (.exit 0)) (.seq (.blk 1 (.seq (.reg [f 0 v1,g l0,m v3,a 2 l1 l0,f 0 l0,g l0,w 4 (.mv l0)] []) (.ite [m v4,u (.bin .lss l0 (.i (-10000))),m l0,y 0 false (.mv v4),y 1 false (.bin .gtr l0 (.i 10000)),u (.pk l2 (.b true) l0)] [] 0 (.seq (.reg [w 2 (.mv (.i 1))] []) .ret) .skip))) (.reg [m v3,u (.bin .add l0 (.i 1)),w 3 (.mv l0)] [])))
def j3:C:= .loop true [0,2,4,5,6] K.fU
def fV:C:=(.seq (.ite [m v5,f 1 v1,g l0,u (.ln l0),u (.bin .lss l3 l0)] [] 0 .skip (.exit 2)) (.seq (.blk 3 (.seq (.reg [f 1 v1,g l0,m v5,a 10 l1 l0,h 10 l0,w 6 (.al [.t (.int .i64 (0)),.t (.int .i64 (0)),.t (.int .i64 (0)),.t (.int .i64 (0)),.t (.bool false),.t (.bool false),.t (.int .i64 (0)),.t (.int .i64 (0)),.t (.int .i64 (0)),.t (.int .i64 (0))] []),u (.st l0 l1 10 [])] []) (.seq (.ite [f 0 v6,g l0,u (.bin .lss l0 (.i 0)),m l0,y 0 false (.fa v6 0),y 1 false (.ld l0 1 false),y 2 false (.fa v1 0),y 3 false (.ld l0 1 false),y 4 false (.ln l0),y 5 false (.bin .geq l3 l0),u (.pk l6 (.b true) l0),m l0,y 0 false (.fa v6 1),y 1 false (.ld l0 1 false),y 2 false (.bin .lss l0 (.i 0)),u (.pk l3 (.b true) l0),m l0,y 0 false (.fa v6 1),y 1 false (.ld l0 1 false),y 2 false (.fa v1 0),y 3 false (.ld l0 1 false),y 4 false (.ln l0),y 5 false (.bin .geq l3 l0),u (.pk l6 (.b true) l0),m l0,y 0 false (.fa v6 0),y 1 false (.ld l0 1 false),y 2 false (.fa v6 1),y 3 false (.ld l0 1 false),y 4 false (.bin .eql l2 l0),u (.pk l5 (.b true) l0)] [] 0 (.seq (.reg [w 2 (.mv (.i 4))] []) .ret) .skip) (.ite [f 2 v6,g l0,u (.bin .lss l0 (.i 1)),m l0,y 0 false (.fa v6 2),y 1 false (.ld l0 1 false),y 2 false (.bin .gtr l0 (.i 100000)),u (.pk l3 (.b true) l0),m l0,y 0 false (.fa v6 3),y 1 false (.ld l0 1 false),y 2 false (.bin .lss l0 (.i 1)),u (.pk l3 (.b true) l0),m l0,y 0 false (.fa v6 3),y 1 false (.ld l0 1 false),y 2 false (.bin .gtr l0 (.i 1000)),u (.pk l3 (.b true) l0),m l0,y 0 false (.fa v6 6),y 1 false (.ld l0 2 true),y 2 false (.ca N.cV 0 [] [.l 0,.i 1,.i 262144]),y 3 false (.un .not l0),u (.pk l4 (.b true) l0),m l0,y 0 false (.fa v6 8),y 1 false (.ld l0 2 true),y 2 false (.ca N.cV 0 [] [.l 0,.i (-2199023255552),.i 2199023255552]),y 3 false (.un .not l0),u (.pk l4 (.b true) l0)] [] 0 (.seq (.reg [w 2 (.mv (.i 1))] []) .ret) .skip)))) (.reg [m v5,u (.bin .add l0 (.i 1)),w 5 (.mv l0)] [])))
def j4:C:= .loop true [0,2,3,4,6] K.fV
def cJ:Fn:={ nargs:=1,vars:=[0,1,2,3,4,5,6],body:=(.seq (.reg [w 1 (.bx v0 2),w 2 (.mv (.i 0))] []) (.seq (.ite [f 0 v1,g l0,u (.ln l0),u (.bin .gtr l0 (.i 64)),m l0,y 0 false (.fa v1 1),y 1 false (.ld l0 1 false),y 2 false (.ln l0),y 3 false (.bin .gtr l0 (.i 128)),u (.pk l4 (.b true) l0)] [] 0 (.seq (.reg [w 2 (.mv (.i 2))] []) .ret) .skip) (.seq (.seq (.reg [w 3 (.mv (.i 0))] []) (.blk 0 K.j3)) (.seq (.seq (.reg [w 5 (.mv (.i 0))] []) (.blk 2 K.j4)) (.seq (.reg [w 2 (.mv (.i 0))] []) .ret))))),res:=[(2,none)]}
def df:C:=(.seq (.ite [m v3,m v0,u (.ln l0),u (.bin .lss l2 l0)] [] 0 .skip (.exit 0)) (.seq (.blk 1 (.ite [m v0,m v3,a 1 l1 l0,g l0,u (.bin .lss l0 (.i 0)),m l0,y 0 false (.mv v0),y 1 false (.mv v3),y 2 false (.ia l1 l0 1),y 3 false (.ld l0 1 false),y 4 false (.mv v1),y 5 false (.bin .geq l1 l0),u (.pk l6 (.b true) l0),m l0,y 0 false (.mv v3),y 1 false (.bin .gtr l0 (.i 0)),y 2 false (.mv l0),y 0 true (.mv v0),y 1 true (.mv v3),y 2 true (.ia l1 l0 1),y 3 true (.ld l0 1 false),y 4 true (.mv v0),y 5 true (.mv v3),y 6 true (.bin .sub l0 (.i 1)),y 7 true (.ia l2 l0 1),y 8 true (.ld l0 1 false),y 9 true (.bin .leq l5 l0),y 13 false (.pk l10 l0 (.b false)),u (.pk (.l 14) (.b true) l0)] [] 0 (.seq (.reg [w 2 (.mv (.b false))] []) .ret) .skip)) (.reg [m v3,u (.bin .add l0 (.i 1)),w 3 (.mv l0)] [])))
def mT:C:= .loop true [2] K.df
def ec:Fn:={ nargs:=2,vars:=[0,1,4,5],body:=(.seq (.reg [w 2 (.mv (.b false))] []) (.seq (.seq (.reg [w 3 (.mv (.i 0))] []) (.blk 0 K.mT)) (.seq (.reg [w 2 (.mv (.b true))] []) .ret))),res:=[(2,none)]}
end Go.Ev.K
namespace Go.Ev
class bq [Lib]:Prop where
 jh:Lib.fs N.dn=some K.dn
 ku:Lib.fs N.dY=some K.dY
 fp:Lib.fs N.bh=some K.bh
 fq:Lib.fs N.az=some K.az
 gD:Lib.fs N.aW=some K.aW
 kv:Lib.fs N.dZ=some K.dZ
 fW:Lib.fs N.a8=some K.a8
 ft:Lib.fs N.bw=some K.bw
 mq:Lib.fs N.dC=some K.dC
 iH:Lib.fs N.cJ=some K.cJ
 kx:Lib.fs N.ec=some K.ec
namespace K
variable [Lib] [bq]
theorem jh:Lib.fs N.dn=some K.dn:=bq.jh
theorem ku:Lib.fs N.dY=some K.dY:=bq.ku
theorem fp:Lib.fs N.bh=some K.bh:=bq.fp
theorem fq:Lib.fs N.az=some K.az:=bq.fq
theorem gD:Lib.fs N.aW=some K.aW:=bq.gD
theorem kv:Lib.fs N.dZ=some K.dZ:=bq.kv
theorem fW:Lib.fs N.a8=some K.a8:=bq.fW
theorem ft:Lib.fs N.bw=some K.bw:=bq.ft
theorem mq:Lib.fs N.dC=some K.dC:=bq.mq
theorem iH:Lib.fs N.cJ=some K.cJ:=bq.iH
theorem kx:Lib.fs N.ec=some K.ec:=bq.kx
end K
end Go.Ev
namespace Go.Ev.K
open Go.Ev
def av:Fn:={ nargs:=2,vars:=[0,1,4],body:=(.seq (.reg [w 2 (.mv (.b false))] []) (.seq (.reg [m v0,m v1,u (.ca N.aE 0 [] [.l 1,.l 0]),u (.bin .geq l0 (.i 0)),w 2 (.mv l0)] []) .ret)),res:=[(2,none)]}
def aN:Fn:={ nargs:=2,vars:=[0,1,4],body:=(.seq (.reg [w 2 (.mv (.b false))] []) (.seq (.reg [m v0,m v1,u (.ca N.a7 0 [] [.l 1,.l 0]),u (.bin .geq l0 (.i 0)),w 2 (.mv l0)] []) .ret)),res:=[(2,none)]}
def cV:Fn:={ nargs:=3,vars:=[0,1,2,3,6],body:=(.seq (.reg [w 3 (.bx v0 2),w 4 (.mv (.b false))] []) (.seq (.reg [m v1,f 0 v3,g l0,u (.bin .leq l2 l0),m l0,y 0 true (.fa v3 0),y 1 true (.ld l0 1 false),y 2 true (.fa v3 1),y 3 true (.ld l0 1 false),y 4 true (.bin .leq l2 l0),u (.pk l5 l0 (.b false)),m l0,y 0 true (.fa v3 1),y 1 true (.ld l0 1 false),y 2 true (.mv v2),y 3 true (.bin .leq l1 l0),u (.pk l4 l0 (.b false)),w 4 (.mv l0)] []) .ret)),res:=[(4,none)]}
def dF:C:=(.seq (.ite [m v3,m v0,u (.ln l0),u (.bin .lss l2 l0)] [] 0 .skip (.exit 0)) (.seq (.blk 1 (.ite [m v0,m v3,a 1 l1 l0,g l0,m v1,m v3,a 1 l1 l0,g l0,u (.bin .neq l4 l0)] [] 0 (.seq (.reg [w 2 (.mv (.b false))] []) .ret) .skip)) (.reg [m v3,u (.bin .add l0 (.i 1)),w 3 (.mv l0)] [])))
def hT:C:= .loop true [2] K.dF
def aQ:Fn:={ nargs:=2,vars:=[0,1,4,5],body:=(.seq (.reg [w 2 (.mv (.b false))] []) (.seq (.ite [m v0,u (.ln l0),m v1,u (.ln l0),u (.bin .neq l2 l0)] [] 0 (.seq (.reg [w 2 (.mv (.b false))] []) .ret) .skip) (.seq (.seq (.reg [w 3 (.mv (.i 0))] []) (.blk 0 K.hT)) (.seq (.reg [w 2 (.mv (.b true))] []) .ret)))),res:=[(2,none)]}
def bF:C:=(.its [u (.bin .lss v5 v4)] [] 0 .skip (.exit 0) (.seq (.blk 1 (.seq (.reg [m v5,w 3 (.mv l0)] []) (.ite [m v1,m v0,m v3,a 1 l1 l0,g l0,u (.cw l4 0 [] [.l 0])] [] 0 (.seq (.reg [m v3,w 2 (.mv l0)] []) .ret) .skip))) (.reg [u (.bin .add v5 (.i 1)),w 5 (.mv l0)] [])))
def dJ:C:= .loop true [2,3] K.bF
def aE:Fn:={ nargs:=2,vars:=[0,1,4,5,7,8],body:=(.seq (.reg [w 2 (.mv (.i 0))] []) (.seq (.seq (.reg [m v0,w 4 (.ln l0),w 5 (.mv (.i 0))] []) (.blk 0 K.dJ)) (.seq (.reg [w 2 (.mv (.i (-1)))] []) .ret))),res:=[(2,none)]}
def hU:C:=(.its [u (.bin .lss v5 v4)] [] 0 .skip (.exit 0) (.seq (.blk 1 (.seq (.reg [m v5,w 3 (.mv l0)] []) (.ite [m v1,m v0,m v3,a 1 l1 l0,g l0,u (.bin .eql l4 l0)] [] 0 (.seq (.reg [m v3,w 2 (.mv l0)] []) .ret) .skip))) (.reg [u (.bin .add v5 (.i 1)),w 5 (.mv l0)] [])))
def iI:C:= .loop true [2,3] K.hU
def a7:Fn:={ nargs:=2,vars:=[0,1,4,5,7,8],body:=(.seq (.reg [w 2 (.mv (.i 0))] []) (.seq (.seq (.reg [m v0,w 4 (.ln l0),w 5 (.mv (.i 0))] []) (.blk 0 K.iI)) (.seq (.reg [w 2 (.mv (.i (-1)))] []) .ret))),res:=[(2,none)]}
def ba:Fn:={ nargs:=3,vars:=[0,1,2,6],body:=(.seq (.reg [w 3 (.mv (.b false))] []) (.seq (.reg [m v0,m v1,u (.bin .geq l1 l0),m l0,y 0 true (.mv v0),y 1 true (.mv v2),y 2 true (.bin .leq l1 l0),u (.pk l3 l0 (.b false)),w 3 (.mv l0)] []) .ret)),res:=[(3,none)]}
end Go.Ev.K
namespace Go.Ev
class bu [Lib]:Prop where
 b5:Lib.fs N.av=some K.av
 ed:Lib.fs N.aN=some K.aN
 ji:Lib.fs N.cV=some K.cV
 fv:Lib.fs N.aQ=some K.aQ
 cy:Lib.fs N.aE=some K.aE
 eQ:Lib.fs N.a7=some K.a7
 mr:Lib.fs N.ba=some K.ba
namespace K
variable [Lib] [bu]
theorem b5:Lib.fs N.av=some K.av:=bu.b5
theorem ed:Lib.fs N.aN=some K.aN:=bu.ed
theorem ji:Lib.fs N.cV=some K.cV:=bu.ji
theorem fv:Lib.fs N.aQ=some K.aQ:=bu.fv
theorem cy:Lib.fs N.aE=some K.aE:=bu.cy
theorem eQ:Lib.fs N.a7=some K.a7:=bu.eQ
theorem mr:Lib.fs N.ba=some K.ba:=bu.mr
end K
end Go.Ev
namespace Go.Ev
open Go
variable [Lib]
noncomputable def br:aC:=gB Lib.fs
theorem aO{raw f:Nat}{args:List D}{H:ab}{fn:Fn}{r:D×ab}(hf:Lib.fs f=some fn)(hn:fn.nargs=args.length)
 (h:(exS br fn.body ⟨i6 args fn.vars,H⟩).bind (JU fn.res H.length raw)=some r) (h0:fn.prim=[]:=by rfl):br raw f args H=some r:=Dz hf hn h h0
theorem xS{raw f:Nat}{args:List D}{H:ab}{fn:Fn}{r:D×ab}(hf:Lib.fs f=some fn)(h0:fn.prim≠[])(h:pb fn.prim args H=some r):br raw f args H=some r:=vw hf h0 h
theorem cW{gc:Bool}{dead:List Nat}{c:C}{vs:List D}{H:ab}(s:Nat→St)(n:Nat){e:Ex}{st:St}
 (h0:(⟨eD dead vs,H⟩:St)=s 0) (h:∀j,j<n→gw gc dead (s j).H.length (exS br c (s j))=some (s (j+1)))
 (he:exS br c (s n)=some (e,st)) (hn:e≠ .normal):exS br (.loop gc dead c) ⟨vs,H⟩=some (e,st):=by
 show gA gc dead (exS br c) ⟨eD dead vs,H⟩=_
 rw[h0]
 exact qj s n h (er he hn)
theorem xT{gc:Bool}{dead:List Nat}{c:C}{vs:List D}{H:ab}{p:Ex×St}(h:gA gc dead (exS br c) ⟨eD dead vs,H⟩=some p):exS br (.loop gc dead c) ⟨vs,H⟩=some p:=h
class Dat (α:Type) where
 dflt:α
instance : Dat Int := ⟨0⟩
instance : Dat Nat := ⟨0⟩
instance : Dat Bool := ⟨false⟩
instance {α : Type} : Dat (List α) := ⟨[]⟩
def nth{α:Type} [Dat α](l:List α)(j:Nat):α:=l.getD j Dat.dflt
theorem iJ{α:Type} [Dat α]{l:List α}{j:Nat}(h:j<l.length):l[j]?=some (nth l j):=by simp[nth,h]
theorem cX{α β:Type} [Dat α](f:α→β){l:List α}{j:Nat}(h:j<l.length):(l.map f)[j]?=some (f (nth l j)):=by rw[List.getElem?_map,iJ h];rfl
theorem uO{α β γ:Type} [Dat α](f:β→γ)(g:α→β){l:List α}{j:Nat}(h:j<l.length):((l.map g).map f)[j]?=some (f (g (nth l j))):=by rw[List.getElem?_map,cX g h];rfl
theorem bG{α:Type} [Dat α]{l:List α}{j:Nat}(h:j<l.length):nth l j∈l:=List.mem_of_getElem? (iJ h)
theorem eR{α:Type} [Dat α]{l:List α}{j:Nat}{x:α}(h:l[j]?=some x):nth l j=x:=by simp[nth,h]
theorem jL{α:Type} [Dat α]{l:List α}{j:Nat}(h:j<l.length):l.take (j+1)=l.take j++[nth l j]:=by
 rw[List.take_succ_eq_append_getElem h];simp[nth,h]
theorem Re{a b:Int}(h:a<b):(a<b)=True:=by simp[h]
theorem Rf{a b:Int}(h:b≤a):(a<b)=False:=by simp[Int.not_lt.2 h]
theorem Rg{a b:Int}(h:a≤b):(a≤b)=True:=by simp[h]
theorem Rh{a b:Int}(h:b<a):(a≤b)=False:=by simp[Int.not_le.2 h]
theorem Ri{a b:Int}(h:a=b):(a=b)=True:=by simp[h]
theorem Rj{a b:Int}(h:a≠b):(a=b)=False:=by simp[h]
theorem Rk{a b:Nat}(h:a<b):(a<b)=True:=by simp[h]
theorem Rl{a b:Nat}(h:b≤a):(a<b)=False:=by simp[Nat.not_lt.2 h]
theorem Rm{a b:Nat}(h:a≤b):(a≤b)=True:=by simp[h]
theorem Rn{a b:Nat}(h:b<a):(a≤b)=False:=by simp[Nat.not_le.2 h]
theorem Ro{a b:Nat}(h:a=b):(a=b)=True:=by simp[h]
theorem Rq{a b:Nat}(h:a≠b):(a=b)=False:=by simp[h]
attribute [go_sem] Ro Rq Re Rf Rg Rh Ri Rj Rk Rl Rm Rn DA cX uO DP
@[go_sem] theorem Io (a b : Nat) : ((a + b : Nat) : Int) = (a : Int) + (b : Int) := (rfl)
@[go_sem] theorem Ip : ((1 : Nat) : Int) = 1 := (rfl)
@[go_sem] theorem EN : ((0 : Nat) : Int) = 0 := (rfl)
@[go_sem] theorem Lq (a b : Int) : a + b - b = a := Int.add_sub_cancel a b
@[go_sem] theorem BT : (0 : Int).toNat = 0 := (rfl)
@[go_sem] theorem EO (n : Nat) : (n : Int).toNat = n := (rfl)
@[go_sem] theorem EP (n : Nat) : ((n : Int) + 1).toNat = n + 1 := (rfl)
@[go_sem] theorem ER (a : Int) : 0 + a = a := Int.zero_add a
@[go_sem] theorem ES (a : Int) : a + 0 = a := Int.add_zero a
@[go_sem] theorem ET (a : Int) : a - 0 = a := Int.sub_zero a
abbrev tI(n:Int):T:= .int .i64 n
abbrev tL(l:List Int):T:= .sl (l.map (.int .i64))
@[go_sem] theorem As (H : ab) (n : Nat) (ts : List T) (x : T) : aZ (frz H n) (ts.map .t ++ [.t x]) = some (ts ++ [x]) := by
 have:ts.map D.t++[.t x]=(ts++[x]).map .t:=by simp
 rw[this,vD]
@[go_sem] theorem BU {α β : Type} (f : α → β) (a b : List α) : (a ++ b).map f = a.map f ++ b.map f := List.map_append
end Go.Ev
namespace Go.Ev
open Go
variable [Lib] [bq] [bu]
theorem fP{gc:Bool}{dead:List Nat}{c:C}{vs:List D}{H:ab}(s:Nat→St)(n:Nat)(p:Nat→Bool)(e:Nat→Ex×St)(eN:Ex×St)
 (h0:(⟨eD dead vs,H⟩:St)=s 0) (hs:∀j,j<n→p j=false→gw gc dead (s j).H.length (exS br c (s j))=some (s (j+1)))
 (he:∀j,j<n→p j=true→exS br c (s j)=some (e j)∧(e j).1≠ .normal) (hN:exS br c (s n)=some eN) (hn:eN.1≠ .normal):
 exS br (.loop gc dead c) ⟨vs,H⟩=some (match (List.range n).find? p with | some j=>e j | none=>eN):=by
 show gA gc dead (exS br c) ⟨eD dead vs,H⟩=_
 rw[h0]
 cases hf:(List.range n).find? p with
 | none=>
   refine qj s n (fun j hj=>hs j hj ?_) (er hN hn)
   have:=List.find?_eq_none.1 hf j (List.mem_range.2 hj)
   simpa using this
 | some k=>
   obtain⟨h1,as,bs,h2,h3⟩:=List.find?_eq_some_iff_append.1 hf
   have hk:k<n:=List.mem_range.1 (List.mem_of_find?_eq_some hf)
   have hlt:∀j,j<k→p j=false:=by
    intro j hj
    have hlen:as.length=k:=by
     have h4:(List.range n)[as.length]?=some k:=by rw[h2];simp
     have h5:as.length<n:=by
      have:=congrArg List.length h2;simp at this;omega
     rw[List.getElem?_range h5]at h4
     exact Option.some.inj h4
    have:j∈as:=by
     have h6:(List.range n)[j]?=some j:=List.getElem?_range (by omega)
     rw[h2,List.getElem?_append_left (by omega)]at h6
     exact List.mem_of_getElem? h6
    simpa using h3 j this
   obtain⟨k1,k2⟩:=he k hk h1
   exact qj s k (fun j hj=>hs j (by omega) (hlt j hj)) (er k1 k2)
def xU{α:Type}(f:α→α×Bool):Nat→α→α
 | 0,l=>l
 | n+1,l=>if(f l).2 then xU f n (f l).1 else(f l).1
theorem Au{n:Nat}{p:Nat→Bool}:((List.range n).find? p).isSome=(List.range n).any p:=by
 rw[List.isSome_find?]
theorem xV{n j:Nat}{p:Nat→Bool}(h:(List.range n).find? p=some j):j<n∧p j=true:=⟨List.mem_range.1 (List.mem_of_find?_eq_some h),List.find?_some h⟩
def dK(m:Nat):List D:=(List.range m).map fun i=> .bp i 0
def aG(bs:List (List T)):ab:=bs.map fun cs=> .box (cs.map .t)
theorem pQ{bs:List (List T)}{i:Nat}(h:i<bs.length):(aG bs)[i]?=some (.box (bs[i].map .t)):=by simp[aG,h]
theorem ch(bs:List (List T)):(aG bs).length=bs.length:=by simp[aG]
theorem mu:∀(l sel:List Nat),(sel++l).Nodup→cr sel l=sel++l
 | [],sel,_=>by simp[cr]
 | i::r,sel,h=>by
   have:sel.contains i=false:=by
    rw[← Bool.not_eq_true,List.contains_iff_mem]
    intro hm
    have:=List.nodup_append.1 h
    exact this.2.2 i hm i List.mem_cons_self rfl
   simp only[cr,this,Bool.false_eq_true,if_false]
   rw[mu r (sel++[i]) (by simpa using h)]
   simp
theorem mU:∀(l:List Nat) (i k:Nat),l.Nodup→l[k]?=some i→idxOf l i=some k
 | [],i,k,_,h=>by simp at h
 | a::l,i,0,_,h=>by simp at h;simp[idxOf,h]
 | a::l,i,k+1,hn,h=>by
   simp at h
   have hne:a≠i:=fun e=>(List.nodup_cons.1 hn).1 (e▸List.mem_of_getElem? h)
   simp only[idxOf,if_neg hne,mU l i k (List.nodup_cons.1 hn).2 h,Option.map_some]
theorem tu{m i:Nat}(h:i<m):idxOf (List.range m) i=some i:=mU _ _ _ List.nodup_range (List.getElem?_range h)
theorem tv{α:Type}{f:α→Option α}:∀ {l:List α},(∀x∈l,f x=some x)→aZ f l=some l
 | [],_=>rfl
 | a::l,h=>by
   simp only[aZ,h a List.mem_cons_self,Option.bind_some,tv fun x hx=>h x (List.mem_cons_of_mem _ hx),Option.map_some]
theorem tw(f:Nat→Option Nat)(cs:List T):dj f (.box (cs.map .t))=some (.box (cs.map .t)):=by
 simp only[vH,jK,Option.map_some]
theorem rH{H:ab}:∀ {l:List Nat} {hs:ab},l.length=hs.length→(∀(k i:Nat) (o:Obj),l[k]?=some i→hs[k]?=some o→H[i]?=some o)→pick H l=some hs
 | [],[],_,_=>rfl
 | [],_::_,h,_=>by simp at h
 | _::_,[],h,_=>by simp at h
 | i::l,o::hs,h,hg=>by
   rw[xL,hg 0 i o rfl rfl,Option.bind_some,An,rH (l:=l) (hs:=hs) (by simpa using h) fun k i o hk ho=>hg (k+1) i o (by simpa using hk) (by simpa using ho)]
   rfl
theorem mV{H:ab}:∀ {l:List Nat} {os:ab},(∀(k i:Nat) (o:Obj),l[k]?=some i→os[k]?=some o→H[i]?=some o)→bE H l os=H
 | [],os,_=>by cases os<;>rfl
 | i::l,[],_=>rfl
 | i::l,o::os,hg=>by
   simp only[bE]
   rw[Al (hg 0 i o rfl rfl)]
   exact mV fun k i o hk ho=>hg (k+1) i o (by simpa using hk) (by simpa using ho)
theorem rI(call:aC)(bs:List (List T))(E:ab)(f raw:Nat)(args:List D){r:D}(h:call raw f args (aG bs)=some (r,aG bs))(hr:nh r=true)
 (ha:∀H:ab,ir H [] 0 args=some args∧bk H [] 0 args=[]) (hids:cr [] (oG 8 args)=List.range bs.length)
 (hren:aZ (ren (idxOf (List.range bs.length)) 8) args=some args):vC (aG bs++E) call f raw [] args=some (r,aG bs++E):=by
 generalize hH:aG bs++E=H
 have hget:∀i (hi:i<bs.length),H[i]?=some (.box (bs[i].map .t)):=fun i hi=>by
  rw[← hH,List.getElem?_append_left (by rw[ch];exact hi),pQ hi]
 obtain⟨ha,hfz⟩:=ha H
 have hno:i5 H (List.range bs.length)=[]:=by
  simp only[i5,List.flatMap_eq_nil_iff,List.mem_range]
  intro i hi
  rw[hget i hi]
  exact uJ 8 bs[i]
 have hsel:reach H 3 (List.range bs.length)=List.range bs.length:=by
  simp only[reach,hno,cr]
 have hget2:∀(k i:Nat) (o:Obj),(List.range bs.length)[k]?=some i→(aG bs)[k]?=some o→H[i]?=some o:=by
  intro k i o hk ho
  have hkl:k<bs.length:=by have:=(List.getElem?_eq_some_iff.1 hk).1;simpa using this
  rw[List.getElem?_range hkl]at hk
  cases hk
  rw[pQ hkl]at ho
  rw[hget k hkl,←ho]
 have hpick:pick H (List.range bs.length)=some (aG bs):=rH (by simp[ch]) hget2
 have hro:∀f:Nat→Option Nat,aZ (dj f) (aG bs)=some (aG bs):=fun f=>tv fun o ho=>by
  simp only[aG,List.mem_map]at ho
  obtain⟨cs,_,rfl⟩:=ho
  exact tw f cs
 have hput:bE H (List.range bs.length) (aG bs)=H:=mV hget2
 rw[Ac,Ad,ha,Option.bind_some,Ae,hids,hsel,Af,hren,Option.bind_some,hfz,Ag]
 simp only[pins]
 rw[hpick,Option.bind_some,Ah,hro,Option.bind_some,Ai,h,Option.bind_some]
 cases hb:bs with
 | nil=>
   subst hb
   have hrr:=qk (f:=bY [] H.length) hr
   simp only[depth]at hrr
   simp only[List.length_nil,List.range_zero,aG,List.map_nil]
   unfold kt
   split
   · rfl
   · rw[uI,hrr,Option.bind_some,uH]
     simp[aZ,Aj,bE]
 | cons b bt=>
   rw[← hb]
   have hne:List.range bs.length=0::(List.range' 1 bt.length):=by rw[hb];simp[List.range_eq_range',List.range'_succ]
   have hrr:=qk (f:=bY (List.range bs.length) H.length) hr
   simp only[depth]at hrr
   have hw:kt H H (List.range bs.length) (r,aG bs)=ql H H.length (List.range bs.length) (r,aG bs):=by
    rw[hne];rfl
   rw[hw,uI,hrr,Option.bind_some,uH,hro,Option.bind_some,Ak,List.length_range,List.take_of_length_le (by rw[ch];exact Nat.le_refl _),hput,
    List.drop_eq_nil_of_le (by rw[ch];exact Nat.le_refl _),List.append_nil]
theorem tx(H:ab)(cs:List D)(hc:∀i,ir H [] i cs=some cs∧bk H [] i cs=[]):∀(ts:List T) (i:Nat),ir H [] i (ts.map .t++cs)=some (ts.map .t++cs)∧bk H [] i (ts.map .t++cs)=[]
 | [],i=>hc i
 | t::ts,i=>by
   obtain⟨h1,h2⟩:=tx H cs hc ts (i+1)
   simp only[List.map_cons,List.cons_append,pP,jf,sF,BG,KV,Option.bind_some,xI,h1,h2,Lc,xG]
   exact⟨rfl,rfl⟩
theorem rJ(H:ab):∀(l:List Nat) (i:Nat),ir H [] i (l.map fun i=> .bp i 0)=some (l.map fun i=> .bp i 0)∧bk H [] i (l.map fun i=> .bp i 0)=[]
 | [],i=>⟨rfl,rfl⟩
 | a::l,i=>by
   obtain⟨h1,h2⟩:=rJ H l (i+1)
   simp only[List.map_cons,pP,jf,sF,BG,D8,Option.bind_some,xI,h1,h2,Lc,Ee]
   exact⟨rfl,rfl⟩
theorem rK(n m:Nat):oG n (dK m)=List.range m:=by
 simp only[oG,dK,List.flatMap_map]
 have:∀l:List Nat,(l.flatMap fun a=>ids n (.bp a 0))=l:=by
  intro l
  induction l with
  | nil=>rfl
  | cons a l ih=>rw[List.flatMap_cons,ih,Lg];rfl
 exact this _
theorem uP(n m:Nat):aZ (ren (idxOf (List.range m)) n) (dK m)=some (dK m):=tv fun d hd=>by
 simp only[dK,List.mem_map,List.mem_range]at hd
 obtain⟨k,hk,rfl⟩:=hd
 rw[Lk,tu hk];rfl
theorem qo{α β:Type}{f:α→Option β}:∀ {a b:List α} {x y:List β},aZ f a=some x→aZ f b=some y→aZ f (a++b)=some (x++y)
 | [],b,x,y,h1,h2=>by simp[aZ]at h1;subst h1;exact h2
 | c::a,b,x,y,h1,h2=>by
   simp only[aZ,Option.bind_eq_some_iff,Option.map_eq_some_iff]at h1
   obtain⟨z,hz,r,hr,rfl⟩:=h1
   simp only[List.cons_append,aZ,hz,Option.bind_some,qo hr h2,Option.map_some]
theorem xW(call:aC)(bs:List (List T))(E:ab)(f raw:Nat)(ts:List T){r:D}(h:call raw f (ts.map .t++dK bs.length) (aG bs)=some (r,aG bs))(hr:nh r=true):
 vC (aG bs++E) call f raw [] (ts.map .t++dK bs.length)=some (r,aG bs++E):=
 rI call bs E f raw _ h hr (fun H=>tx H _ (rJ H _) ts 0)
  (by rw[uK,uJ,List.nil_append,rK,mu _ _ (by simpa using List.nodup_range),List.nil_append])
  (qo (jK _ _ _) (uP _ _))
theorem EU(call:aC)(bs:List (List T))(E:ab)(g f raw:Nat)(ts:List T){r:D}(h:call raw f (ts.map .t++[.fn g (dK bs.length)]) (aG bs)=some (r,aG bs))(hr:nh r=true):
 vC (aG bs++E) call f raw [] (ts.map .t++[.fn g (dK bs.length)])=some (r,aG bs++E):=
 rI call bs E f raw _ h hr (fun H=>tx H _ (fun i=>⟨rfl,rfl⟩) ts 0)
  (by rw[uK,uJ,List.nil_append,xJ,Lh,rK,Am,List.append_nil,mu _ _ (by simpa using List.nodup_range),List.nil_append])
  (qo (jK _ _ _) (by rw[rB,Ln,uP];rfl))
theorem xX{f:Nat}{bs:List (List T)}{x:T}{r:D}(E:ab)(h:br 0 f (.t x::dK bs.length) (aG bs)=some (r,aG bs))(hr:nh r=true):
 vC (aG bs++E) br f 0 [] (.t x::dK bs.length)=some (r,aG bs++E):=xW br bs E f 0 [x] h hr
theorem jM{f:Nat}{bs:List (List T)}{x:T}{r:D}(h:br 0 f (.t x::dK bs.length) (aG bs)=some (r,aG bs))(hr:nh r=true):
 vC (aG bs) br f 0 [] (.t x::dK bs.length)=some (r,aG bs):=by
 have:=xX [] h hr;rwa [List.append_nil]at this
theorem pR(call:aC)(bs:List (List T))(g f raw:Nat)(x:T){r:D}(h:call raw f [.t x,.fn g (dK bs.length)] (aG bs)=some (r,aG bs))(hr:nh r=true):
 vC (aG bs) call f raw [] [.t x,.fn g (dK bs.length)]=some (r,aG bs):=by
 have:=EU call bs [] g f raw [x] h hr
 rwa [List.append_nil]at this
section
variable (bs : List (List T)) (o o' : Obj)
@[go_sem] theorem Av : (aG bs).length = bs.length := ch bs
@[go_sem] theorem Iq : (aG bs ++ [o])[bs.length]? = some o := by
 rw[List.getElem?_append_right (by rw[ch];exact Nat.le_refl _),ch];simp
@[go_sem] theorem Lr : (aG bs ++ [o]).set bs.length o' = aG bs ++ [o'] := by
 rw[List.set_append_right _ _ (by rw[ch];exact Nat.le_refl _),ch];simp
@[go_sem] theorem Ir : (aG bs ++ [o]).take bs.length = aG bs := by
 rw[List.take_append_of_le_length (by rw[ch];exact Nat.le_refl _),List.take_of_length_le (by rw[ch];exact Nat.le_refl _)]
@[go_sem] theorem EW : (aG bs ++ [o]).take (bs.length + 1) = aG bs ++ [o] := List.take_of_length_le (by simp [ch])
@[go_sem] theorem EX : (aG bs).take bs.length = aG bs := List.take_of_length_le (by simp [ch])
@[go_sem] theorem EY (k : Nat) (a b : ab) : cu k (a ++ b) = (cu k a && cu k b) := by
 rw[← fO,←fO,←fO,List.all_append]
@[go_sem] theorem Aw (k : Nat) : cu k (aG bs) = true := by
 induction bs with
 | nil=>rfl
 | cons b r ih=>
   show(cU k 8 (b.map .t)&&cu k (aG r))=true
   rw[uF,ih];rfl
@[go_sem] theorem Om (n : Nat) : ltB n (n + 1) = true := by rw [iG]; simp
@[go_sem] theorem On (n : Nat) : ltB n n = false := by rw [iG]; simp
theorem mW(k n m:Nat)(h:m≤k):cU k n (dK m)=true:=by
 unfold cU dK
 rw[List.all_eq_true]
 intro d hd
 obtain⟨i,hi,rfl⟩:=List.mem_map.1 hd
 rw[KW,iG]
 have:=List.mem_range.1 hi
 simp;omega
@[go_sem] theorem EZ (n m : Nat) : cU m n (dK m) = true := mW _ _ _ (Nat.le_refl _)
@[go_sem] theorem BW (n m : Nat) : cU (m + 1) n (dK m) = true := mW _ _ _ (Nat.le_succ _)
end
end Go.Ev
namespace Go.Ev
open Go
variable [Lib] [bq] [bu]
theorem dL{α:Type}(sz:Nat)(f:α→T)(h:∀a,gC sz (f a).cells=true):∀l:List α,aV sz (l.map f)=true
 | []=>rfl
 | a::l=>by rw[List.map_cons,lu,h,dL sz f h l];rfl
@[go_sem] theorem BX (k : IntKind) (l : List Int) : aV 1 (l.map (.int k)) = true := dL 1 _ (fun _ => rfl) l
theorem lz(sz:Nat):∀ts:List T,(ts.all fun e=>e.cells.length==sz)=aV sz ts
 | []=>rfl
 | t::ts=>by
   rw[List.all_cons,lu,lz sz ts]
   congr 1
   rw[Bool.eq_iff_iff,cB];simp
section
variable (H : ab) (sz : Nat) (ts : List T) (i j : Int)
@[go_sem] theorem Rr : rD H sz (some (.t (.sl ts))) (some none) (some (some i)) = if 0 ≤ i then (if i ≤ ts.length then (if aV sz ts = true then some (.t (.sl (ts.take i.toNat)), H) else none) else none) else none := by
 simp only[rD,Option.bind_some,gr,bound,lz,idx]
 by_cases h1:0≤i
 · rw[if_pos h1,if_pos h1,Option.bind_some]
   by_cases h2:i≤ts.length
   · rw[if_pos h2]
     by_cases h3:aV sz ts=true
     · rw[if_pos h3,if_pos ⟨by omega,by omega,h3⟩];rfl
     · rw[if_neg h3,if_neg fun h=>h3 h.2.2];rfl
   · rw[if_neg h2,if_neg fun h=>h2 (by omega)];rfl
 · rw[if_neg h1,if_neg h1];rfl
@[go_sem] theorem Rs : rD H sz (some (.t (.sl ts))) (some (some i)) (some none) = if 0 ≤ i then (if i ≤ ts.length then (if aV sz ts = true then some (.t (.sl (ts.drop i.toNat)), H) else none) else none) else none := by
 simp only[rD,Option.bind_some,gr,bound,lz,idx]
 by_cases h1:0≤i
 · rw[if_pos h1,if_pos h1,Option.bind_some]
   by_cases h2:i≤ts.length
   · rw[if_pos h2]
     by_cases h3:aV sz ts=true
     · rw[if_pos h3,if_pos ⟨by omega,by omega,h3⟩,List.take_of_length_le (by simp)];rfl
     · rw[if_neg h3,if_neg fun h=>h3 h.2.2];rfl
   · rw[if_neg h2,if_neg fun h=>h2 (by omega)];rfl
 · rw[if_neg h1,if_neg h1];rfl
@[go_sem] theorem Lt : rD H sz (some (.t (.sl ts))) (some (some i)) (some (some j)) = if 0 ≤ i then (if i ≤ j then (if j ≤ ts.length then (if aV sz ts = true then some (.t (.sl ((ts.drop i.toNat).take (j.toNat - i.toNat))), H) else none) else none) else none) else none := by
 simp only[rD,Option.bind_some,gr,bound,lz,idx]
 by_cases h1:0≤i
 · rw[if_pos h1,if_pos h1,Option.bind_some]
   by_cases h0:i≤j
   · rw[if_pos h0,if_pos (by omega:0≤j),Option.bind_some]
     by_cases h2:j≤ts.length
     · rw[if_pos h2]
       by_cases h3:aV sz ts=true
       · rw[if_pos h3,if_pos ⟨by omega,by omega,h3⟩];rfl
       · rw[if_neg h3,if_neg fun h=>h3 h.2.2];rfl
     · rw[if_neg h2,if_neg fun h=>h2 (by omega)];rfl
   · rw[if_neg h0]
     by_cases h2:0≤j
     · rw[if_pos h2,Option.bind_some,if_neg fun h=>h0 (by omega)];rfl
     · rw[if_neg h2];rfl
 · rw[if_neg h1,if_neg h1];rfl
end
def bsK(H:ab)(l:List Nat):Option T→Option (D×ab)
 | some t=>some (.t (.sl [t]),pins H l)
 | none=>none
@[go_sem] theorem Oo (H : ab) (l : List Nat) (t : T) : bsK H l (some t) = some (.t (.sl [t]), pins H l) := (rfl)
@[go_sem] theorem Oq (H : ab) (sz : Nat) (cs : List D) : pO H sz [.agg cs] = if gC sz cs = true then bsK H (cm H 8 (.agg cs)) (frz H 8 (.agg cs)) else none := by
 simp only[pO,List.all_cons,List.all_nil,Bool.and_true,D.cells]
 by_cases h:gC sz cs=true
 · rw[if_pos h,if_pos (by simpa using cB.1 h)]
   simp only[aZ,depth,List.flatMap_cons,List.flatMap_nil,List.append_nil]
   cases frz H 8 (.agg cs)<;>rfl
 · rw[if_neg h,if_neg (by intro e;exact h (cB.2 (by simpa using e)))]
@[go_sem] theorem Ot (H : ab) (id ep n : Nat) : pO H 1 [.ref id ep n] = bsK H (cm H 8 (.ref id ep n)) (frz H 8 (.ref id ep n)) := by
 simp only[pO,List.all_cons,List.all_nil,Bool.and_true,D.cells,List.length_cons,List.length_nil,beq_self_eq_true,if_true,aZ,depth,List.flatMap_cons,List.flatMap_nil,List.append_nil]
 cases frz H 8 (.ref id ep n)<;>rfl
def E1(H:ab)(r:D)(os:ab):D×ab:=(r,H++os)
@[go_sem] theorem Ou (H : ab) (r : D) (os : ab) : E1 H r os = (r, H ++ os) := (rfl)
def Lu(H:ab)(os:ab)(r:D):Option (D×ab):=(aZ (dj (bY [] H.length)) os).map (E1 H r)
@[go_sem] theorem Ov (H : ab) (os : ab) (r : D) : Lu H os r = (aZ (dj (bY [] H.length)) os).map (E1 H r) := (rfl)
@[go_sem] theorem Lv (H : ab) (r : D) (o : Obj) (os : ab) : oF H (r, o :: os) = (ren (bY [] H.length) 8 r).bind (Lu H (o :: os)) := by
 simp only[oF,List.isEmpty_cons,Bool.and_false,Bool.false_eq_true,if_false]
 rfl
end Go.Ev
namespace Go.Ev
open Go
variable [Lib] [bq] [bu]
@[go_sem] theorem Rt (H : ab) (a b : List T) : pO H 1 [.t (.sl a), .t (.sl b), .nil] = some (.t (.sl [.sl a, .sl b, .sl []]), H) := by
 simp only[pO,List.all_cons,List.all_nil,D.cells,T.cells,List.map_cons,List.map_nil,List.length_cons,List.length_nil,aZ,frz,depth,cm,List.flatMap_cons,List.flatMap_nil,pins]
 rfl
def Ax(c:Bool):Option Bool→Option Bool
 | some d=>some (c&&d)
 | none=>none
@[go_sem] theorem Is (c d : Bool) : Ax c (some d) = some (c && d) := (rfl)
@[go_sem] theorem It : fE [] [] = some true := (rfl)
@[go_sem] theorem E2 (k : IntKind) (a b : Int) (xs ys : List T) : fE (.int k a :: xs) (.int k b :: ys) = Ax (decide (a = b)) (fE xs ys) := by
 simp only[fE,if_true,JV]
 cases fE xs ys<;>rfl
def Ay(H:ab)(neg:Bool):Option Bool→Option (D×ab)
 | some r=>some (.t (.bool (bif neg then !r else r)),H)
 | none=>none
@[go_sem] theorem Iu (H : ab) (r : Bool) : Ay H true (some r) = some (.t (.bool (!r)), H) := (rfl)
@[go_sem] theorem E3 (H : ab) (r : Bool) : Ay H false (some r) = some (.t (.bool r), H) := (rfl)
@[go_sem] theorem E4 (H : ab) (n : Nat) (neg : Bool) (xs ys : List T) : jR H (.ints n) neg (some (.t (.agg xs))) (some (.t (.agg ys))) = if xs.length = n then Ay H neg (fE xs ys) else none := by
 simp only[jR,Option.bind_some,Bk,eqD]
 by_cases h:xs.length=n
 · simp only[if_pos h]
   cases fE xs ys with
   | none=>rfl
   | some r=>cases neg<;>rfl
 · simp only[if_neg h];rfl
@[go_sem] theorem Iv : ((2 : Nat) : Int) = 2 := (rfl)
@[go_sem] theorem BZ : ((3 : Nat) : Int) = 3 := (rfl)
def oH(n:Nat)(p:Nat→Bool):Nat:=((List.range n).find? p).getD 0
theorem lA{gc:Bool}{dead:List Nat}{c:C}{vs:List D}{H:ab}(s:Nat→St)(n:Nat)(p:Nat→Bool)(e:Nat→Ex×St)(eN:Ex×St)
 (h0:(⟨eD dead vs,H⟩:St)=s 0)
 (hs:∀j,j<n→p j=false→gw gc dead (s j).H.length (exS br c (s j))=some (s (j+1)))
 (he:∀j,j<n→p j=true→exS br c (s j)=some (e j)∧(e j).1≠ .normal)
 (hN:exS br c (s n)=some eN) (hn:eN.1≠ .normal):
 exS br (.loop gc dead c) ⟨vs,H⟩=some (if(List.range n).any p=true then e (oH n p)else eN):=by
 rw[fP s n p e eN h0 hs he hN hn,←Au]
 unfold oH
 cases hf:(List.range n).find? p with
 | none=>simp
 | some k=>simp
theorem xY{α:Type} [Dat α](l:List α)(p:α→Bool):((List.range l.length).any fun j=>p (nth l j))=l.any p:=by
 rw[Bool.eq_iff_iff,List.any_eq_true,List.any_eq_true]
 constructor
 · rintro ⟨j,hj,hp⟩
   exact⟨_,bG (List.mem_range.1 hj),hp⟩
 · rintro ⟨x,hx,hp⟩
   obtain⟨j,hj,rfl⟩:=List.getElem_of_mem hx
   exact⟨j,List.mem_range.2 hj,by rw[eR (List.getElem?_eq_getElem hj)];exact hp⟩
theorem E5(n:Nat)(p:Nat→Bool):(List.range n).all p= !((List.range n).any fun j=> !p j):=by
 rw[List.all_eq_not_any_not]
@[go_sem] theorem Lw : eC [] [] [] = some true := (rfl)
@[go_sem] theorem Lx (ks : List Bool) (k : IntKind) (a b : Int) (xs ys : List T) : eC (true :: ks) (.int k a :: xs) (.int k b :: ys) = Ax (decide (a = b)) (eC ks xs ys) := by
 simp only[eC,if_true,JV]
 cases eC ks xs ys<;>rfl
@[go_sem] theorem Iw (ks : List Bool) (a b : Bool) (xs ys : List T) : eC (false :: ks) (.bool a :: xs) (.bool b :: ys) = Ax (decide (a = b)) (eC ks xs ys) := by
 simp only[eC,show(a==b)=decide (a=b)from rfl]
 cases eC ks xs ys<;>rfl
@[go_sem] theorem Ow (H : ab) (ks : List Bool) (neg : Bool) (xs ys : List T) : jR H (.sc ks) neg (some (.t (.agg xs))) (some (.t (.agg ys))) = Ay H neg (eC ks xs ys) := by
 simp only[jR,Option.bind_some,Bk,eqD]
 cases eC ks xs ys with
 | none=>rfl
 | some r=>cases neg<;>rfl
def Mod(n m:Int):Int:=if m<1 then 0 else if n.tmod m<0 then n.tmod m+m else n.tmod m
theorem Lz(n m:Int):0≤Mod n m:=by
 unfold Mod
 split
 · omega
 · have h5:=Int.lt_tmod_of_pos n (b:=m) (by omega)
   split<;>omega
theorem LA(n m:Int)(h:1≤m):Mod n m<m:=by
 unfold Mod
 rw[if_neg (by omega)]
 have h3:=Int.tmod_lt_of_pos n (b:=m) (by omega)
 split<;>omega
theorem B0(n m:Int)(hm:m≤4611686018427387904):br 0 N.dC [I n,I m] []=some (I (Mod n m),[]):=by
 refine aO K.mq rfl ?_
 unfold Mod
 by_cases h1:m<1
 · simp only[go_sem,K.dC,h1,↓reduceIte]
 · have h2:m≠0:=by omega
   have h3:=Int.tmod_lt_of_pos n (b:=m) (by omega)
   have h5:=Int.lt_tmod_of_pos n (b:=m) (by omega)
   by_cases h4:n.tmod m<0
   · simp (disch:=omega) only[go_sem,K.dC,h1,↓reduceIte,h2,h4]
   · simp (disch:=omega) only[go_sem,K.dC,h1,↓reduceIte,h2,h4]
theorem Az(l:List Int):br 0 N.dn [.t (tL l)] []=some (B (decide (l.length≤400)),[]):=by
 refine aO K.jh rfl ?_
 simp (disch:=omega) only[go_sem,K.dn,↓reduceIte]
 simp only[show((l.length:Int)≤400)=(l.length≤400)by rw[eq_iff_iff];omega]
structure aB where
 L:List Int
 at_:Nat
def aB.obj(d:aB):Obj:= .box [.t (tL d.L),I d.at_]
def aB.bT(d:aB):Prop:=d.L.length≤400
def aB.next(d:aB)(n:Int):Int×aB:=if d.at_<d.L.length then(Mod (nth d.L d.at_) n,⟨d.L,d.at_+1⟩)else(0,d)
theorem aB.B1(d:aB)(n:Int):(d.next n).2.L=d.L:=by unfold aB.next;split<;>rfl
theorem aB.bn{d:aB}(h:d.bT)(n:Int):(d.next n).2.bT:=by unfold aB.bT;rw[d.B1];exact h
theorem aB.fw(d:aB)(n:Int):0≤(d.next n).1:=by unfold aB.next;split<;>simp[Lz]
theorem aB.fx(d:aB){n:Int}(h:1≤n):(d.next n).1<n:=by unfold aB.next;split<;>simp[LA _ _ h];omega
theorem fX(d:aB)(n:Int)(hn:n≤4611686018427387904)(hd:d.bT):br 0 N.az [.bp 0 0,I n] [d.obj]=some (I (d.next n).1,[(d.next n).2.obj]):=by
 refine aO K.fq rfl ?_
 have hm:=B0 (nth d.L d.at_) n hn
 unfold aB.bT at hd
 unfold aB.next aB.obj
 by_cases h1:d.at_<d.L.length
 · simp (disch:=omega) only[go_sem,K.az,↓reduceIte,↓if_pos,↓if_neg,Int.add_sub_cancel,hm,Int.natCast_add]
 · simp (disch:=omega) only[go_sem,K.az,↓reduceIte,↓if_pos,↓if_neg]
@[go_sem] theorem Ox (d : aB) : uL (some d.obj) = [] := by simp only [aB.obj, go_sem]
@[go_sem] theorem Oy (f : Nat → Option Nat) (d : aB) : dj f d.obj = some d.obj := by simp only [aB.obj, go_sem]
@[go_sem] theorem Oz (k : Nat) (d : aB) (r : ab) : cu k (d.obj :: r) = cu k r := by simp only [aB.obj, go_sem]
def aB.one(d:aB)(n:Int):Bool×aB:=(decide ((d.next n).1=n-1),(d.next n).2)
theorem aB.oI{d:aB}(h:d.bT)(n:Int):(d.one n).2.bT:=aB.bn h n
theorem xZ(d:aB)(n:Int)(h1:0≤n)(hn:n≤4611686018427387904)(hd:d.bT):br 0 N.a8 [.bp 0 0,I n] [d.obj]=some (B (d.one n).1,[(d.one n).2.obj]):=by
 refine aO K.fW rfl ?_
 have hm:=fX d n hn hd
 unfold aB.one
 simp (disch:=omega) only[go_sem,K.a8,↓reduceIte,hm]
def aB.of(d:aB)(l:List Int):Int×aB:=(nth l (d.next l.length).1.toNat,(d.next l.length).2)
theorem aB.gx{d:aB}(h:d.bT)(l:List Int):(d.of l).2.bT:=aB.bn h _
theorem aB.lB(d:aB){l:List Int}(h:l≠[]):(d.of l).1∈l:=by
 unfold aB.of
 have hl:0<l.length:=List.length_pos_iff.2 h
 have:=d.fw l.length
 have:=d.fx (n:=l.length) (by omega)
 exact bG (by omega)
theorem x0(d:aB)(l:List Int)(hl:l≠[])(hl2:l.length≤4294967296)(hd:d.bT):br 0 N.aW [.bp 0 0,.t (tL l)] [d.obj]=some (I (d.of l).1,[(d.of l).2.obj]):=by
 refine aO K.gD rfl ?_
 have hm:=fX d l.length (by omega) hd
 have h0:0<l.length:=List.length_pos_iff.2 hl
 have h1:=d.fw l.length
 have h2:=d.fx (n:=l.length) (by omega)
 unfold aB.of
 simp (disch:=omega) only[go_sem,K.aW,↓reduceIte,hm]
def aB.fY(d:aB):Nat→List Int×aB
 | 0=>([],d)
 | k+1=>(if((d.fY k).2.next 3).1=0 then(d.fY k).1++[(k:Int)]else(d.fY k).1,((d.fY k).2.next 3).2)
theorem aB.ky{d:aB}(h:d.bT):∀n,(d.fY n).2.bT
 | 0=>h
 | n+1=>aB.bn (aB.ky h n) 3
theorem aB.oJ(d:aB):∀n,(d.fY n).1.length≤n
 | 0=>Nat.le_refl _
 | n+1=>by
   have:=d.oJ n
   unfold aB.fY
   simp only
   split<;>simp<;>omega
theorem E6(d:aB)(n:Nat)(hn:n≤1000000)(hd:d.bT):br 0 N.bw [.bp 0 0,I n] [d.obj]=some (.t (tL (d.fY n).1),[(d.fY n).2.obj]):=by
 refine aO K.ft rfl ?_
 have hlen:=d.oJ
 have loop:exS br K.gZ ⟨[.bp 0 0,I n,.nil,.ref 1 0 0,I 0],[d.obj,.arr 1 false 0 []]⟩=
  some (.exit 0,⟨[.bp 0 0,I n,.und,.ref 1 0 (d.fY n).1.length,I n],[(d.fY n).2.obj,.arr 1 false 0 (((d.fY n).1.map (T.int .i64)).map .t)]⟩):=by
  refine cW (fun j=>⟨[.bp 0 0,I n,.und,.ref 1 0 (d.fY j).1.length,I j],[(d.fY j).2.obj,.arr 1 false 0 (((d.fY j).1.map (T.int .i64)).map .t)]⟩) n rfl ?_ ?_ (by simp)
  · intro j hj
    have hm:=fX (d.fY j).2 3 (by omega) (aB.ky hd j)
    have:=hlen j
    by_cases h:((d.fY j).2.next 3).1=0
    · simp (disch:=omega) only[go_sem,K.dE,hm,h,aB.fY,↓reduceIte]
    · simp (disch:=omega) only[go_sem,K.dE,hm,h,aB.fY,↓reduceIte]
  · simp (disch:=omega) only[go_sem,K.dE,↓reduceIte]
 simp (disch:=omega) only[go_sem,K.bw,↓reduceIte,loop]
structure Place where
 h:Int
 surf:Bool
instance : Dat Place := ⟨⟨0, false⟩⟩
abbrev Place.e(p:Place):T:= .agg [tI p.h,.bool p.surf]
structure Road where
 frm:Int
 to:Int
 len:Int
 area:Int
 walk:Bool
 closed:Bool
 restL:Int
 restH:Int
 liftL:Int
 liftH:Int
instance : Dat Road := ⟨⟨0, 0, 0, 0, false, false, 0, 0, 0, 0⟩⟩
abbrev Road.e(r:Road):T:= .agg [tI r.frm,tI r.to,tI r.len,tI r.area,.bool r.walk,.bool r.closed,tI r.restL,tI r.restH,tI r.liftL,tI r.liftH]
structure bP where
 places:List Place
 roads:List Road
instance : Dat bP := ⟨⟨[], []⟩⟩
abbrev bP.e(m:bP):T:= .agg [.sl (m.places.map Place.e),.sl (m.roads.map Road.e)]
structure Road.ok(n:Nat)(r:Road):Prop where
 f0:0≤r.frm
 f1:r.frm<n
 t0:0≤r.to
 t1:r.to<n
 ne:r.frm≠r.to
 l0:1≤r.len
 l1:r.len≤100000
 a0:1≤r.area
 a1:r.area≤1000
 r0:1≤r.restL
 r1:r.restL≤r.restH
 r2:r.restH≤262144
 i0: -2199023255552≤r.liftL
 i1:r.liftL≤r.liftH
 i2:r.liftH≤2199023255552
structure bP.ok(m:bP):Prop where
 np:m.places.length≤64
 nr:m.roads.length≤128
 hs:∀p∈m.places, -10000≤p.h∧p.h≤10000
 rs:∀r∈m.roads,r.ok m.places.length
theorem rL(a b lo hi:Int):br 0 N.cV [.t (.agg [tI a,tI b]),I lo,I hi] []=some (B (decide (lo≤a∧a≤b∧b≤hi)),[]):=by
 refine aO K.ji rfl ?_
 by_cases h1:lo≤a<;>by_cases h2:a≤b<;>by_cases h3:b≤hi<;>simp (disch:=omega) only[go_sem,K.cV,↓reduceIte,h1,h2,h3]
theorem AA{m:bP}(h:m.ok):br 0 N.cJ [.t m.e] []=some (I 0,[]):=by
 refine aO K.iH rfl ?_
 have np:=h.np
 have nr:=h.nr
 have loop1:∀a b c d e:D,exS br K.j3 ⟨[a,.bp 0 0,b,I 0,c,d,e],[.box [.t (.sl (m.places.map Place.e)),.t (.sl (m.roads.map Road.e))]]⟩=
  some (.exit 0,⟨[.und,.bp 0 0,.und,I m.places.length,.und,.und,.und],[.box [.t (.sl (m.places.map Place.e)),.t (.sl (m.roads.map Road.e))]]⟩):=by
  intro a b c d e
  refine cW (fun j=>⟨[.und,.bp 0 0,.und,I j,.und,.und,.und],[.box [.t (.sl (m.places.map Place.e)),.t (.sl (m.roads.map Road.e))]]⟩) m.places.length rfl ?_ ?_ (by simp)
  · intro j hj
    have hh:=h.hs _ (bG hj)
    simp (disch:=omega) only[go_sem,K.fU,↓reduceIte]
  · simp (disch:=omega) only[go_sem,K.fU,↓reduceIte]
 have loop2:∀a b c d e:D,exS br K.j4 ⟨[a,.bp 0 0,b,c,d,I 0,e],[.box [.t (.sl (m.places.map Place.e)),.t (.sl (m.roads.map Road.e))]]⟩=
  some (.exit 2,⟨[.und,.bp 0 0,.und,.und,.und,I m.roads.length,.und],[.box [.t (.sl (m.places.map Place.e)),.t (.sl (m.roads.map Road.e))]]⟩):=by
  intro a b c d e
  refine cW (fun j=>⟨[.und,.bp 0 0,.und,.und,.und,I j,.und],[.box [.t (.sl (m.places.map Place.e)),.t (.sl (m.roads.map Road.e))]]⟩) m.roads.length rfl ?_ ?_ (by simp)
  · intro j hj
    obtain⟨f0,f1,t0,t1,ne,l0,l1,a0,a1,r0,r1,r2,i0,i1,i2⟩:=h.rs _ (bG hj)
    have s1:=rL (nth m.roads j).restL (nth m.roads j).restH 1 262144
    have s2:=rL (nth m.roads j).liftL (nth m.roads j).liftH (-2199023255552) 2199023255552
    simp (disch:=omega) only[go_sem]at s1 s2
    simp (disch:=omega) only[go_sem,K.fV,↓reduceIte,s1,s2]
  · simp (disch:=omega) only[go_sem,K.fV,↓reduceIte]
 simp (disch:=omega) only[go_sem,K.cJ,↓reduceIte,loop1,loop2]
theorem x7{l:List Int}{p:Int→Bool}:((List.range l.length).find? fun j=>p (nth l j)).isSome=l.any p:=by
 rw[List.isSome_find?,Bool.eq_iff_iff,List.any_eq_true,List.any_eq_true]
 constructor
 · rintro ⟨j,hj,h⟩
   exact⟨_,bG (List.mem_range.1 hj),h⟩
 · rintro ⟨x,hx,h⟩
   obtain⟨j,hj⟩:=List.mem_iff_getElem?.1 hx
   exact⟨j,List.mem_range.2 (List.getElem?_eq_some_iff.1 hj).1,by rw[eR hj];exact h⟩
theorem B2(l:List Int)(x:Int)(hl:l.length≤4294967296):br 0 N.dZ [.t (tL l),I x] []=some (B (decide (x∈l)),[]):=by
 refine aO K.kv rfl ?_
 have loop:∀a:D,exS br K.mS ⟨[.t (tL l),I x,a,I 0],[]⟩=
  some (match (List.range l.length).find? (fun j=>decide (nth l j=x))with
   | some j=>(.ret,⟨[.t (tL l),I x,B true,I j],[]⟩)
   | none=>(.exit 0,⟨[.t (tL l),I x,.und,I l.length],[]⟩)):=by
  intro a
  refine fP (fun j=>⟨[.t (tL l),I x,.und,I j],[]⟩) l.length (fun j=>decide (nth l j=x)) _ _ rfl ?_ ?_ ?_ (by simp)
  · intro j hj hp
    have hp:¬nth l j=x:=of_decide_eq_false hp
    simp (disch:=omega) only[go_sem,K.fL,↓reduceIte]
  · intro j hj hp
    have hp:nth l j=x:=of_decide_eq_true hp
    simp (disch:=omega) only[go_sem,K.fL,↓reduceIte,hp]
    simp
  · simp (disch:=omega) only[go_sem,K.fL,↓reduceIte]
 have e:=x7 (l:=l) (p:=fun y=>decide (y=x))
 have e2:l.any (fun y=>decide (y=x))=decide (x∈l):=by rw[Bool.eq_iff_iff];simp
 rw[e2]at e
 simp only[go_sem,K.dZ,↓reduceIte,loop]
 cases hf:(List.range l.length).find? (fun j=>decide (nth l j=x))with
 | some j=>rw[hf]at e;simp (disch:=omega) only[go_sem,↓reduceIte,←e]
 | none=>rw[hf]at e;simp (disch:=omega) only[go_sem,↓reduceIte,←e,Option.isSome_none]
theorem oK(a b:List Int)(hl:a.length≤4294967296):br 0 N.aQ [.t (tL a),.t (tL b)] []=some (B (decide (a=b)),[]):=by
 refine aO K.fv rfl ?_
 by_cases hlen:a.length=b.length
 · have loop:∀c:D,exS br K.hT ⟨[.t (tL a),.t (tL b),c,I 0],[]⟩=
    some (match (List.range a.length).find? (fun j=>decide (nth a j≠nth b j))with
     | some j=>(.ret,⟨[.t (tL a),.t (tL b),B false,I j],[]⟩)
     | none=>(.exit 0,⟨[.t (tL a),.t (tL b),.und,I a.length],[]⟩)):=by
    intro c
    refine fP (fun j=>⟨[.t (tL a),.t (tL b),.und,I j],[]⟩) a.length (fun j=>decide (nth a j≠nth b j)) _ _ rfl ?_ ?_ ?_ (by simp)
    · intro j hj hp
      have hp:nth a j=nth b j:=by simpa using hp
      simp (disch:=omega) only[go_sem,K.dF,↓reduceIte]
    · intro j hj hp
      have hp:nth a j≠nth b j:=by simpa using hp
      simp (disch:=omega) only[go_sem,K.dF,↓reduceIte]
      simp
    · simp (disch:=omega) only[go_sem,K.dF,↓reduceIte]
   have e:(a=b)↔(List.range a.length).find? (fun j=>decide (nth a j≠nth b j))=none:=by
    rw[List.find?_eq_none]
    constructor
    · intro h j _;simp[h]
    · intro h
      apply List.ext_getElem?
      intro j
      by_cases hj:j<a.length
      · rw[iJ hj,iJ (by omega)]
        have:=h j (List.mem_range.2 hj)
        simpa using this
      · rw[List.getElem?_eq_none (by omega),List.getElem?_eq_none (by omega)]
   simp (disch:=omega) only[go_sem,K.aQ,↓reduceIte,loop]
   cases hf:(List.range a.length).find? (fun j=>decide (nth a j≠nth b j))with
   | some j=>rw[hf]at e;simp (disch:=omega) only[go_sem,↓reduceIte,e];simp
   | none=>rw[hf]at e;simp (disch:=omega) only[go_sem,↓reduceIte,e]
 · have hne:a≠b:=fun h=>hlen (by rw[h])
   simp (disch:=omega) only[go_sem,K.aQ,↓reduceIte,hne]
def qI(l:List Int)(n:Int):Bool:=(List.range l.length).all fun j=>decide (0≤nth l j∧nth l j<n∧(0<j→nth l (j-1)<nth l j))
theorem AB{n:Nat}{p:Nat→Bool}:((List.range n).all p)=((List.range n).find? fun j=> !p j).isNone:=by
 rw[← Option.not_isSome,List.isSome_find?,List.not_any_eq_all_not]
 simp
theorem B3(l:List Int)(n:Int)(hl:l.length≤4294967296):br 0 N.ec [.t (tL l),I n] []=some (B (qI l n),[]):=by
 refine aO K.kx rfl ?_
 have loop:∀c:D,exS br K.mT ⟨[.t (tL l),I n,c,I 0],[]⟩=
  some (match (List.range l.length).find? (fun j=> !decide (0≤nth l j∧nth l j<n∧(0<j→nth l (j-1)<nth l j)))with
   | some j=>(.ret,⟨[.t (tL l),I n,B false,I j],[]⟩)
   | none=>(.exit 0,⟨[.t (tL l),I n,.und,I l.length],[]⟩)):=by
  intro c
  refine fP (fun j=>⟨[.t (tL l),I n,.und,I j],[]⟩) l.length _ _ _ rfl ?_ ?_ ?_ (by simp)
  · intro j hj hp
    simp only[Bool.not_eq_false',decide_eq_true_eq]at hp
    obtain⟨h1,h2,h3⟩:=hp
    cases j with
    | zero=>simp (disch:=omega) only[go_sem,K.df,↓reduceIte]
    | succ j=>
      have h3:=h3 (by omega)
      rw[Nat.add_sub_cancel]at h3
      simp (disch:=omega) only[go_sem,K.df,↓reduceIte]
  · intro j hj hp
    simp only[Bool.not_eq_true',decide_eq_false_iff_not]at hp
    refine⟨?_,by simp⟩
    by_cases h1:0≤nth l j
    · by_cases h2:nth l j<n
      · cases j with
        | zero=>exact absurd ⟨h1,h2,fun h=>absurd h (by omega)⟩ hp
        | succ j=>
          have h3:¬nth l j<nth l (j+1):=fun h=>hp ⟨h1,h2,fun _=>by simpa using h⟩
          simp (disch:=omega) only[go_sem,K.df,↓reduceIte]
      · simp (disch:=omega) only[go_sem,K.df,↓reduceIte]
    · simp (disch:=omega) only[go_sem,K.df,↓reduceIte]
  · simp (disch:=omega) only[go_sem,K.df,↓reduceIte]
 have e:qI l n=_:=AB
 simp only[go_sem,K.ec,↓reduceIte,loop]
 cases hf:(List.range l.length).find? (fun j=> !decide (0≤nth l j∧nth l j<n∧(0<j→nth l (j-1)<nth l j)))with
 | some j=>rw[hf]at e;simp (disch:=omega) only[go_sem,↓reduceIte,e,Option.isNone_some]
 | none=>rw[hf]at e;simp (disch:=omega) only[go_sem,↓reduceIte,e,Option.isNone_none]
theorem vK(x lo hi:Int):br 0 N.ba [I x,I lo,I hi] []=some (B (decide (lo≤x∧x≤hi)),[]):=by
 refine aO K.mr rfl ?_
 by_cases h1:lo≤x<;>by_cases h2:x≤hi<;>simp (disch:=omega) only[go_sem,K.ba,↓reduceIte]
theorem rM(l:List Int)(hl:l.length≤4294967296)(f:Nat)(bs:List (List T))(p:Int→Bool)(h:∀x,x∈l→br 0 f (I x::dK bs.length) (aG bs)=some (B (p x),aG bs)):
 br 0 N.aE [.t (tL l),.fn f (dK bs.length)] (aG bs)=
 some (I (match (List.range l.length).find? (fun j=>p (nth l j))with | some j=>(j:Int) | none=> -1),aG bs):=by
 refine aO K.cy rfl ?_
 have loop:∀a b:D,exS br K.dJ ⟨[.t (tL l),.fn f (dK bs.length),a,b,I l.length,I 0],aG bs⟩=
  some (match (List.range l.length).find? (fun j=>p (nth l j))with
   | some j=>(.ret,⟨[.t (tL l),.fn f (dK bs.length),I j,I j,I l.length,I j],aG bs⟩)
   | none=>(.exit 0,⟨[.t (tL l),.fn f (dK bs.length),.und,.und,I l.length,I l.length],aG bs⟩)):=by
  intro a b
  refine fP (fun j=>⟨[.t (tL l),.fn f (dK bs.length),.und,.und,I l.length,I j],aG bs⟩) l.length (fun j=>p (nth l j)) _ _ rfl ?_ ?_ ?_ (by simp)
  · intro j hj hp
    have hc:=jM (h _ (bG hj)) rfl
    simp (disch:=omega) only[go_sem,K.bF,↓reduceIte,hc,hp]
  · intro j hj hp
    have hc:=jM (h _ (bG hj)) rfl
    simp (disch:=omega) only[go_sem,K.bF,↓reduceIte,hp,hc]
    simp
  · simp (disch:=omega) only[go_sem,K.bF,↓reduceIte]
 simp (disch:=omega) only[go_sem,K.aE,↓reduceIte,loop]
 cases hf:(List.range l.length).find? (fun j=>p (nth l j))with
 | some j=>simp (disch:=omega) only[go_sem,↓reduceIte]
 | none=>simp (disch:=omega) only[go_sem,↓reduceIte]
theorem oL(l:List Int)(hl:l.length≤4294967296)(f:Nat)(bs:List (List T))(p:Int→Bool)(h:∀x,x∈l→br 0 f (I x::dK bs.length) (aG bs)=some (B (p x),aG bs)):
 br 0 N.av [.t (tL l),.fn f (dK bs.length)] (aG bs)=some (B (l.any p),aG bs):=by
 refine aO K.b5 rfl ?_
 have h:=rM l hl f bs p h
 have hc:=pR br bs f _ 0 (tL l) h rfl
 have e:=x7 (l:=l) (p:=p)
 cases hf:(List.range l.length).find? (fun j=>p (nth l j))with
 | some j=>rw[hf]at e hc;simp (disch:=omega) only[go_sem,K.av,↓reduceIte,←e,hc]
 | none=>rw[hf]at e hc;simp (disch:=omega) only[go_sem,K.av,↓reduceIte,←e,hc,Option.isSome_none]
def x8(m:bP)(k:Nat)(back:Bool)(up down level:Int):Int:=
 let x:=nth m.roads k
 if x.closed=true∨x.walk=false then -1 else
 let a:=if back then x.to else x.frm
 let b:=if back then x.frm else x.to
 let rise:=(nth m.places b.toNat).h-(nth m.places a.toNat).h
 let speed:=if -10*rise>x.len then down else if 10*rise>x.len then up else level
 (10*x.len+speed-1).tdiv speed
def bnd(l:List Int):Prop:=∀x∈l,0≤x∧x≤1099511627776
def B4(l:List Int)(p q:Nat)(walk t:Int):Bool:=
 decide (0≤walk)&&decide (nth l p<1099511627776)&&decide (max t (nth l p+walk)≤2147483648)&&decide (max t (nth l p+walk)<nth l q)
def LB(l:List Int)(p q:Nat)(walk t:Int):List Int:=if B4 l p q walk t=true then l.set q (max t (nth l p+walk))else l
def SQ(into:Option (List Int))(p:Int):Bool:=match into with
 | none=>true
 | some l=>decide (p∈l)
def LC(into:Option (List Int)):D:=match into with
 | none=> .nil
 | some l=> .t (tL l)
def Road.src(r:Road)(back:Bool):Int:=if back then r.to else r.frm
def Road.dst(r:Road)(back:Bool):Int:=if back then r.frm else r.to
theorem Road.ug{n:Nat}{r:Road}(h:r.ok n)(back:Bool):0≤r.src back∧r.src back<n:=by
 unfold Road.src;have:=h.f0;have:=h.f1;have:=h.t0;have:=h.t1;cases back<;>simp<;>omega
def LD(m:bP)(t:Int)(into:Option (List Int))(k:Nat)(back:Bool)(l:List Int):List Int×Bool:=
 if SQ into ((nth m.roads k).dst back)=true then
  (LB l ((nth m.roads k).src back).toNat ((nth m.roads k).dst back).toNat (x8 m k back 6 9 12) t,B4 l ((nth m.roads k).src back).toNat ((nth m.roads k).dst back).toNat (x8 m k back 6 9 12) t)
 else(l,false)
def Ru(m:bP)(t:Int)(into:Option (List Int))(k:Nat)(s:List Int×Bool):List Int×Bool:=
 let a:=LD m t into k false s.1
 let b:=LD m t into k true a.1
 (b.1,s.2||a.2||b.2)
def B5(m:bP)(t:Int)(into:Option (List Int))(l:List Int):Nat→List Int×Bool
 | 0=>(l,false)
 | k+1=>Ru m t into k (B5 m t into l k)
def LF(m:bP)(t:Int)(into:Option (List Int))(l:List Int):List Int×Bool:=B5 m t into l m.roads.length
theorem E7{l:List Int}(h:bnd l){q:Nat}{x:Int}(h0:0≤x)(h1:x≤1099511627776):bnd (l.set q x):=by
 intro y hy
 rcases List.mem_or_eq_of_mem_set hy with hy | hy
 · exact h y hy
 · subst hy;exact⟨h0,h1⟩
section
variable {m : bP} (h : m.ok) {t : Int} {into : Option (List Int)}
include h
end
def SR(l:List Int):Nat:=(l.map Int.toNat).sum
section
variable {m : bP} (h : m.ok) {t : Int} {into : Option (List Int)}
include h
end
end Go.Ev
namespace Go.Ev
open Go
variable [Lib] [bq] [bu]
abbrev af(m:bP):List D:=[.t (.sl (m.places.map Place.e)),.t (.sl (m.roads.map Road.e))]
@[go_sem] theorem LG (k n : Nat) (into : Option (List Int)) : old k n (LC into) = true := by
 cases into<;>simp only[LC,go_sem]
structure Wh where
 time:Int
 frm:List Int
instance : Dat Wh := ⟨⟨0, []⟩⟩
abbrev Wh.e(w:Wh):T:= .agg [tI w.time,tL w.frm]
def oM(m:bP)(t:Int)(into:Option (List Int))(l:List Int):List Int:=xU (LF m t into) (SR l+1) l
def inT(t:Int):Prop:=0≤t∧t≤2147483648
instance (t : Int) : Decidable (inT t) := by unfold inT; infer_instance
def plT(x:Int):Prop:=x=1099511627776∨inT x
instance (t : Int) : Decidable (plT t) := by unfold plT; infer_instance
def x9(w:Wh)(n:Int):Bool:=decide ((w.frm.length:Int)=n∧inT w.time)&&(List.range w.frm.length).all fun j=>decide (plT (nth w.frm j))
def rN(m:bP)(w:Wh):Bool:=x9 w m.places.length&&decide (oM m w.time none w.frm=w.frm)
theorem tz{w:Wh}{n:Int}(h:x9 w n=true):(w.frm.length:Int)=n∧inT w.time∧∀x∈w.frm,plT x:=by
 simp only[x9,Bool.and_eq_true,decide_eq_true_eq,List.all_eq_true,List.mem_range]at h
 refine⟨h.1.1,h.1.2,fun x hx=>?_⟩
 obtain⟨j,hj⟩:=List.mem_iff_getElem?.1 hx
 have:=h.2 j (List.getElem?_eq_some_iff.1 hj).1
 rwa [eR hj]at this
def ya(n:Nat):List Int:=List.replicate n 1099511627776
@[simp] theorem Ix (n : Nat) : (ya n).length = n := List.length_replicate
def yb(m:bP)(p t:Int):Wh×Int:=
 if p<0∨(m.places.length:Int)≤p then(⟨0,[]⟩,3)else if inT t then(⟨t,oM m t none ((ya m.places.length).set p.toNat t)⟩,0)else(⟨0,[]⟩,8)
def yc(w:Wh)(t:Int):Wh×Int:=if t<w.time∨2147483648<t then(w,8)else(⟨t,w.frm⟩,0)
def uQ(m:bP)(w:Wh)(places:List Int)(a b:Int):Int:=
 if rN m w=true∧places≠[]∧qI places m.places.length=true then(if inT a∧inT b∧a≤b then 0 else 8)else 6
def E8(w:Wh)(t p:Int)(s:List Int×Bool):List Int×Bool:=if nth w.frm p.toNat≤t then(s.1.set p.toNat (nth w.frm p.toNat),true)else s
def Rv(w:Wh)(l:List Int)(t:Int)(n:Nat):Nat→List Int×Bool
 | 0=>(ya n,false)
 | j+1=>E8 w t (nth l j) (Rv w l t n j)
def SS(m:bP)(w:Wh)(l:List Int)(a b:Int):Wh×Int:=
 if uQ m w l a b≠0 then(w,uQ m w l a b)else if a<w.time then(w,42)else
 if(Rv w l b m.places.length l.length).2=true then(⟨b,oM m a none (Rv w l b m.places.length l.length).1⟩,0)else(w,43)
theorem tA{m:bP}{w:Wh}(h:rN m w=true):w.frm.length=m.places.length∧inT w.time∧(∀x∈w.frm,plT x)∧oM m w.time none w.frm=w.frm:=by
 simp only[rN,Bool.and_eq_true,decide_eq_true_eq]at h
 obtain⟨h1,h2,h3⟩:=tz h.1
 exact⟨by omega,h2,h3,h.2⟩
def SU(l0 l:List Int):Nat→List Int
 | 0=>l0
 | j+1=>(SU l0 l j).set (nth l j).toNat 1099511627776
def SV(m:bP)(w:Wh)(l:List Int)(a b bl:Int):Wh×Int:=
 if uQ m w l a b≠0 then(w,uQ m w l a b)else if ¬inT bl then(w,8)else if b<w.time then(w,42)else if b-max a w.time≤bl then(w,0)else
 (⟨b,oM m b none (oM m (b-bl) (some l) (SU w.frm l l.length))⟩,0)
def SW(a b:List Int):Nat→List Int
 | 0=>[]
 | j+1=>SW a b j++[min (nth a j) (nth b j)]
def yd(a b:Wh):Wh×Int:=if a.frm.length=b.frm.length then(⟨max a.time b.time,SW a.frm b.frm a.frm.length⟩,0)else(⟨0,[]⟩,6)
structure Spn where
 low:Int
 high:Int
instance : Dat Spn := ⟨⟨0, 0⟩⟩
abbrev Spn.e(f:Spn):T:= .agg [tI f.low,tI f.high]
def Spn.ok(f:Spn):Prop:= -1125899906842624≤f.low∧f.high≤1125899906842624∧f.low≤f.high
instance (f : Spn) : Decidable f.ok := by unfold Spn.ok; infer_instance
def ye(m:bP)(l:List Spn):Bool:=(List.range l.length).all (fun j=>decide (nth l j).ok)&&decide (l.length=m.roads.length)
def mw(x:Road)(f:Spn)(back:Bool):Int:=
 if x.closed=true then -1 else
 let g:=if back then -f.low else f.high
 let out:=if 0<g then(x.len*x.area*1000).tdiv g else -1
 if(if back then f.low<500*x.area else -500*x.area<f.high)∧(out<0∨x.len<out)then x.len else out
def LH(l:List Int)(p q:Nat)(t:Int):Bool:=decide (0≤t∧nth l p+t<nth l q)
def Rw(l:List Int)(p q:Nat)(t:Int):List Int:=if LH l p q t=true then l.set q (nth l p+t)else l
def B6(m:bP)(fl:List Spn)(k:Nat)(back:Bool)(l:List Int):List Int×Bool:=
 (Rw l ((nth m.roads k).src back).toNat ((nth m.roads k).dst back).toNat (mw (nth m.roads k) (nth fl k) back),LH l ((nth m.roads k).src back).toNat ((nth m.roads k).dst back).toNat (mw (nth m.roads k) (nth fl k) back))
def LI(m:bP)(fl:List Spn)(k:Nat)(s:List Int×Bool):List Int×Bool:=
 let a:=B6 m fl k false s.1
 let b:=B6 m fl k true a.1
 (b.1,s.2||a.2||b.2)
def yf(m:bP)(fl:List Spn)(l:List Int):Nat→List Int×Bool
 | 0=>(l,false)
 | k+1=>LI m fl k (yf m fl l k)
def E9(m:bP)(fl:List Spn)(l:List Int):List Int×Bool:=yf m fl l m.roads.length
section
variable {m : bP} (h : m.ok) {fl : List Spn}
include h
end
def OA(l:List Int):Nat→List Int
 | 0=>l
 | j+1=>if 2147483648<nth (OA l j) j then(OA l j).set j 1099511627776 else OA l j
def B7(m:bP)(fl:List Spn)(l:List Int):List Int:=OA (xU (E9 m fl) (SR l+1) l) m.places.length
end Go.Ev
namespace Go.Ev
open Go
variable [Lib] [bq] [bu]
def plS(t x:Int):Prop:=x=1099511627776∨(t≤x∧x≤2147483648)
instance (t x : Int) : Decidable (plS t x) := by unfold plS; infer_instance
def yg(m:bP)(s:Wh):Bool:=(List.range s.frm.length).all (fun j=>decide (plS s.time (nth s.frm j)))&&decide (s.frm.length=m.places.length∧inT s.time)
def Fa(l:List Int)(t:Int)(n:Nat):List Int:=(List.range n).map fun(p:Nat)=>if(p:Int)∈l then t else 1099511627776
@[simp] theorem LJ (l : List Int) (t : Int) (n : Nat) : (Fa l t n).length = n := by simp [Fa]
def LK(m:bP)(fl:List Spn)(l:List Int)(t:Int):Wh×Int:=
 if ye m fl=false then(⟨0,[]⟩,6)else if qI l m.places.length=false then(⟨0,[]⟩,3)else if ¬inT t then(⟨0,[]⟩,8)else
 (⟨t,B7 m fl (Fa l t m.places.length)⟩,0)
def B8(m:bP)(fl:List Spn)(frm:List Int)(t:Int)(k:Nat)(back:Bool)(l:List Int):List Int:=
 if nth frm ((nth m.roads k).src back).toNat≤t∧0≤mw (nth m.roads k) (nth fl k) back then l.set ((nth m.roads k).dst back).toNat (min (nth l ((nth m.roads k).dst back).toNat) t)else l
def LL(m:bP)(fl:List Spn)(frm:List Int)(t:Int)(k:Nat)(l:List Int):List Int:=B8 m fl frm t k true (B8 m fl frm t k false l)
def chN(m:bP)(fl:List Spn)(frm:List Int)(t:Int):Nat→List Int
 | 0=>frm
 | k+1=>LL m fl frm t k (chN m fl frm t k)
def Rx(t:Int)(l:List Int):Nat→List Int
 | 0=>l
 | k+1=>(Rx t l k).set k (max (nth (Rx t l k) k) t)
def Fb(m:bP)(old:List Spn)(next:bP)(fl:List Spn)(s:Wh)(t:Int):Wh×Int:=
 if yg m s=false∨ye m old=false∨ye next fl=false∨next.places.length≠m.places.length then(s,6)else
 if t<s.time∨2147483648<t then(s,8)else(⟨t,B7 next fl (Rx t (chN m old s.frm t m.roads.length) m.places.length)⟩,0)
def LM(a b:List Int):Bool:=match (List.range (min a.length b.length)).find? (fun j=>decide (nth a j≠nth b j))with
 | some j=>decide (nth a j<nth b j)
 | none=>decide (a.length<b.length)
def dT(l:List Int)(x:Int):Int:=match (List.range l.length).find? (fun j=>decide (nth l j=x))with
 | some j=>j
 | none=> -1
theorem vL{l:List Int}{x:Int}(h:0≤dT l x):dT l x<l.length∧nth l (dT l x).toNat=x:=by
 unfold dT at h ⊢
 cases hf:(List.range l.length).find? (fun j=>decide (nth l j=x))with
 | some j=>
   obtain⟨h1,h2⟩:=xV hf
   simp only[Int.toNat_natCast]
   exact⟨by omega,of_decide_eq_true h2⟩
 | none=>rw[hf]at h;simp at h
def qp(l:List Int)(j:Nat):Bool:=decide (1≤nth l j∧nth l j≤65535∧dT (l.take j) (nth l j)<0)
def ei(l:List Int):Bool:=(List.range l.length).all (qp l)
structure World where
 tags:List Int
 whr:List Wh
instance : Dat World := ⟨⟨[], []⟩⟩
abbrev World.e(x:World):T:= .agg [tL x.tags,.sl (x.whr.map Wh.e)]
structure Bel where
 worlds:List World
instance : Dat Bel := ⟨⟨[]⟩⟩
abbrev Bel.e(b:Bel):T:= .agg [.sl (b.worlds.map World.e)]
def World.sz(x:World):Prop:=x.tags.length≤1000000∧x.whr.length≤1000000∧∀w∈x.whr,w.frm.length≤1000000
def Bel.sz(b:Bel):Prop:=b.worlds.length≤1000000∧∀x∈b.worlds,x.sz
@[go_sem] theorem Fc (l : List Wh) : aV 2 (l.map Wh.e) = true := dL 2 _ (fun _ => rfl) l
@[go_sem] theorem zc (l : List World) : aV 2 (l.map World.e) = true := dL 2 _ (fun _ => rfl) l
@[go_sem] theorem OB (l : List Wh) : fJ 2 (l.map Wh.e) = true := by cases l <;> rfl
@[go_sem] theorem Fe (l : List World) : fJ 2 (l.map World.e) = true := by cases l <;> rfl
def TS(m:bP)(first:List Int)(x:World)(k:Nat):Bool:=decide (0≤dT first (nth x.tags k))&&rN m (nth x.whr k)
def LN(m:bP)(ws:List World)(first:List Int)(i:Nat):Bool:=
 decide ((nth ws i).tags.length=first.length∧(nth ws i).whr.length=first.length)&&ei (nth ws i).tags&&(decide (i=0)||LM (nth ws (i-1)).tags (nth ws i).tags)&&(List.range (nth ws i).tags.length).all (TS m first (nth ws i))
def SX(m:bP)(b:Bel):Bool:=
 decide (1≤b.worlds.length∧b.worlds.length≤24)&&decide (1≤(nth b.worlds 0).tags.length∧(nth b.worlds 0).tags.length≤12)&&(List.range b.worlds.length).all (LN m b.worlds (nth b.worlds 0).tags)
end Go.Ev
namespace Go.Ev.N
def yh:Nat:=78
def wG:Nat:=79
def vM:Nat:=80
def Ff:Nat:=81
def zd:Nat:=82
def Fg:Nat:=83
def Fh:Nat:=84
def Fi:Nat:=85
def Iy:Nat:=86
def B9:Nat:=87
def Fj:Nat:=88
def Ca:Nat:=89
def Cb:Nat:=90
def Iz:Nat:=91
def Cc:Nat:=92
def IA:Nat:=93
def LO:Nat:=94
def LP:Nat:=95
def Fk:Nat:=96
def IB:Nat:=97
def Fl:Nat:=98
def Fm:Nat:=99
def Fo:Nat:=100
def IC:Nat:=101
def LQ:Nat:=102
def sG:Nat:=103
def AD:Nat:=104
def bU:Nat:=105
def Cd:Nat:=106
def ID:Nat:=107
def IE:Nat:=108
def Fp:Nat:=109
def IF:Nat:=110
def IG:Nat:=111
def Fq:Nat:=112
def Fs:Nat:=113
def dq:Nat:=114
def Ce:Nat:=115
def IH:Nat:=116
def II:Nat:=117
def Cf:Nat:=118
def Cg:Nat:=119
def AE:Nat:=120
def AF:Nat:=121
def uR:Nat:=122
end Go.Ev.N
namespace Go.Ev.K
open Go.Ev
end Go.Ev.K
namespace Go.Ev
class dw [Lib]:Prop where
namespace K
variable [Lib] [dw]
end K
end Go.Ev
namespace Go.Ev.K
open Go.Ev
def b6:C:=(.its [u (.bin .lss v8 v7)] [] 0 .skip (.exit 0) (.seq (.blk 1 (.seq (.reg [m v8,a 1 v6 v8,g l0,w 4 (.mv l2),w 5 (.mv l1)] []) (.ite [m v5,m v1,u (.bin .lss l1 l0),m l0,y 0 false (.mv v5),y 1 false (.mv v2),y 2 false (.bin .gtr l1 l0),u (.pk l3 (.b true) l0),m l0,y 0 false (.mv v4),y 1 false (.bin .gtr l0 (.i 0)),y 2 false (.mv l0),y 0 true (.mv v5),y 1 true (.mv v0),y 2 true (.mv v4),y 3 true (.bin .sub l0 (.i 1)),y 4 true (.ia l2 l0 1),y 5 true (.ld l0 1 false),y 6 true (.bin .leq l5 l0),y 10 false (.pk l7 l0 (.b false)),u (.pk l11 (.b true) l0)] [] 0 (.seq (.reg [w 3 (.mv (.b false))] []) .ret) .skip))) (.reg [u (.bin .add v8 (.i 1)),w 8 (.mv l0)] [])))
def jj:C:= .loop true [3,4,5] K.b6
def bU:Fn:={ nargs:=3,vars:=[0,1,2,6,7,8,9,10,11],body:=(.seq (.reg [w 3 (.mv (.b false))] []) (.seq (.seq (.reg [w 6 (.mv v0),w 7 (.ln l0),w 8 (.mv (.i 0))] []) (.blk 0 K.jj)) (.seq (.reg [w 3 (.mv (.b true))] []) .ret))),res:=[(3,none)]}
def dq:Fn:={ nargs:=1,vars:=[0,1,2],body:=(.seq (.reg [w 1 (.bx v0 2),w 2 (.al [.nil,.nil] [])] []) (.seq (.reg [f 0 v1,g l0,u (.app (.c (.nil)) l0 true 2),f 1 v1,g l0,u (.app (.c (.nil)) l0 true 10),u (.bd [.nil,.nil] [(0,1,.l 3),(1,1,.l 0)]),u (.st v2 l0 2 [])] [(4,0)]) .ret)),res:=[(2,some (2,true))]}
end Go.Ev.K
namespace Go.Ev
class dr [Lib]:Prop where
 gE:Lib.fs N.bU=some K.bU
 jk:Lib.fs N.dq=some K.dq
namespace K
variable [Lib] [dr]
theorem gE:Lib.fs N.bU=some K.bU:=dr.gE
theorem jk:Lib.fs N.dq=some K.dq:=dr.jk
end K
end Go.Ev
namespace Go.Ev
open Go
variable [Lib] [bq] [bu] [dw] [dr]
def yi(l:List Int)(lo hi:Int)(j:Nat):Bool:= !decide (lo≤nth l j∧nth l j≤hi∧(0<j→nth l (j-1)<nth l j))
def Ch(l:List Int)(lo hi:Int):Bool:= !((List.range l.length).any (yi l lo hi))
theorem rO(l:List Int)(lo hi:Int)(hl:l.length≤4294967296):br 0 N.bU [.t (tL l),I lo,I hi] []=some (B (Ch l lo hi),[]):=by
 refine aO K.gE rfl ?_
 have loop:∀a b c:D,exS br K.jj ⟨[.t (tL l),I lo,I hi,a,b,c,.t (tL l),I l.length,I 0],[]⟩=
  some (if(List.range l.length).any (yi l lo hi)=true
   then(.ret,⟨[.t (tL l),I lo,I hi,B false,I (oH l.length (yi l lo hi)),I (nth l (oH l.length (yi l lo hi))),.t (tL l),I l.length,I (oH l.length (yi l lo hi))],[]⟩)
   else(.exit 0,⟨[.t (tL l),I lo,I hi,.und,.und,.und,.t (tL l),I l.length,I l.length],[]⟩)):=by
  intro a b c
  refine lA (fun j=>⟨[.t (tL l),I lo,I hi,.und,.und,.und,.t (tL l),I l.length,I j],[]⟩) l.length (yi l lo hi) (fun j=>(.ret,⟨[.t (tL l),I lo,I hi,B false,I j,I (nth l j),.t (tL l),I l.length,I j],[]⟩)) _ rfl ?_ ?_ ?_ (by simp)
  · intro j hj hp
    simp only[yi,Bool.not_eq_false',decide_eq_true_eq]at hp
    obtain⟨h1,h2,h3⟩:=hp
    cases j with
    | zero=>simp (disch:=omega) only[go_sem,K.b6,↓reduceIte]
    | succ j=>
      have h3:=h3 (by omega)
      rw[Nat.add_sub_cancel]at h3
      simp (disch:=omega) only[go_sem,K.b6,↓reduceIte]
  · intro j hj hp
    simp only[yi,Bool.not_eq_true',decide_eq_false_iff_not]at hp
    refine⟨?_,by simp⟩
    by_cases h1:lo≤nth l j
    · by_cases h2:nth l j≤hi
      · cases j with
        | zero=>exact absurd ⟨h1,h2,fun h=>absurd h (by omega)⟩ hp
        | succ j=>
          have h3:¬nth l j<nth l (j+1):=fun h=>hp ⟨h1,h2,fun _=>by simpa using h⟩
          simp (disch:=omega) only[go_sem,K.b6,↓reduceIte]
      · simp (disch:=omega) only[go_sem,K.b6,↓reduceIte]
    · simp (disch:=omega) only[go_sem,K.b6,↓reduceIte]
  · simp (disch:=omega) only[go_sem,K.b6,↓reduceIte]
 unfold Ch
 simp (disch:=omega) only[go_sem,K.bU,↓reduceIte,loop]
 cases hf:(List.range l.length).any (yi l lo hi)with
 | true=>simp (disch:=omega) only[go_sem,↓reduceIte]
 | false=>simp (disch:=omega) only[go_sem,↓reduceIte,Bool.false_eq_true]
theorem Ft(l:List Int)(n:Int):Ch l 0 (n-1)=qI l n:=by
 unfold Ch qI
 rw[E5]
 refine congrArg (!·) (congrArg _ (funext fun j=>?_))
 unfold yi
 refine congrArg (!·) (decide_eq_decide.2 ⟨fun h=>⟨h.1,by omega,h.2.2⟩,fun h=>⟨h.1,by omega,h.2.2⟩⟩)
structure OC where
 st:Int
 fi:Int
 se:Int
 ti:Int
abbrev OC.e(s:OC):T:= .agg [tI s.st,tI s.fi,tI s.se,tI s.ti]
structure AG where
 area:List Int
 hold:Int
 mis:Int
abbrev AG.e(x:AG):T:= .agg [tL x.area,tI x.hold,tI x.mis]
structure Keys where
 roads:List Int
 keys:List Int
 out:Bool
abbrev Keys.e(k:Keys):T:= .agg [tL k.roads,tL k.keys,.bool k.out]
end Go.Ev
namespace Go.Ev
open Go
variable [Lib] [bq] [bu]
@[go_sem] theorem Fu (l : List Place) : fJ 2 (l.map Place.e) = true := by cases l <;> rfl
@[go_sem] theorem IJ (l : List Road) : fJ 10 (l.map Road.e) = true := by cases l <;> rfl
@[go_sem] theorem IK (H : ab) (d : aB) : zY H 0 1 false (some d.obj) = some (.t (tL d.L), H) := by simp only [aB.obj, go_sem]
def aB.bV(d:aB):Nat→List Place×aB
 | 0=>([],d)
 | k+1=>if k=0 then((d.bV k).1++[⟨-10*((d.bV k).2.next 4).1,true⟩],((d.bV k).2.next 4).2)
   else((d.bV k).1++[⟨-10*((d.bV k).2.next 4).1,(((d.bV k).2.next 4).2.one 6).1⟩],(((d.bV k).2.next 4).2.one 6).2)
def aB.vN(d:aB)(i:Int):Road×aB:=
 (⟨i-1-(d.next (min i 2)).1,i,1+((d.next (min i 2)).2.of [11,59,119,4]).1,1+(((d.next (min i 2)).2.of [11,59,119,4]).2.of [9,3,19]).1,true,false,1,1,0,0⟩,
   (((d.next (min i 2)).2.of [11,59,119,4]).2.of [9,3,19]).2)
def aB.eI(d:aB):Nat→List Road×aB
 | 0=>([],d)
 | k+1=>((d.eI k).1++[((d.eI k).2.vN (k+1)).1],((d.eI k).2.vN (k+1)).2)
def aB.iK(d:aB)(n:Int):Road×aB:=
 let a:=d.next n
 let b:=a.2.next n
 let l:=b.2.of [11,59,199]
 let r:=l.2.of [9,3]
 let w:=r.2.next 5
 let c:=w.2.one 6
 (⟨a.1,b.1,1+l.1,1+r.1,decide (0<w.1),c.1,1,1,0,0⟩,c.2)
def aB.more(n:Int)(l:List Road)(d:aB):Nat→List Road×aB
 | 0=>(l,d)
 | k+1=>if l.length<10 then aB.more n (if(d.iK n).1.frm=(d.iK n).1.to then l else l++[(d.iK n).1]) (d.iK n).2 k else(l,d)
def aB.kz(d:aB):Nat:=if d.L.length=0 then 4 else(2+(d.next 6).1).toNat
def aB.yj(d:aB):List Place×aB:=(d.next 6).2.bV d.kz
def aB.qq(d:aB):List Road×aB:=d.yj.2.eI (d.kz-1)
def aB.AH(d:aB):List Road×aB:=aB.more d.kz d.qq.1 (d.qq.2.next 4).2 (d.qq.2.next 4).1.toNat
def aB.rP(d:aB):bP×aB:=(⟨d.yj.1,d.AH.1⟩,d.AH.2)
theorem aB.eJ{d:aB}(h:d.bT):∀n,(d.bV n).2.bT
 | 0=>h
 | n+1=>by
   unfold aB.bV
   split
   · exact aB.bn (aB.eJ h n) 4
   · exact aB.oI (aB.bn (aB.eJ h n) 4) 6
theorem aB.iL(d:aB):∀n,(d.bV n).1.length=n
 | 0=>rfl
 | n+1=>by
   unfold aB.bV
   split<;>simp[d.iL n]
theorem aB.tB{d:aB}(h:d.bT)(i:Int):(d.vN i).2.bT:=aB.gx (aB.gx (aB.bn h _) _) _
theorem aB.gy{d:aB}(h:d.bT):∀n,(d.eI n).2.bT
 | 0=>h
 | n+1=>aB.tB (aB.gy h n) _
theorem aB.jN(d:aB):∀n,(d.eI n).1.length=n
 | 0=>rfl
 | n+1=>by simp[aB.eI,d.jN n]
theorem aB.oN{d:aB}(h:d.bT)(n:Int):(d.iK n).2.bT:=by
 unfold aB.iK;simp only
 exact aB.oI (aB.bn (aB.gx (aB.gx (aB.bn (aB.bn h _) _) _) _) _) _
theorem aB.pS(n:Int):∀(k:Nat) (l:List Road) {d:aB},d.bT→(aB.more n l d k).2.bT
 | 0,l,d,h=>h
 | k+1,l,d,h=>by
   unfold aB.more
   split
   · exact aB.pS n k _ (aB.oN h n)
   · exact h
theorem aB.vO{d:aB}(h:d.bT):d.rP.2.bT:=
 aB.pS _ _ _ (aB.bn (aB.gy (aB.eJ (aB.bn h _) _) _) _)
abbrev qs:List D:=[I 0,I 0,I 12,I 10,B true,B false,I 1,I 1,I 0,I 0]
theorem vP(d:aB)(hd:d.bT)(n:Nat)(hn:n≤8)(a b c e f:D):
 exS br K.gW ⟨[.bp 0 0,.bp 1 0,.bp 2 0,I n,I 0,a,b,c,e,f],[d.obj,.box [.nil,.nil],.box [.ref 3 0 0,.ref 4 0 0],.arr 2 false 0 [],.arr 10 false 0 []]⟩=
 some (.exit 0,⟨[.bp 0 0,.bp 1 0,.bp 2 0,I n,I n,.und,.und,.und,.und,.und],[(d.bV n).2.obj,.box [.nil,.nil],.box [.ref 3 0 (d.bV n).1.length,.ref 4 0 0],.arr 2 false 0 (((d.bV n).1.map Place.e).map .t),.arr 10 false 0 []]⟩):=by
 refine cW (fun j=>⟨[.bp 0 0,.bp 1 0,.bp 2 0,I n,I j,.und,.und,.und,.und,.und],[(d.bV j).2.obj,.box [.nil,.nil],.box [.ref 3 0 (d.bV j).1.length,.ref 4 0 0],.arr 2 false 0 (((d.bV j).1.map Place.e).map .t),.arr 10 false 0 []]⟩) n rfl ?_ ?_ (by simp)
 · intro j hj
   have ln:=d.iL j
   have lt:=aB.eJ hd j
   simp only[aB.bV]
   generalize d.bV j=s at*
   obtain⟨l,d1⟩:=s
   simp only at ln lt ⊢
   have h1:=fX d1 4 (by omega) lt
   have b1:=d1.fw 4
   have b2:=d1.fx (n:=4) (by omega)
   have l1:=aB.bn lt 4
   generalize d1.next 4=a1 at*
   obtain⟨x,d2⟩:=a1
   simp only at h1 b1 b2 l1 ⊢
   by_cases j0:j=0
   · subst j0
     simp (disch:=omega) only[go_sem,K.dD,h1,↓reduceIte,Nat.reduceAdd,Nat.reduceSub]
   · have h2:=xZ d2 6 (by omega) (by omega) l1
     simp (disch:=omega) only[go_sem,K.dD,h1,h2,j0,↓reduceIte,Nat.reduceAdd,Nat.reduceSub]
 · simp (disch:=omega) only[go_sem,K.dD,↓reduceIte]
theorem vQ(d:aB)(hd:d.bT)(n:Nat)(hn:n≤8)(h1:1≤n)(ps:List Place)(a b c e:D):
 exS br K.gX ⟨[.bp 0 0,.bp 1 0,.bp 2 0,I n,a,.bp 5 0,I 1,b,c,e],[d.obj,.box [.nil,.nil],.box [.ref 3 0 ps.length,.ref 4 0 0],.arr 2 false 0 ((ps.map Place.e).map .t),.arr 10 false 0 [],.box qs]⟩=
 some (.exit 2,⟨[.bp 0 0,.bp 1 0,.bp 2 0,I n,.und,.bp 5 0,I n,.und,.und,.und],[(d.eI (n-1)).2.obj,.box [.nil,.nil],.box [.ref 3 0 ps.length,.ref 4 0 (d.eI (n-1)).1.length],.arr 2 false 0 ((ps.map Place.e).map .t),.arr 10 false 0 (((d.eI (n-1)).1.map Road.e).map .t),.box qs]⟩):=by
 refine cW (fun j=>⟨[.bp 0 0,.bp 1 0,.bp 2 0,I n,.und,.bp 5 0,I (j+1),.und,.und,.und],[(d.eI j).2.obj,.box [.nil,.nil],.box [.ref 3 0 ps.length,.ref 4 0 (d.eI j).1.length],.arr 2 false 0 ((ps.map Place.e).map .t),.arr 10 false 0 (((d.eI j).1.map Road.e).map .t),.box qs]⟩) (n-1) rfl ?_ ?_ (by simp)
 · intro j hj
   have ln:=d.jN j
   have lt:=aB.gy hd j
   simp only[aB.eI]
   generalize d.eI j=s at*
   obtain⟨l,d1⟩:=s
   simp only[aB.vN]at ln lt ⊢
   have h1:=fX d1 (min ((j:Int)+1) 2) (by omega) lt
   have b1:=d1.fw (min ((j:Int)+1) 2)
   have b2:=d1.fx (n:=min ((j:Int)+1) 2) (by omega)
   have l1:=aB.bn lt (min ((j:Int)+1) 2)
   generalize d1.next (min ((j:Int)+1) 2)=a1 at*
   obtain⟨x,d2⟩:=a1
   simp only at h1 b1 b2 l1 ⊢
   have h2:=x0 d2 [11,59,119,4] (by simp) (by simp) l1
   have m2:=d2.lB (l:=[11,59,119,4]) (by simp)
   have l2:=aB.gx l1 [11,59,119,4]
   generalize d2.of [11,59,119,4]=a2 at*
   obtain⟨y,d3⟩:=a2
   simp only[tL,List.map_cons,List.map_nil]at h2 m2 l2 ⊢
   have h3:=x0 d3 [9,3,19] (by simp) (by simp) l2
   have m3:=d3.lB (l:=[9,3,19]) (by simp)
   generalize d3.of [9,3,19]=a3 at*
   obtain⟨z,d4⟩:=a3
   simp only[tL,List.map_cons,List.map_nil,List.mem_cons,List.not_mem_nil,or_false]at h3 m2 m3 ⊢
   simp (disch:=omega) only[go_sem,K.eH,h1,h2,h3,↓reduceIte,Nat.reduceAdd,Nat.reduceSub]
 · simp (disch:=omega) only[go_sem,K.eH,↓reduceIte]
   rw[show((n-1:Nat):Int)+1=n by omega]
abbrev rQ(d:aB)(ps:List Place)(l:List Road):ab:=[d.obj,.box [.nil,.nil],.box [.ref 3 0 ps.length,.ref 4 0 l.length],.arr 2 false 0 ((ps.map Place.e).map .t),.arr 10 false 0 ((l.map Road.e).map .t),.box qs]
theorem vR(d:aB)(hd:d.bT)(n:Int)(hn:1≤n)(hn2:n≤8)(ps:List Place)(l:List Road)(hl:l.length<10)(k:Nat)(hk:k≤10):
 gw true [4,6,7,9] 6 (exS br K.bK ⟨[.bp 0 0,.bp 1 0,.bp 2 0,I n,.und,.bp 5 0,.und,.und,I (k+1),.und],rQ d ps l⟩)=
 some ⟨[.bp 0 0,.bp 1 0,.bp 2 0,I n,.und,.bp 5 0,.und,.und,I k,.und],rQ (d.iK n).2 ps (if(d.iK n).1.frm=(d.iK n).1.to then l else l++[(d.iK n).1])⟩:=by
 unfold aB.iK rQ
 simp only
 have h1:=fX d n (by omega) hd
 have l1:=aB.bn hd n
 generalize d.next n=a1 at*
 obtain⟨x1,d1⟩:=a1
 simp only at h1 l1 ⊢
 have h2:=fX d1 n (by omega) l1
 have l2:=aB.bn l1 n
 generalize d1.next n=a2 at*
 obtain⟨x2,d2⟩:=a2
 simp only at h2 l2 ⊢
 have h3:=x0 d2 [11,59,199] (by simp) (by simp) l2
 have m3:=d2.lB (l:=[11,59,199]) (by simp)
 have l3:=aB.gx l2 [11,59,199]
 generalize d2.of [11,59,199]=a3 at*
 obtain⟨x3,d3⟩:=a3
 simp only[tL,List.map_cons,List.map_nil]at h3 m3 l3 ⊢
 have h4:=x0 d3 [9,3] (by simp) (by simp) l3
 have m4:=d3.lB (l:=[9,3]) (by simp)
 have l4:=aB.gx l3 [9,3]
 generalize d3.of [9,3]=a4 at*
 obtain⟨x4,d4⟩:=a4
 simp only[tL,List.map_cons,List.map_nil]at h4 m4 l4 ⊢
 have h5:=fX d4 5 (by omega) l4
 have l5:=aB.bn l4 5
 generalize d4.next 5=a5 at*
 obtain⟨x5,d5⟩:=a5
 simp only at h5 l5 ⊢
 have h6:=xZ d5 6 (by omega) (by omega) l5
 generalize d5.one 6=a6 at*
 obtain⟨x6,d6⟩:=a6
 simp only[List.mem_cons,List.not_mem_nil,or_false]at h6 m3 m4 ⊢
 by_cases e:x1=x2
 · simp (disch:=omega) only[go_sem,K.bK,h1,h2,h3,h4,h5,h6,e,↓reduceIte,Nat.reduceAdd,Nat.reduceSub]
 · simp (disch:=omega) only[go_sem,K.bK,h1,h2,h3,h4,h5,h6,e,↓reduceIte,Nat.reduceAdd,Nat.reduceSub]
theorem pT(n:Int)(hn:1≤n)(hn2:n≤8)(ps:List Place):∀(k:Nat) (d:aB) (l:List Road),d.bT→l.length≤10→k≤10→
 ∃z:Int,gA true [4,6,7,9] (exS br K.bK) ⟨[.bp 0 0,.bp 1 0,.bp 2 0,I n,.und,.bp 5 0,.und,.und,I k,.und],rQ d ps l⟩=
 some (.exit 4,⟨[.bp 0 0,.bp 1 0,.bp 2 0,I n,.und,.bp 5 0,.und,.und,I z,.und],rQ (aB.more n l d k).2 ps (aB.more n l d k).1⟩)
 | 0,d,l,hd,hl,hk=>by
   refine⟨0,er ?_ (by simp)⟩
   simp (disch:=omega) only[go_sem,K.bK,aB.more,↓reduceIte,Nat.reduceAdd,Nat.reduceSub]
 | k+1,d,l,hd,hl,hk=>by
   by_cases h:l.length<10
   · have hr:=vR d hd n hn hn2 ps l h k (by omega)
     obtain⟨z,hz⟩:=pT n hn hn2 ps k (d.iK n).2 (if(d.iK n).1.frm=(d.iK n).1.to then l else l++[(d.iK n).1]) (aB.oN hd n) (by split<;>(try rw[List.length_append,List.length_singleton])<;>omega) (by omega)
     refine⟨z,mm hr ?_⟩
     rw[hz]
     simp only[aB.more,if_pos h]
   · refine⟨(k:Int)+1,er ?_ (by simp)⟩
     simp (disch:=omega) only[go_sem,K.bK,aB.more,↓reduceIte,Nat.reduceAdd,Nat.reduceSub]
theorem aB.uS(n:Int):∀(k:Nat) (l:List Road) (d:aB),l.length≤10→(aB.more n l d k).1.length≤10
 | 0,l,d,h=>h
 | k+1,l,d,h=>by
   unfold aB.more
   split
   · exact aB.uS n k _ _ (by split<;>(try rw[List.length_append,List.length_singleton])<;>omega)
   · exact h
theorem aB.nI(d:aB):2≤d.kz∧d.kz≤7:=by
 unfold aB.kz
 have:=d.fw 6
 have:=d.fx (n:=6) (by omega)
 split<;>omega
theorem Fv(d:aB)(hd:d.bT):br 0 N.bh [.bp 0 0] [d.obj]=some (.t d.rP.1.e,[d.rP.2.obj]):=by
 refine aO K.fp rfl ?_
 have nb:=d.nI
 unfold aB.rP
 have h0:=fX d 6 (by omega) hd
 have l0:=aB.bn hd 6
 have b1:=d.fw 6
 have b2:=d.fx (n:=6) (by omega)
 have hL:=d.B1 6
 have hN:(d.kz:Int)=if d.L.length=0 then 4 else 2+(d.next 6).1:=by unfold aB.kz;split<;>omega
 have e1:d.AH=aB.more d.kz d.qq.1 (d.qq.2.next 4).2 (d.qq.2.next 4).1.toNat:=rfl
 have e2:d.qq=d.yj.2.eI (d.kz-1):=rfl
 have e3:d.yj=(d.next 6).2.bV d.kz:=rfl
 generalize d.AH=X at*
 generalize d.qq=R at*
 generalize d.yj=P at*
 generalize d.kz=n at*
 generalize d.next 6=a at*
 obtain⟨x,d1⟩:=a
 simp only at h0 l0 b1 b2 hL hN e3 ⊢
 have q1:=vP d1 l0 n (by omega)
 have lP:=aB.eJ l0 n
 have nP:=d1.iL n
 rw[← e3]at q1 lP nP
 obtain⟨ps,d2⟩:=P
 simp only at q1 lP nP e2 ⊢
 have q2:=vQ d2 lP n (by omega) (by omega) ps
 have lR:=aB.gy lP (n-1)
 have nR:=d2.jN (n-1)
 rw[← e2]at q2 lR nR
 obtain⟨rs,d3⟩:=R
 simp only at q2 lR nR e1 ⊢
 have h4:=fX d3 4 (by omega) lR
 have l4:=aB.bn lR 4
 have b3:=d3.fw 4
 have b4:=d3.fx (n:=4) (by omega)
 generalize d3.next 4=c at*
 obtain⟨y,d4⟩:=c
 simp only at h4 l4 b3 b4 e1 ⊢
 obtain⟨z,q3⟩:=pT n (by omega) (by omega) ps y.toNat d4 rs l4 (by omega) (by omega)
 rw[← e1]at q3
 have q3:=xT (vs:=[.bp 0 0,.bp 1 0,.bp 2 0,I n,.und,.bp 5 0,I n,.und,I y.toNat,.und]) q3
 have ey:(y.toNat:Int)=y:=by omega
 rw[ey]at q3
 obtain⟨xs,d5⟩:=X
 have fin:∀k:Int,(exS br K.gY ⟨[.bp 0 0,.bp 1 0,.bp 2 0,I n,.und,.bp 5 0,I n,.und,I y,.und],rQ d4 ps rs⟩)=
  some (.exit 4,⟨[.bp 0 0,.bp 1 0,.bp 2 0,I n,.und,.bp 5 0,.und,.und,I z,.und],rQ d5 ps xs⟩):=fun _=>q3
 clear q3
 have q3:=fin 0
 clear fin
 simp only[rQ]at q3
 by_cases c0:d.L.length=0
 · rw[if_pos c0]at hN
   obtain rfl:n=4:=by omega
   have e4:((4:Nat):Int)=4:=rfl
   simp only[e4]at q1 q2 q3
   simp (disch:=omega) only[go_sem,K.bh,↓reduceIte,h0,c0,q1,q2,q3,h4,hL,Nat.reduceAdd,Nat.reduceSub]
 · rw[if_neg c0]at hN
   simp (disch:=omega) only[go_sem,K.bh,↓reduceIte,h0,c0,q1,q2,q3,h4,hL,hN.symm,Nat.reduceAdd,Nat.reduceSub]
theorem aB.AI(d:aB){n:Nat}{i:Int}(h1:1≤i)(h2:i<n):(d.vN i).1.ok n:=by
 have b1:=d.fw (min i 2)
 have b2:=d.fx (n:=min i 2) (by omega)
 have m2:=(d.next (min i 2)).2.lB (l:=[11,59,119,4]) (by simp)
 have m3:=((d.next (min i 2)).2.of [11,59,119,4]).2.lB (l:=[9,3,19]) (by simp)
 simp only[List.mem_cons,List.not_mem_nil,or_false]at m2 m3
 unfold aB.vN
 constructor<;>(simp only;omega)
theorem aB.rR(d:aB){n:Nat}:∀k,k+1≤n→∀r∈(d.eI k).1,r.ok n
 | 0,_,r,hr=>by simp[aB.eI]at hr
 | k+1,h,r,hr=>by
   simp only[aB.eI,List.mem_append,List.mem_singleton]at hr
   rcases hr with hr | rfl
   · exact d.rR k (by omega) r hr
   · exact aB.AI _ (by omega) (by omega)
theorem aB.AJ(d:aB){n:Nat}(hn:1≤n)(hne:(d.iK n).1.frm≠(d.iK n).1.to):(d.iK n).1.ok n:=by
 unfold aB.iK at hne ⊢
 simp only at hne ⊢
 have b1:=d.fw n
 have b2:=d.fx (n:=(n:Int)) (by omega)
 generalize d.next n=a1 at*
 obtain⟨x1,d1⟩:=a1
 simp only at*
 have c1:=d1.fw n
 have c2:=d1.fx (n:=(n:Int)) (by omega)
 generalize d1.next n=a2 at*
 obtain⟨x2,d2⟩:=a2
 simp only at*
 have m3:=d2.lB (l:=[11,59,199]) (by simp)
 generalize d2.of [11,59,199]=a3 at*
 obtain⟨x3,d3⟩:=a3
 simp only at*
 have m4:=d3.lB (l:=[9,3]) (by simp)
 generalize d3.of [9,3]=a4 at*
 obtain⟨x4,d4⟩:=a4
 simp only[List.mem_cons,List.not_mem_nil,or_false]at m3 m4 ⊢
 constructor<;>(simp only;omega)
theorem aB.yk{n:Nat}(hn:1≤n):∀(k:Nat) (l:List Road) (d:aB),(∀r∈l,r.ok n)→∀r∈(aB.more n l d k).1,r.ok n
 | 0,l,d,h=>h
 | k+1,l,d,h=>by
   unfold aB.more
   split
   · refine aB.yk hn k _ _ ?_
     split
     · exact h
     · rename_i hne
       intro r hr
       rcases List.mem_append.1 hr with hr | hr
       · exact h r hr
       · rw[List.mem_singleton.1 hr];exact d.AJ hn hne
   · exact h
theorem aB.rS(n:Int):∀(k:Nat) (l:List Road) (d:aB),l.length≤(aB.more n l d k).1.length
 | 0,l,d=>Nat.le_refl _
 | k+1,l,d=>by
   unfold aB.more
   split
   · refine Nat.le_trans ?_ (aB.rS n k _ _)
     split<;>(try rw[List.length_append])<;>omega
   · exact Nat.le_refl _
theorem aB.rT(d:aB):∀k,∀p∈(d.bV k).1, -30≤p.h∧p.h≤0
 | 0,p,hp=>by simp[aB.bV]at hp
 | k+1,p,hp=>by
   have b1:=(d.bV k).2.fw 4
   have b2:=(d.bV k).2.fx (n:=4) (by omega)
   unfold aB.bV at hp
   split at hp
   all_goals
    simp only[List.mem_append,List.mem_singleton]at hp
    rcases hp with hp | rfl
    · exact d.rT k p hp
    · simp only;omega
theorem aB.oO(d:aB):d.rP.1.places.length=d.kz:=aB.iL _ _
theorem aB.pU(d:aB):d.kz-1≤d.rP.1.roads.length∧d.rP.1.roads.length≤10:=by
 have nb:=d.nI
 have e:d.qq.1.length=d.kz-1:=aB.jN _ _
 constructor
 · rw[← e];exact aB.rS _ _ _ _
 · exact aB.uS _ _ _ _ (by omega)
theorem aB.ym(d:aB):d.rP.1.ok:=by
 have nb:=d.nI
 have h1:=d.oO
 have h2:=d.pU
 refine⟨by omega,by omega,fun p hp=>?_,?_⟩
 · have:=aB.rT _ _ p hp;omega
 · rw[h1]
   exact aB.yk (by omega) _ _ _ (aB.rR _ _ (by omega))
@[go_sem] theorem LR (l : List Spn) : fJ 2 (l.map Spn.e) = true := by cases l <;> rfl
@[go_sem] theorem Ry (l : List Spn) (k : Nat) (a b : Int) : (List.map D.t (List.map Spn.e l)).set k (D.t (T.agg [tI a, tI b])) = List.map D.t (List.map Spn.e (l.set k ⟨a, b⟩)) := by
 rw[List.map_set,List.map_set]
@[go_sem] theorem SY (H : ab) (sz : Nat) (a b c d e f : T) : pO H sz [.t a, .t b, .t c, .t d, .t e, .t f] = if aV sz [a, b, c, d, e, f] = true then some (.t (.sl [a, b, c, d, e, f]), H) else none := je H sz [a, b, c, d, e, f]
@[go_sem] theorem SZ (H : ab) (sz : Nat) (a b c d e f g : T) : pO H sz [.t a, .t b, .t c, .t d, .t e, .t f, .t g] = if aV sz [a, b, c, d, e, f, g] = true then some (.t (.sl [a, b, c, d, e, f, g]), H) else none := je H sz [a, b, c, d, e, f, g]
@[go_sem] theorem S0 (H : ab) (sz : Nat) (a b c d e f g h : T) : pO H sz [.t a, .t b, .t c, .t d, .t e, .t f, .t g, .t h] = if aV sz [a, b, c, d, e, f, g, h] = true then some (.t (.sl [a, b, c, d, e, f, g, h]), H) else none := je H sz [a, b, c, d, e, f, g, h]
@[go_sem] theorem LS {α β γ : Type} {l : List α} {g : α → β} {f : β → γ} {x : γ} {j : Nat} (h : j = l.length) : (List.map f (List.map g l) ++ [x])[j]? = some x := by
 rw[List.getElem?_append_right (by simp;omega)];simp[h]
@[go_sem] theorem OD {α β γ : Type} {l : List α} {g : α → β} {f : β → γ} {x y : γ} {j : Nat} (h : j = l.length) : (List.map f (List.map g l) ++ [x]).set j y = List.map f (List.map g l) ++ [y] := by
 rw[List.set_append_right _ _ (by simp;omega)];simp[h]
def aB.LU(d:aB):Spn×aB:=
 let a:=d.of [0,1000,5000,20000, -5000, -20000,4999,100]
 let b:=a.2.of [0,1,1000,6000]
 let c:=b.2.of [0,1,500]
 let w:=c.2.one 9
 (if w.1=true then⟨-1125899906842624,1125899906842624⟩else⟨a.1-b.1,a.1+c.1⟩,w.2)
def aB.uT(d:aB):Nat→List Spn×aB
 | 0=>([],d)
 | k+1=>((d.uT k).1++[((d.uT k).2.LU).1],((d.uT k).2.LU).2)
def aB.Rz(d:aB)(m:bP):List Spn×aB:=d.uT m.roads.length
theorem LV{gc:Bool}{dead:List Nat}{c:C}{vs:List D}{H:ab}(P:Nat→St→Prop)(n:Nat)(Q:Ex×St→Prop)(h0:P 0 ⟨eD dead vs,H⟩)
 (hs:∀j st,j<n→P j st→(∃st',gw gc dead st.H.length (exS br c st)=some st'∧P (j+1) st')∨∃q,exS br c st=some q∧q.1≠ .normal∧Q q)
 (he:∀st,P n st→∃q,exS br c st=some q∧q.1≠ .normal∧Q q):∃q,exS br (.loop gc dead c) ⟨vs,H⟩=some q∧Q q:=by
 have key:∀(k j:Nat) (st:St),j+k=n→P j st→∃q,gA gc dead (exS br c) st=some q∧Q q:=by
  intro k
  induction k with
  | zero=>
    intro j st hj hp
    obtain⟨q,h1,h2,h3⟩:=he st (by rw[← hj];exact hp)
    exact⟨q,er h1 h2,h3⟩
  | succ k ih=>
    intro j st hj hp
    rcases hs j st (by omega) hp with⟨st',h1,h2⟩ | ⟨q,h1,h2,h3⟩
    · obtain⟨q,h3,h4⟩:=ih (j+1) st' (by omega) h2
      exact⟨q,mm h1 h3,h4⟩
    · exact⟨q,er h1 h2,h3⟩
 exact key n 0 _ (by omega) h0
theorem LW(l:List Int):br 0 N.dY [.t (tL l)] []=some (.bp 0 0,[aB.obj ⟨l,0⟩]):=by
 refine aO K.ku rfl ?_
 simp (disch:=omega) only[go_sem,K.dY,↓reduceIte,aB.obj,Nat.reduceAdd,Nat.reduceSub]
theorem pV{d:aB}(hd:d.bT)(n:Int)(h1:1≤n)(hn:n≤4611686018427387904):
 ∃(v:Int) (e:aB),br 0 N.az [.bp 0 0,I n] [d.obj]=some (I v,[e.obj])∧e.bT∧0≤v∧v<n:=
 ⟨_,_,fX d n hn hd,aB.bn hd n,d.fw n,d.fx h1⟩
theorem RA{d:aB}(hd:d.bT)(n:Int)(h1:0≤n)(hn:n≤4611686018427387904):
 ∃(b:Bool) (e:aB),br 0 N.a8 [.bp 0 0,I n] [d.obj]=some (B b,[e.obj])∧e.bT:=
 ⟨_,_,xZ d n h1 hn hd,aB.oI hd n⟩
theorem RB{d:aB}(hd:d.bT)(l:List Int)(hl:l≠[])(hn:l.length≤4294967296):
 ∃(v:Int) (e:aB),br 0 N.aW [.bp 0 0,.t (tL l)] [d.obj]=some (I v,[e.obj])∧e.bT∧v∈l:=
 ⟨_,_,x0 d l hl hn hd,aB.gx hd l,d.lB hl⟩
theorem LX{d:aB}(hd:d.bT):
 ∃(m:bP) (e:aB),br 0 N.bh [.bp 0 0] [d.obj]=some (.t m.e,[e.obj])∧e.bT∧m.ok∧2≤m.places.length∧m.places.length≤7∧1≤m.roads.length∧m.roads.length≤10:=by
 have b:=d.nI
 have p:=d.oO
 have r:=d.pU
 exact⟨_,_,Fv d hd,aB.vO hd,d.ym,by omega,by omega,by omega,by omega⟩
end Go.Ev
namespace Go.Ev
open Go
variable [Lib] [bq] [bu] [dw] [dr]
abbrev never:Int:=1099511627776
abbrev Wh.box(w:Wh):Obj:= .box [I w.time,.t (tL w.frm)]
structure Req where
 x:AG
 s:OC
 k:Keys
 b:Bel
 t:Int
 from_:Int
abbrev Req.e(r:Req):T:= .agg [tL r.x.area,tI r.x.hold,tI r.x.mis,tI r.s.st,tI r.s.fi,tI r.s.se,tI r.s.ti,tL r.k.roads,tL r.k.keys,.bool r.k.out,.sl (r.b.worlds.map World.e),tI r.t,tI r.from_]
structure Req.sz(r:Req):Prop where
 hx:r.x.area.length≤1000000
 hk:r.k.roads.length≤1000000
 hk2:r.k.keys.length≤1000000
 hb:r.b.sz
section
variable (x : AG) (s : OC) (k : Keys) (b : Bel) (hx : x.area.length ≤ 1000000) (hk : k.roads.length ≤ 1000000) (hk2 : k.keys.length ≤ 1000000) (hb : b.sz)
include hx hk hk2 hb
end
end Go.Ev
namespace Go.Ev
open Go
variable [Lib] [bq] [bu] [dw] [dr]
section
variable (area : List Int) (ha : area.length ≤ 1000000) (xs : List World) (hx : xs.length ≤ 1000000)
include ha hx
end
end Go.Ev
namespace Go.Ev
open Go
section
variable (H : ab) (sz id ep n lo hi : Nat) (i j : Int) (fz : Bool)
def scO(r:D):Option Obj→Option (D×ab)
 | some (.arr sz' _ ep' es)=>if ep=ep'∧n=es.length then(if sz'=sz then some (r,H)else none)else none
 | _=>none
@[go_sem] theorem RC (r : D) (sz' : Nat) (pin : Bool) (es : List D) : scO H sz ep n r (some (.arr sz' pin ep es)) = if n = es.length then (if sz' = sz then some (r, H) else none) else none := by simp [scO]
theorem scR{l h:Nat}:((cM H id ep n).bind fun a=>if l≤h∧h≤n∧a.1=sz then some (D.sub id ep n l h)else none).map (fun d=>(d,H))=if l≤h then(if h≤n then scO H sz ep n (.sub id ep n l h) H[id]? else none)else none:=by
 simp only[cM]
 generalize H[id]?=o
 by_cases h1:l≤h
 · by_cases h2:h≤n
   · rw[if_pos h1,if_pos h2]
     rcases o with _ | (_ | ⟨sz',pin,ep',es⟩)
     · rfl
     · rfl
     · simp only[scO]
       by_cases h3:ep=ep'∧n=es.length
       · rw[if_pos h3,if_pos h3,Option.bind_some]
         by_cases h4:sz'=sz
         · rw[if_pos h4,if_pos ⟨h1,h2,h4⟩];rfl
         · rw[if_neg h4,if_neg fun h=>h4 h.2.2];rfl
       · rw[if_neg h3,if_neg h3];rfl
   · rw[if_pos h1,if_neg h2]
     rcases o with _ | (_ | ⟨sz',pin,ep',es⟩)
     · rfl
     · rfl
     · by_cases h3:ep=ep'∧n=es.length
       · simp only[if_pos h3,Option.bind_some];rw[if_neg fun h=>h2 h.2.1];rfl
       · simp only[if_neg h3];rfl
 · rw[if_neg h1]
   rcases o with _ | (_ | ⟨sz',pin,ep',es⟩)
   · rfl
   · rfl
   · by_cases h3:ep=ep'∧n=es.length
     · simp only[if_pos h3,Option.bind_some];rw[if_neg fun h=>h1 h.1];rfl
     · simp only[if_neg h3];rfl
@[go_sem] theorem Fw : rD H sz (some (.ref id ep n)) (some none) (some (some i)) = if 0 ≤ i then (if i ≤ n then scO H sz ep n (.sub id ep n 0 i.toNat) H[id]? else none) else none := by
 simp only[rD,Option.bind_some,gr,bound,idx]
 by_cases h1:0≤i
 · rw[if_pos h1,if_pos h1,Option.bind_some,scR,if_pos (Nat.zero_le _)]
   by_cases h2:i≤n
   · rw[if_pos h2,if_pos (by omega)]
   · rw[if_neg h2,if_neg (by omega)]
 · rw[if_neg h1,if_neg h1];rfl
@[go_sem] theorem Fx : rD H sz (some (.ref id ep n)) (some (some i)) (some none) = if 0 ≤ i then (if i ≤ n then scO H sz ep n (.sub id ep n i.toNat n) H[id]? else none) else none := by
 simp only[rD,Option.bind_some,gr,bound,idx]
 by_cases h1:0≤i
 · rw[if_pos h1,if_pos h1,Option.bind_some,scR]
   by_cases h2:i≤n
   · rw[if_pos h2,if_pos (by omega),if_pos (by omega)]
   · rw[if_neg h2,if_neg (by omega)]
 · rw[if_neg h1,if_neg h1];rfl
@[go_sem] theorem AK : rD H sz (some (.ref id ep n)) (some (some i)) (some (some j)) = if 0 ≤ i then (if i ≤ j then (if j ≤ n then scO H sz ep n (.sub id ep n i.toNat j.toNat) H[id]? else none) else none) else none := by
 simp only[rD,Option.bind_some,gr,bound,idx]
 by_cases h1:0≤i
 · rw[if_pos h1,if_pos h1,Option.bind_some]
   by_cases h0:i≤j
   · rw[if_pos h0,if_pos (by omega),Option.bind_some,scR,if_pos (by omega)]
     by_cases h2:j≤n
     · rw[if_pos h2,if_pos (by omega)]
     · rw[if_neg h2,if_neg (by omega)]
   · rw[if_neg h0]
     by_cases h2:0≤j
     · rw[if_pos h2,Option.bind_some,scR,if_neg (by omega)]
     · rw[if_neg h2];rfl
 · rw[if_neg h1,if_neg h1];rfl
@[go_sem] theorem Fy : rD H sz (some .nil) (some none) (some (some i)) = if i = 0 then some (.nil, H) else none := by
 simp only[rD,Option.bind_some,gr,bound,idx]
 by_cases h1:0≤i
 · rw[if_pos h1,Option.bind_some]
   by_cases h2:i=0
   · rw[if_pos h2,if_pos (by omega)];rfl
   · rw[if_neg h2,if_neg (by omega)];rfl
 · rw[if_neg h1,if_neg (by omega)];rfl
@[go_sem] theorem FA : rD H sz (some .nil) (some (some i)) (some none) = if i = 0 then some (.nil, H) else none := by
 simp only[rD,Option.bind_some,gr,bound,idx]
 by_cases h1:0≤i
 · rw[if_pos h1,Option.bind_some]
   by_cases h2:i=0
   · rw[if_pos h2,if_pos (by omega)];rfl
   · rw[if_neg h2,if_neg (by omega)];rfl
 · rw[if_neg h1,if_neg (by omega)];rfl
def uU(x:D)(ys:List D):Option (D×ab):=if bC sz ys=true then(match x with
 | .nil=>if ys.length≤4294967296 then some (.ref H.length 0 ys.length,H++[.arr sz false 0 ys])else none
 | .ref id ep n=>mQ H sz id ep n ys H[id]?
 | _=>none)else none
@[go_sem] theorem OE (ys : List D) : uU H sz .nil ys = if bC sz ys = true then (if ys.length ≤ 4294967296 then some (.ref H.length 0 ys.length, H ++ [.arr sz false 0 ys]) else none) else none := (rfl)
@[go_sem] theorem OF (ys : List D) : uU H sz (.ref id ep n) ys = if bC sz ys = true then mQ H sz id ep n ys H[id]? else none := (rfl)
@[go_sem] theorem Ci : bC sz [] = true := (rfl)
@[go_sem] theorem AL (d : D) (r : List D) : bC sz (d :: r) = gC sz d.cells := by
 rw[Bool.eq_iff_iff,cB];simp[bC]
def LY(x:D):Option Obj→Option (D×ab)
 | some (.arr _ _ ep' es)=>if ep=ep'∧n=es.length then uU H sz x ((es.drop lo).take (hi-lo))else none
 | _=>none
def LZ(x:D):Option Obj→Option (D×ab)
 | some (.arr _ _ ep' es)=>if ep=ep'∧n=es.length then uU H sz x es else none
 | _=>none
@[go_sem] theorem OH (x : D) (sz' : Nat) (pin : Bool) (es : List D) : LY H sz ep n lo hi x (some (.arr sz' pin ep es)) = if n = es.length then uU H sz x ((es.drop lo).take (hi - lo)) else none := by simp [LY]
@[go_sem] theorem OI (x : D) (sz' : Nat) (pin : Bool) (es : List D) : LZ H sz ep n x (some (.arr sz' pin ep es)) = if n = es.length then uU H sz x es else none := by simp [LZ]
theorem yn(x:D)(ys:List D):(if bC sz ys=true then(match x with
 | .nil=>if ys.length≤lim then some (D.ref H.length 0 ys.length,H++[.arr sz false 0 ys])else none
 | .ref id ep n=>(cM H id ep n).bind fun a=>if a.1=sz∧n+ys.length≤lim then some (.ref id ep (n+ys.length),H.set id (.arr sz a.2.1 ep (a.2.2++ys)))else none
 | _=>none)else none)=uU H sz x ys:=by
 unfold uU
 split
 · cases x with
   | ref id ep n=>
     simp only[cM]
     generalize H[id]?=o
     rcases o with _ | (_ | ⟨sz',pin,ep',es⟩)
     · rfl
     · rfl
     · simp only[mQ]
       by_cases h1:ep=ep'∧n=es.length
       · rw[if_pos h1,Option.bind_some]
         by_cases h2:sz'=sz∧n+ys.length≤lim
         · rw[if_pos h2,if_pos ⟨h1.1,h1.2,h2⟩]
         · rw[if_neg h2,if_neg fun h=>h2 h.2.2]
       · rw[if_neg h1,if_neg fun h=>h1 ⟨h.1,h.2.1⟩];rfl
   | _=>rfl
 · rfl
theorem my(x y:D)(ys:List D)(h:elems H y=some ys):iF H sz false (some x) (some y)=uU H sz x ys:=by
 simp only[iF,Option.bind_some,fQ,h,Bool.false_eq_true,if_false]
 exact yn H sz x ys
@[go_sem] theorem ze (x : D) : iF H sz false (some x) (some .nil) = uU H sz x [] := my H sz x .nil [] rfl
@[go_sem] theorem zf (x : D) : iF H sz false (some x) (some (.ref id ep n)) = LZ H sz ep n x H[id]? := by
 cases he:elems H (.ref id ep n)with
 | some ys=>
   rw[my H sz x _ ys he]
   simp only[elems,cM]at he
   generalize H[id]?=o at he
   rcases o with _ | (_ | ⟨sz',pin,ep',es⟩)
   · cases he
   · cases he
   · simp only[LZ]
     by_cases h1:ep=ep'∧n=es.length
     · simp only[if_pos h1]at he ⊢;cases he;rfl
     · simp only[if_neg h1]at he;cases he
 | none=>
   have:iF H sz false (some x) (some (.ref id ep n))=none:=by simp only[iF,Option.bind_some,fQ,he];rfl
   rw[this]
   simp only[elems,cM]at he
   generalize H[id]?=o at he
   rcases o with _ | (_ | ⟨sz',pin,ep',es⟩)
   · rfl
   · rfl
   · simp only[LZ]
     by_cases h1:ep=ep'∧n=es.length
     · simp only[if_pos h1]at he;cases he
     · simp only[if_neg h1]
@[go_sem] theorem zg (x : D) : iF H sz false (some x) (some (.sub id ep n lo hi)) = LY H sz ep n lo hi x H[id]? := by
 cases he:elems H (.sub id ep n lo hi)with
 | some ys=>
   rw[my H sz x _ ys he]
   simp only[elems,cM]at he
   generalize H[id]?=o at he
   rcases o with _ | (_ | ⟨sz',pin,ep',es⟩)
   · cases he
   · cases he
   · simp only[LY]
     by_cases h1:ep=ep'∧n=es.length
     · simp only[if_pos h1]at he ⊢;cases he;rfl
     · simp only[if_neg h1]at he;cases he
 | none=>
   have:iF H sz false (some x) (some (.sub id ep n lo hi))=none:=by simp only[iF,Option.bind_some,fQ,he];rfl
   rw[this]
   simp only[elems,cM]at he
   generalize H[id]?=o at he
   rcases o with _ | (_ | ⟨sz',pin,ep',es⟩)
   · rfl
   · rfl
   · simp only[LY]
     by_cases h1:ep=ep'∧n=es.length
     · simp only[if_pos h1]at he;cases he
     · simp only[if_neg h1]
def IL(ep n lo hi:Nat):Option Obj→Option (List D)
 | some (.arr _ _ ep' es)=>if ep=ep'∧n=es.length then some ((es.drop lo).take (hi-lo))else none
 | _=>none
def OJ(x:D):Option (List D)→Option (D×ab)
 | some ys0=>(aZ (fun d=>(frz H depth d).map .t) ys0).bind fun ys=>if bC sz ys then uU (pins H (ys0.flatMap (cm H depth))) sz x ys else none
 | none=>none
@[go_sem] theorem S1 (x : D) (ts : List T) : OJ H sz x (some (ts.map .t)) = uU H sz x (ts.map .t) := by
 simp only[OJ,lx,Option.bind_some,xC,pins]
 by_cases h:bC sz (ts.map D.t)=true
 · rw[if_pos h]
 · rw[if_neg h];unfold uU;rw[if_neg h]
@[go_sem] theorem AM (x : D) : iF H sz true (some x) (some (.sub id ep n lo hi)) = OJ H sz x (IL ep n lo hi H[id]?) := by
 have e:elems H (.sub id ep n lo hi)=IL ep n lo hi H[id]?:=by
  simp only[elems,cM]
  generalize H[id]?=o
  rcases o with _ | (_ | ⟨sz',pin,ep',es⟩)
  · rfl
  · rfl
  · simp only[IL]
    by_cases h1:ep=ep'∧n=es.length
    · simp only[if_pos h1];rfl
    · simp only[if_neg h1];rfl
 simp only[iF,Option.bind_some,fQ,e]
 cases IL ep n lo hi H[id]? with
 | none=>rfl
 | some ys0=>
   simp only[Option.bind_some,OJ,if_true]
   cases hm:aZ (fun d=>(frz H depth d).map D.t) ys0 with
   | none=>rfl
   | some ys=>
     simp only[Option.bind_some]
     refine(yn _ _ _ _).trans ?_
     by_cases h:bC sz ys=true
     · rw[if_pos h]
     · rw[if_neg h];unfold uU;rw[if_neg h]
@[go_sem] theorem OK (ep n lo hi sz : Nat) (pin : Bool) (ts : List T) : IL ep n lo hi (some (.arr sz pin ep (ts.map .t))) = if n = ts.length then some (((ts.drop lo).take (hi - lo)).map .t) else none := by
 simp only[IL,true_and,List.length_map,List.map_take,List.map_drop]
def yo(ds:List D):Option (D×ab):=if ds.all (fun d=>d.cells.length==sz&&d.dO)then some (.ref H.length 0 ds.length,H++[.arr sz false 0 ds])else none
@[go_sem] theorem S2 (call : aC) (get : X → Option D) (xs : List X) : evO call get H (.bsr xs sz) = (aZ get xs).bind (yo H sz) := (rfl)
@[go_sem] theorem L0 : yo H sz [] = some (.ref H.length 0 0, H ++ [.arr sz false 0 []]) := (rfl)
@[go_sem] theorem L1 (k : IntKind) (n : Int) : yo H 1 [.t (.int k n)] = some (.ref H.length 0 1, H ++ [.arr 1 false 0 [.t (.int k n)]]) := (rfl)
@[go_sem] theorem L3 (cs : List D) : yo H sz [.agg cs] = if gC sz cs = true then some (.ref H.length 0 1, H ++ [.arr sz false 0 [.agg cs]]) else none := by
 simp only[yo,List.all_cons,List.all_nil,Bool.and_true,D.cells,D.dO]
 by_cases h:gC sz cs=true
 · rw[if_pos h,if_pos (by simpa using cB.1 h)];rfl
 · rw[if_neg h,if_neg (by intro e;exact h (cB.2 (by simpa using e)))]
end
@[go_sem] theorem Cj : (1 : Int).toNat = 1 := (rfl)
@[go_sem] theorem FB : (2 : Int).toNat = 2 := (rfl)
@[go_sem] theorem AN : (3 : Int).toNat = 3 := (rfl)
section
variable {H t : ab} {i j k : Nat} {o o' : Obj}
theorem j5(h:i<H.length):(H++t)[i]?=H[i]?:=List.getElem?_append_left h
theorem pW(h:i<H.length):(H.set i o)[i]?=some o:=by simp[h]
theorem hX(h:i≠j):(H.set i o)[j]?=H[j]?:=List.getElem?_set_ne h
theorem oP(h:H[i]?=some o):i<H.length:=(List.getElem?_eq_some_iff.1 h).1
end
end Go.Ev
namespace Go.Ev.N
def yq:Nat:=123
def wH:Nat:=124
def zh:Nat:=125
def yt:Nat:=126
def FC:Nat:=127
def FD:Nat:=128
def FE:Nat:=129
def IM:Nat:=130
def IN:Nat:=131
def FF:Nat:=132
def FH:Nat:=133
def AO:Nat:=134
def AP:Nat:=135
def IP:Nat:=136
def FI:Nat:=137
def AQ:Nat:=138
def Ck:Nat:=139
def zi:Nat:=140
def Cl:Nat:=141
def AR:Nat:=142
def yu:Nat:=143
def yv:Nat:=144
def yw:Nat:=145
def Cm:Nat:=146
def Cn:Nat:=147
def vS:Nat:=148
end Go.Ev.N
namespace Go.Ev.N
def uV:Nat:=149
def yx:Nat:=150
def yy:Nat:=151
def wI:Nat:=152
def FJ:Nat:=153
def FK:Nat:=154
def Co:Nat:=155
def Cp:Nat:=156
def FL:Nat:=157
def IQ:Nat:=158
def FM:Nat:=159
def rU:Nat:=160
def uW:Nat:=161
def FN:Nat:=162
def IS:Nat:=163
def Cq:Nat:=164
def IT:Nat:=165
def Cr:Nat:=166
def cY:Nat:=167
def jT:Nat:=168
def AS:Nat:=169
def AT:Nat:=170
def vT:Nat:=171
def AU:Nat:=172
def dt:Nat:=173
def kK:Nat:=174
def yz:Nat:=175
def yA:Nat:=176
def cq:Nat:=177
end Go.Ev.N
namespace Go.Ev.K
open Go.Ev
def cY:Fn:={ nargs:=1,vars:=[0,1,2],body:=(.seq (.reg [w 1 (.bx v0 2),w 2 (.mv (.b false))] []) (.seq (.reg [h 2 v1,u (.ca N.dt 0 [] [.l 0]),u (.bin .eql l0 (.i 0)),w 2 (.mv l0)] []) .ret)),res:=[(2,none)]}
end Go.Ev.K
namespace Go.Ev
class c9 [Lib]:Prop where
 jl:Lib.fs N.cY=some K.cY
namespace K
variable [Lib] [c9]
theorem jl:Lib.fs N.cY=some K.cY:=c9.jl
end K
end Go.Ev
namespace Go.Ev.K
open Go.Ev
def gF:C:=(.its [u (.bin .lss v8 v7)] [] 0 .skip (.exit 0) (.seq (.blk 1 (.seq (.reg [a 2 v6 v8,h 2 l0,w 3 (.al [.t (.int .i64 (0)),.t (.bool false)] []),u (.st l0 l1 2 [])] []) (.ite [f 0 v3,g l0,u (.bin .lss l0 (.i (-10000))),m l0,y 0 false (.fa v3 0),y 1 false (.ld l0 1 false),y 2 false (.bin .gtr l0 (.i 10000)),u (.pk l3 (.b true) l0)] [] 0 (.seq (.reg [w 2 (.mv (.i 1))] []) .ret) .skip))) (.reg [u (.bin .add v8 (.i 1)),w 8 (.mv l0)] [])))
def lC:C:= .loop true [0,2,3,4,5,9,10,11] K.gF
def gG:C:=(.its [u (.bin .lss v11 v10)] [] 0 .skip (.exit 2) (.seq (.blk 3 (.seq (.reg [a 10 v9 v11,h 10 l0,w 5 (.al [.t (.int .i64 (0)),.t (.int .i64 (0)),.t (.int .i64 (0)),.t (.int .i64 (0)),.t (.bool false),.t (.bool false),.t (.int .i64 (0)),.t (.int .i64 (0)),.t (.int .i64 (0)),.t (.int .i64 (0))] []),u (.st l0 l1 10 [])] []) (.seq (.ite [f 0 v5,g l0,u (.bin .lss l0 (.i 0)),m l0,y 0 false (.fa v5 0),y 1 false (.ld l0 1 false),y 2 false (.mv v4),y 3 false (.bin .geq l1 l0),u (.pk l4 (.b true) l0),m l0,y 0 false (.fa v5 1),y 1 false (.ld l0 1 false),y 2 false (.bin .lss l0 (.i 0)),u (.pk l3 (.b true) l0),m l0,y 0 false (.fa v5 1),y 1 false (.ld l0 1 false),y 2 false (.mv v4),y 3 false (.bin .geq l1 l0),u (.pk l4 (.b true) l0),m l0,y 0 false (.fa v5 0),y 1 false (.ld l0 1 false),y 2 false (.fa v5 1),y 3 false (.ld l0 1 false),y 4 false (.bin .eql l2 l0),u (.pk l5 (.b true) l0)] [] 0 (.seq (.reg [w 2 (.mv (.i 4))] []) .ret) .skip) (.seq (.ite [f 2 v5,g l0,u (.bin .lss l0 (.i 1)),m l0,y 0 false (.fa v5 2),y 1 false (.ld l0 1 false),y 2 false (.bin .gtr l0 (.i 100000)),u (.pk l3 (.b true) l0),m l0,y 0 false (.fa v5 3),y 1 false (.ld l0 1 false),y 2 false (.bin .lss l0 (.i 1)),u (.pk l3 (.b true) l0),m l0,y 0 false (.fa v5 3),y 1 false (.ld l0 1 false),y 2 false (.bin .gtr l0 (.i 1000)),u (.pk l3 (.b true) l0)] [] 0 (.seq (.reg [w 2 (.mv (.i 1))] []) .ret) .skip) (.ite [f 6 v5,h 2 l0,u (.ca N.cq 0 [] [.l 0,.i 1,.i 262144]),u (.un .not l0),m l0,y 0 false (.fa v5 8),y 1 false (.ld l0 2 true),y 2 false (.ca N.cq 0 [] [.l 0,.i (-2199023255552),.i 2199023255552]),y 3 false (.un .not l0),u (.pk l4 (.b true) l0)] [] 0 (.seq (.reg [w 2 (.mv (.i 1))] []) .ret) .skip))))) (.reg [u (.bin .add v11 (.i 1)),w 11 (.mv l0)] [])))
def lD:C:= .loop true [0,1,2,3,5,6,7,8] K.gG
def dt:Fn:={ nargs:=1,vars:=[0,1,2,4,5,7,19,20,21,38,39,40],body:=(.seq (.reg [w 1 (.bx v0 2),w 2 (.mv (.i 0))] []) (.seq (.ite [f 0 v1,g l0,u (.ln l0),u (.bin .gtr l0 (.i 64)),m l0,y 0 false (.fa v1 1),y 1 false (.ld l0 1 false),y 2 false (.ln l0),y 3 false (.bin .gtr l0 (.i 128)),u (.pk l4 (.b true) l0)] [] 0 (.seq (.reg [w 2 (.mv (.i 2))] []) .ret) .skip) (.seq (.seq (.reg [f 0 v1,w 6 (.ld l0 1 false),w 7 (.ln l0),w 8 (.mv (.i 0))] []) (.blk 0 K.lC)) (.seq (.reg [f 0 v1,g l0,u (.ln l0),w 4 (.mv l0)] []) (.seq (.seq (.reg [f 1 v1,w 9 (.ld l0 1 false),w 10 (.ln l0),w 11 (.mv (.i 0))] []) (.blk 2 K.lD)) (.seq (.reg [w 2 (.mv (.i 0))] []) .ret)))))),res:=[(2,none)]}
def cq:Fn:={ nargs:=3,vars:=[0,1,2,3,6],body:=(.seq (.reg [w 3 (.bx v0 2),w 4 (.mv (.b false))] []) (.seq (.reg [m v1,f 0 v3,g l0,u (.bin .leq l2 l0),m l0,y 0 true (.fa v3 0),y 1 true (.ld l0 1 false),y 2 true (.fa v3 1),y 3 true (.ld l0 1 false),y 4 true (.bin .leq l2 l0),u (.pk l5 l0 (.b false)),m l0,y 0 true (.fa v3 1),y 1 true (.ld l0 1 false),y 2 true (.mv v2),y 3 true (.bin .leq l1 l0),u (.pk l4 l0 (.b false)),w 4 (.mv l0)] []) .ret)),res:=[(4,none)]}
end Go.Ev.K
namespace Go.Ev
class c8 [Lib]:Prop where
 jm:Lib.fs N.dt=some K.dt
 iM:Lib.fs N.cq=some K.cq
namespace K
variable [Lib] [c8]
theorem jm:Lib.fs N.dt=some K.dt:=c8.jm
theorem iM:Lib.fs N.cq=some K.cq:=c8.iM
end K
end Go.Ev
namespace Go.Ev
open Go
variable [Lib] [bq] [bu] [c9] [c8]
section
variable (H : ab) (sz : Nat)
def Cs(id ep n lo hi:Nat)(ys:List D):Option Obj→Option (D×ab)
 | some (.arr sz' pin ep' es)=>if ep=ep'∧n=es.length then CQ H id ep (sz',pin,es) lo hi ys sz else none
 | _=>none
def cpD(x:D)(ys:List D):Option (D×ab):=if bC sz ys=true then(match x with
 | .ref id ep n=>Cs H sz id ep n 0 n ys H[id]?
 | .sub id ep n lo hi=>Cs H sz id ep n lo hi ys H[id]?
 | _=>none)else none
def OL(x y:Option D):Option (D×ab):=x.bind fun a=>y.bind fun b=>p4 H a b sz
@[go_sem] theorem TT (call : aC) (get : X → Option D) (x y : X) : evO call get H (.cp x y sz) = OL H sz (get x) (get y) := (rfl)
theorem uX(x y:D)(ys:List D)(h:elems H y=some ys):p4 H x y sz=cpD H sz x ys:=by
 unfold p4 cpD
 rw[h,Option.bind_some]
 split
 · rename_i hh
   cases x with
   | ref id ep n=>
     simp only[cM,Cs]
     cases H[id]? with
     | none=>rfl
     | some o=>
       cases o with
       | box cs=>rfl
       | arr sz' pin ep' es=>
         simp only
         by_cases c:ep=ep'∧n=es.length
         · rw[if_pos c,if_pos c];rfl
         · rw[if_neg c,if_neg c];rfl
   | sub id ep n lo hi=>
     simp only[cM,Cs]
     cases H[id]? with
     | none=>rfl
     | some o=>
       cases o with
       | box cs=>rfl
       | arr sz' pin ep' es=>
         simp only
         by_cases c:ep=ep'∧n=es.length
         · rw[if_pos c,if_pos c];rfl
         · rw[if_neg c,if_neg c];rfl
   | _=>rfl
 · rfl
@[go_sem] theorem S3 (x : D) (ts : List T) : OL H sz (some x) (some (.t (.sl ts))) = cpD H sz x (ts.map .t) := uX H sz x (.t (.sl ts)) (ts.map .t) rfl
def cpE(x:D)(ep n lo hi:Nat):Option Obj→Option (D×ab)
 | some (.arr _ _ ep' es)=>if ep=ep'∧n=es.length then cpD H sz x ((es.drop lo).take (hi-lo))else none
 | _=>none
@[go_sem] theorem RD (x : D) (n lo hi sz' : Nat) (pin : Bool) (ep : Nat) (es : List D) : cpE H sz x ep n lo hi (some (.arr sz' pin ep es)) = if n = es.length then cpD H sz x ((es.drop lo).take (hi - lo)) else none := by simp [cpE]
@[go_sem] theorem OM (x : D) (id ep n lo hi : Nat) : OL H sz (some x) (some (.sub id ep n lo hi)) = cpE H sz x ep n lo hi H[id]? := by
 unfold OL
 simp only[Option.bind_some]
 cases h:H[id]? with
 | none=>simp[p4,elems,cM,h,cpE]
 | some o=>
   cases o with
   | box cs=>simp[p4,elems,cM,h,cpE]
   | arr sz' pin ep' es=>
     by_cases c:ep=ep'∧n=es.length
     · rw[uX H sz x _ ((es.drop lo).take (hi-lo)) (by simp[elems,cM,h,c])]
       simp only[cpE,if_pos c]
     · simp[p4,elems,cM,h,cpE,c]
@[go_sem] theorem RE (id ep n : Nat) (ys : List D) : cpD H sz (.ref id ep n) ys = if bC sz ys = true then Cs H sz id ep n 0 n ys H[id]? else none := (rfl)
@[go_sem] theorem RF (id ep n lo hi : Nat) (ys : List D) : cpD H sz (.sub id ep n lo hi) ys = if bC sz ys = true then Cs H sz id ep n lo hi ys H[id]? else none := (rfl)
@[go_sem] theorem ON (id n lo hi : Nat) (ys : List D) (ep : Nat) (es : List D) : Cs H sz id ep n lo hi ys (some (.arr sz false ep es)) =
 if n=es.length then(if min ys.length (hi-lo)=0 then some (.t (.int .i64 0),H)else some (.t (.int .i64 ((min ys.length (hi-lo):Nat):Int)),H.set id (.arr sz false ep (es.take lo++ys.take (min ys.length (hi-lo))++es.drop (lo+min ys.length (hi-lo))))))else none:=by
 simp[Cs,CQ]
end
end Go.Ev
namespace Go.Ev
open Go
variable [Lib] [bq] [bu] [c9] [c8]
theorem rV(a b lo hi:Int)(h1:lo≤a)(h2:a≤b)(h3:b≤hi):br 0 N.cq [.t (.agg [tI a,tI b]),I lo,I hi] []=some (B true,[]):=by
 refine aO K.iM rfl ?_
 simp (disch:=omega) only[go_sem,K.cq,↓reduceIte,Nat.reduceAdd,Nat.reduceSub]
theorem rW{m:bP}(h:m.ok):br 0 N.dt [.t m.e] []=some (I 0,[]):=by
 refine aO K.jm rfl ?_
 have np:=h.np
 have nr:=h.nr
 have hs:=h.hs
 have rs:=h.rs
 obtain⟨places,roads⟩:=m
 simp only at np nr hs rs
 have l1:∀z0 z2 z3 z4 z5 z9 z10 z11:D,exS br K.lC ⟨[z0,.bp 0 0,z2,z3,z4,z5,.t (.sl (places.map Place.e)),I places.length,I 0,z9,z10,z11],[.box (af ⟨places,roads⟩)]⟩=
  some (.exit 0,⟨[.und,.bp 0 0,.und,.und,.und,.und,.t (.sl (places.map Place.e)),I places.length,I places.length,.und,.und,.und],[.box (af ⟨places,roads⟩)]⟩):=by
  intro z0 z2 z3 z4 z5 z9 z10 z11
  refine cW (fun j=>⟨[.und,.bp 0 0,.und,.und,.und,.und,.t (.sl (places.map Place.e)),I places.length,I j,.und,.und,.und],[.box (af ⟨places,roads⟩)]⟩) places.length rfl ?_ ?_ (by simp)
  · intro j hj
    have g:(places.map Place.e)[j]?=some (nth places j).e:=cX _ hj
    have q:=hs _ (bG hj)
    generalize nth places j=x at*
    obtain⟨hh,sf⟩:=x
    simp only[af]at*
    simp (disch:=omega) only[go_sem,K.gF,↓reduceIte,g,Nat.reduceAdd,Nat.reduceSub]
  · simp (disch:=omega) only[go_sem,K.gF,↓reduceIte,af,Nat.reduceAdd,Nat.reduceSub]
 have l2:∀z0 z1 z2 z3 z5 z6 z7 z8:D,exS br K.lD ⟨[z0,z1,z2,z3,I places.length,z5,z6,z7,z8,.t (.sl (roads.map Road.e)),I roads.length,I 0],[.box (af ⟨places,roads⟩)]⟩=
  some (.exit 2,⟨[.und,.und,.und,.und,I places.length,.und,.und,.und,.und,.t (.sl (roads.map Road.e)),I roads.length,I roads.length],[.box (af ⟨places,roads⟩)]⟩):=by
  intro z0 z1 z2 z3 z5 z6 z7 z8
  refine cW (fun j=>⟨[.und,.und,.und,.und,I places.length,.und,.und,.und,.und,.t (.sl (roads.map Road.e)),I roads.length,I j],[.box (af ⟨places,roads⟩)]⟩) roads.length rfl ?_ ?_ (by simp)
  · intro j hj
    have g:(roads.map Road.e)[j]?=some (nth roads j).e:=cX _ hj
    have q:=rs _ (bG hj)
    generalize nth roads j=x at*
    have f0:=q.f0;have f1:=q.f1;have t0:=q.t0;have t1:=q.t1;have ne:=q.ne;have l0:=q.l0;have l1:=q.l1;have a0:=q.a0;have a1:=q.a1
    have r0:=q.r0;have r1:=q.r1;have r2:=q.r2;have i0:=q.i0;have i1:=q.i1;have i2:=q.i2
    clear q
    obtain⟨frm,to,len,area,walk,closed,rl,rh,ll,lh⟩:=x
    simp only[af]at*
    have s1:=rV rl rh 1 262144 r0 r1 r2
    have s2:=rV ll lh (-2199023255552) 2199023255552 i0 i1 i2
    simp (disch:=omega) only[go_sem,K.gG,↓reduceIte,g,s1,s2,Nat.reduceAdd,Nat.reduceSub]
  · simp (disch:=omega) only[go_sem,K.gG,↓reduceIte,af,Nat.reduceAdd,Nat.reduceSub]
 simp only[af]at l1 l2
 simp (disch:=omega) only[go_sem,K.dt,↓reduceIte,l1,l2,Nat.reduceAdd,Nat.reduceSub]
theorem rX{m:bP}(h:m.ok):br 0 N.cY [.t m.e] []=some (B true,[]):=by
 refine aO K.jl rfl ?_
 have c:=rW h
 obtain⟨places,roads⟩:=m
 simp (disch:=omega) only[go_sem,K.cY,↓reduceIte,c,Nat.reduceAdd,Nat.reduceSub]
end Go.Ev
namespace Go.Ev.N
def vU:Nat:=178
def vV:Nat:=179
def wJ:Nat:=180
def vW:Nat:=181
def wK:Nat:=182
def yB:Nat:=183
def wL:Nat:=184
def FO:Nat:=185
def Ct:Nat:=186
def FP:Nat:=187
def yC:Nat:=188
def FQ:Nat:=189
def Cu:Nat:=190
def Cv:Nat:=191
def IU:Nat:=192
def AV:Nat:=193
def Cw:Nat:=194
def FR:Nat:=195
def IV:Nat:=196
def L4:Nat:=197
def zj:Nat:=198
def zk:Nat:=199
def IW:Nat:=200
def AX:Nat:=201
def sH:Nat:=202
def Cx:Nat:=203
def ai:Nat:=204
def yD:Nat:=205
def FT:Nat:=206
def Cy:Nat:=207
def yE:Nat:=208
def wM:Nat:=209
def yF:Nat:=210
def eK:Nat:=211
def fh:Nat:=212
def fj:Nat:=213
def eu:Nat:=214
end Go.Ev.N
namespace Go.Ev.K
open Go.Ev
end Go.Ev.K
namespace Go.Ev
class ew [Lib]:Prop where
namespace K
variable [Lib] [ew]
end K
end Go.Ev
namespace Go.Ev.K
open Go.Ev
def ai:Fn:={ nargs:=1,vars:=[0,2],body:=(.seq (.reg [w 1 (.mv (.c (.nil)))] []) (.itk [m v0,u (.eqk (.sl) false l0 (.c (.nil)))] [] 0 (.seq (.reg [w 1 (.nw 1)] []) .ret) .skip (.seq (.reg [u (.bsr [] 1),m v0,u (.app l1 l0 false 1),w 1 (.mv l0)] []) .ret))),res:=[(1,none)]}
def eK:Fn:={ nargs:=3,vars:=[0,1,2,3,6],body:=(.seq (.reg [w 3 (.bx v0 2),w 4 (.mv (.i 0))] []) (.seq (.ite [h 2 v3,u (.ca N.cY 0 [] [.l 0]),u (.un .not l0),m l0,y 0 false (.mv v1),y 1 false (.bin .lss l0 (.i 0)),u (.pk l2 (.b true) l0),m l0,y 0 false (.mv v1),y 1 false (.fa v3 1),y 2 false (.ld l0 1 false),y 3 false (.ln l0),y 4 false (.bin .geq l3 l0),u (.pk l5 (.b true) l0)] [] 0 (.seq (.reg [w 4 (.mv (.i (-1)))] []) .ret) .skip) (.seq (.reg [h 2 v3,m v1,m v2,u (.ca N.fh 0 [] [.l 2,.l 1,.l 0]),w 4 (.mv l0)] []) .ret))),res:=[(4,none)]}
def fh:Fn:={ nargs:=3,vars:=[0,1,2,3,6],body:=(.seq (.reg [w 3 (.bx v0 2),w 4 (.mv (.i 0))] []) (.seq (.reg [h 2 v3,m v1,m v2,u (.ca N.eu 0 [] []),u (.ca N.fj 0 [] [.l 3,.l 2,.l 1,.l 0]),w 4 (.mv l0)] [(0,4)]) .ret)),res:=[(4,none)]}
def fj:Fn:={ nargs:=4,vars:=[0,1,2,3,4,7,8,9,10,11],body:=(.seq (.reg [w 4 (.bx v0 2),w 5 (.bx v3 3),w 6 (.mv (.i 0))] []) (.seq (.reg [f 1 v4,g l0,m v1,a 10 l1 l0,h 10 l0,w 7 (.al [.t (.int .i64 (0)),.t (.int .i64 (0)),.t (.int .i64 (0)),.t (.int .i64 (0)),.t (.bool false),.t (.bool false),.t (.int .i64 (0)),.t (.int .i64 (0)),.t (.int .i64 (0)),.t (.int .i64 (0))] []),u (.st l0 l1 10 [])] []) (.seq (.ite [f 5 v7,g l0,m l0,y 0 false (.fa v7 4),y 1 false (.ld l0 1 false),y 2 false (.un .not l0),u (.pk l3 (.b true) l0)] [] 0 (.seq (.reg [w 6 (.mv (.i (-1)))] []) .ret) .skip) (.seq (.reg [f 0 v4,g l0,f 1 v7,g l0,a 2 l2 l0,f 0 l0,g l0,f 0 v4,g l0,f 0 v7,g l0,a 2 l2 l0,f 0 l0,g l0,u (.bin .sub l7 l0),w 8 (.mv l0)] []) (.seq (.ite [m v2] [] 0 (.reg [m v8,u (.un .neg l0),w 8 (.mv l0)] []) .skip) (.seq (.reg [f 2 v5,g l0,w 9 (.mv l0)] []) (.seq (.blk 0 (.ite [m v8,u (.bin .mul (.i 10) l0),f 2 v7,g l0,u (.bin .gtr l2 l0),m l0] [] 0 (.reg [f 0 v5,g l0,w 9 (.mv l0)] []) (.ite [m v8,u (.bin .mul (.i (-10)) l0),f 2 v7,g l0,u (.bin .gtr l2 l0),m l0] [] 0 (.reg [f 1 v5,g l0,w 9 (.mv l0)] []) .skip))) (.seq (.reg [f 2 v7,g l0,u (.bin .mul (.i 10) l0),m v9,u (.bin .add l1 l0),u (.bin .sub l0 (.i 1)),m v9,u (.bin .quo l1 l0),w 6 (.mv l0)] []) .ret)))))))),res:=[(6,none)]}
def eu:Fn:={ nargs:=0,vars:=[0],body:=(.seq (.reg [w 0 (.al [.t (.int .i64 (0)),.t (.int .i64 (0)),.t (.int .i64 (0))] [])] []) (.seq (.reg [u (.bd [.t (.int .i64 (0)),.t (.int .i64 (0)),.t (.int .i64 (0))] [(0,1,.i 6),(1,1,.i 9),(2,1,.i 12)]),u (.st v0 l0 3 [])] []) .ret)),res:=[(0,some (3,true))]}
end Go.Ev.K
namespace Go.Ev
class dU [Lib]:Prop where
 dy:Lib.fs N.ai=some K.ai
 oQ:Lib.fs N.eK=some K.eK
 oR:Lib.fs N.fh=some K.fh
 oS:Lib.fs N.fj=some K.fj
 mX:Lib.fs N.eu=some K.eu
namespace K
variable [Lib] [dU]
theorem dy:Lib.fs N.ai=some K.ai:=dU.dy
theorem oQ:Lib.fs N.eK=some K.eK:=dU.oQ
theorem oR:Lib.fs N.fh=some K.fh:=dU.oR
theorem oS:Lib.fs N.fj=some K.fj:=dU.oS
theorem mX:Lib.fs N.eu=some K.eu:=dU.mX
end K
end Go.Ev
namespace Go.Ev
open Go
variable [Lib] [bq] [bu] [c9] [c8] [ew] [dU]
theorem jn(l:List Int)(hl:l.length≤1000000):br 0 N.ai [.t (tL l)] []=some (.t (tL l),[]):=by
 refine aO K.dy rfl ?_
 by_cases h0:l=[]
 · subst h0
   simp only[tL,List.map_nil]
   simp (disch:=omega) only[go_sem,K.ai,↓reduceIte,List.map_nil,Nat.reduceAdd,Nat.reduceSub]
 · have e:=fun H=>nH H (l.map (T.int .i64)) (by simpa using h0)
   simp (disch:=omega) only[go_sem,K.ai,↓reduceIte,e,Nat.reduceAdd,Nat.reduceSub]
end Go.Ev
namespace Go.Ev.K
open Go.Ev
end Go.Ev.K
namespace Go.Ev
class fe [Lib]:Prop where
namespace K
variable [Lib] [fe]
end K
end Go.Ev
namespace Go.Ev.N
def zl:Nat:=215
def zm:Nat:=216
def zn:Nat:=217
def FU:Nat:=218
def FV:Nat:=219
def FW:Nat:=220
def IX:Nat:=221
def IY:Nat:=222
def IZ:Nat:=223
def L5:Nat:=224
def FX:Nat:=225
def FY:Nat:=226
def FZ:Nat:=227
def L6:Nat:=228
def F3:Nat:=229
def F4:Nat:=230
def I0:Nat:=231
def Cz:Nat:=232
def I1:Nat:=233
def CA:Nat:=234
def CB:Nat:=235
def CC:Nat:=236
def I2:Nat:=237
def CD:Nat:=238
def L7:Nat:=239
def L8:Nat:=240
def bf:Nat:=241
def I3:Nat:=242
def F5:Nat:=243
def zo:Nat:=244
end Go.Ev.N
namespace Go.Ev.K
open Go.Ev
def bf:Fn:={ nargs:=1,vars:=[],body:= .fail,res:=[],prim:=[1]}
end Go.Ev.K
namespace Go.Ev
class cC [Lib]:Prop where
 fk:Lib.fs N.bf=some K.bf
namespace K
variable [Lib] [cC]
theorem fk:Lib.fs N.bf=some K.bf:=cC.fk
end K
end Go.Ev
namespace Go.Ev
open Go
variable [Lib] [bq] [bu] [dw] [dr] [fe] [c9] [c8] [ew] [dU] [cC]
end Go.Ev
namespace Go.Ev
open Go
theorem tC{d:D}{n:Int}(h:uc d=some n):d= .t (.int .i64 n):=by
 unfold uc at h
 split at h
 · cases h;rfl
 · cases h
theorem yG:∀ {es:List D} {l:List Int},aZ uc es=some l→es=l.map fun x=> .t (.int .i64 x)
 | [],l,h=>by simp[aZ]at h;subst h;rfl
 | e::r,l,h=>by
   simp only[aZ,Option.bind_eq_some_iff,Option.map_eq_some_iff]at h
   obtain⟨x,hx,y,hy,rfl⟩:=h
   rw[tC hx,yG hy];rfl
theorem oT(x:Int):∀l,(CS x l).Perm (x::l)
 | []=> .refl _
 | y::r=>by
   unfold CS
   split
   · exact .refl _
   · exact((oT x r).cons y).trans (.swap x y r)
theorem jO:∀l,(fR l).Perm l
 | []=> .refl _
 | x::r=>(oT x _).trans ((jO r).cons x)
theorem yH{x:Int}:∀ {l:List Int},l.Pairwise (· ≤ ·)→(CS x l).Pairwise (· ≤ ·)
 | [],_=>by simp[CS]
 | y::r,h=>by
   unfold CS
   split
   · rename_i hx
     refine List.pairwise_cons.2 ⟨fun z hz=>?_,h⟩
     rcases List.mem_cons.1 hz with rfl | hz
     · exact hx
     · have:=(List.pairwise_cons.1 h).1 z hz;omega
   · rename_i hx
     have h':=List.pairwise_cons.1 h
     refine List.pairwise_cons.2 ⟨fun z hz=>?_,yH h'.2⟩
     have hz:=(oT x r).mem_iff.1 hz
     rcases List.mem_cons.1 hz with rfl | hz
     · omega
     · exact h'.1 z hz
theorem qt:∀l,(fR l).Pairwise (· ≤ ·)
 | []=> .nil
 | x::r=>yH (qt r)
theorem ib(l:List Int):(fR l).length=l.length:=(jO l).length_eq
theorem uY(l:List Int):(l.mergeSort fun x y=>decide (x≤y))=fR l:=by
 refine List.Perm.eq_of_pairwise (le:=(· ≤ ·)) (fun a b _ _ h1 h2=>by omega) ?_ (qt l) ((List.mergeSort_perm _ _).trans (jO l).symm)
 have:=List.pairwise_mergeSort (le:=fun x y:Int=>decide (x≤y)) (fun a b c=>by simp;omega) (fun a b=>by simp;omega) l
 exact this.imp (by simp)
end Go.Ev
namespace Go.Ev
open Go
variable [Lib] [bq] [bu] [dw] [dr] [fe] [c9] [c8] [ew] [dU] [cC]
section
variable (k : Keys) (hl : k.keys.length ≤ 1000000) (hr : k.roads.length ≤ 1000000)
include hl hr
end
end Go.Ev
namespace Go.Ev
open Go
variable [Lib] [bq] [bu] [dw] [dr] [fe] [c9] [c8] [ew] [dU] [cC]
section
variable (b u v y : Obj) (ds : ab)
end
end Go.Ev
namespace Go.Ev.N
def uZ:Nat:=245
def tD:Nat:=246
def tE:Nat:=247
def F6:Nat:=248
def AY:Nat:=249
def F7:Nat:=250
def u9:Nat:=251
def zp:Nat:=252
def yI:Nat:=253
def F8:Nat:=254
def CE:Nat:=255
def I4:Nat:=256
def F9:Nat:=257
def vX:Nat:=258
def iN:Nat:=259
def bo:Nat:=260
def aJ:Nat:=261
def CF:Nat:=262
def qJ:Nat:=263
def fZ:Nat:=264
def AZ:Nat:=265
def i4:Nat:=266
def aA:Nat:=267
def yJ:Nat:=268
def gz:Nat:=269
def cmp_isNaN_int:Nat:=270
end Go.Ev.N
namespace Go.Ev.K
open Go.Ev
def bo:Fn:={ nargs:=1,vars:=[2],body:= .fail,res:=[(0,none)],prim:=[2,N.aA]}
def aJ:Fn:={ nargs:=1,vars:=[0,1,2],body:=(.seq (.reg [w 1 (.bx v0 1),w 2 (.mv (.c (.und)))] []) (.seq (.reg [u (.mf N.aA [.v 1]),w 2 (.mv l0)] []) .ret)),res:=[(2,none)]}
def ga:C:=(.its [u (.bin .lss v5 v4)] [] 0 .skip (.exit 0) (.seq (.blk 1 (.seq (.reg [a 1 v3 v5,g l0,w 2 (.mv l0)] []) (.ite [m v0,m v2,u (.cw l1 0 [] [.l 0]),u (.un .not l0)] [] 0 .ret .skip))) (.reg [u (.bin .add v5 (.i 1)),w 5 (.mv l0)] [])))
def gp:C:= .loop true [1,2] K.ga
def aA:Fn:={ nargs:=2,vars:=[0,1,4,5,6,7],body:=(.seq (.reg [w 3 (.ld v1 1 false),w 4 (.ln l0),w 5 (.mv (.i 0))] []) (.blk 0 K.gp)),res:=[]}
end Go.Ev.K
namespace Go.Ev
class cZ [Lib]:Prop where
 ek:Lib.fs N.bo=some K.bo
 dg:Lib.fs N.aJ=some K.aJ
 ee:Lib.fs N.aA=some K.aA
namespace K
variable [Lib] [cZ]
theorem ek:Lib.fs N.bo=some K.bo:=cZ.ek
theorem dg:Lib.fs N.aJ=some K.aJ:=cZ.dg
theorem ee:Lib.fs N.aA=some K.aA:=cZ.ee
end K
end Go.Ev
namespace Go.Ev
open Go
variable [Lib] [bq] [bu] [dw] [dr] [fe] [c9] [c8] [ew] [dU] [cC] [cZ]
theorem yK(l:List Int):br 0 N.aJ [.t (tL l)] []=some (.fn N.aA [.bp 0 0],[.box [.t (tL l)]]):=by
 refine aO K.dg rfl ?_
 simp (disch:=omega) only[go_sem,K.aJ,↓reduceIte,Nat.reduceAdd,Nat.reduceSub]
theorem vY(l:List Int):nK (tL l)=some l:=by
 unfold nK
 simp only
 induction l with
 | nil=>rfl
 | cons x l ih=>
   simp only[List.map_cons,aZ]at ih ⊢
   rw[ih];rfl
theorem yL(l:List Int)(hl:l.length≤1000000):br 0 N.bo [.fn N.aA [.bp 0 0]] [.box [.t (tL l)]]=some (.t (tL (fR l)),[.box [.t (tL l)]]):=by
 refine xS K.ek (by decide) ?_
 show pb [2,N.aA] _ _=_
 simp only[pb,if_true,List.getElem?_cons_zero,ke,Option.bind_some,vY]
 rw[if_pos (by unfold lim;omega)]
end Go.Ev
namespace Go.Ev
open Go
variable [Lib] [bq] [bu]
theorem tF{l:List Int}{x:Int}:0≤dT l x↔x∈l:=by
 unfold dT
 cases hf:(List.range l.length).find? (fun j=>decide (nth l j=x))with
 | some j=>
   obtain⟨h1,h2⟩:=xV hf
   have:=bG h1
   rw[of_decide_eq_true h2]at this
   simp[this]
 | none=>
   have:=List.find?_eq_none.1 hf
   simp only[Int.reduceNeg]
   constructor
   · intro h;simp at h
   · intro h
     obtain⟨j,hj⟩:=List.mem_iff_getElem?.1 h
     have hl:=(List.getElem?_eq_some_iff.1 hj).1
     have:=this j (List.mem_range.2 hl)
     rw[eR hj]at this
     simp at this
theorem qu{l:List Int}(h:ei l=true):l.Nodup:=by
 simp only[ei,List.all_eq_true,List.mem_range,qp,decide_eq_true_eq]at h
 refine List.pairwise_iff_getElem.2 fun i j hi hj hij e=>?_
 obtain⟨-, -,h3⟩:=h j hj
 have h4:¬nth l j∈l.take j:=fun hm=>by have:=tF.2 hm;omega
 apply h4
 apply List.mem_iff_getElem?.2
 refine⟨i,?_⟩
 rw[List.getElem?_take_of_lt hij,List.getElem?_eq_getElem hi,e,←List.getElem?_eq_getElem hj,iJ hj]
def vd(m:bP)(b:Bel)(tag:Int):Int:=if SX m b=false then 6 else if dT (nth b.worlds 0).tags tag<0 then 41 else 0
def RG(a b:Wh)(t:Int):Bool:=(List.range (min a.frm.length b.frm.length)).any fun p=>decide (nth a.frm p≤t∧nth b.frm p≤t)
def tG(m:bP)(starts:List Int)(t:Int)(j:Nat):List Wh:=(List.range j).map fun i=>(yb m (nth starts i) t).1
@[simp] theorem Ga (m : bP) (starts : List Int) (t : Int) (j : Nat) : (tG m starts t j).length = j := by simp [tG]
def A0(m:bP)(tags starts:List Int)(t:Int):Bel×Int:=
 if tags.length=starts.length∧1≤tags.length∧tags.length≤12 then
  if ei tags=true then match (List.range tags.length).find? (fun i=> !decide ((yb m (nth starts i) t).2=0))with
   | some i=>(⟨[]⟩,(yb m (nth starts i) t).2)
   | none=>(⟨[⟨tags,tG m starts t tags.length⟩]⟩,0)
  else(⟨[]⟩,41)
 else(⟨[]⟩,6)
@[go_sem] theorem OO : ([] : List D).all eS = true := (rfl)
@[go_sem] theorem L9 (d : D) (r : List D) : (d :: r).all eS = (eS d && r.all eS) := (rfl)
@[go_sem] theorem Gb (cs : List T) : eS (.t (.agg cs)) = false := (rfl)
@[go_sem] theorem I5 (cs : List T) : eS (.t (.sl cs)) = false := (rfl)
@[go_sem] theorem Gc (k : IntKind) (n : Int) : eS (.t (.int k n)) = true := (rfl)
@[go_sem] theorem CG (b : Bool) : eS (.t (.bool b)) = true := (rfl)
@[go_sem] theorem S4 (l : List Wh) (k : Nat) (a : Int) (b : List Int) : (List.map D.t (List.map Wh.e l)).set k (D.t (T.agg [tI a, tL b])) = List.map D.t (List.map Wh.e (l.set k ⟨a, b⟩)) := by
 rw[List.map_set,List.map_set]
def OP(m:bP)(tag:Int)(l:List Int)(a b:Int)(x:World):Wh×Int:=SS m (nth x.whr (dT x.tags tag).toNat) l a b
def OQ(tag:Int)(x:World)(w:Wh):World:=⟨x.tags,x.whr.set (dT x.tags tag).toNat w⟩
def RH(tag:Int)(r:Wh×Int)(x:World)(out:List World):List World:=
 if r.2=43 then out else out++[if r.2=0 then OQ tag x r.1 else x]
def Gd(m:bP)(tag:Int)(l:List Int)(a b:Int)(ws:List World):Nat→List World
 | 0=>[]
 | j+1=>RH tag (OP m tag l a b (nth ws j)) (nth ws j) (Gd m tag l a b ws j)
def Ma(m:bP)(tag:Int)(l:List Int)(a b:Int)(ws:List World)(j:Nat):Bool:=decide ((OP m tag l a b (nth ws j)).2=6∨(OP m tag l a b (nth ws j)).2=8)
def Mb(m:bP)(b:Bel)(tag:Int)(l:List Int)(a c:Int):Bel×Int:=
 if vd m b tag≠0 then(b,vd m b tag)else match (List.range b.worlds.length).find? (Ma m tag l a c b.worlds)with
  | some i=>(b,(OP m tag l a c (nth b.worlds i)).2)
  | none=>if(Gd m tag l a c b.worlds b.worlds.length).length=0 then(b,43)else(⟨Gd m tag l a c b.worlds b.worlds.length⟩,0)
def OR(m:bP)(tag:Int)(l:List Int)(a b bl:Int)(x:World):Wh×Int:=SV m (nth x.whr (dT x.tags tag).toNat) l a b bl
def RI(tag:Int)(r:Wh×Int)(x:World)(out:List World):List World:=out++[if r.2=0 then OQ tag x r.1 else x]
def Mc(m:bP)(tag:Int)(l:List Int)(a b bl:Int)(ws:List World):Nat→List World
 | 0=>[]
 | j+1=>RI tag (OR m tag l a b bl (nth ws j)) (nth ws j) (Mc m tag l a b bl ws j)
def Md(m:bP)(tag:Int)(l:List Int)(a b bl:Int)(ws:List World)(j:Nat):Bool:=decide ((OR m tag l a b bl (nth ws j)).2=6∨(OR m tag l a b bl (nth ws j)).2=8)
def Me(m:bP)(b:Bel)(tag:Int)(l:List Int)(a c bl:Int):Bel×Int:=
 if vd m b tag≠0 then(b,vd m b tag)else match (List.range b.worlds.length).find? (Md m tag l a c bl b.worlds)with
  | some i=>(b,(OR m tag l a c bl (nth b.worlds i)).2)
  | none=>(⟨Mc m tag l a c bl b.worlds b.worlds.length⟩,0)
theorem A1{gc:Bool}{dead:List Nat}{c:C}{vs:List D}{H:ab}(P:Nat→St→Prop)(n:Nat)(Q:Ex×St→Prop)(h0:P 0 ⟨eD dead vs,H⟩)
 (hs:∀j st,j<n→P j st→∃st',gw gc dead st.H.length (exS br c st)=some st'∧P (j+1) st')
 (he:∀st,P n st→∃q,exS br c st=some q∧q.1≠ .normal∧Q q):∃q,exS br (.loop gc dead c) ⟨vs,H⟩=some q∧Q q:=by
 have key:∀(k j:Nat) (st:St),j+k=n→P j st→∃q,gA gc dead (exS br c) st=some q∧Q q:=by
  intro k
  induction k with
  | zero=>
    intro j st hj hp
    obtain⟨q,h1,h2,h3⟩:=he st (by rw[← hj];exact hp)
    exact⟨q,er h1 h2,h3⟩
  | succ k ih=>
    intro j st hj hp
    obtain⟨st',h1,h2⟩:=hs j st (by omega) hp
    obtain⟨q,h3,h4⟩:=ih (j+1) st' (by omega) h2
    exact⟨q,mm h1 h3,h4⟩
 exact key n 0 _ (by omega) h0
abbrev ints(l:List Int):List D:=(l.map (T.int .i64)).map .t
abbrev whs(l:List Wh):List D:=(l.map Wh.e).map .t
def vZ(out:List World)(x:World):Nat:=match (List.range out.length).find? (fun k=> !LM (nth out k).tags x.tags)with
 | some k=>k
 | none=>out.length
def Mf(a b:List Wh):Nat→List Wh
 | 0=>a
 | p+1=>(Mf a b p).set p (yd (nth a p) (nth b p)).1
def Mg(a b:List Wh):List Wh:=Mf a b (min a.length b.length)
def RJ(out:List World)(x:World):List World:=
 if vZ out x<out.length∧(nth out (vZ out x)).tags=x.tags then out.set (vZ out x) ⟨x.tags,Mg (nth out (vZ out x)).whr x.whr⟩
 else out.take (vZ out x)++[x]++out.drop (vZ out x)
def Mh(l:List World):Nat→List World
 | 0=>[]
 | j+1=>RJ (Mh l j) (nth l j)
def Mi(l:List World):List World:=Mh l l.length
structure Rp(H:ab)(id:Nat)(es:List D)(fa fb:Nat→Nat)(out:List World):Prop where
 arr:H[id]?=some (.arr 2 false 0 es)
 len:es.length=out.length
 el:∀j,j<out.length→es[j]?=some (.agg [.ref (fa j) 0 (nth out j).tags.length,.ref (fb j) 0 (nth out j).whr.length])
 ha:∀j,j<out.length→H[fa j]?=some (.arr 1 false 0 (ints (nth out j).tags))
 hb:∀j,j<out.length→H[fb j]?=some (.arr 2 false 0 (whs (nth out j).whr))
 na:∀j,j<out.length→fa j≠id
 nb:∀j,j<out.length→fb j≠id
 nab:∀i j,i<out.length→j<out.length→fa i≠fb j
 nbb:∀i j,i<out.length→j<out.length→i≠j→fb i≠fb j
@[go_sem] theorem OS (a b : Wh) : (yd a b).1.e = .agg [tI (yd a b).1.time, tL (yd a b).1.frm] := rfl
theorem Rp.size{H:ab}{id:Nat}{es:List D}{fa fb:Nat→Nat}{out:List World}(hr:Rp H id es fa fb out):∀e∈es,e.cells.length=2:=by
 intro e he
 obtain⟨j,hj⟩:=List.mem_iff_getElem?.1 he
 have hl:=(List.getElem?_eq_some_iff.1 hj).1
 rw[hr.el j (by rw[← hr.len];exact hl)]at hj
 cases hj;rfl
theorem tH{α:Type} [Dat α](l:List α)(k:Nat)(hk:k<l.length)(x:α)(j:Nat):nth (l.set k x) j=if j=k then x else nth l j:=by
 unfold nth
 rw[List.getD_eq_getElem?_getD]
 by_cases h:j=k
 · rw[if_pos h,h,List.getElem?_set_self hk];rfl
 · rw[if_neg h,List.getElem?_set_ne (fun e=>h e.symm),List.getD_eq_getElem?_getD]
theorem Rp.merge{H:ab}{id:Nat}{es:List D}{fa fb:Nat→Nat}{out:List World}(hr:Rp H id es fa fb out){k:Nat}(hk:k<out.length)(x:World)(ht:(nth out k).tags=x.tags)(hw:x.whr.length=(nth out k).whr.length):
 Rp (H.set (fb k) (.arr 2 false 0 (whs x.whr))) id es fa fb (out.set k x):=by
 have ol:(out.set k x).length=out.length:=List.length_set
 have nk:=hr.nb k hk
 have kl:=oP (hr.hb k hk)
 refine⟨by rw[hX nk];exact hr.arr,by rw[ol];exact hr.len,?_,?_,?_,by rw[ol];exact hr.na,by rw[ol];exact hr.nb,by rw[ol];exact hr.nab,by rw[ol];exact hr.nbb⟩
 · intro j hj
   rw[ol]at hj
   rw[hr.el j hj,tH out k hk]
   by_cases h:j=k
   · rw[if_pos h,h,ht,hw]
   · rw[if_neg h]
 · intro j hj
   rw[ol]at hj
   rw[hX (fun e=>hr.nab j k hj hk e.symm),hr.ha j hj,tH out k hk]
   by_cases h:j=k
   · rw[if_pos h,h,ht]
   · rw[if_neg h]
 · intro j hj
   rw[ol]at hj
   rw[tH out k hk]
   by_cases h:j=k
   · rw[if_pos h,h,pW kl]
   · rw[if_neg h,hX (fun e=>hr.nbb j k hj hk h e.symm)];exact hr.hb j hj
theorem Rp.frz{H:ab}{id:Nat}{es:List D}{fa fb:Nat→Nat}{out:List World}(hr:Rp H id es fa fb out):
 aZ (frz H 8) es=some (out.map World.e)∧∀i∈es.flatMap (cm H 8),i≠id:=by
 have hl:=hr.len
 have key:∀(j:Nat) (hj:j<out.length),Go.Ev.frz H 8 (.agg [.ref (fa j) 0 (nth out j).tags.length,.ref (fb j) 0 (nth out j).whr.length])=some (nth out j).e∧
  cm H 8 (.agg [.ref (fa j) 0 (nth out j).tags.length,.ref (fb j) 0 (nth out j).whr.length])=[fa j,fb j]:=by
  intro j hj
  have h1:=hr.ha j hj
  have h2:=hr.hb j hj
  simp (disch:=omega) only[go_sem,h1,h2,ints,whs,↓reduceIte]
 constructor
 · have:∀(es:List D) (ts:List T),es.length=ts.length→(∀(j:Nat) e t,es[j]?=some e→ts[j]?=some t→Go.Ev.frz H 8 e=some t)→aZ (Go.Ev.frz H 8) es=some ts:=by
    intro es
    induction es with
    | nil=>intro ts h _;cases ts with
      | nil=>rfl
      | cons=>simp at h
    | cons e es ih=>
      intro ts h hh
      cases ts with
      | nil=>simp at h
      | cons t ts=>
        have h1:=hh 0 e t rfl rfl
        have h2:=ih ts (by simpa using h) fun j e t he ht=>hh (j+1) e t (by simpa using he) (by simpa using ht)
        simp only[aZ,h1,Option.bind_some,h2,Option.map_some]
   refine this es _ (by rw[List.length_map,hl]) fun j e t he ht=>?_
   have hj:j<out.length:=by rw[← hl];exact(List.getElem?_eq_some_iff.1 he).1
   rw[hr.el j hj]at he
   rw[cX _ hj]at ht
   cases he;cases ht
   exact(key j hj).1
 · intro i hi
   obtain⟨e,he,hi⟩:=List.mem_flatMap.1 hi
   obtain⟨j,hj⟩:=List.mem_iff_getElem?.1 he
   have hjl:j<out.length:=by rw[← hl];exact(List.getElem?_eq_some_iff.1 hj).1
   rw[hr.el j hjl]at hj
   cases hj
   rw[(key j hjl).2]at hi
   simp only[List.mem_cons,List.not_mem_nil,or_false]at hi
   rcases hi with rfl | rfl
   · exact hr.na j hjl
   · exact hr.nb j hjl
@[go_sem] theorem CH {α β γ : Type} [Dat α] (f : β → γ) (g : α → β) {l : List α} {i j : Nat} {x : α} (h : j < l.length) : (((l.set i x).map g).map f)[j]? = some (f (g (nth (l.set i x) j))) := uO f g (by rw [List.length_set]; exact h)
def RK(l:List Int)(i j:Nat):List Int:=(l.set i (nth l j)).set j (nth l i)
def RL(i j:Nat)(t:Int)(x:World):World:=⟨RK x.tags i j,(x.whr.set i (yc (nth x.whr i) t).1).set j (yc (nth x.whr j) t).1⟩
def RM(i j:Nat)(t:Int)(x:World)(out:List World):List World:=if RG (nth x.whr i) (nth x.whr j) t=true then out++[RL i j t x]else out
def yM(i j:Nat)(t:Int)(ws:List World):Nat→List World
 | 0=>ws
 | k+1=>RM i j t (nth ws k) (yM i j t ws k)
def Ge(m:bP)(b:Bel)(i j t:Int):Bel×Int:=
 if SX m b=false then(b,6)else if i<0∨((nth b.worlds 0).tags.length:Int)≤i∨j<0∨((nth b.worlds 0).tags.length:Int)≤j∨i=j then(b,19)
 else if ¬inT t then(b,8)else if 24<(Mi (yM i.toNat j.toNat t b.worlds b.worlds.length)).length then(b,44)else(⟨Mi (yM i.toNat j.toNat t b.worlds b.worlds.length)⟩,0)
def Mj:Nat→List Int
 | 0=>[]
 | k+1=>Mj k++[3+(k:Int)*2]
def aB.ve(d:aB)(n:Int):Nat→List Int×aB
 | 0=>([],d)
 | k+1=>((d.ve n k).1++[((d.ve n k).2.next n).1],((d.ve n k).2.next n).2)
structure BSt where
 b:Bel
 t:Int
 d:aB
def aB.Gf(m:bP)(n:Int)(s:BSt):BSt:=
 let a:=s.d.next 60
 let c:=a.2.next 3
 if c.1=0 then
  let i:=c.2.next n
  let j:=i.2.next n
  let r:=Ge m s.b i.1 j.1 (s.t+a.1)
  ⟨if r.2=0 then r.1 else s.b,s.t+a.1,j.2⟩
 else if c.1=1 then
  let g:=c.2.next n
  let l:=g.2.fY m.places.length
  let e:=l.2.next 9
  let r:=Mb m s.b (3+2*g.1) l.1 (s.t+a.1) (s.t+a.1+e.1)
  ⟨if r.2=0 then r.1 else s.b,s.t+a.1,e.2⟩
 else
  let g:=c.2.next n
  let l:=g.2.fY m.places.length
  let e:=l.2.next 40
  let r:=Me m s.b (3+2*g.1) l.1 (s.t+a.1) (s.t+a.1+50) e.1
  ⟨if r.2=0 then r.1 else s.b,s.t+a.1,e.2⟩
def aB.S5(m:bP)(n:Int)(s:BSt):Nat→BSt
 | 0=>s
 | k+1=>aB.Gf m n (aB.S5 m n s k)
def aB.RN(d:aB):Nat:=(1+(d.next 3).1).toNat
def aB.OT(d:aB)(m:bP):List Int×aB:=(d.next 3).2.ve m.places.length d.RN
def aB.TU(d:aB)(m:bP):BSt:=⟨(A0 m (Mj d.RN) (d.OT m).1 ((d.OT m).2.next 100).1).1,100,(((d.OT m).2.next 100).2.next 5).2⟩
def aB.TV(d:aB)(m:bP):Nat:=(((d.OT m).2.next 100).2.next 5).1.toNat
def aB.S6(d:aB)(m:bP):BSt:=aB.S5 m d.RN (d.TU m) (d.TV m)
def aB.S7(d:aB)(m:bP):Bel×aB:=((d.S6 m).b,(d.S6 m).d)
structure WOk(m:bP)(N:Nat)(x:World):Prop where
 tg:x.tags.length=N
 wh:x.whr.length=N
 fr:∀w∈x.whr,w.frm.length=m.places.length
 ti:∀w∈x.whr,inT w.time
structure BOk(m:bP)(N:Nat)(b:Bel):Prop where
 w1:1≤b.worlds.length
 w2:b.worlds.length≤24
 n1:1≤N
 n2:N≤12
 ws:∀x∈b.worlds,WOk m N x
theorem WOk.sz{m:bP}{N:Nat}{x:World}(h:WOk m N x)(hm:m.ok)(hn:N≤12):x.sz:=by
 have np:=hm.np
 obtain⟨t1,t2,t3, -⟩:=h
 exact⟨by omega,by omega,fun w hw=>by rw[t3 w hw];omega⟩
theorem BOk.sz{m:bP}{N:Nat}{b:Bel}(h:BOk m N b)(hm:m.ok):b.sz:=
 ⟨by have:=h.w2;omega,fun x hx=>(h.ws x hx).sz hm h.n2⟩
def aB.spread(d:aB)(m:bP)(fl:List Spn):Wh×aB:=
 let p:=d.next m.places.length
 let t:=p.2.next 200
 let s:=LK m fl [p.1] t.1
 let o:=t.2.one 2
 if o.1=true then
  let f:=o.2.Rz m
  let a:=f.2.next 100
  let r:=Fb m fl m f.1 s.1 (s.1.time+a.1)
  if r.2=0 then(r.1,a.2)else(s.1,a.2)
 else(s.1,o.2)
structure Mch where
 kind:Int
 num:Int
 pl:List Int
instance : Dat Mch := ⟨⟨0, 0, []⟩⟩
abbrev Mch.e(x:Mch):T:= .agg [tI x.kind,tI x.num,tL x.pl]
@[go_sem] theorem Mk (l : List Mch) : fJ 3 (l.map Mch.e) = true := by cases l <;> rfl
theorem A2{α:Type} [Dat α]{l:List α}{p:α→Bool}:((List.range l.length).find? fun j=>p (nth l j)).isSome=l.any p:=by
 rw[List.isSome_find?,Bool.eq_iff_iff,List.any_eq_true,List.any_eq_true]
 constructor
 · rintro ⟨j,hj,h⟩
   exact⟨_,bG (List.mem_range.1 hj),h⟩
 · rintro ⟨x,hx,h⟩
   obtain⟨j,hj⟩:=List.mem_iff_getElem?.1 hx
   exact⟨j,List.mem_range.2 (List.getElem?_eq_some_iff.1 hj).1,by rw[eR hj];exact h⟩
end Go.Ev
namespace Go.Ev
open Go
variable [Lib] [bq] [bu] [dw] [dr] [fe] [c9] [c8] [ew] [dU] [cC] [cZ]
theorem oU{l:List Int}:ei l=true↔l.Nodup∧∀x∈l,1≤x∧x≤65535:=by
 constructor
 · intro h
   refine⟨qu h,fun x hx=>?_⟩
   simp only[ei,List.all_eq_true,List.mem_range,qp,decide_eq_true_eq]at h
   obtain⟨j,hj⟩:=List.mem_iff_getElem?.1 hx
   have:=h j (List.getElem?_eq_some_iff.1 hj).1
   rw[eR hj]at this
   exact⟨this.1,this.2.1⟩
 · rintro ⟨h1,h2⟩
   simp only[ei,List.all_eq_true,List.mem_range,qp,decide_eq_true_eq]
   intro j hj
   obtain⟨a,b⟩:=h2 _ (bG hj)
   refine⟨a,b,Decidable.byContradiction fun c=>?_⟩
   obtain⟨d,e⟩:=vL (l:=l.take j) (x:=nth l j) (by omega)
   have z:0≤dT (l.take j) (nth l j):=by omega
   generalize dT (l.take j) (nth l j)=k at*
   rw[List.length_take]at d
   have k1:k.toNat<j:=by omega
   have e1:(l.take j)[k.toNat]?=l[k.toNat]?:=List.getElem?_take_of_lt k1
   have e2:l[k.toNat]?=some l[k.toNat]:=List.getElem?_eq_getElem (by omega)
   rw[eR (e1.trans e2),←eR e2]at e
   have n2:=(List.getElem?_inj (by omega:k.toNat<l.length) h1).1 (show l[k.toNat]?=l[j]? by rw[iJ (by omega),iJ hj,e])
   omega
theorem A3{l:List Int}{lo hi:Int}:Ch l lo hi=true↔l.Pairwise (· < ·)∧∀x∈l,lo≤x∧x≤hi:=by
 have e:Ch l lo hi=true↔∀j,j<l.length→lo≤nth l j∧nth l j≤hi∧(0<j→nth l (j-1)<nth l j):=by
  simp only[Ch,Bool.not_eq_true',List.any_eq_false,List.mem_range,yi,Bool.not_eq_true]
  constructor
  · intro h j hj
    have:=h j hj
    exact Decidable.byContradiction fun c=>this (decide_eq_false c)
  · intro h j hj c
    exact(of_decide_eq_false c) (h j hj)
 rw[e]
 constructor
 · intro h
   refine⟨?_,fun x hx=>?_⟩
   · have key:∀d i,i+d+1<l.length→nth l i<nth l (i+d+1):=by
      intro d
      induction d with
      | zero=>intro i hi;have:=(h (i+0+1) hi).2.2 (by omega);simpa using this
      | succ d ih=>
        intro i hi
        have a:=ih i (by omega)
        have b:=(h (i+(d+1)+1) hi).2.2 (by omega)
        rw[show i+(d+1)+1-1=i+d+1 by omega]at b
        omega
     rw[List.pairwise_iff_getElem]
     intro i j hi hj hij
     have:=key (j-i-1) i (by omega)
     rw[show i+(j-i-1)+1=j by omega,eR (List.getElem?_eq_getElem hi),eR (List.getElem?_eq_getElem hj)]at this
     exact this
   · obtain⟨j,hj⟩:=List.mem_iff_getElem?.1 hx
     have:=h j (List.getElem?_eq_some_iff.1 hj).1
     rw[eR hj]at this
     exact⟨this.1,this.2.1⟩
 · rintro ⟨h1,h2⟩ j hj
   refine⟨(h2 _ (bG hj)).1,(h2 _ (bG hj)).2,fun h0=>?_⟩
   have:=(List.pairwise_iff_getElem.1 h1) (j-1) j (by omega) hj (by omega)
   rwa [← eR (List.getElem?_eq_getElem (by omega:j-1<l.length)),←eR (List.getElem?_eq_getElem hj)]at this
theorem wa(l:List Int):Ch (fR l) 1 65535=ei l:=by
 rw[Bool.eq_iff_iff,A3,oU]
 have p:=jO l
 have u:=qt l
 constructor
 · rintro ⟨h1,h2⟩
   refine⟨p.nodup_iff.1 (h1.imp fun h=>by omega),fun x hx=>h2 x (p.mem_iff.2 hx)⟩
 · rintro ⟨h1,h2⟩
   have nd:(fR l).Nodup:=p.nodup_iff.2 h1
   refine⟨?_,fun x hx=>h2 x (p.mem_iff.1 hx)⟩
   have:=List.Pairwise.and u nd
   exact this.imp fun h=>by omega
end Go.Ev
namespace Go.Ev
open Go
variable [Lib] [bq] [bu]
theorem A4{α:Type} [Dat α](l:List α)(k:Nat)(hk:k<l.length)(x:α)(j:Nat):nth (l.set k x) j=if j=k then x else nth l j:=by
 unfold nth
 by_cases h:j=k
 · subst h;rw[if_pos rfl];simp[hk]
 · rw[if_neg h]
   have:¬k=j:=fun e=>h e.symm
   simp[List.getElem?_set,this]
def clW(m:bP)(t:Int)(into:Option (List Int))(y:List Int):Prop:=∀k,k<m.roads.length→∀back,SQ into ((nth m.roads k).dst back)=true→0≤x8 m k back 6 9 12→
 nth y ((nth m.roads k).src back).toNat<1099511627776→max t (nth y ((nth m.roads k).src back).toNat+x8 m k back 6 9 12)≤2147483648→
 nth y ((nth m.roads k).dst back).toNat≤max t (nth y ((nth m.roads k).src back).toNat+x8 m k back 6 9 12)
section
variable {m : bP} (h : m.ok) {t : Int} {into : Option (List Int)}
include h
end
end Go.Ev
namespace Go.Ev
open Go
variable [Lib] [bq] [bu]
structure OfI(m:bP)(p:Nat)(l:List Int):Prop where
 ln:l.length=m.places.length
 bd:bnd l
 z:nth l p=0
theorem OfI.set{m:bP}{p:Nat}{l:List Int}(h:OfI m p l){q:Nat}{x:Int}(hq:q<l.length)(h0:0<x)(hx:x<nth l q):OfI m p (l.set q x):=by
 have b1:=h.bd _ (bG hq)
 refine⟨by rw[List.length_set];exact h.ln,E7 h.bd (by omega) (by omega),?_⟩
 rw[A4 _ _ hq]
 split
 · rename_i e;subst e;have:=h.z;omega
 · exact h.z
end Go.Ev
namespace Go.Ev
open Go
variable [Lib] [bq] [bu] [c9] [c8] [ew] [dU]
@[go_sem] theorem S8 (H : ab) (len j : Nat) (ts : List T) (h : j < len) : Ko H len 1 false (.t (.agg ts)) j = (ts[j]?).map fun t => (.t t, H) := by
 have h0:len≠0:=by omega
 unfold Ko pz
 rw[if_neg h0,if_pos h]
 unfold kN cut
 simp only[D.isAgg,D.cells,T.cells,if_true,Nat.mul_one,List.length_map]
 by_cases hj:j<ts.length
 · rw[if_pos (by omega),List.getElem?_eq_getElem hj]
   have e:((ts.map D.t).drop j).take 1=[D.t ts[j]]:=by
    rw[List.drop_eq_getElem_cons (by simpa using hj)];simp
   rw[e];rfl
 · rw[if_neg (by omega),List.getElem?_eq_none (by omega)];rfl
section
variable (a0 a1 a2 a3 a4 a5 x y : Obj) (ds : ab)
end
@[go_sem] theorem OU (n : Nat) : eqB n n = true := by
 induction n with
 | zero=>rfl
 | succ n ih=>exact ih
end Go.Ev
namespace Go.Ev
open Go
variable [Lib] [bq] [bu] [dw] [dr] [c9] [c8] [ew] [dU]
end Go.Ev
namespace Go.Ev.N
def wc:Nat:=271
def yN:Nat:=272
def yO:Nat:=273
def wN:Nat:=274
def zq:Nat:=275
def yP:Nat:=276
def Gg:Nat:=277
def Gi:Nat:=278
def I6:Nat:=279
def I7:Nat:=280
def zr:Nat:=281
def Ml:Nat:=282
def CI:Nat:=283
def Gj:Nat:=284
def Gk:Nat:=285
def I8:Nat:=286
def lW:Nat:=287
def I9:Nat:=288
def Gl:Nat:=289
def Gm:Nat:=290
def Gn:Nat:=291
def Gp:Nat:=292
def zt:Nat:=293
def Gq:Nat:=294
def Gr:Nat:=295
def CJ:Nat:=296
def lE:Nat:=297
def lF:Nat:=298
def A5:Nat:=299
def pX:Nat:=300
def iW:Nat:=301
def kA:Nat:=302
def mY:Nat:=303
def jU:Nat:=304
def lX:Nat:=305
def mZ:Nat:=306
def lG:Nat:=307
def zu:Nat:=308
end Go.Ev.N
namespace Go.Ev.N
def CK:Nat:=309
def yQ:Nat:=310
def zv:Nat:=311
def zw:Nat:=312
def yR:Nat:=313
def Gs:Nat:=314
def RO:Nat:=315
def Mm:Nat:=316
def Gt:Nat:=317
def Gu:Nat:=318
def Gv:Nat:=319
def Gw:Nat:=320
def Mn:Nat:=321
def Mo:Nat:=322
def Gx:Nat:=323
def A6:Nat:=324
def Mp:Nat:=325
def OV:Nat:=326
def bI:Nat:=327
def CL:Nat:=328
def A7:Nat:=329
def ak:Nat:=330
def ao:Nat:=331
def A8:Nat:=332
def yS:Nat:=333
end Go.Ev.N
namespace Go.Ev.K
open Go.Ev
end Go.Ev.K
namespace Go.Ev
class kB [Lib]:Prop where
namespace K
variable [Lib] [kB]
end K
end Go.Ev
namespace Go.Ev.K
open Go.Ev
def eL:C:=(.seq (.ite [m v5,f 0 v2,g l0,u (.ln l0),u (.bin .lss l3 l0)] [] 0 .skip (.exit 0)) (.seq (.blk 1 (.ite [f 0 v2,g l0,m v5,a 2 l1 l0,h 2 l0,f 0 v3,g l0,m v5,a 2 l1 l0,h 2 l0,u (.eqk (.sc [true,false]) true l5 l0)] [] 0 (.seq (.reg [w 4 (.mv (.b false))] []) .ret) .skip)) (.reg [m v5,u (.bin .add l0 (.i 1)),w 5 (.mv l0)] [])))
def ic:C:= .loop true [0,1,4,6] K.eL
def eM:C:=(.seq (.ite [m v6,f 1 v2,g l0,u (.ln l0),u (.bin .lss l3 l0)] [] 0 .skip (.exit 2)) (.seq (.blk 3 (.ite [f 1 v2,g l0,m v6,a 10 l1 l0,h 10 l0,f 1 v3,g l0,m v6,a 10 l1 l0,h 10 l0,u (.eqk (.sc [true,true,true,true,false,false,true,true,true,true]) true l5 l0)] [] 0 (.seq (.reg [w 4 (.mv (.b false))] []) .ret) .skip)) (.reg [m v6,u (.bin .add l0 (.i 1)),w 6 (.mv l0)] [])))
def ie:C:= .loop true [0,1,4,5] K.eM
def bI:Fn:={ nargs:=2,vars:=[0,1,2,3,4,5,6],body:=(.seq (.reg [w 2 (.bx v0 2),w 3 (.bx v1 2),w 4 (.mv (.b false))] []) (.seq (.ite [f 0 v2,g l0,u (.ln l0),f 0 v3,g l0,u (.ln l0),u (.bin .neq l3 l0),m l0,y 0 false (.fa v2 1),y 1 false (.ld l0 1 false),y 2 false (.ln l0),y 3 false (.fa v3 1),y 4 false (.ld l0 1 false),y 5 false (.ln l0),y 6 false (.bin .neq l3 l0),u (.pk l7 (.b true) l0)] [] 0 (.seq (.reg [w 4 (.mv (.b false))] []) .ret) .skip) (.seq (.seq (.reg [w 5 (.mv (.i 0))] []) (.blk 0 K.ic)) (.seq (.seq (.reg [w 6 (.mv (.i 0))] []) (.blk 2 K.ie)) (.seq (.reg [w 4 (.mv (.b true))] []) .ret))))),res:=[(4,none)]}
def ak:Fn:={ nargs:=1,vars:=[0,2],body:=(.seq (.reg [w 1 (.mv (.c (.nil)))] []) (.itk [m v0,u (.eqk (.sl) false l0 (.c (.nil)))] [] 0 (.seq (.reg [w 1 (.nw 2)] []) .ret) .skip (.seq (.reg [u (.bsr [] 2),m v0,u (.app l1 l0 false 2),w 1 (.mv l0)] []) .ret))),res:=[(1,none)]}
def ao:Fn:={ nargs:=1,vars:=[0,2],body:=(.seq (.reg [w 1 (.mv (.c (.nil)))] []) (.itk [m v0,u (.eqk (.sl) false l0 (.c (.nil)))] [] 0 (.seq (.reg [w 1 (.nw 10)] []) .ret) .skip (.seq (.reg [u (.bsr [] 10),m v0,u (.app l1 l0 false 10),w 1 (.mv l0)] []) .ret))),res:=[(1,none)]}
end Go.Ev.K
namespace Go.Ev
class iX [Lib]:Prop where
 fy:Lib.fs N.bI=some K.bI
 bH:Lib.fs N.ak=some K.ak
 bQ:Lib.fs N.ao=some K.ao
namespace K
variable [Lib] [iX]
theorem fy:Lib.fs N.bI=some K.bI:=iX.fy
theorem bH:Lib.fs N.ak=some K.ak:=iX.bH
theorem bQ:Lib.fs N.ao=some K.ao:=iX.bQ
end K
end Go.Ev
namespace Go.Ev
open Go
variable [Lib] [bq] [bu] [dw] [dr] [c9] [c8] [ew] [dU] [kB] [iX]
end Go.Ev
namespace Go.Ev
open Go
variable [Lib] [bq] [bu] [dw] [dr] [fe] [c9] [c8] [ew] [dU] [cC] [cZ]
end Go.Ev
namespace Go.Ev
open Go
variable [Lib] [bq] [bu] [ew] [dU]
end Go.Ev
namespace Go.Ev
open Go
variable [Lib] [bq] [bu] [dw] [dr] [c9] [c8] [ew] [dU]
end Go.Ev
namespace Go.Ev
open Go
variable [Lib] [bq] [bu]
section
variable {m : bP} (hm : m.ok) {N : Nat} {b : Bel} (hb : BOk m N b) {s : Wh} (hs : s.frm.length = m.places.length) {l : List Mch}
variable (hl : ∀ y ∈ l, y.pl.length ≤ m.places.length ∧ 1 ≤ y.pl.length ∧ ∀ x ∈ y.pl, 0 ≤ x ∧ x < m.places.length) {t a : Int} (t0 : 0 ≤ t) (t1 : t ≤ 10000) (a0 : 0 ≤ a) (a1 : a ≤ 10000) (d : aB)
include hm hb hs hl t0 t1 a0 a1
omit hm hb t0 t1 a1 in
end
def aB.skip(d:aB)(n:Int):Nat→aB
 | 0=>d
 | k+1=>((d.skip n k).next n).2
end Go.Ev
namespace Go.Ev
open Go
variable [Lib] [bq] [bu] [fe]
end Go.Ev
namespace Go.Ev
open Go
variable [Lib] [bq] [bu] [dw] [dr] [fe] [c9] [c8] [ew] [dU]
end Go.Ev
namespace Go.Ev
open Go
variable [Lib] [bq] [bu] [dw] [dr] [fe] [c9] [c8] [ew] [dU] [cC] [cZ]
def lexB:List Int→List Int→Bool
 | _,[]=>false
 | [],_::_=>true
 | a::r,b::s=>decide (a<b)||(decide (a=b)&&lexB r s)
structure WV(m:bP)(first:List Int)(x:World):Prop where
 pm:x.tags.Perm first
 wl:x.whr.length=first.length
 wv:∀w∈x.whr,rN m w=true
structure BV(m:bP)(first:List Int)(ws:List World):Prop where
 pr:ei first=true
 f1:1≤first.length
 f2:first.length≤12
 wv:∀x∈ws,WV m first x
 up:ws.Pairwise fun x y=>lexB x.tags y.tags=true
end Go.Ev
namespace Go.Ev.K
open Go.Ev
end Go.Ev.K
namespace Go.Ev
class fM [Lib]:Prop where
namespace K
variable [Lib] [fM]
end K
end Go.Ev
namespace Go.Ev.K
open Go.Ev
end Go.Ev.K
namespace Go.Ev
class fN [Lib]:Prop where
namespace K
variable [Lib] [fN]
end K
end Go.Ev
namespace Go.Ev
open Go
variable [Lib] [bq] [bu] [dw] [dr] [fe] [c9] [c8] [ew] [dU] [cC] [cZ] [fM] [fN]
end Go.Ev
namespace Go.Ev
open Go
variable [Lib] [bq] [bu] [dw] [dr] [fe] [c9] [c8] [ew] [dU]
end Go.Ev
namespace Go.Ev
open Go
variable [Lib] [bq] [bu] [dw] [dr] [fe] [c9] [c8] [ew] [dU] [cC] [cZ]
structure SH(n p:Nat)(l:List Wh):Prop where
 ln:l.length=n
 fr:∀w∈l,w.frm.length=p
theorem WV.sh{m:bP}{first:List Int}{x:World}(h:WV m first x):SH first.length m.places.length x.whr:=
 ⟨h.wl,fun w hw=>(tA (h.wv w hw)).1⟩
end Go.Ev
namespace Go.Ev
open Go
variable [Lib] [bq] [bu] [dw] [dr] [fe] [c9] [c8] [ew] [dU] [cC] [cZ] [fM] [fN]
theorem Rp.more{H:ab}{id:Nat}{es:List D}{fa fb:Nat→Nat}{out:List World}(hr:Rp H id es fa fb out)(t:ab):Rp (H++t) id es fa fb out:=
 ⟨by rw[j5 (oP hr.arr)];exact hr.arr,hr.len,hr.el,fun j hj=>by rw[j5 (oP (hr.ha j hj))];exact hr.ha j hj,fun j hj=>by rw[j5 (oP (hr.hb j hj))];exact hr.hb j hj,hr.na,hr.nb,hr.nab,hr.nbb⟩
end Go.Ev
namespace Go.Ev
open Go
variable [Lib] [bq] [bu] [dw] [dr] [fe] [c9] [c8] [ew] [dU] [cC] [cZ]
end Go.Ev
namespace Go.Ev
open Go
variable [Lib] [bq] [bu] [c9] [c8]
abbrev A9:Int:=2147483648
section
variable {m : bP} (h : m.ok) {fl : List Spn}
include h
end
end Go.Ev
namespace Go.Ev
open Go
def clP(m:bP)(fl:List Spn)(y:List Int):Prop:=∀k,k<m.roads.length→∀back,0≤mw (nth m.roads k) (nth fl k) back→
 nth y ((nth m.roads k).src back).toNat+mw (nth m.roads k) (nth fl k) back≤A9→
 nth y ((nth m.roads k).dst back).toNat≤nth y ((nth m.roads k).src back).toNat+mw (nth m.roads k) (nth fl k) back
variable [Lib] [bq] [bu] [c9] [c8]
end Go.Ev
namespace Go.Ev
open Go
variable [Lib] [bq] [bu] [c9] [c8]
def RP(l:List Int):Prop:=∀x∈l,0≤x∧(x≤A9∨x=1099511627776)
theorem RP.bnd{l:List Int}(h:RP l):bnd l:=fun x hx=>by have:=h x hx;simp only[A9]at this;omega
end Go.Ev
namespace Go.Ev
open Go
variable [Lib] [bq] [bu] [dw] [dr] [c9] [c8]
structure Mq(m:bP)(fl:List Spn)(s:Wh):Prop where
 ln:s.frm.length=m.places.length
 ti:inT s.time
 tm:RP s.frm
 lo:∀x∈s.frm,s.time≤x
 cl:clP m fl s.frm
theorem Mq.valid{m:bP}{fl:List Spn}{s:Wh}(h:Mq m fl s):yg m s=true:=by
 simp only[yg,Bool.and_eq_true,decide_eq_true_eq,List.all_eq_true,List.mem_range]
 refine⟨fun j hj=>?_,h.ln,h.ti⟩
 have a:=h.tm _ (bG hj)
 have b:=h.lo _ (bG hj)
 unfold plS
 simp only[A9]at a
 omega
end Go.Ev
namespace Go.Ev
open Go
variable [Lib] [bq] [bu] [dw] [dr] [fe] [c9] [c8] [ew] [dU] [cC] [cZ]
section
variable {m : bP} (hm : m.ok) (l : List Mch) (hl : l.length ≤ 1000) (hp : ∀ x ∈ l, x.pl.length ≤ 1000000) (s : Wh) (hs : s.frm.length ≤ 1000000) (b : Bel) (hb : b.sz) (t a : Int)
include hm hl hp hs hb
end
end Go.Ev
namespace Go.Ev
open Go
variable [Lib] [bq] [bu] [dw] [dr] [c9] [c8]
end Go.Ev
namespace Go.Ev
open Go
variable [Lib] [bq] [bu]
def sh(s x:Int):Int:=if x<1099511627776 then x+s else x
def shL(s:Int)(l:List Int):List Int:=l.map (sh s)
@[simp] theorem RQ (s : Int) (l : List Int) : (shL s l).length = l.length := List.length_map ..
end Go.Ev
namespace Go.Ev
open Go
variable [Lib] [bq] [bu] [dw] [dr] [fe] [c9] [c8] [ew] [dU]
theorem oV(l:List Int)(x:Int){j:Nat}(hj:j<l.length):nth (l++[x]) j=nth l j:=by
 unfold nth;simp[List.getD_eq_getElem?_getD,List.getElem?_append_left hj]
theorem yT(l:List Int)(x:Int):nth (l++[x]) l.length=x:=by
 unfold nth;simp[List.getD_eq_getElem?_getD]
theorem yU{l:List Int}{n:Nat}(h:qI l n=true):qI l ((n+1:Nat):Int)=true∧qI (l++[(n:Int)]) ((n+1:Nat):Int)=true:=by
 simp only[qI,List.all_eq_true,List.mem_range,decide_eq_true_eq]at h ⊢
 refine⟨fun j hj=>?_,fun j hj=>?_⟩
 · obtain⟨a,b,c⟩:=h j hj;exact⟨a,by omega,c⟩
 · by_cases c:j<l.length
   · obtain⟨a,b,c⟩:=h j c
     rw[oV _ _ (by omega)]
     refine⟨a,by omega,fun hj=>?_⟩
     rw[oV _ _ (by omega)];exact c hj
   · have e:j=l.length:=by simp at hj;omega
     subst e
     rw[yT]
     refine⟨by omega,by omega,fun hj=>?_⟩
     rw[oV _ _ (by omega)]
     exact(h (l.length-1) (by omega)).2.1
theorem pY(d:aB):∀n:Nat,qI (d.fY n).1 n=true
 | 0=>rfl
 | n+1=>by
   have ih:=pY d n
   have:=yU ih
   simp only[aB.fY]
   split
   · exact this.2
   · exact this.1
end Go.Ev
namespace Go.Ev
open Go
variable [Lib] [bq] [bu] [dw] [dr] [fe] [c9] [c8] [ew] [dU] [cC] [cZ]
end Go.Ev
namespace Go.Ev
open Go
variable [Lib] [bq] [bu] [dw] [dr] [fe] [c9] [c8] [ew] [dU] [cC] [cZ] [fM] [fN]
end Go.Ev
namespace Go.Ev
open Go
variable [Lib] [bq] [bu] [dw] [dr]
def Ba(l:List Int)(t:Int):Nat→List Int
 | 0=>l
 | p+1=>if t<nth (Ba l t p) p then(Ba l t p).set p never else Ba l t p
def Bb(m:bP)(w:Wh)(t:Int):Wh:=⟨t,oM m t none (Ba w.frm t w.frm.length)⟩
theorem rY{H H':ab}:∀(k:Nat) (d:D),(∀i∈cm H k d,∃sz pin pin' ep es,H[i]?=some (.arr sz pin ep es)∧H'[i]?=some (.arr sz pin' ep es))→frz H' k d=frz H k d∧cm H' k d=cm H k d:=by
 intro k
 induction k with
 | zero=>intro d _;cases d<;>exact⟨rfl,rfl⟩
 | succ k ih=>
   intro d h
   have list:∀es:List D,(∀i∈es.flatMap (cm H k),∃sz pin pin' ep es,H[i]?=some (.arr sz pin ep es)∧H'[i]?=some (.arr sz pin' ep es))→aZ (frz H' k) es=aZ (frz H k) es∧es.flatMap (cm H' k)=es.flatMap (cm H k):=by
    intro es
    induction es with
    | nil=>intro _;exact⟨rfl,rfl⟩
    | cons e es ihl=>
      intro he
      obtain⟨a1,a2⟩:=ih e fun i hi=>he i (by simp[hi])
      obtain⟨b1,b2⟩:=ihl fun i hi=>he i (by rw[List.flatMap_cons];exact List.mem_append_right _ hi)
      exact⟨by simp only[aZ,a1,b1],by simp only[List.flatMap_cons,a2,b2]⟩
   cases d with
   | agg cs=>
     simp only[cm]at h
     obtain⟨a1,a2⟩:=list cs h
     exact⟨by simp only[frz,a1],by simp only[cm,a2]⟩
   | ref id ep n=>
     obtain⟨sz,pin,pin',ep',es,e1,e2⟩:=h id (by simp[cm])
     have:∀i∈es.flatMap (cm H k),∃sz pin pin' ep es,H[i]?=some (.arr sz pin ep es)∧H'[i]?=some (.arr sz pin' ep es):=fun i hi=>h i (by simp only[cm,e1];exact List.mem_cons_of_mem _ hi)
     obtain⟨a1,a2⟩:=list es this
     refine⟨?_,by simp only[cm,e1,e2,a2]⟩
     simp only[frz,cM,e1,e2]
     by_cases c:ep=ep'∧n=es.length
     · simp only[if_pos c,Option.bind_some,a1]
     · simp only[if_neg c,Option.bind_none]
   | sub id ep n lo hi=>
     obtain⟨sz,pin,pin',ep',es,e1,e2⟩:=h id (by simp[cm])
     have:∀i∈es.flatMap (cm H k),∃sz pin pin' ep es,H[i]?=some (.arr sz pin ep es)∧H'[i]?=some (.arr sz pin' ep es):=fun i hi=>h i (by simp only[cm,e1];exact List.mem_cons_of_mem _ hi)
     obtain⟨a1,a2⟩:=list es this
     have:∀i∈((es.drop lo).take (hi-lo)).flatMap (cm H k),∃sz pin pin' ep es,H[i]?=some (.arr sz pin ep es)∧H'[i]?=some (.arr sz pin' ep es):=fun i hi=>by
      obtain⟨e,he,hi⟩:=List.mem_flatMap.1 hi
      exact this i (List.mem_flatMap.2 ⟨e,List.mem_of_mem_drop (List.mem_of_mem_take he),hi⟩)
     obtain⟨b1,b2⟩:=list _ this
     refine⟨?_,by simp only[cm,e1,e2,a2]⟩
     simp only[frz,cM,e1,e2]
     by_cases c:ep=ep'∧n=es.length
     · simp only[if_pos c,Option.bind_some,b1]
     · simp only[if_neg c,Option.bind_none]
   | _=>exact⟨rfl,rfl⟩
end Go.Ev
