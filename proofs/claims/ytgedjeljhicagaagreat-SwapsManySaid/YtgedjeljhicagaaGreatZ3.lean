/- Parts of the proof: see the text that holds the theorem. -/
import Derived.Test.YtgedjeljhicagaaGreatZ2
set_option linter.all false
open Nat (reduceAdd reduceSub)
set_option maxRecDepth 100000
namespace Go.Ev
open Go
abbrev I(n:Int):D:= .t (.int .i64 n)
abbrev B(b:Bool):D:= .t (.bool b)
def Em{β:Type}(call:aP):List R→List D→List D→ah→(List D→List D→ah→Option β)→Option β
 | rs,L,vs,H,K=>(evR call rs L vs H).bind fun q=>K q.1 q.2.1 q.2.2
def Li{β:Type}(call:aP)(rs:List R)(d:Option Nat)(L vs:List D)(K:List D→List D→ah→Option β)(p:D×ah):Option β:=
 Em call rs (p.1::L) (wr vs d p.1) p.2 K
@[go_sem] theorem TU {β : Type} (call : aP) (rs : List R) (d : Option Nat) (L vs : List D) (K : List D → List D → ah → Option β) (x : D) (H : ah) :
 Li call rs d L vs K (x,H)=Em call rs (x::L) (wr vs d x) H K:=(rfl)
@[go_sem] theorem TV {β : Type} (call : aP) (L vs : List D) (H : ah) (K : List D → List D → ah → Option β) : Em call [] L vs H K = K L vs H := (rfl)
@[go_sem] theorem QT {β : Type} (call : aP) (o : O) (d : Option Nat) (rs : List R) (L vs : List D) (H : ah) (K : List D → List D → ah → Option β) :
 Em call (⟨o,d,none⟩::rs) L vs H K=(evO call (X.get vs L) H o).bind (Li call rs d L vs K):=by
 simp[Em,evR,cq,Option.bind_assoc]
 rfl
def gate{β:Type}(c:Option D)(w:Bool)(a b:Option β):Option β:=match c with
 | some (.t (.bool x))=>if x=w then a else b
 | some (.tup [])=>b
 | _=>none
@[congr] theorem On {β : Type} {c c' : Option D} {w : Bool} {a b : Option β} (h : True → c = c') : gate c w a b = gate c' w a b := by rw [h trivial]
@[go_sem] theorem TW {β : Type} (p : Prop) [Decidable p] (a b : Option β) : gate (some (.t (.bool (decide p)))) true a b = if p then a else b := by
 by_cases h:p<;>simp[gate,h]
@[go_sem] theorem QU {β : Type} (p : Prop) [Decidable p] (a b : Option β) : gate (some (.t (.bool (decide p)))) false a b = if p then b else a := by
 by_cases h:p<;>simp[gate,h]
@[go_sem] theorem QV {β : Type} (x : Bool) (a b : Option β) : gate (some (.t (.bool x))) true a b = if x = true then a else b := (rfl)
@[go_sem] theorem Oo {β : Type} (x : Bool) (a b : Option β) : gate (some (.t (.bool x))) false a b = if x = true then b else a := by cases x <;> rfl
@[go_sem] theorem QW {β : Type} (w : Bool) (a b : Option β) : gate (some (.tup [])) w a b = b := (rfl)
@[go_sem] theorem QX {β : Type} (call : aP) (o : O) (d : Option Nat) (k : Nat) (w : Bool) (rs : List R) (L vs : List D) (H : ah) (K : List D → List D → ah → Option β) :
 Em call (⟨o,d,some (k,w)⟩::rs) L vs H K=gate L[k]? w ((evO call (X.get vs L) H o).bind (Li call rs d L vs K)) (Em call rs (.tup []::L) (wr vs d (.tup [])) H K):=by
 simp only[Em,evR,cq]
 cases hL:L[k]? with
 | none=>simp[gate]
 | some c=>
   simp only[aLq]
   cases c with
   | t x=>
     cases x with
     | bool b=>cases b<;>cases w<;>simp[gate,Option.bind_assoc]<;>rfl
     | _=>simp[gate]
   | tup ds=>
     cases ds with
     | nil=>simp[gate]
     | cons=>simp[gate]
   | _=>simp[gate]
open Classical in
noncomputable def tc{β:Type}(p:Prop)(x:Option β):Option β:=if p then x else none
@[go_sem] theorem Lj {β : Type} (x : Option β) : tc True x = x := by simp [tc]
noncomputable def ze{β:Type}(call:aP)(all:List R)(n:Nat)(ps:List (Nat×Nat))(rs:List R)(L vs:List D)(H:ah)(acc:List Tr)(K:List D→List D→ah→Option β):Option β:=
 (evR call rs L vs H).bind fun q=>tc (nM call all n ((trace call rs L vs H).reverse++acc) ps) (K q.1 q.2.1 q.2.2)
noncomputable def Fl{β:Type}(call:aP)(all:List R)(n:Nat)(ps:List (Nat×Nat))(rs:List R)(d:Option Nat)(L vs:List D)(H:ah)(acc:List Tr)(K:List D→List D→ah→Option β)(p:D×ah):Option β:=
 ze call all n ps rs (p.1::L) (wr vs d p.1) p.2 ((L,vs,H)::acc) K
@[go_sem] theorem TX {β : Type} (call : aP) (all : List R) (n : Nat) (ps : List (Nat × Nat)) (rs : List R) (d : Option Nat) (L vs : List D) (H : ah) (acc : List Tr) (K : List D → List D → ah → Option β) (x : D) (H' : ah) :
 Fl call all n ps rs d L vs H acc K (x,H')=ze call all n ps rs (x::L) (wr vs d x) H' ((L,vs,H)::acc) K:=(rfl)
@[go_sem] theorem TY {β : Type} (call : aP) (all : List R) (n : Nat) (ps : List (Nat × Nat)) (L vs : List D) (H : ah) (acc : List Tr) (K : List D → List D → ah → Option β) :
 ze call all n ps [] L vs H acc K=tc (nM call all n ((L,vs,H)::acc) ps) (K L vs H):=by
 simp[ze,evR,trace]
theorem zf{β:Type}(call:aP)(all:List R)(n:Nat)(ps:List (Nat×Nat))(r:R)(rs:List R)(L vs:List D)(H:ah)(acc:List Tr)(K:List D→List D→ah→Option β):
 ze call all n ps (r::rs) L vs H acc K=(cq L r.g).bind fun w=>
  if w then(evO call (X.get vs L) H r.o).bind (Fl call all n ps rs r.d L vs H acc K)else ze call all n ps rs (.tup []::L) (wr vs r.d (.tup [])) H ((L,vs,H)::acc) K:=by
 obtain hw | ⟨w,hw⟩:cq L r.g=none∨∃w,cq L r.g=some w:=by cases cq L r.g<;>simp
 · simp[ze,evR,trace,hw]
 · cases w with
   | true=>
     obtain hq | ⟨q,hq⟩:evO call (X.get vs L) H r.o=none∨∃q,evO call (X.get vs L) H r.o=some q:=by cases evO call (X.get vs L) H r.o<;>simp
     · simp[ze,evR,trace,hw,hq]
     · simp[ze,evR,trace,hw,hq,Fl]
   | false=>simp[ze,evR,trace,hw]
@[go_sem] theorem QY {β : Type} (call : aP) (all : List R) (n : Nat) (ps : List (Nat × Nat)) (o : O) (d : Option Nat) (rs : List R) (L vs : List D) (H : ah) (acc : List Tr) (K : List D → List D → ah → Option β) :
 ze call all n ps (⟨o,d,none⟩::rs) L vs H acc K=(evO call (X.get vs L) H o).bind (Fl call all n ps rs d L vs H acc K):=by
 rw[zf];simp[cq]
@[go_sem] theorem QZ {β : Type} (call : aP) (all : List R) (n : Nat) (ps : List (Nat × Nat)) (o : O) (d : Option Nat) (k : Nat) (w : Bool) (rs : List R) (L vs : List D) (H : ah) (acc : List Tr) (K : List D → List D → ah → Option β) :
 ze call all n ps (⟨o,d,some (k,w)⟩::rs) L vs H acc K=
  gate L[k]? w ((evO call (X.get vs L) H o).bind (Fl call all n ps rs d L vs H acc K)) (ze call all n ps rs (.tup []::L) (wr vs d (.tup [])) H ((L,vs,H)::acc) K):=by
 rw[zf]
 simp only[cq]
 cases hL:L[k]? with
 | none=>simp[gate]
 | some c=>
   simp only[aLq]
   cases c with
   | t x=>
     cases x with
     | bool b=>cases b<;>cases w<;>simp[gate]
     | _=>simp[gate]
   | tup ds=>
     cases ds with
     | nil=>simp[gate]
     | cons=>simp[gate]
   | _=>simp[gate]
def tH(call:aP):Option R→Option Tr→Option Tr→Option Tr→Prop
 | some r,some s,some a,some s'=>(match r.o with
   | .al _ _=>a.2.2[s.2.2.length]?=s'.2.2[s.2.2.length]?
   | .bs xs _=>cq s.1 r.g=some false∨((bK (X.get s.2.1 s.1) xs).bind mM).isSome=true
   | o=>pK o=true∧(cq s.1 r.g=some false∨wR (evO call (X.get s.2.1 s.1) a.2.2 o)=wR (evO call (X.get s.2.1 s.1) s.2.2 o)))
 | _,_,_,_=>False
@[go_sem] theorem Oq (call : aP) (all : List R) (n : Nat) (acc : List Tr) : nM call all n acc [] = True := (rfl)
@[go_sem] theorem Lk (call : aP) (all : List R) (n : Nat) (acc : List Tr) (p m : Nat) (r : List (Nat × Nat)) :
 nM call all n acc ((p,m)::r)=(tH call all[p]? acc[n-p]? acc[n-m]? acc[n-(p+1)]?∧m≤n∧nM call all n acc r):=by
 simp only[nM,Lh,tH]
 try rfl
section
variable (call : aP) (d : Option Nat) (gd : Option (Nat × Bool)) (L vs L' vs' : List D) (H H' : ah) (s' : Tr)
@[go_sem] theorem TZ (x : X) (n : Nat) (agg : Bool) : tH call (some ⟨.ld x n agg, d, gd⟩) (some (L, vs, H)) (some (L', vs', H')) (some s') =
 (cq L gd=some false∨wR (evO call (X.get vs L) H' (.ld x n agg))=wR (evO call (X.get vs L) H (.ld x n agg))):=by simp[tH,pK]
@[go_sem] theorem T0 (x i : X) (sz : Nat) : tH call (some ⟨.ia x i sz, d, gd⟩) (some (L, vs, H)) (some (L', vs', H')) (some s') =
 (cq L gd=some false∨wR (evO call (X.get vs L) H' (.ia x i sz))=wR (evO call (X.get vs L) H (.ia x i sz))):=by simp[tH,pK]
@[go_sem] theorem T1 (x : X) (lo hi : Option X) (sz : Nat) : tH call (some ⟨.sc x lo hi sz, d, gd⟩) (some (L, vs, H)) (some (L', vs', H')) (some s') =
 (cq L gd=some false∨wR (evO call (X.get vs L) H' (.sc x lo hi sz))=wR (evO call (X.get vs L) H (.sc x lo hi sz))):=by simp[tH,pK]
@[go_sem] theorem Q0 (x : X) (z : T) (sz : Nat) : tH call (some ⟨.mkt x z sz, d, gd⟩) (some (L, vs, H)) (some (L', vs', H')) (some s') =
 (cq L gd=some false∨wR (evO call (X.get vs L) H' (.mkt x z sz))=wR (evO call (X.get vs L) H (.mkt x z sz))):=by simp[tH,pK]
@[go_sem] theorem T2 (z : List D) (l : List (Nat × Nat)) (L2 vs2 : List D) (H2 : ah) : tH call (some ⟨.al z l, d, gd⟩) (some (L, vs, H)) (some (L', vs', H')) (some (L2, vs2, H2)) = (H'[H.length]? = H2[H.length]?) := (rfl)
@[go_sem] theorem T3 (xs : List X) (sz : Nat) : tH call (some ⟨.bs xs sz, d, gd⟩) (some (L, vs, H)) (some (L', vs', H')) (some s') =
 (cq L gd=some false∨((bK (X.get vs L) xs).bind mM).isSome=true):=(rfl)
@[go_sem] theorem Ju (L : List D) : cq L none = some true := (rfl)
def Ll(w:Bool):Option D→Option Bool
 | some (.t (.bool b))=>some (b==w)
 | some (.tup [])=>some false
 | _=>none
@[go_sem] theorem Ot (w b : Bool) : Ll w (some (.t (.bool b))) = some (b == w) := (rfl)
@[go_sem] theorem Q4 (w : Bool) : Ll w (some (.tup [])) = some false := (rfl)
@[go_sem] theorem Jv (L : List D) (k : Nat) (w : Bool) : cq L (some (k, w)) = Ll w L[k]? := by
 simp only[cq]
 cases L[k]? with
 | none=>rfl
 | some c=>cases c with
   | t x=>cases x<;>rfl
   | tup ds=>cases ds<;>rfl
   | _=>rfl
@[go_sem] theorem Q5 (x : D) : wR (some (x, H)) = some x := (rfl)
attribute [go_sem] beq_true beq_false or_true true_or or_self
end
theorem Ce(call:aP)(rs:List R)(vs:List D)(H:ah):El call rs [] vs H=evR call rs [] vs H:=by
 simp[El,nM]
def Wi(L vs:List D)(H:ah):Option (Ex×St):=some (.normal,⟨vs,H⟩)
noncomputable def Wj(call:aP)(k:Nat)(a b:C)(L vs:List D)(H:ah):Option (Ex×St):=fw L[k]? (exS call a ⟨vs,H⟩) (exS call b ⟨vs,H⟩)
@[go_sem] theorem Wk (L vs : List D) (H : ah) : Wi L vs H = some (.normal, ⟨vs, H⟩) := (rfl)
@[go_sem] theorem Wl (call : aP) (k : Nat) (a b : C) (L vs : List D) (H : ah) : Wj call k a b L vs H = fw L[k]? (exS call a ⟨vs, H⟩) (exS call b ⟨vs, H⟩) := (rfl)
def andThen(x:Option (Ex×St))(k:St→Option (Ex×St)):Option (Ex×St):=x.bind fun p=>fI p k
@[go_sem] theorem G2 (st : St) (k : St → Option (Ex × St)) : andThen (some (.normal, st)) k = k st := (rfl)
@[go_sem] theorem Lm (st : St) (k : St → Option (Ex × St)) : andThen (some (.ret, st)) k = some (.ret, st) := (rfl)
@[go_sem] theorem Jw (i : Nat) (st : St) (k : St → Option (Ex × St)) : andThen (some (.exit i, st)) k = some (.exit i, st) := (rfl)
@[go_sem] theorem Jx (k : St → Option (Ex × St)) : andThen none k = none := (rfl)
@[go_sem] theorem andThen_ite (c : Prop) [Decidable c] (a b : Option (Ex × St)) (k : St → Option (Ex × St)) : andThen (if c then a else b) k = if c then andThen a k else andThen b k := by
 split<;>rfl
@[go_sem] theorem T4 (call : aP) (st : St) : exS call .skip st = some (.normal, st) := (rfl)
@[go_sem] theorem Wm (call : aP) (rs : List R) (vs : List D) (H : ah) : exS call (.reg rs []) ⟨vs, H⟩ = Em call rs [] vs H Wi := by
 simp only[exS,Ce,Em]
 cases evR call rs [] vs H<;>rfl
@[go_sem] theorem T5 (call : aP) (rs : List R) (p : Nat × Nat) (ps : List (Nat × Nat)) (vs : List D) (H : ah) :
 exS call (.reg rs (p::ps)) ⟨vs,H⟩=ze call rs rs.length (p::ps) rs [] vs H [] Wi:=by
 simp only[exS,El,ze,List.append_nil]
 by_cases h:nM call rs rs.length (trace call rs [] vs H).reverse (p::ps)
 · rw[if_pos h]
   simp only[tc,if_pos h]
   cases evR call rs [] vs H<;>rfl
 · rw[if_neg h]
   simp only[tc,if_neg h]
   cases evR call rs [] vs H<;>rfl
@[go_sem] theorem Wn (call : aP) (a b : C) (st : St) : exS call (.seq a b) st = andThen (exS call a st) (exS call b) := (rfl)
@[go_sem] theorem Wo (call : aP) (rs : List R) (k : Nat) (a b : C) (vs : List D) (H : ah) : exS call (.ite rs [] k a b) ⟨vs, H⟩ = Em call rs [] vs H (Wj call k a b) := by
 simp only[exS,Ce,Em]
 cases evR call rs [] vs H<;>rfl
@[go_sem] theorem T6 (call : aP) (rs : List R) (p : Nat × Nat) (ps : List (Nat × Nat)) (k : Nat) (a b : C) (vs : List D) (H : ah) :
 exS call (.ite rs (p::ps) k a b) ⟨vs,H⟩=ze call rs rs.length (p::ps) rs [] vs H [] (Wj call k a b):=by
 simp only[exS,El,ze,List.append_nil]
 by_cases h:nM call rs rs.length (trace call rs [] vs H).reverse (p::ps)
 · rw[if_pos h]
   simp only[tc,if_pos h]
   cases evR call rs [] vs H<;>rfl
 · rw[if_neg h]
   simp only[tc,if_neg h]
   cases evR call rs [] vs H<;>rfl
@[go_sem] theorem Wp (call : aP) (rs : List R) (ps : List (Nat × Nat)) (k : Nat) (a b c : C) (st : St) : exS call (.its rs ps k a b c) st = andThen (exS call (.ite rs ps k a b) st) (exS call c) := (rfl)
@[go_sem] theorem Wq (call : aP) (rs : List R) (ps : List (Nat × Nat)) (k : Nat) (a b c : C) (st : St) : exS call (.itk rs ps k a b c) st = exS call (.ite rs ps k (.seq a c) (.seq b c)) st := (rfl)
@[go_sem] theorem Ws (call : aP) (j : Nat) (a b : C) (vs : List D) (H : ah) : exS call (.itv j a b) ⟨vs, H⟩ = fw vs[j]? (exS call a ⟨vs, H⟩) (exS call b ⟨vs, H⟩) := (rfl)
@[go_sem] theorem T7 (call : aP) (id : Nat) (st : St) : exS call (.exit id) st = some (.exit id, st) := (rfl)
@[go_sem] theorem Wt (call : aP) (st : St) : exS call .ret st = some (.ret, st) := (rfl)
@[go_sem] theorem T8 (call : aP) (st : St) : exS call .fail st = none := (rfl)
@[go_sem] theorem Wu (call : aP) (x p f : Nat) (r1 : List R) (p1 : List (Nat × Nat)) (r2 : List R) (p2 : List (Nat × Nat)) (vs : List D) (H : ah) : exS call (.rng x p f r1 p1 r2 p2) ⟨vs, H⟩ = (Eh (stepG (El call) vs p r1 p1 r2 p2) (G1 f vs[x]?) H).map fun H => (.normal, ⟨vs, H⟩) := (rfl)
@[go_sem] theorem Wv (call : aP) (v : Bool) (c : C) (st : St) : exS call (.cnd v c) st = exS call c st := (rfl)
def uR(id:Nat)(x:Option (Ex×St)):Option (Ex×St):=x.map (leave id)
@[go_sem] theorem Ww (call : aP) (id : Nat) (c : C) (st : St) : exS call (.blk id c) st = uR id (exS call c st) := (rfl)
@[go_sem] theorem Jy (id : Nat) (st : St) : uR id (some (.normal, st)) = some (.normal, st) := by simp [uR, leave]
@[go_sem] theorem Q6 (id : Nat) (st : St) : uR id (some (.ret, st)) = some (.ret, st) := by simp [uR, leave]
@[go_sem] theorem Ou (id i : Nat) (st : St) : uR id (some (.exit i, st)) = if i = id then some (.normal, st) else some (.exit i, st) := by
 simp only[uR,leave,aLw,Ex.exit.injEq]
 split<;>rfl
@[go_sem] theorem Ov (id : Nat) : uR id none = none := (rfl)
@[go_sem] theorem Q7 (id : Nat) (c : Prop) [Decidable c] (a b : Option (Ex × St)) : uR id (if c then a else b) = if c then uR id a else uR id b := by
 split<;>rfl
@[congr] theorem Ln {c c' : Option D} {a b : Option (Ex × St)} (h : True → c = c') : fw c a b = fw c' a b := by rw [h trivial]
@[go_sem] theorem Q8 (p : Prop) [Decidable p] (a b : Option (Ex × St)) : fw (some (.t (.bool (decide p)))) a b = if p then a else b := by
 by_cases h:p<;>simp[fw,h]
@[go_sem] theorem Ow (p : Prop) [Decidable p] (a b : Option (Ex × St)) : fw (some (.t (.bool (!decide p)))) a b = if p then b else a := by
 by_cases h:p<;>simp[fw,h]
@[go_sem] theorem T9 (a : Option (Ex × St)) : fw (some .ub) a a = a := by simp [fw]
@[go_sem] theorem Ox (x : Bool) (a b : Option (Ex × St)) : fw (some (.t (.bool x))) a b = if x = true then a else b := (rfl)
def dB(gc:Bool)(dead:List Nat)(k:Nat)(x:Option (Ex×St)):Option St:=x.bind fun p=>match p.1 with
 | .normal=>tidy gc dead k p.2
 | _=>none
@[go_sem] theorem HP (gc : Bool) (dead : List Nat) (k : Nat) (st : St) : dB gc dead k (some (.normal, st)) = tidy gc dead k st := (rfl)
@[go_sem] theorem Oy (gc : Bool) (dead : List Nat) (k : Nat) (c : Prop) [Decidable c] (a b : Option (Ex × St)) : dB gc dead k (if c then a else b) = if c then dB gc dead k a else dB gc dead k b := by
 split<;>rfl
theorem cM{gc:Bool}{dead:List Nat}{body:St→Option (Ex×St)}{st st2:St}(h:dB gc dead st.H.length (body st)=some st2)
 {p:Ex×St} (h2:kV gc dead body st2=some p):kV gc dead body st=some p:=by
 unfold dB at h
 obtain⟨⟨e,st1⟩,hq,h⟩:=aLa.1 h
 cases e with
 | normal=>exact wP hq h h2
 | ret=>cases h
 | exit=>cases h
theorem xO{gc:Bool}{dead:List Nat}{body:St→Option (Ex×St)}(s:Nat→St){p:Ex×St}(n:Nat)
 (h:∀j,j<n→dB gc dead (s j).H.length (body (s j))=some (s (j+1))) (he:kV gc dead body (s n)=some p):kV gc dead body (s 0)=some p:=by
 have:=s9 (s:=s) n 0 (fun j _ hj=>by
  have h:=h j (by omega)
  unfold dB at h
  obtain⟨⟨e,st1⟩,hq,h⟩:=aLa.1 h
  cases e with
  | normal=>exact⟨st1,hq,h⟩
  | ret=>cases h
  | exit=>cases h) (by simpa using he)
 exact this
def Ua(res:List (Nat×Option (Nat×Bool)))(k raw:Nat)(p:Ex×St):Option (D×ah):=match p.1 with
 | .exit _=>none
 | _=>(gV p.2 res).bind (finish k raw p.2.H)
@[go_sem] theorem Ub (res : List (Nat × Option (Nat × Bool))) (k raw : Nat) (vs : List D) (H : ah) : Ua res k raw (.ret, ⟨vs, H⟩) = (gV ⟨vs, H⟩ res).bind (finish k raw H) := (rfl)
@[go_sem] theorem Lo (res : List (Nat × Option (Nat × Bool))) (k raw : Nat) (vs : List D) (H : ah) : Ua res k raw (.normal, ⟨vs, H⟩) = (gV ⟨vs, H⟩ res).bind (finish k raw H) := (rfl)
theorem Lp{fs:Nat→Option Fn}{raw f:Nat}{args:List D}{H:ah}{fn:Fn}{r:D×ah}(hf:fs f=some fn)(hn:fn.aY=args.length)
 (h:(exS (kE fs) fn.body ⟨pE args fn.vars,H⟩).bind (Ua fn.res H.length raw)=some r) (h0:fn.prim=[]:=by rfl):kE fs raw f args H=some r:=by
 obtain⟨p,hp,he⟩:=aLa.1 h
 exact HK hf hn (HO _ _ _ hp) he h0
@[go_sem] theorem Uc {α β : Type} (c : Prop) [Decidable c] (a b : Option α) (k : α → Option β) : (if c then a else b).bind k = if c then a.bind k else b.bind k := by
 split<;>rfl
@[go_sem] theorem Wx {α β : Type} (c : Prop) [Decidable c] (a b : Option α) (k : α → β) : (if c then a else b).map k = if c then a.map k else b.map k := by
 split<;>rfl
theorem Ud(a b:Int):(a==b)=decide (a=b):=by rw[Bool.eq_iff_iff];simp
theorem bz{n:Int}(h1: -9223372036854775808≤n)(h2:n≤9223372036854775807):IntKind.i64.wrap n=n:=by
 have e:IntKind.i64.wrap n=if n % 18446744073709551616≥9223372036854775808 then n % 18446744073709551616-18446744073709551616 else n % 18446744073709551616:=by
  simp[IntKind.wrap,IntKind.signed,IntKind.bits]
 rw[e];split<;>omega
section
variable {α β : Type}
@[go_sem] theorem Lq (a : α) (f : α → Option β) : (some a).bind f = f a := (rfl)
@[go_sem] theorem Oz (a : α) (f : α → β) : (some a).map f = some (f a) := (rfl)
@[go_sem] theorem Lr (f : α → Option β) : (none : Option α).bind f = none := (rfl)
@[go_sem] theorem OA (f : α → β) : (none : Option α).map f = none := (rfl)
@[go_sem] theorem OB (a : α) (l : List α) (f : α → β) : (a :: l).map f = f a :: l.map f := (rfl)
@[go_sem] theorem Q9 (f : α → β) : ([] : List α).map f = [] := (rfl)
@[go_sem] theorem OC (a : α) (l : List α) : (a :: l)[0]? = some a := (rfl)
@[go_sem] theorem OD (a : α) (l : List α) (n : Nat) : (a :: l)[n + 1]? = l[n]? := (rfl)
@[go_sem] theorem Lt (a d : α) (l : List α) : (a :: l).getD 0 d = a := (rfl)
@[go_sem] theorem Lu (a d : α) (l : List α) (n : Nat) : (a :: l).getD (n + 1) d = l.getD n d := (rfl)
@[go_sem] theorem OE (d : α) (n : Nat) : ([] : List α).getD n d = d := by simp
@[go_sem] theorem OF (a b : α) (l : List α) : (a :: l).set 0 b = b :: l := (rfl)
@[go_sem] theorem OH (a b : α) (l : List α) (n : Nat) : (a :: l).set (n + 1) b = a :: l.set n b := (rfl)
@[go_sem] theorem HQ (a : α) (l m : List α) : (a :: l) ++ m = a :: (l ++ m) := (rfl)
@[go_sem] theorem Jz (l : List α) : [] ++ l = l := (rfl)
@[go_sem] theorem JA (l : List α) : l ++ [] = l := by simp
@[go_sem] theorem G3 (a : α) (l : List α) (f : α → List β) : (a :: l).flatMap f = f a ++ l.flatMap f := by simp
@[go_sem] theorem HR (f : α → List β) : ([] : List α).flatMap f = [] := by simp
@[go_sem] theorem JB : ([] : List α).length = 0 := (rfl)
@[go_sem] theorem HT (a : α) (l : List α) : (a :: l).length = l.length + 1 := (rfl)
@[go_sem] theorem JC (l : List α) (f : α → β) : (l.map f).length = l.length := by simp
@[go_sem] theorem Fm (l m : List α) : (l ++ m).length = l.length + m.length := by simp
@[go_sem] theorem Cf (n : Nat) (a : α) : (List.replicate n a).length = n := by simp
@[go_sem] theorem JD (l : List α) (i : Nat) (a : α) : (l.set i a).length = l.length := by simp
@[go_sem] theorem Lv (l : List α) : l.drop 0 = l := (rfl)
@[go_sem] theorem Lw (a : α) (l : List α) (n : Nat) : (a :: l).drop (n + 1) = l.drop n := (rfl)
@[go_sem] theorem OI (n : Nat) : ([] : List α).drop n = [] := by simp
@[go_sem] theorem Lx (l : List α) : l.take 0 = [] := (rfl)
@[go_sem] theorem Lz (a : α) (l : List α) (n : Nat) : (a :: l).take (n + 1) = a :: l.take n := (rfl)
@[go_sem] theorem OJ (n : Nat) : ([] : List α).take n = [] := by simp
@[go_sem] theorem LA (a b : α) : (bif true then a else b) = a := (rfl)
@[go_sem] theorem JE (a b : α) : (bif false then a else b) = b := (rfl)
@[go_sem] theorem OK (n : Nat) : n + 0 = n := (rfl)
@[go_sem] theorem OL (n : Nat) : 0 + n = n := by simp
@[go_sem] theorem OM (a b : α) : (some a = some b) = (a = b) := by simp
@[go_sem] theorem Ue (a : α) : (some a).isSome = true := (rfl)
end
attribute [go_sem] decide_true decide_false if_true if_false aLt Bool.true_eq_false decide_eq_true_eq decide_eq_false_iff_not aLr Bool.or_eq_true Bool.not_eq_true' Bool.not_eq_true Bool.not_eq_false
 Bool.and_true Bool.true_and Bool.and_false Bool.false_and Bool.or_true Bool.true_or Bool.or_false Bool.false_or and_true true_and and_self not_true_eq_false not_false_eq_true beq_iff_eq bne_iff_ne ne_eq
@[go_sem] theorem ON : (!true) = false := (rfl)
@[go_sem] theorem LB : (!false) = true := (rfl)
@[go_sem] theorem aae (vs L : List D) (j : Nat) : X.get vs L (.v j) = vs[j]? := (rfl)
@[go_sem] theorem aaf (vs L : List D) (k : Nat) : X.get vs L (.l k) = L[k]? := (rfl)
@[go_sem] theorem aag (vs L : List D) (d : D) : X.get vs L (.c d) = some d := (rfl)
@[go_sem] theorem aah (vs L : List D) (n : Int) : X.get vs L (.i n) = some (I n) := (rfl)
@[go_sem] theorem aai (vs L : List D) (x : Bool) : X.get vs L (.b x) = some (B x) := (rfl)
@[go_sem] theorem Wy (vs : List D) (x : D) : wr vs none x = vs := (rfl)
@[go_sem] theorem Wz (vs : List D) (s : Nat) (x : D) : wr vs (some s) x = vs.set s x := (rfl)
@[go_sem] theorem OO (args : List D) : pE args [] = [] := (rfl)
@[go_sem] theorem LC (args : List D) (s : Nat) (r : List Nat) : pE args (s :: r) = args.getD s .und :: pE args r := (rfl)
def WA(H:ah)(d:D):Option (D×ah):=some (d,H)
@[go_sem] theorem WB (H : ah) (d : D) : WA H d = some (d, H) := (rfl)
def jL{α:Type}(a:α)(l:Option (List α)):Option (List α):=l.map (a:: ·)
@[go_sem] theorem OP {α : Type} (a : α) (l : List α) : jL a (some l) = some (a :: l) := (rfl)
@[go_sem] theorem OQ {α : Type} (a : α) : jL a none = none := (rfl)
@[go_sem] theorem Uf {α β : Type} (f : α → Option β) : bK f [] = some [] := (rfl)
def Y5{α β:Type}(f:α→Option β)(r:List α)(y:β):Option (List β):=jL y (bK f r)
@[go_sem] theorem LD {α β : Type} (f : α → Option β) (r : List α) (y : β) : Y5 f r y = jL y (bK f r) := (rfl)
@[go_sem] theorem zg {α β : Type} (f : α → Option β) (x : α) (r : List α) : bK f (x :: r) = (f x).bind (Y5 f r) := (rfl)
section
variable (call : aP) (get : X → Option D) (H : ah)
@[go_sem] theorem aaj (x : X) : evO call get H (.mv x) = (get x).bind (WA H) := by simp only [evO]; cases get x <;> rfl
def Ug(c a b:Option D):Option (D×ah):=c.bind fun c=>a.bind fun a=>b.bind fun b=>(Hu c a b).map fun d=>(d,H)
@[go_sem] theorem aak (c a b : X) : evO call get H (.pk c a b) = Ug H (get c) (get a) (get b) := (rfl)
@[go_sem] theorem Ra (x p q : Bool) : Ug H (some (.t (.bool x))) (some (.t (.bool p))) (some (.t (.bool q))) = some (.t (.bool (bif x then p else q)), H) := by cases x <;> rfl
@[go_sem] theorem Rb (a b : D) : Ug H (some (.t (.bool true))) (some a) (some b) = some (a, H) := (rfl)
@[go_sem] theorem OR (a b : D) : Ug H (some (.t (.bool false))) (some a) (some b) = some (b, H) := (rfl)
@[go_sem] theorem Uh (x p : Bool) : (bif x then p else false) = (x && p) := by cases x <;> rfl
@[go_sem] theorem WC (x q : Bool) : (bif x then true else q) = (x || q) := by cases x <;> rfl
def iD(f:BinOp)(x y:Option D):Option (D×ah):=x.bind fun a=>y.bind fun b=>(wA f a b).map fun d=>(d,H)
@[go_sem] theorem Y6 (f : BinOp) (x y : X) : evO call get H (.bin f x y) = iD H f (get x) (get y) := (rfl)
section
variable (k j : IntKind) (a b : Int)
@[go_sem] theorem Rc : iD H .add (some (.t (.int k a))) (some (.t (.int k b))) = some (.t (.int k (k.wrap (a + b))), H) := by simp [iD, wA, As]
@[go_sem] theorem Re : iD H .sub (some (.t (.int k a))) (some (.t (.int k b))) = some (.t (.int k (k.wrap (a - b))), H) := by simp [iD, wA, As]
@[go_sem] theorem Rf : iD H .mul (some (.t (.int k a))) (some (.t (.int k b))) = some (.t (.int k (k.wrap (a * b))), H) := by simp [iD, wA, As]
@[go_sem] theorem Rg : iD H .quo (some (.t (.int k a))) (some (.t (.int k b))) = if b = 0 then none else some (.t (.int k (k.wrap (a.tdiv b))), H) := by simp only [iD, wA, As]; by_cases h : b = 0 <;> simp [h]
@[go_sem] theorem Rh : iD H .rem (some (.t (.int k a))) (some (.t (.int k b))) = if b = 0 then none else some (.t (.int k (a.tmod b)), H) := by simp only [iD, wA, As]; by_cases h : b = 0 <;> simp [h]
@[go_sem] theorem Ri : iD H .eql (some (.t (.int k a))) (some (.t (.int k b))) = some (.t (.bool (decide (a = b))), H) := by simp [iD, wA, As, Ud]
@[go_sem] theorem Rj : iD H .neq (some (.t (.int k a))) (some (.t (.int k b))) = some (.t (.bool (decide (¬ a = b))), H) := by simp [iD, wA, As, bne, Ud]
@[go_sem] theorem Rk : iD H .lss (some (.t (.int k a))) (some (.t (.int k b))) = some (.t (.bool (decide (a < b))), H) := by simp [iD, wA, As]
@[go_sem] theorem Rl : iD H .leq (some (.t (.int k a))) (some (.t (.int k b))) = some (.t (.bool (decide (a ≤ b))), H) := by simp [iD, wA, As]
@[go_sem] theorem Rm : iD H .gtr (some (.t (.int k a))) (some (.t (.int k b))) = some (.t (.bool (decide (b < a))), H) := by simp [iD, wA, As]
@[go_sem] theorem Rn : iD H .geq (some (.t (.int k a))) (some (.t (.int k b))) = some (.t (.bool (decide (b ≤ a))), H) := by simp [iD, wA, As]
@[go_sem] theorem Ro (h : 0 ≤ b) : iD H .shl (some (.t (.int k a))) (some (.t (.int j b))) = some (.t (.int k (k.wrap (a * 2 ^ min b.toNat k.bits))), H) := by simp [iD, wA, wz, Int.not_lt.2 h]
@[go_sem] theorem Rq (h : 0 ≤ b) : iD H .shr (some (.t (.int k a))) (some (.t (.int j b))) = some (.t (.int k (a.fdiv (2 ^ min b.toNat k.bits))), H) := by simp [iD, wA, wz, Int.not_lt.2 h]
@[go_sem] theorem Rr : iD H .and (some (.t (.int k a))) (some (.t (.int k b))) = some (.t (.int k (k.wrap (BitVec.ofInt k.bits a &&& BitVec.ofInt k.bits b).toNat)), H) := by simp [iD, wA, As]
@[go_sem] theorem Ui : iD H .or (some (.t (.int k a))) (some (.t (.int k b))) = some (.t (.int k (k.wrap (BitVec.ofInt k.bits a ||| BitVec.ofInt k.bits b).toNat)), H) := by simp [iD, wA, As]
@[go_sem] theorem Rs : iD H .xor (some (.t (.int k a))) (some (.t (.int k b))) = some (.t (.int k (k.wrap (BitVec.ofInt k.bits a ^^^ BitVec.ofInt k.bits b).toNat)), H) := by simp [iD, wA, As]
def WD(f:UnOp)(a:D):Option (D×ah):=(unD f a).map fun d=>(d,H)
@[go_sem] theorem aal (f : UnOp) (x : X) : evO call get H (.un f x) = (get x).bind (WD H f) := (rfl)
@[go_sem] theorem Uj (x : Bool) : WD H .not (.t (.bool x)) = some (.t (.bool (!x)), H) := (rfl)
@[go_sem] theorem Uk : WD H .neg (.t (.int k a)) = some (.t (.int k (k.wrap (0 - a))), H) := (rfl)
def Y7(k:IntKind)(a:D):Option (D×ah):=(KG k a).map fun d=>(d,H)
@[go_sem] theorem aam (x : X) : evO call get H (.cv k x) = (get x).bind (Y7 H k) := (rfl)
@[go_sem] theorem Ul : Y7 H k (.t (.int j a)) = some (.t (.int k (k.wrap a)), H) := (rfl)
end
def pz(q:EqK)(neg:Bool)(x y:Option D):Option (D×ah):=x.bind fun a=>y.bind fun b=>(KD q neg a b).map fun d=>(d,H)
@[go_sem] theorem Y8 (q : EqK) (neg : Bool) (x y : X) : evO call get H (.eqk q neg x y) = pz H q neg (get x) (get y) := (rfl)
@[go_sem] theorem OS (x y : Bool) : pz H .bool false (some (.t (.bool x))) (some (.t (.bool y))) = some (.t (.bool (x == y)), H) := (rfl)
@[go_sem] theorem LF (x y : Bool) : pz H .bool true (some (.t (.bool x))) (some (.t (.bool y))) = some (.t (.bool (!(x == y))), H) := (rfl)
def JF:List T→List T→Bool
 | .int _ a::xs,.int _ b::ys=>decide (a=b)&&JF xs ys
 | _,_=>true
def Dj:Nat→List T→List T→Bool
 | 0,[],[]=>true
 | n+1,.int j _::xs,.int k _::ys=>decide (j=k)&&Dj n xs ys
 | _,_,_=>false
@[go_sem] theorem Rt (k j : IntKind) (a b : Int) (xs ys : List T) : JF (.int k a :: xs) (.int j b :: ys) = (decide (a = b) && JF xs ys) := (rfl)
@[go_sem] theorem Um : JF [] [] = true := (rfl)
@[go_sem] theorem Un : Dj 0 [] [] = true := (rfl)
@[go_sem] theorem Ru (n : Nat) (k : IntKind) (a b : Int) (xs ys : List T) : Dj (n + 1) (.int k a :: xs) (.int k b :: ys) = Dj n xs ys := by simp [Dj]
theorem uS:∀ {n:Nat} {xs ys:List T},Dj n xs ys=true→xs.length=n∧km xs ys=some (JF xs ys)
 | 0,[],[],_=>⟨rfl,rfl⟩
 | 0,[],_::_,h=>by simp[Dj]at h
 | 0,_::_,_,h=>by simp[Dj]at h
 | n+1,[],_,h=>by simp[Dj]at h
 | n+1,x::xs,[],h=>by cases x<;>simp[Dj]at h
 | n+1,x::xs,y::ys,h=>by
   cases x<;>cases y<;>simp only[Dj,aLr,decide_eq_true_eq,aLt]at h
   obtain⟨rfl,h⟩:=h
   obtain⟨h1,h2⟩:=uS h
   exact⟨by simp[h1],by simp[km,h2,JF,Ud]⟩
@[go_sem] theorem OT (n : Nat) (xs ys : List T) (h : Dj n xs ys = true) : pz H (.ints n) false (some (.t (.agg xs))) (some (.t (.agg ys))) = some (.t (.bool (JF xs ys)), H) := by
 obtain⟨h1,h2⟩:=uS h;simp[pz,KD,eqD,h1,h2]
@[go_sem] theorem LG (n : Nat) (xs ys : List T) (h : Dj n xs ys = true) : pz H (.ints n) true (some (.t (.agg xs))) (some (.t (.agg ys))) = some (.t (.bool (!JF xs ys)), H) := by
 obtain⟨h1,h2⟩:=uS h;simp[pz,KD,eqD,h1,h2]
@[go_sem] theorem Rv (id ep n : Nat) (h : 0 < n) : pz H .sl false (some (.ref id ep n)) (some .nil) = some (.t (.bool false), H) := by
 cases n with
 | zero=>omega
 | succ n=>rfl
@[go_sem] theorem Rw : pz H .sl false (some .nil) (some .nil) = some (.t (.bool true), H) := (rfl)
@[go_sem] theorem Rx : pz H .sl false (some (.t (.sl []))) (some .nil) = some (.ub, H) := (rfl)
@[go_sem] theorem OU : pz H .sl true (some (.t (.sl []))) (some .nil) = some (.ub, H) := (rfl)
@[go_sem] theorem OV : pz H .sl true (some .nil) (some .nil) = some (.t (.bool false), H) := (rfl)
theorem tZ(es:List T)(h:es≠[]):pz H .sl false (some (.t (.sl es))) (some .nil)=some (.t (.bool false),H):=by cases es<;>first | exact(h rfl).elim | rfl
def Uo(a:D):Option (D×ah):=(TP a).map fun d=>(d,H)
@[go_sem] theorem aan (x : X) : evO call get H (.nc x) = (get x).bind (Uo H) := (rfl)
@[go_sem] theorem WE (id off : Nat) : Uo H (.bp id off) = some (.bp id off, H) := (rfl)
@[go_sem] theorem WG (id ep n i off : Nat) : Uo H (.ap id ep n i off) = some (.ap id ep n i off, H) := (rfl)
@[go_sem] theorem WH (cs : List T) : Uo H (.ep cs) = some (.ep cs, H) := (rfl)
def OW(off:Nat)(a:D):Option (D×ah):=(CZ a off).map fun d=>(d,H)
@[go_sem] theorem aao (x : X) (off : Nat) : evO call get H (.fa x off) = (get x).bind (OW H off) := (rfl)
@[go_sem] theorem WI (id o off : Nat) : OW H off (.bp id o) = some (.bp id (o + off), H) := (rfl)
@[go_sem] theorem WJ (id ep n i o off : Nat) : OW H off (.ap id ep n i o) = some (.ap id ep n i (o + off), H) := (rfl)
@[go_sem] theorem WK (cs : List T) (off : Nat) : OW H off (.ep cs) = some (.ep (cs.drop off), H) := (rfl)
@[go_sem] theorem aap (cs : List D) : cut cs 0 0 = some [] := by simp [cut]
@[go_sem] theorem aaq (c : D) (cs : List D) : cut (c :: cs) 0 1 = some [c] := by simp [cut]
@[go_sem] theorem aar (c : D) (cs : List D) (n : Nat) : cut (c :: cs) 0 (n + 1) = jL c (cut cs 0 n) := by
 simp only[cut,jL];by_cases h:n≤cs.length<;>simp[h]
@[go_sem] theorem aas (c : D) (cs : List D) (off n : Nat) : cut (c :: cs) (off + 1) n = cut cs off n := by
 simp only[cut,List.length_cons,List.drop_succ_cons]
 by_cases h:off+n≤cs.length
 · rw[if_pos h,if_pos (by omega)]
 · rw[if_neg h,if_neg (by omega)]
@[go_sem] theorem Ry (c : D) : dX false [c] = some c := (rfl)
@[go_sem] theorem Rz (cs : List D) : dX true cs = some (pt cs) := (rfl)
def mkA(cs:List D):Option (List T)→D
 | some ts=> .t (.agg ts)
 | none=> .agg cs
@[go_sem] theorem Up (cs : List D) (ts : List T) : mkA cs (some ts) = .t (.agg ts) := (rfl)
@[go_sem] theorem Uq (cs : List D) : mkA cs none = .agg cs := (rfl)
@[go_sem] theorem Ur (cs : List D) : pt cs = mkA cs (mM cs) := by unfold pt; cases mM cs <;> rfl
@[go_sem] theorem Us : mM [] = some [] := (rfl)
@[go_sem] theorem Y9 (x : T) (r : List D) : mM (.t x :: r) = jL x (mM r) := (rfl)
@[go_sem] theorem Za (r : List D) : mM (.nil :: r) = none := (rfl)
@[go_sem] theorem Ut (a b c : Nat) (r : List D) : mM (.ref a b c :: r) = none := (rfl)
@[go_sem] theorem Uu (a b c d e : Nat) (r : List D) : mM (.sub a b c d e :: r) = none := (rfl)
@[go_sem] theorem HU (l : List T) : mM (l.map .t) = some l := by induction l with | nil => rfl | cons a l ih => simp [mM, ih]
def RA(off n:Nat)(agg:Bool)(a:D):Option (D×ah):=(qA a off n agg).map fun d=>(d,H)
@[go_sem] theorem aat (x : X) (off n : Nat) (agg : Bool) : evO call get H (.fl x off n agg) = (get x).bind (RA H off n agg) := (rfl)
def ofC(agg:Bool)(cs:Option (List D)):Option (D×ah):=(cs.bind (dX agg)).bind (WA H)
@[go_sem] theorem aau (c : D) : ofC H false (some [c]) = some (c, H) := (rfl)
@[go_sem] theorem aav (cs : List D) : ofC H true (some cs) = some (pt cs, H) := (rfl)
@[go_sem] theorem Zb (cs : List T) (off n : Nat) (agg : Bool) : RA H off n agg (.t (.agg cs)) = ofC H agg (cut (cs.map .t) off n) := by
 simp only[RA,qA,D.isAgg,if_true,D.cells,T.cells,ofC];cases (cut (cs.map .t) off n).bind (dX agg)<;>rfl
@[go_sem] theorem Uv (cs : List D) (off n : Nat) (agg : Bool) : RA H off n agg (.agg cs) = ofC H agg (cut cs off n) := by
 simp only[RA,qA,D.isAgg,if_true,D.cells,ofC];cases (cut cs off n).bind (dX agg)<;>rfl
@[go_sem] theorem WL (n : Nat) : idx (n : Int) = some n := by simp [idx]
@[go_sem] theorem aaw : idx 0 = some 0 := (rfl)
theorem LH{i:Int}(h:0≤i):idx i=some i.toNat:=by simp[idx,h]
def LI(sz:Nat)(x i:Option D):Option (D×ah):=x.bind fun a=>(i.bind intOf).bind fun n=>(xq H a n sz).map fun d=>(d,H)
@[go_sem] theorem aax (x i : X) (sz : Nat) : evO call get H (.ia x i sz) = LI H sz (get x) (get i) := (rfl)
def HV(sz:Nat)(e:T):Option (D×ah):=if e.cells.length=sz then some (.ep e.cells,H)else none
def WM(sz:Nat)(es:List T)(j:Nat):Option (D×ah):=es[j]?.bind (HV H sz)
@[go_sem] theorem WN (sz : Nat) (es : List T) (j : Nat) : WM H sz es j = es[j]?.bind (HV H sz) := (rfl)
@[go_sem] theorem WO (k : IntKind) (es : List T) (n : Int) (sz : Nat) : LI H sz (some (.t (.sl es))) (some (.t (.int k n))) = (idx n).bind (WM H sz es) := by
 simp only[LI,aLq,intOf,xq]
 cases idx n with
 | none=>rfl
 | some j=>
   simp only[aLq,WM]
   cases es[j]? with
   | none=>rfl
   | some e=>simp only[aLq,HV];split<;>rfl
@[go_sem] theorem Uw (k : IntKind) (n : Int) : HV H 1 (.int k n) = some (.ep [.int k n], H) := (rfl)
@[go_sem] theorem RB (b : Bool) : HV H 1 (.bool b) = some (.ep [.bool b], H) := (rfl)
@[go_sem] theorem WQ (es : List T) : HV H 1 (.sl es) = some (.ep [.sl es], H) := (rfl)
def lE{α:Type}:Nat→List α→Bool
 | 0,[]=>true
 | n+1,_::r=>lE n r
 | _,_=>false
@[go_sem] theorem WR {α : Type} : lE 0 ([] : List α) = true := (rfl)
@[go_sem] theorem WS {α : Type} (n : Nat) (a : α) (l : List α) : lE (n + 1) (a :: l) = lE n l := (rfl)
theorem eG{α:Type}:∀ {n:Nat} {l:List α},lE n l=true↔l.length=n
 | 0,[]=>by simp[lE]
 | 0,_::_=>by simp[lE]
 | n+1,[]=>by simp[lE]
 | n+1,_::r=>by simp only[lE,List.length_cons,Nat.add_right_cancel_iff];exact eG
@[go_sem] theorem Ux (cs : List T) (sz : Nat) : HV H sz (.agg cs) = if lE sz cs = true then some (.ep cs, H) else none := by
 by_cases h:cs.length=sz
 · rw[HV,if_pos (show(T.agg cs).cells.length=sz from h),if_pos (eG.2 h)];rfl
 · rw[HV,if_neg (show ¬(T.agg cs).cells.length=sz from h),if_neg fun e=>h (eG.1 e)]
def LJ(sz id ep n j:Nat):Option Obj→Option (D×ah)
 | some (.arr sz' _ ep' es)=>if ep=ep'∧n=es.length then(if j<n∧sz'=sz then some (.ap id ep n j 0,H)else none)else none
 | _=>none
@[go_sem] theorem Uy (k : IntKind) (id ep n : Nat) (i : Int) (sz : Nat) : LI H sz (some (.ref id ep n)) (some (.t (.int k i))) = (idx i).bind fun j => LJ H sz id ep n j H[id]? := by
 simp only[LI,aLq,intOf,xq]
 cases idx i with
 | none=>rfl
 | some j=>
   simp only[aLq,eZ]
   generalize H[id]?=o
   rcases o with _ | (_ | ⟨sz',pin,ep',es⟩)
   · rfl
   · rfl
   · simp only[LJ]
     by_cases h:ep=ep'∧n=es.length
     · rw[if_pos h,if_pos h,aLq];split<;>rfl
     · rw[if_neg h,if_neg h];rfl
@[go_sem] theorem RC (sz id ep n j sz' : Nat) (pin : Bool) (ep' : Nat) (es : List D) : LJ H sz id ep n j (some (.arr sz' pin ep' es)) =
 if ep=ep'∧n=es.length then(if j<n∧sz'=sz then some (.ap id ep n j 0,H)else none)else none:=(rfl)
def LK(sz id ep n lo hi j:Nat):Option Obj→Option (D×ah)
 | some (.arr sz' _ ep' es)=>if ep=ep'∧n=es.length then(if lo+j<hi∧hi≤n∧sz'=sz then some (.ap id ep n (lo+j) 0,H)else none)else none
 | _=>none
@[go_sem] theorem Uz (k : IntKind) (id ep n lo hi : Nat) (i : Int) (sz : Nat) : LI H sz (some (.sub id ep n lo hi)) (some (.t (.int k i))) = (idx i).bind fun j => LK H sz id ep n lo hi j H[id]? := by
 simp only[LI,aLq,intOf,xq]
 cases idx i with
 | none=>rfl
 | some j=>
   simp only[aLq,eZ]
   generalize H[id]?=o
   rcases o with _ | (_ | ⟨sz',pin,ep',es⟩)
   · rfl
   · rfl
   · simp only[LK]
     by_cases h:ep=ep'∧n=es.length
     · rw[if_pos h,if_pos h,aLq];split<;>rfl
     · rw[if_neg h,if_neg h];rfl
@[go_sem] theorem RE (sz id ep n lo hi j sz' : Nat) (pin : Bool) (ep' : Nat) (es : List D) : LK H sz id ep n lo hi j (some (.arr sz' pin ep' es)) =
 if ep=ep'∧n=es.length then(if lo+j<hi∧hi≤n∧sz'=sz then some (.ap id ep n (lo+j) 0,H)else none)else none:=(rfl)
def WT(len sz:Nat)(agg:Bool)(x i:Option D):Option (D×ah):=x.bind fun a=>(i.bind intOf).bind fun n=>(idx n).bind fun j=>(wB a j len sz agg).map fun d=>(d,H)
def RF(len sz:Nat)(agg:Bool)(a:D)(j:Nat):Option (D×ah):=(wB a j len sz agg).map fun d=>(d,H)
@[go_sem] theorem aay (x i : X) (len sz : Nat) (agg : Bool) : evO call get H (.ix x i len sz agg) = WT H len sz agg (get x) (get i) := (rfl)
@[go_sem] theorem WU (len sz : Nat) (agg : Bool) (a : D) (k : IntKind) (n : Int) : WT H len sz agg (some a) (some (.t (.int k n))) = (idx n).bind (RF H len sz agg a) := by
 simp only[WT,aLq,intOf];cases idx n<;>rfl
@[go_sem] theorem UA (len j : Nat) (ts : List T) (h : j < len) (hs : (ts.all fun t => t.scalar) = true) : RF H len 1 false (.t (.agg ts)) j = (ts[j]?).map fun t => (.t t, H) := by
 have h0:len≠0:=by omega
 unfold RF wB
 rw[if_neg h0,if_pos h]
 unfold qA cut
 simp only[D.isAgg,D.cells,T.cells,if_true,Nat.mul_one,List.length_map]
 by_cases hj:j<ts.length
 · rw[if_pos (by omega),aLc hj]
   have e:((ts.map D.t).drop j).take 1=[D.t ts[j]]:=by
    rw[List.drop_eq_getElem_cons (by simpa using hj)];simp
   rw[e];rfl
 · rw[if_neg (by omega),aLm (by omega)];rfl
def LL(len sz:Nat)(x i:Option D):Option (D×ah):=x.bind fun a=>(i.bind intOf).bind fun n=>(idx n).bind fun j=>if j<len then(CZ a (j*sz)).map fun d=>(d,H)else none
@[go_sem] theorem Zc (x i : X) (len sz : Nat) : evO call get H (.iaa x i len sz) = LL H len sz (get x) (get i) := (rfl)
def Zd(len sz:Nat)(a:D)(j:Nat):Option (D×ah):=if j<len then OW H (j*sz) a else none
@[go_sem] theorem WW (len sz : Nat) (a : D) (j : Nat) : Zd H len sz a j = if j < len then OW H (j * sz) a else none := (rfl)
@[go_sem] theorem UB (len sz : Nat) (a : D) (k : IntKind) (n : Int) : LL H len sz (some a) (some (.t (.int k n))) = (idx n).bind (Zd H len sz a) := by
 simp only[LL,aLq,intOf];cases idx n<;>rfl
def G4(n:Nat)(agg:Bool)(a:D):Option (D×ah):=(rW H a n agg).map fun d=>(d,H)
@[go_sem] theorem aaz (x : X) (n : Nat) (agg : Bool) : evO call get H (.ld x n agg) = (get x).bind (G4 H n agg) := (rfl)
def HW(off n:Nat)(agg:Bool):Option Obj→Option (D×ah)
 | some (.box cs)=>ofC H agg (cut cs off n)
 | _=>none
@[go_sem] theorem UC (off n : Nat) (agg : Bool) (cs : List D) : HW H off n agg (some (.box cs)) = ofC H agg (cut cs off n) := (rfl)
@[go_sem] theorem WX (id off n : Nat) (agg : Bool) : G4 H n agg (.bp id off) = HW H off n agg H[id]? := by
 simp only[G4,rW]
 generalize H[id]?=o
 rcases o with _ | (cs | _)
 · rfl
 · simp only[HW,ofC];cases (cut cs off n).bind (dX agg)<;>rfl
 · rfl
@[go_sem] theorem WY (cs : List T) (n : Nat) (agg : Bool) : G4 H n agg (.ep cs) = ofC H agg (cut (cs.map .t) 0 n) := by
 simp only[G4,rW,ofC];cases (cut _ 0 n).bind (dX agg)<;>rfl
def UD(off n:Nat)(agg:Bool)(e:D):Option (D×ah):=ofC H agg (cut e.cells off n)
@[go_sem] theorem WZ (off n : Nat) (agg : Bool) (e : D) : UD H off n agg e = ofC H agg (cut e.cells off n) := (rfl)
def LM(ep m i off n:Nat)(agg:Bool):Option Obj→Option (D×ah)
 | some (.arr _ _ ep' es)=>if ep=ep'∧m=es.length then es[i]?.bind (UD H off n agg)else none
 | _=>none
@[go_sem] theorem UE (ep m i off n : Nat) (agg : Bool) (sz : Nat) (pin : Bool) (ep' : Nat) (es : List D) :
 LM H ep m i off n agg (some (.arr sz pin ep' es))=if ep=ep'∧m=es.length then es[i]?.bind (UD H off n agg)else none:=(rfl)
@[go_sem] theorem W4 (id ep m i off n : Nat) (agg : Bool) : G4 H n agg (.ap id ep m i off) = LM H ep m i off n agg H[id]? := by
 simp only[G4,rW,eZ]
 generalize H[id]?=o
 rcases o with _ | (_ | ⟨sz',pin,ep',es⟩)
 · rfl
 · rfl
 · simp only[LM]
   by_cases h:ep=ep'∧m=es.length
   · rw[if_pos h,if_pos h,aLq]
     cases es[i]? with
     | none=>rfl
     | some e=>simp only[aLq,UD,ofC];cases (cut e.cells off n).bind (dX agg)<;>rfl
   · rw[if_neg h,if_neg h];rfl
@[go_sem] theorem OX (cs : List D) : (D.agg cs).cells = cs := (rfl)
@[go_sem] theorem UF (x : T) : (D.t x).cells = x.cells.map .t := (rfl)
@[go_sem] theorem OY : D.nil.cells = [.nil] := (rfl)
@[go_sem] theorem RG (a b : Nat) : (D.bp a b).cells = [.bp a b] := (rfl)
@[go_sem] theorem OZ (a b c : Nat) : (D.ref a b c).cells = [.ref a b c] := (rfl)
@[go_sem] theorem O0 (a b c d e : Nat) : (D.sub a b c d e).cells = [.sub a b c d e] := (rfl)
@[go_sem] theorem RH (f : Nat) (cs : List D) : (D.fn f cs).cells = [.fn f cs] := (rfl)
@[go_sem] theorem LN : D.nilp.cells = [.nilp] := (rfl)
@[go_sem] theorem O1 (cs : List T) : (T.agg cs).cells = cs := (rfl)
@[go_sem] theorem O2 (k : IntKind) (n : Int) : (T.int k n).cells = [.int k n] := (rfl)
@[go_sem] theorem LO (b : Bool) : (T.bool b).cells = [.bool b] := (rfl)
@[go_sem] theorem O3 (b : ByteArray) : (T.str b).cells = [.str b] := (rfl)
@[go_sem] theorem RI (es : List T) : (T.sl es).cells = [.sl es] := (rfl)
def fits(n:Nat)(v:D):Bool:=decide (v.cells.length=n)&&v.gU
section
variable (n : Nat)
@[go_sem] theorem fits_int (k : IntKind) (a : Int) : fits 1 (.t (.int k a)) = true := (rfl)
@[go_sem] theorem fits_bool (b : Bool) : fits 1 (.t (.bool b)) = true := (rfl)
@[go_sem] theorem W5 (es : List T) : fits 1 (.t (.sl es)) = true := (rfl)
@[go_sem] theorem UG : fits 1 .nil = true := (rfl)
@[go_sem] theorem UH (a b c : Nat) : fits 1 (.ref a b c) = true := (rfl)
@[go_sem] theorem UI (a b c d e : Nat) : fits 1 (.sub a b c d e) = true := (rfl)
@[go_sem] theorem W6 (a b : Nat) : fits 1 (.bp a b) = true := (rfl)
@[go_sem] theorem W7 (f : Nat) (cs : List D) : fits 1 (.fn f cs) = true := (rfl)
@[go_sem] theorem UJ (cs : List D) : fits n (.agg cs) = lE n cs := by rw [Bool.eq_iff_iff, eG]; show (decide (cs.length = n) && true) = true ↔ _; simp
@[go_sem] theorem RJ (cs : List T) : fits n (.t (.agg cs)) = lE n cs := by rw [Bool.eq_iff_iff, eG]; simp [fits, D.cells, T.cells, D.gU]
end
@[go_sem] theorem LP {α : Type} (cs : List α) : bc cs 0 [] = some cs := by simp [bc]
@[go_sem] theorem LQ {α : Type} (c x : α) (cs xs : List α) : bc (c :: cs) 0 (x :: xs) = jL x (bc cs 0 xs) := by
 simp only[bc,jL];by_cases h:xs.length≤cs.length<;>simp[h]
@[go_sem] theorem LR {α : Type} (c : α) (cs : List α) (off : Nat) (xs : List α) : bc (c :: cs) (off + 1) xs = jL c (bc cs off xs) := by
 simp only[bc,jL,List.length_cons]
 by_cases h:off+xs.length≤cs.length
 · rw[if_pos h,if_pos (by omega)];simp[show off+1+xs.length=(off+xs.length)+1 by omega]
 · rw[if_neg h,if_neg (by omega)];rfl
def LS(n:Nat)(live:List (Nat×Nat))(a x:Option D):Option (D×ah):=a.bind fun p=>x.bind fun d=>(sR H p d n).bind fun H'=>(mQ H' p live).map fun H''=>(.tup [],H'')
@[go_sem] theorem aaA (a x : X) (n : Nat) (live : List (Nat × Nat)) : evO call get H (.st a x n live) = LS H n live (get a) (get x) := (rfl)
def wS(H:ah)(id:Nat)(live:List (Nat×Nat)):Option (D×ah):=(mQ H (.bp id 0) live).map fun H'=>(.tup [],H')
def zh(id:Nat)(live:List (Nat×Nat))(cs:List D):Option (D×ah):=wS (H.set id (.box cs)) id live
@[go_sem] theorem RK (id : Nat) (live : List (Nat × Nat)) (cs : List D) : zh H id live cs = wS (H.set id (.box cs)) id live := (rfl)
@[go_sem] theorem O4 (H : ah) (id : Nat) : wS H id [] = some (.tup [], H) := (rfl)
def LU(id off:Nat)(live:List (Nat×Nat))(xs:List D):Option Obj→Option (D×ah)
 | some (.box cs)=>(bc cs off xs).bind (zh H id live)
 | _=>none
@[go_sem] theorem UK (id off : Nat) (live : List (Nat × Nat)) (xs cs : List D) : LU H id off live xs (some (.box cs)) = (bc cs off xs).bind (zh H id live) := (rfl)
@[go_sem] theorem W8 (n id off : Nat) (live : List (Nat × Nat)) (v : D) : LS H n live (some (.bp id off)) (some v) = if fits n v = true then LU H id off live v.cells H[id]? else none := by
 by_cases h:fits n v=true
 case neg=>
  rw[if_neg h]
  simp only[fits,aLr,decide_eq_true_eq]at h
  simp only[LS,aLq,sR,if_neg h];rfl
 rw[if_pos h]
 simp only[fits,aLr,decide_eq_true_eq]at h
 simp only[LS,aLq,sR,h.1,h.2,and_self,if_true]
 generalize H[id]?=o
 rcases o with _ | (cs | _)
 · rfl
 · simp only[LU]
   cases bc cs off v.cells with
   | none=>rfl
   | some cs'=>simp only[aLw,aLq,zh,wS,mQ]
 · rfl
def zi(id sz ep i:Nat)(es:List D)(agg:Bool)(cs:List D):Option (D×ah):=(dX agg cs).bind fun e=>if e.gU then some (.tup [],H.set id (.arr sz false ep (es.set i e)))else none
def UL(id sz ep i off:Nat)(es xs:List D)(e:D):Option (D×ah):=(bc e.cells off xs).bind (zi H id sz ep i es e.isAgg)
@[go_sem] theorem W9 (id sz ep i off : Nat) (es xs : List D) (e : D) : UL H id sz ep i off es xs e = (bc e.cells off xs).bind (zi H id sz ep i es e.isAgg) := (rfl)
@[go_sem] theorem RL (cs : List D) : (D.agg cs).isAgg = true := (rfl)
@[go_sem] theorem O5 (cs : List T) : (D.t (.agg cs)).isAgg = true := (rfl)
@[go_sem] theorem RM (k : IntKind) (n : Int) : (D.t (.int k n)).isAgg = false := (rfl)
@[go_sem] theorem O6 (b : Bool) : (D.t (.bool b)).isAgg = false := (rfl)
@[go_sem] theorem RN (b : ByteArray) : (D.t (.str b)).isAgg = false := (rfl)
@[go_sem] theorem UM (es : List T) : (D.t (.sl es)).isAgg = false := (rfl)
@[go_sem] theorem RO : D.nil.isAgg = false := (rfl)
@[go_sem] theorem RP (a b c : Nat) : (D.ref a b c).isAgg = false := (rfl)
@[go_sem] theorem RQ (a b c d e : Nat) : (D.sub a b c d e).isAgg = false := (rfl)
@[go_sem] theorem Xa (id sz ep i : Nat) (es : List D) (x : T) : zi H id sz ep i es false [.t x] = some (.tup [], H.set id (.arr sz false ep (es.set i (.t x)))) := (rfl)
@[go_sem] theorem RR (id sz ep i : Nat) (es : List D) : zi H id sz ep i es false [.nil] = some (.tup [], H.set id (.arr sz false ep (es.set i .nil))) := (rfl)
@[go_sem] theorem RS (id sz ep i a b c : Nat) (es : List D) : zi H id sz ep i es false [.ref a b c] = some (.tup [], H.set id (.arr sz false ep (es.set i (.ref a b c)))) := (rfl)
theorem A4(cs:List D):(pt cs).gU=true:=by unfold pt;cases mM cs<;>rfl
@[go_sem] theorem Xb (id sz ep i : Nat) (es cs : List D) : zi H id sz ep i es true cs = some (.tup [], H.set id (.arr sz false ep (es.set i (pt cs)))) := by
 simp[zi,dX,A4]
def LV(id ep m i off:Nat)(xs:List D):Option Obj→Option (D×ah)
 | some (.arr sz pin ep' es)=>if ep=ep'∧m=es.length then(if pin then none else es[i]?.bind (UL H id sz ep i off es xs))else none
 | _=>none
@[go_sem] theorem UN (id ep m i off : Nat) (xs : List D) (sz : Nat) (pin : Bool) (ep' : Nat) (es : List D) :
 LV H id ep m i off xs (some (.arr sz pin ep' es))=if ep=ep'∧m=es.length then(if pin=true then none else es[i]?.bind (UL H id sz ep i off es xs))else none:=(rfl)
@[go_sem] theorem Xc (n id ep m i off : Nat) (v : D) : LS H n [] (some (.ap id ep m i off)) (some v) = if fits n v = true then LV H id ep m i off v.cells H[id]? else none := by
 by_cases h:fits n v=true
 case neg=>
  rw[if_neg h]
  simp only[fits,aLr,decide_eq_true_eq]at h
  simp only[LS,aLq,sR,if_neg h];rfl
 rw[if_pos h]
 simp only[fits,aLr,decide_eq_true_eq]at h
 simp only[LS,aLq,sR,h.1,h.2,and_self,if_true,eZ]
 generalize H[id]?=o
 rcases o with _ | (_ | ⟨sz',pin,ep',es⟩)
 · rfl
 · rfl
 · simp only[LV]
   by_cases h:ep=ep'∧m=es.length
   · rw[if_pos h,if_pos h,aLq]
     cases pin with
     | true=>rfl
     | false=>
       simp only[aLt,if_false]
       cases es[i]? with
       | none=>rfl
       | some e=>
         simp only[aLq,UL]
         cases bc e.cells off v.cells with
         | none=>rfl
         | some cs'=>
           simp only[aLq,zi]
           cases dX e.isAgg cs' with
           | none=>rfl
           | some e'=>
             simp only[aLq]
             by_cases h3:e'.gU=true
             · rw[if_pos h3,if_pos h3,h.1];rfl
             · rw[if_neg h3,if_neg h3];rfl
   · rw[if_neg h,if_neg h];rfl
def LW(zero:List D)(ps:List (Nat×Nat×D)):Option (D×ah):=(qy zero ps).map fun cs=>(pt cs,H)
@[go_sem] theorem aaB (zero : List D) (parts : List (Nat × Nat × X)) : evO call get H (.bd zero parts) = (kp get parts).bind (LW H zero) := (rfl)
@[go_sem] theorem JG : kp get [] = some [] := (rfl)
def RT(off n:Nat)(r:List (Nat×Nat×X))(d:D):Option (List (Nat×Nat×D)):=jL (off,n,d) (kp get r)
@[go_sem] theorem UO (off n : Nat) (r : List (Nat × Nat × X)) (d : D) : RT get off n r d = jL (off, n, d) (kp get r) := (rfl)
@[go_sem] theorem HX (off n : Nat) (x : X) (r : List (Nat × Nat × X)) : kp get ((off, n, x) :: r) = (get x).bind (RT get off n r) := (rfl)
@[go_sem] theorem UP (zero : List D) : LW H zero [] = some (pt zero, H) := (rfl)
def bdC(r:List (Nat×Nat×D))(z:List D):Option (D×ah):=LW H z r
@[go_sem] theorem Ze (r : List (Nat × Nat × D)) (z : List D) : bdC H r z = LW H z r := (rfl)
@[go_sem] theorem RU (zero : List D) (off n : Nat) (x : D) (r : List (Nat × Nat × D)) : LW H zero ((off, n, x) :: r) = if fits n x = true then (bc zero off x.cells).bind (bdC H r) else none := by
 by_cases h:fits n x=true
 case neg=>
  rw[if_neg h]
  have h2:(x.gU&&x.cells.length==n)=false:=by rw[← Bool.not_eq_true,Bool.and_comm];simpa [fits]using h
  simp only[LW,qy,h2];rfl
 rw[if_pos h]
 simp only[fits,aLr,decide_eq_true_eq]at h
 simp only[LW,qy,h.1,h.2,beq_self_eq_true,Bool.and_self,if_true]
 cases bc zero off x.cells<;>rfl
def cr(n:Nat):List T→Bool
 | []=>true
 | x::r=>lE n x.cells&&cr n r
@[go_sem] theorem JH (n : Nat) : cr n [] = true := (rfl)
@[go_sem] theorem qY (n : Nat) (x : T) (r : List T) : cr n (x :: r) = (lE n x.cells && cr n r) := (rfl)
def wT(sz:Nat)(ds:List D):Option (D×ah):=if ds.all (fun d=>d.cells.length==sz)then(bK (frz H depth) ds).map fun ts=>(.t (.sl ts),pins H (ds.flatMap (ef H depth)))else none
@[go_sem] theorem aaC (xs : List X) (sz : Nat) : evO call get H (.bs xs sz) = (bK get xs).bind (wT H sz) := (rfl)
theorem RV(sz:Nat)(ds:List D)(ts:List T)(h:mM ds=some ts)(hc:cr sz ts=true):wT H sz ds=some (.t (.sl ts),H):=by
 have key:∀(ds:List D) (ts:List T),mM ds=some ts→cr sz ts=true→ds.all (fun d=>d.cells.length==sz)=true∧bK (frz H depth) ds=some ts∧ds.flatMap (ef H depth)=[]:=by
  intro ds
  induction ds with
  | nil=>intro ts h hc;simp[mM]at h;subst h;simp[bK]
  | cons d ds ih=>
    intro ts h hc
    cases d with
    | t x=>
      simp only[mM,aLb]at h
      obtain⟨r,hr,rfl⟩:=h
      simp only[cr,aLr,eG]at hc
      obtain⟨h1,h2,h3⟩:=ih r hr hc.2
      refine⟨by rw[List.all_cons,h1,Bool.and_true];simp[D.cells,hc.1],by simp[bK,frz,h2],by rw[List.flatMap_cons,h3];simp[ef]⟩
    | _=>simp[mM]at h
 obtain⟨h1,h2,h3⟩:=key ds ts h hc
 simp[wT,h1,h2,h3,pins]
theorem oe(sz:Nat)(ts:List T):wT H sz (ts.map D.t)=if cr sz ts=true then some (.t (.sl ts),H)else none:=by
 by_cases h:cr sz ts=true
 · rw[if_pos h];exact RV H sz _ ts (HU ts) h
 · rw[if_neg h]
   have:(ts.map D.t).all (fun d=>d.cells.length==sz)=false:=by
    rw[← Bool.not_eq_true];intro ha;apply h
    clear h
    induction ts with
    | nil=>rfl
    | cons a r ih=>
      simp only[List.map_cons,List.all_cons,aLr,beq_iff_eq]at ha
      simp only[cr,aLr,eG]
      exact⟨by simpa [D.cells]using ha.1,ih ha.2⟩
   simp only[wT,this];rfl
@[go_sem] theorem Zf (sz : Nat) : wT H sz [] = some (.t (.sl []), H) := (rfl)
@[go_sem] theorem Zg (sz : Nat) (a : T) : wT H sz [.t a] = if cr sz [a] = true then some (.t (.sl [a]), H) else none := oe H sz [a]
@[go_sem] theorem Zh (sz : Nat) (a b : T) : wT H sz [.t a, .t b] = if cr sz [a, b] = true then some (.t (.sl [a, b]), H) else none := oe H sz [a, b]
@[go_sem] theorem Zi (sz : Nat) (a b c : T) : wT H sz [.t a, .t b, .t c] = if cr sz [a, b, c] = true then some (.t (.sl [a, b, c]), H) else none := oe H sz [a, b, c]
@[go_sem] theorem Zj (sz : Nat) (a b c d : T) : wT H sz [.t a, .t b, .t c, .t d] = if cr sz [a, b, c, d] = true then some (.t (.sl [a, b, c, d]), H) else none := oe H sz [a, b, c, d]
@[go_sem] theorem Zk (sz : Nat) (a b c d e : T) : wT H sz [.t a, .t b, .t c, .t d, .t e] = if cr sz [a, b, c, d, e] = true then some (.t (.sl [a, b, c, d, e]), H) else none := oe H sz [a, b, c, d, e]
def RW(a:D):Option (D×ah):=(TO a).map fun(n:Nat)=>(D.t (.int .i64 (n:Int)),H)
@[go_sem] theorem aaD (x : X) : evO call get H (.ln x) = (get x).bind (RW H) := (rfl)
@[go_sem] theorem Xd (es : List T) : RW H (.t (.sl es)) = some (I es.length, H) := (rfl)
@[go_sem] theorem UQ : RW H .nil = some (I 0, H) := (rfl)
@[go_sem] theorem UR (id ep n : Nat) : RW H (.ref id ep n) = some (I n, H) := (rfl)
@[go_sem] theorem US (id ep n lo hi : Nat) : RW H (.sub id ep n lo hi) = some (I ((hi - lo : Nat) : Int), H) := (rfl)
def RX(ds:List D):Option (D×ah):=(Qr ds).map fun d=>(d,H)
def RY(ds:List D):Option (D×ah):=(Qs ds).map fun d=>(d,H)
@[go_sem] theorem aaE (xs : List X) : evO call get H (.mn xs) = (bK get xs).bind (RX H) := (rfl)
@[go_sem] theorem aaF (xs : List X) : evO call get H (.mx xs) = (bK get xs).bind (RY H) := (rfl)
@[go_sem] theorem Zl (k : IntKind) (a b : Int) : RX H [.t (.int k a), .t (.int k b)] = some (.t (.int k (min a b)), H) := by
 simp only[RX,Qr,vM,if_true,aLw];congr 4;omega
@[go_sem] theorem Zm (k : IntKind) (a b : Int) : RY H [.t (.int k a), .t (.int k b)] = some (.t (.int k (max a b)), H) := by
 simp only[RY,Qs,vM,if_true,aLw];congr 4;omega
@[go_sem] theorem Zn (k : IntKind) (a b c : Int) : RX H [.t (.int k a), .t (.int k b), .t (.int k c)] = some (.t (.int k (min (min a b) c)), H) := by
 simp only[RX,Qr,vM,if_true,aLw];congr 4;omega
@[go_sem] theorem Zo (k : IntKind) (a b c : Int) : RY H [.t (.int k a), .t (.int k b), .t (.int k c)] = some (.t (.int k (max (max a b) c)), H) := by
 simp only[RY,Qs,vM,if_true,aLw];congr 4;omega
def zj(sz:Nat)(x:Option D)(lo hi:Option (Option Int)):Option (D×ah):=x.bind fun a=>lo.bind fun l=>hi.bind fun h=>(kZ H a l h sz).map fun d=>(d,H)
@[go_sem] theorem aaG (x : X) (lo hi : Option X) (sz : Nat) : evO call get H (.sc x lo hi sz) = zj H sz (get x) (C0 get lo) (C0 get hi) := (rfl)
def RZ:D→Option (Option Int)
 | .t (.int _ n)=>some (some n)
 | _=>none
@[go_sem] theorem UT (k : IntKind) (n : Int) : RZ (.t (.int k n)) = some (some n) := (rfl)
@[go_sem] theorem R0 : C0 get none = some none := (rfl)
@[go_sem] theorem R1 (x : X) : C0 get (some x) = (get x).bind RZ := by
 simp only[C0];cases get x with
 | none=>rfl
 | some d=>cases d with
   | t y=>cases y<;>rfl
   | _=>rfl
def Xe(i:Nat)(a:D):Option (D×ah):=(Qt i a).map fun d=>(d,H)
@[go_sem] theorem aaH (x : X) (i : Nat) : evO call get H (.ex x i) = (get x).bind (Xe H i) := (rfl)
def exO:Option D→Option (D×ah)
 | some d=>some (d,H)
 | none=>none
@[go_sem] theorem UU (d : D) : exO H (some d) = some (d, H) := (rfl)
@[go_sem] theorem UW (i : Nat) (ds : List D) : Xe H i (.tup ds) = exO H ds[i]? := by simp only [Xe, Qt, exO]; cases ds[i]? <;> rfl
def Xf(f:Nat)(ds:List D):Option (D×ah):=some (.fn f ds,H)
@[go_sem] theorem Xg (f : Nat) (ds : List D) : Xf H f ds = some (.fn f ds, H) := (rfl)
@[go_sem] theorem aaI (f : Nat) (caps : List X) : evO call get H (.mf f caps) = (bK get caps).bind (Xf H f) := by simp only [evO, Xf]; cases bK get caps <;> rfl
@[go_sem] theorem aaJ (sz : Nat) : evO call get H (.nw sz) = some (.ref H.length 0 0, H ++ [.arr sz false 0 []]) := (rfl)
def alP(p:List D×ah):Option (D×ah):=some (.bp H.length 0,H++ .box p.1::p.2)
@[go_sem] theorem Zp (cs : List D) (os : ah) : alP H (cs, os) = some (.bp H.length 0, H ++ .box cs :: os) := (rfl)
@[go_sem] theorem aaK (zero : List D) (live : List (Nat × Nat)) : evO call get H (.al zero live) = alP H (bL (H.length + 1) zero live) := (rfl)
@[go_sem] theorem LX (base : Nat) (cs : List D) : bL base cs [] = (cs, []) := (rfl)
def Xh(n:Nat)(a:D):Option (D×ah):=if a.cells.length=n∧a.gU then some (.bp H.length 0,H++[.box a.cells])else none
@[go_sem] theorem aaL (x : X) (n : Nat) : evO call get H (.bx x n) = (get x).bind (Xh H n) := (rfl)
@[go_sem] theorem Xi (n : Nat) (a : D) : Xh H n a = if fits n a = true then some (.bp H.length 0, H ++ [.box a.cells]) else none := by
 simp[Xh,fits]
def UX(sz:Nat)(zero:D)(n:Option Nat):Option (D×ah):=n.bind fun m=>if m≤lim then some (.ref H.length 0 m,H++[.arr sz false 0 (List.replicate m zero)])else none
def mkN(sz:Nat)(zero:D):D→Option (D×ah)
 | .t (.int _ n)=>UX H sz zero (idx n)
 | _=>none
@[go_sem] theorem Xj (sz : Nat) (zero : D) (k : IntKind) (n : Int) : mkN H sz zero (.t (.int k n)) = UX H sz zero (idx n) := (rfl)
@[go_sem] theorem aaM (len : X) (zero : D) (sz : Nat) : evO call get H (.mk len zero sz) = (get len).bind (mkN H sz zero) := by
 simp only[evO];cases get len with
 | none=>rfl
 | some d=>cases d with
   | t y=>cases y<;>rfl
   | _=>rfl
@[go_sem] theorem Xk (sz : Nat) (zero : D) (m : Nat) (h : m ≤ 4294967296) : UX H sz zero (some m) = some (.ref H.length 0 m, H ++ [.arr sz false 0 (List.replicate m zero)]) := by
 simp[UX,lim,h]
def HY(zero:T)(n:Option Nat):Option (D×ah):=n.bind fun m=>if m≤lim then some (.t (.sl (List.replicate m zero)),H)else none
def Zq(zero:T):D→Option (D×ah)
 | .t (.int _ n)=>HY H zero (idx n)
 | _=>none
@[go_sem] theorem UY (zero : T) (k : IntKind) (n : Int) : Zq H zero (.t (.int k n)) = HY H zero (idx n) := (rfl)
@[go_sem] theorem Zr (len : X) (zero : T) (sz : Nat) : evO call get H (.mkt len zero sz) = (get len).bind (Zq H zero) := by
 simp only[evO];cases get len with
 | none=>rfl
 | some d=>cases d with
   | t y=>cases y<;>rfl
   | _=>rfl
@[go_sem] theorem UZ (zero : T) (m : Nat) (h : m ≤ 4294967296) : HY H zero (some m) = some (.t (.sl (List.replicate m zero)), H) := by
 simp[HY,lim,h]
def HZ(sz:Nat)(zero:T)(n:Option Nat):Option (D×ah):=n.bind fun m=>if m≤lim∧0<m then some (.ref H.length 0 m,H++[.arr sz false 0 (List.replicate m (.t zero))])else none
def Zs(sz:Nat)(zero:T):D→Option (D×ah)
 | .t (.int _ n)=>HZ H sz zero (idx n)
 | _=>none
@[go_sem] theorem U0 (sz : Nat) (zero : T) (k : IntKind) (n : Int) : Zs H sz zero (.t (.int k n)) = HZ H sz zero (idx n) := (rfl)
@[go_sem] theorem Zt (len : X) (zero : T) (sz : Nat) : evO call get H (.mkn len zero sz) = (get len).bind (Zs H sz zero) := by
 simp only[evO];cases get len with
 | none=>rfl
 | some d=>cases d with
   | t y=>cases y<;>rfl
   | _=>rfl
@[go_sem] theorem U1 (sz : Nat) (zero : T) (m : Nat) (h : m ≤ 4294967296) (h0 : 0 < m) : HZ H sz zero (some m) = some (.ref H.length 0 m, H ++ [.arr sz false 0 (List.replicate m (.t zero))]) := by
 simp[HZ,lim,h,h0]
def mY(sz:Nat)(fz:Bool)(x y:Option D):Option (D×ah):=x.bind fun a=>y.bind fun b=>kC H a b fz sz
@[go_sem] theorem Zu (x y : X) (fz : Bool) (sz : Nat) : evO call get H (.app x y fz sz) = mY H sz fz (get x) (get y) := (rfl)
def te(sz id ep n:Nat)(ys:List D):Option Obj→Option (D×ah)
 | some (.arr sz' pin ep' es)=>if ep=ep'∧n=es.length∧sz'=sz∧n+ys.length≤lim then some (.ref id ep (n+ys.length),H.set id (.arr sz pin ep (es++ys)))else none
 | _=>none
@[go_sem] theorem R2 (sz id ep n : Nat) (ys : List D) (pin : Bool) (es : List D) :
 te H sz id ep n ys (some (.arr sz pin ep es))=if n=es.length then(if n+ys.length≤4294967296 then some (.ref id ep (n+ys.length),H.set id (.arr sz pin ep (es++ys)))else none)else none:=by
 simp only[te,lim]
 by_cases h1:n=es.length
 · rw[if_pos h1]
   by_cases h2:n+ys.length≤4294967296
   · rw[if_pos h2,if_pos ⟨trivial,h1,trivial,h2⟩]
   · rw[if_neg h2,if_neg fun h=>h2 h.2.2.2]
 · rw[if_neg h1,if_neg fun h=>h1 h.2.1]
theorem qZ(ts:List T):bK (fun d=>(frz H depth d).map D.t) (ts.map D.t)=some (ts.map D.t):=by
 induction ts with
 | nil=>rfl
 | cons t ts ih=>simp[bK,frz,ih]
theorem Fo(ts:List T):(ts.map D.t).flatMap (ef H depth)=[]:=by
 induction ts with
 | nil=>rfl
 | cons t ts ih=>rw[List.map_cons,List.flatMap_cons,ih];simp[ef,depth]
theorem zk(sz:Nat)(fz:Bool)(x:D)(ts:List T)(h:bJ sz (ts.map D.t)=false):mY H sz fz (some x) (some (.t (.sl ts)))=none:=by
 have e1:(if fz then bK (fun d=>(frz H depth d).map D.t) (ts.map D.t)else some (ts.map D.t))=some (ts.map D.t):=by
  cases fz<;>simp[qZ]
 simp only[mY,aLq,kC,elems,e1,h,aLt,if_false]
def lF(sz:Nat)(ts:List T):Bool:=bJ sz (ts.map D.t)
theorem Fp(sz id ep n:Nat)(fz:Bool)(ts:List T)(h:lF sz ts=true):mY H sz fz (some (.ref id ep n)) (some (.t (.sl ts)))=te H sz id ep n (ts.map .t) H[id]?:=by
 have e1:(if fz then bK (fun d=>(frz H depth d).map D.t) (ts.map D.t)else some (ts.map D.t))=some (ts.map D.t):=by
  cases fz<;>simp[qZ]
 have e2:(if fz then pins H ((ts.map D.t).flatMap (ef H depth))else H)=H:=by
  cases fz
  · rfl
  · simp only[if_true];rw[Fo];rfl
 unfold lF at h
 simp only[mY,aLq,kC,elems,e1,h,if_true,e2,eZ]
 generalize H[id]?=o
 rcases o with _ | (_ | ⟨sz',pin,ep',es⟩)
 · rfl
 · rfl
 · simp only[te]
   by_cases h1:ep=ep'∧n=es.length
   · rw[if_pos h1,aLq]
     by_cases h2:sz'=sz∧n+(ts.map D.t).length≤lim
     · rw[if_pos h2,if_pos ⟨h1.1,h1.2,h2⟩]
     · rw[if_neg h2,if_neg fun h=>h2 h.2.2]
   · rw[if_neg h1,if_neg fun h=>h1 ⟨h.1,h.2.1⟩];rfl
@[go_sem] theorem R3 (sz id ep n : Nat) (fz : Bool) (ts : List T) : mY H sz fz (some (.ref id ep n)) (some (.t (.sl ts))) = if lF sz ts = true then te H sz id ep n (ts.map .t) H[id]? else none := by
 by_cases h:lF sz ts=true
 · rw[if_pos h,Fp H sz id ep n fz ts h]
 · rw[if_neg h];exact zk H sz fz _ ts (by simpa [lF]using h)
@[go_sem] theorem R4 (sz : Nat) (fz : Bool) (ts : List T) : mY H sz fz (some .nil) (some (.t (.sl ts))) =
 if lF sz ts=true then(if ts.length≤4294967296 then some (.ref H.length 0 ts.length,H++[.arr sz false 0 (ts.map .t)])else none)else none:=by
 by_cases h:lF sz ts=true
 · rw[if_pos h]
   have e1:(if fz then bK (fun d=>(frz H depth d).map D.t) (ts.map D.t)else some (ts.map D.t))=some (ts.map D.t):=by
    cases fz<;>simp[qZ]
   have e2:(if fz then pins H ((ts.map D.t).flatMap (ef H depth))else H)=H:=by
    cases fz
    · rfl
    · simp only[if_true];rw[Fo];rfl
   unfold lF at h
   simp only[mY,aLq,kC,elems,e1,h,if_true,e2,lim,List.length_map]
 · rw[if_neg h];exact zk H sz fz _ ts (by simpa [lF]using h)
@[go_sem] theorem R5 (sz : Nat) : lF sz [] = true := (rfl)
@[go_sem] theorem O7 (sz : Nat) (x : T) (r : List T) : lF sz (x :: r) = lE sz x.cells := by
 rw[Bool.eq_iff_iff,eG];simp[lF,bJ,D.cells]
@[go_sem] theorem R6 (l : List Int) (k : IntKind) : lF 1 (l.map (.int k)) = true := by cases l <;> rfl
@[go_sem] theorem O8 (l : List Bool) : lF 1 (l.map .bool) = true := by cases l <;> rfl
@[go_sem] theorem U2 (l : List (List T)) : lF 1 (l.map .sl) = true := by cases l <;> rfl
def Dk(call:aP)(f raw:Nat)(keep:List Nat)(ds:List D):Option (D×ah):=qz call H f raw keep ds
@[go_sem] theorem aaN (f raw : Nat) (keep : List Nat) (xs : List X) : evO call get H (.ca f raw keep xs) = (bK get xs).bind (Dk H call f raw keep) := (rfl)
def Zv(call:aP)(raw:Nat)(keep:List Nat)(x:Option D)(xs:Option (List D)):Option (D×ah):=x.bind fun
 | .fn f caps=>xs.bind fun ds=>qz call H f raw keep (ds++caps)
 | _=>none
@[go_sem] theorem aaO (x : X) (raw : Nat) (keep : List Nat) (xs : List X) : evO call get H (.cw x raw keep xs) = Zv H call raw keep (get x) (bK get xs) := (rfl)
@[go_sem] theorem Xl (raw : Nat) (keep : List Nat) (f : Nat) (caps ds : List D) : Zv H call raw keep (some (.fn f caps)) (some ds) = Dk H call f raw keep (ds ++ caps) := (rfl)
def kt(H:ah):List D→Option (List T)
 | []=>some []
 | .t x::r=>jL x (kt H r)
 | .nil::r=>jL (.sl []) (kt H r)
 | _::_=>none
@[go_sem] theorem Xm : kt H [] = some [] := (rfl)
@[go_sem] theorem Xn (x : T) (r : List D) : kt H (.t x :: r) = jL x (kt H r) := (rfl)
@[go_sem] theorem R7 (r : List D) : kt H (.nil :: r) = jL (.sl []) (kt H r) := (rfl)
@[go_sem] theorem R8 (cs : List D) (r : List D) : kt H (.agg cs :: r) = none := (rfl)
@[go_sem] theorem U3 (a b : Nat) (r : List D) : kt H (.bp a b :: r) = none := (rfl)
@[go_sem] theorem R9 (a b c : Nat) (r : List D) : kt H (.ref a b c :: r) = none := (rfl)
@[go_sem] theorem Sa (a b c d e : Nat) (r : List D) : kt H (.sub a b c d e :: r) = none := (rfl)
@[go_sem] theorem U4 (f : Nat) (cs : List D) (r : List D) : kt H (.fn f cs :: r) = none := (rfl)
@[go_sem] theorem U5 (a b c d e : Nat) (r : List D) : kt H (.ap a b c d e :: r) = none := (rfl)
@[go_sem] theorem U6 (cs : List T) (r : List D) : kt H (.ep cs :: r) = none := (rfl)
@[go_sem] theorem O9 (r : List D) : kt H (.nilp :: r) = none := (rfl)
@[go_sem] theorem Sb (r : List D) : kt H (.und :: r) = none := (rfl)
end
theorem qe(H:ah):∀ {ds:List D} {ts:List T},kt H ds=some ts→∀i,mP H [] i ds=some (ts.map .t)∧cE H [] i ds=[]
 | [],ts,h,i=>by simp[kt]at h;subst h;exact⟨rfl,rfl⟩
 | d::r,ts,h,i=>by
   cases d with
   | t x=>
     simp only[kt,jL,aLb]at h
     obtain⟨l,hl,rfl⟩:=h
     obtain⟨h1,h2⟩:=qe H hl (i+1)
     exact⟨by simp[mP,pw,h1],by simp[cE,ef,depth,h2]⟩
   | nil=>
     simp only[kt,jL,aLb]at h
     obtain⟨l,hl,rfl⟩:=h
     obtain⟨h1,h2⟩:=qe H hl (i+1)
     exact⟨by simp[mP,pw,h1],by simp[cE,ef,depth,h2]⟩
   | _=>simp[kt]at h
theorem Fq(ts:List T)(n:Nat):(ts.map D.t).flatMap (ids n)=[]:=by
 induction ts with
 | nil=>rfl
 | cons t ts ih=>rw[List.map_cons,List.flatMap_cons,ih];simp[ids]
theorem Fs(f:Nat→Option Nat)(ts:List T):bK (ren f depth) (ts.map .t)=some (ts.map .t):=by
 induction ts with
 | nil=>rfl
 | cons t ts ih=>simp[bK,ren,depth]at ih ⊢;exact ih
def tJ:D→Bool
 | .t _=>true
 | .tup ds=>ds.all fun | .t _=>true | _=>false
 | _=>false
theorem xP{f:Nat→Option Nat}{d:D}(h:tJ d=true):ren f depth d=some d:=by
 cases d with
 | t x=>rfl
 | tup ds=>
   simp only[tJ]at h
   have:bK (ren f 7) ds=some ds:=by
    induction ds with
    | nil=>rfl
    | cons d ds ih=>
      simp only[List.all_cons,aLr]at h
      cases d with
      | t x=>simp[bK,ren,ih h.2]
      | _=>simp at h
   simp[ren,depth,this]
 | _=>simp[tJ]at h
def uT(H:ah)(p:D×ah):Option (D×ah):=if tJ p.1&&p.2.isEmpty then some (p.1,H)else
 (ren (dR [] H.length) depth p.1).bind fun r'=>(bK (gj (dR [] H.length)) p.2).map fun os=>(r',H++os)
@[go_sem] theorem Xo (H : ah) (x : T) : uT H (.t x, []) = some (.t x, H) := (rfl)
@[go_sem] theorem Xp (H : ah) : uT H (.tup [], []) = some (.tup [], H) := (rfl)
@[go_sem] theorem Xq (H : ah) (x y : T) : uT H (.tup [.t x, .t y], []) = some (.tup [.t x, .t y], H) := (rfl)
@[go_sem] theorem Xr (H : ah) (x y z : T) : uT H (.tup [.t x, .t y, .t z], []) = some (.tup [.t x, .t y, .t z], H) := (rfl)
@[go_sem] theorem Xs (H : ah) (x y z u : T) : uT H (.tup [.t x, .t y, .t z, .t u], []) = some (.tup [.t x, .t y, .t z, .t u], H) := (rfl)
theorem Ft(H:ah)(call:aP)(f raw:Nat)(ds:List D)(ts:List T)(h:kt H ds=some ts):
 Dk H call f raw [] ds=(call raw f (ts.map .t) []).bind (uT H):=by
 obtain⟨h1,h2⟩:=qe H h 0
 simp only[Dk,qz,h1,aLq,Fq,eo,reach,me,List.flatMap_nil,h2,pins,Fs,pick,bK]
 cases hc:call raw f (ts.map .t) []with
 | none=>rfl
 | some p=>
   obtain⟨d,os⟩:=p
   simp only[aLq,List.isEmpty_nil,Bool.true_and,uT]
   by_cases h3:os=[]
   · subst h3
     simp only[List.isEmpty_nil,Bool.true_and,Bool.and_true,bK,aLw,List.length_nil,List.take_nil,cW,List.drop_nil,List.append_nil]
     by_cases h4:tJ d=true
     · rw[if_pos h4]
       split
       · rfl
       · rw[xP h4];rfl
     · rw[if_neg h4]
       split
       · rename_i h5
         exfalso
         apply h4
         cases d with
         | t x=>rfl
         | tup ds=>
           simp only[mN,aLx]at h5
           simp only[tJ,aLx]
           intro y hy
           have:=h5 y hy
           cases y<;>simp_all [iT]
         | _=>simp[mN]at h5
       · rfl
   · have:os.isEmpty=false:=by cases os<;>simp_all
     simp only[this,Bool.false_and,Bool.and_false,if_false,aLt,List.length_nil,List.take_zero,cW,List.drop_zero]
@[go_sem] theorem Pa (st : St) : gV st [] = some [] := (rfl)
def Zw(st:St)(r:List (Nat×Option (Nat×Bool)))(d:D):Option (List D):=jL d (gV st r)
@[go_sem] theorem Xt (vs : List D) (H : ah) (r : List (Nat × Option (Nat × Bool))) (d : D) : Zw ⟨vs, H⟩ r d = jL d (gV ⟨vs, H⟩ r) := (rfl)
@[go_sem] theorem Pb (vs : List D) (H : ah) (j : Nat) (r : List (Nat × Option (Nat × Bool))) : gV ⟨vs, H⟩ ((j, none) :: r) = vs[j]?.bind (Zw ⟨vs, H⟩ r) := (rfl)
def Xu(st:St)(r:List (Nat×Option (Nat×Bool)))(p:D×ah):Option (List D):=jL p.1 (gV st r)
@[go_sem] theorem Xv (vs : List D) (H : ah) (r : List (Nat × Option (Nat × Bool))) (d : D) (H' : ah) : Xu ⟨vs, H⟩ r (d, H') = jL d (gV ⟨vs, H⟩ r) := (rfl)
def Xw(st:St)(n:Nat)(agg:Bool)(r:List (Nat×Option (Nat×Bool)))(p:D):Option (List D):=(G4 st.H n agg p).bind (Xu st r)
@[go_sem] theorem Xx (vs : List D) (H : ah) (n : Nat) (agg : Bool) (r : List (Nat × Option (Nat × Bool))) (p : D) : Xw ⟨vs, H⟩ n agg r p = (G4 H n agg p).bind (Xu ⟨vs, H⟩ r) := (rfl)
@[go_sem] theorem LY (vs : List D) (H : ah) (j n : Nat) (agg : Bool) (r : List (Nat × Option (Nat × Bool))) : gV ⟨vs, H⟩ ((j, some (n, agg)) :: r) = vs[j]?.bind (Xw ⟨vs, H⟩ n agg r) := by
 simp only[gV]
 cases vs[j]? with
 | none=>rfl
 | some p=>
   simp only[aLq,Xw,G4]
   cases rW H p n agg<;>rfl
@[go_sem] theorem Xy (H : ah) (n : Nat) (x : T) : frz H n (.t x) = some x := by cases n <;> rfl
@[go_sem] theorem Xz (H : ah) (n : Nat) : frz H n .nil = some (.sl []) := by cases n <;> rfl
@[go_sem] theorem XA (H : ah) (n : Nat) (cs : List D) : frz H (n + 1) (.agg cs) = (bK (frz H n) cs).map .agg := (rfl)
@[go_sem] theorem Dl (H : ah) (n : Nat) (ts : List T) : bK (frz H n) (ts.map .t) = some ts := by
 induction ts with
 | nil=>rfl
 | cons t ts ih=>simp[bK,Xy,ih]
def frA(H:ah)(n ep m lo hi:Nat):Option Obj→Option T
 | some (.arr _ _ ep' es)=>if ep=ep'∧m=es.length then(bK (frz H n) ((es.drop lo).take (hi-lo))).map .sl else none
 | _=>none
def frR(H:ah)(n ep m:Nat):Option Obj→Option T
 | some (.arr _ _ ep' es)=>if ep=ep'∧m=es.length then(bK (frz H n) es).map .sl else none
 | _=>none
@[go_sem] theorem XB (H : ah) (n id ep m : Nat) : frz H (n + 1) (.ref id ep m) = frR H n ep m H[id]? := by
 simp only[frz,eZ]
 generalize H[id]?=o
 rcases o with _ | (_ | ⟨sz',pin,ep',es⟩)
 · rfl
 · rfl
 · simp only[frR]
   by_cases h:ep=ep'∧m=es.length
   · rw[if_pos h,if_pos h];rfl
   · rw[if_neg h,if_neg h];rfl
@[go_sem] theorem XC (H : ah) (n id ep m lo hi : Nat) : frz H (n + 1) (.sub id ep m lo hi) = frA H n ep m lo hi H[id]? := by
 simp only[frz,eZ]
 generalize H[id]?=o
 rcases o with _ | (_ | ⟨sz',pin,ep',es⟩)
 · rfl
 · rfl
 · simp only[frA]
   by_cases h:ep=ep'∧m=es.length
   · rw[if_pos h,if_pos h];rfl
   · rw[if_neg h,if_neg h];rfl
@[go_sem] theorem XD (H : ah) (n ep m sz : Nat) (pin : Bool) (es : List D) : frR H n ep m (some (.arr sz pin ep es)) = if m = es.length then (bK (frz H n) es).map .sl else none := by simp [frR]
@[go_sem] theorem XE (H : ah) (n ep m lo hi sz : Nat) (pin : Bool) (es : List D) : frA H n ep m lo hi (some (.arr sz pin ep es)) = if m = es.length then (bK (frz H n) ((es.drop lo).take (hi - lo))).map .sl else none := by simp [frA]
@[go_sem] theorem Sc (H : ah) (x : T) : pw H (.t x) = some (.t x) := (rfl)
@[go_sem] theorem U7 (H : ah) : pw H .nil = some (.t (.sl [])) := (rfl)
@[go_sem] theorem U8 (H : ah) (cs : List D) : pw H (.agg cs) = (frz H 8 (.agg cs)).map .t := (rfl)
@[go_sem] theorem U9 (H : ah) (id ep n : Nat) : pw H (.ref id ep n) = (frz H 8 (.ref id ep n)).map .t := (rfl)
@[go_sem] theorem Va (H : ah) (id ep n lo hi : Nat) : pw H (.sub id ep n lo hi) = (frz H 8 (.sub id ep n lo hi)).map .t := (rfl)
@[go_sem] theorem LZ (H : ah) (id off : Nat) : pw H (.bp id off) = some (.bp id off) := (rfl)
@[go_sem] theorem XF (H : ah) (id ep n i off : Nat) : pw H (.ap id ep n i off) = some (.ap id ep n i off) := (rfl)
@[go_sem] theorem XG (H : ah) (cs : List T) : pw H (.ep cs) = some (.ep cs) := (rfl)
@[go_sem] theorem XH (H : ah) (f : Nat) (cs : List D) : pw H (.fn f cs) = some (.fn f cs) := (rfl)
def ltB:Nat→Nat→Bool
 | _,0=>false
 | 0,_+1=>true
 | m+1,n+1=>ltB m n
@[go_sem] theorem aaP (m : Nat) : ltB m 0 = false := by cases m <;> rfl
@[go_sem] theorem Zx (n : Nat) : ltB 0 (n + 1) = true := (rfl)
@[go_sem] theorem Zy (m n : Nat) : ltB (m + 1) (n + 1) = ltB m n := (rfl)
theorem mZ:∀ {m n:Nat},ltB m n=decide (m<n)
 | m,0=>by cases m<;>simp[ltB]
 | 0,n+1=>by simp[ltB]
 | m+1,n+1=>by simp[ltB,mZ (m:=m) (n:=n)]
def eqB:Nat→Nat→Bool
 | 0,0=>true
 | m+1,n+1=>eqB m n
 | _,_=>false
@[go_sem] theorem Zz : eqB 0 0 = true := (rfl)
@[go_sem] theorem ZA (n : Nat) : eqB 0 (n + 1) = false := (rfl)
@[go_sem] theorem ZB (n : Nat) : eqB (n + 1) 0 = false := (rfl)
@[go_sem] theorem ZC (m n : Nat) : eqB (m + 1) (n + 1) = eqB m n := (rfl)
theorem A5:∀ {m n:Nat},eqB m n=decide (m=n)
 | 0,0=>rfl
 | 0,n+1=>rfl
 | m+1,0=>rfl
 | m+1,n+1=>by simp[eqB,A5 (m:=m) (n:=n)]
section
variable (k n : Nat)
@[go_sem] theorem XI (x : T) : old k n (.t x) = true := by cases n <;> rfl
@[go_sem] theorem XJ : old k n .nil = true := by cases n <;> rfl
@[go_sem] theorem ZD (cs : List T) : old k n (.ep cs) = true := by cases n <;> rfl
@[go_sem] theorem Vb : old k n .nilp = true := by cases n <;> rfl
@[go_sem] theorem XK : old k n .und = true := by cases n <;> rfl
@[go_sem] theorem Sd (id off : Nat) : old k n (.bp id off) = ltB id k := by cases n <;> simp [old, mZ]
@[go_sem] theorem ZE (id ep m i off : Nat) : old k n (.ap id ep m i off) = ltB id k := by cases n <;> simp [old, mZ]
@[go_sem] theorem XL (id ep m : Nat) : old k n (.ref id ep m) = ltB id k := by cases n <;> simp [old, mZ]
@[go_sem] theorem XM (id ep m lo hi : Nat) : old k n (.sub id ep m lo hi) = ltB id k := by cases n <;> simp [old, mZ]
def fL(n:Nat)(cs:List D):Bool:=cs.all (old k n)
@[go_sem] theorem Pc : fL k n [] = true := (rfl)
@[go_sem] theorem A6 (d : D) (r : List D) : fL k n (d :: r) = (old k n d && fL k n r) := (rfl)
@[go_sem] theorem Cg (ts : List T) : fL k n (ts.map .t) = true := by
 induction ts with
 | nil=>rfl
 | cons t ts ih=>rw[List.map_cons,A6,XI,ih];rfl
@[go_sem] theorem Pd (m : Nat) (x : T) : fL k n (List.replicate m (.t x)) = true := by
 have:List.replicate m (D.t x)=(List.replicate m x).map .t:=by simp
 rw[this,Cg]
@[go_sem] theorem Pe (a b : List D) : fL k n (a ++ b) = (fL k n a && fL k n b) := by simp [fL]
@[go_sem] theorem XN (cs : List D) : old k (n + 1) (.agg cs) = fL k n cs := (rfl)
@[go_sem] theorem XO (cs : List D) : old k (n + 1) (.tup cs) = fL k n cs := (rfl)
@[go_sem] theorem ZF (f : Nat) (cs : List D) : old k (n + 1) (.fn f cs) = fL k n cs := (rfl)
end
def fe(k:Nat):ah→Bool
 | []=>true
 | .box cs::r=>fL k 8 cs&&fe k r
 | .arr _ _ _ es::r=>fL k 8 es&&fe k r
@[go_sem] theorem L4 (k : Nat) : fe k [] = true := (rfl)
@[go_sem] theorem L5 (k : Nat) (cs : List D) (r : ah) : fe k (.box cs :: r) = (fL k 8 cs && fe k r) := (rfl)
@[go_sem] theorem L6 (k sz ep : Nat) (pin : Bool) (es : List D) (r : ah) : fe k (.arr sz pin ep es :: r) = (fL k 8 es && fe k r) := (rfl)
theorem kz(k:Nat)(H:ah):H.all (fun o=>o.ds.all (old k depth))=fe k H:=by
 induction H with
 | nil=>rfl
 | cons o r ih=>rw[List.all_cons,ih];cases o<;>rfl
def L7(d:D)(b:Bool):D:=if b then d else .und
@[go_sem] theorem Pf (d : D) : L7 d true = d := (rfl)
@[go_sem] theorem L8 (d : D) : L7 d false = .und := (rfl)
@[go_sem] theorem XP (k : Nat) (d : D) : kill k d = L7 d (old k 8 d) := (rfl)
def Dm(k:Nat):List D→List D
 | []=>[]
 | d::r=>kill k d::Dm k r
@[go_sem] theorem Se (k : Nat) : Dm k [] = [] := (rfl)
@[go_sem] theorem Pg (k : Nat) (d : D) (r : List D) : Dm k (d :: r) = kill k d :: Dm k r := (rfl)
theorem H3(k:Nat)(vs:List D):vs.map (kill k)=Dm k vs:=by
 induction vs with
 | nil=>rfl
 | cons d r ih=>rw[List.map_cons,ih];rfl
@[go_sem] theorem Vc (k : Nat) (vs : List D) (H : ah) : C3 k ⟨vs, H⟩ = if fe k (H.take k) = true then some ⟨Dm k vs, H.take k⟩ else none := by
 simp only[C3,kz,H3]
@[go_sem] theorem Fu (H : ah) (n : Nat) (x : T) : ef H n (.t x) = [] := by cases n <;> rfl
@[go_sem] theorem Vd (H : ah) (n : Nat) : ef H n .nil = [] := by cases n <;> rfl
@[go_sem] theorem L9 (H : ah) (n id off : Nat) : ef H n (.bp id off) = [] := by cases n <;> rfl
@[go_sem] theorem XQ (H : ah) (n f : Nat) (cs : List D) : ef H n (.fn f cs) = [] := by cases n <;> rfl
@[go_sem] theorem XR (H : ah) (n : Nat) (cs : List T) : ef H n (.ep cs) = [] := by cases n <;> rfl
@[go_sem] theorem XT (H : ah) (n a b c d e : Nat) : ef H n (.ap a b c d e) = [] := by cases n <;> rfl
def pA(H:ah)(n:Nat)(cs:List D):List Nat:=cs.flatMap (ef H n)
@[go_sem] theorem Sf (H : ah) (n : Nat) : pA H n [] = [] := (rfl)
@[go_sem] theorem Dn (H : ah) (n : Nat) (d : D) (r : List D) : pA H n (d :: r) = ef H n d ++ pA H n r := (rfl)
@[go_sem] theorem XU (H : ah) (n : Nat) (ts : List T) : pA H n (ts.map .t) = [] := by
 induction ts with
 | nil=>rfl
 | cons t ts ih=>rw[List.map_cons,Dn,ih,Fu];rfl
@[go_sem] theorem Sg (H : ah) (n : Nat) (a b : List D) : pA H n (a ++ b) = pA H n a ++ pA H n b := by simp [pA]
@[go_sem] theorem Ve (H : ah) (n : Nat) (cs : List D) : ef H (n + 1) (.agg cs) = pA H n cs := (rfl)
def Ma(H:ah)(n:Nat):Option Obj→List Nat
 | some (.arr _ _ _ es)=>pA H n es
 | _=>[]
@[go_sem] theorem Si (H : ah) (n sz ep : Nat) (pin : Bool) (es : List D) : Ma H n (some (.arr sz pin ep es)) = pA H n es := (rfl)
@[go_sem] theorem Vf (H : ah) (n id ep m : Nat) : ef H (n + 1) (.ref id ep m) = id :: Ma H n H[id]? := (rfl)
@[go_sem] theorem Vg (H : ah) (n id ep m lo hi : Nat) : ef H (n + 1) (.sub id ep m lo hi) = id :: Ma H n H[id]? := (rfl)
@[go_sem] theorem XV : qB [] = .tup [] := (rfl)
@[go_sem] theorem XW (d : D) : qB [d] = d := (rfl)
@[go_sem] theorem XX (a b : D) (r : List D) : qB (a :: b :: r) = .tup (a :: b :: r) := (rfl)
def zm(k:Nat):List Nat→Bool
 | []=>true
 | i::r=> !ltB i k&&zm k r
@[go_sem] theorem Sj (k : Nat) : zm k [] = true := (rfl)
@[go_sem] theorem Ph (k i : Nat) (r : List Nat) : zm k (i :: r) = (!ltB i k && zm k r) := (rfl)
theorem Ch(k:Nat)(l:List Nat):l.all (fun i=>decide (k≤i))=zm k l:=by
 induction l with
 | nil=>rfl
 | cons i r ih=>
   rw[List.all_cons,ih]
   simp only[zm,mZ]
   congr 1
   rw[Bool.eq_iff_iff];simp
def Vh(k raw:Nat)(H:ah)(ds rs:List D):Option (D×ah):=
 (jX H (max raw 1) (List.range k) (rs.flatMap (ids depth)++me H (List.range k))).bind fun q=>
  if(gW H raw ds).all (fun i=> !(List.range k++q.1).contains i)then
   (bK (ren (idxOf (List.range k++q.1)) depth) rs).bind fun rs'=>
    (bK (gj (idxOf (List.range k++q.1))) (H.take k++q.2)).map fun hs'=>(qB rs',hs')
  else none
def Pj(k raw:Nat)(H:ah)(ds rs:List D)(b:Bool):Option (D×ah):=
 if b then(if zm k (gW H raw ds)=true then some (qB rs,H.take k)else none)else Vh k raw H ds rs
@[go_sem] theorem Sk (k raw : Nat) (H : ah) (ds rs : List D) : Pj k raw H ds rs true = if zm k (gW H raw ds) = true then some (qB rs, H.take k) else none := (rfl)
def Sl(k raw:Nat)(H:ah)(ds rs:List D):Option (D×ah):=Pj k raw H ds rs (fL k 8 rs&&fe k (H.take k))
@[go_sem] theorem XY (k raw : Nat) (H : ah) (ds rs : List D) : Sl k raw H ds rs = Pj k raw H ds rs (fL k 8 rs && fe k (H.take k)) := (rfl)
@[go_sem] theorem Sm (k : Nat) (H : ah) (ds : List D) : finish k 0 H ds = (bK (pw H) ds).bind (Sl k 0 H ds) := by
 simp only[finish,if_true,kz,Ch]
 cases bK (pw H) ds with
 | none=>rfl
 | some rs=>
   simp only[aLq,Sl,Pj]
   show(if(fL k 8 rs&&fe k (H.take k))=true then _ else _)=_
   cases (fL k 8 rs&&fe k (H.take k))<;>rfl
@[go_sem] theorem Sn (H : ah) (ds : List D) : gW H 0 ds = pA H 8 ds := (rfl)
@[go_sem] theorem Sp (vs : List D) : iU [] vs = vs := (rfl)
@[go_sem] theorem Pk (i : Nat) (r : List Nat) (vs : List D) : iU (i :: r) vs = iU r (vs.set i .und) := (rfl)
@[go_sem] theorem XZ (dead : List Nat) (k : Nat) (vs : List D) (H : ah) : tidy false dead k ⟨vs, H⟩ = some ⟨iU dead vs, H⟩ := (rfl)
@[go_sem] theorem X0 (dead : List Nat) (k : Nat) (vs : List D) (H : ah) : tidy true dead k ⟨vs, H⟩ = C3 k ⟨iU dead vs, H⟩ := (rfl)
section
variable (H : ah) (call : aP) (f raw : Nat) (keep : List Nat) (ds : List D)
def xQ(H1:ah)(n:Nat)(sel:List Nat)(p:D×ah):Option (D×ah):=
 (ren (dR sel n) depth p.1).bind fun r'=>(bK (gj (dR sel n)) p.2).map fun os=>(r',cW H1 sel (os.take sel.length)++os.drop sel.length)
def qf(H1:ah)(sel:List Nat)(p:D×ah):Option (D×ah):=
 if sel.isEmpty&&p.2.isEmpty&&mN p.1 then some (p.1,H)else xQ H1 H.length sel p
def Mb(args:List D)(H1:ah)(sel:List Nat)(hs:ah):Option (D×ah):=(call raw f args hs).bind (qf H H1 sel)
def Mc(args:List D)(H1:ah)(sel:List Nat)(hs:ah):Option (D×ah):=(bK (gj (idxOf sel)) hs).bind (Mb H call f raw args H1 sel)
def Md(H1:ah)(sel:List Nat)(args:List D):Option (D×ah):=(pick H1 sel).bind (Mc H call f raw args H1 sel)
def Me(args:List D)(sel:List Nat):Option (D×ah):=(bK (ren (idxOf sel) depth) args).bind (Md H call f raw (pins H (cE H keep 0 ds)) sel)
def uU(n:Nat)(cs:List D):List Nat:=cs.flatMap (ids n)
def Mf(args:List D):Option (D×ah):=Me H call f raw keep ds args (reach H 3 (eo [] (uU 8 args)))
def Fv:Option (D×ah):=(mP H keep 0 ds).bind (Mf H call f raw keep ds)
theorem H4:Dk H call f raw keep ds=Fv H call f raw keep ds:=(rfl)
@[go_sem] theorem H5 : Fv H call f raw keep ds = (mP H keep 0 ds).bind (Mf H call f raw keep ds) := (rfl)
@[go_sem] theorem H6 (args : List D) : Mf H call f raw keep ds args = Me H call f raw keep ds args (reach H 3 (eo [] (uU 8 args))) := (rfl)
@[go_sem] theorem H7 (args : List D) (sel : List Nat) : Me H call f raw keep ds args sel = (bK (ren (idxOf sel) 8) args).bind (Md H call f raw (pins H (cE H keep 0 ds)) sel) := (rfl)
@[go_sem] theorem H8 (H1 : ah) (sel : List Nat) (args : List D) : Md H call f raw H1 sel args = (pick H1 sel).bind (Mc H call f raw args H1 sel) := (rfl)
@[go_sem] theorem H9 (args : List D) (H1 : ah) (sel : List Nat) (hs : ah) : Mc H call f raw args H1 sel hs = (bK (gj (idxOf sel)) hs).bind (Mb H call f raw args H1 sel) := (rfl)
@[go_sem] theorem Ia (args : List D) (H1 : ah) (sel : List Nat) (hs : ah) : Mb H call f raw args H1 sel hs = (call raw f args hs).bind (qf H H1 sel) := (rfl)
def Ib(H1:ah)(sel:List Nat)(r:D)(os:ah):Option (D×ah):=some (r,cW H1 sel (os.take sel.length)++os.drop sel.length)
@[go_sem] theorem Ic (H1 : ah) (sel : List Nat) (r : D) (os : ah) : Ib H1 sel r os = some (r, cW H1 sel (os.take sel.length) ++ os.drop sel.length) := (rfl)
def Mg(H1:ah)(n:Nat)(sel:List Nat)(os:ah)(r:D):Option (D×ah):=(bK (gj (dR sel n)) os).bind (Ib H1 sel r)
@[go_sem] theorem Ci (H1 : ah) (n : Nat) (sel : List Nat) (os : ah) (r : D) : Mg H1 n sel os r = (bK (gj (dR sel n)) os).bind (Ib H1 sel r) := (rfl)
@[go_sem] theorem Cj (H1 : ah) (n : Nat) (sel : List Nat) (r : D) (os : ah) : xQ H1 n sel (r, os) = (ren (dR sel n) 8 r).bind (Mg H1 n sel os) := by
 simp only[xQ,depth]
 cases ren (dR sel n) 8 r with
 | none=>rfl
 | some r'=>simp only[aLq,Mg];cases bK (gj (dR sel n)) os<;>rfl
@[go_sem] theorem Sq (H1 : ah) (i : Nat) (sel : List Nat) (p : D × ah) : qf H H1 (i :: sel) p = xQ H1 H.length (i :: sel) p := (rfl)
@[go_sem] theorem Vi (H1 : ah) (sel : List Nat) (r : D) (o : Obj) (os : ah) : qf H H1 sel (r, o :: os) = xQ H1 H.length sel (r, o :: os) := by
 simp[qf]
@[go_sem] theorem X1 (H1 : ah) (k : IntKind) (n : Int) : qf H H1 [] (.t (.int k n), []) = some (.t (.int k n), H) := (rfl)
@[go_sem] theorem X2 (H1 : ah) (b : Bool) : qf H H1 [] (.t (.bool b), []) = some (.t (.bool b), H) := (rfl)
@[go_sem] theorem Vj (H1 : ah) (es : List T) : qf H H1 [] (.t (.sl es), []) = some (.t (.sl es), H1) := by simp [qf, xQ, mN, T.scalar, ren, depth, bK, cW]
@[go_sem] theorem Sr (H1 : ah) (es : List T) : qf H H1 [] (.t (.agg es), []) = some (.t (.agg es), H1) := by simp [qf, xQ, mN, T.scalar, ren, depth, bK, cW]
@[go_sem] theorem Ss (H1 : ah) (ds : List D) : qf H H1 [] (.tup ds, []) = if ds.all iT then some (.tup ds, H) else xQ H1 H.length [] (.tup ds, []) := by
 simp[qf,mN]
def Mh:Option (List T)→Option (D×ah)
 | some ts=>(call raw f (ts.map .t) []).bind (uT H)
 | none=>Fv H call f raw [] ds
@[go_sem] theorem Pl (ts : List T) : Mh H call f raw ds (some ts) = (call raw f (ts.map .t) []).bind (uT H) := (rfl)
@[go_sem] theorem Pm : Mh H call f raw ds none = Fv H call f raw [] ds := (rfl)
@[go_sem] theorem X3 : Dk H call f raw [] ds = Mh H call f raw ds (kt H ds) := by
 cases h:kt H ds with
 | none=>rfl
 | some ts=>exact Ft H call f raw ds ts h
@[go_sem] theorem ZG (k : Nat) : Dk H call f raw (k :: keep) ds = Fv H call f raw (k :: keep) ds := (rfl)
end
section
variable (H : ah) (keep : List Nat)
@[go_sem] theorem Su (i : Nat) : mP H keep i [] = some [] := (rfl)
def Av(i:Nat):List Nat→Bool
 | []=>false
 | j::r=>eqB i j||Av i r
@[go_sem] theorem Vk (i : Nat) : Av i [] = false := (rfl)
@[go_sem] theorem Sv (i j : Nat) (r : List Nat) : Av i (j :: r) = (eqB i j || Av i r) := (rfl)
theorem xR(i:Nat)(l:List Nat):l.contains i=Av i l:=by
 induction l with
 | nil=>rfl
 | cons j r ih=>rw[List.contains_cons,ih];simp only[Av,A5];rw[beq_eq_decide_nat]
where beq_eq_decide_nat {a b:Nat}:(a==b)=decide (a=b):=by rw[Bool.eq_iff_iff];simp
def X4(d:D):Bool→Option D
 | true=>some d
 | false=>pw H d
@[go_sem] theorem ZH (d : D) : X4 H d true = some d := (rfl)
@[go_sem] theorem JI (d : D) : X4 H d false = pw H d := (rfl)
def ZI(i:Nat)(r:List D)(x:D):Option (List D):=jL x (mP H keep (i+1) r)
@[go_sem] theorem Fw (i : Nat) (r : List D) (x : D) : ZI H keep i r x = jL x (mP H keep (i + 1) r) := (rfl)
@[go_sem] theorem wU (i : Nat) (d : D) (r : List D) : mP H keep i (d :: r) = (X4 H d (Av i keep)).bind (ZI H keep i r) := by
 simp only[mP,xR]
 cases Av i keep<;>rfl
@[go_sem] theorem G5 (i : Nat) : cE H keep i [] = [] := (rfl)
def frK(l:List Nat):Bool→List Nat
 | true=>[]
 | false=>l
@[go_sem] theorem aaQ (l : List Nat) : frK l true = [] := (rfl)
@[go_sem] theorem Sw (l : List Nat) : frK l false = l := (rfl)
@[go_sem] theorem oh (i : Nat) (d : D) (r : List D) : cE H keep i (d :: r) = frK (ef H 8 d) (Av i keep) ++ cE H keep (i + 1) r := by
 simp only[cE,xR]
 cases Av i keep<;>rfl
@[go_sem] theorem Vl (H : ah) : pins H [] = H := (rfl)
@[go_sem] theorem Sx (H : ah) (i : Nat) (r : List Nat) : pins H (i :: r) = pins (H.modify i BR) r := (rfl)
def Dp(i:Nat):Option Obj→ah
 | some (.arr sz _ ep es)=>H.set i (.arr sz true ep es)
 | _=>H
@[go_sem] theorem Sy (i : Nat) (cs : List D) : Dp H i (some (.box cs)) = H := (rfl)
@[go_sem] theorem Sz (i sz ep : Nat) (pin : Bool) (es : List D) : Dp H i (some (.arr sz pin ep es)) = H.set i (.arr sz true ep es) := (rfl)
theorem xS{α:Type}{l:List α}{i:Nat}{x:α}(h:l[i]?=some x):l.set i x=l:=by
 apply List.ext_getElem?
 intro j
 rw[List.getElem?_set]
 split
 · rename_i e;subst e
   split
   · exact h.symm
   · rename_i hl;rw[aLm (by omega)]at h;cases h
 · rfl
@[go_sem] theorem Pn (i : Nat) : List.modify H i BR = Dp H i H[i]? := by
 apply List.ext_getElem?
 intro j
 rw[List.getElem?_modify]
 cases h:H[i]? with
 | none=>
   simp only[Dp]
   by_cases e:i=j
   · subst e;rw[h];simp
   · simp[e]
 | some o=>
   have hi:i<H.length:=(aLe.1 h).1
   cases o with
   | box cs=>
     simp only[Dp]
     by_cases e:i=j
     · subst e;rw[h];simp[BR]
     · simp[e]
   | arr sz pin ep es=>
     simp only[Dp]
     rw[List.getElem?_set]
     by_cases e:i=j
     · subst e;rw[h];simp[BR,hi]
     · simp[e]
section
variable (n : Nat)
@[go_sem] theorem aaR (x : T) : ids n (.t x) = [] := by cases n <;> rfl
@[go_sem] theorem X5 : ids n .nil = [] := by cases n <;> rfl
@[go_sem] theorem Vm : ids n .nilp = [] := by cases n <;> rfl
@[go_sem] theorem X6 : ids n .und = [] := by cases n <;> rfl
@[go_sem] theorem ZJ (cs : List T) : ids n (.ep cs) = [] := by cases n <;> rfl
@[go_sem] theorem SA (id off : Nat) : ids n (.bp id off) = [id] := by cases n <;> rfl
@[go_sem] theorem ZK (id ep m i off : Nat) : ids n (.ap id ep m i off) = [id] := by cases n <;> rfl
@[go_sem] theorem X7 (id ep m : Nat) : ids n (.ref id ep m) = [id] := by cases n <;> rfl
@[go_sem] theorem X8 (id ep m lo hi : Nat) : ids n (.sub id ep m lo hi) = [id] := by cases n <;> rfl
@[go_sem] theorem X9 (cs : List D) : ids (n + 1) (.agg cs) = uU n cs := (rfl)
@[go_sem] theorem Ya (cs : List D) : ids (n + 1) (.tup cs) = uU n cs := (rfl)
@[go_sem] theorem SB (f : Nat) (cs : List D) : ids (n + 1) (.fn f cs) = uU n cs := (rfl)
@[go_sem] theorem Ie : uU n [] = [] := (rfl)
@[go_sem] theorem Fx (d : D) (r : List D) : uU n (d :: r) = ids n d ++ uU n r := (rfl)
@[go_sem] theorem Ck (ts : List T) : uU n (ts.map .t) = [] := Fq ts n
@[go_sem] theorem Cl (a b : List D) : uU n (a ++ b) = uU n a ++ uU n b := by simp [uU]
@[go_sem] theorem Vn (m : Nat) (x : T) : uU n (List.replicate m (.t x)) = [] := by
 have:List.replicate m (D.t x)=(List.replicate m x).map .t:=by simp
 rw[this,Ck]
end
def Fy(sel:List Nat)(i:Nat):Bool→List Nat
 | true=>sel
 | false=>sel++[i]
@[go_sem] theorem Vo (sel : List Nat) (i : Nat) : Fy sel i true = sel := (rfl)
@[go_sem] theorem Vp (sel : List Nat) (i : Nat) : Fy sel i false = sel ++ [i] := (rfl)
@[go_sem] theorem Po (sel : List Nat) : eo sel [] = sel := (rfl)
@[go_sem] theorem Mi (sel : List Nat) (i : Nat) (r : List Nat) : eo sel (i :: r) = eo (Fy sel i (Av i sel)) r := by
 simp only[eo,xR]
 cases Av i sel<;>rfl
def Cm:Option Obj→List Nat
 | some (.box cs)=>uU 8 cs
 | some (.arr _ _ _ es)=>uU 8 es
 | none=>[]
@[go_sem] theorem Pp (cs : List D) : Cm (some (.box cs)) = uU 8 cs := (rfl)
@[go_sem] theorem Pq (sz ep : Nat) (pin : Bool) (es : List D) : Cm (some (.arr sz pin ep es)) = uU 8 es := (rfl)
@[go_sem] theorem SC : me H [] = [] := (rfl)
@[go_sem] theorem Pr (i : Nat) (r : List Nat) : me H (i :: r) = Cm H[i]? ++ me H r := by
 simp only[me,List.flatMap_cons]
 congr 1
 cases H[i]? with
 | none=>rfl
 | some o=>cases o<;>rfl
@[go_sem] theorem Yb (sel : List Nat) : reach H 0 sel = sel := (rfl)
@[go_sem] theorem Yc (n : Nat) (sel : List Nat) : reach H (n + 1) sel = reach H n (eo sel (me H sel)) := (rfl)
@[go_sem] theorem Vq : pick H [] = some [] := (rfl)
def SD(r:List Nat)(o:Obj):Option ah:=jL o (pick H r)
@[go_sem] theorem Ig (r : List Nat) (o : Obj) : SD H r o = jL o (pick H r) := (rfl)
@[go_sem] theorem FA (i : Nat) (r : List Nat) : pick H (i :: r) = H[i]?.bind (SD H r) := (rfl)
end
section
variable (f : Nat → Option Nat) (n : Nat)
@[go_sem] theorem Yd (x : T) : ren f n (.t x) = some (.t x) := by cases n <;> rfl
@[go_sem] theorem Ye : ren f n .nil = some .nil := by cases n <;> rfl
@[go_sem] theorem Vr : ren f n .nilp = some .nilp := by cases n <;> rfl
@[go_sem] theorem Yf : ren f n .und = some .und := by cases n <;> rfl
@[go_sem] theorem ZL (cs : List T) : ren f n (.ep cs) = some (.ep cs) := by cases n <;> rfl
def ZM(off:Nat)(i:Nat):D:= .bp i off
@[go_sem] theorem Yg (off i : Nat) : ZM off i = .bp i off := (rfl)
@[go_sem] theorem SE (id off : Nat) : ren f n (.bp id off) = (f id).map (ZM off) := by cases n <;> rfl
def ZN(ep m i off:Nat)(j:Nat):D:= .ap j ep m i off
@[go_sem] theorem Yh (ep m i off j : Nat) : ZN ep m i off j = .ap j ep m i off := (rfl)
@[go_sem] theorem ZO (id ep m i off : Nat) : ren f n (.ap id ep m i off) = (f id).map (ZN ep m i off) := by cases n <;> rfl
def SF(ep m:Nat)(j:Nat):D:= .ref j ep m
@[go_sem] theorem Vs (ep m j : Nat) : SF ep m j = .ref j ep m := (rfl)
@[go_sem] theorem Yi (id ep m : Nat) : ren f n (.ref id ep m) = (f id).map (SF ep m) := by cases n <;> rfl
def SG(ep m lo hi:Nat)(j:Nat):D:= .sub j ep m lo hi
@[go_sem] theorem Vt (ep m lo hi j : Nat) : SG ep m lo hi j = .sub j ep m lo hi := (rfl)
@[go_sem] theorem Yj (id ep m lo hi : Nat) : ren f n (.sub id ep m lo hi) = (f id).map (SG ep m lo hi) := by cases n <;> rfl
@[go_sem] theorem SI (g : Nat) (cs : List D) : ren f (n + 1) (.fn g cs) = (bK (ren f n) cs).map (.fn g) := (rfl)
@[go_sem] theorem Yk (cs : List D) : ren f (n + 1) (.agg cs) = (bK (ren f n) cs).map .agg := (rfl)
@[go_sem] theorem Yl (cs : List D) : ren f (n + 1) (.tup cs) = (bK (ren f n) cs).map .tup := (rfl)
@[go_sem] theorem pd (ts : List T) : bK (ren f n) (ts.map .t) = some (ts.map .t) := by
 induction ts with
 | nil=>rfl
 | cons t ts ih=>rw[List.map_cons,zg,Yd,aLq,LD,ih];rfl
@[go_sem] theorem JJ (m : Nat) (x : T) : bK (ren f n) (List.replicate m (.t x)) = some (List.replicate m (.t x)) := by
 have:List.replicate m (D.t x)=(List.replicate m x).map .t:=by simp
 rw[this,pd]
@[go_sem] theorem Dq (cs : List D) : gj f (.box cs) = (bK (ren f 8) cs).map .box := (rfl)
@[go_sem] theorem Ps (sz ep : Nat) (pin : Bool) (es : List D) : gj f (.arr sz pin ep es) = (bK (ren f 8) es).map (.arr sz pin ep) := (rfl)
end
def Pt(x:Option Nat):Bool→Option Nat
 | true=>some 0
 | false=>x.map (· +1)
@[go_sem] theorem ZP (x : Option Nat) : Pt x true = some 0 := (rfl)
@[go_sem] theorem ZQ (k : Nat) : Pt (some k) false = some (k + 1) := (rfl)
@[go_sem] theorem ZR : Pt none false = none := (rfl)
@[go_sem] theorem idxOf_nil (i : Nat) : idxOf [] i = none := (rfl)
@[go_sem] theorem idxOf_cons (j i : Nat) (r : List Nat) : idxOf (j :: r) i = Pt (idxOf r i) (eqB j i) := by
 simp only[idxOf,A5]
 by_cases h:j=i
 · simp[h,Pt]
 · simp[h,Pt]
@[go_sem] theorem Pu (n i : Nat) : dR [] n i = some (n + i) := by simp [dR]
@[go_sem] theorem Vu (j n : Nat) (r : List Nat) : dR (j :: r) n 0 = some j := by simp [dR]
@[go_sem] theorem Vv (j n i : Nat) (r : List Nat) : dR (j :: r) n (i + 1) = dR r n i := by
 simp only[dR,List.length_cons,Nat.add_lt_add_iff_right,List.getElem?_cons_succ,Nat.add_sub_add_right]
@[go_sem] theorem Mj {α : Type} (H os : List α) : cW H [] os = H := by cases os <;> rfl
@[go_sem] theorem JK {α : Type} (H : List α) (i : Nat) (r : List Nat) (o : α) (os : List α) : cW H (i :: r) (o :: os) = cW (H.set i o) r os := (rfl)
def lbP(sz:Nat)(p:List D×ah):List D×ah:=(p.1,.arr sz false 0 []::p.2)
@[go_sem] theorem ZS (sz : Nat) (cs : List D) (os : ah) : lbP sz (cs, os) = (cs, .arr sz false 0 [] :: os) := (rfl)
def lbC(base:Nat)(cs:List D)(off sz:Nat)(r:List (Nat×Nat)):Option D→List D×ah
 | some .nil=>lbP sz (bL (base+1) (cs.set off (.ref base 0 0)) r)
 | _=>bL base cs r
@[go_sem] theorem Ym (base : Nat) (cs : List D) (off sz : Nat) (r : List (Nat × Nat)) : lbC base cs off sz r (some .nil) = lbP sz (bL (base + 1) (cs.set off (.ref base 0 0)) r) := (rfl)
@[go_sem] theorem aaS (base : Nat) (cs : List D) (off sz : Nat) (r : List (Nat × Nat)) (x : T) : lbC base cs off sz r (some (.t x)) = bL base cs r := (rfl)
@[go_sem] theorem Yn (base : Nat) (cs : List D) (off sz : Nat) (r : List (Nat × Nat)) (a b c : Nat) : lbC base cs off sz r (some (.ref a b c)) = bL base cs r := (rfl)
@[go_sem] theorem JL (base : Nat) (cs : List D) (off sz : Nat) (r : List (Nat × Nat)) : bL base cs ((off, sz) :: r) = lbC base cs off sz r cs[off]? := by
 simp only[bL,lbC]
 split<;>split<;>simp_all [lbP]
def lvP(H:ah)(id:Nat)(p:List D×ah):Option (D×ah):=some (.tup [],H.set id (.box p.1)++p.2)
@[go_sem] theorem ZT (H : ah) (id : Nat) (cs : List D) (os : ah) : lvP H id (cs, os) = some (.tup [], H.set id (.box cs) ++ os) := (rfl)
def lvB(H:ah)(id:Nat)(l:List (Nat×Nat)):Option Obj→Option (D×ah)
 | some (.box cs)=>lvP H id (bL H.length cs l)
 | _=>none
@[go_sem] theorem ZU (H : ah) (id : Nat) (l : List (Nat × Nat)) (cs : List D) : lvB H id l (some (.box cs)) = lvP H id (bL H.length cs l) := (rfl)
@[go_sem] theorem Mk (H : ah) (id : Nat) (x : Nat × Nat) (r : List (Nat × Nat)) : wS H id (x :: r) = lvB H id (x :: r) H[id]? := by
 simp only[wS,mQ]
 generalize H[id]?=o
 rcases o with _ | (cs | _)
 · rfl
 · rfl
 · rfl
section
variable (H : ah)
def klE(n:Nat)(sel new:List Nat)(os:ah)(q:List Nat×ah):Option (List Nat×ah):=some (new++q.1,os++q.2)
@[go_sem] theorem ZV (n : Nat) (sel new : List Nat) (os : ah) (a : List Nat) (b : ah) : klE n sel new os (a, b) = some (new ++ a, os ++ b) := (rfl)
def klD(n:Nat)(sel new:List Nat)(os:ah):Option (List Nat×ah):=(jX H n (sel++new) (me H new)).bind (klE n sel new os)
@[go_sem] theorem ZW (n : Nat) (sel new : List Nat) (os : ah) : klD H n sel new os = (jX H n (sel ++ new) (me H new)).bind (klE n sel new os) := (rfl)
def tf(sel:List Nat):List Nat→Bool
 | []=>true
 | i::r=> !Av i sel&&tf sel r
@[go_sem] theorem Pv (sel : List Nat) : tf sel [] = true := (rfl)
@[go_sem] theorem Ml (sel : List Nat) (i : Nat) (r : List Nat) : tf sel (i :: r) = (!Av i sel && tf sel r) := (rfl)
theorem zn(sel l:List Nat):l.all (fun i=> !sel.contains i)=tf sel l:=by
 induction l with
 | nil=>rfl
 | cons i r ih=>rw[List.all_cons,ih,xR];rfl
def klC(n:Nat)(sel new:List Nat)(os:ah):Option (List Nat×ah):=
 (if n=0 then(if(os.flatMap fun o=>o.ds.flatMap (ef H depth)).all (fun i=> !(sel++new).contains i)then bK (dJ H) os else none)else some os).bind (klD H n sel new)
def q7:ah→List Nat
 | []=>[]
 | .box cs::r=>pA H 8 cs++q7 r
 | .arr _ _ _ es::r=>pA H 8 es++q7 r
@[go_sem] theorem Pw : q7 H [] = [] := (rfl)
@[go_sem] theorem Px (cs : List D) (r : ah) : q7 H (.box cs :: r) = pA H 8 cs ++ q7 H r := (rfl)
@[go_sem] theorem Py (sz ep : Nat) (pin : Bool) (es : List D) (r : ah) : q7 H (.arr sz pin ep es :: r) = pA H 8 es ++ q7 H r := (rfl)
theorem FB(os:ah):(os.flatMap fun o=>o.ds.flatMap (ef H depth))=q7 H os:=by
 induction os with
 | nil=>rfl
 | cons o r ih=>rw[List.flatMap_cons,ih];cases o<;>rfl
@[go_sem] theorem aaT (sel new : List Nat) (os : ah) : klC H 0 sel new os = (if tf (sel ++ new) (q7 H os) = true then bK (dJ H) os else none).bind (klD H 0 sel new) := by
 simp only[klC,FB,zn,if_true]
@[go_sem] theorem aaU (n : Nat) (sel new : List Nat) (os : ah) : klC H (n + 1) sel new os = klD H (n + 1) sel new os := by
 simp[klC]
def klN(n:Nat)(sel new:List Nat):Option (List Nat×ah):=(pick H new).bind (klC H n sel new)
@[go_sem] theorem ZX (n : Nat) (sel new : List Nat) : klN H n sel new = (pick H new).bind (klC H n sel new) := (rfl)
@[go_sem] theorem Vw (sel front : List Nat) : jX H 0 sel front = some ([], []) := (rfl)
@[go_sem] theorem Vx (n : Nat) (sel front : List Nat) : jX H (n + 1) sel front = klN H n sel ((eo sel front).drop sel.length) := by
 simp only[jX,klN]
 generalize (eo sel front).drop sel.length=new
 cases pick H new with
 | none=>rfl
 | some os=>
   simp only[aLq,klC]
   congr 1
   funext os'
   simp only[klD]
   cases jX H n (sel++new) (me H new)<;>rfl
@[go_sem] theorem Ih (cs : List D) : dJ H (.box cs) = (bK (pw H) cs).map .box := (rfl)
@[go_sem] theorem xT (sz ep : Nat) (pin : Bool) (ts : List T) : dJ H (.arr sz pin ep (ts.map .t)) = some (.arr sz pin ep (ts.map .t)) := by
 simp only[dJ,qZ,aLw]
@[go_sem] theorem Ii (sz ep : Nat) (pin : Bool) : dJ H (.arr sz pin ep []) = some (.arr sz pin ep []) := (rfl)
@[go_sem] theorem Ij (sz ep : Nat) (pin : Bool) (m : Nat) (x : T) : dJ H (.arr sz pin ep (List.replicate m (.t x))) = some (.arr sz pin ep (List.replicate m (.t x))) := by
 have:List.replicate m (D.t x)=(List.replicate m x).map .t:=by simp
 rw[this,xT]
def Yo(k raw:Nat)(H:ah)(ds rs:List D)(q:List Nat×ah):Option (D×ah):=
 if tf (List.range k++q.1) (gW H raw ds)=true then
  (bK (ren (idxOf (List.range k++q.1)) depth) rs).bind fun rs'=>(bK (gj (idxOf (List.range k++q.1))) (H.take k++q.2)).map fun hs'=>(qB rs',hs')
 else none
def FC(sel:List Nat)(H2:ah)(rs':List D):Option (D×ah):=(bK (gj (idxOf sel)) H2).bind (finT3 rs')
where finT3 (rs':List D) (hs:ah):Option (D×ah):=some (qB rs',hs)
@[go_sem] theorem Vy (rs' : List D) (hs : ah) : FC.finT3 rs' hs = some (qB rs', hs) := (rfl)
@[go_sem] theorem Vz (sel : List Nat) (H2 : ah) (rs' : List D) : FC sel H2 rs' = (bK (gj (idxOf sel)) H2).bind (FC.finT3 rs') := (rfl)
@[go_sem] theorem Yp (k raw : Nat) (ds rs : List D) (sel : List Nat) (os : ah) : Yo k raw H ds rs (sel, os) =
 if tf (List.range k++sel) (gW H raw ds)=true then(bK (ren (idxOf (List.range k++sel)) 8) rs).bind (FC (List.range k++sel) (H.take k++os))else none:=by
 simp only[Yo,depth]
 split
 · cases bK (ren (idxOf (List.range k++sel)) 8) rs with
   | none=>rfl
   | some rs'=>simp only[aLq,FC];cases bK (gj (idxOf (List.range k++sel))) (H.take k++os)<;>rfl
 · rfl
@[go_sem] theorem Yq (k raw : Nat) (ds rs : List D) : Vh k raw H ds rs = (jX H (max raw 1) (List.range k) (uU 8 rs ++ me H (List.range k))).bind (Yo k raw H ds rs) := by
 simp only[Vh,zn,uU,depth];rfl
@[go_sem] theorem Pz (k raw : Nat) (ds rs : List D) : Pj k raw H ds rs false = Vh k raw H ds rs := (rfl)
@[go_sem] theorem PA (k raw : Nat) (ds : List D) : finish k (raw + 1) H ds = Sl k (raw + 1) H ds ds := by
 simp only[finish,Nat.add_one_ne_zero,if_false,aLq,kz,Ch,Sl,Pj]
 show(if(fL k 8 ds&&fe k (H.take k))=true then _ else _)=_
 cases (fL k 8 ds&&fe k (H.take k))<;>rfl
@[go_sem] theorem Mm (raw : Nat) (ds : List D) : gW H (raw + 1) ds = [] := by simp [gW]
@[go_sem] theorem VA : max 0 1 = 1 := (rfl)
@[go_sem] theorem Yr (r : Nat) : max (r + 1) 1 = r + 1 := by omega
@[go_sem] theorem PB : List.range 0 = [] := (rfl)
@[go_sem] theorem PC : List.range 1 = [0] := (rfl)
@[go_sem] theorem PD : List.range 2 = [0, 1] := (rfl)
@[go_sem] theorem PE : List.range 3 = [0, 1, 2] := (rfl)
@[go_sem] theorem PF : List.range 4 = [0, 1, 2, 3] := (rfl)
end
theorem Cn{α:Type}(f:α→T)(l:List α)(i:Nat)(x:α)(y:D)(h:y= .t (f x)):((l.map f).map D.t).set i y=((l.set i x).map f).map D.t:=by
 rw[h,List.map_map,List.map_map]
 exact(List.map_set (f:=D.t ∘ f)).symm
@[go_sem] theorem Ys (l : List Int) (i : Nat) (k : IntKind) (x : Int) : ((l.map (T.int k)).map D.t).set i (.t (.int k x)) = ((l.set i x).map (T.int k)).map D.t := Cn _ l i x _ rfl
@[go_sem] theorem VB (l : List Bool) (i : Nat) (x : Bool) : ((l.map T.bool).map D.t).set i (.t (.bool x)) = ((l.set i x).map T.bool).map D.t := Cn _ l i x _ rfl
end Go.Ev
namespace Go.Ev
class Lib where
 fs:Nat→Option Fn
end Go.Ev
namespace Go.Ev.K
abbrev u(x:O):R:={ o:=x}
abbrev w(n:Nat)(x:O):R:={ o:=x,d:=some n}
abbrev y(n:Nat)(b:Bool)(x:O):R:={ o:=x,g:=some (n,b)}
abbrev m(x:X):R:={ o:= .mv x}
abbrev g(x:X):R:={ o:= .ld x 1 false}
abbrev h(n:Nat)(x:X):R:={ o:= .ld x n true}
abbrev f(n:Nat)(x:X):R:={ o:= .fa x n}
abbrev a(n:Nat)(x z:X):R:={ o:= .ia x z n}
abbrev l0:X:= .l 0
abbrev l1:X:= .l 1
abbrev l2:X:= .l 2
abbrev l3:X:= .l 3
abbrev l4:X:= .l 4
abbrev l5:X:= .l 5
abbrev l6:X:= .l 6
abbrev l7:X:= .l 7
abbrev l8:X:= .l 8
abbrev l9:X:= .l 9
abbrev l10:X:= .l 10
abbrev l11:X:= .l 11
abbrev v0:X:= .v 0
abbrev v1:X:= .v 1
abbrev v2:X:= .v 2
abbrev v3:X:= .v 3
abbrev v4:X:= .v 4
abbrev v5:X:= .v 5
abbrev v6:X:= .v 6
abbrev v7:X:= .v 7
abbrev v8:X:= .v 8
abbrev v9:X:= .v 9
abbrev v10:X:= .v 10
abbrev v11:X:= .v 11
abbrev v12:X:= .v 12
abbrev v13:X:= .v 13
abbrev v14:X:= .v 14
abbrev v15:X:= .v 15
abbrev v16:X:= .v 16
abbrev v17:X:= .v 17
abbrev v18:X:= .v 18
abbrev v19:X:= .v 19
abbrev v20:X:= .v 20
abbrev v21:X:= .v 21
abbrev v22:X:= .v 22
abbrev v23:X:= .v 23
end Go.Ev.K
namespace Go.Ev.K
abbrev q(a:List R)(p:List (Nat×Nat))(c:C):C:= .seq (.reg a p) c
abbrev z0:D:= .t (.int .i64 (0))
abbrev z1:D:= .t (.bool false)
abbrev x(n:Nat)(z:X):R:={ o:= .mv z,d:=some n}
abbrev e(n:Nat)(b:Bool)(z:X):R:={ o:= .mv z,g:=some (n,b)}
abbrev i(n:Nat)(b:Bool)(z:X):R:={ o:= .ld z 1 false,g:=some (n,b)}
end Go.Ev.K
namespace Go.Ev.N
def A7:Nat:=0
def gB:Nat:=1
def Mn:Nat:=2
def iJ:Nat:=3
def G6:Nat:=4
def PG:Nat:=5
def En:Nat:=6
def FD:Nat:=7
def Eo:Nat:=8
def bP:Nat:=9
def JM:Nat:=10
def Dr:Nat:=11
def gY:Nat:=12
def G7:Nat:=13
def FE:Nat:=14
def Ik:Nat:=15
def G8:Nat:=16
def Mo:Nat:=17
def JN:Nat:=18
def dj:Nat:=19
def bh:Nat:=20
def SJ:Nat:=21
def JO:Nat:=22
def iQ:Nat:=23
def JP:Nat:=24
def FF:Nat:=25
def G9:Nat:=26
def Hc:Nat:=27
def dk:Nat:=28
def Mp:Nat:=29
def SK:Nat:=30
def Mq:Nat:=31
def PH:Nat:=32
def Mr:Nat:=33
def JQ:Nat:=34
def dK:Nat:=35
def dD:Nat:=36
def eC:Nat:=37
def cX:Nat:=38
def bG:Nat:=39
def gC:Nat:=40
def dE:Nat:=41
def gD:Nat:=42
def Ms:Nat:=43
def dL:Nat:=44
def SL:Nat:=45
def JR:Nat:=46
def dY:Nat:=47
def Hd:Nat:=48
def aG:Nat:=49
def Dt:Nat:=50
def aR:Nat:=51
def Ep:Nat:=52
def er:Nat:=53
def fM:Nat:=54
def PI:Nat:=55
def et:Nat:=56
def fy:Nat:=57
def eH:Nat:=58
def fN:Nat:=59
def eI:Nat:=60
def fO:Nat:=61
def bQ:Nat:=62
def fP:Nat:=63
def Mt:Nat:=64
def eJ:Nat:=65
def a8:Nat:=66
def bq:Nat:=67
def dv:Nat:=68
def aK:Nat:=69
def cJ:Nat:=70
def cK:Nat:=71
def dF:Nat:=72
def cY:Nat:=73
def fQ:Nat:=74
def aO:Nat:=75
def bY:Nat:=76
def gE:Nat:=77
end Go.Ev.N
namespace Go.Ev.K
open Go.Ev
def gB:Fn:= { aY:=1,vars:=[0,2],body:=(q [x 1 (.b false)] [] (q [m v0,u (.ln l0),u (.bin .leq l0 (.i 400)),x 1 l0] [] .ret)),res:=[(1,none)]}
def iJ:Fn:= { aY:=1,vars:=[0,2],body:=(q [w 1 (.mv (.c (.nilp)))] [] (q [m v0,u (.bd [.nil,z0] [(0,1,.l 0)]),u (.bx l0 2),x 1 l0] [] .ret)),res:=[(1,none)]}
def bP:Fn:= { aY:=2,vars:=[0,1,4],body:=(q [x 2 (.i 0)] [] (.seq (.ite [m v0,u (.nc l0),f 1 l0,g l0,m v0,u (.nc l0),f 0 l0,g l0,u (.ln l0),u (.bin .geq l5 l0)] [] 0 (q [x 2 (.i 0)] [] .ret) .skip) (q [m v0,u (.nc l0),f 1 l0,g l0,u (.bin .add l0 (.i 1)),u (.nc l4),f 1 l0,u (.st l0 l2 1 [])] [] (q [m v0,u (.nc l0),f 0 l0,g l0,m v0,u (.nc l0),f 1 l0,g l0,u (.bin .sub l0 (.i 1)),a 1 l5 l0,g l0,m v1,u (.ca N.iQ 0 [] [.l 1,.l 0]),x 2 l0] [] .ret)))),res:=[(2,none)]}
def ku:C:= (.seq (.ite [m v3,m v0,u (.ln l0),u (.bin .lss l2 l0)] [] 0 .skip (.exit 0)) (.seq (.blk 1 (.ite [m v0,m v3,a 1 l1 l0,g l0,m v1,u (.bin .eql l1 l0)] [] 0 (q [x 2 (.b true)] [] .ret) .skip)) (.reg [m v3,u (.bin .add l0 (.i 1)),x 3 l0] [])))
def th:C:= .loop true [2] K.ku
def gY:Fn:= { aY:=2,vars:=[0,1,4,5],body:=(q [x 2 (.b false)] [] (.seq (q [x 3 (.i 0)] [] (.blk 0 K.th)) (q [x 2 (.b false)] [] .ret))),res:=[(2,none)]}
def jm:C:= (.seq (.ite [m v8,m v1,u (.ln l0),u (.bin .lss l2 l0)] [] 0 .skip (.exit 0)) (.seq (.blk 1 (q [w 9 (.al [z0,.nil] []),h 2 v4,m v2,m v8,a 1 l1 l0,g l0,m v3,u (.ca N.dD 0 [] [.l 5,.l 1,.l 0]),m l0,u (.ex l0 0),u (.ex l1 1),u (.st l10 l1 2 []),x 10 l1] [(0,8)] (.seq (.ite [m v10,u (.bin .neq l0 (.i 0))] [] 0 (q [u (.bd [.nil] []),m v10,u (.st v5 l1 1 []),x 6 l1] [] .ret) .skip) (.reg [f 1 v7,g l0,h 2 v9,u (.bs [.l 0] 2),u (.app l2 l0 true 2),f 1 v7,u (.st l0 l1 1 [])] [])))) (.reg [m v8,u (.bin .add l0 (.i 1)),x 8 l0] [])))
def pL:C:= .loop true [0,6,9,10] K.jm
def dj:Fn:= { aY:=4,vars:=[0,1,2,3,4,8,9,10,11,12,13],body:=(q [w 4 (.bx v0 2),w 5 (.al [.nil] []),x 6 (.i 0)] [] (.seq (.ite [h 2 v4,u (.ca N.dk 0 [] [.l 0]),u (.bin .neq l0 (.i 0)),m l0,e 0 false v1,y 1 false (.ln l0),e 2 false v2,y 3 false (.ln l0),y 4 false (.bin .neq l2 l0),u (.pk l5 (.b true) l0),m l0,e 0 false v1,y 1 false (.ln l0),y 2 false (.bin .lss l0 (.i 1)),u (.pk l3 (.b true) l0),m l0,e 0 false v1,y 1 false (.ln l0),y 2 false (.bin .gtr l0 (.i 12)),u (.pk l3 (.b true) l0)] [] 0 (q [u (.bd [.nil] []),u (.st v5 l0 1 []),x 6 (.i 6)] [] .ret) .skip) (.seq (.ite [m v1,u (.ca N.dK 0 [] [.l 0]),u (.un .not l0)] [] 0 (q [u (.bd [.nil] []),u (.st v5 l0 1 []),x 6 (.i 41)] [] .ret) .skip) (q [m v1,u (.app (.c (.nil)) l0 true 1),u (.bd [.nil,.nil] [(0,1,.l 0)]),w 7 (.al [.nil,.nil] [(1,2)]),u (.st l0 l1 2 [(1,2)])] [] (.seq (q [x 8 (.i 0)] [] (.blk 0 K.pL)) (q [h 2 v7,u (.bs [.l 0] 2),u (.bd [.nil] [(0,1,.l 0)]),u (.st v5 l0 1 []),x 6 (.i 0)] [] .ret)))))),res:=[(5,some (1,true)),(6,none)]}
def fp:C:= (.seq (.ite [m v11,f 0 v6,g l0,u (.ln l0),u (.bin .lss l3 l0)] [] 0 .skip (.exit 0)) (.seq (.blk 1 (q [f 0 v6,g l0,m v11,a 2 l1 l0,h 2 l0,u (.ca N.bG 1 [] [.l 0]),w 12 (.al [.nil,.nil] []),u (.st l0 l1 2 [])] [] (.seq (.ite [f 1 v12,g l0,m v2,a 2 l1 l0,h 2 l0,f 1 v12,g l0,m v3,a 2 l1 l0,h 2 l0,m v4,u (.ca N.gC 0 [] [.l 6,.l 1,.l 0]),u (.un .not l0)] [] 0 (.exit 1) .skip) (q [f 0 v12,g l0,m v2,f 0 v12,g l0,m v3,f 0 v12,g l0,m v3,a 1 l1 l0,g l0,f 0 v12,g l0,m v2,a 1 l1 l0,g l0,a 1 (.l 14) (.l 13),u (.st l0 l6 1 []),a 1 (.l 13) (.l 12),u (.st l0 l3 1 [])] [(4,18)] (q [f 1 v12,g l0,m v2,f 1 v12,g l0,m v2,a 2 l1 l0,h 2 l0,m v4,u (.ca N.dE 0 [] [.l 1,.l 0]),m l0,u (.ex l0 0),u (.ex l1 1),a 2 l11 l10,u (.st l0 l2 2 [])] [(1,10)] (q [f 1 v12,g l0,m v3,f 1 v12,g l0,m v3,a 2 l1 l0,h 2 l0,m v4,u (.ca N.dE 0 [] [.l 1,.l 0]),m l0,u (.ex l0 0),u (.ex l1 1),a 2 l11 l10,u (.st l0 l2 2 [])] [(1,10)] (.reg [m v10,h 2 v12,u (.bs [.l 0] 2),u (.app l2 l0 true 2),x 10 l0] []))))))) (.reg [m v11,u (.bin .add l0 (.i 1)),x 11 l0] [])))
def mq:C:= .loop true [0,1,5,8,9,12] K.fp
def bh:Fn:= { aY:=5,vars:=[0,1,2,3,4,5,6,10,11,12,13,14,15],body:=(q [w 5 (.bx v0 2),w 6 (.bx v1 1),w 7 (.al [.nil] []),x 8 (.i 0)] [] (q [h 1 v6,u (.ca N.eC 0 [] [.l 0]),u (.st v6 l0 1 [])] [] (.seq (.ite [h 2 v5,h 1 v6,u (.ca N.cX 0 [] [.l 1,.l 0]),u (.un .not l0)] [] 0 (q [h 1 v6,u (.st v7 l0 1 []),x 8 (.i 6)] [] .ret) .skip) (q [f 0 v6,g l0,a 2 l0 (.i 0),f 0 l0,g l0,u (.ln l0),x 9 l0] [] (.seq (.ite [m v2,u (.bin .lss l0 (.i 0)),m l0,e 0 false v2,e 1 false v9,y 2 false (.bin .geq l1 l0),u (.pk l3 (.b true) l0),m l0,e 0 false v3,y 1 false (.bin .lss l0 (.i 0)),u (.pk l2 (.b true) l0),m l0,e 0 false v3,e 1 false v9,y 2 false (.bin .geq l1 l0),u (.pk l3 (.b true) l0),m l0,e 0 false v2,e 1 false v3,y 2 false (.bin .eql l1 l0),u (.pk l3 (.b true) l0)] [] 0 (q [h 1 v6,u (.st v7 l0 1 []),x 8 (.i 19)] [] .ret) .skip) (.seq (.ite [m v4,u (.bin .lss l0 (.i 0)),m l0,e 0 false v4,y 1 false (.bin .gtr l0 (.i 2147483648)),u (.pk l2 (.b true) l0)] [] 0 (q [h 1 v6,u (.st v7 l0 1 []),x 8 (.i 8)] [] .ret) .skip) (q [h 1 v6,u (.ca N.eC 1 [] [.l 0]),u (.fl l0 0 1 false),x 10 l0] [] (.seq (q [x 11 (.i 0)] [] (.blk 0 K.mq)) (q [m v10,u (.ca N.gD 1 [] [.l 0]),x 10 l0] [] (.seq (.ite [m v10,u (.ln l0),u (.bin .gtr l0 (.i 24))] [] 0 (q [h 1 v6,u (.st v7 l0 1 []),x 8 (.i 44)] [] .ret) .skip) (q [m v10,u (.bd [.nil] [(0,1,.l 0)]),u (.st v7 l0 1 []),x 8 (.i 0)] [] .ret))))))))))),res:=[(7,some (1,true)),(8,none)]}
def iQ:Fn:= { aY:=2,vars:=[0,1,4],body:=(q [x 2 (.i 0)] [] (.seq (.ite [m v1,u (.bin .lss l0 (.i 1))] [] 0 (q [x 2 (.i 0)] [] .ret) .skip) (q [m v0,m v1,u (.bin .rem l1 l0),x 0 l0] [] (.seq (.ite [m v0,u (.bin .lss l0 (.i 0))] [] 0 (.reg [m v0,m v1,u (.bin .add l1 l0),x 0 l0] []) .skip) (q [m v0,x 2 l0] [] .ret))))),res:=[(2,none)]}
def kF:C:= (.seq (.ite [m v3,f 0 v1,g l0,u (.ln l0),u (.bin .lss l3 l0)] [] 0 .skip (.exit 0)) (.seq (.blk 1 (q [f 0 v1,g l0,m v3,a 2 l1 l0,f 0 l0,g l0,x 4 l0] [] (.ite [m v4,u (.bin .lss l0 (.i (-10000))),m l0,e 0 false v4,y 1 false (.bin .gtr l0 (.i 10000)),u (.pk l2 (.b true) l0)] [] 0 (q [x 2 (.i 1)] [] .ret) .skip))) (.reg [m v3,u (.bin .add l0 (.i 1)),x 3 l0] [])))
def pM:C:= .loop true [0,2,4,5,6] K.kF
def kG:C:= (.seq (.ite [m v5,f 1 v1,g l0,u (.ln l0),u (.bin .lss l3 l0)] [] 0 .skip (.exit 2)) (.seq (.blk 3 (q [f 1 v1,g l0,m v5,a 10 l1 l0,h 10 l0,w 6 (.al [z0,z0,z0,z0,z1,z1,z0,z0,z0,z0] []),u (.st l0 l1 10 [])] [] (.seq (.ite [f 0 v6,g l0,u (.bin .lss l0 (.i 0)),m l0,y 0 false (.fa v6 0),i 1 false l0,y 2 false (.fa v1 0),i 3 false l0,y 4 false (.ln l0),y 5 false (.bin .geq l3 l0),u (.pk l6 (.b true) l0),m l0,y 0 false (.fa v6 1),i 1 false l0,y 2 false (.bin .lss l0 (.i 0)),u (.pk l3 (.b true) l0),m l0,y 0 false (.fa v6 1),i 1 false l0,y 2 false (.fa v1 0),i 3 false l0,y 4 false (.ln l0),y 5 false (.bin .geq l3 l0),u (.pk l6 (.b true) l0),m l0,y 0 false (.fa v6 0),i 1 false l0,y 2 false (.fa v6 1),i 3 false l0,y 4 false (.bin .eql l2 l0),u (.pk l5 (.b true) l0)] [] 0 (q [x 2 (.i 4)] [] .ret) .skip) (.ite [f 2 v6,g l0,u (.bin .lss l0 (.i 1)),m l0,y 0 false (.fa v6 2),i 1 false l0,y 2 false (.bin .gtr l0 (.i 100000)),u (.pk l3 (.b true) l0),m l0,y 0 false (.fa v6 3),i 1 false l0,y 2 false (.bin .lss l0 (.i 1)),u (.pk l3 (.b true) l0),m l0,y 0 false (.fa v6 3),i 1 false l0,y 2 false (.bin .gtr l0 (.i 1000)),u (.pk l3 (.b true) l0),m l0,y 0 false (.fa v6 6),y 1 false (.ld l0 2 true),y 2 false (.ca N.fM 0 [] [.l 0,.i 1,.i 262144]),y 3 false (.un .not l0),u (.pk l4 (.b true) l0),m l0,y 0 false (.fa v6 8),y 1 false (.ld l0 2 true),y 2 false (.ca N.fM 0 [] [.l 0,.i (-2199023255552),.i 2199023255552]),y 3 false (.un .not l0),u (.pk l4 (.b true) l0)] [] 0 (q [x 2 (.i 1)] [] .ret) .skip)))) (.reg [m v5,u (.bin .add l0 (.i 1)),x 5 l0] [])))
def pN:C:= .loop true [0,2,3,4,6] K.kG
def dk:Fn:= { aY:=1,vars:=[0,1,2,3,4,5,6],body:=(q [w 1 (.bx v0 2),x 2 (.i 0)] [] (.seq (.ite [f 0 v1,g l0,u (.ln l0),u (.bin .gtr l0 (.i 64)),m l0,y 0 false (.fa v1 1),i 1 false l0,y 2 false (.ln l0),y 3 false (.bin .gtr l0 (.i 128)),u (.pk l4 (.b true) l0)] [] 0 (q [x 2 (.i 2)] [] .ret) .skip) (.seq (q [x 3 (.i 0)] [] (.blk 0 K.pM)) (.seq (q [x 5 (.i 0)] [] (.blk 2 K.pN)) (q [x 2 (.i 0)] [] .ret))))),res:=[(2,none)]}
def fm:C:= (.seq (.ite [m v2,m v0,u (.ln l0),u (.bin .lss l2 l0)] [] 0 .skip (.exit 0)) (.seq (.blk 1 (.ite [m v0,m v2,a 1 l1 l0,g l0,u (.bin .lss l0 (.i 1)),m l0,e 0 false v0,e 1 false v2,y 2 false (.ia l1 l0 1),i 3 false l0,y 4 false (.bin .gtr l0 (.i 65535)),u (.pk l5 (.b true) l0),m l0,e 0 false v0,e 1 false v2,y 2 false (.sc l1 none (some l0) 1),e 3 false v0,e 4 false v2,y 5 false (.ia l1 l0 1),i 6 false l0,y 7 false (.ca N.dL 0 [] [.l 4,.l 0]),y 8 false (.bin .geq l0 (.i 0)),u (.pk l9 (.b true) l0)] [] 0 (q [x 1 (.b false)] [] .ret) .skip)) (.reg [m v2,u (.bin .add l0 (.i 1)),x 2 l0] [])))
def om:C:= .loop true [1] K.fm
def dK:Fn:= { aY:=1,vars:=[0,2,3],body:=(q [x 1 (.b false)] [] (.seq (q [x 2 (.i 0)] [] (.blk 0 K.om)) (q [x 1 (.b true)] [] .ret))),res:=[(1,none)]}
def dD:Fn:= { aY:=3,vars:=[0,1,2,3,6,7,8],body:=(q [w 3 (.bx v0 2),w 4 (.al [z0,.nil] []),x 5 (.i 0)] [] (.seq (.blk 0 (.ite [h 2 v3,u (.ca N.dk 0 [] [.l 0]),u (.bin .neq l0 (.i 0)),m l0] [] 0 (q [u (.bd [z0,.nil] []),u (.st v4 l0 2 []),x 5 (.i 6)] [] .ret) (.ite [m v1,u (.bin .lss l0 (.i 0)),m l0,e 0 false v1,y 1 false (.fa v3 0),i 2 false l0,y 3 false (.ln l0),y 4 false (.bin .geq l3 l0),u (.pk l5 (.b true) l0),m l0] [] 0 (q [u (.bd [z0,.nil] []),u (.st v4 l0 2 []),x 5 (.i 3)] [] .ret) (.ite [m v2,u (.ca N.et 0 [] [.l 0]),u (.un .not l0),m l0] [] 0 (q [u (.bd [z0,.nil] []),u (.st v4 l0 2 []),x 5 (.i 8)] [] .ret) .skip)))) (q [f 0 v3,g l0,u (.ln l0),u (.ca N.fy 1 [] [.l 0]),x 6 l0] [] (q [m v6,m v1,m v2,a 1 l2 l1,u (.st l0 l1 1 [])] [] (q [m v2,h 2 v3,m v6,m v2,u (.ca N.eH 0 [] [.l 2,.l 1,.l 0]),u (.bd [z0,.nil] [(0,1,.l 4),(1,1,.l 0)]),u (.st v4 l0 2 []),x 5 (.i 0)] [] .ret))))),res:=[(4,some (2,true)),(5,none)]}
end Go.Ev.K
namespace Go.Ev
class cH [Lib]:Prop where
 oo:Lib.fs N.gB=some K.gB
 qg:Lib.fs N.iJ=some K.iJ
 j9:Lib.fs N.bP=some K.bP
 qh:Lib.fs N.gY=some K.gY
 m0:Lib.fs N.dj=some K.dj
 ka:Lib.fs N.bh=some K.bh
 sr:Lib.fs N.iQ=some K.iQ
 m5:Lib.fs N.dk=some K.dk
 lG:Lib.fs N.dK=some K.dK
 m6:Lib.fs N.dD=some K.dD
namespace K
variable [Lib] [cH]
theorem oo:Lib.fs N.gB=some K.gB:=cH.oo
theorem qg:Lib.fs N.iJ=some K.iJ:=cH.qg
theorem j9:Lib.fs N.bP=some K.bP:=cH.j9
theorem qh:Lib.fs N.gY=some K.gY:=cH.qh
theorem m0:Lib.fs N.dj=some K.dj:=cH.m0
theorem ka:Lib.fs N.bh=some K.bh:=cH.ka
theorem sr:Lib.fs N.iQ=some K.iQ:=cH.sr
theorem m5:Lib.fs N.dk=some K.dk:=cH.m5
theorem lG:Lib.fs N.dK=some K.dK:=cH.lG
theorem m6:Lib.fs N.dD=some K.dD:=cH.m6
end K
end Go.Ev
namespace Go.Ev.K
open Go.Ev
def lH:C:= (.seq (.ite [m v4,f 0 v1,g l0,u (.ln l0),u (.bin .lss l3 l0)] [] 0 .skip (.exit 0)) (.seq (.blk 1 (.reg [f 0 v3,g l0,f 0 v1,g l0,m v4,a 2 l1 l0,h 2 l0,u (.ca N.bG 0 [] [.l 0]),u (.bs [.l 0] 2),u (.app l7 l0 true 2),f 0 v3,u (.st l0 l1 1 [])] [(1,8),(1,9)])) (.reg [m v4,u (.bin .add l0 (.i 1)),x 4 l0] [])))
def q8:C:= .loop true [0] K.lH
def eC:Fn:= { aY:=1,vars:=[0,1,2,3,4],body:=(q [w 1 (.bx v0 1),w 2 (.al [.nil] [])] [] (q [w 3 (.al [.nil] [(0,2)])] [] (.seq (q [x 4 (.i 0)] [] (.blk 0 K.q8)) (q [h 1 v3,u (.st v2 l0 1 [])] [] .ret)))),res:=[(2,some (1,true))]}
def fR:C:= (.seq (.ite [m v8,f 0 v7,g l0,u (.ln l0),u (.bin .lss l3 l0)] [] 0 .skip (.exit 2)) (.seq (.blk 3 (.ite [m v5,f 0 v7,g l0,m v8,a 1 l1 l0,g l0,u (.ca N.dL 0 [] [.l 5,.l 0]),u (.bin .lss l0 (.i 0)),m l0,y 0 false (.ld v2 2 true),y 1 false (.fa v7 1),i 2 false l0,e 3 false v8,y 4 false (.ia l1 l0 2),y 5 false (.ld l0 2 true),y 6 false (.ca N.eI 0 [] [.l 5,.l 0]),y 7 false (.un .not l0),u (.pk l8 (.b true) l0)] [] 0 (q [x 4 (.b false)] [] .ret) .skip)) (.reg [m v8,u (.bin .add l0 (.i 1)),x 8 l0] [])))
def lI:C:= .loop true [0,1,4] K.fR
def bM:C:= (.seq (.ite [m v6,f 0 v3,g l0,u (.ln l0),u (.bin .lss l3 l0)] [] 0 .skip (.exit 0)) (.seq (.blk 1 (q [f 0 v3,g l0,m v6,a 2 l1 l0,h 2 l0,w 7 (.al [.nil,.nil] []),u (.st l0 l1 2 [])] [] (.seq (.ite [f 0 v7,g l0,u (.ln l0),m v5,u (.ln l0),u (.bin .neq l2 l0),m l0,y 0 false (.fa v7 1),i 1 false l0,y 2 false (.ln l0),e 3 false v5,y 4 false (.ln l0),y 5 false (.bin .neq l2 l0),u (.pk l6 (.b true) l0),m l0,y 0 false (.fa v7 0),i 1 false l0,y 2 false (.ca N.dK 0 [] [.l 0]),y 3 false (.un .not l0),u (.pk l4 (.b true) l0),m l0,e 0 false v6,y 1 false (.bin .gtr l0 (.i 0)),e 2 false l0,y 0 true (.fa v3 0),i 1 true l0,e 2 true v6,y 3 true (.bin .sub l0 (.i 1)),y 4 true (.ia l2 l0 2),y 5 true (.fa l0 0),i 6 true l0,y 7 true (.fa v7 0),i 8 true l0,y 9 true (.ca N.fN 0 [] [.l 2,.l 0]),y 10 true (.un .not l0),y 14 false (.pk l11 l0 (.b false)),u (.pk (.l 15) (.b true) l0)] [] 0 (q [x 4 (.b false)] [] .ret) .skip) (q [x 8 (.i 0)] [] (.blk 2 K.lI))))) (.reg [m v6,u (.bin .add l0 (.i 1)),x 6 l0] [])))
def lJ:C:= .loop true [0,1,4,7,8] K.bM
def cX:Fn:= { aY:=2,vars:=[0,1,2,3,4,5,6,7,8],body:=(q [w 2 (.bx v0 2),w 3 (.bx v1 1),x 4 (.b false)] [] (.seq (.ite [f 0 v3,g l0,u (.ln l0),u (.bin .lss l0 (.i 1)),m l0,y 0 false (.fa v3 0),i 1 false l0,y 2 false (.ln l0),y 3 false (.bin .gtr l0 (.i 24)),u (.pk l4 (.b true) l0),m l0,y 0 false (.ld v2 2 true),y 1 false (.ca N.dk 0 [] [.l 0]),y 2 false (.bin .neq l0 (.i 0)),u (.pk l3 (.b true) l0)] [] 0 (q [x 4 (.b false)] [] .ret) .skip) (q [f 0 v3,g l0,a 2 l0 (.i 0),f 0 l0,g l0,x 5 l0] [] (.seq (.ite [m v5,u (.ln l0),u (.bin .lss l0 (.i 1)),m l0,e 0 false v5,y 1 false (.ln l0),y 2 false (.bin .gtr l0 (.i 12)),u (.pk l3 (.b true) l0)] [] 0 (q [x 4 (.b false)] [] .ret) .skip) (.seq (q [x 6 (.i 0)] [] (.blk 0 K.lJ)) (q [x 4 (.b true)] [] .ret)))))),res:=[(4,none)]}
def iW:C:= (.seq (.ite [m v4,f 1 v1,g l0,u (.ln l0),u (.bin .lss l3 l0)] [] 0 .skip (.exit 0)) (.seq (.blk 1 (.reg [f 1 v3,g l0,f 1 v1,g l0,m v4,a 2 l1 l0,h 2 l0,u (.ca N.fO 0 [] [.l 0]),u (.bs [.l 0] 2),u (.app l7 l0 true 2),f 1 v3,u (.st l0 l1 1 [])] [(1,8),(1,9)])) (.reg [m v4,u (.bin .add l0 (.i 1)),x 4 l0] [])))
def lq:C:= .loop true [0] K.iW
def bG:Fn:= { aY:=1,vars:=[0,1,2,3,4],body:=(q [w 1 (.bx v0 2),w 2 (.al [.nil,.nil] [])] [] (q [f 0 v1,g l0,u (.app (.c (.nil)) l0 true 1),u (.bd [.nil,.nil] [(0,1,.l 0)]),w 3 (.al [.nil,.nil] [(1,2)]),u (.st l0 l1 2 [(1,2)])] [] (.seq (q [x 4 (.i 0)] [] (.blk 0 K.lq)) (q [h 2 v3,u (.st v2 l0 2 [])] [] .ret)))),res:=[(2,some (2,true))]}
def gF:C:= (.seq (.ite [m v6,f 1 v3,g l0,u (.ln l0),u (.bin .lss l3 l0),m l0,e 0 true v6,y 1 true (.fa v4 1),i 2 true l0,y 3 true (.ln l0),y 4 true (.bin .lss l3 l0),u (.pk l5 l0 (.b false))] [] 0 .skip (.exit 0)) (.seq (.blk 1 (.ite [f 1 v3,g l0,m v6,a 1 l1 l0,g l0,m v2,u (.bin .leq l1 l0),m l0,y 0 true (.fa v4 1),i 1 true l0,e 2 true v6,y 3 true (.ia l1 l0 1),i 4 true l0,e 5 true v2,y 6 true (.bin .leq l1 l0),u (.pk l7 l0 (.b false))] [] 0 (q [x 5 (.b true)] [] .ret) .skip)) (.reg [m v6,u (.bin .add l0 (.i 1)),x 6 l0] [])))
def q9:C:= .loop true [0,1,5] K.gF
def gC:Fn:= { aY:=3,vars:=[0,1,2,3,4,6,7],body:=(q [w 3 (.bx v0 2),w 4 (.bx v1 2),x 5 (.b false)] [] (.seq (q [x 6 (.i 0)] [] (.blk 0 K.q9)) (q [x 5 (.b false)] [] .ret))),res:=[(5,none)]}
def dE:Fn:= { aY:=2,vars:=[0,1,2,4,5],body:=(q [w 2 (.bx v0 2),w 3 (.al [z0,.nil] []),x 4 (.i 0)] [] (q [h 2 v2,u (.ca N.fO 0 [] [.l 0]),u (.st v2 l0 2 [])] [] (.seq (.ite [m v1,f 0 v2,g l0,u (.bin .lss l2 l0),m l0,e 0 false v1,y 1 false (.bin .gtr l0 (.i 2147483648)),u (.pk l2 (.b true) l0)] [] 0 (q [h 2 v2,u (.st v3 l0 2 []),x 4 (.i 8)] [] .ret) .skip) (q [m v1,f 0 v2,u (.st l0 l1 1 [])] [] (q [h 2 v2,u (.st v3 l0 2 []),x 4 (.i 0)] [] .ret))))),res:=[(3,some (2,true)),(4,none)]}
def iK:C:= (.seq (.ite [m v4,m v2,u (.ln l0),u (.bin .lss l2 l0),m l0,e 0 true v2,e 1 true v4,y 2 true (.ia l1 l0 2),y 3 true (.fa l0 0),i 4 true l0,e 5 true v0,e 6 true v3,y 7 true (.ia l1 l0 2),y 8 true (.fa l0 0),i 9 true l0,y 10 true (.ca N.fN 0 [] [.l 5,.l 0]),u (.pk l11 l0 (.b false))] [] 0 .skip (.exit 2)) (.blk 3 (.reg [m v4,u (.bin .add l0 (.i 1)),x 4 l0] [])))
def m7:C:= .loop false [1,5] K.iK
def jW:C:= (.seq (.ite [m v5,m v2,m v4,a 2 l1 l0,f 1 l0,g l0,u (.ln l0),u (.bin .lss l6 l0),m l0,e 0 true v5,e 1 true v0,e 2 true v3,y 3 true (.ia l1 l0 2),y 4 true (.fa l0 1),i 5 true l0,y 6 true (.ln l0),y 7 true (.bin .lss l6 l0),u (.pk l8 l0 (.b false))] [] 0 .skip (.exit 4)) (.seq (.blk 5 (.reg [m v2,m v4,a 2 l1 l0,f 1 l0,g l0,m v5,m v2,m v4,a 2 l1 l0,f 1 l0,g l0,m v5,a 2 l1 l0,h 2 l0,m v0,m v3,a 2 l1 l0,f 1 l0,g l0,m v5,a 2 l1 l0,h 2 l0,u (.ca N.fP 0 [] [.l 8,.l 0]),m l0,u (.ex l0 0),u (.ex l1 1),a 2 (.l 21) (.l 20),u (.st l0 l2 2 [])] [(2,23),(4,23)])) (.reg [m v5,u (.bin .add l0 (.i 1)),x 5 l0] [])))
def rk:C:= .loop false [1] K.jW
def dH:C:= (.seq (.ite [m v3,m v0,u (.ln l0),u (.bin .lss l2 l0)] [] 0 .skip (.exit 0)) (.seq (.blk 1 (q [x 4 (.i 0)] [] (.seq (.blk 2 K.m7) (.seq (.ite [m v4,m v2,u (.ln l0),u (.bin .lss l2 l0),m l0,e 0 true v2,e 1 true v4,y 2 true (.ia l1 l0 2),y 3 true (.fa l0 0),i 4 true l0,e 5 true v0,e 6 true v3,y 7 true (.ia l1 l0 2),y 8 true (.fa l0 0),i 9 true l0,y 10 true (.ca N.bQ 0 [] [.l 5,.l 0]),u (.pk l11 l0 (.b false))] [] 0 (.seq (q [x 5 (.i 0)] [] (.blk 4 K.rk)) (.exit 1)) .skip) (.reg [m v2,m v4,u (.sc l1 none (some l0) 2),u (.app (.c (.nil)) l0 false 2),m v0,m v3,a 2 l1 l0,h 2 l0,u (.ca N.bG 1 [] [.l 0]),u (.bsr [.l 0] 2),u (.app l6 l0 false 2),m v2,m v4,u (.sc l1 (some l0) none 2),u (.app l3 l0 false 2),x 2 l0] [(6,0),(7,0),(13,0),(13,4),(13,9),(13,10)]))))) (.reg [m v3,u (.bin .add l0 (.i 1)),x 3 l0] [])))
def rm:C:= .loop false [1,4,5] K.dH
def gD:Fn:= { aY:=1,vars:=[0,2,3,4,5,6],body:=(q [w 1 (.mv (.c (.nil)))] [] (q [w 2 (.mv (.c (.nil)))] [] (.seq (q [x 3 (.i 0)] [] (.blk 0 K.rm)) (q [m v2,x 1 l0] [] .ret)))),res:=[(1,none)]}
def iR:C:= (.seq (.ite [m v3,m v0,u (.ln l0),u (.bin .lss l2 l0)] [] 0 .skip (.exit 0)) (.seq (.blk 1 (.ite [m v0,m v3,a 1 l1 l0,g l0,m v1,u (.bin .eql l1 l0)] [] 0 (q [m v3,x 2 l0] [] .ret) .skip)) (.reg [m v3,u (.bin .add l0 (.i 1)),x 3 l0] [])))
def oq:C:= .loop true [2] K.iR
def dL:Fn:= { aY:=2,vars:=[0,1,4,5],body:=(q [x 2 (.i 0)] [] (.seq (q [x 3 (.i 0)] [] (.blk 0 K.oq)) (q [w 2 (.mv (.i (-1)))] [] .ret))),res:=[(2,none)]}
def jq:C:= (.its [u (.bin .lss v6 v5)] [] 0 .skip (.exit 0) (.seq (.blk 1 (q [m v6,x 4 l0] [] (.ite [m v1,m v4,u (.cw l1 0 [] [.l 0])] [] 0 (.reg [m v3,m v4,u (.bs [.l 0] 1),u (.app l2 l0 true 1),x 3 l0] []) .skip))) (.reg [u (.bin .add v6 (.i 1)),x 6 l0] [])))
def pO:C:= .loop true [0,2,4] K.jq
def dY:Fn:= { aY:=2,vars:=[0,1,4,5,6,7,8],body:=(q [w 2 (.mv (.c (.nil)))] [] (q [w 3 (.nw 1)] [] (.seq (q [x 5 v0,x 6 (.i 0)] [] (.blk 0 K.pO)) (q [m v3,x 2 l0] [] .ret)))),res:=[(2,none)]}
def aG:Fn:= { aY:=2,vars:=[0,1,4],body:=(q [x 2 (.b false)] [] (q [m v0,m v1,u (.ca N.a8 0 [] [.l 1,.l 0]),u (.bin .geq l0 (.i 0)),x 2 l0] [] .ret)),res:=[(2,none)]}
def aR:Fn:= { aY:=2,vars:=[0,1,4],body:=(q [x 2 (.b false)] [] (q [m v0,m v1,u (.ca N.bq 0 [] [.l 1,.l 0]),u (.bin .geq l0 (.i 0)),x 2 l0] [] .ret)),res:=[(2,none)]}
def er:Fn:= { aY:=3,vars:=[0,1,2,3,4,5,6],body:=(q [w 3 (.bx v0 1),w 4 (.bx v1 1),w 5 (.bx v2 1),w 6 (.mv (.c (.nil)))] [] (q [u (.mf N.dv [.v 3,.v 4,.v 5]),u (.ca N.dY 0 [] [.i 64,.l 0]),x 6 l0] [] .ret)),res:=[(6,none)]}
def fM:Fn:= { aY:=3,vars:=[0,1,2,3,6],body:=(q [w 3 (.bx v0 2),x 4 (.b false)] [] (q [m v1,f 0 v3,g l0,u (.bin .leq l2 l0),m l0,y 0 true (.fa v3 0),i 1 true l0,y 2 true (.fa v3 1),i 3 true l0,y 4 true (.bin .leq l2 l0),u (.pk l5 l0 (.b false)),m l0,y 0 true (.fa v3 1),i 1 true l0,e 2 true v2,y 3 true (.bin .leq l1 l0),u (.pk l4 l0 (.b false)),x 4 l0] [] .ret)),res:=[(4,none)]}
def et:Fn:= { aY:=1,vars:=[0,2],body:=(q [x 1 (.b false)] [] (q [m v0,u (.bin .geq l0 (.i 0)),m l0,e 0 true v0,y 1 true (.bin .leq l0 (.i 2147483648)),u (.pk l2 l0 (.b false)),x 1 l0] [] .ret)),res:=[(1,none)]}
def kH:C:= (.seq (.ite [m v3,m v0,u (.bin .lss l1 l0)] [] 0 .skip (.exit 0)) (.seq (.blk 1 (.reg [m v2,u (.bs [.i 1099511627776] 1),u (.app l1 l0 true 1),x 2 l0] [])) (.reg [m v3,u (.bin .add l0 (.i 1)),x 3 l0] [])))
def pP:C:= .loop true [1] K.kH
def fy:Fn:= { aY:=1,vars:=[0,2,3,4],body:=(q [w 1 (.mv (.c (.nil)))] [] (q [w 2 (.nw 1)] [] (.seq (q [x 3 (.i 0)] [] (.blk 0 K.pP)) (q [m v2,x 1 l0] [] .ret)))),res:=[(1,none)]}
def eH:Fn:= { aY:=3,vars:=[0,1,2,3,6],body:=(q [w 3 (.bx v0 2),w 4 (.mv (.c (.nil)))] [] (q [h 2 v3,m v1,m v2,u (.ca N.eJ 0 [3] [.l 2,.l 1,.l 0,.c (.nil)]),x 4 l0] [] .ret)),res:=[(4,none)]}
def gG:C:= (.seq (.ite [m v3,m v0,u (.ln l0),u (.bin .lss l2 l0),m l0,e 0 true v3,e 1 true v1,y 2 true (.ln l0),y 3 true (.bin .lss l2 l0),u (.pk l4 l0 (.b false))] [] 0 .skip (.exit 0)) (.seq (.blk 1 (.ite [m v0,m v3,a 1 l1 l0,g l0,m v1,m v3,a 1 l1 l0,g l0,u (.bin .neq l4 l0)] [] 0 (q [m v0,m v3,a 1 l1 l0,g l0,m v1,m v3,a 1 l1 l0,g l0,u (.bin .lss l4 l0),x 2 l0] [] .ret) .skip)) (.reg [m v3,u (.bin .add l0 (.i 1)),x 3 l0] [])))
def rn:C:= .loop true [2] K.gG
def fN:Fn:= { aY:=2,vars:=[0,1,4,5],body:=(q [x 2 (.b false)] [] (.seq (q [x 3 (.i 0)] [] (.blk 0 K.rn)) (q [m v0,u (.ln l0),m v1,u (.ln l0),u (.bin .lss l2 l0),x 2 l0] [] .ret))),res:=[(2,none)]}
def eI:Fn:= { aY:=2,vars:=[0,1,2,3,4],body:=(q [w 2 (.bx v0 2),w 3 (.bx v1 2),x 4 (.b false)] [] (q [h 2 v2,u (.ca N.dk 0 [] [.l 0]),u (.bin .eql l0 (.i 0)),m l0,y 0 true (.ld v3 2 true),y 1 true (.fa v2 0),i 2 true l0,y 3 true (.ln l0),y 4 true (.ca N.dF 0 [] [.l 3,.l 0]),u (.pk l5 l0 (.b false)),m l0,y 0 true (.ld v2 2 true),y 1 true (.fa v3 1),i 2 true l0,y 3 true (.fa v3 0),i 4 true l0,y 5 true (.ca N.eH 0 [] [.l 4,.l 2,.l 0]),y 6 true (.fa v3 1),i 7 true l0,y 8 true (.ca N.bQ 0 [] [.l 2,.l 0]),u (.pk l9 l0 (.b false)),x 4 l0] [(18,9)] .ret)),res:=[(4,none)]}
def fO:Fn:= { aY:=1,vars:=[0,1,2],body:=(q [w 1 (.bx v0 2),w 2 (.al [z0,.nil] [])] [] (q [f 0 v1,g l0,f 1 v1,g l0,u (.app (.c (.nil)) l0 true 1),u (.bd [z0,.nil] [(0,1,.l 3),(1,1,.l 0)]),u (.st v2 l0 2 [])] [(1,5)] .ret)),res:=[(2,some (2,true))]}
def gS:C:= (.seq (.ite [m v3,m v0,u (.ln l0),u (.bin .lss l2 l0)] [] 0 .skip (.exit 0)) (.seq (.blk 1 (.ite [m v0,m v3,a 1 l1 l0,g l0,m v1,m v3,a 1 l1 l0,g l0,u (.bin .neq l4 l0)] [] 0 (q [x 2 (.b false)] [] .ret) .skip)) (.reg [m v3,u (.bin .add l0 (.i 1)),x 3 l0] [])))
def mr:C:= .loop true [2] K.gS
def bQ:Fn:= { aY:=2,vars:=[0,1,4,5],body:=(q [x 2 (.b false)] [] (.seq (.ite [m v0,u (.ln l0),m v1,u (.ln l0),u (.bin .neq l2 l0)] [] 0 (q [x 2 (.b false)] [] .ret) .skip) (.seq (q [x 3 (.i 0)] [] (.blk 0 K.mr)) (q [x 2 (.b true)] [] .ret)))),res:=[(2,none)]}
def lK:C:= (.seq (.ite [m v7,f 1 v2,g l0,u (.ln l0),u (.bin .lss l3 l0)] [] 0 .skip (.exit 0)) (.seq (.blk 1 (.reg [f 1 v6,g l0,f 1 v2,g l0,m v7,a 1 l1 l0,g l0,f 1 v3,g l0,m v7,a 1 l1 l0,g l0,u (.mn [.l 5,.l 0]),u (.bs [.l 0] 1),u (.app (.l 12) l0 true 1),f 1 v6,u (.st l0 l1 1 [])] [(1,14)])) (.reg [m v7,u (.bin .add l0 (.i 1)),x 7 l0] [])))
def rq:C:= .loop true [0,1,5] K.lK
def fP:Fn:= { aY:=2,vars:=[0,1,2,3,4,5,6,7],body:=(q [w 2 (.bx v0 2),w 3 (.bx v1 2),w 4 (.al [z0,.nil] []),x 5 (.i 0)] [] (.seq (.ite [f 1 v2,g l0,u (.ln l0),f 1 v3,g l0,u (.ln l0),u (.bin .neq l3 l0)] [] 0 (q [u (.bd [z0,.nil] []),u (.st v4 l0 2 []),x 5 (.i 6)] [] .ret) .skip) (q [f 0 v2,g l0,f 0 v3,g l0,u (.mx [.l 2,.l 0]),u (.bd [z0,.nil] [(0,1,.l 0)]),w 6 (.al [z0,.nil] [(1,1)]),u (.st l0 l1 2 [(1,1)])] [] (.seq (q [x 7 (.i 0)] [] (.blk 0 K.rq)) (q [h 2 v6,u (.st v4 l0 2 []),x 5 (.i 0)] [] .ret))))),res:=[(4,some (2,true)),(5,none)]}
def dM:C:= (.seq (.ite [m v8,f 1 v4,g l0,u (.ln l0),u (.bin .lss l3 l0)] [] 0 .skip (.exit 2)) (.seq (.blk 3 (q [f 1 v4,g l0,m v8,a 10 l1 l0,h 10 l0,w 9 (.al [z0,z0,z0,z0,z1,z1,z0,z0,z0,z0] []),u (.st l0 l1 10 [])] [] (.seq (.ite [m v3,u (.eqk (.sl) false l0 (.c (.nil))),m l0,e 0 false v3,y 1 false (.fa v9 1),i 2 false l0,y 3 false (.ca N.gY 0 [] [.l 2,.l 0]),u (.pk l4 (.b true) l0),m l0,e 0 true v6,y 1 true (.fa v9 0),i 2 true l0,y 3 true (.fa v9 1),i 4 true l0,y 5 true (.ld v4 2 true),e 6 true v8,y 7 true (.ca N.fQ 0 [] [.l 1,.l 0,.b false]),e 8 true v2,y 9 true (.ca N.cY 0 [0] [.l 8,.l 6,.l 4,.l 1,.l 0]),u (.pk l10 l0 (.b false))] [(11,17),(13,17)] 0 (.reg [x 7 (.b true)] []) .skip) (.ite [m v3,u (.eqk (.sl) false l0 (.c (.nil))),m l0,e 0 false v3,y 1 false (.fa v9 0),i 2 false l0,y 3 false (.ca N.gY 0 [] [.l 2,.l 0]),u (.pk l4 (.b true) l0),m l0,e 0 true v6,y 1 true (.fa v9 1),i 2 true l0,y 3 true (.fa v9 0),i 4 true l0,y 5 true (.ld v4 2 true),e 6 true v8,y 7 true (.ca N.fQ 0 [] [.l 1,.l 0,.b true]),e 8 true v2,y 9 true (.ca N.cY 0 [0] [.l 8,.l 6,.l 4,.l 1,.l 0]),u (.pk l10 l0 (.b false))] [(11,17),(13,17)] 0 (.reg [x 7 (.b true)] []) .skip)))) (.reg [m v8,u (.bin .add l0 (.i 1)),x 8 l0] [])))
def pQ:C:= .loop true [0,1,5,9] K.dM
def jr:C:= (.seq (.ite [m v7] [] 0 .skip (.exit 0)) (.blk 1 (q [x 7 (.b false)] [] (q [x 8 (.i 0)] [] (.blk 2 K.pQ)))))
def pR:C:= .loop true [0,1,5,8,9] K.jr
def eJ:Fn:= { aY:=4,vars:=[0,1,2,3,4,8,9,10,11,12],body:=(q [w 4 (.bx v0 2),w 5 (.mv (.c (.nil)))] [] (q [m v1,u (.app (.c (.nil)) l0 true 1),x 6 l0] [] (.seq (q [x 7 (.b true)] [] (.blk 0 K.pR)) (q [m v6,x 5 l0] [] .ret)))),res:=[(5,none)]}
def dg:C:= (.its [u (.bin .lss v5 v4)] [] 0 .skip (.exit 0) (.seq (.blk 1 (q [m v5,x 3 l0] [] (.ite [m v1,m v0,m v3,a 1 l1 l0,g l0,u (.cw l4 0 [] [.l 0])] [] 0 (q [m v3,x 2 l0] [] .ret) .skip))) (.reg [u (.bin .add v5 (.i 1)),x 5 l0] [])))
def gZ:C:= .loop true [2,3] K.dg
def a8:Fn:= { aY:=2,vars:=[0,1,4,5,7,8],body:=(q [x 2 (.i 0)] [] (.seq (q [m v0,w 4 (.ln l0),x 5 (.i 0)] [] (.blk 0 K.gZ)) (q [w 2 (.mv (.i (-1)))] [] .ret))),res:=[(2,none)]}
def dS:C:= (.its [u (.bin .lss v5 v4)] [] 0 .skip (.exit 0) (.seq (.blk 1 (q [m v5,x 3 l0] [] (.ite [m v1,m v0,m v3,a 1 l1 l0,g l0,u (.bin .eql l4 l0)] [] 0 (q [m v3,x 2 l0] [] .ret) .skip))) (.reg [u (.bin .add v5 (.i 1)),x 5 l0] [])))
def jt:C:= .loop true [2,3] K.dS
def bq:Fn:= { aY:=2,vars:=[0,1,4,5,7,8],body:=(q [x 2 (.i 0)] [] (.seq (q [m v0,w 4 (.ln l0),x 5 (.i 0)] [] (.blk 0 K.jt)) (q [w 2 (.mv (.i (-1)))] [] .ret))),res:=[(2,none)]}
def dv:Fn:= { aY:=4,vars:=[0,1,2,3,4,5],body:=(q [w 4 (.bx v0 1),x 5 (.b false)] [] (q [f 0 v1,g l0,u (.mf N.cJ [.v 2,.v 4,.v 3]),u (.ca N.aK 0 [] [.l 1,.l 0]),x 5 l0] [] .ret)),res:=[(5,none)]}
def aK:Fn:= { aY:=2,vars:=[0,1,4],body:=(q [x 2 (.b false)] [] (q [m v0,m v1,u (.ca N.aO 0 [] [.l 1,.l 0]),u (.bin .geq l0 (.i 0)),x 2 l0] [] .ret)),res:=[(2,none)]}
def cJ:Fn:= { aY:=4,vars:=[0,1,2,3,4,5],body:=(q [w 4 (.bx v0 2),x 5 (.b false)] [] (q [g v1,f 1 v4,g l0,u (.ln l0),u (.bin .sub l0 (.i 1)),u (.ca N.cK 0 [] [.l 4,.i 0,.l 0]),m l0,i 0 true v2,y 1 true (.fa v4 1),i 2 true l0,i 3 true v1,y 4 true (.ia l1 l0 2),y 5 true (.fa l0 1),i 6 true l0,y 7 true (.ln l0),y 8 true (.bin .lss l7 l0),u (.pk l9 l0 (.b false)),m l0,y 0 true (.fa v4 1),i 1 true l0,i 2 true v1,y 3 true (.ia l1 l0 2),y 4 true (.fa l0 1),i 5 true l0,i 6 true v2,y 7 true (.ia l1 l0 1),i 8 true l0,i 9 true v3,y 10 true (.bin .leq l1 l0),u (.pk l11 l0 (.b false)),x 5 l0] [] .ret)),res:=[(5,none)]}
def cK:Fn:= { aY:=3,vars:=[0,1,2,6],body:=(q [x 3 (.b false)] [] (q [m v0,m v1,u (.bin .geq l1 l0),m l0,e 0 true v0,e 1 true v2,y 2 true (.bin .leq l1 l0),u (.pk l3 l0 (.b false)),x 3 l0] [] .ret)),res:=[(3,none)]}
def fS:C:= (.seq (.ite [m v4,f 1 v2,g l0,u (.ln l0),u (.bin .lss l3 l0)] [] 0 .skip (.exit 0)) (.seq (.blk 1 (.ite [f 1 v2,g l0,m v4,a 1 l1 l0,g l0,u (.bin .neq l0 (.i 1099511627776)),m l0,y 0 true (.fa v2 1),i 1 true l0,e 2 true v4,y 3 true (.ia l1 l0 1),i 4 true l0,y 5 true (.bin .lss l0 (.i 0)),e 6 true l0,y 0 false (.fa v2 1),i 1 false l0,e 2 false v4,y 3 false (.ia l1 l0 1),i 4 false l0,y 5 false (.bin .gtr l0 (.i 2147483648)),y 13 true (.pk l6 (.b true) l0),u (.pk (.l 14) l0 (.b false))] [] 0 (q [x 3 (.b false)] [] .ret) .skip)) (.reg [m v4,u (.bin .add l0 (.i 1)),x 4 l0] [])))
def pS:C:= .loop true [0,1,3] K.fS
def dF:Fn:= { aY:=2,vars:=[0,1,2,4,5],body:=(q [w 2 (.bx v0 2),x 3 (.b false)] [] (.seq (.ite [f 1 v2,g l0,u (.ln l0),m v1,u (.bin .neq l1 l0),m l0,y 0 false (.fa v2 0),i 1 false l0,y 2 false (.bin .lss l0 (.i 0)),u (.pk l3 (.b true) l0),m l0,y 0 false (.fa v2 0),i 1 false l0,y 2 false (.bin .gtr l0 (.i 2147483648)),u (.pk l3 (.b true) l0)] [] 0 (q [x 3 (.b false)] [] .ret) .skip) (.seq (q [x 4 (.i 0)] [] (.blk 0 K.pS)) (q [x 3 (.b true)] [] .ret)))),res:=[(3,none)]}
def cY:Fn:= { aY:=5,vars:=[0,1,2,3,4,10,11],body:=(q [x 5 (.b false)] [] (.seq (.ite [m v3,u (.bin .lss l0 (.i 0)),m l0,e 0 false v0,e 1 false v1,y 2 false (.ia l1 l0 1),i 3 false l0,y 4 false (.bin .geq l0 (.i 1099511627776)),u (.pk l5 (.b true) l0)] [] 0 (q [x 5 (.b false)] [] .ret) .skip) (q [m v4,m v0,m v1,a 1 l1 l0,g l0,m v3,u (.bin .add l1 l0),u (.mx [.l 6,.l 0]),x 6 l0] [] (.seq (.ite [m v6,u (.bin .gtr l0 (.i 2147483648)),m l0,e 0 false v6,e 1 false v0,e 2 false v2,y 3 false (.ia l1 l0 1),i 4 false l0,y 5 false (.bin .geq l4 l0),u (.pk l6 (.b true) l0)] [] 0 (q [x 5 (.b false)] [] .ret) .skip) (q [m v0,m v2,m v6,a 1 l2 l1,u (.st l0 l1 1 [])] [] (q [x 5 (.b true)] [] .ret)))))),res:=[(5,none)]}
def fQ:Fn:= { aY:=3,vars:=[0,1,2,3,6],body:=(q [w 3 (.bx v0 2),x 4 (.i 0)] [] (q [h 2 v3,m v1,m v2,u (.ca N.bY 0 [] [.l 2,.l 1,.l 0,.i 6,.i 9,.i 12]),x 4 l0] [] .ret)),res:=[(4,none)]}
def gT:C:= (.its [u (.bin .lss v5 v4)] [] 0 .skip (.exit 0) (.seq (.blk 1 (q [m v5,x 3 l0] [] (.ite [m v1,m v0,m v3,a 2 l1 l0,h 2 l0,u (.cw l4 0 [] [.l 0])] [] 0 (q [m v3,x 2 l0] [] .ret) .skip))) (.reg [u (.bin .add v5 (.i 1)),x 5 l0] [])))
def hT:C:= .loop true [2,3] K.gT
def aO:Fn:= { aY:=2,vars:=[0,1,4,5,7,8],body:=(q [x 2 (.i 0)] [] (.seq (q [m v0,w 4 (.ln l0),x 5 (.i 0)] [] (.blk 0 K.hT)) (q [w 2 (.mv (.i (-1)))] [] .ret))),res:=[(2,none)]}
def bY:Fn:= { aY:=6,vars:=[0,1,2,3,4,5,6,12,13,14,15,16,17],body:=(q [w 6 (.bx v0 2),x 7 (.i 0)] [] (.seq (.ite [h 2 v6,u (.ca N.dk 0 [] [.l 0]),u (.bin .neq l0 (.i 0)),m l0,e 0 false v1,y 1 false (.bin .lss l0 (.i 0)),u (.pk l2 (.b true) l0),m l0,e 0 false v1,y 1 false (.fa v6 1),i 2 false l0,y 3 false (.ln l0),y 4 false (.bin .geq l3 l0),u (.pk l5 (.b true) l0),m l0,y 0 false (.fa v6 1),i 1 false l0,e 2 false v1,y 3 false (.ia l1 l0 10),y 4 false (.fa l0 5),i 5 false l0,u (.pk l6 (.b true) l0),m l0,y 0 false (.fa v6 1),i 1 false l0,e 2 false v1,y 3 false (.ia l1 l0 10),y 4 false (.fa l0 4),i 5 false l0,y 6 false (.un .not l0),u (.pk l7 (.b true) l0)] [] 0 (q [w 7 (.mv (.i (-1)))] [] .ret) .skip) (q [f 1 v6,g l0,m v1,a 10 l1 l0,h 10 l0,w 8 (.al [z0,z0,z0,z0,z1,z1,z0,z0,z0,z0] []),u (.st l0 l1 10 [])] [] (q [h 10 v8,m v2,u (.ca N.gE 0 [] [.l 1,.l 0]),m l0,u (.ex l0 0),u (.ex l1 1),x 9 l1,x 10 l1] [] (q [f 0 v6,g l0,m v10,a 2 l1 l0,f 0 l0,g l0,f 0 v6,g l0,m v9,a 2 l1 l0,f 0 l0,g l0,u (.bin .sub l6 l0),x 11 l0] [] (q [m v5,x 12 l0] [] (.seq (.ite [m v11,u (.bin .mul (.i 10) l0),f 2 v8,g l0,u (.bin .gtr l2 l0)] [] 0 (.reg [m v3,x 12 l0] []) .skip) (.seq (.ite [m v11,u (.bin .mul (.i (-10)) l0),f 2 v8,g l0,u (.bin .gtr l2 l0)] [] 0 (.reg [m v4,x 12 l0] []) .skip) (q [f 2 v8,g l0,u (.bin .mul (.i 10) l0),m v12,u (.bin .add l1 l0),u (.bin .sub l0 (.i 1)),m v12,u (.bin .quo l1 l0),x 7 l0] [] .ret))))))))),res:=[(7,none)]}
def gE:Fn:= { aY:=2,vars:=[0,1,2,4,5],body:=(q [w 2 (.bx v0 10),x 3 (.i 0),x 4 (.i 0)] [] (.seq (.ite [m v1] [] 0 (q [f 1 v2,g l0,f 0 v2,g l0,x 3 l2,x 4 l1] [] .ret) .skip) (q [f 0 v2,g l0,f 1 v2,g l0,x 3 l2,x 4 l1] [] .ret))),res:=[(3,none),(4,none)]}
end Go.Ev.K
namespace Go.Ev
class b7 [Lib]:Prop where
 lr:Lib.fs N.eC=some K.eC
 m8:Lib.fs N.cX=some K.cX
 iq:Lib.fs N.bG=some K.bG
 ot:Lib.fs N.gC=some K.gC
 m9:Lib.fs N.dE=some K.dE
 ou:Lib.fs N.gD=some K.gD
 lL:Lib.fs N.dL=some K.dL
 nf:Lib.fs N.dY=some K.dY
 dZ:Lib.fs N.aG=some K.aG
 fA:Lib.fs N.aR=some K.aR
 nN:Lib.fs N.er=some K.er
 ov:Lib.fs N.fM=some K.fM
 lM:Lib.fs N.et=some K.et
 nh:Lib.fs N.fy=some K.fy
 ni:Lib.fs N.eH=some K.eH
 ow:Lib.fs N.fN=some K.fN
 nj:Lib.fs N.eI=some K.eI
 ox:Lib.fs N.fO=some K.fO
 kc:Lib.fs N.bQ=some K.bQ
 oy:Lib.fs N.fP=some K.fP
 nq:Lib.fs N.eJ=some K.eJ
 ff:Lib.fs N.a8=some K.a8
 gO:Lib.fs N.bq=some K.bq
 lu:Lib.fs N.dv=some K.dv
 dC:Lib.fs N.aK=some K.aK
 kn:Lib.fs N.cJ=some K.cJ
 su:Lib.fs N.cK=some K.cK
 ns:Lib.fs N.dF=some K.dF
 nu:Lib.fs N.cY=some K.cY
 oz:Lib.fs N.fQ=some K.fQ
 dT:Lib.fs N.aO=some K.aO
 lN:Lib.fs N.bY=some K.bY
 oA:Lib.fs N.gE=some K.gE
namespace K
variable [Lib] [b7]
theorem lr:Lib.fs N.eC=some K.eC:=b7.lr
theorem m8:Lib.fs N.cX=some K.cX:=b7.m8
theorem iq:Lib.fs N.bG=some K.bG:=b7.iq
theorem ot:Lib.fs N.gC=some K.gC:=b7.ot
theorem m9:Lib.fs N.dE=some K.dE:=b7.m9
theorem ou:Lib.fs N.gD=some K.gD:=b7.ou
theorem lL:Lib.fs N.dL=some K.dL:=b7.lL
theorem nf:Lib.fs N.dY=some K.dY:=b7.nf
theorem dZ:Lib.fs N.aG=some K.aG:=b7.dZ
theorem fA:Lib.fs N.aR=some K.aR:=b7.fA
theorem nN:Lib.fs N.er=some K.er:=b7.nN
theorem ov:Lib.fs N.fM=some K.fM:=b7.ov
theorem lM:Lib.fs N.et=some K.et:=b7.lM
theorem nh:Lib.fs N.fy=some K.fy:=b7.nh
theorem ni:Lib.fs N.eH=some K.eH:=b7.ni
theorem ow:Lib.fs N.fN=some K.fN:=b7.ow
theorem nj:Lib.fs N.eI=some K.eI:=b7.nj
theorem ox:Lib.fs N.fO=some K.fO:=b7.ox
theorem kc:Lib.fs N.bQ=some K.bQ:=b7.kc
theorem oy:Lib.fs N.fP=some K.fP:=b7.oy
theorem nq:Lib.fs N.eJ=some K.eJ:=b7.nq
theorem ff:Lib.fs N.a8=some K.a8:=b7.ff
theorem gO:Lib.fs N.bq=some K.bq:=b7.gO
theorem lu:Lib.fs N.dv=some K.dv:=b7.lu
theorem dC:Lib.fs N.aK=some K.aK:=b7.dC
theorem kn:Lib.fs N.cJ=some K.cJ:=b7.kn
theorem su:Lib.fs N.cK=some K.cK:=b7.su
theorem ns:Lib.fs N.dF=some K.dF:=b7.ns
theorem nu:Lib.fs N.cY=some K.cY:=b7.nu
theorem oz:Lib.fs N.fQ=some K.fQ:=b7.oz
theorem dT:Lib.fs N.aO=some K.aO:=b7.dT
theorem lN:Lib.fs N.bY=some K.bY:=b7.lN
theorem oA:Lib.fs N.gE=some K.gE:=b7.oA
end K
end Go.Ev
namespace Go.Ev
open Go
variable [Lib]
noncomputable def aS:aP:=kE Lib.fs
theorem aE{raw f:Nat}{args:List D}{H:ah}{fn:Fn}{r:D×ah}(hf:Lib.fs f=some fn)(hn:fn.aY=args.length)
 (h:(exS aS fn.body ⟨pE args fn.vars,H⟩).bind (Ua fn.res H.length raw)=some r) (h0:fn.prim=[]:=by rfl):aS raw f args H=some r:=Lp hf hn h h0
theorem zo{raw f:Nat}{args:List D}{H:ah}{fn:Fn}{r:D×ah}(hf:Lib.fs f=some fn)(h0:fn.prim≠[])(h:qC fn.prim args H=some r):aS raw f args H=some r:=Dh hf h0 h
theorem eK{gc:Bool}{dead:List Nat}{c:C}{vs:List D}{H:ah}(s:Nat→St)(n:Nat){e:Ex}{st:St}
 (h0:(⟨iU dead vs,H⟩:St)=s 0) (h:∀j,j<n→dB gc dead (s j).H.length (exS aS c (s j))=some (s (j+1)))
 (he:exS aS c (s n)=some (e,st)) (hn:e≠ .normal):exS aS (.loop gc dead c) ⟨vs,H⟩=some (e,st):=by
 show kV gc dead (exS aS c) ⟨iU dead vs,H⟩=_
 rw[h0]
 exact xO s n h (bE he hn)
theorem iX{gc:Bool}{dead:List Nat}{c:C}{vs:List D}{H:ah}{p:Ex×St}(h:kV gc dead (exS aS c) ⟨iU dead vs,H⟩=some p):exS aS (.loop gc dead c) ⟨vs,H⟩=some p:=h
class Dat (α:Type) where
 dflt:α
instance : Dat Int := ⟨0⟩
instance : Dat Nat := ⟨0⟩
instance : Dat Bool := ⟨false⟩
instance {α : Type} : Dat (List α) := ⟨[]⟩
def nth{α:Type} [Dat α](l:List α)(j:Nat):α:=l.getD j Dat.dflt
theorem gq{α:Type} [Dat α]{l:List α}{j:Nat}(h:j<l.length):l[j]?=some (nth l j):=by simp[nth,h]
theorem fT{α β:Type} [Dat α](f:α→β){l:List α}{j:Nat}(h:j<l.length):(l.map f)[j]?=some (f (nth l j)):=by rw[aLn,gq h];rfl
theorem Co{α β γ:Type} [Dat α](f:β→γ)(g:α→β){l:List α}{j:Nat}(h:j<l.length):((l.map g).map f)[j]?=some (f (g (nth l j))):=by rw[aLn,fT g h];rfl
theorem az{α:Type} [Dat α]{l:List α}{j:Nat}(h:j<l.length):nth l j∈l:=aLd (gq h)
theorem bN{α:Type} [Dat α]{l:List α}{j:Nat}{x:α}(h:l[j]?=some x):nth l j=x:=by simp[nth,h]
theorem ju{α:Type} [Dat α]{l:List α}{j:Nat}(h:j<l.length):l.take (j+1)=l.take j++[nth l j]:=by
 rw[List.take_succ_eq_append_getElem h];simp[nth,h]
theorem Yt{a b:Int}(h:a<b):(a<b)=True:=by simp[h]
theorem Yu{a b:Int}(h:b≤a):(a<b)=False:=by simp[Int.not_lt.2 h]
theorem Yv{a b:Int}(h:a≤b):(a≤b)=True:=by simp[h]
theorem Yw{a b:Int}(h:b<a):(a≤b)=False:=by simp[Int.not_le.2 h]
theorem Yx{a b:Int}(h:a=b):(a=b)=True:=by simp[h]
theorem Yy{a b:Int}(h:a≠b):(a=b)=False:=by simp[h]
theorem Yz{a b:Nat}(h:a<b):(a<b)=True:=by simp[h]
theorem YA{a b:Nat}(h:b≤a):(a<b)=False:=by simp[Nat.not_lt.2 h]
theorem YB{a b:Nat}(h:a≤b):(a≤b)=True:=by simp[h]
theorem YC{a b:Nat}(h:b<a):(a≤b)=False:=by simp[Nat.not_le.2 h]
theorem YD{a b:Nat}(h:a=b):(a=b)=True:=by simp[h]
theorem YE{a b:Nat}(h:a≠b):(a=b)=False:=by simp[h]
attribute [go_sem] YD YE Yt Yu Yv Yw Yx Yy Yz YA YB YC bz fT Co LH
@[go_sem] theorem Du (a b : Nat) : ((a + b : Nat) : Int) = (a : Int) + (b : Int) := (rfl)
@[go_sem] theorem Dv : ((1 : Nat) : Int) = 1 := (rfl)
@[go_sem] theorem A8 : ((0 : Nat) : Int) = 0 := (rfl)
@[go_sem] theorem SM (a b : Int) : a + b - b = a := Int.add_sub_cancel a b
@[go_sem] theorem JS : (0 : Int).toNat = 0 := (rfl)
@[go_sem] theorem Mu (n : Nat) : (n : Int).toNat = n := (rfl)
@[go_sem] theorem Mv (n : Nat) : ((n : Int) + 1).toNat = n + 1 := (rfl)
@[go_sem] theorem Mw (a : Int) : 0 + a = a := Int.zero_add a
@[go_sem] theorem Mx (a : Int) : a + 0 = a := Int.add_zero a
@[go_sem] theorem My (a : Int) : a - 0 = a := Int.sub_zero a
abbrev tI(n:Int):T:= .int .i64 n
abbrev tL(l:List Int):T:= .sl (l.map (.int .i64))
@[go_sem] theorem Il (H : ah) (n : Nat) (ts : List T) (x : T) : bK (frz H n) (ts.map .t ++ [.t x]) = some (ts ++ [x]) := by
 have:ts.map D.t++[.t x]=(ts++[x]).map .t:=by simp
 rw[this,Dl]
@[go_sem] theorem JT {α β : Type} (f : α → β) (a b : List α) : (a ++ b).map f = a.map f ++ b.map f := List.map_append
end Go.Ev
namespace Go.Ev
open Go
variable [Lib] [cH] [b7]
def Mod(n m:Int):Int:=if m<1 then 0 else if n.tmod m<0 then n.tmod m+m else n.tmod m
theorem SN(n m:Int):0≤Mod n m:=by
 unfold Mod
 split
 · omega
 · have h5:=Int.lt_tmod_of_pos n (b:=m) (by omega)
   split<;>omega
theorem SO(n m:Int)(h:1≤m):Mod n m<m:=by
 unfold Mod
 rw[if_neg (by omega)]
 have h3:=Int.tmod_lt_of_pos n (b:=m) (by omega)
 split<;>omega
theorem SP(n m:Int)(hm:m≤4611686018427387904):aS 0 N.iQ [I n,I m] []=some (I (Mod n m),[]):=by
 refine aE K.sr rfl ?_
 unfold Mod
 by_cases h1:m<1
 · simp only[go_sem,K.iQ,h1,↓reduceIte]
 · have h2:m≠0:=by omega
   have h3:=Int.tmod_lt_of_pos n (b:=m) (by omega)
   have h5:=Int.lt_tmod_of_pos n (b:=m) (by omega)
   by_cases h4:n.tmod m<0
   · simp(disch:=omega)only[go_sem,K.iQ,h1,↓reduceIte,h2,h4]
   · simp(disch:=omega)only[go_sem,K.iQ,h1,↓reduceIte,h2,h4]
theorem Im(l:List Int):aS 0 N.gB [.t (tL l)] []=some (B (decide (l.length≤400)),[]):=by
 refine aE K.oo rfl ?_
 simp(disch:=omega)only[go_sem,K.gB,↓reduceIte]
 simp only[show((l.length:Int)≤400)=(l.length≤400)by rw[eq_iff_iff];omega]
structure di where
 L:List Int
 at_:Nat
def di.obj(d:di):Obj:= .box [.t (tL d.L),I d.at_]
def di.uV(d:di):Prop:=d.L.length≤400
def di.next(d:di)(n:Int):Int×di:=if d.at_<d.L.length then(Mod (nth d.L d.at_) n,⟨d.L,d.at_+1⟩)else(0,d)
theorem di.SQ(d:di)(n:Int):(d.next n).2.L=d.L:=by unfold di.next;split<;>rfl
theorem di.Dw{d:di}(h:d.uV)(n:Int):(d.next n).2.uV:=by unfold di.uV;rw[d.SQ];exact h
theorem di.Mz(d:di)(n:Int):0≤(d.next n).1:=by unfold di.next;split<;>simp[SN]
theorem di.MA(d:di){n:Int}(h:1≤n):(d.next n).1<n:=by unfold di.next;split<;>simp[SO _ _ h];omega
theorem MB(d:di)(n:Int)(hn:n≤4611686018427387904)(hd:d.uV):aS 0 N.bP [.bp 0 0,I n] [d.obj]=some (I (d.next n).1,[(d.next n).2.obj]):=by
 refine aE K.j9 rfl ?_
 have hm:=SP (nth d.L d.at_) n hn
 unfold di.uV at hd
 unfold di.next di.obj
 by_cases h1:d.at_<d.L.length
 · simp(disch:=omega)only[go_sem,K.bP,↓reduceIte,↓if_pos,↓if_neg,Int.add_sub_cancel,hm,Int.natCast_add]
 · simp(disch:=omega)only[go_sem,K.bP,↓reduceIte,↓if_pos,↓if_neg]
@[go_sem] theorem VC (d : di) : Cm (some d.obj) = [] := by simp only [di.obj, go_sem]
@[go_sem] theorem VD (f : Nat → Option Nat) (d : di) : gj f d.obj = some d.obj := by simp only [di.obj, go_sem]
@[go_sem] theorem VE (k : Nat) (d : di) (r : ah) : fe k (d.obj :: r) = fe k r := by simp only [di.obj, go_sem]
def di.one(d:di)(n:Int):Bool×di:=(decide ((d.next n).1=n-1),(d.next n).2)
def di.of(d:di)(l:List Int):Int×di:=(nth l (d.next l.length).1.toNat,(d.next l.length).2)
def di.Dx(d:di):Nat→List Int×di
 | 0=>([],d)
 | k+1=>(if((d.Dx k).2.next 3).1=0 then(d.Dx k).1++[(k:Int)]else(d.Dx k).1,((d.Dx k).2.next 3).2)
theorem de{gc:Bool}{dead:List Nat}{c:C}{vs:List D}{H:ah}(s:Nat→St)(n:Nat)(p:Nat→Bool)(e:Nat→Ex×St)(eN:Ex×St)
 (h0:(⟨iU dead vs,H⟩:St)=s 0) (hs:∀j,j<n→p j=false→dB gc dead (s j).H.length (exS aS c (s j))=some (s (j+1)))
 (he:∀j,j<n→p j=true→exS aS c (s j)=some (e j)∧(e j).1≠ .normal) (hN:exS aS c (s n)=some eN) (hn:eN.1≠ .normal):
 exS aS (.loop gc dead c) ⟨vs,H⟩=some (match (List.range n).find? p with | some j=>e j | none=>eN):=by
 show kV gc dead (exS aS c) ⟨iU dead vs,H⟩=_
 rw[h0]
 cases hf:(List.range n).find? p with
 | none=>
   refine xO s n (fun j hj=>hs j hj ?_) (bE hN hn)
   have:=List.find?_eq_none.1 hf j (aLu.2 hj)
   simpa using this
 | some k=>
   obtain⟨h1,as,bs,h2,h3⟩:=List.find?_eq_some_iff_append.1 hf
   have hk:k<n:=aLu.1 (List.mem_of_find?_eq_some hf)
   have hlt:∀j,j<k→p j=false:=by
    intro j hj
    have hlen:as.length=k:=by
     have h4:(List.range n)[as.length]?=some k:=by rw[h2];simp
     have h5:as.length<n:=by
      have:=congrArg List.length h2;simp at this;omega
     rw[aLp h5]at h4
     exact Option.some.inj h4
    have:j∈as:=by
     have h6:(List.range n)[j]?=some j:=aLp (by omega)
     rw[h2,aLg (by omega)]at h6
     exact aLd h6
    simpa using h3 j this
   obtain⟨k1,k2⟩:=he k hk h1
   exact xO s k (fun j hj=>hs j (by omega) (hlt j hj)) (bE k1 k2)
def iz{α:Type}(f:α→α×Bool):Nat→α→α
 | 0,l=>l
 | n+1,l=>if(f l).2 then iz f n (f l).1 else(f l).1
theorem Dy{α:Type}{gc:Bool}{dead:List Nat}{c:C}{vs:List D}{H:ah}(S:α→Bool→St)(E:α→Ex×St)(f:α→α×Bool)(inv:α→Prop)(mes:α→Nat)
 (hinv:∀l,inv l→inv (f l).1∧((f l).2=true→mes (f l).1<mes l))
 (hs:∀l,inv l→dB gc dead (S l true).H.length (exS aS c (S l true))=some (S (f l).1 (f l).2))
 (he:∀l,inv l→exS aS c (S l false)=some (E l)∧(E l).1≠ .normal) (l:α) (hl:inv l) (h0:(⟨iU dead vs,H⟩:St)=S l true):
 exS aS (.loop gc dead c) ⟨vs,H⟩=some (E (iz f (mes l+1) l))∧inv (iz f (mes l+1) l):=by
 have key:∀(n:Nat) (l:α),inv l→mes l<n→kV gc dead (exS aS c) (S l true)=some (E (iz f n l))∧inv (iz f n l):=by
  intro n
  induction n with
  | zero=>intro l _ h;omega
  | succ n ih=>
    intro l hl hm
    obtain⟨h1,h2⟩:=hinv l hl
    have hr:=hs l hl
    cases hf:(f l).2 with
    | true=>
      rw[hf]at hr
      obtain⟨k1,k2⟩:=ih (f l).1 h1 (by have:=h2 hf;omega)
      simp only[iz,hf,if_true]
      exact⟨cM hr k1,k2⟩
    | false=>
      rw[hf]at hr
      obtain⟨k1,k2⟩:=he (f l).1 h1
      simp only[iz,hf,aLt,if_false]
      exact⟨cM hr (bE k1 k2),h1⟩
 have:=key (mes l+1) l hl (Nat.lt_succ_self _)
 show kV gc dead (exS aS c) ⟨iU dead vs,H⟩=_∧_
 rw[h0];exact this
theorem Cp{n:Nat}{p:Nat→Bool}:((List.range n).find? p).isSome=(List.range n).any p:=by
 rw[List.isSome_find?]
theorem uW{n j:Nat}{p:Nat→Bool}(h:(List.range n).find? p=some j):j<n∧p j=true:=⟨aLu.1 (List.mem_of_find?_eq_some h),List.find?_some h⟩
def fZ(m:Nat):List D:=(List.range m).map fun i=> .bp i 0
def aW(bs:List (List T)):ah:=bs.map fun cs=> .box (cs.map .t)
theorem wV{bs:List (List T)}{i:Nat}(h:i<bs.length):(aW bs)[i]?=some (.box (bs[i].map .t)):=by simp[aW,h]
theorem eD(bs:List (List T)):(aW bs).length=bs.length:=by simp[aW]
theorem sA:∀(l sel:List Nat),(sel++l).Nodup→eo sel l=sel++l
 | [],sel,_=>by simp[eo]
 | i::r,sel,h=>by
   have:sel.contains i=false:=by
    rw[← Bool.not_eq_true,List.contains_iff_mem]
    intro hm
    have:=List.nodup_append.1 h
    exact this.2.2 i hm i List.mem_cons_self rfl
   simp only[eo,this,aLt,if_false]
   rw[sA r (sel++[i]) (by simpa using h)]
   simp
theorem tq:∀(l:List Nat) (i k:Nat),l.Nodup→l[k]?=some i→idxOf l i=some k
 | [],i,k,_,h=>by simp at h
 | a::l,i,0,_,h=>by simp at h;simp[idxOf,h]
 | a::l,i,k+1,hn,h=>by
   simp at h
   have hne:a≠i:=fun e=>(List.nodup_cons.1 hn).1 (e▸aLd h)
   simp only[idxOf,if_neg hne,tq l i k (List.nodup_cons.1 hn).2 h,aLw]
theorem A9{m i:Nat}(h:i<m):idxOf (List.range m) i=some i:=tq _ _ _ List.nodup_range (aLp h)
theorem Ba{α:Type}{f:α→Option α}:∀ {l:List α},(∀x∈l,f x=some x)→bK f l=some l
 | [],_=>rfl
 | a::l,h=>by
   simp only[bK,h a List.mem_cons_self,aLq,Ba fun x hx=>h x (List.mem_cons_of_mem _ hx),aLw]
theorem Bb(f:Nat→Option Nat)(cs:List T):gj f (.box (cs.map .t))=some (.box (cs.map .t)):=by
 simp only[Dq,pd,aLw]
theorem zp{H:ah}:∀ {l:List Nat} {hs:ah},l.length=hs.length→(∀(k i:Nat) (o:Obj),l[k]?=some i→hs[k]?=some o→H[i]?=some o)→pick H l=some hs
 | [],[],_,_=>rfl
 | [],_::_,h,_=>by simp at h
 | _::_,[],h,_=>by simp at h
 | i::l,o::hs,h,hg=>by
   rw[FA,hg 0 i o rfl rfl,aLq,Ig,zp (l:=l) (hs:=hs) (by simpa using h) fun k i o hk ho=>hg (k+1) i o (by simpa using hk) (by simpa using ho)]
   rfl
theorem tu{H:ah}:∀ {l:List Nat} {os:ah},(∀(k i:Nat) (o:Obj),l[k]?=some i→os[k]?=some o→H[i]?=some o)→cW H l os=H
 | [],os,_=>by cases os<;>rfl
 | i::l,[],_=>rfl
 | i::l,o::os,hg=>by
   simp only[cW]
   rw[xS (hg 0 i o rfl rfl)]
   exact tu fun k i o hk ho=>hg (k+1) i o (by simpa using hk) (by simpa using ho)
theorem zq(call:aP)(bs:List (List T))(E:ah)(f raw:Nat)(args:List D){r:D}(h:call raw f args (aW bs)=some (r,aW bs))(hr:tJ r=true)
 (ha:∀H:ah,mP H [] 0 args=some args∧cE H [] 0 args=[]) (hids:eo [] (uU 8 args)=List.range bs.length)
 (hren:bK (ren (idxOf (List.range bs.length)) 8) args=some args):Dk (aW bs++E) call f raw [] args=some (r,aW bs++E):=by
 generalize hH:aW bs++E=H
 have hget:∀i (hi:i<bs.length),H[i]?=some (.box (bs[i].map .t)):=fun i hi=>by
  rw[← hH,aLg (by rw[eD];exact hi),wV hi]
 obtain⟨ha,hfz⟩:=ha H
 have hno:me H (List.range bs.length)=[]:=by
  simp only[me,List.flatMap_eq_nil_iff,aLu]
  intro i hi
  rw[hget i hi]
  exact Ck 8 bs[i]
 have hsel:reach H 3 (List.range bs.length)=List.range bs.length:=by
  simp only[reach,hno,eo]
 have hget2:∀(k i:Nat) (o:Obj),(List.range bs.length)[k]?=some i→(aW bs)[k]?=some o→H[i]?=some o:=by
  intro k i o hk ho
  have hkl:k<bs.length:=by have:=(aLe.1 hk).1;simpa using this
  rw[aLp hkl]at hk
  cases hk
  rw[wV hkl]at ho
  rw[hget k hkl,←ho]
 have hpick:pick H (List.range bs.length)=some (aW bs):=zp (by simp[eD]) hget2
 have hro:∀f:Nat→Option Nat,bK (gj f) (aW bs)=some (aW bs):=fun f=>Ba fun o ho=>by
  simp only[aW,List.mem_map]at ho
  obtain⟨cs,_,rfl⟩:=ho
  exact Bb f cs
 have hput:cW H (List.range bs.length) (aW bs)=H:=tu hget2
 rw[H4,H5,ha,aLq,H6,hids,hsel,H7,hren,aLq,hfz,H8]
 simp only[pins]
 rw[hpick,aLq,H9,hro,aLq,Ia,h,aLq]
 cases hb:bs with
 | nil=>
   subst hb
   have hrr:=xP (f:=dR [] H.length) hr
   simp only[depth]at hrr
   simp only[List.length_nil,List.range_zero,aW,List.map_nil]
   unfold qf
   split
   · rfl
   · rw[Cj,hrr,aLq,Ci]
     simp[bK,Ib,cW]
 | cons b bt=>
   rw[← hb]
   have hne:List.range bs.length=0::(List.range' 1 bt.length):=by rw[hb];simp[List.range_eq_range',List.range'_succ]
   have hrr:=xP (f:=dR (List.range bs.length) H.length) hr
   simp only[depth]at hrr
   have hw:qf H H (List.range bs.length) (r,aW bs)=xQ H H.length (List.range bs.length) (r,aW bs):=by
    rw[hne];rfl
   rw[hw,Cj,hrr,aLq,Ci,hro,aLq,Ic,List.length_range,List.take_of_length_le (by rw[eD];exact aLs _),hput,
    List.drop_eq_nil_of_le (by rw[eD];exact aLs _),List.append_nil]
theorem Bc(H:ah)(cs:List D)(hc:∀i,mP H [] i cs=some cs∧cE H [] i cs=[]):∀(ts:List T) (i:Nat),mP H [] i (ts.map .t++cs)=some (ts.map .t++cs)∧cE H [] i (ts.map .t++cs)=[]
 | [],i=>hc i
 | t::ts,i=>by
   obtain⟨h1,h2⟩:=Bc H cs hc ts (i+1)
   simp only[List.map_cons,List.cons_append,wU,oh,Av,JI,Sc,aLq,Fw,h1,h2,Sw,Fu]
   exact⟨rfl,rfl⟩
theorem zr(H:ah):∀(l:List Nat) (i:Nat),mP H [] i (l.map fun i=> .bp i 0)=some (l.map fun i=> .bp i 0)∧cE H [] i (l.map fun i=> .bp i 0)=[]
 | [],i=>⟨rfl,rfl⟩
 | a::l,i=>by
   obtain⟨h1,h2⟩:=zr H l (i+1)
   simp only[List.map_cons,wU,oh,Av,JI,LZ,aLq,Fw,h1,h2,Sw,L9]
   exact⟨rfl,rfl⟩
theorem zt(n m:Nat):uU n (fZ m)=List.range m:=by
 simp only[uU,fZ,List.flatMap_map]
 have:∀l:List Nat,(l.flatMap fun a=>ids n (.bp a 0))=l:=by
  intro l
  induction l with
  | nil=>rfl
  | cons a l ih=>rw[List.flatMap_cons,ih,SA];rfl
 exact this _
theorem Cq(n m:Nat):bK (ren (idxOf (List.range m)) n) (fZ m)=some (fZ m):=Ba fun d hd=>by
 simp only[fZ,List.mem_map,aLu]at hd
 obtain⟨k,hk,rfl⟩:=hd
 rw[SE,A9 hk];rfl
theorem xU{α β:Type}{f:α→Option β}:∀ {a b:List α} {x y:List β},bK f a=some x→bK f b=some y→bK f (a++b)=some (x++y)
 | [],b,x,y,h1,h2=>by simp[bK]at h1;subst h1;exact h2
 | c::a,b,x,y,h1,h2=>by
   simp only[bK,aLa,aLb]at h1
   obtain⟨z,hz,r,hr,rfl⟩:=h1
   simp only[List.cons_append,bK,hz,aLq,xU hr h2,aLw]
theorem FH(call:aP)(bs:List (List T))(E:ah)(f raw:Nat)(ts:List T){r:D}(h:call raw f (ts.map .t++fZ bs.length) (aW bs)=some (r,aW bs))(hr:tJ r=true):
 Dk (aW bs++E) call f raw [] (ts.map .t++fZ bs.length)=some (r,aW bs++E):=
 zq call bs E f raw _ h hr (fun H=>Bc H _ (zr H _) ts 0)
  (by rw[Cl,Ck,List.nil_append,zt,sA _ _ (by simpa using List.nodup_range),List.nil_append])
  (xU (pd _ _ _) (Cq _ _))
theorem MC(call:aP)(bs:List (List T))(E:ah)(g f raw:Nat)(ts:List T){r:D}(h:call raw f (ts.map .t++[.fn g (fZ bs.length)]) (aW bs)=some (r,aW bs))(hr:tJ r=true):
 Dk (aW bs++E) call f raw [] (ts.map .t++[.fn g (fZ bs.length)])=some (r,aW bs++E):=
 zq call bs E f raw _ h hr (fun H=>Bc H _ (fun i=>⟨rfl,rfl⟩) ts 0)
  (by rw[Cl,Ck,List.nil_append,Fx,SB,zt,Ie,List.append_nil,sA _ _ (by simpa using List.nodup_range),List.nil_append])
  (xU (pd _ _ _) (by rw[zg,SI,Cq];rfl))
theorem zu{f:Nat}{bs:List (List T)}{x:T}{r:D}(E:ah)(h:aS 0 f (.t x::fZ bs.length) (aW bs)=some (r,aW bs))(hr:tJ r=true):
 Dk (aW bs++E) aS f 0 [] (.t x::fZ bs.length)=some (r,aW bs++E):=FH aS bs E f 0 [x] h hr
theorem pe{f:Nat}{bs:List (List T)}{x:T}{r:D}(h:aS 0 f (.t x::fZ bs.length) (aW bs)=some (r,aW bs))(hr:tJ r=true):
 Dk (aW bs) aS f 0 [] (.t x::fZ bs.length)=some (r,aW bs):=by
 have:=zu [] h hr;rwa [List.append_nil]at this
theorem wW(call:aP)(bs:List (List T))(g f raw:Nat)(x:T){r:D}(h:call raw f [.t x,.fn g (fZ bs.length)] (aW bs)=some (r,aW bs))(hr:tJ r=true):
 Dk (aW bs) call f raw [] [.t x,.fn g (fZ bs.length)]=some (r,aW bs):=by
 have:=MC call bs [] g f raw [x] h hr
 rwa [List.append_nil]at this
section
variable (bs : List (List T)) (o o' : Obj)
@[go_sem] theorem Io : (aW bs).length = bs.length := eD bs
@[go_sem] theorem PJ : (aW bs ++ [o])[bs.length]? = some o := by
 rw[aLh (by rw[eD];exact aLs _),eD];simp
@[go_sem] theorem SR : (aW bs ++ [o]).set bs.length o' = aW bs ++ [o'] := by
 rw[List.set_append_right _ _ (by rw[eD];exact aLs _),eD];simp
@[go_sem] theorem PM : (aW bs ++ [o]).take bs.length = aW bs := by
 rw[List.take_append_of_le_length (by rw[eD];exact aLs _),List.take_of_length_le (by rw[eD];exact aLs _)]
@[go_sem] theorem MD : (aW bs ++ [o]).take (bs.length + 1) = aW bs ++ [o] := List.take_of_length_le (by simp [eD])
@[go_sem] theorem ME : (aW bs).take bs.length = aW bs := List.take_of_length_le (by simp [eD])
@[go_sem] theorem MF (k : Nat) (a b : ah) : fe k (a ++ b) = (fe k a && fe k b) := by
 rw[← kz,←kz,←kz,List.all_append]
@[go_sem] theorem Ip (k : Nat) : fe k (aW bs) = true := by
 induction bs with
 | nil=>rfl
 | cons b r ih=>
   show(fL k 8 (b.map .t)&&fe k (aW r))=true
   rw[Cg,ih];rfl
@[go_sem] theorem VF (n : Nat) : ltB n (n + 1) = true := by rw [mZ]; simp
@[go_sem] theorem VG (n : Nat) : ltB n n = false := by rw [mZ]; simp
theorem tw(k n m:Nat)(h:m≤k):fL k n (fZ m)=true:=by
 unfold fL fZ
 rw[aLx]
 intro d hd
 obtain⟨i,hi,rfl⟩:=List.mem_map.1 hd
 rw[Sd,mZ]
 have:=aLu.1 hi
 simp;omega
@[go_sem] theorem MG (n m : Nat) : fL m n (fZ m) = true := tw _ _ _ (aLs _)
@[go_sem] theorem JU (n m : Nat) : fL (m + 1) n (fZ m) = true := tw _ _ _ (Nat.le_succ _)
end
def kI(n:Nat)(p:Nat→Bool):List Int:=((List.range n).filter p).map (fun(i:Nat)=>(i:Int))
theorem uX(n:Nat)(p:Nat→Bool):kI (n+1) p=if p n=true then kI n p++[(n:Int)]else kI n p:=by
 unfold kI
 rw[List.range_succ,List.filter_append,List.map_append]
 by_cases h:p n=true<;>simp[h]
theorem wX(n:Nat)(p:Nat→Bool):(kI n p).length≤n:=by
 unfold kI
 rw[List.length_map]
 have:=List.length_filter_le p (List.range n)
 simpa using this
theorem Iq(n:Nat)(hn:n≤1000000)(f:Nat)(bs:List (List T))(p:Nat→Bool)(h:∀k,k<n→aS 0 f (I k::fZ bs.length) (aW bs)=some (B (p k),aW bs)):
 aS 0 N.dY [I n,.fn f (fZ bs.length)] (aW bs)=some (.t (tL (kI n p)),aW bs):=by
 refine aE K.nf rfl ?_
 have hlen:=fun k=>wX k p
 have loop:exS aS K.pO ⟨[I n,.fn f (fZ bs.length),.nil,.ref bs.length 0 0,.und,I n,I 0],aW bs++[.arr 1 false 0 []]⟩=
  some (.exit 0,⟨[.und,.fn f (fZ bs.length),.und,.ref bs.length 0 (kI n p).length,.und,I n,I n],aW bs++[.arr 1 false 0 (((kI n p).map (T.int .i64)).map .t)]⟩):=by
  refine eK (fun j=>⟨[.und,.fn f (fZ bs.length),.und,.ref bs.length 0 (kI j p).length,.und,I n,I j],aW bs++[.arr 1 false 0 (((kI j p).map (T.int .i64)).map .t)]⟩) n rfl ?_ ?_ (by simp)
  · intro j hj
    have hc:=zu [.arr 1 false 0 (((kI j p).map (T.int .i64)).map .t)] (h j hj) rfl
    have:=hlen j
    by_cases hp:p j=true
    · simp(disch:=omega)only[go_sem,K.jq,hc,hp,uX,↓reduceIte]
    · simp(disch:=omega)only[go_sem,K.jq,hc,hp,uX,↓reduceIte]
  · simp(disch:=omega)only[go_sem,K.jq,↓reduceIte]
 simp(disch:=omega)only[go_sem,K.dY,↓reduceIte,loop]
end Go.Ev
namespace Go.Ev
open Go
variable [Lib] [cH] [b7]
theorem lx{α:Type}(sz:Nat)(f:α→T)(h:∀a,lE sz (f a).cells=true):∀l:List α,cr sz (l.map f)=true
 | []=>rfl
 | a::l=>by rw[List.map_cons,qY,h,lx sz f h l];rfl
@[go_sem] theorem JV (k : IntKind) (l : List Int) : cr 1 (l.map (.int k)) = true := lx 1 _ (fun _ => rfl) l
theorem rr(sz:Nat):∀ts:List T,(ts.all fun e=>e.cells.length==sz)=cr sz ts
 | []=>rfl
 | t::ts=>by
   rw[List.all_cons,qY,rr sz ts]
   congr 1
   rw[Bool.eq_iff_iff,eG];simp
section
variable (H : ah) (sz : Nat) (ts : List T) (i j : Int)
@[go_sem] theorem YF : zj H sz (some (.t (.sl ts))) (some none) (some (some i)) = if 0 ≤ i then (if i ≤ ts.length then (if cr sz ts = true then some (.t (.sl (ts.take i.toNat)), H) else none) else none) else none := by
 simp only[zj,aLq,kZ,bound,rr,idx]
 by_cases h1:0≤i
 · rw[if_pos h1,if_pos h1,aLq]
   by_cases h2:i≤ts.length
   · rw[if_pos h2]
     by_cases h3:cr sz ts=true
     · rw[if_pos h3,if_pos ⟨by omega,by omega,h3⟩];rfl
     · rw[if_neg h3,if_neg fun h=>h3 h.2.2];rfl
   · rw[if_neg h2,if_neg fun h=>h2 (by omega)];rfl
 · rw[if_neg h1,if_neg h1];rfl
@[go_sem] theorem YG : zj H sz (some (.t (.sl ts))) (some (some i)) (some none) = if 0 ≤ i then (if i ≤ ts.length then (if cr sz ts = true then some (.t (.sl (ts.drop i.toNat)), H) else none) else none) else none := by
 simp only[zj,aLq,kZ,bound,rr,idx]
 by_cases h1:0≤i
 · rw[if_pos h1,if_pos h1,aLq]
   by_cases h2:i≤ts.length
   · rw[if_pos h2]
     by_cases h3:cr sz ts=true
     · rw[if_pos h3,if_pos ⟨by omega,by omega,h3⟩,List.take_of_length_le (by simp)];rfl
     · rw[if_neg h3,if_neg fun h=>h3 h.2.2];rfl
   · rw[if_neg h2,if_neg fun h=>h2 (by omega)];rfl
 · rw[if_neg h1,if_neg h1];rfl
@[go_sem] theorem SS : zj H sz (some (.t (.sl ts))) (some (some i)) (some (some j)) = if 0 ≤ i then (if i ≤ j then (if j ≤ ts.length then (if cr sz ts = true then some (.t (.sl ((ts.drop i.toNat).take (j.toNat - i.toNat))), H) else none) else none) else none) else none := by
 simp only[zj,aLq,kZ,bound,rr,idx]
 by_cases h1:0≤i
 · rw[if_pos h1,if_pos h1,aLq]
   by_cases h0:i≤j
   · rw[if_pos h0,if_pos (by omega:0≤j),aLq]
     by_cases h2:j≤ts.length
     · rw[if_pos h2]
       by_cases h3:cr sz ts=true
       · rw[if_pos h3,if_pos ⟨by omega,by omega,h3⟩];rfl
       · rw[if_neg h3,if_neg fun h=>h3 h.2.2];rfl
     · rw[if_neg h2,if_neg fun h=>h2 (by omega)];rfl
   · rw[if_neg h0]
     by_cases h2:0≤j
     · rw[if_pos h2,aLq,if_neg fun h=>h0 (by omega)];rfl
     · rw[if_neg h2];rfl
 · rw[if_neg h1,if_neg h1];rfl
end
def bsK(H:ah)(l:List Nat):Option T→Option (D×ah)
 | some t=>some (.t (.sl [t]),pins H l)
 | none=>none
@[go_sem] theorem VH (H : ah) (l : List Nat) (t : T) : bsK H l (some t) = some (.t (.sl [t]), pins H l) := (rfl)
@[go_sem] theorem VI (H : ah) (sz : Nat) (cs : List D) : wT H sz [.agg cs] = if lE sz cs = true then bsK H (ef H 8 (.agg cs)) (frz H 8 (.agg cs)) else none := by
 simp only[wT,List.all_cons,List.all_nil,Bool.and_true,D.cells]
 by_cases h:lE sz cs=true
 · rw[if_pos h,if_pos (by simpa using eG.1 h)]
   simp only[bK,depth,List.flatMap_cons,List.flatMap_nil,List.append_nil]
   cases frz H 8 (.agg cs)<;>rfl
 · rw[if_neg h,if_neg (by intro e;exact h (eG.2 (by simpa using e)))]
@[go_sem] theorem VJ (H : ah) (id ep n : Nat) : wT H 1 [.ref id ep n] = bsK H (ef H 8 (.ref id ep n)) (frz H 8 (.ref id ep n)) := by
 simp only[wT,List.all_cons,List.all_nil,Bool.and_true,D.cells,List.length_cons,List.length_nil,beq_self_eq_true,if_true,bK,depth,List.flatMap_cons,List.flatMap_nil,List.append_nil]
 cases frz H 8 (.ref id ep n)<;>rfl
def MH(H:ah)(r:D)(os:ah):D×ah:=(r,H++os)
@[go_sem] theorem VK (H : ah) (r : D) (os : ah) : MH H r os = (r, H ++ os) := (rfl)
def SU(H:ah)(os:ah)(r:D):Option (D×ah):=(bK (gj (dR [] H.length)) os).map (MH H r)
@[go_sem] theorem VL (H : ah) (os : ah) (r : D) : SU H os r = (bK (gj (dR [] H.length)) os).map (MH H r) := (rfl)
@[go_sem] theorem SV (H : ah) (r : D) (o : Obj) (os : ah) : uT H (r, o :: os) = (ren (dR [] H.length) 8 r).bind (SU H (o :: os)) := by
 simp only[uT,List.isEmpty_cons,Bool.and_false,aLt,if_false]
 rfl
end Go.Ev
namespace Go.Ev
open Go
variable [Lib] [cH] [b7]
structure Place where
 h:Int
 surf:Bool
instance : Dat Place := ⟨⟨0, false⟩⟩
abbrev Place.e(p:Place):T:= .agg [tI p.h,.bool p.surf]
structure Road where
 frm:Int
 to:Int
 len:Int
 area:Int
 walk:Bool
 closed:Bool
 restL:Int
 restH:Int
 liftL:Int
 liftH:Int
instance : Dat Road := ⟨⟨0, 0, 0, 0, false, false, 0, 0, 0, 0⟩⟩
abbrev Road.e(r:Road):T:= .agg [tI r.frm,tI r.to,tI r.len,tI r.area,.bool r.walk,.bool r.closed,tI r.restL,tI r.restH,tI r.liftL,tI r.liftH]
structure bV where
 av:List Place
 roads:List Road
instance : Dat bV := ⟨⟨[], []⟩⟩
abbrev bV.e(m:bV):T:= .agg [.sl (m.av.map Place.e),.sl (m.roads.map Road.e)]
structure Road.ok(n:Nat)(r:Road):Prop where
 f0:0≤r.frm
 f1:r.frm<n
 t0:0≤r.to
 t1:r.to<n
 ne:r.frm≠r.to
 l0:1≤r.len
 l1:r.len≤100000
 a0:1≤r.area
 a1:r.area≤1000
 r0:1≤r.restL
 r1:r.restL≤r.restH
 r2:r.restH≤262144
 i0: -2199023255552≤r.liftL
 i1:r.liftL≤r.liftH
 i2:r.liftH≤2199023255552
structure bV.ok(m:bV):Prop where
 np:m.av.length≤64
 nr:m.roads.length≤128
 hs:∀p∈m.av, -10000≤p.h∧p.h≤10000
 rs:∀r∈m.roads,r.ok m.av.length
theorem zv(a b lo hi:Int):aS 0 N.fM [.t (.agg [tI a,tI b]),I lo,I hi] []=some (B (decide (lo≤a∧a≤b∧b≤hi)),[]):=by
 refine aE K.ov rfl ?_
 by_cases h1:lo≤a<;>by_cases h2:a≤b<;>by_cases h3:b≤hi<;>simp(disch:=omega)only[go_sem,K.fM,↓reduceIte,h1,h2,h3]
theorem ru{m:bV}(h:m.ok):aS 0 N.dk [.t m.e] []=some (I 0,[]):=by
 refine aE K.m5 rfl ?_
 have np:=h.np
 have nr:=h.nr
 have loop1:∀a b c d e:D,exS aS K.pM ⟨[a,.bp 0 0,b,I 0,c,d,e],[.box [.t (.sl (m.av.map Place.e)),.t (.sl (m.roads.map Road.e))]]⟩=
  some (.exit 0,⟨[.und,.bp 0 0,.und,I m.av.length,.und,.und,.und],[.box [.t (.sl (m.av.map Place.e)),.t (.sl (m.roads.map Road.e))]]⟩):=by
  intro a b c d e
  refine eK (fun j=>⟨[.und,.bp 0 0,.und,I j,.und,.und,.und],[.box [.t (.sl (m.av.map Place.e)),.t (.sl (m.roads.map Road.e))]]⟩) m.av.length rfl ?_ ?_ (by simp)
  · intro j hj
    have hh:=h.hs _ (az hj)
    simp(disch:=omega)only[go_sem,K.kF,↓reduceIte]
  · simp(disch:=omega)only[go_sem,K.kF,↓reduceIte]
 have loop2:∀a b c d e:D,exS aS K.pN ⟨[a,.bp 0 0,b,c,d,I 0,e],[.box [.t (.sl (m.av.map Place.e)),.t (.sl (m.roads.map Road.e))]]⟩=
  some (.exit 2,⟨[.und,.bp 0 0,.und,.und,.und,I m.roads.length,.und],[.box [.t (.sl (m.av.map Place.e)),.t (.sl (m.roads.map Road.e))]]⟩):=by
  intro a b c d e
  refine eK (fun j=>⟨[.und,.bp 0 0,.und,.und,.und,I j,.und],[.box [.t (.sl (m.av.map Place.e)),.t (.sl (m.roads.map Road.e))]]⟩) m.roads.length rfl ?_ ?_ (by simp)
  · intro j hj
    obtain⟨f0,f1,t0,t1,ne,l0,l1,a0,a1,r0,r1,r2,i0,i1,i2⟩:=h.rs _ (az hj)
    have s1:=zv (nth m.roads j).restL (nth m.roads j).restH 1 262144
    have s2:=zv (nth m.roads j).liftL (nth m.roads j).liftH (-2199023255552) 2199023255552
    simp(disch:=omega)only[go_sem]at s1 s2
    simp(disch:=omega)only[go_sem,K.kG,↓reduceIte,s1,s2]
  · simp(disch:=omega)only[go_sem,K.kG,↓reduceIte]
 simp(disch:=omega)only[go_sem,K.dk,↓reduceIte,loop1,loop2]
theorem Bd{l:List Int}{p:Int→Bool}:((List.range l.length).find? fun j=>p (nth l j)).isSome=l.any p:=by
 rw[List.isSome_find?,Bool.eq_iff_iff,List.any_eq_true,List.any_eq_true]
 constructor
 · rintro ⟨j,hj,h⟩
   exact⟨_,az (aLu.1 hj),h⟩
 · rintro ⟨x,hx,h⟩
   obtain⟨j,hj⟩:=aLf.1 hx
   exact⟨j,aLu.2 (aLe.1 hj).1,by rw[bN hj];exact h⟩
theorem JW(l:List Int)(x:Int)(hl:l.length≤4294967296):aS 0 N.gY [.t (tL l),I x] []=some (B (decide (x∈l)),[]):=by
 refine aE K.qh rfl ?_
 have loop:∀a:D,exS aS K.th ⟨[.t (tL l),I x,a,I 0],[]⟩=
  some (match (List.range l.length).find? (fun j=>decide (nth l j=x))with
   | some j=>(.ret,⟨[.t (tL l),I x,B true,I j],[]⟩)
   | none=>(.exit 0,⟨[.t (tL l),I x,.und,I l.length],[]⟩)):=by
  intro a
  refine de (fun j=>⟨[.t (tL l),I x,.und,I j],[]⟩) l.length (fun j=>decide (nth l j=x)) _ _ rfl ?_ ?_ ?_ (by simp)
  · intro j hj hp
    have hp:¬nth l j=x:=of_decide_eq_false hp
    simp(disch:=omega)only[go_sem,K.ku,↓reduceIte]
  · intro j hj hp
    have hp:nth l j=x:=of_decide_eq_true hp
    simp(disch:=omega)only[go_sem,K.ku,↓reduceIte,hp]
    simp
  · simp(disch:=omega)only[go_sem,K.ku,↓reduceIte]
 have e:=Bd (l:=l) (p:=fun y=>decide (y=x))
 have e2:l.any (fun y=>decide (y=x))=decide (x∈l):=by rw[Bool.eq_iff_iff];simp
 rw[e2]at e
 simp only[go_sem,K.gY,↓reduceIte,loop]
 cases hf:(List.range l.length).find? (fun j=>decide (nth l j=x))with
 | some j=>rw[hf]at e;simp(disch:=omega)only[go_sem,↓reduceIte,←e]
 | none=>rw[hf]at e;simp(disch:=omega)only[go_sem,↓reduceIte,←e,Option.isSome_none]
theorem uY(a b:List Int)(hl:a.length≤4294967296):aS 0 N.bQ [.t (tL a),.t (tL b)] []=some (B (decide (a=b)),[]):=by
 refine aE K.kc rfl ?_
 by_cases hlen:a.length=b.length
 · have loop:∀c:D,exS aS K.mr ⟨[.t (tL a),.t (tL b),c,I 0],[]⟩=
    some (match (List.range a.length).find? (fun j=>decide (nth a j≠nth b j))with
     | some j=>(.ret,⟨[.t (tL a),.t (tL b),B false,I j],[]⟩)
     | none=>(.exit 0,⟨[.t (tL a),.t (tL b),.und,I a.length],[]⟩)):=by
    intro c
    refine de (fun j=>⟨[.t (tL a),.t (tL b),.und,I j],[]⟩) a.length (fun j=>decide (nth a j≠nth b j)) _ _ rfl ?_ ?_ ?_ (by simp)
    · intro j hj hp
      have hp:nth a j=nth b j:=by simpa using hp
      simp(disch:=omega)only[go_sem,K.gS,↓reduceIte]
    · intro j hj hp
      have hp:nth a j≠nth b j:=by simpa using hp
      simp(disch:=omega)only[go_sem,K.gS,↓reduceIte]
      simp
    · simp(disch:=omega)only[go_sem,K.gS,↓reduceIte]
   have e:(a=b)↔(List.range a.length).find? (fun j=>decide (nth a j≠nth b j))=none:=by
    rw[List.find?_eq_none]
    constructor
    · intro h j _;simp[h]
    · intro h
      apply List.ext_getElem?
      intro j
      by_cases hj:j<a.length
      · rw[gq hj,gq (by omega)]
        have:=h j (aLu.2 hj)
        simpa using this
      · rw[aLm (by omega),aLm (by omega)]
   simp(disch:=omega)only[go_sem,K.bQ,↓reduceIte,loop]
   cases hf:(List.range a.length).find? (fun j=>decide (nth a j≠nth b j))with
   | some j=>rw[hf]at e;simp(disch:=omega)only[go_sem,↓reduceIte,e];simp
   | none=>rw[hf]at e;simp(disch:=omega)only[go_sem,↓reduceIte,e]
 · have hne:a≠b:=fun h=>hlen (by rw[h])
   simp(disch:=omega)only[go_sem,K.bQ,↓reduceIte,hne]
def ZY(l:List Int)(n:Int):Bool:=(List.range l.length).all fun j=>decide (0≤nth l j∧nth l j<n∧(0<j→nth l (j-1)<nth l j))
theorem pf{n:Nat}{p:Nat→Bool}:((List.range n).all p)=((List.range n).find? fun j=> !p j).isNone:=by
 rw[← Option.not_isSome,List.isSome_find?,List.not_any_eq_all_not]
 simp
theorem Be(x lo hi:Int):aS 0 N.cK [I x,I lo,I hi] []=some (B (decide (lo≤x∧x≤hi)),[]):=by
 refine aE K.su rfl ?_
 by_cases h1:lo≤x<;>by_cases h2:x≤hi<;>simp(disch:=omega)only[go_sem,K.cK,↓reduceIte]
theorem Ir(l:List Int)(x:Int)(hl:l.length≤4294967296):aS 0 N.bq [.t (tL l),I x] []=
 some (I (match (List.range l.length).find? (fun j=>decide (nth l j=x))with | some j=>(j:Int) | none=> -1),[]):=by
 refine aE K.gO rfl ?_
 have loop:∀a b:D,exS aS K.jt ⟨[.t (tL l),I x,a,b,I l.length,I 0],[]⟩=
  some (match (List.range l.length).find? (fun j=>decide (nth l j=x))with
   | some j=>(.ret,⟨[.t (tL l),I x,I j,I j,I l.length,I j],[]⟩)
   | none=>(.exit 0,⟨[.t (tL l),I x,.und,.und,I l.length,I l.length],[]⟩)):=by
  intro a b
  refine de (fun j=>⟨[.t (tL l),I x,.und,.und,I l.length,I j],[]⟩) l.length (fun j=>decide (nth l j=x)) _ _ rfl ?_ ?_ ?_ (by simp)
  · intro j hj hp
    have hp:¬nth l j=x:=of_decide_eq_false hp
    simp(disch:=omega)only[go_sem,K.dS,↓reduceIte]
  · intro j hj hp
    have hp:nth l j=x:=of_decide_eq_true hp
    simp(disch:=omega)only[go_sem,K.dS,↓reduceIte,hp]
    simp
  · simp(disch:=omega)only[go_sem,K.dS,↓reduceIte]
 simp(disch:=omega)only[go_sem,K.bq,↓reduceIte,loop]
 cases hf:(List.range l.length).find? (fun j=>decide (nth l j=x))with
 | some j=>simp(disch:=omega)only[go_sem,↓reduceIte]
 | none=>simp(disch:=omega)only[go_sem,↓reduceIte]
theorem uZ(l:List Int)(x:Int)(hl:l.length≤4294967296):aS 0 N.aR [.t (tL l),I x] []=some (B (decide (x∈l)),[]):=by
 refine aE K.fA rfl ?_
 have h:=Ir l x hl
 have e:=Bd (l:=l) (p:=fun y=>decide (y=x))
 have e2:l.any (fun y=>decide (y=x))=decide (x∈l):=by rw[Bool.eq_iff_iff];simp
 rw[e2]at e
 cases hf:(List.range l.length).find? (fun j=>decide (nth l j=x))with
 | some j=>rw[hf]at e h;simp(disch:=omega)only[go_sem,K.aR,↓reduceIte,←e,h]
 | none=>rw[hf]at e h;simp(disch:=omega)only[go_sem,K.aR,↓reduceIte,←e,h,Option.isSome_none]
theorem zw(l:List Int)(hl:l.length≤4294967296)(f:Nat)(bs:List (List T))(p:Int→Bool)(h:∀x,x∈l→aS 0 f (I x::fZ bs.length) (aW bs)=some (B (p x),aW bs)):
 aS 0 N.a8 [.t (tL l),.fn f (fZ bs.length)] (aW bs)=
 some (I (match (List.range l.length).find? (fun j=>p (nth l j))with | some j=>(j:Int) | none=> -1),aW bs):=by
 refine aE K.ff rfl ?_
 have loop:∀a b:D,exS aS K.gZ ⟨[.t (tL l),.fn f (fZ bs.length),a,b,I l.length,I 0],aW bs⟩=
  some (match (List.range l.length).find? (fun j=>p (nth l j))with
   | some j=>(.ret,⟨[.t (tL l),.fn f (fZ bs.length),I j,I j,I l.length,I j],aW bs⟩)
   | none=>(.exit 0,⟨[.t (tL l),.fn f (fZ bs.length),.und,.und,I l.length,I l.length],aW bs⟩)):=by
  intro a b
  refine de (fun j=>⟨[.t (tL l),.fn f (fZ bs.length),.und,.und,I l.length,I j],aW bs⟩) l.length (fun j=>p (nth l j)) _ _ rfl ?_ ?_ ?_ (by simp)
  · intro j hj hp
    have hc:=pe (h _ (az hj)) rfl
    simp(disch:=omega)only[go_sem,K.dg,↓reduceIte,hc,hp]
  · intro j hj hp
    have hc:=pe (h _ (az hj)) rfl
    simp(disch:=omega)only[go_sem,K.dg,↓reduceIte,hp,hc]
    simp
  · simp(disch:=omega)only[go_sem,K.dg,↓reduceIte]
 simp(disch:=omega)only[go_sem,K.a8,↓reduceIte,loop]
 cases hf:(List.range l.length).find? (fun j=>p (nth l j))with
 | some j=>simp(disch:=omega)only[go_sem,↓reduceIte]
 | none=>simp(disch:=omega)only[go_sem,↓reduceIte]
theorem oB(l:List Int)(hl:l.length≤4294967296)(f:Nat)(bs:List (List T))(p:Int→Bool)(h:∀x,x∈l→aS 0 f (I x::fZ bs.length) (aW bs)=some (B (p x),aW bs)):
 aS 0 N.aG [.t (tL l),.fn f (fZ bs.length)] (aW bs)=some (B (l.any p),aW bs):=by
 refine aE K.dZ rfl ?_
 have h:=zw l hl f bs p h
 have hc:=wW aS bs f _ 0 (tL l) h rfl
 have e:=Bd (l:=l) (p:=p)
 cases hf:(List.range l.length).find? (fun j=>p (nth l j))with
 | some j=>rw[hf]at e hc;simp(disch:=omega)only[go_sem,K.aG,↓reduceIte,←e,hc]
 | none=>rw[hf]at e hc;simp(disch:=omega)only[go_sem,K.aG,↓reduceIte,←e,hc,Option.isSome_none]
theorem MI(r:Road)(back:Bool):aS 0 N.gE [.t r.e,B back] []=some (.tup [I (if back then r.to else r.frm),I (if back then r.frm else r.to)],[]):=by
 refine aE K.oA rfl ?_
 cases back<;>simp(disch:=omega)only[go_sem,K.gE,↓reduceIte]
def fF(m:bV)(k:Nat)(back:Bool)(up down level:Int):Int:=
 let x:=nth m.roads k
 if x.closed=true∨x.walk=false then -1 else
 let a:=if back then x.to else x.frm
 let b:=if back then x.frm else x.to
 let rise:=(nth m.av b.toNat).h-(nth m.av a.toNat).h
 let speed:=if -10*rise>x.len then down else if 10*rise>x.len then up else level
 (10*x.len+speed-1).tdiv speed
theorem qi{a b:Int}(ha:0≤a)(hb:1≤b):0≤a.tdiv b∧a.tdiv b≤a:=by
 rw[Int.tdiv_eq_ediv_of_nonneg ha]
 exact⟨Int.ediv_nonneg ha (by omega),Int.ediv_le_self _ ha⟩
theorem FI{m:bV}(h:m.ok)(k:Nat)(hk:k<m.roads.length)(back:Bool)(up down level:Int)(hu:1≤up)(hu2:up≤100)(hd:1≤down)(hd2:down≤100)(hl:1≤level)(hl2:level≤100):
 aS 0 N.bY [.t m.e,I k,B back,I up,I down,I level] []=some (I (fF m k back up down level),[]):=by
 refine aE K.lN rfl ?_
 have hc:=ru h
 have nr:=h.nr
 have np:=h.np
 obtain⟨f0,f1,t0,t1, -,l0,l1, -, -, -, -, -, -, -, -⟩:=h.rs _ (az hk)
 have he:=MI (nth m.roads k) back
 have b1:=h.hs _ (az (l:=m.av) (j:=(nth m.roads k).frm.toNat) (by omega))
 have b2:=h.hs _ (az (l:=m.av) (j:=(nth m.roads k).to.toNat) (by omega))
 unfold fF
 generalize hx:nth m.roads k=x at*
 obtain⟨frm,to,len,area,walk,closed,rl,rh,ll,lh⟩:=x
 simp only at f0 f1 t0 t1 l0 l1 b1 b2 he ⊢
 cases closed with
 | true=>simp(disch:=omega)only[go_sem,K.bY,↓reduceIte,hc,hx]
 | false=>
   cases walk with
   | false=>simp(disch:=omega)only[go_sem,K.bY,↓reduceIte,hc,hx]
   | true=>
     have g1:=qi (a:=10*len+up-1) (b:=up) (by omega) hu
     have g2:=qi (a:=10*len+down-1) (b:=down) (by omega) hd
     have g3:=qi (a:=10*len+level-1) (b:=level) (by omega) hl
     cases back with
     | true=>
       simp only[↓reduceIte]at he ⊢
       have w1:IntKind.i64.wrap ((nth m.av frm.toNat).h-(nth m.av to.toNat).h)=(nth m.av frm.toNat).h-(nth m.av to.toNat).h:=bz (by omega) (by omega)
       by_cases c2:len< -10*((nth m.av frm.toNat).h-(nth m.av to.toNat).h)
       · simp(disch:=omega)only[go_sem,K.bY,↓reduceIte,hc,hx,he,w1,gt_iff_lt]
       · by_cases c1:len<10*((nth m.av frm.toNat).h-(nth m.av to.toNat).h)
         · simp(disch:=omega)only[go_sem,K.bY,↓reduceIte,hc,hx,he,w1,gt_iff_lt]
         · simp(disch:=omega)only[go_sem,K.bY,↓reduceIte,hc,hx,he,w1,gt_iff_lt]
     | false=>
       simp only[aLt,↓reduceIte]at he ⊢
       have w1:IntKind.i64.wrap ((nth m.av to.toNat).h-(nth m.av frm.toNat).h)=(nth m.av to.toNat).h-(nth m.av frm.toNat).h:=bz (by omega) (by omega)
       by_cases c2:len< -10*((nth m.av to.toNat).h-(nth m.av frm.toNat).h)
       · simp(disch:=omega)only[go_sem,K.bY,↓reduceIte,hc,hx,he,w1,gt_iff_lt]
       · by_cases c1:len<10*((nth m.av to.toNat).h-(nth m.av frm.toNat).h)
         · simp(disch:=omega)only[go_sem,K.bY,↓reduceIte,hc,hx,he,w1,gt_iff_lt]
         · simp(disch:=omega)only[go_sem,K.bY,↓reduceIte,hc,hx,he,w1,gt_iff_lt]
theorem FJ{m:bV}(h:m.ok)(k:Nat)(hk:k<m.roads.length)(back:Bool):aS 0 N.fQ [.t m.e,I k,B back] []=some (I (fF m k back 6 9 12),[]):=by
 refine aE K.oz rfl ?_
 have hw:=FI h k hk back 6 9 12 (by omega) (by omega) (by omega) (by omega) (by omega) (by omega)
 simp(disch:=omega)only[go_sem,K.fQ,↓reduceIte,hw]
theorem xV{m:bV}(h:m.ok)(k:Nat)(hk:k<m.roads.length)(back:Bool): -1≤fF m k back 6 9 12∧fF m k back 6 9 12≤1000012:=by
 have l0:=(h.rs _ (az hk)).l0
 have l1:=(h.rs _ (az hk)).l1
 unfold fF
 simp only
 split
 · omega
 · generalize hs:(if -10*_>(nth m.roads k).len then(9:Int)else _)=s
   have h1:1≤s∧s≤12:=by
    rw[← hs]
    split
    · omega
    · split<;>omega
   have g1:=qi (a:=10*(nth m.roads k).len+s-1) (b:=s) (by omega) h1.1
   omega
def bnd(l:List Int):Prop:=∀x∈l,0≤x∧x≤1099511627776
def ko(l:List Int)(p q:Nat)(walk t:Int):Bool:=
 decide (0≤walk)&&decide (nth l p<1099511627776)&&decide (max t (nth l p+walk)≤2147483648)&&decide (max t (nth l p+walk)<nth l q)
def kJ(l:List Int)(p q:Nat)(walk t:Int):List Int:=if ko l p q walk t=true then l.set q (max t (nth l p+walk))else l
theorem xW(l:List Int)(hb:bnd l)(hl:l.length≤64)(p q:Int)(hp:0≤p)(hp2:p<l.length)(hq:0≤q)(hq2:q<l.length)(walk t:Int)(hw:walk≤1000000000)(ht:t≤1000000000000)(ht0: -1000000000000≤t):
 aS 0 N.cY [.ref 0 0 l.length,I p,I q,I walk,I t] [.arr 1 false 0 ((l.map (T.int .i64)).map .t)]=
  some (B (ko l p.toNat q.toNat walk t),[.arr 1 false 0 (((kJ l p.toNat q.toNat walk t).map (T.int .i64)).map .t)]):=by
 refine aE K.nu rfl ?_
 have b1:=hb _ (az (l:=l) (j:=p.toNat) (by omega))
 have b2:=hb _ (az (l:=l) (j:=q.toNat) (by omega))
 clear hb
 unfold kJ ko
 by_cases c1:0≤walk
 · by_cases c2:nth l p.toNat<1099511627776
   · by_cases c3:max t (nth l p.toNat+walk)≤2147483648
     · by_cases c4:max t (nth l p.toNat+walk)<nth l q.toNat
       · simp(disch:=omega)only[go_sem,K.cY,↓reduceIte]
       · simp(disch:=omega)only[go_sem,K.cY,↓reduceIte]
     · simp(disch:=omega)only[go_sem,K.cY,↓reduceIte]
   · simp(disch:=omega)only[go_sem,K.cY,↓reduceIte]
 · simp(disch:=omega)only[go_sem,K.cY,↓reduceIte]
def FK(into:Option (List Int))(p:Int):Bool:=match into with
 | none=>true
 | some l=>decide (p∈l)
def mu(into:Option (List Int)):D:=match into with
 | none=> .nil
 | some l=> .t (tL l)
def Road.src(r:Road)(back:Bool):Int:=if back then r.to else r.frm
def Road.dst(r:Road)(back:Bool):Int:=if back then r.frm else r.to
theorem Road.qL{n:Nat}{r:Road}(h:r.ok n)(back:Bool):0≤r.src back∧r.src back<n:=by
 unfold Road.src;have:=h.f0;have:=h.f1;have:=h.t0;have:=h.t1;cases back<;>simp<;>omega
theorem Road.wY{n:Nat}{r:Road}(h:r.ok n)(back:Bool):0≤r.dst back∧r.dst back<n:=by
 unfold Road.dst;have:=h.f0;have:=h.f1;have:=h.t0;have:=h.t1;cases back<;>simp<;>omega
def ec(m:bV)(t:Int)(into:Option (List Int))(k:Nat)(back:Bool)(l:List Int):List Int×Bool:=
 if FK into ((nth m.roads k).dst back)=true then
  (kJ l ((nth m.roads k).src back).toNat ((nth m.roads k).dst back).toNat (fF m k back 6 9 12) t,ko l ((nth m.roads k).src back).toNat ((nth m.roads k).dst back).toNat (fF m k back 6 9 12) t)
 else(l,false)
def qj(m:bV)(t:Int)(into:Option (List Int))(k:Nat)(s:List Int×Bool):List Int×Bool:=
 let a:=ec m t into k false s.1
 let b:=ec m t into k true a.1
 (b.1,s.2||a.2||b.2)
def dU(m:bV)(t:Int)(into:Option (List Int))(l:List Int):Nat→List Int×Bool
 | 0=>(l,false)
 | k+1=>qj m t into k (dU m t into l k)
def cV(m:bV)(t:Int)(into:Option (List Int))(l:List Int):List Int×Bool:=dU m t into l m.roads.length
theorem kA(l:List Int)(p q:Nat)(w t:Int):(kJ l p q w t).length=l.length:=by unfold kJ;split<;>simp
theorem mw(m:bV)(t:Int)(into:Option (List Int))(k:Nat)(back:Bool)(l:List Int):(ec m t into k back l).1.length=l.length:=by
 unfold ec;split
 · exact kA _ _ _ _ _
 · rfl
theorem df(m:bV)(t:Int)(into:Option (List Int))(l:List Int):∀k,(dU m t into l k).1.length=l.length
 | 0=>rfl
 | k+1=>by simp only[dU,qj,mw,df m t into l k]
theorem Bf{l:List Int}(h:bnd l){q:Nat}{x:Int}(h0:0≤x)(h1:x≤1099511627776):bnd (l.set q x):=by
 intro y hy
 rcases aLk hy with hy | hy
 · exact h y hy
 · subst hy;exact⟨h0,h1⟩
theorem wZ{l:List Int}(h:bnd l){p q:Nat}(hp:p<l.length){w t:Int}:bnd (kJ l p q w t):=by
 unfold kJ
 split
 · rename_i hc
   simp only[ko,aLr,decide_eq_true_eq]at hc
   have:=h _ (az hp)
   exact Bf h (by omega) (by omega)
 · exact h
section
variable {m : bV} (h : m.ok) {t : Int} {into : Option (List Int)}
include h
theorem oC{l:List Int}(hl:l.length=m.av.length)(hb:bnd l){k:Nat}(hk:k<m.roads.length)(back:Bool):bnd (ec m t into k back l).1:=by
 have r1:=Road.qL (h.rs _ (az hk)) back
 unfold ec
 split
 · exact wZ hb (by omega)
 · exact hb
theorem gH{l:List Int}(hl:l.length=m.av.length)(hb:bnd l):∀k,k≤m.roads.length→bnd (dU m t into l k).1
 | 0,_=>hb
 | k+1,hk=>by
   simp only[dU,qj]
   exact oC h (by rw[mw,df,hl]) (oC h (by rw[df,hl]) (gH hl hb k (by omega)) (by omega) _) (by omega) _
end
def ua(l:List Int):Nat:=(l.map Int.toNat).sum
theorem Cr:∀ {l:List Int} {q:Nat} {x:Int},q<l.length→0≤x→x<nth l q→ua (l.set q x)<ua l
 | [],q,x,h,_,_=>by simp at h
 | a::l,0,x,_,h0,h1=>by
   have h1:x<a:=by simpa [nth]using h1
   simp only[ua,List.set_cons_zero,List.map_cons,List.sum_cons];omega
 | a::l,q+1,x,h,h0,h1=>by
   have:=Cr (l:=l) (q:=q) (x:=x) (by simpa using h) h0 (by simpa [nth]using h1)
   simp only[ua,List.set_cons_succ,List.map_cons,List.sum_cons]at this ⊢;omega
theorem Dz{l:List Int}(hb:bnd l){p q:Nat}(hp:p<l.length)(hq:q<l.length){w t:Int}:
 (ko l p q w t=true→ua (kJ l p q w t)<ua l)∧(ko l p q w t=false→kJ l p q w t=l):=by
 unfold kJ
 constructor
 · intro hc
   rw[if_pos hc]
   simp only[ko,aLr,decide_eq_true_eq]at hc
   have:=hb _ (az hp)
   exact Cr hq (by omega) hc.2
 · intro hc;rw[if_neg (by simp[hc])]
section
variable {m : bV} (h : m.ok) {t : Int} {into : Option (List Int)}
include h
theorem u9{l:List Int}(hl:l.length=m.av.length)(hb:bnd l){k:Nat}(hk:k<m.roads.length)(back:Bool):
 ((ec m t into k back l).2=true→ua (ec m t into k back l).1<ua l)∧((ec m t into k back l).2=false→(ec m t into k back l).1=l):=by
 have r1:=Road.qL (h.rs _ (az hk)) back
 have r2:=Road.wY (h.rs _ (az hk)) back
 unfold ec
 split
 · exact Dz hb (by omega) (by omega)
 · simp
theorem my{l:List Int}(hl:l.length=m.av.length)(hb:bnd l):∀k,k≤m.roads.length→
 ((dU m t into l k).2=true→ua (dU m t into l k).1<ua l)∧((dU m t into l k).2=false→(dU m t into l k).1=l)
 | 0,_=>⟨fun h=>by simp[dU]at h,fun _=>rfl⟩
 | k+1,hk=>by
   obtain⟨i1,i2⟩:=my hl hb k (by omega)
   have hb1:=gH h (t:=t) (into:=into) hl hb k (by omega)
   have hl1:(dU m t into l k).1.length=m.av.length:=by rw[df,hl]
   obtain⟨a1,a2⟩:=u9 h (t:=t) (into:=into) hl1 hb1 (k:=k) (by omega) false
   have hb2:=oC h (t:=t) (into:=into) hl1 hb1 (k:=k) (by omega) false
   obtain⟨c1,c2⟩:=u9 h (t:=t) (into:=into) (by rw[mw,hl1]) hb2 (k:=k) (by omega) true
   simp only[dU,qj]
   generalize dU m t into l k=s at*
   obtain⟨sl,sb⟩:=s
   simp only at*
   generalize ec m t into k false sl=a at*
   obtain⟨al,ab⟩:=a
   simp only at*
   generalize ec m t into k true al=b at*
   obtain⟨bl,bb⟩:=b
   simp only at*
   cases sb<;>cases ab<;>cases bb<;>simp_all<;>omega
end
end Go.Ev
namespace Go.Ev
open Go
variable [Lib] [cH] [b7]
abbrev au(m:bV):List D:=[.t (.sl (m.av.map Place.e)),.t (.sl (m.roads.map Road.e))]
theorem MJ(H:ah)(into:Option (List Int))(hi:∀l,into=some l→l≠[]):pz H .sl false (some (mu into)) (some .nil)=some (B (into.isNone),H):=by
 cases into with
 | none=>rfl
 | some l=>exact tZ H _ (by simpa using hi l rfl)
@[go_sem] theorem SW (k n : Nat) (into : Option (List Int)) : old k n (mu into) = true := by
 cases into<;>simp only[mu,go_sem]
theorem DA{m:bV}(h:m.ok)(t:Int)(ht:t≤1000000000000)(ht0: -1000000000000≤t)(into:Option (List Int))(hi:∀l,into=some l→l≠[]∧l.length≤64)(l:List Int)(hl:l.length=m.av.length)(hb:bnd l)
 (k:Nat) (hk:k<m.roads.length) (ag:Bool):
 dB true [0,1,5,9] 2 (exS aS K.dM ⟨[.und,.und,I t,mu into,.bp 0 0,.und,.ref 1 0 l.length,B ag,I k,.und],[.box (au m),.arr 1 false 0 ((l.map (T.int .i64)).map .t)]⟩)=
  some ⟨[.und,.und,I t,mu into,.bp 0 0,.und,.ref 1 0 (qj m t into k (l,ag)).1.length,B (qj m t into k (l,ag)).2,I (k+1),.und],[.box (au m),.arr 1 false 0 (((qj m t into k (l,ag)).1.map (T.int .i64)).map .t)]⟩:=by
 have np:=h.np
 have nr:=h.nr
 have t1:=FJ h k hk false
 have t2:=FJ h k hk true
 have w1:=(xV h k hk false).2
 have w2:=(xV h k hk true).2
 obtain⟨f0,f1,t0,t1', -, -, -, -, -, -, -, -, -, -, -⟩:=h.rs _ (az hk)
 have e0:=fun H=>MJ H into fun l hl=>(hi l hl).1
 have lw1:=xW l hb (by omega) (nth m.roads k).frm (nth m.roads k).to f0 (by omega) t0 (by omega) (fF m k false 6 9 12) t (by omega) ht ht0
 have lw2:=xW l hb (by omega) (nth m.roads k).to (nth m.roads k).frm t0 (by omega) f0 (by omega) (fF m k true 6 9 12) t (by omega) ht ht0
 have hl':(kJ l (nth m.roads k).frm.toNat (nth m.roads k).to.toNat (fF m k false 6 9 12) t).length=l.length:=kA ..
 have lw3:=xW _ (wZ hb (p:=(nth m.roads k).frm.toNat) (q:=(nth m.roads k).to.toNat) (w:=fF m k false 6 9 12) (t:=t) (by omega)) (by omega) (nth m.roads k).to (nth m.roads k).frm t0 (by omega) f0 (by omega) (fF m k true 6 9 12) t (by omega) ht ht0
 rw[hl']at lw3
 simp only[qj,ec,Road.src,Road.dst,aLt,↓reduceIte]
 generalize hx:nth m.roads k=x at*
 obtain⟨frm,to,len,area,walk,closed,rl,rh,ll,lh⟩:=x
 simp only at f0 f1 t0 t1' lw1 lw2 lw3 hl' ⊢
 generalize hw1:fF m k false 6 9 12=v1 at*
 generalize hw2:fF m k true 6 9 12=v2 at*
 clear hb
 cases into with
 | none=>
   simp only[mu,FK,↓reduceIte,Option.isNone]at e0 ⊢
   cases c1:ko l frm.toNat to.toNat v1 t<;>cases c2:ko (kJ l frm.toNat to.toNat v1 t) to.toNat frm.toNat v2 t<;>rw[c1]at lw1<;>rw[c2]at lw3<;>
   simp(disch:=omega)only[go_sem,K.dM,↓reduceIte,hx,e0,t1,t2,lw1,lw3,kA,reduceAdd,reduceSub]
 | some s=>
   have hs:=(hi s rfl).2
   have g1:=JW s to (by omega)
   have g2:=JW s frm (by omega)
   simp only[mu,FK,Option.isNone]at e0 ⊢
   by_cases m1:to∈s<;>by_cases m2:frm∈s
   · simp only[m1,m2,decide_true,↓reduceIte]at g1 g2 ⊢
     cases c1:ko l frm.toNat to.toNat v1 t<;>cases c2:ko (kJ l frm.toNat to.toNat v1 t) to.toNat frm.toNat v2 t<;>rw[c1]at lw1<;>rw[c2]at lw3<;>
     simp(disch:=omega)only[go_sem,K.dM,↓reduceIte,hx,e0,t1,t2,lw1,lw3,g1,g2,c1,Bool.or_true,Bool.or_false,kA,reduceAdd,reduceSub]
   · simp only[m1,m2,decide_true,decide_false,↓reduceIte]at g1 g2 ⊢
     cases c1:ko l frm.toNat to.toNat v1 t<;>rw[c1]at lw1<;>
     simp(disch:=omega)only[go_sem,K.dM,↓reduceIte,hx,e0,t1,t2,lw1,g1,g2,c1,Bool.or_true,Bool.or_false,kA,reduceAdd,reduceSub]
   · simp only[m1,m2,decide_true,decide_false,↓reduceIte]at g1 g2 ⊢
     cases c1:ko l to.toNat frm.toNat v2 t<;>rw[c1]at lw2<;>
     simp(disch:=omega)only[go_sem,K.dM,↓reduceIte,hx,e0,t1,t2,lw2,g1,g2,c1,Bool.or_true,Bool.or_false,kA,reduceAdd,reduceSub]
   · simp only[m1,m2,decide_false,↓reduceIte]at g1 g2 ⊢
     simp(disch:=omega)only[go_sem,K.dM,↓reduceIte,hx,e0,t1,t2,g1,g2,reduceAdd,reduceSub]
theorem Cs{m:bV}(h:m.ok)(t:Int)(ht:t≤1000000000000)(ht0: -1000000000000≤t)(into:Option (List Int))(hi:∀l,into=some l→l≠[]∧l.length≤64)(l:List Int)(hl:l.length=m.av.length)(hb:bnd l):
 aS 0 N.eJ [.t m.e,.t (tL l),I t,mu into] []=some (.t (tL (iz (cV m t into) (ua l+1) l)),[])∧(iz (cV m t into) (ua l+1) l).length=m.av.length∧bnd (iz (cV m t into) (ua l+1) l):=by
 have nr:=h.nr
 have inner:∀(l:List Int),l.length=m.av.length→bnd l→∀(a b c d:D),exS aS K.pQ ⟨[a,b,I t,mu into,.bp 0 0,c,.ref 1 0 l.length,B false,I 0,d],[.box (au m),.arr 1 false 0 ((l.map (T.int .i64)).map .t)]⟩=
  some (.exit 2,⟨[.und,.und,I t,mu into,.bp 0 0,.und,.ref 1 0 l.length,B (cV m t into l).2,I m.roads.length,.und],[.box (au m),.arr 1 false 0 (((cV m t into l).1.map (T.int .i64)).map .t)]⟩):=by
  intro l hl hb a b c d
  refine eK (fun j=>⟨[.und,.und,I t,mu into,.bp 0 0,.und,.ref 1 0 (dU m t into l j).1.length,B (dU m t into l j).2,I j,.und],[.box (au m),.arr 1 false 0 (((dU m t into l j).1.map (T.int .i64)).map .t)]⟩) m.roads.length rfl ?_ ?_ (by simp)
  · intro j hj
    have:=DA h t ht ht0 into hi (dU m t into l j).1 (by rw[df,hl]) (gH h hl hb j (by omega)) j hj (dU m t into l j).2
    exact this
  · simp(disch:=omega)only[go_sem,K.dM,↓reduceIte,cV,df]
 have outer:=fun(a b c d e:D)=>Dy (gc:=true) (dead:=[0,1,5,8,9]) (c:=K.jr) (vs:=[a,b,I t,mu into,.bp 0 0,c,.ref 1 0 l.length,B true,d,e]) (H:=[.box (au m),.arr 1 false 0 ((l.map (T.int .i64)).map .t)])
  (fun l ag=>⟨[.und,.und,I t,mu into,.bp 0 0,.und,.ref 1 0 l.length,B ag,.und,.und],[.box (au m),.arr 1 false 0 ((l.map (T.int .i64)).map .t)]⟩)
  (fun l=>(.exit 0,⟨[.und,.und,I t,mu into,.bp 0 0,.und,.ref 1 0 l.length,B false,.und,.und],[.box (au m),.arr 1 false 0 ((l.map (T.int .i64)).map .t)]⟩))
  (cV m t into) (fun l=>l.length=m.av.length∧bnd l) ua
  (fun l ⟨hl,hb⟩=>⟨⟨by rw[cV,df,hl],gH h hl hb _ (aLs _)⟩,(my h hl hb _ (aLs _)).1⟩)
  (by
   rintro l ⟨hl,hb⟩
   have:=inner l hl hb
   have e:(cV m t into l).1.length=l.length:=by rw[cV,df]
   simp(disch:=omega)only[go_sem,K.jr,↓reduceIte,this,e])
  (by
   rintro l ⟨hl,hb⟩
   simp(disch:=omega)only[go_sem,K.jr,↓reduceIte,reduceCtorEq,ne_eq,not_false_eq_true,and_self])
  l ⟨hl,hb⟩ rfl
 obtain⟨-,o2⟩:=outer .und .und .und .und .und
 refine⟨?_,o2⟩
 refine aE K.nq rfl ?_
 have o1:∀a b c d e:D,exS aS K.pR ⟨[a,b,I t,mu into,.bp 0 0,c,.ref 1 0 l.length,B true,d,e],[.box (au m),.arr 1 false 0 ((l.map (T.int .i64)).map .t)]⟩=_:=fun a b c d e=>(outer a b c d e).1
 clear outer inner
 have np:=h.np
 have o2:=o2.1
 generalize iz (cV m t into) (ua l+1) l=l2 at*
 cases into with
 | none=>
   simp only[mu]at o1
   simp(disch:=omega)only[go_sem,K.eJ,↓reduceIte,o1,mu]
 | some s=>
   simp only[mu]at o1
   simp(disch:=omega)only[go_sem,K.eJ,↓reduceIte,o1,mu]
structure Wh where
 time:Int
 frm:List Int
instance : Dat Wh := ⟨⟨0, []⟩⟩
abbrev Wh.e(w:Wh):T:= .agg [tI w.time,tL w.frm]
def fD(m:bV)(t:Int)(into:Option (List Int))(l:List Int):List Int:=iz (cV m t into) (ua l+1) l
def inT(t:Int):Prop:=0≤t∧t≤2147483648
instance (t : Int) : Decidable (inT t) := by unfold inT; infer_instance
def plT(x:Int):Prop:=x=1099511627776∨inT x
instance (t : Int) : Decidable (plT t) := by unfold plT; infer_instance
def oD(w:Wh)(n:Int):Bool:=decide ((w.frm.length:Int)=n∧inT w.time)&&(List.range w.frm.length).all fun j=>decide (plT (nth w.frm j))
theorem xX{x:Int}(h:plT x):0≤x∧x≤1099511627776:=by unfold plT inT at h;omega
theorem FL(t:Int):aS 0 N.et [I t] []=some (B (decide (inT t)),[]):=by
 refine aE K.lM rfl ?_
 unfold inT
 by_cases h1:0≤t<;>by_cases h2:t≤2147483648<;>simp(disch:=omega)only[go_sem,K.et,↓reduceIte,h1,h2]
theorem Ct{m:bV}(h:m.ok)(t:Int)(ht:inT t)(l:List Int)(hl:l.length=m.av.length)(hb:bnd l):
 aS 0 N.eH [.t m.e,.t (tL l),I t] []=some (.t (tL (fD m t none l)),[]):=by
 refine aE K.ni rfl ?_
 unfold inT at ht
 have:=(Cs h t (by omega) (by omega) none (by simp) l hl hb).1
 simp only[mu]at this
 unfold fD
 simp(disch:=omega)only[go_sem,K.eH,↓reduceIte,this]
theorem Is(w:Wh)(n:Int)(hl:w.frm.length≤4294967296):aS 0 N.dF [.t w.e,I n] []=some (B (oD w n),[]):=by
 refine aE K.ns rfl ?_
 obtain⟨time,frm⟩:=w
 simp only at hl
 have loop:∀a b c:D,exS aS K.pS ⟨[a,b,.bp 0 0,c,I 0],[.box [I time,.t (tL frm)]]⟩=
  some (match (List.range frm.length).find? (fun j=> !decide (plT (nth frm j)))with
   | some j=>(.ret,⟨[.und,.und,.bp 0 0,B false,I j],[.box [I time,.t (tL frm)]]⟩)
   | none=>(.exit 0,⟨[.und,.und,.bp 0 0,.und,I frm.length],[.box [I time,.t (tL frm)]]⟩)):=by
  intro a b c
  refine de (fun j=>⟨[.und,.und,.bp 0 0,.und,I j],[.box [I time,.t (tL frm)]]⟩) frm.length (fun j=> !decide (plT (nth frm j))) _ _ rfl ?_ ?_ ?_ (by simp)
  · intro j hj hp
    have hp:plT (nth frm j):=by simpa using hp
    unfold plT inT at hp
    by_cases h1:nth frm j=1099511627776
    · simp(disch:=omega)only[go_sem,K.fS,↓reduceIte,h1]
    · simp(disch:=omega)only[go_sem,K.fS,↓reduceIte]
  · intro j hj hp
    have hp:¬plT (nth frm j):=by simpa using hp
    unfold plT inT at hp
    by_cases h2:0≤nth frm j
    · simp(disch:=omega)only[go_sem,K.fS,↓reduceIte]
      simp
    · simp(disch:=omega)only[go_sem,K.fS,↓reduceIte]
      simp
  · simp(disch:=omega)only[go_sem,K.fS,↓reduceIte]
 unfold oD
 rw[pf]
 by_cases h1:(frm.length:Int)=n
 · by_cases h2:0≤time
   · by_cases h3:time≤2147483648
     · have h4:inT time:=⟨h2,h3⟩
       simp(disch:=omega)only[go_sem,K.dF,↓reduceIte,loop,h1]
       cases hf:(List.range frm.length).find? (fun j=> !decide (plT (nth frm j)))with
       | some j=>simp(disch:=omega)only[go_sem,↓reduceIte,Option.isNone]
       | none=>simp(disch:=omega)only[go_sem,↓reduceIte,Option.isNone,h4,and_self,decide_true]
     · have h4:¬inT time:=by unfold inT;omega
       simp(disch:=omega)only[go_sem,K.dF,↓reduceIte,loop,h1,h4,and_false,decide_false]
   · have h4:¬inT time:=by unfold inT;omega
     simp(disch:=omega)only[go_sem,K.dF,↓reduceIte,loop,h1,h4,and_false,decide_false]
 · simp(disch:=omega)only[go_sem,K.dF,↓reduceIte,loop,h1,false_and,decide_false]
def eY(m:bV)(w:Wh):Bool:=oD w m.av.length&&decide (fD m w.time none w.frm=w.frm)
theorem qk{w:Wh}{n:Int}(h:oD w n=true):(w.frm.length:Int)=n∧inT w.time∧∀x∈w.frm,plT x:=by
 simp only[oD,aLr,decide_eq_true_eq,aLx,aLu]at h
 refine⟨h.1.1,h.1.2,fun x hx=>?_⟩
 obtain⟨j,hj⟩:=aLf.1 hx
 have:=h.2 j (aLe.1 hj).1
 rwa [bN hj]at this
theorem sB{m:bV}(h:m.ok)(t:Int)(ht:inT t)(into:Option (List Int))(hi:∀l,into=some l→l≠[]∧l.length≤64){l:List Int}(hl:l.length=m.av.length)(hb:bnd l):(fD m t into l).length=m.av.length:=by
 unfold inT at ht
 exact(Cs h t (by omega) (by omega) into hi l hl hb).2.1
theorem Cu{m:bV}(h:m.ok)(w:Wh)(hl:w.frm.length≤4294967296):aS 0 N.eI [.t m.e,.t w.e] []=some (B (eY m w),[]):=by
 refine aE K.nj rfl ?_
 have c:=ru h
 have p:=Is w m.av.length hl
 have np:=h.np
 unfold eY
 cases hp:oD w m.av.length with
 | false=>
   rw[hp]at p
   obtain⟨time,frm⟩:=w
   simp(disch:=omega)only[go_sem,K.eI,↓reduceIte,c,p,Bool.false_and,reduceAdd,reduceSub]
 | true=>
   obtain⟨h1,h2,h3⟩:=qk hp
   rw[hp]at p
   have hb:bnd w.frm:=fun x hx=>xX (h3 x hx)
   have cl:=Ct h w.time h2 w.frm (by omega) hb
   have ln:=sB h w.time h2 none (by simp) (l:=w.frm) (by omega) hb
   obtain⟨time,frm⟩:=w
   simp only at*
   have sm:=uY (fD m time none frm) frm (by omega)
   simp(disch:=omega)only[go_sem,K.eI,↓reduceIte,c,p,cl,sm,Bool.true_and,reduceAdd,reduceSub]
theorem FM(w:Wh)(hl:w.frm.length≤4294967296):aS 0 N.fO [.t w.e] []=some (.t w.e,[]):=by
 refine aE K.ox rfl ?_
 obtain⟨time,frm⟩:=w
 simp only at*
 simp(disch:=omega)only[go_sem,K.fO,↓reduceIte,reduceAdd,reduceSub]
def ly(n:Nat):List Int:=List.replicate n 1099511627776
theorem Bg(n:Nat):ly (n+1)=ly n++[1099511627776]:=List.replicate_succ'
@[simp] theorem mA (n : Nat) : (ly n).length = n := List.length_replicate
theorem xa(n:Nat):bnd (ly n):=fun x hx=>by rw[List.eq_of_mem_replicate hx];omega
theorem DB(n:Nat)(hn:n≤1000000)(a:D):exS aS K.pP ⟨[I n,a,.ref 0 0 0,I 0],[.arr 1 false 0 []]⟩=
 some (.exit 0,⟨[I n,.und,.ref 0 0 n,I n],[.arr 1 false 0 (((ly n).map (T.int .i64)).map .t)]⟩):=by
 refine eK (fun j=>⟨[I n,.und,.ref 0 0 (ly j).length,I j],[.arr 1 false 0 (((ly j).map (T.int .i64)).map .t)]⟩) n rfl ?_ ?_ (by simp)
 · intro j hj
   have:=mA j
   simp(disch:=omega)only[go_sem,K.kH,Bg,↓reduceIte]
 · simp(disch:=omega)only[go_sem,K.kH,↓reduceIte,mA]
theorem FN(n:Nat)(hn:n≤1000000):aS 1 N.fy [I n] []=some (.ref 0 0 n,[.arr 1 false 0 (((ly n).map (T.int .i64)).map .t)]):=by
 refine aE K.nh rfl ?_
 have:=DB n hn
 simp(disch:=omega)only[go_sem,K.fy,↓reduceIte,this]
def jF(m:bV)(p t:Int):Wh×Int:=
 if p<0∨(m.av.length:Int)≤p then(⟨0,[]⟩,3)else if inT t then(⟨t,fD m t none ((ly m.av.length).set p.toNat t)⟩,0)else(⟨0,[]⟩,8)
theorem Cv{m:bV}(h:m.ok)(p t:Int):aS 0 N.dD [.t m.e,I p,I t] []=some (.tup [.t (jF m p t).1.e,I (jF m p t).2],[]):=by
 refine aE K.m6 rfl ?_
 have c:=ru h
 have np:=h.np
 have it:=FL t
 have nl:=mA m.av.length
 have nv:=FN m.av.length (by omega)
 unfold jF
 by_cases h1:p<0
 · simp(disch:=omega)only[go_sem,K.dD,↓reduceIte,c,h1,true_or]
   rfl
 · by_cases h2:(m.av.length:Int)≤p
   · simp(disch:=omega)only[go_sem,K.dD,↓reduceIte,c,h1,h2,or_true]
     rfl
   · by_cases h3:inT t
     · have b:bnd ((ly m.av.length).set p.toNat t):=Bf (xa _) h3.1 (by have:=h3.2;omega)
       have cl:=Ct h t h3 ((ly m.av.length).set p.toNat t) (by simp) b
       simp only[h3,decide_true]at it
       simp(disch:=omega)only[go_sem,K.dD,↓reduceIte,c,h1,h2,or_self,h3,it,nv,mA,cl]
     · simp only[h3,decide_false]at it
       simp(disch:=omega)only[go_sem,K.dD,↓reduceIte,c,h1,h2,or_self,h3,it]
       rfl
def ql(w:Wh)(t:Int):List Int:=kI w.frm.length fun j=>decide (nth w.frm j≤t)
def ed(w:Wh)(t:Int):Wh×Int:=if t<w.time∨2147483648<t then(w,8)else(⟨t,w.frm⟩,0)
theorem Cw(w:Wh)(t:Int)(hl:w.frm.length≤1000000):aS 0 N.dE [.t w.e,I t] []=some (.tup [.t (ed w t).1.e,I (ed w t).2],[]):=by
 refine aE K.m9 rfl ?_
 have c:=FM w (by omega)
 obtain⟨time,frm⟩:=w
 simp only[ed]at*
 by_cases h1:t<time
 · simp(disch:=omega)only[go_sem,K.dE,↓reduceIte,c,h1,true_or]
 · by_cases h2:2147483648<t
   · simp(disch:=omega)only[go_sem,K.dE,↓reduceIte,c,h1,h2,or_true]
   · simp(disch:=omega)only[go_sem,K.dE,↓reduceIte,c,h1,h2,or_self]
def Cx(m:bV)(w:Wh)(av:List Int)(a b:Int):Int:=
 if eY m w=true∧av≠[]∧ZY av m.av.length=true then(if inT a∧inT b∧a≤b then 0 else 8)else 6
def MK(w:Wh)(t p:Int)(s:List Int×Bool):List Int×Bool:=if nth w.frm p.toNat≤t then(s.1.set p.toNat (nth w.frm p.toNat),true)else s
def YH(w:Wh)(l:List Int)(t:Int)(n:Nat):Nat→List Int×Bool
 | 0=>(ly n,false)
 | j+1=>MK w t (nth l j) (YH w l t n j)
def aaV(m:bV)(w:Wh)(l:List Int)(a b:Int):Wh×Int:=
 if Cx m w l a b≠0 then(w,Cx m w l a b)else if a<w.time then(w,42)else
 if(YH w l b m.av.length l.length).2=true then(⟨b,fD m a none (YH w l b m.av.length l.length).1⟩,0)else(w,43)
theorem jM{m:bV}{w:Wh}(h:eY m w=true):w.frm.length=m.av.length∧inT w.time∧(∀x∈w.frm,plT x)∧fD m w.time none w.frm=w.frm:=by
 simp only[eY,aLr,decide_eq_true_eq]at h
 obtain⟨h1,h2,h3⟩:=qk h.1
 exact⟨by omega,h2,h3,h.2⟩
def ZZ(l0 l:List Int):Nat→List Int
 | 0=>l0
 | j+1=>(ZZ l0 l j).set (nth l j).toNat 1099511627776
def aaW(m:bV)(w:Wh)(l:List Int)(a b bl:Int):Wh×Int:=
 if Cx m w l a b≠0 then(w,Cx m w l a b)else if ¬inT bl then(w,8)else if b<w.time then(w,42)else if b-max a w.time≤bl then(w,0)else
 (⟨b,fD m b none (fD m (b-bl) (some l) (ZZ w.frm l l.length))⟩,0)
def xb(a b:List Int):Nat→List Int
 | 0=>[]
 | j+1=>xb a b j++[min (nth a j) (nth b j)]
theorem kv(a b:List Int):∀j,(xb a b j).length=j
 | 0=>rfl
 | j+1=>by simp[xb,kv a b j]
def iY(a b:Wh):Wh×Int:=if a.frm.length=b.frm.length then(⟨max a.time b.time,xb a.frm b.frm a.frm.length⟩,0)else(⟨0,[]⟩,6)
theorem ML(a b:Wh)(ha:a.frm.length≤1000000):aS 0 N.fP [.t a.e,.t b.e] []=some (.tup [.t (iY a b).1.e,I (iY a b).2],[]):=by
 refine aE K.oy rfl ?_
 obtain⟨t1,l1⟩:=a
 obtain⟨t2,l2⟩:=b
 simp only[iY]at*
 by_cases hl:l1.length=l2.length
 · have ln:=kv l1 l2
   have loop:∀x y z:D,exS aS K.rq ⟨[x,y,.bp 0 0,.bp 1 0,.bp 2 0,z,.bp 3 0,I 0],[.box [I t1,.t (tL l1)],.box [I t2,.t (tL l2)],.box [I 0,.nil],.box [I (max t1 t2),.ref 5 0 0],.arr 1 false 0 [],.arr 1 false 0 []]⟩=
    some (.exit 0,⟨[.und,.und,.bp 0 0,.bp 1 0,.bp 2 0,.und,.bp 3 0,I l1.length],[.box [I t1,.t (tL l1)],.box [I t2,.t (tL l2)],.box [I 0,.nil],.box [I (max t1 t2),.ref 5 0 l1.length],.arr 1 false 0 [],.arr 1 false 0 (((xb l1 l2 l1.length).map (T.int .i64)).map .t)]⟩):=by
    intro x y z
    refine eK (fun j=>⟨[.und,.und,.bp 0 0,.bp 1 0,.bp 2 0,.und,.bp 3 0,I j],[.box [I t1,.t (tL l1)],.box [I t2,.t (tL l2)],.box [I 0,.nil],.box [I (max t1 t2),.ref 5 0 j],.arr 1 false 0 [],.arr 1 false 0 (((xb l1 l2 j).map (T.int .i64)).map .t)]⟩) l1.length rfl ?_ ?_ (by simp)
    · intro j hj
      have lj:=ln j
      simp(disch:=omega)only[go_sem,K.lK,↓reduceIte,xb,reduceAdd,reduceSub]
      done
    · simp(disch:=omega)only[go_sem,K.lK,↓reduceIte]
   have ln:=ln l1.length
   simp(disch:=omega)only[go_sem,K.fP,↓reduceIte,loop]
 · simp(disch:=omega)only[go_sem,K.fP,↓reduceIte,hl]
   rfl
structure Spn where
 low:Int
 high:Int
instance : Dat Spn := ⟨⟨0, 0⟩⟩
abbrev Spn.e(f:Spn):T:= .agg [tI f.low,tI f.high]
def Spn.ok(f:Spn):Prop:= -1125899906842624≤f.low∧f.high≤1125899906842624∧f.low≤f.high
instance (f : Spn) : Decidable f.ok := by unfold Spn.ok; infer_instance
def FO(m:bV)(l:List Spn):Bool:=(List.range l.length).all (fun j=>decide (nth l j).ok)&&decide (l.length=m.roads.length)
def sC(x:Road)(f:Spn)(back:Bool):Int:=
 if x.closed=true then -1 else
 let g:=if back then -f.low else f.high
 let out:=if 0<g then(x.len*x.area*1000).tdiv g else -1
 if(if back then f.low<500*x.area else -500*x.area<f.high)∧(out<0∨x.len<out)then x.len else out
def SX(l:List Int)(p q:Nat)(t:Int):Bool:=decide (0≤t∧nth l p+t<nth l q)
def YI(l:List Int)(p q:Nat)(t:Int):List Int:=if SX l p q t=true then l.set q (nth l p+t)else l
def JX(m:bV)(fl:List Spn)(k:Nat)(back:Bool)(l:List Int):List Int×Bool:=
 (YI l ((nth m.roads k).src back).toNat ((nth m.roads k).dst back).toNat (sC (nth m.roads k) (nth fl k) back),SX l ((nth m.roads k).src back).toNat ((nth m.roads k).dst back).toNat (sC (nth m.roads k) (nth fl k) back))
def SY(m:bV)(fl:List Spn)(k:Nat)(s:List Int×Bool):List Int×Bool:=
 let a:=JX m fl k false s.1
 let b:=JX m fl k true a.1
 (b.1,s.2||a.2||b.2)
def FP(m:bV)(fl:List Spn)(l:List Int):Nat→List Int×Bool
 | 0=>(l,false)
 | k+1=>SY m fl k (FP m fl l k)
def MM(m:bV)(fl:List Spn)(l:List Int):List Int×Bool:=FP m fl l m.roads.length
section
variable {m : bV} (h : m.ok) {fl : List Spn}
include h
end
def VM(l:List Int):Nat→List Int
 | 0=>l
 | j+1=>if 2147483648<nth (VM l j) j then(VM l j).set j 1099511627776 else VM l j
def JY(m:bV)(fl:List Spn)(l:List Int):List Int:=VM (iz (MM m fl) (ua l+1) l) m.av.length
end Go.Ev
namespace Go.Ev
open Go
variable [Lib] [cH] [b7]
def plS(t x:Int):Prop:=x=1099511627776∨(t≤x∧x≤2147483648)
instance (t x : Int) : Decidable (plS t x) := by unfold plS; infer_instance
def FQ(m:bV)(s:Wh):Bool:=(List.range s.frm.length).all (fun j=>decide (plS s.time (nth s.frm j)))&&decide (s.frm.length=m.av.length∧inT s.time)
def MN(l:List Int)(t:Int)(n:Nat):List Int:=(List.range n).map fun(p:Nat)=>if(p:Int)∈l then t else 1099511627776
@[simp] theorem SZ (l : List Int) (t : Int) (n : Nat) : (MN l t n).length = n := by simp [MN]
def S0(m:bV)(fl:List Spn)(l:List Int)(t:Int):Wh×Int:=
 if FO m fl=false then(⟨0,[]⟩,6)else if ZY l m.av.length=false then(⟨0,[]⟩,3)else if ¬inT t then(⟨0,[]⟩,8)else
 (⟨t,JY m fl (MN l t m.av.length)⟩,0)
def JZ(m:bV)(fl:List Spn)(frm:List Int)(t:Int)(k:Nat)(back:Bool)(l:List Int):List Int:=
 if nth frm ((nth m.roads k).src back).toNat≤t∧0≤sC (nth m.roads k) (nth fl k) back then l.set ((nth m.roads k).dst back).toNat (min (nth l ((nth m.roads k).dst back).toNat) t)else l
def S1(m:bV)(fl:List Spn)(frm:List Int)(t:Int)(k:Nat)(l:List Int):List Int:=JZ m fl frm t k true (JZ m fl frm t k false l)
def chN(m:bV)(fl:List Spn)(frm:List Int)(t:Int):Nat→List Int
 | 0=>frm
 | k+1=>S1 m fl frm t k (chN m fl frm t k)
def YJ(t:Int)(l:List Int):Nat→List Int
 | 0=>l
 | k+1=>(YJ t l k).set k (max (nth (YJ t l k) k) t)
def MO(m:bV)(old:List Spn)(next:bV)(fl:List Spn)(s:Wh)(t:Int):Wh×Int:=
 if FQ m s=false∨FO m old=false∨FO next fl=false∨next.av.length≠m.av.length then(s,6)else
 if t<s.time∨2147483648<t then(s,8)else(⟨t,JY next fl (YJ t (chN m old s.frm t m.roads.length) m.av.length)⟩,0)
theorem zx{gc:Bool}{dead:List Nat}{c:C}{vs:List D}{H:ah}(s:Nat→St)(n:Nat)(p:Nat→Bool)(P:Nat→Ex×St→Prop)(eN:Ex×St)
 (h0:(⟨iU dead vs,H⟩:St)=s 0) (hs:∀j,j<n→p j=false→dB gc dead (s j).H.length (exS aS c (s j))=some (s (j+1)))
 (he:∀j,j<n→p j=true→∃q,exS aS c (s j)=some q∧q.1≠ .normal∧P j q) (hN:exS aS c (s n)=some eN) (hn:eN.1≠ .normal):
 ((List.range n).find? p=none∧exS aS (.loop gc dead c) ⟨vs,H⟩=some eN)∨∃j q,(List.range n).find? p=some j∧exS aS (.loop gc dead c) ⟨vs,H⟩=some q∧P j q:=by
 classical
 let e:Nat→Ex×St:=fun j=>if h:j<n∧p j=true then Classical.choose (he j h.1 h.2)else eN
 have h2:∀j,j<n→p j=true→exS aS c (s j)=some (e j)∧(e j).1≠ .normal∧P j (e j):=by
  intro j hj hp
  have e1:e j=Classical.choose (he j hj hp):=dif_pos ⟨hj,hp⟩
  rw[e1]
  exact Classical.choose_spec (he j hj hp)
 have:=de s n p e eN h0 hs (fun j hj hp=>⟨(h2 j hj hp).1,(h2 j hj hp).2.1⟩) hN hn
 cases hf:(List.range n).find? p with
 | none=>rw[hf]at this;exact .inl ⟨rfl,this⟩
 | some j=>
   rw[hf]at this
   obtain⟨h3,h4⟩:=uW hf
   exact .inr ⟨j,e j,rfl,this,(h2 j h3 h4).2.2⟩
def oE(a b:List Int):Bool:=match (List.range (min a.length b.length)).find? (fun j=>decide (nth a j≠nth b j))with
 | some j=>decide (nth a j<nth b j)
 | none=>decide (a.length<b.length)
theorem Bh(a b:List Int)(ha:a.length≤1000000)(hb:b.length≤1000000):aS 0 N.fN [.t (tL a),.t (tL b)] []=some (B (oE a b),[]):=by
 refine aE K.ow rfl ?_
 have loop:∀c:D,exS aS K.rn ⟨[.t (tL a),.t (tL b),c,I 0],[]⟩=
  some (match (List.range (min a.length b.length)).find? (fun j=>decide (nth a j≠nth b j))with
   | some j=>(.ret,⟨[.t (tL a),.t (tL b),B (decide (nth a j<nth b j)),I j],[]⟩)
   | none=>(.exit 0,⟨[.t (tL a),.t (tL b),.und,I (min a.length b.length:Nat)],[]⟩)):=by
  intro c
  refine de (fun j=>⟨[.t (tL a),.t (tL b),.und,I j],[]⟩) (min a.length b.length) (fun j=>decide (nth a j≠nth b j)) _ _ rfl ?_ ?_ ?_ (by simp)
  · intro j hj hp
    have hp:nth a j=nth b j:=by simpa using hp
    simp(disch:=omega)only[go_sem,K.gG,↓reduceIte]
  · intro j hj hp
    have hp:nth a j≠nth b j:=by simpa using hp
    refine⟨?_,by simp⟩
    by_cases h1:nth a j<nth b j
    · simp(disch:=omega)only[go_sem,K.gG,↓reduceIte,h1,decide_true]
    · simp(disch:=omega)only[go_sem,K.gG,↓reduceIte,h1,decide_false]
  · by_cases h1:a.length≤b.length
    · have e:min a.length b.length=a.length:=by omega
      rw[e]
      simp(disch:=omega)only[go_sem,K.gG,↓reduceIte]
    · have e:min a.length b.length=b.length:=by omega
      rw[e]
      simp(disch:=omega)only[go_sem,K.gG,↓reduceIte]
 unfold oE
 simp(disch:=omega)only[go_sem,K.fN,↓reduceIte,loop]
 cases hf:(List.range (min a.length b.length)).find? (fun j=>decide (nth a j≠nth b j))with
 | some j=>simp(disch:=omega)only[go_sem,↓reduceIte]
 | none=>
   by_cases h1:a.length<b.length
   · simp(disch:=omega)only[go_sem,↓reduceIte,h1,decide_true]
   · simp(disch:=omega)only[go_sem,↓reduceIte,h1,decide_false]
def hX(l:List Int)(x:Int):Int:=match (List.range l.length).find? (fun j=>decide (nth l j=x))with
 | some j=>j
 | none=> -1
theorem rv(l:List Int)(x:Int)(hl:l.length≤1000000):aS 0 N.dL [.t (tL l),I x] []=some (I (hX l x),[]):=by
 refine aE K.lL rfl ?_
 have loop:∀c:D,exS aS K.oq ⟨[.t (tL l),I x,c,I 0],[]⟩=
  some (match (List.range l.length).find? (fun j=>decide (nth l j=x))with
   | some j=>(.ret,⟨[.t (tL l),I x,I j,I j],[]⟩)
   | none=>(.exit 0,⟨[.t (tL l),I x,.und,I l.length],[]⟩)):=by
  intro c
  refine de (fun j=>⟨[.t (tL l),I x,.und,I j],[]⟩) l.length (fun j=>decide (nth l j=x)) _ _ rfl ?_ ?_ ?_ (by simp)
  · intro j hj hp
    have hp:¬nth l j=x:=by simpa using hp
    simp(disch:=omega)only[go_sem,K.iR,↓reduceIte]
  · intro j hj hp
    have hp:nth l j=x:=by simpa using hp
    refine⟨?_,by simp⟩
    simp(disch:=omega)only[go_sem,K.iR,↓reduceIte,hp]
  · simp(disch:=omega)only[go_sem,K.iR,↓reduceIte]
 unfold hX
 simp(disch:=omega)only[go_sem,K.dL,↓reduceIte,loop]
 cases hf:(List.range l.length).find? (fun j=>decide (nth l j=x))with
 | some j=>simp(disch:=omega)only[go_sem,↓reduceIte]
 | none=>simp(disch:=omega)only[go_sem,↓reduceIte]
theorem DC{l:List Int}{x:Int}(h:0≤hX l x):hX l x<l.length∧nth l (hX l x).toNat=x:=by
 unfold hX at h ⊢
 cases hf:(List.range l.length).find? (fun j=>decide (nth l j=x))with
 | some j=>
   obtain⟨h1,h2⟩:=uW hf
   simp only[Int.toNat_natCast]
   exact⟨by omega,of_decide_eq_true h2⟩
 | none=>rw[hf]at h;simp at h
def kK(l:List Int)(j:Nat):Bool:=decide (1≤nth l j∧nth l j≤65535∧hX (l.take j) (nth l j)<0)
def eM(l:List Int):Bool:=(List.range l.length).all (kK l)
theorem zy(l:List Int)(hl:l.length≤1000000):aS 0 N.dK [.t (tL l)] []=some (B (eM l),[]):=by
 refine aE K.lG rfl ?_
 have loop:∀c:D,exS aS K.om ⟨[.t (tL l),c,I 0],[]⟩=
  some (match (List.range l.length).find? (fun j=> !kK l j)with
   | some j=>(.ret,⟨[.t (tL l),B false,I j],[]⟩)
   | none=>(.exit 0,⟨[.t (tL l),.und,I l.length],[]⟩)):=by
  intro c
  refine de (fun j=>⟨[.t (tL l),.und,I j],[]⟩) l.length (fun j=> !kK l j) _ _ rfl ?_ ?_ ?_ (by simp)
  · intro j hj hp
    have hp:kK l j=true:=by simpa using hp
    have b:=rv (l.take j) (nth l j) (by rw[List.length_take];omega)
    simp only[kK,decide_eq_true_eq]at hp
    simp only[tL,List.map_take]at b
    simp(disch:=omega)only[go_sem,K.fm,↓reduceIte,b]
  · intro j hj hp
    have hp:kK l j=false:=by simpa using hp
    have b:=rv (l.take j) (nth l j) (by rw[List.length_take];omega)
    simp only[kK,decide_eq_false_iff_not]at hp
    simp only[tL,List.map_take]at b
    refine⟨?_,by simp⟩
    by_cases h1:nth l j<1
    · simp(disch:=omega)only[go_sem,K.fm,↓reduceIte,b]
    · by_cases h2:65535<nth l j
      · simp(disch:=omega)only[go_sem,K.fm,↓reduceIte,b]
      · simp(disch:=omega)only[go_sem,K.fm,↓reduceIte,b]
  · simp(disch:=omega)only[go_sem,K.fm,↓reduceIte]
 unfold eM
 rw[pf]
 simp(disch:=omega)only[go_sem,K.dK,↓reduceIte,loop]
 cases hf:(List.range l.length).find? (fun j=> !kK l j)with
 | some j=>simp(disch:=omega)only[go_sem,↓reduceIte,Option.isNone]
 | none=>simp(disch:=omega)only[go_sem,↓reduceIte,Option.isNone]
structure World where
 tags:List Int
 whr:List Wh
instance : Dat World := ⟨⟨[], []⟩⟩
abbrev World.e(x:World):T:= .agg [tL x.tags,.sl (x.whr.map Wh.e)]
structure Bel where
 bD:List World
instance : Dat Bel := ⟨⟨[]⟩⟩
abbrev Bel.e(b:Bel):T:= .agg [.sl (b.bD.map World.e)]
def World.sz(x:World):Prop:=x.tags.length≤1000000∧x.whr.length≤1000000∧∀w∈x.whr,w.frm.length≤1000000
def Bel.sz(b:Bel):Prop:=b.bD.length≤1000000∧∀x∈b.bD,x.sz
@[go_sem] theorem MP (l : List Wh) : cr 2 (l.map Wh.e) = true := lx 2 _ (fun _ => rfl) l
@[go_sem] theorem He (l : List World) : cr 2 (l.map World.e) = true := lx 2 _ (fun _ => rfl) l
@[go_sem] theorem VN (l : List Wh) : lF 2 (l.map Wh.e) = true := by cases l <;> rfl
@[go_sem] theorem MQ (l : List World) : lF 2 (l.map World.e) = true := by cases l <;> rfl
theorem pT(x:World)(h:x.sz)(a:D):exS aS K.lq ⟨[a,.bp 0 0,.bp 1 0,.bp 3 0,I 0],[.box [.t (tL x.tags),.t (.sl (x.whr.map Wh.e))],.box [.nil,.nil],.arr 1 false 0 ((x.tags.map (T.int .i64)).map .t),.box [.ref 2 0 x.tags.length,.ref 5 0 0],.arr 2 false 0 [],.arr 2 false 0 []]⟩=
 some (.exit 0,⟨[.und,.bp 0 0,.bp 1 0,.bp 3 0,I x.whr.length],[.box [.t (tL x.tags),.t (.sl (x.whr.map Wh.e))],.box [.nil,.nil],.arr 1 false 0 ((x.tags.map (T.int .i64)).map .t),.box [.ref 2 0 x.tags.length,.ref 5 0 x.whr.length],.arr 2 false 0 [],.arr 2 false 0 ((x.whr.map Wh.e).map .t)]⟩):=by
 obtain⟨tags,whr⟩:=x
 obtain⟨h1,h2,h3⟩:=h
 simp only at h1 h2 h3 ⊢
 have tk:whr.take whr.length=whr:=by simp
 refine eK (fun j=>⟨[.und,.bp 0 0,.bp 1 0,.bp 3 0,I j],[.box [.t (tL tags),.t (.sl (whr.map Wh.e))],.box [.nil,.nil],.arr 1 false 0 ((tags.map (T.int .i64)).map .t),.box [.ref 2 0 tags.length,.ref 5 0 (whr.take j).length],.arr 2 false 0 [],.arr 2 false 0 (((whr.take j).map Wh.e).map .t)]⟩) whr.length rfl ?_ ?_ (by simp)
 · intro j hj
   have c:=FM (nth whr j) (by have:=h3 _ (az hj);omega)
   have lt:(whr.take j).length=j:=by rw[List.length_take];omega
   generalize hx:nth whr j=w at*
   obtain⟨time,frm⟩:=w
   have tk:whr.take (j+1)=whr.take j++[⟨time,frm⟩]:=by rw[ju hj,hx]
   generalize whr.take j=pre at*
   simp(disch:=omega)only[go_sem,K.iW,↓reduceIte,hx,c,lt,tk,reduceAdd,reduceSub]
 · simp(disch:=omega)only[go_sem,K.iW,↓reduceIte,tk]
theorem zz(x:World)(h:x.sz):aS 0 N.bG [.t x.e] []=some (.t x.e,[]):=by
 refine aE K.iq rfl ?_
 have loop:=pT x h
 obtain⟨tags,whr⟩:=x
 obtain⟨h1,h2,h3⟩:=h
 simp only at h1 h2 h3 loop ⊢
 simp(disch:=omega)only[go_sem,K.bG,↓reduceIte,loop]
theorem rz(x:World)(h:x.sz):aS 1 N.bG [.t x.e] []=some (.agg [.ref 0 0 x.tags.length,.ref 1 0 x.whr.length],[.arr 1 false 0 ((x.tags.map (T.int .i64)).map .t),.arr 2 false 0 ((x.whr.map Wh.e).map .t)]):=by
 refine aE K.iq rfl ?_
 have loop:=pT x h
 obtain⟨tags,whr⟩:=x
 obtain⟨h1,h2,h3⟩:=h
 simp only at h1 h2 h3 loop ⊢
 simp(disch:=omega)only[go_sem,K.bG,↓reduceIte,loop]
theorem tz(l:List World)(h1:l.length≤1000000)(h2:∀x∈l,x.sz)(a:D):exS aS K.q8 ⟨[a,.bp 0 0,.bp 1 0,.bp 2 0,I 0],[.box [.t (.sl (l.map World.e))],.box [.nil],.box [.ref 3 0 0],.arr 2 false 0 []]⟩=
 some (.exit 0,⟨[.und,.bp 0 0,.bp 1 0,.bp 2 0,I l.length],[.box [.t (.sl (l.map World.e))],.box [.nil],.box [.ref 3 0 l.length],.arr 2 false 0 ((l.map World.e).map .t)]⟩):=by
 have tk:l.take l.length=l:=by simp
 refine eK (fun j=>⟨[.und,.bp 0 0,.bp 1 0,.bp 2 0,I j],[.box [.t (.sl (l.map World.e))],.box [.nil],.box [.ref 3 0 (l.take j).length],.arr 2 false 0 (((l.take j).map World.e).map .t)]⟩) l.length rfl ?_ ?_ (by simp)
 · intro j hj
   have c:=zz (nth l j) (h2 _ (az hj))
   have lt:(l.take j).length=j:=by rw[List.length_take];omega
   generalize hx:nth l j=w at*
   obtain⟨tags,whr⟩:=w
   have tk:l.take (j+1)=l.take j++[⟨tags,whr⟩]:=by rw[ju hj,hx]
   generalize l.take j=pre at*
   simp(disch:=omega)only[go_sem,K.lH,↓reduceIte,hx,c,lt,tk,reduceAdd,reduceSub]
 · simp(disch:=omega)only[go_sem,K.lH,↓reduceIte,tk]
theorem DD(b:Bel)(h:b.sz):aS 0 N.eC [.t b.e] []=some (.t b.e,[]):=by
 refine aE K.lr rfl ?_
 obtain⟨h1,h2⟩:=h
 have loop:=tz b.bD h1 h2
 obtain⟨l⟩:=b
 simp only at h1 h2 loop ⊢
 simp(disch:=omega)only[go_sem,K.eC,↓reduceIte,loop]
theorem Bi(b:Bel)(h:b.sz):aS 1 N.eC [.t b.e] []=some (.agg [.ref 0 0 b.bD.length],[.arr 2 false 0 ((b.bD.map World.e).map .t)]):=by
 refine aE K.lr rfl ?_
 obtain⟨h1,h2⟩:=h
 have loop:=tz b.bD h1 h2
 obtain⟨l⟩:=b
 simp only at h1 h2 loop ⊢
 simp(disch:=omega)only[go_sem,K.eC,↓reduceIte,loop]
def Er(m:bV)(first:List Int)(x:World)(k:Nat):Bool:=decide (0≤hX first (nth x.tags k))&&eY m (nth x.whr k)
def mB(m:bV)(ws:List World)(first:List Int)(i:Nat):Bool:=
 decide ((nth ws i).tags.length=first.length∧(nth ws i).whr.length=first.length)&&eM (nth ws i).tags&&(decide (i=0)||oE (nth ws (i-1)).tags (nth ws i).tags)&&(List.range (nth ws i).tags.length).all (Er m first (nth ws i))
def yH(m:bV)(b:Bel):Bool:=
 decide (1≤b.bD.length∧b.bD.length≤24)&&decide (1≤(nth b.bD 0).tags.length∧(nth b.bD 0).tags.length≤12)&&(List.range b.bD.length).all (mB m b.bD (nth b.bD 0).tags)
theorem vd{m:bV}(h:m.ok)(ws:List World)(first:List Int)(hf:first.length≤1000000)(hs:∀x∈ws,x.sz)(i:Nat)(hi:i<ws.length)(hl:ws.length≤1000000):
 (mB m ws first i=true→dB true [0,1,4,7,8] 2 (exS aS K.bM ⟨[.und,.und,.bp 0 0,.bp 1 0,.und,.t (tL first),I i,.und,.und],[.box (au m),.box [.t (.sl (ws.map World.e))]]⟩)=some ⟨[.und,.und,.bp 0 0,.bp 1 0,.und,.t (tL first),I (i+1),.und,.und],[.box (au m),.box [.t (.sl (ws.map World.e))]]⟩)∧
 (mB m ws first i=false→∃q,exS aS K.bM ⟨[.und,.und,.bp 0 0,.bp 1 0,.und,.t (tL first),I i,.und,.und],[.box (au m),.box [.t (.sl (ws.map World.e))]]⟩=some q∧q.1= .ret∧q.2.vs[4]?=some (B false)):=by
 have np:=h.np
 have sz:=hs _ (az hi)
 have sz0:0<i→(nth ws (i-1)).sz:=fun h0=>hs _ (az (by omega))
 unfold mB
 generalize hy:nth ws (i-1)=y at*
 generalize hx:nth ws i=x at*
 obtain⟨tags,whr⟩:=x
 obtain⟨ptags,pwhr⟩:=y
 obtain⟨s1,s2,s3⟩:=sz
 simp only at s1 s2 s3 sz0 ⊢
 have p:=zy tags s1
 have inner:tags.length=first.length→whr.length=first.length→∀a b c:D,
  ((List.range tags.length).all (Er m first ⟨tags,whr⟩)=true∧exS aS K.lI ⟨[a,b,.bp 0 0,.bp 1 0,c,.t (tL first),I i,.bp 2 0,I 0],[.box (au m),.box [.t (.sl (ws.map World.e))],.box [.t (tL tags),.t (.sl (whr.map Wh.e))]]⟩=
    some (.exit 2,⟨[.und,.und,.bp 0 0,.bp 1 0,.und,.t (tL first),I i,.bp 2 0,I tags.length],[.box (au m),.box [.t (.sl (ws.map World.e))],.box [.t (tL tags),.t (.sl (whr.map Wh.e))]]⟩))∨
  ((List.range tags.length).all (Er m first ⟨tags,whr⟩)=false∧∃j,exS aS K.lI ⟨[a,b,.bp 0 0,.bp 1 0,c,.t (tL first),I i,.bp 2 0,I 0],[.box (au m),.box [.t (.sl (ws.map World.e))],.box [.t (tL tags),.t (.sl (whr.map Wh.e))]]⟩=
    some (.ret,⟨[.und,.und,.bp 0 0,.bp 1 0,B false,.t (tL first),I i,.bp 2 0,j],[.box (au m),.box [.t (.sl (ws.map World.e))],.box [.t (tL tags),.t (.sl (whr.map Wh.e))]]⟩)):=by
  intro l1 l2 a b c
  have:=de (gc:=true) (dead:=[0,1,4]) (c:=K.fR) (vs:=[a,b,.bp 0 0,.bp 1 0,c,.t (tL first),I i,.bp 2 0,I 0]) (H:=[.box (au m),.box [.t (.sl (ws.map World.e))],.box [.t (tL tags),.t (.sl (whr.map Wh.e))]])
   (fun j=>⟨[.und,.und,.bp 0 0,.bp 1 0,.und,.t (tL first),I i,.bp 2 0,I j],[.box (au m),.box [.t (.sl (ws.map World.e))],.box [.t (tL tags),.t (.sl (whr.map Wh.e))]]⟩) tags.length (fun j=> !Er m first ⟨tags,whr⟩ j)
   (fun j=>(.ret,⟨[.und,.und,.bp 0 0,.bp 1 0,B false,.t (tL first),I i,.bp 2 0,I j],[.box (au m),.box [.t (.sl (ws.map World.e))],.box [.t (tL tags),.t (.sl (whr.map Wh.e))]]⟩))
   (.exit 2,⟨[.und,.und,.bp 0 0,.bp 1 0,.und,.t (tL first),I i,.bp 2 0,I tags.length],[.box (au m),.box [.t (.sl (ws.map World.e))],.box [.t (tL tags),.t (.sl (whr.map Wh.e))]]⟩) rfl
   (by
    intro j hj hp
    have hp:Er m first ⟨tags,whr⟩ j=true:=by simpa using hp
    have b:=rv first (nth tags j) hf
    have v:=Cu h (nth whr j) (by have:=s3 _ (az (l:=whr) (j:=j) (by omega));omega)
    simp only[Er,aLr,decide_eq_true_eq]at hp
    rw[hp.2]at v
    have hp:=hp.1
    simp(disch:=omega)only[go_sem,K.fR,↓reduceIte,b,v])
   (by
    intro j hj hp
    have hp:Er m first ⟨tags,whr⟩ j=false:=by simpa using hp
    have b:=rv first (nth tags j) hf
    have v:=Cu h (nth whr j) (by have:=s3 _ (az (l:=whr) (j:=j) (by omega));omega)
    refine⟨?_,by simp⟩
    by_cases c1:hX first (nth tags j)<0
    · simp(disch:=omega)only[go_sem,K.fR,↓reduceIte,b,v]
    · have:eY m (nth whr j)=false:=by
       simp only[Er,Bool.and_eq_false_iff,decide_eq_false_iff_not]at hp
       rcases hp with hp | hp
       · exact absurd (by omega) hp
       · exact hp
      rw[this]at v
      simp(disch:=omega)only[go_sem,K.fR,↓reduceIte,b,v])
   (by simp(disch:=omega)only[go_sem,K.fR,↓reduceIte]) (by simp)
  cases hf:(List.range tags.length).find? (fun j=> !Er m first ⟨tags,whr⟩ j)with
  | none=>rw[hf]at this;exact .inl ⟨by rw[pf,hf];rfl,this⟩
  | some j=>rw[hf]at this;exact .inr ⟨by rw[pf,hf];rfl,⟨_,this⟩⟩
 by_cases l1:tags.length=first.length
 · by_cases l2:whr.length=first.length
   · cases hp:eM tags with
     | false=>
       rw[hp]at p
       refine⟨fun h=>by simp[hp]at h,fun _=>?_⟩
       simp(disch:=omega)only[go_sem,K.bM,↓reduceIte,hx,p]
       refine⟨_,rfl,?_,?_⟩<;>rfl
     | true=>
       rw[hp]at p
       have inner:=inner l1 l2
       cases i with
       | zero=>
         simp only[A8]at inner
         simp only[l1,l2,and_self,decide_true,Bool.true_and,Bool.true_or]at inner ⊢
         rcases inner .und .und .und with⟨e, -⟩ | ⟨e, -⟩
         · refine⟨fun _=>?_,fun h=>by rw[e]at h;exact absurd h (by simp)⟩
           have inner:=fun a b c=>((inner a b c).resolve_right fun h=>by rw[e]at h;exact absurd h.1 (by simp)).2
           simp(disch:=omega)only[go_sem,K.bM,↓reduceIte,hx,p,inner]
         · refine⟨fun h=>by rw[e]at h;exact absurd h (by simp),fun _=>?_⟩
           have inner:∀a b c,_:=fun a b c=>((inner a b c).resolve_left fun h=>by rw[e]at h;exact absurd h.1 (by simp)).2
           obtain⟨j,inner⟩:=inner .und .und .und
           simp(disch:=omega)only[go_sem,K.bM,↓reduceIte,hx,p,inner]
           refine⟨_,rfl,?_,?_⟩<;>rfl
       | succ i=>
         simp only[Du,Dv]at inner
         rw[Nat.add_sub_cancel]at hy
         have ls:=Bh ptags tags (sz0 (by omega)).1 s1
         cases hl:oE ptags tags with
         | false=>
           rw[hl]at ls
           refine⟨fun h=>by simp at h,fun _=>?_⟩
           simp(disch:=omega)only[go_sem,K.bM,↓reduceIte,hx,p,hy,ls]
           refine⟨_,rfl,?_,?_⟩<;>rfl
         | true=>
           rw[hl]at ls
           simp only[l1,l2,and_self,decide_true,Bool.true_and,Bool.or_true]at inner ⊢
           rcases inner .und .und .und with⟨e, -⟩ | ⟨e, -⟩
           · refine⟨fun _=>?_,fun h=>by rw[e]at h;exact absurd h (by simp)⟩
             have inner:=fun a b c=>((inner a b c).resolve_right fun h=>by rw[e]at h;exact absurd h.1 (by simp)).2
             simp(disch:=omega)only[go_sem,K.bM,↓reduceIte,hx,hy,ls,p,inner]
           · refine⟨fun h=>by rw[e]at h;exact absurd h (by simp),fun _=>?_⟩
             have inner:∀a b c,_:=fun a b c=>((inner a b c).resolve_left fun h=>by rw[e]at h;exact absurd h.1 (by simp)).2
             obtain⟨j,inner⟩:=inner .und .und .und
             simp(disch:=omega)only[go_sem,K.bM,↓reduceIte,hx,hy,ls,p,inner]
             refine⟨_,rfl,?_,?_⟩<;>rfl
   · refine⟨fun h=>by simp[l2]at h,fun _=>?_⟩
     simp(disch:=omega)only[go_sem,K.bM,↓reduceIte,hx,p]
     refine⟨_,rfl,?_,?_⟩<;>rfl
 · refine⟨fun h=>by simp[l1]at h,fun _=>?_⟩
   simp(disch:=omega)only[go_sem,K.bM,↓reduceIte,hx,p]
   refine⟨_,rfl,?_,?_⟩<;>rfl
theorem MR{m:bV}(h:m.ok)(b:Bel)(hs:b.sz):aS 0 N.cX [.t m.e,.t b.e] []=some (B (yH m b),[]):=by
 refine aE K.m8 rfl ?_
 obtain⟨h1,h2⟩:=hs
 have ck:=ru h
 obtain⟨ws⟩:=b
 unfold yH
 simp only at h1 h2 ⊢
 by_cases c1:ws.length<1
 · simp(disch:=omega)only[go_sem,K.cX,↓reduceIte,show ¬(1≤ws.length∧ws.length≤24)by omega,decide_false,Bool.false_and]
 · by_cases c2:24<ws.length
   · simp(disch:=omega)only[go_sem,K.cX,↓reduceIte,show ¬(1≤ws.length∧ws.length≤24)by omega,decide_false,Bool.false_and]
   · have c3:1≤ws.length∧ws.length≤24:=by omega
     have sz:=h2 _ (az (l:=ws) (j:=0) (by omega))
     have i0:(ws.map World.e)[0]?=some (nth ws 0).e:=fT _ (by omega)
     generalize hx:nth ws 0=x at*
     obtain⟨first,whr⟩:=x
     have hf:=sz.1
     simp only at hf ⊢
     by_cases c4:first.length<1
     · simp(disch:=omega)only[go_sem,K.cX,↓reduceIte,ck,hx,c3,and_self,show ¬(1≤first.length∧first.length≤12)by omega,decide_true,decide_false,Bool.true_and,Bool.false_and]
     · by_cases c5:12<first.length
       · simp(disch:=omega)only[go_sem,K.cX,↓reduceIte,ck,hx,c3,and_self,show ¬(1≤first.length∧first.length≤12)by omega,decide_true,decide_false,Bool.true_and,Bool.false_and]
       · have loop:=fun a b c d e=>zx (gc:=true) (dead:=[0,1,4,7,8]) (c:=K.bM) (vs:=[a,b,.bp 0 0,.bp 1 0,c,.t (tL first),I 0,d,e]) (H:=[.box (au m),.box [.t (.sl (ws.map World.e))]])
          (fun j=>⟨[.und,.und,.bp 0 0,.bp 1 0,.und,.t (tL first),I j,.und,.und],[.box (au m),.box [.t (.sl (ws.map World.e))]]⟩) ws.length (fun j=> !mB m ws first j) (fun _ q=>q.1= .ret∧q.2.vs[4]?=some (B false))
          (.exit 0,⟨[.und,.und,.bp 0 0,.bp 1 0,.und,.t (tL first),I ws.length,.und,.und],[.box (au m),.box [.t (.sl (ws.map World.e))]]⟩) rfl
          (fun j hj hp=>(vd h ws first hf h2 j hj h1).1 (by simpa using hp))
          (fun j hj hp=>by
           obtain⟨q,q1,q2,q3⟩:=(vd h ws first hf h2 j hj h1).2 (by simpa using hp)
           exact⟨q,q1,by rw[q2];simp,q2,q3⟩)
          (by simp(disch:=omega)only[go_sem,K.bM,↓reduceIte]) (by simp)
         rw[pf]
         rcases loop (.t m.e) (.t (Bel.e ⟨ws⟩)) (B false) .und .und with⟨e1,e2⟩ | ⟨j,⟨x,vs,H⟩,e1,e2,e3,e4⟩
         · have e2:exS aS K.lJ ⟨[.t m.e,.t (Bel.e ⟨ws⟩),.bp 0 0,.bp 1 0,B false,.t (tL first),I 0,.und,.und],[.box (au m),.box [.t (.sl (ws.map World.e))]]⟩=_:=e2
           simp(disch:=omega)only[go_sem,K.cX,↓reduceIte,ck,hx,c3,and_self,show(1≤first.length∧first.length≤12)by omega,decide_true,decide_false,Bool.true_and,e1,e2,Option.isNone]
         · have e2:exS aS K.lJ ⟨[.t m.e,.t (Bel.e ⟨ws⟩),.bp 0 0,.bp 1 0,B false,.t (tL first),I 0,.und,.und],[.box (au m),.box [.t (.sl (ws.map World.e))]]⟩=_:=e2
           simp only at e3 e4
           subst e3
           simp(disch:=omega)only[go_sem,K.cX,↓reduceIte,ck,hx,c3,and_self,show(1≤first.length∧first.length≤12)by omega,decide_true,decide_false,Bool.true_and,e1,e2,Option.isNone]
           simp(disch:=omega)only[go_sem,gV,e4,List.take_zero]
@[go_sem] theorem YK (H : ah) (a b : List T) : wT H 1 [.t (.sl a), .t (.sl b), .nil] = some (.t (.sl [.sl a, .sl b, .sl []]), H) := by
 simp only[wT,List.all_cons,List.all_nil,D.cells,T.cells,List.map_cons,List.map_nil,List.length_cons,List.length_nil,bK,frz,depth,ef,List.flatMap_cons,List.flatMap_nil,pins]
 rfl
def S2(c:Bool):Option Bool→Option Bool
 | some d=>some (c&&d)
 | none=>none
@[go_sem] theorem PN (c d : Bool) : S2 c (some d) = some (c && d) := (rfl)
@[go_sem] theorem PO : km [] [] = some true := (rfl)
@[go_sem] theorem MS (k : IntKind) (a b : Int) (xs ys : List T) : km (.int k a :: xs) (.int k b :: ys) = S2 (decide (a = b)) (km xs ys) := by
 simp only[km,if_true,Ud]
 cases km xs ys<;>rfl
def MT(H:ah)(neg:Bool):Option Bool→Option (D×ah)
 | some r=>some (.t (.bool (bif neg then !r else r)),H)
 | none=>none
@[go_sem] theorem PQ (H : ah) (r : Bool) : MT H true (some r) = some (.t (.bool (!r)), H) := (rfl)
@[go_sem] theorem MU (H : ah) (r : Bool) : MT H false (some r) = some (.t (.bool r), H) := (rfl)
@[go_sem] theorem MV (H : ah) (n : Nat) (neg : Bool) (xs ys : List T) : pz H (.ints n) neg (some (.t (.agg xs))) (some (.t (.agg ys))) = if xs.length = n then MT H neg (km xs ys) else none := by
 simp only[pz,aLq,KD,eqD]
 by_cases h:xs.length=n
 · simp only[if_pos h]
   cases km xs ys with
   | none=>rfl
   | some r=>cases neg<;>rfl
 · simp only[if_neg h];rfl
@[go_sem] theorem PR : ((2 : Nat) : Int) = 2 := (rfl)
@[go_sem] theorem J0 : ((3 : Nat) : Int) = 3 := (rfl)
def zA(n:Nat)(p:Nat→Bool):Nat:=((List.range n).find? p).getD 0
theorem FR{gc:Bool}{dead:List Nat}{c:C}{vs:List D}{H:ah}(s:Nat→St)(n:Nat)(p:Nat→Bool)(e:Nat→Ex×St)(eN:Ex×St)
 (h0:(⟨iU dead vs,H⟩:St)=s 0)
 (hs:∀j,j<n→p j=false→dB gc dead (s j).H.length (exS aS c (s j))=some (s (j+1)))
 (he:∀j,j<n→p j=true→exS aS c (s j)=some (e j)∧(e j).1≠ .normal)
 (hN:exS aS c (s n)=some eN) (hn:eN.1≠ .normal):
 exS aS (.loop gc dead c) ⟨vs,H⟩=some (if(List.range n).any p=true then e (zA n p)else eN):=by
 rw[de s n p e eN h0 hs he hN hn,←Cp]
 unfold zA
 cases hf:(List.range n).find? p with
 | none=>simp
 | some k=>simp
theorem MW{α:Type} [Dat α](l:List α)(p:α→Bool):((List.range l.length).any fun j=>p (nth l j))=l.any p:=by
 rw[Bool.eq_iff_iff,List.any_eq_true,List.any_eq_true]
 constructor
 · rintro ⟨j,hj,hp⟩
   exact⟨_,az (aLu.1 hj),hp⟩
 · rintro ⟨x,hx,hp⟩
   obtain⟨j,hj,rfl⟩:=List.getElem_of_mem hx
   exact⟨j,aLu.2 hj,by rw[bN (aLc hj)];exact hp⟩
theorem MX(n:Nat)(p:Nat→Bool):(List.range n).all p= !((List.range n).any fun j=> !p j):=by
 rw[List.all_eq_not_any_not]
end Go.Ev
namespace Go.Ev.N
def FT:Nat:=78
def Es:Nat:=79
def DE:Nat:=80
def MY:Nat:=81
def Hf:Nat:=82
def MZ:Nat:=83
def M0:Nat:=84
def M1:Nat:=85
def PS:Nat:=86
def J1:Nat:=87
def M3:Nat:=88
def J2:Nat:=89
def J3:Nat:=90
def PT:Nat:=91
def J4:Nat:=92
def PU:Nat:=93
def S3:Nat:=94
def S4:Nat:=95
def M4:Nat:=96
def PV:Nat:=97
def M5:Nat:=98
def M6:Nat:=99
def M7:Nat:=100
def PW:Nat:=101
def S5:Nat:=102
def Aw:Nat:=103
def It:Nat:=104
def dN:Nat:=105
def J5:Nat:=106
def PX:Nat:=107
def PY:Nat:=108
def M8:Nat:=109
def PZ:Nat:=110
def P0:Nat:=111
def M9:Nat:=112
def Na:Nat:=113
def P4:Nat:=114
def J6:Nat:=115
def P5:Nat:=116
def P6:Nat:=117
def J7:Nat:=118
def J8:Nat:=119
def Iu:Nat:=120
def Iv:Nat:=121
def Cy:Nat:=122
end Go.Ev.N
namespace Go.Ev.K
open Go.Ev
end Go.Ev.K
namespace Go.Ev
class gI [Lib]:Prop where
namespace K
variable [Lib] [gI]
end K
end Go.Ev
namespace Go.Ev.K
open Go.Ev
def ea:C:= (.its [u (.bin .lss v8 v7)] [] 0 .skip (.exit 0) (.seq (.blk 1 (q [m v8,a 1 v6 v8,g l0,x 4 l2,x 5 l1] [] (.ite [m v5,m v1,u (.bin .lss l1 l0),m l0,e 0 false v5,e 1 false v2,y 2 false (.bin .gtr l1 l0),u (.pk l3 (.b true) l0),m l0,e 0 false v4,y 1 false (.bin .gtr l0 (.i 0)),e 2 false l0,e 0 true v5,e 1 true v0,e 2 true v4,y 3 true (.bin .sub l0 (.i 1)),y 4 true (.ia l2 l0 1),i 5 true l0,y 6 true (.bin .leq l5 l0),y 10 false (.pk l7 l0 (.b false)),u (.pk l11 (.b true) l0)] [] 0 (q [x 3 (.b false)] [] .ret) .skip))) (.reg [u (.bin .add v8 (.i 1)),x 8 l0] [])))
def oF:C:= .loop true [3,4,5] K.ea
def dN:Fn:= { aY:=3,vars:=[0,1,2,6,7,8,9,10,11],body:=(q [x 3 (.b false)] [] (.seq (q [x 6 v0,w 7 (.ln l0),x 8 (.i 0)] [] (.blk 0 K.oF)) (q [x 3 (.b true)] [] .ret))),res:=[(3,none)]}
end Go.Ev.K
namespace Go.Ev
class gy [Lib]:Prop where
 lO:Lib.fs N.dN=some K.dN
namespace K
variable [Lib] [gy]
theorem lO:Lib.fs N.dN=some K.dN:=gy.lO
end K
end Go.Ev
namespace Go.Ev
open Go
variable [Lib] [cH] [b7] [gI] [gy]
def Hg(l:List Int)(lo hi:Int)(j:Nat):Bool:= !decide (lo≤nth l j∧nth l j≤hi∧(0<j→nth l (j-1)<nth l j))
def P7(l:List Int)(lo hi:Int):Bool:= !((List.range l.length).any (Hg l lo hi))
theorem FU(l:List Int)(lo hi:Int)(hl:l.length≤4294967296):aS 0 N.dN [.t (tL l),I lo,I hi] []=some (B (P7 l lo hi),[]):=by
 refine aE K.lO rfl ?_
 have loop:∀a b c:D,exS aS K.oF ⟨[.t (tL l),I lo,I hi,a,b,c,.t (tL l),I l.length,I 0],[]⟩=
  some (if(List.range l.length).any (Hg l lo hi)=true
   then(.ret,⟨[.t (tL l),I lo,I hi,B false,I (zA l.length (Hg l lo hi)),I (nth l (zA l.length (Hg l lo hi))),.t (tL l),I l.length,I (zA l.length (Hg l lo hi))],[]⟩)
   else(.exit 0,⟨[.t (tL l),I lo,I hi,.und,.und,.und,.t (tL l),I l.length,I l.length],[]⟩)):=by
  intro a b c
  refine FR (fun j=>⟨[.t (tL l),I lo,I hi,.und,.und,.und,.t (tL l),I l.length,I j],[]⟩) l.length (Hg l lo hi) (fun j=>(.ret,⟨[.t (tL l),I lo,I hi,B false,I j,I (nth l j),.t (tL l),I l.length,I j],[]⟩)) _ rfl ?_ ?_ ?_ (by simp)
  · intro j hj hp
    simp only[Hg,Bool.not_eq_false',decide_eq_true_eq]at hp
    obtain⟨h1,h2,h3⟩:=hp
    cases j with
    | zero=>simp(disch:=omega)only[go_sem,K.ea,↓reduceIte]
    | succ j=>
      have h3:=h3 (by omega)
      rw[Nat.add_sub_cancel]at h3
      simp(disch:=omega)only[go_sem,K.ea,↓reduceIte]
  · intro j hj hp
    simp only[Hg,Bool.not_eq_true',decide_eq_false_iff_not]at hp
    refine⟨?_,by simp⟩
    by_cases h1:lo≤nth l j
    · by_cases h2:nth l j≤hi
      · cases j with
        | zero=>exact absurd ⟨h1,h2,fun h=>absurd h (by omega)⟩ hp
        | succ j=>
          have h3:¬nth l j<nth l (j+1):=fun h=>hp ⟨h1,h2,fun _=>by simpa using h⟩
          simp(disch:=omega)only[go_sem,K.ea,↓reduceIte]
      · simp(disch:=omega)only[go_sem,K.ea,↓reduceIte]
    · simp(disch:=omega)only[go_sem,K.ea,↓reduceIte]
  · simp(disch:=omega)only[go_sem,K.ea,↓reduceIte]
 unfold P7
 simp(disch:=omega)only[go_sem,K.dN,↓reduceIte,loop]
 cases hf:(List.range l.length).any (Hg l lo hi)with
 | true=>simp(disch:=omega)only[go_sem,↓reduceIte]
 | false=>simp(disch:=omega)only[go_sem,↓reduceIte,aLt]
structure VO where
 st:Int
 fi:Int
 se:Int
 ti:Int
abbrev VO.e(s:VO):T:= .agg [tI s.st,tI s.fi,tI s.se,tI s.ti]
structure Iw where
 area:List Int
 hold:Int
 mis:Int
abbrev Iw.e(x:Iw):T:= .agg [tL x.area,tI x.hold,tI x.mis]
structure Keys where
 roads:List Int
 keys:List Int
 out:Bool
abbrev Keys.e(k:Keys):T:= .agg [tL k.roads,tL k.keys,.bool k.out]
end Go.Ev
namespace Go.Ev
open Go
variable [Lib] [cH] [b7]
@[go_sem] theorem Nb (l : List Place) : lF 2 (l.map Place.e) = true := by cases l <;> rfl
@[go_sem] theorem P8 (l : List Road) : lF 10 (l.map Road.e) = true := by cases l <;> rfl
@[go_sem] theorem P9 (H : ah) (d : di) : HW H 0 1 false (some d.obj) = some (.t (tL d.L), H) := by simp only [di.obj, go_sem]
def di.oG(d:di):Nat→List Place×di
 | 0=>([],d)
 | k+1=>if k=0 then((d.oG k).1++[⟨-10*((d.oG k).2.next 4).1,true⟩],((d.oG k).2.next 4).2)
   else((d.oG k).1++[⟨-10*((d.oG k).2.next 4).1,(((d.oG k).2.next 4).2.one 6).1⟩],(((d.oG k).2.next 4).2.one 6).2)
def di.S6(d:di)(i:Int):Road×di:=
 (⟨i-1-(d.next (min i 2)).1,i,1+((d.next (min i 2)).2.of [11,59,119,4]).1,1+(((d.next (min i 2)).2.of [11,59,119,4]).2.of [9,3,19]).1,true,false,1,1,0,0⟩,
   (((d.next (min i 2)).2.of [11,59,119,4]).2.of [9,3,19]).2)
def di.Cz(d:di):Nat→List Road×di
 | 0=>([],d)
 | k+1=>((d.Cz k).1++[((d.Cz k).2.S6 (k+1)).1],((d.Cz k).2.S6 (k+1)).2)
def di.Ix(d:di)(n:Int):Road×di:=
 let a:=d.next n
 let b:=a.2.next n
 let l:=b.2.of [11,59,199]
 let r:=l.2.of [9,3]
 let w:=r.2.next 5
 let c:=w.2.one 6
 (⟨a.1,b.1,1+l.1,1+r.1,decide (0<w.1),c.1,1,1,0,0⟩,c.2)
def di.more(n:Int)(l:List Road)(d:di):Nat→List Road×di
 | 0=>(l,d)
 | k+1=>if l.length<10 then di.more n (if(d.Ix n).1.frm=(d.Ix n).1.to then l else l++[(d.Ix n).1]) (d.Ix n).2 k else(l,d)
def di.Nc(d:di):Nat:=if d.L.length=0 then 4 else(2+(d.next 6).1).toNat
def di.S7(d:di):List Place×di:=(d.next 6).2.oG d.Nc
def di.Nd(d:di):List Road×di:=d.S7.2.Cz (d.Nc-1)
def di.S8(d:di):List Road×di:=di.more d.Nc d.Nd.1 (d.Nd.2.next 4).2 (d.Nd.2.next 4).1.toNat
def di.aa2(d:di):bV×di:=(⟨d.S7.1,d.S8.1⟩,d.S8.2)
@[go_sem] theorem S9 (l : List Spn) : lF 2 (l.map Spn.e) = true := by cases l <;> rfl
@[go_sem] theorem YL (l : List Spn) (k : Nat) (a b : Int) : (List.map D.t (List.map Spn.e l)).set k (D.t (T.agg [tI a, tI b])) = List.map D.t (List.map Spn.e (l.set k ⟨a, b⟩)) := by
 rw[List.map_set,List.map_set]
@[go_sem] theorem Z0 (H : ah) (sz : Nat) (a b c d e f : T) : wT H sz [.t a, .t b, .t c, .t d, .t e, .t f] = if cr sz [a, b, c, d, e, f] = true then some (.t (.sl [a, b, c, d, e, f]), H) else none := oe H sz [a, b, c, d, e, f]
@[go_sem] theorem Z1 (H : ah) (sz : Nat) (a b c d e f g : T) : wT H sz [.t a, .t b, .t c, .t d, .t e, .t f, .t g] = if cr sz [a, b, c, d, e, f, g] = true then some (.t (.sl [a, b, c, d, e, f, g]), H) else none := oe H sz [a, b, c, d, e, f, g]
@[go_sem] theorem Z2 (H : ah) (sz : Nat) (a b c d e f g h : T) : wT H sz [.t a, .t b, .t c, .t d, .t e, .t f, .t g, .t h] = if cr sz [a, b, c, d, e, f, g, h] = true then some (.t (.sl [a, b, c, d, e, f, g, h]), H) else none := oe H sz [a, b, c, d, e, f, g, h]
@[go_sem] theorem Ta {α β γ : Type} {l : List α} {g : α → β} {f : β → γ} {x : γ} {j : Nat} (h : j = l.length) : (List.map f (List.map g l) ++ [x])[j]? = some x := by
 rw[aLh (by simp;omega)];simp[h]
@[go_sem] theorem VP {α β γ : Type} {l : List α} {g : α → β} {f : β → γ} {x y : γ} {j : Nat} (h : j = l.length) : (List.map f (List.map g l) ++ [x]).set j y = List.map f (List.map g l) ++ [y] := by
 rw[List.set_append_right _ _ (by simp;omega)];simp[h]
def di.Tb(d:di):Spn×di:=
 let a:=d.of [0,1000,5000,20000, -5000, -20000,4999,100]
 let b:=a.2.of [0,1,1000,6000]
 let c:=b.2.of [0,1,500]
 let w:=c.2.one 9
 (if w.1=true then⟨-1125899906842624,1125899906842624⟩else⟨a.1-b.1,a.1+c.1⟩,w.2)
def di.CA(d:di):Nat→List Spn×di
 | 0=>([],d)
 | k+1=>((d.CA k).1++[((d.CA k).2.Tb).1],((d.CA k).2.Tb).2)
def di.YM(d:di)(m:bV):List Spn×di:=d.CA m.roads.length
theorem xc{gc:Bool}{dead:List Nat}{c:C}{vs:List D}{H:ah}(P:Nat→St→Prop)(n:Nat)(Q:Ex×St→Prop)(h0:P 0 ⟨iU dead vs,H⟩)
 (hs:∀j st,j<n→P j st→(∃st',dB gc dead st.H.length (exS aS c st)=some st'∧P (j+1) st')∨∃q,exS aS c st=some q∧q.1≠ .normal∧Q q)
 (he:∀st,P n st→∃q,exS aS c st=some q∧q.1≠ .normal∧Q q):∃q,exS aS (.loop gc dead c) ⟨vs,H⟩=some q∧Q q:=by
 have key:∀(k j:Nat) (st:St),j+k=n→P j st→∃q,kV gc dead (exS aS c) st=some q∧Q q:=by
  intro k
  induction k with
  | zero=>
    intro j st hj hp
    obtain⟨q,h1,h2,h3⟩:=he st (by rw[← hj];exact hp)
    exact⟨q,bE h1 h2,h3⟩
  | succ k ih=>
    intro j st hj hp
    rcases hs j st (by omega) hp with⟨st',h1,h2⟩ | ⟨q,h1,h2,h3⟩
    · obtain⟨q,h3,h4⟩:=ih (j+1) st' (by omega) h2
      exact⟨q,cM h1 h3,h4⟩
    · exact⟨q,bE h1 h2,h3⟩
 exact key n 0 _ (by omega) h0
theorem Tc(l:List Int):aS 0 N.iJ [.t (tL l)] []=some (.bp 0 0,[di.obj ⟨l,0⟩]):=by
 refine aE K.qg rfl ?_
 simp(disch:=omega)only[go_sem,K.iJ,↓reduceIte,di.obj,reduceAdd,reduceSub]
theorem FV{d:di}(hd:d.uV)(n:Int)(h1:1≤n)(hn:n≤4611686018427387904):
 ∃(v:Int) (e:di),aS 0 N.bP [.bp 0 0,I n] [d.obj]=some (I v,[e.obj])∧e.uV∧0≤v∧v<n:=
 ⟨_,_,MB d n hn hd,di.Dw hd n,d.Mz n,d.MA h1⟩
end Go.Ev
namespace Go.Ev
open Go
variable [Lib] [cH] [b7] [gI] [gy]
abbrev never:Int:=1099511627776
abbrev Wh.box(w:Wh):Obj:= .box [I w.time,.t (tL w.frm)]
structure Req where
 x:Iw
 s:VO
 k:Keys
 b:Bel
 t:Int
 from_:Int
abbrev Req.e(r:Req):T:= .agg [tL r.x.area,tI r.x.hold,tI r.x.mis,tI r.s.st,tI r.s.fi,tI r.s.se,tI r.s.ti,tL r.k.roads,tL r.k.keys,.bool r.k.out,.sl (r.b.bD.map World.e),tI r.t,tI r.from_]
structure Req.sz(r:Req):Prop where
 hx:r.x.area.length≤1000000
 hk:r.k.roads.length≤1000000
 hk2:r.k.keys.length≤1000000
 hb:r.b.sz
section
variable (x : Iw) (s : VO) (k : Keys) (b : Bel) (hx : x.area.length ≤ 1000000) (hk : k.roads.length ≤ 1000000) (hk2 : k.keys.length ≤ 1000000) (hb : b.sz)
include hx hk hk2 hb
end
end Go.Ev
namespace Go.Ev
open Go
variable [Lib] [cH] [b7] [gI] [gy]
section
variable (area : List Int) (ha : area.length ≤ 1000000) (xs : List World) (hx : xs.length ≤ 1000000)
include ha hx
end
end Go.Ev
namespace Go.Ev
open Go
section
variable (H : ah) (sz id ep n lo hi : Nat) (i j : Int) (fz : Bool)
def scO(r:D):Option Obj→Option (D×ah)
 | some (.arr sz' _ ep' es)=>if ep=ep'∧n=es.length then(if sz'=sz then some (r,H)else none)else none
 | _=>none
@[go_sem] theorem YN (r : D) (sz' : Nat) (pin : Bool) (es : List D) : scO H sz ep n r (some (.arr sz' pin ep es)) = if n = es.length then (if sz' = sz then some (r, H) else none) else none := by simp [scO]
theorem scR{l h:Nat}:((eZ H id ep n).bind fun a=>if l≤h∧h≤n∧a.1=sz then some (D.sub id ep n l h)else none).map (fun d=>(d,H))=if l≤h then(if h≤n then scO H sz ep n (.sub id ep n l h) H[id]? else none)else none:=by
 simp only[eZ]
 generalize H[id]?=o
 by_cases h1:l≤h
 · by_cases h2:h≤n
   · rw[if_pos h1,if_pos h2]
     rcases o with _ | (_ | ⟨sz',pin,ep',es⟩)
     · rfl
     · rfl
     · simp only[scO]
       by_cases h3:ep=ep'∧n=es.length
       · rw[if_pos h3,if_pos h3,aLq]
         by_cases h4:sz'=sz
         · rw[if_pos h4,if_pos ⟨h1,h2,h4⟩];rfl
         · rw[if_neg h4,if_neg fun h=>h4 h.2.2];rfl
       · rw[if_neg h3,if_neg h3];rfl
   · rw[if_pos h1,if_neg h2]
     rcases o with _ | (_ | ⟨sz',pin,ep',es⟩)
     · rfl
     · rfl
     · by_cases h3:ep=ep'∧n=es.length
       · simp only[if_pos h3,aLq];rw[if_neg fun h=>h2 h.2.1];rfl
       · simp only[if_neg h3];rfl
 · rw[if_neg h1]
   rcases o with _ | (_ | ⟨sz',pin,ep',es⟩)
   · rfl
   · rfl
   · by_cases h3:ep=ep'∧n=es.length
     · simp only[if_pos h3,aLq];rw[if_neg fun h=>h1 h.1];rfl
     · simp only[if_neg h3];rfl
@[go_sem] theorem Nf : zj H sz (some (.ref id ep n)) (some none) (some (some i)) = if 0 ≤ i then (if i ≤ n then scO H sz ep n (.sub id ep n 0 i.toNat) H[id]? else none) else none := by
 simp only[zj,aLq,kZ,bound,idx]
 by_cases h1:0≤i
 · rw[if_pos h1,if_pos h1,aLq,scR,if_pos (Nat.zero_le _)]
   by_cases h2:i≤n
   · rw[if_pos h2,if_pos (by omega)]
   · rw[if_neg h2,if_neg (by omega)]
 · rw[if_neg h1,if_neg h1];rfl
@[go_sem] theorem Ng : zj H sz (some (.ref id ep n)) (some (some i)) (some none) = if 0 ≤ i then (if i ≤ n then scO H sz ep n (.sub id ep n i.toNat n) H[id]? else none) else none := by
 simp only[zj,aLq,kZ,bound,idx]
 by_cases h1:0≤i
 · rw[if_pos h1,if_pos h1,aLq,scR]
   by_cases h2:i≤n
   · rw[if_pos h2,if_pos (by omega),if_pos (by omega)]
   · rw[if_neg h2,if_neg (by omega)]
 · rw[if_neg h1,if_neg h1];rfl
@[go_sem] theorem Iy : zj H sz (some (.ref id ep n)) (some (some i)) (some (some j)) = if 0 ≤ i then (if i ≤ j then (if j ≤ n then scO H sz ep n (.sub id ep n i.toNat j.toNat) H[id]? else none) else none) else none := by
 simp only[zj,aLq,kZ,bound,idx]
 by_cases h1:0≤i
 · rw[if_pos h1,if_pos h1,aLq]
   by_cases h0:i≤j
   · rw[if_pos h0,if_pos (by omega),aLq,scR,if_pos (by omega)]
     by_cases h2:j≤n
     · rw[if_pos h2,if_pos (by omega)]
     · rw[if_neg h2,if_neg (by omega)]
   · rw[if_neg h0]
     by_cases h2:0≤j
     · rw[if_pos h2,aLq,scR,if_neg (by omega)]
     · rw[if_neg h2];rfl
 · rw[if_neg h1,if_neg h1];rfl
@[go_sem] theorem Nh : zj H sz (some .nil) (some none) (some (some i)) = if i = 0 then some (.nil, H) else none := by
 simp only[zj,aLq,kZ,bound,idx]
 by_cases h1:0≤i
 · rw[if_pos h1,aLq]
   by_cases h2:i=0
   · rw[if_pos h2,if_pos (by omega)];rfl
   · rw[if_neg h2,if_neg (by omega)];rfl
 · rw[if_neg h1,if_neg (by omega)];rfl
@[go_sem] theorem Ni : zj H sz (some .nil) (some (some i)) (some none) = if i = 0 then some (.nil, H) else none := by
 simp only[zj,aLq,kZ,bound,idx]
 by_cases h1:0≤i
 · rw[if_pos h1,aLq]
   by_cases h2:i=0
   · rw[if_pos h2,if_pos (by omega)];rfl
   · rw[if_neg h2,if_neg (by omega)];rfl
 · rw[if_neg h1,if_neg (by omega)];rfl
def Bj(x:D)(ys:List D):Option (D×ah):=if bJ sz ys=true then(match x with
 | .nil=>if ys.length≤4294967296 then some (.ref H.length 0 ys.length,H++[.arr sz false 0 ys])else none
 | .ref id ep n=>te H sz id ep n ys H[id]?
 | .cl es=>if 0<ys.length∧es.length+ys.length≤lim∧bJ sz (es.map .t)=true then some (.ref H.length 0 (es.map D.t++ys).length,H++[.arr sz false 0 (es.map .t++ys)])else none
 | _=>none)else none
@[go_sem] theorem VQ (ys : List D) : Bj H sz .nil ys = if bJ sz ys = true then (if ys.length ≤ 4294967296 then some (.ref H.length 0 ys.length, H ++ [.arr sz false 0 ys]) else none) else none := (rfl)
@[go_sem] theorem VR (ys : List D) : Bj H sz (.ref id ep n) ys = if bJ sz ys = true then te H sz id ep n ys H[id]? else none := (rfl)
@[go_sem] theorem YO (es : List T) (ys : List D) : Bj H sz (.cl es) ys = if bJ sz ys = true then (if 0 < ys.length ∧ es.length + ys.length ≤ 4294967296 ∧ bJ sz (es.map .t) = true then some (.ref H.length 0 (es.map D.t ++ ys).length, H ++ [.arr sz false 0 (es.map .t ++ ys)]) else none) else none := (rfl)
@[go_sem] theorem J9 : bJ sz [] = true := (rfl)
@[go_sem] theorem xY (d : D) (r : List D) : bJ sz (d :: r) = lE sz d.cells := by
 rw[Bool.eq_iff_iff,eG];simp[bJ]
def Td(x:D):Option Obj→Option (D×ah)
 | some (.arr _ _ ep' es)=>if ep=ep'∧n=es.length then Bj H sz x ((es.drop lo).take (hi-lo))else none
 | _=>none
def Te(x:D):Option Obj→Option (D×ah)
 | some (.arr _ _ ep' es)=>if ep=ep'∧n=es.length then Bj H sz x es else none
 | _=>none
@[go_sem] theorem VS (x : D) (sz' : Nat) (pin : Bool) (es : List D) : Td H sz ep n lo hi x (some (.arr sz' pin ep es)) = if n = es.length then Bj H sz x ((es.drop lo).take (hi - lo)) else none := by simp [Td]
@[go_sem] theorem VT (x : D) (sz' : Nat) (pin : Bool) (es : List D) : Te H sz ep n x (some (.arr sz' pin ep es)) = if n = es.length then Bj H sz x es else none := by simp [Te]
theorem FW(x:D)(ys:List D):(if bJ sz ys=true then(match x with
 | .nil=>if ys.length≤lim then some (D.ref H.length 0 ys.length,H++[.arr sz false 0 ys])else none
 | .ref id ep n=>(eZ H id ep n).bind fun a=>if a.1=sz∧n+ys.length≤lim then some (.ref id ep (n+ys.length),H.set id (.arr sz a.2.1 ep (a.2.2++ys)))else none
 | .cl es=>if 0<ys.length∧es.length+ys.length≤lim∧bJ sz (es.map .t)=true then some (.ref H.length 0 (es.map D.t++ys).length,H++[.arr sz false 0 (es.map .t++ys)])else none
 | _=>none)else none)=Bj H sz x ys:=by
 unfold Bj
 split
 · cases x with
   | ref id ep n=>
     simp only[eZ]
     generalize H[id]?=o
     rcases o with _ | (_ | ⟨sz',pin,ep',es⟩)
     · rfl
     · rfl
     · simp only[te]
       by_cases h1:ep=ep'∧n=es.length
       · rw[if_pos h1,aLq]
         by_cases h2:sz'=sz∧n+ys.length≤lim
         · rw[if_pos h2,if_pos ⟨h1.1,h1.2,h2⟩]
         · rw[if_neg h2,if_neg fun h=>h2 h.2.2]
       · rw[if_neg h1,if_neg fun h=>h1 ⟨h.1,h.2.1⟩];rfl
   | _=>rfl
 · rfl
theorem sD(x y:D)(ys:List D)(h:elems H y=some ys):mY H sz false (some x) (some y)=Bj H sz x ys:=by
 simp only[mY,aLq,kC,h,aLt,if_false]
 exact FW H sz x ys
@[go_sem] theorem Hh (x : D) : mY H sz false (some x) (some .nil) = Bj H sz x [] := sD H sz x .nil [] rfl
@[go_sem] theorem Hi (x : D) : mY H sz false (some x) (some (.ref id ep n)) = Te H sz ep n x H[id]? := by
 cases he:elems H (.ref id ep n)with
 | some ys=>
   rw[sD H sz x _ ys he]
   simp only[elems,eZ]at he
   generalize H[id]?=o at he
   rcases o with _ | (_ | ⟨sz',pin,ep',es⟩)
   · cases he
   · cases he
   · simp only[Te]
     by_cases h1:ep=ep'∧n=es.length
     · simp only[if_pos h1]at he ⊢;cases he;rfl
     · simp only[if_neg h1]at he;cases he
 | none=>
   have:mY H sz false (some x) (some (.ref id ep n))=none:=by simp only[mY,aLq,kC,he];rfl
   rw[this]
   simp only[elems,eZ]at he
   generalize H[id]?=o at he
   rcases o with _ | (_ | ⟨sz',pin,ep',es⟩)
   · rfl
   · rfl
   · simp only[Te]
     by_cases h1:ep=ep'∧n=es.length
     · simp only[if_pos h1]at he;cases he
     · simp only[if_neg h1]
@[go_sem] theorem Hj (x : D) : mY H sz false (some x) (some (.sub id ep n lo hi)) = Td H sz ep n lo hi x H[id]? := by
 cases he:elems H (.sub id ep n lo hi)with
 | some ys=>
   rw[sD H sz x _ ys he]
   simp only[elems,eZ]at he
   generalize H[id]?=o at he
   rcases o with _ | (_ | ⟨sz',pin,ep',es⟩)
   · cases he
   · cases he
   · simp only[Td]
     by_cases h1:ep=ep'∧n=es.length
     · simp only[if_pos h1]at he ⊢;cases he;rfl
     · simp only[if_neg h1]at he;cases he
 | none=>
   have:mY H sz false (some x) (some (.sub id ep n lo hi))=none:=by simp only[mY,aLq,kC,he];rfl
   rw[this]
   simp only[elems,eZ]at he
   generalize H[id]?=o at he
   rcases o with _ | (_ | ⟨sz',pin,ep',es⟩)
   · rfl
   · rfl
   · simp only[Td]
     by_cases h1:ep=ep'∧n=es.length
     · simp only[if_pos h1]at he;cases he
     · simp only[if_neg h1]
def Qa(ep n lo hi:Nat):Option Obj→Option (List D)
 | some (.arr _ _ ep' es)=>if ep=ep'∧n=es.length then some ((es.drop lo).take (hi-lo))else none
 | _=>none
def VU(x:D):Option (List D)→Option (D×ah)
 | some ys0=>(bK (fun d=>(frz H depth d).map .t) ys0).bind fun ys=>if bJ sz ys then Bj (pins H (ys0.flatMap (ef H depth))) sz x ys else none
 | none=>none
@[go_sem] theorem Z3 (x : D) (ts : List T) : VU H sz x (some (ts.map .t)) = Bj H sz x (ts.map .t) := by
 simp only[VU,qZ,aLq,Fo,pins]
 by_cases h:bJ sz (ts.map D.t)=true
 · rw[if_pos h]
 · rw[if_neg h];unfold Bj;rw[if_neg h]
@[go_sem] theorem Iz (x : D) : mY H sz true (some x) (some (.sub id ep n lo hi)) = VU H sz x (Qa ep n lo hi H[id]?) := by
 have e:elems H (.sub id ep n lo hi)=Qa ep n lo hi H[id]?:=by
  simp only[elems,eZ]
  generalize H[id]?=o
  rcases o with _ | (_ | ⟨sz',pin,ep',es⟩)
  · rfl
  · rfl
  · simp only[Qa]
    by_cases h1:ep=ep'∧n=es.length
    · simp only[if_pos h1];rfl
    · simp only[if_neg h1];rfl
 simp only[mY,aLq,kC,e]
 cases Qa ep n lo hi H[id]? with
 | none=>rfl
 | some ys0=>
   simp only[aLq,VU,if_true]
   cases hm:bK (fun d=>(frz H depth d).map D.t) ys0 with
   | none=>rfl
   | some ys=>
     simp only[aLq]
     refine(FW _ _ _ _).trans ?_
     by_cases h:bJ sz ys=true
     · rw[if_pos h]
     · rw[if_neg h];unfold Bj;rw[if_neg h]
@[go_sem] theorem VV (ep n lo hi sz : Nat) (pin : Bool) (ts : List T) : Qa ep n lo hi (some (.arr sz pin ep (ts.map .t))) = if n = ts.length then some (((ts.drop lo).take (hi - lo)).map .t) else none := by
 simp only[Qa,true_and,List.length_map,List.map_take,List.map_drop]
def FX(ds:List D):Option (D×ah):=if ds.all (fun d=>d.cells.length==sz&&d.gU)then some (.ref H.length 0 ds.length,H++[.arr sz false 0 ds])else none
@[go_sem] theorem Z4 (call : aP) (get : X → Option D) (xs : List X) : evO call get H (.bsr xs sz) = (bK get xs).bind (FX H sz) := (rfl)
@[go_sem] theorem Tf : FX H sz [] = some (.ref H.length 0 0, H ++ [.arr sz false 0 []]) := (rfl)
@[go_sem] theorem Tg (k : IntKind) (n : Int) : FX H 1 [.t (.int k n)] = some (.ref H.length 0 1, H ++ [.arr 1 false 0 [.t (.int k n)]]) := (rfl)
@[go_sem] theorem Th (cs : List D) : FX H sz [.agg cs] = if lE sz cs = true then some (.ref H.length 0 1, H ++ [.arr sz false 0 [.agg cs]]) else none := by
 simp only[FX,List.all_cons,List.all_nil,Bool.and_true,D.cells,D.gU]
 by_cases h:lE sz cs=true
 · rw[if_pos h,if_pos (by simpa using eG.1 h)];rfl
 · rw[if_neg h,if_neg (by intro e;exact h (eG.2 (by simpa using e)))]
end
@[go_sem] theorem Ka : (1 : Int).toNat = 1 := (rfl)
@[go_sem] theorem Nj : (2 : Int).toNat = 2 := (rfl)
@[go_sem] theorem IA : (3 : Int).toNat = 3 := (rfl)
section
variable {H t : ah} {i j k : Nat} {o o' : Obj}
theorem iA(h:i<H.length):(H++t)[i]?=H[i]?:=aLg h
theorem ir:(H++t)[H.length]?=t[0]?:=by rw[aLh (aLs _),Nat.sub_self]
theorem fU:(H++t)[H.length+k]?=t[k]?:=by rw[aLh (Nat.le_add_right _ _),Nat.add_sub_cancel_left]
theorem FY(h:i<H.length):(H++t).set i o=H.set i o++t:=List.set_append_left _ _ h
theorem kB:(H++t).set H.length o=H++t.set 0 o:=by rw[List.set_append_right _ _ (aLs _),Nat.sub_self]
theorem pg(h:i<H.length):(H.set i o)[i]?=some o:=by simp[h]
theorem gz(h:i≠j):(H.set i o)[j]?=H[j]?:=aLi h
theorem ph:(H.set i o).set i o'=H.set i o':=List.set_set ..
theorem pj(a b:ah):(H++a)++b=H++(a++b):=List.append_assoc ..
theorem lP(h:H[i]?=some o):i<H.length:=(aLe.1 h).1
end
theorem Bk(H:ah)(id sz n:Nat)(es:List D)(ts:List T)(hid:H[id]?=some (.arr sz false 0 es))(hn:n=es.length)(hf:bK (frz H 8) es=some ts)(ha:∀i∈es.flatMap (ef H 8),i≠id):
 finish 0 1 H [.ref id 0 n]=some (.ref 0 0 n,[.arr sz false 0 (ts.map .t)]):=by
 have hold:([D.ref id 0 n].all (old 0 depth)&&(H.take 0).all (fun o=>o.ds.all (old 0 depth)))=false:=by
  simp[old,depth]
 have hmap:∀ {es:List D} {ts:List T},bK (frz H 8) es=some ts→bK (fun d=>(frz H 8 d).map D.t) es=some (ts.map .t):=by
  intro es
  induction es with
  | nil=>intro ts h;simp[bK]at h;subst h;rfl
  | cons e es ih=>
    intro ts h
    simp only[bK,aLa,aLb]at h
    obtain⟨y,hy,r,hr,rfl⟩:=h
    simp only[bK,hy,aLw,aLq,ih hr,List.map_cons]
 have hnew:(eo [] [id]).drop 0=[id]:=by simp[eo]
 have hall:(es.flatMap (ef H 8)).all (fun i=> !([]++[id]).contains i)=true:=by
  rw[aLx];intro i hi;simpa using ha i hi
 unfold finish
 rw[if_neg (by omega),aLq,hold,if_neg (by simp)]
 have hk:jX H (max 1 1) (List.range 0) ([D.ref id 0 n].flatMap (ids depth)++me H (List.range 0))=some ([id],[.arr sz false 0 (ts.map .t)]):=by
  have e1:[D.ref id 0 n].flatMap (ids depth)++me H (List.range 0)=[id]:=by simp[ids,depth,me]
  rw[e1]
  simp only[Nat.max_self,List.range_zero]
  unfold jX
  simp only[List.length_nil,hnew,pick,hid,aLq,aLw,if_true,List.flatMap_cons,List.flatMap_nil,List.append_nil,Obj.ds,depth,hall,bK,dJ,hmap hf]
  simp only[jX,aLw,List.append_nil,aLq]
 rw[hk]
 simp only[aLq,List.range_zero,List.nil_append,List.take_zero,gW,Nat.succ_ne_zero,if_false,Nat.one_ne_zero,List.all_nil,if_true,bK,ren,idxOf,aLw,gj,qB,depth]
 have:=Fs (fun i=>if id=i then some 0 else Option.map (fun x=>x+1) none) ts
 simp only[depth]at this
 rw[this];rfl
end Go.Ev
namespace Go.Ev.N
def FZ:Nat:=123
def Et:Nat:=124
def Hk:Nat:=125
def F3:Nat:=126
def Nk:Nat:=127
def Nl:Nat:=128
def Nn:Nat:=129
def Qb:Nat:=130
def Qc:Nat:=131
def No:Nat:=132
def Np:Nat:=133
def IB:Nat:=134
def IC:Nat:=135
def Qd:Nat:=136
def Nq:Nat:=137
def ID:Nat:=138
def Kb:Nat:=139
def Hl:Nat:=140
def Kc:Nat:=141
def IE:Nat:=142
def F4:Nat:=143
def F5:Nat:=144
def cB:Nat:=145
def Kd:Nat:=146
def Ke:Nat:=147
def bF:Nat:=148
end Go.Ev.N
namespace Go.Ev.N
def CB:Nat:=149
def F6:Nat:=150
def F7:Nat:=151
def Eu:Nat:=152
def Nr:Nat:=153
def Ns:Nat:=154
def Kf:Nat:=155
def Kg:Nat:=156
def Nt:Nat:=157
def Qe:Nat:=158
def Nu:Nat:=159
def bZ:Nat:=160
def CC:Nat:=161
def Nv:Nat:=162
def Qf:Nat:=163
def Kh:Nat:=164
def Qg:Nat:=165
def Ki:Nat:=166
def dV:Nat:=167
def pB:Nat:=168
def IF:Nat:=169
def fq:Nat:=170
def DF:Nat:=171
def IG:Nat:=172
def gJ:Nat:=173
def qx:Nat:=174
def F8:Nat:=175
def dO:Nat:=176
def eO:Nat:=177
end Go.Ev.N
namespace Go.Ev.K
open Go.Ev
def lQ:C:= (.seq (.ite [m v6,m v5,u (.ln l0),u (.bin .lss l2 l0)] [] 0 .skip (.exit 0)) (.blk 1 (.reg [m v6,m v5,m v6,u (.sc l1 (some l0) none 1),m v5,m v6,u (.sc l1 none (some l0) 1),u (.cp l3 l0 1),u (.bin .add l7 l0),x 6 l0] [])))
def mC:C:= .loop true [0,1,2,3,4] K.lQ
def bZ:Fn:= { aY:=2,vars:=[0,1,4,5,6,7,8],body:=(q [w 2 (.mv (.c (.nil)))] [] (.seq (.ite [m v1,u (.bin .lss l0 (.i 0))] [] 0 .fail .skip) (q [m v0,u (.ln l0),u (.cv .u64 l0),m v1,u (.cv .u64 l0),u (.ca N.fq 0 [] [.l 2,.l 0]),m l0,u (.ex l0 0),u (.ex l1 1),x 3 l1,x 4 l1] [] (.seq (.ite [m v3,u (.bin .gtr l0 (.c (.t (.int .u64 (0))))),m l0,e 0 false v4,y 1 false (.bin .gtr l0 (.c (.t (.int .u64 (9223372036854775807))))),u (.pk l2 (.b true) l0)] [] 0 .fail .skip) (q [m v4,u (.cv .i64 l0),u (.mk l0 (z0) 1),x 5 l0] [] (q [m v5,m v0,u (.cp l1 l0 1),x 6 l0] [] (.seq (.blk 0 K.mC) (q [m v5,x 2 l0] [] .ret)))))))),res:=[(2,none)]}
def dV:Fn:= { aY:=1,vars:=[0,1,2],body:=(q [w 1 (.bx v0 2),x 2 (.b false)] [] (q [h 2 v1,u (.ca N.gJ 0 [] [.l 0]),u (.bin .eql l0 (.i 0)),x 2 l0] [] .ret)),res:=[(2,none)]}
def fq:Fn:= { aY:=2,vars:=[0,1,4,5,8,9],body:=(q [w 2 (.mv (.c (.t (.int .u64 (0))))),w 3 (.mv (.c (.t (.int .u64 (0)))))] [] (.seq (.cnd false .skip) (q [m v0,m v1,u (.ca N.dO 0 [] [.l 1,.l 0]),m l0,u (.ex l0 0),u (.ex l1 1),x 4 l1,x 5 l1] [] (q [m v4,m v5,x 2 l1,x 3 l1] [] .ret)))),res:=[(2,none),(3,none)]}
end Go.Ev.K
namespace Go.Ev
class fG [Lib]:Prop where
 jv:Lib.fs N.bZ=some K.bZ
 oH:Lib.fs N.dV=some K.dV
 oI:Lib.fs N.fq=some K.fq
namespace K
variable [Lib] [fG]
theorem jv:Lib.fs N.bZ=some K.bZ:=fG.jv
theorem oH:Lib.fs N.dV=some K.dV:=fG.oH
theorem oI:Lib.fs N.fq=some K.fq:=fG.oI
end K
end Go.Ev
namespace Go.Ev.K
open Go.Ev
def lR:C:= (.its [u (.bin .lss v8 v7)] [] 0 .skip (.exit 0) (.seq (.blk 1 (q [a 2 v6 v8,h 2 l0,w 3 (.al [z0,z1] []),u (.st l0 l1 2 [])] [] (.ite [f 0 v3,g l0,u (.bin .lss l0 (.i (-10000))),m l0,y 0 false (.fa v3 0),i 1 false l0,y 2 false (.bin .gtr l0 (.i 10000)),u (.pk l3 (.b true) l0)] [] 0 (q [x 2 (.i 1)] [] .ret) .skip))) (.reg [u (.bin .add v8 (.i 1)),x 8 l0] [])))
def rA:C:= .loop true [0,2,3,4,5,9,10,11] K.lR
def lS:C:= (.its [u (.bin .lss v11 v10)] [] 0 .skip (.exit 2) (.seq (.blk 3 (q [a 10 v9 v11,h 10 l0,w 5 (.al [z0,z0,z0,z0,z1,z1,z0,z0,z0,z0] []),u (.st l0 l1 10 [])] [] (.seq (.ite [f 0 v5,g l0,u (.bin .lss l0 (.i 0)),m l0,y 0 false (.fa v5 0),i 1 false l0,e 2 false v4,y 3 false (.bin .geq l1 l0),u (.pk l4 (.b true) l0),m l0,y 0 false (.fa v5 1),i 1 false l0,y 2 false (.bin .lss l0 (.i 0)),u (.pk l3 (.b true) l0),m l0,y 0 false (.fa v5 1),i 1 false l0,e 2 false v4,y 3 false (.bin .geq l1 l0),u (.pk l4 (.b true) l0),m l0,y 0 false (.fa v5 0),i 1 false l0,y 2 false (.fa v5 1),i 3 false l0,y 4 false (.bin .eql l2 l0),u (.pk l5 (.b true) l0)] [] 0 (q [x 2 (.i 4)] [] .ret) .skip) (.seq (.ite [f 2 v5,g l0,u (.bin .lss l0 (.i 1)),m l0,y 0 false (.fa v5 2),i 1 false l0,y 2 false (.bin .gtr l0 (.i 100000)),u (.pk l3 (.b true) l0),m l0,y 0 false (.fa v5 3),i 1 false l0,y 2 false (.bin .lss l0 (.i 1)),u (.pk l3 (.b true) l0),m l0,y 0 false (.fa v5 3),i 1 false l0,y 2 false (.bin .gtr l0 (.i 1000)),u (.pk l3 (.b true) l0)] [] 0 (q [x 2 (.i 1)] [] .ret) .skip) (.ite [f 6 v5,h 2 l0,u (.ca N.eO 0 [] [.l 0,.i 1,.i 262144]),u (.un .not l0),m l0,y 0 false (.fa v5 8),y 1 false (.ld l0 2 true),y 2 false (.ca N.eO 0 [] [.l 0,.i (-2199023255552),.i 2199023255552]),y 3 false (.un .not l0),u (.pk l4 (.b true) l0)] [] 0 (q [x 2 (.i 1)] [] .ret) .skip))))) (.reg [u (.bin .add v11 (.i 1)),x 11 l0] [])))
def rB:C:= .loop true [0,1,2,3,5,6,7,8] K.lS
def gJ:Fn:= { aY:=1,vars:=[0,1,2,4,5,7,19,20,21,38,39,40],body:=(q [w 1 (.bx v0 2),x 2 (.i 0)] [] (.seq (.ite [f 0 v1,g l0,u (.ln l0),u (.bin .gtr l0 (.i 64)),m l0,y 0 false (.fa v1 1),i 1 false l0,y 2 false (.ln l0),y 3 false (.bin .gtr l0 (.i 128)),u (.pk l4 (.b true) l0)] [] 0 (q [x 2 (.i 2)] [] .ret) .skip) (.seq (q [f 0 v1,w 6 (.ld l0 1 false),w 7 (.ln l0),x 8 (.i 0)] [] (.blk 0 K.rA)) (q [f 0 v1,g l0,u (.ln l0),x 4 l0] [] (.seq (q [f 1 v1,w 9 (.ld l0 1 false),w 10 (.ln l0),x 11 (.i 0)] [] (.blk 2 K.rB)) (q [x 2 (.i 0)] [] .ret)))))),res:=[(2,none)]}
def dO:Fn:= { aY:=2,vars:=[0,1,4,5,6,7,8,9,10,11,12,13],body:=(q [w 2 (.mv (.c (.t (.int .u64 (0))))),w 3 (.mv (.c (.t (.int .u64 (0)))))] [] (q [m v0,u (.bin .and l0 (.c (.t (.int .u64 (4294967295))))),x 4 l0] [] (q [m v0,u (.bin .shr l0 (.c (.t (.int .u64 (32))))),x 5 l0] [] (q [m v1,u (.bin .and l0 (.c (.t (.int .u64 (4294967295))))),x 6 l0] [] (q [m v1,u (.bin .shr l0 (.c (.t (.int .u64 (32))))),x 7 l0] [] (q [m v4,m v6,u (.bin .mul l1 l0),x 8 l0] [] (q [m v5,m v6,u (.bin .mul l1 l0),m v8,u (.bin .shr l0 (.c (.t (.int .u64 (32))))),u (.bin .add l2 l0),x 9 l0] [] (q [m v9,u (.bin .and l0 (.c (.t (.int .u64 (4294967295))))),x 10 l0] [] (q [m v9,u (.bin .shr l0 (.c (.t (.int .u64 (32))))),x 11 l0] [] (q [m v10,m v4,m v7,u (.bin .mul l1 l0),u (.bin .add l3 l0),x 10 l0] [] (q [m v5,m v7,u (.bin .mul l1 l0),m v11,u (.bin .add l1 l0),m v10,u (.bin .shr l0 (.c (.t (.int .u64 (32))))),u (.bin .add l2 l0),x 2 l0] [] (q [m v0,m v1,u (.bin .mul l1 l0),x 3 l0] [] .ret)))))))))))),res:=[(2,none),(3,none)]}
def eO:Fn:= { aY:=3,vars:=[0,1,2,3,6],body:=(q [w 3 (.bx v0 2),x 4 (.b false)] [] (q [m v1,f 0 v3,g l0,u (.bin .leq l2 l0),m l0,y 0 true (.fa v3 0),i 1 true l0,y 2 true (.fa v3 1),i 3 true l0,y 4 true (.bin .leq l2 l0),u (.pk l5 l0 (.b false)),m l0,y 0 true (.fa v3 1),i 1 true l0,e 2 true v2,y 3 true (.bin .leq l1 l0),u (.pk l4 l0 (.b false)),x 4 l0] [] .ret)),res:=[(4,none)]}
end Go.Ev.K
namespace Go.Ev
class fH [Lib]:Prop where
 oJ:Lib.fs N.gJ=some K.gJ
 mD:Lib.fs N.dO=some K.dO
 ny:Lib.fs N.eO=some K.eO
namespace K
variable [Lib] [fH]
theorem oJ:Lib.fs N.gJ=some K.gJ:=fH.oJ
theorem mD:Lib.fs N.dO=some K.dO:=fH.mD
theorem ny:Lib.fs N.eO=some K.eO:=fH.ny
end K
end Go.Ev
