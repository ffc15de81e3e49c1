/- Parts of the proof: see the text that holds the theorem. -/
import Derived.Test.YtifghciaddehaaaGreatZ2
set_option linter.all false
set_option maxRecDepth 100000
namespace Go.Ev
open Go
abbrev Tr:=List D×List D×af
def Aw(x:Option (D×af)):Option D:=x.map Prod.fst
def r9:O→Bool
 | .ld .. =>true
 | .ia .. =>true
 | .sc .. =>true
 | .mkt .. =>true
 | _=>false
def RL(call:aJ)(all:List R)(n:Nat)(acc:List Tr)(p m:Nat):Prop:=
 match all[p]?,acc[n-p]?,acc[n-m]?,acc[n-(p+1)]? with
 | some r,some s,some a,some s'=>(match r.o with
   | .al _ _=>a.2.2[s.2.2.length]?=s'.2.2[s.2.2.length]?
   | .bs xs _=>cy s.1 r.g=some false∨((bW (X.get s.2.1 s.1) xs).bind oO).isSome=true
   | o=>r9 o=true∧(cy s.1 r.g=some false∨Aw (evO call (X.get s.2.1 s.1) a.2.2 o)=Aw (evO call (X.get s.2.1 s.1) s.2.2 o)))
 | _,_,_,_=>False
def pZ(call:aJ)(all:List R)(n:Nat)(acc:List Tr):List (Nat×Nat)→Prop
 | []=>True
 | (p,m)::r=>RL call all n acc p m∧m≤n∧pZ call all n acc r
open Classical in
noncomputable def I6(call:aJ)(rs:List R)(ps:List (Nat×Nat))(vs:List D)(H:af):Option (List D×List D×af):=
 if pZ call rs rs.length (trace call rs [] vs H).reverse ps then evR call rs [] vs H else none
theorem vS{call:aJ}:∀ {rs:List R} {L vs:List D} {H:af} {res:List D×List D×af},evR call rs L vs H=some res→
 (trace call rs L vs H).length=rs.length+1∧
 ∀p r s s',rs[p]?=some r→(trace call rs L vs H)[p]?=some s→(trace call rs L vs H)[p+1]?=some s'→
  (∃q,cy s.1 r.g=some true∧evO call (X.get s.2.1 s.1) s.2.2 r.o=some q∧s'=(q.1::s.1,wr s.2.1 r.d q.1,q.2))∨cy s.1 r.g=some false
 | [],L,vs,H,res,h=>by simp[trace]
 | r::rs,L,vs,H,res,h=>by
   simp only[evR]at h
   obtain⟨b,hb,h⟩:=Option.bind_eq_some_iff.1 h
   cases b with
   | true=>
     simp only[if_true]at h
     obtain⟨q,hq,h⟩:=Option.bind_eq_some_iff.1 h
     obtain⟨a1,a2⟩:=vS h
     have e:trace call (r::rs) L vs H=(L,vs,H)::trace call rs (q.1::L) (wr vs r.d q.1) q.2:=by simp[trace,hb,hq]
     rw[e]
     refine⟨by simp[a1],fun p r' s s' hr hs hs'=>?_⟩
     cases p with
     | zero=>
       simp at hr hs hs'
       subst hr;subst hs
       have:(trace call rs (q.1::L) (wr vs r.d q.1) q.2)[0]?=some (q.1::L,wr vs r.d q.1,q.2):=by cases rs<;>simp[trace]
       rw[this]at hs'
       exact .inl ⟨q,hb,hq,(Option.some.inj hs').symm⟩
     | succ p=>simp at hr hs hs';exact a2 p r' s s' hr hs hs'
   | false=>
     simp only[Bool.false_eq_true,if_false]at h
     obtain⟨a1,a2⟩:=vS h
     have e:trace call (r::rs) L vs H=(L,vs,H)::trace call rs (.tup []::L) (wr vs r.d (.tup [])) H:=by simp[trace,hb]
     rw[e]
     refine⟨by simp[a1],fun p r' s s' hr hs hs'=>?_⟩
     cases p with
     | zero=>
       simp at hr hs
       subst hr;subst hs
       exact .inr hb
     | succ p=>simp at hr hs hs';exact a2 p r' s s' hr hs hs'
theorem EK{call:aJ}{get:X→Option D}{o:O}(h:r9 o=true)(H:af):Aw (evO call get H o)=xF get H o:=by
 cases o<;>simp only[r9,Bool.false_eq_true]at h
 case ia x i sz=>
  simp only[evO,xF,Aw]
  cases get x with
  | none=>rfl
  | some a=>
    simp only[Option.bind_some]
    cases (get i).bind intOf with
    | none=>rfl
    | some n=>simp only[Option.bind_some];cases A2 H a n sz<;>rfl
 case ld x n agg=>
  simp only[evO,xF,Aw]
  cases get x with
  | none=>rfl
  | some a=>simp only[Option.bind_some];cases vE H a n agg<;>rfl
 case mkt len zero sz=>
  simp only[evO,xF,Aw]
  cases (get len).bind intOf with
  | none=>rfl
  | some n=>
    simp only[Option.bind_some]
    cases idx n with
    | none=>rfl
    | some m=>simp only[Option.bind_some];split<;>rfl
 case sc x lo hi sz=>
  simp only[evO,xF,Aw]
  cases get x with
  | none=>rfl
  | some a=>
    simp only[Option.bind_some]
    cases Ho get lo with
    | none=>rfl
    | some l=>
      simp only[Option.bind_some]
      cases Ho get hi with
      | none=>rfl
      | some h=>simp only[Option.bind_some];cases m7 H a l h sz<;>rfl
theorem qj{call:aJ}{rs:List R}{ps:List (Nat×Nat)}{vs:List D}{H:af}{q:List D×List D×af}(h:I6 call rs ps vs H=some q):rI call rs ps vs H=some q:=by
 unfold I6 at h
 split at h
 · rename_i hp
   unfold rI
   obtain⟨h1,h2⟩:=vS h
   have key:ps.all (steady (trace call rs [] vs H) rs)=true:=by
    rw[List.all_eq_true]
    have:∀(ps:List (Nat×Nat)),pZ call rs rs.length (trace call rs [] vs H).reverse ps→∀x∈ps,steady (trace call rs [] vs H) rs x=true:=by
     intro ps
     induction ps with
     | nil=>intro _ x hx;cases hx
     | cons y ps ih=>
       intro hps x hx
       obtain⟨p,m⟩:=y
       obtain⟨hp,hm,hps⟩:=hps
       rcases List.mem_cons.1 hx with rfl | hx
       · unfold RL at hp
         have hidx:∀k,k≤rs.length→(trace call rs [] vs H).reverse[rs.length-k]?=(trace call rs [] vs H)[k]?:=by
          intro k hk
          rw[List.getElem?_reverse (by omega),h1]
          congr 1;omega
         split at hp
         · rename_i r s a s' hr hs ha hs'
           have hpl:p<rs.length:=(List.getElem?_eq_some_iff.1 hr).1
           rw[hidx p (by omega)]at hs
           rw[hidx m hm]at ha
           rw[hidx (p+1) (by omega)]at hs'
           simp only[steady,hs,hr,ha,hs']
           have hst:=h2 p r s s' hr hs hs'
           have gen:∀o,r.o=o→r9 o=true→(cy s.1 r.g=some false∨Aw (evO call (X.get s.2.1 s.1) a.2.2 o)=Aw (evO call (X.get s.2.1 s.1) s.2.2 o))→
            cy s.1 r.g=some false∨(xF (X.get s.2.1 s.1) a.2.2 o=xF (X.get s.2.1 s.1) s.2.2 o∧(xF (X.get s.2.1 s.1) s.2.2 o).isSome=true):=by
            intro o ho hl hor
            rcases hor with h3 | h3
            · exact .inl h3
            · rw[EK hl,EK hl]at h3
              rcases hst with⟨q,k1,k2,_⟩ | k
              · rw[ho]at k2
                have h4:xF (X.get s.2.1 s.1) s.2.2 o=some q.1:=by rw[← EK hl (call:=call),k2];rfl
                exact .inr ⟨h3,by rw[h4];rfl⟩
              · exact .inl k
           split
           · rename_i zero live ho
             rw[ho]at hp
             simp only at hp
             simp[hp]
           · rename_i hnal
             simp only[Bool.or_eq_true,beq_iff_eq,Bool.and_eq_true,decide_eq_true_eq]
             cases ho:r.o with
             | ld x n agg=>rw[ho]at hp;exact gen _ ho rfl hp.2
             | ia x i sz=>rw[ho]at hp;exact gen _ ho rfl hp.2
             | sc x lo hi sz=>rw[ho]at hp;exact gen _ ho rfl hp.2
             | mkt x z sz=>rw[ho]at hp;exact gen _ ho rfl hp.2
             | al z l=>exact(hnal _ _ ho).elim
             | bs xs sz=>
               rw[ho]at hp
               simp only at hp
               rcases hp with h3 | h3
               · exact .inl h3
               · rcases hst with⟨q,k1,k2,_⟩ | k
                 · obtain⟨ts,hts⟩:=Option.isSome_iff_exists.1 h3
                   obtain⟨ds,hds,hts⟩:=Option.bind_eq_some_iff.1 hts
                   rw[ho]at k2
                   simp only[evO,hds,Option.bind_some]at k2
                   split at k2
                   · rename_i hall
                     have har:∀(H:af) (ds:List D) (ts:List T),oO ds=some ts→ds.flatMap (eZ H depth)=[]∧bW (frz H depth) ds=some ts:=by
                      intro H ds
                      induction ds with
                      | nil=>intro ts h;simp[oO]at h;subst h;exact⟨rfl,rfl⟩
                      | cons d ds ih=>
                        intro ts h
                        cases d with
                        | t x=>
                          simp only[oO,Option.map_eq_some_iff]at h
                          obtain⟨r,hr,rfl⟩:=h
                          obtain⟨i1,i2⟩:=ih r hr
                          exact⟨by rw[List.flatMap_cons,i1];simp[eZ,depth],by simp[bW,frz,i2]⟩
                        | _=>simp[oO]at h
                     right
                     simp only[xF,hds,Option.bind_some,hall,(har _ ds ts hts).1,(har _ ds ts hts).2,List.isEmpty_nil,Bool.and_self,if_true,Option.map_some,Option.isSome_some,and_self]
                   · cases k2
                 · exact .inl k
             | _=>rw[ho]at hp;simp[r9]at hp
         · exact hp.elim
       · exact ih hps x hx
    exact fun x hx=>this ps hp x hx
   rw[if_pos (by simp[key])]
   exact h
 · cases h
noncomputable def exS(call:aJ):C→St→Option (Ex×St)
 | .skip,st=>some (.normal,st)
 | .reg rs ps,st=>(I6 call rs ps st.vs st.H).map fun q=>(.normal,⟨q.2.1,q.2.2⟩)
 | .seq a b,st=>(exS call a st).bind fun p=>gl p (exS call b)
 | .ite rs ps k a b,st=>(I6 call rs ps st.vs st.H).bind fun q=>
  fT q.1[k]? (exS call a ⟨q.2.1,q.2.2⟩) (exS call b ⟨q.2.1,q.2.2⟩)
 | .its rs ps k a b c,st=>((I6 call rs ps st.vs st.H).bind fun q=>
  fT q.1[k]? (exS call a ⟨q.2.1,q.2.2⟩) (exS call b ⟨q.2.1,q.2.2⟩)).bind fun p=>gl p (exS call c)
 | .itk rs ps k a b c,st=>(I6 call rs ps st.vs st.H).bind fun q=>
  fT q.1[k]? ((exS call a ⟨q.2.1,q.2.2⟩).bind fun p=>gl p (exS call c)) ((exS call b ⟨q.2.1,q.2.2⟩).bind fun p=>gl p (exS call c))
 | .itv j a b,st=>fT st.vs[j]? (exS call a st) (exS call b st)
 | .blk id c,st=>(exS call c st).map (leave id)
 | .loop gc dead c,st=>mw gc dead (exS call c) ⟨jR dead st.vs,st.H⟩
 | .exit id,st=>some (.exit id,st)
 | .ret,st=>some (.ret,st)
 | .fail,_=>none
 | .cnd _ c,st=>exS call c st
 | .rng x p f r1 p1 r2 p2,st=>(I3 (stepG (I6 call) st.vs p r1 p1 r2 p2) (Mv f st.vs[x]?) st.H).map fun H=>(.normal,⟨st.vs,H⟩)
theorem Nr{call:aJ}:∀(c:C) (st:St) (p:Ex×St),exS call c st=some p→exC call c st=some p:=by
 intro c
 induction c with
 | skip=>intro st p h;exact h
 | reg rs ps=>
   intro st p h
   simp only[exS,exC]at h ⊢
   obtain⟨q,hq,rfl⟩:=Option.map_eq_some_iff.1 h
   rw[qj hq];rfl
 | seq a b iha ihb=>
   intro st p h
   simp only[exS,exC]at h ⊢
   obtain⟨q,hq,h⟩:=Option.bind_eq_some_iff.1 h
   rw[iha _ _ hq,Option.bind_some]
   exact fK h ihb
 | ite rs ps k a b iha ihb=>
   intro st p h
   simp only[exS,exC]at h ⊢
   obtain⟨q,hq,h⟩:=Option.bind_eq_some_iff.1 h
   rw[qj hq,Option.bind_some]
   exact jH h (iha _ _) (ihb _ _)
 | its rs ps k a b c iha ihb ihc=>
   intro st p h
   simp only[exS,exC]at h ⊢
   obtain⟨p1,hp1,h⟩:=Option.bind_eq_some_iff.1 h
   obtain⟨q,hq,hp1⟩:=Option.bind_eq_some_iff.1 hp1
   rw[qj hq,Option.bind_some,jH hp1 (iha _ _) (ihb _ _),Option.bind_some]
   exact fK h ihc
 | itk rs ps k a b c iha ihb ihc=>
   intro st p h
   simp only[exS,exC]at h ⊢
   obtain⟨q,hq,h⟩:=Option.bind_eq_some_iff.1 h
   rw[qj hq,Option.bind_some]
   refine jH h (fun h1=>?_) (fun h1=>?_)
   · obtain⟨p1,h2,h3⟩:=Option.bind_eq_some_iff.1 h1
     rw[iha _ _ h2,Option.bind_some]
     exact fK h3 ihc
   · obtain⟨p1,h2,h3⟩:=Option.bind_eq_some_iff.1 h1
     rw[ihb _ _ h2,Option.bind_some]
     exact fK h3 ihc
 | itv j a b iha ihb=>
   intro st p h
   simp only[exS,exC]at h ⊢
   exact jH h (iha _ _) (ihb _ _)
 | blk id c ih=>
   intro st p h
   simp only[exS,exC]at h ⊢
   obtain⟨q,hq,rfl⟩:=Option.map_eq_some_iff.1 h
   rw[ih _ _ hq];rfl
 | loop gc dead c ih=>
   intro st p h
   simp only[exS,exC]at h ⊢
   obtain⟨n,hn⟩:=ov.1 h
   exact ov.2 ⟨n,uv ih hn⟩
 | exit id=>intro st p h;exact h
 | ret=>intro st p h;exact h
 | fail=>intro st p h;cases h
 | cnd v c ih=>intro st p h;exact ih st p h
 | rng x p f r1 p1 r2 p2=>
   intro st q h
   simp only[exS,exC]at h ⊢
   obtain⟨H,hH,rfl⟩:=Option.map_eq_some_iff.1 h
   rw[yf (vF fun _ _ _ _ _ hr=>qj hr) hH];rfl
end Go.Ev
namespace Go.Ev
open Go
abbrev I(n:Int):D:= .t (.int .i64 n)
abbrev B(b:Bool):D:= .t (.bool b)
def I7{β:Type}(call:aJ):List R→List D→List D→af→(List D→List D→af→Option β)→Option β
 | rs,L,vs,H,K=>(evR call rs L vs H).bind fun q=>K q.1 q.2.1 q.2.2
def RM{β:Type}(call:aJ)(rs:List R)(d:Option Nat)(L vs:List D)(K:List D→List D→af→Option β)(p:D×af):Option β:=
 I7 call rs (p.1::L) (wr vs d p.1) p.2 K
@[go_sem] theorem abo {β : Type} (call : aJ) (rs : List R) (d : Option Nat) (L vs : List D) (K : List D → List D → af → Option β) (x : D) (H : af) :
 RM call rs d L vs K (x,H)=I7 call rs (x::L) (wr vs d x) H K:=(rfl)
@[go_sem] theorem abp {β : Type} (call : aJ) (L vs : List D) (H : af) (K : List D → List D → af → Option β) : I7 call [] L vs H K = K L vs H := (rfl)
@[go_sem] theorem Ys {β : Type} (call : aJ) (o : O) (d : Option Nat) (rs : List R) (L vs : List D) (H : af) (K : List D → List D → af → Option β) :
 I7 call (⟨o,d,none⟩::rs) L vs H K=(evO call (X.get vs L) H o).bind (RM call rs d L vs K):=by
 simp[I7,evR,cy,Option.bind_assoc]
 rfl
def gate{β:Type}(c:Option D)(w:Bool)(a b:Option β):Option β:=match c with
 | some (.t (.bool x))=>if x=w then a else b
 | some (.tup [])=>b
 | _=>none
@[congr] theorem Vq {β : Type} {c c' : Option D} {w : Bool} {a b : Option β} (h : True → c = c') : gate c w a b = gate c' w a b := by rw [h trivial]
@[go_sem] theorem abq {β : Type} (p : Prop) [Decidable p] (a b : Option β) : gate (some (.t (.bool (decide p)))) true a b = if p then a else b := by
 by_cases h:p<;>simp[gate,h]
@[go_sem] theorem Yt {β : Type} (p : Prop) [Decidable p] (a b : Option β) : gate (some (.t (.bool (decide p)))) false a b = if p then b else a := by
 by_cases h:p<;>simp[gate,h]
@[go_sem] theorem Yu {β : Type} (x : Bool) (a b : Option β) : gate (some (.t (.bool x))) true a b = if x = true then a else b := (rfl)
@[go_sem] theorem Vr {β : Type} (x : Bool) (a b : Option β) : gate (some (.t (.bool x))) false a b = if x = true then b else a := by cases x <;> rfl
@[go_sem] theorem Yv {β : Type} (w : Bool) (a b : Option β) : gate (some (.tup [])) w a b = b := (rfl)
@[go_sem] theorem Yw {β : Type} (call : aJ) (o : O) (d : Option Nat) (k : Nat) (w : Bool) (rs : List R) (L vs : List D) (H : af) (K : List D → List D → af → Option β) :
 I7 call (⟨o,d,some (k,w)⟩::rs) L vs H K=gate L[k]? w ((evO call (X.get vs L) H o).bind (RM call rs d L vs K)) (I7 call rs (.tup []::L) (wr vs d (.tup [])) H K):=by
 simp only[I7,evR,cy]
 cases hL:L[k]? with
 | none=>simp[gate]
 | some c=>
   simp only[Option.bind_some]
   cases c with
   | t x=>
     cases x with
     | bool b=>cases b<;>cases w<;>simp[gate,Option.bind_assoc]<;>rfl
     | _=>simp[gate]
   | tup ds=>
     cases ds with
     | nil=>simp[gate]
     | cons=>simp[gate]
   | _=>simp[gate]
open Classical in
noncomputable def xe{β:Type}(p:Prop)(x:Option β):Option β:=if p then x else none
@[go_sem] theorem RN {β : Type} (x : Option β) : xe True x = x := by simp [xe]
noncomputable def CR{β:Type}(call:aJ)(all:List R)(n:Nat)(ps:List (Nat×Nat))(rs:List R)(L vs:List D)(H:af)(acc:List Tr)(K:List D→List D→af→Option β):Option β:=
 (evR call rs L vs H).bind fun q=>xe (pZ call all n ((trace call rs L vs H).reverse++acc) ps) (K q.1 q.2.1 q.2.2)
noncomputable def J2{β:Type}(call:aJ)(all:List R)(n:Nat)(ps:List (Nat×Nat))(rs:List R)(d:Option Nat)(L vs:List D)(H:af)(acc:List Tr)(K:List D→List D→af→Option β)(p:D×af):Option β:=
 CR call all n ps rs (p.1::L) (wr vs d p.1) p.2 ((L,vs,H)::acc) K
@[go_sem] theorem abr {β : Type} (call : aJ) (all : List R) (n : Nat) (ps : List (Nat × Nat)) (rs : List R) (d : Option Nat) (L vs : List D) (H : af) (acc : List Tr) (K : List D → List D → af → Option β) (x : D) (H' : af) :
 J2 call all n ps rs d L vs H acc K (x,H')=CR call all n ps rs (x::L) (wr vs d x) H' ((L,vs,H)::acc) K:=(rfl)
@[go_sem] theorem abt {β : Type} (call : aJ) (all : List R) (n : Nat) (ps : List (Nat × Nat)) (L vs : List D) (H : af) (acc : List Tr) (K : List D → List D → af → Option β) :
 CR call all n ps [] L vs H acc K=xe (pZ call all n ((L,vs,H)::acc) ps) (K L vs H):=by
 simp[CR,evR,trace]
theorem CS{β:Type}(call:aJ)(all:List R)(n:Nat)(ps:List (Nat×Nat))(r:R)(rs:List R)(L vs:List D)(H:af)(acc:List Tr)(K:List D→List D→af→Option β):
 CR call all n ps (r::rs) L vs H acc K=(cy L r.g).bind fun w=>
  if w then(evO call (X.get vs L) H r.o).bind (J2 call all n ps rs r.d L vs H acc K)else CR call all n ps rs (.tup []::L) (wr vs r.d (.tup [])) H ((L,vs,H)::acc) K:=by
 obtain hw | ⟨w,hw⟩:cy L r.g=none∨∃w,cy L r.g=some w:=by cases cy L r.g<;>simp
 · simp[CR,evR,trace,hw]
 · cases w with
   | true=>
     obtain hq | ⟨q,hq⟩:evO call (X.get vs L) H r.o=none∨∃q,evO call (X.get vs L) H r.o=some q:=by cases evO call (X.get vs L) H r.o<;>simp
     · simp[CR,evR,trace,hw,hq]
     · simp[CR,evR,trace,hw,hq,J2]
   | false=>simp[CR,evR,trace,hw]
@[go_sem] theorem Yx {β : Type} (call : aJ) (all : List R) (n : Nat) (ps : List (Nat × Nat)) (o : O) (d : Option Nat) (rs : List R) (L vs : List D) (H : af) (acc : List Tr) (K : List D → List D → af → Option β) :
 CR call all n ps (⟨o,d,none⟩::rs) L vs H acc K=(evO call (X.get vs L) H o).bind (J2 call all n ps rs d L vs H acc K):=by
 rw[CS];simp[cy]
@[go_sem] theorem Yy {β : Type} (call : aJ) (all : List R) (n : Nat) (ps : List (Nat × Nat)) (o : O) (d : Option Nat) (k : Nat) (w : Bool) (rs : List R) (L vs : List D) (H : af) (acc : List Tr) (K : List D → List D → af → Option β) :
 CR call all n ps (⟨o,d,some (k,w)⟩::rs) L vs H acc K=
  gate L[k]? w ((evO call (X.get vs L) H o).bind (J2 call all n ps rs d L vs H acc K)) (CR call all n ps rs (.tup []::L) (wr vs d (.tup [])) H ((L,vs,H)::acc) K):=by
 rw[CS]
 simp only[cy]
 cases hL:L[k]? with
 | none=>simp[gate]
 | some c=>
   simp only[Option.bind_some]
   cases c with
   | t x=>
     cases x with
     | bool b=>cases b<;>cases w<;>simp[gate]
     | _=>simp[gate]
   | tup ds=>
     cases ds with
     | nil=>simp[gate]
     | cons=>simp[gate]
   | _=>simp[gate]
def xJ(call:aJ):Option R→Option Tr→Option Tr→Option Tr→Prop
 | some r,some s,some a,some s'=>(match r.o with
   | .al _ _=>a.2.2[s.2.2.length]?=s'.2.2[s.2.2.length]?
   | .bs xs _=>cy s.1 r.g=some false∨((bW (X.get s.2.1 s.1) xs).bind oO).isSome=true
   | o=>r9 o=true∧(cy s.1 r.g=some false∨Aw (evO call (X.get s.2.1 s.1) a.2.2 o)=Aw (evO call (X.get s.2.1 s.1) s.2.2 o)))
 | _,_,_,_=>False
@[go_sem] theorem Vs (call : aJ) (all : List R) (n : Nat) (acc : List Tr) : pZ call all n acc [] = True := (rfl)
@[go_sem] theorem RO (call : aJ) (all : List R) (n : Nat) (acc : List Tr) (p m : Nat) (r : List (Nat × Nat)) :
 pZ call all n acc ((p,m)::r)=(xJ call all[p]? acc[n-p]? acc[n-m]? acc[n-(p+1)]?∧m≤n∧pZ call all n acc r):=by
 simp only[pZ,RL,xJ]
 try rfl
section
variable (call : aJ) (d : Option Nat) (gd : Option (Nat × Bool)) (L vs L' vs' : List D) (H H' : af) (s' : Tr)
@[go_sem] theorem abu (x : X) (n : Nat) (agg : Bool) : xJ call (some ⟨.ld x n agg, d, gd⟩) (some (L, vs, H)) (some (L', vs', H')) (some s') =
 (cy L gd=some false∨Aw (evO call (X.get vs L) H' (.ld x n agg))=Aw (evO call (X.get vs L) H (.ld x n agg))):=by simp[xJ,r9]
@[go_sem] theorem abv (x i : X) (sz : Nat) : xJ call (some ⟨.ia x i sz, d, gd⟩) (some (L, vs, H)) (some (L', vs', H')) (some s') =
 (cy L gd=some false∨Aw (evO call (X.get vs L) H' (.ia x i sz))=Aw (evO call (X.get vs L) H (.ia x i sz))):=by simp[xJ,r9]
@[go_sem] theorem abw (x : X) (lo hi : Option X) (sz : Nat) : xJ call (some ⟨.sc x lo hi sz, d, gd⟩) (some (L, vs, H)) (some (L', vs', H')) (some s') =
 (cy L gd=some false∨Aw (evO call (X.get vs L) H' (.sc x lo hi sz))=Aw (evO call (X.get vs L) H (.sc x lo hi sz))):=by simp[xJ,r9]
@[go_sem] theorem Yz (x : X) (z : T) (sz : Nat) : xJ call (some ⟨.mkt x z sz, d, gd⟩) (some (L, vs, H)) (some (L', vs', H')) (some s') =
 (cy L gd=some false∨Aw (evO call (X.get vs L) H' (.mkt x z sz))=Aw (evO call (X.get vs L) H (.mkt x z sz))):=by simp[xJ,r9]
@[go_sem] theorem abx (z : List D) (l : List (Nat × Nat)) (L2 vs2 : List D) (H2 : af) : xJ call (some ⟨.al z l, d, gd⟩) (some (L, vs, H)) (some (L', vs', H')) (some (L2, vs2, H2)) = (H'[H.length]? = H2[H.length]?) := (rfl)
@[go_sem] theorem aby (xs : List X) (sz : Nat) : xJ call (some ⟨.bs xs sz, d, gd⟩) (some (L, vs, H)) (some (L', vs', H')) (some s') =
 (cy L gd=some false∨((bW (X.get vs L) xs).bind oO).isSome=true):=(rfl)
@[go_sem] theorem PE (L : List D) : cy L none = some true := (rfl)
def RP(w:Bool):Option D→Option Bool
 | some (.t (.bool b))=>some (b==w)
 | some (.tup [])=>some false
 | _=>none
@[go_sem] theorem Vt (w b : Bool) : RP w (some (.t (.bool b))) = some (b == w) := (rfl)
@[go_sem] theorem YA (w : Bool) : RP w (some (.tup [])) = some false := (rfl)
@[go_sem] theorem PF (L : List D) (k : Nat) (w : Bool) : cy L (some (k, w)) = RP w L[k]? := by
 simp only[cy]
 cases L[k]? with
 | none=>rfl
 | some c=>cases c with
   | t x=>cases x<;>rfl
   | tup ds=>cases ds<;>rfl
   | _=>rfl
@[go_sem] theorem YB (x : D) : Aw (some (x, H)) = some x := (rfl)
attribute [go_sem] beq_true beq_false or_true true_or or_self
end
theorem Gg(call:aJ)(rs:List R)(vs:List D)(H:af):I6 call rs [] vs H=evR call rs [] vs H:=by
 simp[I6,pZ]
def adO(L vs:List D)(H:af):Option (Ex×St):=some (.normal,⟨vs,H⟩)
noncomputable def adP(call:aJ)(k:Nat)(a b:C)(L vs:List D)(H:af):Option (Ex×St):=fT L[k]? (exS call a ⟨vs,H⟩) (exS call b ⟨vs,H⟩)
@[go_sem] theorem adQ (L vs : List D) (H : af) : adO L vs H = some (.normal, ⟨vs, H⟩) := (rfl)
@[go_sem] theorem adR (call : aJ) (k : Nat) (a b : C) (L vs : List D) (H : af) : adP call k a b L vs H = fT L[k]? (exS call a ⟨vs, H⟩) (exS call b ⟨vs, H⟩) := (rfl)
def andThen(x:Option (Ex×St))(k:St→Option (Ex×St)):Option (Ex×St):=x.bind fun p=>gl p k
@[go_sem] theorem Mx (st : St) (k : St → Option (Ex × St)) : andThen (some (.normal, st)) k = k st := (rfl)
@[go_sem] theorem RQ (st : St) (k : St → Option (Ex × St)) : andThen (some (.ret, st)) k = some (.ret, st) := (rfl)
@[go_sem] theorem PG (i : Nat) (st : St) (k : St → Option (Ex × St)) : andThen (some (.exit i, st)) k = some (.exit i, st) := (rfl)
@[go_sem] theorem PH (k : St → Option (Ex × St)) : andThen none k = none := (rfl)
@[go_sem] theorem andThen_ite (c : Prop) [Decidable c] (a b : Option (Ex × St)) (k : St → Option (Ex × St)) : andThen (if c then a else b) k = if c then andThen a k else andThen b k := by
 split<;>rfl
@[go_sem] theorem abz (call : aJ) (st : St) : exS call .skip st = some (.normal, st) := (rfl)
@[go_sem] theorem adS (call : aJ) (rs : List R) (vs : List D) (H : af) : exS call (.reg rs []) ⟨vs, H⟩ = I7 call rs [] vs H adO := by
 simp only[exS,Gg,I7]
 cases evR call rs [] vs H<;>rfl
@[go_sem] theorem abA (call : aJ) (rs : List R) (p : Nat × Nat) (ps : List (Nat × Nat)) (vs : List D) (H : af) :
 exS call (.reg rs (p::ps)) ⟨vs,H⟩=CR call rs rs.length (p::ps) rs [] vs H [] adO:=by
 simp only[exS,I6,CR,List.append_nil]
 by_cases h:pZ call rs rs.length (trace call rs [] vs H).reverse (p::ps)
 · rw[if_pos h]
   simp only[xe,if_pos h]
   cases evR call rs [] vs H<;>rfl
 · rw[if_neg h]
   simp only[xe,if_neg h]
   cases evR call rs [] vs H<;>rfl
@[go_sem] theorem adT (call : aJ) (a b : C) (st : St) : exS call (.seq a b) st = andThen (exS call a st) (exS call b) := (rfl)
@[go_sem] theorem adU (call : aJ) (rs : List R) (k : Nat) (a b : C) (vs : List D) (H : af) : exS call (.ite rs [] k a b) ⟨vs, H⟩ = I7 call rs [] vs H (adP call k a b) := by
 simp only[exS,Gg,I7]
 cases evR call rs [] vs H<;>rfl
@[go_sem] theorem abB (call : aJ) (rs : List R) (p : Nat × Nat) (ps : List (Nat × Nat)) (k : Nat) (a b : C) (vs : List D) (H : af) :
 exS call (.ite rs (p::ps) k a b) ⟨vs,H⟩=CR call rs rs.length (p::ps) rs [] vs H [] (adP call k a b):=by
 simp only[exS,I6,CR,List.append_nil]
 by_cases h:pZ call rs rs.length (trace call rs [] vs H).reverse (p::ps)
 · rw[if_pos h]
   simp only[xe,if_pos h]
   cases evR call rs [] vs H<;>rfl
 · rw[if_neg h]
   simp only[xe,if_neg h]
   cases evR call rs [] vs H<;>rfl
@[go_sem] theorem adV (call : aJ) (rs : List R) (ps : List (Nat × Nat)) (k : Nat) (a b c : C) (st : St) : exS call (.its rs ps k a b c) st = andThen (exS call (.ite rs ps k a b) st) (exS call c) := (rfl)
@[go_sem] theorem adW (call : aJ) (rs : List R) (ps : List (Nat × Nat)) (k : Nat) (a b c : C) (st : St) : exS call (.itk rs ps k a b c) st = exS call (.ite rs ps k (.seq a c) (.seq b c)) st := (rfl)
@[go_sem] theorem adX (call : aJ) (j : Nat) (a b : C) (vs : List D) (H : af) : exS call (.itv j a b) ⟨vs, H⟩ = fT vs[j]? (exS call a ⟨vs, H⟩) (exS call b ⟨vs, H⟩) := (rfl)
@[go_sem] theorem abC (call : aJ) (id : Nat) (st : St) : exS call (.exit id) st = some (.exit id, st) := (rfl)
@[go_sem] theorem adY (call : aJ) (st : St) : exS call .ret st = some (.ret, st) := (rfl)
@[go_sem] theorem abD (call : aJ) (st : St) : exS call .fail st = none := (rfl)
@[go_sem] theorem adZ (call : aJ) (x p f : Nat) (r1 : List R) (p1 : List (Nat × Nat)) (r2 : List R) (p2 : List (Nat × Nat)) (vs : List D) (H : af) : exS call (.rng x p f r1 p1 r2 p2) ⟨vs, H⟩ = (I3 (stepG (I6 call) vs p r1 p1 r2 p2) (Mv f vs[x]?) H).map fun H => (.normal, ⟨vs, H⟩) := (rfl)
@[go_sem] theorem ad0 (call : aJ) (v : Bool) (c : C) (st : St) : exS call (.cnd v c) st = exS call c st := (rfl)
def vT(id:Nat)(x:Option (Ex×St)):Option (Ex×St):=x.map (leave id)
@[go_sem] theorem ad1 (call : aJ) (id : Nat) (c : C) (st : St) : exS call (.blk id c) st = vT id (exS call c st) := (rfl)
@[go_sem] theorem PI (id : Nat) (st : St) : vT id (some (.normal, st)) = some (.normal, st) := by simp [vT, leave]
@[go_sem] theorem YC (id : Nat) (st : St) : vT id (some (.ret, st)) = some (.ret, st) := by simp [vT, leave]
@[go_sem] theorem Vu (id i : Nat) (st : St) : vT id (some (.exit i, st)) = if i = id then some (.normal, st) else some (.exit i, st) := by
 simp only[vT,leave,Option.map_some,Ex.exit.injEq]
 split<;>rfl
@[go_sem] theorem Vv (id : Nat) : vT id none = none := (rfl)
@[go_sem] theorem YD (id : Nat) (c : Prop) [Decidable c] (a b : Option (Ex × St)) : vT id (if c then a else b) = if c then vT id a else vT id b := by
 split<;>rfl
@[congr] theorem RR {c c' : Option D} {a b : Option (Ex × St)} (h : True → c = c') : fT c a b = fT c' a b := by rw [h trivial]
@[go_sem] theorem YE (p : Prop) [Decidable p] (a b : Option (Ex × St)) : fT (some (.t (.bool (decide p)))) a b = if p then a else b := by
 by_cases h:p<;>simp[fT,h]
@[go_sem] theorem Vw (p : Prop) [Decidable p] (a b : Option (Ex × St)) : fT (some (.t (.bool (!decide p)))) a b = if p then b else a := by
 by_cases h:p<;>simp[fT,h]
@[go_sem] theorem abE (a : Option (Ex × St)) : fT (some .ub) a a = a := by simp [fT]
@[go_sem] theorem Vx (x : Bool) (a b : Option (Ex × St)) : fT (some (.t (.bool x))) a b = if x = true then a else b := (rfl)
def fh(gc:Bool)(dead:List Nat)(k:Nat)(x:Option (Ex×St)):Option St:=x.bind fun p=>match p.1 with
 | .normal=>tidy gc dead k p.2
 | _=>none
@[go_sem] theorem Ns (gc : Bool) (dead : List Nat) (k : Nat) (st : St) : fh gc dead k (some (.normal, st)) = tidy gc dead k st := (rfl)
@[go_sem] theorem Vy (gc : Bool) (dead : List Nat) (k : Nat) (c : Prop) [Decidable c] (a b : Option (Ex × St)) : fh gc dead k (if c then a else b) = if c then fh gc dead k a else fh gc dead k b := by
 split<;>rfl
theorem fo{gc:Bool}{dead:List Nat}{body:St→Option (Ex×St)}{st st2:St}(h:fh gc dead st.H.length (body st)=some st2)
 {p:Ex×St} (h2:mw gc dead body st2=some p):mw gc dead body st=some p:=by
 unfold fh at h
 obtain⟨⟨e,st1⟩,hq,h⟩:=Option.bind_eq_some_iff.1 h
 cases e with
 | normal=>exact Au hq h h2
 | ret=>cases h
 | exit=>cases h
theorem x8{gc:Bool}{dead:List Nat}{body:St→Option (Ex×St)}(s:Nat→St){p:Ex×St}(n:Nat)
 (h:∀j,j<n→fh gc dead (s j).H.length (body (s j))=some (s (j+1))) (he:mw gc dead body (s n)=some p):mw gc dead body (s 0)=some p:=by
 have:=xd (s:=s) n 0 (fun j _ hj=>by
  have h:=h j (by omega)
  unfold fh at h
  obtain⟨⟨e,st1⟩,hq,h⟩:=Option.bind_eq_some_iff.1 h
  cases e with
  | normal=>exact⟨st1,hq,h⟩
  | ret=>cases h
  | exit=>cases h) (by simpa using he)
 exact this
def abF(res:List (Nat×Option (Nat×Bool)))(k raw:Nat)(p:Ex×St):Option (D×af):=match p.1 with
 | .exit _=>none
 | _=>(iG p.2 res).bind (finish k raw p.2.H)
@[go_sem] theorem abG (res : List (Nat × Option (Nat × Bool))) (k raw : Nat) (vs : List D) (H : af) : abF res k raw (.ret, ⟨vs, H⟩) = (iG ⟨vs, H⟩ res).bind (finish k raw H) := (rfl)
@[go_sem] theorem RS (res : List (Nat × Option (Nat × Bool))) (k raw : Nat) (vs : List D) (H : af) : abF res k raw (.normal, ⟨vs, H⟩) = (iG ⟨vs, H⟩ res).bind (finish k raw H) := (rfl)
theorem RT{fs:Nat→Option Fn}{raw f:Nat}{args:List D}{H:af}{fn:Fn}{r:D×af}(hf:fs f=some fn)(hn:fn.nargs=args.length)
 (h:(exS (my fs) fn.body ⟨rY args fn.vars,H⟩).bind (abF fn.res H.length raw)=some r) (h0:fn.prim=[]:=by rfl):my fs raw f args H=some r:=by
 obtain⟨p,hp,he⟩:=Option.bind_eq_some_iff.1 h
 exact Nn hf hn (Nr _ _ _ hp) he h0
@[go_sem] theorem abH {α β : Type} (c : Prop) [Decidable c] (a b : Option α) (k : α → Option β) : (if c then a else b).bind k = if c then a.bind k else b.bind k := by
 split<;>rfl
@[go_sem] theorem ad2 {α β : Type} (c : Prop) [Decidable c] (a b : Option α) (k : α → β) : (if c then a else b).map k = if c then a.map k else b.map k := by
 split<;>rfl
theorem YF(a b:Int):(a==b)=decide (a=b):=by rw[Bool.eq_iff_iff];simp
theorem sO{n:Int}(h1: -9223372036854775808≤n)(h2:n≤9223372036854775807):IntKind.i64.wrap n=n:=by
 have e:IntKind.i64.wrap n=if n % 18446744073709551616≥9223372036854775808 then n % 18446744073709551616-18446744073709551616 else n % 18446744073709551616:=by
  simp[IntKind.wrap,IntKind.signed,IntKind.bits]
 rw[e];split<;>omega
section
variable {α β : Type}
@[go_sem] theorem RU (a : α) (f : α → Option β) : (some a).bind f = f a := (rfl)
@[go_sem] theorem Vz (a : α) (f : α → β) : (some a).map f = some (f a) := (rfl)
@[go_sem] theorem RV (f : α → Option β) : (none : Option α).bind f = none := (rfl)
@[go_sem] theorem VA (f : α → β) : (none : Option α).map f = none := (rfl)
@[go_sem] theorem VB (a : α) (l : List α) (f : α → β) : (a :: l).map f = f a :: l.map f := (rfl)
@[go_sem] theorem YG (f : α → β) : ([] : List α).map f = [] := (rfl)
@[go_sem] theorem VC (a : α) (l : List α) : (a :: l)[0]? = some a := (rfl)
@[go_sem] theorem VD (a : α) (l : List α) (n : Nat) : (a :: l)[n + 1]? = l[n]? := (rfl)
@[go_sem] theorem RW (a d : α) (l : List α) : (a :: l).getD 0 d = a := (rfl)
@[go_sem] theorem RX (a d : α) (l : List α) (n : Nat) : (a :: l).getD (n + 1) d = l.getD n d := (rfl)
@[go_sem] theorem VE (d : α) (n : Nat) : ([] : List α).getD n d = d := by simp
@[go_sem] theorem VF (a b : α) (l : List α) : (a :: l).set 0 b = b :: l := (rfl)
@[go_sem] theorem VG (a b : α) (l : List α) (n : Nat) : (a :: l).set (n + 1) b = a :: l.set n b := (rfl)
@[go_sem] theorem Nt (a : α) (l m : List α) : (a :: l) ++ m = a :: (l ++ m) := (rfl)
@[go_sem] theorem PJ (l : List α) : [] ++ l = l := (rfl)
@[go_sem] theorem PL (l : List α) : l ++ [] = l := by simp
@[go_sem] theorem My (a : α) (l : List α) (f : α → List β) : (a :: l).flatMap f = f a ++ l.flatMap f := by simp
@[go_sem] theorem Nu (f : α → List β) : ([] : List α).flatMap f = [] := by simp
@[go_sem] theorem PN : ([] : List α).length = 0 := (rfl)
@[go_sem] theorem Nv (a : α) (l : List α) : (a :: l).length = l.length + 1 := (rfl)
@[go_sem] theorem PO (l : List α) (f : α → β) : (l.map f).length = l.length := by simp
@[go_sem] theorem J3 (l m : List α) : (l ++ m).length = l.length + m.length := by simp
@[go_sem] theorem Gi (n : Nat) (a : α) : (List.replicate n a).length = n := by simp
@[go_sem] theorem PQ (l : List α) (i : Nat) (a : α) : (l.set i a).length = l.length := by simp
@[go_sem] theorem RY (l : List α) : l.drop 0 = l := (rfl)
@[go_sem] theorem RZ (a : α) (l : List α) (n : Nat) : (a :: l).drop (n + 1) = l.drop n := (rfl)
@[go_sem] theorem VH (n : Nat) : ([] : List α).drop n = [] := by simp
@[go_sem] theorem R0 (l : List α) : l.take 0 = [] := (rfl)
@[go_sem] theorem R1 (a : α) (l : List α) (n : Nat) : (a :: l).take (n + 1) = a :: l.take n := (rfl)
@[go_sem] theorem VI (n : Nat) : ([] : List α).take n = [] := by simp
@[go_sem] theorem R2 (a b : α) : (bif true then a else b) = a := (rfl)
@[go_sem] theorem PS (a b : α) : (bif false then a else b) = b := (rfl)
@[go_sem] theorem VJ (n : Nat) : n + 0 = n := (rfl)
@[go_sem] theorem VK (n : Nat) : 0 + n = n := by simp
@[go_sem] theorem VL (a b : α) : (some a = some b) = (a = b) := by simp
@[go_sem] theorem abI (a : α) : (some a).isSome = true := (rfl)
end
attribute [go_sem] decide_true decide_false if_true if_false Bool.false_eq_true Bool.true_eq_false decide_eq_true_eq decide_eq_false_iff_not Bool.and_eq_true Bool.or_eq_true Bool.not_eq_true' Bool.not_eq_true Bool.not_eq_false
 Bool.and_true Bool.true_and Bool.and_false Bool.false_and Bool.or_true Bool.true_or Bool.or_false Bool.false_or and_true true_and and_self not_true_eq_false not_false_eq_true beq_iff_eq bne_iff_ne ne_eq
@[go_sem] theorem VM : (!true) = false := (rfl)
@[go_sem] theorem R3 : (!false) = true := (rfl)
@[go_sem] theorem ahz (vs L : List D) (j : Nat) : X.get vs L (.v j) = vs[j]? := (rfl)
@[go_sem] theorem ahA (vs L : List D) (k : Nat) : X.get vs L (.l k) = L[k]? := (rfl)
@[go_sem] theorem ahB (vs L : List D) (d : D) : X.get vs L (.c d) = some d := (rfl)
@[go_sem] theorem ahC (vs L : List D) (n : Int) : X.get vs L (.i n) = some (I n) := (rfl)
@[go_sem] theorem ahD (vs L : List D) (x : Bool) : X.get vs L (.b x) = some (B x) := (rfl)
@[go_sem] theorem ad3 (vs : List D) (x : D) : wr vs none x = vs := (rfl)
@[go_sem] theorem ad4 (vs : List D) (s : Nat) (x : D) : wr vs (some s) x = vs.set s x := (rfl)
@[go_sem] theorem VN (args : List D) : rY args [] = [] := (rfl)
@[go_sem] theorem R4 (args : List D) (s : Nat) (r : List Nat) : rY args (s :: r) = args.getD s .und :: rY args r := (rfl)
def ad5(H:af)(d:D):Option (D×af):=some (d,H)
@[go_sem] theorem ad6 (H : af) (d : D) : ad5 H d = some (d, H) := (rfl)
def kv{α:Type}(a:α)(l:Option (List α)):Option (List α):=l.map (a:: ·)
@[go_sem] theorem VO {α : Type} (a : α) (l : List α) : kv a (some l) = some (a :: l) := (rfl)
@[go_sem] theorem VP {α : Type} (a : α) : kv a none = none := (rfl)
@[go_sem] theorem abJ {α β : Type} (f : α → Option β) : bW f [] = some [] := (rfl)
def agv{α β:Type}(f:α→Option β)(r:List α)(y:β):Option (List β):=kv y (bW f r)
@[go_sem] theorem R5 {α β : Type} (f : α → Option β) (r : List α) (y : β) : agv f r y = kv y (bW f r) := (rfl)
@[go_sem] theorem CT {α β : Type} (f : α → Option β) (x : α) (r : List α) : bW f (x :: r) = (f x).bind (agv f r) := (rfl)
section
variable (call : aJ) (get : X → Option D) (H : af)
@[go_sem] theorem ahE (x : X) : evO call get H (.mv x) = (get x).bind (ad5 H) := by simp only [evO]; cases get x <;> rfl
def abK(c a b:Option D):Option (D×af):=c.bind fun c=>a.bind fun a=>b.bind fun b=>(M6 c a b).map fun d=>(d,H)
@[go_sem] theorem ahF (c a b : X) : evO call get H (.pk c a b) = abK H (get c) (get a) (get b) := (rfl)
@[go_sem] theorem YH (x p q : Bool) : abK H (some (.t (.bool x))) (some (.t (.bool p))) (some (.t (.bool q))) = some (.t (.bool (bif x then p else q)), H) := by cases x <;> rfl
@[go_sem] theorem YI (a b : D) : abK H (some (.t (.bool true))) (some a) (some b) = some (a, H) := (rfl)
@[go_sem] theorem VQ (a b : D) : abK H (some (.t (.bool false))) (some a) (some b) = some (b, H) := (rfl)
@[go_sem] theorem abL (x p : Bool) : (bif x then p else false) = (x && p) := by cases x <;> rfl
@[go_sem] theorem ad7 (x q : Bool) : (bif x then true else q) = (x || q) := by cases x <;> rfl
def i4(f:BinOp)(x y:Option D):Option (D×af):=x.bind fun a=>y.bind fun b=>(Ae f a b).map fun d=>(d,H)
@[go_sem] theorem agw (f : BinOp) (x y : X) : evO call get H (.bin f x y) = i4 H f (get x) (get y) := (rfl)
section
variable (k j : IntKind) (a b : Int)
@[go_sem] theorem YJ : i4 H .add (some (.t (.int k a))) (some (.t (.int k b))) = some (.t (.int k (k.wrap (a + b))), H) := by simp [i4, Ae, D8]
@[go_sem] theorem YK : i4 H .sub (some (.t (.int k a))) (some (.t (.int k b))) = some (.t (.int k (k.wrap (a - b))), H) := by simp [i4, Ae, D8]
@[go_sem] theorem YL : i4 H .mul (some (.t (.int k a))) (some (.t (.int k b))) = some (.t (.int k (k.wrap (a * b))), H) := by simp [i4, Ae, D8]
@[go_sem] theorem YM : i4 H .quo (some (.t (.int k a))) (some (.t (.int k b))) = if b = 0 then none else some (.t (.int k (k.wrap (a.tdiv b))), H) := by simp only [i4, Ae, D8]; by_cases h : b = 0 <;> simp [h]
@[go_sem] theorem YN : i4 H .rem (some (.t (.int k a))) (some (.t (.int k b))) = if b = 0 then none else some (.t (.int k (a.tmod b)), H) := by simp only [i4, Ae, D8]; by_cases h : b = 0 <;> simp [h]
@[go_sem] theorem YO : i4 H .eql (some (.t (.int k a))) (some (.t (.int k b))) = some (.t (.bool (decide (a = b))), H) := by simp [i4, Ae, D8, YF]
@[go_sem] theorem YP : i4 H .neq (some (.t (.int k a))) (some (.t (.int k b))) = some (.t (.bool (decide (¬ a = b))), H) := by simp [i4, Ae, D8, bne, YF]
@[go_sem] theorem YQ : i4 H .lss (some (.t (.int k a))) (some (.t (.int k b))) = some (.t (.bool (decide (a < b))), H) := by simp [i4, Ae, D8]
@[go_sem] theorem YR : i4 H .leq (some (.t (.int k a))) (some (.t (.int k b))) = some (.t (.bool (decide (a ≤ b))), H) := by simp [i4, Ae, D8]
@[go_sem] theorem YS : i4 H .gtr (some (.t (.int k a))) (some (.t (.int k b))) = some (.t (.bool (decide (b < a))), H) := by simp [i4, Ae, D8]
@[go_sem] theorem YT : i4 H .geq (some (.t (.int k a))) (some (.t (.int k b))) = some (.t (.bool (decide (b ≤ a))), H) := by simp [i4, Ae, D8]
@[go_sem] theorem YU (h : 0 ≤ b) : i4 H .shl (some (.t (.int k a))) (some (.t (.int j b))) = some (.t (.int k (k.wrap (a * 2 ^ min b.toNat k.bits))), H) := by simp [i4, Ae, Ad, Int.not_lt.2 h]
@[go_sem] theorem YV (h : 0 ≤ b) : i4 H .shr (some (.t (.int k a))) (some (.t (.int j b))) = some (.t (.int k (a.fdiv (2 ^ min b.toNat k.bits))), H) := by simp [i4, Ae, Ad, Int.not_lt.2 h]
@[go_sem] theorem YW : i4 H .and (some (.t (.int k a))) (some (.t (.int k b))) = some (.t (.int k (k.wrap (BitVec.ofInt k.bits a &&& BitVec.ofInt k.bits b).toNat)), H) := by simp [i4, Ae, D8]
@[go_sem] theorem abM : i4 H .or (some (.t (.int k a))) (some (.t (.int k b))) = some (.t (.int k (k.wrap (BitVec.ofInt k.bits a ||| BitVec.ofInt k.bits b).toNat)), H) := by simp [i4, Ae, D8]
@[go_sem] theorem YX : i4 H .xor (some (.t (.int k a))) (some (.t (.int k b))) = some (.t (.int k (k.wrap (BitVec.ofInt k.bits a ^^^ BitVec.ofInt k.bits b).toNat)), H) := by simp [i4, Ae, D8]
def ad8(f:UnOp)(a:D):Option (D×af):=(unD f a).map fun d=>(d,H)
@[go_sem] theorem ahG (f : UnOp) (x : X) : evO call get H (.un f x) = (get x).bind (ad8 H f) := (rfl)
@[go_sem] theorem abN (x : Bool) : ad8 H .not (.t (.bool x)) = some (.t (.bool (!x)), H) := (rfl)
@[go_sem] theorem abO : ad8 H .neg (.t (.int k a)) = some (.t (.int k (k.wrap (0 - a))), H) := (rfl)
def agx(k:IntKind)(a:D):Option (D×af):=(Ra k a).map fun d=>(d,H)
@[go_sem] theorem ahH (x : X) : evO call get H (.cv k x) = (get x).bind (agx H k) := (rfl)
@[go_sem] theorem abP : agx H k (.t (.int j a)) = some (.t (.int k (k.wrap a)), H) := (rfl)
end
def qk(q:EqK)(neg:Bool)(x y:Option D):Option (D×af):=x.bind fun a=>y.bind fun b=>(Pz q neg a b).map fun d=>(d,H)
@[go_sem] theorem agy (q : EqK) (neg : Bool) (x y : X) : evO call get H (.eqk q neg x y) = qk H q neg (get x) (get y) := (rfl)
@[go_sem] theorem VR (x y : Bool) : qk H .bool false (some (.t (.bool x))) (some (.t (.bool y))) = some (.t (.bool (x == y)), H) := (rfl)
@[go_sem] theorem R6 (x y : Bool) : qk H .bool true (some (.t (.bool x))) (some (.t (.bool y))) = some (.t (.bool (!(x == y))), H) := (rfl)
def PT:List T→List T→Bool
 | .int _ a::xs,.int _ b::ys=>decide (a=b)&&PT xs ys
 | _,_=>true
def HF:Nat→List T→List T→Bool
 | 0,[],[]=>true
 | n+1,.int j _::xs,.int k _::ys=>decide (j=k)&&HF n xs ys
 | _,_,_=>false
@[go_sem] theorem YY (k j : IntKind) (a b : Int) (xs ys : List T) : PT (.int k a :: xs) (.int j b :: ys) = (decide (a = b) && PT xs ys) := (rfl)
@[go_sem] theorem abQ : PT [] [] = true := (rfl)
@[go_sem] theorem abR : HF 0 [] [] = true := (rfl)
@[go_sem] theorem YZ (n : Nat) (k : IntKind) (a b : Int) (xs ys : List T) : HF (n + 1) (.int k a :: xs) (.int k b :: ys) = HF n xs ys := by simp [HF]
theorem yQ:∀ {n:Nat} {xs ys:List T},HF n xs ys=true→xs.length=n∧lB xs ys=some (PT xs ys)
 | 0,[],[],_=>⟨rfl,rfl⟩
 | 0,[],_::_,h=>by simp[HF]at h
 | 0,_::_,_,h=>by simp[HF]at h
 | n+1,[],_,h=>by simp[HF]at h
 | n+1,x::xs,[],h=>by cases x<;>simp[HF]at h
 | n+1,x::xs,y::ys,h=>by
   cases x<;>cases y<;>simp only[HF,Bool.and_eq_true,decide_eq_true_eq,Bool.false_eq_true]at h
   obtain⟨rfl,h⟩:=h
   obtain⟨h1,h2⟩:=yQ h
   exact⟨by simp[h1],by simp[lB,h2,PT,YF]⟩
@[go_sem] theorem VS (n : Nat) (xs ys : List T) (h : HF n xs ys = true) : qk H (.ints n) false (some (.t (.agg xs))) (some (.t (.agg ys))) = some (.t (.bool (PT xs ys)), H) := by
 obtain⟨h1,h2⟩:=yQ h;simp[qk,Pz,eqD,h1,h2]
@[go_sem] theorem R7 (n : Nat) (xs ys : List T) (h : HF n xs ys = true) : qk H (.ints n) true (some (.t (.agg xs))) (some (.t (.agg ys))) = some (.t (.bool (!PT xs ys)), H) := by
 obtain⟨h1,h2⟩:=yQ h;simp[qk,Pz,eqD,h1,h2]
@[go_sem] theorem Y0 : qk H .sl false (some .nil) (some .nil) = some (.t (.bool true), H) := (rfl)
@[go_sem] theorem Y1 : qk H .sl false (some (.t (.sl []))) (some .nil) = some (.ub, H) := (rfl)
@[go_sem] theorem VT : qk H .sl true (some (.t (.sl []))) (some .nil) = some (.ub, H) := (rfl)
@[go_sem] theorem VU : qk H .sl true (some .nil) (some .nil) = some (.t (.bool false), H) := (rfl)
theorem Gj(es:List T)(h:es≠[]):qk H .sl false (some (.t (.sl es))) (some .nil)=some (.t (.bool false),H):=by cases es<;>first | exact(h rfl).elim | rfl
def abS(a:D):Option (D×af):=(abj a).map fun d=>(d,H)
@[go_sem] theorem ahI (x : X) : evO call get H (.nc x) = (get x).bind (abS H) := (rfl)
@[go_sem] theorem ad9 (id off : Nat) : abS H (.bp id off) = some (.bp id off, H) := (rfl)
@[go_sem] theorem aea (id ep n i off : Nat) : abS H (.ap id ep n i off) = some (.ap id ep n i off, H) := (rfl)
@[go_sem] theorem aeb (cs : List T) : abS H (.ep cs) = some (.ep cs, H) := (rfl)
def VV(off:Nat)(a:D):Option (D×af):=(Hn a off).map fun d=>(d,H)
@[go_sem] theorem ahJ (x : X) (off : Nat) : evO call get H (.fa x off) = (get x).bind (VV H off) := (rfl)
@[go_sem] theorem aec (id o off : Nat) : VV H off (.bp id o) = some (.bp id (o + off), H) := (rfl)
@[go_sem] theorem aed (id ep n i o off : Nat) : VV H off (.ap id ep n i o) = some (.ap id ep n i (o + off), H) := (rfl)
@[go_sem] theorem aee (cs : List T) (off : Nat) : VV H off (.ep cs) = some (.ep (cs.drop off), H) := (rfl)
@[go_sem] theorem ahK (cs : List D) : cut cs 0 0 = some [] := by simp [cut]
@[go_sem] theorem ahL (c : D) (cs : List D) : cut (c :: cs) 0 1 = some [c] := by simp [cut]
@[go_sem] theorem ahM (c : D) (cs : List D) (n : Nat) : cut (c :: cs) 0 (n + 1) = kv c (cut cs 0 n) := by
 simp only[cut,kv];by_cases h:n≤cs.length<;>simp[h]
@[go_sem] theorem ahN (c : D) (cs : List D) (off n : Nat) : cut (c :: cs) (off + 1) n = cut cs off n := by
 simp only[cut,List.length_cons,List.drop_succ_cons]
 by_cases h:off+n≤cs.length
 · rw[if_pos h,if_pos (by omega)]
 · rw[if_neg h,if_neg (by omega)]
@[go_sem] theorem Y2 (c : D) : eM false [c] = some c := (rfl)
@[go_sem] theorem Y3 (cs : List D) : eM true cs = some (rH cs) := (rfl)
def mkA(cs:List D):Option (List T)→D
 | some ts=> .t (.agg ts)
 | none=> .agg cs
@[go_sem] theorem abT (cs : List D) (ts : List T) : mkA cs (some ts) = .t (.agg ts) := (rfl)
@[go_sem] theorem abU (cs : List D) : mkA cs none = .agg cs := (rfl)
@[go_sem] theorem abV (cs : List D) : rH cs = mkA cs (oO cs) := by unfold rH; cases oO cs <;> rfl
@[go_sem] theorem abW : oO [] = some [] := (rfl)
@[go_sem] theorem agz (x : T) (r : List D) : oO (.t x :: r) = kv x (oO r) := (rfl)
@[go_sem] theorem agA (r : List D) : oO (.nil :: r) = none := (rfl)
@[go_sem] theorem abX (a b c : Nat) (r : List D) : oO (.ref a b c :: r) = none := (rfl)
@[go_sem] theorem abY (a b c d e : Nat) (r : List D) : oO (.sub a b c d e :: r) = none := (rfl)
@[go_sem] theorem Nw (l : List T) : oO (l.map .t) = some l := by induction l with | nil => rfl | cons a l ih => simp [oO, ih]
def Y4(off n:Nat)(agg:Bool)(a:D):Option (D×af):=(tX a off n agg).map fun d=>(d,H)
@[go_sem] theorem ahO (x : X) (off n : Nat) (agg : Bool) : evO call get H (.fl x off n agg) = (get x).bind (Y4 H off n agg) := (rfl)
def ofC(agg:Bool)(cs:Option (List D)):Option (D×af):=(cs.bind (eM agg)).bind (ad5 H)
@[go_sem] theorem ahP (c : D) : ofC H false (some [c]) = some (c, H) := (rfl)
@[go_sem] theorem ahQ (cs : List D) : ofC H true (some cs) = some (rH cs, H) := (rfl)
@[go_sem] theorem agB (cs : List T) (off n : Nat) (agg : Bool) : Y4 H off n agg (.t (.agg cs)) = ofC H agg (cut (cs.map .t) off n) := by
 simp only[Y4,tX,D.isAgg,if_true,D.cells,T.cells,ofC];cases (cut (cs.map .t) off n).bind (eM agg)<;>rfl
@[go_sem] theorem abZ (cs : List D) (off n : Nat) (agg : Bool) : Y4 H off n agg (.agg cs) = ofC H agg (cut cs off n) := by
 simp only[Y4,tX,D.isAgg,if_true,D.cells,ofC];cases (cut cs off n).bind (eM agg)<;>rfl
@[go_sem] theorem aef (n : Nat) : idx (n : Int) = some n := by simp [idx]
@[go_sem] theorem ahR : idx 0 = some 0 := (rfl)
theorem R8{i:Int}(h:0≤i):idx i=some i.toNat:=by simp[idx,h]
def R9(sz:Nat)(x i:Option D):Option (D×af):=x.bind fun a=>(i.bind intOf).bind fun n=>(A2 H a n sz).map fun d=>(d,H)
@[go_sem] theorem ahS (x i : X) (sz : Nat) : evO call get H (.ia x i sz) = R9 H sz (get x) (get i) := (rfl)
def Nx(sz:Nat)(e:T):Option (D×af):=if e.cells.length=sz then some (.ep e.cells,H)else none
def aeg(sz:Nat)(es:List T)(j:Nat):Option (D×af):=es[j]?.bind (Nx H sz)
@[go_sem] theorem aeh (sz : Nat) (es : List T) (j : Nat) : aeg H sz es j = es[j]?.bind (Nx H sz) := (rfl)
@[go_sem] theorem aei (k : IntKind) (es : List T) (n : Int) (sz : Nat) : R9 H sz (some (.t (.sl es))) (some (.t (.int k n))) = (idx n).bind (aeg H sz es) := by
 simp only[R9,Option.bind_some,intOf,A2]
 cases idx n with
 | none=>rfl
 | some j=>
   simp only[Option.bind_some,aeg]
   cases es[j]? with
   | none=>rfl
   | some e=>simp only[Option.bind_some,Nx];split<;>rfl
@[go_sem] theorem ab0 (k : IntKind) (n : Int) : Nx H 1 (.int k n) = some (.ep [.int k n], H) := (rfl)
@[go_sem] theorem Y5 (b : Bool) : Nx H 1 (.bool b) = some (.ep [.bool b], H) := (rfl)
@[go_sem] theorem aej (es : List T) : Nx H 1 (.sl es) = some (.ep [.sl es], H) := (rfl)
def nE{α:Type}:Nat→List α→Bool
 | 0,[]=>true
 | n+1,_::r=>nE n r
 | _,_=>false
@[go_sem] theorem aek {α : Type} : nE 0 ([] : List α) = true := (rfl)
@[go_sem] theorem ael {α : Type} (n : Nat) (a : α) (l : List α) : nE (n + 1) (a :: l) = nE n l := (rfl)
theorem fA{α:Type}:∀ {n:Nat} {l:List α},nE n l=true↔l.length=n
 | 0,[]=>by simp[nE]
 | 0,_::_=>by simp[nE]
 | n+1,[]=>by simp[nE]
 | n+1,_::r=>by simp only[nE,List.length_cons,Nat.add_right_cancel_iff];exact fA
@[go_sem] theorem ab1 (cs : List T) (sz : Nat) : Nx H sz (.agg cs) = if nE sz cs = true then some (.ep cs, H) else none := by
 by_cases h:cs.length=sz
 · rw[Nx,if_pos (show(T.agg cs).cells.length=sz from h),if_pos (fA.2 h)];rfl
 · rw[Nx,if_neg (show ¬(T.agg cs).cells.length=sz from h),if_neg fun e=>h (fA.1 e)]
def Sa(sz id ep n j:Nat):Option Obj→Option (D×af)
 | some (.arr sz' _ ep' es)=>if ep=ep'∧n=es.length then(if j<n∧sz'=sz then some (.ap id ep n j 0,H)else none)else none
 | _=>none
@[go_sem] theorem ab2 (k : IntKind) (id ep n : Nat) (i : Int) (sz : Nat) : R9 H sz (some (.ref id ep n)) (some (.t (.int k i))) = (idx i).bind fun j => Sa H sz id ep n j H[id]? := by
 simp only[R9,Option.bind_some,intOf,A2]
 cases idx i with
 | none=>rfl
 | some j=>
   simp only[Option.bind_some,fM]
   generalize H[id]?=o
   rcases o with _ | (_ | ⟨sz',pin,ep',es⟩)
   · rfl
   · rfl
   · simp only[Sa]
     by_cases h:ep=ep'∧n=es.length
     · rw[if_pos h,if_pos h,Option.bind_some];split<;>rfl
     · rw[if_neg h,if_neg h];rfl
@[go_sem] theorem Y6 (sz id ep n j sz' : Nat) (pin : Bool) (ep' : Nat) (es : List D) : Sa H sz id ep n j (some (.arr sz' pin ep' es)) =
 if ep=ep'∧n=es.length then(if j<n∧sz'=sz then some (.ap id ep n j 0,H)else none)else none:=(rfl)
def Sb(sz id ep n lo hi j:Nat):Option Obj→Option (D×af)
 | some (.arr sz' _ ep' es)=>if ep=ep'∧n=es.length then(if lo+j<hi∧hi≤n∧sz'=sz then some (.ap id ep n (lo+j) 0,H)else none)else none
 | _=>none
@[go_sem] theorem ab3 (k : IntKind) (id ep n lo hi : Nat) (i : Int) (sz : Nat) : R9 H sz (some (.sub id ep n lo hi)) (some (.t (.int k i))) = (idx i).bind fun j => Sb H sz id ep n lo hi j H[id]? := by
 simp only[R9,Option.bind_some,intOf,A2]
 cases idx i with
 | none=>rfl
 | some j=>
   simp only[Option.bind_some,fM]
   generalize H[id]?=o
   rcases o with _ | (_ | ⟨sz',pin,ep',es⟩)
   · rfl
   · rfl
   · simp only[Sb]
     by_cases h:ep=ep'∧n=es.length
     · rw[if_pos h,if_pos h,Option.bind_some];split<;>rfl
     · rw[if_neg h,if_neg h];rfl
@[go_sem] theorem Y7 (sz id ep n lo hi j sz' : Nat) (pin : Bool) (ep' : Nat) (es : List D) : Sb H sz id ep n lo hi j (some (.arr sz' pin ep' es)) =
 if ep=ep'∧n=es.length then(if lo+j<hi∧hi≤n∧sz'=sz then some (.ap id ep n (lo+j) 0,H)else none)else none:=(rfl)
def aem(len sz:Nat)(agg:Bool)(x i:Option D):Option (D×af):=x.bind fun a=>(i.bind intOf).bind fun n=>(idx n).bind fun j=>(Af a j len sz agg).map fun d=>(d,H)
def Y8(len sz:Nat)(agg:Bool)(a:D)(j:Nat):Option (D×af):=(Af a j len sz agg).map fun d=>(d,H)
@[go_sem] theorem ahT (x i : X) (len sz : Nat) (agg : Bool) : evO call get H (.ix x i len sz agg) = aem H len sz agg (get x) (get i) := (rfl)
@[go_sem] theorem aen (len sz : Nat) (agg : Bool) (a : D) (k : IntKind) (n : Int) : aem H len sz agg (some a) (some (.t (.int k n))) = (idx n).bind (Y8 H len sz agg a) := by
 simp only[aem,Option.bind_some,intOf];cases idx n<;>rfl
@[go_sem] theorem ab4 (len j : Nat) (ts : List T) (h : j < len) (hs : (ts.all fun t => t.scalar) = true) : Y8 H len 1 false (.t (.agg ts)) j = (ts[j]?).map fun t => (.t t, H) := by
 have h0:len≠0:=by omega
 unfold Y8 Af
 rw[if_neg h0,if_pos h]
 unfold tX cut
 simp only[D.isAgg,D.cells,T.cells,if_true,Nat.mul_one,List.length_map]
 by_cases hj:j<ts.length
 · rw[if_pos (by omega),List.getElem?_eq_getElem hj]
   have e:((ts.map D.t).drop j).take 1=[D.t ts[j]]:=by
    rw[List.drop_eq_getElem_cons (by simpa using hj)];simp
   rw[e];rfl
 · rw[if_neg (by omega),List.getElem?_eq_none (by omega)];rfl
def Sc(len sz:Nat)(x i:Option D):Option (D×af):=x.bind fun a=>(i.bind intOf).bind fun n=>(idx n).bind fun j=>if j<len then(Hn a (j*sz)).map fun d=>(d,H)else none
@[go_sem] theorem agC (x i : X) (len sz : Nat) : evO call get H (.iaa x i len sz) = Sc H len sz (get x) (get i) := (rfl)
def agD(len sz:Nat)(a:D)(j:Nat):Option (D×af):=if j<len then VV H (j*sz) a else none
@[go_sem] theorem aeo (len sz : Nat) (a : D) (j : Nat) : agD H len sz a j = if j < len then VV H (j * sz) a else none := (rfl)
@[go_sem] theorem ab5 (len sz : Nat) (a : D) (k : IntKind) (n : Int) : Sc H len sz (some a) (some (.t (.int k n))) = (idx n).bind (agD H len sz a) := by
 simp only[Sc,Option.bind_some,intOf];cases idx n<;>rfl
def Mz(n:Nat)(agg:Bool)(a:D):Option (D×af):=(vE H a n agg).map fun d=>(d,H)
@[go_sem] theorem ahU (x : X) (n : Nat) (agg : Bool) : evO call get H (.ld x n agg) = (get x).bind (Mz H n agg) := (rfl)
def Ny(off n:Nat)(agg:Bool):Option Obj→Option (D×af)
 | some (.box cs)=>ofC H agg (cut cs off n)
 | _=>none
@[go_sem] theorem ab6 (off n : Nat) (agg : Bool) (cs : List D) : Ny H off n agg (some (.box cs)) = ofC H agg (cut cs off n) := (rfl)
@[go_sem] theorem aep (id off n : Nat) (agg : Bool) : Mz H n agg (.bp id off) = Ny H off n agg H[id]? := by
 simp only[Mz,vE]
 generalize H[id]?=o
 rcases o with _ | (cs | _)
 · rfl
 · simp only[Ny,ofC];cases (cut cs off n).bind (eM agg)<;>rfl
 · rfl
@[go_sem] theorem aeq (cs : List T) (n : Nat) (agg : Bool) : Mz H n agg (.ep cs) = ofC H agg (cut (cs.map .t) 0 n) := by
 simp only[Mz,vE,ofC];cases (cut _ 0 n).bind (eM agg)<;>rfl
def ab7(off n:Nat)(agg:Bool)(e:D):Option (D×af):=ofC H agg (cut e.cells off n)
@[go_sem] theorem aer (off n : Nat) (agg : Bool) (e : D) : ab7 H off n agg e = ofC H agg (cut e.cells off n) := (rfl)
def Sd(ep m i off n:Nat)(agg:Bool):Option Obj→Option (D×af)
 | some (.arr _ _ ep' es)=>if ep=ep'∧m=es.length then es[i]?.bind (ab7 H off n agg)else none
 | _=>none
@[go_sem] theorem ab8 (ep m i off n : Nat) (agg : Bool) (sz : Nat) (pin : Bool) (ep' : Nat) (es : List D) :
 Sd H ep m i off n agg (some (.arr sz pin ep' es))=if ep=ep'∧m=es.length then es[i]?.bind (ab7 H off n agg)else none:=(rfl)
@[go_sem] theorem aes (id ep m i off n : Nat) (agg : Bool) : Mz H n agg (.ap id ep m i off) = Sd H ep m i off n agg H[id]? := by
 simp only[Mz,vE,fM]
 generalize H[id]?=o
 rcases o with _ | (_ | ⟨sz',pin,ep',es⟩)
 · rfl
 · rfl
 · simp only[Sd]
   by_cases h:ep=ep'∧m=es.length
   · rw[if_pos h,if_pos h,Option.bind_some]
     cases es[i]? with
     | none=>rfl
     | some e=>simp only[Option.bind_some,ab7,ofC];cases (cut e.cells off n).bind (eM agg)<;>rfl
   · rw[if_neg h,if_neg h];rfl
@[go_sem] theorem VW (cs : List D) : (D.agg cs).cells = cs := (rfl)
@[go_sem] theorem ab9 (x : T) : (D.t x).cells = x.cells.map .t := (rfl)
@[go_sem] theorem VX : D.nil.cells = [.nil] := (rfl)
@[go_sem] theorem Y9 (a b : Nat) : (D.bp a b).cells = [.bp a b] := (rfl)
@[go_sem] theorem VY (a b c : Nat) : (D.ref a b c).cells = [.ref a b c] := (rfl)
@[go_sem] theorem VZ (a b c d e : Nat) : (D.sub a b c d e).cells = [.sub a b c d e] := (rfl)
@[go_sem] theorem Za (f : Nat) (cs : List D) : (D.fn f cs).cells = [.fn f cs] := (rfl)
@[go_sem] theorem Se : D.nilp.cells = [.nilp] := (rfl)
@[go_sem] theorem V0 (cs : List T) : (T.agg cs).cells = cs := (rfl)
@[go_sem] theorem V1 (k : IntKind) (n : Int) : (T.int k n).cells = [.int k n] := (rfl)
@[go_sem] theorem Sf (b : Bool) : (T.bool b).cells = [.bool b] := (rfl)
@[go_sem] theorem V2 (b : ByteArray) : (T.str b).cells = [.str b] := (rfl)
@[go_sem] theorem Zb (es : List T) : (T.sl es).cells = [.sl es] := (rfl)
def fits(n:Nat)(v:D):Bool:=decide (v.cells.length=n)&&v.iF
section
variable (n : Nat)
@[go_sem] theorem fits_int (k : IntKind) (a : Int) : fits 1 (.t (.int k a)) = true := (rfl)
@[go_sem] theorem fits_bool (b : Bool) : fits 1 (.t (.bool b)) = true := (rfl)
@[go_sem] theorem aet (es : List T) : fits 1 (.t (.sl es)) = true := (rfl)
@[go_sem] theorem aca : fits 1 .nil = true := (rfl)
@[go_sem] theorem acb (a b c : Nat) : fits 1 (.ref a b c) = true := (rfl)
@[go_sem] theorem acd (a b c d e : Nat) : fits 1 (.sub a b c d e) = true := (rfl)
@[go_sem] theorem aeu (a b : Nat) : fits 1 (.bp a b) = true := (rfl)
@[go_sem] theorem aev (f : Nat) (cs : List D) : fits 1 (.fn f cs) = true := (rfl)
@[go_sem] theorem ace (cs : List D) : fits n (.agg cs) = nE n cs := by rw [Bool.eq_iff_iff, fA]; show (decide (cs.length = n) && true) = true ↔ _; simp
@[go_sem] theorem Zc (cs : List T) : fits n (.t (.agg cs)) = nE n cs := by rw [Bool.eq_iff_iff, fA]; simp [fits, D.cells, T.cells, D.iF]
end
@[go_sem] theorem Sg {α : Type} (cs : List α) : aY cs 0 [] = some cs := by simp [aY]
@[go_sem] theorem Si {α : Type} (c x : α) (cs xs : List α) : aY (c :: cs) 0 (x :: xs) = kv x (aY cs 0 xs) := by
 simp only[aY,kv];by_cases h:xs.length≤cs.length<;>simp[h]
@[go_sem] theorem Sj {α : Type} (c : α) (cs : List α) (off : Nat) (xs : List α) : aY (c :: cs) (off + 1) xs = kv c (aY cs off xs) := by
 simp only[aY,kv,List.length_cons]
 by_cases h:off+xs.length≤cs.length
 · rw[if_pos h,if_pos (by omega)];simp[show off+1+xs.length=(off+xs.length)+1 by omega]
 · rw[if_neg h,if_neg (by omega)];rfl
def Sk(n:Nat)(live:List (Nat×Nat))(a x:Option D):Option (D×af):=a.bind fun p=>x.bind fun d=>(wS H p d n).bind fun H'=>(oQ H' p live).map fun H''=>(.tup [],H'')
@[go_sem] theorem ahV (a x : X) (n : Nat) (live : List (Nat × Nat)) : evO call get H (.st a x n live) = Sk H n live (get a) (get x) := (rfl)
def Ax(H:af)(id:Nat)(live:List (Nat×Nat)):Option (D×af):=(oQ H (.bp id 0) live).map fun H'=>(.tup [],H')
def Gk(id:Nat)(live:List (Nat×Nat))(cs:List D):Option (D×af):=Ax (H.set id (.box cs)) id live
@[go_sem] theorem Zd (id : Nat) (live : List (Nat × Nat)) (cs : List D) : Gk H id live cs = Ax (H.set id (.box cs)) id live := (rfl)
@[go_sem] theorem V3 (H : af) (id : Nat) : Ax H id [] = some (.tup [], H) := (rfl)
def Sl(id off:Nat)(live:List (Nat×Nat))(xs:List D):Option Obj→Option (D×af)
 | some (.box cs)=>(aY cs off xs).bind (Gk H id live)
 | _=>none
@[go_sem] theorem acf (id off : Nat) (live : List (Nat × Nat)) (xs cs : List D) : Sl H id off live xs (some (.box cs)) = (aY cs off xs).bind (Gk H id live) := (rfl)
@[go_sem] theorem aew (n id off : Nat) (live : List (Nat × Nat)) (v : D) : Sk H n live (some (.bp id off)) (some v) = if fits n v = true then Sl H id off live v.cells H[id]? else none := by
 by_cases h:fits n v=true
 case neg=>
  rw[if_neg h]
  simp only[fits,Bool.and_eq_true,decide_eq_true_eq]at h
  simp only[Sk,Option.bind_some,wS,if_neg h];rfl
 rw[if_pos h]
 simp only[fits,Bool.and_eq_true,decide_eq_true_eq]at h
 simp only[Sk,Option.bind_some,wS,h.1,h.2,and_self,if_true]
 generalize H[id]?=o
 rcases o with _ | (cs | _)
 · rfl
 · simp only[Sl]
   cases aY cs off v.cells with
   | none=>rfl
   | some cs'=>simp only[Option.map_some,Option.bind_some,Gk,Ax,oQ]
 · rfl
def CU(id sz ep i:Nat)(es:List D)(agg:Bool)(cs:List D):Option (D×af):=(eM agg cs).bind fun e=>if e.iF then some (.tup [],H.set id (.arr sz false ep (es.set i e)))else none
def acg(id sz ep i off:Nat)(es xs:List D)(e:D):Option (D×af):=(aY e.cells off xs).bind (CU H id sz ep i es e.isAgg)
@[go_sem] theorem aex (id sz ep i off : Nat) (es xs : List D) (e : D) : acg H id sz ep i off es xs e = (aY e.cells off xs).bind (CU H id sz ep i es e.isAgg) := (rfl)
@[go_sem] theorem Ze (cs : List D) : (D.agg cs).isAgg = true := (rfl)
@[go_sem] theorem V4 (cs : List T) : (D.t (.agg cs)).isAgg = true := (rfl)
@[go_sem] theorem Zf (k : IntKind) (n : Int) : (D.t (.int k n)).isAgg = false := (rfl)
@[go_sem] theorem V5 (b : Bool) : (D.t (.bool b)).isAgg = false := (rfl)
@[go_sem] theorem Zg (b : ByteArray) : (D.t (.str b)).isAgg = false := (rfl)
@[go_sem] theorem ach (es : List T) : (D.t (.sl es)).isAgg = false := (rfl)
@[go_sem] theorem Zh : D.nil.isAgg = false := (rfl)
@[go_sem] theorem Zi (a b c : Nat) : (D.ref a b c).isAgg = false := (rfl)
@[go_sem] theorem Zj (a b c d e : Nat) : (D.sub a b c d e).isAgg = false := (rfl)
@[go_sem] theorem aey (id sz ep i : Nat) (es : List D) (x : T) : CU H id sz ep i es false [.t x] = some (.tup [], H.set id (.arr sz false ep (es.set i (.t x)))) := (rfl)
@[go_sem] theorem Zk (id sz ep i : Nat) (es : List D) : CU H id sz ep i es false [.nil] = some (.tup [], H.set id (.arr sz false ep (es.set i .nil))) := (rfl)
@[go_sem] theorem Zl (id sz ep i a b c : Nat) (es : List D) : CU H id sz ep i es false [.ref a b c] = some (.tup [], H.set id (.arr sz false ep (es.set i (.ref a b c)))) := (rfl)
theorem EL(cs:List D):(rH cs).iF=true:=by unfold rH;cases oO cs<;>rfl
@[go_sem] theorem aez (id sz ep i : Nat) (es cs : List D) : CU H id sz ep i es true cs = some (.tup [], H.set id (.arr sz false ep (es.set i (rH cs)))) := by
 simp[CU,eM,EL]
def Sm(id ep m i off:Nat)(xs:List D):Option Obj→Option (D×af)
 | some (.arr sz pin ep' es)=>if ep=ep'∧m=es.length then(if pin then none else es[i]?.bind (acg H id sz ep i off es xs))else none
 | _=>none
@[go_sem] theorem aci (id ep m i off : Nat) (xs : List D) (sz : Nat) (pin : Bool) (ep' : Nat) (es : List D) :
 Sm H id ep m i off xs (some (.arr sz pin ep' es))=if ep=ep'∧m=es.length then(if pin=true then none else es[i]?.bind (acg H id sz ep i off es xs))else none:=(rfl)
@[go_sem] theorem aeA (n id ep m i off : Nat) (v : D) : Sk H n [] (some (.ap id ep m i off)) (some v) = if fits n v = true then Sm H id ep m i off v.cells H[id]? else none := by
 by_cases h:fits n v=true
 case neg=>
  rw[if_neg h]
  simp only[fits,Bool.and_eq_true,decide_eq_true_eq]at h
  simp only[Sk,Option.bind_some,wS,if_neg h];rfl
 rw[if_pos h]
 simp only[fits,Bool.and_eq_true,decide_eq_true_eq]at h
 simp only[Sk,Option.bind_some,wS,h.1,h.2,and_self,if_true,fM]
 generalize H[id]?=o
 rcases o with _ | (_ | ⟨sz',pin,ep',es⟩)
 · rfl
 · rfl
 · simp only[Sm]
   by_cases h:ep=ep'∧m=es.length
   · rw[if_pos h,if_pos h,Option.bind_some]
     cases pin with
     | true=>rfl
     | false=>
       simp only[Bool.false_eq_true,if_false]
       cases es[i]? with
       | none=>rfl
       | some e=>
         simp only[Option.bind_some,acg]
         cases aY e.cells off v.cells with
         | none=>rfl
         | some cs'=>
           simp only[Option.bind_some,CU]
           cases eM e.isAgg cs' with
           | none=>rfl
           | some e'=>
             simp only[Option.bind_some]
             by_cases h3:e'.iF=true
             · rw[if_pos h3,if_pos h3,h.1];rfl
             · rw[if_neg h3,if_neg h3];rfl
   · rw[if_neg h,if_neg h];rfl
def Sn(zero:List D)(ps:List (Nat×Nat×D)):Option (D×af):=(tV zero ps).map fun cs=>(rH cs,H)
@[go_sem] theorem ahW (zero : List D) (parts : List (Nat × Nat × X)) : evO call get H (.bd zero parts) = (lM get parts).bind (Sn H zero) := (rfl)
@[go_sem] theorem PU : lM get [] = some [] := (rfl)
def Zm(off n:Nat)(r:List (Nat×Nat×X))(d:D):Option (List (Nat×Nat×D)):=kv (off,n,d) (lM get r)
@[go_sem] theorem acj (off n : Nat) (r : List (Nat × Nat × X)) (d : D) : Zm get off n r d = kv (off, n, d) (lM get r) := (rfl)
@[go_sem] theorem Nz (off n : Nat) (x : X) (r : List (Nat × Nat × X)) : lM get ((off, n, x) :: r) = (get x).bind (Zm get off n r) := (rfl)
@[go_sem] theorem ack (zero : List D) : Sn H zero [] = some (rH zero, H) := (rfl)
def bdC(r:List (Nat×Nat×D))(z:List D):Option (D×af):=Sn H z r
@[go_sem] theorem agE (r : List (Nat × Nat × D)) (z : List D) : bdC H r z = Sn H z r := (rfl)
@[go_sem] theorem Zn (zero : List D) (off n : Nat) (x : D) (r : List (Nat × Nat × D)) : Sn H zero ((off, n, x) :: r) = if fits n x = true then (aY zero off x.cells).bind (bdC H r) else none := by
 by_cases h:fits n x=true
 case neg=>
  rw[if_neg h]
  have h2:(x.iF&&x.cells.length==n)=false:=by rw[← Bool.not_eq_true,Bool.and_comm];simpa [fits]using h
  simp only[Sn,tV,h2];rfl
 rw[if_pos h]
 simp only[fits,Bool.and_eq_true,decide_eq_true_eq]at h
 simp only[Sn,tV,h.1,h.2,beq_self_eq_true,Bool.and_self,if_true]
 cases aY zero off x.cells<;>rfl
def cB(n:Nat):List T→Bool
 | []=>true
 | x::r=>nE n x.cells&&cB n r
@[go_sem] theorem PV (n : Nat) : cB n [] = true := (rfl)
@[go_sem] theorem ux (n : Nat) (x : T) (r : List T) : cB n (x :: r) = (nE n x.cells && cB n r) := (rfl)
def Ay(sz:Nat)(ds:List D):Option (D×af):=if ds.all (fun d=>d.cells.length==sz)then(bW (frz H depth) ds).map fun ts=>(.t (.sl ts),pins H (ds.flatMap (eZ H depth)))else none
@[go_sem] theorem ahX (xs : List X) (sz : Nat) : evO call get H (.bs xs sz) = (bW get xs).bind (Ay H sz) := (rfl)
theorem Zo(sz:Nat)(ds:List D)(ts:List T)(h:oO ds=some ts)(hc:cB sz ts=true):Ay H sz ds=some (.t (.sl ts),H):=by
 have key:∀(ds:List D) (ts:List T),oO ds=some ts→cB sz ts=true→ds.all (fun d=>d.cells.length==sz)=true∧bW (frz H depth) ds=some ts∧ds.flatMap (eZ H depth)=[]:=by
  intro ds
  induction ds with
  | nil=>intro ts h hc;simp[oO]at h;subst h;simp[bW]
  | cons d ds ih=>
    intro ts h hc
    cases d with
    | t x=>
      simp only[oO,Option.map_eq_some_iff]at h
      obtain⟨r,hr,rfl⟩:=h
      simp only[cB,Bool.and_eq_true,fA]at hc
      obtain⟨h1,h2,h3⟩:=ih r hr hc.2
      refine⟨by rw[List.all_cons,h1,Bool.and_true];simp[D.cells,hc.1],by simp[bW,frz,h2],by rw[List.flatMap_cons,h3];simp[eZ]⟩
    | _=>simp[oO]at h
 obtain⟨h1,h2,h3⟩:=key ds ts h hc
 simp[Ay,h1,h2,h3,pins]
theorem ql(sz:Nat)(ts:List T):Ay H sz (ts.map D.t)=if cB sz ts=true then some (.t (.sl ts),H)else none:=by
 by_cases h:cB sz ts=true
 · rw[if_pos h];exact Zo H sz _ ts (Nw ts) h
 · rw[if_neg h]
   have:(ts.map D.t).all (fun d=>d.cells.length==sz)=false:=by
    rw[← Bool.not_eq_true];intro ha;apply h
    clear h
    induction ts with
    | nil=>rfl
    | cons a r ih=>
      simp only[List.map_cons,List.all_cons,Bool.and_eq_true,beq_iff_eq]at ha
      simp only[cB,Bool.and_eq_true,fA]
      exact⟨by simpa [D.cells]using ha.1,ih ha.2⟩
   simp only[Ay,this];rfl
@[go_sem] theorem agF (sz : Nat) : Ay H sz [] = some (.t (.sl []), H) := (rfl)
@[go_sem] theorem agG (sz : Nat) (a : T) : Ay H sz [.t a] = if cB sz [a] = true then some (.t (.sl [a]), H) else none := ql H sz [a]
@[go_sem] theorem agH (sz : Nat) (a b : T) : Ay H sz [.t a, .t b] = if cB sz [a, b] = true then some (.t (.sl [a, b]), H) else none := ql H sz [a, b]
@[go_sem] theorem agI (sz : Nat) (a b c : T) : Ay H sz [.t a, .t b, .t c] = if cB sz [a, b, c] = true then some (.t (.sl [a, b, c]), H) else none := ql H sz [a, b, c]
@[go_sem] theorem agJ (sz : Nat) (a b c d : T) : Ay H sz [.t a, .t b, .t c, .t d] = if cB sz [a, b, c, d] = true then some (.t (.sl [a, b, c, d]), H) else none := ql H sz [a, b, c, d]
@[go_sem] theorem agK (sz : Nat) (a b c d e : T) : Ay H sz [.t a, .t b, .t c, .t d, .t e] = if cB sz [a, b, c, d, e] = true then some (.t (.sl [a, b, c, d, e]), H) else none := ql H sz [a, b, c, d, e]
def Zp(a:D):Option (D×af):=(abi a).map fun(n:Nat)=>(D.t (.int .i64 (n:Int)),H)
@[go_sem] theorem ahY (x : X) : evO call get H (.ln x) = (get x).bind (Zp H) := (rfl)
@[go_sem] theorem aeB (es : List T) : Zp H (.t (.sl es)) = some (I es.length, H) := (rfl)
@[go_sem] theorem acm : Zp H .nil = some (I 0, H) := (rfl)
@[go_sem] theorem acn (id ep n : Nat) : Zp H (.ref id ep n) = some (I n, H) := (rfl)
@[go_sem] theorem aco (id ep n lo hi : Nat) : Zp H (.sub id ep n lo hi) = some (I ((hi - lo : Nat) : Int), H) := (rfl)
def Zq(ds:List D):Option (D×af):=(X0 ds).map fun d=>(d,H)
def Zr(ds:List D):Option (D×af):=(X1 ds).map fun d=>(d,H)
@[go_sem] theorem ahZ (xs : List X) : evO call get H (.mn xs) = (bW get xs).bind (Zq H) := (rfl)
@[go_sem] theorem ah0 (xs : List X) : evO call get H (.mx xs) = (bW get xs).bind (Zr H) := (rfl)
@[go_sem] theorem agL (k : IntKind) (a b : Int) : Zq H [.t (.int k a), .t (.int k b)] = some (.t (.int k (min a b)), H) := by
 simp only[Zq,X0,zE,if_true,Option.map_some];congr 4;omega
@[go_sem] theorem agM (k : IntKind) (a b : Int) : Zr H [.t (.int k a), .t (.int k b)] = some (.t (.int k (max a b)), H) := by
 simp only[Zr,X1,zE,if_true,Option.map_some];congr 4;omega
@[go_sem] theorem agN (k : IntKind) (a b c : Int) : Zq H [.t (.int k a), .t (.int k b), .t (.int k c)] = some (.t (.int k (min (min a b) c)), H) := by
 simp only[Zq,X0,zE,if_true,Option.map_some];congr 4;omega
@[go_sem] theorem agO (k : IntKind) (a b c : Int) : Zr H [.t (.int k a), .t (.int k b), .t (.int k c)] = some (.t (.int k (max (max a b) c)), H) := by
 simp only[Zr,X1,zE,if_true,Option.map_some];congr 4;omega
def CV(sz:Nat)(x:Option D)(lo hi:Option (Option Int)):Option (D×af):=x.bind fun a=>lo.bind fun l=>hi.bind fun h=>(m7 H a l h sz).map fun d=>(d,H)
@[go_sem] theorem ah1 (x : X) (lo hi : Option X) (sz : Nat) : evO call get H (.sc x lo hi sz) = CV H sz (get x) (Ho get lo) (Ho get hi) := (rfl)
def Zs:D→Option (Option Int)
 | .t (.int _ n)=>some (some n)
 | _=>none
@[go_sem] theorem acp (k : IntKind) (n : Int) : Zs (.t (.int k n)) = some (some n) := (rfl)
@[go_sem] theorem Zt : Ho get none = some none := (rfl)
@[go_sem] theorem Zu (x : X) : Ho get (some x) = (get x).bind Zs := by
 simp only[Ho];cases get x with
 | none=>rfl
 | some d=>cases d with
   | t y=>cases y<;>rfl
   | _=>rfl
def aeC(i:Nat)(a:D):Option (D×af):=(X2 i a).map fun d=>(d,H)
@[go_sem] theorem ah2 (x : X) (i : Nat) : evO call get H (.ex x i) = (get x).bind (aeC H i) := (rfl)
def exO:Option D→Option (D×af)
 | some d=>some (d,H)
 | none=>none
@[go_sem] theorem acq (d : D) : exO H (some d) = some (d, H) := (rfl)
@[go_sem] theorem acr (i : Nat) (ds : List D) : aeC H i (.tup ds) = exO H ds[i]? := by simp only [aeC, X2, exO]; cases ds[i]? <;> rfl
def aeD(f:Nat)(ds:List D):Option (D×af):=some (.fn f ds,H)
@[go_sem] theorem aeE (f : Nat) (ds : List D) : aeD H f ds = some (.fn f ds, H) := (rfl)
@[go_sem] theorem ah3 (f : Nat) (caps : List X) : evO call get H (.mf f caps) = (bW get caps).bind (aeD H f) := by simp only [evO, aeD]; cases bW get caps <;> rfl
@[go_sem] theorem ah4 (sz : Nat) : evO call get H (.nw sz) = some (.ref H.length 0 0, H ++ [.arr sz false 0 []]) := (rfl)
def alP(p:List D×af):Option (D×af):=some (.bp H.length 0,H++ .box p.1::p.2)
@[go_sem] theorem agP (cs : List D) (os : af) : alP H (cs, os) = some (.bp H.length 0, H ++ .box cs :: os) := (rfl)
@[go_sem] theorem ah5 (zero : List D) (live : List (Nat × Nat)) : evO call get H (.al zero live) = alP H (bS (H.length + 1) zero live) := (rfl)
@[go_sem] theorem Sp (base : Nat) (cs : List D) : bS base cs [] = (cs, []) := (rfl)
def aeF(n:Nat)(a:D):Option (D×af):=if a.cells.length=n∧a.iF then some (.bp H.length 0,H++[.box a.cells])else none
@[go_sem] theorem ah6 (x : X) (n : Nat) : evO call get H (.bx x n) = (get x).bind (aeF H n) := (rfl)
@[go_sem] theorem aeG (n : Nat) (a : D) : aeF H n a = if fits n a = true then some (.bp H.length 0, H ++ [.box a.cells]) else none := by
 simp[aeF,fits]
def acs(sz:Nat)(zero:D)(n:Option Nat):Option (D×af):=n.bind fun m=>if m≤lim then some (.ref H.length 0 m,H++[.arr sz false 0 (List.replicate m zero)])else none
def mkN(sz:Nat)(zero:D):D→Option (D×af)
 | .t (.int _ n)=>acs H sz zero (idx n)
 | _=>none
@[go_sem] theorem aeH (sz : Nat) (zero : D) (k : IntKind) (n : Int) : mkN H sz zero (.t (.int k n)) = acs H sz zero (idx n) := (rfl)
@[go_sem] theorem ah7 (len : X) (zero : D) (sz : Nat) : evO call get H (.mk len zero sz) = (get len).bind (mkN H sz zero) := by
 simp only[evO];cases get len with
 | none=>rfl
 | some d=>cases d with
   | t y=>cases y<;>rfl
   | _=>rfl
@[go_sem] theorem aeI (sz : Nat) (zero : D) (m : Nat) (h : m ≤ 4294967296) : acs H sz zero (some m) = some (.ref H.length 0 m, H ++ [.arr sz false 0 (List.replicate m zero)]) := by
 simp[acs,lim,h]
def NA(zero:T)(n:Option Nat):Option (D×af):=n.bind fun m=>if m≤lim then some (.t (.sl (List.replicate m zero)),H)else none
def agQ(zero:T):D→Option (D×af)
 | .t (.int _ n)=>NA H zero (idx n)
 | _=>none
@[go_sem] theorem acu (zero : T) (k : IntKind) (n : Int) : agQ H zero (.t (.int k n)) = NA H zero (idx n) := (rfl)
@[go_sem] theorem agR (len : X) (zero : T) (sz : Nat) : evO call get H (.mkt len zero sz) = (get len).bind (agQ H zero) := by
 simp only[evO];cases get len with
 | none=>rfl
 | some d=>cases d with
   | t y=>cases y<;>rfl
   | _=>rfl
@[go_sem] theorem acv (zero : T) (m : Nat) (h : m ≤ 4294967296) : NA H zero (some m) = some (.t (.sl (List.replicate m zero)), H) := by
 simp[NA,lim,h]
def NB(sz:Nat)(zero:T)(n:Option Nat):Option (D×af):=n.bind fun m=>if m≤lim∧0<m then some (.ref H.length 0 m,H++[.arr sz false 0 (List.replicate m (.t zero))])else none
def agS(sz:Nat)(zero:T):D→Option (D×af)
 | .t (.int _ n)=>NB H sz zero (idx n)
 | _=>none
@[go_sem] theorem acw (sz : Nat) (zero : T) (k : IntKind) (n : Int) : agS H sz zero (.t (.int k n)) = NB H sz zero (idx n) := (rfl)
@[go_sem] theorem agT (len : X) (zero : T) (sz : Nat) : evO call get H (.mkn len zero sz) = (get len).bind (agS H sz zero) := by
 simp only[evO];cases get len with
 | none=>rfl
 | some d=>cases d with
   | t y=>cases y<;>rfl
   | _=>rfl
@[go_sem] theorem acx (sz : Nat) (zero : T) (m : Nat) (h : m ≤ 4294967296) (h0 : 0 < m) : NB H sz zero (some m) = some (.ref H.length 0 m, H ++ [.arr sz false 0 (List.replicate m (.t zero))]) := by
 simp[NB,lim,h,h0]
def oY(sz:Nat)(fz:Bool)(x y:Option D):Option (D×af):=x.bind fun a=>y.bind fun b=>mr H a b fz sz
@[go_sem] theorem agU (x y : X) (fz : Bool) (sz : Nat) : evO call get H (.app x y fz sz) = oY H sz fz (get x) (get y) := (rfl)
def xf(sz id ep n:Nat)(ys:List D):Option Obj→Option (D×af)
 | some (.arr sz' pin ep' es)=>if ep=ep'∧n=es.length∧sz'=sz∧n+ys.length≤lim then some (.ref id ep (n+ys.length),H.set id (.arr sz pin ep (es++ys)))else none
 | _=>none
@[go_sem] theorem Zv (sz id ep n : Nat) (ys : List D) (pin : Bool) (es : List D) :
 xf H sz id ep n ys (some (.arr sz pin ep es))=if n=es.length then(if n+ys.length≤4294967296 then some (.ref id ep (n+ys.length),H.set id (.arr sz pin ep (es++ys)))else none)else none:=by
 simp only[xf,lim]
 by_cases h1:n=es.length
 · rw[if_pos h1]
   by_cases h2:n+ys.length≤4294967296
   · rw[if_pos h2,if_pos ⟨trivial,h1,trivial,h2⟩]
   · rw[if_neg h2,if_neg fun h=>h2 h.2.2.2]
 · rw[if_neg h1,if_neg fun h=>h1 h.2.1]
theorem uy(ts:List T):bW (fun d=>(frz H depth d).map D.t) (ts.map D.t)=some (ts.map D.t):=by
 induction ts with
 | nil=>rfl
 | cons t ts ih=>simp[bW,frz,ih]
theorem J4(ts:List T):(ts.map D.t).flatMap (eZ H depth)=[]:=by
 induction ts with
 | nil=>rfl
 | cons t ts ih=>rw[List.map_cons,List.flatMap_cons,ih];simp[eZ,depth]
theorem CW(sz:Nat)(fz:Bool)(x:D)(ts:List T)(h:cD sz (ts.map D.t)=false):oY H sz fz (some x) (some (.t (.sl ts)))=none:=by
 have e1:(if fz then bW (fun d=>(frz H depth d).map D.t) (ts.map D.t)else some (ts.map D.t))=some (ts.map D.t):=by
  cases fz<;>simp[uy]
 simp only[oY,Option.bind_some,mr,elems,e1,h,Bool.false_eq_true,if_false]
def nF(sz:Nat)(ts:List T):Bool:=cD sz (ts.map D.t)
theorem J5(sz id ep n:Nat)(fz:Bool)(ts:List T)(h:nF sz ts=true):oY H sz fz (some (.ref id ep n)) (some (.t (.sl ts)))=xf H sz id ep n (ts.map .t) H[id]?:=by
 have e1:(if fz then bW (fun d=>(frz H depth d).map D.t) (ts.map D.t)else some (ts.map D.t))=some (ts.map D.t):=by
  cases fz<;>simp[uy]
 have e2:(if fz then pins H ((ts.map D.t).flatMap (eZ H depth))else H)=H:=by
  cases fz
  · rfl
  · simp only[if_true];rw[J4];rfl
 unfold nF at h
 simp only[oY,Option.bind_some,mr,elems,e1,h,if_true,e2,fM]
 generalize H[id]?=o
 rcases o with _ | (_ | ⟨sz',pin,ep',es⟩)
 · rfl
 · rfl
 · simp only[xf]
   by_cases h1:ep=ep'∧n=es.length
   · rw[if_pos h1,Option.bind_some]
     by_cases h2:sz'=sz∧n+(ts.map D.t).length≤lim
     · rw[if_pos h2,if_pos ⟨h1.1,h1.2,h2⟩]
     · rw[if_neg h2,if_neg fun h=>h2 h.2.2]
   · rw[if_neg h1,if_neg fun h=>h1 ⟨h.1,h.2.1⟩];rfl
@[go_sem] theorem Zw (sz id ep n : Nat) (fz : Bool) (ts : List T) : oY H sz fz (some (.ref id ep n)) (some (.t (.sl ts))) = if nF sz ts = true then xf H sz id ep n (ts.map .t) H[id]? else none := by
 by_cases h:nF sz ts=true
 · rw[if_pos h,J5 H sz id ep n fz ts h]
 · rw[if_neg h];exact CW H sz fz _ ts (by simpa [nF]using h)
@[go_sem] theorem Zx (sz : Nat) (fz : Bool) (ts : List T) : oY H sz fz (some .nil) (some (.t (.sl ts))) =
 if nF sz ts=true then(if ts.length≤4294967296 then some (.ref H.length 0 ts.length,H++[.arr sz false 0 (ts.map .t)])else none)else none:=by
 by_cases h:nF sz ts=true
 · rw[if_pos h]
   have e1:(if fz then bW (fun d=>(frz H depth d).map D.t) (ts.map D.t)else some (ts.map D.t))=some (ts.map D.t):=by
    cases fz<;>simp[uy]
   have e2:(if fz then pins H ((ts.map D.t).flatMap (eZ H depth))else H)=H:=by
    cases fz
    · rfl
    · simp only[if_true];rw[J4];rfl
   unfold nF at h
   simp only[oY,Option.bind_some,mr,elems,e1,h,if_true,e2,lim,List.length_map]
 · rw[if_neg h];exact CW H sz fz _ ts (by simpa [nF]using h)
@[go_sem] theorem Zy (sz : Nat) : nF sz [] = true := (rfl)
@[go_sem] theorem V6 (sz : Nat) (x : T) (r : List T) : nF sz (x :: r) = nE sz x.cells := by
 rw[Bool.eq_iff_iff,fA];simp[nF,cD,D.cells]
@[go_sem] theorem Zz (l : List Int) (k : IntKind) : nF 1 (l.map (.int k)) = true := by cases l <;> rfl
@[go_sem] theorem V7 (l : List Bool) : nF 1 (l.map .bool) = true := by cases l <;> rfl
@[go_sem] theorem acy (l : List (List T)) : nF 1 (l.map .sl) = true := by cases l <;> rfl
def Gl(call:aJ)(f raw:Nat)(keep:List Nat)(ds:List D):Option (D×af):=tW call H f raw keep ds
@[go_sem] theorem ah8 (f raw : Nat) (keep : List Nat) (xs : List X) : evO call get H (.ca f raw keep xs) = (bW get xs).bind (Gl H call f raw keep) := (rfl)
def agV(call:aJ)(raw:Nat)(keep:List Nat)(x:Option D)(xs:Option (List D)):Option (D×af):=x.bind fun
 | .fn f caps=>xs.bind fun ds=>tW call H f raw keep (ds++caps)
 | _=>none
@[go_sem] theorem ah9 (x : X) (raw : Nat) (keep : List Nat) (xs : List X) : evO call get H (.cw x raw keep xs) = agV H call raw keep (get x) (bW get xs) := (rfl)
@[go_sem] theorem aeJ (raw : Nat) (keep : List Nat) (f : Nat) (caps ds : List D) : agV H call raw keep (some (.fn f caps)) (some ds) = Gl H call f raw keep (ds ++ caps) := (rfl)
def lQ(H:af):List D→Option (List T)
 | []=>some []
 | .t x::r=>kv x (lQ H r)
 | .nil::r=>kv (.sl []) (lQ H r)
 | _::_=>none
@[go_sem] theorem aeK : lQ H [] = some [] := (rfl)
@[go_sem] theorem aeL (x : T) (r : List D) : lQ H (.t x :: r) = kv x (lQ H r) := (rfl)
@[go_sem] theorem ZA (r : List D) : lQ H (.nil :: r) = kv (.sl []) (lQ H r) := (rfl)
@[go_sem] theorem ZB (cs : List D) (r : List D) : lQ H (.agg cs :: r) = none := (rfl)
@[go_sem] theorem acz (a b : Nat) (r : List D) : lQ H (.bp a b :: r) = none := (rfl)
@[go_sem] theorem ZC (a b c : Nat) (r : List D) : lQ H (.ref a b c :: r) = none := (rfl)
@[go_sem] theorem ZD (a b c d e : Nat) (r : List D) : lQ H (.sub a b c d e :: r) = none := (rfl)
@[go_sem] theorem acA (f : Nat) (cs : List D) (r : List D) : lQ H (.fn f cs :: r) = none := (rfl)
@[go_sem] theorem acB (a b c d e : Nat) (r : List D) : lQ H (.ap a b c d e :: r) = none := (rfl)
@[go_sem] theorem acC (cs : List T) (r : List D) : lQ H (.ep cs :: r) = none := (rfl)
@[go_sem] theorem V8 (r : List D) : lQ H (.nilp :: r) = none := (rfl)
@[go_sem] theorem ZE (r : List D) : lQ H (.und :: r) = none := (rfl)
end
theorem sP(H:af):∀ {ds:List D} {ts:List T},lQ H ds=some ts→∀i,oq H [] i ds=some (ts.map .t)∧cC H [] i ds=[]
 | [],ts,h,i=>by simp[lQ]at h;subst h;exact⟨rfl,rfl⟩
 | d::r,ts,h,i=>by
   cases d with
   | t x=>
     simp only[lQ,kv,Option.map_eq_some_iff]at h
     obtain⟨l,hl,rfl⟩:=h
     obtain⟨h1,h2⟩:=sP H hl (i+1)
     exact⟨by simp[oq,sD,h1],by simp[cC,eZ,depth,h2]⟩
   | nil=>
     simp only[lQ,kv,Option.map_eq_some_iff]at h
     obtain⟨l,hl,rfl⟩:=h
     obtain⟨h1,h2⟩:=sP H hl (i+1)
     exact⟨by simp[oq,sD,h1],by simp[cC,eZ,depth,h2]⟩
   | _=>simp[lQ]at h
theorem J6(ts:List T)(n:Nat):(ts.map D.t).flatMap (ids n)=[]:=by
 induction ts with
 | nil=>rfl
 | cons t ts ih=>rw[List.map_cons,List.flatMap_cons,ih];simp[ids]
theorem J7(f:Nat→Option Nat)(ts:List T):bW (ren f depth) (ts.map .t)=some (ts.map .t):=by
 induction ts with
 | nil=>rfl
 | cons t ts ih=>simp[bW,ren,depth]at ih ⊢;exact ih
def xK:D→Bool
 | .t _=>true
 | .tup ds=>ds.all fun | .t _=>true | _=>false
 | _=>false
theorem Bm{f:Nat→Option Nat}{d:D}(h:xK d=true):ren f depth d=some d:=by
 cases d with
 | t x=>rfl
 | tup ds=>
   simp only[xK]at h
   have:bW (ren f 7) ds=some ds:=by
    induction ds with
    | nil=>rfl
    | cons d ds ih=>
      simp only[List.all_cons,Bool.and_eq_true]at h
      cases d with
      | t x=>simp[bW,ren,ih h.2]
      | _=>simp at h
   simp[ren,depth,this]
 | _=>simp[xK]at h
def yR(H:af)(p:D×af):Option (D×af):=if xK p.1&&p.2.isEmpty then some (p.1,H)else
 (ren (eE [] H.length) depth p.1).bind fun r'=>(bW (gN (eE [] H.length)) p.2).map fun os=>(r',H++os)
@[go_sem] theorem aeM (H : af) (x : T) : yR H (.t x, []) = some (.t x, H) := (rfl)
@[go_sem] theorem aeN (H : af) : yR H (.tup [], []) = some (.tup [], H) := (rfl)
@[go_sem] theorem aeO (H : af) (x y : T) : yR H (.tup [.t x, .t y], []) = some (.tup [.t x, .t y], H) := (rfl)
@[go_sem] theorem aeP (H : af) (x y z : T) : yR H (.tup [.t x, .t y, .t z], []) = some (.tup [.t x, .t y, .t z], H) := (rfl)
@[go_sem] theorem aeQ (H : af) (x y z u : T) : yR H (.tup [.t x, .t y, .t z, .t u], []) = some (.tup [.t x, .t y, .t z, .t u], H) := (rfl)
theorem J8(H:af)(call:aJ)(f raw:Nat)(ds:List D)(ts:List T)(h:lQ H ds=some ts):
 Gl H call f raw [] ds=(call raw f (ts.map .t) []).bind (yR H):=by
 obtain⟨h1,h2⟩:=sP H h 0
 simp only[Gl,tW,h1,Option.bind_some,J6,ed,reach,kK,List.flatMap_nil,h2,pins,J7,pick,bW]
 cases hc:call raw f (ts.map .t) []with
 | none=>rfl
 | some p=>
   obtain⟨d,os⟩:=p
   simp only[Option.bind_some,List.isEmpty_nil,Bool.true_and,yR]
   by_cases h3:os=[]
   · subst h3
     simp only[List.isEmpty_nil,Bool.true_and,Bool.and_true,bW,Option.map_some,List.length_nil,List.take_nil,dr,List.drop_nil,List.append_nil]
     by_cases h4:xK d=true
     · rw[if_pos h4]
       split
       · rfl
       · rw[Bm h4];rfl
     · rw[if_neg h4]
       split
       · rename_i h5
         exfalso
         apply h4
         cases d with
         | t x=>rfl
         | tup ds=>
           simp only[oP,List.all_eq_true]at h5
           simp only[xK,List.all_eq_true]
           intro y hy
           have:=h5 y hy
           cases y<;>simp_all [ko]
         | _=>simp[oP]at h5
       · rfl
   · have:os.isEmpty=false:=by cases os<;>simp_all
     simp only[this,Bool.false_and,Bool.and_false,if_false,Bool.false_eq_true,List.length_nil,List.take_zero,dr,List.drop_zero]
@[go_sem] theorem V9 (st : St) : iG st [] = some [] := (rfl)
def agW(st:St)(r:List (Nat×Option (Nat×Bool)))(d:D):Option (List D):=kv d (iG st r)
@[go_sem] theorem aeR (vs : List D) (H : af) (r : List (Nat × Option (Nat × Bool))) (d : D) : agW ⟨vs, H⟩ r d = kv d (iG ⟨vs, H⟩ r) := (rfl)
@[go_sem] theorem Wa (vs : List D) (H : af) (j : Nat) (r : List (Nat × Option (Nat × Bool))) : iG ⟨vs, H⟩ ((j, none) :: r) = vs[j]?.bind (agW ⟨vs, H⟩ r) := (rfl)
def aeS(st:St)(r:List (Nat×Option (Nat×Bool)))(p:D×af):Option (List D):=kv p.1 (iG st r)
@[go_sem] theorem aeT (vs : List D) (H : af) (r : List (Nat × Option (Nat × Bool))) (d : D) (H' : af) : aeS ⟨vs, H⟩ r (d, H') = kv d (iG ⟨vs, H⟩ r) := (rfl)
def aeU(st:St)(n:Nat)(agg:Bool)(r:List (Nat×Option (Nat×Bool)))(p:D):Option (List D):=(Mz st.H n agg p).bind (aeS st r)
@[go_sem] theorem aeV (vs : List D) (H : af) (n : Nat) (agg : Bool) (r : List (Nat × Option (Nat × Bool))) (p : D) : aeU ⟨vs, H⟩ n agg r p = (Mz H n agg p).bind (aeS ⟨vs, H⟩ r) := (rfl)
@[go_sem] theorem Sq (vs : List D) (H : af) (j n : Nat) (agg : Bool) (r : List (Nat × Option (Nat × Bool))) : iG ⟨vs, H⟩ ((j, some (n, agg)) :: r) = vs[j]?.bind (aeU ⟨vs, H⟩ n agg r) := by
 simp only[iG]
 cases vs[j]? with
 | none=>rfl
 | some p=>
   simp only[Option.bind_some,aeU,Mz]
   cases vE H p n agg<;>rfl
@[go_sem] theorem aeW (H : af) (n : Nat) (x : T) : frz H n (.t x) = some x := by cases n <;> rfl
@[go_sem] theorem aeX (H : af) (n : Nat) : frz H n .nil = some (.sl []) := by cases n <;> rfl
@[go_sem] theorem aeY (H : af) (n : Nat) (cs : List D) : frz H (n + 1) (.agg cs) = (bW (frz H n) cs).map .agg := (rfl)
@[go_sem] theorem HG (H : af) (n : Nat) (ts : List T) : bW (frz H n) (ts.map .t) = some ts := by
 induction ts with
 | nil=>rfl
 | cons t ts ih=>simp[bW,aeW,ih]
def frA(H:af)(n ep m lo hi:Nat):Option Obj→Option T
 | some (.arr _ _ ep' es)=>if ep=ep'∧m=es.length then(bW (frz H n) ((es.drop lo).take (hi-lo))).map .sl else none
 | _=>none
def frR(H:af)(n ep m:Nat):Option Obj→Option T
 | some (.arr _ _ ep' es)=>if ep=ep'∧m=es.length then(bW (frz H n) es).map .sl else none
 | _=>none
@[go_sem] theorem aeZ (H : af) (n id ep m : Nat) : frz H (n + 1) (.ref id ep m) = frR H n ep m H[id]? := by
 simp only[frz,fM]
 generalize H[id]?=o
 rcases o with _ | (_ | ⟨sz',pin,ep',es⟩)
 · rfl
 · rfl
 · simp only[frR]
   by_cases h:ep=ep'∧m=es.length
   · rw[if_pos h,if_pos h];rfl
   · rw[if_neg h,if_neg h];rfl
@[go_sem] theorem ae0 (H : af) (n id ep m lo hi : Nat) : frz H (n + 1) (.sub id ep m lo hi) = frA H n ep m lo hi H[id]? := by
 simp only[frz,fM]
 generalize H[id]?=o
 rcases o with _ | (_ | ⟨sz',pin,ep',es⟩)
 · rfl
 · rfl
 · simp only[frA]
   by_cases h:ep=ep'∧m=es.length
   · rw[if_pos h,if_pos h];rfl
   · rw[if_neg h,if_neg h];rfl
@[go_sem] theorem ae1 (H : af) (n ep m sz : Nat) (pin : Bool) (es : List D) : frR H n ep m (some (.arr sz pin ep es)) = if m = es.length then (bW (frz H n) es).map .sl else none := by simp [frR]
@[go_sem] theorem ae2 (H : af) (n ep m lo hi sz : Nat) (pin : Bool) (es : List D) : frA H n ep m lo hi (some (.arr sz pin ep es)) = if m = es.length then (bW (frz H n) ((es.drop lo).take (hi - lo))).map .sl else none := by simp [frA]
@[go_sem] theorem ZF (H : af) (x : T) : sD H (.t x) = some (.t x) := (rfl)
@[go_sem] theorem acD (H : af) : sD H .nil = some (.t (.sl [])) := (rfl)
@[go_sem] theorem acE (H : af) (cs : List D) : sD H (.agg cs) = (frz H 8 (.agg cs)).map .t := (rfl)
@[go_sem] theorem acF (H : af) (id ep n : Nat) : sD H (.ref id ep n) = (frz H 8 (.ref id ep n)).map .t := (rfl)
@[go_sem] theorem acG (H : af) (id ep n lo hi : Nat) : sD H (.sub id ep n lo hi) = (frz H 8 (.sub id ep n lo hi)).map .t := (rfl)
@[go_sem] theorem Sr (H : af) (id off : Nat) : sD H (.bp id off) = some (.bp id off) := (rfl)
@[go_sem] theorem ae3 (H : af) (id ep n i off : Nat) : sD H (.ap id ep n i off) = some (.ap id ep n i off) := (rfl)
@[go_sem] theorem ae4 (H : af) (cs : List T) : sD H (.ep cs) = some (.ep cs) := (rfl)
@[go_sem] theorem ae5 (H : af) (f : Nat) (cs : List D) : sD H (.fn f cs) = some (.fn f cs) := (rfl)
def ltB:Nat→Nat→Bool
 | _,0=>false
 | 0,_+1=>true
 | m+1,n+1=>ltB m n
@[go_sem] theorem aia (m : Nat) : ltB m 0 = false := by cases m <;> rfl
@[go_sem] theorem agX (n : Nat) : ltB 0 (n + 1) = true := (rfl)
@[go_sem] theorem agY (m n : Nat) : ltB (m + 1) (n + 1) = ltB m n := (rfl)
theorem oZ:∀ {m n:Nat},ltB m n=decide (m<n)
 | m,0=>by cases m<;>simp[ltB]
 | 0,n+1=>by simp[ltB]
 | m+1,n+1=>by simp[ltB,oZ (m:=m) (n:=n)]
def eqB:Nat→Nat→Bool
 | 0,0=>true
 | m+1,n+1=>eqB m n
 | _,_=>false
@[go_sem] theorem agZ : eqB 0 0 = true := (rfl)
@[go_sem] theorem ag0 (n : Nat) : eqB 0 (n + 1) = false := (rfl)
@[go_sem] theorem ag1 (n : Nat) : eqB (n + 1) 0 = false := (rfl)
@[go_sem] theorem ag2 (m n : Nat) : eqB (m + 1) (n + 1) = eqB m n := (rfl)
theorem EM:∀ {m n:Nat},eqB m n=decide (m=n)
 | 0,0=>rfl
 | 0,n+1=>rfl
 | m+1,0=>rfl
 | m+1,n+1=>by simp[eqB,EM (m:=m) (n:=n)]
section
variable (k n : Nat)
@[go_sem] theorem ae6 (x : T) : old k n (.t x) = true := by cases n <;> rfl
@[go_sem] theorem ae7 : old k n .nil = true := by cases n <;> rfl
@[go_sem] theorem ag3 (cs : List T) : old k n (.ep cs) = true := by cases n <;> rfl
@[go_sem] theorem acH : old k n .nilp = true := by cases n <;> rfl
@[go_sem] theorem ae8 : old k n .und = true := by cases n <;> rfl
@[go_sem] theorem ZG (id off : Nat) : old k n (.bp id off) = ltB id k := by cases n <;> simp [old, oZ]
@[go_sem] theorem ag4 (id ep m i off : Nat) : old k n (.ap id ep m i off) = ltB id k := by cases n <;> simp [old, oZ]
@[go_sem] theorem ae9 (id ep m : Nat) : old k n (.ref id ep m) = ltB id k := by cases n <;> simp [old, oZ]
@[go_sem] theorem afa (id ep m lo hi : Nat) : old k n (.sub id ep m lo hi) = ltB id k := by cases n <;> simp [old, oZ]
def gv(n:Nat)(cs:List D):Bool:=cs.all (old k n)
@[go_sem] theorem Wb : gv k n [] = true := (rfl)
@[go_sem] theorem EN (d : D) (r : List D) : gv k n (d :: r) = (old k n d && gv k n r) := (rfl)
@[go_sem] theorem Gm (ts : List T) : gv k n (ts.map .t) = true := by
 induction ts with
 | nil=>rfl
 | cons t ts ih=>rw[List.map_cons,EN,ae6,ih];rfl
@[go_sem] theorem Wc (m : Nat) (x : T) : gv k n (List.replicate m (.t x)) = true := by
 have:List.replicate m (D.t x)=(List.replicate m x).map .t:=by simp
 rw[this,Gm]
@[go_sem] theorem Wd (a b : List D) : gv k n (a ++ b) = (gv k n a && gv k n b) := by simp [gv]
@[go_sem] theorem afb (cs : List D) : old k (n + 1) (.agg cs) = gv k n cs := (rfl)
@[go_sem] theorem afc (cs : List D) : old k (n + 1) (.tup cs) = gv k n cs := (rfl)
@[go_sem] theorem ag5 (f : Nat) (cs : List D) : old k (n + 1) (.fn f cs) = gv k n cs := (rfl)
end
def fI(k:Nat):af→Bool
 | []=>true
 | .box cs::r=>gv k 8 cs&&fI k r
 | .arr _ _ _ es::r=>gv k 8 es&&fI k r
@[go_sem] theorem Ss (k : Nat) : fI k [] = true := (rfl)
@[go_sem] theorem Su (k : Nat) (cs : List D) (r : af) : fI k (.box cs :: r) = (gv k 8 cs && fI k r) := (rfl)
@[go_sem] theorem Sv (k sz ep : Nat) (pin : Bool) (es : List D) (r : af) : fI k (.arr sz pin ep es :: r) = (gv k 8 es && fI k r) := (rfl)
theorem me(k:Nat)(H:af):H.all (fun o=>o.ds.all (old k depth))=fI k H:=by
 induction H with
 | nil=>rfl
 | cons o r ih=>rw[List.all_cons,ih];cases o<;>rfl
def Sw(d:D)(b:Bool):D:=if b then d else .und
@[go_sem] theorem We (d : D) : Sw d true = d := (rfl)
@[go_sem] theorem Sx (d : D) : Sw d false = .und := (rfl)
@[go_sem] theorem afd (k : Nat) (d : D) : kill k d = Sw d (old k 8 d) := (rfl)
def HH(k:Nat):List D→List D
 | []=>[]
 | d::r=>kill k d::HH k r
@[go_sem] theorem ZH (k : Nat) : HH k [] = [] := (rfl)
@[go_sem] theorem Wf (k : Nat) (d : D) (r : List D) : HH k (d :: r) = kill k d :: HH k r := (rfl)
theorem NC(k:Nat)(vs:List D):vs.map (kill k)=HH k vs:=by
 induction vs with
 | nil=>rfl
 | cons d r ih=>rw[List.map_cons,ih];rfl
@[go_sem] theorem acI (k : Nat) (vs : List D) (H : af) : Hp k ⟨vs, H⟩ = if fI k (H.take k) = true then some ⟨HH k vs, H.take k⟩ else none := by
 simp only[Hp,me,NC]
@[go_sem] theorem J9 (H : af) (n : Nat) (x : T) : eZ H n (.t x) = [] := by cases n <;> rfl
@[go_sem] theorem acJ (H : af) (n : Nat) : eZ H n .nil = [] := by cases n <;> rfl
@[go_sem] theorem Sy (H : af) (n id off : Nat) : eZ H n (.bp id off) = [] := by cases n <;> rfl
@[go_sem] theorem afe (H : af) (n f : Nat) (cs : List D) : eZ H n (.fn f cs) = [] := by cases n <;> rfl
@[go_sem] theorem aff (H : af) (n : Nat) (cs : List T) : eZ H n (.ep cs) = [] := by cases n <;> rfl
@[go_sem] theorem afg (H : af) (n a b c d e : Nat) : eZ H n (.ap a b c d e) = [] := by cases n <;> rfl
def rK(H:af)(n:Nat)(cs:List D):List Nat:=cs.flatMap (eZ H n)
@[go_sem] theorem ZI (H : af) (n : Nat) : rK H n [] = [] := (rfl)
@[go_sem] theorem HI (H : af) (n : Nat) (d : D) (r : List D) : rK H n (d :: r) = eZ H n d ++ rK H n r := (rfl)
@[go_sem] theorem afh (H : af) (n : Nat) (ts : List T) : rK H n (ts.map .t) = [] := by
 induction ts with
 | nil=>rfl
 | cons t ts ih=>rw[List.map_cons,HI,ih,J9];rfl
@[go_sem] theorem ZJ (H : af) (n : Nat) (a b : List D) : rK H n (a ++ b) = rK H n a ++ rK H n b := by simp [rK]
@[go_sem] theorem acK (H : af) (n : Nat) (cs : List D) : eZ H (n + 1) (.agg cs) = rK H n cs := (rfl)
def Sz(H:af)(n:Nat):Option Obj→List Nat
 | some (.arr _ _ _ es)=>rK H n es
 | _=>[]
@[go_sem] theorem ZK (H : af) (n sz ep : Nat) (pin : Bool) (es : List D) : Sz H n (some (.arr sz pin ep es)) = rK H n es := (rfl)
@[go_sem] theorem acL (H : af) (n id ep m : Nat) : eZ H (n + 1) (.ref id ep m) = id :: Sz H n H[id]? := (rfl)
@[go_sem] theorem acM (H : af) (n id ep m lo hi : Nat) : eZ H (n + 1) (.sub id ep m lo hi) = id :: Sz H n H[id]? := (rfl)
@[go_sem] theorem afi : vG [] = .tup [] := (rfl)
@[go_sem] theorem afj (d : D) : vG [d] = d := (rfl)
@[go_sem] theorem afk (a b : D) (r : List D) : vG (a :: b :: r) = .tup (a :: b :: r) := (rfl)
def CY(k:Nat):List Nat→Bool
 | []=>true
 | i::r=> !ltB i k&&CY k r
@[go_sem] theorem ZL (k : Nat) : CY k [] = true := (rfl)
@[go_sem] theorem Wg (k i : Nat) (r : List Nat) : CY k (i :: r) = (!ltB i k && CY k r) := (rfl)
theorem Gn(k:Nat)(l:List Nat):l.all (fun i=>decide (k≤i))=CY k l:=by
 induction l with
 | nil=>rfl
 | cons i r ih=>
   rw[List.all_cons,ih]
   simp only[CY,oZ]
   congr 1
   rw[Bool.eq_iff_iff];simp
def acN(k raw:Nat)(H:af)(ds rs:List D):Option (D×af):=
 (kL H (max raw 1) (List.range k) (rs.flatMap (ids depth)++kK H (List.range k))).bind fun q=>
  if(iZ H raw ds).all (fun i=> !(List.range k++q.1).contains i)then
   (bW (ren (idxOf (List.range k++q.1)) depth) rs).bind fun rs'=>
    (bW (gN (idxOf (List.range k++q.1))) (H.take k++q.2)).map fun hs'=>(vG rs',hs')
  else none
def Wi(k raw:Nat)(H:af)(ds rs:List D)(b:Bool):Option (D×af):=
 if b then(if CY k (iZ H raw ds)=true then some (vG rs,H.take k)else none)else acN k raw H ds rs
@[go_sem] theorem ZM (k raw : Nat) (H : af) (ds rs : List D) : Wi k raw H ds rs true = if CY k (iZ H raw ds) = true then some (vG rs, H.take k) else none := (rfl)
def ZN(k raw:Nat)(H:af)(ds rs:List D):Option (D×af):=Wi k raw H ds rs (gv k 8 rs&&fI k (H.take k))
@[go_sem] theorem afl (k raw : Nat) (H : af) (ds rs : List D) : ZN k raw H ds rs = Wi k raw H ds rs (gv k 8 rs && fI k (H.take k)) := (rfl)
@[go_sem] theorem ZO (k : Nat) (H : af) (ds : List D) : finish k 0 H ds = (bW (sD H) ds).bind (ZN k 0 H ds) := by
 simp only[finish,if_true,me,Gn]
 cases bW (sD H) ds with
 | none=>rfl
 | some rs=>
   simp only[Option.bind_some,ZN,Wi]
   show(if(gv k 8 rs&&fI k (H.take k))=true then _ else _)=_
   cases (gv k 8 rs&&fI k (H.take k))<;>rfl
@[go_sem] theorem ZP (H : af) (ds : List D) : iZ H 0 ds = rK H 8 ds := (rfl)
@[go_sem] theorem ZQ (vs : List D) : jR [] vs = vs := (rfl)
@[go_sem] theorem Wj (i : Nat) (r : List Nat) (vs : List D) : jR (i :: r) vs = jR r (vs.set i .und) := (rfl)
@[go_sem] theorem afm (dead : List Nat) (k : Nat) (vs : List D) (H : af) : tidy false dead k ⟨vs, H⟩ = some ⟨jR dead vs, H⟩ := (rfl)
@[go_sem] theorem afn (dead : List Nat) (k : Nat) (vs : List D) (H : af) : tidy true dead k ⟨vs, H⟩ = Hp k ⟨jR dead vs, H⟩ := (rfl)
section
variable (H : af) (call : aJ) (f raw : Nat) (keep : List Nat) (ds : List D)
def Bo(H1:af)(n:Nat)(sel:List Nat)(p:D×af):Option (D×af):=
 (ren (eE sel n) depth p.1).bind fun r'=>(bW (gN (eE sel n)) p.2).map fun os=>(r',dr H1 sel (os.take sel.length)++os.drop sel.length)
def sQ(H1:af)(sel:List Nat)(p:D×af):Option (D×af):=
 if sel.isEmpty&&p.2.isEmpty&&oP p.1 then some (p.1,H)else Bo H1 H.length sel p
def SA(args:List D)(H1:af)(sel:List Nat)(hs:af):Option (D×af):=(call raw f args hs).bind (sQ H H1 sel)
def SB(args:List D)(H1:af)(sel:List Nat)(hs:af):Option (D×af):=(bW (gN (idxOf sel)) hs).bind (SA H call f raw args H1 sel)
def SC(H1:af)(sel:List Nat)(args:List D):Option (D×af):=(pick H1 sel).bind (SB H call f raw args H1 sel)
def SD(args:List D)(sel:List Nat):Option (D×af):=(bW (ren (idxOf sel) depth) args).bind (SC H call f raw (pins H (cC H keep 0 ds)) sel)
def xL(n:Nat)(cs:List D):List Nat:=cs.flatMap (ids n)
def SE(args:List D):Option (D×af):=SD H call f raw keep ds args (reach H 3 (ed [] (xL 8 args)))
def Ka:Option (D×af):=(oq H keep 0 ds).bind (SE H call f raw keep ds)
theorem Gp:Gl H call f raw keep ds=Ka H call f raw keep ds:=(rfl)
@[go_sem] theorem Gq : Ka H call f raw keep ds = (oq H keep 0 ds).bind (SE H call f raw keep ds) := (rfl)
@[go_sem] theorem Gr (args : List D) : SE H call f raw keep ds args = SD H call f raw keep ds args (reach H 3 (ed [] (xL 8 args))) := (rfl)
@[go_sem] theorem Gs (args : List D) (sel : List Nat) : SD H call f raw keep ds args sel = (bW (ren (idxOf sel) 8) args).bind (SC H call f raw (pins H (cC H keep 0 ds)) sel) := (rfl)
@[go_sem] theorem Gt (H1 : af) (sel : List Nat) (args : List D) : SC H call f raw H1 sel args = (pick H1 sel).bind (SB H call f raw args H1 sel) := (rfl)
@[go_sem] theorem Gu (args : List D) (H1 : af) (sel : List Nat) (hs : af) : SB H call f raw args H1 sel hs = (bW (gN (idxOf sel)) hs).bind (SA H call f raw args H1 sel) := (rfl)
@[go_sem] theorem ND (args : List D) (H1 : af) (sel : List Nat) (hs : af) : SA H call f raw args H1 sel hs = (call raw f args hs).bind (sQ H H1 sel) := (rfl)
def NF(H1:af)(sel:List Nat)(r:D)(os:af):Option (D×af):=some (r,dr H1 sel (os.take sel.length)++os.drop sel.length)
@[go_sem] theorem NG (H1 : af) (sel : List Nat) (r : D) (os : af) : NF H1 sel r os = some (r, dr H1 sel (os.take sel.length) ++ os.drop sel.length) := (rfl)
def SF(H1:af)(n:Nat)(sel:List Nat)(os:af)(r:D):Option (D×af):=(bW (gN (eE sel n)) os).bind (NF H1 sel r)
@[go_sem] theorem Gv (H1 : af) (n : Nat) (sel : List Nat) (os : af) (r : D) : SF H1 n sel os r = (bW (gN (eE sel n)) os).bind (NF H1 sel r) := (rfl)
@[go_sem] theorem Gw (H1 : af) (n : Nat) (sel : List Nat) (r : D) (os : af) : Bo H1 n sel (r, os) = (ren (eE sel n) 8 r).bind (SF H1 n sel os) := by
 simp only[Bo,depth]
 cases ren (eE sel n) 8 r with
 | none=>rfl
 | some r'=>simp only[Option.bind_some,SF];cases bW (gN (eE sel n)) os<;>rfl
@[go_sem] theorem ZR (H1 : af) (i : Nat) (sel : List Nat) (p : D × af) : sQ H H1 (i :: sel) p = Bo H1 H.length (i :: sel) p := (rfl)
@[go_sem] theorem acO (H1 : af) (sel : List Nat) (r : D) (o : Obj) (os : af) : sQ H H1 sel (r, o :: os) = Bo H1 H.length sel (r, o :: os) := by
 simp[sQ]
@[go_sem] theorem afo (H1 : af) (k : IntKind) (n : Int) : sQ H H1 [] (.t (.int k n), []) = some (.t (.int k n), H) := (rfl)
@[go_sem] theorem afp (H1 : af) (b : Bool) : sQ H H1 [] (.t (.bool b), []) = some (.t (.bool b), H) := (rfl)
@[go_sem] theorem acP (H1 : af) (es : List T) : sQ H H1 [] (.t (.sl es), []) = some (.t (.sl es), H1) := by simp [sQ, Bo, oP, T.scalar, ren, depth, bW, dr]
@[go_sem] theorem ZS (H1 : af) (es : List T) : sQ H H1 [] (.t (.agg es), []) = some (.t (.agg es), H1) := by simp [sQ, Bo, oP, T.scalar, ren, depth, bW, dr]
@[go_sem] theorem ZT (H1 : af) (ds : List D) : sQ H H1 [] (.tup ds, []) = if ds.all ko then some (.tup ds, H) else Bo H1 H.length [] (.tup ds, []) := by
 simp[sQ,oP]
def SG:Option (List T)→Option (D×af)
 | some ts=>(call raw f (ts.map .t) []).bind (yR H)
 | none=>Ka H call f raw [] ds
@[go_sem] theorem Wk (ts : List T) : SG H call f raw ds (some ts) = (call raw f (ts.map .t) []).bind (yR H) := (rfl)
@[go_sem] theorem Wl : SG H call f raw ds none = Ka H call f raw [] ds := (rfl)
@[go_sem] theorem afq : Gl H call f raw [] ds = SG H call f raw ds (lQ H ds) := by
 cases h:lQ H ds with
 | none=>rfl
 | some ts=>exact J8 H call f raw ds ts h
@[go_sem] theorem ag6 (k : Nat) : Gl H call f raw (k :: keep) ds = Ka H call f raw (k :: keep) ds := (rfl)
end
section
variable (H : af) (keep : List Nat)
@[go_sem] theorem ZU (i : Nat) : oq H keep i [] = some [] := (rfl)
def Ea(i:Nat):List Nat→Bool
 | []=>false
 | j::r=>eqB i j||Ea i r
@[go_sem] theorem acQ (i : Nat) : Ea i [] = false := (rfl)
@[go_sem] theorem ZV (i j : Nat) (r : List Nat) : Ea i (j :: r) = (eqB i j || Ea i r) := (rfl)
theorem Bp(i:Nat)(l:List Nat):l.contains i=Ea i l:=by
 induction l with
 | nil=>rfl
 | cons j r ih=>rw[List.contains_cons,ih];simp only[Ea,EM];rw[beq_eq_decide_nat]
where beq_eq_decide_nat {a b:Nat}:(a==b)=decide (a=b):=by rw[Bool.eq_iff_iff];simp
def afr(d:D):Bool→Option D
 | true=>some d
 | false=>sD H d
@[go_sem] theorem ag7 (d : D) : afr H d true = some d := (rfl)
@[go_sem] theorem PW (d : D) : afr H d false = sD H d := (rfl)
def ag8(i:Nat)(r:List D)(x:D):Option (List D):=kv x (oq H keep (i+1) r)
@[go_sem] theorem Kb (i : Nat) (r : List D) (x : D) : ag8 H keep i r x = kv x (oq H keep (i + 1) r) := (rfl)
@[go_sem] theorem Az (i : Nat) (d : D) (r : List D) : oq H keep i (d :: r) = (afr H d (Ea i keep)).bind (ag8 H keep i r) := by
 simp only[oq,Bp]
 cases Ea i keep<;>rfl
@[go_sem] theorem MA (i : Nat) : cC H keep i [] = [] := (rfl)
def frK(l:List Nat):Bool→List Nat
 | true=>[]
 | false=>l
@[go_sem] theorem aib (l : List Nat) : frK l true = [] := (rfl)
@[go_sem] theorem ZW (l : List Nat) : frK l false = l := (rfl)
@[go_sem] theorem qm (i : Nat) (d : D) (r : List D) : cC H keep i (d :: r) = frK (eZ H 8 d) (Ea i keep) ++ cC H keep (i + 1) r := by
 simp only[cC,Bp]
 cases Ea i keep<;>rfl
@[go_sem] theorem acR (H : af) : pins H [] = H := (rfl)
@[go_sem] theorem ZX (H : af) (i : Nat) (r : List Nat) : pins H (i :: r) = pins (H.modify i FT) r := (rfl)
def HJ(i:Nat):Option Obj→af
 | some (.arr sz _ ep es)=>H.set i (.arr sz true ep es)
 | _=>H
@[go_sem] theorem ZY (i : Nat) (cs : List D) : HJ H i (some (.box cs)) = H := (rfl)
@[go_sem] theorem ZZ (i sz ep : Nat) (pin : Bool) (es : List D) : HJ H i (some (.arr sz pin ep es)) = H.set i (.arr sz true ep es) := (rfl)
theorem m9{α:Type}{l:List α}{i:Nat}{x:α}(h:l[i]?=some x):l.set i x=l:=by
 apply List.ext_getElem?
 intro j
 rw[List.getElem?_set]
 split
 · rename_i e;subst e
   split
   · exact h.symm
   · rename_i hl;rw[List.getElem?_eq_none (by omega)]at h;cases h
 · rfl
@[go_sem] theorem Wm (i : Nat) : List.modify H i FT = HJ H i H[i]? := by
 apply List.ext_getElem?
 intro j
 rw[List.getElem?_modify]
 cases h:H[i]? with
 | none=>
   simp only[HJ]
   by_cases e:i=j
   · subst e;rw[h];simp
   · simp[e]
 | some o=>
   have hi:i<H.length:=(List.getElem?_eq_some_iff.1 h).1
   cases o with
   | box cs=>
     simp only[HJ]
     by_cases e:i=j
     · subst e;rw[h];simp[FT]
     · simp[e]
   | arr sz pin ep es=>
     simp only[HJ]
     rw[List.getElem?_set]
     by_cases e:i=j
     · subst e;rw[h];simp[FT,hi]
     · simp[e]
section
variable (n : Nat)
@[go_sem] theorem aic (x : T) : ids n (.t x) = [] := by cases n <;> rfl
@[go_sem] theorem afs : ids n .nil = [] := by cases n <;> rfl
@[go_sem] theorem acS : ids n .nilp = [] := by cases n <;> rfl
@[go_sem] theorem afu : ids n .und = [] := by cases n <;> rfl
@[go_sem] theorem ag9 (cs : List T) : ids n (.ep cs) = [] := by cases n <;> rfl
@[go_sem] theorem Z0 (id off : Nat) : ids n (.bp id off) = [id] := by cases n <;> rfl
@[go_sem] theorem aha (id ep m i off : Nat) : ids n (.ap id ep m i off) = [id] := by cases n <;> rfl
@[go_sem] theorem afv (id ep m : Nat) : ids n (.ref id ep m) = [id] := by cases n <;> rfl
@[go_sem] theorem afw (id ep m lo hi : Nat) : ids n (.sub id ep m lo hi) = [id] := by cases n <;> rfl
@[go_sem] theorem afx (cs : List D) : ids (n + 1) (.agg cs) = xL n cs := (rfl)
@[go_sem] theorem afy (cs : List D) : ids (n + 1) (.tup cs) = xL n cs := (rfl)
@[go_sem] theorem Z1 (f : Nat) (cs : List D) : ids (n + 1) (.fn f cs) = xL n cs := (rfl)
@[go_sem] theorem NH : xL n [] = [] := (rfl)
@[go_sem] theorem Kc (d : D) (r : List D) : xL n (d :: r) = ids n d ++ xL n r := (rfl)
@[go_sem] theorem xg (ts : List T) : xL n (ts.map .t) = [] := J6 ts n
@[go_sem] theorem Gx (a b : List D) : xL n (a ++ b) = xL n a ++ xL n b := by simp [xL]
@[go_sem] theorem acT (m : Nat) (x : T) : xL n (List.replicate m (.t x)) = [] := by
 have:List.replicate m (D.t x)=(List.replicate m x).map .t:=by simp
 rw[this,xg]
end
def Kd(sel:List Nat)(i:Nat):Bool→List Nat
 | true=>sel
 | false=>sel++[i]
@[go_sem] theorem acU (sel : List Nat) (i : Nat) : Kd sel i true = sel := (rfl)
@[go_sem] theorem acV (sel : List Nat) (i : Nat) : Kd sel i false = sel ++ [i] := (rfl)
@[go_sem] theorem Wn (sel : List Nat) : ed sel [] = sel := (rfl)
@[go_sem] theorem SI (sel : List Nat) (i : Nat) (r : List Nat) : ed sel (i :: r) = ed (Kd sel i (Ea i sel)) r := by
 simp only[ed,Bp]
 cases Ea i sel<;>rfl
def Gy:Option Obj→List Nat
 | some (.box cs)=>xL 8 cs
 | some (.arr _ _ _ es)=>xL 8 es
 | none=>[]
@[go_sem] theorem Wo (cs : List D) : Gy (some (.box cs)) = xL 8 cs := (rfl)
@[go_sem] theorem Wp (sz ep : Nat) (pin : Bool) (es : List D) : Gy (some (.arr sz pin ep es)) = xL 8 es := (rfl)
@[go_sem] theorem Z2 : kK H [] = [] := (rfl)
@[go_sem] theorem Wq (i : Nat) (r : List Nat) : kK H (i :: r) = Gy H[i]? ++ kK H r := by
 simp only[kK,List.flatMap_cons]
 congr 1
 cases H[i]? with
 | none=>rfl
 | some o=>cases o<;>rfl
@[go_sem] theorem afz (sel : List Nat) : reach H 0 sel = sel := (rfl)
@[go_sem] theorem afA (n : Nat) (sel : List Nat) : reach H (n + 1) sel = reach H n (ed sel (kK H sel)) := (rfl)
@[go_sem] theorem acW : pick H [] = some [] := (rfl)
def Z3(r:List Nat)(o:Obj):Option af:=kv o (pick H r)
@[go_sem] theorem NI (r : List Nat) (o : Obj) : Z3 H r o = kv o (pick H r) := (rfl)
@[go_sem] theorem Ke (i : Nat) (r : List Nat) : pick H (i :: r) = H[i]?.bind (Z3 H r) := (rfl)
end
section
variable (f : Nat → Option Nat) (n : Nat)
@[go_sem] theorem afB (x : T) : ren f n (.t x) = some (.t x) := by cases n <;> rfl
@[go_sem] theorem afC : ren f n .nil = some .nil := by cases n <;> rfl
@[go_sem] theorem acX : ren f n .nilp = some .nilp := by cases n <;> rfl
@[go_sem] theorem afD : ren f n .und = some .und := by cases n <;> rfl
@[go_sem] theorem ahb (cs : List T) : ren f n (.ep cs) = some (.ep cs) := by cases n <;> rfl
def ahc(off:Nat)(i:Nat):D:= .bp i off
@[go_sem] theorem afE (off i : Nat) : ahc off i = .bp i off := (rfl)
@[go_sem] theorem Z4 (id off : Nat) : ren f n (.bp id off) = (f id).map (ahc off) := by cases n <;> rfl
def ahd(ep m i off:Nat)(j:Nat):D:= .ap j ep m i off
@[go_sem] theorem afF (ep m i off j : Nat) : ahd ep m i off j = .ap j ep m i off := (rfl)
@[go_sem] theorem ahe (id ep m i off : Nat) : ren f n (.ap id ep m i off) = (f id).map (ahd ep m i off) := by cases n <;> rfl
def Z5(ep m:Nat)(j:Nat):D:= .ref j ep m
@[go_sem] theorem acY (ep m j : Nat) : Z5 ep m j = .ref j ep m := (rfl)
@[go_sem] theorem afG (id ep m : Nat) : ren f n (.ref id ep m) = (f id).map (Z5 ep m) := by cases n <;> rfl
def Z6(ep m lo hi:Nat)(j:Nat):D:= .sub j ep m lo hi
@[go_sem] theorem acZ (ep m lo hi j : Nat) : Z6 ep m lo hi j = .sub j ep m lo hi := (rfl)
@[go_sem] theorem afH (id ep m lo hi : Nat) : ren f n (.sub id ep m lo hi) = (f id).map (Z6 ep m lo hi) := by cases n <;> rfl
@[go_sem] theorem Z7 (g : Nat) (cs : List D) : ren f (n + 1) (.fn g cs) = (bW (ren f n) cs).map (.fn g) := (rfl)
@[go_sem] theorem afI (cs : List D) : ren f (n + 1) (.agg cs) = (bW (ren f n) cs).map .agg := (rfl)
@[go_sem] theorem afJ (cs : List D) : ren f (n + 1) (.tup cs) = (bW (ren f n) cs).map .tup := (rfl)
@[go_sem] theorem ru (ts : List T) : bW (ren f n) (ts.map .t) = some (ts.map .t) := by
 induction ts with
 | nil=>rfl
 | cons t ts ih=>rw[List.map_cons,CT,afB,Option.bind_some,R5,ih];rfl
@[go_sem] theorem PX (m : Nat) (x : T) : bW (ren f n) (List.replicate m (.t x)) = some (List.replicate m (.t x)) := by
 have:List.replicate m (D.t x)=(List.replicate m x).map .t:=by simp
 rw[this,ru]
@[go_sem] theorem HK (cs : List D) : gN f (.box cs) = (bW (ren f 8) cs).map .box := (rfl)
@[go_sem] theorem Ws (sz ep : Nat) (pin : Bool) (es : List D) : gN f (.arr sz pin ep es) = (bW (ren f 8) es).map (.arr sz pin ep) := (rfl)
end
def Wt(x:Option Nat):Bool→Option Nat
 | true=>some 0
 | false=>x.map (· +1)
@[go_sem] theorem ahf (x : Option Nat) : Wt x true = some 0 := (rfl)
@[go_sem] theorem ahg (k : Nat) : Wt (some k) false = some (k + 1) := (rfl)
@[go_sem] theorem ahh : Wt none false = none := (rfl)
@[go_sem] theorem idxOf_nil (i : Nat) : idxOf [] i = none := (rfl)
@[go_sem] theorem idxOf_cons (j i : Nat) (r : List Nat) : idxOf (j :: r) i = Wt (idxOf r i) (eqB j i) := by
 simp only[idxOf,EM]
 by_cases h:j=i
 · simp[h,Wt]
 · simp[h,Wt]
@[go_sem] theorem Wu (n i : Nat) : eE [] n i = some (n + i) := by simp [eE]
@[go_sem] theorem ac0 (j n : Nat) (r : List Nat) : eE (j :: r) n 0 = some j := by simp [eE]
@[go_sem] theorem ac1 (j n i : Nat) (r : List Nat) : eE (j :: r) n (i + 1) = eE r n i := by
 simp only[eE,List.length_cons,Nat.add_lt_add_iff_right,List.getElem?_cons_succ,Nat.add_sub_add_right]
@[go_sem] theorem SJ {α : Type} (H os : List α) : dr H [] os = H := by cases os <;> rfl
@[go_sem] theorem PY {α : Type} (H : List α) (i : Nat) (r : List Nat) (o : α) (os : List α) : dr H (i :: r) (o :: os) = dr (H.set i o) r os := (rfl)
def lbP(sz:Nat)(p:List D×af):List D×af:=(p.1,.arr sz false 0 []::p.2)
@[go_sem] theorem ahi (sz : Nat) (cs : List D) (os : af) : lbP sz (cs, os) = (cs, .arr sz false 0 [] :: os) := (rfl)
def lbC(base:Nat)(cs:List D)(off sz:Nat)(r:List (Nat×Nat)):Option D→List D×af
 | some .nil=>lbP sz (bS (base+1) (cs.set off (.ref base 0 0)) r)
 | _=>bS base cs r
@[go_sem] theorem afK (base : Nat) (cs : List D) (off sz : Nat) (r : List (Nat × Nat)) : lbC base cs off sz r (some .nil) = lbP sz (bS (base + 1) (cs.set off (.ref base 0 0)) r) := (rfl)
@[go_sem] theorem aid (base : Nat) (cs : List D) (off sz : Nat) (r : List (Nat × Nat)) (x : T) : lbC base cs off sz r (some (.t x)) = bS base cs r := (rfl)
@[go_sem] theorem afL (base : Nat) (cs : List D) (off sz : Nat) (r : List (Nat × Nat)) (a b c : Nat) : lbC base cs off sz r (some (.ref a b c)) = bS base cs r := (rfl)
@[go_sem] theorem PZ (base : Nat) (cs : List D) (off sz : Nat) (r : List (Nat × Nat)) : bS base cs ((off, sz) :: r) = lbC base cs off sz r cs[off]? := by
 simp only[bS,lbC]
 split<;>split<;>simp_all [lbP]
def lvP(H:af)(id:Nat)(p:List D×af):Option (D×af):=some (.tup [],H.set id (.box p.1)++p.2)
@[go_sem] theorem ahj (H : af) (id : Nat) (cs : List D) (os : af) : lvP H id (cs, os) = some (.tup [], H.set id (.box cs) ++ os) := (rfl)
def lvB(H:af)(id:Nat)(l:List (Nat×Nat)):Option Obj→Option (D×af)
 | some (.box cs)=>lvP H id (bS H.length cs l)
 | _=>none
@[go_sem] theorem ahk (H : af) (id : Nat) (l : List (Nat × Nat)) (cs : List D) : lvB H id l (some (.box cs)) = lvP H id (bS H.length cs l) := (rfl)
@[go_sem] theorem SK (H : af) (id : Nat) (x : Nat × Nat) (r : List (Nat × Nat)) : Ax H id (x :: r) = lvB H id (x :: r) H[id]? := by
 simp only[Ax,oQ]
 generalize H[id]?=o
 rcases o with _ | (cs | _)
 · rfl
 · rfl
 · rfl
section
variable (H : af)
def klE(n:Nat)(sel new:List Nat)(os:af)(q:List Nat×af):Option (List Nat×af):=some (new++q.1,os++q.2)
@[go_sem] theorem ahl (n : Nat) (sel new : List Nat) (os : af) (a : List Nat) (b : af) : klE n sel new os (a, b) = some (new ++ a, os ++ b) := (rfl)
def klD(n:Nat)(sel new:List Nat)(os:af):Option (List Nat×af):=(kL H n (sel++new) (kK H new)).bind (klE n sel new os)
@[go_sem] theorem ahm (n : Nat) (sel new : List Nat) (os : af) : klD H n sel new os = (kL H n (sel ++ new) (kK H new)).bind (klE n sel new os) := (rfl)
def xh(sel:List Nat):List Nat→Bool
 | []=>true
 | i::r=> !Ea i sel&&xh sel r
@[go_sem] theorem Wv (sel : List Nat) : xh sel [] = true := (rfl)
@[go_sem] theorem SL (sel : List Nat) (i : Nat) (r : List Nat) : xh sel (i :: r) = (!Ea i sel && xh sel r) := (rfl)
theorem CZ(sel l:List Nat):l.all (fun i=> !sel.contains i)=xh sel l:=by
 induction l with
 | nil=>rfl
 | cons i r ih=>rw[List.all_cons,ih,Bp];rfl
def klC(n:Nat)(sel new:List Nat)(os:af):Option (List Nat×af):=
 (if n=0 then(if(os.flatMap fun o=>o.ds.flatMap (eZ H depth)).all (fun i=> !(sel++new).contains i)then bW (eu H) os else none)else some os).bind (klD H n sel new)
def uz:af→List Nat
 | []=>[]
 | .box cs::r=>rK H 8 cs++uz r
 | .arr _ _ _ es::r=>rK H 8 es++uz r
@[go_sem] theorem Ww : uz H [] = [] := (rfl)
@[go_sem] theorem Wx (cs : List D) (r : af) : uz H (.box cs :: r) = rK H 8 cs ++ uz H r := (rfl)
@[go_sem] theorem Wy (sz ep : Nat) (pin : Bool) (es : List D) (r : af) : uz H (.arr sz pin ep es :: r) = rK H 8 es ++ uz H r := (rfl)
theorem Kf(os:af):(os.flatMap fun o=>o.ds.flatMap (eZ H depth))=uz H os:=by
 induction os with
 | nil=>rfl
 | cons o r ih=>rw[List.flatMap_cons,ih];cases o<;>rfl
@[go_sem] theorem aie (sel new : List Nat) (os : af) : klC H 0 sel new os = (if xh (sel ++ new) (uz H os) = true then bW (eu H) os else none).bind (klD H 0 sel new) := by
 simp only[klC,Kf,CZ,if_true]
@[go_sem] theorem aif (n : Nat) (sel new : List Nat) (os : af) : klC H (n + 1) sel new os = klD H (n + 1) sel new os := by
 simp[klC]
def klN(n:Nat)(sel new:List Nat):Option (List Nat×af):=(pick H new).bind (klC H n sel new)
@[go_sem] theorem ahn (n : Nat) (sel new : List Nat) : klN H n sel new = (pick H new).bind (klC H n sel new) := (rfl)
@[go_sem] theorem ac2 (sel front : List Nat) : kL H 0 sel front = some ([], []) := (rfl)
@[go_sem] theorem ac3 (n : Nat) (sel front : List Nat) : kL H (n + 1) sel front = klN H n sel ((ed sel front).drop sel.length) := by
 simp only[kL,klN]
 generalize (ed sel front).drop sel.length=new
 cases pick H new with
 | none=>rfl
 | some os=>
   simp only[Option.bind_some,klC]
   congr 1
   funext os'
   simp only[klD]
   cases kL H n (sel++new) (kK H new)<;>rfl
@[go_sem] theorem NJ (cs : List D) : eu H (.box cs) = (bW (sD H) cs).map .box := (rfl)
@[go_sem] theorem Bq (sz ep : Nat) (pin : Bool) (ts : List T) : eu H (.arr sz pin ep (ts.map .t)) = some (.arr sz pin ep (ts.map .t)) := by
 simp only[eu,uy,Option.map_some]
@[go_sem] theorem NK (sz ep : Nat) (pin : Bool) : eu H (.arr sz pin ep []) = some (.arr sz pin ep []) := (rfl)
@[go_sem] theorem NL (sz ep : Nat) (pin : Bool) (m : Nat) (x : T) : eu H (.arr sz pin ep (List.replicate m (.t x))) = some (.arr sz pin ep (List.replicate m (.t x))) := by
 have:List.replicate m (D.t x)=(List.replicate m x).map .t:=by simp
 rw[this,Bq]
def afM(k raw:Nat)(H:af)(ds rs:List D)(q:List Nat×af):Option (D×af):=
 if xh (List.range k++q.1) (iZ H raw ds)=true then
  (bW (ren (idxOf (List.range k++q.1)) depth) rs).bind fun rs'=>(bW (gN (idxOf (List.range k++q.1))) (H.take k++q.2)).map fun hs'=>(vG rs',hs')
 else none
def Kg(sel:List Nat)(H2:af)(rs':List D):Option (D×af):=(bW (gN (idxOf sel)) H2).bind (finT3 rs')
where finT3 (rs':List D) (hs:af):Option (D×af):=some (vG rs',hs)
@[go_sem] theorem ac4 (rs' : List D) (hs : af) : Kg.finT3 rs' hs = some (vG rs', hs) := (rfl)
@[go_sem] theorem ac5 (sel : List Nat) (H2 : af) (rs' : List D) : Kg sel H2 rs' = (bW (gN (idxOf sel)) H2).bind (Kg.finT3 rs') := (rfl)
@[go_sem] theorem afN (k raw : Nat) (ds rs : List D) (sel : List Nat) (os : af) : afM k raw H ds rs (sel, os) =
 if xh (List.range k++sel) (iZ H raw ds)=true then(bW (ren (idxOf (List.range k++sel)) 8) rs).bind (Kg (List.range k++sel) (H.take k++os))else none:=by
 simp only[afM,depth]
 split
 · cases bW (ren (idxOf (List.range k++sel)) 8) rs with
   | none=>rfl
   | some rs'=>simp only[Option.bind_some,Kg];cases bW (gN (idxOf (List.range k++sel))) (H.take k++os)<;>rfl
 · rfl
@[go_sem] theorem afO (k raw : Nat) (ds rs : List D) : acN k raw H ds rs = (kL H (max raw 1) (List.range k) (xL 8 rs ++ kK H (List.range k))).bind (afM k raw H ds rs) := by
 simp only[acN,CZ,xL,depth];rfl
@[go_sem] theorem Wz (k raw : Nat) (ds rs : List D) : Wi k raw H ds rs false = acN k raw H ds rs := (rfl)
@[go_sem] theorem WA (k raw : Nat) (ds : List D) : finish k (raw + 1) H ds = ZN k (raw + 1) H ds ds := by
 simp only[finish,Nat.add_one_ne_zero,if_false,Option.bind_some,me,Gn,ZN,Wi]
 show(if(gv k 8 ds&&fI k (H.take k))=true then _ else _)=_
 cases (gv k 8 ds&&fI k (H.take k))<;>rfl
@[go_sem] theorem SM (raw : Nat) (ds : List D) : iZ H (raw + 1) ds = [] := by simp [iZ]
@[go_sem] theorem ac6 : max 0 1 = 1 := (rfl)
@[go_sem] theorem afP (r : Nat) : max (r + 1) 1 = r + 1 := by omega
@[go_sem] theorem WB : List.range 0 = [] := (rfl)
@[go_sem] theorem WC : List.range 1 = [0] := (rfl)
@[go_sem] theorem WD : List.range 2 = [0, 1] := (rfl)
@[go_sem] theorem WE : List.range 3 = [0, 1, 2] := (rfl)
@[go_sem] theorem WG : List.range 4 = [0, 1, 2, 3] := (rfl)
end
theorem Gz{α:Type}(f:α→T)(l:List α)(i:Nat)(x:α)(y:D)(h:y= .t (f x)):((l.map f).map D.t).set i y=((l.set i x).map f).map D.t:=by
 rw[h,List.map_map,List.map_map]
 exact(List.map_set (f:=D.t ∘ f)).symm
@[go_sem] theorem Kh (l : List Int) (i : Nat) (k : IntKind) (x : Int) : ((l.map (T.int k)).map D.t).set i (.t (.int k x)) = ((l.set i x).map (T.int k)).map D.t := Gz _ l i x _ rfl
@[go_sem] theorem x9 (l : List Bool) (i : Nat) (x : Bool) : ((l.map T.bool).map D.t).set i (.t (.bool x)) = ((l.set i x).map T.bool).map D.t := Gz _ l i x _ rfl
end Go.Ev
namespace Go.Ev
class Lib where
 fs:Nat→Option Fn
end Go.Ev
namespace Go.Ev.K
abbrev u(x:O):R:={ o:=x}
abbrev w(n:Nat)(x:O):R:={ o:=x,d:=some n}
abbrev y(n:Nat)(b:Bool)(x:O):R:={ o:=x,g:=some (n,b)}
abbrev m(x:X):R:={ o:= .mv x}
abbrev g(x:X):R:={ o:= .ld x 1 false}
abbrev h(n:Nat)(x:X):R:={ o:= .ld x n true}
abbrev f(n:Nat)(x:X):R:={ o:= .fa x n}
abbrev a(n:Nat)(x z:X):R:={ o:= .ia x z n}
abbrev l0:X:= .l 0
abbrev l1:X:= .l 1
abbrev l2:X:= .l 2
abbrev l3:X:= .l 3
abbrev l4:X:= .l 4
abbrev l5:X:= .l 5
abbrev l6:X:= .l 6
abbrev l7:X:= .l 7
abbrev l8:X:= .l 8
abbrev l9:X:= .l 9
abbrev l10:X:= .l 10
abbrev l11:X:= .l 11
abbrev v0:X:= .v 0
abbrev v1:X:= .v 1
abbrev v2:X:= .v 2
abbrev v3:X:= .v 3
abbrev v4:X:= .v 4
abbrev v5:X:= .v 5
abbrev v6:X:= .v 6
abbrev v7:X:= .v 7
abbrev v8:X:= .v 8
abbrev v9:X:= .v 9
abbrev v10:X:= .v 10
abbrev v11:X:= .v 11
abbrev v12:X:= .v 12
abbrev v13:X:= .v 13
abbrev v14:X:= .v 14
abbrev v15:X:= .v 15
abbrev v16:X:= .v 16
abbrev v17:X:= .v 17
abbrev v18:X:= .v 18
abbrev v19:X:= .v 19
abbrev v20:X:= .v 20
abbrev v21:X:= .v 21
abbrev v22:X:= .v 22
abbrev v23:X:= .v 23
end Go.Ev.K
namespace Go.Ev.N
def EO:Nat:=0
def gY:Nat:=1
def SN:Nat:=2
def jh:Nat:=3
def cL:Nat:=4
def WH:Nat:=5
def I8:Nat:=6
def Ki:Nat:=7
def b5:Nat:=8
def ax:Nat:=9
def cq:Nat:=10
def HL:Nat:=11
def gw:Nat:=12
def MB:Nat:=13
def Kj:Nat:=14
def bQ:Nat:=15
def c8:Nat:=16
def SO:Nat:=17
def P0:Nat:=18
def dt:Nat:=19
def bf:Nat:=20
def gx:Nat:=21
def dM:Nat:=22
def jw:Nat:=23
def P1:Nat:=24
def Kk:Nat:=25
def MC:Nat:=26
def MD:Nat:=27
def dE:Nat:=28
def SP:Nat:=29
def ji:Nat:=30
def SQ:Nat:=31
def WI:Nat:=32
def SR:Nat:=33
def P2:Nat:=34
def ew:Nat:=35
def dU:Nat:=36
def dV:Nat:=37
def cU:Nat:=38
def bj:Nat:=39
def gZ:Nat:=40
def dW:Nat:=41
def hU:Nat:=42
def dX:Nat:=43
def cV:Nat:=44
def gW:Nat:=45
def cW:Nat:=46
def eO:Nat:=47
def ME:Nat:=48
def aD:Nat:=49
def HM:Nat:=50
def aE:Nat:=51
def I9:Nat:=52
def dC:Nat:=53
def gy:Nat:=54
def WJ:Nat:=55
def dv:Nat:=56
def fB:Nat:=57
def dY:Nat:=58
def gz:Nat:=59
def eQ:Nat:=60
def c7:Nat:=61
def cM:Nat:=62
def gA:Nat:=63
def cE:Nat:=64
def eR:Nat:=65
def aF:Nat:=66
def bE:Nat:=67
def bR:Nat:=68
def au:Nat:=69
def aZ:Nat:=70
def dF:Nat:=71
def dZ:Nat:=72
def du:Nat:=73
def gB:Nat:=74
def aC:Nat:=75
def bX:Nat:=76
def hX:Nat:=77
end Go.Ev.N
namespace Go.Ev.K
open Go.Ev
def gY:Fn:={ nargs:=1,vars:=[0,2],body:=(.seq (.reg [w 1 (.mv (.b false))] []) (.seq (.reg [m v0,u (.ln l0),u (.bin .leq l0 (.i 400)),w 1 (.mv l0)] []) .ret)),res:=[(1,none)]}
def jh:Fn:={ nargs:=1,vars:=[0,2],body:=(.seq (.reg [w 1 (.mv (.c (.nilp)))] []) (.seq (.reg [m v0,u (.bd [.nil,.t (.int .i64 (0))] [(0,1,.l 0)]),u (.bx l0 2),w 1 (.mv l0)] []) .ret)),res:=[(1,none)]}
def iy:C:=(.seq (.ite [m v4,m v3,u (.bin .lss l1 l0)] [] 0 .skip (.exit 0)) (.seq (.blk 1 (.reg [f 0 v2,g l0,m v0,u (.ca N.ax 0 [] [.l 0,.i 4]),u (.bin .mul (.i (-10)) l0),m v4,u (.bin .eql l0 (.i 0)),m l0,y 0 false (.mv v0),y 1 false (.ca N.bQ 0 [] [.l 0,.i 6]),u (.pk l2 (.b true) l0),u (.bd [.t (.int .i64 (0)),.t (.bool false)] [(0,1,.l 6),(1,1,.l 0)]),u (.bs [.l 0] 2),u (.app l11 l0 true 2),f 0 v2,u (.st l0 l1 1 [])] [(1,4),(1,10),(1,13)])) (.reg [m v4,u (.bin .add l0 (.i 1)),w 4 (.mv l0)] [])))
def ox:C:= .loop true [5,6,7,8,9] K.iy
def jV:C:=(.seq (.ite [m v6,m v3,u (.bin .lss l1 l0)] [] 0 .skip (.exit 2)) (.seq (.blk 3 (.seq (.reg [h 10 v5,w 7 (.al [.t (.int .i64 (0)),.t (.int .i64 (0)),.t (.int .i64 (0)),.t (.int .i64 (0)),.t (.bool false),.t (.bool false),.t (.int .i64 (0)),.t (.int .i64 (0)),.t (.int .i64 (0)),.t (.int .i64 (0))] []),u (.st l0 l1 10 [])] []) (.seq (.reg [m v6,u (.bin .sub l0 (.i 1)),m v0,m v6,u (.mn [.l 0,.i 2]),u (.ca N.ax 0 [] [.l 2,.l 0]),u (.bin .sub l4 l0),m v6,m v0,u (.bs [.i 11,.i 59,.i 119,.i 4] 1),u (.ca N.cq 0 [] [.l 1,.l 0]),u (.bin .add (.i 1) l0),m v0,u (.bs [.i 9,.i 3,.i 19] 1),u (.ca N.cq 0 [] [.l 1,.l 0]),u (.bin .add (.i 1) l0),f 0 v7,u (.st l0 l10 1 []),f 1 v7,u (.st l0 l11 1 []),f 2 v7,u (.st l0 l9 1 []),f 3 v7,u (.st l0 l7 1 [])] []) (.reg [f 1 v2,g l0,h 10 v7,u (.bs [.l 0] 10),u (.app l2 l0 true 10),f 1 v2,u (.st l0 l1 1 [])] [])))) (.reg [m v6,u (.bin .add l0 (.i 1)),w 6 (.mv l0)] [])))
def oy:C:= .loop true [4,7,8,9] K.jV
def dG:C:=(.seq (.ite [m v8,u (.bin .gtr l0 (.i 0)),m l0,y 0 true (.fa v2 1),y 1 true (.ld l0 1 false),y 2 true (.ln l0),y 3 true (.bin .lss l0 (.i 10)),u (.pk l4 l0 (.b false))] [] 0 .skip (.exit 4)) (.seq (.blk 5 (.seq (.reg [h 10 v5,w 9 (.al [.t (.int .i64 (0)),.t (.int .i64 (0)),.t (.int .i64 (0)),.t (.int .i64 (0)),.t (.bool false),.t (.bool false),.t (.int .i64 (0)),.t (.int .i64 (0)),.t (.int .i64 (0)),.t (.int .i64 (0))] []),u (.st l0 l1 10 [])] []) (.seq (.reg [m v0,m v3,u (.ca N.ax 0 [] [.l 1,.l 0]),m v0,m v3,u (.ca N.ax 0 [] [.l 1,.l 0]),m v0,u (.bs [.i 11,.i 59,.i 199] 1),u (.ca N.cq 0 [] [.l 1,.l 0]),u (.bin .add (.i 1) l0),m v0,u (.bs [.i 9,.i 3] 1),u (.ca N.cq 0 [] [.l 1,.l 0]),u (.bin .add (.i 1) l0),f 0 v9,u (.st l0 (.l 12) 1 []),f 1 v9,u (.st l0 l11 1 []),f 2 v9,u (.st l0 l9 1 []),f 3 v9,u (.st l0 l7 1 [])] []) (.seq (.reg [m v0,u (.ca N.ax 0 [] [.l 0,.i 5]),u (.bin .gtr l0 (.i 0)),m v0,u (.ca N.bQ 0 [] [.l 0,.i 6]),f 4 v9,u (.st l0 l3 1 []),f 5 v9,u (.st l0 l3 1 [])] []) (.ite [f 0 v9,g l0,f 1 v9,g l0,u (.bin .neq l2 l0)] [] 0 (.reg [f 1 v2,g l0,h 10 v9,u (.bs [.l 0] 10),u (.app l2 l0 true 10),f 1 v2,u (.st l0 l1 1 [])] []) .skip))))) (.reg [m v8,u (.bin .sub l0 (.i 1)),w 8 (.mv l0)] [])))
def oz:C:= .loop true [4,6,7,9] K.dG
def cL:Fn:={ nargs:=1,vars:=[0,2,3,4,5,6,7,8,9,10],body:=(.seq (.reg [w 1 (.al [.nil,.nil] [])] []) (.seq (.reg [w 2 (.al [.nil,.nil] [(0,2),(1,10)])] []) (.seq (.reg [m v0,u (.ca N.ax 0 [] [.l 0,.i 6]),u (.bin .add (.i 2) l0),w 3 (.mv l0)] []) (.seq (.ite [m v0,u (.nc l0),f 0 l0,g l0,u (.ln l0),u (.bin .eql l0 (.i 0))] [] 0 (.reg [w 3 (.mv (.i 4))] []) .skip) (.seq (.seq (.reg [w 4 (.mv (.i 0))] []) (.blk 0 K.ox)) (.seq (.reg [u (.bd [.t (.int .i64 (0)),.t (.int .i64 (0))] [(0,1,.i 1),(1,1,.i 1)]),u (.bd [.t (.int .i64 (0)),.t (.int .i64 (0)),.t (.int .i64 (0)),.t (.int .i64 (0)),.t (.bool false),.t (.bool false),.t (.int .i64 (0)),.t (.int .i64 (0)),.t (.int .i64 (0)),.t (.int .i64 (0))] [(2,1,.i 12),(3,1,.i 10),(4,1,.b true),(6,2,.l 0)]),w 5 (.al [.t (.int .i64 (0)),.t (.int .i64 (0)),.t (.int .i64 (0)),.t (.int .i64 (0)),.t (.bool false),.t (.bool false),.t (.int .i64 (0)),.t (.int .i64 (0)),.t (.int .i64 (0)),.t (.int .i64 (0))] []),u (.st l0 l1 10 [])] []) (.seq (.seq (.reg [w 6 (.mv (.i 1))] []) (.blk 2 K.oy)) (.seq (.seq (.reg [m v0,u (.ca N.ax 0 [] [.l 0,.i 4]),w 8 (.mv l0)] []) (.blk 4 K.oz)) (.seq (.reg [h 2 v2,u (.st v1 l0 2 [])] []) .ret))))))))),res:=[(1,some (2,true))]}
def i5:C:=(.seq (.ite [m v7,m v4,u (.bin .lss l1 l0)] [] 0 .skip (.exit 0)) (.seq (.blk 1 (.reg [m v5,m v7,u (.bin .mul l0 (.i 2)),u (.bin .add (.i 3) l0),u (.bs [.l 0] 1),u (.app l4 l0 true 1),m v6,m v0,f 0 v2,g l0,u (.ln l0),u (.ca N.ax 0 [] [.l 3,.l 0]),u (.bs [.l 0] 1),u (.app l6 l0 true 1),w 5 (.mv l8),w 6 (.mv l1)] [(9,0),(9,5)])) (.reg [m v7,u (.bin .add l0 (.i 1)),w 7 (.mv l0)] [])))
def mz:C:= .loop true [1,8,9,10,11,12,13,14,15,16,17] K.i5
def bk:C:=(.seq (.ite [m v10,u (.bin .gtr l0 (.i 0))] [] 0 .skip (.exit 2)) (.seq (.blk 3 (.seq (.reg [m v9,m v0,u (.ca N.ax 0 [] [.l 0,.i 60]),u (.bin .add l2 l0),w 9 (.mv l0)] []) (.seq (.reg [m v0,w 17 (.ca N.ax 0 [] [.l 0,.i 3])] []) (.blk 4 (.ite [u (.bin .eql v17 (.i 0)),m l0] [] 0 (.seq (.reg [w 11 (.al [.nil] []),h 2 v2,h 1 v8,m v0,m v4,u (.ca N.ax 0 [] [.l 1,.l 0]),m v0,m v4,u (.ca N.ax 0 [] [.l 1,.l 0]),m v9,u (.ca N.bf 0 [] [.l 8,.l 7,.l 4,.l 1,.l 0]),m l0,u (.ex l0 0),u (.ex l1 1),u (.st (.l 13) l1 1 []),w 12 (.mv l1)] [(0,6),(0,9),(0,11),(1,6),(1,9),(2,6),(2,9)]) (.ite [m v12,u (.bin .eql l0 (.i 0))] [] 0 (.reg [h 1 v11,u (.st v8 l0 1 [])] []) .skip)) (.ite [u (.bin .eql v17 (.i 1)),m l0] [] 0 (.seq (.reg [w 13 (.al [.nil] []),h 2 v2,h 1 v8,m v0,m v4,u (.ca N.ax 0 [] [.l 1,.l 0]),u (.bin .mul (.i 2) l0),u (.bin .add (.i 3) l0),m v0,f 0 v2,g l0,u (.ln l0),u (.ca N.c8 0 [] [.l 3,.l 0]),m v9,m v9,m v0,u (.ca N.ax 0 [] [.l 0,.i 9]),u (.bin .add l2 l0),u (.ca N.gx 0 [] [.l 16,.l 15,.l 10,.l 5,.l 4,.l 0]),m l0,u (.ex l0 0),u (.ex l1 1),u (.st (.l 21) l1 1 []),w 14 (.mv l1)] [(0,6),(0,13),(0,17),(0,19),(1,6),(1,13),(1,17),(2,6),(2,13),(2,17),(10,1)]) (.ite [m v14,u (.bin .eql l0 (.i 0))] [] 0 (.reg [h 1 v13,u (.st v8 l0 1 [])] []) .skip)) (.seq (.reg [w 15 (.al [.nil] []),h 2 v2,h 1 v8,m v0,m v4,u (.ca N.ax 0 [] [.l 1,.l 0]),u (.bin .mul (.i 2) l0),u (.bin .add (.i 3) l0),m v0,f 0 v2,g l0,u (.ln l0),u (.ca N.c8 0 [] [.l 3,.l 0]),m v9,m v9,u (.bin .add l0 (.i 50)),m v0,u (.ca N.ax 0 [] [.l 0,.i 40]),u (.ca N.dM 0 [3] [.l 16,.l 15,.l 10,.l 5,.l 4,.l 2,.l 0]),m l0,u (.ex l0 0),u (.ex l1 1),u (.st (.l 21) l1 1 []),w 16 (.mv l1)] [(0,6),(0,13),(0,18),(0,19),(1,6),(1,13),(1,18),(2,6),(2,13),(2,18),(10,1)]) (.ite [m v16,u (.bin .eql l0 (.i 0))] [] 0 (.reg [h 1 v15,u (.st v8 l0 1 [])] []) .skip)))))))) (.reg [m v10,u (.bin .sub l0 (.i 1)),w 10 (.mv l0)] [])))
def mA:C:= .loop true [1,5,6,7,11,12,13,14,15,16,17] K.bk
def b5:Fn:={ nargs:=2,vars:=[0,1,3,4,5,6,7,8,9,11,12,13,14,15,16,17,18,61],body:=(.seq (.reg [w 2 (.bx v1 2),w 3 (.al [.nil] [])] []) (.seq (.reg [m v0,u (.ca N.ax 0 [] [.l 0,.i 3]),u (.bin .add (.i 1) l0),w 4 (.mv l0)] []) (.seq (.reg [w 5 (.nw 1),w 6 (.nw 1)] []) (.seq (.seq (.reg [w 7 (.mv (.i 0))] []) (.blk 0 K.mz)) (.seq (.reg [w 8 (.al [.nil] []),h 2 v2,m v5,m v6,m v0,u (.ca N.ax 0 [] [.l 0,.i 100]),u (.ca N.dt 0 [] [.l 4,.l 3,.l 2,.l 0]),m l0,u (.ex l0 0),u (.ex l1 1),u (.st l9 l1 1 []),m l1] [(0,6),(0,7),(1,6)]) (.seq (.reg [w 9 (.mv (.i 100))] []) (.seq (.seq (.reg [m v0,u (.ca N.ax 0 [] [.l 0,.i 5]),w 10 (.mv l0)] []) (.blk 2 K.mA)) (.seq (.reg [h 1 v8,u (.st v3 l0 1 [])] []) .ret)))))))),res:=[(3,some (1,true))]}
def ax:Fn:={ nargs:=2,vars:=[0,1,4],body:=(.seq (.reg [w 2 (.mv (.i 0))] []) (.seq (.ite [m v0,u (.nc l0),f 1 l0,g l0,m v0,u (.nc l0),f 0 l0,g l0,u (.ln l0),u (.bin .geq l5 l0)] [] 0 (.seq (.reg [w 2 (.mv (.i 0))] []) .ret) .skip) (.seq (.reg [m v0,u (.nc l0),f 1 l0,g l0,u (.bin .add l0 (.i 1)),u (.nc l4),f 1 l0,u (.st l0 l2 1 [])] []) (.seq (.reg [m v0,u (.nc l0),f 0 l0,g l0,m v0,u (.nc l0),f 1 l0,g l0,u (.bin .sub l0 (.i 1)),a 1 l5 l0,g l0,m v1,u (.ca N.jw 0 [] [.l 1,.l 0]),w 2 (.mv l0)] []) .ret)))),res:=[(2,none)]}
def cq:Fn:={ nargs:=2,vars:=[0,1,4],body:=(.seq (.reg [w 2 (.mv (.i 0))] []) (.seq (.reg [m v1,m v0,m v1,u (.ln l0),u (.ca N.ax 0 [] [.l 2,.l 0]),a 1 l4 l0,g l0,w 2 (.mv l0)] []) .ret)),res:=[(2,none)]}
def lT:C:=(.seq (.ite [m v3,m v0,u (.ln l0),u (.bin .lss l2 l0)] [] 0 .skip (.exit 0)) (.seq (.blk 1 (.ite [m v0,m v3,a 1 l1 l0,g l0,m v1,u (.bin .eql l1 l0)] [] 0 (.seq (.reg [w 2 (.mv (.b true))] []) .ret) .skip)) (.reg [m v3,u (.bin .add l0 (.i 1)),w 3 (.mv l0)] [])))
def xi:C:= .loop true [2] K.lT
def gw:Fn:={ nargs:=2,vars:=[0,1,4,5],body:=(.seq (.reg [w 2 (.mv (.b false))] []) (.seq (.seq (.reg [w 3 (.mv (.i 0))] []) (.blk 0 K.xi)) (.seq (.reg [w 2 (.mv (.b false))] []) .ret))),res:=[(2,none)]}
def bQ:Fn:={ nargs:=2,vars:=[0,1,4],body:=(.seq (.reg [w 2 (.mv (.b false))] []) (.seq (.reg [m v0,m v1,u (.ca N.ax 0 [] [.l 1,.l 0]),m v1,u (.bin .sub l0 (.i 1)),u (.bin .eql l2 l0),w 2 (.mv l0)] []) .ret)),res:=[(2,none)]}
def iz:C:=(.seq (.ite [m v4,m v1,u (.bin .lss l1 l0)] [] 0 .skip (.exit 0)) (.seq (.blk 1 (.ite [m v0,u (.ca N.ax 0 [] [.l 0,.i 3]),u (.bin .eql l0 (.i 0))] [] 0 (.reg [m v3,m v4,u (.bs [.l 0] 1),u (.app l2 l0 true 1),w 3 (.mv l0)] []) .skip)) (.reg [m v4,u (.bin .add l0 (.i 1)),w 4 (.mv l0)] [])))
def oA:C:= .loop true [2] K.iz
def c8:Fn:={ nargs:=2,vars:=[0,1,4,5,6],body:=(.seq (.reg [w 2 (.mv (.c (.nil)))] []) (.seq (.reg [w 3 (.nw 1)] []) (.seq (.seq (.reg [w 4 (.mv (.i 0))] []) (.blk 0 K.oA)) (.seq (.reg [m v3,w 2 (.mv l0)] []) .ret)))),res:=[(2,none)]}
def jW:C:=(.seq (.ite [m v8,m v1,u (.ln l0),u (.bin .lss l2 l0)] [] 0 .skip (.exit 0)) (.seq (.blk 1 (.seq (.reg [w 9 (.al [.t (.int .i64 (0)),.nil] []),h 2 v4,m v2,m v8,a 1 l1 l0,g l0,m v3,u (.ca N.dU 0 [] [.l 5,.l 1,.l 0]),m l0,u (.ex l0 0),u (.ex l1 1),u (.st l10 l1 2 []),w 10 (.mv l1)] [(0,8)]) (.seq (.ite [m v10,u (.bin .neq l0 (.i 0))] [] 0 (.seq (.reg [u (.bd [.nil] []),m v10,u (.st v5 l1 1 []),w 6 (.mv l1)] []) .ret) .skip) (.reg [f 1 v7,g l0,h 2 v9,u (.bs [.l 0] 2),u (.app l2 l0 true 2),f 1 v7,u (.st l0 l1 1 [])] [])))) (.reg [m v8,u (.bin .add l0 (.i 1)),w 8 (.mv l0)] [])))
def sg:C:= .loop true [0,6,9,10] K.jW
def dt:Fn:={ nargs:=4,vars:=[0,1,2,3,4,8,9,10,11,12,13],body:=(.seq (.reg [w 4 (.bx v0 2),w 5 (.al [.nil] []),w 6 (.mv (.i 0))] []) (.seq (.ite [h 2 v4,u (.ca N.dE 0 [] [.l 0]),u (.bin .neq l0 (.i 0)),m l0,y 0 false (.mv v1),y 1 false (.ln l0),y 2 false (.mv v2),y 3 false (.ln l0),y 4 false (.bin .neq l2 l0),u (.pk l5 (.b true) l0),m l0,y 0 false (.mv v1),y 1 false (.ln l0),y 2 false (.bin .lss l0 (.i 1)),u (.pk l3 (.b true) l0),m l0,y 0 false (.mv v1),y 1 false (.ln l0),y 2 false (.bin .gtr l0 (.i 12)),u (.pk l3 (.b true) l0)] [] 0 (.seq (.reg [u (.bd [.nil] []),u (.st v5 l0 1 []),w 6 (.mv (.i 6))] []) .ret) .skip) (.seq (.ite [m v1,u (.ca N.ew 0 [] [.l 0]),u (.un .not l0)] [] 0 (.seq (.reg [u (.bd [.nil] []),u (.st v5 l0 1 []),w 6 (.mv (.i 41))] []) .ret) .skip) (.seq (.reg [m v1,u (.app (.c (.nil)) l0 true 1),u (.bd [.nil,.nil] [(0,1,.l 0)]),w 7 (.al [.nil,.nil] [(1,2)]),u (.st l0 l1 2 [(1,2)])] []) (.seq (.seq (.reg [w 8 (.mv (.i 0))] []) (.blk 0 K.sg)) (.seq (.reg [h 2 v7,u (.bs [.l 0] 2),u (.bd [.nil] [(0,1,.l 0)]),u (.st v5 l0 1 []),w 6 (.mv (.i 0))] []) .ret)))))),res:=[(5,some (1,true)),(6,none)]}
def fO:C:=(.seq (.ite [m v11,f 0 v6,g l0,u (.ln l0),u (.bin .lss l3 l0)] [] 0 .skip (.exit 0)) (.seq (.blk 1 (.seq (.reg [f 0 v6,g l0,m v11,a 2 l1 l0,h 2 l0,u (.ca N.bj 1 [] [.l 0]),w 12 (.al [.nil,.nil] []),u (.st l0 l1 2 [])] []) (.seq (.ite [f 1 v12,g l0,m v2,a 2 l1 l0,h 2 l0,f 1 v12,g l0,m v3,a 2 l1 l0,h 2 l0,m v4,u (.ca N.gZ 0 [] [.l 6,.l 1,.l 0]),u (.un .not l0)] [] 0 (.exit 1) .skip) (.seq (.reg [f 0 v12,g l0,m v2,f 0 v12,g l0,m v3,f 0 v12,g l0,m v3,a 1 l1 l0,g l0,f 0 v12,g l0,m v2,a 1 l1 l0,g l0,a 1 (.l 14) (.l 13),u (.st l0 l6 1 []),a 1 (.l 13) (.l 12),u (.st l0 l3 1 [])] [(4,18)]) (.seq (.reg [f 1 v12,g l0,m v2,f 1 v12,g l0,m v2,a 2 l1 l0,h 2 l0,m v4,u (.ca N.dW 0 [] [.l 1,.l 0]),m l0,u (.ex l0 0),u (.ex l1 1),a 2 l11 l10,u (.st l0 l2 2 [])] [(1,10)]) (.seq (.reg [f 1 v12,g l0,m v3,f 1 v12,g l0,m v3,a 2 l1 l0,h 2 l0,m v4,u (.ca N.dW 0 [] [.l 1,.l 0]),m l0,u (.ex l0 0),u (.ex l1 1),a 2 l11 l10,u (.st l0 l2 2 [])] [(1,10)]) (.reg [m v10,h 2 v12,u (.bs [.l 0] 2),u (.app l2 l0 true 2),w 10 (.mv l0)] []))))))) (.reg [m v11,u (.bin .add l0 (.i 1)),w 11 (.mv l0)] [])))
def oB:C:= .loop true [0,1,5,8,9,12] K.fO
def bf:Fn:={ nargs:=5,vars:=[0,1,2,3,4,5,6,10,11,12,13,14,15],body:=(.seq (.reg [w 5 (.bx v0 2),w 6 (.bx v1 1),w 7 (.al [.nil] []),w 8 (.mv (.i 0))] []) (.seq (.reg [h 1 v6,u (.ca N.dV 0 [] [.l 0]),u (.st v6 l0 1 [])] []) (.seq (.ite [h 2 v5,h 1 v6,u (.ca N.cU 0 [] [.l 1,.l 0]),u (.un .not l0)] [] 0 (.seq (.reg [h 1 v6,u (.st v7 l0 1 []),w 8 (.mv (.i 6))] []) .ret) .skip) (.seq (.reg [f 0 v6,g l0,a 2 l0 (.i 0),f 0 l0,g l0,u (.ln l0),w 9 (.mv l0)] []) (.seq (.ite [m v2,u (.bin .lss l0 (.i 0)),m l0,y 0 false (.mv v2),y 1 false (.mv v9),y 2 false (.bin .geq l1 l0),u (.pk l3 (.b true) l0),m l0,y 0 false (.mv v3),y 1 false (.bin .lss l0 (.i 0)),u (.pk l2 (.b true) l0),m l0,y 0 false (.mv v3),y 1 false (.mv v9),y 2 false (.bin .geq l1 l0),u (.pk l3 (.b true) l0),m l0,y 0 false (.mv v2),y 1 false (.mv v3),y 2 false (.bin .eql l1 l0),u (.pk l3 (.b true) l0)] [] 0 (.seq (.reg [h 1 v6,u (.st v7 l0 1 []),w 8 (.mv (.i 19))] []) .ret) .skip) (.seq (.ite [m v4,u (.bin .lss l0 (.i 0)),m l0,y 0 false (.mv v4),y 1 false (.bin .gtr l0 (.i 2147483648)),u (.pk l2 (.b true) l0)] [] 0 (.seq (.reg [h 1 v6,u (.st v7 l0 1 []),w 8 (.mv (.i 8))] []) .ret) .skip) (.seq (.reg [h 1 v6,u (.ca N.dV 1 [] [.l 0]),u (.fl l0 0 1 false),w 10 (.mv l0)] []) (.seq (.seq (.reg [w 11 (.mv (.i 0))] []) (.blk 0 K.oB)) (.seq (.reg [m v10,u (.ca N.hU 1 [] [.l 0]),w 10 (.mv l0)] []) (.seq (.ite [m v10,u (.ln l0),u (.bin .gtr l0 (.i 24))] [] 0 (.seq (.reg [h 1 v6,u (.st v7 l0 1 []),w 8 (.mv (.i 44))] []) .ret) .skip) (.seq (.reg [m v10,u (.bd [.nil] [(0,1,.l 0)]),u (.st v7 l0 1 []),w 8 (.mv (.i 0))] []) .ret))))))))))),res:=[(7,some (1,true)),(8,none)]}
def ef:C:=(.seq (.ite [m v12,f 0 v7,g l0,u (.ln l0),u (.bin .lss l3 l0)] [] 0 .skip (.exit 0)) (.seq (.blk 1 (.seq (.reg [f 0 v7,g l0,m v12,a 2 l1 l0,h 2 l0,u (.ca N.bj 1 [] [.l 0]),w 13 (.al [.nil,.nil] []),u (.st l0 l1 2 [])] []) (.seq (.reg [f 0 v13,g l0,m v2,u (.ca N.cV 0 [] [.l 1,.l 0]),w 14 (.mv l0)] []) (.seq (.reg [w 15 (.al [.t (.int .i64 (0)),.nil] []),h 2 v6,f 1 v13,g l0,m v14,a 2 l1 l0,h 2 l0,m v3,m v4,m v5,u (.ca N.gW 0 [] [.l 8,.l 3,.l 2,.l 1,.l 0]),m l0,u (.ex l0 0),u (.ex l1 1),u (.st (.l 13) l1 2 []),w 16 (.mv l1)] [(0,11)]) (.seq (.seq (.reg [w 17 (.mv v16)] []) (.blk 2 (.seq (.seq (.reg [u (.bin .eql v17 (.i 6)),w 18 (.mv l0)] []) (.itv 18 .skip (.reg [u (.bin .eql v17 (.i 8)),w 18 (.mv l0)] []))) (.itv 18 (.seq (.reg [h 1 v7,m v16,u (.st v8 l1 1 []),w 9 (.mv l1)] []) .ret) (.ite [u (.bin .eql v17 (.i 43)),m l0] [] 0 (.exit 1) (.ite [u (.bin .eql v17 (.i 0)),m l0] [] 0 (.reg [f 1 v13,g l0,m v14,h 2 v15,a 2 l2 l1,u (.st l0 l1 2 [])] []) .skip)))))) (.reg [f 0 v11,g l0,h 2 v13,u (.bs [.l 0] 2),u (.app l2 l0 true 2),f 0 v11,u (.st l0 l1 1 [])] [])))))) (.reg [m v12,u (.bin .add l0 (.i 1)),w 12 (.mv l0)] [])))
def qn:C:= .loop true [0,1,9,10,13,14,15,16,17,18] K.ef
def gx:Fn:={ nargs:=6,vars:=[0,1,2,3,4,5,6,7,12,13,14,15,16,17,18,19,20,61,62],body:=(.seq (.reg [w 6 (.bx v0 2),w 7 (.bx v1 1),w 8 (.al [.nil] []),w 9 (.mv (.i 0))] []) (.seq (.reg [h 1 v7,u (.ca N.dV 0 [] [.l 0]),u (.st v7 l0 1 [])] []) (.seq (.seq (.reg [h 2 v6,h 1 v7,m v2,u (.ca N.dX 0 [] [.l 2,.l 1,.l 0]),w 10 (.mv l0)] []) (.ite [m v10,u (.bin .neq l0 (.i 0))] [] 0 (.seq (.reg [h 1 v7,m v10,u (.st v8 l1 1 []),w 9 (.mv l1)] []) .ret) .skip)) (.seq (.reg [w 11 (.al [.nil] [(0,2)])] []) (.seq (.seq (.reg [w 12 (.mv (.i 0))] []) (.blk 0 K.qn)) (.seq (.ite [f 0 v11,g l0,u (.ln l0),u (.bin .eql l0 (.i 0))] [] 0 (.seq (.reg [h 1 v7,u (.st v8 l0 1 []),w 9 (.mv (.i 43))] []) .ret) .skip) (.seq (.reg [h 1 v11,u (.st v8 l0 1 []),w 9 (.mv (.i 0))] []) .ret))))))),res:=[(8,some (1,true)),(9,none)]}
def dh:C:=(.seq (.ite [m v13,f 0 v8,g l0,u (.ln l0),u (.bin .lss l3 l0)] [] 0 .skip (.exit 0)) (.seq (.blk 1 (.seq (.reg [f 0 v8,g l0,m v13,a 2 l1 l0,h 2 l0,u (.ca N.bj 1 [] [.l 0]),w 14 (.al [.nil,.nil] []),u (.st l0 l1 2 [])] []) (.seq (.reg [f 0 v14,g l0,m v2,u (.ca N.cV 0 [] [.l 1,.l 0]),w 15 (.mv l0)] []) (.seq (.reg [w 16 (.al [.t (.int .i64 (0)),.nil] []),h 2 v7,f 1 v14,g l0,m v15,a 2 l1 l0,h 2 l0,m v3,m v4,m v5,m v6,u (.ca N.cW 0 [2] [.l 9,.l 4,.l 3,.l 2,.l 1,.l 0]),m l0,u (.ex l0 0),u (.ex l1 1),u (.st (.l 14) l1 2 []),w 17 (.mv l1)] [(0,12)]) (.seq (.ite [m v17,u (.bin .eql l0 (.i 6)),m l0,y 0 false (.mv v17),y 1 false (.bin .eql l0 (.i 8)),u (.pk l2 (.b true) l0)] [] 0 (.seq (.reg [h 1 v8,m v17,u (.st v9 l1 1 []),w 10 (.mv l1)] []) .ret) .skip) (.seq (.ite [m v17,u (.bin .eql l0 (.i 0))] [] 0 (.reg [f 1 v14,g l0,m v15,h 2 v16,a 2 l2 l1,u (.st l0 l1 2 [])] []) .skip) (.reg [f 0 v12,g l0,h 2 v14,u (.bs [.l 0] 2),u (.app l2 l0 true 2),f 0 v12,u (.st l0 l1 1 [])] []))))))) (.reg [m v13,u (.bin .add l0 (.i 1)),w 13 (.mv l0)] [])))
def mB:C:= .loop true [0,1,10,11,14,15,16,17] K.dh
def dM:Fn:={ nargs:=7,vars:=[0,1,2,3,4,5,6,7,8,14,15,16,17,18,19,20,21,22],body:=(.seq (.reg [w 7 (.bx v0 2),w 8 (.bx v1 1),w 9 (.al [.nil] []),w 10 (.mv (.i 0))] []) (.seq (.reg [h 1 v8,u (.ca N.dV 0 [] [.l 0]),u (.st v8 l0 1 [])] []) (.seq (.seq (.reg [h 2 v7,h 1 v8,m v2,u (.ca N.dX 0 [] [.l 2,.l 1,.l 0]),w 11 (.mv l0)] []) (.ite [m v11,u (.bin .neq l0 (.i 0))] [] 0 (.seq (.reg [h 1 v8,m v11,u (.st v9 l1 1 []),w 10 (.mv l1)] []) .ret) .skip)) (.seq (.reg [w 12 (.al [.nil] [(0,2)])] []) (.seq (.seq (.reg [w 13 (.mv (.i 0))] []) (.blk 0 K.mB)) (.seq (.reg [h 1 v12,u (.st v9 l0 1 []),w 10 (.mv (.i 0))] []) .ret)))))),res:=[(9,some (1,true)),(10,none)]}
def jw:Fn:={ nargs:=2,vars:=[0,1,4],body:=(.seq (.reg [w 2 (.mv (.i 0))] []) (.seq (.ite [m v1,u (.bin .lss l0 (.i 1))] [] 0 (.seq (.reg [w 2 (.mv (.i 0))] []) .ret) .skip) (.seq (.reg [m v0,m v1,u (.bin .rem l1 l0),w 0 (.mv l0)] []) (.seq (.ite [m v0,u (.bin .lss l0 (.i 0))] [] 0 (.reg [m v0,m v1,u (.bin .add l1 l0),w 0 (.mv l0)] []) .skip) (.seq (.reg [m v0,w 2 (.mv l0)] []) .ret))))),res:=[(2,none)]}
def mC:C:=(.seq (.ite [m v3,f 0 v1,g l0,u (.ln l0),u (.bin .lss l3 l0)] [] 0 .skip (.exit 0)) (.seq (.blk 1 (.seq (.reg [f 0 v1,g l0,m v3,a 2 l1 l0,f 0 l0,g l0,w 4 (.mv l0)] []) (.ite [m v4,u (.bin .lss l0 (.i (-10000))),m l0,y 0 false (.mv v4),y 1 false (.bin .gtr l0 (.i 10000)),u (.pk l2 (.b true) l0)] [] 0 (.seq (.reg [w 2 (.mv (.i 1))] []) .ret) .skip))) (.reg [m v3,u (.bin .add l0 (.i 1)),w 3 (.mv l0)] [])))
def si:C:= .loop true [0,2,4,5,6] K.mC
def mD:C:=(.seq (.ite [m v5,f 1 v1,g l0,u (.ln l0),u (.bin .lss l3 l0)] [] 0 .skip (.exit 2)) (.seq (.blk 3 (.seq (.reg [f 1 v1,g l0,m v5,a 10 l1 l0,h 10 l0,w 6 (.al [.t (.int .i64 (0)),.t (.int .i64 (0)),.t (.int .i64 (0)),.t (.int .i64 (0)),.t (.bool false),.t (.bool false),.t (.int .i64 (0)),.t (.int .i64 (0)),.t (.int .i64 (0)),.t (.int .i64 (0))] []),u (.st l0 l1 10 [])] []) (.seq (.ite [f 0 v6,g l0,u (.bin .lss l0 (.i 0)),m l0,y 0 false (.fa v6 0),y 1 false (.ld l0 1 false),y 2 false (.fa v1 0),y 3 false (.ld l0 1 false),y 4 false (.ln l0),y 5 false (.bin .geq l3 l0),u (.pk l6 (.b true) l0),m l0,y 0 false (.fa v6 1),y 1 false (.ld l0 1 false),y 2 false (.bin .lss l0 (.i 0)),u (.pk l3 (.b true) l0),m l0,y 0 false (.fa v6 1),y 1 false (.ld l0 1 false),y 2 false (.fa v1 0),y 3 false (.ld l0 1 false),y 4 false (.ln l0),y 5 false (.bin .geq l3 l0),u (.pk l6 (.b true) l0),m l0,y 0 false (.fa v6 0),y 1 false (.ld l0 1 false),y 2 false (.fa v6 1),y 3 false (.ld l0 1 false),y 4 false (.bin .eql l2 l0),u (.pk l5 (.b true) l0)] [] 0 (.seq (.reg [w 2 (.mv (.i 4))] []) .ret) .skip) (.ite [f 2 v6,g l0,u (.bin .lss l0 (.i 1)),m l0,y 0 false (.fa v6 2),y 1 false (.ld l0 1 false),y 2 false (.bin .gtr l0 (.i 100000)),u (.pk l3 (.b true) l0),m l0,y 0 false (.fa v6 3),y 1 false (.ld l0 1 false),y 2 false (.bin .lss l0 (.i 1)),u (.pk l3 (.b true) l0),m l0,y 0 false (.fa v6 3),y 1 false (.ld l0 1 false),y 2 false (.bin .gtr l0 (.i 1000)),u (.pk l3 (.b true) l0),m l0,y 0 false (.fa v6 6),y 1 false (.ld l0 2 true),y 2 false (.ca N.gy 0 [] [.l 0,.i 1,.i 262144]),y 3 false (.un .not l0),u (.pk l4 (.b true) l0),m l0,y 0 false (.fa v6 8),y 1 false (.ld l0 2 true),y 2 false (.ca N.gy 0 [] [.l 0,.i (-2199023255552),.i 2199023255552]),y 3 false (.un .not l0),u (.pk l4 (.b true) l0)] [] 0 (.seq (.reg [w 2 (.mv (.i 1))] []) .ret) .skip)))) (.reg [m v5,u (.bin .add l0 (.i 1)),w 5 (.mv l0)] [])))
def sj:C:= .loop true [0,2,3,4,6] K.mD
def dE:Fn:={ nargs:=1,vars:=[0,1,2,3,4,5,6],body:=(.seq (.reg [w 1 (.bx v0 2),w 2 (.mv (.i 0))] []) (.seq (.ite [f 0 v1,g l0,u (.ln l0),u (.bin .gtr l0 (.i 64)),m l0,y 0 false (.fa v1 1),y 1 false (.ld l0 1 false),y 2 false (.ln l0),y 3 false (.bin .gtr l0 (.i 128)),u (.pk l4 (.b true) l0)] [] 0 (.seq (.reg [w 2 (.mv (.i 2))] []) .ret) .skip) (.seq (.seq (.reg [w 3 (.mv (.i 0))] []) (.blk 0 K.si)) (.seq (.seq (.reg [w 5 (.mv (.i 0))] []) (.blk 2 K.sj)) (.seq (.reg [w 2 (.mv (.i 0))] []) .ret))))),res:=[(2,none)]}
def gP:C:=(.seq (.ite [m v3,m v0,u (.ln l0),u (.bin .lss l2 l0)] [] 0 .skip (.exit 0)) (.seq (.blk 1 (.ite [m v0,m v3,a 1 l1 l0,g l0,u (.bin .lss l0 (.i 0)),m l0,y 0 false (.mv v0),y 1 false (.mv v3),y 2 false (.ia l1 l0 1),y 3 false (.ld l0 1 false),y 4 false (.mv v1),y 5 false (.bin .geq l1 l0),u (.pk l6 (.b true) l0),m l0,y 0 false (.mv v3),y 1 false (.bin .gtr l0 (.i 0)),y 2 false (.mv l0),y 0 true (.mv v0),y 1 true (.mv v3),y 2 true (.ia l1 l0 1),y 3 true (.ld l0 1 false),y 4 true (.mv v0),y 5 true (.mv v3),y 6 true (.bin .sub l0 (.i 1)),y 7 true (.ia l2 l0 1),y 8 true (.ld l0 1 false),y 9 true (.bin .leq l5 l0),y 13 false (.pk l10 l0 (.b false)),u (.pk (.l 14) (.b true) l0)] [] 0 (.seq (.reg [w 2 (.mv (.b false))] []) .ret) .skip)) (.reg [m v3,u (.bin .add l0 (.i 1)),w 3 (.mv l0)] [])))
def xj:C:= .loop true [2] K.gP
def ji:Fn:={ nargs:=2,vars:=[0,1,4,5],body:=(.seq (.reg [w 2 (.mv (.b false))] []) (.seq (.seq (.reg [w 3 (.mv (.i 0))] []) (.blk 0 K.xj)) (.seq (.reg [w 2 (.mv (.b true))] []) .ret))),res:=[(2,none)]}
def fL:C:=(.seq (.ite [m v2,m v0,u (.ln l0),u (.bin .lss l2 l0)] [] 0 .skip (.exit 0)) (.seq (.blk 1 (.ite [m v0,m v2,a 1 l1 l0,g l0,u (.bin .lss l0 (.i 1)),m l0,y 0 false (.mv v0),y 1 false (.mv v2),y 2 false (.ia l1 l0 1),y 3 false (.ld l0 1 false),y 4 false (.bin .gtr l0 (.i 65535)),u (.pk l5 (.b true) l0),m l0,y 0 false (.mv v0),y 1 false (.mv v2),y 2 false (.sc l1 none (some l0) 1),y 3 false (.mv v0),y 4 false (.mv v2),y 5 false (.ia l1 l0 1),y 6 false (.ld l0 1 false),y 7 false (.ca N.cV 0 [] [.l 4,.l 0]),y 8 false (.bin .geq l0 (.i 0)),u (.pk l9 (.b true) l0)] [] 0 (.seq (.reg [w 1 (.mv (.b false))] []) .ret) .skip)) (.reg [m v2,u (.bin .add l0 (.i 1)),w 2 (.mv l0)] [])))
def qo:C:= .loop true [1] K.fL
def ew:Fn:={ nargs:=1,vars:=[0,2,3],body:=(.seq (.reg [w 1 (.mv (.b false))] []) (.seq (.seq (.reg [w 2 (.mv (.i 0))] []) (.blk 0 K.qo)) (.seq (.reg [w 1 (.mv (.b true))] []) .ret))),res:=[(1,none)]}
def dU:Fn:={ nargs:=3,vars:=[0,1,2,3,6,7,8],body:=(.seq (.reg [w 3 (.bx v0 2),w 4 (.al [.t (.int .i64 (0)),.nil] []),w 5 (.mv (.i 0))] []) (.seq (.blk 0 (.ite [h 2 v3,u (.ca N.dE 0 [] [.l 0]),u (.bin .neq l0 (.i 0)),m l0] [] 0 (.seq (.reg [u (.bd [.t (.int .i64 (0)),.nil] []),u (.st v4 l0 2 []),w 5 (.mv (.i 6))] []) .ret) (.ite [m v1,u (.bin .lss l0 (.i 0)),m l0,y 0 false (.mv v1),y 1 false (.fa v3 0),y 2 false (.ld l0 1 false),y 3 false (.ln l0),y 4 false (.bin .geq l3 l0),u (.pk l5 (.b true) l0),m l0] [] 0 (.seq (.reg [u (.bd [.t (.int .i64 (0)),.nil] []),u (.st v4 l0 2 []),w 5 (.mv (.i 3))] []) .ret) (.ite [m v2,u (.ca N.dv 0 [] [.l 0]),u (.un .not l0),m l0] [] 0 (.seq (.reg [u (.bd [.t (.int .i64 (0)),.nil] []),u (.st v4 l0 2 []),w 5 (.mv (.i 8))] []) .ret) .skip)))) (.seq (.reg [f 0 v3,g l0,u (.ln l0),u (.ca N.fB 1 [] [.l 0]),w 6 (.mv l0)] []) (.seq (.reg [m v6,m v1,m v2,a 1 l2 l1,u (.st l0 l1 1 [])] []) (.seq (.reg [m v2,h 2 v3,m v6,m v2,u (.ca N.dY 0 [] [.l 2,.l 1,.l 0]),u (.bd [.t (.int .i64 (0)),.nil] [(0,1,.l 4),(1,1,.l 0)]),u (.st v4 l0 2 []),w 5 (.mv (.i 0))] []) .ret))))),res:=[(4,some (2,true)),(5,none)]}
end Go.Ev.K
namespace Go.Ev
class cu [Lib]:Prop where
 qp:Lib.fs N.gY=some K.gY
 sR:Lib.fs N.jh=some K.jh
 kY:Lib.fs N.cL=some K.cL
 jX:Lib.fs N.b5=some K.b5
 kZ:Lib.fs N.ax=some K.ax
 nG:Lib.fs N.cq=some K.cq
 sT:Lib.fs N.gw=some K.gw
 mE:Lib.fs N.bQ=some K.bQ
 lf:Lib.fs N.c8=some K.c8
 o5:Lib.fs N.dt=some K.dt
 lk:Lib.fs N.bf=some K.bf
 sU:Lib.fs N.gx=some K.gx
 nH:Lib.fs N.dM=some K.dM
 vU:Lib.fs N.jw=some K.jw
 o6:Lib.fs N.dE=some K.dE
 sV:Lib.fs N.ji=some K.ji
 nI:Lib.fs N.ew=some K.ew
 o7:Lib.fs N.dU=some K.dU
namespace K
variable [Lib] [cu]
theorem qp:Lib.fs N.gY=some K.gY:=cu.qp
theorem sR:Lib.fs N.jh=some K.jh:=cu.sR
theorem kY:Lib.fs N.cL=some K.cL:=cu.kY
theorem jX:Lib.fs N.b5=some K.b5:=cu.jX
theorem kZ:Lib.fs N.ax=some K.ax:=cu.kZ
theorem nG:Lib.fs N.cq=some K.cq:=cu.nG
theorem sT:Lib.fs N.gw=some K.gw:=cu.sT
theorem mE:Lib.fs N.bQ=some K.bQ:=cu.mE
theorem lf:Lib.fs N.c8=some K.c8:=cu.lf
theorem o5:Lib.fs N.dt=some K.dt:=cu.o5
theorem lk:Lib.fs N.bf=some K.bf:=cu.lk
theorem sU:Lib.fs N.gx=some K.gx:=cu.sU
theorem nH:Lib.fs N.dM=some K.dM:=cu.nH
theorem vU:Lib.fs N.jw=some K.jw:=cu.vU
theorem o6:Lib.fs N.dE=some K.dE:=cu.o6
theorem sV:Lib.fs N.ji=some K.ji:=cu.sV
theorem nI:Lib.fs N.ew=some K.ew:=cu.nI
theorem o7:Lib.fs N.dU=some K.dU:=cu.o7
end K
end Go.Ev
namespace Go.Ev.K
open Go.Ev
def nJ:C:=(.seq (.ite [m v4,f 0 v1,g l0,u (.ln l0),u (.bin .lss l3 l0)] [] 0 .skip (.exit 0)) (.seq (.blk 1 (.reg [f 0 v3,g l0,f 0 v1,g l0,m v4,a 2 l1 l0,h 2 l0,u (.ca N.bj 0 [] [.l 0]),u (.bs [.l 0] 2),u (.app l7 l0 true 2),f 0 v3,u (.st l0 l1 1 [])] [(1,8),(1,9)])) (.reg [m v4,u (.bin .add l0 (.i 1)),w 4 (.mv l0)] [])))
def uA:C:= .loop true [0] K.nJ
def dV:Fn:={ nargs:=1,vars:=[0,1,2,3,4],body:=(.seq (.reg [w 1 (.bx v0 1),w 2 (.al [.nil] [])] []) (.seq (.reg [w 3 (.al [.nil] [(0,2)])] []) (.seq (.seq (.reg [w 4 (.mv (.i 0))] []) (.blk 0 K.uA)) (.seq (.reg [h 1 v3,u (.st v2 l0 1 [])] []) .ret)))),res:=[(2,some (1,true))]}
def gC:C:=(.seq (.ite [m v8,f 0 v7,g l0,u (.ln l0),u (.bin .lss l3 l0)] [] 0 .skip (.exit 2)) (.seq (.blk 3 (.ite [m v5,f 0 v7,g l0,m v8,a 1 l1 l0,g l0,u (.ca N.cV 0 [] [.l 5,.l 0]),u (.bin .lss l0 (.i 0)),m l0,y 0 false (.ld v2 2 true),y 1 false (.fa v7 1),y 2 false (.ld l0 1 false),y 3 false (.mv v8),y 4 false (.ia l1 l0 2),y 5 false (.ld l0 2 true),y 6 false (.ca N.eQ 0 [] [.l 5,.l 0]),y 7 false (.un .not l0),u (.pk l8 (.b true) l0)] [] 0 (.seq (.reg [w 4 (.mv (.b false))] []) .ret) .skip)) (.reg [m v8,u (.bin .add l0 (.i 1)),w 8 (.mv l0)] [])))
def nK:C:= .loop true [0,1,4] K.gC
def bT:C:=(.seq (.ite [m v6,f 0 v3,g l0,u (.ln l0),u (.bin .lss l3 l0)] [] 0 .skip (.exit 0)) (.seq (.blk 1 (.seq (.reg [f 0 v3,g l0,m v6,a 2 l1 l0,h 2 l0,w 7 (.al [.nil,.nil] []),u (.st l0 l1 2 [])] []) (.seq (.ite [f 0 v7,g l0,u (.ln l0),m v5,u (.ln l0),u (.bin .neq l2 l0),m l0,y 0 false (.fa v7 1),y 1 false (.ld l0 1 false),y 2 false (.ln l0),y 3 false (.mv v5),y 4 false (.ln l0),y 5 false (.bin .neq l2 l0),u (.pk l6 (.b true) l0),m l0,y 0 false (.fa v7 0),y 1 false (.ld l0 1 false),y 2 false (.ca N.ew 0 [] [.l 0]),y 3 false (.un .not l0),u (.pk l4 (.b true) l0),m l0,y 0 false (.mv v6),y 1 false (.bin .gtr l0 (.i 0)),y 2 false (.mv l0),y 0 true (.fa v3 0),y 1 true (.ld l0 1 false),y 2 true (.mv v6),y 3 true (.bin .sub l0 (.i 1)),y 4 true (.ia l2 l0 2),y 5 true (.fa l0 0),y 6 true (.ld l0 1 false),y 7 true (.fa v7 0),y 8 true (.ld l0 1 false),y 9 true (.ca N.gz 0 [] [.l 2,.l 0]),y 10 true (.un .not l0),y 14 false (.pk l11 l0 (.b false)),u (.pk (.l 15) (.b true) l0)] [] 0 (.seq (.reg [w 4 (.mv (.b false))] []) .ret) .skip) (.seq (.reg [w 8 (.mv (.i 0))] []) (.blk 2 K.nK))))) (.reg [m v6,u (.bin .add l0 (.i 1)),w 6 (.mv l0)] [])))
def nL:C:= .loop true [0,1,4,7,8] K.bT
def cU:Fn:={ nargs:=2,vars:=[0,1,2,3,4,5,6,7,8],body:=(.seq (.reg [w 2 (.bx v0 2),w 3 (.bx v1 1),w 4 (.mv (.b false))] []) (.seq (.ite [f 0 v3,g l0,u (.ln l0),u (.bin .lss l0 (.i 1)),m l0,y 0 false (.fa v3 0),y 1 false (.ld l0 1 false),y 2 false (.ln l0),y 3 false (.bin .gtr l0 (.i 24)),u (.pk l4 (.b true) l0),m l0,y 0 false (.ld v2 2 true),y 1 false (.ca N.dE 0 [] [.l 0]),y 2 false (.bin .neq l0 (.i 0)),u (.pk l3 (.b true) l0)] [] 0 (.seq (.reg [w 4 (.mv (.b false))] []) .ret) .skip) (.seq (.reg [f 0 v3,g l0,a 2 l0 (.i 0),f 0 l0,g l0,w 5 (.mv l0)] []) (.seq (.ite [m v5,u (.ln l0),u (.bin .lss l0 (.i 1)),m l0,y 0 false (.mv v5),y 1 false (.ln l0),y 2 false (.bin .gtr l0 (.i 12)),u (.pk l3 (.b true) l0)] [] 0 (.seq (.reg [w 4 (.mv (.b false))] []) .ret) .skip) (.seq (.seq (.reg [w 6 (.mv (.i 0))] []) (.blk 0 K.nL)) (.seq (.reg [w 4 (.mv (.b true))] []) .ret)))))),res:=[(4,none)]}
def jA:C:=(.seq (.ite [m v4,f 1 v1,g l0,u (.ln l0),u (.bin .lss l3 l0)] [] 0 .skip (.exit 0)) (.seq (.blk 1 (.reg [f 1 v3,g l0,f 1 v1,g l0,m v4,a 2 l1 l0,h 2 l0,u (.ca N.c7 0 [] [.l 0]),u (.bs [.l 0] 2),u (.app l7 l0 true 2),f 1 v3,u (.st l0 l1 1 [])] [(1,8),(1,9)])) (.reg [m v4,u (.bin .add l0 (.i 1)),w 4 (.mv l0)] [])))
def nf:C:= .loop true [0] K.jA
def bj:Fn:={ nargs:=1,vars:=[0,1,2,3,4],body:=(.seq (.reg [w 1 (.bx v0 2),w 2 (.al [.nil,.nil] [])] []) (.seq (.reg [f 0 v1,g l0,u (.app (.c (.nil)) l0 true 1),u (.bd [.nil,.nil] [(0,1,.l 0)]),w 3 (.al [.nil,.nil] [(1,2)]),u (.st l0 l1 2 [(1,2)])] []) (.seq (.seq (.reg [w 4 (.mv (.i 0))] []) (.blk 0 K.nf)) (.seq (.reg [h 2 v3,u (.st v2 l0 2 [])] []) .ret)))),res:=[(2,some (2,true))]}
def ic:C:=(.seq (.ite [m v6,f 1 v3,g l0,u (.ln l0),u (.bin .lss l3 l0),m l0,y 0 true (.mv v6),y 1 true (.fa v4 1),y 2 true (.ld l0 1 false),y 3 true (.ln l0),y 4 true (.bin .lss l3 l0),u (.pk l5 l0 (.b false))] [] 0 .skip (.exit 0)) (.seq (.blk 1 (.ite [f 1 v3,g l0,m v6,a 1 l1 l0,g l0,m v2,u (.bin .leq l1 l0),m l0,y 0 true (.fa v4 1),y 1 true (.ld l0 1 false),y 2 true (.mv v6),y 3 true (.ia l1 l0 1),y 4 true (.ld l0 1 false),y 5 true (.mv v2),y 6 true (.bin .leq l1 l0),u (.pk l7 l0 (.b false))] [] 0 (.seq (.reg [w 5 (.mv (.b true))] []) .ret) .skip)) (.reg [m v6,u (.bin .add l0 (.i 1)),w 6 (.mv l0)] [])))
def uC:C:= .loop true [0,1,5] K.ic
def gZ:Fn:={ nargs:=3,vars:=[0,1,2,3,4,6,7],body:=(.seq (.reg [w 3 (.bx v0 2),w 4 (.bx v1 2),w 5 (.mv (.b false))] []) (.seq (.seq (.reg [w 6 (.mv (.i 0))] []) (.blk 0 K.uC)) (.seq (.reg [w 5 (.mv (.b false))] []) .ret))),res:=[(5,none)]}
def dW:Fn:={ nargs:=2,vars:=[0,1,2,4,5],body:=(.seq (.reg [w 2 (.bx v0 2),w 3 (.al [.t (.int .i64 (0)),.nil] []),w 4 (.mv (.i 0))] []) (.seq (.reg [h 2 v2,u (.ca N.c7 0 [] [.l 0]),u (.st v2 l0 2 [])] []) (.seq (.ite [m v1,f 0 v2,g l0,u (.bin .lss l2 l0),m l0,y 0 false (.mv v1),y 1 false (.bin .gtr l0 (.i 2147483648)),u (.pk l2 (.b true) l0)] [] 0 (.seq (.reg [h 2 v2,u (.st v3 l0 2 []),w 4 (.mv (.i 8))] []) .ret) .skip) (.seq (.reg [m v1,f 0 v2,u (.st l0 l1 1 [])] []) (.seq (.reg [h 2 v2,u (.st v3 l0 2 []),w 4 (.mv (.i 0))] []) .ret))))),res:=[(3,some (2,true)),(4,none)]}
def jj:C:=(.seq (.ite [m v4,m v2,u (.ln l0),u (.bin .lss l2 l0),m l0,y 0 true (.mv v2),y 1 true (.mv v4),y 2 true (.ia l1 l0 2),y 3 true (.fa l0 0),y 4 true (.ld l0 1 false),y 5 true (.mv v0),y 6 true (.mv v3),y 7 true (.ia l1 l0 2),y 8 true (.fa l0 0),y 9 true (.ld l0 1 false),y 10 true (.ca N.gz 0 [] [.l 5,.l 0]),u (.pk l11 l0 (.b false))] [] 0 .skip (.exit 2)) (.blk 3 (.reg [m v4,u (.bin .add l0 (.i 1)),w 4 (.mv l0)] [])))
def o8:C:= .loop false [1,5] K.jj
def kH:C:=(.seq (.ite [m v5,m v2,m v4,a 2 l1 l0,f 1 l0,g l0,u (.ln l0),u (.bin .lss l6 l0),m l0,y 0 true (.mv v5),y 1 true (.mv v0),y 2 true (.mv v3),y 3 true (.ia l1 l0 2),y 4 true (.fa l0 1),y 5 true (.ld l0 1 false),y 6 true (.ln l0),y 7 true (.bin .lss l6 l0),u (.pk l8 l0 (.b false))] [] 0 .skip (.exit 4)) (.seq (.blk 5 (.reg [m v2,m v4,a 2 l1 l0,f 1 l0,g l0,m v5,m v2,m v4,a 2 l1 l0,f 1 l0,g l0,m v5,a 2 l1 l0,h 2 l0,m v0,m v3,a 2 l1 l0,f 1 l0,g l0,m v5,a 2 l1 l0,h 2 l0,u (.ca N.gA 0 [] [.l 8,.l 0]),m l0,u (.ex l0 0),u (.ex l1 1),a 2 (.l 21) (.l 20),u (.st l0 l2 2 [])] [(2,23),(4,23)])) (.reg [m v5,u (.bin .add l0 (.i 1)),w 5 (.mv l0)] [])))
def uD:C:= .loop false [1] K.kH
def eh:C:=(.seq (.ite [m v3,m v0,u (.ln l0),u (.bin .lss l2 l0)] [] 0 .skip (.exit 0)) (.seq (.blk 1 (.seq (.reg [w 4 (.mv (.i 0))] []) (.seq (.blk 2 K.o8) (.seq (.ite [m v4,m v2,u (.ln l0),u (.bin .lss l2 l0),m l0,y 0 true (.mv v2),y 1 true (.mv v4),y 2 true (.ia l1 l0 2),y 3 true (.fa l0 0),y 4 true (.ld l0 1 false),y 5 true (.mv v0),y 6 true (.mv v3),y 7 true (.ia l1 l0 2),y 8 true (.fa l0 0),y 9 true (.ld l0 1 false),y 10 true (.ca N.cM 0 [] [.l 5,.l 0]),u (.pk l11 l0 (.b false))] [] 0 (.seq (.seq (.reg [w 5 (.mv (.i 0))] []) (.blk 4 K.uD)) (.exit 1)) .skip) (.reg [m v2,m v4,u (.sc l1 none (some l0) 2),u (.app (.c (.nil)) l0 false 2),m v0,m v3,a 2 l1 l0,h 2 l0,u (.ca N.bj 1 [] [.l 0]),u (.bsr [.l 0] 2),u (.app l6 l0 false 2),m v2,m v4,u (.sc l1 (some l0) none 2),u (.app l3 l0 false 2),w 2 (.mv l0)] [(6,0),(7,0),(13,0),(13,4),(13,9),(13,10)]))))) (.reg [m v3,u (.bin .add l0 (.i 1)),w 3 (.mv l0)] [])))
def uE:C:= .loop false [1,4,5] K.eh
def hU:Fn:={ nargs:=1,vars:=[0,2,3,4,5,6],body:=(.seq (.reg [w 1 (.mv (.c (.nil)))] []) (.seq (.reg [w 2 (.mv (.c (.nil)))] []) (.seq (.seq (.reg [w 3 (.mv (.i 0))] []) (.blk 0 K.uE)) (.seq (.reg [m v2,w 1 (.mv l0)] []) .ret)))),res:=[(1,none)]}
def dX:Fn:={ nargs:=3,vars:=[0,1,2,3,4,6],body:=(.seq (.reg [w 3 (.bx v0 2),w 4 (.bx v1 1),w 5 (.mv (.i 0))] []) (.seq (.ite [h 2 v3,h 1 v4,u (.ca N.cU 0 [] [.l 1,.l 0]),u (.un .not l0)] [] 0 (.seq (.reg [w 5 (.mv (.i 6))] []) .ret) .skip) (.seq (.ite [f 0 v4,g l0,a 2 l0 (.i 0),f 0 l0,g l0,m v2,u (.ca N.cV 0 [] [.l 1,.l 0]),u (.bin .lss l0 (.i 0))] [] 0 (.seq (.reg [w 5 (.mv (.i 41))] []) .ret) .skip) (.seq (.reg [w 5 (.mv (.i 0))] []) .ret)))),res:=[(5,none)]}
def jx:C:=(.seq (.ite [m v3,m v0,u (.ln l0),u (.bin .lss l2 l0)] [] 0 .skip (.exit 0)) (.seq (.blk 1 (.ite [m v0,m v3,a 1 l1 l0,g l0,m v1,u (.bin .eql l1 l0)] [] 0 (.seq (.reg [m v3,w 2 (.mv l0)] []) .ret) .skip)) (.reg [m v3,u (.bin .add l0 (.i 1)),w 3 (.mv l0)] [])))
def qq:C:= .loop true [2] K.jx
def cV:Fn:={ nargs:=2,vars:=[0,1,4,5],body:=(.seq (.reg [w 2 (.mv (.i 0))] []) (.seq (.seq (.reg [w 3 (.mv (.i 0))] []) (.blk 0 K.qq)) (.seq (.reg [w 2 (.mv (.i (-1)))] []) .ret))),res:=[(2,none)]}
def lU:C:=(.seq (.ite [m v12,m v2,u (.ln l0),u (.bin .lss l2 l0)] [] 0 .skip (.exit 0)) (.seq (.blk 1 (.seq (.reg [m v2,m v12,a 1 l1 l0,g l0,w 13 (.mv l0)] []) (.ite [f 1 v6,g l0,m v13,a 1 l1 l0,g l0,m v4,u (.bin .leq l1 l0)] [] 0 (.reg [m v10,m v13,f 1 v6,g l0,m v13,a 1 l1 l0,g l0,a 1 l6 l5,u (.st l0 l1 1 []),w 11 (.mv (.b true))] []) .skip))) (.reg [m v12,u (.bin .add l0 (.i 1)),w 12 (.mv l0)] [])))
def xk:C:= .loop true [0,1,8,9,13] K.lU
def gW:Fn:={ nargs:=5,vars:=[0,1,2,3,4,5,6,10,11,12,13,14,15,16],body:=(.seq (.reg [w 5 (.bx v0 2),w 6 (.bx v1 2),w 7 (.al [.t (.int .i64 (0)),.nil] []),w 8 (.mv (.i 0))] []) (.seq (.seq (.reg [h 2 v5,h 2 v6,m v2,m v3,m v4,u (.ca N.cE 0 [] [.l 4,.l 3,.l 2,.l 1,.l 0]),w 9 (.mv l0)] []) (.ite [m v9,u (.bin .neq l0 (.i 0))] [] 0 (.seq (.reg [h 2 v6,u (.ca N.c7 0 [] [.l 0]),m v9,u (.st v7 l1 2 []),w 8 (.mv l1)] []) .ret) .skip)) (.seq (.ite [m v3,f 0 v6,g l0,u (.bin .lss l2 l0)] [] 0 (.seq (.reg [h 2 v6,u (.ca N.c7 0 [] [.l 0]),u (.st v7 l0 2 []),w 8 (.mv (.i 42))] []) .ret) .skip) (.seq (.reg [f 0 v5,g l0,u (.ln l0),u (.ca N.fB 1 [] [.l 0]),w 10 (.mv l0)] []) (.seq (.reg [w 11 (.mv (.b false))] []) (.seq (.seq (.reg [w 12 (.mv (.i 0))] []) (.blk 0 K.xk)) (.seq (.ite [m v11,u (.un .not l0)] [] 0 (.seq (.reg [h 2 v6,u (.ca N.c7 0 [] [.l 0]),u (.st v7 l0 2 []),w 8 (.mv (.i 43))] []) .ret) .skip) (.seq (.reg [m v4,h 2 v5,m v10,m v3,u (.ca N.dY 0 [] [.l 2,.l 1,.l 0]),u (.bd [.t (.int .i64 (0)),.nil] [(0,1,.l 4),(1,1,.l 0)]),u (.st v7 l0 2 []),w 8 (.mv (.i 0))] []) .ret)))))))),res:=[(7,some (2,true)),(8,none)]}
def lq:C:=(.seq (.ite [m v12,m v2,u (.ln l0),u (.bin .lss l2 l0)] [] 0 .skip (.exit 0)) (.seq (.blk 1 (.reg [m v11,m v2,m v12,a 1 l1 l0,g l0,a 1 l4 l0,u (.st l0 (.i 1099511627776) 1 [])] [])) (.reg [m v12,u (.bin .add l0 (.i 1)),w 12 (.mv l0)] [])))
def qs:C:= .loop true [0,1,3,7,9,10] K.lq
def cW:Fn:={ nargs:=6,vars:=[0,1,2,3,4,5,6,7,12,13,14,15,16],body:=(.seq (.reg [w 6 (.bx v0 2),w 7 (.bx v1 2),w 8 (.al [.t (.int .i64 (0)),.nil] []),w 9 (.mv (.i 0))] []) (.seq (.seq (.reg [h 2 v6,h 2 v7,m v2,m v3,m v4,u (.ca N.cE 0 [] [.l 4,.l 3,.l 2,.l 1,.l 0]),w 10 (.mv l0)] []) (.ite [m v10,u (.bin .neq l0 (.i 0))] [] 0 (.seq (.reg [h 2 v7,u (.ca N.c7 0 [] [.l 0]),m v10,u (.st v8 l1 2 []),w 9 (.mv l1)] []) .ret) .skip)) (.seq (.ite [m v5,u (.ca N.dv 0 [] [.l 0]),u (.un .not l0)] [] 0 (.seq (.reg [h 2 v7,u (.ca N.c7 0 [] [.l 0]),u (.st v8 l0 2 []),w 9 (.mv (.i 8))] []) .ret) .skip) (.seq (.ite [m v4,f 0 v7,g l0,u (.bin .lss l2 l0)] [] 0 (.seq (.reg [h 2 v7,u (.ca N.c7 0 [] [.l 0]),u (.st v8 l0 2 []),w 9 (.mv (.i 42))] []) .ret) .skip) (.seq (.ite [m v4,m v3,f 0 v7,g l0,u (.mx [.l 2,.l 0]),u (.bin .sub l4 l0),m v5,u (.bin .leq l1 l0)] [] 0 (.seq (.reg [h 2 v7,u (.ca N.c7 0 [] [.l 0]),u (.st v8 l0 2 []),w 9 (.mv (.i 0))] []) .ret) .skip) (.seq (.reg [f 1 v7,g l0,u (.app (.c (.nil)) l0 true 1),w 11 (.mv l0)] []) (.seq (.seq (.reg [w 12 (.mv (.i 0))] []) (.blk 0 K.qs)) (.seq (.reg [m v4,h 2 v6,h 2 v6,m v11,m v4,m v5,u (.bin .sub l1 l0),m v2,u (.ca N.eR 0 [3] [.l 5,.l 4,.l 1,.l 0]),m v4,u (.ca N.dY 0 [] [.l 8,.l 1,.l 0]),u (.bd [.t (.int .i64 (0)),.nil] [(0,1,.l 10),(1,1,.l 0)]),u (.st v8 l0 2 []),w 9 (.mv (.i 0))] [(1,9)]) .ret)))))))),res:=[(8,some (2,true)),(9,none)]}
def jY:C:=(.its [u (.bin .lss v6 v5)] [] 0 .skip (.exit 0) (.seq (.blk 1 (.seq (.reg [m v6,w 4 (.mv l0)] []) (.ite [m v1,m v4,u (.cw l1 0 [] [.l 0])] [] 0 (.reg [m v3,m v4,u (.bs [.l 0] 1),u (.app l2 l0 true 1),w 3 (.mv l0)] []) .skip))) (.reg [u (.bin .add v6 (.i 1)),w 6 (.mv l0)] [])))
def sk:C:= .loop true [0,2,4] K.jY
def eO:Fn:={ nargs:=2,vars:=[0,1,4,5,6,7,8],body:=(.seq (.reg [w 2 (.mv (.c (.nil)))] []) (.seq (.reg [w 3 (.nw 1)] []) (.seq (.seq (.reg [w 5 (.mv v0),w 6 (.mv (.i 0))] []) (.blk 0 K.sk)) (.seq (.reg [m v3,w 2 (.mv l0)] []) .ret)))),res:=[(2,none)]}
def aD:Fn:={ nargs:=2,vars:=[0,1,4],body:=(.seq (.reg [w 2 (.mv (.b false))] []) (.seq (.reg [m v0,m v1,u (.ca N.aF 0 [] [.l 1,.l 0]),u (.bin .geq l0 (.i 0)),w 2 (.mv l0)] []) .ret)),res:=[(2,none)]}
def aE:Fn:={ nargs:=2,vars:=[0,1,4],body:=(.seq (.reg [w 2 (.mv (.b false))] []) (.seq (.reg [m v0,m v1,u (.ca N.bE 0 [] [.l 1,.l 0]),u (.bin .geq l0 (.i 0)),w 2 (.mv l0)] []) .ret)),res:=[(2,none)]}
def dC:Fn:={ nargs:=3,vars:=[0,1,2,3,4,5,6],body:=(.seq (.reg [w 3 (.bx v0 1),w 4 (.bx v1 1),w 5 (.bx v2 1),w 6 (.mv (.c (.nil)))] []) (.seq (.reg [u (.mf N.bR [.v 3,.v 4,.v 5]),u (.ca N.eO 0 [] [.i 64,.l 0]),w 6 (.mv l0)] []) .ret)),res:=[(6,none)]}
def gy:Fn:={ nargs:=3,vars:=[0,1,2,3,6],body:=(.seq (.reg [w 3 (.bx v0 2),w 4 (.mv (.b false))] []) (.seq (.reg [m v1,f 0 v3,g l0,u (.bin .leq l2 l0),m l0,y 0 true (.fa v3 0),y 1 true (.ld l0 1 false),y 2 true (.fa v3 1),y 3 true (.ld l0 1 false),y 4 true (.bin .leq l2 l0),u (.pk l5 l0 (.b false)),m l0,y 0 true (.fa v3 1),y 1 true (.ld l0 1 false),y 2 true (.mv v2),y 3 true (.bin .leq l1 l0),u (.pk l4 l0 (.b false)),w 4 (.mv l0)] []) .ret)),res:=[(4,none)]}
def dv:Fn:={ nargs:=1,vars:=[0,2],body:=(.seq (.reg [w 1 (.mv (.b false))] []) (.seq (.reg [m v0,u (.bin .geq l0 (.i 0)),m l0,y 0 true (.mv v0),y 1 true (.bin .leq l0 (.i 2147483648)),u (.pk l2 l0 (.b false)),w 1 (.mv l0)] []) .ret)),res:=[(1,none)]}
def mF:C:=(.seq (.ite [m v3,m v0,u (.bin .lss l1 l0)] [] 0 .skip (.exit 0)) (.seq (.blk 1 (.reg [m v2,u (.bs [.i 1099511627776] 1),u (.app l1 l0 true 1),w 2 (.mv l0)] [])) (.reg [m v3,u (.bin .add l0 (.i 1)),w 3 (.mv l0)] [])))
def sn:C:= .loop true [1] K.mF
def fB:Fn:={ nargs:=1,vars:=[0,2,3,4],body:=(.seq (.reg [w 1 (.mv (.c (.nil)))] []) (.seq (.reg [w 2 (.nw 1)] []) (.seq (.seq (.reg [w 3 (.mv (.i 0))] []) (.blk 0 K.sn)) (.seq (.reg [m v2,w 1 (.mv l0)] []) .ret)))),res:=[(1,none)]}
def dY:Fn:={ nargs:=3,vars:=[0,1,2,3,6],body:=(.seq (.reg [w 3 (.bx v0 2),w 4 (.mv (.c (.nil)))] []) (.seq (.reg [h 2 v3,m v1,m v2,u (.ca N.eR 0 [3] [.l 2,.l 1,.l 0,.c (.nil)]),w 4 (.mv l0)] []) .ret)),res:=[(4,none)]}
def ie:C:=(.seq (.ite [m v3,m v0,u (.ln l0),u (.bin .lss l2 l0),m l0,y 0 true (.mv v3),y 1 true (.mv v1),y 2 true (.ln l0),y 3 true (.bin .lss l2 l0),u (.pk l4 l0 (.b false))] [] 0 .skip (.exit 0)) (.seq (.blk 1 (.ite [m v0,m v3,a 1 l1 l0,g l0,m v1,m v3,a 1 l1 l0,g l0,u (.bin .neq l4 l0)] [] 0 (.seq (.reg [m v0,m v3,a 1 l1 l0,g l0,m v1,m v3,a 1 l1 l0,g l0,u (.bin .lss l4 l0),w 2 (.mv l0)] []) .ret) .skip)) (.reg [m v3,u (.bin .add l0 (.i 1)),w 3 (.mv l0)] [])))
def uF:C:= .loop true [2] K.ie
def gz:Fn:={ nargs:=2,vars:=[0,1,4,5],body:=(.seq (.reg [w 2 (.mv (.b false))] []) (.seq (.seq (.reg [w 3 (.mv (.i 0))] []) (.blk 0 K.uF)) (.seq (.reg [m v0,u (.ln l0),m v1,u (.ln l0),u (.bin .lss l2 l0),w 2 (.mv l0)] []) .ret))),res:=[(2,none)]}
def eQ:Fn:={ nargs:=2,vars:=[0,1,2,3,4],body:=(.seq (.reg [w 2 (.bx v0 2),w 3 (.bx v1 2),w 4 (.mv (.b false))] []) (.seq (.reg [h 2 v2,u (.ca N.dE 0 [] [.l 0]),u (.bin .eql l0 (.i 0)),m l0,y 0 true (.ld v3 2 true),y 1 true (.fa v2 0),y 2 true (.ld l0 1 false),y 3 true (.ln l0),y 4 true (.ca N.dZ 0 [] [.l 3,.l 0]),u (.pk l5 l0 (.b false)),m l0,y 0 true (.ld v2 2 true),y 1 true (.fa v3 1),y 2 true (.ld l0 1 false),y 3 true (.fa v3 0),y 4 true (.ld l0 1 false),y 5 true (.ca N.dY 0 [] [.l 4,.l 2,.l 0]),y 6 true (.fa v3 1),y 7 true (.ld l0 1 false),y 8 true (.ca N.cM 0 [] [.l 2,.l 0]),u (.pk l9 l0 (.b false)),w 4 (.mv l0)] [(18,9)]) .ret)),res:=[(4,none)]}
def c7:Fn:={ nargs:=1,vars:=[0,1,2],body:=(.seq (.reg [w 1 (.bx v0 2),w 2 (.al [.t (.int .i64 (0)),.nil] [])] []) (.seq (.reg [f 0 v1,g l0,f 1 v1,g l0,u (.app (.c (.nil)) l0 true 1),u (.bd [.t (.int .i64 (0)),.nil] [(0,1,.l 3),(1,1,.l 0)]),u (.st v2 l0 2 [])] [(1,5)]) .ret)),res:=[(2,some (2,true))]}
def iA:C:=(.seq (.ite [m v3,m v0,u (.ln l0),u (.bin .lss l2 l0)] [] 0 .skip (.exit 0)) (.seq (.blk 1 (.ite [m v0,m v3,a 1 l1 l0,g l0,m v1,m v3,a 1 l1 l0,g l0,u (.bin .neq l4 l0)] [] 0 (.seq (.reg [w 2 (.mv (.b false))] []) .ret) .skip)) (.reg [m v3,u (.bin .add l0 (.i 1)),w 3 (.mv l0)] [])))
def oC:C:= .loop true [2] K.iA
def cM:Fn:={ nargs:=2,vars:=[0,1,4,5],body:=(.seq (.reg [w 2 (.mv (.b false))] []) (.seq (.ite [m v0,u (.ln l0),m v1,u (.ln l0),u (.bin .neq l2 l0)] [] 0 (.seq (.reg [w 2 (.mv (.b false))] []) .ret) .skip) (.seq (.seq (.reg [w 3 (.mv (.i 0))] []) (.blk 0 K.oC)) (.seq (.reg [w 2 (.mv (.b true))] []) .ret)))),res:=[(2,none)]}
def nM:C:=(.seq (.ite [m v7,f 1 v2,g l0,u (.ln l0),u (.bin .lss l3 l0)] [] 0 .skip (.exit 0)) (.seq (.blk 1 (.reg [f 1 v6,g l0,f 1 v2,g l0,m v7,a 1 l1 l0,g l0,f 1 v3,g l0,m v7,a 1 l1 l0,g l0,u (.mn [.l 5,.l 0]),u (.bs [.l 0] 1),u (.app (.l 12) l0 true 1),f 1 v6,u (.st l0 l1 1 [])] [(1,14)])) (.reg [m v7,u (.bin .add l0 (.i 1)),w 7 (.mv l0)] [])))
def uG:C:= .loop true [0,1,5] K.nM
def gA:Fn:={ nargs:=2,vars:=[0,1,2,3,4,5,6,7],body:=(.seq (.reg [w 2 (.bx v0 2),w 3 (.bx v1 2),w 4 (.al [.t (.int .i64 (0)),.nil] []),w 5 (.mv (.i 0))] []) (.seq (.ite [f 1 v2,g l0,u (.ln l0),f 1 v3,g l0,u (.ln l0),u (.bin .neq l3 l0)] [] 0 (.seq (.reg [u (.bd [.t (.int .i64 (0)),.nil] []),u (.st v4 l0 2 []),w 5 (.mv (.i 6))] []) .ret) .skip) (.seq (.reg [f 0 v2,g l0,f 0 v3,g l0,u (.mx [.l 2,.l 0]),u (.bd [.t (.int .i64 (0)),.nil] [(0,1,.l 0)]),w 6 (.al [.t (.int .i64 (0)),.nil] [(1,1)]),u (.st l0 l1 2 [(1,1)])] []) (.seq (.seq (.reg [w 7 (.mv (.i 0))] []) (.blk 0 K.uG)) (.seq (.reg [h 2 v6,u (.st v4 l0 2 []),w 5 (.mv (.i 0))] []) .ret))))),res:=[(4,some (2,true)),(5,none)]}
def cE:Fn:={ nargs:=5,vars:=[0,1,2,3,4,5,6,10],body:=(.seq (.reg [w 5 (.bx v0 2),w 6 (.bx v1 2),w 7 (.mv (.i 0))] []) (.seq (.ite [h 2 v5,h 2 v6,u (.ca N.eQ 0 [] [.l 1,.l 0]),u (.un .not l0),m l0,y 0 false (.mv v2),y 1 false (.ln l0),y 2 false (.bin .eql l0 (.i 0)),u (.pk l3 (.b true) l0),m l0,y 0 false (.mv v2),y 1 false (.fa v5 0),y 2 false (.ld l0 1 false),y 3 false (.ln l0),y 4 false (.ca N.ji 0 [] [.l 3,.l 0]),y 5 false (.un .not l0),u (.pk l6 (.b true) l0)] [] 0 (.seq (.reg [w 7 (.mv (.i 6))] []) .ret) .skip) (.seq (.ite [m v3,u (.ca N.dv 0 [] [.l 0]),u (.un .not l0),m l0,y 0 false (.mv v4),y 1 false (.ca N.dv 0 [] [.l 0]),y 2 false (.un .not l0),u (.pk l3 (.b true) l0),m l0,y 0 false (.mv v3),y 1 false (.mv v4),y 2 false (.bin .gtr l1 l0),u (.pk l3 (.b true) l0)] [] 0 (.seq (.reg [w 7 (.mv (.i 8))] []) .ret) .skip) (.seq (.reg [w 7 (.mv (.i 0))] []) .ret)))),res:=[(7,none)]}
def ez:C:=(.seq (.ite [m v8,f 1 v4,g l0,u (.ln l0),u (.bin .lss l3 l0)] [] 0 .skip (.exit 2)) (.seq (.blk 3 (.seq (.reg [f 1 v4,g l0,m v8,a 10 l1 l0,h 10 l0,w 9 (.al [.t (.int .i64 (0)),.t (.int .i64 (0)),.t (.int .i64 (0)),.t (.int .i64 (0)),.t (.bool false),.t (.bool false),.t (.int .i64 (0)),.t (.int .i64 (0)),.t (.int .i64 (0)),.t (.int .i64 (0))] []),u (.st l0 l1 10 [])] []) (.seq (.ite [m v3,u (.eqk (.sl) false l0 (.c (.nil))),m l0,y 0 false (.mv v3),y 1 false (.fa v9 1),y 2 false (.ld l0 1 false),y 3 false (.ca N.gw 0 [] [.l 2,.l 0]),u (.pk l4 (.b true) l0),m l0,y 0 true (.mv v6),y 1 true (.fa v9 0),y 2 true (.ld l0 1 false),y 3 true (.fa v9 1),y 4 true (.ld l0 1 false),y 5 true (.ld v4 2 true),y 6 true (.mv v8),y 7 true (.ca N.gB 0 [] [.l 1,.l 0,.b false]),y 8 true (.mv v2),y 9 true (.ca N.du 0 [0] [.l 8,.l 6,.l 4,.l 1,.l 0]),u (.pk l10 l0 (.b false))] [(11,17),(13,17)] 0 (.reg [w 7 (.mv (.b true))] []) .skip) (.ite [m v3,u (.eqk (.sl) false l0 (.c (.nil))),m l0,y 0 false (.mv v3),y 1 false (.fa v9 0),y 2 false (.ld l0 1 false),y 3 false (.ca N.gw 0 [] [.l 2,.l 0]),u (.pk l4 (.b true) l0),m l0,y 0 true (.mv v6),y 1 true (.fa v9 1),y 2 true (.ld l0 1 false),y 3 true (.fa v9 0),y 4 true (.ld l0 1 false),y 5 true (.ld v4 2 true),y 6 true (.mv v8),y 7 true (.ca N.gB 0 [] [.l 1,.l 0,.b true]),y 8 true (.mv v2),y 9 true (.ca N.du 0 [0] [.l 8,.l 6,.l 4,.l 1,.l 0]),u (.pk l10 l0 (.b false))] [(11,17),(13,17)] 0 (.reg [w 7 (.mv (.b true))] []) .skip)))) (.reg [m v8,u (.bin .add l0 (.i 1)),w 8 (.mv l0)] [])))
def sq:C:= .loop true [0,1,5,9] K.ez
def jZ:C:=(.seq (.ite [m v7] [] 0 .skip (.exit 0)) (.blk 1 (.seq (.reg [w 7 (.mv (.b false))] []) (.seq (.reg [w 8 (.mv (.i 0))] []) (.blk 2 K.sq)))))
def sr:C:= .loop true [0,1,5,8,9] K.jZ
def eR:Fn:={ nargs:=4,vars:=[0,1,2,3,4,8,9,10,11,12],body:=(.seq (.reg [w 4 (.bx v0 2),w 5 (.mv (.c (.nil)))] []) (.seq (.reg [m v1,u (.app (.c (.nil)) l0 true 1),w 6 (.mv l0)] []) (.seq (.seq (.reg [w 7 (.mv (.b true))] []) (.blk 0 K.sr)) (.seq (.reg [m v6,w 5 (.mv l0)] []) .ret)))),res:=[(5,none)]}
def bq:C:=(.its [u (.bin .lss v5 v4)] [] 0 .skip (.exit 0) (.seq (.blk 1 (.seq (.reg [m v5,w 3 (.mv l0)] []) (.ite [m v1,m v0,m v3,a 1 l1 l0,g l0,u (.cw l4 0 [] [.l 0])] [] 0 (.seq (.reg [m v3,w 2 (.mv l0)] []) .ret) .skip))) (.reg [u (.bin .add v5 (.i 1)),w 5 (.mv l0)] [])))
def fC:C:= .loop true [2,3] K.bq
def aF:Fn:={ nargs:=2,vars:=[0,1,4,5,7,8],body:=(.seq (.reg [w 2 (.mv (.i 0))] []) (.seq (.seq (.reg [m v0,w 4 (.ln l0),w 5 (.mv (.i 0))] []) (.blk 0 K.fC)) (.seq (.reg [w 2 (.mv (.i (-1)))] []) .ret))),res:=[(2,none)]}
def eH:C:=(.its [u (.bin .lss v5 v4)] [] 0 .skip (.exit 0) (.seq (.blk 1 (.seq (.reg [m v5,w 3 (.mv l0)] []) (.ite [m v1,m v0,m v3,a 1 l1 l0,g l0,u (.bin .eql l4 l0)] [] 0 (.seq (.reg [m v3,w 2 (.mv l0)] []) .ret) .skip))) (.reg [u (.bin .add v5 (.i 1)),w 5 (.mv l0)] [])))
def j3:C:= .loop true [2,3] K.eH
def bE:Fn:={ nargs:=2,vars:=[0,1,4,5,7,8],body:=(.seq (.reg [w 2 (.mv (.i 0))] []) (.seq (.seq (.reg [m v0,w 4 (.ln l0),w 5 (.mv (.i 0))] []) (.blk 0 K.j3)) (.seq (.reg [w 2 (.mv (.i (-1)))] []) .ret))),res:=[(2,none)]}
def bR:Fn:={ nargs:=4,vars:=[0,1,2,3,4,5],body:=(.seq (.reg [w 4 (.bx v0 1),w 5 (.mv (.b false))] []) (.seq (.reg [f 0 v1,g l0,u (.mf N.aZ [.v 2,.v 4,.v 3]),u (.ca N.au 0 [] [.l 1,.l 0]),w 5 (.mv l0)] []) .ret)),res:=[(5,none)]}
def au:Fn:={ nargs:=2,vars:=[0,1,4],body:=(.seq (.reg [w 2 (.mv (.b false))] []) (.seq (.reg [m v0,m v1,u (.ca N.aC 0 [] [.l 1,.l 0]),u (.bin .geq l0 (.i 0)),w 2 (.mv l0)] []) .ret)),res:=[(2,none)]}
def aZ:Fn:={ nargs:=4,vars:=[0,1,2,3,4,5],body:=(.seq (.reg [w 4 (.bx v0 2),w 5 (.mv (.b false))] []) (.seq (.reg [g v1,f 1 v4,g l0,u (.ln l0),u (.bin .sub l0 (.i 1)),u (.ca N.dF 0 [] [.l 4,.i 0,.l 0]),m l0,y 0 true (.ld v2 1 false),y 1 true (.fa v4 1),y 2 true (.ld l0 1 false),y 3 true (.ld v1 1 false),y 4 true (.ia l1 l0 2),y 5 true (.fa l0 1),y 6 true (.ld l0 1 false),y 7 true (.ln l0),y 8 true (.bin .lss l7 l0),u (.pk l9 l0 (.b false)),m l0,y 0 true (.fa v4 1),y 1 true (.ld l0 1 false),y 2 true (.ld v1 1 false),y 3 true (.ia l1 l0 2),y 4 true (.fa l0 1),y 5 true (.ld l0 1 false),y 6 true (.ld v2 1 false),y 7 true (.ia l1 l0 1),y 8 true (.ld l0 1 false),y 9 true (.ld v3 1 false),y 10 true (.bin .leq l1 l0),u (.pk l11 l0 (.b false)),w 5 (.mv l0)] []) .ret)),res:=[(5,none)]}
def dF:Fn:={ nargs:=3,vars:=[0,1,2,6],body:=(.seq (.reg [w 3 (.mv (.b false))] []) (.seq (.reg [m v0,m v1,u (.bin .geq l1 l0),m l0,y 0 true (.mv v0),y 1 true (.mv v2),y 2 true (.bin .leq l1 l0),u (.pk l3 l0 (.b false)),w 3 (.mv l0)] []) .ret)),res:=[(3,none)]}
def gD:C:=(.seq (.ite [m v4,f 1 v2,g l0,u (.ln l0),u (.bin .lss l3 l0)] [] 0 .skip (.exit 0)) (.seq (.blk 1 (.ite [f 1 v2,g l0,m v4,a 1 l1 l0,g l0,u (.bin .neq l0 (.i 1099511627776)),m l0,y 0 true (.fa v2 1),y 1 true (.ld l0 1 false),y 2 true (.mv v4),y 3 true (.ia l1 l0 1),y 4 true (.ld l0 1 false),y 5 true (.bin .lss l0 (.i 0)),y 6 true (.mv l0),y 0 false (.fa v2 1),y 1 false (.ld l0 1 false),y 2 false (.mv v4),y 3 false (.ia l1 l0 1),y 4 false (.ld l0 1 false),y 5 false (.bin .gtr l0 (.i 2147483648)),y 13 true (.pk l6 (.b true) l0),u (.pk (.l 14) l0 (.b false))] [] 0 (.seq (.reg [w 3 (.mv (.b false))] []) .ret) .skip)) (.reg [m v4,u (.bin .add l0 (.i 1)),w 4 (.mv l0)] [])))
def sx:C:= .loop true [0,1,3] K.gD
def dZ:Fn:={ nargs:=2,vars:=[0,1,2,4,5],body:=(.seq (.reg [w 2 (.bx v0 2),w 3 (.mv (.b false))] []) (.seq (.ite [f 1 v2,g l0,u (.ln l0),m v1,u (.bin .neq l1 l0),m l0,y 0 false (.fa v2 0),y 1 false (.ld l0 1 false),y 2 false (.bin .lss l0 (.i 0)),u (.pk l3 (.b true) l0),m l0,y 0 false (.fa v2 0),y 1 false (.ld l0 1 false),y 2 false (.bin .gtr l0 (.i 2147483648)),u (.pk l3 (.b true) l0)] [] 0 (.seq (.reg [w 3 (.mv (.b false))] []) .ret) .skip) (.seq (.seq (.reg [w 4 (.mv (.i 0))] []) (.blk 0 K.sx)) (.seq (.reg [w 3 (.mv (.b true))] []) .ret)))),res:=[(3,none)]}
def du:Fn:={ nargs:=5,vars:=[0,1,2,3,4,10,11],body:=(.seq (.reg [w 5 (.mv (.b false))] []) (.seq (.ite [m v3,u (.bin .lss l0 (.i 0)),m l0,y 0 false (.mv v0),y 1 false (.mv v1),y 2 false (.ia l1 l0 1),y 3 false (.ld l0 1 false),y 4 false (.bin .geq l0 (.i 1099511627776)),u (.pk l5 (.b true) l0)] [] 0 (.seq (.reg [w 5 (.mv (.b false))] []) .ret) .skip) (.seq (.reg [m v4,m v0,m v1,a 1 l1 l0,g l0,m v3,u (.bin .add l1 l0),u (.mx [.l 6,.l 0]),w 6 (.mv l0)] []) (.seq (.ite [m v6,u (.bin .gtr l0 (.i 2147483648)),m l0,y 0 false (.mv v6),y 1 false (.mv v0),y 2 false (.mv v2),y 3 false (.ia l1 l0 1),y 4 false (.ld l0 1 false),y 5 false (.bin .geq l4 l0),u (.pk l6 (.b true) l0)] [] 0 (.seq (.reg [w 5 (.mv (.b false))] []) .ret) .skip) (.seq (.reg [m v0,m v2,m v6,a 1 l2 l1,u (.st l0 l1 1 [])] []) (.seq (.reg [w 5 (.mv (.b true))] []) .ret)))))),res:=[(5,none)]}
def gB:Fn:={ nargs:=3,vars:=[0,1,2,3,6],body:=(.seq (.reg [w 3 (.bx v0 2),w 4 (.mv (.i 0))] []) (.seq (.reg [h 2 v3,m v1,m v2,u (.ca N.bX 0 [] [.l 2,.l 1,.l 0,.i 6,.i 9,.i 12]),w 4 (.mv l0)] []) .ret)),res:=[(4,none)]}
def bG:C:=(.its [u (.bin .lss v5 v4)] [] 0 .skip (.exit 0) (.seq (.blk 1 (.seq (.reg [m v5,w 3 (.mv l0)] []) (.ite [m v1,m v0,m v3,a 2 l1 l0,h 2 l0,u (.cw l4 0 [] [.l 0])] [] 0 (.seq (.reg [m v3,w 2 (.mv l0)] []) .ret) .skip))) (.reg [u (.bin .add v5 (.i 1)),w 5 (.mv l0)] [])))
def eB:C:= .loop true [2,3] K.bG
def aC:Fn:={ nargs:=2,vars:=[0,1,4,5,7,8],body:=(.seq (.reg [w 2 (.mv (.i 0))] []) (.seq (.seq (.reg [m v0,w 4 (.ln l0),w 5 (.mv (.i 0))] []) (.blk 0 K.eB)) (.seq (.reg [w 2 (.mv (.i (-1)))] []) .ret))),res:=[(2,none)]}
def bX:Fn:={ nargs:=6,vars:=[0,1,2,3,4,5,6,12,13,14,15,16,17],body:=(.seq (.reg [w 6 (.bx v0 2),w 7 (.mv (.i 0))] []) (.seq (.ite [h 2 v6,u (.ca N.dE 0 [] [.l 0]),u (.bin .neq l0 (.i 0)),m l0,y 0 false (.mv v1),y 1 false (.bin .lss l0 (.i 0)),u (.pk l2 (.b true) l0),m l0,y 0 false (.mv v1),y 1 false (.fa v6 1),y 2 false (.ld l0 1 false),y 3 false (.ln l0),y 4 false (.bin .geq l3 l0),u (.pk l5 (.b true) l0),m l0,y 0 false (.fa v6 1),y 1 false (.ld l0 1 false),y 2 false (.mv v1),y 3 false (.ia l1 l0 10),y 4 false (.fa l0 5),y 5 false (.ld l0 1 false),u (.pk l6 (.b true) l0),m l0,y 0 false (.fa v6 1),y 1 false (.ld l0 1 false),y 2 false (.mv v1),y 3 false (.ia l1 l0 10),y 4 false (.fa l0 4),y 5 false (.ld l0 1 false),y 6 false (.un .not l0),u (.pk l7 (.b true) l0)] [] 0 (.seq (.reg [w 7 (.mv (.i (-1)))] []) .ret) .skip) (.seq (.reg [f 1 v6,g l0,m v1,a 10 l1 l0,h 10 l0,w 8 (.al [.t (.int .i64 (0)),.t (.int .i64 (0)),.t (.int .i64 (0)),.t (.int .i64 (0)),.t (.bool false),.t (.bool false),.t (.int .i64 (0)),.t (.int .i64 (0)),.t (.int .i64 (0)),.t (.int .i64 (0))] []),u (.st l0 l1 10 [])] []) (.seq (.reg [h 10 v8,m v2,u (.ca N.hX 0 [] [.l 1,.l 0]),m l0,u (.ex l0 0),u (.ex l1 1),w 9 (.mv l1),w 10 (.mv l1)] []) (.seq (.reg [f 0 v6,g l0,m v10,a 2 l1 l0,f 0 l0,g l0,f 0 v6,g l0,m v9,a 2 l1 l0,f 0 l0,g l0,u (.bin .sub l6 l0),w 11 (.mv l0)] []) (.seq (.reg [m v5,w 12 (.mv l0)] []) (.seq (.ite [m v11,u (.bin .mul (.i 10) l0),f 2 v8,g l0,u (.bin .gtr l2 l0)] [] 0 (.reg [m v3,w 12 (.mv l0)] []) .skip) (.seq (.ite [m v11,u (.bin .mul (.i (-10)) l0),f 2 v8,g l0,u (.bin .gtr l2 l0)] [] 0 (.reg [m v4,w 12 (.mv l0)] []) .skip) (.seq (.reg [f 2 v8,g l0,u (.bin .mul (.i 10) l0),m v12,u (.bin .add l1 l0),u (.bin .sub l0 (.i 1)),m v12,u (.bin .quo l1 l0),w 7 (.mv l0)] []) .ret))))))))),res:=[(7,none)]}
def hX:Fn:={ nargs:=2,vars:=[0,1,2,4,5],body:=(.seq (.reg [w 2 (.bx v0 10),w 3 (.mv (.i 0)),w 4 (.mv (.i 0))] []) (.seq (.ite [m v1] [] 0 (.seq (.reg [f 1 v2,g l0,f 0 v2,g l0,w 3 (.mv l2),w 4 (.mv l1)] []) .ret) .skip) (.seq (.reg [f 0 v2,g l0,f 1 v2,g l0,w 3 (.mv l2),w 4 (.mv l1)] []) .ret))),res:=[(3,none),(4,none)]}
end Go.Ev.K
namespace Go.Ev
class bP [Lib]:Prop where
 ng:Lib.fs N.dV=some K.dV
 o9:Lib.fs N.cU=some K.cU
 iT:Lib.fs N.bj=some K.bj
 qt:Lib.fs N.gZ=some K.gZ
 pc:Lib.fs N.dW=some K.dW
 qu:Lib.fs N.hU=some K.hU
 pd:Lib.fs N.dX=some K.dX
 nN:Lib.fs N.cV=some K.cV
 sW:Lib.fs N.gW=some K.gW
 nO:Lib.fs N.cW=some K.cW
 pf:Lib.fs N.eO=some K.eO
 eT:Lib.fs N.aD=some K.aD
 fU:Lib.fs N.aE=some K.aE
 lr:Lib.fs N.dC=some K.dC
 qv:Lib.fs N.gy=some K.gy
 nQ:Lib.fs N.dv=some K.dv
 pg:Lib.fs N.fB=some K.fB
 ph:Lib.fs N.dY=some K.dY
 qw:Lib.fs N.gz=some K.gz
 pj:Lib.fs N.eQ=some K.eQ
 qx:Lib.fs N.c7=some K.c7
 lu:Lib.fs N.cM=some K.cM
 qy:Lib.fs N.gA=some K.gA
 pn:Lib.fs N.cE=some K.cE
 pq:Lib.fs N.eR=some K.eR
 dQ:Lib.fs N.aF=some K.aF
 iq:Lib.fs N.bE=some K.bE
 j4:Lib.fs N.bR=some K.bR
 cA:Lib.fs N.au=some K.au
 i7:Lib.fs N.aZ=some K.aZ
 vV:Lib.fs N.dF=some K.dF
 pt:Lib.fs N.dZ=some K.dZ
 pv:Lib.fs N.du=some K.du
 qz:Lib.fs N.gB=some K.gB
 cO:Lib.fs N.aC=some K.aC
 nS:Lib.fs N.bX=some K.bX
 qA:Lib.fs N.hX=some K.hX
namespace K
variable [Lib] [bP]
theorem ng:Lib.fs N.dV=some K.dV:=bP.ng
theorem o9:Lib.fs N.cU=some K.cU:=bP.o9
theorem iT:Lib.fs N.bj=some K.bj:=bP.iT
theorem qt:Lib.fs N.gZ=some K.gZ:=bP.qt
theorem pc:Lib.fs N.dW=some K.dW:=bP.pc
theorem qu:Lib.fs N.hU=some K.hU:=bP.qu
theorem pd:Lib.fs N.dX=some K.dX:=bP.pd
theorem nN:Lib.fs N.cV=some K.cV:=bP.nN
theorem sW:Lib.fs N.gW=some K.gW:=bP.sW
theorem nO:Lib.fs N.cW=some K.cW:=bP.nO
theorem pf:Lib.fs N.eO=some K.eO:=bP.pf
theorem eT:Lib.fs N.aD=some K.aD:=bP.eT
theorem fU:Lib.fs N.aE=some K.aE:=bP.fU
theorem lr:Lib.fs N.dC=some K.dC:=bP.lr
theorem qv:Lib.fs N.gy=some K.gy:=bP.qv
theorem nQ:Lib.fs N.dv=some K.dv:=bP.nQ
theorem pg:Lib.fs N.fB=some K.fB:=bP.pg
theorem ph:Lib.fs N.dY=some K.dY:=bP.ph
theorem qw:Lib.fs N.gz=some K.gz:=bP.qw
theorem pj:Lib.fs N.eQ=some K.eQ:=bP.pj
theorem qx:Lib.fs N.c7=some K.c7:=bP.qx
theorem lu:Lib.fs N.cM=some K.cM:=bP.lu
theorem qy:Lib.fs N.gA=some K.gA:=bP.qy
theorem pn:Lib.fs N.cE=some K.cE:=bP.pn
theorem pq:Lib.fs N.eR=some K.eR:=bP.pq
theorem dQ:Lib.fs N.aF=some K.aF:=bP.dQ
theorem iq:Lib.fs N.bE=some K.bE:=bP.iq
theorem j4:Lib.fs N.bR=some K.bR:=bP.j4
theorem cA:Lib.fs N.au=some K.au:=bP.cA
theorem i7:Lib.fs N.aZ=some K.aZ:=bP.i7
theorem vV:Lib.fs N.dF=some K.dF:=bP.vV
theorem pt:Lib.fs N.dZ=some K.dZ:=bP.pt
theorem pv:Lib.fs N.du=some K.du:=bP.pv
theorem qz:Lib.fs N.gB=some K.gB:=bP.qz
theorem cO:Lib.fs N.aC=some K.aC:=bP.cO
theorem nS:Lib.fs N.bX=some K.bX:=bP.nS
theorem qA:Lib.fs N.hX=some K.hX:=bP.qA
end K
end Go.Ev
namespace Go.Ev
open Go
variable [Lib]
noncomputable def aG:aJ:=my Lib.fs
theorem av{raw f:Nat}{args:List D}{H:af}{fn:Fn}{r:D×af}(hf:Lib.fs f=some fn)(hn:fn.nargs=args.length)
 (h:(exS aG fn.body ⟨rY args fn.vars,H⟩).bind (abF fn.res H.length raw)=some r) (h0:fn.prim=[]:=by rfl):aG raw f args H=some r:=RT hf hn h h0
theorem yS{raw f:Nat}{args:List D}{H:af}{fn:Fn}{r:D×af}(hf:Lib.fs f=some fn)(h0:fn.prim≠[])(h:xG fn.prim args H=some r):aG raw f args H=some r:=HD hf h0 h
theorem b7{gc:Bool}{dead:List Nat}{c:C}{vs:List D}{H:af}(s:Nat→St)(n:Nat){e:Ex}{st:St}
 (h0:(⟨jR dead vs,H⟩:St)=s 0) (h:∀j,j<n→fh gc dead (s j).H.length (exS aG c (s j))=some (s (j+1)))
 (he:exS aG c (s n)=some (e,st)) (hn:e≠ .normal):exS aG (.loop gc dead c) ⟨vs,H⟩=some (e,st):=by
 show mw gc dead (exS aG c) ⟨jR dead vs,H⟩=_
 rw[h0]
 exact x8 s n h (eG he hn)
theorem sX{gc:Bool}{dead:List Nat}{c:C}{vs:List D}{H:af}{p:Ex×St}(h:mw gc dead (exS aG c) ⟨jR dead vs,H⟩=some p):exS aG (.loop gc dead c) ⟨vs,H⟩=some p:=h
class Dat (α:Type) where
 dflt:α
instance : Dat Int := ⟨0⟩
instance : Dat Nat := ⟨0⟩
instance : Dat Bool := ⟨false⟩
instance {α : Type} : Dat (List α) := ⟨[]⟩
def nth{α:Type} [Dat α](l:List α)(j:Nat):α:=l.getD j Dat.dflt
theorem ff{α:Type} [Dat α]{l:List α}{j:Nat}(h:j<l.length):l[j]?=some (nth l j):=by simp[nth,h]
theorem eU{α β:Type} [Dat α](f:α→β){l:List α}{j:Nat}(h:j<l.length):(l.map f)[j]?=some (f (nth l j)):=by rw[List.getElem?_map,ff h];rfl
theorem GA{α β γ:Type} [Dat α](f:β→γ)(g:α→β){l:List α}{j:Nat}(h:j<l.length):((l.map g).map f)[j]?=some (f (g (nth l j))):=by rw[List.getElem?_map,eU g h];rfl
theorem ah{α:Type} [Dat α]{l:List α}{j:Nat}(h:j<l.length):nth l j∈l:=List.mem_of_getElem? (ff h)
theorem b8{α:Type} [Dat α]{l:List α}{j:Nat}{x:α}(h:l[j]?=some x):nth l j=x:=by simp[nth,h]
theorem uH{α:Type} [Dat α]{l:List α}{j:Nat}(h:j<l.length):l.take (j+1)=l.take j++[nth l j]:=by
 rw[List.take_succ_eq_append_getElem h];simp[nth,h]
theorem afQ{a b:Int}(h:a<b):(a<b)=True:=by simp[h]
theorem afR{a b:Int}(h:b≤a):(a<b)=False:=by simp[Int.not_lt.2 h]
theorem afS{a b:Int}(h:a≤b):(a≤b)=True:=by simp[h]
theorem afT{a b:Int}(h:b<a):(a≤b)=False:=by simp[Int.not_le.2 h]
theorem afU{a b:Int}(h:a=b):(a=b)=True:=by simp[h]
theorem afV{a b:Int}(h:a≠b):(a=b)=False:=by simp[h]
theorem afW{a b:Nat}(h:a<b):(a<b)=True:=by simp[h]
theorem afX{a b:Nat}(h:b≤a):(a<b)=False:=by simp[Nat.not_lt.2 h]
theorem afY{a b:Nat}(h:a≤b):(a≤b)=True:=by simp[h]
theorem afZ{a b:Nat}(h:b<a):(a≤b)=False:=by simp[Nat.not_le.2 h]
theorem af0{a b:Nat}(h:a=b):(a=b)=True:=by simp[h]
theorem af1{a b:Nat}(h:a≠b):(a=b)=False:=by simp[h]
attribute [go_sem] af0 af1 afQ afR afS afT afU afV afW afX afY afZ sO eU GA R8
@[go_sem] theorem HN (a b : Nat) : ((a + b : Nat) : Int) = (a : Int) + (b : Int) := (rfl)
@[go_sem] theorem HO : ((1 : Nat) : Int) = 1 := (rfl)
@[go_sem] theorem EP : ((0 : Nat) : Int) = 0 := (rfl)
@[go_sem] theorem Z8 (a b : Int) : a + b - b = a := Int.add_sub_cancel a b
@[go_sem] theorem P3 : (0 : Int).toNat = 0 := (rfl)
@[go_sem] theorem SS (n : Nat) : (n : Int).toNat = n := (rfl)
@[go_sem] theorem SU (n : Nat) : ((n : Int) + 1).toNat = n + 1 := (rfl)
@[go_sem] theorem SV (a : Int) : 0 + a = a := Int.zero_add a
@[go_sem] theorem SW (a : Int) : a + 0 = a := Int.add_zero a
@[go_sem] theorem SX (a : Int) : a - 0 = a := Int.sub_zero a
abbrev tI(n:Int):T:= .int .i64 n
abbrev tL(l:List Int):T:= .sl (l.map (.int .i64))
@[go_sem] theorem NM (H : af) (n : Nat) (ts : List T) (x : T) : bW (frz H n) (ts.map .t ++ [.t x]) = some (ts ++ [x]) := by
 have:ts.map D.t++[.t x]=(ts++[x]).map .t:=by simp
 rw[this,HG]
@[go_sem] theorem P4 {α β : Type} (f : α → β) (a b : List α) : (a ++ b).map f = a.map f ++ b.map f := List.map_append
end Go.Ev
namespace Go.Ev
open Go
variable [Lib] [cu] [bP]
def Mod(n m:Int):Int:=if m<1 then 0 else if n.tmod m<0 then n.tmod m+m else n.tmod m
theorem Z9(n m:Int):0≤Mod n m:=by
 unfold Mod
 split
 · omega
 · have h5:=Int.lt_tmod_of_pos n (b:=m) (by omega)
   split<;>omega
theorem aaa(n m:Int)(h:1≤m):Mod n m<m:=by
 unfold Mod
 rw[if_neg (by omega)]
 have h3:=Int.tmod_lt_of_pos n (b:=m) (by omega)
 split<;>omega
theorem aab(n m:Int)(hm:m≤4611686018427387904):aG 0 N.jw [I n,I m] []=some (I (Mod n m),[]):=by
 refine av K.vU rfl ?_
 unfold Mod
 by_cases h1:m<1
 · simp only[go_sem,K.jw,h1,↓reduceIte]
 · have h2:m≠0:=by omega
   have h3:=Int.tmod_lt_of_pos n (b:=m) (by omega)
   have h5:=Int.lt_tmod_of_pos n (b:=m) (by omega)
   by_cases h4:n.tmod m<0
   · simp (disch:=omega) only[go_sem,K.jw,h1,↓reduceIte,h2,h4]
   · simp (disch:=omega) only[go_sem,K.jw,h1,↓reduceIte,h2,h4]
theorem NN(l:List Int):aG 0 N.gY [.t (tL l)] []=some (B (decide (l.length≤400)),[]):=by
 refine av K.qp rfl ?_
 simp (disch:=omega) only[go_sem,K.gY,↓reduceIte]
 simp only[show((l.length:Int)≤400)=(l.length≤400)by rw[eq_iff_iff];omega]
structure aA where
 L:List Int
 at_:Nat
def aA.obj(d:aA):Obj:= .box [.t (tL d.L),I d.at_]
def aA.dB(d:aA):Prop:=d.L.length≤400
def aA.next(d:aA)(n:Int):Int×aA:=if d.at_<d.L.length then(Mod (nth d.L d.at_) n,⟨d.L,d.at_+1⟩)else(0,d)
theorem aA.P5(d:aA)(n:Int):(d.next n).2.L=d.L:=by unfold aA.next;split<;>rfl
theorem aA.aO{d:aA}(h:d.dB)(n:Int):(d.next n).2.dB:=by unfold aA.dB;rw[d.P5];exact h
theorem aA.dO(d:aA)(n:Int):0≤(d.next n).1:=by unfold aA.next;split<;>simp[Z9]
theorem aA.dP(d:aA){n:Int}(h:1≤n):(d.next n).1<n:=by unfold aA.next;split<;>simp[aaa _ _ h];omega
theorem fV(d:aA)(n:Int)(hn:n≤4611686018427387904)(hd:d.dB):aG 0 N.ax [.bp 0 0,I n] [d.obj]=some (I (d.next n).1,[(d.next n).2.obj]):=by
 refine av K.kZ rfl ?_
 have hm:=aab (nth d.L d.at_) n hn
 unfold aA.dB at hd
 unfold aA.next aA.obj
 by_cases h1:d.at_<d.L.length
 · simp (disch:=omega) only[go_sem,K.ax,↓reduceIte,↓if_pos,↓if_neg,Int.add_sub_cancel,hm,Int.natCast_add]
 · simp (disch:=omega) only[go_sem,K.ax,↓reduceIte,↓if_pos,↓if_neg]
@[go_sem] theorem ac7 (d : aA) : Gy (some d.obj) = [] := by simp only [aA.obj, go_sem]
@[go_sem] theorem ac8 (f : Nat → Option Nat) (d : aA) : gN f d.obj = some d.obj := by simp only [aA.obj, go_sem]
@[go_sem] theorem ac9 (k : Nat) (d : aA) (r : af) : fI k (d.obj :: r) = fI k r := by simp only [aA.obj, go_sem]
def aA.one(d:aA)(n:Int):Bool×aA:=(decide ((d.next n).1=n-1),(d.next n).2)
theorem aA.yT{d:aA}(h:d.dB)(n:Int):(d.one n).2.dB:=aA.aO h n
theorem Kl(d:aA)(n:Int)(h1:0≤n)(hn:n≤4611686018427387904)(hd:d.dB):aG 0 N.bQ [.bp 0 0,I n] [d.obj]=some (B (d.one n).1,[(d.one n).2.obj]):=by
 refine av K.mE rfl ?_
 have hm:=fV d n hn hd
 unfold aA.one
 simp (disch:=omega) only[go_sem,K.bQ,↓reduceIte,hm]
def aA.of(d:aA)(l:List Int):Int×aA:=(nth l (d.next l.length).1.toNat,(d.next l.length).2)
theorem aA.nh{d:aA}(h:d.dB)(l:List Int):(d.of l).2.dB:=aA.aO h _
theorem aA.uI(d:aA){l:List Int}(h:l≠[]):(d.of l).1∈l:=by
 unfold aA.of
 have hl:0<l.length:=List.length_pos_iff.2 h
 have:=d.dO l.length
 have:=d.dP (n:=l.length) (by omega)
 exact ah (by omega)
theorem Km(d:aA)(l:List Int)(hl:l≠[])(hl2:l.length≤4294967296)(hd:d.dB):aG 0 N.cq [.bp 0 0,.t (tL l)] [d.obj]=some (I (d.of l).1,[(d.of l).2.obj]):=by
 refine av K.nG rfl ?_
 have hm:=fV d l.length (by omega) hd
 have h0:0<l.length:=List.length_pos_iff.2 hl
 have h1:=d.dO l.length
 have h2:=d.dP (n:=l.length) (by omega)
 unfold aA.of
 simp (disch:=omega) only[go_sem,K.cq,↓reduceIte,hm]
def aA.lV(d:aA):Nat→List Int×aA
 | 0=>([],d)
 | k+1=>(if((d.lV k).2.next 3).1=0 then(d.lV k).1++[(k:Int)]else(d.lV k).1,((d.lV k).2.next 3).2)
theorem aA.mG{d:aA}(h:d.dB):∀n,(d.lV n).2.dB
 | 0=>h
 | n+1=>aA.aO (aA.mG h n) 3
theorem aA.yU(d:aA):∀n,(d.lV n).1.length≤n
 | 0=>Nat.le_refl _
 | n+1=>by
   have:=d.yU n
   unfold aA.lV
   simp only
   split<;>simp<;>omega
theorem SY(d:aA)(n:Nat)(hn:n≤1000000)(hd:d.dB):aG 0 N.c8 [.bp 0 0,I n] [d.obj]=some (.t (tL (d.lV n).1),[(d.lV n).2.obj]):=by
 refine av K.lf rfl ?_
 have hlen:=d.yU
 have loop:exS aG K.oA ⟨[.bp 0 0,I n,.nil,.ref 1 0 0,I 0],[d.obj,.arr 1 false 0 []]⟩=
  some (.exit 0,⟨[.bp 0 0,I n,.und,.ref 1 0 (d.lV n).1.length,I n],[(d.lV n).2.obj,.arr 1 false 0 (((d.lV n).1.map (T.int .i64)).map .t)]⟩):=by
  refine b7 (fun j=>⟨[.bp 0 0,I n,.und,.ref 1 0 (d.lV j).1.length,I j],[(d.lV j).2.obj,.arr 1 false 0 (((d.lV j).1.map (T.int .i64)).map .t)]⟩) n rfl ?_ ?_ (by simp)
  · intro j hj
    have hm:=fV (d.lV j).2 3 (by omega) (aA.mG hd j)
    have:=hlen j
    by_cases h:((d.lV j).2.next 3).1=0
    · simp (disch:=omega) only[go_sem,K.iz,hm,h,aA.lV,↓reduceIte]
    · simp (disch:=omega) only[go_sem,K.iz,hm,h,aA.lV,↓reduceIte]
  · simp (disch:=omega) only[go_sem,K.iz,↓reduceIte]
 simp (disch:=omega) only[go_sem,K.c8,↓reduceIte,loop]
theorem bY{gc:Bool}{dead:List Nat}{c:C}{vs:List D}{H:af}(s:Nat→St)(n:Nat)(p:Nat→Bool)(e:Nat→Ex×St)(eN:Ex×St)
 (h0:(⟨jR dead vs,H⟩:St)=s 0) (hs:∀j,j<n→p j=false→fh gc dead (s j).H.length (exS aG c (s j))=some (s (j+1)))
 (he:∀j,j<n→p j=true→exS aG c (s j)=some (e j)∧(e j).1≠ .normal) (hN:exS aG c (s n)=some eN) (hn:eN.1≠ .normal):
 exS aG (.loop gc dead c) ⟨vs,H⟩=some (match (List.range n).find? p with | some j=>e j | none=>eN):=by
 show mw gc dead (exS aG c) ⟨jR dead vs,H⟩=_
 rw[h0]
 cases hf:(List.range n).find? p with
 | none=>
   refine x8 s n (fun j hj=>hs j hj ?_) (eG hN hn)
   have:=List.find?_eq_none.1 hf j (List.mem_range.2 hj)
   simpa using this
 | some k=>
   obtain⟨h1,as,bs,h2,h3⟩:=List.find?_eq_some_iff_append.1 hf
   have hk:k<n:=List.mem_range.1 (List.mem_of_find?_eq_some hf)
   have hlt:∀j,j<k→p j=false:=by
    intro j hj
    have hlen:as.length=k:=by
     have h4:(List.range n)[as.length]?=some k:=by rw[h2];simp
     have h5:as.length<n:=by
      have:=congrArg List.length h2;simp at this;omega
     rw[List.getElem?_range h5]at h4
     exact Option.some.inj h4
    have:j∈as:=by
     have h6:(List.range n)[j]?=some j:=List.getElem?_range (by omega)
     rw[h2,List.getElem?_append_left (by omega)]at h6
     exact List.mem_of_getElem? h6
    simpa using h3 j this
   obtain⟨k1,k2⟩:=he k hk h1
   exact x8 s k (fun j hj=>hs j (by omega) (hlt j hj)) (eG k1 k2)
def gE{α:Type}(f:α→α×Bool):Nat→α→α
 | 0,l=>l
 | n+1,l=>if(f l).2 then gE f n (f l).1 else(f l).1
theorem AA{α:Type}{gc:Bool}{dead:List Nat}{c:C}{vs:List D}{H:af}(S:α→Bool→St)(E:α→Ex×St)(f:α→α×Bool)(inv:α→Prop)(mes:α→Nat)
 (hinv:∀l,inv l→inv (f l).1∧((f l).2=true→mes (f l).1<mes l))
 (hs:∀l,inv l→fh gc dead (S l true).H.length (exS aG c (S l true))=some (S (f l).1 (f l).2))
 (he:∀l,inv l→exS aG c (S l false)=some (E l)∧(E l).1≠ .normal) (l:α) (hl:inv l) (h0:(⟨jR dead vs,H⟩:St)=S l true):
 exS aG (.loop gc dead c) ⟨vs,H⟩=some (E (gE f (mes l+1) l))∧inv (gE f (mes l+1) l):=by
 have key:∀(n:Nat) (l:α),inv l→mes l<n→mw gc dead (exS aG c) (S l true)=some (E (gE f n l))∧inv (gE f n l):=by
  intro n
  induction n with
  | zero=>intro l _ h;omega
  | succ n ih=>
    intro l hl hm
    obtain⟨h1,h2⟩:=hinv l hl
    have hr:=hs l hl
    cases hf:(f l).2 with
    | true=>
      rw[hf]at hr
      obtain⟨k1,k2⟩:=ih (f l).1 h1 (by have:=h2 hf;omega)
      simp only[gE,hf,if_true]
      exact⟨fo hr k1,k2⟩
    | false=>
      rw[hf]at hr
      obtain⟨k1,k2⟩:=he (f l).1 h1
      simp only[gE,hf,Bool.false_eq_true,if_false]
      exact⟨fo hr (eG k1 k2),h1⟩
 have:=key (mes l+1) l hl (Nat.lt_succ_self _)
 show mw gc dead (exS aG c) ⟨jR dead vs,H⟩=_∧_
 rw[h0];exact this
theorem GB{n:Nat}{p:Nat→Bool}:((List.range n).find? p).isSome=(List.range n).any p:=by
 rw[List.isSome_find?]
theorem yV{n j:Nat}{p:Nat→Bool}(h:(List.range n).find? p=some j):j<n∧p j=true:=⟨List.mem_range.1 (List.mem_of_find?_eq_some h),List.find?_some h⟩
def fp(m:Nat):List D:=(List.range m).map fun i=> .bp i 0
def aN(bs:List (List T)):af:=bs.map fun cs=> .box (cs.map .t)
theorem AB{bs:List (List T)}{i:Nat}(h:i<bs.length):(aN bs)[i]?=some (.box (bs[i].map .t)):=by simp[aN,h]
theorem fq(bs:List (List T)):(aN bs).length=bs.length:=by simp[aN]
theorem vW:∀(l sel:List Nat),(sel++l).Nodup→ed sel l=sel++l
 | [],sel,_=>by simp[ed]
 | i::r,sel,h=>by
   have:sel.contains i=false:=by
    rw[← Bool.not_eq_true,List.contains_iff_mem]
    intro hm
    have:=List.nodup_append.1 h
    exact this.2.2 i hm i List.mem_cons_self rfl
   simp only[ed,this,Bool.false_eq_true,if_false]
   rw[vW r (sel++[i]) (by simpa using h)]
   simp
theorem xl:∀(l:List Nat) (i k:Nat),l.Nodup→l[k]?=some i→idxOf l i=some k
 | [],i,k,_,h=>by simp at h
 | a::l,i,0,_,h=>by simp at h;simp[idxOf,h]
 | a::l,i,k+1,hn,h=>by
   simp at h
   have hne:a≠i:=fun e=>(List.nodup_cons.1 hn).1 (e▸List.mem_of_getElem? h)
   simp only[idxOf,if_neg hne,xl l i k (List.nodup_cons.1 hn).2 h,Option.map_some]
theorem ER{m i:Nat}(h:i<m):idxOf (List.range m) i=some i:=xl _ _ _ List.nodup_range (List.getElem?_range h)
theorem ES{α:Type}{f:α→Option α}:∀ {l:List α},(∀x∈l,f x=some x)→bW f l=some l
 | [],_=>rfl
 | a::l,h=>by
   simp only[bW,h a List.mem_cons_self,Option.bind_some,ES fun x hx=>h x (List.mem_cons_of_mem _ hx),Option.map_some]
theorem ET(f:Nat→Option Nat)(cs:List T):gN f (.box (cs.map .t))=some (.box (cs.map .t)):=by
 simp only[HK,ru,Option.map_some]
theorem C0{H:af}:∀ {l:List Nat} {hs:af},l.length=hs.length→(∀(k i:Nat) (o:Obj),l[k]?=some i→hs[k]?=some o→H[i]?=some o)→pick H l=some hs
 | [],[],_,_=>rfl
 | [],_::_,h,_=>by simp at h
 | _::_,[],h,_=>by simp at h
 | i::l,o::hs,h,hg=>by
   rw[Ke,hg 0 i o rfl rfl,Option.bind_some,NI,C0 (l:=l) (hs:=hs) (by simpa using h) fun k i o hk ho=>hg (k+1) i o (by simpa using hk) (by simpa using ho)]
   rfl
theorem xm{H:af}:∀ {l:List Nat} {os:af},(∀(k i:Nat) (o:Obj),l[k]?=some i→os[k]?=some o→H[i]?=some o)→dr H l os=H
 | [],os,_=>by cases os<;>rfl
 | i::l,[],_=>rfl
 | i::l,o::os,hg=>by
   simp only[dr]
   rw[m9 (hg 0 i o rfl rfl)]
   exact xm fun k i o hk ho=>hg (k+1) i o (by simpa using hk) (by simpa using ho)
theorem C1(call:aJ)(bs:List (List T))(E:af)(f raw:Nat)(args:List D){r:D}(h:call raw f args (aN bs)=some (r,aN bs))(hr:xK r=true)
 (ha:∀H:af,oq H [] 0 args=some args∧cC H [] 0 args=[]) (hids:ed [] (xL 8 args)=List.range bs.length)
 (hren:bW (ren (idxOf (List.range bs.length)) 8) args=some args):Gl (aN bs++E) call f raw [] args=some (r,aN bs++E):=by
 generalize hH:aN bs++E=H
 have hget:∀i (hi:i<bs.length),H[i]?=some (.box (bs[i].map .t)):=fun i hi=>by
  rw[← hH,List.getElem?_append_left (by rw[fq];exact hi),AB hi]
 obtain⟨ha,hfz⟩:=ha H
 have hno:kK H (List.range bs.length)=[]:=by
  simp only[kK,List.flatMap_eq_nil_iff,List.mem_range]
  intro i hi
  rw[hget i hi]
  exact xg 8 bs[i]
 have hsel:reach H 3 (List.range bs.length)=List.range bs.length:=by
  simp only[reach,hno,ed]
 have hget2:∀(k i:Nat) (o:Obj),(List.range bs.length)[k]?=some i→(aN bs)[k]?=some o→H[i]?=some o:=by
  intro k i o hk ho
  have hkl:k<bs.length:=by have:=(List.getElem?_eq_some_iff.1 hk).1;simpa using this
  rw[List.getElem?_range hkl]at hk
  cases hk
  rw[AB hkl]at ho
  rw[hget k hkl,←ho]
 have hpick:pick H (List.range bs.length)=some (aN bs):=C0 (by simp[fq]) hget2
 have hro:∀f:Nat→Option Nat,bW (gN f) (aN bs)=some (aN bs):=fun f=>ES fun o ho=>by
  simp only[aN,List.mem_map]at ho
  obtain⟨cs,_,rfl⟩:=ho
  exact ET f cs
 have hput:dr H (List.range bs.length) (aN bs)=H:=xm hget2
 rw[Gp,Gq,ha,Option.bind_some,Gr,hids,hsel,Gs,hren,Option.bind_some,hfz,Gt]
 simp only[pins]
 rw[hpick,Option.bind_some,Gu,hro,Option.bind_some,ND,h,Option.bind_some]
 cases hb:bs with
 | nil=>
   subst hb
   have hrr:=Bm (f:=eE [] H.length) hr
   simp only[depth]at hrr
   simp only[List.length_nil,List.range_zero,aN,List.map_nil]
   unfold sQ
   split
   · rfl
   · rw[Gw,hrr,Option.bind_some,Gv]
     simp[bW,NF,dr]
 | cons b bt=>
   rw[← hb]
   have hne:List.range bs.length=0::(List.range' 1 bt.length):=by rw[hb];simp[List.range_eq_range',List.range'_succ]
   have hrr:=Bm (f:=eE (List.range bs.length) H.length) hr
   simp only[depth]at hrr
   have hw:sQ H H (List.range bs.length) (r,aN bs)=Bo H H.length (List.range bs.length) (r,aN bs):=by
    rw[hne];rfl
   rw[hw,Gw,hrr,Option.bind_some,Gv,hro,Option.bind_some,NG,List.length_range,List.take_of_length_le (by rw[fq];exact Nat.le_refl _),hput,
    List.drop_eq_nil_of_le (by rw[fq];exact Nat.le_refl _),List.append_nil]
theorem EU(H:af)(cs:List D)(hc:∀i,oq H [] i cs=some cs∧cC H [] i cs=[]):∀(ts:List T) (i:Nat),oq H [] i (ts.map .t++cs)=some (ts.map .t++cs)∧cC H [] i (ts.map .t++cs)=[]
 | [],i=>hc i
 | t::ts,i=>by
   obtain⟨h1,h2⟩:=EU H cs hc ts (i+1)
   simp only[List.map_cons,List.cons_append,Az,qm,Ea,PW,ZF,Option.bind_some,Kb,h1,h2,ZW,J9]
   exact⟨rfl,rfl⟩
theorem C2(H:af):∀(l:List Nat) (i:Nat),oq H [] i (l.map fun i=> .bp i 0)=some (l.map fun i=> .bp i 0)∧cC H [] i (l.map fun i=> .bp i 0)=[]
 | [],i=>⟨rfl,rfl⟩
 | a::l,i=>by
   obtain⟨h1,h2⟩:=C2 H l (i+1)
   simp only[List.map_cons,Az,qm,Ea,PW,Sr,Option.bind_some,Kb,h1,h2,ZW,Sy]
   exact⟨rfl,rfl⟩
theorem C3(n m:Nat):xL n (fp m)=List.range m:=by
 simp only[xL,fp,List.flatMap_map]
 have:∀l:List Nat,(l.flatMap fun a=>ids n (.bp a 0))=l:=by
  intro l
  induction l with
  | nil=>rfl
  | cons a l ih=>rw[List.flatMap_cons,ih,Z0];rfl
 exact this _
theorem GC(n m:Nat):bW (ren (idxOf (List.range m)) n) (fp m)=some (fp m):=ES fun d hd=>by
 simp only[fp,List.mem_map,List.mem_range]at hd
 obtain⟨k,hk,rfl⟩:=hd
 rw[Z4,ER hk];rfl
theorem Br{α β:Type}{f:α→Option β}:∀ {a b:List α} {x y:List β},bW f a=some x→bW f b=some y→bW f (a++b)=some (x++y)
 | [],b,x,y,h1,h2=>by simp[bW]at h1;subst h1;exact h2
 | c::a,b,x,y,h1,h2=>by
   simp only[bW,Option.bind_eq_some_iff,Option.map_eq_some_iff]at h1
   obtain⟨z,hz,r,hr,rfl⟩:=h1
   simp only[List.cons_append,bW,hz,Option.bind_some,Br hr h2,Option.map_some]
theorem Kn(call:aJ)(bs:List (List T))(E:af)(f raw:Nat)(ts:List T){r:D}(h:call raw f (ts.map .t++fp bs.length) (aN bs)=some (r,aN bs))(hr:xK r=true):
 Gl (aN bs++E) call f raw [] (ts.map .t++fp bs.length)=some (r,aN bs++E):=
 C1 call bs E f raw _ h hr (fun H=>EU H _ (C2 H _) ts 0)
  (by rw[Gx,xg,List.nil_append,C3,vW _ _ (by simpa using List.nodup_range),List.nil_append])
  (Br (ru _ _ _) (GC _ _))
theorem SZ(call:aJ)(bs:List (List T))(E:af)(g f raw:Nat)(ts:List T){r:D}(h:call raw f (ts.map .t++[.fn g (fp bs.length)]) (aN bs)=some (r,aN bs))(hr:xK r=true):
 Gl (aN bs++E) call f raw [] (ts.map .t++[.fn g (fp bs.length)])=some (r,aN bs++E):=
 C1 call bs E f raw _ h hr (fun H=>EU H _ (fun i=>⟨rfl,rfl⟩) ts 0)
  (by rw[Gx,xg,List.nil_append,Kc,Z1,C3,NH,List.append_nil,vW _ _ (by simpa using List.nodup_range),List.nil_append])
  (Br (ru _ _ _) (by rw[CT,Z7,GC];rfl))
theorem C4{f:Nat}{bs:List (List T)}{x:T}{r:D}(E:af)(h:aG 0 f (.t x::fp bs.length) (aN bs)=some (r,aN bs))(hr:xK r=true):
 Gl (aN bs++E) aG f 0 [] (.t x::fp bs.length)=some (r,aN bs++E):=Kn aG bs E f 0 [x] h hr
theorem mh{f:Nat}{bs:List (List T)}{x:T}{r:D}(h:aG 0 f (.t x::fp bs.length) (aN bs)=some (r,aN bs))(hr:xK r=true):
 Gl (aN bs) aG f 0 [] (.t x::fp bs.length)=some (r,aN bs):=by
 have:=C4 [] h hr;rwa [List.append_nil]at this
theorem vX(call:aJ)(bs:List (List T))(g f raw:Nat)(x:T){r:D}(h:call raw f [.t x,.fn g (fp bs.length)] (aN bs)=some (r,aN bs))(hr:xK r=true):
 Gl (aN bs) call f raw [] [.t x,.fn g (fp bs.length)]=some (r,aN bs):=by
 have:=SZ call bs [] g f raw [x] h hr
 rwa [List.append_nil]at this
section
variable (bs : List (List T)) (o o' : Obj)
@[go_sem] theorem NQ : (aN bs).length = bs.length := fq bs
@[go_sem] theorem WK : (aN bs ++ [o])[bs.length]? = some o := by
 rw[List.getElem?_append_right (by rw[fq];exact Nat.le_refl _),fq];simp
@[go_sem] theorem aac : (aN bs ++ [o]).set bs.length o' = aN bs ++ [o'] := by
 rw[List.set_append_right _ _ (by rw[fq];exact Nat.le_refl _),fq];simp
@[go_sem] theorem WL : (aN bs ++ [o]).take bs.length = aN bs := by
 rw[List.take_append_of_le_length (by rw[fq];exact Nat.le_refl _),List.take_of_length_le (by rw[fq];exact Nat.le_refl _)]
@[go_sem] theorem S0 : (aN bs ++ [o]).take (bs.length + 1) = aN bs ++ [o] := List.take_of_length_le (by simp [fq])
@[go_sem] theorem S1 : (aN bs).take bs.length = aN bs := List.take_of_length_le (by simp [fq])
@[go_sem] theorem S2 (k : Nat) (a b : af) : fI k (a ++ b) = (fI k a && fI k b) := by
 rw[← me,←me,←me,List.all_append]
@[go_sem] theorem NS (k : Nat) : fI k (aN bs) = true := by
 induction bs with
 | nil=>rfl
 | cons b r ih=>
   show(gv k 8 (b.map .t)&&fI k (aN r))=true
   rw[Gm,ih];rfl
@[go_sem] theorem ada (n : Nat) : ltB n (n + 1) = true := by rw [oZ]; simp
@[go_sem] theorem adb (n : Nat) : ltB n n = false := by rw [oZ]; simp
theorem xn(k n m:Nat)(h:m≤k):gv k n (fp m)=true:=by
 unfold gv fp
 rw[List.all_eq_true]
 intro d hd
 obtain⟨i,hi,rfl⟩:=List.mem_map.1 hd
 rw[ZG,oZ]
 have:=List.mem_range.1 hi
 simp;omega
@[go_sem] theorem S3 (n m : Nat) : gv m n (fp m) = true := xn _ _ _ (Nat.le_refl _)
@[go_sem] theorem P6 (n m : Nat) : gv (m + 1) n (fp m) = true := xn _ _ _ (Nat.le_succ _)
end
def kQ(n:Nat)(p:Nat→Bool):List Int:=((List.range n).filter p).map (fun(i:Nat)=>(i:Int))
theorem yW(n:Nat)(p:Nat→Bool):kQ (n+1) p=if p n=true then kQ n p++[(n:Int)]else kQ n p:=by
 unfold kQ
 rw[List.range_succ,List.filter_append,List.map_append]
 by_cases h:p n=true<;>simp[h]
theorem AD(n:Nat)(p:Nat→Bool):(kQ n p).length≤n:=by
 unfold kQ
 rw[List.length_map]
 have:=List.length_filter_le p (List.range n)
 simpa using this
theorem NT(n:Nat)(hn:n≤1000000)(f:Nat)(bs:List (List T))(p:Nat→Bool)(h:∀k,k<n→aG 0 f (I k::fp bs.length) (aN bs)=some (B (p k),aN bs)):
 aG 0 N.eO [I n,.fn f (fp bs.length)] (aN bs)=some (.t (tL (kQ n p)),aN bs):=by
 refine av K.pf rfl ?_
 have hlen:=fun k=>AD k p
 have loop:exS aG K.sk ⟨[I n,.fn f (fp bs.length),.nil,.ref bs.length 0 0,.und,I n,I 0],aN bs++[.arr 1 false 0 []]⟩=
  some (.exit 0,⟨[.und,.fn f (fp bs.length),.und,.ref bs.length 0 (kQ n p).length,.und,I n,I n],aN bs++[.arr 1 false 0 (((kQ n p).map (T.int .i64)).map .t)]⟩):=by
  refine b7 (fun j=>⟨[.und,.fn f (fp bs.length),.und,.ref bs.length 0 (kQ j p).length,.und,I n,I j],aN bs++[.arr 1 false 0 (((kQ j p).map (T.int .i64)).map .t)]⟩) n rfl ?_ ?_ (by simp)
  · intro j hj
    have hc:=C4 [.arr 1 false 0 (((kQ j p).map (T.int .i64)).map .t)] (h j hj) rfl
    have:=hlen j
    by_cases hp:p j=true
    · simp (disch:=omega) only[go_sem,K.jY,hc,hp,yW,↓reduceIte]
    · simp (disch:=omega) only[go_sem,K.jY,hc,hp,yW,↓reduceIte]
  · simp (disch:=omega) only[go_sem,K.jY,↓reduceIte]
 simp (disch:=omega) only[go_sem,K.eO,↓reduceIte,loop]
end Go.Ev
namespace Go.Ev
open Go
variable [Lib] [cu] [bP]
theorem ni{α:Type}(sz:Nat)(f:α→T)(h:∀a,nE sz (f a).cells=true):∀l:List α,cB sz (l.map f)=true
 | []=>rfl
 | a::l=>by rw[List.map_cons,ux,h,ni sz f h l];rfl
@[go_sem] theorem P7 (k : IntKind) (l : List Int) : cB 1 (l.map (.int k)) = true := ni 1 _ (fun _ => rfl) l
theorem uJ(sz:Nat):∀ts:List T,(ts.all fun e=>e.cells.length==sz)=cB sz ts
 | []=>rfl
 | t::ts=>by
   rw[List.all_cons,ux,uJ sz ts]
   congr 1
   rw[Bool.eq_iff_iff,fA];simp
section
variable (H : af) (sz : Nat) (ts : List T) (i j : Int)
@[go_sem] theorem af2 : CV H sz (some (.t (.sl ts))) (some none) (some (some i)) = if 0 ≤ i then (if i ≤ ts.length then (if cB sz ts = true then some (.t (.sl (ts.take i.toNat)), H) else none) else none) else none := by
 simp only[CV,Option.bind_some,m7,bound,uJ,idx]
 by_cases h1:0≤i
 · rw[if_pos h1,if_pos h1,Option.bind_some]
   by_cases h2:i≤ts.length
   · rw[if_pos h2]
     by_cases h3:cB sz ts=true
     · rw[if_pos h3,if_pos ⟨by omega,by omega,h3⟩];rfl
     · rw[if_neg h3,if_neg fun h=>h3 h.2.2];rfl
   · rw[if_neg h2,if_neg fun h=>h2 (by omega)];rfl
 · rw[if_neg h1,if_neg h1];rfl
@[go_sem] theorem af3 : CV H sz (some (.t (.sl ts))) (some (some i)) (some none) = if 0 ≤ i then (if i ≤ ts.length then (if cB sz ts = true then some (.t (.sl (ts.drop i.toNat)), H) else none) else none) else none := by
 simp only[CV,Option.bind_some,m7,bound,uJ,idx]
 by_cases h1:0≤i
 · rw[if_pos h1,if_pos h1,Option.bind_some]
   by_cases h2:i≤ts.length
   · rw[if_pos h2]
     by_cases h3:cB sz ts=true
     · rw[if_pos h3,if_pos ⟨by omega,by omega,h3⟩,List.take_of_length_le (by simp)];rfl
     · rw[if_neg h3,if_neg fun h=>h3 h.2.2];rfl
   · rw[if_neg h2,if_neg fun h=>h2 (by omega)];rfl
 · rw[if_neg h1,if_neg h1];rfl
@[go_sem] theorem aad : CV H sz (some (.t (.sl ts))) (some (some i)) (some (some j)) = if 0 ≤ i then (if i ≤ j then (if j ≤ ts.length then (if cB sz ts = true then some (.t (.sl ((ts.drop i.toNat).take (j.toNat - i.toNat))), H) else none) else none) else none) else none := by
 simp only[CV,Option.bind_some,m7,bound,uJ,idx]
 by_cases h1:0≤i
 · rw[if_pos h1,if_pos h1,Option.bind_some]
   by_cases h0:i≤j
   · rw[if_pos h0,if_pos (by omega:0≤j),Option.bind_some]
     by_cases h2:j≤ts.length
     · rw[if_pos h2]
       by_cases h3:cB sz ts=true
       · rw[if_pos h3,if_pos ⟨by omega,by omega,h3⟩];rfl
       · rw[if_neg h3,if_neg fun h=>h3 h.2.2];rfl
     · rw[if_neg h2,if_neg fun h=>h2 (by omega)];rfl
   · rw[if_neg h0]
     by_cases h2:0≤j
     · rw[if_pos h2,Option.bind_some,if_neg fun h=>h0 (by omega)];rfl
     · rw[if_neg h2];rfl
 · rw[if_neg h1,if_neg h1];rfl
end
def bsK(H:af)(l:List Nat):Option T→Option (D×af)
 | some t=>some (.t (.sl [t]),pins H l)
 | none=>none
@[go_sem] theorem ade (H : af) (l : List Nat) (t : T) : bsK H l (some t) = some (.t (.sl [t]), pins H l) := (rfl)
@[go_sem] theorem adf (H : af) (sz : Nat) (cs : List D) : Ay H sz [.agg cs] = if nE sz cs = true then bsK H (eZ H 8 (.agg cs)) (frz H 8 (.agg cs)) else none := by
 simp only[Ay,List.all_cons,List.all_nil,Bool.and_true,D.cells]
 by_cases h:nE sz cs=true
 · rw[if_pos h,if_pos (by simpa using fA.1 h)]
   simp only[bW,depth,List.flatMap_cons,List.flatMap_nil,List.append_nil]
   cases frz H 8 (.agg cs)<;>rfl
 · rw[if_neg h,if_neg (by intro e;exact h (fA.2 (by simpa using e)))]
@[go_sem] theorem adg (H : af) (id ep n : Nat) : Ay H 1 [.ref id ep n] = bsK H (eZ H 8 (.ref id ep n)) (frz H 8 (.ref id ep n)) := by
 simp only[Ay,List.all_cons,List.all_nil,Bool.and_true,D.cells,List.length_cons,List.length_nil,beq_self_eq_true,if_true,bW,depth,List.flatMap_cons,List.flatMap_nil,List.append_nil]
 cases frz H 8 (.ref id ep n)<;>rfl
def S4(H:af)(r:D)(os:af):D×af:=(r,H++os)
@[go_sem] theorem adh (H : af) (r : D) (os : af) : S4 H r os = (r, H ++ os) := (rfl)
def aae(H:af)(os:af)(r:D):Option (D×af):=(bW (gN (eE [] H.length)) os).map (S4 H r)
@[go_sem] theorem adi (H : af) (os : af) (r : D) : aae H os r = (bW (gN (eE [] H.length)) os).map (S4 H r) := (rfl)
@[go_sem] theorem aaf (H : af) (r : D) (o : Obj) (os : af) : yR H (r, o :: os) = (ren (eE [] H.length) 8 r).bind (aae H (o :: os)) := by
 simp only[yR,List.isEmpty_cons,Bool.and_false,Bool.false_eq_true,if_false]
 rfl
end Go.Ev
namespace Go.Ev
open Go
variable [Lib] [cu] [bP]
structure Place where
 h:Int
 surf:Bool
instance : Dat Place := ⟨⟨0, false⟩⟩
abbrev Place.e(p:Place):T:= .agg [tI p.h,.bool p.surf]
structure Road where
 frm:Int
 to:Int
 len:Int
 area:Int
 walk:Bool
 closed:Bool
 restL:Int
 restH:Int
 liftL:Int
 liftH:Int
instance : Dat Road := ⟨⟨0, 0, 0, 0, false, false, 0, 0, 0, 0⟩⟩
abbrev Road.e(r:Road):T:= .agg [tI r.frm,tI r.to,tI r.len,tI r.area,.bool r.walk,.bool r.closed,tI r.restL,tI r.restH,tI r.liftL,tI r.liftH]
structure aK where
 places:List Place
 roads:List Road
instance : Dat aK := ⟨⟨[], []⟩⟩
abbrev aK.e(m:aK):T:= .agg [.sl (m.places.map Place.e),.sl (m.roads.map Road.e)]
structure Road.ok(n:Nat)(r:Road):Prop where
 f0:0≤r.frm
 f1:r.frm<n
 t0:0≤r.to
 t1:r.to<n
 ne:r.frm≠r.to
 l0:1≤r.len
 l1:r.len≤100000
 a0:1≤r.area
 a1:r.area≤1000
 r0:1≤r.restL
 r1:r.restL≤r.restH
 r2:r.restH≤262144
 i0: -2199023255552≤r.liftL
 i1:r.liftL≤r.liftH
 i2:r.liftH≤2199023255552
structure aK.ok(m:aK):Prop where
 np:m.places.length≤64
 nr:m.roads.length≤128
 hs:∀p∈m.places, -10000≤p.h∧p.h≤10000
 rs:∀r∈m.roads,r.ok m.places.length
theorem C5(a b lo hi:Int):aG 0 N.gy [.t (.agg [tI a,tI b]),I lo,I hi] []=some (B (decide (lo≤a∧a≤b∧b≤hi)),[]):=by
 refine av K.qv rfl ?_
 by_cases h1:lo≤a<;>by_cases h2:a≤b<;>by_cases h3:b≤hi<;>simp (disch:=omega) only[go_sem,K.gy,↓reduceIte,h1,h2,h3]
theorem uK{m:aK}(h:m.ok):aG 0 N.dE [.t m.e] []=some (I 0,[]):=by
 refine av K.o6 rfl ?_
 have np:=h.np
 have nr:=h.nr
 have loop1:∀a b c d e:D,exS aG K.si ⟨[a,.bp 0 0,b,I 0,c,d,e],[.box [.t (.sl (m.places.map Place.e)),.t (.sl (m.roads.map Road.e))]]⟩=
  some (.exit 0,⟨[.und,.bp 0 0,.und,I m.places.length,.und,.und,.und],[.box [.t (.sl (m.places.map Place.e)),.t (.sl (m.roads.map Road.e))]]⟩):=by
  intro a b c d e
  refine b7 (fun j=>⟨[.und,.bp 0 0,.und,I j,.und,.und,.und],[.box [.t (.sl (m.places.map Place.e)),.t (.sl (m.roads.map Road.e))]]⟩) m.places.length rfl ?_ ?_ (by simp)
  · intro j hj
    have hh:=h.hs _ (ah hj)
    simp (disch:=omega) only[go_sem,K.mC,↓reduceIte]
  · simp (disch:=omega) only[go_sem,K.mC,↓reduceIte]
 have loop2:∀a b c d e:D,exS aG K.sj ⟨[a,.bp 0 0,b,c,d,I 0,e],[.box [.t (.sl (m.places.map Place.e)),.t (.sl (m.roads.map Road.e))]]⟩=
  some (.exit 2,⟨[.und,.bp 0 0,.und,.und,.und,I m.roads.length,.und],[.box [.t (.sl (m.places.map Place.e)),.t (.sl (m.roads.map Road.e))]]⟩):=by
  intro a b c d e
  refine b7 (fun j=>⟨[.und,.bp 0 0,.und,.und,.und,I j,.und],[.box [.t (.sl (m.places.map Place.e)),.t (.sl (m.roads.map Road.e))]]⟩) m.roads.length rfl ?_ ?_ (by simp)
  · intro j hj
    obtain⟨f0,f1,t0,t1,ne,l0,l1,a0,a1,r0,r1,r2,i0,i1,i2⟩:=h.rs _ (ah hj)
    have s1:=C5 (nth m.roads j).restL (nth m.roads j).restH 1 262144
    have s2:=C5 (nth m.roads j).liftL (nth m.roads j).liftH (-2199023255552) 2199023255552
    simp (disch:=omega) only[go_sem]at s1 s2
    simp (disch:=omega) only[go_sem,K.mD,↓reduceIte,s1,s2]
  · simp (disch:=omega) only[go_sem,K.mD,↓reduceIte]
 simp (disch:=omega) only[go_sem,K.dE,↓reduceIte,loop1,loop2]
theorem EW{l:List Int}{p:Int→Bool}:((List.range l.length).find? fun j=>p (nth l j)).isSome=l.any p:=by
 rw[List.isSome_find?,Bool.eq_iff_iff,List.any_eq_true,List.any_eq_true]
 constructor
 · rintro ⟨j,hj,h⟩
   exact⟨_,ah (List.mem_range.1 hj),h⟩
 · rintro ⟨x,hx,h⟩
   obtain⟨j,hj⟩:=List.mem_iff_getElem?.1 hx
   exact⟨j,List.mem_range.2 (List.getElem?_eq_some_iff.1 hj).1,by rw[b8 hj];exact h⟩
theorem GD(l:List Int)(x:Int)(hl:l.length≤4294967296):aG 0 N.gw [.t (tL l),I x] []=some (B (decide (x∈l)),[]):=by
 refine av K.sT rfl ?_
 have loop:∀a:D,exS aG K.xi ⟨[.t (tL l),I x,a,I 0],[]⟩=
  some (match (List.range l.length).find? (fun j=>decide (nth l j=x))with
   | some j=>(.ret,⟨[.t (tL l),I x,B true,I j],[]⟩)
   | none=>(.exit 0,⟨[.t (tL l),I x,.und,I l.length],[]⟩)):=by
  intro a
  refine bY (fun j=>⟨[.t (tL l),I x,.und,I j],[]⟩) l.length (fun j=>decide (nth l j=x)) _ _ rfl ?_ ?_ ?_ (by simp)
  · intro j hj hp
    have hp:¬nth l j=x:=of_decide_eq_false hp
    simp (disch:=omega) only[go_sem,K.lT,↓reduceIte]
  · intro j hj hp
    have hp:nth l j=x:=of_decide_eq_true hp
    simp (disch:=omega) only[go_sem,K.lT,↓reduceIte,hp]
    simp
  · simp (disch:=omega) only[go_sem,K.lT,↓reduceIte]
 have e:=EW (l:=l) (p:=fun y=>decide (y=x))
 have e2:l.any (fun y=>decide (y=x))=decide (x∈l):=by rw[Bool.eq_iff_iff];simp
 rw[e2]at e
 simp only[go_sem,K.gw,↓reduceIte,loop]
 cases hf:(List.range l.length).find? (fun j=>decide (nth l j=x))with
 | some j=>rw[hf]at e;simp (disch:=omega) only[go_sem,↓reduceIte,←e]
 | none=>rw[hf]at e;simp (disch:=omega) only[go_sem,↓reduceIte,←e,Option.isSome_none]
theorem EX(a b:List Int)(hl:a.length≤4294967296):aG 0 N.cM [.t (tL a),.t (tL b)] []=some (B (decide (a=b)),[]):=by
 refine av K.lu rfl ?_
 by_cases hlen:a.length=b.length
 · have loop:∀c:D,exS aG K.oC ⟨[.t (tL a),.t (tL b),c,I 0],[]⟩=
    some (match (List.range a.length).find? (fun j=>decide (nth a j≠nth b j))with
     | some j=>(.ret,⟨[.t (tL a),.t (tL b),B false,I j],[]⟩)
     | none=>(.exit 0,⟨[.t (tL a),.t (tL b),.und,I a.length],[]⟩)):=by
    intro c
    refine bY (fun j=>⟨[.t (tL a),.t (tL b),.und,I j],[]⟩) a.length (fun j=>decide (nth a j≠nth b j)) _ _ rfl ?_ ?_ ?_ (by simp)
    · intro j hj hp
      have hp:nth a j=nth b j:=by simpa using hp
      simp (disch:=omega) only[go_sem,K.iA,↓reduceIte]
    · intro j hj hp
      have hp:nth a j≠nth b j:=by simpa using hp
      simp (disch:=omega) only[go_sem,K.iA,↓reduceIte]
      simp
    · simp (disch:=omega) only[go_sem,K.iA,↓reduceIte]
   have e:(a=b)↔(List.range a.length).find? (fun j=>decide (nth a j≠nth b j))=none:=by
    rw[List.find?_eq_none]
    constructor
    · intro h j _;simp[h]
    · intro h
      apply List.ext_getElem?
      intro j
      by_cases hj:j<a.length
      · rw[ff hj,ff (by omega)]
        have:=h j (List.mem_range.2 hj)
        simpa using this
      · rw[List.getElem?_eq_none (by omega),List.getElem?_eq_none (by omega)]
   simp (disch:=omega) only[go_sem,K.cM,↓reduceIte,loop]
   cases hf:(List.range a.length).find? (fun j=>decide (nth a j≠nth b j))with
   | some j=>rw[hf]at e;simp (disch:=omega) only[go_sem,↓reduceIte,e];simp
   | none=>rw[hf]at e;simp (disch:=omega) only[go_sem,↓reduceIte,e]
 · have hne:a≠b:=fun h=>hlen (by rw[h])
   simp (disch:=omega) only[go_sem,K.cM,↓reduceIte,hne]
def zB(l:List Int)(n:Int):Bool:=(List.range l.length).all fun j=>decide (0≤nth l j∧nth l j<n∧(0<j→nth l (j-1)<nth l j))
theorem pw{n:Nat}{p:Nat→Bool}:((List.range n).all p)=((List.range n).find? fun j=> !p j).isNone:=by
 rw[← Option.not_isSome,List.isSome_find?,List.not_any_eq_all_not]
 simp
theorem aag(l:List Int)(n:Int)(hl:l.length≤4294967296):aG 0 N.ji [.t (tL l),I n] []=some (B (zB l n),[]):=by
 refine av K.sV rfl ?_
 have loop:∀c:D,exS aG K.xj ⟨[.t (tL l),I n,c,I 0],[]⟩=
  some (match (List.range l.length).find? (fun j=> !decide (0≤nth l j∧nth l j<n∧(0<j→nth l (j-1)<nth l j)))with
   | some j=>(.ret,⟨[.t (tL l),I n,B false,I j],[]⟩)
   | none=>(.exit 0,⟨[.t (tL l),I n,.und,I l.length],[]⟩)):=by
  intro c
  refine bY (fun j=>⟨[.t (tL l),I n,.und,I j],[]⟩) l.length _ _ _ rfl ?_ ?_ ?_ (by simp)
  · intro j hj hp
    simp only[Bool.not_eq_false',decide_eq_true_eq]at hp
    obtain⟨h1,h2,h3⟩:=hp
    cases j with
    | zero=>simp (disch:=omega) only[go_sem,K.gP,↓reduceIte]
    | succ j=>
      have h3:=h3 (by omega)
      rw[Nat.add_sub_cancel]at h3
      simp (disch:=omega) only[go_sem,K.gP,↓reduceIte]
  · intro j hj hp
    simp only[Bool.not_eq_true',decide_eq_false_iff_not]at hp
    refine⟨?_,by simp⟩
    by_cases h1:0≤nth l j
    · by_cases h2:nth l j<n
      · cases j with
        | zero=>exact absurd ⟨h1,h2,fun h=>absurd h (by omega)⟩ hp
        | succ j=>
          have h3:¬nth l j<nth l (j+1):=fun h=>hp ⟨h1,h2,fun _=>by simpa using h⟩
          simp (disch:=omega) only[go_sem,K.gP,↓reduceIte]
      · simp (disch:=omega) only[go_sem,K.gP,↓reduceIte]
    · simp (disch:=omega) only[go_sem,K.gP,↓reduceIte]
  · simp (disch:=omega) only[go_sem,K.gP,↓reduceIte]
 have e:zB l n=_:=pw
 simp only[go_sem,K.ji,↓reduceIte,loop]
 cases hf:(List.range l.length).find? (fun j=> !decide (0≤nth l j∧nth l j<n∧(0<j→nth l (j-1)<nth l j)))with
 | some j=>rw[hf]at e;simp (disch:=omega) only[go_sem,↓reduceIte,e,Option.isNone_some]
 | none=>rw[hf]at e;simp (disch:=omega) only[go_sem,↓reduceIte,e,Option.isNone_none]
theorem Bt(x lo hi:Int):aG 0 N.dF [I x,I lo,I hi] []=some (B (decide (lo≤x∧x≤hi)),[]):=by
 refine av K.vV rfl ?_
 by_cases h1:lo≤x<;>by_cases h2:x≤hi<;>simp (disch:=omega) only[go_sem,K.dF,↓reduceIte]
theorem NU(l:List Int)(x:Int)(hl:l.length≤4294967296):aG 0 N.bE [.t (tL l),I x] []=
 some (I (match (List.range l.length).find? (fun j=>decide (nth l j=x))with | some j=>(j:Int) | none=> -1),[]):=by
 refine av K.iq rfl ?_
 have loop:∀a b:D,exS aG K.j3 ⟨[.t (tL l),I x,a,b,I l.length,I 0],[]⟩=
  some (match (List.range l.length).find? (fun j=>decide (nth l j=x))with
   | some j=>(.ret,⟨[.t (tL l),I x,I j,I j,I l.length,I j],[]⟩)
   | none=>(.exit 0,⟨[.t (tL l),I x,.und,.und,I l.length,I l.length],[]⟩)):=by
  intro a b
  refine bY (fun j=>⟨[.t (tL l),I x,.und,.und,I l.length,I j],[]⟩) l.length (fun j=>decide (nth l j=x)) _ _ rfl ?_ ?_ ?_ (by simp)
  · intro j hj hp
    have hp:¬nth l j=x:=of_decide_eq_false hp
    simp (disch:=omega) only[go_sem,K.eH,↓reduceIte]
  · intro j hj hp
    have hp:nth l j=x:=of_decide_eq_true hp
    simp (disch:=omega) only[go_sem,K.eH,↓reduceIte,hp]
    simp
  · simp (disch:=omega) only[go_sem,K.eH,↓reduceIte]
 simp (disch:=omega) only[go_sem,K.bE,↓reduceIte,loop]
 cases hf:(List.range l.length).find? (fun j=>decide (nth l j=x))with
 | some j=>simp (disch:=omega) only[go_sem,↓reduceIte]
 | none=>simp (disch:=omega) only[go_sem,↓reduceIte]
theorem sY(l:List Int)(x:Int)(hl:l.length≤4294967296):aG 0 N.aE [.t (tL l),I x] []=some (B (decide (x∈l)),[]):=by
 refine av K.fU rfl ?_
 have h:=NU l x hl
 have e:=EW (l:=l) (p:=fun y=>decide (y=x))
 have e2:l.any (fun y=>decide (y=x))=decide (x∈l):=by rw[Bool.eq_iff_iff];simp
 rw[e2]at e
 cases hf:(List.range l.length).find? (fun j=>decide (nth l j=x))with
 | some j=>rw[hf]at e h;simp (disch:=omega) only[go_sem,K.aE,↓reduceIte,←e,h]
 | none=>rw[hf]at e h;simp (disch:=omega) only[go_sem,K.aE,↓reduceIte,←e,h,Option.isSome_none]
theorem C6(l:List Int)(hl:l.length≤4294967296)(f:Nat)(bs:List (List T))(p:Int→Bool)(h:∀x,x∈l→aG 0 f (I x::fp bs.length) (aN bs)=some (B (p x),aN bs)):
 aG 0 N.aF [.t (tL l),.fn f (fp bs.length)] (aN bs)=
 some (I (match (List.range l.length).find? (fun j=>p (nth l j))with | some j=>(j:Int) | none=> -1),aN bs):=by
 refine av K.dQ rfl ?_
 have loop:∀a b:D,exS aG K.fC ⟨[.t (tL l),.fn f (fp bs.length),a,b,I l.length,I 0],aN bs⟩=
  some (match (List.range l.length).find? (fun j=>p (nth l j))with
   | some j=>(.ret,⟨[.t (tL l),.fn f (fp bs.length),I j,I j,I l.length,I j],aN bs⟩)
   | none=>(.exit 0,⟨[.t (tL l),.fn f (fp bs.length),.und,.und,I l.length,I l.length],aN bs⟩)):=by
  intro a b
  refine bY (fun j=>⟨[.t (tL l),.fn f (fp bs.length),.und,.und,I l.length,I j],aN bs⟩) l.length (fun j=>p (nth l j)) _ _ rfl ?_ ?_ ?_ (by simp)
  · intro j hj hp
    have hc:=mh (h _ (ah hj)) rfl
    simp (disch:=omega) only[go_sem,K.bq,↓reduceIte,hc,hp]
  · intro j hj hp
    have hc:=mh (h _ (ah hj)) rfl
    simp (disch:=omega) only[go_sem,K.bq,↓reduceIte,hp,hc]
    simp
  · simp (disch:=omega) only[go_sem,K.bq,↓reduceIte]
 simp (disch:=omega) only[go_sem,K.aF,↓reduceIte,loop]
 cases hf:(List.range l.length).find? (fun j=>p (nth l j))with
 | some j=>simp (disch:=omega) only[go_sem,↓reduceIte]
 | none=>simp (disch:=omega) only[go_sem,↓reduceIte]
theorem yX(l:List Int)(hl:l.length≤4294967296)(f:Nat)(bs:List (List T))(p:Int→Bool)(h:∀x,x∈l→aG 0 f (I x::fp bs.length) (aN bs)=some (B (p x),aN bs)):
 aG 0 N.aD [.t (tL l),.fn f (fp bs.length)] (aN bs)=some (B (l.any p),aN bs):=by
 refine av K.eT rfl ?_
 have h:=C6 l hl f bs p h
 have hc:=vX aG bs f _ 0 (tL l) h rfl
 have e:=EW (l:=l) (p:=p)
 cases hf:(List.range l.length).find? (fun j=>p (nth l j))with
 | some j=>rw[hf]at e hc;simp (disch:=omega) only[go_sem,K.aD,↓reduceIte,←e,hc]
 | none=>rw[hf]at e hc;simp (disch:=omega) only[go_sem,K.aD,↓reduceIte,←e,hc,Option.isSome_none]
theorem S5(r:Road)(back:Bool):aG 0 N.hX [.t r.e,B back] []=some (.tup [I (if back then r.to else r.frm),I (if back then r.frm else r.to)],[]):=by
 refine av K.qA rfl ?_
 cases back<;>simp (disch:=omega) only[go_sem,K.hX,↓reduceIte]
def gk(m:aK)(k:Nat)(back:Bool)(up down level:Int):Int:=
 let x:=nth m.roads k
 if x.closed=true∨x.walk=false then -1 else
 let a:=if back then x.to else x.frm
 let b:=if back then x.frm else x.to
 let rise:=(nth m.places b.toNat).h-(nth m.places a.toNat).h
 let speed:=if -10*rise>x.len then down else if 10*rise>x.len then up else level
 (10*x.len+speed-1).tdiv speed
theorem s5{a b:Int}(ha:0≤a)(hb:1≤b):0≤a.tdiv b∧a.tdiv b≤a:=by
 rw[Int.tdiv_eq_ediv_of_nonneg ha]
 exact⟨Int.ediv_nonneg ha (by omega),Int.ediv_le_self _ ha⟩
theorem Ko{m:aK}(h:m.ok)(k:Nat)(hk:k<m.roads.length)(back:Bool)(up down level:Int)(hu:1≤up)(hu2:up≤100)(hd:1≤down)(hd2:down≤100)(hl:1≤level)(hl2:level≤100):
 aG 0 N.bX [.t m.e,I k,B back,I up,I down,I level] []=some (I (gk m k back up down level),[]):=by
 refine av K.nS rfl ?_
 have hc:=uK h
 have nr:=h.nr
 have np:=h.np
 obtain⟨f0,f1,t0,t1, -,l0,l1, -, -, -, -, -, -, -, -⟩:=h.rs _ (ah hk)
 have he:=S5 (nth m.roads k) back
 have b1:=h.hs _ (ah (l:=m.places) (j:=(nth m.roads k).frm.toNat) (by omega))
 have b2:=h.hs _ (ah (l:=m.places) (j:=(nth m.roads k).to.toNat) (by omega))
 unfold gk
 generalize hx:nth m.roads k=x at*
 obtain⟨frm,to,len,area,walk,closed,rl,rh,ll,lh⟩:=x
 simp only at f0 f1 t0 t1 l0 l1 b1 b2 he ⊢
 cases closed with
 | true=>simp (disch:=omega) only[go_sem,K.bX,↓reduceIte,hc,hx]
 | false=>
   cases walk with
   | false=>simp (disch:=omega) only[go_sem,K.bX,↓reduceIte,hc,hx]
   | true=>
     have g1:=s5 (a:=10*len+up-1) (b:=up) (by omega) hu
     have g2:=s5 (a:=10*len+down-1) (b:=down) (by omega) hd
     have g3:=s5 (a:=10*len+level-1) (b:=level) (by omega) hl
     cases back with
     | true=>
       simp only[↓reduceIte]at he ⊢
       have w1:IntKind.i64.wrap ((nth m.places frm.toNat).h-(nth m.places to.toNat).h)=(nth m.places frm.toNat).h-(nth m.places to.toNat).h:=sO (by omega) (by omega)
       by_cases c2:len< -10*((nth m.places frm.toNat).h-(nth m.places to.toNat).h)
       · simp (disch:=omega) only[go_sem,K.bX,↓reduceIte,hc,hx,he,w1,gt_iff_lt]
       · by_cases c1:len<10*((nth m.places frm.toNat).h-(nth m.places to.toNat).h)
         · simp (disch:=omega) only[go_sem,K.bX,↓reduceIte,hc,hx,he,w1,gt_iff_lt]
         · simp (disch:=omega) only[go_sem,K.bX,↓reduceIte,hc,hx,he,w1,gt_iff_lt]
     | false=>
       simp only[Bool.false_eq_true,↓reduceIte]at he ⊢
       have w1:IntKind.i64.wrap ((nth m.places to.toNat).h-(nth m.places frm.toNat).h)=(nth m.places to.toNat).h-(nth m.places frm.toNat).h:=sO (by omega) (by omega)
       by_cases c2:len< -10*((nth m.places to.toNat).h-(nth m.places frm.toNat).h)
       · simp (disch:=omega) only[go_sem,K.bX,↓reduceIte,hc,hx,he,w1,gt_iff_lt]
       · by_cases c1:len<10*((nth m.places to.toNat).h-(nth m.places frm.toNat).h)
         · simp (disch:=omega) only[go_sem,K.bX,↓reduceIte,hc,hx,he,w1,gt_iff_lt]
         · simp (disch:=omega) only[go_sem,K.bX,↓reduceIte,hc,hx,he,w1,gt_iff_lt]
theorem Kp{m:aK}(h:m.ok)(k:Nat)(hk:k<m.roads.length)(back:Bool):aG 0 N.gB [.t m.e,I k,B back] []=some (I (gk m k back 6 9 12),[]):=by
 refine av K.qz rfl ?_
 have hw:=Ko h k hk back 6 9 12 (by omega) (by omega) (by omega) (by omega) (by omega) (by omega)
 simp (disch:=omega) only[go_sem,K.gB,↓reduceIte,hw]
theorem Bu{m:aK}(h:m.ok)(k:Nat)(hk:k<m.roads.length)(back:Bool): -1≤gk m k back 6 9 12∧gk m k back 6 9 12≤1000012:=by
 have l0:=(h.rs _ (ah hk)).l0
 have l1:=(h.rs _ (ah hk)).l1
 unfold gk
 simp only
 split
 · omega
 · generalize hs:(if -10*_>(nth m.roads k).len then(9:Int)else _)=s
   have h1:1≤s∧s≤12:=by
    rw[← hs]
    split
    · omega
    · split<;>omega
   have g1:=s5 (a:=10*(nth m.roads k).len+s-1) (b:=s) (by omega) h1.1
   omega
def bnd(l:List Int):Prop:=∀x∈l,0≤x∧x≤1099511627776
def lC(l:List Int)(p q:Nat)(walk t:Int):Bool:=
 decide (0≤walk)&&decide (nth l p<1099511627776)&&decide (max t (nth l p+walk)≤2147483648)&&decide (max t (nth l p+walk)<nth l q)
def mH(l:List Int)(p q:Nat)(walk t:Int):List Int:=if lC l p q walk t=true then l.set q (max t (nth l p+walk))else l
theorem Bv(l:List Int)(hb:bnd l)(hl:l.length≤64)(p q:Int)(hp:0≤p)(hp2:p<l.length)(hq:0≤q)(hq2:q<l.length)(walk t:Int)(hw:walk≤1000000000)(ht:t≤1000000000000)(ht0: -1000000000000≤t):
 aG 0 N.du [.ref 0 0 l.length,I p,I q,I walk,I t] [.arr 1 false 0 ((l.map (T.int .i64)).map .t)]=
  some (B (lC l p.toNat q.toNat walk t),[.arr 1 false 0 (((mH l p.toNat q.toNat walk t).map (T.int .i64)).map .t)]):=by
 refine av K.pv rfl ?_
 have b1:=hb _ (ah (l:=l) (j:=p.toNat) (by omega))
 have b2:=hb _ (ah (l:=l) (j:=q.toNat) (by omega))
 clear hb
 unfold mH lC
 by_cases c1:0≤walk
 · by_cases c2:nth l p.toNat<1099511627776
   · by_cases c3:max t (nth l p.toNat+walk)≤2147483648
     · by_cases c4:max t (nth l p.toNat+walk)<nth l q.toNat
       · simp (disch:=omega) only[go_sem,K.du,↓reduceIte]
       · simp (disch:=omega) only[go_sem,K.du,↓reduceIte]
     · simp (disch:=omega) only[go_sem,K.du,↓reduceIte]
   · simp (disch:=omega) only[go_sem,K.du,↓reduceIte]
 · simp (disch:=omega) only[go_sem,K.du,↓reduceIte]
def Kq(into:Option (List Int))(p:Int):Bool:=match into with
 | none=>true
 | some l=>decide (p∈l)
def nT(into:Option (List Int)):D:=match into with
 | none=> .nil
 | some l=> .t (tL l)
def Road.src(r:Road)(back:Bool):Int:=if back then r.to else r.frm
def Road.dst(r:Road)(back:Bool):Int:=if back then r.frm else r.to
theorem Road.wW{n:Nat}{r:Road}(h:r.ok n)(back:Bool):0≤r.src back∧r.src back<n:=by
 unfold Road.src;have:=h.f0;have:=h.f1;have:=h.t0;have:=h.t1;cases back<;>simp<;>omega
theorem Road.AE{n:Nat}{r:Road}(h:r.ok n)(back:Bool):0≤r.dst back∧r.dst back<n:=by
 unfold Road.dst;have:=h.f0;have:=h.f1;have:=h.t0;have:=h.t1;cases back<;>simp<;>omega
def eY(m:aK)(t:Int)(into:Option (List Int))(k:Nat)(back:Bool)(l:List Int):List Int×Bool:=
 if Kq into ((nth m.roads k).dst back)=true then
  (mH l ((nth m.roads k).src back).toNat ((nth m.roads k).dst back).toNat (gk m k back 6 9 12) t,lC l ((nth m.roads k).src back).toNat ((nth m.roads k).dst back).toNat (gk m k back 6 9 12) t)
 else(l,false)
def s6(m:aK)(t:Int)(into:Option (List Int))(k:Nat)(s:List Int×Bool):List Int×Bool:=
 let a:=eY m t into k false s.1
 let b:=eY m t into k true a.1
 (b.1,s.2||a.2||b.2)
def eI(m:aK)(t:Int)(into:Option (List Int))(l:List Int):Nat→List Int×Bool
 | 0=>(l,false)
 | k+1=>s6 m t into k (eI m t into l k)
def dm(m:aK)(t:Int)(into:Option (List Int))(l:List Int):List Int×Bool:=eI m t into l m.roads.length
theorem mi(l:List Int)(p q:Nat)(w t:Int):(mH l p q w t).length=l.length:=by unfold mH;split<;>simp
theorem oD(m:aK)(t:Int)(into:Option (List Int))(k:Nat)(back:Bool)(l:List Int):(eY m t into k back l).1.length=l.length:=by
 unfold eY;split
 · exact mi _ _ _ _ _
 · rfl
theorem dw(m:aK)(t:Int)(into:Option (List Int))(l:List Int):∀k,(eI m t into l k).1.length=l.length
 | 0=>rfl
 | k+1=>by simp only[eI,s6,oD,dw m t into l k]
theorem vY{l:List Int}(h:bnd l){q:Nat}{x:Int}(h0:0≤x)(h1:x≤1099511627776):bnd (l.set q x):=by
 intro y hy
 rcases List.mem_or_eq_of_mem_set hy with hy | hy
 · exact h y hy
 · subst hy;exact⟨h0,h1⟩
theorem AF{l:List Int}(h:bnd l){p q:Nat}(hp:p<l.length){w t:Int}:bnd (mH l p q w t):=by
 unfold mH
 split
 · rename_i hc
   simp only[lC,Bool.and_eq_true,decide_eq_true_eq]at hc
   have:=h _ (ah hp)
   exact vY h (by omega) (by omega)
 · exact h
section
variable {m : aK} (h : m.ok) {t : Int} {into : Option (List Int)}
include h
theorem qB{l:List Int}(hl:l.length=m.places.length)(hb:bnd l){k:Nat}(hk:k<m.roads.length)(back:Bool):bnd (eY m t into k back l).1:=by
 have r1:=Road.wW (h.rs _ (ah hk)) back
 unfold eY
 split
 · exact AF hb (by omega)
 · exact hb
theorem ig{l:List Int}(hl:l.length=m.places.length)(hb:bnd l):∀k,k≤m.roads.length→bnd (eI m t into l k).1
 | 0,_=>hb
 | k+1,hk=>by
   simp only[eI,s6]
   exact qB h (by rw[oD,dw,hl]) (qB h (by rw[dw,hl]) (ig hl hb k (by omega)) (by omega) _) (by omega) _
end
def ya(l:List Int):Nat:=(l.map Int.toNat).sum
theorem GF:∀ {l:List Int} {q:Nat} {x:Int},q<l.length→0≤x→x<nth l q→ya (l.set q x)<ya l
 | [],q,x,h,_,_=>by simp at h
 | a::l,0,x,_,h0,h1=>by
   have h1:x<a:=by simpa [nth]using h1
   simp only[ya,List.set_cons_zero,List.map_cons,List.sum_cons];omega
 | a::l,q+1,x,h,h0,h1=>by
   have:=GF (l:=l) (q:=q) (x:=x) (by simpa using h) h0 (by simpa [nth]using h1)
   simp only[ya,List.set_cons_succ,List.map_cons,List.sum_cons]at this ⊢;omega
theorem HP{l:List Int}(hb:bnd l){p q:Nat}(hp:p<l.length)(hq:q<l.length){w t:Int}:
 (lC l p q w t=true→ya (mH l p q w t)<ya l)∧(lC l p q w t=false→mH l p q w t=l):=by
 unfold mH
 constructor
 · intro hc
   rw[if_pos hc]
   simp only[lC,Bool.and_eq_true,decide_eq_true_eq]at hc
   have:=hb _ (ah hp)
   exact GF hq (by omega) hc.2
 · intro hc;rw[if_neg (by simp[hc])]
section
variable {m : aK} (h : m.ok) {t : Int} {into : Option (List Int)}
include h
theorem yY{l:List Int}(hl:l.length=m.places.length)(hb:bnd l){k:Nat}(hk:k<m.roads.length)(back:Bool):
 ((eY m t into k back l).2=true→ya (eY m t into k back l).1<ya l)∧((eY m t into k back l).2=false→(eY m t into k back l).1=l):=by
 have r1:=Road.wW (h.rs _ (ah hk)) back
 have r2:=Road.AE (h.rs _ (ah hk)) back
 unfold eY
 split
 · exact HP hb (by omega) (by omega)
 · simp
theorem oE{l:List Int}(hl:l.length=m.places.length)(hb:bnd l):∀k,k≤m.roads.length→
 ((eI m t into l k).2=true→ya (eI m t into l k).1<ya l)∧((eI m t into l k).2=false→(eI m t into l k).1=l)
 | 0,_=>⟨fun h=>by simp[eI]at h,fun _=>rfl⟩
 | k+1,hk=>by
   obtain⟨i1,i2⟩:=oE hl hb k (by omega)
   have hb1:=ig h (t:=t) (into:=into) hl hb k (by omega)
   have hl1:(eI m t into l k).1.length=m.places.length:=by rw[dw,hl]
   obtain⟨a1,a2⟩:=yY h (t:=t) (into:=into) hl1 hb1 (k:=k) (by omega) false
   have hb2:=qB h (t:=t) (into:=into) hl1 hb1 (k:=k) (by omega) false
   obtain⟨c1,c2⟩:=yY h (t:=t) (into:=into) (by rw[oD,hl1]) hb2 (k:=k) (by omega) true
   simp only[eI,s6]
   generalize eI m t into l k=s at*
   obtain⟨sl,sb⟩:=s
   simp only at*
   generalize eY m t into k false sl=a at*
   obtain⟨al,ab⟩:=a
   simp only at*
   generalize eY m t into k true al=b at*
   obtain⟨bl,bb⟩:=b
   simp only at*
   cases sb<;>cases ab<;>cases bb<;>simp_all<;>omega
end
end Go.Ev
namespace Go.Ev
open Go
variable [Lib] [cu] [bP]
abbrev aa(m:aK):List D:=[.t (.sl (m.places.map Place.e)),.t (.sl (m.roads.map Road.e))]
theorem S6(H:af)(into:Option (List Int))(hi:∀l,into=some l→l≠[]):qk H .sl false (some (nT into)) (some .nil)=some (B (into.isNone),H):=by
 cases into with
 | none=>rfl
 | some l=>exact Gj H _ (by simpa using hi l rfl)
@[go_sem] theorem aah (k n : Nat) (into : Option (List Int)) : old k n (nT into) = true := by
 cases into<;>simp only[nT,go_sem]
theorem HQ{m:aK}(h:m.ok)(t:Int)(ht:t≤1000000000000)(ht0: -1000000000000≤t)(into:Option (List Int))(hi:∀l,into=some l→l≠[]∧l.length≤64)(l:List Int)(hl:l.length=m.places.length)(hb:bnd l)
 (k:Nat) (hk:k<m.roads.length) (ag:Bool):
 fh true [0,1,5,9] 2 (exS aG K.ez ⟨[.und,.und,I t,nT into,.bp 0 0,.und,.ref 1 0 l.length,B ag,I k,.und],[.box (aa m),.arr 1 false 0 ((l.map (T.int .i64)).map .t)]⟩)=
  some ⟨[.und,.und,I t,nT into,.bp 0 0,.und,.ref 1 0 (s6 m t into k (l,ag)).1.length,B (s6 m t into k (l,ag)).2,I (k+1),.und],[.box (aa m),.arr 1 false 0 (((s6 m t into k (l,ag)).1.map (T.int .i64)).map .t)]⟩:=by
 have np:=h.np
 have nr:=h.nr
 have t1:=Kp h k hk false
 have t2:=Kp h k hk true
 have w1:=(Bu h k hk false).2
 have w2:=(Bu h k hk true).2
 obtain⟨f0,f1,t0,t1', -, -, -, -, -, -, -, -, -, -, -⟩:=h.rs _ (ah hk)
 have e0:=fun H=>S6 H into fun l hl=>(hi l hl).1
 have lw1:=Bv l hb (by omega) (nth m.roads k).frm (nth m.roads k).to f0 (by omega) t0 (by omega) (gk m k false 6 9 12) t (by omega) ht ht0
 have lw2:=Bv l hb (by omega) (nth m.roads k).to (nth m.roads k).frm t0 (by omega) f0 (by omega) (gk m k true 6 9 12) t (by omega) ht ht0
 have hl':(mH l (nth m.roads k).frm.toNat (nth m.roads k).to.toNat (gk m k false 6 9 12) t).length=l.length:=mi ..
 have lw3:=Bv _ (AF hb (p:=(nth m.roads k).frm.toNat) (q:=(nth m.roads k).to.toNat) (w:=gk m k false 6 9 12) (t:=t) (by omega)) (by omega) (nth m.roads k).to (nth m.roads k).frm t0 (by omega) f0 (by omega) (gk m k true 6 9 12) t (by omega) ht ht0
 rw[hl']at lw3
 simp only[s6,eY,Road.src,Road.dst,Bool.false_eq_true,↓reduceIte]
 generalize hx:nth m.roads k=x at*
 obtain⟨frm,to,len,area,walk,closed,rl,rh,ll,lh⟩:=x
 simp only at f0 f1 t0 t1' lw1 lw2 lw3 hl' ⊢
 generalize hw1:gk m k false 6 9 12=v1 at*
 generalize hw2:gk m k true 6 9 12=v2 at*
 clear hb
 cases into with
 | none=>
   simp only[nT,Kq,↓reduceIte,Option.isNone]at e0 ⊢
   cases c1:lC l frm.toNat to.toNat v1 t<;>cases c2:lC (mH l frm.toNat to.toNat v1 t) to.toNat frm.toNat v2 t<;>rw[c1]at lw1<;>rw[c2]at lw3<;>
   simp (disch:=omega) only[go_sem,K.ez,↓reduceIte,hx,e0,t1,t2,lw1,lw3,mi,Nat.reduceAdd,Nat.reduceSub]
 | some s=>
   have hs:=(hi s rfl).2
   have g1:=GD s to (by omega)
   have g2:=GD s frm (by omega)
   simp only[nT,Kq,Option.isNone]at e0 ⊢
   by_cases m1:to∈s<;>by_cases m2:frm∈s
   · simp only[m1,m2,decide_true,↓reduceIte]at g1 g2 ⊢
     cases c1:lC l frm.toNat to.toNat v1 t<;>cases c2:lC (mH l frm.toNat to.toNat v1 t) to.toNat frm.toNat v2 t<;>rw[c1]at lw1<;>rw[c2]at lw3<;>
     simp (disch:=omega) only[go_sem,K.ez,↓reduceIte,hx,e0,t1,t2,lw1,lw3,g1,g2,c1,Bool.or_true,Bool.or_false,mi,Nat.reduceAdd,Nat.reduceSub]
   · simp only[m1,m2,decide_true,decide_false,↓reduceIte]at g1 g2 ⊢
     cases c1:lC l frm.toNat to.toNat v1 t<;>rw[c1]at lw1<;>
     simp (disch:=omega) only[go_sem,K.ez,↓reduceIte,hx,e0,t1,t2,lw1,g1,g2,c1,Bool.or_true,Bool.or_false,mi,Nat.reduceAdd,Nat.reduceSub]
   · simp only[m1,m2,decide_true,decide_false,↓reduceIte]at g1 g2 ⊢
     cases c1:lC l to.toNat frm.toNat v2 t<;>rw[c1]at lw2<;>
     simp (disch:=omega) only[go_sem,K.ez,↓reduceIte,hx,e0,t1,t2,lw2,g1,g2,c1,Bool.or_true,Bool.or_false,mi,Nat.reduceAdd,Nat.reduceSub]
   · simp only[m1,m2,decide_false,↓reduceIte]at g1 g2 ⊢
     simp (disch:=omega) only[go_sem,K.ez,↓reduceIte,hx,e0,t1,t2,g1,g2,Nat.reduceAdd,Nat.reduceSub]
theorem yb{m:aK}(h:m.ok)(t:Int)(ht:t≤1000000000000)(ht0: -1000000000000≤t)(into:Option (List Int))(hi:∀l,into=some l→l≠[]∧l.length≤64)(l:List Int)(hl:l.length=m.places.length)(hb:bnd l):
 aG 0 N.eR [.t m.e,.t (tL l),I t,nT into] []=some (.t (tL (gE (dm m t into) (ya l+1) l)),[])∧(gE (dm m t into) (ya l+1) l).length=m.places.length∧bnd (gE (dm m t into) (ya l+1) l):=by
 have nr:=h.nr
 have inner:∀(l:List Int),l.length=m.places.length→bnd l→∀(a b c d:D),exS aG K.sq ⟨[a,b,I t,nT into,.bp 0 0,c,.ref 1 0 l.length,B false,I 0,d],[.box (aa m),.arr 1 false 0 ((l.map (T.int .i64)).map .t)]⟩=
  some (.exit 2,⟨[.und,.und,I t,nT into,.bp 0 0,.und,.ref 1 0 l.length,B (dm m t into l).2,I m.roads.length,.und],[.box (aa m),.arr 1 false 0 (((dm m t into l).1.map (T.int .i64)).map .t)]⟩):=by
  intro l hl hb a b c d
  refine b7 (fun j=>⟨[.und,.und,I t,nT into,.bp 0 0,.und,.ref 1 0 (eI m t into l j).1.length,B (eI m t into l j).2,I j,.und],[.box (aa m),.arr 1 false 0 (((eI m t into l j).1.map (T.int .i64)).map .t)]⟩) m.roads.length rfl ?_ ?_ (by simp)
  · intro j hj
    have:=HQ h t ht ht0 into hi (eI m t into l j).1 (by rw[dw,hl]) (ig h hl hb j (by omega)) j hj (eI m t into l j).2
    exact this
  · simp (disch:=omega) only[go_sem,K.ez,↓reduceIte,dm,dw]
 have outer:=fun(a b c d e:D)=>AA (gc:=true) (dead:=[0,1,5,8,9]) (c:=K.jZ) (vs:=[a,b,I t,nT into,.bp 0 0,c,.ref 1 0 l.length,B true,d,e]) (H:=[.box (aa m),.arr 1 false 0 ((l.map (T.int .i64)).map .t)])
  (fun l ag=>⟨[.und,.und,I t,nT into,.bp 0 0,.und,.ref 1 0 l.length,B ag,.und,.und],[.box (aa m),.arr 1 false 0 ((l.map (T.int .i64)).map .t)]⟩)
  (fun l=>(.exit 0,⟨[.und,.und,I t,nT into,.bp 0 0,.und,.ref 1 0 l.length,B false,.und,.und],[.box (aa m),.arr 1 false 0 ((l.map (T.int .i64)).map .t)]⟩))
  (dm m t into) (fun l=>l.length=m.places.length∧bnd l) ya
  (fun l ⟨hl,hb⟩=>⟨⟨by rw[dm,dw,hl],ig h hl hb _ (Nat.le_refl _)⟩,(oE h hl hb _ (Nat.le_refl _)).1⟩)
  (by
   rintro l ⟨hl,hb⟩
   have:=inner l hl hb
   have e:(dm m t into l).1.length=l.length:=by rw[dm,dw]
   simp (disch:=omega) only[go_sem,K.jZ,↓reduceIte,this,e])
  (by
   rintro l ⟨hl,hb⟩
   simp (disch:=omega) only[go_sem,K.jZ,↓reduceIte,reduceCtorEq,ne_eq,not_false_eq_true,and_self])
  l ⟨hl,hb⟩ rfl
 obtain⟨-,o2⟩:=outer .und .und .und .und .und
 refine⟨?_,o2⟩
 refine av K.pq rfl ?_
 have o1:∀a b c d e:D,exS aG K.sr ⟨[a,b,I t,nT into,.bp 0 0,c,.ref 1 0 l.length,B true,d,e],[.box (aa m),.arr 1 false 0 ((l.map (T.int .i64)).map .t)]⟩=_:=fun a b c d e=>(outer a b c d e).1
 clear outer inner
 have np:=h.np
 have o2:=o2.1
 generalize gE (dm m t into) (ya l+1) l=l2 at*
 cases into with
 | none=>
   simp only[nT]at o1
   simp (disch:=omega) only[go_sem,K.eR,↓reduceIte,o1,nT]
 | some s=>
   simp only[nT]at o1
   simp (disch:=omega) only[go_sem,K.eR,↓reduceIte,o1,nT]
structure Wh where
 time:Int
 frm:List Int
instance : Dat Wh := ⟨⟨0, []⟩⟩
abbrev Wh.e(w:Wh):T:= .agg [tI w.time,tL w.frm]
def dn(m:aK)(t:Int)(into:Option (List Int))(l:List Int):List Int:=gE (dm m t into) (ya l+1) l
def inT(t:Int):Prop:=0≤t∧t≤2147483648
instance (t : Int) : Decidable (inT t) := by unfold inT; infer_instance
def plT(x:Int):Prop:=x=1099511627776∨inT x
instance (t : Int) : Decidable (plT t) := by unfold plT; infer_instance
def qC(w:Wh)(n:Int):Bool:=decide ((w.frm.length:Int)=n∧inT w.time)&&(List.range w.frm.length).all fun j=>decide (plT (nth w.frm j))
theorem nU{x:Int}(h:plT x):0≤x∧x≤1099511627776:=by unfold plT inT at h;omega
theorem uL(t:Int):aG 0 N.dv [I t] []=some (B (decide (inT t)),[]):=by
 refine av K.nQ rfl ?_
 unfold inT
 by_cases h1:0≤t<;>by_cases h2:t≤2147483648<;>simp (disch:=omega) only[go_sem,K.dv,↓reduceIte,h1,h2]
theorem yc{m:aK}(h:m.ok)(t:Int)(ht:inT t)(l:List Int)(hl:l.length=m.places.length)(hb:bnd l):
 aG 0 N.dY [.t m.e,.t (tL l),I t] []=some (.t (tL (dn m t none l)),[]):=by
 refine av K.ph rfl ?_
 unfold inT at ht
 have:=(yb h t (by omega) (by omega) none (by simp) l hl hb).1
 simp only[nT]at this
 unfold dn
 simp (disch:=omega) only[go_sem,K.dY,↓reduceIte,this]
theorem NV(w:Wh)(n:Int)(hl:w.frm.length≤4294967296):aG 0 N.dZ [.t w.e,I n] []=some (B (qC w n),[]):=by
 refine av K.pt rfl ?_
 obtain⟨time,frm⟩:=w
 simp only at hl
 have loop:∀a b c:D,exS aG K.sx ⟨[a,b,.bp 0 0,c,I 0],[.box [I time,.t (tL frm)]]⟩=
  some (match (List.range frm.length).find? (fun j=> !decide (plT (nth frm j)))with
   | some j=>(.ret,⟨[.und,.und,.bp 0 0,B false,I j],[.box [I time,.t (tL frm)]]⟩)
   | none=>(.exit 0,⟨[.und,.und,.bp 0 0,.und,I frm.length],[.box [I time,.t (tL frm)]]⟩)):=by
  intro a b c
  refine bY (fun j=>⟨[.und,.und,.bp 0 0,.und,I j],[.box [I time,.t (tL frm)]]⟩) frm.length (fun j=> !decide (plT (nth frm j))) _ _ rfl ?_ ?_ ?_ (by simp)
  · intro j hj hp
    have hp:plT (nth frm j):=by simpa using hp
    unfold plT inT at hp
    by_cases h1:nth frm j=1099511627776
    · simp (disch:=omega) only[go_sem,K.gD,↓reduceIte,h1]
    · simp (disch:=omega) only[go_sem,K.gD,↓reduceIte]
  · intro j hj hp
    have hp:¬plT (nth frm j):=by simpa using hp
    unfold plT inT at hp
    by_cases h2:0≤nth frm j
    · simp (disch:=omega) only[go_sem,K.gD,↓reduceIte]
      simp
    · simp (disch:=omega) only[go_sem,K.gD,↓reduceIte]
      simp
  · simp (disch:=omega) only[go_sem,K.gD,↓reduceIte]
 unfold qC
 rw[pw]
 by_cases h1:(frm.length:Int)=n
 · by_cases h2:0≤time
   · by_cases h3:time≤2147483648
     · have h4:inT time:=⟨h2,h3⟩
       simp (disch:=omega) only[go_sem,K.dZ,↓reduceIte,loop,h1]
       cases hf:(List.range frm.length).find? (fun j=> !decide (plT (nth frm j)))with
       | some j=>simp (disch:=omega) only[go_sem,↓reduceIte,Option.isNone]
       | none=>simp (disch:=omega) only[go_sem,↓reduceIte,Option.isNone,h4,and_self,decide_true]
     · have h4:¬inT time:=by unfold inT;omega
       simp (disch:=omega) only[go_sem,K.dZ,↓reduceIte,loop,h1,h4,and_false,decide_false]
   · have h4:¬inT time:=by unfold inT;omega
     simp (disch:=omega) only[go_sem,K.dZ,↓reduceIte,loop,h1,h4,and_false,decide_false]
 · simp (disch:=omega) only[go_sem,K.dZ,↓reduceIte,loop,h1,false_and,decide_false]
def dq(m:aK)(w:Wh):Bool:=qC w m.places.length&&decide (dn m w.time none w.frm=w.frm)
theorem s7{w:Wh}{n:Int}(h:qC w n=true):(w.frm.length:Int)=n∧inT w.time∧∀x∈w.frm,plT x:=by
 simp only[qC,Bool.and_eq_true,decide_eq_true_eq,List.all_eq_true,List.mem_range]at h
 refine⟨h.1.1,h.1.2,fun x hx=>?_⟩
 obtain⟨j,hj⟩:=List.mem_iff_getElem?.1 hx
 have:=h.2 j (List.getElem?_eq_some_iff.1 hj).1
 rwa [b8 hj]at this
theorem kx{m:aK}(h:m.ok)(t:Int)(ht:inT t)(into:Option (List Int))(hi:∀l,into=some l→l≠[]∧l.length≤64){l:List Int}(hl:l.length=m.places.length)(hb:bnd l):(dn m t into l).length=m.places.length:=by
 unfold inT at ht
 exact(yb h t (by omega) (by omega) into hi l hl hb).2.1
theorem AG{m:aK}(h:m.ok)(t:Int)(ht:inT t)(into:Option (List Int))(hi:∀l,into=some l→l≠[]∧l.length≤64){l:List Int}(hl:l.length=m.places.length)(hb:bnd l):bnd (dn m t into l):=by
 unfold inT at ht
 exact(yb h t (by omega) (by omega) into hi l hl hb).2.2
theorem Bw{m:aK}(h:m.ok)(w:Wh)(hl:w.frm.length≤4294967296):aG 0 N.eQ [.t m.e,.t w.e] []=some (B (dq m w),[]):=by
 refine av K.pj rfl ?_
 have c:=uK h
 have p:=NV w m.places.length hl
 have np:=h.np
 unfold dq
 cases hp:qC w m.places.length with
 | false=>
   rw[hp]at p
   obtain⟨time,frm⟩:=w
   simp (disch:=omega) only[go_sem,K.eQ,↓reduceIte,c,p,Bool.false_and,Nat.reduceAdd,Nat.reduceSub]
 | true=>
   obtain⟨h1,h2,h3⟩:=s7 hp
   rw[hp]at p
   have hb:bnd w.frm:=fun x hx=>nU (h3 x hx)
   have cl:=yc h w.time h2 w.frm (by omega) hb
   have ln:=kx h w.time h2 none (by simp) (l:=w.frm) (by omega) hb
   obtain⟨time,frm⟩:=w
   simp only at*
   have sm:=EX (dn m time none frm) frm (by omega)
   simp (disch:=omega) only[go_sem,K.eQ,↓reduceIte,c,p,cl,sm,Bool.true_and,Nat.reduceAdd,Nat.reduceSub]
theorem Bx(w:Wh)(hl:w.frm.length≤4294967296):aG 0 N.c7 [.t w.e] []=some (.t w.e,[]):=by
 refine av K.qx rfl ?_
 obtain⟨time,frm⟩:=w
 simp only at*
 simp (disch:=omega) only[go_sem,K.c7,↓reduceIte,Nat.reduceAdd,Nat.reduceSub]
def kR(n:Nat):List Int:=List.replicate n 1099511627776
theorem EY(n:Nat):kR (n+1)=kR n++[1099511627776]:=List.replicate_succ'
@[simp] theorem mj (n : Nat) : (kR n).length = n := List.length_replicate
theorem vZ(n:Nat):bnd (kR n):=fun x hx=>by rw[List.eq_of_mem_replicate hx];omega
theorem HR(n:Nat)(hn:n≤1000000)(a:D):exS aG K.sn ⟨[I n,a,.ref 0 0 0,I 0],[.arr 1 false 0 []]⟩=
 some (.exit 0,⟨[I n,.und,.ref 0 0 n,I n],[.arr 1 false 0 (((kR n).map (T.int .i64)).map .t)]⟩):=by
 refine b7 (fun j=>⟨[I n,.und,.ref 0 0 (kR j).length,I j],[.arr 1 false 0 (((kR j).map (T.int .i64)).map .t)]⟩) n rfl ?_ ?_ (by simp)
 · intro j hj
   have:=mj j
   simp (disch:=omega) only[go_sem,K.mF,EY,↓reduceIte]
 · simp (disch:=omega) only[go_sem,K.mF,↓reduceIte,mj]
theorem C7(n:Nat)(hn:n≤1000000):aG 1 N.fB [I n] []=some (.ref 0 0 n,[.arr 1 false 0 (((kR n).map (T.int .i64)).map .t)]):=by
 refine av K.pg rfl ?_
 have:=HR n hn
 simp (disch:=omega) only[go_sem,K.fB,↓reduceIte,this]
def fP(m:aK)(p t:Int):Wh×Int:=
 if p<0∨(m.places.length:Int)≤p then(⟨0,[]⟩,3)else if inT t then(⟨t,dn m t none ((kR m.places.length).set p.toNat t)⟩,0)else(⟨0,[]⟩,8)
theorem GG{m:aK}(h:m.ok)(p t:Int):aG 0 N.dU [.t m.e,I p,I t] []=some (.tup [.t (fP m p t).1.e,I (fP m p t).2],[]):=by
 refine av K.o7 rfl ?_
 have c:=uK h
 have np:=h.np
 have it:=uL t
 have nl:=mj m.places.length
 have nv:=C7 m.places.length (by omega)
 unfold fP
 by_cases h1:p<0
 · simp (disch:=omega) only[go_sem,K.dU,↓reduceIte,c,h1,true_or]
   rfl
 · by_cases h2:(m.places.length:Int)≤p
   · simp (disch:=omega) only[go_sem,K.dU,↓reduceIte,c,h1,h2,or_true]
     rfl
   · by_cases h3:inT t
     · have b:bnd ((kR m.places.length).set p.toNat t):=vY (vZ _) h3.1 (by have:=h3.2;omega)
       have cl:=yc h t h3 ((kR m.places.length).set p.toNat t) (by simp) b
       simp only[h3,decide_true]at it
       simp (disch:=omega) only[go_sem,K.dU,↓reduceIte,c,h1,h2,or_self,h3,it,nv,mj,cl]
     · simp only[h3,decide_false]at it
       simp (disch:=omega) only[go_sem,K.dU,↓reduceIte,c,h1,h2,or_self,h3,it]
       rfl
def Kr(w:Wh)(t:Int):List Int:=kQ w.frm.length fun j=>decide (nth w.frm j≤t)
def lD(w:Wh)(t:Int):Wh×Int:=if t<w.time∨2147483648<t then(w,8)else(⟨t,w.frm⟩,0)
theorem GH(w:Wh)(t:Int)(hl:w.frm.length≤1000000):aG 0 N.dW [.t w.e,I t] []=some (.tup [.t (lD w t).1.e,I (lD w t).2],[]):=by
 refine av K.pc rfl ?_
 have c:=Bx w (by omega)
 obtain⟨time,frm⟩:=w
 simp only[lD]at*
 by_cases h1:t<time
 · simp (disch:=omega) only[go_sem,K.dW,↓reduceIte,c,h1,true_or]
 · by_cases h2:2147483648<t
   · simp (disch:=omega) only[go_sem,K.dW,↓reduceIte,c,h1,h2,or_true]
   · simp (disch:=omega) only[go_sem,K.dW,↓reduceIte,c,h1,h2,or_self]
def j5(m:aK)(w:Wh)(places:List Int)(a b:Int):Int:=
 if dq m w=true∧places≠[]∧zB places m.places.length=true then(if inT a∧inT b∧a≤b then 0 else 8)else 6
theorem GI{m:aK}(h:m.ok)(w:Wh)(hl:w.frm.length≤1000000)(places:List Int)(hp:places.length≤1000000)(a b:Int):
 aG 0 N.cE [.t m.e,.t w.e,.t (tL places),I a,I b] []=some (I (j5 m w places a b),[]):=by
 refine av K.pn rfl ?_
 have v:=Bw h w (by omega)
 have s:=aag places m.places.length (by omega)
 have np:=h.np
 have ia:=uL a
 have ib:=uL b
 obtain⟨time,frm⟩:=w
 simp only at*
 unfold j5
 cases hv:dq m ⟨time,frm⟩with
 | false=>
   rw[hv]at v
   simp (disch:=omega) only[go_sem,K.cE,↓reduceIte,v,Bool.false_eq_true,false_and]
 | true=>
   rw[hv]at v
   cases places with
   | nil=>simp (disch:=omega) only[go_sem,K.cE,↓reduceIte,v,ne_eq,not_true_eq_false,false_and,and_false,List.length_nil]
   | cons x xs=>
     have hne:0<(x::xs).length:=by simp
     generalize hx:x::xs=l at*
     have hne2:l≠[]:=by intro e;rw[e]at hne;simp at hne
     cases hs:zB l m.places.length with
     | false=>
       rw[hs]at s
       simp (disch:=omega) only[go_sem,K.cE,↓reduceIte,v,s,hne2,ne_eq,not_false_eq_true,true_and,Bool.false_eq_true,and_false]
     | true=>
       rw[hs]at s
       by_cases h1:inT a
       · by_cases h2:inT b
         · simp only[h1,h2,decide_true]at ia ib
           by_cases h3:a≤b
           · simp (disch:=omega) only[go_sem,K.cE,↓reduceIte,v,s,hne2,ia,ib,h1,h2,h3,ne_eq,not_false_eq_true,and_self]
           · simp (disch:=omega) only[go_sem,K.cE,↓reduceIte,v,s,hne2,ia,ib,h1,h2,h3,ne_eq,not_false_eq_true,and_self,and_false]
         · simp only[h1,h2,decide_true,decide_false]at ia ib
           simp (disch:=omega) only[go_sem,K.cE,↓reduceIte,v,s,hne2,ia,ib,h1,h2,ne_eq,not_false_eq_true,and_self,and_false,false_and]
       · simp only[h1,decide_false]at ia
         simp (disch:=omega) only[go_sem,K.cE,↓reduceIte,v,s,hne2,ia,h1,ne_eq,not_false_eq_true,and_self,and_false,false_and]
theorem px{l:List Int}{n:Int}(h:zB l n=true){j:Nat}(hj:j<l.length):0≤nth l j∧nth l j<n∧(0<j→nth l (j-1)<nth l j):=by
 simp only[zB,List.all_eq_true,List.mem_range,decide_eq_true_eq]at h
 exact h j hj
theorem Ks{l:List Int}{n:Int}(h:zB l n=true):∀ {j:Nat},j<l.length→(j:Int)≤nth l j
 | 0,hj=>by have:=px h hj;omega
 | j+1,hj=>by
   have h1:=Ks h (j:=j) (by omega)
   have:=(px h hj).2.2 (by omega)
   simp only[Nat.add_sub_cancel]at this
   omega
theorem rv{l:List Int}{n:Nat}(h:zB l n=true):l.length≤n:=by
 cases hl:l.length with
 | zero=>omega
 | succ k=>
   have h1:=Ks h (j:=k) (by omega)
   have h2:=(px h (j:=k) (by omega)).2.1
   omega
def wc(w:Wh)(t p:Int)(s:List Int×Bool):List Int×Bool:=if nth w.frm p.toNat≤t then(s.1.set p.toNat (nth w.frm p.toNat),true)else s
def zC(w:Wh)(l:List Int)(t:Int)(n:Nat):Nat→List Int×Bool
 | 0=>(kR n,false)
 | j+1=>wc w t (nth l j) (zC w l t n j)
theorem pz(w:Wh)(l:List Int)(t:Int)(n:Nat):∀j,(zC w l t n j).1.length=n
 | 0=>mj n
 | j+1=>by
   have:=pz w l t n j
   simp only[zC,wc]
   split<;>simp[this]
theorem By{w:Wh}(hw:bnd w.frm)(l:List Int)(t:Int){n:Nat}(hl:∀p∈l,0≤p∧p<w.frm.length):∀j,j≤l.length→bnd (zC w l t n j).1
 | 0,_=>vZ n
 | j+1,hj=>by
   have:=By hw l t hl (n:=n) j (by omega)
   simp only[zC,wc]
   split
   · have hp:=hl _ (ah (l:=l) (j:=j) (by omega))
     have:=hw _ (ah (l:=w.frm) (j:=(nth l j).toNat) (by omega))
     exact vY (by assumption) this.1 this.2
   · exact this
def zI(m:aK)(w:Wh)(l:List Int)(a b:Int):Wh×Int:=
 if j5 m w l a b≠0 then(w,j5 m w l a b)else if a<w.time then(w,42)else
 if(zC w l b m.places.length l.length).2=true then(⟨b,dn m a none (zC w l b m.places.length l.length).1⟩,0)else(w,43)
theorem lW{m:aK}{w:Wh}{l:List Int}{a b:Int}(h:j5 m w l a b=0):dq m w=true∧l≠[]∧zB l m.places.length=true∧inT a∧inT b∧a≤b:=by
 unfold j5 at h
 split at h
 · rename_i h1
   split at h
   · rename_i h2;exact⟨h1.1,h1.2.1,h1.2.2,h2⟩
   · omega
 · omega
theorem dH{m:aK}{w:Wh}(h:dq m w=true):w.frm.length=m.places.length∧inT w.time∧(∀x∈w.frm,plT x)∧dn m w.time none w.frm=w.frm:=by
 simp only[dq,Bool.and_eq_true,decide_eq_true_eq]at h
 obtain⟨h1,h2,h3⟩:=s7 h.1
 exact⟨by omega,h2,h3,h.2⟩
theorem aai{m:aK}(h:m.ok)(w:Wh)(hl:w.frm.length≤1000000)(l:List Int)(hp:l.length≤1000000)(a b:Int):
 aG 0 N.gW [.t m.e,.t w.e,.t (tL l),I a,I b] []=some (.tup [.t (zI m w l a b).1.e,I (zI m w l a b).2],[]):=by
 refine av K.sW rfl ?_
 have as:=GI h w hl l hp a b
 have cp:=Bx w (by omega)
 have np:=h.np
 have nv:=C7 m.places.length (by omega)
 have nl:=mj m.places.length
 unfold zI
 by_cases h0:j5 m w l a b=0
 · obtain⟨v1,v2,v3,v4,v5,v6⟩:=lW h0
   obtain⟨w1,w2,w3,w4⟩:=dH v1
   have hlen:=rv v3
   rw[h0]at as ⊢
   obtain⟨time,frm⟩:=w
   simp only at*
   by_cases h1:a<time
   · simp (disch:=omega) only[go_sem,K.gW,↓reduceIte,as,cp,h1,ne_eq,not_true_eq_false]
   · have hbw:bnd (Wh.frm ⟨time,frm⟩):=fun x hx=>nU (w3 x hx)
     have hb:=By hbw l b (n:=m.places.length) (fun p hp=>by
      obtain⟨j,hj⟩:=List.mem_iff_getElem?.1 hp
      have:=px v3 (List.getElem?_eq_some_iff.1 hj).1
      rw[b8 hj]at this
      simp only
      omega) l.length (Nat.le_refl _)
     have ln:=pz ⟨time,frm⟩ l b m.places.length
     have loop:∀x y z u v:D,exS aG K.xk ⟨[x,y,.t (tL l),I a,I b,.bp 0 0,.bp 1 0,.bp 2 0,z,u,.ref 3 0 m.places.length,B false,I 0,v],[.box (aa m),.box [I time,.t (tL frm)],.box [I 0,.nil],.arr 1 false 0 (((kR m.places.length).map (T.int .i64)).map .t)]⟩=
      some (.exit 0,⟨[.und,.und,.t (tL l),I a,I b,.bp 0 0,.bp 1 0,.bp 2 0,.und,.und,.ref 3 0 m.places.length,B (zC ⟨time,frm⟩ l b m.places.length l.length).2,I l.length,.und],[.box (aa m),.box [I time,.t (tL frm)],.box [I 0,.nil],.arr 1 false 0 ((((zC ⟨time,frm⟩ l b m.places.length l.length).1).map (T.int .i64)).map .t)]⟩):=by
      intro x y z u v
      refine b7 (fun j=>⟨[.und,.und,.t (tL l),I a,I b,.bp 0 0,.bp 1 0,.bp 2 0,.und,.und,.ref 3 0 m.places.length,B (zC ⟨time,frm⟩ l b m.places.length j).2,I j,.und],[.box (aa m),.box [I time,.t (tL frm)],.box [I 0,.nil],.arr 1 false 0 ((((zC ⟨time,frm⟩ l b m.places.length j).1).map (T.int .i64)).map .t)]⟩) l.length rfl ?_ ?_ (by simp)
      · intro j hj
        obtain⟨p1,p2, -⟩:=px v3 hj
        have lj:=ln j
        by_cases hc:nth frm (nth l j).toNat≤b
        · simp (disch:=omega) only[go_sem,K.lU,↓reduceIte,zC,wc,hc]
        · simp (disch:=omega) only[go_sem,K.lU,↓reduceIte,zC,wc,hc]
      · simp (disch:=omega) only[go_sem,K.lU,↓reduceIte]
     have cl:=yc h a v4 _ (ln l.length) hb
     have ln:=ln l.length
     simp (disch:=omega) only[go_sem,K.gW,↓reduceIte,as,h1,nv,loop,ne_eq,not_true_eq_false]
     cases hs:(zC ⟨time,frm⟩ l b m.places.length l.length).2 with
     | true=>simp (disch:=omega) only[go_sem,↓reduceIte,ln,cl]
     | false=>simp (disch:=omega) only[go_sem,↓reduceIte,cp,Bool.false_eq_true]
 · obtain⟨time,frm⟩:=w
   simp only at*
   simp (disch:=omega) only[go_sem,K.gW,↓reduceIte,as,cp,h0,ne_eq,not_false_eq_true]
def EZ(l0 l:List Int):Nat→List Int
 | 0=>l0
 | j+1=>(EZ l0 l j).set (nth l j).toNat 1099511627776
theorem uM(l0 l:List Int):∀j,(EZ l0 l j).length=l0.length
 | 0=>rfl
 | j+1=>by simp only[EZ,List.length_set,uM l0 l j]
theorem Bz{l0:List Int}(h:bnd l0)(l:List Int):∀j,bnd (EZ l0 l j)
 | 0=>h
 | j+1=>vY (Bz h l j) (by omega) (by omega)
def AH(m:aK)(w:Wh)(l:List Int)(a b bl:Int):Wh×Int:=
 if j5 m w l a b≠0 then(w,j5 m w l a b)else if ¬inT bl then(w,8)else if b<w.time then(w,42)else if b-max a w.time≤bl then(w,0)else
 (⟨b,dn m b none (dn m (b-bl) (some l) (EZ w.frm l l.length))⟩,0)
theorem aaj{m:aK}(h:m.ok)(w:Wh)(hl:w.frm.length≤1000000)(l:List Int)(hp:l.length≤1000000)(a b bl:Int):
 aG 0 N.cW [.t m.e,.t w.e,.t (tL l),I a,I b,I bl] []=some (.tup [.t (AH m w l a b bl).1.e,I (AH m w l a b bl).2],[]):=by
 refine av K.nO rfl ?_
 have as:=GI h w hl l hp a b
 have cp:=Bx w (by omega)
 have ib:=uL bl
 have np:=h.np
 unfold AH
 by_cases h0:j5 m w l a b=0
 · obtain⟨v1,v2,v3,v4,v5,v6⟩:=lW h0
   obtain⟨w1,w2,w3,w4⟩:=dH v1
   have hlen:=rv v3
   rw[h0]at as ⊢
   obtain⟨time,frm⟩:=w
   simp only at*
   by_cases h1:inT bl
   · by_cases h2:b<time
     · simp only[h1,decide_true]at ib
       simp (disch:=omega) only[go_sem,K.cW,↓reduceIte,as,ib,cp,h1,h2,ne_eq,not_true_eq_false,not_false_eq_true]
     · simp only[h1,decide_true]at ib
       unfold inT at v4 v5 w2 h1
       by_cases h3:b-max a time≤bl
       · simp (disch:=omega) only[go_sem,K.cW,↓reduceIte,as,ib,cp,h1,h2,h3,ne_eq,not_true_eq_false,not_false_eq_true,inT,and_self]
       · have hb:bnd frm:=fun x hx=>nU (w3 x hx)
         have ln:=uM frm l
         have lb:=Bz hb l
         have loop:∀x y z u v w:D,exS aG K.qs ⟨[x,y,.t (tL l),z,I b,I bl,.bp 0 0,u,.bp 2 0,v,w,.ref 3 0 frm.length,I 0],[.box (aa m),.box [I time,.t (tL frm)],.box [I 0,.nil],.arr 1 false 0 ((frm.map (T.int .i64)).map .t)]⟩=
          some (.exit 0,⟨[.und,.und,.t (tL l),.und,I b,I bl,.bp 0 0,.und,.bp 2 0,.und,.und,.ref 3 0 frm.length,I l.length],[.box (aa m),.box [I time,.t (tL frm)],.box [I 0,.nil],.arr 1 false 0 (((EZ frm l l.length).map (T.int .i64)).map .t)]⟩):=by
          intro x y z u v w
          refine b7 (fun j=>⟨[.und,.und,.t (tL l),.und,I b,I bl,.bp 0 0,.und,.bp 2 0,.und,.und,.ref 3 0 frm.length,I j],[.box (aa m),.box [I time,.t (tL frm)],.box [I 0,.nil],.arr 1 false 0 (((EZ frm l j).map (T.int .i64)).map .t)]⟩) l.length rfl ?_ ?_ (by simp)
          · intro j hj
            obtain⟨p1,p2, -⟩:=px v3 hj
            have lj:=ln j
            simp (disch:=omega) only[go_sem,K.lq,↓reduceIte,EZ]
          · simp (disch:=omega) only[go_sem,K.lq,↓reduceIte]
         have hi:∀s,some l=some s→s≠[]∧s.length≤64:=by
          intro s hs;cases hs;exact⟨v2,by omega⟩
         have ln:=ln l.length
         have lb:=lb l.length
         have t1:inT (b-bl):=by unfold inT;omega
         have c1:=yb h (b-bl) (by omega) (by omega) (some l) hi _ (by omega) lb
         simp only[nT]at c1
         have c2:=yc h b v5 (dn m (b-bl) (some l) (EZ frm l l.length)) (kx h _ t1 _ hi (by omega) lb) (AG h _ t1 _ hi (by omega) lb)
         have c3:=c1.1
         unfold dn at c2 ⊢
         clear c1
         simp (disch:=omega) only[go_sem,K.cW,↓reduceIte,as,ib,loop,c2,c3,ln,h1,h2,h3,ne_eq,not_true_eq_false,not_false_eq_true,inT,and_self,Nat.reduceAdd,Nat.reduceSub]
   · simp only[h1,decide_false]at ib
     simp (disch:=omega) only[go_sem,K.cW,↓reduceIte,as,ib,cp,h1,ne_eq,not_true_eq_false,not_false_eq_true]
 · obtain⟨time,frm⟩:=w
   simp only at*
   simp (disch:=omega) only[go_sem,K.cW,↓reduceIte,as,cp,h0,ne_eq,not_false_eq_true]
def HT(a b:List Int):Nat→List Int
 | 0=>[]
 | j+1=>HT a b j++[min (nth a j) (nth b j)]
theorem nj(a b:List Int):∀j,(HT a b j).length=j
 | 0=>rfl
 | j+1=>by simp[HT,nj a b j]
def lX(a b:Wh):Wh×Int:=if a.frm.length=b.frm.length then(⟨max a.time b.time,HT a.frm b.frm a.frm.length⟩,0)else(⟨0,[]⟩,6)
theorem S7(a b:Wh)(ha:a.frm.length≤1000000):aG 0 N.gA [.t a.e,.t b.e] []=some (.tup [.t (lX a b).1.e,I (lX a b).2],[]):=by
 refine av K.qy rfl ?_
 obtain⟨t1,l1⟩:=a
 obtain⟨t2,l2⟩:=b
 simp only[lX]at*
 by_cases hl:l1.length=l2.length
 · have ln:=nj l1 l2
   have loop:∀x y z:D,exS aG K.uG ⟨[x,y,.bp 0 0,.bp 1 0,.bp 2 0,z,.bp 3 0,I 0],[.box [I t1,.t (tL l1)],.box [I t2,.t (tL l2)],.box [I 0,.nil],.box [I (max t1 t2),.ref 5 0 0],.arr 1 false 0 [],.arr 1 false 0 []]⟩=
    some (.exit 0,⟨[.und,.und,.bp 0 0,.bp 1 0,.bp 2 0,.und,.bp 3 0,I l1.length],[.box [I t1,.t (tL l1)],.box [I t2,.t (tL l2)],.box [I 0,.nil],.box [I (max t1 t2),.ref 5 0 l1.length],.arr 1 false 0 [],.arr 1 false 0 (((HT l1 l2 l1.length).map (T.int .i64)).map .t)]⟩):=by
    intro x y z
    refine b7 (fun j=>⟨[.und,.und,.bp 0 0,.bp 1 0,.bp 2 0,.und,.bp 3 0,I j],[.box [I t1,.t (tL l1)],.box [I t2,.t (tL l2)],.box [I 0,.nil],.box [I (max t1 t2),.ref 5 0 j],.arr 1 false 0 [],.arr 1 false 0 (((HT l1 l2 j).map (T.int .i64)).map .t)]⟩) l1.length rfl ?_ ?_ (by simp)
    · intro j hj
      have lj:=ln j
      simp (disch:=omega) only[go_sem,K.nM,↓reduceIte,HT,Nat.reduceAdd,Nat.reduceSub]
      done
    · simp (disch:=omega) only[go_sem,K.nM,↓reduceIte]
   have ln:=ln l1.length
   simp (disch:=omega) only[go_sem,K.gA,↓reduceIte,loop]
 · simp (disch:=omega) only[go_sem,K.gA,↓reduceIte,hl]
   rfl
end Go.Ev
