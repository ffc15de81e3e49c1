/- Parts of the proof: see the text that holds the theorem. -/
import Derived.Test.YtifghciaddehaaaGreatZ2
set_option linter.all false
set_option maxRecDepth 100000
namespace Go.Ev
open Go
abbrev Tr:=List D×List D×ab
def tV(x:Option (D×ab)):Option D:=x.map Prod.fst
def mW:O→Bool
 | .ld .. =>true
 | .ia .. =>true
 | .sc .. =>true
 | .mkt .. =>true
 | _=>false
def IK(call:aC)(all:List R)(n:Nat)(acc:List Tr)(p m:Nat):Prop:=
 match all[p]?,acc[n-p]?,acc[n-m]?,acc[n-(p+1)]? with
 | some r,some s,some a,some s'=>(match r.o with
   | .al _ _=>a.2.2[s.2.2.length]?=s'.2.2[s.2.2.length]?
   | .bs xs _=>bw s.1 r.g=some false∨((bn (X.get s.2.1 s.1) xs).bind kd).isSome=true
   | o=>mW o=true∧(bw s.1 r.g=some false∨tV (evO call (X.get s.2.1 s.1) a.2.2 o)=tV (evO call (X.get s.2.1 s.1) s.2.2 o)))
 | _,_,_,_=>False
def kN(call:aC)(all:List R)(n:Nat)(acc:List Tr):List (Nat×Nat)→Prop
 | []=>True
 | (p,m)::r=>IK call all n acc p m∧m≤n∧kN call all n acc r
open Classical in
noncomputable def A8(call:aC)(rs:List R)(ps:List (Nat×Nat))(vs:List D)(H:ab):Option (List D×List D×ab):=
 if kN call rs rs.length (trace call rs [] vs H).reverse ps then evR call rs [] vs H else none
theorem pO{call:aC}:∀ {rs:List R} {L vs:List D} {H:ab} {res:List D×List D×ab},evR call rs L vs H=some res→
 (trace call rs L vs H).length=rs.length+1∧
 ∀p r s s',rs[p]?=some r→(trace call rs L vs H)[p]?=some s→(trace call rs L vs H)[p+1]?=some s'→
  (∃q,bw s.1 r.g=some true∧evO call (X.get s.2.1 s.1) s.2.2 r.o=some q∧s'=(q.1::s.1,wr s.2.1 r.d q.1,q.2))∨bw s.1 r.g=some false
 | [],L,vs,H,res,h=>by simp[trace]
 | r::rs,L,vs,H,res,h=>by
   simp only[evR]at h
   obtain⟨b,hb,h⟩:=Option.bind_eq_some_iff.1 h
   cases b with
   | true=>
     simp only[if_true]at h
     obtain⟨q,hq,h⟩:=Option.bind_eq_some_iff.1 h
     obtain⟨a1,a2⟩:=pO h
     have e:trace call (r::rs) L vs H=(L,vs,H)::trace call rs (q.1::L) (wr vs r.d q.1) q.2:=by simp[trace,hb,hq]
     rw[e]
     refine⟨by simp[a1],fun p r' s s' hr hs hs'=>?_⟩
     cases p with
     | zero=>
       simp at hr hs hs'
       subst hr;subst hs
       have:(trace call rs (q.1::L) (wr vs r.d q.1) q.2)[0]?=some (q.1::L,wr vs r.d q.1,q.2):=by cases rs<;>simp[trace]
       rw[this]at hs'
       exact .inl ⟨q,hb,hq,(Option.some.inj hs').symm⟩
     | succ p=>simp at hr hs hs';exact a2 p r' s s' hr hs hs'
   | false=>
     simp only[Bool.false_eq_true,if_false]at h
     obtain⟨a1,a2⟩:=pO h
     have e:trace call (r::rs) L vs H=(L,vs,H)::trace call rs (.tup []::L) (wr vs r.d (.tup [])) H:=by simp[trace,hb]
     rw[e]
     refine⟨by simp[a1],fun p r' s s' hr hs hs'=>?_⟩
     cases p with
     | zero=>
       simp at hr hs
       subst hr;subst hs
       exact .inr hb
     | succ p=>simp at hr hs hs';exact a2 p r' s s' hr hs hs'
theorem xS{call:aC}{get:X→Option D}{o:O}(h:mW o=true)(H:ab):tV (evO call get H o)=qI get H o:=by
 cases o<;>simp only[mW,Bool.false_eq_true]at h
 case ia x i sz=>
  simp only[evO,qI,tV]
  cases get x with
  | none=>rfl
  | some a=>
    simp only[Option.bind_some]
    cases (get i).bind intOf with
    | none=>rfl
    | some n=>simp only[Option.bind_some];cases uo H a n sz<;>rfl
 case ld x n agg=>
  simp only[evO,qI,tV]
  cases get x with
  | none=>rfl
  | some a=>simp only[Option.bind_some];cases pB H a n agg<;>rfl
 case mkt len zero sz=>
  simp only[evO,qI,tV]
  cases (get len).bind intOf with
  | none=>rfl
  | some n=>
    simp only[Option.bind_some]
    cases idx n with
    | none=>rfl
    | some m=>simp only[Option.bind_some];split<;>rfl
 case sc x lo hi sz=>
  simp only[evO,qI,tV]
  cases get x with
  | none=>rfl
  | some a=>
    simp only[Option.bind_some]
    cases zJ get lo with
    | none=>rfl
    | some l=>
      simp only[Option.bind_some]
      cases zJ get hi with
      | none=>rfl
      | some h=>simp only[Option.bind_some];cases jg H a l h sz<;>rfl
theorem lx{call:aC}{rs:List R}{ps:List (Nat×Nat)}{vs:List D}{H:ab}{q:List D×List D×ab}(h:A8 call rs ps vs H=some q):mA call rs ps vs H=some q:=by
 unfold A8 at h
 split at h
 · rename_i hp
   unfold mA
   obtain⟨h1,h2⟩:=pO h
   have key:ps.all (steady (trace call rs [] vs H) rs)=true:=by
    rw[List.all_eq_true]
    have:∀(ps:List (Nat×Nat)),kN call rs rs.length (trace call rs [] vs H).reverse ps→∀x∈ps,steady (trace call rs [] vs H) rs x=true:=by
     intro ps
     induction ps with
     | nil=>intro _ x hx;cases hx
     | cons y ps ih=>
       intro hps x hx
       obtain⟨p,m⟩:=y
       obtain⟨hp,hm,hps⟩:=hps
       rcases List.mem_cons.1 hx with rfl | hx
       · unfold IK at hp
         have hidx:∀k,k≤rs.length→(trace call rs [] vs H).reverse[rs.length-k]?=(trace call rs [] vs H)[k]?:=by
          intro k hk
          rw[List.getElem?_reverse (by omega),h1]
          congr 1;omega
         split at hp
         · rename_i r s a s' hr hs ha hs'
           have hpl:p<rs.length:=(List.getElem?_eq_some_iff.1 hr).1
           rw[hidx p (by omega)]at hs
           rw[hidx m hm]at ha
           rw[hidx (p+1) (by omega)]at hs'
           simp only[steady,hs,hr,ha,hs']
           have hst:=h2 p r s s' hr hs hs'
           have gen:∀o,r.o=o→mW o=true→(bw s.1 r.g=some false∨tV (evO call (X.get s.2.1 s.1) a.2.2 o)=tV (evO call (X.get s.2.1 s.1) s.2.2 o))→
            bw s.1 r.g=some false∨(qI (X.get s.2.1 s.1) a.2.2 o=qI (X.get s.2.1 s.1) s.2.2 o∧(qI (X.get s.2.1 s.1) s.2.2 o).isSome=true):=by
            intro o ho hl hor
            rcases hor with h3 | h3
            · exact .inl h3
            · rw[xS hl,xS hl]at h3
              rcases hst with⟨q,k1,k2,_⟩ | k
              · rw[ho]at k2
                have h4:qI (X.get s.2.1 s.1) s.2.2 o=some q.1:=by rw[← xS hl (call:=call),k2];rfl
                exact .inr ⟨h3,by rw[h4];rfl⟩
              · exact .inl k
           split
           · rename_i zero live ho
             rw[ho]at hp
             simp only at hp
             simp[hp]
           · rename_i hnal
             simp only[Bool.or_eq_true,beq_iff_eq,Bool.and_eq_true,decide_eq_true_eq]
             cases ho:r.o with
             | ld x n agg=>rw[ho]at hp;exact gen _ ho rfl hp.2
             | ia x i sz=>rw[ho]at hp;exact gen _ ho rfl hp.2
             | sc x lo hi sz=>rw[ho]at hp;exact gen _ ho rfl hp.2
             | mkt x z sz=>rw[ho]at hp;exact gen _ ho rfl hp.2
             | al z l=>exact(hnal _ _ ho).elim
             | bs xs sz=>
               rw[ho]at hp
               simp only at hp
               rcases hp with h3 | h3
               · exact .inl h3
               · rcases hst with⟨q,k1,k2,_⟩ | k
                 · obtain⟨ts,hts⟩:=Option.isSome_iff_exists.1 h3
                   obtain⟨ds,hds,hts⟩:=Option.bind_eq_some_iff.1 hts
                   rw[ho]at k2
                   simp only[evO,hds,Option.bind_some]at k2
                   split at k2
                   · rename_i hall
                     have har:∀(H:ab) (ds:List D) (ts:List T),kd ds=some ts→ds.flatMap (cY H depth)=[]∧bn (frz H depth) ds=some ts:=by
                      intro H ds
                      induction ds with
                      | nil=>intro ts h;simp[kd]at h;subst h;exact⟨rfl,rfl⟩
                      | cons d ds ih=>
                        intro ts h
                        cases d with
                        | t x=>
                          simp only[kd,Option.map_eq_some_iff]at h
                          obtain⟨r,hr,rfl⟩:=h
                          obtain⟨i1,i2⟩:=ih r hr
                          exact⟨by rw[List.flatMap_cons,i1];simp[cY,depth],by simp[bn,frz,i2]⟩
                        | _=>simp[kd]at h
                     right
                     simp only[qI,hds,Option.bind_some,hall,(har _ ds ts hts).1,(har _ ds ts hts).2,List.isEmpty_nil,Bool.and_self,if_true,Option.map_some,Option.isSome_some,and_self]
                   · cases k2
                 · exact .inl k
             | _=>rw[ho]at hp;simp[mW]at hp
         · exact hp.elim
       · exact ih hps x hx
    exact fun x hx=>this ps hp x hx
   rw[if_pos (by simp[key])]
   exact h
 · cases h
noncomputable def exS(call:aC):C→St→Option (Ex×St)
 | .skip,st=>some (.normal,st)
 | .reg rs ps,st=>(A8 call rs ps st.vs st.H).map fun q=>(.normal,⟨q.2.1,q.2.2⟩)
 | .seq a b,st=>(exS call a st).bind fun p=>dH p (exS call b)
 | .ite rs ps k a b,st=>(A8 call rs ps st.vs st.H).bind fun q=>
  dC q.1[k]? (exS call a ⟨q.2.1,q.2.2⟩) (exS call b ⟨q.2.1,q.2.2⟩)
 | .its rs ps k a b c,st=>((A8 call rs ps st.vs st.H).bind fun q=>
  dC q.1[k]? (exS call a ⟨q.2.1,q.2.2⟩) (exS call b ⟨q.2.1,q.2.2⟩)).bind fun p=>dH p (exS call c)
 | .itk rs ps k a b c,st=>(A8 call rs ps st.vs st.H).bind fun q=>
  dC q.1[k]? ((exS call a ⟨q.2.1,q.2.2⟩).bind fun p=>dH p (exS call c)) ((exS call b ⟨q.2.1,q.2.2⟩).bind fun p=>dH p (exS call c))
 | .itv j a b,st=>dC st.vs[j]? (exS call a st) (exS call b st)
 | .blk id c,st=>(exS call c st).map (leave id)
 | .loop gc dead c,st=>ju gc dead (exS call c) ⟨gy dead st.vs,st.H⟩
 | .exit id,st=>some (.exit id,st)
 | .ret,st=>some (.ret,st)
 | .fail,_=>none
 | .cnd _ c,st=>exS call c st
 | .rng x p f r1 p1 r2 p2,st=>(A5 (stepG (A8 call) st.vs p r1 p1 r2 p2) (DL f st.vs[x]?) st.H).map fun H=>(.normal,⟨st.vs,H⟩)
theorem EL{call:aC}:∀(c:C) (st:St) (p:Ex×St),exS call c st=some p→exC call c st=some p:=by
 intro c
 induction c with
 | skip=>intro st p h;exact h
 | reg rs ps=>
   intro st p h
   simp only[exS,exC]at h ⊢
   obtain⟨q,hq,rfl⟩:=Option.map_eq_some_iff.1 h
   rw[lx hq];rfl
 | seq a b iha ihb=>
   intro st p h
   simp only[exS,exC]at h ⊢
   obtain⟨q,hq,h⟩:=Option.bind_eq_some_iff.1 h
   rw[iha _ _ hq,Option.bind_some]
   exact du h ihb
 | ite rs ps k a b iha ihb=>
   intro st p h
   simp only[exS,exC]at h ⊢
   obtain⟨q,hq,h⟩:=Option.bind_eq_some_iff.1 h
   rw[lx hq,Option.bind_some]
   exact fM h (iha _ _) (ihb _ _)
 | its rs ps k a b c iha ihb ihc=>
   intro st p h
   simp only[exS,exC]at h ⊢
   obtain⟨p1,hp1,h⟩:=Option.bind_eq_some_iff.1 h
   obtain⟨q,hq,hp1⟩:=Option.bind_eq_some_iff.1 hp1
   rw[lx hq,Option.bind_some,fM hp1 (iha _ _) (ihb _ _),Option.bind_some]
   exact du h ihc
 | itk rs ps k a b c iha ihb ihc=>
   intro st p h
   simp only[exS,exC]at h ⊢
   obtain⟨q,hq,h⟩:=Option.bind_eq_some_iff.1 h
   rw[lx hq,Option.bind_some]
   refine fM h (fun h1=>?_) (fun h1=>?_)
   · obtain⟨p1,h2,h3⟩:=Option.bind_eq_some_iff.1 h1
     rw[iha _ _ h2,Option.bind_some]
     exact du h3 ihc
   · obtain⟨p1,h2,h3⟩:=Option.bind_eq_some_iff.1 h1
     rw[ihb _ _ h2,Option.bind_some]
     exact du h3 ihc
 | itv j a b iha ihb=>
   intro st p h
   simp only[exS,exC]at h ⊢
   exact fM h (iha _ _) (ihb _ _)
 | blk id c ih=>
   intro st p h
   simp only[exS,exC]at h ⊢
   obtain⟨q,hq,rfl⟩:=Option.map_eq_some_iff.1 h
   rw[ih _ _ hq];rfl
 | loop gc dead c ih=>
   intro st p h
   simp only[exS,exC]at h ⊢
   obtain⟨n,hn⟩:=jP.1 h
   exact jP.2 ⟨n,oD ih hn⟩
 | exit id=>intro st p h;exact h
 | ret=>intro st p h;exact h
 | fail=>intro st p h;cases h
 | cnd v c ih=>intro st p h;exact ih st p h
 | rng x p f r1 p1 r2 p2=>
   intro st q h
   simp only[exS,exC]at h ⊢
   obtain⟨H,hH,rfl⟩:=Option.map_eq_some_iff.1 h
   rw[rf (pC fun _ _ _ _ _ hr=>lx hr) hH];rfl
end Go.Ev
namespace Go.Ev
open Go
abbrev I(n:Int):D:= .t (.int .i64 n)
abbrev B(b:Bool):D:= .t (.bool b)
def A9{β:Type}(call:aC):List R→List D→List D→ab→(List D→List D→ab→Option β)→Option β
 | rs,L,vs,H,K=>(evR call rs L vs H).bind fun q=>K q.1 q.2.1 q.2.2
def IL{β:Type}(call:aC)(rs:List R)(d:Option Nat)(L vs:List D)(K:List D→List D→ab→Option β)(p:D×ab):Option β:=
 A9 call rs (p.1::L) (wr vs d p.1) p.2 K
@[go_sem] theorem SL {β : Type} (call : aC) (rs : List R) (d : Option Nat) (L vs : List D) (K : List D → List D → ab → Option β) (x : D) (H : ab) :
 IL call rs d L vs K (x,H)=A9 call rs (x::L) (wr vs d x) H K:=(rfl)
@[go_sem] theorem SM {β : Type} (call : aC) (L vs : List D) (H : ab) (K : List D → List D → ab → Option β) : A9 call [] L vs H K = K L vs H := (rfl)
@[go_sem] theorem Pr {β : Type} (call : aC) (o : O) (d : Option Nat) (rs : List R) (L vs : List D) (H : ab) (K : List D → List D → ab → Option β) :
 A9 call (⟨o,d,none⟩::rs) L vs H K=(evO call (X.get vs L) H o).bind (IL call rs d L vs K):=by
 simp[A9,evR,bw,Option.bind_assoc]
 rfl
def gate{β:Type}(c:Option D)(w:Bool)(a b:Option β):Option β:=match c with
 | some (.t (.bool x))=>if x=w then a else b
 | some (.tup [])=>b
 | _=>none
@[congr] theorem Me {β : Type} {c c' : Option D} {w : Bool} {a b : Option β} (h : True → c = c') : gate c w a b = gate c' w a b := by rw [h trivial]
@[go_sem] theorem SN {β : Type} (p : Prop) [Decidable p] (a b : Option β) : gate (some (.t (.bool (decide p)))) true a b = if p then a else b := by
 by_cases h:p<;>simp[gate,h]
@[go_sem] theorem Ps {β : Type} (p : Prop) [Decidable p] (a b : Option β) : gate (some (.t (.bool (decide p)))) false a b = if p then b else a := by
 by_cases h:p<;>simp[gate,h]
@[go_sem] theorem Pt {β : Type} (x : Bool) (a b : Option β) : gate (some (.t (.bool x))) true a b = if x = true then a else b := (rfl)
@[go_sem] theorem Mf {β : Type} (x : Bool) (a b : Option β) : gate (some (.t (.bool x))) false a b = if x = true then b else a := by cases x <;> rfl
@[go_sem] theorem Pu {β : Type} (w : Bool) (a b : Option β) : gate (some (.tup [])) w a b = b := (rfl)
@[go_sem] theorem Pv {β : Type} (call : aC) (o : O) (d : Option Nat) (k : Nat) (w : Bool) (rs : List R) (L vs : List D) (H : ab) (K : List D → List D → ab → Option β) :
 A9 call (⟨o,d,some (k,w)⟩::rs) L vs H K=gate L[k]? w ((evO call (X.get vs L) H o).bind (IL call rs d L vs K)) (A9 call rs (.tup []::L) (wr vs d (.tup [])) H K):=by
 simp only[A9,evR,bw]
 cases hL:L[k]? with
 | none=>simp[gate]
 | some c=>
   simp only[Option.bind_some]
   cases c with
   | t x=>
     cases x with
     | bool b=>cases b<;>cases w<;>simp[gate,Option.bind_assoc]<;>rfl
     | _=>simp[gate]
   | tup ds=>
     cases ds with
     | nil=>simp[gate]
     | cons=>simp[gate]
   | _=>simp[gate]
open Classical in
noncomputable def qo{β:Type}(p:Prop)(x:Option β):Option β:=if p then x else none
@[go_sem] theorem IM {β : Type} (x : Option β) : qo True x = x := by simp [qo]
noncomputable def wj{β:Type}(call:aC)(all:List R)(n:Nat)(ps:List (Nat×Nat))(rs:List R)(L vs:List D)(H:ab)(acc:List Tr)(K:List D→List D→ab→Option β):Option β:=
 (evR call rs L vs H).bind fun q=>qo (kN call all n ((trace call rs L vs H).reverse++acc) ps) (K q.1 q.2.1 q.2.2)
noncomputable def B9{β:Type}(call:aC)(all:List R)(n:Nat)(ps:List (Nat×Nat))(rs:List R)(d:Option Nat)(L vs:List D)(H:ab)(acc:List Tr)(K:List D→List D→ab→Option β)(p:D×ab):Option β:=
 wj call all n ps rs (p.1::L) (wr vs d p.1) p.2 ((L,vs,H)::acc) K
@[go_sem] theorem SO {β : Type} (call : aC) (all : List R) (n : Nat) (ps : List (Nat × Nat)) (rs : List R) (d : Option Nat) (L vs : List D) (H : ab) (acc : List Tr) (K : List D → List D → ab → Option β) (x : D) (H' : ab) :
 B9 call all n ps rs d L vs H acc K (x,H')=wj call all n ps rs (x::L) (wr vs d x) H' ((L,vs,H)::acc) K:=(rfl)
@[go_sem] theorem SP {β : Type} (call : aC) (all : List R) (n : Nat) (ps : List (Nat × Nat)) (L vs : List D) (H : ab) (acc : List Tr) (K : List D → List D → ab → Option β) :
 wj call all n ps [] L vs H acc K=qo (kN call all n ((L,vs,H)::acc) ps) (K L vs H):=by
 simp[wj,evR,trace]
theorem wk{β:Type}(call:aC)(all:List R)(n:Nat)(ps:List (Nat×Nat))(r:R)(rs:List R)(L vs:List D)(H:ab)(acc:List Tr)(K:List D→List D→ab→Option β):
 wj call all n ps (r::rs) L vs H acc K=(bw L r.g).bind fun w=>
  if w then(evO call (X.get vs L) H r.o).bind (B9 call all n ps rs r.d L vs H acc K)else wj call all n ps rs (.tup []::L) (wr vs r.d (.tup [])) H ((L,vs,H)::acc) K:=by
 obtain hw | ⟨w,hw⟩:bw L r.g=none∨∃w,bw L r.g=some w:=by cases bw L r.g<;>simp
 · simp[wj,evR,trace,hw]
 · cases w with
   | true=>
     obtain hq | ⟨q,hq⟩:evO call (X.get vs L) H r.o=none∨∃q,evO call (X.get vs L) H r.o=some q:=by cases evO call (X.get vs L) H r.o<;>simp
     · simp[wj,evR,trace,hw,hq]
     · simp[wj,evR,trace,hw,hq,B9]
   | false=>simp[wj,evR,trace,hw]
@[go_sem] theorem Pw {β : Type} (call : aC) (all : List R) (n : Nat) (ps : List (Nat × Nat)) (o : O) (d : Option Nat) (rs : List R) (L vs : List D) (H : ab) (acc : List Tr) (K : List D → List D → ab → Option β) :
 wj call all n ps (⟨o,d,none⟩::rs) L vs H acc K=(evO call (X.get vs L) H o).bind (B9 call all n ps rs d L vs H acc K):=by
 rw[wk];simp[bw]
@[go_sem] theorem Px {β : Type} (call : aC) (all : List R) (n : Nat) (ps : List (Nat × Nat)) (o : O) (d : Option Nat) (k : Nat) (w : Bool) (rs : List R) (L vs : List D) (H : ab) (acc : List Tr) (K : List D → List D → ab → Option β) :
 wj call all n ps (⟨o,d,some (k,w)⟩::rs) L vs H acc K=
  gate L[k]? w ((evO call (X.get vs L) H o).bind (B9 call all n ps rs d L vs H acc K)) (wj call all n ps rs (.tup []::L) (wr vs d (.tup [])) H ((L,vs,H)::acc) K):=by
 rw[wk]
 simp only[bw]
 cases hL:L[k]? with
 | none=>simp[gate]
 | some c=>
   simp only[Option.bind_some]
   cases c with
   | t x=>
     cases x with
     | bool b=>cases b<;>cases w<;>simp[gate]
     | _=>simp[gate]
   | tup ds=>
     cases ds with
     | nil=>simp[gate]
     | cons=>simp[gate]
   | _=>simp[gate]
def qM(call:aC):Option R→Option Tr→Option Tr→Option Tr→Prop
 | some r,some s,some a,some s'=>(match r.o with
   | .al _ _=>a.2.2[s.2.2.length]?=s'.2.2[s.2.2.length]?
   | .bs xs _=>bw s.1 r.g=some false∨((bn (X.get s.2.1 s.1) xs).bind kd).isSome=true
   | o=>mW o=true∧(bw s.1 r.g=some false∨tV (evO call (X.get s.2.1 s.1) a.2.2 o)=tV (evO call (X.get s.2.1 s.1) s.2.2 o)))
 | _,_,_,_=>False
@[go_sem] theorem Mg (call : aC) (all : List R) (n : Nat) (acc : List Tr) : kN call all n acc [] = True := (rfl)
@[go_sem] theorem IN (call : aC) (all : List R) (n : Nat) (acc : List Tr) (p m : Nat) (r : List (Nat × Nat)) :
 kN call all n acc ((p,m)::r)=(qM call all[p]? acc[n-p]? acc[n-m]? acc[n-(p+1)]?∧m≤n∧kN call all n acc r):=by
 simp only[kN,IK,qM]
 try rfl
section
variable (call : aC) (d : Option Nat) (gd : Option (Nat × Bool)) (L vs L' vs' : List D) (H H' : ab) (s' : Tr)
@[go_sem] theorem SQ (x : X) (n : Nat) (agg : Bool) : qM call (some ⟨.ld x n agg, d, gd⟩) (some (L, vs, H)) (some (L', vs', H')) (some s') =
 (bw L gd=some false∨tV (evO call (X.get vs L) H' (.ld x n agg))=tV (evO call (X.get vs L) H (.ld x n agg))):=by simp[qM,mW]
@[go_sem] theorem SR (x i : X) (sz : Nat) : qM call (some ⟨.ia x i sz, d, gd⟩) (some (L, vs, H)) (some (L', vs', H')) (some s') =
 (bw L gd=some false∨tV (evO call (X.get vs L) H' (.ia x i sz))=tV (evO call (X.get vs L) H (.ia x i sz))):=by simp[qM,mW]
@[go_sem] theorem SS (x : X) (lo hi : Option X) (sz : Nat) : qM call (some ⟨.sc x lo hi sz, d, gd⟩) (some (L, vs, H)) (some (L', vs', H')) (some s') =
 (bw L gd=some false∨tV (evO call (X.get vs L) H' (.sc x lo hi sz))=tV (evO call (X.get vs L) H (.sc x lo hi sz))):=by simp[qM,mW]
@[go_sem] theorem Py (x : X) (z : T) (sz : Nat) : qM call (some ⟨.mkt x z sz, d, gd⟩) (some (L, vs, H)) (some (L', vs', H')) (some s') =
 (bw L gd=some false∨tV (evO call (X.get vs L) H' (.mkt x z sz))=tV (evO call (X.get vs L) H (.mkt x z sz))):=by simp[qM,mW]
@[go_sem] theorem SU (z : List D) (l : List (Nat × Nat)) (L2 vs2 : List D) (H2 : ab) : qM call (some ⟨.al z l, d, gd⟩) (some (L, vs, H)) (some (L', vs', H')) (some (L2, vs2, H2)) = (H'[H.length]? = H2[H.length]?) := (rfl)
@[go_sem] theorem SV (xs : List X) (sz : Nat) : qM call (some ⟨.bs xs sz, d, gd⟩) (some (L, vs, H)) (some (L', vs', H')) (some s') =
 (bw L gd=some false∨((bn (X.get vs L) xs).bind kd).isSome=true):=(rfl)
@[go_sem] theorem GB (L : List D) : bw L none = some true := (rfl)
def IP(w:Bool):Option D→Option Bool
 | some (.t (.bool b))=>some (b==w)
 | some (.tup [])=>some false
 | _=>none
@[go_sem] theorem Mh (w b : Bool) : IP w (some (.t (.bool b))) = some (b == w) := (rfl)
@[go_sem] theorem Pz (w : Bool) : IP w (some (.tup [])) = some false := (rfl)
@[go_sem] theorem GC (L : List D) (k : Nat) (w : Bool) : bw L (some (k, w)) = IP w L[k]? := by
 simp only[bw]
 cases L[k]? with
 | none=>rfl
 | some c=>cases c with
   | t x=>cases x<;>rfl
   | tup ds=>cases ds<;>rfl
   | _=>rfl
@[go_sem] theorem PA (x : D) : tV (some (x, H)) = some x := (rfl)
attribute [go_sem] beq_true beq_false or_true true_or or_self
end
theorem y2(call:aC)(rs:List R)(vs:List D)(H:ab):A8 call rs [] vs H=evR call rs [] vs H:=by
 simp[A8,kN]
def Vb(L vs:List D)(H:ab):Option (Ex×St):=some (.normal,⟨vs,H⟩)
noncomputable def Vc(call:aC)(k:Nat)(a b:C)(L vs:List D)(H:ab):Option (Ex×St):=dC L[k]? (exS call a ⟨vs,H⟩) (exS call b ⟨vs,H⟩)
@[go_sem] theorem Vd (L vs : List D) (H : ab) : Vb L vs H = some (.normal, ⟨vs, H⟩) := (rfl)
@[go_sem] theorem Ve (call : aC) (k : Nat) (a b : C) (L vs : List D) (H : ab) : Vc call k a b L vs H = dC L[k]? (exS call a ⟨vs, H⟩) (exS call b ⟨vs, H⟩) := (rfl)
def andThen(x:Option (Ex×St))(k:St→Option (Ex×St)):Option (Ex×St):=x.bind fun p=>dH p k
@[go_sem] theorem DN (st : St) (k : St → Option (Ex × St)) : andThen (some (.normal, st)) k = k st := (rfl)
@[go_sem] theorem IQ (st : St) (k : St → Option (Ex × St)) : andThen (some (.ret, st)) k = some (.ret, st) := (rfl)
@[go_sem] theorem GD (i : Nat) (st : St) (k : St → Option (Ex × St)) : andThen (some (.exit i, st)) k = some (.exit i, st) := (rfl)
@[go_sem] theorem GF (k : St → Option (Ex × St)) : andThen none k = none := (rfl)
@[go_sem] theorem andThen_ite (c : Prop) [Decidable c] (a b : Option (Ex × St)) (k : St → Option (Ex × St)) : andThen (if c then a else b) k = if c then andThen a k else andThen b k := by
 split<;>rfl
@[go_sem] theorem SW (call : aC) (st : St) : exS call .skip st = some (.normal, st) := (rfl)
@[go_sem] theorem Vf (call : aC) (rs : List R) (vs : List D) (H : ab) : exS call (.reg rs []) ⟨vs, H⟩ = A9 call rs [] vs H Vb := by
 simp only[exS,y2,A9]
 cases evR call rs [] vs H<;>rfl
@[go_sem] theorem SX (call : aC) (rs : List R) (p : Nat × Nat) (ps : List (Nat × Nat)) (vs : List D) (H : ab) :
 exS call (.reg rs (p::ps)) ⟨vs,H⟩=wj call rs rs.length (p::ps) rs [] vs H [] Vb:=by
 simp only[exS,A8,wj,List.append_nil]
 by_cases h:kN call rs rs.length (trace call rs [] vs H).reverse (p::ps)
 · rw[if_pos h]
   simp only[qo,if_pos h]
   cases evR call rs [] vs H<;>rfl
 · rw[if_neg h]
   simp only[qo,if_neg h]
   cases evR call rs [] vs H<;>rfl
@[go_sem] theorem Vg (call : aC) (a b : C) (st : St) : exS call (.seq a b) st = andThen (exS call a st) (exS call b) := (rfl)
@[go_sem] theorem Vh (call : aC) (rs : List R) (k : Nat) (a b : C) (vs : List D) (H : ab) : exS call (.ite rs [] k a b) ⟨vs, H⟩ = A9 call rs [] vs H (Vc call k a b) := by
 simp only[exS,y2,A9]
 cases evR call rs [] vs H<;>rfl
@[go_sem] theorem SY (call : aC) (rs : List R) (p : Nat × Nat) (ps : List (Nat × Nat)) (k : Nat) (a b : C) (vs : List D) (H : ab) :
 exS call (.ite rs (p::ps) k a b) ⟨vs,H⟩=wj call rs rs.length (p::ps) rs [] vs H [] (Vc call k a b):=by
 simp only[exS,A8,wj,List.append_nil]
 by_cases h:kN call rs rs.length (trace call rs [] vs H).reverse (p::ps)
 · rw[if_pos h]
   simp only[qo,if_pos h]
   cases evR call rs [] vs H<;>rfl
 · rw[if_neg h]
   simp only[qo,if_neg h]
   cases evR call rs [] vs H<;>rfl
@[go_sem] theorem Vi (call : aC) (rs : List R) (ps : List (Nat × Nat)) (k : Nat) (a b c : C) (st : St) : exS call (.its rs ps k a b c) st = andThen (exS call (.ite rs ps k a b) st) (exS call c) := (rfl)
@[go_sem] theorem Vj (call : aC) (rs : List R) (ps : List (Nat × Nat)) (k : Nat) (a b c : C) (st : St) : exS call (.itk rs ps k a b c) st = exS call (.ite rs ps k (.seq a c) (.seq b c)) st := (rfl)
@[go_sem] theorem Vk (call : aC) (j : Nat) (a b : C) (vs : List D) (H : ab) : exS call (.itv j a b) ⟨vs, H⟩ = dC vs[j]? (exS call a ⟨vs, H⟩) (exS call b ⟨vs, H⟩) := (rfl)
@[go_sem] theorem SZ (call : aC) (id : Nat) (st : St) : exS call (.exit id) st = some (.exit id, st) := (rfl)
@[go_sem] theorem Vl (call : aC) (st : St) : exS call .ret st = some (.ret, st) := (rfl)
@[go_sem] theorem S0 (call : aC) (st : St) : exS call .fail st = none := (rfl)
@[go_sem] theorem Vm (call : aC) (x p f : Nat) (r1 : List R) (p1 : List (Nat × Nat)) (r2 : List R) (p2 : List (Nat × Nat)) (vs : List D) (H : ab) : exS call (.rng x p f r1 p1 r2 p2) ⟨vs, H⟩ = (A5 (stepG (A8 call) vs p r1 p1 r2 p2) (DL f vs[x]?) H).map fun H => (.normal, ⟨vs, H⟩) := (rfl)
@[go_sem] theorem Vn (call : aC) (v : Bool) (c : C) (st : St) : exS call (.cnd v c) st = exS call c st := (rfl)
def pP(id:Nat)(x:Option (Ex×St)):Option (Ex×St):=x.map (leave id)
@[go_sem] theorem Vo (call : aC) (id : Nat) (c : C) (st : St) : exS call (.blk id c) st = pP id (exS call c st) := (rfl)
@[go_sem] theorem GG (id : Nat) (st : St) : pP id (some (.normal, st)) = some (.normal, st) := by simp [pP, leave]
@[go_sem] theorem PB (id : Nat) (st : St) : pP id (some (.ret, st)) = some (.ret, st) := by simp [pP, leave]
@[go_sem] theorem Mi (id i : Nat) (st : St) : pP id (some (.exit i, st)) = if i = id then some (.normal, st) else some (.exit i, st) := by
 simp only[pP,leave,Option.map_some,Ex.exit.injEq]
 split<;>rfl
@[go_sem] theorem Mj (id : Nat) : pP id none = none := (rfl)
@[go_sem] theorem PC (id : Nat) (c : Prop) [Decidable c] (a b : Option (Ex × St)) : pP id (if c then a else b) = if c then pP id a else pP id b := by
 split<;>rfl
@[congr] theorem IS {c c' : Option D} {a b : Option (Ex × St)} (h : True → c = c') : dC c a b = dC c' a b := by rw [h trivial]
@[go_sem] theorem PD (p : Prop) [Decidable p] (a b : Option (Ex × St)) : dC (some (.t (.bool (decide p)))) a b = if p then a else b := by
 by_cases h:p<;>simp[dC,h]
@[go_sem] theorem Mk (p : Prop) [Decidable p] (a b : Option (Ex × St)) : dC (some (.t (.bool (!decide p)))) a b = if p then b else a := by
 by_cases h:p<;>simp[dC,h]
@[go_sem] theorem S1 (a : Option (Ex × St)) : dC (some .ub) a a = a := by simp [dC]
@[go_sem] theorem Ml (x : Bool) (a b : Option (Ex × St)) : dC (some (.t (.bool x))) a b = if x = true then a else b := (rfl)
def iQ(gc:Bool)(dead:List Nat)(k:Nat)(x:Option (Ex×St)):Option St:=x.bind fun p=>match p.1 with
 | .normal=>tidy gc dead k p.2
 | _=>none
@[go_sem] theorem EM (gc : Bool) (dead : List Nat) (k : Nat) (st : St) : iQ gc dead k (some (.normal, st)) = tidy gc dead k st := (rfl)
@[go_sem] theorem Mm (gc : Bool) (dead : List Nat) (k : Nat) (c : Prop) [Decidable c] (a b : Option (Ex × St)) : iQ gc dead k (if c then a else b) = if c then iQ gc dead k a else iQ gc dead k b := by
 split<;>rfl
theorem jR{gc:Bool}{dead:List Nat}{body:St→Option (Ex×St)}{st st2:St}(h:iQ gc dead st.H.length (body st)=some st2)
 {p:Ex×St} (h2:ju gc dead body st2=some p):ju gc dead body st=some p:=by
 unfold iQ at h
 obtain⟨⟨e,st1⟩,hq,h⟩:=Option.bind_eq_some_iff.1 h
 cases e with
 | normal=>exact tT hq h h2
 | ret=>cases h
 | exit=>cases h
theorem uM{gc:Bool}{dead:List Nat}{body:St→Option (Ex×St)}(s:Nat→St){p:Ex×St}(n:Nat)
 (h:∀j,j<n→iQ gc dead (s j).H.length (body (s j))=some (s (j+1))) (he:ju gc dead body (s n)=some p):ju gc dead body (s 0)=some p:=by
 have:=qn (s:=s) n 0 (fun j _ hj=>by
  have h:=h j (by omega)
  unfold iQ at h
  obtain⟨⟨e,st1⟩,hq,h⟩:=Option.bind_eq_some_iff.1 h
  cases e with
  | normal=>exact⟨st1,hq,h⟩
  | ret=>cases h
  | exit=>cases h) (by simpa using he)
 exact this
def S2(res:List (Nat×Option (Nat×Bool)))(k raw:Nat)(p:Ex×St):Option (D×ab):=match p.1 with
 | .exit _=>none
 | _=>(fv p.2 res).bind (finish k raw p.2.H)
@[go_sem] theorem S3 (res : List (Nat × Option (Nat × Bool))) (k raw : Nat) (vs : List D) (H : ab) : S2 res k raw (.ret, ⟨vs, H⟩) = (fv ⟨vs, H⟩ res).bind (finish k raw H) := (rfl)
@[go_sem] theorem IT (res : List (Nat × Option (Nat × Bool))) (k raw : Nat) (vs : List D) (H : ab) : S2 res k raw (.normal, ⟨vs, H⟩) = (fv ⟨vs, H⟩ res).bind (finish k raw H) := (rfl)
theorem IU{fs:Nat→Option Fn}{raw f:Nat}{args:List D}{H:ab}{fn:Fn}{r:D×ab}(hf:fs f=some fn)(hn:fn.nargs=args.length)
 (h:(exS (i9 fs) fn.body ⟨mQ args fn.vars,H⟩).bind (S2 fn.res H.length raw)=some r) (h0:fn.prim=[]:=by rfl):i9 fs raw f args H=some r:=by
 obtain⟨p,hp,he⟩:=Option.bind_eq_some_iff.1 h
 exact EH hf hn (EL _ _ _ hp) he h0
@[go_sem] theorem S4 {α β : Type} (c : Prop) [Decidable c] (a b : Option α) (k : α → Option β) : (if c then a else b).bind k = if c then a.bind k else b.bind k := by
 split<;>rfl
@[go_sem] theorem Vp {α β : Type} (c : Prop) [Decidable c] (a b : Option α) (k : α → β) : (if c then a else b).map k = if c then a.map k else b.map k := by
 split<;>rfl
theorem PE(a b:Int):(a==b)=decide (a=b):=by rw[Bool.eq_iff_iff];simp
theorem rY{n:Int}(h1: -9223372036854775808≤n)(h2:n≤9223372036854775807):IntKind.i64.wrap n=n:=by
 have e:IntKind.i64.wrap n=if n % 18446744073709551616≥9223372036854775808 then n % 18446744073709551616-18446744073709551616 else n % 18446744073709551616:=by
  simp[IntKind.wrap,IntKind.signed,IntKind.bits]
 rw[e];split<;>omega
section
variable {α β : Type}
@[go_sem] theorem IV (a : α) (f : α → Option β) : (some a).bind f = f a := (rfl)
@[go_sem] theorem Mn (a : α) (f : α → β) : (some a).map f = some (f a) := (rfl)
@[go_sem] theorem IW (f : α → Option β) : (none : Option α).bind f = none := (rfl)
@[go_sem] theorem Mo (f : α → β) : (none : Option α).map f = none := (rfl)
@[go_sem] theorem Mp (a : α) (l : List α) (f : α → β) : (a :: l).map f = f a :: l.map f := (rfl)
@[go_sem] theorem PF (f : α → β) : ([] : List α).map f = [] := (rfl)
@[go_sem] theorem Mq (a : α) (l : List α) : (a :: l)[0]? = some a := (rfl)
@[go_sem] theorem Mr (a : α) (l : List α) (n : Nat) : (a :: l)[n + 1]? = l[n]? := (rfl)
@[go_sem] theorem IX (a d : α) (l : List α) : (a :: l).getD 0 d = a := (rfl)
@[go_sem] theorem IY (a d : α) (l : List α) (n : Nat) : (a :: l).getD (n + 1) d = l.getD n d := (rfl)
@[go_sem] theorem Ms (d : α) (n : Nat) : ([] : List α).getD n d = d := by simp
@[go_sem] theorem Mt (a b : α) (l : List α) : (a :: l).set 0 b = b :: l := (rfl)
@[go_sem] theorem Mu (a b : α) (l : List α) (n : Nat) : (a :: l).set (n + 1) b = a :: l.set n b := (rfl)
@[go_sem] theorem EN (a : α) (l m : List α) : (a :: l) ++ m = a :: (l ++ m) := (rfl)
@[go_sem] theorem GH (l : List α) : [] ++ l = l := (rfl)
@[go_sem] theorem GI (l : List α) : l ++ [] = l := by simp
@[go_sem] theorem DO (a : α) (l : List α) (f : α → List β) : (a :: l).flatMap f = f a ++ l.flatMap f := by simp
@[go_sem] theorem EO (f : α → List β) : ([] : List α).flatMap f = [] := by simp
@[go_sem] theorem GJ : ([] : List α).length = 0 := (rfl)
@[go_sem] theorem EP (a : α) (l : List α) : (a :: l).length = l.length + 1 := (rfl)
@[go_sem] theorem GK (l : List α) (f : α → β) : (l.map f).length = l.length := by simp
@[go_sem] theorem Ca (l m : List α) : (l ++ m).length = l.length + m.length := by simp
@[go_sem] theorem y3 (n : Nat) (a : α) : (List.replicate n a).length = n := by simp
@[go_sem] theorem GL (l : List α) (i : Nat) (a : α) : (l.set i a).length = l.length := by simp
@[go_sem] theorem IZ (l : List α) : l.drop 0 = l := (rfl)
@[go_sem] theorem I0 (a : α) (l : List α) (n : Nat) : (a :: l).drop (n + 1) = l.drop n := (rfl)
@[go_sem] theorem Mv (n : Nat) : ([] : List α).drop n = [] := by simp
@[go_sem] theorem I3 (l : List α) : l.take 0 = [] := (rfl)
@[go_sem] theorem I4 (a : α) (l : List α) (n : Nat) : (a :: l).take (n + 1) = a :: l.take n := (rfl)
@[go_sem] theorem Mw (n : Nat) : ([] : List α).take n = [] := by simp
@[go_sem] theorem I5 (a b : α) : (bif true then a else b) = a := (rfl)
@[go_sem] theorem GM (a b : α) : (bif false then a else b) = b := (rfl)
@[go_sem] theorem Mx (n : Nat) : n + 0 = n := (rfl)
@[go_sem] theorem My (n : Nat) : 0 + n = n := by simp
@[go_sem] theorem Mz (a b : α) : (some a = some b) = (a = b) := by simp
@[go_sem] theorem S5 (a : α) : (some a).isSome = true := (rfl)
end
attribute [go_sem] decide_true decide_false if_true if_false Bool.false_eq_true Bool.true_eq_false decide_eq_true_eq decide_eq_false_iff_not Bool.and_eq_true Bool.or_eq_true Bool.not_eq_true' Bool.not_eq_true Bool.not_eq_false
 Bool.and_true Bool.true_and Bool.and_false Bool.false_and Bool.or_true Bool.true_or Bool.or_false Bool.false_or and_true true_and and_self not_true_eq_false not_false_eq_true beq_iff_eq bne_iff_ne ne_eq
@[go_sem] theorem MA : (!true) = false := (rfl)
@[go_sem] theorem I6 : (!false) = true := (rfl)
@[go_sem] theorem Zh (vs L : List D) (j : Nat) : X.get vs L (.v j) = vs[j]? := (rfl)
@[go_sem] theorem Zi (vs L : List D) (k : Nat) : X.get vs L (.l k) = L[k]? := (rfl)
@[go_sem] theorem Zj (vs L : List D) (d : D) : X.get vs L (.c d) = some d := (rfl)
@[go_sem] theorem Zk (vs L : List D) (n : Int) : X.get vs L (.i n) = some (I n) := (rfl)
@[go_sem] theorem Zl (vs L : List D) (x : Bool) : X.get vs L (.b x) = some (B x) := (rfl)
@[go_sem] theorem Vq (vs : List D) (x : D) : wr vs none x = vs := (rfl)
@[go_sem] theorem Vr (vs : List D) (s : Nat) (x : D) : wr vs (some s) x = vs.set s x := (rfl)
@[go_sem] theorem MB (args : List D) : mQ args [] = [] := (rfl)
@[go_sem] theorem I7 (args : List D) (s : Nat) (r : List Nat) : mQ args (s :: r) = args.getD s .und :: mQ args r := (rfl)
def Vs(H:ab)(d:D):Option (D×ab):=some (d,H)
@[go_sem] theorem Vt (H : ab) (d : D) : Vs H d = some (d, H) := (rfl)
def gJ{α:Type}(a:α)(l:Option (List α)):Option (List α):=l.map (a:: ·)
@[go_sem] theorem MC {α : Type} (a : α) (l : List α) : gJ a (some l) = some (a :: l) := (rfl)
@[go_sem] theorem MD {α : Type} (a : α) : gJ a none = none := (rfl)
@[go_sem] theorem S6 {α β : Type} (f : α → Option β) : bn f [] = some [] := (rfl)
def X5{α β:Type}(f:α→Option β)(r:List α)(y:β):Option (List β):=gJ y (bn f r)
@[go_sem] theorem I8 {α β : Type} (f : α → Option β) (r : List α) (y : β) : X5 f r y = gJ y (bn f r) := (rfl)
@[go_sem] theorem wm {α β : Type} (f : α → Option β) (x : α) (r : List α) : bn f (x :: r) = (f x).bind (X5 f r) := (rfl)
section
variable (call : aC) (get : X → Option D) (H : ab)
@[go_sem] theorem Zm (x : X) : evO call get H (.mv x) = (get x).bind (Vs H) := by simp only [evO]; cases get x <;> rfl
def S7(c a b:Option D):Option (D×ab):=c.bind fun c=>a.bind fun a=>b.bind fun b=>(Ep c a b).map fun d=>(d,H)
@[go_sem] theorem Zn (c a b : X) : evO call get H (.pk c a b) = S7 H (get c) (get a) (get b) := (rfl)
@[go_sem] theorem PG (x p q : Bool) : S7 H (some (.t (.bool x))) (some (.t (.bool p))) (some (.t (.bool q))) = some (.t (.bool (bif x then p else q)), H) := by cases x <;> rfl
@[go_sem] theorem PH (a b : D) : S7 H (some (.t (.bool true))) (some a) (some b) = some (a, H) := (rfl)
@[go_sem] theorem ME (a b : D) : S7 H (some (.t (.bool false))) (some a) (some b) = some (b, H) := (rfl)
@[go_sem] theorem S8 (x p : Bool) : (bif x then p else false) = (x && p) := by cases x <;> rfl
@[go_sem] theorem Vu (x q : Bool) : (bif x then true else q) = (x || q) := by cases x <;> rfl
def ff(f:BinOp)(x y:Option D):Option (D×ab):=x.bind fun a=>y.bind fun b=>(tE f a b).map fun d=>(d,H)
@[go_sem] theorem X6 (f : BinOp) (x y : X) : evO call get H (.bin f x y) = ff H f (get x) (get y) := (rfl)
section
variable (k j : IntKind) (a b : Int)
@[go_sem] theorem PI : ff H .add (some (.t (.int k a))) (some (.t (.int k b))) = some (.t (.int k (k.wrap (a + b))), H) := by simp [ff, tE, xf]
@[go_sem] theorem PJ : ff H .sub (some (.t (.int k a))) (some (.t (.int k b))) = some (.t (.int k (k.wrap (a - b))), H) := by simp [ff, tE, xf]
@[go_sem] theorem PL : ff H .mul (some (.t (.int k a))) (some (.t (.int k b))) = some (.t (.int k (k.wrap (a * b))), H) := by simp [ff, tE, xf]
@[go_sem] theorem PN : ff H .quo (some (.t (.int k a))) (some (.t (.int k b))) = if b = 0 then none else some (.t (.int k (k.wrap (a.tdiv b))), H) := by simp only [ff, tE, xf]; by_cases h : b = 0 <;> simp [h]
@[go_sem] theorem PO : ff H .rem (some (.t (.int k a))) (some (.t (.int k b))) = if b = 0 then none else some (.t (.int k (a.tmod b)), H) := by simp only [ff, tE, xf]; by_cases h : b = 0 <;> simp [h]
@[go_sem] theorem PQ : ff H .eql (some (.t (.int k a))) (some (.t (.int k b))) = some (.t (.bool (decide (a = b))), H) := by simp [ff, tE, xf, PE]
@[go_sem] theorem PS : ff H .neq (some (.t (.int k a))) (some (.t (.int k b))) = some (.t (.bool (decide (¬ a = b))), H) := by simp [ff, tE, xf, bne, PE]
@[go_sem] theorem PT : ff H .lss (some (.t (.int k a))) (some (.t (.int k b))) = some (.t (.bool (decide (a < b))), H) := by simp [ff, tE, xf]
@[go_sem] theorem PU : ff H .leq (some (.t (.int k a))) (some (.t (.int k b))) = some (.t (.bool (decide (a ≤ b))), H) := by simp [ff, tE, xf]
@[go_sem] theorem PV : ff H .gtr (some (.t (.int k a))) (some (.t (.int k b))) = some (.t (.bool (decide (b < a))), H) := by simp [ff, tE, xf]
@[go_sem] theorem PW : ff H .geq (some (.t (.int k a))) (some (.t (.int k b))) = some (.t (.bool (decide (b ≤ a))), H) := by simp [ff, tE, xf]
@[go_sem] theorem PX (h : 0 ≤ b) : ff H .shl (some (.t (.int k a))) (some (.t (.int j b))) = some (.t (.int k (k.wrap (a * 2 ^ min b.toNat k.bits))), H) := by simp [ff, tE, tD, Int.not_lt.2 h]
@[go_sem] theorem PY (h : 0 ≤ b) : ff H .shr (some (.t (.int k a))) (some (.t (.int j b))) = some (.t (.int k (a.fdiv (2 ^ min b.toNat k.bits))), H) := by simp [ff, tE, tD, Int.not_lt.2 h]
@[go_sem] theorem PZ : ff H .and (some (.t (.int k a))) (some (.t (.int k b))) = some (.t (.int k (k.wrap (BitVec.ofInt k.bits a &&& BitVec.ofInt k.bits b).toNat)), H) := by simp [ff, tE, xf]
@[go_sem] theorem S9 : ff H .or (some (.t (.int k a))) (some (.t (.int k b))) = some (.t (.int k (k.wrap (BitVec.ofInt k.bits a ||| BitVec.ofInt k.bits b).toNat)), H) := by simp [ff, tE, xf]
@[go_sem] theorem P0 : ff H .xor (some (.t (.int k a))) (some (.t (.int k b))) = some (.t (.int k (k.wrap (BitVec.ofInt k.bits a ^^^ BitVec.ofInt k.bits b).toNat)), H) := by simp [ff, tE, xf]
def Vv(f:UnOp)(a:D):Option (D×ab):=(unD f a).map fun d=>(d,H)
@[go_sem] theorem Zo (f : UnOp) (x : X) : evO call get H (.un f x) = (get x).bind (Vv H f) := (rfl)
@[go_sem] theorem Ta (x : Bool) : Vv H .not (.t (.bool x)) = some (.t (.bool (!x)), H) := (rfl)
@[go_sem] theorem Tb : Vv H .neg (.t (.int k a)) = some (.t (.int k (k.wrap (0 - a))), H) := (rfl)
def X7(k:IntKind)(a:D):Option (D×ab):=(H8 k a).map fun d=>(d,H)
@[go_sem] theorem Zp (x : X) : evO call get H (.cv k x) = (get x).bind (X7 H k) := (rfl)
@[go_sem] theorem Tc : X7 H k (.t (.int j a)) = some (.t (.int k (k.wrap a)), H) := (rfl)
end
def mC(q:EqK)(neg:Bool)(x y:Option D):Option (D×ab):=x.bind fun a=>y.bind fun b=>(Gw q neg a b).map fun d=>(d,H)
@[go_sem] theorem X8 (q : EqK) (neg : Bool) (x y : X) : evO call get H (.eqk q neg x y) = mC H q neg (get x) (get y) := (rfl)
@[go_sem] theorem MF (x y : Bool) : mC H .bool false (some (.t (.bool x))) (some (.t (.bool y))) = some (.t (.bool (x == y)), H) := (rfl)
@[go_sem] theorem I9 (x y : Bool) : mC H .bool true (some (.t (.bool x))) (some (.t (.bool y))) = some (.t (.bool (!(x == y))), H) := (rfl)
def GN:List T→List T→Bool
 | .int _ a::xs,.int _ b::ys=>decide (a=b)&&GN xs ys
 | _,_=>true
def zY:Nat→List T→List T→Bool
 | 0,[],[]=>true
 | n+1,.int j _::xs,.int k _::ys=>decide (j=k)&&zY n xs ys
 | _,_,_=>false
@[go_sem] theorem P1 (k j : IntKind) (a b : Int) (xs ys : List T) : GN (.int k a :: xs) (.int j b :: ys) = (decide (a = b) && GN xs ys) := (rfl)
@[go_sem] theorem Td : GN [] [] = true := (rfl)
@[go_sem] theorem Te : zY 0 [] [] = true := (rfl)
@[go_sem] theorem P2 (n : Nat) (k : IntKind) (a b : Int) (xs ys : List T) : zY (n + 1) (.int k a :: xs) (.int k b :: ys) = zY n xs ys := by simp [zY]
theorem rZ:∀ {n:Nat} {xs ys:List T},zY n xs ys=true→xs.length=n∧iq xs ys=some (GN xs ys)
 | 0,[],[],_=>⟨rfl,rfl⟩
 | 0,[],_::_,h=>by simp[zY]at h
 | 0,_::_,_,h=>by simp[zY]at h
 | n+1,[],_,h=>by simp[zY]at h
 | n+1,x::xs,[],h=>by cases x<;>simp[zY]at h
 | n+1,x::xs,y::ys,h=>by
   cases x<;>cases y<;>simp only[zY,Bool.and_eq_true,decide_eq_true_eq,Bool.false_eq_true]at h
   obtain⟨rfl,h⟩:=h
   obtain⟨h1,h2⟩:=rZ h
   exact⟨by simp[h1],by simp[iq,h2,GN,PE]⟩
@[go_sem] theorem MG (n : Nat) (xs ys : List T) (h : zY n xs ys = true) : mC H (.ints n) false (some (.t (.agg xs))) (some (.t (.agg ys))) = some (.t (.bool (GN xs ys)), H) := by
 obtain⟨h1,h2⟩:=rZ h;simp[mC,Gw,eqD,h1,h2]
@[go_sem] theorem Ja (n : Nat) (xs ys : List T) (h : zY n xs ys = true) : mC H (.ints n) true (some (.t (.agg xs))) (some (.t (.agg ys))) = some (.t (.bool (!GN xs ys)), H) := by
 obtain⟨h1,h2⟩:=rZ h;simp[mC,Gw,eqD,h1,h2]
@[go_sem] theorem P3 : mC H .sl false (some .nil) (some .nil) = some (.t (.bool true), H) := (rfl)
@[go_sem] theorem P4 : mC H .sl false (some (.t (.sl []))) (some .nil) = some (.ub, H) := (rfl)
@[go_sem] theorem MH : mC H .sl true (some (.t (.sl []))) (some .nil) = some (.ub, H) := (rfl)
@[go_sem] theorem MI : mC H .sl true (some .nil) (some .nil) = some (.t (.bool false), H) := (rfl)
theorem y4(es:List T)(h:es≠[]):mC H .sl false (some (.t (.sl es))) (some .nil)=some (.t (.bool false),H):=by cases es<;>first | exact(h rfl).elim | rfl
def Tf(a:D):Option (D×ab):=(SF a).map fun d=>(d,H)
@[go_sem] theorem Zq (x : X) : evO call get H (.nc x) = (get x).bind (Tf H) := (rfl)
@[go_sem] theorem Vw (id off : Nat) : Tf H (.bp id off) = some (.bp id off, H) := (rfl)
@[go_sem] theorem Vx (id ep n i off : Nat) : Tf H (.ap id ep n i off) = some (.ap id ep n i off, H) := (rfl)
@[go_sem] theorem Vy (cs : List T) : Tf H (.ep cs) = some (.ep cs, H) := (rfl)
def MJ(off:Nat)(a:D):Option (D×ab):=(zI a off).map fun d=>(d,H)
@[go_sem] theorem Zr (x : X) (off : Nat) : evO call get H (.fa x off) = (get x).bind (MJ H off) := (rfl)
@[go_sem] theorem Vz (id o off : Nat) : MJ H off (.bp id o) = some (.bp id (o + off), H) := (rfl)
@[go_sem] theorem VA (id ep n i o off : Nat) : MJ H off (.ap id ep n i o) = some (.ap id ep n i (o + off), H) := (rfl)
@[go_sem] theorem VB (cs : List T) (off : Nat) : MJ H off (.ep cs) = some (.ep (cs.drop off), H) := (rfl)
@[go_sem] theorem Zs (cs : List D) : cut cs 0 0 = some [] := by simp [cut]
@[go_sem] theorem Zt (c : D) (cs : List D) : cut (c :: cs) 0 1 = some [c] := by simp [cut]
@[go_sem] theorem Zu (c : D) (cs : List D) (n : Nat) : cut (c :: cs) 0 (n + 1) = gJ c (cut cs 0 n) := by
 simp only[cut,gJ];by_cases h:n≤cs.length<;>simp[h]
@[go_sem] theorem Zv (c : D) (cs : List D) (off n : Nat) : cut (c :: cs) (off + 1) n = cut cs off n := by
 simp only[cut,List.length_cons,List.drop_succ_cons]
 by_cases h:off+n≤cs.length
 · rw[if_pos h,if_pos (by omega)]
 · rw[if_neg h,if_neg (by omega)]
@[go_sem] theorem P5 (c : D) : cO false [c] = some c := (rfl)
@[go_sem] theorem P6 (cs : List D) : cO true cs = some (mz cs) := (rfl)
def mkA(cs:List D):Option (List T)→D
 | some ts=> .t (.agg ts)
 | none=> .agg cs
@[go_sem] theorem Tg (cs : List D) (ts : List T) : mkA cs (some ts) = .t (.agg ts) := (rfl)
@[go_sem] theorem Th (cs : List D) : mkA cs none = .agg cs := (rfl)
@[go_sem] theorem Ti (cs : List D) : mz cs = mkA cs (kd cs) := by unfold mz; cases kd cs <;> rfl
@[go_sem] theorem Tj : kd [] = some [] := (rfl)
@[go_sem] theorem X9 (x : T) (r : List D) : kd (.t x :: r) = gJ x (kd r) := (rfl)
@[go_sem] theorem Ya (r : List D) : kd (.nil :: r) = none := (rfl)
@[go_sem] theorem Tk (a b c : Nat) (r : List D) : kd (.ref a b c :: r) = none := (rfl)
@[go_sem] theorem Tm (a b c d e : Nat) (r : List D) : kd (.sub a b c d e :: r) = none := (rfl)
@[go_sem] theorem ER (l : List T) : kd (l.map .t) = some l := by induction l with | nil => rfl | cons a l ih => simp [kd, ih]
def P7(off n:Nat)(agg:Bool)(a:D):Option (D×ab):=(n9 a off n agg).map fun d=>(d,H)
@[go_sem] theorem Zw (x : X) (off n : Nat) (agg : Bool) : evO call get H (.fl x off n agg) = (get x).bind (P7 H off n agg) := (rfl)
def ofC(agg:Bool)(cs:Option (List D)):Option (D×ab):=(cs.bind (cO agg)).bind (Vs H)
@[go_sem] theorem Zx (c : D) : ofC H false (some [c]) = some (c, H) := (rfl)
@[go_sem] theorem Zy (cs : List D) : ofC H true (some cs) = some (mz cs, H) := (rfl)
@[go_sem] theorem Yb (cs : List T) (off n : Nat) (agg : Bool) : P7 H off n agg (.t (.agg cs)) = ofC H agg (cut (cs.map .t) off n) := by
 simp only[P7,n9,D.isAgg,if_true,D.cells,T.cells,ofC];cases (cut (cs.map .t) off n).bind (cO agg)<;>rfl
@[go_sem] theorem Tn (cs : List D) (off n : Nat) (agg : Bool) : P7 H off n agg (.agg cs) = ofC H agg (cut cs off n) := by
 simp only[P7,n9,D.isAgg,if_true,D.cells,ofC];cases (cut cs off n).bind (cO agg)<;>rfl
@[go_sem] theorem VC (n : Nat) : idx (n : Int) = some n := by simp [idx]
@[go_sem] theorem Zz : idx 0 = some 0 := (rfl)
theorem Jb{i:Int}(h:0≤i):idx i=some i.toNat:=by simp[idx,h]
def Jc(sz:Nat)(x i:Option D):Option (D×ab):=x.bind fun a=>(i.bind intOf).bind fun n=>(uo H a n sz).map fun d=>(d,H)
@[go_sem] theorem ZA (x i : X) (sz : Nat) : evO call get H (.ia x i sz) = Jc H sz (get x) (get i) := (rfl)
def ES(sz:Nat)(e:T):Option (D×ab):=if e.cells.length=sz then some (.ep e.cells,H)else none
def VD(sz:Nat)(es:List T)(j:Nat):Option (D×ab):=es[j]?.bind (ES H sz)
@[go_sem] theorem VE (sz : Nat) (es : List T) (j : Nat) : VD H sz es j = es[j]?.bind (ES H sz) := (rfl)
@[go_sem] theorem VF (k : IntKind) (es : List T) (n : Int) (sz : Nat) : Jc H sz (some (.t (.sl es))) (some (.t (.int k n))) = (idx n).bind (VD H sz es) := by
 simp only[Jc,Option.bind_some,intOf,uo]
 cases idx n with
 | none=>rfl
 | some j=>
   simp only[Option.bind_some,VD]
   cases es[j]? with
   | none=>rfl
   | some e=>simp only[Option.bind_some,ES];split<;>rfl
@[go_sem] theorem To (k : IntKind) (n : Int) : ES H 1 (.int k n) = some (.ep [.int k n], H) := (rfl)
@[go_sem] theorem P8 (b : Bool) : ES H 1 (.bool b) = some (.ep [.bool b], H) := (rfl)
@[go_sem] theorem VG (es : List T) : ES H 1 (.sl es) = some (.ep [.sl es], H) := (rfl)
def jv{α:Type}:Nat→List α→Bool
 | 0,[]=>true
 | n+1,_::r=>jv n r
 | _,_=>false
@[go_sem] theorem VH {α : Type} : jv 0 ([] : List α) = true := (rfl)
@[go_sem] theorem VI {α : Type} (n : Nat) (a : α) (l : List α) : jv (n + 1) (a :: l) = jv n l := (rfl)
theorem dy{α:Type}:∀ {n:Nat} {l:List α},jv n l=true↔l.length=n
 | 0,[]=>by simp[jv]
 | 0,_::_=>by simp[jv]
 | n+1,[]=>by simp[jv]
 | n+1,_::r=>by simp only[jv,List.length_cons,Nat.add_right_cancel_iff];exact dy
@[go_sem] theorem Tp (cs : List T) (sz : Nat) : ES H sz (.agg cs) = if jv sz cs = true then some (.ep cs, H) else none := by
 by_cases h:cs.length=sz
 · rw[ES,if_pos (show(T.agg cs).cells.length=sz from h),if_pos (dy.2 h)];rfl
 · rw[ES,if_neg (show ¬(T.agg cs).cells.length=sz from h),if_neg fun e=>h (dy.1 e)]
def Jd(sz id ep n j:Nat):Option Obj→Option (D×ab)
 | some (.arr sz' _ ep' es)=>if ep=ep'∧n=es.length then(if j<n∧sz'=sz then some (.ap id ep n j 0,H)else none)else none
 | _=>none
@[go_sem] theorem Tq (k : IntKind) (id ep n : Nat) (i : Int) (sz : Nat) : Jc H sz (some (.ref id ep n)) (some (.t (.int k i))) = (idx i).bind fun j => Jd H sz id ep n j H[id]? := by
 simp only[Jc,Option.bind_some,intOf,uo]
 cases idx i with
 | none=>rfl
 | some j=>
   simp only[Option.bind_some,dv]
   generalize H[id]?=o
   rcases o with _ | (_ | ⟨sz',pin,ep',es⟩)
   · rfl
   · rfl
   · simp only[Jd]
     by_cases h:ep=ep'∧n=es.length
     · rw[if_pos h,if_pos h,Option.bind_some];split<;>rfl
     · rw[if_neg h,if_neg h];rfl
@[go_sem] theorem P9 (sz id ep n j sz' : Nat) (pin : Bool) (ep' : Nat) (es : List D) : Jd H sz id ep n j (some (.arr sz' pin ep' es)) =
 if ep=ep'∧n=es.length then(if j<n∧sz'=sz then some (.ap id ep n j 0,H)else none)else none:=(rfl)
def Je(sz id ep n lo hi j:Nat):Option Obj→Option (D×ab)
 | some (.arr sz' _ ep' es)=>if ep=ep'∧n=es.length then(if lo+j<hi∧hi≤n∧sz'=sz then some (.ap id ep n (lo+j) 0,H)else none)else none
 | _=>none
@[go_sem] theorem Ts (k : IntKind) (id ep n lo hi : Nat) (i : Int) (sz : Nat) : Jc H sz (some (.sub id ep n lo hi)) (some (.t (.int k i))) = (idx i).bind fun j => Je H sz id ep n lo hi j H[id]? := by
 simp only[Jc,Option.bind_some,intOf,uo]
 cases idx i with
 | none=>rfl
 | some j=>
   simp only[Option.bind_some,dv]
   generalize H[id]?=o
   rcases o with _ | (_ | ⟨sz',pin,ep',es⟩)
   · rfl
   · rfl
   · simp only[Je]
     by_cases h:ep=ep'∧n=es.length
     · rw[if_pos h,if_pos h,Option.bind_some];split<;>rfl
     · rw[if_neg h,if_neg h];rfl
@[go_sem] theorem Qa (sz id ep n lo hi j sz' : Nat) (pin : Bool) (ep' : Nat) (es : List D) : Je H sz id ep n lo hi j (some (.arr sz' pin ep' es)) =
 if ep=ep'∧n=es.length then(if lo+j<hi∧hi≤n∧sz'=sz then some (.ap id ep n (lo+j) 0,H)else none)else none:=(rfl)
def VJ(len sz:Nat)(agg:Bool)(x i:Option D):Option (D×ab):=x.bind fun a=>(i.bind intOf).bind fun n=>(idx n).bind fun j=>(tF a j len sz agg).map fun d=>(d,H)
def Qb(len sz:Nat)(agg:Bool)(a:D)(j:Nat):Option (D×ab):=(tF a j len sz agg).map fun d=>(d,H)
@[go_sem] theorem ZB (x i : X) (len sz : Nat) (agg : Bool) : evO call get H (.ix x i len sz agg) = VJ H len sz agg (get x) (get i) := (rfl)
@[go_sem] theorem VK (len sz : Nat) (agg : Bool) (a : D) (k : IntKind) (n : Int) : VJ H len sz agg (some a) (some (.t (.int k n))) = (idx n).bind (Qb H len sz agg a) := by
 simp only[VJ,Option.bind_some,intOf];cases idx n<;>rfl
@[go_sem] theorem Tt (len j : Nat) (ts : List T) (h : j < len) (hs : (ts.all fun t => t.scalar) = true) : Qb H len 1 false (.t (.agg ts)) j = (ts[j]?).map fun t => (.t t, H) := by
 have h0:len≠0:=by omega
 unfold Qb tF
 rw[if_neg h0,if_pos h]
 unfold n9 cut
 simp only[D.isAgg,D.cells,T.cells,if_true,Nat.mul_one,List.length_map]
 by_cases hj:j<ts.length
 · rw[if_pos (by omega),List.getElem?_eq_getElem hj]
   have e:((ts.map D.t).drop j).take 1=[D.t ts[j]]:=by
    rw[List.drop_eq_getElem_cons (by simpa using hj)];simp
   rw[e];rfl
 · rw[if_neg (by omega),List.getElem?_eq_none (by omega)];rfl
def Jf(len sz:Nat)(x i:Option D):Option (D×ab):=x.bind fun a=>(i.bind intOf).bind fun n=>(idx n).bind fun j=>if j<len then(zI a (j*sz)).map fun d=>(d,H)else none
@[go_sem] theorem Yc (x i : X) (len sz : Nat) : evO call get H (.iaa x i len sz) = Jf H len sz (get x) (get i) := (rfl)
def Yd(len sz:Nat)(a:D)(j:Nat):Option (D×ab):=if j<len then MJ H (j*sz) a else none
@[go_sem] theorem VL (len sz : Nat) (a : D) (j : Nat) : Yd H len sz a j = if j < len then MJ H (j * sz) a else none := (rfl)
@[go_sem] theorem Tu (len sz : Nat) (a : D) (k : IntKind) (n : Int) : Jf H len sz (some a) (some (.t (.int k n))) = (idx n).bind (Yd H len sz a) := by
 simp only[Jf,Option.bind_some,intOf];cases idx n<;>rfl
def DP(n:Nat)(agg:Bool)(a:D):Option (D×ab):=(pB H a n agg).map fun d=>(d,H)
@[go_sem] theorem ZC (x : X) (n : Nat) (agg : Bool) : evO call get H (.ld x n agg) = (get x).bind (DP H n agg) := (rfl)
def ET(off n:Nat)(agg:Bool):Option Obj→Option (D×ab)
 | some (.box cs)=>ofC H agg (cut cs off n)
 | _=>none
@[go_sem] theorem Tv (off n : Nat) (agg : Bool) (cs : List D) : ET H off n agg (some (.box cs)) = ofC H agg (cut cs off n) := (rfl)
@[go_sem] theorem VM (id off n : Nat) (agg : Bool) : DP H n agg (.bp id off) = ET H off n agg H[id]? := by
 simp only[DP,pB]
 generalize H[id]?=o
 rcases o with _ | (cs | _)
 · rfl
 · simp only[ET,ofC];cases (cut cs off n).bind (cO agg)<;>rfl
 · rfl
@[go_sem] theorem VN (cs : List T) (n : Nat) (agg : Bool) : DP H n agg (.ep cs) = ofC H agg (cut (cs.map .t) 0 n) := by
 simp only[DP,pB,ofC];cases (cut _ 0 n).bind (cO agg)<;>rfl
def Tw(off n:Nat)(agg:Bool)(e:D):Option (D×ab):=ofC H agg (cut e.cells off n)
@[go_sem] theorem VO (off n : Nat) (agg : Bool) (e : D) : Tw H off n agg e = ofC H agg (cut e.cells off n) := (rfl)
def Jg(ep m i off n:Nat)(agg:Bool):Option Obj→Option (D×ab)
 | some (.arr _ _ ep' es)=>if ep=ep'∧m=es.length then es[i]?.bind (Tw H off n agg)else none
 | _=>none
@[go_sem] theorem Tx (ep m i off n : Nat) (agg : Bool) (sz : Nat) (pin : Bool) (ep' : Nat) (es : List D) :
 Jg H ep m i off n agg (some (.arr sz pin ep' es))=if ep=ep'∧m=es.length then es[i]?.bind (Tw H off n agg)else none:=(rfl)
@[go_sem] theorem VP (id ep m i off n : Nat) (agg : Bool) : DP H n agg (.ap id ep m i off) = Jg H ep m i off n agg H[id]? := by
 simp only[DP,pB,dv]
 generalize H[id]?=o
 rcases o with _ | (_ | ⟨sz',pin,ep',es⟩)
 · rfl
 · rfl
 · simp only[Jg]
   by_cases h:ep=ep'∧m=es.length
   · rw[if_pos h,if_pos h,Option.bind_some]
     cases es[i]? with
     | none=>rfl
     | some e=>simp only[Option.bind_some,Tw,ofC];cases (cut e.cells off n).bind (cO agg)<;>rfl
   · rw[if_neg h,if_neg h];rfl
@[go_sem] theorem MK (cs : List D) : (D.agg cs).cells = cs := (rfl)
@[go_sem] theorem Ty (x : T) : (D.t x).cells = x.cells.map .t := (rfl)
@[go_sem] theorem ML : D.nil.cells = [.nil] := (rfl)
@[go_sem] theorem Qc (a b : Nat) : (D.bp a b).cells = [.bp a b] := (rfl)
@[go_sem] theorem MM (a b c : Nat) : (D.ref a b c).cells = [.ref a b c] := (rfl)
@[go_sem] theorem MN (a b c d e : Nat) : (D.sub a b c d e).cells = [.sub a b c d e] := (rfl)
@[go_sem] theorem Qd (f : Nat) (cs : List D) : (D.fn f cs).cells = [.fn f cs] := (rfl)
@[go_sem] theorem Jh : D.nilp.cells = [.nilp] := (rfl)
@[go_sem] theorem MO (cs : List T) : (T.agg cs).cells = cs := (rfl)
@[go_sem] theorem MP (k : IntKind) (n : Int) : (T.int k n).cells = [.int k n] := (rfl)
@[go_sem] theorem Ji (b : Bool) : (T.bool b).cells = [.bool b] := (rfl)
@[go_sem] theorem MQ (b : ByteArray) : (T.str b).cells = [.str b] := (rfl)
@[go_sem] theorem Qe (es : List T) : (T.sl es).cells = [.sl es] := (rfl)
def fits(n:Nat)(v:D):Bool:=decide (v.cells.length=n)&&v.eF
section
variable (n : Nat)
@[go_sem] theorem fits_int (k : IntKind) (a : Int) : fits 1 (.t (.int k a)) = true := (rfl)
@[go_sem] theorem fits_bool (b : Bool) : fits 1 (.t (.bool b)) = true := (rfl)
@[go_sem] theorem VQ (es : List T) : fits 1 (.t (.sl es)) = true := (rfl)
@[go_sem] theorem Tz : fits 1 .nil = true := (rfl)
@[go_sem] theorem TA (a b c : Nat) : fits 1 (.ref a b c) = true := (rfl)
@[go_sem] theorem TC (a b c d e : Nat) : fits 1 (.sub a b c d e) = true := (rfl)
@[go_sem] theorem VR (a b : Nat) : fits 1 (.bp a b) = true := (rfl)
@[go_sem] theorem VS (f : Nat) (cs : List D) : fits 1 (.fn f cs) = true := (rfl)
@[go_sem] theorem TD (cs : List D) : fits n (.agg cs) = jv n cs := by rw [Bool.eq_iff_iff, dy]; show (decide (cs.length = n) && true) = true ↔ _; simp
@[go_sem] theorem Qf (cs : List T) : fits n (.t (.agg cs)) = jv n cs := by rw [Bool.eq_iff_iff, dy]; simp [fits, D.cells, T.cells, D.eF]
end
@[go_sem] theorem Jj {α : Type} (cs : List α) : aJ cs 0 [] = some cs := by simp [aJ]
@[go_sem] theorem Jk {α : Type} (c x : α) (cs xs : List α) : aJ (c :: cs) 0 (x :: xs) = gJ x (aJ cs 0 xs) := by
 simp only[aJ,gJ];by_cases h:xs.length≤cs.length<;>simp[h]
@[go_sem] theorem Jl {α : Type} (c : α) (cs : List α) (off : Nat) (xs : List α) : aJ (c :: cs) (off + 1) xs = gJ c (aJ cs off xs) := by
 simp only[aJ,gJ,List.length_cons]
 by_cases h:off+xs.length≤cs.length
 · rw[if_pos h,if_pos (by omega)];simp[show off+1+xs.length=(off+xs.length)+1 by omega]
 · rw[if_neg h,if_neg (by omega)];rfl
def Jm(n:Nat)(live:List (Nat×Nat))(a x:Option D):Option (D×ab):=a.bind fun p=>x.bind fun d=>(qc H p d n).bind fun H'=>(kf H' p live).map fun H''=>(.tup [],H'')
@[go_sem] theorem ZD (a x : X) (n : Nat) (live : List (Nat × Nat)) : evO call get H (.st a x n live) = Jm H n live (get a) (get x) := (rfl)
def tW(H:ab)(id:Nat)(live:List (Nat×Nat)):Option (D×ab):=(kf H (.bp id 0) live).map fun H'=>(.tup [],H')
def y5(id:Nat)(live:List (Nat×Nat))(cs:List D):Option (D×ab):=tW (H.set id (.box cs)) id live
@[go_sem] theorem Qg (id : Nat) (live : List (Nat × Nat)) (cs : List D) : y5 H id live cs = tW (H.set id (.box cs)) id live := (rfl)
@[go_sem] theorem MR (H : ab) (id : Nat) : tW H id [] = some (.tup [], H) := (rfl)
def Jn(id off:Nat)(live:List (Nat×Nat))(xs:List D):Option Obj→Option (D×ab)
 | some (.box cs)=>(aJ cs off xs).bind (y5 H id live)
 | _=>none
@[go_sem] theorem TE (id off : Nat) (live : List (Nat × Nat)) (xs cs : List D) : Jn H id off live xs (some (.box cs)) = (aJ cs off xs).bind (y5 H id live) := (rfl)
@[go_sem] theorem VT (n id off : Nat) (live : List (Nat × Nat)) (v : D) : Jm H n live (some (.bp id off)) (some v) = if fits n v = true then Jn H id off live v.cells H[id]? else none := by
 by_cases h:fits n v=true
 case neg=>
  rw[if_neg h]
  simp only[fits,Bool.and_eq_true,decide_eq_true_eq]at h
  simp only[Jm,Option.bind_some,qc,if_neg h];rfl
 rw[if_pos h]
 simp only[fits,Bool.and_eq_true,decide_eq_true_eq]at h
 simp only[Jm,Option.bind_some,qc,h.1,h.2,and_self,if_true]
 generalize H[id]?=o
 rcases o with _ | (cs | _)
 · rfl
 · simp only[Jn]
   cases aJ cs off v.cells with
   | none=>rfl
   | some cs'=>simp only[Option.map_some,Option.bind_some,y5,tW,kf]
 · rfl
def wq(id sz ep i:Nat)(es:List D)(agg:Bool)(cs:List D):Option (D×ab):=(cO agg cs).bind fun e=>if e.eF then some (.tup [],H.set id (.arr sz false ep (es.set i e)))else none
def TF(id sz ep i off:Nat)(es xs:List D)(e:D):Option (D×ab):=(aJ e.cells off xs).bind (wq H id sz ep i es e.isAgg)
@[go_sem] theorem VU (id sz ep i off : Nat) (es xs : List D) (e : D) : TF H id sz ep i off es xs e = (aJ e.cells off xs).bind (wq H id sz ep i es e.isAgg) := (rfl)
@[go_sem] theorem Qh (cs : List D) : (D.agg cs).isAgg = true := (rfl)
@[go_sem] theorem MS (cs : List T) : (D.t (.agg cs)).isAgg = true := (rfl)
@[go_sem] theorem Qi (k : IntKind) (n : Int) : (D.t (.int k n)).isAgg = false := (rfl)
@[go_sem] theorem MT (b : Bool) : (D.t (.bool b)).isAgg = false := (rfl)
@[go_sem] theorem Qj (b : ByteArray) : (D.t (.str b)).isAgg = false := (rfl)
@[go_sem] theorem TG (es : List T) : (D.t (.sl es)).isAgg = false := (rfl)
@[go_sem] theorem Qk : D.nil.isAgg = false := (rfl)
@[go_sem] theorem Ql (a b c : Nat) : (D.ref a b c).isAgg = false := (rfl)
@[go_sem] theorem Qm (a b c d e : Nat) : (D.sub a b c d e).isAgg = false := (rfl)
@[go_sem] theorem VV (id sz ep i : Nat) (es : List D) (x : T) : wq H id sz ep i es false [.t x] = some (.tup [], H.set id (.arr sz false ep (es.set i (.t x)))) := (rfl)
@[go_sem] theorem Qn (id sz ep i : Nat) (es : List D) : wq H id sz ep i es false [.nil] = some (.tup [], H.set id (.arr sz false ep (es.set i .nil))) := (rfl)
@[go_sem] theorem Qo (id sz ep i a b c : Nat) (es : List D) : wq H id sz ep i es false [.ref a b c] = some (.tup [], H.set id (.arr sz false ep (es.set i (.ref a b c)))) := (rfl)
theorem xT(cs:List D):(mz cs).eF=true:=by unfold mz;cases kd cs<;>rfl
@[go_sem] theorem VW (id sz ep i : Nat) (es cs : List D) : wq H id sz ep i es true cs = some (.tup [], H.set id (.arr sz false ep (es.set i (mz cs)))) := by
 simp[wq,cO,xT]
def Jo(id ep m i off:Nat)(xs:List D):Option Obj→Option (D×ab)
 | some (.arr sz pin ep' es)=>if ep=ep'∧m=es.length then(if pin then none else es[i]?.bind (TF H id sz ep i off es xs))else none
 | _=>none
@[go_sem] theorem TH (id ep m i off : Nat) (xs : List D) (sz : Nat) (pin : Bool) (ep' : Nat) (es : List D) :
 Jo H id ep m i off xs (some (.arr sz pin ep' es))=if ep=ep'∧m=es.length then(if pin=true then none else es[i]?.bind (TF H id sz ep i off es xs))else none:=(rfl)
@[go_sem] theorem VX (n id ep m i off : Nat) (v : D) : Jm H n [] (some (.ap id ep m i off)) (some v) = if fits n v = true then Jo H id ep m i off v.cells H[id]? else none := by
 by_cases h:fits n v=true
 case neg=>
  rw[if_neg h]
  simp only[fits,Bool.and_eq_true,decide_eq_true_eq]at h
  simp only[Jm,Option.bind_some,qc,if_neg h];rfl
 rw[if_pos h]
 simp only[fits,Bool.and_eq_true,decide_eq_true_eq]at h
 simp only[Jm,Option.bind_some,qc,h.1,h.2,and_self,if_true,dv]
 generalize H[id]?=o
 rcases o with _ | (_ | ⟨sz',pin,ep',es⟩)
 · rfl
 · rfl
 · simp only[Jo]
   by_cases h:ep=ep'∧m=es.length
   · rw[if_pos h,if_pos h,Option.bind_some]
     cases pin with
     | true=>rfl
     | false=>
       simp only[Bool.false_eq_true,if_false]
       cases es[i]? with
       | none=>rfl
       | some e=>
         simp only[Option.bind_some,TF]
         cases aJ e.cells off v.cells with
         | none=>rfl
         | some cs'=>
           simp only[Option.bind_some,wq]
           cases cO e.isAgg cs' with
           | none=>rfl
           | some e'=>
             simp only[Option.bind_some]
             by_cases h3:e'.eF=true
             · rw[if_pos h3,if_pos h3,h.1];rfl
             · rw[if_neg h3,if_neg h3];rfl
   · rw[if_neg h,if_neg h];rfl
def Jp(zero:List D)(ps:List (Nat×Nat×D)):Option (D×ab):=(nZ zero ps).map fun cs=>(mz cs,H)
@[go_sem] theorem ZE (zero : List D) (parts : List (Nat × Nat × X)) : evO call get H (.bd zero parts) = (iA get parts).bind (Jp H zero) := (rfl)
@[go_sem] theorem GO : iA get [] = some [] := (rfl)
def Qp(off n:Nat)(r:List (Nat×Nat×X))(d:D):Option (List (Nat×Nat×D)):=gJ (off,n,d) (iA get r)
@[go_sem] theorem TI (off n : Nat) (r : List (Nat × Nat × X)) (d : D) : Qp get off n r d = gJ (off, n, d) (iA get r) := (rfl)
@[go_sem] theorem EU (off n : Nat) (x : X) (r : List (Nat × Nat × X)) : iA get ((off, n, x) :: r) = (get x).bind (Qp get off n r) := (rfl)
@[go_sem] theorem TJ (zero : List D) : Jp H zero [] = some (mz zero, H) := (rfl)
def bdC(r:List (Nat×Nat×D))(z:List D):Option (D×ab):=Jp H z r
@[go_sem] theorem Ye (r : List (Nat × Nat × D)) (z : List D) : bdC H r z = Jp H z r := (rfl)
@[go_sem] theorem Qq (zero : List D) (off n : Nat) (x : D) (r : List (Nat × Nat × D)) : Jp H zero ((off, n, x) :: r) = if fits n x = true then (aJ zero off x.cells).bind (bdC H r) else none := by
 by_cases h:fits n x=true
 case neg=>
  rw[if_neg h]
  have h2:(x.eF&&x.cells.length==n)=false:=by rw[← Bool.not_eq_true,Bool.and_comm];simpa [fits]using h
  simp only[Jp,nZ,h2];rfl
 rw[if_pos h]
 simp only[fits,Bool.and_eq_true,decide_eq_true_eq]at h
 simp only[Jp,nZ,h.1,h.2,beq_self_eq_true,Bool.and_self,if_true]
 cases aJ zero off x.cells<;>rfl
def bz(n:Nat):List T→Bool
 | []=>true
 | x::r=>jv n x.cells&&bz n r
@[go_sem] theorem GP (n : Nat) : bz n [] = true := (rfl)
@[go_sem] theorem oG (n : Nat) (x : T) (r : List T) : bz n (x :: r) = (jv n x.cells && bz n r) := (rfl)
def tX(sz:Nat)(ds:List D):Option (D×ab):=if ds.all (fun d=>d.cells.length==sz)then(bn (frz H depth) ds).map fun ts=>(.t (.sl ts),pins H (ds.flatMap (cY H depth)))else none
@[go_sem] theorem ZF (xs : List X) (sz : Nat) : evO call get H (.bs xs sz) = (bn get xs).bind (tX H sz) := (rfl)
theorem Qr(sz:Nat)(ds:List D)(ts:List T)(h:kd ds=some ts)(hc:bz sz ts=true):tX H sz ds=some (.t (.sl ts),H):=by
 have key:∀(ds:List D) (ts:List T),kd ds=some ts→bz sz ts=true→ds.all (fun d=>d.cells.length==sz)=true∧bn (frz H depth) ds=some ts∧ds.flatMap (cY H depth)=[]:=by
  intro ds
  induction ds with
  | nil=>intro ts h hc;simp[kd]at h;subst h;simp[bn]
  | cons d ds ih=>
    intro ts h hc
    cases d with
    | t x=>
      simp only[kd,Option.map_eq_some_iff]at h
      obtain⟨r,hr,rfl⟩:=h
      simp only[bz,Bool.and_eq_true,dy]at hc
      obtain⟨h1,h2,h3⟩:=ih r hr hc.2
      refine⟨by rw[List.all_cons,h1,Bool.and_true];simp[D.cells,hc.1],by simp[bn,frz,h2],by rw[List.flatMap_cons,h3];simp[cY]⟩
    | _=>simp[kd]at h
 obtain⟨h1,h2,h3⟩:=key ds ts h hc
 simp[tX,h1,h2,h3,pins]
theorem ly(sz:Nat)(ts:List T):tX H sz (ts.map D.t)=if bz sz ts=true then some (.t (.sl ts),H)else none:=by
 by_cases h:bz sz ts=true
 · rw[if_pos h];exact Qr H sz _ ts (ER ts) h
 · rw[if_neg h]
   have:(ts.map D.t).all (fun d=>d.cells.length==sz)=false:=by
    rw[← Bool.not_eq_true];intro ha;apply h
    clear h
    induction ts with
    | nil=>rfl
    | cons a r ih=>
      simp only[List.map_cons,List.all_cons,Bool.and_eq_true,beq_iff_eq]at ha
      simp only[bz,Bool.and_eq_true,dy]
      exact⟨by simpa [D.cells]using ha.1,ih ha.2⟩
   simp only[tX,this];rfl
@[go_sem] theorem Yf (sz : Nat) : tX H sz [] = some (.t (.sl []), H) := (rfl)
@[go_sem] theorem Yg (sz : Nat) (a : T) : tX H sz [.t a] = if bz sz [a] = true then some (.t (.sl [a]), H) else none := ly H sz [a]
@[go_sem] theorem Yh (sz : Nat) (a b : T) : tX H sz [.t a, .t b] = if bz sz [a, b] = true then some (.t (.sl [a, b]), H) else none := ly H sz [a, b]
@[go_sem] theorem Yi (sz : Nat) (a b c : T) : tX H sz [.t a, .t b, .t c] = if bz sz [a, b, c] = true then some (.t (.sl [a, b, c]), H) else none := ly H sz [a, b, c]
@[go_sem] theorem Yj (sz : Nat) (a b c d : T) : tX H sz [.t a, .t b, .t c, .t d] = if bz sz [a, b, c, d] = true then some (.t (.sl [a, b, c, d]), H) else none := ly H sz [a, b, c, d]
@[go_sem] theorem Yk (sz : Nat) (a b c d e : T) : tX H sz [.t a, .t b, .t c, .t d, .t e] = if bz sz [a, b, c, d, e] = true then some (.t (.sl [a, b, c, d, e]), H) else none := ly H sz [a, b, c, d, e]
def Qs(a:D):Option (D×ab):=(SE a).map fun(n:Nat)=>(D.t (.int .i64 (n:Int)),H)
@[go_sem] theorem ZG (x : X) : evO call get H (.ln x) = (get x).bind (Qs H) := (rfl)
@[go_sem] theorem VY (es : List T) : Qs H (.t (.sl es)) = some (I es.length, H) := (rfl)
@[go_sem] theorem TK : Qs H .nil = some (I 0, H) := (rfl)
@[go_sem] theorem TL (id ep n : Nat) : Qs H (.ref id ep n) = some (I n, H) := (rfl)
@[go_sem] theorem TM (id ep n lo hi : Nat) : Qs H (.sub id ep n lo hi) = some (I ((hi - lo : Nat) : Int), H) := (rfl)
def Qt(ds:List D):Option (D×ab):=(OY ds).map fun d=>(d,H)
def Qu(ds:List D):Option (D×ab):=(OZ ds).map fun d=>(d,H)
@[go_sem] theorem ZH (xs : List X) : evO call get H (.mn xs) = (bn get xs).bind (Qt H) := (rfl)
@[go_sem] theorem ZI (xs : List X) : evO call get H (.mx xs) = (bn get xs).bind (Qu H) := (rfl)
@[go_sem] theorem Yl (k : IntKind) (a b : Int) : Qt H [.t (.int k a), .t (.int k b)] = some (.t (.int k (min a b)), H) := by
 simp only[Qt,OY,sU,if_true,Option.map_some];congr 4;omega
@[go_sem] theorem Ym (k : IntKind) (a b : Int) : Qu H [.t (.int k a), .t (.int k b)] = some (.t (.int k (max a b)), H) := by
 simp only[Qu,OZ,sU,if_true,Option.map_some];congr 4;omega
@[go_sem] theorem Yn (k : IntKind) (a b c : Int) : Qt H [.t (.int k a), .t (.int k b), .t (.int k c)] = some (.t (.int k (min (min a b) c)), H) := by
 simp only[Qt,OY,sU,if_true,Option.map_some];congr 4;omega
@[go_sem] theorem Yo (k : IntKind) (a b c : Int) : Qu H [.t (.int k a), .t (.int k b), .t (.int k c)] = some (.t (.int k (max (max a b) c)), H) := by
 simp only[Qu,OZ,sU,if_true,Option.map_some];congr 4;omega
def wt(sz:Nat)(x:Option D)(lo hi:Option (Option Int)):Option (D×ab):=x.bind fun a=>lo.bind fun l=>hi.bind fun h=>(jg H a l h sz).map fun d=>(d,H)
@[go_sem] theorem ZJ (x : X) (lo hi : Option X) (sz : Nat) : evO call get H (.sc x lo hi sz) = wt H sz (get x) (zJ get lo) (zJ get hi) := (rfl)
def Qv:D→Option (Option Int)
 | .t (.int _ n)=>some (some n)
 | _=>none
@[go_sem] theorem TN (k : IntKind) (n : Int) : Qv (.t (.int k n)) = some (some n) := (rfl)
@[go_sem] theorem Qw : zJ get none = some none := (rfl)
@[go_sem] theorem Qx (x : X) : zJ get (some x) = (get x).bind Qv := by
 simp only[zJ];cases get x with
 | none=>rfl
 | some d=>cases d with
   | t y=>cases y<;>rfl
   | _=>rfl
def VZ(i:Nat)(a:D):Option (D×ab):=(O0 i a).map fun d=>(d,H)
@[go_sem] theorem ZK (x : X) (i : Nat) : evO call get H (.ex x i) = (get x).bind (VZ H i) := (rfl)
def exO:Option D→Option (D×ab)
 | some d=>some (d,H)
 | none=>none
@[go_sem] theorem TO (d : D) : exO H (some d) = some (d, H) := (rfl)
@[go_sem] theorem TP (i : Nat) (ds : List D) : VZ H i (.tup ds) = exO H ds[i]? := by simp only [VZ, O0, exO]; cases ds[i]? <;> rfl
def V0(f:Nat)(ds:List D):Option (D×ab):=some (.fn f ds,H)
@[go_sem] theorem V1 (f : Nat) (ds : List D) : V0 H f ds = some (.fn f ds, H) := (rfl)
@[go_sem] theorem ZL (f : Nat) (caps : List X) : evO call get H (.mf f caps) = (bn get caps).bind (V0 H f) := by simp only [evO, V0]; cases bn get caps <;> rfl
@[go_sem] theorem ZM (sz : Nat) : evO call get H (.nw sz) = some (.ref H.length 0 0, H ++ [.arr sz false 0 []]) := (rfl)
def alP(p:List D×ab):Option (D×ab):=some (.bp H.length 0,H++ .box p.1::p.2)
@[go_sem] theorem Yp (cs : List D) (os : ab) : alP H (cs, os) = some (.bp H.length 0, H ++ .box cs :: os) := (rfl)
@[go_sem] theorem ZN (zero : List D) (live : List (Nat × Nat)) : evO call get H (.al zero live) = alP H (bg (H.length + 1) zero live) := (rfl)
@[go_sem] theorem Jq (base : Nat) (cs : List D) : bg base cs [] = (cs, []) := (rfl)
def V2(n:Nat)(a:D):Option (D×ab):=if a.cells.length=n∧a.eF then some (.bp H.length 0,H++[.box a.cells])else none
@[go_sem] theorem ZO (x : X) (n : Nat) : evO call get H (.bx x n) = (get x).bind (V2 H n) := (rfl)
@[go_sem] theorem V3 (n : Nat) (a : D) : V2 H n a = if fits n a = true then some (.bp H.length 0, H ++ [.box a.cells]) else none := by
 simp[V2,fits]
def TQ(sz:Nat)(zero:D)(n:Option Nat):Option (D×ab):=n.bind fun m=>if m≤lim then some (.ref H.length 0 m,H++[.arr sz false 0 (List.replicate m zero)])else none
def mkN(sz:Nat)(zero:D):D→Option (D×ab)
 | .t (.int _ n)=>TQ H sz zero (idx n)
 | _=>none
@[go_sem] theorem V4 (sz : Nat) (zero : D) (k : IntKind) (n : Int) : mkN H sz zero (.t (.int k n)) = TQ H sz zero (idx n) := (rfl)
@[go_sem] theorem ZP (len : X) (zero : D) (sz : Nat) : evO call get H (.mk len zero sz) = (get len).bind (mkN H sz zero) := by
 simp only[evO];cases get len with
 | none=>rfl
 | some d=>cases d with
   | t y=>cases y<;>rfl
   | _=>rfl
@[go_sem] theorem V5 (sz : Nat) (zero : D) (m : Nat) (h : m ≤ 4294967296) : TQ H sz zero (some m) = some (.ref H.length 0 m, H ++ [.arr sz false 0 (List.replicate m zero)]) := by
 simp[TQ,lim,h]
def EW(zero:T)(n:Option Nat):Option (D×ab):=n.bind fun m=>if m≤lim then some (.t (.sl (List.replicate m zero)),H)else none
def Yq(zero:T):D→Option (D×ab)
 | .t (.int _ n)=>EW H zero (idx n)
 | _=>none
@[go_sem] theorem TR (zero : T) (k : IntKind) (n : Int) : Yq H zero (.t (.int k n)) = EW H zero (idx n) := (rfl)
@[go_sem] theorem Yr (len : X) (zero : T) (sz : Nat) : evO call get H (.mkt len zero sz) = (get len).bind (Yq H zero) := by
 simp only[evO];cases get len with
 | none=>rfl
 | some d=>cases d with
   | t y=>cases y<;>rfl
   | _=>rfl
@[go_sem] theorem TS (zero : T) (m : Nat) (h : m ≤ 4294967296) : EW H zero (some m) = some (.t (.sl (List.replicate m zero)), H) := by
 simp[EW,lim,h]
def EX(sz:Nat)(zero:T)(n:Option Nat):Option (D×ab):=n.bind fun m=>if m≤lim∧0<m then some (.ref H.length 0 m,H++[.arr sz false 0 (List.replicate m (.t zero))])else none
def Ys(sz:Nat)(zero:T):D→Option (D×ab)
 | .t (.int _ n)=>EX H sz zero (idx n)
 | _=>none
@[go_sem] theorem TT (sz : Nat) (zero : T) (k : IntKind) (n : Int) : Ys H sz zero (.t (.int k n)) = EX H sz zero (idx n) := (rfl)
@[go_sem] theorem Yt (len : X) (zero : T) (sz : Nat) : evO call get H (.mkn len zero sz) = (get len).bind (Ys H sz zero) := by
 simp only[evO];cases get len with
 | none=>rfl
 | some d=>cases d with
   | t y=>cases y<;>rfl
   | _=>rfl
@[go_sem] theorem TU (sz : Nat) (zero : T) (m : Nat) (h : m ≤ 4294967296) (h0 : 0 < m) : EX H sz zero (some m) = some (.ref H.length 0 m, H ++ [.arr sz false 0 (List.replicate m (.t zero))]) := by
 simp[EX,lim,h,h0]
def kr(sz:Nat)(fz:Bool)(x y:Option D):Option (D×ab):=x.bind fun a=>y.bind fun b=>iN H a b fz sz
@[go_sem] theorem Yu (x y : X) (fz : Bool) (sz : Nat) : evO call get H (.app x y fz sz) = kr H sz fz (get x) (get y) := (rfl)
def qp(sz id ep n:Nat)(ys:List D):Option Obj→Option (D×ab)
 | some (.arr sz' pin ep' es)=>if ep=ep'∧n=es.length∧sz'=sz∧n+ys.length≤lim then some (.ref id ep (n+ys.length),H.set id (.arr sz pin ep (es++ys)))else none
 | _=>none
@[go_sem] theorem Qy (sz id ep n : Nat) (ys : List D) (pin : Bool) (es : List D) :
 qp H sz id ep n ys (some (.arr sz pin ep es))=if n=es.length then(if n+ys.length≤4294967296 then some (.ref id ep (n+ys.length),H.set id (.arr sz pin ep (es++ys)))else none)else none:=by
 simp only[qp,lim]
 by_cases h1:n=es.length
 · rw[if_pos h1]
   by_cases h2:n+ys.length≤4294967296
   · rw[if_pos h2,if_pos ⟨trivial,h1,trivial,h2⟩]
   · rw[if_neg h2,if_neg fun h=>h2 h.2.2.2]
 · rw[if_neg h1,if_neg fun h=>h1 h.2.1]
theorem oH(ts:List T):bn (fun d=>(frz H depth d).map D.t) (ts.map D.t)=some (ts.map D.t):=by
 induction ts with
 | nil=>rfl
 | cons t ts ih=>simp[bn,frz,ih]
theorem Cb(ts:List T):(ts.map D.t).flatMap (cY H depth)=[]:=by
 induction ts with
 | nil=>rfl
 | cons t ts ih=>rw[List.map_cons,List.flatMap_cons,ih];simp[cY,depth]
theorem wu(sz:Nat)(fz:Bool)(x:D)(ts:List T)(h:bW sz (ts.map D.t)=false):kr H sz fz (some x) (some (.t (.sl ts)))=none:=by
 have e1:(if fz then bn (fun d=>(frz H depth d).map D.t) (ts.map D.t)else some (ts.map D.t))=some (ts.map D.t):=by
  cases fz<;>simp[oH]
 simp only[kr,Option.bind_some,iN,elems,e1,h,Bool.false_eq_true,if_false]
def jw(sz:Nat)(ts:List T):Bool:=bW sz (ts.map D.t)
theorem Cc(sz id ep n:Nat)(fz:Bool)(ts:List T)(h:jw sz ts=true):kr H sz fz (some (.ref id ep n)) (some (.t (.sl ts)))=qp H sz id ep n (ts.map .t) H[id]?:=by
 have e1:(if fz then bn (fun d=>(frz H depth d).map D.t) (ts.map D.t)else some (ts.map D.t))=some (ts.map D.t):=by
  cases fz<;>simp[oH]
 have e2:(if fz then pins H ((ts.map D.t).flatMap (cY H depth))else H)=H:=by
  cases fz
  · rfl
  · simp only[if_true];rw[Cb];rfl
 unfold jw at h
 simp only[kr,Option.bind_some,iN,elems,e1,h,if_true,e2,dv]
 generalize H[id]?=o
 rcases o with _ | (_ | ⟨sz',pin,ep',es⟩)
 · rfl
 · rfl
 · simp only[qp]
   by_cases h1:ep=ep'∧n=es.length
   · rw[if_pos h1,Option.bind_some]
     by_cases h2:sz'=sz∧n+(ts.map D.t).length≤lim
     · rw[if_pos h2,if_pos ⟨h1.1,h1.2,h2⟩]
     · rw[if_neg h2,if_neg fun h=>h2 h.2.2]
   · rw[if_neg h1,if_neg fun h=>h1 ⟨h.1,h.2.1⟩];rfl
@[go_sem] theorem Qz (sz id ep n : Nat) (fz : Bool) (ts : List T) : kr H sz fz (some (.ref id ep n)) (some (.t (.sl ts))) = if jw sz ts = true then qp H sz id ep n (ts.map .t) H[id]? else none := by
 by_cases h:jw sz ts=true
 · rw[if_pos h,Cc H sz id ep n fz ts h]
 · rw[if_neg h];exact wu H sz fz _ ts (by simpa [jw]using h)
@[go_sem] theorem QA (sz : Nat) (fz : Bool) (ts : List T) : kr H sz fz (some .nil) (some (.t (.sl ts))) =
 if jw sz ts=true then(if ts.length≤4294967296 then some (.ref H.length 0 ts.length,H++[.arr sz false 0 (ts.map .t)])else none)else none:=by
 by_cases h:jw sz ts=true
 · rw[if_pos h]
   have e1:(if fz then bn (fun d=>(frz H depth d).map D.t) (ts.map D.t)else some (ts.map D.t))=some (ts.map D.t):=by
    cases fz<;>simp[oH]
   have e2:(if fz then pins H ((ts.map D.t).flatMap (cY H depth))else H)=H:=by
    cases fz
    · rfl
    · simp only[if_true];rw[Cb];rfl
   unfold jw at h
   simp only[kr,Option.bind_some,iN,elems,e1,h,if_true,e2,lim,List.length_map]
 · rw[if_neg h];exact wu H sz fz _ ts (by simpa [jw]using h)
@[go_sem] theorem QB (sz : Nat) : jw sz [] = true := (rfl)
@[go_sem] theorem MU (sz : Nat) (x : T) (r : List T) : jw sz (x :: r) = jv sz x.cells := by
 rw[Bool.eq_iff_iff,dy];simp[jw,bW,D.cells]
@[go_sem] theorem QC (l : List Int) (k : IntKind) : jw 1 (l.map (.int k)) = true := by cases l <;> rfl
@[go_sem] theorem MV (l : List Bool) : jw 1 (l.map .bool) = true := by cases l <;> rfl
@[go_sem] theorem TV (l : List (List T)) : jw 1 (l.map .sl) = true := by cases l <;> rfl
def y6(call:aC)(f raw:Nat)(keep:List Nat)(ds:List D):Option (D×ab):=n5 call H f raw keep ds
@[go_sem] theorem ZQ (f raw : Nat) (keep : List Nat) (xs : List X) : evO call get H (.ca f raw keep xs) = (bn get xs).bind (y6 H call f raw keep) := (rfl)
def Yv(call:aC)(raw:Nat)(keep:List Nat)(x:Option D)(xs:Option (List D)):Option (D×ab):=x.bind fun
 | .fn f caps=>xs.bind fun ds=>n5 call H f raw keep (ds++caps)
 | _=>none
@[go_sem] theorem ZR (x : X) (raw : Nat) (keep : List Nat) (xs : List X) : evO call get H (.cw x raw keep xs) = Yv H call raw keep (get x) (bn get xs) := (rfl)
@[go_sem] theorem V6 (raw : Nat) (keep : List Nat) (f : Nat) (caps ds : List D) : Yv H call raw keep (some (.fn f caps)) (some ds) = y6 H call f raw keep (ds ++ caps) := (rfl)
def iE(H:ab):List D→Option (List T)
 | []=>some []
 | .t x::r=>gJ x (iE H r)
 | .nil::r=>gJ (.sl []) (iE H r)
 | _::_=>none
@[go_sem] theorem V7 : iE H [] = some [] := (rfl)
@[go_sem] theorem V8 (x : T) (r : List D) : iE H (.t x :: r) = gJ x (iE H r) := (rfl)
@[go_sem] theorem QD (r : List D) : iE H (.nil :: r) = gJ (.sl []) (iE H r) := (rfl)
@[go_sem] theorem QE (cs : List D) (r : List D) : iE H (.agg cs :: r) = none := (rfl)
@[go_sem] theorem TW (a b : Nat) (r : List D) : iE H (.bp a b :: r) = none := (rfl)
@[go_sem] theorem QF (a b c : Nat) (r : List D) : iE H (.ref a b c :: r) = none := (rfl)
@[go_sem] theorem QG (a b c d e : Nat) (r : List D) : iE H (.sub a b c d e :: r) = none := (rfl)
@[go_sem] theorem TX (f : Nat) (cs : List D) (r : List D) : iE H (.fn f cs :: r) = none := (rfl)
@[go_sem] theorem TY (a b c d e : Nat) (r : List D) : iE H (.ap a b c d e :: r) = none := (rfl)
@[go_sem] theorem TZ (cs : List T) (r : List D) : iE H (.ep cs :: r) = none := (rfl)
@[go_sem] theorem MW (r : List D) : iE H (.nilp :: r) = none := (rfl)
@[go_sem] theorem QH (r : List D) : iE H (.und :: r) = none := (rfl)
end
theorem nv(H:ab):∀ {ds:List D} {ts:List T},iE H ds=some ts→∀i,jM H [] i ds=some (ts.map .t)∧bB H [] i ds=[]
 | [],ts,h,i=>by simp[iE]at h;subst h;exact⟨rfl,rfl⟩
 | d::r,ts,h,i=>by
   cases d with
   | t x=>
     simp only[iE,gJ,Option.map_eq_some_iff]at h
     obtain⟨l,hl,rfl⟩:=h
     obtain⟨h1,h2⟩:=nv H hl (i+1)
     exact⟨by simp[jM,nU,h1],by simp[bB,cY,depth,h2]⟩
   | nil=>
     simp only[iE,gJ,Option.map_eq_some_iff]at h
     obtain⟨l,hl,rfl⟩:=h
     obtain⟨h1,h2⟩:=nv H hl (i+1)
     exact⟨by simp[jM,nU,h1],by simp[bB,cY,depth,h2]⟩
   | _=>simp[iE]at h
theorem Cd(ts:List T)(n:Nat):(ts.map D.t).flatMap (ids n)=[]:=by
 induction ts with
 | nil=>rfl
 | cons t ts ih=>rw[List.map_cons,List.flatMap_cons,ih];simp[ids]
theorem Jr(f:Nat→Option Nat)(ts:List T):bn (ren f depth) (ts.map .t)=some (ts.map .t):=by
 induction ts with
 | nil=>rfl
 | cons t ts ih=>simp[bn,ren,depth]at ih ⊢;exact ih
def qN:D→Bool
 | .t _=>true
 | .tup ds=>ds.all fun | .t _=>true | _=>false
 | _=>false
theorem uN{f:Nat→Option Nat}{d:D}(h:qN d=true):ren f depth d=some d:=by
 cases d with
 | t x=>rfl
 | tup ds=>
   simp only[qN]at h
   have:bn (ren f 7) ds=some ds:=by
    induction ds with
    | nil=>rfl
    | cons d ds ih=>
      simp only[List.all_cons,Bool.and_eq_true]at h
      cases d with
      | t x=>simp[bn,ren,ih h.2]
      | _=>simp at h
   simp[ren,depth,this]
 | _=>simp[qN]at h
def r5(H:ab)(p:D×ab):Option (D×ab):=if qN p.1&&p.2.isEmpty then some (p.1,H)else
 (ren (cL [] H.length) depth p.1).bind fun r'=>(bn (dZ (cL [] H.length)) p.2).map fun os=>(r',H++os)
@[go_sem] theorem V9 (H : ab) (x : T) : r5 H (.t x, []) = some (.t x, H) := (rfl)
@[go_sem] theorem Wa (H : ab) : r5 H (.tup [], []) = some (.tup [], H) := (rfl)
@[go_sem] theorem Wb (H : ab) (x y : T) : r5 H (.tup [.t x, .t y], []) = some (.tup [.t x, .t y], H) := (rfl)
@[go_sem] theorem Wc (H : ab) (x y z : T) : r5 H (.tup [.t x, .t y, .t z], []) = some (.tup [.t x, .t y, .t z], H) := (rfl)
@[go_sem] theorem Wd (H : ab) (x y z u : T) : r5 H (.tup [.t x, .t y, .t z, .t u], []) = some (.tup [.t x, .t y, .t z, .t u], H) := (rfl)
theorem Ce(H:ab)(call:aC)(f raw:Nat)(ds:List D)(ts:List T)(h:iE H ds=some ts):
 y6 H call f raw [] ds=(call raw f (ts.map .t) []).bind (r5 H):=by
 obtain⟨h1,h2⟩:=nv H h 0
 simp only[y6,n5,h1,Option.bind_some,Cd,cK,reach,iM,List.flatMap_nil,h2,pins,Jr,pick,bn]
 cases hc:call raw f (ts.map .t) []with
 | none=>rfl
 | some p=>
   obtain⟨d,os⟩:=p
   simp only[Option.bind_some,List.isEmpty_nil,Bool.true_and,r5]
   by_cases h3:os=[]
   · subst h3
     simp only[List.isEmpty_nil,Bool.true_and,Bool.and_true,bn,Option.map_some,List.length_nil,List.take_nil,bX,List.drop_nil,List.append_nil]
     by_cases h4:qN d=true
     · rw[if_pos h4]
       split
       · rfl
       · rw[uN h4];rfl
     · rw[if_neg h4]
       split
       · rename_i h5
         exfalso
         apply h4
         cases d with
         | t x=>rfl
         | tup ds=>
           simp only[ke,List.all_eq_true]at h5
           simp only[qN,List.all_eq_true]
           intro y hy
           have:=h5 y hy
           cases y<;>simp_all [gD]
         | _=>simp[ke]at h5
       · rfl
   · have:os.isEmpty=false:=by cases os<;>simp_all
     simp only[this,Bool.false_and,Bool.and_false,if_false,Bool.false_eq_true,List.length_nil,List.take_zero,bX,List.drop_zero]
@[go_sem] theorem MX (st : St) : fv st [] = some [] := (rfl)
def Yw(st:St)(r:List (Nat×Option (Nat×Bool)))(d:D):Option (List D):=gJ d (fv st r)
@[go_sem] theorem We (vs : List D) (H : ab) (r : List (Nat × Option (Nat × Bool))) (d : D) : Yw ⟨vs, H⟩ r d = gJ d (fv ⟨vs, H⟩ r) := (rfl)
@[go_sem] theorem MY (vs : List D) (H : ab) (j : Nat) (r : List (Nat × Option (Nat × Bool))) : fv ⟨vs, H⟩ ((j, none) :: r) = vs[j]?.bind (Yw ⟨vs, H⟩ r) := (rfl)
def Wf(st:St)(r:List (Nat×Option (Nat×Bool)))(p:D×ab):Option (List D):=gJ p.1 (fv st r)
@[go_sem] theorem Wg (vs : List D) (H : ab) (r : List (Nat × Option (Nat × Bool))) (d : D) (H' : ab) : Wf ⟨vs, H⟩ r (d, H') = gJ d (fv ⟨vs, H⟩ r) := (rfl)
def Wi(st:St)(n:Nat)(agg:Bool)(r:List (Nat×Option (Nat×Bool)))(p:D):Option (List D):=(DP st.H n agg p).bind (Wf st r)
@[go_sem] theorem Wj (vs : List D) (H : ab) (n : Nat) (agg : Bool) (r : List (Nat × Option (Nat × Bool))) (p : D) : Wi ⟨vs, H⟩ n agg r p = (DP H n agg p).bind (Wf ⟨vs, H⟩ r) := (rfl)
@[go_sem] theorem Js (vs : List D) (H : ab) (j n : Nat) (agg : Bool) (r : List (Nat × Option (Nat × Bool))) : fv ⟨vs, H⟩ ((j, some (n, agg)) :: r) = vs[j]?.bind (Wi ⟨vs, H⟩ n agg r) := by
 simp only[fv]
 cases vs[j]? with
 | none=>rfl
 | some p=>
   simp only[Option.bind_some,Wi,DP]
   cases pB H p n agg<;>rfl
@[go_sem] theorem Wk (H : ab) (n : Nat) (x : T) : frz H n (.t x) = some x := by cases n <;> rfl
@[go_sem] theorem Wl (H : ab) (n : Nat) : frz H n .nil = some (.sl []) := by cases n <;> rfl
@[go_sem] theorem Wm (H : ab) (n : Nat) (cs : List D) : frz H (n + 1) (.agg cs) = (bn (frz H n) cs).map .agg := (rfl)
@[go_sem] theorem zZ (H : ab) (n : Nat) (ts : List T) : bn (frz H n) (ts.map .t) = some ts := by
 induction ts with
 | nil=>rfl
 | cons t ts ih=>simp[bn,Wk,ih]
def frA(H:ab)(n ep m lo hi:Nat):Option Obj→Option T
 | some (.arr _ _ ep' es)=>if ep=ep'∧m=es.length then(bn (frz H n) ((es.drop lo).take (hi-lo))).map .sl else none
 | _=>none
def frR(H:ab)(n ep m:Nat):Option Obj→Option T
 | some (.arr _ _ ep' es)=>if ep=ep'∧m=es.length then(bn (frz H n) es).map .sl else none
 | _=>none
@[go_sem] theorem Wn (H : ab) (n id ep m : Nat) : frz H (n + 1) (.ref id ep m) = frR H n ep m H[id]? := by
 simp only[frz,dv]
 generalize H[id]?=o
 rcases o with _ | (_ | ⟨sz',pin,ep',es⟩)
 · rfl
 · rfl
 · simp only[frR]
   by_cases h:ep=ep'∧m=es.length
   · rw[if_pos h,if_pos h];rfl
   · rw[if_neg h,if_neg h];rfl
@[go_sem] theorem Wo (H : ab) (n id ep m lo hi : Nat) : frz H (n + 1) (.sub id ep m lo hi) = frA H n ep m lo hi H[id]? := by
 simp only[frz,dv]
 generalize H[id]?=o
 rcases o with _ | (_ | ⟨sz',pin,ep',es⟩)
 · rfl
 · rfl
 · simp only[frA]
   by_cases h:ep=ep'∧m=es.length
   · rw[if_pos h,if_pos h];rfl
   · rw[if_neg h,if_neg h];rfl
@[go_sem] theorem Wp (H : ab) (n ep m sz : Nat) (pin : Bool) (es : List D) : frR H n ep m (some (.arr sz pin ep es)) = if m = es.length then (bn (frz H n) es).map .sl else none := by simp [frR]
@[go_sem] theorem Wq (H : ab) (n ep m lo hi sz : Nat) (pin : Bool) (es : List D) : frA H n ep m lo hi (some (.arr sz pin ep es)) = if m = es.length then (bn (frz H n) ((es.drop lo).take (hi - lo))).map .sl else none := by simp [frA]
@[go_sem] theorem QI (H : ab) (x : T) : nU H (.t x) = some (.t x) := (rfl)
@[go_sem] theorem T0 (H : ab) : nU H .nil = some (.t (.sl [])) := (rfl)
@[go_sem] theorem T1 (H : ab) (cs : List D) : nU H (.agg cs) = (frz H 8 (.agg cs)).map .t := (rfl)
@[go_sem] theorem T2 (H : ab) (id ep n : Nat) : nU H (.ref id ep n) = (frz H 8 (.ref id ep n)).map .t := (rfl)
@[go_sem] theorem T3 (H : ab) (id ep n lo hi : Nat) : nU H (.sub id ep n lo hi) = (frz H 8 (.sub id ep n lo hi)).map .t := (rfl)
@[go_sem] theorem Jt (H : ab) (id off : Nat) : nU H (.bp id off) = some (.bp id off) := (rfl)
@[go_sem] theorem Ws (H : ab) (id ep n i off : Nat) : nU H (.ap id ep n i off) = some (.ap id ep n i off) := (rfl)
@[go_sem] theorem Wt (H : ab) (cs : List T) : nU H (.ep cs) = some (.ep cs) := (rfl)
@[go_sem] theorem Wu (H : ab) (f : Nat) (cs : List D) : nU H (.fn f cs) = some (.fn f cs) := (rfl)
def ltB:Nat→Nat→Bool
 | _,0=>false
 | 0,_+1=>true
 | m+1,n+1=>ltB m n
@[go_sem] theorem ZS (m : Nat) : ltB m 0 = false := by cases m <;> rfl
@[go_sem] theorem Yx (n : Nat) : ltB 0 (n + 1) = true := (rfl)
@[go_sem] theorem Yy (m n : Nat) : ltB (m + 1) (n + 1) = ltB m n := (rfl)
theorem kt:∀ {m n:Nat},ltB m n=decide (m<n)
 | m,0=>by cases m<;>simp[ltB]
 | 0,n+1=>by simp[ltB]
 | m+1,n+1=>by simp[ltB,kt (m:=m) (n:=n)]
def eqB:Nat→Nat→Bool
 | 0,0=>true
 | m+1,n+1=>eqB m n
 | _,_=>false
@[go_sem] theorem Yz : eqB 0 0 = true := (rfl)
@[go_sem] theorem YA (n : Nat) : eqB 0 (n + 1) = false := (rfl)
@[go_sem] theorem YB (n : Nat) : eqB (n + 1) 0 = false := (rfl)
@[go_sem] theorem YC (m n : Nat) : eqB (m + 1) (n + 1) = eqB m n := (rfl)
theorem xU:∀ {m n:Nat},eqB m n=decide (m=n)
 | 0,0=>rfl
 | 0,n+1=>rfl
 | m+1,0=>rfl
 | m+1,n+1=>by simp[eqB,xU (m:=m) (n:=n)]
section
variable (k n : Nat)
@[go_sem] theorem Wv (x : T) : old k n (.t x) = true := by cases n <;> rfl
@[go_sem] theorem Ww : old k n .nil = true := by cases n <;> rfl
@[go_sem] theorem YD (cs : List T) : old k n (.ep cs) = true := by cases n <;> rfl
@[go_sem] theorem T4 : old k n .nilp = true := by cases n <;> rfl
@[go_sem] theorem Wx : old k n .und = true := by cases n <;> rfl
@[go_sem] theorem QJ (id off : Nat) : old k n (.bp id off) = ltB id k := by cases n <;> simp [old, kt]
@[go_sem] theorem YE (id ep m i off : Nat) : old k n (.ap id ep m i off) = ltB id k := by cases n <;> simp [old, kt]
@[go_sem] theorem Wy (id ep m : Nat) : old k n (.ref id ep m) = ltB id k := by cases n <;> simp [old, kt]
@[go_sem] theorem Wz (id ep m lo hi : Nat) : old k n (.sub id ep m lo hi) = ltB id k := by cases n <;> simp [old, kt]
def dL(n:Nat)(cs:List D):Bool:=cs.all (old k n)
@[go_sem] theorem MZ : dL k n [] = true := (rfl)
@[go_sem] theorem xV (d : D) (r : List D) : dL k n (d :: r) = (old k n d && dL k n r) := (rfl)
@[go_sem] theorem y7 (ts : List T) : dL k n (ts.map .t) = true := by
 induction ts with
 | nil=>rfl
 | cons t ts ih=>rw[List.map_cons,xV,Wv,ih];rfl
@[go_sem] theorem M0 (m : Nat) (x : T) : dL k n (List.replicate m (.t x)) = true := by
 have:List.replicate m (D.t x)=(List.replicate m x).map .t:=by simp
 rw[this,y7]
@[go_sem] theorem M1 (a b : List D) : dL k n (a ++ b) = (dL k n a && dL k n b) := by simp [dL]
@[go_sem] theorem WA (cs : List D) : old k (n + 1) (.agg cs) = dL k n cs := (rfl)
@[go_sem] theorem WB (cs : List D) : old k (n + 1) (.tup cs) = dL k n cs := (rfl)
@[go_sem] theorem YF (f : Nat) (cs : List D) : old k (n + 1) (.fn f cs) = dL k n cs := (rfl)
end
def dr(k:Nat):ab→Bool
 | []=>true
 | .box cs::r=>dL k 8 cs&&dr k r
 | .arr _ _ _ es::r=>dL k 8 es&&dr k r
@[go_sem] theorem Ju (k : Nat) : dr k [] = true := (rfl)
@[go_sem] theorem Jv (k : Nat) (cs : List D) (r : ab) : dr k (.box cs :: r) = (dL k 8 cs && dr k r) := (rfl)
@[go_sem] theorem Jw (k sz ep : Nat) (pin : Bool) (es : List D) (r : ab) : dr k (.arr sz pin ep es :: r) = (dL k 8 es && dr k r) := (rfl)
theorem iK(k:Nat)(H:ab):H.all (fun o=>o.ds.all (old k depth))=dr k H:=by
 induction H with
 | nil=>rfl
 | cons o r ih=>rw[List.all_cons,ih];cases o<;>rfl
def Jx(d:D)(b:Bool):D:=if b then d else .und
@[go_sem] theorem M3 (d : D) : Jx d true = d := (rfl)
@[go_sem] theorem Jy (d : D) : Jx d false = .und := (rfl)
@[go_sem] theorem WC (k : Nat) (d : D) : kill k d = Jx d (old k 8 d) := (rfl)
def Aa(k:Nat):List D→List D
 | []=>[]
 | d::r=>kill k d::Aa k r
@[go_sem] theorem QK (k : Nat) : Aa k [] = [] := (rfl)
@[go_sem] theorem M4 (k : Nat) (d : D) (r : List D) : Aa k (d :: r) = kill k d :: Aa k r := (rfl)
theorem EY(k:Nat)(vs:List D):vs.map (kill k)=Aa k vs:=by
 induction vs with
 | nil=>rfl
 | cons d r ih=>rw[List.map_cons,ih];rfl
@[go_sem] theorem T5 (k : Nat) (vs : List D) (H : ab) : zK k ⟨vs, H⟩ = if dr k (H.take k) = true then some ⟨Aa k vs, H.take k⟩ else none := by
 simp only[zK,iK,EY]
@[go_sem] theorem Cf (H : ab) (n : Nat) (x : T) : cY H n (.t x) = [] := by cases n <;> rfl
@[go_sem] theorem T6 (H : ab) (n : Nat) : cY H n .nil = [] := by cases n <;> rfl
@[go_sem] theorem Jz (H : ab) (n id off : Nat) : cY H n (.bp id off) = [] := by cases n <;> rfl
@[go_sem] theorem WD (H : ab) (n f : Nat) (cs : List D) : cY H n (.fn f cs) = [] := by cases n <;> rfl
@[go_sem] theorem WE (H : ab) (n : Nat) (cs : List T) : cY H n (.ep cs) = [] := by cases n <;> rfl
@[go_sem] theorem WG (H : ab) (n a b c d e : Nat) : cY H n (.ap a b c d e) = [] := by cases n <;> rfl
def mD(H:ab)(n:Nat)(cs:List D):List Nat:=cs.flatMap (cY H n)
@[go_sem] theorem QL (H : ab) (n : Nat) : mD H n [] = [] := (rfl)
@[go_sem] theorem Ab (H : ab) (n : Nat) (d : D) (r : List D) : mD H n (d :: r) = cY H n d ++ mD H n r := (rfl)
@[go_sem] theorem WH (H : ab) (n : Nat) (ts : List T) : mD H n (ts.map .t) = [] := by
 induction ts with
 | nil=>rfl
 | cons t ts ih=>rw[List.map_cons,Ab,ih,Cf];rfl
@[go_sem] theorem QN (H : ab) (n : Nat) (a b : List D) : mD H n (a ++ b) = mD H n a ++ mD H n b := by simp [mD]
@[go_sem] theorem T7 (H : ab) (n : Nat) (cs : List D) : cY H (n + 1) (.agg cs) = mD H n cs := (rfl)
def JA(H:ab)(n:Nat):Option Obj→List Nat
 | some (.arr _ _ _ es)=>mD H n es
 | _=>[]
@[go_sem] theorem QO (H : ab) (n sz ep : Nat) (pin : Bool) (es : List D) : JA H n (some (.arr sz pin ep es)) = mD H n es := (rfl)
@[go_sem] theorem T8 (H : ab) (n id ep m : Nat) : cY H (n + 1) (.ref id ep m) = id :: JA H n H[id]? := (rfl)
@[go_sem] theorem T9 (H : ab) (n id ep m lo hi : Nat) : cY H (n + 1) (.sub id ep m lo hi) = id :: JA H n H[id]? := (rfl)
@[go_sem] theorem WI : qJ [] = .tup [] := (rfl)
@[go_sem] theorem WJ (d : D) : qJ [d] = d := (rfl)
@[go_sem] theorem WK (a b : D) (r : List D) : qJ (a :: b :: r) = .tup (a :: b :: r) := (rfl)
def wx(k:Nat):List Nat→Bool
 | []=>true
 | i::r=> !ltB i k&&wx k r
@[go_sem] theorem QP (k : Nat) : wx k [] = true := (rfl)
@[go_sem] theorem M5 (k i : Nat) (r : List Nat) : wx k (i :: r) = (!ltB i k && wx k r) := (rfl)
theorem y8(k:Nat)(l:List Nat):l.all (fun i=>decide (k≤i))=wx k l:=by
 induction l with
 | nil=>rfl
 | cons i r ih=>
   rw[List.all_cons,ih]
   simp only[wx,kt]
   congr 1
   rw[Bool.eq_iff_iff];simp
def Ua(k raw:Nat)(H:ab)(ds rs:List D):Option (D×ab):=
 (jh H (max raw 1) (List.range k) (rs.flatMap (ids depth)++iM H (List.range k))).bind fun q=>
  if(fF H raw ds).all (fun i=> !(List.range k++q.1).contains i)then
   (bn (ren (idxOf (List.range k++q.1)) depth) rs).bind fun rs'=>
    (bn (dZ (idxOf (List.range k++q.1))) (H.take k++q.2)).map fun hs'=>(qJ rs',hs')
  else none
def M6(k raw:Nat)(H:ab)(ds rs:List D)(b:Bool):Option (D×ab):=
 if b then(if wx k (fF H raw ds)=true then some (qJ rs,H.take k)else none)else Ua k raw H ds rs
@[go_sem] theorem QQ (k raw : Nat) (H : ab) (ds rs : List D) : M6 k raw H ds rs true = if wx k (fF H raw ds) = true then some (qJ rs, H.take k) else none := (rfl)
def QS(k raw:Nat)(H:ab)(ds rs:List D):Option (D×ab):=M6 k raw H ds rs (dL k 8 rs&&dr k (H.take k))
@[go_sem] theorem WL (k raw : Nat) (H : ab) (ds rs : List D) : QS k raw H ds rs = M6 k raw H ds rs (dL k 8 rs && dr k (H.take k)) := (rfl)
@[go_sem] theorem QT (k : Nat) (H : ab) (ds : List D) : finish k 0 H ds = (bn (nU H) ds).bind (QS k 0 H ds) := by
 simp only[finish,if_true,iK,y8]
 cases bn (nU H) ds with
 | none=>rfl
 | some rs=>
   simp only[Option.bind_some,QS,M6]
   show(if(dL k 8 rs&&dr k (H.take k))=true then _ else _)=_
   cases (dL k 8 rs&&dr k (H.take k))<;>rfl
@[go_sem] theorem QU (H : ab) (ds : List D) : fF H 0 ds = mD H 8 ds := (rfl)
@[go_sem] theorem QV (vs : List D) : gy [] vs = vs := (rfl)
@[go_sem] theorem M7 (i : Nat) (r : List Nat) (vs : List D) : gy (i :: r) vs = gy r (vs.set i .und) := (rfl)
@[go_sem] theorem WM (dead : List Nat) (k : Nat) (vs : List D) (H : ab) : tidy false dead k ⟨vs, H⟩ = some ⟨gy dead vs, H⟩ := (rfl)
@[go_sem] theorem WN (dead : List Nat) (k : Nat) (vs : List D) (H : ab) : tidy true dead k ⟨vs, H⟩ = zK k ⟨gy dead vs, H⟩ := (rfl)
section
variable (H : ab) (call : aC) (f raw : Nat) (keep : List Nat) (ds : List D)
def uO(H1:ab)(n:Nat)(sel:List Nat)(p:D×ab):Option (D×ab):=
 (ren (cL sel n) depth p.1).bind fun r'=>(bn (dZ (cL sel n)) p.2).map fun os=>(r',bX H1 sel (os.take sel.length)++os.drop sel.length)
def ny(H1:ab)(sel:List Nat)(p:D×ab):Option (D×ab):=
 if sel.isEmpty&&p.2.isEmpty&&ke p.1 then some (p.1,H)else uO H1 H.length sel p
def JB(args:List D)(H1:ab)(sel:List Nat)(hs:ab):Option (D×ab):=(call raw f args hs).bind (ny H H1 sel)
def JC(args:List D)(H1:ab)(sel:List Nat)(hs:ab):Option (D×ab):=(bn (dZ (idxOf sel)) hs).bind (JB H call f raw args H1 sel)
def JD(H1:ab)(sel:List Nat)(args:List D):Option (D×ab):=(pick H1 sel).bind (JC H call f raw args H1 sel)
def JE(args:List D)(sel:List Nat):Option (D×ab):=(bn (ren (idxOf sel) depth) args).bind (JD H call f raw (pins H (bB H keep 0 ds)) sel)
def qO(n:Nat)(cs:List D):List Nat:=cs.flatMap (ids n)
def JF(args:List D):Option (D×ab):=JE H call f raw keep ds args (reach H 3 (cK [] (qO 8 args)))
def Cg:Option (D×ab):=(jM H keep 0 ds).bind (JF H call f raw keep ds)
theorem y9:y6 H call f raw keep ds=Cg H call f raw keep ds:=(rfl)
@[go_sem] theorem za : Cg H call f raw keep ds = (jM H keep 0 ds).bind (JF H call f raw keep ds) := (rfl)
@[go_sem] theorem zb (args : List D) : JF H call f raw keep ds args = JE H call f raw keep ds args (reach H 3 (cK [] (qO 8 args))) := (rfl)
@[go_sem] theorem zc (args : List D) (sel : List Nat) : JE H call f raw keep ds args sel = (bn (ren (idxOf sel) 8) args).bind (JD H call f raw (pins H (bB H keep 0 ds)) sel) := (rfl)
@[go_sem] theorem zd (H1 : ab) (sel : List Nat) (args : List D) : JD H call f raw H1 sel args = (pick H1 sel).bind (JC H call f raw args H1 sel) := (rfl)
@[go_sem] theorem ze (args : List D) (H1 : ab) (sel : List Nat) (hs : ab) : JC H call f raw args H1 sel hs = (bn (dZ (idxOf sel)) hs).bind (JB H call f raw args H1 sel) := (rfl)
@[go_sem] theorem EZ (args : List D) (H1 : ab) (sel : List Nat) (hs : ab) : JB H call f raw args H1 sel hs = (call raw f args hs).bind (ny H H1 sel) := (rfl)
def E1(H1:ab)(sel:List Nat)(r:D)(os:ab):Option (D×ab):=some (r,bX H1 sel (os.take sel.length)++os.drop sel.length)
@[go_sem] theorem E3 (H1 : ab) (sel : List Nat) (r : D) (os : ab) : E1 H1 sel r os = some (r, bX H1 sel (os.take sel.length) ++ os.drop sel.length) := (rfl)
def JG(H1:ab)(n:Nat)(sel:List Nat)(os:ab)(r:D):Option (D×ab):=(bn (dZ (cL sel n)) os).bind (E1 H1 sel r)
@[go_sem] theorem zf (H1 : ab) (n : Nat) (sel : List Nat) (os : ab) (r : D) : JG H1 n sel os r = (bn (dZ (cL sel n)) os).bind (E1 H1 sel r) := (rfl)
@[go_sem] theorem zg (H1 : ab) (n : Nat) (sel : List Nat) (r : D) (os : ab) : uO H1 n sel (r, os) = (ren (cL sel n) 8 r).bind (JG H1 n sel os) := by
 simp only[uO,depth]
 cases ren (cL sel n) 8 r with
 | none=>rfl
 | some r'=>simp only[Option.bind_some,JG];cases bn (dZ (cL sel n)) os<;>rfl
@[go_sem] theorem QW (H1 : ab) (i : Nat) (sel : List Nat) (p : D × ab) : ny H H1 (i :: sel) p = uO H1 H.length (i :: sel) p := (rfl)
@[go_sem] theorem Ub (H1 : ab) (sel : List Nat) (r : D) (o : Obj) (os : ab) : ny H H1 sel (r, o :: os) = uO H1 H.length sel (r, o :: os) := by
 simp[ny]
@[go_sem] theorem WO (H1 : ab) (k : IntKind) (n : Int) : ny H H1 [] (.t (.int k n), []) = some (.t (.int k n), H) := (rfl)
@[go_sem] theorem WQ (H1 : ab) (b : Bool) : ny H H1 [] (.t (.bool b), []) = some (.t (.bool b), H) := (rfl)
@[go_sem] theorem Uc (H1 : ab) (es : List T) : ny H H1 [] (.t (.sl es), []) = some (.t (.sl es), H1) := by simp [ny, uO, ke, T.scalar, ren, depth, bn, bX]
@[go_sem] theorem QX (H1 : ab) (es : List T) : ny H H1 [] (.t (.agg es), []) = some (.t (.agg es), H1) := by simp [ny, uO, ke, T.scalar, ren, depth, bn, bX]
@[go_sem] theorem QY (H1 : ab) (ds : List D) : ny H H1 [] (.tup ds, []) = if ds.all gD then some (.tup ds, H) else uO H1 H.length [] (.tup ds, []) := by
 simp[ny,ke]
def JH:Option (List T)→Option (D×ab)
 | some ts=>(call raw f (ts.map .t) []).bind (r5 H)
 | none=>Cg H call f raw [] ds
@[go_sem] theorem M8 (ts : List T) : JH H call f raw ds (some ts) = (call raw f (ts.map .t) []).bind (r5 H) := (rfl)
@[go_sem] theorem M9 : JH H call f raw ds none = Cg H call f raw [] ds := (rfl)
@[go_sem] theorem WR : y6 H call f raw [] ds = JH H call f raw ds (iE H ds) := by
 cases h:iE H ds with
 | none=>rfl
 | some ts=>exact Ce H call f raw ds ts h
@[go_sem] theorem YG (k : Nat) : y6 H call f raw (k :: keep) ds = Cg H call f raw (k :: keep) ds := (rfl)
end
section
variable (H : ab) (keep : List Nat)
@[go_sem] theorem QZ (i : Nat) : jM H keep i [] = some [] := (rfl)
def xh(i:Nat):List Nat→Bool
 | []=>false
 | j::r=>eqB i j||xh i r
@[go_sem] theorem Ud (i : Nat) : xh i [] = false := (rfl)
@[go_sem] theorem Q0 (i j : Nat) (r : List Nat) : xh i (j :: r) = (eqB i j || xh i r) := (rfl)
theorem uP(i:Nat)(l:List Nat):l.contains i=xh i l:=by
 induction l with
 | nil=>rfl
 | cons j r ih=>rw[List.contains_cons,ih];simp only[xh,xU];rw[beq_eq_decide_nat]
where beq_eq_decide_nat {a b:Nat}:(a==b)=decide (a=b):=by rw[Bool.eq_iff_iff];simp
def WS(d:D):Bool→Option D
 | true=>some d
 | false=>nU H d
@[go_sem] theorem YH (d : D) : WS H d true = some d := (rfl)
@[go_sem] theorem GQ (d : D) : WS H d false = nU H d := (rfl)
def YI(i:Nat)(r:List D)(x:D):Option (List D):=gJ x (jM H keep (i+1) r)
@[go_sem] theorem Ch (i : Nat) (r : List D) (x : D) : YI H keep i r x = gJ x (jM H keep (i + 1) r) := (rfl)
@[go_sem] theorem tY (i : Nat) (d : D) (r : List D) : jM H keep i (d :: r) = (WS H d (xh i keep)).bind (YI H keep i r) := by
 simp only[jM,uP]
 cases xh i keep<;>rfl
@[go_sem] theorem DQ (i : Nat) : bB H keep i [] = [] := (rfl)
def frK(l:List Nat):Bool→List Nat
 | true=>[]
 | false=>l
@[go_sem] theorem ZT (l : List Nat) : frK l true = [] := (rfl)
@[go_sem] theorem Q1 (l : List Nat) : frK l false = l := (rfl)
@[go_sem] theorem lz (i : Nat) (d : D) (r : List D) : bB H keep i (d :: r) = frK (cY H 8 d) (xh i keep) ++ bB H keep (i + 1) r := by
 simp only[bB,uP]
 cases xh i keep<;>rfl
@[go_sem] theorem Ue (H : ab) : pins H [] = H := (rfl)
@[go_sem] theorem Q2 (H : ab) (i : Nat) (r : List Nat) : pins H (i :: r) = pins (H.modify i yG) r := (rfl)
def Ac(i:Nat):Option Obj→ab
 | some (.arr sz _ ep es)=>H.set i (.arr sz true ep es)
 | _=>H
@[go_sem] theorem Q3 (i : Nat) (cs : List D) : Ac H i (some (.box cs)) = H := (rfl)
@[go_sem] theorem Q4 (i sz ep : Nat) (pin : Bool) (es : List D) : Ac H i (some (.arr sz pin ep es)) = H.set i (.arr sz true ep es) := (rfl)
theorem ku{α:Type}{l:List α}{i:Nat}{x:α}(h:l[i]?=some x):l.set i x=l:=by
 apply List.ext_getElem?
 intro j
 rw[List.getElem?_set]
 split
 · rename_i e;subst e
   split
   · exact h.symm
   · rename_i hl;rw[List.getElem?_eq_none (by omega)]at h;cases h
 · rfl
@[go_sem] theorem Na (i : Nat) : List.modify H i yG = Ac H i H[i]? := by
 apply List.ext_getElem?
 intro j
 rw[List.getElem?_modify]
 cases h:H[i]? with
 | none=>
   simp only[Ac]
   by_cases e:i=j
   · subst e;rw[h];simp
   · simp[e]
 | some o=>
   have hi:i<H.length:=(List.getElem?_eq_some_iff.1 h).1
   cases o with
   | box cs=>
     simp only[Ac]
     by_cases e:i=j
     · subst e;rw[h];simp[yG]
     · simp[e]
   | arr sz pin ep es=>
     simp only[Ac]
     rw[List.getElem?_set]
     by_cases e:i=j
     · subst e;rw[h];simp[yG,hi]
     · simp[e]
section
variable (n : Nat)
@[go_sem] theorem ZU (x : T) : ids n (.t x) = [] := by cases n <;> rfl
@[go_sem] theorem WT : ids n .nil = [] := by cases n <;> rfl
@[go_sem] theorem Uf : ids n .nilp = [] := by cases n <;> rfl
@[go_sem] theorem WU : ids n .und = [] := by cases n <;> rfl
@[go_sem] theorem YJ (cs : List T) : ids n (.ep cs) = [] := by cases n <;> rfl
@[go_sem] theorem Q5 (id off : Nat) : ids n (.bp id off) = [id] := by cases n <;> rfl
@[go_sem] theorem YK (id ep m i off : Nat) : ids n (.ap id ep m i off) = [id] := by cases n <;> rfl
@[go_sem] theorem WW (id ep m : Nat) : ids n (.ref id ep m) = [id] := by cases n <;> rfl
@[go_sem] theorem WX (id ep m lo hi : Nat) : ids n (.sub id ep m lo hi) = [id] := by cases n <;> rfl
@[go_sem] theorem WY (cs : List D) : ids (n + 1) (.agg cs) = qO n cs := (rfl)
@[go_sem] theorem WZ (cs : List D) : ids (n + 1) (.tup cs) = qO n cs := (rfl)
@[go_sem] theorem Q6 (f : Nat) (cs : List D) : ids (n + 1) (.fn f cs) = qO n cs := (rfl)
@[go_sem] theorem E4 : qO n [] = [] := (rfl)
@[go_sem] theorem Ci (d : D) (r : List D) : qO n (d :: r) = ids n d ++ qO n r := (rfl)
@[go_sem] theorem qq (ts : List T) : qO n (ts.map .t) = [] := Cd ts n
@[go_sem] theorem zh (a b : List D) : qO n (a ++ b) = qO n a ++ qO n b := by simp [qO]
@[go_sem] theorem Ug (m : Nat) (x : T) : qO n (List.replicate m (.t x)) = [] := by
 have:List.replicate m (D.t x)=(List.replicate m x).map .t:=by simp
 rw[this,qq]
end
def Cj(sel:List Nat)(i:Nat):Bool→List Nat
 | true=>sel
 | false=>sel++[i]
@[go_sem] theorem Uh (sel : List Nat) (i : Nat) : Cj sel i true = sel := (rfl)
@[go_sem] theorem Ui (sel : List Nat) (i : Nat) : Cj sel i false = sel ++ [i] := (rfl)
@[go_sem] theorem Nb (sel : List Nat) : cK sel [] = sel := (rfl)
@[go_sem] theorem JI (sel : List Nat) (i : Nat) (r : List Nat) : cK sel (i :: r) = cK (Cj sel i (xh i sel)) r := by
 simp only[cK,uP]
 cases xh i sel<;>rfl
def zi:Option Obj→List Nat
 | some (.box cs)=>qO 8 cs
 | some (.arr _ _ _ es)=>qO 8 es
 | none=>[]
@[go_sem] theorem Nc (cs : List D) : zi (some (.box cs)) = qO 8 cs := (rfl)
@[go_sem] theorem Nd (sz ep : Nat) (pin : Bool) (es : List D) : zi (some (.arr sz pin ep es)) = qO 8 es := (rfl)
@[go_sem] theorem Q7 : iM H [] = [] := (rfl)
@[go_sem] theorem Nf (i : Nat) (r : List Nat) : iM H (i :: r) = zi H[i]? ++ iM H r := by
 simp only[iM,List.flatMap_cons]
 congr 1
 cases H[i]? with
 | none=>rfl
 | some o=>cases o<;>rfl
@[go_sem] theorem W4 (sel : List Nat) : reach H 0 sel = sel := (rfl)
@[go_sem] theorem W5 (n : Nat) (sel : List Nat) : reach H (n + 1) sel = reach H n (cK sel (iM H sel)) := (rfl)
@[go_sem] theorem Uj : pick H [] = some [] := (rfl)
def Q8(r:List Nat)(o:Obj):Option ab:=gJ o (pick H r)
@[go_sem] theorem E5 (r : List Nat) (o : Obj) : Q8 H r o = gJ o (pick H r) := (rfl)
@[go_sem] theorem Ck (i : Nat) (r : List Nat) : pick H (i :: r) = H[i]?.bind (Q8 H r) := (rfl)
end
section
variable (f : Nat → Option Nat) (n : Nat)
@[go_sem] theorem W6 (x : T) : ren f n (.t x) = some (.t x) := by cases n <;> rfl
@[go_sem] theorem W7 : ren f n .nil = some .nil := by cases n <;> rfl
@[go_sem] theorem Uk : ren f n .nilp = some .nilp := by cases n <;> rfl
@[go_sem] theorem W8 : ren f n .und = some .und := by cases n <;> rfl
@[go_sem] theorem YL (cs : List T) : ren f n (.ep cs) = some (.ep cs) := by cases n <;> rfl
def YM(off:Nat)(i:Nat):D:= .bp i off
@[go_sem] theorem W9 (off i : Nat) : YM off i = .bp i off := (rfl)
@[go_sem] theorem Q9 (id off : Nat) : ren f n (.bp id off) = (f id).map (YM off) := by cases n <;> rfl
def YN(ep m i off:Nat)(j:Nat):D:= .ap j ep m i off
@[go_sem] theorem Xa (ep m i off j : Nat) : YN ep m i off j = .ap j ep m i off := (rfl)
@[go_sem] theorem YO (id ep m i off : Nat) : ren f n (.ap id ep m i off) = (f id).map (YN ep m i off) := by cases n <;> rfl
def Ra(ep m:Nat)(j:Nat):D:= .ref j ep m
@[go_sem] theorem Ul (ep m j : Nat) : Ra ep m j = .ref j ep m := (rfl)
@[go_sem] theorem Xb (id ep m : Nat) : ren f n (.ref id ep m) = (f id).map (Ra ep m) := by cases n <;> rfl
def Rb(ep m lo hi:Nat)(j:Nat):D:= .sub j ep m lo hi
@[go_sem] theorem Um (ep m lo hi j : Nat) : Rb ep m lo hi j = .sub j ep m lo hi := (rfl)
@[go_sem] theorem Xc (id ep m lo hi : Nat) : ren f n (.sub id ep m lo hi) = (f id).map (Rb ep m lo hi) := by cases n <;> rfl
@[go_sem] theorem Rc (g : Nat) (cs : List D) : ren f (n + 1) (.fn g cs) = (bn (ren f n) cs).map (.fn g) := (rfl)
@[go_sem] theorem Xd (cs : List D) : ren f (n + 1) (.agg cs) = (bn (ren f n) cs).map .agg := (rfl)
@[go_sem] theorem Xe (cs : List D) : ren f (n + 1) (.tup cs) = (bn (ren f n) cs).map .tup := (rfl)
@[go_sem] theorem mm (ts : List T) : bn (ren f n) (ts.map .t) = some (ts.map .t) := by
 induction ts with
 | nil=>rfl
 | cons t ts ih=>rw[List.map_cons,wm,W6,Option.bind_some,I8,ih];rfl
@[go_sem] theorem GR (m : Nat) (x : T) : bn (ren f n) (List.replicate m (.t x)) = some (List.replicate m (.t x)) := by
 have:List.replicate m (D.t x)=(List.replicate m x).map .t:=by simp
 rw[this,mm]
@[go_sem] theorem Ad (cs : List D) : dZ f (.box cs) = (bn (ren f 8) cs).map .box := (rfl)
@[go_sem] theorem Ng (sz ep : Nat) (pin : Bool) (es : List D) : dZ f (.arr sz pin ep es) = (bn (ren f 8) es).map (.arr sz pin ep) := (rfl)
end
def Nh(x:Option Nat):Bool→Option Nat
 | true=>some 0
 | false=>x.map (· +1)
@[go_sem] theorem YP (x : Option Nat) : Nh x true = some 0 := (rfl)
@[go_sem] theorem YQ (k : Nat) : Nh (some k) false = some (k + 1) := (rfl)
@[go_sem] theorem YR : Nh none false = none := (rfl)
@[go_sem] theorem idxOf_nil (i : Nat) : idxOf [] i = none := (rfl)
@[go_sem] theorem idxOf_cons (j i : Nat) (r : List Nat) : idxOf (j :: r) i = Nh (idxOf r i) (eqB j i) := by
 simp only[idxOf,xU]
 by_cases h:j=i
 · simp[h,Nh]
 · simp[h,Nh]
@[go_sem] theorem Ni (n i : Nat) : cL [] n i = some (n + i) := by simp [cL]
@[go_sem] theorem Un (j n : Nat) (r : List Nat) : cL (j :: r) n 0 = some j := by simp [cL]
@[go_sem] theorem Uo (j n i : Nat) (r : List Nat) : cL (j :: r) n (i + 1) = cL r n i := by
 simp only[cL,List.length_cons,Nat.add_lt_add_iff_right,List.getElem?_cons_succ,Nat.add_sub_add_right]
@[go_sem] theorem JJ {α : Type} (H os : List α) : bX H [] os = H := by cases os <;> rfl
@[go_sem] theorem GS {α : Type} (H : List α) (i : Nat) (r : List Nat) (o : α) (os : List α) : bX H (i :: r) (o :: os) = bX (H.set i o) r os := (rfl)
def lbP(sz:Nat)(p:List D×ab):List D×ab:=(p.1,.arr sz false 0 []::p.2)
@[go_sem] theorem YS (sz : Nat) (cs : List D) (os : ab) : lbP sz (cs, os) = (cs, .arr sz false 0 [] :: os) := (rfl)
def lbC(base:Nat)(cs:List D)(off sz:Nat)(r:List (Nat×Nat)):Option D→List D×ab
 | some .nil=>lbP sz (bg (base+1) (cs.set off (.ref base 0 0)) r)
 | _=>bg base cs r
@[go_sem] theorem Xf (base : Nat) (cs : List D) (off sz : Nat) (r : List (Nat × Nat)) : lbC base cs off sz r (some .nil) = lbP sz (bg (base + 1) (cs.set off (.ref base 0 0)) r) := (rfl)
@[go_sem] theorem ZV (base : Nat) (cs : List D) (off sz : Nat) (r : List (Nat × Nat)) (x : T) : lbC base cs off sz r (some (.t x)) = bg base cs r := (rfl)
@[go_sem] theorem Xg (base : Nat) (cs : List D) (off sz : Nat) (r : List (Nat × Nat)) (a b c : Nat) : lbC base cs off sz r (some (.ref a b c)) = bg base cs r := (rfl)
@[go_sem] theorem GU (base : Nat) (cs : List D) (off sz : Nat) (r : List (Nat × Nat)) : bg base cs ((off, sz) :: r) = lbC base cs off sz r cs[off]? := by
 simp only[bg,lbC]
 split<;>split<;>simp_all [lbP]
def lvP(H:ab)(id:Nat)(p:List D×ab):Option (D×ab):=some (.tup [],H.set id (.box p.1)++p.2)
@[go_sem] theorem YT (H : ab) (id : Nat) (cs : List D) (os : ab) : lvP H id (cs, os) = some (.tup [], H.set id (.box cs) ++ os) := (rfl)
def lvB(H:ab)(id:Nat)(l:List (Nat×Nat)):Option Obj→Option (D×ab)
 | some (.box cs)=>lvP H id (bg H.length cs l)
 | _=>none
@[go_sem] theorem YU (H : ab) (id : Nat) (l : List (Nat × Nat)) (cs : List D) : lvB H id l (some (.box cs)) = lvP H id (bg H.length cs l) := (rfl)
@[go_sem] theorem JK (H : ab) (id : Nat) (x : Nat × Nat) (r : List (Nat × Nat)) : tW H id (x :: r) = lvB H id (x :: r) H[id]? := by
 simp only[tW,kf]
 generalize H[id]?=o
 rcases o with _ | (cs | _)
 · rfl
 · rfl
 · rfl
section
variable (H : ab)
def klE(n:Nat)(sel new:List Nat)(os:ab)(q:List Nat×ab):Option (List Nat×ab):=some (new++q.1,os++q.2)
@[go_sem] theorem YV (n : Nat) (sel new : List Nat) (os : ab) (a : List Nat) (b : ab) : klE n sel new os (a, b) = some (new ++ a, os ++ b) := (rfl)
def klD(n:Nat)(sel new:List Nat)(os:ab):Option (List Nat×ab):=(jh H n (sel++new) (iM H new)).bind (klE n sel new os)
@[go_sem] theorem YW (n : Nat) (sel new : List Nat) (os : ab) : klD H n sel new os = (jh H n (sel ++ new) (iM H new)).bind (klE n sel new os) := (rfl)
def qs(sel:List Nat):List Nat→Bool
 | []=>true
 | i::r=> !xh i sel&&qs sel r
@[go_sem] theorem Nj (sel : List Nat) : qs sel [] = true := (rfl)
@[go_sem] theorem JL (sel : List Nat) (i : Nat) (r : List Nat) : qs sel (i :: r) = (!xh i sel && qs sel r) := (rfl)
theorem wy(sel l:List Nat):l.all (fun i=> !sel.contains i)=qs sel l:=by
 induction l with
 | nil=>rfl
 | cons i r ih=>rw[List.all_cons,ih,uP];rfl
def klC(n:Nat)(sel new:List Nat)(os:ab):Option (List Nat×ab):=
 (if n=0 then(if(os.flatMap fun o=>o.ds.flatMap (cY H depth)).all (fun i=> !(sel++new).contains i)then bn (cT H) os else none)else some os).bind (klD H n sel new)
def oI:ab→List Nat
 | []=>[]
 | .box cs::r=>mD H 8 cs++oI r
 | .arr _ _ _ es::r=>mD H 8 es++oI r
@[go_sem] theorem Nk : oI H [] = [] := (rfl)
@[go_sem] theorem Nl (cs : List D) (r : ab) : oI H (.box cs :: r) = mD H 8 cs ++ oI H r := (rfl)
@[go_sem] theorem Nn (sz ep : Nat) (pin : Bool) (es : List D) (r : ab) : oI H (.arr sz pin ep es :: r) = mD H 8 es ++ oI H r := (rfl)
theorem Cl(os:ab):(os.flatMap fun o=>o.ds.flatMap (cY H depth))=oI H os:=by
 induction os with
 | nil=>rfl
 | cons o r ih=>rw[List.flatMap_cons,ih];cases o<;>rfl
@[go_sem] theorem ZW (sel new : List Nat) (os : ab) : klC H 0 sel new os = (if qs (sel ++ new) (oI H os) = true then bn (cT H) os else none).bind (klD H 0 sel new) := by
 simp only[klC,Cl,wy,if_true]
@[go_sem] theorem ZX (n : Nat) (sel new : List Nat) (os : ab) : klC H (n + 1) sel new os = klD H (n + 1) sel new os := by
 simp[klC]
def klN(n:Nat)(sel new:List Nat):Option (List Nat×ab):=(pick H new).bind (klC H n sel new)
@[go_sem] theorem YX (n : Nat) (sel new : List Nat) : klN H n sel new = (pick H new).bind (klC H n sel new) := (rfl)
@[go_sem] theorem Up (sel front : List Nat) : jh H 0 sel front = some ([], []) := (rfl)
@[go_sem] theorem Uq (n : Nat) (sel front : List Nat) : jh H (n + 1) sel front = klN H n sel ((cK sel front).drop sel.length) := by
 simp only[jh,klN]
 generalize (cK sel front).drop sel.length=new
 cases pick H new with
 | none=>rfl
 | some os=>
   simp only[Option.bind_some,klC]
   congr 1
   funext os'
   simp only[klD]
   cases jh H n (sel++new) (iM H new)<;>rfl
@[go_sem] theorem E6 (cs : List D) : cT H (.box cs) = (bn (nU H) cs).map .box := (rfl)
@[go_sem] theorem uQ (sz ep : Nat) (pin : Bool) (ts : List T) : cT H (.arr sz pin ep (ts.map .t)) = some (.arr sz pin ep (ts.map .t)) := by
 simp only[cT,oH,Option.map_some]
@[go_sem] theorem E7 (sz ep : Nat) (pin : Bool) : cT H (.arr sz pin ep []) = some (.arr sz pin ep []) := (rfl)
@[go_sem] theorem E8 (sz ep : Nat) (pin : Bool) (m : Nat) (x : T) : cT H (.arr sz pin ep (List.replicate m (.t x))) = some (.arr sz pin ep (List.replicate m (.t x))) := by
 have:List.replicate m (D.t x)=(List.replicate m x).map .t:=by simp
 rw[this,uQ]
def Xh(k raw:Nat)(H:ab)(ds rs:List D)(q:List Nat×ab):Option (D×ab):=
 if qs (List.range k++q.1) (fF H raw ds)=true then
  (bn (ren (idxOf (List.range k++q.1)) depth) rs).bind fun rs'=>(bn (dZ (idxOf (List.range k++q.1))) (H.take k++q.2)).map fun hs'=>(qJ rs',hs')
 else none
def Cm(sel:List Nat)(H2:ab)(rs':List D):Option (D×ab):=(bn (dZ (idxOf sel)) H2).bind (finT3 rs')
where finT3 (rs':List D) (hs:ab):Option (D×ab):=some (qJ rs',hs)
@[go_sem] theorem Ur (rs' : List D) (hs : ab) : Cm.finT3 rs' hs = some (qJ rs', hs) := (rfl)
@[go_sem] theorem Us (sel : List Nat) (H2 : ab) (rs' : List D) : Cm sel H2 rs' = (bn (dZ (idxOf sel)) H2).bind (Cm.finT3 rs') := (rfl)
@[go_sem] theorem Xi (k raw : Nat) (ds rs : List D) (sel : List Nat) (os : ab) : Xh k raw H ds rs (sel, os) =
 if qs (List.range k++sel) (fF H raw ds)=true then(bn (ren (idxOf (List.range k++sel)) 8) rs).bind (Cm (List.range k++sel) (H.take k++os))else none:=by
 simp only[Xh,depth]
 split
 · cases bn (ren (idxOf (List.range k++sel)) 8) rs with
   | none=>rfl
   | some rs'=>simp only[Option.bind_some,Cm];cases bn (dZ (idxOf (List.range k++sel))) (H.take k++os)<;>rfl
 · rfl
@[go_sem] theorem Xj (k raw : Nat) (ds rs : List D) : Ua k raw H ds rs = (jh H (max raw 1) (List.range k) (qO 8 rs ++ iM H (List.range k))).bind (Xh k raw H ds rs) := by
 simp only[Ua,wy,qO,depth];rfl
@[go_sem] theorem No (k raw : Nat) (ds rs : List D) : M6 k raw H ds rs false = Ua k raw H ds rs := (rfl)
@[go_sem] theorem Np (k raw : Nat) (ds : List D) : finish k (raw + 1) H ds = QS k (raw + 1) H ds ds := by
 simp only[finish,Nat.add_one_ne_zero,if_false,Option.bind_some,iK,y8,QS,M6]
 show(if(dL k 8 ds&&dr k (H.take k))=true then _ else _)=_
 cases (dL k 8 ds&&dr k (H.take k))<;>rfl
@[go_sem] theorem JM (raw : Nat) (ds : List D) : fF H (raw + 1) ds = [] := by simp [fF]
@[go_sem] theorem Ut : max 0 1 = 1 := (rfl)
@[go_sem] theorem Xk (r : Nat) : max (r + 1) 1 = r + 1 := by omega
@[go_sem] theorem Nq : List.range 0 = [] := (rfl)
@[go_sem] theorem Nr : List.range 1 = [0] := (rfl)
@[go_sem] theorem Ns : List.range 2 = [0, 1] := (rfl)
@[go_sem] theorem Nt : List.range 3 = [0, 1, 2] := (rfl)
@[go_sem] theorem Nu : List.range 4 = [0, 1, 2, 3] := (rfl)
end
theorem zj{α:Type}(f:α→T)(l:List α)(i:Nat)(x:α)(y:D)(h:y= .t (f x)):((l.map f).map D.t).set i y=((l.set i x).map f).map D.t:=by
 rw[h,List.map_map,List.map_map]
 exact(List.map_set (f:=D.t ∘ f)).symm
@[go_sem] theorem Xl (l : List Int) (i : Nat) (k : IntKind) (x : Int) : ((l.map (T.int k)).map D.t).set i (.t (.int k x)) = ((l.set i x).map (T.int k)).map D.t := zj _ l i x _ rfl
@[go_sem] theorem q7 (l : List Bool) (i : Nat) (x : Bool) : ((l.map T.bool).map D.t).set i (.t (.bool x)) = ((l.set i x).map T.bool).map D.t := zj _ l i x _ rfl
end Go.Ev
namespace Go.Ev
class Lib where
 fs:Nat→Option Fn
end Go.Ev
namespace Go.Ev.K
abbrev u(x:O):R:={ o:=x}
abbrev w(n:Nat)(x:O):R:={ o:=x,d:=some n}
abbrev y(n:Nat)(b:Bool)(x:O):R:={ o:=x,g:=some (n,b)}
abbrev m(x:X):R:={ o:= .mv x}
abbrev g(x:X):R:={ o:= .ld x 1 false}
abbrev h(n:Nat)(x:X):R:={ o:= .ld x n true}
abbrev f(n:Nat)(x:X):R:={ o:= .fa x n}
abbrev a(n:Nat)(x z:X):R:={ o:= .ia x z n}
abbrev l0:X:= .l 0
abbrev l1:X:= .l 1
abbrev l2:X:= .l 2
abbrev l3:X:= .l 3
abbrev l4:X:= .l 4
abbrev l5:X:= .l 5
abbrev l6:X:= .l 6
abbrev l7:X:= .l 7
abbrev l8:X:= .l 8
abbrev l9:X:= .l 9
abbrev l10:X:= .l 10
abbrev l11:X:= .l 11
abbrev v0:X:= .v 0
abbrev v1:X:= .v 1
abbrev v2:X:= .v 2
abbrev v3:X:= .v 3
abbrev v4:X:= .v 4
abbrev v5:X:= .v 5
abbrev v6:X:= .v 6
abbrev v7:X:= .v 7
abbrev v8:X:= .v 8
abbrev v9:X:= .v 9
abbrev v10:X:= .v 10
abbrev v11:X:= .v 11
abbrev v12:X:= .v 12
abbrev v13:X:= .v 13
abbrev v14:X:= .v 14
abbrev v15:X:= .v 15
abbrev v16:X:= .v 16
abbrev v17:X:= .v 17
abbrev v18:X:= .v 18
abbrev v19:X:= .v 19
abbrev v20:X:= .v 20
abbrev v21:X:= .v 21
abbrev v22:X:= .v 22
abbrev v23:X:= .v 23
end Go.Ev.K
namespace Go.Ev.N
def xW:Nat:=0
def ec:Nat:=1
def JN:Nat:=2
def fA:Nat:=3
def bL:Nat:=4
def Nv:Nat:=5
def Ba:Nat:=6
def Cn:Nat:=7
def Bb:Nat:=8
def aD:Nat:=9
def bu:Nat:=10
def Ae:Nat:=11
def fX:Nat:=12
def DR:Nat:=13
def Co:Nat:=14
def aW:Nat:=15
def DT:Nat:=16
def JO:Nat:=17
def GV:Nat:=18
def eH:Nat:=19
def DU:Nat:=20
def Re:Nat:=21
def GW:Nat:=22
def fE:Nat:=23
def GX:Nat:=24
def Cp:Nat:=25
def DV:Nat:=26
def DW:Nat:=27
def dD:Nat:=28
def JP:Nat:=29
def Rf:Nat:=30
def JQ:Nat:=31
def Nw:Nat:=32
def JR:Nat:=33
def GY:Nat:=34
def dN:Nat:=35
def eI:Nat:=36
def Nx:Nat:=37
def JS:Nat:=38
def Cq:Nat:=39
def Ny:Nat:=40
def JT:Nat:=41
def Nz:Nat:=42
def JU:Nat:=43
def dO:Nat:=44
def Rg:Nat:=45
def GZ:Nat:=46
def cP:Nat:=47
def DX:Nat:=48
def av:Nat:=49
def Af:Nat:=50
def az:Nat:=51
def Bc:Nat:=52
def cZ:Nat:=53
def eW:Nat:=54
def NA:Nat:=55
def dP:Nat:=56
def eJ:Nat:=57
def eK:Nat:=58
def NB:Nat:=59
def JV:Nat:=60
def NC:Nat:=61
def DY:Nat:=62
def ND:Nat:=63
def JW:Nat:=64
def eL:Nat:=65
def aF:Nat:=66
def aU:Nat:=67
def cu:Nat:=68
def ax:Nat:=69
def bR:Nat:=70
def cV:Nat:=71
def JX:Nat:=72
def dV:Nat:=73
def eX:Nat:=74
def aA:Nat:=75
def dQ:Nat:=76
def fN:Nat:=77
end Go.Ev.N
namespace Go.Ev.K
open Go.Ev
def ec:Fn:={ nargs:=1,vars:=[0,2],body:=(.seq (.reg [w 1 (.mv (.b false))] []) (.seq (.reg [m v0,u (.ln l0),u (.bin .leq l0 (.i 400)),w 1 (.mv l0)] []) .ret)),res:=[(1,none)]}
def fA:Fn:={ nargs:=1,vars:=[0,2],body:=(.seq (.reg [w 1 (.mv (.c (.nilp)))] []) (.seq (.reg [m v0,u (.bd [.nil,.t (.int .i64 (0))] [(0,1,.l 0)]),u (.bx l0 2),w 1 (.mv l0)] []) .ret)),res:=[(1,none)]}
def ew:C:=(.seq (.ite [m v4,m v3,u (.bin .lss l1 l0)] [] 0 .skip (.exit 0)) (.seq (.blk 1 (.reg [f 0 v2,g l0,m v0,u (.ca N.aD 0 [] [.l 0,.i 4]),u (.bin .mul (.i (-10)) l0),m v4,u (.bin .eql l0 (.i 0)),m l0,y 0 false (.mv v0),y 1 false (.ca N.aW 0 [] [.l 0,.i 6]),u (.pk l2 (.b true) l0),u (.bd [.t (.int .i64 (0)),.t (.bool false)] [(0,1,.l 6),(1,1,.l 0)]),u (.bs [.l 0] 2),u (.app l11 l0 true 2),f 0 v2,u (.st l0 l1 1 [])] [(1,4),(1,10),(1,13)])) (.reg [m v4,u (.bin .add l0 (.i 1)),w 4 (.mv l0)] [])))
def jS:C:= .loop true [5,6,7,8,9] K.ew
def fY:C:=(.seq (.ite [m v6,m v3,u (.bin .lss l1 l0)] [] 0 .skip (.exit 2)) (.seq (.blk 3 (.seq (.reg [h 10 v5,w 7 (.al [.t (.int .i64 (0)),.t (.int .i64 (0)),.t (.int .i64 (0)),.t (.int .i64 (0)),.t (.bool false),.t (.bool false),.t (.int .i64 (0)),.t (.int .i64 (0)),.t (.int .i64 (0)),.t (.int .i64 (0))] []),u (.st l0 l1 10 [])] []) (.seq (.reg [m v6,u (.bin .sub l0 (.i 1)),m v0,m v6,u (.mn [.l 0,.i 2]),u (.ca N.aD 0 [] [.l 2,.l 0]),u (.bin .sub l4 l0),m v6,m v0,u (.bs [.i 11,.i 59,.i 119,.i 4] 1),u (.ca N.bu 0 [] [.l 1,.l 0]),u (.bin .add (.i 1) l0),m v0,u (.bs [.i 9,.i 3,.i 19] 1),u (.ca N.bu 0 [] [.l 1,.l 0]),u (.bin .add (.i 1) l0),f 0 v7,u (.st l0 l10 1 []),f 1 v7,u (.st l0 l11 1 []),f 2 v7,u (.st l0 l9 1 []),f 3 v7,u (.st l0 l7 1 [])] []) (.reg [f 1 v2,g l0,h 10 v7,u (.bs [.l 0] 10),u (.app l2 l0 true 10),f 1 v2,u (.st l0 l1 1 [])] [])))) (.reg [m v6,u (.bin .add l0 (.i 1)),w 6 (.mv l0)] [])))
def jT:C:= .loop true [4,7,8,9] K.fY
def cj:C:=(.seq (.ite [m v8,u (.bin .gtr l0 (.i 0)),m l0,y 0 true (.fa v2 1),y 1 true (.ld l0 1 false),y 2 true (.ln l0),y 3 true (.bin .lss l0 (.i 10)),u (.pk l4 l0 (.b false))] [] 0 .skip (.exit 4)) (.seq (.blk 5 (.seq (.reg [h 10 v5,w 9 (.al [.t (.int .i64 (0)),.t (.int .i64 (0)),.t (.int .i64 (0)),.t (.int .i64 (0)),.t (.bool false),.t (.bool false),.t (.int .i64 (0)),.t (.int .i64 (0)),.t (.int .i64 (0)),.t (.int .i64 (0))] []),u (.st l0 l1 10 [])] []) (.seq (.reg [m v0,m v3,u (.ca N.aD 0 [] [.l 1,.l 0]),m v0,m v3,u (.ca N.aD 0 [] [.l 1,.l 0]),m v0,u (.bs [.i 11,.i 59,.i 199] 1),u (.ca N.bu 0 [] [.l 1,.l 0]),u (.bin .add (.i 1) l0),m v0,u (.bs [.i 9,.i 3] 1),u (.ca N.bu 0 [] [.l 1,.l 0]),u (.bin .add (.i 1) l0),f 0 v9,u (.st l0 (.l 12) 1 []),f 1 v9,u (.st l0 l11 1 []),f 2 v9,u (.st l0 l9 1 []),f 3 v9,u (.st l0 l7 1 [])] []) (.seq (.reg [m v0,u (.ca N.aD 0 [] [.l 0,.i 5]),u (.bin .gtr l0 (.i 0)),m v0,u (.ca N.aW 0 [] [.l 0,.i 6]),f 4 v9,u (.st l0 l3 1 []),f 5 v9,u (.st l0 l3 1 [])] []) (.ite [f 0 v9,g l0,f 1 v9,g l0,u (.bin .neq l2 l0)] [] 0 (.reg [f 1 v2,g l0,h 10 v9,u (.bs [.l 0] 10),u (.app l2 l0 true 10),f 1 v2,u (.st l0 l1 1 [])] []) .skip))))) (.reg [m v8,u (.bin .sub l0 (.i 1)),w 8 (.mv l0)] [])))
def jU:C:= .loop true [4,6,7,9] K.cj
def bL:Fn:={ nargs:=1,vars:=[0,2,3,4,5,6,7,8,9,10],body:=(.seq (.reg [w 1 (.al [.nil,.nil] [])] []) (.seq (.reg [w 2 (.al [.nil,.nil] [(0,2),(1,10)])] []) (.seq (.reg [m v0,u (.ca N.aD 0 [] [.l 0,.i 6]),u (.bin .add (.i 2) l0),w 3 (.mv l0)] []) (.seq (.ite [m v0,u (.nc l0),f 0 l0,g l0,u (.ln l0),u (.bin .eql l0 (.i 0))] [] 0 (.reg [w 3 (.mv (.i 4))] []) .skip) (.seq (.seq (.reg [w 4 (.mv (.i 0))] []) (.blk 0 K.jS)) (.seq (.reg [u (.bd [.t (.int .i64 (0)),.t (.int .i64 (0))] [(0,1,.i 1),(1,1,.i 1)]),u (.bd [.t (.int .i64 (0)),.t (.int .i64 (0)),.t (.int .i64 (0)),.t (.int .i64 (0)),.t (.bool false),.t (.bool false),.t (.int .i64 (0)),.t (.int .i64 (0)),.t (.int .i64 (0)),.t (.int .i64 (0))] [(2,1,.i 12),(3,1,.i 10),(4,1,.b true),(6,2,.l 0)]),w 5 (.al [.t (.int .i64 (0)),.t (.int .i64 (0)),.t (.int .i64 (0)),.t (.int .i64 (0)),.t (.bool false),.t (.bool false),.t (.int .i64 (0)),.t (.int .i64 (0)),.t (.int .i64 (0)),.t (.int .i64 (0))] []),u (.st l0 l1 10 [])] []) (.seq (.seq (.reg [w 6 (.mv (.i 1))] []) (.blk 2 K.jT)) (.seq (.seq (.reg [m v0,u (.ca N.aD 0 [] [.l 0,.i 4]),w 8 (.mv l0)] []) (.blk 4 K.jU)) (.seq (.reg [h 2 v2,u (.st v1 l0 2 [])] []) .ret))))))))),res:=[(1,some (2,true))]}
def aD:Fn:={ nargs:=2,vars:=[0,1,4],body:=(.seq (.reg [w 2 (.mv (.i 0))] []) (.seq (.ite [m v0,u (.nc l0),f 1 l0,g l0,m v0,u (.nc l0),f 0 l0,g l0,u (.ln l0),u (.bin .geq l5 l0)] [] 0 (.seq (.reg [w 2 (.mv (.i 0))] []) .ret) .skip) (.seq (.reg [m v0,u (.nc l0),f 1 l0,g l0,u (.bin .add l0 (.i 1)),u (.nc l4),f 1 l0,u (.st l0 l2 1 [])] []) (.seq (.reg [m v0,u (.nc l0),f 0 l0,g l0,m v0,u (.nc l0),f 1 l0,g l0,u (.bin .sub l0 (.i 1)),a 1 l5 l0,g l0,m v1,u (.ca N.fE 0 [] [.l 1,.l 0]),w 2 (.mv l0)] []) .ret)))),res:=[(2,none)]}
def bu:Fn:={ nargs:=2,vars:=[0,1,4],body:=(.seq (.reg [w 2 (.mv (.i 0))] []) (.seq (.reg [m v1,m v0,m v1,u (.ln l0),u (.ca N.aD 0 [] [.l 2,.l 0]),a 1 l4 l0,g l0,w 2 (.mv l0)] []) .ret)),res:=[(2,none)]}
def uR:C:=(.seq (.ite [m v3,m v0,u (.ln l0),u (.bin .lss l2 l0)] [] 0 .skip (.exit 0)) (.seq (.blk 1 (.ite [m v0,m v3,a 1 l1 l0,g l0,m v1,u (.bin .eql l1 l0)] [] 0 (.seq (.reg [w 2 (.mv (.b true))] []) .ret) .skip)) (.reg [m v3,u (.bin .add l0 (.i 1)),w 3 (.mv l0)] [])))
def wz:C:= .loop true [2] K.uR
def fX:Fn:={ nargs:=2,vars:=[0,1,4,5],body:=(.seq (.reg [w 2 (.mv (.b false))] []) (.seq (.seq (.reg [w 3 (.mv (.i 0))] []) (.blk 0 K.wz)) (.seq (.reg [w 2 (.mv (.b false))] []) .ret))),res:=[(2,none)]}
def aW:Fn:={ nargs:=2,vars:=[0,1,4],body:=(.seq (.reg [w 2 (.mv (.b false))] []) (.seq (.reg [m v0,m v1,u (.ca N.aD 0 [] [.l 1,.l 0]),m v1,u (.bin .sub l0 (.i 1)),u (.bin .eql l2 l0),w 2 (.mv l0)] []) .ret)),res:=[(2,none)]}
def r6:C:=(.seq (.ite [m v8,m v1,u (.ln l0),u (.bin .lss l2 l0)] [] 0 .skip (.exit 0)) (.seq (.blk 1 (.seq (.reg [w 9 (.al [.t (.int .i64 (0)),.nil] []),h 2 v4,m v2,m v8,a 1 l1 l0,g l0,m v3,u (.ca N.eI 0 [] [.l 5,.l 1,.l 0]),m l0,u (.ex l0 0),u (.ex l1 1),u (.st l10 l1 2 []),w 10 (.mv l1)] [(0,8)]) (.seq (.ite [m v10,u (.bin .neq l0 (.i 0))] [] 0 (.seq (.reg [u (.bd [.nil] []),m v10,u (.st v5 l1 1 []),w 6 (.mv l1)] []) .ret) .skip) (.reg [f 1 v7,g l0,h 2 v9,u (.bs [.l 0] 2),u (.app l2 l0 true 2),f 1 v7,u (.st l0 l1 1 [])] [])))) (.reg [m v8,u (.bin .add l0 (.i 1)),w 8 (.mv l0)] [])))
def sY:C:= .loop true [0,6,9,10] K.r6
def eH:Fn:={ nargs:=4,vars:=[0,1,2,3,4,8,9,10,11,12,13],body:=(.seq (.reg [w 4 (.bx v0 2),w 5 (.al [.nil] []),w 6 (.mv (.i 0))] []) (.seq (.ite [h 2 v4,u (.ca N.dD 0 [] [.l 0]),u (.bin .neq l0 (.i 0)),m l0,y 0 false (.mv v1),y 1 false (.ln l0),y 2 false (.mv v2),y 3 false (.ln l0),y 4 false (.bin .neq l2 l0),u (.pk l5 (.b true) l0),m l0,y 0 false (.mv v1),y 1 false (.ln l0),y 2 false (.bin .lss l0 (.i 1)),u (.pk l3 (.b true) l0),m l0,y 0 false (.mv v1),y 1 false (.ln l0),y 2 false (.bin .gtr l0 (.i 12)),u (.pk l3 (.b true) l0)] [] 0 (.seq (.reg [u (.bd [.nil] []),u (.st v5 l0 1 []),w 6 (.mv (.i 6))] []) .ret) .skip) (.seq (.ite [m v1,u (.ca N.dN 0 [] [.l 0]),u (.un .not l0)] [] 0 (.seq (.reg [u (.bd [.nil] []),u (.st v5 l0 1 []),w 6 (.mv (.i 41))] []) .ret) .skip) (.seq (.reg [m v1,u (.app (.c (.nil)) l0 true 1),u (.bd [.nil,.nil] [(0,1,.l 0)]),w 7 (.al [.nil,.nil] [(1,2)]),u (.st l0 l1 2 [(1,2)])] []) (.seq (.seq (.reg [w 8 (.mv (.i 0))] []) (.blk 0 K.sY)) (.seq (.reg [h 2 v7,u (.bs [.l 0] 2),u (.bd [.nil] [(0,1,.l 0)]),u (.st v5 l0 1 []),w 6 (.mv (.i 0))] []) .ret)))))),res:=[(5,some (1,true)),(6,none)]}
def fE:Fn:={ nargs:=2,vars:=[0,1,4],body:=(.seq (.reg [w 2 (.mv (.i 0))] []) (.seq (.ite [m v1,u (.bin .lss l0 (.i 1))] [] 0 (.seq (.reg [w 2 (.mv (.i 0))] []) .ret) .skip) (.seq (.reg [m v0,m v1,u (.bin .rem l1 l0),w 0 (.mv l0)] []) (.seq (.ite [m v0,u (.bin .lss l0 (.i 0))] [] 0 (.reg [m v0,m v1,u (.bin .add l1 l0),w 0 (.mv l0)] []) .skip) (.seq (.reg [m v0,w 2 (.mv l0)] []) .ret))))),res:=[(2,none)]}
def r7:C:=(.seq (.ite [m v3,f 0 v1,g l0,u (.ln l0),u (.bin .lss l3 l0)] [] 0 .skip (.exit 0)) (.seq (.blk 1 (.seq (.reg [f 0 v1,g l0,m v3,a 2 l1 l0,f 0 l0,g l0,w 4 (.mv l0)] []) (.ite [m v4,u (.bin .lss l0 (.i (-10000))),m l0,y 0 false (.mv v4),y 1 false (.bin .gtr l0 (.i 10000)),u (.pk l2 (.b true) l0)] [] 0 (.seq (.reg [w 2 (.mv (.i 1))] []) .ret) .skip))) (.reg [m v3,u (.bin .add l0 (.i 1)),w 3 (.mv l0)] [])))
def s4:C:= .loop true [0,2,4,5,6] K.r7
def r8:C:=(.seq (.ite [m v5,f 1 v1,g l0,u (.ln l0),u (.bin .lss l3 l0)] [] 0 .skip (.exit 2)) (.seq (.blk 3 (.seq (.reg [f 1 v1,g l0,m v5,a 10 l1 l0,h 10 l0,w 6 (.al [.t (.int .i64 (0)),.t (.int .i64 (0)),.t (.int .i64 (0)),.t (.int .i64 (0)),.t (.bool false),.t (.bool false),.t (.int .i64 (0)),.t (.int .i64 (0)),.t (.int .i64 (0)),.t (.int .i64 (0))] []),u (.st l0 l1 10 [])] []) (.seq (.ite [f 0 v6,g l0,u (.bin .lss l0 (.i 0)),m l0,y 0 false (.fa v6 0),y 1 false (.ld l0 1 false),y 2 false (.fa v1 0),y 3 false (.ld l0 1 false),y 4 false (.ln l0),y 5 false (.bin .geq l3 l0),u (.pk l6 (.b true) l0),m l0,y 0 false (.fa v6 1),y 1 false (.ld l0 1 false),y 2 false (.bin .lss l0 (.i 0)),u (.pk l3 (.b true) l0),m l0,y 0 false (.fa v6 1),y 1 false (.ld l0 1 false),y 2 false (.fa v1 0),y 3 false (.ld l0 1 false),y 4 false (.ln l0),y 5 false (.bin .geq l3 l0),u (.pk l6 (.b true) l0),m l0,y 0 false (.fa v6 0),y 1 false (.ld l0 1 false),y 2 false (.fa v6 1),y 3 false (.ld l0 1 false),y 4 false (.bin .eql l2 l0),u (.pk l5 (.b true) l0)] [] 0 (.seq (.reg [w 2 (.mv (.i 4))] []) .ret) .skip) (.ite [f 2 v6,g l0,u (.bin .lss l0 (.i 1)),m l0,y 0 false (.fa v6 2),y 1 false (.ld l0 1 false),y 2 false (.bin .gtr l0 (.i 100000)),u (.pk l3 (.b true) l0),m l0,y 0 false (.fa v6 3),y 1 false (.ld l0 1 false),y 2 false (.bin .lss l0 (.i 1)),u (.pk l3 (.b true) l0),m l0,y 0 false (.fa v6 3),y 1 false (.ld l0 1 false),y 2 false (.bin .gtr l0 (.i 1000)),u (.pk l3 (.b true) l0),m l0,y 0 false (.fa v6 6),y 1 false (.ld l0 2 true),y 2 false (.ca N.eW 0 [] [.l 0,.i 1,.i 262144]),y 3 false (.un .not l0),u (.pk l4 (.b true) l0),m l0,y 0 false (.fa v6 8),y 1 false (.ld l0 2 true),y 2 false (.ca N.eW 0 [] [.l 0,.i (-2199023255552),.i 2199023255552]),y 3 false (.un .not l0),u (.pk l4 (.b true) l0)] [] 0 (.seq (.reg [w 2 (.mv (.i 1))] []) .ret) .skip)))) (.reg [m v5,u (.bin .add l0 (.i 1)),w 5 (.mv l0)] [])))
def s5:C:= .loop true [0,2,3,4,6] K.r8
def dD:Fn:={ nargs:=1,vars:=[0,1,2,3,4,5,6],body:=(.seq (.reg [w 1 (.bx v0 2),w 2 (.mv (.i 0))] []) (.seq (.ite [f 0 v1,g l0,u (.ln l0),u (.bin .gtr l0 (.i 64)),m l0,y 0 false (.fa v1 1),y 1 false (.ld l0 1 false),y 2 false (.ln l0),y 3 false (.bin .gtr l0 (.i 128)),u (.pk l4 (.b true) l0)] [] 0 (.seq (.reg [w 2 (.mv (.i 2))] []) .ret) .skip) (.seq (.seq (.reg [w 3 (.mv (.i 0))] []) (.blk 0 K.s4)) (.seq (.seq (.reg [w 5 (.mv (.i 0))] []) (.blk 2 K.s5)) (.seq (.reg [w 2 (.mv (.i 0))] []) .ret))))),res:=[(2,none)]}
def qP:C:=(.seq (.ite [m v2,m v0,u (.ln l0),u (.bin .lss l2 l0)] [] 0 .skip (.exit 0)) (.seq (.blk 1 (.ite [m v0,m v2,a 1 l1 l0,g l0,u (.bin .lss l0 (.i 1)),m l0,y 0 false (.mv v0),y 1 false (.mv v2),y 2 false (.ia l1 l0 1),y 3 false (.ld l0 1 false),y 4 false (.bin .gtr l0 (.i 65535)),u (.pk l5 (.b true) l0),m l0,y 0 false (.mv v0),y 1 false (.mv v2),y 2 false (.sc l1 none (some l0) 1),y 3 false (.mv v0),y 4 false (.mv v2),y 5 false (.ia l1 l0 1),y 6 false (.ld l0 1 false),y 7 false (.ca N.dO 0 [] [.l 4,.l 0]),y 8 false (.bin .geq l0 (.i 0)),u (.pk l9 (.b true) l0)] [] 0 (.seq (.reg [w 1 (.mv (.b false))] []) .ret) .skip)) (.reg [m v2,u (.bin .add l0 (.i 1)),w 2 (.mv l0)] [])))
def r9:C:= .loop true [1] K.qP
def dN:Fn:={ nargs:=1,vars:=[0,2,3],body:=(.seq (.reg [w 1 (.mv (.b false))] []) (.seq (.seq (.reg [w 2 (.mv (.i 0))] []) (.blk 0 K.r9)) (.seq (.reg [w 1 (.mv (.b true))] []) .ret))),res:=[(1,none)]}
def eI:Fn:={ nargs:=3,vars:=[0,1,2,3,6,7,8],body:=(.seq (.reg [w 3 (.bx v0 2),w 4 (.al [.t (.int .i64 (0)),.nil] []),w 5 (.mv (.i 0))] []) (.seq (.blk 0 (.ite [h 2 v3,u (.ca N.dD 0 [] [.l 0]),u (.bin .neq l0 (.i 0)),m l0] [] 0 (.seq (.reg [u (.bd [.t (.int .i64 (0)),.nil] []),u (.st v4 l0 2 []),w 5 (.mv (.i 6))] []) .ret) (.ite [m v1,u (.bin .lss l0 (.i 0)),m l0,y 0 false (.mv v1),y 1 false (.fa v3 0),y 2 false (.ld l0 1 false),y 3 false (.ln l0),y 4 false (.bin .geq l3 l0),u (.pk l5 (.b true) l0),m l0] [] 0 (.seq (.reg [u (.bd [.t (.int .i64 (0)),.nil] []),u (.st v4 l0 2 []),w 5 (.mv (.i 3))] []) .ret) (.ite [m v2,u (.ca N.dP 0 [] [.l 0]),u (.un .not l0),m l0] [] 0 (.seq (.reg [u (.bd [.t (.int .i64 (0)),.nil] []),u (.st v4 l0 2 []),w 5 (.mv (.i 8))] []) .ret) .skip)))) (.seq (.reg [f 0 v3,g l0,u (.ln l0),u (.ca N.eJ 1 [] [.l 0]),w 6 (.mv l0)] []) (.seq (.reg [m v6,m v1,m v2,a 1 l2 l1,u (.st l0 l1 1 [])] []) (.seq (.reg [m v2,h 2 v3,m v6,m v2,u (.ca N.eK 0 [] [.l 2,.l 1,.l 0]),u (.bd [.t (.int .i64 (0)),.nil] [(0,1,.l 4),(1,1,.l 0)]),u (.st v4 l0 2 []),w 5 (.mv (.i 0))] []) .ret))))),res:=[(4,some (2,true)),(5,none)]}
end Go.Ev.K
namespace Go.Ev
class bQ [Lib]:Prop where
 lA:Lib.fs N.ec=some K.ec
 nz:Lib.fs N.fA=some K.fA
 hX:Lib.fs N.bL=some K.bL
 ib:Lib.fs N.aD=some K.aD
 jx:Lib.fs N.bu=some K.bu
 sg:Lib.fs N.fX=some K.fX
 iR:Lib.fs N.aW=some K.aW
 oJ:Lib.fs N.eH=some K.eH
 pQ:Lib.fs N.fE=some K.fE
 oK:Lib.fs N.dD=some K.dD
 mX:Lib.fs N.dN=some K.dN
 oL:Lib.fs N.eI=some K.eI
namespace K
variable [Lib] [bQ]
theorem lA:Lib.fs N.ec=some K.ec:=bQ.lA
theorem nz:Lib.fs N.fA=some K.fA:=bQ.nz
theorem hX:Lib.fs N.bL=some K.bL:=bQ.hX
theorem ib:Lib.fs N.aD=some K.aD:=bQ.ib
theorem jx:Lib.fs N.bu=some K.bu:=bQ.jx
theorem sg:Lib.fs N.fX=some K.fX:=bQ.sg
theorem iR:Lib.fs N.aW=some K.aW:=bQ.iR
theorem oJ:Lib.fs N.eH=some K.eH:=bQ.oJ
theorem pQ:Lib.fs N.fE=some K.fE:=bQ.pQ
theorem oK:Lib.fs N.dD=some K.dD:=bQ.oK
theorem mX:Lib.fs N.dN=some K.dN:=bQ.mX
theorem oL:Lib.fs N.eI=some K.eI:=bQ.oL
end K
end Go.Ev
namespace Go.Ev.K
open Go.Ev
def qQ:C:=(.seq (.ite [m v3,m v0,u (.ln l0),u (.bin .lss l2 l0)] [] 0 .skip (.exit 0)) (.seq (.blk 1 (.ite [m v0,m v3,a 1 l1 l0,g l0,m v1,u (.bin .eql l1 l0)] [] 0 (.seq (.reg [m v3,w 2 (.mv l0)] []) .ret) .skip)) (.reg [m v3,u (.bin .add l0 (.i 1)),w 3 (.mv l0)] [])))
def si:C:= .loop true [2] K.qQ
def dO:Fn:={ nargs:=2,vars:=[0,1,4,5],body:=(.seq (.reg [w 2 (.mv (.i 0))] []) (.seq (.seq (.reg [w 3 (.mv (.i 0))] []) (.blk 0 K.si)) (.seq (.reg [w 2 (.mv (.i (-1)))] []) .ret))),res:=[(2,none)]}
def fZ:C:=(.its [u (.bin .lss v6 v5)] [] 0 .skip (.exit 0) (.seq (.blk 1 (.seq (.reg [m v6,w 4 (.mv l0)] []) (.ite [m v1,m v4,u (.cw l1 0 [] [.l 0])] [] 0 (.reg [m v3,m v4,u (.bs [.l 0] 1),u (.app l2 l0 true 1),w 3 (.mv l0)] []) .skip))) (.reg [u (.bin .add v6 (.i 1)),w 6 (.mv l0)] [])))
def mY:C:= .loop true [0,2,4] K.fZ
def cP:Fn:={ nargs:=2,vars:=[0,1,4,5,6,7,8],body:=(.seq (.reg [w 2 (.mv (.c (.nil)))] []) (.seq (.reg [w 3 (.nw 1)] []) (.seq (.seq (.reg [w 5 (.mv v0),w 6 (.mv (.i 0))] []) (.blk 0 K.mY)) (.seq (.reg [m v3,w 2 (.mv l0)] []) .ret)))),res:=[(2,none)]}
def av:Fn:={ nargs:=2,vars:=[0,1,4],body:=(.seq (.reg [w 2 (.mv (.b false))] []) (.seq (.reg [m v0,m v1,u (.ca N.aF 0 [] [.l 1,.l 0]),u (.bin .geq l0 (.i 0)),w 2 (.mv l0)] []) .ret)),res:=[(2,none)]}
def az:Fn:={ nargs:=2,vars:=[0,1,4],body:=(.seq (.reg [w 2 (.mv (.b false))] []) (.seq (.reg [m v0,m v1,u (.ca N.aU 0 [] [.l 1,.l 0]),u (.bin .geq l0 (.i 0)),w 2 (.mv l0)] []) .ret)),res:=[(2,none)]}
def cZ:Fn:={ nargs:=3,vars:=[0,1,2,3,4,5,6],body:=(.seq (.reg [w 3 (.bx v0 1),w 4 (.bx v1 1),w 5 (.bx v2 1),w 6 (.mv (.c (.nil)))] []) (.seq (.reg [u (.mf N.cu [.v 3,.v 4,.v 5]),u (.ca N.cP 0 [] [.i 64,.l 0]),w 6 (.mv l0)] []) .ret)),res:=[(6,none)]}
def eW:Fn:={ nargs:=3,vars:=[0,1,2,3,6],body:=(.seq (.reg [w 3 (.bx v0 2),w 4 (.mv (.b false))] []) (.seq (.reg [m v1,f 0 v3,g l0,u (.bin .leq l2 l0),m l0,y 0 true (.fa v3 0),y 1 true (.ld l0 1 false),y 2 true (.fa v3 1),y 3 true (.ld l0 1 false),y 4 true (.bin .leq l2 l0),u (.pk l5 l0 (.b false)),m l0,y 0 true (.fa v3 1),y 1 true (.ld l0 1 false),y 2 true (.mv v2),y 3 true (.bin .leq l1 l0),u (.pk l4 l0 (.b false)),w 4 (.mv l0)] []) .ret)),res:=[(4,none)]}
def dP:Fn:={ nargs:=1,vars:=[0,2],body:=(.seq (.reg [w 1 (.mv (.b false))] []) (.seq (.reg [m v0,u (.bin .geq l0 (.i 0)),m l0,y 0 true (.mv v0),y 1 true (.bin .leq l0 (.i 2147483648)),u (.pk l2 l0 (.b false)),w 1 (.mv l0)] []) .ret)),res:=[(1,none)]}
def sj:C:=(.seq (.ite [m v3,m v0,u (.bin .lss l1 l0)] [] 0 .skip (.exit 0)) (.seq (.blk 1 (.reg [m v2,u (.bs [.i 1099511627776] 1),u (.app l1 l0 true 1),w 2 (.mv l0)] [])) (.reg [m v3,u (.bin .add l0 (.i 1)),w 3 (.mv l0)] [])))
def s6:C:= .loop true [1] K.sj
def eJ:Fn:={ nargs:=1,vars:=[0,2,3,4],body:=(.seq (.reg [w 1 (.mv (.c (.nil)))] []) (.seq (.reg [w 2 (.nw 1)] []) (.seq (.seq (.reg [w 3 (.mv (.i 0))] []) (.blk 0 K.s6)) (.seq (.reg [m v2,w 1 (.mv l0)] []) .ret)))),res:=[(1,none)]}
def eK:Fn:={ nargs:=3,vars:=[0,1,2,3,6],body:=(.seq (.reg [w 3 (.bx v0 2),w 4 (.mv (.c (.nil)))] []) (.seq (.reg [h 2 v3,m v1,m v2,u (.ca N.eL 0 [3] [.l 2,.l 1,.l 0,.c (.nil)]),w 4 (.mv l0)] []) .ret)),res:=[(4,none)]}
def sk:C:=(.seq (.ite [m v8,f 1 v4,g l0,u (.ln l0),u (.bin .lss l3 l0)] [] 0 .skip (.exit 2)) (.seq (.blk 3 (.seq (.reg [f 1 v4,g l0,m v8,a 10 l1 l0,h 10 l0,w 9 (.al [.t (.int .i64 (0)),.t (.int .i64 (0)),.t (.int .i64 (0)),.t (.int .i64 (0)),.t (.bool false),.t (.bool false),.t (.int .i64 (0)),.t (.int .i64 (0)),.t (.int .i64 (0)),.t (.int .i64 (0))] []),u (.st l0 l1 10 [])] []) (.seq (.ite [m v3,u (.eqk (.sl) false l0 (.c (.nil))),m l0,y 0 false (.mv v3),y 1 false (.fa v9 1),y 2 false (.ld l0 1 false),y 3 false (.ca N.fX 0 [] [.l 2,.l 0]),u (.pk l4 (.b true) l0),m l0,y 0 true (.mv v6),y 1 true (.fa v9 0),y 2 true (.ld l0 1 false),y 3 true (.fa v9 1),y 4 true (.ld l0 1 false),y 5 true (.ld v4 2 true),y 6 true (.mv v8),y 7 true (.ca N.eX 0 [] [.l 1,.l 0,.b false]),y 8 true (.mv v2),y 9 true (.ca N.dV 0 [0] [.l 8,.l 6,.l 4,.l 1,.l 0]),u (.pk l10 l0 (.b false))] [(11,17),(13,17)] 0 (.reg [w 7 (.mv (.b true))] []) .skip) (.ite [m v3,u (.eqk (.sl) false l0 (.c (.nil))),m l0,y 0 false (.mv v3),y 1 false (.fa v9 0),y 2 false (.ld l0 1 false),y 3 false (.ca N.fX 0 [] [.l 2,.l 0]),u (.pk l4 (.b true) l0),m l0,y 0 true (.mv v6),y 1 true (.fa v9 1),y 2 true (.ld l0 1 false),y 3 true (.fa v9 0),y 4 true (.ld l0 1 false),y 5 true (.ld v4 2 true),y 6 true (.mv v8),y 7 true (.ca N.eX 0 [] [.l 1,.l 0,.b true]),y 8 true (.mv v2),y 9 true (.ca N.dV 0 [0] [.l 8,.l 6,.l 4,.l 1,.l 0]),u (.pk l10 l0 (.b false))] [(11,17),(13,17)] 0 (.reg [w 7 (.mv (.b true))] []) .skip)))) (.reg [m v8,u (.bin .add l0 (.i 1)),w 8 (.mv l0)] [])))
def s7:C:= .loop true [0,1,5,9] K.sk
def sn:C:=(.seq (.ite [m v7] [] 0 .skip (.exit 0)) (.blk 1 (.seq (.reg [w 7 (.mv (.b false))] []) (.seq (.reg [w 8 (.mv (.i 0))] []) (.blk 2 K.s7)))))
def s8:C:= .loop true [0,1,5,8,9] K.sn
def eL:Fn:={ nargs:=4,vars:=[0,1,2,3,4,8,9,10,11,12],body:=(.seq (.reg [w 4 (.bx v0 2),w 5 (.mv (.c (.nil)))] []) (.seq (.reg [m v1,u (.app (.c (.nil)) l0 true 1),w 6 (.mv l0)] []) (.seq (.seq (.reg [w 7 (.mv (.b true))] []) (.blk 0 K.s8)) (.seq (.reg [m v6,w 5 (.mv l0)] []) .ret)))),res:=[(5,none)]}
def b8:C:=(.its [u (.bin .lss v5 v4)] [] 0 .skip (.exit 0) (.seq (.blk 1 (.seq (.reg [m v5,w 3 (.mv l0)] []) (.ite [m v1,m v0,m v3,a 1 l1 l0,g l0,u (.cw l4 0 [] [.l 0])] [] 0 (.seq (.reg [m v3,w 2 (.mv l0)] []) .ret) .skip))) (.reg [u (.bin .add v5 (.i 1)),w 5 (.mv l0)] [])))
def eM:C:= .loop true [2,3] K.b8
def aF:Fn:={ nargs:=2,vars:=[0,1,4,5,7,8],body:=(.seq (.reg [w 2 (.mv (.i 0))] []) (.seq (.seq (.reg [m v0,w 4 (.ln l0),w 5 (.mv (.i 0))] []) (.blk 0 K.eM)) (.seq (.reg [w 2 (.mv (.i (-1)))] []) .ret))),res:=[(2,none)]}
def cM:C:=(.its [u (.bin .lss v5 v4)] [] 0 .skip (.exit 0) (.seq (.blk 1 (.seq (.reg [m v5,w 3 (.mv l0)] []) (.ite [m v1,m v0,m v3,a 1 l1 l0,g l0,u (.bin .eql l4 l0)] [] 0 (.seq (.reg [m v3,w 2 (.mv l0)] []) .ret) .skip))) (.reg [u (.bin .add v5 (.i 1)),w 5 (.mv l0)] [])))
def ga:C:= .loop true [2,3] K.cM
def aU:Fn:={ nargs:=2,vars:=[0,1,4,5,7,8],body:=(.seq (.reg [w 2 (.mv (.i 0))] []) (.seq (.seq (.reg [m v0,w 4 (.ln l0),w 5 (.mv (.i 0))] []) (.blk 0 K.ga)) (.seq (.reg [w 2 (.mv (.i (-1)))] []) .ret))),res:=[(2,none)]}
def cu:Fn:={ nargs:=4,vars:=[0,1,2,3,4,5],body:=(.seq (.reg [w 4 (.bx v0 1),w 5 (.mv (.b false))] []) (.seq (.reg [f 0 v1,g l0,u (.mf N.bR [.v 2,.v 4,.v 3]),u (.ca N.ax 0 [] [.l 1,.l 0]),w 5 (.mv l0)] []) .ret)),res:=[(5,none)]}
def ax:Fn:={ nargs:=2,vars:=[0,1,4],body:=(.seq (.reg [w 2 (.mv (.b false))] []) (.seq (.reg [m v0,m v1,u (.ca N.aA 0 [] [.l 1,.l 0]),u (.bin .geq l0 (.i 0)),w 2 (.mv l0)] []) .ret)),res:=[(2,none)]}
def bR:Fn:={ nargs:=4,vars:=[0,1,2,3,4,5],body:=(.seq (.reg [w 4 (.bx v0 2),w 5 (.mv (.b false))] []) (.seq (.reg [g v1,f 1 v4,g l0,u (.ln l0),u (.bin .sub l0 (.i 1)),u (.ca N.cV 0 [] [.l 4,.i 0,.l 0]),m l0,y 0 true (.ld v2 1 false),y 1 true (.fa v4 1),y 2 true (.ld l0 1 false),y 3 true (.ld v1 1 false),y 4 true (.ia l1 l0 2),y 5 true (.fa l0 1),y 6 true (.ld l0 1 false),y 7 true (.ln l0),y 8 true (.bin .lss l7 l0),u (.pk l9 l0 (.b false)),m l0,y 0 true (.fa v4 1),y 1 true (.ld l0 1 false),y 2 true (.ld v1 1 false),y 3 true (.ia l1 l0 2),y 4 true (.fa l0 1),y 5 true (.ld l0 1 false),y 6 true (.ld v2 1 false),y 7 true (.ia l1 l0 1),y 8 true (.ld l0 1 false),y 9 true (.ld v3 1 false),y 10 true (.bin .leq l1 l0),u (.pk l11 l0 (.b false)),w 5 (.mv l0)] []) .ret)),res:=[(5,none)]}
def cV:Fn:={ nargs:=3,vars:=[0,1,2,6],body:=(.seq (.reg [w 3 (.mv (.b false))] []) (.seq (.reg [m v0,m v1,u (.bin .geq l1 l0),m l0,y 0 true (.mv v0),y 1 true (.mv v2),y 2 true (.bin .leq l1 l0),u (.pk l3 l0 (.b false)),w 3 (.mv l0)] []) .ret)),res:=[(3,none)]}
def dV:Fn:={ nargs:=5,vars:=[0,1,2,3,4,10,11],body:=(.seq (.reg [w 5 (.mv (.b false))] []) (.seq (.ite [m v3,u (.bin .lss l0 (.i 0)),m l0,y 0 false (.mv v0),y 1 false (.mv v1),y 2 false (.ia l1 l0 1),y 3 false (.ld l0 1 false),y 4 false (.bin .geq l0 (.i 1099511627776)),u (.pk l5 (.b true) l0)] [] 0 (.seq (.reg [w 5 (.mv (.b false))] []) .ret) .skip) (.seq (.reg [m v4,m v0,m v1,a 1 l1 l0,g l0,m v3,u (.bin .add l1 l0),u (.mx [.l 6,.l 0]),w 6 (.mv l0)] []) (.seq (.ite [m v6,u (.bin .gtr l0 (.i 2147483648)),m l0,y 0 false (.mv v6),y 1 false (.mv v0),y 2 false (.mv v2),y 3 false (.ia l1 l0 1),y 4 false (.ld l0 1 false),y 5 false (.bin .geq l4 l0),u (.pk l6 (.b true) l0)] [] 0 (.seq (.reg [w 5 (.mv (.b false))] []) .ret) .skip) (.seq (.reg [m v0,m v2,m v6,a 1 l2 l1,u (.st l0 l1 1 [])] []) (.seq (.reg [w 5 (.mv (.b true))] []) .ret)))))),res:=[(5,none)]}
def eX:Fn:={ nargs:=3,vars:=[0,1,2,3,6],body:=(.seq (.reg [w 3 (.bx v0 2),w 4 (.mv (.i 0))] []) (.seq (.reg [h 2 v3,m v1,m v2,u (.ca N.dQ 0 [] [.l 2,.l 1,.l 0,.i 6,.i 9,.i 12]),w 4 (.mv l0)] []) .ret)),res:=[(4,none)]}
def eD:C:=(.its [u (.bin .lss v5 v4)] [] 0 .skip (.exit 0) (.seq (.blk 1 (.seq (.reg [m v5,w 3 (.mv l0)] []) (.ite [m v1,m v0,m v3,a 2 l1 l0,h 2 l0,u (.cw l4 0 [] [.l 0])] [] 0 (.seq (.reg [m v3,w 2 (.mv l0)] []) .ret) .skip))) (.reg [u (.bin .add v5 (.i 1)),w 5 (.mv l0)] [])))
def eO:C:= .loop true [2,3] K.eD
def aA:Fn:={ nargs:=2,vars:=[0,1,4,5,7,8],body:=(.seq (.reg [w 2 (.mv (.i 0))] []) (.seq (.seq (.reg [m v0,w 4 (.ln l0),w 5 (.mv (.i 0))] []) (.blk 0 K.eO)) (.seq (.reg [w 2 (.mv (.i (-1)))] []) .ret))),res:=[(2,none)]}
def dQ:Fn:={ nargs:=6,vars:=[0,1,2,3,4,5,6,12,13,14,15,16,17],body:=(.seq (.reg [w 6 (.bx v0 2),w 7 (.mv (.i 0))] []) (.seq (.ite [h 2 v6,u (.ca N.dD 0 [] [.l 0]),u (.bin .neq l0 (.i 0)),m l0,y 0 false (.mv v1),y 1 false (.bin .lss l0 (.i 0)),u (.pk l2 (.b true) l0),m l0,y 0 false (.mv v1),y 1 false (.fa v6 1),y 2 false (.ld l0 1 false),y 3 false (.ln l0),y 4 false (.bin .geq l3 l0),u (.pk l5 (.b true) l0),m l0,y 0 false (.fa v6 1),y 1 false (.ld l0 1 false),y 2 false (.mv v1),y 3 false (.ia l1 l0 10),y 4 false (.fa l0 5),y 5 false (.ld l0 1 false),u (.pk l6 (.b true) l0),m l0,y 0 false (.fa v6 1),y 1 false (.ld l0 1 false),y 2 false (.mv v1),y 3 false (.ia l1 l0 10),y 4 false (.fa l0 4),y 5 false (.ld l0 1 false),y 6 false (.un .not l0),u (.pk l7 (.b true) l0)] [] 0 (.seq (.reg [w 7 (.mv (.i (-1)))] []) .ret) .skip) (.seq (.reg [f 1 v6,g l0,m v1,a 10 l1 l0,h 10 l0,w 8 (.al [.t (.int .i64 (0)),.t (.int .i64 (0)),.t (.int .i64 (0)),.t (.int .i64 (0)),.t (.bool false),.t (.bool false),.t (.int .i64 (0)),.t (.int .i64 (0)),.t (.int .i64 (0)),.t (.int .i64 (0))] []),u (.st l0 l1 10 [])] []) (.seq (.reg [h 10 v8,m v2,u (.ca N.fN 0 [] [.l 1,.l 0]),m l0,u (.ex l0 0),u (.ex l1 1),w 9 (.mv l1),w 10 (.mv l1)] []) (.seq (.reg [f 0 v6,g l0,m v10,a 2 l1 l0,f 0 l0,g l0,f 0 v6,g l0,m v9,a 2 l1 l0,f 0 l0,g l0,u (.bin .sub l6 l0),w 11 (.mv l0)] []) (.seq (.reg [m v5,w 12 (.mv l0)] []) (.seq (.ite [m v11,u (.bin .mul (.i 10) l0),f 2 v8,g l0,u (.bin .gtr l2 l0)] [] 0 (.reg [m v3,w 12 (.mv l0)] []) .skip) (.seq (.ite [m v11,u (.bin .mul (.i (-10)) l0),f 2 v8,g l0,u (.bin .gtr l2 l0)] [] 0 (.reg [m v4,w 12 (.mv l0)] []) .skip) (.seq (.reg [f 2 v8,g l0,u (.bin .mul (.i 10) l0),m v12,u (.bin .add l1 l0),u (.bin .sub l0 (.i 1)),m v12,u (.bin .quo l1 l0),w 7 (.mv l0)] []) .ret))))))))),res:=[(7,none)]}
def fN:Fn:={ nargs:=2,vars:=[0,1,2,4,5],body:=(.seq (.reg [w 2 (.bx v0 10),w 3 (.mv (.i 0)),w 4 (.mv (.i 0))] []) (.seq (.ite [m v1] [] 0 (.seq (.reg [f 1 v2,g l0,f 0 v2,g l0,w 3 (.mv l2),w 4 (.mv l1)] []) .ret) .skip) (.seq (.reg [f 0 v2,g l0,f 1 v2,g l0,w 3 (.mv l2),w 4 (.mv l1)] []) .ret))),res:=[(3,none),(4,none)]}
end Go.Ev.K
namespace Go.Ev
class bC [Lib]:Prop where
 mZ:Lib.fs N.dO=some K.dO
 kv:Lib.fs N.cP=some K.cP
 cQ:Lib.fs N.av=some K.av
 dE:Lib.fs N.az=some K.az
 kO:Lib.fs N.cZ=some K.cZ
 qt:Lib.fs N.eW=some K.eW
 m0:Lib.fs N.dP=some K.dP
 oM:Lib.fs N.eJ=some K.eJ
 oN:Lib.fs N.eK=some K.eK
 oO:Lib.fs N.eL=some K.eL
 dt:Lib.fs N.aF=some K.aF
 eh:Lib.fs N.aU=some K.aU
 jj:Lib.fs N.cu=some K.cu
 cC:Lib.fs N.ax=some K.ax
 ir:Lib.fs N.bR=some K.bR
 pR:Lib.fs N.cV=some K.cV
 oP:Lib.fs N.dV=some K.dV
 qu:Lib.fs N.eX=some K.eX
 cN:Lib.fs N.aA=some K.aA
 m5:Lib.fs N.dQ=some K.dQ
 qv:Lib.fs N.fN=some K.fN
namespace K
variable [Lib] [bC]
theorem mZ:Lib.fs N.dO=some K.dO:=bC.mZ
theorem kv:Lib.fs N.cP=some K.cP:=bC.kv
theorem cQ:Lib.fs N.av=some K.av:=bC.cQ
theorem dE:Lib.fs N.az=some K.az:=bC.dE
theorem kO:Lib.fs N.cZ=some K.cZ:=bC.kO
theorem qt:Lib.fs N.eW=some K.eW:=bC.qt
theorem m0:Lib.fs N.dP=some K.dP:=bC.m0
theorem oM:Lib.fs N.eJ=some K.eJ:=bC.oM
theorem oN:Lib.fs N.eK=some K.eK:=bC.oN
theorem oO:Lib.fs N.eL=some K.eL:=bC.oO
theorem dt:Lib.fs N.aF=some K.aF:=bC.dt
theorem eh:Lib.fs N.aU=some K.aU:=bC.eh
theorem jj:Lib.fs N.cu=some K.cu:=bC.jj
theorem cC:Lib.fs N.ax=some K.ax:=bC.cC
theorem ir:Lib.fs N.bR=some K.bR:=bC.ir
theorem pR:Lib.fs N.cV=some K.cV:=bC.pR
theorem oP:Lib.fs N.dV=some K.dV:=bC.oP
theorem qu:Lib.fs N.eX=some K.eX:=bC.qu
theorem cN:Lib.fs N.aA=some K.aA:=bC.cN
theorem m5:Lib.fs N.dQ=some K.dQ:=bC.m5
theorem qv:Lib.fs N.fN=some K.fN:=bC.qv
end K
end Go.Ev
namespace Go.Ev
open Go
variable [Lib]
noncomputable def bY:aC:=i9 Lib.fs
theorem aX{raw f:Nat}{args:List D}{H:ab}{fn:Fn}{r:D×ab}(hf:Lib.fs f=some fn)(hn:fn.nargs=args.length)
 (h:(exS bY fn.body ⟨mQ args fn.vars,H⟩).bind (S2 fn.res H.length raw)=some r) (h0:fn.prim=[]:=by rfl):bY raw f args H=some r:=IU hf hn h h0
theorem ei{gc:Bool}{dead:List Nat}{c:C}{vs:List D}{H:ab}(s:Nat→St)(n:Nat){e:Ex}{st:St}
 (h0:(⟨gy dead vs,H⟩:St)=s 0) (h:∀j,j<n→iQ gc dead (s j).H.length (exS bY c (s j))=some (s (j+1)))
 (he:exS bY c (s n)=some (e,st)) (hn:e≠ .normal):exS bY (.loop gc dead c) ⟨vs,H⟩=some (e,st):=by
 show ju gc dead (exS bY c) ⟨gy dead vs,H⟩=_
 rw[h0]
 exact uM s n h (fL he hn)
theorem Cr{gc:Bool}{dead:List Nat}{c:C}{vs:List D}{H:ab}{p:Ex×St}(h:ju gc dead (exS bY c) ⟨gy dead vs,H⟩=some p):exS bY (.loop gc dead c) ⟨vs,H⟩=some p:=h
class Dat (α:Type) where
 dflt:α
instance : Dat Int := ⟨0⟩
instance : Dat Nat := ⟨0⟩
instance : Dat Bool := ⟨false⟩
instance {α : Type} : Dat (List α) := ⟨[]⟩
def nth{α:Type} [Dat α](l:List α)(j:Nat):α:=l.getD j Dat.dflt
theorem gL{α:Type} [Dat α]{l:List α}{j:Nat}(h:j<l.length):l[j]?=some (nth l j):=by simp[nth,h]
theorem ek{α β:Type} [Dat α](f:α→β){l:List α}{j:Nat}(h:j<l.length):(l.map f)[j]?=some (f (nth l j)):=by rw[List.getElem?_map,gL h];rfl
theorem zk{α β γ:Type} [Dat α](f:β→γ)(g:α→β){l:List α}{j:Nat}(h:j<l.length):((l.map g).map f)[j]?=some (f (g (nth l j))):=by rw[List.getElem?_map,ek g h];rfl
theorem b9{α:Type} [Dat α]{l:List α}{j:Nat}(h:j<l.length):nth l j∈l:=List.mem_of_getElem? (gL h)
theorem m6{α:Type} [Dat α]{l:List α}{j:Nat}{x:α}(h:l[j]?=some x):nth l j=x:=by simp[nth,h]
theorem Xm{a b:Int}(h:a<b):(a<b)=True:=by simp[h]
theorem Xn{a b:Int}(h:b≤a):(a<b)=False:=by simp[Int.not_lt.2 h]
theorem Xo{a b:Int}(h:a≤b):(a≤b)=True:=by simp[h]
theorem Xp{a b:Int}(h:b<a):(a≤b)=False:=by simp[Int.not_le.2 h]
theorem Xq{a b:Int}(h:a=b):(a=b)=True:=by simp[h]
theorem Xr{a b:Int}(h:a≠b):(a=b)=False:=by simp[h]
theorem Xs{a b:Nat}(h:a<b):(a<b)=True:=by simp[h]
theorem Xt{a b:Nat}(h:b≤a):(a<b)=False:=by simp[Nat.not_lt.2 h]
theorem Xu{a b:Nat}(h:a≤b):(a≤b)=True:=by simp[h]
theorem Xv{a b:Nat}(h:b<a):(a≤b)=False:=by simp[Nat.not_le.2 h]
theorem Xw{a b:Nat}(h:a=b):(a=b)=True:=by simp[h]
theorem Xx{a b:Nat}(h:a≠b):(a=b)=False:=by simp[h]
attribute [go_sem] Xw Xx Xm Xn Xo Xp Xq Xr Xs Xt Xu Xv rY ek zk Jb
@[go_sem] theorem NF (a b : Nat) : ((a + b : Nat) : Int) = (a : Int) + (b : Int) := (rfl)
@[go_sem] theorem NG : ((1 : Nat) : Int) = 1 := (rfl)
@[go_sem] theorem JY : ((0 : Nat) : Int) = 0 := (rfl)
@[go_sem] theorem Rh (a b : Int) : a + b - b = a := Int.add_sub_cancel a b
@[go_sem] theorem G0 : (0 : Int).toNat = 0 := (rfl)
@[go_sem] theorem JZ (n : Nat) : (n : Int).toNat = n := (rfl)
@[go_sem] theorem J0 (n : Nat) : ((n : Int) + 1).toNat = n + 1 := (rfl)
@[go_sem] theorem J1 (a : Int) : 0 + a = a := Int.zero_add a
@[go_sem] theorem J2 (a : Int) : a + 0 = a := Int.add_zero a
@[go_sem] theorem J3 (a : Int) : a - 0 = a := Int.sub_zero a
abbrev tI(n:Int):T:= .int .i64 n
abbrev tL(l:List Int):T:= .sl (l.map (.int .i64))
@[go_sem] theorem E9 (H : ab) (n : Nat) (ts : List T) (x : T) : bn (frz H n) (ts.map .t ++ [.t x]) = some (ts ++ [x]) := by
 have:ts.map D.t++[.t x]=(ts++[x]).map .t:=by simp
 rw[this,zZ]
@[go_sem] theorem G1 {α β : Type} (f : α → β) (a b : List α) : (a ++ b).map f = a.map f ++ b.map f := List.map_append
end Go.Ev
namespace Go.Ev
open Go
variable [Lib] [bQ] [bC]
def Mod(n m:Int):Int:=if m<1 then 0 else if n.tmod m<0 then n.tmod m+m else n.tmod m
theorem Ri(n m:Int):0≤Mod n m:=by
 unfold Mod
 split
 · omega
 · have h5:=Int.lt_tmod_of_pos n (b:=m) (by omega)
   split<;>omega
theorem Rj(n m:Int)(h:1≤m):Mod n m<m:=by
 unfold Mod
 rw[if_neg (by omega)]
 have h3:=Int.tmod_lt_of_pos n (b:=m) (by omega)
 split<;>omega
theorem Rk(n m:Int)(hm:m≤4611686018427387904):bY 0 N.fE [I n,I m] []=some (I (Mod n m),[]):=by
 refine aX K.pQ rfl ?_
 unfold Mod
 by_cases h1:m<1
 · simp only[go_sem,K.fE,h1,↓reduceIte]
 · have h2:m≠0:=by omega
   have h3:=Int.tmod_lt_of_pos n (b:=m) (by omega)
   have h5:=Int.lt_tmod_of_pos n (b:=m) (by omega)
   by_cases h4:n.tmod m<0
   · simp (disch:=omega) only[go_sem,K.fE,h1,↓reduceIte,h2,h4]
   · simp (disch:=omega) only[go_sem,K.fE,h1,↓reduceIte,h2,h4]
theorem Fa(l:List Int):bY 0 N.ec [.t (tL l)] []=some (B (decide (l.length≤400)),[]):=by
 refine aX K.lA rfl ?_
 simp (disch:=omega) only[go_sem,K.ec,↓reduceIte]
 simp only[show((l.length:Int)≤400)=(l.length≤400)by rw[eq_iff_iff];omega]
structure aE where
 L:List Int
 at_:Nat
def aE.obj(d:aE):Obj:= .box [.t (tL d.L),I d.at_]
def aE.dn(d:aE):Prop:=d.L.length≤400
def aE.next(d:aE)(n:Int):Int×aE:=if d.at_<d.L.length then(Mod (nth d.L d.at_) n,⟨d.L,d.at_+1⟩)else(0,d)
theorem aE.G2(d:aE)(n:Int):(d.next n).2.L=d.L:=by unfold aE.next;split<;>rfl
theorem aE.bU{d:aE}(h:d.dn)(n:Int):(d.next n).2.dn:=by unfold aE.dn;rw[d.G2];exact h
theorem aE.ic(d:aE)(n:Int):0≤(d.next n).1:=by unfold aE.next;split<;>simp[Ri]
theorem aE.ie(d:aE){n:Int}(h:1≤n):(d.next n).1<n:=by unfold aE.next;split<;>simp[Rj _ _ h];omega
theorem jy(d:aE)(n:Int)(hn:n≤4611686018427387904)(hd:d.dn):bY 0 N.aD [.bp 0 0,I n] [d.obj]=some (I (d.next n).1,[(d.next n).2.obj]):=by
 refine aX K.ib rfl ?_
 have hm:=Rk (nth d.L d.at_) n hn
 unfold aE.dn at hd
 unfold aE.next aE.obj
 by_cases h1:d.at_<d.L.length
 · simp (disch:=omega) only[go_sem,K.aD,↓reduceIte,↓if_pos,↓if_neg,Int.add_sub_cancel,hm,Int.natCast_add]
 · simp (disch:=omega) only[go_sem,K.aD,↓reduceIte,↓if_pos,↓if_neg]
@[go_sem] theorem Uu (d : aE) : zi (some d.obj) = [] := by simp only [aE.obj, go_sem]
@[go_sem] theorem Uv (f : Nat → Option Nat) (d : aE) : dZ f d.obj = some d.obj := by simp only [aE.obj, go_sem]
@[go_sem] theorem Uw (k : Nat) (d : aE) (r : ab) : dr k (d.obj :: r) = dr k r := by simp only [aE.obj, go_sem]
def aE.one(d:aE)(n:Int):Bool×aE:=(decide ((d.next n).1=n-1),(d.next n).2)
theorem aE.sq{d:aE}(h:d.dn)(n:Int):(d.one n).2.dn:=aE.bU h n
theorem Cs(d:aE)(n:Int)(h1:0≤n)(hn:n≤4611686018427387904)(hd:d.dn):bY 0 N.aW [.bp 0 0,I n] [d.obj]=some (B (d.one n).1,[(d.one n).2.obj]):=by
 refine aX K.iR rfl ?_
 have hm:=jy d n hn hd
 unfold aE.one
 simp (disch:=omega) only[go_sem,K.aW,↓reduceIte,hm]
def aE.of(d:aE)(l:List Int):Int×aE:=(nth l (d.next l.length).1.toNat,(d.next l.length).2)
theorem aE.jk{d:aE}(h:d.dn)(l:List Int):(d.of l).2.dn:=aE.bU h _
theorem aE.oQ(d:aE){l:List Int}(h:l≠[]):(d.of l).1∈l:=by
 unfold aE.of
 have hl:0<l.length:=List.length_pos_iff.2 h
 have:=d.ic l.length
 have:=d.ie (n:=l.length) (by omega)
 exact b9 (by omega)
theorem Ct(d:aE)(l:List Int)(hl:l≠[])(hl2:l.length≤4294967296)(hd:d.dn):bY 0 N.bu [.bp 0 0,.t (tL l)] [d.obj]=some (I (d.of l).1,[(d.of l).2.obj]):=by
 refine aX K.jx rfl ?_
 have hm:=jy d l.length (by omega) hd
 have h0:0<l.length:=List.length_pos_iff.2 hl
 have h1:=d.ic l.length
 have h2:=d.ie (n:=l.length) (by omega)
 unfold aE.of
 simp (disch:=omega) only[go_sem,K.bu,↓reduceIte,hm]
def aE.Ag(d:aE):Nat→List Int×aE
 | 0=>([],d)
 | k+1=>(if((d.Ag k).2.next 3).1=0 then(d.Ag k).1++[(k:Int)]else(d.Ag k).1,((d.Ag k).2.next 3).2)
theorem jV{gc:Bool}{dead:List Nat}{c:C}{vs:List D}{H:ab}(s:Nat→St)(n:Nat)(p:Nat→Bool)(e:Nat→Ex×St)(eN:Ex×St)
 (h0:(⟨gy dead vs,H⟩:St)=s 0) (hs:∀j,j<n→p j=false→iQ gc dead (s j).H.length (exS bY c (s j))=some (s (j+1)))
 (he:∀j,j<n→p j=true→exS bY c (s j)=some (e j)∧(e j).1≠ .normal) (hN:exS bY c (s n)=some eN) (hn:eN.1≠ .normal):
 exS bY (.loop gc dead c) ⟨vs,H⟩=some (match (List.range n).find? p with | some j=>e j | none=>eN):=by
 show ju gc dead (exS bY c) ⟨gy dead vs,H⟩=_
 rw[h0]
 cases hf:(List.range n).find? p with
 | none=>
   refine uM s n (fun j hj=>hs j hj ?_) (fL hN hn)
   have:=List.find?_eq_none.1 hf j (List.mem_range.2 hj)
   simpa using this
 | some k=>
   obtain⟨h1,as,bs,h2,h3⟩:=List.find?_eq_some_iff_append.1 hf
   have hk:k<n:=List.mem_range.1 (List.mem_of_find?_eq_some hf)
   have hlt:∀j,j<k→p j=false:=by
    intro j hj
    have hlen:as.length=k:=by
     have h4:(List.range n)[as.length]?=some k:=by rw[h2];simp
     have h5:as.length<n:=by
      have:=congrArg List.length h2;simp at this;omega
     rw[List.getElem?_range h5]at h4
     exact Option.some.inj h4
    have:j∈as:=by
     have h6:(List.range n)[j]?=some j:=List.getElem?_range (by omega)
     rw[h2,List.getElem?_append_left (by omega)]at h6
     exact List.mem_of_getElem? h6
    simpa using h3 j this
   obtain⟨k1,k2⟩:=he k hk h1
   exact uM s k (fun j hj=>hs j (by omega) (hlt j hj)) (fL k1 k2)
def jl{α:Type}(f:α→α×Bool):Nat→α→α
 | 0,l=>l
 | n+1,l=>if(f l).2 then jl f n (f l).1 else(f l).1
theorem Ah{α:Type}{gc:Bool}{dead:List Nat}{c:C}{vs:List D}{H:ab}(S:α→Bool→St)(E:α→Ex×St)(f:α→α×Bool)(inv:α→Prop)(mes:α→Nat)
 (hinv:∀l,inv l→inv (f l).1∧((f l).2=true→mes (f l).1<mes l))
 (hs:∀l,inv l→iQ gc dead (S l true).H.length (exS bY c (S l true))=some (S (f l).1 (f l).2))
 (he:∀l,inv l→exS bY c (S l false)=some (E l)∧(E l).1≠ .normal) (l:α) (hl:inv l) (h0:(⟨gy dead vs,H⟩:St)=S l true):
 exS bY (.loop gc dead c) ⟨vs,H⟩=some (E (jl f (mes l+1) l))∧inv (jl f (mes l+1) l):=by
 have key:∀(n:Nat) (l:α),inv l→mes l<n→ju gc dead (exS bY c) (S l true)=some (E (jl f n l))∧inv (jl f n l):=by
  intro n
  induction n with
  | zero=>intro l _ h;omega
  | succ n ih=>
    intro l hl hm
    obtain⟨h1,h2⟩:=hinv l hl
    have hr:=hs l hl
    cases hf:(f l).2 with
    | true=>
      rw[hf]at hr
      obtain⟨k1,k2⟩:=ih (f l).1 h1 (by have:=h2 hf;omega)
      simp only[jl,hf,if_true]
      exact⟨jR hr k1,k2⟩
    | false=>
      rw[hf]at hr
      obtain⟨k1,k2⟩:=he (f l).1 h1
      simp only[jl,hf,Bool.false_eq_true,if_false]
      exact⟨jR hr (fL k1 k2),h1⟩
 have:=key (mes l+1) l hl (Nat.lt_succ_self _)
 show ju gc dead (exS bY c) ⟨gy dead vs,H⟩=_∧_
 rw[h0];exact this
theorem Fb{n:Nat}{p:Nat→Bool}:((List.range n).find? p).isSome=(List.range n).any p:=by
 rw[List.isSome_find?]
def fB(m:Nat):List D:=(List.range m).map fun i=> .bp i 0
def aM(bs:List (List T)):ab:=bs.map fun cs=> .box (cs.map .t)
theorem tZ{bs:List (List T)}{i:Nat}(h:i<bs.length):(aM bs)[i]?=some (.box (bs[i].map .t)):=by simp[aM,h]
theorem c8(bs:List (List T)):(aM bs).length=bs.length:=by simp[aM]
theorem pS:∀(l sel:List Nat),(sel++l).Nodup→cK sel l=sel++l
 | [],sel,_=>by simp[cK]
 | i::r,sel,h=>by
   have:sel.contains i=false:=by
    rw[← Bool.not_eq_true,List.contains_iff_mem]
    intro hm
    have:=List.nodup_append.1 h
    exact this.2.2 i hm i List.mem_cons_self rfl
   simp only[cK,this,Bool.false_eq_true,if_false]
   rw[pS r (sel++[i]) (by simpa using h)]
   simp
theorem qw:∀(l:List Nat) (i k:Nat),l.Nodup→l[k]?=some i→idxOf l i=some k
 | [],i,k,_,h=>by simp at h
 | a::l,i,0,_,h=>by simp at h;simp[idxOf,h]
 | a::l,i,k+1,hn,h=>by
   simp at h
   have hne:a≠i:=fun e=>(List.nodup_cons.1 hn).1 (e▸List.mem_of_getElem? h)
   simp only[idxOf,if_neg hne,qw l i k (List.nodup_cons.1 hn).2 h,Option.map_some]
theorem xX{m i:Nat}(h:i<m):idxOf (List.range m) i=some i:=qw _ _ _ List.nodup_range (List.getElem?_range h)
theorem xY{α:Type}{f:α→Option α}:∀ {l:List α},(∀x∈l,f x=some x)→bn f l=some l
 | [],_=>rfl
 | a::l,h=>by
   simp only[bn,h a List.mem_cons_self,Option.bind_some,xY fun x hx=>h x (List.mem_cons_of_mem _ hx),Option.map_some]
theorem xZ(f:Nat→Option Nat)(cs:List T):dZ f (.box (cs.map .t))=some (.box (cs.map .t)):=by
 simp only[Ad,mm,Option.map_some]
theorem wA{H:ab}:∀ {l:List Nat} {hs:ab},l.length=hs.length→(∀(k i:Nat) (o:Obj),l[k]?=some i→hs[k]?=some o→H[i]?=some o)→pick H l=some hs
 | [],[],_,_=>rfl
 | [],_::_,h,_=>by simp at h
 | _::_,[],h,_=>by simp at h
 | i::l,o::hs,h,hg=>by
   rw[Ck,hg 0 i o rfl rfl,Option.bind_some,E5,wA (l:=l) (hs:=hs) (by simpa using h) fun k i o hk ho=>hg (k+1) i o (by simpa using hk) (by simpa using ho)]
   rfl
theorem qx{H:ab}:∀ {l:List Nat} {os:ab},(∀(k i:Nat) (o:Obj),l[k]?=some i→os[k]?=some o→H[i]?=some o)→bX H l os=H
 | [],os,_=>by cases os<;>rfl
 | i::l,[],_=>rfl
 | i::l,o::os,hg=>by
   simp only[bX]
   rw[ku (hg 0 i o rfl rfl)]
   exact qx fun k i o hk ho=>hg (k+1) i o (by simpa using hk) (by simpa using ho)
theorem wB(call:aC)(bs:List (List T))(E:ab)(f raw:Nat)(args:List D){r:D}(h:call raw f args (aM bs)=some (r,aM bs))(hr:qN r=true)
 (ha:∀H:ab,jM H [] 0 args=some args∧bB H [] 0 args=[]) (hids:cK [] (qO 8 args)=List.range bs.length)
 (hren:bn (ren (idxOf (List.range bs.length)) 8) args=some args):y6 (aM bs++E) call f raw [] args=some (r,aM bs++E):=by
 generalize hH:aM bs++E=H
 have hget:∀i (hi:i<bs.length),H[i]?=some (.box (bs[i].map .t)):=fun i hi=>by
  rw[← hH,List.getElem?_append_left (by rw[c8];exact hi),tZ hi]
 obtain⟨ha,hfz⟩:=ha H
 have hno:iM H (List.range bs.length)=[]:=by
  simp only[iM,List.flatMap_eq_nil_iff,List.mem_range]
  intro i hi
  rw[hget i hi]
  exact qq 8 bs[i]
 have hsel:reach H 3 (List.range bs.length)=List.range bs.length:=by
  simp only[reach,hno,cK]
 have hget2:∀(k i:Nat) (o:Obj),(List.range bs.length)[k]?=some i→(aM bs)[k]?=some o→H[i]?=some o:=by
  intro k i o hk ho
  have hkl:k<bs.length:=by have:=(List.getElem?_eq_some_iff.1 hk).1;simpa using this
  rw[List.getElem?_range hkl]at hk
  cases hk
  rw[tZ hkl]at ho
  rw[hget k hkl,←ho]
 have hpick:pick H (List.range bs.length)=some (aM bs):=wA (by simp[c8]) hget2
 have hro:∀f:Nat→Option Nat,bn (dZ f) (aM bs)=some (aM bs):=fun f=>xY fun o ho=>by
  simp only[aM,List.mem_map]at ho
  obtain⟨cs,_,rfl⟩:=ho
  exact xZ f cs
 have hput:bX H (List.range bs.length) (aM bs)=H:=qx hget2
 rw[y9,za,ha,Option.bind_some,zb,hids,hsel,zc,hren,Option.bind_some,hfz,zd]
 simp only[pins]
 rw[hpick,Option.bind_some,ze,hro,Option.bind_some,EZ,h,Option.bind_some]
 cases hb:bs with
 | nil=>
   subst hb
   have hrr:=uN (f:=cL [] H.length) hr
   simp only[depth]at hrr
   simp only[List.length_nil,List.range_zero,aM,List.map_nil]
   unfold ny
   split
   · rfl
   · rw[zg,hrr,Option.bind_some,zf]
     simp[bn,E1,bX]
 | cons b bt=>
   rw[← hb]
   have hne:List.range bs.length=0::(List.range' 1 bt.length):=by rw[hb];simp[List.range_eq_range',List.range'_succ]
   have hrr:=uN (f:=cL (List.range bs.length) H.length) hr
   simp only[depth]at hrr
   have hw:ny H H (List.range bs.length) (r,aM bs)=uO H H.length (List.range bs.length) (r,aM bs):=by
    rw[hne];rfl
   rw[hw,zg,hrr,Option.bind_some,zf,hro,Option.bind_some,E3,List.length_range,List.take_of_length_le (by rw[c8];exact Nat.le_refl _),hput,
    List.drop_eq_nil_of_le (by rw[c8];exact Nat.le_refl _),List.append_nil]
theorem x7(H:ab)(cs:List D)(hc:∀i,jM H [] i cs=some cs∧bB H [] i cs=[]):∀(ts:List T) (i:Nat),jM H [] i (ts.map .t++cs)=some (ts.map .t++cs)∧bB H [] i (ts.map .t++cs)=[]
 | [],i=>hc i
 | t::ts,i=>by
   obtain⟨h1,h2⟩:=x7 H cs hc ts (i+1)
   simp only[List.map_cons,List.cons_append,tY,lz,xh,GQ,QI,Option.bind_some,Ch,h1,h2,Q1,Cf]
   exact⟨rfl,rfl⟩
theorem wC(H:ab):∀(l:List Nat) (i:Nat),jM H [] i (l.map fun i=> .bp i 0)=some (l.map fun i=> .bp i 0)∧bB H [] i (l.map fun i=> .bp i 0)=[]
 | [],i=>⟨rfl,rfl⟩
 | a::l,i=>by
   obtain⟨h1,h2⟩:=wC H l (i+1)
   simp only[List.map_cons,tY,lz,xh,GQ,Jt,Option.bind_some,Ch,h1,h2,Q1,Jz]
   exact⟨rfl,rfl⟩
theorem wD(n m:Nat):qO n (fB m)=List.range m:=by
 simp only[qO,fB,List.flatMap_map]
 have:∀l:List Nat,(l.flatMap fun a=>ids n (.bp a 0))=l:=by
  intro l
  induction l with
  | nil=>rfl
  | cons a l ih=>rw[List.flatMap_cons,ih,Q5];rfl
 exact this _
theorem zl(n m:Nat):bn (ren (idxOf (List.range m)) n) (fB m)=some (fB m):=xY fun d hd=>by
 simp only[fB,List.mem_map,List.mem_range]at hd
 obtain⟨k,hk,rfl⟩:=hd
 rw[Q9,xX hk];rfl
theorem uS{α β:Type}{f:α→Option β}:∀ {a b:List α} {x y:List β},bn f a=some x→bn f b=some y→bn f (a++b)=some (x++y)
 | [],b,x,y,h1,h2=>by simp[bn]at h1;subst h1;exact h2
 | c::a,b,x,y,h1,h2=>by
   simp only[bn,Option.bind_eq_some_iff,Option.map_eq_some_iff]at h1
   obtain⟨z,hz,r,hr,rfl⟩:=h1
   simp only[List.cons_append,bn,hz,Option.bind_some,uS hr h2,Option.map_some]
theorem Cu(call:aC)(bs:List (List T))(E:ab)(f raw:Nat)(ts:List T){r:D}(h:call raw f (ts.map .t++fB bs.length) (aM bs)=some (r,aM bs))(hr:qN r=true):
 y6 (aM bs++E) call f raw [] (ts.map .t++fB bs.length)=some (r,aM bs++E):=
 wB call bs E f raw _ h hr (fun H=>x7 H _ (wC H _) ts 0)
  (by rw[zh,qq,List.nil_append,wD,pS _ _ (by simpa using List.nodup_range),List.nil_append])
  (uS (mm _ _ _) (zl _ _))
theorem J4(call:aC)(bs:List (List T))(E:ab)(g f raw:Nat)(ts:List T){r:D}(h:call raw f (ts.map .t++[.fn g (fB bs.length)]) (aM bs)=some (r,aM bs))(hr:qN r=true):
 y6 (aM bs++E) call f raw [] (ts.map .t++[.fn g (fB bs.length)])=some (r,aM bs++E):=
 wB call bs E f raw _ h hr (fun H=>x7 H _ (fun i=>⟨rfl,rfl⟩) ts 0)
  (by rw[zh,qq,List.nil_append,Ci,Q6,wD,E4,List.append_nil,pS _ _ (by simpa using List.nodup_range),List.nil_append])
  (uS (mm _ _ _) (by rw[wm,Rc,zl];rfl))
theorem wE{f:Nat}{bs:List (List T)}{x:T}{r:D}(E:ab)(h:bY 0 f (.t x::fB bs.length) (aM bs)=some (r,aM bs))(hr:qN r=true):
 y6 (aM bs++E) bY f 0 [] (.t x::fB bs.length)=some (r,aM bs++E):=Cu bY bs E f 0 [x] h hr
theorem ua{f:Nat}{bs:List (List T)}{x:T}{r:D}(h:bY 0 f (.t x::fB bs.length) (aM bs)=some (r,aM bs))(hr:qN r=true):
 y6 (aM bs) bY f 0 [] (.t x::fB bs.length)=some (r,aM bs):=by
 have:=wE [] h hr;rwa [List.append_nil]at this
theorem Ai(call:aC)(bs:List (List T))(g f raw:Nat)(x:T){r:D}(h:call raw f [.t x,.fn g (fB bs.length)] (aM bs)=some (r,aM bs))(hr:qN r=true):
 y6 (aM bs) call f raw [] [.t x,.fn g (fB bs.length)]=some (r,aM bs):=by
 have:=J4 call bs [] g f raw [x] h hr
 rwa [List.append_nil]at this
section
variable (bs : List (List T)) (o o' : Obj)
@[go_sem] theorem Fc : (aM bs).length = bs.length := c8 bs
@[go_sem] theorem NH : (aM bs ++ [o])[bs.length]? = some o := by
 rw[List.getElem?_append_right (by rw[c8];exact Nat.le_refl _),c8];simp
@[go_sem] theorem Rl : (aM bs ++ [o]).set bs.length o' = aM bs ++ [o'] := by
 rw[List.set_append_right _ _ (by rw[c8];exact Nat.le_refl _),c8];simp
@[go_sem] theorem NI : (aM bs ++ [o]).take bs.length = aM bs := by
 rw[List.take_append_of_le_length (by rw[c8];exact Nat.le_refl _),List.take_of_length_le (by rw[c8];exact Nat.le_refl _)]
@[go_sem] theorem J5 : (aM bs ++ [o]).take (bs.length + 1) = aM bs ++ [o] := List.take_of_length_le (by simp [c8])
@[go_sem] theorem J6 : (aM bs).take bs.length = aM bs := List.take_of_length_le (by simp [c8])
@[go_sem] theorem J7 (k : Nat) (a b : ab) : dr k (a ++ b) = (dr k a && dr k b) := by
 rw[← iK,←iK,←iK,List.all_append]
@[go_sem] theorem Fe (k : Nat) : dr k (aM bs) = true := by
 induction bs with
 | nil=>rfl
 | cons b r ih=>
   show(dL k 8 (b.map .t)&&dr k (aM r))=true
   rw[y7,ih];rfl
@[go_sem] theorem Ux (n : Nat) : ltB n (n + 1) = true := by rw [kt]; simp
@[go_sem] theorem Uy (n : Nat) : ltB n n = false := by rw [kt]; simp
theorem qy(k n m:Nat)(h:m≤k):dL k n (fB m)=true:=by
 unfold dL fB
 rw[List.all_eq_true]
 intro d hd
 obtain⟨i,hi,rfl⟩:=List.mem_map.1 hd
 rw[QJ,kt]
 have:=List.mem_range.1 hi
 simp;omega
@[go_sem] theorem J8 (n m : Nat) : dL m n (fB m) = true := qy _ _ _ (Nat.le_refl _)
@[go_sem] theorem G3 (n m : Nat) : dL (m + 1) n (fB m) = true := qy _ _ _ (Nat.le_succ _)
end
def gR(n:Nat)(p:Nat→Bool):List Int:=((List.range n).filter p).map (fun(i:Nat)=>(i:Int))
theorem sr(n:Nat)(p:Nat→Bool):gR (n+1) p=if p n=true then gR n p++[(n:Int)]else gR n p:=by
 unfold gR
 rw[List.range_succ,List.filter_append,List.map_append]
 by_cases h:p n=true<;>simp[h]
theorem Aj(n:Nat)(p:Nat→Bool):(gR n p).length≤n:=by
 unfold gR
 rw[List.length_map]
 have:=List.length_filter_le p (List.range n)
 simpa using this
theorem Ff(n:Nat)(hn:n≤1000000)(f:Nat)(bs:List (List T))(p:Nat→Bool)(h:∀k,k<n→bY 0 f (I k::fB bs.length) (aM bs)=some (B (p k),aM bs)):
 bY 0 N.cP [I n,.fn f (fB bs.length)] (aM bs)=some (.t (tL (gR n p)),aM bs):=by
 refine aX K.kv rfl ?_
 have hlen:=fun k=>Aj k p
 have loop:exS bY K.mY ⟨[I n,.fn f (fB bs.length),.nil,.ref bs.length 0 0,.und,I n,I 0],aM bs++[.arr 1 false 0 []]⟩=
  some (.exit 0,⟨[.und,.fn f (fB bs.length),.und,.ref bs.length 0 (gR n p).length,.und,I n,I n],aM bs++[.arr 1 false 0 (((gR n p).map (T.int .i64)).map .t)]⟩):=by
  refine ei (fun j=>⟨[.und,.fn f (fB bs.length),.und,.ref bs.length 0 (gR j p).length,.und,I n,I j],aM bs++[.arr 1 false 0 (((gR j p).map (T.int .i64)).map .t)]⟩) n rfl ?_ ?_ (by simp)
  · intro j hj
    have hc:=wE [.arr 1 false 0 (((gR j p).map (T.int .i64)).map .t)] (h j hj) rfl
    have:=hlen j
    by_cases hp:p j=true
    · simp (disch:=omega) only[go_sem,K.fZ,hc,hp,sr,↓reduceIte]
    · simp (disch:=omega) only[go_sem,K.fZ,hc,hp,sr,↓reduceIte]
  · simp (disch:=omega) only[go_sem,K.fZ,↓reduceIte]
 simp (disch:=omega) only[go_sem,K.cP,↓reduceIte,loop]
end Go.Ev
namespace Go.Ev
open Go
variable [Lib] [bQ] [bC]
theorem jm{α:Type}(sz:Nat)(f:α→T)(h:∀a,jv sz (f a).cells=true):∀l:List α,bz sz (l.map f)=true
 | []=>rfl
 | a::l=>by rw[List.map_cons,oG,h,jm sz f h l];rfl
@[go_sem] theorem G4 (k : IntKind) (l : List Int) : bz 1 (l.map (.int k)) = true := jm 1 _ (fun _ => rfl) l
theorem oR(sz:Nat):∀ts:List T,(ts.all fun e=>e.cells.length==sz)=bz sz ts
 | []=>rfl
 | t::ts=>by
   rw[List.all_cons,oG,oR sz ts]
   congr 1
   rw[Bool.eq_iff_iff,dy];simp
section
variable (H : ab) (sz : Nat) (ts : List T) (i j : Int)
@[go_sem] theorem Xy : wt H sz (some (.t (.sl ts))) (some none) (some (some i)) = if 0 ≤ i then (if i ≤ ts.length then (if bz sz ts = true then some (.t (.sl (ts.take i.toNat)), H) else none) else none) else none := by
 simp only[wt,Option.bind_some,jg,bound,oR,idx]
 by_cases h1:0≤i
 · rw[if_pos h1,if_pos h1,Option.bind_some]
   by_cases h2:i≤ts.length
   · rw[if_pos h2]
     by_cases h3:bz sz ts=true
     · rw[if_pos h3,if_pos ⟨by omega,by omega,h3⟩];rfl
     · rw[if_neg h3,if_neg fun h=>h3 h.2.2];rfl
   · rw[if_neg h2,if_neg fun h=>h2 (by omega)];rfl
 · rw[if_neg h1,if_neg h1];rfl
@[go_sem] theorem Xz : wt H sz (some (.t (.sl ts))) (some (some i)) (some none) = if 0 ≤ i then (if i ≤ ts.length then (if bz sz ts = true then some (.t (.sl (ts.drop i.toNat)), H) else none) else none) else none := by
 simp only[wt,Option.bind_some,jg,bound,oR,idx]
 by_cases h1:0≤i
 · rw[if_pos h1,if_pos h1,Option.bind_some]
   by_cases h2:i≤ts.length
   · rw[if_pos h2]
     by_cases h3:bz sz ts=true
     · rw[if_pos h3,if_pos ⟨by omega,by omega,h3⟩,List.take_of_length_le (by simp)];rfl
     · rw[if_neg h3,if_neg fun h=>h3 h.2.2];rfl
   · rw[if_neg h2,if_neg fun h=>h2 (by omega)];rfl
 · rw[if_neg h1,if_neg h1];rfl
@[go_sem] theorem Rm : wt H sz (some (.t (.sl ts))) (some (some i)) (some (some j)) = if 0 ≤ i then (if i ≤ j then (if j ≤ ts.length then (if bz sz ts = true then some (.t (.sl ((ts.drop i.toNat).take (j.toNat - i.toNat))), H) else none) else none) else none) else none := by
 simp only[wt,Option.bind_some,jg,bound,oR,idx]
 by_cases h1:0≤i
 · rw[if_pos h1,if_pos h1,Option.bind_some]
   by_cases h0:i≤j
   · rw[if_pos h0,if_pos (by omega:0≤j),Option.bind_some]
     by_cases h2:j≤ts.length
     · rw[if_pos h2]
       by_cases h3:bz sz ts=true
       · rw[if_pos h3,if_pos ⟨by omega,by omega,h3⟩];rfl
       · rw[if_neg h3,if_neg fun h=>h3 h.2.2];rfl
     · rw[if_neg h2,if_neg fun h=>h2 (by omega)];rfl
   · rw[if_neg h0]
     by_cases h2:0≤j
     · rw[if_pos h2,Option.bind_some,if_neg fun h=>h0 (by omega)];rfl
     · rw[if_neg h2];rfl
 · rw[if_neg h1,if_neg h1];rfl
end
def bsK(H:ab)(l:List Nat):Option T→Option (D×ab)
 | some t=>some (.t (.sl [t]),pins H l)
 | none=>none
@[go_sem] theorem Uz (H : ab) (l : List Nat) (t : T) : bsK H l (some t) = some (.t (.sl [t]), pins H l) := (rfl)
@[go_sem] theorem UA (H : ab) (sz : Nat) (cs : List D) : tX H sz [.agg cs] = if jv sz cs = true then bsK H (cY H 8 (.agg cs)) (frz H 8 (.agg cs)) else none := by
 simp only[tX,List.all_cons,List.all_nil,Bool.and_true,D.cells]
 by_cases h:jv sz cs=true
 · rw[if_pos h,if_pos (by simpa using dy.1 h)]
   simp only[bn,depth,List.flatMap_cons,List.flatMap_nil,List.append_nil]
   cases frz H 8 (.agg cs)<;>rfl
 · rw[if_neg h,if_neg (by intro e;exact h (dy.2 (by simpa using e)))]
@[go_sem] theorem UB (H : ab) (id ep n : Nat) : tX H 1 [.ref id ep n] = bsK H (cY H 8 (.ref id ep n)) (frz H 8 (.ref id ep n)) := by
 simp only[tX,List.all_cons,List.all_nil,Bool.and_true,D.cells,List.length_cons,List.length_nil,beq_self_eq_true,if_true,bn,depth,List.flatMap_cons,List.flatMap_nil,List.append_nil]
 cases frz H 8 (.ref id ep n)<;>rfl
def J9(H:ab)(r:D)(os:ab):D×ab:=(r,H++os)
@[go_sem] theorem UC (H : ab) (r : D) (os : ab) : J9 H r os = (r, H ++ os) := (rfl)
def Rn(H:ab)(os:ab)(r:D):Option (D×ab):=(bn (dZ (cL [] H.length)) os).map (J9 H r)
@[go_sem] theorem UD (H : ab) (os : ab) (r : D) : Rn H os r = (bn (dZ (cL [] H.length)) os).map (J9 H r) := (rfl)
@[go_sem] theorem Ro (H : ab) (r : D) (o : Obj) (os : ab) : r5 H (r, o :: os) = (ren (cL [] H.length) 8 r).bind (Rn H (o :: os)) := by
 simp only[r5,List.isEmpty_cons,Bool.and_false,Bool.false_eq_true,if_false]
 rfl
end Go.Ev
namespace Go.Ev
open Go
variable [Lib] [bQ] [bC]
structure Place where
 h:Int
 surf:Bool
instance : Dat Place := ⟨⟨0, false⟩⟩
abbrev Place.e(p:Place):T:= .agg [tI p.h,.bool p.surf]
structure Road where
 frm:Int
 to:Int
 len:Int
 area:Int
 walk:Bool
 closed:Bool
 restL:Int
 restH:Int
 liftL:Int
 liftH:Int
instance : Dat Road := ⟨⟨0, 0, 0, 0, false, false, 0, 0, 0, 0⟩⟩
abbrev Road.e(r:Road):T:= .agg [tI r.frm,tI r.to,tI r.len,tI r.area,.bool r.walk,.bool r.closed,tI r.restL,tI r.restH,tI r.liftL,tI r.liftH]
structure bj where
 places:List Place
 roads:List Road
instance : Dat bj := ⟨⟨[], []⟩⟩
abbrev bj.e(m:bj):T:= .agg [.sl (m.places.map Place.e),.sl (m.roads.map Road.e)]
structure Road.ok(n:Nat)(r:Road):Prop where
 f0:0≤r.frm
 f1:r.frm<n
 t0:0≤r.to
 t1:r.to<n
 ne:r.frm≠r.to
 l0:1≤r.len
 l1:r.len≤100000
 a0:1≤r.area
 a1:r.area≤1000
 r0:1≤r.restL
 r1:r.restL≤r.restH
 r2:r.restH≤262144
 i0: -2199023255552≤r.liftL
 i1:r.liftL≤r.liftH
 i2:r.liftH≤2199023255552
structure bj.ok(m:bj):Prop where
 np:m.places.length≤64
 nr:m.roads.length≤128
 hs:∀p∈m.places, -10000≤p.h∧p.h≤10000
 rs:∀r∈m.roads,r.ok m.places.length
theorem Cv{l:List Int}{p:Int→Bool}:((List.range l.length).find? fun j=>p (nth l j)).isSome=l.any p:=by
 rw[List.isSome_find?,Bool.eq_iff_iff,List.any_eq_true,List.any_eq_true]
 constructor
 · rintro ⟨j,hj,h⟩
   exact⟨_,b9 (List.mem_range.1 hj),h⟩
 · rintro ⟨x,hx,h⟩
   obtain⟨j,hj⟩:=List.mem_iff_getElem?.1 hx
   exact⟨j,List.mem_range.2 (List.getElem?_eq_some_iff.1 hj).1,by rw[m6 hj];exact h⟩
def nB(l:List Int)(n:Int):Bool:=(List.range l.length).all fun j=>decide (0≤nth l j∧nth l j<n∧(0<j→nth l (j-1)<nth l j))
theorem Rq(x lo hi:Int):bY 0 N.cV [I x,I lo,I hi] []=some (B (decide (lo≤x∧x≤hi)),[]):=by
 refine aX K.pR rfl ?_
 by_cases h1:lo≤x<;>by_cases h2:x≤hi<;>simp (disch:=omega) only[go_sem,K.cV,↓reduceIte]
theorem Fg(l:List Int)(x:Int)(hl:l.length≤4294967296):bY 0 N.aU [.t (tL l),I x] []=
 some (I (match (List.range l.length).find? (fun j=>decide (nth l j=x))with | some j=>(j:Int) | none=> -1),[]):=by
 refine aX K.eh rfl ?_
 have loop:∀a b:D,exS bY K.ga ⟨[.t (tL l),I x,a,b,I l.length,I 0],[]⟩=
  some (match (List.range l.length).find? (fun j=>decide (nth l j=x))with
   | some j=>(.ret,⟨[.t (tL l),I x,I j,I j,I l.length,I j],[]⟩)
   | none=>(.exit 0,⟨[.t (tL l),I x,.und,.und,I l.length,I l.length],[]⟩)):=by
  intro a b
  refine jV (fun j=>⟨[.t (tL l),I x,.und,.und,I l.length,I j],[]⟩) l.length (fun j=>decide (nth l j=x)) _ _ rfl ?_ ?_ ?_ (by simp)
  · intro j hj hp
    have hp:¬nth l j=x:=of_decide_eq_false hp
    simp (disch:=omega) only[go_sem,K.cM,↓reduceIte]
  · intro j hj hp
    have hp:nth l j=x:=of_decide_eq_true hp
    simp (disch:=omega) only[go_sem,K.cM,↓reduceIte,hp]
    simp
  · simp (disch:=omega) only[go_sem,K.cM,↓reduceIte]
 simp (disch:=omega) only[go_sem,K.aU,↓reduceIte,loop]
 cases hf:(List.range l.length).find? (fun j=>decide (nth l j=x))with
 | some j=>simp (disch:=omega) only[go_sem,↓reduceIte]
 | none=>simp (disch:=omega) only[go_sem,↓reduceIte]
theorem nC(l:List Int)(x:Int)(hl:l.length≤4294967296):bY 0 N.az [.t (tL l),I x] []=some (B (decide (x∈l)),[]):=by
 refine aX K.dE rfl ?_
 have h:=Fg l x hl
 have e:=Cv (l:=l) (p:=fun y=>decide (y=x))
 have e2:l.any (fun y=>decide (y=x))=decide (x∈l):=by rw[Bool.eq_iff_iff];simp
 rw[e2]at e
 cases hf:(List.range l.length).find? (fun j=>decide (nth l j=x))with
 | some j=>rw[hf]at e h;simp (disch:=omega) only[go_sem,K.az,↓reduceIte,←e,h]
 | none=>rw[hf]at e h;simp (disch:=omega) only[go_sem,K.az,↓reduceIte,←e,h,Option.isSome_none]
theorem wF(l:List Int)(hl:l.length≤4294967296)(f:Nat)(bs:List (List T))(p:Int→Bool)(h:∀x,x∈l→bY 0 f (I x::fB bs.length) (aM bs)=some (B (p x),aM bs)):
 bY 0 N.aF [.t (tL l),.fn f (fB bs.length)] (aM bs)=
 some (I (match (List.range l.length).find? (fun j=>p (nth l j))with | some j=>(j:Int) | none=> -1),aM bs):=by
 refine aX K.dt rfl ?_
 have loop:∀a b:D,exS bY K.eM ⟨[.t (tL l),.fn f (fB bs.length),a,b,I l.length,I 0],aM bs⟩=
  some (match (List.range l.length).find? (fun j=>p (nth l j))with
   | some j=>(.ret,⟨[.t (tL l),.fn f (fB bs.length),I j,I j,I l.length,I j],aM bs⟩)
   | none=>(.exit 0,⟨[.t (tL l),.fn f (fB bs.length),.und,.und,I l.length,I l.length],aM bs⟩)):=by
  intro a b
  refine jV (fun j=>⟨[.t (tL l),.fn f (fB bs.length),.und,.und,I l.length,I j],aM bs⟩) l.length (fun j=>p (nth l j)) _ _ rfl ?_ ?_ ?_ (by simp)
  · intro j hj hp
    have hc:=ua (h _ (b9 hj)) rfl
    simp (disch:=omega) only[go_sem,K.b8,↓reduceIte,hc,hp]
  · intro j hj hp
    have hc:=ua (h _ (b9 hj)) rfl
    simp (disch:=omega) only[go_sem,K.b8,↓reduceIte,hp,hc]
    simp
  · simp (disch:=omega) only[go_sem,K.b8,↓reduceIte]
 simp (disch:=omega) only[go_sem,K.aF,↓reduceIte,loop]
 cases hf:(List.range l.length).find? (fun j=>p (nth l j))with
 | some j=>simp (disch:=omega) only[go_sem,↓reduceIte]
 | none=>simp (disch:=omega) only[go_sem,↓reduceIte]
theorem sw(l:List Int)(hl:l.length≤4294967296)(f:Nat)(bs:List (List T))(p:Int→Bool)(h:∀x,x∈l→bY 0 f (I x::fB bs.length) (aM bs)=some (B (p x),aM bs)):
 bY 0 N.av [.t (tL l),.fn f (fB bs.length)] (aM bs)=some (B (l.any p),aM bs):=by
 refine aX K.cQ rfl ?_
 have h:=wF l hl f bs p h
 have hc:=Ai bY bs f _ 0 (tL l) h rfl
 have e:=Cv (l:=l) (p:=p)
 cases hf:(List.range l.length).find? (fun j=>p (nth l j))with
 | some j=>rw[hf]at e hc;simp (disch:=omega) only[go_sem,K.av,↓reduceIte,←e,hc]
 | none=>rw[hf]at e hc;simp (disch:=omega) only[go_sem,K.av,↓reduceIte,←e,hc,Option.isSome_none]
def Ak(m:bj)(k:Nat)(back:Bool)(up down level:Int):Int:=
 let x:=nth m.roads k
 if x.closed=true∨x.walk=false then -1 else
 let a:=if back then x.to else x.frm
 let b:=if back then x.frm else x.to
 let rise:=(nth m.places b.toNat).h-(nth m.places a.toNat).h
 let speed:=if -10*rise>x.len then down else if 10*rise>x.len then up else level
 (10*x.len+speed-1).tdiv speed
theorem x8{a b:Int}(ha:0≤a)(hb:1≤b):0≤a.tdiv b∧a.tdiv b≤a:=by
 rw[Int.tdiv_eq_ediv_of_nonneg ha]
 exact⟨Int.ediv_nonneg ha (by omega),Int.ediv_le_self _ ha⟩
def bnd(l:List Int):Prop:=∀x∈l,0≤x∧x≤1099511627776
def G5(l:List Int)(p q:Nat)(walk t:Int):Bool:=
 decide (0≤walk)&&decide (nth l p<1099511627776)&&decide (max t (nth l p+walk)≤2147483648)&&decide (max t (nth l p+walk)<nth l q)
def Rr(l:List Int)(p q:Nat)(walk t:Int):List Int:=if G5 l p q walk t=true then l.set q (max t (nth l p+walk))else l
def ZY(into:Option (List Int))(p:Int):Bool:=match into with
 | none=>true
 | some l=>decide (p∈l)
def Rs(into:Option (List Int)):D:=match into with
 | none=> .nil
 | some l=> .t (tL l)
def Road.src(r:Road)(back:Bool):Int:=if back then r.to else r.frm
def Road.dst(r:Road)(back:Bool):Int:=if back then r.frm else r.to
theorem Road.yM{n:Nat}{r:Road}(h:r.ok n)(back:Bool):0≤r.src back∧r.src back<n:=by
 unfold Road.src;have:=h.f0;have:=h.f1;have:=h.t0;have:=h.t1;cases back<;>simp<;>omega
def Rt(m:bj)(t:Int)(into:Option (List Int))(k:Nat)(back:Bool)(l:List Int):List Int×Bool:=
 if ZY into ((nth m.roads k).dst back)=true then
  (Rr l ((nth m.roads k).src back).toNat ((nth m.roads k).dst back).toNat (Ak m k back 6 9 12) t,G5 l ((nth m.roads k).src back).toNat ((nth m.roads k).dst back).toNat (Ak m k back 6 9 12) t)
 else(l,false)
def XA(m:bj)(t:Int)(into:Option (List Int))(k:Nat)(s:List Int×Bool):List Int×Bool:=
 let a:=Rt m t into k false s.1
 let b:=Rt m t into k true a.1
 (b.1,s.2||a.2||b.2)
def G6(m:bj)(t:Int)(into:Option (List Int))(l:List Int):Nat→List Int×Bool
 | 0=>(l,false)
 | k+1=>XA m t into k (G6 m t into l k)
def Ru(m:bj)(t:Int)(into:Option (List Int))(l:List Int):List Int×Bool:=G6 m t into l m.roads.length
theorem Ka{l:List Int}(h:bnd l){q:Nat}{x:Int}(h0:0≤x)(h1:x≤1099511627776):bnd (l.set q x):=by
 intro y hy
 rcases List.mem_or_eq_of_mem_set hy with hy | hy
 · exact h y hy
 · subst hy;exact⟨h0,h1⟩
section
variable {m : bj} (h : m.ok) {t : Int} {into : Option (List Int)}
include h
end
def YY(l:List Int):Nat:=(l.map Int.toNat).sum
section
variable {m : bj} (h : m.ok) {t : Int} {into : Option (List Int)}
include h
end
end Go.Ev
namespace Go.Ev
open Go
variable [Lib] [bQ] [bC]
abbrev ag(m:bj):List D:=[.t (.sl (m.places.map Place.e)),.t (.sl (m.roads.map Road.e))]
@[go_sem] theorem Rv (k n : Nat) (into : Option (List Int)) : old k n (Rs into) = true := by
 cases into<;>simp only[Rs,go_sem]
structure Wh where
 time:Int
 frm:List Int
instance : Dat Wh := ⟨⟨0, []⟩⟩
abbrev Wh.e(w:Wh):T:= .agg [tI w.time,tL w.frm]
def uc(m:bj)(t:Int)(into:Option (List Int))(l:List Int):List Int:=jl (Ru m t into) (YY l+1) l
def inT(t:Int):Prop:=0≤t∧t≤2147483648
instance (t : Int) : Decidable (inT t) := by unfold inT; infer_instance
def plT(x:Int):Prop:=x=1099511627776∨inT x
instance (t : Int) : Decidable (plT t) := by unfold plT; infer_instance
def Cw(w:Wh)(n:Int):Bool:=decide ((w.frm.length:Int)=n∧inT w.time)&&(List.range w.frm.length).all fun j=>decide (plT (nth w.frm j))
def wG(m:bj)(w:Wh):Bool:=Cw w m.places.length&&decide (uc m w.time none w.frm=w.frm)
theorem x9{w:Wh}{n:Int}(h:Cw w n=true):(w.frm.length:Int)=n∧inT w.time∧∀x∈w.frm,plT x:=by
 simp only[Cw,Bool.and_eq_true,decide_eq_true_eq,List.all_eq_true,List.mem_range]at h
 refine⟨h.1.1,h.1.2,fun x hx=>?_⟩
 obtain⟨j,hj⟩:=List.mem_iff_getElem?.1 hx
 have:=h.2 j (List.getElem?_eq_some_iff.1 hj).1
 rwa [m6 hj]at this
def Cx(n:Nat):List Int:=List.replicate n 1099511627776
@[simp] theorem NJ (n : Nat) : (Cx n).length = n := List.length_replicate
def Cy(m:bj)(p t:Int):Wh×Int:=
 if p<0∨(m.places.length:Int)≤p then(⟨0,[]⟩,3)else if inT t then(⟨t,uc m t none ((Cx m.places.length).set p.toNat t)⟩,0)else(⟨0,[]⟩,8)
def G7(w:Wh)(t:Int):Wh×Int:=if t<w.time∨2147483648<t then(w,8)else(⟨t,w.frm⟩,0)
def zm(m:bj)(w:Wh)(places:List Int)(a b:Int):Int:=
 if wG m w=true∧places≠[]∧nB places m.places.length=true then(if inT a∧inT b∧a≤b then 0 else 8)else 6
theorem uT{l:List Int}{n:Int}(h:nB l n=true){j:Nat}(hj:j<l.length):0≤nth l j∧nth l j<n∧(0<j→nth l (j-1)<nth l j):=by
 simp only[nB,List.all_eq_true,List.mem_range,decide_eq_true_eq]at h
 exact h j hj
theorem Cz{l:List Int}{n:Int}(h:nB l n=true):∀ {j:Nat},j<l.length→(j:Int)≤nth l j
 | 0,hj=>by have:=uT h hj;omega
 | j+1,hj=>by
   have h1:=Cz h (j:=j) (by omega)
   have:=(uT h hj).2.2 (by omega)
   simp only[Nat.add_sub_cancel]at this
   omega
theorem oS{l:List Int}{n:Nat}(h:nB l n=true):l.length≤n:=by
 cases hl:l.length with
 | zero=>omega
 | succ k=>
   have h1:=Cz h (j:=k) (by omega)
   have h2:=(uT h (j:=k) (by omega)).2.1
   omega
def Kb(w:Wh)(t p:Int)(s:List Int×Bool):List Int×Bool:=if nth w.frm p.toNat≤t then(s.1.set p.toNat (nth w.frm p.toNat),true)else s
def XB(w:Wh)(l:List Int)(t:Int)(n:Nat):Nat→List Int×Bool
 | 0=>(Cx n,false)
 | j+1=>Kb w t (nth l j) (XB w l t n j)
def ZZ(m:bj)(w:Wh)(l:List Int)(a b:Int):Wh×Int:=
 if zm m w l a b≠0 then(w,zm m w l a b)else if a<w.time then(w,42)else
 if(XB w l b m.places.length l.length).2=true then(⟨b,uc m a none (XB w l b m.places.length l.length).1⟩,0)else(w,43)
theorem ya{m:bj}{w:Wh}(h:wG m w=true):w.frm.length=m.places.length∧inT w.time∧(∀x∈w.frm,plT x)∧uc m w.time none w.frm=w.frm:=by
 simp only[wG,Bool.and_eq_true,decide_eq_true_eq]at h
 obtain⟨h1,h2,h3⟩:=x9 h.1
 exact⟨by omega,h2,h3,h.2⟩
def YZ(l0 l:List Int):Nat→List Int
 | 0=>l0
 | j+1=>(YZ l0 l j).set (nth l j).toNat 1099511627776
def Z0(m:bj)(w:Wh)(l:List Int)(a b bl:Int):Wh×Int:=
 if zm m w l a b≠0 then(w,zm m w l a b)else if ¬inT bl then(w,8)else if b<w.time then(w,42)else if b-max a w.time≤bl then(w,0)else
 (⟨b,uc m b none (uc m (b-bl) (some l) (YZ w.frm l l.length))⟩,0)
def Y0(a b:List Int):Nat→List Int
 | 0=>[]
 | j+1=>Y0 a b j++[min (nth a j) (nth b j)]
def Fh(a b:Wh):Wh×Int:=if a.frm.length=b.frm.length then(⟨max a.time b.time,Y0 a.frm b.frm a.frm.length⟩,0)else(⟨0,[]⟩,6)
theorem Fi{α:Type} [Dat α](l:List α)(k:Nat)(hk:k<l.length)(x:α)(j:Nat):nth (l.set k x) j=if j=k then x else nth l j:=by
 unfold nth
 by_cases h:j=k
 · subst h;rw[if_pos rfl];simp[hk]
 · rw[if_neg h]
   have:¬k=j:=fun e=>h e.symm
   simp[List.getElem?_set,this]
section
variable {m : bj} (h : m.ok) {t : Int} {into : Option (List Int)}
include h
end
end Go.Ev
namespace Go.Ev
open Go
variable [Lib] [bQ] [bC]
structure OfI(m:bj)(p:Nat)(l:List Int):Prop where
 ln:l.length=m.places.length
 bd:bnd l
 z:nth l p=0
theorem OfI.set{m:bj}{p:Nat}{l:List Int}(h:OfI m p l){q:Nat}{x:Int}(hq:q<l.length)(h0:0<x)(hx:x<nth l q):OfI m p (l.set q x):=by
 have b1:=h.bd _ (b9 hq)
 refine⟨by rw[List.length_set];exact h.ln,Ka h.bd (by omega) (by omega),?_⟩
 rw[Fi _ _ hq]
 split
 · rename_i e;subst e;have:=h.z;omega
 · exact h.z
@[go_sem] theorem XC (H : ab) (a b : List T) : tX H 1 [.t (.sl a), .t (.sl b), .nil] = some (.t (.sl [.sl a, .sl b, .sl []]), H) := by
 simp only[tX,List.all_cons,List.all_nil,D.cells,T.cells,List.map_cons,List.map_nil,List.length_cons,List.length_nil,bn,frz,depth,cY,List.flatMap_cons,List.flatMap_nil,pins]
 rfl
def Fj(c:Bool):Option Bool→Option Bool
 | some d=>some (c&&d)
 | none=>none
@[go_sem] theorem NK (c d : Bool) : Fj c (some d) = some (c && d) := (rfl)
@[go_sem] theorem NL : iq [] [] = some true := (rfl)
@[go_sem] theorem Kc (k : IntKind) (a b : Int) (xs ys : List T) : iq (.int k a :: xs) (.int k b :: ys) = Fj (decide (a = b)) (iq xs ys) := by
 simp only[iq,if_true,PE]
 cases iq xs ys<;>rfl
def Fk(H:ab)(neg:Bool):Option Bool→Option (D×ab)
 | some r=>some (.t (.bool (bif neg then !r else r)),H)
 | none=>none
@[go_sem] theorem NM (H : ab) (r : Bool) : Fk H true (some r) = some (.t (.bool (!r)), H) := (rfl)
@[go_sem] theorem Kd (H : ab) (r : Bool) : Fk H false (some r) = some (.t (.bool r), H) := (rfl)
@[go_sem] theorem Ke (H : ab) (n : Nat) (neg : Bool) (xs ys : List T) : mC H (.ints n) neg (some (.t (.agg xs))) (some (.t (.agg ys))) = if xs.length = n then Fk H neg (iq xs ys) else none := by
 simp only[mC,Option.bind_some,Gw,eqD]
 by_cases h:xs.length=n
 · simp only[if_pos h]
   cases iq xs ys with
   | none=>rfl
   | some r=>cases neg<;>rfl
 · simp only[if_neg h];rfl
@[go_sem] theorem NN : ((2 : Nat) : Int) = 2 := (rfl)
@[go_sem] theorem G8 : ((3 : Nat) : Int) = 3 := (rfl)
def wH(n:Nat)(p:Nat→Bool):Nat:=((List.range n).find? p).getD 0
theorem CA{gc:Bool}{dead:List Nat}{c:C}{vs:List D}{H:ab}(s:Nat→St)(n:Nat)(p:Nat→Bool)(e:Nat→Ex×St)(eN:Ex×St)
 (h0:(⟨gy dead vs,H⟩:St)=s 0)
 (hs:∀j,j<n→p j=false→iQ gc dead (s j).H.length (exS bY c (s j))=some (s (j+1)))
 (he:∀j,j<n→p j=true→exS bY c (s j)=some (e j)∧(e j).1≠ .normal)
 (hN:exS bY c (s n)=some eN) (hn:eN.1≠ .normal):
 exS bY (.loop gc dead c) ⟨vs,H⟩=some (if(List.range n).any p=true then e (wH n p)else eN):=by
 rw[jV s n p e eN h0 hs he hN hn,←Fb]
 unfold wH
 cases hf:(List.range n).find? p with
 | none=>simp
 | some k=>simp
theorem Kf(n:Nat)(p:Nat→Bool):(List.range n).all p= !((List.range n).any fun j=> !p j):=by
 rw[List.all_eq_not_any_not]
@[go_sem] theorem Rw : fS [] [] [] = some true := (rfl)
@[go_sem] theorem Rx (ks : List Bool) (k : IntKind) (a b : Int) (xs ys : List T) : fS (true :: ks) (.int k a :: xs) (.int k b :: ys) = Fj (decide (a = b)) (fS ks xs ys) := by
 simp only[fS,if_true,PE]
 cases fS ks xs ys<;>rfl
@[go_sem] theorem NQ (ks : List Bool) (a b : Bool) (xs ys : List T) : fS (false :: ks) (.bool a :: xs) (.bool b :: ys) = Fj (decide (a = b)) (fS ks xs ys) := by
 simp only[fS,show(a==b)=decide (a=b)from rfl]
 cases fS ks xs ys<;>rfl
@[go_sem] theorem UE (H : ab) (ks : List Bool) (neg : Bool) (xs ys : List T) : mC H (.sc ks) neg (some (.t (.agg xs))) (some (.t (.agg ys))) = Fk H neg (fS ks xs ys) := by
 simp only[mC,Option.bind_some,Gw,eqD]
 cases fS ks xs ys with
 | none=>rfl
 | some r=>cases neg<;>rfl
end Go.Ev
namespace Go.Ev
open Go
section
variable (H : ab) (sz id ep n lo hi : Nat) (i j : Int) (fz : Bool)
def scO(r:D):Option Obj→Option (D×ab)
 | some (.arr sz' _ ep' es)=>if ep=ep'∧n=es.length then(if sz'=sz then some (r,H)else none)else none
 | _=>none
@[go_sem] theorem XD (r : D) (sz' : Nat) (pin : Bool) (es : List D) : scO H sz ep n r (some (.arr sz' pin ep es)) = if n = es.length then (if sz' = sz then some (r, H) else none) else none := by simp [scO]
theorem scR{l h:Nat}:((dv H id ep n).bind fun a=>if l≤h∧h≤n∧a.1=sz then some (D.sub id ep n l h)else none).map (fun d=>(d,H))=if l≤h then(if h≤n then scO H sz ep n (.sub id ep n l h) H[id]? else none)else none:=by
 simp only[dv]
 generalize H[id]?=o
 by_cases h1:l≤h
 · by_cases h2:h≤n
   · rw[if_pos h1,if_pos h2]
     rcases o with _ | (_ | ⟨sz',pin,ep',es⟩)
     · rfl
     · rfl
     · simp only[scO]
       by_cases h3:ep=ep'∧n=es.length
       · rw[if_pos h3,if_pos h3,Option.bind_some]
         by_cases h4:sz'=sz
         · rw[if_pos h4,if_pos ⟨h1,h2,h4⟩];rfl
         · rw[if_neg h4,if_neg fun h=>h4 h.2.2];rfl
       · rw[if_neg h3,if_neg h3];rfl
   · rw[if_pos h1,if_neg h2]
     rcases o with _ | (_ | ⟨sz',pin,ep',es⟩)
     · rfl
     · rfl
     · by_cases h3:ep=ep'∧n=es.length
       · simp only[if_pos h3,Option.bind_some];rw[if_neg fun h=>h2 h.2.1];rfl
       · simp only[if_neg h3];rfl
 · rw[if_neg h1]
   rcases o with _ | (_ | ⟨sz',pin,ep',es⟩)
   · rfl
   · rfl
   · by_cases h3:ep=ep'∧n=es.length
     · simp only[if_pos h3,Option.bind_some];rw[if_neg fun h=>h1 h.1];rfl
     · simp only[if_neg h3];rfl
@[go_sem] theorem Kg : wt H sz (some (.ref id ep n)) (some none) (some (some i)) = if 0 ≤ i then (if i ≤ n then scO H sz ep n (.sub id ep n 0 i.toNat) H[id]? else none) else none := by
 simp only[wt,Option.bind_some,jg,bound,idx]
 by_cases h1:0≤i
 · rw[if_pos h1,if_pos h1,Option.bind_some,scR,if_pos (Nat.zero_le _)]
   by_cases h2:i≤n
   · rw[if_pos h2,if_pos (by omega)]
   · rw[if_neg h2,if_neg (by omega)]
 · rw[if_neg h1,if_neg h1];rfl
@[go_sem] theorem Kh : wt H sz (some (.ref id ep n)) (some (some i)) (some none) = if 0 ≤ i then (if i ≤ n then scO H sz ep n (.sub id ep n i.toNat n) H[id]? else none) else none := by
 simp only[wt,Option.bind_some,jg,bound,idx]
 by_cases h1:0≤i
 · rw[if_pos h1,if_pos h1,Option.bind_some,scR]
   by_cases h2:i≤n
   · rw[if_pos h2,if_pos (by omega),if_pos (by omega)]
   · rw[if_neg h2,if_neg (by omega)]
 · rw[if_neg h1,if_neg h1];rfl
@[go_sem] theorem Fl : wt H sz (some (.ref id ep n)) (some (some i)) (some (some j)) = if 0 ≤ i then (if i ≤ j then (if j ≤ n then scO H sz ep n (.sub id ep n i.toNat j.toNat) H[id]? else none) else none) else none := by
 simp only[wt,Option.bind_some,jg,bound,idx]
 by_cases h1:0≤i
 · rw[if_pos h1,if_pos h1,Option.bind_some]
   by_cases h0:i≤j
   · rw[if_pos h0,if_pos (by omega),Option.bind_some,scR,if_pos (by omega)]
     by_cases h2:j≤n
     · rw[if_pos h2,if_pos (by omega)]
     · rw[if_neg h2,if_neg (by omega)]
   · rw[if_neg h0]
     by_cases h2:0≤j
     · rw[if_pos h2,Option.bind_some,scR,if_neg (by omega)]
     · rw[if_neg h2];rfl
 · rw[if_neg h1,if_neg h1];rfl
@[go_sem] theorem Ki : wt H sz (some .nil) (some none) (some (some i)) = if i = 0 then some (.nil, H) else none := by
 simp only[wt,Option.bind_some,jg,bound,idx]
 by_cases h1:0≤i
 · rw[if_pos h1,Option.bind_some]
   by_cases h2:i=0
   · rw[if_pos h2,if_pos (by omega)];rfl
   · rw[if_neg h2,if_neg (by omega)];rfl
 · rw[if_neg h1,if_neg (by omega)];rfl
@[go_sem] theorem Kj : wt H sz (some .nil) (some (some i)) (some none) = if i = 0 then some (.nil, H) else none := by
 simp only[wt,Option.bind_some,jg,bound,idx]
 by_cases h1:0≤i
 · rw[if_pos h1,Option.bind_some]
   by_cases h2:i=0
   · rw[if_pos h2,if_pos (by omega)];rfl
   · rw[if_neg h2,if_neg (by omega)];rfl
 · rw[if_neg h1,if_neg (by omega)];rfl
def zn(x:D)(ys:List D):Option (D×ab):=if bW sz ys=true then(match x with
 | .nil=>if ys.length≤4294967296 then some (.ref H.length 0 ys.length,H++[.arr sz false 0 ys])else none
 | .ref id ep n=>qp H sz id ep n ys H[id]?
 | _=>none)else none
@[go_sem] theorem UF (ys : List D) : zn H sz .nil ys = if bW sz ys = true then (if ys.length ≤ 4294967296 then some (.ref H.length 0 ys.length, H ++ [.arr sz false 0 ys]) else none) else none := (rfl)
@[go_sem] theorem UG (ys : List D) : zn H sz (.ref id ep n) ys = if bW sz ys = true then qp H sz id ep n ys H[id]? else none := (rfl)
@[go_sem] theorem G9 : bW sz [] = true := (rfl)
@[go_sem] theorem Fm (d : D) (r : List D) : bW sz (d :: r) = jv sz d.cells := by
 rw[Bool.eq_iff_iff,dy];simp[bW]
def Ry(x:D):Option Obj→Option (D×ab)
 | some (.arr _ _ ep' es)=>if ep=ep'∧n=es.length then zn H sz x ((es.drop lo).take (hi-lo))else none
 | _=>none
def Rz(x:D):Option Obj→Option (D×ab)
 | some (.arr _ _ ep' es)=>if ep=ep'∧n=es.length then zn H sz x es else none
 | _=>none
@[go_sem] theorem UH (x : D) (sz' : Nat) (pin : Bool) (es : List D) : Ry H sz ep n lo hi x (some (.arr sz' pin ep es)) = if n = es.length then zn H sz x ((es.drop lo).take (hi - lo)) else none := by simp [Ry]
@[go_sem] theorem UI (x : D) (sz' : Nat) (pin : Bool) (es : List D) : Rz H sz ep n x (some (.arr sz' pin ep es)) = if n = es.length then zn H sz x es else none := by simp [Rz]
theorem CB(x:D)(ys:List D):(if bW sz ys=true then(match x with
 | .nil=>if ys.length≤lim then some (D.ref H.length 0 ys.length,H++[.arr sz false 0 ys])else none
 | .ref id ep n=>(dv H id ep n).bind fun a=>if a.1=sz∧n+ys.length≤lim then some (.ref id ep (n+ys.length),H.set id (.arr sz a.2.1 ep (a.2.2++ys)))else none
 | _=>none)else none)=zn H sz x ys:=by
 unfold zn
 split
 · cases x with
   | ref id ep n=>
     simp only[dv]
     generalize H[id]?=o
     rcases o with _ | (_ | ⟨sz',pin,ep',es⟩)
     · rfl
     · rfl
     · simp only[qp]
       by_cases h1:ep=ep'∧n=es.length
       · rw[if_pos h1,Option.bind_some]
         by_cases h2:sz'=sz∧n+ys.length≤lim
         · rw[if_pos h2,if_pos ⟨h1.1,h1.2,h2⟩]
         · rw[if_neg h2,if_neg fun h=>h2 h.2.2]
       · rw[if_neg h1,if_neg fun h=>h1 ⟨h.1,h.2.1⟩];rfl
   | _=>rfl
 · rfl
theorem pT(x y:D)(ys:List D)(h:elems H y=some ys):kr H sz false (some x) (some y)=zn H sz x ys:=by
 simp only[kr,Option.bind_some,iN,h,Bool.false_eq_true,if_false]
 exact CB H sz x ys
@[go_sem] theorem DZ (x : D) : kr H sz false (some x) (some .nil) = zn H sz x [] := pT H sz x .nil [] rfl
@[go_sem] theorem D0 (x : D) : kr H sz false (some x) (some (.ref id ep n)) = Rz H sz ep n x H[id]? := by
 cases he:elems H (.ref id ep n)with
 | some ys=>
   rw[pT H sz x _ ys he]
   simp only[elems,dv]at he
   generalize H[id]?=o at he
   rcases o with _ | (_ | ⟨sz',pin,ep',es⟩)
   · cases he
   · cases he
   · simp only[Rz]
     by_cases h1:ep=ep'∧n=es.length
     · simp only[if_pos h1]at he ⊢;cases he;rfl
     · simp only[if_neg h1]at he;cases he
 | none=>
   have:kr H sz false (some x) (some (.ref id ep n))=none:=by simp only[kr,Option.bind_some,iN,he];rfl
   rw[this]
   simp only[elems,dv]at he
   generalize H[id]?=o at he
   rcases o with _ | (_ | ⟨sz',pin,ep',es⟩)
   · rfl
   · rfl
   · simp only[Rz]
     by_cases h1:ep=ep'∧n=es.length
     · simp only[if_pos h1]at he;cases he
     · simp only[if_neg h1]
@[go_sem] theorem D1 (x : D) : kr H sz false (some x) (some (.sub id ep n lo hi)) = Ry H sz ep n lo hi x H[id]? := by
 cases he:elems H (.sub id ep n lo hi)with
 | some ys=>
   rw[pT H sz x _ ys he]
   simp only[elems,dv]at he
   generalize H[id]?=o at he
   rcases o with _ | (_ | ⟨sz',pin,ep',es⟩)
   · cases he
   · cases he
   · simp only[Ry]
     by_cases h1:ep=ep'∧n=es.length
     · simp only[if_pos h1]at he ⊢;cases he;rfl
     · simp only[if_neg h1]at he;cases he
 | none=>
   have:kr H sz false (some x) (some (.sub id ep n lo hi))=none:=by simp only[kr,Option.bind_some,iN,he];rfl
   rw[this]
   simp only[elems,dv]at he
   generalize H[id]?=o at he
   rcases o with _ | (_ | ⟨sz',pin,ep',es⟩)
   · rfl
   · rfl
   · simp only[Ry]
     by_cases h1:ep=ep'∧n=es.length
     · simp only[if_pos h1]at he;cases he
     · simp only[if_neg h1]
def NS(ep n lo hi:Nat):Option Obj→Option (List D)
 | some (.arr _ _ ep' es)=>if ep=ep'∧n=es.length then some ((es.drop lo).take (hi-lo))else none
 | _=>none
def UJ(x:D):Option (List D)→Option (D×ab)
 | some ys0=>(bn (fun d=>(frz H depth d).map .t) ys0).bind fun ys=>if bW sz ys then zn (pins H (ys0.flatMap (cY H depth))) sz x ys else none
 | none=>none
@[go_sem] theorem Y1 (x : D) (ts : List T) : UJ H sz x (some (ts.map .t)) = zn H sz x (ts.map .t) := by
 simp only[UJ,oH,Option.bind_some,Cb,pins]
 by_cases h:bW sz (ts.map D.t)=true
 · rw[if_pos h]
 · rw[if_neg h];unfold zn;rw[if_neg h]
@[go_sem] theorem Fo (x : D) : kr H sz true (some x) (some (.sub id ep n lo hi)) = UJ H sz x (NS ep n lo hi H[id]?) := by
 have e:elems H (.sub id ep n lo hi)=NS ep n lo hi H[id]?:=by
  simp only[elems,dv]
  generalize H[id]?=o
  rcases o with _ | (_ | ⟨sz',pin,ep',es⟩)
  · rfl
  · rfl
  · simp only[NS]
    by_cases h1:ep=ep'∧n=es.length
    · simp only[if_pos h1];rfl
    · simp only[if_neg h1];rfl
 simp only[kr,Option.bind_some,iN,e]
 cases NS ep n lo hi H[id]? with
 | none=>rfl
 | some ys0=>
   simp only[Option.bind_some,UJ,if_true]
   cases hm:bn (fun d=>(frz H depth d).map D.t) ys0 with
   | none=>rfl
   | some ys=>
     simp only[Option.bind_some]
     refine(CB _ _ _ _).trans ?_
     by_cases h:bW sz ys=true
     · rw[if_pos h]
     · rw[if_neg h];unfold zn;rw[if_neg h]
@[go_sem] theorem UK (ep n lo hi sz : Nat) (pin : Bool) (ts : List T) : NS ep n lo hi (some (.arr sz pin ep (ts.map .t))) = if n = ts.length then some (((ts.drop lo).take (hi - lo)).map .t) else none := by
 simp only[NS,true_and,List.length_map,List.map_take,List.map_drop]
def CC(ds:List D):Option (D×ab):=if ds.all (fun d=>d.cells.length==sz&&d.eF)then some (.ref H.length 0 ds.length,H++[.arr sz false 0 ds])else none
@[go_sem] theorem Y2 (call : aC) (get : X → Option D) (xs : List X) : evO call get H (.bsr xs sz) = (bn get xs).bind (CC H sz) := (rfl)
@[go_sem] theorem RA : CC H sz [] = some (.ref H.length 0 0, H ++ [.arr sz false 0 []]) := (rfl)
@[go_sem] theorem RB (k : IntKind) (n : Int) : CC H 1 [.t (.int k n)] = some (.ref H.length 0 1, H ++ [.arr 1 false 0 [.t (.int k n)]]) := (rfl)
@[go_sem] theorem RC (cs : List D) : CC H sz [.agg cs] = if jv sz cs = true then some (.ref H.length 0 1, H ++ [.arr sz false 0 [.agg cs]]) else none := by
 simp only[CC,List.all_cons,List.all_nil,Bool.and_true,D.cells,D.eF]
 by_cases h:jv sz cs=true
 · rw[if_pos h,if_pos (by simpa using dy.1 h)];rfl
 · rw[if_neg h,if_neg (by intro e;exact h (dy.2 (by simpa using e)))]
end
@[go_sem] theorem Hc : (1 : Int).toNat = 1 := (rfl)
@[go_sem] theorem Kk : (2 : Int).toNat = 2 := (rfl)
@[go_sem] theorem Fp : (3 : Int).toNat = 3 := (rfl)
section
variable {H t : ab} {i j k : Nat} {o o' : Obj}
theorem qz(h:i<H.length):(H++t)[i]?=H[i]?:=List.getElem?_append_left h
theorem Al(h:i<H.length):(H.set i o)[i]?=some o:=by simp[h]
theorem lB(h:i≠j):(H.set i o)[j]?=H[j]?:=List.getElem?_set_ne h
theorem uU(h:H[i]?=some o):i<H.length:=(List.getElem?_eq_some_iff.1 h).1
end
end Go.Ev
namespace Go.Ev.N
def CD:Nat:=78
def Bd:Nat:=79
def Am:Nat:=80
def Kl:Nat:=81
def D2:Nat:=82
def Km:Nat:=83
def Kn:Nat:=84
def Ko:Nat:=85
def NT:Nat:=86
def Hd:Nat:=87
def Kp:Nat:=88
def He:Nat:=89
def Hf:Nat:=90
def NU:Nat:=91
def Hg:Nat:=92
def NV:Nat:=93
def RD:Nat:=94
def RE:Nat:=95
def Kq:Nat:=96
def NW:Nat:=97
def Kr:Nat:=98
def Ks:Nat:=99
def Kt:Nat:=100
def NX:Nat:=101
def RF:Nat:=102
def xi:Nat:=103
def Fq:Nat:=104
def bE:Nat:=105
def Hh:Nat:=106
def NY:Nat:=107
def NZ:Nat:=108
def Ku:Nat:=109
def N0:Nat:=110
def N1:Nat:=111
def Kv:Nat:=112
def Kw:Nat:=113
def N2:Nat:=114
def Hi:Nat:=115
def N3:Nat:=116
def N4:Nat:=117
def Hj:Nat:=118
def Hk:Nat:=119
def Fs:Nat:=120
def Ft:Nat:=121
def zo:Nat:=122
end Go.Ev.N
namespace Go.Ev.N
def CE:Nat:=123
def Be:Nat:=124
def D3:Nat:=125
def CF:Nat:=126
def Kx:Nat:=127
def Ky:Nat:=128
def Kz:Nat:=129
def N5:Nat:=130
def N6:Nat:=131
def KA:Nat:=132
def KB:Nat:=133
def Fu:Nat:=134
def Fv:Nat:=135
def N7:Nat:=136
def KC:Nat:=137
def Fw:Nat:=138
def Hl:Nat:=139
def D4:Nat:=140
def Hm:Nat:=141
def Fx:Nat:=142
def CG:Nat:=143
def CH:Nat:=144
def CI:Nat:=145
def Hn:Nat:=146
def Ho:Nat:=147
def An:Nat:=148
end Go.Ev.N
namespace Go.Ev.N
def zp:Nat:=149
def CJ:Nat:=150
def CK:Nat:=151
def Bf:Nat:=152
def KD:Nat:=153
def KE:Nat:=154
def Hp:Nat:=155
def Hq:Nat:=156
def KF:Nat:=157
def N8:Nat:=158
def KG:Nat:=159
def wI:Nat:=160
def zq:Nat:=161
def KH:Nat:=162
def N9:Nat:=163
def Hr:Nat:=164
def Oa:Nat:=165
def Ht:Nat:=166
def bZ:Nat:=167
def mE:Nat:=168
def Fy:Nat:=169
def FA:Nat:=170
def Ao:Nat:=171
def FB:Nat:=172
def ed:Nat:=173
def nW:Nat:=174
def CL:Nat:=175
def CM:Nat:=176
def dj:Nat:=177
end Go.Ev.N
namespace Go.Ev.K
open Go.Ev
def bZ:Fn:={ nargs:=1,vars:=[0,1,2],body:=(.seq (.reg [w 1 (.bx v0 2),w 2 (.mv (.b false))] []) (.seq (.reg [h 2 v1,u (.ca N.ed 0 [] [.l 0]),u (.bin .eql l0 (.i 0)),w 2 (.mv l0)] []) .ret)),res:=[(2,none)]}
end Go.Ev.K
namespace Go.Ev
class dW [Lib]:Prop where
 lC:Lib.fs N.bZ=some K.bZ
namespace K
variable [Lib] [dW]
theorem lC:Lib.fs N.bZ=some K.bZ:=dW.lC
end K
end Go.Ev
namespace Go.Ev.K
open Go.Ev
def jz:C:=(.its [u (.bin .lss v8 v7)] [] 0 .skip (.exit 0) (.seq (.blk 1 (.seq (.reg [a 2 v6 v8,h 2 l0,w 3 (.al [.t (.int .i64 (0)),.t (.bool false)] []),u (.st l0 l1 2 [])] []) (.ite [f 0 v3,g l0,u (.bin .lss l0 (.i (-10000))),m l0,y 0 false (.fa v3 0),y 1 false (.ld l0 1 false),y 2 false (.bin .gtr l0 (.i 10000)),u (.pk l3 (.b true) l0)] [] 0 (.seq (.reg [w 2 (.mv (.i 1))] []) .ret) .skip))) (.reg [u (.bin .add v8 (.i 1)),w 8 (.mv l0)] [])))
def oT:C:= .loop true [0,2,3,4,5,9,10,11] K.jz
def jA:C:=(.its [u (.bin .lss v11 v10)] [] 0 .skip (.exit 2) (.seq (.blk 3 (.seq (.reg [a 10 v9 v11,h 10 l0,w 5 (.al [.t (.int .i64 (0)),.t (.int .i64 (0)),.t (.int .i64 (0)),.t (.int .i64 (0)),.t (.bool false),.t (.bool false),.t (.int .i64 (0)),.t (.int .i64 (0)),.t (.int .i64 (0)),.t (.int .i64 (0))] []),u (.st l0 l1 10 [])] []) (.seq (.ite [f 0 v5,g l0,u (.bin .lss l0 (.i 0)),m l0,y 0 false (.fa v5 0),y 1 false (.ld l0 1 false),y 2 false (.mv v4),y 3 false (.bin .geq l1 l0),u (.pk l4 (.b true) l0),m l0,y 0 false (.fa v5 1),y 1 false (.ld l0 1 false),y 2 false (.bin .lss l0 (.i 0)),u (.pk l3 (.b true) l0),m l0,y 0 false (.fa v5 1),y 1 false (.ld l0 1 false),y 2 false (.mv v4),y 3 false (.bin .geq l1 l0),u (.pk l4 (.b true) l0),m l0,y 0 false (.fa v5 0),y 1 false (.ld l0 1 false),y 2 false (.fa v5 1),y 3 false (.ld l0 1 false),y 4 false (.bin .eql l2 l0),u (.pk l5 (.b true) l0)] [] 0 (.seq (.reg [w 2 (.mv (.i 4))] []) .ret) .skip) (.seq (.ite [f 2 v5,g l0,u (.bin .lss l0 (.i 1)),m l0,y 0 false (.fa v5 2),y 1 false (.ld l0 1 false),y 2 false (.bin .gtr l0 (.i 100000)),u (.pk l3 (.b true) l0),m l0,y 0 false (.fa v5 3),y 1 false (.ld l0 1 false),y 2 false (.bin .lss l0 (.i 1)),u (.pk l3 (.b true) l0),m l0,y 0 false (.fa v5 3),y 1 false (.ld l0 1 false),y 2 false (.bin .gtr l0 (.i 1000)),u (.pk l3 (.b true) l0)] [] 0 (.seq (.reg [w 2 (.mv (.i 1))] []) .ret) .skip) (.ite [f 6 v5,h 2 l0,u (.ca N.dj 0 [] [.l 0,.i 1,.i 262144]),u (.un .not l0),m l0,y 0 false (.fa v5 8),y 1 false (.ld l0 2 true),y 2 false (.ca N.dj 0 [] [.l 0,.i (-2199023255552),.i 2199023255552]),y 3 false (.un .not l0),u (.pk l4 (.b true) l0)] [] 0 (.seq (.reg [w 2 (.mv (.i 1))] []) .ret) .skip))))) (.reg [u (.bin .add v11 (.i 1)),w 11 (.mv l0)] [])))
def oU:C:= .loop true [0,1,2,3,5,6,7,8] K.jA
def ed:Fn:={ nargs:=1,vars:=[0,1,2,4,5,7,19,20,21,38,39,40],body:=(.seq (.reg [w 1 (.bx v0 2),w 2 (.mv (.i 0))] []) (.seq (.ite [f 0 v1,g l0,u (.ln l0),u (.bin .gtr l0 (.i 64)),m l0,y 0 false (.fa v1 1),y 1 false (.ld l0 1 false),y 2 false (.ln l0),y 3 false (.bin .gtr l0 (.i 128)),u (.pk l4 (.b true) l0)] [] 0 (.seq (.reg [w 2 (.mv (.i 2))] []) .ret) .skip) (.seq (.seq (.reg [f 0 v1,w 6 (.ld l0 1 false),w 7 (.ln l0),w 8 (.mv (.i 0))] []) (.blk 0 K.oT)) (.seq (.reg [f 0 v1,g l0,u (.ln l0),w 4 (.mv l0)] []) (.seq (.seq (.reg [f 1 v1,w 9 (.ld l0 1 false),w 10 (.ln l0),w 11 (.mv (.i 0))] []) (.blk 2 K.oU)) (.seq (.reg [w 2 (.mv (.i 0))] []) .ret)))))),res:=[(2,none)]}
def dj:Fn:={ nargs:=3,vars:=[0,1,2,3,6],body:=(.seq (.reg [w 3 (.bx v0 2),w 4 (.mv (.b false))] []) (.seq (.reg [m v1,f 0 v3,g l0,u (.bin .leq l2 l0),m l0,y 0 true (.fa v3 0),y 1 true (.ld l0 1 false),y 2 true (.fa v3 1),y 3 true (.ld l0 1 false),y 4 true (.bin .leq l2 l0),u (.pk l5 l0 (.b false)),m l0,y 0 true (.fa v3 1),y 1 true (.ld l0 1 false),y 2 true (.mv v2),y 3 true (.bin .leq l1 l0),u (.pk l4 l0 (.b false)),w 4 (.mv l0)] []) .ret)),res:=[(4,none)]}
end Go.Ev.K
namespace Go.Ev
class dR [Lib]:Prop where
 lD:Lib.fs N.ed=some K.ed
 kx:Lib.fs N.dj=some K.dj
namespace K
variable [Lib] [dR]
theorem lD:Lib.fs N.ed=some K.ed:=dR.lD
theorem kx:Lib.fs N.dj=some K.dj:=dR.kx
end K
end Go.Ev
namespace Go.Ev
open Go
variable [Lib] [bQ] [bC] [dW] [dR]
section
variable (H : ab) (sz : Nat)
def Hu(id ep n lo hi:Nat)(ys:List D):Option Obj→Option (D×ab)
 | some (.arr sz' pin ep' es)=>if ep=ep'∧n=es.length then H7 H id ep (sz',pin,es) lo hi ys sz else none
 | _=>none
def cpD(x:D)(ys:List D):Option (D×ab):=if bW sz ys=true then(match x with
 | .ref id ep n=>Hu H sz id ep n 0 n ys H[id]?
 | .sub id ep n lo hi=>Hu H sz id ep n lo hi ys H[id]?
 | _=>none)else none
def UL(x y:Option D):Option (D×ab):=x.bind fun a=>y.bind fun b=>uq H a b sz
@[go_sem] theorem Z1 (call : aC) (get : X → Option D) (x y : X) : evO call get H (.cp x y sz) = UL H sz (get x) (get y) := (rfl)
theorem zr(x y:D)(ys:List D)(h:elems H y=some ys):uq H x y sz=cpD H sz x ys:=by
 unfold uq cpD
 rw[h,Option.bind_some]
 split
 · rename_i hh
   cases x with
   | ref id ep n=>
     simp only[dv,Hu]
     cases H[id]? with
     | none=>rfl
     | some o=>
       cases o with
       | box cs=>rfl
       | arr sz' pin ep' es=>
         simp only
         by_cases c:ep=ep'∧n=es.length
         · rw[if_pos c,if_pos c];rfl
         · rw[if_neg c,if_neg c];rfl
   | sub id ep n lo hi=>
     simp only[dv,Hu]
     cases H[id]? with
     | none=>rfl
     | some o=>
       cases o with
       | box cs=>rfl
       | arr sz' pin ep' es=>
         simp only
         by_cases c:ep=ep'∧n=es.length
         · rw[if_pos c,if_pos c];rfl
         · rw[if_neg c,if_neg c];rfl
   | _=>rfl
 · rfl
@[go_sem] theorem Y3 (x : D) (ts : List T) : UL H sz (some x) (some (.t (.sl ts))) = cpD H sz x (ts.map .t) := zr H sz x (.t (.sl ts)) (ts.map .t) rfl
def cpE(x:D)(ep n lo hi:Nat):Option Obj→Option (D×ab)
 | some (.arr _ _ ep' es)=>if ep=ep'∧n=es.length then cpD H sz x ((es.drop lo).take (hi-lo))else none
 | _=>none
@[go_sem] theorem XE (x : D) (n lo hi sz' : Nat) (pin : Bool) (ep : Nat) (es : List D) : cpE H sz x ep n lo hi (some (.arr sz' pin ep es)) = if n = es.length then cpD H sz x ((es.drop lo).take (hi - lo)) else none := by simp [cpE]
@[go_sem] theorem UM (x : D) (id ep n lo hi : Nat) : UL H sz (some x) (some (.sub id ep n lo hi)) = cpE H sz x ep n lo hi H[id]? := by
 unfold UL
 simp only[Option.bind_some]
 cases h:H[id]? with
 | none=>simp[uq,elems,dv,h,cpE]
 | some o=>
   cases o with
   | box cs=>simp[uq,elems,dv,h,cpE]
   | arr sz' pin ep' es=>
     by_cases c:ep=ep'∧n=es.length
     · rw[zr H sz x _ ((es.drop lo).take (hi-lo)) (by simp[elems,dv,h,c])]
       simp only[cpE,if_pos c]
     · simp[uq,elems,dv,h,cpE,c]
@[go_sem] theorem XF (id ep n : Nat) (ys : List D) : cpD H sz (.ref id ep n) ys = if bW sz ys = true then Hu H sz id ep n 0 n ys H[id]? else none := (rfl)
@[go_sem] theorem XG (id ep n lo hi : Nat) (ys : List D) : cpD H sz (.sub id ep n lo hi) ys = if bW sz ys = true then Hu H sz id ep n lo hi ys H[id]? else none := (rfl)
@[go_sem] theorem UN (id n lo hi : Nat) (ys : List D) (ep : Nat) (es : List D) : Hu H sz id ep n lo hi ys (some (.arr sz false ep es)) =
 if n=es.length then(if min ys.length (hi-lo)=0 then some (.t (.int .i64 0),H)else some (.t (.int .i64 ((min ys.length (hi-lo):Nat):Int)),H.set id (.arr sz false ep (es.take lo++ys.take (min ys.length (hi-lo))++es.drop (lo+min ys.length (hi-lo))))))else none:=by
 simp[Hu,H7]
end
end Go.Ev
namespace Go.Ev
open Go
variable [Lib] [bQ] [bC]
structure Spn where
 low:Int
 high:Int
instance : Dat Spn := ⟨⟨0, 0⟩⟩
abbrev Spn.e(f:Spn):T:= .agg [tI f.low,tI f.high]
def Spn.ok(f:Spn):Prop:= -1125899906842624≤f.low∧f.high≤1125899906842624∧f.low≤f.high
instance (f : Spn) : Decidable f.ok := by unfold Spn.ok; infer_instance
def CN(m:bj)(l:List Spn):Bool:=(List.range l.length).all (fun j=>decide (nth l j).ok)&&decide (l.length=m.roads.length)
def pU(x:Road)(f:Spn)(back:Bool):Int:=
 if x.closed=true then -1 else
 let g:=if back then -f.low else f.high
 let out:=if 0<g then(x.len*x.area*1000).tdiv g else -1
 if(if back then f.low<500*x.area else -500*x.area<f.high)∧(out<0∨x.len<out)then x.len else out
def RG(l:List Int)(p q:Nat)(t:Int):Bool:=decide (0≤t∧nth l p+t<nth l q)
def XH(l:List Int)(p q:Nat)(t:Int):List Int:=if RG l p q t=true then l.set q (nth l p+t)else l
def Hv(m:bj)(fl:List Spn)(k:Nat)(back:Bool)(l:List Int):List Int×Bool:=
 (XH l ((nth m.roads k).src back).toNat ((nth m.roads k).dst back).toNat (pU (nth m.roads k) (nth fl k) back),RG l ((nth m.roads k).src back).toNat ((nth m.roads k).dst back).toNat (pU (nth m.roads k) (nth fl k) back))
def RH(m:bj)(fl:List Spn)(k:Nat)(s:List Int×Bool):List Int×Bool:=
 let a:=Hv m fl k false s.1
 let b:=Hv m fl k true a.1
 (b.1,s.2||a.2||b.2)
def CO(m:bj)(fl:List Spn)(l:List Int):Nat→List Int×Bool
 | 0=>(l,false)
 | k+1=>RH m fl k (CO m fl l k)
def KI(m:bj)(fl:List Spn)(l:List Int):List Int×Bool:=CO m fl l m.roads.length
section
variable {m : bj} (h : m.ok) {fl : List Spn}
include h
end
def UO(l:List Int):Nat→List Int
 | 0=>l
 | j+1=>if 2147483648<nth (UO l j) j then(UO l j).set j 1099511627776 else UO l j
def Hw(m:bj)(fl:List Spn)(l:List Int):List Int:=UO (jl (KI m fl) (YY l+1) l) m.places.length
end Go.Ev
namespace Go.Ev
open Go
variable [Lib] [bQ] [bC]
def plS(t x:Int):Prop:=x=1099511627776∨(t≤x∧x≤2147483648)
instance (t x : Int) : Decidable (plS t x) := by unfold plS; infer_instance
def CP(m:bj)(s:Wh):Bool:=(List.range s.frm.length).all (fun j=>decide (plS s.time (nth s.frm j)))&&decide (s.frm.length=m.places.length∧inT s.time)
def KJ(l:List Int)(t:Int)(n:Nat):List Int:=(List.range n).map fun(p:Nat)=>if(p:Int)∈l then t else 1099511627776
@[simp] theorem RI (l : List Int) (t : Int) (n : Nat) : (KJ l t n).length = n := by simp [KJ]
def RJ(m:bj)(fl:List Spn)(l:List Int)(t:Int):Wh×Int:=
 if CN m fl=false then(⟨0,[]⟩,6)else if nB l m.places.length=false then(⟨0,[]⟩,3)else if ¬inT t then(⟨0,[]⟩,8)else
 (⟨t,Hw m fl (KJ l t m.places.length)⟩,0)
def Hx(m:bj)(fl:List Spn)(frm:List Int)(t:Int)(k:Nat)(back:Bool)(l:List Int):List Int:=
 if nth frm ((nth m.roads k).src back).toNat≤t∧0≤pU (nth m.roads k) (nth fl k) back then l.set ((nth m.roads k).dst back).toNat (min (nth l ((nth m.roads k).dst back).toNat) t)else l
def RK(m:bj)(fl:List Spn)(frm:List Int)(t:Int)(k:Nat)(l:List Int):List Int:=Hx m fl frm t k true (Hx m fl frm t k false l)
def chN(m:bj)(fl:List Spn)(frm:List Int)(t:Int):Nat→List Int
 | 0=>frm
 | k+1=>RK m fl frm t k (chN m fl frm t k)
def XI(t:Int)(l:List Int):Nat→List Int
 | 0=>l
 | k+1=>(XI t l k).set k (max (nth (XI t l k) k) t)
def KK(m:bj)(old:List Spn)(next:bj)(fl:List Spn)(s:Wh)(t:Int):Wh×Int:=
 if CP m s=false∨CN m old=false∨CN next fl=false∨next.places.length≠m.places.length then(s,6)else
 if t<s.time∨2147483648<t then(s,8)else(⟨t,Hw next fl (XI t (chN m old s.frm t m.roads.length) m.places.length)⟩,0)
end Go.Ev
namespace Go.Ev
open Go
variable [Lib] [bQ] [bC] [dW] [dR]
theorem wJ(a b lo hi:Int)(h1:lo≤a)(h2:a≤b)(h3:b≤hi):bY 0 N.dj [.t (.agg [tI a,tI b]),I lo,I hi] []=some (B true,[]):=by
 refine aX K.kx rfl ?_
 simp (disch:=omega) only[go_sem,K.dj,↓reduceIte,Nat.reduceAdd,Nat.reduceSub]
theorem wK{m:bj}(h:m.ok):bY 0 N.ed [.t m.e] []=some (I 0,[]):=by
 refine aX K.lD rfl ?_
 have np:=h.np
 have nr:=h.nr
 have hs:=h.hs
 have rs:=h.rs
 obtain⟨places,roads⟩:=m
 simp only at np nr hs rs
 have l1:∀z0 z2 z3 z4 z5 z9 z10 z11:D,exS bY K.oT ⟨[z0,.bp 0 0,z2,z3,z4,z5,.t (.sl (places.map Place.e)),I places.length,I 0,z9,z10,z11],[.box (ag ⟨places,roads⟩)]⟩=
  some (.exit 0,⟨[.und,.bp 0 0,.und,.und,.und,.und,.t (.sl (places.map Place.e)),I places.length,I places.length,.und,.und,.und],[.box (ag ⟨places,roads⟩)]⟩):=by
  intro z0 z2 z3 z4 z5 z9 z10 z11
  refine ei (fun j=>⟨[.und,.bp 0 0,.und,.und,.und,.und,.t (.sl (places.map Place.e)),I places.length,I j,.und,.und,.und],[.box (ag ⟨places,roads⟩)]⟩) places.length rfl ?_ ?_ (by simp)
  · intro j hj
    have g:(places.map Place.e)[j]?=some (nth places j).e:=ek _ hj
    have q:=hs _ (b9 hj)
    generalize nth places j=x at*
    obtain⟨hh,sf⟩:=x
    simp only[ag]at*
    simp (disch:=omega) only[go_sem,K.jz,↓reduceIte,g,Nat.reduceAdd,Nat.reduceSub]
  · simp (disch:=omega) only[go_sem,K.jz,↓reduceIte,ag,Nat.reduceAdd,Nat.reduceSub]
 have l2:∀z0 z1 z2 z3 z5 z6 z7 z8:D,exS bY K.oU ⟨[z0,z1,z2,z3,I places.length,z5,z6,z7,z8,.t (.sl (roads.map Road.e)),I roads.length,I 0],[.box (ag ⟨places,roads⟩)]⟩=
  some (.exit 2,⟨[.und,.und,.und,.und,I places.length,.und,.und,.und,.und,.t (.sl (roads.map Road.e)),I roads.length,I roads.length],[.box (ag ⟨places,roads⟩)]⟩):=by
  intro z0 z1 z2 z3 z5 z6 z7 z8
  refine ei (fun j=>⟨[.und,.und,.und,.und,I places.length,.und,.und,.und,.und,.t (.sl (roads.map Road.e)),I roads.length,I j],[.box (ag ⟨places,roads⟩)]⟩) roads.length rfl ?_ ?_ (by simp)
  · intro j hj
    have g:(roads.map Road.e)[j]?=some (nth roads j).e:=ek _ hj
    have q:=rs _ (b9 hj)
    generalize nth roads j=x at*
    have f0:=q.f0;have f1:=q.f1;have t0:=q.t0;have t1:=q.t1;have ne:=q.ne;have l0:=q.l0;have l1:=q.l1;have a0:=q.a0;have a1:=q.a1
    have r0:=q.r0;have r1:=q.r1;have r2:=q.r2;have i0:=q.i0;have i1:=q.i1;have i2:=q.i2
    clear q
    obtain⟨frm,to,len,area,walk,closed,rl,rh,ll,lh⟩:=x
    simp only[ag]at*
    have s1:=wJ rl rh 1 262144 r0 r1 r2
    have s2:=wJ ll lh (-2199023255552) 2199023255552 i0 i1 i2
    simp (disch:=omega) only[go_sem,K.jA,↓reduceIte,g,s1,s2,Nat.reduceAdd,Nat.reduceSub]
  · simp (disch:=omega) only[go_sem,K.jA,↓reduceIte,ag,Nat.reduceAdd,Nat.reduceSub]
 simp only[ag]at l1 l2
 simp (disch:=omega) only[go_sem,K.ed,↓reduceIte,l1,l2,Nat.reduceAdd,Nat.reduceSub]
theorem lE{m:bj}(h:m.ok):bY 0 N.bZ [.t m.e] []=some (B true,[]):=by
 refine aX K.lC rfl ?_
 have c:=wK h
 obtain⟨places,roads⟩:=m
 simp (disch:=omega) only[go_sem,K.bZ,↓reduceIte,c,Nat.reduceAdd,Nat.reduceSub]
end Go.Ev
namespace Go.Ev.N
def Aq:Nat:=178
def Ar:Nat:=179
def Bg:Nat:=180
def As:Nat:=181
def Bh:Nat:=182
def CQ:Nat:=183
def Bi:Nat:=184
def KL:Nat:=185
def Hy:Nat:=186
def KM:Nat:=187
def CR:Nat:=188
def KN:Nat:=189
def dS:Nat:=190
def Hz:Nat:=191
def Ob:Nat:=192
def FC:Nat:=193
def dT:Nat:=194
def KO:Nat:=195
def Oc:Nat:=196
def RL:Nat:=197
def D5:Nat:=198
def cF:Nat:=199
def eY:Nat:=200
def cW:Nat:=201
def bf:Nat:=202
def HA:Nat:=203
def aH:Nat:=204
def CS:Nat:=205
def KP:Nat:=206
def HB:Nat:=207
def cG:Nat:=208
def cy:Nat:=209
def cH:Nat:=210
def gS:Nat:=211
def gT:Nat:=212
def cD:Nat:=213
def fO:Nat:=214
end Go.Ev.N
namespace Go.Ev.K
open Go.Ev
def dS:Fn:={ nargs:=2,vars:=[0,1,2,3,4],body:=(.seq (.reg [w 2 (.bx v0 2),w 3 (.bx v1 2),w 4 (.mv (.b false))] []) (.seq (.reg [h 2 v2,u (.ca N.bZ 0 [] [.l 0]),m l0,y 0 true (.ld v2 2 true),y 1 true (.ld v3 2 true),y 2 true (.ca N.cW 0 [] [.l 1,.l 0]),u (.pk l3 l0 (.b false)),m l0,y 0 true (.ld v2 2 true),y 1 true (.fa v3 1),y 2 true (.ld l0 1 false),y 3 true (.fa v3 0),y 4 true (.ld l0 1 false),y 5 true (.ca N.cF 0 [] [.l 4,.l 2,.l 0,.c (.fn N.eY [])]),y 6 true (.fa v3 1),y 7 true (.ld l0 1 false),y 8 true (.ca N.bf 0 [] [.l 2,.l 0]),u (.pk l9 l0 (.b false)),w 4 (.mv l0)] [(15,6)]) .ret)),res:=[(4,none)]}
end Go.Ev.K
namespace Go.Ev
class fP [Lib]:Prop where
 m7:Lib.fs N.dS=some K.dS
namespace K
variable [Lib] [fP]
theorem m7:Lib.fs N.dS=some K.dS:=fP.m7
end K
end Go.Ev
namespace Go.Ev.K
open Go.Ev
def dT:Fn:={ nargs:=3,vars:=[0,1,2,3,4,6,7],body:=(.seq (.reg [w 3 (.bx v0 2),w 4 (.bx v1 2),w 5 (.al [.t (.int .i64 (0)),.nil] []),w 6 (.mv (.i 0))] []) (.seq (.ite [h 2 v3,u (.ca N.bZ 0 [] [.l 0]),u (.un .not l0),m l0,y 0 false (.ld v3 2 true),y 1 false (.ld v4 2 true),y 2 false (.ca N.cW 0 [] [.l 1,.l 0]),y 3 false (.un .not l0),u (.pk l4 (.b true) l0)] [] 0 (.seq (.reg [h 2 v4,u (.st v5 l0 2 []),w 6 (.mv (.i 6))] []) .ret) .skip) (.seq (.ite [m v2,f 0 v4,g l0,u (.bin .lss l2 l0),m l0,y 0 false (.mv v2),y 1 false (.bin .gtr l0 (.i 2147483648)),u (.pk l2 (.b true) l0)] [] 0 (.seq (.reg [h 2 v4,u (.st v5 l0 2 []),w 6 (.mv (.i 8))] []) .ret) .skip) (.seq (.reg [m v2,h 2 v3,f 1 v4,g l0,m v2,u (.ca N.cF 0 [] [.l 3,.l 1,.l 0,.c (.fn N.eY [])]),u (.bd [.t (.int .i64 (0)),.nil] [(0,1,.l 5),(1,1,.l 0)]),u (.st v5 l0 2 []),w 6 (.mv (.i 0))] []) .ret)))),res:=[(5,some (2,true)),(6,none)]}
def oV:C:=(.seq (.ite [g v9] [] 0 .skip (.exit 0)) (.seq (.blk 1 (.seq (.reg [u (.st v9 (.b false) 1 [])] []) (.reg [h 2 v4,g v8,u (.mf N.cy [.v 5,.v 8,.v 6,.v 9]),u (.ca N.cG 0 [1] [.l 2,.l 1,.l 0])] []))) (.seq (.reg [w 10 (.ld v9 1 false)] []) (.reg [w 9 (.al [.t (.bool false)] []),u (.st l0 v10 1 [])] []))))
def pV:C:= .loop false [0,1,2,3,7,10] K.oV
def cF:Fn:={ nargs:=4,vars:=[0,1,2,3,4,6,7,8,9,10,18],body:=(.seq (.reg [w 4 (.bx v0 2),w 5 (.bx v2 1),w 6 (.bx v3 1),w 7 (.mv (.c (.nil)))] []) (.seq (.reg [m v1,u (.ca N.aH 1 [] [.l 0]),w 8 (.al [.nil] []),u (.st l0 l1 1 [])] []) (.seq (.seq (.reg [w 9 (.al [.t (.bool false)] []),u (.st l0 (.b true) 1 [])] []) (.blk 0 K.pV)) (.seq (.reg [g v8,w 7 (.mv l0)] []) .ret)))),res:=[(7,none)]}
def eY:Fn:={ nargs:=1,vars:=[2],body:=(.seq (.reg [w 0 (.mv (.b false))] []) (.seq (.reg [w 0 (.mv (.b true))] []) .ret)),res:=[(0,none)]}
def cW:Fn:={ nargs:=2,vars:=[0,1,2,3,4],body:=(.seq (.reg [w 2 (.bx v0 2),w 3 (.bx v1 2),w 4 (.mv (.b false))] []) (.seq (.reg [f 1 v3,g l0,u (.ln l0),f 0 v2,g l0,u (.ln l0),u (.bin .eql l3 l0),m l0,y 0 true (.fa v3 0),y 1 true (.ld l0 1 false),y 2 true (.ca N.cV 0 [] [.l 0,.i 0,.i 2147483648]),u (.pk l3 l0 (.b false)),m l0,y 0 true (.fa v3 1),y 1 true (.ld l0 1 false),y 2 true (.ca N.av 0 [] [.l 0,.c (.fn N.cH [])]),y 3 true (.un .not l0),u (.pk l4 l0 (.b false)),w 4 (.mv l0)] []) .ret)),res:=[(4,none)]}
def jW:C:=(.its [u (.bin .lss v5 v4)] [] 0 .skip (.exit 0) (.seq (.blk 1 (.seq (.reg [m v5,w 3 (.mv l0)] []) (.ite [m v0,m v3,a 1 l1 l0,g l0,m v1,m v3,a 1 l1 l0,g l0,u (.bin .neq l4 l0)] [] 0 (.seq (.reg [w 2 (.mv (.b false))] []) .ret) .skip))) (.reg [u (.bin .add v5 (.i 1)),w 5 (.mv l0)] [])))
def ky:C:= .loop true [2,3] K.jW
def bf:Fn:={ nargs:=2,vars:=[0,1,4,5,12,13],body:=(.seq (.reg [w 2 (.mv (.b false))] []) (.seq (.ite [m v0,u (.ln l0),m v1,u (.ln l0),u (.bin .neq l2 l0)] [] 0 (.seq (.reg [w 2 (.mv (.b false))] []) .ret) .skip) (.seq (.seq (.reg [m v0,w 4 (.ln l0),w 5 (.mv (.i 0))] []) (.blk 0 K.ky)) (.seq (.reg [w 2 (.mv (.b true))] []) .ret)))),res:=[(2,none)]}
def aH:Fn:={ nargs:=1,vars:=[0,2],body:=(.seq (.reg [w 1 (.mv (.c (.nil)))] []) (.itk [m v0,u (.eqk (.sl) false l0 (.c (.nil)))] [] 0 (.seq (.reg [w 1 (.nw 1)] []) .ret) .skip (.seq (.reg [u (.bsr [] 1),m v0,u (.app l1 l0 false 1),w 1 (.mv l0)] []) .ret))),res:=[(1,none)]}
def nD:C:=(.its [u (.bin .lss v14 (.i 2))] [] 0 .skip (.exit 2) (.seq (.blk 3 (.seq (.reg [u (.ix v13 v14 2 1 false),w 6 (.mv l0)] []) (.seq (.reg [f 0 v5,g l0,f 1 v5,g l0,w 7 (.mv l2),w 8 (.mv l1)] []) (.seq (.ite [m v6] [] 0 (.reg [m v8,m v7,w 7 (.mv l1),w 8 (.mv l1)] []) .skip) (.seq (.reg [h 2 v3,m v4,m v6,u (.ca N.gS 0 [] [.l 2,.l 1,.l 0]),w 9 (.mv l0)] []) (.ite [m v9,u (.bin .geq l0 (.i 0)),m l0,y 0 true (.mv v1),y 1 true (.mv v7),y 2 true (.ia l1 l0 1),y 3 true (.ld l0 1 false),y 4 true (.bin .lss l0 (.i 1099511627776)),u (.pk l5 l0 (.b false))] [] 0 (.reg [m v2,m v7,m v8,m v1,m v7,a 1 l1 l0,g l0,m v9,u (.bin .add l1 l0),u (.cw l8 0 [] [.l 7,.l 6,.l 0])] []) .skip)))))) (.reg [u (.bin .add v14 (.i 1)),w 14 (.mv l0)] [])))
def oW:C:= .loop true [0,6,7,8,9] K.nD
def nE:C:=(.its [u (.bin .lss v12 v11)] [] 0 .skip (.exit 0) (.seq (.blk 1 (.seq (.reg [m v12,a 10 v10 v12,h 10 l0,w 5 (.al [.t (.int .i64 (0)),.t (.int .i64 (0)),.t (.int .i64 (0)),.t (.int .i64 (0)),.t (.bool false),.t (.bool false),.t (.int .i64 (0)),.t (.int .i64 (0)),.t (.int .i64 (0)),.t (.int .i64 (0))] []),w 4 (.mv l3),u (.st l1 l2 10 [])] []) (.seq (.reg [w 13 (.bd [.t (.bool false),.t (.bool false)] [(0,1,.b false),(1,1,.b true)]),w 14 (.mv (.i 0))] []) (.blk 2 K.oW)))) (.reg [u (.bin .add v12 (.i 1)),w 12 (.mv l0)] [])))
def oX:C:= .loop true [0,4,5,6,7,8,9,13,14] K.nE
def cG:Fn:={ nargs:=3,vars:=[0,1,2,3,6,7,9,10,11,12,14,15,16,21,22],body:=(.seq (.reg [w 3 (.bx v0 2)] []) (.seq (.reg [f 1 v3,w 10 (.ld l0 1 false),w 11 (.ln l0),w 12 (.mv (.i 0))] []) (.blk 0 K.oX))),res:=[]}
def cy:Fn:={ nargs:=7,vars:=[1,2,3,4,5,6],body:=(.seq (.reg [m v1,g v2,u (.mx [.l 1,.l 0]),w 1 (.mv l0)] []) (.ite [m v1,u (.bin .leq l0 (.i 2147483648)),m l0,y 0 true (.mv v1),y 1 true (.ld v3 1 false),y 2 true (.mv v0),y 3 true (.ia l1 l0 1),y 4 true (.ld l0 1 false),y 5 true (.bin .lss l4 l0),u (.pk l6 l0 (.b false)),m l0,y 0 true (.ld v4 1 false),y 1 true (.mv v0),y 2 true (.cw l1 0 [] [.l 0]),u (.pk l3 l0 (.b false))] [] 0 (.reg [g v3,m v0,m v1,a 1 l2 l1,u (.st l0 l1 1 []),u (.st v5 (.b true) 1 [])] []) .skip)),res:=[]}
def cH:Fn:={ nargs:=1,vars:=[0,2],body:=(.seq (.reg [w 1 (.mv (.b false))] []) (.seq (.reg [m v0,u (.bin .neq l0 (.i 1099511627776)),m l0,y 0 true (.mv v0),y 1 true (.ca N.cV 0 [] [.l 0,.i 0,.i 2147483648]),y 2 true (.un .not l0),u (.pk l3 l0 (.b false)),w 1 (.mv l0)] []) .ret)),res:=[(1,none)]}
def gS:Fn:={ nargs:=3,vars:=[0,1,2,3,6],body:=(.seq (.reg [w 3 (.bx v0 2),w 4 (.mv (.i 0))] []) (.seq (.ite [h 2 v3,u (.ca N.bZ 0 [] [.l 0]),u (.un .not l0),m l0,y 0 false (.mv v1),y 1 false (.bin .lss l0 (.i 0)),u (.pk l2 (.b true) l0),m l0,y 0 false (.mv v1),y 1 false (.fa v3 1),y 2 false (.ld l0 1 false),y 3 false (.ln l0),y 4 false (.bin .geq l3 l0),u (.pk l5 (.b true) l0)] [] 0 (.seq (.reg [w 4 (.mv (.i (-1)))] []) .ret) .skip) (.seq (.reg [h 2 v3,m v1,m v2,u (.ca N.gT 0 [] [.l 2,.l 1,.l 0]),w 4 (.mv l0)] []) .ret))),res:=[(4,none)]}
def gT:Fn:={ nargs:=3,vars:=[0,1,2,3,6],body:=(.seq (.reg [w 3 (.bx v0 2),w 4 (.mv (.i 0))] []) (.seq (.reg [h 2 v3,m v1,m v2,u (.ca N.fO 0 [] []),u (.ca N.cD 0 [] [.l 3,.l 2,.l 1,.l 0]),w 4 (.mv l0)] [(0,4)]) .ret)),res:=[(4,none)]}
def cD:Fn:={ nargs:=4,vars:=[0,1,2,3,4,7,8,9,10,11],body:=(.seq (.reg [w 4 (.bx v0 2),w 5 (.bx v3 3),w 6 (.mv (.i 0))] []) (.seq (.reg [f 1 v4,g l0,m v1,a 10 l1 l0,h 10 l0,w 7 (.al [.t (.int .i64 (0)),.t (.int .i64 (0)),.t (.int .i64 (0)),.t (.int .i64 (0)),.t (.bool false),.t (.bool false),.t (.int .i64 (0)),.t (.int .i64 (0)),.t (.int .i64 (0)),.t (.int .i64 (0))] []),u (.st l0 l1 10 [])] []) (.seq (.ite [f 5 v7,g l0,m l0,y 0 false (.fa v7 4),y 1 false (.ld l0 1 false),y 2 false (.un .not l0),u (.pk l3 (.b true) l0)] [] 0 (.seq (.reg [w 6 (.mv (.i (-1)))] []) .ret) .skip) (.seq (.reg [f 0 v4,g l0,f 1 v7,g l0,a 2 l2 l0,f 0 l0,g l0,f 0 v4,g l0,f 0 v7,g l0,a 2 l2 l0,f 0 l0,g l0,u (.bin .sub l7 l0),w 8 (.mv l0)] []) (.seq (.ite [m v2] [] 0 (.reg [m v8,u (.un .neg l0),w 8 (.mv l0)] []) .skip) (.seq (.reg [f 2 v5,g l0,w 9 (.mv l0)] []) (.seq (.blk 0 (.ite [m v8,u (.bin .mul (.i 10) l0),f 2 v7,g l0,u (.bin .gtr l2 l0),m l0] [] 0 (.reg [f 0 v5,g l0,w 9 (.mv l0)] []) (.ite [m v8,u (.bin .mul (.i (-10)) l0),f 2 v7,g l0,u (.bin .gtr l2 l0),m l0] [] 0 (.reg [f 1 v5,g l0,w 9 (.mv l0)] []) .skip))) (.seq (.reg [f 2 v7,g l0,u (.bin .mul (.i 10) l0),m v9,u (.bin .add l1 l0),u (.bin .sub l0 (.i 1)),m v9,u (.bin .quo l1 l0),w 6 (.mv l0)] []) .ret)))))))),res:=[(6,none)]}
def fO:Fn:={ nargs:=0,vars:=[0],body:=(.seq (.reg [w 0 (.al [.t (.int .i64 (0)),.t (.int .i64 (0)),.t (.int .i64 (0))] [])] []) (.seq (.reg [u (.bd [.t (.int .i64 (0)),.t (.int .i64 (0)),.t (.int .i64 (0))] [(0,1,.i 6),(1,1,.i 9),(2,1,.i 12)]),u (.st v0 l0 3 [])] []) .ret)),res:=[(0,some (3,true))]}
end Go.Ev.K
namespace Go.Ev
class ez [Lib]:Prop where
 m8:Lib.fs N.dT=some K.dT
 kP:Lib.fs N.cF=some K.cF
 qA:Lib.fs N.eY=some K.eY
 lF:Lib.fs N.cW=some K.cW
 gB:Lib.fs N.bf=some K.bf
 gC:Lib.fs N.aH=some K.aH
 jX:Lib.fs N.cG=some K.cG
 jn:Lib.fs N.cy=some K.cy
 jY:Lib.fs N.cH=some K.cH
 sx:Lib.fs N.gS=some K.gS
 sy:Lib.fs N.gT=some K.gT
 nF:Lib.fs N.cD=some K.cD
 qB:Lib.fs N.fO=some K.fO
namespace K
variable [Lib] [ez]
theorem m8:Lib.fs N.dT=some K.dT:=ez.m8
theorem kP:Lib.fs N.cF=some K.cF:=ez.kP
theorem qA:Lib.fs N.eY=some K.eY:=ez.qA
theorem lF:Lib.fs N.cW=some K.cW:=ez.lF
theorem gB:Lib.fs N.bf=some K.bf:=ez.gB
theorem gC:Lib.fs N.aH=some K.aH:=ez.gC
theorem jX:Lib.fs N.cG=some K.cG:=ez.jX
theorem jn:Lib.fs N.cy=some K.cy:=ez.jn
theorem jY:Lib.fs N.cH=some K.cH:=ez.jY
theorem sx:Lib.fs N.gS=some K.gS:=ez.sx
theorem sy:Lib.fs N.gT=some K.gT:=ez.sy
theorem nF:Lib.fs N.cD=some K.cD:=ez.nF
theorem qB:Lib.fs N.fO=some K.fO:=ez.qB
end K
end Go.Ev
namespace Go.Ev
open Go
variable [Lib] [bQ] [bC] [dW] [dR] [fP] [ez]
abbrev Bj(l:List Int):Obj:= .arr 1 false 0 ((l.map (T.int .i64)).map .t)
theorem KQ{m:bj}(h:m.ok)(k:Nat)(hk:k<m.roads.length)(back:Bool)(up down level:Int)(hu:1≤up)(hu2:up≤100)(hd:1≤down)(hd2:down≤100)(hl:1≤level)(hl2:level≤100):
 bY 0 N.cD [.t m.e,I k,B back,.t (.agg [tI up,tI down,tI level])] []=some (I (Ak m k back up down level),[]):=by
 refine aX K.nF rfl ?_
 have nr:=h.nr
 have np:=h.np
 obtain⟨f0,f1,t0,t1, -,l0,l1, -, -, -, -, -, -, -, -⟩:=h.rs _ (b9 hk)
 have b1:=h.hs _ (b9 (l:=m.places) (j:=(nth m.roads k).frm.toNat) (by omega))
 have b2:=h.hs _ (b9 (l:=m.places) (j:=(nth m.roads k).to.toNat) (by omega))
 have g:(m.roads.map Road.e)[k]?=some (nth m.roads k).e:=ek _ hk
 have p1:(m.places.map Place.e)[(nth m.roads k).frm.toNat]?=some (nth m.places (nth m.roads k).frm.toNat).e:=ek _ (by omega)
 have p2:(m.places.map Place.e)[(nth m.roads k).to.toNat]?=some (nth m.places (nth m.roads k).to.toNat).e:=ek _ (by omega)
 have key:∀h1 h2:Int, -10000≤h1→h1≤10000→ -10000≤h2→h2≤10000→IntKind.i64.wrap (h1-h2)=h1-h2∧IntKind.i64.wrap (-(h1-h2))=h2-h1:=fun h1 h2 _ _ _ _=>⟨rY (by omega) (by omega),by rw[rY (by omega) (by omega)];omega⟩
 unfold Ak
 generalize nth m.roads k=x at*
 obtain⟨frm,to,len,area,walk,closed,rl,rh,ll,lh⟩:=x
 simp only at f0 f1 t0 t1 l0 l1 b1 b2 p1 p2 ⊢
 cases closed with
 | true=>
   obtain⟨places,roads⟩:=m
   simp (disch:=omega) only[go_sem,K.cD,↓reduceIte,g,Nat.reduceAdd,Nat.reduceSub]
 | false=>
   cases walk with
   | false=>
     obtain⟨places,roads⟩:=m
     simp (disch:=omega) only[go_sem,K.cD,↓reduceIte,g,Nat.reduceAdd,Nat.reduceSub]
   | true=>
     have g1:=x8 (a:=10*len+up-1) (b:=up) (by omega) hu
     have g2:=x8 (a:=10*len+down-1) (b:=down) (by omega) hd
     have g3:=x8 (a:=10*len+level-1) (b:=level) (by omega) hl
     cases back with
     | true=>
       simp only[↓reduceIte]
       generalize nth m.places frm.toNat=q1 at*
       generalize nth m.places to.toNat=q2 at*
       obtain⟨h1,s1⟩:=q1
       obtain⟨h2,s2⟩:=q2
       obtain⟨places,roads⟩:=m
       simp only at*
       obtain⟨w2,w3⟩:=key h2 h1 (by omega) (by omega) (by omega) (by omega)
       by_cases c2:len< -10*(h1-h2)
       · simp (disch:=omega) only[go_sem,K.cD,↓reduceIte,g,p1,p2,w2,w3,gt_iff_lt,Int.zero_sub,Nat.reduceAdd,Nat.reduceSub]
       · by_cases c1:len<10*(h1-h2)
         · simp (disch:=omega) only[go_sem,K.cD,↓reduceIte,g,p1,p2,w2,w3,gt_iff_lt,Int.zero_sub,Nat.reduceAdd,Nat.reduceSub]
         · simp (disch:=omega) only[go_sem,K.cD,↓reduceIte,g,p1,p2,w2,w3,gt_iff_lt,Int.zero_sub,Nat.reduceAdd,Nat.reduceSub]
     | false=>
       simp only[Bool.false_eq_true,↓reduceIte]
       generalize nth m.places frm.toNat=q1 at*
       generalize nth m.places to.toNat=q2 at*
       obtain⟨h1,s1⟩:=q1
       obtain⟨h2,s2⟩:=q2
       obtain⟨places,roads⟩:=m
       simp only at*
       obtain⟨w2,w3⟩:=key h2 h1 (by omega) (by omega) (by omega) (by omega)
       by_cases c2:len< -10*(h2-h1)
       · simp (disch:=omega) only[go_sem,K.cD,↓reduceIte,g,p1,p2,w2,gt_iff_lt,Nat.reduceAdd,Nat.reduceSub]
       · by_cases c1:len<10*(h2-h1)
         · simp (disch:=omega) only[go_sem,K.cD,↓reduceIte,g,p1,p2,w2,gt_iff_lt,Nat.reduceAdd,Nat.reduceSub]
         · simp (disch:=omega) only[go_sem,K.cD,↓reduceIte,g,p1,p2,w2,gt_iff_lt,Nat.reduceAdd,Nat.reduceSub]
@[go_sem] theorem Y4 (H : ab) (len j : Nat) (ts : List T) (h : j < len) : Qb H len 1 false (.t (.agg ts)) j = (ts[j]?).map fun t => (.t t, H) := by
 have h0:len≠0:=by omega
 unfold Qb tF
 rw[if_neg h0,if_pos h]
 unfold n9 cut
 simp only[D.isAgg,D.cells,T.cells,if_true,Nat.mul_one,List.length_map]
 by_cases hj:j<ts.length
 · rw[if_pos (by omega),List.getElem?_eq_getElem hj]
   have e:((ts.map D.t).drop j).take 1=[D.t ts[j]]:=by
    rw[List.drop_eq_getElem_cons (by simpa using hj)];simp
   rw[e];rfl
 · rw[if_neg (by omega),List.getElem?_eq_none (by omega)];rfl
section
variable (a0 a1 a2 a3 a4 a5 x y : Obj) (ds : ab)
end
@[go_sem] theorem UP (n : Nat) : eqB n n = true := by
 induction n with
 | zero=>rfl
 | succ n ih=>exact ih
end Go.Ev
namespace Go.Ev
open Go
variable [Lib] [bQ] [bC]
def RM(a b:List Int):Bool:=match (List.range (min a.length b.length)).find? (fun j=>decide (nth a j≠nth b j))with
 | some j=>decide (nth a j<nth b j)
 | none=>decide (a.length<b.length)
def pW(l:List Int)(x:Int):Int:=match (List.range l.length).find? (fun j=>decide (nth l j=x))with
 | some j=>j
 | none=> -1
def KR(l:List Int)(j:Nat):Bool:=decide (1≤nth l j∧nth l j≤65535∧pW (l.take j) (nth l j)<0)
def yb(l:List Int):Bool:=(List.range l.length).all (KR l)
structure World where
 tags:List Int
 whr:List Wh
instance : Dat World := ⟨⟨[], []⟩⟩
abbrev World.e(x:World):T:= .agg [tL x.tags,.sl (x.whr.map Wh.e)]
structure Bel where
 worlds:List World
instance : Dat Bel := ⟨⟨[]⟩⟩
abbrev Bel.e(b:Bel):T:= .agg [.sl (b.worlds.map World.e)]
def World.sz(x:World):Prop:=x.tags.length≤1000000∧x.whr.length≤1000000∧∀w∈x.whr,w.frm.length≤1000000
def Bel.sz(b:Bel):Prop:=b.worlds.length≤1000000∧∀x∈b.worlds,x.sz
@[go_sem] theorem KS (l : List Wh) : bz 2 (l.map Wh.e) = true := jm 2 _ (fun _ => rfl) l
@[go_sem] theorem D6 (l : List World) : bz 2 (l.map World.e) = true := jm 2 _ (fun _ => rfl) l
@[go_sem] theorem UQ (l : List Wh) : jw 2 (l.map Wh.e) = true := by cases l <;> rfl
@[go_sem] theorem KT (l : List World) : jw 2 (l.map World.e) = true := by cases l <;> rfl
def Z2(m:bj)(first:List Int)(x:World)(k:Nat):Bool:=decide (0≤pW first (nth x.tags k))&&wG m (nth x.whr k)
def RN(m:bj)(ws:List World)(first:List Int)(i:Nat):Bool:=
 decide ((nth ws i).tags.length=first.length∧(nth ws i).whr.length=first.length)&&yb (nth ws i).tags&&(decide (i=0)||RM (nth ws (i-1)).tags (nth ws i).tags)&&(List.range (nth ws i).tags.length).all (Z2 m first (nth ws i))
def Y5(m:bj)(b:Bel):Bool:=
 decide (1≤b.worlds.length∧b.worlds.length≤24)&&decide (1≤(nth b.worlds 0).tags.length∧(nth b.worlds 0).tags.length≤12)&&(List.range b.worlds.length).all (RN m b.worlds (nth b.worlds 0).tags)
end Go.Ev
namespace Go.Ev.K
open Go.Ev
end Go.Ev.K
namespace Go.Ev
class eE [Lib]:Prop where
namespace K
variable [Lib] [eE]
end K
end Go.Ev
namespace Go.Ev.K
open Go.Ev
def cR:C:=(.its [u (.bin .lss v8 v7)] [] 0 .skip (.exit 0) (.seq (.blk 1 (.seq (.reg [m v8,a 1 v6 v8,g l0,w 4 (.mv l2),w 5 (.mv l1)] []) (.ite [m v5,m v1,u (.bin .lss l1 l0),m l0,y 0 false (.mv v5),y 1 false (.mv v2),y 2 false (.bin .gtr l1 l0),u (.pk l3 (.b true) l0),m l0,y 0 false (.mv v4),y 1 false (.bin .gtr l0 (.i 0)),y 2 false (.mv l0),y 0 true (.mv v5),y 1 true (.mv v0),y 2 true (.mv v4),y 3 true (.bin .sub l0 (.i 1)),y 4 true (.ia l2 l0 1),y 5 true (.ld l0 1 false),y 6 true (.bin .leq l5 l0),y 10 false (.pk l7 l0 (.b false)),u (.pk l11 (.b true) l0)] [] 0 (.seq (.reg [w 3 (.mv (.b false))] []) .ret) .skip))) (.reg [u (.bin .add v8 (.i 1)),w 8 (.mv l0)] [])))
def lG:C:= .loop true [3,4,5] K.cR
def bE:Fn:={ nargs:=3,vars:=[0,1,2,6,7,8,9,10,11],body:=(.seq (.reg [w 3 (.mv (.b false))] []) (.seq (.seq (.reg [w 6 (.mv v0),w 7 (.ln l0),w 8 (.mv (.i 0))] []) (.blk 0 K.lG)) (.seq (.reg [w 3 (.mv (.b true))] []) .ret))),res:=[(3,none)]}
end Go.Ev.K
namespace Go.Ev
class eB [Lib]:Prop where
 jB:Lib.fs N.bE=some K.bE
namespace K
variable [Lib] [eB]
theorem jB:Lib.fs N.bE=some K.bE:=eB.jB
end K
end Go.Ev
namespace Go.Ev
open Go
variable [Lib] [bQ] [bC] [eE] [eB]
def D7(l:List Int)(lo hi:Int)(j:Nat):Bool:= !decide (lo≤nth l j∧nth l j≤hi∧(0<j→nth l (j-1)<nth l j))
def UR(l:List Int)(lo hi:Int):Bool:= !((List.range l.length).any (D7 l lo hi))
theorem lH(l:List Int)(lo hi:Int)(hl:l.length≤4294967296):bY 0 N.bE [.t (tL l),I lo,I hi] []=some (B (UR l lo hi),[]):=by
 refine aX K.jB rfl ?_
 have loop:∀a b c:D,exS bY K.lG ⟨[.t (tL l),I lo,I hi,a,b,c,.t (tL l),I l.length,I 0],[]⟩=
  some (if(List.range l.length).any (D7 l lo hi)=true
   then(.ret,⟨[.t (tL l),I lo,I hi,B false,I (wH l.length (D7 l lo hi)),I (nth l (wH l.length (D7 l lo hi))),.t (tL l),I l.length,I (wH l.length (D7 l lo hi))],[]⟩)
   else(.exit 0,⟨[.t (tL l),I lo,I hi,.und,.und,.und,.t (tL l),I l.length,I l.length],[]⟩)):=by
  intro a b c
  refine CA (fun j=>⟨[.t (tL l),I lo,I hi,.und,.und,.und,.t (tL l),I l.length,I j],[]⟩) l.length (D7 l lo hi) (fun j=>(.ret,⟨[.t (tL l),I lo,I hi,B false,I j,I (nth l j),.t (tL l),I l.length,I j],[]⟩)) _ rfl ?_ ?_ ?_ (by simp)
  · intro j hj hp
    simp only[D7,Bool.not_eq_false',decide_eq_true_eq]at hp
    obtain⟨h1,h2,h3⟩:=hp
    cases j with
    | zero=>simp (disch:=omega) only[go_sem,K.cR,↓reduceIte]
    | succ j=>
      have h3:=h3 (by omega)
      rw[Nat.add_sub_cancel]at h3
      simp (disch:=omega) only[go_sem,K.cR,↓reduceIte]
  · intro j hj hp
    simp only[D7,Bool.not_eq_true',decide_eq_false_iff_not]at hp
    refine⟨?_,by simp⟩
    by_cases h1:lo≤nth l j
    · by_cases h2:nth l j≤hi
      · cases j with
        | zero=>exact absurd ⟨h1,h2,fun h=>absurd h (by omega)⟩ hp
        | succ j=>
          have h3:¬nth l j<nth l (j+1):=fun h=>hp ⟨h1,h2,fun _=>by simpa using h⟩
          simp (disch:=omega) only[go_sem,K.cR,↓reduceIte]
      · simp (disch:=omega) only[go_sem,K.cR,↓reduceIte]
    · simp (disch:=omega) only[go_sem,K.cR,↓reduceIte]
  · simp (disch:=omega) only[go_sem,K.cR,↓reduceIte]
 unfold UR
 simp (disch:=omega) only[go_sem,K.bE,↓reduceIte,loop]
 cases hf:(List.range l.length).any (D7 l lo hi)with
 | true=>simp (disch:=omega) only[go_sem,↓reduceIte]
 | false=>simp (disch:=omega) only[go_sem,↓reduceIte,Bool.false_eq_true]
theorem sA(l:List Int)(n:Int):UR l 0 (n-1)=nB l n:=by
 unfold UR nB
 rw[Kf]
 refine congrArg (!·) (congrArg _ (funext fun j=>?_))
 unfold D7
 refine congrArg (!·) (decide_eq_decide.2 ⟨fun h=>⟨h.1,by omega,h.2.2⟩,fun h=>⟨h.1,by omega,h.2.2⟩⟩)
structure US where
 st:Int
 fi:Int
 se:Int
 ti:Int
abbrev US.e(s:US):T:= .agg [tI s.st,tI s.fi,tI s.se,tI s.ti]
structure FD where
 area:List Int
 hold:Int
 mis:Int
abbrev FD.e(x:FD):T:= .agg [tL x.area,tI x.hold,tI x.mis]
structure Keys where
 roads:List Int
 keys:List Int
 out:Bool
abbrev Keys.e(k:Keys):T:= .agg [tL k.roads,tL k.keys,.bool k.out]
end Go.Ev
namespace Go.Ev
open Go
variable [Lib] [bQ] [bC] [eE] [eB] [dW] [dR] [fP] [ez]
end Go.Ev
namespace Go.Ev.N
def D8:Nat:=215
def D9:Nat:=216
def Ea:Nat:=217
def KU:Nat:=218
def KV:Nat:=219
def KW:Nat:=220
def Od:Nat:=221
def Oe:Nat:=222
def Of:Nat:=223
def RO:Nat:=224
def KX:Nat:=225
def KY:Nat:=226
def KZ:Nat:=227
def RP:Nat:=228
def K0:Nat:=229
def K1:Nat:=230
def Og:Nat:=231
def HC:Nat:=232
def Oh:Nat:=233
def HD:Nat:=234
def HE:Nat:=235
def HF:Nat:=236
def Oi:Nat:=237
def HG:Nat:=238
def RQ:Nat:=239
def RR:Nat:=240
def bF:Nat:=241
def Oj:Nat:=242
def K3:Nat:=243
def Eb:Nat:=244
end Go.Ev.N
namespace Go.Ev.N
def zt:Nat:=245
def yc:Nat:=246
def yd:Nat:=247
def K4:Nat:=248
def FE:Nat:=249
def K5:Nat:=250
def zu:Nat:=251
def Ec:Nat:=252
def CT:Nat:=253
def K6:Nat:=254
def HH:Nat:=255
def Ol:Nat:=256
def eP:Nat:=257
def Au:Nat:=258
def kz:Nat:=259
def bo:Nat:=260
def aP:Nat:=261
def dU:Nat:=262
def ba:Nat:=263
def ai:Nat:=264
def dz:Nat:=265
def la:Nat:=266
def aG:Nat:=267
def cI:Nat:=268
def ak:Nat:=269
def cmp_isNaN_int:Nat:=270
end Go.Ev.N
namespace Go.Ev.N
def Av:Nat:=271
def CU:Nat:=272
def CV:Nat:=273
def Bk:Nat:=274
def Ed:Nat:=275
def CW:Nat:=276
def K7:Nat:=277
def K8:Nat:=278
def Om:Nat:=279
def On:Nat:=280
def Ee:Nat:=281
def RS:Nat:=282
def HI:Nat:=283
def K9:Nat:=284
def La:Nat:=285
def Oo:Nat:=286
def pz:Nat:=287
def Oq:Nat:=288
def fH:Nat:=289
def Lb:Nat:=290
def Lc:Nat:=291
def Ld:Nat:=292
def Ef:Nat:=293
def eQ:Nat:=294
def Le:Nat:=295
def HJ:Nat:=296
def oY:Nat:=297
def oZ:Nat:=298
def FF:Nat:=299
def ud:Nat:=300
def kS:Nat:=301
def nG:Nat:=302
def qC:Nat:=303
def mF:Nat:=304
def pA:Nat:=305
def qD:Nat:=306
def o5:Nat:=307
def c7:Nat:=308
end Go.Ev.N
namespace Go.Ev.N
def HK:Nat:=309
def CY:Nat:=310
def Eg:Nat:=311
def Eh:Nat:=312
def CZ:Nat:=313
def Lf:Nat:=314
def XJ:Nat:=315
def RT:Nat:=316
def Lg:Nat:=317
def Lh:Nat:=318
def Li:Nat:=319
def Lj:Nat:=320
def RU:Nat:=321
def RV:Nat:=322
def Lk:Nat:=323
def FH:Nat:=324
def RW:Nat:=325
def UT:Nat:=326
def bV:Nat:=327
def HL:Nat:=328
def FI:Nat:=329
def au:Nat:=330
def ay:Nat:=331
def FJ:Nat:=332
def C0:Nat:=333
end Go.Ev.N
namespace Go.Ev.K
open Go.Ev
end Go.Ev.K
namespace Go.Ev
class nH [Lib]:Prop where
namespace K
variable [Lib] [nH]
end K
end Go.Ev
namespace Go.Ev.K
open Go.Ev
def gg:C:=(.seq (.ite [m v5,f 0 v2,g l0,u (.ln l0),u (.bin .lss l3 l0)] [] 0 .skip (.exit 0)) (.seq (.blk 1 (.ite [f 0 v2,g l0,m v5,a 2 l1 l0,h 2 l0,f 0 v3,g l0,m v5,a 2 l1 l0,h 2 l0,u (.eqk (.sc [true,false]) true l5 l0)] [] 0 (.seq (.reg [w 4 (.mv (.b false))] []) .ret) .skip)) (.reg [m v5,u (.bin .add l0 (.i 1)),w 5 (.mv l0)] [])))
def jZ:C:= .loop true [0,1,4,6] K.gg
def gj:C:=(.seq (.ite [m v6,f 1 v2,g l0,u (.ln l0),u (.bin .lss l3 l0)] [] 0 .skip (.exit 2)) (.seq (.blk 3 (.ite [f 1 v2,g l0,m v6,a 10 l1 l0,h 10 l0,f 1 v3,g l0,m v6,a 10 l1 l0,h 10 l0,u (.eqk (.sc [true,true,true,true,false,false,true,true,true,true]) true l5 l0)] [] 0 (.seq (.reg [w 4 (.mv (.b false))] []) .ret) .skip)) (.reg [m v6,u (.bin .add l0 (.i 1)),w 6 (.mv l0)] [])))
def j3:C:= .loop true [0,1,4,5] K.gj
def bV:Fn:={ nargs:=2,vars:=[0,1,2,3,4,5,6],body:=(.seq (.reg [w 2 (.bx v0 2),w 3 (.bx v1 2),w 4 (.mv (.b false))] []) (.seq (.ite [f 0 v2,g l0,u (.ln l0),f 0 v3,g l0,u (.ln l0),u (.bin .neq l3 l0),m l0,y 0 false (.fa v2 1),y 1 false (.ld l0 1 false),y 2 false (.ln l0),y 3 false (.fa v3 1),y 4 false (.ld l0 1 false),y 5 false (.ln l0),y 6 false (.bin .neq l3 l0),u (.pk l7 (.b true) l0)] [] 0 (.seq (.reg [w 4 (.mv (.b false))] []) .ret) .skip) (.seq (.seq (.reg [w 5 (.mv (.i 0))] []) (.blk 0 K.jZ)) (.seq (.seq (.reg [w 6 (.mv (.i 0))] []) (.blk 2 K.j3)) (.seq (.reg [w 4 (.mv (.b true))] []) .ret))))),res:=[(4,none)]}
def au:Fn:={ nargs:=1,vars:=[0,2],body:=(.seq (.reg [w 1 (.mv (.c (.nil)))] []) (.itk [m v0,u (.eqk (.sl) false l0 (.c (.nil)))] [] 0 (.seq (.reg [w 1 (.nw 2)] []) .ret) .skip (.seq (.reg [u (.bsr [] 2),m v0,u (.app l1 l0 false 2),w 1 (.mv l0)] []) .ret))),res:=[(1,none)]}
def ay:Fn:={ nargs:=1,vars:=[0,2],body:=(.seq (.reg [w 1 (.mv (.c (.nil)))] []) (.itk [m v0,u (.eqk (.sl) false l0 (.c (.nil)))] [] 0 (.seq (.reg [w 1 (.nw 10)] []) .ret) .skip (.seq (.reg [u (.bsr [] 10),m v0,u (.app l1 l0 false 10),w 1 (.mv l0)] []) .ret))),res:=[(1,none)]}
end Go.Ev.K
namespace Go.Ev
class kT [Lib]:Prop where
 ig:Lib.fs N.bV=some K.bV
 cb:Lib.fs N.au=some K.au
 cB:Lib.fs N.ay=some K.ay
namespace K
variable [Lib] [kT]
theorem ig:Lib.fs N.bV=some K.bV:=kT.ig
theorem cb:Lib.fs N.au=some K.au:=kT.cb
theorem cB:Lib.fs N.ay=some K.ay:=kT.cB
end K
end Go.Ev
namespace Go.Ev
open Go
variable [Lib] [bQ] [bC] [eE] [eB] [dW] [dR] [fP] [ez] [nH] [kT]
end Go.Ev
namespace Go.Ev
open Go
variable [Lib] [bQ] [bC]
@[go_sem] theorem Ll (l : List Place) : jw 2 (l.map Place.e) = true := by cases l <;> rfl
@[go_sem] theorem Ot (l : List Road) : jw 10 (l.map Road.e) = true := by cases l <;> rfl
@[go_sem] theorem Ou (H : ab) (d : aE) : ET H 0 1 false (some d.obj) = some (.t (tL d.L), H) := by simp only [aE.obj, go_sem]
def aE.cJ(d:aE):Nat→List Place×aE
 | 0=>([],d)
 | k+1=>if k=0 then((d.cJ k).1++[⟨-10*((d.cJ k).2.next 4).1,true⟩],((d.cJ k).2.next 4).2)
   else((d.cJ k).1++[⟨-10*((d.cJ k).2.next 4).1,(((d.cJ k).2.next 4).2.one 6).1⟩],(((d.cJ k).2.next 4).2.one 6).2)
def aE.Aw(d:aE)(i:Int):Road×aE:=
 (⟨i-1-(d.next (min i 2)).1,i,1+((d.next (min i 2)).2.of [11,59,119,4]).1,1+(((d.next (min i 2)).2.of [11,59,119,4]).2.of [9,3,19]).1,true,false,1,1,0,0⟩,
   (((d.next (min i 2)).2.of [11,59,119,4]).2.of [9,3,19]).2)
def aE.gk(d:aE):Nat→List Road×aE
 | 0=>([],d)
 | k+1=>((d.gk k).1++[((d.gk k).2.Aw (k+1)).1],((d.gk k).2.Aw (k+1)).2)
def aE.kA(d:aE)(n:Int):Road×aE:=
 let a:=d.next n
 let b:=a.2.next n
 let l:=b.2.of [11,59,199]
 let r:=l.2.of [9,3]
 let w:=r.2.next 5
 let c:=w.2.one 6
 (⟨a.1,b.1,1+l.1,1+r.1,decide (0<w.1),c.1,1,1,0,0⟩,c.2)
def aE.more(n:Int)(l:List Road)(d:aE):Nat→List Road×aE
 | 0=>(l,d)
 | k+1=>if l.length<10 then aE.more n (if(d.kA n).1.frm=(d.kA n).1.to then l else l++[(d.kA n).1]) (d.kA n).2 k else(l,d)
def aE.nI(d:aE):Nat:=if d.L.length=0 then 4 else(2+(d.next 6).1).toNat
def aE.C1(d:aE):List Place×aE:=(d.next 6).2.cJ d.nI
def aE.uV(d:aE):List Road×aE:=d.C1.2.gk (d.nI-1)
def aE.FK(d:aE):List Road×aE:=aE.more d.nI d.uV.1 (d.uV.2.next 4).2 (d.uV.2.next 4).1.toNat
def aE.HM(d:aE):bj×aE:=(⟨d.C1.1,d.FK.1⟩,d.FK.2)
theorem aE.gl{d:aE}(h:d.dn):∀n,(d.cJ n).2.dn
 | 0=>h
 | n+1=>by
   unfold aE.cJ
   split
   · exact aE.bU (aE.gl h n) 4
   · exact aE.sq (aE.bU (aE.gl h n) 4) 6
theorem aE.kB(d:aE):∀n,(d.cJ n).1.length=n
 | 0=>rfl
 | n+1=>by
   unfold aE.cJ
   split<;>simp[d.kB n]
theorem aE.ye{d:aE}(h:d.dn)(i:Int):(d.Aw i).2.dn:=aE.jk (aE.jk (aE.bU h _) _) _
theorem aE.jo{d:aE}(h:d.dn):∀n,(d.gk n).2.dn
 | 0=>h
 | n+1=>aE.ye (aE.jo h n) _
theorem aE.mq(d:aE):∀n,(d.gk n).1.length=n
 | 0=>rfl
 | n+1=>by simp[aE.gk,d.mq n]
theorem aE.sB{d:aE}(h:d.dn)(n:Int):(d.kA n).2.dn:=by
 unfold aE.kA;simp only
 exact aE.sq (aE.bU (aE.jk (aE.jk (aE.bU (aE.bU h _) _) _) _) _) _
theorem aE.ue(n:Int):∀(k:Nat) (l:List Road) {d:aE},d.dn→(aE.more n l d k).2.dn
 | 0,l,d,h=>h
 | k+1,l,d,h=>by
   unfold aE.more
   split
   · exact aE.ue n k _ (aE.sB h n)
   · exact h
theorem aE.Ax{d:aE}(h:d.dn):d.HM.2.dn:=
 aE.ue _ _ _ (aE.bU (aE.jo (aE.gl (aE.bU h _) _) _) _)
abbrev uW:List D:=[I 0,I 0,I 12,I 10,B true,B false,I 1,I 1,I 0,I 0]
theorem Ay(d:aE)(hd:d.dn)(n:Nat)(hn:n≤8)(a b c e f:D):
 exS bY K.jS ⟨[.bp 0 0,.bp 1 0,.bp 2 0,I n,I 0,a,b,c,e,f],[d.obj,.box [.nil,.nil],.box [.ref 3 0 0,.ref 4 0 0],.arr 2 false 0 [],.arr 10 false 0 []]⟩=
 some (.exit 0,⟨[.bp 0 0,.bp 1 0,.bp 2 0,I n,I n,.und,.und,.und,.und,.und],[(d.cJ n).2.obj,.box [.nil,.nil],.box [.ref 3 0 (d.cJ n).1.length,.ref 4 0 0],.arr 2 false 0 (((d.cJ n).1.map Place.e).map .t),.arr 10 false 0 []]⟩):=by
 refine ei (fun j=>⟨[.bp 0 0,.bp 1 0,.bp 2 0,I n,I j,.und,.und,.und,.und,.und],[(d.cJ j).2.obj,.box [.nil,.nil],.box [.ref 3 0 (d.cJ j).1.length,.ref 4 0 0],.arr 2 false 0 (((d.cJ j).1.map Place.e).map .t),.arr 10 false 0 []]⟩) n rfl ?_ ?_ (by simp)
 · intro j hj
   have ln:=d.kB j
   have lt:=aE.gl hd j
   simp only[aE.cJ]
   generalize d.cJ j=s at*
   obtain⟨l,d1⟩:=s
   simp only at ln lt ⊢
   have h1:=jy d1 4 (by omega) lt
   have b1:=d1.ic 4
   have b2:=d1.ie (n:=4) (by omega)
   have l1:=aE.bU lt 4
   generalize d1.next 4=a1 at*
   obtain⟨x,d2⟩:=a1
   simp only at h1 b1 b2 l1 ⊢
   by_cases j0:j=0
   · subst j0
     simp (disch:=omega) only[go_sem,K.ew,h1,↓reduceIte,Nat.reduceAdd,Nat.reduceSub]
   · have h2:=Cs d2 6 (by omega) (by omega) l1
     simp (disch:=omega) only[go_sem,K.ew,h1,h2,j0,↓reduceIte,Nat.reduceAdd,Nat.reduceSub]
 · simp (disch:=omega) only[go_sem,K.ew,↓reduceIte]
theorem Az(d:aE)(hd:d.dn)(n:Nat)(hn:n≤8)(h1:1≤n)(ps:List Place)(a b c e:D):
 exS bY K.jT ⟨[.bp 0 0,.bp 1 0,.bp 2 0,I n,a,.bp 5 0,I 1,b,c,e],[d.obj,.box [.nil,.nil],.box [.ref 3 0 ps.length,.ref 4 0 0],.arr 2 false 0 ((ps.map Place.e).map .t),.arr 10 false 0 [],.box uW]⟩=
 some (.exit 2,⟨[.bp 0 0,.bp 1 0,.bp 2 0,I n,.und,.bp 5 0,I n,.und,.und,.und],[(d.gk (n-1)).2.obj,.box [.nil,.nil],.box [.ref 3 0 ps.length,.ref 4 0 (d.gk (n-1)).1.length],.arr 2 false 0 ((ps.map Place.e).map .t),.arr 10 false 0 (((d.gk (n-1)).1.map Road.e).map .t),.box uW]⟩):=by
 refine ei (fun j=>⟨[.bp 0 0,.bp 1 0,.bp 2 0,I n,.und,.bp 5 0,I (j+1),.und,.und,.und],[(d.gk j).2.obj,.box [.nil,.nil],.box [.ref 3 0 ps.length,.ref 4 0 (d.gk j).1.length],.arr 2 false 0 ((ps.map Place.e).map .t),.arr 10 false 0 (((d.gk j).1.map Road.e).map .t),.box uW]⟩) (n-1) rfl ?_ ?_ (by simp)
 · intro j hj
   have ln:=d.mq j
   have lt:=aE.jo hd j
   simp only[aE.gk]
   generalize d.gk j=s at*
   obtain⟨l,d1⟩:=s
   simp only[aE.Aw]at ln lt ⊢
   have h1:=jy d1 (min ((j:Int)+1) 2) (by omega) lt
   have b1:=d1.ic (min ((j:Int)+1) 2)
   have b2:=d1.ie (n:=min ((j:Int)+1) 2) (by omega)
   have l1:=aE.bU lt (min ((j:Int)+1) 2)
   generalize d1.next (min ((j:Int)+1) 2)=a1 at*
   obtain⟨x,d2⟩:=a1
   simp only at h1 b1 b2 l1 ⊢
   have h2:=Ct d2 [11,59,119,4] (by simp) (by simp) l1
   have m2:=d2.oQ (l:=[11,59,119,4]) (by simp)
   have l2:=aE.jk l1 [11,59,119,4]
   generalize d2.of [11,59,119,4]=a2 at*
   obtain⟨y,d3⟩:=a2
   simp only[tL,List.map_cons,List.map_nil]at h2 m2 l2 ⊢
   have h3:=Ct d3 [9,3,19] (by simp) (by simp) l2
   have m3:=d3.oQ (l:=[9,3,19]) (by simp)
   generalize d3.of [9,3,19]=a3 at*
   obtain⟨z,d4⟩:=a3
   simp only[tL,List.map_cons,List.map_nil,List.mem_cons,List.not_mem_nil,or_false]at h3 m2 m3 ⊢
   simp (disch:=omega) only[go_sem,K.fY,h1,h2,h3,↓reduceIte,Nat.reduceAdd,Nat.reduceSub]
 · simp (disch:=omega) only[go_sem,K.fY,↓reduceIte]
   rw[show((n-1:Nat):Int)+1=n by omega]
abbrev wM(d:aE)(ps:List Place)(l:List Road):ab:=[d.obj,.box [.nil,.nil],.box [.ref 3 0 ps.length,.ref 4 0 l.length],.arr 2 false 0 ((ps.map Place.e).map .t),.arr 10 false 0 ((l.map Road.e).map .t),.box uW]
theorem AA(d:aE)(hd:d.dn)(n:Int)(hn:1≤n)(hn2:n≤8)(ps:List Place)(l:List Road)(hl:l.length<10)(k:Nat)(hk:k≤10):
 iQ true [4,6,7,9] 6 (exS bY K.cj ⟨[.bp 0 0,.bp 1 0,.bp 2 0,I n,.und,.bp 5 0,.und,.und,I (k+1),.und],wM d ps l⟩)=
 some ⟨[.bp 0 0,.bp 1 0,.bp 2 0,I n,.und,.bp 5 0,.und,.und,I k,.und],wM (d.kA n).2 ps (if(d.kA n).1.frm=(d.kA n).1.to then l else l++[(d.kA n).1])⟩:=by
 unfold aE.kA wM
 simp only
 have h1:=jy d n (by omega) hd
 have l1:=aE.bU hd n
 generalize d.next n=a1 at*
 obtain⟨x1,d1⟩:=a1
 simp only at h1 l1 ⊢
 have h2:=jy d1 n (by omega) l1
 have l2:=aE.bU l1 n
 generalize d1.next n=a2 at*
 obtain⟨x2,d2⟩:=a2
 simp only at h2 l2 ⊢
 have h3:=Ct d2 [11,59,199] (by simp) (by simp) l2
 have m3:=d2.oQ (l:=[11,59,199]) (by simp)
 have l3:=aE.jk l2 [11,59,199]
 generalize d2.of [11,59,199]=a3 at*
 obtain⟨x3,d3⟩:=a3
 simp only[tL,List.map_cons,List.map_nil]at h3 m3 l3 ⊢
 have h4:=Ct d3 [9,3] (by simp) (by simp) l3
 have m4:=d3.oQ (l:=[9,3]) (by simp)
 have l4:=aE.jk l3 [9,3]
 generalize d3.of [9,3]=a4 at*
 obtain⟨x4,d4⟩:=a4
 simp only[tL,List.map_cons,List.map_nil]at h4 m4 l4 ⊢
 have h5:=jy d4 5 (by omega) l4
 have l5:=aE.bU l4 5
 generalize d4.next 5=a5 at*
 obtain⟨x5,d5⟩:=a5
 simp only at h5 l5 ⊢
 have h6:=Cs d5 6 (by omega) (by omega) l5
 generalize d5.one 6=a6 at*
 obtain⟨x6,d6⟩:=a6
 simp only[List.mem_cons,List.not_mem_nil,or_false]at h6 m3 m4 ⊢
 by_cases e:x1=x2
 · simp (disch:=omega) only[go_sem,K.cj,h1,h2,h3,h4,h5,h6,e,↓reduceIte,Nat.reduceAdd,Nat.reduceSub]
 · simp (disch:=omega) only[go_sem,K.cj,h1,h2,h3,h4,h5,h6,e,↓reduceIte,Nat.reduceAdd,Nat.reduceSub]
theorem uf(n:Int)(hn:1≤n)(hn2:n≤8)(ps:List Place):∀(k:Nat) (d:aE) (l:List Road),d.dn→l.length≤10→k≤10→
 ∃z:Int,ju true [4,6,7,9] (exS bY K.cj) ⟨[.bp 0 0,.bp 1 0,.bp 2 0,I n,.und,.bp 5 0,.und,.und,I k,.und],wM d ps l⟩=
 some (.exit 4,⟨[.bp 0 0,.bp 1 0,.bp 2 0,I n,.und,.bp 5 0,.und,.und,I z,.und],wM (aE.more n l d k).2 ps (aE.more n l d k).1⟩)
 | 0,d,l,hd,hl,hk=>by
   refine⟨0,fL ?_ (by simp)⟩
   simp (disch:=omega) only[go_sem,K.cj,aE.more,↓reduceIte,Nat.reduceAdd,Nat.reduceSub]
 | k+1,d,l,hd,hl,hk=>by
   by_cases h:l.length<10
   · have hr:=AA d hd n hn hn2 ps l h k (by omega)
     obtain⟨z,hz⟩:=uf n hn hn2 ps k (d.kA n).2 (if(d.kA n).1.frm=(d.kA n).1.to then l else l++[(d.kA n).1]) (aE.sB hd n) (by split<;>(try rw[List.length_append,List.length_singleton])<;>omega) (by omega)
     refine⟨z,jR hr ?_⟩
     rw[hz]
     simp only[aE.more,if_pos h]
   · refine⟨(k:Int)+1,fL ?_ (by simp)⟩
     simp (disch:=omega) only[go_sem,K.cj,aE.more,↓reduceIte,Nat.reduceAdd,Nat.reduceSub]
theorem aE.zv(n:Int):∀(k:Nat) (l:List Road) (d:aE),l.length≤10→(aE.more n l d k).1.length≤10
 | 0,l,d,h=>h
 | k+1,l,d,h=>by
   unfold aE.more
   split
   · exact aE.zv n k _ _ (by split<;>(try rw[List.length_append,List.length_singleton])<;>omega)
   · exact h
theorem aE.q8(d:aE):2≤d.nI∧d.nI≤7:=by
 unfold aE.nI
 have:=d.ic 6
 have:=d.ie (n:=6) (by omega)
 split<;>omega
theorem Lm(d:aE)(hd:d.dn):bY 0 N.bL [.bp 0 0] [d.obj]=some (.t d.HM.1.e,[d.HM.2.obj]):=by
 refine aX K.hX rfl ?_
 have nb:=d.q8
 unfold aE.HM
 have h0:=jy d 6 (by omega) hd
 have l0:=aE.bU hd 6
 have b1:=d.ic 6
 have b2:=d.ie (n:=6) (by omega)
 have hL:=d.G2 6
 have hN:(d.nI:Int)=if d.L.length=0 then 4 else 2+(d.next 6).1:=by unfold aE.nI;split<;>omega
 have e1:d.FK=aE.more d.nI d.uV.1 (d.uV.2.next 4).2 (d.uV.2.next 4).1.toNat:=rfl
 have e2:d.uV=d.C1.2.gk (d.nI-1):=rfl
 have e3:d.C1=(d.next 6).2.cJ d.nI:=rfl
 generalize d.FK=X at*
 generalize d.uV=R at*
 generalize d.C1=P at*
 generalize d.nI=n at*
 generalize d.next 6=a at*
 obtain⟨x,d1⟩:=a
 simp only at h0 l0 b1 b2 hL hN e3 ⊢
 have q1:=Ay d1 l0 n (by omega)
 have lP:=aE.gl l0 n
 have nP:=d1.kB n
 rw[← e3]at q1 lP nP
 obtain⟨ps,d2⟩:=P
 simp only at q1 lP nP e2 ⊢
 have q2:=Az d2 lP n (by omega) (by omega) ps
 have lR:=aE.jo lP (n-1)
 have nR:=d2.mq (n-1)
 rw[← e2]at q2 lR nR
 obtain⟨rs,d3⟩:=R
 simp only at q2 lR nR e1 ⊢
 have h4:=jy d3 4 (by omega) lR
 have l4:=aE.bU lR 4
 have b3:=d3.ic 4
 have b4:=d3.ie (n:=4) (by omega)
 generalize d3.next 4=c at*
 obtain⟨y,d4⟩:=c
 simp only at h4 l4 b3 b4 e1 ⊢
 obtain⟨z,q3⟩:=uf n (by omega) (by omega) ps y.toNat d4 rs l4 (by omega) (by omega)
 rw[← e1]at q3
 have q3:=Cr (vs:=[.bp 0 0,.bp 1 0,.bp 2 0,I n,.und,.bp 5 0,I n,.und,I y.toNat,.und]) q3
 have ey:(y.toNat:Int)=y:=by omega
 rw[ey]at q3
 obtain⟨xs,d5⟩:=X
 have fin:∀k:Int,(exS bY K.jU ⟨[.bp 0 0,.bp 1 0,.bp 2 0,I n,.und,.bp 5 0,I n,.und,I y,.und],wM d4 ps rs⟩)=
  some (.exit 4,⟨[.bp 0 0,.bp 1 0,.bp 2 0,I n,.und,.bp 5 0,.und,.und,I z,.und],wM d5 ps xs⟩):=fun _=>q3
 clear q3
 have q3:=fin 0
 clear fin
 simp only[wM]at q3
 by_cases c0:d.L.length=0
 · rw[if_pos c0]at hN
   obtain rfl:n=4:=by omega
   have e4:((4:Nat):Int)=4:=rfl
   simp only[e4]at q1 q2 q3
   simp (disch:=omega) only[go_sem,K.bL,↓reduceIte,h0,c0,q1,q2,q3,h4,hL,Nat.reduceAdd,Nat.reduceSub]
 · rw[if_neg c0]at hN
   simp (disch:=omega) only[go_sem,K.bL,↓reduceIte,h0,c0,q1,q2,q3,h4,hL,hN.symm,Nat.reduceAdd,Nat.reduceSub]
theorem aE.FL(d:aE){n:Nat}{i:Int}(h1:1≤i)(h2:i<n):(d.Aw i).1.ok n:=by
 have b1:=d.ic (min i 2)
 have b2:=d.ie (n:=min i 2) (by omega)
 have m2:=(d.next (min i 2)).2.oQ (l:=[11,59,119,4]) (by simp)
 have m3:=((d.next (min i 2)).2.of [11,59,119,4]).2.oQ (l:=[9,3,19]) (by simp)
 simp only[List.mem_cons,List.not_mem_nil,or_false]at m2 m3
 unfold aE.Aw
 constructor<;>(simp only;omega)
theorem aE.wN(d:aE){n:Nat}:∀k,k+1≤n→∀r∈(d.gk k).1,r.ok n
 | 0,_,r,hr=>by simp[aE.gk]at hr
 | k+1,h,r,hr=>by
   simp only[aE.gk,List.mem_append,List.mem_singleton]at hr
   rcases hr with hr | rfl
   · exact d.wN k (by omega) r hr
   · exact aE.FL _ (by omega) (by omega)
theorem aE.FM(d:aE){n:Nat}(hn:1≤n)(hne:(d.kA n).1.frm≠(d.kA n).1.to):(d.kA n).1.ok n:=by
 unfold aE.kA at hne ⊢
 simp only at hne ⊢
 have b1:=d.ic n
 have b2:=d.ie (n:=(n:Int)) (by omega)
 generalize d.next n=a1 at*
 obtain⟨x1,d1⟩:=a1
 simp only at*
 have c1:=d1.ic n
 have c2:=d1.ie (n:=(n:Int)) (by omega)
 generalize d1.next n=a2 at*
 obtain⟨x2,d2⟩:=a2
 simp only at*
 have m3:=d2.oQ (l:=[11,59,199]) (by simp)
 generalize d2.of [11,59,199]=a3 at*
 obtain⟨x3,d3⟩:=a3
 simp only at*
 have m4:=d3.oQ (l:=[9,3]) (by simp)
 generalize d3.of [9,3]=a4 at*
 obtain⟨x4,d4⟩:=a4
 simp only[List.mem_cons,List.not_mem_nil,or_false]at m3 m4 ⊢
 constructor<;>(simp only;omega)
theorem aE.C2{n:Nat}(hn:1≤n):∀(k:Nat) (l:List Road) (d:aE),(∀r∈l,r.ok n)→∀r∈(aE.more n l d k).1,r.ok n
 | 0,l,d,h=>h
 | k+1,l,d,h=>by
   unfold aE.more
   split
   · refine aE.C2 hn k _ _ ?_
     split
     · exact h
     · rename_i hne
       intro r hr
       rcases List.mem_append.1 hr with hr | hr
       · exact h r hr
       · rw[List.mem_singleton.1 hr];exact d.FM hn hne
   · exact h
theorem aE.wO(n:Int):∀(k:Nat) (l:List Road) (d:aE),l.length≤(aE.more n l d k).1.length
 | 0,l,d=>Nat.le_refl _
 | k+1,l,d=>by
   unfold aE.more
   split
   · refine Nat.le_trans ?_ (aE.wO n k _ _)
     split<;>(try rw[List.length_append])<;>omega
   · exact Nat.le_refl _
theorem aE.wP(d:aE):∀k,∀p∈(d.cJ k).1, -30≤p.h∧p.h≤0
 | 0,p,hp=>by simp[aE.cJ]at hp
 | k+1,p,hp=>by
   have b1:=(d.cJ k).2.ic 4
   have b2:=(d.cJ k).2.ie (n:=4) (by omega)
   unfold aE.cJ at hp
   split at hp
   all_goals
    simp only[List.mem_append,List.mem_singleton]at hp
    rcases hp with hp | rfl
    · exact d.wP k p hp
    · simp only;omega
theorem aE.sC(d:aE):d.HM.1.places.length=d.nI:=aE.kB _ _
theorem aE.ug(d:aE):d.nI-1≤d.HM.1.roads.length∧d.HM.1.roads.length≤10:=by
 have nb:=d.q8
 have e:d.uV.1.length=d.nI-1:=aE.mq _ _
 constructor
 · rw[← e];exact aE.wO _ _ _ _
 · exact aE.zv _ _ _ _ (by omega)
theorem aE.C3(d:aE):d.HM.1.ok:=by
 have nb:=d.q8
 have h1:=d.sC
 have h2:=d.ug
 refine⟨by omega,by omega,fun p hp=>?_,?_⟩
 · have:=aE.wP _ _ p hp;omega
 · rw[h1]
   exact aE.C2 (by omega) _ _ _ (aE.wN _ _ (by omega))
@[go_sem] theorem RX (l : List Spn) : jw 2 (l.map Spn.e) = true := by cases l <;> rfl
@[go_sem] theorem XK (l : List Spn) (k : Nat) (a b : Int) : (List.map D.t (List.map Spn.e l)).set k (D.t (T.agg [tI a, tI b])) = List.map D.t (List.map Spn.e (l.set k ⟨a, b⟩)) := by
 rw[List.map_set,List.map_set]
@[go_sem] theorem Y6 (H : ab) (sz : Nat) (a b c d e f : T) : tX H sz [.t a, .t b, .t c, .t d, .t e, .t f] = if bz sz [a, b, c, d, e, f] = true then some (.t (.sl [a, b, c, d, e, f]), H) else none := ly H sz [a, b, c, d, e, f]
@[go_sem] theorem Y7 (H : ab) (sz : Nat) (a b c d e f g : T) : tX H sz [.t a, .t b, .t c, .t d, .t e, .t f, .t g] = if bz sz [a, b, c, d, e, f, g] = true then some (.t (.sl [a, b, c, d, e, f, g]), H) else none := ly H sz [a, b, c, d, e, f, g]
@[go_sem] theorem Y8 (H : ab) (sz : Nat) (a b c d e f g h : T) : tX H sz [.t a, .t b, .t c, .t d, .t e, .t f, .t g, .t h] = if bz sz [a, b, c, d, e, f, g, h] = true then some (.t (.sl [a, b, c, d, e, f, g, h]), H) else none := ly H sz [a, b, c, d, e, f, g, h]
@[go_sem] theorem RY {α β γ : Type} {l : List α} {g : α → β} {f : β → γ} {x : γ} {j : Nat} (h : j = l.length) : (List.map f (List.map g l) ++ [x])[j]? = some x := by
 rw[List.getElem?_append_right (by simp;omega)];simp[h]
@[go_sem] theorem UU {α β γ : Type} {l : List α} {g : α → β} {f : β → γ} {x y : γ} {j : Nat} (h : j = l.length) : (List.map f (List.map g l) ++ [x]).set j y = List.map f (List.map g l) ++ [y] := by
 rw[List.set_append_right _ _ (by simp;omega)];simp[h]
def aE.RZ(d:aE):Spn×aE:=
 let a:=d.of [0,1000,5000,20000, -5000, -20000,4999,100]
 let b:=a.2.of [0,1,1000,6000]
 let c:=b.2.of [0,1,500]
 let w:=c.2.one 9
 (if w.1=true then⟨-1125899906842624,1125899906842624⟩else⟨a.1-b.1,a.1+c.1⟩,w.2)
def aE.zw(d:aE):Nat→List Spn×aE
 | 0=>([],d)
 | k+1=>((d.zw k).1++[((d.zw k).2.RZ).1],((d.zw k).2.RZ).2)
def aE.XL(d:aE)(m:bj):List Spn×aE:=d.zw m.roads.length
theorem R0(l:List Int):bY 0 N.fA [.t (tL l)] []=some (.bp 0 0,[aE.obj ⟨l,0⟩]):=by
 refine aX K.nz rfl ?_
 simp (disch:=omega) only[go_sem,K.fA,↓reduceIte,aE.obj,Nat.reduceAdd,Nat.reduceSub]
theorem R3{d:aE}(hd:d.dn)(n:Int)(h1:1≤n)(hn:n≤4611686018427387904):
 ∃(v:Int) (e:aE),bY 0 N.aD [.bp 0 0,I n] [d.obj]=some (I v,[e.obj])∧e.dn∧0≤v∧v<n:=
 ⟨_,_,jy d n hn hd,aE.bU hd n,d.ic n,d.ie h1⟩
theorem R4{d:aE}(hd:d.dn)(n:Int)(h1:0≤n)(hn:n≤4611686018427387904):
 ∃(b:Bool) (e:aE),bY 0 N.aW [.bp 0 0,I n] [d.obj]=some (B b,[e.obj])∧e.dn:=
 ⟨_,_,Cs d n h1 hn hd,aE.sq hd n⟩
theorem Z3{d:aE}(hd:d.dn)(l:List Int)(hl:l≠[])(hn:l.length≤4294967296):
 ∃(v:Int) (e:aE),bY 0 N.bu [.bp 0 0,.t (tL l)] [d.obj]=some (I v,[e.obj])∧e.dn∧v∈l:=
 ⟨_,_,Ct d l hl hn hd,aE.jk hd l,d.oQ hl⟩
theorem R5{d:aE}(hd:d.dn):
 ∃(m:bj) (e:aE),bY 0 N.bL [.bp 0 0] [d.obj]=some (.t m.e,[e.obj])∧e.dn∧m.ok∧2≤m.places.length∧m.places.length≤7∧1≤m.roads.length∧m.roads.length≤10:=by
 have b:=d.q8
 have p:=d.sC
 have r:=d.ug
 exact⟨_,_,Lm d hd,aE.Ax hd,d.C3,by omega,by omega,by omega,by omega⟩
end Go.Ev
namespace Go.Ev
open Go
variable [Lib] [bQ] [bC] [eE] [eB]
abbrev never:Int:=1099511627776
abbrev Wh.box(w:Wh):Obj:= .box [I w.time,.t (tL w.frm)]
structure Req where
 x:FD
 s:US
 k:Keys
 b:Bel
 t:Int
 from_:Int
abbrev Req.e(r:Req):T:= .agg [tL r.x.area,tI r.x.hold,tI r.x.mis,tI r.s.st,tI r.s.fi,tI r.s.se,tI r.s.ti,tL r.k.roads,tL r.k.keys,.bool r.k.out,.sl (r.b.worlds.map World.e),tI r.t,tI r.from_]
structure Req.sz(r:Req):Prop where
 hx:r.x.area.length≤1000000
 hk:r.k.roads.length≤1000000
 hk2:r.k.keys.length≤1000000
 hb:r.b.sz
section
variable (x : FD) (s : US) (k : Keys) (b : Bel) (hx : x.area.length ≤ 1000000) (hk : k.roads.length ≤ 1000000) (hk2 : k.keys.length ≤ 1000000) (hb : b.sz)
include hx hk hk2 hb
end
end Go.Ev
namespace Go.Ev
open Go
variable [Lib] [bQ] [bC] [eE] [eB]
section
variable (area : List Int) (ha : area.length ≤ 1000000) (xs : List World) (hx : xs.length ≤ 1000000)
include ha hx
end
end Go.Ev
namespace Go.Ev.K
open Go.Ev
end Go.Ev.K
namespace Go.Ev
class gU [Lib]:Prop where
namespace K
variable [Lib] [gU]
end K
end Go.Ev
namespace Go.Ev.K
open Go.Ev
def bF:Fn:={ nargs:=1,vars:=[],body:= .fail,res:=[],prim:=[1]}
end Go.Ev.K
namespace Go.Ev
class dF [Lib]:Prop where
 gV:Lib.fs N.bF=some K.bF
namespace K
variable [Lib] [dF]
theorem gV:Lib.fs N.bF=some K.bF:=dF.gV
end K
end Go.Ev
namespace Go.Ev
open Go
variable [Lib] [bQ] [bC] [eE] [eB] [gU] [dW] [dR] [fP] [ez] [dF]
end Go.Ev
namespace Go.Ev
open Go
theorem yf{d:D}{n:Int}(h:yH d=some n):d= .t (.int .i64 n):=by
 unfold yH at h
 split at h
 · cases h;rfl
 · cases h
theorem C4:∀ {es:List D} {l:List Int},bn yH es=some l→es=l.map fun x=> .t (.int .i64 x)
 | [],l,h=>by simp[bn]at h;subst h;rfl
 | e::r,l,h=>by
   simp only[bn,Option.bind_eq_some_iff,Option.map_eq_some_iff]at h
   obtain⟨x,hx,y,hy,rfl⟩:=h
   rw[yf hx,C4 hy];rfl
theorem sD(x:Int):∀l,(H9 x l).Perm (x::l)
 | []=> .refl _
 | y::r=>by
   unfold H9
   split
   · exact .refl _
   · exact((sD x r).cons y).trans (.swap x y r)
theorem pX:∀l,(kg l).Perm l
 | []=> .refl _
 | x::r=>(sD x _).trans ((pX r).cons x)
theorem C5{x:Int}:∀ {l:List Int},l.Pairwise (· ≤ ·)→(H9 x l).Pairwise (· ≤ ·)
 | [],_=>by simp[H9]
 | y::r,h=>by
   unfold H9
   split
   · rename_i hx
     refine List.pairwise_cons.2 ⟨fun z hz=>?_,h⟩
     rcases List.mem_cons.1 hz with rfl | hz
     · exact hx
     · have:=(List.pairwise_cons.1 h).1 z hz;omega
   · rename_i hx
     have h':=List.pairwise_cons.1 h
     refine List.pairwise_cons.2 ⟨fun z hz=>?_,C5 h'.2⟩
     have hz:=(sD x r).mem_iff.1 hz
     rcases List.mem_cons.1 hz with rfl | hz
     · omega
     · exact h'.1 z hz
theorem zx:∀l,(kg l).Pairwise (· ≤ ·)
 | []=> .nil
 | x::r=>C5 (zx r)
theorem lI(l:List Int):(kg l).length=l.length:=(pX l).length_eq
theorem zy(l:List Int):(l.mergeSort fun x y=>decide (x≤y))=kg l:=by
 refine List.Perm.eq_of_pairwise (le:=(· ≤ ·)) (fun a b _ _ h1 h2=>by omega) ?_ (zx l) ((List.mergeSort_perm _ _).trans (pX l).symm)
 have:=List.pairwise_mergeSort (le:=fun x y:Int=>decide (x≤y)) (fun a b c=>by simp;omega) (fun a b=>by simp;omega) l
 exact this.imp (by simp)
end Go.Ev
namespace Go.Ev
open Go
variable [Lib] [bQ] [bC] [eE] [eB] [gU] [dW] [dR] [fP] [ez] [dF]
section
variable (k : Keys) (hl : k.keys.length ≤ 1000000) (hr : k.roads.length ≤ 1000000)
include hl hr
end
end Go.Ev
namespace Go.Ev
open Go
variable [Lib] [bQ] [bC] [eE] [eB] [gU] [dW] [dR] [fP] [ez] [dF]
section
variable (b u v y : Obj) (ds : ab)
end
end Go.Ev
