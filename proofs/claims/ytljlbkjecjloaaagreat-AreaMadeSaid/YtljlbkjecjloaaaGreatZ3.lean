/- Parts of the proof: see the text that holds the theorem. -/
import Derived.Test.YtljlbkjecjloaaaGreatZ2
set_option linter.all false
set_option maxRecDepth 100000
namespace Go.Ev
open Go
abbrev Tr:=List D×List D×ai
def EH(x:Option (D×ai)):Option D:=x.map Prod.fst
def xe:O→Bool
 | .ld .. =>true
 | .ia .. =>true
 | .sc .. =>true
 | .mkt .. =>true
 | _=>false
def Uv(call:aT)(all:List R)(n:Nat)(acc:List Tr)(p m:Nat):Prop:=
 match all[p]?,acc[n-p]?,acc[n-m]?,acc[n-(p+1)]? with
 | some r,some s,some a,some s'=>(match r.o with
   | .al _ _=>a.2.2[s.2.2.length]?=s'.2.2[s.2.2.length]?
   | .bs xs _=>cG s.1 r.g=some false∨((bA (X.get s.2.1 s.1) xs).bind r9).isSome=true
   | o=>xe o=true∧(cG s.1 r.g=some false∨EH (evO call (X.get s.2.1 s.1) a.2.2 o)=EH (evO call (X.get s.2.1 s.1) s.2.2 o)))
 | _,_,_,_=>False
def sj(call:aT)(all:List R)(n:Nat)(acc:List Tr):List (Nat×Nat)→Prop
 | []=>True
 | (p,m)::r=>Uv call all n acc p m∧m≤n∧sj call all n acc r
open Classical in
noncomputable def Nc(call:aT)(rs:List R)(ps:List (Nat×Nat))(vs:List D)(H:ai):Option (List D×List D×ai):=
 if sj call rs rs.length (trace call rs [] vs H).reverse ps then evR call rs [] vs H else none
theorem ym{call:aT}:∀ {rs:List R} {L vs:List D} {H:ai} {res:List D×List D×ai},evR call rs L vs H=some res→
 (trace call rs L vs H).length=rs.length+1∧
 ∀p r s s',rs[p]?=some r→(trace call rs L vs H)[p]?=some s→(trace call rs L vs H)[p+1]?=some s'→
  (∃q,cG s.1 r.g=some true∧evO call (X.get s.2.1 s.1) s.2.2 r.o=some q∧s'=(q.1::s.1,wr s.2.1 r.d q.1,q.2))∨cG s.1 r.g=some false
 | [],L,vs,H,res,h=>by simp[trace]
 | r::rs,L,vs,H,res,h=>by
   simp only[evR]at h
   obtain⟨b,hb,h⟩:=Option.bind_eq_some_iff.1 h
   cases b with
   | true=>
     simp only[if_true]at h
     obtain⟨q,hq,h⟩:=Option.bind_eq_some_iff.1 h
     obtain⟨a1,a2⟩:=ym h
     have e:trace call (r::rs) L vs H=(L,vs,H)::trace call rs (q.1::L) (wr vs r.d q.1) q.2:=by simp[trace,hb,hq]
     rw[e]
     refine⟨by simp[a1],fun p r' s s' hr hs hs'=>?_⟩
     cases p with
     | zero=>
       simp at hr hs hs'
       subst hr;subst hs
       have:(trace call rs (q.1::L) (wr vs r.d q.1) q.2)[0]?=some (q.1::L,wr vs r.d q.1,q.2):=by cases rs<;>simp[trace]
       rw[this]at hs'
       exact .inl ⟨q,hb,hq,(Option.some.inj hs').symm⟩
     | succ p=>simp at hr hs hs';exact a2 p r' s s' hr hs hs'
   | false=>
     simp only[Bool.false_eq_true,if_false]at h
     obtain⟨a1,a2⟩:=ym h
     have e:trace call (r::rs) L vs H=(L,vs,H)::trace call rs (.tup []::L) (wr vs r.d (.tup [])) H:=by simp[trace,hb]
     rw[e]
     refine⟨by simp[a1],fun p r' s s' hr hs hs'=>?_⟩
     cases p with
     | zero=>
       simp at hr hs
       subst hr;subst hs
       exact .inr hb
     | succ p=>simp at hr hs hs';exact a2 p r' s s' hr hs hs'
theorem HI{call:aT}{get:X→Option D}{o:O}(h:xe o=true)(H:ai):EH (evO call get H o)=zy get H o:=by
 cases o<;>simp only[xe,Bool.false_eq_true]at h
 case ia x i sz=>
  simp only[evO,zy,EH]
  cases get x with
  | none=>rfl
  | some a=>
    simp only[Option.bind_some]
    cases (get i).bind intOf with
    | none=>rfl
    | some n=>simp only[Option.bind_some];cases EM H a n sz<;>rfl
 case ld x n agg=>
  simp only[evO,zy,EH]
  cases get x with
  | none=>rfl
  | some a=>simp only[Option.bind_some];cases x8 H a n agg<;>rfl
 case mkt len zero sz=>
  simp only[evO,zy,EH]
  cases (get len).bind intOf with
  | none=>rfl
  | some n=>
    simp only[Option.bind_some]
    cases idx n with
    | none=>rfl
    | some m=>simp only[Option.bind_some];split<;>rfl
 case sc x lo hi sz=>
  simp only[evO,zy,EH]
  cases get x with
  | none=>rfl
  | some a=>
    simp only[Option.bind_some]
    cases Ko get lo with
    | none=>rfl
    | some l=>
      simp only[Option.bind_some]
      cases Ko get hi with
      | none=>rfl
      | some h=>simp only[Option.bind_some];cases sJ H a l h sz<;>rfl
theorem sR{call:aT}{rs:List R}{ps:List (Nat×Nat)}{vs:List D}{H:ai}{q:List D×List D×ai}(h:Nc call rs ps vs H=some q):uF call rs ps vs H=some q:=by
 unfold Nc at h
 split at h
 · rename_i hp
   unfold uF
   obtain⟨h1,h2⟩:=ym h
   have key:ps.all (steady (trace call rs [] vs H) rs)=true:=by
    rw[List.all_eq_true]
    have:∀(ps:List (Nat×Nat)),sj call rs rs.length (trace call rs [] vs H).reverse ps→∀x∈ps,steady (trace call rs [] vs H) rs x=true:=by
     intro ps
     induction ps with
     | nil=>intro _ x hx;cases hx
     | cons y ps ih=>
       intro hps x hx
       obtain⟨p,m⟩:=y
       obtain⟨hp,hm,hps⟩:=hps
       rcases List.mem_cons.1 hx with rfl | hx
       · unfold Uv at hp
         have hidx:∀k,k≤rs.length→(trace call rs [] vs H).reverse[rs.length-k]?=(trace call rs [] vs H)[k]?:=by
          intro k hk
          rw[List.getElem?_reverse (by omega),h1]
          congr 1;omega
         split at hp
         · rename_i r s a s' hr hs ha hs'
           have hpl:p<rs.length:=(List.getElem?_eq_some_iff.1 hr).1
           rw[hidx p (by omega)]at hs
           rw[hidx m hm]at ha
           rw[hidx (p+1) (by omega)]at hs'
           simp only[steady,hs,hr,ha,hs']
           have hst:=h2 p r s s' hr hs hs'
           have gen:∀o,r.o=o→xe o=true→(cG s.1 r.g=some false∨EH (evO call (X.get s.2.1 s.1) a.2.2 o)=EH (evO call (X.get s.2.1 s.1) s.2.2 o))→
            cG s.1 r.g=some false∨(zy (X.get s.2.1 s.1) a.2.2 o=zy (X.get s.2.1 s.1) s.2.2 o∧(zy (X.get s.2.1 s.1) s.2.2 o).isSome=true):=by
            intro o ho hl hor
            rcases hor with h3 | h3
            · exact .inl h3
            · rw[HI hl,HI hl]at h3
              rcases hst with⟨q,k1,k2,_⟩ | k
              · rw[ho]at k2
                have h4:zy (X.get s.2.1 s.1) s.2.2 o=some q.1:=by rw[← HI hl (call:=call),k2];rfl
                exact .inr ⟨h3,by rw[h4];rfl⟩
              · exact .inl k
           split
           · rename_i zero live ho
             rw[ho]at hp
             simp only at hp
             simp[hp]
           · rename_i hnal
             simp only[Bool.or_eq_true,beq_iff_eq,Bool.and_eq_true,decide_eq_true_eq]
             cases ho:r.o with
             | ld x n agg=>rw[ho]at hp;exact gen _ ho rfl hp.2
             | ia x i sz=>rw[ho]at hp;exact gen _ ho rfl hp.2
             | sc x lo hi sz=>rw[ho]at hp;exact gen _ ho rfl hp.2
             | mkt x z sz=>rw[ho]at hp;exact gen _ ho rfl hp.2
             | al z l=>exact(hnal _ _ ho).elim
             | bs xs sz=>
               rw[ho]at hp
               simp only at hp
               rcases hp with h3 | h3
               · exact .inl h3
               · rcases hst with⟨q,k1,k2,_⟩ | k
                 · obtain⟨ts,hts⟩:=Option.isSome_iff_exists.1 h3
                   obtain⟨ds,hds,hts⟩:=Option.bind_eq_some_iff.1 hts
                   rw[ho]at k2
                   simp only[evO,hds,Option.bind_some]at k2
                   split at k2
                   · rename_i hall
                     have har:∀(H:ai) (ds:List D) (ts:List T),r9 ds=some ts→ds.flatMap (fF H depth)=[]∧bA (frz H depth) ds=some ts:=by
                      intro H ds
                      induction ds with
                      | nil=>intro ts h;simp[r9]at h;subst h;exact⟨rfl,rfl⟩
                      | cons d ds ih=>
                        intro ts h
                        cases d with
                        | t x=>
                          simp only[r9,Option.map_eq_some_iff]at h
                          obtain⟨r,hr,rfl⟩:=h
                          obtain⟨i1,i2⟩:=ih r hr
                          exact⟨by rw[List.flatMap_cons,i1];simp[fF,depth],by simp[bA,frz,i2]⟩
                        | _=>simp[r9]at h
                     right
                     simp only[zy,hds,Option.bind_some,hall,(har _ ds ts hts).1,(har _ ds ts hts).2,List.isEmpty_nil,Bool.and_self,if_true,Option.map_some,Option.isSome_some,and_self]
                   · cases k2
                 · exact .inl k
             | _=>rw[ho]at hp;simp[xe]at hp
         · exact hp.elim
       · exact ih hps x hx
    exact fun x hx=>this ps hp x hx
   rw[if_pos (by simp[key])]
   exact h
 · cases h
noncomputable def exS(call:aT):C→St→Option (Ex×St)
 | .skip,st=>some (.normal,st)
 | .reg rs ps,st=>(Nc call rs ps st.vs st.H).map fun q=>(.normal,⟨q.2.1,q.2.2⟩)
 | .seq a b,st=>(exS call a st).bind fun p=>ij p (exS call b)
 | .ite rs ps k a b,st=>(Nc call rs ps st.vs st.H).bind fun q=>
  iN q.1[k]? (exS call a ⟨q.2.1,q.2.2⟩) (exS call b ⟨q.2.1,q.2.2⟩)
 | .its rs ps k a b c,st=>((Nc call rs ps st.vs st.H).bind fun q=>
  iN q.1[k]? (exS call a ⟨q.2.1,q.2.2⟩) (exS call b ⟨q.2.1,q.2.2⟩)).bind fun p=>ij p (exS call c)
 | .itk rs ps k a b c,st=>(Nc call rs ps st.vs st.H).bind fun q=>
  iN q.1[k]? ((exS call a ⟨q.2.1,q.2.2⟩).bind fun p=>ij p (exS call c)) ((exS call b ⟨q.2.1,q.2.2⟩).bind fun p=>ij p (exS call c))
 | .itv j a b,st=>iN st.vs[j]? (exS call a st) (exS call b st)
 | .blk id c,st=>(exS call c st).map (leave id)
 | .loop gc dead c,st=>nV gc dead (exS call c) ⟨j7 dead st.vs,st.H⟩
 | .exit id,st=>some (.exit id,st)
 | .ret,st=>some (.ret,st)
 | .fail,_=>none
 | .cnd _ c,st=>exS call c st
 | .rng x p f r1 p1 r2 p2,st=>(My (stepG (Nc call) st.vs p r1 p1 r2 p2) (Qa f st.vs[x]?) st.H).map fun H=>(.normal,⟨st.vs,H⟩)
theorem Qt{call:aT}:∀(c:C) (st:St) (p:Ex×St),exS call c st=some p→exC call c st=some p:=by
 intro c
 induction c with
 | skip=>intro st p h;exact h
 | reg rs ps=>
   intro st p h
   simp only[exS,exC]at h ⊢
   obtain⟨q,hq,rfl⟩:=Option.map_eq_some_iff.1 h
   rw[sR hq];rfl
 | seq a b iha ihb=>
   intro st p h
   simp only[exS,exC]at h ⊢
   obtain⟨q,hq,h⟩:=Option.bind_eq_some_iff.1 h
   rw[iha _ _ hq,Option.bind_some]
   exact gP h ihb
 | ite rs ps k a b iha ihb=>
   intro st p h
   simp only[exS,exC]at h ⊢
   obtain⟨q,hq,h⟩:=Option.bind_eq_some_iff.1 h
   rw[sR hq,Option.bind_some]
   exact kR h (iha _ _) (ihb _ _)
 | its rs ps k a b c iha ihb ihc=>
   intro st p h
   simp only[exS,exC]at h ⊢
   obtain⟨p1,hp1,h⟩:=Option.bind_eq_some_iff.1 h
   obtain⟨q,hq,hp1⟩:=Option.bind_eq_some_iff.1 hp1
   rw[sR hq,Option.bind_some,kR hp1 (iha _ _) (ihb _ _),Option.bind_some]
   exact gP h ihc
 | itk rs ps k a b c iha ihb ihc=>
   intro st p h
   simp only[exS,exC]at h ⊢
   obtain⟨q,hq,h⟩:=Option.bind_eq_some_iff.1 h
   rw[sR hq,Option.bind_some]
   refine kR h (fun h1=>?_) (fun h1=>?_)
   · obtain⟨p1,h2,h3⟩:=Option.bind_eq_some_iff.1 h1
     rw[iha _ _ h2,Option.bind_some]
     exact gP h3 ihc
   · obtain⟨p1,h2,h3⟩:=Option.bind_eq_some_iff.1 h1
     rw[ihb _ _ h2,Option.bind_some]
     exact gP h3 ihc
 | itv j a b iha ihb=>
   intro st p h
   simp only[exS,exC]at h ⊢
   exact kR h (iha _ _) (ihb _ _)
 | blk id c ih=>
   intro st p h
   simp only[exS,exC]at h ⊢
   obtain⟨q,hq,rfl⟩:=Option.map_eq_some_iff.1 h
   rw[ih _ _ hq];rfl
 | loop gc dead c ih=>
   intro st p h
   simp only[exS,exC]at h ⊢
   obtain⟨n,hn⟩:=qh.1 h
   exact qh.2 ⟨n,xc ih hn⟩
 | exit id=>intro st p h;exact h
 | ret=>intro st p h;exact h
 | fail=>intro st p h;cases h
 | cnd v c ih=>intro st p h;exact ih st p h
 | rng x p f r1 p1 r2 p2=>
   intro st q h
   simp only[exS,exC]at h ⊢
   obtain⟨H,hH,rfl⟩:=Option.map_eq_some_iff.1 h
   rw[Aj (x9 fun _ _ _ _ _ hr=>sR hr) hH];rfl
end Go.Ev
namespace Go.Ev
open Go
abbrev I(n:Int):D:= .t (.int .i64 n)
abbrev B(b:Bool):D:= .t (.bool b)
def L6{β:Type}(call:aT):List R→List D→List D→ai→(List D→List D→ai→Option β)→Option β
 | rs,L,vs,H,K=>(evR call rs L vs H).bind fun q=>K q.1 q.2.1 q.2.2
def Uw{β:Type}(call:aT)(rs:List R)(d:Option Nat)(L vs:List D)(K:List D→List D→ai→Option β)(p:D×ai):Option β:=
 L6 call rs (p.1::L) (wr vs d p.1) p.2 K
@[go_sem] theorem ac8 {β : Type} (call : aT) (rs : List R) (d : Option Nat) (L vs : List D) (K : List D → List D → ai → Option β) (x : D) (H : ai) :
 Uw call rs d L vs K (x,H)=L6 call rs (x::L) (wr vs d x) H K:=(rfl)
@[go_sem] theorem ac9 {β : Type} (call : aT) (L vs : List D) (H : ai) (K : List D → List D → ai → Option β) : L6 call [] L vs H K = K L vs H := (rfl)
@[go_sem] theorem aap {β : Type} (call : aT) (o : O) (d : Option Nat) (rs : List R) (L vs : List D) (H : ai) (K : List D → List D → ai → Option β) :
 L6 call (⟨o,d,none⟩::rs) L vs H K=(evO call (X.get vs L) H o).bind (Uw call rs d L vs K):=by
 simp[L6,evR,cG,Option.bind_assoc]
 rfl
def gate{β:Type}(c:Option D)(w:Bool)(a b:Option β):Option β:=match c with
 | some (.t (.bool x))=>if x=w then a else b
 | some (.tup [])=>b
 | _=>none
@[congr] theorem XV {β : Type} {c c' : Option D} {w : Bool} {a b : Option β} (h : True → c = c') : gate c w a b = gate c' w a b := by rw [h trivial]
@[go_sem] theorem aaq {β : Type} (x : Bool) (a b : Option β) : gate (some (.t (.bool x))) true a b = if x = true then a else b := (rfl)
@[go_sem] theorem XW {β : Type} (x : Bool) (a b : Option β) : gate (some (.t (.bool x))) false a b = if x = true then b else a := by cases x <;> rfl
@[go_sem] theorem aar {β : Type} (w : Bool) (a b : Option β) : gate (some (.tup [])) w a b = b := (rfl)
@[go_sem] theorem aas {β : Type} (call : aT) (o : O) (d : Option Nat) (k : Nat) (w : Bool) (rs : List R) (L vs : List D) (H : ai) (K : List D → List D → ai → Option β) :
 L6 call (⟨o,d,some (k,w)⟩::rs) L vs H K=gate L[k]? w ((evO call (X.get vs L) H o).bind (Uw call rs d L vs K)) (L6 call rs (.tup []::L) (wr vs d (.tup [])) H K):=by
 simp only[L6,evR,cG]
 cases hL:L[k]? with
 | none=>simp[gate]
 | some c=>
   simp only[Option.bind_some]
   cases c with
   | t x=>
     cases x with
     | bool b=>cases b<;>cases w<;>simp[gate,Option.bind_assoc]<;>rfl
     | _=>simp[gate]
   | tup ds=>
     cases ds with
     | nil=>simp[gate]
     | cons=>simp[gate]
   | _=>simp[gate]
open Classical in
noncomputable def za{β:Type}(p:Prop)(x:Option β):Option β:=if p then x else none
@[go_sem] theorem Ux {β : Type} (x : Option β) : za True x = x := by simp [za]
noncomputable def Ft{β:Type}(call:aT)(all:List R)(n:Nat)(ps:List (Nat×Nat))(rs:List R)(L vs:List D)(H:ai)(acc:List Tr)(K:List D→List D→ai→Option β):Option β:=
 (evR call rs L vs H).bind fun q=>za (sj call all n ((trace call rs L vs H).reverse++acc) ps) (K q.1 q.2.1 q.2.2)
noncomputable def Nd{β:Type}(call:aT)(all:List R)(n:Nat)(ps:List (Nat×Nat))(rs:List R)(d:Option Nat)(L vs:List D)(H:ai)(acc:List Tr)(K:List D→List D→ai→Option β)(p:D×ai):Option β:=
 Ft call all n ps rs (p.1::L) (wr vs d p.1) p.2 ((L,vs,H)::acc) K
@[go_sem] theorem ada {β : Type} (call : aT) (all : List R) (n : Nat) (ps : List (Nat × Nat)) (rs : List R) (d : Option Nat) (L vs : List D) (H : ai) (acc : List Tr) (K : List D → List D → ai → Option β) (x : D) (H' : ai) :
 Nd call all n ps rs d L vs H acc K (x,H')=Ft call all n ps rs (x::L) (wr vs d x) H' ((L,vs,H)::acc) K:=(rfl)
@[go_sem] theorem adb {β : Type} (call : aT) (all : List R) (n : Nat) (ps : List (Nat × Nat)) (L vs : List D) (H : ai) (acc : List Tr) (K : List D → List D → ai → Option β) :
 Ft call all n ps [] L vs H acc K=za (sj call all n ((L,vs,H)::acc) ps) (K L vs H):=by
 simp[Ft,evR,trace]
theorem Fu{β:Type}(call:aT)(all:List R)(n:Nat)(ps:List (Nat×Nat))(r:R)(rs:List R)(L vs:List D)(H:ai)(acc:List Tr)(K:List D→List D→ai→Option β):
 Ft call all n ps (r::rs) L vs H acc K=(cG L r.g).bind fun w=>
  if w then(evO call (X.get vs L) H r.o).bind (Nd call all n ps rs r.d L vs H acc K)else Ft call all n ps rs (.tup []::L) (wr vs r.d (.tup [])) H ((L,vs,H)::acc) K:=by
 obtain hw | ⟨w,hw⟩:cG L r.g=none∨∃w,cG L r.g=some w:=by cases cG L r.g<;>simp
 · simp[Ft,evR,trace,hw]
 · cases w with
   | true=>
     obtain hq | ⟨q,hq⟩:evO call (X.get vs L) H r.o=none∨∃q,evO call (X.get vs L) H r.o=some q:=by cases evO call (X.get vs L) H r.o<;>simp
     · simp[Ft,evR,trace,hw,hq]
     · simp[Ft,evR,trace,hw,hq,Nd]
   | false=>simp[Ft,evR,trace,hw]
@[go_sem] theorem aat {β : Type} (call : aT) (all : List R) (n : Nat) (ps : List (Nat × Nat)) (o : O) (d : Option Nat) (rs : List R) (L vs : List D) (H : ai) (acc : List Tr) (K : List D → List D → ai → Option β) :
 Ft call all n ps (⟨o,d,none⟩::rs) L vs H acc K=(evO call (X.get vs L) H o).bind (Nd call all n ps rs d L vs H acc K):=by
 rw[Fu];simp[cG]
@[go_sem] theorem aau {β : Type} (call : aT) (all : List R) (n : Nat) (ps : List (Nat × Nat)) (o : O) (d : Option Nat) (k : Nat) (w : Bool) (rs : List R) (L vs : List D) (H : ai) (acc : List Tr) (K : List D → List D → ai → Option β) :
 Ft call all n ps (⟨o,d,some (k,w)⟩::rs) L vs H acc K=
  gate L[k]? w ((evO call (X.get vs L) H o).bind (Nd call all n ps rs d L vs H acc K)) (Ft call all n ps rs (.tup []::L) (wr vs d (.tup [])) H ((L,vs,H)::acc) K):=by
 rw[Fu]
 simp only[cG]
 cases hL:L[k]? with
 | none=>simp[gate]
 | some c=>
   simp only[Option.bind_some]
   cases c with
   | t x=>
     cases x with
     | bool b=>cases b<;>cases w<;>simp[gate]
     | _=>simp[gate]
   | tup ds=>
     cases ds with
     | nil=>simp[gate]
     | cons=>simp[gate]
   | _=>simp[gate]
def Dq(call:aT):Option R→Option Tr→Option Tr→Option Tr→Prop
 | some r,some s,some a,some s'=>(match r.o with
   | .al _ _=>a.2.2[s.2.2.length]?=s'.2.2[s.2.2.length]?
   | .bs xs _=>cG s.1 r.g=some false∨((bA (X.get s.2.1 s.1) xs).bind r9).isSome=true
   | o=>xe o=true∧(cG s.1 r.g=some false∨EH (evO call (X.get s.2.1 s.1) a.2.2 o)=EH (evO call (X.get s.2.1 s.1) s.2.2 o)))
 | _,_,_,_=>False
@[go_sem] theorem XX (call : aT) (all : List R) (n : Nat) (acc : List Tr) : sj call all n acc [] = True := (rfl)
@[go_sem] theorem Uy (call : aT) (all : List R) (n : Nat) (acc : List Tr) (p m : Nat) (r : List (Nat × Nat)) :
 sj call all n acc ((p,m)::r)=(Dq call all[p]? acc[n-p]? acc[n-m]? acc[n-(p+1)]?∧m≤n∧sj call all n acc r):=by
 simp only[sj,Uv,Dq]
 try rfl
section
variable (call : aT) (d : Option Nat) (gd : Option (Nat × Bool)) (L vs L' vs' : List D) (H H' : ai) (s' : Tr)
@[go_sem] theorem ade (x : X) (n : Nat) (agg : Bool) : Dq call (some ⟨.ld x n agg, d, gd⟩) (some (L, vs, H)) (some (L', vs', H')) (some s') =
 (cG L gd=some false∨EH (evO call (X.get vs L) H' (.ld x n agg))=EH (evO call (X.get vs L) H (.ld x n agg))):=by simp[Dq,xe]
@[go_sem] theorem adf (x i : X) (sz : Nat) : Dq call (some ⟨.ia x i sz, d, gd⟩) (some (L, vs, H)) (some (L', vs', H')) (some s') =
 (cG L gd=some false∨EH (evO call (X.get vs L) H' (.ia x i sz))=EH (evO call (X.get vs L) H (.ia x i sz))):=by simp[Dq,xe]
@[go_sem] theorem adg (x : X) (lo hi : Option X) (sz : Nat) : Dq call (some ⟨.sc x lo hi sz, d, gd⟩) (some (L, vs, H)) (some (L', vs', H')) (some s') =
 (cG L gd=some false∨EH (evO call (X.get vs L) H' (.sc x lo hi sz))=EH (evO call (X.get vs L) H (.sc x lo hi sz))):=by simp[Dq,xe]
@[go_sem] theorem adh (z : List D) (l : List (Nat × Nat)) (L2 vs2 : List D) (H2 : ai) : Dq call (some ⟨.al z l, d, gd⟩) (some (L, vs, H)) (some (L', vs', H')) (some (L2, vs2, H2)) = (H'[H.length]? = H2[H.length]?) := (rfl)
@[go_sem] theorem Ss (L : List D) : cG L none = some true := (rfl)
def aav(w:Bool):Option D→Option Bool
 | some (.t (.bool b))=>some (b==w)
 | some (.tup [])=>some false
 | _=>none
@[go_sem] theorem XY (w b : Bool) : aav w (some (.t (.bool b))) = some (b == w) := (rfl)
@[go_sem] theorem Su (L : List D) (k : Nat) (w : Bool) : cG L (some (k, w)) = aav w L[k]? := by
 simp only[cG]
 cases L[k]? with
 | none=>rfl
 | some c=>cases c with
   | t x=>cases x<;>rfl
   | tup ds=>cases ds<;>rfl
   | _=>rfl
@[go_sem] theorem aaw (x : D) : EH (some (x, H)) = some x := (rfl)
attribute [go_sem] beq_true beq_false or_true true_or or_self
end
theorem Jm(call:aT)(rs:List R)(vs:List D)(H:ai):Nc call rs [] vs H=evR call rs [] vs H:=by
 simp[Nc,sj]
def ae4(L vs:List D)(H:ai):Option (Ex×St):=some (.normal,⟨vs,H⟩)
noncomputable def ae5(call:aT)(k:Nat)(a b:C)(L vs:List D)(H:ai):Option (Ex×St):=iN L[k]? (exS call a ⟨vs,H⟩) (exS call b ⟨vs,H⟩)
@[go_sem] theorem ae6 (L vs : List D) (H : ai) : ae4 L vs H = some (.normal, ⟨vs, H⟩) := (rfl)
@[go_sem] theorem ae7 (call : aT) (k : Nat) (a b : C) (L vs : List D) (H : ai) : ae5 call k a b L vs H = iN L[k]? (exS call a ⟨vs, H⟩) (exS call b ⟨vs, H⟩) := (rfl)
def andThen(x:Option (Ex×St))(k:St→Option (Ex×St)):Option (Ex×St):=x.bind fun p=>ij p k
@[go_sem] theorem PE (st : St) (k : St → Option (Ex × St)) : andThen (some (.normal, st)) k = k st := (rfl)
@[go_sem] theorem Uz (st : St) (k : St → Option (Ex × St)) : andThen (some (.ret, st)) k = some (.ret, st) := (rfl)
@[go_sem] theorem Sv (i : Nat) (st : St) (k : St → Option (Ex × St)) : andThen (some (.exit i, st)) k = some (.exit i, st) := (rfl)
@[go_sem] theorem andThen_ite (c : Prop) [Decidable c] (a b : Option (Ex × St)) (k : St → Option (Ex × St)) : andThen (if c then a else b) k = if c then andThen a k else andThen b k := by
 split<;>rfl
@[go_sem] theorem adi (call : aT) (st : St) : exS call .skip st = some (.normal, st) := (rfl)
@[go_sem] theorem ae8 (call : aT) (rs : List R) (vs : List D) (H : ai) : exS call (.reg rs []) ⟨vs, H⟩ = L6 call rs [] vs H ae4 := by
 simp only[exS,Jm,L6]
 cases evR call rs [] vs H<;>rfl
@[go_sem] theorem adj (call : aT) (rs : List R) (p : Nat × Nat) (ps : List (Nat × Nat)) (vs : List D) (H : ai) :
 exS call (.reg rs (p::ps)) ⟨vs,H⟩=Ft call rs rs.length (p::ps) rs [] vs H [] ae4:=by
 simp only[exS,Nc,Ft,List.append_nil]
 by_cases h:sj call rs rs.length (trace call rs [] vs H).reverse (p::ps)
 · rw[if_pos h]
   simp only[za,if_pos h]
   cases evR call rs [] vs H<;>rfl
 · rw[if_neg h]
   simp only[za,if_neg h]
   cases evR call rs [] vs H<;>rfl
@[go_sem] theorem ae9 (call : aT) (a b : C) (st : St) : exS call (.seq a b) st = andThen (exS call a st) (exS call b) := (rfl)
@[go_sem] theorem afa (call : aT) (rs : List R) (k : Nat) (a b : C) (vs : List D) (H : ai) : exS call (.ite rs [] k a b) ⟨vs, H⟩ = L6 call rs [] vs H (ae5 call k a b) := by
 simp only[exS,Jm,L6]
 cases evR call rs [] vs H<;>rfl
@[go_sem] theorem adk (call : aT) (rs : List R) (p : Nat × Nat) (ps : List (Nat × Nat)) (k : Nat) (a b : C) (vs : List D) (H : ai) :
 exS call (.ite rs (p::ps) k a b) ⟨vs,H⟩=Ft call rs rs.length (p::ps) rs [] vs H [] (ae5 call k a b):=by
 simp only[exS,Nc,Ft,List.append_nil]
 by_cases h:sj call rs rs.length (trace call rs [] vs H).reverse (p::ps)
 · rw[if_pos h]
   simp only[za,if_pos h]
   cases evR call rs [] vs H<;>rfl
 · rw[if_neg h]
   simp only[za,if_neg h]
   cases evR call rs [] vs H<;>rfl
@[go_sem] theorem afb (call : aT) (rs : List R) (ps : List (Nat × Nat)) (k : Nat) (a b c : C) (st : St) : exS call (.its rs ps k a b c) st = andThen (exS call (.ite rs ps k a b) st) (exS call c) := (rfl)
@[go_sem] theorem afc (call : aT) (rs : List R) (ps : List (Nat × Nat)) (k : Nat) (a b c : C) (st : St) : exS call (.itk rs ps k a b c) st = exS call (.ite rs ps k (.seq a c) (.seq b c)) st := (rfl)
@[go_sem] theorem afd (call : aT) (j : Nat) (a b : C) (vs : List D) (H : ai) : exS call (.itv j a b) ⟨vs, H⟩ = iN vs[j]? (exS call a ⟨vs, H⟩) (exS call b ⟨vs, H⟩) := (rfl)
@[go_sem] theorem adl (call : aT) (id : Nat) (st : St) : exS call (.exit id) st = some (.exit id, st) := (rfl)
@[go_sem] theorem afe (call : aT) (st : St) : exS call .ret st = some (.ret, st) := (rfl)
@[go_sem] theorem aff (call : aT) (v : Bool) (c : C) (st : St) : exS call (.cnd v c) st = exS call c st := (rfl)
def HJ(id:Nat)(x:Option (Ex×St)):Option (Ex×St):=x.map (leave id)
@[go_sem] theorem afg (call : aT) (id : Nat) (c : C) (st : St) : exS call (.blk id c) st = HJ id (exS call c st) := (rfl)
@[go_sem] theorem Sw (id : Nat) (st : St) : HJ id (some (.normal, st)) = some (.normal, st) := by simp [HJ, leave]
@[go_sem] theorem aax (id : Nat) (st : St) : HJ id (some (.ret, st)) = some (.ret, st) := by simp [HJ, leave]
@[go_sem] theorem XZ (id i : Nat) (st : St) : HJ id (some (.exit i, st)) = if i = id then some (.normal, st) else some (.exit i, st) := by
 simp only[HJ,leave,Option.map_some,Ex.exit.injEq]
 split<;>rfl
@[congr] theorem UA {c c' : Option D} {a b : Option (Ex × St)} (h : True → c = c') : iN c a b = iN c' a b := by rw [h trivial]
@[go_sem] theorem adm (a : Option (Ex × St)) : iN (some .ub) a a = a := by simp [iN]
@[go_sem] theorem X0 (x : Bool) (a b : Option (Ex × St)) : iN (some (.t (.bool x))) a b = if x = true then a else b := (rfl)
def fG(gc:Bool)(dead:List Nat)(k:Nat)(x:Option (Ex×St)):Option St:=x.bind fun p=>match p.1 with
 | .normal=>tidy gc dead k p.2
 | _=>none
@[go_sem] theorem Qu (gc : Bool) (dead : List Nat) (k : Nat) (st : St) : fG gc dead k (some (.normal, st)) = tidy gc dead k st := (rfl)
theorem jO{gc:Bool}{dead:List Nat}{body:St→Option (Ex×St)}{st st2:St}(h:fG gc dead st.H.length (body st)=some st2)
 {p:Ex×St} (h2:nV gc dead body st2=some p):nV gc dead body st=some p:=by
 unfold fG at h
 obtain⟨⟨e,st1⟩,hq,h⟩:=Option.bind_eq_some_iff.1 h
 cases e with
 | normal=>exact Ct hq h h2
 | ret=>cases h
 | exit=>cases h
theorem zV{gc:Bool}{dead:List Nat}{body:St→Option (Ex×St)}(s:Nat→St){p:Ex×St}(n:Nat)
 (h:∀j,j<n→fG gc dead (s j).H.length (body (s j))=some (s (j+1))) (he:nV gc dead body (s n)=some p):nV gc dead body (s 0)=some p:=by
 have:=y9 (s:=s) n 0 (fun j _ hj=>by
  have h:=h j (by omega)
  unfold fG at h
  obtain⟨⟨e,st1⟩,hq,h⟩:=Option.bind_eq_some_iff.1 h
  cases e with
  | normal=>exact⟨st1,hq,h⟩
  | ret=>cases h
  | exit=>cases h) (by simpa using he)
 exact this
def adn(res:List (Nat×Option (Nat×Bool)))(k raw:Nat)(p:Ex×St):Option (D×ai):=match p.1 with
 | .exit _=>none
 | _=>(jD p.2 res).bind (finish k raw p.2.H)
@[go_sem] theorem ado (res : List (Nat × Option (Nat × Bool))) (k raw : Nat) (vs : List D) (H : ai) : adn res k raw (.ret, ⟨vs, H⟩) = (jD ⟨vs, H⟩ res).bind (finish k raw H) := (rfl)
@[go_sem] theorem UB (res : List (Nat × Option (Nat × Bool))) (k raw : Nat) (vs : List D) (H : ai) : adn res k raw (.normal, ⟨vs, H⟩) = (jD ⟨vs, H⟩ res).bind (finish k raw H) := (rfl)
theorem UC{fs:Nat→Option Fn}{raw f:Nat}{args:List D}{H:ai}{fn:Fn}{r:D×ai}(hf:fs f=some fn)(hn:fn.nargs=args.length)
 (h:(exS (ot fs) fn.body ⟨uO args fn.vars,H⟩).bind (adn fn.res H.length raw)=some r) (h0:fn.prim=[]:=by rfl):ot fs raw f args H=some r:=by
 obtain⟨p,hp,he⟩:=Option.bind_eq_some_iff.1 h
 exact Qp hf hn (Qt _ _ _ hp) he h0
@[go_sem] theorem adp {α β : Type} (c : Prop) [Decidable c] (a b : Option α) (k : α → Option β) : (if c then a else b).bind k = if c then a.bind k else b.bind k := by
 split<;>rfl
theorem afh(a b:Int):(a==b)=decide (a=b):=by rw[Bool.eq_iff_iff];simp
theorem yn{n:Int}(h1: -9223372036854775808≤n)(h2:n≤9223372036854775807):IntKind.i64.wrap n=n:=by
 have e:IntKind.i64.wrap n=if n % 18446744073709551616≥9223372036854775808 then n % 18446744073709551616-18446744073709551616 else n % 18446744073709551616:=by
  simp[IntKind.wrap,IntKind.signed,IntKind.bits]
 rw[e];split<;>omega
section
variable {α β : Type}
@[go_sem] theorem UD (a : α) (f : α → Option β) : (some a).bind f = f a := (rfl)
@[go_sem] theorem X1 (a : α) (f : α → β) : (some a).map f = some (f a) := (rfl)
@[go_sem] theorem X2 (a : α) (l : List α) (f : α → β) : (a :: l).map f = f a :: l.map f := (rfl)
@[go_sem] theorem aay (f : α → β) : ([] : List α).map f = [] := (rfl)
@[go_sem] theorem X3 (a : α) (l : List α) : (a :: l)[0]? = some a := (rfl)
@[go_sem] theorem X4 (a : α) (l : List α) (n : Nat) : (a :: l)[n + 1]? = l[n]? := (rfl)
@[go_sem] theorem UE (a d : α) (l : List α) : (a :: l).getD 0 d = a := (rfl)
@[go_sem] theorem UF (a d : α) (l : List α) (n : Nat) : (a :: l).getD (n + 1) d = l.getD n d := (rfl)
@[go_sem] theorem X5 (d : α) (n : Nat) : ([] : List α).getD n d = d := by simp
@[go_sem] theorem X6 (a b : α) (l : List α) : (a :: l).set 0 b = b :: l := (rfl)
@[go_sem] theorem X7 (a b : α) (l : List α) (n : Nat) : (a :: l).set (n + 1) b = a :: l.set n b := (rfl)
@[go_sem] theorem Qv (a : α) (l m : List α) : (a :: l) ++ m = a :: (l ++ m) := (rfl)
@[go_sem] theorem Sx (l : List α) : [] ++ l = l := (rfl)
@[go_sem] theorem Sy (l : List α) : l ++ [] = l := by simp
@[go_sem] theorem Sz : ([] : List α).length = 0 := (rfl)
@[go_sem] theorem Qw (a : α) (l : List α) : (a :: l).length = l.length + 1 := (rfl)
@[go_sem] theorem SA (l : List α) (f : α → β) : (l.map f).length = l.length := by simp
@[go_sem] theorem Nf (l m : List α) : (l ++ m).length = l.length + m.length := by simp
@[go_sem] theorem SB (l : List α) (i : Nat) (a : α) : (l.set i a).length = l.length := by simp
@[go_sem] theorem UG (l : List α) : l.drop 0 = l := (rfl)
@[go_sem] theorem UH (a : α) (l : List α) (n : Nat) : (a :: l).drop (n + 1) = l.drop n := (rfl)
@[go_sem] theorem X8 (n : Nat) : ([] : List α).drop n = [] := by simp
@[go_sem] theorem UI (l : List α) : l.take 0 = [] := (rfl)
@[go_sem] theorem UJ (a : α) (l : List α) (n : Nat) : (a :: l).take (n + 1) = a :: l.take n := (rfl)
@[go_sem] theorem X9 (n : Nat) : ([] : List α).take n = [] := by simp
@[go_sem] theorem UK (a b : α) : (bif true then a else b) = a := (rfl)
@[go_sem] theorem SC (a b : α) : (bif false then a else b) = b := (rfl)
@[go_sem] theorem Ya (n : Nat) : n + 0 = n := (rfl)
@[go_sem] theorem Yb (n : Nat) : 0 + n = n := by simp
@[go_sem] theorem Yc (a b : α) : (some a = some b) = (a = b) := by simp
@[go_sem] theorem adq (a : α) : (some a).isSome = true := (rfl)
end
attribute [go_sem] decide_true decide_false if_true if_false Bool.false_eq_true Bool.true_eq_false decide_eq_true_eq decide_eq_false_iff_not Bool.and_eq_true Bool.or_eq_true Bool.not_eq_true' Bool.not_eq_true Bool.not_eq_false
 Bool.and_true Bool.true_and Bool.and_false Bool.false_and Bool.or_true Bool.true_or Bool.or_false Bool.false_or and_true true_and and_self not_true_eq_false not_false_eq_true beq_iff_eq bne_iff_ne ne_eq
@[go_sem] theorem Yd : (!true) = false := (rfl)
@[go_sem] theorem UL : (!false) = true := (rfl)
@[go_sem] theorem aih (vs L : List D) (j : Nat) : X.get vs L (.v j) = vs[j]? := (rfl)
@[go_sem] theorem aii (vs L : List D) (k : Nat) : X.get vs L (.l k) = L[k]? := (rfl)
@[go_sem] theorem aij (vs L : List D) (d : D) : X.get vs L (.c d) = some d := (rfl)
@[go_sem] theorem aik (vs L : List D) (n : Int) : X.get vs L (.i n) = some (I n) := (rfl)
@[go_sem] theorem ail (vs L : List D) (x : Bool) : X.get vs L (.b x) = some (B x) := (rfl)
@[go_sem] theorem afi (vs : List D) (x : D) : wr vs none x = vs := (rfl)
@[go_sem] theorem afj (vs : List D) (s : Nat) (x : D) : wr vs (some s) x = vs.set s x := (rfl)
@[go_sem] theorem Ye (args : List D) : uO args [] = [] := (rfl)
@[go_sem] theorem UM (args : List D) (s : Nat) (r : List Nat) : uO args (s :: r) = args.getD s .und :: uO args r := (rfl)
def afk(H:ai)(d:D):Option (D×ai):=some (d,H)
@[go_sem] theorem afl (H : ai) (d : D) : afk H d = some (d, H) := (rfl)
def mZ{α:Type}(a:α)(l:Option (List α)):Option (List α):=l.map (a:: ·)
@[go_sem] theorem Yf {α : Type} (a : α) (l : List α) : mZ a (some l) = some (a :: l) := (rfl)
@[go_sem] theorem Yg {α : Type} (a : α) : mZ a none = none := (rfl)
@[go_sem] theorem adr {α β : Type} (f : α → Option β) : bA f [] = some [] := (rfl)
def aht{α β:Type}(f:α→Option β)(r:List α)(y:β):Option (List β):=mZ y (bA f r)
@[go_sem] theorem UN {α β : Type} (f : α → Option β) (r : List α) (y : β) : aht f r y = mZ y (bA f r) := (rfl)
@[go_sem] theorem Fv {α β : Type} (f : α → Option β) (x : α) (r : List α) : bA f (x :: r) = (f x).bind (aht f r) := (rfl)
section
variable (call : aT) (get : X → Option D) (H : ai)
@[go_sem] theorem aim (x : X) : evO call get H (.mv x) = (get x).bind (afk H) := by simp only [evO]; cases get x <;> rfl
def ads(c a b:Option D):Option (D×ai):=c.bind fun c=>a.bind fun a=>b.bind fun b=>(P9 c a b).map fun d=>(d,H)
@[go_sem] theorem ain (c a b : X) : evO call get H (.pk c a b) = ads H (get c) (get a) (get b) := (rfl)
@[go_sem] theorem aaz (x p q : Bool) : ads H (some (.t (.bool x))) (some (.t (.bool p))) (some (.t (.bool q))) = some (.t (.bool (bif x then p else q)), H) := by cases x <;> rfl
@[go_sem] theorem aaA (a b : D) : ads H (some (.t (.bool true))) (some a) (some b) = some (a, H) := (rfl)
@[go_sem] theorem Yh (a b : D) : ads H (some (.t (.bool false))) (some a) (some b) = some (b, H) := (rfl)
def mB(f:BinOp)(x y:Option D):Option (D×ai):=x.bind fun a=>y.bind fun b=>(EL f a b).map fun d=>(d,H)
@[go_sem] theorem ahu (f : BinOp) (x y : X) : evO call get H (.bin f x y) = mB H f (get x) (get y) := (rfl)
section
variable (k j : IntKind) (a b : Int)
@[go_sem] theorem aaB : mB H .add (some (.t (.int k a))) (some (.t (.int k b))) = some (.t (.int k (k.wrap (a + b))), H) := by simp [mB, EL, IZ]
@[go_sem] theorem aaC : mB H .sub (some (.t (.int k a))) (some (.t (.int k b))) = some (.t (.int k (k.wrap (a - b))), H) := by simp [mB, EL, IZ]
@[go_sem] theorem aaD : mB H .mul (some (.t (.int k a))) (some (.t (.int k b))) = some (.t (.int k (k.wrap (a * b))), H) := by simp [mB, EL, IZ]
@[go_sem] theorem aaE : mB H .quo (some (.t (.int k a))) (some (.t (.int k b))) = if b = 0 then none else some (.t (.int k (k.wrap (a.tdiv b))), H) := by simp only [mB, EL, IZ]; by_cases h : b = 0 <;> simp [h]
@[go_sem] theorem aaF : mB H .rem (some (.t (.int k a))) (some (.t (.int k b))) = if b = 0 then none else some (.t (.int k (a.tmod b)), H) := by simp only [mB, EL, IZ]; by_cases h : b = 0 <;> simp [h]
@[go_sem] theorem aaG : mB H .eql (some (.t (.int k a))) (some (.t (.int k b))) = some (.t (.bool (decide (a = b))), H) := by simp [mB, EL, IZ, afh]
@[go_sem] theorem aaH : mB H .neq (some (.t (.int k a))) (some (.t (.int k b))) = some (.t (.bool (decide (¬ a = b))), H) := by simp [mB, EL, IZ, bne, afh]
@[go_sem] theorem aaI : mB H .lss (some (.t (.int k a))) (some (.t (.int k b))) = some (.t (.bool (decide (a < b))), H) := by simp [mB, EL, IZ]
@[go_sem] theorem aaJ : mB H .leq (some (.t (.int k a))) (some (.t (.int k b))) = some (.t (.bool (decide (a ≤ b))), H) := by simp [mB, EL, IZ]
@[go_sem] theorem aaK : mB H .gtr (some (.t (.int k a))) (some (.t (.int k b))) = some (.t (.bool (decide (b < a))), H) := by simp [mB, EL, IZ]
@[go_sem] theorem aaL : mB H .geq (some (.t (.int k a))) (some (.t (.int k b))) = some (.t (.bool (decide (b ≤ a))), H) := by simp [mB, EL, IZ]
@[go_sem] theorem aaM (h : 0 ≤ b) : mB H .shr (some (.t (.int k a))) (some (.t (.int j b))) = some (.t (.int k (a.fdiv (2 ^ min b.toNat k.bits))), H) := by simp [mB, EL, EK, Int.not_lt.2 h]
@[go_sem] theorem aaN : mB H .and (some (.t (.int k a))) (some (.t (.int k b))) = some (.t (.int k (k.wrap (BitVec.ofInt k.bits a &&& BitVec.ofInt k.bits b).toNat)), H) := by simp [mB, EL, IZ]
def afm(f:UnOp)(a:D):Option (D×ai):=(unD f a).map fun d=>(d,H)
@[go_sem] theorem aio (f : UnOp) (x : X) : evO call get H (.un f x) = (get x).bind (afm H f) := (rfl)
@[go_sem] theorem adt (x : Bool) : afm H .not (.t (.bool x)) = some (.t (.bool (!x)), H) := (rfl)
@[go_sem] theorem adu : afm H .neg (.t (.int k a)) = some (.t (.int k (k.wrap (0 - a))), H) := (rfl)
def ahv(k:IntKind)(a:D):Option (D×ai):=(TW k a).map fun d=>(d,H)
@[go_sem] theorem aip (x : X) : evO call get H (.cv k x) = (get x).bind (ahv H k) := (rfl)
@[go_sem] theorem adv : ahv H k (.t (.int j a)) = some (.t (.int k (k.wrap a)), H) := (rfl)
end
def Fw(q:EqK)(neg:Bool)(x y:Option D):Option (D×ai):=x.bind fun a=>y.bind fun b=>(ZX q neg a b).map fun d=>(d,H)
@[go_sem] theorem ahw (q : EqK) (neg : Bool) (x y : X) : evO call get H (.eqk q neg x y) = Fw H q neg (get x) (get y) := (rfl)
@[go_sem] theorem Yi (x y : Bool) : Fw H .bool false (some (.t (.bool x))) (some (.t (.bool y))) = some (.t (.bool (x == y)), H) := (rfl)
@[go_sem] theorem UO (x y : Bool) : Fw H .bool true (some (.t (.bool x))) (some (.t (.bool y))) = some (.t (.bool (!(x == y))), H) := (rfl)
@[go_sem] theorem aaO : Fw H .sl false (some (.t (.sl []))) (some .nil) = some (.ub, H) := (rfl)
theorem zW(es:List T)(h:es≠[]):Fw H .sl false (some (.t (.sl es))) (some .nil)=some (.t (.bool false),H):=by cases es<;>first | exact(h rfl).elim | rfl
def ahx(a:D):Option (D×ai):=(ac3 a).map fun d=>(d,H)
@[go_sem] theorem aiq (x : X) : evO call get H (.nc x) = (get x).bind (ahx H) := (rfl)
@[go_sem] theorem afn (id off : Nat) : ahx H (.bp id off) = some (.bp id off, H) := (rfl)
def Yj(off:Nat)(a:D):Option (D×ai):=(Kn a off).map fun d=>(d,H)
@[go_sem] theorem air (x : X) (off : Nat) : evO call get H (.fa x off) = (get x).bind (Yj H off) := (rfl)
@[go_sem] theorem afo (id o off : Nat) : Yj H off (.bp id o) = some (.bp id (o + off), H) := (rfl)
@[go_sem] theorem afp (id ep n i o off : Nat) : Yj H off (.ap id ep n i o) = some (.ap id ep n i (o + off), H) := (rfl)
@[go_sem] theorem afq (cs : List T) (off : Nat) : Yj H off (.ep cs) = some (.ep (cs.drop off), H) := (rfl)
@[go_sem] theorem ais (cs : List D) : cut cs 0 0 = some [] := by simp [cut]
@[go_sem] theorem ait (c : D) (cs : List D) (n : Nat) : cut (c :: cs) 0 (n + 1) = mZ c (cut cs 0 n) := by
 simp only[cut,mZ];by_cases h:n≤cs.length<;>simp[h]
@[go_sem] theorem aiu (c : D) (cs : List D) (off n : Nat) : cut (c :: cs) (off + 1) n = cut cs off n := by
 simp only[cut,List.length_cons,List.drop_succ_cons]
 by_cases h:off+n≤cs.length
 · rw[if_pos h,if_pos (by omega)]
 · rw[if_neg h,if_neg (by omega)]
def mkA(cs:List D):Option (List T)→D
 | some ts=> .t (.agg ts)
 | none=> .agg cs
@[go_sem] theorem adw (cs : List D) (ts : List T) : mkA cs (some ts) = .t (.agg ts) := (rfl)
@[go_sem] theorem adx (cs : List D) : mkA cs none = .agg cs := (rfl)
@[go_sem] theorem ady (cs : List D) : vt cs = mkA cs (r9 cs) := by unfold vt; cases r9 cs <;> rfl
@[go_sem] theorem adz : r9 [] = some [] := (rfl)
@[go_sem] theorem ahy (x : T) (r : List D) : r9 (.t x :: r) = mZ x (r9 r) := (rfl)
@[go_sem] theorem ahz (r : List D) : r9 (.nil :: r) = none := (rfl)
@[go_sem] theorem adA (a b c : Nat) (r : List D) : r9 (.ref a b c :: r) = none := (rfl)
@[go_sem] theorem Qx (l : List T) : r9 (l.map .t) = some l := by induction l with | nil => rfl | cons a l ih => simp [r9, ih]
def afr(off n:Nat)(agg:Bool)(a:D):Option (D×ai):=(Ai a off n agg).map fun d=>(d,H)
@[go_sem] theorem aiv (x : X) (off n : Nat) (agg : Bool) : evO call get H (.fl x off n agg) = (get x).bind (afr H off n agg) := (rfl)
def ofC(agg:Bool)(cs:Option (List D)):Option (D×ai):=(cs.bind (gJ agg)).bind (afk H)
@[go_sem] theorem aiw (c : D) : ofC H false (some [c]) = some (c, H) := (rfl)
@[go_sem] theorem aix (cs : List D) : ofC H true (some cs) = some (vt cs, H) := (rfl)
@[go_sem] theorem adB (cs : List D) (off n : Nat) (agg : Bool) : afr H off n agg (.agg cs) = ofC H agg (cut cs off n) := by
 simp only[afr,Ai,D.isAgg,if_true,D.cells,ofC];cases (cut cs off n).bind (gJ agg)<;>rfl
theorem UP{i:Int}(h:0≤i):idx i=some i.toNat:=by simp[idx,h]
def aaP(sz:Nat)(x i:Option D):Option (D×ai):=x.bind fun a=>(i.bind intOf).bind fun n=>(EM H a n sz).map fun d=>(d,H)
@[go_sem] theorem aiy (x i : X) (sz : Nat) : evO call get H (.ia x i sz) = aaP H sz (get x) (get i) := (rfl)
def UQ(sz:Nat)(e:T):Option (D×ai):=if e.cells.length=sz then some (.ep e.cells,H)else none
def afs(sz:Nat)(es:List T)(j:Nat):Option (D×ai):=es[j]?.bind (UQ H sz)
@[go_sem] theorem afu (sz : Nat) (es : List T) (j : Nat) : afs H sz es j = es[j]?.bind (UQ H sz) := (rfl)
@[go_sem] theorem afv (k : IntKind) (es : List T) (n : Int) (sz : Nat) : aaP H sz (some (.t (.sl es))) (some (.t (.int k n))) = (idx n).bind (afs H sz es) := by
 simp only[aaP,Option.bind_some,intOf,EM]
 cases idx n with
 | none=>rfl
 | some j=>
   simp only[Option.bind_some,afs]
   cases es[j]? with
   | none=>rfl
   | some e=>simp only[Option.bind_some,UQ];split<;>rfl
@[go_sem] theorem adC (k : IntKind) (n : Int) : UQ H 1 (.int k n) = some (.ep [.int k n], H) := (rfl)
def pE{α:Type}:Nat→List α→Bool
 | 0,[]=>true
 | n+1,_::r=>pE n r
 | _,_=>false
@[go_sem] theorem afw {α : Type} : pE 0 ([] : List α) = true := (rfl)
@[go_sem] theorem afx {α : Type} (n : Nat) (a : α) (l : List α) : pE (n + 1) (a :: l) = pE n l := (rfl)
theorem gk{α:Type}:∀ {n:Nat} {l:List α},pE n l=true↔l.length=n
 | 0,[]=>by simp[pE]
 | 0,_::_=>by simp[pE]
 | n+1,[]=>by simp[pE]
 | n+1,_::r=>by simp only[pE,List.length_cons,Nat.add_right_cancel_iff];exact gk
@[go_sem] theorem adD (cs : List T) (sz : Nat) : UQ H sz (.agg cs) = if pE sz cs = true then some (.ep cs, H) else none := by
 by_cases h:cs.length=sz
 · rw[UQ,if_pos (show(T.agg cs).cells.length=sz from h),if_pos (gk.2 h)];rfl
 · rw[UQ,if_neg (show ¬(T.agg cs).cells.length=sz from h),if_neg fun e=>h (gk.1 e)]
def UR(sz id ep n j:Nat):Option Obj→Option (D×ai)
 | some (.arr sz' _ ep' es)=>if ep=ep'∧n=es.length then(if j<n∧sz'=sz then some (.ap id ep n j 0,H)else none)else none
 | _=>none
@[go_sem] theorem adE (k : IntKind) (id ep n : Nat) (i : Int) (sz : Nat) : aaP H sz (some (.ref id ep n)) (some (.t (.int k i))) = (idx i).bind fun j => UR H sz id ep n j H[id]? := by
 simp only[aaP,Option.bind_some,intOf,EM]
 cases idx i with
 | none=>rfl
 | some j=>
   simp only[Option.bind_some,fV]
   generalize H[id]?=o
   rcases o with _ | (_ | ⟨sz',pin,ep',es⟩)
   · rfl
   · rfl
   · simp only[UR]
     by_cases h:ep=ep'∧n=es.length
     · rw[if_pos h,if_pos h,Option.bind_some];split<;>rfl
     · rw[if_neg h,if_neg h];rfl
@[go_sem] theorem aaQ (sz id ep n j sz' : Nat) (pin : Bool) (ep' : Nat) (es : List D) : UR H sz id ep n j (some (.arr sz' pin ep' es)) =
 if ep=ep'∧n=es.length then(if j<n∧sz'=sz then some (.ap id ep n j 0,H)else none)else none:=(rfl)
def afy(len sz:Nat)(agg:Bool)(x i:Option D):Option (D×ai):=x.bind fun a=>(i.bind intOf).bind fun n=>(idx n).bind fun j=>(EO a j len sz agg).map fun d=>(d,H)
def afz(len sz:Nat)(agg:Bool)(a:D)(j:Nat):Option (D×ai):=(EO a j len sz agg).map fun d=>(d,H)
@[go_sem] theorem aiz (x i : X) (len sz : Nat) (agg : Bool) : evO call get H (.ix x i len sz agg) = afy H len sz agg (get x) (get i) := (rfl)
@[go_sem] theorem afA (len sz : Nat) (agg : Bool) (a : D) (k : IntKind) (n : Int) : afy H len sz agg (some a) (some (.t (.int k n))) = (idx n).bind (afz H len sz agg a) := by
 simp only[afy,Option.bind_some,intOf];cases idx n<;>rfl
def US(len sz:Nat)(x i:Option D):Option (D×ai):=x.bind fun a=>(i.bind intOf).bind fun n=>(idx n).bind fun j=>if j<len then(Kn a (j*sz)).map fun d=>(d,H)else none
@[go_sem] theorem ahA (x i : X) (len sz : Nat) : evO call get H (.iaa x i len sz) = US H len sz (get x) (get i) := (rfl)
def ahB(len sz:Nat)(a:D)(j:Nat):Option (D×ai):=if j<len then Yj H (j*sz) a else none
@[go_sem] theorem afB (len sz : Nat) (a : D) (j : Nat) : ahB H len sz a j = if j < len then Yj H (j * sz) a else none := (rfl)
@[go_sem] theorem adF (len sz : Nat) (a : D) (k : IntKind) (n : Int) : US H len sz (some a) (some (.t (.int k n))) = (idx n).bind (ahB H len sz a) := by
 simp only[US,Option.bind_some,intOf];cases idx n<;>rfl
def PF(n:Nat)(agg:Bool)(a:D):Option (D×ai):=(x8 H a n agg).map fun d=>(d,H)
@[go_sem] theorem aiA (x : X) (n : Nat) (agg : Bool) : evO call get H (.ld x n agg) = (get x).bind (PF H n agg) := (rfl)
def Qy(off n:Nat)(agg:Bool):Option Obj→Option (D×ai)
 | some (.box cs)=>ofC H agg (cut cs off n)
 | _=>none
@[go_sem] theorem adG (off n : Nat) (agg : Bool) (cs : List D) : Qy H off n agg (some (.box cs)) = ofC H agg (cut cs off n) := (rfl)
@[go_sem] theorem afC (id off n : Nat) (agg : Bool) : PF H n agg (.bp id off) = Qy H off n agg H[id]? := by
 simp only[PF,x8]
 generalize H[id]?=o
 rcases o with _ | (cs | _)
 · rfl
 · simp only[Qy,ofC];cases (cut cs off n).bind (gJ agg)<;>rfl
 · rfl
@[go_sem] theorem afD (cs : List T) (n : Nat) (agg : Bool) : PF H n agg (.ep cs) = ofC H agg (cut (cs.map .t) 0 n) := by
 simp only[PF,x8,ofC];cases (cut _ 0 n).bind (gJ agg)<;>rfl
def adH(off n:Nat)(agg:Bool)(e:D):Option (D×ai):=ofC H agg (cut e.cells off n)
@[go_sem] theorem afE (off n : Nat) (agg : Bool) (e : D) : adH H off n agg e = ofC H agg (cut e.cells off n) := (rfl)
def UT(ep m i off n:Nat)(agg:Bool):Option Obj→Option (D×ai)
 | some (.arr _ _ ep' es)=>if ep=ep'∧m=es.length then es[i]?.bind (adH H off n agg)else none
 | _=>none
@[go_sem] theorem adI (ep m i off n : Nat) (agg : Bool) (sz : Nat) (pin : Bool) (ep' : Nat) (es : List D) :
 UT H ep m i off n agg (some (.arr sz pin ep' es))=if ep=ep'∧m=es.length then es[i]?.bind (adH H off n agg)else none:=(rfl)
@[go_sem] theorem afF (id ep m i off n : Nat) (agg : Bool) : PF H n agg (.ap id ep m i off) = UT H ep m i off n agg H[id]? := by
 simp only[PF,x8,fV]
 generalize H[id]?=o
 rcases o with _ | (_ | ⟨sz',pin,ep',es⟩)
 · rfl
 · rfl
 · simp only[UT]
   by_cases h:ep=ep'∧m=es.length
   · rw[if_pos h,if_pos h,Option.bind_some]
     cases es[i]? with
     | none=>rfl
     | some e=>simp only[Option.bind_some,adH,ofC];cases (cut e.cells off n).bind (gJ agg)<;>rfl
   · rw[if_neg h,if_neg h];rfl
@[go_sem] theorem Yk (cs : List D) : (D.agg cs).cells = cs := (rfl)
@[go_sem] theorem adJ (x : T) : (D.t x).cells = x.cells.map .t := (rfl)
@[go_sem] theorem Yl : D.nil.cells = [.nil] := (rfl)
@[go_sem] theorem Ym (a b c : Nat) : (D.ref a b c).cells = [.ref a b c] := (rfl)
@[go_sem] theorem aaR (f : Nat) (cs : List D) : (D.fn f cs).cells = [.fn f cs] := (rfl)
@[go_sem] theorem Yn (cs : List T) : (T.agg cs).cells = cs := (rfl)
@[go_sem] theorem Yo (k : IntKind) (n : Int) : (T.int k n).cells = [.int k n] := (rfl)
@[go_sem] theorem UU (b : Bool) : (T.bool b).cells = [.bool b] := (rfl)
@[go_sem] theorem aaS (es : List T) : (T.sl es).cells = [.sl es] := (rfl)
def fits(n:Nat)(v:D):Bool:=decide (v.cells.length=n)&&v.jC
section
variable (n : Nat)
@[go_sem] theorem fits_int (k : IntKind) (a : Int) : fits 1 (.t (.int k a)) = true := (rfl)
@[go_sem] theorem fits_bool (b : Bool) : fits 1 (.t (.bool b)) = true := (rfl)
@[go_sem] theorem afG (es : List T) : fits 1 (.t (.sl es)) = true := (rfl)
@[go_sem] theorem adK : fits 1 .nil = true := (rfl)
@[go_sem] theorem adL (a b c : Nat) : fits 1 (.ref a b c) = true := (rfl)
@[go_sem] theorem afH (f : Nat) (cs : List D) : fits 1 (.fn f cs) = true := (rfl)
@[go_sem] theorem adM (cs : List D) : fits n (.agg cs) = pE n cs := by rw [Bool.eq_iff_iff, gk]; show (decide (cs.length = n) && true) = true ↔ _; simp
@[go_sem] theorem aaT (cs : List T) : fits n (.t (.agg cs)) = pE n cs := by rw [Bool.eq_iff_iff, gk]; simp [fits, D.cells, T.cells, D.jC]
end
@[go_sem] theorem UW {α : Type} (cs : List α) : bq cs 0 [] = some cs := by simp [bq]
@[go_sem] theorem UX {α : Type} (c x : α) (cs xs : List α) : bq (c :: cs) 0 (x :: xs) = mZ x (bq cs 0 xs) := by
 simp only[bq,mZ];by_cases h:xs.length≤cs.length<;>simp[h]
@[go_sem] theorem UY {α : Type} (c : α) (cs : List α) (off : Nat) (xs : List α) : bq (c :: cs) (off + 1) xs = mZ c (bq cs off xs) := by
 simp only[bq,mZ,List.length_cons]
 by_cases h:off+xs.length≤cs.length
 · rw[if_pos h,if_pos (by omega)];simp[show off+1+xs.length=(off+xs.length)+1 by omega]
 · rw[if_neg h,if_neg (by omega)];rfl
def UZ(n:Nat)(live:List (Nat×Nat))(a x:Option D):Option (D×ai):=a.bind fun p=>x.bind fun d=>(yT H p d n).bind fun H'=>(qF H' p live).map fun H''=>(.tup [],H'')
@[go_sem] theorem aiB (a x : X) (n : Nat) (live : List (Nat × Nat)) : evO call get H (.st a x n live) = UZ H n live (get a) (get x) := (rfl)
def Cv(H:ai)(id:Nat)(live:List (Nat×Nat)):Option (D×ai):=(qF H (.bp id 0) live).map fun H'=>(.tup [],H')
def Fx(id:Nat)(live:List (Nat×Nat))(cs:List D):Option (D×ai):=Cv (H.set id (.box cs)) id live
@[go_sem] theorem aaU (id : Nat) (live : List (Nat × Nat)) (cs : List D) : Fx H id live cs = Cv (H.set id (.box cs)) id live := (rfl)
@[go_sem] theorem Yp (H : ai) (id : Nat) : Cv H id [] = some (.tup [], H) := (rfl)
def U0(id off:Nat)(live:List (Nat×Nat))(xs:List D):Option Obj→Option (D×ai)
 | some (.box cs)=>(bq cs off xs).bind (Fx H id live)
 | _=>none
@[go_sem] theorem adN (id off : Nat) (live : List (Nat × Nat)) (xs cs : List D) : U0 H id off live xs (some (.box cs)) = (bq cs off xs).bind (Fx H id live) := (rfl)
@[go_sem] theorem afI (n id off : Nat) (live : List (Nat × Nat)) (v : D) : UZ H n live (some (.bp id off)) (some v) = if fits n v = true then U0 H id off live v.cells H[id]? else none := by
 by_cases h:fits n v=true
 case neg=>
  rw[if_neg h]
  simp only[fits,Bool.and_eq_true,decide_eq_true_eq]at h
  simp only[UZ,Option.bind_some,yT,if_neg h];rfl
 rw[if_pos h]
 simp only[fits,Bool.and_eq_true,decide_eq_true_eq]at h
 simp only[UZ,Option.bind_some,yT,h.1,h.2,and_self,if_true]
 generalize H[id]?=o
 rcases o with _ | (cs | _)
 · rfl
 · simp only[U0]
   cases bq cs off v.cells with
   | none=>rfl
   | some cs'=>simp only[Option.map_some,Option.bind_some,Fx,Cv,qF]
 · rfl
def KF(id sz ep i:Nat)(es:List D)(agg:Bool)(cs:List D):Option (D×ai):=(gJ agg cs).bind fun e=>if e.jC then some (.tup [],H.set id (.arr sz false ep (es.set i e)))else none
def adO(id sz ep i off:Nat)(es xs:List D)(e:D):Option (D×ai):=(bq e.cells off xs).bind (KF H id sz ep i es e.isAgg)
@[go_sem] theorem afJ (id sz ep i off : Nat) (es xs : List D) (e : D) : adO H id sz ep i off es xs e = (bq e.cells off xs).bind (KF H id sz ep i es e.isAgg) := (rfl)
@[go_sem] theorem Yq (cs : List T) : (D.t (.agg cs)).isAgg = true := (rfl)
@[go_sem] theorem aaV (k : IntKind) (n : Int) : (D.t (.int k n)).isAgg = false := (rfl)
@[go_sem] theorem afK (id sz ep i : Nat) (es : List D) (x : T) : KF H id sz ep i es false [.t x] = some (.tup [], H.set id (.arr sz false ep (es.set i (.t x)))) := (rfl)
theorem HK(cs:List D):(vt cs).jC=true:=by unfold vt;cases r9 cs<;>rfl
@[go_sem] theorem afL (id sz ep i : Nat) (es cs : List D) : KF H id sz ep i es true cs = some (.tup [], H.set id (.arr sz false ep (es.set i (vt cs)))) := by
 simp[KF,gJ,HK]
def U1(id ep m i off:Nat)(xs:List D):Option Obj→Option (D×ai)
 | some (.arr sz pin ep' es)=>if ep=ep'∧m=es.length then(if pin then none else es[i]?.bind (adO H id sz ep i off es xs))else none
 | _=>none
@[go_sem] theorem adP (id ep m i off : Nat) (xs : List D) (sz : Nat) (pin : Bool) (ep' : Nat) (es : List D) :
 U1 H id ep m i off xs (some (.arr sz pin ep' es))=if ep=ep'∧m=es.length then(if pin=true then none else es[i]?.bind (adO H id sz ep i off es xs))else none:=(rfl)
@[go_sem] theorem afM (n id ep m i off : Nat) (v : D) : UZ H n [] (some (.ap id ep m i off)) (some v) = if fits n v = true then U1 H id ep m i off v.cells H[id]? else none := by
 by_cases h:fits n v=true
 case neg=>
  rw[if_neg h]
  simp only[fits,Bool.and_eq_true,decide_eq_true_eq]at h
  simp only[UZ,Option.bind_some,yT,if_neg h];rfl
 rw[if_pos h]
 simp only[fits,Bool.and_eq_true,decide_eq_true_eq]at h
 simp only[UZ,Option.bind_some,yT,h.1,h.2,and_self,if_true,fV]
 generalize H[id]?=o
 rcases o with _ | (_ | ⟨sz',pin,ep',es⟩)
 · rfl
 · rfl
 · simp only[U1]
   by_cases h:ep=ep'∧m=es.length
   · rw[if_pos h,if_pos h,Option.bind_some]
     cases pin with
     | true=>rfl
     | false=>
       simp only[Bool.false_eq_true,if_false]
       cases es[i]? with
       | none=>rfl
       | some e=>
         simp only[Option.bind_some,adO]
         cases bq e.cells off v.cells with
         | none=>rfl
         | some cs'=>
           simp only[Option.bind_some,KF]
           cases gJ e.isAgg cs' with
           | none=>rfl
           | some e'=>
             simp only[Option.bind_some]
             by_cases h3:e'.jC=true
             · rw[if_pos h3,if_pos h3,h.1];rfl
             · rw[if_neg h3,if_neg h3];rfl
   · rw[if_neg h,if_neg h];rfl
def U2(zero:List D)(ps:List (Nat×Nat×D)):Option (D×ai):=(wK zero ps).map fun cs=>(vt cs,H)
@[go_sem] theorem aiC (zero : List D) (parts : List (Nat × Nat × X)) : evO call get H (.bd zero parts) = (nS get parts).bind (U2 H zero) := (rfl)
@[go_sem] theorem SD : nS get [] = some [] := (rfl)
def aaW(off n:Nat)(r:List (Nat×Nat×X))(d:D):Option (List (Nat×Nat×D)):=mZ (off,n,d) (nS get r)
@[go_sem] theorem adQ (off n : Nat) (r : List (Nat × Nat × X)) (d : D) : aaW get off n r d = mZ (off, n, d) (nS get r) := (rfl)
@[go_sem] theorem Qz (off n : Nat) (x : X) (r : List (Nat × Nat × X)) : nS get ((off, n, x) :: r) = (get x).bind (aaW get off n r) := (rfl)
@[go_sem] theorem adR (zero : List D) : U2 H zero [] = some (vt zero, H) := (rfl)
def bdC(r:List (Nat×Nat×D))(z:List D):Option (D×ai):=U2 H z r
@[go_sem] theorem ahC (r : List (Nat × Nat × D)) (z : List D) : bdC H r z = U2 H z r := (rfl)
@[go_sem] theorem aaX (zero : List D) (off n : Nat) (x : D) (r : List (Nat × Nat × D)) : U2 H zero ((off, n, x) :: r) = if fits n x = true then (bq zero off x.cells).bind (bdC H r) else none := by
 by_cases h:fits n x=true
 case neg=>
  rw[if_neg h]
  have h2:(x.jC&&x.cells.length==n)=false:=by rw[← Bool.not_eq_true,Bool.and_comm];simpa [fits]using h
  simp only[U2,wK,h2];rfl
 rw[if_pos h]
 simp only[fits,Bool.and_eq_true,decide_eq_true_eq]at h
 simp only[U2,wK,h.1,h.2,beq_self_eq_true,Bool.and_self,if_true]
 cases bq zero off x.cells<;>rfl
def fP(n:Nat):List T→Bool
 | []=>true
 | x::r=>pE n x.cells&&fP n r
@[go_sem] theorem SE (n : Nat) : fP n [] = true := (rfl)
@[go_sem] theorem xf (n : Nat) (x : T) (r : List T) : fP n (x :: r) = (pE n x.cells && fP n r) := (rfl)
def Ng(sz:Nat)(ds:List D):Option (D×ai):=if ds.all (fun d=>d.cells.length==sz)then(bA (frz H depth) ds).map fun ts=>(.t (.sl ts),pins H (ds.flatMap (fF H depth)))else none
@[go_sem] theorem aiD (xs : List X) (sz : Nat) : evO call get H (.bs xs sz) = (bA get xs).bind (Ng H sz) := (rfl)
theorem aaY(sz:Nat)(ds:List D)(ts:List T)(h:r9 ds=some ts)(hc:fP sz ts=true):Ng H sz ds=some (.t (.sl ts),H):=by
 have key:∀(ds:List D) (ts:List T),r9 ds=some ts→fP sz ts=true→ds.all (fun d=>d.cells.length==sz)=true∧bA (frz H depth) ds=some ts∧ds.flatMap (fF H depth)=[]:=by
  intro ds
  induction ds with
  | nil=>intro ts h hc;simp[r9]at h;subst h;simp[bA]
  | cons d ds ih=>
    intro ts h hc
    cases d with
    | t x=>
      simp only[r9,Option.map_eq_some_iff]at h
      obtain⟨r,hr,rfl⟩:=h
      simp only[fP,Bool.and_eq_true,gk]at hc
      obtain⟨h1,h2,h3⟩:=ih r hr hc.2
      refine⟨by rw[List.all_cons,h1,Bool.and_true];simp[D.cells,hc.1],by simp[bA,frz,h2],by rw[List.flatMap_cons,h3];simp[fF]⟩
    | _=>simp[r9]at h
 obtain⟨h1,h2,h3⟩:=key ds ts h hc
 simp[Ng,h1,h2,h3,pins]
theorem Dr(sz:Nat)(ts:List T):Ng H sz (ts.map D.t)=if fP sz ts=true then some (.t (.sl ts),H)else none:=by
 by_cases h:fP sz ts=true
 · rw[if_pos h];exact aaY H sz _ ts (Qx ts) h
 · rw[if_neg h]
   have:(ts.map D.t).all (fun d=>d.cells.length==sz)=false:=by
    rw[← Bool.not_eq_true];intro ha;apply h
    clear h
    induction ts with
    | nil=>rfl
    | cons a r ih=>
      simp only[List.map_cons,List.all_cons,Bool.and_eq_true,beq_iff_eq]at ha
      simp only[fP,Bool.and_eq_true,gk]
      exact⟨by simpa [D.cells]using ha.1,ih ha.2⟩
   simp only[Ng,this];rfl
@[go_sem] theorem ahD (sz : Nat) (a : T) : Ng H sz [.t a] = if fP sz [a] = true then some (.t (.sl [a]), H) else none := Dr H sz [a]
@[go_sem] theorem ahE (sz : Nat) (a b : T) : Ng H sz [.t a, .t b] = if fP sz [a, b] = true then some (.t (.sl [a, b]), H) else none := Dr H sz [a, b]
@[go_sem] theorem ahF (sz : Nat) (a b c : T) : Ng H sz [.t a, .t b, .t c] = if fP sz [a, b, c] = true then some (.t (.sl [a, b, c]), H) else none := Dr H sz [a, b, c]
@[go_sem] theorem ahG (sz : Nat) (a b c d : T) : Ng H sz [.t a, .t b, .t c, .t d] = if fP sz [a, b, c, d] = true then some (.t (.sl [a, b, c, d]), H) else none := Dr H sz [a, b, c, d]
def adS(a:D):Option (D×ai):=(ac0 a).map fun(n:Nat)=>(D.t (.int .i64 (n:Int)),H)
@[go_sem] theorem aiE (x : X) : evO call get H (.ln x) = (get x).bind (adS H) := (rfl)
@[go_sem] theorem afN (es : List T) : adS H (.t (.sl es)) = some (I es.length, H) := (rfl)
@[go_sem] theorem adT : adS H .nil = some (I 0, H) := (rfl)
@[go_sem] theorem adU (id ep n : Nat) : adS H (.ref id ep n) = some (I n, H) := (rfl)
def afO(ds:List D):Option (D×ai):=(ac1 ds).map fun d=>(d,H)
def afP(ds:List D):Option (D×ai):=(ac2 ds).map fun d=>(d,H)
@[go_sem] theorem aiF (xs : List X) : evO call get H (.mn xs) = (bA get xs).bind (afO H) := (rfl)
@[go_sem] theorem aiG (xs : List X) : evO call get H (.mx xs) = (bA get xs).bind (afP H) := (rfl)
@[go_sem] theorem ahH (k : IntKind) (a b : Int) : afO H [.t (.int k a), .t (.int k b)] = some (.t (.int k (min a b)), H) := by
 simp only[afO,ac1,EN,if_true,Option.map_some];congr 4;omega
@[go_sem] theorem ahI (k : IntKind) (a b : Int) : afP H [.t (.int k a), .t (.int k b)] = some (.t (.int k (max a b)), H) := by
 simp only[afP,ac2,EN,if_true,Option.map_some];congr 4;omega
def Nh(sz:Nat)(x:Option D)(lo hi:Option (Option Int)):Option (D×ai):=x.bind fun a=>lo.bind fun l=>hi.bind fun h=>(sJ H a l h sz).map fun d=>(d,H)
@[go_sem] theorem aiH (x : X) (lo hi : Option X) (sz : Nat) : evO call get H (.sc x lo hi sz) = Nh H sz (get x) (Ko get lo) (Ko get hi) := (rfl)
def aaZ:D→Option (Option Int)
 | .t (.int _ n)=>some (some n)
 | _=>none
@[go_sem] theorem adV (k : IntKind) (n : Int) : aaZ (.t (.int k n)) = some (some n) := (rfl)
@[go_sem] theorem aa0 : Ko get none = some none := (rfl)
@[go_sem] theorem aa1 (x : X) : Ko get (some x) = (get x).bind aaZ := by
 simp only[Ko];cases get x with
 | none=>rfl
 | some d=>cases d with
   | t y=>cases y<;>rfl
   | _=>rfl
def afQ(i:Nat)(a:D):Option (D×ai):=(ZZ i a).map fun d=>(d,H)
@[go_sem] theorem aiI (x : X) (i : Nat) : evO call get H (.ex x i) = (get x).bind (afQ H i) := (rfl)
def exO:Option D→Option (D×ai)
 | some d=>some (d,H)
 | none=>none
@[go_sem] theorem adW (d : D) : exO H (some d) = some (d, H) := (rfl)
@[go_sem] theorem adX (i : Nat) (ds : List D) : afQ H i (.tup ds) = exO H ds[i]? := by simp only [afQ, ZZ, exO]; cases ds[i]? <;> rfl
def afR(f:Nat)(ds:List D):Option (D×ai):=some (.fn f ds,H)
@[go_sem] theorem afS (f : Nat) (ds : List D) : afR H f ds = some (.fn f ds, H) := (rfl)
@[go_sem] theorem aiJ (f : Nat) (caps : List X) : evO call get H (.mf f caps) = (bA get caps).bind (afR H f) := by simp only [evO, afR]; cases bA get caps <;> rfl
@[go_sem] theorem aiK (sz : Nat) : evO call get H (.nw sz) = some (.ref H.length 0 0, H ++ [.arr sz false 0 []]) := (rfl)
def alP(p:List D×ai):Option (D×ai):=some (.bp H.length 0,H++ .box p.1::p.2)
@[go_sem] theorem ahJ (cs : List D) (os : ai) : alP H (cs, os) = some (.bp H.length 0, H ++ .box cs :: os) := (rfl)
@[go_sem] theorem aiL (zero : List D) (live : List (Nat × Nat)) : evO call get H (.al zero live) = alP H (cj (H.length + 1) zero live) := (rfl)
@[go_sem] theorem U3 (base : Nat) (cs : List D) : cj base cs [] = (cs, []) := (rfl)
def afT(n:Nat)(a:D):Option (D×ai):=if a.cells.length=n∧a.jC then some (.bp H.length 0,H++[.box a.cells])else none
@[go_sem] theorem aiM (x : X) (n : Nat) : evO call get H (.bx x n) = (get x).bind (afT H n) := (rfl)
@[go_sem] theorem afU (n : Nat) (a : D) : afT H n a = if fits n a = true then some (.bp H.length 0, H ++ [.box a.cells]) else none := by
 simp[afT,fits]
def adY(sz:Nat)(zero:D)(n:Option Nat):Option (D×ai):=n.bind fun m=>if m≤lim then some (.ref H.length 0 m,H++[.arr sz false 0 (List.replicate m zero)])else none
def mkN(sz:Nat)(zero:D):D→Option (D×ai)
 | .t (.int _ n)=>adY H sz zero (idx n)
 | _=>none
@[go_sem] theorem afV (sz : Nat) (zero : D) (k : IntKind) (n : Int) : mkN H sz zero (.t (.int k n)) = adY H sz zero (idx n) := (rfl)
@[go_sem] theorem aiN (len : X) (zero : D) (sz : Nat) : evO call get H (.mk len zero sz) = (get len).bind (mkN H sz zero) := by
 simp only[evO];cases get len with
 | none=>rfl
 | some d=>cases d with
   | t y=>cases y<;>rfl
   | _=>rfl
@[go_sem] theorem afW (sz : Nat) (zero : D) (m : Nat) (h : m ≤ 4294967296) : adY H sz zero (some m) = some (.ref H.length 0 m, H ++ [.arr sz false 0 (List.replicate m zero)]) := by
 simp[adY,lim,h]
def sT(sz:Nat)(fz:Bool)(x y:Option D):Option (D×ai):=x.bind fun a=>y.bind fun b=>pD H a b fz sz
@[go_sem] theorem ahK (x y : X) (fz : Bool) (sz : Nat) : evO call get H (.app x y fz sz) = sT H sz fz (get x) (get y) := (rfl)
def zb(sz id ep n:Nat)(ys:List D):Option Obj→Option (D×ai)
 | some (.arr sz' pin ep' es)=>if ep=ep'∧n=es.length∧sz'=sz∧n+ys.length≤lim then some (.ref id ep (n+ys.length),H.set id (.arr sz pin ep (es++ys)))else none
 | _=>none
@[go_sem] theorem aa2 (sz id ep n : Nat) (ys : List D) (pin : Bool) (es : List D) :
 zb H sz id ep n ys (some (.arr sz pin ep es))=if n=es.length then(if n+ys.length≤4294967296 then some (.ref id ep (n+ys.length),H.set id (.arr sz pin ep (es++ys)))else none)else none:=by
 simp only[zb,lim]
 by_cases h1:n=es.length
 · rw[if_pos h1]
   by_cases h2:n+ys.length≤4294967296
   · rw[if_pos h2,if_pos ⟨trivial,h1,trivial,h2⟩]
   · rw[if_neg h2,if_neg fun h=>h2 h.2.2.2]
 · rw[if_neg h1,if_neg fun h=>h1 h.2.1]
theorem xg(ts:List T):bA (fun d=>(frz H depth d).map D.t) (ts.map D.t)=some (ts.map D.t):=by
 induction ts with
 | nil=>rfl
 | cons t ts ih=>simp[bA,frz,ih]
theorem Fy(ts:List T):(ts.map D.t).flatMap (fF H depth)=[]:=by
 induction ts with
 | nil=>rfl
 | cons t ts ih=>rw[List.map_cons,List.flatMap_cons,ih];simp[fF,depth]
theorem FA(sz:Nat)(fz:Bool)(x:D)(ts:List T)(h:cY sz (ts.map D.t)=false):sT H sz fz (some x) (some (.t (.sl ts)))=none:=by
 have e1:(if fz then bA (fun d=>(frz H depth d).map D.t) (ts.map D.t)else some (ts.map D.t))=some (ts.map D.t):=by
  cases fz<;>simp[xg]
 simp only[sT,Option.bind_some,pD,elems,e1,h,Bool.false_eq_true,if_false]
def vH(sz:Nat)(ts:List T):Bool:=cY sz (ts.map D.t)
theorem Ni(sz id ep n:Nat)(fz:Bool)(ts:List T)(h:vH sz ts=true):sT H sz fz (some (.ref id ep n)) (some (.t (.sl ts)))=zb H sz id ep n (ts.map .t) H[id]?:=by
 have e1:(if fz then bA (fun d=>(frz H depth d).map D.t) (ts.map D.t)else some (ts.map D.t))=some (ts.map D.t):=by
  cases fz<;>simp[xg]
 have e2:(if fz then pins H ((ts.map D.t).flatMap (fF H depth))else H)=H:=by
  cases fz
  · rfl
  · simp only[if_true];rw[Fy];rfl
 unfold vH at h
 simp only[sT,Option.bind_some,pD,elems,e1,h,if_true,e2,fV]
 generalize H[id]?=o
 rcases o with _ | (_ | ⟨sz',pin,ep',es⟩)
 · rfl
 · rfl
 · simp only[zb]
   by_cases h1:ep=ep'∧n=es.length
   · rw[if_pos h1,Option.bind_some]
     by_cases h2:sz'=sz∧n+(ts.map D.t).length≤lim
     · rw[if_pos h2,if_pos ⟨h1.1,h1.2,h2⟩]
     · rw[if_neg h2,if_neg fun h=>h2 h.2.2]
   · rw[if_neg h1,if_neg fun h=>h1 ⟨h.1,h.2.1⟩];rfl
@[go_sem] theorem aa3 (sz id ep n : Nat) (fz : Bool) (ts : List T) : sT H sz fz (some (.ref id ep n)) (some (.t (.sl ts))) = if vH sz ts = true then zb H sz id ep n (ts.map .t) H[id]? else none := by
 by_cases h:vH sz ts=true
 · rw[if_pos h,Ni H sz id ep n fz ts h]
 · rw[if_neg h];exact FA H sz fz _ ts (by simpa [vH]using h)
@[go_sem] theorem aa4 (sz : Nat) (fz : Bool) (ts : List T) : sT H sz fz (some .nil) (some (.t (.sl ts))) =
 if vH sz ts=true then(if ts.length≤4294967296 then some (.ref H.length 0 ts.length,H++[.arr sz false 0 (ts.map .t)])else none)else none:=by
 by_cases h:vH sz ts=true
 · rw[if_pos h]
   have e1:(if fz then bA (fun d=>(frz H depth d).map D.t) (ts.map D.t)else some (ts.map D.t))=some (ts.map D.t):=by
    cases fz<;>simp[xg]
   have e2:(if fz then pins H ((ts.map D.t).flatMap (fF H depth))else H)=H:=by
    cases fz
    · rfl
    · simp only[if_true];rw[Fy];rfl
   unfold vH at h
   simp only[sT,Option.bind_some,pD,elems,e1,h,if_true,e2,lim,List.length_map]
 · rw[if_neg h];exact FA H sz fz _ ts (by simpa [vH]using h)
@[go_sem] theorem aa5 (sz : Nat) : vH sz [] = true := (rfl)
@[go_sem] theorem Yr (sz : Nat) (x : T) (r : List T) : vH sz (x :: r) = pE sz x.cells := by
 rw[Bool.eq_iff_iff,gk];simp[vH,cY,D.cells]
@[go_sem] theorem aa6 (l : List Int) (k : IntKind) : vH 1 (l.map (.int k)) = true := by cases l <;> rfl
def KG(call:aT)(f raw:Nat)(keep:List Nat)(ds:List D):Option (D×ai):=wM call H f raw keep ds
@[go_sem] theorem aiO (f raw : Nat) (keep : List Nat) (xs : List X) : evO call get H (.ca f raw keep xs) = (bA get xs).bind (KG H call f raw keep) := (rfl)
def ahL(call:aT)(raw:Nat)(keep:List Nat)(x:Option D)(xs:Option (List D)):Option (D×ai):=x.bind fun
 | .fn f caps=>xs.bind fun ds=>wM call H f raw keep (ds++caps)
 | _=>none
@[go_sem] theorem aiP (x : X) (raw : Nat) (keep : List Nat) (xs : List X) : evO call get H (.cw x raw keep xs) = ahL H call raw keep (get x) (bA get xs) := (rfl)
@[go_sem] theorem afX (raw : Nat) (keep : List Nat) (f : Nat) (caps ds : List D) : ahL H call raw keep (some (.fn f caps)) (some ds) = KG H call f raw keep (ds ++ caps) := (rfl)
def sU(H:ai):List D→Option (List T)
 | []=>some []
 | .t x::r=>mZ x (sU H r)
 | .nil::r=>mZ (.sl []) (sU H r)
 | _::_=>none
@[go_sem] theorem afY : sU H [] = some [] := (rfl)
@[go_sem] theorem afZ (x : T) (r : List D) : sU H (.t x :: r) = mZ x (sU H r) := (rfl)
@[go_sem] theorem aa7 (cs : List D) (r : List D) : sU H (.agg cs :: r) = none := (rfl)
@[go_sem] theorem adZ (a b : Nat) (r : List D) : sU H (.bp a b :: r) = none := (rfl)
@[go_sem] theorem aa8 (a b c : Nat) (r : List D) : sU H (.ref a b c :: r) = none := (rfl)
@[go_sem] theorem ad0 (f : Nat) (cs : List D) (r : List D) : sU H (.fn f cs :: r) = none := (rfl)
end
theorem vI(H:ai):∀ {ds:List D} {ts:List T},sU H ds=some ts→∀i,qE H [] i ds=some (ts.map .t)∧cM H [] i ds=[]
 | [],ts,h,i=>by simp[sU]at h;subst h;exact⟨rfl,rfl⟩
 | d::r,ts,h,i=>by
   cases d with
   | t x=>
     simp only[sU,mZ,Option.map_eq_some_iff]at h
     obtain⟨l,hl,rfl⟩:=h
     obtain⟨h1,h2⟩:=vI H hl (i+1)
     exact⟨by simp[qE,uN,h1],by simp[cM,fF,depth,h2]⟩
   | nil=>
     simp only[sU,mZ,Option.map_eq_some_iff]at h
     obtain⟨l,hl,rfl⟩:=h
     obtain⟨h1,h2⟩:=vI H hl (i+1)
     exact⟨by simp[qE,uN,h1],by simp[cM,fF,depth,h2]⟩
   | _=>simp[sU]at h
theorem Nj(ts:List T)(n:Nat):(ts.map D.t).flatMap (ids n)=[]:=by
 induction ts with
 | nil=>rfl
 | cons t ts ih=>rw[List.map_cons,List.flatMap_cons,ih];simp[ids]
theorem vJ(f:Nat→Option Nat)(ts:List T):bA (ren f depth) (ts.map .t)=some (ts.map .t):=by
 induction ts with
 | nil=>rfl
 | cons t ts ih=>simp[bA,ren,depth]at ih ⊢;exact ih
def zB:D→Bool
 | .t _=>true
 | .tup ds=>ds.all fun | .t _=>true | _=>false
 | _=>false
theorem Dt{f:Nat→Option Nat}{d:D}(h:zB d=true):ren f depth d=some d:=by
 cases d with
 | t x=>rfl
 | tup ds=>
   simp only[zB]at h
   have:bA (ren f 7) ds=some ds:=by
    induction ds with
    | nil=>rfl
    | cons d ds ih=>
      simp only[List.all_cons,Bool.and_eq_true]at h
      cases d with
      | t x=>simp[bA,ren,ih h.2]
      | _=>simp at h
   simp[ren,depth,this]
 | _=>simp[zB]at h
def sV(H:ai)(p:D×ai):Option (D×ai):=if zB p.1&&p.2.isEmpty then some (p.1,H)else
 (ren (bJ [] H.length) depth p.1).bind fun r'=>(bA (bY (bJ [] H.length)) p.2).map fun os=>(r',H++os)
@[go_sem] theorem af0 (H : ai) (x : T) : sV H (.t x, []) = some (.t x, H) := (rfl)
@[go_sem] theorem af1 (H : ai) (x y : T) : sV H (.tup [.t x, .t y], []) = some (.tup [.t x, .t y], H) := (rfl)
theorem Nk(H:ai)(call:aT)(f raw:Nat)(ds:List D)(ts:List T)(h:sU H ds=some ts):
 KG H call f raw [] ds=(call raw f (ts.map .t) []).bind (sV H):=by
 obtain⟨h1,h2⟩:=vI H h 0
 simp only[KG,wM,h1,Option.bind_some,Nj,eJ,reach,jA,List.flatMap_nil,h2,pins,vJ,pick,bA]
 cases hc:call raw f (ts.map .t) []with
 | none=>rfl
 | some p=>
   obtain⟨d,os⟩:=p
   simp only[Option.bind_some,List.isEmpty_nil,Bool.true_and,sV]
   by_cases h3:os=[]
   · subst h3
     simp only[List.isEmpty_nil,Bool.true_and,Bool.and_true,bA,Option.map_some,List.length_nil,List.take_nil,dw,List.drop_nil,List.append_nil]
     by_cases h4:zB d=true
     · rw[if_pos h4]
       split
       · rfl
       · rw[Dt h4];rfl
     · rw[if_neg h4]
       split
       · rename_i h5
         exfalso
         apply h4
         cases d with
         | t x=>rfl
         | tup ds=>
           simp only[sI,List.all_eq_true]at h5
           simp only[zB,List.all_eq_true]
           intro y hy
           have:=h5 y hy
           cases y<;>simp_all [om]
         | _=>simp[sI]at h5
       · rfl
   · have:os.isEmpty=false:=by cases os<;>simp_all
     simp only[this,Bool.false_and,Bool.and_false,if_false,Bool.false_eq_true,List.length_nil,List.take_zero,dw,List.drop_zero]
@[go_sem] theorem Ys (st : St) : jD st [] = some [] := (rfl)
def ahM(st:St)(r:List (Nat×Option (Nat×Bool)))(d:D):Option (List D):=mZ d (jD st r)
@[go_sem] theorem af2 (vs : List D) (H : ai) (r : List (Nat × Option (Nat × Bool))) (d : D) : ahM ⟨vs, H⟩ r d = mZ d (jD ⟨vs, H⟩ r) := (rfl)
@[go_sem] theorem Yt (vs : List D) (H : ai) (j : Nat) (r : List (Nat × Option (Nat × Bool))) : jD ⟨vs, H⟩ ((j, none) :: r) = vs[j]?.bind (ahM ⟨vs, H⟩ r) := (rfl)
def af3(st:St)(r:List (Nat×Option (Nat×Bool)))(p:D×ai):Option (List D):=mZ p.1 (jD st r)
@[go_sem] theorem af4 (vs : List D) (H : ai) (r : List (Nat × Option (Nat × Bool))) (d : D) (H' : ai) : af3 ⟨vs, H⟩ r (d, H') = mZ d (jD ⟨vs, H⟩ r) := (rfl)
def af5(st:St)(n:Nat)(agg:Bool)(r:List (Nat×Option (Nat×Bool)))(p:D):Option (List D):=(PF st.H n agg p).bind (af3 st r)
@[go_sem] theorem af6 (vs : List D) (H : ai) (n : Nat) (agg : Bool) (r : List (Nat × Option (Nat × Bool))) (p : D) : af5 ⟨vs, H⟩ n agg r p = (PF H n agg p).bind (af3 ⟨vs, H⟩ r) := (rfl)
@[go_sem] theorem U4 (vs : List D) (H : ai) (j n : Nat) (agg : Bool) (r : List (Nat × Option (Nat × Bool))) : jD ⟨vs, H⟩ ((j, some (n, agg)) :: r) = vs[j]?.bind (af5 ⟨vs, H⟩ n agg r) := by
 simp only[jD]
 cases vs[j]? with
 | none=>rfl
 | some p=>
   simp only[Option.bind_some,af5,PF]
   cases x8 H p n agg<;>rfl
@[go_sem] theorem QA (H : ai) (n : Nat) (x : T) : frz H n (.t x) = some x := by cases n <;> rfl
@[go_sem] theorem af7 (H : ai) (n : Nat) : frz H n .nil = some (.sl []) := by cases n <;> rfl
@[go_sem] theorem af8 (H : ai) (n : Nat) (cs : List D) : frz H (n + 1) (.agg cs) = (bA (frz H n) cs).map .agg := (rfl)
@[go_sem] theorem Yu (H : ai) (n : Nat) (ts : List T) : bA (frz H n) (ts.map .t) = some ts := by
 induction ts with
 | nil=>rfl
 | cons t ts ih=>simp[bA,QA,ih]
def frR(H:ai)(n ep m:Nat):Option Obj→Option T
 | some (.arr _ _ ep' es)=>if ep=ep'∧m=es.length then(bA (frz H n) es).map .sl else none
 | _=>none
@[go_sem] theorem af9 (H : ai) (n id ep m : Nat) : frz H (n + 1) (.ref id ep m) = frR H n ep m H[id]? := by
 simp only[frz,fV]
 generalize H[id]?=o
 rcases o with _ | (_ | ⟨sz',pin,ep',es⟩)
 · rfl
 · rfl
 · simp only[frR]
   by_cases h:ep=ep'∧m=es.length
   · rw[if_pos h,if_pos h];rfl
   · rw[if_neg h,if_neg h];rfl
@[go_sem] theorem aga (H : ai) (n ep m sz : Nat) (pin : Bool) (es : List D) : frR H n ep m (some (.arr sz pin ep es)) = if m = es.length then (bA (frz H n) es).map .sl else none := by simp [frR]
@[go_sem] theorem aa9 (H : ai) (x : T) : uN H (.t x) = some (.t x) := (rfl)
@[go_sem] theorem ad1 (H : ai) : uN H .nil = some (.t (.sl [])) := (rfl)
@[go_sem] theorem ad2 (H : ai) (cs : List D) : uN H (.agg cs) = (frz H 8 (.agg cs)).map .t := (rfl)
@[go_sem] theorem ad3 (H : ai) (id ep n : Nat) : uN H (.ref id ep n) = (frz H 8 (.ref id ep n)).map .t := (rfl)
@[go_sem] theorem U5 (H : ai) (id off : Nat) : uN H (.bp id off) = some (.bp id off) := (rfl)
@[go_sem] theorem agb (H : ai) (f : Nat) (cs : List D) : uN H (.fn f cs) = some (.fn f cs) := (rfl)
def ltB:Nat→Nat→Bool
 | _,0=>false
 | 0,_+1=>true
 | m+1,n+1=>ltB m n
@[go_sem] theorem aiQ (m : Nat) : ltB m 0 = false := by cases m <;> rfl
@[go_sem] theorem ahN (n : Nat) : ltB 0 (n + 1) = true := (rfl)
@[go_sem] theorem ahO (m n : Nat) : ltB (m + 1) (n + 1) = ltB m n := (rfl)
theorem vK:∀ {m n:Nat},ltB m n=decide (m<n)
 | m,0=>by cases m<;>simp[ltB]
 | 0,n+1=>by simp[ltB]
 | m+1,n+1=>by simp[ltB,vK (m:=m) (n:=n)]
def eqB:Nat→Nat→Bool
 | 0,0=>true
 | m+1,n+1=>eqB m n
 | _,_=>false
@[go_sem] theorem ahP : eqB 0 0 = true := (rfl)
@[go_sem] theorem ahQ (n : Nat) : eqB 0 (n + 1) = false := (rfl)
@[go_sem] theorem ahR (n : Nat) : eqB (n + 1) 0 = false := (rfl)
@[go_sem] theorem ahS (m n : Nat) : eqB (m + 1) (n + 1) = eqB m n := (rfl)
theorem HL:∀ {m n:Nat},eqB m n=decide (m=n)
 | 0,0=>rfl
 | 0,n+1=>rfl
 | m+1,0=>rfl
 | m+1,n+1=>by simp[eqB,HL (m:=m) (n:=n)]
section
variable (k n : Nat)
@[go_sem] theorem agc (x : T) : old k n (.t x) = true := by cases n <;> rfl
@[go_sem] theorem agd : old k n .nil = true := by cases n <;> rfl
@[go_sem] theorem age : old k n .und = true := by cases n <;> rfl
@[go_sem] theorem aba (id off : Nat) : old k n (.bp id off) = ltB id k := by cases n <;> simp [old, vK]
@[go_sem] theorem agf (id ep m : Nat) : old k n (.ref id ep m) = ltB id k := by cases n <;> simp [old, vK]
def ie(n:Nat)(cs:List D):Bool:=cs.all (old k n)
@[go_sem] theorem Yv : ie k n [] = true := (rfl)
@[go_sem] theorem HM (d : D) (r : List D) : ie k n (d :: r) = (old k n d && ie k n r) := (rfl)
@[go_sem] theorem QB (ts : List T) : ie k n (ts.map .t) = true := by
 induction ts with
 | nil=>rfl
 | cons t ts ih=>rw[List.map_cons,HM,agc,ih];rfl
@[go_sem] theorem Yw (a b : List D) : ie k n (a ++ b) = (ie k n a && ie k n b) := by simp [ie]
@[go_sem] theorem agh (cs : List D) : old k (n + 1) (.agg cs) = ie k n cs := (rfl)
@[go_sem] theorem ahT (f : Nat) (cs : List D) : old k (n + 1) (.fn f cs) = ie k n cs := (rfl)
end
def gK(k:Nat):ai→Bool
 | []=>true
 | .box cs::r=>ie k 8 cs&&gK k r
 | .arr _ _ _ es::r=>ie k 8 es&&gK k r
@[go_sem] theorem U6 (k : Nat) : gK k [] = true := (rfl)
@[go_sem] theorem U7 (k : Nat) (cs : List D) (r : ai) : gK k (.box cs :: r) = (ie k 8 cs && gK k r) := (rfl)
@[go_sem] theorem U8 (k sz ep : Nat) (pin : Bool) (es : List D) (r : ai) : gK k (.arr sz pin ep es :: r) = (ie k 8 es && gK k r) := (rfl)
theorem oc(k:Nat)(H:ai):H.all (fun o=>o.ds.all (old k depth))=gK k H:=by
 induction H with
 | nil=>rfl
 | cons o r ih=>rw[List.all_cons,ih];cases o<;>rfl
def abb(d:D)(b:Bool):D:=if b then d else .und
@[go_sem] theorem Yx (d : D) : abb d true = d := (rfl)
@[go_sem] theorem agi (k : Nat) (d : D) : kill k d = abb d (old k 8 d) := (rfl)
def KH(k:Nat):List D→List D
 | []=>[]
 | d::r=>kill k d::KH k r
@[go_sem] theorem abc (k : Nat) : KH k [] = [] := (rfl)
@[go_sem] theorem Yy (k : Nat) (d : D) (r : List D) : KH k (d :: r) = kill k d :: KH k r := (rfl)
theorem QC(k:Nat)(vs:List D):vs.map (kill k)=KH k vs:=by
 induction vs with
 | nil=>rfl
 | cons d r ih=>rw[List.map_cons,ih];rfl
@[go_sem] theorem ad4 (k : Nat) (vs : List D) (H : ai) : Kp k ⟨vs, H⟩ = if gK k (H.take k) = true then some ⟨KH k vs, H.take k⟩ else none := by
 simp only[Kp,oc,QC]
@[go_sem] theorem Nl (H : ai) (n : Nat) (x : T) : fF H n (.t x) = [] := by cases n <;> rfl
@[go_sem] theorem ad5 (H : ai) (n : Nat) : fF H n .nil = [] := by cases n <;> rfl
@[go_sem] theorem U9 (H : ai) (n id off : Nat) : fF H n (.bp id off) = [] := by cases n <;> rfl
@[go_sem] theorem agj (H : ai) (n f : Nat) (cs : List D) : fF H n (.fn f cs) = [] := by cases n <;> rfl
def uH(H:ai)(n:Nat)(cs:List D):List Nat:=cs.flatMap (fF H n)
@[go_sem] theorem abd (H : ai) (n : Nat) : uH H n [] = [] := (rfl)
@[go_sem] theorem KI (H : ai) (n : Nat) (d : D) (r : List D) : uH H n (d :: r) = fF H n d ++ uH H n r := (rfl)
@[go_sem] theorem agk (H : ai) (n : Nat) (ts : List T) : uH H n (ts.map .t) = [] := by
 induction ts with
 | nil=>rfl
 | cons t ts ih=>rw[List.map_cons,KI,ih,Nl];rfl
@[go_sem] theorem ad6 (H : ai) (n : Nat) (cs : List D) : fF H (n + 1) (.agg cs) = uH H n cs := (rfl)
def abe(H:ai)(n:Nat):Option Obj→List Nat
 | some (.arr _ _ _ es)=>uH H n es
 | _=>[]
@[go_sem] theorem abf (H : ai) (n sz ep : Nat) (pin : Bool) (es : List D) : abe H n (some (.arr sz pin ep es)) = uH H n es := (rfl)
@[go_sem] theorem ad7 (H : ai) (n id ep m : Nat) : fF H (n + 1) (.ref id ep m) = id :: abe H n H[id]? := (rfl)
@[go_sem] theorem agl : sC [] = .tup [] := (rfl)
@[go_sem] theorem agm (d : D) : sC [d] = d := (rfl)
@[go_sem] theorem agn (a b : D) (r : List D) : sC (a :: b :: r) = .tup (a :: b :: r) := (rfl)
def Du(k:Nat):List Nat→Bool
 | []=>true
 | i::r=> !ltB i k&&Du k r
@[go_sem] theorem abg (k : Nat) : Du k [] = true := (rfl)
@[go_sem] theorem Yz (k i : Nat) (r : List Nat) : Du k (i :: r) = (!ltB i k && Du k r) := (rfl)
theorem Dv(k:Nat)(l:List Nat):l.all (fun i=>decide (k≤i))=Du k l:=by
 induction l with
 | nil=>rfl
 | cons i r ih=>
   rw[List.all_cons,ih]
   simp only[Du,vK]
   congr 1
   rw[Bool.eq_iff_iff];simp
def ad8(k raw:Nat)(H:ai)(ds rs:List D):Option (D×ai):=
 (gF H (max raw 1) (List.range k) (rs.flatMap (ids depth)++jA H (List.range k))).bind fun q=>
  if(ik H raw ds).all (fun i=> !(List.range k++q.1).contains i)then
   (bA (ren (idxOf (List.range k++q.1)) depth) rs).bind fun rs'=>
    (bA (bY (idxOf (List.range k++q.1))) (H.take k++q.2)).map fun hs'=>(sC rs',hs')
  else none
def YA(k raw:Nat)(H:ai)(ds rs:List D)(b:Bool):Option (D×ai):=
 if b then(if Du k (ik H raw ds)=true then some (sC rs,H.take k)else none)else ad8 k raw H ds rs
@[go_sem] theorem abh (k raw : Nat) (H : ai) (ds rs : List D) : YA k raw H ds rs true = if Du k (ik H raw ds) = true then some (sC rs, H.take k) else none := (rfl)
def abi(k raw:Nat)(H:ai)(ds rs:List D):Option (D×ai):=YA k raw H ds rs (ie k 8 rs&&gK k (H.take k))
@[go_sem] theorem ago (k raw : Nat) (H : ai) (ds rs : List D) : abi k raw H ds rs = YA k raw H ds rs (ie k 8 rs && gK k (H.take k)) := (rfl)
@[go_sem] theorem abj (k : Nat) (H : ai) (ds : List D) : finish k 0 H ds = (bA (uN H) ds).bind (abi k 0 H ds) := by
 simp only[finish,if_true,oc,Dv]
 cases bA (uN H) ds with
 | none=>rfl
 | some rs=>
   simp only[Option.bind_some,abi,YA]
   show(if(ie k 8 rs&&gK k (H.take k))=true then _ else _)=_
   cases (ie k 8 rs&&gK k (H.take k))<;>rfl
@[go_sem] theorem abk (H : ai) (ds : List D) : ik H 0 ds = uH H 8 ds := (rfl)
@[go_sem] theorem abl (vs : List D) : j7 [] vs = vs := (rfl)
@[go_sem] theorem YB (i : Nat) (r : List Nat) (vs : List D) : j7 (i :: r) vs = j7 r (vs.set i .und) := (rfl)
@[go_sem] theorem agp (dead : List Nat) (k : Nat) (vs : List D) (H : ai) : tidy false dead k ⟨vs, H⟩ = some ⟨j7 dead vs, H⟩ := (rfl)
@[go_sem] theorem agq (dead : List Nat) (k : Nat) (vs : List D) (H : ai) : tidy true dead k ⟨vs, H⟩ = Kp k ⟨j7 dead vs, H⟩ := (rfl)
section
variable (H : ai) (call : aT) (f raw : Nat) (keep : List Nat) (ds : List D)
def FB(H1:ai)(n:Nat)(sel:List Nat)(p:D×ai):Option (D×ai):=
 (ren (bJ sel n) depth p.1).bind fun r'=>(bA (bY (bJ sel n)) p.2).map fun os=>(r',dw H1 sel (os.take sel.length)++os.drop sel.length)
def vL(H1:ai)(sel:List Nat)(p:D×ai):Option (D×ai):=
 if sel.isEmpty&&p.2.isEmpty&&sI p.1 then some (p.1,H)else FB H1 H.length sel p
def Va(args:List D)(H1:ai)(sel:List Nat)(hs:ai):Option (D×ai):=(call raw f args hs).bind (vL H H1 sel)
def Vb(args:List D)(H1:ai)(sel:List Nat)(hs:ai):Option (D×ai):=(bA (bY (idxOf sel)) hs).bind (Va H call f raw args H1 sel)
def Vc(H1:ai)(sel:List Nat)(args:List D):Option (D×ai):=(pick H1 sel).bind (Vb H call f raw args H1 sel)
def Vd(args:List D)(sel:List Nat):Option (D×ai):=(bA (ren (idxOf sel) depth) args).bind (Vc H call f raw (pins H (cM H keep 0 ds)) sel)
def BM(n:Nat)(cs:List D):List Nat:=cs.flatMap (ids n)
def Ve(args:List D):Option (D×ai):=Vd H call f raw keep ds args (reach H 3 (eJ [] (BM 8 args)))
def Nn:Option (D×ai):=(qE H keep 0 ds).bind (Ve H call f raw keep ds)
theorem QD:KG H call f raw keep ds=Nn H call f raw keep ds:=(rfl)
@[go_sem] theorem QE : Nn H call f raw keep ds = (qE H keep 0 ds).bind (Ve H call f raw keep ds) := (rfl)
@[go_sem] theorem QF (args : List D) : Ve H call f raw keep ds args = Vd H call f raw keep ds args (reach H 3 (eJ [] (BM 8 args))) := (rfl)
@[go_sem] theorem QG (args : List D) (sel : List Nat) : Vd H call f raw keep ds args sel = (bA (ren (idxOf sel) 8) args).bind (Vc H call f raw (pins H (cM H keep 0 ds)) sel) := (rfl)
@[go_sem] theorem QH (H1 : ai) (sel : List Nat) (args : List D) : Vc H call f raw H1 sel args = (pick H1 sel).bind (Vb H call f raw args H1 sel) := (rfl)
@[go_sem] theorem QI (args : List D) (H1 : ai) (sel : List Nat) (hs : ai) : Vb H call f raw args H1 sel hs = (bA (bY (idxOf sel)) hs).bind (Va H call f raw args H1 sel) := (rfl)
@[go_sem] theorem QJ (args : List D) (H1 : ai) (sel : List Nat) (hs : ai) : Va H call f raw args H1 sel hs = (call raw f args hs).bind (vL H H1 sel) := (rfl)
def No(H1:ai)(sel:List Nat)(r:D)(os:ai):Option (D×ai):=some (r,dw H1 sel (os.take sel.length)++os.drop sel.length)
@[go_sem] theorem QK (H1 : ai) (sel : List Nat) (r : D) (os : ai) : No H1 sel r os = some (r, dw H1 sel (os.take sel.length) ++ os.drop sel.length) := (rfl)
def QL(H1:ai)(n:Nat)(sel:List Nat)(os:ai)(r:D):Option (D×ai):=(bA (bY (bJ sel n)) os).bind (No H1 sel r)
@[go_sem] theorem Jn (H1 : ai) (n : Nat) (sel : List Nat) (os : ai) (r : D) : QL H1 n sel os r = (bA (bY (bJ sel n)) os).bind (No H1 sel r) := (rfl)
@[go_sem] theorem Dw (H1 : ai) (n : Nat) (sel : List Nat) (r : D) (os : ai) : FB H1 n sel (r, os) = (ren (bJ sel n) 8 r).bind (QL H1 n sel os) := by
 simp only[FB,depth]
 cases ren (bJ sel n) 8 r with
 | none=>rfl
 | some r'=>simp only[Option.bind_some,QL];cases bA (bY (bJ sel n)) os<;>rfl
@[go_sem] theorem ad9 (H1 : ai) (sel : List Nat) (r : D) (o : Obj) (os : ai) : vL H H1 sel (r, o :: os) = FB H1 H.length sel (r, o :: os) := by
 simp[vL]
@[go_sem] theorem agr (H1 : ai) (k : IntKind) (n : Int) : vL H H1 [] (.t (.int k n), []) = some (.t (.int k n), H) := (rfl)
@[go_sem] theorem ags (H1 : ai) (b : Bool) : vL H H1 [] (.t (.bool b), []) = some (.t (.bool b), H) := (rfl)
@[go_sem] theorem aea (H1 : ai) (es : List T) : vL H H1 [] (.t (.sl es), []) = some (.t (.sl es), H1) := by simp [vL, FB, sI, T.scalar, ren, depth, bA, dw]
@[go_sem] theorem abm (H1 : ai) (ds : List D) : vL H H1 [] (.tup ds, []) = if ds.all om then some (.tup ds, H) else FB H1 H.length [] (.tup ds, []) := by
 simp[vL,sI]
def Vf:Option (List T)→Option (D×ai)
 | some ts=>(call raw f (ts.map .t) []).bind (sV H)
 | none=>Nn H call f raw [] ds
@[go_sem] theorem YC (ts : List T) : Vf H call f raw ds (some ts) = (call raw f (ts.map .t) []).bind (sV H) := (rfl)
@[go_sem] theorem YD : Vf H call f raw ds none = Nn H call f raw [] ds := (rfl)
@[go_sem] theorem agt : KG H call f raw [] ds = Vf H call f raw ds (sU H ds) := by
 cases h:sU H ds with
 | none=>rfl
 | some ts=>exact Nk H call f raw ds ts h
@[go_sem] theorem ahU (k : Nat) : KG H call f raw (k :: keep) ds = Nn H call f raw (k :: keep) ds := (rfl)
end
section
variable (H : ai) (keep : List Nat)
@[go_sem] theorem abn (i : Nat) : qE H keep i [] = some [] := (rfl)
def HN(i:Nat):List Nat→Bool
 | []=>false
 | j::r=>eqB i j||HN i r
@[go_sem] theorem aeb (i : Nat) : HN i [] = false := (rfl)
@[go_sem] theorem abo (i j : Nat) (r : List Nat) : HN i (j :: r) = (eqB i j || HN i r) := (rfl)
theorem Dx(i:Nat)(l:List Nat):l.contains i=HN i l:=by
 induction l with
 | nil=>rfl
 | cons j r ih=>rw[List.contains_cons,ih];simp only[HN,HL];rw[beq_eq_decide_nat]
where beq_eq_decide_nat {a b:Nat}:(a==b)=decide (a=b):=by rw[Bool.eq_iff_iff];simp
def agu(d:D):Bool→Option D
 | true=>some d
 | false=>uN H d
@[go_sem] theorem ahV (d : D) : agu H d true = some d := (rfl)
@[go_sem] theorem SF (d : D) : agu H d false = uN H d := (rfl)
def ahW(i:Nat)(r:List D)(x:D):Option (List D):=mZ x (qE H keep (i+1) r)
@[go_sem] theorem Np (i : Nat) (r : List D) (x : D) : ahW H keep i r x = mZ x (qE H keep (i + 1) r) := (rfl)
@[go_sem] theorem Cw (i : Nat) (d : D) (r : List D) : qE H keep i (d :: r) = (agu H d (HN i keep)).bind (ahW H keep i r) := by
 simp only[qE,Dx]
 cases HN i keep<;>rfl
@[go_sem] theorem PG (i : Nat) : cM H keep i [] = [] := (rfl)
def frK(l:List Nat):Bool→List Nat
 | true=>[]
 | false=>l
@[go_sem] theorem aiR (l : List Nat) : frK l true = [] := (rfl)
@[go_sem] theorem abp (l : List Nat) : frK l false = l := (rfl)
@[go_sem] theorem sW (i : Nat) (d : D) (r : List D) : cM H keep i (d :: r) = frK (fF H 8 d) (HN i keep) ++ cM H keep (i + 1) r := by
 simp only[cM,Dx]
 cases HN i keep<;>rfl
@[go_sem] theorem aec (H : ai) : pins H [] = H := (rfl)
@[go_sem] theorem abq (H : ai) (i : Nat) (r : List Nat) : pins H (i :: r) = pins (H.modify i EG) r := (rfl)
def Nq(i:Nat):Option Obj→ai
 | some (.arr sz _ ep es)=>H.set i (.arr sz true ep es)
 | _=>H
@[go_sem] theorem abr (i sz ep : Nat) (pin : Bool) (es : List D) : Nq H i (some (.arr sz pin ep es)) = H.set i (.arr sz true ep es) := (rfl)
theorem Dy{α:Type}{l:List α}{i:Nat}{x:α}(h:l[i]?=some x):l.set i x=l:=by
 apply List.ext_getElem?
 intro j
 rw[List.getElem?_set]
 split
 · rename_i e;subst e
   split
   · exact h.symm
   · rename_i hl;rw[List.getElem?_eq_none (by omega)]at h;cases h
 · rfl
@[go_sem] theorem YE (i : Nat) : List.modify H i EG = Nq H i H[i]? := by
 apply List.ext_getElem?
 intro j
 rw[List.getElem?_modify]
 cases h:H[i]? with
 | none=>
   simp only[Nq]
   by_cases e:i=j
   · subst e;rw[h];simp
   · simp[e]
 | some o=>
   have hi:i<H.length:=(List.getElem?_eq_some_iff.1 h).1
   cases o with
   | box cs=>
     simp only[Nq]
     by_cases e:i=j
     · subst e;rw[h];simp[EG]
     · simp[e]
   | arr sz pin ep es=>
     simp only[Nq]
     rw[List.getElem?_set]
     by_cases e:i=j
     · subst e;rw[h];simp[EG,hi]
     · simp[e]
section
variable (n : Nat)
@[go_sem] theorem aiS (x : T) : ids n (.t x) = [] := by cases n <;> rfl
@[go_sem] theorem agv : ids n .nil = [] := by cases n <;> rfl
@[go_sem] theorem abt (id off : Nat) : ids n (.bp id off) = [id] := by cases n <;> rfl
@[go_sem] theorem agw (id ep m : Nat) : ids n (.ref id ep m) = [id] := by cases n <;> rfl
@[go_sem] theorem agx (cs : List D) : ids (n + 1) (.agg cs) = BM n cs := (rfl)
@[go_sem] theorem abu (f : Nat) (cs : List D) : ids (n + 1) (.fn f cs) = BM n cs := (rfl)
@[go_sem] theorem QM : BM n [] = [] := (rfl)
@[go_sem] theorem Nr (d : D) (r : List D) : BM n (d :: r) = ids n d ++ BM n r := (rfl)
@[go_sem] theorem Jo (ts : List T) : BM n (ts.map .t) = [] := Nj ts n
@[go_sem] theorem Jp (a b : List D) : BM n (a ++ b) = BM n a ++ BM n b := by simp [BM]
@[go_sem] theorem aed (m : Nat) (x : T) : BM n (List.replicate m (.t x)) = [] := by
 have:List.replicate m (D.t x)=(List.replicate m x).map .t:=by simp
 rw[this,Jo]
end
def Ns(sel:List Nat)(i:Nat):Bool→List Nat
 | true=>sel
 | false=>sel++[i]
@[go_sem] theorem aee (sel : List Nat) (i : Nat) : Ns sel i true = sel := (rfl)
@[go_sem] theorem aef (sel : List Nat) (i : Nat) : Ns sel i false = sel ++ [i] := (rfl)
@[go_sem] theorem YF (sel : List Nat) : eJ sel [] = sel := (rfl)
@[go_sem] theorem Vg (sel : List Nat) (i : Nat) (r : List Nat) : eJ sel (i :: r) = eJ (Ns sel i (HN i sel)) r := by
 simp only[eJ,Dx]
 cases HN i sel<;>rfl
def Jq:Option Obj→List Nat
 | some (.box cs)=>BM 8 cs
 | some (.arr _ _ _ es)=>BM 8 es
 | none=>[]
@[go_sem] theorem YG (cs : List D) : Jq (some (.box cs)) = BM 8 cs := (rfl)
@[go_sem] theorem YH (sz ep : Nat) (pin : Bool) (es : List D) : Jq (some (.arr sz pin ep es)) = BM 8 es := (rfl)
@[go_sem] theorem abv : jA H [] = [] := (rfl)
@[go_sem] theorem YI (i : Nat) (r : List Nat) : jA H (i :: r) = Jq H[i]? ++ jA H r := by
 simp only[jA,List.flatMap_cons]
 congr 1
 cases H[i]? with
 | none=>rfl
 | some o=>cases o<;>rfl
@[go_sem] theorem agy (sel : List Nat) : reach H 0 sel = sel := (rfl)
@[go_sem] theorem agz (n : Nat) (sel : List Nat) : reach H (n + 1) sel = reach H n (eJ sel (jA H sel)) := (rfl)
@[go_sem] theorem aeg : pick H [] = some [] := (rfl)
def abw(r:List Nat)(o:Obj):Option ai:=mZ o (pick H r)
@[go_sem] theorem QN (r : List Nat) (o : Obj) : abw H r o = mZ o (pick H r) := (rfl)
@[go_sem] theorem Nt (i : Nat) (r : List Nat) : pick H (i :: r) = H[i]?.bind (abw H r) := (rfl)
end
section
variable (f : Nat → Option Nat) (n : Nat)
@[go_sem] theorem agA (x : T) : ren f n (.t x) = some (.t x) := by cases n <;> rfl
@[go_sem] theorem agB : ren f n .nil = some .nil := by cases n <;> rfl
def ahX(off:Nat)(i:Nat):D:= .bp i off
@[go_sem] theorem agC (off i : Nat) : ahX off i = .bp i off := (rfl)
@[go_sem] theorem abx (id off : Nat) : ren f n (.bp id off) = (f id).map (ahX off) := by cases n <;> rfl
def aby(ep m:Nat)(j:Nat):D:= .ref j ep m
@[go_sem] theorem aeh (ep m j : Nat) : aby ep m j = .ref j ep m := (rfl)
@[go_sem] theorem agD (id ep m : Nat) : ren f n (.ref id ep m) = (f id).map (aby ep m) := by cases n <;> rfl
@[go_sem] theorem abz (g : Nat) (cs : List D) : ren f (n + 1) (.fn g cs) = (bA (ren f n) cs).map (.fn g) := (rfl)
@[go_sem] theorem agE (cs : List D) : ren f (n + 1) (.agg cs) = (bA (ren f n) cs).map .agg := (rfl)
@[go_sem] theorem agF (cs : List D) : ren f (n + 1) (.tup cs) = (bA (ren f n) cs).map .tup := (rfl)
@[go_sem] theorem uu (ts : List T) : bA (ren f n) (ts.map .t) = some (ts.map .t) := by
 induction ts with
 | nil=>rfl
 | cons t ts ih=>rw[List.map_cons,Fv,agA,Option.bind_some,UN,ih];rfl
@[go_sem] theorem SG (m : Nat) (x : T) : bA (ren f n) (List.replicate m (.t x)) = some (List.replicate m (.t x)) := by
 have:List.replicate m (D.t x)=(List.replicate m x).map .t:=by simp
 rw[this,uu]
@[go_sem] theorem KJ (cs : List D) : bY f (.box cs) = (bA (ren f 8) cs).map .box := (rfl)
@[go_sem] theorem YJ (sz ep : Nat) (pin : Bool) (es : List D) : bY f (.arr sz pin ep es) = (bA (ren f 8) es).map (.arr sz pin ep) := (rfl)
end
def YK(x:Option Nat):Bool→Option Nat
 | true=>some 0
 | false=>x.map (· +1)
@[go_sem] theorem ahY (x : Option Nat) : YK x true = some 0 := (rfl)
@[go_sem] theorem ahZ (k : Nat) : YK (some k) false = some (k + 1) := (rfl)
@[go_sem] theorem ah0 : YK none false = none := (rfl)
@[go_sem] theorem idxOf_nil (i : Nat) : idxOf [] i = none := (rfl)
@[go_sem] theorem idxOf_cons (j i : Nat) (r : List Nat) : idxOf (j :: r) i = YK (idxOf r i) (eqB j i) := by
 simp only[idxOf,HL]
 by_cases h:j=i
 · simp[h,YK]
 · simp[h,YK]
@[go_sem] theorem YL (n i : Nat) : bJ [] n i = some (n + i) := by simp [bJ]
@[go_sem] theorem aei (j n : Nat) (r : List Nat) : bJ (j :: r) n 0 = some j := by simp [bJ]
@[go_sem] theorem aej (j n i : Nat) (r : List Nat) : bJ (j :: r) n (i + 1) = bJ r n i := by
 simp only[bJ,List.length_cons,Nat.add_lt_add_iff_right,List.getElem?_cons_succ,Nat.add_sub_add_right]
@[go_sem] theorem Vh {α : Type} (H os : List α) : dw H [] os = H := by cases os <;> rfl
@[go_sem] theorem SI {α : Type} (H : List α) (i : Nat) (r : List Nat) (o : α) (os : List α) : dw H (i :: r) (o :: os) = dw (H.set i o) r os := (rfl)
def lbP(sz:Nat)(p:List D×ai):List D×ai:=(p.1,.arr sz false 0 []::p.2)
@[go_sem] theorem ah1 (sz : Nat) (cs : List D) (os : ai) : lbP sz (cs, os) = (cs, .arr sz false 0 [] :: os) := (rfl)
def lbC(base:Nat)(cs:List D)(off sz:Nat)(r:List (Nat×Nat)):Option D→List D×ai
 | some .nil=>lbP sz (cj (base+1) (cs.set off (.ref base 0 0)) r)
 | _=>cj base cs r
@[go_sem] theorem agG (base : Nat) (cs : List D) (off sz : Nat) (r : List (Nat × Nat)) : lbC base cs off sz r (some .nil) = lbP sz (cj (base + 1) (cs.set off (.ref base 0 0)) r) := (rfl)
@[go_sem] theorem SJ (base : Nat) (cs : List D) (off sz : Nat) (r : List (Nat × Nat)) : cj base cs ((off, sz) :: r) = lbC base cs off sz r cs[off]? := by
 simp only[cj,lbC]
 split<;>split<;>simp_all [lbP]
def lvP(H:ai)(id:Nat)(p:List D×ai):Option (D×ai):=some (.tup [],H.set id (.box p.1)++p.2)
@[go_sem] theorem ah2 (H : ai) (id : Nat) (cs : List D) (os : ai) : lvP H id (cs, os) = some (.tup [], H.set id (.box cs) ++ os) := (rfl)
def lvB(H:ai)(id:Nat)(l:List (Nat×Nat)):Option Obj→Option (D×ai)
 | some (.box cs)=>lvP H id (cj H.length cs l)
 | _=>none
@[go_sem] theorem ah3 (H : ai) (id : Nat) (l : List (Nat × Nat)) (cs : List D) : lvB H id l (some (.box cs)) = lvP H id (cj H.length cs l) := (rfl)
@[go_sem] theorem Vi (H : ai) (id : Nat) (x : Nat × Nat) (r : List (Nat × Nat)) : Cv H id (x :: r) = lvB H id (x :: r) H[id]? := by
 simp only[Cv,qF]
 generalize H[id]?=o
 rcases o with _ | (cs | _)
 · rfl
 · rfl
 · rfl
section
variable (H : ai)
def klE(n:Nat)(sel new:List Nat)(os:ai)(q:List Nat×ai):Option (List Nat×ai):=some (new++q.1,os++q.2)
@[go_sem] theorem ah4 (n : Nat) (sel new : List Nat) (os : ai) (a : List Nat) (b : ai) : klE n sel new os (a, b) = some (new ++ a, os ++ b) := (rfl)
def klD(n:Nat)(sel new:List Nat)(os:ai):Option (List Nat×ai):=(gF H n (sel++new) (jA H new)).bind (klE n sel new os)
@[go_sem] theorem ah5 (n : Nat) (sel new : List Nat) (os : ai) : klD H n sel new os = (gF H n (sel ++ new) (jA H new)).bind (klE n sel new os) := (rfl)
def Cx(sel:List Nat):List Nat→Bool
 | []=>true
 | i::r=> !HN i sel&&Cx sel r
@[go_sem] theorem YM (sel : List Nat) : Cx sel [] = true := (rfl)
theorem FC(sel l:List Nat):l.all (fun i=> !sel.contains i)=Cx sel l:=by
 induction l with
 | nil=>rfl
 | cons i r ih=>rw[List.all_cons,ih,Dx];rfl
def klC(n:Nat)(sel new:List Nat)(os:ai):Option (List Nat×ai):=
 (if n=0 then(if(os.flatMap fun o=>o.ds.flatMap (fF H depth)).all (fun i=> !(sel++new).contains i)then bA (cU H) os else none)else some os).bind (klD H n sel new)
def xh:ai→List Nat
 | []=>[]
 | .box cs::r=>uH H 8 cs++xh r
 | .arr _ _ _ es::r=>uH H 8 es++xh r
@[go_sem] theorem YN : xh H [] = [] := (rfl)
@[go_sem] theorem YO (cs : List D) (r : ai) : xh H (.box cs :: r) = uH H 8 cs ++ xh H r := (rfl)
@[go_sem] theorem YP (sz ep : Nat) (pin : Bool) (es : List D) (r : ai) : xh H (.arr sz pin ep es :: r) = uH H 8 es ++ xh H r := (rfl)
theorem Nu(os:ai):(os.flatMap fun o=>o.ds.flatMap (fF H depth))=xh H os:=by
 induction os with
 | nil=>rfl
 | cons o r ih=>rw[List.flatMap_cons,ih];cases o<;>rfl
@[go_sem] theorem aiT (sel new : List Nat) (os : ai) : klC H 0 sel new os = (if Cx (sel ++ new) (xh H os) = true then bA (cU H) os else none).bind (klD H 0 sel new) := by
 simp only[klC,Nu,FC,if_true]
def klN(n:Nat)(sel new:List Nat):Option (List Nat×ai):=(pick H new).bind (klC H n sel new)
@[go_sem] theorem ah6 (n : Nat) (sel new : List Nat) : klN H n sel new = (pick H new).bind (klC H n sel new) := (rfl)
@[go_sem] theorem aek (sel front : List Nat) : gF H 0 sel front = some ([], []) := (rfl)
@[go_sem] theorem ael (n : Nat) (sel front : List Nat) : gF H (n + 1) sel front = klN H n sel ((eJ sel front).drop sel.length) := by
 simp only[gF,klN]
 generalize (eJ sel front).drop sel.length=new
 cases pick H new with
 | none=>rfl
 | some os=>
   simp only[Option.bind_some,klC]
   congr 1
   funext os'
   simp only[klD]
   cases gF H n (sel++new) (jA H new)<;>rfl
@[go_sem] theorem QO (cs : List D) : cU H (.box cs) = (bA (uN H) cs).map .box := (rfl)
@[go_sem] theorem Dz (sz ep : Nat) (pin : Bool) (ts : List T) : cU H (.arr sz pin ep (ts.map .t)) = some (.arr sz pin ep (ts.map .t)) := by
 simp only[cU,xg,Option.map_some]
@[go_sem] theorem QP (sz ep : Nat) (pin : Bool) : cU H (.arr sz pin ep []) = some (.arr sz pin ep []) := (rfl)
@[go_sem] theorem QQ (sz ep : Nat) (pin : Bool) (m : Nat) (x : T) : cU H (.arr sz pin ep (List.replicate m (.t x))) = some (.arr sz pin ep (List.replicate m (.t x))) := by
 have:List.replicate m (D.t x)=(List.replicate m x).map .t:=by simp
 rw[this,Dz]
def agH(k raw:Nat)(H:ai)(ds rs:List D)(q:List Nat×ai):Option (D×ai):=
 if Cx (List.range k++q.1) (ik H raw ds)=true then
  (bA (ren (idxOf (List.range k++q.1)) depth) rs).bind fun rs'=>(bA (bY (idxOf (List.range k++q.1))) (H.take k++q.2)).map fun hs'=>(sC rs',hs')
 else none
def Nv(sel:List Nat)(H2:ai)(rs':List D):Option (D×ai):=(bA (bY (idxOf sel)) H2).bind (finT3 rs')
where finT3 (rs':List D) (hs:ai):Option (D×ai):=some (sC rs',hs)
@[go_sem] theorem aem (rs' : List D) (hs : ai) : Nv.finT3 rs' hs = some (sC rs', hs) := (rfl)
@[go_sem] theorem aen (sel : List Nat) (H2 : ai) (rs' : List D) : Nv sel H2 rs' = (bA (bY (idxOf sel)) H2).bind (Nv.finT3 rs') := (rfl)
@[go_sem] theorem agI (k raw : Nat) (ds rs : List D) (sel : List Nat) (os : ai) : agH k raw H ds rs (sel, os) =
 if Cx (List.range k++sel) (ik H raw ds)=true then(bA (ren (idxOf (List.range k++sel)) 8) rs).bind (Nv (List.range k++sel) (H.take k++os))else none:=by
 simp only[agH,depth]
 split
 · cases bA (ren (idxOf (List.range k++sel)) 8) rs with
   | none=>rfl
   | some rs'=>simp only[Option.bind_some,Nv];cases bA (bY (idxOf (List.range k++sel))) (H.take k++os)<;>rfl
 · rfl
@[go_sem] theorem agJ (k raw : Nat) (ds rs : List D) : ad8 k raw H ds rs = (gF H (max raw 1) (List.range k) (BM 8 rs ++ jA H (List.range k))).bind (agH k raw H ds rs) := by
 simp only[ad8,FC,BM,depth];rfl
@[go_sem] theorem YQ (k raw : Nat) (ds rs : List D) : YA k raw H ds rs false = ad8 k raw H ds rs := (rfl)
@[go_sem] theorem YR (k raw : Nat) (ds : List D) : finish k (raw + 1) H ds = abi k (raw + 1) H ds ds := by
 simp only[finish,Nat.add_one_ne_zero,if_false,Option.bind_some,oc,Dv,abi,YA]
 show(if(ie k 8 ds&&gK k (H.take k))=true then _ else _)=_
 cases (ie k 8 ds&&gK k (H.take k))<;>rfl
@[go_sem] theorem Vj (raw : Nat) (ds : List D) : ik H (raw + 1) ds = [] := by simp [ik]
@[go_sem] theorem aeo : max 0 1 = 1 := (rfl)
@[go_sem] theorem agK (r : Nat) : max (r + 1) 1 = r + 1 := by omega
@[go_sem] theorem YS : List.range 0 = [] := (rfl)
end
theorem QR{α:Type}(f:α→T)(l:List α)(i:Nat)(x:α)(y:D)(h:y= .t (f x)):((l.map f).map D.t).set i y=((l.set i x).map f).map D.t:=by
 rw[h,List.map_map,List.map_map]
 exact(List.map_set (f:=D.t ∘ f)).symm
@[go_sem] theorem agL (l : List Int) (i : Nat) (k : IntKind) (x : Int) : ((l.map (T.int k)).map D.t).set i (.t (.int k x)) = ((l.set i x).map (T.int k)).map D.t := QR _ l i x _ rfl
end Go.Ev
namespace Go.Ev
class Lib where
 fs:Nat→Option Fn
end Go.Ev
namespace Go.Ev.K
abbrev u(x:O):R:={ o:=x}
abbrev w(n:Nat)(x:O):R:={ o:=x,d:=some n}
abbrev y(n:Nat)(b:Bool)(x:O):R:={ o:=x,g:=some (n,b)}
abbrev m(x:X):R:={ o:= .mv x}
abbrev g(x:X):R:={ o:= .ld x 1 false}
abbrev h(n:Nat)(x:X):R:={ o:= .ld x n true}
abbrev f(n:Nat)(x:X):R:={ o:= .fa x n}
abbrev a(n:Nat)(x z:X):R:={ o:= .ia x z n}
abbrev l0:X:= .l 0
abbrev l1:X:= .l 1
abbrev l2:X:= .l 2
abbrev l3:X:= .l 3
abbrev l4:X:= .l 4
abbrev l5:X:= .l 5
abbrev l6:X:= .l 6
abbrev l7:X:= .l 7
abbrev l8:X:= .l 8
abbrev l9:X:= .l 9
abbrev l10:X:= .l 10
abbrev l11:X:= .l 11
abbrev v0:X:= .v 0
abbrev v1:X:= .v 1
abbrev v2:X:= .v 2
abbrev v3:X:= .v 3
abbrev v4:X:= .v 4
abbrev v5:X:= .v 5
abbrev v6:X:= .v 6
abbrev v7:X:= .v 7
abbrev v8:X:= .v 8
abbrev v9:X:= .v 9
abbrev v10:X:= .v 10
abbrev v11:X:= .v 11
abbrev v12:X:= .v 12
abbrev v13:X:= .v 13
abbrev v14:X:= .v 14
abbrev v15:X:= .v 15
abbrev v16:X:= .v 16
abbrev v17:X:= .v 17
abbrev v18:X:= .v 18
abbrev v19:X:= .v 19
abbrev v20:X:= .v 20
abbrev v21:X:= .v 21
abbrev v22:X:= .v 22
abbrev v23:X:= .v 23
end Go.Ev.K
namespace Go.Ev.N
def HO:Nat:=0
def i6:Nat:=1
def Vk:Nat:=2
def ka:Nat:=3
def cL:Nat:=4
def YT:Nat:=5
def L7:Nat:=6
def Nw:Nat:=7
def cn:Nat:=8
def aB:Nat:=9
def dC:Nat:=10
def KK:Nat:=11
def fH:Nat:=12
def dK:Nat:=13
def Nx:Nat:=14
def dP:Nat:=15
def b8:Nat:=16
def Vl:Nat:=17
def SK:Nat:=18
def dy:Nat:=19
def bB:Nat:=20
def ir:Nat:=21
def ef:Nat:=22
def kr:Nat:=23
def SL:Nat:=24
def Ny:Nat:=25
def PH:Nat:=26
def dL:Nat:=27
def cX:Nat:=28
def Vm:Nat:=29
def jF:Nat:=30
def Vn:Nat:=31
def YU:Nat:=32
def Vo:Nat:=33
def SM:Nat:=34
def eR:Nat:=35
def eu:Nat:=36
def ew:Nat:=37
def cH:Nat:=38
def bC:Nat:=39
def i7:Nat:=40
def ez:Nat:=41
def fW:Nat:=42
def eB:Nat:=43
def cZ:Nat:=44
def iX:Nat:=45
def c7:Nat:=46
def bZ:Nat:=47
def PI:Nat:=48
def az:Nat:=49
def KL:Nat:=50
def aO:Nat:=51
def L8:Nat:=52
def dM:Nat:=53
def iu:Nat:=54
def YV:Nat:=55
def dD:Nat:=56
def gn:Nat:=57
def dQ:Nat:=58
def iv:Nat:=59
def fq:Nat:=60
def cz:Nat:=61
def bI:Nat:=62
def iw:Nat:=63
def cI:Nat:=64
def ft:Nat:=65
def bk:Nat:=66
def bN:Nat:=67
def bX:Nat:=68
def aq:Nat:=69
def bu:Nat:=70
def fg:Nat:=71
def eC:Nat:=72
def dz:Nat:=73
def fX:Nat:=74
def aF:Nat:=75
def cg:Nat:=76
def i9:Nat:=77
end Go.Ev.N
namespace Go.Ev.K
open Go.Ev
def i6:Fn:={ nargs:=1,vars:=[0,2],body:=(.seq (.reg [w 1 (.mv (.b false))] []) (.seq (.reg [m v0,u (.ln l0),u (.bin .leq l0 (.i 400)),w 1 (.mv l0)] []) .ret)),res:=[(1,none)]}
def ka:Fn:={ nargs:=1,vars:=[0,2],body:=(.seq (.reg [w 1 (.mv (.c (.nilp)))] []) (.seq (.reg [m v0,u (.bd [.nil,.t (.int .i64 (0))] [(0,1,.l 0)]),u (.bx l0 2),w 1 (.mv l0)] []) .ret)),res:=[(1,none)]}
def jt:C:=(.seq (.ite [m v4,m v3,u (.bin .lss l1 l0)] [] 0 .skip (.exit 0)) (.seq (.blk 1 (.reg [f 0 v2,g l0,m v0,u (.ca N.aB 0 [] [.l 0,.i 4]),u (.bin .mul (.i (-10)) l0),m v4,u (.bin .eql l0 (.i 0)),m l0,y 0 false (.mv v0),y 1 false (.ca N.dP 0 [] [.l 0,.i 6]),u (.pk l2 (.b true) l0),u (.bd [.t (.int .i64 (0)),.t (.bool false)] [(0,1,.l 6),(1,1,.l 0)]),u (.bs [.l 0] 2),u (.app l11 l0 true 2),f 0 v2,u (.st l0 l1 1 [])] [(1,4),(1,10),(1,13)])) (.reg [m v4,u (.bin .add l0 (.i 1)),w 4 (.mv l0)] [])))
def qj:C:= .loop true [5,6,7,8,9] K.jt
def lB:C:=(.seq (.ite [m v6,m v3,u (.bin .lss l1 l0)] [] 0 .skip (.exit 2)) (.seq (.blk 3 (.seq (.reg [h 10 v5,w 7 (.al [.t (.int .i64 (0)),.t (.int .i64 (0)),.t (.int .i64 (0)),.t (.int .i64 (0)),.t (.bool false),.t (.bool false),.t (.int .i64 (0)),.t (.int .i64 (0)),.t (.int .i64 (0)),.t (.int .i64 (0))] []),u (.st l0 l1 10 [])] []) (.seq (.reg [m v6,u (.bin .sub l0 (.i 1)),m v0,m v6,u (.mn [.l 0,.i 2]),u (.ca N.aB 0 [] [.l 2,.l 0]),u (.bin .sub l4 l0),m v6,m v0,u (.bs [.i 11,.i 59,.i 119,.i 4] 1),u (.ca N.dC 0 [] [.l 1,.l 0]),u (.bin .add (.i 1) l0),m v0,u (.bs [.i 9,.i 3,.i 19] 1),u (.ca N.dC 0 [] [.l 1,.l 0]),u (.bin .add (.i 1) l0),f 0 v7,u (.st l0 l10 1 []),f 1 v7,u (.st l0 l11 1 []),f 2 v7,u (.st l0 l9 1 []),f 3 v7,u (.st l0 l7 1 [])] []) (.reg [f 1 v2,g l0,h 10 v7,u (.bs [.l 0] 10),u (.app l2 l0 true 10),f 1 v2,u (.st l0 l1 1 [])] [])))) (.reg [m v6,u (.bin .add l0 (.i 1)),w 6 (.mv l0)] [])))
def qk:C:= .loop true [4,7,8,9] K.lB
def dR:C:=(.seq (.ite [m v8,u (.bin .gtr l0 (.i 0)),m l0,y 0 true (.fa v2 1),y 1 true (.ld l0 1 false),y 2 true (.ln l0),y 3 true (.bin .lss l0 (.i 10)),u (.pk l4 l0 (.b false))] [] 0 .skip (.exit 4)) (.seq (.blk 5 (.seq (.reg [h 10 v5,w 9 (.al [.t (.int .i64 (0)),.t (.int .i64 (0)),.t (.int .i64 (0)),.t (.int .i64 (0)),.t (.bool false),.t (.bool false),.t (.int .i64 (0)),.t (.int .i64 (0)),.t (.int .i64 (0)),.t (.int .i64 (0))] []),u (.st l0 l1 10 [])] []) (.seq (.reg [m v0,m v3,u (.ca N.aB 0 [] [.l 1,.l 0]),m v0,m v3,u (.ca N.aB 0 [] [.l 1,.l 0]),m v0,u (.bs [.i 11,.i 59,.i 199] 1),u (.ca N.dC 0 [] [.l 1,.l 0]),u (.bin .add (.i 1) l0),m v0,u (.bs [.i 9,.i 3] 1),u (.ca N.dC 0 [] [.l 1,.l 0]),u (.bin .add (.i 1) l0),f 0 v9,u (.st l0 (.l 12) 1 []),f 1 v9,u (.st l0 l11 1 []),f 2 v9,u (.st l0 l9 1 []),f 3 v9,u (.st l0 l7 1 [])] []) (.seq (.reg [m v0,u (.ca N.aB 0 [] [.l 0,.i 5]),u (.bin .gtr l0 (.i 0)),m v0,u (.ca N.dP 0 [] [.l 0,.i 6]),f 4 v9,u (.st l0 l3 1 []),f 5 v9,u (.st l0 l3 1 [])] []) (.ite [f 0 v9,g l0,f 1 v9,g l0,u (.bin .neq l2 l0)] [] 0 (.reg [f 1 v2,g l0,h 10 v9,u (.bs [.l 0] 10),u (.app l2 l0 true 10),f 1 v2,u (.st l0 l1 1 [])] []) .skip))))) (.reg [m v8,u (.bin .sub l0 (.i 1)),w 8 (.mv l0)] [])))
def ql:C:= .loop true [4,6,7,9] K.dR
def cL:Fn:={ nargs:=1,vars:=[0,2,3,4,5,6,7,8,9,10],body:=(.seq (.reg [w 1 (.al [.nil,.nil] [])] []) (.seq (.reg [w 2 (.al [.nil,.nil] [(0,2),(1,10)])] []) (.seq (.reg [m v0,u (.ca N.aB 0 [] [.l 0,.i 6]),u (.bin .add (.i 2) l0),w 3 (.mv l0)] []) (.seq (.ite [m v0,u (.nc l0),f 0 l0,g l0,u (.ln l0),u (.bin .eql l0 (.i 0))] [] 0 (.reg [w 3 (.mv (.i 4))] []) .skip) (.seq (.seq (.reg [w 4 (.mv (.i 0))] []) (.blk 0 K.qj)) (.seq (.reg [u (.bd [.t (.int .i64 (0)),.t (.int .i64 (0))] [(0,1,.i 1),(1,1,.i 1)]),u (.bd [.t (.int .i64 (0)),.t (.int .i64 (0)),.t (.int .i64 (0)),.t (.int .i64 (0)),.t (.bool false),.t (.bool false),.t (.int .i64 (0)),.t (.int .i64 (0)),.t (.int .i64 (0)),.t (.int .i64 (0))] [(2,1,.i 12),(3,1,.i 10),(4,1,.b true),(6,2,.l 0)]),w 5 (.al [.t (.int .i64 (0)),.t (.int .i64 (0)),.t (.int .i64 (0)),.t (.int .i64 (0)),.t (.bool false),.t (.bool false),.t (.int .i64 (0)),.t (.int .i64 (0)),.t (.int .i64 (0)),.t (.int .i64 (0))] []),u (.st l0 l1 10 [])] []) (.seq (.seq (.reg [w 6 (.mv (.i 1))] []) (.blk 2 K.qk)) (.seq (.seq (.reg [m v0,u (.ca N.aB 0 [] [.l 0,.i 4]),w 8 (.mv l0)] []) (.blk 4 K.ql)) (.seq (.reg [h 2 v2,u (.st v1 l0 2 [])] []) .ret))))))))),res:=[(1,some (2,true))]}
def jY:C:=(.seq (.ite [m v7,m v4,u (.bin .lss l1 l0)] [] 0 .skip (.exit 0)) (.seq (.blk 1 (.reg [m v5,m v7,u (.bin .mul l0 (.i 2)),u (.bin .add (.i 3) l0),u (.bs [.l 0] 1),u (.app l4 l0 true 1),m v6,m v0,f 0 v2,g l0,u (.ln l0),u (.ca N.aB 0 [] [.l 3,.l 0]),u (.bs [.l 0] 1),u (.app l6 l0 true 1),w 5 (.mv l8),w 6 (.mv l1)] [(9,0),(9,5)])) (.reg [m v7,u (.bin .add l0 (.i 1)),w 7 (.mv l0)] [])))
def ou:C:= .loop true [1,8,9,10,11,12,13,14,15,16,17] K.jY
def bF:C:=(.seq (.ite [m v10,u (.bin .gtr l0 (.i 0))] [] 0 .skip (.exit 2)) (.seq (.blk 3 (.seq (.reg [m v9,m v0,u (.ca N.aB 0 [] [.l 0,.i 60]),u (.bin .add l2 l0),w 9 (.mv l0)] []) (.seq (.reg [m v0,w 17 (.ca N.aB 0 [] [.l 0,.i 3])] []) (.blk 4 (.ite [u (.bin .eql v17 (.i 0)),m l0] [] 0 (.seq (.reg [w 11 (.al [.nil] []),h 2 v2,h 1 v8,m v0,m v4,u (.ca N.aB 0 [] [.l 1,.l 0]),m v0,m v4,u (.ca N.aB 0 [] [.l 1,.l 0]),m v9,u (.ca N.bB 0 [] [.l 8,.l 7,.l 4,.l 1,.l 0]),m l0,u (.ex l0 0),u (.ex l1 1),u (.st (.l 13) l1 1 []),w 12 (.mv l1)] [(0,6),(0,9),(0,11),(1,6),(1,9),(2,6),(2,9)]) (.ite [m v12,u (.bin .eql l0 (.i 0))] [] 0 (.reg [h 1 v11,u (.st v8 l0 1 [])] []) .skip)) (.ite [u (.bin .eql v17 (.i 1)),m l0] [] 0 (.seq (.reg [w 13 (.al [.nil] []),h 2 v2,h 1 v8,m v0,m v4,u (.ca N.aB 0 [] [.l 1,.l 0]),u (.bin .mul (.i 2) l0),u (.bin .add (.i 3) l0),m v0,f 0 v2,g l0,u (.ln l0),u (.ca N.b8 0 [] [.l 3,.l 0]),m v9,m v9,m v0,u (.ca N.aB 0 [] [.l 0,.i 9]),u (.bin .add l2 l0),u (.ca N.ir 0 [] [.l 16,.l 15,.l 10,.l 5,.l 4,.l 0]),m l0,u (.ex l0 0),u (.ex l1 1),u (.st (.l 21) l1 1 []),w 14 (.mv l1)] [(0,6),(0,13),(0,17),(0,19),(1,6),(1,13),(1,17),(2,6),(2,13),(2,17),(10,1)]) (.ite [m v14,u (.bin .eql l0 (.i 0))] [] 0 (.reg [h 1 v13,u (.st v8 l0 1 [])] []) .skip)) (.seq (.reg [w 15 (.al [.nil] []),h 2 v2,h 1 v8,m v0,m v4,u (.ca N.aB 0 [] [.l 1,.l 0]),u (.bin .mul (.i 2) l0),u (.bin .add (.i 3) l0),m v0,f 0 v2,g l0,u (.ln l0),u (.ca N.b8 0 [] [.l 3,.l 0]),m v9,m v9,u (.bin .add l0 (.i 50)),m v0,u (.ca N.aB 0 [] [.l 0,.i 40]),u (.ca N.ef 0 [3] [.l 16,.l 15,.l 10,.l 5,.l 4,.l 2,.l 0]),m l0,u (.ex l0 0),u (.ex l1 1),u (.st (.l 21) l1 1 []),w 16 (.mv l1)] [(0,6),(0,13),(0,18),(0,19),(1,6),(1,13),(1,18),(2,6),(2,13),(2,18),(10,1)]) (.ite [m v16,u (.bin .eql l0 (.i 0))] [] 0 (.reg [h 1 v15,u (.st v8 l0 1 [])] []) .skip)))))))) (.reg [m v10,u (.bin .sub l0 (.i 1)),w 10 (.mv l0)] [])))
def ov:C:= .loop true [1,5,6,7,11,12,13,14,15,16,17] K.bF
def cn:Fn:={ nargs:=2,vars:=[0,1,3,4,5,6,7,8,9,11,12,13,14,15,16,17,18,61],body:=(.seq (.reg [w 2 (.bx v1 2),w 3 (.al [.nil] [])] []) (.seq (.reg [m v0,u (.ca N.aB 0 [] [.l 0,.i 3]),u (.bin .add (.i 1) l0),w 4 (.mv l0)] []) (.seq (.reg [w 5 (.nw 1),w 6 (.nw 1)] []) (.seq (.seq (.reg [w 7 (.mv (.i 0))] []) (.blk 0 K.ou)) (.seq (.reg [w 8 (.al [.nil] []),h 2 v2,m v5,m v6,m v0,u (.ca N.aB 0 [] [.l 0,.i 100]),u (.ca N.dy 0 [] [.l 4,.l 3,.l 2,.l 0]),m l0,u (.ex l0 0),u (.ex l1 1),u (.st l9 l1 1 []),m l1] [(0,6),(0,7),(1,6)]) (.seq (.reg [w 9 (.mv (.i 100))] []) (.seq (.seq (.reg [m v0,u (.ca N.aB 0 [] [.l 0,.i 5]),w 10 (.mv l0)] []) (.blk 2 K.ov)) (.seq (.reg [h 1 v8,u (.st v3 l0 1 [])] []) .ret)))))))),res:=[(3,some (1,true))]}
def aB:Fn:={ nargs:=2,vars:=[0,1,4],body:=(.seq (.reg [w 2 (.mv (.i 0))] []) (.seq (.ite [m v0,u (.nc l0),f 1 l0,g l0,m v0,u (.nc l0),f 0 l0,g l0,u (.ln l0),u (.bin .geq l5 l0)] [] 0 (.seq (.reg [w 2 (.mv (.i 0))] []) .ret) .skip) (.seq (.reg [m v0,u (.nc l0),f 1 l0,g l0,u (.bin .add l0 (.i 1)),u (.nc l4),f 1 l0,u (.st l0 l2 1 [])] []) (.seq (.reg [m v0,u (.nc l0),f 0 l0,g l0,m v0,u (.nc l0),f 1 l0,g l0,u (.bin .sub l0 (.i 1)),a 1 l5 l0,g l0,m v1,u (.ca N.kr 0 [] [.l 1,.l 0]),w 2 (.mv l0)] []) .ret)))),res:=[(2,none)]}
def dC:Fn:={ nargs:=2,vars:=[0,1,4],body:=(.seq (.reg [w 2 (.mv (.i 0))] []) (.seq (.reg [m v1,m v0,m v1,u (.ln l0),u (.ca N.aB 0 [] [.l 2,.l 0]),a 1 l4 l0,g l0,w 2 (.mv l0)] []) .ret)),res:=[(2,none)]}
def nW:C:=(.seq (.ite [m v3,m v0,u (.ln l0),u (.bin .lss l2 l0)] [] 0 .skip (.exit 0)) (.seq (.blk 1 (.ite [m v0,m v3,a 1 l1 l0,g l0,m v1,u (.bin .eql l1 l0)] [] 0 (.seq (.reg [w 2 (.mv (.b true))] []) .ret) .skip)) (.reg [m v3,u (.bin .add l0 (.i 1)),w 3 (.mv l0)] [])))
def zc:C:= .loop true [2] K.nW
def fH:Fn:={ nargs:=2,vars:=[0,1,4,5],body:=(.seq (.reg [w 2 (.mv (.b false))] []) (.seq (.seq (.reg [w 3 (.mv (.i 0))] []) (.blk 0 K.zc)) (.seq (.reg [w 2 (.mv (.b false))] []) .ret))),res:=[(2,none)]}
def fh:C:=(.seq (.ite [m v7,f 0 v3,g l0,u (.ln l0),u (.bin .lss l3 l0)] [] 0 .skip (.exit 2)) (.seq (.blk 3 (.ite [m v1,u (.bin .geq l0 (.i 0)),m l0,y 0 true (.mv v1),y 1 true (.fa v3 0),y 2 true (.ld l0 1 false),y 3 true (.mv v7),y 4 true (.ia l1 l0 2),y 5 true (.fa l0 1),y 6 true (.ld l0 1 false),y 7 true (.ln l0),y 8 true (.bin .lss l7 l0),u (.pk l9 l0 (.b false)),m l0,y 0 true (.fa v3 0),y 1 true (.ld l0 1 false),y 2 true (.mv v7),y 3 true (.ia l1 l0 2),y 4 true (.fa l0 1),y 5 true (.ld l0 1 false),y 6 true (.mv v1),y 7 true (.ia l1 l0 2),y 8 true (.ld l0 2 true),y 9 true (.mv v2),y 10 true (.ca N.dL 0 [] [.l 1,.l 0]),y 11 true (.mv v6),y 12 true (.ca N.fH 0 [] [.l 1,.l 0]),u (.pk (.l 13) l0 (.b false))] [] 0 (.seq (.reg [m v5,m v6,u (.bs [.l 0] 1),u (.app l2 l0 true 1),w 5 (.mv l0)] []) (.exit 2)) .skip)) (.reg [m v7,u (.bin .add l0 (.i 1)),w 7 (.mv l0)] [])))
def qm:C:= .loop true [0,4] K.fh
def ju:C:=(.seq (.ite [m v6,u (.bin .lss l0 (.i 64))] [] 0 .skip (.exit 0)) (.seq (.blk 1 (.seq (.reg [w 7 (.mv (.i 0))] []) (.blk 2 K.qm))) (.reg [m v6,u (.bin .add l0 (.i 1)),w 6 (.mv l0)] [])))
def qn:C:= .loop true [0,4,7] K.ju
def dK:Fn:={ nargs:=3,vars:=[0,1,2,3,6,7,8,9],body:=(.seq (.reg [w 3 (.bx v0 1),w 4 (.mv (.c (.nil)))] []) (.seq (.reg [w 5 (.nw 1)] []) (.seq (.seq (.reg [w 6 (.mv (.i 0))] []) (.blk 0 K.qn)) (.seq (.reg [m v5,w 4 (.mv l0)] []) .ret)))),res:=[(4,none)]}
def dP:Fn:={ nargs:=2,vars:=[0,1,4],body:=(.seq (.reg [w 2 (.mv (.b false))] []) (.seq (.reg [m v0,m v1,u (.ca N.aB 0 [] [.l 1,.l 0]),m v1,u (.bin .sub l0 (.i 1)),u (.bin .eql l2 l0),w 2 (.mv l0)] []) .ret)),res:=[(2,none)]}
def jv:C:=(.seq (.ite [m v4,m v1,u (.bin .lss l1 l0)] [] 0 .skip (.exit 0)) (.seq (.blk 1 (.ite [m v0,u (.ca N.aB 0 [] [.l 0,.i 3]),u (.bin .eql l0 (.i 0))] [] 0 (.reg [m v3,m v4,u (.bs [.l 0] 1),u (.app l2 l0 true 1),w 3 (.mv l0)] []) .skip)) (.reg [m v4,u (.bin .add l0 (.i 1)),w 4 (.mv l0)] [])))
def qo:C:= .loop true [2] K.jv
def b8:Fn:={ nargs:=2,vars:=[0,1,4,5,6],body:=(.seq (.reg [w 2 (.mv (.c (.nil)))] []) (.seq (.reg [w 3 (.nw 1)] []) (.seq (.seq (.reg [w 4 (.mv (.i 0))] []) (.blk 0 K.qo)) (.seq (.reg [m v3,w 2 (.mv l0)] []) .ret)))),res:=[(2,none)]}
def lC:C:=(.seq (.ite [m v8,m v1,u (.ln l0),u (.bin .lss l2 l0)] [] 0 .skip (.exit 0)) (.seq (.blk 1 (.seq (.reg [w 9 (.al [.t (.int .i64 (0)),.nil] []),h 2 v4,m v2,m v8,a 1 l1 l0,g l0,m v3,u (.ca N.eu 0 [] [.l 5,.l 1,.l 0]),m l0,u (.ex l0 0),u (.ex l1 1),u (.st l10 l1 2 []),w 10 (.mv l1)] [(0,8)]) (.seq (.ite [m v10,u (.bin .neq l0 (.i 0))] [] 0 (.seq (.reg [u (.bd [.nil] []),m v10,u (.st v5 l1 1 []),w 6 (.mv l1)] []) .ret) .skip) (.reg [f 1 v7,g l0,h 2 v9,u (.bs [.l 0] 2),u (.app l2 l0 true 2),f 1 v7,u (.st l0 l1 1 [])] [])))) (.reg [m v8,u (.bin .add l0 (.i 1)),w 8 (.mv l0)] [])))
def uT:C:= .loop true [0,6,9,10] K.lC
def dy:Fn:={ nargs:=4,vars:=[0,1,2,3,4,8,9,10,11,12,13],body:=(.seq (.reg [w 4 (.bx v0 2),w 5 (.al [.nil] []),w 6 (.mv (.i 0))] []) (.seq (.ite [h 2 v4,u (.ca N.cX 0 [] [.l 0]),u (.bin .neq l0 (.i 0)),m l0,y 0 false (.mv v1),y 1 false (.ln l0),y 2 false (.mv v2),y 3 false (.ln l0),y 4 false (.bin .neq l2 l0),u (.pk l5 (.b true) l0),m l0,y 0 false (.mv v1),y 1 false (.ln l0),y 2 false (.bin .lss l0 (.i 1)),u (.pk l3 (.b true) l0),m l0,y 0 false (.mv v1),y 1 false (.ln l0),y 2 false (.bin .gtr l0 (.i 12)),u (.pk l3 (.b true) l0)] [] 0 (.seq (.reg [u (.bd [.nil] []),u (.st v5 l0 1 []),w 6 (.mv (.i 6))] []) .ret) .skip) (.seq (.ite [m v1,u (.ca N.eR 0 [] [.l 0]),u (.un .not l0)] [] 0 (.seq (.reg [u (.bd [.nil] []),u (.st v5 l0 1 []),w 6 (.mv (.i 41))] []) .ret) .skip) (.seq (.reg [m v1,u (.app (.c (.nil)) l0 true 1),u (.bd [.nil,.nil] [(0,1,.l 0)]),w 7 (.al [.nil,.nil] [(1,2)]),u (.st l0 l1 2 [(1,2)])] []) (.seq (.seq (.reg [w 8 (.mv (.i 0))] []) (.blk 0 K.uT)) (.seq (.reg [h 2 v7,u (.bs [.l 0] 2),u (.bd [.nil] [(0,1,.l 0)]),u (.st v5 l0 1 []),w 6 (.mv (.i 0))] []) .ret)))))),res:=[(5,some (1,true)),(6,none)]}
def gS:C:=(.seq (.ite [m v11,f 0 v6,g l0,u (.ln l0),u (.bin .lss l3 l0)] [] 0 .skip (.exit 0)) (.seq (.blk 1 (.seq (.reg [f 0 v6,g l0,m v11,a 2 l1 l0,h 2 l0,u (.ca N.bC 1 [] [.l 0]),w 12 (.al [.nil,.nil] []),u (.st l0 l1 2 [])] []) (.seq (.ite [f 1 v12,g l0,m v2,a 2 l1 l0,h 2 l0,f 1 v12,g l0,m v3,a 2 l1 l0,h 2 l0,m v4,u (.ca N.i7 0 [] [.l 6,.l 1,.l 0]),u (.un .not l0)] [] 0 (.exit 1) .skip) (.seq (.reg [f 0 v12,g l0,m v2,f 0 v12,g l0,m v3,f 0 v12,g l0,m v3,a 1 l1 l0,g l0,f 0 v12,g l0,m v2,a 1 l1 l0,g l0,a 1 (.l 14) (.l 13),u (.st l0 l6 1 []),a 1 (.l 13) (.l 12),u (.st l0 l3 1 [])] [(4,18)]) (.seq (.reg [f 1 v12,g l0,m v2,f 1 v12,g l0,m v2,a 2 l1 l0,h 2 l0,m v4,u (.ca N.ez 0 [] [.l 1,.l 0]),m l0,u (.ex l0 0),u (.ex l1 1),a 2 l11 l10,u (.st l0 l2 2 [])] [(1,10)]) (.seq (.reg [f 1 v12,g l0,m v3,f 1 v12,g l0,m v3,a 2 l1 l0,h 2 l0,m v4,u (.ca N.ez 0 [] [.l 1,.l 0]),m l0,u (.ex l0 0),u (.ex l1 1),a 2 l11 l10,u (.st l0 l2 2 [])] [(1,10)]) (.reg [m v10,h 2 v12,u (.bs [.l 0] 2),u (.app l2 l0 true 2),w 10 (.mv l0)] []))))))) (.reg [m v11,u (.bin .add l0 (.i 1)),w 11 (.mv l0)] [])))
def qp:C:= .loop true [0,1,5,8,9,12] K.gS
def bB:Fn:={ nargs:=5,vars:=[0,1,2,3,4,5,6,10,11,12,13,14,15],body:=(.seq (.reg [w 5 (.bx v0 2),w 6 (.bx v1 1),w 7 (.al [.nil] []),w 8 (.mv (.i 0))] []) (.seq (.reg [h 1 v6,u (.ca N.ew 0 [] [.l 0]),u (.st v6 l0 1 [])] []) (.seq (.ite [h 2 v5,h 1 v6,u (.ca N.cH 0 [] [.l 1,.l 0]),u (.un .not l0)] [] 0 (.seq (.reg [h 1 v6,u (.st v7 l0 1 []),w 8 (.mv (.i 6))] []) .ret) .skip) (.seq (.reg [f 0 v6,g l0,a 2 l0 (.i 0),f 0 l0,g l0,u (.ln l0),w 9 (.mv l0)] []) (.seq (.ite [m v2,u (.bin .lss l0 (.i 0)),m l0,y 0 false (.mv v2),y 1 false (.mv v9),y 2 false (.bin .geq l1 l0),u (.pk l3 (.b true) l0),m l0,y 0 false (.mv v3),y 1 false (.bin .lss l0 (.i 0)),u (.pk l2 (.b true) l0),m l0,y 0 false (.mv v3),y 1 false (.mv v9),y 2 false (.bin .geq l1 l0),u (.pk l3 (.b true) l0),m l0,y 0 false (.mv v2),y 1 false (.mv v3),y 2 false (.bin .eql l1 l0),u (.pk l3 (.b true) l0)] [] 0 (.seq (.reg [h 1 v6,u (.st v7 l0 1 []),w 8 (.mv (.i 19))] []) .ret) .skip) (.seq (.ite [m v4,u (.bin .lss l0 (.i 0)),m l0,y 0 false (.mv v4),y 1 false (.bin .gtr l0 (.i 2147483648)),u (.pk l2 (.b true) l0)] [] 0 (.seq (.reg [h 1 v6,u (.st v7 l0 1 []),w 8 (.mv (.i 8))] []) .ret) .skip) (.seq (.reg [h 1 v6,u (.ca N.ew 1 [] [.l 0]),u (.fl l0 0 1 false),w 10 (.mv l0)] []) (.seq (.seq (.reg [w 11 (.mv (.i 0))] []) (.blk 0 K.qp)) (.seq (.reg [m v10,u (.ca N.fW 1 [] [.l 0]),w 10 (.mv l0)] []) (.seq (.ite [m v10,u (.ln l0),u (.bin .gtr l0 (.i 24))] [] 0 (.seq (.reg [h 1 v6,u (.st v7 l0 1 []),w 8 (.mv (.i 44))] []) .ret) .skip) (.seq (.reg [m v10,u (.bd [.nil] [(0,1,.l 0)]),u (.st v7 l0 1 []),w 8 (.mv (.i 0))] []) .ret))))))))))),res:=[(7,some (1,true)),(8,none)]}
def eM:C:=(.seq (.ite [m v12,f 0 v7,g l0,u (.ln l0),u (.bin .lss l3 l0)] [] 0 .skip (.exit 0)) (.seq (.blk 1 (.seq (.reg [f 0 v7,g l0,m v12,a 2 l1 l0,h 2 l0,u (.ca N.bC 1 [] [.l 0]),w 13 (.al [.nil,.nil] []),u (.st l0 l1 2 [])] []) (.seq (.reg [f 0 v13,g l0,m v2,u (.ca N.cZ 0 [] [.l 1,.l 0]),w 14 (.mv l0)] []) (.seq (.reg [w 15 (.al [.t (.int .i64 (0)),.nil] []),h 2 v6,f 1 v13,g l0,m v14,a 2 l1 l0,h 2 l0,m v3,m v4,m v5,u (.ca N.iX 0 [] [.l 8,.l 3,.l 2,.l 1,.l 0]),m l0,u (.ex l0 0),u (.ex l1 1),u (.st (.l 13) l1 2 []),w 16 (.mv l1)] [(0,11)]) (.seq (.seq (.reg [w 17 (.mv v16)] []) (.blk 2 (.seq (.seq (.reg [u (.bin .eql v17 (.i 6)),w 18 (.mv l0)] []) (.itv 18 .skip (.reg [u (.bin .eql v17 (.i 8)),w 18 (.mv l0)] []))) (.itv 18 (.seq (.reg [h 1 v7,m v16,u (.st v8 l1 1 []),w 9 (.mv l1)] []) .ret) (.ite [u (.bin .eql v17 (.i 43)),m l0] [] 0 (.exit 1) (.ite [u (.bin .eql v17 (.i 0)),m l0] [] 0 (.reg [f 1 v13,g l0,m v14,h 2 v15,a 2 l2 l1,u (.st l0 l1 2 [])] []) .skip)))))) (.reg [f 0 v11,g l0,h 2 v13,u (.bs [.l 0] 2),u (.app l2 l0 true 2),f 0 v11,u (.st l0 l1 1 [])] [])))))) (.reg [m v12,u (.bin .add l0 (.i 1)),w 12 (.mv l0)] [])))
def sX:C:= .loop true [0,1,9,10,13,14,15,16,17,18] K.eM
def ir:Fn:={ nargs:=6,vars:=[0,1,2,3,4,5,6,7,12,13,14,15,16,17,18,19,20,61,62],body:=(.seq (.reg [w 6 (.bx v0 2),w 7 (.bx v1 1),w 8 (.al [.nil] []),w 9 (.mv (.i 0))] []) (.seq (.reg [h 1 v7,u (.ca N.ew 0 [] [.l 0]),u (.st v7 l0 1 [])] []) (.seq (.seq (.reg [h 2 v6,h 1 v7,m v2,u (.ca N.eB 0 [] [.l 2,.l 1,.l 0]),w 10 (.mv l0)] []) (.ite [m v10,u (.bin .neq l0 (.i 0))] [] 0 (.seq (.reg [h 1 v7,m v10,u (.st v8 l1 1 []),w 9 (.mv l1)] []) .ret) .skip)) (.seq (.reg [w 11 (.al [.nil] [(0,2)])] []) (.seq (.seq (.reg [w 12 (.mv (.i 0))] []) (.blk 0 K.sX)) (.seq (.ite [f 0 v11,g l0,u (.ln l0),u (.bin .eql l0 (.i 0))] [] 0 (.seq (.reg [h 1 v7,u (.st v8 l0 1 []),w 9 (.mv (.i 43))] []) .ret) .skip) (.seq (.reg [h 1 v11,u (.st v8 l0 1 []),w 9 (.mv (.i 0))] []) .ret))))))),res:=[(8,some (1,true)),(9,none)]}
def dn:C:=(.seq (.ite [m v13,f 0 v8,g l0,u (.ln l0),u (.bin .lss l3 l0)] [] 0 .skip (.exit 0)) (.seq (.blk 1 (.seq (.reg [f 0 v8,g l0,m v13,a 2 l1 l0,h 2 l0,u (.ca N.bC 1 [] [.l 0]),w 14 (.al [.nil,.nil] []),u (.st l0 l1 2 [])] []) (.seq (.reg [f 0 v14,g l0,m v2,u (.ca N.cZ 0 [] [.l 1,.l 0]),w 15 (.mv l0)] []) (.seq (.reg [w 16 (.al [.t (.int .i64 (0)),.nil] []),h 2 v7,f 1 v14,g l0,m v15,a 2 l1 l0,h 2 l0,m v3,m v4,m v5,m v6,u (.ca N.c7 0 [2] [.l 9,.l 4,.l 3,.l 2,.l 1,.l 0]),m l0,u (.ex l0 0),u (.ex l1 1),u (.st (.l 14) l1 2 []),w 17 (.mv l1)] [(0,12)]) (.seq (.ite [m v17,u (.bin .eql l0 (.i 6)),m l0,y 0 false (.mv v17),y 1 false (.bin .eql l0 (.i 8)),u (.pk l2 (.b true) l0)] [] 0 (.seq (.reg [h 1 v8,m v17,u (.st v9 l1 1 []),w 10 (.mv l1)] []) .ret) .skip) (.seq (.ite [m v17,u (.bin .eql l0 (.i 0))] [] 0 (.reg [f 1 v14,g l0,m v15,h 2 v16,a 2 l2 l1,u (.st l0 l1 2 [])] []) .skip) (.reg [f 0 v12,g l0,h 2 v14,u (.bs [.l 0] 2),u (.app l2 l0 true 2),f 0 v12,u (.st l0 l1 1 [])] []))))))) (.reg [m v13,u (.bin .add l0 (.i 1)),w 13 (.mv l0)] [])))
def ow:C:= .loop true [0,1,10,11,14,15,16,17] K.dn
def ef:Fn:={ nargs:=7,vars:=[0,1,2,3,4,5,6,7,8,14,15,16,17,18,19,20,21,22],body:=(.seq (.reg [w 7 (.bx v0 2),w 8 (.bx v1 1),w 9 (.al [.nil] []),w 10 (.mv (.i 0))] []) (.seq (.reg [h 1 v8,u (.ca N.ew 0 [] [.l 0]),u (.st v8 l0 1 [])] []) (.seq (.seq (.reg [h 2 v7,h 1 v8,m v2,u (.ca N.eB 0 [] [.l 2,.l 1,.l 0]),w 11 (.mv l0)] []) (.ite [m v11,u (.bin .neq l0 (.i 0))] [] 0 (.seq (.reg [h 1 v8,m v11,u (.st v9 l1 1 []),w 10 (.mv l1)] []) .ret) .skip)) (.seq (.reg [w 12 (.al [.nil] [(0,2)])] []) (.seq (.seq (.reg [w 13 (.mv (.i 0))] []) (.blk 0 K.ow)) (.seq (.reg [h 1 v12,u (.st v9 l0 1 []),w 10 (.mv (.i 0))] []) .ret)))))),res:=[(9,some (1,true)),(10,none)]}
def kr:Fn:={ nargs:=2,vars:=[0,1,4],body:=(.seq (.reg [w 2 (.mv (.i 0))] []) (.seq (.ite [m v1,u (.bin .lss l0 (.i 1))] [] 0 (.seq (.reg [w 2 (.mv (.i 0))] []) .ret) .skip) (.seq (.reg [m v0,m v1,u (.bin .rem l1 l0),w 0 (.mv l0)] []) (.seq (.ite [m v0,u (.bin .lss l0 (.i 0))] [] 0 (.reg [m v0,m v1,u (.bin .add l1 l0),w 0 (.mv l0)] []) .skip) (.seq (.reg [m v0,w 2 (.mv l0)] []) .ret))))),res:=[(2,none)]}
def jw:C:=(.seq (.ite [m v5,f 1 v2,g l0,u (.ln l0),u (.bin .lss l3 l0)] [] 0 .skip (.exit 0)) (.seq (.blk 1 (.ite [f 1 v2,g l0,m v5,a 1 l1 l0,g l0,m v1,u (.bin .leq l1 l0)] [] 0 (.reg [m v4,m v5,u (.bs [.l 0] 1),u (.app l2 l0 true 1),w 4 (.mv l0)] []) .skip)) (.reg [m v5,u (.bin .add l0 (.i 1)),w 5 (.mv l0)] [])))
def qq:C:= .loop true [0,3] K.jw
def dL:Fn:={ nargs:=2,vars:=[0,1,2,4,5,6],body:=(.seq (.reg [w 2 (.bx v0 2),w 3 (.mv (.c (.nil)))] []) (.seq (.reg [w 4 (.nw 1)] []) (.seq (.seq (.reg [w 5 (.mv (.i 0))] []) (.blk 0 K.qq)) (.seq (.reg [m v4,w 3 (.mv l0)] []) .ret)))),res:=[(3,none)]}
def ox:C:=(.seq (.ite [m v3,f 0 v1,g l0,u (.ln l0),u (.bin .lss l3 l0)] [] 0 .skip (.exit 0)) (.seq (.blk 1 (.seq (.reg [f 0 v1,g l0,m v3,a 2 l1 l0,f 0 l0,g l0,w 4 (.mv l0)] []) (.ite [m v4,u (.bin .lss l0 (.i (-10000))),m l0,y 0 false (.mv v4),y 1 false (.bin .gtr l0 (.i 10000)),u (.pk l2 (.b true) l0)] [] 0 (.seq (.reg [w 2 (.mv (.i 1))] []) .ret) .skip))) (.reg [m v3,u (.bin .add l0 (.i 1)),w 3 (.mv l0)] [])))
def uU:C:= .loop true [0,2,4,5,6] K.ox
def oy:C:=(.seq (.ite [m v5,f 1 v1,g l0,u (.ln l0),u (.bin .lss l3 l0)] [] 0 .skip (.exit 2)) (.seq (.blk 3 (.seq (.reg [f 1 v1,g l0,m v5,a 10 l1 l0,h 10 l0,w 6 (.al [.t (.int .i64 (0)),.t (.int .i64 (0)),.t (.int .i64 (0)),.t (.int .i64 (0)),.t (.bool false),.t (.bool false),.t (.int .i64 (0)),.t (.int .i64 (0)),.t (.int .i64 (0)),.t (.int .i64 (0))] []),u (.st l0 l1 10 [])] []) (.seq (.ite [f 0 v6,g l0,u (.bin .lss l0 (.i 0)),m l0,y 0 false (.fa v6 0),y 1 false (.ld l0 1 false),y 2 false (.fa v1 0),y 3 false (.ld l0 1 false),y 4 false (.ln l0),y 5 false (.bin .geq l3 l0),u (.pk l6 (.b true) l0),m l0,y 0 false (.fa v6 1),y 1 false (.ld l0 1 false),y 2 false (.bin .lss l0 (.i 0)),u (.pk l3 (.b true) l0),m l0,y 0 false (.fa v6 1),y 1 false (.ld l0 1 false),y 2 false (.fa v1 0),y 3 false (.ld l0 1 false),y 4 false (.ln l0),y 5 false (.bin .geq l3 l0),u (.pk l6 (.b true) l0),m l0,y 0 false (.fa v6 0),y 1 false (.ld l0 1 false),y 2 false (.fa v6 1),y 3 false (.ld l0 1 false),y 4 false (.bin .eql l2 l0),u (.pk l5 (.b true) l0)] [] 0 (.seq (.reg [w 2 (.mv (.i 4))] []) .ret) .skip) (.ite [f 2 v6,g l0,u (.bin .lss l0 (.i 1)),m l0,y 0 false (.fa v6 2),y 1 false (.ld l0 1 false),y 2 false (.bin .gtr l0 (.i 100000)),u (.pk l3 (.b true) l0),m l0,y 0 false (.fa v6 3),y 1 false (.ld l0 1 false),y 2 false (.bin .lss l0 (.i 1)),u (.pk l3 (.b true) l0),m l0,y 0 false (.fa v6 3),y 1 false (.ld l0 1 false),y 2 false (.bin .gtr l0 (.i 1000)),u (.pk l3 (.b true) l0),m l0,y 0 false (.fa v6 6),y 1 false (.ld l0 2 true),y 2 false (.ca N.iu 0 [] [.l 0,.i 1,.i 262144]),y 3 false (.un .not l0),u (.pk l4 (.b true) l0),m l0,y 0 false (.fa v6 8),y 1 false (.ld l0 2 true),y 2 false (.ca N.iu 0 [] [.l 0,.i (-2199023255552),.i 2199023255552]),y 3 false (.un .not l0),u (.pk l4 (.b true) l0)] [] 0 (.seq (.reg [w 2 (.mv (.i 1))] []) .ret) .skip)))) (.reg [m v5,u (.bin .add l0 (.i 1)),w 5 (.mv l0)] [])))
def uV:C:= .loop true [0,2,3,4,6] K.oy
def cX:Fn:={ nargs:=1,vars:=[0,1,2,3,4,5,6],body:=(.seq (.reg [w 1 (.bx v0 2),w 2 (.mv (.i 0))] []) (.seq (.ite [f 0 v1,g l0,u (.ln l0),u (.bin .gtr l0 (.i 64)),m l0,y 0 false (.fa v1 1),y 1 false (.ld l0 1 false),y 2 false (.ln l0),y 3 false (.bin .gtr l0 (.i 128)),u (.pk l4 (.b true) l0)] [] 0 (.seq (.reg [w 2 (.mv (.i 2))] []) .ret) .skip) (.seq (.seq (.reg [w 3 (.mv (.i 0))] []) (.blk 0 K.uU)) (.seq (.seq (.reg [w 5 (.mv (.i 0))] []) (.blk 2 K.uV)) (.seq (.reg [w 2 (.mv (.i 0))] []) .ret))))),res:=[(2,none)]}
def iP:C:=(.seq (.ite [m v3,m v0,u (.ln l0),u (.bin .lss l2 l0)] [] 0 .skip (.exit 0)) (.seq (.blk 1 (.ite [m v0,m v3,a 1 l1 l0,g l0,u (.bin .lss l0 (.i 0)),m l0,y 0 false (.mv v0),y 1 false (.mv v3),y 2 false (.ia l1 l0 1),y 3 false (.ld l0 1 false),y 4 false (.mv v1),y 5 false (.bin .geq l1 l0),u (.pk l6 (.b true) l0),m l0,y 0 false (.mv v3),y 1 false (.bin .gtr l0 (.i 0)),y 2 false (.mv l0),y 0 true (.mv v0),y 1 true (.mv v3),y 2 true (.ia l1 l0 1),y 3 true (.ld l0 1 false),y 4 true (.mv v0),y 5 true (.mv v3),y 6 true (.bin .sub l0 (.i 1)),y 7 true (.ia l2 l0 1),y 8 true (.ld l0 1 false),y 9 true (.bin .leq l5 l0),y 13 false (.pk l10 l0 (.b false)),u (.pk (.l 14) (.b true) l0)] [] 0 (.seq (.reg [w 2 (.mv (.b false))] []) .ret) .skip)) (.reg [m v3,u (.bin .add l0 (.i 1)),w 3 (.mv l0)] [])))
def zd:C:= .loop true [2] K.iP
def jF:Fn:={ nargs:=2,vars:=[0,1,4,5],body:=(.seq (.reg [w 2 (.mv (.b false))] []) (.seq (.seq (.reg [w 3 (.mv (.i 0))] []) (.blk 0 K.zd)) (.seq (.reg [w 2 (.mv (.b true))] []) .ret))),res:=[(2,none)]}
def gQ:C:=(.seq (.ite [m v2,m v0,u (.ln l0),u (.bin .lss l2 l0)] [] 0 .skip (.exit 0)) (.seq (.blk 1 (.ite [m v0,m v2,a 1 l1 l0,g l0,u (.bin .lss l0 (.i 1)),m l0,y 0 false (.mv v0),y 1 false (.mv v2),y 2 false (.ia l1 l0 1),y 3 false (.ld l0 1 false),y 4 false (.bin .gtr l0 (.i 65535)),u (.pk l5 (.b true) l0),m l0,y 0 false (.mv v0),y 1 false (.mv v2),y 2 false (.sc l1 none (some l0) 1),y 3 false (.mv v0),y 4 false (.mv v2),y 5 false (.ia l1 l0 1),y 6 false (.ld l0 1 false),y 7 false (.ca N.cZ 0 [] [.l 4,.l 0]),y 8 false (.bin .geq l0 (.i 0)),u (.pk l9 (.b true) l0)] [] 0 (.seq (.reg [w 1 (.mv (.b false))] []) .ret) .skip)) (.reg [m v2,u (.bin .add l0 (.i 1)),w 2 (.mv l0)] [])))
def sY:C:= .loop true [1] K.gQ
def eR:Fn:={ nargs:=1,vars:=[0,2,3],body:=(.seq (.reg [w 1 (.mv (.b false))] []) (.seq (.seq (.reg [w 2 (.mv (.i 0))] []) (.blk 0 K.sY)) (.seq (.reg [w 1 (.mv (.b true))] []) .ret))),res:=[(1,none)]}
def eu:Fn:={ nargs:=3,vars:=[0,1,2,3,6,7,8],body:=(.seq (.reg [w 3 (.bx v0 2),w 4 (.al [.t (.int .i64 (0)),.nil] []),w 5 (.mv (.i 0))] []) (.seq (.blk 0 (.ite [h 2 v3,u (.ca N.cX 0 [] [.l 0]),u (.bin .neq l0 (.i 0)),m l0] [] 0 (.seq (.reg [u (.bd [.t (.int .i64 (0)),.nil] []),u (.st v4 l0 2 []),w 5 (.mv (.i 6))] []) .ret) (.ite [m v1,u (.bin .lss l0 (.i 0)),m l0,y 0 false (.mv v1),y 1 false (.fa v3 0),y 2 false (.ld l0 1 false),y 3 false (.ln l0),y 4 false (.bin .geq l3 l0),u (.pk l5 (.b true) l0),m l0] [] 0 (.seq (.reg [u (.bd [.t (.int .i64 (0)),.nil] []),u (.st v4 l0 2 []),w 5 (.mv (.i 3))] []) .ret) (.ite [m v2,u (.ca N.dD 0 [] [.l 0]),u (.un .not l0),m l0] [] 0 (.seq (.reg [u (.bd [.t (.int .i64 (0)),.nil] []),u (.st v4 l0 2 []),w 5 (.mv (.i 8))] []) .ret) .skip)))) (.seq (.reg [f 0 v3,g l0,u (.ln l0),u (.ca N.gn 1 [] [.l 0]),w 6 (.mv l0)] []) (.seq (.reg [m v6,m v1,m v2,a 1 l2 l1,u (.st l0 l1 1 [])] []) (.seq (.reg [m v2,h 2 v3,m v6,m v2,u (.ca N.dQ 0 [] [.l 2,.l 1,.l 0]),u (.bd [.t (.int .i64 (0)),.nil] [(0,1,.l 4),(1,1,.l 0)]),u (.st v4 l0 2 []),w 5 (.mv (.i 0))] []) .ret))))),res:=[(4,some (2,true)),(5,none)]}
end Go.Ev.K
namespace Go.Ev
class bW [Lib]:Prop where
 s6:Lib.fs N.i6=some K.i6
 vM:Lib.fs N.ka=some K.ka
 nj:Lib.fs N.cL=some K.cL
 lD:Lib.fs N.cn=some K.cn
 nq:Lib.fs N.aB=some K.aB
 pF:Lib.fs N.dC=some K.dC
 vN:Lib.fs N.fH=some K.fH
 ns:Lib.fs N.dK=some K.dK
 oz:Lib.fs N.dP=some K.dP
 nu:Lib.fs N.b8=some K.b8
 qN:Lib.fs N.dy=some K.dy
 ny:Lib.fs N.bB=some K.bB
 vO:Lib.fs N.ir=some K.ir
 pG:Lib.fs N.ef=some K.ef
 yo:Lib.fs N.kr=some K.kr
 nB:Lib.fs N.dL=some K.dL
 qO:Lib.fs N.cX=some K.cX
 vP:Lib.fs N.jF=some K.jF
 pH:Lib.fs N.eR=some K.eR
 qP:Lib.fs N.eu=some K.eu
namespace K
variable [Lib] [bW]
theorem s6:Lib.fs N.i6=some K.i6:=bW.s6
theorem vM:Lib.fs N.ka=some K.ka:=bW.vM
theorem nj:Lib.fs N.cL=some K.cL:=bW.nj
theorem lD:Lib.fs N.cn=some K.cn:=bW.lD
theorem nq:Lib.fs N.aB=some K.aB:=bW.nq
theorem pF:Lib.fs N.dC=some K.dC:=bW.pF
theorem vN:Lib.fs N.fH=some K.fH:=bW.vN
theorem ns:Lib.fs N.dK=some K.dK:=bW.ns
theorem oz:Lib.fs N.dP=some K.dP:=bW.oz
theorem nu:Lib.fs N.b8=some K.b8:=bW.nu
theorem qN:Lib.fs N.dy=some K.dy:=bW.qN
theorem ny:Lib.fs N.bB=some K.bB:=bW.ny
theorem vO:Lib.fs N.ir=some K.ir:=bW.vO
theorem pG:Lib.fs N.ef=some K.ef:=bW.pG
theorem yo:Lib.fs N.kr=some K.kr:=bW.yo
theorem nB:Lib.fs N.dL=some K.dL:=bW.nB
theorem qO:Lib.fs N.cX=some K.cX:=bW.qO
theorem vP:Lib.fs N.jF=some K.jF:=bW.vP
theorem pH:Lib.fs N.eR=some K.eR:=bW.pH
theorem qP:Lib.fs N.eu=some K.eu:=bW.qP
end K
end Go.Ev
namespace Go.Ev.K
open Go.Ev
def pI:C:=(.seq (.ite [m v4,f 0 v1,g l0,u (.ln l0),u (.bin .lss l3 l0)] [] 0 .skip (.exit 0)) (.seq (.blk 1 (.reg [f 0 v3,g l0,f 0 v1,g l0,m v4,a 2 l1 l0,h 2 l0,u (.ca N.bC 0 [] [.l 0]),u (.bs [.l 0] 2),u (.app l7 l0 true 2),f 0 v3,u (.st l0 l1 1 [])] [(1,8),(1,9)])) (.reg [m v4,u (.bin .add l0 (.i 1)),w 4 (.mv l0)] [])))
def xi:C:= .loop true [0] K.pI
def ew:Fn:={ nargs:=1,vars:=[0,1,2,3,4],body:=(.seq (.reg [w 1 (.bx v0 1),w 2 (.al [.nil] [])] []) (.seq (.reg [w 3 (.al [.nil] [(0,2)])] []) (.seq (.seq (.reg [w 4 (.mv (.i 0))] []) (.blk 0 K.xi)) (.seq (.reg [h 1 v3,u (.st v2 l0 1 [])] []) .ret)))),res:=[(2,some (1,true))]}
def iy:C:=(.seq (.ite [m v8,f 0 v7,g l0,u (.ln l0),u (.bin .lss l3 l0)] [] 0 .skip (.exit 2)) (.seq (.blk 3 (.ite [m v5,f 0 v7,g l0,m v8,a 1 l1 l0,g l0,u (.ca N.cZ 0 [] [.l 5,.l 0]),u (.bin .lss l0 (.i 0)),m l0,y 0 false (.ld v2 2 true),y 1 false (.fa v7 1),y 2 false (.ld l0 1 false),y 3 false (.mv v8),y 4 false (.ia l1 l0 2),y 5 false (.ld l0 2 true),y 6 false (.ca N.fq 0 [] [.l 5,.l 0]),y 7 false (.un .not l0),u (.pk l8 (.b true) l0)] [] 0 (.seq (.reg [w 4 (.mv (.b false))] []) .ret) .skip)) (.reg [m v8,u (.bin .add l0 (.i 1)),w 8 (.mv l0)] [])))
def pJ:C:= .loop true [0,1,4] K.iy
def b5:C:=(.seq (.ite [m v6,f 0 v3,g l0,u (.ln l0),u (.bin .lss l3 l0)] [] 0 .skip (.exit 0)) (.seq (.blk 1 (.seq (.reg [f 0 v3,g l0,m v6,a 2 l1 l0,h 2 l0,w 7 (.al [.nil,.nil] []),u (.st l0 l1 2 [])] []) (.seq (.ite [f 0 v7,g l0,u (.ln l0),m v5,u (.ln l0),u (.bin .neq l2 l0),m l0,y 0 false (.fa v7 1),y 1 false (.ld l0 1 false),y 2 false (.ln l0),y 3 false (.mv v5),y 4 false (.ln l0),y 5 false (.bin .neq l2 l0),u (.pk l6 (.b true) l0),m l0,y 0 false (.fa v7 0),y 1 false (.ld l0 1 false),y 2 false (.ca N.eR 0 [] [.l 0]),y 3 false (.un .not l0),u (.pk l4 (.b true) l0),m l0,y 0 false (.mv v6),y 1 false (.bin .gtr l0 (.i 0)),y 2 false (.mv l0),y 0 true (.fa v3 0),y 1 true (.ld l0 1 false),y 2 true (.mv v6),y 3 true (.bin .sub l0 (.i 1)),y 4 true (.ia l2 l0 2),y 5 true (.fa l0 0),y 6 true (.ld l0 1 false),y 7 true (.fa v7 0),y 8 true (.ld l0 1 false),y 9 true (.ca N.iv 0 [] [.l 2,.l 0]),y 10 true (.un .not l0),y 14 false (.pk l11 l0 (.b false)),u (.pk (.l 15) (.b true) l0)] [] 0 (.seq (.reg [w 4 (.mv (.b false))] []) .ret) .skip) (.seq (.reg [w 8 (.mv (.i 0))] []) (.blk 2 K.pJ))))) (.reg [m v6,u (.bin .add l0 (.i 1)),w 6 (.mv l0)] [])))
def pK:C:= .loop true [0,1,4,7,8] K.b5
def cH:Fn:={ nargs:=2,vars:=[0,1,2,3,4,5,6,7,8],body:=(.seq (.reg [w 2 (.bx v0 2),w 3 (.bx v1 1),w 4 (.mv (.b false))] []) (.seq (.ite [f 0 v3,g l0,u (.ln l0),u (.bin .lss l0 (.i 1)),m l0,y 0 false (.fa v3 0),y 1 false (.ld l0 1 false),y 2 false (.ln l0),y 3 false (.bin .gtr l0 (.i 24)),u (.pk l4 (.b true) l0),m l0,y 0 false (.ld v2 2 true),y 1 false (.ca N.cX 0 [] [.l 0]),y 2 false (.bin .neq l0 (.i 0)),u (.pk l3 (.b true) l0)] [] 0 (.seq (.reg [w 4 (.mv (.b false))] []) .ret) .skip) (.seq (.reg [f 0 v3,g l0,a 2 l0 (.i 0),f 0 l0,g l0,w 5 (.mv l0)] []) (.seq (.ite [m v5,u (.ln l0),u (.bin .lss l0 (.i 1)),m l0,y 0 false (.mv v5),y 1 false (.ln l0),y 2 false (.bin .gtr l0 (.i 12)),u (.pk l3 (.b true) l0)] [] 0 (.seq (.reg [w 4 (.mv (.b false))] []) .ret) .skip) (.seq (.seq (.reg [w 6 (.mv (.i 0))] []) (.blk 0 K.pK)) (.seq (.reg [w 4 (.mv (.b true))] []) .ret)))))),res:=[(4,none)]}
def kB:C:=(.seq (.ite [m v4,f 1 v1,g l0,u (.ln l0),u (.bin .lss l3 l0)] [] 0 .skip (.exit 0)) (.seq (.blk 1 (.reg [f 1 v3,g l0,f 1 v1,g l0,m v4,a 2 l1 l0,h 2 l0,u (.ca N.cz 0 [] [.l 0]),u (.bs [.l 0] 2),u (.app l7 l0 true 2),f 1 v3,u (.st l0 l1 1 [])] [(1,8),(1,9)])) (.reg [m v4,u (.bin .add l0 (.i 1)),w 4 (.mv l0)] [])))
def pd:C:= .loop true [0] K.kB
def bC:Fn:={ nargs:=1,vars:=[0,1,2,3,4],body:=(.seq (.reg [w 1 (.bx v0 2),w 2 (.al [.nil,.nil] [])] []) (.seq (.reg [f 0 v1,g l0,u (.app (.c (.nil)) l0 true 1),u (.bd [.nil,.nil] [(0,1,.l 0)]),w 3 (.al [.nil,.nil] [(1,2)]),u (.st l0 l1 2 [(1,2)])] []) (.seq (.seq (.reg [w 4 (.mv (.i 0))] []) (.blk 0 K.pd)) (.seq (.reg [h 2 v3,u (.st v2 l0 2 [])] []) .ret)))),res:=[(2,some (2,true))]}
def ja:C:=(.seq (.ite [m v6,f 1 v3,g l0,u (.ln l0),u (.bin .lss l3 l0),m l0,y 0 true (.mv v6),y 1 true (.fa v4 1),y 2 true (.ld l0 1 false),y 3 true (.ln l0),y 4 true (.bin .lss l3 l0),u (.pk l5 l0 (.b false))] [] 0 .skip (.exit 0)) (.seq (.blk 1 (.ite [f 1 v3,g l0,m v6,a 1 l1 l0,g l0,m v2,u (.bin .leq l1 l0),m l0,y 0 true (.fa v4 1),y 1 true (.ld l0 1 false),y 2 true (.mv v6),y 3 true (.ia l1 l0 1),y 4 true (.ld l0 1 false),y 5 true (.mv v2),y 6 true (.bin .leq l1 l0),u (.pk l7 l0 (.b false))] [] 0 (.seq (.reg [w 5 (.mv (.b true))] []) .ret) .skip)) (.reg [m v6,u (.bin .add l0 (.i 1)),w 6 (.mv l0)] [])))
def xj:C:= .loop true [0,1,5] K.ja
def i7:Fn:={ nargs:=3,vars:=[0,1,2,3,4,6,7],body:=(.seq (.reg [w 3 (.bx v0 2),w 4 (.bx v1 2),w 5 (.mv (.b false))] []) (.seq (.seq (.reg [w 6 (.mv (.i 0))] []) (.blk 0 K.xj)) (.seq (.reg [w 5 (.mv (.b false))] []) .ret))),res:=[(5,none)]}
def ez:Fn:={ nargs:=2,vars:=[0,1,2,4,5],body:=(.seq (.reg [w 2 (.bx v0 2),w 3 (.al [.t (.int .i64 (0)),.nil] []),w 4 (.mv (.i 0))] []) (.seq (.reg [h 2 v2,u (.ca N.cz 0 [] [.l 0]),u (.st v2 l0 2 [])] []) (.seq (.ite [m v1,f 0 v2,g l0,u (.bin .lss l2 l0),m l0,y 0 false (.mv v1),y 1 false (.bin .gtr l0 (.i 2147483648)),u (.pk l2 (.b true) l0)] [] 0 (.seq (.reg [h 2 v2,u (.st v3 l0 2 []),w 4 (.mv (.i 8))] []) .ret) .skip) (.seq (.reg [m v1,f 0 v2,u (.st l0 l1 1 [])] []) (.seq (.reg [h 2 v2,u (.st v3 l0 2 []),w 4 (.mv (.i 0))] []) .ret))))),res:=[(3,some (2,true)),(4,none)]}
def kc:C:=(.seq (.ite [m v4,m v2,u (.ln l0),u (.bin .lss l2 l0),m l0,y 0 true (.mv v2),y 1 true (.mv v4),y 2 true (.ia l1 l0 2),y 3 true (.fa l0 0),y 4 true (.ld l0 1 false),y 5 true (.mv v0),y 6 true (.mv v3),y 7 true (.ia l1 l0 2),y 8 true (.fa l0 0),y 9 true (.ld l0 1 false),y 10 true (.ca N.iv 0 [] [.l 5,.l 0]),u (.pk l11 l0 (.b false))] [] 0 .skip (.exit 2)) (.blk 3 (.reg [m v4,u (.bin .add l0 (.i 1)),w 4 (.mv l0)] [])))
def qQ:C:= .loop false [1,5] K.kc
def mP:C:=(.seq (.ite [m v5,m v2,m v4,a 2 l1 l0,f 1 l0,g l0,u (.ln l0),u (.bin .lss l6 l0),m l0,y 0 true (.mv v5),y 1 true (.mv v0),y 2 true (.mv v3),y 3 true (.ia l1 l0 2),y 4 true (.fa l0 1),y 5 true (.ld l0 1 false),y 6 true (.ln l0),y 7 true (.bin .lss l6 l0),u (.pk l8 l0 (.b false))] [] 0 .skip (.exit 4)) (.seq (.blk 5 (.reg [m v2,m v4,a 2 l1 l0,f 1 l0,g l0,m v5,m v2,m v4,a 2 l1 l0,f 1 l0,g l0,m v5,a 2 l1 l0,h 2 l0,m v0,m v3,a 2 l1 l0,f 1 l0,g l0,m v5,a 2 l1 l0,h 2 l0,u (.ca N.iw 0 [] [.l 8,.l 0]),m l0,u (.ex l0 0),u (.ex l1 1),a 2 (.l 21) (.l 20),u (.st l0 l2 2 [])] [(2,23),(4,23)])) (.reg [m v5,u (.bin .add l0 (.i 1)),w 5 (.mv l0)] [])))
def xk:C:= .loop false [1] K.mP
def dN:C:=(.seq (.ite [m v3,m v0,u (.ln l0),u (.bin .lss l2 l0)] [] 0 .skip (.exit 0)) (.seq (.blk 1 (.seq (.reg [w 4 (.mv (.i 0))] []) (.seq (.blk 2 K.qQ) (.seq (.ite [m v4,m v2,u (.ln l0),u (.bin .lss l2 l0),m l0,y 0 true (.mv v2),y 1 true (.mv v4),y 2 true (.ia l1 l0 2),y 3 true (.fa l0 0),y 4 true (.ld l0 1 false),y 5 true (.mv v0),y 6 true (.mv v3),y 7 true (.ia l1 l0 2),y 8 true (.fa l0 0),y 9 true (.ld l0 1 false),y 10 true (.ca N.bI 0 [] [.l 5,.l 0]),u (.pk l11 l0 (.b false))] [] 0 (.seq (.seq (.reg [w 5 (.mv (.i 0))] []) (.blk 4 K.xk)) (.exit 1)) .skip) (.reg [m v2,m v4,u (.sc l1 none (some l0) 2),u (.app (.c (.nil)) l0 false 2),m v0,m v3,a 2 l1 l0,h 2 l0,u (.ca N.bC 1 [] [.l 0]),u (.bsr [.l 0] 2),u (.app l6 l0 false 2),m v2,m v4,u (.sc l1 (some l0) none 2),u (.app l3 l0 false 2),w 2 (.mv l0)] [(6,0),(7,0),(13,0),(13,4),(13,9),(13,10)]))))) (.reg [m v3,u (.bin .add l0 (.i 1)),w 3 (.mv l0)] [])))
def qR:C:= .loop false [1,4,5] K.dN
def fW:Fn:={ nargs:=1,vars:=[0,2,3,4,5,6],body:=(.seq (.reg [w 1 (.mv (.c (.nil)))] []) (.seq (.reg [w 2 (.mv (.c (.nil)))] []) (.seq (.seq (.reg [w 3 (.mv (.i 0))] []) (.blk 0 K.qR)) (.seq (.reg [m v2,w 1 (.mv l0)] []) .ret)))),res:=[(1,none)]}
def eB:Fn:={ nargs:=3,vars:=[0,1,2,3,4,6],body:=(.seq (.reg [w 3 (.bx v0 2),w 4 (.bx v1 1),w 5 (.mv (.i 0))] []) (.seq (.ite [h 2 v3,h 1 v4,u (.ca N.cH 0 [] [.l 1,.l 0]),u (.un .not l0)] [] 0 (.seq (.reg [w 5 (.mv (.i 6))] []) .ret) .skip) (.seq (.ite [f 0 v4,g l0,a 2 l0 (.i 0),f 0 l0,g l0,m v2,u (.ca N.cZ 0 [] [.l 1,.l 0]),u (.bin .lss l0 (.i 0))] [] 0 (.seq (.reg [w 5 (.mv (.i 41))] []) .ret) .skip) (.seq (.reg [w 5 (.mv (.i 0))] []) .ret)))),res:=[(5,none)]}
def kt:C:=(.seq (.ite [m v3,m v0,u (.ln l0),u (.bin .lss l2 l0)] [] 0 .skip (.exit 0)) (.seq (.blk 1 (.ite [m v0,m v3,a 1 l1 l0,g l0,m v1,u (.bin .eql l1 l0)] [] 0 (.seq (.reg [m v3,w 2 (.mv l0)] []) .ret) .skip)) (.reg [m v3,u (.bin .add l0 (.i 1)),w 3 (.mv l0)] [])))
def s7:C:= .loop true [2] K.kt
def cZ:Fn:={ nargs:=2,vars:=[0,1,4,5],body:=(.seq (.reg [w 2 (.mv (.i 0))] []) (.seq (.seq (.reg [w 3 (.mv (.i 0))] []) (.blk 0 K.s7)) (.seq (.reg [w 2 (.mv (.i (-1)))] []) .ret))),res:=[(2,none)]}
def nX:C:=(.seq (.ite [m v12,m v2,u (.ln l0),u (.bin .lss l2 l0)] [] 0 .skip (.exit 0)) (.seq (.blk 1 (.seq (.reg [m v2,m v12,a 1 l1 l0,g l0,w 13 (.mv l0)] []) (.ite [f 1 v6,g l0,m v13,a 1 l1 l0,g l0,m v4,u (.bin .leq l1 l0)] [] 0 (.reg [m v10,m v13,f 1 v6,g l0,m v13,a 1 l1 l0,g l0,a 1 l6 l5,u (.st l0 l1 1 []),w 11 (.mv (.b true))] []) .skip))) (.reg [m v12,u (.bin .add l0 (.i 1)),w 12 (.mv l0)] [])))
def ze:C:= .loop true [0,1,8,9,13] K.nX
def iX:Fn:={ nargs:=5,vars:=[0,1,2,3,4,5,6,10,11,12,13,14,15,16],body:=(.seq (.reg [w 5 (.bx v0 2),w 6 (.bx v1 2),w 7 (.al [.t (.int .i64 (0)),.nil] []),w 8 (.mv (.i 0))] []) (.seq (.seq (.reg [h 2 v5,h 2 v6,m v2,m v3,m v4,u (.ca N.cI 0 [] [.l 4,.l 3,.l 2,.l 1,.l 0]),w 9 (.mv l0)] []) (.ite [m v9,u (.bin .neq l0 (.i 0))] [] 0 (.seq (.reg [h 2 v6,u (.ca N.cz 0 [] [.l 0]),m v9,u (.st v7 l1 2 []),w 8 (.mv l1)] []) .ret) .skip)) (.seq (.ite [m v3,f 0 v6,g l0,u (.bin .lss l2 l0)] [] 0 (.seq (.reg [h 2 v6,u (.ca N.cz 0 [] [.l 0]),u (.st v7 l0 2 []),w 8 (.mv (.i 42))] []) .ret) .skip) (.seq (.reg [f 0 v5,g l0,u (.ln l0),u (.ca N.gn 1 [] [.l 0]),w 10 (.mv l0)] []) (.seq (.reg [w 11 (.mv (.b false))] []) (.seq (.seq (.reg [w 12 (.mv (.i 0))] []) (.blk 0 K.ze)) (.seq (.ite [m v11,u (.un .not l0)] [] 0 (.seq (.reg [h 2 v6,u (.ca N.cz 0 [] [.l 0]),u (.st v7 l0 2 []),w 8 (.mv (.i 43))] []) .ret) .skip) (.seq (.reg [m v4,h 2 v5,m v10,m v3,u (.ca N.dQ 0 [] [.l 2,.l 1,.l 0]),u (.bd [.t (.int .i64 (0)),.nil] [(0,1,.l 4),(1,1,.l 0)]),u (.st v7 l0 2 []),w 8 (.mv (.i 0))] []) .ret)))))))),res:=[(7,some (2,true)),(8,none)]}
def nC:C:=(.seq (.ite [m v12,m v2,u (.ln l0),u (.bin .lss l2 l0)] [] 0 .skip (.exit 0)) (.seq (.blk 1 (.reg [m v11,m v2,m v12,a 1 l1 l0,g l0,a 1 l4 l0,u (.st l0 (.i 1099511627776) 1 [])] [])) (.reg [m v12,u (.bin .add l0 (.i 1)),w 12 (.mv l0)] [])))
def s8:C:= .loop true [0,1,3,7,9,10] K.nC
def c7:Fn:={ nargs:=6,vars:=[0,1,2,3,4,5,6,7,12,13,14,15,16],body:=(.seq (.reg [w 6 (.bx v0 2),w 7 (.bx v1 2),w 8 (.al [.t (.int .i64 (0)),.nil] []),w 9 (.mv (.i 0))] []) (.seq (.seq (.reg [h 2 v6,h 2 v7,m v2,m v3,m v4,u (.ca N.cI 0 [] [.l 4,.l 3,.l 2,.l 1,.l 0]),w 10 (.mv l0)] []) (.ite [m v10,u (.bin .neq l0 (.i 0))] [] 0 (.seq (.reg [h 2 v7,u (.ca N.cz 0 [] [.l 0]),m v10,u (.st v8 l1 2 []),w 9 (.mv l1)] []) .ret) .skip)) (.seq (.ite [m v5,u (.ca N.dD 0 [] [.l 0]),u (.un .not l0)] [] 0 (.seq (.reg [h 2 v7,u (.ca N.cz 0 [] [.l 0]),u (.st v8 l0 2 []),w 9 (.mv (.i 8))] []) .ret) .skip) (.seq (.ite [m v4,f 0 v7,g l0,u (.bin .lss l2 l0)] [] 0 (.seq (.reg [h 2 v7,u (.ca N.cz 0 [] [.l 0]),u (.st v8 l0 2 []),w 9 (.mv (.i 42))] []) .ret) .skip) (.seq (.ite [m v4,m v3,f 0 v7,g l0,u (.mx [.l 2,.l 0]),u (.bin .sub l4 l0),m v5,u (.bin .leq l1 l0)] [] 0 (.seq (.reg [h 2 v7,u (.ca N.cz 0 [] [.l 0]),u (.st v8 l0 2 []),w 9 (.mv (.i 0))] []) .ret) .skip) (.seq (.reg [f 1 v7,g l0,u (.app (.c (.nil)) l0 true 1),w 11 (.mv l0)] []) (.seq (.seq (.reg [w 12 (.mv (.i 0))] []) (.blk 0 K.s8)) (.seq (.reg [m v4,h 2 v6,h 2 v6,m v11,m v4,m v5,u (.bin .sub l1 l0),m v2,u (.ca N.ft 0 [3] [.l 5,.l 4,.l 1,.l 0]),m v4,u (.ca N.dQ 0 [] [.l 8,.l 1,.l 0]),u (.bd [.t (.int .i64 (0)),.nil] [(0,1,.l 10),(1,1,.l 0)]),u (.st v8 l0 2 []),w 9 (.mv (.i 0))] [(1,9)]) .ret)))))))),res:=[(8,some (2,true)),(9,none)]}
def gp:C:=(.its [u (.bin .lss v6 v5)] [] 0 .skip (.exit 0) (.seq (.blk 1 (.seq (.reg [m v6,w 4 (.mv l0)] []) (.ite [m v1,m v4,u (.cw l1 0 [] [.l 0])] [] 0 (.reg [m v3,m v4,u (.bs [.l 0] 1),u (.app l2 l0 true 1),w 3 (.mv l0)] []) .skip))) (.reg [u (.bin .add v6 (.i 1)),w 6 (.mv l0)] [])))
def pL:C:= .loop true [0,2,4] K.gp
def bZ:Fn:={ nargs:=2,vars:=[0,1,4,5,6,7,8],body:=(.seq (.reg [w 2 (.mv (.c (.nil)))] []) (.seq (.reg [w 3 (.nw 1)] []) (.seq (.seq (.reg [w 5 (.mv v0),w 6 (.mv (.i 0))] []) (.blk 0 K.pL)) (.seq (.reg [m v3,w 2 (.mv l0)] []) .ret)))),res:=[(2,none)]}
def az:Fn:={ nargs:=2,vars:=[0,1,4],body:=(.seq (.reg [w 2 (.mv (.b false))] []) (.seq (.reg [m v0,m v1,u (.ca N.bk 0 [] [.l 1,.l 0]),u (.bin .geq l0 (.i 0)),w 2 (.mv l0)] []) .ret)),res:=[(2,none)]}
def aO:Fn:={ nargs:=2,vars:=[0,1,4],body:=(.seq (.reg [w 2 (.mv (.b false))] []) (.seq (.reg [m v0,m v1,u (.ca N.bN 0 [] [.l 1,.l 0]),u (.bin .geq l0 (.i 0)),w 2 (.mv l0)] []) .ret)),res:=[(2,none)]}
def dM:Fn:={ nargs:=3,vars:=[0,1,2,3,4,5,6],body:=(.seq (.reg [w 3 (.bx v0 1),w 4 (.bx v1 1),w 5 (.bx v2 1),w 6 (.mv (.c (.nil)))] []) (.seq (.reg [u (.mf N.bX [.v 3,.v 4,.v 5]),u (.ca N.bZ 0 [] [.i 64,.l 0]),w 6 (.mv l0)] []) .ret)),res:=[(6,none)]}
def iu:Fn:={ nargs:=3,vars:=[0,1,2,3,6],body:=(.seq (.reg [w 3 (.bx v0 2),w 4 (.mv (.b false))] []) (.seq (.reg [m v1,f 0 v3,g l0,u (.bin .leq l2 l0),m l0,y 0 true (.fa v3 0),y 1 true (.ld l0 1 false),y 2 true (.fa v3 1),y 3 true (.ld l0 1 false),y 4 true (.bin .leq l2 l0),u (.pk l5 l0 (.b false)),m l0,y 0 true (.fa v3 1),y 1 true (.ld l0 1 false),y 2 true (.mv v2),y 3 true (.bin .leq l1 l0),u (.pk l4 l0 (.b false)),w 4 (.mv l0)] []) .ret)),res:=[(4,none)]}
def dD:Fn:={ nargs:=1,vars:=[0,2],body:=(.seq (.reg [w 1 (.mv (.b false))] []) (.seq (.reg [m v0,u (.bin .geq l0 (.i 0)),m l0,y 0 true (.mv v0),y 1 true (.bin .leq l0 (.i 2147483648)),u (.pk l2 l0 (.b false)),w 1 (.mv l0)] []) .ret)),res:=[(1,none)]}
def oA:C:=(.seq (.ite [m v3,m v0,u (.bin .lss l1 l0)] [] 0 .skip (.exit 0)) (.seq (.blk 1 (.reg [m v2,u (.bs [.i 1099511627776] 1),u (.app l1 l0 true 1),w 2 (.mv l0)] [])) (.reg [m v3,u (.bin .add l0 (.i 1)),w 3 (.mv l0)] [])))
def uW:C:= .loop true [1] K.oA
def gn:Fn:={ nargs:=1,vars:=[0,2,3,4],body:=(.seq (.reg [w 1 (.mv (.c (.nil)))] []) (.seq (.reg [w 2 (.nw 1)] []) (.seq (.seq (.reg [w 3 (.mv (.i 0))] []) (.blk 0 K.uW)) (.seq (.reg [m v2,w 1 (.mv l0)] []) .ret)))),res:=[(1,none)]}
def dQ:Fn:={ nargs:=3,vars:=[0,1,2,3,6],body:=(.seq (.reg [w 3 (.bx v0 2),w 4 (.mv (.c (.nil)))] []) (.seq (.reg [h 2 v3,m v1,m v2,u (.ca N.ft 0 [3] [.l 2,.l 1,.l 0,.c (.nil)]),w 4 (.mv l0)] []) .ret)),res:=[(4,none)]}
def jb:C:=(.seq (.ite [m v3,m v0,u (.ln l0),u (.bin .lss l2 l0),m l0,y 0 true (.mv v3),y 1 true (.mv v1),y 2 true (.ln l0),y 3 true (.bin .lss l2 l0),u (.pk l4 l0 (.b false))] [] 0 .skip (.exit 0)) (.seq (.blk 1 (.ite [m v0,m v3,a 1 l1 l0,g l0,m v1,m v3,a 1 l1 l0,g l0,u (.bin .neq l4 l0)] [] 0 (.seq (.reg [m v0,m v3,a 1 l1 l0,g l0,m v1,m v3,a 1 l1 l0,g l0,u (.bin .lss l4 l0),w 2 (.mv l0)] []) .ret) .skip)) (.reg [m v3,u (.bin .add l0 (.i 1)),w 3 (.mv l0)] [])))
def xm:C:= .loop true [2] K.jb
def iv:Fn:={ nargs:=2,vars:=[0,1,4,5],body:=(.seq (.reg [w 2 (.mv (.b false))] []) (.seq (.seq (.reg [w 3 (.mv (.i 0))] []) (.blk 0 K.xm)) (.seq (.reg [m v0,u (.ln l0),m v1,u (.ln l0),u (.bin .lss l2 l0),w 2 (.mv l0)] []) .ret))),res:=[(2,none)]}
def fq:Fn:={ nargs:=2,vars:=[0,1,2,3,4],body:=(.seq (.reg [w 2 (.bx v0 2),w 3 (.bx v1 2),w 4 (.mv (.b false))] []) (.seq (.reg [h 2 v2,u (.ca N.cX 0 [] [.l 0]),u (.bin .eql l0 (.i 0)),m l0,y 0 true (.ld v3 2 true),y 1 true (.fa v2 0),y 2 true (.ld l0 1 false),y 3 true (.ln l0),y 4 true (.ca N.eC 0 [] [.l 3,.l 0]),u (.pk l5 l0 (.b false)),m l0,y 0 true (.ld v2 2 true),y 1 true (.fa v3 1),y 2 true (.ld l0 1 false),y 3 true (.fa v3 0),y 4 true (.ld l0 1 false),y 5 true (.ca N.dQ 0 [] [.l 4,.l 2,.l 0]),y 6 true (.fa v3 1),y 7 true (.ld l0 1 false),y 8 true (.ca N.bI 0 [] [.l 2,.l 0]),u (.pk l9 l0 (.b false)),w 4 (.mv l0)] [(18,9)]) .ret)),res:=[(4,none)]}
def cz:Fn:={ nargs:=1,vars:=[0,1,2],body:=(.seq (.reg [w 1 (.bx v0 2),w 2 (.al [.t (.int .i64 (0)),.nil] [])] []) (.seq (.reg [f 0 v1,g l0,f 1 v1,g l0,u (.app (.c (.nil)) l0 true 1),u (.bd [.t (.int .i64 (0)),.nil] [(0,1,.l 3),(1,1,.l 0)]),u (.st v2 l0 2 [])] [(1,5)]) .ret)),res:=[(2,some (2,true))]}
def jx:C:=(.seq (.ite [m v3,m v0,u (.ln l0),u (.bin .lss l2 l0)] [] 0 .skip (.exit 0)) (.seq (.blk 1 (.ite [m v0,m v3,a 1 l1 l0,g l0,m v1,m v3,a 1 l1 l0,g l0,u (.bin .neq l4 l0)] [] 0 (.seq (.reg [w 2 (.mv (.b false))] []) .ret) .skip)) (.reg [m v3,u (.bin .add l0 (.i 1)),w 3 (.mv l0)] [])))
def qs:C:= .loop true [2] K.jx
def bI:Fn:={ nargs:=2,vars:=[0,1,4,5],body:=(.seq (.reg [w 2 (.mv (.b false))] []) (.seq (.ite [m v0,u (.ln l0),m v1,u (.ln l0),u (.bin .neq l2 l0)] [] 0 (.seq (.reg [w 2 (.mv (.b false))] []) .ret) .skip) (.seq (.seq (.reg [w 3 (.mv (.i 0))] []) (.blk 0 K.qs)) (.seq (.reg [w 2 (.mv (.b true))] []) .ret)))),res:=[(2,none)]}
def pM:C:=(.seq (.ite [m v7,f 1 v2,g l0,u (.ln l0),u (.bin .lss l3 l0)] [] 0 .skip (.exit 0)) (.seq (.blk 1 (.reg [f 1 v6,g l0,f 1 v2,g l0,m v7,a 1 l1 l0,g l0,f 1 v3,g l0,m v7,a 1 l1 l0,g l0,u (.mn [.l 5,.l 0]),u (.bs [.l 0] 1),u (.app (.l 12) l0 true 1),f 1 v6,u (.st l0 l1 1 [])] [(1,14)])) (.reg [m v7,u (.bin .add l0 (.i 1)),w 7 (.mv l0)] [])))
def xn:C:= .loop true [0,1,5] K.pM
def iw:Fn:={ nargs:=2,vars:=[0,1,2,3,4,5,6,7],body:=(.seq (.reg [w 2 (.bx v0 2),w 3 (.bx v1 2),w 4 (.al [.t (.int .i64 (0)),.nil] []),w 5 (.mv (.i 0))] []) (.seq (.ite [f 1 v2,g l0,u (.ln l0),f 1 v3,g l0,u (.ln l0),u (.bin .neq l3 l0)] [] 0 (.seq (.reg [u (.bd [.t (.int .i64 (0)),.nil] []),u (.st v4 l0 2 []),w 5 (.mv (.i 6))] []) .ret) .skip) (.seq (.reg [f 0 v2,g l0,f 0 v3,g l0,u (.mx [.l 2,.l 0]),u (.bd [.t (.int .i64 (0)),.nil] [(0,1,.l 0)]),w 6 (.al [.t (.int .i64 (0)),.nil] [(1,1)]),u (.st l0 l1 2 [(1,1)])] []) (.seq (.seq (.reg [w 7 (.mv (.i 0))] []) (.blk 0 K.xn)) (.seq (.reg [h 2 v6,u (.st v4 l0 2 []),w 5 (.mv (.i 0))] []) .ret))))),res:=[(4,some (2,true)),(5,none)]}
def cI:Fn:={ nargs:=5,vars:=[0,1,2,3,4,5,6,10],body:=(.seq (.reg [w 5 (.bx v0 2),w 6 (.bx v1 2),w 7 (.mv (.i 0))] []) (.seq (.ite [h 2 v5,h 2 v6,u (.ca N.fq 0 [] [.l 1,.l 0]),u (.un .not l0),m l0,y 0 false (.mv v2),y 1 false (.ln l0),y 2 false (.bin .eql l0 (.i 0)),u (.pk l3 (.b true) l0),m l0,y 0 false (.mv v2),y 1 false (.fa v5 0),y 2 false (.ld l0 1 false),y 3 false (.ln l0),y 4 false (.ca N.jF 0 [] [.l 3,.l 0]),y 5 false (.un .not l0),u (.pk l6 (.b true) l0)] [] 0 (.seq (.reg [w 7 (.mv (.i 6))] []) .ret) .skip) (.seq (.ite [m v3,u (.ca N.dD 0 [] [.l 0]),u (.un .not l0),m l0,y 0 false (.mv v4),y 1 false (.ca N.dD 0 [] [.l 0]),y 2 false (.un .not l0),u (.pk l3 (.b true) l0),m l0,y 0 false (.mv v3),y 1 false (.mv v4),y 2 false (.bin .gtr l1 l0),u (.pk l3 (.b true) l0)] [] 0 (.seq (.reg [w 7 (.mv (.i 8))] []) .ret) .skip) (.seq (.reg [w 7 (.mv (.i 0))] []) .ret)))),res:=[(7,none)]}
def eT:C:=(.seq (.ite [m v8,f 1 v4,g l0,u (.ln l0),u (.bin .lss l3 l0)] [] 0 .skip (.exit 2)) (.seq (.blk 3 (.seq (.reg [f 1 v4,g l0,m v8,a 10 l1 l0,h 10 l0,w 9 (.al [.t (.int .i64 (0)),.t (.int .i64 (0)),.t (.int .i64 (0)),.t (.int .i64 (0)),.t (.bool false),.t (.bool false),.t (.int .i64 (0)),.t (.int .i64 (0)),.t (.int .i64 (0)),.t (.int .i64 (0))] []),u (.st l0 l1 10 [])] []) (.seq (.ite [m v3,u (.eqk (.sl) false l0 (.c (.nil))),m l0,y 0 false (.mv v3),y 1 false (.fa v9 1),y 2 false (.ld l0 1 false),y 3 false (.ca N.fH 0 [] [.l 2,.l 0]),u (.pk l4 (.b true) l0),m l0,y 0 true (.mv v6),y 1 true (.fa v9 0),y 2 true (.ld l0 1 false),y 3 true (.fa v9 1),y 4 true (.ld l0 1 false),y 5 true (.ld v4 2 true),y 6 true (.mv v8),y 7 true (.ca N.fX 0 [] [.l 1,.l 0,.b false]),y 8 true (.mv v2),y 9 true (.ca N.dz 0 [0] [.l 8,.l 6,.l 4,.l 1,.l 0]),u (.pk l10 l0 (.b false))] [(11,17),(13,17)] 0 (.reg [w 7 (.mv (.b true))] []) .skip) (.ite [m v3,u (.eqk (.sl) false l0 (.c (.nil))),m l0,y 0 false (.mv v3),y 1 false (.fa v9 0),y 2 false (.ld l0 1 false),y 3 false (.ca N.fH 0 [] [.l 2,.l 0]),u (.pk l4 (.b true) l0),m l0,y 0 true (.mv v6),y 1 true (.fa v9 1),y 2 true (.ld l0 1 false),y 3 true (.fa v9 0),y 4 true (.ld l0 1 false),y 5 true (.ld v4 2 true),y 6 true (.mv v8),y 7 true (.ca N.fX 0 [] [.l 1,.l 0,.b true]),y 8 true (.mv v2),y 9 true (.ca N.dz 0 [0] [.l 8,.l 6,.l 4,.l 1,.l 0]),u (.pk l10 l0 (.b false))] [(11,17),(13,17)] 0 (.reg [w 7 (.mv (.b true))] []) .skip)))) (.reg [m v8,u (.bin .add l0 (.i 1)),w 8 (.mv l0)] [])))
def uX:C:= .loop true [0,1,5,9] K.eT
def lE:C:=(.seq (.ite [m v7] [] 0 .skip (.exit 0)) (.blk 1 (.seq (.reg [w 7 (.mv (.b false))] []) (.seq (.reg [w 8 (.mv (.i 0))] []) (.blk 2 K.uX)))))
def uY:C:= .loop true [0,1,5,8,9] K.lE
def ft:Fn:={ nargs:=4,vars:=[0,1,2,3,4,8,9,10,11,12],body:=(.seq (.reg [w 4 (.bx v0 2),w 5 (.mv (.c (.nil)))] []) (.seq (.reg [m v1,u (.app (.c (.nil)) l0 true 1),w 6 (.mv l0)] []) (.seq (.seq (.reg [w 7 (.mv (.b true))] []) (.blk 0 K.uY)) (.seq (.reg [m v6,w 5 (.mv l0)] []) .ret)))),res:=[(5,none)]}
def dH:C:=(.its [u (.bin .lss v5 v4)] [] 0 .skip (.exit 0) (.seq (.blk 1 (.seq (.reg [m v5,w 3 (.mv l0)] []) (.ite [m v1,m v0,m v3,a 1 l1 l0,g l0,u (.cw l4 0 [] [.l 0])] [] 0 (.seq (.reg [m v3,w 2 (.mv l0)] []) .ret) .skip))) (.reg [u (.bin .add v5 (.i 1)),w 5 (.mv l0)] [])))
def jG:C:= .loop true [2,3] K.dH
def bk:Fn:={ nargs:=2,vars:=[0,1,4,5,7,8],body:=(.seq (.reg [w 2 (.mv (.i 0))] []) (.seq (.seq (.reg [m v0,w 4 (.ln l0),w 5 (.mv (.i 0))] []) (.blk 0 K.jG)) (.seq (.reg [w 2 (.mv (.i (-1)))] []) .ret))),res:=[(2,none)]}
def fk:C:=(.its [u (.bin .lss v5 v4)] [] 0 .skip (.exit 0) (.seq (.blk 1 (.seq (.reg [m v5,w 3 (.mv l0)] []) (.ite [m v1,m v0,m v3,a 1 l1 l0,g l0,u (.bin .eql l4 l0)] [] 0 (.seq (.reg [m v3,w 2 (.mv l0)] []) .ret) .skip))) (.reg [u (.bin .add v5 (.i 1)),w 5 (.mv l0)] [])))
def lF:C:= .loop true [2,3] K.fk
def bN:Fn:={ nargs:=2,vars:=[0,1,4,5,7,8],body:=(.seq (.reg [w 2 (.mv (.i 0))] []) (.seq (.seq (.reg [m v0,w 4 (.ln l0),w 5 (.mv (.i 0))] []) (.blk 0 K.lF)) (.seq (.reg [w 2 (.mv (.i (-1)))] []) .ret))),res:=[(2,none)]}
def bX:Fn:={ nargs:=4,vars:=[0,1,2,3,4,5],body:=(.seq (.reg [w 4 (.bx v0 1),w 5 (.mv (.b false))] []) (.seq (.reg [f 0 v1,g l0,u (.mf N.bu [.v 2,.v 4,.v 3]),u (.ca N.aq 0 [] [.l 1,.l 0]),w 5 (.mv l0)] []) .ret)),res:=[(5,none)]}
def aq:Fn:={ nargs:=2,vars:=[0,1,4],body:=(.seq (.reg [w 2 (.mv (.b false))] []) (.seq (.reg [m v0,m v1,u (.ca N.aF 0 [] [.l 1,.l 0]),u (.bin .geq l0 (.i 0)),w 2 (.mv l0)] []) .ret)),res:=[(2,none)]}
def bu:Fn:={ nargs:=4,vars:=[0,1,2,3,4,5],body:=(.seq (.reg [w 4 (.bx v0 2),w 5 (.mv (.b false))] []) (.seq (.reg [g v1,f 1 v4,g l0,u (.ln l0),u (.bin .sub l0 (.i 1)),u (.ca N.fg 0 [] [.l 4,.i 0,.l 0]),m l0,y 0 true (.ld v2 1 false),y 1 true (.fa v4 1),y 2 true (.ld l0 1 false),y 3 true (.ld v1 1 false),y 4 true (.ia l1 l0 2),y 5 true (.fa l0 1),y 6 true (.ld l0 1 false),y 7 true (.ln l0),y 8 true (.bin .lss l7 l0),u (.pk l9 l0 (.b false)),m l0,y 0 true (.fa v4 1),y 1 true (.ld l0 1 false),y 2 true (.ld v1 1 false),y 3 true (.ia l1 l0 2),y 4 true (.fa l0 1),y 5 true (.ld l0 1 false),y 6 true (.ld v2 1 false),y 7 true (.ia l1 l0 1),y 8 true (.ld l0 1 false),y 9 true (.ld v3 1 false),y 10 true (.bin .leq l1 l0),u (.pk l11 l0 (.b false)),w 5 (.mv l0)] []) .ret)),res:=[(5,none)]}
def fg:Fn:={ nargs:=3,vars:=[0,1,2,6],body:=(.seq (.reg [w 3 (.mv (.b false))] []) (.seq (.reg [m v0,m v1,u (.bin .geq l1 l0),m l0,y 0 true (.mv v0),y 1 true (.mv v2),y 2 true (.bin .leq l1 l0),u (.pk l3 l0 (.b false)),w 3 (.mv l0)] []) .ret)),res:=[(3,none)]}
def iz:C:=(.seq (.ite [m v4,f 1 v2,g l0,u (.ln l0),u (.bin .lss l3 l0)] [] 0 .skip (.exit 0)) (.seq (.blk 1 (.ite [f 1 v2,g l0,m v4,a 1 l1 l0,g l0,u (.bin .neq l0 (.i 1099511627776)),m l0,y 0 true (.fa v2 1),y 1 true (.ld l0 1 false),y 2 true (.mv v4),y 3 true (.ia l1 l0 1),y 4 true (.ld l0 1 false),y 5 true (.bin .lss l0 (.i 0)),y 6 true (.mv l0),y 0 false (.fa v2 1),y 1 false (.ld l0 1 false),y 2 false (.mv v4),y 3 false (.ia l1 l0 1),y 4 false (.ld l0 1 false),y 5 false (.bin .gtr l0 (.i 2147483648)),y 13 true (.pk l6 (.b true) l0),u (.pk (.l 14) l0 (.b false))] [] 0 (.seq (.reg [w 3 (.mv (.b false))] []) .ret) .skip)) (.reg [m v4,u (.bin .add l0 (.i 1)),w 4 (.mv l0)] [])))
def uZ:C:= .loop true [0,1,3] K.iz
def eC:Fn:={ nargs:=2,vars:=[0,1,2,4,5],body:=(.seq (.reg [w 2 (.bx v0 2),w 3 (.mv (.b false))] []) (.seq (.ite [f 1 v2,g l0,u (.ln l0),m v1,u (.bin .neq l1 l0),m l0,y 0 false (.fa v2 0),y 1 false (.ld l0 1 false),y 2 false (.bin .lss l0 (.i 0)),u (.pk l3 (.b true) l0),m l0,y 0 false (.fa v2 0),y 1 false (.ld l0 1 false),y 2 false (.bin .gtr l0 (.i 2147483648)),u (.pk l3 (.b true) l0)] [] 0 (.seq (.reg [w 3 (.mv (.b false))] []) .ret) .skip) (.seq (.seq (.reg [w 4 (.mv (.i 0))] []) (.blk 0 K.uZ)) (.seq (.reg [w 3 (.mv (.b true))] []) .ret)))),res:=[(3,none)]}
def dz:Fn:={ nargs:=5,vars:=[0,1,2,3,4,10,11],body:=(.seq (.reg [w 5 (.mv (.b false))] []) (.seq (.ite [m v3,u (.bin .lss l0 (.i 0)),m l0,y 0 false (.mv v0),y 1 false (.mv v1),y 2 false (.ia l1 l0 1),y 3 false (.ld l0 1 false),y 4 false (.bin .geq l0 (.i 1099511627776)),u (.pk l5 (.b true) l0)] [] 0 (.seq (.reg [w 5 (.mv (.b false))] []) .ret) .skip) (.seq (.reg [m v4,m v0,m v1,a 1 l1 l0,g l0,m v3,u (.bin .add l1 l0),u (.mx [.l 6,.l 0]),w 6 (.mv l0)] []) (.seq (.ite [m v6,u (.bin .gtr l0 (.i 2147483648)),m l0,y 0 false (.mv v6),y 1 false (.mv v0),y 2 false (.mv v2),y 3 false (.ia l1 l0 1),y 4 false (.ld l0 1 false),y 5 false (.bin .geq l4 l0),u (.pk l6 (.b true) l0)] [] 0 (.seq (.reg [w 5 (.mv (.b false))] []) .ret) .skip) (.seq (.reg [m v0,m v2,m v6,a 1 l2 l1,u (.st l0 l1 1 [])] []) (.seq (.reg [w 5 (.mv (.b true))] []) .ret)))))),res:=[(5,none)]}
def fX:Fn:={ nargs:=3,vars:=[0,1,2,3,6],body:=(.seq (.reg [w 3 (.bx v0 2),w 4 (.mv (.i 0))] []) (.seq (.reg [h 2 v3,m v1,m v2,u (.ca N.cg 0 [] [.l 2,.l 1,.l 0,.i 6,.i 9,.i 12]),w 4 (.mv l0)] []) .ret)),res:=[(4,none)]}
def bO:C:=(.its [u (.bin .lss v5 v4)] [] 0 .skip (.exit 0) (.seq (.blk 1 (.seq (.reg [m v5,w 3 (.mv l0)] []) (.ite [m v1,m v0,m v3,a 2 l1 l0,h 2 l0,u (.cw l4 0 [] [.l 0])] [] 0 (.seq (.reg [m v3,w 2 (.mv l0)] []) .ret) .skip))) (.reg [u (.bin .add v5 (.i 1)),w 5 (.mv l0)] [])))
def eU:C:= .loop true [2,3] K.bO
def aF:Fn:={ nargs:=2,vars:=[0,1,4,5,7,8],body:=(.seq (.reg [w 2 (.mv (.i 0))] []) (.seq (.seq (.reg [m v0,w 4 (.ln l0),w 5 (.mv (.i 0))] []) (.blk 0 K.eU)) (.seq (.reg [w 2 (.mv (.i (-1)))] []) .ret))),res:=[(2,none)]}
def cg:Fn:={ nargs:=6,vars:=[0,1,2,3,4,5,6,12,13,14,15,16,17],body:=(.seq (.reg [w 6 (.bx v0 2),w 7 (.mv (.i 0))] []) (.seq (.ite [h 2 v6,u (.ca N.cX 0 [] [.l 0]),u (.bin .neq l0 (.i 0)),m l0,y 0 false (.mv v1),y 1 false (.bin .lss l0 (.i 0)),u (.pk l2 (.b true) l0),m l0,y 0 false (.mv v1),y 1 false (.fa v6 1),y 2 false (.ld l0 1 false),y 3 false (.ln l0),y 4 false (.bin .geq l3 l0),u (.pk l5 (.b true) l0),m l0,y 0 false (.fa v6 1),y 1 false (.ld l0 1 false),y 2 false (.mv v1),y 3 false (.ia l1 l0 10),y 4 false (.fa l0 5),y 5 false (.ld l0 1 false),u (.pk l6 (.b true) l0),m l0,y 0 false (.fa v6 1),y 1 false (.ld l0 1 false),y 2 false (.mv v1),y 3 false (.ia l1 l0 10),y 4 false (.fa l0 4),y 5 false (.ld l0 1 false),y 6 false (.un .not l0),u (.pk l7 (.b true) l0)] [] 0 (.seq (.reg [w 7 (.mv (.i (-1)))] []) .ret) .skip) (.seq (.reg [f 1 v6,g l0,m v1,a 10 l1 l0,h 10 l0,w 8 (.al [.t (.int .i64 (0)),.t (.int .i64 (0)),.t (.int .i64 (0)),.t (.int .i64 (0)),.t (.bool false),.t (.bool false),.t (.int .i64 (0)),.t (.int .i64 (0)),.t (.int .i64 (0)),.t (.int .i64 (0))] []),u (.st l0 l1 10 [])] []) (.seq (.reg [h 10 v8,m v2,u (.ca N.i9 0 [] [.l 1,.l 0]),m l0,u (.ex l0 0),u (.ex l1 1),w 9 (.mv l1),w 10 (.mv l1)] []) (.seq (.reg [f 0 v6,g l0,m v10,a 2 l1 l0,f 0 l0,g l0,f 0 v6,g l0,m v9,a 2 l1 l0,f 0 l0,g l0,u (.bin .sub l6 l0),w 11 (.mv l0)] []) (.seq (.reg [m v5,w 12 (.mv l0)] []) (.seq (.ite [m v11,u (.bin .mul (.i 10) l0),f 2 v8,g l0,u (.bin .gtr l2 l0)] [] 0 (.reg [m v3,w 12 (.mv l0)] []) .skip) (.seq (.ite [m v11,u (.bin .mul (.i (-10)) l0),f 2 v8,g l0,u (.bin .gtr l2 l0)] [] 0 (.reg [m v4,w 12 (.mv l0)] []) .skip) (.seq (.reg [f 2 v8,g l0,u (.bin .mul (.i 10) l0),m v12,u (.bin .add l1 l0),u (.bin .sub l0 (.i 1)),m v12,u (.bin .quo l1 l0),w 7 (.mv l0)] []) .ret))))))))),res:=[(7,none)]}
def i9:Fn:={ nargs:=2,vars:=[0,1,2,4,5],body:=(.seq (.reg [w 2 (.bx v0 10),w 3 (.mv (.i 0)),w 4 (.mv (.i 0))] []) (.seq (.ite [m v1] [] 0 (.seq (.reg [f 1 v2,g l0,f 0 v2,g l0,w 3 (.mv l2),w 4 (.mv l1)] []) .ret) .skip) (.seq (.reg [f 0 v2,g l0,f 1 v2,g l0,w 3 (.mv l2),w 4 (.mv l1)] []) .ret))),res:=[(3,none),(4,none)]}
end Go.Ev.K
namespace Go.Ev
class bL [Lib]:Prop where
 pe:Lib.fs N.ew=some K.ew
 qS:Lib.fs N.cH=some K.cH
 jP:Lib.fs N.bC=some K.bC
 s9:Lib.fs N.i7=some K.i7
 qT:Lib.fs N.ez=some K.ez
 pf:Lib.fs N.fW=some K.fW
 qU:Lib.fs N.eB=some K.eB
 pN:Lib.fs N.cZ=some K.cZ
 vQ:Lib.fs N.iX=some K.iX
 pO:Lib.fs N.c7=some K.c7
 nY:Lib.fs N.bZ=some K.bZ
 fv:Lib.fs N.az=some K.az
 gX:Lib.fs N.aO=some K.aO
 nD:Lib.fs N.dM=some K.dM
 tc:Lib.fs N.iu=some K.iu
 pP:Lib.fs N.dD=some K.dD
 qV:Lib.fs N.gn=some K.gn
 qW:Lib.fs N.dQ=some K.dQ
 te:Lib.fs N.iv=some K.iv
 qX:Lib.fs N.fq=some K.fq
 pg:Lib.fs N.cz=some K.cz
 nE:Lib.fs N.bI=some K.bI
 th:Lib.fs N.iw=some K.iw
 qY:Lib.fs N.cI=some K.cI
 qZ:Lib.fs N.ft=some K.ft
 gL:Lib.fs N.bk=some K.bk
 ji:Lib.fs N.bN=some K.bN
 lG:Lib.fs N.bX=some K.bX
 cC:Lib.fs N.aq=some K.aq
 jZ:Lib.fs N.bu=some K.bu
 yp:Lib.fs N.fg=some K.fg
 rk:Lib.fs N.eC=some K.eC
 rm:Lib.fs N.dz=some K.dz
 tn:Lib.fs N.fX=some K.fX
 cO:Lib.fs N.aF=some K.aF
 pQ:Lib.fs N.cg=some K.cg
 tq:Lib.fs N.i9=some K.i9
namespace K
variable [Lib] [bL]
theorem pe:Lib.fs N.ew=some K.ew:=bL.pe
theorem qS:Lib.fs N.cH=some K.cH:=bL.qS
theorem jP:Lib.fs N.bC=some K.bC:=bL.jP
theorem s9:Lib.fs N.i7=some K.i7:=bL.s9
theorem qT:Lib.fs N.ez=some K.ez:=bL.qT
theorem pf:Lib.fs N.fW=some K.fW:=bL.pf
theorem qU:Lib.fs N.eB=some K.eB:=bL.qU
theorem pN:Lib.fs N.cZ=some K.cZ:=bL.pN
theorem vQ:Lib.fs N.iX=some K.iX:=bL.vQ
theorem pO:Lib.fs N.c7=some K.c7:=bL.pO
theorem nY:Lib.fs N.bZ=some K.bZ:=bL.nY
theorem fv:Lib.fs N.az=some K.az:=bL.fv
theorem gX:Lib.fs N.aO=some K.aO:=bL.gX
theorem nD:Lib.fs N.dM=some K.dM:=bL.nD
theorem tc:Lib.fs N.iu=some K.iu:=bL.tc
theorem pP:Lib.fs N.dD=some K.dD:=bL.pP
theorem qV:Lib.fs N.gn=some K.gn:=bL.qV
theorem qW:Lib.fs N.dQ=some K.dQ:=bL.qW
theorem te:Lib.fs N.iv=some K.iv:=bL.te
theorem qX:Lib.fs N.fq=some K.fq:=bL.qX
theorem pg:Lib.fs N.cz=some K.cz:=bL.pg
theorem nE:Lib.fs N.bI=some K.bI:=bL.nE
theorem th:Lib.fs N.iw=some K.iw:=bL.th
theorem qY:Lib.fs N.cI=some K.cI:=bL.qY
theorem qZ:Lib.fs N.ft=some K.ft:=bL.qZ
theorem gL:Lib.fs N.bk=some K.bk:=bL.gL
theorem ji:Lib.fs N.bN=some K.bN:=bL.ji
theorem lG:Lib.fs N.bX=some K.bX:=bL.lG
theorem cC:Lib.fs N.aq=some K.aq:=bL.cC
theorem jZ:Lib.fs N.bu=some K.bu:=bL.jZ
theorem yp:Lib.fs N.fg=some K.fg:=bL.yp
theorem rk:Lib.fs N.eC=some K.eC:=bL.rk
theorem rm:Lib.fs N.dz=some K.dz:=bL.rm
theorem tn:Lib.fs N.fX=some K.fX:=bL.tn
theorem cO:Lib.fs N.aF=some K.aF:=bL.cO
theorem pQ:Lib.fs N.cg=some K.cg:=bL.pQ
theorem tq:Lib.fs N.i9=some K.i9:=bL.tq
end K
end Go.Ev
namespace Go.Ev
open Go
variable [Lib]
noncomputable def aE:aT:=ot Lib.fs
theorem ak{raw f:Nat}{args:List D}{H:ai}{fn:Fn}{r:D×ai}(hf:Lib.fs f=some fn)(hn:fn.nargs=args.length)
 (h:(exS aE fn.body ⟨uO args fn.vars,H⟩).bind (adn fn.res H.length raw)=some r) (h0:fn.prim=[]:=by rfl):aE raw f args H=some r:=UC hf hn h h0
theorem FD{raw f:Nat}{args:List D}{H:ai}{fn:Fn}{r:D×ai}(hf:Lib.fs f=some fn)(h0:fn.prim≠[])(h:ya fn.prim args H=some r):aE raw f args H=some r:=KD hf h0 h
theorem bR{gc:Bool}{dead:List Nat}{c:C}{vs:List D}{H:ai}(s:Nat→St)(n:Nat){e:Ex}{st:St}
 (h0:(⟨j7 dead vs,H⟩:St)=s 0) (h:∀j,j<n→fG gc dead (s j).H.length (exS aE c (s j))=some (s (j+1)))
 (he:exS aE c (s n)=some (e,st)) (hn:e≠ .normal):exS aE (.loop gc dead c) ⟨vs,H⟩=some (e,st):=by
 show nV gc dead (exS aE c) ⟨j7 dead vs,H⟩=_
 rw[h0]
 exact zV s n h (cN he hn)
theorem yq{gc:Bool}{dead:List Nat}{c:C}{vs:List D}{H:ai}{p:Ex×St}(h:nV gc dead (exS aE c) ⟨j7 dead vs,H⟩=some p):exS aE (.loop gc dead c) ⟨vs,H⟩=some p:=h
class Dat (α:Type) where
 dflt:α
instance : Dat Int := ⟨0⟩
instance : Dat Nat := ⟨0⟩
instance : Dat Bool := ⟨false⟩
instance {α : Type} : Dat (List α) := ⟨[]⟩
def nth{α:Type} [Dat α](l:List α)(j:Nat):α:=l.getD j Dat.dflt
theorem fQ{α:Type} [Dat α]{l:List α}{j:Nat}(h:j<l.length):l[j]?=some (nth l j):=by simp[nth,h]
theorem bP{α β:Type} [Dat α](f:α→β){l:List α}{j:Nat}(h:j<l.length):(l.map f)[j]?=some (f (nth l j)):=by rw[List.getElem?_map,fQ h];rfl
theorem lH{α β γ:Type} [Dat α](f:β→γ)(g:α→β){l:List α}{j:Nat}(h:j<l.length):((l.map g).map f)[j]?=some (f (g (nth l j))):=by rw[List.getElem?_map,bP g h];rfl
theorem ae{α:Type} [Dat α]{l:List α}{j:Nat}(h:j<l.length):nth l j∈l:=List.mem_of_getElem? (fQ h)
theorem bG{α:Type} [Dat α]{l:List α}{j:Nat}{x:α}(h:l[j]?=some x):nth l j=x:=by simp[nth,h]
theorem jQ{α:Type} [Dat α]{l:List α}{j:Nat}(h:j<l.length):l.take (j+1)=l.take j++[nth l j]:=by
 rw[List.take_succ_eq_append_getElem h];simp[nth,h]
theorem agM{a b:Int}(h:a<b):(a<b)=True:=by simp[h]
theorem agN{a b:Int}(h:b≤a):(a<b)=False:=by simp[Int.not_lt.2 h]
theorem agO{a b:Int}(h:a≤b):(a≤b)=True:=by simp[h]
theorem agP{a b:Int}(h:b<a):(a≤b)=False:=by simp[Int.not_le.2 h]
theorem agQ{a b:Int}(h:a=b):(a=b)=True:=by simp[h]
theorem agR{a b:Int}(h:a≠b):(a=b)=False:=by simp[h]
theorem agS{a b:Nat}(h:a<b):(a<b)=True:=by simp[h]
theorem agT{a b:Nat}(h:b≤a):(a<b)=False:=by simp[Nat.not_lt.2 h]
theorem agU{a b:Nat}(h:a≤b):(a≤b)=True:=by simp[h]
theorem agV{a b:Nat}(h:b<a):(a≤b)=False:=by simp[Nat.not_le.2 h]
theorem agW{a b:Nat}(h:a=b):(a=b)=True:=by simp[h]
theorem agX{a b:Nat}(h:a≠b):(a=b)=False:=by simp[h]
attribute [go_sem] agW agX agM agN agO agP agQ agR agS agT agU agV yn bP lH UP
@[go_sem] theorem KM (a b : Nat) : ((a + b : Nat) : Int) = (a : Int) + (b : Int) := (rfl)
@[go_sem] theorem KN : ((1 : Nat) : Int) = 1 := (rfl)
@[go_sem] theorem HP : ((0 : Nat) : Int) = 0 := (rfl)
@[go_sem] theorem abA (a b : Int) : a + b - b = a := Int.add_sub_cancel a b
@[go_sem] theorem SN : (0 : Int).toNat = 0 := (rfl)
@[go_sem] theorem Vp (n : Nat) : (n : Int).toNat = n := (rfl)
@[go_sem] theorem Vq (n : Nat) : ((n : Int) + 1).toNat = n + 1 := (rfl)
@[go_sem] theorem Vr (a : Int) : 0 + a = a := Int.zero_add a
abbrev tI(n:Int):T:= .int .i64 n
abbrev tL(l:List Int):T:= .sl (l.map (.int .i64))
@[go_sem] theorem SO {α β : Type} (f : α → β) (a b : List α) : (a ++ b).map f = a.map f ++ b.map f := List.map_append
end Go.Ev
namespace Go.Ev
open Go
variable [Lib] [bW] [bL]
def Mod(n m:Int):Int:=if m<1 then 0 else if n.tmod m<0 then n.tmod m+m else n.tmod m
theorem abB(n m:Int):0≤Mod n m:=by
 unfold Mod
 split
 · omega
 · have h5:=Int.lt_tmod_of_pos n (b:=m) (by omega)
   split<;>omega
theorem abC(n m:Int)(h:1≤m):Mod n m<m:=by
 unfold Mod
 rw[if_neg (by omega)]
 have h3:=Int.tmod_lt_of_pos n (b:=m) (by omega)
 split<;>omega
theorem abD(n m:Int)(hm:m≤4611686018427387904):aE 0 N.kr [I n,I m] []=some (I (Mod n m),[]):=by
 refine ak K.yo rfl ?_
 unfold Mod
 by_cases h1:m<1
 · simp only[go_sem,K.kr,h1,↓reduceIte]
 · have h2:m≠0:=by omega
   have h3:=Int.tmod_lt_of_pos n (b:=m) (by omega)
   have h5:=Int.lt_tmod_of_pos n (b:=m) (by omega)
   by_cases h4:n.tmod m<0
   · simp(disch:=omega)only[go_sem,K.kr,h1,↓reduceIte,h2,h4]
   · simp(disch:=omega)only[go_sem,K.kr,h1,↓reduceIte,h2,h4]
theorem QS(l:List Int):aE 0 N.i6 [.t (tL l)] []=some (B (decide (l.length≤400)),[]):=by
 refine ak K.s6 rfl ?_
 simp(disch:=omega)only[go_sem,K.i6,↓reduceIte]
 simp only[show((l.length:Int)≤400)=(l.length≤400)by rw[eq_iff_iff];omega]
structure aD where
 L:List Int
 at_:Nat
def aD.obj(d:aD):Obj:= .box [.t (tL d.L),I d.at_]
def aD.eD(d:aD):Prop:=d.L.length≤400
def aD.next(d:aD)(n:Int):Int×aD:=if d.at_<d.L.length then(Mod (nth d.L d.at_) n,⟨d.L,d.at_+1⟩)else(0,d)
theorem aD.SP(d:aD)(n:Int):(d.next n).2.L=d.L:=by unfold aD.next;split<;>rfl
theorem aD.aW{d:aD}(h:d.eD)(n:Int):(d.next n).2.eD:=by unfold aD.eD;rw[d.SP];exact h
theorem aD.ei(d:aD)(n:Int):0≤(d.next n).1:=by unfold aD.next;split<;>simp[abB]
theorem aD.en(d:aD){n:Int}(h:1≤n):(d.next n).1<n:=by unfold aD.next;split<;>simp[abC _ _ h];omega
theorem gY(d:aD)(n:Int)(hn:n≤4611686018427387904)(hd:d.eD):aE 0 N.aB [.bp 0 0,I n] [d.obj]=some (I (d.next n).1,[(d.next n).2.obj]):=by
 refine ak K.nq rfl ?_
 have hm:=abD (nth d.L d.at_) n hn
 unfold aD.eD at hd
 unfold aD.next aD.obj
 by_cases h1:d.at_<d.L.length
 · simp(disch:=omega)only[go_sem,K.aB,↓reduceIte,↓if_pos,↓if_neg,Int.add_sub_cancel,hm,Int.natCast_add]
 · simp(disch:=omega)only[go_sem,K.aB,↓reduceIte,↓if_pos,↓if_neg]
@[go_sem] theorem aep (d : aD) : Jq (some d.obj) = [] := by simp only [aD.obj, go_sem]
@[go_sem] theorem aeq (f : Nat → Option Nat) (d : aD) : bY f d.obj = some d.obj := by simp only [aD.obj, go_sem]
@[go_sem] theorem aer (k : Nat) (d : aD) (r : ai) : gK k (d.obj :: r) = gK k r := by simp only [aD.obj, go_sem]
def aD.one(d:aD)(n:Int):Bool×aD:=(decide ((d.next n).1=n-1),(d.next n).2)
theorem aD.FE{d:aD}(h:d.eD)(n:Int):(d.one n).2.eD:=aD.aW h n
theorem SQ(d:aD)(n:Int)(h1:0≤n)(hn:n≤4611686018427387904)(hd:d.eD):aE 0 N.dP [.bp 0 0,I n] [d.obj]=some (B (d.one n).1,[(d.one n).2.obj]):=by
 refine ak K.oz rfl ?_
 have hm:=gY d n hn hd
 unfold aD.one
 simp(disch:=omega)only[go_sem,K.dP,↓reduceIte,hm]
def aD.of(d:aD)(l:List Int):Int×aD:=(nth l (d.next l.length).1.toNat,(d.next l.length).2)
theorem aD.rn{d:aD}(h:d.eD)(l:List Int):(d.of l).2.eD:=aD.aW h _
theorem aD.zf(d:aD){l:List Int}(h:l≠[]):(d.of l).1∈l:=by
 unfold aD.of
 have hl:0<l.length:=List.length_pos_iff.2 h
 have:=d.ei l.length
 have:=d.en (n:=l.length) (by omega)
 exact ae (by omega)
theorem QT(d:aD)(l:List Int)(hl:l≠[])(hl2:l.length≤4294967296)(hd:d.eD):aE 0 N.dC [.bp 0 0,.t (tL l)] [d.obj]=some (I (d.of l).1,[(d.of l).2.obj]):=by
 refine ak K.pF rfl ?_
 have hm:=gY d l.length (by omega) hd
 have h0:0<l.length:=List.length_pos_iff.2 hl
 have h1:=d.ei l.length
 have h2:=d.en (n:=l.length) (by omega)
 unfold aD.of
 simp(disch:=omega)only[go_sem,K.dC,↓reduceIte,hm]
def aD.m0(d:aD):Nat→List Int×aD
 | 0=>([],d)
 | k+1=>(if((d.m0 k).2.next 3).1=0 then(d.m0 k).1++[(k:Int)]else(d.m0 k).1,((d.m0 k).2.next 3).2)
theorem aD.mC{d:aD}(h:d.eD):∀n,(d.m0 n).2.eD
 | 0=>h
 | n+1=>aD.aW (aD.mC h n) 3
theorem aD.xo(d:aD):∀n,(d.m0 n).1.length≤n
 | 0=>Nat.le_refl _
 | n+1=>by
   have:=d.xo n
   unfold aD.m0
   simp only
   split<;>simp<;>omega
theorem Nz(d:aD)(n:Nat)(hn:n≤1000000)(hd:d.eD):aE 0 N.b8 [.bp 0 0,I n] [d.obj]=some (.t (tL (d.m0 n).1),[(d.m0 n).2.obj]):=by
 refine ak K.nu rfl ?_
 have hlen:=d.xo
 have loop:exS aE K.qo ⟨[.bp 0 0,I n,.nil,.ref 1 0 0,I 0],[d.obj,.arr 1 false 0 []]⟩=
  some (.exit 0,⟨[.bp 0 0,I n,.und,.ref 1 0 (d.m0 n).1.length,I n],[(d.m0 n).2.obj,.arr 1 false 0 (((d.m0 n).1.map (T.int .i64)).map .t)]⟩):=by
  refine bR (fun j=>⟨[.bp 0 0,I n,.und,.ref 1 0 (d.m0 j).1.length,I j],[(d.m0 j).2.obj,.arr 1 false 0 (((d.m0 j).1.map (T.int .i64)).map .t)]⟩) n rfl ?_ ?_ (by simp)
  · intro j hj
    have hm:=gY (d.m0 j).2 3 (by omega) (aD.mC hd j)
    have:=hlen j
    by_cases h:((d.m0 j).2.next 3).1=0
    · simp(disch:=omega)only[go_sem,K.jv,hm,h,aD.m0,↓reduceIte]
    · simp(disch:=omega)only[go_sem,K.jv,hm,h,aD.m0,↓reduceIte]
  · simp(disch:=omega)only[go_sem,K.jv,↓reduceIte]
 simp(disch:=omega)only[go_sem,K.b8,↓reduceIte,loop]
theorem cE{gc:Bool}{dead:List Nat}{c:C}{vs:List D}{H:ai}(s:Nat→St)(n:Nat)(p:Nat→Bool)(e:Nat→Ex×St)(eN:Ex×St)
 (h0:(⟨j7 dead vs,H⟩:St)=s 0) (hs:∀j,j<n→p j=false→fG gc dead (s j).H.length (exS aE c (s j))=some (s (j+1)))
 (he:∀j,j<n→p j=true→exS aE c (s j)=some (e j)∧(e j).1≠ .normal) (hN:exS aE c (s n)=some eN) (hn:eN.1≠ .normal):
 exS aE (.loop gc dead c) ⟨vs,H⟩=some (match (List.range n).find? p with | some j=>e j | none=>eN):=by
 show nV gc dead (exS aE c) ⟨j7 dead vs,H⟩=_
 rw[h0]
 cases hf:(List.range n).find? p with
 | none=>
   refine zV s n (fun j hj=>hs j hj ?_) (cN hN hn)
   have:=List.find?_eq_none.1 hf j (List.mem_range.2 hj)
   simpa using this
 | some k=>
   obtain⟨h1,as,bs,h2,h3⟩:=List.find?_eq_some_iff_append.1 hf
   have hk:k<n:=List.mem_range.1 (List.mem_of_find?_eq_some hf)
   have hlt:∀j,j<k→p j=false:=by
    intro j hj
    have hlen:as.length=k:=by
     have h4:(List.range n)[as.length]?=some k:=by rw[h2];simp
     have h5:as.length<n:=by
      have:=congrArg List.length h2;simp at this;omega
     rw[List.getElem?_range h5]at h4
     exact Option.some.inj h4
    have:j∈as:=by
     have h6:(List.range n)[j]?=some j:=List.getElem?_range (by omega)
     rw[h2,List.getElem?_append_left (by omega)]at h6
     exact List.mem_of_getElem? h6
    simpa using h3 j this
   obtain⟨k1,k2⟩:=he k hk h1
   exact zV s k (fun j hj=>hs j (by omega) (hlt j hj)) (cN k1 k2)
def iK{α:Type}(f:α→α×Bool):Nat→α→α
 | 0,l=>l
 | n+1,l=>if(f l).2 then iK f n (f l).1 else(f l).1
theorem yr{α:Type}{gc:Bool}{dead:List Nat}{c:C}{vs:List D}{H:ai}(S:α→Bool→St)(E:α→Ex×St)(f:α→α×Bool)(inv:α→Prop)(mes:α→Nat)
 (hinv:∀l,inv l→inv (f l).1∧((f l).2=true→mes (f l).1<mes l))
 (hs:∀l,inv l→fG gc dead (S l true).H.length (exS aE c (S l true))=some (S (f l).1 (f l).2))
 (he:∀l,inv l→exS aE c (S l false)=some (E l)∧(E l).1≠ .normal) (l:α) (hl:inv l) (h0:(⟨j7 dead vs,H⟩:St)=S l true):
 exS aE (.loop gc dead c) ⟨vs,H⟩=some (E (iK f (mes l+1) l))∧inv (iK f (mes l+1) l):=by
 have key:∀(n:Nat) (l:α),inv l→mes l<n→nV gc dead (exS aE c) (S l true)=some (E (iK f n l))∧inv (iK f n l):=by
  intro n
  induction n with
  | zero=>intro l _ h;omega
  | succ n ih=>
    intro l hl hm
    obtain⟨h1,h2⟩:=hinv l hl
    have hr:=hs l hl
    cases hf:(f l).2 with
    | true=>
      rw[hf]at hr
      obtain⟨k1,k2⟩:=ih (f l).1 h1 (by have:=h2 hf;omega)
      simp only[iK,hf,if_true]
      exact⟨jO hr k1,k2⟩
    | false=>
      rw[hf]at hr
      obtain⟨k1,k2⟩:=he (f l).1 h1
      simp only[iK,hf,Bool.false_eq_true,if_false]
      exact⟨jO hr (cN k1 k2),h1⟩
 have:=key (mes l+1) l hl (Nat.lt_succ_self _)
 show nV gc dead (exS aE c) ⟨j7 dead vs,H⟩=_∧_
 rw[h0];exact this
theorem DA{n:Nat}{p:Nat→Bool}:((List.range n).find? p).isSome=(List.range n).any p:=by
 rw[List.isSome_find?]
theorem AT{n j:Nat}{p:Nat→Bool}(h:(List.range n).find? p=some j):j<n∧p j=true:=⟨List.mem_range.1 (List.mem_of_find?_eq_some h),List.find?_some h⟩
def fY(m:Nat):List D:=(List.range m).map fun i=> .bp i 0
def aU(bs:List (List T)):ai:=bs.map fun cs=> .box (cs.map .t)
theorem Cy{bs:List (List T)}{i:Nat}(h:i<bs.length):(aU bs)[i]?=some (.box (bs[i].map .t)):=by simp[aU,h]
theorem fZ(bs:List (List T)):(aU bs).length=bs.length:=by simp[aU]
theorem jR:∀(l sel:List Nat),(sel++l).Nodup→eJ sel l=sel++l
 | [],sel,_=>by simp[eJ]
 | i::r,sel,h=>by
   have:sel.contains i=false:=by
    rw[← Bool.not_eq_true,List.contains_iff_mem]
    intro hm
    have:=List.nodup_append.1 h
    exact this.2.2 i hm i List.mem_cons_self rfl
   simp only[eJ,this,Bool.false_eq_true,if_false]
   rw[jR r (sel++[i]) (by simpa using h)]
   simp
theorem iL:∀(l:List Nat) (i k:Nat),l.Nodup→l[k]?=some i→idxOf l i=some k
 | [],i,k,_,h=>by simp at h
 | a::l,i,0,_,h=>by simp at h;simp[idxOf,h]
 | a::l,i,k+1,hn,h=>by
   simp at h
   have hne:a≠i:=fun e=>(List.nodup_cons.1 hn).1 (e▸List.mem_of_getElem? h)
   simp only[idxOf,if_neg hne,iL l i k (List.nodup_cons.1 hn).2 h,Option.map_some]
theorem HQ{m i:Nat}(h:i<m):idxOf (List.range m) i=some i:=iL _ _ _ List.nodup_range (List.getElem?_range h)
theorem vR{α:Type}{f:α→Option α}:∀ {l:List α},(∀x∈l,f x=some x)→bA f l=some l
 | [],_=>rfl
 | a::l,h=>by
   simp only[bA,h a List.mem_cons_self,Option.bind_some,vR fun x hx=>h x (List.mem_cons_of_mem _ hx),Option.map_some]
theorem HR(f:Nat→Option Nat)(cs:List T):bY f (.box (cs.map .t))=some (.box (cs.map .t)):=by
 simp only[KJ,uu,Option.map_some]
theorem qt{H:ai}:∀ {l:List Nat} {hs:ai},l.length=hs.length→(∀(k i:Nat) (o:Obj),l[k]?=some i→hs[k]?=some o→H[i]?=some o)→pick H l=some hs
 | [],[],_,_=>rfl
 | [],_::_,h,_=>by simp at h
 | _::_,[],h,_=>by simp at h
 | i::l,o::hs,h,hg=>by
   rw[Nt,hg 0 i o rfl rfl,Option.bind_some,QN,qt (l:=l) (hs:=hs) (by simpa using h) fun k i o hk ho=>hg (k+1) i o (by simpa using hk) (by simpa using ho)]
   rfl
theorem zg{H:ai}:∀ {l:List Nat} {os:ai},(∀(k i:Nat) (o:Obj),l[k]?=some i→os[k]?=some o→H[i]?=some o)→dw H l os=H
 | [],os,_=>by cases os<;>rfl
 | i::l,[],_=>rfl
 | i::l,o::os,hg=>by
   simp only[dw]
   rw[Dy (hg 0 i o rfl rfl)]
   exact zg fun k i o hk ho=>hg (k+1) i o (by simpa using hk) (by simpa using ho)
theorem FF(call:aT)(bs:List (List T))(E:ai)(f raw:Nat)(args:List D){r:D}(h:call raw f args (aU bs)=some (r,aU bs))(hr:zB r=true)
 (ha:∀H:ai,qE H [] 0 args=some args∧cM H [] 0 args=[]) (hids:eJ [] (BM 8 args)=List.range bs.length)
 (hren:bA (ren (idxOf (List.range bs.length)) 8) args=some args):KG (aU bs++E) call f raw [] args=some (r,aU bs++E):=by
 generalize hH:aU bs++E=H
 have hget:∀i (hi:i<bs.length),H[i]?=some (.box (bs[i].map .t)):=fun i hi=>by
  rw[← hH,List.getElem?_append_left (by rw[fZ];exact hi),Cy hi]
 obtain⟨ha,hfz⟩:=ha H
 have hno:jA H (List.range bs.length)=[]:=by
  simp only[jA,List.flatMap_eq_nil_iff,List.mem_range]
  intro i hi
  rw[hget i hi]
  exact Jo 8 bs[i]
 have hsel:reach H 3 (List.range bs.length)=List.range bs.length:=by
  simp only[reach,hno,eJ]
 have hget2:∀(k i:Nat) (o:Obj),(List.range bs.length)[k]?=some i→(aU bs)[k]?=some o→H[i]?=some o:=by
  intro k i o hk ho
  have hkl:k<bs.length:=by have:=(List.getElem?_eq_some_iff.1 hk).1;simpa using this
  rw[List.getElem?_range hkl]at hk
  cases hk
  rw[Cy hkl]at ho
  rw[hget k hkl,←ho]
 have hpick:pick H (List.range bs.length)=some (aU bs):=qt (by simp[fZ]) hget2
 have hro:∀f:Nat→Option Nat,bA (bY f) (aU bs)=some (aU bs):=fun f=>vR fun o ho=>by
  simp only[aU,List.mem_map]at ho
  obtain⟨cs,_,rfl⟩:=ho
  exact HR f cs
 have hput:dw H (List.range bs.length) (aU bs)=H:=zg hget2
 rw[QD,QE,ha,Option.bind_some,QF,hids,hsel,QG,hren,Option.bind_some,hfz,QH]
 simp only[pins]
 rw[hpick,Option.bind_some,QI,hro,Option.bind_some,QJ,h,Option.bind_some]
 cases hb:bs with
 | nil=>
   subst hb
   have hrr:=Dt (f:=bJ [] H.length) hr
   simp only[depth]at hrr
   simp only[List.length_nil,List.range_zero,aU,List.map_nil]
   unfold vL
   split
   · rfl
   · rw[Dw,hrr,Option.bind_some,Jn]
     simp[bA,No,dw]
 | cons b bt=>
   rw[← hb]
   have hne:List.range bs.length=0::(List.range' 1 bt.length):=by rw[hb];simp[List.range_eq_range',List.range'_succ]
   have hrr:=Dt (f:=bJ (List.range bs.length) H.length) hr
   simp only[depth]at hrr
   have hw:vL H H (List.range bs.length) (r,aU bs)=FB H H.length (List.range bs.length) (r,aU bs):=by
    rw[hne];rfl
   rw[hw,Dw,hrr,Option.bind_some,Jn,hro,Option.bind_some,QK,List.length_range,List.take_of_length_le (by rw[fZ];exact Nat.le_refl _),hput,
    List.drop_eq_nil_of_le (by rw[fZ];exact Nat.le_refl _),List.append_nil]
theorem HT(H:ai)(cs:List D)(hc:∀i,qE H [] i cs=some cs∧cM H [] i cs=[]):∀(ts:List T) (i:Nat),qE H [] i (ts.map .t++cs)=some (ts.map .t++cs)∧cM H [] i (ts.map .t++cs)=[]
 | [],i=>hc i
 | t::ts,i=>by
   obtain⟨h1,h2⟩:=HT H cs hc ts (i+1)
   simp only[List.map_cons,List.cons_append,Cw,sW,HN,SF,aa9,Option.bind_some,Np,h1,h2,abp,Nl]
   exact⟨rfl,rfl⟩
theorem FH(H:ai):∀(l:List Nat) (i:Nat),qE H [] i (l.map fun i=> .bp i 0)=some (l.map fun i=> .bp i 0)∧cM H [] i (l.map fun i=> .bp i 0)=[]
 | [],i=>⟨rfl,rfl⟩
 | a::l,i=>by
   obtain⟨h1,h2⟩:=FH H l (i+1)
   simp only[List.map_cons,Cw,sW,HN,SF,U5,Option.bind_some,Np,h1,h2,abp,U9]
   exact⟨rfl,rfl⟩
theorem FI(n m:Nat):BM n (fY m)=List.range m:=by
 simp only[BM,fY,List.flatMap_map]
 have:∀l:List Nat,(l.flatMap fun a=>ids n (.bp a 0))=l:=by
  intro l
  induction l with
  | nil=>rfl
  | cons a l ih=>rw[List.flatMap_cons,ih,abt];rfl
 exact this _
theorem Jr(n m:Nat):bA (ren (idxOf (List.range m)) n) (fY m)=some (fY m):=vR fun d hd=>by
 simp only[fY,List.mem_map,List.mem_range]at hd
 obtain⟨k,hk,rfl⟩:=hd
 rw[abx,HQ hk];rfl
theorem ph{α β:Type}{f:α→Option β}:∀ {a b:List α} {x y:List β},bA f a=some x→bA f b=some y→bA f (a++b)=some (x++y)
 | [],b,x,y,h1,h2=>by simp[bA]at h1;subst h1;exact h2
 | c::a,b,x,y,h1,h2=>by
   simp only[bA,Option.bind_eq_some_iff,Option.map_eq_some_iff]at h1
   obtain⟨z,hz,r,hr,rfl⟩:=h1
   simp only[List.cons_append,bA,hz,Option.bind_some,ph hr h2,Option.map_some]
theorem NA(call:aT)(bs:List (List T))(E:ai)(f raw:Nat)(ts:List T){r:D}(h:call raw f (ts.map .t++fY bs.length) (aU bs)=some (r,aU bs))(hr:zB r=true):
 KG (aU bs++E) call f raw [] (ts.map .t++fY bs.length)=some (r,aU bs++E):=
 FF call bs E f raw _ h hr (fun H=>HT H _ (FH H _) ts 0)
  (by rw[Jp,Jo,List.nil_append,FI,jR _ _ (by simpa using List.nodup_range),List.nil_append])
  (ph (uu _ _ _) (Jr _ _))
theorem Vs(call:aT)(bs:List (List T))(E:ai)(g f raw:Nat)(ts:List T){r:D}(h:call raw f (ts.map .t++[.fn g (fY bs.length)]) (aU bs)=some (r,aU bs))(hr:zB r=true):
 KG (aU bs++E) call f raw [] (ts.map .t++[.fn g (fY bs.length)])=some (r,aU bs++E):=
 FF call bs E f raw _ h hr (fun H=>HT H _ (fun i=>⟨rfl,rfl⟩) ts 0)
  (by rw[Jp,Jo,List.nil_append,Nr,abu,FI,QM,List.append_nil,jR _ _ (by simpa using List.nodup_range),List.nil_append])
  (ph (uu _ _ _) (by rw[Fv,abz,Jr];rfl))
theorem FJ{f:Nat}{bs:List (List T)}{x:T}{r:D}(E:ai)(h:aE 0 f (.t x::fY bs.length) (aU bs)=some (r,aU bs))(hr:zB r=true):
 KG (aU bs++E) aE f 0 [] (.t x::fY bs.length)=some (r,aU bs++E):=NA aE bs E f 0 [x] h hr
theorem od{f:Nat}{bs:List (List T)}{x:T}{r:D}(h:aE 0 f (.t x::fY bs.length) (aU bs)=some (r,aU bs))(hr:zB r=true):
 KG (aU bs) aE f 0 [] (.t x::fY bs.length)=some (r,aU bs):=by
 have:=FJ [] h hr;rwa [List.append_nil]at this
theorem yu(call:aT)(bs:List (List T))(g f raw:Nat)(x:T){r:D}(h:call raw f [.t x,.fn g (fY bs.length)] (aU bs)=some (r,aU bs))(hr:zB r=true):
 KG (aU bs) call f raw [] [.t x,.fn g (fY bs.length)]=some (r,aU bs):=by
 have:=Vs call bs [] g f raw [x] h hr
 rwa [List.append_nil]at this
section
variable (bs : List (List T)) (o o' : Obj)
@[go_sem] theorem QU : (aU bs).length = bs.length := fZ bs
@[go_sem] theorem YW : (aU bs ++ [o])[bs.length]? = some o := by
 rw[List.getElem?_append_right (by rw[fZ];exact Nat.le_refl _),fZ];simp
@[go_sem] theorem abE : (aU bs ++ [o]).set bs.length o' = aU bs ++ [o'] := by
 rw[List.set_append_right _ _ (by rw[fZ];exact Nat.le_refl _),fZ];simp
@[go_sem] theorem YX : (aU bs ++ [o]).take bs.length = aU bs := by
 rw[List.take_append_of_le_length (by rw[fZ];exact Nat.le_refl _),List.take_of_length_le (by rw[fZ];exact Nat.le_refl _)]
@[go_sem] theorem Vt : (aU bs ++ [o]).take (bs.length + 1) = aU bs ++ [o] := List.take_of_length_le (by simp [fZ])
@[go_sem] theorem Vu : (aU bs).take bs.length = aU bs := List.take_of_length_le (by simp [fZ])
@[go_sem] theorem Vv (k : Nat) (a b : ai) : gK k (a ++ b) = (gK k a && gK k b) := by
 rw[← oc,←oc,←oc,List.all_append]
@[go_sem] theorem QV (k : Nat) : gK k (aU bs) = true := by
 induction bs with
 | nil=>rfl
 | cons b r ih=>
   show(ie k 8 (b.map .t)&&gK k (aU r))=true
   rw[QB,ih];rfl
@[go_sem] theorem aes (n : Nat) : ltB n (n + 1) = true := by rw [vK]; simp
@[go_sem] theorem aet (n : Nat) : ltB n n = false := by rw [vK]; simp
theorem zh(k n m:Nat)(h:m≤k):ie k n (fY m)=true:=by
 unfold ie fY
 rw[List.all_eq_true]
 intro d hd
 obtain⟨i,hi,rfl⟩:=List.mem_map.1 hd
 rw[aba,vK]
 have:=List.mem_range.1 hi
 simp;omega
@[go_sem] theorem Vw (n m : Nat) : ie m n (fY m) = true := zh _ _ _ (Nat.le_refl _)
@[go_sem] theorem SR (n m : Nat) : ie (m + 1) n (fY m) = true := zh _ _ _ (Nat.le_succ _)
end
def bz(n:Nat)(p:Nat→Bool):List Int:=((List.range n).filter p).map (fun(i:Nat)=>(i:Int))
theorem iQ(n:Nat)(p:Nat→Bool):bz (n+1) p=if p n=true then bz n p++[(n:Int)]else bz n p:=by
 unfold bz
 rw[List.range_succ,List.filter_append,List.map_append]
 by_cases h:p n=true<;>simp[h]
theorem dY(n:Nat)(p:Nat→Bool):(bz n p).length≤n:=by
 unfold bz
 rw[List.length_map]
 have:=List.length_filter_le p (List.range n)
 simpa using this
theorem zX(n:Nat)(hn:n≤1000000)(f:Nat)(bs:List (List T))(p:Nat→Bool)(h:∀k,k<n→aE 0 f (I k::fY bs.length) (aU bs)=some (B (p k),aU bs)):
 aE 0 N.bZ [I n,.fn f (fY bs.length)] (aU bs)=some (.t (tL (bz n p)),aU bs):=by
 refine ak K.nY rfl ?_
 have hlen:=fun k=>dY k p
 have loop:exS aE K.pL ⟨[I n,.fn f (fY bs.length),.nil,.ref bs.length 0 0,.und,I n,I 0],aU bs++[.arr 1 false 0 []]⟩=
  some (.exit 0,⟨[.und,.fn f (fY bs.length),.und,.ref bs.length 0 (bz n p).length,.und,I n,I n],aU bs++[.arr 1 false 0 (((bz n p).map (T.int .i64)).map .t)]⟩):=by
  refine bR (fun j=>⟨[.und,.fn f (fY bs.length),.und,.ref bs.length 0 (bz j p).length,.und,I n,I j],aU bs++[.arr 1 false 0 (((bz j p).map (T.int .i64)).map .t)]⟩) n rfl ?_ ?_ (by simp)
  · intro j hj
    have hc:=FJ [.arr 1 false 0 (((bz j p).map (T.int .i64)).map .t)] (h j hj) rfl
    have:=hlen j
    by_cases hp:p j=true
    · simp(disch:=omega)only[go_sem,K.gp,hc,hp,iQ,↓reduceIte]
    · simp(disch:=omega)only[go_sem,K.gp,hc,hp,iQ,↓reduceIte]
  · simp(disch:=omega)only[go_sem,K.gp,↓reduceIte]
 simp(disch:=omega)only[go_sem,K.bZ,↓reduceIte,loop]
end Go.Ev
namespace Go.Ev
open Go
variable [Lib] [bW] [bL]
theorem zi{α:Type}(sz:Nat)(f:α→T)(h:∀a,pE sz (f a).cells=true):∀l:List α,fP sz (l.map f)=true
 | []=>rfl
 | a::l=>by rw[List.map_cons,xf,h,zi sz f h l];rfl
@[go_sem] theorem SS (k : IntKind) (l : List Int) : fP 1 (l.map (.int k)) = true := zi 1 _ (fun _ => rfl) l
theorem FK(sz:Nat):∀ts:List T,(ts.all fun e=>e.cells.length==sz)=fP sz ts
 | []=>rfl
 | t::ts=>by
   rw[List.all_cons,xf,FK sz ts]
   congr 1
   rw[Bool.eq_iff_iff,gk];simp
section
variable (H : ai) (sz : Nat) (ts : List T) (i j : Int)
@[go_sem] theorem agY : Nh H sz (some (.t (.sl ts))) (some none) (some (some i)) = if 0 ≤ i then (if i ≤ ts.length then (if fP sz ts = true then some (.t (.sl (ts.take i.toNat)), H) else none) else none) else none := by
 simp only[Nh,Option.bind_some,sJ,bound,FK,idx]
 by_cases h1:0≤i
 · rw[if_pos h1,if_pos h1,Option.bind_some]
   by_cases h2:i≤ts.length
   · rw[if_pos h2]
     by_cases h3:fP sz ts=true
     · rw[if_pos h3,if_pos ⟨by omega,by omega,h3⟩];rfl
     · rw[if_neg h3,if_neg fun h=>h3 h.2.2];rfl
   · rw[if_neg h2,if_neg fun h=>h2 (by omega)];rfl
 · rw[if_neg h1,if_neg h1];rfl
end
def bsK(H:ai)(l:List Nat):Option T→Option (D×ai)
 | some t=>some (.t (.sl [t]),pins H l)
 | none=>none
@[go_sem] theorem aeu (H : ai) (l : List Nat) (t : T) : bsK H l (some t) = some (.t (.sl [t]), pins H l) := (rfl)
@[go_sem] theorem aev (H : ai) (sz : Nat) (cs : List D) : Ng H sz [.agg cs] = if pE sz cs = true then bsK H (fF H 8 (.agg cs)) (frz H 8 (.agg cs)) else none := by
 simp only[Ng,List.all_cons,List.all_nil,Bool.and_true,D.cells]
 by_cases h:pE sz cs=true
 · rw[if_pos h,if_pos (by simpa using gk.1 h)]
   simp only[bA,depth,List.flatMap_cons,List.flatMap_nil,List.append_nil]
   cases frz H 8 (.agg cs)<;>rfl
 · rw[if_neg h,if_neg (by intro e;exact h (gk.2 (by simpa using e)))]
def Vx(H:ai)(r:D)(os:ai):D×ai:=(r,H++os)
@[go_sem] theorem aew (H : ai) (r : D) (os : ai) : Vx H r os = (r, H ++ os) := (rfl)
def abF(H:ai)(os:ai)(r:D):Option (D×ai):=(bA (bY (bJ [] H.length)) os).map (Vx H r)
@[go_sem] theorem aex (H : ai) (os : ai) (r : D) : abF H os r = (bA (bY (bJ [] H.length)) os).map (Vx H r) := (rfl)
@[go_sem] theorem abG (H : ai) (r : D) (o : Obj) (os : ai) : sV H (r, o :: os) = (ren (bJ [] H.length) 8 r).bind (abF H (o :: os)) := by
 simp only[sV,List.isEmpty_cons,Bool.and_false,Bool.false_eq_true,if_false]
 rfl
end Go.Ev
namespace Go.Ev
open Go
variable [Lib] [bW] [bL]
structure Place where
 h:Int
 surf:Bool
instance : Dat Place := ⟨⟨0, false⟩⟩
abbrev Place.e(p:Place):T:= .agg [tI p.h,.bool p.surf]
structure Road where
 frm:Int
 to:Int
 len:Int
 area:Int
 walk:Bool
 closed:Bool
 restL:Int
 restH:Int
 liftL:Int
 liftH:Int
instance : Dat Road := ⟨⟨0, 0, 0, 0, false, false, 0, 0, 0, 0⟩⟩
abbrev Road.e(r:Road):T:= .agg [tI r.frm,tI r.to,tI r.len,tI r.area,.bool r.walk,.bool r.closed,tI r.restL,tI r.restH,tI r.liftL,tI r.liftH]
structure aM where
 places:List Place
 roads:List Road
instance : Dat aM := ⟨⟨[], []⟩⟩
abbrev aM.e(m:aM):T:= .agg [.sl (m.places.map Place.e),.sl (m.roads.map Road.e)]
structure Road.ok(n:Nat)(r:Road):Prop where
 f0:0≤r.frm
 f1:r.frm<n
 t0:0≤r.to
 t1:r.to<n
 ne:r.frm≠r.to
 l0:1≤r.len
 l1:r.len≤100000
 a0:1≤r.area
 a1:r.area≤1000
 r0:1≤r.restL
 r1:r.restL≤r.restH
 r2:r.restH≤262144
 i0: -2199023255552≤r.liftL
 i1:r.liftL≤r.liftH
 i2:r.liftH≤2199023255552
structure aM.ok(m:aM):Prop where
 np:m.places.length≤64
 nr:m.roads.length≤128
 hs:∀p∈m.places, -10000≤p.h∧p.h≤10000
 rs:∀r∈m.roads,r.ok m.places.length
theorem FL(a b lo hi:Int):aE 0 N.iu [.t (.agg [tI a,tI b]),I lo,I hi] []=some (B (decide (lo≤a∧a≤b∧b≤hi)),[]):=by
 refine ak K.tc rfl ?_
 by_cases h1:lo≤a<;>by_cases h2:a≤b<;>by_cases h3:b≤hi<;>simp(disch:=omega)only[go_sem,K.iu,↓reduceIte,h1,h2,h3]
theorem rq{m:aM}(h:m.ok):aE 0 N.cX [.t m.e] []=some (I 0,[]):=by
 refine ak K.qO rfl ?_
 have np:=h.np
 have nr:=h.nr
 have loop1:∀a b c d e:D,exS aE K.uU ⟨[a,.bp 0 0,b,I 0,c,d,e],[.box [.t (.sl (m.places.map Place.e)),.t (.sl (m.roads.map Road.e))]]⟩=
  some (.exit 0,⟨[.und,.bp 0 0,.und,I m.places.length,.und,.und,.und],[.box [.t (.sl (m.places.map Place.e)),.t (.sl (m.roads.map Road.e))]]⟩):=by
  intro a b c d e
  refine bR (fun j=>⟨[.und,.bp 0 0,.und,I j,.und,.und,.und],[.box [.t (.sl (m.places.map Place.e)),.t (.sl (m.roads.map Road.e))]]⟩) m.places.length rfl ?_ ?_ (by simp)
  · intro j hj
    have hh:=h.hs _ (ae hj)
    simp(disch:=omega)only[go_sem,K.ox,↓reduceIte]
  · simp(disch:=omega)only[go_sem,K.ox,↓reduceIte]
 have loop2:∀a b c d e:D,exS aE K.uV ⟨[a,.bp 0 0,b,c,d,I 0,e],[.box [.t (.sl (m.places.map Place.e)),.t (.sl (m.roads.map Road.e))]]⟩=
  some (.exit 2,⟨[.und,.bp 0 0,.und,.und,.und,I m.roads.length,.und],[.box [.t (.sl (m.places.map Place.e)),.t (.sl (m.roads.map Road.e))]]⟩):=by
  intro a b c d e
  refine bR (fun j=>⟨[.und,.bp 0 0,.und,.und,.und,I j,.und],[.box [.t (.sl (m.places.map Place.e)),.t (.sl (m.roads.map Road.e))]]⟩) m.roads.length rfl ?_ ?_ (by simp)
  · intro j hj
    obtain⟨f0,f1,t0,t1,ne,l0,l1,a0,a1,r0,r1,r2,i0,i1,i2⟩:=h.rs _ (ae hj)
    have s1:=FL (nth m.roads j).restL (nth m.roads j).restH 1 262144
    have s2:=FL (nth m.roads j).liftL (nth m.roads j).liftH (-2199023255552) 2199023255552
    simp(disch:=omega)only[go_sem]at s1 s2
    simp(disch:=omega)only[go_sem,K.oy,↓reduceIte,s1,s2]
  · simp(disch:=omega)only[go_sem,K.oy,↓reduceIte]
 simp(disch:=omega)only[go_sem,K.cX,↓reduceIte,loop1,loop2]
theorem HU{l:List Int}{p:Int→Bool}:((List.range l.length).find? fun j=>p (nth l j)).isSome=l.any p:=by
 rw[List.isSome_find?,Bool.eq_iff_iff,List.any_eq_true,List.any_eq_true]
 constructor
 · rintro ⟨j,hj,h⟩
   exact⟨_,ae (List.mem_range.1 hj),h⟩
 · rintro ⟨x,hx,h⟩
   obtain⟨j,hj⟩:=List.mem_iff_getElem?.1 hx
   exact⟨j,List.mem_range.2 (List.getElem?_eq_some_iff.1 hj).1,by rw[bG hj];exact h⟩
theorem u9(l:List Int)(x:Int)(hl:l.length≤4294967296):aE 0 N.fH [.t (tL l),I x] []=some (B (decide (x∈l)),[]):=by
 refine ak K.vN rfl ?_
 have loop:∀a:D,exS aE K.zc ⟨[.t (tL l),I x,a,I 0],[]⟩=
  some (match (List.range l.length).find? (fun j=>decide (nth l j=x))with
   | some j=>(.ret,⟨[.t (tL l),I x,B true,I j],[]⟩)
   | none=>(.exit 0,⟨[.t (tL l),I x,.und,I l.length],[]⟩)):=by
  intro a
  refine cE (fun j=>⟨[.t (tL l),I x,.und,I j],[]⟩) l.length (fun j=>decide (nth l j=x)) _ _ rfl ?_ ?_ ?_ (by simp)
  · intro j hj hp
    have hp:¬nth l j=x:=of_decide_eq_false hp
    simp(disch:=omega)only[go_sem,K.nW,↓reduceIte]
  · intro j hj hp
    have hp:nth l j=x:=of_decide_eq_true hp
    simp(disch:=omega)only[go_sem,K.nW,↓reduceIte,hp]
    simp
  · simp(disch:=omega)only[go_sem,K.nW,↓reduceIte]
 have e:=HU (l:=l) (p:=fun y=>decide (y=x))
 have e2:l.any (fun y=>decide (y=x))=decide (x∈l):=by rw[Bool.eq_iff_iff];simp
 rw[e2]at e
 simp only[go_sem,K.fH,↓reduceIte,loop]
 cases hf:(List.range l.length).find? (fun j=>decide (nth l j=x))with
 | some j=>rw[hf]at e;simp(disch:=omega)only[go_sem,↓reduceIte,←e]
 | none=>rw[hf]at e;simp(disch:=omega)only[go_sem,↓reduceIte,←e,Option.isSome_none]
theorem tu(a b:List Int)(hl:a.length≤4294967296):aE 0 N.bI [.t (tL a),.t (tL b)] []=some (B (decide (a=b)),[]):=by
 refine ak K.nE rfl ?_
 by_cases hlen:a.length=b.length
 · have loop:∀c:D,exS aE K.qs ⟨[.t (tL a),.t (tL b),c,I 0],[]⟩=
    some (match (List.range a.length).find? (fun j=>decide (nth a j≠nth b j))with
     | some j=>(.ret,⟨[.t (tL a),.t (tL b),B false,I j],[]⟩)
     | none=>(.exit 0,⟨[.t (tL a),.t (tL b),.und,I a.length],[]⟩)):=by
    intro c
    refine cE (fun j=>⟨[.t (tL a),.t (tL b),.und,I j],[]⟩) a.length (fun j=>decide (nth a j≠nth b j)) _ _ rfl ?_ ?_ ?_ (by simp)
    · intro j hj hp
      have hp:nth a j=nth b j:=by simpa using hp
      simp(disch:=omega)only[go_sem,K.jx,↓reduceIte]
    · intro j hj hp
      have hp:nth a j≠nth b j:=by simpa using hp
      simp(disch:=omega)only[go_sem,K.jx,↓reduceIte]
      simp
    · simp(disch:=omega)only[go_sem,K.jx,↓reduceIte]
   have e:(a=b)↔(List.range a.length).find? (fun j=>decide (nth a j≠nth b j))=none:=by
    rw[List.find?_eq_none]
    constructor
    · intro h j _;simp[h]
    · intro h
      apply List.ext_getElem?
      intro j
      by_cases hj:j<a.length
      · rw[fQ hj,fQ (by omega)]
        have:=h j (List.mem_range.2 hj)
        simpa using this
      · rw[List.getElem?_eq_none (by omega),List.getElem?_eq_none (by omega)]
   simp(disch:=omega)only[go_sem,K.bI,↓reduceIte,loop]
   cases hf:(List.range a.length).find? (fun j=>decide (nth a j≠nth b j))with
   | some j=>rw[hf]at e;simp(disch:=omega)only[go_sem,↓reduceIte,e];simp
   | none=>rw[hf]at e;simp(disch:=omega)only[go_sem,↓reduceIte,e]
 · have hne:a≠b:=fun h=>hlen (by rw[h])
   simp(disch:=omega)only[go_sem,K.bI,↓reduceIte,hne]
def tw(l:List Int)(n:Int):Bool:=(List.range l.length).all fun j=>decide (0≤nth l j∧nth l j<n∧(0<j→nth l (j-1)<nth l j))
theorem rr{n:Nat}{p:Nat→Bool}:((List.range n).all p)=((List.range n).find? fun j=> !p j).isNone:=by
 rw[← Option.not_isSome,List.isSome_find?,List.not_any_eq_all_not]
 simp
theorem SU(l:List Int)(n:Int)(hl:l.length≤4294967296):aE 0 N.jF [.t (tL l),I n] []=some (B (tw l n),[]):=by
 refine ak K.vP rfl ?_
 have loop:∀c:D,exS aE K.zd ⟨[.t (tL l),I n,c,I 0],[]⟩=
  some (match (List.range l.length).find? (fun j=> !decide (0≤nth l j∧nth l j<n∧(0<j→nth l (j-1)<nth l j)))with
   | some j=>(.ret,⟨[.t (tL l),I n,B false,I j],[]⟩)
   | none=>(.exit 0,⟨[.t (tL l),I n,.und,I l.length],[]⟩)):=by
  intro c
  refine cE (fun j=>⟨[.t (tL l),I n,.und,I j],[]⟩) l.length _ _ _ rfl ?_ ?_ ?_ (by simp)
  · intro j hj hp
    simp only[Bool.not_eq_false',decide_eq_true_eq]at hp
    obtain⟨h1,h2,h3⟩:=hp
    cases j with
    | zero=>simp(disch:=omega)only[go_sem,K.iP,↓reduceIte]
    | succ j=>
      have h3:=h3 (by omega)
      rw[Nat.add_sub_cancel]at h3
      simp(disch:=omega)only[go_sem,K.iP,↓reduceIte]
  · intro j hj hp
    simp only[Bool.not_eq_true',decide_eq_false_iff_not]at hp
    refine⟨?_,by simp⟩
    by_cases h1:0≤nth l j
    · by_cases h2:nth l j<n
      · cases j with
        | zero=>exact absurd ⟨h1,h2,fun h=>absurd h (by omega)⟩ hp
        | succ j=>
          have h3:¬nth l j<nth l (j+1):=fun h=>hp ⟨h1,h2,fun _=>by simpa using h⟩
          simp(disch:=omega)only[go_sem,K.iP,↓reduceIte]
      · simp(disch:=omega)only[go_sem,K.iP,↓reduceIte]
    · simp(disch:=omega)only[go_sem,K.iP,↓reduceIte]
  · simp(disch:=omega)only[go_sem,K.iP,↓reduceIte]
 have e:tw l n=_:=rr
 simp only[go_sem,K.jF,↓reduceIte,loop]
 cases hf:(List.range l.length).find? (fun j=> !decide (0≤nth l j∧nth l j<n∧(0<j→nth l (j-1)<nth l j)))with
 | some j=>rw[hf]at e;simp(disch:=omega)only[go_sem,↓reduceIte,e,Option.isNone_some]
 | none=>rw[hf]at e;simp(disch:=omega)only[go_sem,↓reduceIte,e,Option.isNone_none]
theorem FM(x lo hi:Int):aE 0 N.fg [I x,I lo,I hi] []=some (B (decide (lo≤x∧x≤hi)),[]):=by
 refine ak K.yp rfl ?_
 by_cases h1:lo≤x<;>by_cases h2:x≤hi<;>simp(disch:=omega)only[go_sem,K.fg,↓reduceIte]
theorem QW(l:List Int)(x:Int)(hl:l.length≤4294967296):aE 0 N.bN [.t (tL l),I x] []=
 some (I (match (List.range l.length).find? (fun j=>decide (nth l j=x))with | some j=>(j:Int) | none=> -1),[]):=by
 refine ak K.ji rfl ?_
 have loop:∀a b:D,exS aE K.lF ⟨[.t (tL l),I x,a,b,I l.length,I 0],[]⟩=
  some (match (List.range l.length).find? (fun j=>decide (nth l j=x))with
   | some j=>(.ret,⟨[.t (tL l),I x,I j,I j,I l.length,I j],[]⟩)
   | none=>(.exit 0,⟨[.t (tL l),I x,.und,.und,I l.length,I l.length],[]⟩)):=by
  intro a b
  refine cE (fun j=>⟨[.t (tL l),I x,.und,.und,I l.length,I j],[]⟩) l.length (fun j=>decide (nth l j=x)) _ _ rfl ?_ ?_ ?_ (by simp)
  · intro j hj hp
    have hp:¬nth l j=x:=of_decide_eq_false hp
    simp(disch:=omega)only[go_sem,K.fk,↓reduceIte]
  · intro j hj hp
    have hp:nth l j=x:=of_decide_eq_true hp
    simp(disch:=omega)only[go_sem,K.fk,↓reduceIte,hp]
    simp
  · simp(disch:=omega)only[go_sem,K.fk,↓reduceIte]
 simp(disch:=omega)only[go_sem,K.bN,↓reduceIte,loop]
 cases hf:(List.range l.length).find? (fun j=>decide (nth l j=x))with
 | some j=>simp(disch:=omega)only[go_sem,↓reduceIte]
 | none=>simp(disch:=omega)only[go_sem,↓reduceIte]
theorem ru(l:List Int)(x:Int)(hl:l.length≤4294967296):aE 0 N.aO [.t (tL l),I x] []=some (B (decide (x∈l)),[]):=by
 refine ak K.gX rfl ?_
 have h:=QW l x hl
 have e:=HU (l:=l) (p:=fun y=>decide (y=x))
 have e2:l.any (fun y=>decide (y=x))=decide (x∈l):=by rw[Bool.eq_iff_iff];simp
 rw[e2]at e
 cases hf:(List.range l.length).find? (fun j=>decide (nth l j=x))with
 | some j=>rw[hf]at e h;simp(disch:=omega)only[go_sem,K.aO,↓reduceIte,←e,h]
 | none=>rw[hf]at e h;simp(disch:=omega)only[go_sem,K.aO,↓reduceIte,←e,h,Option.isSome_none]
theorem FN(l:List Int)(hl:l.length≤4294967296)(f:Nat)(bs:List (List T))(p:Int→Bool)(h:∀x,x∈l→aE 0 f (I x::fY bs.length) (aU bs)=some (B (p x),aU bs)):
 aE 0 N.bk [.t (tL l),.fn f (fY bs.length)] (aU bs)=
 some (I (match (List.range l.length).find? (fun j=>p (nth l j))with | some j=>(j:Int) | none=> -1),aU bs):=by
 refine ak K.gL rfl ?_
 have loop:∀a b:D,exS aE K.jG ⟨[.t (tL l),.fn f (fY bs.length),a,b,I l.length,I 0],aU bs⟩=
  some (match (List.range l.length).find? (fun j=>p (nth l j))with
   | some j=>(.ret,⟨[.t (tL l),.fn f (fY bs.length),I j,I j,I l.length,I j],aU bs⟩)
   | none=>(.exit 0,⟨[.t (tL l),.fn f (fY bs.length),.und,.und,I l.length,I l.length],aU bs⟩)):=by
  intro a b
  refine cE (fun j=>⟨[.t (tL l),.fn f (fY bs.length),.und,.und,I l.length,I j],aU bs⟩) l.length (fun j=>p (nth l j)) _ _ rfl ?_ ?_ ?_ (by simp)
  · intro j hj hp
    have hc:=od (h _ (ae hj)) rfl
    simp(disch:=omega)only[go_sem,K.dH,↓reduceIte,hc,hp]
  · intro j hj hp
    have hc:=od (h _ (ae hj)) rfl
    simp(disch:=omega)only[go_sem,K.dH,↓reduceIte,hp,hc]
    simp
  · simp(disch:=omega)only[go_sem,K.dH,↓reduceIte]
 simp(disch:=omega)only[go_sem,K.bk,↓reduceIte,loop]
 cases hf:(List.range l.length).find? (fun j=>p (nth l j))with
 | some j=>simp(disch:=omega)only[go_sem,↓reduceIte]
 | none=>simp(disch:=omega)only[go_sem,↓reduceIte]
theorem lI(l:List Int)(hl:l.length≤4294967296)(f:Nat)(bs:List (List T))(p:Int→Bool)(h:∀x,x∈l→aE 0 f (I x::fY bs.length) (aU bs)=some (B (p x),aU bs)):
 aE 0 N.az [.t (tL l),.fn f (fY bs.length)] (aU bs)=some (B (l.any p),aU bs):=by
 refine ak K.fv rfl ?_
 have h:=FN l hl f bs p h
 have hc:=yu aE bs f _ 0 (tL l) h rfl
 have e:=HU (l:=l) (p:=p)
 cases hf:(List.range l.length).find? (fun j=>p (nth l j))with
 | some j=>rw[hf]at e hc;simp(disch:=omega)only[go_sem,K.az,↓reduceIte,←e,hc]
 | none=>rw[hf]at e hc;simp(disch:=omega)only[go_sem,K.az,↓reduceIte,←e,hc,Option.isSome_none]
theorem Vy(r:Road)(back:Bool):aE 0 N.i9 [.t r.e,B back] []=some (.tup [I (if back then r.to else r.frm),I (if back then r.frm else r.to)],[]):=by
 refine ak K.tq rfl ?_
 cases back<;>simp(disch:=omega)only[go_sem,K.i9,↓reduceIte]
def eE(m:aM)(k:Nat)(back:Bool)(up down level:Int):Int:=
 let x:=nth m.roads k
 if x.closed=true∨x.walk=false then -1 else
 let a:=if back then x.to else x.frm
 let b:=if back then x.frm else x.to
 let rise:=(nth m.places b.toNat).h-(nth m.places a.toNat).h
 let speed:=if -10*rise>x.len then down else if 10*rise>x.len then up else level
 (10*x.len+speed-1).tdiv speed
theorem vS{a b:Int}(ha:0≤a)(hb:1≤b):0≤a.tdiv b∧a.tdiv b≤a:=by
 rw[Int.tdiv_eq_ediv_of_nonneg ha]
 exact⟨Int.ediv_nonneg ha (by omega),Int.ediv_le_self _ ha⟩
theorem NB{m:aM}(h:m.ok)(k:Nat)(hk:k<m.roads.length)(back:Bool)(up down level:Int)(hu:1≤up)(hu2:up≤100)(hd:1≤down)(hd2:down≤100)(hl:1≤level)(hl2:level≤100):
 aE 0 N.cg [.t m.e,I k,B back,I up,I down,I level] []=some (I (eE m k back up down level),[]):=by
 refine ak K.pQ rfl ?_
 have hc:=rq h
 have nr:=h.nr
 have np:=h.np
 obtain⟨f0,f1,t0,t1, -,l0,l1, -, -, -, -, -, -, -, -⟩:=h.rs _ (ae hk)
 have he:=Vy (nth m.roads k) back
 have b1:=h.hs _ (ae (l:=m.places) (j:=(nth m.roads k).frm.toNat) (by omega))
 have b2:=h.hs _ (ae (l:=m.places) (j:=(nth m.roads k).to.toNat) (by omega))
 unfold eE
 generalize hx:nth m.roads k=x at*
 obtain⟨frm,to,len,area,walk,closed,rl,rh,ll,lh⟩:=x
 simp only at f0 f1 t0 t1 l0 l1 b1 b2 he ⊢
 cases closed with
 | true=>simp(disch:=omega)only[go_sem,K.cg,↓reduceIte,hc,hx]
 | false=>
   cases walk with
   | false=>simp(disch:=omega)only[go_sem,K.cg,↓reduceIte,hc,hx]
   | true=>
     have g1:=vS (a:=10*len+up-1) (b:=up) (by omega) hu
     have g2:=vS (a:=10*len+down-1) (b:=down) (by omega) hd
     have g3:=vS (a:=10*len+level-1) (b:=level) (by omega) hl
     cases back with
     | true=>
       simp only[↓reduceIte]at he ⊢
       have w1:IntKind.i64.wrap ((nth m.places frm.toNat).h-(nth m.places to.toNat).h)=(nth m.places frm.toNat).h-(nth m.places to.toNat).h:=yn (by omega) (by omega)
       by_cases c2:len< -10*((nth m.places frm.toNat).h-(nth m.places to.toNat).h)
       · simp(disch:=omega)only[go_sem,K.cg,↓reduceIte,hc,hx,he,w1,gt_iff_lt]
       · by_cases c1:len<10*((nth m.places frm.toNat).h-(nth m.places to.toNat).h)
         · simp(disch:=omega)only[go_sem,K.cg,↓reduceIte,hc,hx,he,w1,gt_iff_lt]
         · simp(disch:=omega)only[go_sem,K.cg,↓reduceIte,hc,hx,he,w1,gt_iff_lt]
     | false=>
       simp only[Bool.false_eq_true,↓reduceIte]at he ⊢
       have w1:IntKind.i64.wrap ((nth m.places to.toNat).h-(nth m.places frm.toNat).h)=(nth m.places to.toNat).h-(nth m.places frm.toNat).h:=yn (by omega) (by omega)
       by_cases c2:len< -10*((nth m.places to.toNat).h-(nth m.places frm.toNat).h)
       · simp(disch:=omega)only[go_sem,K.cg,↓reduceIte,hc,hx,he,w1,gt_iff_lt]
       · by_cases c1:len<10*((nth m.places to.toNat).h-(nth m.places frm.toNat).h)
         · simp(disch:=omega)only[go_sem,K.cg,↓reduceIte,hc,hx,he,w1,gt_iff_lt]
         · simp(disch:=omega)only[go_sem,K.cg,↓reduceIte,hc,hx,he,w1,gt_iff_lt]
theorem DB{m:aM}(h:m.ok)(k:Nat)(hk:k<m.roads.length)(back:Bool):aE 0 N.fX [.t m.e,I k,B back] []=some (I (eE m k back 6 9 12),[]):=by
 refine ak K.tn rfl ?_
 have hw:=NB h k hk back 6 9 12 (by omega) (by omega) (by omega) (by omega) (by omega) (by omega)
 simp(disch:=omega)only[go_sem,K.fX,↓reduceIte,hw]
theorem DC{m:aM}(h:m.ok)(k:Nat)(hk:k<m.roads.length)(back:Bool): -1≤eE m k back 6 9 12∧eE m k back 6 9 12≤1000012:=by
 have l0:=(h.rs _ (ae hk)).l0
 have l1:=(h.rs _ (ae hk)).l1
 unfold eE
 simp only
 split
 · omega
 · generalize hs:(if -10*_>(nth m.roads k).len then(9:Int)else _)=s
   have h1:1≤s∧s≤12:=by
    rw[← hs]
    split
    · omega
    · split<;>omega
   have g1:=vS (a:=10*(nth m.roads k).len+s-1) (b:=s) (by omega) h1.1
   omega
def bnd(l:List Int):Prop:=∀x∈l,0≤x∧x≤1099511627776
def nM(l:List Int)(p q:Nat)(walk t:Int):Bool:=
 decide (0≤walk)&&decide (nth l p<1099511627776)&&decide (max t (nth l p+walk)≤2147483648)&&decide (max t (nth l p+walk)<nth l q)
def oB(l:List Int)(p q:Nat)(walk t:Int):List Int:=if nM l p q walk t=true then l.set q (max t (nth l p+walk))else l
theorem DD(l:List Int)(hb:bnd l)(hl:l.length≤64)(p q:Int)(hp:0≤p)(hp2:p<l.length)(hq:0≤q)(hq2:q<l.length)(walk t:Int)(hw:walk≤1000000000)(ht:t≤1000000000000)(ht0: -1000000000000≤t):
 aE 0 N.dz [.ref 0 0 l.length,I p,I q,I walk,I t] [.arr 1 false 0 ((l.map (T.int .i64)).map .t)]=
  some (B (nM l p.toNat q.toNat walk t),[.arr 1 false 0 (((oB l p.toNat q.toNat walk t).map (T.int .i64)).map .t)]):=by
 refine ak K.rm rfl ?_
 have b1:=hb _ (ae (l:=l) (j:=p.toNat) (by omega))
 have b2:=hb _ (ae (l:=l) (j:=q.toNat) (by omega))
 clear hb
 unfold oB nM
 by_cases c1:0≤walk
 · by_cases c2:nth l p.toNat<1099511627776
   · by_cases c3:max t (nth l p.toNat+walk)≤2147483648
     · by_cases c4:max t (nth l p.toNat+walk)<nth l q.toNat
       · simp(disch:=omega)only[go_sem,K.dz,↓reduceIte]
       · simp(disch:=omega)only[go_sem,K.dz,↓reduceIte]
     · simp(disch:=omega)only[go_sem,K.dz,↓reduceIte]
   · simp(disch:=omega)only[go_sem,K.dz,↓reduceIte]
 · simp(disch:=omega)only[go_sem,K.dz,↓reduceIte]
def NC(into:Option (List Int))(p:Int):Bool:=match into with
 | none=>true
 | some l=>decide (p∈l)
def pR(into:Option (List Int)):D:=match into with
 | none=> .nil
 | some l=> .t (tL l)
def Road.src(r:Road)(back:Bool):Int:=if back then r.to else r.frm
def Road.dst(r:Road)(back:Bool):Int:=if back then r.frm else r.to
theorem Road.yY{n:Nat}{r:Road}(h:r.ok n)(back:Bool):0≤r.src back∧r.src back<n:=by
 unfold Road.src;have:=h.f0;have:=h.f1;have:=h.t0;have:=h.t1;cases back<;>simp<;>omega
theorem Road.Cz{n:Nat}{r:Road}(h:r.ok n)(back:Bool):0≤r.dst back∧r.dst back<n:=by
 unfold Road.dst;have:=h.f0;have:=h.f1;have:=h.t0;have:=h.t1;cases back<;>simp<;>omega
def fI(m:aM)(t:Int)(into:Option (List Int))(k:Nat)(back:Bool)(l:List Int):List Int×Bool:=
 if NC into ((nth m.roads k).dst back)=true then
  (oB l ((nth m.roads k).src back).toNat ((nth m.roads k).dst back).toNat (eE m k back 6 9 12) t,nM l ((nth m.roads k).src back).toNat ((nth m.roads k).dst back).toNat (eE m k back 6 9 12) t)
 else(l,false)
def vT(m:aM)(t:Int)(into:Option (List Int))(k:Nat)(s:List Int×Bool):List Int×Bool:=
 let a:=fI m t into k false s.1
 let b:=fI m t into k true a.1
 (b.1,s.2||a.2||b.2)
def fm(m:aM)(t:Int)(into:Option (List Int))(l:List Int):Nat→List Int×Bool
 | 0=>(l,false)
 | k+1=>vT m t into k (fm m t into l k)
def dv(m:aM)(t:Int)(into:Option (List Int))(l:List Int):List Int×Bool:=fm m t into l m.roads.length
theorem oe(l:List Int)(p q:Nat)(w t:Int):(oB l p q w t).length=l.length:=by unfold oB;split<;>simp
theorem qu(m:aM)(t:Int)(into:Option (List Int))(k:Nat)(back:Bool)(l:List Int):(fI m t into k back l).1.length=l.length:=by
 unfold fI;split
 · exact oe _ _ _ _ _
 · rfl
theorem dE(m:aM)(t:Int)(into:Option (List Int))(l:List Int):∀k,(fm m t into l k).1.length=l.length
 | 0=>rfl
 | k+1=>by simp only[fm,vT,qu,dE m t into l k]
theorem vU{l:List Int}(h:bnd l){q:Nat}{x:Int}(h0:0≤x)(h1:x≤1099511627776):bnd (l.set q x):=by
 intro y hy
 rcases List.mem_or_eq_of_mem_set hy with hy | hy
 · exact h y hy
 · subst hy;exact⟨h0,h1⟩
theorem CA{l:List Int}(h:bnd l){p q:Nat}(hp:p<l.length){w t:Int}:bnd (oB l p q w t):=by
 unfold oB
 split
 · rename_i hc
   simp only[nM,Bool.and_eq_true,decide_eq_true_eq]at hc
   have:=h _ (ae hp)
   exact vU h (by omega) (by omega)
 · exact h
section
variable {m : aM} (h : m.ok) {t : Int} {into : Option (List Int)}
include h
theorem tz{l:List Int}(hl:l.length=m.places.length)(hb:bnd l){k:Nat}(hk:k<m.roads.length)(back:Bool):bnd (fI m t into k back l).1:=by
 have r1:=Road.yY (h.rs _ (ae hk)) back
 unfold fI
 split
 · exact CA hb (by omega)
 · exact hb
theorem jc{l:List Int}(hl:l.length=m.places.length)(hb:bnd l):∀k,k≤m.roads.length→bnd (fm m t into l k).1
 | 0,_=>hb
 | k+1,hk=>by
   simp only[fm,vT]
   exact tz h (by rw[qu,dE,hl]) (tz h (by rw[dE,hl]) (jc hl hb k (by omega)) (by omega) _) (by omega) _
end
def vd(l:List Int):Nat:=(l.map Int.toNat).sum
theorem DE:∀ {l:List Int} {q:Nat} {x:Int},q<l.length→0≤x→x<nth l q→vd (l.set q x)<vd l
 | [],q,x,h,_,_=>by simp at h
 | a::l,0,x,_,h0,h1=>by
   have h1:x<a:=by simpa [nth]using h1
   simp only[vd,List.set_cons_zero,List.map_cons,List.sum_cons];omega
 | a::l,q+1,x,h,h0,h1=>by
   have:=DE (l:=l) (q:=q) (x:=x) (by simpa using h) h0 (by simpa [nth]using h1)
   simp only[vd,List.set_cons_succ,List.map_cons,List.sum_cons]at this ⊢;omega
theorem KO{l:List Int}(hb:bnd l){p q:Nat}(hp:p<l.length)(hq:q<l.length){w t:Int}:
 (nM l p q w t=true→vd (oB l p q w t)<vd l)∧(nM l p q w t=false→oB l p q w t=l):=by
 unfold oB
 constructor
 · intro hc
   rw[if_pos hc]
   simp only[nM,Bool.and_eq_true,decide_eq_true_eq]at hc
   have:=hb _ (ae hp)
   exact DE hq (by omega) hc.2
 · intro hc;rw[if_neg (by simp[hc])]
section
variable {m : aM} (h : m.ok) {t : Int} {into : Option (List Int)}
include h
theorem AU{l:List Int}(hl:l.length=m.places.length)(hb:bnd l){k:Nat}(hk:k<m.roads.length)(back:Bool):
 ((fI m t into k back l).2=true→vd (fI m t into k back l).1<vd l)∧((fI m t into k back l).2=false→(fI m t into k back l).1=l):=by
 have r1:=Road.yY (h.rs _ (ae hk)) back
 have r2:=Road.Cz (h.rs _ (ae hk)) back
 unfold fI
 split
 · exact KO hb (by omega) (by omega)
 · simp
theorem qv{l:List Int}(hl:l.length=m.places.length)(hb:bnd l):∀k,k≤m.roads.length→
 ((fm m t into l k).2=true→vd (fm m t into l k).1<vd l)∧((fm m t into l k).2=false→(fm m t into l k).1=l)
 | 0,_=>⟨fun h=>by simp[fm]at h,fun _=>rfl⟩
 | k+1,hk=>by
   obtain⟨i1,i2⟩:=qv hl hb k (by omega)
   have hb1:=jc h (t:=t) (into:=into) hl hb k (by omega)
   have hl1:(fm m t into l k).1.length=m.places.length:=by rw[dE,hl]
   obtain⟨a1,a2⟩:=AU h (t:=t) (into:=into) hl1 hb1 (k:=k) (by omega) false
   have hb2:=tz h (t:=t) (into:=into) hl1 hb1 (k:=k) (by omega) false
   obtain⟨c1,c2⟩:=AU h (t:=t) (into:=into) (by rw[qu,hl1]) hb2 (k:=k) (by omega) true
   simp only[fm,vT]
   generalize fm m t into l k=s at*
   obtain⟨sl,sb⟩:=s
   simp only at*
   generalize fI m t into k false sl=a at*
   obtain⟨al,ab⟩:=a
   simp only at*
   generalize fI m t into k true al=b at*
   obtain⟨bl,bb⟩:=b
   simp only at*
   cases sb<;>cases ab<;>cases bb<;>simp_all<;>omega
end
end Go.Ev
namespace Go.Ev
open Go
variable [Lib] [bW] [bL]
abbrev aa(m:aM):List D:=[.t (.sl (m.places.map Place.e)),.t (.sl (m.roads.map Road.e))]
theorem Vz(H:ai)(into:Option (List Int))(hi:∀l,into=some l→l≠[]):Fw H .sl false (some (pR into)) (some .nil)=some (B (into.isNone),H):=by
 cases into with
 | none=>rfl
 | some l=>exact zW H _ (by simpa using hi l rfl)
@[go_sem] theorem abH (k n : Nat) (into : Option (List Int)) : old k n (pR into) = true := by
 cases into<;>simp only[pR,go_sem]
theorem KP{m:aM}(h:m.ok)(t:Int)(ht:t≤1000000000000)(ht0: -1000000000000≤t)(into:Option (List Int))(hi:∀l,into=some l→l≠[]∧l.length≤64)(l:List Int)(hl:l.length=m.places.length)(hb:bnd l)
 (k:Nat) (hk:k<m.roads.length) (ag:Bool):
 fG true [0,1,5,9] 2 (exS aE K.eT ⟨[.und,.und,I t,pR into,.bp 0 0,.und,.ref 1 0 l.length,B ag,I k,.und],[.box (aa m),.arr 1 false 0 ((l.map (T.int .i64)).map .t)]⟩)=
  some ⟨[.und,.und,I t,pR into,.bp 0 0,.und,.ref 1 0 (vT m t into k (l,ag)).1.length,B (vT m t into k (l,ag)).2,I (k+1),.und],[.box (aa m),.arr 1 false 0 (((vT m t into k (l,ag)).1.map (T.int .i64)).map .t)]⟩:=by
 have np:=h.np
 have nr:=h.nr
 have t1:=DB h k hk false
 have t2:=DB h k hk true
 have w1:=(DC h k hk false).2
 have w2:=(DC h k hk true).2
 obtain⟨f0,f1,t0,t1', -, -, -, -, -, -, -, -, -, -, -⟩:=h.rs _ (ae hk)
 have e0:=fun H=>Vz H into fun l hl=>(hi l hl).1
 have lw1:=DD l hb (by omega) (nth m.roads k).frm (nth m.roads k).to f0 (by omega) t0 (by omega) (eE m k false 6 9 12) t (by omega) ht ht0
 have lw2:=DD l hb (by omega) (nth m.roads k).to (nth m.roads k).frm t0 (by omega) f0 (by omega) (eE m k true 6 9 12) t (by omega) ht ht0
 have hl':(oB l (nth m.roads k).frm.toNat (nth m.roads k).to.toNat (eE m k false 6 9 12) t).length=l.length:=oe ..
 have lw3:=DD _ (CA hb (p:=(nth m.roads k).frm.toNat) (q:=(nth m.roads k).to.toNat) (w:=eE m k false 6 9 12) (t:=t) (by omega)) (by omega) (nth m.roads k).to (nth m.roads k).frm t0 (by omega) f0 (by omega) (eE m k true 6 9 12) t (by omega) ht ht0
 rw[hl']at lw3
 simp only[vT,fI,Road.src,Road.dst,Bool.false_eq_true,↓reduceIte]
 generalize hx:nth m.roads k=x at*
 obtain⟨frm,to,len,area,walk,closed,rl,rh,ll,lh⟩:=x
 simp only at f0 f1 t0 t1' lw1 lw2 lw3 hl' ⊢
 generalize hw1:eE m k false 6 9 12=v1 at*
 generalize hw2:eE m k true 6 9 12=v2 at*
 clear hb
 cases into with
 | none=>
   simp only[pR,NC,↓reduceIte,Option.isNone]at e0 ⊢
   cases c1:nM l frm.toNat to.toNat v1 t<;>cases c2:nM (oB l frm.toNat to.toNat v1 t) to.toNat frm.toNat v2 t<;>rw[c1]at lw1<;>rw[c2]at lw3<;>
   simp(disch:=omega)only[go_sem,K.eT,↓reduceIte,hx,e0,t1,t2,lw1,lw3,oe,Nat.reduceAdd,Nat.reduceSub]
 | some s=>
   have hs:=(hi s rfl).2
   have g1:=u9 s to (by omega)
   have g2:=u9 s frm (by omega)
   simp only[pR,NC,Option.isNone]at e0 ⊢
   by_cases m1:to∈s<;>by_cases m2:frm∈s
   · simp only[m1,m2,decide_true,↓reduceIte]at g1 g2 ⊢
     cases c1:nM l frm.toNat to.toNat v1 t<;>cases c2:nM (oB l frm.toNat to.toNat v1 t) to.toNat frm.toNat v2 t<;>rw[c1]at lw1<;>rw[c2]at lw3<;>
     simp(disch:=omega)only[go_sem,K.eT,↓reduceIte,hx,e0,t1,t2,lw1,lw3,g1,g2,c1,Bool.or_true,Bool.or_false,oe,Nat.reduceAdd,Nat.reduceSub]
   · simp only[m1,m2,decide_true,decide_false,↓reduceIte]at g1 g2 ⊢
     cases c1:nM l frm.toNat to.toNat v1 t<;>rw[c1]at lw1<;>
     simp(disch:=omega)only[go_sem,K.eT,↓reduceIte,hx,e0,t1,t2,lw1,g1,g2,c1,Bool.or_true,Bool.or_false,oe,Nat.reduceAdd,Nat.reduceSub]
   · simp only[m1,m2,decide_true,decide_false,↓reduceIte]at g1 g2 ⊢
     cases c1:nM l to.toNat frm.toNat v2 t<;>rw[c1]at lw2<;>
     simp(disch:=omega)only[go_sem,K.eT,↓reduceIte,hx,e0,t1,t2,lw2,g1,g2,c1,Bool.or_true,Bool.or_false,oe,Nat.reduceAdd,Nat.reduceSub]
   · simp only[m1,m2,decide_false,↓reduceIte]at g1 g2 ⊢
     simp(disch:=omega)only[go_sem,K.eT,↓reduceIte,hx,e0,t1,t2,g1,g2,Nat.reduceAdd,Nat.reduceSub]
theorem zY{m:aM}(h:m.ok)(t:Int)(ht:t≤1000000000000)(ht0: -1000000000000≤t)(into:Option (List Int))(hi:∀l,into=some l→l≠[]∧l.length≤64)(l:List Int)(hl:l.length=m.places.length)(hb:bnd l):
 aE 0 N.ft [.t m.e,.t (tL l),I t,pR into] []=some (.t (tL (iK (dv m t into) (vd l+1) l)),[])∧(iK (dv m t into) (vd l+1) l).length=m.places.length∧bnd (iK (dv m t into) (vd l+1) l):=by
 have nr:=h.nr
 have inner:∀(l:List Int),l.length=m.places.length→bnd l→∀(a b c d:D),exS aE K.uX ⟨[a,b,I t,pR into,.bp 0 0,c,.ref 1 0 l.length,B false,I 0,d],[.box (aa m),.arr 1 false 0 ((l.map (T.int .i64)).map .t)]⟩=
  some (.exit 2,⟨[.und,.und,I t,pR into,.bp 0 0,.und,.ref 1 0 l.length,B (dv m t into l).2,I m.roads.length,.und],[.box (aa m),.arr 1 false 0 (((dv m t into l).1.map (T.int .i64)).map .t)]⟩):=by
  intro l hl hb a b c d
  refine bR (fun j=>⟨[.und,.und,I t,pR into,.bp 0 0,.und,.ref 1 0 (fm m t into l j).1.length,B (fm m t into l j).2,I j,.und],[.box (aa m),.arr 1 false 0 (((fm m t into l j).1.map (T.int .i64)).map .t)]⟩) m.roads.length rfl ?_ ?_ (by simp)
  · intro j hj
    have:=KP h t ht ht0 into hi (fm m t into l j).1 (by rw[dE,hl]) (jc h hl hb j (by omega)) j hj (fm m t into l j).2
    exact this
  · simp(disch:=omega)only[go_sem,K.eT,↓reduceIte,dv,dE]
 have outer:=fun(a b c d e:D)=>yr (gc:=true) (dead:=[0,1,5,8,9]) (c:=K.lE) (vs:=[a,b,I t,pR into,.bp 0 0,c,.ref 1 0 l.length,B true,d,e]) (H:=[.box (aa m),.arr 1 false 0 ((l.map (T.int .i64)).map .t)])
  (fun l ag=>⟨[.und,.und,I t,pR into,.bp 0 0,.und,.ref 1 0 l.length,B ag,.und,.und],[.box (aa m),.arr 1 false 0 ((l.map (T.int .i64)).map .t)]⟩)
  (fun l=>(.exit 0,⟨[.und,.und,I t,pR into,.bp 0 0,.und,.ref 1 0 l.length,B false,.und,.und],[.box (aa m),.arr 1 false 0 ((l.map (T.int .i64)).map .t)]⟩))
  (dv m t into) (fun l=>l.length=m.places.length∧bnd l) vd
  (fun l ⟨hl,hb⟩=>⟨⟨by rw[dv,dE,hl],jc h hl hb _ (Nat.le_refl _)⟩,(qv h hl hb _ (Nat.le_refl _)).1⟩)
  (by
   rintro l ⟨hl,hb⟩
   have:=inner l hl hb
   have e:(dv m t into l).1.length=l.length:=by rw[dv,dE]
   simp(disch:=omega)only[go_sem,K.lE,↓reduceIte,this,e])
  (by
   rintro l ⟨hl,hb⟩
   simp(disch:=omega)only[go_sem,K.lE,↓reduceIte,reduceCtorEq,ne_eq,not_false_eq_true,and_self])
  l ⟨hl,hb⟩ rfl
 obtain⟨-,o2⟩:=outer .und .und .und .und .und
 refine⟨?_,o2⟩
 refine ak K.qZ rfl ?_
 have o1:∀a b c d e:D,exS aE K.uY ⟨[a,b,I t,pR into,.bp 0 0,c,.ref 1 0 l.length,B true,d,e],[.box (aa m),.arr 1 false 0 ((l.map (T.int .i64)).map .t)]⟩=_:=fun a b c d e=>(outer a b c d e).1
 clear outer inner
 have np:=h.np
 have o2:=o2.1
 generalize iK (dv m t into) (vd l+1) l=l2 at*
 cases into with
 | none=>
   simp only[pR]at o1
   simp(disch:=omega)only[go_sem,K.ft,↓reduceIte,o1,pR]
 | some s=>
   simp only[pR]at o1
   simp(disch:=omega)only[go_sem,K.ft,↓reduceIte,o1,pR]
structure Wh where
 time:Int
 frm:List Int
instance : Dat Wh := ⟨⟨0, []⟩⟩
abbrev Wh.e(w:Wh):T:= .agg [tI w.time,tL w.frm]
def cV(m:aM)(t:Int)(into:Option (List Int))(l:List Int):List Int:=iK (dv m t into) (vd l+1) l
def inT(t:Int):Prop:=0≤t∧t≤2147483648
instance (t : Int) : Decidable (inT t) := by unfold inT; infer_instance
def plT(x:Int):Prop:=x=1099511627776∨inT x
instance (t : Int) : Decidable (plT t) := by unfold plT; infer_instance
def oC(w:Wh)(n:Int):Bool:=decide ((w.frm.length:Int)=n∧inT w.time)&&(List.range w.frm.length).all fun j=>decide (plT (nth w.frm j))
theorem nF{x:Int}(h:plT x):0≤x∧x≤1099511627776:=by unfold plT inT at h;omega
theorem xp(t:Int):aE 0 N.dD [I t] []=some (B (decide (inT t)),[]):=by
 refine ak K.pP rfl ?_
 unfold inT
 by_cases h1:0≤t<;>by_cases h2:t≤2147483648<;>simp(disch:=omega)only[go_sem,K.dD,↓reduceIte,h1,h2]
theorem xq{m:aM}(h:m.ok)(t:Int)(ht:inT t)(l:List Int)(hl:l.length=m.places.length)(hb:bnd l):
 aE 0 N.dQ [.t m.e,.t (tL l),I t] []=some (.t (tL (cV m t none l)),[]):=by
 refine ak K.qW rfl ?_
 unfold inT at ht
 have:=(zY h t (by omega) (by omega) none (by simp) l hl hb).1
 simp only[pR]at this
 unfold cV
 simp(disch:=omega)only[go_sem,K.dQ,↓reduceIte,this]
theorem QX(w:Wh)(n:Int)(hl:w.frm.length≤4294967296):aE 0 N.eC [.t w.e,I n] []=some (B (oC w n),[]):=by
 refine ak K.rk rfl ?_
 obtain⟨time,frm⟩:=w
 simp only at hl
 have loop:∀a b c:D,exS aE K.uZ ⟨[a,b,.bp 0 0,c,I 0],[.box [I time,.t (tL frm)]]⟩=
  some (match (List.range frm.length).find? (fun j=> !decide (plT (nth frm j)))with
   | some j=>(.ret,⟨[.und,.und,.bp 0 0,B false,I j],[.box [I time,.t (tL frm)]]⟩)
   | none=>(.exit 0,⟨[.und,.und,.bp 0 0,.und,I frm.length],[.box [I time,.t (tL frm)]]⟩)):=by
  intro a b c
  refine cE (fun j=>⟨[.und,.und,.bp 0 0,.und,I j],[.box [I time,.t (tL frm)]]⟩) frm.length (fun j=> !decide (plT (nth frm j))) _ _ rfl ?_ ?_ ?_ (by simp)
  · intro j hj hp
    have hp:plT (nth frm j):=by simpa using hp
    unfold plT inT at hp
    by_cases h1:nth frm j=1099511627776
    · simp(disch:=omega)only[go_sem,K.iz,↓reduceIte,h1]
    · simp(disch:=omega)only[go_sem,K.iz,↓reduceIte]
  · intro j hj hp
    have hp:¬plT (nth frm j):=by simpa using hp
    unfold plT inT at hp
    by_cases h2:0≤nth frm j
    · simp(disch:=omega)only[go_sem,K.iz,↓reduceIte]
      simp
    · simp(disch:=omega)only[go_sem,K.iz,↓reduceIte]
      simp
  · simp(disch:=omega)only[go_sem,K.iz,↓reduceIte]
 unfold oC
 rw[rr]
 by_cases h1:(frm.length:Int)=n
 · by_cases h2:0≤time
   · by_cases h3:time≤2147483648
     · have h4:inT time:=⟨h2,h3⟩
       simp(disch:=omega)only[go_sem,K.eC,↓reduceIte,loop,h1]
       cases hf:(List.range frm.length).find? (fun j=> !decide (plT (nth frm j)))with
       | some j=>simp(disch:=omega)only[go_sem,↓reduceIte,Option.isNone]
       | none=>simp(disch:=omega)only[go_sem,↓reduceIte,Option.isNone,h4,and_self,decide_true]
     · have h4:¬inT time:=by unfold inT;omega
       simp(disch:=omega)only[go_sem,K.eC,↓reduceIte,loop,h1,h4,and_false,decide_false]
   · have h4:¬inT time:=by unfold inT;omega
     simp(disch:=omega)only[go_sem,K.eC,↓reduceIte,loop,h1,h4,and_false,decide_false]
 · simp(disch:=omega)only[go_sem,K.eC,↓reduceIte,loop,h1,false_and,decide_false]
def dg(m:aM)(w:Wh):Bool:=oC w m.places.length&&decide (cV m w.time none w.frm=w.frm)
theorem rv{w:Wh}{n:Int}(h:oC w n=true):(w.frm.length:Int)=n∧inT w.time∧∀x∈w.frm,plT x:=by
 simp only[oC,Bool.and_eq_true,decide_eq_true_eq,List.all_eq_true,List.mem_range]at h
 refine⟨h.1.1,h.1.2,fun x hx=>?_⟩
 obtain⟨j,hj⟩:=List.mem_iff_getElem?.1 hx
 have:=h.2 j (List.getElem?_eq_some_iff.1 hj).1
 rwa [bG hj]at this
theorem kS{m:aM}(h:m.ok)(t:Int)(ht:inT t)(into:Option (List Int))(hi:∀l,into=some l→l≠[]∧l.length≤64){l:List Int}(hl:l.length=m.places.length)(hb:bnd l):(cV m t into l).length=m.places.length:=by
 unfold inT at ht
 exact(zY h t (by omega) (by omega) into hi l hl hb).2.1
theorem CB{m:aM}(h:m.ok)(t:Int)(ht:inT t)(into:Option (List Int))(hi:∀l,into=some l→l≠[]∧l.length≤64){l:List Int}(hl:l.length=m.places.length)(hb:bnd l):bnd (cV m t into l):=by
 unfold inT at ht
 exact(zY h t (by omega) (by omega) into hi l hl hb).2.2
theorem DF{m:aM}(h:m.ok)(w:Wh)(hl:w.frm.length≤4294967296):aE 0 N.fq [.t m.e,.t w.e] []=some (B (dg m w),[]):=by
 refine ak K.qX rfl ?_
 have c:=rq h
 have p:=QX w m.places.length hl
 have np:=h.np
 unfold dg
 cases hp:oC w m.places.length with
 | false=>
   rw[hp]at p
   obtain⟨time,frm⟩:=w
   simp(disch:=omega)only[go_sem,K.fq,↓reduceIte,c,p,Bool.false_and,Nat.reduceAdd,Nat.reduceSub]
 | true=>
   obtain⟨h1,h2,h3⟩:=rv hp
   rw[hp]at p
   have hb:bnd w.frm:=fun x hx=>nF (h3 x hx)
   have cl:=xq h w.time h2 w.frm (by omega) hb
   have ln:=kS h w.time h2 none (by simp) (l:=w.frm) (by omega) hb
   obtain⟨time,frm⟩:=w
   simp only at*
   have sm:=tu (cV m time none frm) frm (by omega)
   simp(disch:=omega)only[go_sem,K.fq,↓reduceIte,c,p,cl,sm,Bool.true_and,Nat.reduceAdd,Nat.reduceSub]
theorem DG(w:Wh)(hl:w.frm.length≤4294967296):aE 0 N.cz [.t w.e] []=some (.t w.e,[]):=by
 refine ak K.pg rfl ?_
 obtain⟨time,frm⟩:=w
 simp only at*
 simp(disch:=omega)only[go_sem,K.cz,↓reduceIte,Nat.reduceAdd,Nat.reduceSub]
def dS(n:Nat):List Int:=List.replicate n 1099511627776
theorem AV(n:Nat):dS (n+1)=dS n++[1099511627776]:=List.replicate_succ'
@[simp] theorem iC (n : Nat) : (dS n).length = n := List.length_replicate
theorem yv(n:Nat):bnd (dS n):=fun x hx=>by rw[List.eq_of_mem_replicate hx];omega
theorem KQ(n:Nat)(hn:n≤1000000)(a:D):exS aE K.uW ⟨[I n,a,.ref 0 0 0,I 0],[.arr 1 false 0 []]⟩=
 some (.exit 0,⟨[I n,.und,.ref 0 0 n,I n],[.arr 1 false 0 (((dS n).map (T.int .i64)).map .t)]⟩):=by
 refine bR (fun j=>⟨[I n,.und,.ref 0 0 (dS j).length,I j],[.arr 1 false 0 (((dS j).map (T.int .i64)).map .t)]⟩) n rfl ?_ ?_ (by simp)
 · intro j hj
   have:=iC j
   simp(disch:=omega)only[go_sem,K.oA,AV,↓reduceIte]
 · simp(disch:=omega)only[go_sem,K.oA,↓reduceIte,iC]
theorem FO(n:Nat)(hn:n≤1000000):aE 1 N.gn [I n] []=some (.ref 0 0 n,[.arr 1 false 0 (((dS n).map (T.int .i64)).map .t)]):=by
 refine ak K.qV rfl ?_
 have:=KQ n hn
 simp(disch:=omega)only[go_sem,K.gn,↓reduceIte,this]
def gT(m:aM)(p t:Int):Wh×Int:=
 if p<0∨(m.places.length:Int)≤p then(⟨0,[]⟩,3)else if inT t then(⟨t,cV m t none ((dS m.places.length).set p.toNat t)⟩,0)else(⟨0,[]⟩,8)
theorem Js{m:aM}(h:m.ok)(p t:Int):aE 0 N.eu [.t m.e,I p,I t] []=some (.tup [.t (gT m p t).1.e,I (gT m p t).2],[]):=by
 refine ak K.qP rfl ?_
 have c:=rq h
 have np:=h.np
 have it:=xp t
 have nl:=iC m.places.length
 have nv:=FO m.places.length (by omega)
 unfold gT
 by_cases h1:p<0
 · simp(disch:=omega)only[go_sem,K.eu,↓reduceIte,c,h1,true_or]
   rfl
 · by_cases h2:(m.places.length:Int)≤p
   · simp(disch:=omega)only[go_sem,K.eu,↓reduceIte,c,h1,h2,or_true]
     rfl
   · by_cases h3:inT t
     · have b:bnd ((dS m.places.length).set p.toNat t):=vU (yv _) h3.1 (by have:=h3.2;omega)
       have cl:=xq h t h3 ((dS m.places.length).set p.toNat t) (by simp) b
       simp only[h3,decide_true]at it
       simp(disch:=omega)only[go_sem,K.eu,↓reduceIte,c,h1,h2,or_self,h3,it,nv,iC,cl]
     · simp only[h3,decide_false]at it
       simp(disch:=omega)only[go_sem,K.eu,↓reduceIte,c,h1,h2,or_self,h3,it]
       rfl
def lg(w:Wh)(t:Int):List Int:=bz w.frm.length fun j=>decide (nth w.frm j≤t)
theorem xr(w:Wh)(t:Int)(hl:w.frm.length≤1000000):aE 0 N.dL [.t w.e,I t] []=some (.t (tL (lg w t)),[]):=by
 refine ak K.nB rfl ?_
 obtain⟨time,frm⟩:=w
 simp only[lg]at*
 have hlen:=fun k=>dY k (fun j=>decide (nth frm j≤t))
 have loop:∀a b:D,exS aE K.qq ⟨[a,I t,.bp 0 0,b,.ref 1 0 0,I 0],[.box [I time,.t (tL frm)],.arr 1 false 0 []]⟩=
  some (.exit 0,⟨[.und,I t,.bp 0 0,.und,.ref 1 0 (bz frm.length (fun j=>decide (nth frm j≤t))).length,I frm.length],[.box [I time,.t (tL frm)],.arr 1 false 0 (((bz frm.length (fun j=>decide (nth frm j≤t))).map (T.int .i64)).map .t)]⟩):=by
  intro a b
  refine bR (fun j=>⟨[.und,I t,.bp 0 0,.und,.ref 1 0 (bz j (fun j=>decide (nth frm j≤t))).length,I j],[.box [I time,.t (tL frm)],.arr 1 false 0 (((bz j (fun j=>decide (nth frm j≤t))).map (T.int .i64)).map .t)]⟩) frm.length rfl ?_ ?_ (by simp)
  · intro j hj
    have:=hlen j
    by_cases hp:nth frm j≤t
    · simp(disch:=omega)only[go_sem,K.jw,iQ,hp,decide_true,↓reduceIte]
    · simp(disch:=omega)only[go_sem,K.jw,iQ,hp,decide_false,↓reduceIte]
  · simp(disch:=omega)only[go_sem,K.jw,↓reduceIte]
 have:=hlen frm.length
 simp(disch:=omega)only[go_sem,K.dL,↓reduceIte,loop]
def nN(w:Wh)(t:Int):Wh×Int:=if t<w.time∨2147483648<t then(w,8)else(⟨t,w.frm⟩,0)
theorem Jt(w:Wh)(t:Int)(hl:w.frm.length≤1000000):aE 0 N.ez [.t w.e,I t] []=some (.tup [.t (nN w t).1.e,I (nN w t).2],[]):=by
 refine ak K.qT rfl ?_
 have c:=DG w (by omega)
 obtain⟨time,frm⟩:=w
 simp only[nN]at*
 by_cases h1:t<time
 · simp(disch:=omega)only[go_sem,K.ez,↓reduceIte,c,h1,true_or]
 · by_cases h2:2147483648<t
   · simp(disch:=omega)only[go_sem,K.ez,↓reduceIte,c,h1,h2,or_true]
   · simp(disch:=omega)only[go_sem,K.ez,↓reduceIte,c,h1,h2,or_self]
def lJ(m:aM)(w:Wh)(places:List Int)(a b:Int):Int:=
 if dg m w=true∧places≠[]∧tw places m.places.length=true then(if inT a∧inT b∧a≤b then 0 else 8)else 6
theorem Ju{m:aM}(h:m.ok)(w:Wh)(hl:w.frm.length≤1000000)(places:List Int)(hp:places.length≤1000000)(a b:Int):
 aE 0 N.cI [.t m.e,.t w.e,.t (tL places),I a,I b] []=some (I (lJ m w places a b),[]):=by
 refine ak K.qY rfl ?_
 have v:=DF h w (by omega)
 have s:=SU places m.places.length (by omega)
 have np:=h.np
 have ia:=xp a
 have ib:=xp b
 obtain⟨time,frm⟩:=w
 simp only at*
 unfold lJ
 cases hv:dg m ⟨time,frm⟩with
 | false=>
   rw[hv]at v
   simp(disch:=omega)only[go_sem,K.cI,↓reduceIte,v,Bool.false_eq_true,false_and]
 | true=>
   rw[hv]at v
   cases places with
   | nil=>simp(disch:=omega)only[go_sem,K.cI,↓reduceIte,v,ne_eq,not_true_eq_false,false_and,and_false,List.length_nil]
   | cons x xs=>
     have hne:0<(x::xs).length:=by simp
     generalize hx:x::xs=l at*
     have hne2:l≠[]:=by intro e;rw[e]at hne;simp at hne
     cases hs:tw l m.places.length with
     | false=>
       rw[hs]at s
       simp(disch:=omega)only[go_sem,K.cI,↓reduceIte,v,s,hne2,ne_eq,not_false_eq_true,true_and,Bool.false_eq_true,and_false]
     | true=>
       rw[hs]at s
       by_cases h1:inT a
       · by_cases h2:inT b
         · simp only[h1,h2,decide_true]at ia ib
           by_cases h3:a≤b
           · simp(disch:=omega)only[go_sem,K.cI,↓reduceIte,v,s,hne2,ia,ib,h1,h2,h3,ne_eq,not_false_eq_true,and_self]
           · simp(disch:=omega)only[go_sem,K.cI,↓reduceIte,v,s,hne2,ia,ib,h1,h2,h3,ne_eq,not_false_eq_true,and_self,and_false]
         · simp only[h1,h2,decide_true,decide_false]at ia ib
           simp(disch:=omega)only[go_sem,K.cI,↓reduceIte,v,s,hne2,ia,ib,h1,h2,ne_eq,not_false_eq_true,and_self,and_false,false_and]
       · simp only[h1,decide_false]at ia
         simp(disch:=omega)only[go_sem,K.cI,↓reduceIte,v,s,hne2,ia,h1,ne_eq,not_false_eq_true,and_self,and_false,false_and]
theorem rz{l:List Int}{n:Int}(h:tw l n=true){j:Nat}(hj:j<l.length):0≤nth l j∧nth l j<n∧(0<j→nth l (j-1)<nth l j):=by
 simp only[tw,List.all_eq_true,List.mem_range,decide_eq_true_eq]at h
 exact h j hj
theorem ND{l:List Int}{n:Int}(h:tw l n=true):∀ {j:Nat},j<l.length→(j:Int)≤nth l j
 | 0,hj=>by have:=rz h hj;omega
 | j+1,hj=>by
   have h1:=ND h (j:=j) (by omega)
   have:=(rz h hj).2.2 (by omega)
   simp only[Nat.add_sub_cancel]at this
   omega
theorem rA{l:List Int}{n:Nat}(h:tw l n=true):l.length≤n:=by
 cases hl:l.length with
 | zero=>omega
 | succ k=>
   have h1:=ND h (j:=k) (by omega)
   have h2:=(rz h (j:=k) (by omega)).2.1
   omega
def yx(w:Wh)(t p:Int)(s:List Int×Bool):List Int×Bool:=if nth w.frm p.toNat≤t then(s.1.set p.toNat (nth w.frm p.toNat),true)else s
def BN(w:Wh)(l:List Int)(t:Int)(n:Nat):Nat→List Int×Bool
 | 0=>(dS n,false)
 | j+1=>yx w t (nth l j) (BN w l t n j)
theorem rB(w:Wh)(l:List Int)(t:Int)(n:Nat):∀j,(BN w l t n j).1.length=n
 | 0=>iC n
 | j+1=>by
   have:=rB w l t n j
   simp only[BN,yx]
   split<;>simp[this]
theorem DH{w:Wh}(hw:bnd w.frm)(l:List Int)(t:Int){n:Nat}(hl:∀p∈l,0≤p∧p<w.frm.length):∀j,j≤l.length→bnd (BN w l t n j).1
 | 0,_=>yv n
 | j+1,hj=>by
   have:=DH hw l t hl (n:=n) j (by omega)
   simp only[BN,yx]
   split
   · have hp:=hl _ (ae (l:=l) (j:=j) (by omega))
     have:=hw _ (ae (l:=w.frm) (j:=(nth l j).toNat) (by omega))
     exact vU (by assumption) this.1 this.2
   · exact this
def BR(m:aM)(w:Wh)(l:List Int)(a b:Int):Wh×Int:=
 if lJ m w l a b≠0 then(w,lJ m w l a b)else if a<w.time then(w,42)else
 if(BN w l b m.places.length l.length).2=true then(⟨b,cV m a none (BN w l b m.places.length l.length).1⟩,0)else(w,43)
theorem nZ{m:aM}{w:Wh}{l:List Int}{a b:Int}(h:lJ m w l a b=0):dg m w=true∧l≠[]∧tw l m.places.length=true∧inT a∧inT b∧a≤b:=by
 unfold lJ at h
 split at h
 · rename_i h1
   split at h
   · rename_i h2;exact⟨h1.1,h1.2.1,h1.2.2,h2⟩
   · omega
 · omega
theorem cJ{m:aM}{w:Wh}(h:dg m w=true):w.frm.length=m.places.length∧inT w.time∧(∀x∈w.frm,plT x)∧cV m w.time none w.frm=w.frm:=by
 simp only[dg,Bool.and_eq_true,decide_eq_true_eq]at h
 obtain⟨h1,h2,h3⟩:=rv h.1
 exact⟨by omega,h2,h3,h.2⟩
theorem abI{m:aM}(h:m.ok)(w:Wh)(hl:w.frm.length≤1000000)(l:List Int)(hp:l.length≤1000000)(a b:Int):
 aE 0 N.iX [.t m.e,.t w.e,.t (tL l),I a,I b] []=some (.tup [.t (BR m w l a b).1.e,I (BR m w l a b).2],[]):=by
 refine ak K.vQ rfl ?_
 have as:=Ju h w hl l hp a b
 have cp:=DG w (by omega)
 have np:=h.np
 have nv:=FO m.places.length (by omega)
 have nl:=iC m.places.length
 unfold BR
 by_cases h0:lJ m w l a b=0
 · obtain⟨v1,v2,v3,v4,v5,v6⟩:=nZ h0
   obtain⟨w1,w2,w3,w4⟩:=cJ v1
   have hlen:=rA v3
   rw[h0]at as ⊢
   obtain⟨time,frm⟩:=w
   simp only at*
   by_cases h1:a<time
   · simp(disch:=omega)only[go_sem,K.iX,↓reduceIte,as,cp,h1,ne_eq,not_true_eq_false]
   · have hbw:bnd (Wh.frm ⟨time,frm⟩):=fun x hx=>nF (w3 x hx)
     have hb:=DH hbw l b (n:=m.places.length) (fun p hp=>by
      obtain⟨j,hj⟩:=List.mem_iff_getElem?.1 hp
      have:=rz v3 (List.getElem?_eq_some_iff.1 hj).1
      rw[bG hj]at this
      simp only
      omega) l.length (Nat.le_refl _)
     have ln:=rB ⟨time,frm⟩ l b m.places.length
     have loop:∀x y z u v:D,exS aE K.ze ⟨[x,y,.t (tL l),I a,I b,.bp 0 0,.bp 1 0,.bp 2 0,z,u,.ref 3 0 m.places.length,B false,I 0,v],[.box (aa m),.box [I time,.t (tL frm)],.box [I 0,.nil],.arr 1 false 0 (((dS m.places.length).map (T.int .i64)).map .t)]⟩=
      some (.exit 0,⟨[.und,.und,.t (tL l),I a,I b,.bp 0 0,.bp 1 0,.bp 2 0,.und,.und,.ref 3 0 m.places.length,B (BN ⟨time,frm⟩ l b m.places.length l.length).2,I l.length,.und],[.box (aa m),.box [I time,.t (tL frm)],.box [I 0,.nil],.arr 1 false 0 ((((BN ⟨time,frm⟩ l b m.places.length l.length).1).map (T.int .i64)).map .t)]⟩):=by
      intro x y z u v
      refine bR (fun j=>⟨[.und,.und,.t (tL l),I a,I b,.bp 0 0,.bp 1 0,.bp 2 0,.und,.und,.ref 3 0 m.places.length,B (BN ⟨time,frm⟩ l b m.places.length j).2,I j,.und],[.box (aa m),.box [I time,.t (tL frm)],.box [I 0,.nil],.arr 1 false 0 ((((BN ⟨time,frm⟩ l b m.places.length j).1).map (T.int .i64)).map .t)]⟩) l.length rfl ?_ ?_ (by simp)
      · intro j hj
        obtain⟨p1,p2, -⟩:=rz v3 hj
        have lj:=ln j
        by_cases hc:nth frm (nth l j).toNat≤b
        · simp(disch:=omega)only[go_sem,K.nX,↓reduceIte,BN,yx,hc]
        · simp(disch:=omega)only[go_sem,K.nX,↓reduceIte,BN,yx,hc]
      · simp(disch:=omega)only[go_sem,K.nX,↓reduceIte]
     have cl:=xq h a v4 _ (ln l.length) hb
     have ln:=ln l.length
     simp(disch:=omega)only[go_sem,K.iX,↓reduceIte,as,h1,nv,loop,ne_eq,not_true_eq_false]
     cases hs:(BN ⟨time,frm⟩ l b m.places.length l.length).2 with
     | true=>simp(disch:=omega)only[go_sem,↓reduceIte,ln,cl]
     | false=>simp(disch:=omega)only[go_sem,↓reduceIte,cp,Bool.false_eq_true]
 · obtain⟨time,frm⟩:=w
   simp only at*
   simp(disch:=omega)only[go_sem,K.iX,↓reduceIte,as,cp,h0,ne_eq,not_false_eq_true]
def HV(l0 l:List Int):Nat→List Int
 | 0=>l0
 | j+1=>(HV l0 l j).set (nth l j).toNat 1099511627776
theorem xu(l0 l:List Int):∀j,(HV l0 l j).length=l0.length
 | 0=>rfl
 | j+1=>by simp only[HV,List.length_set,xu l0 l j]
theorem DI{l0:List Int}(h:bnd l0)(l:List Int):∀j,bnd (HV l0 l j)
 | 0=>h
 | j+1=>vU (DI h l j) (by omega) (by omega)
def CC(m:aM)(w:Wh)(l:List Int)(a b bl:Int):Wh×Int:=
 if lJ m w l a b≠0 then(w,lJ m w l a b)else if ¬inT bl then(w,8)else if b<w.time then(w,42)else if b-max a w.time≤bl then(w,0)else
 (⟨b,cV m b none (cV m (b-bl) (some l) (HV w.frm l l.length))⟩,0)
theorem abJ{m:aM}(h:m.ok)(w:Wh)(hl:w.frm.length≤1000000)(l:List Int)(hp:l.length≤1000000)(a b bl:Int):
 aE 0 N.c7 [.t m.e,.t w.e,.t (tL l),I a,I b,I bl] []=some (.tup [.t (CC m w l a b bl).1.e,I (CC m w l a b bl).2],[]):=by
 refine ak K.pO rfl ?_
 have as:=Ju h w hl l hp a b
 have cp:=DG w (by omega)
 have ib:=xp bl
 have np:=h.np
 unfold CC
 by_cases h0:lJ m w l a b=0
 · obtain⟨v1,v2,v3,v4,v5,v6⟩:=nZ h0
   obtain⟨w1,w2,w3,w4⟩:=cJ v1
   have hlen:=rA v3
   rw[h0]at as ⊢
   obtain⟨time,frm⟩:=w
   simp only at*
   by_cases h1:inT bl
   · by_cases h2:b<time
     · simp only[h1,decide_true]at ib
       simp(disch:=omega)only[go_sem,K.c7,↓reduceIte,as,ib,cp,h1,h2,ne_eq,not_true_eq_false,not_false_eq_true]
     · simp only[h1,decide_true]at ib
       unfold inT at v4 v5 w2 h1
       by_cases h3:b-max a time≤bl
       · simp(disch:=omega)only[go_sem,K.c7,↓reduceIte,as,ib,cp,h1,h2,h3,ne_eq,not_true_eq_false,not_false_eq_true,inT,and_self]
       · have hb:bnd frm:=fun x hx=>nF (w3 x hx)
         have ln:=xu frm l
         have lb:=DI hb l
         have loop:∀x y z u v w:D,exS aE K.s8 ⟨[x,y,.t (tL l),z,I b,I bl,.bp 0 0,u,.bp 2 0,v,w,.ref 3 0 frm.length,I 0],[.box (aa m),.box [I time,.t (tL frm)],.box [I 0,.nil],.arr 1 false 0 ((frm.map (T.int .i64)).map .t)]⟩=
          some (.exit 0,⟨[.und,.und,.t (tL l),.und,I b,I bl,.bp 0 0,.und,.bp 2 0,.und,.und,.ref 3 0 frm.length,I l.length],[.box (aa m),.box [I time,.t (tL frm)],.box [I 0,.nil],.arr 1 false 0 (((HV frm l l.length).map (T.int .i64)).map .t)]⟩):=by
          intro x y z u v w
          refine bR (fun j=>⟨[.und,.und,.t (tL l),.und,I b,I bl,.bp 0 0,.und,.bp 2 0,.und,.und,.ref 3 0 frm.length,I j],[.box (aa m),.box [I time,.t (tL frm)],.box [I 0,.nil],.arr 1 false 0 (((HV frm l j).map (T.int .i64)).map .t)]⟩) l.length rfl ?_ ?_ (by simp)
          · intro j hj
            obtain⟨p1,p2, -⟩:=rz v3 hj
            have lj:=ln j
            simp(disch:=omega)only[go_sem,K.nC,↓reduceIte,HV]
          · simp(disch:=omega)only[go_sem,K.nC,↓reduceIte]
         have hi:∀s,some l=some s→s≠[]∧s.length≤64:=by
          intro s hs;cases hs;exact⟨v2,by omega⟩
         have ln:=ln l.length
         have lb:=lb l.length
         have t1:inT (b-bl):=by unfold inT;omega
         have c1:=zY h (b-bl) (by omega) (by omega) (some l) hi _ (by omega) lb
         simp only[pR]at c1
         have c2:=xq h b v5 (cV m (b-bl) (some l) (HV frm l l.length)) (kS h _ t1 _ hi (by omega) lb) (CB h _ t1 _ hi (by omega) lb)
         have c3:=c1.1
         unfold cV at c2 ⊢
         clear c1
         simp(disch:=omega)only[go_sem,K.c7,↓reduceIte,as,ib,loop,c2,c3,ln,h1,h2,h3,ne_eq,not_true_eq_false,not_false_eq_true,inT,and_self,Nat.reduceAdd,Nat.reduceSub]
   · simp only[h1,decide_false]at ib
     simp(disch:=omega)only[go_sem,K.c7,↓reduceIte,as,ib,cp,h1,ne_eq,not_true_eq_false,not_false_eq_true]
 · obtain⟨time,frm⟩:=w
   simp only at*
   simp(disch:=omega)only[go_sem,K.c7,↓reduceIte,as,cp,h0,ne_eq,not_false_eq_true]
def CD(a b:List Int):Nat→List Int
 | 0=>[]
 | j+1=>CD a b j++[min (nth a j) (nth b j)]
theorem mQ(a b:List Int):∀j,(CD a b j).length=j
 | 0=>rfl
 | j+1=>by simp[CD,mQ a b j]
def jS(a b:Wh):Wh×Int:=if a.frm.length=b.frm.length then(⟨max a.time b.time,CD a.frm b.frm a.frm.length⟩,0)else(⟨0,[]⟩,6)
theorem VA(a b:Wh)(ha:a.frm.length≤1000000):aE 0 N.iw [.t a.e,.t b.e] []=some (.tup [.t (jS a b).1.e,I (jS a b).2],[]):=by
 refine ak K.th rfl ?_
 obtain⟨t1,l1⟩:=a
 obtain⟨t2,l2⟩:=b
 simp only[jS]at*
 by_cases hl:l1.length=l2.length
 · have ln:=mQ l1 l2
   have loop:∀x y z:D,exS aE K.xn ⟨[x,y,.bp 0 0,.bp 1 0,.bp 2 0,z,.bp 3 0,I 0],[.box [I t1,.t (tL l1)],.box [I t2,.t (tL l2)],.box [I 0,.nil],.box [I (max t1 t2),.ref 5 0 0],.arr 1 false 0 [],.arr 1 false 0 []]⟩=
    some (.exit 0,⟨[.und,.und,.bp 0 0,.bp 1 0,.bp 2 0,.und,.bp 3 0,I l1.length],[.box [I t1,.t (tL l1)],.box [I t2,.t (tL l2)],.box [I 0,.nil],.box [I (max t1 t2),.ref 5 0 l1.length],.arr 1 false 0 [],.arr 1 false 0 (((CD l1 l2 l1.length).map (T.int .i64)).map .t)]⟩):=by
    intro x y z
    refine bR (fun j=>⟨[.und,.und,.bp 0 0,.bp 1 0,.bp 2 0,.und,.bp 3 0,I j],[.box [I t1,.t (tL l1)],.box [I t2,.t (tL l2)],.box [I 0,.nil],.box [I (max t1 t2),.ref 5 0 j],.arr 1 false 0 [],.arr 1 false 0 (((CD l1 l2 j).map (T.int .i64)).map .t)]⟩) l1.length rfl ?_ ?_ (by simp)
    · intro j hj
      have lj:=ln j
      simp(disch:=omega)only[go_sem,K.pM,↓reduceIte,CD,Nat.reduceAdd,Nat.reduceSub]
      done
    · simp(disch:=omega)only[go_sem,K.pM,↓reduceIte]
   have ln:=ln l1.length
   simp(disch:=omega)only[go_sem,K.iw,↓reduceIte,loop]
 · simp(disch:=omega)only[go_sem,K.iw,↓reduceIte,hl]
   rfl
theorem ku{α:Type} [Dat α](l:List α)(k:Nat)(hk:k<l.length)(x:α)(j:Nat):nth (l.set k x) j=if j=k then x else nth l j:=by
 unfold nth
 by_cases h:j=k
 · subst h;rw[if_pos rfl];simp[hk]
 · rw[if_neg h]
   have:¬k=j:=fun e=>h e.symm
   simp[List.getElem?_set,this]
theorem rC{α:Type} [Dat α]{a b:List α}(h:a.length=b.length)(e:∀j,j<a.length→nth a j=nth b j):a=b:=by
 apply List.ext_getElem h
 intro j h1 h2
 have:=e j h1
 rwa [bG (List.getElem?_eq_getElem h1),bG (List.getElem?_eq_getElem h2)]at this
def clW(m:aM)(t:Int)(into:Option (List Int))(y:List Int):Prop:=∀k,k<m.roads.length→∀back,NC into ((nth m.roads k).dst back)=true→0≤eE m k back 6 9 12→
 nth y ((nth m.roads k).src back).toNat<1099511627776→max t (nth y ((nth m.roads k).src back).toNat+eE m k back 6 9 12)≤2147483648→
 nth y ((nth m.roads k).dst back).toNat≤max t (nth y ((nth m.roads k).src back).toNat+eE m k back 6 9 12)
theorem Jv{m:aM}{t t':Int}(ht:t≤t'){into:Option (List Int)}{y:List Int}(h:clW m t none y):clW m t' into y:=by
 intro k hk back _ h1 h2 h3
 have:=h k hk back rfl h1 h2 (by omega)
 omega
theorem vV{α:Type}{f:α→α×Bool}(P:α→Prop)(hP:∀l,P l→P (f l).1):∀n l,P l→P (iK f n l)
 | 0,l,h=>h
 | n+1,l,h=>by
   unfold iK
   split
   · exact vV P hP n _ (hP l h)
   · exact hP l h
theorem vW{α:Type}{f:α→α×Bool}(P:α→Prop)(mes:α→Nat)(hP:∀l,P l→P (f l).1∧((f l).2=true→mes (f l).1<mes l)∧((f l).2=false→(f l).1=l)):∀n l,P l→mes l<n→(f (iK f n l)).2=false∧P (iK f n l)
 | 0,l,_,h=>by omega
 | n+1,l,hp,h=>by
   obtain⟨h1,h2,h3⟩:=hP l hp
   unfold iK
   cases hf:(f l).2 with
   | true=>
     rw[if_pos rfl]
     have:=h2 hf
     exact vW P mes hP n _ h1 (by omega)
   | false=>
     rw[if_neg (by simp),h3 hf]
     exact⟨hf,hp⟩
theorem zZ{m:aM}(t:Int)(into:Option (List Int))(k:Nat)(back:Bool)(l:List Int):
 (NC into ((nth m.roads k).dst back)=true∧0≤eE m k back 6 9 12∧nth l ((nth m.roads k).src back).toNat<1099511627776∧max t (nth l ((nth m.roads k).src back).toNat+eE m k back 6 9 12)≤2147483648∧
  max t (nth l ((nth m.roads k).src back).toNat+eE m k back 6 9 12)<nth l ((nth m.roads k).dst back).toNat∧
  fI m t into k back l=(l.set ((nth m.roads k).dst back).toNat (max t (nth l ((nth m.roads k).src back).toNat+eE m k back 6 9 12)),true))∨
 (fI m t into k back l=(l,false)∧¬(NC into ((nth m.roads k).dst back)=true∧0≤eE m k back 6 9 12∧nth l ((nth m.roads k).src back).toNat<1099511627776∧max t (nth l ((nth m.roads k).src back).toNat+eE m k back 6 9 12)≤2147483648∧
  max t (nth l ((nth m.roads k).src back).toNat+eE m k back 6 9 12)<nth l ((nth m.roads k).dst back).toNat)):=by
 unfold fI oB nM
 cases NC into ((nth m.roads k).dst back)with
 | false=>right;simp
 | true=>
   simp only[↓reduceIte,true_and,Bool.and_eq_true,decide_eq_true_eq]
   by_cases c:((0≤eE m k back 6 9 12∧nth l ((nth m.roads k).src back).toNat<1099511627776)∧max t (nth l ((nth m.roads k).src back).toNat+eE m k back 6 9 12)≤2147483648)∧max t (nth l ((nth m.roads k).src back).toNat+eE m k back 6 9 12)<nth l ((nth m.roads k).dst back).toNat
   · left
     refine⟨c.1.1.1,c.1.1.2,c.1.2,c.2,?_⟩
     rw[if_pos c]
     simp[c.1.1.1,c.1.1.2,c.1.2,c.2]
   · right
     refine⟨?_,fun h=>c ⟨⟨⟨h.1,h.2.1⟩,h.2.2.1⟩,h.2.2.2⟩⟩
     rw[if_neg c]
     simp only[Prod.mk.injEq,true_and]
     rw[Bool.eq_false_iff];intro h;simp only[Bool.and_eq_true,decide_eq_true_eq]at h;exact c h
section
variable {m : aM} (h : m.ok) {t : Int} {into : Option (List Int)}
include h
theorem CE(P:List Int→Prop)(hP:∀l,l.length=m.places.length→bnd l→P l→∀k,k<m.roads.length→∀back,P (fI m t into k back l).1){l:List Int}(hl:l.length=m.places.length)(hb:bnd l)(hp:P l):∀k,k≤m.roads.length→P (fm m t into l k).1
 | 0,_=>hp
 | k+1,hk=>by
   have ih:=CE P hP hl hb hp k (by omega)
   have b1:=jc h (t:=t) (into:=into) hl hb k (by omega)
   have l1:(fm m t into l k).1.length=m.places.length:=by rw[dE,hl]
   simp only[fm,vT]
   exact hP _ (by rw[qu,l1]) (tz h l1 b1 (by omega) false) (hP _ l1 b1 ih k (by omega) false) k (by omega) true
theorem yy(P:List Int→Prop)(hP:∀l,l.length=m.places.length→bnd l→P l→∀k,k<m.roads.length→∀back,P (fI m t into k back l).1){l:List Int}(hl:l.length=m.places.length)(hb:bnd l)(hp:P l):P (cV m t into l):=
 (vV (f:=dv m t into) (fun l=>(l.length=m.places.length∧bnd l)∧P l) (fun l hl=>⟨⟨by unfold dv;rw[dE];exact hl.1.1,jc h hl.1.1 hl.1.2 _ (Nat.le_refl _)⟩,CE h P hP hl.1.1 hl.1.2 hl.2 _ (Nat.le_refl _)⟩) _ l ⟨⟨hl,hb⟩,hp⟩).2
theorem AX{l:List Int}(hl:l.length=m.places.length)(hb:bnd l):(cV m t into l).length=m.places.length∧bnd (cV m t into l):=
 (vV (f:=dv m t into) (fun l=>(l.length=m.places.length∧bnd l)) (fun l hl=>⟨by unfold dv;rw[dE];exact hl.1,jc h hl.1 hl.2 _ (Nat.le_refl _)⟩) _ l ⟨hl,hb⟩)
theorem NF{l:List Int}(hl:l.length=m.places.length)(hb:bnd l)(j:Nat):nth (cV m t into l) j≤nth l j:=
 yy h (fun l'=>nth l' j≤nth l j) (fun l' hl' hb' hp k hk back=>by
  have r2:=Road.Cz (h.rs _ (ae hk)) back
  rcases zZ (m:=m) t into k back l' with⟨_,_,_,_,c,e⟩ | ⟨e,_⟩
  · rw[e];simp only
    rw[ku _ _ (by omega)]
    split
    · rename_i hj;rw[hj]at hp;rw[hj];omega
    · exact hp
  · rw[e];exact hp) hl hb (Int.le_refl _)
theorem NG{y l:List Int}(hy:clW m t into y)(hl:l.length=m.places.length)(hb:bnd l)(hle:∀j,nth y j≤nth l j):∀j,nth y j≤nth (cV m t into l) j:=
 yy h (fun l'=>∀j,nth y j≤nth l' j) (fun l' hl' hb' hp k hk back=>by
  have r2:=Road.Cz (h.rs _ (ae hk)) back
  rcases zZ (m:=m) t into k back l' with⟨c1,c2,c3,c4,c5,e⟩ | ⟨e,_⟩
  · rw[e];simp only
    intro j
    rw[ku _ _ (by omega)]
    split
    · rename_i hj
      have:=hp ((nth m.roads k).src back).toNat
      have:=hy k hk back c1 c2 (by omega) (by omega)
      rw[hj];omega
    · exact hp j
  · rw[e];exact hp) hl hb hle
theorem FP{l:List Int}(hl:l.length=m.places.length)(hb:bnd l):∀k,k≤m.roads.length→(fm m t into l k).2=false→∀i,i<k→∀back,(fI m t into i back l).2=false
 | 0,_,_,i,hi,_=>by omega
 | k+1,hk,hf,i,hi,back=>by
   have e:=(qv h (t:=t) (into:=into) hl hb k (by omega)).2
   have ih:=FP hl hb k (by omega)
   simp only[fm,vT,Bool.or_eq_false_iff]at hf
   obtain⟨⟨f1,f2⟩,f3⟩:=hf
   have e:=e f1
   rw[e]at f2 f3
   have e2:=(AU h (t:=t) (into:=into) hl hb (k:=k) (by omega) false).2 f2
   rw[e2]at f3
   by_cases c:i<k
   · exact ih f1 i c back
   · have:i=k:=by omega
     subst this
     cases back
     · exact f2
     · exact f3
theorem FQ{l:List Int}(hl:l.length=m.places.length)(hb:bnd l):clW m t into (cV m t into l):=by
 obtain⟨h1,h2,h3⟩:=vW (f:=dv m t into) (fun l=>l.length=m.places.length∧bnd l) vd (fun l ⟨hl,hb⟩=>⟨⟨by unfold dv;rw[dE];exact hl,jc h hl hb _ (Nat.le_refl _)⟩,qv h hl hb _ (Nat.le_refl _)⟩) (vd l+1) l ⟨hl,hb⟩ (Nat.lt_succ_self _)
 intro k hk back c1 c2 c3 c4
 have no:=FP h (t:=t) (into:=into) h2 h3 m.roads.length (Nat.le_refl _) h1 k hk back
 change (fI m t into k back (cV m t into l)).2=false at no
 rcases zZ (m:=m) t into k back (cV m t into l)with⟨_,_,_,_,_,e⟩ | ⟨_,e⟩
 · rw[e]at no;cases no
 · exact Classical.byContradiction fun hc=>e ⟨c1,c2,c3,c4,by omega⟩
theorem NH{l:List Int}(hl:l.length=m.places.length)(hb:bnd l)(hc:clW m t into l):cV m t into l=l:=by
 apply rC (by rw[(AX h hl hb).1,hl])
 intro j hj
 exact Int.le_antisymm (NF h hl hb j) (NG h hc hl hb (fun _=>Int.le_refl _) j)
theorem CF(P:Int→Prop){l:List Int}(hl:l.length=m.places.length)(hb:bnd l)(hp:∀x∈l,P x)(ht:∀x,t≤x→x≤2147483648→P x):∀x∈cV m t into l,P x:=
 yy h (fun l'=>∀x∈l',P x) (fun l' hl' hb' hp k hk back=>by
  rcases zZ (m:=m) t into k back l' with⟨c1,c2,c3,c4,c5,e⟩ | ⟨e,_⟩
  · rw[e]
    intro x hx
    rcases List.mem_or_eq_of_mem_set hx with hx | hx
    · exact hp x hx
    · subst hx;exact ht _ (by omega) c4
  · rw[e];exact hp) hl hb hp
end
theorem AY{m:aM}(h:m.ok){w:Wh}(hl:w.frm.length=m.places.length)(ht:inT w.time)(hp:∀x∈w.frm,plT x)(hc:clW m w.time none w.frm):dg m w=true:=by
 have hb:bnd w.frm:=fun x hx=>nF (hp x hx)
 simp only[dg,oC,Bool.and_eq_true,decide_eq_true_eq,List.all_eq_true,List.mem_range]
 exact⟨⟨⟨by omega,ht⟩,fun j hj=>hp _ (ae hj)⟩,NH h hl hb hc⟩
theorem AZ{m:aM}(h:m.ok){w:Wh}(hv:dg m w=true):clW m w.time none w.frm:=by
 obtain⟨v1,v2,v3,v4⟩:=cJ hv
 have:=FQ h (t:=w.time) (into:=none) v1 (fun x hx=>nF (v3 x hx))
 rwa [v4]at this
theorem rD{m:aM}(h:m.ok){l:List Int}(hl:l.length=m.places.length)(hp:∀x∈l,plT x){a b:Int}(ha:0≤a)(hab:a≤b)(hb:inT b):dg m ⟨b,cV m a none l⟩=true:=by
 have bn:bnd l:=fun x hx=>nF (hp x hx)
 exact AY h (AX h hl bn).1 hb (CF h plT hl bn hp (fun x h1 h2=> .inr ⟨by omega,h2⟩)) (Jv hab (FQ h hl bn))
theorem NI(n:Nat):∀x∈dS n,plT x:=fun x hx=>by rw[List.eq_of_mem_replicate hx];exact .inl rfl
theorem A0{m:aM}(h:m.ok){p t:Int}(h0:0≤p)(h1:p<m.places.length)(ht:inT t):gT m p t=(⟨t,cV m t none ((dS m.places.length).set p.toNat t)⟩,0)∧dg m (gT m p t).1=true:=by
 have e:gT m p t=(⟨t,cV m t none ((dS m.places.length).set p.toNat t)⟩,0):=by
  unfold gT;rw[if_neg (by omega),if_pos ht]
 refine⟨e,?_⟩
 rw[e]
 refine rD h (by simp) (fun x hx=>?_) ht.1 (Int.le_refl _) ht
 rcases List.mem_or_eq_of_mem_set hx with hx | hx
 · exact NI _ x hx
 · subst hx;exact .inr ht
theorem Jw{w:Wh}{l:List Int}{b:Int}{n:Nat}(hl:∀p∈l,0≤p∧p<n):∀k,k≤l.length→∀j,j<n→nth (BN w l b n k).1 j=if(j:Int)∈l.take k∧nth w.frm j≤b then nth w.frm j else 1099511627776
 | 0,_,j,hj=>by
   rw[if_neg (by simp)]
   exact bG (by simp[BN,dS,hj])
 | k+1,hk,j,hj=>by
   have ih:=Jw (w:=w) (b:=b) hl k (by omega) j hj
   have p:=hl _ (ae (l:=l) (j:=k) (by omega))
   rw[jQ (by omega)]
   simp only[BN,yx]
   by_cases e:(j:Int)=nth l k
   · have e2:j=(nth l k).toNat:=by omega
     by_cases c:nth w.frm (nth l k).toNat≤b
     · rw[if_pos c,ku _ _ (by rw[rB];omega),if_pos e2,if_pos ⟨by simp[e],by rw[e2];exact c⟩,e2]
     · rw[if_neg c,ih,if_neg (fun x=>c (by rw[← e2];exact x.2)),if_neg (fun x=>c (by rw[← e2];exact x.2))]
   · have e2:¬j=(nth l k).toNat:=by omega
     have mm:((j:Int)∈l.take k++[nth l k])↔(j:Int)∈l.take k:=by simp[e]
     simp only[mm]
     rw[← ih]
     split
     · rw[ku _ _ (by rw[rB];omega),if_neg e2]
     · rfl
end Go.Ev
namespace Go.Ev
open Go
variable [Lib] [bW] [bL]
def ofR(r:Road)(q:List Int×Bool):List Int×Bool:=
 if r.closed=true then q
 else if nth q.1 r.frm.toNat+r.len<nth q.1 r.to.toNat then(q.1.set r.to.toNat (nth q.1 r.frm.toNat+r.len),true)
 else if nth q.1 r.to.toNat+r.len<nth q.1 r.frm.toNat then(q.1.set r.frm.toNat (nth q.1 r.to.toNat+r.len),true)
 else q
def ofN(m:aM)(l:List Int):Nat→List Int×Bool
 | 0=>(l,false)
 | k+1=>ofR (nth m.roads k) (ofN m l k)
def ofG(m:aM)(l:List Int):List Int×Bool:=ofN m l m.roads.length
def ofB(m:aM)(p:Nat):List Int:=(dS m.places.length).set p 0
def ofD(m:aM)(p:Nat):List Int:=iK (ofG m) (vd (ofB m p)+1) (ofB m p)
def ofL(m:aM)(p:Nat)(r:Int):List Int:=bz m.places.length fun q=>decide (nth (ofD m p) q<1099511627776)&&decide (nth (ofD m p) q≤r)
structure OfI(m:aM)(p:Nat)(l:List Int):Prop where
 ln:l.length=m.places.length
 bd:bnd l
 z:nth l p=0
theorem abK{n:Nat}{r:Road}(h:r.ok n){l:List Int}(hl:l.length=n)(hb:bnd l)(b:Bool):
 (∃q x,q<l.length∧0<x∧x<nth l q∧ofR r (l,b)=(l.set q x,true))∨
 (ofR r (l,b)=(l,b)∧(r.closed=false→nth l r.to.toNat≤nth l r.frm.toNat+r.len∧nth l r.frm.toNat≤nth l r.to.toNat+r.len)):=by
 obtain⟨f0,f1,t0,t1,ne,l0, -⟩:=h
 have b1:=hb _ (ae (l:=l) (j:=r.frm.toNat) (by omega))
 have b2:=hb _ (ae (l:=l) (j:=r.to.toNat) (by omega))
 unfold ofR
 simp only
 split
 · rename_i c;right;exact⟨rfl,fun e=>by rw[e]at c;cases c⟩
 · split
   · rename_i c;left;exact⟨_,_,by omega,by omega,c,rfl⟩
   · split
     · rename_i c;left;exact⟨_,_,by omega,by omega,c,rfl⟩
     · right;exact⟨rfl,fun _=>by omega⟩
theorem OfI.set{m:aM}{p:Nat}{l:List Int}(h:OfI m p l){q:Nat}{x:Int}(hq:q<l.length)(h0:0<x)(hx:x<nth l q):OfI m p (l.set q x):=by
 have b1:=h.bd _ (ae hq)
 refine⟨by rw[List.length_set];exact h.ln,vU h.bd (by omega) (by omega),?_⟩
 rw[ku _ _ hq]
 split
 · rename_i e;subst e;have:=h.z;omega
 · exact h.z
theorem ve{m:aM}(hm:m.ok){p:Nat}{l:List Int}(h:OfI m p l):∀k,k≤m.roads.length→OfI m p (ofN m l k).1∧((ofN m l k).2=true→vd (ofN m l k).1<vd l)∧((ofN m l k).2=false→(ofN m l k).1=l)
 | 0,_=>⟨h,⟨fun e=>(by cases e),fun _=>rfl⟩⟩
 | k+1,hk=>by
   obtain⟨i1,i2,i3⟩:=ve hm h k (by omega)
   simp only[ofN]
   generalize ofN m l k=q at*
   obtain⟨l',b⟩:=q
   simp only at i1 i2 i3
   rcases abK (hm.rs _ (ae hk)) i1.ln i1.bd b with⟨q,x,h1,h2,h3,e⟩ | ⟨e, -⟩
   · rw[e]
     refine⟨i1.set h1 h2 h3,fun _=>?_,fun e=>(by cases e)⟩
     have s:=DE h1 (by omega) h3
     cases b with
     | true=>have:=i2 rfl;simp only;omega
     | false=>rw[i3 rfl]at s ⊢;exact s
   · rw[e];exact⟨i1,i2,i3⟩
theorem KR(n q:Nat)(h:q<n):nth (dS n) q=1099511627776:=bG (by unfold dS;rw[List.getElem?_replicate,if_pos h])
theorem VB{m:aM}{p:Nat}(hp:p<m.places.length):OfI m p (ofB m p):=by
 have ln:(dS m.places.length).length=m.places.length:=by simp[dS]
 refine⟨by unfold ofB;rw[List.length_set,ln],vU (fun x hx=>?_) (by omega) (by omega),?_⟩
 · have:=List.eq_of_mem_replicate hx;omega
 · unfold ofB;rw[ku _ _ (by omega),if_pos rfl]
theorem abL{m:aM}(hm:m.ok){p:Nat}(hp:p<m.places.length):(ofG m (ofD m p)).2=false∧OfI m p (ofD m p):=
 vW (OfI m p) vd (fun l hl=>ve hm hl _ (Nat.le_refl _)) _ _ (VB hp) (by omega)
theorem A1{n:Nat}{p:Nat→Bool}{x:Int}(h:x∈bz n p):∃k:Nat,x=k∧k<n∧p k=true:=by
 unfold bz at h
 simp only[List.mem_map,List.mem_filter,List.mem_range]at h
 obtain⟨k,⟨h1,h2⟩,rfl⟩:=h
 exact⟨k,rfl,h1,h2⟩
def VC(c:Bool):Option Bool→Option Bool
 | some d=>some (c&&d)
 | none=>none
@[go_sem] theorem YY (c d : Bool) : VC c (some d) = some (c && d) := (rfl)
def abM(H:ai)(neg:Bool):Option Bool→Option (D×ai)
 | some r=>some (.t (.bool (bif neg then !r else r)),H)
 | none=>none
@[go_sem] theorem YZ (H : ai) (r : Bool) : abM H true (some r) = some (.t (.bool (!r)), H) := (rfl)
@[go_sem] theorem Y0 : ((2 : Nat) : Int) = 2 := (rfl)
def iY(n:Nat)(p:Nat→Bool):Nat:=((List.range n).find? p).getD 0
theorem oD{gc:Bool}{dead:List Nat}{c:C}{vs:List D}{H:ai}(s:Nat→St)(n:Nat)(p:Nat→Bool)(e:Nat→Ex×St)(eN:Ex×St)
 (h0:(⟨j7 dead vs,H⟩:St)=s 0)
 (hs:∀j,j<n→p j=false→fG gc dead (s j).H.length (exS aE c (s j))=some (s (j+1)))
 (he:∀j,j<n→p j=true→exS aE c (s j)=some (e j)∧(e j).1≠ .normal)
 (hN:exS aE c (s n)=some eN) (hn:eN.1≠ .normal):
 exS aE (.loop gc dead c) ⟨vs,H⟩=some (if(List.range n).any p=true then e (iY n p)else eN):=by
 rw[cE s n p e eN h0 hs he hN hn,←DA]
 unfold iY
 cases hf:(List.range n).find? p with
 | none=>simp
 | some k=>simp
theorem HW{α:Type} [Dat α](l:List α)(p:α→Bool):((List.range l.length).any fun j=>p (nth l j))=l.any p:=by
 rw[Bool.eq_iff_iff,List.any_eq_true,List.any_eq_true]
 constructor
 · rintro ⟨j,hj,hp⟩
   exact⟨_,ae (List.mem_range.1 hj),hp⟩
 · rintro ⟨x,hx,hp⟩
   obtain⟨j,hj,rfl⟩:=List.getElem_of_mem hx
   exact⟨j,List.mem_range.2 hj,by rw[bG (List.getElem?_eq_getElem hj)];exact hp⟩
theorem NJ(n:Nat)(p:Nat→Bool):(List.range n).all p= !((List.range n).any fun j=> !p j):=by
 rw[List.all_eq_not_any_not]
@[go_sem] theorem abN : kZ [] [] [] = some true := (rfl)
@[go_sem] theorem abO (ks : List Bool) (k : IntKind) (a b : Int) (xs ys : List T) : kZ (true :: ks) (.int k a :: xs) (.int k b :: ys) = VC (decide (a = b)) (kZ ks xs ys) := by
 simp only[kZ,if_true,afh]
 cases kZ ks xs ys<;>rfl
@[go_sem] theorem Y1 (ks : List Bool) (a b : Bool) (xs ys : List T) : kZ (false :: ks) (.bool a :: xs) (.bool b :: ys) = VC (decide (a = b)) (kZ ks xs ys) := by
 simp only[kZ,show(a==b)=decide (a=b)from rfl]
 cases kZ ks xs ys<;>rfl
@[go_sem] theorem aey (H : ai) (ks : List Bool) (neg : Bool) (xs ys : List T) : Fw H (.sc ks) neg (some (.t (.agg xs))) (some (.t (.agg ys))) = abM H neg (kZ ks xs ys) := by
 simp only[Fw,Option.bind_some,ZX,eqD]
 cases kZ ks xs ys with
 | none=>rfl
 | some r=>cases neg<;>rfl
end Go.Ev
