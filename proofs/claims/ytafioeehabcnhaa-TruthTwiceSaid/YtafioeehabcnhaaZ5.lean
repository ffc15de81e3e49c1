/- Parts of the proof: see the text that holds the theorem. -/
import Derived.Test.YtafioeehabcnhaaZ4
set_option linter.all false
namespace Go.Ev
open Go
variable [Lib] [bT] [bU] [dL] [dI] [fP] [dF] [dC] [eO] [eD] [cE] [cO] [ea] [eb] [fT] [fw] [fH] [dU] [ec]
def sx(x:Tru)(a b:Rdr)(p p2:List Int)(m off:Int)(j:Nat)(st:St):Prop:=∃G:List (List Int),G.length≤j∧(∀i,i<j→(cV x.people a.pl a.miss m p) i=false)∧(∀g∈G,g.length≤j)∧st=⟨[.und,I 0,I m,.und,.bp 0 0,.bp 1 0,.bp 2 0,.und,.bp 3 0,.bp 14 0,.bp 15 0,I j,.und,.und],[.box (x.cs.map .t),.box ae,.box [I 0,I 0,I 0,.nil],.box [.t (tL a.pl),I a.per,I a.miss,I a.skew],.arr 3 false 0 ((x.people.map Wlk.e).map .t),arI x.tags,.arr 4 false 0 [aN 10 a,aN 11 b],arI x.numbers,arI x.looked,.arr 1 false 0 [.ref 12 0 p.length,.ref 13 0 p2.length],arI a.pl,arI b.pl,arI (a7 (bI x.people a.pl m p) p j),arI p2,.box (az 4 x),.box [I 0,I 0,I (x.time+off),bf 16 G]]++(G.map fun g=>arI g)⟩
def Db(x:Tru)(a b:Rdr)(p p2:List Int)(m off:Int)(q:Ex×St):Prop:=((List.range x.people.length).any (cV x.people a.pl a.miss m p)=true∧∃(j:Nat) (rest:aj),q=(.ret,⟨[.und,I 0,I m,.und,.bp 0 0,.bp 1 0,.bp 2 0,I 43,.bp 3 0,.bp 14 0,.bp 15 0,I j,.und,.und],.box (x.cs.map .t):: .box (x.cs.map .t):: .box [I 0,I 0,I 0,.nil]::rest⟩))∨((List.range x.people.length).any (cV x.people a.pl a.miss m p)=false∧∃st,sx x a b p p2 m off x.people.length st∧q=(.exit 0,st))
theorem Lz{x:Tru}(h:x.ok){a b:Rdr}{p p2:List Int}(e1:x.readers=[a,b])(e2:x.missed=[p,p2])(m off:Int)(j:Nat)(st:St)(hj:j<x.people.length)(hp:sx x a b p p2 m off j st):
 (∃st',eB false [0,3,7,12,13] st.H.length (exS aT K.ab st)=some st'∧sx x a b p p2 m off (j+1) st')∨∃q,exS aT K.ab st=some q∧q.1≠ .normal∧Db x a b p p2 m off q:=by
 have n3:=h.n3
 have tl:=h.tl
 have nl:=h.nl
 have ll:=h.ll
 have t0:=h.t0
 have t1:=h.t1
 have nb:=h.nb 0 (by rw[e1];simp)
 have mb:=h.mb 0 (by rw[e1];simp)
 have m2:=h.m2 0 (by rw[e1];simp)
 have rk:nth x.readers 0=a:=by rw[e1];rfl
 have mk:nth x.missed 0=p:=by rw[e2];rfl
 have ml:x.missed.length=2:=by rw[e2];rfl
 have rn:x.readers.length=2:=by rw[e1];rfl
 have ro:=h.r a (by rw[e1];simp)
 rw[rk,mk]at mb
 rw[mk]at m2
 obtain⟨rs,rl,rl1,rp1,rp2,rm1,rm2,rk1,rk2⟩:=ro
 have ex:(x.people.map Wlk.e)[j]?=some (nth x.people j).e:=aD _ hj
 have et:(x.tags.map (T.int .i64))[j]?=some (tI (nth x.tags j)):=aD _ (by omega)
 have hs:=qd a.pl (nth x.people j).place (by omega)
 have mbj:=mb j hj
 have wu:IntKind.u64.wrap (j:Int)=j:=km j (by omega)
 have sh:=kn m j
 have an:=fJ m j
 obtain⟨G,gl,hb,gb,rfl⟩:=hp
 have ql:=cD (bI x.people a.pl m p) p j
 have qj:=iI (bI x.people a.pl m p) p j j (Nat.le_refl _)
 by_cases hq:(cV x.people a.pl a.miss m p) j=true
 · have anyb:(List.range x.people.length).any (cV x.people a.pl a.miss m p)=true:=List.any_eq_true.2 ⟨j,List.mem_range.2 hj,hq⟩
   unfold cV bO eP at hq
   simp only[Bool.and_eq_true,decide_eq_true_eq]at hq
   obtain⟨⟨h1,h2⟩,h3⟩:=hq
   generalize a7 _ p j=q at*
   rw[← qj]at h3
   have nse:nth (q.set j (nth q j+1)) j=nth q j+1:=aK (by omega)
   rw[decide_eq_true h1]at hs
   have key:∃rest:aj,exS aT K.ab ⟨[.und,I 0,I m,.und,.bp 0 0,.bp 1 0,.bp 2 0,.und,.bp 3 0,.bp 14 0,.bp 15 0,I j,.und,.und],[.box (x.cs.map .t),.box ae,.box [I 0,I 0,I 0,.nil],.box [.t (tL a.pl),I a.per,I a.miss,I a.skew],.arr 3 false 0 ((x.people.map Wlk.e).map .t),arI x.tags,.arr 4 false 0 [aN 10 a,aN 11 b],arI x.numbers,arI x.looked,.arr 1 false 0 [.ref 12 0 p.length,.ref 13 0 p2.length],arI a.pl,arI b.pl,arI q,arI p2,.box (az 4 x),.box [I 0,I 0,I (x.time+off),bf 16 G]]++(G.map fun g=>arI g)⟩=some (.ret,⟨[.und,I 0,I m,.und,.bp 0 0,.bp 1 0,.bp 2 0,I 43,.bp 3 0,.bp 14 0,.bp 15 0,I j,.und,.und],.box (x.cs.map .t):: .box (x.cs.map .t):: .box [I 0,I 0,I 0,.nil]::rest⟩):=by
    rcases G with _ | ⟨g,_ | ⟨g2,_ | ⟨g3,G⟩⟩⟩
    · obtain⟨⟨places,roads⟩,time,people,tags,readers,numbers,looked,missed⟩:=x
      simp only[ae,Tru.cs,az,aN,arI,bf,List.getLast?,List.getLast,List.cons_append,List.nil_append,List.map_cons,List.map_nil,LLe,tL,ml,rn,Nat.reduceAdd,Nat.reduceSub,List.length_cons,List.length_nil]at*
      simp (disch:=omega) only[go_sem,K.ab,↓reduceIte,ex,hs,wu,sh,an,h2,nse,h3,ai,List.length_set,ql,gt_iff_lt,Nat.reduceAdd,Nat.reduceSub]
      exact⟨_,rfl⟩
    · obtain⟨⟨places,roads⟩,time,people,tags,readers,numbers,looked,missed⟩:=x
      simp only[ae,Tru.cs,az,aN,arI,bf,List.getLast?,List.getLast,List.cons_append,List.nil_append,List.map_cons,List.map_nil,LLe,tL,ml,rn,Nat.reduceAdd,Nat.reduceSub,List.length_cons,List.length_nil]at*
      simp (disch:=omega) only[go_sem,K.ab,↓reduceIte,ex,hs,wu,sh,an,h2,nse,h3,ai,List.length_set,ql,gt_iff_lt,Nat.reduceAdd,Nat.reduceSub]
      exact⟨_,rfl⟩
    · obtain⟨⟨places,roads⟩,time,people,tags,readers,numbers,looked,missed⟩:=x
      simp only[ae,Tru.cs,az,aN,arI,bf,List.getLast?,List.getLast,List.cons_append,List.nil_append,List.map_cons,List.map_nil,LLe,tL,ml,rn,Nat.reduceAdd,Nat.reduceSub,List.length_cons,List.length_nil]at*
      simp (disch:=omega) only[go_sem,K.ab,↓reduceIte,ex,hs,wu,sh,an,h2,nse,h3,ai,List.length_set,ql,gt_iff_lt,Nat.reduceAdd,Nat.reduceSub]
      exact⟨_,rfl⟩
    · simp only[List.length_cons]at gl;omega
   obtain⟨rest,key⟩:=key
   exact .inr ⟨_,key,by simp,.inl ⟨anyb,j,rest,rfl⟩⟩
 · have hq:(cV x.people a.pl a.miss m p) j=false:=by simpa using hq
   have hb2:∀i,i<j+1→(cV x.people a.pl a.miss m p) i=false:=fun i hi=>by
    by_cases c:i=j
    · rw[c];exact hq
    · exact hb i (by omega)
   have gb2:∀g∈G,g.length≤j+1:=fun g hg=>Nat.le_succ_of_le (gb g hg)
   left
   by_cases h1:(nth x.people j).place∈a.pl
   · rw[decide_eq_true h1]at hs
     by_cases h2:sM m j=1
     · have nw:(bI x.people a.pl m p) j=nth p j+1:=by unfold bI bO eP;rw[decide_eq_true h1,decide_eq_true h2];rfl
       have nl0:¬a.miss<nth p j+1:=by
        unfold cV bO eP at hq
        rw[decide_eq_true h1,decide_eq_true h2]at hq
        simpa using hq
       refine⟨_,?_,G,by omega,hb2,gb2,rfl⟩
       simp only[a7,nw]
       generalize a7 _ p j=q at*
       rw[← qj]at nl0 ⊢
       have nse:nth (q.set j (nth q j+1)) j=nth q j+1:=aK (by omega)
       rcases G with _ | ⟨g,_ | ⟨g2,_ | ⟨g3,G⟩⟩⟩
       · obtain⟨⟨places,roads⟩,time,people,tags,readers,numbers,looked,missed⟩:=x
         simp only[ae,Tru.cs,az,aN,arI,bf,List.getLast?,List.getLast,List.cons_append,List.nil_append,List.map_cons,List.map_nil,LLe,tL,ml,rn,Nat.reduceAdd,Nat.reduceSub,List.length_cons,List.length_nil]at*
         simp (disch:=omega) only[go_sem,K.ab,↓reduceIte,ex,hs,wu,sh,an,h2,nse,nl0,ai,List.length_set,ql,gt_iff_lt,Nat.reduceAdd,Nat.reduceSub]
       · obtain⟨⟨places,roads⟩,time,people,tags,readers,numbers,looked,missed⟩:=x
         simp only[ae,Tru.cs,az,aN,arI,bf,List.getLast?,List.getLast,List.cons_append,List.nil_append,List.map_cons,List.map_nil,LLe,tL,ml,rn,Nat.reduceAdd,Nat.reduceSub,List.length_cons,List.length_nil]at*
         simp (disch:=omega) only[go_sem,K.ab,↓reduceIte,ex,hs,wu,sh,an,h2,nse,nl0,ai,List.length_set,ql,gt_iff_lt,Nat.reduceAdd,Nat.reduceSub]
       · obtain⟨⟨places,roads⟩,time,people,tags,readers,numbers,looked,missed⟩:=x
         simp only[ae,Tru.cs,az,aN,arI,bf,List.getLast?,List.getLast,List.cons_append,List.nil_append,List.map_cons,List.map_nil,LLe,tL,ml,rn,Nat.reduceAdd,Nat.reduceSub,List.length_cons,List.length_nil]at*
         simp (disch:=omega) only[go_sem,K.ab,↓reduceIte,ex,hs,wu,sh,an,h2,nse,nl0,ai,List.length_set,ql,gt_iff_lt,Nat.reduceAdd,Nat.reduceSub]
       · simp only[List.length_cons]at gl;omega
     · have nw:(bI x.people a.pl m p) j=0:=by unfold bI bO eP;rw[decide_eq_true h1,decide_eq_false h2];rfl
       have rs1:a7 (bI x.people a.pl m p) p (j+1)=(a7 (bI x.people a.pl m p) p j).set j 0:=by rw[a7,nw]
       unfold sx
       rw[rs1]
       generalize a7 _ p j=q at*
       rcases G with _ | ⟨g,_ | ⟨g2,_ | ⟨g3,G⟩⟩⟩
       · have pl:=fC ([]:List Int) (nth x.tags j)
         have fp:=di ([]:List Int) (nth x.tags j)
         have lp2:∀z0 z3 z7 z13:D,exS aT K.bk ⟨[z0,I 0,I m,z3,.bp 0 0,.bp 1 0,.bp 2 0,z7,.bp 3 0,.bp 14 0,.bp 15 0,I j,I 0,z13],[.box (x.cs.map .t),.box ae,.box [I 0,I 0,I 0,.nil],.box [.t (tL a.pl),I a.per,I a.miss,I a.skew],.arr 3 false 0 ((x.people.map Wlk.e).map .t),arI x.tags,.arr 4 false 0 [aN 10 a,aN 11 b],arI x.numbers,arI x.looked,.arr 1 false 0 [.ref 12 0 p.length,.ref 13 0 p2.length],arI a.pl,arI b.pl,arI (q.set j 0),arI p2,.box (az 4 x),.box [I 0,I 0,I (x.time+off),bf 16 []]]++([]:List (List Int)).map fun g=>arI g⟩=some (.exit 2,⟨[.und,I 0,I m,.und,.bp 0 0,.bp 1 0,.bp 2 0,.und,.bp 3 0,.bp 14 0,.bp 15 0,I j,I (fm ([]:List Int) (nth x.tags j)),.und],[.box (x.cs.map .t),.box ae,.box [I 0,I 0,I 0,.nil],.box [.t (tL a.pl),I a.per,I a.miss,I a.skew],.arr 3 false 0 ((x.people.map Wlk.e).map .t),arI x.tags,.arr 4 false 0 [aN 10 a,aN 11 b],arI x.numbers,arI x.looked,.arr 1 false 0 [.ref 12 0 p.length,.ref 13 0 p2.length],arI a.pl,arI b.pl,arI (q.set j 0),arI p2,.box (az 4 x),.box [I 0,I 0,I (x.time+off),bf 16 []]]++([]:List (List Int)).map fun g=>arI g⟩):=by
          intro z0 z3 z7 z13
          refine bV (fun i=>⟨[.und,I 0,I m,.und,.bp 0 0,.bp 1 0,.bp 2 0,.und,.bp 3 0,.bp 14 0,.bp 15 0,I j,I i,.und],[.box (x.cs.map .t),.box ae,.box [I 0,I 0,I 0,.nil],.box [.t (tL a.pl),I a.per,I a.miss,I a.skew],.arr 3 false 0 ((x.people.map Wlk.e).map .t),arI x.tags,.arr 4 false 0 [aN 10 a,aN 11 b],arI x.numbers,arI x.looked,.arr 1 false 0 [.ref 12 0 p.length,.ref 13 0 p2.length],arI a.pl,arI b.pl,arI (q.set j 0),arI p2,.box (az 4 x),.box [I 0,I 0,I (x.time+off),bf 16 []]]++([]:List (List Int)).map fun g=>arI g⟩) (fm ([]:List Int) (nth x.tags j)) rfl ?_ ?_ (by simp)
          · intro i hi
            exact absurd hi (by simp only[List.length_nil]at pl;omega)
          · generalize fm ([]:List Int) (nth x.tags j)=i at*
            have i0:i=0:=by simp only[List.length_nil]at pl;omega
            subst i0
            obtain⟨⟨places,roads⟩,time,people,tags,readers,numbers,looked,missed⟩:=x
            simp only[ae,Tru.cs,az,aN,arI,bf,List.getLast?,List.getLast,List.cons_append,List.nil_append,List.map_cons,List.map_nil,LLe,tL,ml,rn,Nat.reduceAdd,Nat.reduceSub,List.length_cons,List.length_nil]at*
            simp (disch:=omega) only[go_sem,K.aA,↓reduceIte,et,Nat.reduceAdd,Nat.reduceSub]
         refine⟨_,?_,[]++[(kY ([]:List Int) (nth x.tags j))],by simp only[List.length_append,List.length_cons,List.length_nil]at *;omega,hb2,?_,rfl⟩
         · unfold kY
           generalize fm ([]:List Int) (nth x.tags j)=i at*
           obtain⟨⟨places,roads⟩,time,people,tags,readers,numbers,looked,missed⟩:=x
           simp only[ae,Tru.cs,az,aN,arI,bf,List.getLast?,List.getLast,List.cons_append,List.nil_append,List.map_cons,List.map_nil,LLe,tL,ml,rn,Nat.reduceAdd,Nat.reduceSub,List.length_cons,List.length_nil]at*
           simp (disch:=omega) only[go_sem,K.ab,↓reduceIte,ex,et,hs,wu,sh,an,h2,lp2,ai,List.length_set,ql,List.map_append,List.map_cons,List.map_nil,List.length_append,List.length_take,List.length_drop,List.length_singleton,List.length_map,Nat.reduceAdd,Nat.reduceSub]
         · intro g4 hg
           simp only[List.mem_append,List.mem_cons,List.not_mem_nil,or_false,false_or]at hg
           rw[hg,dZ];simp
       · have pl:=fC g (nth x.tags j)
         have fp:=di g (nth x.tags j)
         have tgl:=gb g (by simp)
         have lp2:∀z0 z3 z7 z13:D,exS aT K.bk ⟨[z0,I 0,I m,z3,.bp 0 0,.bp 1 0,.bp 2 0,z7,.bp 3 0,.bp 14 0,.bp 15 0,I j,I 0,z13],[.box (x.cs.map .t),.box ae,.box [I 0,I 0,I 0,.nil],.box [.t (tL a.pl),I a.per,I a.miss,I a.skew],.arr 3 false 0 ((x.people.map Wlk.e).map .t),arI x.tags,.arr 4 false 0 [aN 10 a,aN 11 b],arI x.numbers,arI x.looked,.arr 1 false 0 [.ref 12 0 p.length,.ref 13 0 p2.length],arI a.pl,arI b.pl,arI (q.set j 0),arI p2,.box (az 4 x),.box [I 0,I 0,I (x.time+off),bf 16 [g]]]++([g]:List (List Int)).map fun g=>arI g⟩=some (.exit 2,⟨[.und,I 0,I m,.und,.bp 0 0,.bp 1 0,.bp 2 0,.und,.bp 3 0,.bp 14 0,.bp 15 0,I j,I (fm g (nth x.tags j)),.und],[.box (x.cs.map .t),.box ae,.box [I 0,I 0,I 0,.nil],.box [.t (tL a.pl),I a.per,I a.miss,I a.skew],.arr 3 false 0 ((x.people.map Wlk.e).map .t),arI x.tags,.arr 4 false 0 [aN 10 a,aN 11 b],arI x.numbers,arI x.looked,.arr 1 false 0 [.ref 12 0 p.length,.ref 13 0 p2.length],arI a.pl,arI b.pl,arI (q.set j 0),arI p2,.box (az 4 x),.box [I 0,I 0,I (x.time+off),bf 16 [g]]]++([g]:List (List Int)).map fun g=>arI g⟩):=by
          intro z0 z3 z7 z13
          refine bV (fun i=>⟨[.und,I 0,I m,.und,.bp 0 0,.bp 1 0,.bp 2 0,.und,.bp 3 0,.bp 14 0,.bp 15 0,I j,I i,.und],[.box (x.cs.map .t),.box ae,.box [I 0,I 0,I 0,.nil],.box [.t (tL a.pl),I a.per,I a.miss,I a.skew],.arr 3 false 0 ((x.people.map Wlk.e).map .t),arI x.tags,.arr 4 false 0 [aN 10 a,aN 11 b],arI x.numbers,arI x.looked,.arr 1 false 0 [.ref 12 0 p.length,.ref 13 0 p2.length],arI a.pl,arI b.pl,arI (q.set j 0),arI p2,.box (az 4 x),.box [I 0,I 0,I (x.time+off),bf 16 [g]]]++([g]:List (List Int)).map fun g=>arI g⟩) (fm g (nth x.tags j)) rfl ?_ ?_ (by simp)
          · intro i hi
            have lt:=fp.1 i hi
            have eg:(g.map (T.int .i64))[i]?=some (tI (nth g i)):=aD _ (by omega)
            obtain⟨⟨places,roads⟩,time,people,tags,readers,numbers,looked,missed⟩:=x
            simp only[ae,Tru.cs,az,aN,arI,bf,List.getLast?,List.getLast,List.cons_append,List.nil_append,List.map_cons,List.map_nil,LLe,tL,ml,rn,Nat.reduceAdd,Nat.reduceSub,List.length_cons,List.length_nil]at*
            simp (disch:=omega) only[go_sem,K.aA,↓reduceIte,eg,et,lt,List.length_map,Nat.reduceAdd,Nat.reduceSub]
          · generalize fm g (nth x.tags j)=i at*
            have eg:=fun hi:i<g.length=>(aD _ hi:(g.map (T.int .i64))[i]?=some (tI (nth g i)))
            obtain⟨⟨places,roads⟩,time,people,tags,readers,numbers,looked,missed⟩:=x
            simp only[ae,Tru.cs,az,aN,arI,bf,List.getLast?,List.getLast,List.cons_append,List.nil_append,List.map_cons,List.map_nil,LLe,tL,ml,rn,Nat.reduceAdd,Nat.reduceSub,List.length_cons,List.length_nil]at*
            by_cases hi:i<g.length
            · have lt:=fp.2 hi
              have eg:=eg hi
              simp (disch:=omega) only[go_sem,K.aA,↓reduceIte,eg,et,lt,hi,List.length_map,Nat.reduceAdd,Nat.reduceSub]
            · simp (disch:=omega) only[go_sem,K.aA,↓reduceIte,hi,List.length_map,Nat.reduceAdd,Nat.reduceSub]
         refine⟨_,?_,[g]++[(kY g (nth x.tags j))],by simp only[List.length_append,List.length_cons,List.length_nil]at *;omega,hb2,?_,rfl⟩
         · unfold kY
           generalize fm g (nth x.tags j)=i at*
           obtain⟨⟨places,roads⟩,time,people,tags,readers,numbers,looked,missed⟩:=x
           simp only[ae,Tru.cs,az,aN,arI,bf,List.getLast?,List.getLast,List.cons_append,List.nil_append,List.map_cons,List.map_nil,LLe,tL,ml,rn,Nat.reduceAdd,Nat.reduceSub,List.length_cons,List.length_nil]at*
           simp (disch:=omega) only[go_sem,K.ab,↓reduceIte,ex,et,hs,wu,sh,an,h2,lp2,ai,List.length_set,ql,List.map_append,List.map_cons,List.map_nil,List.length_append,List.length_take,List.length_drop,List.length_singleton,List.length_map,iZ,gM,Nat.reduceAdd,Nat.reduceSub]
           simp only[List.map_append,List.map_take,List.map_drop,List.map_cons,List.map_nil,Nat.min_self,Nat.sub_zero,cM]
         · intro g4 hg
           simp only[List.mem_append,List.mem_cons,List.not_mem_nil,or_false,false_or]at hg
           rcases hg with hg | hg
           · rw[hg];exact gb2 _ (by simp)
           · rw[hg,dZ];omega
       · have pl:=fC g2 (nth x.tags j)
         have fp:=di g2 (nth x.tags j)
         have tgl:=gb g2 (by simp)
         have lp2:∀z0 z3 z7 z13:D,exS aT K.bk ⟨[z0,I 0,I m,z3,.bp 0 0,.bp 1 0,.bp 2 0,z7,.bp 3 0,.bp 14 0,.bp 15 0,I j,I 0,z13],[.box (x.cs.map .t),.box ae,.box [I 0,I 0,I 0,.nil],.box [.t (tL a.pl),I a.per,I a.miss,I a.skew],.arr 3 false 0 ((x.people.map Wlk.e).map .t),arI x.tags,.arr 4 false 0 [aN 10 a,aN 11 b],arI x.numbers,arI x.looked,.arr 1 false 0 [.ref 12 0 p.length,.ref 13 0 p2.length],arI a.pl,arI b.pl,arI (q.set j 0),arI p2,.box (az 4 x),.box [I 0,I 0,I (x.time+off),bf 16 [g,g2]]]++([g,g2]:List (List Int)).map fun g=>arI g⟩=some (.exit 2,⟨[.und,I 0,I m,.und,.bp 0 0,.bp 1 0,.bp 2 0,.und,.bp 3 0,.bp 14 0,.bp 15 0,I j,I (fm g2 (nth x.tags j)),.und],[.box (x.cs.map .t),.box ae,.box [I 0,I 0,I 0,.nil],.box [.t (tL a.pl),I a.per,I a.miss,I a.skew],.arr 3 false 0 ((x.people.map Wlk.e).map .t),arI x.tags,.arr 4 false 0 [aN 10 a,aN 11 b],arI x.numbers,arI x.looked,.arr 1 false 0 [.ref 12 0 p.length,.ref 13 0 p2.length],arI a.pl,arI b.pl,arI (q.set j 0),arI p2,.box (az 4 x),.box [I 0,I 0,I (x.time+off),bf 16 [g,g2]]]++([g,g2]:List (List Int)).map fun g=>arI g⟩):=by
          intro z0 z3 z7 z13
          refine bV (fun i=>⟨[.und,I 0,I m,.und,.bp 0 0,.bp 1 0,.bp 2 0,.und,.bp 3 0,.bp 14 0,.bp 15 0,I j,I i,.und],[.box (x.cs.map .t),.box ae,.box [I 0,I 0,I 0,.nil],.box [.t (tL a.pl),I a.per,I a.miss,I a.skew],.arr 3 false 0 ((x.people.map Wlk.e).map .t),arI x.tags,.arr 4 false 0 [aN 10 a,aN 11 b],arI x.numbers,arI x.looked,.arr 1 false 0 [.ref 12 0 p.length,.ref 13 0 p2.length],arI a.pl,arI b.pl,arI (q.set j 0),arI p2,.box (az 4 x),.box [I 0,I 0,I (x.time+off),bf 16 [g,g2]]]++([g,g2]:List (List Int)).map fun g=>arI g⟩) (fm g2 (nth x.tags j)) rfl ?_ ?_ (by simp)
          · intro i hi
            have lt:=fp.1 i hi
            have eg:(g2.map (T.int .i64))[i]?=some (tI (nth g2 i)):=aD _ (by omega)
            obtain⟨⟨places,roads⟩,time,people,tags,readers,numbers,looked,missed⟩:=x
            simp only[ae,Tru.cs,az,aN,arI,bf,List.getLast?,List.getLast,List.cons_append,List.nil_append,List.map_cons,List.map_nil,LLe,tL,ml,rn,Nat.reduceAdd,Nat.reduceSub,List.length_cons,List.length_nil]at*
            simp (disch:=omega) only[go_sem,K.aA,↓reduceIte,eg,et,lt,List.length_map,Nat.reduceAdd,Nat.reduceSub]
          · generalize fm g2 (nth x.tags j)=i at*
            have eg:=fun hi:i<g2.length=>(aD _ hi:(g2.map (T.int .i64))[i]?=some (tI (nth g2 i)))
            obtain⟨⟨places,roads⟩,time,people,tags,readers,numbers,looked,missed⟩:=x
            simp only[ae,Tru.cs,az,aN,arI,bf,List.getLast?,List.getLast,List.cons_append,List.nil_append,List.map_cons,List.map_nil,LLe,tL,ml,rn,Nat.reduceAdd,Nat.reduceSub,List.length_cons,List.length_nil]at*
            by_cases hi:i<g2.length
            · have lt:=fp.2 hi
              have eg:=eg hi
              simp (disch:=omega) only[go_sem,K.aA,↓reduceIte,eg,et,lt,hi,List.length_map,Nat.reduceAdd,Nat.reduceSub]
            · simp (disch:=omega) only[go_sem,K.aA,↓reduceIte,hi,List.length_map,Nat.reduceAdd,Nat.reduceSub]
         refine⟨_,?_,[g,g2]++[(kY g2 (nth x.tags j))],by simp only[List.length_append,List.length_cons,List.length_nil]at *;omega,hb2,?_,rfl⟩
         · unfold kY
           generalize fm g2 (nth x.tags j)=i at*
           obtain⟨⟨places,roads⟩,time,people,tags,readers,numbers,looked,missed⟩:=x
           simp only[ae,Tru.cs,az,aN,arI,bf,List.getLast?,List.getLast,List.cons_append,List.nil_append,List.map_cons,List.map_nil,LLe,tL,ml,rn,Nat.reduceAdd,Nat.reduceSub,List.length_cons,List.length_nil]at*
           simp (disch:=omega) only[go_sem,K.ab,↓reduceIte,ex,et,hs,wu,sh,an,h2,lp2,ai,List.length_set,ql,List.map_append,List.map_cons,List.map_nil,List.length_append,List.length_take,List.length_drop,List.length_singleton,List.length_map,iZ,gM,Nat.reduceAdd,Nat.reduceSub]
           simp only[List.map_append,List.map_take,List.map_drop,List.map_cons,List.map_nil,Nat.min_self,Nat.sub_zero,cM]
         · intro g4 hg
           simp only[List.mem_append,List.mem_cons,List.not_mem_nil,or_false,false_or]at hg
           rcases hg with(hg | hg) | hg
           · rw[hg];exact gb2 _ (by simp)
           · rw[hg];exact gb2 _ (by simp)
           · rw[hg,dZ];omega
       · simp only[List.length_cons]at gl;omega
   · have nw:(bI x.people a.pl m p) j=0:=by unfold bI bO eP;rw[decide_eq_false h1];rfl
     rw[decide_eq_false h1]at hs
     refine⟨_,?_,G,by omega,hb2,gb2,rfl⟩
     simp only[a7,nw]
     generalize a7 _ p j=q at*
     rcases G with _ | ⟨g,_ | ⟨g2,_ | ⟨g3,G⟩⟩⟩
     · obtain⟨⟨places,roads⟩,time,people,tags,readers,numbers,looked,missed⟩:=x
       simp only[ae,Tru.cs,az,aN,arI,bf,List.getLast?,List.getLast,List.cons_append,List.nil_append,List.map_cons,List.map_nil,LLe,tL,ml,rn,Nat.reduceAdd,Nat.reduceSub,List.length_cons,List.length_nil]at*
       simp (disch:=omega) only[go_sem,K.ab,↓reduceIte,ex,hs,ai,List.length_set,ql,Nat.reduceAdd,Nat.reduceSub]
     · obtain⟨⟨places,roads⟩,time,people,tags,readers,numbers,looked,missed⟩:=x
       simp only[ae,Tru.cs,az,aN,arI,bf,List.getLast?,List.getLast,List.cons_append,List.nil_append,List.map_cons,List.map_nil,LLe,tL,ml,rn,Nat.reduceAdd,Nat.reduceSub,List.length_cons,List.length_nil]at*
       simp (disch:=omega) only[go_sem,K.ab,↓reduceIte,ex,hs,ai,List.length_set,ql,Nat.reduceAdd,Nat.reduceSub]
     · obtain⟨⟨places,roads⟩,time,people,tags,readers,numbers,looked,missed⟩:=x
       simp only[ae,Tru.cs,az,aN,arI,bf,List.getLast?,List.getLast,List.cons_append,List.nil_append,List.map_cons,List.map_nil,LLe,tL,ml,rn,Nat.reduceAdd,Nat.reduceSub,List.length_cons,List.length_nil]at*
       simp (disch:=omega) only[go_sem,K.ab,↓reduceIte,ex,hs,ai,List.length_set,ql,Nat.reduceAdd,Nat.reduceSub]
     · simp only[List.length_cons]at gl;omega
theorem LA{x:Tru}(h:x.ok){a b:Rdr}{p p2:List Int}(e1:x.readers=[a,b])(e2:x.missed=[p,p2])(m off:Int)(z0 z3 z7 z12 z13:D):∃q,exS aT K.fA ⟨[z0,I 0,I m,z3,.bp 0 0,.bp 1 0,.bp 2 0,z7,.bp 3 0,.bp 14 0,.bp 15 0,I 0,z12,z13],[.box (x.cs.map .t),.box ae,.box [I 0,I 0,I 0,.nil],.box [.t (tL a.pl),I a.per,I a.miss,I a.skew],.arr 3 false 0 ((x.people.map Wlk.e).map .t),arI x.tags,.arr 4 false 0 [aN 10 a,aN 11 b],arI x.numbers,arI x.looked,.arr 1 false 0 [.ref 12 0 p.length,.ref 13 0 p2.length],arI a.pl,arI b.pl,arI p,arI p2,.box (az 4 x),.box [I 0,I 0,I (x.time+off),.nil]]⟩=some q∧Db x a b p p2 m off q:=by
 have n3:=h.n3
 have tl:=h.tl
 have nl:=h.nl
 have ll:=h.ll
 have t0:=h.t0
 have t1:=h.t1
 have nb:=h.nb 0 (by rw[e1];simp)
 have mb:=h.mb 0 (by rw[e1];simp)
 have m2:=h.m2 0 (by rw[e1];simp)
 have rk:nth x.readers 0=a:=by rw[e1];rfl
 have mk:nth x.missed 0=p:=by rw[e2];rfl
 have ml:x.missed.length=2:=by rw[e2];rfl
 have rn:x.readers.length=2:=by rw[e1];rfl
 have ro:=h.r a (by rw[e1];simp)
 rw[rk,mk]at mb
 rw[mk]at m2
 obtain⟨rs,rl,rl1,rp1,rp2,rm1,rm2,rk1,rk2⟩:=ro
 refine fI (sx x a b p p2 m off) x.people.length _ ⟨[],Nat.le_refl _,fun i hi=>absurd hi (by omega),fun g hg=>absurd hg (by simp),rfl⟩ (fun j st hj hp=>Lz h e1 e2 m off j st hj hp) ?_
 intro st hp
 refine⟨(.exit 0,st),?_,by simp,.inr ⟨?_,st,hp,rfl⟩⟩
 · obtain⟨G,gl,hb,gb,rfl⟩:=hp
   generalize a7 _ p _=q at*
   rcases G with _ | ⟨g,_ | ⟨g2,_ | ⟨g3,_ | ⟨g4,G⟩⟩⟩⟩
   · obtain⟨⟨places,roads⟩,time,people,tags,readers,numbers,looked,missed⟩:=x
     simp only[ae,Tru.cs,az,aN,arI,bf,List.getLast?,List.getLast,List.cons_append,List.nil_append,List.map_cons,List.map_nil,LLe,tL,ml,rn,Nat.reduceAdd,Nat.reduceSub,List.length_cons,List.length_nil]at*
     simp (disch:=omega) only[go_sem,K.ab,↓reduceIte,Nat.reduceAdd,Nat.reduceSub]
   · obtain⟨⟨places,roads⟩,time,people,tags,readers,numbers,looked,missed⟩:=x
     simp only[ae,Tru.cs,az,aN,arI,bf,List.getLast?,List.getLast,List.cons_append,List.nil_append,List.map_cons,List.map_nil,LLe,tL,ml,rn,Nat.reduceAdd,Nat.reduceSub,List.length_cons,List.length_nil]at*
     simp (disch:=omega) only[go_sem,K.ab,↓reduceIte,Nat.reduceAdd,Nat.reduceSub]
   · obtain⟨⟨places,roads⟩,time,people,tags,readers,numbers,looked,missed⟩:=x
     simp only[ae,Tru.cs,az,aN,arI,bf,List.getLast?,List.getLast,List.cons_append,List.nil_append,List.map_cons,List.map_nil,LLe,tL,ml,rn,Nat.reduceAdd,Nat.reduceSub,List.length_cons,List.length_nil]at*
     simp (disch:=omega) only[go_sem,K.ab,↓reduceIte,Nat.reduceAdd,Nat.reduceSub]
   · obtain⟨⟨places,roads⟩,time,people,tags,readers,numbers,looked,missed⟩:=x
     simp only[ae,Tru.cs,az,aN,arI,bf,List.getLast?,List.getLast,List.cons_append,List.nil_append,List.map_cons,List.map_nil,LLe,tL,ml,rn,Nat.reduceAdd,Nat.reduceSub,List.length_cons,List.length_nil]at*
     simp (disch:=omega) only[go_sem,K.ab,↓reduceIte,Nat.reduceAdd,Nat.reduceSub]
   · simp only[List.length_cons]at gl;omega
 · obtain⟨G,gl,hb,gb,rfl⟩:=hp
   rw[List.any_eq_false]
   intro i hi
   rw[hb i (List.mem_range.1 hi)]
   decide
set_option maxHeartbeats 4000000 in
theorem Dc{x:Tru}(h:x.ok){a b:Rdr}{p p2:List Int}(e1:x.readers=[a,b])(e2:x.missed=[p,p2])(m off:Int)(o1: -a.skew≤off)(o2:off≤a.skew)(o3:0≤x.time+off)(o4:x.time+off≤2147483648):
 ∃r e,aT 0 N.ah [.t x.e,I 0,I m,I off] []=some (.tup [.t (if nQ x 0 m then x else du x 0 m).e,.t r,I e],[]):=by
 have n3:=h.n3
 have tl:=h.tl
 have nl:=h.nl
 have ll:=h.ll
 have t0:=h.t0
 have t1:=h.t1
 have nb:=h.nb 0 (by rw[e1];simp)
 have mb:=h.mb 0 (by rw[e1];simp)
 have m2:=h.m2 0 (by rw[e1];simp)
 have rk:nth x.readers 0=a:=by rw[e1];rfl
 have mk:nth x.missed 0=p:=by rw[e2];rfl
 have ml:x.missed.length=2:=by rw[e2];rfl
 have rn:x.readers.length=2:=by rw[e1];rfl
 have ro:=h.r a (by rw[e1];simp)
 rw[rk,mk]at mb
 rw[mk]at m2
 obtain⟨rs,rl,rl1,rp1,rp2,rm1,rm2,rk1,rk2⟩:=ro
 have sz:=h.sz
 have cp0:=fB x sz
 have cp:=pH sz e1 e2
 have va:=dV h
 have lpL:=LA h e1 e2 m off
 have scl:∀(y:Tru) (r:T) (v:Int),([D.t y.e,D.t r,I v].all bz)=false:=fun _ _ _=>rfl
 unfold nQ du lg
 rw[rk,mk]
 by_cases bq:(List.range x.people.length).any (cV x.people a.pl a.miss m p)=true
 · rw[if_pos bq]
   refine⟨dJ 0 0 0 [],43,aB K.aP rfl ?_⟩
   obtain⟨⟨places,roads⟩,time,people,tags,readers,numbers,looked,missed⟩:=x
   subst e1 e2
   simp only[Tru.e,Tru.cs,ae,dE,az,dW,List.map_cons,List.map_nil,LLe,tL,arI,aN,tLL,Rdr.e]at*
   simp (disch:=omega) only[go_sem,K.ah,↓reduceIte,cp0,cp,va,gt_iff_lt,Nat.reduceAdd,Nat.reduceSub]
   refine b7 _ (lpL _ _ _ _ _) ?_
   rintro q (⟨_,j,rest,rfl⟩ | ⟨n,_⟩)
   · simp (disch:=omega) only[go_sem,K.ah,↓reduceIte,scl,Nat.reduceAdd,Nat.reduceSub]
     rfl
   · rw[n]at bq;cases bq
 · rw[if_neg bq]
   have en:(x.numbers.map (T.int .i64))[0]?=some (tI (nth x.numbers 0)):=aD _ (by omega)
   have el:(x.looked.map (T.int .i64))[0]?=some (tI (nth x.looked 0)):=aD _ (by omega)
   generalize nth x.numbers 0=nu at*
   generalize nth x.looked 0=lo at*
   obtain⟨q,hq,hQ⟩:=lpL (.t x.e) (I off) (I 0) .und .und
   rcases hQ with⟨n,_⟩ | ⟨_,st,⟨G,gl,hb,gb,rfl⟩,rfl⟩
   · exact absurd n bq
   have wl:=cD (bI x.people a.pl m p) p x.people.length
   have ns:∀v:Int,nth (x.numbers.set 0 v) 0=v:=fun v=>aK (by omega)
   generalize a7 _ p _=w at*
   rcases G with _ | ⟨g,_ | ⟨g2,_ | ⟨g3,_ | ⟨g4,G⟩⟩⟩⟩
   · refine⟨dJ 0 ((nu+if 0≤lo∧a.per<x.time-lo then 2 else 1).tmod 65536) (x.time+off) [],0,aB K.aP rfl ?_⟩
     obtain⟨⟨places,roads⟩,time,people,tags,readers,numbers,looked,missed⟩:=x
     subst e1 e2
     simp only[ae,Tru.e,Tru.cs,dJ,dE,az,dW,aN,arI,tLL,Rdr.e,bf,List.cons_append,List.nil_append,List.map_cons,List.map_nil,LLe,tL,Nat.reduceAdd,Nat.reduceSub,List.length_cons,List.length_nil]at*
     by_cases ca:0≤lo
     · by_cases cb:a.per<time-lo
       · rw[if_pos ⟨ca,cb⟩]
         simp (disch:=omega) only[go_sem,K.ah,↓reduceIte,cp0,cp,va,hq,en,el,ca,cb,gt_iff_lt,ai,scl,ns,wl,List.length_set,Nat.reduceAdd,Nat.reduceSub]
       · rw[if_neg (fun e=>cb e.2)]
         simp (disch:=omega) only[go_sem,K.ah,↓reduceIte,cp0,cp,va,hq,en,el,ca,cb,gt_iff_lt,ai,scl,ns,wl,List.length_set,Nat.reduceAdd,Nat.reduceSub]
     · rw[if_neg (fun e=>ca e.1)]
       simp (disch:=omega) only[go_sem,K.ah,↓reduceIte,cp0,cp,va,hq,en,el,ca,gt_iff_lt,ai,scl,ns,wl,List.length_set,Nat.reduceAdd,Nat.reduceSub]
   · refine⟨dJ 0 ((nu+if 0≤lo∧a.per<x.time-lo then 2 else 1).tmod 65536) (x.time+off) g,0,aB K.aP rfl ?_⟩
     obtain⟨⟨places,roads⟩,time,people,tags,readers,numbers,looked,missed⟩:=x
     subst e1 e2
     simp only[ae,Tru.e,Tru.cs,dJ,dE,az,dW,aN,arI,tLL,Rdr.e,bf,List.cons_append,List.nil_append,List.map_cons,List.map_nil,LLe,tL,Nat.reduceAdd,Nat.reduceSub,List.length_cons,List.length_nil]at*
     by_cases ca:0≤lo
     · by_cases cb:a.per<time-lo
       · rw[if_pos ⟨ca,cb⟩]
         simp (disch:=omega) only[go_sem,K.ah,↓reduceIte,cp0,cp,va,hq,en,el,ca,cb,gt_iff_lt,ai,scl,ns,wl,List.length_set,Nat.reduceAdd,Nat.reduceSub]
       · rw[if_neg (fun e=>cb e.2)]
         simp (disch:=omega) only[go_sem,K.ah,↓reduceIte,cp0,cp,va,hq,en,el,ca,cb,gt_iff_lt,ai,scl,ns,wl,List.length_set,Nat.reduceAdd,Nat.reduceSub]
     · rw[if_neg (fun e=>ca e.1)]
       simp (disch:=omega) only[go_sem,K.ah,↓reduceIte,cp0,cp,va,hq,en,el,ca,gt_iff_lt,ai,scl,ns,wl,List.length_set,Nat.reduceAdd,Nat.reduceSub]
   · refine⟨dJ 0 ((nu+if 0≤lo∧a.per<x.time-lo then 2 else 1).tmod 65536) (x.time+off) g2,0,aB K.aP rfl ?_⟩
     obtain⟨⟨places,roads⟩,time,people,tags,readers,numbers,looked,missed⟩:=x
     subst e1 e2
     simp only[ae,Tru.e,Tru.cs,dJ,dE,az,dW,aN,arI,tLL,Rdr.e,bf,List.cons_append,List.nil_append,List.map_cons,List.map_nil,LLe,tL,Nat.reduceAdd,Nat.reduceSub,List.length_cons,List.length_nil]at*
     by_cases ca:0≤lo
     · by_cases cb:a.per<time-lo
       · rw[if_pos ⟨ca,cb⟩]
         simp (disch:=omega) only[go_sem,K.ah,↓reduceIte,cp0,cp,va,hq,en,el,ca,cb,gt_iff_lt,ai,scl,ns,wl,List.length_set,Nat.reduceAdd,Nat.reduceSub]
       · rw[if_neg (fun e=>cb e.2)]
         simp (disch:=omega) only[go_sem,K.ah,↓reduceIte,cp0,cp,va,hq,en,el,ca,cb,gt_iff_lt,ai,scl,ns,wl,List.length_set,Nat.reduceAdd,Nat.reduceSub]
     · rw[if_neg (fun e=>ca e.1)]
       simp (disch:=omega) only[go_sem,K.ah,↓reduceIte,cp0,cp,va,hq,en,el,ca,gt_iff_lt,ai,scl,ns,wl,List.length_set,Nat.reduceAdd,Nat.reduceSub]
   · refine⟨dJ 0 ((nu+if 0≤lo∧a.per<x.time-lo then 2 else 1).tmod 65536) (x.time+off) g3,0,aB K.aP rfl ?_⟩
     obtain⟨⟨places,roads⟩,time,people,tags,readers,numbers,looked,missed⟩:=x
     subst e1 e2
     simp only[ae,Tru.e,Tru.cs,dJ,dE,az,dW,aN,arI,tLL,Rdr.e,bf,List.cons_append,List.nil_append,List.map_cons,List.map_nil,LLe,tL,Nat.reduceAdd,Nat.reduceSub,List.length_cons,List.length_nil]at*
     by_cases ca:0≤lo
     · by_cases cb:a.per<time-lo
       · rw[if_pos ⟨ca,cb⟩]
         simp (disch:=omega) only[go_sem,K.ah,↓reduceIte,cp0,cp,va,hq,en,el,ca,cb,gt_iff_lt,ai,scl,ns,wl,List.length_set,Nat.reduceAdd,Nat.reduceSub]
       · rw[if_neg (fun e=>cb e.2)]
         simp (disch:=omega) only[go_sem,K.ah,↓reduceIte,cp0,cp,va,hq,en,el,ca,cb,gt_iff_lt,ai,scl,ns,wl,List.length_set,Nat.reduceAdd,Nat.reduceSub]
     · rw[if_neg (fun e=>ca e.1)]
       simp (disch:=omega) only[go_sem,K.ah,↓reduceIte,cp0,cp,va,hq,en,el,ca,gt_iff_lt,ai,scl,ns,wl,List.length_set,Nat.reduceAdd,Nat.reduceSub]
   · simp only[List.length_cons]at gl;omega
def sy(x:Tru)(a b:Rdr)(p p2:List Int)(m off:Int)(j:Nat)(st:St):Prop:=∃G:List (List Int),G.length≤j∧(∀i,i<j→(cV x.people b.pl b.miss m p2) i=false)∧(∀g∈G,g.length≤j)∧st=⟨[.und,I 1,I m,.und,.bp 0 0,.bp 1 0,.bp 2 0,.und,.bp 3 0,.bp 14 0,.bp 15 0,I j,.und,.und],[.box (x.cs.map .t),.box ae,.box [I 0,I 0,I 0,.nil],.box [.t (tL b.pl),I b.per,I b.miss,I b.skew],.arr 3 false 0 ((x.people.map Wlk.e).map .t),arI x.tags,.arr 4 false 0 [aN 10 a,aN 11 b],arI x.numbers,arI x.looked,.arr 1 false 0 [.ref 12 0 p.length,.ref 13 0 p2.length],arI a.pl,arI b.pl,arI p,arI (a7 (bI x.people b.pl m p2) p2 j),.box (az 4 x),.box [I 1,I 0,I (x.time+off),bf 16 G]]++(G.map fun g=>arI g)⟩
def Dd(x:Tru)(a b:Rdr)(p p2:List Int)(m off:Int)(q:Ex×St):Prop:=((List.range x.people.length).any (cV x.people b.pl b.miss m p2)=true∧∃(j:Nat) (rest:aj),q=(.ret,⟨[.und,I 1,I m,.und,.bp 0 0,.bp 1 0,.bp 2 0,I 43,.bp 3 0,.bp 14 0,.bp 15 0,I j,.und,.und],.box (x.cs.map .t):: .box (x.cs.map .t):: .box [I 0,I 0,I 0,.nil]::rest⟩))∨((List.range x.people.length).any (cV x.people b.pl b.miss m p2)=false∧∃st,sy x a b p p2 m off x.people.length st∧q=(.exit 0,st))
theorem LB{x:Tru}(h:x.ok){a b:Rdr}{p p2:List Int}(e1:x.readers=[a,b])(e2:x.missed=[p,p2])(m off:Int)(j:Nat)(st:St)(hj:j<x.people.length)(hp:sy x a b p p2 m off j st):
 (∃st',eB false [0,3,7,12,13] st.H.length (exS aT K.ab st)=some st'∧sy x a b p p2 m off (j+1) st')∨∃q,exS aT K.ab st=some q∧q.1≠ .normal∧Dd x a b p p2 m off q:=by
 have n3:=h.n3
 have tl:=h.tl
 have nl:=h.nl
 have ll:=h.ll
 have t0:=h.t0
 have t1:=h.t1
 have nb:=h.nb 1 (by rw[e1];simp)
 have mb:=h.mb 1 (by rw[e1];simp)
 have m2:=h.m2 1 (by rw[e1];simp)
 have rk:nth x.readers 1=b:=by rw[e1];rfl
 have mk:nth x.missed 1=p2:=by rw[e2];rfl
 have ml:x.missed.length=2:=by rw[e2];rfl
 have rn:x.readers.length=2:=by rw[e1];rfl
 have ro:=h.r b (by rw[e1];simp)
 rw[rk,mk]at mb
 rw[mk]at m2
 obtain⟨rs,rl,rl1,rp1,rp2,rm1,rm2,rk1,rk2⟩:=ro
 have ex:(x.people.map Wlk.e)[j]?=some (nth x.people j).e:=aD _ hj
 have et:(x.tags.map (T.int .i64))[j]?=some (tI (nth x.tags j)):=aD _ (by omega)
 have hs:=qd b.pl (nth x.people j).place (by omega)
 have mbj:=mb j hj
 have wu:IntKind.u64.wrap (j:Int)=j:=km j (by omega)
 have sh:=kn m j
 have an:=fJ m j
 obtain⟨G,gl,hb,gb,rfl⟩:=hp
 have ql:=cD (bI x.people b.pl m p2) p2 j
 have qj:=iI (bI x.people b.pl m p2) p2 j j (Nat.le_refl _)
 by_cases hq:(cV x.people b.pl b.miss m p2) j=true
 · have anyb:(List.range x.people.length).any (cV x.people b.pl b.miss m p2)=true:=List.any_eq_true.2 ⟨j,List.mem_range.2 hj,hq⟩
   unfold cV bO eP at hq
   simp only[Bool.and_eq_true,decide_eq_true_eq]at hq
   obtain⟨⟨h1,h2⟩,h3⟩:=hq
   generalize a7 _ p2 j=q at*
   rw[← qj]at h3
   have nse:nth (q.set j (nth q j+1)) j=nth q j+1:=aK (by omega)
   rw[decide_eq_true h1]at hs
   have key:∃rest:aj,exS aT K.ab ⟨[.und,I 1,I m,.und,.bp 0 0,.bp 1 0,.bp 2 0,.und,.bp 3 0,.bp 14 0,.bp 15 0,I j,.und,.und],[.box (x.cs.map .t),.box ae,.box [I 0,I 0,I 0,.nil],.box [.t (tL b.pl),I b.per,I b.miss,I b.skew],.arr 3 false 0 ((x.people.map Wlk.e).map .t),arI x.tags,.arr 4 false 0 [aN 10 a,aN 11 b],arI x.numbers,arI x.looked,.arr 1 false 0 [.ref 12 0 p.length,.ref 13 0 p2.length],arI a.pl,arI b.pl,arI p,arI q,.box (az 4 x),.box [I 1,I 0,I (x.time+off),bf 16 G]]++(G.map fun g=>arI g)⟩=some (.ret,⟨[.und,I 1,I m,.und,.bp 0 0,.bp 1 0,.bp 2 0,I 43,.bp 3 0,.bp 14 0,.bp 15 0,I j,.und,.und],.box (x.cs.map .t):: .box (x.cs.map .t):: .box [I 0,I 0,I 0,.nil]::rest⟩):=by
    rcases G with _ | ⟨g,_ | ⟨g2,_ | ⟨g3,G⟩⟩⟩
    · obtain⟨⟨places,roads⟩,time,people,tags,readers,numbers,looked,missed⟩:=x
      simp only[ae,Tru.cs,az,aN,arI,bf,List.getLast?,List.getLast,List.cons_append,List.nil_append,List.map_cons,List.map_nil,LLe,tL,ml,rn,Nat.reduceAdd,Nat.reduceSub,List.length_cons,List.length_nil]at*
      simp (disch:=omega) only[go_sem,K.ab,↓reduceIte,ex,hs,wu,sh,an,h2,nse,h3,ai,List.length_set,ql,gt_iff_lt,Nat.reduceAdd,Nat.reduceSub]
      exact⟨_,rfl⟩
    · obtain⟨⟨places,roads⟩,time,people,tags,readers,numbers,looked,missed⟩:=x
      simp only[ae,Tru.cs,az,aN,arI,bf,List.getLast?,List.getLast,List.cons_append,List.nil_append,List.map_cons,List.map_nil,LLe,tL,ml,rn,Nat.reduceAdd,Nat.reduceSub,List.length_cons,List.length_nil]at*
      simp (disch:=omega) only[go_sem,K.ab,↓reduceIte,ex,hs,wu,sh,an,h2,nse,h3,ai,List.length_set,ql,gt_iff_lt,Nat.reduceAdd,Nat.reduceSub]
      exact⟨_,rfl⟩
    · obtain⟨⟨places,roads⟩,time,people,tags,readers,numbers,looked,missed⟩:=x
      simp only[ae,Tru.cs,az,aN,arI,bf,List.getLast?,List.getLast,List.cons_append,List.nil_append,List.map_cons,List.map_nil,LLe,tL,ml,rn,Nat.reduceAdd,Nat.reduceSub,List.length_cons,List.length_nil]at*
      simp (disch:=omega) only[go_sem,K.ab,↓reduceIte,ex,hs,wu,sh,an,h2,nse,h3,ai,List.length_set,ql,gt_iff_lt,Nat.reduceAdd,Nat.reduceSub]
      exact⟨_,rfl⟩
    · simp only[List.length_cons]at gl;omega
   obtain⟨rest,key⟩:=key
   exact .inr ⟨_,key,by simp,.inl ⟨anyb,j,rest,rfl⟩⟩
 · have hq:(cV x.people b.pl b.miss m p2) j=false:=by simpa using hq
   have hb2:∀i,i<j+1→(cV x.people b.pl b.miss m p2) i=false:=fun i hi=>by
    by_cases c:i=j
    · rw[c];exact hq
    · exact hb i (by omega)
   have gb2:∀g∈G,g.length≤j+1:=fun g hg=>Nat.le_succ_of_le (gb g hg)
   left
   by_cases h1:(nth x.people j).place∈b.pl
   · rw[decide_eq_true h1]at hs
     by_cases h2:sM m j=1
     · have nw:(bI x.people b.pl m p2) j=nth p2 j+1:=by unfold bI bO eP;rw[decide_eq_true h1,decide_eq_true h2];rfl
       have nl0:¬b.miss<nth p2 j+1:=by
        unfold cV bO eP at hq
        rw[decide_eq_true h1,decide_eq_true h2]at hq
        simpa using hq
       refine⟨_,?_,G,by omega,hb2,gb2,rfl⟩
       simp only[a7,nw]
       generalize a7 _ p2 j=q at*
       rw[← qj]at nl0 ⊢
       have nse:nth (q.set j (nth q j+1)) j=nth q j+1:=aK (by omega)
       rcases G with _ | ⟨g,_ | ⟨g2,_ | ⟨g3,G⟩⟩⟩
       · obtain⟨⟨places,roads⟩,time,people,tags,readers,numbers,looked,missed⟩:=x
         simp only[ae,Tru.cs,az,aN,arI,bf,List.getLast?,List.getLast,List.cons_append,List.nil_append,List.map_cons,List.map_nil,LLe,tL,ml,rn,Nat.reduceAdd,Nat.reduceSub,List.length_cons,List.length_nil]at*
         simp (disch:=omega) only[go_sem,K.ab,↓reduceIte,ex,hs,wu,sh,an,h2,nse,nl0,ai,List.length_set,ql,gt_iff_lt,Nat.reduceAdd,Nat.reduceSub]
       · obtain⟨⟨places,roads⟩,time,people,tags,readers,numbers,looked,missed⟩:=x
         simp only[ae,Tru.cs,az,aN,arI,bf,List.getLast?,List.getLast,List.cons_append,List.nil_append,List.map_cons,List.map_nil,LLe,tL,ml,rn,Nat.reduceAdd,Nat.reduceSub,List.length_cons,List.length_nil]at*
         simp (disch:=omega) only[go_sem,K.ab,↓reduceIte,ex,hs,wu,sh,an,h2,nse,nl0,ai,List.length_set,ql,gt_iff_lt,Nat.reduceAdd,Nat.reduceSub]
       · obtain⟨⟨places,roads⟩,time,people,tags,readers,numbers,looked,missed⟩:=x
         simp only[ae,Tru.cs,az,aN,arI,bf,List.getLast?,List.getLast,List.cons_append,List.nil_append,List.map_cons,List.map_nil,LLe,tL,ml,rn,Nat.reduceAdd,Nat.reduceSub,List.length_cons,List.length_nil]at*
         simp (disch:=omega) only[go_sem,K.ab,↓reduceIte,ex,hs,wu,sh,an,h2,nse,nl0,ai,List.length_set,ql,gt_iff_lt,Nat.reduceAdd,Nat.reduceSub]
       · simp only[List.length_cons]at gl;omega
     · have nw:(bI x.people b.pl m p2) j=0:=by unfold bI bO eP;rw[decide_eq_true h1,decide_eq_false h2];rfl
       have rs1:a7 (bI x.people b.pl m p2) p2 (j+1)=(a7 (bI x.people b.pl m p2) p2 j).set j 0:=by rw[a7,nw]
       unfold sy
       rw[rs1]
       generalize a7 _ p2 j=q at*
       rcases G with _ | ⟨g,_ | ⟨g2,_ | ⟨g3,G⟩⟩⟩
       · have pl:=fC ([]:List Int) (nth x.tags j)
         have fp:=di ([]:List Int) (nth x.tags j)
         have lp2:∀z0 z3 z7 z13:D,exS aT K.bk ⟨[z0,I 1,I m,z3,.bp 0 0,.bp 1 0,.bp 2 0,z7,.bp 3 0,.bp 14 0,.bp 15 0,I j,I 0,z13],[.box (x.cs.map .t),.box ae,.box [I 0,I 0,I 0,.nil],.box [.t (tL b.pl),I b.per,I b.miss,I b.skew],.arr 3 false 0 ((x.people.map Wlk.e).map .t),arI x.tags,.arr 4 false 0 [aN 10 a,aN 11 b],arI x.numbers,arI x.looked,.arr 1 false 0 [.ref 12 0 p.length,.ref 13 0 p2.length],arI a.pl,arI b.pl,arI p,arI (q.set j 0),.box (az 4 x),.box [I 1,I 0,I (x.time+off),bf 16 []]]++([]:List (List Int)).map fun g=>arI g⟩=some (.exit 2,⟨[.und,I 1,I m,.und,.bp 0 0,.bp 1 0,.bp 2 0,.und,.bp 3 0,.bp 14 0,.bp 15 0,I j,I (fm ([]:List Int) (nth x.tags j)),.und],[.box (x.cs.map .t),.box ae,.box [I 0,I 0,I 0,.nil],.box [.t (tL b.pl),I b.per,I b.miss,I b.skew],.arr 3 false 0 ((x.people.map Wlk.e).map .t),arI x.tags,.arr 4 false 0 [aN 10 a,aN 11 b],arI x.numbers,arI x.looked,.arr 1 false 0 [.ref 12 0 p.length,.ref 13 0 p2.length],arI a.pl,arI b.pl,arI p,arI (q.set j 0),.box (az 4 x),.box [I 1,I 0,I (x.time+off),bf 16 []]]++([]:List (List Int)).map fun g=>arI g⟩):=by
          intro z0 z3 z7 z13
          refine bV (fun i=>⟨[.und,I 1,I m,.und,.bp 0 0,.bp 1 0,.bp 2 0,.und,.bp 3 0,.bp 14 0,.bp 15 0,I j,I i,.und],[.box (x.cs.map .t),.box ae,.box [I 0,I 0,I 0,.nil],.box [.t (tL b.pl),I b.per,I b.miss,I b.skew],.arr 3 false 0 ((x.people.map Wlk.e).map .t),arI x.tags,.arr 4 false 0 [aN 10 a,aN 11 b],arI x.numbers,arI x.looked,.arr 1 false 0 [.ref 12 0 p.length,.ref 13 0 p2.length],arI a.pl,arI b.pl,arI p,arI (q.set j 0),.box (az 4 x),.box [I 1,I 0,I (x.time+off),bf 16 []]]++([]:List (List Int)).map fun g=>arI g⟩) (fm ([]:List Int) (nth x.tags j)) rfl ?_ ?_ (by simp)
          · intro i hi
            exact absurd hi (by simp only[List.length_nil]at pl;omega)
          · generalize fm ([]:List Int) (nth x.tags j)=i at*
            have i0:i=0:=by simp only[List.length_nil]at pl;omega
            subst i0
            obtain⟨⟨places,roads⟩,time,people,tags,readers,numbers,looked,missed⟩:=x
            simp only[ae,Tru.cs,az,aN,arI,bf,List.getLast?,List.getLast,List.cons_append,List.nil_append,List.map_cons,List.map_nil,LLe,tL,ml,rn,Nat.reduceAdd,Nat.reduceSub,List.length_cons,List.length_nil]at*
            simp (disch:=omega) only[go_sem,K.aA,↓reduceIte,et,Nat.reduceAdd,Nat.reduceSub]
         refine⟨_,?_,[]++[(kY ([]:List Int) (nth x.tags j))],by simp only[List.length_append,List.length_cons,List.length_nil]at *;omega,hb2,?_,rfl⟩
         · unfold kY
           generalize fm ([]:List Int) (nth x.tags j)=i at*
           obtain⟨⟨places,roads⟩,time,people,tags,readers,numbers,looked,missed⟩:=x
           simp only[ae,Tru.cs,az,aN,arI,bf,List.getLast?,List.getLast,List.cons_append,List.nil_append,List.map_cons,List.map_nil,LLe,tL,ml,rn,Nat.reduceAdd,Nat.reduceSub,List.length_cons,List.length_nil]at*
           simp (disch:=omega) only[go_sem,K.ab,↓reduceIte,ex,et,hs,wu,sh,an,h2,lp2,ai,List.length_set,ql,List.map_append,List.map_cons,List.map_nil,List.length_append,List.length_take,List.length_drop,List.length_singleton,List.length_map,Nat.reduceAdd,Nat.reduceSub]
         · intro g4 hg
           simp only[List.mem_append,List.mem_cons,List.not_mem_nil,or_false,false_or]at hg
           rw[hg,dZ];simp
       · have pl:=fC g (nth x.tags j)
         have fp:=di g (nth x.tags j)
         have tgl:=gb g (by simp)
         have lp2:∀z0 z3 z7 z13:D,exS aT K.bk ⟨[z0,I 1,I m,z3,.bp 0 0,.bp 1 0,.bp 2 0,z7,.bp 3 0,.bp 14 0,.bp 15 0,I j,I 0,z13],[.box (x.cs.map .t),.box ae,.box [I 0,I 0,I 0,.nil],.box [.t (tL b.pl),I b.per,I b.miss,I b.skew],.arr 3 false 0 ((x.people.map Wlk.e).map .t),arI x.tags,.arr 4 false 0 [aN 10 a,aN 11 b],arI x.numbers,arI x.looked,.arr 1 false 0 [.ref 12 0 p.length,.ref 13 0 p2.length],arI a.pl,arI b.pl,arI p,arI (q.set j 0),.box (az 4 x),.box [I 1,I 0,I (x.time+off),bf 16 [g]]]++([g]:List (List Int)).map fun g=>arI g⟩=some (.exit 2,⟨[.und,I 1,I m,.und,.bp 0 0,.bp 1 0,.bp 2 0,.und,.bp 3 0,.bp 14 0,.bp 15 0,I j,I (fm g (nth x.tags j)),.und],[.box (x.cs.map .t),.box ae,.box [I 0,I 0,I 0,.nil],.box [.t (tL b.pl),I b.per,I b.miss,I b.skew],.arr 3 false 0 ((x.people.map Wlk.e).map .t),arI x.tags,.arr 4 false 0 [aN 10 a,aN 11 b],arI x.numbers,arI x.looked,.arr 1 false 0 [.ref 12 0 p.length,.ref 13 0 p2.length],arI a.pl,arI b.pl,arI p,arI (q.set j 0),.box (az 4 x),.box [I 1,I 0,I (x.time+off),bf 16 [g]]]++([g]:List (List Int)).map fun g=>arI g⟩):=by
          intro z0 z3 z7 z13
          refine bV (fun i=>⟨[.und,I 1,I m,.und,.bp 0 0,.bp 1 0,.bp 2 0,.und,.bp 3 0,.bp 14 0,.bp 15 0,I j,I i,.und],[.box (x.cs.map .t),.box ae,.box [I 0,I 0,I 0,.nil],.box [.t (tL b.pl),I b.per,I b.miss,I b.skew],.arr 3 false 0 ((x.people.map Wlk.e).map .t),arI x.tags,.arr 4 false 0 [aN 10 a,aN 11 b],arI x.numbers,arI x.looked,.arr 1 false 0 [.ref 12 0 p.length,.ref 13 0 p2.length],arI a.pl,arI b.pl,arI p,arI (q.set j 0),.box (az 4 x),.box [I 1,I 0,I (x.time+off),bf 16 [g]]]++([g]:List (List Int)).map fun g=>arI g⟩) (fm g (nth x.tags j)) rfl ?_ ?_ (by simp)
          · intro i hi
            have lt:=fp.1 i hi
            have eg:(g.map (T.int .i64))[i]?=some (tI (nth g i)):=aD _ (by omega)
            obtain⟨⟨places,roads⟩,time,people,tags,readers,numbers,looked,missed⟩:=x
            simp only[ae,Tru.cs,az,aN,arI,bf,List.getLast?,List.getLast,List.cons_append,List.nil_append,List.map_cons,List.map_nil,LLe,tL,ml,rn,Nat.reduceAdd,Nat.reduceSub,List.length_cons,List.length_nil]at*
            simp (disch:=omega) only[go_sem,K.aA,↓reduceIte,eg,et,lt,List.length_map,Nat.reduceAdd,Nat.reduceSub]
          · generalize fm g (nth x.tags j)=i at*
            have eg:=fun hi:i<g.length=>(aD _ hi:(g.map (T.int .i64))[i]?=some (tI (nth g i)))
            obtain⟨⟨places,roads⟩,time,people,tags,readers,numbers,looked,missed⟩:=x
            simp only[ae,Tru.cs,az,aN,arI,bf,List.getLast?,List.getLast,List.cons_append,List.nil_append,List.map_cons,List.map_nil,LLe,tL,ml,rn,Nat.reduceAdd,Nat.reduceSub,List.length_cons,List.length_nil]at*
            by_cases hi:i<g.length
            · have lt:=fp.2 hi
              have eg:=eg hi
              simp (disch:=omega) only[go_sem,K.aA,↓reduceIte,eg,et,lt,hi,List.length_map,Nat.reduceAdd,Nat.reduceSub]
            · simp (disch:=omega) only[go_sem,K.aA,↓reduceIte,hi,List.length_map,Nat.reduceAdd,Nat.reduceSub]
         refine⟨_,?_,[g]++[(kY g (nth x.tags j))],by simp only[List.length_append,List.length_cons,List.length_nil]at *;omega,hb2,?_,rfl⟩
         · unfold kY
           generalize fm g (nth x.tags j)=i at*
           obtain⟨⟨places,roads⟩,time,people,tags,readers,numbers,looked,missed⟩:=x
           simp only[ae,Tru.cs,az,aN,arI,bf,List.getLast?,List.getLast,List.cons_append,List.nil_append,List.map_cons,List.map_nil,LLe,tL,ml,rn,Nat.reduceAdd,Nat.reduceSub,List.length_cons,List.length_nil]at*
           simp (disch:=omega) only[go_sem,K.ab,↓reduceIte,ex,et,hs,wu,sh,an,h2,lp2,ai,List.length_set,ql,List.map_append,List.map_cons,List.map_nil,List.length_append,List.length_take,List.length_drop,List.length_singleton,List.length_map,iZ,gM,Nat.reduceAdd,Nat.reduceSub]
           simp only[List.map_append,List.map_take,List.map_drop,List.map_cons,List.map_nil,Nat.min_self,Nat.sub_zero,cM]
         · intro g4 hg
           simp only[List.mem_append,List.mem_cons,List.not_mem_nil,or_false,false_or]at hg
           rcases hg with hg | hg
           · rw[hg];exact gb2 _ (by simp)
           · rw[hg,dZ];omega
       · have pl:=fC g2 (nth x.tags j)
         have fp:=di g2 (nth x.tags j)
         have tgl:=gb g2 (by simp)
         have lp2:∀z0 z3 z7 z13:D,exS aT K.bk ⟨[z0,I 1,I m,z3,.bp 0 0,.bp 1 0,.bp 2 0,z7,.bp 3 0,.bp 14 0,.bp 15 0,I j,I 0,z13],[.box (x.cs.map .t),.box ae,.box [I 0,I 0,I 0,.nil],.box [.t (tL b.pl),I b.per,I b.miss,I b.skew],.arr 3 false 0 ((x.people.map Wlk.e).map .t),arI x.tags,.arr 4 false 0 [aN 10 a,aN 11 b],arI x.numbers,arI x.looked,.arr 1 false 0 [.ref 12 0 p.length,.ref 13 0 p2.length],arI a.pl,arI b.pl,arI p,arI (q.set j 0),.box (az 4 x),.box [I 1,I 0,I (x.time+off),bf 16 [g,g2]]]++([g,g2]:List (List Int)).map fun g=>arI g⟩=some (.exit 2,⟨[.und,I 1,I m,.und,.bp 0 0,.bp 1 0,.bp 2 0,.und,.bp 3 0,.bp 14 0,.bp 15 0,I j,I (fm g2 (nth x.tags j)),.und],[.box (x.cs.map .t),.box ae,.box [I 0,I 0,I 0,.nil],.box [.t (tL b.pl),I b.per,I b.miss,I b.skew],.arr 3 false 0 ((x.people.map Wlk.e).map .t),arI x.tags,.arr 4 false 0 [aN 10 a,aN 11 b],arI x.numbers,arI x.looked,.arr 1 false 0 [.ref 12 0 p.length,.ref 13 0 p2.length],arI a.pl,arI b.pl,arI p,arI (q.set j 0),.box (az 4 x),.box [I 1,I 0,I (x.time+off),bf 16 [g,g2]]]++([g,g2]:List (List Int)).map fun g=>arI g⟩):=by
          intro z0 z3 z7 z13
          refine bV (fun i=>⟨[.und,I 1,I m,.und,.bp 0 0,.bp 1 0,.bp 2 0,.und,.bp 3 0,.bp 14 0,.bp 15 0,I j,I i,.und],[.box (x.cs.map .t),.box ae,.box [I 0,I 0,I 0,.nil],.box [.t (tL b.pl),I b.per,I b.miss,I b.skew],.arr 3 false 0 ((x.people.map Wlk.e).map .t),arI x.tags,.arr 4 false 0 [aN 10 a,aN 11 b],arI x.numbers,arI x.looked,.arr 1 false 0 [.ref 12 0 p.length,.ref 13 0 p2.length],arI a.pl,arI b.pl,arI p,arI (q.set j 0),.box (az 4 x),.box [I 1,I 0,I (x.time+off),bf 16 [g,g2]]]++([g,g2]:List (List Int)).map fun g=>arI g⟩) (fm g2 (nth x.tags j)) rfl ?_ ?_ (by simp)
          · intro i hi
            have lt:=fp.1 i hi
            have eg:(g2.map (T.int .i64))[i]?=some (tI (nth g2 i)):=aD _ (by omega)
            obtain⟨⟨places,roads⟩,time,people,tags,readers,numbers,looked,missed⟩:=x
            simp only[ae,Tru.cs,az,aN,arI,bf,List.getLast?,List.getLast,List.cons_append,List.nil_append,List.map_cons,List.map_nil,LLe,tL,ml,rn,Nat.reduceAdd,Nat.reduceSub,List.length_cons,List.length_nil]at*
            simp (disch:=omega) only[go_sem,K.aA,↓reduceIte,eg,et,lt,List.length_map,Nat.reduceAdd,Nat.reduceSub]
          · generalize fm g2 (nth x.tags j)=i at*
            have eg:=fun hi:i<g2.length=>(aD _ hi:(g2.map (T.int .i64))[i]?=some (tI (nth g2 i)))
            obtain⟨⟨places,roads⟩,time,people,tags,readers,numbers,looked,missed⟩:=x
            simp only[ae,Tru.cs,az,aN,arI,bf,List.getLast?,List.getLast,List.cons_append,List.nil_append,List.map_cons,List.map_nil,LLe,tL,ml,rn,Nat.reduceAdd,Nat.reduceSub,List.length_cons,List.length_nil]at*
            by_cases hi:i<g2.length
            · have lt:=fp.2 hi
              have eg:=eg hi
              simp (disch:=omega) only[go_sem,K.aA,↓reduceIte,eg,et,lt,hi,List.length_map,Nat.reduceAdd,Nat.reduceSub]
            · simp (disch:=omega) only[go_sem,K.aA,↓reduceIte,hi,List.length_map,Nat.reduceAdd,Nat.reduceSub]
         refine⟨_,?_,[g,g2]++[(kY g2 (nth x.tags j))],by simp only[List.length_append,List.length_cons,List.length_nil]at *;omega,hb2,?_,rfl⟩
         · unfold kY
           generalize fm g2 (nth x.tags j)=i at*
           obtain⟨⟨places,roads⟩,time,people,tags,readers,numbers,looked,missed⟩:=x
           simp only[ae,Tru.cs,az,aN,arI,bf,List.getLast?,List.getLast,List.cons_append,List.nil_append,List.map_cons,List.map_nil,LLe,tL,ml,rn,Nat.reduceAdd,Nat.reduceSub,List.length_cons,List.length_nil]at*
           simp (disch:=omega) only[go_sem,K.ab,↓reduceIte,ex,et,hs,wu,sh,an,h2,lp2,ai,List.length_set,ql,List.map_append,List.map_cons,List.map_nil,List.length_append,List.length_take,List.length_drop,List.length_singleton,List.length_map,iZ,gM,Nat.reduceAdd,Nat.reduceSub]
           simp only[List.map_append,List.map_take,List.map_drop,List.map_cons,List.map_nil,Nat.min_self,Nat.sub_zero,cM]
         · intro g4 hg
           simp only[List.mem_append,List.mem_cons,List.not_mem_nil,or_false,false_or]at hg
           rcases hg with(hg | hg) | hg
           · rw[hg];exact gb2 _ (by simp)
           · rw[hg];exact gb2 _ (by simp)
           · rw[hg,dZ];omega
       · simp only[List.length_cons]at gl;omega
   · have nw:(bI x.people b.pl m p2) j=0:=by unfold bI bO eP;rw[decide_eq_false h1];rfl
     rw[decide_eq_false h1]at hs
     refine⟨_,?_,G,by omega,hb2,gb2,rfl⟩
     simp only[a7,nw]
     generalize a7 _ p2 j=q at*
     rcases G with _ | ⟨g,_ | ⟨g2,_ | ⟨g3,G⟩⟩⟩
     · obtain⟨⟨places,roads⟩,time,people,tags,readers,numbers,looked,missed⟩:=x
       simp only[ae,Tru.cs,az,aN,arI,bf,List.getLast?,List.getLast,List.cons_append,List.nil_append,List.map_cons,List.map_nil,LLe,tL,ml,rn,Nat.reduceAdd,Nat.reduceSub,List.length_cons,List.length_nil]at*
       simp (disch:=omega) only[go_sem,K.ab,↓reduceIte,ex,hs,ai,List.length_set,ql,Nat.reduceAdd,Nat.reduceSub]
     · obtain⟨⟨places,roads⟩,time,people,tags,readers,numbers,looked,missed⟩:=x
       simp only[ae,Tru.cs,az,aN,arI,bf,List.getLast?,List.getLast,List.cons_append,List.nil_append,List.map_cons,List.map_nil,LLe,tL,ml,rn,Nat.reduceAdd,Nat.reduceSub,List.length_cons,List.length_nil]at*
       simp (disch:=omega) only[go_sem,K.ab,↓reduceIte,ex,hs,ai,List.length_set,ql,Nat.reduceAdd,Nat.reduceSub]
     · obtain⟨⟨places,roads⟩,time,people,tags,readers,numbers,looked,missed⟩:=x
       simp only[ae,Tru.cs,az,aN,arI,bf,List.getLast?,List.getLast,List.cons_append,List.nil_append,List.map_cons,List.map_nil,LLe,tL,ml,rn,Nat.reduceAdd,Nat.reduceSub,List.length_cons,List.length_nil]at*
       simp (disch:=omega) only[go_sem,K.ab,↓reduceIte,ex,hs,ai,List.length_set,ql,Nat.reduceAdd,Nat.reduceSub]
     · simp only[List.length_cons]at gl;omega
theorem LC{x:Tru}(h:x.ok){a b:Rdr}{p p2:List Int}(e1:x.readers=[a,b])(e2:x.missed=[p,p2])(m off:Int)(z0 z3 z7 z12 z13:D):∃q,exS aT K.fA ⟨[z0,I 1,I m,z3,.bp 0 0,.bp 1 0,.bp 2 0,z7,.bp 3 0,.bp 14 0,.bp 15 0,I 0,z12,z13],[.box (x.cs.map .t),.box ae,.box [I 0,I 0,I 0,.nil],.box [.t (tL b.pl),I b.per,I b.miss,I b.skew],.arr 3 false 0 ((x.people.map Wlk.e).map .t),arI x.tags,.arr 4 false 0 [aN 10 a,aN 11 b],arI x.numbers,arI x.looked,.arr 1 false 0 [.ref 12 0 p.length,.ref 13 0 p2.length],arI a.pl,arI b.pl,arI p,arI p2,.box (az 4 x),.box [I 1,I 0,I (x.time+off),.nil]]⟩=some q∧Dd x a b p p2 m off q:=by
 have n3:=h.n3
 have tl:=h.tl
 have nl:=h.nl
 have ll:=h.ll
 have t0:=h.t0
 have t1:=h.t1
 have nb:=h.nb 1 (by rw[e1];simp)
 have mb:=h.mb 1 (by rw[e1];simp)
 have m2:=h.m2 1 (by rw[e1];simp)
 have rk:nth x.readers 1=b:=by rw[e1];rfl
 have mk:nth x.missed 1=p2:=by rw[e2];rfl
 have ml:x.missed.length=2:=by rw[e2];rfl
 have rn:x.readers.length=2:=by rw[e1];rfl
 have ro:=h.r b (by rw[e1];simp)
 rw[rk,mk]at mb
 rw[mk]at m2
 obtain⟨rs,rl,rl1,rp1,rp2,rm1,rm2,rk1,rk2⟩:=ro
 refine fI (sy x a b p p2 m off) x.people.length _ ⟨[],Nat.le_refl _,fun i hi=>absurd hi (by omega),fun g hg=>absurd hg (by simp),rfl⟩ (fun j st hj hp=>LB h e1 e2 m off j st hj hp) ?_
 intro st hp
 refine⟨(.exit 0,st),?_,by simp,.inr ⟨?_,st,hp,rfl⟩⟩
 · obtain⟨G,gl,hb,gb,rfl⟩:=hp
   generalize a7 _ p2 _=q at*
   rcases G with _ | ⟨g,_ | ⟨g2,_ | ⟨g3,_ | ⟨g4,G⟩⟩⟩⟩
   · obtain⟨⟨places,roads⟩,time,people,tags,readers,numbers,looked,missed⟩:=x
     simp only[ae,Tru.cs,az,aN,arI,bf,List.getLast?,List.getLast,List.cons_append,List.nil_append,List.map_cons,List.map_nil,LLe,tL,ml,rn,Nat.reduceAdd,Nat.reduceSub,List.length_cons,List.length_nil]at*
     simp (disch:=omega) only[go_sem,K.ab,↓reduceIte,Nat.reduceAdd,Nat.reduceSub]
   · obtain⟨⟨places,roads⟩,time,people,tags,readers,numbers,looked,missed⟩:=x
     simp only[ae,Tru.cs,az,aN,arI,bf,List.getLast?,List.getLast,List.cons_append,List.nil_append,List.map_cons,List.map_nil,LLe,tL,ml,rn,Nat.reduceAdd,Nat.reduceSub,List.length_cons,List.length_nil]at*
     simp (disch:=omega) only[go_sem,K.ab,↓reduceIte,Nat.reduceAdd,Nat.reduceSub]
   · obtain⟨⟨places,roads⟩,time,people,tags,readers,numbers,looked,missed⟩:=x
     simp only[ae,Tru.cs,az,aN,arI,bf,List.getLast?,List.getLast,List.cons_append,List.nil_append,List.map_cons,List.map_nil,LLe,tL,ml,rn,Nat.reduceAdd,Nat.reduceSub,List.length_cons,List.length_nil]at*
     simp (disch:=omega) only[go_sem,K.ab,↓reduceIte,Nat.reduceAdd,Nat.reduceSub]
   · obtain⟨⟨places,roads⟩,time,people,tags,readers,numbers,looked,missed⟩:=x
     simp only[ae,Tru.cs,az,aN,arI,bf,List.getLast?,List.getLast,List.cons_append,List.nil_append,List.map_cons,List.map_nil,LLe,tL,ml,rn,Nat.reduceAdd,Nat.reduceSub,List.length_cons,List.length_nil]at*
     simp (disch:=omega) only[go_sem,K.ab,↓reduceIte,Nat.reduceAdd,Nat.reduceSub]
   · simp only[List.length_cons]at gl;omega
 · obtain⟨G,gl,hb,gb,rfl⟩:=hp
   rw[List.any_eq_false]
   intro i hi
   rw[hb i (List.mem_range.1 hi)]
   decide
set_option maxHeartbeats 4000000 in
theorem De{x:Tru}(h:x.ok){a b:Rdr}{p p2:List Int}(e1:x.readers=[a,b])(e2:x.missed=[p,p2])(m off:Int)(o1: -b.skew≤off)(o2:off≤b.skew)(o3:0≤x.time+off)(o4:x.time+off≤2147483648):
 ∃r e,aT 0 N.ah [.t x.e,I 1,I m,I off] []=some (.tup [.t (if nQ x 1 m then x else du x 1 m).e,.t r,I e],[]):=by
 have n3:=h.n3
 have tl:=h.tl
 have nl:=h.nl
 have ll:=h.ll
 have t0:=h.t0
 have t1:=h.t1
 have nb:=h.nb 1 (by rw[e1];simp)
 have mb:=h.mb 1 (by rw[e1];simp)
 have m2:=h.m2 1 (by rw[e1];simp)
 have rk:nth x.readers 1=b:=by rw[e1];rfl
 have mk:nth x.missed 1=p2:=by rw[e2];rfl
 have ml:x.missed.length=2:=by rw[e2];rfl
 have rn:x.readers.length=2:=by rw[e1];rfl
 have ro:=h.r b (by rw[e1];simp)
 rw[rk,mk]at mb
 rw[mk]at m2
 obtain⟨rs,rl,rl1,rp1,rp2,rm1,rm2,rk1,rk2⟩:=ro
 have sz:=h.sz
 have cp0:=fB x sz
 have cp:=pH sz e1 e2
 have va:=dV h
 have lpL:=LC h e1 e2 m off
 have scl:∀(y:Tru) (r:T) (v:Int),([D.t y.e,D.t r,I v].all bz)=false:=fun _ _ _=>rfl
 unfold nQ du lg
 rw[rk,mk]
 by_cases bq:(List.range x.people.length).any (cV x.people b.pl b.miss m p2)=true
 · rw[if_pos bq]
   refine⟨dJ 0 0 0 [],43,aB K.aP rfl ?_⟩
   obtain⟨⟨places,roads⟩,time,people,tags,readers,numbers,looked,missed⟩:=x
   subst e1 e2
   simp only[Tru.e,Tru.cs,ae,dE,az,dW,List.map_cons,List.map_nil,LLe,tL,arI,aN,tLL,Rdr.e]at*
   simp (disch:=omega) only[go_sem,K.ah,↓reduceIte,cp0,cp,va,gt_iff_lt,Nat.reduceAdd,Nat.reduceSub]
   refine b7 _ (lpL _ _ _ _ _) ?_
   rintro q (⟨_,j,rest,rfl⟩ | ⟨n,_⟩)
   · simp (disch:=omega) only[go_sem,K.ah,↓reduceIte,scl,Nat.reduceAdd,Nat.reduceSub]
     rfl
   · rw[n]at bq;cases bq
 · rw[if_neg bq]
   have en:(x.numbers.map (T.int .i64))[1]?=some (tI (nth x.numbers 1)):=aD _ (by omega)
   have el:(x.looked.map (T.int .i64))[1]?=some (tI (nth x.looked 1)):=aD _ (by omega)
   generalize nth x.numbers 1=nu at*
   generalize nth x.looked 1=lo at*
   obtain⟨q,hq,hQ⟩:=lpL (.t x.e) (I off) (I 0) .und .und
   rcases hQ with⟨n,_⟩ | ⟨_,st,⟨G,gl,hb,gb,rfl⟩,rfl⟩
   · exact absurd n bq
   have wl:=cD (bI x.people b.pl m p2) p2 x.people.length
   have ns:∀v:Int,nth (x.numbers.set 1 v) 1=v:=fun v=>aK (by omega)
   generalize a7 _ p2 _=w at*
   rcases G with _ | ⟨g,_ | ⟨g2,_ | ⟨g3,_ | ⟨g4,G⟩⟩⟩⟩
   · refine⟨dJ 1 ((nu+if 0≤lo∧b.per<x.time-lo then 2 else 1).tmod 65536) (x.time+off) [],0,aB K.aP rfl ?_⟩
     obtain⟨⟨places,roads⟩,time,people,tags,readers,numbers,looked,missed⟩:=x
     subst e1 e2
     simp only[ae,Tru.e,Tru.cs,dJ,dE,az,dW,aN,arI,tLL,Rdr.e,bf,List.cons_append,List.nil_append,List.map_cons,List.map_nil,LLe,tL,Nat.reduceAdd,Nat.reduceSub,List.length_cons,List.length_nil]at*
     by_cases ca:0≤lo
     · by_cases cb:b.per<time-lo
       · rw[if_pos ⟨ca,cb⟩]
         simp (disch:=omega) only[go_sem,K.ah,↓reduceIte,cp0,cp,va,hq,en,el,ca,cb,gt_iff_lt,ai,scl,ns,wl,List.length_set,Nat.reduceAdd,Nat.reduceSub]
       · rw[if_neg (fun e=>cb e.2)]
         simp (disch:=omega) only[go_sem,K.ah,↓reduceIte,cp0,cp,va,hq,en,el,ca,cb,gt_iff_lt,ai,scl,ns,wl,List.length_set,Nat.reduceAdd,Nat.reduceSub]
     · rw[if_neg (fun e=>ca e.1)]
       simp (disch:=omega) only[go_sem,K.ah,↓reduceIte,cp0,cp,va,hq,en,el,ca,gt_iff_lt,ai,scl,ns,wl,List.length_set,Nat.reduceAdd,Nat.reduceSub]
   · refine⟨dJ 1 ((nu+if 0≤lo∧b.per<x.time-lo then 2 else 1).tmod 65536) (x.time+off) g,0,aB K.aP rfl ?_⟩
     obtain⟨⟨places,roads⟩,time,people,tags,readers,numbers,looked,missed⟩:=x
     subst e1 e2
     simp only[ae,Tru.e,Tru.cs,dJ,dE,az,dW,aN,arI,tLL,Rdr.e,bf,List.cons_append,List.nil_append,List.map_cons,List.map_nil,LLe,tL,Nat.reduceAdd,Nat.reduceSub,List.length_cons,List.length_nil]at*
     by_cases ca:0≤lo
     · by_cases cb:b.per<time-lo
       · rw[if_pos ⟨ca,cb⟩]
         simp (disch:=omega) only[go_sem,K.ah,↓reduceIte,cp0,cp,va,hq,en,el,ca,cb,gt_iff_lt,ai,scl,ns,wl,List.length_set,Nat.reduceAdd,Nat.reduceSub]
       · rw[if_neg (fun e=>cb e.2)]
         simp (disch:=omega) only[go_sem,K.ah,↓reduceIte,cp0,cp,va,hq,en,el,ca,cb,gt_iff_lt,ai,scl,ns,wl,List.length_set,Nat.reduceAdd,Nat.reduceSub]
     · rw[if_neg (fun e=>ca e.1)]
       simp (disch:=omega) only[go_sem,K.ah,↓reduceIte,cp0,cp,va,hq,en,el,ca,gt_iff_lt,ai,scl,ns,wl,List.length_set,Nat.reduceAdd,Nat.reduceSub]
   · refine⟨dJ 1 ((nu+if 0≤lo∧b.per<x.time-lo then 2 else 1).tmod 65536) (x.time+off) g2,0,aB K.aP rfl ?_⟩
     obtain⟨⟨places,roads⟩,time,people,tags,readers,numbers,looked,missed⟩:=x
     subst e1 e2
     simp only[ae,Tru.e,Tru.cs,dJ,dE,az,dW,aN,arI,tLL,Rdr.e,bf,List.cons_append,List.nil_append,List.map_cons,List.map_nil,LLe,tL,Nat.reduceAdd,Nat.reduceSub,List.length_cons,List.length_nil]at*
     by_cases ca:0≤lo
     · by_cases cb:b.per<time-lo
       · rw[if_pos ⟨ca,cb⟩]
         simp (disch:=omega) only[go_sem,K.ah,↓reduceIte,cp0,cp,va,hq,en,el,ca,cb,gt_iff_lt,ai,scl,ns,wl,List.length_set,Nat.reduceAdd,Nat.reduceSub]
       · rw[if_neg (fun e=>cb e.2)]
         simp (disch:=omega) only[go_sem,K.ah,↓reduceIte,cp0,cp,va,hq,en,el,ca,cb,gt_iff_lt,ai,scl,ns,wl,List.length_set,Nat.reduceAdd,Nat.reduceSub]
     · rw[if_neg (fun e=>ca e.1)]
       simp (disch:=omega) only[go_sem,K.ah,↓reduceIte,cp0,cp,va,hq,en,el,ca,gt_iff_lt,ai,scl,ns,wl,List.length_set,Nat.reduceAdd,Nat.reduceSub]
   · refine⟨dJ 1 ((nu+if 0≤lo∧b.per<x.time-lo then 2 else 1).tmod 65536) (x.time+off) g3,0,aB K.aP rfl ?_⟩
     obtain⟨⟨places,roads⟩,time,people,tags,readers,numbers,looked,missed⟩:=x
     subst e1 e2
     simp only[ae,Tru.e,Tru.cs,dJ,dE,az,dW,aN,arI,tLL,Rdr.e,bf,List.cons_append,List.nil_append,List.map_cons,List.map_nil,LLe,tL,Nat.reduceAdd,Nat.reduceSub,List.length_cons,List.length_nil]at*
     by_cases ca:0≤lo
     · by_cases cb:b.per<time-lo
       · rw[if_pos ⟨ca,cb⟩]
         simp (disch:=omega) only[go_sem,K.ah,↓reduceIte,cp0,cp,va,hq,en,el,ca,cb,gt_iff_lt,ai,scl,ns,wl,List.length_set,Nat.reduceAdd,Nat.reduceSub]
       · rw[if_neg (fun e=>cb e.2)]
         simp (disch:=omega) only[go_sem,K.ah,↓reduceIte,cp0,cp,va,hq,en,el,ca,cb,gt_iff_lt,ai,scl,ns,wl,List.length_set,Nat.reduceAdd,Nat.reduceSub]
     · rw[if_neg (fun e=>ca e.1)]
       simp (disch:=omega) only[go_sem,K.ah,↓reduceIte,cp0,cp,va,hq,en,el,ca,gt_iff_lt,ai,scl,ns,wl,List.length_set,Nat.reduceAdd,Nat.reduceSub]
   · simp only[List.length_cons]at gl;omega
def sA(x:Tru)(a b d:Rdr)(p p2 p3:List Int)(m off:Int)(j:Nat)(st:St):Prop:=∃G:List (List Int),G.length≤j∧(∀i,i<j→(cV x.people a.pl a.miss m p) i=false)∧(∀g∈G,g.length≤j)∧st=⟨[.und,I 0,I m,.und,.bp 0 0,.bp 1 0,.bp 2 0,.und,.bp 3 0,.bp 16 0,.bp 17 0,I j,.und,.und],[.box (x.cs.map .t),.box ae,.box [I 0,I 0,I 0,.nil],.box [.t (tL a.pl),I a.per,I a.miss,I a.skew],.arr 3 false 0 ((x.people.map Wlk.e).map .t),arI x.tags,.arr 4 false 0 [aN 10 a,aN 11 b,aN 12 d],arI x.numbers,arI x.looked,.arr 1 false 0 [.ref 13 0 p.length,.ref 14 0 p2.length,.ref 15 0 p3.length],arI a.pl,arI b.pl,arI d.pl,arI (a7 (bI x.people a.pl m p) p j),arI p2,arI p3,.box (az 4 x),.box [I 0,I 0,I (x.time+off),bf 18 G]]++(G.map fun g=>arI g)⟩
def Df(x:Tru)(a b d:Rdr)(p p2 p3:List Int)(m off:Int)(q:Ex×St):Prop:=((List.range x.people.length).any (cV x.people a.pl a.miss m p)=true∧∃(j:Nat) (rest:aj),q=(.ret,⟨[.und,I 0,I m,.und,.bp 0 0,.bp 1 0,.bp 2 0,I 43,.bp 3 0,.bp 16 0,.bp 17 0,I j,.und,.und],.box (x.cs.map .t):: .box (x.cs.map .t):: .box [I 0,I 0,I 0,.nil]::rest⟩))∨((List.range x.people.length).any (cV x.people a.pl a.miss m p)=false∧∃st,sA x a b d p p2 p3 m off x.people.length st∧q=(.exit 0,st))
theorem LD{x:Tru}(h:x.ok){a b d:Rdr}{p p2 p3:List Int}(e1:x.readers=[a,b,d])(e2:x.missed=[p,p2,p3])(m off:Int)(j:Nat)(st:St)(hj:j<x.people.length)(hp:sA x a b d p p2 p3 m off j st):
 (∃st',eB false [0,3,7,12,13] st.H.length (exS aT K.ab st)=some st'∧sA x a b d p p2 p3 m off (j+1) st')∨∃q,exS aT K.ab st=some q∧q.1≠ .normal∧Df x a b d p p2 p3 m off q:=by
 have n3:=h.n3
 have tl:=h.tl
 have nl:=h.nl
 have ll:=h.ll
 have t0:=h.t0
 have t1:=h.t1
 have nb:=h.nb 0 (by rw[e1];simp)
 have mb:=h.mb 0 (by rw[e1];simp)
 have m2:=h.m2 0 (by rw[e1];simp)
 have rk:nth x.readers 0=a:=by rw[e1];rfl
 have mk:nth x.missed 0=p:=by rw[e2];rfl
 have ml:x.missed.length=3:=by rw[e2];rfl
 have rn:x.readers.length=3:=by rw[e1];rfl
 have ro:=h.r a (by rw[e1];simp)
 rw[rk,mk]at mb
 rw[mk]at m2
 obtain⟨rs,rl,rl1,rp1,rp2,rm1,rm2,rk1,rk2⟩:=ro
 have ex:(x.people.map Wlk.e)[j]?=some (nth x.people j).e:=aD _ hj
 have et:(x.tags.map (T.int .i64))[j]?=some (tI (nth x.tags j)):=aD _ (by omega)
 have hs:=qd a.pl (nth x.people j).place (by omega)
 have mbj:=mb j hj
 have wu:IntKind.u64.wrap (j:Int)=j:=km j (by omega)
 have sh:=kn m j
 have an:=fJ m j
 obtain⟨G,gl,hb,gb,rfl⟩:=hp
 have ql:=cD (bI x.people a.pl m p) p j
 have qj:=iI (bI x.people a.pl m p) p j j (Nat.le_refl _)
 by_cases hq:(cV x.people a.pl a.miss m p) j=true
 · have anyb:(List.range x.people.length).any (cV x.people a.pl a.miss m p)=true:=List.any_eq_true.2 ⟨j,List.mem_range.2 hj,hq⟩
   unfold cV bO eP at hq
   simp only[Bool.and_eq_true,decide_eq_true_eq]at hq
   obtain⟨⟨h1,h2⟩,h3⟩:=hq
   generalize a7 _ p j=q at*
   rw[← qj]at h3
   have nse:nth (q.set j (nth q j+1)) j=nth q j+1:=aK (by omega)
   rw[decide_eq_true h1]at hs
   have key:∃rest:aj,exS aT K.ab ⟨[.und,I 0,I m,.und,.bp 0 0,.bp 1 0,.bp 2 0,.und,.bp 3 0,.bp 16 0,.bp 17 0,I j,.und,.und],[.box (x.cs.map .t),.box ae,.box [I 0,I 0,I 0,.nil],.box [.t (tL a.pl),I a.per,I a.miss,I a.skew],.arr 3 false 0 ((x.people.map Wlk.e).map .t),arI x.tags,.arr 4 false 0 [aN 10 a,aN 11 b,aN 12 d],arI x.numbers,arI x.looked,.arr 1 false 0 [.ref 13 0 p.length,.ref 14 0 p2.length,.ref 15 0 p3.length],arI a.pl,arI b.pl,arI d.pl,arI q,arI p2,arI p3,.box (az 4 x),.box [I 0,I 0,I (x.time+off),bf 18 G]]++(G.map fun g=>arI g)⟩=some (.ret,⟨[.und,I 0,I m,.und,.bp 0 0,.bp 1 0,.bp 2 0,I 43,.bp 3 0,.bp 16 0,.bp 17 0,I j,.und,.und],.box (x.cs.map .t):: .box (x.cs.map .t):: .box [I 0,I 0,I 0,.nil]::rest⟩):=by
    rcases G with _ | ⟨g,_ | ⟨g2,_ | ⟨g3,G⟩⟩⟩
    · obtain⟨⟨places,roads⟩,time,people,tags,readers,numbers,looked,missed⟩:=x
      simp only[ae,Tru.cs,az,aN,arI,bf,List.getLast?,List.getLast,List.cons_append,List.nil_append,List.map_cons,List.map_nil,LLe,tL,ml,rn,Nat.reduceAdd,Nat.reduceSub,List.length_cons,List.length_nil]at*
      simp (disch:=omega) only[go_sem,K.ab,↓reduceIte,ex,hs,wu,sh,an,h2,nse,h3,ai,List.length_set,ql,gt_iff_lt,Nat.reduceAdd,Nat.reduceSub]
      exact⟨_,rfl⟩
    · obtain⟨⟨places,roads⟩,time,people,tags,readers,numbers,looked,missed⟩:=x
      simp only[ae,Tru.cs,az,aN,arI,bf,List.getLast?,List.getLast,List.cons_append,List.nil_append,List.map_cons,List.map_nil,LLe,tL,ml,rn,Nat.reduceAdd,Nat.reduceSub,List.length_cons,List.length_nil]at*
      simp (disch:=omega) only[go_sem,K.ab,↓reduceIte,ex,hs,wu,sh,an,h2,nse,h3,ai,List.length_set,ql,gt_iff_lt,Nat.reduceAdd,Nat.reduceSub]
      exact⟨_,rfl⟩
    · obtain⟨⟨places,roads⟩,time,people,tags,readers,numbers,looked,missed⟩:=x
      simp only[ae,Tru.cs,az,aN,arI,bf,List.getLast?,List.getLast,List.cons_append,List.nil_append,List.map_cons,List.map_nil,LLe,tL,ml,rn,Nat.reduceAdd,Nat.reduceSub,List.length_cons,List.length_nil]at*
      simp (disch:=omega) only[go_sem,K.ab,↓reduceIte,ex,hs,wu,sh,an,h2,nse,h3,ai,List.length_set,ql,gt_iff_lt,Nat.reduceAdd,Nat.reduceSub]
      exact⟨_,rfl⟩
    · simp only[List.length_cons]at gl;omega
   obtain⟨rest,key⟩:=key
   exact .inr ⟨_,key,by simp,.inl ⟨anyb,j,rest,rfl⟩⟩
 · have hq:(cV x.people a.pl a.miss m p) j=false:=by simpa using hq
   have hb2:∀i,i<j+1→(cV x.people a.pl a.miss m p) i=false:=fun i hi=>by
    by_cases c:i=j
    · rw[c];exact hq
    · exact hb i (by omega)
   have gb2:∀g∈G,g.length≤j+1:=fun g hg=>Nat.le_succ_of_le (gb g hg)
   left
   by_cases h1:(nth x.people j).place∈a.pl
   · rw[decide_eq_true h1]at hs
     by_cases h2:sM m j=1
     · have nw:(bI x.people a.pl m p) j=nth p j+1:=by unfold bI bO eP;rw[decide_eq_true h1,decide_eq_true h2];rfl
       have nl0:¬a.miss<nth p j+1:=by
        unfold cV bO eP at hq
        rw[decide_eq_true h1,decide_eq_true h2]at hq
        simpa using hq
       refine⟨_,?_,G,by omega,hb2,gb2,rfl⟩
       simp only[a7,nw]
       generalize a7 _ p j=q at*
       rw[← qj]at nl0 ⊢
       have nse:nth (q.set j (nth q j+1)) j=nth q j+1:=aK (by omega)
       rcases G with _ | ⟨g,_ | ⟨g2,_ | ⟨g3,G⟩⟩⟩
       · obtain⟨⟨places,roads⟩,time,people,tags,readers,numbers,looked,missed⟩:=x
         simp only[ae,Tru.cs,az,aN,arI,bf,List.getLast?,List.getLast,List.cons_append,List.nil_append,List.map_cons,List.map_nil,LLe,tL,ml,rn,Nat.reduceAdd,Nat.reduceSub,List.length_cons,List.length_nil]at*
         simp (disch:=omega) only[go_sem,K.ab,↓reduceIte,ex,hs,wu,sh,an,h2,nse,nl0,ai,List.length_set,ql,gt_iff_lt,Nat.reduceAdd,Nat.reduceSub]
       · obtain⟨⟨places,roads⟩,time,people,tags,readers,numbers,looked,missed⟩:=x
         simp only[ae,Tru.cs,az,aN,arI,bf,List.getLast?,List.getLast,List.cons_append,List.nil_append,List.map_cons,List.map_nil,LLe,tL,ml,rn,Nat.reduceAdd,Nat.reduceSub,List.length_cons,List.length_nil]at*
         simp (disch:=omega) only[go_sem,K.ab,↓reduceIte,ex,hs,wu,sh,an,h2,nse,nl0,ai,List.length_set,ql,gt_iff_lt,Nat.reduceAdd,Nat.reduceSub]
       · obtain⟨⟨places,roads⟩,time,people,tags,readers,numbers,looked,missed⟩:=x
         simp only[ae,Tru.cs,az,aN,arI,bf,List.getLast?,List.getLast,List.cons_append,List.nil_append,List.map_cons,List.map_nil,LLe,tL,ml,rn,Nat.reduceAdd,Nat.reduceSub,List.length_cons,List.length_nil]at*
         simp (disch:=omega) only[go_sem,K.ab,↓reduceIte,ex,hs,wu,sh,an,h2,nse,nl0,ai,List.length_set,ql,gt_iff_lt,Nat.reduceAdd,Nat.reduceSub]
       · simp only[List.length_cons]at gl;omega
     · have nw:(bI x.people a.pl m p) j=0:=by unfold bI bO eP;rw[decide_eq_true h1,decide_eq_false h2];rfl
       have rs1:a7 (bI x.people a.pl m p) p (j+1)=(a7 (bI x.people a.pl m p) p j).set j 0:=by rw[a7,nw]
       unfold sA
       rw[rs1]
       generalize a7 _ p j=q at*
       rcases G with _ | ⟨g,_ | ⟨g2,_ | ⟨g3,G⟩⟩⟩
       · have pl:=fC ([]:List Int) (nth x.tags j)
         have fp:=di ([]:List Int) (nth x.tags j)
         have lp2:∀z0 z3 z7 z13:D,exS aT K.bk ⟨[z0,I 0,I m,z3,.bp 0 0,.bp 1 0,.bp 2 0,z7,.bp 3 0,.bp 16 0,.bp 17 0,I j,I 0,z13],[.box (x.cs.map .t),.box ae,.box [I 0,I 0,I 0,.nil],.box [.t (tL a.pl),I a.per,I a.miss,I a.skew],.arr 3 false 0 ((x.people.map Wlk.e).map .t),arI x.tags,.arr 4 false 0 [aN 10 a,aN 11 b,aN 12 d],arI x.numbers,arI x.looked,.arr 1 false 0 [.ref 13 0 p.length,.ref 14 0 p2.length,.ref 15 0 p3.length],arI a.pl,arI b.pl,arI d.pl,arI (q.set j 0),arI p2,arI p3,.box (az 4 x),.box [I 0,I 0,I (x.time+off),bf 18 []]]++([]:List (List Int)).map fun g=>arI g⟩=some (.exit 2,⟨[.und,I 0,I m,.und,.bp 0 0,.bp 1 0,.bp 2 0,.und,.bp 3 0,.bp 16 0,.bp 17 0,I j,I (fm ([]:List Int) (nth x.tags j)),.und],[.box (x.cs.map .t),.box ae,.box [I 0,I 0,I 0,.nil],.box [.t (tL a.pl),I a.per,I a.miss,I a.skew],.arr 3 false 0 ((x.people.map Wlk.e).map .t),arI x.tags,.arr 4 false 0 [aN 10 a,aN 11 b,aN 12 d],arI x.numbers,arI x.looked,.arr 1 false 0 [.ref 13 0 p.length,.ref 14 0 p2.length,.ref 15 0 p3.length],arI a.pl,arI b.pl,arI d.pl,arI (q.set j 0),arI p2,arI p3,.box (az 4 x),.box [I 0,I 0,I (x.time+off),bf 18 []]]++([]:List (List Int)).map fun g=>arI g⟩):=by
          intro z0 z3 z7 z13
          refine bV (fun i=>⟨[.und,I 0,I m,.und,.bp 0 0,.bp 1 0,.bp 2 0,.und,.bp 3 0,.bp 16 0,.bp 17 0,I j,I i,.und],[.box (x.cs.map .t),.box ae,.box [I 0,I 0,I 0,.nil],.box [.t (tL a.pl),I a.per,I a.miss,I a.skew],.arr 3 false 0 ((x.people.map Wlk.e).map .t),arI x.tags,.arr 4 false 0 [aN 10 a,aN 11 b,aN 12 d],arI x.numbers,arI x.looked,.arr 1 false 0 [.ref 13 0 p.length,.ref 14 0 p2.length,.ref 15 0 p3.length],arI a.pl,arI b.pl,arI d.pl,arI (q.set j 0),arI p2,arI p3,.box (az 4 x),.box [I 0,I 0,I (x.time+off),bf 18 []]]++([]:List (List Int)).map fun g=>arI g⟩) (fm ([]:List Int) (nth x.tags j)) rfl ?_ ?_ (by simp)
          · intro i hi
            exact absurd hi (by simp only[List.length_nil]at pl;omega)
          · generalize fm ([]:List Int) (nth x.tags j)=i at*
            have i0:i=0:=by simp only[List.length_nil]at pl;omega
            subst i0
            obtain⟨⟨places,roads⟩,time,people,tags,readers,numbers,looked,missed⟩:=x
            simp only[ae,Tru.cs,az,aN,arI,bf,List.getLast?,List.getLast,List.cons_append,List.nil_append,List.map_cons,List.map_nil,LLe,tL,ml,rn,Nat.reduceAdd,Nat.reduceSub,List.length_cons,List.length_nil]at*
            simp (disch:=omega) only[go_sem,K.aA,↓reduceIte,et,Nat.reduceAdd,Nat.reduceSub]
         refine⟨_,?_,[]++[(kY ([]:List Int) (nth x.tags j))],by simp only[List.length_append,List.length_cons,List.length_nil]at *;omega,hb2,?_,rfl⟩
         · unfold kY
           generalize fm ([]:List Int) (nth x.tags j)=i at*
           obtain⟨⟨places,roads⟩,time,people,tags,readers,numbers,looked,missed⟩:=x
           simp only[ae,Tru.cs,az,aN,arI,bf,List.getLast?,List.getLast,List.cons_append,List.nil_append,List.map_cons,List.map_nil,LLe,tL,ml,rn,Nat.reduceAdd,Nat.reduceSub,List.length_cons,List.length_nil]at*
           simp (disch:=omega) only[go_sem,K.ab,↓reduceIte,ex,et,hs,wu,sh,an,h2,lp2,ai,List.length_set,ql,List.map_append,List.map_cons,List.map_nil,List.length_append,List.length_take,List.length_drop,List.length_singleton,List.length_map,Nat.reduceAdd,Nat.reduceSub]
         · intro g4 hg
           simp only[List.mem_append,List.mem_cons,List.not_mem_nil,or_false,false_or]at hg
           rw[hg,dZ];simp
       · have pl:=fC g (nth x.tags j)
         have fp:=di g (nth x.tags j)
         have tgl:=gb g (by simp)
         have lp2:∀z0 z3 z7 z13:D,exS aT K.bk ⟨[z0,I 0,I m,z3,.bp 0 0,.bp 1 0,.bp 2 0,z7,.bp 3 0,.bp 16 0,.bp 17 0,I j,I 0,z13],[.box (x.cs.map .t),.box ae,.box [I 0,I 0,I 0,.nil],.box [.t (tL a.pl),I a.per,I a.miss,I a.skew],.arr 3 false 0 ((x.people.map Wlk.e).map .t),arI x.tags,.arr 4 false 0 [aN 10 a,aN 11 b,aN 12 d],arI x.numbers,arI x.looked,.arr 1 false 0 [.ref 13 0 p.length,.ref 14 0 p2.length,.ref 15 0 p3.length],arI a.pl,arI b.pl,arI d.pl,arI (q.set j 0),arI p2,arI p3,.box (az 4 x),.box [I 0,I 0,I (x.time+off),bf 18 [g]]]++([g]:List (List Int)).map fun g=>arI g⟩=some (.exit 2,⟨[.und,I 0,I m,.und,.bp 0 0,.bp 1 0,.bp 2 0,.und,.bp 3 0,.bp 16 0,.bp 17 0,I j,I (fm g (nth x.tags j)),.und],[.box (x.cs.map .t),.box ae,.box [I 0,I 0,I 0,.nil],.box [.t (tL a.pl),I a.per,I a.miss,I a.skew],.arr 3 false 0 ((x.people.map Wlk.e).map .t),arI x.tags,.arr 4 false 0 [aN 10 a,aN 11 b,aN 12 d],arI x.numbers,arI x.looked,.arr 1 false 0 [.ref 13 0 p.length,.ref 14 0 p2.length,.ref 15 0 p3.length],arI a.pl,arI b.pl,arI d.pl,arI (q.set j 0),arI p2,arI p3,.box (az 4 x),.box [I 0,I 0,I (x.time+off),bf 18 [g]]]++([g]:List (List Int)).map fun g=>arI g⟩):=by
          intro z0 z3 z7 z13
          refine bV (fun i=>⟨[.und,I 0,I m,.und,.bp 0 0,.bp 1 0,.bp 2 0,.und,.bp 3 0,.bp 16 0,.bp 17 0,I j,I i,.und],[.box (x.cs.map .t),.box ae,.box [I 0,I 0,I 0,.nil],.box [.t (tL a.pl),I a.per,I a.miss,I a.skew],.arr 3 false 0 ((x.people.map Wlk.e).map .t),arI x.tags,.arr 4 false 0 [aN 10 a,aN 11 b,aN 12 d],arI x.numbers,arI x.looked,.arr 1 false 0 [.ref 13 0 p.length,.ref 14 0 p2.length,.ref 15 0 p3.length],arI a.pl,arI b.pl,arI d.pl,arI (q.set j 0),arI p2,arI p3,.box (az 4 x),.box [I 0,I 0,I (x.time+off),bf 18 [g]]]++([g]:List (List Int)).map fun g=>arI g⟩) (fm g (nth x.tags j)) rfl ?_ ?_ (by simp)
          · intro i hi
            have lt:=fp.1 i hi
            have eg:(g.map (T.int .i64))[i]?=some (tI (nth g i)):=aD _ (by omega)
            obtain⟨⟨places,roads⟩,time,people,tags,readers,numbers,looked,missed⟩:=x
            simp only[ae,Tru.cs,az,aN,arI,bf,List.getLast?,List.getLast,List.cons_append,List.nil_append,List.map_cons,List.map_nil,LLe,tL,ml,rn,Nat.reduceAdd,Nat.reduceSub,List.length_cons,List.length_nil]at*
            simp (disch:=omega) only[go_sem,K.aA,↓reduceIte,eg,et,lt,List.length_map,Nat.reduceAdd,Nat.reduceSub]
          · generalize fm g (nth x.tags j)=i at*
            have eg:=fun hi:i<g.length=>(aD _ hi:(g.map (T.int .i64))[i]?=some (tI (nth g i)))
            obtain⟨⟨places,roads⟩,time,people,tags,readers,numbers,looked,missed⟩:=x
            simp only[ae,Tru.cs,az,aN,arI,bf,List.getLast?,List.getLast,List.cons_append,List.nil_append,List.map_cons,List.map_nil,LLe,tL,ml,rn,Nat.reduceAdd,Nat.reduceSub,List.length_cons,List.length_nil]at*
            by_cases hi:i<g.length
            · have lt:=fp.2 hi
              have eg:=eg hi
              simp (disch:=omega) only[go_sem,K.aA,↓reduceIte,eg,et,lt,hi,List.length_map,Nat.reduceAdd,Nat.reduceSub]
            · simp (disch:=omega) only[go_sem,K.aA,↓reduceIte,hi,List.length_map,Nat.reduceAdd,Nat.reduceSub]
         refine⟨_,?_,[g]++[(kY g (nth x.tags j))],by simp only[List.length_append,List.length_cons,List.length_nil]at *;omega,hb2,?_,rfl⟩
         · unfold kY
           generalize fm g (nth x.tags j)=i at*
           obtain⟨⟨places,roads⟩,time,people,tags,readers,numbers,looked,missed⟩:=x
           simp only[ae,Tru.cs,az,aN,arI,bf,List.getLast?,List.getLast,List.cons_append,List.nil_append,List.map_cons,List.map_nil,LLe,tL,ml,rn,Nat.reduceAdd,Nat.reduceSub,List.length_cons,List.length_nil]at*
           simp (disch:=omega) only[go_sem,K.ab,↓reduceIte,ex,et,hs,wu,sh,an,h2,lp2,ai,List.length_set,ql,List.map_append,List.map_cons,List.map_nil,List.length_append,List.length_take,List.length_drop,List.length_singleton,List.length_map,iZ,gM,Nat.reduceAdd,Nat.reduceSub]
           simp only[List.map_append,List.map_take,List.map_drop,List.map_cons,List.map_nil,Nat.min_self,Nat.sub_zero,cM]
         · intro g4 hg
           simp only[List.mem_append,List.mem_cons,List.not_mem_nil,or_false,false_or]at hg
           rcases hg with hg | hg
           · rw[hg];exact gb2 _ (by simp)
           · rw[hg,dZ];omega
       · have pl:=fC g2 (nth x.tags j)
         have fp:=di g2 (nth x.tags j)
         have tgl:=gb g2 (by simp)
         have lp2:∀z0 z3 z7 z13:D,exS aT K.bk ⟨[z0,I 0,I m,z3,.bp 0 0,.bp 1 0,.bp 2 0,z7,.bp 3 0,.bp 16 0,.bp 17 0,I j,I 0,z13],[.box (x.cs.map .t),.box ae,.box [I 0,I 0,I 0,.nil],.box [.t (tL a.pl),I a.per,I a.miss,I a.skew],.arr 3 false 0 ((x.people.map Wlk.e).map .t),arI x.tags,.arr 4 false 0 [aN 10 a,aN 11 b,aN 12 d],arI x.numbers,arI x.looked,.arr 1 false 0 [.ref 13 0 p.length,.ref 14 0 p2.length,.ref 15 0 p3.length],arI a.pl,arI b.pl,arI d.pl,arI (q.set j 0),arI p2,arI p3,.box (az 4 x),.box [I 0,I 0,I (x.time+off),bf 18 [g,g2]]]++([g,g2]:List (List Int)).map fun g=>arI g⟩=some (.exit 2,⟨[.und,I 0,I m,.und,.bp 0 0,.bp 1 0,.bp 2 0,.und,.bp 3 0,.bp 16 0,.bp 17 0,I j,I (fm g2 (nth x.tags j)),.und],[.box (x.cs.map .t),.box ae,.box [I 0,I 0,I 0,.nil],.box [.t (tL a.pl),I a.per,I a.miss,I a.skew],.arr 3 false 0 ((x.people.map Wlk.e).map .t),arI x.tags,.arr 4 false 0 [aN 10 a,aN 11 b,aN 12 d],arI x.numbers,arI x.looked,.arr 1 false 0 [.ref 13 0 p.length,.ref 14 0 p2.length,.ref 15 0 p3.length],arI a.pl,arI b.pl,arI d.pl,arI (q.set j 0),arI p2,arI p3,.box (az 4 x),.box [I 0,I 0,I (x.time+off),bf 18 [g,g2]]]++([g,g2]:List (List Int)).map fun g=>arI g⟩):=by
          intro z0 z3 z7 z13
          refine bV (fun i=>⟨[.und,I 0,I m,.und,.bp 0 0,.bp 1 0,.bp 2 0,.und,.bp 3 0,.bp 16 0,.bp 17 0,I j,I i,.und],[.box (x.cs.map .t),.box ae,.box [I 0,I 0,I 0,.nil],.box [.t (tL a.pl),I a.per,I a.miss,I a.skew],.arr 3 false 0 ((x.people.map Wlk.e).map .t),arI x.tags,.arr 4 false 0 [aN 10 a,aN 11 b,aN 12 d],arI x.numbers,arI x.looked,.arr 1 false 0 [.ref 13 0 p.length,.ref 14 0 p2.length,.ref 15 0 p3.length],arI a.pl,arI b.pl,arI d.pl,arI (q.set j 0),arI p2,arI p3,.box (az 4 x),.box [I 0,I 0,I (x.time+off),bf 18 [g,g2]]]++([g,g2]:List (List Int)).map fun g=>arI g⟩) (fm g2 (nth x.tags j)) rfl ?_ ?_ (by simp)
          · intro i hi
            have lt:=fp.1 i hi
            have eg:(g2.map (T.int .i64))[i]?=some (tI (nth g2 i)):=aD _ (by omega)
            obtain⟨⟨places,roads⟩,time,people,tags,readers,numbers,looked,missed⟩:=x
            simp only[ae,Tru.cs,az,aN,arI,bf,List.getLast?,List.getLast,List.cons_append,List.nil_append,List.map_cons,List.map_nil,LLe,tL,ml,rn,Nat.reduceAdd,Nat.reduceSub,List.length_cons,List.length_nil]at*
            simp (disch:=omega) only[go_sem,K.aA,↓reduceIte,eg,et,lt,List.length_map,Nat.reduceAdd,Nat.reduceSub]
          · generalize fm g2 (nth x.tags j)=i at*
            have eg:=fun hi:i<g2.length=>(aD _ hi:(g2.map (T.int .i64))[i]?=some (tI (nth g2 i)))
            obtain⟨⟨places,roads⟩,time,people,tags,readers,numbers,looked,missed⟩:=x
            simp only[ae,Tru.cs,az,aN,arI,bf,List.getLast?,List.getLast,List.cons_append,List.nil_append,List.map_cons,List.map_nil,LLe,tL,ml,rn,Nat.reduceAdd,Nat.reduceSub,List.length_cons,List.length_nil]at*
            by_cases hi:i<g2.length
            · have lt:=fp.2 hi
              have eg:=eg hi
              simp (disch:=omega) only[go_sem,K.aA,↓reduceIte,eg,et,lt,hi,List.length_map,Nat.reduceAdd,Nat.reduceSub]
            · simp (disch:=omega) only[go_sem,K.aA,↓reduceIte,hi,List.length_map,Nat.reduceAdd,Nat.reduceSub]
         refine⟨_,?_,[g,g2]++[(kY g2 (nth x.tags j))],by simp only[List.length_append,List.length_cons,List.length_nil]at *;omega,hb2,?_,rfl⟩
         · unfold kY
           generalize fm g2 (nth x.tags j)=i at*
           obtain⟨⟨places,roads⟩,time,people,tags,readers,numbers,looked,missed⟩:=x
           simp only[ae,Tru.cs,az,aN,arI,bf,List.getLast?,List.getLast,List.cons_append,List.nil_append,List.map_cons,List.map_nil,LLe,tL,ml,rn,Nat.reduceAdd,Nat.reduceSub,List.length_cons,List.length_nil]at*
           simp (disch:=omega) only[go_sem,K.ab,↓reduceIte,ex,et,hs,wu,sh,an,h2,lp2,ai,List.length_set,ql,List.map_append,List.map_cons,List.map_nil,List.length_append,List.length_take,List.length_drop,List.length_singleton,List.length_map,iZ,gM,Nat.reduceAdd,Nat.reduceSub]
           simp only[List.map_append,List.map_take,List.map_drop,List.map_cons,List.map_nil,Nat.min_self,Nat.sub_zero,cM]
         · intro g4 hg
           simp only[List.mem_append,List.mem_cons,List.not_mem_nil,or_false,false_or]at hg
           rcases hg with(hg | hg) | hg
           · rw[hg];exact gb2 _ (by simp)
           · rw[hg];exact gb2 _ (by simp)
           · rw[hg,dZ];omega
       · simp only[List.length_cons]at gl;omega
   · have nw:(bI x.people a.pl m p) j=0:=by unfold bI bO eP;rw[decide_eq_false h1];rfl
     rw[decide_eq_false h1]at hs
     refine⟨_,?_,G,by omega,hb2,gb2,rfl⟩
     simp only[a7,nw]
     generalize a7 _ p j=q at*
     rcases G with _ | ⟨g,_ | ⟨g2,_ | ⟨g3,G⟩⟩⟩
     · obtain⟨⟨places,roads⟩,time,people,tags,readers,numbers,looked,missed⟩:=x
       simp only[ae,Tru.cs,az,aN,arI,bf,List.getLast?,List.getLast,List.cons_append,List.nil_append,List.map_cons,List.map_nil,LLe,tL,ml,rn,Nat.reduceAdd,Nat.reduceSub,List.length_cons,List.length_nil]at*
       simp (disch:=omega) only[go_sem,K.ab,↓reduceIte,ex,hs,ai,List.length_set,ql,Nat.reduceAdd,Nat.reduceSub]
     · obtain⟨⟨places,roads⟩,time,people,tags,readers,numbers,looked,missed⟩:=x
       simp only[ae,Tru.cs,az,aN,arI,bf,List.getLast?,List.getLast,List.cons_append,List.nil_append,List.map_cons,List.map_nil,LLe,tL,ml,rn,Nat.reduceAdd,Nat.reduceSub,List.length_cons,List.length_nil]at*
       simp (disch:=omega) only[go_sem,K.ab,↓reduceIte,ex,hs,ai,List.length_set,ql,Nat.reduceAdd,Nat.reduceSub]
     · obtain⟨⟨places,roads⟩,time,people,tags,readers,numbers,looked,missed⟩:=x
       simp only[ae,Tru.cs,az,aN,arI,bf,List.getLast?,List.getLast,List.cons_append,List.nil_append,List.map_cons,List.map_nil,LLe,tL,ml,rn,Nat.reduceAdd,Nat.reduceSub,List.length_cons,List.length_nil]at*
       simp (disch:=omega) only[go_sem,K.ab,↓reduceIte,ex,hs,ai,List.length_set,ql,Nat.reduceAdd,Nat.reduceSub]
     · simp only[List.length_cons]at gl;omega
theorem LF{x:Tru}(h:x.ok){a b d:Rdr}{p p2 p3:List Int}(e1:x.readers=[a,b,d])(e2:x.missed=[p,p2,p3])(m off:Int)(z0 z3 z7 z12 z13:D):∃q,exS aT K.fA ⟨[z0,I 0,I m,z3,.bp 0 0,.bp 1 0,.bp 2 0,z7,.bp 3 0,.bp 16 0,.bp 17 0,I 0,z12,z13],[.box (x.cs.map .t),.box ae,.box [I 0,I 0,I 0,.nil],.box [.t (tL a.pl),I a.per,I a.miss,I a.skew],.arr 3 false 0 ((x.people.map Wlk.e).map .t),arI x.tags,.arr 4 false 0 [aN 10 a,aN 11 b,aN 12 d],arI x.numbers,arI x.looked,.arr 1 false 0 [.ref 13 0 p.length,.ref 14 0 p2.length,.ref 15 0 p3.length],arI a.pl,arI b.pl,arI d.pl,arI p,arI p2,arI p3,.box (az 4 x),.box [I 0,I 0,I (x.time+off),.nil]]⟩=some q∧Df x a b d p p2 p3 m off q:=by
 have n3:=h.n3
 have tl:=h.tl
 have nl:=h.nl
 have ll:=h.ll
 have t0:=h.t0
 have t1:=h.t1
 have nb:=h.nb 0 (by rw[e1];simp)
 have mb:=h.mb 0 (by rw[e1];simp)
 have m2:=h.m2 0 (by rw[e1];simp)
 have rk:nth x.readers 0=a:=by rw[e1];rfl
 have mk:nth x.missed 0=p:=by rw[e2];rfl
 have ml:x.missed.length=3:=by rw[e2];rfl
 have rn:x.readers.length=3:=by rw[e1];rfl
 have ro:=h.r a (by rw[e1];simp)
 rw[rk,mk]at mb
 rw[mk]at m2
 obtain⟨rs,rl,rl1,rp1,rp2,rm1,rm2,rk1,rk2⟩:=ro
 refine fI (sA x a b d p p2 p3 m off) x.people.length _ ⟨[],Nat.le_refl _,fun i hi=>absurd hi (by omega),fun g hg=>absurd hg (by simp),rfl⟩ (fun j st hj hp=>LD h e1 e2 m off j st hj hp) ?_
 intro st hp
 refine⟨(.exit 0,st),?_,by simp,.inr ⟨?_,st,hp,rfl⟩⟩
 · obtain⟨G,gl,hb,gb,rfl⟩:=hp
   generalize a7 _ p _=q at*
   rcases G with _ | ⟨g,_ | ⟨g2,_ | ⟨g3,_ | ⟨g4,G⟩⟩⟩⟩
   · obtain⟨⟨places,roads⟩,time,people,tags,readers,numbers,looked,missed⟩:=x
     simp only[ae,Tru.cs,az,aN,arI,bf,List.getLast?,List.getLast,List.cons_append,List.nil_append,List.map_cons,List.map_nil,LLe,tL,ml,rn,Nat.reduceAdd,Nat.reduceSub,List.length_cons,List.length_nil]at*
     simp (disch:=omega) only[go_sem,K.ab,↓reduceIte,Nat.reduceAdd,Nat.reduceSub]
   · obtain⟨⟨places,roads⟩,time,people,tags,readers,numbers,looked,missed⟩:=x
     simp only[ae,Tru.cs,az,aN,arI,bf,List.getLast?,List.getLast,List.cons_append,List.nil_append,List.map_cons,List.map_nil,LLe,tL,ml,rn,Nat.reduceAdd,Nat.reduceSub,List.length_cons,List.length_nil]at*
     simp (disch:=omega) only[go_sem,K.ab,↓reduceIte,Nat.reduceAdd,Nat.reduceSub]
   · obtain⟨⟨places,roads⟩,time,people,tags,readers,numbers,looked,missed⟩:=x
     simp only[ae,Tru.cs,az,aN,arI,bf,List.getLast?,List.getLast,List.cons_append,List.nil_append,List.map_cons,List.map_nil,LLe,tL,ml,rn,Nat.reduceAdd,Nat.reduceSub,List.length_cons,List.length_nil]at*
     simp (disch:=omega) only[go_sem,K.ab,↓reduceIte,Nat.reduceAdd,Nat.reduceSub]
   · obtain⟨⟨places,roads⟩,time,people,tags,readers,numbers,looked,missed⟩:=x
     simp only[ae,Tru.cs,az,aN,arI,bf,List.getLast?,List.getLast,List.cons_append,List.nil_append,List.map_cons,List.map_nil,LLe,tL,ml,rn,Nat.reduceAdd,Nat.reduceSub,List.length_cons,List.length_nil]at*
     simp (disch:=omega) only[go_sem,K.ab,↓reduceIte,Nat.reduceAdd,Nat.reduceSub]
   · simp only[List.length_cons]at gl;omega
 · obtain⟨G,gl,hb,gb,rfl⟩:=hp
   rw[List.any_eq_false]
   intro i hi
   rw[hb i (List.mem_range.1 hi)]
   decide
set_option maxHeartbeats 4000000 in
theorem Dg{x:Tru}(h:x.ok){a b d:Rdr}{p p2 p3:List Int}(e1:x.readers=[a,b,d])(e2:x.missed=[p,p2,p3])(m off:Int)(o1: -a.skew≤off)(o2:off≤a.skew)(o3:0≤x.time+off)(o4:x.time+off≤2147483648):
 ∃r e,aT 0 N.ah [.t x.e,I 0,I m,I off] []=some (.tup [.t (if nQ x 0 m then x else du x 0 m).e,.t r,I e],[]):=by
 have n3:=h.n3
 have tl:=h.tl
 have nl:=h.nl
 have ll:=h.ll
 have t0:=h.t0
 have t1:=h.t1
 have nb:=h.nb 0 (by rw[e1];simp)
 have mb:=h.mb 0 (by rw[e1];simp)
 have m2:=h.m2 0 (by rw[e1];simp)
 have rk:nth x.readers 0=a:=by rw[e1];rfl
 have mk:nth x.missed 0=p:=by rw[e2];rfl
 have ml:x.missed.length=3:=by rw[e2];rfl
 have rn:x.readers.length=3:=by rw[e1];rfl
 have ro:=h.r a (by rw[e1];simp)
 rw[rk,mk]at mb
 rw[mk]at m2
 obtain⟨rs,rl,rl1,rp1,rp2,rm1,rm2,rk1,rk2⟩:=ro
 have sz:=h.sz
 have cp0:=fB x sz
 have cp:=mC sz e1 e2
 have va:=dV h
 have lpL:=LF h e1 e2 m off
 have scl:∀(y:Tru) (r:T) (v:Int),([D.t y.e,D.t r,I v].all bz)=false:=fun _ _ _=>rfl
 unfold nQ du lg
 rw[rk,mk]
 by_cases bq:(List.range x.people.length).any (cV x.people a.pl a.miss m p)=true
 · rw[if_pos bq]
   refine⟨dJ 0 0 0 [],43,aB K.aP rfl ?_⟩
   obtain⟨⟨places,roads⟩,time,people,tags,readers,numbers,looked,missed⟩:=x
   subst e1 e2
   simp only[Tru.e,Tru.cs,ae,dE,az,dW,List.map_cons,List.map_nil,LLe,tL,arI,aN,tLL,Rdr.e]at*
   simp (disch:=omega) only[go_sem,K.ah,↓reduceIte,cp0,cp,va,gt_iff_lt,Nat.reduceAdd,Nat.reduceSub]
   refine b7 _ (lpL _ _ _ _ _) ?_
   rintro q (⟨_,j,rest,rfl⟩ | ⟨n,_⟩)
   · simp (disch:=omega) only[go_sem,K.ah,↓reduceIte,scl,Nat.reduceAdd,Nat.reduceSub]
     rfl
   · rw[n]at bq;cases bq
 · rw[if_neg bq]
   have en:(x.numbers.map (T.int .i64))[0]?=some (tI (nth x.numbers 0)):=aD _ (by omega)
   have el:(x.looked.map (T.int .i64))[0]?=some (tI (nth x.looked 0)):=aD _ (by omega)
   generalize nth x.numbers 0=nu at*
   generalize nth x.looked 0=lo at*
   obtain⟨q,hq,hQ⟩:=lpL (.t x.e) (I off) (I 0) .und .und
   rcases hQ with⟨n,_⟩ | ⟨_,st,⟨G,gl,hb,gb,rfl⟩,rfl⟩
   · exact absurd n bq
   have wl:=cD (bI x.people a.pl m p) p x.people.length
   have ns:∀v:Int,nth (x.numbers.set 0 v) 0=v:=fun v=>aK (by omega)
   generalize a7 _ p _=w at*
   rcases G with _ | ⟨g,_ | ⟨g2,_ | ⟨g3,_ | ⟨g4,G⟩⟩⟩⟩
   · refine⟨dJ 0 ((nu+if 0≤lo∧a.per<x.time-lo then 2 else 1).tmod 65536) (x.time+off) [],0,aB K.aP rfl ?_⟩
     obtain⟨⟨places,roads⟩,time,people,tags,readers,numbers,looked,missed⟩:=x
     subst e1 e2
     simp only[ae,Tru.e,Tru.cs,dJ,dE,az,dW,aN,arI,tLL,Rdr.e,bf,List.cons_append,List.nil_append,List.map_cons,List.map_nil,LLe,tL,Nat.reduceAdd,Nat.reduceSub,List.length_cons,List.length_nil]at*
     by_cases ca:0≤lo
     · by_cases cb:a.per<time-lo
       · rw[if_pos ⟨ca,cb⟩]
         simp (disch:=omega) only[go_sem,K.ah,↓reduceIte,cp0,cp,va,hq,en,el,ca,cb,gt_iff_lt,ai,scl,ns,wl,List.length_set,Nat.reduceAdd,Nat.reduceSub]
       · rw[if_neg (fun e=>cb e.2)]
         simp (disch:=omega) only[go_sem,K.ah,↓reduceIte,cp0,cp,va,hq,en,el,ca,cb,gt_iff_lt,ai,scl,ns,wl,List.length_set,Nat.reduceAdd,Nat.reduceSub]
     · rw[if_neg (fun e=>ca e.1)]
       simp (disch:=omega) only[go_sem,K.ah,↓reduceIte,cp0,cp,va,hq,en,el,ca,gt_iff_lt,ai,scl,ns,wl,List.length_set,Nat.reduceAdd,Nat.reduceSub]
   · refine⟨dJ 0 ((nu+if 0≤lo∧a.per<x.time-lo then 2 else 1).tmod 65536) (x.time+off) g,0,aB K.aP rfl ?_⟩
     obtain⟨⟨places,roads⟩,time,people,tags,readers,numbers,looked,missed⟩:=x
     subst e1 e2
     simp only[ae,Tru.e,Tru.cs,dJ,dE,az,dW,aN,arI,tLL,Rdr.e,bf,List.cons_append,List.nil_append,List.map_cons,List.map_nil,LLe,tL,Nat.reduceAdd,Nat.reduceSub,List.length_cons,List.length_nil]at*
     by_cases ca:0≤lo
     · by_cases cb:a.per<time-lo
       · rw[if_pos ⟨ca,cb⟩]
         simp (disch:=omega) only[go_sem,K.ah,↓reduceIte,cp0,cp,va,hq,en,el,ca,cb,gt_iff_lt,ai,scl,ns,wl,List.length_set,Nat.reduceAdd,Nat.reduceSub]
       · rw[if_neg (fun e=>cb e.2)]
         simp (disch:=omega) only[go_sem,K.ah,↓reduceIte,cp0,cp,va,hq,en,el,ca,cb,gt_iff_lt,ai,scl,ns,wl,List.length_set,Nat.reduceAdd,Nat.reduceSub]
     · rw[if_neg (fun e=>ca e.1)]
       simp (disch:=omega) only[go_sem,K.ah,↓reduceIte,cp0,cp,va,hq,en,el,ca,gt_iff_lt,ai,scl,ns,wl,List.length_set,Nat.reduceAdd,Nat.reduceSub]
   · refine⟨dJ 0 ((nu+if 0≤lo∧a.per<x.time-lo then 2 else 1).tmod 65536) (x.time+off) g2,0,aB K.aP rfl ?_⟩
     obtain⟨⟨places,roads⟩,time,people,tags,readers,numbers,looked,missed⟩:=x
     subst e1 e2
     simp only[ae,Tru.e,Tru.cs,dJ,dE,az,dW,aN,arI,tLL,Rdr.e,bf,List.cons_append,List.nil_append,List.map_cons,List.map_nil,LLe,tL,Nat.reduceAdd,Nat.reduceSub,List.length_cons,List.length_nil]at*
     by_cases ca:0≤lo
     · by_cases cb:a.per<time-lo
       · rw[if_pos ⟨ca,cb⟩]
         simp (disch:=omega) only[go_sem,K.ah,↓reduceIte,cp0,cp,va,hq,en,el,ca,cb,gt_iff_lt,ai,scl,ns,wl,List.length_set,Nat.reduceAdd,Nat.reduceSub]
       · rw[if_neg (fun e=>cb e.2)]
         simp (disch:=omega) only[go_sem,K.ah,↓reduceIte,cp0,cp,va,hq,en,el,ca,cb,gt_iff_lt,ai,scl,ns,wl,List.length_set,Nat.reduceAdd,Nat.reduceSub]
     · rw[if_neg (fun e=>ca e.1)]
       simp (disch:=omega) only[go_sem,K.ah,↓reduceIte,cp0,cp,va,hq,en,el,ca,gt_iff_lt,ai,scl,ns,wl,List.length_set,Nat.reduceAdd,Nat.reduceSub]
   · refine⟨dJ 0 ((nu+if 0≤lo∧a.per<x.time-lo then 2 else 1).tmod 65536) (x.time+off) g3,0,aB K.aP rfl ?_⟩
     obtain⟨⟨places,roads⟩,time,people,tags,readers,numbers,looked,missed⟩:=x
     subst e1 e2
     simp only[ae,Tru.e,Tru.cs,dJ,dE,az,dW,aN,arI,tLL,Rdr.e,bf,List.cons_append,List.nil_append,List.map_cons,List.map_nil,LLe,tL,Nat.reduceAdd,Nat.reduceSub,List.length_cons,List.length_nil]at*
     by_cases ca:0≤lo
     · by_cases cb:a.per<time-lo
       · rw[if_pos ⟨ca,cb⟩]
         simp (disch:=omega) only[go_sem,K.ah,↓reduceIte,cp0,cp,va,hq,en,el,ca,cb,gt_iff_lt,ai,scl,ns,wl,List.length_set,Nat.reduceAdd,Nat.reduceSub]
       · rw[if_neg (fun e=>cb e.2)]
         simp (disch:=omega) only[go_sem,K.ah,↓reduceIte,cp0,cp,va,hq,en,el,ca,cb,gt_iff_lt,ai,scl,ns,wl,List.length_set,Nat.reduceAdd,Nat.reduceSub]
     · rw[if_neg (fun e=>ca e.1)]
       simp (disch:=omega) only[go_sem,K.ah,↓reduceIte,cp0,cp,va,hq,en,el,ca,gt_iff_lt,ai,scl,ns,wl,List.length_set,Nat.reduceAdd,Nat.reduceSub]
   · simp only[List.length_cons]at gl;omega
def sB(x:Tru)(a b d:Rdr)(p p2 p3:List Int)(m off:Int)(j:Nat)(st:St):Prop:=∃G:List (List Int),G.length≤j∧(∀i,i<j→(cV x.people b.pl b.miss m p2) i=false)∧(∀g∈G,g.length≤j)∧st=⟨[.und,I 1,I m,.und,.bp 0 0,.bp 1 0,.bp 2 0,.und,.bp 3 0,.bp 16 0,.bp 17 0,I j,.und,.und],[.box (x.cs.map .t),.box ae,.box [I 0,I 0,I 0,.nil],.box [.t (tL b.pl),I b.per,I b.miss,I b.skew],.arr 3 false 0 ((x.people.map Wlk.e).map .t),arI x.tags,.arr 4 false 0 [aN 10 a,aN 11 b,aN 12 d],arI x.numbers,arI x.looked,.arr 1 false 0 [.ref 13 0 p.length,.ref 14 0 p2.length,.ref 15 0 p3.length],arI a.pl,arI b.pl,arI d.pl,arI p,arI (a7 (bI x.people b.pl m p2) p2 j),arI p3,.box (az 4 x),.box [I 1,I 0,I (x.time+off),bf 18 G]]++(G.map fun g=>arI g)⟩
def Dh(x:Tru)(a b d:Rdr)(p p2 p3:List Int)(m off:Int)(q:Ex×St):Prop:=((List.range x.people.length).any (cV x.people b.pl b.miss m p2)=true∧∃(j:Nat) (rest:aj),q=(.ret,⟨[.und,I 1,I m,.und,.bp 0 0,.bp 1 0,.bp 2 0,I 43,.bp 3 0,.bp 16 0,.bp 17 0,I j,.und,.und],.box (x.cs.map .t):: .box (x.cs.map .t):: .box [I 0,I 0,I 0,.nil]::rest⟩))∨((List.range x.people.length).any (cV x.people b.pl b.miss m p2)=false∧∃st,sB x a b d p p2 p3 m off x.people.length st∧q=(.exit 0,st))
theorem LG{x:Tru}(h:x.ok){a b d:Rdr}{p p2 p3:List Int}(e1:x.readers=[a,b,d])(e2:x.missed=[p,p2,p3])(m off:Int)(j:Nat)(st:St)(hj:j<x.people.length)(hp:sB x a b d p p2 p3 m off j st):
 (∃st',eB false [0,3,7,12,13] st.H.length (exS aT K.ab st)=some st'∧sB x a b d p p2 p3 m off (j+1) st')∨∃q,exS aT K.ab st=some q∧q.1≠ .normal∧Dh x a b d p p2 p3 m off q:=by
 have n3:=h.n3
 have tl:=h.tl
 have nl:=h.nl
 have ll:=h.ll
 have t0:=h.t0
 have t1:=h.t1
 have nb:=h.nb 1 (by rw[e1];simp)
 have mb:=h.mb 1 (by rw[e1];simp)
 have m2:=h.m2 1 (by rw[e1];simp)
 have rk:nth x.readers 1=b:=by rw[e1];rfl
 have mk:nth x.missed 1=p2:=by rw[e2];rfl
 have ml:x.missed.length=3:=by rw[e2];rfl
 have rn:x.readers.length=3:=by rw[e1];rfl
 have ro:=h.r b (by rw[e1];simp)
 rw[rk,mk]at mb
 rw[mk]at m2
 obtain⟨rs,rl,rl1,rp1,rp2,rm1,rm2,rk1,rk2⟩:=ro
 have ex:(x.people.map Wlk.e)[j]?=some (nth x.people j).e:=aD _ hj
 have et:(x.tags.map (T.int .i64))[j]?=some (tI (nth x.tags j)):=aD _ (by omega)
 have hs:=qd b.pl (nth x.people j).place (by omega)
 have mbj:=mb j hj
 have wu:IntKind.u64.wrap (j:Int)=j:=km j (by omega)
 have sh:=kn m j
 have an:=fJ m j
 obtain⟨G,gl,hb,gb,rfl⟩:=hp
 have ql:=cD (bI x.people b.pl m p2) p2 j
 have qj:=iI (bI x.people b.pl m p2) p2 j j (Nat.le_refl _)
 by_cases hq:(cV x.people b.pl b.miss m p2) j=true
 · have anyb:(List.range x.people.length).any (cV x.people b.pl b.miss m p2)=true:=List.any_eq_true.2 ⟨j,List.mem_range.2 hj,hq⟩
   unfold cV bO eP at hq
   simp only[Bool.and_eq_true,decide_eq_true_eq]at hq
   obtain⟨⟨h1,h2⟩,h3⟩:=hq
   generalize a7 _ p2 j=q at*
   rw[← qj]at h3
   have nse:nth (q.set j (nth q j+1)) j=nth q j+1:=aK (by omega)
   rw[decide_eq_true h1]at hs
   have key:∃rest:aj,exS aT K.ab ⟨[.und,I 1,I m,.und,.bp 0 0,.bp 1 0,.bp 2 0,.und,.bp 3 0,.bp 16 0,.bp 17 0,I j,.und,.und],[.box (x.cs.map .t),.box ae,.box [I 0,I 0,I 0,.nil],.box [.t (tL b.pl),I b.per,I b.miss,I b.skew],.arr 3 false 0 ((x.people.map Wlk.e).map .t),arI x.tags,.arr 4 false 0 [aN 10 a,aN 11 b,aN 12 d],arI x.numbers,arI x.looked,.arr 1 false 0 [.ref 13 0 p.length,.ref 14 0 p2.length,.ref 15 0 p3.length],arI a.pl,arI b.pl,arI d.pl,arI p,arI q,arI p3,.box (az 4 x),.box [I 1,I 0,I (x.time+off),bf 18 G]]++(G.map fun g=>arI g)⟩=some (.ret,⟨[.und,I 1,I m,.und,.bp 0 0,.bp 1 0,.bp 2 0,I 43,.bp 3 0,.bp 16 0,.bp 17 0,I j,.und,.und],.box (x.cs.map .t):: .box (x.cs.map .t):: .box [I 0,I 0,I 0,.nil]::rest⟩):=by
    rcases G with _ | ⟨g,_ | ⟨g2,_ | ⟨g3,G⟩⟩⟩
    · obtain⟨⟨places,roads⟩,time,people,tags,readers,numbers,looked,missed⟩:=x
      simp only[ae,Tru.cs,az,aN,arI,bf,List.getLast?,List.getLast,List.cons_append,List.nil_append,List.map_cons,List.map_nil,LLe,tL,ml,rn,Nat.reduceAdd,Nat.reduceSub,List.length_cons,List.length_nil]at*
      simp (disch:=omega) only[go_sem,K.ab,↓reduceIte,ex,hs,wu,sh,an,h2,nse,h3,ai,List.length_set,ql,gt_iff_lt,Nat.reduceAdd,Nat.reduceSub]
      exact⟨_,rfl⟩
    · obtain⟨⟨places,roads⟩,time,people,tags,readers,numbers,looked,missed⟩:=x
      simp only[ae,Tru.cs,az,aN,arI,bf,List.getLast?,List.getLast,List.cons_append,List.nil_append,List.map_cons,List.map_nil,LLe,tL,ml,rn,Nat.reduceAdd,Nat.reduceSub,List.length_cons,List.length_nil]at*
      simp (disch:=omega) only[go_sem,K.ab,↓reduceIte,ex,hs,wu,sh,an,h2,nse,h3,ai,List.length_set,ql,gt_iff_lt,Nat.reduceAdd,Nat.reduceSub]
      exact⟨_,rfl⟩
    · obtain⟨⟨places,roads⟩,time,people,tags,readers,numbers,looked,missed⟩:=x
      simp only[ae,Tru.cs,az,aN,arI,bf,List.getLast?,List.getLast,List.cons_append,List.nil_append,List.map_cons,List.map_nil,LLe,tL,ml,rn,Nat.reduceAdd,Nat.reduceSub,List.length_cons,List.length_nil]at*
      simp (disch:=omega) only[go_sem,K.ab,↓reduceIte,ex,hs,wu,sh,an,h2,nse,h3,ai,List.length_set,ql,gt_iff_lt,Nat.reduceAdd,Nat.reduceSub]
      exact⟨_,rfl⟩
    · simp only[List.length_cons]at gl;omega
   obtain⟨rest,key⟩:=key
   exact .inr ⟨_,key,by simp,.inl ⟨anyb,j,rest,rfl⟩⟩
 · have hq:(cV x.people b.pl b.miss m p2) j=false:=by simpa using hq
   have hb2:∀i,i<j+1→(cV x.people b.pl b.miss m p2) i=false:=fun i hi=>by
    by_cases c:i=j
    · rw[c];exact hq
    · exact hb i (by omega)
   have gb2:∀g∈G,g.length≤j+1:=fun g hg=>Nat.le_succ_of_le (gb g hg)
   left
   by_cases h1:(nth x.people j).place∈b.pl
   · rw[decide_eq_true h1]at hs
     by_cases h2:sM m j=1
     · have nw:(bI x.people b.pl m p2) j=nth p2 j+1:=by unfold bI bO eP;rw[decide_eq_true h1,decide_eq_true h2];rfl
       have nl0:¬b.miss<nth p2 j+1:=by
        unfold cV bO eP at hq
        rw[decide_eq_true h1,decide_eq_true h2]at hq
        simpa using hq
       refine⟨_,?_,G,by omega,hb2,gb2,rfl⟩
       simp only[a7,nw]
       generalize a7 _ p2 j=q at*
       rw[← qj]at nl0 ⊢
       have nse:nth (q.set j (nth q j+1)) j=nth q j+1:=aK (by omega)
       rcases G with _ | ⟨g,_ | ⟨g2,_ | ⟨g3,G⟩⟩⟩
       · obtain⟨⟨places,roads⟩,time,people,tags,readers,numbers,looked,missed⟩:=x
         simp only[ae,Tru.cs,az,aN,arI,bf,List.getLast?,List.getLast,List.cons_append,List.nil_append,List.map_cons,List.map_nil,LLe,tL,ml,rn,Nat.reduceAdd,Nat.reduceSub,List.length_cons,List.length_nil]at*
         simp (disch:=omega) only[go_sem,K.ab,↓reduceIte,ex,hs,wu,sh,an,h2,nse,nl0,ai,List.length_set,ql,gt_iff_lt,Nat.reduceAdd,Nat.reduceSub]
       · obtain⟨⟨places,roads⟩,time,people,tags,readers,numbers,looked,missed⟩:=x
         simp only[ae,Tru.cs,az,aN,arI,bf,List.getLast?,List.getLast,List.cons_append,List.nil_append,List.map_cons,List.map_nil,LLe,tL,ml,rn,Nat.reduceAdd,Nat.reduceSub,List.length_cons,List.length_nil]at*
         simp (disch:=omega) only[go_sem,K.ab,↓reduceIte,ex,hs,wu,sh,an,h2,nse,nl0,ai,List.length_set,ql,gt_iff_lt,Nat.reduceAdd,Nat.reduceSub]
       · obtain⟨⟨places,roads⟩,time,people,tags,readers,numbers,looked,missed⟩:=x
         simp only[ae,Tru.cs,az,aN,arI,bf,List.getLast?,List.getLast,List.cons_append,List.nil_append,List.map_cons,List.map_nil,LLe,tL,ml,rn,Nat.reduceAdd,Nat.reduceSub,List.length_cons,List.length_nil]at*
         simp (disch:=omega) only[go_sem,K.ab,↓reduceIte,ex,hs,wu,sh,an,h2,nse,nl0,ai,List.length_set,ql,gt_iff_lt,Nat.reduceAdd,Nat.reduceSub]
       · simp only[List.length_cons]at gl;omega
     · have nw:(bI x.people b.pl m p2) j=0:=by unfold bI bO eP;rw[decide_eq_true h1,decide_eq_false h2];rfl
       have rs1:a7 (bI x.people b.pl m p2) p2 (j+1)=(a7 (bI x.people b.pl m p2) p2 j).set j 0:=by rw[a7,nw]
       unfold sB
       rw[rs1]
       generalize a7 _ p2 j=q at*
       rcases G with _ | ⟨g,_ | ⟨g2,_ | ⟨g3,G⟩⟩⟩
       · have pl:=fC ([]:List Int) (nth x.tags j)
         have fp:=di ([]:List Int) (nth x.tags j)
         have lp2:∀z0 z3 z7 z13:D,exS aT K.bk ⟨[z0,I 1,I m,z3,.bp 0 0,.bp 1 0,.bp 2 0,z7,.bp 3 0,.bp 16 0,.bp 17 0,I j,I 0,z13],[.box (x.cs.map .t),.box ae,.box [I 0,I 0,I 0,.nil],.box [.t (tL b.pl),I b.per,I b.miss,I b.skew],.arr 3 false 0 ((x.people.map Wlk.e).map .t),arI x.tags,.arr 4 false 0 [aN 10 a,aN 11 b,aN 12 d],arI x.numbers,arI x.looked,.arr 1 false 0 [.ref 13 0 p.length,.ref 14 0 p2.length,.ref 15 0 p3.length],arI a.pl,arI b.pl,arI d.pl,arI p,arI (q.set j 0),arI p3,.box (az 4 x),.box [I 1,I 0,I (x.time+off),bf 18 []]]++([]:List (List Int)).map fun g=>arI g⟩=some (.exit 2,⟨[.und,I 1,I m,.und,.bp 0 0,.bp 1 0,.bp 2 0,.und,.bp 3 0,.bp 16 0,.bp 17 0,I j,I (fm ([]:List Int) (nth x.tags j)),.und],[.box (x.cs.map .t),.box ae,.box [I 0,I 0,I 0,.nil],.box [.t (tL b.pl),I b.per,I b.miss,I b.skew],.arr 3 false 0 ((x.people.map Wlk.e).map .t),arI x.tags,.arr 4 false 0 [aN 10 a,aN 11 b,aN 12 d],arI x.numbers,arI x.looked,.arr 1 false 0 [.ref 13 0 p.length,.ref 14 0 p2.length,.ref 15 0 p3.length],arI a.pl,arI b.pl,arI d.pl,arI p,arI (q.set j 0),arI p3,.box (az 4 x),.box [I 1,I 0,I (x.time+off),bf 18 []]]++([]:List (List Int)).map fun g=>arI g⟩):=by
          intro z0 z3 z7 z13
          refine bV (fun i=>⟨[.und,I 1,I m,.und,.bp 0 0,.bp 1 0,.bp 2 0,.und,.bp 3 0,.bp 16 0,.bp 17 0,I j,I i,.und],[.box (x.cs.map .t),.box ae,.box [I 0,I 0,I 0,.nil],.box [.t (tL b.pl),I b.per,I b.miss,I b.skew],.arr 3 false 0 ((x.people.map Wlk.e).map .t),arI x.tags,.arr 4 false 0 [aN 10 a,aN 11 b,aN 12 d],arI x.numbers,arI x.looked,.arr 1 false 0 [.ref 13 0 p.length,.ref 14 0 p2.length,.ref 15 0 p3.length],arI a.pl,arI b.pl,arI d.pl,arI p,arI (q.set j 0),arI p3,.box (az 4 x),.box [I 1,I 0,I (x.time+off),bf 18 []]]++([]:List (List Int)).map fun g=>arI g⟩) (fm ([]:List Int) (nth x.tags j)) rfl ?_ ?_ (by simp)
          · intro i hi
            exact absurd hi (by simp only[List.length_nil]at pl;omega)
          · generalize fm ([]:List Int) (nth x.tags j)=i at*
            have i0:i=0:=by simp only[List.length_nil]at pl;omega
            subst i0
            obtain⟨⟨places,roads⟩,time,people,tags,readers,numbers,looked,missed⟩:=x
            simp only[ae,Tru.cs,az,aN,arI,bf,List.getLast?,List.getLast,List.cons_append,List.nil_append,List.map_cons,List.map_nil,LLe,tL,ml,rn,Nat.reduceAdd,Nat.reduceSub,List.length_cons,List.length_nil]at*
            simp (disch:=omega) only[go_sem,K.aA,↓reduceIte,et,Nat.reduceAdd,Nat.reduceSub]
         refine⟨_,?_,[]++[(kY ([]:List Int) (nth x.tags j))],by simp only[List.length_append,List.length_cons,List.length_nil]at *;omega,hb2,?_,rfl⟩
         · unfold kY
           generalize fm ([]:List Int) (nth x.tags j)=i at*
           obtain⟨⟨places,roads⟩,time,people,tags,readers,numbers,looked,missed⟩:=x
           simp only[ae,Tru.cs,az,aN,arI,bf,List.getLast?,List.getLast,List.cons_append,List.nil_append,List.map_cons,List.map_nil,LLe,tL,ml,rn,Nat.reduceAdd,Nat.reduceSub,List.length_cons,List.length_nil]at*
           simp (disch:=omega) only[go_sem,K.ab,↓reduceIte,ex,et,hs,wu,sh,an,h2,lp2,ai,List.length_set,ql,List.map_append,List.map_cons,List.map_nil,List.length_append,List.length_take,List.length_drop,List.length_singleton,List.length_map,Nat.reduceAdd,Nat.reduceSub]
         · intro g4 hg
           simp only[List.mem_append,List.mem_cons,List.not_mem_nil,or_false,false_or]at hg
           rw[hg,dZ];simp
       · have pl:=fC g (nth x.tags j)
         have fp:=di g (nth x.tags j)
         have tgl:=gb g (by simp)
         have lp2:∀z0 z3 z7 z13:D,exS aT K.bk ⟨[z0,I 1,I m,z3,.bp 0 0,.bp 1 0,.bp 2 0,z7,.bp 3 0,.bp 16 0,.bp 17 0,I j,I 0,z13],[.box (x.cs.map .t),.box ae,.box [I 0,I 0,I 0,.nil],.box [.t (tL b.pl),I b.per,I b.miss,I b.skew],.arr 3 false 0 ((x.people.map Wlk.e).map .t),arI x.tags,.arr 4 false 0 [aN 10 a,aN 11 b,aN 12 d],arI x.numbers,arI x.looked,.arr 1 false 0 [.ref 13 0 p.length,.ref 14 0 p2.length,.ref 15 0 p3.length],arI a.pl,arI b.pl,arI d.pl,arI p,arI (q.set j 0),arI p3,.box (az 4 x),.box [I 1,I 0,I (x.time+off),bf 18 [g]]]++([g]:List (List Int)).map fun g=>arI g⟩=some (.exit 2,⟨[.und,I 1,I m,.und,.bp 0 0,.bp 1 0,.bp 2 0,.und,.bp 3 0,.bp 16 0,.bp 17 0,I j,I (fm g (nth x.tags j)),.und],[.box (x.cs.map .t),.box ae,.box [I 0,I 0,I 0,.nil],.box [.t (tL b.pl),I b.per,I b.miss,I b.skew],.arr 3 false 0 ((x.people.map Wlk.e).map .t),arI x.tags,.arr 4 false 0 [aN 10 a,aN 11 b,aN 12 d],arI x.numbers,arI x.looked,.arr 1 false 0 [.ref 13 0 p.length,.ref 14 0 p2.length,.ref 15 0 p3.length],arI a.pl,arI b.pl,arI d.pl,arI p,arI (q.set j 0),arI p3,.box (az 4 x),.box [I 1,I 0,I (x.time+off),bf 18 [g]]]++([g]:List (List Int)).map fun g=>arI g⟩):=by
          intro z0 z3 z7 z13
          refine bV (fun i=>⟨[.und,I 1,I m,.und,.bp 0 0,.bp 1 0,.bp 2 0,.und,.bp 3 0,.bp 16 0,.bp 17 0,I j,I i,.und],[.box (x.cs.map .t),.box ae,.box [I 0,I 0,I 0,.nil],.box [.t (tL b.pl),I b.per,I b.miss,I b.skew],.arr 3 false 0 ((x.people.map Wlk.e).map .t),arI x.tags,.arr 4 false 0 [aN 10 a,aN 11 b,aN 12 d],arI x.numbers,arI x.looked,.arr 1 false 0 [.ref 13 0 p.length,.ref 14 0 p2.length,.ref 15 0 p3.length],arI a.pl,arI b.pl,arI d.pl,arI p,arI (q.set j 0),arI p3,.box (az 4 x),.box [I 1,I 0,I (x.time+off),bf 18 [g]]]++([g]:List (List Int)).map fun g=>arI g⟩) (fm g (nth x.tags j)) rfl ?_ ?_ (by simp)
          · intro i hi
            have lt:=fp.1 i hi
            have eg:(g.map (T.int .i64))[i]?=some (tI (nth g i)):=aD _ (by omega)
            obtain⟨⟨places,roads⟩,time,people,tags,readers,numbers,looked,missed⟩:=x
            simp only[ae,Tru.cs,az,aN,arI,bf,List.getLast?,List.getLast,List.cons_append,List.nil_append,List.map_cons,List.map_nil,LLe,tL,ml,rn,Nat.reduceAdd,Nat.reduceSub,List.length_cons,List.length_nil]at*
            simp (disch:=omega) only[go_sem,K.aA,↓reduceIte,eg,et,lt,List.length_map,Nat.reduceAdd,Nat.reduceSub]
          · generalize fm g (nth x.tags j)=i at*
            have eg:=fun hi:i<g.length=>(aD _ hi:(g.map (T.int .i64))[i]?=some (tI (nth g i)))
            obtain⟨⟨places,roads⟩,time,people,tags,readers,numbers,looked,missed⟩:=x
            simp only[ae,Tru.cs,az,aN,arI,bf,List.getLast?,List.getLast,List.cons_append,List.nil_append,List.map_cons,List.map_nil,LLe,tL,ml,rn,Nat.reduceAdd,Nat.reduceSub,List.length_cons,List.length_nil]at*
            by_cases hi:i<g.length
            · have lt:=fp.2 hi
              have eg:=eg hi
              simp (disch:=omega) only[go_sem,K.aA,↓reduceIte,eg,et,lt,hi,List.length_map,Nat.reduceAdd,Nat.reduceSub]
            · simp (disch:=omega) only[go_sem,K.aA,↓reduceIte,hi,List.length_map,Nat.reduceAdd,Nat.reduceSub]
         refine⟨_,?_,[g]++[(kY g (nth x.tags j))],by simp only[List.length_append,List.length_cons,List.length_nil]at *;omega,hb2,?_,rfl⟩
         · unfold kY
           generalize fm g (nth x.tags j)=i at*
           obtain⟨⟨places,roads⟩,time,people,tags,readers,numbers,looked,missed⟩:=x
           simp only[ae,Tru.cs,az,aN,arI,bf,List.getLast?,List.getLast,List.cons_append,List.nil_append,List.map_cons,List.map_nil,LLe,tL,ml,rn,Nat.reduceAdd,Nat.reduceSub,List.length_cons,List.length_nil]at*
           simp (disch:=omega) only[go_sem,K.ab,↓reduceIte,ex,et,hs,wu,sh,an,h2,lp2,ai,List.length_set,ql,List.map_append,List.map_cons,List.map_nil,List.length_append,List.length_take,List.length_drop,List.length_singleton,List.length_map,iZ,gM,Nat.reduceAdd,Nat.reduceSub]
           simp only[List.map_append,List.map_take,List.map_drop,List.map_cons,List.map_nil,Nat.min_self,Nat.sub_zero,cM]
         · intro g4 hg
           simp only[List.mem_append,List.mem_cons,List.not_mem_nil,or_false,false_or]at hg
           rcases hg with hg | hg
           · rw[hg];exact gb2 _ (by simp)
           · rw[hg,dZ];omega
       · have pl:=fC g2 (nth x.tags j)
         have fp:=di g2 (nth x.tags j)
         have tgl:=gb g2 (by simp)
         have lp2:∀z0 z3 z7 z13:D,exS aT K.bk ⟨[z0,I 1,I m,z3,.bp 0 0,.bp 1 0,.bp 2 0,z7,.bp 3 0,.bp 16 0,.bp 17 0,I j,I 0,z13],[.box (x.cs.map .t),.box ae,.box [I 0,I 0,I 0,.nil],.box [.t (tL b.pl),I b.per,I b.miss,I b.skew],.arr 3 false 0 ((x.people.map Wlk.e).map .t),arI x.tags,.arr 4 false 0 [aN 10 a,aN 11 b,aN 12 d],arI x.numbers,arI x.looked,.arr 1 false 0 [.ref 13 0 p.length,.ref 14 0 p2.length,.ref 15 0 p3.length],arI a.pl,arI b.pl,arI d.pl,arI p,arI (q.set j 0),arI p3,.box (az 4 x),.box [I 1,I 0,I (x.time+off),bf 18 [g,g2]]]++([g,g2]:List (List Int)).map fun g=>arI g⟩=some (.exit 2,⟨[.und,I 1,I m,.und,.bp 0 0,.bp 1 0,.bp 2 0,.und,.bp 3 0,.bp 16 0,.bp 17 0,I j,I (fm g2 (nth x.tags j)),.und],[.box (x.cs.map .t),.box ae,.box [I 0,I 0,I 0,.nil],.box [.t (tL b.pl),I b.per,I b.miss,I b.skew],.arr 3 false 0 ((x.people.map Wlk.e).map .t),arI x.tags,.arr 4 false 0 [aN 10 a,aN 11 b,aN 12 d],arI x.numbers,arI x.looked,.arr 1 false 0 [.ref 13 0 p.length,.ref 14 0 p2.length,.ref 15 0 p3.length],arI a.pl,arI b.pl,arI d.pl,arI p,arI (q.set j 0),arI p3,.box (az 4 x),.box [I 1,I 0,I (x.time+off),bf 18 [g,g2]]]++([g,g2]:List (List Int)).map fun g=>arI g⟩):=by
          intro z0 z3 z7 z13
          refine bV (fun i=>⟨[.und,I 1,I m,.und,.bp 0 0,.bp 1 0,.bp 2 0,.und,.bp 3 0,.bp 16 0,.bp 17 0,I j,I i,.und],[.box (x.cs.map .t),.box ae,.box [I 0,I 0,I 0,.nil],.box [.t (tL b.pl),I b.per,I b.miss,I b.skew],.arr 3 false 0 ((x.people.map Wlk.e).map .t),arI x.tags,.arr 4 false 0 [aN 10 a,aN 11 b,aN 12 d],arI x.numbers,arI x.looked,.arr 1 false 0 [.ref 13 0 p.length,.ref 14 0 p2.length,.ref 15 0 p3.length],arI a.pl,arI b.pl,arI d.pl,arI p,arI (q.set j 0),arI p3,.box (az 4 x),.box [I 1,I 0,I (x.time+off),bf 18 [g,g2]]]++([g,g2]:List (List Int)).map fun g=>arI g⟩) (fm g2 (nth x.tags j)) rfl ?_ ?_ (by simp)
          · intro i hi
            have lt:=fp.1 i hi
            have eg:(g2.map (T.int .i64))[i]?=some (tI (nth g2 i)):=aD _ (by omega)
            obtain⟨⟨places,roads⟩,time,people,tags,readers,numbers,looked,missed⟩:=x
            simp only[ae,Tru.cs,az,aN,arI,bf,List.getLast?,List.getLast,List.cons_append,List.nil_append,List.map_cons,List.map_nil,LLe,tL,ml,rn,Nat.reduceAdd,Nat.reduceSub,List.length_cons,List.length_nil]at*
            simp (disch:=omega) only[go_sem,K.aA,↓reduceIte,eg,et,lt,List.length_map,Nat.reduceAdd,Nat.reduceSub]
          · generalize fm g2 (nth x.tags j)=i at*
            have eg:=fun hi:i<g2.length=>(aD _ hi:(g2.map (T.int .i64))[i]?=some (tI (nth g2 i)))
            obtain⟨⟨places,roads⟩,time,people,tags,readers,numbers,looked,missed⟩:=x
            simp only[ae,Tru.cs,az,aN,arI,bf,List.getLast?,List.getLast,List.cons_append,List.nil_append,List.map_cons,List.map_nil,LLe,tL,ml,rn,Nat.reduceAdd,Nat.reduceSub,List.length_cons,List.length_nil]at*
            by_cases hi:i<g2.length
            · have lt:=fp.2 hi
              have eg:=eg hi
              simp (disch:=omega) only[go_sem,K.aA,↓reduceIte,eg,et,lt,hi,List.length_map,Nat.reduceAdd,Nat.reduceSub]
            · simp (disch:=omega) only[go_sem,K.aA,↓reduceIte,hi,List.length_map,Nat.reduceAdd,Nat.reduceSub]
         refine⟨_,?_,[g,g2]++[(kY g2 (nth x.tags j))],by simp only[List.length_append,List.length_cons,List.length_nil]at *;omega,hb2,?_,rfl⟩
         · unfold kY
           generalize fm g2 (nth x.tags j)=i at*
           obtain⟨⟨places,roads⟩,time,people,tags,readers,numbers,looked,missed⟩:=x
           simp only[ae,Tru.cs,az,aN,arI,bf,List.getLast?,List.getLast,List.cons_append,List.nil_append,List.map_cons,List.map_nil,LLe,tL,ml,rn,Nat.reduceAdd,Nat.reduceSub,List.length_cons,List.length_nil]at*
           simp (disch:=omega) only[go_sem,K.ab,↓reduceIte,ex,et,hs,wu,sh,an,h2,lp2,ai,List.length_set,ql,List.map_append,List.map_cons,List.map_nil,List.length_append,List.length_take,List.length_drop,List.length_singleton,List.length_map,iZ,gM,Nat.reduceAdd,Nat.reduceSub]
           simp only[List.map_append,List.map_take,List.map_drop,List.map_cons,List.map_nil,Nat.min_self,Nat.sub_zero,cM]
         · intro g4 hg
           simp only[List.mem_append,List.mem_cons,List.not_mem_nil,or_false,false_or]at hg
           rcases hg with(hg | hg) | hg
           · rw[hg];exact gb2 _ (by simp)
           · rw[hg];exact gb2 _ (by simp)
           · rw[hg,dZ];omega
       · simp only[List.length_cons]at gl;omega
   · have nw:(bI x.people b.pl m p2) j=0:=by unfold bI bO eP;rw[decide_eq_false h1];rfl
     rw[decide_eq_false h1]at hs
     refine⟨_,?_,G,by omega,hb2,gb2,rfl⟩
     simp only[a7,nw]
     generalize a7 _ p2 j=q at*
     rcases G with _ | ⟨g,_ | ⟨g2,_ | ⟨g3,G⟩⟩⟩
     · obtain⟨⟨places,roads⟩,time,people,tags,readers,numbers,looked,missed⟩:=x
       simp only[ae,Tru.cs,az,aN,arI,bf,List.getLast?,List.getLast,List.cons_append,List.nil_append,List.map_cons,List.map_nil,LLe,tL,ml,rn,Nat.reduceAdd,Nat.reduceSub,List.length_cons,List.length_nil]at*
       simp (disch:=omega) only[go_sem,K.ab,↓reduceIte,ex,hs,ai,List.length_set,ql,Nat.reduceAdd,Nat.reduceSub]
     · obtain⟨⟨places,roads⟩,time,people,tags,readers,numbers,looked,missed⟩:=x
       simp only[ae,Tru.cs,az,aN,arI,bf,List.getLast?,List.getLast,List.cons_append,List.nil_append,List.map_cons,List.map_nil,LLe,tL,ml,rn,Nat.reduceAdd,Nat.reduceSub,List.length_cons,List.length_nil]at*
       simp (disch:=omega) only[go_sem,K.ab,↓reduceIte,ex,hs,ai,List.length_set,ql,Nat.reduceAdd,Nat.reduceSub]
     · obtain⟨⟨places,roads⟩,time,people,tags,readers,numbers,looked,missed⟩:=x
       simp only[ae,Tru.cs,az,aN,arI,bf,List.getLast?,List.getLast,List.cons_append,List.nil_append,List.map_cons,List.map_nil,LLe,tL,ml,rn,Nat.reduceAdd,Nat.reduceSub,List.length_cons,List.length_nil]at*
       simp (disch:=omega) only[go_sem,K.ab,↓reduceIte,ex,hs,ai,List.length_set,ql,Nat.reduceAdd,Nat.reduceSub]
     · simp only[List.length_cons]at gl;omega
theorem LH{x:Tru}(h:x.ok){a b d:Rdr}{p p2 p3:List Int}(e1:x.readers=[a,b,d])(e2:x.missed=[p,p2,p3])(m off:Int)(z0 z3 z7 z12 z13:D):∃q,exS aT K.fA ⟨[z0,I 1,I m,z3,.bp 0 0,.bp 1 0,.bp 2 0,z7,.bp 3 0,.bp 16 0,.bp 17 0,I 0,z12,z13],[.box (x.cs.map .t),.box ae,.box [I 0,I 0,I 0,.nil],.box [.t (tL b.pl),I b.per,I b.miss,I b.skew],.arr 3 false 0 ((x.people.map Wlk.e).map .t),arI x.tags,.arr 4 false 0 [aN 10 a,aN 11 b,aN 12 d],arI x.numbers,arI x.looked,.arr 1 false 0 [.ref 13 0 p.length,.ref 14 0 p2.length,.ref 15 0 p3.length],arI a.pl,arI b.pl,arI d.pl,arI p,arI p2,arI p3,.box (az 4 x),.box [I 1,I 0,I (x.time+off),.nil]]⟩=some q∧Dh x a b d p p2 p3 m off q:=by
 have n3:=h.n3
 have tl:=h.tl
 have nl:=h.nl
 have ll:=h.ll
 have t0:=h.t0
 have t1:=h.t1
 have nb:=h.nb 1 (by rw[e1];simp)
 have mb:=h.mb 1 (by rw[e1];simp)
 have m2:=h.m2 1 (by rw[e1];simp)
 have rk:nth x.readers 1=b:=by rw[e1];rfl
 have mk:nth x.missed 1=p2:=by rw[e2];rfl
 have ml:x.missed.length=3:=by rw[e2];rfl
 have rn:x.readers.length=3:=by rw[e1];rfl
 have ro:=h.r b (by rw[e1];simp)
 rw[rk,mk]at mb
 rw[mk]at m2
 obtain⟨rs,rl,rl1,rp1,rp2,rm1,rm2,rk1,rk2⟩:=ro
 refine fI (sB x a b d p p2 p3 m off) x.people.length _ ⟨[],Nat.le_refl _,fun i hi=>absurd hi (by omega),fun g hg=>absurd hg (by simp),rfl⟩ (fun j st hj hp=>LG h e1 e2 m off j st hj hp) ?_
 intro st hp
 refine⟨(.exit 0,st),?_,by simp,.inr ⟨?_,st,hp,rfl⟩⟩
 · obtain⟨G,gl,hb,gb,rfl⟩:=hp
   generalize a7 _ p2 _=q at*
   rcases G with _ | ⟨g,_ | ⟨g2,_ | ⟨g3,_ | ⟨g4,G⟩⟩⟩⟩
   · obtain⟨⟨places,roads⟩,time,people,tags,readers,numbers,looked,missed⟩:=x
     simp only[ae,Tru.cs,az,aN,arI,bf,List.getLast?,List.getLast,List.cons_append,List.nil_append,List.map_cons,List.map_nil,LLe,tL,ml,rn,Nat.reduceAdd,Nat.reduceSub,List.length_cons,List.length_nil]at*
     simp (disch:=omega) only[go_sem,K.ab,↓reduceIte,Nat.reduceAdd,Nat.reduceSub]
   · obtain⟨⟨places,roads⟩,time,people,tags,readers,numbers,looked,missed⟩:=x
     simp only[ae,Tru.cs,az,aN,arI,bf,List.getLast?,List.getLast,List.cons_append,List.nil_append,List.map_cons,List.map_nil,LLe,tL,ml,rn,Nat.reduceAdd,Nat.reduceSub,List.length_cons,List.length_nil]at*
     simp (disch:=omega) only[go_sem,K.ab,↓reduceIte,Nat.reduceAdd,Nat.reduceSub]
   · obtain⟨⟨places,roads⟩,time,people,tags,readers,numbers,looked,missed⟩:=x
     simp only[ae,Tru.cs,az,aN,arI,bf,List.getLast?,List.getLast,List.cons_append,List.nil_append,List.map_cons,List.map_nil,LLe,tL,ml,rn,Nat.reduceAdd,Nat.reduceSub,List.length_cons,List.length_nil]at*
     simp (disch:=omega) only[go_sem,K.ab,↓reduceIte,Nat.reduceAdd,Nat.reduceSub]
   · obtain⟨⟨places,roads⟩,time,people,tags,readers,numbers,looked,missed⟩:=x
     simp only[ae,Tru.cs,az,aN,arI,bf,List.getLast?,List.getLast,List.cons_append,List.nil_append,List.map_cons,List.map_nil,LLe,tL,ml,rn,Nat.reduceAdd,Nat.reduceSub,List.length_cons,List.length_nil]at*
     simp (disch:=omega) only[go_sem,K.ab,↓reduceIte,Nat.reduceAdd,Nat.reduceSub]
   · simp only[List.length_cons]at gl;omega
 · obtain⟨G,gl,hb,gb,rfl⟩:=hp
   rw[List.any_eq_false]
   intro i hi
   rw[hb i (List.mem_range.1 hi)]
   decide
set_option maxHeartbeats 4000000 in
theorem Di{x:Tru}(h:x.ok){a b d:Rdr}{p p2 p3:List Int}(e1:x.readers=[a,b,d])(e2:x.missed=[p,p2,p3])(m off:Int)(o1: -b.skew≤off)(o2:off≤b.skew)(o3:0≤x.time+off)(o4:x.time+off≤2147483648):
 ∃r e,aT 0 N.ah [.t x.e,I 1,I m,I off] []=some (.tup [.t (if nQ x 1 m then x else du x 1 m).e,.t r,I e],[]):=by
 have n3:=h.n3
 have tl:=h.tl
 have nl:=h.nl
 have ll:=h.ll
 have t0:=h.t0
 have t1:=h.t1
 have nb:=h.nb 1 (by rw[e1];simp)
 have mb:=h.mb 1 (by rw[e1];simp)
 have m2:=h.m2 1 (by rw[e1];simp)
 have rk:nth x.readers 1=b:=by rw[e1];rfl
 have mk:nth x.missed 1=p2:=by rw[e2];rfl
 have ml:x.missed.length=3:=by rw[e2];rfl
 have rn:x.readers.length=3:=by rw[e1];rfl
 have ro:=h.r b (by rw[e1];simp)
 rw[rk,mk]at mb
 rw[mk]at m2
 obtain⟨rs,rl,rl1,rp1,rp2,rm1,rm2,rk1,rk2⟩:=ro
 have sz:=h.sz
 have cp0:=fB x sz
 have cp:=mC sz e1 e2
 have va:=dV h
 have lpL:=LH h e1 e2 m off
 have scl:∀(y:Tru) (r:T) (v:Int),([D.t y.e,D.t r,I v].all bz)=false:=fun _ _ _=>rfl
 unfold nQ du lg
 rw[rk,mk]
 by_cases bq:(List.range x.people.length).any (cV x.people b.pl b.miss m p2)=true
 · rw[if_pos bq]
   refine⟨dJ 0 0 0 [],43,aB K.aP rfl ?_⟩
   obtain⟨⟨places,roads⟩,time,people,tags,readers,numbers,looked,missed⟩:=x
   subst e1 e2
   simp only[Tru.e,Tru.cs,ae,dE,az,dW,List.map_cons,List.map_nil,LLe,tL,arI,aN,tLL,Rdr.e]at*
   simp (disch:=omega) only[go_sem,K.ah,↓reduceIte,cp0,cp,va,gt_iff_lt,Nat.reduceAdd,Nat.reduceSub]
   refine b7 _ (lpL _ _ _ _ _) ?_
   rintro q (⟨_,j,rest,rfl⟩ | ⟨n,_⟩)
   · simp (disch:=omega) only[go_sem,K.ah,↓reduceIte,scl,Nat.reduceAdd,Nat.reduceSub]
     rfl
   · rw[n]at bq;cases bq
 · rw[if_neg bq]
   have en:(x.numbers.map (T.int .i64))[1]?=some (tI (nth x.numbers 1)):=aD _ (by omega)
   have el:(x.looked.map (T.int .i64))[1]?=some (tI (nth x.looked 1)):=aD _ (by omega)
   generalize nth x.numbers 1=nu at*
   generalize nth x.looked 1=lo at*
   obtain⟨q,hq,hQ⟩:=lpL (.t x.e) (I off) (I 0) .und .und
   rcases hQ with⟨n,_⟩ | ⟨_,st,⟨G,gl,hb,gb,rfl⟩,rfl⟩
   · exact absurd n bq
   have wl:=cD (bI x.people b.pl m p2) p2 x.people.length
   have ns:∀v:Int,nth (x.numbers.set 1 v) 1=v:=fun v=>aK (by omega)
   generalize a7 _ p2 _=w at*
   rcases G with _ | ⟨g,_ | ⟨g2,_ | ⟨g3,_ | ⟨g4,G⟩⟩⟩⟩
   · refine⟨dJ 1 ((nu+if 0≤lo∧b.per<x.time-lo then 2 else 1).tmod 65536) (x.time+off) [],0,aB K.aP rfl ?_⟩
     obtain⟨⟨places,roads⟩,time,people,tags,readers,numbers,looked,missed⟩:=x
     subst e1 e2
     simp only[ae,Tru.e,Tru.cs,dJ,dE,az,dW,aN,arI,tLL,Rdr.e,bf,List.cons_append,List.nil_append,List.map_cons,List.map_nil,LLe,tL,Nat.reduceAdd,Nat.reduceSub,List.length_cons,List.length_nil]at*
     by_cases ca:0≤lo
     · by_cases cb:b.per<time-lo
       · rw[if_pos ⟨ca,cb⟩]
         simp (disch:=omega) only[go_sem,K.ah,↓reduceIte,cp0,cp,va,hq,en,el,ca,cb,gt_iff_lt,ai,scl,ns,wl,List.length_set,Nat.reduceAdd,Nat.reduceSub]
       · rw[if_neg (fun e=>cb e.2)]
         simp (disch:=omega) only[go_sem,K.ah,↓reduceIte,cp0,cp,va,hq,en,el,ca,cb,gt_iff_lt,ai,scl,ns,wl,List.length_set,Nat.reduceAdd,Nat.reduceSub]
     · rw[if_neg (fun e=>ca e.1)]
       simp (disch:=omega) only[go_sem,K.ah,↓reduceIte,cp0,cp,va,hq,en,el,ca,gt_iff_lt,ai,scl,ns,wl,List.length_set,Nat.reduceAdd,Nat.reduceSub]
   · refine⟨dJ 1 ((nu+if 0≤lo∧b.per<x.time-lo then 2 else 1).tmod 65536) (x.time+off) g,0,aB K.aP rfl ?_⟩
     obtain⟨⟨places,roads⟩,time,people,tags,readers,numbers,looked,missed⟩:=x
     subst e1 e2
     simp only[ae,Tru.e,Tru.cs,dJ,dE,az,dW,aN,arI,tLL,Rdr.e,bf,List.cons_append,List.nil_append,List.map_cons,List.map_nil,LLe,tL,Nat.reduceAdd,Nat.reduceSub,List.length_cons,List.length_nil]at*
     by_cases ca:0≤lo
     · by_cases cb:b.per<time-lo
       · rw[if_pos ⟨ca,cb⟩]
         simp (disch:=omega) only[go_sem,K.ah,↓reduceIte,cp0,cp,va,hq,en,el,ca,cb,gt_iff_lt,ai,scl,ns,wl,List.length_set,Nat.reduceAdd,Nat.reduceSub]
       · rw[if_neg (fun e=>cb e.2)]
         simp (disch:=omega) only[go_sem,K.ah,↓reduceIte,cp0,cp,va,hq,en,el,ca,cb,gt_iff_lt,ai,scl,ns,wl,List.length_set,Nat.reduceAdd,Nat.reduceSub]
     · rw[if_neg (fun e=>ca e.1)]
       simp (disch:=omega) only[go_sem,K.ah,↓reduceIte,cp0,cp,va,hq,en,el,ca,gt_iff_lt,ai,scl,ns,wl,List.length_set,Nat.reduceAdd,Nat.reduceSub]
   · refine⟨dJ 1 ((nu+if 0≤lo∧b.per<x.time-lo then 2 else 1).tmod 65536) (x.time+off) g2,0,aB K.aP rfl ?_⟩
     obtain⟨⟨places,roads⟩,time,people,tags,readers,numbers,looked,missed⟩:=x
     subst e1 e2
     simp only[ae,Tru.e,Tru.cs,dJ,dE,az,dW,aN,arI,tLL,Rdr.e,bf,List.cons_append,List.nil_append,List.map_cons,List.map_nil,LLe,tL,Nat.reduceAdd,Nat.reduceSub,List.length_cons,List.length_nil]at*
     by_cases ca:0≤lo
     · by_cases cb:b.per<time-lo
       · rw[if_pos ⟨ca,cb⟩]
         simp (disch:=omega) only[go_sem,K.ah,↓reduceIte,cp0,cp,va,hq,en,el,ca,cb,gt_iff_lt,ai,scl,ns,wl,List.length_set,Nat.reduceAdd,Nat.reduceSub]
       · rw[if_neg (fun e=>cb e.2)]
         simp (disch:=omega) only[go_sem,K.ah,↓reduceIte,cp0,cp,va,hq,en,el,ca,cb,gt_iff_lt,ai,scl,ns,wl,List.length_set,Nat.reduceAdd,Nat.reduceSub]
     · rw[if_neg (fun e=>ca e.1)]
       simp (disch:=omega) only[go_sem,K.ah,↓reduceIte,cp0,cp,va,hq,en,el,ca,gt_iff_lt,ai,scl,ns,wl,List.length_set,Nat.reduceAdd,Nat.reduceSub]
   · refine⟨dJ 1 ((nu+if 0≤lo∧b.per<x.time-lo then 2 else 1).tmod 65536) (x.time+off) g3,0,aB K.aP rfl ?_⟩
     obtain⟨⟨places,roads⟩,time,people,tags,readers,numbers,looked,missed⟩:=x
     subst e1 e2
     simp only[ae,Tru.e,Tru.cs,dJ,dE,az,dW,aN,arI,tLL,Rdr.e,bf,List.cons_append,List.nil_append,List.map_cons,List.map_nil,LLe,tL,Nat.reduceAdd,Nat.reduceSub,List.length_cons,List.length_nil]at*
     by_cases ca:0≤lo
     · by_cases cb:b.per<time-lo
       · rw[if_pos ⟨ca,cb⟩]
         simp (disch:=omega) only[go_sem,K.ah,↓reduceIte,cp0,cp,va,hq,en,el,ca,cb,gt_iff_lt,ai,scl,ns,wl,List.length_set,Nat.reduceAdd,Nat.reduceSub]
       · rw[if_neg (fun e=>cb e.2)]
         simp (disch:=omega) only[go_sem,K.ah,↓reduceIte,cp0,cp,va,hq,en,el,ca,cb,gt_iff_lt,ai,scl,ns,wl,List.length_set,Nat.reduceAdd,Nat.reduceSub]
     · rw[if_neg (fun e=>ca e.1)]
       simp (disch:=omega) only[go_sem,K.ah,↓reduceIte,cp0,cp,va,hq,en,el,ca,gt_iff_lt,ai,scl,ns,wl,List.length_set,Nat.reduceAdd,Nat.reduceSub]
   · simp only[List.length_cons]at gl;omega
def sC(x:Tru)(a b d:Rdr)(p p2 p3:List Int)(m off:Int)(j:Nat)(st:St):Prop:=∃G:List (List Int),G.length≤j∧(∀i,i<j→(cV x.people d.pl d.miss m p3) i=false)∧(∀g∈G,g.length≤j)∧st=⟨[.und,I 2,I m,.und,.bp 0 0,.bp 1 0,.bp 2 0,.und,.bp 3 0,.bp 16 0,.bp 17 0,I j,.und,.und],[.box (x.cs.map .t),.box ae,.box [I 0,I 0,I 0,.nil],.box [.t (tL d.pl),I d.per,I d.miss,I d.skew],.arr 3 false 0 ((x.people.map Wlk.e).map .t),arI x.tags,.arr 4 false 0 [aN 10 a,aN 11 b,aN 12 d],arI x.numbers,arI x.looked,.arr 1 false 0 [.ref 13 0 p.length,.ref 14 0 p2.length,.ref 15 0 p3.length],arI a.pl,arI b.pl,arI d.pl,arI p,arI p2,arI (a7 (bI x.people d.pl m p3) p3 j),.box (az 4 x),.box [I 2,I 0,I (x.time+off),bf 18 G]]++(G.map fun g=>arI g)⟩
def Dj(x:Tru)(a b d:Rdr)(p p2 p3:List Int)(m off:Int)(q:Ex×St):Prop:=((List.range x.people.length).any (cV x.people d.pl d.miss m p3)=true∧∃(j:Nat) (rest:aj),q=(.ret,⟨[.und,I 2,I m,.und,.bp 0 0,.bp 1 0,.bp 2 0,I 43,.bp 3 0,.bp 16 0,.bp 17 0,I j,.und,.und],.box (x.cs.map .t):: .box (x.cs.map .t):: .box [I 0,I 0,I 0,.nil]::rest⟩))∨((List.range x.people.length).any (cV x.people d.pl d.miss m p3)=false∧∃st,sC x a b d p p2 p3 m off x.people.length st∧q=(.exit 0,st))
theorem LI{x:Tru}(h:x.ok){a b d:Rdr}{p p2 p3:List Int}(e1:x.readers=[a,b,d])(e2:x.missed=[p,p2,p3])(m off:Int)(j:Nat)(st:St)(hj:j<x.people.length)(hp:sC x a b d p p2 p3 m off j st):
 (∃st',eB false [0,3,7,12,13] st.H.length (exS aT K.ab st)=some st'∧sC x a b d p p2 p3 m off (j+1) st')∨∃q,exS aT K.ab st=some q∧q.1≠ .normal∧Dj x a b d p p2 p3 m off q:=by
 have n3:=h.n3
 have tl:=h.tl
 have nl:=h.nl
 have ll:=h.ll
 have t0:=h.t0
 have t1:=h.t1
 have nb:=h.nb 2 (by rw[e1];simp)
 have mb:=h.mb 2 (by rw[e1];simp)
 have m2:=h.m2 2 (by rw[e1];simp)
 have rk:nth x.readers 2=d:=by rw[e1];rfl
 have mk:nth x.missed 2=p3:=by rw[e2];rfl
 have ml:x.missed.length=3:=by rw[e2];rfl
 have rn:x.readers.length=3:=by rw[e1];rfl
 have ro:=h.r d (by rw[e1];simp)
 rw[rk,mk]at mb
 rw[mk]at m2
 obtain⟨rs,rl,rl1,rp1,rp2,rm1,rm2,rk1,rk2⟩:=ro
 have ex:(x.people.map Wlk.e)[j]?=some (nth x.people j).e:=aD _ hj
 have et:(x.tags.map (T.int .i64))[j]?=some (tI (nth x.tags j)):=aD _ (by omega)
 have hs:=qd d.pl (nth x.people j).place (by omega)
 have mbj:=mb j hj
 have wu:IntKind.u64.wrap (j:Int)=j:=km j (by omega)
 have sh:=kn m j
 have an:=fJ m j
 obtain⟨G,gl,hb,gb,rfl⟩:=hp
 have ql:=cD (bI x.people d.pl m p3) p3 j
 have qj:=iI (bI x.people d.pl m p3) p3 j j (Nat.le_refl _)
 by_cases hq:(cV x.people d.pl d.miss m p3) j=true
 · have anyb:(List.range x.people.length).any (cV x.people d.pl d.miss m p3)=true:=List.any_eq_true.2 ⟨j,List.mem_range.2 hj,hq⟩
   unfold cV bO eP at hq
   simp only[Bool.and_eq_true,decide_eq_true_eq]at hq
   obtain⟨⟨h1,h2⟩,h3⟩:=hq
   generalize a7 _ p3 j=q at*
   rw[← qj]at h3
   have nse:nth (q.set j (nth q j+1)) j=nth q j+1:=aK (by omega)
   rw[decide_eq_true h1]at hs
   have key:∃rest:aj,exS aT K.ab ⟨[.und,I 2,I m,.und,.bp 0 0,.bp 1 0,.bp 2 0,.und,.bp 3 0,.bp 16 0,.bp 17 0,I j,.und,.und],[.box (x.cs.map .t),.box ae,.box [I 0,I 0,I 0,.nil],.box [.t (tL d.pl),I d.per,I d.miss,I d.skew],.arr 3 false 0 ((x.people.map Wlk.e).map .t),arI x.tags,.arr 4 false 0 [aN 10 a,aN 11 b,aN 12 d],arI x.numbers,arI x.looked,.arr 1 false 0 [.ref 13 0 p.length,.ref 14 0 p2.length,.ref 15 0 p3.length],arI a.pl,arI b.pl,arI d.pl,arI p,arI p2,arI q,.box (az 4 x),.box [I 2,I 0,I (x.time+off),bf 18 G]]++(G.map fun g=>arI g)⟩=some (.ret,⟨[.und,I 2,I m,.und,.bp 0 0,.bp 1 0,.bp 2 0,I 43,.bp 3 0,.bp 16 0,.bp 17 0,I j,.und,.und],.box (x.cs.map .t):: .box (x.cs.map .t):: .box [I 0,I 0,I 0,.nil]::rest⟩):=by
    rcases G with _ | ⟨g,_ | ⟨g2,_ | ⟨g3,G⟩⟩⟩
    · obtain⟨⟨places,roads⟩,time,people,tags,readers,numbers,looked,missed⟩:=x
      simp only[ae,Tru.cs,az,aN,arI,bf,List.getLast?,List.getLast,List.cons_append,List.nil_append,List.map_cons,List.map_nil,LLe,tL,ml,rn,Nat.reduceAdd,Nat.reduceSub,List.length_cons,List.length_nil]at*
      simp (disch:=omega) only[go_sem,K.ab,↓reduceIte,ex,hs,wu,sh,an,h2,nse,h3,ai,List.length_set,ql,gt_iff_lt,Nat.reduceAdd,Nat.reduceSub]
      exact⟨_,rfl⟩
    · obtain⟨⟨places,roads⟩,time,people,tags,readers,numbers,looked,missed⟩:=x
      simp only[ae,Tru.cs,az,aN,arI,bf,List.getLast?,List.getLast,List.cons_append,List.nil_append,List.map_cons,List.map_nil,LLe,tL,ml,rn,Nat.reduceAdd,Nat.reduceSub,List.length_cons,List.length_nil]at*
      simp (disch:=omega) only[go_sem,K.ab,↓reduceIte,ex,hs,wu,sh,an,h2,nse,h3,ai,List.length_set,ql,gt_iff_lt,Nat.reduceAdd,Nat.reduceSub]
      exact⟨_,rfl⟩
    · obtain⟨⟨places,roads⟩,time,people,tags,readers,numbers,looked,missed⟩:=x
      simp only[ae,Tru.cs,az,aN,arI,bf,List.getLast?,List.getLast,List.cons_append,List.nil_append,List.map_cons,List.map_nil,LLe,tL,ml,rn,Nat.reduceAdd,Nat.reduceSub,List.length_cons,List.length_nil]at*
      simp (disch:=omega) only[go_sem,K.ab,↓reduceIte,ex,hs,wu,sh,an,h2,nse,h3,ai,List.length_set,ql,gt_iff_lt,Nat.reduceAdd,Nat.reduceSub]
      exact⟨_,rfl⟩
    · simp only[List.length_cons]at gl;omega
   obtain⟨rest,key⟩:=key
   exact .inr ⟨_,key,by simp,.inl ⟨anyb,j,rest,rfl⟩⟩
 · have hq:(cV x.people d.pl d.miss m p3) j=false:=by simpa using hq
   have hb2:∀i,i<j+1→(cV x.people d.pl d.miss m p3) i=false:=fun i hi=>by
    by_cases c:i=j
    · rw[c];exact hq
    · exact hb i (by omega)
   have gb2:∀g∈G,g.length≤j+1:=fun g hg=>Nat.le_succ_of_le (gb g hg)
   left
   by_cases h1:(nth x.people j).place∈d.pl
   · rw[decide_eq_true h1]at hs
     by_cases h2:sM m j=1
     · have nw:(bI x.people d.pl m p3) j=nth p3 j+1:=by unfold bI bO eP;rw[decide_eq_true h1,decide_eq_true h2];rfl
       have nl0:¬d.miss<nth p3 j+1:=by
        unfold cV bO eP at hq
        rw[decide_eq_true h1,decide_eq_true h2]at hq
        simpa using hq
       refine⟨_,?_,G,by omega,hb2,gb2,rfl⟩
       simp only[a7,nw]
       generalize a7 _ p3 j=q at*
       rw[← qj]at nl0 ⊢
       have nse:nth (q.set j (nth q j+1)) j=nth q j+1:=aK (by omega)
       rcases G with _ | ⟨g,_ | ⟨g2,_ | ⟨g3,G⟩⟩⟩
       · obtain⟨⟨places,roads⟩,time,people,tags,readers,numbers,looked,missed⟩:=x
         simp only[ae,Tru.cs,az,aN,arI,bf,List.getLast?,List.getLast,List.cons_append,List.nil_append,List.map_cons,List.map_nil,LLe,tL,ml,rn,Nat.reduceAdd,Nat.reduceSub,List.length_cons,List.length_nil]at*
         simp (disch:=omega) only[go_sem,K.ab,↓reduceIte,ex,hs,wu,sh,an,h2,nse,nl0,ai,List.length_set,ql,gt_iff_lt,Nat.reduceAdd,Nat.reduceSub]
       · obtain⟨⟨places,roads⟩,time,people,tags,readers,numbers,looked,missed⟩:=x
         simp only[ae,Tru.cs,az,aN,arI,bf,List.getLast?,List.getLast,List.cons_append,List.nil_append,List.map_cons,List.map_nil,LLe,tL,ml,rn,Nat.reduceAdd,Nat.reduceSub,List.length_cons,List.length_nil]at*
         simp (disch:=omega) only[go_sem,K.ab,↓reduceIte,ex,hs,wu,sh,an,h2,nse,nl0,ai,List.length_set,ql,gt_iff_lt,Nat.reduceAdd,Nat.reduceSub]
       · obtain⟨⟨places,roads⟩,time,people,tags,readers,numbers,looked,missed⟩:=x
         simp only[ae,Tru.cs,az,aN,arI,bf,List.getLast?,List.getLast,List.cons_append,List.nil_append,List.map_cons,List.map_nil,LLe,tL,ml,rn,Nat.reduceAdd,Nat.reduceSub,List.length_cons,List.length_nil]at*
         simp (disch:=omega) only[go_sem,K.ab,↓reduceIte,ex,hs,wu,sh,an,h2,nse,nl0,ai,List.length_set,ql,gt_iff_lt,Nat.reduceAdd,Nat.reduceSub]
       · simp only[List.length_cons]at gl;omega
     · have nw:(bI x.people d.pl m p3) j=0:=by unfold bI bO eP;rw[decide_eq_true h1,decide_eq_false h2];rfl
       have rs1:a7 (bI x.people d.pl m p3) p3 (j+1)=(a7 (bI x.people d.pl m p3) p3 j).set j 0:=by rw[a7,nw]
       unfold sC
       rw[rs1]
       generalize a7 _ p3 j=q at*
       rcases G with _ | ⟨g,_ | ⟨g2,_ | ⟨g3,G⟩⟩⟩
       · have pl:=fC ([]:List Int) (nth x.tags j)
         have fp:=di ([]:List Int) (nth x.tags j)
         have lp2:∀z0 z3 z7 z13:D,exS aT K.bk ⟨[z0,I 2,I m,z3,.bp 0 0,.bp 1 0,.bp 2 0,z7,.bp 3 0,.bp 16 0,.bp 17 0,I j,I 0,z13],[.box (x.cs.map .t),.box ae,.box [I 0,I 0,I 0,.nil],.box [.t (tL d.pl),I d.per,I d.miss,I d.skew],.arr 3 false 0 ((x.people.map Wlk.e).map .t),arI x.tags,.arr 4 false 0 [aN 10 a,aN 11 b,aN 12 d],arI x.numbers,arI x.looked,.arr 1 false 0 [.ref 13 0 p.length,.ref 14 0 p2.length,.ref 15 0 p3.length],arI a.pl,arI b.pl,arI d.pl,arI p,arI p2,arI (q.set j 0),.box (az 4 x),.box [I 2,I 0,I (x.time+off),bf 18 []]]++([]:List (List Int)).map fun g=>arI g⟩=some (.exit 2,⟨[.und,I 2,I m,.und,.bp 0 0,.bp 1 0,.bp 2 0,.und,.bp 3 0,.bp 16 0,.bp 17 0,I j,I (fm ([]:List Int) (nth x.tags j)),.und],[.box (x.cs.map .t),.box ae,.box [I 0,I 0,I 0,.nil],.box [.t (tL d.pl),I d.per,I d.miss,I d.skew],.arr 3 false 0 ((x.people.map Wlk.e).map .t),arI x.tags,.arr 4 false 0 [aN 10 a,aN 11 b,aN 12 d],arI x.numbers,arI x.looked,.arr 1 false 0 [.ref 13 0 p.length,.ref 14 0 p2.length,.ref 15 0 p3.length],arI a.pl,arI b.pl,arI d.pl,arI p,arI p2,arI (q.set j 0),.box (az 4 x),.box [I 2,I 0,I (x.time+off),bf 18 []]]++([]:List (List Int)).map fun g=>arI g⟩):=by
          intro z0 z3 z7 z13
          refine bV (fun i=>⟨[.und,I 2,I m,.und,.bp 0 0,.bp 1 0,.bp 2 0,.und,.bp 3 0,.bp 16 0,.bp 17 0,I j,I i,.und],[.box (x.cs.map .t),.box ae,.box [I 0,I 0,I 0,.nil],.box [.t (tL d.pl),I d.per,I d.miss,I d.skew],.arr 3 false 0 ((x.people.map Wlk.e).map .t),arI x.tags,.arr 4 false 0 [aN 10 a,aN 11 b,aN 12 d],arI x.numbers,arI x.looked,.arr 1 false 0 [.ref 13 0 p.length,.ref 14 0 p2.length,.ref 15 0 p3.length],arI a.pl,arI b.pl,arI d.pl,arI p,arI p2,arI (q.set j 0),.box (az 4 x),.box [I 2,I 0,I (x.time+off),bf 18 []]]++([]:List (List Int)).map fun g=>arI g⟩) (fm ([]:List Int) (nth x.tags j)) rfl ?_ ?_ (by simp)
          · intro i hi
            exact absurd hi (by simp only[List.length_nil]at pl;omega)
          · generalize fm ([]:List Int) (nth x.tags j)=i at*
            have i0:i=0:=by simp only[List.length_nil]at pl;omega
            subst i0
            obtain⟨⟨places,roads⟩,time,people,tags,readers,numbers,looked,missed⟩:=x
            simp only[ae,Tru.cs,az,aN,arI,bf,List.getLast?,List.getLast,List.cons_append,List.nil_append,List.map_cons,List.map_nil,LLe,tL,ml,rn,Nat.reduceAdd,Nat.reduceSub,List.length_cons,List.length_nil]at*
            simp (disch:=omega) only[go_sem,K.aA,↓reduceIte,et,Nat.reduceAdd,Nat.reduceSub]
         refine⟨_,?_,[]++[(kY ([]:List Int) (nth x.tags j))],by simp only[List.length_append,List.length_cons,List.length_nil]at *;omega,hb2,?_,rfl⟩
         · unfold kY
           generalize fm ([]:List Int) (nth x.tags j)=i at*
           obtain⟨⟨places,roads⟩,time,people,tags,readers,numbers,looked,missed⟩:=x
           simp only[ae,Tru.cs,az,aN,arI,bf,List.getLast?,List.getLast,List.cons_append,List.nil_append,List.map_cons,List.map_nil,LLe,tL,ml,rn,Nat.reduceAdd,Nat.reduceSub,List.length_cons,List.length_nil]at*
           simp (disch:=omega) only[go_sem,K.ab,↓reduceIte,ex,et,hs,wu,sh,an,h2,lp2,ai,List.length_set,ql,List.map_append,List.map_cons,List.map_nil,List.length_append,List.length_take,List.length_drop,List.length_singleton,List.length_map,Nat.reduceAdd,Nat.reduceSub]
         · intro g4 hg
           simp only[List.mem_append,List.mem_cons,List.not_mem_nil,or_false,false_or]at hg
           rw[hg,dZ];simp
       · have pl:=fC g (nth x.tags j)
         have fp:=di g (nth x.tags j)
         have tgl:=gb g (by simp)
         have lp2:∀z0 z3 z7 z13:D,exS aT K.bk ⟨[z0,I 2,I m,z3,.bp 0 0,.bp 1 0,.bp 2 0,z7,.bp 3 0,.bp 16 0,.bp 17 0,I j,I 0,z13],[.box (x.cs.map .t),.box ae,.box [I 0,I 0,I 0,.nil],.box [.t (tL d.pl),I d.per,I d.miss,I d.skew],.arr 3 false 0 ((x.people.map Wlk.e).map .t),arI x.tags,.arr 4 false 0 [aN 10 a,aN 11 b,aN 12 d],arI x.numbers,arI x.looked,.arr 1 false 0 [.ref 13 0 p.length,.ref 14 0 p2.length,.ref 15 0 p3.length],arI a.pl,arI b.pl,arI d.pl,arI p,arI p2,arI (q.set j 0),.box (az 4 x),.box [I 2,I 0,I (x.time+off),bf 18 [g]]]++([g]:List (List Int)).map fun g=>arI g⟩=some (.exit 2,⟨[.und,I 2,I m,.und,.bp 0 0,.bp 1 0,.bp 2 0,.und,.bp 3 0,.bp 16 0,.bp 17 0,I j,I (fm g (nth x.tags j)),.und],[.box (x.cs.map .t),.box ae,.box [I 0,I 0,I 0,.nil],.box [.t (tL d.pl),I d.per,I d.miss,I d.skew],.arr 3 false 0 ((x.people.map Wlk.e).map .t),arI x.tags,.arr 4 false 0 [aN 10 a,aN 11 b,aN 12 d],arI x.numbers,arI x.looked,.arr 1 false 0 [.ref 13 0 p.length,.ref 14 0 p2.length,.ref 15 0 p3.length],arI a.pl,arI b.pl,arI d.pl,arI p,arI p2,arI (q.set j 0),.box (az 4 x),.box [I 2,I 0,I (x.time+off),bf 18 [g]]]++([g]:List (List Int)).map fun g=>arI g⟩):=by
          intro z0 z3 z7 z13
          refine bV (fun i=>⟨[.und,I 2,I m,.und,.bp 0 0,.bp 1 0,.bp 2 0,.und,.bp 3 0,.bp 16 0,.bp 17 0,I j,I i,.und],[.box (x.cs.map .t),.box ae,.box [I 0,I 0,I 0,.nil],.box [.t (tL d.pl),I d.per,I d.miss,I d.skew],.arr 3 false 0 ((x.people.map Wlk.e).map .t),arI x.tags,.arr 4 false 0 [aN 10 a,aN 11 b,aN 12 d],arI x.numbers,arI x.looked,.arr 1 false 0 [.ref 13 0 p.length,.ref 14 0 p2.length,.ref 15 0 p3.length],arI a.pl,arI b.pl,arI d.pl,arI p,arI p2,arI (q.set j 0),.box (az 4 x),.box [I 2,I 0,I (x.time+off),bf 18 [g]]]++([g]:List (List Int)).map fun g=>arI g⟩) (fm g (nth x.tags j)) rfl ?_ ?_ (by simp)
          · intro i hi
            have lt:=fp.1 i hi
            have eg:(g.map (T.int .i64))[i]?=some (tI (nth g i)):=aD _ (by omega)
            obtain⟨⟨places,roads⟩,time,people,tags,readers,numbers,looked,missed⟩:=x
            simp only[ae,Tru.cs,az,aN,arI,bf,List.getLast?,List.getLast,List.cons_append,List.nil_append,List.map_cons,List.map_nil,LLe,tL,ml,rn,Nat.reduceAdd,Nat.reduceSub,List.length_cons,List.length_nil]at*
            simp (disch:=omega) only[go_sem,K.aA,↓reduceIte,eg,et,lt,List.length_map,Nat.reduceAdd,Nat.reduceSub]
          · generalize fm g (nth x.tags j)=i at*
            have eg:=fun hi:i<g.length=>(aD _ hi:(g.map (T.int .i64))[i]?=some (tI (nth g i)))
            obtain⟨⟨places,roads⟩,time,people,tags,readers,numbers,looked,missed⟩:=x
            simp only[ae,Tru.cs,az,aN,arI,bf,List.getLast?,List.getLast,List.cons_append,List.nil_append,List.map_cons,List.map_nil,LLe,tL,ml,rn,Nat.reduceAdd,Nat.reduceSub,List.length_cons,List.length_nil]at*
            by_cases hi:i<g.length
            · have lt:=fp.2 hi
              have eg:=eg hi
              simp (disch:=omega) only[go_sem,K.aA,↓reduceIte,eg,et,lt,hi,List.length_map,Nat.reduceAdd,Nat.reduceSub]
            · simp (disch:=omega) only[go_sem,K.aA,↓reduceIte,hi,List.length_map,Nat.reduceAdd,Nat.reduceSub]
         refine⟨_,?_,[g]++[(kY g (nth x.tags j))],by simp only[List.length_append,List.length_cons,List.length_nil]at *;omega,hb2,?_,rfl⟩
         · unfold kY
           generalize fm g (nth x.tags j)=i at*
           obtain⟨⟨places,roads⟩,time,people,tags,readers,numbers,looked,missed⟩:=x
           simp only[ae,Tru.cs,az,aN,arI,bf,List.getLast?,List.getLast,List.cons_append,List.nil_append,List.map_cons,List.map_nil,LLe,tL,ml,rn,Nat.reduceAdd,Nat.reduceSub,List.length_cons,List.length_nil]at*
           simp (disch:=omega) only[go_sem,K.ab,↓reduceIte,ex,et,hs,wu,sh,an,h2,lp2,ai,List.length_set,ql,List.map_append,List.map_cons,List.map_nil,List.length_append,List.length_take,List.length_drop,List.length_singleton,List.length_map,iZ,gM,Nat.reduceAdd,Nat.reduceSub]
           simp only[List.map_append,List.map_take,List.map_drop,List.map_cons,List.map_nil,Nat.min_self,Nat.sub_zero,cM]
         · intro g4 hg
           simp only[List.mem_append,List.mem_cons,List.not_mem_nil,or_false,false_or]at hg
           rcases hg with hg | hg
           · rw[hg];exact gb2 _ (by simp)
           · rw[hg,dZ];omega
       · have pl:=fC g2 (nth x.tags j)
         have fp:=di g2 (nth x.tags j)
         have tgl:=gb g2 (by simp)
         have lp2:∀z0 z3 z7 z13:D,exS aT K.bk ⟨[z0,I 2,I m,z3,.bp 0 0,.bp 1 0,.bp 2 0,z7,.bp 3 0,.bp 16 0,.bp 17 0,I j,I 0,z13],[.box (x.cs.map .t),.box ae,.box [I 0,I 0,I 0,.nil],.box [.t (tL d.pl),I d.per,I d.miss,I d.skew],.arr 3 false 0 ((x.people.map Wlk.e).map .t),arI x.tags,.arr 4 false 0 [aN 10 a,aN 11 b,aN 12 d],arI x.numbers,arI x.looked,.arr 1 false 0 [.ref 13 0 p.length,.ref 14 0 p2.length,.ref 15 0 p3.length],arI a.pl,arI b.pl,arI d.pl,arI p,arI p2,arI (q.set j 0),.box (az 4 x),.box [I 2,I 0,I (x.time+off),bf 18 [g,g2]]]++([g,g2]:List (List Int)).map fun g=>arI g⟩=some (.exit 2,⟨[.und,I 2,I m,.und,.bp 0 0,.bp 1 0,.bp 2 0,.und,.bp 3 0,.bp 16 0,.bp 17 0,I j,I (fm g2 (nth x.tags j)),.und],[.box (x.cs.map .t),.box ae,.box [I 0,I 0,I 0,.nil],.box [.t (tL d.pl),I d.per,I d.miss,I d.skew],.arr 3 false 0 ((x.people.map Wlk.e).map .t),arI x.tags,.arr 4 false 0 [aN 10 a,aN 11 b,aN 12 d],arI x.numbers,arI x.looked,.arr 1 false 0 [.ref 13 0 p.length,.ref 14 0 p2.length,.ref 15 0 p3.length],arI a.pl,arI b.pl,arI d.pl,arI p,arI p2,arI (q.set j 0),.box (az 4 x),.box [I 2,I 0,I (x.time+off),bf 18 [g,g2]]]++([g,g2]:List (List Int)).map fun g=>arI g⟩):=by
          intro z0 z3 z7 z13
          refine bV (fun i=>⟨[.und,I 2,I m,.und,.bp 0 0,.bp 1 0,.bp 2 0,.und,.bp 3 0,.bp 16 0,.bp 17 0,I j,I i,.und],[.box (x.cs.map .t),.box ae,.box [I 0,I 0,I 0,.nil],.box [.t (tL d.pl),I d.per,I d.miss,I d.skew],.arr 3 false 0 ((x.people.map Wlk.e).map .t),arI x.tags,.arr 4 false 0 [aN 10 a,aN 11 b,aN 12 d],arI x.numbers,arI x.looked,.arr 1 false 0 [.ref 13 0 p.length,.ref 14 0 p2.length,.ref 15 0 p3.length],arI a.pl,arI b.pl,arI d.pl,arI p,arI p2,arI (q.set j 0),.box (az 4 x),.box [I 2,I 0,I (x.time+off),bf 18 [g,g2]]]++([g,g2]:List (List Int)).map fun g=>arI g⟩) (fm g2 (nth x.tags j)) rfl ?_ ?_ (by simp)
          · intro i hi
            have lt:=fp.1 i hi
            have eg:(g2.map (T.int .i64))[i]?=some (tI (nth g2 i)):=aD _ (by omega)
            obtain⟨⟨places,roads⟩,time,people,tags,readers,numbers,looked,missed⟩:=x
            simp only[ae,Tru.cs,az,aN,arI,bf,List.getLast?,List.getLast,List.cons_append,List.nil_append,List.map_cons,List.map_nil,LLe,tL,ml,rn,Nat.reduceAdd,Nat.reduceSub,List.length_cons,List.length_nil]at*
            simp (disch:=omega) only[go_sem,K.aA,↓reduceIte,eg,et,lt,List.length_map,Nat.reduceAdd,Nat.reduceSub]
          · generalize fm g2 (nth x.tags j)=i at*
            have eg:=fun hi:i<g2.length=>(aD _ hi:(g2.map (T.int .i64))[i]?=some (tI (nth g2 i)))
            obtain⟨⟨places,roads⟩,time,people,tags,readers,numbers,looked,missed⟩:=x
            simp only[ae,Tru.cs,az,aN,arI,bf,List.getLast?,List.getLast,List.cons_append,List.nil_append,List.map_cons,List.map_nil,LLe,tL,ml,rn,Nat.reduceAdd,Nat.reduceSub,List.length_cons,List.length_nil]at*
            by_cases hi:i<g2.length
            · have lt:=fp.2 hi
              have eg:=eg hi
              simp (disch:=omega) only[go_sem,K.aA,↓reduceIte,eg,et,lt,hi,List.length_map,Nat.reduceAdd,Nat.reduceSub]
            · simp (disch:=omega) only[go_sem,K.aA,↓reduceIte,hi,List.length_map,Nat.reduceAdd,Nat.reduceSub]
         refine⟨_,?_,[g,g2]++[(kY g2 (nth x.tags j))],by simp only[List.length_append,List.length_cons,List.length_nil]at *;omega,hb2,?_,rfl⟩
         · unfold kY
           generalize fm g2 (nth x.tags j)=i at*
           obtain⟨⟨places,roads⟩,time,people,tags,readers,numbers,looked,missed⟩:=x
           simp only[ae,Tru.cs,az,aN,arI,bf,List.getLast?,List.getLast,List.cons_append,List.nil_append,List.map_cons,List.map_nil,LLe,tL,ml,rn,Nat.reduceAdd,Nat.reduceSub,List.length_cons,List.length_nil]at*
           simp (disch:=omega) only[go_sem,K.ab,↓reduceIte,ex,et,hs,wu,sh,an,h2,lp2,ai,List.length_set,ql,List.map_append,List.map_cons,List.map_nil,List.length_append,List.length_take,List.length_drop,List.length_singleton,List.length_map,iZ,gM,Nat.reduceAdd,Nat.reduceSub]
           simp only[List.map_append,List.map_take,List.map_drop,List.map_cons,List.map_nil,Nat.min_self,Nat.sub_zero,cM]
         · intro g4 hg
           simp only[List.mem_append,List.mem_cons,List.not_mem_nil,or_false,false_or]at hg
           rcases hg with(hg | hg) | hg
           · rw[hg];exact gb2 _ (by simp)
           · rw[hg];exact gb2 _ (by simp)
           · rw[hg,dZ];omega
       · simp only[List.length_cons]at gl;omega
   · have nw:(bI x.people d.pl m p3) j=0:=by unfold bI bO eP;rw[decide_eq_false h1];rfl
     rw[decide_eq_false h1]at hs
     refine⟨_,?_,G,by omega,hb2,gb2,rfl⟩
     simp only[a7,nw]
     generalize a7 _ p3 j=q at*
     rcases G with _ | ⟨g,_ | ⟨g2,_ | ⟨g3,G⟩⟩⟩
     · obtain⟨⟨places,roads⟩,time,people,tags,readers,numbers,looked,missed⟩:=x
       simp only[ae,Tru.cs,az,aN,arI,bf,List.getLast?,List.getLast,List.cons_append,List.nil_append,List.map_cons,List.map_nil,LLe,tL,ml,rn,Nat.reduceAdd,Nat.reduceSub,List.length_cons,List.length_nil]at*
       simp (disch:=omega) only[go_sem,K.ab,↓reduceIte,ex,hs,ai,List.length_set,ql,Nat.reduceAdd,Nat.reduceSub]
     · obtain⟨⟨places,roads⟩,time,people,tags,readers,numbers,looked,missed⟩:=x
       simp only[ae,Tru.cs,az,aN,arI,bf,List.getLast?,List.getLast,List.cons_append,List.nil_append,List.map_cons,List.map_nil,LLe,tL,ml,rn,Nat.reduceAdd,Nat.reduceSub,List.length_cons,List.length_nil]at*
       simp (disch:=omega) only[go_sem,K.ab,↓reduceIte,ex,hs,ai,List.length_set,ql,Nat.reduceAdd,Nat.reduceSub]
     · obtain⟨⟨places,roads⟩,time,people,tags,readers,numbers,looked,missed⟩:=x
       simp only[ae,Tru.cs,az,aN,arI,bf,List.getLast?,List.getLast,List.cons_append,List.nil_append,List.map_cons,List.map_nil,LLe,tL,ml,rn,Nat.reduceAdd,Nat.reduceSub,List.length_cons,List.length_nil]at*
       simp (disch:=omega) only[go_sem,K.ab,↓reduceIte,ex,hs,ai,List.length_set,ql,Nat.reduceAdd,Nat.reduceSub]
     · simp only[List.length_cons]at gl;omega
theorem LJ{x:Tru}(h:x.ok){a b d:Rdr}{p p2 p3:List Int}(e1:x.readers=[a,b,d])(e2:x.missed=[p,p2,p3])(m off:Int)(z0 z3 z7 z12 z13:D):∃q,exS aT K.fA ⟨[z0,I 2,I m,z3,.bp 0 0,.bp 1 0,.bp 2 0,z7,.bp 3 0,.bp 16 0,.bp 17 0,I 0,z12,z13],[.box (x.cs.map .t),.box ae,.box [I 0,I 0,I 0,.nil],.box [.t (tL d.pl),I d.per,I d.miss,I d.skew],.arr 3 false 0 ((x.people.map Wlk.e).map .t),arI x.tags,.arr 4 false 0 [aN 10 a,aN 11 b,aN 12 d],arI x.numbers,arI x.looked,.arr 1 false 0 [.ref 13 0 p.length,.ref 14 0 p2.length,.ref 15 0 p3.length],arI a.pl,arI b.pl,arI d.pl,arI p,arI p2,arI p3,.box (az 4 x),.box [I 2,I 0,I (x.time+off),.nil]]⟩=some q∧Dj x a b d p p2 p3 m off q:=by
 have n3:=h.n3
 have tl:=h.tl
 have nl:=h.nl
 have ll:=h.ll
 have t0:=h.t0
 have t1:=h.t1
 have nb:=h.nb 2 (by rw[e1];simp)
 have mb:=h.mb 2 (by rw[e1];simp)
 have m2:=h.m2 2 (by rw[e1];simp)
 have rk:nth x.readers 2=d:=by rw[e1];rfl
 have mk:nth x.missed 2=p3:=by rw[e2];rfl
 have ml:x.missed.length=3:=by rw[e2];rfl
 have rn:x.readers.length=3:=by rw[e1];rfl
 have ro:=h.r d (by rw[e1];simp)
 rw[rk,mk]at mb
 rw[mk]at m2
 obtain⟨rs,rl,rl1,rp1,rp2,rm1,rm2,rk1,rk2⟩:=ro
 refine fI (sC x a b d p p2 p3 m off) x.people.length _ ⟨[],Nat.le_refl _,fun i hi=>absurd hi (by omega),fun g hg=>absurd hg (by simp),rfl⟩ (fun j st hj hp=>LI h e1 e2 m off j st hj hp) ?_
 intro st hp
 refine⟨(.exit 0,st),?_,by simp,.inr ⟨?_,st,hp,rfl⟩⟩
 · obtain⟨G,gl,hb,gb,rfl⟩:=hp
   generalize a7 _ p3 _=q at*
   rcases G with _ | ⟨g,_ | ⟨g2,_ | ⟨g3,_ | ⟨g4,G⟩⟩⟩⟩
   · obtain⟨⟨places,roads⟩,time,people,tags,readers,numbers,looked,missed⟩:=x
     simp only[ae,Tru.cs,az,aN,arI,bf,List.getLast?,List.getLast,List.cons_append,List.nil_append,List.map_cons,List.map_nil,LLe,tL,ml,rn,Nat.reduceAdd,Nat.reduceSub,List.length_cons,List.length_nil]at*
     simp (disch:=omega) only[go_sem,K.ab,↓reduceIte,Nat.reduceAdd,Nat.reduceSub]
   · obtain⟨⟨places,roads⟩,time,people,tags,readers,numbers,looked,missed⟩:=x
     simp only[ae,Tru.cs,az,aN,arI,bf,List.getLast?,List.getLast,List.cons_append,List.nil_append,List.map_cons,List.map_nil,LLe,tL,ml,rn,Nat.reduceAdd,Nat.reduceSub,List.length_cons,List.length_nil]at*
     simp (disch:=omega) only[go_sem,K.ab,↓reduceIte,Nat.reduceAdd,Nat.reduceSub]
   · obtain⟨⟨places,roads⟩,time,people,tags,readers,numbers,looked,missed⟩:=x
     simp only[ae,Tru.cs,az,aN,arI,bf,List.getLast?,List.getLast,List.cons_append,List.nil_append,List.map_cons,List.map_nil,LLe,tL,ml,rn,Nat.reduceAdd,Nat.reduceSub,List.length_cons,List.length_nil]at*
     simp (disch:=omega) only[go_sem,K.ab,↓reduceIte,Nat.reduceAdd,Nat.reduceSub]
   · obtain⟨⟨places,roads⟩,time,people,tags,readers,numbers,looked,missed⟩:=x
     simp only[ae,Tru.cs,az,aN,arI,bf,List.getLast?,List.getLast,List.cons_append,List.nil_append,List.map_cons,List.map_nil,LLe,tL,ml,rn,Nat.reduceAdd,Nat.reduceSub,List.length_cons,List.length_nil]at*
     simp (disch:=omega) only[go_sem,K.ab,↓reduceIte,Nat.reduceAdd,Nat.reduceSub]
   · simp only[List.length_cons]at gl;omega
 · obtain⟨G,gl,hb,gb,rfl⟩:=hp
   rw[List.any_eq_false]
   intro i hi
   rw[hb i (List.mem_range.1 hi)]
   decide
set_option maxHeartbeats 4000000 in
theorem Dk{x:Tru}(h:x.ok){a b d:Rdr}{p p2 p3:List Int}(e1:x.readers=[a,b,d])(e2:x.missed=[p,p2,p3])(m off:Int)(o1: -d.skew≤off)(o2:off≤d.skew)(o3:0≤x.time+off)(o4:x.time+off≤2147483648):
 ∃r e,aT 0 N.ah [.t x.e,I 2,I m,I off] []=some (.tup [.t (if nQ x 2 m then x else du x 2 m).e,.t r,I e],[]):=by
 have n3:=h.n3
 have tl:=h.tl
 have nl:=h.nl
 have ll:=h.ll
 have t0:=h.t0
 have t1:=h.t1
 have nb:=h.nb 2 (by rw[e1];simp)
 have mb:=h.mb 2 (by rw[e1];simp)
 have m2:=h.m2 2 (by rw[e1];simp)
 have rk:nth x.readers 2=d:=by rw[e1];rfl
 have mk:nth x.missed 2=p3:=by rw[e2];rfl
 have ml:x.missed.length=3:=by rw[e2];rfl
 have rn:x.readers.length=3:=by rw[e1];rfl
 have ro:=h.r d (by rw[e1];simp)
 rw[rk,mk]at mb
 rw[mk]at m2
 obtain⟨rs,rl,rl1,rp1,rp2,rm1,rm2,rk1,rk2⟩:=ro
 have sz:=h.sz
 have cp0:=fB x sz
 have cp:=mC sz e1 e2
 have va:=dV h
 have lpL:=LJ h e1 e2 m off
 have scl:∀(y:Tru) (r:T) (v:Int),([D.t y.e,D.t r,I v].all bz)=false:=fun _ _ _=>rfl
 unfold nQ du lg
 rw[rk,mk]
 by_cases bq:(List.range x.people.length).any (cV x.people d.pl d.miss m p3)=true
 · rw[if_pos bq]
   refine⟨dJ 0 0 0 [],43,aB K.aP rfl ?_⟩
   obtain⟨⟨places,roads⟩,time,people,tags,readers,numbers,looked,missed⟩:=x
   subst e1 e2
   simp only[Tru.e,Tru.cs,ae,dE,az,dW,List.map_cons,List.map_nil,LLe,tL,arI,aN,tLL,Rdr.e]at*
   simp (disch:=omega) only[go_sem,K.ah,↓reduceIte,cp0,cp,va,gt_iff_lt,Nat.reduceAdd,Nat.reduceSub]
   refine b7 _ (lpL _ _ _ _ _) ?_
   rintro q (⟨_,j,rest,rfl⟩ | ⟨n,_⟩)
   · simp (disch:=omega) only[go_sem,K.ah,↓reduceIte,scl,Nat.reduceAdd,Nat.reduceSub]
     rfl
   · rw[n]at bq;cases bq
 · rw[if_neg bq]
   have en:(x.numbers.map (T.int .i64))[2]?=some (tI (nth x.numbers 2)):=aD _ (by omega)
   have el:(x.looked.map (T.int .i64))[2]?=some (tI (nth x.looked 2)):=aD _ (by omega)
   generalize nth x.numbers 2=nu at*
   generalize nth x.looked 2=lo at*
   obtain⟨q,hq,hQ⟩:=lpL (.t x.e) (I off) (I 0) .und .und
   rcases hQ with⟨n,_⟩ | ⟨_,st,⟨G,gl,hb,gb,rfl⟩,rfl⟩
   · exact absurd n bq
   have wl:=cD (bI x.people d.pl m p3) p3 x.people.length
   have ns:∀v:Int,nth (x.numbers.set 2 v) 2=v:=fun v=>aK (by omega)
   generalize a7 _ p3 _=w at*
   rcases G with _ | ⟨g,_ | ⟨g2,_ | ⟨g3,_ | ⟨g4,G⟩⟩⟩⟩
   · refine⟨dJ 2 ((nu+if 0≤lo∧d.per<x.time-lo then 2 else 1).tmod 65536) (x.time+off) [],0,aB K.aP rfl ?_⟩
     obtain⟨⟨places,roads⟩,time,people,tags,readers,numbers,looked,missed⟩:=x
     subst e1 e2
     simp only[ae,Tru.e,Tru.cs,dJ,dE,az,dW,aN,arI,tLL,Rdr.e,bf,List.cons_append,List.nil_append,List.map_cons,List.map_nil,LLe,tL,Nat.reduceAdd,Nat.reduceSub,List.length_cons,List.length_nil]at*
     by_cases ca:0≤lo
     · by_cases cb:d.per<time-lo
       · rw[if_pos ⟨ca,cb⟩]
         simp (disch:=omega) only[go_sem,K.ah,↓reduceIte,cp0,cp,va,hq,en,el,ca,cb,gt_iff_lt,ai,scl,ns,wl,List.length_set,Nat.reduceAdd,Nat.reduceSub]
       · rw[if_neg (fun e=>cb e.2)]
         simp (disch:=omega) only[go_sem,K.ah,↓reduceIte,cp0,cp,va,hq,en,el,ca,cb,gt_iff_lt,ai,scl,ns,wl,List.length_set,Nat.reduceAdd,Nat.reduceSub]
     · rw[if_neg (fun e=>ca e.1)]
       simp (disch:=omega) only[go_sem,K.ah,↓reduceIte,cp0,cp,va,hq,en,el,ca,gt_iff_lt,ai,scl,ns,wl,List.length_set,Nat.reduceAdd,Nat.reduceSub]
   · refine⟨dJ 2 ((nu+if 0≤lo∧d.per<x.time-lo then 2 else 1).tmod 65536) (x.time+off) g,0,aB K.aP rfl ?_⟩
     obtain⟨⟨places,roads⟩,time,people,tags,readers,numbers,looked,missed⟩:=x
     subst e1 e2
     simp only[ae,Tru.e,Tru.cs,dJ,dE,az,dW,aN,arI,tLL,Rdr.e,bf,List.cons_append,List.nil_append,List.map_cons,List.map_nil,LLe,tL,Nat.reduceAdd,Nat.reduceSub,List.length_cons,List.length_nil]at*
     by_cases ca:0≤lo
     · by_cases cb:d.per<time-lo
       · rw[if_pos ⟨ca,cb⟩]
         simp (disch:=omega) only[go_sem,K.ah,↓reduceIte,cp0,cp,va,hq,en,el,ca,cb,gt_iff_lt,ai,scl,ns,wl,List.length_set,Nat.reduceAdd,Nat.reduceSub]
       · rw[if_neg (fun e=>cb e.2)]
         simp (disch:=omega) only[go_sem,K.ah,↓reduceIte,cp0,cp,va,hq,en,el,ca,cb,gt_iff_lt,ai,scl,ns,wl,List.length_set,Nat.reduceAdd,Nat.reduceSub]
     · rw[if_neg (fun e=>ca e.1)]
       simp (disch:=omega) only[go_sem,K.ah,↓reduceIte,cp0,cp,va,hq,en,el,ca,gt_iff_lt,ai,scl,ns,wl,List.length_set,Nat.reduceAdd,Nat.reduceSub]
   · refine⟨dJ 2 ((nu+if 0≤lo∧d.per<x.time-lo then 2 else 1).tmod 65536) (x.time+off) g2,0,aB K.aP rfl ?_⟩
     obtain⟨⟨places,roads⟩,time,people,tags,readers,numbers,looked,missed⟩:=x
     subst e1 e2
     simp only[ae,Tru.e,Tru.cs,dJ,dE,az,dW,aN,arI,tLL,Rdr.e,bf,List.cons_append,List.nil_append,List.map_cons,List.map_nil,LLe,tL,Nat.reduceAdd,Nat.reduceSub,List.length_cons,List.length_nil]at*
     by_cases ca:0≤lo
     · by_cases cb:d.per<time-lo
       · rw[if_pos ⟨ca,cb⟩]
         simp (disch:=omega) only[go_sem,K.ah,↓reduceIte,cp0,cp,va,hq,en,el,ca,cb,gt_iff_lt,ai,scl,ns,wl,List.length_set,Nat.reduceAdd,Nat.reduceSub]
       · rw[if_neg (fun e=>cb e.2)]
         simp (disch:=omega) only[go_sem,K.ah,↓reduceIte,cp0,cp,va,hq,en,el,ca,cb,gt_iff_lt,ai,scl,ns,wl,List.length_set,Nat.reduceAdd,Nat.reduceSub]
     · rw[if_neg (fun e=>ca e.1)]
       simp (disch:=omega) only[go_sem,K.ah,↓reduceIte,cp0,cp,va,hq,en,el,ca,gt_iff_lt,ai,scl,ns,wl,List.length_set,Nat.reduceAdd,Nat.reduceSub]
   · refine⟨dJ 2 ((nu+if 0≤lo∧d.per<x.time-lo then 2 else 1).tmod 65536) (x.time+off) g3,0,aB K.aP rfl ?_⟩
     obtain⟨⟨places,roads⟩,time,people,tags,readers,numbers,looked,missed⟩:=x
     subst e1 e2
     simp only[ae,Tru.e,Tru.cs,dJ,dE,az,dW,aN,arI,tLL,Rdr.e,bf,List.cons_append,List.nil_append,List.map_cons,List.map_nil,LLe,tL,Nat.reduceAdd,Nat.reduceSub,List.length_cons,List.length_nil]at*
     by_cases ca:0≤lo
     · by_cases cb:d.per<time-lo
       · rw[if_pos ⟨ca,cb⟩]
         simp (disch:=omega) only[go_sem,K.ah,↓reduceIte,cp0,cp,va,hq,en,el,ca,cb,gt_iff_lt,ai,scl,ns,wl,List.length_set,Nat.reduceAdd,Nat.reduceSub]
       · rw[if_neg (fun e=>cb e.2)]
         simp (disch:=omega) only[go_sem,K.ah,↓reduceIte,cp0,cp,va,hq,en,el,ca,cb,gt_iff_lt,ai,scl,ns,wl,List.length_set,Nat.reduceAdd,Nat.reduceSub]
     · rw[if_neg (fun e=>ca e.1)]
       simp (disch:=omega) only[go_sem,K.ah,↓reduceIte,cp0,cp,va,hq,en,el,ca,gt_iff_lt,ai,scl,ns,wl,List.length_set,Nat.reduceAdd,Nat.reduceSub]
   · simp only[List.length_cons]at gl;omega
abbrev au(s:Nat)(x:Tru):List D:=[.t (.sl (x.gz.places.map Place.e)),.t (.sl (x.gz.roads.map Road.e)),I x.time,.t (.sl (x.people.map Wlk.e)),.t (tL x.tags),.ref s 0 x.readers.length,.ref (s+1) 0 x.numbers.length,.ref (s+2) 0 x.looked.length,.ref (s+3) 0 x.missed.length]
@[go_sem] theorem Ud (H : aj) (a b c d : T) : ya H 4 [.t (.agg [a, b, c, d])] = some (.ref H.length 0 1, H ++ [.arr 4 false 0 [.t (.agg [a, b, c, d])]]) := rfl
theorem AG{x:Tru}(h:x.sz){a:Rdr}{p:List Int}(e1:x.readers=[a])(e2:x.missed=[p]):aT 2 N.aX [.t x.e] []=
 some (.agg (au 0 x),[.arr 4 false 0 [.t a.e],arI x.numbers,arI x.looked,.arr 1 false 0 [.ref 4 0 p.length],arI p]):=by
 refine aB K.fh rfl ?_
 obtain⟨ha,hb,hc,hd,hr,hr2,hn,hl,hm,hm2⟩:=h
 obtain⟨⟨places,roads⟩,time,people,tags,readers,numbers,looked,missed⟩:=x
 simp only at e1 e2 ha hb hc hd hn hl
 subst e1 e2
 have c1:=mB places ha
 have c2:=kS roads hb
 have c3:=nN people hc
 have c4:=eE tags hd
 have c5:=fG numbers hn
 have c6:=fG looked hl
 have ca:=eE a.pl (hr2 a (by simp))
 have cp:=fG p (hm2 p (by simp))
 obtain⟨a1,a2,a3,a4⟩:=a
 simp only[Tru.e,Tru.cs,au,List.map_cons,List.map_nil,LLe,tL,arI,kZ,Rdr.e]at*
 simp (disch:=omega) only[go_sem,K.aX,↓reduceIte,c1,c2,c3,c4,Nat.reduceAdd,Nat.reduceSub]
 apply dY
 · apply eW
   apply aY
   · simp (disch:=omega) only[go_sem,K.bG,↓reduceIte,ca,cR,List.set_cons_zero,List.set_cons_succ,Int.reduceAdd,Int.reduceToNat,List.getElem?_cons_succ,List.getElem?_cons_zero,Nat.reduceAdd,Nat.reduceSub]
     rfl
   apply bj
   · simp (disch:=omega) only[go_sem,K.bG,↓reduceIte,Int.reduceAdd,Nat.reduceAdd,Nat.reduceSub]
     rfl
   · simp
 simp (disch:=omega) only[go_sem,K.aX,↓reduceIte,c5,c6,Nat.reduceAdd,Nat.reduceSub]
 apply dY
 · apply eW
   apply aY
   · simp (disch:=omega) only[go_sem,K.bH,↓reduceIte,cp,cR,List.set_cons_zero,List.set_cons_succ,Int.reduceAdd,Int.reduceToNat,List.getElem?_cons_succ,List.getElem?_cons_zero,Nat.reduceAdd,Nat.reduceSub]
     rfl
   apply bj
   · simp (disch:=omega) only[go_sem,K.bH,↓reduceIte,Int.reduceAdd,Nat.reduceAdd,Nat.reduceSub]
     rfl
   · simp
 simp (disch:=omega) only[go_sem,K.aX,↓reduceIte,c5,c6,Nat.reduceAdd,Nat.reduceSub]
theorem tS{x:Tru}(h:x.sz){a b:Rdr}{p p2:List Int}(e1:x.readers=[a,b])(e2:x.missed=[p,p2]):aT 2 N.aX [.t x.e] []=
 some (.agg (au 0 x),[.arr 4 false 0 [.t a.e,.t b.e],arI x.numbers,arI x.looked,.arr 1 false 0 [.ref 4 0 p.length,.ref 5 0 p2.length],arI p,arI p2]):=by
 refine aB K.fh rfl ?_
 obtain⟨ha,hb,hc,hd,hr,hr2,hn,hl,hm,hm2⟩:=h
 obtain⟨⟨places,roads⟩,time,people,tags,readers,numbers,looked,missed⟩:=x
 simp only at e1 e2 ha hb hc hd hn hl
 subst e1 e2
 have c1:=mB places ha
 have c2:=kS roads hb
 have c3:=nN people hc
 have c4:=eE tags hd
 have c5:=fG numbers hn
 have c6:=fG looked hl
 have ca:=eE a.pl (hr2 a (by simp))
 have cb:=eE b.pl (hr2 b (by simp))
 have cp:=fG p (hm2 p (by simp))
 have cp2:=fG p2 (hm2 p2 (by simp))
 obtain⟨a1,a2,a3,a4⟩:=a
 obtain⟨b1,b2,b3,b4⟩:=b
 simp only[Tru.e,Tru.cs,au,List.map_cons,List.map_nil,LLe,tL,arI,kZ,Rdr.e]at*
 simp (disch:=omega) only[go_sem,K.aX,↓reduceIte,c1,c2,c3,c4,Nat.reduceAdd,Nat.reduceSub]
 apply dY
 · apply eW
   apply aY
   · simp (disch:=omega) only[go_sem,K.bG,↓reduceIte,ca,cb,cR,List.set_cons_zero,List.set_cons_succ,Int.reduceAdd,Int.reduceToNat,List.getElem?_cons_succ,List.getElem?_cons_zero,Nat.reduceAdd,Nat.reduceSub]
     rfl
   apply aY
   · simp (disch:=omega) only[go_sem,K.bG,↓reduceIte,ca,cb,cR,List.set_cons_zero,List.set_cons_succ,Int.reduceAdd,Int.reduceToNat,List.getElem?_cons_succ,List.getElem?_cons_zero,Nat.reduceAdd,Nat.reduceSub]
     rfl
   apply bj
   · simp (disch:=omega) only[go_sem,K.bG,↓reduceIte,Int.reduceAdd,Nat.reduceAdd,Nat.reduceSub]
     rfl
   · simp
 simp (disch:=omega) only[go_sem,K.aX,↓reduceIte,c5,c6,Nat.reduceAdd,Nat.reduceSub]
 apply dY
 · apply eW
   apply aY
   · simp (disch:=omega) only[go_sem,K.bH,↓reduceIte,cp,cp2,cR,List.set_cons_zero,List.set_cons_succ,Int.reduceAdd,Int.reduceToNat,List.getElem?_cons_succ,List.getElem?_cons_zero,Nat.reduceAdd,Nat.reduceSub]
     rfl
   apply aY
   · simp (disch:=omega) only[go_sem,K.bH,↓reduceIte,cp,cp2,cR,List.set_cons_zero,List.set_cons_succ,Int.reduceAdd,Int.reduceToNat,List.getElem?_cons_succ,List.getElem?_cons_zero,Nat.reduceAdd,Nat.reduceSub]
     rfl
   apply bj
   · simp (disch:=omega) only[go_sem,K.bH,↓reduceIte,Int.reduceAdd,Nat.reduceAdd,Nat.reduceSub]
     rfl
   · simp
 simp (disch:=omega) only[go_sem,K.aX,↓reduceIte,c5,c6,Nat.reduceAdd,Nat.reduceSub]
theorem pI{x:Tru}(h:x.sz){a b d:Rdr}{p p2 p3:List Int}(e1:x.readers=[a,b,d])(e2:x.missed=[p,p2,p3]):aT 2 N.aX [.t x.e] []=
 some (.agg (au 0 x),[.arr 4 false 0 [.t a.e,.t b.e,.t d.e],arI x.numbers,arI x.looked,.arr 1 false 0 [.ref 4 0 p.length,.ref 5 0 p2.length,.ref 6 0 p3.length],arI p,arI p2,arI p3]):=by
 refine aB K.fh rfl ?_
 obtain⟨ha,hb,hc,hd,hr,hr2,hn,hl,hm,hm2⟩:=h
 obtain⟨⟨places,roads⟩,time,people,tags,readers,numbers,looked,missed⟩:=x
 simp only at e1 e2 ha hb hc hd hn hl
 subst e1 e2
 have c1:=mB places ha
 have c2:=kS roads hb
 have c3:=nN people hc
 have c4:=eE tags hd
 have c5:=fG numbers hn
 have c6:=fG looked hl
 have ca:=eE a.pl (hr2 a (by simp))
 have cb:=eE b.pl (hr2 b (by simp))
 have cd:=eE d.pl (hr2 d (by simp))
 have cp:=fG p (hm2 p (by simp))
 have cp2:=fG p2 (hm2 p2 (by simp))
 have cp3:=fG p3 (hm2 p3 (by simp))
 obtain⟨a1,a2,a3,a4⟩:=a
 obtain⟨b1,b2,b3,b4⟩:=b
 obtain⟨d1,d2,d3,d4⟩:=d
 simp only[Tru.e,Tru.cs,au,List.map_cons,List.map_nil,LLe,tL,arI,kZ,Rdr.e]at*
 simp (disch:=omega) only[go_sem,K.aX,↓reduceIte,c1,c2,c3,c4,Nat.reduceAdd,Nat.reduceSub]
 apply dY
 · apply eW
   apply aY
   · simp (disch:=omega) only[go_sem,K.bG,↓reduceIte,ca,cb,cd,cR,List.set_cons_zero,List.set_cons_succ,Int.reduceAdd,Int.reduceToNat,List.getElem?_cons_succ,List.getElem?_cons_zero,Nat.reduceAdd,Nat.reduceSub]
     rfl
   apply aY
   · simp (disch:=omega) only[go_sem,K.bG,↓reduceIte,ca,cb,cd,cR,List.set_cons_zero,List.set_cons_succ,Int.reduceAdd,Int.reduceToNat,List.getElem?_cons_succ,List.getElem?_cons_zero,Nat.reduceAdd,Nat.reduceSub]
     rfl
   apply aY
   · simp (disch:=omega) only[go_sem,K.bG,↓reduceIte,ca,cb,cd,cR,List.set_cons_zero,List.set_cons_succ,Int.reduceAdd,Int.reduceToNat,List.getElem?_cons_succ,List.getElem?_cons_zero,Nat.reduceAdd,Nat.reduceSub]
     rfl
   apply bj
   · simp (disch:=omega) only[go_sem,K.bG,↓reduceIte,Int.reduceAdd,Nat.reduceAdd,Nat.reduceSub]
     rfl
   · simp
 simp (disch:=omega) only[go_sem,K.aX,↓reduceIte,c5,c6,Nat.reduceAdd,Nat.reduceSub]
 apply dY
 · apply eW
   apply aY
   · simp (disch:=omega) only[go_sem,K.bH,↓reduceIte,cp,cp2,cp3,cR,List.set_cons_zero,List.set_cons_succ,Int.reduceAdd,Int.reduceToNat,List.getElem?_cons_succ,List.getElem?_cons_zero,Nat.reduceAdd,Nat.reduceSub]
     rfl
   apply aY
   · simp (disch:=omega) only[go_sem,K.bH,↓reduceIte,cp,cp2,cp3,cR,List.set_cons_zero,List.set_cons_succ,Int.reduceAdd,Int.reduceToNat,List.getElem?_cons_succ,List.getElem?_cons_zero,Nat.reduceAdd,Nat.reduceSub]
     rfl
   apply aY
   · simp (disch:=omega) only[go_sem,K.bH,↓reduceIte,cp,cp2,cp3,cR,List.set_cons_zero,List.set_cons_succ,Int.reduceAdd,Int.reduceToNat,List.getElem?_cons_succ,List.getElem?_cons_zero,Nat.reduceAdd,Nat.reduceSub]
     rfl
   apply bj
   · simp (disch:=omega) only[go_sem,K.bH,↓reduceIte,Int.reduceAdd,Nat.reduceAdd,Nat.reduceSub]
     rfl
   · simp
 simp (disch:=omega) only[go_sem,K.aX,↓reduceIte,c5,c6,Nat.reduceAdd,Nat.reduceSub]
def aL(people:List Wlk)(pl:List Int)(m:Int)(tags:List Int):Nat→List Int
 | 0=>[]
 | j+1=>if bO people pl j&& !eP m j then aL people pl m tags j++[nth tags j]else aL people pl m tags j
theorem eH(people:List Wlk)(pl:List Int)(m:Int)(tags:List Int):∀j,(aL people pl m tags j).length≤j
 | 0=>Nat.le_refl _
 | j+1=>by
   have:=eH people pl m tags j
   rw[aL]
   split
   · rw[List.length_append,List.length_singleton];omega
   · omega
theorem ko(m:Int)(j:Nat)(H:aj):fF H .shr (some (I m)) (some (I j))=some (I (m.fdiv (2 ^ min j 64)),H):=by
 have h:fF H .shr (some (.t (.int .i64 m))) (some (.t (.int .i64 (j:Int))))=some (.t (.int .i64 (m.fdiv (2 ^ min (j:Int).toNat IntKind.i64.bits))),H):=vO _ _ _ _ _ (by omega)
 exact h
def uE(x:Tru)(a:Rdr)(p:List Int)(m off:Int)(oN oL:Obj)(num:Int)(j:Nat)(st:St):Prop:=∃W:List Wlk,W.length≤j∧(∀i,i<j→(cV x.people a.pl a.miss m p) i=false)∧st=⟨[.und,I 0,I m,.und,.bp 0 0,.bp 1 0,.bp 2 0,.und,.bp 3 0,.bp 9 0,.und,.und,.bp 10 0,.und,.und,.und,.und,.und,.t (.sl (x.people.map Wlk.e)),I x.people.length,I j],[.box (x.cs.map .t),.box ae,.box [I 0,I 0,I 0,.nil],.box [.t (tL a.pl),I a.per,I a.miss,I a.skew],.arr 4 false 0 [.t a.e],oN,oL,.arr 1 false 0 [.ref 8 0 p.length],arI (a7 (bI x.people a.pl m p) p j),.box (au 4 x),.box [I 0,I num,I (x.time+off),.ref 12 0 (aL x.people a.pl m x.tags j).length],.arr 1 false 0 [],arI (aL x.people a.pl m x.tags j)]++(W.map fun w=> .box [I w.place,I w.kT,I w.left])⟩
def Dl(x:Tru)(a:Rdr)(p:List Int)(m off:Int)(oN oL:Obj)(num:Int)(q:Ex×St):Prop:=((List.range x.people.length).any (cV x.people a.pl a.miss m p)=true∧∃(v0 v3 v8 v9 v10:D) (vr:List D) (rest:aj),q=(.ret,⟨v0::I 0::I m::v3:: .bp 0 0:: .bp 1 0:: .bp 2 0::I 43::vr,.box (x.cs.map .t):: .box (x.cs.map .t):: .box [I 0,I 0,I 0,.nil]::rest⟩))∨((List.range x.people.length).any (cV x.people a.pl a.miss m p)=false∧∃st,uE x a p m off oN oL num x.people.length st∧q=(.exit 1,st))
theorem LK{x:Tru}(h:x.ok){a:Rdr}{p:List Int}(e1:x.readers=[a])(e2:x.missed=[p])(m off:Int)(oN oL:Obj)(num:Int)(j:Nat)(st:St)(hj:j<x.people.length)(hp:uE x a p m off oN oL num j st):
 (∃st',eB false [0,3,7,10,11,13,14,15,16,17] st.H.length (exS aT K.aa st)=some st'∧uE x a p m off oN oL num (j+1) st')∨∃q,exS aT K.aa st=some q∧q.1≠ .normal∧Dl x a p m off oN oL num q:=by
 have n3:=h.n3
 have tl:=h.tl
 have nl:=h.nl
 have ll:=h.ll
 have t0:=h.t0
 have t1:=h.t1
 have nb:=h.nb 0 (by rw[e1];simp)
 have mb:=h.mb 0 (by rw[e1];simp)
 have m2:=h.m2 0 (by rw[e1];simp)
 have rk:nth x.readers 0=a:=by rw[e1];rfl
 have mk:nth x.missed 0=p:=by rw[e2];rfl
 have ml:x.missed.length=1:=by rw[e2];rfl
 have rn:x.readers.length=1:=by rw[e1];rfl
 have ro:=h.r a (by rw[e1];simp)
 rw[rk,mk]at mb
 rw[mk]at m2
 obtain⟨rs,rl,rl1,rp1,rp2,rm1,rm2,rk1,rk2⟩:=ro
 have ex:(x.people.map Wlk.e)[j]?=some (nth x.people j).e:=aD _ hj
 have et:(x.tags.map (T.int .i64))[j]?=some (tI (nth x.tags j)):=aD _ (by omega)
 have hs:=iF a.pl (nth x.people j).place (by omega)
 have mbj:=mb j hj
 have sh:=ko m j
 have an:=fJ m j
 obtain⟨W,wl,hb,rfl⟩:=hp
 have ql:=cD (bI x.people a.pl m p) p j
 have qj:=iI (bI x.people a.pl m p) p j j (Nat.le_refl _)
 have sl:=eH x.people a.pl m x.tags j
 by_cases hq:(cV x.people a.pl a.miss m p) j=true
 · have anyb:(List.range x.people.length).any (cV x.people a.pl a.miss m p)=true:=List.any_eq_true.2 ⟨j,List.mem_range.2 hj,hq⟩
   unfold cV bO eP at hq
   simp only[Bool.and_eq_true,decide_eq_true_eq]at hq
   obtain⟨⟨h1,h2⟩,h3⟩:=hq
   generalize a7 _ p j=q at*
   generalize aL x.people a.pl m x.tags j=g at*
   rw[← qj]at h3
   have nse:nth (q.set j (nth q j+1)) j=nth q j+1:=aK (by omega)
   rw[decide_eq_true h1]at hs
   have key:∃(v0 v3:D) (vr:List D) (rest:aj),exS aT K.aa ⟨[.und,I 0,I m,.und,.bp 0 0,.bp 1 0,.bp 2 0,.und,.bp 3 0,.bp 9 0,.und,.und,.bp 10 0,.und,.und,.und,.und,.und,.t (.sl (x.people.map Wlk.e)),I x.people.length,I j],[.box (x.cs.map .t),.box ae,.box [I 0,I 0,I 0,.nil],.box [.t (tL a.pl),I a.per,I a.miss,I a.skew],.arr 4 false 0 [.t a.e],oN,oL,.arr 1 false 0 [.ref 8 0 p.length],arI q,.box (au 4 x),.box [I 0,I num,I (x.time+off),.ref 12 0 g.length],.arr 1 false 0 [],arI g]++(W.map fun w=> .box [I w.place,I w.kT,I w.left])⟩=some (.ret,⟨v0::I 0::I m::v3:: .bp 0 0:: .bp 1 0:: .bp 2 0::I 43::vr,.box (x.cs.map .t):: .box (x.cs.map .t):: .box [I 0,I 0,I 0,.nil]::rest⟩):=by
    generalize nth x.people j=y at*
    obtain⟨y1,y2,y3⟩:=y
    rcases W with _ | ⟨w,_ | ⟨w2,_ | ⟨w3,W⟩⟩⟩
    · obtain⟨⟨places,roads⟩,time,people,tags,readers,numbers,looked,missed⟩:=x
      simp only[ae,Tru.cs,au,Rdr.e,arI,List.cons_append,List.nil_append,List.map_cons,List.map_nil,LLe,tL,ml,rn,Nat.reduceAdd,Nat.reduceSub,List.length_cons,List.length_nil]at*
      simp (disch:=omega) only[go_sem,K.aa,↓reduceIte,ex,hs,sh,an,h2,nse,h3,ai,List.length_set,ql,List.map_append,List.map_cons,List.map_nil,List.length_append,List.length_singleton,gt_iff_lt,Nat.reduceAdd,Nat.reduceSub]
      exact⟨_,_,_,_,rfl⟩
    · obtain⟨⟨places,roads⟩,time,people,tags,readers,numbers,looked,missed⟩:=x
      simp only[ae,Tru.cs,au,Rdr.e,arI,List.cons_append,List.nil_append,List.map_cons,List.map_nil,LLe,tL,ml,rn,Nat.reduceAdd,Nat.reduceSub,List.length_cons,List.length_nil]at*
      simp (disch:=omega) only[go_sem,K.aa,↓reduceIte,ex,hs,sh,an,h2,nse,h3,ai,List.length_set,ql,List.map_append,List.map_cons,List.map_nil,List.length_append,List.length_singleton,gt_iff_lt,Nat.reduceAdd,Nat.reduceSub]
      exact⟨_,_,_,_,rfl⟩
    · obtain⟨⟨places,roads⟩,time,people,tags,readers,numbers,looked,missed⟩:=x
      simp only[ae,Tru.cs,au,Rdr.e,arI,List.cons_append,List.nil_append,List.map_cons,List.map_nil,LLe,tL,ml,rn,Nat.reduceAdd,Nat.reduceSub,List.length_cons,List.length_nil]at*
      simp (disch:=omega) only[go_sem,K.aa,↓reduceIte,ex,hs,sh,an,h2,nse,h3,ai,List.length_set,ql,List.map_append,List.map_cons,List.map_nil,List.length_append,List.length_singleton,gt_iff_lt,Nat.reduceAdd,Nat.reduceSub]
      exact⟨_,_,_,_,rfl⟩
    · simp only[List.length_cons]at wl;omega
   obtain⟨v0,v3,vr,rest,key⟩:=key
   exact .inr ⟨_,key,by simp,.inl ⟨anyb,v0,v3,v0,v0,v0,vr,rest,rfl⟩⟩
 · have hq:(cV x.people a.pl a.miss m p) j=false:=by simpa using hq
   have hb2:∀i,i<j+1→(cV x.people a.pl a.miss m p) i=false:=fun i hi=>by
    by_cases c:i=j
    · rw[c];exact hq
    · exact hb i (by omega)
   left
   by_cases h1:(nth x.people j).place∈a.pl
   · rw[decide_eq_true h1]at hs
     by_cases h2:sM m j=1
     · have nw:(bI x.people a.pl m p) j=nth p j+1:=by unfold bI bO eP;rw[decide_eq_true h1,decide_eq_true h2];rfl
       have nl0:¬a.miss<nth p j+1:=by
        unfold cV bO eP at hq
        rw[decide_eq_true h1,decide_eq_true h2]at hq
        simpa using hq
       have ss1:aL x.people a.pl m x.tags (j+1)=aL x.people a.pl m x.tags j:=by rw[aL];unfold bO eP;rw[decide_eq_true h1,decide_eq_true h2];rfl
       have rs1:a7 (bI x.people a.pl m p) p (j+1)=(a7 (bI x.people a.pl m p) p j).set j (nth p j+1):=by rw[a7,nw]
       generalize hy:nth x.people j=y at*
       rcases W with _ | ⟨w,_ | ⟨w2,_ | ⟨w3,W⟩⟩⟩
       · refine⟨_,?_,[]++[y],by simp only[List.length_cons,List.length_nil,List.length_append]at *;omega,hb2,rfl⟩
         rw[rs1,ss1]
         generalize a7 _ p j=q at*
         generalize aL x.people a.pl m x.tags j=g at*
         rw[← qj]at nl0 ⊢
         have nse:nth (q.set j (nth q j+1)) j=nth q j+1:=aK (by omega)
         obtain⟨y1,y2,y3⟩:=y
         obtain⟨⟨places,roads⟩,time,people,tags,readers,numbers,looked,missed⟩:=x
         simp only[ae,Tru.cs,au,Rdr.e,arI,List.cons_append,List.nil_append,List.map_cons,List.map_nil,LLe,tL,ml,rn,Nat.reduceAdd,Nat.reduceSub,List.length_cons,List.length_nil]at*
         simp (disch:=omega) only[go_sem,K.aa,↓reduceIte,ex,hs,sh,an,h2,nse,nl0,ai,List.length_set,ql,List.map_append,List.map_cons,List.map_nil,List.length_append,List.length_singleton,gt_iff_lt,Nat.reduceAdd,Nat.reduceSub]
       · refine⟨_,?_,[w]++[y],by simp only[List.length_cons,List.length_nil,List.length_append]at *;omega,hb2,rfl⟩
         rw[rs1,ss1]
         generalize a7 _ p j=q at*
         generalize aL x.people a.pl m x.tags j=g at*
         rw[← qj]at nl0 ⊢
         have nse:nth (q.set j (nth q j+1)) j=nth q j+1:=aK (by omega)
         obtain⟨y1,y2,y3⟩:=y
         obtain⟨⟨places,roads⟩,time,people,tags,readers,numbers,looked,missed⟩:=x
         simp only[ae,Tru.cs,au,Rdr.e,arI,List.cons_append,List.nil_append,List.map_cons,List.map_nil,LLe,tL,ml,rn,Nat.reduceAdd,Nat.reduceSub,List.length_cons,List.length_nil]at*
         simp (disch:=omega) only[go_sem,K.aa,↓reduceIte,ex,hs,sh,an,h2,nse,nl0,ai,List.length_set,ql,List.map_append,List.map_cons,List.map_nil,List.length_append,List.length_singleton,gt_iff_lt,Nat.reduceAdd,Nat.reduceSub]
       · refine⟨_,?_,[w,w2]++[y],by simp only[List.length_cons,List.length_nil,List.length_append]at *;omega,hb2,rfl⟩
         rw[rs1,ss1]
         generalize a7 _ p j=q at*
         generalize aL x.people a.pl m x.tags j=g at*
         rw[← qj]at nl0 ⊢
         have nse:nth (q.set j (nth q j+1)) j=nth q j+1:=aK (by omega)
         obtain⟨y1,y2,y3⟩:=y
         obtain⟨⟨places,roads⟩,time,people,tags,readers,numbers,looked,missed⟩:=x
         simp only[ae,Tru.cs,au,Rdr.e,arI,List.cons_append,List.nil_append,List.map_cons,List.map_nil,LLe,tL,ml,rn,Nat.reduceAdd,Nat.reduceSub,List.length_cons,List.length_nil]at*
         simp (disch:=omega) only[go_sem,K.aa,↓reduceIte,ex,hs,sh,an,h2,nse,nl0,ai,List.length_set,ql,List.map_append,List.map_cons,List.map_nil,List.length_append,List.length_singleton,gt_iff_lt,Nat.reduceAdd,Nat.reduceSub]
       · simp only[List.length_cons]at wl;omega
     · have nw:(bI x.people a.pl m p) j=0:=by unfold bI bO eP;rw[decide_eq_true h1,decide_eq_false h2];rfl
       have ss1:aL x.people a.pl m x.tags (j+1)=aL x.people a.pl m x.tags j++[nth x.tags j]:=by rw[aL];unfold bO eP;rw[decide_eq_true h1,decide_eq_false h2];rfl
       have rs1:a7 (bI x.people a.pl m p) p (j+1)=(a7 (bI x.people a.pl m p) p j).set j 0:=by rw[a7,nw]
       generalize hy:nth x.people j=y at*
       rcases W with _ | ⟨w,_ | ⟨w2,_ | ⟨w3,W⟩⟩⟩
       · refine⟨_,?_,[]++[y],by simp only[List.length_cons,List.length_nil,List.length_append]at *;omega,hb2,rfl⟩
         rw[rs1,ss1]
         generalize a7 _ p j=q at*
         generalize aL x.people a.pl m x.tags j=g at*
         obtain⟨y1,y2,y3⟩:=y
         obtain⟨⟨places,roads⟩,time,people,tags,readers,numbers,looked,missed⟩:=x
         simp only[ae,Tru.cs,au,Rdr.e,arI,List.cons_append,List.nil_append,List.map_cons,List.map_nil,LLe,tL,ml,rn,Nat.reduceAdd,Nat.reduceSub,List.length_cons,List.length_nil]at*
         simp (disch:=omega) only[go_sem,K.aa,↓reduceIte,ex,hs,sh,an,h2,et,ai,List.length_set,ql,List.map_append,List.map_cons,List.map_nil,List.length_append,List.length_singleton,gt_iff_lt,Nat.reduceAdd,Nat.reduceSub]
       · refine⟨_,?_,[w]++[y],by simp only[List.length_cons,List.length_nil,List.length_append]at *;omega,hb2,rfl⟩
         rw[rs1,ss1]
         generalize a7 _ p j=q at*
         generalize aL x.people a.pl m x.tags j=g at*
         obtain⟨y1,y2,y3⟩:=y
         obtain⟨⟨places,roads⟩,time,people,tags,readers,numbers,looked,missed⟩:=x
         simp only[ae,Tru.cs,au,Rdr.e,arI,List.cons_append,List.nil_append,List.map_cons,List.map_nil,LLe,tL,ml,rn,Nat.reduceAdd,Nat.reduceSub,List.length_cons,List.length_nil]at*
         simp (disch:=omega) only[go_sem,K.aa,↓reduceIte,ex,hs,sh,an,h2,et,ai,List.length_set,ql,List.map_append,List.map_cons,List.map_nil,List.length_append,List.length_singleton,gt_iff_lt,Nat.reduceAdd,Nat.reduceSub]
       · refine⟨_,?_,[w,w2]++[y],by simp only[List.length_cons,List.length_nil,List.length_append]at *;omega,hb2,rfl⟩
         rw[rs1,ss1]
         generalize a7 _ p j=q at*
         generalize aL x.people a.pl m x.tags j=g at*
         obtain⟨y1,y2,y3⟩:=y
         obtain⟨⟨places,roads⟩,time,people,tags,readers,numbers,looked,missed⟩:=x
         simp only[ae,Tru.cs,au,Rdr.e,arI,List.cons_append,List.nil_append,List.map_cons,List.map_nil,LLe,tL,ml,rn,Nat.reduceAdd,Nat.reduceSub,List.length_cons,List.length_nil]at*
         simp (disch:=omega) only[go_sem,K.aa,↓reduceIte,ex,hs,sh,an,h2,et,ai,List.length_set,ql,List.map_append,List.map_cons,List.map_nil,List.length_append,List.length_singleton,gt_iff_lt,Nat.reduceAdd,Nat.reduceSub]
       · simp only[List.length_cons]at wl;omega
   · have nw:(bI x.people a.pl m p) j=0:=by unfold bI bO eP;rw[decide_eq_false h1];rfl
     have ss1:aL x.people a.pl m x.tags (j+1)=aL x.people a.pl m x.tags j:=by rw[aL];unfold bO eP;rw[decide_eq_false h1];rfl
     have rs1:a7 (bI x.people a.pl m p) p (j+1)=(a7 (bI x.people a.pl m p) p j).set j 0:=by rw[a7,nw]
     rw[decide_eq_false h1]at hs
     by_cases h2:sM m j=1
     · generalize hy:nth x.people j=y at*
       rcases W with _ | ⟨w,_ | ⟨w2,_ | ⟨w3,W⟩⟩⟩
       · refine⟨_,?_,[]++[y],by simp only[List.length_cons,List.length_nil,List.length_append]at *;omega,hb2,rfl⟩
         rw[rs1,ss1]
         generalize a7 _ p j=q at*
         generalize aL x.people a.pl m x.tags j=g at*
         obtain⟨y1,y2,y3⟩:=y
         obtain⟨⟨places,roads⟩,time,people,tags,readers,numbers,looked,missed⟩:=x
         simp only[ae,Tru.cs,au,Rdr.e,arI,List.cons_append,List.nil_append,List.map_cons,List.map_nil,LLe,tL,ml,rn,Nat.reduceAdd,Nat.reduceSub,List.length_cons,List.length_nil]at*
         simp (disch:=omega) only[go_sem,K.aa,↓reduceIte,ex,hs,sh,an,h2,ai,List.length_set,ql,List.map_append,List.map_cons,List.map_nil,List.length_append,List.length_singleton,gt_iff_lt,Nat.reduceAdd,Nat.reduceSub]
       · refine⟨_,?_,[w]++[y],by simp only[List.length_cons,List.length_nil,List.length_append]at *;omega,hb2,rfl⟩
         rw[rs1,ss1]
         generalize a7 _ p j=q at*
         generalize aL x.people a.pl m x.tags j=g at*
         obtain⟨y1,y2,y3⟩:=y
         obtain⟨⟨places,roads⟩,time,people,tags,readers,numbers,looked,missed⟩:=x
         simp only[ae,Tru.cs,au,Rdr.e,arI,List.cons_append,List.nil_append,List.map_cons,List.map_nil,LLe,tL,ml,rn,Nat.reduceAdd,Nat.reduceSub,List.length_cons,List.length_nil]at*
         simp (disch:=omega) only[go_sem,K.aa,↓reduceIte,ex,hs,sh,an,h2,ai,List.length_set,ql,List.map_append,List.map_cons,List.map_nil,List.length_append,List.length_singleton,gt_iff_lt,Nat.reduceAdd,Nat.reduceSub]
       · refine⟨_,?_,[w,w2]++[y],by simp only[List.length_cons,List.length_nil,List.length_append]at *;omega,hb2,rfl⟩
         rw[rs1,ss1]
         generalize a7 _ p j=q at*
         generalize aL x.people a.pl m x.tags j=g at*
         obtain⟨y1,y2,y3⟩:=y
         obtain⟨⟨places,roads⟩,time,people,tags,readers,numbers,looked,missed⟩:=x
         simp only[ae,Tru.cs,au,Rdr.e,arI,List.cons_append,List.nil_append,List.map_cons,List.map_nil,LLe,tL,ml,rn,Nat.reduceAdd,Nat.reduceSub,List.length_cons,List.length_nil]at*
         simp (disch:=omega) only[go_sem,K.aa,↓reduceIte,ex,hs,sh,an,h2,ai,List.length_set,ql,List.map_append,List.map_cons,List.map_nil,List.length_append,List.length_singleton,gt_iff_lt,Nat.reduceAdd,Nat.reduceSub]
       · simp only[List.length_cons]at wl;omega
     · generalize hy:nth x.people j=y at*
       rcases W with _ | ⟨w,_ | ⟨w2,_ | ⟨w3,W⟩⟩⟩
       · refine⟨_,?_,[]++[y],by simp only[List.length_cons,List.length_nil,List.length_append]at *;omega,hb2,rfl⟩
         rw[rs1,ss1]
         generalize a7 _ p j=q at*
         generalize aL x.people a.pl m x.tags j=g at*
         obtain⟨y1,y2,y3⟩:=y
         obtain⟨⟨places,roads⟩,time,people,tags,readers,numbers,looked,missed⟩:=x
         simp only[ae,Tru.cs,au,Rdr.e,arI,List.cons_append,List.nil_append,List.map_cons,List.map_nil,LLe,tL,ml,rn,Nat.reduceAdd,Nat.reduceSub,List.length_cons,List.length_nil]at*
         simp (disch:=omega) only[go_sem,K.aa,↓reduceIte,ex,hs,sh,an,h2,ai,List.length_set,ql,List.map_append,List.map_cons,List.map_nil,List.length_append,List.length_singleton,gt_iff_lt,Nat.reduceAdd,Nat.reduceSub]
       · refine⟨_,?_,[w]++[y],by simp only[List.length_cons,List.length_nil,List.length_append]at *;omega,hb2,rfl⟩
         rw[rs1,ss1]
         generalize a7 _ p j=q at*
         generalize aL x.people a.pl m x.tags j=g at*
         obtain⟨y1,y2,y3⟩:=y
         obtain⟨⟨places,roads⟩,time,people,tags,readers,numbers,looked,missed⟩:=x
         simp only[ae,Tru.cs,au,Rdr.e,arI,List.cons_append,List.nil_append,List.map_cons,List.map_nil,LLe,tL,ml,rn,Nat.reduceAdd,Nat.reduceSub,List.length_cons,List.length_nil]at*
         simp (disch:=omega) only[go_sem,K.aa,↓reduceIte,ex,hs,sh,an,h2,ai,List.length_set,ql,List.map_append,List.map_cons,List.map_nil,List.length_append,List.length_singleton,gt_iff_lt,Nat.reduceAdd,Nat.reduceSub]
       · refine⟨_,?_,[w,w2]++[y],by simp only[List.length_cons,List.length_nil,List.length_append]at *;omega,hb2,rfl⟩
         rw[rs1,ss1]
         generalize a7 _ p j=q at*
         generalize aL x.people a.pl m x.tags j=g at*
         obtain⟨y1,y2,y3⟩:=y
         obtain⟨⟨places,roads⟩,time,people,tags,readers,numbers,looked,missed⟩:=x
         simp only[ae,Tru.cs,au,Rdr.e,arI,List.cons_append,List.nil_append,List.map_cons,List.map_nil,LLe,tL,ml,rn,Nat.reduceAdd,Nat.reduceSub,List.length_cons,List.length_nil]at*
         simp (disch:=omega) only[go_sem,K.aa,↓reduceIte,ex,hs,sh,an,h2,ai,List.length_set,ql,List.map_append,List.map_cons,List.map_nil,List.length_append,List.length_singleton,gt_iff_lt,Nat.reduceAdd,Nat.reduceSub]
       · simp only[List.length_cons]at wl;omega
theorem LL{x:Tru}(h:x.ok){a:Rdr}{p:List Int}(e1:x.readers=[a])(e2:x.missed=[p])(m off:Int)(oN oL:Obj)(num:Int)(z0 z3 z7 z10 z11 z13 z14 z15 z16 z17:D):∃q,exS aT K.fx ⟨[z0,I 0,I m,z3,.bp 0 0,.bp 1 0,.bp 2 0,z7,.bp 3 0,.bp 9 0,z10,z11,.bp 10 0,z13,z14,z15,z16,z17,.t (.sl (x.people.map Wlk.e)),I x.people.length,I 0],[.box (x.cs.map .t),.box ae,.box [I 0,I 0,I 0,.nil],.box [.t (tL a.pl),I a.per,I a.miss,I a.skew],.arr 4 false 0 [.t a.e],oN,oL,.arr 1 false 0 [.ref 8 0 p.length],arI p,.box (au 4 x),.box [I 0,I num,I (x.time+off),.ref 12 0 0],.arr 1 false 0 [],arI ([]:List Int)]⟩=some q∧Dl x a p m off oN oL num q:=by
 have n3:=h.n3
 have tl:=h.tl
 have nl:=h.nl
 have ll:=h.ll
 have t0:=h.t0
 have t1:=h.t1
 have nb:=h.nb 0 (by rw[e1];simp)
 have mb:=h.mb 0 (by rw[e1];simp)
 have m2:=h.m2 0 (by rw[e1];simp)
 have rk:nth x.readers 0=a:=by rw[e1];rfl
 have mk:nth x.missed 0=p:=by rw[e2];rfl
 have ml:x.missed.length=1:=by rw[e2];rfl
 have rn:x.readers.length=1:=by rw[e1];rfl
 have ro:=h.r a (by rw[e1];simp)
 rw[rk,mk]at mb
 rw[mk]at m2
 obtain⟨rs,rl,rl1,rp1,rp2,rm1,rm2,rk1,rk2⟩:=ro
 refine fI (uE x a p m off oN oL num) x.people.length _ ⟨[],Nat.le_refl _,fun i hi=>absurd hi (by omega),rfl⟩ (fun j st hj hp=>LK h e1 e2 m off oN oL num j st hj hp) ?_
 intro st hp
 refine⟨(.exit 1,st),?_,by simp,.inr ⟨?_,st,hp,rfl⟩⟩
 · obtain⟨W,wl,hb,rfl⟩:=hp
   have wl:=Nat.le_trans wl n3
   generalize a7 _ p _=q at*
   generalize aL x.people a.pl m x.tags _=g at*
   rcases W with _ | ⟨w,_ | ⟨w2,_ | ⟨w3,_ | ⟨w4,W⟩⟩⟩⟩
   · obtain⟨⟨places,roads⟩,time,people,tags,readers,numbers,looked,missed⟩:=x
     simp only[ae,Tru.cs,au,Rdr.e,arI,List.cons_append,List.nil_append,List.map_cons,List.map_nil,LLe,tL,ml,rn,Nat.reduceAdd,Nat.reduceSub,List.length_cons,List.length_nil]at*
     simp (disch:=omega) only[go_sem,K.aa,↓reduceIte,Nat.reduceAdd,Nat.reduceSub]
   · obtain⟨⟨places,roads⟩,time,people,tags,readers,numbers,looked,missed⟩:=x
     simp only[ae,Tru.cs,au,Rdr.e,arI,List.cons_append,List.nil_append,List.map_cons,List.map_nil,LLe,tL,ml,rn,Nat.reduceAdd,Nat.reduceSub,List.length_cons,List.length_nil]at*
     simp (disch:=omega) only[go_sem,K.aa,↓reduceIte,Nat.reduceAdd,Nat.reduceSub]
   · obtain⟨⟨places,roads⟩,time,people,tags,readers,numbers,looked,missed⟩:=x
     simp only[ae,Tru.cs,au,Rdr.e,arI,List.cons_append,List.nil_append,List.map_cons,List.map_nil,LLe,tL,ml,rn,Nat.reduceAdd,Nat.reduceSub,List.length_cons,List.length_nil]at*
     simp (disch:=omega) only[go_sem,K.aa,↓reduceIte,Nat.reduceAdd,Nat.reduceSub]
   · obtain⟨⟨places,roads⟩,time,people,tags,readers,numbers,looked,missed⟩:=x
     simp only[ae,Tru.cs,au,Rdr.e,arI,List.cons_append,List.nil_append,List.map_cons,List.map_nil,LLe,tL,ml,rn,Nat.reduceAdd,Nat.reduceSub,List.length_cons,List.length_nil]at*
     simp (disch:=omega) only[go_sem,K.aa,↓reduceIte,Nat.reduceAdd,Nat.reduceSub]
   · simp only[List.length_cons]at wl;omega
 · obtain⟨W,wl,hb,rfl⟩:=hp
   rw[List.any_eq_false]
   intro i hi
   rw[hb i (List.mem_range.1 hi)]
   decide
set_option maxHeartbeats 4000000 in
theorem Dm{x:Tru}(h:x.ok){a:Rdr}{p:List Int}(e1:x.readers=[a])(e2:x.missed=[p])(m off:Int)(o1: -a.skew≤off)(o2:off≤a.skew)(o3:0≤x.time+off)(o4:x.time+off≤2147483648):
 aT 0 N.ag [.t x.e,I 0,I m,I off] []=some (if nQ x 0 m then .tup [.t x.e,.t (dJ 0 0 0 []),I 43]else .tup [.t (du x 0 m).e,.t (dJ 0 (lg x 0) (x.time+off) (fZ (aL x.people a.pl m x.tags x.people.length))),I 0],[]):=by
 have n3:=h.n3
 have tl:=h.tl
 have nl:=h.nl
 have ll:=h.ll
 have t0:=h.t0
 have t1:=h.t1
 have nb:=h.nb 0 (by rw[e1];simp)
 have mb:=h.mb 0 (by rw[e1];simp)
 have m2:=h.m2 0 (by rw[e1];simp)
 have rk:nth x.readers 0=a:=by rw[e1];rfl
 have mk:nth x.missed 0=p:=by rw[e2];rfl
 have ml:x.missed.length=1:=by rw[e2];rfl
 have rn:x.readers.length=1:=by rw[e1];rfl
 have ro:=h.r a (by rw[e1];simp)
 rw[rk,mk]at mb
 rw[mk]at m2
 obtain⟨rs,rl,rl1,rp1,rp2,rm1,rm2,rk1,rk2⟩:=ro
 have sz:=h.sz
 have cp:=AG sz e1 e2
 have va:=jy h
 have lpL:=LL h e1 e2 m off
 have scl:∀(y:Tru) (r:T) (v:Int),([D.t y.e,D.t r,I v].all bz)=false:=fun _ _ _=>rfl
 have sl:=eH x.people a.pl m x.tags x.people.length
 have so:=pD 0 (aL x.people a.pl m x.tags x.people.length) (by omega)
 have sol:=eZ (aL x.people a.pl m x.tags x.people.length)
 have i1:=hT 0 0 ((1:Int)-1)
 have i2:=hT off (0-a.skew) a.skew
 have i3:=hT (x.time+off) 0 2147483648
 rw[decide_eq_true (by omega)]at i1 i2 i3
 unfold nQ du lg
 rw[rk,mk]
 have en:(x.numbers.map (T.int .i64))[0]?=some (tI (nth x.numbers 0)):=aD _ (by omega)
 have el:(x.looked.map (T.int .i64))[0]?=some (tI (nth x.looked 0)):=aD _ (by omega)
 generalize nth x.numbers 0=nu at*
 generalize nth x.looked 0=lo at*
 refine aB K.fk rfl ?_
 have qe:∀(b:Prop) [Decidable b],(nu+if b then 2 else 1)=if b then nu+2 else nu+1:=fun b _=>by split<;>rfl
 have wl:=cD (bI x.people a.pl m p) p x.people.length
 by_cases bq:(List.range x.people.length).any (cV x.people a.pl a.miss m p)=true
 · rw[if_pos bq]
   obtain⟨⟨places,roads⟩,time,people,tags,readers,numbers,looked,missed⟩:=x
   subst e1 e2
   simp only[ae,Tru.e,Tru.cs,au,arI,kZ,tLL,Rdr.e,List.map_cons,List.map_nil,LLe,tL]at*
   by_cases ca:0≤lo
   · by_cases cb:a.per<time-lo
     · simp (disch:=omega) only[go_sem,K.ag,↓reduceIte,cp,va,i1,i2,i3,en,el,ca,cb,gt_iff_lt,ai,List.length_set,Nat.reduceAdd,Nat.reduceSub]
       refine b7 _ (lpL _ _ _ _ _ _ _ _ _ _ _ _ _) ?_
       rintro q (⟨_,v0,v3,_,_,_,vr,rest,rfl⟩ | ⟨n,_⟩)
       · simp (disch:=omega) only[go_sem,K.ag,↓reduceIte,scl,Nat.reduceAdd,Nat.reduceSub]
         rfl
       · rw[n]at bq;cases bq
     · simp (disch:=omega) only[go_sem,K.ag,↓reduceIte,cp,va,i1,i2,i3,en,el,ca,cb,gt_iff_lt,ai,List.length_set,Nat.reduceAdd,Nat.reduceSub]
       refine b7 _ (lpL _ _ _ _ _ _ _ _ _ _ _ _ _) ?_
       rintro q (⟨_,v0,v3,_,_,_,vr,rest,rfl⟩ | ⟨n,_⟩)
       · simp (disch:=omega) only[go_sem,K.ag,↓reduceIte,scl,Nat.reduceAdd,Nat.reduceSub]
         rfl
       · rw[n]at bq;cases bq
   · simp (disch:=omega) only[go_sem,K.ag,↓reduceIte,cp,va,i1,i2,i3,en,el,ca,gt_iff_lt,ai,List.length_set,Nat.reduceAdd,Nat.reduceSub]
     refine b7 _ (lpL _ _ _ _ _ _ _ _ _ _ _ _ _) ?_
     rintro q (⟨_,v0,v3,_,_,_,vr,rest,rfl⟩ | ⟨n,_⟩)
     · simp (disch:=omega) only[go_sem,K.ag,↓reduceIte,scl,Nat.reduceAdd,Nat.reduceSub]
       rfl
     · rw[n]at bq;cases bq
 · rw[if_neg bq]
   have qa:(x.numbers.set 0 ((nu+if 0≤lo∧a.per<x.time-lo then 2 else 1).tmod 65536)).length=x.numbers.length:=List.length_set ..
   generalize hg:aL x.people a.pl m x.tags x.people.length=g at*
   obtain⟨q,hq,hQ⟩:=lpL (arI (x.numbers.set 0 ((nu+if 0≤lo∧a.per<x.time-lo then 2 else 1).tmod 65536))) (arI (x.looked.set 0 x.time)) ((nu+if 0≤lo∧a.per<x.time-lo then 2 else 1).tmod 65536) (.t x.e) (I off) (I 0) (if 0≤lo∧a.per<x.time-lo then I 2 else I 1) (I ((nu+if 0≤lo∧a.per<x.time-lo then 2 else 1).tmod 65536)) .und .und .und .und .und
   rcases hQ with⟨n,_⟩ | ⟨_,st,⟨W,wl2,hb,rfl⟩,rfl⟩
   · exact absurd n bq
   rw[hg]at hq
   generalize a7 _ p _=w at*
   rcases W with _ | ⟨w1,_ | ⟨w2,_ | ⟨w3,_ | ⟨w4,W⟩⟩⟩⟩
   · obtain⟨⟨places,roads⟩,time,people,tags,readers,numbers,looked,missed⟩:=x
     subst e1 e2
     simp only[ae,Tru.e,Tru.cs,dJ,au,arI,kZ,tLL,Rdr.e,List.cons_append,List.nil_append,List.map_cons,List.map_nil,LLe,tL,Nat.reduceAdd,Nat.reduceSub,List.length_cons,List.length_nil]at*
     by_cases ca:0≤lo
     · by_cases cb:a.per<time-lo
       · simp only[if_pos (And.intro ca cb)]at hq ⊢
         simp (disch:=omega) only[go_sem,K.ag,↓reduceIte,cp,va,i1,i2,i3,en,el,ca,cb,gt_iff_lt,ai,hq,so,sol,wl,scl,List.length_set,Nat.reduceAdd,Nat.reduceSub]
       · simp only[if_neg (fun e:0≤lo∧a.per<time-lo=>cb e.2)]at hq ⊢
         simp (disch:=omega) only[go_sem,K.ag,↓reduceIte,cp,va,i1,i2,i3,en,el,ca,cb,gt_iff_lt,ai,hq,so,sol,wl,scl,List.length_set,Nat.reduceAdd,Nat.reduceSub]
     · simp only[if_neg (fun e:0≤lo∧a.per<time-lo=>ca e.1)]at hq ⊢
       simp (disch:=omega) only[go_sem,K.ag,↓reduceIte,cp,va,i1,i2,i3,en,el,ca,gt_iff_lt,ai,hq,so,sol,wl,scl,List.length_set,Nat.reduceAdd,Nat.reduceSub]
   · obtain⟨⟨places,roads⟩,time,people,tags,readers,numbers,looked,missed⟩:=x
     subst e1 e2
     simp only[ae,Tru.e,Tru.cs,dJ,au,arI,kZ,tLL,Rdr.e,List.cons_append,List.nil_append,List.map_cons,List.map_nil,LLe,tL,Nat.reduceAdd,Nat.reduceSub,List.length_cons,List.length_nil]at*
     by_cases ca:0≤lo
     · by_cases cb:a.per<time-lo
       · simp only[if_pos (And.intro ca cb)]at hq ⊢
         simp (disch:=omega) only[go_sem,K.ag,↓reduceIte,cp,va,i1,i2,i3,en,el,ca,cb,gt_iff_lt,ai,hq,so,sol,wl,scl,List.length_set,Nat.reduceAdd,Nat.reduceSub]
       · simp only[if_neg (fun e:0≤lo∧a.per<time-lo=>cb e.2)]at hq ⊢
         simp (disch:=omega) only[go_sem,K.ag,↓reduceIte,cp,va,i1,i2,i3,en,el,ca,cb,gt_iff_lt,ai,hq,so,sol,wl,scl,List.length_set,Nat.reduceAdd,Nat.reduceSub]
     · simp only[if_neg (fun e:0≤lo∧a.per<time-lo=>ca e.1)]at hq ⊢
       simp (disch:=omega) only[go_sem,K.ag,↓reduceIte,cp,va,i1,i2,i3,en,el,ca,gt_iff_lt,ai,hq,so,sol,wl,scl,List.length_set,Nat.reduceAdd,Nat.reduceSub]
   · obtain⟨⟨places,roads⟩,time,people,tags,readers,numbers,looked,missed⟩:=x
     subst e1 e2
     simp only[ae,Tru.e,Tru.cs,dJ,au,arI,kZ,tLL,Rdr.e,List.cons_append,List.nil_append,List.map_cons,List.map_nil,LLe,tL,Nat.reduceAdd,Nat.reduceSub,List.length_cons,List.length_nil]at*
     by_cases ca:0≤lo
     · by_cases cb:a.per<time-lo
       · simp only[if_pos (And.intro ca cb)]at hq ⊢
         simp (disch:=omega) only[go_sem,K.ag,↓reduceIte,cp,va,i1,i2,i3,en,el,ca,cb,gt_iff_lt,ai,hq,so,sol,wl,scl,List.length_set,Nat.reduceAdd,Nat.reduceSub]
       · simp only[if_neg (fun e:0≤lo∧a.per<time-lo=>cb e.2)]at hq ⊢
         simp (disch:=omega) only[go_sem,K.ag,↓reduceIte,cp,va,i1,i2,i3,en,el,ca,cb,gt_iff_lt,ai,hq,so,sol,wl,scl,List.length_set,Nat.reduceAdd,Nat.reduceSub]
     · simp only[if_neg (fun e:0≤lo∧a.per<time-lo=>ca e.1)]at hq ⊢
       simp (disch:=omega) only[go_sem,K.ag,↓reduceIte,cp,va,i1,i2,i3,en,el,ca,gt_iff_lt,ai,hq,so,sol,wl,scl,List.length_set,Nat.reduceAdd,Nat.reduceSub]
   · obtain⟨⟨places,roads⟩,time,people,tags,readers,numbers,looked,missed⟩:=x
     subst e1 e2
     simp only[ae,Tru.e,Tru.cs,dJ,au,arI,kZ,tLL,Rdr.e,List.cons_append,List.nil_append,List.map_cons,List.map_nil,LLe,tL,Nat.reduceAdd,Nat.reduceSub,List.length_cons,List.length_nil]at*
     by_cases ca:0≤lo
     · by_cases cb:a.per<time-lo
       · simp only[if_pos (And.intro ca cb)]at hq ⊢
         simp (disch:=omega) only[go_sem,K.ag,↓reduceIte,cp,va,i1,i2,i3,en,el,ca,cb,gt_iff_lt,ai,hq,so,sol,wl,scl,List.length_set,Nat.reduceAdd,Nat.reduceSub]
       · simp only[if_neg (fun e:0≤lo∧a.per<time-lo=>cb e.2)]at hq ⊢
         simp (disch:=omega) only[go_sem,K.ag,↓reduceIte,cp,va,i1,i2,i3,en,el,ca,cb,gt_iff_lt,ai,hq,so,sol,wl,scl,List.length_set,Nat.reduceAdd,Nat.reduceSub]
     · simp only[if_neg (fun e:0≤lo∧a.per<time-lo=>ca e.1)]at hq ⊢
       simp (disch:=omega) only[go_sem,K.ag,↓reduceIte,cp,va,i1,i2,i3,en,el,ca,gt_iff_lt,ai,hq,so,sol,wl,scl,List.length_set,Nat.reduceAdd,Nat.reduceSub]
   · simp only[List.length_cons]at wl2;omega
def uF(x:Tru)(a b:Rdr)(p p2:List Int)(m off:Int)(oN oL:Obj)(num:Int)(j:Nat)(st:St):Prop:=∃W:List Wlk,W.length≤j∧(∀i,i<j→(cV x.people a.pl a.miss m p) i=false)∧st=⟨[.und,I 0,I m,.und,.bp 0 0,.bp 1 0,.bp 2 0,.und,.bp 3 0,.bp 10 0,.und,.und,.bp 11 0,.und,.und,.und,.und,.und,.t (.sl (x.people.map Wlk.e)),I x.people.length,I j],[.box (x.cs.map .t),.box ae,.box [I 0,I 0,I 0,.nil],.box [.t (tL a.pl),I a.per,I a.miss,I a.skew],.arr 4 false 0 [.t a.e,.t b.e],oN,oL,.arr 1 false 0 [.ref 8 0 p.length,.ref 9 0 p2.length],arI (a7 (bI x.people a.pl m p) p j),arI p2,.box (au 4 x),.box [I 0,I num,I (x.time+off),.ref 13 0 (aL x.people a.pl m x.tags j).length],.arr 1 false 0 [],arI (aL x.people a.pl m x.tags j)]++(W.map fun w=> .box [I w.place,I w.kT,I w.left])⟩
def Dn(x:Tru)(a b:Rdr)(p p2:List Int)(m off:Int)(oN oL:Obj)(num:Int)(q:Ex×St):Prop:=((List.range x.people.length).any (cV x.people a.pl a.miss m p)=true∧∃(v0 v3 v8 v9 v10:D) (vr:List D) (rest:aj),q=(.ret,⟨v0::I 0::I m::v3:: .bp 0 0:: .bp 1 0:: .bp 2 0::I 43::vr,.box (x.cs.map .t):: .box (x.cs.map .t):: .box [I 0,I 0,I 0,.nil]::rest⟩))∨((List.range x.people.length).any (cV x.people a.pl a.miss m p)=false∧∃st,uF x a b p p2 m off oN oL num x.people.length st∧q=(.exit 1,st))
theorem LM{x:Tru}(h:x.ok){a b:Rdr}{p p2:List Int}(e1:x.readers=[a,b])(e2:x.missed=[p,p2])(m off:Int)(oN oL:Obj)(num:Int)(j:Nat)(st:St)(hj:j<x.people.length)(hp:uF x a b p p2 m off oN oL num j st):
 (∃st',eB false [0,3,7,10,11,13,14,15,16,17] st.H.length (exS aT K.aa st)=some st'∧uF x a b p p2 m off oN oL num (j+1) st')∨∃q,exS aT K.aa st=some q∧q.1≠ .normal∧Dn x a b p p2 m off oN oL num q:=by
 have n3:=h.n3
 have tl:=h.tl
 have nl:=h.nl
 have ll:=h.ll
 have t0:=h.t0
 have t1:=h.t1
 have nb:=h.nb 0 (by rw[e1];simp)
 have mb:=h.mb 0 (by rw[e1];simp)
 have m2:=h.m2 0 (by rw[e1];simp)
 have rk:nth x.readers 0=a:=by rw[e1];rfl
 have mk:nth x.missed 0=p:=by rw[e2];rfl
 have ml:x.missed.length=2:=by rw[e2];rfl
 have rn:x.readers.length=2:=by rw[e1];rfl
 have ro:=h.r a (by rw[e1];simp)
 rw[rk,mk]at mb
 rw[mk]at m2
 obtain⟨rs,rl,rl1,rp1,rp2,rm1,rm2,rk1,rk2⟩:=ro
 have ex:(x.people.map Wlk.e)[j]?=some (nth x.people j).e:=aD _ hj
 have et:(x.tags.map (T.int .i64))[j]?=some (tI (nth x.tags j)):=aD _ (by omega)
 have hs:=iF a.pl (nth x.people j).place (by omega)
 have mbj:=mb j hj
 have sh:=ko m j
 have an:=fJ m j
 obtain⟨W,wl,hb,rfl⟩:=hp
 have ql:=cD (bI x.people a.pl m p) p j
 have qj:=iI (bI x.people a.pl m p) p j j (Nat.le_refl _)
 have sl:=eH x.people a.pl m x.tags j
 by_cases hq:(cV x.people a.pl a.miss m p) j=true
 · have anyb:(List.range x.people.length).any (cV x.people a.pl a.miss m p)=true:=List.any_eq_true.2 ⟨j,List.mem_range.2 hj,hq⟩
   unfold cV bO eP at hq
   simp only[Bool.and_eq_true,decide_eq_true_eq]at hq
   obtain⟨⟨h1,h2⟩,h3⟩:=hq
   generalize a7 _ p j=q at*
   generalize aL x.people a.pl m x.tags j=g at*
   rw[← qj]at h3
   have nse:nth (q.set j (nth q j+1)) j=nth q j+1:=aK (by omega)
   rw[decide_eq_true h1]at hs
   have key:∃(v0 v3:D) (vr:List D) (rest:aj),exS aT K.aa ⟨[.und,I 0,I m,.und,.bp 0 0,.bp 1 0,.bp 2 0,.und,.bp 3 0,.bp 10 0,.und,.und,.bp 11 0,.und,.und,.und,.und,.und,.t (.sl (x.people.map Wlk.e)),I x.people.length,I j],[.box (x.cs.map .t),.box ae,.box [I 0,I 0,I 0,.nil],.box [.t (tL a.pl),I a.per,I a.miss,I a.skew],.arr 4 false 0 [.t a.e,.t b.e],oN,oL,.arr 1 false 0 [.ref 8 0 p.length,.ref 9 0 p2.length],arI q,arI p2,.box (au 4 x),.box [I 0,I num,I (x.time+off),.ref 13 0 g.length],.arr 1 false 0 [],arI g]++(W.map fun w=> .box [I w.place,I w.kT,I w.left])⟩=some (.ret,⟨v0::I 0::I m::v3:: .bp 0 0:: .bp 1 0:: .bp 2 0::I 43::vr,.box (x.cs.map .t):: .box (x.cs.map .t):: .box [I 0,I 0,I 0,.nil]::rest⟩):=by
    generalize nth x.people j=y at*
    obtain⟨y1,y2,y3⟩:=y
    rcases W with _ | ⟨w,_ | ⟨w2,_ | ⟨w3,W⟩⟩⟩
    · obtain⟨⟨places,roads⟩,time,people,tags,readers,numbers,looked,missed⟩:=x
      simp only[ae,Tru.cs,au,Rdr.e,arI,List.cons_append,List.nil_append,List.map_cons,List.map_nil,LLe,tL,ml,rn,Nat.reduceAdd,Nat.reduceSub,List.length_cons,List.length_nil]at*
      simp (disch:=omega) only[go_sem,K.aa,↓reduceIte,ex,hs,sh,an,h2,nse,h3,ai,List.length_set,ql,List.map_append,List.map_cons,List.map_nil,List.length_append,List.length_singleton,gt_iff_lt,Nat.reduceAdd,Nat.reduceSub]
      exact⟨_,_,_,_,rfl⟩
    · obtain⟨⟨places,roads⟩,time,people,tags,readers,numbers,looked,missed⟩:=x
      simp only[ae,Tru.cs,au,Rdr.e,arI,List.cons_append,List.nil_append,List.map_cons,List.map_nil,LLe,tL,ml,rn,Nat.reduceAdd,Nat.reduceSub,List.length_cons,List.length_nil]at*
      simp (disch:=omega) only[go_sem,K.aa,↓reduceIte,ex,hs,sh,an,h2,nse,h3,ai,List.length_set,ql,List.map_append,List.map_cons,List.map_nil,List.length_append,List.length_singleton,gt_iff_lt,Nat.reduceAdd,Nat.reduceSub]
      exact⟨_,_,_,_,rfl⟩
    · obtain⟨⟨places,roads⟩,time,people,tags,readers,numbers,looked,missed⟩:=x
      simp only[ae,Tru.cs,au,Rdr.e,arI,List.cons_append,List.nil_append,List.map_cons,List.map_nil,LLe,tL,ml,rn,Nat.reduceAdd,Nat.reduceSub,List.length_cons,List.length_nil]at*
      simp (disch:=omega) only[go_sem,K.aa,↓reduceIte,ex,hs,sh,an,h2,nse,h3,ai,List.length_set,ql,List.map_append,List.map_cons,List.map_nil,List.length_append,List.length_singleton,gt_iff_lt,Nat.reduceAdd,Nat.reduceSub]
      exact⟨_,_,_,_,rfl⟩
    · simp only[List.length_cons]at wl;omega
   obtain⟨v0,v3,vr,rest,key⟩:=key
   exact .inr ⟨_,key,by simp,.inl ⟨anyb,v0,v3,v0,v0,v0,vr,rest,rfl⟩⟩
 · have hq:(cV x.people a.pl a.miss m p) j=false:=by simpa using hq
   have hb2:∀i,i<j+1→(cV x.people a.pl a.miss m p) i=false:=fun i hi=>by
    by_cases c:i=j
    · rw[c];exact hq
    · exact hb i (by omega)
   left
   by_cases h1:(nth x.people j).place∈a.pl
   · rw[decide_eq_true h1]at hs
     by_cases h2:sM m j=1
     · have nw:(bI x.people a.pl m p) j=nth p j+1:=by unfold bI bO eP;rw[decide_eq_true h1,decide_eq_true h2];rfl
       have nl0:¬a.miss<nth p j+1:=by
        unfold cV bO eP at hq
        rw[decide_eq_true h1,decide_eq_true h2]at hq
        simpa using hq
       have ss1:aL x.people a.pl m x.tags (j+1)=aL x.people a.pl m x.tags j:=by rw[aL];unfold bO eP;rw[decide_eq_true h1,decide_eq_true h2];rfl
       have rs1:a7 (bI x.people a.pl m p) p (j+1)=(a7 (bI x.people a.pl m p) p j).set j (nth p j+1):=by rw[a7,nw]
       generalize hy:nth x.people j=y at*
       rcases W with _ | ⟨w,_ | ⟨w2,_ | ⟨w3,W⟩⟩⟩
       · refine⟨_,?_,[]++[y],by simp only[List.length_cons,List.length_nil,List.length_append]at *;omega,hb2,rfl⟩
         rw[rs1,ss1]
         generalize a7 _ p j=q at*
         generalize aL x.people a.pl m x.tags j=g at*
         rw[← qj]at nl0 ⊢
         have nse:nth (q.set j (nth q j+1)) j=nth q j+1:=aK (by omega)
         obtain⟨y1,y2,y3⟩:=y
         obtain⟨⟨places,roads⟩,time,people,tags,readers,numbers,looked,missed⟩:=x
         simp only[ae,Tru.cs,au,Rdr.e,arI,List.cons_append,List.nil_append,List.map_cons,List.map_nil,LLe,tL,ml,rn,Nat.reduceAdd,Nat.reduceSub,List.length_cons,List.length_nil]at*
         simp (disch:=omega) only[go_sem,K.aa,↓reduceIte,ex,hs,sh,an,h2,nse,nl0,ai,List.length_set,ql,List.map_append,List.map_cons,List.map_nil,List.length_append,List.length_singleton,gt_iff_lt,Nat.reduceAdd,Nat.reduceSub]
       · refine⟨_,?_,[w]++[y],by simp only[List.length_cons,List.length_nil,List.length_append]at *;omega,hb2,rfl⟩
         rw[rs1,ss1]
         generalize a7 _ p j=q at*
         generalize aL x.people a.pl m x.tags j=g at*
         rw[← qj]at nl0 ⊢
         have nse:nth (q.set j (nth q j+1)) j=nth q j+1:=aK (by omega)
         obtain⟨y1,y2,y3⟩:=y
         obtain⟨⟨places,roads⟩,time,people,tags,readers,numbers,looked,missed⟩:=x
         simp only[ae,Tru.cs,au,Rdr.e,arI,List.cons_append,List.nil_append,List.map_cons,List.map_nil,LLe,tL,ml,rn,Nat.reduceAdd,Nat.reduceSub,List.length_cons,List.length_nil]at*
         simp (disch:=omega) only[go_sem,K.aa,↓reduceIte,ex,hs,sh,an,h2,nse,nl0,ai,List.length_set,ql,List.map_append,List.map_cons,List.map_nil,List.length_append,List.length_singleton,gt_iff_lt,Nat.reduceAdd,Nat.reduceSub]
       · refine⟨_,?_,[w,w2]++[y],by simp only[List.length_cons,List.length_nil,List.length_append]at *;omega,hb2,rfl⟩
         rw[rs1,ss1]
         generalize a7 _ p j=q at*
         generalize aL x.people a.pl m x.tags j=g at*
         rw[← qj]at nl0 ⊢
         have nse:nth (q.set j (nth q j+1)) j=nth q j+1:=aK (by omega)
         obtain⟨y1,y2,y3⟩:=y
         obtain⟨⟨places,roads⟩,time,people,tags,readers,numbers,looked,missed⟩:=x
         simp only[ae,Tru.cs,au,Rdr.e,arI,List.cons_append,List.nil_append,List.map_cons,List.map_nil,LLe,tL,ml,rn,Nat.reduceAdd,Nat.reduceSub,List.length_cons,List.length_nil]at*
         simp (disch:=omega) only[go_sem,K.aa,↓reduceIte,ex,hs,sh,an,h2,nse,nl0,ai,List.length_set,ql,List.map_append,List.map_cons,List.map_nil,List.length_append,List.length_singleton,gt_iff_lt,Nat.reduceAdd,Nat.reduceSub]
       · simp only[List.length_cons]at wl;omega
     · have nw:(bI x.people a.pl m p) j=0:=by unfold bI bO eP;rw[decide_eq_true h1,decide_eq_false h2];rfl
       have ss1:aL x.people a.pl m x.tags (j+1)=aL x.people a.pl m x.tags j++[nth x.tags j]:=by rw[aL];unfold bO eP;rw[decide_eq_true h1,decide_eq_false h2];rfl
       have rs1:a7 (bI x.people a.pl m p) p (j+1)=(a7 (bI x.people a.pl m p) p j).set j 0:=by rw[a7,nw]
       generalize hy:nth x.people j=y at*
       rcases W with _ | ⟨w,_ | ⟨w2,_ | ⟨w3,W⟩⟩⟩
       · refine⟨_,?_,[]++[y],by simp only[List.length_cons,List.length_nil,List.length_append]at *;omega,hb2,rfl⟩
         rw[rs1,ss1]
         generalize a7 _ p j=q at*
         generalize aL x.people a.pl m x.tags j=g at*
         obtain⟨y1,y2,y3⟩:=y
         obtain⟨⟨places,roads⟩,time,people,tags,readers,numbers,looked,missed⟩:=x
         simp only[ae,Tru.cs,au,Rdr.e,arI,List.cons_append,List.nil_append,List.map_cons,List.map_nil,LLe,tL,ml,rn,Nat.reduceAdd,Nat.reduceSub,List.length_cons,List.length_nil]at*
         simp (disch:=omega) only[go_sem,K.aa,↓reduceIte,ex,hs,sh,an,h2,et,ai,List.length_set,ql,List.map_append,List.map_cons,List.map_nil,List.length_append,List.length_singleton,gt_iff_lt,Nat.reduceAdd,Nat.reduceSub]
       · refine⟨_,?_,[w]++[y],by simp only[List.length_cons,List.length_nil,List.length_append]at *;omega,hb2,rfl⟩
         rw[rs1,ss1]
         generalize a7 _ p j=q at*
         generalize aL x.people a.pl m x.tags j=g at*
         obtain⟨y1,y2,y3⟩:=y
         obtain⟨⟨places,roads⟩,time,people,tags,readers,numbers,looked,missed⟩:=x
         simp only[ae,Tru.cs,au,Rdr.e,arI,List.cons_append,List.nil_append,List.map_cons,List.map_nil,LLe,tL,ml,rn,Nat.reduceAdd,Nat.reduceSub,List.length_cons,List.length_nil]at*
         simp (disch:=omega) only[go_sem,K.aa,↓reduceIte,ex,hs,sh,an,h2,et,ai,List.length_set,ql,List.map_append,List.map_cons,List.map_nil,List.length_append,List.length_singleton,gt_iff_lt,Nat.reduceAdd,Nat.reduceSub]
       · refine⟨_,?_,[w,w2]++[y],by simp only[List.length_cons,List.length_nil,List.length_append]at *;omega,hb2,rfl⟩
         rw[rs1,ss1]
         generalize a7 _ p j=q at*
         generalize aL x.people a.pl m x.tags j=g at*
         obtain⟨y1,y2,y3⟩:=y
         obtain⟨⟨places,roads⟩,time,people,tags,readers,numbers,looked,missed⟩:=x
         simp only[ae,Tru.cs,au,Rdr.e,arI,List.cons_append,List.nil_append,List.map_cons,List.map_nil,LLe,tL,ml,rn,Nat.reduceAdd,Nat.reduceSub,List.length_cons,List.length_nil]at*
         simp (disch:=omega) only[go_sem,K.aa,↓reduceIte,ex,hs,sh,an,h2,et,ai,List.length_set,ql,List.map_append,List.map_cons,List.map_nil,List.length_append,List.length_singleton,gt_iff_lt,Nat.reduceAdd,Nat.reduceSub]
       · simp only[List.length_cons]at wl;omega
   · have nw:(bI x.people a.pl m p) j=0:=by unfold bI bO eP;rw[decide_eq_false h1];rfl
     have ss1:aL x.people a.pl m x.tags (j+1)=aL x.people a.pl m x.tags j:=by rw[aL];unfold bO eP;rw[decide_eq_false h1];rfl
     have rs1:a7 (bI x.people a.pl m p) p (j+1)=(a7 (bI x.people a.pl m p) p j).set j 0:=by rw[a7,nw]
     rw[decide_eq_false h1]at hs
     by_cases h2:sM m j=1
     · generalize hy:nth x.people j=y at*
       rcases W with _ | ⟨w,_ | ⟨w2,_ | ⟨w3,W⟩⟩⟩
       · refine⟨_,?_,[]++[y],by simp only[List.length_cons,List.length_nil,List.length_append]at *;omega,hb2,rfl⟩
         rw[rs1,ss1]
         generalize a7 _ p j=q at*
         generalize aL x.people a.pl m x.tags j=g at*
         obtain⟨y1,y2,y3⟩:=y
         obtain⟨⟨places,roads⟩,time,people,tags,readers,numbers,looked,missed⟩:=x
         simp only[ae,Tru.cs,au,Rdr.e,arI,List.cons_append,List.nil_append,List.map_cons,List.map_nil,LLe,tL,ml,rn,Nat.reduceAdd,Nat.reduceSub,List.length_cons,List.length_nil]at*
         simp (disch:=omega) only[go_sem,K.aa,↓reduceIte,ex,hs,sh,an,h2,ai,List.length_set,ql,List.map_append,List.map_cons,List.map_nil,List.length_append,List.length_singleton,gt_iff_lt,Nat.reduceAdd,Nat.reduceSub]
       · refine⟨_,?_,[w]++[y],by simp only[List.length_cons,List.length_nil,List.length_append]at *;omega,hb2,rfl⟩
         rw[rs1,ss1]
         generalize a7 _ p j=q at*
         generalize aL x.people a.pl m x.tags j=g at*
         obtain⟨y1,y2,y3⟩:=y
         obtain⟨⟨places,roads⟩,time,people,tags,readers,numbers,looked,missed⟩:=x
         simp only[ae,Tru.cs,au,Rdr.e,arI,List.cons_append,List.nil_append,List.map_cons,List.map_nil,LLe,tL,ml,rn,Nat.reduceAdd,Nat.reduceSub,List.length_cons,List.length_nil]at*
         simp (disch:=omega) only[go_sem,K.aa,↓reduceIte,ex,hs,sh,an,h2,ai,List.length_set,ql,List.map_append,List.map_cons,List.map_nil,List.length_append,List.length_singleton,gt_iff_lt,Nat.reduceAdd,Nat.reduceSub]
       · refine⟨_,?_,[w,w2]++[y],by simp only[List.length_cons,List.length_nil,List.length_append]at *;omega,hb2,rfl⟩
         rw[rs1,ss1]
         generalize a7 _ p j=q at*
         generalize aL x.people a.pl m x.tags j=g at*
         obtain⟨y1,y2,y3⟩:=y
         obtain⟨⟨places,roads⟩,time,people,tags,readers,numbers,looked,missed⟩:=x
         simp only[ae,Tru.cs,au,Rdr.e,arI,List.cons_append,List.nil_append,List.map_cons,List.map_nil,LLe,tL,ml,rn,Nat.reduceAdd,Nat.reduceSub,List.length_cons,List.length_nil]at*
         simp (disch:=omega) only[go_sem,K.aa,↓reduceIte,ex,hs,sh,an,h2,ai,List.length_set,ql,List.map_append,List.map_cons,List.map_nil,List.length_append,List.length_singleton,gt_iff_lt,Nat.reduceAdd,Nat.reduceSub]
       · simp only[List.length_cons]at wl;omega
     · generalize hy:nth x.people j=y at*
       rcases W with _ | ⟨w,_ | ⟨w2,_ | ⟨w3,W⟩⟩⟩
       · refine⟨_,?_,[]++[y],by simp only[List.length_cons,List.length_nil,List.length_append]at *;omega,hb2,rfl⟩
         rw[rs1,ss1]
         generalize a7 _ p j=q at*
         generalize aL x.people a.pl m x.tags j=g at*
         obtain⟨y1,y2,y3⟩:=y
         obtain⟨⟨places,roads⟩,time,people,tags,readers,numbers,looked,missed⟩:=x
         simp only[ae,Tru.cs,au,Rdr.e,arI,List.cons_append,List.nil_append,List.map_cons,List.map_nil,LLe,tL,ml,rn,Nat.reduceAdd,Nat.reduceSub,List.length_cons,List.length_nil]at*
         simp (disch:=omega) only[go_sem,K.aa,↓reduceIte,ex,hs,sh,an,h2,ai,List.length_set,ql,List.map_append,List.map_cons,List.map_nil,List.length_append,List.length_singleton,gt_iff_lt,Nat.reduceAdd,Nat.reduceSub]
       · refine⟨_,?_,[w]++[y],by simp only[List.length_cons,List.length_nil,List.length_append]at *;omega,hb2,rfl⟩
         rw[rs1,ss1]
         generalize a7 _ p j=q at*
         generalize aL x.people a.pl m x.tags j=g at*
         obtain⟨y1,y2,y3⟩:=y
         obtain⟨⟨places,roads⟩,time,people,tags,readers,numbers,looked,missed⟩:=x
         simp only[ae,Tru.cs,au,Rdr.e,arI,List.cons_append,List.nil_append,List.map_cons,List.map_nil,LLe,tL,ml,rn,Nat.reduceAdd,Nat.reduceSub,List.length_cons,List.length_nil]at*
         simp (disch:=omega) only[go_sem,K.aa,↓reduceIte,ex,hs,sh,an,h2,ai,List.length_set,ql,List.map_append,List.map_cons,List.map_nil,List.length_append,List.length_singleton,gt_iff_lt,Nat.reduceAdd,Nat.reduceSub]
       · refine⟨_,?_,[w,w2]++[y],by simp only[List.length_cons,List.length_nil,List.length_append]at *;omega,hb2,rfl⟩
         rw[rs1,ss1]
         generalize a7 _ p j=q at*
         generalize aL x.people a.pl m x.tags j=g at*
         obtain⟨y1,y2,y3⟩:=y
         obtain⟨⟨places,roads⟩,time,people,tags,readers,numbers,looked,missed⟩:=x
         simp only[ae,Tru.cs,au,Rdr.e,arI,List.cons_append,List.nil_append,List.map_cons,List.map_nil,LLe,tL,ml,rn,Nat.reduceAdd,Nat.reduceSub,List.length_cons,List.length_nil]at*
         simp (disch:=omega) only[go_sem,K.aa,↓reduceIte,ex,hs,sh,an,h2,ai,List.length_set,ql,List.map_append,List.map_cons,List.map_nil,List.length_append,List.length_singleton,gt_iff_lt,Nat.reduceAdd,Nat.reduceSub]
       · simp only[List.length_cons]at wl;omega
theorem LN{x:Tru}(h:x.ok){a b:Rdr}{p p2:List Int}(e1:x.readers=[a,b])(e2:x.missed=[p,p2])(m off:Int)(oN oL:Obj)(num:Int)(z0 z3 z7 z10 z11 z13 z14 z15 z16 z17:D):∃q,exS aT K.fx ⟨[z0,I 0,I m,z3,.bp 0 0,.bp 1 0,.bp 2 0,z7,.bp 3 0,.bp 10 0,z10,z11,.bp 11 0,z13,z14,z15,z16,z17,.t (.sl (x.people.map Wlk.e)),I x.people.length,I 0],[.box (x.cs.map .t),.box ae,.box [I 0,I 0,I 0,.nil],.box [.t (tL a.pl),I a.per,I a.miss,I a.skew],.arr 4 false 0 [.t a.e,.t b.e],oN,oL,.arr 1 false 0 [.ref 8 0 p.length,.ref 9 0 p2.length],arI p,arI p2,.box (au 4 x),.box [I 0,I num,I (x.time+off),.ref 13 0 0],.arr 1 false 0 [],arI ([]:List Int)]⟩=some q∧Dn x a b p p2 m off oN oL num q:=by
 have n3:=h.n3
 have tl:=h.tl
 have nl:=h.nl
 have ll:=h.ll
 have t0:=h.t0
 have t1:=h.t1
 have nb:=h.nb 0 (by rw[e1];simp)
 have mb:=h.mb 0 (by rw[e1];simp)
 have m2:=h.m2 0 (by rw[e1];simp)
 have rk:nth x.readers 0=a:=by rw[e1];rfl
 have mk:nth x.missed 0=p:=by rw[e2];rfl
 have ml:x.missed.length=2:=by rw[e2];rfl
 have rn:x.readers.length=2:=by rw[e1];rfl
 have ro:=h.r a (by rw[e1];simp)
 rw[rk,mk]at mb
 rw[mk]at m2
 obtain⟨rs,rl,rl1,rp1,rp2,rm1,rm2,rk1,rk2⟩:=ro
 refine fI (uF x a b p p2 m off oN oL num) x.people.length _ ⟨[],Nat.le_refl _,fun i hi=>absurd hi (by omega),rfl⟩ (fun j st hj hp=>LM h e1 e2 m off oN oL num j st hj hp) ?_
 intro st hp
 refine⟨(.exit 1,st),?_,by simp,.inr ⟨?_,st,hp,rfl⟩⟩
 · obtain⟨W,wl,hb,rfl⟩:=hp
   have wl:=Nat.le_trans wl n3
   generalize a7 _ p _=q at*
   generalize aL x.people a.pl m x.tags _=g at*
   rcases W with _ | ⟨w,_ | ⟨w2,_ | ⟨w3,_ | ⟨w4,W⟩⟩⟩⟩
   · obtain⟨⟨places,roads⟩,time,people,tags,readers,numbers,looked,missed⟩:=x
     simp only[ae,Tru.cs,au,Rdr.e,arI,List.cons_append,List.nil_append,List.map_cons,List.map_nil,LLe,tL,ml,rn,Nat.reduceAdd,Nat.reduceSub,List.length_cons,List.length_nil]at*
     simp (disch:=omega) only[go_sem,K.aa,↓reduceIte,Nat.reduceAdd,Nat.reduceSub]
   · obtain⟨⟨places,roads⟩,time,people,tags,readers,numbers,looked,missed⟩:=x
     simp only[ae,Tru.cs,au,Rdr.e,arI,List.cons_append,List.nil_append,List.map_cons,List.map_nil,LLe,tL,ml,rn,Nat.reduceAdd,Nat.reduceSub,List.length_cons,List.length_nil]at*
     simp (disch:=omega) only[go_sem,K.aa,↓reduceIte,Nat.reduceAdd,Nat.reduceSub]
   · obtain⟨⟨places,roads⟩,time,people,tags,readers,numbers,looked,missed⟩:=x
     simp only[ae,Tru.cs,au,Rdr.e,arI,List.cons_append,List.nil_append,List.map_cons,List.map_nil,LLe,tL,ml,rn,Nat.reduceAdd,Nat.reduceSub,List.length_cons,List.length_nil]at*
     simp (disch:=omega) only[go_sem,K.aa,↓reduceIte,Nat.reduceAdd,Nat.reduceSub]
   · obtain⟨⟨places,roads⟩,time,people,tags,readers,numbers,looked,missed⟩:=x
     simp only[ae,Tru.cs,au,Rdr.e,arI,List.cons_append,List.nil_append,List.map_cons,List.map_nil,LLe,tL,ml,rn,Nat.reduceAdd,Nat.reduceSub,List.length_cons,List.length_nil]at*
     simp (disch:=omega) only[go_sem,K.aa,↓reduceIte,Nat.reduceAdd,Nat.reduceSub]
   · simp only[List.length_cons]at wl;omega
 · obtain⟨W,wl,hb,rfl⟩:=hp
   rw[List.any_eq_false]
   intro i hi
   rw[hb i (List.mem_range.1 hi)]
   decide
set_option maxHeartbeats 4000000 in
theorem Dp{x:Tru}(h:x.ok){a b:Rdr}{p p2:List Int}(e1:x.readers=[a,b])(e2:x.missed=[p,p2])(m off:Int)(o1: -a.skew≤off)(o2:off≤a.skew)(o3:0≤x.time+off)(o4:x.time+off≤2147483648):
 aT 0 N.ag [.t x.e,I 0,I m,I off] []=some (if nQ x 0 m then .tup [.t x.e,.t (dJ 0 0 0 []),I 43]else .tup [.t (du x 0 m).e,.t (dJ 0 (lg x 0) (x.time+off) (fZ (aL x.people a.pl m x.tags x.people.length))),I 0],[]):=by
 have n3:=h.n3
 have tl:=h.tl
 have nl:=h.nl
 have ll:=h.ll
 have t0:=h.t0
 have t1:=h.t1
 have nb:=h.nb 0 (by rw[e1];simp)
 have mb:=h.mb 0 (by rw[e1];simp)
 have m2:=h.m2 0 (by rw[e1];simp)
 have rk:nth x.readers 0=a:=by rw[e1];rfl
 have mk:nth x.missed 0=p:=by rw[e2];rfl
 have ml:x.missed.length=2:=by rw[e2];rfl
 have rn:x.readers.length=2:=by rw[e1];rfl
 have ro:=h.r a (by rw[e1];simp)
 rw[rk,mk]at mb
 rw[mk]at m2
 obtain⟨rs,rl,rl1,rp1,rp2,rm1,rm2,rk1,rk2⟩:=ro
 have sz:=h.sz
 have cp:=tS sz e1 e2
 have va:=jy h
 have lpL:=LN h e1 e2 m off
 have scl:∀(y:Tru) (r:T) (v:Int),([D.t y.e,D.t r,I v].all bz)=false:=fun _ _ _=>rfl
 have sl:=eH x.people a.pl m x.tags x.people.length
 have so:=pD 0 (aL x.people a.pl m x.tags x.people.length) (by omega)
 have sol:=eZ (aL x.people a.pl m x.tags x.people.length)
 have i1:=hT 0 0 ((2:Int)-1)
 have i2:=hT off (0-a.skew) a.skew
 have i3:=hT (x.time+off) 0 2147483648
 rw[decide_eq_true (by omega)]at i1 i2 i3
 unfold nQ du lg
 rw[rk,mk]
 have en:(x.numbers.map (T.int .i64))[0]?=some (tI (nth x.numbers 0)):=aD _ (by omega)
 have el:(x.looked.map (T.int .i64))[0]?=some (tI (nth x.looked 0)):=aD _ (by omega)
 generalize nth x.numbers 0=nu at*
 generalize nth x.looked 0=lo at*
 refine aB K.fk rfl ?_
 have qe:∀(b:Prop) [Decidable b],(nu+if b then 2 else 1)=if b then nu+2 else nu+1:=fun b _=>by split<;>rfl
 have wl:=cD (bI x.people a.pl m p) p x.people.length
 by_cases bq:(List.range x.people.length).any (cV x.people a.pl a.miss m p)=true
 · rw[if_pos bq]
   obtain⟨⟨places,roads⟩,time,people,tags,readers,numbers,looked,missed⟩:=x
   subst e1 e2
   simp only[ae,Tru.e,Tru.cs,au,arI,kZ,tLL,Rdr.e,List.map_cons,List.map_nil,LLe,tL]at*
   by_cases ca:0≤lo
   · by_cases cb:a.per<time-lo
     · simp (disch:=omega) only[go_sem,K.ag,↓reduceIte,cp,va,i1,i2,i3,en,el,ca,cb,gt_iff_lt,ai,List.length_set,Nat.reduceAdd,Nat.reduceSub]
       refine b7 _ (lpL _ _ _ _ _ _ _ _ _ _ _ _ _) ?_
       rintro q (⟨_,v0,v3,_,_,_,vr,rest,rfl⟩ | ⟨n,_⟩)
       · simp (disch:=omega) only[go_sem,K.ag,↓reduceIte,scl,Nat.reduceAdd,Nat.reduceSub]
         rfl
       · rw[n]at bq;cases bq
     · simp (disch:=omega) only[go_sem,K.ag,↓reduceIte,cp,va,i1,i2,i3,en,el,ca,cb,gt_iff_lt,ai,List.length_set,Nat.reduceAdd,Nat.reduceSub]
       refine b7 _ (lpL _ _ _ _ _ _ _ _ _ _ _ _ _) ?_
       rintro q (⟨_,v0,v3,_,_,_,vr,rest,rfl⟩ | ⟨n,_⟩)
       · simp (disch:=omega) only[go_sem,K.ag,↓reduceIte,scl,Nat.reduceAdd,Nat.reduceSub]
         rfl
       · rw[n]at bq;cases bq
   · simp (disch:=omega) only[go_sem,K.ag,↓reduceIte,cp,va,i1,i2,i3,en,el,ca,gt_iff_lt,ai,List.length_set,Nat.reduceAdd,Nat.reduceSub]
     refine b7 _ (lpL _ _ _ _ _ _ _ _ _ _ _ _ _) ?_
     rintro q (⟨_,v0,v3,_,_,_,vr,rest,rfl⟩ | ⟨n,_⟩)
     · simp (disch:=omega) only[go_sem,K.ag,↓reduceIte,scl,Nat.reduceAdd,Nat.reduceSub]
       rfl
     · rw[n]at bq;cases bq
 · rw[if_neg bq]
   have qa:(x.numbers.set 0 ((nu+if 0≤lo∧a.per<x.time-lo then 2 else 1).tmod 65536)).length=x.numbers.length:=List.length_set ..
   generalize hg:aL x.people a.pl m x.tags x.people.length=g at*
   obtain⟨q,hq,hQ⟩:=lpL (arI (x.numbers.set 0 ((nu+if 0≤lo∧a.per<x.time-lo then 2 else 1).tmod 65536))) (arI (x.looked.set 0 x.time)) ((nu+if 0≤lo∧a.per<x.time-lo then 2 else 1).tmod 65536) (.t x.e) (I off) (I 0) (if 0≤lo∧a.per<x.time-lo then I 2 else I 1) (I ((nu+if 0≤lo∧a.per<x.time-lo then 2 else 1).tmod 65536)) .und .und .und .und .und
   rcases hQ with⟨n,_⟩ | ⟨_,st,⟨W,wl2,hb,rfl⟩,rfl⟩
   · exact absurd n bq
   rw[hg]at hq
   generalize a7 _ p _=w at*
   rcases W with _ | ⟨w1,_ | ⟨w2,_ | ⟨w3,_ | ⟨w4,W⟩⟩⟩⟩
   · obtain⟨⟨places,roads⟩,time,people,tags,readers,numbers,looked,missed⟩:=x
     subst e1 e2
     simp only[ae,Tru.e,Tru.cs,dJ,au,arI,kZ,tLL,Rdr.e,List.cons_append,List.nil_append,List.map_cons,List.map_nil,LLe,tL,Nat.reduceAdd,Nat.reduceSub,List.length_cons,List.length_nil]at*
     by_cases ca:0≤lo
     · by_cases cb:a.per<time-lo
       · simp only[if_pos (And.intro ca cb)]at hq ⊢
         simp (disch:=omega) only[go_sem,K.ag,↓reduceIte,cp,va,i1,i2,i3,en,el,ca,cb,gt_iff_lt,ai,hq,so,sol,wl,scl,List.length_set,Nat.reduceAdd,Nat.reduceSub]
       · simp only[if_neg (fun e:0≤lo∧a.per<time-lo=>cb e.2)]at hq ⊢
         simp (disch:=omega) only[go_sem,K.ag,↓reduceIte,cp,va,i1,i2,i3,en,el,ca,cb,gt_iff_lt,ai,hq,so,sol,wl,scl,List.length_set,Nat.reduceAdd,Nat.reduceSub]
     · simp only[if_neg (fun e:0≤lo∧a.per<time-lo=>ca e.1)]at hq ⊢
       simp (disch:=omega) only[go_sem,K.ag,↓reduceIte,cp,va,i1,i2,i3,en,el,ca,gt_iff_lt,ai,hq,so,sol,wl,scl,List.length_set,Nat.reduceAdd,Nat.reduceSub]
   · obtain⟨⟨places,roads⟩,time,people,tags,readers,numbers,looked,missed⟩:=x
     subst e1 e2
     simp only[ae,Tru.e,Tru.cs,dJ,au,arI,kZ,tLL,Rdr.e,List.cons_append,List.nil_append,List.map_cons,List.map_nil,LLe,tL,Nat.reduceAdd,Nat.reduceSub,List.length_cons,List.length_nil]at*
     by_cases ca:0≤lo
     · by_cases cb:a.per<time-lo
       · simp only[if_pos (And.intro ca cb)]at hq ⊢
         simp (disch:=omega) only[go_sem,K.ag,↓reduceIte,cp,va,i1,i2,i3,en,el,ca,cb,gt_iff_lt,ai,hq,so,sol,wl,scl,List.length_set,Nat.reduceAdd,Nat.reduceSub]
       · simp only[if_neg (fun e:0≤lo∧a.per<time-lo=>cb e.2)]at hq ⊢
         simp (disch:=omega) only[go_sem,K.ag,↓reduceIte,cp,va,i1,i2,i3,en,el,ca,cb,gt_iff_lt,ai,hq,so,sol,wl,scl,List.length_set,Nat.reduceAdd,Nat.reduceSub]
     · simp only[if_neg (fun e:0≤lo∧a.per<time-lo=>ca e.1)]at hq ⊢
       simp (disch:=omega) only[go_sem,K.ag,↓reduceIte,cp,va,i1,i2,i3,en,el,ca,gt_iff_lt,ai,hq,so,sol,wl,scl,List.length_set,Nat.reduceAdd,Nat.reduceSub]
   · obtain⟨⟨places,roads⟩,time,people,tags,readers,numbers,looked,missed⟩:=x
     subst e1 e2
     simp only[ae,Tru.e,Tru.cs,dJ,au,arI,kZ,tLL,Rdr.e,List.cons_append,List.nil_append,List.map_cons,List.map_nil,LLe,tL,Nat.reduceAdd,Nat.reduceSub,List.length_cons,List.length_nil]at*
     by_cases ca:0≤lo
     · by_cases cb:a.per<time-lo
       · simp only[if_pos (And.intro ca cb)]at hq ⊢
         simp (disch:=omega) only[go_sem,K.ag,↓reduceIte,cp,va,i1,i2,i3,en,el,ca,cb,gt_iff_lt,ai,hq,so,sol,wl,scl,List.length_set,Nat.reduceAdd,Nat.reduceSub]
       · simp only[if_neg (fun e:0≤lo∧a.per<time-lo=>cb e.2)]at hq ⊢
         simp (disch:=omega) only[go_sem,K.ag,↓reduceIte,cp,va,i1,i2,i3,en,el,ca,cb,gt_iff_lt,ai,hq,so,sol,wl,scl,List.length_set,Nat.reduceAdd,Nat.reduceSub]
     · simp only[if_neg (fun e:0≤lo∧a.per<time-lo=>ca e.1)]at hq ⊢
       simp (disch:=omega) only[go_sem,K.ag,↓reduceIte,cp,va,i1,i2,i3,en,el,ca,gt_iff_lt,ai,hq,so,sol,wl,scl,List.length_set,Nat.reduceAdd,Nat.reduceSub]
   · obtain⟨⟨places,roads⟩,time,people,tags,readers,numbers,looked,missed⟩:=x
     subst e1 e2
     simp only[ae,Tru.e,Tru.cs,dJ,au,arI,kZ,tLL,Rdr.e,List.cons_append,List.nil_append,List.map_cons,List.map_nil,LLe,tL,Nat.reduceAdd,Nat.reduceSub,List.length_cons,List.length_nil]at*
     by_cases ca:0≤lo
     · by_cases cb:a.per<time-lo
       · simp only[if_pos (And.intro ca cb)]at hq ⊢
         simp (disch:=omega) only[go_sem,K.ag,↓reduceIte,cp,va,i1,i2,i3,en,el,ca,cb,gt_iff_lt,ai,hq,so,sol,wl,scl,List.length_set,Nat.reduceAdd,Nat.reduceSub]
       · simp only[if_neg (fun e:0≤lo∧a.per<time-lo=>cb e.2)]at hq ⊢
         simp (disch:=omega) only[go_sem,K.ag,↓reduceIte,cp,va,i1,i2,i3,en,el,ca,cb,gt_iff_lt,ai,hq,so,sol,wl,scl,List.length_set,Nat.reduceAdd,Nat.reduceSub]
     · simp only[if_neg (fun e:0≤lo∧a.per<time-lo=>ca e.1)]at hq ⊢
       simp (disch:=omega) only[go_sem,K.ag,↓reduceIte,cp,va,i1,i2,i3,en,el,ca,gt_iff_lt,ai,hq,so,sol,wl,scl,List.length_set,Nat.reduceAdd,Nat.reduceSub]
   · simp only[List.length_cons]at wl2;omega
def uG(x:Tru)(a b:Rdr)(p p2:List Int)(m off:Int)(oN oL:Obj)(num:Int)(j:Nat)(st:St):Prop:=∃W:List Wlk,W.length≤j∧(∀i,i<j→(cV x.people b.pl b.miss m p2) i=false)∧st=⟨[.und,I 1,I m,.und,.bp 0 0,.bp 1 0,.bp 2 0,.und,.bp 3 0,.bp 10 0,.und,.und,.bp 11 0,.und,.und,.und,.und,.und,.t (.sl (x.people.map Wlk.e)),I x.people.length,I j],[.box (x.cs.map .t),.box ae,.box [I 0,I 0,I 0,.nil],.box [.t (tL b.pl),I b.per,I b.miss,I b.skew],.arr 4 false 0 [.t a.e,.t b.e],oN,oL,.arr 1 false 0 [.ref 8 0 p.length,.ref 9 0 p2.length],arI p,arI (a7 (bI x.people b.pl m p2) p2 j),.box (au 4 x),.box [I 1,I num,I (x.time+off),.ref 13 0 (aL x.people b.pl m x.tags j).length],.arr 1 false 0 [],arI (aL x.people b.pl m x.tags j)]++(W.map fun w=> .box [I w.place,I w.kT,I w.left])⟩
def Dq(x:Tru)(a b:Rdr)(p p2:List Int)(m off:Int)(oN oL:Obj)(num:Int)(q:Ex×St):Prop:=((List.range x.people.length).any (cV x.people b.pl b.miss m p2)=true∧∃(v0 v3 v8 v9 v10:D) (vr:List D) (rest:aj),q=(.ret,⟨v0::I 1::I m::v3:: .bp 0 0:: .bp 1 0:: .bp 2 0::I 43::vr,.box (x.cs.map .t):: .box (x.cs.map .t):: .box [I 0,I 0,I 0,.nil]::rest⟩))∨((List.range x.people.length).any (cV x.people b.pl b.miss m p2)=false∧∃st,uG x a b p p2 m off oN oL num x.people.length st∧q=(.exit 1,st))
theorem LO{x:Tru}(h:x.ok){a b:Rdr}{p p2:List Int}(e1:x.readers=[a,b])(e2:x.missed=[p,p2])(m off:Int)(oN oL:Obj)(num:Int)(j:Nat)(st:St)(hj:j<x.people.length)(hp:uG x a b p p2 m off oN oL num j st):
 (∃st',eB false [0,3,7,10,11,13,14,15,16,17] st.H.length (exS aT K.aa st)=some st'∧uG x a b p p2 m off oN oL num (j+1) st')∨∃q,exS aT K.aa st=some q∧q.1≠ .normal∧Dq x a b p p2 m off oN oL num q:=by
 have n3:=h.n3
 have tl:=h.tl
 have nl:=h.nl
 have ll:=h.ll
 have t0:=h.t0
 have t1:=h.t1
 have nb:=h.nb 1 (by rw[e1];simp)
 have mb:=h.mb 1 (by rw[e1];simp)
 have m2:=h.m2 1 (by rw[e1];simp)
 have rk:nth x.readers 1=b:=by rw[e1];rfl
 have mk:nth x.missed 1=p2:=by rw[e2];rfl
 have ml:x.missed.length=2:=by rw[e2];rfl
 have rn:x.readers.length=2:=by rw[e1];rfl
 have ro:=h.r b (by rw[e1];simp)
 rw[rk,mk]at mb
 rw[mk]at m2
 obtain⟨rs,rl,rl1,rp1,rp2,rm1,rm2,rk1,rk2⟩:=ro
 have ex:(x.people.map Wlk.e)[j]?=some (nth x.people j).e:=aD _ hj
 have et:(x.tags.map (T.int .i64))[j]?=some (tI (nth x.tags j)):=aD _ (by omega)
 have hs:=iF b.pl (nth x.people j).place (by omega)
 have mbj:=mb j hj
 have sh:=ko m j
 have an:=fJ m j
 obtain⟨W,wl,hb,rfl⟩:=hp
 have ql:=cD (bI x.people b.pl m p2) p2 j
 have qj:=iI (bI x.people b.pl m p2) p2 j j (Nat.le_refl _)
 have sl:=eH x.people b.pl m x.tags j
 by_cases hq:(cV x.people b.pl b.miss m p2) j=true
 · have anyb:(List.range x.people.length).any (cV x.people b.pl b.miss m p2)=true:=List.any_eq_true.2 ⟨j,List.mem_range.2 hj,hq⟩
   unfold cV bO eP at hq
   simp only[Bool.and_eq_true,decide_eq_true_eq]at hq
   obtain⟨⟨h1,h2⟩,h3⟩:=hq
   generalize a7 _ p2 j=q at*
   generalize aL x.people b.pl m x.tags j=g at*
   rw[← qj]at h3
   have nse:nth (q.set j (nth q j+1)) j=nth q j+1:=aK (by omega)
   rw[decide_eq_true h1]at hs
   have key:∃(v0 v3:D) (vr:List D) (rest:aj),exS aT K.aa ⟨[.und,I 1,I m,.und,.bp 0 0,.bp 1 0,.bp 2 0,.und,.bp 3 0,.bp 10 0,.und,.und,.bp 11 0,.und,.und,.und,.und,.und,.t (.sl (x.people.map Wlk.e)),I x.people.length,I j],[.box (x.cs.map .t),.box ae,.box [I 0,I 0,I 0,.nil],.box [.t (tL b.pl),I b.per,I b.miss,I b.skew],.arr 4 false 0 [.t a.e,.t b.e],oN,oL,.arr 1 false 0 [.ref 8 0 p.length,.ref 9 0 p2.length],arI p,arI q,.box (au 4 x),.box [I 1,I num,I (x.time+off),.ref 13 0 g.length],.arr 1 false 0 [],arI g]++(W.map fun w=> .box [I w.place,I w.kT,I w.left])⟩=some (.ret,⟨v0::I 1::I m::v3:: .bp 0 0:: .bp 1 0:: .bp 2 0::I 43::vr,.box (x.cs.map .t):: .box (x.cs.map .t):: .box [I 0,I 0,I 0,.nil]::rest⟩):=by
    generalize nth x.people j=y at*
    obtain⟨y1,y2,y3⟩:=y
    rcases W with _ | ⟨w,_ | ⟨w2,_ | ⟨w3,W⟩⟩⟩
    · obtain⟨⟨places,roads⟩,time,people,tags,readers,numbers,looked,missed⟩:=x
      simp only[ae,Tru.cs,au,Rdr.e,arI,List.cons_append,List.nil_append,List.map_cons,List.map_nil,LLe,tL,ml,rn,Nat.reduceAdd,Nat.reduceSub,List.length_cons,List.length_nil]at*
      simp (disch:=omega) only[go_sem,K.aa,↓reduceIte,ex,hs,sh,an,h2,nse,h3,ai,List.length_set,ql,List.map_append,List.map_cons,List.map_nil,List.length_append,List.length_singleton,gt_iff_lt,Nat.reduceAdd,Nat.reduceSub]
      exact⟨_,_,_,_,rfl⟩
    · obtain⟨⟨places,roads⟩,time,people,tags,readers,numbers,looked,missed⟩:=x
      simp only[ae,Tru.cs,au,Rdr.e,arI,List.cons_append,List.nil_append,List.map_cons,List.map_nil,LLe,tL,ml,rn,Nat.reduceAdd,Nat.reduceSub,List.length_cons,List.length_nil]at*
      simp (disch:=omega) only[go_sem,K.aa,↓reduceIte,ex,hs,sh,an,h2,nse,h3,ai,List.length_set,ql,List.map_append,List.map_cons,List.map_nil,List.length_append,List.length_singleton,gt_iff_lt,Nat.reduceAdd,Nat.reduceSub]
      exact⟨_,_,_,_,rfl⟩
    · obtain⟨⟨places,roads⟩,time,people,tags,readers,numbers,looked,missed⟩:=x
      simp only[ae,Tru.cs,au,Rdr.e,arI,List.cons_append,List.nil_append,List.map_cons,List.map_nil,LLe,tL,ml,rn,Nat.reduceAdd,Nat.reduceSub,List.length_cons,List.length_nil]at*
      simp (disch:=omega) only[go_sem,K.aa,↓reduceIte,ex,hs,sh,an,h2,nse,h3,ai,List.length_set,ql,List.map_append,List.map_cons,List.map_nil,List.length_append,List.length_singleton,gt_iff_lt,Nat.reduceAdd,Nat.reduceSub]
      exact⟨_,_,_,_,rfl⟩
    · simp only[List.length_cons]at wl;omega
   obtain⟨v0,v3,vr,rest,key⟩:=key
   exact .inr ⟨_,key,by simp,.inl ⟨anyb,v0,v3,v0,v0,v0,vr,rest,rfl⟩⟩
 · have hq:(cV x.people b.pl b.miss m p2) j=false:=by simpa using hq
   have hb2:∀i,i<j+1→(cV x.people b.pl b.miss m p2) i=false:=fun i hi=>by
    by_cases c:i=j
    · rw[c];exact hq
    · exact hb i (by omega)
   left
   by_cases h1:(nth x.people j).place∈b.pl
   · rw[decide_eq_true h1]at hs
     by_cases h2:sM m j=1
     · have nw:(bI x.people b.pl m p2) j=nth p2 j+1:=by unfold bI bO eP;rw[decide_eq_true h1,decide_eq_true h2];rfl
       have nl0:¬b.miss<nth p2 j+1:=by
        unfold cV bO eP at hq
        rw[decide_eq_true h1,decide_eq_true h2]at hq
        simpa using hq
       have ss1:aL x.people b.pl m x.tags (j+1)=aL x.people b.pl m x.tags j:=by rw[aL];unfold bO eP;rw[decide_eq_true h1,decide_eq_true h2];rfl
       have rs1:a7 (bI x.people b.pl m p2) p2 (j+1)=(a7 (bI x.people b.pl m p2) p2 j).set j (nth p2 j+1):=by rw[a7,nw]
       generalize hy:nth x.people j=y at*
       rcases W with _ | ⟨w,_ | ⟨w2,_ | ⟨w3,W⟩⟩⟩
       · refine⟨_,?_,[]++[y],by simp only[List.length_cons,List.length_nil,List.length_append]at *;omega,hb2,rfl⟩
         rw[rs1,ss1]
         generalize a7 _ p2 j=q at*
         generalize aL x.people b.pl m x.tags j=g at*
         rw[← qj]at nl0 ⊢
         have nse:nth (q.set j (nth q j+1)) j=nth q j+1:=aK (by omega)
         obtain⟨y1,y2,y3⟩:=y
         obtain⟨⟨places,roads⟩,time,people,tags,readers,numbers,looked,missed⟩:=x
         simp only[ae,Tru.cs,au,Rdr.e,arI,List.cons_append,List.nil_append,List.map_cons,List.map_nil,LLe,tL,ml,rn,Nat.reduceAdd,Nat.reduceSub,List.length_cons,List.length_nil]at*
         simp (disch:=omega) only[go_sem,K.aa,↓reduceIte,ex,hs,sh,an,h2,nse,nl0,ai,List.length_set,ql,List.map_append,List.map_cons,List.map_nil,List.length_append,List.length_singleton,gt_iff_lt,Nat.reduceAdd,Nat.reduceSub]
       · refine⟨_,?_,[w]++[y],by simp only[List.length_cons,List.length_nil,List.length_append]at *;omega,hb2,rfl⟩
         rw[rs1,ss1]
         generalize a7 _ p2 j=q at*
         generalize aL x.people b.pl m x.tags j=g at*
         rw[← qj]at nl0 ⊢
         have nse:nth (q.set j (nth q j+1)) j=nth q j+1:=aK (by omega)
         obtain⟨y1,y2,y3⟩:=y
         obtain⟨⟨places,roads⟩,time,people,tags,readers,numbers,looked,missed⟩:=x
         simp only[ae,Tru.cs,au,Rdr.e,arI,List.cons_append,List.nil_append,List.map_cons,List.map_nil,LLe,tL,ml,rn,Nat.reduceAdd,Nat.reduceSub,List.length_cons,List.length_nil]at*
         simp (disch:=omega) only[go_sem,K.aa,↓reduceIte,ex,hs,sh,an,h2,nse,nl0,ai,List.length_set,ql,List.map_append,List.map_cons,List.map_nil,List.length_append,List.length_singleton,gt_iff_lt,Nat.reduceAdd,Nat.reduceSub]
       · refine⟨_,?_,[w,w2]++[y],by simp only[List.length_cons,List.length_nil,List.length_append]at *;omega,hb2,rfl⟩
         rw[rs1,ss1]
         generalize a7 _ p2 j=q at*
         generalize aL x.people b.pl m x.tags j=g at*
         rw[← qj]at nl0 ⊢
         have nse:nth (q.set j (nth q j+1)) j=nth q j+1:=aK (by omega)
         obtain⟨y1,y2,y3⟩:=y
         obtain⟨⟨places,roads⟩,time,people,tags,readers,numbers,looked,missed⟩:=x
         simp only[ae,Tru.cs,au,Rdr.e,arI,List.cons_append,List.nil_append,List.map_cons,List.map_nil,LLe,tL,ml,rn,Nat.reduceAdd,Nat.reduceSub,List.length_cons,List.length_nil]at*
         simp (disch:=omega) only[go_sem,K.aa,↓reduceIte,ex,hs,sh,an,h2,nse,nl0,ai,List.length_set,ql,List.map_append,List.map_cons,List.map_nil,List.length_append,List.length_singleton,gt_iff_lt,Nat.reduceAdd,Nat.reduceSub]
       · simp only[List.length_cons]at wl;omega
     · have nw:(bI x.people b.pl m p2) j=0:=by unfold bI bO eP;rw[decide_eq_true h1,decide_eq_false h2];rfl
       have ss1:aL x.people b.pl m x.tags (j+1)=aL x.people b.pl m x.tags j++[nth x.tags j]:=by rw[aL];unfold bO eP;rw[decide_eq_true h1,decide_eq_false h2];rfl
       have rs1:a7 (bI x.people b.pl m p2) p2 (j+1)=(a7 (bI x.people b.pl m p2) p2 j).set j 0:=by rw[a7,nw]
       generalize hy:nth x.people j=y at*
       rcases W with _ | ⟨w,_ | ⟨w2,_ | ⟨w3,W⟩⟩⟩
       · refine⟨_,?_,[]++[y],by simp only[List.length_cons,List.length_nil,List.length_append]at *;omega,hb2,rfl⟩
         rw[rs1,ss1]
         generalize a7 _ p2 j=q at*
         generalize aL x.people b.pl m x.tags j=g at*
         obtain⟨y1,y2,y3⟩:=y
         obtain⟨⟨places,roads⟩,time,people,tags,readers,numbers,looked,missed⟩:=x
         simp only[ae,Tru.cs,au,Rdr.e,arI,List.cons_append,List.nil_append,List.map_cons,List.map_nil,LLe,tL,ml,rn,Nat.reduceAdd,Nat.reduceSub,List.length_cons,List.length_nil]at*
         simp (disch:=omega) only[go_sem,K.aa,↓reduceIte,ex,hs,sh,an,h2,et,ai,List.length_set,ql,List.map_append,List.map_cons,List.map_nil,List.length_append,List.length_singleton,gt_iff_lt,Nat.reduceAdd,Nat.reduceSub]
       · refine⟨_,?_,[w]++[y],by simp only[List.length_cons,List.length_nil,List.length_append]at *;omega,hb2,rfl⟩
         rw[rs1,ss1]
         generalize a7 _ p2 j=q at*
         generalize aL x.people b.pl m x.tags j=g at*
         obtain⟨y1,y2,y3⟩:=y
         obtain⟨⟨places,roads⟩,time,people,tags,readers,numbers,looked,missed⟩:=x
         simp only[ae,Tru.cs,au,Rdr.e,arI,List.cons_append,List.nil_append,List.map_cons,List.map_nil,LLe,tL,ml,rn,Nat.reduceAdd,Nat.reduceSub,List.length_cons,List.length_nil]at*
         simp (disch:=omega) only[go_sem,K.aa,↓reduceIte,ex,hs,sh,an,h2,et,ai,List.length_set,ql,List.map_append,List.map_cons,List.map_nil,List.length_append,List.length_singleton,gt_iff_lt,Nat.reduceAdd,Nat.reduceSub]
       · refine⟨_,?_,[w,w2]++[y],by simp only[List.length_cons,List.length_nil,List.length_append]at *;omega,hb2,rfl⟩
         rw[rs1,ss1]
         generalize a7 _ p2 j=q at*
         generalize aL x.people b.pl m x.tags j=g at*
         obtain⟨y1,y2,y3⟩:=y
         obtain⟨⟨places,roads⟩,time,people,tags,readers,numbers,looked,missed⟩:=x
         simp only[ae,Tru.cs,au,Rdr.e,arI,List.cons_append,List.nil_append,List.map_cons,List.map_nil,LLe,tL,ml,rn,Nat.reduceAdd,Nat.reduceSub,List.length_cons,List.length_nil]at*
         simp (disch:=omega) only[go_sem,K.aa,↓reduceIte,ex,hs,sh,an,h2,et,ai,List.length_set,ql,List.map_append,List.map_cons,List.map_nil,List.length_append,List.length_singleton,gt_iff_lt,Nat.reduceAdd,Nat.reduceSub]
       · simp only[List.length_cons]at wl;omega
   · have nw:(bI x.people b.pl m p2) j=0:=by unfold bI bO eP;rw[decide_eq_false h1];rfl
     have ss1:aL x.people b.pl m x.tags (j+1)=aL x.people b.pl m x.tags j:=by rw[aL];unfold bO eP;rw[decide_eq_false h1];rfl
     have rs1:a7 (bI x.people b.pl m p2) p2 (j+1)=(a7 (bI x.people b.pl m p2) p2 j).set j 0:=by rw[a7,nw]
     rw[decide_eq_false h1]at hs
     by_cases h2:sM m j=1
     · generalize hy:nth x.people j=y at*
       rcases W with _ | ⟨w,_ | ⟨w2,_ | ⟨w3,W⟩⟩⟩
       · refine⟨_,?_,[]++[y],by simp only[List.length_cons,List.length_nil,List.length_append]at *;omega,hb2,rfl⟩
         rw[rs1,ss1]
         generalize a7 _ p2 j=q at*
         generalize aL x.people b.pl m x.tags j=g at*
         obtain⟨y1,y2,y3⟩:=y
         obtain⟨⟨places,roads⟩,time,people,tags,readers,numbers,looked,missed⟩:=x
         simp only[ae,Tru.cs,au,Rdr.e,arI,List.cons_append,List.nil_append,List.map_cons,List.map_nil,LLe,tL,ml,rn,Nat.reduceAdd,Nat.reduceSub,List.length_cons,List.length_nil]at*
         simp (disch:=omega) only[go_sem,K.aa,↓reduceIte,ex,hs,sh,an,h2,ai,List.length_set,ql,List.map_append,List.map_cons,List.map_nil,List.length_append,List.length_singleton,gt_iff_lt,Nat.reduceAdd,Nat.reduceSub]
       · refine⟨_,?_,[w]++[y],by simp only[List.length_cons,List.length_nil,List.length_append]at *;omega,hb2,rfl⟩
         rw[rs1,ss1]
         generalize a7 _ p2 j=q at*
         generalize aL x.people b.pl m x.tags j=g at*
         obtain⟨y1,y2,y3⟩:=y
         obtain⟨⟨places,roads⟩,time,people,tags,readers,numbers,looked,missed⟩:=x
         simp only[ae,Tru.cs,au,Rdr.e,arI,List.cons_append,List.nil_append,List.map_cons,List.map_nil,LLe,tL,ml,rn,Nat.reduceAdd,Nat.reduceSub,List.length_cons,List.length_nil]at*
         simp (disch:=omega) only[go_sem,K.aa,↓reduceIte,ex,hs,sh,an,h2,ai,List.length_set,ql,List.map_append,List.map_cons,List.map_nil,List.length_append,List.length_singleton,gt_iff_lt,Nat.reduceAdd,Nat.reduceSub]
       · refine⟨_,?_,[w,w2]++[y],by simp only[List.length_cons,List.length_nil,List.length_append]at *;omega,hb2,rfl⟩
         rw[rs1,ss1]
         generalize a7 _ p2 j=q at*
         generalize aL x.people b.pl m x.tags j=g at*
         obtain⟨y1,y2,y3⟩:=y
         obtain⟨⟨places,roads⟩,time,people,tags,readers,numbers,looked,missed⟩:=x
         simp only[ae,Tru.cs,au,Rdr.e,arI,List.cons_append,List.nil_append,List.map_cons,List.map_nil,LLe,tL,ml,rn,Nat.reduceAdd,Nat.reduceSub,List.length_cons,List.length_nil]at*
         simp (disch:=omega) only[go_sem,K.aa,↓reduceIte,ex,hs,sh,an,h2,ai,List.length_set,ql,List.map_append,List.map_cons,List.map_nil,List.length_append,List.length_singleton,gt_iff_lt,Nat.reduceAdd,Nat.reduceSub]
       · simp only[List.length_cons]at wl;omega
     · generalize hy:nth x.people j=y at*
       rcases W with _ | ⟨w,_ | ⟨w2,_ | ⟨w3,W⟩⟩⟩
       · refine⟨_,?_,[]++[y],by simp only[List.length_cons,List.length_nil,List.length_append]at *;omega,hb2,rfl⟩
         rw[rs1,ss1]
         generalize a7 _ p2 j=q at*
         generalize aL x.people b.pl m x.tags j=g at*
         obtain⟨y1,y2,y3⟩:=y
         obtain⟨⟨places,roads⟩,time,people,tags,readers,numbers,looked,missed⟩:=x
         simp only[ae,Tru.cs,au,Rdr.e,arI,List.cons_append,List.nil_append,List.map_cons,List.map_nil,LLe,tL,ml,rn,Nat.reduceAdd,Nat.reduceSub,List.length_cons,List.length_nil]at*
         simp (disch:=omega) only[go_sem,K.aa,↓reduceIte,ex,hs,sh,an,h2,ai,List.length_set,ql,List.map_append,List.map_cons,List.map_nil,List.length_append,List.length_singleton,gt_iff_lt,Nat.reduceAdd,Nat.reduceSub]
       · refine⟨_,?_,[w]++[y],by simp only[List.length_cons,List.length_nil,List.length_append]at *;omega,hb2,rfl⟩
         rw[rs1,ss1]
         generalize a7 _ p2 j=q at*
         generalize aL x.people b.pl m x.tags j=g at*
         obtain⟨y1,y2,y3⟩:=y
         obtain⟨⟨places,roads⟩,time,people,tags,readers,numbers,looked,missed⟩:=x
         simp only[ae,Tru.cs,au,Rdr.e,arI,List.cons_append,List.nil_append,List.map_cons,List.map_nil,LLe,tL,ml,rn,Nat.reduceAdd,Nat.reduceSub,List.length_cons,List.length_nil]at*
         simp (disch:=omega) only[go_sem,K.aa,↓reduceIte,ex,hs,sh,an,h2,ai,List.length_set,ql,List.map_append,List.map_cons,List.map_nil,List.length_append,List.length_singleton,gt_iff_lt,Nat.reduceAdd,Nat.reduceSub]
       · refine⟨_,?_,[w,w2]++[y],by simp only[List.length_cons,List.length_nil,List.length_append]at *;omega,hb2,rfl⟩
         rw[rs1,ss1]
         generalize a7 _ p2 j=q at*
         generalize aL x.people b.pl m x.tags j=g at*
         obtain⟨y1,y2,y3⟩:=y
         obtain⟨⟨places,roads⟩,time,people,tags,readers,numbers,looked,missed⟩:=x
         simp only[ae,Tru.cs,au,Rdr.e,arI,List.cons_append,List.nil_append,List.map_cons,List.map_nil,LLe,tL,ml,rn,Nat.reduceAdd,Nat.reduceSub,List.length_cons,List.length_nil]at*
         simp (disch:=omega) only[go_sem,K.aa,↓reduceIte,ex,hs,sh,an,h2,ai,List.length_set,ql,List.map_append,List.map_cons,List.map_nil,List.length_append,List.length_singleton,gt_iff_lt,Nat.reduceAdd,Nat.reduceSub]
       · simp only[List.length_cons]at wl;omega
theorem LP{x:Tru}(h:x.ok){a b:Rdr}{p p2:List Int}(e1:x.readers=[a,b])(e2:x.missed=[p,p2])(m off:Int)(oN oL:Obj)(num:Int)(z0 z3 z7 z10 z11 z13 z14 z15 z16 z17:D):∃q,exS aT K.fx ⟨[z0,I 1,I m,z3,.bp 0 0,.bp 1 0,.bp 2 0,z7,.bp 3 0,.bp 10 0,z10,z11,.bp 11 0,z13,z14,z15,z16,z17,.t (.sl (x.people.map Wlk.e)),I x.people.length,I 0],[.box (x.cs.map .t),.box ae,.box [I 0,I 0,I 0,.nil],.box [.t (tL b.pl),I b.per,I b.miss,I b.skew],.arr 4 false 0 [.t a.e,.t b.e],oN,oL,.arr 1 false 0 [.ref 8 0 p.length,.ref 9 0 p2.length],arI p,arI p2,.box (au 4 x),.box [I 1,I num,I (x.time+off),.ref 13 0 0],.arr 1 false 0 [],arI ([]:List Int)]⟩=some q∧Dq x a b p p2 m off oN oL num q:=by
 have n3:=h.n3
 have tl:=h.tl
 have nl:=h.nl
 have ll:=h.ll
 have t0:=h.t0
 have t1:=h.t1
 have nb:=h.nb 1 (by rw[e1];simp)
 have mb:=h.mb 1 (by rw[e1];simp)
 have m2:=h.m2 1 (by rw[e1];simp)
 have rk:nth x.readers 1=b:=by rw[e1];rfl
 have mk:nth x.missed 1=p2:=by rw[e2];rfl
 have ml:x.missed.length=2:=by rw[e2];rfl
 have rn:x.readers.length=2:=by rw[e1];rfl
 have ro:=h.r b (by rw[e1];simp)
 rw[rk,mk]at mb
 rw[mk]at m2
 obtain⟨rs,rl,rl1,rp1,rp2,rm1,rm2,rk1,rk2⟩:=ro
 refine fI (uG x a b p p2 m off oN oL num) x.people.length _ ⟨[],Nat.le_refl _,fun i hi=>absurd hi (by omega),rfl⟩ (fun j st hj hp=>LO h e1 e2 m off oN oL num j st hj hp) ?_
 intro st hp
 refine⟨(.exit 1,st),?_,by simp,.inr ⟨?_,st,hp,rfl⟩⟩
 · obtain⟨W,wl,hb,rfl⟩:=hp
   have wl:=Nat.le_trans wl n3
   generalize a7 _ p2 _=q at*
   generalize aL x.people b.pl m x.tags _=g at*
   rcases W with _ | ⟨w,_ | ⟨w2,_ | ⟨w3,_ | ⟨w4,W⟩⟩⟩⟩
   · obtain⟨⟨places,roads⟩,time,people,tags,readers,numbers,looked,missed⟩:=x
     simp only[ae,Tru.cs,au,Rdr.e,arI,List.cons_append,List.nil_append,List.map_cons,List.map_nil,LLe,tL,ml,rn,Nat.reduceAdd,Nat.reduceSub,List.length_cons,List.length_nil]at*
     simp (disch:=omega) only[go_sem,K.aa,↓reduceIte,Nat.reduceAdd,Nat.reduceSub]
   · obtain⟨⟨places,roads⟩,time,people,tags,readers,numbers,looked,missed⟩:=x
     simp only[ae,Tru.cs,au,Rdr.e,arI,List.cons_append,List.nil_append,List.map_cons,List.map_nil,LLe,tL,ml,rn,Nat.reduceAdd,Nat.reduceSub,List.length_cons,List.length_nil]at*
     simp (disch:=omega) only[go_sem,K.aa,↓reduceIte,Nat.reduceAdd,Nat.reduceSub]
   · obtain⟨⟨places,roads⟩,time,people,tags,readers,numbers,looked,missed⟩:=x
     simp only[ae,Tru.cs,au,Rdr.e,arI,List.cons_append,List.nil_append,List.map_cons,List.map_nil,LLe,tL,ml,rn,Nat.reduceAdd,Nat.reduceSub,List.length_cons,List.length_nil]at*
     simp (disch:=omega) only[go_sem,K.aa,↓reduceIte,Nat.reduceAdd,Nat.reduceSub]
   · obtain⟨⟨places,roads⟩,time,people,tags,readers,numbers,looked,missed⟩:=x
     simp only[ae,Tru.cs,au,Rdr.e,arI,List.cons_append,List.nil_append,List.map_cons,List.map_nil,LLe,tL,ml,rn,Nat.reduceAdd,Nat.reduceSub,List.length_cons,List.length_nil]at*
     simp (disch:=omega) only[go_sem,K.aa,↓reduceIte,Nat.reduceAdd,Nat.reduceSub]
   · simp only[List.length_cons]at wl;omega
 · obtain⟨W,wl,hb,rfl⟩:=hp
   rw[List.any_eq_false]
   intro i hi
   rw[hb i (List.mem_range.1 hi)]
   decide
set_option maxHeartbeats 4000000 in
theorem Dr{x:Tru}(h:x.ok){a b:Rdr}{p p2:List Int}(e1:x.readers=[a,b])(e2:x.missed=[p,p2])(m off:Int)(o1: -b.skew≤off)(o2:off≤b.skew)(o3:0≤x.time+off)(o4:x.time+off≤2147483648):
 aT 0 N.ag [.t x.e,I 1,I m,I off] []=some (if nQ x 1 m then .tup [.t x.e,.t (dJ 0 0 0 []),I 43]else .tup [.t (du x 1 m).e,.t (dJ 1 (lg x 1) (x.time+off) (fZ (aL x.people b.pl m x.tags x.people.length))),I 0],[]):=by
 have n3:=h.n3
 have tl:=h.tl
 have nl:=h.nl
 have ll:=h.ll
 have t0:=h.t0
 have t1:=h.t1
 have nb:=h.nb 1 (by rw[e1];simp)
 have mb:=h.mb 1 (by rw[e1];simp)
 have m2:=h.m2 1 (by rw[e1];simp)
 have rk:nth x.readers 1=b:=by rw[e1];rfl
 have mk:nth x.missed 1=p2:=by rw[e2];rfl
 have ml:x.missed.length=2:=by rw[e2];rfl
 have rn:x.readers.length=2:=by rw[e1];rfl
 have ro:=h.r b (by rw[e1];simp)
 rw[rk,mk]at mb
 rw[mk]at m2
 obtain⟨rs,rl,rl1,rp1,rp2,rm1,rm2,rk1,rk2⟩:=ro
 have sz:=h.sz
 have cp:=tS sz e1 e2
 have va:=jy h
 have lpL:=LP h e1 e2 m off
 have scl:∀(y:Tru) (r:T) (v:Int),([D.t y.e,D.t r,I v].all bz)=false:=fun _ _ _=>rfl
 have sl:=eH x.people b.pl m x.tags x.people.length
 have so:=pD 0 (aL x.people b.pl m x.tags x.people.length) (by omega)
 have sol:=eZ (aL x.people b.pl m x.tags x.people.length)
 have i1:=hT 1 0 ((2:Int)-1)
 have i2:=hT off (0-b.skew) b.skew
 have i3:=hT (x.time+off) 0 2147483648
 rw[decide_eq_true (by omega)]at i1 i2 i3
 unfold nQ du lg
 rw[rk,mk]
 have en:(x.numbers.map (T.int .i64))[1]?=some (tI (nth x.numbers 1)):=aD _ (by omega)
 have el:(x.looked.map (T.int .i64))[1]?=some (tI (nth x.looked 1)):=aD _ (by omega)
 generalize nth x.numbers 1=nu at*
 generalize nth x.looked 1=lo at*
 refine aB K.fk rfl ?_
 have qe:∀(b:Prop) [Decidable b],(nu+if b then 2 else 1)=if b then nu+2 else nu+1:=fun b _=>by split<;>rfl
 have wl:=cD (bI x.people b.pl m p2) p2 x.people.length
 by_cases bq:(List.range x.people.length).any (cV x.people b.pl b.miss m p2)=true
 · rw[if_pos bq]
   obtain⟨⟨places,roads⟩,time,people,tags,readers,numbers,looked,missed⟩:=x
   subst e1 e2
   simp only[ae,Tru.e,Tru.cs,au,arI,kZ,tLL,Rdr.e,List.map_cons,List.map_nil,LLe,tL]at*
   by_cases ca:0≤lo
   · by_cases cb:b.per<time-lo
     · simp (disch:=omega) only[go_sem,K.ag,↓reduceIte,cp,va,i1,i2,i3,en,el,ca,cb,gt_iff_lt,ai,List.length_set,Nat.reduceAdd,Nat.reduceSub]
       refine b7 _ (lpL _ _ _ _ _ _ _ _ _ _ _ _ _) ?_
       rintro q (⟨_,v0,v3,_,_,_,vr,rest,rfl⟩ | ⟨n,_⟩)
       · simp (disch:=omega) only[go_sem,K.ag,↓reduceIte,scl,Nat.reduceAdd,Nat.reduceSub]
         rfl
       · rw[n]at bq;cases bq
     · simp (disch:=omega) only[go_sem,K.ag,↓reduceIte,cp,va,i1,i2,i3,en,el,ca,cb,gt_iff_lt,ai,List.length_set,Nat.reduceAdd,Nat.reduceSub]
       refine b7 _ (lpL _ _ _ _ _ _ _ _ _ _ _ _ _) ?_
       rintro q (⟨_,v0,v3,_,_,_,vr,rest,rfl⟩ | ⟨n,_⟩)
       · simp (disch:=omega) only[go_sem,K.ag,↓reduceIte,scl,Nat.reduceAdd,Nat.reduceSub]
         rfl
       · rw[n]at bq;cases bq
   · simp (disch:=omega) only[go_sem,K.ag,↓reduceIte,cp,va,i1,i2,i3,en,el,ca,gt_iff_lt,ai,List.length_set,Nat.reduceAdd,Nat.reduceSub]
     refine b7 _ (lpL _ _ _ _ _ _ _ _ _ _ _ _ _) ?_
     rintro q (⟨_,v0,v3,_,_,_,vr,rest,rfl⟩ | ⟨n,_⟩)
     · simp (disch:=omega) only[go_sem,K.ag,↓reduceIte,scl,Nat.reduceAdd,Nat.reduceSub]
       rfl
     · rw[n]at bq;cases bq
 · rw[if_neg bq]
   have qa:(x.numbers.set 1 ((nu+if 0≤lo∧b.per<x.time-lo then 2 else 1).tmod 65536)).length=x.numbers.length:=List.length_set ..
   generalize hg:aL x.people b.pl m x.tags x.people.length=g at*
   obtain⟨q,hq,hQ⟩:=lpL (arI (x.numbers.set 1 ((nu+if 0≤lo∧b.per<x.time-lo then 2 else 1).tmod 65536))) (arI (x.looked.set 1 x.time)) ((nu+if 0≤lo∧b.per<x.time-lo then 2 else 1).tmod 65536) (.t x.e) (I off) (I 0) (if 0≤lo∧b.per<x.time-lo then I 2 else I 1) (I ((nu+if 0≤lo∧b.per<x.time-lo then 2 else 1).tmod 65536)) .und .und .und .und .und
   rcases hQ with⟨n,_⟩ | ⟨_,st,⟨W,wl2,hb,rfl⟩,rfl⟩
   · exact absurd n bq
   rw[hg]at hq
   generalize a7 _ p2 _=w at*
   rcases W with _ | ⟨w1,_ | ⟨w2,_ | ⟨w3,_ | ⟨w4,W⟩⟩⟩⟩
   · obtain⟨⟨places,roads⟩,time,people,tags,readers,numbers,looked,missed⟩:=x
     subst e1 e2
     simp only[ae,Tru.e,Tru.cs,dJ,au,arI,kZ,tLL,Rdr.e,List.cons_append,List.nil_append,List.map_cons,List.map_nil,LLe,tL,Nat.reduceAdd,Nat.reduceSub,List.length_cons,List.length_nil]at*
     by_cases ca:0≤lo
     · by_cases cb:b.per<time-lo
       · simp only[if_pos (And.intro ca cb)]at hq ⊢
         simp (disch:=omega) only[go_sem,K.ag,↓reduceIte,cp,va,i1,i2,i3,en,el,ca,cb,gt_iff_lt,ai,hq,so,sol,wl,scl,List.length_set,Nat.reduceAdd,Nat.reduceSub]
       · simp only[if_neg (fun e:0≤lo∧b.per<time-lo=>cb e.2)]at hq ⊢
         simp (disch:=omega) only[go_sem,K.ag,↓reduceIte,cp,va,i1,i2,i3,en,el,ca,cb,gt_iff_lt,ai,hq,so,sol,wl,scl,List.length_set,Nat.reduceAdd,Nat.reduceSub]
     · simp only[if_neg (fun e:0≤lo∧b.per<time-lo=>ca e.1)]at hq ⊢
       simp (disch:=omega) only[go_sem,K.ag,↓reduceIte,cp,va,i1,i2,i3,en,el,ca,gt_iff_lt,ai,hq,so,sol,wl,scl,List.length_set,Nat.reduceAdd,Nat.reduceSub]
   · obtain⟨⟨places,roads⟩,time,people,tags,readers,numbers,looked,missed⟩:=x
     subst e1 e2
     simp only[ae,Tru.e,Tru.cs,dJ,au,arI,kZ,tLL,Rdr.e,List.cons_append,List.nil_append,List.map_cons,List.map_nil,LLe,tL,Nat.reduceAdd,Nat.reduceSub,List.length_cons,List.length_nil]at*
     by_cases ca:0≤lo
     · by_cases cb:b.per<time-lo
       · simp only[if_pos (And.intro ca cb)]at hq ⊢
         simp (disch:=omega) only[go_sem,K.ag,↓reduceIte,cp,va,i1,i2,i3,en,el,ca,cb,gt_iff_lt,ai,hq,so,sol,wl,scl,List.length_set,Nat.reduceAdd,Nat.reduceSub]
       · simp only[if_neg (fun e:0≤lo∧b.per<time-lo=>cb e.2)]at hq ⊢
         simp (disch:=omega) only[go_sem,K.ag,↓reduceIte,cp,va,i1,i2,i3,en,el,ca,cb,gt_iff_lt,ai,hq,so,sol,wl,scl,List.length_set,Nat.reduceAdd,Nat.reduceSub]
     · simp only[if_neg (fun e:0≤lo∧b.per<time-lo=>ca e.1)]at hq ⊢
       simp (disch:=omega) only[go_sem,K.ag,↓reduceIte,cp,va,i1,i2,i3,en,el,ca,gt_iff_lt,ai,hq,so,sol,wl,scl,List.length_set,Nat.reduceAdd,Nat.reduceSub]
   · obtain⟨⟨places,roads⟩,time,people,tags,readers,numbers,looked,missed⟩:=x
     subst e1 e2
     simp only[ae,Tru.e,Tru.cs,dJ,au,arI,kZ,tLL,Rdr.e,List.cons_append,List.nil_append,List.map_cons,List.map_nil,LLe,tL,Nat.reduceAdd,Nat.reduceSub,List.length_cons,List.length_nil]at*
     by_cases ca:0≤lo
     · by_cases cb:b.per<time-lo
       · simp only[if_pos (And.intro ca cb)]at hq ⊢
         simp (disch:=omega) only[go_sem,K.ag,↓reduceIte,cp,va,i1,i2,i3,en,el,ca,cb,gt_iff_lt,ai,hq,so,sol,wl,scl,List.length_set,Nat.reduceAdd,Nat.reduceSub]
       · simp only[if_neg (fun e:0≤lo∧b.per<time-lo=>cb e.2)]at hq ⊢
         simp (disch:=omega) only[go_sem,K.ag,↓reduceIte,cp,va,i1,i2,i3,en,el,ca,cb,gt_iff_lt,ai,hq,so,sol,wl,scl,List.length_set,Nat.reduceAdd,Nat.reduceSub]
     · simp only[if_neg (fun e:0≤lo∧b.per<time-lo=>ca e.1)]at hq ⊢
       simp (disch:=omega) only[go_sem,K.ag,↓reduceIte,cp,va,i1,i2,i3,en,el,ca,gt_iff_lt,ai,hq,so,sol,wl,scl,List.length_set,Nat.reduceAdd,Nat.reduceSub]
   · obtain⟨⟨places,roads⟩,time,people,tags,readers,numbers,looked,missed⟩:=x
     subst e1 e2
     simp only[ae,Tru.e,Tru.cs,dJ,au,arI,kZ,tLL,Rdr.e,List.cons_append,List.nil_append,List.map_cons,List.map_nil,LLe,tL,Nat.reduceAdd,Nat.reduceSub,List.length_cons,List.length_nil]at*
     by_cases ca:0≤lo
     · by_cases cb:b.per<time-lo
       · simp only[if_pos (And.intro ca cb)]at hq ⊢
         simp (disch:=omega) only[go_sem,K.ag,↓reduceIte,cp,va,i1,i2,i3,en,el,ca,cb,gt_iff_lt,ai,hq,so,sol,wl,scl,List.length_set,Nat.reduceAdd,Nat.reduceSub]
       · simp only[if_neg (fun e:0≤lo∧b.per<time-lo=>cb e.2)]at hq ⊢
         simp (disch:=omega) only[go_sem,K.ag,↓reduceIte,cp,va,i1,i2,i3,en,el,ca,cb,gt_iff_lt,ai,hq,so,sol,wl,scl,List.length_set,Nat.reduceAdd,Nat.reduceSub]
     · simp only[if_neg (fun e:0≤lo∧b.per<time-lo=>ca e.1)]at hq ⊢
       simp (disch:=omega) only[go_sem,K.ag,↓reduceIte,cp,va,i1,i2,i3,en,el,ca,gt_iff_lt,ai,hq,so,sol,wl,scl,List.length_set,Nat.reduceAdd,Nat.reduceSub]
   · simp only[List.length_cons]at wl2;omega
end Go.Ev
