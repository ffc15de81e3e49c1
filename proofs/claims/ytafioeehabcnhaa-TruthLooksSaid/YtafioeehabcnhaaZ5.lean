/- Parts of the proof: see the text that holds the theorem. -/
import Derived.Test.YtafioeehabcnhaaZ4
set_option linter.all false
namespace Go.Ev
open Go
variable [Lib] [bz] [bD] [cZ] [c7] [dZ] [cL] [cI] [dE] [dt] [bM] [bZ] [cW] [cX] [dO] [dF] [dM] [dr] [dv]
def rV(x:Tru)(a b d:Rdr)(p p2 p3:List Int)(m off:Int)(oN oL:Obj)(num:Int)(j:Nat)(st:St):Prop:=∃W:List Wlk,W.length≤j∧(∀i,i<j→(fv x.people a.pl a.miss m p) i=false)∧st=⟨[.und,I 0,I m,.und,.bp 0 0,.bp 1 0,.bp 2 0,.und,.bp 3 0,.bp 11 0,.und,.und,.bp 12 0,.und,.und,.und,.und,.und,.t (.sl (x.people.map Wlk.e)),I x.people.length,I j],[.box (x.cs.map .t),.box az,.box [I 0,I 0,I 0,.nil],.box [.t (tL a.pl),I a.per,I a.miss,I a.skew],.arr 4 false 0 [.t a.e,.t b.e,.t d.e],oN,oL,.arr 1 false 0 [.ref 8 0 p.length,.ref 9 0 p2.length,.ref 10 0 p3.length],arI (bB (c8 x.people a.pl m p) p j),arI p2,arI p3,.box (ak 4 x),.box [I 0,I num,I (x.time+off),.ref 14 0 (aD x.people a.pl m x.tags j).length],.arr 1 false 0 [],arI (aD x.people a.pl m x.tags j)]++(W.map fun w=> .box [I w.place,I w.kR,I w.left])⟩
def AS(x:Tru)(a b d:Rdr)(p p2 p3:List Int)(m off:Int)(oN oL:Obj)(num:Int)(q:Ex×St):Prop:=((List.range x.people.length).any (fv x.people a.pl a.miss m p)=true∧∃(v0 v3 v8 v9 v10:D) (vr:List D) (rest:ag),q=(.ret,⟨v0::I 0::I m::v3:: .bp 0 0:: .bp 1 0:: .bp 2 0::I 43::vr,.box (x.cs.map .t):: .box (x.cs.map .t):: .box [I 0,I 0,I 0,.nil]::rest⟩))∨((List.range x.people.length).any (fv x.people a.pl a.miss m p)=false∧∃st,rV x a b d p p2 p3 m off oN oL num x.people.length st∧q=(.exit 1,st))
theorem Jm{x:Tru}(h:x.ok){a b d:Rdr}{p p2 p3:List Int}(e1:x.readers=[a,b,d])(e2:x.missed=[p,p2,p3])(m off:Int)(oN oL:Obj)(num:Int)(j:Nat)(st:St)(hj:j<x.people.length)(hp:rV x a b d p p2 p3 m off oN oL num j st):
 (∃st',fg false [0,3,7,10,11,13,14,15,16,17] st.H.length (exS aX K.aa st)=some st'∧rV x a b d p p2 p3 m off oN oL num (j+1) st')∨∃q,exS aX K.aa st=some q∧q.1≠ .normal∧AS x a b d p p2 p3 m off oN oL num q:=by
 have n3:=h.n3
 have tl:=h.tl
 have nl:=h.nl
 have ll:=h.ll
 have t0:=h.t0
 have t1:=h.t1
 have nb:=h.nb 0 (by rw[e1];simp)
 have mb:=h.mb 0 (by rw[e1];simp)
 have m2:=h.m2 0 (by rw[e1];simp)
 have rk:nth x.readers 0=a:=by rw[e1];rfl
 have mk:nth x.missed 0=p:=by rw[e2];rfl
 have ml:x.missed.length=3:=by rw[e2];rfl
 have rn:x.readers.length=3:=by rw[e1];rfl
 have ro:=h.r a (by rw[e1];simp)
 rw[rk,mk]at mb
 rw[mk]at m2
 obtain⟨rs,rl,rl1,rp1,rp2,rm1,rm2,rk1,rk2⟩:=ro
 have ex:(x.people.map Wlk.e)[j]?=some (nth x.people j).e:=aU _ hj
 have et:(x.tags.map (T.int .i64))[j]?=some (tI (nth x.tags j)):=aU _ (by omega)
 have hs:=gq a.pl (nth x.people j).place (by omega)
 have mbj:=mb j hj
 have sh:=jo m j
 have an:=jn m j
 obtain⟨W,wl,hb,rfl⟩:=hp
 have ql:=ef (c8 x.people a.pl m p) p j
 have qj:=lO (c8 x.people a.pl m p) p j j (Nat.le_refl _)
 have sl:=dY x.people a.pl m x.tags j
 by_cases hq:(fv x.people a.pl a.miss m p) j=true
 · have anyb:(List.range x.people.length).any (fv x.people a.pl a.miss m p)=true:=List.any_eq_true.2 ⟨j,List.mem_range.2 hj,hq⟩
   unfold fv cH eX at hq
   simp only[Bool.and_eq_true,decide_eq_true_eq]at hq
   obtain⟨⟨h1,h2⟩,h3⟩:=hq
   generalize bB _ p j=q at*
   generalize aD x.people a.pl m x.tags j=g at*
   rw[← qj]at h3
   have nse:nth (q.set j (nth q j+1)) j=nth q j+1:=aV (by omega)
   rw[decide_eq_true h1]at hs
   have key:∃(v0 v3:D) (vr:List D) (rest:ag),exS aX K.aa ⟨[.und,I 0,I m,.und,.bp 0 0,.bp 1 0,.bp 2 0,.und,.bp 3 0,.bp 11 0,.und,.und,.bp 12 0,.und,.und,.und,.und,.und,.t (.sl (x.people.map Wlk.e)),I x.people.length,I j],[.box (x.cs.map .t),.box az,.box [I 0,I 0,I 0,.nil],.box [.t (tL a.pl),I a.per,I a.miss,I a.skew],.arr 4 false 0 [.t a.e,.t b.e,.t d.e],oN,oL,.arr 1 false 0 [.ref 8 0 p.length,.ref 9 0 p2.length,.ref 10 0 p3.length],arI q,arI p2,arI p3,.box (ak 4 x),.box [I 0,I num,I (x.time+off),.ref 14 0 g.length],.arr 1 false 0 [],arI g]++(W.map fun w=> .box [I w.place,I w.kR,I w.left])⟩=some (.ret,⟨v0::I 0::I m::v3:: .bp 0 0:: .bp 1 0:: .bp 2 0::I 43::vr,.box (x.cs.map .t):: .box (x.cs.map .t):: .box [I 0,I 0,I 0,.nil]::rest⟩):=by
    generalize nth x.people j=y at*
    obtain⟨y1,y2,y3⟩:=y
    rcases W with _ | ⟨w,_ | ⟨w2,_ | ⟨w3,W⟩⟩⟩
    · obtain⟨⟨places,roads⟩,time,people,tags,readers,numbers,looked,missed⟩:=x
      simp only[az,Tru.cs,ak,Rdr.e,arI,List.cons_append,List.nil_append,List.map_cons,List.map_nil,LLe,tL,ml,rn,Nat.reduceAdd,Nat.reduceSub,List.length_cons,List.length_nil]at*
      simp (disch:=omega) only[go_sem,K.aa,↓reduceIte,ex,hs,sh,an,h2,nse,h3,aE,List.length_set,ql,List.map_append,List.map_cons,List.map_nil,List.length_append,List.length_singleton,gt_iff_lt,Nat.reduceAdd,Nat.reduceSub]
      exact⟨_,_,_,_,rfl⟩
    · obtain⟨⟨places,roads⟩,time,people,tags,readers,numbers,looked,missed⟩:=x
      simp only[az,Tru.cs,ak,Rdr.e,arI,List.cons_append,List.nil_append,List.map_cons,List.map_nil,LLe,tL,ml,rn,Nat.reduceAdd,Nat.reduceSub,List.length_cons,List.length_nil]at*
      simp (disch:=omega) only[go_sem,K.aa,↓reduceIte,ex,hs,sh,an,h2,nse,h3,aE,List.length_set,ql,List.map_append,List.map_cons,List.map_nil,List.length_append,List.length_singleton,gt_iff_lt,Nat.reduceAdd,Nat.reduceSub]
      exact⟨_,_,_,_,rfl⟩
    · obtain⟨⟨places,roads⟩,time,people,tags,readers,numbers,looked,missed⟩:=x
      simp only[az,Tru.cs,ak,Rdr.e,arI,List.cons_append,List.nil_append,List.map_cons,List.map_nil,LLe,tL,ml,rn,Nat.reduceAdd,Nat.reduceSub,List.length_cons,List.length_nil]at*
      simp (disch:=omega) only[go_sem,K.aa,↓reduceIte,ex,hs,sh,an,h2,nse,h3,aE,List.length_set,ql,List.map_append,List.map_cons,List.map_nil,List.length_append,List.length_singleton,gt_iff_lt,Nat.reduceAdd,Nat.reduceSub]
      exact⟨_,_,_,_,rfl⟩
    · simp only[List.length_cons]at wl;omega
   obtain⟨v0,v3,vr,rest,key⟩:=key
   exact .inr ⟨_,key,by simp,.inl ⟨anyb,v0,v3,v0,v0,v0,vr,rest,rfl⟩⟩
 · have hq:(fv x.people a.pl a.miss m p) j=false:=by simpa using hq
   have hb2:∀i,i<j+1→(fv x.people a.pl a.miss m p) i=false:=fun i hi=>by
    by_cases c:i=j
    · rw[c];exact hq
    · exact hb i (by omega)
   left
   by_cases h1:(nth x.people j).place∈a.pl
   · rw[decide_eq_true h1]at hs
     by_cases h2:ui m j=1
     · have nw:(c8 x.people a.pl m p) j=nth p j+1:=by unfold c8 cH eX;rw[decide_eq_true h1,decide_eq_true h2];rfl
       have nl0:¬a.miss<nth p j+1:=by
        unfold fv cH eX at hq
        rw[decide_eq_true h1,decide_eq_true h2]at hq
        simpa using hq
       have ss1:aD x.people a.pl m x.tags (j+1)=aD x.people a.pl m x.tags j:=by rw[aD];unfold cH eX;rw[decide_eq_true h1,decide_eq_true h2];rfl
       have rs1:bB (c8 x.people a.pl m p) p (j+1)=(bB (c8 x.people a.pl m p) p j).set j (nth p j+1):=by rw[bB,nw]
       generalize hy:nth x.people j=y at*
       rcases W with _ | ⟨w,_ | ⟨w2,_ | ⟨w3,W⟩⟩⟩
       · refine⟨_,?_,[]++[y],by simp only[List.length_cons,List.length_nil,List.length_append]at *;omega,hb2,rfl⟩
         rw[rs1,ss1]
         generalize bB _ p j=q at*
         generalize aD x.people a.pl m x.tags j=g at*
         rw[← qj]at nl0 ⊢
         have nse:nth (q.set j (nth q j+1)) j=nth q j+1:=aV (by omega)
         obtain⟨y1,y2,y3⟩:=y
         obtain⟨⟨places,roads⟩,time,people,tags,readers,numbers,looked,missed⟩:=x
         simp only[az,Tru.cs,ak,Rdr.e,arI,List.cons_append,List.nil_append,List.map_cons,List.map_nil,LLe,tL,ml,rn,Nat.reduceAdd,Nat.reduceSub,List.length_cons,List.length_nil]at*
         simp (disch:=omega) only[go_sem,K.aa,↓reduceIte,ex,hs,sh,an,h2,nse,nl0,aE,List.length_set,ql,List.map_append,List.map_cons,List.map_nil,List.length_append,List.length_singleton,gt_iff_lt,Nat.reduceAdd,Nat.reduceSub]
       · refine⟨_,?_,[w]++[y],by simp only[List.length_cons,List.length_nil,List.length_append]at *;omega,hb2,rfl⟩
         rw[rs1,ss1]
         generalize bB _ p j=q at*
         generalize aD x.people a.pl m x.tags j=g at*
         rw[← qj]at nl0 ⊢
         have nse:nth (q.set j (nth q j+1)) j=nth q j+1:=aV (by omega)
         obtain⟨y1,y2,y3⟩:=y
         obtain⟨⟨places,roads⟩,time,people,tags,readers,numbers,looked,missed⟩:=x
         simp only[az,Tru.cs,ak,Rdr.e,arI,List.cons_append,List.nil_append,List.map_cons,List.map_nil,LLe,tL,ml,rn,Nat.reduceAdd,Nat.reduceSub,List.length_cons,List.length_nil]at*
         simp (disch:=omega) only[go_sem,K.aa,↓reduceIte,ex,hs,sh,an,h2,nse,nl0,aE,List.length_set,ql,List.map_append,List.map_cons,List.map_nil,List.length_append,List.length_singleton,gt_iff_lt,Nat.reduceAdd,Nat.reduceSub]
       · refine⟨_,?_,[w,w2]++[y],by simp only[List.length_cons,List.length_nil,List.length_append]at *;omega,hb2,rfl⟩
         rw[rs1,ss1]
         generalize bB _ p j=q at*
         generalize aD x.people a.pl m x.tags j=g at*
         rw[← qj]at nl0 ⊢
         have nse:nth (q.set j (nth q j+1)) j=nth q j+1:=aV (by omega)
         obtain⟨y1,y2,y3⟩:=y
         obtain⟨⟨places,roads⟩,time,people,tags,readers,numbers,looked,missed⟩:=x
         simp only[az,Tru.cs,ak,Rdr.e,arI,List.cons_append,List.nil_append,List.map_cons,List.map_nil,LLe,tL,ml,rn,Nat.reduceAdd,Nat.reduceSub,List.length_cons,List.length_nil]at*
         simp (disch:=omega) only[go_sem,K.aa,↓reduceIte,ex,hs,sh,an,h2,nse,nl0,aE,List.length_set,ql,List.map_append,List.map_cons,List.map_nil,List.length_append,List.length_singleton,gt_iff_lt,Nat.reduceAdd,Nat.reduceSub]
       · simp only[List.length_cons]at wl;omega
     · have nw:(c8 x.people a.pl m p) j=0:=by unfold c8 cH eX;rw[decide_eq_true h1,decide_eq_false h2];rfl
       have ss1:aD x.people a.pl m x.tags (j+1)=aD x.people a.pl m x.tags j++[nth x.tags j]:=by rw[aD];unfold cH eX;rw[decide_eq_true h1,decide_eq_false h2];rfl
       have rs1:bB (c8 x.people a.pl m p) p (j+1)=(bB (c8 x.people a.pl m p) p j).set j 0:=by rw[bB,nw]
       generalize hy:nth x.people j=y at*
       rcases W with _ | ⟨w,_ | ⟨w2,_ | ⟨w3,W⟩⟩⟩
       · refine⟨_,?_,[]++[y],by simp only[List.length_cons,List.length_nil,List.length_append]at *;omega,hb2,rfl⟩
         rw[rs1,ss1]
         generalize bB _ p j=q at*
         generalize aD x.people a.pl m x.tags j=g at*
         obtain⟨y1,y2,y3⟩:=y
         obtain⟨⟨places,roads⟩,time,people,tags,readers,numbers,looked,missed⟩:=x
         simp only[az,Tru.cs,ak,Rdr.e,arI,List.cons_append,List.nil_append,List.map_cons,List.map_nil,LLe,tL,ml,rn,Nat.reduceAdd,Nat.reduceSub,List.length_cons,List.length_nil]at*
         simp (disch:=omega) only[go_sem,K.aa,↓reduceIte,ex,hs,sh,an,h2,et,aE,List.length_set,ql,List.map_append,List.map_cons,List.map_nil,List.length_append,List.length_singleton,gt_iff_lt,Nat.reduceAdd,Nat.reduceSub]
       · refine⟨_,?_,[w]++[y],by simp only[List.length_cons,List.length_nil,List.length_append]at *;omega,hb2,rfl⟩
         rw[rs1,ss1]
         generalize bB _ p j=q at*
         generalize aD x.people a.pl m x.tags j=g at*
         obtain⟨y1,y2,y3⟩:=y
         obtain⟨⟨places,roads⟩,time,people,tags,readers,numbers,looked,missed⟩:=x
         simp only[az,Tru.cs,ak,Rdr.e,arI,List.cons_append,List.nil_append,List.map_cons,List.map_nil,LLe,tL,ml,rn,Nat.reduceAdd,Nat.reduceSub,List.length_cons,List.length_nil]at*
         simp (disch:=omega) only[go_sem,K.aa,↓reduceIte,ex,hs,sh,an,h2,et,aE,List.length_set,ql,List.map_append,List.map_cons,List.map_nil,List.length_append,List.length_singleton,gt_iff_lt,Nat.reduceAdd,Nat.reduceSub]
       · refine⟨_,?_,[w,w2]++[y],by simp only[List.length_cons,List.length_nil,List.length_append]at *;omega,hb2,rfl⟩
         rw[rs1,ss1]
         generalize bB _ p j=q at*
         generalize aD x.people a.pl m x.tags j=g at*
         obtain⟨y1,y2,y3⟩:=y
         obtain⟨⟨places,roads⟩,time,people,tags,readers,numbers,looked,missed⟩:=x
         simp only[az,Tru.cs,ak,Rdr.e,arI,List.cons_append,List.nil_append,List.map_cons,List.map_nil,LLe,tL,ml,rn,Nat.reduceAdd,Nat.reduceSub,List.length_cons,List.length_nil]at*
         simp (disch:=omega) only[go_sem,K.aa,↓reduceIte,ex,hs,sh,an,h2,et,aE,List.length_set,ql,List.map_append,List.map_cons,List.map_nil,List.length_append,List.length_singleton,gt_iff_lt,Nat.reduceAdd,Nat.reduceSub]
       · simp only[List.length_cons]at wl;omega
   · have nw:(c8 x.people a.pl m p) j=0:=by unfold c8 cH eX;rw[decide_eq_false h1];rfl
     have ss1:aD x.people a.pl m x.tags (j+1)=aD x.people a.pl m x.tags j:=by rw[aD];unfold cH eX;rw[decide_eq_false h1];rfl
     have rs1:bB (c8 x.people a.pl m p) p (j+1)=(bB (c8 x.people a.pl m p) p j).set j 0:=by rw[bB,nw]
     rw[decide_eq_false h1]at hs
     by_cases h2:ui m j=1
     · generalize hy:nth x.people j=y at*
       rcases W with _ | ⟨w,_ | ⟨w2,_ | ⟨w3,W⟩⟩⟩
       · refine⟨_,?_,[]++[y],by simp only[List.length_cons,List.length_nil,List.length_append]at *;omega,hb2,rfl⟩
         rw[rs1,ss1]
         generalize bB _ p j=q at*
         generalize aD x.people a.pl m x.tags j=g at*
         obtain⟨y1,y2,y3⟩:=y
         obtain⟨⟨places,roads⟩,time,people,tags,readers,numbers,looked,missed⟩:=x
         simp only[az,Tru.cs,ak,Rdr.e,arI,List.cons_append,List.nil_append,List.map_cons,List.map_nil,LLe,tL,ml,rn,Nat.reduceAdd,Nat.reduceSub,List.length_cons,List.length_nil]at*
         simp (disch:=omega) only[go_sem,K.aa,↓reduceIte,ex,hs,sh,an,h2,aE,List.length_set,ql,List.map_append,List.map_cons,List.map_nil,List.length_append,List.length_singleton,gt_iff_lt,Nat.reduceAdd,Nat.reduceSub]
       · refine⟨_,?_,[w]++[y],by simp only[List.length_cons,List.length_nil,List.length_append]at *;omega,hb2,rfl⟩
         rw[rs1,ss1]
         generalize bB _ p j=q at*
         generalize aD x.people a.pl m x.tags j=g at*
         obtain⟨y1,y2,y3⟩:=y
         obtain⟨⟨places,roads⟩,time,people,tags,readers,numbers,looked,missed⟩:=x
         simp only[az,Tru.cs,ak,Rdr.e,arI,List.cons_append,List.nil_append,List.map_cons,List.map_nil,LLe,tL,ml,rn,Nat.reduceAdd,Nat.reduceSub,List.length_cons,List.length_nil]at*
         simp (disch:=omega) only[go_sem,K.aa,↓reduceIte,ex,hs,sh,an,h2,aE,List.length_set,ql,List.map_append,List.map_cons,List.map_nil,List.length_append,List.length_singleton,gt_iff_lt,Nat.reduceAdd,Nat.reduceSub]
       · refine⟨_,?_,[w,w2]++[y],by simp only[List.length_cons,List.length_nil,List.length_append]at *;omega,hb2,rfl⟩
         rw[rs1,ss1]
         generalize bB _ p j=q at*
         generalize aD x.people a.pl m x.tags j=g at*
         obtain⟨y1,y2,y3⟩:=y
         obtain⟨⟨places,roads⟩,time,people,tags,readers,numbers,looked,missed⟩:=x
         simp only[az,Tru.cs,ak,Rdr.e,arI,List.cons_append,List.nil_append,List.map_cons,List.map_nil,LLe,tL,ml,rn,Nat.reduceAdd,Nat.reduceSub,List.length_cons,List.length_nil]at*
         simp (disch:=omega) only[go_sem,K.aa,↓reduceIte,ex,hs,sh,an,h2,aE,List.length_set,ql,List.map_append,List.map_cons,List.map_nil,List.length_append,List.length_singleton,gt_iff_lt,Nat.reduceAdd,Nat.reduceSub]
       · simp only[List.length_cons]at wl;omega
     · generalize hy:nth x.people j=y at*
       rcases W with _ | ⟨w,_ | ⟨w2,_ | ⟨w3,W⟩⟩⟩
       · refine⟨_,?_,[]++[y],by simp only[List.length_cons,List.length_nil,List.length_append]at *;omega,hb2,rfl⟩
         rw[rs1,ss1]
         generalize bB _ p j=q at*
         generalize aD x.people a.pl m x.tags j=g at*
         obtain⟨y1,y2,y3⟩:=y
         obtain⟨⟨places,roads⟩,time,people,tags,readers,numbers,looked,missed⟩:=x
         simp only[az,Tru.cs,ak,Rdr.e,arI,List.cons_append,List.nil_append,List.map_cons,List.map_nil,LLe,tL,ml,rn,Nat.reduceAdd,Nat.reduceSub,List.length_cons,List.length_nil]at*
         simp (disch:=omega) only[go_sem,K.aa,↓reduceIte,ex,hs,sh,an,h2,aE,List.length_set,ql,List.map_append,List.map_cons,List.map_nil,List.length_append,List.length_singleton,gt_iff_lt,Nat.reduceAdd,Nat.reduceSub]
       · refine⟨_,?_,[w]++[y],by simp only[List.length_cons,List.length_nil,List.length_append]at *;omega,hb2,rfl⟩
         rw[rs1,ss1]
         generalize bB _ p j=q at*
         generalize aD x.people a.pl m x.tags j=g at*
         obtain⟨y1,y2,y3⟩:=y
         obtain⟨⟨places,roads⟩,time,people,tags,readers,numbers,looked,missed⟩:=x
         simp only[az,Tru.cs,ak,Rdr.e,arI,List.cons_append,List.nil_append,List.map_cons,List.map_nil,LLe,tL,ml,rn,Nat.reduceAdd,Nat.reduceSub,List.length_cons,List.length_nil]at*
         simp (disch:=omega) only[go_sem,K.aa,↓reduceIte,ex,hs,sh,an,h2,aE,List.length_set,ql,List.map_append,List.map_cons,List.map_nil,List.length_append,List.length_singleton,gt_iff_lt,Nat.reduceAdd,Nat.reduceSub]
       · refine⟨_,?_,[w,w2]++[y],by simp only[List.length_cons,List.length_nil,List.length_append]at *;omega,hb2,rfl⟩
         rw[rs1,ss1]
         generalize bB _ p j=q at*
         generalize aD x.people a.pl m x.tags j=g at*
         obtain⟨y1,y2,y3⟩:=y
         obtain⟨⟨places,roads⟩,time,people,tags,readers,numbers,looked,missed⟩:=x
         simp only[az,Tru.cs,ak,Rdr.e,arI,List.cons_append,List.nil_append,List.map_cons,List.map_nil,LLe,tL,ml,rn,Nat.reduceAdd,Nat.reduceSub,List.length_cons,List.length_nil]at*
         simp (disch:=omega) only[go_sem,K.aa,↓reduceIte,ex,hs,sh,an,h2,aE,List.length_set,ql,List.map_append,List.map_cons,List.map_nil,List.length_append,List.length_singleton,gt_iff_lt,Nat.reduceAdd,Nat.reduceSub]
       · simp only[List.length_cons]at wl;omega
theorem Jn{x:Tru}(h:x.ok){a b d:Rdr}{p p2 p3:List Int}(e1:x.readers=[a,b,d])(e2:x.missed=[p,p2,p3])(m off:Int)(oN oL:Obj)(num:Int)(z0 z3 z7 z10 z11 z13 z14 z15 z16 z17:D):∃q,exS aX K.ee ⟨[z0,I 0,I m,z3,.bp 0 0,.bp 1 0,.bp 2 0,z7,.bp 3 0,.bp 11 0,z10,z11,.bp 12 0,z13,z14,z15,z16,z17,.t (.sl (x.people.map Wlk.e)),I x.people.length,I 0],[.box (x.cs.map .t),.box az,.box [I 0,I 0,I 0,.nil],.box [.t (tL a.pl),I a.per,I a.miss,I a.skew],.arr 4 false 0 [.t a.e,.t b.e,.t d.e],oN,oL,.arr 1 false 0 [.ref 8 0 p.length,.ref 9 0 p2.length,.ref 10 0 p3.length],arI p,arI p2,arI p3,.box (ak 4 x),.box [I 0,I num,I (x.time+off),.ref 14 0 0],.arr 1 false 0 [],arI ([]:List Int)]⟩=some q∧AS x a b d p p2 p3 m off oN oL num q:=by
 have n3:=h.n3
 have tl:=h.tl
 have nl:=h.nl
 have ll:=h.ll
 have t0:=h.t0
 have t1:=h.t1
 have nb:=h.nb 0 (by rw[e1];simp)
 have mb:=h.mb 0 (by rw[e1];simp)
 have m2:=h.m2 0 (by rw[e1];simp)
 have rk:nth x.readers 0=a:=by rw[e1];rfl
 have mk:nth x.missed 0=p:=by rw[e2];rfl
 have ml:x.missed.length=3:=by rw[e2];rfl
 have rn:x.readers.length=3:=by rw[e1];rfl
 have ro:=h.r a (by rw[e1];simp)
 rw[rk,mk]at mb
 rw[mk]at m2
 obtain⟨rs,rl,rl1,rp1,rp2,rm1,rm2,rk1,rk2⟩:=ro
 refine jm (rV x a b d p p2 p3 m off oN oL num) x.people.length _ ⟨[],Nat.le_refl _,fun i hi=>absurd hi (by omega),rfl⟩ (fun j st hj hp=>Jm h e1 e2 m off oN oL num j st hj hp) ?_
 intro st hp
 refine⟨(.exit 1,st),?_,by simp,.inr ⟨?_,st,hp,rfl⟩⟩
 · obtain⟨W,wl,hb,rfl⟩:=hp
   have wl:=Nat.le_trans wl n3
   generalize bB _ p _=q at*
   generalize aD x.people a.pl m x.tags _=g at*
   rcases W with _ | ⟨w,_ | ⟨w2,_ | ⟨w3,_ | ⟨w4,W⟩⟩⟩⟩
   · obtain⟨⟨places,roads⟩,time,people,tags,readers,numbers,looked,missed⟩:=x
     simp only[az,Tru.cs,ak,Rdr.e,arI,List.cons_append,List.nil_append,List.map_cons,List.map_nil,LLe,tL,ml,rn,Nat.reduceAdd,Nat.reduceSub,List.length_cons,List.length_nil]at*
     simp (disch:=omega) only[go_sem,K.aa,↓reduceIte,Nat.reduceAdd,Nat.reduceSub]
   · obtain⟨⟨places,roads⟩,time,people,tags,readers,numbers,looked,missed⟩:=x
     simp only[az,Tru.cs,ak,Rdr.e,arI,List.cons_append,List.nil_append,List.map_cons,List.map_nil,LLe,tL,ml,rn,Nat.reduceAdd,Nat.reduceSub,List.length_cons,List.length_nil]at*
     simp (disch:=omega) only[go_sem,K.aa,↓reduceIte,Nat.reduceAdd,Nat.reduceSub]
   · obtain⟨⟨places,roads⟩,time,people,tags,readers,numbers,looked,missed⟩:=x
     simp only[az,Tru.cs,ak,Rdr.e,arI,List.cons_append,List.nil_append,List.map_cons,List.map_nil,LLe,tL,ml,rn,Nat.reduceAdd,Nat.reduceSub,List.length_cons,List.length_nil]at*
     simp (disch:=omega) only[go_sem,K.aa,↓reduceIte,Nat.reduceAdd,Nat.reduceSub]
   · obtain⟨⟨places,roads⟩,time,people,tags,readers,numbers,looked,missed⟩:=x
     simp only[az,Tru.cs,ak,Rdr.e,arI,List.cons_append,List.nil_append,List.map_cons,List.map_nil,LLe,tL,ml,rn,Nat.reduceAdd,Nat.reduceSub,List.length_cons,List.length_nil]at*
     simp (disch:=omega) only[go_sem,K.aa,↓reduceIte,Nat.reduceAdd,Nat.reduceSub]
   · simp only[List.length_cons]at wl;omega
 · obtain⟨W,wl,hb,rfl⟩:=hp
   rw[List.any_eq_false]
   intro i hi
   rw[hb i (List.mem_range.1 hi)]
   decide
set_option maxHeartbeats 4000000 in
theorem AT{x:Tru}(h:x.ok){a b d:Rdr}{p p2 p3:List Int}(e1:x.readers=[a,b,d])(e2:x.missed=[p,p2,p3])(m off:Int)(o1: -a.skew≤off)(o2:off≤a.skew)(o3:0≤x.time+off)(o4:x.time+off≤2147483648):
 aX 0 N.ae [.t x.e,I 0,I m,I off] []=some (if p9 x 0 m then .tup [.t x.e,.t (iN 0 0 0 []),I 43]else .tup [.t (kS x 0 m).e,.t (iN 0 (rR x 0) (x.time+off) (eZ (aD x.people a.pl m x.tags x.people.length))),I 0],[]):=by
 have n3:=h.n3
 have tl:=h.tl
 have nl:=h.nl
 have ll:=h.ll
 have t0:=h.t0
 have t1:=h.t1
 have nb:=h.nb 0 (by rw[e1];simp)
 have mb:=h.mb 0 (by rw[e1];simp)
 have m2:=h.m2 0 (by rw[e1];simp)
 have rk:nth x.readers 0=a:=by rw[e1];rfl
 have mk:nth x.missed 0=p:=by rw[e2];rfl
 have ml:x.missed.length=3:=by rw[e2];rfl
 have rn:x.readers.length=3:=by rw[e1];rfl
 have ro:=h.r a (by rw[e1];simp)
 rw[rk,mk]at mb
 rw[mk]at m2
 obtain⟨rs,rl,rl1,rp1,rp2,rm1,rm2,rk1,rk2⟩:=ro
 have sz:=h.sz
 have cp:=nD sz e1 e2
 have va:=gz h
 have lpL:=Jn h e1 e2 m off
 have scl:∀(y:Tru) (r:T) (v:Int),([D.t y.e,D.t r,I v].all cG)=false:=fun _ _ _=>rfl
 have sl:=dY x.people a.pl m x.tags x.people.length
 have so:=nz 0 (aD x.people a.pl m x.tags x.people.length) (by omega)
 have sol:=eu (aD x.people a.pl m x.tags x.people.length)
 have i1:=eP 0 0 ((3:Int)-1)
 have i2:=eP off (0-a.skew) a.skew
 have i3:=eP (x.time+off) 0 2147483648
 rw[decide_eq_true (by omega)]at i1 i2 i3
 unfold p9 kS rR
 rw[rk,mk]
 have en:(x.numbers.map (T.int .i64))[0]?=some (tI (nth x.numbers 0)):=aU _ (by omega)
 have el:(x.looked.map (T.int .i64))[0]?=some (tI (nth x.looked 0)):=aU _ (by omega)
 generalize nth x.numbers 0=nu at*
 generalize nth x.looked 0=lo at*
 refine aO K.ea rfl ?_
 have qe:∀(b:Prop) [Decidable b],(nu+if b then 2 else 1)=if b then nu+2 else nu+1:=fun b _=>by split<;>rfl
 have wl:=ef (c8 x.people a.pl m p) p x.people.length
 by_cases bq:(List.range x.people.length).any (fv x.people a.pl a.miss m p)=true
 · rw[if_pos bq]
   obtain⟨⟨places,roads⟩,time,people,tags,readers,numbers,looked,missed⟩:=x
   subst e1 e2
   simp only[az,Tru.e,Tru.cs,ak,arI,jW,tLL,Rdr.e,List.map_cons,List.map_nil,LLe,tL]at*
   by_cases ca:0≤lo
   · by_cases cb:a.per<time-lo
     · simp (disch:=omega) only[go_sem,K.ae,↓reduceIte,cp,va,i1,i2,i3,en,el,ca,cb,gt_iff_lt,aE,List.length_set,Nat.reduceAdd,Nat.reduceSub]
       refine cF _ (lpL _ _ _ _ _ _ _ _ _ _ _ _ _) ?_
       rintro q (⟨_,v0,v3,_,_,_,vr,rest,rfl⟩ | ⟨n,_⟩)
       · simp (disch:=omega) only[go_sem,K.ae,↓reduceIte,scl,Nat.reduceAdd,Nat.reduceSub]
         rfl
       · rw[n]at bq;cases bq
     · simp (disch:=omega) only[go_sem,K.ae,↓reduceIte,cp,va,i1,i2,i3,en,el,ca,cb,gt_iff_lt,aE,List.length_set,Nat.reduceAdd,Nat.reduceSub]
       refine cF _ (lpL _ _ _ _ _ _ _ _ _ _ _ _ _) ?_
       rintro q (⟨_,v0,v3,_,_,_,vr,rest,rfl⟩ | ⟨n,_⟩)
       · simp (disch:=omega) only[go_sem,K.ae,↓reduceIte,scl,Nat.reduceAdd,Nat.reduceSub]
         rfl
       · rw[n]at bq;cases bq
   · simp (disch:=omega) only[go_sem,K.ae,↓reduceIte,cp,va,i1,i2,i3,en,el,ca,gt_iff_lt,aE,List.length_set,Nat.reduceAdd,Nat.reduceSub]
     refine cF _ (lpL _ _ _ _ _ _ _ _ _ _ _ _ _) ?_
     rintro q (⟨_,v0,v3,_,_,_,vr,rest,rfl⟩ | ⟨n,_⟩)
     · simp (disch:=omega) only[go_sem,K.ae,↓reduceIte,scl,Nat.reduceAdd,Nat.reduceSub]
       rfl
     · rw[n]at bq;cases bq
 · rw[if_neg bq]
   have qa:(x.numbers.set 0 ((nu+if 0≤lo∧a.per<x.time-lo then 2 else 1).tmod 65536)).length=x.numbers.length:=List.length_set ..
   generalize hg:aD x.people a.pl m x.tags x.people.length=g at*
   obtain⟨q,hq,hQ⟩:=lpL (arI (x.numbers.set 0 ((nu+if 0≤lo∧a.per<x.time-lo then 2 else 1).tmod 65536))) (arI (x.looked.set 0 x.time)) ((nu+if 0≤lo∧a.per<x.time-lo then 2 else 1).tmod 65536) (.t x.e) (I off) (I 0) (if 0≤lo∧a.per<x.time-lo then I 2 else I 1) (I ((nu+if 0≤lo∧a.per<x.time-lo then 2 else 1).tmod 65536)) .und .und .und .und .und
   rcases hQ with⟨n,_⟩ | ⟨_,st,⟨W,wl2,hb,rfl⟩,rfl⟩
   · exact absurd n bq
   rw[hg]at hq
   generalize bB _ p _=w at*
   rcases W with _ | ⟨w1,_ | ⟨w2,_ | ⟨w3,_ | ⟨w4,W⟩⟩⟩⟩
   · obtain⟨⟨places,roads⟩,time,people,tags,readers,numbers,looked,missed⟩:=x
     subst e1 e2
     simp only[az,Tru.e,Tru.cs,iN,ak,arI,jW,tLL,Rdr.e,List.cons_append,List.nil_append,List.map_cons,List.map_nil,LLe,tL,Nat.reduceAdd,Nat.reduceSub,List.length_cons,List.length_nil]at*
     by_cases ca:0≤lo
     · by_cases cb:a.per<time-lo
       · simp only[if_pos (And.intro ca cb)]at hq ⊢
         simp (disch:=omega) only[go_sem,K.ae,↓reduceIte,cp,va,i1,i2,i3,en,el,ca,cb,gt_iff_lt,aE,hq,so,sol,wl,scl,List.length_set,Nat.reduceAdd,Nat.reduceSub]
       · simp only[if_neg (fun e:0≤lo∧a.per<time-lo=>cb e.2)]at hq ⊢
         simp (disch:=omega) only[go_sem,K.ae,↓reduceIte,cp,va,i1,i2,i3,en,el,ca,cb,gt_iff_lt,aE,hq,so,sol,wl,scl,List.length_set,Nat.reduceAdd,Nat.reduceSub]
     · simp only[if_neg (fun e:0≤lo∧a.per<time-lo=>ca e.1)]at hq ⊢
       simp (disch:=omega) only[go_sem,K.ae,↓reduceIte,cp,va,i1,i2,i3,en,el,ca,gt_iff_lt,aE,hq,so,sol,wl,scl,List.length_set,Nat.reduceAdd,Nat.reduceSub]
   · obtain⟨⟨places,roads⟩,time,people,tags,readers,numbers,looked,missed⟩:=x
     subst e1 e2
     simp only[az,Tru.e,Tru.cs,iN,ak,arI,jW,tLL,Rdr.e,List.cons_append,List.nil_append,List.map_cons,List.map_nil,LLe,tL,Nat.reduceAdd,Nat.reduceSub,List.length_cons,List.length_nil]at*
     by_cases ca:0≤lo
     · by_cases cb:a.per<time-lo
       · simp only[if_pos (And.intro ca cb)]at hq ⊢
         simp (disch:=omega) only[go_sem,K.ae,↓reduceIte,cp,va,i1,i2,i3,en,el,ca,cb,gt_iff_lt,aE,hq,so,sol,wl,scl,List.length_set,Nat.reduceAdd,Nat.reduceSub]
       · simp only[if_neg (fun e:0≤lo∧a.per<time-lo=>cb e.2)]at hq ⊢
         simp (disch:=omega) only[go_sem,K.ae,↓reduceIte,cp,va,i1,i2,i3,en,el,ca,cb,gt_iff_lt,aE,hq,so,sol,wl,scl,List.length_set,Nat.reduceAdd,Nat.reduceSub]
     · simp only[if_neg (fun e:0≤lo∧a.per<time-lo=>ca e.1)]at hq ⊢
       simp (disch:=omega) only[go_sem,K.ae,↓reduceIte,cp,va,i1,i2,i3,en,el,ca,gt_iff_lt,aE,hq,so,sol,wl,scl,List.length_set,Nat.reduceAdd,Nat.reduceSub]
   · obtain⟨⟨places,roads⟩,time,people,tags,readers,numbers,looked,missed⟩:=x
     subst e1 e2
     simp only[az,Tru.e,Tru.cs,iN,ak,arI,jW,tLL,Rdr.e,List.cons_append,List.nil_append,List.map_cons,List.map_nil,LLe,tL,Nat.reduceAdd,Nat.reduceSub,List.length_cons,List.length_nil]at*
     by_cases ca:0≤lo
     · by_cases cb:a.per<time-lo
       · simp only[if_pos (And.intro ca cb)]at hq ⊢
         simp (disch:=omega) only[go_sem,K.ae,↓reduceIte,cp,va,i1,i2,i3,en,el,ca,cb,gt_iff_lt,aE,hq,so,sol,wl,scl,List.length_set,Nat.reduceAdd,Nat.reduceSub]
       · simp only[if_neg (fun e:0≤lo∧a.per<time-lo=>cb e.2)]at hq ⊢
         simp (disch:=omega) only[go_sem,K.ae,↓reduceIte,cp,va,i1,i2,i3,en,el,ca,cb,gt_iff_lt,aE,hq,so,sol,wl,scl,List.length_set,Nat.reduceAdd,Nat.reduceSub]
     · simp only[if_neg (fun e:0≤lo∧a.per<time-lo=>ca e.1)]at hq ⊢
       simp (disch:=omega) only[go_sem,K.ae,↓reduceIte,cp,va,i1,i2,i3,en,el,ca,gt_iff_lt,aE,hq,so,sol,wl,scl,List.length_set,Nat.reduceAdd,Nat.reduceSub]
   · obtain⟨⟨places,roads⟩,time,people,tags,readers,numbers,looked,missed⟩:=x
     subst e1 e2
     simp only[az,Tru.e,Tru.cs,iN,ak,arI,jW,tLL,Rdr.e,List.cons_append,List.nil_append,List.map_cons,List.map_nil,LLe,tL,Nat.reduceAdd,Nat.reduceSub,List.length_cons,List.length_nil]at*
     by_cases ca:0≤lo
     · by_cases cb:a.per<time-lo
       · simp only[if_pos (And.intro ca cb)]at hq ⊢
         simp (disch:=omega) only[go_sem,K.ae,↓reduceIte,cp,va,i1,i2,i3,en,el,ca,cb,gt_iff_lt,aE,hq,so,sol,wl,scl,List.length_set,Nat.reduceAdd,Nat.reduceSub]
       · simp only[if_neg (fun e:0≤lo∧a.per<time-lo=>cb e.2)]at hq ⊢
         simp (disch:=omega) only[go_sem,K.ae,↓reduceIte,cp,va,i1,i2,i3,en,el,ca,cb,gt_iff_lt,aE,hq,so,sol,wl,scl,List.length_set,Nat.reduceAdd,Nat.reduceSub]
     · simp only[if_neg (fun e:0≤lo∧a.per<time-lo=>ca e.1)]at hq ⊢
       simp (disch:=omega) only[go_sem,K.ae,↓reduceIte,cp,va,i1,i2,i3,en,el,ca,gt_iff_lt,aE,hq,so,sol,wl,scl,List.length_set,Nat.reduceAdd,Nat.reduceSub]
   · simp only[List.length_cons]at wl2;omega
def rW(x:Tru)(a b d:Rdr)(p p2 p3:List Int)(m off:Int)(oN oL:Obj)(num:Int)(j:Nat)(st:St):Prop:=∃W:List Wlk,W.length≤j∧(∀i,i<j→(fv x.people b.pl b.miss m p2) i=false)∧st=⟨[.und,I 1,I m,.und,.bp 0 0,.bp 1 0,.bp 2 0,.und,.bp 3 0,.bp 11 0,.und,.und,.bp 12 0,.und,.und,.und,.und,.und,.t (.sl (x.people.map Wlk.e)),I x.people.length,I j],[.box (x.cs.map .t),.box az,.box [I 0,I 0,I 0,.nil],.box [.t (tL b.pl),I b.per,I b.miss,I b.skew],.arr 4 false 0 [.t a.e,.t b.e,.t d.e],oN,oL,.arr 1 false 0 [.ref 8 0 p.length,.ref 9 0 p2.length,.ref 10 0 p3.length],arI p,arI (bB (c8 x.people b.pl m p2) p2 j),arI p3,.box (ak 4 x),.box [I 1,I num,I (x.time+off),.ref 14 0 (aD x.people b.pl m x.tags j).length],.arr 1 false 0 [],arI (aD x.people b.pl m x.tags j)]++(W.map fun w=> .box [I w.place,I w.kR,I w.left])⟩
def AU(x:Tru)(a b d:Rdr)(p p2 p3:List Int)(m off:Int)(oN oL:Obj)(num:Int)(q:Ex×St):Prop:=((List.range x.people.length).any (fv x.people b.pl b.miss m p2)=true∧∃(v0 v3 v8 v9 v10:D) (vr:List D) (rest:ag),q=(.ret,⟨v0::I 1::I m::v3:: .bp 0 0:: .bp 1 0:: .bp 2 0::I 43::vr,.box (x.cs.map .t):: .box (x.cs.map .t):: .box [I 0,I 0,I 0,.nil]::rest⟩))∨((List.range x.people.length).any (fv x.people b.pl b.miss m p2)=false∧∃st,rW x a b d p p2 p3 m off oN oL num x.people.length st∧q=(.exit 1,st))
theorem Jo{x:Tru}(h:x.ok){a b d:Rdr}{p p2 p3:List Int}(e1:x.readers=[a,b,d])(e2:x.missed=[p,p2,p3])(m off:Int)(oN oL:Obj)(num:Int)(j:Nat)(st:St)(hj:j<x.people.length)(hp:rW x a b d p p2 p3 m off oN oL num j st):
 (∃st',fg false [0,3,7,10,11,13,14,15,16,17] st.H.length (exS aX K.aa st)=some st'∧rW x a b d p p2 p3 m off oN oL num (j+1) st')∨∃q,exS aX K.aa st=some q∧q.1≠ .normal∧AU x a b d p p2 p3 m off oN oL num q:=by
 have n3:=h.n3
 have tl:=h.tl
 have nl:=h.nl
 have ll:=h.ll
 have t0:=h.t0
 have t1:=h.t1
 have nb:=h.nb 1 (by rw[e1];simp)
 have mb:=h.mb 1 (by rw[e1];simp)
 have m2:=h.m2 1 (by rw[e1];simp)
 have rk:nth x.readers 1=b:=by rw[e1];rfl
 have mk:nth x.missed 1=p2:=by rw[e2];rfl
 have ml:x.missed.length=3:=by rw[e2];rfl
 have rn:x.readers.length=3:=by rw[e1];rfl
 have ro:=h.r b (by rw[e1];simp)
 rw[rk,mk]at mb
 rw[mk]at m2
 obtain⟨rs,rl,rl1,rp1,rp2,rm1,rm2,rk1,rk2⟩:=ro
 have ex:(x.people.map Wlk.e)[j]?=some (nth x.people j).e:=aU _ hj
 have et:(x.tags.map (T.int .i64))[j]?=some (tI (nth x.tags j)):=aU _ (by omega)
 have hs:=gq b.pl (nth x.people j).place (by omega)
 have mbj:=mb j hj
 have sh:=jo m j
 have an:=jn m j
 obtain⟨W,wl,hb,rfl⟩:=hp
 have ql:=ef (c8 x.people b.pl m p2) p2 j
 have qj:=lO (c8 x.people b.pl m p2) p2 j j (Nat.le_refl _)
 have sl:=dY x.people b.pl m x.tags j
 by_cases hq:(fv x.people b.pl b.miss m p2) j=true
 · have anyb:(List.range x.people.length).any (fv x.people b.pl b.miss m p2)=true:=List.any_eq_true.2 ⟨j,List.mem_range.2 hj,hq⟩
   unfold fv cH eX at hq
   simp only[Bool.and_eq_true,decide_eq_true_eq]at hq
   obtain⟨⟨h1,h2⟩,h3⟩:=hq
   generalize bB _ p2 j=q at*
   generalize aD x.people b.pl m x.tags j=g at*
   rw[← qj]at h3
   have nse:nth (q.set j (nth q j+1)) j=nth q j+1:=aV (by omega)
   rw[decide_eq_true h1]at hs
   have key:∃(v0 v3:D) (vr:List D) (rest:ag),exS aX K.aa ⟨[.und,I 1,I m,.und,.bp 0 0,.bp 1 0,.bp 2 0,.und,.bp 3 0,.bp 11 0,.und,.und,.bp 12 0,.und,.und,.und,.und,.und,.t (.sl (x.people.map Wlk.e)),I x.people.length,I j],[.box (x.cs.map .t),.box az,.box [I 0,I 0,I 0,.nil],.box [.t (tL b.pl),I b.per,I b.miss,I b.skew],.arr 4 false 0 [.t a.e,.t b.e,.t d.e],oN,oL,.arr 1 false 0 [.ref 8 0 p.length,.ref 9 0 p2.length,.ref 10 0 p3.length],arI p,arI q,arI p3,.box (ak 4 x),.box [I 1,I num,I (x.time+off),.ref 14 0 g.length],.arr 1 false 0 [],arI g]++(W.map fun w=> .box [I w.place,I w.kR,I w.left])⟩=some (.ret,⟨v0::I 1::I m::v3:: .bp 0 0:: .bp 1 0:: .bp 2 0::I 43::vr,.box (x.cs.map .t):: .box (x.cs.map .t):: .box [I 0,I 0,I 0,.nil]::rest⟩):=by
    generalize nth x.people j=y at*
    obtain⟨y1,y2,y3⟩:=y
    rcases W with _ | ⟨w,_ | ⟨w2,_ | ⟨w3,W⟩⟩⟩
    · obtain⟨⟨places,roads⟩,time,people,tags,readers,numbers,looked,missed⟩:=x
      simp only[az,Tru.cs,ak,Rdr.e,arI,List.cons_append,List.nil_append,List.map_cons,List.map_nil,LLe,tL,ml,rn,Nat.reduceAdd,Nat.reduceSub,List.length_cons,List.length_nil]at*
      simp (disch:=omega) only[go_sem,K.aa,↓reduceIte,ex,hs,sh,an,h2,nse,h3,aE,List.length_set,ql,List.map_append,List.map_cons,List.map_nil,List.length_append,List.length_singleton,gt_iff_lt,Nat.reduceAdd,Nat.reduceSub]
      exact⟨_,_,_,_,rfl⟩
    · obtain⟨⟨places,roads⟩,time,people,tags,readers,numbers,looked,missed⟩:=x
      simp only[az,Tru.cs,ak,Rdr.e,arI,List.cons_append,List.nil_append,List.map_cons,List.map_nil,LLe,tL,ml,rn,Nat.reduceAdd,Nat.reduceSub,List.length_cons,List.length_nil]at*
      simp (disch:=omega) only[go_sem,K.aa,↓reduceIte,ex,hs,sh,an,h2,nse,h3,aE,List.length_set,ql,List.map_append,List.map_cons,List.map_nil,List.length_append,List.length_singleton,gt_iff_lt,Nat.reduceAdd,Nat.reduceSub]
      exact⟨_,_,_,_,rfl⟩
    · obtain⟨⟨places,roads⟩,time,people,tags,readers,numbers,looked,missed⟩:=x
      simp only[az,Tru.cs,ak,Rdr.e,arI,List.cons_append,List.nil_append,List.map_cons,List.map_nil,LLe,tL,ml,rn,Nat.reduceAdd,Nat.reduceSub,List.length_cons,List.length_nil]at*
      simp (disch:=omega) only[go_sem,K.aa,↓reduceIte,ex,hs,sh,an,h2,nse,h3,aE,List.length_set,ql,List.map_append,List.map_cons,List.map_nil,List.length_append,List.length_singleton,gt_iff_lt,Nat.reduceAdd,Nat.reduceSub]
      exact⟨_,_,_,_,rfl⟩
    · simp only[List.length_cons]at wl;omega
   obtain⟨v0,v3,vr,rest,key⟩:=key
   exact .inr ⟨_,key,by simp,.inl ⟨anyb,v0,v3,v0,v0,v0,vr,rest,rfl⟩⟩
 · have hq:(fv x.people b.pl b.miss m p2) j=false:=by simpa using hq
   have hb2:∀i,i<j+1→(fv x.people b.pl b.miss m p2) i=false:=fun i hi=>by
    by_cases c:i=j
    · rw[c];exact hq
    · exact hb i (by omega)
   left
   by_cases h1:(nth x.people j).place∈b.pl
   · rw[decide_eq_true h1]at hs
     by_cases h2:ui m j=1
     · have nw:(c8 x.people b.pl m p2) j=nth p2 j+1:=by unfold c8 cH eX;rw[decide_eq_true h1,decide_eq_true h2];rfl
       have nl0:¬b.miss<nth p2 j+1:=by
        unfold fv cH eX at hq
        rw[decide_eq_true h1,decide_eq_true h2]at hq
        simpa using hq
       have ss1:aD x.people b.pl m x.tags (j+1)=aD x.people b.pl m x.tags j:=by rw[aD];unfold cH eX;rw[decide_eq_true h1,decide_eq_true h2];rfl
       have rs1:bB (c8 x.people b.pl m p2) p2 (j+1)=(bB (c8 x.people b.pl m p2) p2 j).set j (nth p2 j+1):=by rw[bB,nw]
       generalize hy:nth x.people j=y at*
       rcases W with _ | ⟨w,_ | ⟨w2,_ | ⟨w3,W⟩⟩⟩
       · refine⟨_,?_,[]++[y],by simp only[List.length_cons,List.length_nil,List.length_append]at *;omega,hb2,rfl⟩
         rw[rs1,ss1]
         generalize bB _ p2 j=q at*
         generalize aD x.people b.pl m x.tags j=g at*
         rw[← qj]at nl0 ⊢
         have nse:nth (q.set j (nth q j+1)) j=nth q j+1:=aV (by omega)
         obtain⟨y1,y2,y3⟩:=y
         obtain⟨⟨places,roads⟩,time,people,tags,readers,numbers,looked,missed⟩:=x
         simp only[az,Tru.cs,ak,Rdr.e,arI,List.cons_append,List.nil_append,List.map_cons,List.map_nil,LLe,tL,ml,rn,Nat.reduceAdd,Nat.reduceSub,List.length_cons,List.length_nil]at*
         simp (disch:=omega) only[go_sem,K.aa,↓reduceIte,ex,hs,sh,an,h2,nse,nl0,aE,List.length_set,ql,List.map_append,List.map_cons,List.map_nil,List.length_append,List.length_singleton,gt_iff_lt,Nat.reduceAdd,Nat.reduceSub]
       · refine⟨_,?_,[w]++[y],by simp only[List.length_cons,List.length_nil,List.length_append]at *;omega,hb2,rfl⟩
         rw[rs1,ss1]
         generalize bB _ p2 j=q at*
         generalize aD x.people b.pl m x.tags j=g at*
         rw[← qj]at nl0 ⊢
         have nse:nth (q.set j (nth q j+1)) j=nth q j+1:=aV (by omega)
         obtain⟨y1,y2,y3⟩:=y
         obtain⟨⟨places,roads⟩,time,people,tags,readers,numbers,looked,missed⟩:=x
         simp only[az,Tru.cs,ak,Rdr.e,arI,List.cons_append,List.nil_append,List.map_cons,List.map_nil,LLe,tL,ml,rn,Nat.reduceAdd,Nat.reduceSub,List.length_cons,List.length_nil]at*
         simp (disch:=omega) only[go_sem,K.aa,↓reduceIte,ex,hs,sh,an,h2,nse,nl0,aE,List.length_set,ql,List.map_append,List.map_cons,List.map_nil,List.length_append,List.length_singleton,gt_iff_lt,Nat.reduceAdd,Nat.reduceSub]
       · refine⟨_,?_,[w,w2]++[y],by simp only[List.length_cons,List.length_nil,List.length_append]at *;omega,hb2,rfl⟩
         rw[rs1,ss1]
         generalize bB _ p2 j=q at*
         generalize aD x.people b.pl m x.tags j=g at*
         rw[← qj]at nl0 ⊢
         have nse:nth (q.set j (nth q j+1)) j=nth q j+1:=aV (by omega)
         obtain⟨y1,y2,y3⟩:=y
         obtain⟨⟨places,roads⟩,time,people,tags,readers,numbers,looked,missed⟩:=x
         simp only[az,Tru.cs,ak,Rdr.e,arI,List.cons_append,List.nil_append,List.map_cons,List.map_nil,LLe,tL,ml,rn,Nat.reduceAdd,Nat.reduceSub,List.length_cons,List.length_nil]at*
         simp (disch:=omega) only[go_sem,K.aa,↓reduceIte,ex,hs,sh,an,h2,nse,nl0,aE,List.length_set,ql,List.map_append,List.map_cons,List.map_nil,List.length_append,List.length_singleton,gt_iff_lt,Nat.reduceAdd,Nat.reduceSub]
       · simp only[List.length_cons]at wl;omega
     · have nw:(c8 x.people b.pl m p2) j=0:=by unfold c8 cH eX;rw[decide_eq_true h1,decide_eq_false h2];rfl
       have ss1:aD x.people b.pl m x.tags (j+1)=aD x.people b.pl m x.tags j++[nth x.tags j]:=by rw[aD];unfold cH eX;rw[decide_eq_true h1,decide_eq_false h2];rfl
       have rs1:bB (c8 x.people b.pl m p2) p2 (j+1)=(bB (c8 x.people b.pl m p2) p2 j).set j 0:=by rw[bB,nw]
       generalize hy:nth x.people j=y at*
       rcases W with _ | ⟨w,_ | ⟨w2,_ | ⟨w3,W⟩⟩⟩
       · refine⟨_,?_,[]++[y],by simp only[List.length_cons,List.length_nil,List.length_append]at *;omega,hb2,rfl⟩
         rw[rs1,ss1]
         generalize bB _ p2 j=q at*
         generalize aD x.people b.pl m x.tags j=g at*
         obtain⟨y1,y2,y3⟩:=y
         obtain⟨⟨places,roads⟩,time,people,tags,readers,numbers,looked,missed⟩:=x
         simp only[az,Tru.cs,ak,Rdr.e,arI,List.cons_append,List.nil_append,List.map_cons,List.map_nil,LLe,tL,ml,rn,Nat.reduceAdd,Nat.reduceSub,List.length_cons,List.length_nil]at*
         simp (disch:=omega) only[go_sem,K.aa,↓reduceIte,ex,hs,sh,an,h2,et,aE,List.length_set,ql,List.map_append,List.map_cons,List.map_nil,List.length_append,List.length_singleton,gt_iff_lt,Nat.reduceAdd,Nat.reduceSub]
       · refine⟨_,?_,[w]++[y],by simp only[List.length_cons,List.length_nil,List.length_append]at *;omega,hb2,rfl⟩
         rw[rs1,ss1]
         generalize bB _ p2 j=q at*
         generalize aD x.people b.pl m x.tags j=g at*
         obtain⟨y1,y2,y3⟩:=y
         obtain⟨⟨places,roads⟩,time,people,tags,readers,numbers,looked,missed⟩:=x
         simp only[az,Tru.cs,ak,Rdr.e,arI,List.cons_append,List.nil_append,List.map_cons,List.map_nil,LLe,tL,ml,rn,Nat.reduceAdd,Nat.reduceSub,List.length_cons,List.length_nil]at*
         simp (disch:=omega) only[go_sem,K.aa,↓reduceIte,ex,hs,sh,an,h2,et,aE,List.length_set,ql,List.map_append,List.map_cons,List.map_nil,List.length_append,List.length_singleton,gt_iff_lt,Nat.reduceAdd,Nat.reduceSub]
       · refine⟨_,?_,[w,w2]++[y],by simp only[List.length_cons,List.length_nil,List.length_append]at *;omega,hb2,rfl⟩
         rw[rs1,ss1]
         generalize bB _ p2 j=q at*
         generalize aD x.people b.pl m x.tags j=g at*
         obtain⟨y1,y2,y3⟩:=y
         obtain⟨⟨places,roads⟩,time,people,tags,readers,numbers,looked,missed⟩:=x
         simp only[az,Tru.cs,ak,Rdr.e,arI,List.cons_append,List.nil_append,List.map_cons,List.map_nil,LLe,tL,ml,rn,Nat.reduceAdd,Nat.reduceSub,List.length_cons,List.length_nil]at*
         simp (disch:=omega) only[go_sem,K.aa,↓reduceIte,ex,hs,sh,an,h2,et,aE,List.length_set,ql,List.map_append,List.map_cons,List.map_nil,List.length_append,List.length_singleton,gt_iff_lt,Nat.reduceAdd,Nat.reduceSub]
       · simp only[List.length_cons]at wl;omega
   · have nw:(c8 x.people b.pl m p2) j=0:=by unfold c8 cH eX;rw[decide_eq_false h1];rfl
     have ss1:aD x.people b.pl m x.tags (j+1)=aD x.people b.pl m x.tags j:=by rw[aD];unfold cH eX;rw[decide_eq_false h1];rfl
     have rs1:bB (c8 x.people b.pl m p2) p2 (j+1)=(bB (c8 x.people b.pl m p2) p2 j).set j 0:=by rw[bB,nw]
     rw[decide_eq_false h1]at hs
     by_cases h2:ui m j=1
     · generalize hy:nth x.people j=y at*
       rcases W with _ | ⟨w,_ | ⟨w2,_ | ⟨w3,W⟩⟩⟩
       · refine⟨_,?_,[]++[y],by simp only[List.length_cons,List.length_nil,List.length_append]at *;omega,hb2,rfl⟩
         rw[rs1,ss1]
         generalize bB _ p2 j=q at*
         generalize aD x.people b.pl m x.tags j=g at*
         obtain⟨y1,y2,y3⟩:=y
         obtain⟨⟨places,roads⟩,time,people,tags,readers,numbers,looked,missed⟩:=x
         simp only[az,Tru.cs,ak,Rdr.e,arI,List.cons_append,List.nil_append,List.map_cons,List.map_nil,LLe,tL,ml,rn,Nat.reduceAdd,Nat.reduceSub,List.length_cons,List.length_nil]at*
         simp (disch:=omega) only[go_sem,K.aa,↓reduceIte,ex,hs,sh,an,h2,aE,List.length_set,ql,List.map_append,List.map_cons,List.map_nil,List.length_append,List.length_singleton,gt_iff_lt,Nat.reduceAdd,Nat.reduceSub]
       · refine⟨_,?_,[w]++[y],by simp only[List.length_cons,List.length_nil,List.length_append]at *;omega,hb2,rfl⟩
         rw[rs1,ss1]
         generalize bB _ p2 j=q at*
         generalize aD x.people b.pl m x.tags j=g at*
         obtain⟨y1,y2,y3⟩:=y
         obtain⟨⟨places,roads⟩,time,people,tags,readers,numbers,looked,missed⟩:=x
         simp only[az,Tru.cs,ak,Rdr.e,arI,List.cons_append,List.nil_append,List.map_cons,List.map_nil,LLe,tL,ml,rn,Nat.reduceAdd,Nat.reduceSub,List.length_cons,List.length_nil]at*
         simp (disch:=omega) only[go_sem,K.aa,↓reduceIte,ex,hs,sh,an,h2,aE,List.length_set,ql,List.map_append,List.map_cons,List.map_nil,List.length_append,List.length_singleton,gt_iff_lt,Nat.reduceAdd,Nat.reduceSub]
       · refine⟨_,?_,[w,w2]++[y],by simp only[List.length_cons,List.length_nil,List.length_append]at *;omega,hb2,rfl⟩
         rw[rs1,ss1]
         generalize bB _ p2 j=q at*
         generalize aD x.people b.pl m x.tags j=g at*
         obtain⟨y1,y2,y3⟩:=y
         obtain⟨⟨places,roads⟩,time,people,tags,readers,numbers,looked,missed⟩:=x
         simp only[az,Tru.cs,ak,Rdr.e,arI,List.cons_append,List.nil_append,List.map_cons,List.map_nil,LLe,tL,ml,rn,Nat.reduceAdd,Nat.reduceSub,List.length_cons,List.length_nil]at*
         simp (disch:=omega) only[go_sem,K.aa,↓reduceIte,ex,hs,sh,an,h2,aE,List.length_set,ql,List.map_append,List.map_cons,List.map_nil,List.length_append,List.length_singleton,gt_iff_lt,Nat.reduceAdd,Nat.reduceSub]
       · simp only[List.length_cons]at wl;omega
     · generalize hy:nth x.people j=y at*
       rcases W with _ | ⟨w,_ | ⟨w2,_ | ⟨w3,W⟩⟩⟩
       · refine⟨_,?_,[]++[y],by simp only[List.length_cons,List.length_nil,List.length_append]at *;omega,hb2,rfl⟩
         rw[rs1,ss1]
         generalize bB _ p2 j=q at*
         generalize aD x.people b.pl m x.tags j=g at*
         obtain⟨y1,y2,y3⟩:=y
         obtain⟨⟨places,roads⟩,time,people,tags,readers,numbers,looked,missed⟩:=x
         simp only[az,Tru.cs,ak,Rdr.e,arI,List.cons_append,List.nil_append,List.map_cons,List.map_nil,LLe,tL,ml,rn,Nat.reduceAdd,Nat.reduceSub,List.length_cons,List.length_nil]at*
         simp (disch:=omega) only[go_sem,K.aa,↓reduceIte,ex,hs,sh,an,h2,aE,List.length_set,ql,List.map_append,List.map_cons,List.map_nil,List.length_append,List.length_singleton,gt_iff_lt,Nat.reduceAdd,Nat.reduceSub]
       · refine⟨_,?_,[w]++[y],by simp only[List.length_cons,List.length_nil,List.length_append]at *;omega,hb2,rfl⟩
         rw[rs1,ss1]
         generalize bB _ p2 j=q at*
         generalize aD x.people b.pl m x.tags j=g at*
         obtain⟨y1,y2,y3⟩:=y
         obtain⟨⟨places,roads⟩,time,people,tags,readers,numbers,looked,missed⟩:=x
         simp only[az,Tru.cs,ak,Rdr.e,arI,List.cons_append,List.nil_append,List.map_cons,List.map_nil,LLe,tL,ml,rn,Nat.reduceAdd,Nat.reduceSub,List.length_cons,List.length_nil]at*
         simp (disch:=omega) only[go_sem,K.aa,↓reduceIte,ex,hs,sh,an,h2,aE,List.length_set,ql,List.map_append,List.map_cons,List.map_nil,List.length_append,List.length_singleton,gt_iff_lt,Nat.reduceAdd,Nat.reduceSub]
       · refine⟨_,?_,[w,w2]++[y],by simp only[List.length_cons,List.length_nil,List.length_append]at *;omega,hb2,rfl⟩
         rw[rs1,ss1]
         generalize bB _ p2 j=q at*
         generalize aD x.people b.pl m x.tags j=g at*
         obtain⟨y1,y2,y3⟩:=y
         obtain⟨⟨places,roads⟩,time,people,tags,readers,numbers,looked,missed⟩:=x
         simp only[az,Tru.cs,ak,Rdr.e,arI,List.cons_append,List.nil_append,List.map_cons,List.map_nil,LLe,tL,ml,rn,Nat.reduceAdd,Nat.reduceSub,List.length_cons,List.length_nil]at*
         simp (disch:=omega) only[go_sem,K.aa,↓reduceIte,ex,hs,sh,an,h2,aE,List.length_set,ql,List.map_append,List.map_cons,List.map_nil,List.length_append,List.length_singleton,gt_iff_lt,Nat.reduceAdd,Nat.reduceSub]
       · simp only[List.length_cons]at wl;omega
theorem Jp{x:Tru}(h:x.ok){a b d:Rdr}{p p2 p3:List Int}(e1:x.readers=[a,b,d])(e2:x.missed=[p,p2,p3])(m off:Int)(oN oL:Obj)(num:Int)(z0 z3 z7 z10 z11 z13 z14 z15 z16 z17:D):∃q,exS aX K.ee ⟨[z0,I 1,I m,z3,.bp 0 0,.bp 1 0,.bp 2 0,z7,.bp 3 0,.bp 11 0,z10,z11,.bp 12 0,z13,z14,z15,z16,z17,.t (.sl (x.people.map Wlk.e)),I x.people.length,I 0],[.box (x.cs.map .t),.box az,.box [I 0,I 0,I 0,.nil],.box [.t (tL b.pl),I b.per,I b.miss,I b.skew],.arr 4 false 0 [.t a.e,.t b.e,.t d.e],oN,oL,.arr 1 false 0 [.ref 8 0 p.length,.ref 9 0 p2.length,.ref 10 0 p3.length],arI p,arI p2,arI p3,.box (ak 4 x),.box [I 1,I num,I (x.time+off),.ref 14 0 0],.arr 1 false 0 [],arI ([]:List Int)]⟩=some q∧AU x a b d p p2 p3 m off oN oL num q:=by
 have n3:=h.n3
 have tl:=h.tl
 have nl:=h.nl
 have ll:=h.ll
 have t0:=h.t0
 have t1:=h.t1
 have nb:=h.nb 1 (by rw[e1];simp)
 have mb:=h.mb 1 (by rw[e1];simp)
 have m2:=h.m2 1 (by rw[e1];simp)
 have rk:nth x.readers 1=b:=by rw[e1];rfl
 have mk:nth x.missed 1=p2:=by rw[e2];rfl
 have ml:x.missed.length=3:=by rw[e2];rfl
 have rn:x.readers.length=3:=by rw[e1];rfl
 have ro:=h.r b (by rw[e1];simp)
 rw[rk,mk]at mb
 rw[mk]at m2
 obtain⟨rs,rl,rl1,rp1,rp2,rm1,rm2,rk1,rk2⟩:=ro
 refine jm (rW x a b d p p2 p3 m off oN oL num) x.people.length _ ⟨[],Nat.le_refl _,fun i hi=>absurd hi (by omega),rfl⟩ (fun j st hj hp=>Jo h e1 e2 m off oN oL num j st hj hp) ?_
 intro st hp
 refine⟨(.exit 1,st),?_,by simp,.inr ⟨?_,st,hp,rfl⟩⟩
 · obtain⟨W,wl,hb,rfl⟩:=hp
   have wl:=Nat.le_trans wl n3
   generalize bB _ p2 _=q at*
   generalize aD x.people b.pl m x.tags _=g at*
   rcases W with _ | ⟨w,_ | ⟨w2,_ | ⟨w3,_ | ⟨w4,W⟩⟩⟩⟩
   · obtain⟨⟨places,roads⟩,time,people,tags,readers,numbers,looked,missed⟩:=x
     simp only[az,Tru.cs,ak,Rdr.e,arI,List.cons_append,List.nil_append,List.map_cons,List.map_nil,LLe,tL,ml,rn,Nat.reduceAdd,Nat.reduceSub,List.length_cons,List.length_nil]at*
     simp (disch:=omega) only[go_sem,K.aa,↓reduceIte,Nat.reduceAdd,Nat.reduceSub]
   · obtain⟨⟨places,roads⟩,time,people,tags,readers,numbers,looked,missed⟩:=x
     simp only[az,Tru.cs,ak,Rdr.e,arI,List.cons_append,List.nil_append,List.map_cons,List.map_nil,LLe,tL,ml,rn,Nat.reduceAdd,Nat.reduceSub,List.length_cons,List.length_nil]at*
     simp (disch:=omega) only[go_sem,K.aa,↓reduceIte,Nat.reduceAdd,Nat.reduceSub]
   · obtain⟨⟨places,roads⟩,time,people,tags,readers,numbers,looked,missed⟩:=x
     simp only[az,Tru.cs,ak,Rdr.e,arI,List.cons_append,List.nil_append,List.map_cons,List.map_nil,LLe,tL,ml,rn,Nat.reduceAdd,Nat.reduceSub,List.length_cons,List.length_nil]at*
     simp (disch:=omega) only[go_sem,K.aa,↓reduceIte,Nat.reduceAdd,Nat.reduceSub]
   · obtain⟨⟨places,roads⟩,time,people,tags,readers,numbers,looked,missed⟩:=x
     simp only[az,Tru.cs,ak,Rdr.e,arI,List.cons_append,List.nil_append,List.map_cons,List.map_nil,LLe,tL,ml,rn,Nat.reduceAdd,Nat.reduceSub,List.length_cons,List.length_nil]at*
     simp (disch:=omega) only[go_sem,K.aa,↓reduceIte,Nat.reduceAdd,Nat.reduceSub]
   · simp only[List.length_cons]at wl;omega
 · obtain⟨W,wl,hb,rfl⟩:=hp
   rw[List.any_eq_false]
   intro i hi
   rw[hb i (List.mem_range.1 hi)]
   decide
set_option maxHeartbeats 4000000 in
theorem AV{x:Tru}(h:x.ok){a b d:Rdr}{p p2 p3:List Int}(e1:x.readers=[a,b,d])(e2:x.missed=[p,p2,p3])(m off:Int)(o1: -b.skew≤off)(o2:off≤b.skew)(o3:0≤x.time+off)(o4:x.time+off≤2147483648):
 aX 0 N.ae [.t x.e,I 1,I m,I off] []=some (if p9 x 1 m then .tup [.t x.e,.t (iN 0 0 0 []),I 43]else .tup [.t (kS x 1 m).e,.t (iN 1 (rR x 1) (x.time+off) (eZ (aD x.people b.pl m x.tags x.people.length))),I 0],[]):=by
 have n3:=h.n3
 have tl:=h.tl
 have nl:=h.nl
 have ll:=h.ll
 have t0:=h.t0
 have t1:=h.t1
 have nb:=h.nb 1 (by rw[e1];simp)
 have mb:=h.mb 1 (by rw[e1];simp)
 have m2:=h.m2 1 (by rw[e1];simp)
 have rk:nth x.readers 1=b:=by rw[e1];rfl
 have mk:nth x.missed 1=p2:=by rw[e2];rfl
 have ml:x.missed.length=3:=by rw[e2];rfl
 have rn:x.readers.length=3:=by rw[e1];rfl
 have ro:=h.r b (by rw[e1];simp)
 rw[rk,mk]at mb
 rw[mk]at m2
 obtain⟨rs,rl,rl1,rp1,rp2,rm1,rm2,rk1,rk2⟩:=ro
 have sz:=h.sz
 have cp:=nD sz e1 e2
 have va:=gz h
 have lpL:=Jp h e1 e2 m off
 have scl:∀(y:Tru) (r:T) (v:Int),([D.t y.e,D.t r,I v].all cG)=false:=fun _ _ _=>rfl
 have sl:=dY x.people b.pl m x.tags x.people.length
 have so:=nz 0 (aD x.people b.pl m x.tags x.people.length) (by omega)
 have sol:=eu (aD x.people b.pl m x.tags x.people.length)
 have i1:=eP 1 0 ((3:Int)-1)
 have i2:=eP off (0-b.skew) b.skew
 have i3:=eP (x.time+off) 0 2147483648
 rw[decide_eq_true (by omega)]at i1 i2 i3
 unfold p9 kS rR
 rw[rk,mk]
 have en:(x.numbers.map (T.int .i64))[1]?=some (tI (nth x.numbers 1)):=aU _ (by omega)
 have el:(x.looked.map (T.int .i64))[1]?=some (tI (nth x.looked 1)):=aU _ (by omega)
 generalize nth x.numbers 1=nu at*
 generalize nth x.looked 1=lo at*
 refine aO K.ea rfl ?_
 have qe:∀(b:Prop) [Decidable b],(nu+if b then 2 else 1)=if b then nu+2 else nu+1:=fun b _=>by split<;>rfl
 have wl:=ef (c8 x.people b.pl m p2) p2 x.people.length
 by_cases bq:(List.range x.people.length).any (fv x.people b.pl b.miss m p2)=true
 · rw[if_pos bq]
   obtain⟨⟨places,roads⟩,time,people,tags,readers,numbers,looked,missed⟩:=x
   subst e1 e2
   simp only[az,Tru.e,Tru.cs,ak,arI,jW,tLL,Rdr.e,List.map_cons,List.map_nil,LLe,tL]at*
   by_cases ca:0≤lo
   · by_cases cb:b.per<time-lo
     · simp (disch:=omega) only[go_sem,K.ae,↓reduceIte,cp,va,i1,i2,i3,en,el,ca,cb,gt_iff_lt,aE,List.length_set,Nat.reduceAdd,Nat.reduceSub]
       refine cF _ (lpL _ _ _ _ _ _ _ _ _ _ _ _ _) ?_
       rintro q (⟨_,v0,v3,_,_,_,vr,rest,rfl⟩ | ⟨n,_⟩)
       · simp (disch:=omega) only[go_sem,K.ae,↓reduceIte,scl,Nat.reduceAdd,Nat.reduceSub]
         rfl
       · rw[n]at bq;cases bq
     · simp (disch:=omega) only[go_sem,K.ae,↓reduceIte,cp,va,i1,i2,i3,en,el,ca,cb,gt_iff_lt,aE,List.length_set,Nat.reduceAdd,Nat.reduceSub]
       refine cF _ (lpL _ _ _ _ _ _ _ _ _ _ _ _ _) ?_
       rintro q (⟨_,v0,v3,_,_,_,vr,rest,rfl⟩ | ⟨n,_⟩)
       · simp (disch:=omega) only[go_sem,K.ae,↓reduceIte,scl,Nat.reduceAdd,Nat.reduceSub]
         rfl
       · rw[n]at bq;cases bq
   · simp (disch:=omega) only[go_sem,K.ae,↓reduceIte,cp,va,i1,i2,i3,en,el,ca,gt_iff_lt,aE,List.length_set,Nat.reduceAdd,Nat.reduceSub]
     refine cF _ (lpL _ _ _ _ _ _ _ _ _ _ _ _ _) ?_
     rintro q (⟨_,v0,v3,_,_,_,vr,rest,rfl⟩ | ⟨n,_⟩)
     · simp (disch:=omega) only[go_sem,K.ae,↓reduceIte,scl,Nat.reduceAdd,Nat.reduceSub]
       rfl
     · rw[n]at bq;cases bq
 · rw[if_neg bq]
   have qa:(x.numbers.set 1 ((nu+if 0≤lo∧b.per<x.time-lo then 2 else 1).tmod 65536)).length=x.numbers.length:=List.length_set ..
   generalize hg:aD x.people b.pl m x.tags x.people.length=g at*
   obtain⟨q,hq,hQ⟩:=lpL (arI (x.numbers.set 1 ((nu+if 0≤lo∧b.per<x.time-lo then 2 else 1).tmod 65536))) (arI (x.looked.set 1 x.time)) ((nu+if 0≤lo∧b.per<x.time-lo then 2 else 1).tmod 65536) (.t x.e) (I off) (I 0) (if 0≤lo∧b.per<x.time-lo then I 2 else I 1) (I ((nu+if 0≤lo∧b.per<x.time-lo then 2 else 1).tmod 65536)) .und .und .und .und .und
   rcases hQ with⟨n,_⟩ | ⟨_,st,⟨W,wl2,hb,rfl⟩,rfl⟩
   · exact absurd n bq
   rw[hg]at hq
   generalize bB _ p2 _=w at*
   rcases W with _ | ⟨w1,_ | ⟨w2,_ | ⟨w3,_ | ⟨w4,W⟩⟩⟩⟩
   · obtain⟨⟨places,roads⟩,time,people,tags,readers,numbers,looked,missed⟩:=x
     subst e1 e2
     simp only[az,Tru.e,Tru.cs,iN,ak,arI,jW,tLL,Rdr.e,List.cons_append,List.nil_append,List.map_cons,List.map_nil,LLe,tL,Nat.reduceAdd,Nat.reduceSub,List.length_cons,List.length_nil]at*
     by_cases ca:0≤lo
     · by_cases cb:b.per<time-lo
       · simp only[if_pos (And.intro ca cb)]at hq ⊢
         simp (disch:=omega) only[go_sem,K.ae,↓reduceIte,cp,va,i1,i2,i3,en,el,ca,cb,gt_iff_lt,aE,hq,so,sol,wl,scl,List.length_set,Nat.reduceAdd,Nat.reduceSub]
       · simp only[if_neg (fun e:0≤lo∧b.per<time-lo=>cb e.2)]at hq ⊢
         simp (disch:=omega) only[go_sem,K.ae,↓reduceIte,cp,va,i1,i2,i3,en,el,ca,cb,gt_iff_lt,aE,hq,so,sol,wl,scl,List.length_set,Nat.reduceAdd,Nat.reduceSub]
     · simp only[if_neg (fun e:0≤lo∧b.per<time-lo=>ca e.1)]at hq ⊢
       simp (disch:=omega) only[go_sem,K.ae,↓reduceIte,cp,va,i1,i2,i3,en,el,ca,gt_iff_lt,aE,hq,so,sol,wl,scl,List.length_set,Nat.reduceAdd,Nat.reduceSub]
   · obtain⟨⟨places,roads⟩,time,people,tags,readers,numbers,looked,missed⟩:=x
     subst e1 e2
     simp only[az,Tru.e,Tru.cs,iN,ak,arI,jW,tLL,Rdr.e,List.cons_append,List.nil_append,List.map_cons,List.map_nil,LLe,tL,Nat.reduceAdd,Nat.reduceSub,List.length_cons,List.length_nil]at*
     by_cases ca:0≤lo
     · by_cases cb:b.per<time-lo
       · simp only[if_pos (And.intro ca cb)]at hq ⊢
         simp (disch:=omega) only[go_sem,K.ae,↓reduceIte,cp,va,i1,i2,i3,en,el,ca,cb,gt_iff_lt,aE,hq,so,sol,wl,scl,List.length_set,Nat.reduceAdd,Nat.reduceSub]
       · simp only[if_neg (fun e:0≤lo∧b.per<time-lo=>cb e.2)]at hq ⊢
         simp (disch:=omega) only[go_sem,K.ae,↓reduceIte,cp,va,i1,i2,i3,en,el,ca,cb,gt_iff_lt,aE,hq,so,sol,wl,scl,List.length_set,Nat.reduceAdd,Nat.reduceSub]
     · simp only[if_neg (fun e:0≤lo∧b.per<time-lo=>ca e.1)]at hq ⊢
       simp (disch:=omega) only[go_sem,K.ae,↓reduceIte,cp,va,i1,i2,i3,en,el,ca,gt_iff_lt,aE,hq,so,sol,wl,scl,List.length_set,Nat.reduceAdd,Nat.reduceSub]
   · obtain⟨⟨places,roads⟩,time,people,tags,readers,numbers,looked,missed⟩:=x
     subst e1 e2
     simp only[az,Tru.e,Tru.cs,iN,ak,arI,jW,tLL,Rdr.e,List.cons_append,List.nil_append,List.map_cons,List.map_nil,LLe,tL,Nat.reduceAdd,Nat.reduceSub,List.length_cons,List.length_nil]at*
     by_cases ca:0≤lo
     · by_cases cb:b.per<time-lo
       · simp only[if_pos (And.intro ca cb)]at hq ⊢
         simp (disch:=omega) only[go_sem,K.ae,↓reduceIte,cp,va,i1,i2,i3,en,el,ca,cb,gt_iff_lt,aE,hq,so,sol,wl,scl,List.length_set,Nat.reduceAdd,Nat.reduceSub]
       · simp only[if_neg (fun e:0≤lo∧b.per<time-lo=>cb e.2)]at hq ⊢
         simp (disch:=omega) only[go_sem,K.ae,↓reduceIte,cp,va,i1,i2,i3,en,el,ca,cb,gt_iff_lt,aE,hq,so,sol,wl,scl,List.length_set,Nat.reduceAdd,Nat.reduceSub]
     · simp only[if_neg (fun e:0≤lo∧b.per<time-lo=>ca e.1)]at hq ⊢
       simp (disch:=omega) only[go_sem,K.ae,↓reduceIte,cp,va,i1,i2,i3,en,el,ca,gt_iff_lt,aE,hq,so,sol,wl,scl,List.length_set,Nat.reduceAdd,Nat.reduceSub]
   · obtain⟨⟨places,roads⟩,time,people,tags,readers,numbers,looked,missed⟩:=x
     subst e1 e2
     simp only[az,Tru.e,Tru.cs,iN,ak,arI,jW,tLL,Rdr.e,List.cons_append,List.nil_append,List.map_cons,List.map_nil,LLe,tL,Nat.reduceAdd,Nat.reduceSub,List.length_cons,List.length_nil]at*
     by_cases ca:0≤lo
     · by_cases cb:b.per<time-lo
       · simp only[if_pos (And.intro ca cb)]at hq ⊢
         simp (disch:=omega) only[go_sem,K.ae,↓reduceIte,cp,va,i1,i2,i3,en,el,ca,cb,gt_iff_lt,aE,hq,so,sol,wl,scl,List.length_set,Nat.reduceAdd,Nat.reduceSub]
       · simp only[if_neg (fun e:0≤lo∧b.per<time-lo=>cb e.2)]at hq ⊢
         simp (disch:=omega) only[go_sem,K.ae,↓reduceIte,cp,va,i1,i2,i3,en,el,ca,cb,gt_iff_lt,aE,hq,so,sol,wl,scl,List.length_set,Nat.reduceAdd,Nat.reduceSub]
     · simp only[if_neg (fun e:0≤lo∧b.per<time-lo=>ca e.1)]at hq ⊢
       simp (disch:=omega) only[go_sem,K.ae,↓reduceIte,cp,va,i1,i2,i3,en,el,ca,gt_iff_lt,aE,hq,so,sol,wl,scl,List.length_set,Nat.reduceAdd,Nat.reduceSub]
   · simp only[List.length_cons]at wl2;omega
def rX(x:Tru)(a b d:Rdr)(p p2 p3:List Int)(m off:Int)(oN oL:Obj)(num:Int)(j:Nat)(st:St):Prop:=∃W:List Wlk,W.length≤j∧(∀i,i<j→(fv x.people d.pl d.miss m p3) i=false)∧st=⟨[.und,I 2,I m,.und,.bp 0 0,.bp 1 0,.bp 2 0,.und,.bp 3 0,.bp 11 0,.und,.und,.bp 12 0,.und,.und,.und,.und,.und,.t (.sl (x.people.map Wlk.e)),I x.people.length,I j],[.box (x.cs.map .t),.box az,.box [I 0,I 0,I 0,.nil],.box [.t (tL d.pl),I d.per,I d.miss,I d.skew],.arr 4 false 0 [.t a.e,.t b.e,.t d.e],oN,oL,.arr 1 false 0 [.ref 8 0 p.length,.ref 9 0 p2.length,.ref 10 0 p3.length],arI p,arI p2,arI (bB (c8 x.people d.pl m p3) p3 j),.box (ak 4 x),.box [I 2,I num,I (x.time+off),.ref 14 0 (aD x.people d.pl m x.tags j).length],.arr 1 false 0 [],arI (aD x.people d.pl m x.tags j)]++(W.map fun w=> .box [I w.place,I w.kR,I w.left])⟩
def AX(x:Tru)(a b d:Rdr)(p p2 p3:List Int)(m off:Int)(oN oL:Obj)(num:Int)(q:Ex×St):Prop:=((List.range x.people.length).any (fv x.people d.pl d.miss m p3)=true∧∃(v0 v3 v8 v9 v10:D) (vr:List D) (rest:ag),q=(.ret,⟨v0::I 2::I m::v3:: .bp 0 0:: .bp 1 0:: .bp 2 0::I 43::vr,.box (x.cs.map .t):: .box (x.cs.map .t):: .box [I 0,I 0,I 0,.nil]::rest⟩))∨((List.range x.people.length).any (fv x.people d.pl d.miss m p3)=false∧∃st,rX x a b d p p2 p3 m off oN oL num x.people.length st∧q=(.exit 1,st))
theorem Jq{x:Tru}(h:x.ok){a b d:Rdr}{p p2 p3:List Int}(e1:x.readers=[a,b,d])(e2:x.missed=[p,p2,p3])(m off:Int)(oN oL:Obj)(num:Int)(j:Nat)(st:St)(hj:j<x.people.length)(hp:rX x a b d p p2 p3 m off oN oL num j st):
 (∃st',fg false [0,3,7,10,11,13,14,15,16,17] st.H.length (exS aX K.aa st)=some st'∧rX x a b d p p2 p3 m off oN oL num (j+1) st')∨∃q,exS aX K.aa st=some q∧q.1≠ .normal∧AX x a b d p p2 p3 m off oN oL num q:=by
 have n3:=h.n3
 have tl:=h.tl
 have nl:=h.nl
 have ll:=h.ll
 have t0:=h.t0
 have t1:=h.t1
 have nb:=h.nb 2 (by rw[e1];simp)
 have mb:=h.mb 2 (by rw[e1];simp)
 have m2:=h.m2 2 (by rw[e1];simp)
 have rk:nth x.readers 2=d:=by rw[e1];rfl
 have mk:nth x.missed 2=p3:=by rw[e2];rfl
 have ml:x.missed.length=3:=by rw[e2];rfl
 have rn:x.readers.length=3:=by rw[e1];rfl
 have ro:=h.r d (by rw[e1];simp)
 rw[rk,mk]at mb
 rw[mk]at m2
 obtain⟨rs,rl,rl1,rp1,rp2,rm1,rm2,rk1,rk2⟩:=ro
 have ex:(x.people.map Wlk.e)[j]?=some (nth x.people j).e:=aU _ hj
 have et:(x.tags.map (T.int .i64))[j]?=some (tI (nth x.tags j)):=aU _ (by omega)
 have hs:=gq d.pl (nth x.people j).place (by omega)
 have mbj:=mb j hj
 have sh:=jo m j
 have an:=jn m j
 obtain⟨W,wl,hb,rfl⟩:=hp
 have ql:=ef (c8 x.people d.pl m p3) p3 j
 have qj:=lO (c8 x.people d.pl m p3) p3 j j (Nat.le_refl _)
 have sl:=dY x.people d.pl m x.tags j
 by_cases hq:(fv x.people d.pl d.miss m p3) j=true
 · have anyb:(List.range x.people.length).any (fv x.people d.pl d.miss m p3)=true:=List.any_eq_true.2 ⟨j,List.mem_range.2 hj,hq⟩
   unfold fv cH eX at hq
   simp only[Bool.and_eq_true,decide_eq_true_eq]at hq
   obtain⟨⟨h1,h2⟩,h3⟩:=hq
   generalize bB _ p3 j=q at*
   generalize aD x.people d.pl m x.tags j=g at*
   rw[← qj]at h3
   have nse:nth (q.set j (nth q j+1)) j=nth q j+1:=aV (by omega)
   rw[decide_eq_true h1]at hs
   have key:∃(v0 v3:D) (vr:List D) (rest:ag),exS aX K.aa ⟨[.und,I 2,I m,.und,.bp 0 0,.bp 1 0,.bp 2 0,.und,.bp 3 0,.bp 11 0,.und,.und,.bp 12 0,.und,.und,.und,.und,.und,.t (.sl (x.people.map Wlk.e)),I x.people.length,I j],[.box (x.cs.map .t),.box az,.box [I 0,I 0,I 0,.nil],.box [.t (tL d.pl),I d.per,I d.miss,I d.skew],.arr 4 false 0 [.t a.e,.t b.e,.t d.e],oN,oL,.arr 1 false 0 [.ref 8 0 p.length,.ref 9 0 p2.length,.ref 10 0 p3.length],arI p,arI p2,arI q,.box (ak 4 x),.box [I 2,I num,I (x.time+off),.ref 14 0 g.length],.arr 1 false 0 [],arI g]++(W.map fun w=> .box [I w.place,I w.kR,I w.left])⟩=some (.ret,⟨v0::I 2::I m::v3:: .bp 0 0:: .bp 1 0:: .bp 2 0::I 43::vr,.box (x.cs.map .t):: .box (x.cs.map .t):: .box [I 0,I 0,I 0,.nil]::rest⟩):=by
    generalize nth x.people j=y at*
    obtain⟨y1,y2,y3⟩:=y
    rcases W with _ | ⟨w,_ | ⟨w2,_ | ⟨w3,W⟩⟩⟩
    · obtain⟨⟨places,roads⟩,time,people,tags,readers,numbers,looked,missed⟩:=x
      simp only[az,Tru.cs,ak,Rdr.e,arI,List.cons_append,List.nil_append,List.map_cons,List.map_nil,LLe,tL,ml,rn,Nat.reduceAdd,Nat.reduceSub,List.length_cons,List.length_nil]at*
      simp (disch:=omega) only[go_sem,K.aa,↓reduceIte,ex,hs,sh,an,h2,nse,h3,aE,List.length_set,ql,List.map_append,List.map_cons,List.map_nil,List.length_append,List.length_singleton,gt_iff_lt,Nat.reduceAdd,Nat.reduceSub]
      exact⟨_,_,_,_,rfl⟩
    · obtain⟨⟨places,roads⟩,time,people,tags,readers,numbers,looked,missed⟩:=x
      simp only[az,Tru.cs,ak,Rdr.e,arI,List.cons_append,List.nil_append,List.map_cons,List.map_nil,LLe,tL,ml,rn,Nat.reduceAdd,Nat.reduceSub,List.length_cons,List.length_nil]at*
      simp (disch:=omega) only[go_sem,K.aa,↓reduceIte,ex,hs,sh,an,h2,nse,h3,aE,List.length_set,ql,List.map_append,List.map_cons,List.map_nil,List.length_append,List.length_singleton,gt_iff_lt,Nat.reduceAdd,Nat.reduceSub]
      exact⟨_,_,_,_,rfl⟩
    · obtain⟨⟨places,roads⟩,time,people,tags,readers,numbers,looked,missed⟩:=x
      simp only[az,Tru.cs,ak,Rdr.e,arI,List.cons_append,List.nil_append,List.map_cons,List.map_nil,LLe,tL,ml,rn,Nat.reduceAdd,Nat.reduceSub,List.length_cons,List.length_nil]at*
      simp (disch:=omega) only[go_sem,K.aa,↓reduceIte,ex,hs,sh,an,h2,nse,h3,aE,List.length_set,ql,List.map_append,List.map_cons,List.map_nil,List.length_append,List.length_singleton,gt_iff_lt,Nat.reduceAdd,Nat.reduceSub]
      exact⟨_,_,_,_,rfl⟩
    · simp only[List.length_cons]at wl;omega
   obtain⟨v0,v3,vr,rest,key⟩:=key
   exact .inr ⟨_,key,by simp,.inl ⟨anyb,v0,v3,v0,v0,v0,vr,rest,rfl⟩⟩
 · have hq:(fv x.people d.pl d.miss m p3) j=false:=by simpa using hq
   have hb2:∀i,i<j+1→(fv x.people d.pl d.miss m p3) i=false:=fun i hi=>by
    by_cases c:i=j
    · rw[c];exact hq
    · exact hb i (by omega)
   left
   by_cases h1:(nth x.people j).place∈d.pl
   · rw[decide_eq_true h1]at hs
     by_cases h2:ui m j=1
     · have nw:(c8 x.people d.pl m p3) j=nth p3 j+1:=by unfold c8 cH eX;rw[decide_eq_true h1,decide_eq_true h2];rfl
       have nl0:¬d.miss<nth p3 j+1:=by
        unfold fv cH eX at hq
        rw[decide_eq_true h1,decide_eq_true h2]at hq
        simpa using hq
       have ss1:aD x.people d.pl m x.tags (j+1)=aD x.people d.pl m x.tags j:=by rw[aD];unfold cH eX;rw[decide_eq_true h1,decide_eq_true h2];rfl
       have rs1:bB (c8 x.people d.pl m p3) p3 (j+1)=(bB (c8 x.people d.pl m p3) p3 j).set j (nth p3 j+1):=by rw[bB,nw]
       generalize hy:nth x.people j=y at*
       rcases W with _ | ⟨w,_ | ⟨w2,_ | ⟨w3,W⟩⟩⟩
       · refine⟨_,?_,[]++[y],by simp only[List.length_cons,List.length_nil,List.length_append]at *;omega,hb2,rfl⟩
         rw[rs1,ss1]
         generalize bB _ p3 j=q at*
         generalize aD x.people d.pl m x.tags j=g at*
         rw[← qj]at nl0 ⊢
         have nse:nth (q.set j (nth q j+1)) j=nth q j+1:=aV (by omega)
         obtain⟨y1,y2,y3⟩:=y
         obtain⟨⟨places,roads⟩,time,people,tags,readers,numbers,looked,missed⟩:=x
         simp only[az,Tru.cs,ak,Rdr.e,arI,List.cons_append,List.nil_append,List.map_cons,List.map_nil,LLe,tL,ml,rn,Nat.reduceAdd,Nat.reduceSub,List.length_cons,List.length_nil]at*
         simp (disch:=omega) only[go_sem,K.aa,↓reduceIte,ex,hs,sh,an,h2,nse,nl0,aE,List.length_set,ql,List.map_append,List.map_cons,List.map_nil,List.length_append,List.length_singleton,gt_iff_lt,Nat.reduceAdd,Nat.reduceSub]
       · refine⟨_,?_,[w]++[y],by simp only[List.length_cons,List.length_nil,List.length_append]at *;omega,hb2,rfl⟩
         rw[rs1,ss1]
         generalize bB _ p3 j=q at*
         generalize aD x.people d.pl m x.tags j=g at*
         rw[← qj]at nl0 ⊢
         have nse:nth (q.set j (nth q j+1)) j=nth q j+1:=aV (by omega)
         obtain⟨y1,y2,y3⟩:=y
         obtain⟨⟨places,roads⟩,time,people,tags,readers,numbers,looked,missed⟩:=x
         simp only[az,Tru.cs,ak,Rdr.e,arI,List.cons_append,List.nil_append,List.map_cons,List.map_nil,LLe,tL,ml,rn,Nat.reduceAdd,Nat.reduceSub,List.length_cons,List.length_nil]at*
         simp (disch:=omega) only[go_sem,K.aa,↓reduceIte,ex,hs,sh,an,h2,nse,nl0,aE,List.length_set,ql,List.map_append,List.map_cons,List.map_nil,List.length_append,List.length_singleton,gt_iff_lt,Nat.reduceAdd,Nat.reduceSub]
       · refine⟨_,?_,[w,w2]++[y],by simp only[List.length_cons,List.length_nil,List.length_append]at *;omega,hb2,rfl⟩
         rw[rs1,ss1]
         generalize bB _ p3 j=q at*
         generalize aD x.people d.pl m x.tags j=g at*
         rw[← qj]at nl0 ⊢
         have nse:nth (q.set j (nth q j+1)) j=nth q j+1:=aV (by omega)
         obtain⟨y1,y2,y3⟩:=y
         obtain⟨⟨places,roads⟩,time,people,tags,readers,numbers,looked,missed⟩:=x
         simp only[az,Tru.cs,ak,Rdr.e,arI,List.cons_append,List.nil_append,List.map_cons,List.map_nil,LLe,tL,ml,rn,Nat.reduceAdd,Nat.reduceSub,List.length_cons,List.length_nil]at*
         simp (disch:=omega) only[go_sem,K.aa,↓reduceIte,ex,hs,sh,an,h2,nse,nl0,aE,List.length_set,ql,List.map_append,List.map_cons,List.map_nil,List.length_append,List.length_singleton,gt_iff_lt,Nat.reduceAdd,Nat.reduceSub]
       · simp only[List.length_cons]at wl;omega
     · have nw:(c8 x.people d.pl m p3) j=0:=by unfold c8 cH eX;rw[decide_eq_true h1,decide_eq_false h2];rfl
       have ss1:aD x.people d.pl m x.tags (j+1)=aD x.people d.pl m x.tags j++[nth x.tags j]:=by rw[aD];unfold cH eX;rw[decide_eq_true h1,decide_eq_false h2];rfl
       have rs1:bB (c8 x.people d.pl m p3) p3 (j+1)=(bB (c8 x.people d.pl m p3) p3 j).set j 0:=by rw[bB,nw]
       generalize hy:nth x.people j=y at*
       rcases W with _ | ⟨w,_ | ⟨w2,_ | ⟨w3,W⟩⟩⟩
       · refine⟨_,?_,[]++[y],by simp only[List.length_cons,List.length_nil,List.length_append]at *;omega,hb2,rfl⟩
         rw[rs1,ss1]
         generalize bB _ p3 j=q at*
         generalize aD x.people d.pl m x.tags j=g at*
         obtain⟨y1,y2,y3⟩:=y
         obtain⟨⟨places,roads⟩,time,people,tags,readers,numbers,looked,missed⟩:=x
         simp only[az,Tru.cs,ak,Rdr.e,arI,List.cons_append,List.nil_append,List.map_cons,List.map_nil,LLe,tL,ml,rn,Nat.reduceAdd,Nat.reduceSub,List.length_cons,List.length_nil]at*
         simp (disch:=omega) only[go_sem,K.aa,↓reduceIte,ex,hs,sh,an,h2,et,aE,List.length_set,ql,List.map_append,List.map_cons,List.map_nil,List.length_append,List.length_singleton,gt_iff_lt,Nat.reduceAdd,Nat.reduceSub]
       · refine⟨_,?_,[w]++[y],by simp only[List.length_cons,List.length_nil,List.length_append]at *;omega,hb2,rfl⟩
         rw[rs1,ss1]
         generalize bB _ p3 j=q at*
         generalize aD x.people d.pl m x.tags j=g at*
         obtain⟨y1,y2,y3⟩:=y
         obtain⟨⟨places,roads⟩,time,people,tags,readers,numbers,looked,missed⟩:=x
         simp only[az,Tru.cs,ak,Rdr.e,arI,List.cons_append,List.nil_append,List.map_cons,List.map_nil,LLe,tL,ml,rn,Nat.reduceAdd,Nat.reduceSub,List.length_cons,List.length_nil]at*
         simp (disch:=omega) only[go_sem,K.aa,↓reduceIte,ex,hs,sh,an,h2,et,aE,List.length_set,ql,List.map_append,List.map_cons,List.map_nil,List.length_append,List.length_singleton,gt_iff_lt,Nat.reduceAdd,Nat.reduceSub]
       · refine⟨_,?_,[w,w2]++[y],by simp only[List.length_cons,List.length_nil,List.length_append]at *;omega,hb2,rfl⟩
         rw[rs1,ss1]
         generalize bB _ p3 j=q at*
         generalize aD x.people d.pl m x.tags j=g at*
         obtain⟨y1,y2,y3⟩:=y
         obtain⟨⟨places,roads⟩,time,people,tags,readers,numbers,looked,missed⟩:=x
         simp only[az,Tru.cs,ak,Rdr.e,arI,List.cons_append,List.nil_append,List.map_cons,List.map_nil,LLe,tL,ml,rn,Nat.reduceAdd,Nat.reduceSub,List.length_cons,List.length_nil]at*
         simp (disch:=omega) only[go_sem,K.aa,↓reduceIte,ex,hs,sh,an,h2,et,aE,List.length_set,ql,List.map_append,List.map_cons,List.map_nil,List.length_append,List.length_singleton,gt_iff_lt,Nat.reduceAdd,Nat.reduceSub]
       · simp only[List.length_cons]at wl;omega
   · have nw:(c8 x.people d.pl m p3) j=0:=by unfold c8 cH eX;rw[decide_eq_false h1];rfl
     have ss1:aD x.people d.pl m x.tags (j+1)=aD x.people d.pl m x.tags j:=by rw[aD];unfold cH eX;rw[decide_eq_false h1];rfl
     have rs1:bB (c8 x.people d.pl m p3) p3 (j+1)=(bB (c8 x.people d.pl m p3) p3 j).set j 0:=by rw[bB,nw]
     rw[decide_eq_false h1]at hs
     by_cases h2:ui m j=1
     · generalize hy:nth x.people j=y at*
       rcases W with _ | ⟨w,_ | ⟨w2,_ | ⟨w3,W⟩⟩⟩
       · refine⟨_,?_,[]++[y],by simp only[List.length_cons,List.length_nil,List.length_append]at *;omega,hb2,rfl⟩
         rw[rs1,ss1]
         generalize bB _ p3 j=q at*
         generalize aD x.people d.pl m x.tags j=g at*
         obtain⟨y1,y2,y3⟩:=y
         obtain⟨⟨places,roads⟩,time,people,tags,readers,numbers,looked,missed⟩:=x
         simp only[az,Tru.cs,ak,Rdr.e,arI,List.cons_append,List.nil_append,List.map_cons,List.map_nil,LLe,tL,ml,rn,Nat.reduceAdd,Nat.reduceSub,List.length_cons,List.length_nil]at*
         simp (disch:=omega) only[go_sem,K.aa,↓reduceIte,ex,hs,sh,an,h2,aE,List.length_set,ql,List.map_append,List.map_cons,List.map_nil,List.length_append,List.length_singleton,gt_iff_lt,Nat.reduceAdd,Nat.reduceSub]
       · refine⟨_,?_,[w]++[y],by simp only[List.length_cons,List.length_nil,List.length_append]at *;omega,hb2,rfl⟩
         rw[rs1,ss1]
         generalize bB _ p3 j=q at*
         generalize aD x.people d.pl m x.tags j=g at*
         obtain⟨y1,y2,y3⟩:=y
         obtain⟨⟨places,roads⟩,time,people,tags,readers,numbers,looked,missed⟩:=x
         simp only[az,Tru.cs,ak,Rdr.e,arI,List.cons_append,List.nil_append,List.map_cons,List.map_nil,LLe,tL,ml,rn,Nat.reduceAdd,Nat.reduceSub,List.length_cons,List.length_nil]at*
         simp (disch:=omega) only[go_sem,K.aa,↓reduceIte,ex,hs,sh,an,h2,aE,List.length_set,ql,List.map_append,List.map_cons,List.map_nil,List.length_append,List.length_singleton,gt_iff_lt,Nat.reduceAdd,Nat.reduceSub]
       · refine⟨_,?_,[w,w2]++[y],by simp only[List.length_cons,List.length_nil,List.length_append]at *;omega,hb2,rfl⟩
         rw[rs1,ss1]
         generalize bB _ p3 j=q at*
         generalize aD x.people d.pl m x.tags j=g at*
         obtain⟨y1,y2,y3⟩:=y
         obtain⟨⟨places,roads⟩,time,people,tags,readers,numbers,looked,missed⟩:=x
         simp only[az,Tru.cs,ak,Rdr.e,arI,List.cons_append,List.nil_append,List.map_cons,List.map_nil,LLe,tL,ml,rn,Nat.reduceAdd,Nat.reduceSub,List.length_cons,List.length_nil]at*
         simp (disch:=omega) only[go_sem,K.aa,↓reduceIte,ex,hs,sh,an,h2,aE,List.length_set,ql,List.map_append,List.map_cons,List.map_nil,List.length_append,List.length_singleton,gt_iff_lt,Nat.reduceAdd,Nat.reduceSub]
       · simp only[List.length_cons]at wl;omega
     · generalize hy:nth x.people j=y at*
       rcases W with _ | ⟨w,_ | ⟨w2,_ | ⟨w3,W⟩⟩⟩
       · refine⟨_,?_,[]++[y],by simp only[List.length_cons,List.length_nil,List.length_append]at *;omega,hb2,rfl⟩
         rw[rs1,ss1]
         generalize bB _ p3 j=q at*
         generalize aD x.people d.pl m x.tags j=g at*
         obtain⟨y1,y2,y3⟩:=y
         obtain⟨⟨places,roads⟩,time,people,tags,readers,numbers,looked,missed⟩:=x
         simp only[az,Tru.cs,ak,Rdr.e,arI,List.cons_append,List.nil_append,List.map_cons,List.map_nil,LLe,tL,ml,rn,Nat.reduceAdd,Nat.reduceSub,List.length_cons,List.length_nil]at*
         simp (disch:=omega) only[go_sem,K.aa,↓reduceIte,ex,hs,sh,an,h2,aE,List.length_set,ql,List.map_append,List.map_cons,List.map_nil,List.length_append,List.length_singleton,gt_iff_lt,Nat.reduceAdd,Nat.reduceSub]
       · refine⟨_,?_,[w]++[y],by simp only[List.length_cons,List.length_nil,List.length_append]at *;omega,hb2,rfl⟩
         rw[rs1,ss1]
         generalize bB _ p3 j=q at*
         generalize aD x.people d.pl m x.tags j=g at*
         obtain⟨y1,y2,y3⟩:=y
         obtain⟨⟨places,roads⟩,time,people,tags,readers,numbers,looked,missed⟩:=x
         simp only[az,Tru.cs,ak,Rdr.e,arI,List.cons_append,List.nil_append,List.map_cons,List.map_nil,LLe,tL,ml,rn,Nat.reduceAdd,Nat.reduceSub,List.length_cons,List.length_nil]at*
         simp (disch:=omega) only[go_sem,K.aa,↓reduceIte,ex,hs,sh,an,h2,aE,List.length_set,ql,List.map_append,List.map_cons,List.map_nil,List.length_append,List.length_singleton,gt_iff_lt,Nat.reduceAdd,Nat.reduceSub]
       · refine⟨_,?_,[w,w2]++[y],by simp only[List.length_cons,List.length_nil,List.length_append]at *;omega,hb2,rfl⟩
         rw[rs1,ss1]
         generalize bB _ p3 j=q at*
         generalize aD x.people d.pl m x.tags j=g at*
         obtain⟨y1,y2,y3⟩:=y
         obtain⟨⟨places,roads⟩,time,people,tags,readers,numbers,looked,missed⟩:=x
         simp only[az,Tru.cs,ak,Rdr.e,arI,List.cons_append,List.nil_append,List.map_cons,List.map_nil,LLe,tL,ml,rn,Nat.reduceAdd,Nat.reduceSub,List.length_cons,List.length_nil]at*
         simp (disch:=omega) only[go_sem,K.aa,↓reduceIte,ex,hs,sh,an,h2,aE,List.length_set,ql,List.map_append,List.map_cons,List.map_nil,List.length_append,List.length_singleton,gt_iff_lt,Nat.reduceAdd,Nat.reduceSub]
       · simp only[List.length_cons]at wl;omega
theorem Jr{x:Tru}(h:x.ok){a b d:Rdr}{p p2 p3:List Int}(e1:x.readers=[a,b,d])(e2:x.missed=[p,p2,p3])(m off:Int)(oN oL:Obj)(num:Int)(z0 z3 z7 z10 z11 z13 z14 z15 z16 z17:D):∃q,exS aX K.ee ⟨[z0,I 2,I m,z3,.bp 0 0,.bp 1 0,.bp 2 0,z7,.bp 3 0,.bp 11 0,z10,z11,.bp 12 0,z13,z14,z15,z16,z17,.t (.sl (x.people.map Wlk.e)),I x.people.length,I 0],[.box (x.cs.map .t),.box az,.box [I 0,I 0,I 0,.nil],.box [.t (tL d.pl),I d.per,I d.miss,I d.skew],.arr 4 false 0 [.t a.e,.t b.e,.t d.e],oN,oL,.arr 1 false 0 [.ref 8 0 p.length,.ref 9 0 p2.length,.ref 10 0 p3.length],arI p,arI p2,arI p3,.box (ak 4 x),.box [I 2,I num,I (x.time+off),.ref 14 0 0],.arr 1 false 0 [],arI ([]:List Int)]⟩=some q∧AX x a b d p p2 p3 m off oN oL num q:=by
 have n3:=h.n3
 have tl:=h.tl
 have nl:=h.nl
 have ll:=h.ll
 have t0:=h.t0
 have t1:=h.t1
 have nb:=h.nb 2 (by rw[e1];simp)
 have mb:=h.mb 2 (by rw[e1];simp)
 have m2:=h.m2 2 (by rw[e1];simp)
 have rk:nth x.readers 2=d:=by rw[e1];rfl
 have mk:nth x.missed 2=p3:=by rw[e2];rfl
 have ml:x.missed.length=3:=by rw[e2];rfl
 have rn:x.readers.length=3:=by rw[e1];rfl
 have ro:=h.r d (by rw[e1];simp)
 rw[rk,mk]at mb
 rw[mk]at m2
 obtain⟨rs,rl,rl1,rp1,rp2,rm1,rm2,rk1,rk2⟩:=ro
 refine jm (rX x a b d p p2 p3 m off oN oL num) x.people.length _ ⟨[],Nat.le_refl _,fun i hi=>absurd hi (by omega),rfl⟩ (fun j st hj hp=>Jq h e1 e2 m off oN oL num j st hj hp) ?_
 intro st hp
 refine⟨(.exit 1,st),?_,by simp,.inr ⟨?_,st,hp,rfl⟩⟩
 · obtain⟨W,wl,hb,rfl⟩:=hp
   have wl:=Nat.le_trans wl n3
   generalize bB _ p3 _=q at*
   generalize aD x.people d.pl m x.tags _=g at*
   rcases W with _ | ⟨w,_ | ⟨w2,_ | ⟨w3,_ | ⟨w4,W⟩⟩⟩⟩
   · obtain⟨⟨places,roads⟩,time,people,tags,readers,numbers,looked,missed⟩:=x
     simp only[az,Tru.cs,ak,Rdr.e,arI,List.cons_append,List.nil_append,List.map_cons,List.map_nil,LLe,tL,ml,rn,Nat.reduceAdd,Nat.reduceSub,List.length_cons,List.length_nil]at*
     simp (disch:=omega) only[go_sem,K.aa,↓reduceIte,Nat.reduceAdd,Nat.reduceSub]
   · obtain⟨⟨places,roads⟩,time,people,tags,readers,numbers,looked,missed⟩:=x
     simp only[az,Tru.cs,ak,Rdr.e,arI,List.cons_append,List.nil_append,List.map_cons,List.map_nil,LLe,tL,ml,rn,Nat.reduceAdd,Nat.reduceSub,List.length_cons,List.length_nil]at*
     simp (disch:=omega) only[go_sem,K.aa,↓reduceIte,Nat.reduceAdd,Nat.reduceSub]
   · obtain⟨⟨places,roads⟩,time,people,tags,readers,numbers,looked,missed⟩:=x
     simp only[az,Tru.cs,ak,Rdr.e,arI,List.cons_append,List.nil_append,List.map_cons,List.map_nil,LLe,tL,ml,rn,Nat.reduceAdd,Nat.reduceSub,List.length_cons,List.length_nil]at*
     simp (disch:=omega) only[go_sem,K.aa,↓reduceIte,Nat.reduceAdd,Nat.reduceSub]
   · obtain⟨⟨places,roads⟩,time,people,tags,readers,numbers,looked,missed⟩:=x
     simp only[az,Tru.cs,ak,Rdr.e,arI,List.cons_append,List.nil_append,List.map_cons,List.map_nil,LLe,tL,ml,rn,Nat.reduceAdd,Nat.reduceSub,List.length_cons,List.length_nil]at*
     simp (disch:=omega) only[go_sem,K.aa,↓reduceIte,Nat.reduceAdd,Nat.reduceSub]
   · simp only[List.length_cons]at wl;omega
 · obtain⟨W,wl,hb,rfl⟩:=hp
   rw[List.any_eq_false]
   intro i hi
   rw[hb i (List.mem_range.1 hi)]
   decide
set_option maxHeartbeats 4000000 in
theorem AY{x:Tru}(h:x.ok){a b d:Rdr}{p p2 p3:List Int}(e1:x.readers=[a,b,d])(e2:x.missed=[p,p2,p3])(m off:Int)(o1: -d.skew≤off)(o2:off≤d.skew)(o3:0≤x.time+off)(o4:x.time+off≤2147483648):
 aX 0 N.ae [.t x.e,I 2,I m,I off] []=some (if p9 x 2 m then .tup [.t x.e,.t (iN 0 0 0 []),I 43]else .tup [.t (kS x 2 m).e,.t (iN 2 (rR x 2) (x.time+off) (eZ (aD x.people d.pl m x.tags x.people.length))),I 0],[]):=by
 have n3:=h.n3
 have tl:=h.tl
 have nl:=h.nl
 have ll:=h.ll
 have t0:=h.t0
 have t1:=h.t1
 have nb:=h.nb 2 (by rw[e1];simp)
 have mb:=h.mb 2 (by rw[e1];simp)
 have m2:=h.m2 2 (by rw[e1];simp)
 have rk:nth x.readers 2=d:=by rw[e1];rfl
 have mk:nth x.missed 2=p3:=by rw[e2];rfl
 have ml:x.missed.length=3:=by rw[e2];rfl
 have rn:x.readers.length=3:=by rw[e1];rfl
 have ro:=h.r d (by rw[e1];simp)
 rw[rk,mk]at mb
 rw[mk]at m2
 obtain⟨rs,rl,rl1,rp1,rp2,rm1,rm2,rk1,rk2⟩:=ro
 have sz:=h.sz
 have cp:=nD sz e1 e2
 have va:=gz h
 have lpL:=Jr h e1 e2 m off
 have scl:∀(y:Tru) (r:T) (v:Int),([D.t y.e,D.t r,I v].all cG)=false:=fun _ _ _=>rfl
 have sl:=dY x.people d.pl m x.tags x.people.length
 have so:=nz 0 (aD x.people d.pl m x.tags x.people.length) (by omega)
 have sol:=eu (aD x.people d.pl m x.tags x.people.length)
 have i1:=eP 2 0 ((3:Int)-1)
 have i2:=eP off (0-d.skew) d.skew
 have i3:=eP (x.time+off) 0 2147483648
 rw[decide_eq_true (by omega)]at i1 i2 i3
 unfold p9 kS rR
 rw[rk,mk]
 have en:(x.numbers.map (T.int .i64))[2]?=some (tI (nth x.numbers 2)):=aU _ (by omega)
 have el:(x.looked.map (T.int .i64))[2]?=some (tI (nth x.looked 2)):=aU _ (by omega)
 generalize nth x.numbers 2=nu at*
 generalize nth x.looked 2=lo at*
 refine aO K.ea rfl ?_
 have qe:∀(b:Prop) [Decidable b],(nu+if b then 2 else 1)=if b then nu+2 else nu+1:=fun b _=>by split<;>rfl
 have wl:=ef (c8 x.people d.pl m p3) p3 x.people.length
 by_cases bq:(List.range x.people.length).any (fv x.people d.pl d.miss m p3)=true
 · rw[if_pos bq]
   obtain⟨⟨places,roads⟩,time,people,tags,readers,numbers,looked,missed⟩:=x
   subst e1 e2
   simp only[az,Tru.e,Tru.cs,ak,arI,jW,tLL,Rdr.e,List.map_cons,List.map_nil,LLe,tL]at*
   by_cases ca:0≤lo
   · by_cases cb:d.per<time-lo
     · simp (disch:=omega) only[go_sem,K.ae,↓reduceIte,cp,va,i1,i2,i3,en,el,ca,cb,gt_iff_lt,aE,List.length_set,Nat.reduceAdd,Nat.reduceSub]
       refine cF _ (lpL _ _ _ _ _ _ _ _ _ _ _ _ _) ?_
       rintro q (⟨_,v0,v3,_,_,_,vr,rest,rfl⟩ | ⟨n,_⟩)
       · simp (disch:=omega) only[go_sem,K.ae,↓reduceIte,scl,Nat.reduceAdd,Nat.reduceSub]
         rfl
       · rw[n]at bq;cases bq
     · simp (disch:=omega) only[go_sem,K.ae,↓reduceIte,cp,va,i1,i2,i3,en,el,ca,cb,gt_iff_lt,aE,List.length_set,Nat.reduceAdd,Nat.reduceSub]
       refine cF _ (lpL _ _ _ _ _ _ _ _ _ _ _ _ _) ?_
       rintro q (⟨_,v0,v3,_,_,_,vr,rest,rfl⟩ | ⟨n,_⟩)
       · simp (disch:=omega) only[go_sem,K.ae,↓reduceIte,scl,Nat.reduceAdd,Nat.reduceSub]
         rfl
       · rw[n]at bq;cases bq
   · simp (disch:=omega) only[go_sem,K.ae,↓reduceIte,cp,va,i1,i2,i3,en,el,ca,gt_iff_lt,aE,List.length_set,Nat.reduceAdd,Nat.reduceSub]
     refine cF _ (lpL _ _ _ _ _ _ _ _ _ _ _ _ _) ?_
     rintro q (⟨_,v0,v3,_,_,_,vr,rest,rfl⟩ | ⟨n,_⟩)
     · simp (disch:=omega) only[go_sem,K.ae,↓reduceIte,scl,Nat.reduceAdd,Nat.reduceSub]
       rfl
     · rw[n]at bq;cases bq
 · rw[if_neg bq]
   have qa:(x.numbers.set 2 ((nu+if 0≤lo∧d.per<x.time-lo then 2 else 1).tmod 65536)).length=x.numbers.length:=List.length_set ..
   generalize hg:aD x.people d.pl m x.tags x.people.length=g at*
   obtain⟨q,hq,hQ⟩:=lpL (arI (x.numbers.set 2 ((nu+if 0≤lo∧d.per<x.time-lo then 2 else 1).tmod 65536))) (arI (x.looked.set 2 x.time)) ((nu+if 0≤lo∧d.per<x.time-lo then 2 else 1).tmod 65536) (.t x.e) (I off) (I 0) (if 0≤lo∧d.per<x.time-lo then I 2 else I 1) (I ((nu+if 0≤lo∧d.per<x.time-lo then 2 else 1).tmod 65536)) .und .und .und .und .und
   rcases hQ with⟨n,_⟩ | ⟨_,st,⟨W,wl2,hb,rfl⟩,rfl⟩
   · exact absurd n bq
   rw[hg]at hq
   generalize bB _ p3 _=w at*
   rcases W with _ | ⟨w1,_ | ⟨w2,_ | ⟨w3,_ | ⟨w4,W⟩⟩⟩⟩
   · obtain⟨⟨places,roads⟩,time,people,tags,readers,numbers,looked,missed⟩:=x
     subst e1 e2
     simp only[az,Tru.e,Tru.cs,iN,ak,arI,jW,tLL,Rdr.e,List.cons_append,List.nil_append,List.map_cons,List.map_nil,LLe,tL,Nat.reduceAdd,Nat.reduceSub,List.length_cons,List.length_nil]at*
     by_cases ca:0≤lo
     · by_cases cb:d.per<time-lo
       · simp only[if_pos (And.intro ca cb)]at hq ⊢
         simp (disch:=omega) only[go_sem,K.ae,↓reduceIte,cp,va,i1,i2,i3,en,el,ca,cb,gt_iff_lt,aE,hq,so,sol,wl,scl,List.length_set,Nat.reduceAdd,Nat.reduceSub]
       · simp only[if_neg (fun e:0≤lo∧d.per<time-lo=>cb e.2)]at hq ⊢
         simp (disch:=omega) only[go_sem,K.ae,↓reduceIte,cp,va,i1,i2,i3,en,el,ca,cb,gt_iff_lt,aE,hq,so,sol,wl,scl,List.length_set,Nat.reduceAdd,Nat.reduceSub]
     · simp only[if_neg (fun e:0≤lo∧d.per<time-lo=>ca e.1)]at hq ⊢
       simp (disch:=omega) only[go_sem,K.ae,↓reduceIte,cp,va,i1,i2,i3,en,el,ca,gt_iff_lt,aE,hq,so,sol,wl,scl,List.length_set,Nat.reduceAdd,Nat.reduceSub]
   · obtain⟨⟨places,roads⟩,time,people,tags,readers,numbers,looked,missed⟩:=x
     subst e1 e2
     simp only[az,Tru.e,Tru.cs,iN,ak,arI,jW,tLL,Rdr.e,List.cons_append,List.nil_append,List.map_cons,List.map_nil,LLe,tL,Nat.reduceAdd,Nat.reduceSub,List.length_cons,List.length_nil]at*
     by_cases ca:0≤lo
     · by_cases cb:d.per<time-lo
       · simp only[if_pos (And.intro ca cb)]at hq ⊢
         simp (disch:=omega) only[go_sem,K.ae,↓reduceIte,cp,va,i1,i2,i3,en,el,ca,cb,gt_iff_lt,aE,hq,so,sol,wl,scl,List.length_set,Nat.reduceAdd,Nat.reduceSub]
       · simp only[if_neg (fun e:0≤lo∧d.per<time-lo=>cb e.2)]at hq ⊢
         simp (disch:=omega) only[go_sem,K.ae,↓reduceIte,cp,va,i1,i2,i3,en,el,ca,cb,gt_iff_lt,aE,hq,so,sol,wl,scl,List.length_set,Nat.reduceAdd,Nat.reduceSub]
     · simp only[if_neg (fun e:0≤lo∧d.per<time-lo=>ca e.1)]at hq ⊢
       simp (disch:=omega) only[go_sem,K.ae,↓reduceIte,cp,va,i1,i2,i3,en,el,ca,gt_iff_lt,aE,hq,so,sol,wl,scl,List.length_set,Nat.reduceAdd,Nat.reduceSub]
   · obtain⟨⟨places,roads⟩,time,people,tags,readers,numbers,looked,missed⟩:=x
     subst e1 e2
     simp only[az,Tru.e,Tru.cs,iN,ak,arI,jW,tLL,Rdr.e,List.cons_append,List.nil_append,List.map_cons,List.map_nil,LLe,tL,Nat.reduceAdd,Nat.reduceSub,List.length_cons,List.length_nil]at*
     by_cases ca:0≤lo
     · by_cases cb:d.per<time-lo
       · simp only[if_pos (And.intro ca cb)]at hq ⊢
         simp (disch:=omega) only[go_sem,K.ae,↓reduceIte,cp,va,i1,i2,i3,en,el,ca,cb,gt_iff_lt,aE,hq,so,sol,wl,scl,List.length_set,Nat.reduceAdd,Nat.reduceSub]
       · simp only[if_neg (fun e:0≤lo∧d.per<time-lo=>cb e.2)]at hq ⊢
         simp (disch:=omega) only[go_sem,K.ae,↓reduceIte,cp,va,i1,i2,i3,en,el,ca,cb,gt_iff_lt,aE,hq,so,sol,wl,scl,List.length_set,Nat.reduceAdd,Nat.reduceSub]
     · simp only[if_neg (fun e:0≤lo∧d.per<time-lo=>ca e.1)]at hq ⊢
       simp (disch:=omega) only[go_sem,K.ae,↓reduceIte,cp,va,i1,i2,i3,en,el,ca,gt_iff_lt,aE,hq,so,sol,wl,scl,List.length_set,Nat.reduceAdd,Nat.reduceSub]
   · obtain⟨⟨places,roads⟩,time,people,tags,readers,numbers,looked,missed⟩:=x
     subst e1 e2
     simp only[az,Tru.e,Tru.cs,iN,ak,arI,jW,tLL,Rdr.e,List.cons_append,List.nil_append,List.map_cons,List.map_nil,LLe,tL,Nat.reduceAdd,Nat.reduceSub,List.length_cons,List.length_nil]at*
     by_cases ca:0≤lo
     · by_cases cb:d.per<time-lo
       · simp only[if_pos (And.intro ca cb)]at hq ⊢
         simp (disch:=omega) only[go_sem,K.ae,↓reduceIte,cp,va,i1,i2,i3,en,el,ca,cb,gt_iff_lt,aE,hq,so,sol,wl,scl,List.length_set,Nat.reduceAdd,Nat.reduceSub]
       · simp only[if_neg (fun e:0≤lo∧d.per<time-lo=>cb e.2)]at hq ⊢
         simp (disch:=omega) only[go_sem,K.ae,↓reduceIte,cp,va,i1,i2,i3,en,el,ca,cb,gt_iff_lt,aE,hq,so,sol,wl,scl,List.length_set,Nat.reduceAdd,Nat.reduceSub]
     · simp only[if_neg (fun e:0≤lo∧d.per<time-lo=>ca e.1)]at hq ⊢
       simp (disch:=omega) only[go_sem,K.ae,↓reduceIte,cp,va,i1,i2,i3,en,el,ca,gt_iff_lt,aE,hq,so,sol,wl,scl,List.length_set,Nat.reduceAdd,Nat.reduceSub]
   · simp only[List.length_cons]at wl2;omega
theorem Dq(m:bV)(k:Nat)(hk:k<m.roads.length)(hl:m.roads.length≤1000000)(p:Int)(hp:(nth m.roads k).frm=p∨(nth m.roads k).to=p):aX 0 N.dW [.t m.e,I k,I p] []=some (I (tN m k p),[]):=by
 refine aO K.ku rfl ?_
 have e:Int.toNat (k:Int)=k:=rfl
 unfold tN
 rw[e]
 have ex:(m.roads.map Road.e)[k]?=some (nth m.roads k).e:=aU _ hk
 generalize nth m.roads k=q at*
 obtain⟨places,roads⟩:=m
 obtain⟨q1,q2,q3,q4,q5,q6,q7,q8,q9,q10⟩:=q
 simp only at*
 by_cases d:p=q1
 · simp (disch:=omega) only[go_sem,K.dW,↓reduceIte,ex,d,Nat.reduceAdd,Nat.reduceSub]
 · have d2:p=q2:=by
    rcases hp with h | h
    · exact absurd h.symm d
    · exact h.symm
   simp (disch:=omega) only[go_sem,K.dW,↓reduceIte,ex,d,d2,Nat.reduceAdd,Nat.reduceSub]
abbrev ttH(x:Tru)(s:Int)(l:List Wlk)(z:List D):ag:=[.box (x.cs.map .t),.box z,.arr 3 false 0 ((l.map Wlk.e).map .t),.arr 4 false 0 ((x.readers.map Rdr.e).map .t),.arr 1 false 0 ((x.missed.map LLe).map .t),.box [.t (.sl (x.iT.places.map Place.e)),.t (.sl (x.iT.roads.map Road.e)),I (x.time+s),.ref 2 0 l.length,.t (tL x.tags),.ref 3 0 x.readers.length,.t (tL x.numbers),.t (tL x.looked),.ref 4 0 x.missed.length]]
theorem Dr{x:Tru}(h:x.ok)(s:Int):aX 0 N.cQ [.t x.e,I s] []=some (.tup [.t (vB x s).1.e,I (vB x s).2],[]):=by
 refine aO K.kq rfl ?_
 have sz:=h.sz
 have cp:=pR x sz
 have va:=gz h
 have n3:=h.n3
 have t0:=h.t0
 have t1:=h.t1
 have nr:=h.m.nr
 have i1:=eP s 0 3600
 unfold vB
 by_cases d1:s<0∨3600<s
 · rw[if_pos d1]
   rw[decide_eq_false (by omega)]at i1
   have sc:∀j:Int,([D.t x.e,I j].all cG)=false:=fun _=>rfl
   obtain⟨⟨places,roads⟩,time,people,tags,readers,numbers,looked,missed⟩:=x
   simp only[Tru.e,Tru.cs,xZ,qR,qS,List.map_cons,List.map_nil,LLe,tL]at*
   simp (disch:=omega) only[go_sem,K.cQ,↓reduceIte,cp,va,sc,i1,Nat.reduceAdd,Nat.reduceSub]
 · rw[if_neg d1]
   rw[decide_eq_true (by omega)]at i1
   have s0:0≤s:=by omega
   have s1:s≤3600:=by omega
   by_cases d4:2147483648<x.time+s
   · rw[if_pos d4]
     have sc:∀j:Int,([D.t x.e,I j].all cG)=false:=fun _=>rfl
     obtain⟨⟨places,roads⟩,time,people,tags,readers,numbers,looked,missed⟩:=x
     simp only[Tru.e,Tru.cs,xZ,qR,qS,List.map_cons,List.map_nil,LLe,tL]at*
     simp (disch:=omega) only[go_sem,K.cQ,↓reduceIte,cp,va,sc,i1,d4,gt_iff_lt,Nat.reduceAdd,Nat.reduceSub]
   · rw[if_neg d4]
     have sc:([D.t (Tru.e { x with time:=x.time+s,people:=x.people.map (kv x.iT s)}),I 0].all cG)=false:=rfl
     have lp1:∀z0 z4 z6 z7:D,exS aX K.mN ⟨[z0,I s,.bp 0 0,.bp 1 0,z4,.bp 5 0,z6,z7,.ref 2 0 x.people.length,I x.people.length,I 0],ttH x s x.people az⟩=
      some (.exit 1,⟨[.und,I s,.bp 0 0,.bp 1 0,.und,.bp 5 0,.und,.und,.ref 2 0 x.people.length,I x.people.length,I x.people.length],ttH x s (x.people.map (kv x.iT s)) az⟩):=by
      intro z0 z4 z6 z7
      refine fy (fun j=>⟨[.und,I s,.bp 0 0,.bp 1 0,.und,.bp 5 0,.und,.und,.ref 2 0 x.people.length,I x.people.length,I j],ttH x s (x0 (kv x.iT s) x.people j) az⟩) x.people.length rfl ?_ ?_ (by simp)
      · intro j hj
        have wo:=h.w _ (bA hj)
        have rd:=wo.kR
        rw[AK _ _ _ hj]
        have ln:=Dm (kv x.iT s) x.people j
        have gt:=Dn (kv x.iT s) x.people j
        have lj:j<(x0 (kv x.iT s) x.people j).length:=by omega
        rw[← gt]at rd ⊢
        generalize x0 (kv x.iT s) x.people j=q at*
        have ex:((q.map Wlk.e).map D.t)[j]?=some (.t (nth q j).e):=by rw[List.getElem?_map,aU _ lj];rfl
        have g1:=fun w=>Pr q j lj w
        by_cases c1:(nth q j).kR= -1
        · have e0:q.set j (kv x.iT s (nth q j))=q:=by
           unfold kv
           rw[if_pos c1,eH (List.getElem?_eq_getElem lj),List.set_getElem_self]
          rw[e0]
          obtain⟨⟨places,roads⟩,time,people,tags,readers,numbers,looked,missed⟩:=x
          simp only[ttH,az,Tru.cs,List.map_cons,List.map_nil,LLe,tL]at*
          simp (disch:=omega) only[go_sem,K.fm,↓reduceIte,c1,ln,ex,Nat.reduceAdd,Nat.reduceSub]
        · obtain⟨r0,r1,r2,r3,r4⟩:=rd c1
          obtain⟨k,hk⟩:=Int.eq_ofNat_of_zero_le r0
          have oo:=Dq x.iT k (by rw[hk]at r1;omega) (by omega) (nth q j).place (by rw[hk]at r2;exact r2)
          unfold kv
          rw[if_neg c1]
          rw[← hk]at oo
          generalize tN x.iT (nth q j).kR (nth q j).place=ot at*
          obtain⟨⟨places,roads⟩,time,people,tags,readers,numbers,looked,missed⟩:=x
          generalize nth q j=y at*
          obtain⟨y1,y2,y3⟩:=y
          simp only[ttH,az,Tru.cs,List.map_cons,List.map_nil,LLe,tL]at*
          by_cases c2:y3-s≤0
          · simp (disch:=omega) only[go_sem,K.fm,↓reduceIte,c1,c2,oo,ex,Jf,g1,List.set_set,List.length_set,ln,Nat.reduceAdd,Nat.reduceSub]
          · simp (disch:=omega) only[go_sem,K.fm,↓reduceIte,c1,c2,ex,Jf,g1,List.set_set,List.length_set,ln,Nat.reduceAdd,Nat.reduceSub]
      · rw[Dl]
        obtain⟨⟨places,roads⟩,time,people,tags,readers,numbers,looked,missed⟩:=x
        simp only[ttH,az,Tru.cs,List.map_cons,List.map_nil,LLe,tL]at*
        simp (disch:=omega) only[go_sem,K.fm,↓reduceIte,List.length_map,Nat.reduceAdd,Nat.reduceSub]
     obtain⟨⟨places,roads⟩,time,people,tags,readers,numbers,looked,missed⟩:=x
     simp only[ttH,az,Tru.e,Tru.cs,xZ,qR,qS,List.map_cons,List.map_nil,LLe,tL]at*
     simp (disch:=omega) only[go_sem,K.cQ,↓reduceIte,cp,va,sc,i1,d4,lp1,gt_iff_lt,List.length_map,Nat.reduceAdd,Nat.reduceSub]
theorem vC{x:Tru}(h:x.ok)(i:Int):aX 0 N.bX [.t x.e,.t (.sl [tI i])] []=some (I (if 0≤i∧i<x.people.length then 0 else 19),[]):=by
 refine aO K.im rfl ?_
 have sz:=h.sz
 have va:=gz h
 have n3:=h.n3
 have i1:=eP i 0 ((x.people.length:Int)-1)
 obtain⟨⟨places,roads⟩,time,people,tags,readers,numbers,looked,missed⟩:=x
 simp only[Tru.e,Tru.cs,List.map_cons,List.map_nil,LLe,tL]at*
 by_cases c:0≤i∧i<people.length
 · rw[decide_eq_true (by omega)]at i1
   rw[if_pos c]
   simp (disch:=omega) only[go_sem,K.bX,↓reduceIte,va,Nat.reduceAdd,Nat.reduceSub]
   apply ft
   · apply gn
     apply bT
     · simp (disch:=omega) only[go_sem,K.eU,↓reduceIte,dj,List.set_cons_zero,List.set_cons_succ,i1,Int.reduceAdd,Int.reduceToNat,List.getElem?_cons_succ,List.getElem?_cons_zero,Nat.reduceAdd,Nat.reduceSub]
       rfl
     apply bC
     · simp (disch:=omega) only[go_sem,K.eU,↓reduceIte,Int.reduceAdd,Nat.reduceAdd,Nat.reduceSub]
       rfl
     · simp
   simp (disch:=omega) only[go_sem,K.bX,↓reduceIte,Nat.reduceAdd,Nat.reduceSub]
 · rw[decide_eq_false (by omega)]at i1
   rw[if_neg c]
   simp (disch:=omega) only[go_sem,K.bX,↓reduceIte,va,Nat.reduceAdd,Nat.reduceSub]
   apply ft
   · apply gn
     apply bC
     · simp (disch:=omega) only[go_sem,K.eU,↓reduceIte,dj,List.set_cons_zero,List.set_cons_succ,i1,Int.reduceAdd,Int.reduceToNat,List.getElem?_cons_succ,List.getElem?_cons_zero,Nat.reduceAdd,Nat.reduceSub]
       rfl
     · simp
   simp (disch:=omega) only[go_sem,K.bX,↓reduceIte,Nat.reduceAdd,Nat.reduceSub]
theorem tO{x:Tru}(h:x.ok)(i r s:Int):aX 0 N.cj [.t x.e,I i,I r,I s] []=some (.tup [.t (mS x i r s).1.e,I (mS x i r s).2],[]):=by
 refine aO K.jL rfl ?_
 have sz:=h.sz
 have cp:=pR x sz
 have ch:=vC h i
 have n3:=h.n3
 have i1:=eP s 0 3600
 unfold mS
 by_cases c:0≤i∧i<x.people.length
 · rw[if_pos c]
   rw[if_pos c]at ch
   obtain⟨k,rfl⟩:=Int.eq_ofNat_of_zero_le c.1
   have ck:k<x.people.length:=by omega
   simp only[Int.ofNat_eq_natCast,Int.toNat_natCast]at*
   have wo:=h.w _ (bA ck)
   have wr:(nth x.people k).kR= -1∨0≤(nth x.people k).kR:=by
    rcases wo.2 with h | h
    · exact .inl h.1
    · exact .inr h.1
   have wa:=tM h.m r (nth x.people k).place
   have wb:=qQ h.m r (nth x.people k).place
   generalize fW x.iT r (nth x.people k).place=v at*
   have ex:(x.people.map Wlk.e)[k]?=some (nth x.people k).e:=aU _ ck
   unfold mR
   have ex2:((x.people.map Wlk.e).map D.t)[k]?=some (.t (nth x.people k).e):=by rw[List.getElem?_map,ex];rfl
   have g1:=Pr x.people k ck
   have sc:∀j:Int,([D.t x.e,I j].all cG)=false:=fun _=>rfl
   have sc0:∀w:Wlk,([D.t (Tru.e { x with people:=x.people.set k w}),I 0].all cG)=false:=fun _=>rfl
   obtain⟨⟨places,roads⟩,time,people,tags,readers,numbers,looked,missed⟩:=x
   simp only[Tru.e,Tru.cs,xZ,qR,qS,List.map_cons,List.map_nil,LLe,tL]at*
   generalize nth people k=y at*
   obtain⟨y1,y2,y3⟩:=y
   by_cases d:y2= -1
   · subst d
     by_cases d2:v<0
     · simp (disch:=omega) only[go_sem,K.cj,↓reduceIte,cp,ch,ex,sc,wa,d2,Nat.reduceAdd,Nat.reduceSub]
     · by_cases d4:s<0∨3600<s
       · rw[decide_eq_false (by omega)]at i1
         simp (disch:=omega) only[go_sem,K.cj,↓reduceIte,cp,ch,ex,sc,wa,d2,d4,i1,Nat.reduceAdd,Nat.reduceSub]
       · rw[decide_eq_true (by omega)]at i1
         simp (disch:=omega) only[go_sem,K.cj,↓reduceIte,cp,ch,ex,ex2,sc0,wa,d2,d4,i1,Jf,g1,List.set_set,List.length_set,Nat.reduceAdd,Nat.reduceSub]
   · have d0:0≤y2:=by
      rcases wr with h | h
      · exact absurd h d
      · exact h
     simp (disch:=omega) only[go_sem,K.cj,↓reduceIte,cp,ch,ex,d,d0,wa,sc,Nat.reduceAdd,Nat.reduceSub]
 · rw[if_neg c]
   rw[if_neg c]at ch
   have sc:([D.t x.e,I 19].all cG)=false:=rfl
   obtain⟨⟨places,roads⟩,time,people,tags,readers,numbers,looked,missed⟩:=x
   simp only[Tru.e,Tru.cs,List.map_cons,List.map_nil,LLe,tL]at*
   simp (disch:=omega) only[go_sem,K.cj,↓reduceIte,ch,sc,Nat.reduceAdd,Nat.reduceSub]
theorem Dt{α:Type}{l:List α}{i:Nat}{a b:α}(h:b∈l.set i a):b∈l∨b=a:=by
 induction l generalizing i with
 | nil=>simp at h
 | cons c l ih=>
   cases i with
   | zero=>simp only[List.set_cons_zero,List.mem_cons]at h;rcases h with h | h<;>simp[h]
   | succ i=>
     simp only[List.set_cons_succ,List.mem_cons]at h
     rcases h with h | h
     · simp[h]
     · rcases ih h with h | h
       · exact .inl (List.mem_cons_of_mem _ h)
       · exact .inr h
theorem Tru.ok.ppl{x:Tru}(h:x.ok)(l:List Wlk)(hl:l.length=x.people.length)(hw:∀w∈l,w.ok x.iT)(t:Int)(h0:x.time≤t)(h1:t≤2147483648):Tru.ok { x with people:=l,time:=t}:=by
 obtain⟨a,b,c,d,e,f,g,i,j,k,m,n,o,p,q,r,s⟩:=h
 refine⟨a,b,c,d,by rw[hl];exact e,by rw[hl];exact f,hw,by rw[hl];exact i,j,Int.le_trans k h0,h1,n,o,p,fun v hv=>?_,fun v hv=>by rw[hl];exact r v hv,fun v hv u hu=>s v hv u (by rw[← hl];exact hu)⟩
 have:=q v hv
 have h0':x.time≤({ x with people:=l,time:=t}:Tru).time:=h0
 refine⟨this.1,⟨this.2.1.1,Int.le_trans this.2.1.2 h0'⟩,this.2.2⟩
theorem Tru.ok.W6{x:Tru}(h:x.ok)(i:Nat)(w:Wlk)(hw:w.ok x.iT):(mR x i w).ok:=by
 have:=h.ppl (x.people.set i w) (List.length_set ..) (fun v hv=>by
  rcases Dt hv with h2 | h2
  · exact h.w v h2
  · rw[h2];exact hw) x.time (Int.le_refl _) h.t1
 exact this
theorem tP{m:bV}(h:m.ok)(k:Nat)(hk:k<m.roads.length)(back:Bool):iR m k back 6 9 12= -1∨1≤iR m k back 6 9 12:=by
 have l0:=(h.rs _ (bA hk)).l0
 unfold iR
 simp only
 split
 · exact .inl rfl
 · right
   generalize hs:(if -10*_>(nth m.roads k).len then(9:Int)else _)=s
   have h1:1≤s∧s≤12:=by
    rw[← hs]
    split
    · omega
    · split<;>omega
   rw[Int.tdiv_eq_ediv_of_nonneg (by omega)]
   exact(Int.le_ediv_iff_mul_le (by omega)).2 (by omega)
theorem vD{m:bV}(h:m.ok)(r p:Int)(h0:0≤fW m r p):0≤r∧1≤fW m r p:=by
 unfold fW at h0 ⊢
 by_cases c:0≤r∧r<m.roads.length
 · rw[if_pos c]at h0 ⊢
   refine⟨c.1,?_⟩
   have a:=tP h r.toNat (by omega) false
   have b:=tP h r.toNat (by omega) true
   split at h0
   · rw[if_pos (by assumption)];omega
   · split at h0
     · rw[if_neg (by assumption),if_pos (by assumption)];omega
     · omega
 · rw[if_neg c]at h0;omega
theorem tQ{x:Tru}(h:x.ok)(i r s:Int):(mS x i r s).1.ok:=by
 unfold mS
 split
 · split
   · split
     · exact h
     · split
       · exact h
       · next c d e f=>
         have wo:=h.w _ (bA (show i.toNat<x.people.length by omega))
         have lv:=qQ h.m r (nth x.people i.toNat).place
         have l1:=vD h.m r (nth x.people i.toNat).place (by omega)
         refine h.W6 _ _ ⟨wo.1,.inr ⟨l1.1,by simpa using e,?_,?_⟩⟩
         · simp only;omega
         · simp only;omega
   · exact h
 · exact h
theorem Du{m:bV}(hm:m.ok){w:Wlk}(h:w.ok m)(s:Int)(h0:0≤s):(kv m s w).ok m:=by
 unfold kv
 split
 · exact h
 · next c=>
   obtain⟨r0,r1,r2,r3,r4⟩:=h.kR c
   split
   · refine⟨?_,.inl ⟨rfl,rfl⟩⟩
     have ro:=hm.rs _ (bA (show w.kR.toNat<m.roads.length by omega))
     have:=ro.f0;have:=ro.f1;have:=ro.t0;have:=ro.t1
     unfold tN
     split<;>simp only<;>omega
   · refine⟨h.1,.inr ?_⟩
     rcases h.2 with h2 | h2
     · exact absurd h2.1 c
     · exact⟨h2.1,h2.2.1,by simp only;omega,by simp only;omega⟩
theorem Dv{x:Tru}(h:x.ok)(s:Int):(vB x s).1.ok:=by
 unfold vB
 split
 · exact h
 · split
   · exact h
   · refine h.ppl _ (List.length_map ..) (fun w hw=>?_) _ (by omega) (by omega)
     obtain⟨v,hv,rfl⟩:=List.mem_map.1 hw
     exact Du h.m (h.w v hv) s (by omega)
theorem AZ{x:Tru}(h:x.ok){k:Nat}(hk:k<x.readers.length):0≤rR x k∧rR x k≤65535:=by
 have:=(h.nb k hk).1
 unfold rR
 have e:∀y:Int,0≤y→0≤y.tmod 65536∧y.tmod 65536≤65535:=fun y hy=>by
  rw[Int.tmod_eq_emod_of_nonneg hy];omega
 split<;>exact e _ (by omega)
theorem Dw{x:Tru}(h:x.ok){k:Nat}(hk:k<x.readers.length)(m:Int)(hb:p9 x k m=false):(kS x k m).ok:=by
 have nt:=AZ h hk
 have row:=fun i hi=>AL (c8 x.people (nth x.readers k).pl m (nth x.missed k)) (nth x.missed k) x.people.length i hi (by rw[h.m2 k hk];exact hi)
 have rl:=ef (c8 x.people (nth x.readers k).pl m (nth x.missed k)) (nth x.missed k) x.people.length
 unfold kS
 generalize rR x k=nu at*
 have mbk:=h.mb k hk
 have bd:∀i,i<x.people.length→0≤nth (bB (c8 x.people (nth x.readers k).pl m (nth x.missed k)) (nth x.missed k) x.people.length) i∧nth (bB (c8 x.people (nth x.readers k).pl m (nth x.missed k)) (nth x.missed k) x.people.length) i≤(nth x.readers k).miss:=fun i hi=>by
  rw[row i hi]
  have mi:=mbk i hi
  unfold p9 at hb
  rw[List.any_eq_false]at hb
  have hbi:=hb i (List.mem_range.2 hi)
  have rm:=(h.r _ (bA hk)).m1
  unfold c8
  unfold fv at hbi
  by_cases c:(cH x.people (nth x.readers k).pl i&&eX m i)=true
  · rw[c]at hbi
    rw[if_pos c]
    simp at hbi
    omega
  · rw[if_neg c];omega
 generalize bB _ _ _=w at*
 obtain⟨a,b,c,d,e,f,g,i,j,k1,k2,n,o,p,q,r,s⟩:=h
 refine⟨a,b,c,d,e,f,g,i,j,k1,k2,by rw[List.length_set];exact n,by rw[List.length_set];exact o,by rw[List.length_set];exact p,fun v hv=>?_,fun v hv=>?_,fun v hv u hu=>?_⟩
 · by_cases c1:v=k
   · subst c1
     rw[aV (by omega),aV (by omega)]
     simp only
     omega
   · rw[gV (fun e=>c1 e.symm),gV (fun e=>c1 e.symm)]
     exact q v hv
 · by_cases c1:v=k
   · subst c1
     rw[aV (by omega),rl]
     exact r v hv
   · rw[gV (fun e=>c1 e.symm)]
     exact r v hv
 · by_cases c1:v=k
   · subst c1
     rw[aV (by omega)]
     exact bd u hu
   · rw[gV (fun e=>c1 e.symm)]
     exact s v hv u hu
abbrev Dx:Tru:=⟨⟨[],[]⟩,0,[],[],[],[],[],[]⟩
abbrev stW(p:Int):Wlk:=⟨p, -1,0⟩
def oe(m:bV)(l:List Rdr)(at' tags:List Int)(t:Int):Tru:=
 ⟨m,t,at'.map stW,tags,l,List.replicate l.length (-1),List.replicate l.length (-1),List.replicate l.length (List.replicate at'.length 0)⟩
def tR(m:bV)(l:List Rdr)(at' tags:List Int)(t:Int):Tru×Int:=
 if tK m l=false∨¬(1≤(at'.length:Int)∧(at'.length:Int)≤12)∨tags.length≠at'.length then(Dx,6)
 else if(at'.any fun p=> !decide (0≤p∧p≤(m.places.length:Int)-1))=true then(Dx,3)
 else if fA tags=false then(Dx,41)
 else if ¬(0≤t∧t≤2147483648)then(Dx,8)
 else(oe m l at' tags t,0)
abbrev nsH(m:bV)(l:List Rdr)(at' tags:List Int)(t:Int)(ps:List Wlk)(a b:List Int)(c:List (List Int)):ag:=[.box (aH m),.box az,.box [.t (.sl (m.places.map Place.e)),.t (.sl (m.roads.map Road.e)),I t,.ref 7 0 ps.length,.t (tL tags),.t (.sl (l.map Rdr.e)),.ref 8 0 a.length,.ref 9 0 b.length,.ref 10 0 c.length],.arr 3 false 0 [],.arr 1 false 0 [],.arr 1 false 0 [],.arr 1 false 0 [],.arr 3 false 0 ((ps.map Wlk.e).map .t),.arr 1 false 0 ((a.map (T.int .i64)).map .t),.arr 1 false 0 ((b.map (T.int .i64)).map .t),.arr 1 false 0 ((c.map LLe).map .t)]
theorem tS{α:Type}(n:Nat)(a:α):List.replicate (n+1) a=List.replicate n a++[a]:=List.replicate_succ'
theorem A0(n:Nat):(List.replicate n (0:Int)).map (T.int .i64)=List.replicate n (T.int .i64 0):=List.map_replicate
theorem A1{m:bV}(hm:m.ok)(l:List Rdr)(at' tags:List Int)(t:Int)(hl:l.length≤1000000)(h2:∀y∈l,y.pl.length≤1000000)(ha:at'.length≤1000000)(ht:tags.length≤1000000):(oe m l at' tags t).sz:=by
 have np:=hm.np
 have nr:=hm.nr
 unfold oe
 refine⟨by simp only;omega,by simp only;omega,by simp only[List.length_map];omega,ht,hl,h2,by simp only[List.length_replicate];omega,by simp only[List.length_replicate];omega,by simp only[List.length_replicate];omega,fun y hy=>?_⟩
 simp only[List.mem_replicate]at hy
 rw[hy.2,List.length_replicate]
 omega
theorem Pu(m:bV)(hp:m.places.length≤1000000)(p:Int):aX 0 N.b7 [I p,.bp 0 0] [.box (aH m)]=some (B (!decide (0≤p∧p≤(m.places.length:Int)-1)),[.box (aH m)]):=by
 have i:=eP p 0 ((m.places.length:Int)-1)
 refine aO K.il rfl ?_
 obtain⟨places,roads⟩:=m
 simp only[aH]at*
 generalize decide (0≤p∧p≤(places.length:Int)-1)=b at*
 simp (disch:=omega) only[go_sem,K.b7,↓reduceIte,i,Nat.reduceAdd,Nat.reduceSub]
theorem UW(m:bV)(at':List Int)(ha:at'.length≤1000000)(hp:m.places.length≤1000000):aX 0 N.aF [.t (tL at'),.fn N.b7 [.bp 0 0]] [.box (aH m)]=some (B (at'.any fun p=> !decide (0≤p∧p≤(m.places.length:Int)-1)),[.box (aH m)]):=
 kj at' (by omega) N.b7 [[.sl (m.places.map Place.e),.sl (m.roads.map Road.e)]] (fun p=> !decide (0≤p∧p≤(m.places.length:Int)-1)) (fun p _=>Pu m hp p)
theorem A2{m:bV}(hm:m.ok)(l:List Rdr)(at' tags:List Int)(t:Int)(hl:l.length≤1000000)(h2:∀y∈l,y.pl.length≤1000000)(ha:at'.length≤1000000)(ht:tags.length≤1000000):
 aX 0 N.bN [.t m.e,.t (.sl (l.map Rdr.e)),.t (tL at'),.t (tL tags),I t] []=some (.tup [.t (tR m l at' tags t).1.e,I (tR m l at' tags t).2],[]):=by
 refine aO K.jK rfl ?_
 have va:=qO hm l hl h2
 have i1:=eP (at'.length:Int) 1 12
 have i2:=eP t 0 2147483648
 have tg:=qP tags ht
 have np:=hm.np
 have cf:=UW m at' ha (by omega)
 have cp:=vA _ (A1 hm l at' tags t hl h2 ha ht)
 have tk:at'.take at'.length=at':=List.take_length
 have lp1:∀z0 z2 z3 z4 z5 z7 z10 z14 z15:D,exS aX K.kZ ⟨[z0,.t (.sl (l.map Rdr.e)),z2,z3,z4,z5,.bp 1 0,z7,I at'.length,.bp 2 0,z10,.t (tL at'),I at'.length,I 0,z14,z15],nsH m l at' tags t [] [] [] []⟩=
  some (.exit 1,⟨[.und,.t (.sl (l.map Rdr.e)),.und,.und,.und,.und,.bp 1 0,.und,I at'.length,.bp 2 0,.und,.t (tL at'),I at'.length,I at'.length,.und,.und],nsH m l at' tags t (at'.map stW) [] [] []⟩):=by
  intro z0 z2 z3 z4 z5 z7 z10 z14 z15
  refine fy (fun j=>⟨[.und,.t (.sl (l.map Rdr.e)),.und,.und,.und,.und,.bp 1 0,.und,I at'.length,.bp 2 0,.und,.t (tL at'),I at'.length,I j,.und,.und],nsH m l at' tags t ((at'.take j).map stW) [] [] []⟩) at'.length rfl ?_ ?_ (by simp)
  · intro j hj
    have ex:(at'.map (T.int .i64))[j]?=some (.int .i64 (nth at' j)):=aU _ hj
    have tk:=jF hj
    have tl:(at'.take j).length=j:=by rw[List.length_take];omega
    rw[tk]
    generalize at'.take j=q at*
    generalize nth at' j=y at*
    obtain⟨places,roads⟩:=m
    simp only[nsH,az,aH,List.map_append,List.map_cons,List.map_nil,List.length_append,List.length_map,List.length_cons,List.length_nil]at*
    simp only[tl]
    simp (disch:=omega) only[go_sem,K.ij,↓reduceIte,ex,tl,List.map_append,List.map_cons,List.map_nil,Nat.reduceAdd,Nat.reduceSub]
  · rw[tk]
    obtain⟨places,roads⟩:=m
    simp only[nsH,az,aH,List.map_append,List.map_cons,List.map_nil]at*
    simp (disch:=omega) only[go_sem,K.ij,↓reduceIte,Nat.reduceAdd,Nat.reduceSub]
 have lp2:∀z0 z1 z2 z3 z4 z5 z7 z10 z11 z12 z13:D,exS aX K.lf ⟨[z0,z1,z2,z3,z4,z5,.bp 1 0,z7,I at'.length,.bp 2 0,z10,z11,z12,z13,I l.length,I 0],nsH m l at' tags t (at'.map stW) [] [] []⟩=
  some (.exit 3,⟨[.und,.und,.und,.und,.und,.und,.bp 1 0,.und,I at'.length,.bp 2 0,.und,.und,.und,.und,I l.length,I l.length],nsH m l at' tags t (at'.map stW) (List.replicate l.length (-1)) (List.replicate l.length (-1)) (List.replicate l.length (List.replicate at'.length 0))⟩):=by
  intro z0 z1 z2 z3 z4 z5 z7 z10 z11 z12 z13
  refine fy (fun j=>⟨[.und,.und,.und,.und,.und,.und,.bp 1 0,.und,I at'.length,.bp 2 0,.und,.und,.und,.und,I l.length,I j],nsH m l at' tags t (at'.map stW) (List.replicate j (-1)) (List.replicate j (-1)) (List.replicate j (List.replicate at'.length 0))⟩) l.length rfl ?_ ?_ (by simp)
  · intro j hj
    rw[tS,tS]
    have r1:(List.replicate j (-1:Int)).length=j:=List.length_replicate
    have r2:(List.replicate j (List.replicate at'.length (0:Int))).length=j:=List.length_replicate
    have r3:=A0 at'.length
    generalize List.replicate j (-1:Int)=q1 at*
    generalize List.replicate j (List.replicate at'.length (0:Int))=q2 at*
    obtain⟨places,roads⟩:=m
    simp only[nsH,az,aH,List.map_append,List.map_cons,List.map_nil,List.length_append,List.length_map,List.length_cons,List.length_nil,LLe]at*
    simp only[r1,r2,r3]
    simp (disch:=omega) only[go_sem,K.ik,↓reduceIte,r1,r2,List.map_append,List.map_cons,List.map_nil,Nat.reduceAdd,Nat.reduceSub]
  · obtain⟨places,roads⟩:=m
    simp only[nsH,az,aH,List.map_append,List.map_cons,List.map_nil]at*
    simp (disch:=omega) only[go_sem,K.ik,↓reduceIte,Nat.reduceAdd,Nat.reduceSub]
 unfold tR
 by_cases c1:tK m l=false∨¬(1≤(at'.length:Int)∧(at'.length:Int)≤12)∨tags.length≠at'.length
 · rw[if_pos c1]
   cases hb:tK m l with
   | false=>
     rw[hb]at va
     obtain⟨places,roads⟩:=m
     simp only[aH]at*
     simp (disch:=omega) only[go_sem,K.bN,↓reduceIte,va,Nat.reduceAdd,Nat.reduceSub]
     rfl
   | true=>
     rw[hb]at va
     by_cases c2:tags.length=at'.length
     · have c3:¬(1≤(at'.length:Int)∧(at'.length:Int)≤12):=by
        rcases c1 with c | c | c
        · rw[hb]at c;cases c
        · exact c
        · exact absurd c2 c
       rw[decide_eq_false c3]at i1
       obtain⟨places,roads⟩:=m
       simp only[aH]at*
       simp (disch:=omega) only[go_sem,K.bN,↓reduceIte,va,c2,i1,Nat.reduceAdd,Nat.reduceSub]
       rfl
     · obtain⟨places,roads⟩:=m
       simp only[aH]at*
       simp (disch:=omega) only[go_sem,K.bN,↓reduceIte,va,c2,Nat.reduceAdd,Nat.reduceSub]
       rfl
 · rw[if_neg c1]
   simp only[not_or,Bool.not_eq_false,Decidable.not_not,ne_eq]at c1
   obtain⟨c0,c2,c3⟩:=c1
   rw[c0]at va
   rw[decide_eq_true c2]at i1
   cases hc:at'.any fun p=> !decide (0≤p∧p≤(m.places.length:Int)-1)with
   | true=>
     rw[hc]at cf
     rw[if_pos rfl]
     obtain⟨places,roads⟩:=m
     simp only[aH]at*
     simp (disch:=omega) only[go_sem,K.bN,↓reduceIte,va,c3,i1,cf,Nat.reduceAdd,Nat.reduceSub]
     rfl
   | false=>
     rw[hc]at cf
     rw[if_neg (by simp)]
     cases ht:fA tags with
     | false=>
       rw[ht]at tg
       rw[if_pos rfl]
       obtain⟨places,roads⟩:=m
       simp only[aH]at*
       simp (disch:=omega) only[go_sem,K.bN,↓reduceIte,va,c3,i1,cf,tg,Nat.reduceAdd,Nat.reduceSub]
       rfl
     | true=>
       rw[ht]at tg
       rw[if_neg (by simp)]
       by_cases c4:0≤t∧t≤2147483648
       · rw[decide_eq_true c4]at i2
         rw[if_neg (by simpa using c4)]
         obtain⟨places,roads⟩:=m
         simp only[aH,oe,nsH,az,Tru.e,Tru.cs,List.map_nil,List.length_nil,List.length_map]at*
         simp (disch:=omega) only[go_sem,K.bN,↓reduceIte,va,c3,i1,cf,tg,i2,lp1,lp2,cp,List.length_map,Nat.reduceAdd,Nat.reduceSub]
       · rw[decide_eq_false c4]at i2
         rw[if_pos c4]
         obtain⟨places,roads⟩:=m
         simp only[aH]at*
         simp (disch:=omega) only[go_sem,K.bN,↓reduceIte,va,c3,i1,cf,tg,i2,Nat.reduceAdd,Nat.reduceSub]
         rfl
theorem x9{x:Tru}(h:x.ok):(x.readers=[]∧x.missed=[])∨(∃a p,x.readers=[a]∧x.missed=[p])∨(∃a b p q,x.readers=[a,b]∧x.missed=[p,q])∨∃a b c p q r,x.readers=[a,b,c]∧x.missed=[p,q,r]:=by
 have rl:=h.rl
 have ml:=h.ml
 obtain⟨iT,time,people,tags,readers,numbers,looked,missed⟩:=x
 simp only at*
 rcases readers with _ | ⟨a,_ | ⟨b,_ | ⟨c,_ | ⟨d,l⟩⟩⟩⟩<;>rcases missed with _ | ⟨p,_ | ⟨q,_ | ⟨r,_ | ⟨s,l'⟩⟩⟩⟩<;>simp only[List.length_cons,List.length_nil]at rl ml<;>first | omega | simp
theorem A3{m:bV}(hm:m.ok)(h1:1≤m.places.length){l:List Rdr}(hl:l.length≤3)(h2:∀r∈l,jP m.places.length r){at' tags:List Int}(n1:1≤at'.length)(n3:at'.length≤3)(ha:∀p∈at',0≤p∧p<m.places.length)(tl:tags.length=at'.length)(tp:fA tags=true){t:Int}(t0:0≤t)(t1:t≤2147483648):(oe m l at' tags t).ok:=by
 unfold oe
 refine⟨hm,h1,hl,h2,by simpa using n1,by simpa using n3,fun w hw=>?_,by simpa using tl,tp,t0,t1,by simp,by simp,by simp,fun v hv=>?_,fun v hv=>?_,fun v hv u hu=>?_⟩
 · obtain⟨p,hp,rfl⟩:=List.mem_map.1 hw
   exact⟨ha p hp,.inl ⟨rfl,rfl⟩⟩
 · have e:nth (List.replicate l.length (-1:Int)) v= -1:=eH (by rw[List.getElem?_replicate];simp only at hv;rw[if_pos hv])
   simp only at hv ⊢
   rw[e]
   simp;omega
 · simp only at hv ⊢
   rw[eH (x:=List.replicate at'.length 0) (by rw[List.getElem?_replicate,if_pos hv])]
   simp
 · simp only at hv hu ⊢
   rw[eH (x:=List.replicate at'.length 0) (by rw[List.getElem?_replicate,if_pos hv])]
   rw[eH (x:=0) (by rw[List.getElem?_replicate,if_pos (by simpa using hu)])]
   exact⟨Int.le_refl _,(h2 _ (bA hv)).m1⟩
theorem A4{x:Tru}(h:x.ok)(k:Nat)(m off:Int)(hk:k<x.readers.length)(o1: -(nth x.readers k).skew≤off)(o2:off≤(nth x.readers k).skew)(o3:0≤x.time+off)(o4:x.time+off≤2147483648):
 aX 0 N.ae [.t x.e,I k,I m,I off] []=some (if p9 x k m then .tup [.t x.e,.t (iN 0 0 0 []),I 43]else .tup [.t (kS x k m).e,.t (iN k (rR x k) (x.time+off) (eZ (aD x.people (nth x.readers k).pl m x.tags x.people.length))),I 0],[]):=by
 rcases x9 h with⟨a,b⟩ | ⟨y,_,a,b⟩ | ⟨y,z,_,_,a,b⟩ | ⟨y,z,w,_,_,_,a,b⟩
 · rw[a]at hk;simp at hk
 · have:k=0:=by rw[a]at hk;simpa using hk
   subst this
   have e:nth x.readers 0=y:=by rw[a];rfl
   rw[e]at o1 o2 ⊢
   exact AN h a b m off o1 o2 o3 o4
 · have:k=0∨k=1:=by rw[a]at hk;simp only[List.length_cons,List.length_nil]at hk;omega
   rcases this with rfl | rfl
   · have e:nth x.readers 0=y:=by rw[a];rfl
     rw[e]at o1 o2 ⊢
     exact AP h a b m off o1 o2 o3 o4
   · have e:nth x.readers 1=z:=by rw[a];rfl
     rw[e]at o1 o2 ⊢
     exact AR h a b m off o1 o2 o3 o4
 · have:k=0∨k=1∨k=2:=by rw[a]at hk;simp only[List.length_cons,List.length_nil]at hk;omega
   rcases this with rfl | rfl | rfl
   · have e:nth x.readers 0=y:=by rw[a];rfl
     rw[e]at o1 o2 ⊢
     exact AT h a b m off o1 o2 o3 o4
   · have e:nth x.readers 1=z:=by rw[a];rfl
     rw[e]at o1 o2 ⊢
     exact AV h a b m off o1 o2 o3 o4
   · have e:nth x.readers 2=w:=by rw[a];rfl
     rw[e]at o1 o2 ⊢
     exact AY h a b m off o1 o2 o3 o4
theorem A5(i:Nat):ui 0 i=0:=by
 unfold ui
 rw[Int.zero_fdiv]
 rfl
theorem A6(i:Nat):eX 0 i=false:=by
 unfold eX
 rw[A5]
 rfl
theorem A7(x:Tru)(k:Nat):p9 x k 0=false:=by
 unfold p9 fv
 rw[List.any_eq_false]
 intro i _
 rw[A6]
 simp
theorem A8{gc:Bool}{dead:List Nat}{c:C}{vs:List D}{H:ag}(P:Nat→St→Prop)(n:Nat)(Q:Ex×St→Prop)(h0:P n ⟨dj dead vs,H⟩)
 (hs:∀n st,P n st→(∃st' m,m<n∧fg gc dead st.H.length (exS aX c st)=some st'∧P m st')∨∃q,exS aX c st=some q∧q.1≠ .normal∧Q q):∃q,exS aX (.loop gc dead c) ⟨vs,H⟩=some q∧Q q:=by
 have key:∀(n:Nat) (st:St),P n st→∃q,jD gc dead (exS aX c) st=some q∧Q q:=by
  intro n
  induction n using Nat.strongRecOn with
  | ind n ih=>
    intro st hp
    rcases hs n st hp with⟨st',m,hm,h1,h2⟩ | ⟨q,h1,h2,h3⟩
    · obtain⟨q,h3,h4⟩:=ih m hm st' h2
      exact⟨q,bT h1 h3,h4⟩
    · exact⟨q,bC h1 h2,h3⟩
 exact key n _ h0
structure Rq where
 n:Int
 t:Int
 s:Bool
instance : Dat Rq := ⟨⟨0, 0, false⟩⟩
def Rq.tg(r:Rq):List Int:=if r.s then [4]else []
abbrev Rq.e(r:Rq):T:= .agg [tI 0,tI r.n,tI r.t,tL r.tg]
def Rq.ok(r:Rq):Prop:=(0≤r.n∧r.n≤65535)∧0≤r.t∧r.t≤2147483648
theorem qU{r:Rq}(h:r.ok):aX 0 N.br [.t r.e] []=some (B true,[]):=by
 refine aO K.jO rfl ?_
 obtain⟨⟨a,b⟩,c,d⟩:=h
 obtain⟨n,t,s⟩:=r
 cases s with
 | false=>
   show(exS aX K.br.body ⟨jS [.t (.agg [tI 0,tI n,tI t,.sl []])] K.br.vars,[]⟩).bind (JM K.br.res 0 0)=_
   simp (disch:=omega) only[go_sem,K.br,↓reduceIte,Nat.reduceAdd,Nat.reduceSub]
   apply ft
   · apply gn
     apply bC
     · simp (disch:=omega) only[go_sem,K.fV,↓reduceIte,dj,List.set_cons_zero,List.set_cons_succ,Nat.reduceAdd,Nat.reduceSub]
       rfl
     · simp
   simp (disch:=omega) only[go_sem,K.br,↓reduceIte,Nat.reduceAdd,Nat.reduceSub]
 | true=>
   show(exS aX K.br.body ⟨jS [.t (.agg [tI 0,tI n,tI t,.sl [tI 4]])] K.br.vars,[]⟩).bind (JM K.br.res 0 0)=_
   simp (disch:=omega) only[go_sem,K.br,↓reduceIte,Nat.reduceAdd,Nat.reduceSub]
   apply ft
   · apply gn
     apply bT
     · simp (disch:=omega) only[go_sem,K.fV,↓reduceIte,dj,List.set_cons_zero,List.set_cons_succ,Int.reduceAdd,Int.reduceToNat,List.getElem?_cons_succ,List.getElem?_cons_zero,Nat.reduceAdd,Nat.reduceSub]
       rfl
     apply bC
     · simp (disch:=omega) only[go_sem,K.fV,↓reduceIte,Int.reduceAdd,Nat.reduceAdd,Nat.reduceSub]
       rfl
     · simp
   simp (disch:=omega) only[go_sem,K.br,↓reduceIte,Nat.reduceAdd,Nat.reduceSub]
def Dy(r:Rdr)(a b:Rq):Bool:=decide (b.n=(a.n+1).tmod 65536)&&decide (a.t≤b.t)&&decide (b.t-a.t≤r.per+2*r.skew)
theorem ya{np:Int}{r:Rdr}(hr:jP np r){a b:Rq}(ha:a.ok)(hb:b.ok):aX 0 N.bY [.t r.e,.t a.e,.t b.e] []=some (B (Dy r a b),[]):=by
 refine aO K.iq rfl ?_
 obtain⟨⟨a1,a2⟩,a3,a4⟩:=ha
 obtain⟨⟨b1,b2⟩,b3,b4⟩:=hb
 have p1:=hr.p1;have p2:=hr.p2;have k1:=hr.k1;have k2:=hr.k2
 unfold Dy
 obtain⟨r1,r2,r3,r4⟩:=r
 obtain⟨an,at',as'⟩:=a
 obtain⟨bn,bt,bs⟩:=b
 simp only at*
 by_cases c1:bn=(an+1).tmod 65536
 · rw[decide_eq_true c1]
   by_cases c2:at'≤bt
   · rw[decide_eq_true c2]
     by_cases c3:bt-at'≤r2+2*r4
     · rw[decide_eq_true c3]
       simp (disch:=omega) only[go_sem,K.bY,↓reduceIte,c1,c2,c3,ge_iff_le,Bool.and_self,Nat.reduceAdd,Nat.reduceSub]
       done
     · rw[decide_eq_false c3]
       simp (disch:=omega) only[go_sem,K.bY,↓reduceIte,c1,c2,c3,ge_iff_le,Bool.and_self,Bool.and_false,Nat.reduceAdd,Nat.reduceSub]
   · rw[decide_eq_false c2]
     simp (disch:=omega) only[go_sem,K.bY,↓reduceIte,c1,c2,ge_iff_le,Bool.and_self,Bool.and_false,Bool.false_and,Nat.reduceAdd,Nat.reduceSub]
 · rw[decide_eq_false c1]
   simp (disch:=omega) only[go_sem,K.bY,↓reduceIte,c1,Bool.and_self,Bool.and_false,Bool.false_and,Nat.reduceAdd,Nat.reduceSub]
structure Ab where
 f:Int
 t:Int
instance : Dat Ab := ⟨⟨0, 0⟩⟩
abbrev Ab.e(a:Ab):T:= .agg [tI 0,tI 4,tI a.f,tI a.t]
def Pv(r:Rdr)(l:List Rq)(a:Ab):Prop:=∃i k,i<k∧k<l.length∧(∀j,i≤j→j≤k→(nth l j).s=false)∧(∀j,i≤j→j<k→Dy r (nth l j) (nth l (j+1))=true)∧a.f=(nth l i).t+r.skew∧a.t=(nth l k).t-r.skew
theorem Rq.has(r:Rq):aX 0 N.dn [.t (tL r.tg),I 4] []=some (B r.s,[]):=by
 have h:=zN r.tg 4 (by unfold Rq.tg;split<;>simp)
 rw[h]
 obtain⟨n,t,s⟩:=r
 cases s<;>rfl
abbrev uj(r:Rdr)(l:List Rq)(out:List Ab):ag:=[.box [.t (tL r.pl),I r.per,I r.miss,I r.skew],.arr 4 false 0 ((l.map Rq.e).map .t),.arr 4 false 0 ((out.map Ab.e).map .t)]
def BQ(l:List Rq)(out:List Ab)(i k:Nat)(z0 z3 z4 z5 z6 z9 z13 z14:D):List D:=[z0,I 0,I 4,z3,z4,z5,z6,.bp 0 0,.ref 1 0 l.length,z9,.ref 2 0 out.length,I i,I k,z13,z14]
def Wb(r:Rdr)(l:List Rq)(i k:Nat):Prop:=i≤k∧k<l.length∧(∀j,i≤j→j≤k→(nth l j).s=false)∧(∀j,i≤j→j<k→Dy r (nth l j) (nth l (j+1))=true)
def W7(r:Rdr)(l:List Rq)(out:List Ab)(i:Nat)(m:Nat)(st:St):Prop:=∃k,Wb r l i k∧m=l.length-k∧st=⟨BQ l out i k .und .und .und .und .und .und .und .und,uj r l out⟩
theorem Dz{np:Int}{r:Rdr}(hr:jP np r){l:List Rq}(hl:l.length≤100)(ho:∀x∈l,x.ok)(out:List Ab)(i:Nat)(hi:i<l.length)(hs:(nth l i).s=false)(z0 z3 z4 z5 z6 z9 z13 z14:D):
 ∃q,exS aX K.jk ⟨BQ l out i i z0 z3 z4 z5 z6 z9 z13 z14,uj r l out⟩=some q∧∃k,Wb r l i k∧q=(.exit 6,⟨BQ l out i k .und .und .und .und .und .und .und .und,uj r l out⟩):=by
 refine A8 (W7 r l out i) (l.length-i) _ ⟨i,⟨Nat.le_refl _,hi,fun j h1 h2=>by rw[show j=i by omega];exact hs,fun j h1 h2=>by omega⟩,rfl,rfl⟩ ?_
 rintro m st ⟨k,hk,rfl,rfl⟩
 obtain⟨k1,k2,k3,k4⟩:=hk
 by_cases c1:k+1<l.length
 · have ex:((l.map Rq.e).map D.t)[k]?=some (.t (nth l k).e):=by rw[List.getElem?_map,aU _ k2];rfl
   have ex1:((l.map Rq.e).map D.t)[k+1]?=some (.t (nth l (k+1)).e):=by rw[List.getElem?_map,aU _ c1];rfl
   have hh:=(nth l (k+1)).has
   have fo:=ya hr (ho _ (bA k2)) (ho _ (bA c1))
   by_cases c2:(nth l (k+1)).s=true
   · right
     refine⟨_,?_,?_,k,⟨k1,k2,k3,k4⟩,rfl⟩
     · rw[c2]at hh
       generalize nth l (k+1)=y at*
       obtain⟨r1,r2,r3,r4⟩:=r
       simp only[BQ,uj,tL]at*
       simp (disch:=omega) only[go_sem,K.dG,↓reduceIte,ex1,hh,c1,Nat.reduceAdd,Nat.reduceSub]
     · simp
   · have c2:(nth l (k+1)).s=false:=by simpa using c2
     rw[c2]at hh
     by_cases c3:Dy r (nth l k) (nth l (k+1))=true
     · left
       refine⟨_,_,?_,?_,k+1,⟨by omega,c1,fun j h1 h2=>?_,fun j h1 h2=>?_⟩,rfl,rfl⟩
       · omega
       · rw[c3]at fo
         generalize nth l (k+1)=y at*
         generalize nth l k=x at*
         obtain⟨r1,r2,r3,r4⟩:=r
         simp only[BQ,uj,tL]at*
         simp (disch:=omega) only[go_sem,K.dG,↓reduceIte,ex,ex1,hh,fo,c1,Nat.reduceAdd,Nat.reduceSub]
       · by_cases c:j=k+1
         · rw[c];exact c2
         · exact k3 j h1 (by omega)
       · by_cases c:j=k
         · rw[c];exact c3
         · exact k4 j h1 (by omega)
     · right
       refine⟨_,?_,?_,k,⟨k1,k2,k3,k4⟩,rfl⟩
       · have c3:Dy r (nth l k) (nth l (k+1))=false:=by simpa using c3
         rw[c3]at fo
         generalize nth l (k+1)=y at*
         generalize nth l k=x at*
         obtain⟨r1,r2,r3,r4⟩:=r
         simp only[BQ,uj,tL]at*
         simp (disch:=omega) only[go_sem,K.dG,↓reduceIte,ex,ex1,hh,fo,c1,Nat.reduceAdd,Nat.reduceSub]
       · simp
 · right
   refine⟨_,?_,?_,k,⟨k1,k2,k3,k4⟩,rfl⟩
   · obtain⟨r1,r2,r3,r4⟩:=r
     simp only[BQ,uj,tL]at*
     simp (disch:=omega) only[go_sem,K.dG,↓reduceIte,c1,Nat.reduceAdd,Nat.reduceSub]
   · simp
def aoP(r:Rdr)(l:List Rq)(m:Nat)(st:St):Prop:=∃(i:Nat) (out:List Ab),i≤l.length∧m=l.length-i∧out.length≤i∧(∀a∈out,Pv r l a)∧st=⟨[.und,I 0,I 4,.und,.und,.und,.und,.bp 0 0,.ref 1 0 l.length,.und,.ref 2 0 out.length,I i,.und,.und,.und],uj r l out⟩
theorem DA{np:Int}{r:Rdr}(hr:jP np r){l:List Rq}(hl:l.length≤100)(ho:∀x∈l,x.ok)(z0 z3 z4 z5 z6 z9 z12 z13 z14:D):
 ∃q,exS aX K.jl ⟨[z0,I 0,I 4,z3,z4,z5,z6,.bp 0 0,.ref 1 0 l.length,z9,.ref 2 0 0,I 0,z12,z13,z14],uj r l []⟩=some q∧∃out:List Ab,(∀a∈out,Pv r l a)∧out.length≤100∧q=(.exit 4,⟨[.und,I 0,I 4,.und,.und,.und,.und,.bp 0 0,.ref 1 0 l.length,.und,.ref 2 0 out.length,I l.length,.und,.und,.und],uj r l out⟩):=by
 have rk1:=hr.k1
 have rk2:=hr.k2
 refine A8 (aoP r l) l.length _ ⟨0,[],Nat.zero_le _,by omega,Nat.le_refl _,by simp,rfl⟩ ?_
 rintro m st ⟨i,out,h1,rfl,h2,h3,rfl⟩
 by_cases c1:i<l.length
 · left
   have ex:((l.map Rq.e).map D.t)[i]?=some (.t (nth l i).e):=by rw[List.getElem?_map,aU _ c1];rfl
   have hh:=(nth l i).has
   by_cases c2:(nth l i).s=true
   · refine⟨_,l.length-(i+1),by omega,?_,i+1,out,by omega,rfl,by omega,h3,rfl⟩
     rw[c2]at hh
     generalize nth l i=y at*
     obtain⟨r1,r2,r3,r4⟩:=r
     simp only[uj,tL]at*
     simp (disch:=omega) only[go_sem,K.cR,↓reduceIte,ex,hh,c1,Nat.reduceAdd,Nat.reduceSub]
   · have c2:(nth l i).s=false:=by simpa using c2
     rw[c2]at hh
     obtain⟨q,hq,k,⟨k1,k2,k3,k4⟩,rfl⟩:=Dz hr hl ho out i c1 c2 .und .und .und .und .und .und .und .und
     have ek:((l.map Rq.e).map D.t)[k]?=some (.t (nth l k).e):=by rw[List.getElem?_map,aU _ k2];rfl
     have oi:=ho _ (bA c1)
     have ok:=ho _ (bA k2)
     obtain⟨_,oi1,oi2⟩:=oi
     obtain⟨_,ok1,ok2⟩:=ok
     by_cases c3:k>i∧(nth l k).t-r.skew>(nth l i).t+r.skew
     · refine⟨_,l.length-(k+1),by omega,?_,k+1,out++[⟨(nth l i).t+r.skew,(nth l k).t-r.skew⟩],by omega,rfl,by simp;omega,fun a ha=>?_,rfl⟩
       · obtain⟨d1,d2⟩:=c3
         have d3:((k:Int)>(i:Int)):=by omega
         simp only[gt_iff_lt]at d1 d2 d3
         generalize nth l k=x at*
         generalize nth l i=y at*
         obtain⟨r1,r2,r3,r4⟩:=r
         simp only[BQ,uj,tL]at*
         simp (disch:=omega) only[go_sem,K.cR,↓reduceIte,ex,ek,hh,hq,d2,d3,c1,gt_iff_lt,List.length_append,List.length_singleton,List.map_append,List.map_cons,List.map_nil,Nat.reduceAdd,Nat.reduceSub]
       · rcases List.mem_append.1 ha with h | h
         · exact h3 a h
         · rw[List.mem_singleton.1 h]
           exact⟨i,k,c3.1,k2,k3,k4,rfl,rfl⟩
     · refine⟨_,l.length-(k+1),by omega,?_,k+1,out,by omega,rfl,by omega,h3,rfl⟩
       generalize nth l k=x at*
       generalize nth l i=y at*
       by_cases d1:(k:Int)>(i:Int)
       · have d2:¬(x.t-r.skew>y.t+r.skew):=fun h=>c3 ⟨by omega,h⟩
         obtain⟨r1,r2,r3,r4⟩:=r
         simp only[BQ,uj,tL,gt_iff_lt]at*
         simp (disch:=omega) only[go_sem,K.cR,↓reduceIte,ex,ek,hh,hq,d1,d2,c1,gt_iff_lt,Nat.reduceAdd,Nat.reduceSub]
       · obtain⟨r1,r2,r3,r4⟩:=r
         simp only[BQ,uj,tL,gt_iff_lt]at*
         simp (disch:=omega) only[go_sem,K.cR,↓reduceIte,ex,ek,hh,hq,d1,c1,gt_iff_lt,Nat.reduceAdd,Nat.reduceSub]
 · right
   have e:i=l.length:=by omega
   subst e
   refine⟨_,?_,?_,out,h3,by omega,rfl⟩
   · obtain⟨r1,r2,r3,r4⟩:=r
     simp only[uj,tL]at*
     simp (disch:=omega) only[go_sem,K.cR,↓reduceIte,Nat.reduceAdd,Nat.reduceSub]
   · simp
theorem vE{np:Int}{r:Rdr}(hr:jP np r){l:List Rq}(hl:l.length≤100)(ho:∀x∈l,x.ok):∃out:List Ab,(∀a∈out,Pv r l a)∧out.length≤100∧aX 0 N.cr [.t (.sl [r.e]),I 0,I 4,.t (.sl (l.map Rq.e))] []=some (.tup [.t (.sl (out.map Ab.e)),I 0],[]):=by
 have lp0:∀z4 z5 z7 z8 z9 z10 z11 z12 z13 z14:D,exS aX K.ji ⟨[.t (.sl [r.e]),I 0,I 4,.t (.sl (l.map Rq.e)),z4,z5,I 0,z7,z8,z9,z10,z11,z12,z13,z14],[]⟩=
  some (.exit 0,⟨[.t (.sl [r.e]),I 0,I 4,.t (.sl (l.map Rq.e)),.und,.und,I l.length,.und,.und,.und,.und,.und,.und,.und,.und],[]⟩):=by
  intro z4 z5 z7 z8 z9 z10 z11 z12 z13 z14
  refine fy (fun j=>⟨[.t (.sl [r.e]),I 0,I 4,.t (.sl (l.map Rq.e)),.und,.und,I j,.und,.und,.und,.und,.und,.und,.und,.und],[]⟩) l.length rfl ?_ ?_ (by simp)
  · intro j hj
    have ex:(l.map Rq.e)[j]?=some (nth l j).e:=aU _ hj
    have va:=qU (ho _ (bA hj))
    generalize nth l j=y at*
    obtain⟨n,t,s⟩:=y
    simp only[tL]at*
    simp (disch:=omega) only[go_sem,K.fR,↓reduceIte,ex,va,Nat.reduceAdd,Nat.reduceSub]
  · simp (disch:=omega) only[go_sem,K.fR,↓reduceIte,Nat.reduceAdd,Nat.reduceSub]
 have lp1:∀z0 z4 z5 z6 z10 z11 z12 z13 z14:D,exS aX K.jj ⟨[z0,I 0,I 4,.t (.sl (l.map Rq.e)),z4,z5,z6,.bp 0 0,.ref 1 0 0,I 0,z10,z11,z12,z13,z14],[.box [.t (tL r.pl),I r.per,I r.miss,I r.skew],.arr 4 false 0 []]⟩=
  some (.exit 2,⟨[.und,I 0,I 4,.t (.sl (l.map Rq.e)),.und,.und,.und,.bp 0 0,.ref 1 0 l.length,I l.length,.und,.und,.und,.und,.und],[.box [.t (tL r.pl),I r.per,I r.miss,I r.skew],.arr 4 false 0 ((l.map Rq.e).map .t)]⟩):=by
  intro z0 z4 z5 z6 z10 z11 z12 z13 z14
  refine fy (fun j=>⟨[.und,I 0,I 4,.t (.sl (l.map Rq.e)),.und,.und,.und,.bp 0 0,.ref 1 0 (l.take j).length,I j,.und,.und,.und,.und,.und],[.box [.t (tL r.pl),I r.per,I r.miss,I r.skew],.arr 4 false 0 (((l.take j).map Rq.e).map .t)]⟩) l.length rfl ?_ ?_ (by simp)
  · intro j hj
    have ex:(l.map Rq.e)[j]?=some (nth l j).e:=aU _ hj
    have tk:=jF hj
    have tl:(l.take j).length=j:=by rw[List.length_take];omega
    have tl2:(l.take (j+1)).length=j+1:=by rw[List.length_take];omega
    rw[tl2,tk]
    generalize l.take j=q at*
    generalize nth l j=y at*
    obtain⟨r1,r2,r3,r4⟩:=r
    simp only[tL]at*
    simp (disch:=omega) only[go_sem,K.fS,↓reduceIte,ex,tl,List.map_append,List.map_cons,List.map_nil,Nat.reduceAdd,Nat.reduceSub]
  · have tk1:l.take l.length=l:=List.take_length
    rw[tk1]
    obtain⟨r1,r2,r3,r4⟩:=r
    simp only[tL]at*
    simp (disch:=omega) only[go_sem,K.fS,↓reduceIte,Nat.reduceAdd,Nat.reduceSub]
 obtain⟨q,hq,out,h1,h2,rfl⟩:=DA hr hl ho .und (.t (.sl (l.map Rq.e))) .und .und .und (I l.length) .und .und .und
 refine⟨out,h1,h2,aO K.gI rfl ?_⟩
 have sc:([D.t (.sl (out.map Ab.e)),I 0].all cG)=false:=rfl
 obtain⟨r1,r2,r3,r4⟩:=r
 simp only[Rdr.e,uj,tL,List.map_nil]at*
 simp (disch:=omega) only[go_sem,K.cr,↓reduceIte,lp0,lp1,hq,sc,Nat.reduceAdd,Nat.reduceSub]
theorem A9{np:Int}{r:Rdr}(hr:jP np r){a:Rq}(ha:a.ok):aX 0 N.ed [.t (.sl [r.e]),.t a.e] []=some (.tup [.t (.sl (if a.s then [.agg [tI 0,tI 4,tI (max 0 (a.t-r.skew)),tI (a.t+r.skew)]]else [])),I 0],[]):=by
 refine aO K.nB rfl ?_
 have va:=qU ha
 obtain⟨⟨a1,a2⟩,a3,a4⟩:=ha
 have k1:=hr.k1;have k2:=hr.k2
 have sc:∀l:List T,([D.t (.sl l),I 0].all cG)=false:=fun _=>rfl
 obtain⟨n,t,s⟩:=a
 obtain⟨r1,r2,r3,r4⟩:=r
 cases s with
 | false=>
   simp only[Rq.e,Rq.tg,Bool.false_eq_true,if_false,tL,List.map_nil]at*
   simp (disch:=omega) only[go_sem,K.ed,↓reduceIte,va,Nat.reduceAdd,Nat.reduceSub]
   apply ft
   · apply gn
     apply bC
     · simp (disch:=omega) only[go_sem,K.iK,↓reduceIte,dj,List.set_cons_zero,List.set_cons_succ,Nat.reduceAdd,Nat.reduceSub]
       rfl
     · simp
   simp (disch:=omega) only[go_sem,K.ed,↓reduceIte,sc,Nat.reduceAdd,Nat.reduceSub]
 | true=>
   simp only[Rq.e,Rq.tg,if_true,tL,List.map_cons,List.map_nil]at*
   simp (disch:=omega) only[go_sem,K.ed,↓reduceIte,va,Nat.reduceAdd,Nat.reduceSub]
   apply ft
   · apply gn
     apply bT
     · simp (disch:=omega) only[go_sem,K.iK,↓reduceIte,dj,List.set_cons_zero,List.set_cons_succ,Int.reduceAdd,Int.reduceToNat,List.getElem?_cons_succ,List.getElem?_cons_zero,Nat.reduceAdd,Nat.reduceSub]
       rfl
     apply bC
     · simp (disch:=omega) only[go_sem,K.iK,↓reduceIte,Int.reduceAdd,Nat.reduceAdd,Nat.reduceSub]
       rfl
     · simp
   simp (disch:=omega) only[go_sem,K.ed,↓reduceIte,sc,Nat.reduceAdd,Nat.reduceSub]
structure Lk where
 T:Int
 q:Rq
 m:Int
instance : Dat Lk := ⟨⟨0, ⟨0, 0, false⟩, 0⟩⟩
def atX(at':List Int)(s:Int):Int:=nth at' (s-50).toNat
structure BR(r:Rdr)(at':List Int)(l:List Lk):Prop where
 t0:∀j,j<l.length→50≤(nth l j).T∧(nth l j).T-50<at'.length
 off:∀j,j<l.length→(nth l j).T-r.skew≤(nth l j).q.t∧(nth l j).q.t≤(nth l j).T+r.skew
 m0:∀j,j<l.length→0≤(nth l j).m∧(nth l j).m≤r.miss
 un:∀j,j<l.length→(nth l j).q.s=false→atX at' (nth l j).T=1→1≤(nth l j).m∧(0<j→(nth l j).m=(nth l (j-1)).m+1)
 gap:∀j,j+1<l.length→(nth l j).T<(nth l (j+1)).T∧((nth l (j+1)).q.n=((nth l j).q.n+1).tmod 65536→(nth l (j+1)).T-(nth l j).T≤r.per)
 ok:∀x∈l,x.q.ok
theorem DB{np:Int}{r:Rdr}(hr:jP np r){at':List Int}{l:List Lk}(h:BR r at' l){i k:Nat}(hik:i<k)(hk:k<l.length)(hu:∀j,i≤j→j≤k→(nth l j).q.s=false)(hf:∀j,i≤j→j<k→Dy r (nth l j).q (nth l (j+1)).q=true)
 {s0 s:Int} (h0:(nth l i).q.t+r.skew≤s0) (h1:s<(nth l k).q.t-r.skew) (hs:∀v,s0≤v→v≤s→atX at' v=1) (h01:s0≤s):s-s0+1≤(r.miss+1)*r.per:=by
 have p1:=hr.p1
 have hm1:=hr.m1
 have Ti:=h.off i (by omega)
 have Tk:=h.off k hk
 have key:∀d,i+d≤k→(s<(nth l (i+d)).T→s-s0+1≤(r.miss+1)*r.per)∧(s0≤(nth l (i+d)).T→(nth l (i+d)).T≤s→1≤(nth l (i+d)).m∧(nth l (i+d)).T+1-s0≤(nth l (i+d)).m*r.per):=by
  intro d
  induction d with
  | zero=>
    intro _
    rw[Nat.add_zero]
    refine⟨fun h=>by omega,fun h2 h3=>?_⟩
    have un:=h.un i (by omega) (hu i (Nat.le_refl _) (by omega)) (hs _ h2 h3)
    refine⟨un.1,?_⟩
    have:1*r.per≤(nth l i).m*r.per:=Int.mul_le_mul_of_nonneg_right un.1 (by omega)
    omega
  | succ d ih=>
    intro hd
    obtain⟨i1,i2⟩:=ih (by omega)
    have e:i+(d+1)=i+d+1:=rfl
    rw[e]
    have g:=h.gap (i+d) (by omega)
    have fo:=hf (i+d) (by omega) (by omega)
    unfold Dy at fo
    simp only[Bool.and_eq_true,decide_eq_true_eq]at fo
    have gp:=g.2 fo.1.1
    have mb:=h.m0 (i+d) (by omega)
    refine⟨fun h2=>?_,fun h2 h3=>?_⟩
    · by_cases c:s<(nth l (i+d)).T
      · exact i1 c
      · by_cases c2:s0≤(nth l (i+d)).T
        · obtain⟨q1,q2⟩:=i2 c2 (by omega)
          have:(nth l (i+d)).m*r.per≤r.miss*r.per:=Int.mul_le_mul_of_nonneg_right mb.2 (by omega)
          rw[Int.add_mul]
          omega
        · have:0≤r.miss*r.per:=Int.mul_nonneg hm1 (by omega)
          rw[Int.add_mul]
          omega
    · have un:=h.un (i+d+1) (by omega) (hu _ (by omega) (by omega)) (hs _ h2 h3)
      have um:=un.2 (by omega)
      rw[Nat.add_sub_cancel]at um
      refine⟨un.1,?_⟩
      by_cases c2:s0≤(nth l (i+d)).T
      · obtain⟨q1,q2⟩:=i2 c2 (by omega)
        rw[um,Int.add_mul]
        omega
      · have:1*r.per≤(nth l (i+d+1)).m*r.per:=Int.mul_le_mul_of_nonneg_right un.1 (by omega)
        omega
 have:=key (k-i) (by omega)
 rw[show i+(k-i)=k by omega]at this
 exact this.1 (by omega)
def gv(m:bV)(r:Rdr)(t:Int)(w:Wlk)(nu lo mi:Int):Tru:=⟨m,t,[w],[4],[r],[nu],[lo],[[mi]]⟩
def oy(r:Rdr)(w:Wlk):Int:=if w.place∈r.pl then 1 else 0
theorem Pw{m:bV}{r:Rdr}{t:Int}{w:Wlk}{nu lo mi:Int}(h:t+1≤2147483648):vB (gv m r t w nu lo mi) 1=(gv m r (t+1) (kv m 1 w) nu lo mi,0):=by
 unfold vB gv
 rw[if_neg (by omega),if_neg (by simp only;omega)]
 rfl
theorem Fe(m:bV)(r:Rdr)(t:Int)(w:Wlk)(nu lo mi:Int)(rd ex:Int):∃w',(mS (gv m r t w nu lo mi) 0 rd ex).1=gv m r t w' nu lo mi∧w'.place=w.place:=by
 unfold mS mR gv
 repeat' split
 all_goals first
  | exact⟨w,rfl,rfl⟩
  | exact⟨_,rfl,rfl⟩
def BS(nu lo t per:Int):Int:=(nu+if 0≤lo∧per<t-lo then 2 else 1).tmod 65536
theorem Px(m:bV)(r:Rdr)(t:Int)(w:Wlk)(nu lo mi mm:Int):kS (gv m r t w nu lo mi) 0 mm=gv m r t w (BS nu lo t r.per) t (if decide (w.place∈r.pl)&&eX mm 0 then mi+1 else 0):=rfl
theorem W8(m:bV)(r:Rdr)(t:Int)(w:Wlk)(nu lo mi mm:Int):p9 (gv m r t w nu lo mi) 0 mm=(decide (w.place∈r.pl)&&eX mm 0&&decide (r.miss<mi+1)):=by
 unfold p9 fv cH gv
 simp only[List.length_singleton]
 have:List.range 1=[0]:=rfl
 rw[this]
 simp only[List.any_cons,List.any_nil,Bool.or_false]
 rfl
theorem UX(m:bV)(r:Rdr)(t:Int)(w:Wlk)(nu lo mi mm:Int):eZ (aD (gv m r t w nu lo mi).people r.pl mm (gv m r t w nu lo mi).tags (gv m r t w nu lo mi).people.length)=if decide (w.place∈r.pl)&& !eX mm 0 then [4]else []:=by
 unfold gv
 simp only[List.length_singleton,aD]
 have e:cH [w] r.pl 0=decide (w.place∈r.pl):=rfl
 rw[e]
 split<;>rfl
theorem kJ{α:Type} [Dat α](l:List α)(x:α):nth (l++[x]) l.length=x:=eH (by rw[List.getElem?_append_right (Nat.le_refl _),Nat.sub_self];rfl)
theorem gw{α:Type} [Dat α](l:List α)(x:α){j:Nat}(h:j<l.length):nth (l++[x]) j=nth l j:=by
 unfold nth
 simp only[List.getD_eq_getElem?_getD]
 rw[List.getElem?_append_left h]
theorem BR.app{r:Rdr}{a:List Int}{l:List Lk}(h:BR r a l)(v:Int):BR r (a++[v]) l:=by
 refine⟨fun j hj=>?_,h.off,h.m0,fun j hj h1 h2=>?_,h.gap,h.ok⟩
 · have:=h.t0 j hj
   rw[List.length_append,List.length_singleton]
   omega
 · have t0:=h.t0 j hj
   refine h.un j hj h1 ?_
   rw[← h2]
   unfold atX
   rw[gw a v (show((nth l j).T-50).toNat<a.length by omega)]
theorem DC(a:List Int)(v t:Int)(h:(a.length:Int)=t-50):atX (a++[v]) t=v:=by
 unfold atX
 have:(t-50).toNat=a.length:=by omega
 rw[this]
 exact eH (by rw[List.getElem?_append_right (Nat.le_refl _),Nat.sub_self];rfl)
theorem BR.look{np:Int}{r:Rdr}(hr:jP np r){a:List Int}{l:List Lk}{w:Wlk}(h:BR r (a++[oy r w]) l){t nu lo mi off mm:Int}(ht:(a.length:Int)=t-50)(t1:t≤2147400000)
 (o1: -r.skew≤off) (o2:off≤r.skew) (m0:0≤mi) (mi2:mi≤r.miss) (hm:0<l.length→mi=(nth l (l.length-1)).m∧lo=(nth l (l.length-1)).T∧nu=(nth l (l.length-1)).q.n∧lo<t∧0≤nu) (nb: -1≤nu∧nu≤65535)
 (hb:(decide (w.place∈r.pl)&&eX mm 0&&decide (r.miss<mi+1))=false):
 BR r (a++[oy r w]) (l++[⟨t,⟨BS nu lo t r.per,t+off,decide (w.place∈r.pl)&& !eX mm 0⟩,if decide (w.place∈r.pl)&&eX mm 0 then mi+1 else 0⟩]):=by
 have k1:=hr.k1
 have k2:=hr.k2
 have m1:=hr.m1
 have nbd:0≤BS nu lo t r.per∧BS nu lo t r.per≤65535:=by
  unfold BS
  split
  · rw[Int.tmod_eq_emod_of_nonneg (by omega)];omega
  · rw[Int.tmod_eq_emod_of_nonneg (by omega)];omega
 generalize hx:(⟨t,⟨BS nu lo t r.per,t+off,decide (w.place∈r.pl)&& !eX mm 0⟩,if decide (w.place∈r.pl)&&eX mm 0 then mi+1 else 0⟩:Lk)=x
 have xT:x.T=t:=by rw[← hx]
 have xq:x.q=⟨BS nu lo t r.per,t+off,decide (w.place∈r.pl)&& !eX mm 0⟩:=by rw[← hx]
 have xm:x.m=if decide (w.place∈r.pl)&&eX mm 0 then mi+1 else 0:=by rw[← hx]
 have cs:∀j,j<(l++[x]).length→j<l.length∨j=l.length:=fun j hj=>by
  rw[List.length_append,List.length_singleton]at hj;omega
 have t50:50≤t:=by omega
 refine⟨fun j hj=>?_,fun j hj=>?_,fun j hj=>?_,fun j hj h1 h2=>?_,fun j hj=>?_,fun y hy=>?_⟩
 · rcases cs j hj with c | rfl
   · rw[gw l x c];exact h.t0 j c
   · rw[kJ,xT,List.length_append,List.length_singleton];omega
 · rcases cs j hj with c | rfl
   · rw[gw l x c];exact h.off j c
   · rw[kJ,xT,xq];simp only;omega
 · rcases cs j hj with c | rfl
   · rw[gw l x c];exact h.m0 j c
   · rw[kJ,xm]
     by_cases c:(decide (w.place∈r.pl)&&eX mm 0)=true
     · rw[c]at hb
       rw[if_pos c]
       simp at hb
       omega
     · rw[if_neg c];omega
 · rcases cs j hj with c | rfl
   · rw[gw l x c]at h1 h2 ⊢
     have:=h.un j c h1 h2
     refine⟨this.1,fun hj0=>?_⟩
     rw[gw l x (by omega)]
     exact this.2 hj0
   · rw[kJ]at h1 h2 ⊢
     rw[xT,DC a _ t ht]at h2
     rw[xq]at h1
     simp only at h1
     unfold oy at h2
     by_cases c:w.place∈r.pl
     · rw[decide_eq_true c,Bool.true_and]at h1
       have h1:eX mm 0=true:=by simpa using h1
       rw[xm,decide_eq_true c,h1]
       simp only[Bool.and_self,if_true]
       refine⟨by omega,fun hj0=>?_⟩
       rw[gw l x (by omega),←(hm hj0).1]
     · rw[if_neg c]at h2
       omega
 · rw[List.length_append,List.length_singleton]at hj
   rw[gw l x (by omega)]
   by_cases c:j+1<l.length
   · rw[gw l x c];exact h.gap j c
   · have e:j+1=l.length:=by omega
     rw[e,kJ,xT,xq]
     obtain⟨a1,a2,a3,a4,a5⟩:=hm (by omega)
     have ej:l.length-1=j:=by omega
     rw[ej]at a2 a3
     rw[← a2,←a3]
     refine⟨a4,fun hn=>?_⟩
     simp only at hn
     unfold BS at hn
     have lo0:0≤lo:=by
      have:=(h.t0 j (by omega)).1
      omega
     by_cases c2:0≤lo∧r.per<t-lo
     · rw[if_pos c2,Int.tmod_eq_emod_of_nonneg (by omega),Int.tmod_eq_emod_of_nonneg (by omega)]at hn
       omega
     · omega
 · rcases List.mem_append.1 hy with c | c
   · exact h.ok y c
   · rw[List.mem_singleton.1 c,xq]
     refine⟨nbd,?_,?_⟩
     · simp only;omega
     · simp only;omega
theorem Ba{d:aL}(hd:d.dh){n:Nat}(n1:1≤n)(n64:n≤64):∃(s:List Int) (o k w:Int) (e1 e2 e3 e4:aL),aX 0 N.bR [.bp 0 0,I n] [d.obj]=some (.t (tL s),[e1.obj])∧aX 0 N.ba [.bp 0 0,.t (.sl [tI 9,tI 29])] [e1.obj]=some (I o,[e2.obj])∧aX 0 N.aG [.bp 0 0,I 3] [e2.obj]=some (I k,[e3.obj])∧aX 0 N.ba [.bp 0 0,.t (.sl [tI 0,tI 2])] [e3.obj]=some (I w,[e4.obj])∧e4.dh∧(0≤o∧o≤29)∧
 jP n ⟨if s.length=0 then [0]else s,1+o,k,w⟩:=by
 obtain⟨s,e1,s1,l1,sl,ss⟩:=Pm hd n (by omega)
 obtain⟨o,e2,o1,l2,oi⟩:=OR l1 [9,29] (by simp) (by simp)
 obtain⟨k,e3,k1,l3,k0,k3⟩:=qK l2 3 (by omega) (by omega)
 obtain⟨w,e4,w1,l4,wi⟩:=OR l3 [0,2] (by simp) (by simp)
 have ob:9≤o∧o≤29:=by simp at oi;omega
 have wb:0≤w∧w≤2:=by simp at wi;omega
 refine⟨s,o,k,w,e1,e2,e3,e4,s1,o1,k1,w1,l4,by omega,?_⟩
 by_cases c:s.length=0
 · rw[if_pos c]
   exact⟨AJ (by omega) (by omega),by simp,by simp,by simp only;omega,by simp only;omega,k0,by simp only;omega,wb.1,by simp only;omega⟩
 · rw[if_neg c]
   exact⟨ss,by simp only;omega,by simp only;omega,by simp only;omega,by simp only;omega,k0,by simp only;omega,wb.1,by simp only;omega⟩
abbrev tlH(e:aL)(m:bV)(r:Rdr)(x:Tru)(l:List Lk)(a:List Int):ag:=[e.obj,.box (aH m),.box [.t (tL r.pl),I r.per,I r.miss,I r.skew],.box (x.cs.map .t),.arr 4 false 0 ((l.map fun k=>k.q.e).map .t),.arr 1 false 0 ((a.map (T.int .i64)).map .t)]
structure TLI(m:bV)(r:Rdr)(l:List Lk)(a:List Int)(t:Int)(w:Wlk)(nu lo mi:Int):Prop where
 ok:(gv m r t w nu lo mi).ok
 la:(a.length:Int)=t-50
 tb:t≤10000
 lk:BR r (a++[oy r w]) l
 hm:0<l.length→mi=(nth l (l.length-1)).m∧lo=(nth l (l.length-1)).T∧nu=(nth l (l.length-1)).q.n∧lo≤t∧0≤nu
theorem TLI.tick{m:bV}{r:Rdr}{l:List Lk}{a:List Int}{t:Int}{w:Wlk}{nu lo mi:Int}(h:TLI m r l a t w nu lo mi)(ht:t+1≤10000):TLI m r l (a++[oy r w]) (t+1) (kv m 1 w) nu lo mi:=by
 refine⟨?_,?_,ht,h.lk.app _,fun hl=>?_⟩
 · have:=Dv h.ok 1
   rw[Pw (by omega)]at this
   exact this
 · have:=h.la
   rw[List.length_append,List.length_singleton];omega
 · obtain⟨h1,h2,h3,h4,h5⟩:=h.hm hl
   exact⟨h1,h2,h3,by omega,h5⟩
def tlI(m:bV)(r:Rdr)(l:List Lk)(nu lo mi t0:Int)(n S:Nat)(e:aL)(j:Nat)(st:St):Prop:=∃(a:List Int) (w:Wlk),TLI m r l a (t0+j) w nu lo mi∧
 st=⟨[.und,.und,.bp 0 0,.bp 1 0,.bp 2 0,.bp 3 0,.und,.ref 4 0 l.length,.ref 5 0 a.length,I n,I S,I j,.und,.und,.und,.und,.und,.und,.und,.und,.und,.und,.und],tlH e m r (gv m r (t0+j) w nu lo mi) l a⟩
theorem DD{np:Int}{m:bV}{r:Rdr}(hr:jP np r){l:List Lk}(hl:l.length≤100){a:List Int}{t:Int}{w:Wlk}{nu lo mi:Int}(h:TLI m r l a t w nu lo mi)(n S:Nat)(hS:S≤40)(ht:t+S≤10000)(e:aL)(z0 z1 z6 z12 z13 z14 z15 z16 z17 z18 z19 z20 z21 z22:D):
 ∃q,exS aX K.fC ⟨[z0,z1,.bp 0 0,.bp 1 0,.bp 2 0,.bp 3 0,z6,.ref 4 0 l.length,.ref 5 0 a.length,I n,I S,I 0,z12,z13,z14,z15,z16,z17,z18,z19,z20,z21,z22],tlH e m r (gv m r t w nu lo mi) l a⟩=some q∧∃st,tlI m r l nu lo mi t n S e S st∧q=(.exit 2,st):=by
 refine Ac (tlI m r l nu lo mi t n S e) S _ ⟨a,w,by simpa using h,by simp;rfl⟩ ?_ ?_
 · rintro j st hj ⟨a,w,h,rfl⟩
   left
   have hx:=h.tick (by omega)
   have tk:=Dr h.ok 1
   rw[Pw (by have:=h.tb;omega)]at tk
   have rl:=hr.l
   have hs:=zN r.pl w.place (by omega)
   have lb:=h.la
   have tb:=h.tb
   refine⟨_,?_,a++[oy r w],kv m 1 w,by rw[show t+((j+1:Nat):Int)=t+j+1 by omega];exact hx,rfl⟩
   rw[show t+((j+1:Nat):Int)=t+j+1 by omega]
   generalize t+(j:Int)=t' at*
   generalize kv m 1 w=w' at*
   unfold oy
   obtain⟨places,roads⟩:=m
   obtain⟨r1,r2,r3,r4⟩:=r
   obtain⟨w1,w2,w3⟩:=w
   simp only[tlH,aH,gv,Tru.e,Tru.cs,Rdr.e,Wlk.e,List.map_cons,List.map_nil,tL,tLL,LLe]at*
   by_cases c:w1∈r1
   · rw[if_pos c]
     rw[decide_eq_true c]at hs
     simp (disch:=omega) only[go_sem,K.dQ,↓reduceIte,hs,tk,List.length_append,List.length_singleton,List.map_append,List.map_cons,List.map_nil,Nat.reduceAdd,Nat.reduceSub]
   · rw[if_neg c]
     rw[decide_eq_false c]at hs
     simp (disch:=omega) only[go_sem,K.dQ,↓reduceIte,hs,tk,List.length_append,List.length_singleton,List.map_append,List.map_cons,List.map_nil,Nat.reduceAdd,Nat.reduceSub]
 · rintro st ⟨a,w,h,rfl⟩
   refine⟨_,?_,?_,_,⟨a,w,h,rfl⟩,rfl⟩
   · obtain⟨places,roads⟩:=m
     simp only[tlH,aH,gv,Tru.e,Tru.cs,Rdr.e,List.map_cons,List.map_nil,tL,tLL,LLe]
     simp (disch:=omega) only[go_sem,K.dQ,↓reduceIte,Nat.reduceAdd,Nat.reduceSub]
   · simp
abbrev okL(m:bV)(r:Rdr)(t:Int)(w:Wlk)(k:Lk)(nu mi:Int):Option (D×ag):=some (.tup [.t (gv m r t w nu t mi).e,.t k.q.e,I 0],[])
theorem wZ{np:Int}{m:bV}{r:Rdr}(hr:jP np r){l:List Lk}{a:List Int}{t:Int}{w:Wlk}{nu lo mi:Int}(h:TLI m r l a t w nu lo mi)(hs:0<l.length→lo<t)(t50:50≤t)(mm off:Int)(o1: -r.skew≤off)(o2:off≤r.skew)
 (hb:p9 (gv m r t w nu lo mi) 0 mm=false):∃(k:Lk) (nu' mi':Int),TLI m r (l++[k]) a t w nu' t mi'∧aX 0 N.ae [.t (gv m r t w nu lo mi).e,I 0,I mm,I off] []=okL m r t w k nu' mi'∧k.q.ok∧(k.q.s=true→w.place∈r.pl)∧max 0 (k.q.t-r.skew)≤t∧t≤k.q.t+r.skew:=by
 have k1:=hr.k1
 have k2:=hr.k2
 have tb:=h.tb
 have nb:(-1≤nu∧nu≤65535):=(h.ok.nb 0 (by simp[gv])).1
 have mb:0≤mi∧mi≤r.miss:=h.ok.mb 0 (by simp[gv]) 0 (by simp[gv])
 have q:=A4 h.ok 0 mm off (by simp[gv]) o1 o2 (show 0≤t+off by omega) (show t+off≤2147483648 by omega)
 rw[hb,if_neg (by simp)]at q
 have e1:nth (gv m r t w nu lo mi).readers 0=r:=rfl
 rw[e1,UX,Px]at q
 have b1:=hb
 rw[W8]at b1
 have lk:=h.lk.look hr h.la (by omega) o1 o2 mb.1 mb.2 (fun hl=>by
  obtain⟨h1,h2,h3,h4,h5⟩:=h.hm hl
  exact⟨h1,h2,h3,hs hl,h5⟩) nb b1
 have ok:=Dw h.ok (k:=0) (by simp[gv]) mm hb
 rw[Px]at ok
 have nt:=AZ h.ok (k:=0) (by simp[gv])
 have e2:rR (gv m r t w nu lo mi) 0=BS nu lo t r.per:=rfl
 rw[e2]at nt q
 refine⟨_,BS nu lo t r.per,if decide (w.place∈r.pl)&&eX mm 0 then mi+1 else 0,⟨ok,h.la,h.tb,lk,fun _=>?_⟩,?_,?_,?_,?_,?_⟩
 · rw[List.length_append,List.length_singleton,Nat.add_sub_cancel,kJ]
   exact⟨rfl,rfl,rfl,Int.le_refl _,nt.1⟩
 · exact q
 · exact⟨nt,by simp only;omega,by simp only;omega⟩
 · intro hk
   simp at hk
   exact hk.1
 · simp only;omega
 · simp only;omega
theorem Js{np:Int}{m:bV}{r:Rdr}(hr:jP np r){l:List Lk}{a:List Int}{t:Int}{w:Wlk}{nu lo mi:Int}(h:TLI m r l a t w nu lo mi)(hs:0<l.length→lo<t)(t50:50≤t)(mm off:Int)(o1: -r.skew≤off)(o2:off≤r.skew):
 ∃(k:Lk) (nu' mi':Int),TLI m r (l++[k]) a t w nu' t mi'∧(aX 0 N.ae [.t (gv m r t w nu lo mi).e,I 0,I mm,I off] []=okL m r t w k nu' mi'∨(aX 0 N.ae [.t (gv m r t w nu lo mi).e,I 0,I mm,I off] []=some (.tup [.t (gv m r t w nu lo mi).e,.t (iN 0 0 0 []),I 43],[])∧aX 0 N.ae [.t (gv m r t w nu lo mi).e,I 0,I 0,I 0] []=okL m r t w k nu' mi'))
  ∧k.q.ok∧(k.q.s=true→w.place∈r.pl)∧max 0 (k.q.t-r.skew)≤t∧t≤k.q.t+r.skew:=by
 have k1:=hr.k1
 have k2:=hr.k2
 have tb:=h.tb
 cases hb:p9 (gv m r t w nu lo mi) 0 mm with
 | false=>
   obtain⟨k,nu',mi',h1,h2,h3⟩:=wZ hr h hs t50 mm off o1 o2 hb
   exact⟨k,nu',mi',h1,.inl h2,h3⟩
 | true=>
   obtain⟨k,nu',mi',h1,h2,h3⟩:=wZ hr h hs t50 0 0 (by omega) (by omega) (A7 _ _)
   refine⟨k,nu',mi',h1,.inr ⟨?_,h2⟩,h3⟩
   have q:=A4 h.ok 0 mm off (by simp[gv]) o1 o2 (show 0≤t+off by omega) (show t+off≤2147483648 by omega)
   rw[hb,if_pos rfl]at q
   exact q
def tlO(m:bV)(r:Rdr)(n:Nat)(st:St):Prop:=∃(e:aL) (l:List Lk) (a:List Int) (t:Int) (w:Wlk) (nu lo mi:Int),e.dh∧l.length=n∧t≤50+40*n∧TLI m r l a t w nu lo mi∧
 st=⟨[.und,.und,.bp 0 0,.bp 1 0,.bp 2 0,.bp 3 0,.und,.ref 4 0 l.length,.ref 5 0 a.length,I n,.und,.und,.und,.und,.und,.und,.und,.und,.und,.und,.und,.und,.und],tlH e m r (gv m r t w nu lo mi) l a⟩
set_option maxHeartbeats 4000000 in
theorem DE{np:Int}{m:bV}(hm:m.ok)(h1:1≤m.roads.length){r:Rdr}(hr:jP np r){e:aL}(le:e.dh){w:Wlk}(h:TLI m r [] [] 50 w (-1) (-1) 0)(z0 z1 z6 z10 z11 z12 z13 z14 z15 z16 z17 z18 z19 z20 z21 z22:D):
 ∃q,exS aX K.ic ⟨[z0,z1,.bp 0 0,.bp 1 0,.bp 2 0,.bp 3 0,z6,.ref 4 0 0,.ref 5 0 0,I 0,z10,z11,z12,z13,z14,z15,z16,z17,z18,z19,z20,z21,z22],tlH e m r (gv m r 50 w (-1) (-1) 0) [] []⟩=some q∧∃st,tlO m r 60 st∧q=(.exit 0,st):=by
 have nr:=hm.nr
 have k1:=hr.k1
 have k2:=hr.k2
 refine Ac (tlO m r) 60 _ ⟨e,[],[],50,w, -1, -1,0,le,rfl,by omega,h,rfl⟩ ?_ ?_
 · rintro n st hn ⟨e,l,a,t,w,nu,lo,mi,le,ln,tn,h,rfl⟩
   left
   have la:=h.la
   obtain⟨S0,e1,s1,l1,sm⟩:=OR le [1,5,10,3] (by simp) (by simp)
   obtain⟨b1,e2,s2,l2⟩:=OQ l1 12 (by omega) (by omega)
   obtain⟨b2,e3,s3,l3⟩:=OQ l2 4 (by omega) (by omega)
   have S0b:1≤S0∧S0≤10:=by simp at sm;omega
   obtain⟨S1,rfl⟩:=Int.eq_ofNat_of_zero_le (show 0≤S0 by omega)
   have fin:∀(S:Nat) (e4:aL) (w4:Wlk),1≤S→S≤40→e4.dh→TLI m r l a t w4 nu lo mi→∃(mm of:Int) (e5 e6:aL) (a':List Int) (w':Wlk) (k:Lk) (nu' mi':Int),
    e6.dh∧TLI m r (l++[k]) a' (t+S) w' nu' (t+S) mi'∧
    exS aX K.fC ⟨[.und,.und,.bp 0 0,.bp 1 0,.bp 2 0,.bp 3 0,.und,.ref 4 0 l.length,.ref 5 0 a.length,I n,I S,I 0,.und,.und,.und,.und,.und,.und,.und,.und,.und,.und,.und],tlH e4 m r (gv m r t w4 nu lo mi) l a⟩=some (.exit 2,⟨[.und,.und,.bp 0 0,.bp 1 0,.bp 2 0,.bp 3 0,.und,.ref 4 0 l.length,.ref 5 0 a'.length,I n,I S,I S,.und,.und,.und,.und,.und,.und,.und,.und,.und,.und,.und],tlH e4 m r (gv m r (t+S) w' nu lo mi) l a'⟩)∧
    aX 0 N.aG [.bp 0 0,I 2] [e4.obj]=some (I mm,[e5.obj])∧aX 0 N.aG [.bp 0 0,I (2*r.skew+1)] [e5.obj]=some (I of,[e6.obj])∧(0≤of∧of≤10)∧
    (aX 0 N.ae [.t (gv m r (t+S) w' nu lo mi).e,I 0,I mm,I (of-r.skew)] []=okL m r (t+S) w' k nu' mi'∨(aX 0 N.ae [.t (gv m r (t+S) w' nu lo mi).e,I 0,I mm,I (of-r.skew)] []=some (.tup [.t (gv m r (t+S) w' nu lo mi).e,.t (iN 0 0 0 []),I 43],[])∧aX 0 N.ae [.t (gv m r (t+S) w' nu lo mi).e,I 0,I 0,I 0] []=okL m r (t+S) w' k nu' mi'))∧
    ((aX 0 N.ed [.t (.sl [r.e]),.t k.q.e] []=some (.tup [.t (.sl []),I 0],[]))∨aX 0 N.ed [.t (.sl [r.e]),.t k.q.e] []=some (.tup [.t (.sl [.agg [tI 0,tI 4,tI (max 0 (k.q.t-r.skew)),tI (k.q.t+r.skew)]]),I 0],[])∧max 0 (k.q.t-r.skew)≤t+S∧t+S≤k.q.t+r.skew∧aX 0 N.dn [.t (tL r.pl),I w'.place] []=some (B true,[])):=by
    intro S e4 w4 Sb Sb2 l4 h4
    obtain⟨mm,e5,m1,l5, -, -⟩:=qK l4 2 (by omega) (by omega)
    obtain⟨of,e6,m2,l6,of0,of1⟩:=qK l5 (2*r.skew+1) (by omega) (by omega)
    obtain⟨q,hq,st,⟨a',w',h5,rfl⟩,rfl⟩:=DD hr (by omega) h4 n S Sb2 (by omega) e4 .und .und .und .und .und .und .und .und .und .und .und .und .und .und
    have lt:0<l.length→lo<t+S:=fun hl=>by
     have:=(h.hm hl).2.2.2.1
     omega
    obtain⟨k,nu',mi',h6,h7,h8,h9,h10,h11⟩:=Js hr h5 lt (by omega) mm (of-r.skew) (by omega) (by omega)
    refine⟨mm,of,e5,e6,a',w',k,nu',mi',l6,h6,hq,m1,m2,⟨of0,by omega⟩,h7,?_⟩
    have sg:=A9 hr h8
    cases hk:k.q.s with
    | false=>rw[hk,if_neg (by simp)]at sg;exact .inl sg
    | true=>
      rw[hk,if_pos rfl]at sg
      have hs:=zN r.pl w'.place (by have:=hr.l;omega)
      rw[decide_eq_true (h9 hk)]at hs
      exact .inr ⟨sg,h10,h11,hs⟩
   cases b1 with
   | false=>cases b2 with
     | false=>
       obtain⟨mm,of,e5,e6,a',w',k,nu',mi',l6,h6,hq,m1,m2,ob,lk,sg⟩:=fin S1 e3 w (by omega) (by omega) l3 h
       refine⟨_,?_,e6,l++[k],a',t+S1,w',nu',t+S1,mi',l6,by simp[ln],by omega,h6,rfl⟩
       clear fin h h6
       generalize t+((S1:Nat):Int)=t2 at*
       obtain⟨places,roads⟩:=m
       obtain⟨r1,r2,r3,r4⟩:=r
       simp only[tlH,aH,gv,Tru.e,Tru.cs,Rdr.e,Rq.e,Wlk.e,iN,okL,List.map_cons,List.map_nil,tL,tLL,LLe]at*
       rcases lk with lk | ⟨lk,lk2⟩
       · rcases sg with sg | ⟨sg,s5,s6,s7⟩
         · simp (disch:=omega) only[go_sem,K.aI,↓reduceIte,s1,s2,s3,hq,m1,m2,lk,sg,gt_iff_lt,List.length_append,List.length_singleton,List.map_append,List.map_cons,List.map_nil,Nat.reduceAdd,Nat.reduceSub]
         · simp (disch:=omega) only[go_sem,K.aI,↓reduceIte,s1,s2,s3,hq,m1,m2,lk,sg,s7,gt_iff_lt,List.length_append,List.length_singleton,List.map_append,List.map_cons,List.map_nil,Nat.reduceAdd,Nat.reduceSub]
       · rcases sg with sg | ⟨sg,s5,s6,s7⟩
         · simp (disch:=omega) only[go_sem,K.aI,↓reduceIte,s1,s2,s3,hq,m1,m2,lk,lk2,sg,gt_iff_lt,List.length_append,List.length_singleton,List.map_append,List.map_cons,List.map_nil,Nat.reduceAdd,Nat.reduceSub]
         · simp (disch:=omega) only[go_sem,K.aI,↓reduceIte,s1,s2,s3,hq,m1,m2,lk,lk2,sg,s7,gt_iff_lt,List.length_append,List.length_singleton,List.map_append,List.map_cons,List.map_nil,Nat.reduceAdd,Nat.reduceSub]
     | true=>
       obtain⟨rd,e4,n1,l4,rd0,rd1⟩:=qK l3 m.roads.length (by omega) (by omega)
       obtain⟨ex,e5',n2,l5, -⟩:=OR l4 [0,9] (by simp) (by simp)
       have en:=tO h.ok 0 rd ex
       obtain⟨w4,en1,en2⟩:=Fe m r t w nu lo mi rd ex
       have h4:TLI m r l a t w4 nu lo mi:=⟨by rw[← en1];exact tQ h.ok 0 rd ex,h.la,h.tb,by unfold oy;rw[en2];exact h.lk,h.hm⟩
       rw[en1]at en
       generalize (mS (gv m r t w nu lo mi) 0 rd ex).2=en3 at en
       obtain⟨mm,of,e5,e6,a',w',k,nu',mi',l6,h6,hq,m1,m2,ob,lk,sg⟩:=fin S1 e5' w4 (by omega) (by omega) l5 h4
       clear en1 h4
       refine⟨_,?_,e6,l++[k],a',t+S1,w',nu',t+S1,mi',l6,by simp[ln],by omega,h6,rfl⟩
       clear fin h h6
       generalize t+((S1:Nat):Int)=t2 at*
       obtain⟨places,roads⟩:=m
       obtain⟨r1,r2,r3,r4⟩:=r
       simp only[tlH,aH,gv,Tru.e,Tru.cs,Rdr.e,Rq.e,Wlk.e,iN,okL,List.map_cons,List.map_nil,tL,tLL,LLe]at*
       rcases lk with lk | ⟨lk,lk2⟩
       · rcases sg with sg | ⟨sg,s5,s6,s7⟩
         · simp (disch:=omega) only[go_sem,K.aI,↓reduceIte,s1,s2,s3,n1,n2,en,hq,m1,m2,lk,sg,gt_iff_lt,List.length_append,List.length_singleton,List.map_append,List.map_cons,List.map_nil,Nat.reduceAdd,Nat.reduceSub]
         · simp (disch:=omega) only[go_sem,K.aI,↓reduceIte,s1,s2,s3,n1,n2,en,hq,m1,m2,lk,sg,s7,gt_iff_lt,List.length_append,List.length_singleton,List.map_append,List.map_cons,List.map_nil,Nat.reduceAdd,Nat.reduceSub]
       · rcases sg with sg | ⟨sg,s5,s6,s7⟩
         · simp (disch:=omega) only[go_sem,K.aI,↓reduceIte,s1,s2,s3,n1,n2,en,hq,m1,m2,lk,lk2,sg,gt_iff_lt,List.length_append,List.length_singleton,List.map_append,List.map_cons,List.map_nil,Nat.reduceAdd,Nat.reduceSub]
         · simp (disch:=omega) only[go_sem,K.aI,↓reduceIte,s1,s2,s3,n1,n2,en,hq,m1,m2,lk,lk2,sg,s7,gt_iff_lt,List.length_append,List.length_singleton,List.map_append,List.map_cons,List.map_nil,Nat.reduceAdd,Nat.reduceSub]
   | true=>cases b2 with
     | false=>
       obtain⟨mm,of,e5,e6,a',w',k,nu',mi',l6,h6,hq,m1,m2,ob,lk,sg⟩:=fin 40 e3 w (by omega) (by omega) l3 h
       simp only[show((40:Nat):Int)=40 from rfl]at hq h6 lk sg
       refine⟨_,?_,e6,l++[k],a',t+40,w',nu',t+40,mi',l6,by simp[ln],by omega,h6,rfl⟩
       clear fin h h6
       generalize t+(40:Int)=t2 at*
       obtain⟨places,roads⟩:=m
       obtain⟨r1,r2,r3,r4⟩:=r
       simp only[tlH,aH,gv,Tru.e,Tru.cs,Rdr.e,Rq.e,Wlk.e,iN,okL,List.map_cons,List.map_nil,tL,tLL,LLe]at*
       rcases lk with lk | ⟨lk,lk2⟩
       · rcases sg with sg | ⟨sg,s5,s6,s7⟩
         · simp (disch:=omega) only[go_sem,K.aI,↓reduceIte,s1,s2,s3,hq,m1,m2,lk,sg,gt_iff_lt,List.length_append,List.length_singleton,List.map_append,List.map_cons,List.map_nil,Nat.reduceAdd,Nat.reduceSub]
         · simp (disch:=omega) only[go_sem,K.aI,↓reduceIte,s1,s2,s3,hq,m1,m2,lk,sg,s7,gt_iff_lt,List.length_append,List.length_singleton,List.map_append,List.map_cons,List.map_nil,Nat.reduceAdd,Nat.reduceSub]
       · rcases sg with sg | ⟨sg,s5,s6,s7⟩
         · simp (disch:=omega) only[go_sem,K.aI,↓reduceIte,s1,s2,s3,hq,m1,m2,lk,lk2,sg,gt_iff_lt,List.length_append,List.length_singleton,List.map_append,List.map_cons,List.map_nil,Nat.reduceAdd,Nat.reduceSub]
         · simp (disch:=omega) only[go_sem,K.aI,↓reduceIte,s1,s2,s3,hq,m1,m2,lk,lk2,sg,s7,gt_iff_lt,List.length_append,List.length_singleton,List.map_append,List.map_cons,List.map_nil,Nat.reduceAdd,Nat.reduceSub]
     | true=>
       obtain⟨rd,e4,n1,l4,rd0,rd1⟩:=qK l3 m.roads.length (by omega) (by omega)
       obtain⟨ex,e5',n2,l5, -⟩:=OR l4 [0,9] (by simp) (by simp)
       have en:=tO h.ok 0 rd ex
       obtain⟨w4,en1,en2⟩:=Fe m r t w nu lo mi rd ex
       have h4:TLI m r l a t w4 nu lo mi:=⟨by rw[← en1];exact tQ h.ok 0 rd ex,h.la,h.tb,by unfold oy;rw[en2];exact h.lk,h.hm⟩
       rw[en1]at en
       generalize (mS (gv m r t w nu lo mi) 0 rd ex).2=en3 at en
       obtain⟨mm,of,e5,e6,a',w',k,nu',mi',l6,h6,hq,m1,m2,ob,lk,sg⟩:=fin 40 e5' w4 (by omega) (by omega) l5 h4
       simp only[show((40:Nat):Int)=40 from rfl]at hq h6 lk sg
       clear en1 h4
       refine⟨_,?_,e6,l++[k],a',t+40,w',nu',t+40,mi',l6,by simp[ln],by omega,h6,rfl⟩
       clear fin h h6
       generalize t+(40:Int)=t2 at*
       obtain⟨places,roads⟩:=m
       obtain⟨r1,r2,r3,r4⟩:=r
       simp only[tlH,aH,gv,Tru.e,Tru.cs,Rdr.e,Rq.e,Wlk.e,iN,okL,List.map_cons,List.map_nil,tL,tLL,LLe]at*
       rcases lk with lk | ⟨lk,lk2⟩
       · rcases sg with sg | ⟨sg,s5,s6,s7⟩
         · simp (disch:=omega) only[go_sem,K.aI,↓reduceIte,s1,s2,s3,n1,n2,en,hq,m1,m2,lk,sg,gt_iff_lt,List.length_append,List.length_singleton,List.map_append,List.map_cons,List.map_nil,Nat.reduceAdd,Nat.reduceSub]
         · simp (disch:=omega) only[go_sem,K.aI,↓reduceIte,s1,s2,s3,n1,n2,en,hq,m1,m2,lk,sg,s7,gt_iff_lt,List.length_append,List.length_singleton,List.map_append,List.map_cons,List.map_nil,Nat.reduceAdd,Nat.reduceSub]
       · rcases sg with sg | ⟨sg,s5,s6,s7⟩
         · simp (disch:=omega) only[go_sem,K.aI,↓reduceIte,s1,s2,s3,n1,n2,en,hq,m1,m2,lk,lk2,sg,gt_iff_lt,List.length_append,List.length_singleton,List.map_append,List.map_cons,List.map_nil,Nat.reduceAdd,Nat.reduceSub]
         · simp (disch:=omega) only[go_sem,K.aI,↓reduceIte,s1,s2,s3,n1,n2,en,hq,m1,m2,lk,lk2,sg,s7,gt_iff_lt,List.length_append,List.length_singleton,List.map_append,List.map_cons,List.map_nil,Nat.reduceAdd,Nat.reduceSub]
 · rintro st ⟨e,l,a,t,w,nu,lo,mi,le,ln,tn,h,rfl⟩
   refine⟨_,?_,?_,_,⟨e,l,a,t,w,nu,lo,mi,le,ln,tn,h,rfl⟩,rfl⟩
   · obtain⟨places,roads⟩:=m
     simp only[tlH,aH,gv,Tru.e,Tru.cs,Rdr.e,List.map_cons,List.map_nil,tL,tLL,LLe]
     simp (disch:=omega) only[go_sem,K.aI,↓reduceIte,Nat.reduceAdd,Nat.reduceSub]
   · simp
theorem yb{np:Int}{r:Rdr}(hr:jP np r):aX 0 N.dL [.t r.e] []=some (I ((r.miss+1)*r.per),[]):=by
 refine aO K.jM rfl ?_
 have p1:=hr.p1;have p2:=hr.p2;have m1:=hr.m1;have m2:=hr.m2
 obtain⟨r1,r2,r3,r4⟩:=r
 simp only at*
 have b0:0≤(r3+1)*r2:=Int.mul_nonneg (by omega) (by omega)
 have b1:(r3+1)*r2≤3*r2:=Int.mul_le_mul_of_nonneg_right (by omega) (by omega)
 simp (disch:=omega) only[go_sem,K.dL,↓reduceIte,Nat.reduceAdd,Nat.reduceSub]
abbrev tlG(e:aL)(m:bV)(r:Rdr)(x:Tru)(l:List Lk)(a:List Int):ag:=[e.obj,.box (aH m),.box [.t (tL r.pl),I r.per,I r.miss,I r.skew],.box (x.cs.map .t),.arr 4 true 0 ((l.map fun k=>k.q.e).map .t),.arr 1 false 0 ((a.map (T.int .i64)).map .t)]
def tlW(e:aL)(m:bV)(r:Rdr)(x:Tru)(l:List Lk)(a:List Int)(out:List Ab)(i:Nat)(ab:Ab)(n:Nat)(st:St):Prop:=∃s c:Int,ab.f≤s-c∧0≤c∧0≤ab.f∧s≤10000∧(∀v,s-c≤v→v<s→50≤v∧v-50<a.length∧atX a v=1)∧n=(ab.t-s).toNat∧
 st=⟨[.und,.und,.und,.und,.bp 2 0,.und,.und,.und,.ref 5 0 a.length,.und,.und,.und,.und,.und,.und,.und,.und,.und,.t (.sl (out.map Ab.e)),I 0,I i,I c,I s],tlG e m r x l a⟩
theorem Jt{np:Int}(e:aL)(m:bV){r:Rdr}(hr:jP np r)(x:Tru)(l:List Lk)(a:List Int)(ha:a.length≤9000)(w:Wlk)(hl:BR r (a++[oy r w]) l)(out:List Ab)(i:Nat)(hi:i<out.length)(ho:Pv r (l.map Lk.q) (nth out i)):
 ∃q,exS aX K.ie ⟨[.und,.und,.und,.und,.bp 2 0,.und,.und,.und,.ref 5 0 a.length,.und,.und,.und,.und,.und,.und,.und,.und,.und,.t (.sl (out.map Ab.e)),I 0,I i,I 0,I (nth out i).f],tlG e m r x l a⟩=some q∧
  ∃s c:D,q=(.exit 6,⟨[.und,.und,.und,.und,.bp 2 0,.und,.und,.und,.ref 5 0 a.length,.und,.und,.und,.und,.und,.und,.und,.und,.und,.t (.sl (out.map Ab.e)),I 0,I i,c,s],tlG e m r x l a⟩):=by
 obtain⟨b,k,hbk,hk,hu,hf,hf1,hf2⟩:=ho
 rw[List.length_map]at hk
 have nm:∀j,j<l.length→nth (l.map Lk.q) j=(nth l j).q:=fun j hj=>eH (aU _ hj)
 have hu:∀j,b≤j→j≤k→(nth l j).q.s=false:=fun j h1 h2=>by have:=hu j h1 h2;rw[nm j (by omega)]at this;exact this
 have hf:∀j,b≤j→j<k→Dy r (nth l j).q (nth l (j+1)).q=true:=fun j h1 h2=>by have:=hf j h1 h2;rw[nm j (by omega),nm (j+1) (by omega)]at this;exact this
 rw[nm b (by omega)]at hf1
 rw[nm k hk]at hf2
 have ob:=hl.off b (by omega)
 have ok:=hl.off k hk
 have tb:=hl.t0 b (by omega)
 have tk:=hl.t0 k hk
 rw[List.length_append,List.length_singleton]at tb tk
 have k1:=hr.k1;have k2:=hr.k2
 have p1:=hr.p1;have p2:=hr.p2;have m1:=hr.m1;have m2:=hr.m2
 have b0:0≤(r.miss+1)*r.per:=Int.mul_nonneg (by omega) (by omega)
 have b1:(r.miss+1)*r.per≤3*r.per:=Int.mul_le_mul_of_nonneg_right (by omega) (by omega)
 have bl:=yb hr
 have ex:(out.map Ab.e)[i]?=some (nth out i).e:=aU _ hi
 generalize nth out i=ab at*
 refine A8 (tlW e m r x l a out i ab) (ab.t-ab.f).toNat _ ⟨ab.f,0,by omega,by omega,by omega,by omega,fun v h1 h2=>by omega,rfl,rfl⟩ ?_
 rintro n st ⟨s,c,c1,c2,c3,c4,c5,rfl,rfl⟩
 by_cases d1:s<ab.t
 · by_cases d2:s-50<a.length
   · left
     by_cases d3:50≤s
     · have es:((a.map (T.int .i64)).map D.t)[(s-50).toNat]?=some (I (atX a s)):=by
        rw[List.getElem?_map,aU _ (by omega)];rfl
       by_cases d4:atX a s=1
       · have hq:=DB hr hl hbk hk hu hf (s0:=s-c) (s:=s) (by omega) (by omega) (fun v h1 h2=>by
          have e1:∀v:Int,50≤v→v-50<a.length→atX (a++[oy r w]) v=atX a v:=fun v h1 h2=>by
           unfold atX
           rw[gw a _ (by omega)]
          by_cases ce:v=s
          · rw[ce,e1 s d3 d2];exact d4
          · obtain⟨f1,f2,f3⟩:=c5 v h1 (by omega)
            rw[e1 v f1 f2];exact f3) (by omega)
         have nb:¬(c+1>(r.miss+1)*r.per):=by omega
         refine⟨_,(ab.t-(s+1)).toNat,by omega,?_,s+1,c+1,by omega,by omega,c3,by omega,fun v h1 h2=>?_,rfl,rfl⟩
         · rw[d4]at es
           generalize (r.miss+1)*r.per=B at*
           obtain⟨places,roads⟩:=m
           obtain⟨r1,r2,r3,r4⟩:=r
           obtain⟨⟨xp,xr⟩,time,people,tags,readers,numbers,looked,missed⟩:=x
           simp only[tlG,aH,Tru.cs,Rdr.e,List.map_cons,List.map_nil,tL,gt_iff_lt]at*
           simp (disch:=omega) only[go_sem,K.cB,↓reduceIte,ex,es,d1,d2,d3,nb,bl,ge_iff_le,gt_iff_lt,Nat.reduceAdd,Nat.reduceSub]
         · by_cases ce:v=s
           · rw[ce];exact⟨d3,d2,d4⟩
           · exact c5 v (by omega) (by omega)
       · refine⟨_,(ab.t-(s+1)).toNat,by omega,?_,s+1,0,by omega,by omega,c3,by omega,fun v h1 h2=>by omega,rfl,rfl⟩
         have nb:¬(0>(r.miss+1)*r.per):=by omega
         generalize (r.miss+1)*r.per=B at*
         generalize atX a s=av at*
         obtain⟨places,roads⟩:=m
         obtain⟨r1,r2,r3,r4⟩:=r
         obtain⟨⟨xp,xr⟩,time,people,tags,readers,numbers,looked,missed⟩:=x
         simp only[tlG,aH,Tru.cs,Rdr.e,List.map_cons,List.map_nil,tL,gt_iff_lt]at*
         simp (disch:=omega) only[go_sem,K.cB,↓reduceIte,ex,es,d1,d2,d3,d4,nb,bl,ge_iff_le,gt_iff_lt,Nat.reduceAdd,Nat.reduceSub]
     · refine⟨_,(ab.t-(s+1)).toNat,by omega,?_,s+1,0,by omega,by omega,c3,by omega,fun v h1 h2=>by omega,rfl,rfl⟩
       have nb:¬(0>(r.miss+1)*r.per):=by omega
       generalize (r.miss+1)*r.per=B at*
       obtain⟨places,roads⟩:=m
       obtain⟨r1,r2,r3,r4⟩:=r
       obtain⟨⟨xp,xr⟩,time,people,tags,readers,numbers,looked,missed⟩:=x
       simp only[tlG,aH,Tru.cs,Rdr.e,List.map_cons,List.map_nil,tL,gt_iff_lt]at*
       simp (disch:=omega) only[go_sem,K.cB,↓reduceIte,ex,d1,d2,d3,nb,bl,ge_iff_le,gt_iff_lt,Nat.reduceAdd,Nat.reduceSub]
   · right
     refine⟨_,?_,?_,I s,I c,rfl⟩
     · obtain⟨places,roads⟩:=m
       obtain⟨⟨xp,xr⟩,time,people,tags,readers,numbers,looked,missed⟩:=x
       simp only[tlG,aH,Tru.cs,List.map_cons,List.map_nil,tL]
       simp (disch:=omega) only[go_sem,K.cB,↓reduceIte,ex,d1,d2,Nat.reduceAdd,Nat.reduceSub]
     · simp
 · right
   refine⟨_,?_,?_,I s,I c,rfl⟩
   · obtain⟨places,roads⟩:=m
     obtain⟨⟨xp,xr⟩,time,people,tags,readers,numbers,looked,missed⟩:=x
     simp only[tlG,aH,Tru.cs,List.map_cons,List.map_nil,tL]
     simp (disch:=omega) only[go_sem,K.cB,↓reduceIte,ex,d1,Nat.reduceAdd,Nat.reduceSub]
   · simp
def tlE(e:aL)(m:bV)(r:Rdr)(x:Tru)(l:List Lk)(a:List Int)(out:List Ab)(i:Nat)(st:St):Prop:=
 st=⟨[.und,.und,.und,.und,.bp 2 0,.und,.und,.und,.ref 5 0 a.length,.und,.und,.und,.und,.und,.und,.und,.und,.und,.t (.sl (out.map Ab.e)),I 0,I i,.und,.und],tlG e m r x l a⟩
theorem Py{np:Int}(e:aL)(m:bV){r:Rdr}(hr:jP np r)(x:Tru)(l:List Lk)(a:List Int)(ha:a.length≤9000)(w:Wlk)(hl:BR r (a++[oy r w]) l)(out:List Ab)(ho:∀b∈out,Pv r (l.map Lk.q) b)(hn:out.length≤100)(z0 z1 z2 z3 z5 z6 z7 z9 z10 z11 z12 z13 z14 z15 z16 z17 z21 z22:D):
 ∃q,exS aX K.ig ⟨[z0,z1,z2,z3,.bp 2 0,z5,z6,z7,.ref 5 0 a.length,z9,z10,z11,z12,z13,z14,z15,z16,z17,.t (.sl (out.map Ab.e)),I 0,I 0,z21,z22],tlG e m r x l a⟩=some q∧∃st,tlE e m r x l a out out.length st∧q=(.exit 4,st):=by
 refine Ac (tlE e m r x l a out) out.length _ (by simp only[tlE,dj,List.set_cons_zero,List.set_cons_succ,Int.natCast_zero]) ?_ ?_
 · rintro i st hi rfl
   left
   refine⟨_,?_,rfl⟩
   obtain⟨q,hq,s,c,rfl⟩:=Jt e m hr x l a ha w hl out i hi (ho _ (bA hi))
   have ex:(out.map Ab.e)[i]?=some (nth out i).e:=aU _ hi
   generalize nth out i=ab at*
   obtain⟨places,roads⟩:=m
   obtain⟨⟨xp,xr⟩,time,people,tags,readers,numbers,looked,missed⟩:=x
   simp only[tlG,aH,Tru.cs,List.map_cons,List.map_nil,tL]at*
   simp (disch:=omega) only[go_sem,K.eW,↓reduceIte,ex,hq,Nat.reduceAdd,Nat.reduceSub]
 · rintro st rfl
   refine⟨_,?_,?_,_,rfl,rfl⟩
   · obtain⟨places,roads⟩:=m
     obtain⟨⟨xp,xr⟩,time,people,tags,readers,numbers,looked,missed⟩:=x
     simp only[tlG,aH,Tru.cs,List.map_cons,List.map_nil,tL]
     simp (disch:=omega) only[go_sem,K.eW,↓reduceIte,Nat.reduceAdd,Nat.reduceSub]
   · simp
theorem Bb:fA [4]=true:=pP.2 ⟨by simp,by simp⟩
theorem BT(aw:aX 0 N.dK [] []=some (B true,[]))(li:List Int):aX 0 N.bG [.t (tL li)] []=some (B true,[]):=by
 refine aO K.fT rfl ?_
 have lo:=CK li
 by_cases c:li.length≤400
 · simp only[c,decide_true]at lo
   have ro:=OP li
   have d0:(aL.mk li 0).dh:=c
   generalize (aL.mk li 0)=d at*
   obtain⟨m,e1,mo,l1,hm,p1,p2,r1,r2⟩:=OS d0
   obtain⟨s,o,k,w,f1,f2,f3,f4,g1,g2,g3,g4,l2,ob,hr⟩:=Ba l1 (n:=m.places.length) (by omega) (by omega)
   obtain⟨p,f5,g5,l3,q1,q2⟩:=qK l2 m.places.length (by omega) (by omega)
   generalize hrd:(⟨if s.length=0 then [0]else s,1+o,k,w⟩:Rdr)=r at hr
   have ok0:=A3 hm (by omega) (l:=[r]) (by simp) (fun x hx=>by rw[List.mem_singleton.1 hx];exact hr) (at':=[p]) (tags:=[4]) (by simp) (by simp) (fun x hx=>by rw[List.mem_singleton.1 hx];exact⟨q1,q2⟩) rfl Bb (t:=50) (by omega) (by omega)
   have st0:tR m [r] [p] [4] 50=(oe m [r] [p] [4] 50,0):=by
    have rb:tK m [r]=true:=ok0.Wa
    have an:(([p]:List Int).any fun p=> !decide (0≤p∧p≤(m.places.length:Int)-1))=false:=by
     rw[List.any_eq_false]
     intro x hx
     rw[List.mem_singleton.1 hx,decide_eq_true (by omega)]
     decide
    unfold tR
    rw[rb,an,Bb,if_neg (by simp),if_neg (by simp),if_neg (by simp),if_neg (by omega)]
   have s2:=A2 hm [r] [p] [4] 50 (by simp) (fun x hx=>by rw[List.mem_singleton.1 hx];have:=hr.l;omega) (by simp) (by simp)
   rw[st0]at s2
   have e0:oe m [r] [p] [4] 50=gv m r 50 ⟨p, -1,0⟩ (-1) (-1) 0:=rfl
   rw[e0]at s2 ok0
   have I0:TLI m r [] [] 50 ⟨p, -1,0⟩ (-1) (-1) 0:=⟨ok0,rfl,by omega,⟨fun j hj=>absurd hj (by simp),fun j hj=>absurd hj (by simp),fun j hj=>absurd hj (by simp),fun j hj=>absurd hj (by simp),fun j hj=>absurd hj (by simp),fun x hx=>absurd hx (by simp)⟩,fun h=>absurd h (by simp)⟩
   obtain⟨q,hq,st,⟨e9,l,a,t,w9,nu,lo9,mi,l9,ln,tn,h9,rfl⟩,rfl⟩:=DE hm r1 hr l3 I0 (.t (tL li)) (B false) (I 0) .und .und .und .und .und .und .und .und .und .und .und .und .und
   have la:=h9.la
   have ok9:∀y∈l.map Lk.q,y.ok:=fun y hy=>by
    obtain⟨k,hk,rfl⟩:=List.mem_map.1 hy
    exact h9.lk.ok k hk
   obtain⟨out,ho,on,ab⟩:=vE hr (l:=l.map Lk.q) (by rw[List.length_map];omega) ok9
   have em:(l.map Lk.q).map Rq.e=l.map fun k=>k.q.e:=List.map_map
   rw[em]at ab
   obtain⟨q2,hq2,st,rfl,rfl⟩:=Py e9 m hr (gv m r t w9 nu lo9 mi) l a (by omega) w9 h9.lk out ho on .und .und (.bp 0 0) (.bp 1 0) (.bp 3 0) .und (.ref 4 0 l.length) (I (60:Nat)) .und .und .und .und .und .und .und .und .und .und
   by_cases cs:s.length=0
   · rw[if_pos cs]at hrd
     subst hrd
     obtain⟨places,roads⟩:=m
     simp only[tlH,tlG,aH,bV.e,gv,Tru.e,Tru.cs,Rdr.e,Wlk.e,List.map_cons,List.map_nil,tL,tLL,LLe]at*
     simp (disch:=omega) only[go_sem,K.bG,↓reduceIte,lo,aw,ro,mo,g1,g2,g3,g4,g5,cs,s2,hq,ab,hq2,Nat.reduceAdd,Nat.reduceSub]
   · rw[if_neg cs]at hrd
     subst hrd
     obtain⟨places,roads⟩:=m
     simp only[tlH,tlG,aH,bV.e,gv,Tru.e,Tru.cs,Rdr.e,Wlk.e,List.map_cons,List.map_nil,tL,tLL,LLe]at*
     simp (disch:=omega) only[go_sem,K.bG,↓reduceIte,lo,aw,ro,mo,g1,g2,g3,g4,g5,cs,s2,hq,ab,hq2,Nat.reduceAdd,Nat.reduceSub]
 · simp only[c,decide_false]at lo
   simp (disch:=omega) only[go_sem,K.bG,↓reduceIte,lo,aw,Nat.reduceAdd,Nat.reduceSub]
end Go.Ev
