/- Parts of the proof: see the text that holds the theorem. -/
import Derived.Test.YtafioeehabcnhaaZ5
set_option linter.all false
namespace Go.Ev
open Go
variable [Lib] [bT] [bU] [dL] [dI] [fP] [dF] [dC] [eO] [eD] [cE] [cO] [ea] [eb] [fT] [fw] [fH] [dU] [ec]
def uH(x:Tru)(a b d:Rdr)(p p2 p3:List Int)(m off:Int)(oN oL:Obj)(num:Int)(j:Nat)(st:St):Prop:=∃W:List Wlk,W.length≤j∧(∀i,i<j→(cV x.people a.pl a.miss m p) i=false)∧st=⟨[.und,I 0,I m,.und,.bp 0 0,.bp 1 0,.bp 2 0,.und,.bp 3 0,.bp 11 0,.und,.und,.bp 12 0,.und,.und,.und,.und,.und,.t (.sl (x.people.map Wlk.e)),I x.people.length,I j],[.box (x.cs.map .t),.box ae,.box [I 0,I 0,I 0,.nil],.box [.t (tL a.pl),I a.per,I a.miss,I a.skew],.arr 4 false 0 [.t a.e,.t b.e,.t d.e],oN,oL,.arr 1 false 0 [.ref 8 0 p.length,.ref 9 0 p2.length,.ref 10 0 p3.length],arI (a7 (bI x.people a.pl m p) p j),arI p2,arI p3,.box (au 4 x),.box [I 0,I num,I (x.time+off),.ref 14 0 (aL x.people a.pl m x.tags j).length],.arr 1 false 0 [],arI (aL x.people a.pl m x.tags j)]++(W.map fun w=> .box [I w.place,I w.kT,I w.left])⟩
def Dt(x:Tru)(a b d:Rdr)(p p2 p3:List Int)(m off:Int)(oN oL:Obj)(num:Int)(q:Ex×St):Prop:=((List.range x.people.length).any (cV x.people a.pl a.miss m p)=true∧∃(v0 v3 v8 v9 v10:D) (vr:List D) (rest:aj),q=(.ret,⟨v0::I 0::I m::v3:: .bp 0 0:: .bp 1 0:: .bp 2 0::I 43::vr,.box (x.cs.map .t):: .box (x.cs.map .t):: .box [I 0,I 0,I 0,.nil]::rest⟩))∨((List.range x.people.length).any (cV x.people a.pl a.miss m p)=false∧∃st,uH x a b d p p2 p3 m off oN oL num x.people.length st∧q=(.exit 1,st))
theorem LQ{x:Tru}(h:x.ok){a b d:Rdr}{p p2 p3:List Int}(e1:x.readers=[a,b,d])(e2:x.missed=[p,p2,p3])(m off:Int)(oN oL:Obj)(num:Int)(j:Nat)(st:St)(hj:j<x.people.length)(hp:uH x a b d p p2 p3 m off oN oL num j st):
 (∃st',eB false [0,3,7,10,11,13,14,15,16,17] st.H.length (exS aT K.aa st)=some st'∧uH x a b d p p2 p3 m off oN oL num (j+1) st')∨∃q,exS aT K.aa st=some q∧q.1≠ .normal∧Dt x a b d p p2 p3 m off oN oL num q:=by
 have n3:=h.n3
 have tl:=h.tl
 have nl:=h.nl
 have ll:=h.ll
 have t0:=h.t0
 have t1:=h.t1
 have nb:=h.nb 0 (by rw[e1];simp)
 have mb:=h.mb 0 (by rw[e1];simp)
 have m2:=h.m2 0 (by rw[e1];simp)
 have rk:nth x.readers 0=a:=by rw[e1];rfl
 have mk:nth x.missed 0=p:=by rw[e2];rfl
 have ml:x.missed.length=3:=by rw[e2];rfl
 have rn:x.readers.length=3:=by rw[e1];rfl
 have ro:=h.r a (by rw[e1];simp)
 rw[rk,mk]at mb
 rw[mk]at m2
 obtain⟨rs,rl,rl1,rp1,rp2,rm1,rm2,rk1,rk2⟩:=ro
 have ex:(x.people.map Wlk.e)[j]?=some (nth x.people j).e:=aD _ hj
 have et:(x.tags.map (T.int .i64))[j]?=some (tI (nth x.tags j)):=aD _ (by omega)
 have hs:=iF a.pl (nth x.people j).place (by omega)
 have mbj:=mb j hj
 have sh:=ko m j
 have an:=fJ m j
 obtain⟨W,wl,hb,rfl⟩:=hp
 have ql:=cD (bI x.people a.pl m p) p j
 have qj:=iI (bI x.people a.pl m p) p j j (Nat.le_refl _)
 have sl:=eH x.people a.pl m x.tags j
 by_cases hq:(cV x.people a.pl a.miss m p) j=true
 · have anyb:(List.range x.people.length).any (cV x.people a.pl a.miss m p)=true:=List.any_eq_true.2 ⟨j,List.mem_range.2 hj,hq⟩
   unfold cV bO eP at hq
   simp only[Bool.and_eq_true,decide_eq_true_eq]at hq
   obtain⟨⟨h1,h2⟩,h3⟩:=hq
   generalize a7 _ p j=q at*
   generalize aL x.people a.pl m x.tags j=g at*
   rw[← qj]at h3
   have nse:nth (q.set j (nth q j+1)) j=nth q j+1:=aK (by omega)
   rw[decide_eq_true h1]at hs
   have key:∃(v0 v3:D) (vr:List D) (rest:aj),exS aT K.aa ⟨[.und,I 0,I m,.und,.bp 0 0,.bp 1 0,.bp 2 0,.und,.bp 3 0,.bp 11 0,.und,.und,.bp 12 0,.und,.und,.und,.und,.und,.t (.sl (x.people.map Wlk.e)),I x.people.length,I j],[.box (x.cs.map .t),.box ae,.box [I 0,I 0,I 0,.nil],.box [.t (tL a.pl),I a.per,I a.miss,I a.skew],.arr 4 false 0 [.t a.e,.t b.e,.t d.e],oN,oL,.arr 1 false 0 [.ref 8 0 p.length,.ref 9 0 p2.length,.ref 10 0 p3.length],arI q,arI p2,arI p3,.box (au 4 x),.box [I 0,I num,I (x.time+off),.ref 14 0 g.length],.arr 1 false 0 [],arI g]++(W.map fun w=> .box [I w.place,I w.kT,I w.left])⟩=some (.ret,⟨v0::I 0::I m::v3:: .bp 0 0:: .bp 1 0:: .bp 2 0::I 43::vr,.box (x.cs.map .t):: .box (x.cs.map .t):: .box [I 0,I 0,I 0,.nil]::rest⟩):=by
    generalize nth x.people j=y at*
    obtain⟨y1,y2,y3⟩:=y
    rcases W with _ | ⟨w,_ | ⟨w2,_ | ⟨w3,W⟩⟩⟩
    · obtain⟨⟨places,roads⟩,time,people,tags,readers,numbers,looked,missed⟩:=x
      simp only[ae,Tru.cs,au,Rdr.e,arI,List.cons_append,List.nil_append,List.map_cons,List.map_nil,LLe,tL,ml,rn,Nat.reduceAdd,Nat.reduceSub,List.length_cons,List.length_nil]at*
      simp (disch:=omega) only[go_sem,K.aa,↓reduceIte,ex,hs,sh,an,h2,nse,h3,ai,List.length_set,ql,List.map_append,List.map_cons,List.map_nil,List.length_append,List.length_singleton,gt_iff_lt,Nat.reduceAdd,Nat.reduceSub]
      exact⟨_,_,_,_,rfl⟩
    · obtain⟨⟨places,roads⟩,time,people,tags,readers,numbers,looked,missed⟩:=x
      simp only[ae,Tru.cs,au,Rdr.e,arI,List.cons_append,List.nil_append,List.map_cons,List.map_nil,LLe,tL,ml,rn,Nat.reduceAdd,Nat.reduceSub,List.length_cons,List.length_nil]at*
      simp (disch:=omega) only[go_sem,K.aa,↓reduceIte,ex,hs,sh,an,h2,nse,h3,ai,List.length_set,ql,List.map_append,List.map_cons,List.map_nil,List.length_append,List.length_singleton,gt_iff_lt,Nat.reduceAdd,Nat.reduceSub]
      exact⟨_,_,_,_,rfl⟩
    · obtain⟨⟨places,roads⟩,time,people,tags,readers,numbers,looked,missed⟩:=x
      simp only[ae,Tru.cs,au,Rdr.e,arI,List.cons_append,List.nil_append,List.map_cons,List.map_nil,LLe,tL,ml,rn,Nat.reduceAdd,Nat.reduceSub,List.length_cons,List.length_nil]at*
      simp (disch:=omega) only[go_sem,K.aa,↓reduceIte,ex,hs,sh,an,h2,nse,h3,ai,List.length_set,ql,List.map_append,List.map_cons,List.map_nil,List.length_append,List.length_singleton,gt_iff_lt,Nat.reduceAdd,Nat.reduceSub]
      exact⟨_,_,_,_,rfl⟩
    · simp only[List.length_cons]at wl;omega
   obtain⟨v0,v3,vr,rest,key⟩:=key
   exact .inr ⟨_,key,by simp,.inl ⟨anyb,v0,v3,v0,v0,v0,vr,rest,rfl⟩⟩
 · have hq:(cV x.people a.pl a.miss m p) j=false:=by simpa using hq
   have hb2:∀i,i<j+1→(cV x.people a.pl a.miss m p) i=false:=fun i hi=>by
    by_cases c:i=j
    · rw[c];exact hq
    · exact hb i (by omega)
   left
   by_cases h1:(nth x.people j).place∈a.pl
   · rw[decide_eq_true h1]at hs
     by_cases h2:sM m j=1
     · have nw:(bI x.people a.pl m p) j=nth p j+1:=by unfold bI bO eP;rw[decide_eq_true h1,decide_eq_true h2];rfl
       have nl0:¬a.miss<nth p j+1:=by
        unfold cV bO eP at hq
        rw[decide_eq_true h1,decide_eq_true h2]at hq
        simpa using hq
       have ss1:aL x.people a.pl m x.tags (j+1)=aL x.people a.pl m x.tags j:=by rw[aL];unfold bO eP;rw[decide_eq_true h1,decide_eq_true h2];rfl
       have rs1:a7 (bI x.people a.pl m p) p (j+1)=(a7 (bI x.people a.pl m p) p j).set j (nth p j+1):=by rw[a7,nw]
       generalize hy:nth x.people j=y at*
       rcases W with _ | ⟨w,_ | ⟨w2,_ | ⟨w3,W⟩⟩⟩
       · refine⟨_,?_,[]++[y],by simp only[List.length_cons,List.length_nil,List.length_append]at *;omega,hb2,rfl⟩
         rw[rs1,ss1]
         generalize a7 _ p j=q at*
         generalize aL x.people a.pl m x.tags j=g at*
         rw[← qj]at nl0 ⊢
         have nse:nth (q.set j (nth q j+1)) j=nth q j+1:=aK (by omega)
         obtain⟨y1,y2,y3⟩:=y
         obtain⟨⟨places,roads⟩,time,people,tags,readers,numbers,looked,missed⟩:=x
         simp only[ae,Tru.cs,au,Rdr.e,arI,List.cons_append,List.nil_append,List.map_cons,List.map_nil,LLe,tL,ml,rn,Nat.reduceAdd,Nat.reduceSub,List.length_cons,List.length_nil]at*
         simp (disch:=omega) only[go_sem,K.aa,↓reduceIte,ex,hs,sh,an,h2,nse,nl0,ai,List.length_set,ql,List.map_append,List.map_cons,List.map_nil,List.length_append,List.length_singleton,gt_iff_lt,Nat.reduceAdd,Nat.reduceSub]
       · refine⟨_,?_,[w]++[y],by simp only[List.length_cons,List.length_nil,List.length_append]at *;omega,hb2,rfl⟩
         rw[rs1,ss1]
         generalize a7 _ p j=q at*
         generalize aL x.people a.pl m x.tags j=g at*
         rw[← qj]at nl0 ⊢
         have nse:nth (q.set j (nth q j+1)) j=nth q j+1:=aK (by omega)
         obtain⟨y1,y2,y3⟩:=y
         obtain⟨⟨places,roads⟩,time,people,tags,readers,numbers,looked,missed⟩:=x
         simp only[ae,Tru.cs,au,Rdr.e,arI,List.cons_append,List.nil_append,List.map_cons,List.map_nil,LLe,tL,ml,rn,Nat.reduceAdd,Nat.reduceSub,List.length_cons,List.length_nil]at*
         simp (disch:=omega) only[go_sem,K.aa,↓reduceIte,ex,hs,sh,an,h2,nse,nl0,ai,List.length_set,ql,List.map_append,List.map_cons,List.map_nil,List.length_append,List.length_singleton,gt_iff_lt,Nat.reduceAdd,Nat.reduceSub]
       · refine⟨_,?_,[w,w2]++[y],by simp only[List.length_cons,List.length_nil,List.length_append]at *;omega,hb2,rfl⟩
         rw[rs1,ss1]
         generalize a7 _ p j=q at*
         generalize aL x.people a.pl m x.tags j=g at*
         rw[← qj]at nl0 ⊢
         have nse:nth (q.set j (nth q j+1)) j=nth q j+1:=aK (by omega)
         obtain⟨y1,y2,y3⟩:=y
         obtain⟨⟨places,roads⟩,time,people,tags,readers,numbers,looked,missed⟩:=x
         simp only[ae,Tru.cs,au,Rdr.e,arI,List.cons_append,List.nil_append,List.map_cons,List.map_nil,LLe,tL,ml,rn,Nat.reduceAdd,Nat.reduceSub,List.length_cons,List.length_nil]at*
         simp (disch:=omega) only[go_sem,K.aa,↓reduceIte,ex,hs,sh,an,h2,nse,nl0,ai,List.length_set,ql,List.map_append,List.map_cons,List.map_nil,List.length_append,List.length_singleton,gt_iff_lt,Nat.reduceAdd,Nat.reduceSub]
       · simp only[List.length_cons]at wl;omega
     · have nw:(bI x.people a.pl m p) j=0:=by unfold bI bO eP;rw[decide_eq_true h1,decide_eq_false h2];rfl
       have ss1:aL x.people a.pl m x.tags (j+1)=aL x.people a.pl m x.tags j++[nth x.tags j]:=by rw[aL];unfold bO eP;rw[decide_eq_true h1,decide_eq_false h2];rfl
       have rs1:a7 (bI x.people a.pl m p) p (j+1)=(a7 (bI x.people a.pl m p) p j).set j 0:=by rw[a7,nw]
       generalize hy:nth x.people j=y at*
       rcases W with _ | ⟨w,_ | ⟨w2,_ | ⟨w3,W⟩⟩⟩
       · refine⟨_,?_,[]++[y],by simp only[List.length_cons,List.length_nil,List.length_append]at *;omega,hb2,rfl⟩
         rw[rs1,ss1]
         generalize a7 _ p j=q at*
         generalize aL x.people a.pl m x.tags j=g at*
         obtain⟨y1,y2,y3⟩:=y
         obtain⟨⟨places,roads⟩,time,people,tags,readers,numbers,looked,missed⟩:=x
         simp only[ae,Tru.cs,au,Rdr.e,arI,List.cons_append,List.nil_append,List.map_cons,List.map_nil,LLe,tL,ml,rn,Nat.reduceAdd,Nat.reduceSub,List.length_cons,List.length_nil]at*
         simp (disch:=omega) only[go_sem,K.aa,↓reduceIte,ex,hs,sh,an,h2,et,ai,List.length_set,ql,List.map_append,List.map_cons,List.map_nil,List.length_append,List.length_singleton,gt_iff_lt,Nat.reduceAdd,Nat.reduceSub]
       · refine⟨_,?_,[w]++[y],by simp only[List.length_cons,List.length_nil,List.length_append]at *;omega,hb2,rfl⟩
         rw[rs1,ss1]
         generalize a7 _ p j=q at*
         generalize aL x.people a.pl m x.tags j=g at*
         obtain⟨y1,y2,y3⟩:=y
         obtain⟨⟨places,roads⟩,time,people,tags,readers,numbers,looked,missed⟩:=x
         simp only[ae,Tru.cs,au,Rdr.e,arI,List.cons_append,List.nil_append,List.map_cons,List.map_nil,LLe,tL,ml,rn,Nat.reduceAdd,Nat.reduceSub,List.length_cons,List.length_nil]at*
         simp (disch:=omega) only[go_sem,K.aa,↓reduceIte,ex,hs,sh,an,h2,et,ai,List.length_set,ql,List.map_append,List.map_cons,List.map_nil,List.length_append,List.length_singleton,gt_iff_lt,Nat.reduceAdd,Nat.reduceSub]
       · refine⟨_,?_,[w,w2]++[y],by simp only[List.length_cons,List.length_nil,List.length_append]at *;omega,hb2,rfl⟩
         rw[rs1,ss1]
         generalize a7 _ p j=q at*
         generalize aL x.people a.pl m x.tags j=g at*
         obtain⟨y1,y2,y3⟩:=y
         obtain⟨⟨places,roads⟩,time,people,tags,readers,numbers,looked,missed⟩:=x
         simp only[ae,Tru.cs,au,Rdr.e,arI,List.cons_append,List.nil_append,List.map_cons,List.map_nil,LLe,tL,ml,rn,Nat.reduceAdd,Nat.reduceSub,List.length_cons,List.length_nil]at*
         simp (disch:=omega) only[go_sem,K.aa,↓reduceIte,ex,hs,sh,an,h2,et,ai,List.length_set,ql,List.map_append,List.map_cons,List.map_nil,List.length_append,List.length_singleton,gt_iff_lt,Nat.reduceAdd,Nat.reduceSub]
       · simp only[List.length_cons]at wl;omega
   · have nw:(bI x.people a.pl m p) j=0:=by unfold bI bO eP;rw[decide_eq_false h1];rfl
     have ss1:aL x.people a.pl m x.tags (j+1)=aL x.people a.pl m x.tags j:=by rw[aL];unfold bO eP;rw[decide_eq_false h1];rfl
     have rs1:a7 (bI x.people a.pl m p) p (j+1)=(a7 (bI x.people a.pl m p) p j).set j 0:=by rw[a7,nw]
     rw[decide_eq_false h1]at hs
     by_cases h2:sM m j=1
     · generalize hy:nth x.people j=y at*
       rcases W with _ | ⟨w,_ | ⟨w2,_ | ⟨w3,W⟩⟩⟩
       · refine⟨_,?_,[]++[y],by simp only[List.length_cons,List.length_nil,List.length_append]at *;omega,hb2,rfl⟩
         rw[rs1,ss1]
         generalize a7 _ p j=q at*
         generalize aL x.people a.pl m x.tags j=g at*
         obtain⟨y1,y2,y3⟩:=y
         obtain⟨⟨places,roads⟩,time,people,tags,readers,numbers,looked,missed⟩:=x
         simp only[ae,Tru.cs,au,Rdr.e,arI,List.cons_append,List.nil_append,List.map_cons,List.map_nil,LLe,tL,ml,rn,Nat.reduceAdd,Nat.reduceSub,List.length_cons,List.length_nil]at*
         simp (disch:=omega) only[go_sem,K.aa,↓reduceIte,ex,hs,sh,an,h2,ai,List.length_set,ql,List.map_append,List.map_cons,List.map_nil,List.length_append,List.length_singleton,gt_iff_lt,Nat.reduceAdd,Nat.reduceSub]
       · refine⟨_,?_,[w]++[y],by simp only[List.length_cons,List.length_nil,List.length_append]at *;omega,hb2,rfl⟩
         rw[rs1,ss1]
         generalize a7 _ p j=q at*
         generalize aL x.people a.pl m x.tags j=g at*
         obtain⟨y1,y2,y3⟩:=y
         obtain⟨⟨places,roads⟩,time,people,tags,readers,numbers,looked,missed⟩:=x
         simp only[ae,Tru.cs,au,Rdr.e,arI,List.cons_append,List.nil_append,List.map_cons,List.map_nil,LLe,tL,ml,rn,Nat.reduceAdd,Nat.reduceSub,List.length_cons,List.length_nil]at*
         simp (disch:=omega) only[go_sem,K.aa,↓reduceIte,ex,hs,sh,an,h2,ai,List.length_set,ql,List.map_append,List.map_cons,List.map_nil,List.length_append,List.length_singleton,gt_iff_lt,Nat.reduceAdd,Nat.reduceSub]
       · refine⟨_,?_,[w,w2]++[y],by simp only[List.length_cons,List.length_nil,List.length_append]at *;omega,hb2,rfl⟩
         rw[rs1,ss1]
         generalize a7 _ p j=q at*
         generalize aL x.people a.pl m x.tags j=g at*
         obtain⟨y1,y2,y3⟩:=y
         obtain⟨⟨places,roads⟩,time,people,tags,readers,numbers,looked,missed⟩:=x
         simp only[ae,Tru.cs,au,Rdr.e,arI,List.cons_append,List.nil_append,List.map_cons,List.map_nil,LLe,tL,ml,rn,Nat.reduceAdd,Nat.reduceSub,List.length_cons,List.length_nil]at*
         simp (disch:=omega) only[go_sem,K.aa,↓reduceIte,ex,hs,sh,an,h2,ai,List.length_set,ql,List.map_append,List.map_cons,List.map_nil,List.length_append,List.length_singleton,gt_iff_lt,Nat.reduceAdd,Nat.reduceSub]
       · simp only[List.length_cons]at wl;omega
     · generalize hy:nth x.people j=y at*
       rcases W with _ | ⟨w,_ | ⟨w2,_ | ⟨w3,W⟩⟩⟩
       · refine⟨_,?_,[]++[y],by simp only[List.length_cons,List.length_nil,List.length_append]at *;omega,hb2,rfl⟩
         rw[rs1,ss1]
         generalize a7 _ p j=q at*
         generalize aL x.people a.pl m x.tags j=g at*
         obtain⟨y1,y2,y3⟩:=y
         obtain⟨⟨places,roads⟩,time,people,tags,readers,numbers,looked,missed⟩:=x
         simp only[ae,Tru.cs,au,Rdr.e,arI,List.cons_append,List.nil_append,List.map_cons,List.map_nil,LLe,tL,ml,rn,Nat.reduceAdd,Nat.reduceSub,List.length_cons,List.length_nil]at*
         simp (disch:=omega) only[go_sem,K.aa,↓reduceIte,ex,hs,sh,an,h2,ai,List.length_set,ql,List.map_append,List.map_cons,List.map_nil,List.length_append,List.length_singleton,gt_iff_lt,Nat.reduceAdd,Nat.reduceSub]
       · refine⟨_,?_,[w]++[y],by simp only[List.length_cons,List.length_nil,List.length_append]at *;omega,hb2,rfl⟩
         rw[rs1,ss1]
         generalize a7 _ p j=q at*
         generalize aL x.people a.pl m x.tags j=g at*
         obtain⟨y1,y2,y3⟩:=y
         obtain⟨⟨places,roads⟩,time,people,tags,readers,numbers,looked,missed⟩:=x
         simp only[ae,Tru.cs,au,Rdr.e,arI,List.cons_append,List.nil_append,List.map_cons,List.map_nil,LLe,tL,ml,rn,Nat.reduceAdd,Nat.reduceSub,List.length_cons,List.length_nil]at*
         simp (disch:=omega) only[go_sem,K.aa,↓reduceIte,ex,hs,sh,an,h2,ai,List.length_set,ql,List.map_append,List.map_cons,List.map_nil,List.length_append,List.length_singleton,gt_iff_lt,Nat.reduceAdd,Nat.reduceSub]
       · refine⟨_,?_,[w,w2]++[y],by simp only[List.length_cons,List.length_nil,List.length_append]at *;omega,hb2,rfl⟩
         rw[rs1,ss1]
         generalize a7 _ p j=q at*
         generalize aL x.people a.pl m x.tags j=g at*
         obtain⟨y1,y2,y3⟩:=y
         obtain⟨⟨places,roads⟩,time,people,tags,readers,numbers,looked,missed⟩:=x
         simp only[ae,Tru.cs,au,Rdr.e,arI,List.cons_append,List.nil_append,List.map_cons,List.map_nil,LLe,tL,ml,rn,Nat.reduceAdd,Nat.reduceSub,List.length_cons,List.length_nil]at*
         simp (disch:=omega) only[go_sem,K.aa,↓reduceIte,ex,hs,sh,an,h2,ai,List.length_set,ql,List.map_append,List.map_cons,List.map_nil,List.length_append,List.length_singleton,gt_iff_lt,Nat.reduceAdd,Nat.reduceSub]
       · simp only[List.length_cons]at wl;omega
theorem LR{x:Tru}(h:x.ok){a b d:Rdr}{p p2 p3:List Int}(e1:x.readers=[a,b,d])(e2:x.missed=[p,p2,p3])(m off:Int)(oN oL:Obj)(num:Int)(z0 z3 z7 z10 z11 z13 z14 z15 z16 z17:D):∃q,exS aT K.fx ⟨[z0,I 0,I m,z3,.bp 0 0,.bp 1 0,.bp 2 0,z7,.bp 3 0,.bp 11 0,z10,z11,.bp 12 0,z13,z14,z15,z16,z17,.t (.sl (x.people.map Wlk.e)),I x.people.length,I 0],[.box (x.cs.map .t),.box ae,.box [I 0,I 0,I 0,.nil],.box [.t (tL a.pl),I a.per,I a.miss,I a.skew],.arr 4 false 0 [.t a.e,.t b.e,.t d.e],oN,oL,.arr 1 false 0 [.ref 8 0 p.length,.ref 9 0 p2.length,.ref 10 0 p3.length],arI p,arI p2,arI p3,.box (au 4 x),.box [I 0,I num,I (x.time+off),.ref 14 0 0],.arr 1 false 0 [],arI ([]:List Int)]⟩=some q∧Dt x a b d p p2 p3 m off oN oL num q:=by
 have n3:=h.n3
 have tl:=h.tl
 have nl:=h.nl
 have ll:=h.ll
 have t0:=h.t0
 have t1:=h.t1
 have nb:=h.nb 0 (by rw[e1];simp)
 have mb:=h.mb 0 (by rw[e1];simp)
 have m2:=h.m2 0 (by rw[e1];simp)
 have rk:nth x.readers 0=a:=by rw[e1];rfl
 have mk:nth x.missed 0=p:=by rw[e2];rfl
 have ml:x.missed.length=3:=by rw[e2];rfl
 have rn:x.readers.length=3:=by rw[e1];rfl
 have ro:=h.r a (by rw[e1];simp)
 rw[rk,mk]at mb
 rw[mk]at m2
 obtain⟨rs,rl,rl1,rp1,rp2,rm1,rm2,rk1,rk2⟩:=ro
 refine fI (uH x a b d p p2 p3 m off oN oL num) x.people.length _ ⟨[],Nat.le_refl _,fun i hi=>absurd hi (by omega),rfl⟩ (fun j st hj hp=>LQ h e1 e2 m off oN oL num j st hj hp) ?_
 intro st hp
 refine⟨(.exit 1,st),?_,by simp,.inr ⟨?_,st,hp,rfl⟩⟩
 · obtain⟨W,wl,hb,rfl⟩:=hp
   have wl:=Nat.le_trans wl n3
   generalize a7 _ p _=q at*
   generalize aL x.people a.pl m x.tags _=g at*
   rcases W with _ | ⟨w,_ | ⟨w2,_ | ⟨w3,_ | ⟨w4,W⟩⟩⟩⟩
   · obtain⟨⟨places,roads⟩,time,people,tags,readers,numbers,looked,missed⟩:=x
     simp only[ae,Tru.cs,au,Rdr.e,arI,List.cons_append,List.nil_append,List.map_cons,List.map_nil,LLe,tL,ml,rn,Nat.reduceAdd,Nat.reduceSub,List.length_cons,List.length_nil]at*
     simp (disch:=omega) only[go_sem,K.aa,↓reduceIte,Nat.reduceAdd,Nat.reduceSub]
   · obtain⟨⟨places,roads⟩,time,people,tags,readers,numbers,looked,missed⟩:=x
     simp only[ae,Tru.cs,au,Rdr.e,arI,List.cons_append,List.nil_append,List.map_cons,List.map_nil,LLe,tL,ml,rn,Nat.reduceAdd,Nat.reduceSub,List.length_cons,List.length_nil]at*
     simp (disch:=omega) only[go_sem,K.aa,↓reduceIte,Nat.reduceAdd,Nat.reduceSub]
   · obtain⟨⟨places,roads⟩,time,people,tags,readers,numbers,looked,missed⟩:=x
     simp only[ae,Tru.cs,au,Rdr.e,arI,List.cons_append,List.nil_append,List.map_cons,List.map_nil,LLe,tL,ml,rn,Nat.reduceAdd,Nat.reduceSub,List.length_cons,List.length_nil]at*
     simp (disch:=omega) only[go_sem,K.aa,↓reduceIte,Nat.reduceAdd,Nat.reduceSub]
   · obtain⟨⟨places,roads⟩,time,people,tags,readers,numbers,looked,missed⟩:=x
     simp only[ae,Tru.cs,au,Rdr.e,arI,List.cons_append,List.nil_append,List.map_cons,List.map_nil,LLe,tL,ml,rn,Nat.reduceAdd,Nat.reduceSub,List.length_cons,List.length_nil]at*
     simp (disch:=omega) only[go_sem,K.aa,↓reduceIte,Nat.reduceAdd,Nat.reduceSub]
   · simp only[List.length_cons]at wl;omega
 · obtain⟨W,wl,hb,rfl⟩:=hp
   rw[List.any_eq_false]
   intro i hi
   rw[hb i (List.mem_range.1 hi)]
   decide
set_option maxHeartbeats 4000000 in
theorem Du{x:Tru}(h:x.ok){a b d:Rdr}{p p2 p3:List Int}(e1:x.readers=[a,b,d])(e2:x.missed=[p,p2,p3])(m off:Int)(o1: -a.skew≤off)(o2:off≤a.skew)(o3:0≤x.time+off)(o4:x.time+off≤2147483648):
 aT 0 N.ag [.t x.e,I 0,I m,I off] []=some (if nQ x 0 m then .tup [.t x.e,.t (dJ 0 0 0 []),I 43]else .tup [.t (du x 0 m).e,.t (dJ 0 (lg x 0) (x.time+off) (fZ (aL x.people a.pl m x.tags x.people.length))),I 0],[]):=by
 have n3:=h.n3
 have tl:=h.tl
 have nl:=h.nl
 have ll:=h.ll
 have t0:=h.t0
 have t1:=h.t1
 have nb:=h.nb 0 (by rw[e1];simp)
 have mb:=h.mb 0 (by rw[e1];simp)
 have m2:=h.m2 0 (by rw[e1];simp)
 have rk:nth x.readers 0=a:=by rw[e1];rfl
 have mk:nth x.missed 0=p:=by rw[e2];rfl
 have ml:x.missed.length=3:=by rw[e2];rfl
 have rn:x.readers.length=3:=by rw[e1];rfl
 have ro:=h.r a (by rw[e1];simp)
 rw[rk,mk]at mb
 rw[mk]at m2
 obtain⟨rs,rl,rl1,rp1,rp2,rm1,rm2,rk1,rk2⟩:=ro
 have sz:=h.sz
 have cp:=pI sz e1 e2
 have va:=jy h
 have lpL:=LR h e1 e2 m off
 have scl:∀(y:Tru) (r:T) (v:Int),([D.t y.e,D.t r,I v].all bz)=false:=fun _ _ _=>rfl
 have sl:=eH x.people a.pl m x.tags x.people.length
 have so:=pD 0 (aL x.people a.pl m x.tags x.people.length) (by omega)
 have sol:=eZ (aL x.people a.pl m x.tags x.people.length)
 have i1:=hT 0 0 ((3:Int)-1)
 have i2:=hT off (0-a.skew) a.skew
 have i3:=hT (x.time+off) 0 2147483648
 rw[decide_eq_true (by omega)]at i1 i2 i3
 unfold nQ du lg
 rw[rk,mk]
 have en:(x.numbers.map (T.int .i64))[0]?=some (tI (nth x.numbers 0)):=aD _ (by omega)
 have el:(x.looked.map (T.int .i64))[0]?=some (tI (nth x.looked 0)):=aD _ (by omega)
 generalize nth x.numbers 0=nu at*
 generalize nth x.looked 0=lo at*
 refine aB K.fk rfl ?_
 have qe:∀(b:Prop) [Decidable b],(nu+if b then 2 else 1)=if b then nu+2 else nu+1:=fun b _=>by split<;>rfl
 have wl:=cD (bI x.people a.pl m p) p x.people.length
 by_cases bq:(List.range x.people.length).any (cV x.people a.pl a.miss m p)=true
 · rw[if_pos bq]
   obtain⟨⟨places,roads⟩,time,people,tags,readers,numbers,looked,missed⟩:=x
   subst e1 e2
   simp only[ae,Tru.e,Tru.cs,au,arI,kZ,tLL,Rdr.e,List.map_cons,List.map_nil,LLe,tL]at*
   by_cases ca:0≤lo
   · by_cases cb:a.per<time-lo
     · simp (disch:=omega) only[go_sem,K.ag,↓reduceIte,cp,va,i1,i2,i3,en,el,ca,cb,gt_iff_lt,ai,List.length_set,Nat.reduceAdd,Nat.reduceSub]
       refine b7 _ (lpL _ _ _ _ _ _ _ _ _ _ _ _ _) ?_
       rintro q (⟨_,v0,v3,_,_,_,vr,rest,rfl⟩ | ⟨n,_⟩)
       · simp (disch:=omega) only[go_sem,K.ag,↓reduceIte,scl,Nat.reduceAdd,Nat.reduceSub]
         rfl
       · rw[n]at bq;cases bq
     · simp (disch:=omega) only[go_sem,K.ag,↓reduceIte,cp,va,i1,i2,i3,en,el,ca,cb,gt_iff_lt,ai,List.length_set,Nat.reduceAdd,Nat.reduceSub]
       refine b7 _ (lpL _ _ _ _ _ _ _ _ _ _ _ _ _) ?_
       rintro q (⟨_,v0,v3,_,_,_,vr,rest,rfl⟩ | ⟨n,_⟩)
       · simp (disch:=omega) only[go_sem,K.ag,↓reduceIte,scl,Nat.reduceAdd,Nat.reduceSub]
         rfl
       · rw[n]at bq;cases bq
   · simp (disch:=omega) only[go_sem,K.ag,↓reduceIte,cp,va,i1,i2,i3,en,el,ca,gt_iff_lt,ai,List.length_set,Nat.reduceAdd,Nat.reduceSub]
     refine b7 _ (lpL _ _ _ _ _ _ _ _ _ _ _ _ _) ?_
     rintro q (⟨_,v0,v3,_,_,_,vr,rest,rfl⟩ | ⟨n,_⟩)
     · simp (disch:=omega) only[go_sem,K.ag,↓reduceIte,scl,Nat.reduceAdd,Nat.reduceSub]
       rfl
     · rw[n]at bq;cases bq
 · rw[if_neg bq]
   have qa:(x.numbers.set 0 ((nu+if 0≤lo∧a.per<x.time-lo then 2 else 1).tmod 65536)).length=x.numbers.length:=List.length_set ..
   generalize hg:aL x.people a.pl m x.tags x.people.length=g at*
   obtain⟨q,hq,hQ⟩:=lpL (arI (x.numbers.set 0 ((nu+if 0≤lo∧a.per<x.time-lo then 2 else 1).tmod 65536))) (arI (x.looked.set 0 x.time)) ((nu+if 0≤lo∧a.per<x.time-lo then 2 else 1).tmod 65536) (.t x.e) (I off) (I 0) (if 0≤lo∧a.per<x.time-lo then I 2 else I 1) (I ((nu+if 0≤lo∧a.per<x.time-lo then 2 else 1).tmod 65536)) .und .und .und .und .und
   rcases hQ with⟨n,_⟩ | ⟨_,st,⟨W,wl2,hb,rfl⟩,rfl⟩
   · exact absurd n bq
   rw[hg]at hq
   generalize a7 _ p _=w at*
   rcases W with _ | ⟨w1,_ | ⟨w2,_ | ⟨w3,_ | ⟨w4,W⟩⟩⟩⟩
   · obtain⟨⟨places,roads⟩,time,people,tags,readers,numbers,looked,missed⟩:=x
     subst e1 e2
     simp only[ae,Tru.e,Tru.cs,dJ,au,arI,kZ,tLL,Rdr.e,List.cons_append,List.nil_append,List.map_cons,List.map_nil,LLe,tL,Nat.reduceAdd,Nat.reduceSub,List.length_cons,List.length_nil]at*
     by_cases ca:0≤lo
     · by_cases cb:a.per<time-lo
       · simp only[if_pos (And.intro ca cb)]at hq ⊢
         simp (disch:=omega) only[go_sem,K.ag,↓reduceIte,cp,va,i1,i2,i3,en,el,ca,cb,gt_iff_lt,ai,hq,so,sol,wl,scl,List.length_set,Nat.reduceAdd,Nat.reduceSub]
       · simp only[if_neg (fun e:0≤lo∧a.per<time-lo=>cb e.2)]at hq ⊢
         simp (disch:=omega) only[go_sem,K.ag,↓reduceIte,cp,va,i1,i2,i3,en,el,ca,cb,gt_iff_lt,ai,hq,so,sol,wl,scl,List.length_set,Nat.reduceAdd,Nat.reduceSub]
     · simp only[if_neg (fun e:0≤lo∧a.per<time-lo=>ca e.1)]at hq ⊢
       simp (disch:=omega) only[go_sem,K.ag,↓reduceIte,cp,va,i1,i2,i3,en,el,ca,gt_iff_lt,ai,hq,so,sol,wl,scl,List.length_set,Nat.reduceAdd,Nat.reduceSub]
   · obtain⟨⟨places,roads⟩,time,people,tags,readers,numbers,looked,missed⟩:=x
     subst e1 e2
     simp only[ae,Tru.e,Tru.cs,dJ,au,arI,kZ,tLL,Rdr.e,List.cons_append,List.nil_append,List.map_cons,List.map_nil,LLe,tL,Nat.reduceAdd,Nat.reduceSub,List.length_cons,List.length_nil]at*
     by_cases ca:0≤lo
     · by_cases cb:a.per<time-lo
       · simp only[if_pos (And.intro ca cb)]at hq ⊢
         simp (disch:=omega) only[go_sem,K.ag,↓reduceIte,cp,va,i1,i2,i3,en,el,ca,cb,gt_iff_lt,ai,hq,so,sol,wl,scl,List.length_set,Nat.reduceAdd,Nat.reduceSub]
       · simp only[if_neg (fun e:0≤lo∧a.per<time-lo=>cb e.2)]at hq ⊢
         simp (disch:=omega) only[go_sem,K.ag,↓reduceIte,cp,va,i1,i2,i3,en,el,ca,cb,gt_iff_lt,ai,hq,so,sol,wl,scl,List.length_set,Nat.reduceAdd,Nat.reduceSub]
     · simp only[if_neg (fun e:0≤lo∧a.per<time-lo=>ca e.1)]at hq ⊢
       simp (disch:=omega) only[go_sem,K.ag,↓reduceIte,cp,va,i1,i2,i3,en,el,ca,gt_iff_lt,ai,hq,so,sol,wl,scl,List.length_set,Nat.reduceAdd,Nat.reduceSub]
   · obtain⟨⟨places,roads⟩,time,people,tags,readers,numbers,looked,missed⟩:=x
     subst e1 e2
     simp only[ae,Tru.e,Tru.cs,dJ,au,arI,kZ,tLL,Rdr.e,List.cons_append,List.nil_append,List.map_cons,List.map_nil,LLe,tL,Nat.reduceAdd,Nat.reduceSub,List.length_cons,List.length_nil]at*
     by_cases ca:0≤lo
     · by_cases cb:a.per<time-lo
       · simp only[if_pos (And.intro ca cb)]at hq ⊢
         simp (disch:=omega) only[go_sem,K.ag,↓reduceIte,cp,va,i1,i2,i3,en,el,ca,cb,gt_iff_lt,ai,hq,so,sol,wl,scl,List.length_set,Nat.reduceAdd,Nat.reduceSub]
       · simp only[if_neg (fun e:0≤lo∧a.per<time-lo=>cb e.2)]at hq ⊢
         simp (disch:=omega) only[go_sem,K.ag,↓reduceIte,cp,va,i1,i2,i3,en,el,ca,cb,gt_iff_lt,ai,hq,so,sol,wl,scl,List.length_set,Nat.reduceAdd,Nat.reduceSub]
     · simp only[if_neg (fun e:0≤lo∧a.per<time-lo=>ca e.1)]at hq ⊢
       simp (disch:=omega) only[go_sem,K.ag,↓reduceIte,cp,va,i1,i2,i3,en,el,ca,gt_iff_lt,ai,hq,so,sol,wl,scl,List.length_set,Nat.reduceAdd,Nat.reduceSub]
   · obtain⟨⟨places,roads⟩,time,people,tags,readers,numbers,looked,missed⟩:=x
     subst e1 e2
     simp only[ae,Tru.e,Tru.cs,dJ,au,arI,kZ,tLL,Rdr.e,List.cons_append,List.nil_append,List.map_cons,List.map_nil,LLe,tL,Nat.reduceAdd,Nat.reduceSub,List.length_cons,List.length_nil]at*
     by_cases ca:0≤lo
     · by_cases cb:a.per<time-lo
       · simp only[if_pos (And.intro ca cb)]at hq ⊢
         simp (disch:=omega) only[go_sem,K.ag,↓reduceIte,cp,va,i1,i2,i3,en,el,ca,cb,gt_iff_lt,ai,hq,so,sol,wl,scl,List.length_set,Nat.reduceAdd,Nat.reduceSub]
       · simp only[if_neg (fun e:0≤lo∧a.per<time-lo=>cb e.2)]at hq ⊢
         simp (disch:=omega) only[go_sem,K.ag,↓reduceIte,cp,va,i1,i2,i3,en,el,ca,cb,gt_iff_lt,ai,hq,so,sol,wl,scl,List.length_set,Nat.reduceAdd,Nat.reduceSub]
     · simp only[if_neg (fun e:0≤lo∧a.per<time-lo=>ca e.1)]at hq ⊢
       simp (disch:=omega) only[go_sem,K.ag,↓reduceIte,cp,va,i1,i2,i3,en,el,ca,gt_iff_lt,ai,hq,so,sol,wl,scl,List.length_set,Nat.reduceAdd,Nat.reduceSub]
   · simp only[List.length_cons]at wl2;omega
def uI(x:Tru)(a b d:Rdr)(p p2 p3:List Int)(m off:Int)(oN oL:Obj)(num:Int)(j:Nat)(st:St):Prop:=∃W:List Wlk,W.length≤j∧(∀i,i<j→(cV x.people b.pl b.miss m p2) i=false)∧st=⟨[.und,I 1,I m,.und,.bp 0 0,.bp 1 0,.bp 2 0,.und,.bp 3 0,.bp 11 0,.und,.und,.bp 12 0,.und,.und,.und,.und,.und,.t (.sl (x.people.map Wlk.e)),I x.people.length,I j],[.box (x.cs.map .t),.box ae,.box [I 0,I 0,I 0,.nil],.box [.t (tL b.pl),I b.per,I b.miss,I b.skew],.arr 4 false 0 [.t a.e,.t b.e,.t d.e],oN,oL,.arr 1 false 0 [.ref 8 0 p.length,.ref 9 0 p2.length,.ref 10 0 p3.length],arI p,arI (a7 (bI x.people b.pl m p2) p2 j),arI p3,.box (au 4 x),.box [I 1,I num,I (x.time+off),.ref 14 0 (aL x.people b.pl m x.tags j).length],.arr 1 false 0 [],arI (aL x.people b.pl m x.tags j)]++(W.map fun w=> .box [I w.place,I w.kT,I w.left])⟩
def Dv(x:Tru)(a b d:Rdr)(p p2 p3:List Int)(m off:Int)(oN oL:Obj)(num:Int)(q:Ex×St):Prop:=((List.range x.people.length).any (cV x.people b.pl b.miss m p2)=true∧∃(v0 v3 v8 v9 v10:D) (vr:List D) (rest:aj),q=(.ret,⟨v0::I 1::I m::v3:: .bp 0 0:: .bp 1 0:: .bp 2 0::I 43::vr,.box (x.cs.map .t):: .box (x.cs.map .t):: .box [I 0,I 0,I 0,.nil]::rest⟩))∨((List.range x.people.length).any (cV x.people b.pl b.miss m p2)=false∧∃st,uI x a b d p p2 p3 m off oN oL num x.people.length st∧q=(.exit 1,st))
theorem LS{x:Tru}(h:x.ok){a b d:Rdr}{p p2 p3:List Int}(e1:x.readers=[a,b,d])(e2:x.missed=[p,p2,p3])(m off:Int)(oN oL:Obj)(num:Int)(j:Nat)(st:St)(hj:j<x.people.length)(hp:uI x a b d p p2 p3 m off oN oL num j st):
 (∃st',eB false [0,3,7,10,11,13,14,15,16,17] st.H.length (exS aT K.aa st)=some st'∧uI x a b d p p2 p3 m off oN oL num (j+1) st')∨∃q,exS aT K.aa st=some q∧q.1≠ .normal∧Dv x a b d p p2 p3 m off oN oL num q:=by
 have n3:=h.n3
 have tl:=h.tl
 have nl:=h.nl
 have ll:=h.ll
 have t0:=h.t0
 have t1:=h.t1
 have nb:=h.nb 1 (by rw[e1];simp)
 have mb:=h.mb 1 (by rw[e1];simp)
 have m2:=h.m2 1 (by rw[e1];simp)
 have rk:nth x.readers 1=b:=by rw[e1];rfl
 have mk:nth x.missed 1=p2:=by rw[e2];rfl
 have ml:x.missed.length=3:=by rw[e2];rfl
 have rn:x.readers.length=3:=by rw[e1];rfl
 have ro:=h.r b (by rw[e1];simp)
 rw[rk,mk]at mb
 rw[mk]at m2
 obtain⟨rs,rl,rl1,rp1,rp2,rm1,rm2,rk1,rk2⟩:=ro
 have ex:(x.people.map Wlk.e)[j]?=some (nth x.people j).e:=aD _ hj
 have et:(x.tags.map (T.int .i64))[j]?=some (tI (nth x.tags j)):=aD _ (by omega)
 have hs:=iF b.pl (nth x.people j).place (by omega)
 have mbj:=mb j hj
 have sh:=ko m j
 have an:=fJ m j
 obtain⟨W,wl,hb,rfl⟩:=hp
 have ql:=cD (bI x.people b.pl m p2) p2 j
 have qj:=iI (bI x.people b.pl m p2) p2 j j (Nat.le_refl _)
 have sl:=eH x.people b.pl m x.tags j
 by_cases hq:(cV x.people b.pl b.miss m p2) j=true
 · have anyb:(List.range x.people.length).any (cV x.people b.pl b.miss m p2)=true:=List.any_eq_true.2 ⟨j,List.mem_range.2 hj,hq⟩
   unfold cV bO eP at hq
   simp only[Bool.and_eq_true,decide_eq_true_eq]at hq
   obtain⟨⟨h1,h2⟩,h3⟩:=hq
   generalize a7 _ p2 j=q at*
   generalize aL x.people b.pl m x.tags j=g at*
   rw[← qj]at h3
   have nse:nth (q.set j (nth q j+1)) j=nth q j+1:=aK (by omega)
   rw[decide_eq_true h1]at hs
   have key:∃(v0 v3:D) (vr:List D) (rest:aj),exS aT K.aa ⟨[.und,I 1,I m,.und,.bp 0 0,.bp 1 0,.bp 2 0,.und,.bp 3 0,.bp 11 0,.und,.und,.bp 12 0,.und,.und,.und,.und,.und,.t (.sl (x.people.map Wlk.e)),I x.people.length,I j],[.box (x.cs.map .t),.box ae,.box [I 0,I 0,I 0,.nil],.box [.t (tL b.pl),I b.per,I b.miss,I b.skew],.arr 4 false 0 [.t a.e,.t b.e,.t d.e],oN,oL,.arr 1 false 0 [.ref 8 0 p.length,.ref 9 0 p2.length,.ref 10 0 p3.length],arI p,arI q,arI p3,.box (au 4 x),.box [I 1,I num,I (x.time+off),.ref 14 0 g.length],.arr 1 false 0 [],arI g]++(W.map fun w=> .box [I w.place,I w.kT,I w.left])⟩=some (.ret,⟨v0::I 1::I m::v3:: .bp 0 0:: .bp 1 0:: .bp 2 0::I 43::vr,.box (x.cs.map .t):: .box (x.cs.map .t):: .box [I 0,I 0,I 0,.nil]::rest⟩):=by
    generalize nth x.people j=y at*
    obtain⟨y1,y2,y3⟩:=y
    rcases W with _ | ⟨w,_ | ⟨w2,_ | ⟨w3,W⟩⟩⟩
    · obtain⟨⟨places,roads⟩,time,people,tags,readers,numbers,looked,missed⟩:=x
      simp only[ae,Tru.cs,au,Rdr.e,arI,List.cons_append,List.nil_append,List.map_cons,List.map_nil,LLe,tL,ml,rn,Nat.reduceAdd,Nat.reduceSub,List.length_cons,List.length_nil]at*
      simp (disch:=omega) only[go_sem,K.aa,↓reduceIte,ex,hs,sh,an,h2,nse,h3,ai,List.length_set,ql,List.map_append,List.map_cons,List.map_nil,List.length_append,List.length_singleton,gt_iff_lt,Nat.reduceAdd,Nat.reduceSub]
      exact⟨_,_,_,_,rfl⟩
    · obtain⟨⟨places,roads⟩,time,people,tags,readers,numbers,looked,missed⟩:=x
      simp only[ae,Tru.cs,au,Rdr.e,arI,List.cons_append,List.nil_append,List.map_cons,List.map_nil,LLe,tL,ml,rn,Nat.reduceAdd,Nat.reduceSub,List.length_cons,List.length_nil]at*
      simp (disch:=omega) only[go_sem,K.aa,↓reduceIte,ex,hs,sh,an,h2,nse,h3,ai,List.length_set,ql,List.map_append,List.map_cons,List.map_nil,List.length_append,List.length_singleton,gt_iff_lt,Nat.reduceAdd,Nat.reduceSub]
      exact⟨_,_,_,_,rfl⟩
    · obtain⟨⟨places,roads⟩,time,people,tags,readers,numbers,looked,missed⟩:=x
      simp only[ae,Tru.cs,au,Rdr.e,arI,List.cons_append,List.nil_append,List.map_cons,List.map_nil,LLe,tL,ml,rn,Nat.reduceAdd,Nat.reduceSub,List.length_cons,List.length_nil]at*
      simp (disch:=omega) only[go_sem,K.aa,↓reduceIte,ex,hs,sh,an,h2,nse,h3,ai,List.length_set,ql,List.map_append,List.map_cons,List.map_nil,List.length_append,List.length_singleton,gt_iff_lt,Nat.reduceAdd,Nat.reduceSub]
      exact⟨_,_,_,_,rfl⟩
    · simp only[List.length_cons]at wl;omega
   obtain⟨v0,v3,vr,rest,key⟩:=key
   exact .inr ⟨_,key,by simp,.inl ⟨anyb,v0,v3,v0,v0,v0,vr,rest,rfl⟩⟩
 · have hq:(cV x.people b.pl b.miss m p2) j=false:=by simpa using hq
   have hb2:∀i,i<j+1→(cV x.people b.pl b.miss m p2) i=false:=fun i hi=>by
    by_cases c:i=j
    · rw[c];exact hq
    · exact hb i (by omega)
   left
   by_cases h1:(nth x.people j).place∈b.pl
   · rw[decide_eq_true h1]at hs
     by_cases h2:sM m j=1
     · have nw:(bI x.people b.pl m p2) j=nth p2 j+1:=by unfold bI bO eP;rw[decide_eq_true h1,decide_eq_true h2];rfl
       have nl0:¬b.miss<nth p2 j+1:=by
        unfold cV bO eP at hq
        rw[decide_eq_true h1,decide_eq_true h2]at hq
        simpa using hq
       have ss1:aL x.people b.pl m x.tags (j+1)=aL x.people b.pl m x.tags j:=by rw[aL];unfold bO eP;rw[decide_eq_true h1,decide_eq_true h2];rfl
       have rs1:a7 (bI x.people b.pl m p2) p2 (j+1)=(a7 (bI x.people b.pl m p2) p2 j).set j (nth p2 j+1):=by rw[a7,nw]
       generalize hy:nth x.people j=y at*
       rcases W with _ | ⟨w,_ | ⟨w2,_ | ⟨w3,W⟩⟩⟩
       · refine⟨_,?_,[]++[y],by simp only[List.length_cons,List.length_nil,List.length_append]at *;omega,hb2,rfl⟩
         rw[rs1,ss1]
         generalize a7 _ p2 j=q at*
         generalize aL x.people b.pl m x.tags j=g at*
         rw[← qj]at nl0 ⊢
         have nse:nth (q.set j (nth q j+1)) j=nth q j+1:=aK (by omega)
         obtain⟨y1,y2,y3⟩:=y
         obtain⟨⟨places,roads⟩,time,people,tags,readers,numbers,looked,missed⟩:=x
         simp only[ae,Tru.cs,au,Rdr.e,arI,List.cons_append,List.nil_append,List.map_cons,List.map_nil,LLe,tL,ml,rn,Nat.reduceAdd,Nat.reduceSub,List.length_cons,List.length_nil]at*
         simp (disch:=omega) only[go_sem,K.aa,↓reduceIte,ex,hs,sh,an,h2,nse,nl0,ai,List.length_set,ql,List.map_append,List.map_cons,List.map_nil,List.length_append,List.length_singleton,gt_iff_lt,Nat.reduceAdd,Nat.reduceSub]
       · refine⟨_,?_,[w]++[y],by simp only[List.length_cons,List.length_nil,List.length_append]at *;omega,hb2,rfl⟩
         rw[rs1,ss1]
         generalize a7 _ p2 j=q at*
         generalize aL x.people b.pl m x.tags j=g at*
         rw[← qj]at nl0 ⊢
         have nse:nth (q.set j (nth q j+1)) j=nth q j+1:=aK (by omega)
         obtain⟨y1,y2,y3⟩:=y
         obtain⟨⟨places,roads⟩,time,people,tags,readers,numbers,looked,missed⟩:=x
         simp only[ae,Tru.cs,au,Rdr.e,arI,List.cons_append,List.nil_append,List.map_cons,List.map_nil,LLe,tL,ml,rn,Nat.reduceAdd,Nat.reduceSub,List.length_cons,List.length_nil]at*
         simp (disch:=omega) only[go_sem,K.aa,↓reduceIte,ex,hs,sh,an,h2,nse,nl0,ai,List.length_set,ql,List.map_append,List.map_cons,List.map_nil,List.length_append,List.length_singleton,gt_iff_lt,Nat.reduceAdd,Nat.reduceSub]
       · refine⟨_,?_,[w,w2]++[y],by simp only[List.length_cons,List.length_nil,List.length_append]at *;omega,hb2,rfl⟩
         rw[rs1,ss1]
         generalize a7 _ p2 j=q at*
         generalize aL x.people b.pl m x.tags j=g at*
         rw[← qj]at nl0 ⊢
         have nse:nth (q.set j (nth q j+1)) j=nth q j+1:=aK (by omega)
         obtain⟨y1,y2,y3⟩:=y
         obtain⟨⟨places,roads⟩,time,people,tags,readers,numbers,looked,missed⟩:=x
         simp only[ae,Tru.cs,au,Rdr.e,arI,List.cons_append,List.nil_append,List.map_cons,List.map_nil,LLe,tL,ml,rn,Nat.reduceAdd,Nat.reduceSub,List.length_cons,List.length_nil]at*
         simp (disch:=omega) only[go_sem,K.aa,↓reduceIte,ex,hs,sh,an,h2,nse,nl0,ai,List.length_set,ql,List.map_append,List.map_cons,List.map_nil,List.length_append,List.length_singleton,gt_iff_lt,Nat.reduceAdd,Nat.reduceSub]
       · simp only[List.length_cons]at wl;omega
     · have nw:(bI x.people b.pl m p2) j=0:=by unfold bI bO eP;rw[decide_eq_true h1,decide_eq_false h2];rfl
       have ss1:aL x.people b.pl m x.tags (j+1)=aL x.people b.pl m x.tags j++[nth x.tags j]:=by rw[aL];unfold bO eP;rw[decide_eq_true h1,decide_eq_false h2];rfl
       have rs1:a7 (bI x.people b.pl m p2) p2 (j+1)=(a7 (bI x.people b.pl m p2) p2 j).set j 0:=by rw[a7,nw]
       generalize hy:nth x.people j=y at*
       rcases W with _ | ⟨w,_ | ⟨w2,_ | ⟨w3,W⟩⟩⟩
       · refine⟨_,?_,[]++[y],by simp only[List.length_cons,List.length_nil,List.length_append]at *;omega,hb2,rfl⟩
         rw[rs1,ss1]
         generalize a7 _ p2 j=q at*
         generalize aL x.people b.pl m x.tags j=g at*
         obtain⟨y1,y2,y3⟩:=y
         obtain⟨⟨places,roads⟩,time,people,tags,readers,numbers,looked,missed⟩:=x
         simp only[ae,Tru.cs,au,Rdr.e,arI,List.cons_append,List.nil_append,List.map_cons,List.map_nil,LLe,tL,ml,rn,Nat.reduceAdd,Nat.reduceSub,List.length_cons,List.length_nil]at*
         simp (disch:=omega) only[go_sem,K.aa,↓reduceIte,ex,hs,sh,an,h2,et,ai,List.length_set,ql,List.map_append,List.map_cons,List.map_nil,List.length_append,List.length_singleton,gt_iff_lt,Nat.reduceAdd,Nat.reduceSub]
       · refine⟨_,?_,[w]++[y],by simp only[List.length_cons,List.length_nil,List.length_append]at *;omega,hb2,rfl⟩
         rw[rs1,ss1]
         generalize a7 _ p2 j=q at*
         generalize aL x.people b.pl m x.tags j=g at*
         obtain⟨y1,y2,y3⟩:=y
         obtain⟨⟨places,roads⟩,time,people,tags,readers,numbers,looked,missed⟩:=x
         simp only[ae,Tru.cs,au,Rdr.e,arI,List.cons_append,List.nil_append,List.map_cons,List.map_nil,LLe,tL,ml,rn,Nat.reduceAdd,Nat.reduceSub,List.length_cons,List.length_nil]at*
         simp (disch:=omega) only[go_sem,K.aa,↓reduceIte,ex,hs,sh,an,h2,et,ai,List.length_set,ql,List.map_append,List.map_cons,List.map_nil,List.length_append,List.length_singleton,gt_iff_lt,Nat.reduceAdd,Nat.reduceSub]
       · refine⟨_,?_,[w,w2]++[y],by simp only[List.length_cons,List.length_nil,List.length_append]at *;omega,hb2,rfl⟩
         rw[rs1,ss1]
         generalize a7 _ p2 j=q at*
         generalize aL x.people b.pl m x.tags j=g at*
         obtain⟨y1,y2,y3⟩:=y
         obtain⟨⟨places,roads⟩,time,people,tags,readers,numbers,looked,missed⟩:=x
         simp only[ae,Tru.cs,au,Rdr.e,arI,List.cons_append,List.nil_append,List.map_cons,List.map_nil,LLe,tL,ml,rn,Nat.reduceAdd,Nat.reduceSub,List.length_cons,List.length_nil]at*
         simp (disch:=omega) only[go_sem,K.aa,↓reduceIte,ex,hs,sh,an,h2,et,ai,List.length_set,ql,List.map_append,List.map_cons,List.map_nil,List.length_append,List.length_singleton,gt_iff_lt,Nat.reduceAdd,Nat.reduceSub]
       · simp only[List.length_cons]at wl;omega
   · have nw:(bI x.people b.pl m p2) j=0:=by unfold bI bO eP;rw[decide_eq_false h1];rfl
     have ss1:aL x.people b.pl m x.tags (j+1)=aL x.people b.pl m x.tags j:=by rw[aL];unfold bO eP;rw[decide_eq_false h1];rfl
     have rs1:a7 (bI x.people b.pl m p2) p2 (j+1)=(a7 (bI x.people b.pl m p2) p2 j).set j 0:=by rw[a7,nw]
     rw[decide_eq_false h1]at hs
     by_cases h2:sM m j=1
     · generalize hy:nth x.people j=y at*
       rcases W with _ | ⟨w,_ | ⟨w2,_ | ⟨w3,W⟩⟩⟩
       · refine⟨_,?_,[]++[y],by simp only[List.length_cons,List.length_nil,List.length_append]at *;omega,hb2,rfl⟩
         rw[rs1,ss1]
         generalize a7 _ p2 j=q at*
         generalize aL x.people b.pl m x.tags j=g at*
         obtain⟨y1,y2,y3⟩:=y
         obtain⟨⟨places,roads⟩,time,people,tags,readers,numbers,looked,missed⟩:=x
         simp only[ae,Tru.cs,au,Rdr.e,arI,List.cons_append,List.nil_append,List.map_cons,List.map_nil,LLe,tL,ml,rn,Nat.reduceAdd,Nat.reduceSub,List.length_cons,List.length_nil]at*
         simp (disch:=omega) only[go_sem,K.aa,↓reduceIte,ex,hs,sh,an,h2,ai,List.length_set,ql,List.map_append,List.map_cons,List.map_nil,List.length_append,List.length_singleton,gt_iff_lt,Nat.reduceAdd,Nat.reduceSub]
       · refine⟨_,?_,[w]++[y],by simp only[List.length_cons,List.length_nil,List.length_append]at *;omega,hb2,rfl⟩
         rw[rs1,ss1]
         generalize a7 _ p2 j=q at*
         generalize aL x.people b.pl m x.tags j=g at*
         obtain⟨y1,y2,y3⟩:=y
         obtain⟨⟨places,roads⟩,time,people,tags,readers,numbers,looked,missed⟩:=x
         simp only[ae,Tru.cs,au,Rdr.e,arI,List.cons_append,List.nil_append,List.map_cons,List.map_nil,LLe,tL,ml,rn,Nat.reduceAdd,Nat.reduceSub,List.length_cons,List.length_nil]at*
         simp (disch:=omega) only[go_sem,K.aa,↓reduceIte,ex,hs,sh,an,h2,ai,List.length_set,ql,List.map_append,List.map_cons,List.map_nil,List.length_append,List.length_singleton,gt_iff_lt,Nat.reduceAdd,Nat.reduceSub]
       · refine⟨_,?_,[w,w2]++[y],by simp only[List.length_cons,List.length_nil,List.length_append]at *;omega,hb2,rfl⟩
         rw[rs1,ss1]
         generalize a7 _ p2 j=q at*
         generalize aL x.people b.pl m x.tags j=g at*
         obtain⟨y1,y2,y3⟩:=y
         obtain⟨⟨places,roads⟩,time,people,tags,readers,numbers,looked,missed⟩:=x
         simp only[ae,Tru.cs,au,Rdr.e,arI,List.cons_append,List.nil_append,List.map_cons,List.map_nil,LLe,tL,ml,rn,Nat.reduceAdd,Nat.reduceSub,List.length_cons,List.length_nil]at*
         simp (disch:=omega) only[go_sem,K.aa,↓reduceIte,ex,hs,sh,an,h2,ai,List.length_set,ql,List.map_append,List.map_cons,List.map_nil,List.length_append,List.length_singleton,gt_iff_lt,Nat.reduceAdd,Nat.reduceSub]
       · simp only[List.length_cons]at wl;omega
     · generalize hy:nth x.people j=y at*
       rcases W with _ | ⟨w,_ | ⟨w2,_ | ⟨w3,W⟩⟩⟩
       · refine⟨_,?_,[]++[y],by simp only[List.length_cons,List.length_nil,List.length_append]at *;omega,hb2,rfl⟩
         rw[rs1,ss1]
         generalize a7 _ p2 j=q at*
         generalize aL x.people b.pl m x.tags j=g at*
         obtain⟨y1,y2,y3⟩:=y
         obtain⟨⟨places,roads⟩,time,people,tags,readers,numbers,looked,missed⟩:=x
         simp only[ae,Tru.cs,au,Rdr.e,arI,List.cons_append,List.nil_append,List.map_cons,List.map_nil,LLe,tL,ml,rn,Nat.reduceAdd,Nat.reduceSub,List.length_cons,List.length_nil]at*
         simp (disch:=omega) only[go_sem,K.aa,↓reduceIte,ex,hs,sh,an,h2,ai,List.length_set,ql,List.map_append,List.map_cons,List.map_nil,List.length_append,List.length_singleton,gt_iff_lt,Nat.reduceAdd,Nat.reduceSub]
       · refine⟨_,?_,[w]++[y],by simp only[List.length_cons,List.length_nil,List.length_append]at *;omega,hb2,rfl⟩
         rw[rs1,ss1]
         generalize a7 _ p2 j=q at*
         generalize aL x.people b.pl m x.tags j=g at*
         obtain⟨y1,y2,y3⟩:=y
         obtain⟨⟨places,roads⟩,time,people,tags,readers,numbers,looked,missed⟩:=x
         simp only[ae,Tru.cs,au,Rdr.e,arI,List.cons_append,List.nil_append,List.map_cons,List.map_nil,LLe,tL,ml,rn,Nat.reduceAdd,Nat.reduceSub,List.length_cons,List.length_nil]at*
         simp (disch:=omega) only[go_sem,K.aa,↓reduceIte,ex,hs,sh,an,h2,ai,List.length_set,ql,List.map_append,List.map_cons,List.map_nil,List.length_append,List.length_singleton,gt_iff_lt,Nat.reduceAdd,Nat.reduceSub]
       · refine⟨_,?_,[w,w2]++[y],by simp only[List.length_cons,List.length_nil,List.length_append]at *;omega,hb2,rfl⟩
         rw[rs1,ss1]
         generalize a7 _ p2 j=q at*
         generalize aL x.people b.pl m x.tags j=g at*
         obtain⟨y1,y2,y3⟩:=y
         obtain⟨⟨places,roads⟩,time,people,tags,readers,numbers,looked,missed⟩:=x
         simp only[ae,Tru.cs,au,Rdr.e,arI,List.cons_append,List.nil_append,List.map_cons,List.map_nil,LLe,tL,ml,rn,Nat.reduceAdd,Nat.reduceSub,List.length_cons,List.length_nil]at*
         simp (disch:=omega) only[go_sem,K.aa,↓reduceIte,ex,hs,sh,an,h2,ai,List.length_set,ql,List.map_append,List.map_cons,List.map_nil,List.length_append,List.length_singleton,gt_iff_lt,Nat.reduceAdd,Nat.reduceSub]
       · simp only[List.length_cons]at wl;omega
theorem LU{x:Tru}(h:x.ok){a b d:Rdr}{p p2 p3:List Int}(e1:x.readers=[a,b,d])(e2:x.missed=[p,p2,p3])(m off:Int)(oN oL:Obj)(num:Int)(z0 z3 z7 z10 z11 z13 z14 z15 z16 z17:D):∃q,exS aT K.fx ⟨[z0,I 1,I m,z3,.bp 0 0,.bp 1 0,.bp 2 0,z7,.bp 3 0,.bp 11 0,z10,z11,.bp 12 0,z13,z14,z15,z16,z17,.t (.sl (x.people.map Wlk.e)),I x.people.length,I 0],[.box (x.cs.map .t),.box ae,.box [I 0,I 0,I 0,.nil],.box [.t (tL b.pl),I b.per,I b.miss,I b.skew],.arr 4 false 0 [.t a.e,.t b.e,.t d.e],oN,oL,.arr 1 false 0 [.ref 8 0 p.length,.ref 9 0 p2.length,.ref 10 0 p3.length],arI p,arI p2,arI p3,.box (au 4 x),.box [I 1,I num,I (x.time+off),.ref 14 0 0],.arr 1 false 0 [],arI ([]:List Int)]⟩=some q∧Dv x a b d p p2 p3 m off oN oL num q:=by
 have n3:=h.n3
 have tl:=h.tl
 have nl:=h.nl
 have ll:=h.ll
 have t0:=h.t0
 have t1:=h.t1
 have nb:=h.nb 1 (by rw[e1];simp)
 have mb:=h.mb 1 (by rw[e1];simp)
 have m2:=h.m2 1 (by rw[e1];simp)
 have rk:nth x.readers 1=b:=by rw[e1];rfl
 have mk:nth x.missed 1=p2:=by rw[e2];rfl
 have ml:x.missed.length=3:=by rw[e2];rfl
 have rn:x.readers.length=3:=by rw[e1];rfl
 have ro:=h.r b (by rw[e1];simp)
 rw[rk,mk]at mb
 rw[mk]at m2
 obtain⟨rs,rl,rl1,rp1,rp2,rm1,rm2,rk1,rk2⟩:=ro
 refine fI (uI x a b d p p2 p3 m off oN oL num) x.people.length _ ⟨[],Nat.le_refl _,fun i hi=>absurd hi (by omega),rfl⟩ (fun j st hj hp=>LS h e1 e2 m off oN oL num j st hj hp) ?_
 intro st hp
 refine⟨(.exit 1,st),?_,by simp,.inr ⟨?_,st,hp,rfl⟩⟩
 · obtain⟨W,wl,hb,rfl⟩:=hp
   have wl:=Nat.le_trans wl n3
   generalize a7 _ p2 _=q at*
   generalize aL x.people b.pl m x.tags _=g at*
   rcases W with _ | ⟨w,_ | ⟨w2,_ | ⟨w3,_ | ⟨w4,W⟩⟩⟩⟩
   · obtain⟨⟨places,roads⟩,time,people,tags,readers,numbers,looked,missed⟩:=x
     simp only[ae,Tru.cs,au,Rdr.e,arI,List.cons_append,List.nil_append,List.map_cons,List.map_nil,LLe,tL,ml,rn,Nat.reduceAdd,Nat.reduceSub,List.length_cons,List.length_nil]at*
     simp (disch:=omega) only[go_sem,K.aa,↓reduceIte,Nat.reduceAdd,Nat.reduceSub]
   · obtain⟨⟨places,roads⟩,time,people,tags,readers,numbers,looked,missed⟩:=x
     simp only[ae,Tru.cs,au,Rdr.e,arI,List.cons_append,List.nil_append,List.map_cons,List.map_nil,LLe,tL,ml,rn,Nat.reduceAdd,Nat.reduceSub,List.length_cons,List.length_nil]at*
     simp (disch:=omega) only[go_sem,K.aa,↓reduceIte,Nat.reduceAdd,Nat.reduceSub]
   · obtain⟨⟨places,roads⟩,time,people,tags,readers,numbers,looked,missed⟩:=x
     simp only[ae,Tru.cs,au,Rdr.e,arI,List.cons_append,List.nil_append,List.map_cons,List.map_nil,LLe,tL,ml,rn,Nat.reduceAdd,Nat.reduceSub,List.length_cons,List.length_nil]at*
     simp (disch:=omega) only[go_sem,K.aa,↓reduceIte,Nat.reduceAdd,Nat.reduceSub]
   · obtain⟨⟨places,roads⟩,time,people,tags,readers,numbers,looked,missed⟩:=x
     simp only[ae,Tru.cs,au,Rdr.e,arI,List.cons_append,List.nil_append,List.map_cons,List.map_nil,LLe,tL,ml,rn,Nat.reduceAdd,Nat.reduceSub,List.length_cons,List.length_nil]at*
     simp (disch:=omega) only[go_sem,K.aa,↓reduceIte,Nat.reduceAdd,Nat.reduceSub]
   · simp only[List.length_cons]at wl;omega
 · obtain⟨W,wl,hb,rfl⟩:=hp
   rw[List.any_eq_false]
   intro i hi
   rw[hb i (List.mem_range.1 hi)]
   decide
set_option maxHeartbeats 4000000 in
theorem Dw{x:Tru}(h:x.ok){a b d:Rdr}{p p2 p3:List Int}(e1:x.readers=[a,b,d])(e2:x.missed=[p,p2,p3])(m off:Int)(o1: -b.skew≤off)(o2:off≤b.skew)(o3:0≤x.time+off)(o4:x.time+off≤2147483648):
 aT 0 N.ag [.t x.e,I 1,I m,I off] []=some (if nQ x 1 m then .tup [.t x.e,.t (dJ 0 0 0 []),I 43]else .tup [.t (du x 1 m).e,.t (dJ 1 (lg x 1) (x.time+off) (fZ (aL x.people b.pl m x.tags x.people.length))),I 0],[]):=by
 have n3:=h.n3
 have tl:=h.tl
 have nl:=h.nl
 have ll:=h.ll
 have t0:=h.t0
 have t1:=h.t1
 have nb:=h.nb 1 (by rw[e1];simp)
 have mb:=h.mb 1 (by rw[e1];simp)
 have m2:=h.m2 1 (by rw[e1];simp)
 have rk:nth x.readers 1=b:=by rw[e1];rfl
 have mk:nth x.missed 1=p2:=by rw[e2];rfl
 have ml:x.missed.length=3:=by rw[e2];rfl
 have rn:x.readers.length=3:=by rw[e1];rfl
 have ro:=h.r b (by rw[e1];simp)
 rw[rk,mk]at mb
 rw[mk]at m2
 obtain⟨rs,rl,rl1,rp1,rp2,rm1,rm2,rk1,rk2⟩:=ro
 have sz:=h.sz
 have cp:=pI sz e1 e2
 have va:=jy h
 have lpL:=LU h e1 e2 m off
 have scl:∀(y:Tru) (r:T) (v:Int),([D.t y.e,D.t r,I v].all bz)=false:=fun _ _ _=>rfl
 have sl:=eH x.people b.pl m x.tags x.people.length
 have so:=pD 0 (aL x.people b.pl m x.tags x.people.length) (by omega)
 have sol:=eZ (aL x.people b.pl m x.tags x.people.length)
 have i1:=hT 1 0 ((3:Int)-1)
 have i2:=hT off (0-b.skew) b.skew
 have i3:=hT (x.time+off) 0 2147483648
 rw[decide_eq_true (by omega)]at i1 i2 i3
 unfold nQ du lg
 rw[rk,mk]
 have en:(x.numbers.map (T.int .i64))[1]?=some (tI (nth x.numbers 1)):=aD _ (by omega)
 have el:(x.looked.map (T.int .i64))[1]?=some (tI (nth x.looked 1)):=aD _ (by omega)
 generalize nth x.numbers 1=nu at*
 generalize nth x.looked 1=lo at*
 refine aB K.fk rfl ?_
 have qe:∀(b:Prop) [Decidable b],(nu+if b then 2 else 1)=if b then nu+2 else nu+1:=fun b _=>by split<;>rfl
 have wl:=cD (bI x.people b.pl m p2) p2 x.people.length
 by_cases bq:(List.range x.people.length).any (cV x.people b.pl b.miss m p2)=true
 · rw[if_pos bq]
   obtain⟨⟨places,roads⟩,time,people,tags,readers,numbers,looked,missed⟩:=x
   subst e1 e2
   simp only[ae,Tru.e,Tru.cs,au,arI,kZ,tLL,Rdr.e,List.map_cons,List.map_nil,LLe,tL]at*
   by_cases ca:0≤lo
   · by_cases cb:b.per<time-lo
     · simp (disch:=omega) only[go_sem,K.ag,↓reduceIte,cp,va,i1,i2,i3,en,el,ca,cb,gt_iff_lt,ai,List.length_set,Nat.reduceAdd,Nat.reduceSub]
       refine b7 _ (lpL _ _ _ _ _ _ _ _ _ _ _ _ _) ?_
       rintro q (⟨_,v0,v3,_,_,_,vr,rest,rfl⟩ | ⟨n,_⟩)
       · simp (disch:=omega) only[go_sem,K.ag,↓reduceIte,scl,Nat.reduceAdd,Nat.reduceSub]
         rfl
       · rw[n]at bq;cases bq
     · simp (disch:=omega) only[go_sem,K.ag,↓reduceIte,cp,va,i1,i2,i3,en,el,ca,cb,gt_iff_lt,ai,List.length_set,Nat.reduceAdd,Nat.reduceSub]
       refine b7 _ (lpL _ _ _ _ _ _ _ _ _ _ _ _ _) ?_
       rintro q (⟨_,v0,v3,_,_,_,vr,rest,rfl⟩ | ⟨n,_⟩)
       · simp (disch:=omega) only[go_sem,K.ag,↓reduceIte,scl,Nat.reduceAdd,Nat.reduceSub]
         rfl
       · rw[n]at bq;cases bq
   · simp (disch:=omega) only[go_sem,K.ag,↓reduceIte,cp,va,i1,i2,i3,en,el,ca,gt_iff_lt,ai,List.length_set,Nat.reduceAdd,Nat.reduceSub]
     refine b7 _ (lpL _ _ _ _ _ _ _ _ _ _ _ _ _) ?_
     rintro q (⟨_,v0,v3,_,_,_,vr,rest,rfl⟩ | ⟨n,_⟩)
     · simp (disch:=omega) only[go_sem,K.ag,↓reduceIte,scl,Nat.reduceAdd,Nat.reduceSub]
       rfl
     · rw[n]at bq;cases bq
 · rw[if_neg bq]
   have qa:(x.numbers.set 1 ((nu+if 0≤lo∧b.per<x.time-lo then 2 else 1).tmod 65536)).length=x.numbers.length:=List.length_set ..
   generalize hg:aL x.people b.pl m x.tags x.people.length=g at*
   obtain⟨q,hq,hQ⟩:=lpL (arI (x.numbers.set 1 ((nu+if 0≤lo∧b.per<x.time-lo then 2 else 1).tmod 65536))) (arI (x.looked.set 1 x.time)) ((nu+if 0≤lo∧b.per<x.time-lo then 2 else 1).tmod 65536) (.t x.e) (I off) (I 0) (if 0≤lo∧b.per<x.time-lo then I 2 else I 1) (I ((nu+if 0≤lo∧b.per<x.time-lo then 2 else 1).tmod 65536)) .und .und .und .und .und
   rcases hQ with⟨n,_⟩ | ⟨_,st,⟨W,wl2,hb,rfl⟩,rfl⟩
   · exact absurd n bq
   rw[hg]at hq
   generalize a7 _ p2 _=w at*
   rcases W with _ | ⟨w1,_ | ⟨w2,_ | ⟨w3,_ | ⟨w4,W⟩⟩⟩⟩
   · obtain⟨⟨places,roads⟩,time,people,tags,readers,numbers,looked,missed⟩:=x
     subst e1 e2
     simp only[ae,Tru.e,Tru.cs,dJ,au,arI,kZ,tLL,Rdr.e,List.cons_append,List.nil_append,List.map_cons,List.map_nil,LLe,tL,Nat.reduceAdd,Nat.reduceSub,List.length_cons,List.length_nil]at*
     by_cases ca:0≤lo
     · by_cases cb:b.per<time-lo
       · simp only[if_pos (And.intro ca cb)]at hq ⊢
         simp (disch:=omega) only[go_sem,K.ag,↓reduceIte,cp,va,i1,i2,i3,en,el,ca,cb,gt_iff_lt,ai,hq,so,sol,wl,scl,List.length_set,Nat.reduceAdd,Nat.reduceSub]
       · simp only[if_neg (fun e:0≤lo∧b.per<time-lo=>cb e.2)]at hq ⊢
         simp (disch:=omega) only[go_sem,K.ag,↓reduceIte,cp,va,i1,i2,i3,en,el,ca,cb,gt_iff_lt,ai,hq,so,sol,wl,scl,List.length_set,Nat.reduceAdd,Nat.reduceSub]
     · simp only[if_neg (fun e:0≤lo∧b.per<time-lo=>ca e.1)]at hq ⊢
       simp (disch:=omega) only[go_sem,K.ag,↓reduceIte,cp,va,i1,i2,i3,en,el,ca,gt_iff_lt,ai,hq,so,sol,wl,scl,List.length_set,Nat.reduceAdd,Nat.reduceSub]
   · obtain⟨⟨places,roads⟩,time,people,tags,readers,numbers,looked,missed⟩:=x
     subst e1 e2
     simp only[ae,Tru.e,Tru.cs,dJ,au,arI,kZ,tLL,Rdr.e,List.cons_append,List.nil_append,List.map_cons,List.map_nil,LLe,tL,Nat.reduceAdd,Nat.reduceSub,List.length_cons,List.length_nil]at*
     by_cases ca:0≤lo
     · by_cases cb:b.per<time-lo
       · simp only[if_pos (And.intro ca cb)]at hq ⊢
         simp (disch:=omega) only[go_sem,K.ag,↓reduceIte,cp,va,i1,i2,i3,en,el,ca,cb,gt_iff_lt,ai,hq,so,sol,wl,scl,List.length_set,Nat.reduceAdd,Nat.reduceSub]
       · simp only[if_neg (fun e:0≤lo∧b.per<time-lo=>cb e.2)]at hq ⊢
         simp (disch:=omega) only[go_sem,K.ag,↓reduceIte,cp,va,i1,i2,i3,en,el,ca,cb,gt_iff_lt,ai,hq,so,sol,wl,scl,List.length_set,Nat.reduceAdd,Nat.reduceSub]
     · simp only[if_neg (fun e:0≤lo∧b.per<time-lo=>ca e.1)]at hq ⊢
       simp (disch:=omega) only[go_sem,K.ag,↓reduceIte,cp,va,i1,i2,i3,en,el,ca,gt_iff_lt,ai,hq,so,sol,wl,scl,List.length_set,Nat.reduceAdd,Nat.reduceSub]
   · obtain⟨⟨places,roads⟩,time,people,tags,readers,numbers,looked,missed⟩:=x
     subst e1 e2
     simp only[ae,Tru.e,Tru.cs,dJ,au,arI,kZ,tLL,Rdr.e,List.cons_append,List.nil_append,List.map_cons,List.map_nil,LLe,tL,Nat.reduceAdd,Nat.reduceSub,List.length_cons,List.length_nil]at*
     by_cases ca:0≤lo
     · by_cases cb:b.per<time-lo
       · simp only[if_pos (And.intro ca cb)]at hq ⊢
         simp (disch:=omega) only[go_sem,K.ag,↓reduceIte,cp,va,i1,i2,i3,en,el,ca,cb,gt_iff_lt,ai,hq,so,sol,wl,scl,List.length_set,Nat.reduceAdd,Nat.reduceSub]
       · simp only[if_neg (fun e:0≤lo∧b.per<time-lo=>cb e.2)]at hq ⊢
         simp (disch:=omega) only[go_sem,K.ag,↓reduceIte,cp,va,i1,i2,i3,en,el,ca,cb,gt_iff_lt,ai,hq,so,sol,wl,scl,List.length_set,Nat.reduceAdd,Nat.reduceSub]
     · simp only[if_neg (fun e:0≤lo∧b.per<time-lo=>ca e.1)]at hq ⊢
       simp (disch:=omega) only[go_sem,K.ag,↓reduceIte,cp,va,i1,i2,i3,en,el,ca,gt_iff_lt,ai,hq,so,sol,wl,scl,List.length_set,Nat.reduceAdd,Nat.reduceSub]
   · obtain⟨⟨places,roads⟩,time,people,tags,readers,numbers,looked,missed⟩:=x
     subst e1 e2
     simp only[ae,Tru.e,Tru.cs,dJ,au,arI,kZ,tLL,Rdr.e,List.cons_append,List.nil_append,List.map_cons,List.map_nil,LLe,tL,Nat.reduceAdd,Nat.reduceSub,List.length_cons,List.length_nil]at*
     by_cases ca:0≤lo
     · by_cases cb:b.per<time-lo
       · simp only[if_pos (And.intro ca cb)]at hq ⊢
         simp (disch:=omega) only[go_sem,K.ag,↓reduceIte,cp,va,i1,i2,i3,en,el,ca,cb,gt_iff_lt,ai,hq,so,sol,wl,scl,List.length_set,Nat.reduceAdd,Nat.reduceSub]
       · simp only[if_neg (fun e:0≤lo∧b.per<time-lo=>cb e.2)]at hq ⊢
         simp (disch:=omega) only[go_sem,K.ag,↓reduceIte,cp,va,i1,i2,i3,en,el,ca,cb,gt_iff_lt,ai,hq,so,sol,wl,scl,List.length_set,Nat.reduceAdd,Nat.reduceSub]
     · simp only[if_neg (fun e:0≤lo∧b.per<time-lo=>ca e.1)]at hq ⊢
       simp (disch:=omega) only[go_sem,K.ag,↓reduceIte,cp,va,i1,i2,i3,en,el,ca,gt_iff_lt,ai,hq,so,sol,wl,scl,List.length_set,Nat.reduceAdd,Nat.reduceSub]
   · simp only[List.length_cons]at wl2;omega
def uJ(x:Tru)(a b d:Rdr)(p p2 p3:List Int)(m off:Int)(oN oL:Obj)(num:Int)(j:Nat)(st:St):Prop:=∃W:List Wlk,W.length≤j∧(∀i,i<j→(cV x.people d.pl d.miss m p3) i=false)∧st=⟨[.und,I 2,I m,.und,.bp 0 0,.bp 1 0,.bp 2 0,.und,.bp 3 0,.bp 11 0,.und,.und,.bp 12 0,.und,.und,.und,.und,.und,.t (.sl (x.people.map Wlk.e)),I x.people.length,I j],[.box (x.cs.map .t),.box ae,.box [I 0,I 0,I 0,.nil],.box [.t (tL d.pl),I d.per,I d.miss,I d.skew],.arr 4 false 0 [.t a.e,.t b.e,.t d.e],oN,oL,.arr 1 false 0 [.ref 8 0 p.length,.ref 9 0 p2.length,.ref 10 0 p3.length],arI p,arI p2,arI (a7 (bI x.people d.pl m p3) p3 j),.box (au 4 x),.box [I 2,I num,I (x.time+off),.ref 14 0 (aL x.people d.pl m x.tags j).length],.arr 1 false 0 [],arI (aL x.people d.pl m x.tags j)]++(W.map fun w=> .box [I w.place,I w.kT,I w.left])⟩
def Dx(x:Tru)(a b d:Rdr)(p p2 p3:List Int)(m off:Int)(oN oL:Obj)(num:Int)(q:Ex×St):Prop:=((List.range x.people.length).any (cV x.people d.pl d.miss m p3)=true∧∃(v0 v3 v8 v9 v10:D) (vr:List D) (rest:aj),q=(.ret,⟨v0::I 2::I m::v3:: .bp 0 0:: .bp 1 0:: .bp 2 0::I 43::vr,.box (x.cs.map .t):: .box (x.cs.map .t):: .box [I 0,I 0,I 0,.nil]::rest⟩))∨((List.range x.people.length).any (cV x.people d.pl d.miss m p3)=false∧∃st,uJ x a b d p p2 p3 m off oN oL num x.people.length st∧q=(.exit 1,st))
theorem LV{x:Tru}(h:x.ok){a b d:Rdr}{p p2 p3:List Int}(e1:x.readers=[a,b,d])(e2:x.missed=[p,p2,p3])(m off:Int)(oN oL:Obj)(num:Int)(j:Nat)(st:St)(hj:j<x.people.length)(hp:uJ x a b d p p2 p3 m off oN oL num j st):
 (∃st',eB false [0,3,7,10,11,13,14,15,16,17] st.H.length (exS aT K.aa st)=some st'∧uJ x a b d p p2 p3 m off oN oL num (j+1) st')∨∃q,exS aT K.aa st=some q∧q.1≠ .normal∧Dx x a b d p p2 p3 m off oN oL num q:=by
 have n3:=h.n3
 have tl:=h.tl
 have nl:=h.nl
 have ll:=h.ll
 have t0:=h.t0
 have t1:=h.t1
 have nb:=h.nb 2 (by rw[e1];simp)
 have mb:=h.mb 2 (by rw[e1];simp)
 have m2:=h.m2 2 (by rw[e1];simp)
 have rk:nth x.readers 2=d:=by rw[e1];rfl
 have mk:nth x.missed 2=p3:=by rw[e2];rfl
 have ml:x.missed.length=3:=by rw[e2];rfl
 have rn:x.readers.length=3:=by rw[e1];rfl
 have ro:=h.r d (by rw[e1];simp)
 rw[rk,mk]at mb
 rw[mk]at m2
 obtain⟨rs,rl,rl1,rp1,rp2,rm1,rm2,rk1,rk2⟩:=ro
 have ex:(x.people.map Wlk.e)[j]?=some (nth x.people j).e:=aD _ hj
 have et:(x.tags.map (T.int .i64))[j]?=some (tI (nth x.tags j)):=aD _ (by omega)
 have hs:=iF d.pl (nth x.people j).place (by omega)
 have mbj:=mb j hj
 have sh:=ko m j
 have an:=fJ m j
 obtain⟨W,wl,hb,rfl⟩:=hp
 have ql:=cD (bI x.people d.pl m p3) p3 j
 have qj:=iI (bI x.people d.pl m p3) p3 j j (Nat.le_refl _)
 have sl:=eH x.people d.pl m x.tags j
 by_cases hq:(cV x.people d.pl d.miss m p3) j=true
 · have anyb:(List.range x.people.length).any (cV x.people d.pl d.miss m p3)=true:=List.any_eq_true.2 ⟨j,List.mem_range.2 hj,hq⟩
   unfold cV bO eP at hq
   simp only[Bool.and_eq_true,decide_eq_true_eq]at hq
   obtain⟨⟨h1,h2⟩,h3⟩:=hq
   generalize a7 _ p3 j=q at*
   generalize aL x.people d.pl m x.tags j=g at*
   rw[← qj]at h3
   have nse:nth (q.set j (nth q j+1)) j=nth q j+1:=aK (by omega)
   rw[decide_eq_true h1]at hs
   have key:∃(v0 v3:D) (vr:List D) (rest:aj),exS aT K.aa ⟨[.und,I 2,I m,.und,.bp 0 0,.bp 1 0,.bp 2 0,.und,.bp 3 0,.bp 11 0,.und,.und,.bp 12 0,.und,.und,.und,.und,.und,.t (.sl (x.people.map Wlk.e)),I x.people.length,I j],[.box (x.cs.map .t),.box ae,.box [I 0,I 0,I 0,.nil],.box [.t (tL d.pl),I d.per,I d.miss,I d.skew],.arr 4 false 0 [.t a.e,.t b.e,.t d.e],oN,oL,.arr 1 false 0 [.ref 8 0 p.length,.ref 9 0 p2.length,.ref 10 0 p3.length],arI p,arI p2,arI q,.box (au 4 x),.box [I 2,I num,I (x.time+off),.ref 14 0 g.length],.arr 1 false 0 [],arI g]++(W.map fun w=> .box [I w.place,I w.kT,I w.left])⟩=some (.ret,⟨v0::I 2::I m::v3:: .bp 0 0:: .bp 1 0:: .bp 2 0::I 43::vr,.box (x.cs.map .t):: .box (x.cs.map .t):: .box [I 0,I 0,I 0,.nil]::rest⟩):=by
    generalize nth x.people j=y at*
    obtain⟨y1,y2,y3⟩:=y
    rcases W with _ | ⟨w,_ | ⟨w2,_ | ⟨w3,W⟩⟩⟩
    · obtain⟨⟨places,roads⟩,time,people,tags,readers,numbers,looked,missed⟩:=x
      simp only[ae,Tru.cs,au,Rdr.e,arI,List.cons_append,List.nil_append,List.map_cons,List.map_nil,LLe,tL,ml,rn,Nat.reduceAdd,Nat.reduceSub,List.length_cons,List.length_nil]at*
      simp (disch:=omega) only[go_sem,K.aa,↓reduceIte,ex,hs,sh,an,h2,nse,h3,ai,List.length_set,ql,List.map_append,List.map_cons,List.map_nil,List.length_append,List.length_singleton,gt_iff_lt,Nat.reduceAdd,Nat.reduceSub]
      exact⟨_,_,_,_,rfl⟩
    · obtain⟨⟨places,roads⟩,time,people,tags,readers,numbers,looked,missed⟩:=x
      simp only[ae,Tru.cs,au,Rdr.e,arI,List.cons_append,List.nil_append,List.map_cons,List.map_nil,LLe,tL,ml,rn,Nat.reduceAdd,Nat.reduceSub,List.length_cons,List.length_nil]at*
      simp (disch:=omega) only[go_sem,K.aa,↓reduceIte,ex,hs,sh,an,h2,nse,h3,ai,List.length_set,ql,List.map_append,List.map_cons,List.map_nil,List.length_append,List.length_singleton,gt_iff_lt,Nat.reduceAdd,Nat.reduceSub]
      exact⟨_,_,_,_,rfl⟩
    · obtain⟨⟨places,roads⟩,time,people,tags,readers,numbers,looked,missed⟩:=x
      simp only[ae,Tru.cs,au,Rdr.e,arI,List.cons_append,List.nil_append,List.map_cons,List.map_nil,LLe,tL,ml,rn,Nat.reduceAdd,Nat.reduceSub,List.length_cons,List.length_nil]at*
      simp (disch:=omega) only[go_sem,K.aa,↓reduceIte,ex,hs,sh,an,h2,nse,h3,ai,List.length_set,ql,List.map_append,List.map_cons,List.map_nil,List.length_append,List.length_singleton,gt_iff_lt,Nat.reduceAdd,Nat.reduceSub]
      exact⟨_,_,_,_,rfl⟩
    · simp only[List.length_cons]at wl;omega
   obtain⟨v0,v3,vr,rest,key⟩:=key
   exact .inr ⟨_,key,by simp,.inl ⟨anyb,v0,v3,v0,v0,v0,vr,rest,rfl⟩⟩
 · have hq:(cV x.people d.pl d.miss m p3) j=false:=by simpa using hq
   have hb2:∀i,i<j+1→(cV x.people d.pl d.miss m p3) i=false:=fun i hi=>by
    by_cases c:i=j
    · rw[c];exact hq
    · exact hb i (by omega)
   left
   by_cases h1:(nth x.people j).place∈d.pl
   · rw[decide_eq_true h1]at hs
     by_cases h2:sM m j=1
     · have nw:(bI x.people d.pl m p3) j=nth p3 j+1:=by unfold bI bO eP;rw[decide_eq_true h1,decide_eq_true h2];rfl
       have nl0:¬d.miss<nth p3 j+1:=by
        unfold cV bO eP at hq
        rw[decide_eq_true h1,decide_eq_true h2]at hq
        simpa using hq
       have ss1:aL x.people d.pl m x.tags (j+1)=aL x.people d.pl m x.tags j:=by rw[aL];unfold bO eP;rw[decide_eq_true h1,decide_eq_true h2];rfl
       have rs1:a7 (bI x.people d.pl m p3) p3 (j+1)=(a7 (bI x.people d.pl m p3) p3 j).set j (nth p3 j+1):=by rw[a7,nw]
       generalize hy:nth x.people j=y at*
       rcases W with _ | ⟨w,_ | ⟨w2,_ | ⟨w3,W⟩⟩⟩
       · refine⟨_,?_,[]++[y],by simp only[List.length_cons,List.length_nil,List.length_append]at *;omega,hb2,rfl⟩
         rw[rs1,ss1]
         generalize a7 _ p3 j=q at*
         generalize aL x.people d.pl m x.tags j=g at*
         rw[← qj]at nl0 ⊢
         have nse:nth (q.set j (nth q j+1)) j=nth q j+1:=aK (by omega)
         obtain⟨y1,y2,y3⟩:=y
         obtain⟨⟨places,roads⟩,time,people,tags,readers,numbers,looked,missed⟩:=x
         simp only[ae,Tru.cs,au,Rdr.e,arI,List.cons_append,List.nil_append,List.map_cons,List.map_nil,LLe,tL,ml,rn,Nat.reduceAdd,Nat.reduceSub,List.length_cons,List.length_nil]at*
         simp (disch:=omega) only[go_sem,K.aa,↓reduceIte,ex,hs,sh,an,h2,nse,nl0,ai,List.length_set,ql,List.map_append,List.map_cons,List.map_nil,List.length_append,List.length_singleton,gt_iff_lt,Nat.reduceAdd,Nat.reduceSub]
       · refine⟨_,?_,[w]++[y],by simp only[List.length_cons,List.length_nil,List.length_append]at *;omega,hb2,rfl⟩
         rw[rs1,ss1]
         generalize a7 _ p3 j=q at*
         generalize aL x.people d.pl m x.tags j=g at*
         rw[← qj]at nl0 ⊢
         have nse:nth (q.set j (nth q j+1)) j=nth q j+1:=aK (by omega)
         obtain⟨y1,y2,y3⟩:=y
         obtain⟨⟨places,roads⟩,time,people,tags,readers,numbers,looked,missed⟩:=x
         simp only[ae,Tru.cs,au,Rdr.e,arI,List.cons_append,List.nil_append,List.map_cons,List.map_nil,LLe,tL,ml,rn,Nat.reduceAdd,Nat.reduceSub,List.length_cons,List.length_nil]at*
         simp (disch:=omega) only[go_sem,K.aa,↓reduceIte,ex,hs,sh,an,h2,nse,nl0,ai,List.length_set,ql,List.map_append,List.map_cons,List.map_nil,List.length_append,List.length_singleton,gt_iff_lt,Nat.reduceAdd,Nat.reduceSub]
       · refine⟨_,?_,[w,w2]++[y],by simp only[List.length_cons,List.length_nil,List.length_append]at *;omega,hb2,rfl⟩
         rw[rs1,ss1]
         generalize a7 _ p3 j=q at*
         generalize aL x.people d.pl m x.tags j=g at*
         rw[← qj]at nl0 ⊢
         have nse:nth (q.set j (nth q j+1)) j=nth q j+1:=aK (by omega)
         obtain⟨y1,y2,y3⟩:=y
         obtain⟨⟨places,roads⟩,time,people,tags,readers,numbers,looked,missed⟩:=x
         simp only[ae,Tru.cs,au,Rdr.e,arI,List.cons_append,List.nil_append,List.map_cons,List.map_nil,LLe,tL,ml,rn,Nat.reduceAdd,Nat.reduceSub,List.length_cons,List.length_nil]at*
         simp (disch:=omega) only[go_sem,K.aa,↓reduceIte,ex,hs,sh,an,h2,nse,nl0,ai,List.length_set,ql,List.map_append,List.map_cons,List.map_nil,List.length_append,List.length_singleton,gt_iff_lt,Nat.reduceAdd,Nat.reduceSub]
       · simp only[List.length_cons]at wl;omega
     · have nw:(bI x.people d.pl m p3) j=0:=by unfold bI bO eP;rw[decide_eq_true h1,decide_eq_false h2];rfl
       have ss1:aL x.people d.pl m x.tags (j+1)=aL x.people d.pl m x.tags j++[nth x.tags j]:=by rw[aL];unfold bO eP;rw[decide_eq_true h1,decide_eq_false h2];rfl
       have rs1:a7 (bI x.people d.pl m p3) p3 (j+1)=(a7 (bI x.people d.pl m p3) p3 j).set j 0:=by rw[a7,nw]
       generalize hy:nth x.people j=y at*
       rcases W with _ | ⟨w,_ | ⟨w2,_ | ⟨w3,W⟩⟩⟩
       · refine⟨_,?_,[]++[y],by simp only[List.length_cons,List.length_nil,List.length_append]at *;omega,hb2,rfl⟩
         rw[rs1,ss1]
         generalize a7 _ p3 j=q at*
         generalize aL x.people d.pl m x.tags j=g at*
         obtain⟨y1,y2,y3⟩:=y
         obtain⟨⟨places,roads⟩,time,people,tags,readers,numbers,looked,missed⟩:=x
         simp only[ae,Tru.cs,au,Rdr.e,arI,List.cons_append,List.nil_append,List.map_cons,List.map_nil,LLe,tL,ml,rn,Nat.reduceAdd,Nat.reduceSub,List.length_cons,List.length_nil]at*
         simp (disch:=omega) only[go_sem,K.aa,↓reduceIte,ex,hs,sh,an,h2,et,ai,List.length_set,ql,List.map_append,List.map_cons,List.map_nil,List.length_append,List.length_singleton,gt_iff_lt,Nat.reduceAdd,Nat.reduceSub]
       · refine⟨_,?_,[w]++[y],by simp only[List.length_cons,List.length_nil,List.length_append]at *;omega,hb2,rfl⟩
         rw[rs1,ss1]
         generalize a7 _ p3 j=q at*
         generalize aL x.people d.pl m x.tags j=g at*
         obtain⟨y1,y2,y3⟩:=y
         obtain⟨⟨places,roads⟩,time,people,tags,readers,numbers,looked,missed⟩:=x
         simp only[ae,Tru.cs,au,Rdr.e,arI,List.cons_append,List.nil_append,List.map_cons,List.map_nil,LLe,tL,ml,rn,Nat.reduceAdd,Nat.reduceSub,List.length_cons,List.length_nil]at*
         simp (disch:=omega) only[go_sem,K.aa,↓reduceIte,ex,hs,sh,an,h2,et,ai,List.length_set,ql,List.map_append,List.map_cons,List.map_nil,List.length_append,List.length_singleton,gt_iff_lt,Nat.reduceAdd,Nat.reduceSub]
       · refine⟨_,?_,[w,w2]++[y],by simp only[List.length_cons,List.length_nil,List.length_append]at *;omega,hb2,rfl⟩
         rw[rs1,ss1]
         generalize a7 _ p3 j=q at*
         generalize aL x.people d.pl m x.tags j=g at*
         obtain⟨y1,y2,y3⟩:=y
         obtain⟨⟨places,roads⟩,time,people,tags,readers,numbers,looked,missed⟩:=x
         simp only[ae,Tru.cs,au,Rdr.e,arI,List.cons_append,List.nil_append,List.map_cons,List.map_nil,LLe,tL,ml,rn,Nat.reduceAdd,Nat.reduceSub,List.length_cons,List.length_nil]at*
         simp (disch:=omega) only[go_sem,K.aa,↓reduceIte,ex,hs,sh,an,h2,et,ai,List.length_set,ql,List.map_append,List.map_cons,List.map_nil,List.length_append,List.length_singleton,gt_iff_lt,Nat.reduceAdd,Nat.reduceSub]
       · simp only[List.length_cons]at wl;omega
   · have nw:(bI x.people d.pl m p3) j=0:=by unfold bI bO eP;rw[decide_eq_false h1];rfl
     have ss1:aL x.people d.pl m x.tags (j+1)=aL x.people d.pl m x.tags j:=by rw[aL];unfold bO eP;rw[decide_eq_false h1];rfl
     have rs1:a7 (bI x.people d.pl m p3) p3 (j+1)=(a7 (bI x.people d.pl m p3) p3 j).set j 0:=by rw[a7,nw]
     rw[decide_eq_false h1]at hs
     by_cases h2:sM m j=1
     · generalize hy:nth x.people j=y at*
       rcases W with _ | ⟨w,_ | ⟨w2,_ | ⟨w3,W⟩⟩⟩
       · refine⟨_,?_,[]++[y],by simp only[List.length_cons,List.length_nil,List.length_append]at *;omega,hb2,rfl⟩
         rw[rs1,ss1]
         generalize a7 _ p3 j=q at*
         generalize aL x.people d.pl m x.tags j=g at*
         obtain⟨y1,y2,y3⟩:=y
         obtain⟨⟨places,roads⟩,time,people,tags,readers,numbers,looked,missed⟩:=x
         simp only[ae,Tru.cs,au,Rdr.e,arI,List.cons_append,List.nil_append,List.map_cons,List.map_nil,LLe,tL,ml,rn,Nat.reduceAdd,Nat.reduceSub,List.length_cons,List.length_nil]at*
         simp (disch:=omega) only[go_sem,K.aa,↓reduceIte,ex,hs,sh,an,h2,ai,List.length_set,ql,List.map_append,List.map_cons,List.map_nil,List.length_append,List.length_singleton,gt_iff_lt,Nat.reduceAdd,Nat.reduceSub]
       · refine⟨_,?_,[w]++[y],by simp only[List.length_cons,List.length_nil,List.length_append]at *;omega,hb2,rfl⟩
         rw[rs1,ss1]
         generalize a7 _ p3 j=q at*
         generalize aL x.people d.pl m x.tags j=g at*
         obtain⟨y1,y2,y3⟩:=y
         obtain⟨⟨places,roads⟩,time,people,tags,readers,numbers,looked,missed⟩:=x
         simp only[ae,Tru.cs,au,Rdr.e,arI,List.cons_append,List.nil_append,List.map_cons,List.map_nil,LLe,tL,ml,rn,Nat.reduceAdd,Nat.reduceSub,List.length_cons,List.length_nil]at*
         simp (disch:=omega) only[go_sem,K.aa,↓reduceIte,ex,hs,sh,an,h2,ai,List.length_set,ql,List.map_append,List.map_cons,List.map_nil,List.length_append,List.length_singleton,gt_iff_lt,Nat.reduceAdd,Nat.reduceSub]
       · refine⟨_,?_,[w,w2]++[y],by simp only[List.length_cons,List.length_nil,List.length_append]at *;omega,hb2,rfl⟩
         rw[rs1,ss1]
         generalize a7 _ p3 j=q at*
         generalize aL x.people d.pl m x.tags j=g at*
         obtain⟨y1,y2,y3⟩:=y
         obtain⟨⟨places,roads⟩,time,people,tags,readers,numbers,looked,missed⟩:=x
         simp only[ae,Tru.cs,au,Rdr.e,arI,List.cons_append,List.nil_append,List.map_cons,List.map_nil,LLe,tL,ml,rn,Nat.reduceAdd,Nat.reduceSub,List.length_cons,List.length_nil]at*
         simp (disch:=omega) only[go_sem,K.aa,↓reduceIte,ex,hs,sh,an,h2,ai,List.length_set,ql,List.map_append,List.map_cons,List.map_nil,List.length_append,List.length_singleton,gt_iff_lt,Nat.reduceAdd,Nat.reduceSub]
       · simp only[List.length_cons]at wl;omega
     · generalize hy:nth x.people j=y at*
       rcases W with _ | ⟨w,_ | ⟨w2,_ | ⟨w3,W⟩⟩⟩
       · refine⟨_,?_,[]++[y],by simp only[List.length_cons,List.length_nil,List.length_append]at *;omega,hb2,rfl⟩
         rw[rs1,ss1]
         generalize a7 _ p3 j=q at*
         generalize aL x.people d.pl m x.tags j=g at*
         obtain⟨y1,y2,y3⟩:=y
         obtain⟨⟨places,roads⟩,time,people,tags,readers,numbers,looked,missed⟩:=x
         simp only[ae,Tru.cs,au,Rdr.e,arI,List.cons_append,List.nil_append,List.map_cons,List.map_nil,LLe,tL,ml,rn,Nat.reduceAdd,Nat.reduceSub,List.length_cons,List.length_nil]at*
         simp (disch:=omega) only[go_sem,K.aa,↓reduceIte,ex,hs,sh,an,h2,ai,List.length_set,ql,List.map_append,List.map_cons,List.map_nil,List.length_append,List.length_singleton,gt_iff_lt,Nat.reduceAdd,Nat.reduceSub]
       · refine⟨_,?_,[w]++[y],by simp only[List.length_cons,List.length_nil,List.length_append]at *;omega,hb2,rfl⟩
         rw[rs1,ss1]
         generalize a7 _ p3 j=q at*
         generalize aL x.people d.pl m x.tags j=g at*
         obtain⟨y1,y2,y3⟩:=y
         obtain⟨⟨places,roads⟩,time,people,tags,readers,numbers,looked,missed⟩:=x
         simp only[ae,Tru.cs,au,Rdr.e,arI,List.cons_append,List.nil_append,List.map_cons,List.map_nil,LLe,tL,ml,rn,Nat.reduceAdd,Nat.reduceSub,List.length_cons,List.length_nil]at*
         simp (disch:=omega) only[go_sem,K.aa,↓reduceIte,ex,hs,sh,an,h2,ai,List.length_set,ql,List.map_append,List.map_cons,List.map_nil,List.length_append,List.length_singleton,gt_iff_lt,Nat.reduceAdd,Nat.reduceSub]
       · refine⟨_,?_,[w,w2]++[y],by simp only[List.length_cons,List.length_nil,List.length_append]at *;omega,hb2,rfl⟩
         rw[rs1,ss1]
         generalize a7 _ p3 j=q at*
         generalize aL x.people d.pl m x.tags j=g at*
         obtain⟨y1,y2,y3⟩:=y
         obtain⟨⟨places,roads⟩,time,people,tags,readers,numbers,looked,missed⟩:=x
         simp only[ae,Tru.cs,au,Rdr.e,arI,List.cons_append,List.nil_append,List.map_cons,List.map_nil,LLe,tL,ml,rn,Nat.reduceAdd,Nat.reduceSub,List.length_cons,List.length_nil]at*
         simp (disch:=omega) only[go_sem,K.aa,↓reduceIte,ex,hs,sh,an,h2,ai,List.length_set,ql,List.map_append,List.map_cons,List.map_nil,List.length_append,List.length_singleton,gt_iff_lt,Nat.reduceAdd,Nat.reduceSub]
       · simp only[List.length_cons]at wl;omega
theorem LW{x:Tru}(h:x.ok){a b d:Rdr}{p p2 p3:List Int}(e1:x.readers=[a,b,d])(e2:x.missed=[p,p2,p3])(m off:Int)(oN oL:Obj)(num:Int)(z0 z3 z7 z10 z11 z13 z14 z15 z16 z17:D):∃q,exS aT K.fx ⟨[z0,I 2,I m,z3,.bp 0 0,.bp 1 0,.bp 2 0,z7,.bp 3 0,.bp 11 0,z10,z11,.bp 12 0,z13,z14,z15,z16,z17,.t (.sl (x.people.map Wlk.e)),I x.people.length,I 0],[.box (x.cs.map .t),.box ae,.box [I 0,I 0,I 0,.nil],.box [.t (tL d.pl),I d.per,I d.miss,I d.skew],.arr 4 false 0 [.t a.e,.t b.e,.t d.e],oN,oL,.arr 1 false 0 [.ref 8 0 p.length,.ref 9 0 p2.length,.ref 10 0 p3.length],arI p,arI p2,arI p3,.box (au 4 x),.box [I 2,I num,I (x.time+off),.ref 14 0 0],.arr 1 false 0 [],arI ([]:List Int)]⟩=some q∧Dx x a b d p p2 p3 m off oN oL num q:=by
 have n3:=h.n3
 have tl:=h.tl
 have nl:=h.nl
 have ll:=h.ll
 have t0:=h.t0
 have t1:=h.t1
 have nb:=h.nb 2 (by rw[e1];simp)
 have mb:=h.mb 2 (by rw[e1];simp)
 have m2:=h.m2 2 (by rw[e1];simp)
 have rk:nth x.readers 2=d:=by rw[e1];rfl
 have mk:nth x.missed 2=p3:=by rw[e2];rfl
 have ml:x.missed.length=3:=by rw[e2];rfl
 have rn:x.readers.length=3:=by rw[e1];rfl
 have ro:=h.r d (by rw[e1];simp)
 rw[rk,mk]at mb
 rw[mk]at m2
 obtain⟨rs,rl,rl1,rp1,rp2,rm1,rm2,rk1,rk2⟩:=ro
 refine fI (uJ x a b d p p2 p3 m off oN oL num) x.people.length _ ⟨[],Nat.le_refl _,fun i hi=>absurd hi (by omega),rfl⟩ (fun j st hj hp=>LV h e1 e2 m off oN oL num j st hj hp) ?_
 intro st hp
 refine⟨(.exit 1,st),?_,by simp,.inr ⟨?_,st,hp,rfl⟩⟩
 · obtain⟨W,wl,hb,rfl⟩:=hp
   have wl:=Nat.le_trans wl n3
   generalize a7 _ p3 _=q at*
   generalize aL x.people d.pl m x.tags _=g at*
   rcases W with _ | ⟨w,_ | ⟨w2,_ | ⟨w3,_ | ⟨w4,W⟩⟩⟩⟩
   · obtain⟨⟨places,roads⟩,time,people,tags,readers,numbers,looked,missed⟩:=x
     simp only[ae,Tru.cs,au,Rdr.e,arI,List.cons_append,List.nil_append,List.map_cons,List.map_nil,LLe,tL,ml,rn,Nat.reduceAdd,Nat.reduceSub,List.length_cons,List.length_nil]at*
     simp (disch:=omega) only[go_sem,K.aa,↓reduceIte,Nat.reduceAdd,Nat.reduceSub]
   · obtain⟨⟨places,roads⟩,time,people,tags,readers,numbers,looked,missed⟩:=x
     simp only[ae,Tru.cs,au,Rdr.e,arI,List.cons_append,List.nil_append,List.map_cons,List.map_nil,LLe,tL,ml,rn,Nat.reduceAdd,Nat.reduceSub,List.length_cons,List.length_nil]at*
     simp (disch:=omega) only[go_sem,K.aa,↓reduceIte,Nat.reduceAdd,Nat.reduceSub]
   · obtain⟨⟨places,roads⟩,time,people,tags,readers,numbers,looked,missed⟩:=x
     simp only[ae,Tru.cs,au,Rdr.e,arI,List.cons_append,List.nil_append,List.map_cons,List.map_nil,LLe,tL,ml,rn,Nat.reduceAdd,Nat.reduceSub,List.length_cons,List.length_nil]at*
     simp (disch:=omega) only[go_sem,K.aa,↓reduceIte,Nat.reduceAdd,Nat.reduceSub]
   · obtain⟨⟨places,roads⟩,time,people,tags,readers,numbers,looked,missed⟩:=x
     simp only[ae,Tru.cs,au,Rdr.e,arI,List.cons_append,List.nil_append,List.map_cons,List.map_nil,LLe,tL,ml,rn,Nat.reduceAdd,Nat.reduceSub,List.length_cons,List.length_nil]at*
     simp (disch:=omega) only[go_sem,K.aa,↓reduceIte,Nat.reduceAdd,Nat.reduceSub]
   · simp only[List.length_cons]at wl;omega
 · obtain⟨W,wl,hb,rfl⟩:=hp
   rw[List.any_eq_false]
   intro i hi
   rw[hb i (List.mem_range.1 hi)]
   decide
set_option maxHeartbeats 4000000 in
theorem Dy{x:Tru}(h:x.ok){a b d:Rdr}{p p2 p3:List Int}(e1:x.readers=[a,b,d])(e2:x.missed=[p,p2,p3])(m off:Int)(o1: -d.skew≤off)(o2:off≤d.skew)(o3:0≤x.time+off)(o4:x.time+off≤2147483648):
 aT 0 N.ag [.t x.e,I 2,I m,I off] []=some (if nQ x 2 m then .tup [.t x.e,.t (dJ 0 0 0 []),I 43]else .tup [.t (du x 2 m).e,.t (dJ 2 (lg x 2) (x.time+off) (fZ (aL x.people d.pl m x.tags x.people.length))),I 0],[]):=by
 have n3:=h.n3
 have tl:=h.tl
 have nl:=h.nl
 have ll:=h.ll
 have t0:=h.t0
 have t1:=h.t1
 have nb:=h.nb 2 (by rw[e1];simp)
 have mb:=h.mb 2 (by rw[e1];simp)
 have m2:=h.m2 2 (by rw[e1];simp)
 have rk:nth x.readers 2=d:=by rw[e1];rfl
 have mk:nth x.missed 2=p3:=by rw[e2];rfl
 have ml:x.missed.length=3:=by rw[e2];rfl
 have rn:x.readers.length=3:=by rw[e1];rfl
 have ro:=h.r d (by rw[e1];simp)
 rw[rk,mk]at mb
 rw[mk]at m2
 obtain⟨rs,rl,rl1,rp1,rp2,rm1,rm2,rk1,rk2⟩:=ro
 have sz:=h.sz
 have cp:=pI sz e1 e2
 have va:=jy h
 have lpL:=LW h e1 e2 m off
 have scl:∀(y:Tru) (r:T) (v:Int),([D.t y.e,D.t r,I v].all bz)=false:=fun _ _ _=>rfl
 have sl:=eH x.people d.pl m x.tags x.people.length
 have so:=pD 0 (aL x.people d.pl m x.tags x.people.length) (by omega)
 have sol:=eZ (aL x.people d.pl m x.tags x.people.length)
 have i1:=hT 2 0 ((3:Int)-1)
 have i2:=hT off (0-d.skew) d.skew
 have i3:=hT (x.time+off) 0 2147483648
 rw[decide_eq_true (by omega)]at i1 i2 i3
 unfold nQ du lg
 rw[rk,mk]
 have en:(x.numbers.map (T.int .i64))[2]?=some (tI (nth x.numbers 2)):=aD _ (by omega)
 have el:(x.looked.map (T.int .i64))[2]?=some (tI (nth x.looked 2)):=aD _ (by omega)
 generalize nth x.numbers 2=nu at*
 generalize nth x.looked 2=lo at*
 refine aB K.fk rfl ?_
 have qe:∀(b:Prop) [Decidable b],(nu+if b then 2 else 1)=if b then nu+2 else nu+1:=fun b _=>by split<;>rfl
 have wl:=cD (bI x.people d.pl m p3) p3 x.people.length
 by_cases bq:(List.range x.people.length).any (cV x.people d.pl d.miss m p3)=true
 · rw[if_pos bq]
   obtain⟨⟨places,roads⟩,time,people,tags,readers,numbers,looked,missed⟩:=x
   subst e1 e2
   simp only[ae,Tru.e,Tru.cs,au,arI,kZ,tLL,Rdr.e,List.map_cons,List.map_nil,LLe,tL]at*
   by_cases ca:0≤lo
   · by_cases cb:d.per<time-lo
     · simp (disch:=omega) only[go_sem,K.ag,↓reduceIte,cp,va,i1,i2,i3,en,el,ca,cb,gt_iff_lt,ai,List.length_set,Nat.reduceAdd,Nat.reduceSub]
       refine b7 _ (lpL _ _ _ _ _ _ _ _ _ _ _ _ _) ?_
       rintro q (⟨_,v0,v3,_,_,_,vr,rest,rfl⟩ | ⟨n,_⟩)
       · simp (disch:=omega) only[go_sem,K.ag,↓reduceIte,scl,Nat.reduceAdd,Nat.reduceSub]
         rfl
       · rw[n]at bq;cases bq
     · simp (disch:=omega) only[go_sem,K.ag,↓reduceIte,cp,va,i1,i2,i3,en,el,ca,cb,gt_iff_lt,ai,List.length_set,Nat.reduceAdd,Nat.reduceSub]
       refine b7 _ (lpL _ _ _ _ _ _ _ _ _ _ _ _ _) ?_
       rintro q (⟨_,v0,v3,_,_,_,vr,rest,rfl⟩ | ⟨n,_⟩)
       · simp (disch:=omega) only[go_sem,K.ag,↓reduceIte,scl,Nat.reduceAdd,Nat.reduceSub]
         rfl
       · rw[n]at bq;cases bq
   · simp (disch:=omega) only[go_sem,K.ag,↓reduceIte,cp,va,i1,i2,i3,en,el,ca,gt_iff_lt,ai,List.length_set,Nat.reduceAdd,Nat.reduceSub]
     refine b7 _ (lpL _ _ _ _ _ _ _ _ _ _ _ _ _) ?_
     rintro q (⟨_,v0,v3,_,_,_,vr,rest,rfl⟩ | ⟨n,_⟩)
     · simp (disch:=omega) only[go_sem,K.ag,↓reduceIte,scl,Nat.reduceAdd,Nat.reduceSub]
       rfl
     · rw[n]at bq;cases bq
 · rw[if_neg bq]
   have qa:(x.numbers.set 2 ((nu+if 0≤lo∧d.per<x.time-lo then 2 else 1).tmod 65536)).length=x.numbers.length:=List.length_set ..
   generalize hg:aL x.people d.pl m x.tags x.people.length=g at*
   obtain⟨q,hq,hQ⟩:=lpL (arI (x.numbers.set 2 ((nu+if 0≤lo∧d.per<x.time-lo then 2 else 1).tmod 65536))) (arI (x.looked.set 2 x.time)) ((nu+if 0≤lo∧d.per<x.time-lo then 2 else 1).tmod 65536) (.t x.e) (I off) (I 0) (if 0≤lo∧d.per<x.time-lo then I 2 else I 1) (I ((nu+if 0≤lo∧d.per<x.time-lo then 2 else 1).tmod 65536)) .und .und .und .und .und
   rcases hQ with⟨n,_⟩ | ⟨_,st,⟨W,wl2,hb,rfl⟩,rfl⟩
   · exact absurd n bq
   rw[hg]at hq
   generalize a7 _ p3 _=w at*
   rcases W with _ | ⟨w1,_ | ⟨w2,_ | ⟨w3,_ | ⟨w4,W⟩⟩⟩⟩
   · obtain⟨⟨places,roads⟩,time,people,tags,readers,numbers,looked,missed⟩:=x
     subst e1 e2
     simp only[ae,Tru.e,Tru.cs,dJ,au,arI,kZ,tLL,Rdr.e,List.cons_append,List.nil_append,List.map_cons,List.map_nil,LLe,tL,Nat.reduceAdd,Nat.reduceSub,List.length_cons,List.length_nil]at*
     by_cases ca:0≤lo
     · by_cases cb:d.per<time-lo
       · simp only[if_pos (And.intro ca cb)]at hq ⊢
         simp (disch:=omega) only[go_sem,K.ag,↓reduceIte,cp,va,i1,i2,i3,en,el,ca,cb,gt_iff_lt,ai,hq,so,sol,wl,scl,List.length_set,Nat.reduceAdd,Nat.reduceSub]
       · simp only[if_neg (fun e:0≤lo∧d.per<time-lo=>cb e.2)]at hq ⊢
         simp (disch:=omega) only[go_sem,K.ag,↓reduceIte,cp,va,i1,i2,i3,en,el,ca,cb,gt_iff_lt,ai,hq,so,sol,wl,scl,List.length_set,Nat.reduceAdd,Nat.reduceSub]
     · simp only[if_neg (fun e:0≤lo∧d.per<time-lo=>ca e.1)]at hq ⊢
       simp (disch:=omega) only[go_sem,K.ag,↓reduceIte,cp,va,i1,i2,i3,en,el,ca,gt_iff_lt,ai,hq,so,sol,wl,scl,List.length_set,Nat.reduceAdd,Nat.reduceSub]
   · obtain⟨⟨places,roads⟩,time,people,tags,readers,numbers,looked,missed⟩:=x
     subst e1 e2
     simp only[ae,Tru.e,Tru.cs,dJ,au,arI,kZ,tLL,Rdr.e,List.cons_append,List.nil_append,List.map_cons,List.map_nil,LLe,tL,Nat.reduceAdd,Nat.reduceSub,List.length_cons,List.length_nil]at*
     by_cases ca:0≤lo
     · by_cases cb:d.per<time-lo
       · simp only[if_pos (And.intro ca cb)]at hq ⊢
         simp (disch:=omega) only[go_sem,K.ag,↓reduceIte,cp,va,i1,i2,i3,en,el,ca,cb,gt_iff_lt,ai,hq,so,sol,wl,scl,List.length_set,Nat.reduceAdd,Nat.reduceSub]
       · simp only[if_neg (fun e:0≤lo∧d.per<time-lo=>cb e.2)]at hq ⊢
         simp (disch:=omega) only[go_sem,K.ag,↓reduceIte,cp,va,i1,i2,i3,en,el,ca,cb,gt_iff_lt,ai,hq,so,sol,wl,scl,List.length_set,Nat.reduceAdd,Nat.reduceSub]
     · simp only[if_neg (fun e:0≤lo∧d.per<time-lo=>ca e.1)]at hq ⊢
       simp (disch:=omega) only[go_sem,K.ag,↓reduceIte,cp,va,i1,i2,i3,en,el,ca,gt_iff_lt,ai,hq,so,sol,wl,scl,List.length_set,Nat.reduceAdd,Nat.reduceSub]
   · obtain⟨⟨places,roads⟩,time,people,tags,readers,numbers,looked,missed⟩:=x
     subst e1 e2
     simp only[ae,Tru.e,Tru.cs,dJ,au,arI,kZ,tLL,Rdr.e,List.cons_append,List.nil_append,List.map_cons,List.map_nil,LLe,tL,Nat.reduceAdd,Nat.reduceSub,List.length_cons,List.length_nil]at*
     by_cases ca:0≤lo
     · by_cases cb:d.per<time-lo
       · simp only[if_pos (And.intro ca cb)]at hq ⊢
         simp (disch:=omega) only[go_sem,K.ag,↓reduceIte,cp,va,i1,i2,i3,en,el,ca,cb,gt_iff_lt,ai,hq,so,sol,wl,scl,List.length_set,Nat.reduceAdd,Nat.reduceSub]
       · simp only[if_neg (fun e:0≤lo∧d.per<time-lo=>cb e.2)]at hq ⊢
         simp (disch:=omega) only[go_sem,K.ag,↓reduceIte,cp,va,i1,i2,i3,en,el,ca,cb,gt_iff_lt,ai,hq,so,sol,wl,scl,List.length_set,Nat.reduceAdd,Nat.reduceSub]
     · simp only[if_neg (fun e:0≤lo∧d.per<time-lo=>ca e.1)]at hq ⊢
       simp (disch:=omega) only[go_sem,K.ag,↓reduceIte,cp,va,i1,i2,i3,en,el,ca,gt_iff_lt,ai,hq,so,sol,wl,scl,List.length_set,Nat.reduceAdd,Nat.reduceSub]
   · obtain⟨⟨places,roads⟩,time,people,tags,readers,numbers,looked,missed⟩:=x
     subst e1 e2
     simp only[ae,Tru.e,Tru.cs,dJ,au,arI,kZ,tLL,Rdr.e,List.cons_append,List.nil_append,List.map_cons,List.map_nil,LLe,tL,Nat.reduceAdd,Nat.reduceSub,List.length_cons,List.length_nil]at*
     by_cases ca:0≤lo
     · by_cases cb:d.per<time-lo
       · simp only[if_pos (And.intro ca cb)]at hq ⊢
         simp (disch:=omega) only[go_sem,K.ag,↓reduceIte,cp,va,i1,i2,i3,en,el,ca,cb,gt_iff_lt,ai,hq,so,sol,wl,scl,List.length_set,Nat.reduceAdd,Nat.reduceSub]
       · simp only[if_neg (fun e:0≤lo∧d.per<time-lo=>cb e.2)]at hq ⊢
         simp (disch:=omega) only[go_sem,K.ag,↓reduceIte,cp,va,i1,i2,i3,en,el,ca,cb,gt_iff_lt,ai,hq,so,sol,wl,scl,List.length_set,Nat.reduceAdd,Nat.reduceSub]
     · simp only[if_neg (fun e:0≤lo∧d.per<time-lo=>ca e.1)]at hq ⊢
       simp (disch:=omega) only[go_sem,K.ag,↓reduceIte,cp,va,i1,i2,i3,en,el,ca,gt_iff_lt,ai,hq,so,sol,wl,scl,List.length_set,Nat.reduceAdd,Nat.reduceSub]
   · simp only[List.length_cons]at wl2;omega
theorem FY(m:cJ)(k:Nat)(hk:k<m.roads.length)(hl:m.roads.length≤1000000)(p:Int)(hp:(nth m.roads k).frm=p∨(nth m.roads k).to=p):aT 0 N.fe [.t m.e,I k,I p] []=some (I (tQ m k p),[]):=by
 refine aB K.lZ rfl ?_
 have e:Int.toNat (k:Int)=k:=rfl
 unfold tQ
 rw[e]
 have ex:(m.roads.map Road.e)[k]?=some (nth m.roads k).e:=aD _ hk
 generalize nth m.roads k=q at*
 obtain⟨places,roads⟩:=m
 obtain⟨q1,q2,q3,q4,q5,q6,q7,q8,q9,q10⟩:=q
 simp only at*
 by_cases d:p=q1
 · simp (disch:=omega) only[go_sem,K.fe,↓reduceIte,ex,d,Nat.reduceAdd,Nat.reduceSub]
 · have d2:p=q2:=by
    rcases hp with h | h
    · exact absurd h.symm d
    · exact h.symm
   simp (disch:=omega) only[go_sem,K.fe,↓reduceIte,ex,d,d2,Nat.reduceAdd,Nat.reduceSub]
abbrev ttH(x:Tru)(s:Int)(l:List Wlk)(z:List D):aj:=[.box (x.cs.map .t),.box z,.arr 3 false 0 ((l.map Wlk.e).map .t),.arr 4 false 0 ((x.readers.map Rdr.e).map .t),.arr 1 false 0 ((x.missed.map LLe).map .t),.box [.t (.sl (x.gz.places.map Place.e)),.t (.sl (x.gz.roads.map Road.e)),I (x.time+s),.ref 2 0 l.length,.t (tL x.tags),.ref 3 0 x.readers.length,.t (tL x.numbers),.t (tL x.looked),.ref 4 0 x.missed.length]]
theorem FZ{x:Tru}(h:x.ok)(s:Int):aT 0 N.dy [.t x.e,I s] []=some (.tup [.t (pG x s).1.e,I (pG x s).2],[]):=by
 refine aB K.lV rfl ?_
 have sz:=h.sz
 have cp:=yj x sz
 have va:=jy h
 have n3:=h.n3
 have t0:=h.t0
 have t1:=h.t1
 have nr:=h.m.nr
 have i1:=hT s 0 3600
 unfold pG
 by_cases d1:s<0∨3600<s
 · rw[if_pos d1]
   rw[decide_eq_false (by omega)]at i1
   have sc:∀j:Int,([D.t x.e,I j].all bz)=false:=fun _=>rfl
   obtain⟨⟨places,roads⟩,time,people,tags,readers,numbers,looked,missed⟩:=x
   simp only[Tru.e,Tru.cs,C4,wF,wG,List.map_cons,List.map_nil,LLe,tL]at*
   simp (disch:=omega) only[go_sem,K.dy,↓reduceIte,cp,va,sc,i1,Nat.reduceAdd,Nat.reduceSub]
 · rw[if_neg d1]
   rw[decide_eq_true (by omega)]at i1
   have s0:0≤s:=by omega
   have s1:s≤3600:=by omega
   by_cases d4:2147483648<x.time+s
   · rw[if_pos d4]
     have sc:∀j:Int,([D.t x.e,I j].all bz)=false:=fun _=>rfl
     obtain⟨⟨places,roads⟩,time,people,tags,readers,numbers,looked,missed⟩:=x
     simp only[Tru.e,Tru.cs,C4,wF,wG,List.map_cons,List.map_nil,LLe,tL]at*
     simp (disch:=omega) only[go_sem,K.dy,↓reduceIte,cp,va,sc,i1,d4,gt_iff_lt,Nat.reduceAdd,Nat.reduceSub]
   · rw[if_neg d4]
     have sc:([D.t (Tru.e { x with time:=x.time+s,people:=x.people.map (jA x.gz s)}),I 0].all bz)=false:=rfl
     have lp1:∀z0 z4 z6 z7:D,exS aT K.oO ⟨[z0,I s,.bp 0 0,.bp 1 0,z4,.bp 5 0,z6,z7,.ref 2 0 x.people.length,I x.people.length,I 0],ttH x s x.people ae⟩=
      some (.exit 1,⟨[.und,I s,.bp 0 0,.bp 1 0,.und,.bp 5 0,.und,.und,.ref 2 0 x.people.length,I x.people.length,I x.people.length],ttH x s (x.people.map (jA x.gz s)) ae⟩):=by
      intro z0 z4 z6 z7
      refine bV (fun j=>⟨[.und,I s,.bp 0 0,.bp 1 0,.und,.bp 5 0,.und,.und,.ref 2 0 x.people.length,I x.people.length,I j],ttH x s (xg (jA x.gz s) x.people j) ae⟩) x.people.length rfl ?_ ?_ (by simp)
      · intro j hj
        have wo:=h.w _ (bg hj)
        have rd:=wo.kT
        rw[wI _ _ _ hj]
        have ln:=zy (jA x.gz s) x.people j
        have gt:=zz (jA x.gz s) x.people j
        have lj:j<(xg (jA x.gz s) x.people j).length:=by omega
        rw[← gt]at rd ⊢
        generalize xg (jA x.gz s) x.people j=q at*
        have ex:((q.map Wlk.e).map D.t)[j]?=some (.t (nth q j).e):=by rw[List.getElem?_map,aD _ lj];rfl
        have g1:=fun w=>C5 q j lj w
        by_cases c1:(nth q j).kT= -1
        · have e0:q.set j (jA x.gz s (nth q j))=q:=by
           unfold jA
           rw[if_pos c1,dR (List.getElem?_eq_getElem lj),List.set_getElem_self]
          rw[e0]
          obtain⟨⟨places,roads⟩,time,people,tags,readers,numbers,looked,missed⟩:=x
          simp only[ttH,ae,Tru.cs,List.map_cons,List.map_nil,LLe,tL]at*
          simp (disch:=omega) only[go_sem,K.gH,↓reduceIte,c1,ln,ex,Nat.reduceAdd,Nat.reduceSub]
        · obtain⟨r0,r1,r2,r3,r4⟩:=rd c1
          obtain⟨k,hk⟩:=Int.eq_ofNat_of_zero_le r0
          have oo:=FY x.gz k (by rw[hk]at r1;omega) (by omega) (nth q j).place (by rw[hk]at r2;exact r2)
          unfold jA
          rw[if_neg c1]
          rw[← hk]at oo
          generalize tQ x.gz (nth q j).kT (nth q j).place=ot at*
          obtain⟨⟨places,roads⟩,time,people,tags,readers,numbers,looked,missed⟩:=x
          generalize nth q j=y at*
          obtain⟨y1,y2,y3⟩:=y
          simp only[ttH,ae,Tru.cs,List.map_cons,List.map_nil,LLe,tL]at*
          by_cases c2:y3-s≤0
          · simp (disch:=omega) only[go_sem,K.gH,↓reduceIte,c1,c2,oo,ex,yk,g1,List.set_set,List.length_set,ln,Nat.reduceAdd,Nat.reduceSub]
          · simp (disch:=omega) only[go_sem,K.gH,↓reduceIte,c1,c2,ex,yk,g1,List.set_set,List.length_set,ln,Nat.reduceAdd,Nat.reduceSub]
      · rw[zx]
        obtain⟨⟨places,roads⟩,time,people,tags,readers,numbers,looked,missed⟩:=x
        simp only[ttH,ae,Tru.cs,List.map_cons,List.map_nil,LLe,tL]at*
        simp (disch:=omega) only[go_sem,K.gH,↓reduceIte,List.length_map,Nat.reduceAdd,Nat.reduceSub]
     obtain⟨⟨places,roads⟩,time,people,tags,readers,numbers,looked,missed⟩:=x
     simp only[ttH,ae,Tru.e,Tru.cs,C4,wF,wG,List.map_cons,List.map_nil,LLe,tL]at*
     simp (disch:=omega) only[go_sem,K.dy,↓reduceIte,cp,va,sc,i1,d4,lp1,gt_iff_lt,List.length_map,Nat.reduceAdd,Nat.reduceSub]
theorem F3{α:Type}{l:List α}{i:Nat}{a b:α}(h:b∈l.set i a):b∈l∨b=a:=by
 induction l generalizing i with
 | nil=>simp at h
 | cons c l ih=>
   cases i with
   | zero=>simp only[List.set_cons_zero,List.mem_cons]at h;rcases h with h | h<;>simp[h]
   | succ i=>
     simp only[List.set_cons_succ,List.mem_cons]at h
     rcases h with h | h
     · simp[h]
     · rcases ih h with h | h
       · exact .inl (List.mem_cons_of_mem _ h)
       · exact .inr h
theorem Tru.ok.ppl{x:Tru}(h:x.ok)(l:List Wlk)(hl:l.length=x.people.length)(hw:∀w∈l,w.ok x.gz)(t:Int)(h0:x.time≤t)(h1:t≤2147483648):Tru.ok { x with people:=l,time:=t}:=by
 obtain⟨a,b,c,d,e,f,g,i,j,k,m,n,o,p,q,r,s⟩:=h
 refine⟨a,b,c,d,by rw[hl];exact e,by rw[hl];exact f,hw,by rw[hl];exact i,j,Int.le_trans k h0,h1,n,o,p,fun v hv=>?_,fun v hv=>by rw[hl];exact r v hv,fun v hv u hu=>s v hv u (by rw[← hl];exact hu)⟩
 have:=q v hv
 have h0':x.time≤({ x with people:=l,time:=t}:Tru).time:=h0
 refine⟨this.1,⟨this.2.1.1,Int.le_trans this.2.1.2 h0'⟩,this.2.2⟩
theorem Tru.ok.Yr{x:Tru}(h:x.ok)(i:Nat)(w:Wlk)(hw:w.ok x.gz):(jz x i w).ok:=by
 have:=h.ppl (x.people.set i w) (List.length_set ..) (fun v hv=>by
  rcases F3 hv with h2 | h2
  · exact h.w v h2
  · rw[h2];exact hw) x.time (Int.le_refl _) h.t1
 exact this
theorem wJ{m:cJ}(h:m.ok)(k:Nat)(hk:k<m.roads.length)(back:Bool):iM m k back 6 9 12= -1∨1≤iM m k back 6 9 12:=by
 have l0:=(h.rs _ (bg hk)).l0
 unfold iM
 simp only
 split
 · exact .inl rfl
 · right
   generalize hs:(if -10*_>(nth m.roads k).len then(9:Int)else _)=s
   have h1:1≤s∧s≤12:=by
    rw[← hs]
    split
    · omega
    · split<;>omega
   rw[Int.tdiv_eq_ediv_of_nonneg (by omega)]
   exact(Int.le_ediv_iff_mul_le (by omega)).2 (by omega)
theorem ym{m:cJ}(h:m.ok)(r p:Int)(h0:0≤gy m r p):0≤r∧1≤gy m r p:=by
 unfold gy at h0 ⊢
 by_cases c:0≤r∧r<m.roads.length
 · rw[if_pos c]at h0 ⊢
   refine⟨c.1,?_⟩
   have a:=wJ h r.toNat (by omega) false
   have b:=wJ h r.toNat (by omega) true
   split at h0
   · rw[if_pos (by assumption)];omega
   · split at h0
     · rw[if_neg (by assumption),if_pos (by assumption)];omega
     · omega
 · rw[if_neg c]at h0;omega
theorem Dz{x:Tru}(h:x.ok)(i r s:Int):(qk x i r s).1.ok:=by
 unfold qk
 split
 · split
   · split
     · exact h
     · split
       · exact h
       · next c d e f=>
         have wo:=h.w _ (bg (show i.toNat<x.people.length by omega))
         have lv:=tP h.m r (nth x.people i.toNat).place
         have l1:=ym h.m r (nth x.people i.toNat).place (by omega)
         refine h.Yr _ _ ⟨wo.1,.inr ⟨l1.1,by simpa using e,?_,?_⟩⟩
         · simp only;omega
         · simp only;omega
   · exact h
 · exact h
theorem F4{x:Tru}(h:x.ok)(i:Int):(wH x i).1.ok:=by
 unfold wH
 split
 · split
   · exact h
   · exact h.Yr _ _ ⟨(h.w _ (bg (show i.toNat<x.people.length by omega))).1,.inl ⟨rfl,rfl⟩⟩
 · exact h
theorem F5{m:cJ}(hm:m.ok){w:Wlk}(h:w.ok m)(s:Int)(h0:0≤s):(jA m s w).ok m:=by
 unfold jA
 split
 · exact h
 · next c=>
   obtain⟨r0,r1,r2,r3,r4⟩:=h.kT c
   split
   · refine⟨?_,.inl ⟨rfl,rfl⟩⟩
     have ro:=hm.rs _ (bg (show w.kT.toNat<m.roads.length by omega))
     have:=ro.f0;have:=ro.f1;have:=ro.t0;have:=ro.t1
     unfold tQ
     split<;>simp only<;>omega
   · refine⟨h.1,.inr ?_⟩
     rcases h.2 with h2 | h2
     · exact absurd h2.1 c
     · exact⟨h2.1,h2.2.1,by simp only;omega,by simp only;omega⟩
theorem zB{x:Tru}(h:x.ok)(s:Int):(pG x s).1.ok:=by
 unfold pG
 split
 · exact h
 · split
   · exact h
   · refine h.ppl _ (List.length_map ..) (fun w hw=>?_) _ (by omega) (by omega)
     obtain⟨v,hv,rfl⟩:=List.mem_map.1 hw
     exact F5 h.m (h.w v hv) s (by omega)
theorem yn{x:Tru}(h:x.ok){k:Nat}(hk:k<x.readers.length):0≤lg x k∧lg x k≤65535:=by
 have:=(h.nb k hk).1
 unfold lg
 have e:∀y:Int,0≤y→0≤y.tmod 65536∧y.tmod 65536≤65535:=fun y hy=>by
  rw[Int.tmod_eq_emod_of_nonneg hy];omega
 split<;>exact e _ (by omega)
theorem uK{x:Tru}(h:x.ok){k:Nat}(hk:k<x.readers.length)(m:Int)(hb:nQ x k m=false):(du x k m).ok:=by
 have nt:=yn h hk
 have row:=fun i hi=>C7 (bI x.people (nth x.readers k).pl m (nth x.missed k)) (nth x.missed k) x.people.length i hi (by rw[h.m2 k hk];exact hi)
 have rl:=cD (bI x.people (nth x.readers k).pl m (nth x.missed k)) (nth x.missed k) x.people.length
 unfold du
 generalize lg x k=nu at*
 have mbk:=h.mb k hk
 have bd:∀i,i<x.people.length→0≤nth (a7 (bI x.people (nth x.readers k).pl m (nth x.missed k)) (nth x.missed k) x.people.length) i∧nth (a7 (bI x.people (nth x.readers k).pl m (nth x.missed k)) (nth x.missed k) x.people.length) i≤(nth x.readers k).miss:=fun i hi=>by
  rw[row i hi]
  have mi:=mbk i hi
  unfold nQ at hb
  rw[List.any_eq_false]at hb
  have hbi:=hb i (List.mem_range.2 hi)
  have rm:=(h.r _ (bg hk)).m1
  unfold bI
  unfold cV at hbi
  by_cases c:(bO x.people (nth x.readers k).pl i&&eP m i)=true
  · rw[c]at hbi
    rw[if_pos c]
    simp at hbi
    omega
  · rw[if_neg c];omega
 generalize a7 _ _ _=w at*
 obtain⟨a,b,c,d,e,f,g,i,j,k1,k2,n,o,p,q,r,s⟩:=h
 refine⟨a,b,c,d,e,f,g,i,j,k1,k2,by rw[List.length_set];exact n,by rw[List.length_set];exact o,by rw[List.length_set];exact p,fun v hv=>?_,fun v hv=>?_,fun v hv u hu=>?_⟩
 · by_cases c1:v=k
   · subst c1
     rw[aK (by omega),aK (by omega)]
     simp only
     omega
   · rw[gY (fun e=>c1 e.symm),gY (fun e=>c1 e.symm)]
     exact q v hv
 · by_cases c1:v=k
   · subst c1
     rw[aK (by omega),rl]
     exact r v hv
   · rw[gY (fun e=>c1 e.symm)]
     exact r v hv
 · by_cases c1:v=k
   · subst c1
     rw[aK (by omega)]
     exact bd u hu
   · rw[gY (fun e=>c1 e.symm)]
     exact s v hv u hu
abbrev F6:Tru:=⟨⟨[],[]⟩,0,[],[],[],[],[],[]⟩
abbrev stW(p:Int):Wlk:=⟨p, -1,0⟩
def oX(m:cJ)(l:List Rdr)(at' tags:List Int)(t:Int):Tru:=
 ⟨m,t,at'.map stW,tags,l,List.replicate l.length (-1),List.replicate l.length (-1),List.replicate l.length (List.replicate at'.length 0)⟩
def wK(m:cJ)(l:List Rdr)(at' tags:List Int)(t:Int):Tru×Int:=
 if sU m l=false∨¬(1≤(at'.length:Int)∧(at'.length:Int)≤12)∨tags.length≠at'.length then(F6,6)
 else if(at'.any fun p=> !decide (0≤p∧p≤(m.places.length:Int)-1))=true then(F6,3)
 else if ft tags=false then(F6,41)
 else if ¬(0≤t∧t≤2147483648)then(F6,8)
 else(oX m l at' tags t,0)
abbrev nsH(m:cJ)(l:List Rdr)(at' tags:List Int)(t:Int)(ps:List Wlk)(a b:List Int)(c:List (List Int)):aj:=[.box (aE m),.box ae,.box [.t (.sl (m.places.map Place.e)),.t (.sl (m.roads.map Road.e)),I t,.ref 7 0 ps.length,.t (tL tags),.t (.sl (l.map Rdr.e)),.ref 8 0 a.length,.ref 9 0 b.length,.ref 10 0 c.length],.arr 3 false 0 [],.arr 1 false 0 [],.arr 1 false 0 [],.arr 1 false 0 [],.arr 3 false 0 ((ps.map Wlk.e).map .t),.arr 1 false 0 ((a.map (T.int .i64)).map .t),.arr 1 false 0 ((b.map (T.int .i64)).map .t),.arr 1 false 0 ((c.map LLe).map .t)]
theorem wL{α:Type}(n:Nat)(a:α):List.replicate (n+1) a=List.replicate n a++[a]:=List.replicate_succ'
theorem DA(n:Nat):(List.replicate n (0:Int)).map (T.int .i64)=List.replicate n (T.int .i64 0):=List.map_replicate
theorem DB{m:cJ}(hm:m.ok)(l:List Rdr)(at' tags:List Int)(t:Int)(hl:l.length≤1000000)(h2:∀y∈l,y.pl.length≤1000000)(ha:at'.length≤1000000)(ht:tags.length≤1000000):(oX m l at' tags t).sz:=by
 have np:=hm.np
 have nr:=hm.nr
 unfold oX
 refine⟨by simp only;omega,by simp only;omega,by simp only[List.length_map];omega,ht,hl,h2,by simp only[List.length_replicate];omega,by simp only[List.length_replicate];omega,by simp only[List.length_replicate];omega,fun y hy=>?_⟩
 simp only[List.mem_replicate]at hy
 rw[hy.2,List.length_replicate]
 omega
theorem yo{m:cJ}(hm:m.ok)(l:List Rdr)(at' tags:List Int)(t:Int)(hl:l.length≤1000000)(h2:∀y∈l,y.pl.length≤1000000)(ha:at'.length≤1000000)(ht:tags.length≤1000000):
 aT 0 N.b5 [.t m.e,.t (.sl (l.map Rdr.e)),.t (tL at'),.t (tL tags),I t] []=some (.tup [.t (wK m l at' tags t).1.e,I (wK m l at' tags t).2],[]):=by
 refine aB K.kK rfl ?_
 have va:=sq hm l hl h2
 have tg:=sr tags ht
 have np:=hm.np
 have cp:=fB _ (DB hm l at' tags t hl h2 ha ht)
 have tk:at'.take at'.length=at':=List.take_length
 have lp:=fun z0 z7 z10 z11 z12:D=>oF (gc:=true) (dead:=[0,7,10,11,12]) (c:=K.ff) (vs:=[z0,.t (.sl (l.map Rdr.e)),.t (tL at'),.t (tL tags),I t,.bp 0 0,.bp 1 0,z7,I at'.length,I 0,z10,z11,z12]) (H:=[.box (aE m),.box ae])
  (fun j=>⟨[.und,.t (.sl (l.map Rdr.e)),.t (tL at'),.t (tL tags),I t,.bp 0 0,.bp 1 0,.und,I at'.length,I j,.und,.und,.und],[.box (aE m),.box ae]⟩) at'.length (fun j=> !decide (0≤nth at' j∧nth at' j≤(m.places.length:Int)-1))
  (fun j=>(.ret,⟨[.und,.t (.sl (l.map Rdr.e)),.t (tL at'),.t (tL tags),I t,.bp 0 0,.bp 1 0,I 3,I at'.length,I j,.und,.und,.und],[.box (aE m),.box ae]⟩))
  (.exit 0,⟨[.und,.t (.sl (l.map Rdr.e)),.t (tL at'),.t (tL tags),I t,.bp 0 0,.bp 1 0,.und,I at'.length,I at'.length,.und,.und,.und],[.box (aE m),.box ae]⟩) rfl
  (fun j hj hq=>by
   have ex:(at'.map (T.int .i64))[j]?=some (.int .i64 (nth at' j)):=aD _ hj
   have hq:0≤nth at' j∧nth at' j≤(m.places.length:Int)-1:=by simpa using hq
   generalize nth at' j=y at*
   obtain⟨places,roads⟩:=m
   simp only[aE]at*
   simp (disch:=omega) only[go_sem,K.ff,↓reduceIte,ex,Nat.reduceAdd,Nat.reduceSub]
   )
  (fun j hj hq=>by
   have ex:(at'.map (T.int .i64))[j]?=some (.int .i64 (nth at' j)):=aD _ hj
   have hq:¬(0≤nth at' j∧nth at' j≤(m.places.length:Int)-1):=by
    intro c
    rw[decide_eq_true c]at hq
    cases hq
   refine⟨?_,by simp⟩
   generalize nth at' j=y at*
   obtain⟨places,roads⟩:=m
   simp only[aE,ae]at*
   by_cases c:y<0
   · simp (disch:=omega) only[go_sem,K.ff,↓reduceIte,ex,c,Nat.reduceAdd,Nat.reduceSub]
   · simp (disch:=omega) only[go_sem,K.ff,↓reduceIte,ex,c,Nat.reduceAdd,Nat.reduceSub]
   )
  (by
   obtain⟨places,roads⟩:=m
   simp only[aE]
   simp (disch:=omega) only[go_sem,K.ff,↓reduceIte,Nat.reduceAdd,Nat.reduceSub]
   ) (by simp)
 have lp0:∀z0 z7 z10 z11 z12:D,exS aT K.mT _=_:=lp
 clear lp
 rw[Cf at' (fun p=> !decide (0≤p∧p≤(m.places.length:Int)-1))]at lp0
 have lp1:∀z0 z3 z4 z5 z7 z9 z12:D,exS aT K.mU ⟨[z0,.t (.sl (l.map Rdr.e)),.t (tL at'),z3,z4,z5,.bp 1 0,z7,I at'.length,z9,.bp 2 0,I 0,z12],nsH m l at' tags t [] [] [] []⟩=
  some (.exit 2,⟨[.und,.t (.sl (l.map Rdr.e)),.t (tL at'),.und,.und,.und,.bp 1 0,.und,I at'.length,.und,.bp 2 0,I at'.length,.und],nsH m l at' tags t (at'.map stW) [] [] []⟩):=by
  intro z0 z3 z4 z5 z7 z9 z12
  refine bV (fun j=>⟨[.und,.t (.sl (l.map Rdr.e)),.t (tL at'),.und,.und,.und,.bp 1 0,.und,I at'.length,.und,.bp 2 0,I j,.und],nsH m l at' tags t ((at'.take j).map stW) [] [] []⟩) at'.length rfl ?_ ?_ (by simp)
  · intro j hj
    have ex:(at'.map (T.int .i64))[j]?=some (.int .i64 (nth at' j)):=aD _ hj
    have tk:=jJ hj
    have tl:(at'.take j).length=j:=by rw[List.length_take];omega
    rw[tk]
    generalize at'.take j=q at*
    generalize nth at' j=y at*
    obtain⟨places,roads⟩:=m
    simp only[nsH,ae,aE,List.map_append,List.map_cons,List.map_nil,List.length_append,List.length_map,List.length_cons,List.length_nil]at*
    simp only[tl]
    simp (disch:=omega) only[go_sem,K.jr,↓reduceIte,ex,tl,List.map_append,List.map_cons,List.map_nil,Nat.reduceAdd,Nat.reduceSub]
  · rw[tk]
    obtain⟨places,roads⟩:=m
    simp only[nsH,ae,aE,List.map_append,List.map_cons,List.map_nil]at*
    simp (disch:=omega) only[go_sem,K.jr,↓reduceIte,Nat.reduceAdd,Nat.reduceSub]
 have lp2:∀z0 z2 z3 z4 z5 z7 z9 z11:D,exS aT K.mV ⟨[z0,.t (.sl (l.map Rdr.e)),z2,z3,z4,z5,.bp 1 0,z7,I at'.length,z9,.bp 2 0,z11,I 0],nsH m l at' tags t (at'.map stW) [] [] []⟩=
  some (.exit 4,⟨[.und,.t (.sl (l.map Rdr.e)),.und,.und,.und,.und,.bp 1 0,.und,I at'.length,.und,.bp 2 0,.und,I l.length],nsH m l at' tags t (at'.map stW) (List.replicate l.length (-1)) (List.replicate l.length (-1)) (List.replicate l.length (List.replicate at'.length 0))⟩):=by
  intro z0 z2 z3 z4 z5 z7 z9 z11
  refine bV (fun j=>⟨[.und,.t (.sl (l.map Rdr.e)),.und,.und,.und,.und,.bp 1 0,.und,I at'.length,.und,.bp 2 0,.und,I j],nsH m l at' tags t (at'.map stW) (List.replicate j (-1)) (List.replicate j (-1)) (List.replicate j (List.replicate at'.length 0))⟩) l.length rfl ?_ ?_ (by simp)
  · intro j hj
    rw[wL,wL]
    have r1:(List.replicate j (-1:Int)).length=j:=List.length_replicate
    have r2:(List.replicate j (List.replicate at'.length (0:Int))).length=j:=List.length_replicate
    have r3:=DA at'.length
    generalize List.replicate j (-1:Int)=q1 at*
    generalize List.replicate j (List.replicate at'.length (0:Int))=q2 at*
    obtain⟨places,roads⟩:=m
    simp only[nsH,ae,aE,List.map_append,List.map_cons,List.map_nil,List.length_append,List.length_map,List.length_cons,List.length_nil,LLe]at*
    simp only[r1,r2,r3]
    simp (disch:=omega) only[go_sem,K.jt,↓reduceIte,r1,r2,List.map_append,List.map_cons,List.map_nil,Nat.reduceAdd,Nat.reduceSub]
  · obtain⟨places,roads⟩:=m
    simp only[nsH,ae,aE,List.map_append,List.map_cons,List.map_nil]at*
    simp (disch:=omega) only[go_sem,K.jt,↓reduceIte,Nat.reduceAdd,Nat.reduceSub]
 unfold wK
 by_cases c1:sU m l=false∨¬(1≤(at'.length:Int)∧(at'.length:Int)≤12)∨tags.length≠at'.length
 · rw[if_pos c1]
   cases hb:sU m l with
   | false=>
     rw[hb]at va
     obtain⟨places,roads⟩:=m
     simp only[aE]at*
     simp (disch:=omega) only[go_sem,K.b5,↓reduceIte,va,Nat.reduceAdd,Nat.reduceSub]
     rfl
   | true=>
     rw[hb]at va
     by_cases c2:(at'.length:Int)<1
     · obtain⟨places,roads⟩:=m
       simp only[aE]at*
       simp (disch:=omega) only[go_sem,K.b5,↓reduceIte,va,c2,Nat.reduceAdd,Nat.reduceSub]
       rfl
     · by_cases c3:(at'.length:Int)>12
       · obtain⟨places,roads⟩:=m
         simp only[aE]at*
         simp (disch:=omega) only[go_sem,K.b5,↓reduceIte,va,c2,c3,Nat.reduceAdd,Nat.reduceSub]
         rfl
       · have c4:¬tags.length=at'.length:=by
          rcases c1 with c | c | c
          · rw[hb]at c;cases c
          · exact absurd ⟨by omega,by omega⟩ c
          · exact c
         obtain⟨places,roads⟩:=m
         simp only[aE]at*
         simp (disch:=omega) only[go_sem,K.b5,↓reduceIte,va,c2,c3,c4,Nat.reduceAdd,Nat.reduceSub]
         rfl
 · rw[if_neg c1]
   simp only[not_or,Bool.not_eq_false,Decidable.not_not,ne_eq]at c1
   obtain⟨c0,c2,c3⟩:=c1
   rw[c0]at va
   cases hc:at'.any fun p=> !decide (0≤p∧p≤(m.places.length:Int)-1)with
   | true=>
     rw[hc]at lp0
     simp only[if_true]at lp0
     rw[if_pos rfl]
     generalize rW at'.length _=j at*
     obtain⟨places,roads⟩:=m
     simp only[aE,ae]at*
     simp (disch:=omega) only[go_sem,K.b5,↓reduceIte,va,c3,lp0,Nat.reduceAdd,Nat.reduceSub]
     rfl
   | false=>
     rw[hc]at lp0
     simp only[Bool.false_eq_true,if_false]at lp0
     rw[if_neg (by simp)]
     cases ht:ft tags with
     | false=>
       rw[ht]at tg
       rw[if_pos rfl]
       obtain⟨places,roads⟩:=m
       simp only[aE,ae]at*
       simp (disch:=omega) only[go_sem,K.b5,↓reduceIte,va,c3,lp0,tg,Nat.reduceAdd,Nat.reduceSub]
       rfl
     | true=>
       rw[ht]at tg
       rw[if_neg (by simp)]
       by_cases c4:0≤t∧t≤2147483648
       · rw[if_neg (by simpa using c4)]
         obtain⟨places,roads⟩:=m
         simp only[aE,oX,nsH,ae,Tru.e,Tru.cs,List.map_nil,List.length_nil,List.length_map]at*
         simp (disch:=omega) only[go_sem,K.b5,↓reduceIte,va,c3,lp0,tg,lp1,lp2,cp,List.length_map,Nat.reduceAdd,Nat.reduceSub]
       · rw[if_pos c4]
         by_cases c5:t<0
         · obtain⟨places,roads⟩:=m
           simp only[aE,ae]at*
           simp (disch:=omega) only[go_sem,K.b5,↓reduceIte,va,c3,lp0,tg,c5,Nat.reduceAdd,Nat.reduceSub]
           rfl
         · obtain⟨places,roads⟩:=m
           simp only[aE,ae]at*
           simp (disch:=omega) only[go_sem,K.b5,↓reduceIte,va,c3,lp0,tg,c5,Nat.reduceAdd,Nat.reduceSub]
           rfl
theorem zC(l:List Int)(i j:Nat):(zA l i j).length=l.length:=by
 unfold zA;rw[List.length_set,List.length_set]
theorem F7(l:List Int)(i j:Nat)(hi:i<l.length)(hj:j<l.length)(k:Nat):nth (zA l i j) k=if k=j then nth l i else if k=i then nth l j else nth l k:=by
 unfold zA
 by_cases c:k=j
 · rw[if_pos c,c,aK (by rw[List.length_set];exact hj)]
 · rw[if_neg c,gY (fun e=>c e.symm)]
   by_cases c2:k=i
   · rw[if_pos c2,c2,aK hi]
   · rw[if_neg c2,gY (fun e=>c2 e.symm)]
theorem DC(l:List Int)(i j:Nat)(hi:i<l.length)(hj:j<l.length)(h:i≠j):(zA l i j).Perm l:=by
 unfold zA
 have e1:nth l i=l[i]:=dR (List.getElem?_eq_getElem hi)
 have e2:nth l j=l[j]:=dR (List.getElem?_eq_getElem hj)
 rw[e1,e2]
 exact List.set_set_perm hi hj
theorem F8{x:Tru}(h:x.ok)(i j:Int):(swapT x i j).1.ok:=by
 unfold swapT
 by_cases c:(0≤i∧i<x.people.length)∧(0≤j∧j<x.people.length)∧i≠j
 · rw[if_pos c]
   split
   · have hi:i.toNat<x.people.length:=by omega
     have hj:j.toNat<x.people.length:=by omega
     have hij:i.toNat≠j.toNat:=by omega
     generalize i.toNat=i at*
     generalize j.toNat=j at*
     have tl:=h.tl
     have pp:=yh (DC x.tags i j (by omega) (by omega) hij) h.tp
     obtain⟨a,b,c,d,e,f,g,i',j',k1,k2,n,o,p,q,r,s⟩:=h
     have nm:∀v,v<x.readers.length→nth (x.missed.map fun l=>zA l i j) v=zA (nth x.missed v) i j:=fun v hv=>by
      exact dR (aD _ (by omega))
     refine⟨a,b,c,d,e,f,g,by rw[zC];exact i',pp,k1,k2,n,o,by rw[List.length_map];exact p,q,fun v hv=>?_,fun v hv u hu=>?_⟩
     · simp only at hv ⊢
       rw[nm v hv,zC]
       exact r v hv
     · simp only at hv hu ⊢
       rw[nm v hv,F7 _ _ _ (by rw[r v hv];exact hi) (by rw[r v hv];exact hj)]
       split
       · exact s v hv i hi
       · split
         · exact s v hv j hj
         · exact s v hv u hu
   · exact h
 · rw[if_neg c];exact h
theorem pJ{x:Tru}(h:x.ok):(x.readers=[]∧x.missed=[])∨(∃a p,x.readers=[a]∧x.missed=[p])∨(∃a b p q,x.readers=[a,b]∧x.missed=[p,q])∨∃a b c p q r,x.readers=[a,b,c]∧x.missed=[p,q,r]:=by
 have rl:=h.rl
 have ml:=h.ml
 obtain⟨gz,time,people,tags,readers,numbers,looked,missed⟩:=x
 simp only at*
 rcases readers with _ | ⟨a,_ | ⟨b,_ | ⟨c,_ | ⟨d,l⟩⟩⟩⟩<;>rcases missed with _ | ⟨p,_ | ⟨q,_ | ⟨r,_ | ⟨s,l'⟩⟩⟩⟩<;>simp only[List.length_cons,List.length_nil]at rl ml<;>first | omega | simp
theorem AH(x:Tru)(i j:Int):(swapT x i j).1.time=x.time:=by
 unfold swapT
 split
 · split<;>rfl
 · rfl
theorem LX{x:Tru}(h:x.ok)(i j:Int):∃(y:Tru) (e:Int),y.ok∧y.time=x.time∧aT 0 N.aU [.t x.e,I i,I j] []=some (.tup [.t y.e,I e],[]):=by
 refine⟨(swapT x i j).1,(swapT x i j).2,F8 h i j,AH x i j,?_⟩
 rcases pJ h with⟨a,b⟩ | ⟨_,_,a,b⟩ | ⟨_,_,_,_,a,b⟩ | ⟨_,_,_,_,_,_,a,b⟩
 · exact Lr h a b i j
 · exact Lt h a b i j
 · exact Lu h a b i j
 · exact Lv h a b i j
theorem LY{x:Tru}(h:x.ok)(k:Nat)(m off:Int)(hb: -1000≤off∧off≤1000):∃(y:Tru) (r:T) (e:Int),y.ok∧y.time=x.time∧aT 0 N.ah [.t x.e,I k,I m,I off] []=some (.tup [.t y.e,.t r,I e],[]):=by
 by_cases hk:k<x.readers.length
 · by_cases ho:(-(nth x.readers k).skew≤off∧off≤(nth x.readers k).skew)∧0≤x.time+off∧x.time+off≤2147483648
   · have key:∃r e,aT 0 N.ah [.t x.e,I k,I m,I off] []=some (.tup [.t (if nQ x k m then x else du x k m).e,.t r,I e],[]):=by
      obtain⟨⟨o1,o2⟩,o3,o4⟩:=ho
      rcases pJ h with⟨a,b⟩ | ⟨y,_,a,b⟩ | ⟨y,z,_,_,a,b⟩ | ⟨y,z,w,_,_,_,a,b⟩
      · rw[a]at hk;simp at hk
      · have:k=0:=by rw[a]at hk;simpa using hk
        subst this
        have e:nth x.readers 0=y:=by rw[a];rfl
        rw[e]at o1 o2
        exact Da h a b m off o1 o2 o3 o4
      · have:k=0∨k=1:=by rw[a]at hk;simp only[List.length_cons,List.length_nil]at hk;omega
        rcases this with rfl | rfl
        · have e:nth x.readers 0=y:=by rw[a];rfl
          rw[e]at o1 o2
          exact Dc h a b m off o1 o2 o3 o4
        · have e:nth x.readers 1=z:=by rw[a];rfl
          rw[e]at o1 o2
          exact De h a b m off o1 o2 o3 o4
      · have:k=0∨k=1∨k=2:=by rw[a]at hk;simp only[List.length_cons,List.length_nil]at hk;omega
        rcases this with rfl | rfl | rfl
        · have e:nth x.readers 0=y:=by rw[a];rfl
          rw[e]at o1 o2
          exact Dg h a b m off o1 o2 o3 o4
        · have e:nth x.readers 1=z:=by rw[a];rfl
          rw[e]at o1 o2
          exact Di h a b m off o1 o2 o3 o4
        · have e:nth x.readers 2=w:=by rw[a];rfl
          rw[e]at o1 o2
          exact Dk h a b m off o1 o2 o3 o4
     obtain⟨r,e,key⟩:=key
     refine⟨_,r,e,?_,?_,key⟩
     · cases hbad:nQ x k m with
       | true=>exact h
       | false=>exact uK h hk m hbad
     · split<;>rfl
   · obtain⟨r,e,q⟩:=C8 h k m off hk ho hb
     exact⟨x,r,e,h,rfl,q⟩
 · obtain⟨r,e,q⟩:=FW h k m off (by omega)
   exact⟨x,r,e,h,rfl,q⟩
theorem DD{m:cJ}(hm:m.ok)(h1:1≤m.places.length){l:List Rdr}(hl:l.length≤3)(h2:∀r∈l,wD m.places.length r){at' tags:List Int}(n1:1≤at'.length)(n3:at'.length≤3)(ha:∀p∈at',0≤p∧p<m.places.length)(tl:tags.length=at'.length)(tp:ft tags=true){t:Int}(t0:0≤t)(t1:t≤2147483648):(oX m l at' tags t).ok:=by
 unfold oX
 refine⟨hm,h1,hl,h2,by simpa using n1,by simpa using n3,fun w hw=>?_,by simpa using tl,tp,t0,t1,by simp,by simp,by simp,fun v hv=>?_,fun v hv=>?_,fun v hv u hu=>?_⟩
 · obtain⟨p,hp,rfl⟩:=List.mem_map.1 hw
   exact⟨ha p hp,.inl ⟨rfl,rfl⟩⟩
 · have e:nth (List.replicate l.length (-1:Int)) v= -1:=dR (by rw[List.getElem?_replicate];simp only at hv;rw[if_pos hv])
   simp only at hv ⊢
   rw[e]
   simp;omega
 · simp only at hv ⊢
   rw[dR (x:=List.replicate at'.length 0) (by rw[List.getElem?_replicate,if_pos hv])]
   simp
 · simp only at hv hu ⊢
   rw[dR (x:=List.replicate at'.length 0) (by rw[List.getElem?_replicate,if_pos hv])]
   rw[dR (x:=0) (by rw[List.getElem?_replicate,if_pos (by simpa using hu)])]
   exact⟨Int.le_refl _,(h2 _ (bg hv)).m1⟩
def tgN(N j:Nat):List Int:=(List.range j).map fun(i:Nat)=>20-3*((N:Int)-(i:Int))
theorem F9(N j:Nat):tgN N (j+1)=tgN N j++[20-3*((N:Int)-j)]:=by
 unfold tgN;rw[List.range_succ,List.map_append];rfl
theorem DE(N j:Nat):(tgN N j).length=j:=by unfold tgN;simp
theorem AI{N:Nat}(h:N≤3):ft (tgN N N)=true:=by
 rcases N with _ | _ | _ | _ | N
 · decide
 · decide
 · decide
 · decide
 · omega
def wkP(m:cJ)(N:Nat)(most:Int)(j:Nat)(st:St):Prop:=∃(e:aR) (at':List Int),e.dk∧at'.length=j∧(∀p∈at',0≤p∧p<m.places.length)∧
 st=⟨[.bp 0 0,I most,.bp 1 0,.bp 2 0,.ref 3 0 at'.length,.ref 4 0 j,I ((N:Int)-j),.und,.und,.und,.und,.und],[e.obj,.box ae,.box (aE m),.arr 1 false 0 ((at'.map (T.int .i64)).map .t),.arr 1 false 0 (((tgN N j).map (T.int .i64)).map .t)]⟩
theorem Xb{d:aR}(hd:d.dk){m:cJ}(hm:m.ok)(h1:1≤m.places.length)(N:Nat)(hN:N≤3)(most:Int):
 ∃q,exS aT K.oS ⟨[.bp 0 0,I most,.bp 1 0,.bp 2 0,.ref 3 0 0,.ref 4 0 0,I N,.und,.und,.und,.und,.und],[d.obj,.box ae,.box (aE m),.arr 1 false 0 [],.arr 1 false 0 []]⟩=some q∧∃st,wkP m N most N st∧q=(.exit 0,st):=by
 have np:=hm.np
 refine G9 (wkP m N most) N _ ?_ ?_ ?_
 · refine⟨d,[],hd,rfl,by simp,?_⟩
   simp only[Int.natCast_zero,Int.sub_zero];rfl
 · rintro j st hj ⟨e,at',l1,al,ap,rfl⟩
   obtain⟨v,e1,nx,l2,v1,v2⟩:=jn l1 m.places.length (by omega) (by omega)
   refine .inl ⟨_,?_,e1,at'++[v],l2,by simp[al],fun p hp=>?_,rfl⟩
   · have g1:((N:Int)-j>0):=by omega
     have g2:(N:Int)-((j+1:Nat):Int)=(N:Int)-j-1:=by omega
     have tl:=DE N j
     simp only[g2,F9,List.length_append,List.length_singleton,List.map_append,List.map_cons,List.map_nil]
     generalize tgN N j=tg at*
     obtain⟨places,roads⟩:=m
     simp only[aE,ae]at*
     have g3:0≤(N:Int)-j∧(N:Int)-j≤3:=by omega
     generalize (N:Int)-j=w at*
     simp (disch:=omega) only[go_sem,K.jW,↓reduceIte,nx,g1,al,tl,Nat.reduceAdd,Nat.reduceSub]
   · rcases List.mem_append.1 hp with h | h
     · exact ap p h
     · rw[List.mem_singleton.1 h];exact⟨v1,v2⟩
 · rintro st ⟨e,at',l1,al,ap,rfl⟩
   refine⟨_,?_,?_,_,⟨e,at',l1,al,ap,rfl⟩,rfl⟩
   · obtain⟨places,roads⟩:=m
     simp only[Int.sub_self,aE,ae]
     simp (disch:=omega) only[go_sem,K.jW,↓reduceIte,Nat.reduceAdd,Nat.reduceSub]
   · simp
abbrev arP(l:List Int):Obj:= .arr 1 true 0 ((l.map (T.int .i64)).map .t)
def Xc(m:cJ)(N:Nat)(la lb:List Int)(k:Nat)(j:Nat)(st:St):Prop:=∃(e:aR) (x:Tru),e.dk∧x.ok∧x.time≤100+100*j∧
 st=⟨[.bp 0 0,.und,.bp 1 0,.bp 2 0,.ref 3 0 N,.und,.und,.bp 5 0,I ((k:Int)-j),.und,.und,.und],[e.obj,.box ae,.box (aE m),arP la,arP lb,.box (x.cs.map .t)]⟩
theorem Xd{d:aR}(hd:d.dk){m:cJ}(hm:m.ok)(h1:1≤m.roads.length)(N:Nat)(n1:1≤N)(n3:N≤3)(la lb:List Int){x:Tru}(hx:x.ok)(ht:x.time≤100)(k:Nat)(kb:k≤1000)(most v5 v6:D):
 ∃q,exS aT K.oT ⟨[.bp 0 0,most,.bp 1 0,.bp 2 0,.ref 3 0 N,v5,v6,.bp 5 0,I k,.und,.und,.und],[d.obj,.box ae,.box (aE m),arP la,arP lb,.box (x.cs.map .t)]⟩=some q∧∃st,Xc m N la lb k k st∧q=(.exit 2,st):=by
 have nr:=hm.nr
 refine G9 (Xc m N la lb k) k _ ?_ ?_ ?_
 · refine⟨d,x,hd,hx,by omega,?_⟩
   simp only[Int.natCast_zero,Int.sub_zero];rfl
 · rintro j st hj ⟨e,x,l1,hx,xt,rfl⟩
   left
   have g1:((k:Int)-j>0):=by omega
   have g2:(k:Int)-((j+1:Nat):Int)=(k:Int)-j-1:=by omega
   have g3:0≤(k:Int)-j∧(k:Int)-j≤1000:=by omega
   obtain⟨v,e1,nx,l2,v1,v2⟩:=jn l1 7 (by omega) (by omega)
   have xt2:x.time≤x.time+100:=by omega
   have fin:∀(e':aR) (y:Tru),e'.dk→y.ok→y.time≤x.time+100→eB true [1,5,6,9,10,11] 6 (exS aT K.cG ⟨[.bp 0 0,.und,.bp 1 0,.bp 2 0,.ref 3 0 N,.und,.und,.bp 5 0,I ((k:Int)-j),.und,.und,.und],[e.obj,.box ae,.box (aE m),arP la,arP lb,.box (x.cs.map .t)]⟩)=some ⟨[.bp 0 0,.und,.bp 1 0,.bp 2 0,.ref 3 0 N,.und,.und,.bp 5 0,I ((k:Int)-j-1),.und,.und,.und],[e'.obj,.box ae,.box (aE m),arP la,arP lb,.box (y.cs.map .t)]⟩→∃st',eB true [1,5,6,9,10,11] 6 (exS aT K.cG ⟨[.bp 0 0,.und,.bp 1 0,.bp 2 0,.ref 3 0 N,.und,.und,.bp 5 0,I ((k:Int)-j),.und,.und,.und],[e.obj,.box ae,.box (aE m),arP la,arP lb,.box (x.cs.map .t)]⟩)=some st'∧Xc m N la lb k (j+1) st':=fun e' y le hy yt h=>⟨_,h,e',y,le,hy,by omega,by rw[g2]⟩
   generalize (k:Int)-j=w at*
   by_cases c01:v=0∨v=1
   · obtain⟨a,e2,n2,l3,a1,a2⟩:=jn l2 N (by omega) (by omega)
     obtain⟨b,e3,n3',l4,b1,b2⟩:=jn l3 m.roads.length (by omega) (by omega)
     obtain⟨c,e4,n4,l5,cm⟩:=Kq l4 [0,0,30] (by simp) (by simp)
     have en:=C6 hx a b c
     have eo:=Dz hx a b c
     have et:(qk x a b c).1.time=x.time:=by
      unfold qk jz
      repeat' split
      all_goals rfl
     refine fin e4 _ l5 eo (by omega) ?_
     generalize qk x a b c=r at*
     obtain⟨y,f⟩:=r
     clear fin
     obtain⟨places,roads⟩:=m
     obtain⟨⟨xp,xr⟩,time,people,tags,readers,numbers,looked,missed⟩:=x
     obtain⟨⟨yp,yr⟩,ytime,ypeople,ytags,yreaders,ynumbers,ylooked,ymissed⟩:=y
     simp only[aE,ae,arP,Tru.e,Tru.cs,List.map_cons,List.map_nil,tL,LLe]at*
     rcases c01 with rfl | rfl
     · simp (disch:=omega) only[go_sem,K.cG,↓reduceIte,g1,nx,n2,n3',n4,en,Nat.reduceAdd,Nat.reduceSub]
     · simp (disch:=omega) only[go_sem,K.cG,↓reduceIte,g1,nx,n2,n3',n4,en,Nat.reduceAdd,Nat.reduceSub]
   · have d0:¬v=0:=fun h=>c01 (.inl h)
     have d1:¬v=1:=fun h=>c01 (.inr h)
     by_cases c2:v=2
     · obtain⟨a,e2,n2,l3,a1,a2⟩:=jn l2 N (by omega) (by omega)
       have en:=FU hx a
       have eo:=F4 hx a
       have et:(wH x a).1.time=x.time:=by
        unfold wH jz
        repeat' split
        all_goals rfl
       refine fin e2 _ l3 eo (by omega) ?_
       generalize wH x a=r at*
       obtain⟨y,f⟩:=r
       clear fin
       subst c2
       obtain⟨places,roads⟩:=m
       obtain⟨⟨xp,xr⟩,time,people,tags,readers,numbers,looked,missed⟩:=x
       obtain⟨⟨yp,yr⟩,ytime,ypeople,ytags,yreaders,ynumbers,ylooked,ymissed⟩:=y
       simp only[aE,ae,arP,Tru.e,Tru.cs,List.map_cons,List.map_nil,tL,LLe]at*
       simp (disch:=omega) only[go_sem,K.cG,↓reduceIte,g1,nx,n2,en,Nat.reduceAdd,Nat.reduceSub]
     · by_cases c34:v=3∨v=4
       · obtain⟨c,e4,n4,l5,cm⟩:=Kq l2 [5,10,1,100,0] (by simp) (by simp)
         have en:=FV hx c
         have eo:=zB hx c
         have et:(pG x c).1.time≤x.time+100:=by
          simp only[List.mem_cons,List.not_mem_nil,or_false]at cm
          unfold pG
          repeat' split
          all_goals simp only
          all_goals omega
         refine fin e4 _ l5 eo et ?_
         generalize pG x c=r at*
         obtain⟨y,f⟩:=r
         clear fin
         obtain⟨places,roads⟩:=m
         obtain⟨⟨xp,xr⟩,time,people,tags,readers,numbers,looked,missed⟩:=x
         obtain⟨⟨yp,yr⟩,ytime,ypeople,ytags,yreaders,ynumbers,ylooked,ymissed⟩:=y
         simp only[aE,ae,arP,Tru.e,Tru.cs,List.map_cons,List.map_nil,tL,LLe]at*
         rcases c34 with rfl | rfl
         · simp (disch:=omega) only[go_sem,K.cG,↓reduceIte,g1,nx,n4,en,Nat.reduceAdd,Nat.reduceSub]
         · simp (disch:=omega) only[go_sem,K.cG,↓reduceIte,g1,nx,n4,en,Nat.reduceAdd,Nat.reduceSub]
       · have d3:¬v=3:=fun h=>c34 (.inl h)
         have d4:¬v=4:=fun h=>c34 (.inr h)
         by_cases c5:v=5
         · obtain⟨a,e2,n2,l3,a1,a2⟩:=jn l2 3 (by omega) (by omega)
           obtain⟨a,rfl⟩:=Int.eq_ofNat_of_zero_le a1
           obtain⟨b,e3,n3',l4,bm⟩:=Kq l3 [0,0,1,2] (by simp) (by simp)
           obtain⟨c,e4,n4,l5,cm⟩:=Kq l4 [0,0,1, -1] (by simp) (by simp)
           obtain⟨y,r,f,eo,et,en⟩:=LY hx a b c (by simp only[List.mem_cons,List.not_mem_nil,or_false]at cm;omega)
           refine fin e4 _ l5 eo (by omega) ?_
           clear fin
           subst c5
           obtain⟨places,roads⟩:=m
           obtain⟨⟨xp,xr⟩,time,people,tags,readers,numbers,looked,missed⟩:=x
           obtain⟨⟨yp,yr⟩,ytime,ypeople,ytags,yreaders,ynumbers,ylooked,ymissed⟩:=y
           simp only[aE,ae,arP,Tru.e,Tru.cs,List.map_cons,List.map_nil,tL,LLe]at*
           simp (disch:=omega) only[go_sem,K.cG,↓reduceIte,g1,nx,n2,n3',n4,en,Nat.reduceAdd,Nat.reduceSub]
         · obtain⟨a,e2,n2,l3,a1,a2⟩:=jn l2 N (by omega) (by omega)
           obtain⟨b,e3,n3',l4,b1,b2⟩:=jn l3 N (by omega) (by omega)
           obtain⟨y,f,eo,et,en⟩:=LX hx a b
           refine fin e3 _ l4 eo (by omega) ?_
           clear fin
           obtain⟨places,roads⟩:=m
           obtain⟨⟨xp,xr⟩,time,people,tags,readers,numbers,looked,missed⟩:=x
           obtain⟨⟨yp,yr⟩,ytime,ypeople,ytags,yreaders,ynumbers,ylooked,ymissed⟩:=y
           simp only[aE,ae,arP,Tru.e,Tru.cs,List.map_cons,List.map_nil,tL,LLe]at*
           simp (disch:=omega) only[go_sem,K.cG,↓reduceIte,g1,nx,n2,n3',en,d0,d1,c2,d3,d4,c5,Nat.reduceAdd,Nat.reduceSub]
 · rintro st ⟨e,x,l1,hx,xt,rfl⟩
   refine⟨_,?_,?_,_,⟨e,x,l1,hx,xt,rfl⟩,rfl⟩
   · obtain⟨places,roads⟩:=m
     obtain⟨⟨xp,xr⟩,time,people,tags,readers,numbers,looked,missed⟩:=x
     simp only[Int.sub_self,aE,ae,Tru.cs,List.map_cons,List.map_nil,tL]
     simp (disch:=omega) only[go_sem,K.cG,↓reduceIte,Nat.reduceAdd,Nat.reduceSub]
   · simp
theorem RL{d:aR}(hd:d.dk)(most:Int)(b0:1≤most)(b1:most≤1000):∃(x:Tru) (e:aR),e.dk∧x.ok∧x.time≤100+100*most∧aT 0 N.fQ [.bp 0 0,I most] [d.obj]=some (.t x.e,[e.obj]):=by
 obtain⟨m,e1,mo,l1,hm,p1,p2,r1,r2⟩:=Q9 hd
 obtain⟨n,e2,nx,l2,n1,n2⟩:=jn l1 3 (by omega) (by omega)
 obtain⟨n,rfl⟩:=Int.eq_ofNat_of_zero_le n1
 obtain⟨q,hq,st,⟨e3,at',l3,al,ap,rfl⟩,rfl⟩:=Xb l2 hm (by omega) (n+1) (by omega) most
 obtain⟨l,e4,l4,ll,lr,ra, -⟩:=C2 l3 hm (by omega)
 obtain⟨t,e5,of,l5,tm⟩:=Kq l4 [0,100] (by simp) (by simp)
 have tb:0≤t∧t≤100:=by
  simp only[List.mem_cons,List.not_mem_nil,or_false]at tm;omega
 have lp:∀y∈l,y.pl.length≤1000000:=fun y hy=>by have:=(lr y hy).l;omega
 have tg:=AI (N:=n+1) (by omega)
 have tl:=DE (n+1) (n+1)
 have s2:=yo hm l at' (tgN (n+1) (n+1)) t (by omega) lp (by omega) (by omega)
 have ok0:=DD hm (by omega) ll lr (by omega) (by omega) ap (by omega) tg tb.1 (by omega)
 have st0:wK m l at' (tgN (n+1) (n+1)) t=(oX m l at' (tgN (n+1) (n+1)) t,0):=by
  have rb:sU m l=true:=ok0.Xa
  have an:(at'.any fun p=> !decide (0≤p∧p≤(m.places.length:Int)-1))=false:=by
   rw[List.any_eq_false]
   intro p hp
   have:=ap p hp
   rw[decide_eq_true (by omega)]
   decide
  unfold wK
  rw[rb,an,tg,if_neg (by simp;omega),if_neg (by simp),if_neg (by simp),if_neg (by omega)]
 rw[st0]at s2
 have cn:((n+1:Nat):Int)=1+(n:Int):=by omega
 rw[cn]at hq
 obtain⟨k,e6,nk,l6,k1,k2⟩:=jn l5 most b0 (by omega)
 have xt:(oX m l at' (tgN (n+1) (n+1)) t).time≤100:=tb.2
 generalize oX m l at' (tgN (n+1) (n+1)) t=x0 at*
 obtain⟨k,rfl⟩:=Int.eq_ofNat_of_zero_le k1
 obtain⟨q2,hq2,st,⟨e7,x,l7,hx,xt7,rfl⟩,rfl⟩:=Xd l6 hm r1 at'.length (by omega) (by omega) at' (tgN (n+1) (n+1)) ok0 xt k (by omega) (I most) (.ref 4 0 (n+1)) (I 0)
 refine⟨x,e7,l7,hx,by omega,aB K.lW rfl ?_⟩
 obtain⟨places,roads⟩:=m
 obtain⟨⟨xp,xr⟩,time,people,tags,readers,numbers,looked,missed⟩:=x0
 obtain⟨⟨yp,yr⟩,ytime,ypeople,ytags,yreaders,ynumbers,ylooked,ymissed⟩:=x
 simp only[aE,ae,arP,cJ.e,Tru.e,Tru.cs,rdH,Int.sub_self,List.map_cons,List.map_nil,tL,LLe]at*
 simp (disch:=omega) only[go_sem,K.fQ,↓reduceIte,mo,nx,hq,ra,of,s2,nk,hq2,Nat.reduceAdd,Nat.reduceSub]
theorem LZ{x:Tru}(h:x.ok)(k:Nat)(m off:Int)(hk:k<x.readers.length)(o1: -(nth x.readers k).skew≤off)(o2:off≤(nth x.readers k).skew)(o3:0≤x.time+off)(o4:x.time+off≤2147483648):
 aT 0 N.ag [.t x.e,I k,I m,I off] []=some (if nQ x k m then .tup [.t x.e,.t (dJ 0 0 0 []),I 43]else .tup [.t (du x k m).e,.t (dJ k (lg x k) (x.time+off) (fZ (aL x.people (nth x.readers k).pl m x.tags x.people.length))),I 0],[]):=by
 rcases pJ h with⟨a,b⟩ | ⟨y,_,a,b⟩ | ⟨y,z,_,_,a,b⟩ | ⟨y,z,w,_,_,_,a,b⟩
 · rw[a]at hk;simp at hk
 · have:k=0:=by rw[a]at hk;simpa using hk
   subst this
   have e:nth x.readers 0=y:=by rw[a];rfl
   rw[e]at o1 o2 ⊢
   exact Dm h a b m off o1 o2 o3 o4
 · have:k=0∨k=1:=by rw[a]at hk;simp only[List.length_cons,List.length_nil]at hk;omega
   rcases this with rfl | rfl
   · have e:nth x.readers 0=y:=by rw[a];rfl
     rw[e]at o1 o2 ⊢
     exact Dp h a b m off o1 o2 o3 o4
   · have e:nth x.readers 1=z:=by rw[a];rfl
     rw[e]at o1 o2 ⊢
     exact Dr h a b m off o1 o2 o3 o4
 · have:k=0∨k=1∨k=2:=by rw[a]at hk;simp only[List.length_cons,List.length_nil]at hk;omega
   rcases this with rfl | rfl | rfl
   · have e:nth x.readers 0=y:=by rw[a];rfl
     rw[e]at o1 o2 ⊢
     exact Du h a b m off o1 o2 o3 o4
   · have e:nth x.readers 1=z:=by rw[a];rfl
     rw[e]at o1 o2 ⊢
     exact Dw h a b m off o1 o2 o3 o4
   · have e:nth x.readers 2=w:=by rw[a];rfl
     rw[e]at o1 o2 ⊢
     exact Dy h a b m off o1 o2 o3 o4
theorem DF(i:Nat):sM 0 i=0:=by
 unfold sM
 rw[Int.zero_fdiv]
 rfl
theorem DG(i:Nat):eP 0 i=false:=by
 unfold eP
 rw[DF]
 rfl
theorem sD(x:Tru)(k:Nat):nQ x k 0=false:=by
 unfold nQ cV
 rw[List.any_eq_false]
 intro i _
 rw[DG]
 simp
theorem yq{x:Tru}(h:x.ok)(k:Nat)(hk:k<x.readers.length):
 aT 0 N.ag [.t x.e,I k,I 0,I 0] []=some (.tup [.t (du x k 0).e,.t (dJ k (lg x k) x.time (fZ (aL x.people (nth x.readers k).pl 0 x.tags x.people.length))),I 0],[]):=by
 have k1:=(h.r _ (bg hk)).k1
 have t0:=h.t0
 have t1:=h.t1
 have:=LZ h k 0 0 hk (by omega) (by omega) (by omega) (by omega)
 rw[sD,if_neg (by simp),Int.add_zero]at this
 exact this
theorem Eh(aw:aT 0 N.dT [] []=some (B true,[]))(li:List Int):aT 0 N.bK [.t (tL li)] []=some (B true,[]):=by
 refine aB K.im rfl ?_
 have lo:=Fc li
 by_cases c:li.length≤400
 · simp only[c,decide_true]at lo
   have ro:=Q8 li
   have d0:(aR.mk li 0).dk:=c
   generalize (aR.mk li 0)=d at*
   obtain⟨x,e1,l1,hx,xt,wa⟩:=RL d0 15 (by omega) (by omega)
   by_cases c0:x.readers.length=0
   · obtain⟨⟨xp,xr⟩,time,people,tags,readers,numbers,looked,missed⟩:=x
     simp only[Tru.e,Tru.cs,List.map_cons,List.map_nil,tL]at*
     simp (disch:=omega) only[go_sem,K.bK,↓reduceIte,lo,aw,ro,wa,c0,Nat.reduceAdd,Nat.reduceSub]
   · have rl:=hx.rl
     obtain⟨k,e2,nk,l2,k1,k2⟩:=jn l1 x.readers.length (by omega) (by omega)
     obtain⟨k,rfl⟩:=Int.eq_ofNat_of_zero_le k1
     have hk:k<x.readers.length:=by omega
     obtain⟨u,e3,nu,l3,u1,u2⟩:=jn l2 2 (by omega) (by omega)
     have q1:=yq hx k hk
     have ha:=uK hx hk 0 (sD x k)
     have q2:=yq ha k hk
     have hb:=uK ha hk 0 (sD _ k)
     have rk:=hx.r _ (bg hk)
     have p1:=rk.p1
     have p2:=rk.p2
     have t0:=hx.t0
     have nb1:=yn hx hk
     have nl:=hx.nl
     have ll:=hx.ll
     have e4:lg (du x k 0) k=(lg x k+1).tmod 65536:=by
      unfold du
      generalize lg x k=n1 at*
      unfold lg
      simp only
      rw[aK (by omega),aK (by omega),if_neg (by omega)]
     have e5:(du x k 0).time=x.time:=rfl
     have e6:aL (du x k 0).people (nth (du x k 0).readers k).pl 0 (du x k 0).tags (du x k 0).people.length=aL x.people (nth x.readers k).pl 0 x.tags x.people.length:=rfl
     rw[e4,e5,e6]at q2
     have nb2:=yn ha hk
     rw[e4]at nb2
     have tb:pG (du (du x k 0) k 0) ((nth x.readers k).per+u)=({ (du (du x k 0) k 0)with time:=x.time+((nth x.readers k).per+u),people:=x.people.map (jA x.gz ((nth x.readers k).per+u))},0):=by
      unfold pG
      rw[if_neg (by omega),if_neg (by show ¬2147483648<x.time+_;omega)]
      rfl
     have q3:=FZ hb ((nth x.readers k).per+u)
     have hc:=zB hb ((nth x.readers k).per+u)
     rw[tb]at q3 hc
     have q4:=yq hc k hk
     have e7:lg { (du (du x k 0) k 0)with time:=x.time+((nth x.readers k).per+u),people:=x.people.map (jA x.gz ((nth x.readers k).per+u))} k=((lg x k+1).tmod 65536+if u=0 then 1 else 2).tmod 65536:=by
      have s1:∀v:Int,nth (x.numbers.set k v) k=v:=fun v=>aK (by omega)
      have s2:∀v:Int,nth (x.looked.set k v) k=v:=fun v=>aK (by omega)
      have e8:(du (du x k 0) k 0).numbers=(x.numbers.set k (lg x k)).set k ((lg x k+1).tmod 65536):=by
       rw[← e4];rfl
      have e9:(du (du x k 0) k 0).looked=(x.looked.set k x.time).set k x.time:=rfl
      have e10:(du (du x k 0) k 0).readers=x.readers:=rfl
      unfold lg
      simp only[e8,e9,e10,List.set_set,s1,s2]
      unfold lg
      by_cases cu:u=0
      · rw[if_pos cu,if_neg (show ¬(0≤x.time∧(nth x.readers k).per<x.time+((nth x.readers k).per+u)-x.time)by omega)]
      · rw[if_neg cu,if_pos (show 0≤x.time∧(nth x.readers k).per<x.time+((nth x.readers k).per+u)-x.time by omega)]
     simp only at q4
     rw[e7]at q4
     have ex:(x.readers.map Rdr.e)[k]?=some (nth x.readers k).e:=aD _ hk
     have gl:(fZ (aL x.people (nth x.readers k).pl 0 x.tags x.people.length)).length≤4294967296:=by
      have:=eH x.people (nth x.readers k).pl 0 x.tags x.people.length
      have:=hx.n3
      rw[eZ];omega
     generalize fZ (aL x.people (nth x.readers k).pl 0 x.tags x.people.length)=g1 at*
     generalize hn2:(lg x k+1).tmod 65536=n2 at*
     have sm:∀a b:List Int,a.length≤1000→aT 0 N.ct [.t (tL a),.t (tL b)] []=some (B (decide (a=b)),[]):=fun a b h=>Ch a b (by omega)
     have sg:=Ch g1 g1 gl
     rw[decide_eq_true rfl]at sg
     have z1:(du (du x k 0) k 0).time=x.time:=rfl
     generalize ha':du x k 0=a at*
     generalize hb':du a k 0=b at*
     generalize lg x k=n1 at*
     have w1:(n1+1).tmod 65536=n2:=hn2
     generalize fZ _=g3 at q4
     generalize du _ k 0=f at q4
     obtain⟨⟨xp,xr⟩,time,people,tags,readers,numbers,looked,missed⟩:=x
     obtain⟨⟨ap,ar⟩,atime,apeople,atags,areaders,anumbers,alooked,amissed⟩:=a
     obtain⟨⟨bp,br⟩,btime,bpeople,btags,breaders,bnumbers,blooked,bmissed⟩:=b
     obtain⟨⟨fp,fr⟩,ftime,fpeople,ftags,freaders,fnumbers,flooked,fmissed⟩:=f
     simp only[Tru.e,Tru.cs,dJ,List.map_cons,List.map_nil,tL]at*
     subst z1
     by_cases cu:u=0
     · subst cu
       rw[if_pos rfl]at q4
       simp only[Int.add_zero]at q3 q4
       simp (disch:=omega) only[go_sem,K.bK,↓reduceIte,lo,aw,ro,wa,c0,nk,nu,q1,q2,q3,q4,ex,sg,w1,Nat.reduceAdd,Nat.reduceSub]
     · rw[if_neg cu]at q4
       simp (disch:=omega) only[go_sem,K.bK,↓reduceIte,lo,aw,ro,wa,c0,nk,nu,q1,q2,q3,q4,ex,sg,w1,Nat.reduceAdd,Nat.reduceSub]
 · simp only[c,decide_false]at lo
   simp (disch:=omega) only[go_sem,K.bK,↓reduceIte,lo,aw,Nat.reduceAdd,Nat.reduceSub]
end Go.Ev
