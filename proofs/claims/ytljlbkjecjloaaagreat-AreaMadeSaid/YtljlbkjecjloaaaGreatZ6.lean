/- Parts of the proof: see the text that holds the theorem. -/
import Derived.Test.YtljlbkjecjloaaaGreatZ5
set_option linter.all false
set_option maxRecDepth 100000
namespace Go.Ev
open Go
variable [Lib] [bW] [bL] [fJ] [eY] [fM] [fN] [iI] [gu] [iJ] [j4]
abbrev roV(p r:Int)(n:Nat)(ag i:D):List D:=[.und,.und,I r,.bp 0 0,.und,.und,.ref 1 0 n,.und,ag,i,.und,.und,.und]
abbrev roH(m:aM)(l:List Int):ai:=[.box (aa m),iT l]
theorem Xg{m:aM}(h:m.ok)(p r:Int)(l:List Int)(hl:l.length=m.places.length)(hb:bnd l)(k:Nat)(hk:k<m.roads.length)(ch:Bool):
 fG true [0,1,4,5,7,10,11,12] 2 (exS aE K.jJ ⟨roV p r l.length (B ch) (I k),roH m l⟩)=
 some ⟨roV p r l.length (B (ofR (nth m.roads k) (l,ch)).2) (I (k+1)),roH m (ofR (nth m.roads k) (l,ch)).1⟩:=by
 have np:=h.np
 have nr:=h.nr
 have ex:(m.roads.map Road.e)[k]?=some (nth m.roads k).e:=bP _ hk
 obtain⟨f0,f1,t0,t1,ne,l0,l1, -⟩:=h.rs _ (ae hk)
 unfold ofR
 simp only
 generalize nth m.roads k=x at*
 obtain⟨frm,to,len,area,walk,closed,rl,rh,ll,lh⟩:=x
 simp only at*
 have b1:=hb _ (ae (l:=l) (j:=frm.toNat) (by omega))
 have b2:=hb _ (ae (l:=l) (j:=to.toNat) (by omega))
 obtain⟨places,roads⟩:=m
 simp only[aa,roV,roH]at*
 cases closed with
 | true=>
   simp only[if_true]
   simp(disch:=omega)only[go_sem,K.jJ,↓reduceIte,ex,Nat.reduceAdd,Nat.reduceSub]
 | false=>
   simp only[Bool.false_eq_true,if_false]
   by_cases c:nth l frm.toNat+len<nth l to.toNat
   · rw[if_pos c]
     have g1:(((l.set to.toNat (nth l frm.toNat+len)).map (T.int .i64)).map D.t)[frm.toNat]?=some (D.t (T.int .i64 (nth l frm.toNat))):=by
      rw[lH _ _ (by rw[List.length_set];omega),ku _ _ (by omega),if_neg (by omega)]
     have g2:(((l.set to.toNat (nth l frm.toNat+len)).map (T.int .i64)).map D.t)[to.toNat]?=some (D.t (T.int .i64 (nth l frm.toNat+len))):=by
      rw[lH _ _ (by rw[List.length_set];omega),ku _ _ (by omega),if_pos rfl]
     have c3:¬(nth l frm.toNat+len+len<nth l frm.toNat):=by omega
     simp(disch:=omega)only[go_sem,K.jJ,↓reduceIte,ex,c,g1,g2,c3,List.length_set,Nat.reduceAdd,Nat.reduceSub]
   · rw[if_neg c]
     by_cases c2:nth l to.toNat+len<nth l frm.toNat
     · rw[if_pos c2]
       simp(disch:=omega)only[go_sem,K.jJ,↓reduceIte,ex,c,c2,List.length_set,Nat.reduceAdd,Nat.reduceSub]
     · rw[if_neg c2]
       simp(disch:=omega)only[go_sem,K.jJ,↓reduceIte,ex,c,c2,Nat.reduceAdd,Nat.reduceSub]
theorem ahf{m:aM}(h:m.ok){p:Nat}(r:Int){l:List Int}(hi:OfI m p l):∀z0 z1 z4 z5 z7 z10 z11 z12:D,
 exS aE K.A6 ⟨[z0,z1,I r,.bp 0 0,z4,z5,.ref 1 0 m.places.length,z7,B false,I 0,z10,z11,z12],roH m l⟩=
 some (.exit 5,⟨roV p r m.places.length (B (ofG m l).2) (I m.roads.length),roH m (ofG m l).1⟩):=by
 intro z0 z1 z4 z5 z7 z10 z11 z12
 refine bR (fun k=>⟨roV p r m.places.length (B (ofN m l k).2) (I k),roH m (ofN m l k).1⟩) m.roads.length rfl ?_ ?_ (by simp)
 · intro k hk
   obtain⟨i1, -⟩:=ve h hi k (by omega)
   have:=Xg h p r (ofN m l k).1 i1.ln i1.bd k hk (ofN m l k).2
   rw[i1.ln]at this
   exact this
 · have nr:=h.nr
   unfold ofG
   generalize ofN m l m.roads.length=q
   obtain⟨l',b⟩:=q
   obtain⟨places,roads⟩:=m
   simp only[aa,roV,roH]
   simp(disch:=omega)only[go_sem,K.jJ,↓reduceIte,Nat.reduceAdd,Nat.reduceSub]
theorem acv{m:aM}(h:m.ok){p:Nat}(hp:p<m.places.length)(r:Int):aE 0 N.lT [.t m.e,I p,I r] []=some (if r<0 then .tup [.t (tL []),I 1]else .tup [.t (tL (ofL m p r)),I 0],[]):=by
 refine ak K.yF rfl ?_
 have np:=h.np
 have ck:=rq h
 by_cases hr:r<0
 · rw[if_pos hr]
   obtain⟨places,roads⟩:=m
   simp only at*
   simp(disch:=omega)only[go_sem,K.lT,↓reduceIte,ck,hr,List.map_nil,Nat.reduceAdd,Nat.reduceSub]
   rfl
 rw[if_neg hr]
 have nl0:dS 0=[]:=rfl
 have fi:=abL h hp
 have l1:∀z0 z4 z5 z8 z9 z10 z11 z12:D,exS aE K.A5 ⟨[z0,I p,I r,.bp 0 0,z4,z5,.ref 1 0 0,I 0,z8,z9,z10,z11,z12],[.box (aa m),.arr 1 false 0 []]⟩=
  some (.exit 1,⟨[.und,I p,I r,.bp 0 0,.und,.und,.ref 1 0 m.places.length,I m.places.length,.und,.und,.und,.und,.und],[.box (aa m),iT (dS m.places.length)]⟩):=by
  intro z0 z4 z5 z8 z9 z10 z11 z12
  refine bR (fun j=>⟨[.und,I p,I r,.bp 0 0,.und,.und,.ref 1 0 j,I j,.und,.und,.und,.und,.und],[.box (aa m),iT (dS j)]⟩) m.places.length rfl ?_ ?_ (by simp)
  · intro j hj
    have n1:=iC j
    rw[AV]
    generalize dS j=L at*
    obtain⟨places,roads⟩:=m
    simp only[aa,iT]at*
    subst n1
    simp(disch:=omega)only[go_sem,K.tP,↓reduceIte,List.map_append,List.map_cons,List.map_nil,Nat.reduceAdd,Nat.reduceSub]
  · obtain⟨places,roads⟩:=m
    simp only[aa,iT]at*
    simp(disch:=omega)only[go_sem,K.tP,↓reduceIte,Nat.reduceAdd,Nat.reduceSub]
 have lp:=fun z0 z1 z4 z5 z7 z9 z10 z11 z12:D=>yr (gc:=true) (dead:=[0,1,4,5,7,9,10,11,12]) (c:=K.pt) (vs:=[z0,z1,I r,.bp 0 0,z4,z5,.ref 1 0 m.places.length,z7,B true,z9,z10,z11,z12]) (H:=roH m (ofB m p))
  (fun l ch=>⟨[.und,.und,I r,.bp 0 0,.und,.und,.ref 1 0 m.places.length,.und,B ch,.und,.und,.und,.und],roH m l⟩)
  (fun l=>(.exit 3,⟨[.und,.und,I r,.bp 0 0,.und,.und,.ref 1 0 m.places.length,.und,B false,.und,.und,.und,.und],roH m l⟩))
  (ofG m) (OfI m p) vd (fun l hl=>⟨(ve h hl _ (Nat.le_refl _)).1,(ve h hl _ (Nat.le_refl _)).2.1⟩)
  (by
   intro l hl
   have:=ahf h r hl
   have ln:=(ve h hl _ (Nat.le_refl _)).1.ln
   have ln0:=hl.ln
   unfold ofG at*
   generalize ofN m l m.roads.length=q at*
   obtain⟨l',b⟩:=q
   obtain⟨places,roads⟩:=m
   simp only[aa,roV,roH]at*
   simp(disch:=omega)only[go_sem,K.pt,↓reduceIte,this,Nat.reduceAdd,Nat.reduceSub]
   )
  (by
   intro l hl
   obtain⟨places,roads⟩:=m
   simp only[aa,roH]
   simp(disch:=omega)only[go_sem,K.pt,↓reduceIte,reduceCtorEq,ne_eq,not_false_eq_true,and_self,Nat.reduceAdd,Nat.reduceSub]
   )
  (ofB m p) (VB hp) rfl
 have o1:∀z0 z1 z4 z5 z7 z9 z10 z11 z12:D,exS aE K.A7 ⟨[z0,z1,I r,.bp 0 0,z4,z5,.ref 1 0 m.places.length,z7,B true,z9,z10,z11,z12],roH m (ofB m p)⟩=_:=fun z0 z1 z4 z5 z7 z9 z10 z11 z12=>(lp z0 z1 z4 z5 z7 z9 z10 z11 z12).1
 clear lp
 have dl:=fi.2.ln
 have wl:=fun j=>dY j (ofP (ofD m p) r)
 have l4:∀z0 z1 z3 z4 z5 z7 z8 z9 z10:D,exS aE K.A8 ⟨[z0,z1,I r,z3,z4,z5,.ref 1 0 m.places.length,z7,z8,z9,z10,.ref 2 0 0,I 0],[.box (aa m),iT (ofD m p),.arr 1 false 0 []]⟩=
  some (.exit 7,⟨[.und,.und,I r,.und,.und,.und,.ref 1 0 m.places.length,.und,.und,.und,.und,.ref 2 0 (bz m.places.length (ofP (ofD m p) r)).length,I m.places.length],[.box (aa m),iT (ofD m p),iT (bz m.places.length (ofP (ofD m p) r))]⟩):=by
  intro z0 z1 z3 z4 z5 z7 z8 z9 z10
  refine bR (fun j=>⟨[.und,.und,I r,.und,.und,.und,.ref 1 0 m.places.length,.und,.und,.und,.und,.ref 2 0 (bz j (ofP (ofD m p) r)).length,I j],[.box (aa m),iT (ofD m p),iT (bz j (ofP (ofD m p) r))]⟩) m.places.length rfl ?_ ?_ (by simp)
  · intro j hj
    have w1:=wl j
    have ws:=iQ j (ofP (ofD m p) r)
    have hP:ofP (ofD m p) r j=(decide (nth (ofD m p) j<1099511627776)&&decide (nth (ofD m p) j≤r)):=rfl
    generalize bz j (ofP (ofD m p) r)=out at*
    generalize bz (j+1) (ofP (ofD m p) r)=out2 at*
    rw[hP]at ws
    clear hP o1 fi
    generalize ofD m p=F at*
    rw[← dl]at hj
    by_cases c1:nth F j<1099511627776<;>by_cases c2:nth F j≤r
    · rw[decide_eq_true c1,decide_eq_true c2,if_pos (by simp)]at ws
      subst ws
      obtain⟨places,roads⟩:=m
      simp only[aa,iT]at*
      rw[← dl]
      simp(disch:=omega)only[go_sem,K.kU,↓reduceIte,c1,c2,List.map_append,List.map_cons,List.map_nil,Nat.reduceAdd,Nat.reduceSub]
    · rw[decide_eq_true c1,decide_eq_false c2,if_neg (by simp)]at ws
      subst ws
      obtain⟨places,roads⟩:=m
      simp only[aa,iT]at*
      simp(disch:=omega)only[go_sem,K.kU,↓reduceIte,c1,c2,Nat.reduceAdd,Nat.reduceSub]
    · rw[decide_eq_false c1,if_neg (by simp)]at ws
      subst ws
      obtain⟨places,roads⟩:=m
      simp only[aa,iT]at*
      simp(disch:=omega)only[go_sem,K.kU,↓reduceIte,c1,Nat.reduceAdd,Nat.reduceSub]
    · rw[decide_eq_false c1,if_neg (by simp)]at ws
      subst ws
      obtain⟨places,roads⟩:=m
      simp only[aa,iT]at*
      simp(disch:=omega)only[go_sem,K.kU,↓reduceIte,c1,Nat.reduceAdd,Nat.reduceSub]
  · obtain⟨places,roads⟩:=m
    simp only[aa,iT]at*
    simp(disch:=omega)only[go_sem,K.kU,↓reduceIte,Nat.reduceAdd,Nat.reduceSub]
 have e:ofL m p r=bz m.places.length (ofP (ofD m p) r):=rfl
 rw[e]
 clear e fi
 have wl:=wl m.places.length
 unfold ofD ofB at*
 have nl:=iC m.places.length
 generalize iK (ofG m) (vd ((dS m.places.length).set p 0)+1) ((dS m.places.length).set p 0)=F at*
 generalize bz m.places.length (ofP F r)=out at*
 generalize dS m.places.length=ne at*
 obtain⟨places,roads⟩:=m
 simp only[aa,roH,iT]at*
 simp(disch:=omega)only[go_sem,K.lT,↓reduceIte,ck,hr,l1,o1,l4,Bool.not_true,List.length_set,Nat.reduceAdd,Nat.reduceSub]
theorem ahg(b:Bel)(l:List Int)(hl:l.length≤1000000)(P out:List Int)(hP:P.length≤64)(ho:out.length≤1000000)(t:Int)(i:Nat)(z0 z4:D):
 exS aE K.tQ ⟨[z0,.t (tL l),I t,.bp 0 0,z4,.ref 1 0 out.length,I i,.t (tL P),I 0],[.box [.t (.sl (b.worlds.map World.e))],iT out]⟩=
  some (if(List.range P.length).any (fun j=>decide (nth P j∈l))=true then(.exit 2,⟨[.und,.t (tL l),I t,.bp 0 0,.und,.ref 1 0 (out++[(i:Int)]).length,I i,.t (tL P),I (iY P.length fun j=>decide (nth P j∈l))],[.box [.t (.sl (b.worlds.map World.e))],iT (out++[(i:Int)])]⟩)
   else(.exit 2,⟨[.und,.t (tL l),I t,.bp 0 0,.und,.ref 1 0 out.length,I i,.t (tL P),I P.length],[.box [.t (.sl (b.worlds.map World.e))],iT out]⟩)):=by
 refine oD (fun j=>⟨[.und,.t (tL l),I t,.bp 0 0,.und,.ref 1 0 out.length,I i,.t (tL P),I j],[.box [.t (.sl (b.worlds.map World.e))],iT out]⟩) P.length (fun j=>decide (nth P j∈l))
  (fun j=>(.exit 2,⟨[.und,.t (tL l),I t,.bp 0 0,.und,.ref 1 0 (out++[(i:Int)]).length,I i,.t (tL P),I j],[.box [.t (.sl (b.worlds.map World.e))],iT (out++[(i:Int)])]⟩)) _ (by simp only[go_sem]) ?_ ?_ ?_ (by simp)
 · intro j hj hp
   have hs:=u9 l (nth P j) (by omega)
   rw[hp]at hs
   simp only[iT]at*
   generalize hy:nth P j=y at*
   simp(disch:=omega)only[go_sem,K.kx,↓reduceIte,hs,hy,Nat.reduceAdd,Nat.reduceSub]
 · intro j hj hp
   have hs:=u9 l (nth P j) (by omega)
   rw[hp]at hs
   simp only[iT]at*
   generalize hy:nth P j=y at*
   refine⟨?_,by simp⟩
   simp(disch:=omega)only[go_sem,K.kx,↓reduceIte,hs,hy,List.map_append,List.map_cons,List.map_nil,Nat.reduceAdd,Nat.reduceSub]
 · simp only[iT]at*
   simp(disch:=omega)only[go_sem,K.kx,↓reduceIte,Nat.reduceAdd,Nat.reduceSub]
theorem LG(b:Bel)(hs:b.sz)(l:List Int)(hl:l.length≤1000000)(t:Int):aE 0 N.fe [.t b.e,.t (tL l),I t] []=some (.t (tL (Xf b l t)),[]):=by
 refine ak K.p4 rfl ?_
 unfold Xf
 by_cases h0:b.worlds.length=0
 · rw[if_pos h0]
   obtain⟨ws⟩:=b
   simp only at h0
   have:ws=[]:=List.length_eq_zero_iff.1 h0
   subst this
   simp(disch:=omega)only[go_sem,K.fe,↓reduceIte,List.map_nil,List.length_nil,Nat.reduceAdd,Nat.reduceSub]
   rfl
 rw[if_neg h0]
 have wl:=fun j=>dY j (BZ b l t)
 have sz:=(hs.2 _ (ae (l:=b.worlds) (j:=0) (by omega))).2.1
 have ex:(b.worlds.map World.e)[0]?=some (nth b.worlds 0).e:=bP _ (by omega)
 have hb:=hs.1
 have lp:∀z0 z4 z7 z8:D,exS aE K.tR ⟨[z0,.t (tL l),I t,.bp 0 0,z4,.ref 1 0 0,I 0,z7,z8],[.box [.t (.sl (b.worlds.map World.e))],.arr 1 false 0 []]⟩=
  some (.exit 0,⟨[.und,.t (tL l),I t,.bp 0 0,.und,.ref 1 0 (bz (nth b.worlds 0).whr.length (BZ b l t)).length,I (nth b.worlds 0).whr.length,.und,.und],[.box [.t (.sl (b.worlds.map World.e))],iT (bz (nth b.worlds 0).whr.length (BZ b l t))]⟩):=by
  intro z0 z4 z7 z8
  refine bR (fun j=>⟨[.und,.t (tL l),I t,.bp 0 0,.und,.ref 1 0 (bz j (BZ b l t)).length,I j,.und,.und],[.box [.t (.sl (b.worlds.map World.e))],iT (bz j (BZ b l t))]⟩) (nth b.worlds 0).whr.length rfl ?_ ?_ (by simp)
  · intro j hj
    have po:=DO b hs j t
    have w1:=wl j
    have ri:=ahg b l hl (wy b j t) (bz j (BZ b l t)) (Gp b j t) (by omega) t j
    have an:(List.range (wy b j t).length).any (fun k=>decide (nth (wy b j t) k∈l))=BZ b l t j:=(Gn (wy b j t) fun p=>decide (p∈l)).symm
    rw[an]at ri
    have ws:=iQ j (BZ b l t)
    generalize BZ b l t j=c at*
    generalize bz j (BZ b l t)=out at*
    generalize bz (j+1) (BZ b l t)=out2 at*
    generalize wy b j t=P at*
    clear an
    generalize hwo:nth b.worlds 0=w at*
    obtain⟨tg,wh⟩:=w
    obtain⟨bw⟩:=b
    simp only[iT]at*
    cases c with
    | true=>
      rw[if_pos rfl]at ws
      subst ws
      simp only[if_pos]at ri
      simp(disch:=omega)only[go_sem,K.ky,↓reduceIte,ex,po,ri,Nat.reduceAdd,Nat.reduceSub]
    | false=>
      rw[if_neg (by simp)]at ws
      subst ws
      simp only[Bool.false_eq_true,if_false]at ri
      simp(disch:=omega)only[go_sem,K.ky,↓reduceIte,ex,po,ri,Nat.reduceAdd,Nat.reduceSub]
  · have w1:=wl (nth b.worlds 0).whr.length
    generalize bz (nth b.worlds 0).whr.length (BZ b l t)=out at*
    generalize hwo:nth b.worlds 0=w at*
    obtain⟨tg,wh⟩:=w
    obtain⟨bw⟩:=b
    simp only[iT]at*
    simp(disch:=omega)only[go_sem,K.ky,↓reduceIte,ex,Nat.reduceAdd,Nat.reduceSub]
 have w1:=wl (nth b.worlds 0).whr.length
 generalize bz (nth b.worlds 0).whr.length (BZ b l t)=out at*
 generalize hwo:nth b.worlds 0=w at*
 obtain⟨bw⟩:=b
 simp only[iT]at*
 simp(disch:=omega)only[go_sem,K.fe,↓reduceIte,lp,h0,Nat.reduceAdd,Nat.reduceSub]
end Go.Ev
namespace Go.Ev
open Go
variable [Lib] [bW] [bL] [fJ] [eY]
def GB(o:Obj):Prop:=∃(sz:Nat) (ts:List T),o= .arr sz false 0 (ts.map .t)
theorem Ae{f:Nat→Option Nat}{o:Obj}(h:GB o):bY f o=some o:=by
 obtain⟨sz,ts,rfl⟩:=h
 simp only[bY,vJ,Option.map_some]
theorem GC{H:ai}{l:List Obj}(h:∀o∈l,GB o):(l.flatMap fun o=>o.ds.flatMap (fF H depth))=[]:=by
 rw[List.flatMap_eq_nil_iff]
 intro o ho
 obtain⟨sz,ts,rfl⟩:=h o ho
 simp only[Obj.ds,Fy]
theorem J4{H:ai}{l:List Obj}(h:∀o∈l,GB o):bA (cU H) l=some l:=by
 have:∀(l:List Obj),(∀o∈l,GB o)→bA (cU H) l=some l:=by
  intro l
  induction l with
  | nil=>intro _;rfl
  | cons a r ih=>
    intro h
    obtain⟨sz,ts,rfl⟩:=h a List.mem_cons_self
    have key:bA (fun d=>(frz H depth d).map D.t) (ts.map .t)=some (ts.map .t):=xg H ts
    have ih:=ih fun o ho=>h o (List.mem_cons_of_mem _ ho)
    simp only[bA,cU,key,Option.map_some,Option.bind_some,ih]
 exact this l h
theorem LH{H:ai}{d d':D}{L0 L1:List Nat}{O0 O1 O0':List Obj}(hi:ids depth d=L0)(ho:old 0 depth d=false)(hp0:pick H L0=some O0)(hi1:jA H L0=L1)
 (nd:(L0++L1).Nodup) (hp1:pick H L1=some O1) (lf:∀o∈O1,GB o) (rd:ren (idxOf (L0++L1)) depth d=some d') (r0:bA (bY (idxOf (L0++L1))) O0=some O0'):
 finish 0 2 H [d]=some (d',O0'++O1):=by
 have hold:([d].all (old 0 depth)&&(H.take 0).all (fun o=>o.ds.all (old 0 depth)))=false:=by simp[ho]
 have nd0:L0.Nodup:=(List.nodup_append.1 nd).1
 have r1:bA (bY (idxOf (L0++L1))) O1=some O1:=vR fun o ho=>Ae (lf o ho)
 have hk:gF H (max 2 1) (List.range 0) ([d].flatMap (ids depth)++jA H (List.range 0))=some (L0++L1,O0++O1):=by
  have e1:[d].flatMap (ids depth)++jA H (List.range 0)=L0:=by simp[jA,hi]
  have hnew:(eJ [] L0).drop 0=L0:=by
   have:=jR L0 [] (by simpa using nd0)
   rw[this];simp
  have hm:max 2 1=1+1:=rfl
  rw[e1,hm]
  simp only[List.range_zero]
  unfold gF
  simp only[List.length_nil,hnew,hp0,Option.bind_some,Option.map_some,Nat.one_ne_zero,if_false]
  unfold gF
  simp only[List.nil_append,hi1,jR _ _ nd,List.drop_left',hp1,Option.bind_some,if_true,GC lf,List.all_nil,J4 lf,gF,Option.map_some,List.append_nil]
 unfold finish
 rw[if_neg (by omega),Option.bind_some,hold,if_neg (by simp),hk]
 simp only[Option.bind_some,List.range_zero,List.nil_append,List.take_zero,ik,Nat.succ_ne_zero,if_false,List.all_nil,if_true,bA,rd,ph r0 r1,Option.map_some,sC]
theorem LI{H:ai}{d d':D}{L0 L1 L2:List Nat}{O0 O1 O2 O0' O1':List Obj}(hi:ids depth d=L0)(ho:old 0 depth d=false)(hp0:pick H L0=some O0)(hi1:jA H L0=L1)
 (hp1:pick H L1=some O1) (hi2:jA H L1=L2) (nd:((L0++L1)++L2).Nodup) (hp2:pick H L2=some O2) (lf:∀o∈O2,GB o) (rd:ren (idxOf ((L0++L1)++L2)) depth d=some d')
 (r0:bA (bY (idxOf ((L0++L1)++L2))) O0=some O0') (r1:bA (bY (idxOf ((L0++L1)++L2))) O1=some O1'):
 finish 0 3 H [d]=some (d',O0'++(O1'++O2)):=by
 have hold:([d].all (old 0 depth)&&(H.take 0).all (fun o=>o.ds.all (old 0 depth)))=false:=by simp[ho]
 have nd1:(L0++L1).Nodup:=(List.nodup_append.1 nd).1
 have nd0:L0.Nodup:=(List.nodup_append.1 nd1).1
 have r2:bA (bY (idxOf ((L0++L1)++L2))) O2=some O2:=vR fun o ho=>Ae (lf o ho)
 have hk:gF H (max 3 1) (List.range 0) ([d].flatMap (ids depth)++jA H (List.range 0))=some (L0++(L1++L2),O0++(O1++O2)):=by
  have e1:[d].flatMap (ids depth)++jA H (List.range 0)=L0:=by simp[jA,hi]
  have hnew:(eJ [] L0).drop 0=L0:=by
   have:=jR L0 [] (by simpa using nd0)
   rw[this];simp
  have hm:max 3 1=1+1+1:=rfl
  rw[e1,hm]
  simp only[List.range_zero]
  unfold gF
  simp only[List.length_nil,hnew,hp0,Option.bind_some,Option.map_some,Nat.succ_ne_zero,if_false]
  unfold gF
  simp only[List.nil_append,hi1,jR _ _ nd1,List.drop_left',hp1,Option.bind_some,Option.map_some,Nat.succ_ne_zero,if_false]
  unfold gF
  simp only[hi2,jR _ _ nd,List.drop_left',hp2,Option.bind_some,if_true,GC lf,List.all_nil,J4 lf,gF,Option.map_some,List.append_nil]
 rw[List.append_assoc]at rd r0 r1 r2
 unfold finish
 rw[if_neg (by omega),Option.bind_some,hold,if_neg (by simp),hk]
 simp only[Option.bind_some,List.range_zero,List.nil_append,List.take_zero,ik,Nat.succ_ne_zero,if_false,List.all_nil,if_true,bA,rd,ph r0 (ph r1 r2),Option.map_some,sC]
theorem LJ(w:Wh)(hl:w.frm.length≤4294967296):aE 1 N.cz [.t w.e] []=some (.agg [I w.time,.ref 0 0 w.frm.length],[.arr 1 false 0 (ints w.frm)]):=by
 refine ak K.pg rfl ?_
 obtain⟨time,frm⟩:=w
 simp only[ints]at*
 simp(disch:=omega)only[go_sem,K.cz,↓reduceIte,Nat.reduceAdd,Nat.reduceSub]
def wEl(f:Nat→Nat)(l:List Wh)(j:Nat):D:= .agg [I (nth l j).time,.ref (f j) 0 (nth l j).frm.length]
def wOb(w:Wh):Obj:= .arr 1 false 0 (ints w.frm)
def cwH(s:Nat)(x:World):ai:= .arr 1 false 0 (ints x.tags):: .arr 2 false 0 ((List.range x.whr.length).map (wEl (fun j=>s+2+j) x.whr))::x.whr.map wOb
theorem D5(l:List Wh):∀o∈l.map wOb,GB o:=by
 intro o ho
 obtain⟨w,_,rfl⟩:=List.mem_map.1 ho
 exact⟨_,_,rfl⟩
theorem Ix{f:Nat→Option Nat}{g h:Nat→Nat}{l:List Wh}(hf:∀j,j<l.length→f (g j)=some (h j)):bA (ren f depth) ((List.range l.length).map (wEl g l))=some ((List.range l.length).map (wEl h l)):=
 kL fun j hj=>by
  have:=hf j (List.mem_range.1 hj)
  simp only[wEl,depth,ren,bA,this,Option.map_some,Option.bind_some]
theorem Pk(g:Nat→Nat)(l:List Wh):((List.range l.length).map (wEl g l)).flatMap (ids depth)=(List.range l.length).map g:=by
 rw[List.flatMap_map,List.map_eq_flatMap]
 congr 1
theorem acw(s:Nat)(x:World):bA (bY (bJ [] s)) (cwH 0 x)=some (cwH s x):=by
 have h1:=Ix (f:=bJ [] s) (g:=fun j=>0+2+j) (h:=fun j=>s+2+j) (l:=x.whr) (fun j _=>by simp[bJ];omega)
 have h2:bA (bY (bJ [] s)) (x.whr.map wOb)=some (x.whr.map wOb):=vR fun o ho=>Ae (D5 _ o ho)
 unfold cwH
 simp only[bA,bY,ints,vJ,h1,h2,Option.map_some,Option.bind_some]
theorem RX(H:ai)(x:World)(n k:Nat):sV H (.agg [.ref 0 0 n,.ref 1 0 k],cwH 0 x)=some (.agg [.ref H.length 0 n,.ref (H.length+1) 0 k],H++cwH H.length x):=by
 have e:sV H (.agg [.ref 0 0 n,.ref 1 0 k],cwH 0 x)=(ren (bJ [] H.length) depth (.agg [.ref 0 0 n,.ref 1 0 k])).bind fun r'=>(bA (bY (bJ [] H.length)) (cwH 0 x)).map fun os=>(r',H++os):=by
  unfold sV
  rw[if_neg (by simp[cwH])]
 rw[e,acw]
 simp[ren,depth,bA,bJ]
theorem acx(s:Nat)(x:World):(cwH s x).length=2+x.whr.length:=by simp[cwH];omega
theorem RY(x:World)(h:x.sz)(a:D):∃q,exS aE K.m5 ⟨[a,.bp 0 0,.bp 1 0,.bp 3 0,I 0],[.box [.t (tL x.tags),.t (.sl (x.whr.map Wh.e))],.box [.nil,.nil],.arr 1 false 0 (ints x.tags),.box [.ref 2 0 x.tags.length,.ref 5 0 0],.arr 2 false 0 [],.arr 2 false 0 []]⟩=some q∧
 ∃H,q=(.exit 0,⟨[.und,.bp 0 0,.bp 1 0,.bp 3 0,I x.whr.length],H⟩)∧H[1]?=some (.box [.nil,.nil])∧H[2]?=some (.arr 1 false 0 (ints x.tags))∧H[3]?=some (.box [.ref 2 0 x.tags.length,.ref 5 0 x.whr.length])∧
  H[5]?=some (.arr 2 false 0 ((List.range x.whr.length).map (wEl (fun j=>6+2*j) x.whr)))∧(∀i,i<x.whr.length→H[6+2*i]?=some (wOb (nth x.whr i))):=by
 obtain⟨tags,l⟩:=x
 obtain⟨h1,h2,h3⟩:=h
 simp only at h1 h2 h3 ⊢
 refine xJ (fun j st=>∃H,st=⟨[.und,.bp 0 0,.bp 1 0,.bp 3 0,I j],H⟩∧H.length=6+2*j∧H[0]?=some (.box [.t (tL tags),.t (.sl (l.map Wh.e))])∧H[1]?=some (.box [.nil,.nil])∧H[2]?=some (.arr 1 false 0 (ints tags))∧H[3]?=some (.box [.ref 2 0 tags.length,.ref 5 0 j])∧
  H[5]?=some (.arr 2 false 0 ((List.range j).map (wEl (fun j=>6+2*j) l)))∧(∀i,i<j→H[6+2*i]?=some (wOb (nth l i)))) l.length _ ?_ ?_ ?_
 · exact⟨_,rfl,rfl,rfl,rfl,rfl,rfl,rfl,fun i hi=>absurd hi (by omega)⟩
 · rintro j st hj ⟨H,rfl,hlen,e0,e1,e2,e3,e5,hA⟩
   have c:=LJ (nth l j) (by have:=h3 _ (ae hj);omega)
   have rs:(List.range (j+1)).map (wEl (fun j=>6+2*j) l)=(List.range j).map (wEl (fun j=>6+2*j) l)++[.agg [I (nth l j).time,.ref H.length 0 (nth l j).frm.length]]:=by
    rw[List.range_succ,List.map_append,hlen];rfl
   have el:((List.range j).map (wEl (fun j=>6+2*j) l)).length=j:=by simp
   generalize (List.range j).map (wEl (fun j=>6+2*j) l)=es at*
   refine⟨⟨[.und,.bp 0 0,.bp 1 0,.bp 3 0,I (j+1)],(H.set 5 (.arr 2 false 0 (es++[.agg [I (nth l j).time,.ref H.length 0 (nth l j).frm.length]]))).set 3 (.box [.ref 2 0 tags.length,.ref 5 0 (j+1)])++[.arr 1 false 0 (ints (nth l j).frm),.arr 2 false 0 [.agg [I (nth l j).time,.ref H.length 0 (nth l j).frm.length]]]⟩,?_,_,rfl,?_⟩
   · generalize hx:nth l j=w at*
     obtain⟨time,frm⟩:=w
     simp only[ints]at*
     clear rs hA
     simp(disch:=omega)only[go_sem,K.jm,↓reduceIte,hx,c,e0,e1,e2,e3,e5,el,dT,cF,fo,sk,dF,yA,n5,OY,OZ,bg,List.length_set,Nat.add_assoc,Nat.sub_zero,Nat.reduceAdd,Nat.reduceSub]
   · have old_:∀(o o':Obj) (t:ai) (i:Nat),i<H.length→i≠3→i≠5→((H.set 5 o).set 3 o'++t)[i]?=H[i]?:=fun o o' t i h1 h2 h3=>by
      rw[List.getElem?_append_left (by simp;exact h1),bg (fun e=>h2 e.symm),bg (fun e=>h3 e.symm)]
     have new_:∀(o o':Obj) (t:ai) (k:Nat),((H.set 5 o).set 3 o'++t)[H.length+k]?=t[k]?:=fun o o' t k=>by
      rw[List.getElem?_append_right (by simp)];simp
     refine⟨by simp;omega,?_,?_,?_,?_,?_,?_⟩
     · rw[old_ _ _ _ 0 (by omega) (by omega) (by omega)];exact e0
     · rw[old_ _ _ _ 1 (by omega) (by omega) (by omega)];exact e1
     · rw[old_ _ _ _ 2 (by omega) (by omega) (by omega)];exact e2
     · rw[List.getElem?_append_left (by simp;omega),de (by simp;omega)]
     · rw[List.getElem?_append_left (by simp;omega),bg (by omega),de (by omega),rs]
     · intro i hi
       by_cases c:i<j
       · rw[old_ _ _ _ _ (by omega) (by omega) (by omega)];exact hA i c
       · have:i=j:=by omega
         subst this
         rw[show 6+2*i=H.length+0 by omega,new_];rfl
 · rintro st ⟨H,rfl,hlen,e0,e1,e2,e3,e5,hA⟩
   refine⟨(.exit 0,⟨[.und,.bp 0 0,.bp 1 0,.bp 3 0,I l.length],H⟩),?_,by simp,H,rfl,e1,e2,e3,e5,hA⟩
   simp(disch:=omega)only[go_sem,K.jm,↓reduceIte,e0,Nat.reduceAdd,Nat.reduceSub]
theorem Pl{H:ai}{x:World}(h2:H[2]?=some (.arr 1 false 0 (ints x.tags)))(h5:H[5]?=some (.arr 2 false 0 ((List.range x.whr.length).map (wEl (fun j=>6+2*j) x.whr))))(hA:∀i,i<x.whr.length→H[6+2*i]?=some (wOb (nth x.whr i))):
 finish 0 2 H [.agg [.ref 2 0 x.tags.length,.ref 5 0 x.whr.length]]=some (.agg [.ref 0 0 x.tags.length,.ref 1 0 x.whr.length],cwH 0 x):=by
 have nd:([2,5]++(List.range x.whr.length).map (fun j=>6+2*j)).Nodup:=by
  have h:([2,5]++(List.range x.whr.length).map (fun j=>6+2*j)).Pairwise (· < ·):=by
   rw[List.pairwise_append]
   refine⟨by simp,?_,?_⟩
   · rw[List.pairwise_map]
     exact List.Pairwise.imp (fun{a b} hab=>by have:a<b:=hab;omega) List.pairwise_lt_range
   · intro a ha b hb
     obtain⟨j,_,rfl⟩:=List.mem_map.1 hb
     simp only[List.mem_cons,List.not_mem_nil,or_false]at ha
     omega
  exact h.imp fun hab=>Nat.ne_of_lt hab
 have ix:∀j,j<x.whr.length→idxOf ([2,5]++(List.range x.whr.length).map (fun j=>6+2*j)) (6+2*j)=some (0+2+j):=fun j hj=>
  iL _ _ _ nd (by
   rw[show 0+2+j=j+2 by omega]
   simp only[List.cons_append,List.nil_append,List.getElem?_cons_succ,List.getElem?_map,List.getElem?_range hj,Option.map_some])
 refine LH (L0:=[2,5]) (L1:=(List.range x.whr.length).map (fun j=>6+2*j)) (O0:=[.arr 1 false 0 (ints x.tags),.arr 2 false 0 ((List.range x.whr.length).map (wEl (fun j=>6+2*j) x.whr))]) (O1:=x.whr.map wOb)
  (O0':=[.arr 1 false 0 (ints x.tags),.arr 2 false 0 ((List.range x.whr.length).map (wEl (fun j=>0+2+j) x.whr))]) rfl rfl ?_ ?_ nd ?_ (D5 _) ?_ ?_
 · simp only[pick,h2,h5,Option.bind_some,Option.map_some]
 · have e1:(ints x.tags).flatMap (ids depth)=[]:=by
    rw[List.flatMap_eq_nil_iff]
    intro d hd
    unfold ints at hd
    obtain⟨t,_,rfl⟩:=List.mem_map.1 hd
    rfl
   simp only[jA,List.flatMap_cons,List.flatMap_nil,h2,h5,Obj.ds,e1,Pk,List.nil_append,List.append_nil]
 · refine qt (by simp) fun k i o hk ho=>?_
   have hl:k<x.whr.length:=by
    have:=(List.getElem?_eq_some_iff.1 ho).1
    simpa using this
   rw[List.getElem?_map,List.getElem?_range hl]at hk
   rw[List.getElem?_map,fQ hl]at ho
   simp only[Option.map_some,Option.some.injEq]at hk ho
   subst hk;subst ho
   exact hA k hl
 · have i0:idxOf ([2,5]++(List.range x.whr.length).map (fun j=>6+2*j)) 2=some 0:=rfl
   have i1:idxOf ([2,5]++(List.range x.whr.length).map (fun j=>6+2*j)) 5=some 1:=rfl
   simp only[ren,depth,bA,i0,i1,Option.map_some,Option.bind_some]
 · have:=Ix (f:=idxOf ([2,5]++(List.range x.whr.length).map (fun j=>6+2*j))) (g:=fun j=>6+2*j) (h:=fun j=>0+2+j) (l:=x.whr) ix
   simp only[bA,bY,ints,vJ,this,Option.map_some,Option.bind_some]
theorem D6(x:World)(h:x.sz):aE 2 N.b9 [.t x.e] []=some (.agg [.ref 0 0 x.tags.length,.ref 1 0 x.whr.length],cwH 0 x):=by
 refine ak K.j3 rfl ?_
 obtain⟨q,hq,H,rfl,e1,e2,e3,e5,hA⟩:=RY x h (.t x.e)
 have fin:=Pl (H:=H.set 1 (.box [.ref 2 0 x.tags.length,.ref 5 0 x.whr.length])) (x:=x) (by rw[bg (by omega)];exact e2) (by rw[bg (by omega)];exact e5) (fun i hi=>by rw[bg (by omega)];exact hA i hi)
 have hl:=gM e1
 obtain⟨tags,l⟩:=x
 obtain⟨h1,h2,h3⟩:=h
 simp only[ints]at*
 simp(disch:=omega)only[go_sem,K.b9,↓reduceIte,hq,e1,e2,e3,de,fin,Nat.reduceAdd,Nat.reduceSub]
def kY(b:Nat)(ws:List World):Nat→Nat
 | 0=>b
 | i+1=>kY b ws i+3+(nth ws i).whr.length
theorem yK(b:Nat)(ws:List World){i j:Nat}(h:i<j):kY b ws i+3+(nth ws i).whr.length≤kY b ws j:=by
 induction j with
 | zero=>omega
 | succ j ih=>
   rw[kY]
   by_cases c:i=j
   · subst c;omega
   · have:=ih (by omega);omega
theorem yL(b:Nat)(ws:List World):∀i,b≤kY b ws i
 | 0=>Nat.le_refl _
 | i+1=>by have:=yL b ws i;rw[kY];omega
def D7(f:Nat→Nat×Nat)(ws:List World)(i:Nat):D:= .agg [.ref (f i).1 0 (nth ws i).tags.length,.ref (f i).2 0 (nth ws i).whr.length]
theorem acy(s:Nat)(x:World){k:Nat}(hk:k<x.whr.length):(cwH s x)[2+k]?=some (wOb (nth x.whr k)):=by
 unfold cwH
 rw[show 2+k=k+2 by omega,List.getElem?_cons_succ,List.getElem?_cons_succ,List.getElem?_map,fQ hk];rfl
theorem RZ(l:List World)(h1:l.length≤1000000)(h2:∀x∈l,x.sz)(a:D):∃q,exS aE K.sq ⟨[a,.bp 0 0,.bp 1 0,.bp 2 0,I 0],[.box [.t (tX l)],.box [.nil],.box [.ref 3 0 0],.arr 2 false 0 []]⟩=some q∧
 ∃H,q=(.exit 0,⟨[.und,.bp 0 0,.bp 1 0,.bp 2 0,I l.length],H⟩)∧H[1]?=some (.box [.nil])∧H[2]?=some (.box [.ref 3 0 l.length])∧
  H[3]?=some (.arr 2 false 0 ((List.range l.length).map (D7 (fun i=>(kY 4 l i,kY 4 l i+1)) l)))∧
  (∀i,i<l.length→∀k,k<2+(nth l i).whr.length→H[kY 4 l i+k]?=(cwH (kY 4 l i) (nth l i))[k]?):=by
 refine xJ (fun j st=>∃H,st=⟨[.und,.bp 0 0,.bp 1 0,.bp 2 0,I j],H⟩∧H.length=kY 4 l j∧H[0]?=some (.box [.t (tX l)])∧H[1]?=some (.box [.nil])∧H[2]?=some (.box [.ref 3 0 j])∧
  H[3]?=some (.arr 2 false 0 ((List.range j).map (D7 (fun i=>(kY 4 l i,kY 4 l i+1)) l)))∧
  (∀i,i<j→∀k,k<2+(nth l i).whr.length→H[kY 4 l i+k]?=(cwH (kY 4 l i) (nth l i))[k]?)) l.length _ ?_ ?_ ?_
 · exact⟨_,rfl,rfl,rfl,rfl,rfl,rfl,fun i hi=>absurd hi (by omega)⟩
 · rintro j st hj ⟨H,rfl,hlen,e0,e1,e2,e3,hA⟩
   have g:(l.map World.e)[j]?=some (nth l j).e:=bP _ hj
   have c:=D6 (nth l j) (h2 _ (ae hj))
   have rs:(List.range (j+1)).map (D7 (fun i=>(kY 4 l i,kY 4 l i+1)) l)=(List.range j).map (D7 (fun i=>(kY 4 l i,kY 4 l i+1)) l)++[.agg [.ref H.length 0 (nth l j).tags.length,.ref (H.length+1) 0 (nth l j).whr.length]]:=by
    rw[List.range_succ,List.map_append,hlen];rfl
   have el:((List.range j).map (D7 (fun i=>(kY 4 l i,kY 4 l i+1)) l)).length=j:=by simp
   generalize (List.range j).map (D7 (fun i=>(kY 4 l i,kY 4 l i+1)) l)=es at*
   have h4:=yL 4 l j
   have bp:=RX H (nth l j) (nth l j).tags.length (nth l j).whr.length
   have cl:=acx H.length (nth l j)
   have k0:(H++cwH H.length (nth l j))[0]?=some (.box [.t (tX l)]):=by rw[List.getElem?_append_left (by omega)];exact e0
   have k1:(H++cwH H.length (nth l j))[1]?=some (.box [.nil]):=by rw[List.getElem?_append_left (by omega)];exact e1
   have k2:(H++cwH H.length (nth l j))[2]?=some (.box [.ref 3 0 j]):=by rw[List.getElem?_append_left (by omega)];exact e2
   have k3:(H++cwH H.length (nth l j))[3]?=some (.arr 2 false 0 es):=by rw[List.getElem?_append_left (by omega)];exact e3
   have kl:(H++cwH H.length (nth l j)).length=H.length+(2+(nth l j).whr.length):=by rw[List.length_append,cl]
   have kA:∀i,i<j+1→∀k,k<2+(nth l i).whr.length→(H++cwH H.length (nth l j))[kY 4 l i+k]?=(cwH (kY 4 l i) (nth l i))[k]?:=by
    intro i hi k hk
    by_cases ci:i<j
    · have:=yK 4 l ci
      rw[List.getElem?_append_left (by omega)]
      exact hA i ci k hk
    · have:i=j:=by omega
      subst this
      rw[hlen,List.getElem?_append_right (by omega),show kY 4 l i+k-H.length=k by omega]
   generalize hG:H++cwH H.length (nth l j)=G at*
   refine⟨⟨[.und,.bp 0 0,.bp 1 0,.bp 2 0,I (j+1)],(G.set 3 (.arr 2 false 0 (es++[.agg [.ref H.length 0 (nth l j).tags.length,.ref (H.length+1) 0 (nth l j).whr.length]]))).set 2 (.box [.ref 3 0 (j+1)])++[.arr 2 false 0 [.agg [.ref H.length 0 (nth l j).tags.length,.ref (H.length+1) 0 (nth l j).whr.length]]]⟩,?_,_,rfl,?_⟩
   · clear rs hA hG kA cl
     generalize nth l j=x at*
     obtain⟨tags,whr⟩:=x
     simp(disch:=omega)only[go_sem,K.mJ,↓reduceIte,g,c,bp,e0,e1,e2,e3,k0,k1,k2,k3,el,dT,cF,fo,sk,dF,yA,n5,OY,OZ,bg,List.length_set,Nat.add_assoc,Nat.sub_zero,Nat.reduceAdd,Nat.reduceSub]
   · have old_:∀(o o':Obj) (t:ai) (i:Nat),i<G.length→i≠2→i≠3→((G.set 3 o).set 2 o'++t)[i]?=G[i]?:=fun o o' t i h1 h2 h3=>by
      rw[List.getElem?_append_left (by simp;exact h1),bg (fun e=>h2 e.symm),bg (fun e=>h3 e.symm)]
     refine⟨by simp[kl,kY];omega,?_,?_,?_,?_,?_⟩
     · rw[old_ _ _ _ 0 (by omega) (by omega) (by omega)];exact k0
     · rw[old_ _ _ _ 1 (by omega) (by omega) (by omega)];exact k1
     · rw[List.getElem?_append_left (by simp;omega),de (by simp;omega)]
     · rw[List.getElem?_append_left (by simp;omega),bg (by omega),de (by omega),rs]
     · intro i hi k hk
       have h4:=yL 4 l i
       have lt:kY 4 l i+k<G.length:=by
        by_cases ci:i<j
        · have:=yK 4 l ci;omega
        · have:i=j:=by omega
          subst this;omega
       rw[old_ _ _ _ _ lt (by omega) (by omega)]
       exact kA i hi k hk
 · rintro st ⟨H,rfl,hlen,e0,e1,e2,e3,hA⟩
   refine⟨(.exit 0,⟨[.und,.bp 0 0,.bp 1 0,.bp 2 0,I l.length],H⟩),?_,by simp,H,rfl,e1,e2,e3,hA⟩
   simp(disch:=omega)only[go_sem,K.mJ,↓reduceIte,e0,Nat.reduceAdd,Nat.reduceSub]
def qb(ws:List World):Nat→Nat
 | 0=>0
 | i+1=>qb ws i+(nth ws i).whr.length
theorem uf{α:Type}(ws:List World)(f:Nat→List α)(hf:∀i,(f i).length=(nth ws i).whr.length):∀n,((List.range n).flatMap f).length=qb ws n∧∀i,i<n→∀j,j<(nth ws i).whr.length→((List.range n).flatMap f)[qb ws i+j]?=(f i)[j]?
 | 0=>⟨rfl,fun i hi=>absurd hi (by omega)⟩
 | n+1=>by
   obtain⟨h1,h2⟩:=uf ws f hf n
   rw[List.range_succ,List.flatMap_append]
   simp only[List.flatMap_cons,List.flatMap_nil,List.append_nil]
   refine⟨by rw[List.length_append,h1,hf,qb],?_⟩
   intro i hi j hj
   by_cases c:i<n
   · have h3:=h2 i c j hj
     have:(f i)[j]?.isSome:=by rw[List.getElem?_eq_getElem (by rw[hf];exact hj)];rfl
     have lt:qb ws i+j<((List.range n).flatMap f).length:=by
      rcases Nat.lt_or_ge (qb ws i+j) ((List.range n).flatMap f).length with h | h
      · exact h
      · rw[List.getElem?_eq_none h]at h3;rw[← h3]at this;simp at this
     rw[List.getElem?_append_left lt,h3]
   · have:i=n:=by omega
     subst this
     rw[List.getElem?_append_right (by omega),h1,show qb ws i+j-qb ws i=j by omega]
def Mj(s:Nat)(ws:List World)(k:Nat):Obj:=if k % 2=0 then .arr 1 false 0 (ints (nth ws (k / 2)).tags)else .arr 2 false 0 ((List.range (nth ws (k / 2)).whr.length).map (wEl (fun j=>s+1+2*ws.length+qb ws (k / 2)+j) (nth ws (k / 2)).whr))
def cbW(ws:List World):ai:=(List.range ws.length).flatMap fun i=>(nth ws i).whr.map wOb
def cbH(s:Nat)(ws:List World):ai:=[.arr 2 false 0 ((List.range ws.length).map (D7 (fun i=>(s+1+2*i,s+2+2*i)) ws))]++((List.range (2*ws.length)).map (Mj s ws)++cbW ws)
theorem J5(ws:List World):∀o∈cbW ws,GB o:=by
 intro o ho
 obtain⟨i,_,h⟩:=List.mem_flatMap.1 ho
 exact D5 _ o h
theorem J6{f:Nat→Option Nat}{g h:Nat→Nat×Nat}{ws:List World}(hf:∀j,j<ws.length→f (g j).1=some (h j).1∧f (g j).2=some (h j).2):bA (ren f depth) ((List.range ws.length).map (D7 g ws))=some ((List.range ws.length).map (D7 h ws)):=
 kL fun j hj=>by
  have:=hf j (List.mem_range.1 hj)
  simp only[D7,depth,ren,bA,this.1,this.2,Option.map_some,Option.bind_some]
def acz(ws:List World)(k:Nat):Obj:=if k % 2=0 then .arr 1 false 0 (ints (nth ws (k / 2)).tags)else .arr 2 false 0 ((List.range (nth ws (k / 2)).whr.length).map (wEl (fun j=>kY 4 ws (k / 2)+2+j) (nth ws (k / 2)).whr))
theorem TG{f:Nat→Option Nat}{g h:Nat→Nat→Nat}{ws:List World}(k:Nat)(hf:∀j,j<(nth ws (k / 2)).whr.length→f (g (k / 2) j)=some (h (k / 2) j)):
 bY f (if k % 2=0 then .arr 1 false 0 (ints (nth ws (k / 2)).tags)else .arr 2 false 0 ((List.range (nth ws (k / 2)).whr.length).map (wEl (g (k / 2)) (nth ws (k / 2)).whr)))=
 some (if k % 2=0 then .arr 1 false 0 (ints (nth ws (k / 2)).tags)else .arr 2 false 0 ((List.range (nth ws (k / 2)).whr.length).map (wEl (h (k / 2)) (nth ws (k / 2)).whr))):=by
 split
 · simp only[bY,ints,vJ,Option.map_some]
 · have:=Ix (f:=f) (g:=g (k / 2)) (h:=h (k / 2)) (l:=(nth ws (k / 2)).whr) hf
   simp only[bY,this,Option.map_some]
theorem acA(s:Nat)(ws:List World):bA (bY (bJ [] s)) (cbH 0 ws)=some (cbH s ws):=by
 have h0:=J6 (f:=bJ [] s) (g:=fun i=>(0+1+2*i,0+2+2*i)) (h:=fun i=>(s+1+2*i,s+2+2*i)) (ws:=ws) (fun j _=>⟨by simp[bJ];omega,by simp[bJ];omega⟩)
 have h1:bA (bY (bJ [] s)) ((List.range (2*ws.length)).map (Mj 0 ws))=some ((List.range (2*ws.length)).map (Mj s ws)):=kL fun k _=>
  TG (f:=bJ [] s) (g:=fun i j=>0+1+2*ws.length+qb ws i+j) (h:=fun i j=>s+1+2*ws.length+qb ws i+j) k (fun j _=>by simp[bJ];omega)
 have h2:bA (bY (bJ [] s)) (cbW ws)=some (cbW ws):=vR fun o ho=>Ae (J5 ws o ho)
 refine ph ?_ (ph h1 h2)
 simp only[bA,bY,h0,Option.map_some,Option.bind_some]
theorem R0(H:ai)(ws:List World)(n:Nat):sV H (.agg [.ref 0 0 n],cbH 0 ws)=some (.agg [.ref H.length 0 n],H++cbH H.length ws):=by
 have e:sV H (.agg [.ref 0 0 n],cbH 0 ws)=(ren (bJ [] H.length) depth (.agg [.ref 0 0 n])).bind fun r'=>(bA (bY (bJ [] H.length)) (cbH 0 ws)).map fun os=>(r',H++os):=by
  unfold sV
  rw[if_neg (by simp[cbH])]
 rw[e,acA]
 simp[ren,depth,bA,bJ]
def B0(ws:List World):List Nat:=(List.range (2*ws.length)).map fun k=>if k % 2=0 then kY 4 ws (k / 2)else kY 4 ws (k / 2)+1
def Mk(ws:List World):List Nat:=(List.range ws.length).flatMap fun i=>(List.range (nth ws i).whr.length).map fun j=>kY 4 ws i+2+j
theorem J7{H:ai}:∀ {a b:List Nat} {x y:ai},pick H a=some x→pick H b=some y→pick H (a++b)=some (x++y)
 | [],b,x,y,hx,hy=>by cases hx;exact hy
 | i::a,b,x,y,hx,hy=>by
   simp only[pick]at hx
   cases ho:H[i]? with
   | none=>rw[ho]at hx;simp at hx
   | some o=>
     rw[ho,Option.bind_some]at hx
     cases hp:pick H a with
     | none=>rw[hp]at hx;simp at hx
     | some z=>
       rw[hp]at hx
       simp only[Option.map_some,Option.some.injEq]at hx
       subst hx
       simp only[List.cons_append,pick,ho,Option.bind_some,J7 hp hy,Option.map_some]
theorem J8{ws:List World}{x:Nat}(h:x∈B0 ws):∃i c,i<ws.length∧c<2∧x=kY 4 ws i+c:=by
 obtain⟨k,hk,rfl⟩:=List.mem_map.1 h
 have hk:=List.mem_range.1 hk
 refine⟨k / 2,k % 2,by omega,by omega,?_⟩
 split<;>omega
theorem R1{ws:List World}{x:Nat}(h:x∈Mk ws):∃i j,i<ws.length∧j<(nth ws i).whr.length∧x=kY 4 ws i+2+j:=by
 obtain⟨i,hi,h⟩:=List.mem_flatMap.1 h
 obtain⟨j,hj,rfl⟩:=List.mem_map.1 h
 exact⟨i,j,List.mem_range.1 hi,List.mem_range.1 hj,rfl⟩
theorem Af(ws:List World):(([3]++B0 ws)++Mk ws).Nodup:=by
 have n1:(B0 ws).Pairwise (· < ·):=by
  unfold B0
  rw[List.pairwise_map]
  refine List.Pairwise.imp (fun{a b} hab=>?_) List.pairwise_lt_range
  have hab:a<b:=hab
  by_cases c:a / 2=b / 2
  · rw[c,if_pos (by omega),if_neg (by omega)];omega
  · have:=yK 4 ws (i:=a / 2) (j:=b / 2) (by omega)
    split<;>split<;>omega
 have n2:(Mk ws).Pairwise (· < ·):=by
  unfold Mk
  rw[List.pairwise_flatMap]
  constructor
  · intro i _
    rw[List.pairwise_map]
    exact List.Pairwise.imp (fun{a b} hab=>by have:a<b:=hab;omega) List.pairwise_lt_range
  · refine List.Pairwise.imp (fun{a b} hab=>?_) List.pairwise_lt_range
    intro x hx y hy
    obtain⟨i,hi,rfl⟩:=List.mem_map.1 hx
    obtain⟨j,hj,rfl⟩:=List.mem_map.1 hy
    have:=yK 4 ws (i:=a) (j:=b) hab
    have:=List.mem_range.1 hi
    omega
 rw[List.nodup_append]
 refine⟨?_,n2.imp fun h=>Nat.ne_of_lt h,?_⟩
 · rw[List.singleton_append,List.nodup_cons]
   refine⟨fun h=>?_,n1.imp fun h=>Nat.ne_of_lt h⟩
   obtain⟨i,c,_,_,e⟩:=J8 h
   have:=yL 4 ws i
   omega
 · intro a ha b hb e
   subst e
   obtain⟨i,j,hi,hj,e⟩:=R1 hb
   have h4:=yL 4 ws i
   rw[List.singleton_append,List.mem_cons]at ha
   rcases ha with rfl | ha
   · omega
   · obtain⟨p,c,hp,hc,e2⟩:=J8 ha
     rcases Nat.lt_trichotomy i p with h | h | h
     · have:=yK 4 ws h;omega
     · subst h;omega
     · have:=yK 4 ws h;omega
theorem acB(ws:List World){i:Nat}(hi:i<ws.length):idxOf (([3]++B0 ws)++Mk ws) (kY 4 ws i)=some (0+1+2*i)∧idxOf (([3]++B0 ws)++Mk ws) (kY 4 ws i+1)=some (0+2+2*i):=by
 have l1:(B0 ws).length=2*ws.length:=by simp[B0]
 constructor
 · refine iL _ _ _ (Af ws) ?_
   rw[List.getElem?_append_left (by simp[l1];omega),show 0+1+2*i=2*i+1 by omega,List.singleton_append,List.getElem?_cons_succ]
   unfold B0
   rw[List.getElem?_map,List.getElem?_range (by omega)]
   simp only[Option.map_some]
   rw[if_pos (by omega),show 2*i / 2=i by omega]
 · refine iL _ _ _ (Af ws) ?_
   rw[List.getElem?_append_left (by simp[l1];omega),show 0+2+2*i=(2*i+1)+1 by omega,List.singleton_append,List.getElem?_cons_succ]
   unfold B0
   rw[List.getElem?_map,List.getElem?_range (by omega)]
   simp only[Option.map_some]
   rw[if_neg (by omega),show(2*i+1) / 2=i by omega]
theorem acC(ws:List World){i j:Nat}(hi:i<ws.length)(hj:j<(nth ws i).whr.length):idxOf (([3]++B0 ws)++Mk ws) (kY 4 ws i+2+j)=some (0+1+2*ws.length+qb ws i+j):=by
 have l1:(B0 ws).length=2*ws.length:=by simp[B0]
 refine iL _ _ _ (Af ws) ?_
 rw[List.getElem?_append_right (by simp[l1];omega)]
 have e:0+1+2*ws.length+qb ws i+j-([3]++B0 ws).length=qb ws i+j:=by simp[l1];omega
 rw[e]
 have:=(uf ws (fun i=>(List.range (nth ws i).whr.length).map fun j=>kY 4 ws i+2+j) (fun i=>by simp) ws.length).2 i hi j hj
 unfold Mk
 rw[this,List.getElem?_map,List.getElem?_range hj];rfl
theorem Pm{H:ai}{ws:List World}(h3:H[3]?=some (.arr 2 false 0 ((List.range ws.length).map (D7 (fun i=>(kY 4 ws i,kY 4 ws i+1)) ws))))
 (hA:∀i,i<ws.length→∀k,k<2+(nth ws i).whr.length→H[kY 4 ws i+k]?=(cwH (kY 4 ws i) (nth ws i))[k]?):
 finish 0 3 H [.agg [.ref 3 0 ws.length]]=some (.agg [.ref 0 0 ws.length],cbH 0 ws):=by
 have g0:∀i,i<ws.length→H[kY 4 ws i]?=some (.arr 1 false 0 (ints (nth ws i).tags)):=fun i hi=>by have:=hA i hi 0 (by omega);exact this
 have g1:∀i,i<ws.length→H[kY 4 ws i+1]?=some (.arr 2 false 0 ((List.range (nth ws i).whr.length).map (wEl (fun j=>kY 4 ws i+2+j) (nth ws i).whr))):=fun i hi=>by have:=hA i hi 1 (by omega);exact this
 have g2:∀i,i<ws.length→∀j,j<(nth ws i).whr.length→H[kY 4 ws i+2+j]?=some (wOb (nth (nth ws i).whr j)):=fun i hi j hj=>by
  have:=hA i hi (2+j) (by omega)
  rw[acy _ _ hj]at this
  rw[← this];congr 1;omega
 have e1:∀l:List Int,(ints l).flatMap (ids depth)=[]:=by
  intro l
  rw[List.flatMap_eq_nil_iff]
  intro d hd
  unfold ints at hd
  obtain⟨t,_,rfl⟩:=List.mem_map.1 hd
  rfl
 have i3:idxOf (([3]++B0 ws)++Mk ws) 3=some 0:=rfl
 refine LI (L0:=[3]) (L1:=B0 ws) (L2:=Mk ws) (O0:=[.arr 2 false 0 ((List.range ws.length).map (D7 (fun i=>(kY 4 ws i,kY 4 ws i+1)) ws))]) (O1:=(List.range (2*ws.length)).map (acz ws)) (O2:=cbW ws)
  (O0':=[.arr 2 false 0 ((List.range ws.length).map (D7 (fun i=>(0+1+2*i,0+2+2*i)) ws))]) (O1':=(List.range (2*ws.length)).map (Mj 0 ws)) rfl rfl ?_ ?_ ?_ ?_ (Af ws) ?_ (J5 ws) ?_ ?_ ?_
 · simp only[pick,h3,Option.bind_some,Option.map_some]
 · simp only[jA,List.flatMap_cons,List.flatMap_nil,h3,Obj.ds,List.append_nil,List.flatMap_map]
   unfold B0
   have:=ud (fun i=>kY 4 ws i) (fun i=>kY 4 ws i+1) ws.length
   exact this
 · refine qt (by simp[B0]) fun k i o hk ho=>?_
   have hl:k<2*ws.length:=by
    have:=(List.getElem?_eq_some_iff.1 ho).1
    simpa using this
   unfold B0 at hk
   rw[List.getElem?_map,List.getElem?_range hl]at hk ho
   simp only[Option.map_some,Option.some.injEq]at hk ho
   subst hk;subst ho
   unfold acz
   split
   · exact g0 _ (by omega)
   · exact g1 _ (by omega)
 · have key:∀n,n≤ws.length→((List.range (2*n)).map fun k=>if k % 2=0 then kY 4 ws (k / 2)else kY 4 ws (k / 2)+1).flatMap (fun i=>match H[i]? with | some o=>o.ds.flatMap (ids depth) | none=>[])=(List.range n).flatMap fun i=>(List.range (nth ws i).whr.length).map fun j=>kY 4 ws i+2+j:=by
    intro n
    induction n with
    | zero=>intro _;rfl
    | succ n ih=>
      intro hn
      have pm:=ud (fun i=>kY 4 ws i) (fun i=>kY 4 ws i+1) (n+1)
      have pm0:=ud (fun i=>kY 4 ws i) (fun i=>kY 4 ws i+1) n
      have ih:=ih (by omega)
      rw[← pm0]at ih
      rw[← pm,List.range_succ,List.flatMap_append,List.flatMap_append,ih,List.flatMap_append]
      congr 1
      simp only[List.flatMap_cons,List.flatMap_nil,List.append_nil,List.cons_append,List.nil_append,g0 n (by omega),g1 n (by omega),Obj.ds,e1,Pk]
   exact key ws.length (Nat.le_refl _)
 · have f1:=uf ws (fun i=>(List.range (nth ws i).whr.length).map fun j=>kY 4 ws i+2+j) (fun i=>by simp) ws.length
   have f2:=uf ws (fun i=>(nth ws i).whr.map wOb) (fun i=>by simp) ws.length
   have key:∀n,n≤ws.length→pick H ((List.range n).flatMap fun i=>(List.range (nth ws i).whr.length).map fun j=>kY 4 ws i+2+j)=some ((List.range n).flatMap fun i=>(nth ws i).whr.map wOb):=by
    intro n
    induction n with
    | zero=>intro _;rfl
    | succ n ih=>
      intro hn
      have ih:=ih (by omega)
      rw[List.range_succ,List.flatMap_append,List.flatMap_append]
      refine J7 ih ?_
      simp only[List.flatMap_cons,List.flatMap_nil,List.append_nil]
      refine qt (by simp) fun k i o hk ho=>?_
      have hl:k<(nth ws n).whr.length:=by
       have:=(List.getElem?_eq_some_iff.1 ho).1
       simpa using this
      rw[List.getElem?_map,List.getElem?_range hl]at hk
      rw[List.getElem?_map,fQ hl]at ho
      simp only[Option.map_some,Option.some.injEq]at hk ho
      subst hk;subst ho
      exact g2 n (by omega) k hl
   exact key ws.length (Nat.le_refl _)
 · simp only[ren,depth,bA,i3,Option.map_some,Option.bind_some]
 · have:=J6 (f:=idxOf (([3]++B0 ws)++Mk ws)) (g:=fun i=>(kY 4 ws i,kY 4 ws i+1)) (h:=fun i=>(0+1+2*i,0+2+2*i)) (ws:=ws) (fun j hj=>acB ws hj)
   simp only[bA,bY,this,Option.map_some,Option.bind_some]
 · exact kL fun k hk=>by
    have hk:=List.mem_range.1 hk
    exact TG (f:=idxOf (([3]++B0 ws)++Mk ws)) (g:=fun i j=>kY 4 ws i+2+j) (h:=fun i j=>0+1+2*ws.length+qb ws i+j) k (fun j hj=>acC ws (by omega) hj)
theorem Iy(b:Bel)(h:b.sz):aE 3 N.eO [.t b.e] []=some (.agg [.ref 0 0 b.worlds.length],cbH 0 b.worlds):=by
 refine ak K.oK rfl ?_
 obtain⟨h1,h2⟩:=h
 obtain⟨q,hq,H,rfl,e1,e2,e3,hA⟩:=RZ b.worlds h1 h2 (.t b.e)
 have fin:=Pm (H:=H.set 1 (.box [.ref 3 0 b.worlds.length])) (ws:=b.worlds) (by rw[bg (by omega)];exact e3) (fun i hi k hk=>by have:=yL 4 b.worlds i;rw[bg (by omega)];exact hA i hi k hk)
 have hl:=gM e1
 obtain⟨l⟩:=b
 simp only at*
 simp(disch:=omega)only[go_sem,K.eO,↓reduceIte,hq,e1,e2,de,fin,Nat.reduceAdd,Nat.reduceSub]
end Go.Ev
namespace Go.Ev
open Go
variable [Lib] [bW] [bL] [fJ] [eY] [jB] [fM] [fN] [iI] [gu] [ec] [du] [iV] [eQ]
structure RnH(m:aM)(ws out:List World)(k9:Nat)(H:ai)(es:List D)(fa fb:Nat→Nat):Prop where
 e0:H[0]?=some (.box (aa m))
 e1:H[1]?=some (.box [.t (.sl (ws.map World.e))])
 e2:H[2]?=some (.box [.nil])
 e9:H[k9]?=some (.box [.ref 3 0 ws.length])
 rp:Rp H 3 es fa fb out
theorem Rp.Fx{H:ai}{id:Nat}{es:List D}{fa fb:Nat→Nat}{out:List World}(hr:Rp H id es fa fb out){k:Nat}{cs:List D}(hk:H[k]?=some (.box cs))(o:Obj):Rp (H.set k o) id es fa fb out:=by
 have ne:∀ {i:Nat} {sz ep:Nat} {p:Bool} {l:List D},H[i]?=some (.arr sz p ep l)→k≠i:=fun h e=>by rw[← e,hk]at h;cases h
 exact⟨by rw[bg (ne hr.arr)];exact hr.arr,hr.len,hr.el,fun j hj=>by rw[bg (ne (hr.ha j hj))];exact hr.ha j hj,fun j hj=>by rw[bg (ne (hr.hb j hj))];exact hr.hb j hj,hr.na,hr.nb,hr.nab,hr.nbb⟩
end Go.Ev
namespace Go.Ev
open Go
variable [Lib] [bW] [bL] [fJ] [eY] [jB] [fM] [fN] [iI] [gu]
end Go.Ev
namespace Go.Ev
open Go
variable [Lib] [bW] [bL] [fJ] [eY] [jB] [fM] [fN] [iI] [gu] [ec] [du] [iV] [eQ]
end Go.Ev
namespace Go.Ev
open Go
variable [Lib] [bW] [bL] [fJ] [eY] [jB] [fM] [fN] [iI] [gu] [ec] [du] [iV] [eQ] [iJ] [j4]
end Go.Ev
namespace Go.Ev
open Go
variable [Lib]
structure Edge where
 r:Nat
 a:Nat
 b:Nat
 t:Int
structure Lab where
 t:Int
 r:Int
 deriving DecidableEq
instance : Dat Edge := ⟨⟨0, 0, 0, 0⟩⟩
instance : Dat Lab := ⟨⟨0, 0⟩⟩
def xV(x y:Lab):Bool:=decide (x.t<y.t)||(decide (x.t=y.t)&&decide (x.r<y.r))
theorem Bx{x y:Lab}:xV x y=true↔x.t<y.t∨x.t=y.t∧x.r<y.r:=by
 simp[xV]
theorem Pn{x y:Lab}:xV x y=false↔¬(x.t<y.t∨x.t=y.t∧x.r<y.r):=by
 rw[← Bx,Bool.not_eq_true]
def R2(L:List Lab)(e:Edge):Lab:=⟨(nth L e.b).t+e.t,(nth L e.b).r+1⟩
def aeN(F:Int)(u:Edge→Bool)(L:List Lab)(e:Edge):Bool:=u e&&decide ((nth L e.b).t<F)&&xV (R2 L e) (nth L e.a)
def aiW(F:Int)(u:Edge→Bool)(L:List Lab)(e:Edge):List Lab:=if aeN F u L e then L.set e.a (R2 L e)else L
def aeO(F:Int)(u:Edge→Bool)(E:List Edge)(L:List Lab)(c:Bool):Nat→List Lab×Bool
 | 0=>(L,c)
 | j+1=>(aiW F u (aeO F u E L c j).1 (nth E j),(aeO F u E L c j).2||aeN F u (aeO F u E L c j).1 (nth E j))
structure aiX(F:Int)(n:Nat)(L:List Lab):Prop where
 l:L.length=n
 t0:∀p,p<n→0≤(nth L p).t
 t1:∀p,p<n→(nth L p).t≤F
 r0:∀p,p<n→0≤(nth L p).r
 r1:∀p,p<n→(nth L p).r≤(nth L p).t
def Edge.ok(n:Nat)(e:Edge):Prop:=e.a<n∧e.b<n∧1≤e.t∧e.t≤1000000
def wL(F:Int)(x:Lab):Nat:=(x.t*(F+1)+x.r).toNat
def aiY(F:Int)(L:List Lab):Nat:=(L.map (wL F)).sum
structure aiZ(F:Int)(n:Nat)(E:List Edge)(u:Edge→Bool)(Z:Nat→Bool)(L:List Lab):Prop extends aiX F n L where
 z:∀p,p<n→Z p=true→nth L p=⟨0,0⟩
 w:∀p,p<n→(nth L p).t<F→Z p=true∨∃e∈E,u e=true∧e.a=p∧(nth L e.b).t<F∧xV (nth L p) (R2 L e)=false
structure aeP(F:Int)(n:Nat)(E:List Edge)(u:Edge→Bool)(Z:Nat→Bool)(L:List Lab):Prop extends aiZ F n E u Z L where
 fx:∀e∈E,aeN F u L e=false
def acD(F:Int)(u:Edge→Bool)(E:List Edge)(L:List Lab):List Lab:=iK (fun L=>aeO F u E L false E.length) (aiY F L+1) L
theorem aeP.eqn{F:Int}{n:Nat}{E:List Edge}{u:Edge→Bool}{Z:Nat→Bool}{L:List Lab}(h:aeP F n E u Z L)(hE:∀e∈E,e.ok n){p:Nat}(hp:p<n)(hf:(nth L p).t<F)(hz:Z p=false):∃e∈E,u e=true∧e.a=p∧(nth L e.b).t<F∧nth L p=R2 L e:=by
 rcases h.w p hp hf with h1 | ⟨e,he,e1,e2,e3,e4⟩
 · rw[hz]at h1;cases h1
 · refine⟨e,he,e1,e2,e3,?_⟩
   have fx:=h.fx e he
   unfold aeN at fx
   rw[e1,decide_eq_true e3,e2]at fx
   simp only[Bool.true_and]at fx
   rw[Pn]at fx e4
   have:∀x y:Lab,x.t=y.t→x.r=y.r→x=y:=fun x y a b=>by
    cases x;cases y;simp only at a b;rw[a,b]
   exact this _ _ (by omega) (by omega)
theorem Po{p q:Nat→Bool}(h:∀x,p x=true→q x=true){l:List Nat}{x:Nat}(hx:x∈l)(h1:q x=true)(h2:p x=false):l.countP p<l.countP q:=by
 have le:∀l:List Nat,l.countP p≤l.countP q:=fun l=>List.countP_mono_left (fun x _ hp=>h x hp)
 induction l with
 | nil=>cases hx
 | cons a l ih=>
   rw[List.countP_cons,List.countP_cons]
   have:=le l
   rcases List.mem_cons.1 hx with rfl | hx
   · rw[h1,h2];simp;omega
   · have:=ih hx
     cases hp:p a with
     | true=>rw[h a hp];simp;omega
     | false=>simp;omega
theorem aeP.time{F:Int}{n:Nat}{E:List Edge}{u:Edge→Bool}{Z:Nat→Bool}{L:List Lab}(h:aeP F n E u Z L)(hE:∀e∈E,e.ok n){p:Nat}(hp:p<n)(hf:(nth L p).t<F):(nth L p).t≤(n:Int)*1000000:=by
 have key:∀(k:Nat) (p:Nat),p<n→(nth L p).t.toNat=k→(nth L p).t<F→(nth L p).t≤((List.range n).countP (fun x=>xV (nth L x) (nth L p)):Int)*1000000:=by
  intro k
  induction k using Nat.strongRecOn with
  | ind k ih=>
    intro p hp hk hf
    by_cases hz:Z p=true
    · rw[h.z p hp hz]
      have:0≤((List.range n).countP (fun x=>xV (nth L x) ⟨0,0⟩):Int)*1000000:=Int.mul_nonneg (Int.natCast_nonneg _) (by omega)
      exact this
    · obtain⟨e,he,e1,e2,e3,e4⟩:=h.eqn hE hp hf (by simpa using hz)
      obtain⟨o1,o2,o3,o4⟩:=hE e he
      have ct:(nth L p).t=(nth L e.b).t+e.t:=by rw[e4];rfl
      have cr:(nth L p).r=(nth L e.b).r+1:=by rw[e4];rfl
      have b0:=h.t0 _ o2
      have:=ih (nth L e.b).t.toNat (by omega) e.b o2 rfl e3
      have lt:(List.range n).countP (fun x=>xV (nth L x) (nth L e.b))<(List.range n).countP (fun x=>xV (nth L x) (nth L p)):=by
       refine Po (fun x hx=>?_) (List.mem_range.2 o2) ?_ ?_
       · rw[Bx]at hx ⊢;omega
       · rw[Bx];omega
       · rw[Pn];omega
      generalize (List.range n).countP (fun x=>xV (nth L x) (nth L e.b))=c1 at*
      generalize (List.range n).countP (fun x=>xV (nth L x) (nth L p))=c2 at*
      omega
 have a:=key _ p hp rfl hf
 have b:(List.range n).countP (fun x=>xV (nth L x) (nth L p))≤n:=by
  have:=List.countP_le_length (p:=fun x=>xV (nth L x) (nth L p)) (l:=List.range n)
  simpa using this
 generalize (List.range n).countP (fun x=>xV (nth L x) (nth L p))=c at*
 omega
def ahh(u:Edge→Bool)(L:List Lab)(at':Nat)(e:Edge):Bool:=decide (e.a=at')&&u e&&decide (nth L e.b=⟨(nth L at').t-e.t,(nth L at').r-1⟩)
def ahi(u:Edge→Bool)(E:List Edge)(L:List Lab)(at':Nat):Option Edge:=E.find? (ahh u L at')
def acE(Z:Nat→Bool)(u:Edge→Bool)(E:List Edge)(L:List Lab):Nat→Nat→List Edge
 | 0,_=>[]
 | k+1,p=>if Z p then []else match ahi u E L p with
   | some e=>e::acE Z u E L k e.b
   | none=>[]
def TH:Nat→List Edge→Prop
 | _,[]=>True
 | p,e::l=>e.a=p∧TH e.b l
def aib:Nat→List Edge→Nat
 | p,[]=>p
 | _,e::l=>aib e.b l
structure aic(F:Int)(n:Nat)(E:List Edge)(u:Edge→Bool)(Z:Nat→Bool)(L:List Lab)(p:Nat)(l:List Edge):Prop where
 mem:∀e∈l,e∈E∧u e=true∧e.b<n
 chain:TH p l
 fin:Z (aib p l)=true
 sum:(l.map Edge.t).sum=(nth L p).t
 low:∀e∈l,(nth L e.b).r<(nth L p).r
 dis:(l.map Edge.b).Nodup
end Go.Ev
namespace Go.Ev.N
def LK:Nat:=334
def Ml:Nat:=335
def Mm:Nat:=336
def Xh:Nat:=337
def LL:Nat:=338
def Xi:Nat:=339
def Xj:Nat:=340
def Zv:Nat:=341
def Xk:Nat:=342
def Zw:Nat:=343
def Zx:Nat:=344
def aeQ:Nat:=345
def P3:Nat:=346
def Xl:Nat:=347
def Zy:Nat:=348
def Zz:Nat:=349
def Pp:Nat:=350
def R3:Nat:=351
def TI:Nat:=352
def TJ:Nat:=353
def Xm:Nat:=354
def P4:Nat:=355
def ZA:Nat:=356
def ZB:Nat:=357
def R4:Nat:=358
def TK:Nat:=359
def Xn:Nat:=360
def ZC:Nat:=361
def Xo:Nat:=362
def R5:Nat:=363
def Xp:Nat:=364
def ZD:Nat:=365
def ZE:Nat:=366
def ZF:Nat:=367
def ZG:Nat:=368
def LM:Nat:=369
def qc:Nat:=370
def wJ:Nat:=371
def R6:Nat:=372
def sD:Nat:=373
def R7:Nat:=374
def R8:Nat:=375
def Xq:Nat:=376
def Xr:Nat:=377
def P5:Nat:=378
def qD:Nat:=379
def uD:Nat:=380
def Pq:Nat:=381
def R9:Nat:=382
def Pr:Nat:=383
end Go.Ev.N
namespace Go.Ev.N
def Sa:Nat:=384
def P6:Nat:=385
def Ps:Nat:=386
def P7:Nat:=387
def Pt:Nat:=388
def Xs:Nat:=389
def Xt:Nat:=390
def ZH:Nat:=391
def Mn:Nat:=392
def Xu:Nat:=393
def Xv:Nat:=394
def Mo:Nat:=395
def ZI:Nat:=396
def Mp:Nat:=397
def LN:Nat:=398
def acF:Nat:=399
def ZJ:Nat:=400
def ZK:Nat:=401
def Pu:Nat:=402
def ZL:Nat:=403
def acG:Nat:=404
def ZM:Nat:=405
def ZN:Nat:=406
def acH:Nat:=407
def J9:Nat:=408
def Ka:Nat:=409
def ZO:Nat:=410
def acI:Nat:=411
def TL:Nat:=412
def EI:Nat:=413
def acJ:Nat:=414
def C5:Nat:=415
end Go.Ev.N
namespace Go.Ev.N
def GD:Nat:=416
def G9:Nat:=417
def Hc:Nat:=418
def GF:Nat:=419
def Xw:Nat:=420
def Mq:Nat:=421
def LO:Nat:=422
def TM:Nat:=423
def Mr:Nat:=424
def Ms:Nat:=425
def Xx:Nat:=426
def Mt:Nat:=427
def Kb:Nat:=428
def Mu:Nat:=429
def B1:Nat:=430
def Iz:Nat:=431
def acK:Nat:=432
def acL:Nat:=433
def ZP:Nat:=434
def Kc:Nat:=435
def ZQ:Nat:=436
def Kd:Nat:=437
def Xy:Nat:=438
def Xz:Nat:=439
def XA:Nat:=440
def TN:Nat:=441
def XB:Nat:=442
def XC:Nat:=443
def Ke:Nat:=444
def ZR:Nat:=445
def Sb:Nat:=446
def ZS:Nat:=447
def XD:Nat:=448
def ZT:Nat:=449
def XE:Nat:=450
def aeR:Nat:=451
def aeS:Nat:=452
def acM:Nat:=453
def GG:Nat:=454
def EJ:Nat:=455
def TO:Nat:=456
def acN:Nat:=457
def ZU:Nat:=458
def acO:Nat:=459
def Mv:Nat:=460
def uK:Nat:=461
def ZV:Nat:=462
def acP:Nat:=463
def IA:Nat:=464
def TP:Nat:=465
def LP:Nat:=466
def vr:Nat:=467
def Kf:Nat:=468
def Kg:Nat:=469
def acQ:Nat:=470
def P8:Nat:=471
end Go.Ev.N
namespace Go.Ev.K
open Go.Ev
end Go.Ev.K
namespace Go.Ev
class wC [Lib]:Prop where
namespace K
variable [Lib] [wC]
end K
end Go.Ev
namespace Go.Ev.K
open Go.Ev
end Go.Ev.K
namespace Go.Ev
class wD [Lib]:Prop where
namespace K
variable [Lib] [wD]
end K
end Go.Ev
namespace Go.Ev.K
open Go.Ev
end Go.Ev.K
namespace Go.Ev
class wE [Lib]:Prop where
namespace K
variable [Lib] [wE]
end K
end Go.Ev
namespace Go.Ev
open Go
variable [Lib] [bW] [bL] [fJ] [eY] [jB] [fM] [fN] [iI] [gu] [ec] [du] [iV] [eQ] [iJ] [j4] [wC] [wD] [wE]
structure Esc where
 safe:List Int
 bad:List Int
 shut:List Int
 limit:Int
instance : Dat Esc := ⟨⟨[], [], [], 0⟩⟩
abbrev Esc.e(e:Esc):T:= .agg [tL e.safe,tL e.bad,tL e.shut,tI e.limit]
structure Esc.ok(m:aM)(e:Esc):Prop where
 s:tw e.safe m.places.length=true
 b:tw e.bad m.places.length=true
 h:tw e.shut m.roads.length=true
 l0:0≤e.limit
 l1:e.limit≤2147483648
theorem Esc.ok.sl{m:aM}{e:Esc}(hm:m.ok)(h:e.ok m):e.safe.length≤64:=by
 have:=rA h.s;have:=hm.np;omega
theorem Esc.ok.bl{m:aM}{e:Esc}(hm:m.ok)(h:e.ok m):e.bad.length≤64:=by
 have:=rA h.b;have:=hm.np;omega
theorem Esc.ok.hl{m:aM}{e:Esc}(hm:m.ok)(h:e.ok m):e.shut.length≤128:=by
 have:=rA h.h;have:=hm.nr;omega
abbrev Sc(m:aM)(k:Nat)(back:Bool):Int:=eE m k back 2 3 4
abbrev Edge.e(e:Edge):T:= .agg [tI e.r,tI e.a,tI e.b,tI e.t]
abbrev Lab.e(x:Lab):T:= .agg [tI x.t,tI x.r]
def uB(sf bd:List Bool)(e:Edge):Bool:= !(nth sf e.a)&& !(nth bd e.b)
def ahj(F:Int)(sf:List Bool)(n j:Nat):List Lab:=(List.range n).map fun p=>if decide (p<j)&& !(nth sf p)then⟨F,0⟩else⟨0,0⟩
abbrev aid:Int:=1152921504606846976
def acR(E:List Edge)(sf bd:List Bool)(n:Nat):List Lab:=acD aid (uB sf bd) E (ahj aid sf n n)
abbrev ahk(sf:List Bool)(p:Nat):Bool:=nth sf p
def ai0(E:List Edge)(sf bd:List Bool)(n p:Nat):List Edge:=acE (ahk sf) (uB sf bd) E (acR E sf bd n) (nth (acR E sf bd n) p).r.toNat p
def aeT(l:List Bool)(xs:List Int):Nat→List Bool
 | 0=>l
 | j+1=>(aeT l xs j).set (nth xs j).toNat true
def ahl(m:aM):List Bool:=m.places.map Place.surf
def sfL(m:aM)(e:Esc):List Bool:=aeT (ahl m) e.safe e.safe.length
def bdL(m:aM)(e:Esc):List Bool:=aeT (List.replicate m.places.length false) e.bad e.bad.length
def ahm(m:aM)(e:Esc)(k:Nat):List Edge:=
 if(k:Int)∈e.shut then []else
  (if 0≤Sc m k false then [⟨k,(nth m.roads k).frm.toNat,(nth m.roads k).to.toNat,Sc m k false⟩]else [])++
  (if 0≤Sc m k true then [⟨k,(nth m.roads k).to.toNat,(nth m.roads k).frm.toNat,Sc m k true⟩]else [])
def TQ(m:aM)(e:Esc):Nat→List Edge
 | 0=>[]
 | j+1=>TQ m e j++ahm m e j
def acS(m:aM)(e:Esc):List Edge:=TQ m e m.roads.length
end Go.Ev
namespace Go.Ev
open Go
section
variable [Lib]
end
variable [Lib] [bW] [bL] [fJ] [eY] [jB] [fM] [fN] [iI] [gu] [ec] [du] [iV] [eQ] [iJ] [j4] [wC] [wD] [wE]
def ahn(l:List Int)(e:Edge):Bool:= !decide ((e.r:Int)∈l)
def ai1(l:List Int)(E:List Edge):List Edge:=E.filter (ahn l)
end Go.Ev
namespace Go.Ev
open Go
variable [Lib] [bW] [bL] [fJ] [eY] [jB] [fM] [fN] [iI] [gu] [ec] [du] [iV] [eQ] [iJ] [j4] [wC] [wD] [wE]
abbrev ai2(P:List Edge):List Int:=P.map fun e=>(e.r:Int)
abbrev aie(P:List Edge):List Int:=P.map fun e=>(e.b:Int)
def w1E(m:aM)(e:Esc)(p:Nat):List Edge:=ai0 (acS m e) (sfL m e) (bdL m e) m.places.length p
def bd2(m:aM)(e:Esc)(p:Nat):List Bool:=aeT (bdL m e) (aie (w1E m e p)) (aie (w1E m e p)).length
def st2(m:aM)(e:Esc)(p:Nat):List Edge:=ai1 (ai2 (w1E m e p)) (acS m e)
theorem Sd(m:aM)(hp:m.places.length≤1000000)(hr:m.roads.length≤1000000):aE 0 N.dO [.t m.e,.t m.e] []=some (B true,[]):=by
 refine ak K.nJ rfl ?_
 have l1:∀z0 z1 z4 z6:D,exS aE K.qw ⟨[z0,z1,.bp 0 0,.bp 1 0,z4,I 0,z6],[.box (aa m),.box (aa m)]⟩=
  some (.exit 0,⟨[.und,.und,.bp 0 0,.bp 1 0,.und,I m.places.length,.und],[.box (aa m),.box (aa m)]⟩):=by
  intro z0 z1 z4 z6
  refine bR (fun j=>⟨[.und,.und,.bp 0 0,.bp 1 0,.und,I j,.und],[.box (aa m),.box (aa m)]⟩) m.places.length rfl ?_ ?_ (by simp)
  · intro j hj
    have ex:(m.places.map Place.e)[j]?=some (nth m.places j).e:=bP _ hj
    generalize nth m.places j=x at*
    obtain⟨h,s⟩:=x
    obtain⟨places,roads⟩:=m
    simp only[aa]at*
    simp(disch:=omega)only[go_sem,K.lU,↓reduceIte,ex,decide_true,Bool.and_self,Bool.not_true,Nat.reduceAdd,Nat.reduceSub]
  · obtain⟨places,roads⟩:=m
    simp only[aa]at*
    simp(disch:=omega)only[go_sem,K.lU,↓reduceIte,Nat.reduceAdd,Nat.reduceSub]
 have l2:∀z0 z1 z4 z5:D,exS aE K.qx ⟨[z0,z1,.bp 0 0,.bp 1 0,z4,z5,I 0],[.box (aa m),.box (aa m)]⟩=
  some (.exit 2,⟨[.und,.und,.bp 0 0,.bp 1 0,.und,.und,I m.roads.length],[.box (aa m),.box (aa m)]⟩):=by
  intro z0 z1 z4 z5
  refine bR (fun j=>⟨[.und,.und,.bp 0 0,.bp 1 0,.und,.und,I j],[.box (aa m),.box (aa m)]⟩) m.roads.length rfl ?_ ?_ (by simp)
  · intro j hj
    have ex:(m.roads.map Road.e)[j]?=some (nth m.roads j).e:=bP _ hj
    generalize nth m.roads j=x at*
    obtain⟨frm,to,len,ar,walk,closed,rl,rh,ll,lh⟩:=x
    obtain⟨places,roads⟩:=m
    simp only[aa]at*
    simp(disch:=omega)only[go_sem,K.lV,↓reduceIte,ex,decide_true,Bool.and_self,Bool.not_true,Nat.reduceAdd,Nat.reduceSub]
  · obtain⟨places,roads⟩:=m
    simp only[aa]at*
    simp(disch:=omega)only[go_sem,K.lV,↓reduceIte,Nat.reduceAdd,Nat.reduceSub]
 obtain⟨places,roads⟩:=m
 simp only[aa]at*
 simp(disch:=omega)only[go_sem,K.dO,↓reduceIte,l1,l2,Nat.reduceAdd,Nat.reduceSub]
theorem LQ{m:aM}(hm:m.ok){b:Bel}(hs:b.sz)(h20:b.worlds.length<20){bars:List Int}(hb:tw bars m.roads.length=true){t:Int}(ht:t≤2147483648):(kM m b bars t).1.sz:=by
 by_cases hv:rG m b=true
 · have eb:fE m bars=(ic m bars,0):=by unfold fE;rw[hb];simp
   by_cases he:b.worlds.any (nQ t)=true
   · unfold kM
     rw[yJ ht,he,hv,eb]
     simpa using hs
   · rw[LF hv hb ht (by simpa using he)]
     have bv:BV m (nth b.worlds 0).tags b.worlds:=xN hv
     have bok:=uC hm hb
     have bv2:=JY bok (show(ic m bars).places=m.places from rfl) ht bv (by simpa using he)
     exact⟨by simp only[List.length_map];omega,fun x hx=>(bv2.wv x hx).wsz bok bv2.f2⟩
 · unfold kM
   rw[if_pos (by simpa using hv)]
   exact hs
theorem XF{m:aM}(h:m.ok){p:Nat}(hp:p<m.places.length)(r:Int)(hr:r<0):aE 0 N.lQ [.t m.e,I p,I r] []=some (.tup [.t (tL []),I 1],[]):=by
 refine ak K.xF rfl ?_
 have va:=jH h
 have np:=h.np
 have li:=FM p 0 ((m.places.length:Int)-1)
 rw[decide_eq_true (by omega:(0:Int)≤p∧(p:Int)≤m.places.length-1)]at li
 obtain⟨places,roads⟩:=m
 simp only at*
 simp(disch:=omega)only[go_sem,K.lQ,↓reduceIte,va,li,Nat.reduceAdd,Nat.reduceSub]
 rfl
theorem aho{m:aM}(h:m.ok){p:Nat}(hp:p<m.places.length)(r:Int):aE 0 N.lQ [.t m.e,I p,I r] []=some (if r<0 then .tup [.t (tL []),I 1]else .tup [.t (tL (ofL m p r)),I 0],[]):=by
 by_cases hr:r<0
 · rw[if_pos hr];exact XF h hp r hr
 · rw[if_neg hr];exact K1 h hp r (by omega)
theorem uE{m:aM}(hm:m.ok){b:Bel}(hs:b.sz)(h20:b.worlds.length<20){l bars:List Int}(hl:l.length≤64)(hb:tw bars m.roads.length=true){p:Nat}(hp:p<m.places.length){t:Int}(ht:t≤2147483648):
 aE 0 N.dW [.t m.e,.t b.e,.t (tL l),.t (tL bars),.t (.agg [tI p,tI t])] []=some (B true,[]):=by
 refine ak K.rO rfl ?_
 have np:=hm.np
 have nr:=hm.nr
 have bl:=rA hb
 have o1:=aho hm hp t
 have o2:=acv hm hp t
 have oo:∃(L:List Int) (c:Int),L.length≤64∧(if t<0 then D.tup [.t (tL []),I 1]else .tup [.t (tL (ofL m p t)),I 0])= .tup [.t (tL L),I c]:=by
  split
  · exact⟨[],1,by simp,rfl⟩
  · exact⟨_,_,Nat.le_trans (dY _ _) np,rfl⟩
 obtain⟨L,c,l1,l2⟩:=oo
 rw[l2]at o1 o2
 clear l2
 have s1:=tu L L (by omega)
 simp only[decide_true]at s1
 have bd1:=C3 hm bars (by omega)
 have bd2:=Gx hm bars (by omega)
 have eb:fE m bars=(ic m bars,0):=by unfold fE;rw[hb];simp
 rw[eb]at bd1 bd2
 have bok:=uC hm hb
 have s2:=Sd (ic m bars) (by have:=bok.np;omega) (by have:=bok.nr;omega)
 have e1:=RR hm (by omega) b hs h20 bars (by omega) t
 have e2:=Xa hm b hs bars (by omega) t
 have sz:=LQ hm hs h20 hb ht
 have s3:=RG _ sz
 have c1:=JF _ sz l (by omega)
 have c2:=F9 _ sz l (by omega)
 have c3:=JF _ hs l (by omega)
 have c4:=F9 _ hs l (by omega)
 have b1:=Lw hm l (by omega)
 have b2:=O3 hm l (by omega)
 have b3:(BW m l).length≤m.roads.length:=dY _ _
 have i1:=Pj b hs l (by omega) t
 have i2:=LG b hs l (by omega) t
 have il:(Xf b l t).length≤1000000:=by
  unfold Xf
  split
  · simp
  · rename_i h0
    have:=dY (nth b.worlds 0).whr.length (BZ b l t)
    have:=(hs.2 _ (ae (l:=b.worlds) (j:=0) (by omega))).2.1
    omega
 generalize ic m bars=bm at*
 generalize kM m b bars t=sb at*
 obtain⟨sb,k⟩:=sb
 generalize BW m l=br at*
 generalize Xf b l t=ins at*
 have s4:=tu br br (by omega)
 have s5:=tu ins ins (by omega)
 simp only[decide_true]at s4 s5
 generalize CN b l=q1 at*
 generalize CN sb l=q2 at*
 clear bok eb hb hm sz hs
 obtain⟨bp,br2⟩:=bm
 obtain⟨sw⟩:=sb
 obtain⟨places,roads⟩:=m
 obtain⟨ws⟩:=b
 simp only at*
 cases q1<;>cases q2<;>
 simp(disch:=omega)only[go_sem,K.dW,↓reduceIte,o1,o2,s1,s2,s3,s4,s5,bd1,bd2,e1,e2,c1,c2,c3,c4,b1,b2,i1,i2,decide_true,Bool.and_self,Nat.reduceMul,Nat.reduceAdd,Nat.reduceSub]
end Go.Ev
namespace Go.Ev
open Go
variable [Lib] [bW] [bL] [fJ] [eY]
theorem D8{α:Type} [Dat α]{l:List α}{i j:Nat}{a:α}(h:j≠i):nth (l.set j a) i=nth l i:=by
 unfold nth
 simp only[List.getD_eq_getElem?_getD,List.getElem?_set_ne h]
theorem D9{α:Type} [Dat α]{l:List α}{i:Nat}{a:α}(h:i<l.length):nth (l.set i a) i=a:=bG (List.getElem?_set_self h)
theorem Ea{α β:Type} [Dat α](f:α→β)(l:List α):(List.range l.length).map (fun i=>f (nth l i))=l.map f:=by
 apply List.ext_getElem?
 intro i
 rw[List.getElem?_map,List.getElem?_map]
 by_cases h:i<l.length
 · rw[List.getElem?_range h,fQ h];rfl
 · rw[List.getElem?_eq_none (by simpa using h),List.getElem?_eq_none (by simpa using h)];rfl
theorem Eb(P T:ai)(s:Nat)(ws:List World):(P++(cbH s ws++T))[P.length]?=some (.arr 2 false 0 ((List.range ws.length).map (D7 (fun i=>(s+1+2*i,s+2+2*i)) ws))):=by
 rw[List.getElem?_append_right (Nat.le_refl _),Nat.sub_self];rfl
theorem Pv(P T:ai)(s:Nat)(ws:List World){k:Nat}(hk:k<2*ws.length):(P++(cbH s ws++T))[P.length+1+k]?=some (Mj s ws k):=by
 rw[List.getElem?_append_right (by omega),show P.length+1+k-P.length=k+1 by omega]
 unfold cbH
 rw[List.append_assoc,List.singleton_append,List.getElem?_cons_succ,List.append_assoc,List.getElem?_append_left (by simpa using hk),List.getElem?_map,List.getElem?_range hk];rfl
theorem IB(P T:ai)(s:Nat)(ws:List World){i j:Nat}(hi:i<ws.length)(hj:j<(nth ws i).whr.length):(P++(cbH s ws++T))[P.length+1+2*ws.length+qb ws i+j]?=some (wOb (nth (nth ws i).whr j)):=by
 obtain⟨f1,f2⟩:=uf ws (fun i=>(nth ws i).whr.map wOb) (fun i=>by simp) ws.length
 have f3:=f2 i hi j hj
 have lt:qb ws i+j<(cbW ws).length:=by
  rcases Nat.lt_or_ge (qb ws i+j) (cbW ws).length with h | h
  · exact h
  · unfold cbW at h
    rw[List.getElem?_eq_none h,List.getElem?_eq_getElem (by simpa using hj)]at f3
    exact absurd f3 (by simp)
 rw[List.getElem?_append_right (by omega),show P.length+1+2*ws.length+qb ws i+j-P.length=(2*ws.length+(qb ws i+j))+1 by omega]
 unfold cbH
 rw[List.append_assoc,List.singleton_append,List.getElem?_cons_succ,List.append_assoc,List.getElem?_append_right (by simp),List.getElem?_append_left (by simpa using lt)]
 have e:2*ws.length+(qb ws i+j)-(List.map (Mj s ws) (List.range (2*ws.length))).length=qb ws i+j:=by simp
 rw[e]
 unfold cbW
 rw[f3,List.getElem?_map,fQ hj];rfl
theorem Kh(H:ai)(n:Nat)(l:List Int):bA (frz H n) (ints l)=some (l.map (T.int .i64)):=by
 have:ints l=l.map (fun x=>D.t (.int .i64 x)):=by simp[ints]
 rw[this]
 exact kL fun x _=>by cases n<;>rfl
def cbE(s:Nat)(ws:List World):List D:=(List.range ws.length).map (D7 (fun i=>(s+1+2*i,s+2+2*i)) ws)
theorem IC(s:Nat)(ws:List World):(cbE s ws).length=ws.length:=by simp[cbE]
theorem XG(s:Nat)(ws:List World){i:Nat}(hi:i<ws.length):(cbE s ws)[i]?=some (.agg [.ref (s+1+2*i) 0 (nth ws i).tags.length,.ref (s+2+2*i) 0 (nth ws i).whr.length]):=by
 unfold cbE
 rw[List.getElem?_map,List.getElem?_range hi];rfl
theorem XH{H:ai}{s:Nat}{ws:List World}(h1:∀k,k<2*ws.length→H[s+1+k]?=some (Mj s ws k))
 (h2:∀i j,i<ws.length→j<(nth ws i).whr.length→H[s+1+2*ws.length+qb ws i+j]?=some (wOb (nth (nth ws i).whr j))) {i:Nat} (hi:i<ws.length):
 frz H 5 (.ref (s+1+2*i) 0 (nth ws i).tags.length)=some (tL (nth ws i).tags)∧bA (frz H 4) ((List.range (nth ws i).whr.length).map (wEl (fun j=>s+1+2*ws.length+qb ws i+j) (nth ws i).whr))=some ((nth ws i).whr.map Wh.e)∧
 H[s+2+2*i]?=some (.arr 2 false 0 ((List.range (nth ws i).whr.length).map (wEl (fun j=>s+1+2*ws.length+qb ws i+j) (nth ws i).whr)))∧
 frz H 6 (.agg [.ref (s+1+2*i) 0 (nth ws i).tags.length,.ref (s+2+2*i) 0 (nth ws i).whr.length])=some (nth ws i).e:=by
 have a:=h1 (2*i) (by omega)
 have b:=h1 (2*i+1) (by omega)
 unfold Mj at a b
 rw[if_pos (by omega),show 2*i / 2=i by omega]at a
 rw[if_neg (by omega),show(2*i+1) / 2=i by omega,show s+1+(2*i+1)=s+2+2*i by omega]at b
 have w:bA (frz H 4) ((List.range (nth ws i).whr.length).map (wEl (fun j=>s+1+2*ws.length+qb ws i+j) (nth ws i).whr))=some ((List.range (nth ws i).whr.length).map (fun j=>(nth (nth ws i).whr j).e)):=kL fun j hj=>by
  have hj:=List.mem_range.1 hj
  have c:=h2 i j hi hj
  unfold wOb at c
  have e:=Kh H 2 (nth (nth ws i).whr j).frm
  have l:(ints (nth (nth ws i).whr j).frm).length=(nth (nth ws i).whr j).frm.length:=by simp[ints]
  simp only[wEl]
  generalize nth (nth ws i).whr j=y at*
  obtain⟨t,f⟩:=y
  simp only at c e l
  simp only[frz,bA,fV,c,l,and_self,if_true,e,Option.bind_some,Option.map_some]
 rw[Ea (fun y:Wh=>y.e)]at w
 have e:=Kh H 4 (nth ws i).tags
 have l:(ints (nth ws i).tags).length=(nth ws i).tags.length:=by simp[ints]
 have l2:((List.range (nth ws i).whr.length).map (wEl (fun j=>s+1+2*ws.length+qb ws i+j) (nth ws i).whr)).length=(nth ws i).whr.length:=by simp
 generalize (List.range (nth ws i).whr.length).map (wEl (fun j=>s+1+2*ws.length+qb ws i+j) (nth ws i).whr)=q at*
 generalize nth ws i=y at*
 obtain⟨t,f⟩:=y
 simp only at a b w e l l2 ⊢
 refine⟨?_,w,b,?_⟩
 · simp only[frz,fV,a,l,and_self,if_true,e,Option.bind_some,Option.map_some]
 · simp only[frz,bA,fV,a,b,l,l2,and_self,if_true,e,w,Option.bind_some,Option.map_some]
theorem ID(P T:ai)(ws:List World):bA (frz (P++(cbH P.length ws++T)) 6) (cbE P.length ws)=some (ws.map World.e):=by
 have key:bA (frz (P++(cbH P.length ws++T)) 6) ((List.range ws.length).map (D7 (fun i=>(P.length+1+2*i,P.length+2+2*i)) ws))=some ((List.range ws.length).map (fun i=>(nth ws i).e)):=kL fun i hi=>
  (XH (fun k hk=>Pv P T P.length ws hk) (fun i j hi hj=>IB P T P.length ws hi hj) (List.mem_range.1 hi)).2.2.2
 rw[Ea (fun y:World=>y.e)]at key
 exact key
def aeU(a b:List World):Prop:=a.length=b.length∧∀i,i<b.length→(nth a i).tags.length=(nth b i).tags.length∧(nth a i).whr.length=(nth b i).whr.length
theorem Ki{a b:List World}(h:aeU a b):∀i,i≤b.length→qb a i=qb b i
 | 0,_=>rfl
 | i+1,hi=>by rw[qb,qb,Ki h i (by omega),(h.2 i (by omega)).2]
theorem GH(ws:List World):∀i,i≤ws.length→qb ws i=((ws.take i).flatMap World.whr).length
 | 0,_=>rfl
 | i+1,hi=>by
   rw[qb,GH ws i (by omega),List.take_add_one,List.flatMap_append,List.length_append,fQ (by omega)]
   simp
theorem TR(ws:List World):cbW ws=(ws.flatMap World.whr).map wOb:=by
 unfold cbW
 rw[List.map_flatMap,List.flatMap_def,List.flatMap_def,Ea (fun y:World=>y.whr.map wOb)]
theorem XI{ws:List World}{i:Nat}(hi:i<ws.length){y:World}(h1:y.tags.length=(nth ws i).tags.length)(h2:y.whr.length=(nth ws i).whr.length):aeU (ws.set i y) ws:=by
 refine⟨by simp,fun k hk=>?_⟩
 by_cases e:k=i
 · subst e;rw[D9 hk];exact⟨h1,h2⟩
 · rw[D8 (fun q=>e q.symm)];exact⟨rfl,rfl⟩
theorem Se{a b:List World}(h:aeU a b)(f:Nat→Nat×Nat):(List.range a.length).map (D7 f a)=(List.range b.length).map (D7 f b):=by
 rw[h.1]
 refine List.map_congr_left fun i hi=>?_
 have:=h.2 i (List.mem_range.1 hi)
 unfold D7
 rw[this.1,this.2]
theorem XJ(s:Nat)(ws:List World){i j:Nat}(hi:i<ws.length)(hj:j<(nth ws i).whr.length)(l:List Int)(hl:l.length=(nth (nth ws i).whr j).frm.length):
 (cbH s ws).set (1+2*ws.length+qb ws i+j) (.arr 1 false 0 (ints l))=cbH s (ws.set i ⟨(nth ws i).tags,(nth ws i).whr.set j ⟨(nth (nth ws i).whr j).time,l⟩⟩):=by
 have sh:aeU (ws.set i ⟨(nth ws i).tags,(nth ws i).whr.set j ⟨(nth (nth ws i).whr j).time,l⟩⟩) ws:=XI hi rfl (by simp)
 have e1:=Se sh (fun i=>(s+1+2*i,s+2+2*i))
 have e2:(List.range (2*(ws.set i ⟨(nth ws i).tags,(nth ws i).whr.set j ⟨(nth (nth ws i).whr j).time,l⟩⟩).length)).map (Mj s (ws.set i ⟨(nth ws i).tags,(nth ws i).whr.set j ⟨(nth (nth ws i).whr j).time,l⟩⟩))=(List.range (2*ws.length)).map (Mj s ws):=by
  rw[sh.1]
  refine List.map_congr_left fun k hk=>?_
  have hk:=List.mem_range.1 hk
  unfold Mj
  rw[Ki sh _ (by omega),sh.1]
  by_cases c:k / 2=i
  · rw[c,D9 hi]
    simp only[List.length_set]
    have:∀g,(List.range (nth ws i).whr.length).map (wEl g ((nth ws i).whr.set j ⟨(nth (nth ws i).whr j).time,l⟩))=(List.range (nth ws i).whr.length).map (wEl g (nth ws i).whr):=fun g=>List.map_congr_left fun q hq=>by
     unfold wEl
     by_cases d:q=j
     · subst d;rw[D9 hj];simp only[hl]
     · rw[D8 (fun z=>d z.symm)]
    rw[this]
  · rw[D8 (fun z=>c z.symm)]
 have e3:(cbW ws).set (qb ws i+j) (.arr 1 false 0 (ints l))=cbW (ws.set i ⟨(nth ws i).tags,(nth ws i).whr.set j ⟨(nth (nth ws i).whr j).time,l⟩⟩):=by
  rw[TR,TR,GH ws i (by omega),List.set_eq_take_append_cons_drop (l:=ws),if_pos hi]
  conv=>lhs;rw[← List.take_append_drop i ws,List.drop_eq_getElem_cons hi]
  have gi:ws[i]=nth ws i:=(bG (List.getElem?_eq_getElem hi)).symm
  rw[gi]
  simp only[List.flatMap_append,List.flatMap_cons,List.map_append,List.take_left']
  have tl:((ws.take i++nth ws i::ws.drop (i+1)).take i)=ws.take i:=by rw[List.take_left' (by simp;omega)]
  rw[tl,List.set_append_right _ _ (by simp)]
  simp only[List.length_map]
  rw[show((ws.take i).flatMap World.whr).length+j-((ws.take i).flatMap World.whr).length=j by omega,List.set_append_left _ _ (by simpa using hj),List.map_set]
  rfl
 unfold cbH
 rw[e1,e2,←e3,List.set_append_right _ _ (by simp;omega),List.set_append_right _ _ (by simp;omega)]
 congr 3
 simp;omega
end Go.Ev
namespace Go.Ev
open Go
variable [Lib] [bW] [bL] [fJ] [eY] [jB] [fM] [fN] [iI] [gu] [ec] [du] [iV] [eQ] [iJ] [j4] [wC] [wD] [wE]
def ZW(r:Road):Road:=⟨r.frm,r.to,r.len,r.area,r.walk,!r.closed,r.restL,r.restH,r.liftL,r.liftH⟩
def XK(m:aM):aM:=⟨m.places,m.roads.set 0 (ZW (nth m.roads 0))⟩
theorem XL{m:aM}(hm:m.ok)(h1:1≤m.roads.length):(XK m).ok:=by
 refine⟨hm.np,by simpa [XK]using hm.nr,hm.hs,?_⟩
 intro r hr
 simp only[XK]at hr ⊢
 rcases List.mem_or_eq_of_mem_set hr with h | h
 · exact hm.rs r h
 · subst h
   have q:=hm.rs _ (ae (l:=m.roads) (j:=0) (by omega))
   exact⟨q.f0,q.f1,q.t0,q.t1,q.ne,q.l0,q.l1,q.a0,q.a1,q.r0,q.r1,q.r2,q.i0,q.i1,q.i2⟩
def amV(li:T)(at_:Int)(l bars:List Int)(iB:Nat):List D:=[.t li,B false,.bp 0 0,.bp 1 0,.bp 2 0,I at_,.t (tL l),.t (tL bars),.bp iB 0,.und]
theorem XM{d:aD}(hd:d.eD){m:aM}(hm:m.ok)(r1:1≤m.roads.length){b:Bel}(hs:b.sz)(h1:1≤b.worlds.length)(h20:b.worlds.length<20)(h2:1≤(nth b.worlds 0).whr.length)(h3:1≤(nth (nth b.worlds 0).whr 0).frm.length)
 {l bars:List Int} (hl:l.length≤64) (hb:tw bars m.roads.length=true) (p1:1≤m.places.length) {t:Int} (ht:t≤2147483648) (aw:aE 0 N.gv [] []=some (B true,[])) (li:T):
 ∃vs H,exS aE K.bV.body.snd.snd.snd.snd.snd.snd.snd.snd.snd ⟨amV li t l bars ((cbH 3 b.worlds).length+1+1+1),d.obj:: .box (aa m):: .box [.t (.sl (b.worlds.map World.e))]::(cbH 3 b.worlds++[.box [.ref 3 0 b.worlds.length]])⟩=some (.ret,⟨vs,H⟩)∧vs[1]?=some (B true):=by
 obtain⟨g,e,go,l2,g0,g1⟩:=Oh hd 3 (by omega) (by omega)
 have cl:(cbH 3 b.worlds).length=1+2*b.worlds.length+(cbW b.worlds).length:=by simp[cbH];omega
 generalize hx:(cbH 3 b.worlds).length+1+1+1=iB at*
 have gB:∀(x y z:Obj) (X:ai) (o:Obj),X.length=(cbH 3 b.worlds).length→(x::y::z::(X++[o]))[iB]?=some o:=fun x y z X o hX=>by
  rw[show iB=X.length+1+1+1 by omega,List.getElem?_cons_succ,List.getElem?_cons_succ,List.getElem?_cons_succ,List.getElem?_append_right (Nat.le_refl _),Nat.sub_self];rfl
 have sB:∀(x y z:Obj) (X:ai) (o o':Obj),X.length=(cbH 3 b.worlds).length→(x::y::z::(X++[o])).set iB o'=x::y::z::(X++[o']):=fun x y z X o o' hX=>by
  rw[show iB=X.length+1+1+1 by omega,List.set_cons_succ,List.set_cons_succ,List.set_cons_succ,List.set_append_right _ _ (Nat.le_refl _),Nat.sub_self];rfl
 by_cases c0:g=0
 · subst c0
   have ag:aE 0 N.dW [.t m.e,.t (.agg [.sl []]),.t (tL l),.t (tL bars),.t (.agg [tI 0,tI t])] []=some (B true,[]):=uE hm (b:=⟨[]⟩) ⟨by simp,by simp⟩ (by simp) hl hb (p:=0) (by omega) ht
   have q1:∀x y z:Obj,(x::y::z::(cbH 3 b.worlds++[.box [.ref 3 0 b.worlds.length]]))[iB]?=some (.box [.ref 3 0 b.worlds.length]):=fun x y z=>gB x y z _ _ rfl
   have q2:∀x y z:Obj,(x::y::z::(cbH 3 b.worlds++[.box [.ref 3 0 b.worlds.length]])).set iB (.box [.nil])=x::y::z::(cbH 3 b.worlds++[.box [.nil]]):=fun x y z=>sB x y z _ _ _ rfl
   have q3:∀x y z:Obj,(x::y::z::(cbH 3 b.worlds++[.box [.nil]]))[iB]?=some (.box [.nil]):=fun x y z=>gB x y z _ _ rfl
   clear gB sB hs hb hm cl
   generalize cbH 3 b.worlds=X at*
   obtain⟨places,roads⟩:=m
   simp only[aa,amV,List.map_nil]at*
   apply Exists.intro
   apply Exists.intro
   apply And.intro
   · simp(disch:=omega)only[go_sem,K.bV,↓reduceIte,go,q1,q2,q3,ag,aw,C.snd,Nat.reduceAdd,Nat.reduceSub]
     rfl
   · rfl
 · by_cases c1:g=1
   · subst c1
     obtain⟨z1,z2⟩:=hs
     have hz:=z2 _ (ae (l:=b.worlds) (j:=0) (by omega))
     generalize hw:b.worlds.set 0 ⟨(nth b.worlds 0).tags,(nth b.worlds 0).whr.set 0 ⟨(nth (nth b.worlds 0).whr 0).time,(nth (nth b.worlds 0).whr 0).frm.set 0 5⟩⟩=ws' at*
     have wl:ws'.length=b.worlds.length:=by rw[← hw];simp
     have sz:(Bel.mk ws').sz:=by
      refine⟨by simp only;omega,fun x hx=>?_⟩
      simp only at hx
      rw[← hw]at hx
      rcases List.mem_or_eq_of_mem_set hx with h | h
      · exact z2 x h
      · subst h
        refine⟨hz.1,by simpa using hz.2.1,fun w hw=>?_⟩
        rcases List.mem_or_eq_of_mem_set hw with h | h
        · exact hz.2.2 w h
        · subst h
          simpa using hz.2.2 _ (ae (l:=(nth b.worlds 0).whr) (j:=0) (by omega))
     have ag:aE 0 N.dW [.t m.e,.t (.agg [.sl (ws'.map World.e)]),.t (tL l),.t (tL bars),.t (.agg [tI 0,tI t])] []=some (B true,[]):=uE hm (b:=⟨ws'⟩) sz (by simp only;omega) hl hb (p:=0) (by omega) ht
     have st:=XJ 3 b.worlds (i:=0) (j:=0) (by omega) (by omega) ((nth (nth b.worlds 0).whr 0).frm.set 0 5) (by simp)
     rw[hw]at st
     have xl:(cbH 3 ws').length=(cbH 3 b.worlds).length:=by rw[← st];simp
     have lf:1+2*b.worlds.length+qb b.worlds 0+0=1+2*b.worlds.length:=by simp[qb]
     rw[lf]at st
     generalize hlf:4+2*b.worlds.length=lf at*
     have q1:∀x y z:Obj,(x::y::z::(cbH 3 b.worlds++[.box [.ref 3 0 b.worlds.length]]))[iB]?=some (.box [.ref 3 0 b.worlds.length]):=fun x y z=>gB x y z _ _ rfl
     have q2:∀x y z:Obj,(x::y::z::(cbH 3 b.worlds++[.box [.ref 3 0 b.worlds.length]]))[3]?=some (.arr 2 false 0 (cbE 3 b.worlds)):=fun x y z=>Eb [x,y,z] _ 3 b.worlds
     have q3:∀x y z:Obj,(x::y::z::(cbH 3 b.worlds++[.box [.ref 3 0 b.worlds.length]]))[5]?=some (.arr 2 false 0 ((List.range (nth b.worlds 0).whr.length).map (wEl (fun j=>lf+j) (nth b.worlds 0).whr))):=fun x y z=>by
      have:=Pv [x,y,z] [.box [.ref 3 0 b.worlds.length]] 3 b.worlds (k:=1) (by omega)
      have e:(fun j=>3+1+2*b.worlds.length+qb b.worlds (1 / 2)+j)=fun j=>lf+j:=by funext j;simp[qb];omega
      unfold Mj at this
      rw[if_neg (by omega),e]at this
      exact this
     have q4:∀x y z:Obj,(x::y::z::(cbH 3 b.worlds++[.box [.ref 3 0 b.worlds.length]]))[lf]?=some (.arr 1 false 0 (ints (nth (nth b.worlds 0).whr 0).frm)):=fun x y z=>by
      have:=IB [x,y,z] [.box [.ref 3 0 b.worlds.length]] 3 b.worlds (i:=0) (j:=0) (by omega) (by omega)
      rw[show [x,y,z].length+1+2*b.worlds.length+qb b.worlds 0+0=lf by simp[qb];omega]at this
      exact this
     have ll:1+2*b.worlds.length<(cbH 3 b.worlds).length:=by
      have:=IB [] [] 3 b.worlds (i:=0) (j:=0) (by omega) (by omega)
      have:=(List.getElem?_eq_some_iff.1 this).1
      simp[qb]at this
      omega
     have q5:∀x y z:Obj,(x::y::z::(cbH 3 b.worlds++[.box [.ref 3 0 b.worlds.length]])).set lf (.arr 1 false 0 ((ints (nth (nth b.worlds 0).whr 0).frm).set 0 (I 5)))=x::y::z::(cbH 3 ws'++[.box [.ref 3 0 b.worlds.length]]):=fun x y z=>by
      rw[show lf=1+2*b.worlds.length+1+1+1 by omega,List.set_cons_succ,List.set_cons_succ,List.set_cons_succ,List.set_append_left _ _ (by omega)]
      have e:(ints (nth (nth b.worlds 0).whr 0).frm).set 0 (I 5)=ints ((nth (nth b.worlds 0).whr 0).frm.set 0 5):=by simp[ints]
      rw[e,st]
     have q6:∀x y z:Obj,(x::y::z::(cbH 3 ws'++[.box [.ref 3 0 b.worlds.length]]))[iB]?=some (.box [.ref 3 0 b.worlds.length]):=fun x y z=>gB x y z _ _ xl
     have q7:∀x y z:Obj,(x::y::z::(cbH 3 ws'++[.box [.ref 3 0 b.worlds.length]]))[3]?=some (.arr 2 false 0 (cbE 3 ws')):=fun x y z=>Eb [x,y,z] _ 3 ws'
     have q8:∀x y z:Obj,bA (frz (x::y::z::(cbH 3 ws'++[.box [.ref 3 0 b.worlds.length]])) 6) (cbE 3 ws')=some (ws'.map World.e):=fun x y z=>ID [x,y,z] _ ws'
     have l1:=IC 3 b.worlds
     have l2:=IC 3 ws'
     rw[wl]at l2
     have k1:(cbE 3 b.worlds)[0]?=some (.agg [.ref 4 0 (nth b.worlds 0).tags.length,.ref 5 0 (nth b.worlds 0).whr.length]):=XG 3 b.worlds (i:=0) (by omega)
     have k2:((List.range (nth b.worlds 0).whr.length).map (wEl (fun j=>lf+j) (nth b.worlds 0).whr))[0]?=some (.agg [I (nth (nth b.worlds 0).whr 0).time,.ref lf 0 (nth (nth b.worlds 0).whr 0).frm.length]):=by
      rw[List.getElem?_map,List.getElem?_range (by omega)];rfl
     have l3:((List.range (nth b.worlds 0).whr.length).map (wEl (fun j=>lf+j) (nth b.worlds 0).whr)).length=(nth b.worlds 0).whr.length:=by simp
     have l4:(ints (nth (nth b.worlds 0).whr 0).frm).length=(nth (nth b.worlds 0).whr 0).frm.length:=by simp[ints]
     have k3:(ints (nth (nth b.worlds 0).whr 0).frm)[0]?=some (I (nth (nth (nth b.worlds 0).whr 0).frm 0)):=lH _ _ (by omega)
     generalize (List.range (nth b.worlds 0).whr.length).map (wEl (fun j=>lf+j) (nth b.worlds 0).whr)=E2 at*
     generalize ints (nth (nth b.worlds 0).whr 0).frm=E3 at*
     generalize cbE 3 b.worlds=E0 at*
     generalize cbE 3 ws'=E1 at*
     clear gB sB hb hm cl z1 z2 hz sz st hw
     generalize cbH 3 b.worlds=X at*
     generalize cbH 3 ws'=X' at*
     obtain⟨places,roads⟩:=m
     obtain⟨ws⟩:=b
     generalize nth (nth ws 0).whr 0=wh at*
     generalize nth ws 0=wo at*
     simp only[aa,amV]at*
     apply Exists.intro
     apply Exists.intro
     apply And.intro
     · simp(disch:=omega)only[go_sem,K.bV,↓reduceIte,go,q1,q2,q3,q4,q5,q6,q7,q8,l1,l2,l3,l4,k1,k2,k3,ag,aw,C.snd,Nat.reduceAdd,Nat.reduceSub]
       rfl
     · rfl
   · have c2:g=2:=by omega
     subst c2
     have tk:=XL hm r1
     have ag:aE 0 N.dW [.t (XK m).e,.t b.e,.t (tL l),.t (tL bars),.t (.agg [tI 0,tI t])] []=some (B true,[]):=uE tk hs h20 hl (by simpa [XK]using hb) (p:=0) (by simp only[XK];omega) ht
     have q1:∀x y z:Obj,(x::y::z::(cbH 3 b.worlds++[.box [.ref 3 0 b.worlds.length]]))[iB]?=some (.box [.ref 3 0 b.worlds.length]):=fun x y z=>gB x y z _ _ rfl
     have q2:∀x y z:Obj,(x::y::z::(cbH 3 b.worlds++[.box [.ref 3 0 b.worlds.length]]))[3]?=some (.arr 2 false 0 (cbE 3 b.worlds)):=fun x y z=>Eb [x,y,z] _ 3 b.worlds
     have q8:∀x y z:Obj,bA (frz (x::y::z::(cbH 3 b.worlds++[.box [.ref 3 0 b.worlds.length]])) 6) (cbE 3 b.worlds)=some (b.worlds.map World.e):=fun x y z=>ID [x,y,z] _ b.worlds
     have q3:∀(x y z o:Obj),(x::y::z::((cbH 3 b.worlds++[.box [.ref 3 0 b.worlds.length]])++[o]))[iB]?=some (.box [.ref 3 0 b.worlds.length]):=fun x y z o=>by
      have:=q1 x y z
      rw[← List.cons_append,←List.cons_append,←List.cons_append,List.getElem?_append_left (List.getElem?_eq_some_iff.1 this).1]
      exact this
     have q4:∀(x y z o:Obj),(x::y::z::((cbH 3 b.worlds++[.box [.ref 3 0 b.worlds.length]])++[o]))[3]?=some (.arr 2 false 0 (cbE 3 b.worlds)):=fun x y z o=>by
      rw[List.append_assoc]
      exact Eb [x,y,z] _ 3 b.worlds
     have q9:∀x y z o:Obj,bA (frz (x::y::z::((cbH 3 b.worlds++[.box [.ref 3 0 b.worlds.length]])++[o])) 6) (cbE 3 b.worlds)=some (b.worlds.map World.e):=fun x y z o=>by
      rw[List.append_assoc]
      exact ID [x,y,z] _ b.worlds
     have l1:=IC 3 b.worlds
     have nr:=hm.nr
     generalize cbE 3 b.worlds=E0 at*
     clear gB sB hb hm hs tk
     generalize cbH 3 b.worlds=X at*
     generalize hY:X++[.box [.ref 3 0 b.worlds.length]]=Y at*
     unfold XK at ag
     have x0:(m.roads.map Road.e)[0]?=some (nth m.roads 0).e:=bP _ (by omega)
     have s0:(m.roads.map Road.e).set 0 (ZW (nth m.roads 0)).e=(m.roads.set 0 (ZW (nth m.roads 0))).map Road.e:=by simp
     have l2:(m.roads.set 0 (ZW (nth m.roads 0))).length=m.roads.length:=by simp
     generalize m.roads.set 0 (ZW (nth m.roads 0))=R' at*
     obtain⟨places,roads⟩:=m
     obtain⟨ws⟩:=b
     simp only at*
     simp only[aa,amV,ZW]at*
     apply Exists.intro
     apply Exists.intro
     apply And.intro
     · simp(disch:=omega)only[go_sem,K.bV,↓reduceIte,go,q1,q2,q3,q4,q8,q9,l1,x0,s0,ag,aw,C.snd,cF,dF,pC,Nat.reduceAdd,Nat.reduceSub]
       rfl
     · rfl
theorem TS(aw:aE 0 N.gv [] []=some (B true,[]))(li:List Int):aE 0 N.bV [.t (tL li)] []=some (B true,[]):=by
 refine ak K.nI rfl ?_
 have lo:=QS li
 by_cases c:li.length≤400
 · simp only[c,decide_true]at lo
   have ro:=acg li
   have d0:(aD.mk li 0).eD:=c
   generalize (aD.mk li 0)=d at*
   obtain⟨m,e1,mo,l1,hm,p1,p2,r1,r2⟩:=ach d0
   obtain⟨b,e2,be,l2,hv,hs,w6,n3,hT⟩:=RU l1 hm (by omega)
   have la:=Xb b hs
   have ll:=Xd hT
   have l0:=(Xc b).1
   obtain⟨g,e3,go,l3,g0,g1⟩:=Oh l2 90 (by omega) (by omega)
   obtain⟨l,e4,so,l4,sl,ss⟩:=TF l3 m.places.length (by omega)
   obtain⟨s,e5,s5,l5,sl5,ss5⟩:=TF l4 m.roads.length (by omega)
   obtain⟨v,e6,vo,l6,v0,v1⟩:=Oh l5 m.places.length (by omega) (by omega)
   obtain⟨w1,w2,f1,f2,w5⟩:=fK hv
   have bv:=xN (ws:=b.worlds) hv
   have wv0:=bv.wv _ (ae (l:=b.worlds) (j:=0) (by omega))
   have wh:=JX hv _ (ae (l:=b.worlds) (j:=0) (by omega))
   have wl:=wv0.wl
   have wh0:=(wh _ (ae (l:=(nth b.worlds 0).whr) (j:=0) (by omega))).2.1
   generalize LD b=q0 at*
   obtain⟨p,rfl⟩:=Int.eq_ofNat_of_zero_le v0
   have ag:=uE hm hs (by omega) (l:=l) (bars:=s) (by omega) ss5 (p:=p) (by omega) (t:=q0+g-3) (by omega)
   obtain⟨vs,H,tl,hv1⟩:=XM l6 hm r1 hs (by omega) (by omega) (by omega) (by omega) (l:=l) (bars:=s) (by omega) ss5 (by omega) (t:=q0+g-3) (by omega) aw (tL li)
   have cl:(cbH 3 b.worlds).length=1+2*b.worlds.length+(cbW b.worlds).length:=by simp[cbH];omega
   have cb:=Iy b hs
   clear hT hv hm wh0 wl wh wv0 bv w5 hs ss ss5
   simp only[amV,aa,K.bV,C.snd,List.cons_append,List.nil_append]at tl ag
   obtain⟨places,roads⟩:=m
   obtain⟨ws⟩:=b
   simp only[aa]at*
   simp(disch:=omega)only[go_sem,K.bV,↓reduceIte,lo,ro,mo,be,la,go,so,s5,vo,ag,cb,R0,cF,dF,tl,hv1,Nat.reduceAdd,Nat.reduceSub]
 · simp only[c,decide_false]at lo
   simp(disch:=omega)only[go_sem,K.bV,↓reduceIte,lo,aw,Nat.reduceAdd,Nat.reduceSub]
end Go.Ev
