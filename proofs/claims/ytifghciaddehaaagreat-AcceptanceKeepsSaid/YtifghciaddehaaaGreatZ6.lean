/- Parts of the proof: see the text that holds the theorem. -/
import Derived.Test.YtifghciaddehaaaGreatZ5
set_option linter.all false
open Nat (reduceAdd reduceSub)
namespace Go.Ev
open Go
variable [Lib] [bX] [bJ] [fR] [fS] [iK] [fy] [fo] [gU] [fM] [cV] [cI] [fB] [eu]
theorem Bm(m:aC)(t:Int)(w:Wh):(ky w m.aa.length=false↔(cO m w t).2=6)∧((cO m w t).2=0∨(cO m w t).2=6∨(cO m w t).2=8):=by
 unfold cO
 cases h:ky w m.aa.length with
 | false=>simp
 | true=>
   simp only[Bool.true_eq_false,if_false,false_iff]
   split<;>simp
abbrev rrH(m:aC)(ws:List World):aq:=[.box (ae m),.box [.t (.sl (ws.map World.e))],.box [.nil]]
abbrev rrV(t:Int)(i j:D):List D:=[.und,.und,I t,.bp 0 0,.bp 1 0,.bp 2 0,.und,i,j,.und,.und,.und,.und,.und]
theorem aeU(m:aC)(ws:List World)(i:Nat)(hi:i<ws.length)(hz:(nth ws i).sz)(t:Int)(z0 z1 z6 z9 z10 z11 z12 z13:D):
 ((List.range (nth ws i).whr.length).find? (rn6 m t (nth ws i).whr)=none∧exS aH K.qs ⟨[z0,z1,I t,.bp 0 0,.bp 1 0,.bp 2 0,z6,I i,I 0,z9,z10,z11,z12,z13],rrH m ws⟩=
   some (.exit 2,⟨rrV t (I i) (I (nth ws i).whr.length),rrH m ws⟩))∨
 ∃j q,(List.range (nth ws i).whr.length).find? (rn6 m t (nth ws i).whr)=some j∧exS aH K.qs ⟨[z0,z1,I t,.bp 0 0,.bp 1 0,.bp 2 0,z6,I i,I 0,z9,z10,z11,z12,z13],rrH m ws⟩=some q∧
  q.1= .ret∧q.2.vs[5]?=some (.bp 2 0)∧q.2.vs[6]?=some (I 6)∧q.2.H[2]?=some (.box [.t (.sl (ws.map World.e))]):=by
 have ex:(ws.map World.e)[i]?=some (nth ws i).e:=bR _ hi
 obtain⟨y1,y2,y3⟩:=hz
 refine ny (gc:=false) (dead:=[0,1,6,9,10,11,12,13]) (c:=K.kd) (vs:=[z0,z1,I t,.bp 0 0,.bp 1 0,.bp 2 0,z6,I i,I 0,z9,z10,z11,z12,z13]) (H:=rrH m ws)
  (fun j=>⟨rrV t (I i) (I j),rrH m ws⟩) (nth ws i).whr.length (rn6 m t (nth ws i).whr) (fun _ q=>q.1= .ret∧q.2.vs[5]?=some (.bp 2 0)∧q.2.vs[6]?=some (I 6)∧q.2.H[2]?=some (.box [.t (.sl (ws.map World.e))])) (.exit 2,⟨rrV t (I i) (I (nth ws i).whr.length),rrH m ws⟩) rfl ?_ ?_ ?_ (by simp)
 · intro j hj hq
   have pl:=Bc (nth (nth ws i).whr j) m.aa.length (by have:=y3 _ (ai hj);omega)
   have ew:((nth ws i).whr.map Wh.e)[j]?=some (nth (nth ws i).whr j).e:=bR _ hj
   have c:ky (nth (nth ws i).whr j) m.aa.length=true:=by
    cases h:ky (nth (nth ws i).whr j) m.aa.length with
    | true=>rfl
    | false=>rw[(Bm m t _).1]at h;simp[rn6,h]at hq
   rw[c]at pl
   clear hq c y3
   generalize nth (nth ws i).whr j=w at*
   generalize nth ws i=x at*
   obtain⟨tags,whr⟩:=x
   obtain⟨tw,fw⟩:=w
   obtain⟨aa,roads⟩:=m
   simp only[rrV,rrH,ae]at*
   simp(disch:=omega)only[go_sem,K.kd,↓reduceIte,ex,ew,pl,reduceAdd,reduceSub]
 · intro j hj hq
   have pl:=Bc (nth (nth ws i).whr j) m.aa.length (by have:=y3 _ (ai hj);omega)
   have ew:((nth ws i).whr.map Wh.e)[j]?=some (nth (nth ws i).whr j).e:=bR _ hj
   have c:ky (nth (nth ws i).whr j) m.aa.length=false:=(Bm m t _).1.2 (by simpa [rn6]using hq)
   rw[c]at pl
   clear hq c y3
   generalize nth (nth ws i).whr j=w at*
   generalize nth ws i=x at*
   obtain⟨tags,whr⟩:=x
   obtain⟨tw,fw⟩:=w
   obtain⟨aa,roads⟩:=m
   simp only[rrV,rrH,ae]at*
   simp(disch:=omega)only[go_sem,K.kd,↓reduceIte,ex,ew,pl,aLt,reduceAdd,reduceSub]
   exact⟨_,rfl,by simp,rfl,rfl,rfl,rfl⟩
 · generalize nth ws i=x at*
   obtain⟨tags,whr⟩:=x
   simp only[rrV,rrH,ae]at*
   simp(disch:=omega)only[go_sem,K.kd,↓reduceIte,ex,reduceAdd,reduceSub]
theorem aeV(m:aC)(ws:List World)(s1:ws.length≤1000000)(s2:∀x∈ws,x.sz)(t:Int)(z0 z1 z6 z8 z9 z10 z11 z12 z13:D):
 ((List.range ws.length).find? (rx6 m t ws)=none∧exS aH K.qt ⟨[z0,z1,I t,.bp 0 0,.bp 1 0,.bp 2 0,z6,I 0,z8,z9,z10,z11,z12,z13],rrH m ws⟩=
   some (.exit 0,⟨rrV t (I ws.length) .und,rrH m ws⟩))∨
 ∃j q,(List.range ws.length).find? (rx6 m t ws)=some j∧exS aH K.qt ⟨[z0,z1,I t,.bp 0 0,.bp 1 0,.bp 2 0,z6,I 0,z8,z9,z10,z11,z12,z13],rrH m ws⟩=some q∧
  q.1= .ret∧q.2.vs[5]?=some (.bp 2 0)∧q.2.vs[6]?=some (I 6)∧q.2.H[2]?=some (.box [.t (.sl (ws.map World.e))]):=by
 refine ny (gc:=false) (dead:=[0,1,6,8,9,10,11,12,13]) (c:=K.kf) (vs:=[z0,z1,I t,.bp 0 0,.bp 1 0,.bp 2 0,z6,I 0,z8,z9,z10,z11,z12,z13]) (H:=rrH m ws)
  (fun j=>⟨rrV t (I j) .und,rrH m ws⟩) ws.length (rx6 m t ws) (fun _ q=>q.1= .ret∧q.2.vs[5]?=some (.bp 2 0)∧q.2.vs[6]?=some (I 6)∧q.2.H[2]?=some (.box [.t (.sl (ws.map World.e))])) (.exit 0,⟨rrV t (I ws.length) .und,rrH m ws⟩) rfl ?_ ?_ ?_ (by simp)
 · intro j hj hq
   have inn:=fun z0 z1 z6 z9 z10 z11 z12 z13=>aeU m ws j hj (s2 _ (ai hj)) t z0 z1 z6 z9 z10 z11 z12 z13
   rcases inn .und .und .und .und .und .und .und .und with⟨e1,e2⟩ | ⟨k,q,e1, -⟩
   · simp only[rrV,rrH]at*
     simp(disch:=omega)only[go_sem,K.kf,↓reduceIte,e2,reduceAdd,reduceSub]
   · simp[rx6,e1]at hq
 · intro j hj hq
   have inn:=fun z0 z1 z6 z9 z10 z11 z12 z13=>aeU m ws j hj (s2 _ (ai hj)) t z0 z1 z6 z9 z10 z11 z12 z13
   rcases inn .und .und .und .und .und .und .und .und with⟨e1, -⟩ | ⟨k,⟨x,vs,H⟩,e1,e2,e3,e4,e5,e6⟩
   · simp[rx6,e1]at hq
   · simp only at e3 e4 e5 e6
     subst e3
     simp only[rrV,rrH]at*
     simp(disch:=omega)only[go_sem,K.kf,↓reduceIte,e2,reduceAdd,reduceSub]
     exact⟨_,rfl,by simp,rfl,e4,e5,e6⟩
 · simp only[rrV,rrH]at*
   simp(disch:=omega)only[go_sem,K.kf,↓reduceIte,reduceAdd,reduceSub]
structure RnH(m:aC)(ws out:List World)(k9:Nat)(H:aq)(es:List D)(fa fb:Nat→Nat):Prop where
 e0:H[0]?=some (.box (ae m))
 e1:H[1]?=some (.box [.t (.sl (ws.map World.e))])
 e2:H[2]?=some (.box [.nil])
 e9:H[k9]?=some (.box [.ref 3 0 ws.length])
 rp:Rp H 3 es fa fb out
abbrev rsV(t:Int)(k9:Nat)(i j:D):List D:=[.und,.und,I t,.bp 0 0,.bp 1 0,.bp 2 0,.und,.und,.und,.bp k9 0,i,j,.und,.und]
def rn0(m:aC)(t:Int)(l:List Wh)(j:Nat):Prop:=∀k,k<j→(cO m (nth l k) t).2=0
theorem ZK{m:aC}(h:m.ok)(ws out:List World)(hol:out.length=ws.length)(t:Int)(k9:Nat){i:Nat}(hi:i<ws.length)(hz:(nth ws i).sz){j:Nat}(hj:j<(nth ws i).whr.length)(ho:nth out i=⟨(nth ws i).tags,rnN m t (nth ws i).whr j⟩)
 (H:aq) (es:List D) (fa fb:Nat→Nat) (hr:RnH m ws out k9 H es fa fb):
 ((cO m (nth (nth ws i).whr j) t).2=0→∃H',gp false [0,1,6,7,8,12,13] H.length (exS aH K.jf ⟨rsV t k9 (I i) (I j),H⟩)=some ⟨rsV t k9 (I i) (I (j+1)),H'⟩∧RnH m ws (out.set i ⟨(nth ws i).tags,rnN m t (nth ws i).whr (j+1)⟩) k9 H' es fa fb)∧
 ((cO m (nth (nth ws i).whr j) t).2≠0→∃q,exS aH K.jf ⟨rsV t k9 (I i) (I j),H⟩=some q∧q.1= .ret∧q.2.vs[5]?=some (.bp 2 0)∧q.2.vs[6]?=some (I (cO m (nth (nth ws i).whr j) t).2)∧q.2.H[2]?=some (.box [.t (.sl (ws.map World.e))])):=by
 obtain⟨e0,e1,e2,e9,rp⟩:=hr
 obtain⟨y1,y2,y3⟩:=hz
 have ex:(ws.map World.e)[i]?=some (nth ws i).e:=bR _ hi
 have ew:((nth ws i).whr.map Wh.e)[j]?=some (nth (nth ws i).whr j).e:=bR _ hj
 have g:=Pz h (nth (nth ws i).whr j) t (y3 _ (ai hj))
 have l0:=nu e0
 have l1:=nu e1
 have l2:=nu e2
 have l9:=nu e9
 have arr:=rp.arr
 have len:=rp.len
 have el:=rp.el i (by omega)
 have hb:=rp.hb i (by omega)
 have lb:=nu hb
 have ll:=Ff m t (nth ws i).whr j
 rw[ho]at el hb
 simp only[ll]at el hb
 have nb:fb i≠0∧fb i≠1∧fb i≠2∧fb i≠k9:=⟨fun e=>(by rw[e,e0]at hb;cases hb),fun e=>(by rw[e,e1]at hb;cases hb),fun e=>(by rw[e,e2]at hb;cases hb),fun e=>(by rw[e,e9]at hb;cases hb)⟩
 constructor
 · intro c0
   have mg:=(rp.merge (k:=i) (by omega) ⟨(nth ws i).tags,rnN m t (nth ws i).whr (j+1)⟩ (by rw[ho]) (by rw[ho];simp only[Ff])).more [.box [I (cO m (nth (nth ws i).whr j) t).1.time,.t (tL (cO m (nth (nth ws i).whr j) t).1.frm)]]
   refine⟨_,?_,?_,?_,?_,?_,mg⟩
   · rw[c0]at g
     simp only[rnN]
     clear mg y3 ho
     generalize cO m (nth (nth ws i).whr j) t=r at*
     obtain⟨⟨t1,f1⟩,code⟩:=r
     generalize rnN m t (nth ws i).whr j=L at*
     generalize nth (nth ws i).whr j=w at*
     generalize nth ws i=x at*
     obtain⟨tags,whr⟩:=x
     obtain⟨tw,fw⟩:=w
     obtain⟨aa,roads⟩:=m
     simp only[rsV,ints,whs,ae]at*
     generalize fb i=b at*
     simp(disch:=omega)only[go_sem,K.jf,↓reduceIte,ex,ew,g,e0,e1,e2,e9,arr,len,el,hb,kQ,lJ,jK,Pa,oI,vn,reduceAdd,reduceSub]
   all_goals
    rw[kQ (by rw[List.length_set];omega),fv (by omega)]
    assumption
 · intro c0
   clear y3 ho
   generalize cO m (nth (nth ws i).whr j) t=r at*
   obtain⟨⟨t1,f1⟩,code⟩:=r
   generalize nth (nth ws i).whr j=w at*
   generalize nth ws i=x at*
   obtain⟨tags,whr⟩:=x
   obtain⟨tw,fw⟩:=w
   obtain⟨aa,roads⟩:=m
   simp only[rsV,ints,whs,ae]at*
   simp(disch:=omega)only[go_sem,K.jf,↓reduceIte,ex,ew,g,c0,e0,e1,e2,e9,kQ,lJ,jK,Pa,oI,vn,reduceAdd,reduceSub]
   refine⟨_,rfl,rfl,rfl,rfl,?_⟩
   show(List.set H 2 _++_)[2]?=_
   rw[kQ (by rw[List.length_set];exact l2),lK l2]
theorem aji{m:aC}(h:m.ok)(ws out:List World)(hol:out.length=ws.length)(t:Int)(k9:Nat){i:Nat}(hi:i<ws.length)(hz:(nth ws i).sz)(ho:nth out i=nth ws i)
 (H:aq) (es:List D) (fa fb:Nat→Nat) (hr:RnH m ws out k9 H es fa fb) (z0 z1 z6 z7 z8 z12 z13:D):
 ∃q,exS aH K.wB ⟨[z0,z1,I t,.bp 0 0,.bp 1 0,.bp 2 0,z6,z7,z8,.bp k9 0,I i,I 0,z12,z13],H⟩=some q∧
  ((∃H',q=(.exit 6,⟨rsV t k9 (I i) (I (nth ws i).whr.length),H'⟩)∧RnH m ws (out.set i (rnW m t (nth ws i))) k9 H' es fa fb∧rn0 m t (nth ws i).whr (nth ws i).whr.length)∨
   (q.1= .ret∧q.2.vs[5]?=some (.bp 2 0)∧(∃j,j<(nth ws i).whr.length∧(cO m (nth (nth ws i).whr j) t).2≠0∧q.2.vs[6]?=some (I (cO m (nth (nth ws i).whr j) t).2))∧q.2.H[2]?=some (.box [.t (.sl (ws.map World.e))]))):=by
 have y2:=hz.2.1
 refine VF (fun j st=>∃H,st=⟨rsV t k9 (I i) (I j),H⟩∧RnH m ws (out.set i ⟨(nth ws i).tags,rnN m t (nth ws i).whr j⟩) k9 H es fa fb∧rn0 m t (nth ws i).whr j) (nth ws i).whr.length _ ?_ ?_ ?_
 · refine⟨H,rfl,?_,fun k hk=>absurd hk (by omega)⟩
   have:out.set i ⟨(nth ws i).tags,rnN m t (nth ws i).whr 0⟩=out:=by
    show out.set i (nth ws i)=out
    rw[← ho,MH _ _ (by omega)]
   rw[this];exact hr
 · rintro j st hj ⟨H,rfl,hR,h0⟩
   have st:=ZK h ws (out.set i ⟨(nth ws i).tags,rnN m t (nth ws i).whr j⟩) (by rw[List.length_set];exact hol) t k9 hi hz hj (by rw[Cq _ _ (by omega),if_pos rfl]) H es fa fb hR
   by_cases c:(cO m (nth (nth ws i).whr j) t).2=0
   · obtain⟨H',a,b⟩:=st.1 c
     rw[List.set_set]at b
     refine .inl ⟨_,a,H',rfl,b,fun k hk=>?_⟩
     by_cases e:k=j
     · rw[e];exact c
     · exact h0 k (by omega)
   · obtain⟨q,a,b,d,e,f⟩:=st.2 c
     exact .inr ⟨q,a,by rw[b];simp,.inr ⟨b,d,⟨j,hj,c,e⟩,f⟩⟩
 · rintro st ⟨H,rfl,hR,h0⟩
   rw[Q3]at hR
   refine⟨(.exit 6,⟨rsV t k9 (I i) (I (nth ws i).whr.length),H⟩),?_,by simp,.inl ⟨H,rfl,hR,h0⟩⟩
   have ex:(ws.map World.e)[i]?=some (nth ws i).e:=bR _ hi
   have e1:=hR.e1
   have l1:=nu e1
   generalize nth ws i=x at*
   obtain⟨tags,whr⟩:=x
   simp only[rsV]at*
   simp(disch:=omega)only[go_sem,K.jf,↓reduceIte,ex,e1,reduceAdd,reduceSub]
def rnO(m:aC)(t:Int)(ws:List World):Nat→List World
 | 0=>ws
 | i+1=>(rnO m t ws i).set i (rnW m t (nth ws i))
theorem Q7(m:aC)(t:Int)(ws:List World):∀j,(rnO m t ws j).length=ws.length
 | 0=>rfl
 | j+1=>by simp only[rnO,List.length_set,Q7 m t ws j]
theorem Q8(m:aC)(t:Int)(l:List World):∀j,j≤l.length→rnO m t l j=(l.take j).map (rnW m t)++l.drop j
 | 0,_=>by simp[rnO]
 | j+1,h=>by
   rw[rnO,Q8 m t l j (by omega),ox (by omega:j<l.length),List.map_append]
   have e:l.drop j=nth l j::l.drop (j+1):=by rw[List.drop_eq_getElem_cons (by omega),bD (aLc (by omega:j<l.length))]
   rw[e,List.set_append_right _ _ (by simp;omega)]
   simp
   rw[show j-min j l.length=0 by omega];rfl
theorem ZL(m:aC)(t:Int)(l:List World){j:Nat}(h:j<l.length):nth (rnO m t l j) j=nth l j:=by
 rw[Q8 m t l j (by omega)]
 refine bD ?_
 rw[aLh (by simp;omega),List.getElem?_drop]
 simp only[List.length_map,List.length_take]
 rw[show j+(j-min j l.length)=j by omega,c7 h]
theorem aeW{m:aC}(h:m.ok)(ws:List World)(s1:ws.length≤1000000)(s2:∀x∈ws,x.sz)(t:Int)(k9:Nat)(H:aq)(es:List D)(fa fb:Nat→Nat)(hr:RnH m ws ws k9 H es fa fb)(z0 z1 z6 z7 z8 z11 z12 z13:D):
 ∃q,exS aH K.wC ⟨[z0,z1,I t,.bp 0 0,.bp 1 0,.bp 2 0,z6,z7,z8,.bp k9 0,I 0,z11,z12,z13],H⟩=some q∧
  ((∃H',q=(.exit 4,⟨rsV t k9 (I ws.length) .und,H'⟩)∧RnH m ws (ws.map (rnW m t)) k9 H' es fa fb∧∀i,i<ws.length→rn0 m t (nth ws i).whr (nth ws i).whr.length)∨
   (q.1= .ret∧q.2.vs[5]?=some (.bp 2 0)∧(∃i j,i<ws.length∧j<(nth ws i).whr.length∧(cO m (nth (nth ws i).whr j) t).2≠0∧q.2.vs[6]?=some (I (cO m (nth (nth ws i).whr j) t).2))∧q.2.H[2]?=some (.box [.t (.sl (ws.map World.e))]))):=by
 refine VF (fun i st=>∃H,st=⟨rsV t k9 (I i) .und,H⟩∧RnH m ws (rnO m t ws i) k9 H es fa fb∧∀k,k<i→rn0 m t (nth ws k).whr (nth ws k).whr.length) ws.length _ ?_ ?_ ?_
 · exact⟨H,rfl,hr,fun k hk=>absurd hk (by omega)⟩
 · rintro i st hi ⟨H,rfl,hR,h0⟩
   have e1:=hR.e1
   have l1:=nu e1
   obtain⟨q,hq,hQ⟩:=aji h ws (rnO m t ws i) (Q7 m t ws i) t k9 hi (s2 _ (ai hi)) (ZL m t ws hi) H es fa fb hR .und .und .und .und .und .und .und
   rcases hQ with⟨H',rfl,hR',h1⟩ | ⟨b,d,⟨j,hj,c,e⟩,f⟩
   · refine .inl ⟨⟨rsV t k9 (I (i+1)) .und,H'⟩,?_,H',rfl,hR',fun k hk=>?_⟩
     · simp only[rsV]at*
       simp(disch:=omega)only[go_sem,K.mF,↓reduceIte,e1,hq,reduceAdd,reduceSub]
     · by_cases ek:k=i
       · rw[ek];exact h1
       · exact h0 k (by omega)
   · obtain⟨x,vs,H2⟩:=q
     simp only at b d e f
     subst b
     refine .inr ⟨(.ret,⟨vs,H2⟩),?_,by simp,.inr ⟨rfl,d,⟨i,j,hi,hj,c,e⟩,f⟩⟩
     simp only[rsV]at*
     simp(disch:=omega)only[go_sem,K.mF,↓reduceIte,e1,hq,reduceAdd,reduceSub]
 · rintro st ⟨H,rfl,hR,h0⟩
   have e1:=hR.e1
   have l1:=nu e1
   have fin:rnO m t ws ws.length=ws.map (rnW m t):=by rw[Q8 m t ws ws.length (aLs _)];simp
   rw[fin]at hR
   refine⟨(.exit 4,⟨rsV t k9 (I ws.length) .und,H⟩),?_,by simp,.inl ⟨H,rfl,hR,h0⟩⟩
   simp only[rsV]
   simp(disch:=omega)only[go_sem,K.mF,↓reduceIte,e1,reduceAdd,reduceSub]
theorem VX(m:aC)(t:Int)(l:List Wh)(h:∀j,j<l.length→(cO m (nth l j) t).2≠6){e:Int}(he:e=0∨e=8):∀j,j≤l.length→(rnE m t l e j=0∨rnE m t l e j=8)∧(rnE m t l e j=0↔e=0∧rn0 m t l j)
 | 0,_=>⟨he,⟨fun h=>⟨h,fun k hk=>absurd hk (by omega)⟩,fun h=>h.1⟩⟩
 | j+1,hj=>by
   obtain⟨a,b⟩:=VX m t l h he j (by omega)
   have c:=(Bm m t (nth l j)).2
   have d:=h j (by omega)
   have s:rn0 m t l (j+1)↔rn0 m t l j∧(cO m (nth l j) t).2=0:=by
    constructor
    · exact fun x=>⟨fun k hk=>x k (by omega),x j (by omega)⟩
    · rintro ⟨x,y⟩ k hk
      by_cases e:k=j
      · rw[e];exact y
      · exact x k (by omega)
   simp only[rnE]
   by_cases e0:rnE m t l e j=0
   · rw[if_pos e0]
     refine⟨by omega,?_⟩
     rw[s]
     have:=b.1 e0
     constructor
     · exact fun x=>⟨this.1,this.2,x⟩
     · exact fun x=>x.2.2
   · rw[if_neg e0]
     refine⟨a,?_⟩
     rw[s]
     constructor
     · exact fun x=>absurd x e0
     · exact fun x=>b.2 ⟨x.1,x.2.1⟩
theorem Lv(m:aC)(t:Int)(ws:List World)(h:∀i,i<ws.length→∀j,j<(nth ws i).whr.length→(cO m (nth (nth ws i).whr j) t).2≠6):∀i,i≤ws.length→(rnX m t ws 0 i=0∨rnX m t ws 0 i=8)∧(rnX m t ws 0 i=0↔∀k,k<i→rn0 m t (nth ws k).whr (nth ws k).whr.length)
 | 0,_=>⟨.inl rfl,⟨fun _ k hk=>absurd hk (by omega),fun _=>rfl⟩⟩
 | i+1,hi=>by
   obtain⟨a,b⟩:=Lv m t ws h i (by omega)
   obtain⟨c,d⟩:=VX m t (nth ws i).whr (h i (by omega)) a (nth ws i).whr.length (aLs _)
   simp only[rnX]
   refine⟨c,?_⟩
   rw[d,b]
   constructor
   · rintro ⟨x,y⟩ k hk
     by_cases e:k=i
     · rw[e];exact y
     · exact x k (by omega)
   · exact fun x=>⟨fun k hk=>x k (by omega),x i (by omega)⟩
theorem Bo{m:aC}{t:Int}{ws:List World}(h:(List.range ws.length).find? (rx6 m t ws)=none):∀i,i<ws.length→∀j,j<(nth ws i).whr.length→(cO m (nth (nth ws i).whr j) t).2≠6:=by
 intro i hi j hj e
 have a:=List.find?_eq_none.1 h i (aLu.2 hi)
 apply a
 unfold rx6
 rw[List.find?_isSome]
 exact⟨j,aLu.2 hj,decide_eq_true e⟩
theorem M7{H:aq}{cs:List D}{x:T}(e:Go.Ev.frz H depth (.agg cs)=some x)(c:Int):finish 0 0 H [.agg cs,I c]=some (.tup [.t x,I c],[]):=by
 have o1:[D.t x,I c].all (old 0 depth)=true:=by simp[old]
 unfold finish
 simp only[if_true,cg,xG,e,aLw,aLq,o1,List.take_zero,List.all_nil,Bool.and_self,jP,wG]
 rw[if_pos (by simp[gI])]
theorem Rp.DH{H:aq}{id:Nat}{es:List D}{fa fb:Nat→Nat}{out:List World}(hr:Rp H id es fa fb out){k:Nat}{cs:List D}(hk:H[k]?=some (.box cs))(o:Obj):Rp (H.set k o) id es fa fb out:=by
 have ne:∀ {i:Nat} {sz ep:Nat} {p:Bool} {l:List D},H[i]?=some (.arr sz p ep l)→k≠i:=fun h e=>by rw[← e,hk]at h;cases h
 exact⟨by rw[fv (ne hr.arr)];exact hr.arr,hr.len,hr.el,fun j hj=>by rw[fv (ne (hr.ha j hj))];exact hr.ha j hj,fun j hj=>by rw[fv (ne (hr.hb j hj))];exact hr.hb j hj,hr.na,hr.nb,hr.nab,hr.nbb⟩
theorem Q9{m:aC}(h:m.ok)(b:Bel)(hs:b.sz)(t:Int):
 aH 0 N.eO [.t m.e,.t b.e,I t] []=some (.tup [.t (cy m b t).1.e,I (cy m b t).2],[]):=by
 refine av K.sC rfl ?_
 have ck:=pO h
 have cb:=vo b hs
 have cb2:=Jq b hs
 obtain⟨ws⟩:=b
 obtain⟨s1,s2⟩:=hs
 unfold cy
 simp only at s1 s2 ⊢
 by_cases c1:ws.length<1
 · rw[if_pos (.inl c1)]
   obtain⟨aa,roads⟩:=m
   simp only[ae]at*
   simp(disch:=omega)only[go_sem,K.eO,↓reduceIte,ck,cb,c1,reduceAdd,reduceSub]
 · by_cases c2:24<ws.length
   · rw[if_pos (.inr c2)]
     obtain⟨aa,roads⟩:=m
     simp only[ae]at*
     simp(disch:=omega)only[go_sem,K.eO,↓reduceIte,ck,cb,c1,c2,reduceAdd,reduceSub]
   · rw[if_neg (by omega)]
     have ro:=fun z0 z1 z6 z8 z9 z10 z11 z12 z13=>aeV m ws s1 s2 t z0 z1 z6 z8 z9 z10 z11 z12 z13
     rcases ro (.t m.e) (.t (Bel.e ⟨ws⟩)) (I 0) .und .und .und .und .und .und with⟨e1,e2⟩ | ⟨j,⟨x,vs,H⟩,e1,e2,e3,e4,e5,e6⟩
     · rw[e1]
       obtain⟨x1,x2⟩:=Lv m t ws (Bo e1) ws.length (aLs _)
       have hR:RnH m ws ws (2*ws.length+1+1+1+1) ([.box (ae m),.box [.t (.sl (ws.map World.e))],.box [.nil]]++cpH 3 ws++[.box [.ref 3 0 ws.length]]) ((List.range ws.length).map (Ty 3 ws)) (fun j=>3+2*j+1) (fun j=>3+2*j+2):=by
        refine⟨rfl,rfl,rfl,?_,aja rfl ws _⟩
        have:=Y8 (a:=[.box (ae m),.box [.t (.sl (ws.map World.e))],.box [.nil]]) (b:=cpH 3 ws) (t:=[.box [.ref 3 0 ws.length]])
        rw[CA]at this
        rw[show 2*ws.length+1+1+1+1=3+(2*ws.length+1)by omega]
        exact this
       have gA:∀o:Obj,(cpH 3 ws++[o])[2*ws.length+1]?=some o:=fun o=>by
        rw[aLh (by rw[CA];omega),CA,Nat.sub_self];rfl
       have gS:∀o o2:Obj,(cpH 3 ws++[o]).set (2*ws.length+1) o2=cpH 3 ws++[o2]:=fun o o2=>by
        rw[List.set_append_right _ _ (by rw[CA];omega),CA,Nat.sub_self];rfl
       have n6:=Bo e1
       obtain⟨q,hq,hQ⟩:=aeW h ws s1 s2 t _ _ _ _ _ hR .und .und .und (I ws.length) .und .und .und .und
       have cl:=CA 3 ws
       clear ro e1
       rcases hQ with⟨H',rfl,hR',h0⟩ | ⟨b,d,⟨i,j,hi,hj,cc,ee⟩,f⟩
       · have z0:=x2.2 h0
         rw[if_neg (by omega)]
         have g2:=hR'.e2
         have fz:∀o:Obj,finish 0 0 (H'.set 2 o) [.agg [.ref 3 0 ws.length],I 0]=some (.tup [.t (.agg [.sl ((ws.map (rnW m t)).map World.e)]),I 0],[]):=fun o=>by
          refine M7 ?_ 0
          have rp:=hR'.rp.DH g2 o
          have ha:iQ (H'.set 2 o) 3 0 ws.length=some (2,false,(List.range ws.length).map (Ty 3 ws)):=by simp only[iQ,rp.arr];rw[if_pos ⟨trivial,by simp⟩]
          show(cg (Go.Ev.frz (H'.set 2 o) 7) [.ref 3 0 ws.length]).map T.agg=_
          have e7:Go.Ev.frz (H'.set 2 o) 7 (.ref 3 0 ws.length)=some (.sl ((ws.map (rnW m t)).map World.e)):=by
           show((iQ (H'.set 2 o) 3 0 ws.length).bind fun a=>cg (Go.Ev.frz (H'.set 2 o) 6) a.2.2).map T.sl=_
           rw[ha,aLq,rp.in6.1];rfl
          simp only[cg,e7,aLq,aLw]
         have g9:=hR'.e9
         have l2:=nu g2
         have l9:=nu g9
         clear hR hR' h0 x1 x2 s2 z0
         generalize ws.map (rnW m t)=L at*
         obtain⟨aa,roads⟩:=m
         simp only[ae,rrH,rsV,List.cons_append,List.nil_append]at*
         simp(disch:=omega)only[go_sem,K.eO,↓reduceIte,ck,cb,cb2,c1,c2,e2,cl,K7,K6,gA,gS,hq,g9,g2,lK,fz,reduceAdd,reduceSub]
       · have n8:(cO m (nth (nth ws i).whr j) t).2=8:=by
          have:=(Bm m t (nth (nth ws i).whr j)).2
          have:=n6 i hi j hj
          omega
         have e8:rnX m t ws 0 ws.length=8:=by
          have:rnX m t ws 0 ws.length≠0:=fun e=>cc (x2.1 e i hi j hj)
          omega
         rw[e8,if_pos (by omega)]
         rw[n8]at ee
         obtain⟨x,vs,H⟩:=q
         simp only at b d ee f
         subst b
         clear hR x1 x2 s2 n6 e8
         obtain⟨aa,roads⟩:=m
         simp only[ae,rrH,rsV,List.cons_append,List.nil_append]at*
         simp(disch:=omega)only[go_sem,K.eO,↓reduceIte,ck,cb,cb2,c1,c2,e2,cl,K7,K6,gA,gS,hq,d,ee,f,reduceAdd,reduceSub]
     · rw[e1]
       simp only at e3 e4 e5 e6
       subst e3
       clear ro e1
       obtain⟨aa,roads⟩:=m
       simp only[ae,rrH]at*
       simp(disch:=omega)only[go_sem,K.eO,↓reduceIte,ck,cb,c1,c2,e2,e4,e5,e6,reduceAdd,reduceSub]
end Go.Ev
namespace Go.Ev
open Go
variable [Lib] [bX] [bJ] [fR] [fS] [iK] [fy] [fo] [gU] [fM] [cV] [cI] [fB] [eu] [jb] [iE] [gl] [eQ] [jj]
theorem ZM(n:Int)(h0:0≤n)(h1:n≤4294967296):aH 1 N.cj [.nil,I n] []=some (.ref 0 0 0,[.arr 1 false 0 []]):=by
 refine B5 K.kj (by simp[K.cj]) ?_
 show(if 0≤n∧n≤4294967296 then _ else _)=_
 rw[if_pos ⟨h0,h1⟩]
 rfl
def agU(a b:List Int):Nat→Nat
 | 0=>0
 | 1=>a.length
 | _=>a.length+b.length
def aeX(a b:List Int):Nat→List Int
 | 0=>[]
 | 1=>a
 | _=>a++b
theorem Ra(a b:List Int)(ha:a.length≤100000)(hb:b.length≤100000):aH 1 N.bC [.t (.sl [tL a,tL b])] []=some (.ref 0 0 (a++b).length,[pT (a++b)]):=by
 refine av K.jz rfl ?_
 have gr:=ZM (a.length+b.length) (by omega) (by omega)
 have l1:∀z1 z3 z4 z5 z9 z10 z11:D,exS aH K.lQ ⟨[.t (.sl [tL a,tL b]),z1,I 0,z3,z4,z5,.t (.sl [tL a,tL b]),I 2,I 0,z9,z10,z11],[]⟩=
  some (.exit 0,⟨[.t (.sl [tL a,tL b]),.und,I (a.length+b.length),.und,.und,.und,.t (.sl [tL a,tL b]),I 2,I 2,.und,.und,.und],[]⟩):=by
  intro z1 z3 z4 z5 z9 z10 z11
  refine bz (fun j=>⟨[.t (.sl [tL a,tL b]),.und,I (agU a b j),.und,.und,.und,.t (.sl [tL a,tL b]),I 2,I j,.und,.und,.und],[]⟩) 2 rfl ?_ ?_ (by simp)
  · intro j hj
    have:j=0∨j=1:=by omega
    rcases this with rfl | rfl
    · simp only[agU]
      simp(disch:=omega)only[go_sem,K.fW,↓reduceIte,Int.natCast_zero,Int.zero_add,reduceAdd,reduceSub]
    · simp only[agU]
      simp(disch:=omega)only[go_sem,K.fW,↓reduceIte,reduceAdd,reduceSub]
      rfl
  · simp only[agU]
    simp(disch:=omega)only[go_sem,K.fW,↓reduceIte,reduceAdd,reduceSub]
 have l2:∀z0 z1 z2 z3 z5 z6 z7 z8:D,exS aH K.lT ⟨[z0,z1,z2,z3,.ref 0 0 0,z5,z6,z7,z8,.t (.sl [tL a,tL b]),I 2,I 0],[pT []]⟩=
  some (.exit 2,⟨[.und,.und,.und,.und,.ref 0 0 (a++b).length,.und,.und,.und,.und,.t (.sl [tL a,tL b]),I 2,I 2],[pT (a++b)]⟩):=by
  intro z0 z1 z2 z3 z5 z6 z7 z8
  refine bz (fun j=>⟨[.und,.und,.und,.und,.ref 0 0 (aeX a b j).length,.und,.und,.und,.und,.t (.sl [tL a,tL b]),I 2,I j],[pT (aeX a b j)]⟩) 2 rfl ?_ ?_ (by simp)
  · intro j hj
    have:j=0∨j=1:=by omega
    rcases this with rfl | rfl
    · simp only[aeX]
      simp(disch:=omega)only[go_sem,K.fX,↓reduceIte,reduceAdd,reduceSub]
    · simp only[aeX]
      simp(disch:=omega)only[go_sem,K.fX,↓reduceIte,reduceAdd,reduceSub]
      simp only[pT,List.map_append]
      rfl
  · simp only[aeX]
    simp(disch:=omega)only[go_sem,K.fX,↓reduceIte,reduceAdd,reduceSub]
 generalize hc:a++b=c at l2 ⊢
 simp(disch:=omega)only[go_sem,K.bC,↓reduceIte,l1,gr,reduceAdd,reduceSub]
 refine ig (l2 _ _ _ _ _ _ _ _) ?_
 simp(disch:=omega)only[go_sem,K.bC,↓reduceIte,reduceAdd,reduceSub]
theorem Rb(l:List Int):(∀i,i<l.length→ik l i=true)∨∃k,1≤k∧k<l.length∧ik l k=false∧∀i,i<k→ik l i=true:=by
 by_cases h:∀i,i<l.length→ik l i=true
 · exact .inl h
 · right
   have:∃k,k<l.length∧ik l k=false:=by
    apply Classical.byContradiction
    intro hn
    exact h fun i hi=>by
     cases hc:ik l i with
     | true=>rfl
     | false=>exact absurd ⟨i,hi,hc⟩ hn
   obtain⟨k,hk,hf⟩:=this
   induction k using Nat.strongRecOn with
   | ind k ih=>
     by_cases hx:∀i,i<k→ik l i=true
     · refine⟨k,?_,hk,hf,hx⟩
       by_cases c:k=0
       · subst c;simp[ik]at hf
       · omega
     · have:∃i,i<k∧ik l i=false:=by
        apply Classical.byContradiction
        intro hn
        exact hx fun i hi=>by
         cases hc:ik l i with
         | true=>rfl
         | false=>exact absurd ⟨i,hi,hc⟩ hn
       obtain⟨i,h1,h2⟩:=this
       exact ih i h1 (by omega) h2
theorem aeY(l:List Int)(hl:l.length≤200000)(k:Nat)(h1:1≤k)(hk:k<l.length)(hf:ik l k=false)(hx:∀i,i<k→ik l i=true)(z1:D):
 exS aH K.kY ⟨[.ref 0 0 l.length,z1,I k,.sub 0 0 l.length k l.length,I 1],[pT l]⟩=
  some (.exit 2,⟨[.ref 0 0 l.length,.und,I (CI l).length,.sub 0 0 l.length k l.length,I (l.length-k)],[pT (kA (ik l) l l.length)]⟩):=by
 obtain⟨e1,e2⟩:=E9 (ik l) l hk hx hf
 refine bz (fun i=>⟨[.ref 0 0 l.length,.und,I (kN (ik l) l (k+1+i)).length,.sub 0 0 l.length k l.length,I (1+i:Nat)],[pT (kA (ik l) l (k+1+i))]⟩) (l.length-(k+1)) ?_ ?_ ?_ (by simp)
 · simp only[Nat.add_zero,e1,e2]
   rfl
 · intro i hi
   have hj:k+1+i<l.length:=by omega
   have kl:(kN (ik l) l (k+1+i)).length≤k+i:=by
    have key:∀i,(kN (ik l) l (k+1+i)).length≤k+i:=by
     intro i
     induction i with
     | zero=>rw[Nat.add_zero,e2];omega
     | succ i ih=>
       rw[show k+1+(i+1)=(k+1+i)+1 from rfl,uU]
       split<;>simp<;>omega
    exact key i
   have n1:=Ln (ik l) l (k+1+i) (i:=k+1+i) (by omega)
   have n2:=Ln (ik l) l (k+1+i) (i:=k+i) (by omega)
   have ln:=yP (ik l) l (j:=k+1+i) (by omega)
   have st:=QN (ik l) l hj
   have sm:=E8 (ik l) l (j:=k+1+i)
   have sp:=uU (ik l) l (k+1+i)
   have fb:ik l (k+1+i)=decide (nth l (k+1+i)≠nth l (k+i)):=by
    unfold ik
    rw[decide_eq_false (by omega),Bool.false_or,show k+1+i-1=k+i by omega]
   rw[show k+1+(i+1)=k+1+i+1 from rfl]
   generalize kA (ik l) l (k+1+i)=A at*
   generalize kN (ik l) l (k+1+i)=F at*
   have x1:nth A (k+(1+i))=nth l (k+1+i):=by rw[← n1];congr 1;omega
   have x2:nth A (k+i)=nth l (k+i):=n2
   have t1:(1+(i:Int)).toNat=1+i:=by omega
   have t2:(1+(i:Int)-1).toNat=i:=by omega
   by_cases c:nth l (k+1+i)=nth l (k+i)
   · rw[(sm (by rw[fb];simp[c])).1,(sm (by rw[fb];simp[c])).2]
     simp(disch:=omega)only[go_sem,K.fp,↓reduceIte,t1,t2,x1,x2,c,not_true_eq_false,Int.add_assoc,reduceAdd,reduceSub]
   · rw[← st (by rw[fb];simp[c]),sp,if_pos (by rw[fb];simp[c])]
     simp(disch:=omega)only[go_sem,K.fp,↓reduceIte,t1,t2,x1,x2,c,IS,aLv,List.length_singleton,not_false_eq_true,Int.add_assoc,reduceAdd,reduceSub]
 · have:k+1+(l.length-(k+1))=l.length:=by omega
   rw[this]
   have ln:=yP (ik l) l (j:=l.length) (aLs _)
   unfold CI
   generalize kA (ik l) l l.length=A at*
   generalize kN (ik l) l l.length=F at*
   have t3:(1:Int)+((l.length-(k+1):Nat):Int)=(l.length:Int)-k:=by omega
   simp(disch:=omega)only[go_sem,K.fp,↓reduceIte,t3,reduceAdd,reduceSub]
theorem Rc(l:List Int)(hl:l.length≤200000)(h2:2≤l.length)(h:∀i,i<l.length→ik l i=true)(z1 z3 z4:D):
 exS aH K.iP ⟨[.ref 0 0 l.length,z1,I 1,z3,z4],[pT l]⟩=some (.exit 0,⟨[.ref 0 0 l.length,.und,I l.length,.und,.und],[pT l]⟩):=by
 refine bz (fun i=>⟨[.ref 0 0 l.length,.und,I (1+i:Nat),.und,.und],[pT l]⟩) (l.length-1) rfl ?_ ?_ (by simp)
 · intro i hi
   have fb:=h (1+i) (by omega)
   have c:¬nth l (1+i)=nth l i:=by
    unfold ik at fb
    rw[decide_eq_false (by omega),Bool.false_or,show 1+i-1=i by omega]at fb
    simpa using fb
   have t1:(1+(i:Int)).toNat=1+i:=by omega
   have t2:(1+(i:Int)-1).toNat=i:=by omega
   simp(disch:=omega)only[go_sem,K.cL,↓reduceIte,t1,t2,c,Int.add_assoc,reduceAdd,reduceSub]
 · have t3:(1:Int)+((l.length-1:Nat):Int)=(l.length:Int):=by omega
   simp(disch:=omega)only[go_sem,K.cL,↓reduceIte,t3,reduceAdd,reduceSub]
theorem M8(l:List Int)(hl:l.length≤200000)(k:Nat)(h1:1≤k)(hk:k<l.length)(hf:ik l k=false)(hx:∀i,i<k→ik l i=true)(z1 z3 z4:D):
 exS aH K.iP ⟨[.ref 0 0 l.length,z1,I 1,z3,z4],[pT l]⟩=some (.ret,⟨[.ref 0 0 l.length,.ref 0 1 (CI l).length,I (CI l).length,.sub 0 0 l.length k l.length,I (l.length-k)],[.arr 1 false 1 (((CI l).map (T.int .i64)).map .t)]⟩):=by
 have key:=Bf (vs:=[.ref 0 0 l.length,z1,I 1,z3,z4]) (H:=[pT l]) (c:=K.cL) (gc:=true) (dead:=[1,3,4])
  (fun i st=>st=⟨[.ref 0 0 l.length,.und,I (1+i:Nat),.und,.und],[pT l]⟩) (k-1) (fun q=>q=(.ret,⟨[.ref 0 0 l.length,.ref 0 1 (CI l).length,I (CI l).length,.sub 0 0 l.length k l.length,I (l.length-k)],[.arr 1 false 1 (((CI l).map (T.int .i64)).map .t)]⟩)) rfl ?_ ?_
 · obtain⟨q,h1,rfl⟩:=key
   exact h1
 · rintro i st hi rfl
   have fb:=hx (1+i) (by omega)
   have c:¬nth l (1+i)=nth l i:=by
    unfold ik at fb
    rw[decide_eq_false (by omega),Bool.false_or,show 1+i-1=i by omega]at fb
    simpa using fb
   have t1:(1+(i:Int)).toNat=1+i:=by omega
   have t2:(1+(i:Int)-1).toNat=i:=by omega
   refine⟨_,?_,rfl⟩
   simp(disch:=omega)only[go_sem,K.cL,↓reduceIte,t1,t2,c,Int.add_assoc,reduceAdd,reduceSub]
 · rintro st rfl
   rw[show 1+(k-1)=k by omega]
   have c:nth l k=nth l (k-1):=by
    unfold ik at hf
    rw[decide_eq_false (by omega),Bool.false_or]at hf
    simpa using hf
   have t2:((k:Int)-1).toNat=k-1:=by omega
   have l2:=aeY l hl k h1 hk hf hx
   have cl:(CI l).length≤l.length:=AG _ _ _
   have ln:=yP (ik l) l (j:=l.length) (aLs _)
   have tk:(kA (ik l) l l.length).take (CI l).length=CI l:=by
    unfold kA CI
    rw[List.take_left]
   generalize kA (ik l) l l.length=A at*
   generalize CI l=U at*
   have al3:l.length=(List.map D.t (List.map (T.int .i64) A)).length:=by simp[ln]
   have al5:l.length=(List.take U.length (List.map D.t (List.map (T.int .i64) A))++List.replicate (l.length-U.length) (D.t (T.int .i64 0))++List.drop l.length (List.map D.t (List.map (T.int .i64) A))).length:=by
    simp only[aLv,List.length_take,List.length_replicate,List.length_drop,List.length_map]
    omega
   have ta:List.take U.length (List.map D.t (List.map (T.int .i64) A))=List.map D.t (List.map (T.int .i64) U):=by rw[← List.map_take,←List.map_take,tk]
   have ta2:∀x y:List D,List.take U.length (List.take U.length (List.map D.t (List.map (T.int .i64) A))++x++y)=List.map D.t (List.map (T.int .i64) U):=by
    intro x y
    rw[ta,List.append_assoc,List.take_left' (by simp)]
   refine⟨_,?_,?_,rfl⟩
   · simp(disch:=omega)only[go_sem,K.cL,↓reduceIte,t2,c,l2,ta2,reduceAdd,reduceSub]
   · simp
abbrev wE(l:List Int)(ep:Nat):Obj:= .arr 1 false ep ((l.map (T.int .i64)).map .t)
theorem ZN{l:List Int}(h:∀i,i<l.length→ik l i=true):CI l=l:=by
 unfold CI
 rw[QO _ _ (aLs _) h,List.take_length]
theorem M9(l:List Int)(hl:l.length≤200000):∃ep,aH 1 N.bc [.ref 0 0 l.length] [pT l]=some (.ref 0 ep (CI l).length,[wE (CI l) ep]):=by
 rcases Rb l with h | ⟨k,h1,hk,hf,hx⟩
 · refine⟨0,av K.gy rfl ?_⟩
   rw[ZN h]
   by_cases h2:l.length<2
   · simp(disch:=omega)only[go_sem,K.bc,↓reduceIte,h2,reduceAdd,reduceSub]
   · have l1:=Rc l hl (by omega) h
     simp(disch:=omega)only[go_sem,K.bc,↓reduceIte,h2,l1,reduceAdd,reduceSub]
 · refine⟨1,av K.gy rfl ?_⟩
   have l1:=M8 l hl k h1 hk hf hx
   have h2:¬l.length<2:=by omega
   generalize CI l=U at*
   simp(disch:=omega)only[go_sem,K.bc,↓reduceIte,h2,reduceAdd,reduceSub]
   refine ig (l1 _ _ _) ?_
   simp(disch:=omega)only[go_sem,K.bc,↓reduceIte,reduceAdd,reduceSub]
theorem Fg(a b:List Int)(ha:a.length≤100000)(hb:b.length≤100000):∃ep,aH 1 N.iL [.t (tL a),.t (tL b)] []=some (.ref 0 ep (QP a b).length,[wE (QP a b) ep]):=by
 have cc:=Ra a b ha hb
 have sl:=ka (a++b)
 have ab:(a++b).length≤200000:=by rw[aLv];omega
 have so:=YV 0 (a++b) (by omega)
 obtain⟨ep,co⟩:=M9 (iS (a++b)) (by omega)
 refine⟨ep,av K.sJ rfl ?_⟩
 unfold QP
 rw[sl]at co
 generalize hc:a++b=c at*
 generalize iS c=d at*
 generalize CI d=u at*
 clear hc
 simp(disch:=omega)only[go_sem,K.iL,↓reduceIte,cc,so,co,reduceAdd,reduceSub]
section
variable (F : Nat) (q : Int → Bool) (t1 : T) (l : List Int) (hq : ∀ x, x ∈ l → aH 0 F [I x, .bp 0 0] [.box [.t t1]] = some (B (q x), [.box [.t t1]]))
include hq
theorem Uc(hl:l.length≤1000000)(ep:Nat):
 aH 0 N.aI [.ref 0 ep l.length,.fn F [.bp 1 0]] [wE l ep,.box [.t t1]]=
  some (I (match (List.range l.length).find? (fun j=>q (nth l j))with | some j=>(j:Int) | none=> -1),[wE l ep,.box [.t t1]]):=by
 refine av K.dD rfl ?_
 have loop:∀z2 z3:D,exS aH K.eL ⟨[.ref 0 ep l.length,.fn F [.bp 1 0],z2,z3,I l.length,I 0],[wE l ep,.box [.t t1]]⟩=
  some (match (List.range l.length).find? (fun j=>q (nth l j))with
   | some j=>(.ret,⟨[.ref 0 ep l.length,.fn F [.bp 1 0],I j,I j,I l.length,I j],[wE l ep,.box [.t t1]]⟩)
   | none=>(.exit 0,⟨[.ref 0 ep l.length,.fn F [.bp 1 0],.und,.und,I l.length,I l.length],[wE l ep,.box [.t t1]]⟩)):=by
  intro z2 z3
  refine cq (fun j=>⟨[.ref 0 ep l.length,.fn F [.bp 1 0],.und,.und,I l.length,I j],[wE l ep,.box [.t t1]]⟩) l.length (fun j=>q (nth l j)) _ _ rfl ?_ ?_ ?_ (by simp)
  · intro j hj hp'
    have b1:=hq _ (ai hj)
    rw[hp']at b1
    simp(disch:=omega)only[go_sem,K.aX,↓reduceIte,b1,reduceAdd,reduceSub]
  · intro j hj hp'
    have b1:=hq _ (ai hj)
    rw[hp']at b1
    refine⟨?_,by simp⟩
    simp(disch:=omega)only[go_sem,K.aX,↓reduceIte,b1,reduceAdd,reduceSub]
  · simp(disch:=omega)only[go_sem,K.aX,↓reduceIte,reduceAdd,reduceSub]
 cases hf:(List.range l.length).find? (fun j=>q (nth l j))with
 | some j=>
   rw[hf]at loop
   simp(disch:=omega)only[go_sem,K.aI,↓reduceIte,loop,reduceAdd,reduceSub]
 | none=>
   rw[hf]at loop
   simp(disch:=omega)only[go_sem,K.aI,↓reduceIte,loop,reduceAdd,reduceSub]
theorem Na(hl:l.length≤1000000)(ep:Nat)(i:Nat)(hi:i<l.length)(hp:q (nth l i)=true)(hx:∀k,k<i→q (nth l k)=false)(z2 z5:D):
 exS aH K.gK ⟨[.ref 0 ep l.length,.fn F [.bp 1 0],z2,I i,I (i+1),z5],[wE l ep,.box [.t t1]]⟩=
  some (.exit 0,⟨[.ref 0 ep l.length,.fn F [.bp 1 0],.und,I (kN (fun i=> !q (nth l i)) l l.length).length,I l.length,.und],[wE (kA (fun i=> !q (nth l i)) l l.length) ep,.box [.t t1]]⟩):=by
 obtain⟨e1,e2⟩:=E9 (fun i=> !q (nth l i)) l hi (fun k hk=>by simp only[hx k hk,Bool.not_false]) (by simp only[hp,Bool.not_true])
 refine bz (fun k=>⟨[.ref 0 ep l.length,.fn F [.bp 1 0],.und,I (kN (fun i=> !q (nth l i)) l (i+1+k)).length,I ((i+1+k:Nat)),.und],[wE (kA (fun i=> !q (nth l i)) l (i+1+k)) ep,.box [.t t1]]⟩) (l.length-(i+1)) ?_ ?_ ?_ (by simp)
 · simp only[Nat.add_zero,e1,e2]
   rfl
 · intro k hk
   have hj:i+1+k<l.length:=by omega
   rw[show i+1+(k+1)=i+1+k+1 from rfl]
   generalize i+1+k=j at*
   have tq:=hq _ (ai hj)
   have dl:=AG (fun i=> !q (nth l i)) l j
   have ln:=yP (fun i=> !q (nth l i)) l (j:=j) (by omega)
   have nx:=Ln (fun i=> !q (nth l i)) l j (i:=j) dl
   have st:=QN (fun i=> !q (nth l i)) l hj
   have sm:=E8 (fun i=> !q (nth l i)) l (j:=j)
   have sp:=uU (fun i=> !q (nth l i)) l j
   generalize kA (fun i=> !q (nth l i)) l j=A at*
   generalize kN (fun i=> !q (nth l i)) l j=G at*
   cases hc:q (nth l j)with
   | true=>
     rw[hc]at tq sm
     rw[(sm rfl).1,(sm rfl).2]
     simp(disch:=omega)only[go_sem,K.bF,↓reduceIte,tq,nx,Bool.not_true,reduceAdd,reduceSub]
   | false=>
     rw[hc]at tq st sp
     rw[← st rfl,sp,if_pos (show(!false)=true from rfl)]
     simp(disch:=omega)only[go_sem,K.bF,↓reduceIte,tq,nx,Bool.not_false,aLv,List.length_singleton,IS,reduceAdd,reduceSub]
 · have:i+1+(l.length-(i+1))=l.length:=by omega
   rw[this]
   have ln:=yP (fun i=> !q (nth l i)) l (j:=l.length) (aLs _)
   generalize kA (fun i=> !q (nth l i)) l l.length=A at*
   generalize kN (fun i=> !q (nth l i)) l l.length=G at*
   simp(disch:=omega)only[go_sem,K.bF,↓reduceIte,reduceAdd,reduceSub]
theorem Ud(hl:l.length≤1000000)(ep:Nat):
 ∃ep',aH 1 N.aL [.ref 0 ep l.length,.fn F [.bp 1 0]] [wE l ep,.box [.t t1]]=
  some (.ref 0 ep' (l.filter fun x=> !q x).length,[wE (l.filter fun x=> !q x) ep',.box [.t t1]]):=by
 have ix:=Uc F q t1 l hq hl ep
 cases hf:(List.range l.length).find? (fun j=>q (nth l j))with
 | none=>
   refine⟨ep,av K.cG rfl ?_⟩
   rw[hf]at ix
   have de:l.filter (fun x=> !q x)=l:=by
    rw[List.filter_eq_self]
    intro e he
    obtain⟨j,hj,rfl⟩:=List.mem_iff_getElem.1 he
    have:=List.find?_eq_none.1 hf j (aLu.2 hj)
    have e2:nth l j=l[j]:=bD (aLc hj)
    rw[e2]at this
    simpa using this
   rw[de]
   simp(disch:=omega)only[go_sem,K.aL,↓reduceIte,ix,reduceAdd,reduceSub]
 | some i=>
   refine⟨ep+1,av K.cG rfl ?_⟩
   rw[hf]at ix
   have hi:=aLu.1 (List.mem_of_find?_eq_some hf)
   have hp:=List.find?_some hf
   have lt:∀j,j<i→q (nth l j)=false:=by
    intro j hj
    have:=(List.find?_range_eq_some.1 hf).2.2 j hj
    simpa using this
   have lp:=Na F q t1 l hq hl ep i hi hp lt
   have dl:=AG (fun i=> !q (nth l i)) l l.length
   have al2:=yP (fun i=> !q (nth l i)) l (j:=l.length) (aLs _)
   have ke:kN (fun i=> !q (nth l i)) l l.length=l.filter (fun x=> !q x):=Hz (fun x=> !q x) l
   have da:(kA (fun i=> !q (nth l i)) l l.length).take (l.filter (fun x=> !q x)).length=l.filter (fun x=> !q x):=by
    unfold kA
    rw[ke,List.take_left]
   rw[ke]at dl lp
   generalize kA (fun i=> !q (nth l i)) l l.length=A at*
   generalize l.filter (fun x=> !q x)=G at*
   have ta:List.take G.length (List.map D.t (List.map (T.int .i64) A))=List.map D.t (List.map (T.int .i64) G):=by rw[← List.map_take,←List.map_take,da]
   have al3:l.length=(List.map D.t (List.map (T.int .i64) A)).length:=by simp[al2]
   have ta2:∀x y:List D,List.take G.length (List.take G.length (List.map D.t (List.map (T.int .i64) A))++x++y)=List.map D.t (List.map (T.int .i64) G):=by
    intro x y
    rw[ta,List.append_assoc,List.take_left' (by simp)]
   have al5:l.length=(List.take G.length (List.map D.t (List.map (T.int .i64) A))++List.replicate (l.length-G.length) (D.t (T.int .i64 0))++List.drop l.length (List.map D.t (List.map (T.int .i64) A))).length:=by
    simp only[aLv,List.length_take,List.length_replicate,List.length_drop,List.length_map]
    omega
   simp(disch:=omega)only[go_sem,K.aL,↓reduceIte,ix,lp,ta2,reduceAdd,reduceSub]
end
section
variable (F : Nat) (q : Int → Bool) (t1 t2 t3 t4 t5 t6 : T) (l : List Int) (hq : ∀ x, x ∈ l → aH 0 F [I x, .bp 0 0, .bp 1 0] [.box [.t t1, .t t2], .box [.t t3, .t t4, .t t5, .t t6]] = some (B (q x), [.box [.t t1, .t t2], .box [.t t3, .t t4, .t t5, .t t6]]))
include hq
theorem Ue(hl:l.length≤1000000)(ep:Nat):
 aH 0 N.aI [.ref 0 ep l.length,.fn F [.bp 1 0,.bp 2 0]] [wE l ep,.box [.t t1,.t t2],.box [.t t3,.t t4,.t t5,.t t6]]=
  some (I (match (List.range l.length).find? (fun j=>q (nth l j))with | some j=>(j:Int) | none=> -1),[wE l ep,.box [.t t1,.t t2],.box [.t t3,.t t4,.t t5,.t t6]]):=by
 refine av K.dD rfl ?_
 have loop:∀z2 z3:D,exS aH K.eL ⟨[.ref 0 ep l.length,.fn F [.bp 1 0,.bp 2 0],z2,z3,I l.length,I 0],[wE l ep,.box [.t t1,.t t2],.box [.t t3,.t t4,.t t5,.t t6]]⟩=
  some (match (List.range l.length).find? (fun j=>q (nth l j))with
   | some j=>(.ret,⟨[.ref 0 ep l.length,.fn F [.bp 1 0,.bp 2 0],I j,I j,I l.length,I j],[wE l ep,.box [.t t1,.t t2],.box [.t t3,.t t4,.t t5,.t t6]]⟩)
   | none=>(.exit 0,⟨[.ref 0 ep l.length,.fn F [.bp 1 0,.bp 2 0],.und,.und,I l.length,I l.length],[wE l ep,.box [.t t1,.t t2],.box [.t t3,.t t4,.t t5,.t t6]]⟩)):=by
  intro z2 z3
  refine cq (fun j=>⟨[.ref 0 ep l.length,.fn F [.bp 1 0,.bp 2 0],.und,.und,I l.length,I j],[wE l ep,.box [.t t1,.t t2],.box [.t t3,.t t4,.t t5,.t t6]]⟩) l.length (fun j=>q (nth l j)) _ _ rfl ?_ ?_ ?_ (by simp)
  · intro j hj hp'
    have b1:=hq _ (ai hj)
    rw[hp']at b1
    simp(disch:=omega)only[go_sem,K.aX,↓reduceIte,b1,reduceAdd,reduceSub]
  · intro j hj hp'
    have b1:=hq _ (ai hj)
    rw[hp']at b1
    refine⟨?_,by simp⟩
    simp(disch:=omega)only[go_sem,K.aX,↓reduceIte,b1,reduceAdd,reduceSub]
  · simp(disch:=omega)only[go_sem,K.aX,↓reduceIte,reduceAdd,reduceSub]
 cases hf:(List.range l.length).find? (fun j=>q (nth l j))with
 | some j=>
   rw[hf]at loop
   simp(disch:=omega)only[go_sem,K.aI,↓reduceIte,loop,reduceAdd,reduceSub]
 | none=>
   rw[hf]at loop
   simp(disch:=omega)only[go_sem,K.aI,↓reduceIte,loop,reduceAdd,reduceSub]
theorem Nb(hl:l.length≤1000000)(ep:Nat)(i:Nat)(hi:i<l.length)(hp:q (nth l i)=true)(hx:∀k,k<i→q (nth l k)=false)(z2 z5:D):
 exS aH K.gK ⟨[.ref 0 ep l.length,.fn F [.bp 1 0,.bp 2 0],z2,I i,I (i+1),z5],[wE l ep,.box [.t t1,.t t2],.box [.t t3,.t t4,.t t5,.t t6]]⟩=
  some (.exit 0,⟨[.ref 0 ep l.length,.fn F [.bp 1 0,.bp 2 0],.und,I (kN (fun i=> !q (nth l i)) l l.length).length,I l.length,.und],[wE (kA (fun i=> !q (nth l i)) l l.length) ep,.box [.t t1,.t t2],.box [.t t3,.t t4,.t t5,.t t6]]⟩):=by
 obtain⟨e1,e2⟩:=E9 (fun i=> !q (nth l i)) l hi (fun k hk=>by simp only[hx k hk,Bool.not_false]) (by simp only[hp,Bool.not_true])
 refine bz (fun k=>⟨[.ref 0 ep l.length,.fn F [.bp 1 0,.bp 2 0],.und,I (kN (fun i=> !q (nth l i)) l (i+1+k)).length,I ((i+1+k:Nat)),.und],[wE (kA (fun i=> !q (nth l i)) l (i+1+k)) ep,.box [.t t1,.t t2],.box [.t t3,.t t4,.t t5,.t t6]]⟩) (l.length-(i+1)) ?_ ?_ ?_ (by simp)
 · simp only[Nat.add_zero,e1,e2]
   rfl
 · intro k hk
   have hj:i+1+k<l.length:=by omega
   rw[show i+1+(k+1)=i+1+k+1 from rfl]
   generalize i+1+k=j at*
   have tq:=hq _ (ai hj)
   have dl:=AG (fun i=> !q (nth l i)) l j
   have ln:=yP (fun i=> !q (nth l i)) l (j:=j) (by omega)
   have nx:=Ln (fun i=> !q (nth l i)) l j (i:=j) dl
   have st:=QN (fun i=> !q (nth l i)) l hj
   have sm:=E8 (fun i=> !q (nth l i)) l (j:=j)
   have sp:=uU (fun i=> !q (nth l i)) l j
   generalize kA (fun i=> !q (nth l i)) l j=A at*
   generalize kN (fun i=> !q (nth l i)) l j=G at*
   cases hc:q (nth l j)with
   | true=>
     rw[hc]at tq sm
     rw[(sm rfl).1,(sm rfl).2]
     simp(disch:=omega)only[go_sem,K.bF,↓reduceIte,tq,nx,Bool.not_true,reduceAdd,reduceSub]
   | false=>
     rw[hc]at tq st sp
     rw[← st rfl,sp,if_pos (show(!false)=true from rfl)]
     simp(disch:=omega)only[go_sem,K.bF,↓reduceIte,tq,nx,Bool.not_false,aLv,List.length_singleton,IS,reduceAdd,reduceSub]
 · have:i+1+(l.length-(i+1))=l.length:=by omega
   rw[this]
   have ln:=yP (fun i=> !q (nth l i)) l (j:=l.length) (aLs _)
   generalize kA (fun i=> !q (nth l i)) l l.length=A at*
   generalize kN (fun i=> !q (nth l i)) l l.length=G at*
   simp(disch:=omega)only[go_sem,K.bF,↓reduceIte,reduceAdd,reduceSub]
theorem Uf(hl:l.length≤1000000)(ep:Nat):
 ∃ep',aH 1 N.aL [.ref 0 ep l.length,.fn F [.bp 1 0,.bp 2 0]] [wE l ep,.box [.t t1,.t t2],.box [.t t3,.t t4,.t t5,.t t6]]=
  some (.ref 0 ep' (l.filter fun x=> !q x).length,[wE (l.filter fun x=> !q x) ep',.box [.t t1,.t t2],.box [.t t3,.t t4,.t t5,.t t6]]):=by
 have ix:=Ue F q t1 t2 t3 t4 t5 t6 l hq hl ep
 cases hf:(List.range l.length).find? (fun j=>q (nth l j))with
 | none=>
   refine⟨ep,av K.cG rfl ?_⟩
   rw[hf]at ix
   have de:l.filter (fun x=> !q x)=l:=by
    rw[List.filter_eq_self]
    intro e he
    obtain⟨j,hj,rfl⟩:=List.mem_iff_getElem.1 he
    have:=List.find?_eq_none.1 hf j (aLu.2 hj)
    have e2:nth l j=l[j]:=bD (aLc hj)
    rw[e2]at this
    simpa using this
   rw[de]
   simp(disch:=omega)only[go_sem,K.aL,↓reduceIte,ix,reduceAdd,reduceSub]
 | some i=>
   refine⟨ep+1,av K.cG rfl ?_⟩
   rw[hf]at ix
   have hi:=aLu.1 (List.mem_of_find?_eq_some hf)
   have hp:=List.find?_some hf
   have lt:∀j,j<i→q (nth l j)=false:=by
    intro j hj
    have:=(List.find?_range_eq_some.1 hf).2.2 j hj
    simpa using this
   have lp:=Nb F q t1 t2 t3 t4 t5 t6 l hq hl ep i hi hp lt
   have dl:=AG (fun i=> !q (nth l i)) l l.length
   have al2:=yP (fun i=> !q (nth l i)) l (j:=l.length) (aLs _)
   have ke:kN (fun i=> !q (nth l i)) l l.length=l.filter (fun x=> !q x):=Hz (fun x=> !q x) l
   have da:(kA (fun i=> !q (nth l i)) l l.length).take (l.filter (fun x=> !q x)).length=l.filter (fun x=> !q x):=by
    unfold kA
    rw[ke,List.take_left]
   rw[ke]at dl lp
   generalize kA (fun i=> !q (nth l i)) l l.length=A at*
   generalize l.filter (fun x=> !q x)=G at*
   have ta:List.take G.length (List.map D.t (List.map (T.int .i64) A))=List.map D.t (List.map (T.int .i64) G):=by rw[← List.map_take,←List.map_take,da]
   have al3:l.length=(List.map D.t (List.map (T.int .i64) A)).length:=by simp[al2]
   have ta2:∀x y:List D,List.take G.length (List.take G.length (List.map D.t (List.map (T.int .i64) A))++x++y)=List.map D.t (List.map (T.int .i64) G):=by
    intro x y
    rw[ta,List.append_assoc,List.take_left' (by simp)]
   have al5:l.length=(List.take G.length (List.map D.t (List.map (T.int .i64) A))++List.replicate (l.length-G.length) (D.t (T.int .i64 0))++List.drop l.length (List.map D.t (List.map (T.int .i64) A))).length:=by
    simp only[aLv,List.length_take,List.length_replicate,List.length_drop,List.length_map]
    omega
   simp(disch:=omega)only[go_sem,K.aL,↓reduceIte,ix,lp,ta2,reduceAdd,reduceSub]
end
end Go.Ev
namespace Go.Ev
open Go
variable [Lib] [bX] [bJ] [fR] [fS] [iK] [fy] [fo] [gU] [fM] [cV] [cI] [fB] [eu] [jb] [iE] [gl] [eQ] [jj]
theorem Re{m:aC}(hm:m.ok){e:Esc}(he:e.ok m)(p:Nat)(hp:p<m.aa.length):
 aH 0 N.bM [I p,.bp 0 0,.bp 1 0] [.box (ae m),.box (gV e)]=some (B (km m e p),[.box (ae m),.box (gV e)]):=by
 refine av K.kG rfl ?_
 have en:=M1 hm he p hp
 generalize km m e p=r at*
 obtain⟨aa,roads⟩:=m
 obtain⟨safe,bad,shut,b9⟩:=e
 simp only[ae,gV]at*
 simp(disch:=omega)only[go_sem,K.bM,↓reduceIte,en,reduceAdd,reduceSub]
theorem Ug{b:Bel}{i t x:Int}:x∈nS b i t↔∃w∈b.ao,0≤i∧i<w.whr.length∧x∈yl (nth w.whr i.toNat) t∧0≤x∧x<64:=by
 unfold nS
 rw[zD]
 constructor
 · rintro ⟨k,rfl,k1,k2⟩
   unfold Cp at k2
   rw[List.any_eq_true]at k2
   obtain⟨q,q1,q2⟩:=k2
   simp only[aLr,decide_eq_true_eq]at q2
   exact⟨_,ai (aLu.1 q1),q2.1.1,q2.1.2,q2.2,by omega,by omega⟩
 · rintro ⟨w,hw,h1,h2,h3,h4,h5⟩
   refine⟨x.toNat,by omega,by omega,?_⟩
   unfold Cp
   rw[List.any_eq_true]
   obtain⟨q,hq,rfl⟩:=List.mem_iff_getElem.1 hw
   have e2:nth b.ao q=b.ao[q]:=bD (aLc hq)
   refine⟨q,aLu.2 hq,?_⟩
   rw[e2]
   simp only[aLr,decide_eq_true_eq]
   refine⟨⟨h1,h2⟩,?_⟩
   rw[show((x.toNat:Nat):Int)=x by omega]
   exact h3
theorem Rf{m:aC}{b:Bel}(hb:qV m b=true){i t x:Int}(h:x∈nS b i t):0≤x∧x<m.aa.length:=by
 obtain⟨w,hw,h1,h2,h3,h4,h5⟩:=Ug.1 h
 have v:=(uz (ws:=b.ao) hb).wv w hw
 have v:=(eM (v.wv _ (ai (j:=i.toNat) (by omega)))).1
 rw[Qg,v]at h3
 exact⟨h3.1,h3.2.1⟩
def uN(b:Bel)(t:Int):Nat→List Int
 | 0=>[]
 | j+1=>QP (uN b t j) (nS b j t)
theorem Rg(b:Bel)(t x:Int):∀j,x∈uN b t j↔∃i:Nat,i<j∧x∈nS b i t
 | 0=>by simp[uN]
 | j+1=>by
   rw[uN,T5,Rg b t x j]
   constructor
   · rintro (⟨i,h1,h2⟩ | h)
     · exact⟨i,by omega,h2⟩
     · exact⟨j,by omega,h⟩
   · rintro ⟨i,h1,h2⟩
     by_cases c:i=j
     · subst c;exact .inr h2
     · exact .inl ⟨i,by omega,h2⟩
theorem D8(b:Bel)(t:Int):∀j,(uN b t j).length≤64*j
 | 0=>by simp[uN]
 | j+1=>by
   have:=D8 b t j
   have:=T6 (uN b t j) (nS b j t)
   have:=ux b j t
   simp only[uN]
   omega
abbrev ZO(l:List Int)(ep:Nat):Obj:= .arr 1 true ep ((l.map (T.int .i64)).map .t)
section
variable (m : aC) (e : Esc) (b : Bel) (hs : b.sz) (t : Int) (n : Nat) (hn : n ≤ 1000)
include hs hn
theorem ZP(hj:0<n):∃e1,gp false [0,1,2,7,9] 3 (exS aH K.bU ⟨[.und,.und,.und,I t,.bp 0 0,.bp 1 0,.bp 2 0,.und,.nil,.und,I n,I 0],[.box (ae m),.box (gV e),.box [.t (.sl (b.ao.map World.e))]]⟩)=some ⟨[.und,.und,.und,I t,.bp 0 0,.bp 1 0,.bp 2 0,.und,.ref 3 e1 (uN b t 1).length,.und,I n,I 1],[.box (ae m),.box (gV e),.box [.t (.sl (b.ao.map World.e))],wE (uN b t 1) e1]⟩:=by
 have ul:=D8 b t 0
 obtain⟨e1,un⟩:=Fg (uN b t 0) (nS b 0 t) (by omega) (by have:=ux b 0 t;omega)
 have po:=xl b hs 0 t
 refine⟨e1,?_⟩
 have u1:QP (uN b t 0) (nS b 0 t)=uN b t 1:=rfl
 rw[u1]at un
 have u0:uN b t 0=[]:=rfl
 rw[u0]at un
 generalize uN b t 1=U1 at*
 generalize nS b 0 t=PP at*
 obtain⟨aa,roads⟩:=m
 obtain⟨safe,bad,shut,b9⟩:=e
 obtain⟨ws⟩:=b
 simp only[ae,gV,tL,List.map_nil]at*
 simp(disch:=omega)only[go_sem,K.bU,↓reduceIte,po,un,reduceAdd,reduceSub]
theorem aeZ(hj:1<n)(e1:Nat):∃e2,gp false [0,1,2,7,9] 4 (exS aH K.bU ⟨[.und,.und,.und,I t,.bp 0 0,.bp 1 0,.bp 2 0,.und,.ref 3 e1 (uN b t 1).length,.und,I n,I 1],[.box (ae m),.box (gV e),.box [.t (.sl (b.ao.map World.e))],wE (uN b t 1) e1]⟩)=some ⟨[.und,.und,.und,I t,.bp 0 0,.bp 1 0,.bp 2 0,.und,.ref 4 e2 (uN b t 2).length,.und,I n,I 2],[.box (ae m),.box (gV e),.box [.t (.sl (b.ao.map World.e))],ZO (uN b t 1) e1,wE (uN b t 2) e2]⟩:=by
 have ul:=D8 b t 1
 obtain⟨e2,un⟩:=Fg (uN b t 1) (nS b 1 t) (by omega) (by have:=ux b 1 t;omega)
 have po:=xl b hs 1 t
 refine⟨e2,?_⟩
 have u1:QP (uN b t 1) (nS b 1 t)=uN b t 2:=rfl
 rw[u1]at un
 generalize uN b t 2=U2 at*
 generalize nS b 1 t=PP at*
 generalize uN b t 1=U1 at*
 obtain⟨aa,roads⟩:=m
 obtain⟨safe,bad,shut,b9⟩:=e
 obtain⟨ws⟩:=b
 simp only[ae,gV,tL]at*
 simp(disch:=omega)only[go_sem,K.bU,↓reduceIte,po,un,reduceAdd,reduceSub]
 rfl
theorem ajj(hj:2<n)(e1 e2:Nat):∃e3,gp false [0,1,2,7,9] 5 (exS aH K.bU ⟨[.und,.und,.und,I t,.bp 0 0,.bp 1 0,.bp 2 0,.und,.ref 4 e2 (uN b t 2).length,.und,I n,I 2],[.box (ae m),.box (gV e),.box [.t (.sl (b.ao.map World.e))],ZO (uN b t 1) e1,wE (uN b t 2) e2]⟩)=some ⟨[.und,.und,.und,I t,.bp 0 0,.bp 1 0,.bp 2 0,.und,.ref 5 e3 (uN b t 3).length,.und,I n,I 3],[.box (ae m),.box (gV e),.box [.t (.sl (b.ao.map World.e))],ZO (uN b t 1) e1,ZO (uN b t 2) e2,wE (uN b t 3) e3]⟩:=by
 have ul:=D8 b t 2
 obtain⟨e3,un⟩:=Fg (uN b t 2) (nS b 2 t) (by omega) (by have:=ux b 2 t;omega)
 have po:=xl b hs 2 t
 refine⟨e3,?_⟩
 have u1:QP (uN b t 2) (nS b 2 t)=uN b t 3:=rfl
 rw[u1]at un
 generalize uN b t 3=U3 at*
 generalize nS b 2 t=PP at*
 generalize uN b t 2=U2 at*
 generalize uN b t 1=U1 at*
 obtain⟨aa,roads⟩:=m
 obtain⟨safe,bad,shut,b9⟩:=e
 obtain⟨ws⟩:=b
 simp only[ae,gV,tL]at*
 simp(disch:=omega)only[go_sem,K.bU,↓reduceIte,po,un,reduceAdd,reduceSub]
 rfl
end
theorem ajk(m:aC)(e:Esc)(b:Bel)(hs:b.sz)(t:Int)(z0 z1 z2 z7 z9:D):∃e1,exS aH K.jv ⟨[z0,z1,z2,I t,.bp 0 0,.bp 1 0,.bp 2 0,z7,.nil,z9,I 1,I 0],[.box (ae m),.box (gV e),.box [.t (.sl (b.ao.map World.e))]]⟩=some (.exit 0,⟨[.und,.und,.und,I t,.bp 0 0,.bp 1 0,.bp 2 0,.und,.ref 3 e1 (uN b t 1).length,.und,I 1,I 1],[.box (ae m),.box (gV e),.box [.t (.sl (b.ao.map World.e))],wE (uN b t 1) e1]⟩):=by
 obtain⟨e1,r0⟩:=ZP m e b hs t 1 (by omega) (by omega)
 refine⟨e1,ue (fC r0 (dW ?_ (by simp)))⟩
 clear r0
 generalize uN b t 1=U1 at*
 obtain⟨aa,roads⟩:=m
 obtain⟨safe,bad,shut,b9⟩:=e
 obtain⟨ws⟩:=b
 simp only[ae,gV,tL]at*
 simp(disch:=omega)only[go_sem,K.bU,↓reduceIte,reduceAdd,reduceSub]
theorem ajl(m:aC)(e:Esc)(b:Bel)(hs:b.sz)(t:Int)(z0 z1 z2 z7 z9:D):∃e1 e2,exS aH K.jv ⟨[z0,z1,z2,I t,.bp 0 0,.bp 1 0,.bp 2 0,z7,.nil,z9,I 2,I 0],[.box (ae m),.box (gV e),.box [.t (.sl (b.ao.map World.e))]]⟩=some (.exit 0,⟨[.und,.und,.und,I t,.bp 0 0,.bp 1 0,.bp 2 0,.und,.ref 4 e2 (uN b t 2).length,.und,I 2,I 2],[.box (ae m),.box (gV e),.box [.t (.sl (b.ao.map World.e))],ZO (uN b t 1) e1,wE (uN b t 2) e2]⟩):=by
 obtain⟨e1,r0⟩:=ZP m e b hs t 2 (by omega) (by omega)
 obtain⟨e2,r1⟩:=aeZ m e b hs t 2 (by omega) (by omega) e1
 refine⟨e1,e2,ue (fC r0 (fC r1 (dW ?_ (by simp))))⟩
 clear r0 r1
 generalize uN b t 1=U1 at*
 generalize uN b t 2=U2 at*
 obtain⟨aa,roads⟩:=m
 obtain⟨safe,bad,shut,b9⟩:=e
 obtain⟨ws⟩:=b
 simp only[ae,gV,tL]at*
 simp(disch:=omega)only[go_sem,K.bU,↓reduceIte,reduceAdd,reduceSub]
theorem ajm(m:aC)(e:Esc)(b:Bel)(hs:b.sz)(t:Int)(z0 z1 z2 z7 z9:D):∃e1 e2 e3,exS aH K.jv ⟨[z0,z1,z2,I t,.bp 0 0,.bp 1 0,.bp 2 0,z7,.nil,z9,I 3,I 0],[.box (ae m),.box (gV e),.box [.t (.sl (b.ao.map World.e))]]⟩=some (.exit 0,⟨[.und,.und,.und,I t,.bp 0 0,.bp 1 0,.bp 2 0,.und,.ref 5 e3 (uN b t 3).length,.und,I 3,I 3],[.box (ae m),.box (gV e),.box [.t (.sl (b.ao.map World.e))],ZO (uN b t 1) e1,ZO (uN b t 2) e2,wE (uN b t 3) e3]⟩):=by
 obtain⟨e1,r0⟩:=ZP m e b hs t 3 (by omega) (by omega)
 obtain⟨e2,r1⟩:=aeZ m e b hs t 3 (by omega) (by omega) e1
 obtain⟨e3,r2⟩:=ajj m e b hs t 3 (by omega) (by omega) e1 e2
 refine⟨e1,e2,e3,ue (fC r0 (fC r1 (fC r2 (dW ?_ (by simp)))))⟩
 clear r0 r1 r2
 generalize uN b t 1=U1 at*
 generalize uN b t 2=U2 at*
 generalize uN b t 3=U3 at*
 obtain⟨aa,roads⟩:=m
 obtain⟨safe,bad,shut,b9⟩:=e
 obtain⟨ws⟩:=b
 simp only[ae,gV,tL]at*
 simp(disch:=omega)only[go_sem,K.bU,↓reduceIte,reduceAdd,reduceSub]
def sP(b:Bel):Nat:=(nth b.ao 0).whr.length
def uV(m:aC)(e:Esc)(b:Bel)(t:Int):List Int:=(uN b t (sP b)).filter fun x=> !km m e x.toNat
theorem Uh{m:aC}(hm:m.ok){e:Esc}(he:e.ok m){b:Bel}(hb:qV m b=true)(hs:b.sz)(h3:sP b≤3)(t:Int):
 aH 0 N.bE [.t m.e,.t e.e,.t b.e,I t] []=some (.t (tL (uV m e b t)),[]):=by
 refine av K.mJ rfl ?_
 have w1:=(gH hb).1
 have hq:∀x,x∈uN b t (sP b)→aH 0 N.bM [I x,.bp 0 0,.bp 1 0] [.box (ae m),.box (gV e)]=some (B (km m e x.toNat),[.box (ae m),.box (gV e)]):=by
  intro x hx
  obtain⟨i,_,hi⟩:=(Rg b t x _).1 hx
  have:=Rf hb hi
  obtain⟨p,rfl⟩:=Int.eq_ofNat_of_zero_le this.1
  exact Re hm he p (by omega)
 have dl:=fun ep=>Uf N.bM (fun x=>km m e x.toNat) (.sl (m.aa.map Place.e)) (.sl (m.roads.map Road.e)) (tL e.safe) (tL e.bad) (tL e.shut) (tI e.b9) (uN b t (sP b)) hq (by have:=D8 b t (sP b);omega) ep
 have p1:1≤sP b:=by
  have v:=uz (ws:=b.ao) hb
  have:=(v.wv _ (ai (l:=b.ao) (j:=0) (by omega))).wl
  have:=v.f1
  unfold sP
  omega
 have ex:(b.ao.map World.e)[0]?=some (nth b.ao 0).e:=bR _ (by omega)
 have pe:(nth b.ao 0).whr.length=sP b:=rfl
 have l1:=ajk m e b hs t
 have l2:=ajl m e b hs t
 have l3:=ajm m e b hs t
 unfold uV
 generalize hn:sP b=n at*
 generalize hfl:List.filter (fun x=> !km m e x.toNat) (uN b t n)=R at*
 have hc:n=1∨n=2∨n=3:=by omega
 clear hq hm he hb h3 p1
 generalize hw:nth b.ao 0=w at*
 obtain⟨tg,wh⟩:=w
 simp only at pe
 rcases hc with rfl | hc
 · clear l2 l3
   have l1:=l1 (.t m.e) (.t e.e) (.t b.e) .nil .und
   obtain⟨e1,lp⟩:=l1
   obtain⟨ep,dl⟩:=dl e1
   generalize uN b t 1=U1 at*
   obtain⟨aa,roads⟩:=m
   obtain⟨safe,bad,shut,b9⟩:=e
   obtain⟨ws⟩:=b
   simp only[ae,gV,tL]at*
   simp(disch:=omega)only[go_sem,K.bE,↓reduceIte,ex,pe,reduceAdd,reduceSub]
   refine ig lp ?_
   simp(disch:=omega)only[go_sem,K.bE,↓reduceIte,dl,reduceAdd,reduceSub]
 rcases hc with rfl | hc
 · clear l1 l3
   have l2:=l2 (.t m.e) (.t e.e) (.t b.e) .nil .und
   obtain⟨e1,e2,lp⟩:=l2
   obtain⟨ep,dl⟩:=dl e2
   generalize uN b t 2=U2 at*
   generalize uN b t 1=U1 at*
   obtain⟨aa,roads⟩:=m
   obtain⟨safe,bad,shut,b9⟩:=e
   obtain⟨ws⟩:=b
   simp only[ae,gV,tL]at*
   simp(disch:=omega)only[go_sem,K.bE,↓reduceIte,ex,pe,reduceAdd,reduceSub]
   refine ig lp ?_
   simp(disch:=omega)only[go_sem,K.bE,↓reduceIte,dl,reduceAdd,reduceSub]
 subst hc
 clear l1 l2
 have l3:=l3 (.t m.e) (.t e.e) (.t b.e) .nil .und
 obtain⟨e1,e2,e3,lp⟩:=l3
 obtain⟨ep,dl⟩:=dl e3
 generalize uN b t 3=U3 at*
 generalize uN b t 2=U2 at*
 generalize uN b t 1=U1 at*
 obtain⟨aa,roads⟩:=m
 obtain⟨safe,bad,shut,b9⟩:=e
 obtain⟨ws⟩:=b
 simp only[ae,gV,tL]at*
 simp(disch:=omega)only[go_sem,K.bE,↓reduceIte,ex,pe,reduceAdd,reduceSub]
 refine ig lp ?_
 simp(disch:=omega)only[go_sem,K.bE,↓reduceIte,dl,reduceAdd,reduceSub]
end Go.Ev
namespace Go.Ev
open Go
variable [Lib] [bX] [bJ] [fR] [fS] [iK] [fy] [fo] [gU] [fM] [cV] [cI] [fB] [eu] [jb] [iE] [gl] [eQ] [jj]
theorem CM{n:aC}{b:Bel}{t:Int}(h0:(cy n b t).2=0):
 (cy n b t).1=⟨b.ao.map (rnW n t)⟩∧1≤b.ao.length∧b.ao.length≤24∧∀x∈b.ao,∀w∈x.whr,(cO n w t).2=0:=by
 unfold cy at h0 ⊢
 split at h0
 · simp at h0
 · rename_i hl
   rw[if_neg hl]
   cases hf:(List.range b.ao.length).find? (rx6 n t b.ao)with
   | some i=>rw[hf]at h0;simp at h0
   | none=>
     rw[hf]at h0
     simp only at h0 ⊢
     by_cases hx:rnX n t b.ao 0 b.ao.length=0
     · have r8:=Lv n t b.ao (Bo hf) b.ao.length (aLs _)
       have z:=r8.2.1 hx
       refine⟨by rw[if_neg (by simp[hx])],by omega,by omega,?_⟩
       intro x hm w hw
       obtain⟨k,hk,rfl⟩:=List.mem_iff_getElem.1 hm
       have e1:nth b.ao k=b.ao[k]:=bD (aLc hk)
       have zk:=z k hk
       rw[e1]at zk
       obtain⟨j,hj,rfl⟩:=List.mem_iff_getElem.1 hw
       have e2:nth b.ao[k].whr j=b.ao[k].whr[j]:=bD (aLc hj)
       have:=zk j hj
       rw[e2]at this
       exact this
     · rw[if_pos hx]at h0;exact absurd h0 hx
theorem D9{m n:aC}(hn:n.ok){b:Bel}(hb:qV m b=true){t:Int}(h0:(cy n b t).2=0):qV n (cy n b t).1=true:=by
 obtain⟨e,l1,l2,hw⟩:=CM h0
 rw[e]
 have v:=uz (ws:=b.ao) hb
 have bv:BV n (nth b.ao 0).tags (b.ao.map (rnW n t)):=by
  refine⟨v.pr,v.f1,v.f2,?_,?_⟩
  · intro x hx
    obtain⟨y,hy,rfl⟩:=List.mem_map.1 hx
    have vy:=v.wv y hy
    refine⟨vy.pm,by simpa [rnW]using vy.wl,?_⟩
    intro w hw2
    simp only[rnW]at hw2
    obtain⟨u,hu,rfl⟩:=List.mem_map.1 hw2
    exact Jn hn (hw y hy u hu)
  · rw[List.pairwise_map]
    exact v.up
 exact bv.bel (by simpa using l1) (by simpa using l2)
theorem zL{n:aC}{b:Bel}{t:Int}(h0:(cy n b t).2=0):sP (cy n b t).1=sP b:=by
 obtain⟨e,l1,l2,hw⟩:=CM h0
 rw[e]
 unfold sP
 simp only
 have:nth (b.ao.map (rnW n t)) 0=rnW n t (nth b.ao 0):=by
  refine bD ?_
  rw[aLn,c7 (by omega)];rfl
 rw[this]
 simp[rnW]
end Go.Ev
namespace Go.Ev
open Go
variable [Lib] [bX] [bJ] [fR] [fS] [iK] [fy] [fo] [gU] [fM] [cV] [cI] [fB] [eu] [jb] [iE]
end Go.Ev
namespace Go.Ev
open Go
variable [Lib] [bX] [bJ] [fR] [fS] [iK] [fy] [fo] [gU] [fM] [cV] [cI]
def AW(P:Wh→Prop)(ws:List World):Prop:=∀x∈ws,∀w∈x.whr,P w
structure Kept(m:aC)(T:Int)(P:Wh→Prop):Prop where
 see:∀w l a b,P w→b≤T→P (C4 m w l a b).1
 abs:∀w l a b bl,P w→b≤T→P (DO m w l a b bl).1
 raise:∀w t,P w→t≤T→P (n9 w t).1
 join:∀a b,P a→P b→a.frm.length=b.frm.length→P (qg a b).1
theorem AW.set{P:Wh→Prop}{x:World}(h:∀w∈x.whr,P w)(tag:Int){w:Wh}(hw:(cE x.tags tag).toNat<x.whr.length→P w):∀y∈(Jf tag x w).whr,P y:=by
 intro y hy
 simp only[Jf]at hy
 by_cases c:(cE x.tags tag).toNat<x.whr.length
 · rcases aLk hy with a | rfl
   · exact h y a
   · exact hw c
 · rw[List.set_eq_of_length_le (by omega)]at hy;exact h y hy
theorem Fh{m:aC}{T:Int}{P:Wh→Prop}(k:Kept m T P){ws:List World}(h:AW P ws)(tag:Int)(l:List Int)(a b:Int)(hb:b≤T):∀j,j≤ws.length→AW P (pg m tag l a b ws j)
 | 0,_,x,hx=>by simp[pg]at hx
 | j+1,hj,x,hx=>by
   simp only[pg,G0]at hx
   have hn:=h _ (ai (l:=ws) (j:=j) (by omega))
   split at hx
   · exact Fh k h tag l a b hb j (by omega) x hx
   · rcases List.mem_append.1 hx with hx | hx
     · exact Fh k h tag l a b hb j (by omega) x hx
     · rw[List.mem_singleton.1 hx]
       split
       · exact AW.set hn tag fun c=>k.see _ _ _ _ (hn _ (ai c)) hb
       · exact hn
theorem Lw{m:aC}{T:Int}{P:Wh→Prop}(k:Kept m T P){ws:List World}(h:AW P ws)(tag:Int)(l:List Int)(a b bl:Int)(hb:b≤T):∀j,j≤ws.length→AW P (qZ m tag l a b bl ws j)
 | 0,_,x,hx=>by simp[qZ]at hx
 | j+1,hj,x,hx=>by
   simp only[qZ,Jg]at hx
   have hn:=h _ (ai (l:=ws) (j:=j) (by omega))
   rcases List.mem_append.1 hx with hx | hx
   · exact Lw k h tag l a b bl hb j (by omega) x hx
   · rw[List.mem_singleton.1 hx]
     split
     · exact AW.set hn tag fun c=>k.abs _ _ _ _ _ (hn _ (ai c)) hb
     · exact hn
theorem Lx{m:aC}{T:Int}{P:Wh→Prop}(k:Kept m T P){n:Nat}{a b:List Wh}(ha:∀w∈a,P w∧w.frm.length=n)(hb:∀w∈b,P w∧w.frm.length=n):∀p,p≤a.length→p≤b.length→∀w∈nT a b p,P w
 | 0,_,_,w,hw=>(ha w hw).1
 | p+1,h1,h2,w,hw=>by
   simp only[nT]at hw
   rcases aLk hw with hw | rfl
   · exact Lx k ha hb p (by omega) (by omega) w hw
   · have x:=ha _ (ai (l:=a) (j:=p) (by omega))
     have y:=hb _ (ai (l:=b) (j:=p) (by omega))
     exact k.join _ _ x.1 y.1 (by rw[x.2,y.2])
theorem Ui{m:aC}{T:Int}{P:Wh→Prop}(k:Kept m T P){first:List Int}{out:List World}{x:World}(ho:AW P out)(hx:∀w∈x.whr,P w)(wo:∀y∈out,WV m first y)(wx:WV m first x):AW P (sr out x):=by
 intro y hy
 unfold sr at hy
 split at hy
 · rename_i h
   rcases aLk hy with hy | rfl
   · exact ho y hy
   · have wk:=wo _ (ai h.1)
     exact Lx k (n:=m.aa.length) (fun w hw=>⟨ho _ (ai h.1) w hw,(eM (wk.wv w hw)).1⟩) (fun w hw=>⟨hx w hw,(eM (wx.wv w hw)).1⟩) _ (Nat.min_le_left _ _) (Nat.min_le_right _ _)
 · rcases List.mem_append.1 hy with hy | hy
   · rcases List.mem_append.1 hy with hy | hy
     · exact ho y (List.mem_of_mem_take hy)
     · rw[List.mem_singleton.1 hy];exact hx
   · exact ho y (List.mem_of_mem_drop hy)
theorem Lz{m:aC}(hm:m.ok){T:Int}{P:Wh→Prop}(k:Kept m T P){first:List Int}(pr:iu first=true)(f1:1≤first.length)(f2:first.length≤12){l:List World}(hl:AW P l)(wl:∀x∈l,WV m first x):∀j,j≤l.length→AW P (uu l j)
 | 0,_,y,hy=>by simp[uu]at hy
 | j+1,h,y,hy=>Ui k (Lz hm k pr f1 f2 hl wl j (by omega)) (hl _ (ai (by omega))) (EU hm pr f1 f2 wl j (by omega)).wv (wl _ (ai (by omega))) y hy
theorem Uj{m:aC}{T:Int}{P:Wh→Prop}(k:Kept m T P){i j:Nat}{t:Int}(ht:t≤T){x:World}(h:∀w∈x.whr,P w):∀w∈(xj i j t x).whr,P w:=by
 intro w hw
 simp only[xj]at hw
 have one:∀ {l:List Wh},(∀w∈l,P w)→∀i,∀w∈l.set i (n9 (nth x.whr i) t).1,i<x.whr.length∨l.length=x.whr.length→P w:=by
  intro l hl i w hw hlen
  by_cases c:i<x.whr.length
  · rcases aLk hw with a | rfl
    · exact hl w a
    · exact k.raise _ _ (h _ (ai c)) ht
  · rcases hlen with a | a
    · exact(c a).elim
    · rw[List.set_eq_of_length_le (by omega)]at hw;exact hl w hw
 by_cases c:j<x.whr.length
 · rcases aLk hw with a | rfl
   · exact one h i w a (.inr rfl)
   · exact k.raise _ _ (h _ (ai c)) ht
 · rw[List.set_eq_of_length_le (by rw[List.length_set];omega)]at hw
   exact one h i w hw (.inr rfl)
theorem CN{m:aC}{T:Int}{P:Wh→Prop}(k:Kept m T P){ws:List World}(h:AW P ws){i j:Nat}{t:Int}(ht:t≤T):∀q,q≤ws.length→AW P (j3 i j t ws q)
 | 0,_=>h
 | q+1,hq=>fun x hx=>by
   simp only[j3,Cr]at hx
   split at hx
   · rcases List.mem_append.1 hx with hx | hx
     · exact CN k h ht q (by omega) x hx
     · rw[List.mem_singleton.1 hx];exact Uj k ht (h _ (ai (by omega)))
   · exact CN k h ht q (by omega) x hx
theorem Nc{m:aC}(hm:m.ok){T:Int}{P:Wh→Prop}(k:Kept m T P){n:Int}{s:BSt}(hb:qV m s.b=true)(h:AW P s.b.ao)(ht:s.t+118≤T):AW P (aF.mE m n s).b.ao:=by
 have a0:=s.d.ff 60
 have a9:=s.d.fg (n:=60) (by omega)
 unfold aF.mE
 simp only
 generalize s.d.next 60=a at*
 obtain⟨a1,d1⟩:=a
 simp only at a0 a9 ⊢
 obtain⟨⟨ws⟩,t,d⟩:=s
 simp only at*
 have bv:=uz hb
 obtain⟨w1,w2,f1,f2, -⟩:=gH hb
 split
 · simp only
   split
   · generalize ((d1.next 3).2.next n).1=i
     generalize (((d1.next 3).2.next n).2.next n).1=j
     unfold ph
     split
     · exact h
     · split
       · exact h
       · rename_i hij
         simp only at hij
         split
         · exact h
         · split
           · exact h
           · exact Lz hm k bv.pr bv.f1 bv.f2 (CN k h (by omega) _ (aLs _)) (yF hm bv.wv (by omega) (by omega) _ _ (aLs _)) _ (aLs _)
   · exact h
 · split
   · simp only
     split
     · have e9:=((((d1.next 3).2.next n).2.oy m.aa.length).2).fg (n:=9) (by omega)
       generalize (((d1.next 3).2.next n).2.oy m.aa.length)=l at*
       generalize (l.2.next 9).1=e at*
       unfold uq
       split
       · exact h
       · split
         · exact h
         · split
           · exact h
           · exact Fh k h _ _ _ _ (by omega) _ (aLs _)
     · exact h
   · simp only
     split
     · unfold ur
       split
       · exact h
       · split
         · exact h
         · exact Lw k h _ _ _ _ _ (by omega) _ (aLs _)
     · exact h
theorem Rh{m:aC}(hm:m.ok){T:Int}{P:Wh→Prop}(k:Kept m T P){n:Int}{s:BSt}(hb:qV m s.b=true)(h:AW P s.b.ao):∀(q:Nat),s.t+60*q+118≤T+60→AW P (aF.zC m n s q).b.ao∧(aF.zC m n s q).t≤s.t+60*q
 | 0,_=>⟨h,by simp[aF.zC]⟩
 | q+1,hq=>by
   obtain⟨h1,h2⟩:=Rh hm k (n:=n) hb h q (by omega)
   have ht:=(Hd (m:=m) (n:=n) (s:=aF.zC m n s q)).2
   exact⟨Nc hm k (zE hm hb q) h1 (by omega),by simp only[aF.zC];omega⟩
theorem Ri{m:aC}(hm:m.ok)(h1:1≤m.aa.length)(d:aF){P:Wh→Prop}(k:Kept m 500 P)(hs:∀p t,0≤p→p<(m.aa.length:Int)→0≤t→t<100→P (iD m p t).1):AW P (d.uv m).1.ao:=by
 have v0:=D3 hm h1 d
 have k9:=((d.oa m).2.next 100).2.fg (n:=5) (by omega)
 have k0:=((d.oa m).2.next 100).2.ff 5
 have kk:d.PY m≤4:=by unfold aF.PY;omega
 have t0:=(d.oa m).2.ff 100
 have t9:=(d.oa m).2.fg (n:=100) (by omega)
 have tl:=mD d.qo
 have sl:(d.oa m).1.length=d.qo:=aF.lL _ _ _
 have a0:AW P (d.NG m).b.ao:=by
  unfold aF.NG
  rw[EP hm h1]
  intro x hx w hw
  rw[List.mem_singleton.1 hx]at hw
  simp only[jd,List.mem_map,aLu]at hw
  obtain⟨i,hi,rfl⟩:=hw
  have:=uw (d.next 3).2 (n:=m.aa.length) (by omega) d.qo _ (ai (l:=(d.oa m).1) (j:=i) (by omega))
  exact hs _ _ this.1 this.2 t0 t9
 exact(Rh hm k (n:=d.qo) v0 a0 (d.PY m) (by show(100:Int)+_+_≤_;omega)).1
theorem Rj(m:aC):Kept m 500 fun w=>w.time≤500 where
 see w l a b h hb:=by
  unfold C4
  split
  · exact h
  · split
    · exact h
    · split
      · exact hb
      · exact h
 abs w l a b bl h hb:=by
  unfold DO
  split
  · exact h
  · split
    · exact h
    · split
      · exact h
      · split
        · exact h
        · exact hb
 raise w t h ht:=by unfold n9;split;exact h;exact ht
 join a b ha hb e:=by
  unfold qg
  rw[if_pos e]
  simp only;omega
theorem JE{m:aC}(hm:m.ok)(h1:1≤m.aa.length)(d:aF):AW (fun w=>w.time≤500) (d.uv m).1.ao:=
 Ri hm h1 d (Rj m) fun p t p0 p1 t0 t1=>by
  rw[(Cg hm p0 p1 (t:=t) ⟨t0,by omega⟩).1]
  simp only;omega
def HF:List Int→List (List Int)
 | []=>[[]]
 | a::l=>(HF l).flatMap fun p=>(List.range (p.length+1)).map fun i=>p.take i++a::p.drop i
theorem HG:∀ {l t:List Int},t.Perm l→t∈HF l
 | [],t,h=>by rw[List.perm_nil.1 h];simp[HF]
 | a::l,t,h=>by
   obtain⟨s1,s2,rfl⟩:=List.append_of_mem (h.mem_iff.2 List.mem_cons_self)
   have p:(s1++s2).Perm l:=(List.perm_cons a).1 ((List.perm_middle.symm).trans h)
   simp only[HF,List.mem_flatMap,List.mem_map,aLu]
   exact⟨_,HG p,s1.length,by rw[aLv];omega,by simp⟩
theorem Nd{m:aC}{first:List Int}{ws:List World}(h:BV m first ws)(f:first.length≤3):ws.length≤6:=by
 have nd:(ws.map World.tags).Nodup:=by
  rw[List.Nodup,List.pairwise_map]
  exact h.up.imp fun h e=>aey h e
 have sub:(ws.map World.tags) ⊆ HF first:=by
  intro t ht
  obtain⟨x,hx,rfl⟩:=List.mem_map.1 ht
  exact HG (h.wv x hx).pm
 have:=nd.length_le_of_subset sub
 rw[List.length_map]at this
 have f1:=h.f1
 match first,f,f1 with
 | [a],_,_=>exact Nat.le_trans this (by decide:1≤6)
 | [a,b],_,_=>exact Nat.le_trans this (by show 2≤6;decide)
 | [a,b,c],_,_=>exact Nat.le_trans this (by show 6≤6;decide)
theorem Uk{d:aF}(hd:d.dY){m:aC}(hm:m.ok)(h1:1≤m.aa.length):
 ∃(b:Bel) (e:aF),aH 0 N.cP [.bp 0 0,.t m.e] [d.obj]=some (.t b.e,[e.obj])∧e.dY∧qV m b=true∧b.sz∧b.ao.length≤6∧(nth b.ao 0).tags.length≤3∧AW (fun w=>w.time≤500) b.ao:=by
 have g:=P3 hm h1 hd
 have v:=Hi hm h1 d
 have bp:=Cu d
 have n:(nth (d.uv m).1.ao 0).tags.length≤3:=by
  have:=(g.1.ws _ (ai (l:=(d.uv m).1.ao) (j:=0) (by have:=g.1.w1;omega))).tg
  omega
 refine⟨_,_,P6 hm h1 d hd,g.2,v,g.1.sz hm,?_,n,JE hm h1 d⟩
 have bv:=uz (m:=m) (ws:=(d.uv m).1.ao) v
 exact Nd bv n
end Go.Ev
namespace Go.Ev
open Go
variable [Lib] [bX] [bJ] [fR]
def NS(l:List Wh)(t:Int):Nat→Int
 | 0=>t
 | j+1=>max (NS l t j) (nth l j).time
def Da(ws:List World):Nat→Int
 | 0=>0
 | i+1=>NS (nth ws i).whr (Da ws i) (nth ws i).whr.length
def tc(b:Bel):Int:=Da b.ao b.ao.length
theorem ZQ(b:Bel)(hb:b.sz):aH 0 N.kR [.t b.e] []=some (I (tc b),[]):=by
 refine av K.xg rfl ?_
 unfold tc
 obtain⟨ws⟩:=b
 obtain⟨s1,s2⟩:=hb
 simp only at s1 s2 ⊢
 have inner:∀i,i<ws.length→∀(t:Int) (a b:D),exS aH K.An ⟨[a,.bp 0 0,b,I t,I i,I 0],[.box [.t (.sl (ws.map World.e))]]⟩=
  some (.exit 2,⟨[.und,.bp 0 0,.und,I (NS (nth ws i).whr t (nth ws i).whr.length),I i,I (nth ws i).whr.length],[.box [.t (.sl (ws.map World.e))]]⟩):=by
  intro i hi t a b
  have g1:(ws.map World.e)[i]?=some (nth ws i).e:=bR _ hi
  have sz:=(s2 _ (ai hi)).2.1
  refine bz (fun j=>⟨[.und,.bp 0 0,.und,I (NS (nth ws i).whr t j),I i,I j],[.box [.t (.sl (ws.map World.e))]]⟩) (nth ws i).whr.length rfl ?_ ?_ (by simp)
  · intro j hj
    have g2:((nth ws i).whr.map Wh.e)[j]?=some (nth (nth ws i).whr j).e:=bR _ hj
    simp only[NS]
    generalize NS (nth ws i).whr t j=q at*
    generalize nth (nth ws i).whr j=w at*
    generalize nth ws i=x at*
    obtain⟨tags,whr⟩:=x
    obtain⟨time,frm⟩:=w
    simp only at*
    simp(disch:=omega)only[go_sem,K.r7,↓reduceIte,g1,g2,reduceAdd,reduceSub]
  · generalize NS (nth ws i).whr t (nth ws i).whr.length=q at*
    generalize nth ws i=x at*
    obtain⟨tags,whr⟩:=x
    simp only at*
    simp(disch:=omega)only[go_sem,K.r7,↓reduceIte,g1,reduceAdd,reduceSub]
 have loop:∀a b c:D,exS aH K.Ao ⟨[a,.bp 0 0,b,I 0,I 0,c],[.box [.t (.sl (ws.map World.e))]]⟩=
  some (.exit 0,⟨[.und,.bp 0 0,.und,I (Da ws ws.length),I ws.length,.und],[.box [.t (.sl (ws.map World.e))]]⟩):=by
  intro a b c
  refine bz (fun i=>⟨[.und,.bp 0 0,.und,I (Da ws i),I i,.und],[.box [.t (.sl (ws.map World.e))]]⟩) ws.length rfl ?_ ?_ (by simp)
  · intro i hi
    have inner:=fun t a b=>inner i hi t a b
    simp(disch:=omega)only[go_sem,K.r9,↓reduceIte,inner,Da,reduceAdd,reduceSub]
  · simp(disch:=omega)only[go_sem,K.r9,↓reduceIte,reduceAdd,reduceSub]
 simp(disch:=omega)only[go_sem,K.kR,↓reduceIte,loop,reduceAdd,reduceSub]
end Go.Ev
namespace Go.Ev
open Go
variable [Lib] [bX] [bJ] [fR] [fS] [iK] [fy] [fo] [gU] [fM] [cV] [cI] [fB] [eu] [jb] [iE]
theorem Rk(l:List Wh)(t:Int):∀j,t≤NS l t j∧∀k,k<j→(nth l k).time≤NS l t j
 | 0=>⟨Int.le_refl _,fun k h=>by omega⟩
 | j+1=>by
   obtain⟨h1,h2⟩:=Rk l t j
   simp only[NS]
   refine⟨by omega,fun k hk=>?_⟩
   by_cases c:k=j
   · subst c;omega
   · have:=h2 k (by omega);omega
theorem LA(ws:List World):∀i,0≤Da ws i∧∀k,k<i→∀j,j<(nth ws k).whr.length→(nth (nth ws k).whr j).time≤Da ws i
 | 0=>⟨Int.le_refl _,fun k h=>by omega⟩
 | i+1=>by
   obtain⟨h1,h2⟩:=LA ws i
   obtain⟨g1,g2⟩:=Rk (nth ws i).whr (Da ws i) (nth ws i).whr.length
   simp only[Da]
   refine⟨by omega,fun k hk j hj=>?_⟩
   by_cases c:k=i
   · subst c;exact g2 j hj
   · have:=h2 k (by omega) j hj;omega
theorem Rl(b:Bel):0≤tc b∧∀x∈b.ao,∀w∈x.whr,w.time≤tc b:=by
 obtain⟨h1,h2⟩:=LA b.ao b.ao.length
 refine⟨h1,fun x hx w hw=>?_⟩
 obtain⟨i,hi,rfl⟩:=List.getElem_of_mem hx
 obtain⟨j,hj,rfl⟩:=List.getElem_of_mem hw
 have e:nth b.ao i=b.ao[i]:=bD (aLc hi)
 have:=h2 i hi j (by rw[e];exact hj)
 rwa [e,bD (aLc hj)]at this
theorem Rm{l:List Wh}{M t:Int}(ht:t≤M)(h:∀w∈l,w.time≤M):∀j,j≤l.length→NS l t j≤M
 | 0,_=>ht
 | j+1,hj=>by
   have h1:=Rm ht h j (by omega)
   have h2:=h _ (ai (l:=l) (j:=j) (by omega))
   simp only[NS];omega
theorem LB{ws:List World}{M:Int}(h0:0≤M)(h:AW (fun w=>w.time≤M) ws):∀i,i≤ws.length→Da ws i≤M
 | 0,_=>h0
 | i+1,hi=>Rm (LB h0 h i (by omega)) (h _ (ai (by omega))) _ (aLs _)
theorem ZR{b:Bel}(h:AW (fun w=>w.time≤500) b.ao):tc b≤500:=LB (by omega) h _ (aLs _)
structure SlF(bm:aC)(w:Wh)(t:Int):Prop where
 ln:(TA bm w t).frm.length=bm.aa.length
 bd:bnd (TA bm w t).frm
 cl:clW bm t none (TA bm w t).frm
 le:∀j,j<bm.aa.length→nth (TA bm w t).frm j≤if t<nth w.frm j then 1099511627776 else nth w.frm j
end Go.Ev
namespace Go.Ev
open Go
variable [Lib] [bX] [bJ] [fR] [fS] [iK] [fy] [fo] [gU] [fM] [cV] [cI] [fB] [eu] [jb] [iE] [gl] [eQ] [jj]
def AH(t ahead:Int):Bool:=decide (0≤t∧t≤2147483648)&&decide (0≤ahead∧ahead≤2147483648)
theorem Nf{m:aC}(hm:m.ok){e:Esc}(he:e.ok m){b:Bel}(hb:qV m b=true)(hs:b.sz)(t ahead:Int):
 aH 0 N.cH [.t m.e,.t e.e,.t b.e,I t,I ahead] []=some (I (if AH t ahead=true then 0 else 8),[]):=by
 refine av K.kE rfl ?_
 have v1:=AE hm he
 have v2:=MG hm b hs
 rw[hb]at v2
 have i1:=C3 t 0 2147483648
 have i2:=C3 ahead 0 2147483648
 unfold AH
 generalize decide (0≤t∧t≤2147483648)=c1 at*
 generalize decide (0≤ahead∧ahead≤2147483648)=c2 at*
 obtain⟨aa,roads⟩:=m
 obtain⟨safe,bad,shut,b9⟩:=e
 obtain⟨ws⟩:=b
 cases c1<;>cases c2
 all_goals simp(disch:=omega)only[go_sem,K.cH,↓reduceIte,v1,v2,i1,i2,Bool.not_true,Bool.not_false,Bool.and_self,Bool.and_true,Bool.and_false,Bool.false_and,reduceAdd,reduceSub]
theorem Ea(m:aC)(e:Esc)(b:Bel)(t:Int)(h3:sP b≤3):(uV m e b t).length≤192:=by
 unfold uV
 have:=List.length_filter_le (fun x=> !km m e x.toNat) (uN b t (sP b))
 have:=D8 b t (sP b)
 omega
theorem Rn(m:aC):dz m [] []=m:=by
 unfold dz
 simp only[List.length_nil,clN]
structure BkG(m:aC)(l:List Int)(j:Nat):Prop where
 s:rq l (j:Int)=true
 ln:l.length≤j
 c:∀x∈l,(nth m.roads x.toNat).closed=false
theorem BkG.zero(m:aC):BkG m [] 0:=⟨rfl,aLs _,by simp⟩
theorem BkG.skip{m:aC}{l:List Int}{j:Nat}(h:BkG m l j):BkG m l (j+1):=⟨(Hh h.s).1,by have:=h.ln;omega,h.c⟩
theorem BkG.add{m:aC}{l:List Int}{j:Nat}(h:BkG m l j)(hc:(nth m.roads j).closed=false):BkG m (l++[(j:Int)]) (j+1):=by
 refine⟨(Hh h.s).2,by have:=h.ln;simp;omega,fun x hx=>?_⟩
 rcases List.mem_append.1 hx with hx | hx
 · exact h.c x hx
 · rw[List.mem_singleton]at hx
   subst hx
   rw[Int.toNat_natCast]
   exact hc
end Go.Ev
namespace Go.Ev
open Go
variable [Lib] [bX] [bJ] [fR] [fS] [iK] [fy] [fo] [gU] [fM] [cV] [cI] [fB] [eu]
end Go.Ev
namespace Go.Ev
open Go
variable [Lib] [bX] [bJ] [fR] [fS] [iK] [fy] [fo] [gU] [fM]
end Go.Ev
namespace Go.Ev
open Go
variable [Lib] [bX] [bJ] [fR] [fS] [iK] [fy] [fo] [gU] [fM] [cV] [cI] [fB] [eu]
theorem ae0{m:aC}(hm:m.ok)(t:Int){w:Wh}(h:w.frm.length≤1000000):(cO m w t).1.frm.length≤1000000:=by
 unfold cO
 cases hp:ky w m.aa.length with
 | false=>simpa using h
 | true=>
   obtain⟨p1,p2,p3⟩:=lB hp
   rw[if_neg (by simp)]
   split
   · exact h
   · rename_i c
     have np:=hm.np
     have:=lI hm t (by unfold inT at p2 ⊢;omega) none (by simp) (l:=w.frm) (by omega) (fun x hx=>mW (p3 x hx))
     simp only;omega
theorem LC{m:aC}(hm:m.ok){b:Bel}(hs:b.sz)(t:Int):(cy m b t).1.sz:=by
 unfold cy
 split
 · exact hs
 · split
   · exact hs
   · split
     · exact hs
     · refine⟨by simpa using hs.1,fun x hx=>?_⟩
       obtain⟨y,hy,rfl⟩:=List.mem_map.1 hx
       obtain⟨y1,y2,y3⟩:=hs.2 y hy
       refine⟨y1,by simpa [rnW]using y2,fun w hw=>?_⟩
       simp only[rnW]at hw
       obtain⟨v,hv,rfl⟩:=List.mem_map.1 hw
       exact ae0 hm t (y3 v hv)
end Go.Ev
namespace Go.Ev
open Go
variable [Lib] [bX] [bJ] [fR] [fS] [iK] [fy] [fo] [gU] [fM] [cV] [cI] [fB] [eu] [jb] [iE] [gl] [eQ] [jj]
def te(l al:List Int):List Int:=l.filter fun x=> !decide (x∈al)
def JF(m:aC)(e:Esc)(b:Bel)(s o al:List Int)(t ahead:Int):aC×List Int×Int:=
 if ab7 s o=true then(⟨[],[]⟩,[],4)
 else if AH t ahead=false then(⟨[],[]⟩,[],8)
 else if(cy (dz m s o) b t).2≠0 then(⟨[],[]⟩,[],(cy (dz m s o) b t).2)
 else if 0<(te (uV (dz m s o) e (cy (dz m s o) b t).1 (t+ahead)) al).length then(m,te (uV (dz m s o) e (cy (dz m s o) b t).1 (t+ahead)) al,46)
 else(dz m s o,uV (dz m s o) e (cy (dz m s o) b t).1 (t+ahead),0)
def acD(r:aC×List Int×Int):D:= .tup [.t r.1.e,.t (tL r.2.1),I r.2.2]
theorem HH{m:aC}{e:Esc}(h:e.ok m)(s o:List Int):e.ok (dz m s o):=by
 have l:=vF m s o
 have p:(dz m s o).aa=m.aa:=rfl
 exact⟨by rw[p];exact h.s,by rw[p];exact h.b,by rw[l];exact h.h,h.l0,h.l1⟩
theorem Ro{t ahead:Int}(h:AH t ahead=true):0≤t∧t≤2147483648∧0≤ahead∧ahead≤2147483648:=by
 unfold AH at h
 simp only[aLr,decide_eq_true_eq]at h
 exact⟨h.1.1,h.1.2,h.2.1,h.2.2⟩
theorem Ng(al:List Int)(ho:al.length≤1000000)(x:Int):aH 0 N.bO [I x,.bp 0 0] [.box [.t (tL al)]]=some (B (decide (x∈al)),[.box [.t (tL al)]]):=by
 refine av K.kg rfl ?_
 have cn:=oX al x (by omega)
 simp(disch:=omega)only[go_sem,K.bO,↓reduceIte,cn,reduceAdd,reduceSub]
theorem Rq{m:aC}(hm:m.ok){e:Esc}(he:e.ok m){b:Bel}(hb:qV m b=true)(hs:b.sz)(h3:sP b≤3){s o al:List Int}(h4:rq s m.roads.length=true)(h5:rq o m.roads.length=true)(h6:al.length≤1000000)(t ahead:Int):
 aH 0 N.bh [.t m.e,.t e.e,.t b.e,.t (tL s),.t (tL o),.t (tL al),I t,I ahead] []=some (acD (JF m e b s o al t ahead),[]):=by
 refine av K.lE rfl ?_
 have af:=CK hm h4 h5
 have af0:=CK hm (s:=[]) (o:=[]) rfl rfl
 rw[Rn]at af0
 have ck:=Nf hm he hb hs t ahead
 have hn:=HE hm h4 h5
 have rn:=Q6 hn b hs t
 have en:=HH he s o
 unfold JF
 have hh:(s.any fun x=>decide (x∈o))=ab7 s o:=rfl
 rw[hh]at af
 have nm:=fun h0:(cy (dz m s o) b t).2=0=>Uh hn en (D9 hn hb h0) (LC hn hs t) (by rw[zL h0];exact h3) (t+ahead)
 have nl:=fun h0:(cy (dz m s o) b t).2=0=>Ea (dz m s o) e (cy (dz m s o) b t).1 (t+ahead) (by rw[zL h0];exact h3)
 cases hc:ab7 s o with
 | true=>
   rw[hc,if_pos rfl]at af
   rw[if_pos rfl]
   clear nm nl
   obtain⟨aa,roads⟩:=m
   obtain⟨safe,bad,shut,b9⟩:=e
   obtain⟨ws⟩:=b
   simp only[acD]at*
   simp(disch:=omega)only[go_sem,K.bh,↓reduceIte,af,reduceAdd,reduceSub]
   rfl
 | false=>
   rw[hc,if_neg (by simp)]at af
   rw[if_neg (by simp)]
   cases hT:AH t ahead with
   | false=>
     rw[hT,if_neg (by simp)]at ck
     rw[if_pos rfl]
     clear nm nl
     generalize dz m s o=A at*
     obtain⟨ap,ar⟩:=A
     obtain⟨aa,roads⟩:=m
     obtain⟨safe,bad,shut,b9⟩:=e
     obtain⟨ws⟩:=b
     simp only[acD]at*
     simp(disch:=omega)only[go_sem,K.bh,↓reduceIte,af,ck,reduceAdd,reduceSub]
     rfl
   | true=>
     rw[hT,if_pos rfl]at ck
     rw[if_neg (by simp)]
     have tt:=Ro hT
     by_cases h0:(cy (dz m s o) b t).2=0
     · have nm2:=nm h0
       have nl2:=nl h0
       clear nm nl
       rw[if_neg (by simpa using h0)]
       generalize hA:uV (dz m s o) e (cy (dz m s o) b t).1 (t+ahead)=L at*
       have c1:=yu L (by omega)
       obtain⟨ep,dl⟩:=Ud N.bO (fun x=>decide (x∈al)) (tL al) L (fun x _=>Ng al h6 x) (by omega) 0
       have rl:(L.filter fun x=> !decide (x∈al))=te L al:=rfl
       rw[rl]at dl
       generalize dz m s o=A at*
       generalize cy A b t=r at*
       obtain⟨⟨w2⟩,rc⟩:=r
       simp only at h0
       subst h0
       obtain⟨ap,ar⟩:=A
       obtain⟨aa,roads⟩:=m
       obtain⟨safe,bad,shut,b9⟩:=e
       obtain⟨ws⟩:=b
       simp only[acD]at*
       by_cases hr:0<(te L al).length
       · rw[if_pos hr]
         generalize te L al=R at*
         simp only[tL,List.map_nil]at*
         have hz:ab7 [] []=false:=rfl
         rw[if_neg (by simp)]at af0
         simp(disch:=omega)only[go_sem,K.bh,↓reduceIte,af,ck,rn,nm2,c1,dl,hr,af0,reduceAdd,reduceSub]
       · rw[if_neg hr]
         generalize te L al=R at*
         simp(disch:=omega)only[go_sem,K.bh,↓reduceIte,af,ck,rn,nm2,c1,dl,hr,reduceAdd,reduceSub]
     · rw[if_pos h0]
       clear nm nl
       generalize dz m s o=A at*
       generalize cy A b t=r at*
       obtain⟨⟨w2⟩,rc⟩:=r
       obtain⟨ap,ar⟩:=A
       obtain⟨aa,roads⟩:=m
       obtain⟨safe,bad,shut,b9⟩:=e
       obtain⟨ws⟩:=b
       simp only[acD]at*
       simp(disch:=omega)only[go_sem,K.bh,↓reduceIte,af,ck,rn,h0,reduceAdd,reduceSub]
       rfl
theorem JG{m n:aC}(hp:n.aa.length=m.aa.length){w:Wh}(hv:dF m w=true){t:Int}(h1:w.time≤t)(h2:t≤2147483648):(cO n w t).2=0:=by
 have pl:ky w n.aa.length=true:=by
  rw[hp]
  unfold dF at hv
  simp only[aLr]at hv
  exact hv.1
 unfold cO
 rw[pl,if_neg (by simp),if_neg (by omega)]
theorem Nh{m n:aC}(hp:n.aa.length=m.aa.length){b:Bel}(hb:qV m b=true){t:Int}(h1:tc b≤t)(h2:t≤2147483648):(cy n b t).2=0:=by
 have v:=uz (ws:=b.ao) hb
 obtain⟨q1,q2, -⟩:=gH hb
 have all0:∀i,i<b.ao.length→∀j,j<(nth b.ao i).whr.length→(cO n (nth (nth b.ao i).whr j) t).2=0:=by
  intro i hi j hj
  have vi:=(v.wv _ (ai hi)).wv _ (ai hj)
  have le:=(Rl b).2 _ (ai hi) _ (ai hj)
  exact JG hp vi (by omega) h2
 have no6:∀i,i<b.ao.length→rx6 n t b.ao i=false:=by
  intro i hi
  unfold rx6
  have:(List.range (nth b.ao i).whr.length).find? (rn6 n t (nth b.ao i).whr)=none:=by
   rw[List.find?_eq_none]
   intro j hj
   rw[aLu]at hj
   unfold rn6
   rw[all0 i hi j hj];simp
  rw[this];rfl
 have hn:(List.range b.ao.length).find? (rx6 n t b.ao)=none:=by
  rw[List.find?_eq_none]
  intro i hi
  rw[aLu]at hi
  rw[no6 i hi];simp
 have r8:=Lv n t b.ao (Bo hn) b.ao.length (aLs _)
 have z:rnX n t b.ao 0 b.ao.length=0:=r8.2.2 (fun k hk j hj=>all0 k hk j hj)
 unfold cy
 rw[if_neg (by omega),hn]
 simp only
 rw[if_neg (by simp[z])]
theorem HI{m:aC}{b:Bel}(hb:qV m b=true):(nth b.ao 0).tags.length=sP b:=by
 have v:=uz (ws:=b.ao) hb
 exact((v.wv _ (ai (l:=b.ao) (j:=0) (by have:=(gH hb).1;omega))).wl).symm
theorem Ul(d:aF)(m n:aC)(e:Esc)(b:Bel)(al l:List Int)(ha:al.length≤1000000)(hl:l.length≤1000000)(h:∀x∈l,x∉al)(z0 z1 z2 z4 z5 z6 z7 z9 z12 z14 z15 z16 z17 z18:D):
 exS aH K.lM ⟨[z0,z1,z2,.bp 1 0,z4,z5,z6,z7,.t (tL al),z9,.bp 4 0,.t (tL l),z12,I 0,z14,z15,z16,z17,z18],[d.obj,.box (ae m),.box [.t (.sl (b.ao.map World.e))],.box (gV e),.box (ae n)]⟩=
  some (.exit 0,⟨[.und,.und,.und,.bp 1 0,.und,.und,.und,.und,.t (tL al),.und,.bp 4 0,.t (tL l),.und,I l.length,.und,.und,.und,.und,.und],[d.obj,.box (ae m),.box [.t (.sl (b.ao.map World.e))],.box (gV e),.box (ae n)]⟩):=by
 refine bz (fun j=>⟨[.und,.und,.und,.bp 1 0,.und,.und,.und,.und,.t (tL al),.und,.bp 4 0,.t (tL l),.und,I j,.und,.und,.und,.und,.und],[d.obj,.box (ae m),.box [.t (.sl (b.ao.map World.e))],.box (gV e),.box (ae n)]⟩) l.length (by simp only[go_sem]) ?_ ?_ (by simp)
 · intro j hj
   have hs:=mO al (nth l j) (by omega)
   rw[decide_eq_false (h _ (ai hj))]at hs
   simp(disch:=omega)only[go_sem,K.iM,↓reduceIte,hs,Bool.not_true,reduceAdd,reduceSub]
 · simp(disch:=omega)only[go_sem,K.iM,↓reduceIte,reduceAdd,reduceSub]
theorem Um(d:aF)(m:aC){n:aC}(hn:n.ok){e:Esc}(he:e.ok n)(b c:Bel)(al l P:List Int)(ha:al.length≤1000000)(hl:l.length≤1000000)(hP:P.length≤64)
 (h:∀x∈P,(0≤x∧x<n.aa.length)∧(km n e x.toNat=true∨x∈al∧x∈l)) (t ahead i k:Int) (z0 z1 z2 z3 z9 z12 z13:D):
 exS aH K.lN ⟨[z0,z1,z2,z3,.bp 2 0,.bp 3 0,I t,I ahead,.t (tL al),z9,.bp 4 0,.t (tL l),z12,z13,.bp 5 0,I k,I i,.t (tL P),I 0],[d.obj,.box (ae m),.box [.t (.sl (b.ao.map World.e))],.box (gV e),.box (ae n),.box [.t (.sl (c.ao.map World.e))]]⟩=
  some (.exit 4,⟨[.und,.und,.und,.und,.bp 2 0,.bp 3 0,I t,I ahead,.t (tL al),.und,.bp 4 0,.t (tL l),.und,.und,.bp 5 0,I k,I i,.t (tL P),I P.length],[d.obj,.box (ae m),.box [.t (.sl (b.ao.map World.e))],.box (gV e),.box (ae n),.box [.t (.sl (c.ao.map World.e))]]⟩):=by
 refine bz (fun j=>⟨[.und,.und,.und,.und,.bp 2 0,.bp 3 0,I t,I ahead,.t (tL al),.und,.bp 4 0,.t (tL l),.und,.und,.bp 5 0,I k,I i,.t (tL P),I j],[d.obj,.box (ae m),.box [.t (.sl (b.ao.map World.e))],.box (gV e),.box (ae n),.box [.t (.sl (c.ao.map World.e))]]⟩) P.length (by simp only[go_sem]) ?_ ?_ (by simp)
 · intro j hj
   obtain⟨⟨x0,x1⟩,hx⟩:=h _ (ai hj)
   have h1:=mO al (nth P j) (by omega)
   have h2:=mO l (nth P j) (by omega)
   have g:aH 0 N.cX [.t n.e,.t e.e,I (nth P j)] []=some (B (km n e (nth P j).toNat),[]):=by
    obtain⟨p,hp⟩:=Int.eq_ofNat_of_zero_le x0
    rw[hp]at x1 ⊢
    exact M6 hn he (p:=p) (by omega)
   clear h
   generalize km n e (nth P j).toNat=a at*
   generalize hy:nth P j=y at*
   obtain⟨np,nr⟩:=n
   obtain⟨safe,bad,shut,b9⟩:=e
   simp only[ae,gV]at*
   cases a with
   | true=>simp(disch:=omega)only[go_sem,K.fU,↓reduceIte,g,hy,Bool.not_true,Bool.not_false,reduceAdd,reduceSub]
   | false=>
     have hx:=hx.resolve_left (by simp)
     rw[decide_eq_true hx.1]at h1
     rw[decide_eq_true hx.2]at h2
     simp(disch:=omega)only[go_sem,K.fU,↓reduceIte,g,h1,h2,hy,Bool.not_true,Bool.not_false,reduceAdd,reduceSub]
 · simp(disch:=omega)only[go_sem,K.fU,↓reduceIte,reduceAdd,reduceSub]
theorem Un(d:aF)(m:aC){n:aC}(hn:n.ok){e:Esc}(he:e.ok n){b c:Bel}(hw:1≤b.ao.length)(hc:c.sz)(al l:List Int)(ha:al.length≤1000000)(hl:l.length≤1000000)(t ahead k:Int)(htl:(nth b.ao 0).tags.length≤1000)(t0:0≤t)(t1:t≤1000000)(a0:0≤ahead)(a1:ahead≤1000000)
 (h:∀i:Nat,i<(nth b.ao 0).tags.length→∀x∈nS c i (t+ahead),(0≤x∧x<n.aa.length)∧(km n e x.toNat=true∨x∈al∧x∈l)) (z0 z1 z2 z3 z9 z12 z13 z17 z18:D):
 exS aH K.lO ⟨[z0,z1,z2,z3,.bp 2 0,.bp 3 0,I t,I ahead,.t (tL al),z9,.bp 4 0,.t (tL l),z12,z13,.bp 5 0,I k,I 0,z17,z18],[d.obj,.box (ae m),.box [.t (.sl (b.ao.map World.e))],.box (gV e),.box (ae n),.box [.t (.sl (c.ao.map World.e))]]⟩=
  some (.exit 2,⟨[.und,.und,.und,.und,.bp 2 0,.bp 3 0,I t,I ahead,.t (tL al),.und,.bp 4 0,.t (tL l),.und,.und,.bp 5 0,I k,I (nth b.ao 0).tags.length,.und,.und],[d.obj,.box (ae m),.box [.t (.sl (b.ao.map World.e))],.box (gV e),.box (ae n),.box [.t (.sl (c.ao.map World.e))]]⟩):=by
 have ex:(b.ao.map World.e)[0]?=some (nth b.ao 0).e:=bR _ (by omega)
 refine bz (fun j=>⟨[.und,.und,.und,.und,.bp 2 0,.bp 3 0,I t,I ahead,.t (tL al),.und,.bp 4 0,.t (tL l),.und,.und,.bp 5 0,I k,I j,.und,.und],[d.obj,.box (ae m),.box [.t (.sl (b.ao.map World.e))],.box (gV e),.box (ae n),.box [.t (.sl (c.ao.map World.e))]]⟩) (nth b.ao 0).tags.length (by simp only[go_sem]) ?_ ?_ (by simp)
 · intro j hj
   have po:=EM c hc j (t+ahead)
   have lp:=Um d m hn he b c al l (nS c j (t+ahead)) ha hl (ux c j (t+ahead)) (h j hj) t ahead j k
   clear h
   generalize nS c j (t+ahead)=P at*
   generalize hwo:nth b.ao 0=w at*
   obtain⟨tg,wh⟩:=w
   simp only at hj htl
   obtain⟨np,nr⟩:=n
   obtain⟨safe,bad,shut,b9⟩:=e
   obtain⟨cw⟩:=c
   simp only[ae,gV]at*
   simp(disch:=omega)only[go_sem,K.iN,↓reduceIte,ex,po,lp,reduceAdd,reduceSub]
 · clear h
   generalize hwo:nth b.ao 0=w at*
   obtain⟨tg,wh⟩:=w
   simp(disch:=omega)only[go_sem,K.iN,↓reduceIte,ex,reduceAdd,reduceSub]
theorem JH(aw:aH 0 N.ic [] []=some (B true,[]))(li:List Int):aH 0 N.bB [.t (tL li)] []=some (B true,[]):=by
 refine av K.jx rfl ?_
 have lo:=SI li
 by_cases c:li.length≤400
 · simp only[c,decide_true]at lo
   have ro:=aet li
   have d0:(aF.mk li 0).dY:=c
   generalize (aF.mk li 0)=d at*
   obtain⟨m,e1,mo,l1,hm,p1,p2,r1,r2⟩:=aeu d0
   obtain⟨b,e2,be,l2,hv,hs,w6,n3,hT⟩:=Uk l1 hm (by omega)
   obtain⟨esc,e3,eo,l3,ev,ev2, -⟩:=Ub l2 hm (by omega) (by omega)
   have la:=ZQ b hs
   have ll:=ZR hT
   have l0:=(Rl b).1
   have nr:=hm.nr
   obtain⟨g1,e4,go1,l4,g10,g11⟩:=PL l3 100 (by omega) (by omega)
   obtain⟨ah,e5,go2,l5,ahm⟩:=aj9 l4 [0,30] (by simp) (by simp)
   obtain⟨al,e6,go3,l6,al1⟩:=aeA l5 m.aa.length (by omega)
   obtain⟨x,e7,go4,l7,x0,x1⟩:=PL l6 m.roads.length (by omega) (by omega)
   have ah1:0≤ah∧ah≤30:=by
    simp only[List.mem_cons,List.not_mem_nil,or_false]at ahm;omega
   have h3:sP b≤3:=by
    have v:=uz (ws:=b.ao) hv
    have:=(v.wv _ (ai (l:=b.ao) (j:=0) (by have:=(gH hv).1;omega))).wl
    unfold sP
    omega
   have sx:rq [x] m.roads.length=true:=VI x0 x1
   have s0:rq ([]:List Int) m.roads.length=true:=rfl
   have rz:=Nh (m:=m) (n:=dz m [x] []) rfl hv (t:=tc b+g1) (by omega) (by omega)
   have ac:=Rq hm ev hv hs h3 sx s0 (al:=al) (by omega) (tc b+g1) ah
   have hh:ab7 [x] []=false:=by simp[ab7]
   have tb:AH (tc b+g1) ah=true:=by
    unfold AH
    simp only[aLr,decide_eq_true_eq]
    omega
   unfold JF acD at ac
   rw[hh,tb,if_neg (by simp),if_neg (by simp),if_neg (by rw[rz];simp)]at ac
   have aok:=HE hm sx s0
   have aes:=HH ev [x] []
   have al2:=vF m [x] []
   have cb:=D9 aok hv rz
   have cs:=LC aok hs (tc b+g1)
   have cp:=zL rz
   have rr:=Q9 aok b hs (tc b+g1)
   have sm:=Ua m (by have:=hm.np;omega) (by omega)
   have cl:(nth (dz m [x] []).roads x.toNat).closed=true:=by
    rw[D7 sx s0 (by omega)]
    rw[if_neg (by simp),if_pos (by simp;omega)];rfl
   have nl:=Ea (dz m [x] []) esc (cy (dz m [x] []) b (tc b+g1)).1 (tc b+g1+ah) (by rw[cp];exact h3)
   have nb:∀i:Nat,i<(nth b.ao 0).tags.length→∀y∈nS (cy (dz m [x] []) b (tc b+g1)).1 i (tc b+g1+ah),(0≤y∧y<(dz m [x] []).aa.length)∧(km (dz m [x] []) esc y.toNat=true∨y∈uV (dz m [x] []) esc (cy (dz m [x] []) b (tc b+g1)).1 (tc b+g1+ah)):=by
    intro i hi y hy
    refine⟨Rf cb hy,?_⟩
    cases hq:km (dz m [x] []) esc y.toNat with
    | true=>exact .inl rfl
    | false=>
      refine .inr ?_
      unfold uV
      rw[List.mem_filter,Rg]
      refine⟨⟨i,?_,hy⟩,by rw[hq];rfl⟩
      rw[cp,←HI hv];exact hi
   have hw:=(gH hv).1
   have ht3:(nth b.ao 0).tags.length≤1000:=by rw[HI hv];omega
   have pl2:(dz m [x] []).aa.length=m.aa.length:=rfl
   clear hh tb hT ev2 hv sx s0 cp cb ahm
   generalize tc b=q0 at*
   generalize hL:uV (dz m [x] []) esc (cy (dz m [x] []) b (q0+g1)).1 (q0+g1+ah)=L at*
   clear hL
   generalize hA:dz m [x] []=A at*
   clear hA
   generalize cy A b (q0+g1)=r at*
   obtain⟨cbel,rc⟩:=r
   simp only at rz nb cs
   subst rz
   by_cases hr:0<(te L al).length
   · rw[if_pos hr]at ac
     have rl:(te L al).length≤192:=Nat.le_trans (List.length_filter_le _ _) nl
     have lp:=Ul e7 m m esc b al (te L al) (by omega) (by omega) (by
      intro y hy
      unfold te at hy
      rw[List.mem_filter]at hy
      simpa using hy.2)
     generalize te L al=R at*
     clear nb nl
     simp only[tL,List.map_cons,List.map_nil]at go2
     obtain⟨ap,ar⟩:=A
     obtain⟨aa,roads⟩:=m
     obtain⟨safe,bad,shut,b9⟩:=esc
     obtain⟨ws⟩:=b
     simp only[ae,gV,tL,List.map_cons,List.map_nil]at*
     simp(disch:=omega)only[go_sem,K.bB,↓reduceIte,lo,ro,mo,be,eo,la,go1,go2,go3,go4,ac,lp,sm,hr,aw,Bool.not_true,reduceAdd,reduceSub]
   · rw[if_neg hr]at ac
     have lp:=Un e7 m aok aes hw cs al L (by omega) (by omega) (q0+g1) ah 0 ht3 (by omega) (by omega) (by omega) (by omega) (by
      intro i hi y hy
      obtain⟨y1,y2⟩:=nb i hi y hy
      refine⟨y1,y2.imp_right fun hy2=>⟨?_,hy2⟩⟩
      rcases Classical.em (y∈al)with h | h
      · exact h
      · exfalso
        apply hr
        apply List.length_pos_of_mem (a:=y)
        unfold te
        rw[List.mem_filter]
        exact⟨hy2,by simpa using h⟩)
     clear nb nl hr
     simp only[tL,List.map_cons,List.map_nil]at go2
     have exA:(A.roads.map Road.e)[x.toNat]?=some (nth A.roads x.toNat).e:=bR _ (by omega)
     generalize nth A.roads x.toNat=y at*
     obtain⟨frm,to,len,ar9,walk,closed,rl,rh,lfl,lh⟩:=y
     simp only at cl
     subst cl
     obtain⟨ap,ar⟩:=A
     obtain⟨aa,roads⟩:=m
     obtain⟨safe,bad,shut,b9⟩:=esc
     obtain⟨ws⟩:=b
     obtain⟨cw⟩:=cbel
     simp only[ae,gV,tL,List.map_cons,List.map_nil]at*
     simp(disch:=omega)only[go_sem,K.bB,↓reduceIte,lo,ro,mo,be,eo,la,go1,go2,go3,go4,ac,lp,rr,exA,aw,Bool.not_true,reduceAdd,reduceSub]
 · simp only[c,decide_false]at lo
   simp(disch:=omega)only[go_sem,K.bB,↓reduceIte,lo,aw,reduceAdd,reduceSub]
end Go.Ev
