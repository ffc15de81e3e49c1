/- Parts of the proof: see the text that holds the theorem. -/
import Derived.Test.YtjjghpgeifjojaaGreatZ4
set_option linter.all false
open Nat (reduceAdd reduceSub)
set_option maxRecDepth 100000
namespace Go.Ev
open Go
variable [Lib] [bO] [bL] [dL] [dm] [hU] [dg] [dn] [eR] [dF] [bY] [b7] [dw] [dk] [fM] [fp] [jx] [eS] [im]
theorem Fq(l:List Rdr)(hl:l.length≤4294967296)(f:Nat)(bs:List (List T))(p:Rdr→Bool)(h:∀x,x∈l→aL 0 f (.t x.e::gg bs.length) (aY bs)=some (B (p x),aY bs)):
 aL 0 N.aC [.t (.sl (l.map Rdr.e)),.fn f (gg bs.length)] (aY bs)=
 some (I (match (List.range l.length).find? (fun j=>p (nth l j))with | some j=>(j:Int) | none=> -1),aY bs):=by
 refine aj K.b9 rfl ?_
 have loop:∀a b:D,exS aL K.dH ⟨[.t (.sl (l.map Rdr.e)),.fn f (gg bs.length),a,b,I l.length,I 0],aY bs⟩=
  some (match (List.range l.length).find? (fun j=>p (nth l j))with
   | some j=>(.ret,⟨[.t (.sl (l.map Rdr.e)),.fn f (gg bs.length),I j,I j,I l.length,I j],aY bs⟩)
   | none=>(.exit 0,⟨[.t (.sl (l.map Rdr.e)),.fn f (gg bs.length),.und,.und,I l.length,I l.length],aY bs⟩)):=by
  intro a b
  refine fY (fun j=>⟨[.t (.sl (l.map Rdr.e)),.fn f (gg bs.length),.und,.und,I l.length,I j],aY bs⟩) l.length (fun j=>p (nth l j)) _ _ rfl ?_ ?_ ?_ (by simp)
  · intro j hj hp
    have hc:=lO (h _ (aE hj)) rfl
    simp(disch:=omega)only[go_sem,K.bC,↓reduceIte,hc,hp]
  · intro j hj hp
    have hc:=lO (h _ (aE hj)) rfl
    simp(disch:=omega)only[go_sem,K.bC,↓reduceIte,hp,hc]
    simp
  · simp(disch:=omega)only[go_sem,K.bC,↓reduceIte]
 simp(disch:=omega)only[go_sem,K.aC,↓reduceIte,loop]
 cases hf:(List.range l.length).find? (fun j=>p (nth l j))with
 | some j=>simp(disch:=omega)only[go_sem,↓reduceIte]
 | none=>simp(disch:=omega)only[go_sem,↓reduceIte]
theorem AX(l:List Rdr)(hl:l.length≤4294967296)(f:Nat)(bs:List (List T))(p:Rdr→Bool)(h:∀x,x∈l→aL 0 f (.t x.e::gg bs.length) (aY bs)=some (B (p x),aY bs)):
 aL 0 N.au [.t (.sl (l.map Rdr.e)),.fn f (gg bs.length)] (aY bs)=some (B (l.any p),aY bs):=by
 refine aj K.bW rfl ?_
 have h:=Fq l hl f bs p h
 have hc:=vB aL bs f _ 0 (.sl (l.map Rdr.e)) h rfl
 have e:=Ld (l:=l) (p:=p)
 cases hf:(List.range l.length).find? (fun j=>p (nth l j))with
 | some j=>rw[hf]at e hc;simp(disch:=omega)only[go_sem,K.au,↓reduceIte,←e,hc]
 | none=>rw[hf]at e hc;simp(disch:=omega)only[go_sem,K.au,↓reduceIte,←e,hc,Option.isSome_none]
def Fs(n:Int)(r:Rdr):Bool:= !(!decide (r.pl.length=0)&&lQ r.pl n&&decide (1≤r.per∧r.per≤600)&&decide (0≤r.miss∧r.miss≤10)&&decide (0≤r.skew∧r.skew≤60))
def yF(m:bq)(l:List Rdr):Bool:=decide (l.length≤32)&& !(l.any (Fs m.aa.length))
theorem X1(m:bq)(hp:m.aa.length≤1000000)(r:Rdr)(hl:r.pl.length≤1000000):aL 0 N.bP [.t r.e,.bp 0 0] [.box (ae m)]=some (B (Fs m.aa.length r),[.box (ae m)]):=by
 refine aj K.lH rfl ?_
 have ri:=mF r.pl 0 ((m.aa.length:Int)-1) (by omega)
 rw[zv]at ri
 have i1:=oa r.per 1 600
 have i2:=oa r.miss 0 10
 have i3:=oa r.skew 0 60
 unfold Fs
 generalize lQ r.pl m.aa.length=b0 at*
 obtain⟨pl,per,miss,skew⟩:=r
 obtain⟨aa,roads⟩:=m
 simp only[ae]at*
 generalize decide (1≤per∧per≤600)=b1 at*
 generalize decide (0≤miss∧miss≤10)=b2 at*
 generalize decide (0≤skew∧skew≤60)=b3 at*
 by_cases c:pl.length=0
 · rw[c]
   simp(disch:=omega)only[go_sem,K.bP,↓reduceIte,c,decide_true,Bool.not_true,Bool.false_and,Bool.not_false,reduceAdd,reduceSub]
 · cases b0<;>cases b1<;>cases b2<;>cases b3
   all_goals simp(disch:=omega)only[go_sem,K.bP,↓reduceIte,c,ri,i1,i2,i3,decide_false,Bool.not_true,Bool.not_false,Bool.false_and,Bool.true_and,Bool.and_true,Bool.and_false,Bool.and_self,reduceAdd,reduceSub]
theorem X2(m:bq)(hp:m.aa.length≤1000000)(l:List Rdr)(hl:l.length≤1000000)(h2:∀y∈l,y.pl.length≤1000000):aL 0 N.au [.t (.sl (l.map Rdr.e)),.fn N.bP [.bp 0 0]] [.box (ae m)]=some (B (l.any (Fs m.aa.length)),[.box (ae m)]):=
 AX l (by omega) N.bP [[.sl (m.aa.map Place.e),.sl (m.roads.map Road.e)]] (Fs m.aa.length) (fun x hx=>X1 m hp x (h2 x hx))
theorem Er{m:bq}(hm:m.ok)(l:List Rdr)(hl:l.length≤1000000)(h2:∀y∈l,y.pl.length≤1000000):aL 0 N.b6 [.t m.e,.t (.sl (l.map Rdr.e))] []=some (B (yF m l),[]):=by
 refine aj K.kI rfl ?_
 have cf:=X2 m (by have:=hm.np;omega) l hl h2
 have pv:=lV hm
 unfold yF
 generalize l.any (Fs m.aa.length)=b at*
 obtain⟨aa,roads⟩:=m
 simp only[ae]at*
 by_cases c:l.length≤32
 · simp(disch:=omega)only[go_sem,K.b6,↓reduceIte,pv,cf,c,decide_true,Bool.true_and,reduceAdd,reduceSub]
 · simp(disch:=omega)only[go_sem,K.b6,↓reduceIte,pv,c,decide_false,Bool.false_and,reduceAdd,reduceSub]
theorem JO{m:bq}(hm:m.ok)(l:List Rdr)(hl:l.length≤1000000)(h2:∀y∈l,y.pl.length≤1000000):aL 0 N.dV [.t m.e,.t (.sl (l.map Rdr.e))] []=some (B (yF m l),[]):=by
 refine aj K.oN rfl ?_
 have ck:=x9 hm
 have np:=hm.np
 have nr:=hm.nr
 have lp:=fun z0 z3 z5:D=>pc (gc:=true) (dead:=[0,3,5]) (c:=K.ba) (vs:=[z0,.t (.sl (l.map Rdr.e)),.bp 0 0,z3,I 0,z5]) (H:=[.box (ae m)])
  (fun j=>⟨[.und,.t (.sl (l.map Rdr.e)),.bp 0 0,.und,I j,.und],[.box (ae m)]⟩) l.length (fun j=>Fs m.aa.length (nth l j))
  (fun j=>(.ret,⟨[.und,.t (.sl (l.map Rdr.e)),.bp 0 0,B false,I j,.bp 1 0],[.box (ae m),.box [.t (tL (nth l j).pl),I (nth l j).per,I (nth l j).miss,I (nth l j).skew]]⟩))
  (.exit 0,⟨[.und,.t (.sl (l.map Rdr.e)),.bp 0 0,.und,I l.length,.und],[.box (ae m)]⟩) rfl
  (fun j hj hq=>by
   have ex:(l.map Rdr.e)[j]?=some (nth l j).e:=bE _ hj
   have st:=wj (nth l j).pl m.aa.length (by have:=h2 _ (aE hj);omega)
   simp only[Fs,Bool.not_eq_false',aLr,Bool.not_eq_true',decide_eq_false_iff_not,decide_eq_true_eq]at hq
   obtain⟨⟨⟨⟨q0,q1⟩,q2⟩,q3⟩,q4⟩:=hq
   rw[q1]at st
   have:=h2 _ (aE hj)
   generalize nth l j=r at*
   obtain⟨pl,per,miss,skew⟩:=r
   simp only at*
   obtain⟨aa,roads⟩:=m
   simp only[ae]at*
   simp(disch:=omega)only[go_sem,K.ba,↓reduceIte,ex,st,q0,reduceAdd,reduceSub]
   )
  (fun j hj hq=>by
   have ex:(l.map Rdr.e)[j]?=some (nth l j).e:=bE _ hj
   have st:=wj (nth l j).pl m.aa.length (by have:=h2 _ (aE hj);omega)
   have:=h2 _ (aE hj)
   unfold Fs at hq
   generalize lQ (nth l j).pl m.aa.length=b0 at*
   generalize nth l j=r at*
   obtain⟨pl,per,miss,skew⟩:=r
   simp only at*
   obtain⟨aa,roads⟩:=m
   simp only[ae]at*
   refine⟨?_,by simp⟩
   by_cases c:pl.length=0
   · simp(disch:=omega)only[go_sem,K.ba,↓reduceIte,ex,c,reduceAdd,reduceSub]
   · cases b0 with
     | false=>simp(disch:=omega)only[go_sem,K.ba,↓reduceIte,ex,st,c,reduceAdd,reduceSub]
     | true=>
       by_cases a0:1≤per
       · by_cases a1:per≤600
         · by_cases a2:0≤miss
           · by_cases a3:miss≤10
             · by_cases a4:0≤skew
               · by_cases a5:skew≤60
                 · exact absurd hq (by simp[c,a0,a1,a2,a3,a4,a5])
                 · simp(disch:=omega)only[go_sem,K.ba,↓reduceIte,ex,st,c,a0,a1,a2,a3,a4,a5,reduceAdd,reduceSub]
               · simp(disch:=omega)only[go_sem,K.ba,↓reduceIte,ex,st,c,a0,a1,a2,a3,a4,reduceAdd,reduceSub]
             · simp(disch:=omega)only[go_sem,K.ba,↓reduceIte,ex,st,c,a0,a1,a2,a3,reduceAdd,reduceSub]
           · simp(disch:=omega)only[go_sem,K.ba,↓reduceIte,ex,st,c,a0,a1,a2,reduceAdd,reduceSub]
         · simp(disch:=omega)only[go_sem,K.ba,↓reduceIte,ex,st,c,a0,a1,reduceAdd,reduceSub]
       · simp(disch:=omega)only[go_sem,K.ba,↓reduceIte,ex,st,c,a0,reduceAdd,reduceSub]
   )
  (by
   obtain⟨aa,roads⟩:=m
   simp only[ae]
   simp(disch:=omega)only[go_sem,K.ba,↓reduceIte,reduceAdd,reduceSub]
   ) (by simp)
 have lp2:∀z0 z3 z5:D,exS aL K.qK _=_:=lp
 clear lp
 unfold yF
 rw[← Cb l (Fs m.aa.length)]
 cases hq:(List.range l.length).any (fun j=>Fs m.aa.length (nth l j))with
 | true=>
   rw[hq]at lp2
   simp only[if_true]at lp2
   generalize uw l.length (fun j=>Fs m.aa.length (nth l j))=j at*
   obtain⟨aa,roads⟩:=m
   simp only[ae,Bool.not_true,Bool.and_false]at*
   simp(disch:=omega)only[go_sem,K.dV,↓reduceIte,lp2,reduceAdd,reduceSub]
 | false=>
   rw[hq]at lp2
   simp only[aLt,if_false]at lp2
   obtain⟨aa,roads⟩:=m
   simp only[ae,Bool.not_false,Bool.and_true]at*
   by_cases c:l.length≤32
   · simp(disch:=omega)only[go_sem,K.dV,↓reduceIte,lp2,ck,c,decide_true,reduceAdd,reduceSub]
   · simp(disch:=omega)only[go_sem,K.dV,↓reduceIte,lp2,ck,c,decide_false,reduceAdd,reduceSub]
theorem Es(l:List Int)(hl:l.length≤1000000):aL 0 N.fQ [.t (tL l)] []=some (B (fJ l),[]):=by
 refine aj K.qQ rfl ?_
 have v:=Hk l
 have s:=Hl l hl
 have r:=mF (kS l) 1 65535 (by rw[kB];omega)
 rw[Ei]at r
 simp(disch:=omega)only[go_sem,K.fQ,↓reduceIte,v,s,r,reduceAdd,reduceSub]
def aay(l:List Int)(j:Nat):Bool:=decide (nth l j<1∨65535<nth l j∨nth l j∈l.take j)
theorem MA(l:List Int):(!(List.range l.length).any (aay l))=fJ l:=by
 rw[Bool.eq_iff_iff,xn]
 simp only[Bool.not_eq_true',List.any_eq_false,aLu,aay,decide_eq_true_eq,not_or,Int.not_lt]
 constructor
 · intro h
   refine⟨?_,fun x hx=>?_⟩
   · rw[List.Nodup,List.pairwise_iff_getElem]
     intro i j hi hj hij e
     have:=(h j hj).2.2
     apply this
     rw[gr (aLc hj),←e]
     exact aLd (show(l.take j)[i]?=some l[i]by rw[aLo,if_pos hij];exact aLc hi)
   · obtain⟨j,hj,rfl⟩:=List.getElem_of_mem hx
     have:=h j hj
     rw[gr (aLc hj)]at this
     exact⟨this.1,this.2.1⟩
 · rintro ⟨h1,h2⟩ j hj
   have:=h2 _ (aE hj)
   refine⟨this.1,this.2,fun hm=>?_⟩
   obtain⟨i,hi⟩:=aLf.1 hm
   have il:=(aLe.1 hi).1
   rw[List.length_take]at il
   rw[aLo,if_pos (by omega)]at hi
   have:=List.pairwise_iff_getElem.1 h1 i j (by omega) hj (by omega)
   apply this
   have a:=gr hi
   rw[gr (aLc (by omega:i<l.length))]at a
   rw[a,gr (aLc hj)]
theorem JP(l:List Int)(hl:l.length≤1000000):aL 0 N.dG [.t (tL l)] []=some (B (fJ l),[]):=by
 refine aj K.oq rfl ?_
 rw[← MA]
 have lp:=fun z1:D=>pc (gc:=true) (dead:=[1]) (c:=K.eI) (vs:=[.t (tL l),z1,I 0]) (H:=[])
  (fun j=>⟨[.t (tL l),.und,I j],[]⟩) l.length (aay l) (fun j=>(.ret,⟨[.t (tL l),B false,I j],[]⟩)) (.exit 0,⟨[.t (tL l),.und,I l.length],[]⟩) rfl
  (fun j hj hq=>by
   have h:=D9 (l.take j) (nth l j) (by rw[List.length_take];omega)
   have tk:(l.map (T.int .i64)).take j=(l.take j).map (T.int .i64):=(List.map_take ..).symm
   unfold aay at hq
   have hq:=of_decide_eq_false hq
   have c3:¬nth l j∈l.take j:=fun x=>hq (.inr (.inr x))
   rw[decide_eq_false c3]at h
   simp(disch:=omega)only[go_sem,K.eI,↓reduceIte,h,tk,reduceAdd,reduceSub]
   )
  (fun j hj hq=>by
   have h:=D9 (l.take j) (nth l j) (by rw[List.length_take];omega)
   have tk:(l.map (T.int .i64)).take j=(l.take j).map (T.int .i64):=(List.map_take ..).symm
   unfold aay at hq
   have hq:=of_decide_eq_true hq
   refine⟨?_,by simp⟩
   by_cases c1:nth l j<1
   · simp(disch:=omega)only[go_sem,K.eI,↓reduceIte,c1,reduceAdd,reduceSub]
   · by_cases c2:65535<nth l j
     · simp(disch:=omega)only[go_sem,K.eI,↓reduceIte,c1,c2,reduceAdd,reduceSub]
     · have c3:nth l j∈l.take j:=by
        rcases hq with a | a | a
        · omega
        · omega
        · exact a
       rw[decide_eq_true c3]at h
       simp(disch:=omega)only[go_sem,K.eI,↓reduceIte,c1,c2,h,tk,reduceAdd,reduceSub]
   )
  (by simp(disch:=omega)only[go_sem,K.eI,↓reduceIte,reduceAdd,reduceSub]
   ) (by simp)
 have lp2:∀z1:D,exS aL K.rJ _=_:=lp
 clear lp
 cases hq:(List.range l.length).any (aay l)with
 | true=>
   rw[hq]at lp2
   simp only[if_true]at lp2
   simp(disch:=omega)only[go_sem,K.dG,↓reduceIte,lp2,Bool.not_true,reduceAdd,reduceSub]
 | false=>
   rw[hq]at lp2
   simp only[aLt,if_false]at lp2
   simp(disch:=omega)only[go_sem,K.dG,↓reduceIte,lp2,Bool.not_false,reduceAdd,reduceSub]
theorem JQ(m:bq)(hp:m.aa.length≤1000000)(hr:m.roads.length≤1000000):aL 0 N.cB [.t m.e,.t m.e] []=some (B true,[]):=by
 refine aj K.lz rfl ?_
 have l1:∀z0 z1 z4 z6:D,exS aL K.nq ⟨[z0,z1,.bp 0 0,.bp 1 0,z4,I 0,z6],[.box (ae m),.box (ae m)]⟩=
  some (.exit 0,⟨[.und,.und,.bp 0 0,.bp 1 0,.und,I m.aa.length,.und],[.box (ae m),.box (ae m)]⟩):=by
  intro z0 z1 z4 z6
  refine bH (fun j=>⟨[.und,.und,.bp 0 0,.bp 1 0,.und,I j,.und],[.box (ae m),.box (ae m)]⟩) m.aa.length rfl ?_ ?_ (by simp)
  · intro j hj
    have ex:(m.aa.map Place.e)[j]?=some (nth m.aa j).e:=bE _ hj
    generalize nth m.aa j=x at*
    obtain⟨h,s⟩:=x
    obtain⟨aa,roads⟩:=m
    simp only[ae]at*
    simp(disch:=omega)only[go_sem,K.iT,↓reduceIte,ex,decide_true,Bool.and_self,Bool.not_true,reduceAdd,reduceSub]
  · obtain⟨aa,roads⟩:=m
    simp only[ae]at*
    simp(disch:=omega)only[go_sem,K.iT,↓reduceIte,reduceAdd,reduceSub]
 have l2:∀z0 z1 z4 z5:D,exS aL K.ns ⟨[z0,z1,.bp 0 0,.bp 1 0,z4,z5,I 0],[.box (ae m),.box (ae m)]⟩=
  some (.exit 2,⟨[.und,.und,.bp 0 0,.bp 1 0,.und,.und,I m.roads.length],[.box (ae m),.box (ae m)]⟩):=by
  intro z0 z1 z4 z5
  refine bH (fun j=>⟨[.und,.und,.bp 0 0,.bp 1 0,.und,.und,I j],[.box (ae m),.box (ae m)]⟩) m.roads.length rfl ?_ ?_ (by simp)
  · intro j hj
    have ex:(m.roads.map Road.e)[j]?=some (nth m.roads j).e:=bE _ hj
    generalize nth m.roads j=x at*
    obtain⟨frm,to,len,ar,walk,closed,rl,rh,ll,lh⟩:=x
    obtain⟨aa,roads⟩:=m
    simp only[ae]at*
    simp(disch:=omega)only[go_sem,K.iU,↓reduceIte,ex,decide_true,Bool.and_self,Bool.not_true,reduceAdd,reduceSub]
  · obtain⟨aa,roads⟩:=m
    simp only[ae]at*
    simp(disch:=omega)only[go_sem,K.iU,↓reduceIte,reduceAdd,reduceSub]
 obtain⟨aa,roads⟩:=m
 simp only[ae]at*
 simp(disch:=omega)only[go_sem,K.cB,↓reduceIte,l1,l2,reduceAdd,reduceSub]
theorem xt(l:List Road)(hl:l.length≤1000000):aL 0 N.aB [.t (.sl (l.map Road.e))] []=some (.t (.sl (l.map Road.e)),[]):=by
 refine aj K.ff rfl ?_
 by_cases h0:l=[]
 · subst h0
   simp only[List.map_nil]
   simp(disch:=omega)only[go_sem,K.aB,↓reduceIte,List.map_nil,reduceAdd,reduceSub]
 · have e:=fun H=>p5 H (l.map Road.e) (by simpa using h0)
   simp(disch:=omega)only[go_sem,K.aB,↓reduceIte,e,reduceAdd,reduceSub]
theorem JR(l:List Wlk)(hl:l.length≤1000000):aL 0 N.ay [.t (.sl (l.map Wlk.e))] []=some (.t (.sl (l.map Wlk.e)),[]):=by
 refine aj K.cC rfl ?_
 by_cases h0:l=[]
 · subst h0
   simp only[List.map_nil]
   simp(disch:=omega)only[go_sem,K.ay,↓reduceIte,List.map_nil,reduceAdd,reduceSub]
 · have e:=fun H=>p5 H (l.map Wlk.e) (by simpa using h0)
   simp(disch:=omega)only[go_sem,K.ay,↓reduceIte,e,reduceAdd,reduceSub]
theorem JS(l:List Wlk)(hl:l.length≤1000000):aL 1 N.ay [.t (.sl (l.map Wlk.e))] []=some (.ref 0 0 l.length,[.arr 3 false 0 ((l.map Wlk.e).map .t)]):=by
 refine aj K.cC rfl ?_
 by_cases h0:l=[]
 · subst h0
   simp only[List.map_nil]
   simp(disch:=omega)only[go_sem,K.ay,↓reduceIte,List.map_nil,List.length_nil,reduceAdd,reduceSub]
 · have e:=fun H=>p5 H (l.map Wlk.e) (by simpa using h0)
   simp(disch:=omega)only[go_sem,K.ay,↓reduceIte,e,reduceAdd,reduceSub]
abbrev ft:List D:=[.nil,.nil,I 0,.nil,.nil,.nil,.nil,.nil,.nil]
abbrev LLe(x:List Int):T:= .sl (x.map (T.int .i64))
theorem JT(x:Tru)(h:x.sz):aL 0 N.gG [.t x.e] []=some (.t x.e,[]):=by
 refine aj K.qR rfl ?_
 obtain⟨a,b,c,d,r,r2,n,l,m,m2⟩:=h
 obtain⟨⟨aa,roads⟩,time,people,tags,readers,numbers,looked,missed⟩:=x
 simp only at*
 have c1:=zA aa a
 have c2:=xt roads b
 have c3:=JR people c
 have c4:=cT tags d
 have c5:=cT numbers n
 have c6:=cT looked l
 simp only[tL]at c4 c5 c6
 have tk1:readers.take readers.length=readers:=List.take_length
 have tk2:missed.take missed.length=missed:=List.take_length
 have lp1:∀z0 z4 z5 z9_ z10 z11:D,exS aL K.uQ ⟨[z0,.bp 0 0,.bp 1 0,.bp 2 0,z4,z5,.t (.sl (readers.map Rdr.e)),I readers.length,I 0,z9_,z10,z11],[.box ((Tru.cs ⟨⟨aa,roads⟩,time,people,tags,readers,numbers,looked,missed⟩).map .t),.box ft,.box [.t (.sl (aa.map Place.e)),.t (.sl (roads.map Road.e)),I time,.t (.sl (people.map Wlk.e)),.t (tL tags),.ref 5 0 0,.t (tL numbers),.t (tL looked),.t (tLL missed)],.arr 4 false 0 [],.arr 1 false 0 [],.arr 4 false 0 []]⟩=
  some (.exit 0,⟨[.und,.bp 0 0,.bp 1 0,.bp 2 0,.und,.und,.t (.sl (readers.map Rdr.e)),I readers.length,I readers.length,.und,.und,.und],[.box ((Tru.cs ⟨⟨aa,roads⟩,time,people,tags,readers,numbers,looked,missed⟩).map .t),.box ft,.box [.t (.sl (aa.map Place.e)),.t (.sl (roads.map Road.e)),I time,.t (.sl (people.map Wlk.e)),.t (tL tags),.ref 5 0 readers.length,.t (tL numbers),.t (tL looked),.t (tLL missed)],.arr 4 false 0 [],.arr 1 false 0 [],.arr 4 false 0 ((readers.map Rdr.e).map .t)]⟩):=by
  intro z0 z4 z5 z9_ z10 z11
  refine bH (fun j=>⟨[.und,.bp 0 0,.bp 1 0,.bp 2 0,.und,.und,.t (.sl (readers.map Rdr.e)),I readers.length,I j,.und,.und,.und],[.box ((Tru.cs ⟨⟨aa,roads⟩,time,people,tags,readers,numbers,looked,missed⟩).map .t),.box ft,.box [.t (.sl (aa.map Place.e)),.t (.sl (roads.map Road.e)),I time,.t (.sl (people.map Wlk.e)),.t (tL tags),.ref 5 0 (readers.take j).length,.t (tL numbers),.t (tL looked),.t (tLL missed)],.arr 4 false 0 [],.arr 1 false 0 [],.arr 4 false 0 (((readers.take j).map Rdr.e).map .t)]⟩) readers.length rfl ?_ ?_ (by simp)
  · intro j hj
    have ex:(readers.map Rdr.e)[j]?=some (nth readers j).e:=bE _ hj
    have cl:=cT (nth readers j).pl (r2 _ (aE hj))
    have tk:=jd hj
    have tl:(readers.take j).length=j:=by rw[List.length_take];omega
    have tl2:(readers.take (j+1)).length=j+1:=by rw[List.length_take];omega
    rw[tl2,tk]
    generalize readers.take j=q at*
    generalize nth readers j=y at*
    obtain⟨pl,per,miss,skew⟩:=y
    simp only[Tru.cs,ft,List.map_cons,List.map_nil,tL]at*
    simp(disch:=omega)only[go_sem,K.oh,↓reduceIte,ex,cl,tl,List.map_append,List.map_cons,List.map_nil,reduceAdd,reduceSub]
  · rw[tk1]
    simp only[Tru.cs,ft,List.map_cons,List.map_nil]
    simp(disch:=omega)only[go_sem,K.oh,↓reduceIte,reduceAdd,reduceSub]
 have lp2:∀z0 z1 z4 z5 z6 z7 z8:D,∀X:List D,exS aL K.uR ⟨[z0,z1,.bp 1 0,.bp 2 0,z4,z5,z6,z7,z8,.t (tLL missed),I missed.length,I 0],[.box ((Tru.cs ⟨⟨aa,roads⟩,time,people,tags,readers,numbers,looked,missed⟩).map .t),.box ft,.box [.t (.sl (aa.map Place.e)),.t (.sl (roads.map Road.e)),I time,.t (.sl (people.map Wlk.e)),.t (tL tags),.ref 5 0 readers.length,.t (tL numbers),.t (tL looked),.ref 6 0 0],.arr 4 false 0 [],.arr 1 false 0 [],.arr 4 false 0 ((readers.map Rdr.e).map .t),.arr 1 false 0 []]⟩=
  some (.exit 2,⟨[.und,.und,.bp 1 0,.bp 2 0,.und,.und,.und,.und,.und,.t (tLL missed),I missed.length,I missed.length],[.box ((Tru.cs ⟨⟨aa,roads⟩,time,people,tags,readers,numbers,looked,missed⟩).map .t),.box ft,.box [.t (.sl (aa.map Place.e)),.t (.sl (roads.map Road.e)),I time,.t (.sl (people.map Wlk.e)),.t (tL tags),.ref 5 0 readers.length,.t (tL numbers),.t (tL looked),.ref 6 0 missed.length],.arr 4 false 0 [],.arr 1 false 0 [],.arr 4 false 0 ((readers.map Rdr.e).map .t),.arr 1 false 0 ((missed.map LLe).map .t)]⟩):=by
  intro z0 z1 z4 z5 z6 z7 z8 X
  refine bH (fun j=>⟨[.und,.und,.bp 1 0,.bp 2 0,.und,.und,.und,.und,.und,.t (tLL missed),I missed.length,I j],[.box ((Tru.cs ⟨⟨aa,roads⟩,time,people,tags,readers,numbers,looked,missed⟩).map .t),.box ft,.box [.t (.sl (aa.map Place.e)),.t (.sl (roads.map Road.e)),I time,.t (.sl (people.map Wlk.e)),.t (tL tags),.ref 5 0 readers.length,.t (tL numbers),.t (tL looked),.ref 6 0 (missed.take j).length],.arr 4 false 0 [],.arr 1 false 0 [],.arr 4 false 0 ((readers.map Rdr.e).map .t),.arr 1 false 0 (((missed.take j).map LLe).map .t)]⟩) missed.length rfl ?_ ?_ (by simp)
  · intro j hj
    have ex:(missed.map fun x=>T.sl (x.map (T.int .i64)))[j]?=some (LLe (nth missed j)):=bE _ hj
    have cl:=cT (nth missed j) (m2 _ (aE hj))
    have tk:=jd hj
    have tl:(missed.take j).length=j:=by rw[List.length_take];omega
    have tl2:(missed.take (j+1)).length=j+1:=by rw[List.length_take];omega
    rw[tl2,tk]
    generalize missed.take j=q at*
    generalize nth missed j=y at*
    simp only[Tru.cs,ft,List.map_cons,List.map_nil,tL,LLe]at*
    simp(disch:=omega)only[go_sem,K.om,↓reduceIte,ex,cl,tl,List.map_append,List.map_cons,List.map_nil,reduceAdd,reduceSub]
  · rw[tk2]
    simp only[Tru.cs,ft,List.map_cons,List.map_nil]
    simp(disch:=omega)only[go_sem,K.om,↓reduceIte,reduceAdd,reduceSub]
 have lp2:=fun z0 z1 z4 z5 z6 z7 z8=>lp2 z0 z1 z4 z5 z6 z7 z8 []
 simp only[Tru.e,Tru.cs,ft,List.map_cons,List.map_nil,LLe,tL]at*
 simp(disch:=omega)only[go_sem,K.gG,↓reduceIte,c1,c2,c3,c4,c5,c6,lp1,lp2,reduceAdd,reduceSub]
theorem AG(m:bq)(hp:m.aa.length≤1000000)(hr:m.roads.length≤1000000):aL 0 N.iE [.t m.e] []=some (.t m.e,[]):=by
 refine aj K.uG rfl ?_
 obtain⟨aa,roads⟩:=m
 simp only at*
 simp(disch:=omega)only[go_sem,K.iE,↓reduceIte,reduceAdd,reduceSub]
abbrev tcH(x:Tru)(a b:Nat)(ra:List Rdr)(rb:List (List Int)):aq:=[.box (x.cs.map .t),.box ft,.box [.t (.sl (x.ox.aa.map Place.e)),.t (.sl (x.ox.roads.map Road.e)),I x.time,.ref 5 0 x.people.length,.ref 6 0 x.tags.length,.ref 9 0 a,.ref 7 0 x.numbers.length,.ref 8 0 x.looked.length,.ref 10 0 b],.arr 4 false 0 [],.arr 1 false 0 [],.arr 3 false 0 ((x.people.map Wlk.e).map .t),.arr 1 false 0 ((x.tags.map (T.int .i64)).map .t),.arr 1 false 0 ((x.numbers.map (T.int .i64)).map .t),.arr 1 false 0 ((x.looked.map (T.int .i64)).map .t),.arr 4 false 0 ((ra.map Rdr.e).map .t),.arr 1 false 0 ((rb.map LLe).map .t)]
theorem Cy(x:Tru)(h:x.sz):aL 0 N.iG [.t x.e] []=some (.t x.e,[]):=by
 refine aj K.uS rfl ?_
 obtain⟨a,b,c,d,r,r2,n,l,m,m2⟩:=h
 have c1:=AG x.ox a b
 have tk1:x.readers.take x.readers.length=x.readers:=List.take_length
 have tk2:x.missed.take x.missed.length=x.missed:=List.take_length
 have lp1:∀z0 z5 z6:D,exS aL K.yy ⟨[z0,.bp 0 0,.bp 1 0,.bp 2 0,I 0,z5,z6],tcH x 0 0 [] []⟩=
  some (.exit 0,⟨[.und,.bp 0 0,.bp 1 0,.bp 2 0,I x.readers.length,.und,.und],tcH x x.readers.length 0 x.readers []⟩):=by
  intro z0 z5 z6
  refine bH (fun j=>⟨[.und,.bp 0 0,.bp 1 0,.bp 2 0,I j,.und,.und],tcH x (x.readers.take j).length 0 (x.readers.take j) []⟩) x.readers.length rfl ?_ ?_ (by simp)
  · intro j hj
    have ex:(x.readers.map Rdr.e)[j]?=some (nth x.readers j).e:=bE _ hj
    have tk:=jd hj
    have tl:(x.readers.take j).length=j:=by rw[List.length_take];omega
    have tl2:(x.readers.take (j+1)).length=j+1:=by rw[List.length_take];omega
    have yl:=r2 _ (aE hj)
    rw[tl2,tk]
    generalize x.readers.take j=q at*
    generalize nth x.readers j=y at*
    obtain⟨⟨aa,roads⟩,time,people,tags,readers,numbers,looked,missed⟩:=x
    obtain⟨pl,per,miss,skew⟩:=y
    simp only[tcH,Tru.cs,ft,List.map_cons,List.map_nil,tL]at*
    simp(disch:=omega)only[go_sem,K.qL,↓reduceIte,ex,tl,List.map_append,List.map_cons,List.map_nil,reduceAdd,reduceSub]
  · rw[tk1]
    obtain⟨⟨aa,roads⟩,time,people,tags,readers,numbers,looked,missed⟩:=x
    simp only[tcH,Tru.cs,ft,List.map_cons,List.map_nil]at*
    simp(disch:=omega)only[go_sem,K.qL,↓reduceIte,reduceAdd,reduceSub]
 have lp2:∀z0 z4 z5:D,exS aL K.yz ⟨[z0,.bp 0 0,.bp 1 0,.bp 2 0,z4,z5,I 0],tcH x x.readers.length 0 x.readers []⟩=
  some (.exit 2,⟨[.und,.bp 0 0,.bp 1 0,.bp 2 0,.und,.und,I x.missed.length],tcH x x.readers.length x.missed.length x.readers x.missed⟩):=by
  intro z0 z4 z5
  refine bH (fun j=>⟨[.und,.bp 0 0,.bp 1 0,.bp 2 0,.und,.und,I j],tcH x x.readers.length (x.missed.take j).length x.readers (x.missed.take j)⟩) x.missed.length rfl ?_ ?_ (by simp)
  · intro j hj
    have ex:(x.missed.map fun x=>T.sl (x.map (T.int .i64)))[j]?=some (LLe (nth x.missed j)):=bE _ hj
    have tk:=jd hj
    have tl:(x.missed.take j).length=j:=by rw[List.length_take];omega
    have tl2:(x.missed.take (j+1)).length=j+1:=by rw[List.length_take];omega
    have yl:=m2 _ (aE hj)
    rw[tl2,tk]
    generalize x.missed.take j=q at*
    generalize nth x.missed j=y at*
    obtain⟨⟨aa,roads⟩,time,people,tags,readers,numbers,looked,missed⟩:=x
    simp only[tcH,Tru.cs,ft,List.map_cons,List.map_nil,tL,LLe]at*
    simp(disch:=omega)only[go_sem,K.qM,↓reduceIte,ex,tl,List.map_append,List.map_cons,List.map_nil,reduceAdd,reduceSub]
  · rw[tk2]
    obtain⟨⟨aa,roads⟩,time,people,tags,readers,numbers,looked,missed⟩:=x
    simp only[tcH,Tru.cs,ft,List.map_cons,List.map_nil]at*
    simp(disch:=omega)only[go_sem,K.qM,↓reduceIte,reduceAdd,reduceSub]
 obtain⟨⟨aa,roads⟩,time,people,tags,readers,numbers,looked,missed⟩:=x
 simp only[tcH,Tru.e,Tru.cs,ft,List.map_cons,List.map_nil,LLe,tL]at*
 simp(disch:=omega)only[go_sem,K.iG,↓reduceIte,c1,lp1,lp2,reduceAdd,reduceSub]
theorem Ss(x:Tru)(h:x.sz):aL 0 N.jt [.t x.e,.t x.e] []=some (B true,[]):=by
 refine aj K.uT rfl ?_
 obtain⟨a,b,c,d,r,r2,n,l,m,m2⟩:=h
 have c1:=JQ x.ox a b
 have s1:=kt x.tags x.tags (by omega)
 have s2:=kt x.numbers x.numbers (by omega)
 have s3:=kt x.looked x.looked (by omega)
 simp only[decide_true]at s1 s2 s3
 have lp1:∀z0 z1 z4 z6 z7 z8 z9:D,exS aL K.yA ⟨[z0,z1,.bp 0 0,.bp 1 0,z4,I 0,z6,z7,z8,z9],[.box (x.cs.map .t),.box (x.cs.map .t)]⟩=
  some (.exit 0,⟨[.und,.und,.bp 0 0,.bp 1 0,.und,I x.people.length,.und,.und,.und,.und],[.box (x.cs.map .t),.box (x.cs.map .t)]⟩):=by
  intro z0 z1 z4 z6 z7 z8 z9
  refine bH (fun j=>⟨[.und,.und,.bp 0 0,.bp 1 0,.und,I j,.und,.und,.und,.und],[.box (x.cs.map .t),.box (x.cs.map .t)]⟩) x.people.length rfl ?_ ?_ (by simp)
  · intro j hj
    have ex:(x.people.map Wlk.e)[j]?=some (nth x.people j).e:=bE _ hj
    generalize nth x.people j=y at*
    obtain⟨⟨aa,roads⟩,time,people,tags,readers,numbers,looked,missed⟩:=x
    obtain⟨p1,p2,p3⟩:=y
    simp only[Tru.cs,List.map_cons,List.map_nil]at*
    simp(disch:=omega)only[go_sem,K.qN,↓reduceIte,ex,decide_true,Bool.and_self,Bool.not_true,reduceAdd,reduceSub]
  · obtain⟨⟨aa,roads⟩,time,people,tags,readers,numbers,looked,missed⟩:=x
    simp only[Tru.cs,List.map_cons,List.map_nil]at*
    simp(disch:=omega)only[go_sem,K.qN,↓reduceIte,reduceAdd,reduceSub]
 have lp2:∀z0 z1 z4 z5 z7 z8 z9:D,exS aL K.yB ⟨[z0,z1,.bp 0 0,.bp 1 0,z4,z5,I 0,z7,z8,z9],[.box (x.cs.map .t),.box (x.cs.map .t)]⟩=
  some (.exit 2,⟨[.und,.und,.bp 0 0,.bp 1 0,.und,.und,I x.readers.length,.und,.und,.und],[.box (x.cs.map .t),.box (x.cs.map .t)]⟩):=by
  intro z0 z1 z4 z5 z7 z8 z9
  refine bH (fun j=>⟨[.und,.und,.bp 0 0,.bp 1 0,.und,.und,I j,.und,.und,.und],[.box (x.cs.map .t),.box (x.cs.map .t)]⟩) x.readers.length rfl ?_ ?_ (by simp)
  · intro j hj
    have ex:(x.readers.map Rdr.e)[j]?=some (nth x.readers j).e:=bE _ hj
    have yl:=r2 _ (aE hj)
    have s4:=kt (nth x.readers j).pl (nth x.readers j).pl (by omega)
    simp only[decide_true]at s4
    generalize nth x.readers j=y at*
    obtain⟨⟨aa,roads⟩,time,people,tags,readers,numbers,looked,missed⟩:=x
    obtain⟨pl,per,miss,skew⟩:=y
    simp only[Tru.cs,List.map_cons,List.map_nil,tL]at*
    simp(disch:=omega)only[go_sem,K.qO,↓reduceIte,ex,s4,reduceAdd,reduceSub]
  · obtain⟨⟨aa,roads⟩,time,people,tags,readers,numbers,looked,missed⟩:=x
    simp only[Tru.cs,List.map_cons,List.map_nil]at*
    simp(disch:=omega)only[go_sem,K.qO,↓reduceIte,reduceAdd,reduceSub]
 have lp3:∀z0 z1 z4 z5 z6 z7 z8:D,exS aL K.yC ⟨[z0,z1,.bp 0 0,.bp 1 0,z4,z5,z6,z7,z8,I 0],[.box (x.cs.map .t),.box (x.cs.map .t)]⟩=
  some (.exit 4,⟨[.und,.und,.bp 0 0,.bp 1 0,.und,.und,.und,.und,.und,I x.missed.length],[.box (x.cs.map .t),.box (x.cs.map .t)]⟩):=by
  intro z0 z1 z4 z5 z6 z7 z8
  refine bH (fun j=>⟨[.und,.und,.bp 0 0,.bp 1 0,.und,.und,.und,.und,.und,I j],[.box (x.cs.map .t),.box (x.cs.map .t)]⟩) x.missed.length rfl ?_ ?_ (by simp)
  · intro j hj
    have ex:(x.missed.map fun x=>T.sl (x.map (T.int .i64)))[j]?=some (LLe (nth x.missed j)):=bE _ hj
    have yl:=m2 _ (aE hj)
    have s4:=kt (nth x.missed j) (nth x.missed j) (by omega)
    simp only[decide_true]at s4
    generalize nth x.missed j=y at*
    obtain⟨⟨aa,roads⟩,time,people,tags,readers,numbers,looked,missed⟩:=x
    simp only[Tru.cs,List.map_cons,List.map_nil,tL,LLe]at*
    simp(disch:=omega)only[go_sem,K.qP,↓reduceIte,ex,s4,reduceAdd,reduceSub]
  · obtain⟨⟨aa,roads⟩,time,people,tags,readers,numbers,looked,missed⟩:=x
    simp only[Tru.cs,List.map_cons,List.map_nil]at*
    simp(disch:=omega)only[go_sem,K.qP,↓reduceIte,reduceAdd,reduceSub]
 obtain⟨⟨aa,roads⟩,time,people,tags,readers,numbers,looked,missed⟩:=x
 simp only[Tru.e,Tru.cs,List.map_cons,List.map_nil,LLe,tL]at*
 simp(disch:=omega)only[go_sem,K.jt,↓reduceIte,c1,s1,s2,s3,lp1,lp2,lp3,reduceAdd,reduceSub]
abbrev Hw:Tru:=⟨⟨[],[]⟩,0,[],[],[],[],[],[]⟩
abbrev stW(p:Int):Wlk:=⟨p, -1,0⟩
def jE(m:bq)(l:List Rdr)(at' tags:List Int)(t:Int):Tru:=
 ⟨m,t,at'.map stW,tags,l,List.replicate l.length (-1),List.replicate l.length (-1),List.replicate l.length (List.replicate at'.length 0)⟩
def kD(m:bq)(l:List Rdr)(at' tags:List Int)(t:Int):Tru×Int:=
 if yF m l=false∨¬(1≤(at'.length:Int)∧(at'.length:Int)≤12)∨tags.length≠at'.length then(Hw,6)
 else if(at'.any fun p=> !decide (0≤p∧p≤(m.aa.length:Int)-1))=true then(Hw,3)
 else if fJ tags=false then(Hw,41)
 else if ¬(0≤t∧t≤2147483648)then(Hw,8)
 else(jE m l at' tags t,0)
abbrev nsH(m:bq)(l:List Rdr)(at' tags:List Int)(t:Int)(ps:List Wlk)(a b:List Int)(c:List (List Int)):aq:=[.box (ae m),.box ft,.box [.t (.sl (m.aa.map Place.e)),.t (.sl (m.roads.map Road.e)),I t,.ref 7 0 ps.length,.t (tL tags),.t (.sl (l.map Rdr.e)),.ref 8 0 a.length,.ref 9 0 b.length,.ref 10 0 c.length],.arr 3 false 0 [],.arr 1 false 0 [],.arr 1 false 0 [],.arr 1 false 0 [],.arr 3 false 0 ((ps.map Wlk.e).map .t),.arr 1 false 0 ((a.map (T.int .i64)).map .t),.arr 1 false 0 ((b.map (T.int .i64)).map .t),.arr 1 false 0 ((c.map LLe).map .t)]
theorem yG{α:Type}(n:Nat)(a:α):List.replicate (n+1) a=List.replicate n a++[a]:=List.replicate_succ'
theorem Hx(n:Nat):(List.replicate n (0:Int)).map (T.int .i64)=List.replicate n (T.int .i64 0):=List.map_replicate
theorem Hy{m:bq}(hm:m.ok)(l:List Rdr)(at' tags:List Int)(t:Int)(hl:l.length≤1000000)(h2:∀y∈l,y.pl.length≤1000000)(ha:at'.length≤1000000)(ht:tags.length≤1000000):(jE m l at' tags t).sz:=by
 have np:=hm.np
 have nr:=hm.nr
 unfold jE
 refine⟨by simp only;omega,by simp only;omega,by simp only[List.length_map];omega,ht,hl,h2,by simp only[List.length_replicate];omega,by simp only[List.length_replicate];omega,by simp only[List.length_replicate];omega,fun y hy=>?_⟩
 simp only[List.mem_replicate]at hy
 rw[hy.2,List.length_replicate]
 omega
theorem ad5(m:bq)(hp:m.aa.length≤1000000)(p:Int):aL 0 N.dM [I p,.bp 0 0] [.box (ae m)]=some (B (!decide (0≤p∧p≤(m.aa.length:Int)-1)),[.box (ae m)]):=by
 have i:=oa p 0 ((m.aa.length:Int)-1)
 refine aj K.pD rfl ?_
 obtain⟨aa,roads⟩:=m
 simp only[ae]at*
 generalize decide (0≤p∧p≤(aa.length:Int)-1)=b at*
 simp(disch:=omega)only[go_sem,K.dM,↓reduceIte,i,reduceAdd,reduceSub]
theorem ajA(m:bq)(at':List Int)(ha:at'.length≤1000000)(hp:m.aa.length≤1000000):aL 0 N.ax [.t (tL at'),.fn N.dM [.bp 0 0]] [.box (ae m)]=some (B (at'.any fun p=> !decide (0≤p∧p≤(m.aa.length:Int)-1)),[.box (ae m)]):=
 o9 at' (by omega) N.dM [[.sl (m.aa.map Place.e),.sl (m.roads.map Road.e)]] (fun p=> !decide (0≤p∧p≤(m.aa.length:Int)-1)) (fun p _=>ad5 m hp p)
theorem PC{m:bq}(hm:m.ok)(l:List Rdr)(at' tags:List Int)(t:Int)(hl:l.length≤1000000)(h2:∀y∈l,y.pl.length≤1000000)(ha:at'.length≤1000000)(ht:tags.length≤1000000):
 aL 0 N.cQ [.t m.e,.t (.sl (l.map Rdr.e)),.t (tL at'),.t (tL tags),I t] []=some (.tup [.t (kD m l at' tags t).1.e,I (kD m l at' tags t).2],[]):=by
 refine aj K.oL rfl ?_
 have va:=Er hm l hl h2
 have i1:=oa (at'.length:Int) 1 12
 have i2:=oa t 0 2147483648
 have tg:=Es tags ht
 have np:=hm.np
 have cf:=ajA m at' ha (by omega)
 have cp:=JT _ (Hy hm l at' tags t hl h2 ha ht)
 have tk:at'.take at'.length=at':=List.take_length
 have lp1:∀z0 z2 z3 z4 z5 z7 z10 z14 z15:D,exS aL K.wH ⟨[z0,.t (.sl (l.map Rdr.e)),z2,z3,z4,z5,.bp 1 0,z7,I at'.length,.bp 2 0,z10,.t (tL at'),I at'.length,I 0,z14,z15],nsH m l at' tags t [] [] [] []⟩=
  some (.exit 1,⟨[.und,.t (.sl (l.map Rdr.e)),.und,.und,.und,.und,.bp 1 0,.und,I at'.length,.bp 2 0,.und,.t (tL at'),I at'.length,I at'.length,.und,.und],nsH m l at' tags t (at'.map stW) [] [] []⟩):=by
  intro z0 z2 z3 z4 z5 z7 z10 z14 z15
  refine bH (fun j=>⟨[.und,.t (.sl (l.map Rdr.e)),.und,.und,.und,.und,.bp 1 0,.und,I at'.length,.bp 2 0,.und,.t (tL at'),I at'.length,I j,.und,.und],nsH m l at' tags t ((at'.take j).map stW) [] [] []⟩) at'.length rfl ?_ ?_ (by simp)
  · intro j hj
    have ex:(at'.map (T.int .i64))[j]?=some (.int .i64 (nth at' j)):=bE _ hj
    have tk:=jd hj
    have tl:(at'.take j).length=j:=by rw[List.length_take];omega
    rw[tk]
    generalize at'.take j=q at*
    generalize nth at' j=y at*
    obtain⟨aa,roads⟩:=m
    simp only[nsH,ft,ae,List.map_append,List.map_cons,List.map_nil,aLv,List.length_map,List.length_cons,List.length_nil]at*
    simp only[tl]
    simp(disch:=omega)only[go_sem,K.pz,↓reduceIte,ex,tl,List.map_append,List.map_cons,List.map_nil,reduceAdd,reduceSub]
  · rw[tk]
    obtain⟨aa,roads⟩:=m
    simp only[nsH,ft,ae,List.map_append,List.map_cons,List.map_nil]at*
    simp(disch:=omega)only[go_sem,K.pz,↓reduceIte,reduceAdd,reduceSub]
 have lp2:∀z0 z1 z2 z3 z4 z5 z7 z10 z11 z12 z13:D,exS aL K.wI ⟨[z0,z1,z2,z3,z4,z5,.bp 1 0,z7,I at'.length,.bp 2 0,z10,z11,z12,z13,I l.length,I 0],nsH m l at' tags t (at'.map stW) [] [] []⟩=
  some (.exit 3,⟨[.und,.und,.und,.und,.und,.und,.bp 1 0,.und,I at'.length,.bp 2 0,.und,.und,.und,.und,I l.length,I l.length],nsH m l at' tags t (at'.map stW) (List.replicate l.length (-1)) (List.replicate l.length (-1)) (List.replicate l.length (List.replicate at'.length 0))⟩):=by
  intro z0 z1 z2 z3 z4 z5 z7 z10 z11 z12 z13
  refine bH (fun j=>⟨[.und,.und,.und,.und,.und,.und,.bp 1 0,.und,I at'.length,.bp 2 0,.und,.und,.und,.und,I l.length,I j],nsH m l at' tags t (at'.map stW) (List.replicate j (-1)) (List.replicate j (-1)) (List.replicate j (List.replicate at'.length 0))⟩) l.length rfl ?_ ?_ (by simp)
  · intro j hj
    rw[yG,yG]
    have r1:(List.replicate j (-1:Int)).length=j:=List.length_replicate
    have r2:(List.replicate j (List.replicate at'.length (0:Int))).length=j:=List.length_replicate
    have r3:=Hx at'.length
    generalize List.replicate j (-1:Int)=q1 at*
    generalize List.replicate j (List.replicate at'.length (0:Int))=q2 at*
    obtain⟨aa,roads⟩:=m
    simp only[nsH,ft,ae,List.map_append,List.map_cons,List.map_nil,aLv,List.length_map,List.length_cons,List.length_nil,LLe]at*
    simp only[r1,r2,r3]
    simp(disch:=omega)only[go_sem,K.pA,↓reduceIte,r1,r2,List.map_append,List.map_cons,List.map_nil,reduceAdd,reduceSub]
  · obtain⟨aa,roads⟩:=m
    simp only[nsH,ft,ae,List.map_append,List.map_cons,List.map_nil]at*
    simp(disch:=omega)only[go_sem,K.pA,↓reduceIte,reduceAdd,reduceSub]
 unfold kD
 by_cases c1:yF m l=false∨¬(1≤(at'.length:Int)∧(at'.length:Int)≤12)∨tags.length≠at'.length
 · rw[if_pos c1]
   cases hb:yF m l with
   | false=>
     rw[hb]at va
     obtain⟨aa,roads⟩:=m
     simp only[ae]at*
     simp(disch:=omega)only[go_sem,K.cQ,↓reduceIte,va,reduceAdd,reduceSub]
     rfl
   | true=>
     rw[hb]at va
     by_cases c2:tags.length=at'.length
     · have c3:¬(1≤(at'.length:Int)∧(at'.length:Int)≤12):=by
        rcases c1 with c | c | c
        · rw[hb]at c;cases c
        · exact c
        · exact absurd c2 c
       rw[decide_eq_false c3]at i1
       obtain⟨aa,roads⟩:=m
       simp only[ae]at*
       simp(disch:=omega)only[go_sem,K.cQ,↓reduceIte,va,c2,i1,reduceAdd,reduceSub]
       rfl
     · obtain⟨aa,roads⟩:=m
       simp only[ae]at*
       simp(disch:=omega)only[go_sem,K.cQ,↓reduceIte,va,c2,reduceAdd,reduceSub]
       rfl
 · rw[if_neg c1]
   simp only[not_or,Bool.not_eq_false,Decidable.not_not,ne_eq]at c1
   obtain⟨c0,c2,c3⟩:=c1
   rw[c0]at va
   rw[decide_eq_true c2]at i1
   cases hc:at'.any fun p=> !decide (0≤p∧p≤(m.aa.length:Int)-1)with
   | true=>
     rw[hc]at cf
     rw[if_pos rfl]
     obtain⟨aa,roads⟩:=m
     simp only[ae]at*
     simp(disch:=omega)only[go_sem,K.cQ,↓reduceIte,va,c3,i1,cf,reduceAdd,reduceSub]
     rfl
   | false=>
     rw[hc]at cf
     rw[if_neg (by simp)]
     cases ht:fJ tags with
     | false=>
       rw[ht]at tg
       rw[if_pos rfl]
       obtain⟨aa,roads⟩:=m
       simp only[ae]at*
       simp(disch:=omega)only[go_sem,K.cQ,↓reduceIte,va,c3,i1,cf,tg,reduceAdd,reduceSub]
       rfl
     | true=>
       rw[ht]at tg
       rw[if_neg (by simp)]
       by_cases c4:0≤t∧t≤2147483648
       · rw[decide_eq_true c4]at i2
         rw[if_neg (by simpa using c4)]
         obtain⟨aa,roads⟩:=m
         simp only[ae,jE,nsH,ft,Tru.e,Tru.cs,List.map_nil,List.length_nil,List.length_map]at*
         simp(disch:=omega)only[go_sem,K.cQ,↓reduceIte,va,c3,i1,cf,tg,i2,lp1,lp2,cp,List.length_map,reduceAdd,reduceSub]
       · rw[decide_eq_false c4]at i2
         rw[if_pos c4]
         obtain⟨aa,roads⟩:=m
         simp only[ae]at*
         simp(disch:=omega)only[go_sem,K.cQ,↓reduceIte,va,c3,i1,cf,tg,i2,reduceAdd,reduceSub]
         rfl
theorem JU{m:bq}(hm:m.ok)(l:List Rdr)(at' tags:List Int)(t:Int)(hl:l.length≤1000000)(h2:∀y∈l,y.pl.length≤1000000)(ha:at'.length≤1000000)(ht:tags.length≤1000000):
 aL 0 N.cz [.t m.e,.t (.sl (l.map Rdr.e)),.t (tL at'),.t (tL tags),I t] []=some (.tup [.t (kD m l at' tags t).1.e,I (kD m l at' tags t).2],[]):=by
 refine aj K.oM rfl ?_
 have va:=JO hm l hl h2
 have tg:=JP tags ht
 have np:=hm.np
 have cp:=Cy _ (Hy hm l at' tags t hl h2 ha ht)
 have tk:at'.take at'.length=at':=List.take_length
 have lp:=fun z0 z7 z10 z11 z12:D=>pc (gc:=true) (dead:=[0,7,10,11,12]) (c:=K.jw) (vs:=[z0,.t (.sl (l.map Rdr.e)),.t (tL at'),.t (tL tags),I t,.bp 0 0,.bp 1 0,z7,I at'.length,I 0,z10,z11,z12]) (H:=[.box (ae m),.box ft])
  (fun j=>⟨[.und,.t (.sl (l.map Rdr.e)),.t (tL at'),.t (tL tags),I t,.bp 0 0,.bp 1 0,.und,I at'.length,I j,.und,.und,.und],[.box (ae m),.box ft]⟩) at'.length (fun j=> !decide (0≤nth at' j∧nth at' j≤(m.aa.length:Int)-1))
  (fun j=>(.ret,⟨[.und,.t (.sl (l.map Rdr.e)),.t (tL at'),.t (tL tags),I t,.bp 0 0,.bp 1 0,I 3,I at'.length,I j,.und,.und,.und],[.box (ae m),.box ft]⟩))
  (.exit 0,⟨[.und,.t (.sl (l.map Rdr.e)),.t (tL at'),.t (tL tags),I t,.bp 0 0,.bp 1 0,.und,I at'.length,I at'.length,.und,.und,.und],[.box (ae m),.box ft]⟩) rfl
  (fun j hj hq=>by
   have ex:(at'.map (T.int .i64))[j]?=some (.int .i64 (nth at' j)):=bE _ hj
   have hq:0≤nth at' j∧nth at' j≤(m.aa.length:Int)-1:=by simpa using hq
   generalize nth at' j=y at*
   obtain⟨aa,roads⟩:=m
   simp only[ae]at*
   simp(disch:=omega)only[go_sem,K.jw,↓reduceIte,ex,reduceAdd,reduceSub]
   )
  (fun j hj hq=>by
   have ex:(at'.map (T.int .i64))[j]?=some (.int .i64 (nth at' j)):=bE _ hj
   have hq:¬(0≤nth at' j∧nth at' j≤(m.aa.length:Int)-1):=by
    intro c
    rw[decide_eq_true c]at hq
    cases hq
   refine⟨?_,by simp⟩
   generalize nth at' j=y at*
   obtain⟨aa,roads⟩:=m
   simp only[ae,ft]at*
   by_cases c:y<0
   · simp(disch:=omega)only[go_sem,K.jw,↓reduceIte,ex,c,reduceAdd,reduceSub]
   · simp(disch:=omega)only[go_sem,K.jw,↓reduceIte,ex,c,reduceAdd,reduceSub]
   )
  (by
   obtain⟨aa,roads⟩:=m
   simp only[ae]
   simp(disch:=omega)only[go_sem,K.jw,↓reduceIte,reduceAdd,reduceSub]
   ) (by simp)
 have lp0:∀z0 z7 z10 z11 z12:D,exS aL K.wJ _=_:=lp
 clear lp
 rw[Cb at' (fun p=> !decide (0≤p∧p≤(m.aa.length:Int)-1))]at lp0
 have lp1:∀z0 z3 z4 z5 z7 z9 z12:D,exS aL K.wK ⟨[z0,.t (.sl (l.map Rdr.e)),.t (tL at'),z3,z4,z5,.bp 1 0,z7,I at'.length,z9,.bp 2 0,I 0,z12],nsH m l at' tags t [] [] [] []⟩=
  some (.exit 2,⟨[.und,.t (.sl (l.map Rdr.e)),.t (tL at'),.und,.und,.und,.bp 1 0,.und,I at'.length,.und,.bp 2 0,I at'.length,.und],nsH m l at' tags t (at'.map stW) [] [] []⟩):=by
  intro z0 z3 z4 z5 z7 z9 z12
  refine bH (fun j=>⟨[.und,.t (.sl (l.map Rdr.e)),.t (tL at'),.und,.und,.und,.bp 1 0,.und,I at'.length,.und,.bp 2 0,I j,.und],nsH m l at' tags t ((at'.take j).map stW) [] [] []⟩) at'.length rfl ?_ ?_ (by simp)
  · intro j hj
    have ex:(at'.map (T.int .i64))[j]?=some (.int .i64 (nth at' j)):=bE _ hj
    have tk:=jd hj
    have tl:(at'.take j).length=j:=by rw[List.length_take];omega
    rw[tk]
    generalize at'.take j=q at*
    generalize nth at' j=y at*
    obtain⟨aa,roads⟩:=m
    simp only[nsH,ft,ae,List.map_append,List.map_cons,List.map_nil,aLv,List.length_map,List.length_cons,List.length_nil]at*
    simp only[tl]
    simp(disch:=omega)only[go_sem,K.pB,↓reduceIte,ex,tl,List.map_append,List.map_cons,List.map_nil,reduceAdd,reduceSub]
  · rw[tk]
    obtain⟨aa,roads⟩:=m
    simp only[nsH,ft,ae,List.map_append,List.map_cons,List.map_nil]at*
    simp(disch:=omega)only[go_sem,K.pB,↓reduceIte,reduceAdd,reduceSub]
 have lp2:∀z0 z2 z3 z4 z5 z7 z9 z11:D,exS aL K.wM ⟨[z0,.t (.sl (l.map Rdr.e)),z2,z3,z4,z5,.bp 1 0,z7,I at'.length,z9,.bp 2 0,z11,I 0],nsH m l at' tags t (at'.map stW) [] [] []⟩=
  some (.exit 4,⟨[.und,.t (.sl (l.map Rdr.e)),.und,.und,.und,.und,.bp 1 0,.und,I at'.length,.und,.bp 2 0,.und,I l.length],nsH m l at' tags t (at'.map stW) (List.replicate l.length (-1)) (List.replicate l.length (-1)) (List.replicate l.length (List.replicate at'.length 0))⟩):=by
  intro z0 z2 z3 z4 z5 z7 z9 z11
  refine bH (fun j=>⟨[.und,.t (.sl (l.map Rdr.e)),.und,.und,.und,.und,.bp 1 0,.und,I at'.length,.und,.bp 2 0,.und,I j],nsH m l at' tags t (at'.map stW) (List.replicate j (-1)) (List.replicate j (-1)) (List.replicate j (List.replicate at'.length 0))⟩) l.length rfl ?_ ?_ (by simp)
  · intro j hj
    rw[yG,yG]
    have r1:(List.replicate j (-1:Int)).length=j:=List.length_replicate
    have r2:(List.replicate j (List.replicate at'.length (0:Int))).length=j:=List.length_replicate
    have r3:=Hx at'.length
    generalize List.replicate j (-1:Int)=q1 at*
    generalize List.replicate j (List.replicate at'.length (0:Int))=q2 at*
    obtain⟨aa,roads⟩:=m
    simp only[nsH,ft,ae,List.map_append,List.map_cons,List.map_nil,aLv,List.length_map,List.length_cons,List.length_nil,LLe]at*
    simp only[r1,r2,r3]
    simp(disch:=omega)only[go_sem,K.pC,↓reduceIte,r1,r2,List.map_append,List.map_cons,List.map_nil,reduceAdd,reduceSub]
  · obtain⟨aa,roads⟩:=m
    simp only[nsH,ft,ae,List.map_append,List.map_cons,List.map_nil]at*
    simp(disch:=omega)only[go_sem,K.pC,↓reduceIte,reduceAdd,reduceSub]
 unfold kD
 by_cases c1:yF m l=false∨¬(1≤(at'.length:Int)∧(at'.length:Int)≤12)∨tags.length≠at'.length
 · rw[if_pos c1]
   cases hb:yF m l with
   | false=>
     rw[hb]at va
     obtain⟨aa,roads⟩:=m
     simp only[ae]at*
     simp(disch:=omega)only[go_sem,K.cz,↓reduceIte,va,reduceAdd,reduceSub]
     rfl
   | true=>
     rw[hb]at va
     by_cases c2:(at'.length:Int)<1
     · obtain⟨aa,roads⟩:=m
       simp only[ae]at*
       simp(disch:=omega)only[go_sem,K.cz,↓reduceIte,va,c2,reduceAdd,reduceSub]
       rfl
     · by_cases c3:(at'.length:Int)>12
       · obtain⟨aa,roads⟩:=m
         simp only[ae]at*
         simp(disch:=omega)only[go_sem,K.cz,↓reduceIte,va,c2,c3,reduceAdd,reduceSub]
         rfl
       · have c4:¬tags.length=at'.length:=by
          rcases c1 with c | c | c
          · rw[hb]at c;cases c
          · exact absurd ⟨by omega,by omega⟩ c
          · exact c
         obtain⟨aa,roads⟩:=m
         simp only[ae]at*
         simp(disch:=omega)only[go_sem,K.cz,↓reduceIte,va,c2,c3,c4,reduceAdd,reduceSub]
         rfl
 · rw[if_neg c1]
   simp only[not_or,Bool.not_eq_false,Decidable.not_not,ne_eq]at c1
   obtain⟨c0,c2,c3⟩:=c1
   rw[c0]at va
   cases hc:at'.any fun p=> !decide (0≤p∧p≤(m.aa.length:Int)-1)with
   | true=>
     rw[hc]at lp0
     simp only[if_true]at lp0
     rw[if_pos rfl]
     generalize uw at'.length _=j at*
     obtain⟨aa,roads⟩:=m
     simp only[ae,ft]at*
     simp(disch:=omega)only[go_sem,K.cz,↓reduceIte,va,c3,lp0,reduceAdd,reduceSub]
     rfl
   | false=>
     rw[hc]at lp0
     simp only[aLt,if_false]at lp0
     rw[if_neg (by simp)]
     cases ht:fJ tags with
     | false=>
       rw[ht]at tg
       rw[if_pos rfl]
       obtain⟨aa,roads⟩:=m
       simp only[ae,ft]at*
       simp(disch:=omega)only[go_sem,K.cz,↓reduceIte,va,c3,lp0,tg,reduceAdd,reduceSub]
       rfl
     | true=>
       rw[ht]at tg
       rw[if_neg (by simp)]
       by_cases c4:0≤t∧t≤2147483648
       · rw[if_neg (by simpa using c4)]
         obtain⟨aa,roads⟩:=m
         simp only[ae,jE,nsH,ft,Tru.e,Tru.cs,List.map_nil,List.length_nil,List.length_map]at*
         simp(disch:=omega)only[go_sem,K.cz,↓reduceIte,va,c3,lp0,tg,lp1,lp2,cp,List.length_map,reduceAdd,reduceSub]
       · rw[if_pos c4]
         by_cases c5:t<0
         · obtain⟨aa,roads⟩:=m
           simp only[ae,ft]at*
           simp(disch:=omega)only[go_sem,K.cz,↓reduceIte,va,c3,lp0,tg,c5,reduceAdd,reduceSub]
           rfl
         · obtain⟨aa,roads⟩:=m
           simp only[ae,ft]at*
           simp(disch:=omega)only[go_sem,K.cz,↓reduceIte,va,c3,lp0,tg,c5,reduceAdd,reduceSub]
           rfl
end Go.Ev
namespace Go.Ev
open Go
variable [Lib] [bO] [bL] [dL] [dm] [hU] [dg] [dn] [eR] [dF] [bY] [b7] [dw] [dk] [fM] [fp] [jx] [eS] [im] [pt] [px] [pU]
def Su(m:bq)(e:Esc):Bool:=lQ e.safe m.aa.length&&(lQ e.bad m.aa.length&&(lQ e.shut m.roads.length&&decide (0≤e.gv∧e.gv≤2147483648)))
structure Esc.sm(e:Esc):Prop where
 s:e.safe.length≤1000000
 b:e.bad.length≤1000000
 h:e.shut.length≤1000000
theorem JV{m:bq}(hm:m.ok){e:Esc}(he:e.sm):aL 0 N.gP [.t m.e,.t e.e] []=some (B (Su m e),[]):=by
 refine aj K.uO rfl ?_
 have hv:=lV hm
 have r1:=mF e.safe 0 (m.aa.length-1) (by have:=he.s;omega)
 have r2:=mF e.bad 0 (m.aa.length-1) (by have:=he.b;omega)
 have r3:=mF e.shut 0 (m.roads.length-1) (by have:=he.h;omega)
 rw[zv]at r1 r2 r3
 have r4:=oa e.gv 0 2147483648
 have np:=hm.np
 have nr:=hm.nr
 unfold Su
 clear hm he
 generalize lQ e.safe m.aa.length=b1 at*
 generalize lQ e.bad m.aa.length=b2 at*
 generalize lQ e.shut m.roads.length=b3 at*
 generalize decide (0≤e.gv∧e.gv≤2147483648)=b4 at*
 obtain⟨aa,roads⟩:=m
 obtain⟨safe,bad,shut,gv⟩:=e
 simp only at*
 cases b1
 · simp(disch:=omega)only[go_sem,K.gP,↓reduceIte,hv,r1,Bool.false_and,reduceAdd,reduceSub]
 · cases b2
   · simp(disch:=omega)only[go_sem,K.gP,↓reduceIte,hv,r1,r2,Bool.false_and,Bool.true_and,reduceAdd,reduceSub]
   · cases b3
     · simp(disch:=omega)only[go_sem,K.gP,↓reduceIte,hv,r1,r2,r3,Bool.false_and,Bool.true_and,reduceAdd,reduceSub]
     · simp(disch:=omega)only[go_sem,K.gP,↓reduceIte,hv,r1,r2,r3,r4,Bool.false_and,Bool.true_and,reduceAdd,reduceSub]
theorem X3{m:bq}(hm:m.ok){e:Esc}(he:e.sm):aL 0 N.dW [.t m.e,.t e.e] []=some (B (Su m e),[]):=by
 refine aj K.sT rfl ?_
 have hv:=x9 hm
 have r1:=wj e.safe m.aa.length (by have:=he.s;omega)
 have r2:=wj e.bad m.aa.length (by have:=he.b;omega)
 have r3:=wj e.shut m.roads.length (by have:=he.h;omega)
 have np:=hm.np
 have nr:=hm.nr
 unfold Su
 clear hm he
 generalize lQ e.safe m.aa.length=b1 at*
 generalize lQ e.bad m.aa.length=b2 at*
 generalize lQ e.shut m.roads.length=b3 at*
 obtain⟨aa,roads⟩:=m
 obtain⟨safe,bad,shut,gv⟩:=e
 simp only at*
 cases b1
 · simp(disch:=omega)only[go_sem,K.dW,↓reduceIte,hv,r1,Bool.false_and,decide_true,reduceAdd,reduceSub]
 · cases b2
   · simp(disch:=omega)only[go_sem,K.dW,↓reduceIte,hv,r1,r2,Bool.false_and,Bool.true_and,decide_true,reduceAdd,reduceSub]
   · cases b3
     · simp(disch:=omega)only[go_sem,K.dW,↓reduceIte,hv,r1,r2,r3,Bool.false_and,Bool.true_and,decide_true,reduceAdd,reduceSub]
     · by_cases c1:0≤gv
       · by_cases c2:gv≤2147483648
         · rw[decide_eq_true ⟨c1,c2⟩]
           simp(disch:=omega)only[go_sem,K.dW,↓reduceIte,hv,r1,r2,r3,c1,c2,Bool.true_and,decide_true,reduceAdd,reduceSub]
         · rw[decide_eq_false fun h=>c2 h.2]
           simp(disch:=omega)only[go_sem,K.dW,↓reduceIte,hv,r1,r2,r3,c1,c2,Bool.true_and,Bool.and_false,decide_true,decide_false,reduceAdd,reduceSub]
       · rw[decide_eq_false fun h=>c1 h.1]
         simp(disch:=omega)only[go_sem,K.dW,↓reduceIte,hv,r1,r2,r3,c1,Bool.true_and,Bool.and_false,decide_true,decide_false,reduceAdd,reduceSub]
def mM(l:List Int):Keys×Int:=if oe l then(zK l,0)else(⟨[],[],false⟩,6)
theorem Sv(l:List Int)(hl:l.length≤1000):aL 0 N.jq [.t (tL l)] []=some (.tup [.t (mM l).1.e,I (mM l).2],[]):=by
 unfold mM
 by_cases hv:oe l=true
 · rw[if_pos hv]
   refine aj K.qf rfl ?_
   have r:=He l (by omega)
   have c:=cT l (by omega)
   rw[hv]at r
   have rep:List.replicate l.length (T.int .i64 0)=(List.replicate l.length (0:Int)).map (T.int .i64):=by simp
   have rl:(List.replicate l.length (0:Int)).length=l.length:=by simp
   show _=some (D.tup [D.t (Keys.mk l (List.replicate l.length 0) false).e,I 0],[])
   generalize List.replicate l.length (0:Int)=z at*
   simp(disch:=omega)only[go_sem,K.jq,↓reduceIte,r,c,rep,rl,reduceAdd,reduceSub]
 · rw[if_neg hv]
   rw[Bool.not_eq_true]at hv
   refine aj K.qf rfl ?_
   have r:=He l (by omega)
   rw[hv]at r
   simp(disch:=omega)only[go_sem,K.jq,↓reduceIte,r,reduceAdd,reduceSub]
   rfl
theorem Sw(l:List Int)(hl:l.length≤1000):aL 0 N.gZ [.t (tL l)] []=some (.tup [.t (mM l).1.e,I (mM l).2],[]):=by
 unfold mM
 have v:=R9 (zK l) (by simp;omega) (by simp only;omega)
 have kv:Mf (zK l)=oe l:=by
  rw[Bool.eq_iff_iff,PA]
  exact⟨fun h=>h.1,fun h=>⟨h,by simp,fun x hx=>by rw[List.eq_of_mem_replicate hx];omega,fun h=>by cases h⟩⟩
 rw[kv]at v
 have rep:List.replicate l.length (T.int .i64 0)=(List.replicate l.length (0:Int)).map (T.int .i64):=by simp
 have rl:(List.replicate l.length (0:Int)).length=l.length:=by simp
 by_cases hv:oe l=true
 · rw[if_pos hv]
   rw[hv]at v
   refine aj K.oK rfl ?_
   simp only[zK]at*
   generalize List.replicate l.length (0:Int)=z at*
   simp(disch:=omega)only[go_sem,K.gZ,↓reduceIte,v,rep,rl,reduceAdd,reduceSub]
 · rw[if_neg hv]
   rw[Bool.not_eq_true]at hv
   rw[hv]at v
   refine aj K.oK rfl ?_
   simp only[zK]at*
   generalize List.replicate l.length (0:Int)=z at*
   simp(disch:=omega)only[go_sem,K.gZ,↓reduceIte,v,rep,rl,reduceAdd,reduceSub]
   rfl
theorem MB(m:bq)(fl:List Spn):(Cf m fl [] 0).2=if kY m fl then 0 else 6:=by
 unfold Cf
 cases kY m fl<;>rfl
end Go.Ev
namespace Go.Ev
open Go
variable [Lib] [bO] [bL] [dL] [dm] [hU] [dg] [dn] [eR] [dF] [bY] [b7] [dw] [dk] [fM] [fp] [jx] [eS] [im]
def Cz(m:bq)(r p:Int):Int:=
 if 0≤r∧r<m.roads.length then
  if(nth m.roads r.toNat).frm=p then jk m r.toNat false 6 9 12
  else if(nth m.roads r.toNat).to=p then jk m r.toNat true 6 9 12 else -1
 else -1
def Wlk.ok(m:bq)(w:Wlk):Prop:=(0≤w.place∧w.place<m.aa.length)∧(w.IG= -1∧w.left=0∨0≤w.IG∧0≤Cz m w.IG w.place∧1≤w.left∧w.left≤2147483648)
structure Tru.ok(x:Tru):Prop where
 m:x.ox.ok
 m1:1≤x.ox.aa.length
 rl:x.readers.length≤3
 r:∀r∈x.readers,Fp x.ox.aa.length r
 n1:1≤x.people.length
 n3:x.people.length≤3
 w:∀w∈x.people,w.ok x.ox
 tl:x.tags.length=x.people.length
 tp:fJ x.tags=true
 t0:0≤x.time
 t1:x.time≤2147483648
 nl:x.numbers.length=x.readers.length
 ll:x.looked.length=x.readers.length
 ml:x.missed.length=x.readers.length
 nb:∀j,j<x.readers.length→(-1≤nth x.numbers j∧nth x.numbers j≤65535)∧(-1≤nth x.looked j∧nth x.looked j≤x.time)∧(nth x.looked j= -1↔nth x.numbers j= -1)
 m2:∀j,j<x.readers.length→(nth x.missed j).length=x.people.length
 mb:∀j,j<x.readers.length→∀i,i<x.people.length→0≤nth (nth x.missed j) i∧nth (nth x.missed j) i≤(nth x.readers j).miss
theorem Tru.ok.sz{x:Tru}(h:x.ok):x.sz:=by
 have:=h.m.np
 have:=h.m.nr
 have:=h.rl
 have:=h.n3
 have:=h.tl
 have:=h.nl
 have:=h.ll
 have:=h.ml
 refine⟨by omega,by omega,by omega,by omega,by omega,fun y hy=>?_,by omega,by omega,by omega,fun y hy=>?_⟩
 · have:=(h.r y hy).l;omega
 · obtain⟨j,hj,rfl⟩:=List.getElem_of_mem hy
   have:=h.m2 j (by omega)
   rw[gr (aLc hj)]at this
   omega
theorem Fp.odd{n:Nat}{r:Rdr}(h:Fp n r):Fs n r=false:=by
 obtain⟨s,l,l1,p1,p2,m1,m2,k1,k2⟩:=h
 unfold Fs
 rw[s,decide_eq_false (by omega),decide_eq_true (by omega),decide_eq_true (by omega),decide_eq_true (by omega)]
 rfl
theorem Tru.ok.alZ{x:Tru}(h:x.ok):yF x.ox x.readers=true:=by
 have:=h.rl
 unfold yF
 rw[decide_eq_true (by omega),Bool.true_and,Bool.not_eq_true',List.any_eq_false]
 intro r hr
 rw[(h.r r hr).odd]
 decide
theorem Di(l:List Wlk)(hl:l.length≤4294967296)(f:Nat)(bs:List (List T))(p:Wlk→Bool)(h:∀x,x∈l→aL 0 f (.t x.e::gg bs.length) (aY bs)=some (B (p x),aY bs)):
 aL 0 N.aJ [.t (.sl (l.map Wlk.e)),.fn f (gg bs.length)] (aY bs)=
 some (I (match (List.range l.length).find? (fun j=>p (nth l j))with | some j=>(j:Int) | none=> -1),aY bs):=by
 refine aj K.cV rfl ?_
 have loop:∀a b:D,exS aL K.fh ⟨[.t (.sl (l.map Wlk.e)),.fn f (gg bs.length),a,b,I l.length,I 0],aY bs⟩=
  some (match (List.range l.length).find? (fun j=>p (nth l j))with
   | some j=>(.ret,⟨[.t (.sl (l.map Wlk.e)),.fn f (gg bs.length),I j,I j,I l.length,I j],aY bs⟩)
   | none=>(.exit 0,⟨[.t (.sl (l.map Wlk.e)),.fn f (gg bs.length),.und,.und,I l.length,I l.length],aY bs⟩)):=by
  intro a b
  refine fY (fun j=>⟨[.t (.sl (l.map Wlk.e)),.fn f (gg bs.length),.und,.und,I l.length,I j],aY bs⟩) l.length (fun j=>p (nth l j)) _ _ rfl ?_ ?_ ?_ (by simp)
  · intro j hj hp
    have hc:=lO (h _ (aE hj)) rfl
    simp(disch:=omega)only[go_sem,K.bR,↓reduceIte,hc,hp]
  · intro j hj hp
    have hc:=lO (h _ (aE hj)) rfl
    simp(disch:=omega)only[go_sem,K.bR,↓reduceIte,hp,hc]
    simp
  · simp(disch:=omega)only[go_sem,K.bR,↓reduceIte]
 simp(disch:=omega)only[go_sem,K.aJ,↓reduceIte,loop]
 cases hf:(List.range l.length).find? (fun j=>p (nth l j))with
 | some j=>simp(disch:=omega)only[go_sem,↓reduceIte]
 | none=>simp(disch:=omega)only[go_sem,↓reduceIte]
theorem zC(l:List Wlk)(hl:l.length≤4294967296)(f:Nat)(bs:List (List T))(p:Wlk→Bool)(h:∀x,x∈l→aL 0 f (.t x.e::gg bs.length) (aY bs)=some (B (p x),aY bs)):
 aL 0 N.az [.t (.sl (l.map Wlk.e)),.fn f (gg bs.length)] (aY bs)=some (B (l.any p),aY bs):=by
 refine aj K.cI rfl ?_
 have h:=Di l hl f bs p h
 have hc:=vB aL bs f _ 0 (.sl (l.map Wlk.e)) h rfl
 have e:=Ld (l:=l) (p:=p)
 cases hf:(List.range l.length).find? (fun j=>p (nth l j))with
 | some j=>rw[hf]at e hc;simp(disch:=omega)only[go_sem,K.az,↓reduceIte,←e,hc]
 | none=>rw[hf]at e hc;simp(disch:=omega)only[go_sem,K.az,↓reduceIte,←e,hc,Option.isSome_none]
theorem PD{m:bq}(h:m.ok)(r p:Int):aL 0 N.c7 [.t m.e,I r,I p] []=some (I (Cz m r p),[]):=by
 refine aj K.qS rfl ?_
 have nr:=h.nr
 have li:=oa r 0 ((m.roads.length:Int)-1)
 unfold Cz
 by_cases c0:0≤r
 · obtain⟨k,rfl⟩:=Int.eq_ofNat_of_zero_le c0
   by_cases c1:k<m.roads.length
   · rw[if_pos ⟨c0,by omega⟩]
     rw[decide_eq_true (by omega)]at li
     have e:Int.toNat (k:Int)=k:=rfl
     simp only[Int.ofNat_eq_natCast,e]at*
     have ex:(m.roads.map Road.e)[k]?=some (nth m.roads k).e:=bE _ c1
     have t1:=Fc h k c1 false
     have t2:=Fc h k c1 true
     generalize jk m k false 6 9 12=a at*
     generalize jk m k true 6 9 12=b at*
     generalize nth m.roads k=q at*
     obtain⟨aa,roads⟩:=m
     obtain⟨q1,q2,q3,q4,q5,q6,q7,q8,q9,q10⟩:=q
     simp only at*
     by_cases d1:p=q1
     · have d1':q1=p:=d1.symm
       rw[if_pos d1']
       clear d1'
       subst d1
       simp(disch:=omega)only[go_sem,K.c7,↓reduceIte,li,ex,t1,reduceAdd,reduceSub]
     · have d1':¬q1=p:=fun e=>d1 e.symm
       by_cases d2:p=q2
       · have d2':q2=p:=d2.symm
         rw[if_neg d1',if_pos d2']
         clear d1' d2'
         subst d2
         simp(disch:=omega)only[go_sem,K.c7,↓reduceIte,li,ex,t2,d1,reduceAdd,reduceSub]
       · have d2':¬q2=p:=fun e=>d2 e.symm
         simp(disch:=omega)only[go_sem,K.c7,↓reduceIte,li,ex,d1,d2,d1',d2',reduceAdd,reduceSub]
   · rw[if_neg (by omega)]
     rw[decide_eq_false (by omega)]at li
     obtain⟨aa,roads⟩:=m
     simp only[Int.ofNat_eq_natCast]at*
     simp(disch:=omega)only[go_sem,K.c7,↓reduceIte,li,reduceAdd,reduceSub]
 · rw[if_neg (by omega)]
   rw[decide_eq_false (by omega)]at li
   obtain⟨aa,roads⟩:=m
   simp only at*
   simp(disch:=omega)only[go_sem,K.c7,↓reduceIte,li,reduceAdd,reduceSub]
theorem MC{m:bq}(h:m.ok){w:Wlk}(hw:w.ok m):aL 0 N.eH [.t m.e,.t w.e] []=some (B true,[]):=by
 refine aj K.pG rfl ?_
 have np:=h.np
 obtain⟨p1,p2,p3⟩:=w
 obtain⟨⟨w0,w1⟩,w2⟩:=hw
 have l1:=oa p1 0 ((m.aa.length:Int)-1)
 have l2:=oa p3 1 2147483648
 have lv:=PD h p2 p1
 simp only at*
 rw[decide_eq_true (by omega)]at l1
 generalize Cz m p2 p1=v at*
 obtain⟨aa,roads⟩:=m
 simp only at*
 rcases w2 with⟨w2,w3⟩ | ⟨w2,w3,w4,w5⟩
 · simp(disch:=omega)only[go_sem,K.eH,↓reduceIte,l1,w2,w3,reduceAdd,reduceSub]
 · rw[decide_eq_true (by omega)]at l2
   simp(disch:=omega)only[go_sem,K.eH,↓reduceIte,l1,lv,l2,reduceAdd,reduceSub]
theorem ad6{x:Tru}(h:x.ox.ok){w:Wlk}(hw:w.ok x.ox):aL 0 N.dO [.t w.e,.bp 0 0] [.box (x.cs.map .t)]=some (B false,[.box (x.cs.map .t)]):=by
 refine aj K.pF rfl ?_
 have wk:=MC h hw
 obtain⟨⟨aa,roads⟩,time,people,tags,readers,numbers,looked,missed⟩:=x
 obtain⟨p1,p2,p3⟩:=w
 simp only[Tru.cs,List.map_cons,List.map_nil,tL]at*
 simp(disch:=omega)only[go_sem,K.dO,↓reduceIte,wk,reduceAdd,reduceSub]
theorem ad7{x:Tru}(h:x.sz)(k:Nat)(hk:k<x.readers.length)(c:Int):aL 0 N.dN [I c,.bp 0 0,.bp 1 0] [.box (x.cs.map .t),.box [I k]]=some (B (!decide (0≤c∧c≤(nth x.readers k).miss)),[.box (x.cs.map .t),.box [I k]]):=by
 refine aj K.pE rfl ?_
 have:=h.r
 have li:=oa c 0 (nth x.readers k).miss
 have er:(x.readers.map Rdr.e)[k]?=some (nth x.readers k).e:=bE _ hk
 generalize nth x.readers k=y at*
 obtain⟨⟨aa,roads⟩,time,people,tags,readers,numbers,looked,missed⟩:=x
 obtain⟨r1,r2,r3,r4⟩:=y
 simp only[Tru.cs,List.map_cons,List.map_nil,tL]at*
 simp(disch:=omega)only[go_sem,K.dN,↓reduceIte,er,li,reduceAdd,reduceSub]
theorem PE{x:Tru}(h:x.ok):aL 0 N.fq [.t x.e] []=some (B true,[]):=by
 refine aj K.sU rfl ?_
 have sz:=h.sz
 have sv:=Er h.m x.readers sz.r sz.r2
 rw[h.alZ]at sv
 have tg:=Es x.tags sz.d
 rw[h.tp]at tg
 have cf2:aL 0 N.az [.t (.sl (x.people.map Wlk.e)),.fn N.dO [.bp 0 0]] [.box (x.cs.map .t)]=some (B (x.people.any fun _=>false),[.box (x.cs.map .t)]):=zC x.people (by have:=sz.c;omega) N.dO [x.cs] (fun _=>false) (fun w hw=>ad6 h.m (h.w w hw))
 have cf1:∀(k:Nat) (hk:k<x.readers.length),aL 0 N.ax [.t (tL (nth x.missed k)),.fn N.dN [.bp 0 0,.bp 1 0]] [.box (x.cs.map .t),.box [I k]]=some (B ((nth x.missed k).any fun c=> !decide (0≤c∧c≤(nth x.readers k).miss)),[.box (x.cs.map .t),.box [I k]]):=fun(k:Nat) (hk:k<x.readers.length)=>o9 (nth x.missed k) (by have:=h.m2 k hk;have:=h.n3;omega) N.dN [x.cs,[tI k]] (fun c=> !decide (0≤c∧c≤(nth x.readers k).miss)) (fun c _=>ad7 sz k hk c)
 have cf0:∀(k:Nat) (hk:k<x.readers.length),(nth x.missed k).any (fun c=> !decide (0≤c∧c≤(nth x.readers k).miss))=false:=by
  intro k hk
  rw[List.any_eq_false]
  intro c hc
  obtain⟨i,hi,rfl⟩:=List.getElem_of_mem hc
  have:=h.mb k hk i (by have:=h.m2 k hk;omega)
  rw[gr (aLc hi)]at this
  rw[decide_eq_true this];decide
 have li1:=oa x.people.length 1 12
 have li2:=oa x.time 0 2147483648
 obtain⟨hm,hm1,hrl,hr,n1,n3,hw,tl,tp,t0,t1,nl,ll,ml,nb,m2,mb⟩:=h
 rw[decide_eq_true (by omega)]at li1 li2
 have af:x.people.any (fun _=>false)=false:=by simp
 rw[af]at cf2
 have lp1:∀z0 z2 z4 z5:D,exS aL K.wN ⟨[z0,.bp 0 0,z2,I x.people.length,z4,z5,I x.readers.length,I 0],[.box (x.cs.map .t)]⟩=
  some (.exit 0,⟨[.und,.bp 0 0,.und,I x.people.length,.und,.und,I x.readers.length,I x.readers.length],[.box (x.cs.map .t)]⟩):=by
  intro z0 z2 z4 z5
  refine bH (fun k=>⟨[.und,.bp 0 0,.und,I x.people.length,.und,.und,I x.readers.length,I k],[.box (x.cs.map .t)]⟩) x.readers.length rfl ?_ ?_ (by simp)
  · intro k hk
    have nbk:=nb k hk
    have m2k:=m2 k hk
    have cf1:=cf1 k hk
    rw[cf0 k hk]at cf1
    have ek:(x.missed.map fun x=>T.sl (x.map (T.int .i64)))[k]?=some (LLe (nth x.missed k)):=bE _ (by omega)
    have en:(x.numbers.map (T.int .i64))[k]?=some (tI (nth x.numbers k)):=bE _ (by omega)
    have el:(x.looked.map (T.int .i64))[k]?=some (tI (nth x.looked k)):=bE _ (by omega)
    generalize nth x.missed k=mk at*
    generalize nth x.numbers k=nk at*
    generalize nth x.looked k=lk at*
    have i1:=oa nk (-1) 65535
    have i2:=oa lk (-1) x.time
    rw[decide_eq_true (by omega)]at i1 i2
    obtain⟨⟨aa,roads⟩,time,people,tags,readers,numbers,looked,missed⟩:=x
    simp only[Tru.cs,List.map_cons,List.map_nil,tL,LLe]at*
    by_cases cc:nk= -1
    · have cl:lk= -1:=nbk.2.2.2 cc
      subst cc cl
      simp(disch:=omega)only[go_sem,K.mL,↓reduceIte,ek,en,el,m2k,i1,i2,cf1,reduceAdd,reduceSub]
    · have cl:¬lk= -1:=fun e=>cc (nbk.2.2.1 e)
      simp(disch:=omega)only[go_sem,K.mL,↓reduceIte,ek,en,el,m2k,i1,i2,cf1,cc,cl,reduceAdd,reduceSub]
  · obtain⟨⟨aa,roads⟩,time,people,tags,readers,numbers,looked,missed⟩:=x
    simp only[Tru.cs,List.map_cons,List.map_nil,tL]at*
    simp(disch:=omega)only[go_sem,K.mL,↓reduceIte,reduceAdd,reduceSub]
 obtain⟨⟨aa,roads⟩,time,people,tags,readers,numbers,looked,missed⟩:=x
 simp only[Tru.e,Tru.cs,List.map_cons,List.map_nil,tL]at*
 simp(disch:=omega)only[go_sem,K.fq,↓reduceIte,sv,tg,cf2,li1,li2,nl,ll,ml,tl,lp1,reduceAdd,reduceSub]
abbrev Hz(s:Nat)(x:Tru):List D:=[.t (.sl (x.ox.aa.map Place.e)),.t (.sl (x.ox.roads.map Road.e)),I x.time,.ref s 0 x.people.length,.t (tL x.tags),.ref (s+1) 0 x.readers.length,.t (tL x.numbers),.t (tL x.looked),.ref (s+2) 0 x.missed.length]
abbrev PF(s:Nat)(x:Tru):D:= .agg (Hz s x)
abbrev HA(x:Tru):aq:=[.arr 3 false 0 ((x.people.map Wlk.e).map .t),.arr 4 false 0 ((x.readers.map Rdr.e).map .t),.arr 1 false 0 ((x.missed.map LLe).map .t)]
theorem JW(x:Tru)(h:x.sz):aL 1 N.c8 [.t x.e] []=some (PF 0 x,HA x):=by
 refine aj K.nu rfl ?_
 obtain⟨a,b,c,d,r,r2,n,l,m,m2⟩:=h
 obtain⟨⟨aa,roads⟩,time,people,tags,readers,numbers,looked,missed⟩:=x
 simp only at*
 have c1:=zA aa a
 have c2:=xt roads b
 have c3:=JS people c
 have c4:=cT tags d
 have c5:=cT numbers n
 have c6:=cT looked l
 simp only[tL]at c4 c5 c6
 have tk1:readers.take readers.length=readers:=List.take_length
 have tk2:missed.take missed.length=missed:=List.take_length
 have lp1:∀z0 z4 z5 z9_ z10 z11:D,exS aL K.qg ⟨[z0,.bp 0 0,.bp 1 0,.bp 2 0,z4,z5,.t (.sl (readers.map Rdr.e)),I readers.length,I 0,z9_,z10,z11],[.box ((Tru.cs ⟨⟨aa,roads⟩,time,people,tags,readers,numbers,looked,missed⟩).map .t),.box ft,.box [.t (.sl (aa.map Place.e)),.t (.sl (roads.map Road.e)),I time,.ref 5 0 people.length,.t (tL tags),.ref 6 0 0,.t (tL numbers),.t (tL looked),.t (tLL missed)],.arr 4 false 0 [],.arr 1 false 0 [],.arr 3 false 0 ((people.map Wlk.e).map .t),.arr 4 false 0 []]⟩=
  some (.exit 0,⟨[.und,.bp 0 0,.bp 1 0,.bp 2 0,.und,.und,.t (.sl (readers.map Rdr.e)),I readers.length,I readers.length,.und,.und,.und],[.box ((Tru.cs ⟨⟨aa,roads⟩,time,people,tags,readers,numbers,looked,missed⟩).map .t),.box ft,.box [.t (.sl (aa.map Place.e)),.t (.sl (roads.map Road.e)),I time,.ref 5 0 people.length,.t (tL tags),.ref 6 0 readers.length,.t (tL numbers),.t (tL looked),.t (tLL missed)],.arr 4 false 0 [],.arr 1 false 0 [],.arr 3 false 0 ((people.map Wlk.e).map .t),.arr 4 false 0 ((readers.map Rdr.e).map .t)]⟩):=by
  intro z0 z4 z5 z9_ z10 z11
  refine bH (fun j=>⟨[.und,.bp 0 0,.bp 1 0,.bp 2 0,.und,.und,.t (.sl (readers.map Rdr.e)),I readers.length,I j,.und,.und,.und],[.box ((Tru.cs ⟨⟨aa,roads⟩,time,people,tags,readers,numbers,looked,missed⟩).map .t),.box ft,.box [.t (.sl (aa.map Place.e)),.t (.sl (roads.map Road.e)),I time,.ref 5 0 people.length,.t (tL tags),.ref 6 0 (readers.take j).length,.t (tL numbers),.t (tL looked),.t (tLL missed)],.arr 4 false 0 [],.arr 1 false 0 [],.arr 3 false 0 ((people.map Wlk.e).map .t),.arr 4 false 0 (((readers.take j).map Rdr.e).map .t)]⟩) readers.length rfl ?_ ?_ (by simp)
  · intro j hj
    have ex:(readers.map Rdr.e)[j]?=some (nth readers j).e:=bE _ hj
    have cl:=cT (nth readers j).pl (r2 _ (aE hj))
    have tk:=jd hj
    have tl:(readers.take j).length=j:=by rw[List.length_take];omega
    have tl2:(readers.take (j+1)).length=j+1:=by rw[List.length_take];omega
    rw[tl2,tk]
    generalize readers.take j=q at*
    generalize nth readers j=y at*
    obtain⟨pl,per,miss,skew⟩:=y
    simp only[Tru.cs,ft,List.map_cons,List.map_nil,tL]at*
    simp(disch:=omega)only[go_sem,K.lF,↓reduceIte,ex,cl,tl,List.map_append,List.map_cons,List.map_nil,reduceAdd,reduceSub]
  · rw[tk1]
    simp only[Tru.cs,ft,List.map_cons,List.map_nil]
    simp(disch:=omega)only[go_sem,K.lF,↓reduceIte,reduceAdd,reduceSub]
 have lp2:∀z0 z1 z4 z5 z6 z7 z8:D,∀X:List D,exS aL K.qh ⟨[z0,z1,.bp 1 0,.bp 2 0,z4,z5,z6,z7,z8,.t (tLL missed),I missed.length,I 0],[.box ((Tru.cs ⟨⟨aa,roads⟩,time,people,tags,readers,numbers,looked,missed⟩).map .t),.box ft,.box [.t (.sl (aa.map Place.e)),.t (.sl (roads.map Road.e)),I time,.ref 5 0 people.length,.t (tL tags),.ref 6 0 readers.length,.t (tL numbers),.t (tL looked),.ref 7 0 0],.arr 4 false 0 [],.arr 1 false 0 [],.arr 3 false 0 ((people.map Wlk.e).map .t),.arr 4 false 0 ((readers.map Rdr.e).map .t),.arr 1 false 0 []]⟩=
  some (.exit 2,⟨[.und,.und,.bp 1 0,.bp 2 0,.und,.und,.und,.und,.und,.t (tLL missed),I missed.length,I missed.length],[.box ((Tru.cs ⟨⟨aa,roads⟩,time,people,tags,readers,numbers,looked,missed⟩).map .t),.box ft,.box [.t (.sl (aa.map Place.e)),.t (.sl (roads.map Road.e)),I time,.ref 5 0 people.length,.t (tL tags),.ref 6 0 readers.length,.t (tL numbers),.t (tL looked),.ref 7 0 missed.length],.arr 4 false 0 [],.arr 1 false 0 [],.arr 3 false 0 ((people.map Wlk.e).map .t),.arr 4 false 0 ((readers.map Rdr.e).map .t),.arr 1 false 0 ((missed.map LLe).map .t)]⟩):=by
  intro z0 z1 z4 z5 z6 z7 z8 X
  refine bH (fun j=>⟨[.und,.und,.bp 1 0,.bp 2 0,.und,.und,.und,.und,.und,.t (tLL missed),I missed.length,I j],[.box ((Tru.cs ⟨⟨aa,roads⟩,time,people,tags,readers,numbers,looked,missed⟩).map .t),.box ft,.box [.t (.sl (aa.map Place.e)),.t (.sl (roads.map Road.e)),I time,.ref 5 0 people.length,.t (tL tags),.ref 6 0 readers.length,.t (tL numbers),.t (tL looked),.ref 7 0 (missed.take j).length],.arr 4 false 0 [],.arr 1 false 0 [],.arr 3 false 0 ((people.map Wlk.e).map .t),.arr 4 false 0 ((readers.map Rdr.e).map .t),.arr 1 false 0 (((missed.take j).map LLe).map .t)]⟩) missed.length rfl ?_ ?_ (by simp)
  · intro j hj
    have ex:(missed.map fun x=>T.sl (x.map (T.int .i64)))[j]?=some (LLe (nth missed j)):=bE _ hj
    have cl:=cT (nth missed j) (m2 _ (aE hj))
    have tk:=jd hj
    have tl:(missed.take j).length=j:=by rw[List.length_take];omega
    have tl2:(missed.take (j+1)).length=j+1:=by rw[List.length_take];omega
    rw[tl2,tk]
    generalize missed.take j=q at*
    generalize nth missed j=y at*
    simp only[Tru.cs,ft,List.map_cons,List.map_nil,tL,LLe]at*
    simp(disch:=omega)only[go_sem,K.lG,↓reduceIte,ex,cl,tl,List.map_append,List.map_cons,List.map_nil,reduceAdd,reduceSub]
  · rw[tk2]
    simp only[Tru.cs,ft,List.map_cons,List.map_nil]
    simp(disch:=omega)only[go_sem,K.lG,↓reduceIte,reduceAdd,reduceSub]
 have lp2:=fun z0 z1 z4 z5 z6 z7 z8=>lp2 z0 z1 z4 z5 z6 z7 z8 []
 simp only[PF,Hz,HA,Tru.e,Tru.cs,ft,List.map_cons,List.map_nil,LLe,tL]at*
 simp(disch:=omega)only[go_sem,K.c8,↓reduceIte,c1,c2,c3,c4,c5,c6,lp1,lp2,reduceAdd,reduceSub]
theorem ad8(q:List Wlk)(k:Nat)(a b c:Int):(((q.map Wlk.e).map D.t).set k (.t (.agg [tI a,tI b,tI c])))=(((q.set k ⟨a,b,c⟩).map Wlk.e).map D.t):=by
 rw[List.map_set,List.map_set]
theorem ajB(q:List Wlk)(k:Nat)(hk:k<q.length)(w:Wlk):(((q.set k w).map Wlk.e).map D.t)[k]?=some (.t w.e):=by
 rw[aLn,aLn,aLj hk];rfl
def MD{α:Type}(f:α→α)(l:List α)(j:Nat):List α:=(l.take j).map f++l.drop j
theorem Sx{α:Type}(f:α→α)(l:List α):MD f l l.length=l.map f:=by simp[MD]
theorem Sy{α:Type}(f:α→α)(l:List α)(j:Nat):(MD f l j).length=l.length:=by
 simp only[MD,aLv,List.length_map,List.length_take,List.length_drop];omega
theorem ad9{α:Type}(f:α→α)(l:List α)(j:Nat):(MD f l j)[j]?=l[j]?:=by
 unfold MD
 by_cases h:j<l.length
 · rw[aLh (by rw[List.length_map,List.length_take];omega),List.length_map,List.length_take,Nat.min_eq_left (by omega),Nat.sub_self,List.getElem?_drop];rfl
 · rw[aLm (by rw[aLv,List.length_map,List.length_take,List.length_drop];omega),aLm (by omega)]
theorem Sz{α:Type} [Dat α](f:α→α)(l:List α)(j:Nat):nth (MD f l j) j=nth l j:=by
 unfold nth
 simp only[aLl,ad9]
theorem PG{α:Type} [Dat α](f:α→α)(l:List α)(j:Nat)(h:j<l.length):MD f l (j+1)=(MD f l j).set j (f (nth l j)):=by
 have e:=gr (aLc h)
 have e2:=jd h
 have e3:((l.take j).map f).length=j:=by rw[List.length_map,List.length_take];omega
 unfold MD
 rw[List.set_append_right _ _ (by omega),e3,Nat.sub_self,List.drop_eq_getElem_cons h,List.set_cons_zero,e2,List.map_append,List.append_assoc]
 rfl
def Lp(m:bq)(r p:Int):Int:=if p=(nth m.roads r.toNat).frm then(nth m.roads r.toNat).to else(nth m.roads r.toNat).frm
def CA(m:bq)(s:Int)(w:Wlk):Wlk:=
 if w.IG= -1 then w else if w.left-s≤0 then⟨Lp m w.IG w.place, -1,0⟩else⟨w.place,w.IG,w.left-s⟩
def PH(x:Tru)(s:Int):Tru×Int:=
 if s<0∨3600<s then(x,1)
 else if 2147483648<x.time+s then(x,8)
 else({ x with time:=x.time+s,people:=x.people.map (CA x.ox s)},0)
theorem Wlk.ok.IG{m:bq}{w:Wlk}(h:w.ok m)(hr:w.IG≠ -1):0≤w.IG∧w.IG<m.roads.length∧((nth m.roads w.IG.toNat).frm=w.place∨(nth m.roads w.IG.toNat).to=w.place)∧1≤w.left∧w.left≤2147483648:=by
 rcases h.2 with h2 | ⟨a,b,c,d⟩
 · exact absurd h2.1 hr
 · unfold Cz at b
   split at b
   · next hh=>
     refine⟨a,hh.2,?_,c,d⟩
     split at b
     · next q=>exact .inl q
     · split at b
       · next q=>exact .inr q
       · omega
   · omega
@[go_sem] theorem aea (H : aq) (p o n : Nat) : G2 H 1 [.ref p o n] = some (.ref H.length 0 1, H ++ [.arr 1 false 0 [.ref p o n]]) := rfl
@[go_sem] theorem ME (H : aq) (sz : Nat) : pQ H sz true (some .nil) (some .nil) = some (.ref H.length 0 0, H ++ [.arr sz false 0 []]) := rfl
@[go_sem] theorem SA (H : aq) (sz : Nat) (x : D) : pQ H sz true (some x) (some .nil) = IC H sz x (([] : List T).map .t) := by
 have e:elems H .nil=some []:=rfl
 simp only[pQ,aLq,nU,e,if_true,cK]
 exact Jv _ _ _ _
@[go_sem] theorem agL (H : aq) (a b c d : T) : G2 H 4 [.t (.agg [a, b, c, d])] = some (.ref H.length 0 1, H ++ [.arr 4 false 0 [.t (.agg [a, b, c, d])]]) := rfl
theorem SB(m:bq)(k:Nat)(hk:k<m.roads.length)(hl:m.roads.length≤1000000)(p:Int)(hp:(nth m.roads k).frm=p∨(nth m.roads k).to=p):aL 0 N.ju [.t m.e,I k,I p] []=some (I (Lp m k p),[]):=by
 refine aj K.uV rfl ?_
 have e:Int.toNat (k:Int)=k:=rfl
 unfold Lp
 rw[e]
 have ex:(m.roads.map Road.e)[k]?=some (nth m.roads k).e:=bE _ hk
 generalize nth m.roads k=q at*
 obtain⟨aa,roads⟩:=m
 obtain⟨q1,q2,q3,q4,q5,q6,q7,q8,q9,q10⟩:=q
 simp only at*
 by_cases d:p=q1
 · simp(disch:=omega)only[go_sem,K.ju,↓reduceIte,ex,d,reduceAdd,reduceSub]
 · have d2:p=q2:=by
    rcases hp with h | h
    · exact absurd h.symm d
    · exact h.symm
   simp(disch:=omega)only[go_sem,K.ju,↓reduceIte,ex,d,d2,reduceAdd,reduceSub]
abbrev ttH(x:Tru)(s:Int)(l:List Wlk)(z:List D):aq:=[.box (x.cs.map .t),.box z,.arr 3 false 0 ((l.map Wlk.e).map .t),.arr 4 false 0 ((x.readers.map Rdr.e).map .t),.arr 1 false 0 ((x.missed.map LLe).map .t),.box [.t (.sl (x.ox.aa.map Place.e)),.t (.sl (x.ox.roads.map Road.e)),I (x.time+s),.ref 2 0 l.length,.t (tL x.tags),.ref 3 0 x.readers.length,.t (tL x.numbers),.t (tL x.looked),.ref 4 0 x.missed.length]]
theorem SC{x:Tru}(h:x.ok)(s:Int):aL 0 N.eQ [.t x.e,I s] []=some (.tup [.t (PH x s).1.e,I (PH x s).2],[]):=by
 refine aj K.uP rfl ?_
 have sz:=h.sz
 have cp:=JW x sz
 have va:=PE h
 have n3:=h.n3
 have t0:=h.t0
 have t1:=h.t1
 have nr:=h.m.nr
 have i1:=oa s 0 3600
 unfold PH
 by_cases d1:s<0∨3600<s
 · rw[if_pos d1]
   rw[decide_eq_false (by omega)]at i1
   have sc:∀j:Int,([D.t x.e,I j].all kN)=false:=fun _=>rfl
   obtain⟨⟨aa,roads⟩,time,people,tags,readers,numbers,looked,missed⟩:=x
   simp only[Tru.e,Tru.cs,PF,Hz,HA,List.map_cons,List.map_nil,LLe,tL]at*
   simp(disch:=omega)only[go_sem,K.eQ,↓reduceIte,cp,va,sc,i1,reduceAdd,reduceSub]
 · rw[if_neg d1]
   rw[decide_eq_true (by omega)]at i1
   have s0:0≤s:=by omega
   have s1:s≤3600:=by omega
   by_cases d4:2147483648<x.time+s
   · rw[if_pos d4]
     have sc:∀j:Int,([D.t x.e,I j].all kN)=false:=fun _=>rfl
     obtain⟨⟨aa,roads⟩,time,people,tags,readers,numbers,looked,missed⟩:=x
     simp only[Tru.e,Tru.cs,PF,Hz,HA,List.map_cons,List.map_nil,LLe,tL]at*
     simp(disch:=omega)only[go_sem,K.eQ,↓reduceIte,cp,va,sc,i1,d4,gt_iff_lt,reduceAdd,reduceSub]
   · rw[if_neg d4]
     have sc:([D.t (Tru.e { x with time:=x.time+s,people:=x.people.map (CA x.ox s)}),I 0].all kN)=false:=rfl
     have lp1:∀z0 z4 z6 z7:D,exS aL K.yw ⟨[z0,I s,.bp 0 0,.bp 1 0,z4,.bp 5 0,z6,z7,.ref 2 0 x.people.length,I x.people.length,I 0],ttH x s x.people ft⟩=
      some (.exit 1,⟨[.und,I s,.bp 0 0,.bp 1 0,.und,.bp 5 0,.und,.und,.ref 2 0 x.people.length,I x.people.length,I x.people.length],ttH x s (x.people.map (CA x.ox s)) ft⟩):=by
      intro z0 z4 z6 z7
      refine bH (fun j=>⟨[.und,I s,.bp 0 0,.bp 1 0,.und,.bp 5 0,.und,.und,.ref 2 0 x.people.length,I x.people.length,I j],ttH x s (MD (CA x.ox s) x.people j) ft⟩) x.people.length rfl ?_ ?_ (by simp)
      · intro j hj
        have wo:=h.w _ (aE hj)
        have rd:=wo.IG
        rw[PG _ _ _ hj]
        have ln:=Sy (CA x.ox s) x.people j
        have gt:=Sz (CA x.ox s) x.people j
        have lj:j<(MD (CA x.ox s) x.people j).length:=by omega
        rw[← gt]at rd ⊢
        generalize MD (CA x.ox s) x.people j=q at*
        have ex:((q.map Wlk.e).map D.t)[j]?=some (.t (nth q j).e):=by rw[aLn,bE _ lj];rfl
        have g1:=fun w=>ajB q j lj w
        by_cases c1:(nth q j).IG= -1
        · have e0:q.set j (CA x.ox s (nth q j))=q:=by
           unfold CA
           rw[if_pos c1,gr (aLc lj),List.set_getElem_self]
          rw[e0]
          obtain⟨⟨aa,roads⟩,time,people,tags,readers,numbers,looked,missed⟩:=x
          simp only[ttH,ft,Tru.cs,List.map_cons,List.map_nil,LLe,tL]at*
          simp(disch:=omega)only[go_sem,K.lq,↓reduceIte,c1,ln,ex,reduceAdd,reduceSub]
        · obtain⟨r0,r1,r2,r3,r4⟩:=rd c1
          obtain⟨k,hk⟩:=Int.eq_ofNat_of_zero_le r0
          have oo:=SB x.ox k (by rw[hk]at r1;omega) (by omega) (nth q j).place (by rw[hk]at r2;exact r2)
          unfold CA
          rw[if_neg c1]
          rw[← hk]at oo
          generalize Lp x.ox (nth q j).IG (nth q j).place=ot at*
          obtain⟨⟨aa,roads⟩,time,people,tags,readers,numbers,looked,missed⟩:=x
          generalize nth q j=y at*
          obtain⟨y1,y2,y3⟩:=y
          simp only[ttH,ft,Tru.cs,List.map_cons,List.map_nil,LLe,tL]at*
          by_cases c2:y3-s≤0
          · simp(disch:=omega)only[go_sem,K.lq,↓reduceIte,c1,c2,oo,ex,ad8,g1,List.set_set,List.length_set,ln,reduceAdd,reduceSub]
          · simp(disch:=omega)only[go_sem,K.lq,↓reduceIte,c1,c2,ex,ad8,g1,List.set_set,List.length_set,ln,reduceAdd,reduceSub]
      · rw[Sx]
        obtain⟨⟨aa,roads⟩,time,people,tags,readers,numbers,looked,missed⟩:=x
        simp only[ttH,ft,Tru.cs,List.map_cons,List.map_nil,LLe,tL]at*
        simp(disch:=omega)only[go_sem,K.lq,↓reduceIte,List.length_map,reduceAdd,reduceSub]
     obtain⟨⟨aa,roads⟩,time,people,tags,readers,numbers,looked,missed⟩:=x
     simp only[ttH,ft,Tru.e,Tru.cs,PF,Hz,HA,List.map_cons,List.map_nil,LLe,tL]at*
     simp(disch:=omega)only[go_sem,K.eQ,↓reduceIte,cp,va,sc,i1,d4,lp1,gt_iff_lt,List.length_map,reduceAdd,reduceSub]
end Go.Ev
namespace Go.Ev.K
open Go.Ev
def pH:C:= (.seq (.ite [m v2,u (.bin .lss l0 (.i 32))] [] 0 .skip (.exit 0)) (.seq (.blk 1 (.reg [f 0 v1,g l0,u (.bs [.i (-1)] 1),u (.app l1 l0 true 1),f 1 v1,g l0,u (.bs [.i 0] 1),u (.app l1 l0 true 1),f 0 v1,u (.st l0 l5 1 []),f 1 v1,u (.st l0 l3 1 [])] [(2,2),(5,0),(6,0)])) (.reg [m v2,u (.bin .add l0 (.i 1)),x 2 l0] [])))
def wO:C:= .loop true [] K.pH
def ja:Fn:= { aD:=0,vars:=[0,1,2],body:=(q [w 0 (.al [.nil,.nil] [])] [] (q [w 1 (.al [.nil,.nil] [(0,1),(1,1)])] [] (.seq (q [x 2 (.i 0)] [] (.blk 0 K.wO)) (q [h 2 v1,u (.st v0 l0 2 [])] [] .ret)))),res:=[(0,some (2,true))]}
def cL:Fn:= { aD:=2,vars:=[0,1,2,3,4],body:=(q [w 2 (.bx v0 2),w 3 (.bx v1 2),x 4 (.b false)] [] (q [f 0 v2,g l0,f 0 v3,g l0,u (.ca N.aS 0 [] [.l 2,.l 0]),m l0,y 0 true (.fa v2 1),i 1 true l0,y 2 true (.fa v3 1),i 3 true l0,y 4 true (.ca N.aS 0 [] [.l 2,.l 0]),u (.pk l5 l0 (.b false)),x 4 l0] [] .ret)),res:=[(4,none)]}
def j3:Fn:= { aD:=0,vars:=[0],body:=(q [w 0 (.al [.nil,.nil] [])] [] (q [u (.bs [.i (-1)] 1),u (.ca N.bj 1 [] [.l 0,.i 32]),u (.mkt (.i 32) (.int .i64 (0)) 1),u (.bd [.nil,.nil] [(0,1,.l 1),(1,1,.l 0)]),u (.st v0 l0 2 [])] [(0,0),(2,0)] .ret)),res:=[(0,some (2,true))]}
def eV:Fn:= { aD:=1,vars:=[0,1,2],body:=(q [w 1 (.bx v0 2),x 2 (.b false)] [] (q [f 0 v1,g l0,u (.ln l0),u (.bin .eql l0 (.i 32)),m l0,y 0 true (.fa v1 1),i 1 true l0,y 2 true (.ln l0),y 3 true (.bin .eql l0 (.i 32)),u (.pk l4 l0 (.b false)),m l0,y 0 true (.fa v1 0),i 1 true l0,y 2 true (.ca N.ax 0 [] [.l 0,.c (.fn N.dt [])]),y 3 true (.un .not l0),u (.pk l4 l0 (.b false)),m l0,y 0 true (.fa v1 1),i 1 true l0,y 2 true (.ca N.ax 0 [] [.l 0,.c (.fn N.du [])]),y 3 true (.un .not l0),u (.pk l4 l0 (.b false)),x 2 l0] [] .ret)),res:=[(2,none)]}
def nN:Fn:= { aD:=2,vars:=[0,1,2,3,4,5,6,7,8],body:=(q [w 2 (.bx v0 2),w 3 (.bx v1 4),w 4 (.al [.nil,.nil] []),x 5 (.i 0)] [] (.seq (.blk 0 (.ite [h 2 v2,u (.ca N.eV 0 [] [.l 0]),u (.un .not l0),m l0] [] 0 (q [h 2 v2,u (.st v4 l0 2 []),x 5 (.i 10)] [] .ret) (.ite [h 4 v3,u (.ca N.iH 0 [] [.l 0]),u (.un .not l0),m l0] [] 0 (q [h 2 v2,u (.st v4 l0 2 []),x 5 (.i 6)] [] .ret) .skip))) (q [f 0 v2,g l0,f 0 v3,g l0,a 1 l2 l0,g l0,x 6 l0] [] (q [f 1 v3,g l0,m v6,u (.bin .sub l1 l0),u (.bin .add l0 (.i 65536)),u (.bin .rem l0 (.i 65536)),x 7 l0] [] (.seq (.ite [m v6,u (.bin .geq l0 (.i 0)),m l0,e 0 true v7,y 1 true (.bin .eql l0 (.i 0)),e 2 true l0,e 0 false v7,y 1 false (.bin .geq l0 (.i 32768)),y 5 true (.pk l2 (.b true) l0),u (.pk l6 l0 (.b false))] [] 0 (q [h 2 v2,u (.st v4 l0 2 []),x 5 (.i 42)] [] .ret) .skip) (q [w 8 (.al [.nil,.nil] []),f 0 v2,g l0,u (.ca N.ai 1 [] [.l 0]),f 1 v2,g l0,u (.ca N.ai 1 [] [.l 0]),u (.bd [.nil,.nil] [(0,1,.l 3),(1,1,.l 0)]),u (.st l7 l0 2 [])] [(0,4),(0,7),(5,1)] (q [f 0 v8,g l0,f 0 v3,g l0,f 1 v3,g l0,a 1 l4 l2,u (.st l0 l1 1 [])] [] (.seq (.ite [m v6,u (.bin .geq l0 (.i 0))] [] 0 (.reg [f 1 v8,g l0,f 0 v3,g l0,f 1 v8,g l0,f 0 v3,g l0,a 1 l2 l0,g l0,m v7,u (.bin .add l1 l0),u (.bin .sub l0 (.i 1)),u (.mn [.l 0,.i 2147483648]),a 1 (.l 12) l10,u (.st l0 l1 1 [])] []) .skip) (q [h 2 v8,u (.st v4 l0 2 []),x 5 (.i 0)] [] .ret))))))))),res:=[(4,some (2,true)),(5,none)]}
def Dj:C:= (.its [u (.bin .lss v8 v7)] [] 0 .skip (.exit 0) (.seq (.blk 1 (q [a 1 v6 v8,g l0,x 5 l0] [] (.reg [m v4,m v5,u (.cv .u64 l0),u (.ca N.lg 1 [0] [.l 2,.l 0,.i 2]),x 4 l0] []))) (.reg [u (.bin .add v8 (.i 1)),x 8 l0] [])))
def Ft:C:= .loop true [0,3,5] K.Dj
def ma:Fn:= { aD:=1,vars:=[0,1,2,3,4,6,28,29,30],body:=(q [w 1 (.bx v0 4),w 2 (.al [z0,z0,.nil] []),x 3 (.i 0)] [] (.seq (.ite [h 4 v1,u (.ca N.iH 0 [] [.l 0]),u (.un .not l0)] [] 0 (q [u (.bd [z0,z0,.nil] []),u (.st v2 l0 3 []),x 3 (.i 6)] [] .ret) .skip) (q [f 1 v1,g l0,u (.cv .u64 l0),u (.ca N.lg 1 [0] [.c (.nil),.l 0,.i 2]),x 4 l0] [] (q [m v4,f 2 v1,g l0,u (.cv .u64 l0),u (.ca N.lg 1 [0] [.l 3,.l 0,.i 6]),x 4 l0] [] (q [m v4,f 3 v1,g l0,u (.ln l0),u (.cv .u8 l0),u (.bs [.l 0] 1),u (.app l5 l0 true 1),x 4 l0] [] (.seq (q [f 3 v1,w 6 (.ld l0 1 false),w 7 (.ln l0),x 8 (.i 0)] [] (.blk 0 K.Ft)) (q [f 0 v1,g l0,m v4,u (.bd [z0,z0,.nil] [(0,1,.l 1),(1,1,.i 9),(2,1,.l 0)]),u (.st v2 l0 3 []),x 3 (.i 0)] [] .ret))))))),res:=[(2,some (3,true)),(3,none)]}
def gO:Fn:= { aD:=2,vars:=[0,1,2,3,4],body:=(q [w 2 (.bx v0 4),w 3 (.bx v1 4),x 4 (.b false)] [] (q [f 0 v2,g l0,f 0 v3,g l0,u (.bin .eql l2 l0),m l0,y 0 true (.fa v2 1),i 1 true l0,y 2 true (.fa v3 1),i 3 true l0,y 4 true (.bin .eql l2 l0),u (.pk l5 l0 (.b false)),m l0,y 0 true (.fa v2 2),i 1 true l0,y 2 true (.fa v3 2),i 3 true l0,y 4 true (.bin .eql l2 l0),u (.pk l5 l0 (.b false)),m l0,y 0 true (.fa v2 3),i 1 true l0,y 2 true (.fa v3 3),i 3 true l0,y 4 true (.ca N.aS 0 [] [.l 2,.l 0]),u (.pk l5 l0 (.b false)),x 4 l0] [] .ret)),res:=[(4,none)]}
def yH:C:= .rng 6 7 N.bF [x 5 v7] [] [f 3 v4,g l0,m v5,u (.ca N.gH 0 [] [.l 0]),u (.cv .i64 l0),u (.bs [.l 0] 1),u (.app l4 l0 true 1),f 3 v4,u (.st l0 l1 1 [])] [(1,4),(1,6)]
def Ua:C:= K.yH
def nO:Fn:= { aD:=1,vars:=[0,1,2,3,4,5,49,50],body:=(q [w 1 (.bx v0 3),w 2 (.al [z0,z0,z0,.nil] []),x 3 (.i 0)] [] (.seq (.ite [f 1 v1,g l0,u (.bin .neq l0 (.i 9))] [] 0 (q [u (.bd [z0,z0,z0,.nil] []),u (.st v2 l0 4 []),x 3 (.i 5)] [] .ret) .skip) (.seq (.ite [f 0 v1,g l0,u (.ca N.bc 0 [] [.l 0,.i 0,.i 31]),u (.un .not l0)] [] 0 (q [u (.bd [z0,z0,z0,.nil] []),u (.st v2 l0 4 []),x 3 (.i 40)] [] .ret) .skip) (.seq (.ite [f 2 v1,g l0,u (.ln l0),u (.bin .lss l0 (.i 9)),m l0,y 0 false (.fa v1 2),i 1 false l0,y 2 false (.ln l0),y 3 false (.fa v1 2),i 4 false l0,y 5 false (.ia l0 (.i 8) 1),i 6 false l0,y 7 false (.cv .i64 l0),y 8 false (.bin .mul (.i 2) l0),y 9 false (.bin .add (.i 9) l0),y 10 false (.bin .neq l7 l0),u (.pk l11 (.b true) l0)] [] 0 (q [u (.bd [z0,z0,z0,.nil] []),u (.st v2 l0 4 []),x 3 (.i 6)] [] .ret) .skip) (q [w 4 (.al [z0,z0,z0,.nil] [(3,1)]),f 0 v1,g l0,f 2 v1,g l0,u (.sc l0 none (some (.i 2)) 1),u (.ca N.gH 0 [] [.l 0]),u (.cv .i64 l0),f 2 v1,g l0,u (.sc l0 (some (.i 2)) (some (.i 8)) 1),u (.ca N.gH 0 [] [.l 0]),u (.cv .i64 l0),u (.bd [z0,z0,z0,.nil] [(0,1,.l 10),(1,1,.l 5),(2,1,.l 0)]),u (.st (.l 13) l0 4 [(3,1)])] [(0,7),(0,12),(2,7),(2,12),(9,1),(10,1)] (.seq (q [f 2 v1,g l0,u (.sc l0 (some (.i 9)) none 1),w 6 (.ca N.cj 0 [] [.l 0,.i 2])] [] (.blk 0 K.yH)) (.seq (.ite [h 4 v4,u (.ca N.iH 0 [] [.l 0]),u (.un .not l0)] [] 0 (q [u (.bd [z0,z0,z0,.nil] []),u (.st v2 l0 4 []),x 3 (.i 6)] [] .ret) .skip) (q [h 4 v4,u (.st v2 l0 4 []),x 3 (.i 0)] [] .ret)))))))),res:=[(2,some (4,true)),(3,none)]}
def iH:Fn:= { aD:=1,vars:=[0,1,2],body:=(q [w 1 (.bx v0 4),x 2 (.b false)] [] (q [f 0 v1,g l0,u (.ca N.bc 0 [] [.l 0,.i 0,.i 31]),m l0,y 0 true (.fa v1 1),i 1 true l0,y 2 true (.ca N.bc 0 [] [.l 0,.i 0,.i 65535]),u (.pk l3 l0 (.b false)),m l0,y 0 true (.fa v1 2),i 1 true l0,y 2 true (.ca N.bc 0 [] [.l 0,.i 0,.i 2147483648]),u (.pk l3 l0 (.b false)),m l0,y 0 true (.fa v1 3),i 1 true l0,y 2 true (.ln l0),y 3 true (.bin .leq l0 (.i 20)),u (.pk l4 l0 (.b false)),m l0,y 0 true (.fa v1 3),i 1 true l0,y 2 true (.ca N.bM 0 [] [.l 0,.i 1,.i 65535]),u (.pk l3 l0 (.b false)),x 2 l0] [] .ret)),res:=[(2,none)]}
def dt:Fn:= { aD:=1,vars:=[0,2],body:=(q [x 1 (.b false)] [] (q [m v0,u (.ca N.bc 0 [] [.l 0,.i (-1),.i 65535]),u (.un .not l0),x 1 l0] [] .ret)),res:=[(1,none)]}
def du:Fn:= { aD:=1,vars:=[0,2],body:=(q [x 1 (.b false)] [] (q [m v0,u (.ca N.bc 0 [] [.l 0,.i 0,.i 2147483648]),u (.un .not l0),x 1 l0] [] .ret)),res:=[(1,none)]}
def jv:Fn:= { aD:=1,vars:=[0,1,2],body:=(q [w 1 (.bx v0 2),w 2 (.al [.nil,.nil] [])] [] (q [f 0 v1,g l0,u (.app (.c (.nil)) l0 true 1),f 1 v1,g l0,u (.app (.c (.nil)) l0 true 1),u (.bd [.nil,.nil] [(0,1,.l 3),(1,1,.l 0)]),u (.st v2 l0 2 [])] [(4,0)] .ret)),res:=[(2,some (2,true))]}
def Fu:C:= (.seq (.ite [m v4,u (.bin .geq l0 (.i 0))] [] 0 .skip (.exit 0)) (.seq (.blk 1 (.reg [m v0,m v1,m v4,u (.bin .mul (.i 8) l0),u (.cv .u64 l0),u (.bin .shr l3 l0),u (.cv .u8 l0),u (.bs [.l 0] 1),u (.app l7 l0 true 1),x 0 l0] [])) (.reg [m v4,u (.bin .sub l0 (.i 1)),x 4 l0] [])))
def HB:C:= .loop false [2,3] K.Fu
def lg:Fn:= { aD:=3,vars:=[0,1,2,6,7],body:=(q [w 3 (.mv (.c (.nil)))] [] (.seq (q [m v2,u (.bin .sub l0 (.i 1)),x 4 l0] [] (.blk 0 K.HB)) (q [m v0,x 3 l0] [] .ret))),res:=[(3,none)]}
def AY:C:= (.its [u (.bin .lss v6 v5)] [] 0 .skip (.exit 0) (.seq (.blk 1 (q [a 1 v4 v6,g l0,x 3 l0] [] (.reg [m v2,u (.bin .shl l0 (.c (.t (.int .u64 (8))))),m v3,u (.cv .u64 l0),u (.bin .or l2 l0),x 2 l0] []))) (.reg [u (.bin .add v6 (.i 1)),x 6 l0] [])))
def CB:C:= .loop true [0,1,3] K.AY
def gH:Fn:= { aD:=1,vars:=[0,2,3,5,6,7,8],body:=(q [w 1 (.mv (.c (.t (.int .u64 (0)))))] [] (q [w 2 (.mv (.c (.t (.int .u64 (0)))))] [] (.seq (q [x 4 v0,w 5 (.ln l0),x 6 (.i 0)] [] (.blk 0 K.CB)) (q [m v2,x 1 l0] [] .ret)))),res:=[(1,none)]}
def cj:Fn:= { aD:=2,vars:=[0,1,2,3,4],body:=(q [w 2 (.bx v0 1),w 3 (.bx v1 1),w 4 (.mv (.c (.und)))] [] (.seq (.ite [g v3,u (.bin .lss l0 (.i 1))] [] 0 .fail .skip) (q [u (.mf N.bF [.v 2,.v 3]),x 4 l0] [] .ret))),res:=[(4,none)]}
end Go.Ev.K
namespace Go.Ev
class j7 [Lib]:Prop where
 sV:Lib.fs N.ja=some K.ja
 mN:Lib.fs N.cL=some K.cL
 uW:Lib.fs N.j3=some K.j3
 qi:Lib.fs N.eV=some K.eV
 CC:Lib.fs N.nN=some K.nN
 AH:Lib.fs N.ma=some K.ma
 uX:Lib.fs N.gO=some K.gO
 CD:Lib.fs N.nO=some K.nO
 AI:Lib.fs N.iH=some K.iH
 oz:Lib.fs N.dt=some K.dt
 oA:Lib.fs N.du=some K.du
 uY:Lib.fs N.jv=some K.jv
 CE:Lib.fs N.lg=some K.lg
 wP:Lib.fs N.gH=some K.gH
 mc:Lib.fs N.cj=some K.cj
namespace K
variable [Lib] [j7]
theorem sV:Lib.fs N.ja=some K.ja:=j7.sV
theorem mN:Lib.fs N.cL=some K.cL:=j7.mN
theorem uW:Lib.fs N.j3=some K.j3:=j7.uW
theorem qi:Lib.fs N.eV=some K.eV:=j7.qi
theorem CC:Lib.fs N.nN=some K.nN:=j7.CC
theorem AH:Lib.fs N.ma=some K.ma:=j7.AH
theorem uX:Lib.fs N.gO=some K.gO:=j7.uX
theorem CD:Lib.fs N.nO=some K.nO:=j7.CD
theorem AI:Lib.fs N.iH=some K.iH:=j7.AI
theorem oz:Lib.fs N.dt=some K.dt:=j7.oz
theorem oA:Lib.fs N.du=some K.du:=j7.oA
theorem uY:Lib.fs N.jv=some K.jv:=j7.uY
theorem CE:Lib.fs N.lg=some K.lg:=j7.CE
theorem wP:Lib.fs N.gH=some K.gH:=j7.wP
theorem mc:Lib.fs N.cj=some K.cj:=j7.mc
end K
end Go.Ev
namespace Go.Ev.K
open Go.Ev
def bF:Fn:= { aD:=3,vars:=[],body:= .fail,res:=[]}
end Go.Ev.K
namespace Go.Ev
class pI [Lib]:Prop where
 kM:Lib.fs N.bF=some K.bF
namespace K
variable [Lib] [pI]
theorem kM:Lib.fs N.bF=some K.bF:=pI.kM
end K
end Go.Ev
namespace Go.Ev
open Go
variable [Lib] [bO] [bL] [dL] [dm] [dg] [dn] [eR] [dF] [eS] [j7] [pI]
abbrev tB(l:List Int):T:= .sl (l.map (T.int .u8))
structure Rpt where
 reader:Int
 number:Int
 time:Int
 tags:List Int
abbrev Rpt.e(r:Rpt):T:= .agg [tI r.reader,tI r.number,tI r.time,tL r.tags]
structure Frm where
 addr:Int
 kind:Int
 data:List Int
abbrev Frm.e(f:Frm):T:= .agg [tI f.addr,tI f.kind,tB f.data]
structure Itk where
 last:List Int
 lost:List Int
abbrev Itk.e(x:Itk):T:= .agg [tL x.last,tL x.lost]
@[go_sem] theorem X4 (l : List Int) : bV 1 (l.map (T.int .u8)) = true := fF 1 _ (fun _ => rfl) l
@[go_sem] theorem agM (l : List Int) : nH 1 (l.map (T.int .u8)) = true := by cases l <;> rfl
def ak2(r:Rpt):Bool:=decide (0≤r.reader∧r.reader≤31)&&(decide (0≤r.number∧r.number≤65535)&&(decide (0≤r.time∧r.time≤2147483648)&&(decide (r.tags.length≤20)&&Hd r.tags 1 65535)))
structure Rpt.ok(r:Rpt):Prop where
 r1:0≤r.reader
 r2:r.reader≤31
 n1:0≤r.number
 n2:r.number≤65535
 t1:0≤r.time
 t2:r.time≤2147483648
 l:r.tags.length≤20
 g1:∀x∈r.tags,1≤x
 g2:∀x∈r.tags,x≤65535
def txt(l:List Int):ByteArray:=⟨(l.map fun n=>UInt8.ofNat n.toNat).toArray⟩
def X5(H:aq)(a:D):Option (D×aq):=(Gb a).map fun d=>(d,H)
@[go_sem] theorem ak3 (call : aX) (get : X → Option D) (H : aq) (x : X) : evO call get H (.bst x) = (get x).bind (X5 H) := (rfl)
theorem HC:∀l:List Int,cK byteOf (l.map (T.int .u8))=some (l.map fun n=>UInt8.ofNat n.toNat)
 | []=>rfl
 | x::l=>by simp only[List.map_cons,cK,byteOf,HC l,aLq,aLw]
@[go_sem] theorem agN (H : aq) (l : List Int) : X5 H (.t (.sl (l.map (T.int .u8)))) = some (.t (.str (txt l)), H) := by
 simp only[X5,Gb,HC,aLw,txt]
@[go_sem] theorem aeb (H : aq) (a b : ByteArray) : r9 H .str false (some (.t (.str a))) (some (.t (.str b))) = some (.t (.bool (a == b)), H) := (rfl)
def Lq(a b:Rpt):Bool:=decide (a.reader=b.reader)&&(decide (a.number=b.number)&&(decide (a.time=b.time)&&decide (a.tags=b.tags)))
theorem PI(a b:Rpt)(hl:a.tags.length≤1000000):aL 0 N.gO [.t a.e,.t b.e] []=some (B (Lq a b),[]):=by
 refine aj K.uX rfl ?_
 have s:=kt a.tags b.tags (by omega)
 obtain⟨a1,a2,a3,a4⟩:=a
 obtain⟨b1,b2,b3,b4⟩:=b
 simp only[Lq]at*
 by_cases c1:a1=b1
 · by_cases c2:a2=b2
   · by_cases c3:a3=b3
     · simp(disch:=omega)only[go_sem,K.gO,↓reduceIte,c1,c2,c3,s,decide_true,Bool.true_and,reduceAdd,reduceSub]
     · simp(disch:=omega)only[go_sem,K.gO,↓reduceIte,c1,c2,c3,decide_true,decide_false,Bool.true_and,Bool.false_and,reduceAdd,reduceSub]
   · simp(disch:=omega)only[go_sem,K.gO,↓reduceIte,c1,c2,decide_true,decide_false,Bool.true_and,Bool.false_and,reduceAdd,reduceSub]
 · simp(disch:=omega)only[go_sem,K.gO,↓reduceIte,c1,decide_false,Bool.false_and,reduceAdd,reduceSub]
abbrev z4:List D:=[I 0,I 0,I 0,.nil]
structure RI(L:List Int)(t:Int)(j:Nat):Prop where
 l:L.length=j
 t0:0≤t
 t9:t≤3*j
 b:∀x∈L,1≤x∧x≤t
 r:Hd L 1 65535=true
theorem RI.nil:RI [] 0 0:=⟨rfl,by omega,by omega,fun x hx=>(by cases hx),rfl⟩
structure PJ(r:Rpt)(t:Int):Prop where
 r0:0≤r.reader
 r3:r.reader<3
 n0:0≤r.number
 n20:r.number<20
 t:r.time=t
 l:r.tags.length≤3
 r:Hd r.tags 1 65535=true
theorem PJ.ok{r:Rpt}{t:Int}(h:PJ r t)(h0:0≤t)(h1:t≤2147483648):ak2 r=true:=by
 have:=h.t
 have:=h.r0
 have:=h.r3
 have:=h.n0
 have:=h.n20
 have:=h.l
 unfold ak2
 rw[h.r,decide_eq_true (show 0≤r.reader∧r.reader≤31 by omega),decide_eq_true (show 0≤r.number∧r.number≤65535 by omega),decide_eq_true (show 0≤r.time∧r.time≤2147483648 by omega),decide_eq_true (show r.tags.length≤20 by omega)]
 rfl
def SD:Itk:=⟨List.replicate 32 (-1),List.replicate 32 0⟩
theorem HD(n:Nat)(v:Int):(List.replicate n v).map (T.int .i64)=List.replicate n (T.int .i64 v):=List.map_replicate
theorem JX:aL 0 N.j3 [] []=some (.t SD.e,[]):=by
 refine aj K.uW rfl ?_
 have rp:aL 1 N.bj [.t (.sl [.int .i64 (-1)]),I 32] []=_:=Cd (-1) 32 (by omega) (by omega)
 have r2:(List.replicate 32 (0:Int)).map (T.int .i64)=List.replicate 32 (T.int .i64 0):=HD 32 0
 have r3:List.replicate 32 (I (-1))=((List.replicate 32 (-1:Int)).map (T.int .i64)).map .t:=by rw[HD,List.map_replicate]
 rw[r3]at rp
 have l1:(List.replicate 32 (-1:Int)).length=32:=List.length_replicate
 unfold SD
 simp only[Itk.e,tL,r2]
 generalize List.replicate 32 (-1:Int)=q at*
 simp(disch:=omega)only[go_sem,K.j3,↓reduceIte,rp,l1,reduceAdd,reduceSub]
 rfl
theorem JY:aL 0 N.ja [] []=some (.t SD.e,[]):=by
 refine aj K.sV rfl ?_
 have lp:exS aL K.wO ⟨[.bp 0 0,.bp 1 0,I 0],[.box [.nil,.nil],.box [.ref 2 0 0,.ref 3 0 0],Fb (List.replicate 0 (-1)),Fb (List.replicate 0 0)]⟩=
  some (.exit 0,⟨[.bp 0 0,.bp 1 0,I 32],[.box [.nil,.nil],.box [.ref 2 0 32,.ref 3 0 32],Fb (List.replicate 32 (-1)),Fb (List.replicate 32 0)]⟩):=by
  refine bH (fun j=>⟨[.bp 0 0,.bp 1 0,I j],[.box [.nil,.nil],.box [.ref 2 0 j,.ref 3 0 j],Fb (List.replicate j (-1)),Fb (List.replicate j 0)]⟩) 32 rfl ?_ ?_ (by simp)
  · intro j hj
    have s1:List.replicate (j+1) (-1:Int)=List.replicate j (-1)++[-1]:=List.replicate_succ'
    have s2:List.replicate (j+1) (0:Int)=List.replicate j 0++[0]:=List.replicate_succ'
    have l1:(List.replicate j (-1:Int)).length=j:=List.length_replicate
    have l2:(List.replicate j (0:Int)).length=j:=List.length_replicate
    rw[s1,s2]
    generalize List.replicate j (-1:Int)=a at*
    generalize List.replicate j (0:Int)=b at*
    simp only[Fb]at*
    simp(disch:=omega)only[go_sem,K.pH,↓reduceIte,l1,l2,List.map_append,List.map_cons,List.map_nil,reduceAdd,reduceSub]
  · generalize List.replicate 32 (-1:Int)=a at*
    generalize List.replicate 32 (0:Int)=b at*
    simp only[Fb]at*
    simp(disch:=omega)only[go_sem,K.pH,↓reduceIte,reduceAdd,reduceSub]
    rfl
 have l1:(List.replicate 32 (-1:Int)).length=32:=List.length_replicate
 have l2:(List.replicate 32 (0:Int)).length=32:=List.length_replicate
 unfold SD
 simp only[Itk.e,tL]at*
 rw[show List.replicate 0 (-1:Int)=[]from rfl,show List.replicate 0 (0:Int)=[]from rfl]at lp
 generalize List.replicate 32 (-1:Int)=a at*
 generalize List.replicate 32 (0:Int)=b at*
 simp only[Fb,List.map_nil]at*
 simp(disch:=omega)only[go_sem,K.ja,↓reduceIte,lp,l1,l2,reduceAdd,reduceSub]
structure Itk.ok(x:Itk):Prop where
 a:x.last.length=32
 b:x.lost.length=32
 c:∀n∈x.last, -1≤n∧n≤65535
 d:∀n∈x.lost,0≤n∧n≤2147483648
theorem MF(x:Itk)(h1:x.last.length≤1000000)(h2:x.lost.length≤1000000):aL 0 N.cL [.t x.e,.t x.e] []=some (B true,[]):=by
 refine aj K.mN rfl ?_
 have s1:=kt x.last x.last (by omega)
 have s2:=kt x.lost x.lost (by omega)
 simp only[decide_true]at s1 s2
 obtain⟨last,lost⟩:=x
 simp only at*
 simp(disch:=omega)only[go_sem,K.cL,↓reduceIte,s1,s2,reduceAdd,reduceSub]
end Go.Ev
namespace Go.Ev
open Go
variable [Lib] [bO] [bL] [dL] [dm] [hU] [dg] [dn] [eR] [dF] [bY] [b7] [dw] [dk] [fM] [fp] [pt] [px] [pU]
abbrev Edge.e(e:Edge):T:= .agg [tI e.r,tI e.a,tI e.b,tI e.t]
abbrev Lab.e(x:Lab):T:= .agg [tI x.t,tI x.r]
def uB(sf bd:List Bool)(e:Edge):Bool:= !(nth sf e.a)&& !(nth bd e.b)
def ajC(F:Int)(sf:List Bool)(n j:Nat):List Lab:=(List.range n).map fun p=>if decide (p<j)&& !(nth sf p)then⟨F,0⟩else⟨0,0⟩
abbrev ak4:Int:=1152921504606846976
def aec(E:List Edge)(sf bd:List Bool)(n:Nat):List Lab:=adR ak4 (uB sf bd) E (ajC ak4 sf n n)
abbrev ajD(sf:List Bool)(p:Nat):Bool:=nth sf p
def al0(E:List Edge)(sf bd:List Bool)(n p:Nat):List Edge:=adS (ajD sf) (uB sf bd) E (aec E sf bd n) (nth (aec E sf bd n) p).r.toNat p
def ajE(l:List Bool)(xs:List Int):Nat→List Bool
 | 0=>l
 | j+1=>(ajE l xs j).set (nth xs j).toNat true
def ajF(m:bq):List Bool:=m.aa.map Place.surf
def sfL(m:bq)(e:Esc):List Bool:=ajE (ajF m) e.safe e.safe.length
def bdL(m:bq)(e:Esc):List Bool:=ajE (List.replicate m.aa.length false) e.bad e.bad.length
def ajG(m:bq)(e:Esc)(k:Nat):List Edge:=
 if(k:Int)∈e.shut then []else
  (if 0≤Sr m k false then [⟨k,(nth m.roads k).frm.toNat,(nth m.roads k).to.toNat,Sr m k false⟩]else [])++
  (if 0≤Sr m k true then [⟨k,(nth m.roads k).to.toNat,(nth m.roads k).frm.toNat,Sr m k true⟩]else [])
def Ub(m:bq)(e:Esc):Nat→List Edge
 | 0=>[]
 | j+1=>Ub m e j++ajG m e j
def aed(m:bq)(e:Esc):List Edge:=Ub m e m.roads.length
end Go.Ev
namespace Go.Ev
open Go
section
variable [Lib]
def X6(H:aq)(zero:T)(sz:Nat)(x:D):Option (D×aq):=Ga H x zero sz
@[go_sem] theorem ak5 (call : aX) (get : X → Option D) (H : aq) (x : X) (zero : T) (sz : Nat) : evO call get H (.clr x zero sz) = (get x).bind (X6 H zero sz) := (rfl)
@[go_sem] theorem ajH (H : aq) (zero : T) (sz ep n lo hi : Nat) (es : List D) (h1 : n = es.length) (h2 : lo ≤ hi) (h3 : hi ≤ n) : X6 (.arr sz false ep es :: H) zero sz (.sub 0 ep n lo hi) =
 some (.tup [],.arr sz false ep (es.take lo++List.replicate (hi-lo) (.t zero)++es.drop hi)::H):=by
 have a:iI (.arr sz false ep es::H) 0 ep n=some (sz,false,es):=by
  show(if ep=ep∧n=es.length then some (sz,false,es)else none)=_
  rw[if_pos ⟨rfl,h1⟩]
 simp only[X6,Ga,a,aLq,Yl]
 by_cases h:hi-lo=0
 · rw[if_pos h,h]
   have:hi=lo:=by omega
   subst this
   simp
 · rw[if_neg h,if_pos (by simp)]
   have:lo+(hi-lo)=hi:=by omega
   rw[this]
   rfl
def X7(H:aq)(x hi:Option D):Option (D×aq):=x.bind fun a=>(hi.bind intOf).bind fun h=>aaD H a h
@[go_sem] theorem ak6 (call : aX) (get : X → Option D) (H : aq) (x hi : X) : evO call get H (.pop x hi) = X7 H (get x) (get hi) := (rfl)
@[go_sem] theorem ajI (H : aq) (k : IntKind) (sz ep n : Nat) (i : Int) (es : List D) (h1 : n = es.length) (h2 : 0 ≤ i) (h3 : i ≤ n) : X7 (.arr sz false ep es :: H) (some (.ref 0 ep n)) (some (.t (.int k i))) =
 some (.ref 0 (ep+1) i.toNat,.arr sz false (ep+1) (es.take i.toNat)::H):=by
 have a:iI (.arr sz false ep es::H) 0 ep n=some (sz,false,es):=by
  show(if ep=ep∧n=es.length then some (sz,false,es)else none)=_
  rw[if_pos ⟨rfl,h1⟩]
 have b:intOf (.t (.int k i))=some i:=rfl
 have c:idx i=some i.toNat:=by unfold idx;rw[if_pos h2]
 simp only[X7,aLq,b,aaD,a,c]
 rw[if_pos ⟨by omega,trivial⟩]
 rfl
end
variable [Lib] [bO] [bL] [dL] [dm] [hU] [dg] [dn] [eR] [dF] [bY] [b7] [dw] [dk] [fM] [fp] [pt] [px] [pU]
def ajJ(l:List Int)(e:Edge):Bool:= !decide ((e.r:Int)∈l)
def al1(l:List Int)(E:List Edge):List Edge:=E.filter (ajJ l)
end Go.Ev
namespace Go.Ev
open Go
variable [Lib] [bO] [bL] [dL] [dm] [hU] [dg] [dn] [eR] [dF] [bY] [b7] [dw] [dk] [fM] [fp] [pt] [px] [pU]
abbrev al2(P:List Edge):List Int:=P.map fun e=>(e.r:Int)
def w1E(m:bq)(e:Esc)(p:Nat):List Edge:=al0 (aed m e) (sfL m e) (bdL m e) m.aa.length p
def st2(m:bq)(e:Esc)(p:Nat):List Edge:=al1 (al2 (w1E m e p)) (aed m e)
theorem SE(m:bq)(hp:m.aa.length≤1000000)(hr:m.roads.length≤1000000):aL 0 N.cB [.t m.e,.t m.e] []=some (B true,[]):=by
 refine aj K.lz rfl ?_
 have l1:∀z0 z1 z4 z6:D,exS aL K.nq ⟨[z0,z1,.bp 0 0,.bp 1 0,z4,I 0,z6],[.box (ae m),.box (ae m)]⟩=
  some (.exit 0,⟨[.und,.und,.bp 0 0,.bp 1 0,.und,I m.aa.length,.und],[.box (ae m),.box (ae m)]⟩):=by
  intro z0 z1 z4 z6
  refine bH (fun j=>⟨[.und,.und,.bp 0 0,.bp 1 0,.und,I j,.und],[.box (ae m),.box (ae m)]⟩) m.aa.length rfl ?_ ?_ (by simp)
  · intro j hj
    have ex:(m.aa.map Place.e)[j]?=some (nth m.aa j).e:=bE _ hj
    generalize nth m.aa j=x at*
    obtain⟨h,s⟩:=x
    obtain⟨aa,roads⟩:=m
    simp only[ae]at*
    simp(disch:=omega)only[go_sem,K.iT,↓reduceIte,ex,decide_true,Bool.and_self,Bool.not_true,reduceAdd,reduceSub]
  · obtain⟨aa,roads⟩:=m
    simp only[ae]at*
    simp(disch:=omega)only[go_sem,K.iT,↓reduceIte,reduceAdd,reduceSub]
 have l2:∀z0 z1 z4 z5:D,exS aL K.ns ⟨[z0,z1,.bp 0 0,.bp 1 0,z4,z5,I 0],[.box (ae m),.box (ae m)]⟩=
  some (.exit 2,⟨[.und,.und,.bp 0 0,.bp 1 0,.und,.und,I m.roads.length],[.box (ae m),.box (ae m)]⟩):=by
  intro z0 z1 z4 z5
  refine bH (fun j=>⟨[.und,.und,.bp 0 0,.bp 1 0,.und,.und,I j],[.box (ae m),.box (ae m)]⟩) m.roads.length rfl ?_ ?_ (by simp)
  · intro j hj
    have ex:(m.roads.map Road.e)[j]?=some (nth m.roads j).e:=bE _ hj
    generalize nth m.roads j=x at*
    obtain⟨frm,to,len,ar,walk,closed,rl,rh,ll,lh⟩:=x
    obtain⟨aa,roads⟩:=m
    simp only[ae]at*
    simp(disch:=omega)only[go_sem,K.iU,↓reduceIte,ex,decide_true,Bool.and_self,Bool.not_true,reduceAdd,reduceSub]
  · obtain⟨aa,roads⟩:=m
    simp only[ae]at*
    simp(disch:=omega)only[go_sem,K.iU,↓reduceIte,reduceAdd,reduceSub]
 obtain⟨aa,roads⟩:=m
 simp only[ae]at*
 simp(disch:=omega)only[go_sem,K.cB,↓reduceIte,l1,l2,reduceAdd,reduceSub]
end Go.Ev
namespace Go.Ev.N
def PL:Nat:=472
def Qz:Nat:=473
def PM:Nat:=474
end Go.Ev.N
namespace Go.Ev.N
def PN:Nat:=475
def MG:Nat:=476
def MH:Nat:=477
def JZ:Nat:=478
def X8:Nat:=479
def X9:Nat:=480
def Uc:Nat:=481
def SF:Nat:=482
def Ya:Nat:=483
def Ud:Nat:=484
def Ue:Nat:=485
def Uf:Nat:=486
def aaz:Nat:=487
def Yb:Nat:=488
def Lr:Nat:=489
def Yc:Nat:=490
def Ug:Nat:=491
def QA:Nat:=492
def Uh:Nat:=493
def Nt:Nat:=494
def Yd:Nat:=495
def aaA:Nat:=496
def aaB:Nat:=497
def J0:Nat:=498
def tG:Nat:=499
def QB:Nat:=500
def QC:Nat:=501
def vI:Nat:=502
def IH:Nat:=503
end Go.Ev.N
namespace Go.Ev.N
def Nu:Nat:=504
def Ye:Nat:=505
def Yf:Nat:=506
def aaC:Nat:=507
end Go.Ev.N
namespace Go.Ev.N
def bn:Nat:=508
def jb:Nat:=509
def aQ:Nat:=510
def eJ:Nat:=511
def gQ:Nat:=512
def cW:Nat:=513
def qj:Nat:=514
def cJ:Nat:=515
def de:Nat:=516
def cM:Nat:=517
def bQ:Nat:=518
def jy:Nat:=519
def eK:Nat:=520
def eW:Nat:=521
def dX:Nat:=522
def nQ:Nat:=523
def jz:Nat:=524
def aM:Nat:=525
def fS:Nat:=526
def dP:Nat:=527
def aU:Nat:=528
def me:Nat:=529
def nS:Nat:=530
def fT:Nat:=531
def eL:Nat:=532
def j4:Nat:=533
def eh:Nat:=534
def ei:Nat:=535
def eo:Nat:=536
def et:Nat:=537
def eu:Nat:=538
def ew:Nat:=539
def dI:Nat:=540
def fB:Nat:=541
def dJ:Nat:=542
def dK:Nat:=543
def ez:Nat:=544
def eB:Nat:=545
def eC:Nat:=546
def jF:Nat:=547
def fC:Nat:=548
def eX:Nat:=549
def eM:Nat:=550
def gI:Nat:=551
def eY:Nat:=552
def eZ:Nat:=553
def dv:Nat:=554
def fe:Nat:=555
def fU:Nat:=556
def aN:Nat:=557
def cN:Nat:=558
def cO:Nat:=559
def eb:Nat:=560
def aV:Nat:=561
end Go.Ev.N
namespace Go.Ev.K
open Go.Ev
def bn:Fn:= { aD:=2,vars:=[0,1,4,5,6,7,8,9,10,39],body:=(q [x 2 (.b false)] [] (.seq (.ite [m v0,u (.ca N.jT 0 [] [.l 0]),u (.un .not l0)] [] 0 (q [u (.ca N.jb 0 [] []),x 2 l0] [] .ret) .skip) (q [m v0,u (.ca N.kW 0 [] [.l 0]),x 3 l0] [] (q [m v3,u (.ca N.aQ 0 [] [.l 0]),w 4 (.al [.nil,.nil,.nil,.nil,.nil,.nil,.nil,.nil,.nil,z0,.nil,z0,z0,.nil] []),u (.st l0 l1 14 [])] [] (q [h 14 v4,u (.ca N.eJ 0 [] [.l 0]),m l0,u (.ex l0 0),u (.ex l1 1),u (.ex l2 2),u (.ex l3 3),w 5 (.al [.nil,.nil,z0,.nil,.nil,.nil,.nil,.nil,.nil,.nil,.nil,.nil,.nil,.nil,.nil,z0,.nil,z0,z0,.nil,.nil,.nil,.nil,.nil,z0,.nil,.nil,.nil,z1,z0,z0,z0,z0,.nil,.nil,.nil] []),w 7 (.al [.nil,.nil,z0,.nil,.nil,.nil,.nil,.nil,.nil,.nil,.nil,.nil,.nil,.nil,.nil,z0,.nil,z0,z0,.nil,.nil,.nil,.nil,.nil,z0,.nil,.nil,.nil,z1,z0,z0,z0,z0,.nil,.nil,.nil] []),u (.st l1 l5 36 []),x 6 l5,u (.st l2 l5 36 []),x 8 l5] [] (.seq (.ite [m v6,u (.bin .neq l0 (.i 0)),m l0,e 0 false v8,y 1 false (.bin .neq l0 (.i 0)),u (.pk l2 (.b true) l0),m l0,y 0 false (.ld v5 36 true),y 1 false (.ld v7 36 true),y 2 false (.ca N.gQ 0 [] [.l 1,.l 0]),y 3 false (.un .not l0),u (.pk l4 (.b true) l0)] [] 0 (q [x 2 (.b false)] [] .ret) .skip) (.seq (q [m v3,w 9 (.ca N.aR 0 [] [.l 0,.i 9])] [] (.blk 0 (.ite [u (.bin .eql v9 (.i 0)),m l0] [] 0 (.reg [f 0 v4,f 0 l0,g l0,u (.sc l0 none (some (.i 1)) 2),f 0 v4,f 0 l0,u (.st l0 l2 1 [])] []) (.ite [u (.bin .eql v9 (.i 1)),m l0] [] 0 (.reg [m v1,u (.bsr [.l 0] 1),f 3 v4,g l0,u (.app l2 l0 true 1),f 3 v4,u (.st l0 l1 1 [])] []) (.ite [u (.bin .eql v9 (.i 2)),m l0] [] 0 (q [f 4 v4,g l0,u (.app (.c (.nil)) l0 true 1),f 4 v4,u (.st l0 l1 1 [])] [] (.reg [f 4 v4,g l0,m v1,a 1 l1 (.i 0),u (.st l0 l1 1 [])] [])) (.ite [u (.bin .eql v9 (.i 3)),m l0] [] 0 (.reg [m v1,m v1,u (.bd [z0,z0] [(0,1,.l 1),(1,1,.l 0)]),u (.bsr [.l 0] 2),f 5 v4,g l0,u (.sc l0 (some (.i 1)) none 2),u (.app l3 l0 true 2),f 5 v4,u (.st l0 l1 1 [])] []) (.ite [u (.bin .eql v9 (.i 4)),m l0] [] 0 (.reg [m v1,u (.bs [.l 0] 1),f 6 v4,f 0 l0,u (.st l0 l2 1 [])] []) (.ite [u (.bin .eql v9 (.i 5)),m l0] [] 0 (.reg [m v1,f 10 v4,f 1 l0,u (.st l0 l2 1 [])] []) (.ite [u (.bin .eql v9 (.i 6)),m l0] [] 0 (.reg [m v1,u (.ca N.ka 0 [] [.l 0,.i 70]),u (.bs [.l 0] 1),f 10 v4,f 0 l0,u (.st l0 l2 1 [])] []) (.ite [u (.bin .eql v9 (.i 7)),m l0] [] 0 (.reg [m v1,u (.bs [.l 0] 1),f 13 v4,u (.st l0 l1 1 [])] []) (.reg [m v1,f 0 v4,f 1 l0,g l0,u (.ln l0),u (.ca N.ka 0 [] [.l 4,.l 0]),u (.bsr [.l 0] 1),f 13 v4,g l0,u (.app l2 l0 true 1),f 13 v4,u (.st l0 l1 1 [])] [(8,0),(8,6)]))))))))))) (q [h 14 v4,u (.ca N.eJ 0 [] [.l 0]),m l0,u (.ex l0 0),u (.ex l1 1),u (.ex l2 2),u (.ex l3 3),u (.st v5 l3 36 []),x 6 l3,u (.st v7 l3 36 []),x 8 l3] [] (q [u (.ca N.jb 0 [] []),m l0,e 0 true v6,e 1 true v8,y 2 true (.bin .eql l1 l0),u (.pk l3 l0 (.b false)),m l0,y 0 true (.ld v5 36 true),y 1 true (.ld v7 36 true),y 2 true (.ca N.gQ 0 [] [.l 1,.l 0]),u (.pk l3 l0 (.b false)),x 2 l0] [] .ret))))))))),res:=[(2,none)]}
def jb:Fn:= { aD:=0,vars:=[0,1,2,3,4,5],body:=(q [x 0 (.b false)] [] (q [u (.bd [z0,z1] [(1,1,.b true)]),u (.bd [z0,z1] []),u (.bs [.l 1,.l 0] 2),u (.bd [z0,z0] [(0,1,.i 1),(1,1,.i 1)]),u (.bd [z0,z0,z0,z0,z1,z1,z0,z0,z0,z0] [(1,1,.i 1),(2,1,.i 12),(3,1,.i 1),(4,1,.b true),(6,2,.l 0)]),u (.bs [.l 0] 10),u (.bd [.nil,.nil] [(0,1,.l 3),(1,1,.l 0)]),w 1 (.al [.nil,.nil] []),u (.st l0 l1 2 [])] [] (q [h 2 v1,u (.bs [.i 1] 1),u (.bd [.nil,z0,z0,z0] [(0,1,.l 0),(1,1,.i 10)]),u (.bs [.l 0] 4),u (.bs [.i 0] 1),u (.bs [.i 9] 1),u (.bd [z0,z0] []),u (.bs [.l 0] 2),u (.bd [.nil,.nil,.nil,z0] [(3,1,.i 900)]),u (.bs [.i 1] 1),u (.bd [.nil,z0,z0] [(0,1,.l 0),(1,1,.i 9),(2,1,.i 9)]),u (.bs [.i 0] 1),u (.ca N.cW 0 [] [.l 11,.l 8,.l 7,.l 6,.l 4,.l 3,.l 1,.l 0]),m l0,u (.ex l0 0),u (.ex l1 1),w 2 (.al [.nil,.nil,z0,.nil,.nil,.nil,.nil,.nil,.nil,.nil,.nil,.nil,.nil,.nil,.nil,z0,.nil,z0,z0,.nil,.nil,.nil,.nil,.nil,z0,.nil,.nil,.nil,z1,z0,z0,z0,z0,.nil,.nil,.nil] []),u (.st l0 l2 36 []),x 3 l2] [] (q [u (.bd [z0,z0,z0,z0] [(0,1,.i 2)]),u (.bd [z0,z0,z0,z0] [(0,1,.i 1),(1,1,.i 10)]),u (.bd [z0,z0,z0,z0] [(0,1,.i 3)]),u (.bd [z0,z0,z0,z0] [(0,1,.i 4)]),u (.bd [z0,z0,z0,z0] [(0,1,.i 4)]),u (.bs [.l 4,.l 3,.l 2,.l 1,.l 0] 4),x 4 l0] [] (q [h 36 v2,m v4,u (.ca N.qj 0 [] [.l 1,.l 0]),w 5 (.al [.nil,.nil,z0,.nil,.nil,.nil,.nil,.nil,.nil,.nil,.nil,.nil,.nil,.nil,.nil,z0,.nil,z0,z0,.nil,.nil,.nil,.nil,.nil,z0,.nil,.nil,.nil,z1,z0,z0,z0,z0,.nil,.nil,.nil] []),u (.st l0 l1 36 [])] [] (q [m v3,u (.bin .eql l0 (.i 0)),m l0,y 0 true (.fa v5 35),i 1 true l0,y 2 true (.ln l0),y 3 true (.bin .eql l0 (.i 5)),u (.pk l4 l0 (.b false)),m l0,y 0 true (.fa v5 35),i 1 true l0,y 2 true (.ia l0 (.i 3) 7),y 3 true (.fa l0 5),i 4 true l0,y 5 true (.bin .eql l0 (.i 0)),u (.pk l6 l0 (.b false)),m l0,y 0 true (.fa v5 35),i 1 true l0,y 2 true (.ia l0 (.i 4) 7),y 3 true (.fa l0 5),i 4 true l0,y 5 true (.bin .eql l0 (.i 42)),u (.pk l6 l0 (.b false)),m l0,y 0 true (.fa v5 20),i 1 true l0,y 2 true (.ln l0),y 3 true (.bin .eql l0 (.i 1)),u (.pk l4 l0 (.b false)),m l0,y 0 true (.fa v5 0),y 1 true (.fa l0 2),i 2 true l0,y 3 true (.bin .eql l0 (.i 10)),u (.pk l4 l0 (.b false)),m l0,y 0 true (.fa v5 23),y 1 true (.fa l0 0),i 2 true l0,y 3 true (.ln l0),y 4 true (.bin .eql l0 (.i 1)),u (.pk l5 l0 (.b false)),m l0,y 0 true (.fa v5 23),y 1 true (.fa l0 0),i 2 true l0,y 3 true (.ia l0 (.i 0) 2),y 4 true (.fa l0 1),i 5 true l0,y 6 true (.ln l0),y 7 true (.bin .eql l0 (.i 1)),u (.pk l8 l0 (.b false)),m l0,y 0 true (.fa v5 23),y 1 true (.fa l0 0),i 2 true l0,y 3 true (.ia l0 (.i 0) 2),y 4 true (.fa l0 1),i 5 true l0,y 6 true (.ia l0 (.i 0) 2),y 7 true (.fa l0 1),i 8 true l0,y 9 true (.ln l0),y 10 true (.bin .eql l0 (.i 2)),u (.pk l11 l0 (.b false)),m l0,y 0 true (.fa v5 23),y 1 true (.fa l0 0),i 2 true l0,y 3 true (.ia l0 (.i 0) 2),y 4 true (.fa l0 1),i 5 true l0,y 6 true (.ia l0 (.i 0) 2),y 7 true (.fa l0 1),i 8 true l0,y 9 true (.ia l0 (.i 0) 1),i 10 true l0,y 11 true (.bin .eql l0 (.i 20)),u (.pk (.l 12) l0 (.b false)),x 0 l0] [] .ret)))))),res:=[(0,none)]}
def lI:C:= (.seq (.ite [m v4,u (.bin .gtr l0 (.i 0))] [] 0 .skip (.exit 0)) (.seq (.blk 1 (.reg [f 3 v2,g l0,m v0,m v3,u (.ca N.aR 0 [] [.l 1,.l 0]),u (.bs [.l 0] 1),u (.app l4 l0 true 1),f 4 v2,g l0,m v4,u (.bin .mul (.i 7) l0),u (.bin .sub (.i 30) l0),u (.bs [.l 0] 1),u (.app l4 l0 true 1),f 3 v2,u (.st l0 l8 1 []),f 4 v2,u (.st l0 l3 1 [])] [(1,5),(5,5),(8,0),(8,5),(12,0),(12,5)])) (.reg [m v4,u (.bin .sub l0 (.i 1)),x 4 l0] [])))
def mO:C:= .loop true [] K.lI
def aQ:Fn:= { aD:=1,vars:=[0,2,3,4,5],body:=(q [w 1 (.al [.nil,.nil,.nil,.nil,.nil,.nil,.nil,.nil,.nil,z0,.nil,z0,z0,.nil] [])] [] (q [m v0,u (.ca N.df 0 [] [.l 0]),u (.bd [.nil,.nil,.nil,.nil,.nil,.nil,.nil,.nil,.nil,z0,.nil,z0,z0,.nil] [(0,2,.l 0)]),w 2 (.al [.nil,.nil,.nil,.nil,.nil,.nil,.nil,.nil,.nil,z0,.nil,z0,z0,.nil] [(3,1),(4,1)]),u (.st l0 l1 14 [(3,1),(4,1)])] [] (q [f 0 v2,f 0 l0,g l0,u (.ln l0),x 3 l0] [] (q [m v0,f 0 v2,h 2 l0,u (.ca N.bZ 0 [] [.l 2,.l 0]),f 2 v2,u (.st l0 l1 1 [])] [] (.seq (q [m v0,u (.ca N.aR 0 [] [.l 0,.i 3]),u (.bin .add (.i 1) l0),x 4 l0] [] (.blk 0 K.mO)) (q [m v0,f 0 v2,h 2 l0,u (.ca N.cX 0 [] [.l 2,.l 0]),f 5 v2,u (.st l0 l1 1 [])] [] (q [m v0,u (.bs [.i 600,.i 100,.i 2000] 1),u (.ca N.bI 0 [] [.l 1,.l 0]),u (.bd [.nil,.nil,.nil,z0] [(3,1,.l 0)]),f 6 v2,u (.st l0 l1 4 [])] [] (.seq (.ite [m v0,u (.ca N.cm 0 [] [.l 0,.i 3])] [] 0 (.reg [m v0,m v3,u (.ca N.aR 0 [] [.l 1,.l 0]),u (.bs [.l 0] 1),f 6 v2,f 0 l0,u (.st l0 l2 1 [])] []) .skip) (q [m v3,u (.bin .sub l0 (.i 1)),u (.bs [.l 0] 1),m v0,u (.bs [.i 299,.i 4] 1),u (.ca N.bI 0 [] [.l 1,.l 0]),u (.bin .add (.i 1) l0),m v0,u (.bs [.i 99,.i 1799] 1),u (.ca N.bI 0 [] [.l 1,.l 0]),u (.bin .add (.i 1) l0),u (.bd [.nil,z0,z0] [(0,1,.l 8),(1,1,.l 4),(2,1,.l 0)]),f 10 v2,u (.st l0 l1 3 [])] [] (.seq (.ite [m v3,u (.bin .gtr l0 (.i 2)),m l0,e 0 true v0,y 1 true (.ca N.cm 0 [] [.l 0,.i 3]),u (.pk l2 l0 (.b false))] [] 0 (.reg [m v3,u (.bin .sub l0 (.i 2)),m v3,u (.bin .sub l0 (.i 1)),u (.bs [.l 2,.l 0] 1),f 10 v2,f 0 l0,u (.st l0 l2 1 [])] []) .skip) (q [f 0 v2,h 2 l0,f 10 v2,f 0 l0,g l0,u (.ca N.gD 0 [] [.l 3,.l 0]),f 13 v2,u (.st l0 l1 1 [])] [] (.seq (.ite [f 13 v2,g l0,u (.ln l0),u (.bin .eql l0 (.i 0)),m l0,e 0 false v0,y 1 false (.ca N.cm 0 [] [.l 0,.i 8]),u (.pk l2 (.b true) l0)] [] 0 (.reg [m v0,f 0 v2,f 1 l0,g l0,u (.ln l0),u (.ca N.aR 0 [] [.l 4,.l 0]),u (.bs [.l 0] 1),f 13 v2,u (.st l0 l1 1 [])] []) .skip) (q [h 14 v2,u (.st v1 l0 14 [])] [] .ret))))))))))))),res:=[(1,some (14,true))]}
def eJ:Fn:= { aD:=1,vars:=[0,1,2,3,4,5,6,7,8,9],body:=(q [w 1 (.bx v0 14),w 2 (.al [.nil,.nil,z0,.nil,.nil,.nil,.nil,.nil,.nil,.nil,.nil,.nil,.nil,.nil,.nil,z0,.nil,z0,z0,.nil,.nil,.nil,.nil,.nil,z0,.nil,.nil,.nil,z1,z0,z0,z0,z0,.nil,.nil,.nil] []),x 3 (.i 0),w 4 (.al [.nil,.nil,z0,.nil,.nil,.nil,.nil,.nil,.nil,.nil,.nil,.nil,.nil,.nil,.nil,z0,.nil,z0,z0,.nil,.nil,.nil,.nil,.nil,z0,.nil,.nil,.nil,z1,z0,z0,z0,z0,.nil,.nil,.nil] []),x 5 (.i 0)] [] (q [f 0 v1,h 2 l0,f 2 v1,g l0,f 3 v1,g l0,f 4 v1,g l0,f 5 v1,g l0,f 6 v1,h 4 l0,f 10 v1,h 3 l0,f 13 v1,g l0,u (.ca N.cW 0 [] [.l 14,.l 12,.l 10,.l 8,.l 6,.l 4,.l 2,.l 0]),m l0,u (.ex l0 0),u (.ex l1 1),w 6 (.al [.nil,.nil,z0,.nil,.nil,.nil,.nil,.nil,.nil,.nil,.nil,.nil,.nil,.nil,.nil,z0,.nil,z0,z0,.nil,.nil,.nil,.nil,.nil,z0,.nil,.nil,.nil,z1,z0,z0,z0,z0,.nil,.nil,.nil] []),u (.st l0 l2 36 []),x 7 l2] [] (q [f 0 v1,h 2 l0,f 2 v1,g l0,f 3 v1,g l0,f 4 v1,g l0,f 5 v1,g l0,f 6 v1,h 4 l0,f 10 v1,h 3 l0,f 13 v1,g l0,u (.ca N.cJ 0 [] [.l 14,.l 12,.l 10,.l 8,.l 6,.l 4,.l 2,.l 0]),m l0,u (.ex l0 0),u (.ex l1 1),w 8 (.al [.nil,.nil,z0,.nil,.nil,.nil,.nil,.nil,.nil,.nil,.nil,.nil,.nil,.nil,.nil,z0,.nil,z0,z0,.nil,.nil,.nil,.nil,.nil,z0,.nil,.nil,.nil,z1,z0,z0,z0,z0,.nil,.nil,.nil] []),u (.st l0 l2 36 []),x 9 l2] [] (q [h 36 v6,m v7,h 36 v8,m v9,u (.st v2 l3 36 []),x 3 l3,u (.st v4 l3 36 []),x 5 l3] [(2,5)] .ret)))),res:=[(2,some (36,true)),(3,none),(4,some (36,true)),(5,none)]}
def gQ:Fn:= { aD:=2,vars:=[0,1,2,3,4],body:=(q [w 2 (.bx v0 36),w 3 (.bx v1 36),x 4 (.b false)] [] (q [f 0 v2,h 9 l0,f 0 v3,h 9 l0,u (.ca N.jt 0 [] [.l 2,.l 0]),m l0,y 0 true (.fa v2 9),y 1 true (.ld l0 2 true),y 2 true (.fa v3 9),y 3 true (.ld l0 2 true),y 4 true (.ca N.cB 0 [] [.l 2,.l 0]),u (.pk l5 l0 (.b false)),m l0,y 0 true (.fa v2 11),i 1 true l0,y 2 true (.fa v3 11),i 3 true l0,y 4 true (.ca N.de 0 [] [.l 2,.l 0]),u (.pk l5 l0 (.b false)),m l0,y 0 true (.fa v2 12),y 1 true (.ld l0 4 true),y 2 true (.fa v3 12),y 3 true (.ld l0 4 true),y 4 true (.ca N.cM 0 [] [.l 2,.l 0]),u (.pk l5 l0 (.b false)),m l0,y 0 true (.fa v2 16),y 1 true (.fa l0 0),i 2 true l0,y 3 true (.fa v3 16),y 4 true (.fa l0 0),i 5 true l0,y 6 true (.ca N.aS 0 [] [.l 3,.l 0]),u (.pk l7 l0 (.b false)),m l0,y 0 true (.fa v2 16),y 1 true (.fa l0 1),i 2 true l0,y 3 true (.fa v3 16),y 4 true (.fa l0 1),i 5 true l0,y 6 true (.bin .eql l3 l0),u (.pk l7 l0 (.b false)),m l0,y 0 true (.fa v2 16),y 1 true (.fa l0 2),i 2 true l0,y 3 true (.fa v3 16),y 4 true (.fa l0 2),i 5 true l0,y 6 true (.bin .eql l3 l0),u (.pk l7 l0 (.b false)),m l0,y 0 true (.fa v2 19),i 1 true l0,y 2 true (.fa v3 19),i 3 true l0,y 4 true (.ca N.bQ 0 [] [.l 2,.l 0]),u (.pk l5 l0 (.b false)),m l0,y 0 true (.fa v2 20),i 1 true l0,y 2 true (.fa v3 20),i 3 true l0,y 4 true (.ca N.bQ 0 [] [.l 2,.l 0]),u (.pk l5 l0 (.b false)),m l0,y 0 true (.fa v2 21),y 1 true (.ld l0 2 true),y 2 true (.fa v3 21),y 3 true (.ld l0 2 true),y 4 true (.ca N.cL 0 [] [.l 2,.l 0]),u (.pk l5 l0 (.b false)),m l0,y 0 true (.fa v2 23),y 1 true (.ld l0 1 true),y 2 true (.fa v3 23),y 3 true (.ld l0 1 true),y 4 true (.ca N.gM 0 [] [.l 2,.l 0]),u (.pk l5 l0 (.b false)),m l0,y 0 true (.fa v2 33),y 1 true (.ld l0 1 true),y 2 true (.fa v3 33),y 3 true (.ld l0 1 true),y 4 true (.ca N.gM 0 [] [.l 2,.l 0]),u (.pk l5 l0 (.b false)),m l0,y 0 true (.fa v2 24),y 1 true (.ld l0 2 true),y 2 true (.fa v3 24),y 3 true (.ld l0 2 true),y 4 true (.ca N.jm 0 [] [.l 2,.l 0]),u (.pk l5 l0 (.b false)),m l0,y 0 true (.fa v2 26),y 1 true (.ld l0 3 true),y 2 true (.fa v3 26),y 3 true (.ld l0 3 true),y 4 true (.ca N.jr 0 [] [.l 2,.l 0]),u (.pk l5 l0 (.b false)),m l0,y 0 true (.fa v2 29),y 1 true (.ld l0 4 true),y 2 true (.fa v3 29),y 3 true (.ld l0 4 true),y 4 true (.eqk (.ints 4) false l2 l0),u (.pk l5 l0 (.b false)),m l0,y 0 true (.fa v2 34),i 1 true l0,y 2 true (.fa v3 34),i 3 true l0,y 4 true (.ca N.jy 0 [] [.l 2,.l 0]),u (.pk l5 l0 (.b false)),m l0,y 0 true (.fa v2 35),i 1 true l0,y 2 true (.fa v3 35),i 3 true l0,y 4 true (.ca N.eK 0 [] [.l 2,.l 0]),u (.pk l5 l0 (.b false)),x 4 l0] [] .ret)),res:=[(4,none)]}
def cW:Fn:= { aD:=8,vars:=[0,1,2,3,4,5,6,7,8,13,14,16,17,18,19,21,22,23,24],body:=(q [w 8 (.bx v0 2),w 9 (.bx v5 4),w 10 (.bx v6 3),w 11 (.al [.nil,.nil,z0,.nil,.nil,.nil,.nil,.nil,.nil,.nil,.nil,.nil,.nil,.nil,.nil,z0,.nil,z0,z0,.nil,.nil,.nil,.nil,.nil,z0,.nil,.nil,.nil,z1,z0,z0,z0,z0,.nil,.nil,.nil] []),x 12 (.i 0)] [] (q [h 2 v8,m v1,m v2,m v3,u (.ca N.cQ 0 [] [.l 3,.l 2,.l 1,.l 0,.i 0]),m l0,u (.ex l0 0),u (.ex l1 1),w 13 (.al [.nil,.nil,z0,.nil,.nil,.nil,.nil,.nil,.nil] []),u (.st l0 l2 9 []),x 14 l2] [] (.seq (.ite [m v14,u (.bin .neq l0 (.i 0))] [] 0 (q [u (.bd [.nil,.nil,z0,.nil,.nil,.nil,.nil,.nil,.nil,.nil,.nil,.nil,.nil,.nil,.nil,z0,.nil,z0,z0,.nil,.nil,.nil,.nil,.nil,z0,.nil,.nil,.nil,z1,z0,z0,z0,z0,.nil,.nil,.nil] []),m v14,u (.st v11 l1 36 []),x 12 l1] [] .ret) .skip) (.seq (q [h 2 v8,m v4,u (.ca N.fk 0 [] [.l 1,.l 0,.c (.nil),.i 0]),m l0,u (.ex l0 0),u (.ex l1 1),u (.al [z0,.nil] []),u (.st l0 l2 2 []),x 15 l2] [] (.ite [m v15,u (.bin .neq l0 (.i 0)),m l0,y 0 false (.ld v8 2 true),y 1 false (.ld v9 4 true),y 2 false (.ca N.gP 0 [] [.l 1,.l 0]),y 3 false (.un .not l0),u (.pk l4 (.b true) l0),m l0,y 0 false (.ld v10 3 true),y 1 false (.bd [z0,z0,z0,z0] []),y 2 false (.ca N.bS 0 [] [.l 1,.l 0]),y 3 false (.un .not l0),u (.pk l4 (.b true) l0),m l0,y 0 false (.fa v10 0),i 1 false l0,y 2 false (.fa v10 0),i 3 false l0,y 4 false (.ln l0),y 5 false (.bin .sub l0 (.i 1)),y 6 false (.ia l4 l0 1),i 7 false l0,y 8 false (.fa v8 0),i 9 false l0,y 10 false (.ln l0),y 11 false (.bin .geq l3 l0),u (.pk (.l 12) (.b true) l0)] [] 0 (q [u (.bd [.nil,.nil,z0,.nil,.nil,.nil,.nil,.nil,.nil,.nil,.nil,.nil,.nil,.nil,.nil,z0,.nil,z0,z0,.nil,.nil,.nil,.nil,.nil,z0,.nil,.nil,.nil,z1,z0,z0,z0,z0,.nil,.nil,.nil] []),u (.st v11 l0 36 []),x 12 (.i 6)] [] .ret) .skip)) (.seq (.ite [m v7,u (.mf N.eW [.v 8]),u (.ca N.ax 0 [] [.l 1,.l 0])] [] 0 (q [u (.bd [.nil,.nil,z0,.nil,.nil,.nil,.nil,.nil,.nil,.nil,.nil,.nil,.nil,.nil,.nil,z0,.nil,z0,z0,.nil,.nil,.nil,.nil,.nil,z0,.nil,.nil,.nil,z1,z0,z0,z0,z0,.nil,.nil,.nil] []),u (.st v11 l0 36 []),x 12 (.i 4)] [] .ret) .skip) (q [m v7,u (.ca N.jq 0 [] [.l 0]),m l0,u (.ex l0 0),u (.ex l1 1),w 16 (.al [.nil,.nil,z1] []),u (.st l0 l2 3 []),x 14 l2] [] (.seq (.ite [m v14,u (.bin .neq l0 (.i 0))] [] 0 (q [u (.bd [.nil,.nil,z0,.nil,.nil,.nil,.nil,.nil,.nil,.nil,.nil,.nil,.nil,.nil,.nil,z0,.nil,z0,z0,.nil,.nil,.nil,.nil,.nil,z0,.nil,.nil,.nil,z1,z0,z0,z0,z0,.nil,.nil,.nil] []),m v14,u (.st v11 l1 36 []),x 12 l1] [] .ret) .skip) (q [h 2 v8,m v3,m v2,u (.ca N.eG 0 [] [.l 2,.l 1,.l 0,.i 0]),m l0,u (.ex l0 0),u (.ex l1 1),w 17 (.al [.nil] []),u (.st l0 l2 1 []),x 14 l2] [] (.seq (.ite [m v14,u (.bin .neq l0 (.i 0))] [] 0 (q [u (.bd [.nil,.nil,z0,.nil,.nil,.nil,.nil,.nil,.nil,.nil,.nil,.nil,.nil,.nil,.nil,z0,.nil,z0,z0,.nil,.nil,.nil,.nil,.nil,z0,.nil,.nil,.nil,z1,z0,z0,z0,z0,.nil,.nil,.nil] []),m v14,u (.st v11 l1 36 []),x 12 l1] [] .ret) .skip) (q [w 18 (.al [.nil,.nil,z0,.nil,.nil,.nil,.nil,.nil,.nil,.nil,.nil,.nil,.nil,.nil,.nil,z0,.nil,z0,z0,.nil,.nil,.nil,.nil,.nil,z0,.nil,.nil,.nil,z1,z0,z0,z0,z0,.nil,.nil,.nil] []),h 9 v13,h 2 v8,m v4,h 4 v9,h 3 v10,m v1,u (.ln l0),u (.mkt l0 (.agg [(.int .i64 (0)),(.int .i64 (0)),(.int .i64 (0)),(.sl [])]) 4),u (.ca N.j3 0 [] []),h 1 v17,h 3 v16,u (.bd [.nil,.nil,z0,.nil,.nil,.nil,.nil,.nil,.nil,.nil,.nil,.nil,.nil,.nil,.nil,z0,.nil,z0,z0,.nil,.nil,.nil,.nil,.nil,z0,.nil,.nil,.nil,z1,z0,z0,z0,z0,.nil,.nil,.nil] [(0,9,.l 10),(9,2,.l 9),(11,1,.l 8),(12,4,.l 7),(16,3,.l 6),(19,1,.l 3),(21,2,.l 2),(23,1,.l 1),(26,3,.l 0)]),u (.st (.l 12) l0 36 [])] [(0,10),(1,10),(2,10),(4,10),(5,10),(8,10),(10,1),(11,1)] (q [h 36 v18,u (.ca N.dX 0 [] [.l 0]),u (.st v11 l0 36 []),x 12 (.i 0)] [] .ret))))))))))),res:=[(11,some (36,true)),(12,none)]}
def HE:C:= (.its [u (.bin .lss v7 v6)] [] 0 .skip (.exit 0) (.seq (.blk 1 (q [a 4 v5 v7,h 4 l0,w 4 (.al [z0,z0,z0,z0] []),u (.st l0 l1 4 [])] [] (.reg [h 36 v2,h 4 v4,u (.ca N.nQ 0 [] [.l 1,.l 0]),m l0,u (.ex l0 0),u (.ex l1 1),u (.st v2 l1 36 [])] []))) (.reg [u (.bin .add v7 (.i 1)),x 7 l0] [])))
def J1:C:= .loop true [0,1,4] K.HE
def qj:Fn:= { aD:=2,vars:=[0,1,2,4,6,7,8,9],body:=(q [w 2 (.bx v0 36),w 3 (.al [.nil,.nil,z0,.nil,.nil,.nil,.nil,.nil,.nil,.nil,.nil,.nil,.nil,.nil,.nil,z0,.nil,z0,z0,.nil,.nil,.nil,.nil,.nil,z0,.nil,.nil,.nil,z1,z0,z0,z0,z0,.nil,.nil,.nil] [])] [] (.seq (q [x 5 v1,w 6 (.ln l0),x 7 (.i 0)] [] (.blk 0 K.J1)) (q [h 36 v2,u (.ca N.dX 0 [] [.l 0]),u (.st v3 l0 36 [])] [] .ret))),res:=[(3,some (36,true))]}
def jA:C:= (.seq (.ite [m v15,m v7,u (.ln l0),u (.bin .lss l2 l0)] [] 0 .skip (.exit 0)) (.seq (.blk 1 (.ite [m v7,m v15,a 1 l1 l0,g l0,u (.bin .lss l0 (.i 0)),m l0,e 0 false v7,e 1 false v15,y 2 false (.ia l1 l0 1),i 3 false l0,y 4 false (.fa v8 1),i 5 false l0,y 6 false (.ln l0),y 7 false (.bin .geq l3 l0),u (.pk l8 (.b true) l0)] [] 0 (q [u (.bd [.nil,.nil,z0,.nil,.nil,.nil,.nil,.nil,.nil,.nil,.nil,.nil,.nil,.nil,.nil,z0,.nil,z0,z0,.nil,.nil,.nil,.nil,.nil,z0,.nil,.nil,.nil,z1,z0,z0,z0,z0,.nil,.nil,.nil] []),u (.st v11 l0 36 []),x 12 (.i 4)] [] .ret) .skip)) (.reg [m v15,u (.bin .add l0 (.i 1)),x 15 l0] [])))
def wQ:C:= .loop true [0,5,6,12,14,16,17,18] K.jA
def cJ:Fn:= { aD:=8,vars:=[0,1,2,3,4,5,6,7,8,13,14,16,17,18,19,20,21,22,24],body:=(q [w 8 (.bx v0 2),w 9 (.bx v5 4),w 10 (.bx v6 3),w 11 (.al [.nil,.nil,z0,.nil,.nil,.nil,.nil,.nil,.nil,.nil,.nil,.nil,.nil,.nil,.nil,z0,.nil,z0,z0,.nil,.nil,.nil,.nil,.nil,z0,.nil,.nil,.nil,z1,z0,z0,z0,z0,.nil,.nil,.nil] []),x 12 (.i 0)] [] (q [h 2 v8,m v1,m v2,m v3,u (.ca N.cz 0 [] [.l 3,.l 2,.l 1,.l 0,.i 0]),m l0,u (.ex l0 0),u (.ex l1 1),w 13 (.al [.nil,.nil,z0,.nil,.nil,.nil,.nil,.nil,.nil] []),u (.st l0 l2 9 []),x 14 l2] [] (.seq (.ite [m v14,u (.bin .neq l0 (.i 0))] [] 0 (q [u (.bd [.nil,.nil,z0,.nil,.nil,.nil,.nil,.nil,.nil,.nil,.nil,.nil,.nil,.nil,.nil,z0,.nil,z0,z0,.nil,.nil,.nil,.nil,.nil,z0,.nil,.nil,.nil,z1,z0,z0,z0,z0,.nil,.nil,.nil] []),m v14,u (.st v11 l1 36 []),x 12 l1] [] .ret) .skip) (.seq (.ite [h 2 v8,m v4,u (.ca N.iY 0 [] [.l 1,.l 0]),u (.un .not l0),m l0,y 0 false (.ld v8 2 true),y 1 false (.ld v9 4 true),y 2 false (.ca N.dW 0 [] [.l 1,.l 0]),y 3 false (.un .not l0),u (.pk l4 (.b true) l0),m l0,y 0 false (.ld v10 3 true),y 1 false (.bd [z0,z0,z0,z0] []),y 2 false (.ca N.cY 0 [] [.l 1,.l 0]),y 3 false (.un .not l0),u (.pk l4 (.b true) l0),m l0,y 0 false (.fa v10 0),i 1 false l0,y 2 false (.fa v8 0),i 3 false l0,y 4 false (.ln l0),y 5 false (.ca N.gn 0 [] [.l 3,.l 0]),y 6 false (.un .not l0),u (.pk l7 (.b true) l0)] [] 0 (q [u (.bd [.nil,.nil,z0,.nil,.nil,.nil,.nil,.nil,.nil,.nil,.nil,.nil,.nil,.nil,.nil,z0,.nil,z0,z0,.nil,.nil,.nil,.nil,.nil,z0,.nil,.nil,.nil,z1,z0,z0,z0,z0,.nil,.nil,.nil] []),u (.st v11 l0 36 []),x 12 (.i 6)] [] .ret) .skip) (.seq (q [x 15 (.i 0)] [] (.blk 0 K.wQ)) (q [m v7,u (.ca N.gZ 0 [] [.l 0]),m l0,u (.ex l0 0),u (.ex l1 1),w 16 (.al [.nil,.nil,z1] []),u (.st l0 l2 3 []),x 14 l2] [] (.seq (.ite [m v14,u (.bin .neq l0 (.i 0))] [] 0 (q [u (.bd [.nil,.nil,z0,.nil,.nil,.nil,.nil,.nil,.nil,.nil,.nil,.nil,.nil,.nil,.nil,z0,.nil,z0,z0,.nil,.nil,.nil,.nil,.nil,z0,.nil,.nil,.nil,z1,z0,z0,z0,z0,.nil,.nil,.nil] []),m v14,u (.st v11 l1 36 []),x 12 l1] [] .ret) .skip) (q [h 2 v8,m v3,m v2,u (.ca N.eD 0 [] [.l 2,.l 1,.l 0,.i 0]),m l0,u (.ex l0 0),u (.ex l1 1),w 17 (.al [.nil] []),u (.st l0 l2 1 []),m l2] [] (q [w 18 (.al [.nil,.nil,z0,.nil,.nil,.nil,.nil,.nil,.nil,.nil,.nil,.nil,.nil,.nil,.nil,z0,.nil,z0,z0,.nil,.nil,.nil,.nil,.nil,z0,.nil,.nil,.nil,z1,z0,z0,z0,z0,.nil,.nil,.nil] []),h 9 v13,h 2 v8,m v4,h 4 v9,h 3 v10,m v1,u (.ln l0),u (.mkt l0 (.agg [(.int .i64 (0)),(.int .i64 (0)),(.int .i64 (0)),(.sl [])]) 4),u (.ca N.ja 0 [] []),h 1 v17,h 3 v16,u (.bd [.nil,.nil,z0,.nil,.nil,.nil,.nil,.nil,.nil,.nil,.nil,.nil,.nil,.nil,.nil,z0,.nil,z0,z0,.nil,.nil,.nil,.nil,.nil,z0,.nil,.nil,.nil,z1,z0,z0,z0,z0,.nil,.nil,.nil] [(0,9,.l 10),(9,2,.l 9),(11,1,.l 8),(12,4,.l 7),(16,3,.l 6),(19,1,.l 3),(21,2,.l 2),(23,1,.l 1),(26,3,.l 0)]),u (.st (.l 12) l0 36 [])] [(0,10),(1,10),(2,10),(4,10),(5,10),(8,10),(10,1),(11,1)] (q [h 36 v18,u (.ca N.jz 0 [] [.l 0]),u (.st v11 l0 36 []),x 12 (.i 0)] [] .ret)))))))))),res:=[(11,some (36,true)),(12,none)]}
def lJ:C:= (.seq (.ite [m v3,m v0,u (.ln l0),u (.bin .lss l2 l0)] [] 0 .skip (.exit 0)) (.seq (.blk 1 (.ite [m v0,m v3,a 2 l1 l0,h 2 l0,m v1,m v3,a 2 l1 l0,h 2 l0,u (.eqk (.ints 2) true l4 l0)] [] 0 (q [x 2 (.b false)] [] .ret) .skip)) (.reg [m v3,u (.bin .add l0 (.i 1)),x 3 l0] [])))
def qk:C:= .loop true [2] K.lJ
def de:Fn:= { aD:=2,vars:=[0,1,4,5],body:=(q [x 2 (.b false)] [] (.seq (.ite [m v0,u (.ln l0),m v1,u (.ln l0),u (.bin .neq l2 l0)] [] 0 (q [x 2 (.b false)] [] .ret) .skip) (.seq (q [x 3 (.i 0)] [] (.blk 0 K.qk)) (q [x 2 (.b true)] [] .ret)))),res:=[(2,none)]}
def cM:Fn:= { aD:=2,vars:=[0,1,2,3,4],body:=(q [w 2 (.bx v0 4),w 3 (.bx v1 4),x 4 (.b false)] [] (q [f 0 v2,g l0,f 0 v3,g l0,u (.ca N.aS 0 [] [.l 2,.l 0]),m l0,y 0 true (.fa v2 1),i 1 true l0,y 2 true (.fa v3 1),i 3 true l0,y 4 true (.ca N.aS 0 [] [.l 2,.l 0]),u (.pk l5 l0 (.b false)),m l0,y 0 true (.fa v2 2),i 1 true l0,y 2 true (.fa v3 2),i 3 true l0,y 4 true (.ca N.aS 0 [] [.l 2,.l 0]),u (.pk l5 l0 (.b false)),m l0,y 0 true (.fa v2 3),i 1 true l0,y 2 true (.fa v3 3),i 3 true l0,y 4 true (.bin .eql l2 l0),u (.pk l5 l0 (.b false)),x 4 l0] [] .ret)),res:=[(4,none)]}
def kE:C:= (.seq (.ite [m v3,m v0,u (.ln l0),u (.bin .lss l2 l0)] [] 0 .skip (.exit 0)) (.seq (.blk 1 (.ite [m v0,m v3,a 4 l1 l0,h 4 l0,m v1,m v3,a 4 l1 l0,h 4 l0,u (.ca N.gO 0 [] [.l 4,.l 0]),u (.un .not l0)] [] 0 (q [x 2 (.b false)] [] .ret) .skip)) (.reg [m v3,u (.bin .add l0 (.i 1)),x 3 l0] [])))
def oB:C:= .loop true [2] K.kE
def bQ:Fn:= { aD:=2,vars:=[0,1,4,5],body:=(q [x 2 (.b false)] [] (.seq (.ite [m v0,u (.ln l0),m v1,u (.ln l0),u (.bin .neq l2 l0)] [] 0 (q [x 2 (.b false)] [] .ret) .skip) (.seq (q [x 3 (.i 0)] [] (.blk 0 K.oB)) (q [x 2 (.b true)] [] .ret)))),res:=[(2,none)]}
def wR:C:= (.seq (.ite [m v3,m v0,u (.ln l0),u (.bin .lss l2 l0)] [] 0 .skip (.exit 0)) (.seq (.blk 1 (.ite [m v0,m v3,a 9 l1 l0,h 9 l0,m v1,m v3,a 9 l1 l0,h 9 l0,u (.eqk (.sc [true,true,true,true,true,false,false,true,true]) true l4 l0)] [] 0 (q [x 2 (.b false)] [] .ret) .skip)) (.reg [m v3,u (.bin .add l0 (.i 1)),x 3 l0] [])))
def yI:C:= .loop true [2] K.wR
def jy:Fn:= { aD:=2,vars:=[0,1,4,5],body:=(q [x 2 (.b false)] [] (.seq (.ite [m v0,u (.ln l0),m v1,u (.ln l0),u (.bin .neq l2 l0)] [] 0 (q [x 2 (.b false)] [] .ret) .skip) (.seq (q [x 3 (.i 0)] [] (.blk 0 K.yI)) (q [x 2 (.b true)] [] .ret)))),res:=[(2,none)]}
def rL:C:= (.seq (.ite [m v3,m v0,u (.ln l0),u (.bin .lss l2 l0)] [] 0 .skip (.exit 0)) (.seq (.blk 1 (.ite [m v0,m v3,a 7 l1 l0,f 0 l0,h 4 l0,m v1,m v3,a 7 l1 l0,f 0 l0,h 4 l0,u (.eqk (.ints 4) true l5 l0),m l0,e 0 false v0,e 1 false v3,y 2 false (.ia l1 l0 7),y 3 false (.fa l0 4),i 4 false l0,e 5 false v1,e 6 false v3,y 7 false (.ia l1 l0 7),y 8 false (.fa l0 4),i 9 false l0,y 10 false (.bin .neq l5 l0),u (.pk l11 (.b true) l0),m l0,e 0 false v0,e 1 false v3,y 2 false (.ia l1 l0 7),y 3 false (.fa l0 5),i 4 false l0,e 5 false v1,e 6 false v3,y 7 false (.ia l1 l0 7),y 8 false (.fa l0 5),i 9 false l0,y 10 false (.bin .neq l5 l0),u (.pk l11 (.b true) l0),m l0,e 0 false v0,e 1 false v3,y 2 false (.ia l1 l0 7),y 3 false (.fa l0 6),i 4 false l0,e 5 false v1,e 6 false v3,y 7 false (.ia l1 l0 7),y 8 false (.fa l0 6),i 9 false l0,y 10 false (.ca N.aS 0 [] [.l 5,.l 0]),y 11 false (.un .not l0),u (.pk (.l 12) (.b true) l0)] [] 0 (q [x 2 (.b false)] [] .ret) .skip)) (.reg [m v3,u (.bin .add l0 (.i 1)),x 3 l0] [])))
def td:C:= .loop true [2] K.rL
def eK:Fn:= { aD:=2,vars:=[0,1,4,5],body:=(q [x 2 (.b false)] [] (.seq (.ite [m v0,u (.ln l0),m v1,u (.ln l0),u (.bin .neq l2 l0)] [] 0 (q [x 2 (.b false)] [] .ret) .skip) (.seq (q [x 3 (.i 0)] [] (.blk 0 K.td)) (q [x 2 (.b true)] [] .ret)))),res:=[(2,none)]}
def eW:Fn:= { aD:=2,vars:=[0,1,3],body:=(q [x 2 (.b false)] [] (q [m v0,f 1 v1,g l0,u (.ln l0),u (.bin .sub l0 (.i 1)),u (.ca N.bc 0 [] [.l 4,.i 0,.l 0]),u (.un .not l0),x 2 l0] [] .ret)),res:=[(2,none)]}
def uZ:C:= (.its [u (.bin .lss v7 v6)] [] 0 .skip (.exit 0) (.seq (.blk 1 (q [a 7 v5 v7,h 7 l0,w 4 (.al [z0,z0,z0,z0,z0,z0,.nil] []),u (.st l0 l1 7 [])] [] (q [f 6 v4,g l0,u (.ca N.ai 0 [] [.l 0]),f 6 v4,u (.st l0 l1 1 [])] [] (.reg [f 35 v3,g l0,h 7 v4,u (.bs [.l 0] 7),u (.app l2 l0 true 7),f 35 v3,u (.st l0 l1 1 [])] [])))) (.reg [u (.bin .add v7 (.i 1)),x 7 l0] [])))
def wS:C:= .loop true [0,1,4] K.uZ
def dX:Fn:= { aD:=1,vars:=[0,1,2,3,5,102,103,104],body:=(q [w 1 (.bx v0 36),w 2 (.al [.nil,.nil,z0,.nil,.nil,.nil,.nil,.nil,.nil,.nil,.nil,.nil,.nil,.nil,.nil,z0,.nil,z0,z0,.nil,.nil,.nil,.nil,.nil,z0,.nil,.nil,.nil,z1,z0,z0,z0,z0,.nil,.nil,.nil] [])] [] (q [h 36 v1,w 3 (.al [.nil,.nil,z0,.nil,.nil,.nil,.nil,.nil,.nil,.nil,.nil,.nil,.nil,.nil,.nil,z0,.nil,z0,z0,.nil,.nil,.nil,.nil,.nil,z0,.nil,.nil,.nil,z1,z0,z0,z0,z0,.nil,.nil,.nil] [(35,7)]),u (.st l0 l1 36 [])] [] (q [f 0 v1,h 9 l0,u (.ca N.eQ 0 [] [.l 0,.i 0]),m l0,u (.ex l0 0),u (.ex l1 1),f 0 v3,u (.st l0 l2 9 [])] [] (q [f 9 v1,f 0 l0,g l0,u (.ca N.aA 0 [] [.l 0]),f 9 v1,f 1 l0,g l0,u (.ca N.aB 0 [] [.l 0]),u (.bd [.nil,.nil] [(0,1,.l 4),(1,1,.l 0)]),f 9 v3,u (.st l0 l1 2 [])] [(6,0)] (q [f 11 v1,g l0,u (.ca N.aM 0 [] [.l 0]),f 11 v3,u (.st l0 l1 1 [])] [] (q [f 12 v1,f 0 l0,g l0,u (.ca N.ai 0 [] [.l 0]),f 12 v1,f 1 l0,g l0,u (.ca N.ai 0 [] [.l 0]),f 12 v1,f 2 l0,g l0,u (.ca N.ai 0 [] [.l 0]),f 12 v3,f 0 l0,u (.st l0 l10 1 []),f 12 v3,f 1 l0,u (.st l0 l9 1 []),f 12 v3,f 2 l0,u (.st l0 l8 1 [])] [(6,0),(10,0),(10,4)] (q [f 16 v1,f 0 l0,g l0,u (.ca N.ai 0 [] [.l 0]),f 16 v3,f 0 l0,u (.st l0 l2 1 [])] [] (q [f 19 v1,g l0,u (.ca N.fS 1 [] [.l 0]),f 20 v1,g l0,u (.ca N.fS 1 [] [.l 0]),f 19 v3,u (.st l0 l4 1 []),f 20 v3,u (.st l0 l3 1 [])] [(4,0)] (q [f 21 v1,f 0 l0,g l0,u (.ca N.ai 0 [] [.l 0]),f 21 v1,f 1 l0,g l0,u (.ca N.ai 0 [] [.l 0]),u (.bd [.nil,.nil] [(0,1,.l 4),(1,1,.l 0)]),f 21 v3,u (.st l0 l1 2 [])] [(6,0)] (q [f 23 v1,h 1 l0,u (.ca N.dP 0 [] [.l 0]),f 33 v1,h 1 l0,u (.ca N.dP 0 [] [.l 0]),f 23 v3,u (.st l0 l4 1 []),f 33 v3,u (.st l0 l3 1 [])] [(4,0)] (q [f 24 v1,f 1 l0,g l0,u (.ca N.ai 0 [] [.l 0]),f 24 v3,f 1 l0,u (.st l0 l2 1 [])] [] (q [f 26 v1,f 0 l0,g l0,u (.ca N.ai 0 [] [.l 0]),f 26 v1,f 1 l0,g l0,u (.ca N.ai 0 [] [.l 0]),f 26 v3,f 0 l0,u (.st l0 l6 1 []),f 26 v3,f 1 l0,u (.st l0 l5 1 [])] [(6,0)] (q [f 34 v1,g l0,u (.ca N.aU 0 [] [.l 0]),f 34 v3,u (.st l0 l1 1 [])] [] (q [f 35 v3,u (.st l0 (.c (.nil)) 1 [(35,7)])] [] (.seq (q [f 35 v1,w 5 (.ld l0 1 false),w 6 (.ln l0),x 7 (.i 0)] [] (.blk 0 K.wS)) (q [h 36 v3,u (.st v2 l0 36 [])] [] .ret)))))))))))))))),res:=[(2,some (36,true))]}
def nQ:Fn:= { aD:=2,vars:=[0,1,2,3,4,5,6,7,8,9],body:=(q [w 2 (.bx v0 36),w 3 (.bx v1 4),w 4 (.al [.nil,.nil,z0,.nil,.nil,.nil,.nil,.nil,.nil,.nil,.nil,.nil,.nil,.nil,.nil,z0,.nil,z0,z0,.nil,.nil,.nil,.nil,.nil,z0,.nil,.nil,.nil,z1,z0,z0,z0,z0,.nil,.nil,.nil] []),x 5 (.i 0)] [] (.seq (.ite [f 35 v2,g l0,u (.ln l0),u (.bin .geq l0 (.i 200))] [] 0 (q [h 36 v2,u (.st v4 l0 36 []),x 5 (.i 2)] [] .ret) .skip) (.seq (.ite [h 36 v2,u (.ca N.me 0 [] [.l 0]),u (.un .not l0)] [] 0 (q [h 36 v2,u (.st v4 l0 36 []),x 5 (.i 6)] [] .ret) .skip) (q [h 36 v2,u (.ca N.dX 1 [] [.l 0]),u (.bd [.nil,.nil,z0,.nil,.nil,.nil,.nil,.nil,.nil,.nil,.nil,.nil,.nil,.nil,.nil,z0,.nil,z0,z0,.nil,.nil,.nil,.nil,.nil,z0,.nil,.nil,.nil,z1,z0,z0,z0,z0,.nil,.nil,.nil,.nil] [(0,36,.l 0)]),u (.bx l0 37),x 6 l0] [] (q [x 7 (.i 55)] [] (.seq (q [f 0 v3,g l0,u (.ca N.nS 0 [] [.l 0]),x 8 l0] [] (.ite [m v8,u (.fnz true l0)] [] 0 (.reg [m v8,m v6,h 4 v3,u (.cw l2 0 [] [.l 1,.l 0]),x 7 l0] []) .skip)) (q [m v6,u (.nc l0),f 0 l0,h 36 l0,w 9 (.al [.nil,.nil,z0,.nil,.nil,.nil,.nil,.nil,.nil,.nil,.nil,.nil,.nil,.nil,.nil,z0,.nil,z0,z0,.nil,.nil,.nil,.nil,.nil,z0,.nil,.nil,.nil,z1,z0,z0,z0,z0,.nil,.nil,.nil] [(35,7)]),u (.st l0 l1 36 [])] [] (.seq (.ite [m v7,u (.bin .neq l0 (.i 0))] [] 0 (q [h 36 v2,u (.ca N.dX 1 [] [.l 0]),u (.st v9 l0 36 [])] [] (.ite [m v7,u (.bin .eql l0 (.i 46))] [] 0 (.reg [m v6,u (.nc l0),f 0 l0,f 34 l0,g l0,f 34 v9,u (.st l0 l1 1 [])] []) .skip)) .skip) (q [f 35 v9,g l0,h 4 v3,f 0 v2,f 2 l0,g l0,m v7,m v6,u (.nc l0),f 36 l0,g l0,u (.bd [z0,z0,z0,z0,z0,z0,.nil] [(0,4,.l 8),(4,1,.l 5),(5,1,.l 4),(6,1,.l 0)]),u (.bs [.l 0] 7),u (.app l11 l0 true 7),f 35 v9,u (.st l0 l1 1 [])] [(1,13)] (q [h 36 v9,m v7,u (.st v4 l1 36 []),x 5 l1] [] .ret)))))))))),res:=[(4,some (36,true)),(5,none)]}
end Go.Ev.K
namespace Go.Ev
class ny [Lib]:Prop where
 mP:Lib.fs N.bn=some K.bn
 yJ:Lib.fs N.jb=some K.jb
 aZ:Lib.fs N.aQ=some K.aQ
 sW:Lib.fs N.eJ=some K.eJ
 u9:Lib.fs N.gQ=some K.gQ
 ql:Lib.fs N.cW=some K.cW
 Et:Lib.fs N.qj=some K.qj
 oO:Lib.fs N.cJ=some K.cJ
 nz:Lib.fs N.de=some K.de
 mQ:Lib.fs N.cM=some K.cM
 lK:Lib.fs N.bQ=some K.bQ
 vd:Lib.fs N.jy=some K.jy
 pJ:Lib.fs N.eK=some K.eK
 qT:Lib.fs N.eW=some K.eW
 sX:Lib.fs N.dX=some K.dX
 CF:Lib.fs N.nQ=some K.nQ
namespace K
variable [Lib] [ny]
theorem mP:Lib.fs N.bn=some K.bn:=ny.mP
theorem yJ:Lib.fs N.jb=some K.jb:=ny.yJ
theorem aZ:Lib.fs N.aQ=some K.aQ:=ny.aZ
theorem sW:Lib.fs N.eJ=some K.eJ:=ny.sW
theorem u9:Lib.fs N.gQ=some K.gQ:=ny.u9
theorem ql:Lib.fs N.cW=some K.cW:=ny.ql
theorem Et:Lib.fs N.qj=some K.qj:=ny.Et
theorem oO:Lib.fs N.cJ=some K.cJ:=ny.oO
theorem nz:Lib.fs N.de=some K.de:=ny.nz
theorem mQ:Lib.fs N.cM=some K.cM:=ny.mQ
theorem lK:Lib.fs N.bQ=some K.bQ:=ny.lK
theorem vd:Lib.fs N.jy=some K.jy:=ny.vd
theorem pJ:Lib.fs N.eK=some K.eK:=ny.pJ
theorem qT:Lib.fs N.eW=some K.eW:=ny.qT
theorem sX:Lib.fs N.dX=some K.dX:=ny.sX
theorem CF:Lib.fs N.nQ=some K.nQ:=ny.CF
end K
end Go.Ev
namespace Go.Ev.K
open Go.Ev
def wT:C:= (.seq (.ite [m v4,f 35 v1,g l0,u (.ln l0),u (.bin .lss l3 l0)] [] 0 .skip (.exit 0)) (.seq (.blk 1 (q [f 35 v1,g l0,m v4,a 7 l1 l0,h 7 l0,w 5 (.al [z0,z0,z0,z0,z0,z0,.nil] []),u (.st l0 l1 7 [])] [] (q [f 6 v5,g l0,u (.app (.c (.nil)) l0 true 1),f 6 v5,u (.st l0 l1 1 [])] [] (.reg [m v3,h 7 v5,u (.bs [.l 0] 7),u (.app l2 l0 true 7),x 3 l0] [])))) (.reg [m v4,u (.bin .add l0 (.i 1)),x 4 l0] [])))
def yK:C:= .loop true [0,5] K.wT
def jz:Fn:= { aD:=1,vars:=[0,1,2,3,4,5],body:=(q [w 1 (.bx v0 36),w 2 (.al [.nil,.nil,z0,.nil,.nil,.nil,.nil,.nil,.nil,.nil,.nil,.nil,.nil,.nil,.nil,z0,.nil,z0,z0,.nil,.nil,.nil,.nil,.nil,z0,.nil,.nil,.nil,z1,z0,z0,z0,z0,.nil,.nil,.nil] [])] [] (q [f 0 v1,h 9 l0,u (.ca N.iG 0 [] [.l 0]),f 9 v1,h 2 l0,u (.ca N.iE 0 [] [.l 0]),f 11 v1,g l0,u (.app (.c (.nil)) l0 true 2),f 0 v1,u (.st l0 l7 9 []),f 9 v1,u (.st l0 l6 2 []),f 11 v1,u (.st l0 l5 1 [])] [(4,0),(7,0),(7,3)] (q [f 12 v1,h 4 l0,u (.ca N.fT 0 [] [.l 0]),f 12 v1,u (.st l0 l1 4 [])] [] (q [f 16 v1,f 0 l0,g l0,u (.app (.c (.nil)) l0 true 1),f 16 v1,f 0 l0,u (.st l0 l2 1 [])] [] (q [f 19 v1,g l0,u (.ca N.eL 0 [] [.l 0]),f 20 v1,g l0,u (.ca N.eL 0 [] [.l 0]),f 19 v1,u (.st l0 l4 1 []),f 20 v1,u (.st l0 l3 1 [])] [(4,0)] (q [f 21 v1,h 2 l0,u (.ca N.jv 0 [] [.l 0]),f 23 v1,h 1 l0,u (.ca N.iC 0 [] [.l 0]),f 33 v1,h 1 l0,u (.ca N.iC 0 [] [.l 0]),f 21 v1,u (.st l0 l7 2 []),f 23 v1,u (.st l0 l6 1 []),f 33 v1,u (.st l0 l5 1 [])] [(4,0),(7,0),(7,3)] (q [f 24 v1,h 2 l0,u (.ca N.jU 0 [] [.l 0]),f 26 v1,h 3 l0,u (.ca N.jo 0 [] [.l 0]),f 34 v1,g l0,u (.ca N.j4 0 [] [.l 0]),f 24 v1,u (.st l0 l7 2 []),f 26 v1,u (.st l0 l6 3 []),f 34 v1,u (.st l0 l5 1 [])] [(4,0),(7,0),(7,3)] (q [w 3 (.nw 7)] [] (.seq (q [x 4 (.i 0)] [] (.blk 0 K.yK)) (q [m v3,f 35 v1,u (.st l0 l1 1 [])] [] (q [h 36 v1,u (.st v2 l0 36 [])] [] .ret))))))))))),res:=[(2,some (36,true))]}
def aM:Fn:= { aD:=1,vars:=[0,2],body:=(q [w 1 (.mv (.c (.nil)))] [] (.itk [m v0,u (.eqk (.sl) false l0 (.c (.nil)))] [] 0 (q [w 1 (.nw 2)] [] .ret) .skip (q [u (.bsr [] 2),m v0,u (.app l1 l0 false 2),x 1 l0] [] .ret))),res:=[(1,none)]}
def ou:C:= (.its [u (.bin .lss v6 v5)] [] 0 .skip (.exit 0) (.seq (.blk 1 (q [a 4 v4 v6,h 4 l0,w 3 (.al [z0,z0,z0,.nil] []),u (.st l0 l1 4 [])] [] (q [f 3 v3,g l0,u (.ca N.ai 0 [] [.l 0]),f 3 v3,u (.st l0 l1 1 [])] [] (.reg [m v2,h 4 v3,u (.bs [.l 0] 4),u (.app l2 l0 true 4),x 2 l0] [])))) (.reg [u (.bin .add v6 (.i 1)),x 6 l0] [])))
def ve:C:= .loop true [0,1,3] K.ou
def fS:Fn:= { aD:=1,vars:=[0,2,3,5,6,7,8],body:=(q [w 1 (.mv (.c (.nil)))] [] (q [w 2 (.nw 4)] [] (.seq (q [x 4 v0,w 5 (.ln l0),x 6 (.i 0)] [] (.blk 0 K.ve)) (q [m v2,x 1 l0] [] .ret)))),res:=[(1,none)]}
def nB:C:= (.its [u (.bin .lss v7 v6)] [] 0 .skip (.exit 0) (.seq (.blk 1 (q [a 2 v5 v7,h 2 l0,w 4 (.al [.nil,.nil] []),u (.st l0 l1 2 [])] [] (.reg [f 0 v3,g l0,h 2 v4,u (.ca N.i9 0 [] [.l 0]),u (.bs [.l 0] 2),u (.app l3 l0 true 2),f 0 v3,u (.st l0 l1 1 [])] [(1,4),(1,5)]))) (.reg [u (.bin .add v7 (.i 1)),x 7 l0] [])))
def te:C:= .loop true [0,1,4] K.nB
def dP:Fn:= { aD:=1,vars:=[0,1,2,3,5,7,8,9],body:=(q [w 1 (.bx v0 1),w 2 (.al [.nil] [])] [] (q [w 3 (.al [.nil] [(0,2)])] [] (.seq (q [f 0 v1,w 5 (.ld l0 1 false),w 6 (.ln l0),x 7 (.i 0)] [] (.blk 0 K.te)) (q [h 1 v3,u (.st v2 l0 1 [])] [] .ret)))),res:=[(2,some (1,true))]}
def aU:Fn:= { aD:=1,vars:=[0,2],body:=(q [w 1 (.mv (.c (.nil)))] [] (.itk [m v0,u (.eqk (.sl) false l0 (.c (.nil)))] [] 0 (q [w 1 (.nw 9)] [] .ret) .skip (q [u (.bsr [] 9),m v0,u (.app l1 l0 false 9),x 1 l0] [] .ret))),res:=[(1,none)]}
def me:Fn:= { aD:=1,vars:=[0,1,2],body:=(q [w 1 (.bx v0 36),x 2 (.b false)] [] (q [f 0 v1,h 9 l0,u (.ca N.fq 0 [] [.l 0]),m l0,y 0 true (.fa v1 9),y 1 true (.ld l0 2 true),y 2 true (.ca N.cy 0 [] [.l 0]),u (.pk l3 l0 (.b false)),m l0,y 0 true (.fa v1 19),i 1 true l0,y 2 true (.ln l0),y 3 true (.fa v1 0),y 4 true (.fa l0 5),i 5 true l0,y 6 true (.ln l0),y 7 true (.bin .eql l4 l0),u (.pk l8 l0 (.b false)),m l0,y 0 true (.fa v1 11),i 1 true l0,y 2 true (.ln l0),y 3 true (.fa v1 9),y 4 true (.fa l0 1),i 5 true l0,y 6 true (.ln l0),y 7 true (.bin .eql l4 l0),u (.pk l8 l0 (.b false)),m l0,y 0 true (.fa v1 23),y 1 true (.fa l0 0),i 2 true l0,y 3 true (.ln l0),y 4 true (.bin .gtr l0 (.i 0)),u (.pk l5 l0 (.b false)),m l0,y 0 true (.fa v1 26),y 1 true (.ld l0 3 true),y 2 true (.ca N.lS 0 [] [.l 0]),u (.pk l3 l0 (.b false)),x 2 l0] [] .ret)),res:=[(2,none)]}
def nS:Fn:= { aD:=1,vars:=[2],body:= .fail,res:=[(0,none)],prim:=[6,N.eh,N.ei,N.eo,N.et,N.eu,N.ew,N.dI,N.fB,N.dJ,N.dK,N.ez,N.eB,N.eC]}
def fT:Fn:= { aD:=1,vars:=[0,1,2],body:=(q [w 1 (.bx v0 4),w 2 (.al [.nil,.nil,.nil,z0] [])] [] (q [f 0 v1,g l0,u (.app (.c (.nil)) l0 true 1),f 1 v1,g l0,u (.app (.c (.nil)) l0 true 1),f 2 v1,g l0,u (.app (.c (.nil)) l0 true 1),f 0 v1,u (.st l0 l7 1 []),f 1 v1,u (.st l0 l6 1 []),f 2 v1,u (.st l0 l5 1 [])] [(4,0),(7,0),(7,3)] (q [h 4 v1,u (.st v2 l0 4 [])] [] .ret))),res:=[(2,some (4,true))]}
def nC:C:= (.seq (.ite [m v3,m v0,u (.ln l0),u (.bin .lss l2 l0)] [] 0 .skip (.exit 0)) (.seq (.blk 1 (q [m v0,m v3,a 4 l1 l0,h 4 l0,w 4 (.al [z0,z0,z0,.nil] []),u (.st l0 l1 4 [])] [] (q [f 3 v4,g l0,u (.app (.c (.nil)) l0 true 1),f 3 v4,u (.st l0 l1 1 [])] [] (.reg [m v2,h 4 v4,u (.bs [.l 0] 4),u (.app l2 l0 true 4),x 2 l0] [])))) (.reg [m v3,u (.bin .add l0 (.i 1)),x 3 l0] [])))
def tf:C:= .loop true [1,4] K.nC
def eL:Fn:= { aD:=1,vars:=[0,2,3,4,5],body:=(q [w 1 (.mv (.c (.nil)))] [] (q [w 2 (.nw 4)] [] (.seq (q [x 3 (.i 0)] [] (.blk 0 K.tf)) (q [m v2,x 1 l0] [] .ret)))),res:=[(1,none)]}
def j4:Fn:= { aD:=1,vars:=[0,2],body:=(q [w 1 (.mv (.c (.nil)))] [] (q [m v0,u (.app (.c (.nil)) l0 true 9),x 1 l0] [] .ret)),res:=[(1,none)]}
def eh:Fn:= { aD:=2,vars:=[0,1,3,4],body:=(q [w 2 (.bx v1 4),x 3 (.i 0)] [] (q [m v0,m v0,u (.nc l0),f 0 l0,f 0 l0,h 9 l0,f 1 v2,g l0,u (.ca N.eQ 0 [] [.l 2,.l 0]),m l0,u (.ex l0 0),u (.ex l1 1),u (.nc l11),f 0 l0,f 0 l0,u (.st l0 l4 9 []),x 3 l4] [] (q [m v3,x 3 l0] [] .ret))),res:=[(3,none)]}
def ei:Fn:= { aD:=2,vars:=[0,1,3,4],body:=(q [w 2 (.bx v1 4),x 3 (.i 0)] [] (.seq (.ite [m v0,u (.nc l0),f 0 l0,f 26 l0,h 3 l0,u (.ca N.kx 0 [] [.l 0]),f 2 v2,g l0,u (.ca N.aP 0 [] [.l 2,.l 0])] [(7,0)] 0 (q [x 3 (.i 47)] [] .ret) .skip) (q [m v0,m v0,u (.nc l0),f 0 l0,f 0 l0,h 9 l0,f 1 v2,g l0,f 2 v2,g l0,f 3 v2,g l0,u (.ca N.kC 0 [] [.l 6,.l 4,.l 2,.l 0]),m l0,u (.ex l0 0),u (.ex l1 1),u (.nc (.l 15)),f 0 l0,f 0 l0,u (.st l0 l4 9 []),x 3 l4] [] (q [m v3,x 3 l0] [] .ret)))),res:=[(3,none)]}
def eo:Fn:= { aD:=2,vars:=[0,1,3,4,5,6,7],body:=(q [w 2 (.bx v1 4),x 3 (.i 0)] [] (q [w 4 (.al [.nil,.nil,z0,.nil,.nil,.nil,.nil,.nil,.nil] []),w 5 (.al [z0,z0,z0,.nil] []),m v0,u (.nc l0),f 0 l0,f 0 l0,h 9 l0,f 1 v2,g l0,f 2 v2,g l0,f 3 v2,g l0,u (.ca N.lZ 0 [] [.l 6,.l 4,.l 2,.l 0]),m l0,u (.ex l0 0),u (.ex l1 1),u (.ex l2 2),u (.st (.l 17) l2 9 []),u (.st (.l 17) l2 4 []),x 6 l2] [(0,14),(1,14)] (.seq (.ite [m v6,u (.bin .eql l0 (.i 0))] [] 0 (.reg [m v0,m v0,u (.nc l0),f 0 l0,f 19 l0,g l0,f 1 v2,g l0,h 9 v4,h 4 v5,u (.nc l9),f 0 l0,f 0 l0,u (.st l0 l4 9 []),a 4 l8 l6,u (.st l0 l5 4 [])] [(7,14),(9,14)]) .skip) (q [m v6,x 3 l0] [] .ret)))),res:=[(3,none)]}
def yL:C:= (.its [u (.bin .lss v14 v13)] [] 0 .skip (.exit 1) (.seq (.blk 2 (q [a 4 v12 v14,h 4 l0,w 10 (.al [z0,z0,z0,z0] []),u (.st l0 l1 4 [])] [] (.reg [g v2,u (.mf N.eX [.v 10,.v 9,.v 2]),u (.ca N.fC 0 [] [.l 1,.l 0])] []))) (.reg [u (.bin .add v14 (.i 1)),x 14 l0] [])))
def zD:C:= .loop true [0,1,4,5,6,8,10,11,15,16,17] K.yL
def yM:C:= (.its [u (.bin .lss v17 v16)] [] 0 .skip (.exit 3) (.seq (.blk 4 (q [a 1 v15 v17,g l0,x 11 l0] [] (.ite [f 3 v7,g l0,m v11,u (.ca N.aP 0 [] [.l 1,.l 0]),u (.un .not l0)] [] 0 (.reg [g v2,f 1 v3,g l0,m v11,u (.ca N.gI 0 [] [.l 3,.l 1,.l 0])] []) .skip))) (.reg [u (.bin .add v17 (.i 1)),x 17 l0] [])))
def zE:C:= .loop true [0,1,4,5,6,8,9,10,11,12,13,14] K.yM
def et:Fn:= { aD:=2,vars:=[0,1,2,3,4,5,6,7,8,9,11,13,133,134,135,152,153,154],body:=(q [w 2 (.bx v0 1),w 3 (.bx v1 4),x 4 (.i 0)] [] (.seq (.blk 0 (.ite [f 1 v3,g l0,g v2,u (.nc l0),f 0 l0,f 19 l0,g l0,u (.ln l0),u (.bin .sub l0 (.i 1)),u (.ca N.bc 0 [] [.l 7,.i 0,.l 0]),u (.un .not l0),m l0] [] 0 (q [x 4 (.i 40)] [] .ret) (.ite [g v2,u (.nc l0),f 0 l0,f 0 l0,f 6 l0,g l0,f 1 v3,g l0,a 1 l2 l0,g l0,u (.bin .lss l0 (.i 0)),m l0] [] 0 (q [x 4 (.i 13)] [] .ret) .skip))) (q [w 5 (.al [z0,z0,.nil] []),g v2,u (.nc l0),f 0 l0,f 19 l0,g l0,f 1 v3,g l0,a 4 l2 l0,h 4 l0,u (.ca N.ma 0 [] [.l 0]),m l0,u (.ex l0 0),u (.ex l1 1),u (.st (.l 13) l1 3 []),x 6 l1] [(0,11)] (.seq (.ite [m v6,u (.bin .neq l0 (.i 0))] [] 0 (q [m v6,x 4 l0] [] .ret) .skip) (q [h 3 v5,u (.ca N.nO 0 [] [.l 0]),m l0,u (.ex l0 0),u (.ex l1 1),w 7 (.al [z0,z0,z0,.nil] []),u (.st l0 l2 4 []),x 6 l2] [] (.seq (.ite [m v6,u (.bin .neq l0 (.i 0))] [] 0 (q [m v6,x 4 l0] [] .ret) .skip) (.seq (q [g v2,g v2,u (.nc l0),f 0 l0,f 21 l0,h 2 l0,h 4 v7,u (.ca N.nN 0 [] [.l 1,.l 0]),m l0,u (.ex l0 0),u (.ex l1 1),u (.nc l10),f 0 l0,f 21 l0,u (.st l0 l4 2 []),x 6 l4] [(0,8)] (.ite [m v6,u (.bin .neq l0 (.i 0))] [] 0 (q [m v6,x 4 l0] [] .ret) .skip)) (q [g v2,g v2,u (.nc l0),f 0 l0,f 20 l0,g l0,h 4 v7,u (.bs [.l 0] 4),u (.app l2 l0 true 4),u (.nc l8),f 0 l0,f 20 l0,u (.st l0 l3 1 [])] [(0,8),(0,9),(1,8),(5,8)] (q [g v2,g v2,u (.nc l0),f 0 l0,f 20 l0,g l0,g v2,u (.nc l0),f 0 l0,f 20 l0,g l0,u (.ln l0),u (.bin .sub l0 (.i 60)),u (.mx [.i 0,.l 0]),u (.sc l8 (some l0) none 4),u (.nc (.l 14)),f 0 l0,f 20 l0,u (.st l0 l3 1 [])] [] (q [g v2,u (.nc l0),f 0 l0,f 0 l0,f 5 l0,g l0,h 4 v7,u (.ca N.jF 0 [] [.l 1,.l 0]),m l0,u (.ex l0 0),u (.ex l1 1),x 8 l1,x 6 l1] [] (.seq (.ite [m v6,u (.bin .neq l0 (.i 0))] [] 0 (q [m v6,x 4 l0] [] .ret) .skip) (q [w 9 (.al [.nil,z0,z0,z0] []),g v2,u (.nc l0),f 0 l0,f 0 l0,f 5 l0,g l0,f 1 v3,g l0,a 4 l2 l0,h 4 l0,u (.st l10 l0 4 [])] [] (.seq (q [x 12 v8,w 13 (.ln l0),x 14 (.i 0)] [] (.blk 1 K.zD)) (.seq (q [g v2,u (.nc l0),f 0 l0,f 23 l0,f 0 l0,g l0,a 2 l0 (.i 0),f 0 l0,g l0,w 15 (.ca N.ai 0 [] [.l 0]),w 16 (.ln l0),x 17 (.i 0)] [] (.blk 3 K.zE)) (q [x 4 (.i 0)] [] .ret))))))))))))))),res:=[(4,none)]}
def eu:Fn:= { aD:=2,vars:=[4],body:= .fail,res:=[(0,none)]}
def ew:Fn:= { aD:=2,vars:=[4],body:= .fail,res:=[(0,none)]}
def dI:Fn:= { aD:=2,vars:=[4],body:= .fail,res:=[(0,none)]}
def fB:Fn:= { aD:=2,vars:=[4],body:= .fail,res:=[(0,none)]}
def dJ:Fn:= { aD:=2,vars:=[4],body:= .fail,res:=[(0,none)]}
def dK:Fn:= { aD:=2,vars:=[4],body:= .fail,res:=[(0,none)]}
def ez:Fn:= { aD:=2,vars:=[4],body:= .fail,res:=[(0,none)]}
def eB:Fn:= { aD:=2,vars:=[4],body:= .fail,res:=[(0,none)]}
def eC:Fn:= { aD:=2,vars:=[4],body:= .fail,res:=[(0,none)]}
def AZ:C:= (.its [u (.bin .lss v10 v9)] [] 0 .skip (.exit 0) (.seq (.blk 1 (q [a 1 v8 v10,g l0,x 7 l0] [] (.reg [m v6,f 0 v2,g l0,m v7,f 2 v2,g l0,m v5,u (.bin .sub l1 l0),u (.mx [.i 0,.l 0]),f 2 v2,g l0,m v5,u (.bin .add l1 l0),u (.bd [z0,z0,z0,z0] [(0,1,.l 10),(1,1,.l 9),(2,1,.l 4),(3,1,.l 0)]),u (.bs [.l 0] 4),u (.app (.l 14) l0 true 4),x 6 l0] []))) (.reg [u (.bin .add v10 (.i 1)),x 10 l0] [])))
def CG:C:= .loop true [0,1,3,4,7] K.AZ
def jF:Fn:= { aD:=2,vars:=[0,1,3,4,5,6,7,9,25,26,27],body:=(q [w 2 (.bx v1 4),w 3 (.mv (.c (.nil))),x 4 (.i 0)] [] (.seq (.ite [h 4 v2,u (.ca N.iH 0 [] [.l 0]),u (.un .not l0)] [] 0 (q [w 3 (.mv (.c (.nil))),x 4 (.i 6)] [] .ret) .skip) (.seq (.ite [f 0 v2,g l0,m v0,u (.ln l0),u (.bin .geq l2 l0)] [] 0 (q [w 3 (.mv (.c (.nil))),x 4 (.i 40)] [] .ret) .skip) (q [m v0,f 0 v2,g l0,a 4 l2 l0,f 3 l0,g l0,x 5 l0] [] (q [w 6 (.nw 4)] [] (.seq (q [f 3 v2,w 8 (.ld l0 1 false),w 9 (.ln l0),x 10 (.i 0)] [] (.blk 0 K.CG)) (q [m v6,x 3 l0,x 4 (.i 0)] [] .ret))))))),res:=[(3,none),(4,none)]}
def fC:Fn:= { aD:=2,vars:=[0,1,4,5,6,7],body:=(.seq (q [w 2 (.al [.nil] []),m v1,m v0,u (.nc l0),f 0 l0,f 9 l0,h 2 l0,m v0,u (.nc l0),f 0 l0,f 23 l0,h 1 l0,u (.cw l10 0 [] [.l 5,.l 0]),m l0,u (.ex l0 0),u (.ex l1 1),u (.st (.l 15) l1 1 []),x 3 l1] [(0,13)] (.ite [m v3,u (.bin .eql l0 (.i 0))] [] 0 (.reg [m v0,h 1 v2,u (.nc l1),f 0 l0,f 23 l0,u (.st l0 l3 1 [])] []) .skip)) (.seq (.ite [m v0,u (.ca N.eY 0 [] [.l 0]),u (.un .not l0)] [] 0 .ret .skip) (q [w 4 (.al [.nil] []),m v1,m v0,u (.ca N.eZ 0 [] [.l 0]),m v0,u (.nc l0),f 0 l0,f 33 l0,h 1 l0,u (.cw l7 0 [] [.l 5,.l 0]),m l0,u (.ex l0 0),u (.ex l1 1),u (.st (.l 12) l1 1 []),x 5 l1] [(0,4),(0,10),(8,1)] (.ite [m v5,u (.bin .eql l0 (.i 0))] [] 0 (.reg [m v0,h 1 v4,u (.nc l1),f 0 l0,f 33 l0,u (.st l0 l3 1 [])] []) .skip)))),res:=[]}
def eX:Fn:= { aD:=5,vars:=[0,1,2,3,4,5,6,7,8],body:=(q [w 5 (.bx v0 2),w 6 (.bx v1 1),w 7 (.al [.nil] []),x 8 (.i 0)] [] (q [h 2 v5,h 1 v6,f 1 v2,g l0,f 0 v3,g l0,f 2 v2,g l0,f 3 v2,g l0,g v4,u (.ca N.eM 0 [] [.l 0]),u (.mn [.l 2,.l 0]),u (.ca N.nL 0 [] [.l 12,.l 11,.l 9,.l 7,.l 5,.l 0]),u (.ex l0 0),u (.ex l1 1),u (.st v7 l1 1 []),x 8 l1] [(0,12),(1,12),(3,12),(5,12),(7,12),(9,12)] .ret)),res:=[(7,some (1,true)),(8,none)]}
def eM:Fn:= { aD:=1,vars:=[0,2],body:=(q [x 1 (.i 0)] [] (q [m v0,u (.nc l0),f 0 l0,f 0 l0,f 2 l0,g l0,x 1 l0] [] .ret)),res:=[(1,none)]}
def gI:Fn:= { aD:=3,vars:=[0,1,2,5,6,7,8,9,10],body:=(q [w 3 (.bx v2 1)] [] (q [m v0,u (.nc l0),f 0 l0,f 0 l0,f 5 l0,g l0,m v1,a 4 l1 l0,h 4 l0,w 4 (.al [.nil,z0,z0,z0] []),u (.st l0 l1 4 [])] [] (q [m v0,u (.nc l0),f 0 l0,f 0 l0,f 5 l0,g l0,m v1,g v3,m v0,u (.nc l0),f 0 l0,f 20 l0,g l0,u (.ca N.dv 0 [] [.l 7,.l 6,.l 5,.l 0]),m l0,u (.ex l0 0),u (.ex l1 1),x 5 l1,x 6 l1] [] (.seq (.ite [m v6,u (.bin .neq l0 (.i 0)),m l0,e 0 false v5,y 1 false (.ln l0),y 2 false (.bin .eql l0 (.i 0)),u (.pk l3 (.b true) l0)] [] 0 .ret .skip) (q [m v5,m v5,u (.ln l0),u (.bin .sub l0 (.i 1)),a 4 l3 l0,h 4 l0,w 7 (.al [z0,z0,z0,z0] []),u (.st l0 l1 4 [])] [] (q [w 8 (.al [z0] []),f 3 v7,g l0,m v0,u (.ca N.eM 0 [] [.l 0]),u (.mn [.l 2,.l 0]),u (.st l5 l0 1 [])] [(0,5),(2,5)] (.seq (.ite [f 2 v7,g l0,g v8,u (.bin .geq l1 l0)] [] 0 .ret .skip) (.reg [m v0,u (.mf N.fe [.v 3,.v 4,.v 7,.v 8]),u (.ca N.fC 0 [] [.l 1,.l 0])] [])))))))),res:=[]}
def eY:Fn:= { aD:=1,vars:=[0,2],body:=(q [x 1 (.b false)] [] (q [m v0,u (.nc l0),f 0 l0,f 33 l0,f 0 l0,g l0,u (.ln l0),u (.bin .gtr l0 (.i 0)),x 1 l0] [] .ret)),res:=[(1,none)]}
def eZ:Fn:= { aD:=1,vars:=[0,2,3],body:=(q [w 1 (.al [.nil,.nil] [])] [] (q [w 2 (.al [.nil,.nil] []),m v0,u (.nc l0),f 0 l0,f 9 l0,h 2 l0,m v0,u (.nc l0),f 0 l0,f 26 l0,f 0 l0,g l0,u (.ca N.kA 0 [] [.l 6,.l 0]),m l0,u (.ex l0 0),u (.ex l1 1),u (.st (.l 15) l1 2 []),m l1] [(0,13)] (q [h 2 v2,u (.st v1 l0 2 [])] [] .ret))),res:=[(1,some (2,true))]}
def tH:C:= (.its [u (.bin .lss v16 v15)] [] 0 .skip (.exit 1) (.seq (.blk 2 (q [a 4 v14 v16,h 4 l0,w 12 (.al [z0,z0,z0,.nil] []),u (.st l0 l1 4 [])] [] (.seq (.ite [f 0 v12,g l0,g v4,u (.bin .neq l1 l0)] [] 0 (.exit 2) .skip) (.seq (.ite [f 3 v12,g l0,g v5,u (.ca N.aP 0 [] [.l 1,.l 0])] [] 0 (q [m v11,u (.cw l0 0 [] [])] [] (.exit 2)) .skip) (.seq (q [g v10,u (.ln l0),x 13 l0] [] (.ite [m v13,u (.bin .gtr l0 (.i 0)),m l0,y 0 true (.ld v8 4 true),i 1 true v10,e 2 true v13,y 3 true (.bin .sub l0 (.i 1)),y 4 true (.ia l2 l0 4),y 5 true (.ld l0 4 true),y 6 true (.ld v12 4 true),y 7 true (.ca N.eb 0 [] [.l 6,.l 1,.l 0]),y 8 true (.un .not l0),u (.pk l9 l0 (.b false))] [] 0 (.reg [m v11,u (.cw l0 0 [] [])] []) .skip)) (.reg [g v10,h 4 v12,u (.bs [.l 0] 4),u (.app l2 l0 true 4),u (.st v10 l0 1 [])] [])))))) (.reg [u (.bin .add v16 (.i 1)),x 16 l0] [])))
def vf:C:= .loop true [0,1,2,3,6,7,12,13] K.tH
def dv:Fn:= { aD:=4,vars:=[0,1,2,3,5,6,8,9,10,11,12,13,15,16,42,43,44],body:=(q [w 4 (.bx v1 1),w 5 (.bx v2 1),w 6 (.mv (.c (.nil))),x 7 (.i 0)] [] (.seq (.blk 0 (.ite [m v3,u (.ln l0),u (.bin .gtr l0 (.i 400)),m l0] [] 0 (q [w 6 (.mv (.c (.nil))),x 7 (.i 2)] [] .ret) (.ite [m v3,u (.ca N.aN 0 [] [.l 0,.c (.fn N.cN [])]),m l0] [] 0 (q [w 6 (.mv (.c (.nil))),x 7 (.i 6)] [] .ret) (.ite [g v4,u (.bin .lss l0 (.i 0)),m l0,i 0 false v4,e 1 false v0,y 2 false (.ln l0),y 3 false (.bin .geq l2 l0),u (.pk l4 (.b true) l0),m l0] [] 0 (q [w 6 (.mv (.c (.nil))),x 7 (.i 40)] [] .ret) (.ite [g v5,u (.ca N.bc 0 [] [.l 0,.i 1,.i 65535]),u (.un .not l0),m l0] [] 0 (q [w 6 (.mv (.c (.nil))),x 7 (.i 41)] [] .ret) .skip))))) (q [m v0,g v4,a 4 l1 l0,h 4 l0,w 8 (.al [.nil,z0,z0,z0] []),u (.st l0 l1 4 [])] [] (q [w 9 (.al [.nil] [])] [] (q [w 10 (.al [.nil] [(0,4)])] [] (q [u (.mf N.cO [.v 10,.v 8,.v 9,.v 4,.v 5]),x 11 l0] [] (.seq (q [x 14 v3,w 15 (.ln l0),x 16 (.i 0)] [] (.blk 1 K.vf)) (q [m v11,u (.cw l0 0 [] [])] [] (q [g v9,x 6 l0,x 7 (.i 0)] [] .ret))))))))),res:=[(6,none),(7,none)]}
def fe:Fn:= { aD:=6,vars:=[0,1,2,3,4,5,6,7,8,9],body:=(q [w 6 (.bx v0 2),w 7 (.bx v1 1),w 8 (.al [.nil] []),x 9 (.i 0)] [] (q [h 2 v6,h 1 v7,g v2,f 0 v3,g l0,f 2 v4,g l0,g v5,h 4 v3,u (.ca N.fU 0 [] [.l 0]),u (.ca N.jD 0 [] [.l 9,.l 8,.l 7,.l 5,.l 3,.l 2,.l 0]),u (.ex l0 0),u (.ex l1 1),u (.st v8 l1 1 []),x 9 l1] [(0,10),(1,10),(2,10),(4,10),(6,10),(7,10)] .ret)),res:=[(8,some (1,true)),(9,none)]}
def fU:Fn:= { aD:=1,vars:=[0,1,2],body:=(q [w 1 (.bx v0 4),x 2 (.i 0)] [] (q [f 2 v1,g l0,u (.bin .add l0 (.i 1)),f 1 v1,g l0,u (.bin .mul l2 l0),x 2 l0] [] .ret)),res:=[(2,none)]}
def aN:Fn:= { aD:=2,vars:=[0,1,4],body:=(q [x 2 (.b false)] [] (q [m v0,m v1,u (.ca N.aV 0 [] [.l 1,.l 0]),u (.bin .geq l0 (.i 0)),x 2 l0] [] .ret)),res:=[(2,none)]}
def cN:Fn:= { aD:=1,vars:=[0,1,2],body:=(q [w 1 (.bx v0 4),x 2 (.b false)] [] (q [h 4 v1,u (.ca N.iH 0 [] [.l 0]),u (.un .not l0),x 2 l0] [] .ret)),res:=[(2,none)]}
def cO:Fn:= { aD:=5,vars:=[0,1,2,3,4,5,6],body:=(.seq (.ite [g v0,u (.ln l0),u (.bin .gtr l0 (.i 1))] [] 0 (q [g v0,a 4 l0 (.i 0),f 2 l0,g l0,f 3 v1,g l0,u (.bin .add l2 l0),g v0,g v0,u (.ln l0),u (.bin .sub l0 (.i 1)),a 4 l3 l0,f 2 l0,g l0,f 3 v1,g l0,u (.bin .sub l2 l0),x 5 l10,x 6 l1] [] (.ite [m v6,m v5,u (.bin .gtr l1 l0)] [] 0 (.reg [g v2,g v3,g v4,m v5,m v6,u (.bd [z0,z0,z0,z0] [(0,1,.l 3),(1,1,.l 2),(2,1,.l 1),(3,1,.l 0)]),u (.bs [.l 0] 4),u (.app l6 l0 true 4),u (.st v2 l0 1 [])] []) .skip)) .skip) (.reg [u (.st v0 (.c (.nil)) 1 [])] [])),res:=[]}
def eb:Fn:= { aD:=3,vars:=[0,1,2,3,4,5,6],body:=(q [w 3 (.bx v0 4),w 4 (.bx v1 4),w 5 (.bx v2 4),x 6 (.b false)] [] (q [f 1 v5,g l0,f 1 v4,g l0,u (.bin .add l0 (.i 1)),u (.bin .rem l0 (.i 65536)),u (.bin .eql l4 l0),m l0,y 0 true (.fa v5 2),i 1 true l0,y 2 true (.fa v4 2),i 3 true l0,y 4 true (.bin .geq l2 l0),u (.pk l5 l0 (.b false)),m l0,y 0 true (.fa v5 2),i 1 true l0,y 2 true (.fa v4 2),i 3 true l0,y 4 true (.bin .sub l2 l0),y 5 true (.fa v3 1),i 6 true l0,y 7 true (.fa v3 3),i 8 true l0,y 9 true (.bin .mul (.i 2) l0),y 10 true (.bin .add l3 l0),y 11 true (.bin .leq l6 l0),u (.pk (.l 12) l0 (.b false)),x 6 l0] [] .ret)),res:=[(6,none)]}
def jS:C:= (.its [u (.bin .lss v5 v4)] [] 0 .skip (.exit 0) (.seq (.blk 1 (q [m v5,x 3 l0] [] (.ite [m v1,m v0,m v3,a 4 l1 l0,h 4 l0,u (.cw l4 0 [] [.l 0])] [] 0 (q [m v3,x 2 l0] [] .ret) .skip))) (.reg [u (.bin .add v5 (.i 1)),x 5 l0] [])))
def j8:C:= .loop true [2,3] K.jS
def aV:Fn:= { aD:=2,vars:=[0,1,4,5,7,8],body:=(q [x 2 (.i 0)] [] (.seq (q [m v0,w 4 (.ln l0),x 5 (.i 0)] [] (.blk 0 K.j8)) (q [w 2 (.mv (.i (-1)))] [] .ret))),res:=[(2,none)]}
end Go.Ev.K
namespace Go.Ev
class gx [Lib]:Prop where
 vg:Lib.fs N.jz=some K.jz
 fg:Lib.fs N.aM=some K.aM
 qU:Lib.fs N.fS=some K.fS
 pK:Lib.fs N.dP=some K.dP
 ef:Lib.fs N.aU=some K.aU
 AJ:Lib.fs N.me=some K.me
 CH:Lib.fs N.nS=some K.nS
 qV:Lib.fs N.fT=some K.fT
 pL:Lib.fs N.eL=some K.eL
 vi:Lib.fs N.j4=some K.j4
 th:Lib.fs N.eh=some K.eh
 tj:Lib.fs N.ei=some K.ei
 tn:Lib.fs N.eo=some K.eo
 tq:Lib.fs N.et=some K.et
 tu:Lib.fs N.eu=some K.eu
 tv:Lib.fs N.ew=some K.ew
 rM:Lib.fs N.dI=some K.dI
 vj:Lib.fs N.fB=some K.fB
 rN:Lib.fs N.dJ=some K.dJ
 rO:Lib.fs N.dK=some K.dK
 tw:Lib.fs N.ez=some K.ez
 tx:Lib.fs N.eB=some K.eB
 tz:Lib.fs N.eC=some K.eC
 wU:Lib.fs N.jF=some K.jF
 tA:Lib.fs N.fC=some K.fC
 qm:Lib.fs N.eX=some K.eX
 rP:Lib.fs N.eM=some K.eM
 tC:Lib.fs N.gI=some K.gI
 qn:Lib.fs N.eY=some K.eY
 qo:Lib.fs N.eZ=some K.eZ
 oC:Lib.fs N.dv=some K.dv
 qp:Lib.fs N.fe=some K.fe
 rQ:Lib.fs N.fU=some K.fU
 eO:Lib.fs N.aN=some K.aN
 mV:Lib.fs N.cN=some K.cN
 mW:Lib.fs N.cO=some K.cO
 pM:Lib.fs N.eb=some K.eb
 fA:Lib.fs N.aV=some K.aV
namespace K
variable [Lib] [gx]
theorem vg:Lib.fs N.jz=some K.jz:=gx.vg
theorem fg:Lib.fs N.aM=some K.aM:=gx.fg
theorem qU:Lib.fs N.fS=some K.fS:=gx.qU
theorem pK:Lib.fs N.dP=some K.dP:=gx.pK
theorem ef:Lib.fs N.aU=some K.aU:=gx.ef
theorem AJ:Lib.fs N.me=some K.me:=gx.AJ
theorem CH:Lib.fs N.nS=some K.nS:=gx.CH
theorem qV:Lib.fs N.fT=some K.fT:=gx.qV
theorem pL:Lib.fs N.eL=some K.eL:=gx.pL
theorem vi:Lib.fs N.j4=some K.j4:=gx.vi
theorem th:Lib.fs N.eh=some K.eh:=gx.th
theorem tj:Lib.fs N.ei=some K.ei:=gx.tj
theorem tn:Lib.fs N.eo=some K.eo:=gx.tn
theorem tq:Lib.fs N.et=some K.et:=gx.tq
theorem tu:Lib.fs N.eu=some K.eu:=gx.tu
theorem tv:Lib.fs N.ew=some K.ew:=gx.tv
theorem rM:Lib.fs N.dI=some K.dI:=gx.rM
theorem vj:Lib.fs N.fB=some K.fB:=gx.vj
theorem rN:Lib.fs N.dJ=some K.dJ:=gx.rN
theorem rO:Lib.fs N.dK=some K.dK:=gx.rO
theorem tw:Lib.fs N.ez=some K.ez:=gx.tw
theorem tx:Lib.fs N.eB=some K.eB:=gx.tx
theorem tz:Lib.fs N.eC=some K.eC:=gx.tz
theorem wU:Lib.fs N.jF=some K.jF:=gx.wU
theorem tA:Lib.fs N.fC=some K.fC:=gx.tA
theorem qm:Lib.fs N.eX=some K.eX:=gx.qm
theorem rP:Lib.fs N.eM=some K.eM:=gx.rP
theorem tC:Lib.fs N.gI=some K.gI:=gx.tC
theorem qn:Lib.fs N.eY=some K.eY:=gx.qn
theorem qo:Lib.fs N.eZ=some K.eZ:=gx.qo
theorem oC:Lib.fs N.dv=some K.dv:=gx.oC
theorem qp:Lib.fs N.fe=some K.fe:=gx.qp
theorem rQ:Lib.fs N.fU=some K.fU:=gx.rQ
theorem eO:Lib.fs N.aN=some K.aN:=gx.eO
theorem mV:Lib.fs N.cN=some K.cN:=gx.mV
theorem mW:Lib.fs N.cO=some K.cO:=gx.mW
theorem pM:Lib.fs N.eb=some K.eb:=gx.pM
theorem fA:Lib.fs N.aV=some K.aV:=gx.fA
end K
end Go.Ev
namespace Go.Ev
open Go
variable [Lib] [bO] [bL] [dL] [dm] [hU] [dg] [dn] [eR] [dF] [bY] [b7] [dw] [dk] [fM] [fp] [jx] [eS] [im] [j7] [pI] [pt] [px] [pU] [ny] [gx]
theorem MI(l:List Spn)(hl:l.length≤1000000):aL 0 N.aM [.t (tS l)] []=some (.t (tS l),[]):=by
 refine aj K.fg rfl ?_
 by_cases h0:l=[]
 · subst h0
   simp(disch:=omega)only[go_sem,K.aM,↓reduceIte,tS,List.map_nil,reduceAdd,reduceSub]
 · have e:=fun H=>p5 H (l.map Spn.e) (by simpa using h0)
   simp(disch:=omega)only[go_sem,K.aM,↓reduceIte,e,reduceAdd,reduceSub]
theorem J2:aL 0 N.aU [.t (.sl [])] []=some (.t (.sl []),[]):=by
 refine aj K.ef rfl ?_
 simp(disch:=omega)only[go_sem,K.aU,↓reduceIte,List.map_nil,reduceAdd,reduceSub]
theorem MJ:aL 0 N.j4 [.t (.sl [])] []=some (.t (.sl []),[]):=by
 refine aj K.vi rfl ?_
 simp(disch:=omega)only[go_sem,K.j4,↓reduceIte,List.map_nil,reduceAdd,reduceSub]
def J3(l:List Rpt):Prop:=l.length≤1000000∧∀r∈l,r.tags.length≤1000000
@[go_sem] theorem Ui (l : List Rpt) : bV 4 (l.map Rpt.e) = true := fF 4 _ (fun _ => rfl) l
@[go_sem] theorem aee (l : List Rpt) : nH 4 (l.map Rpt.e) = true := by cases l <;> rfl
instance : Dat Rpt := ⟨⟨0, 0, 0, []⟩⟩
abbrev A0(l:List Rpt):Obj:= .arr 4 false 0 ((l.map Rpt.e).map .t)
theorem HF(l:List Rpt)(h:J3 l):∀z0 z1 z3:D,exS aL K.ve ⟨[z0,z1,.ref 0 0 0,z3,.t (.sl (l.map Rpt.e)),I l.length,I 0],[A0 []]⟩=some (.exit 0,⟨[.und,.und,.ref 0 0 l.length,.und,.t (.sl (l.map Rpt.e)),I l.length,I l.length],[A0 l]⟩):=by
 obtain⟨h1,h2⟩:=h
 have tk:l.take l.length=l:=List.take_length
 intro z0 z1 z3
 refine bH (fun j=>⟨[.und,.und,.ref 0 0 (l.take j).length,.und,.t (.sl (l.map Rpt.e)),I l.length,I j],[A0 (l.take j)]⟩) l.length rfl ?_ ?_ (by simp)
 · intro j hj
   have c:=cT (nth l j).tags (h2 _ (aE hj))
   have ex:(l.map Rpt.e)[j]?=some (nth l j).e:=bE _ hj
   have lt:(l.take j).length=j:=by rw[List.length_take];omega
   generalize hx:nth l j=w at*
   obtain⟨reader,number,time,tags⟩:=w
   have tk:l.take (j+1)=l.take j++[⟨reader,number,time,tags⟩]:=by rw[jd hj,hx]
   generalize l.take j=pre at*
   simp(disch:=omega)only[go_sem,K.ou,↓reduceIte,A0,ex,c,lt,tk,reduceAdd,reduceSub]
 · simp(disch:=omega)only[go_sem,K.ou,↓reduceIte,tk,reduceAdd,reduceSub]
theorem CI(l:List Rpt)(h:J3 l):aL 1 N.fS [.t (.sl (l.map Rpt.e))] []=some (.ref 0 0 l.length,[A0 l]):=by
 refine aj K.qU rfl ?_
 have lp:=HF l h
 obtain⟨h1,h2⟩:=h
 simp only[A0,List.map_nil]at lp ⊢
 simp(disch:=omega)only[go_sem,K.fS,↓reduceIte,lp,reduceAdd,reduceSub]
theorem CJ(l:List Rpt)(h:J3 l):aL 0 N.eL [.t (.sl (l.map Rpt.e))] []=some (.t (.sl (l.map Rpt.e)),[]):=by
 refine aj K.pL rfl ?_
 obtain⟨h1,h2⟩:=h
 have tk:l.take l.length=l:=List.take_length
 have lp:∀z1 z4:D,exS aL K.tf ⟨[.t (.sl (l.map Rpt.e)),z1,.ref 0 0 0,I 0,z4],[A0 []]⟩=some (.exit 0,⟨[.t (.sl (l.map Rpt.e)),.und,.ref 0 0 l.length,I l.length,.und],[A0 l]⟩):=by
  intro z1 z4
  refine bH (fun j=>⟨[.t (.sl (l.map Rpt.e)),.und,.ref 0 0 (l.take j).length,I j,.und],[A0 (l.take j)]⟩) l.length rfl ?_ ?_ (by simp)
  · intro j hj
    have c:=h2 _ (aE hj)
    have ex:(l.map Rpt.e)[j]?=some (nth l j).e:=bE _ hj
    have lt:(l.take j).length=j:=by rw[List.length_take];omega
    generalize hx:nth l j=w at*
    obtain⟨reader,number,time,tags⟩:=w
    have tk:l.take (j+1)=l.take j++[⟨reader,number,time,tags⟩]:=by rw[jd hj,hx]
    generalize l.take j=pre at*
    simp only at c
    simp(disch:=omega)only[go_sem,K.nC,↓reduceIte,A0,ex,lt,tk,reduceAdd,reduceSub]
  · simp(disch:=omega)only[go_sem,K.nC,↓reduceIte,tk,reduceAdd,reduceSub]
 simp only[A0,List.map_nil]at lp ⊢
 simp(disch:=omega)only[go_sem,K.eL,↓reduceIte,lp,reduceAdd,reduceSub]
theorem MK{e:Esc}(he:e.sm):aL 0 N.fT [.t e.e] []=some (.t e.e,[]):=by
 refine aj K.qV rfl ?_
 obtain⟨h1,h2,h3⟩:=he
 obtain⟨safe,bad,shut,gv⟩:=e
 simp only at*
 simp(disch:=omega)only[go_sem,K.fT,↓reduceIte,reduceAdd,reduceSub]
theorem PO(x:World)(h:x.sz):aL 0 N.i9 [.t x.e] []=some (.t x.e,[]):=by
 refine aj K.sQ rfl ?_
 obtain⟨h1,h2,h3⟩:=h
 have cl:=cT x.tags (by omega)
 have tk:x.whr.take x.whr.length=x.whr:=List.take_length
 have lp:∀z0 z1 z4:D,exS aL K.wE ⟨[z0,z1,.bp 1 0,.bp 2 0,z4,.t (.sl (x.whr.map Wh.e)),I x.whr.length,I 0],[.box [.t (tL x.tags),.t (.sl (x.whr.map Wh.e))],.box [.nil,.nil],.box [.t (tL x.tags),.ref 4 0 0],.arr 2 false 0 [],.arr 2 false 0 []]⟩=
  some (.exit 0,⟨[.und,.und,.bp 1 0,.bp 2 0,.und,.t (.sl (x.whr.map Wh.e)),I x.whr.length,I x.whr.length],[.box [.t (tL x.tags),.t (.sl (x.whr.map Wh.e))],.box [.nil,.nil],.box [.t (tL x.tags),.ref 4 0 x.whr.length],.arr 2 false 0 [],.arr 2 false 0 ((x.whr.map Wh.e).map .t)]⟩):=by
  intro z0 z1 z4
  refine bH (fun j=>⟨[.und,.und,.bp 1 0,.bp 2 0,.und,.t (.sl (x.whr.map Wh.e)),I x.whr.length,I j],[.box [.t (tL x.tags),.t (.sl (x.whr.map Wh.e))],.box [.nil,.nil],.box [.t (tL x.tags),.ref 4 0 (x.whr.take j).length],.arr 2 false 0 [],.arr 2 false 0 (((x.whr.take j).map Wh.e).map .t)]⟩) x.whr.length rfl ?_ ?_ (by simp)
  · intro j hj
    have c:=cT (nth x.whr j).frm (h3 _ (aE hj))
    have ex:(x.whr.map Wh.e)[j]?=some (nth x.whr j).e:=bE _ hj
    have lt:(x.whr.take j).length=j:=by rw[List.length_take];omega
    generalize hx:nth x.whr j=w at*
    obtain⟨time,frm⟩:=w
    have tk:x.whr.take (j+1)=x.whr.take j++[⟨time,frm⟩]:=by rw[jd hj,hx]
    generalize x.whr.take j=pre at*
    obtain⟨tags,whr⟩:=x
    simp only at*
    simp(disch:=omega)only[go_sem,K.po,↓reduceIte,ex,c,lt,tk,reduceAdd,reduceSub]
  · obtain⟨tags,whr⟩:=x
    simp only at*
    simp(disch:=omega)only[go_sem,K.po,↓reduceIte,tk,reduceAdd,reduceSub]
 obtain⟨tags,whr⟩:=x
 simp only at*
 simp(disch:=omega)only[go_sem,K.i9,↓reduceIte,cl,lp,reduceAdd,reduceSub]
theorem CK(b:Bel)(h:b.sz):aL 0 N.dP [.t b.e] []=some (.t b.e,[]):=by
 refine aj K.pK rfl ?_
 obtain⟨h1,h2⟩:=h
 obtain⟨l⟩:=b
 simp only at h1 h2 ⊢
 have tk:l.take l.length=l:=List.take_length
 have lp:∀z0 z1 z4:D,exS aL K.te ⟨[z0,z1,.bp 1 0,.bp 2 0,z4,.t (.sl (l.map World.e)),I l.length,I 0],[.box [.t (.sl (l.map World.e))],.box [.nil],.box [.ref 3 0 0],.arr 2 false 0 []]⟩=
  some (.exit 0,⟨[.und,.und,.bp 1 0,.bp 2 0,.und,.t (.sl (l.map World.e)),I l.length,I l.length],[.box [.t (.sl (l.map World.e))],.box [.nil],.box [.ref 3 0 l.length],.arr 2 false 0 ((l.map World.e).map .t)]⟩):=by
  intro z0 z1 z4
  refine bH (fun j=>⟨[.und,.und,.bp 1 0,.bp 2 0,.und,.t (.sl (l.map World.e)),I l.length,I j],[.box [.t (.sl (l.map World.e))],.box [.nil],.box [.ref 3 0 (l.take j).length],.arr 2 false 0 (((l.take j).map World.e).map .t)]⟩) l.length rfl ?_ ?_ (by simp)
  · intro j hj
    have c:=PO (nth l j) (h2 _ (aE hj))
    have ex:(l.map World.e)[j]?=some (nth l j).e:=bE _ hj
    have lt:(l.take j).length=j:=by rw[List.length_take];omega
    generalize hx:nth l j=w at*
    obtain⟨tags,whr⟩:=w
    have tk:l.take (j+1)=l.take j++[⟨tags,whr⟩]:=by rw[jd hj,hx]
    generalize l.take j=pre at*
    simp(disch:=omega)only[go_sem,K.nB,↓reduceIte,ex,c,lt,tk,reduceAdd,reduceSub]
  · simp(disch:=omega)only[go_sem,K.nB,↓reduceIte,tk,reduceAdd,reduceSub]
 simp(disch:=omega)only[go_sem,K.dP,↓reduceIte,lp,reduceAdd,reduceSub]
abbrev pN:List D:=[.nil,.nil,I 0,.nil,.nil,.nil,.nil,.nil,.nil,.nil,.nil,.nil,.nil,.nil,.nil,I 0,.nil,I 0,I 0,.nil,.nil,.nil,.nil,.nil,I 0,.nil,.nil,.nil,.t (.bool false),I 0,I 0,I 0,I 0,.nil,.nil,.nil]
theorem SG{a0 a1 a3 a4 a5 a6 a7 a8 m0 m1 f e0 e1 e2 b0 i0 i1 bw k0 k1:List T}{a2 e3 b1 b2:Int}{k2:Bool}{pend:List Rpt}(hp:J3 pend)(hT:aL 0 N.eQ [.t (.agg [.sl a0,.sl a1,tI a2,.sl a3,.sl a4,.sl a5,.sl a6,.sl a7,.sl a8]),I 0] []=some (.tup [.t (.agg [.sl a0,.sl a1,tI a2,.sl a3,.sl a4,.sl a5,.sl a6,.sl a7,.sl a8]),I 0],[]))(hP:aL 0 N.aA [.t (.sl m0)] []=some (.t (.sl m0),[]))(hR:aL 0 N.aB [.t (.sl m1)] []=some (.t (.sl m1),[]))(hF:aL 0 N.aM [.t (.sl f)] []=some (.t (.sl f),[]))(he0:aL 0 N.ai [.t (.sl e0)] []=some (.t (.sl e0),[]))(he1:aL 0 N.ai [.t (.sl e1)] []=some (.t (.sl e1),[]))(he2:aL 0 N.ai [.t (.sl e2)] []=some (.t (.sl e2),[]))(hb0:aL 0 N.ai [.t (.sl b0)] []=some (.t (.sl b0),[]))(hi0:aL 0 N.ai [.t (.sl i0)] []=some (.t (.sl i0),[]))(hi1:aL 0 N.ai [.t (.sl i1)] []=some (.t (.sl i1),[]))(hk0:aL 0 N.ai [.t (.sl k0)] []=some (.t (.sl k0),[]))(hk1:aL 0 N.ai [.t (.sl k1)] []=some (.t (.sl k1),[]))(hB:aL 0 N.dP [.t (.agg [.sl bw])] []=some (.t (.agg [.sl bw]),[])):aL 0 N.dX [.t (.agg [.sl a0,.sl a1,tI a2,.sl a3,.sl a4,.sl a5,.sl a6,.sl a7,.sl a8,.sl m0,.sl m1,.sl f,.sl e0,.sl e1,.sl e2,tI e3,.sl b0,tI b1,tI b2,.sl (pend.map Rpt.e),.sl [],.sl i0,.sl i1,.sl bw,tI 0,.sl [],.sl k0,.sl k1,.bool k2,tI 0,tI 0,tI 0,tI 0,.sl [],.sl [],.sl []])] []=some (.t (.agg [.sl a0,.sl a1,tI a2,.sl a3,.sl a4,.sl a5,.sl a6,.sl a7,.sl a8,.sl m0,.sl m1,.sl f,.sl e0,.sl e1,.sl e2,tI e3,.sl b0,tI b1,tI b2,.sl (pend.map Rpt.e),.sl [],.sl i0,.sl i1,.sl bw,tI 0,.sl [],.sl k0,.sl k1,.bool k2,tI 0,tI 0,tI 0,tI 0,.sl [],.sl [],.sl []]),[]):=by
 refine aj K.sX rfl ?_
 have rp:=CI pend hp
 have r0:=CI [] ⟨by simp,by simp⟩
 have bz:=CK ⟨[]⟩ ⟨by simp,by simp⟩
 have c0:=cT [] (by simp)
 have al:=J2
 have pl:=hp.1
 simp only[Bel.e,List.map_nil,List.length_nil,tL,A0]at r0 bz c0 al
 have lp:∀z0 z1 z4:D,exS aL K.wS ⟨[z0,z1,.bp 1 0,.bp 2 0,z4,.t (.sl []),I 0,I 0],[.box [.t (.sl a0),.t (.sl a1),.t (tI a2),.t (.sl a3),.t (.sl a4),.t (.sl a5),.t (.sl a6),.t (.sl a7),.t (.sl a8),.t (.sl m0),.t (.sl m1),.t (.sl f),.t (.sl e0),.t (.sl e1),.t (.sl e2),.t (tI e3),.t (.sl b0),.t (tI b1),.t (tI b2),.t (.sl (pend.map Rpt.e)),.t (.sl []),.t (.sl i0),.t (.sl i1),.t (.sl bw),.t (tI 0),.t (.sl []),.t (.sl k0),.t (.sl k1),.t (.bool k2),.t (tI 0),.t (tI 0),.t (tI 0),.t (tI 0),.t (.sl []),.t (.sl []),.t (.sl [])],.box pN,.box [.t (.sl a0),.t (.sl a1),.t (tI a2),.t (.sl a3),.t (.sl a4),.t (.sl a5),.t (.sl a6),.t (.sl a7),.t (.sl a8),.t (.sl m0),.t (.sl m1),.t (.sl f),.t (.sl e0),.t (.sl e1),.t (.sl e2),.t (tI e3),.t (.sl b0),.t (tI b1),.t (tI b2),.ref 4 0 pend.length,.ref 5 0 0,.t (.sl i0),.t (.sl i1),.t (.sl bw),.t (tI 0),.t (.sl []),.t (.sl k0),.t (.sl k1),.t (.bool k2),.t (tI 0),.t (tI 0),.t (tI 0),.t (tI 0),.t (.sl []),.t (.sl []),.ref 6 0 0],.arr 7 false 0 [],.arr 4 false 0 ((pend.map Rpt.e).map .t),.arr 4 false 0 [],.arr 7 false 0 []]⟩=
  some (.exit 0,⟨[.und,.und,.bp 1 0,.bp 2 0,.und,.t (.sl []),I 0,I 0],[.box [.t (.sl a0),.t (.sl a1),.t (tI a2),.t (.sl a3),.t (.sl a4),.t (.sl a5),.t (.sl a6),.t (.sl a7),.t (.sl a8),.t (.sl m0),.t (.sl m1),.t (.sl f),.t (.sl e0),.t (.sl e1),.t (.sl e2),.t (tI e3),.t (.sl b0),.t (tI b1),.t (tI b2),.t (.sl (pend.map Rpt.e)),.t (.sl []),.t (.sl i0),.t (.sl i1),.t (.sl bw),.t (tI 0),.t (.sl []),.t (.sl k0),.t (.sl k1),.t (.bool k2),.t (tI 0),.t (tI 0),.t (tI 0),.t (tI 0),.t (.sl []),.t (.sl []),.t (.sl [])],.box pN,.box [.t (.sl a0),.t (.sl a1),.t (tI a2),.t (.sl a3),.t (.sl a4),.t (.sl a5),.t (.sl a6),.t (.sl a7),.t (.sl a8),.t (.sl m0),.t (.sl m1),.t (.sl f),.t (.sl e0),.t (.sl e1),.t (.sl e2),.t (tI e3),.t (.sl b0),.t (tI b1),.t (tI b2),.ref 4 0 pend.length,.ref 5 0 0,.t (.sl i0),.t (.sl i1),.t (.sl bw),.t (tI 0),.t (.sl []),.t (.sl k0),.t (.sl k1),.t (.bool k2),.t (tI 0),.t (tI 0),.t (tI 0),.t (tI 0),.t (.sl []),.t (.sl []),.ref 6 0 0],.arr 7 false 0 [],.arr 4 false 0 ((pend.map Rpt.e).map .t),.arr 4 false 0 [],.arr 7 false 0 []]⟩):=by
  intro z0 z1 z4
  refine bH (fun j=>⟨[.und,.und,.bp 1 0,.bp 2 0,.und,.t (.sl []),I 0,I 0],[.box [.t (.sl a0),.t (.sl a1),.t (tI a2),.t (.sl a3),.t (.sl a4),.t (.sl a5),.t (.sl a6),.t (.sl a7),.t (.sl a8),.t (.sl m0),.t (.sl m1),.t (.sl f),.t (.sl e0),.t (.sl e1),.t (.sl e2),.t (tI e3),.t (.sl b0),.t (tI b1),.t (tI b2),.t (.sl (pend.map Rpt.e)),.t (.sl []),.t (.sl i0),.t (.sl i1),.t (.sl bw),.t (tI 0),.t (.sl []),.t (.sl k0),.t (.sl k1),.t (.bool k2),.t (tI 0),.t (tI 0),.t (tI 0),.t (tI 0),.t (.sl []),.t (.sl []),.t (.sl [])],.box pN,.box [.t (.sl a0),.t (.sl a1),.t (tI a2),.t (.sl a3),.t (.sl a4),.t (.sl a5),.t (.sl a6),.t (.sl a7),.t (.sl a8),.t (.sl m0),.t (.sl m1),.t (.sl f),.t (.sl e0),.t (.sl e1),.t (.sl e2),.t (tI e3),.t (.sl b0),.t (tI b1),.t (tI b2),.ref 4 0 pend.length,.ref 5 0 0,.t (.sl i0),.t (.sl i1),.t (.sl bw),.t (tI 0),.t (.sl []),.t (.sl k0),.t (.sl k1),.t (.bool k2),.t (tI 0),.t (tI 0),.t (tI 0),.t (tI 0),.t (.sl []),.t (.sl []),.ref 6 0 0],.arr 7 false 0 [],.arr 4 false 0 ((pend.map Rpt.e).map .t),.arr 4 false 0 [],.arr 7 false 0 []]⟩) 0 rfl ?_ ?_ (by simp)
  · intro j hj;omega
  · simp(disch:=omega)only[go_sem,K.uZ,↓reduceIte,List.length_nil,reduceAdd,reduceSub]
 simp only[pN]at lp
 simp(disch:=omega)only[go_sem,K.dX,↓reduceIte,hT,hP,hR,hF,he0,he1,he2,hb0,hi0,hi1,hk0,hk1,hB,rp,r0,bz,c0,al,lp,reduceAdd,reduceSub]
theorem PQ{a0 a1 a3 a4 a5 a6 a7 a8 m0 m1 e0 e1 e2 i0 i1 bw k0 k1:List T}{a2 e3 b1 b2:Int}{k2:Bool}{fl:List Spn}(hf:fl.length≤1000000){ar:List Int}(ha:ar.length≤1000000){pend:List Rpt}(hp:J3 pend)(hT:aL 0 N.iG [.t (.agg [.sl a0,.sl a1,tI a2,.sl a3,.sl a4,.sl a5,.sl a6,.sl a7,.sl a8])] []=some (.t (.agg [.sl a0,.sl a1,tI a2,.sl a3,.sl a4,.sl a5,.sl a6,.sl a7,.sl a8]),[]))(hM:aL 0 N.iE [.t (.agg [.sl m0,.sl m1])] []=some (.t (.agg [.sl m0,.sl m1]),[]))(hE:aL 0 N.fT [.t (.agg [.sl e0,.sl e1,.sl e2,tI e3])] []=some (.t (.agg [.sl e0,.sl e1,.sl e2,tI e3]),[]))(hI:aL 0 N.jv [.t (.agg [.sl i0,.sl i1])] []=some (.t (.agg [.sl i0,.sl i1]),[]))(hB:aL 0 N.iC [.t (.agg [.sl bw])] []=some (.t (.agg [.sl bw]),[]))(hK:aL 0 N.jo [.t (.agg [.sl k0,.sl k1,.bool k2])] []=some (.t (.agg [.sl k0,.sl k1,.bool k2]),[])):aL 0 N.jz [.t (.agg [.sl a0,.sl a1,tI a2,.sl a3,.sl a4,.sl a5,.sl a6,.sl a7,.sl a8,.sl m0,.sl m1,tS fl,.sl e0,.sl e1,.sl e2,tI e3,tL ar,tI b1,tI b2,.sl (pend.map Rpt.e),.sl [],.sl i0,.sl i1,.sl bw,tI 0,.sl [],.sl k0,.sl k1,.bool k2,tI 0,tI 0,tI 0,tI 0,.sl [],.sl [],.sl []])] []=some (.t (.agg [.sl a0,.sl a1,tI a2,.sl a3,.sl a4,.sl a5,.sl a6,.sl a7,.sl a8,.sl m0,.sl m1,tS fl,.sl e0,.sl e1,.sl e2,tI e3,tL ar,tI b1,tI b2,.sl (pend.map Rpt.e),.sl [],.sl i0,.sl i1,.sl bw,tI 0,.sl [],.sl k0,.sl k1,.bool k2,tI 0,tI 0,tI 0,tI 0,.sl [],.sl [],.sl []]),[]):=by
 refine aj K.vg rfl ?_
 have rp:=CJ pend hp
 have r0:=CJ [] ⟨by simp,by simp⟩
 have bz:=Ed ⟨[]⟩ ⟨by simp,by simp⟩
 have s0:=RS ⟨0,[]⟩ (by simp)
 have al:=MJ
 have pl:=hp.1
 simp only[Bel.e,Wh.e,List.map_nil,tL]at r0 bz s0 al
 have lp:∀z0 z5:D,exS aL K.yK ⟨[z0,.bp 0 0,.bp 1 0,.ref 4 0 0,I 0,z5],[.box [.t (.sl a0),.t (.sl a1),.t (tI a2),.t (.sl a3),.t (.sl a4),.t (.sl a5),.t (.sl a6),.t (.sl a7),.t (.sl a8),.t (.sl m0),.t (.sl m1),.ref 2 0 fl.length,.t (.sl e0),.t (.sl e1),.t (.sl e2),.t (tI e3),.ref 3 0 ar.length,.t (tI b1),.t (tI b2),.t (.sl (pend.map Rpt.e)),.t (.sl []),.t (.sl i0),.t (.sl i1),.t (.sl bw),.t (tI 0),.t (.sl []),.t (.sl k0),.t (.sl k1),.t (.bool k2),.t (tI 0),.t (tI 0),.t (tI 0),.t (tI 0),.t (.sl []),.t (.sl []),.t (.sl [])],.box pN,.arr 2 false 0 ((fl.map Spn.e).map .t),.arr 1 false 0 ((ar.map (T.int .i64)).map .t),.arr 7 false 0 []]⟩=
  some (.exit 0,⟨[.und,.bp 0 0,.bp 1 0,.ref 4 0 0,I 0,.und],[.box [.t (.sl a0),.t (.sl a1),.t (tI a2),.t (.sl a3),.t (.sl a4),.t (.sl a5),.t (.sl a6),.t (.sl a7),.t (.sl a8),.t (.sl m0),.t (.sl m1),.ref 2 0 fl.length,.t (.sl e0),.t (.sl e1),.t (.sl e2),.t (tI e3),.ref 3 0 ar.length,.t (tI b1),.t (tI b2),.t (.sl (pend.map Rpt.e)),.t (.sl []),.t (.sl i0),.t (.sl i1),.t (.sl bw),.t (tI 0),.t (.sl []),.t (.sl k0),.t (.sl k1),.t (.bool k2),.t (tI 0),.t (tI 0),.t (tI 0),.t (tI 0),.t (.sl []),.t (.sl []),.t (.sl [])],.box pN,.arr 2 false 0 ((fl.map Spn.e).map .t),.arr 1 false 0 ((ar.map (T.int .i64)).map .t),.arr 7 false 0 []]⟩):=by
  intro z0 z5
  refine bH (fun j=>⟨[.und,.bp 0 0,.bp 1 0,.ref 4 0 0,I 0,.und],[.box [.t (.sl a0),.t (.sl a1),.t (tI a2),.t (.sl a3),.t (.sl a4),.t (.sl a5),.t (.sl a6),.t (.sl a7),.t (.sl a8),.t (.sl m0),.t (.sl m1),.ref 2 0 fl.length,.t (.sl e0),.t (.sl e1),.t (.sl e2),.t (tI e3),.ref 3 0 ar.length,.t (tI b1),.t (tI b2),.t (.sl (pend.map Rpt.e)),.t (.sl []),.t (.sl i0),.t (.sl i1),.t (.sl bw),.t (tI 0),.t (.sl []),.t (.sl k0),.t (.sl k1),.t (.bool k2),.t (tI 0),.t (tI 0),.t (tI 0),.t (tI 0),.t (.sl []),.t (.sl []),.t (.sl [])],.box pN,.arr 2 false 0 ((fl.map Spn.e).map .t),.arr 1 false 0 ((ar.map (T.int .i64)).map .t),.arr 7 false 0 []]⟩) 0 rfl ?_ ?_ (by simp)
  · intro j hj;omega
  · simp(disch:=omega)only[go_sem,K.wT,↓reduceIte,List.length_nil,reduceAdd,reduceSub]
 simp only[pN]at lp
 simp(disch:=omega)only[go_sem,K.jz,↓reduceIte,hT,hM,hE,hI,hB,hK,rp,r0,bz,s0,al,lp,reduceAdd,reduceSub]
structure Ply where
 tru:Tru
 ox:bq
 fl:List Spn
 esc:Esc
 bl:yc
 pend:List Rpt
 itk:Itk
 bel:Bel
 keys:Keys
abbrev Ply.cs(p:Ply):List T:=[.sl (p.tru.ox.aa.map Place.e),.sl (p.tru.ox.roads.map Road.e),tI p.tru.time,.sl (p.tru.people.map Wlk.e),tL p.tru.tags,.sl (p.tru.readers.map Rdr.e),tL p.tru.numbers,tL p.tru.looked,tLL p.tru.missed,
 .sl (p.ox.aa.map Place.e),.sl (p.ox.roads.map Road.e),tS p.fl,tL p.esc.safe,tL p.esc.bad,tL p.esc.shut,tI p.esc.gv,tL p.bl.area,tI p.bl.hold,tI p.bl.mis,.sl (p.pend.map Rpt.e),.sl [],tL p.itk.last,tL p.itk.lost,
 .sl (p.bel.fD.map World.e),tI 0,.sl [],tL p.keys.roads,tL p.keys.keys,.bool p.keys.out,tI 0,tI 0,tI 0,tI 0,.sl [],.sl [],.sl []]
abbrev Ply.e(p:Ply):T:= .agg p.cs
abbrev HG:Ply:=⟨Hw,⟨[],[]⟩,[],⟨[],[],[],0⟩,⟨[],0,0⟩,[],⟨[],[]⟩,⟨[]⟩,⟨[],[],false⟩⟩
structure Ply.sz(p:Ply):Prop where
 t:p.tru.sz
 mp:p.ox.aa.length≤1000000
 mr:p.ox.roads.length≤1000000
 f:p.fl.length≤1000000
 e:p.esc.sm
 a:p.bl.area.length≤1000000
 n:J3 p.pend
 i1:p.itk.last.length≤1000000
 i2:p.itk.lost.length≤1000000
 b:p.bel.sz
 k1:p.keys.roads.length≤1000000
 k2:p.keys.keys.length≤1000000
theorem J4(x:Itk)(h1:x.last.length≤1000000)(h2:x.lost.length≤1000000):aL 0 N.jv [.t x.e] []=some (.t x.e,[]):=by
 refine aj K.uY rfl ?_
 obtain⟨last,lost⟩:=x
 simp only at*
 simp(disch:=omega)only[go_sem,K.jv,↓reduceIte,reduceAdd,reduceSub]
theorem PR(p:Ply)(h:p.sz)(ht:aL 0 N.eQ [.t p.tru.e,I 0] []=some (.tup [.t p.tru.e,I 0],[])):aL 0 N.dX [.t p.e] []=some (.t p.e,[]):=
 SG h.n ht (zA p.ox.aa h.mp) (xt p.ox.roads h.mr) (MI p.fl h.f) (cT _ h.e.s) (cT _ h.e.b) (cT _ h.e.h) (cT _ h.a) (cT _ h.i1) (cT _ h.i2) (cT _ h.k1) (cT _ h.k2) (CK p.bel h.b)
theorem J5(p:Ply)(h:p.sz):aL 0 N.jz [.t p.e] []=some (.t p.e,[]):=
 PQ h.f h.a h.n (Cy p.tru h.t) (AG p.ox h.mp h.mr) (MK h.e) (J4 p.itk h.i1 h.i2) (Ed p.bel h.b) (Pk p.keys h.k2 h.k1)
end Go.Ev
namespace Go.Ev
open Go
variable [Lib] [bO] [bL] [dL] [dm] [hU] [dg] [dn] [eR] [dF] [bY] [b7] [dw] [dk]
theorem J6{m:bq}(hm:m.ok)(tags bh:List Int)(t:Int):(kH m tags bh t).1.sz:=by
 have z:Bel.sz ⟨[]⟩:=⟨by simp,fun x hx=>by simp at hx⟩
 unfold kH
 split
 · rename_i c
   split
   · split
     · exact z
     · refine⟨by simp,fun x hx=>?_⟩
       have hx:x=⟨tags,fO m bh t tags.length⟩:=List.mem_singleton.1 hx
       subst hx
       refine⟨by simp only;omega,by rw[jL];omega,fun w hw=>?_⟩
       simp only[fO,List.mem_map,aLu]at hw
       obtain⟨i,hi,rfl⟩:=hw
       unfold fG
       have np:=hm.np
       split
       · simp
       · split
         · rename_i c1 c2
           have hb:bnd ((kK m.aa.length).set (nth bh i).toNat t):=zn (zp _) (by unfold inT at c2;omega) (by unfold inT at c2;omega)
           have:=L3 hm t c2 none (by simp) (l:=(kK m.aa.length).set (nth bh i).toNat t) (by rw[List.length_set,oT]) hb
           simp only
           omega
         · simp
   · exact z
 · exact z
end Go.Ev
namespace Go.Ev
open Go
variable [Lib] [bO] [bL] [dL] [dm] [hU] [dg] [dn] [eR] [dF] [bY] [b7] [dw] [dk] [fM] [fp] [jx] [eS] [im] [j7] [pI] [pt] [px] [pU] [ny] [gx]
structure Stp where
 m:bq
 rd:List Rdr
 pl:List Int
 tg:List Int
 fl:List Spn
 esc:Esc
 bl:yc
 bar:List Int
structure Stp.sm(s:Stp):Prop where
 m:s.m.ok
 m1:1≤s.m.aa.length
 rd:s.rd.length≤3
 ro:∀r∈s.rd,Fp s.m.aa.length r
 pl:s.pl.length≤1000
 tg:s.tg.length≤3
 fl:s.fl.length≤1000
 esc:s.esc.sm
 bl:s.bl.area.length≤1000
 bar:s.bar.length≤1000
abbrev ajK:Rpt:=⟨0,0,0,[]⟩
def J7(m:bq)(r:Int):Bool:= !decide (0≤r∧r≤(m.roads.length:Int)-1)
def PS(s:Stp):Bool:=kY s.m s.fl&&(Su s.m s.esc&&(rF s.bl&&lQ s.bl.area s.m.aa.length))
def wV(s:Stp):Ply:=⟨(kD s.m s.rd s.pl s.tg 0).1,s.m,s.fl,s.esc,s.bl,List.replicate s.rd.length ajK,SD,(kH s.m s.tg s.pl 0).1,(mM s.bar).1⟩
def oD(s:Stp):Ply×Int:=
 if(kD s.m s.rd s.pl s.tg 0).2≠0 then(HG,(kD s.m s.rd s.pl s.tg 0).2)
 else if PS s=false then(HG,6)
 else if s.bar.any (J7 s.m)=true then(HG,4)
 else if(mM s.bar).2≠0 then(HG,(mM s.bar).2)
 else(wV s,0)
theorem yN{α:Type} [Dat α]{n i:Nat}(t:α)(h:i<n):nth (List.replicate n t) i=t:=gr (by rw[List.getElem?_replicate,if_pos h])
theorem SI{m:bq}{p:Int}(h:0≤p∧p≤(m.aa.length:Int)-1):(fG m p 0).2=0:=by
 unfold fG
 rw[if_neg (by omega),if_pos (show inT 0 by decide)]
theorem nT{m:bq}{l:List Rdr}{at' tags:List Int}(h:(kD m l at' tags 0).2=0):kD m l at' tags 0=(jE m l at' tags 0,0)∧yF m l=true∧(1≤at'.length∧at'.length≤12)∧tags.length=at'.length∧(∀p∈at',0≤p∧p≤(m.aa.length:Int)-1)∧fJ tags=true:=by
 have c4:¬ ¬((0:Int)≤0∧(0:Int)≤2147483648):=by omega
 unfold kD at h ⊢
 split at h
 · simp at h
 split at h
 · simp at h
 split at h
 · simp at h
 rename_i c1 c2 c3
 rw[if_neg c1,if_neg c2,if_neg c3,if_neg c4]
 simp only[not_or,Bool.not_eq_false,Decidable.not_not,ne_eq]at c1
 obtain⟨c0,c5,c6⟩:=c1
 refine⟨rfl,c0,by omega,c6,fun p hp=>?_,by simpa using c3⟩
 simp only[List.any_eq_true,not_exists,not_and,Bool.not_eq_true',decide_eq_false_iff_not,Decidable.not_not]at c2
 have:=c2 p hp
 omega
theorem zF{m:bq}{l:List Rdr}{at' tags:List Int}(h:(kD m l at' tags 0).2=0):(kH m tags at' 0).2=0∧(kH m tags at' 0).1=⟨[⟨tags,fO m at' 0 tags.length⟩]⟩:=by
 obtain⟨-, -,h1,h2,h3,h4⟩:=nT h
 unfold kH
 have hn:(List.range tags.length).find? (fun i=> !decide ((fG m (nth at' i) 0).2=0))=none:=by
  rw[List.find?_eq_none]
  intro i hi
  rw[aLu]at hi
  have:=SI (h3 _ (aE (show i<at'.length by omega)))
  simp[this]
 rw[if_pos ⟨h2,by omega,by omega⟩,if_pos h4,hn]
 exact⟨rfl,rfl⟩
theorem HH{s:Stp}(hs:s.sm)(h:(kD s.m s.rd s.pl s.tg 0).2=0):(jE s.m s.rd s.pl s.tg 0).ok:=by
 obtain⟨-,h0,h1,h2,h3,h4⟩:=nT h
 have:=hs.tg
 refine⟨hs.m,hs.m1,hs.rd,hs.ro,by simp[jE];omega,by simp[jE];omega,fun w hw=>?_,by simp[jE];omega,h4,by simp[jE],by simp[jE],by simp[jE],by simp[jE],by simp[jE],fun j hj=>?_,fun j hj=>?_,fun j hj i hi=>?_⟩
 · simp only[jE,List.mem_map]at hw
   obtain⟨p,hp,rfl⟩:=hw
   have q:=h3 p hp
   exact⟨⟨q.1,show p<(s.m.aa.length:Int)by omega⟩,.inl ⟨rfl,rfl⟩⟩
 · have hj:j<s.rd.length:=hj
   show(-1≤nth (List.replicate s.rd.length (-1:Int)) j∧nth (List.replicate s.rd.length (-1:Int)) j≤65535)∧(-1≤nth (List.replicate s.rd.length (-1:Int)) j∧nth (List.replicate s.rd.length (-1:Int)) j≤0)∧(nth (List.replicate s.rd.length (-1:Int)) j= -1↔nth (List.replicate s.rd.length (-1:Int)) j= -1)
   rw[yN _ hj]
   omega
 · simp only[jE]at hj ⊢
   rw[yN _ hj]
   simp
 · simp only[jE]at hj hi ⊢
   rw[yN _ hj]
   rw[List.length_map]at hi
   rw[yN _ hi]
   have:=(hs.ro _ (aE hj))
   exact⟨Int.le_refl _,this.m1⟩
theorem ajL{m:bq}{l:List Rdr}{at' tags:List Int}:PH (jE m l at' tags 0) 0=(jE m l at' tags 0,0):=by
 unfold PH
 rw[if_neg (by omega),if_neg (by simp[jE])]
 simp only[jE,Int.add_zero,List.map_map]
 congr 2
theorem ML(m:bq)(hr:m.roads.length≤1000000)(r:Int):aL 0 N.eW [I r,.bp 0 0] [.box (ae m)]=some (B (J7 m r),[.box (ae m)]):=by
 have i:=oa r 0 ((m.roads.length:Int)-1)
 refine aj K.qT rfl ?_
 unfold J7
 obtain⟨aa,roads⟩:=m
 simp only[ae]at*
 generalize decide (0≤r∧r≤(roads.length:Int)-1)=b at*
 simp(disch:=omega)only[go_sem,K.eW,↓reduceIte,i,reduceAdd,reduceSub]
theorem aef(m:bq)(l:List Int)(hl:l.length≤1000000)(hr:m.roads.length≤1000000):aL 0 N.ax [.t (tL l),.fn N.eW [.bp 0 0]] [.box (ae m)]=some (B (l.any (J7 m)),[.box (ae m)]):=
 o9 l (by omega) N.eW [[.sl (m.aa.map Place.e),.sl (m.roads.map Road.e)]] (J7 m) (fun p _=>ML m hr p)
theorem SJ{l:List Int}(h:lQ l 64=true)(h0:0<l.length){n:Int}(hn:n≤64):lQ l n=decide (nth l (l.length-1)<n):=by
 rw[Bool.eq_iff_iff,decide_eq_true_eq]
 simp only[lQ,aLx,aLu,decide_eq_true_eq]at h ⊢
 have mono:∀d j,j+d<l.length→nth l j≤nth l (j+d):=by
  intro d
  induction d with
  | zero=>intro j _;exact Int.le_refl _
  | succ d ih=>
    intro j hj
    have h1:=ih j (by omega)
    have h2:=(h (j+(d+1)) hj).2.2 (by omega)
    have e:j+(d+1)-1=j+d:=by omega
    rw[e]at h2
    omega
 refine⟨fun k=>(k _ (by omega)).2.1,fun k j hj=>?_⟩
 obtain⟨h1,h2,h3⟩:=h j hj
 have m:=mono (l.length-1-j) j (by omega)
 have e:j+(l.length-1-j)=l.length-1:=by omega
 rw[e]at m
 exact⟨h1,by omega,h3⟩
theorem CL{s:Stp}(hs:s.sm)(c0:(kD s.m s.rd s.pl s.tg 0).2=0):(wV s).sz:=by
 obtain⟨hE,f0,f1,f2,f3,f4⟩:=nT c0
 obtain⟨b0,b1⟩:=zF c0
 have np:=hs.m.np
 have nr:=hs.m.nr
 have h1:=hs.rd
 have h2:=hs.bar
 unfold wV
 rw[hE,b1]
 refine⟨(HH hs c0).sz,by simp only;omega,by simp only;omega,by have:=hs.fl;simp only;omega,hs.esc,by have:=hs.bl;simp only;omega,⟨by simp only[List.length_replicate];omega,fun r hr=>by rw[List.eq_of_mem_replicate hr];simp⟩,by simp[SD],by simp[SD],b1▸J6 hs.m s.tg s.pl 0,?_,?_⟩
 · unfold mM
   split
   · exact(show s.bar.length≤1000000 by omega)
   · simp
 · unfold mM
   split
   · simp only[zK,List.length_replicate];omega
   · simp
theorem HI{s:Stp}(hs:s.sm):aL 0 N.cW [.t s.m.e,.t (.sl (s.rd.map Rdr.e)),.t (tL s.pl),.t (tL s.tg),.t (tS s.fl),.t s.esc.e,.t s.bl.e,.t (tL s.bar)] []=some (.tup [.t (oD s).1.e,I (oD s).2],[]):=by
 refine aj K.ql rfl ?_
 have st:=PC hs.m s.rd s.pl s.tg 0 (by have:=hs.rd;omega) (fun y hy=>by have:=(hs.ro y hy).l;omega) (by have:=hs.pl;omega) (by have:=hs.tg;omega)
 unfold oD
 by_cases c0:(kD s.m s.rd s.pl s.tg 0).2=0
 · rw[if_neg (by simpa using c0)]
   obtain⟨hE,f0,f1,f2,f3,f4⟩:=nT c0
   have tk:=SC (HH hs c0) 0
   rw[ajL]at tk
   obtain⟨b0,b1⟩:=zF c0
   have sb:=Pu hs.m hs.m1 s.tg s.pl (by have:=hs.tg;omega) 0
   rw[b0]at sb
   rw[hE]at st
   have sm:=Fm hs.m hs.m1 s.fl (by have:=hs.fl;omega) [] (by simp) 0
   rw[MB]at sm
   generalize (Cf s.m s.fl [] 0).1=sw at sm
   obtain⟨swt,swf⟩:=sw
   have wv:=JV hs.m hs.esc
   have fv:=O6 s.bl (by have:=hs.bl;omega) ⟨0,0,0,0⟩
   have sf:JB s.bl ⟨0,0,0,0⟩=rF s.bl:=by
    rw[Cl]
    simp[yd]
   rw[sf]at fv
   have ks:=Sv s.bar (by have:=hs.bar;omega)
   have nr:=hs.m.nr
   have np:=hs.m.np
   have cf:=aef s.m s.bar (by have:=hs.bar;omega) (by omega)
   have ts:=JX
   have rl:=hs.rd
   have cp:(wV s).sz→aL 0 N.dX [.t (wV s).e] []=some (.t (wV s).e,[]):=fun hk=>PR (wV s) hk (by
    show aL 0 N.eQ [.t (kD s.m s.rd s.pl s.tg 0).1.e,I 0] []=some (.tup [.t (kD s.m s.rd s.pl s.tg 0).1.e,I 0],[])
    rw[hE];exact tk)
   have bz:=CL hs c0
   have cp:=cp bz
   unfold wV at cp ⊢
   rw[hE,b1]at cp ⊢
   rw[b1]at sb
   have hbl:=hs.bl
   clear b0 b1 bz tk f0 f1 f2 f3 f4 hE c0 sf
   simp only[tL,List.map_nil]at sm
   unfold PS
   unfold jE at*
   generalize fO s.m s.pl 0 s.tg.length=ws at*
   cases c1:kY s.m s.fl with
   | false=>
     rw[c1]at sm
     simp only[Bool.false_and,if_true,aLt,if_false]at sm ⊢
     obtain⟨⟨aa,roads⟩,rd,pl,tg,fl,⟨safe,bad,shut,gv⟩,⟨area,hold,mis⟩,bar⟩:=s
     simp only[Tru.e,Tru.cs]at*
     simp(disch:=omega)only[go_sem,K.cW,↓reduceIte,st,sm,reduceAdd,reduceSub]
     rfl
   | true=>
   rw[c1]at sm
   cases c2:Su s.m s.esc with
   | false=>
     rw[c2]at wv
     simp only[Bool.false_and,Bool.true_and,if_true,aLt,if_false]at sm ⊢
     obtain⟨⟨aa,roads⟩,rd,pl,tg,fl,⟨safe,bad,shut,gv⟩,⟨area,hold,mis⟩,bar⟩:=s
     simp only[Tru.e,Tru.cs]at*
     simp(disch:=omega)only[go_sem,K.cW,↓reduceIte,st,sm,wv,reduceAdd,reduceSub]
     rfl
   | true=>
   rw[c2]at wv
   cases c3:rF s.bl with
   | false=>
     rw[c3]at fv
     simp only[Bool.false_and,Bool.true_and,if_true,aLt,if_false]at sm ⊢
     obtain⟨⟨aa,roads⟩,rd,pl,tg,fl,⟨safe,bad,shut,gv⟩,⟨area,hold,mis⟩,bar⟩:=s
     simp only[Tru.e,Tru.cs]at*
     simp(disch:=omega)only[go_sem,K.cW,↓reduceIte,st,sm,wv,fv,reduceAdd,reduceSub]
     rfl
   | true=>
   rw[c3]at fv
   obtain⟨g1,g2⟩:0<s.bl.area.length∧lQ s.bl.area 64=true:=by
    unfold rF at c3
    simp only[aLr,decide_eq_true_eq]at c3
    exact⟨c3.1.1.1,c3.1.1.2⟩
   have sl:=SJ g2 g1 (n:=s.m.aa.length) (by omega)
   have ex:(s.bl.area.map (T.int .i64))[s.bl.area.length-1]?=some (.int .i64 (nth s.bl.area (s.bl.area.length-1))):=bE _ (by omega)
   have nn:((s.bl.area.length:Int)-1).toNat=s.bl.area.length-1:=by omega
   by_cases c4:nth s.bl.area (s.bl.area.length-1)<s.m.aa.length
   case neg=>
    rw[decide_eq_false c4]at sl
    rw[sl]
    have c4:nth s.bl.area (s.bl.area.length-1)≥s.m.aa.length:=by omega
    simp only[Bool.false_and,Bool.true_and,if_true,aLt,if_false]at sm ⊢
    generalize nth s.bl.area (s.bl.area.length-1)=la at*
    obtain⟨⟨aa,roads⟩,rd,pl,tg,fl,⟨safe,bad,shut,gv⟩,⟨area,hold,mis⟩,bar⟩:=s
    simp only[Tru.e,Tru.cs]at*
    simp(disch:=omega)only[go_sem,K.cW,↓reduceIte,st,sm,wv,fv,ex,nn,c4,reduceAdd,reduceSub]
    rfl
   rw[decide_eq_true c4]at sl
   rw[sl]
   have c4:¬nth s.bl.area (s.bl.area.length-1)≥s.m.aa.length:=by omega
   generalize nth s.bl.area (s.bl.area.length-1)=la at*
   simp only[Bool.and_self,Bool.true_eq_false,if_true,if_false]at sm ⊢
   cases c5:s.bar.any (J7 s.m)with
   | true=>
     rw[c5]at cf
     rw[if_pos rfl]
     obtain⟨⟨aa,roads⟩,rd,pl,tg,fl,⟨safe,bad,shut,gv⟩,⟨area,hold,mis⟩,bar⟩:=s
     simp only[Tru.e,Tru.cs,ae]at*
     simp(disch:=omega)only[go_sem,K.cW,↓reduceIte,st,sm,wv,fv,ex,nn,c4,cf,reduceAdd,reduceSub]
     rfl
   | false=>
   rw[c5]at cf
   rw[if_neg (by simp)]
   by_cases c6:(mM s.bar).2=0
   case neg=>
    rw[if_pos c6]
    generalize mM s.bar=kk at*
    obtain⟨⟨kr,kk,ko⟩,ke⟩:=kk
    simp only at c6
    obtain⟨⟨aa,roads⟩,rd,pl,tg,fl,⟨safe,bad,shut,gv⟩,⟨area,hold,mis⟩,bar⟩:=s
    simp only[Tru.e,Tru.cs,ae]at*
    simp(disch:=omega)only[go_sem,K.cW,↓reduceIte,st,sm,wv,fv,ex,nn,c4,cf,ks,c6,reduceAdd,reduceSub]
    rfl
   rw[if_neg (by simpa using c6)]
   rw[c6]at ks
   generalize mM s.bar=kk at*
   obtain⟨⟨kr,kk,ko⟩,ke⟩:=kk
   generalize SD=ik at*
   obtain⟨il,io⟩:=ik
   simp only at c6 ks
   have rz:(List.replicate s.rd.length ajK).map Rpt.e=List.replicate s.rd.length (.agg [.int .i64 0,.int .i64 0,.int .i64 0,.sl []]):=by
    rw[List.map_replicate]
    rfl
   simp only[Ply.e,Ply.cs,rz,List.map_cons,List.map_nil]at cp ⊢
   obtain⟨⟨aa,roads⟩,rd,pl,tg,fl,⟨safe,bad,shut,gv⟩,⟨area,hold,mis⟩,bar⟩:=s
   simp only[Tru.e,Tru.cs,ae]at*
   simp(disch:=omega)only[go_sem,K.cW,↓reduceIte,st,sm,wv,fv,ex,nn,c4,cf,ks,sb,ts,cp,reduceAdd,reduceSub]
 · rw[if_pos c0]
   generalize kD s.m s.rd s.pl s.tg 0=t at*
   obtain⟨⟨⟨tp,tr⟩,time,people,tags,readers,numbers,looked,missed⟩,ec⟩:=t
   obtain⟨⟨aa,roads⟩,rd,pl,tg,fl,⟨safe,bad,shut,gv⟩,⟨area,hold,mis⟩,bar⟩:=s
   simp only[Tru.e,Tru.cs]at*
   simp(disch:=omega)only[go_sem,K.cW,↓reduceIte,st,c0,reduceAdd,reduceSub]
   rfl
abbrev PT(m:bq)(e:Esc)(b:yc)(x:Tru):aq:=[.box (ae m),.box [.t (tL e.safe),.t (tL e.bad),.t (tL e.shut),.t (tI e.gv)],.box [.t (tL b.area),.t (tI b.hold),.t (tI b.mis)],.box pN,.box (x.cs.map .t)]
abbrev QD(rd:List Rdr)(pl tg:List Int)(fl:List Spn)(l:List Int)(c:D)(j:Int):List D:=[.und,.t (.sl (rd.map Rdr.e)),.t (tL pl),.t (tL tg),.t (tS fl),.und,.und,.t (tL l),.bp 0 0,.bp 1 0,.bp 2 0,.bp 3 0,c,.bp 4 0,.und,I j,.und,.und,.und]
theorem aeg(m:bq)(e:Esc)(b:yc)(x:Tru)(l:List Int)(hl:l.length≤1000000)(rd:List Rdr)(pl tg:List Int)(fl:List Spn):∀z0 z5 z6 z12 z14 z16 z17 z18:D,
 exS aL K.wQ ⟨[z0,.t (.sl (rd.map Rdr.e)),.t (tL pl),.t (tL tg),.t (tS fl),z5,z6,.t (tL l),.bp 0 0,.bp 1 0,.bp 2 0,.bp 3 0,z12,.bp 4 0,z14,I 0,z16,z17,z18],PT m e b x⟩=
  some (if l.any (J7 m)=true then(.ret,⟨QD rd pl tg fl l (I 4) (uw l.length fun j=>J7 m (nth l j)),PT m e b x⟩)else(.exit 0,⟨QD rd pl tg fl l .und l.length,PT m e b x⟩)):=by
 intro z0 z5 z6 z12 z14 z16 z17 z18
 rw[← Cb l (J7 m)]
 refine pc (gc:=true) (dead:=[0,5,6,12,14,16,17,18]) (c:=K.jA) (fun j=>⟨QD rd pl tg fl l .und j,PT m e b x⟩) l.length (fun j=>J7 m (nth l j)) (fun j=>(.ret,⟨QD rd pl tg fl l (I 4) j,PT m e b x⟩)) _ rfl ?_ ?_ ?_ (by simp)
 · intro j hj hq
   have ex:(l.map (T.int .i64))[j]?=some (.int .i64 (nth l j)):=bE _ hj
   have hq:0≤nth l j∧nth l j≤(m.roads.length:Int)-1:=by simpa [J7]using hq
   generalize nth l j=y at*
   obtain⟨aa,roads⟩:=m
   obtain⟨safe,bad,shut,gv⟩:=e
   obtain⟨area,hold,mis⟩:=b
   obtain⟨⟨xp,xr⟩,time,people,tags,readers,numbers,looked,missed⟩:=x
   simp only[ae,QD,PT,pN,Tru.cs,List.map_cons,List.map_nil]at*
   simp(disch:=omega)only[go_sem,K.jA,↓reduceIte,ex,reduceAdd,reduceSub]
 · intro j hj hq
   have ex:(l.map (T.int .i64))[j]?=some (.int .i64 (nth l j)):=bE _ hj
   have hq:¬(0≤nth l j∧nth l j≤(m.roads.length:Int)-1):=by
    intro c
    simp[J7]at hq
    omega
   refine⟨?_,by simp⟩
   generalize nth l j=y at*
   obtain⟨aa,roads⟩:=m
   obtain⟨safe,bad,shut,gv⟩:=e
   obtain⟨area,hold,mis⟩:=b
   obtain⟨⟨xp,xr⟩,time,people,tags,readers,numbers,looked,missed⟩:=x
   simp only[ae,QD,PT,pN,Tru.cs,List.map_cons,List.map_nil]at*
   by_cases c:y<0
   · simp(disch:=omega)only[go_sem,K.jA,↓reduceIte,ex,c,reduceAdd,reduceSub]
   · have c2:y≥roads.length:=by omega
     simp(disch:=omega)only[go_sem,K.jA,↓reduceIte,ex,c,c2,reduceAdd,reduceSub]
 · obtain⟨aa,roads⟩:=m
   obtain⟨safe,bad,shut,gv⟩:=e
   obtain⟨area,hold,mis⟩:=b
   obtain⟨⟨xp,xr⟩,time,people,tags,readers,numbers,looked,missed⟩:=x
   simp only[ae,QD,PT,pN,Tru.cs,List.map_cons,List.map_nil]at*
   simp(disch:=omega)only[go_sem,K.jA,↓reduceIte,reduceAdd,reduceSub]
theorem Fv{s:Stp}(hs:s.sm):aL 0 N.cJ [.t s.m.e,.t (.sl (s.rd.map Rdr.e)),.t (tL s.pl),.t (tL s.tg),.t (tS s.fl),.t s.esc.e,.t s.bl.e,.t (tL s.bar)] []=some (.tup [.t (oD s).1.e,I (oD s).2],[]):=by
 refine aj K.oO rfl ?_
 have st:=JU hs.m s.rd s.pl s.tg 0 (by have:=hs.rd;omega) (fun y hy=>by have:=(hs.ro y hy).l;omega) (by have:=hs.pl;omega) (by have:=hs.tg;omega)
 unfold oD
 by_cases c0:(kD s.m s.rd s.pl s.tg 0).2=0
 · rw[if_neg (by simpa using c0)]
   obtain⟨hE,f0,f1,f2,f3,f4⟩:=nT c0
   obtain⟨b0,b1⟩:=zF c0
   have sb:=JJ hs.m s.tg s.pl (by have:=hs.tg;omega) 0
   rw[b0]at sb
   rw[hE]at st
   have sm:=RQ s.m (by have:=hs.m.nr;omega) s.fl (by have:=hs.fl;omega)
   have wv:=X3 hs.m hs.esc
   have fv:=Pj s.bl (by have:=hs.bl;omega) ⟨0,0,0,0⟩
   have sf:JB s.bl ⟨0,0,0,0⟩=rF s.bl:=by
    rw[Cl]
    simp[yd]
   rw[sf]at fv
   have ks:=Sw s.bar (by have:=hs.bar;omega)
   have nr:=hs.m.nr
   have np:=hs.m.np
   have cf:=aeg s.m s.esc s.bl (jE s.m s.rd s.pl s.tg 0) s.bar (by have:=hs.bar;omega) s.rd s.pl s.tg s.fl
   have ts:=JY
   have rl:=hs.rd
   have cp:=J5 (wV s) (CL hs c0)
   unfold wV at cp ⊢
   rw[hE,b1]at cp ⊢
   rw[b1]at sb
   have hbl:=hs.bl
   clear b0 b1 f0 f1 f2 f3 f4 hE c0 sf
   unfold PS
   unfold jE at*
   generalize fO s.m s.pl 0 s.tg.length=ws at*
   cases c1:kY s.m s.fl with
   | false=>
     rw[c1]at sm
     simp only[Bool.false_and,if_true,aLt,if_false]
     obtain⟨⟨aa,roads⟩,rd,pl,tg,fl,⟨safe,bad,shut,gv⟩,⟨area,hold,mis⟩,bar⟩:=s
     simp only[Tru.e,Tru.cs]at*
     simp(disch:=omega)only[go_sem,K.cJ,↓reduceIte,st,sm,reduceAdd,reduceSub]
     rfl
   | true=>
   rw[c1]at sm
   cases c2:Su s.m s.esc with
   | false=>
     rw[c2]at wv
     simp only[Bool.false_and,Bool.true_and,if_true,aLt,if_false]
     obtain⟨⟨aa,roads⟩,rd,pl,tg,fl,⟨safe,bad,shut,gv⟩,⟨area,hold,mis⟩,bar⟩:=s
     simp only[Tru.e,Tru.cs]at*
     simp(disch:=omega)only[go_sem,K.cJ,↓reduceIte,st,sm,wv,reduceAdd,reduceSub]
     rfl
   | true=>
   rw[c2]at wv
   cases c3:rF s.bl with
   | false=>
     rw[c3]at fv
     simp only[Bool.false_and,Bool.true_and,if_true,aLt,if_false]
     obtain⟨⟨aa,roads⟩,rd,pl,tg,fl,⟨safe,bad,shut,gv⟩,⟨area,hold,mis⟩,bar⟩:=s
     simp only[Tru.e,Tru.cs]at*
     simp(disch:=omega)only[go_sem,K.cJ,↓reduceIte,st,sm,wv,fv,reduceAdd,reduceSub]
     rfl
   | true=>
   rw[c3]at fv
   have sl:=wj s.bl.area s.m.aa.length (by omega)
   cases c4:lQ s.bl.area s.m.aa.length with
   | false=>
     rw[c4]at sl
     simp only[Bool.false_and,Bool.true_and,if_true,aLt,if_false]
     obtain⟨⟨aa,roads⟩,rd,pl,tg,fl,⟨safe,bad,shut,gv⟩,⟨area,hold,mis⟩,bar⟩:=s
     simp only[Tru.e,Tru.cs]at*
     simp(disch:=omega)only[go_sem,K.cJ,↓reduceIte,st,sm,wv,fv,sl,reduceAdd,reduceSub]
     rfl
   | true=>
   rw[c4]at sl
   simp only[Bool.and_self,Bool.true_eq_false,if_true,if_false]
   cases c5:s.bar.any (J7 s.m)with
   | true=>
     simp only[c5,if_true,aLt,if_false]at cf
     rw[if_pos rfl]
     obtain⟨⟨aa,roads⟩,rd,pl,tg,fl,⟨safe,bad,shut,gv⟩,⟨area,hold,mis⟩,bar⟩:=s
     simp only[Tru.e,Tru.cs,ae,QD,PT,pN,List.map_cons,List.map_nil]at*
     simp(disch:=omega)only[go_sem,K.cJ,↓reduceIte,st,sm,wv,fv,sl,cf,reduceAdd,reduceSub]
     rfl
   | false=>
   simp only[c5,if_true,aLt,if_false]at cf
   rw[if_neg (by simp)]
   by_cases c6:(mM s.bar).2=0
   case neg=>
    rw[if_pos c6]
    generalize mM s.bar=kk at*
    obtain⟨⟨kr,kk,ko⟩,ke⟩:=kk
    simp only at c6
    obtain⟨⟨aa,roads⟩,rd,pl,tg,fl,⟨safe,bad,shut,gv⟩,⟨area,hold,mis⟩,bar⟩:=s
    simp only[Tru.e,Tru.cs,ae,QD,PT,pN,List.map_cons,List.map_nil]at*
    simp(disch:=omega)only[go_sem,K.cJ,↓reduceIte,st,sm,wv,fv,sl,cf,ks,c6,reduceAdd,reduceSub]
    rfl
   rw[if_neg (by simpa using c6)]
   rw[c6]at ks
   generalize mM s.bar=kk at*
   obtain⟨⟨kr,kk,ko⟩,ke⟩:=kk
   generalize SD=ik at*
   obtain⟨il,io⟩:=ik
   simp only at c6 ks
   have rz:(List.replicate s.rd.length ajK).map Rpt.e=List.replicate s.rd.length (.agg [.int .i64 0,.int .i64 0,.int .i64 0,.sl []]):=by
    rw[List.map_replicate]
    rfl
   simp only[Ply.e,Ply.cs,rz,List.map_cons,List.map_nil]at cp ⊢
   obtain⟨⟨aa,roads⟩,rd,pl,tg,fl,⟨safe,bad,shut,gv⟩,⟨area,hold,mis⟩,bar⟩:=s
   simp only[Tru.e,Tru.cs,ae,QD,PT,pN,List.map_cons,List.map_nil]at*
   simp(disch:=omega)only[go_sem,K.cJ,↓reduceIte,st,sm,wv,fv,sl,cf,ks,sb,ts,cp,reduceAdd,reduceSub]
 · rw[if_pos c0]
   generalize kD s.m s.rd s.pl s.tg 0=t at*
   obtain⟨⟨⟨tp,tr⟩,time,people,tags,readers,numbers,looked,missed⟩,ec⟩:=t
   obtain⟨⟨aa,roads⟩,rd,pl,tg,fl,⟨safe,bad,shut,gv⟩,⟨area,hold,mis⟩,bar⟩:=s
   simp only[Tru.e,Tru.cs]at*
   simp(disch:=omega)only[go_sem,K.cJ,↓reduceIte,st,c0,reduceAdd,reduceSub]
   rfl
set_option maxRecDepth 20000 in
set_option maxRecDepth 20000 in
theorem SK{a0 a1 a3 a4 a5 a6 a7 a8 m0 m1 f e0 e1 e2 b0 pe i0 i1 bw k0 k1:List T}{a2 e3 b1 b2:Int}{k2:Bool}(hT:aL 0 N.jt [.t (.agg [.sl a0,.sl a1,tI a2,.sl a3,.sl a4,.sl a5,.sl a6,.sl a7,.sl a8]),.t (.agg [.sl a0,.sl a1,tI a2,.sl a3,.sl a4,.sl a5,.sl a6,.sl a7,.sl a8])] []=some (B true,[]))(hM:aL 0 N.cB [.t (.agg [.sl m0,.sl m1]),.t (.agg [.sl m0,.sl m1])] []=some (B true,[]))(hF:aL 0 N.de [.t (.sl f),.t (.sl f)] []=some (B true,[]))(hE:aL 0 N.cM [.t (.agg [.sl e0,.sl e1,.sl e2,tI e3]),.t (.agg [.sl e0,.sl e1,.sl e2,tI e3])] []=some (B true,[]))(hb:aL 0 N.aS [.t (.sl b0),.t (.sl b0)] []=some (B true,[]))(hP:aL 0 N.bQ [.t (.sl pe),.t (.sl pe)] []=some (B true,[]))(hP0:aL 0 N.bQ [.t (.sl []),.t (.sl [])] []=some (B true,[]))(hI:aL 0 N.cL [.t (.agg [.sl i0,.sl i1]),.t (.agg [.sl i0,.sl i1])] []=some (B true,[]))(hB:aL 0 N.gM [.t (.agg [.sl bw]),.t (.agg [.sl bw])] []=some (B true,[]))(hB0:aL 0 N.gM [.t (.agg [.sl []]),.t (.agg [.sl []])] []=some (B true,[]))(hS:aL 0 N.jm [.t (.agg [tI 0,.sl []]),.t (.agg [tI 0,.sl []])] []=some (B true,[]))(hK:aL 0 N.jr [.t (.agg [.sl k0,.sl k1,.bool k2]),.t (.agg [.sl k0,.sl k1,.bool k2])] []=some (B true,[]))(hA:aL 0 N.jy [.t (.sl []),.t (.sl [])] []=some (B true,[]))(hL:aL 0 N.eK [.t (.sl []),.t (.sl [])] []=some (B true,[])):aL 0 N.gQ [.t (.agg [.sl a0,.sl a1,tI a2,.sl a3,.sl a4,.sl a5,.sl a6,.sl a7,.sl a8,.sl m0,.sl m1,.sl f,.sl e0,.sl e1,.sl e2,tI e3,.sl b0,tI b1,tI b2,.sl pe,.sl [],.sl i0,.sl i1,.sl bw,tI 0,.sl [],.sl k0,.sl k1,.bool k2,tI 0,tI 0,tI 0,tI 0,.sl [],.sl [],.sl []]),.t (.agg [.sl a0,.sl a1,tI a2,.sl a3,.sl a4,.sl a5,.sl a6,.sl a7,.sl a8,.sl m0,.sl m1,.sl f,.sl e0,.sl e1,.sl e2,tI e3,.sl b0,tI b1,tI b2,.sl pe,.sl [],.sl i0,.sl i1,.sl bw,tI 0,.sl [],.sl k0,.sl k1,.bool k2,tI 0,tI 0,tI 0,tI 0,.sl [],.sl [],.sl []])] []=some (B true,[]):=by
 refine aj K.u9 rfl ?_
 simp(disch:=omega)only[go_sem,K.gQ,↓reduceIte,hT,hM,hF,hE,hb,hP,hP0,hI,hB,hB0,hS,hK,hA,hL,Bool.true_and,decide_true,reduceAdd,reduceSub]
theorem PU(l:List Spn)(hl:l.length≤1000000):aL 0 N.de [.t (tS l),.t (tS l)] []=some (B true,[]):=by
 refine aj K.nz rfl ?_
 have lp:∀z2:D,exS aL K.qk ⟨[.t (tS l),.t (tS l),z2,I 0],[]⟩=
  some (.exit 0,⟨[.t (tS l),.t (tS l),.und,I l.length],[]⟩):=by
  intro z2
  refine bH (fun j=>⟨[.t (tS l),.t (tS l),.und,I j],[]⟩) l.length rfl ?_ ?_ (by simp)
  · intro j hj
    have ex:(l.map Spn.e)[j]?=some (nth l j).e:=bE _ hj
    generalize nth l j=w at*
    obtain⟨a,b⟩:=w
    simp(disch:=omega)only[go_sem,K.lJ,↓reduceIte,ex,reduceAdd,reduceSub]
  · simp(disch:=omega)only[go_sem,K.lJ,↓reduceIte,reduceAdd,reduceSub]
 simp(disch:=omega)only[go_sem,K.de,↓reduceIte,lp,reduceAdd,reduceSub]
theorem MM{e:Esc}(he:e.sm):aL 0 N.cM [.t e.e,.t e.e] []=some (B true,[]):=by
 refine aj K.mQ rfl ?_
 obtain⟨h1,h2,h3⟩:=he
 obtain⟨safe,bad,shut,gv⟩:=e
 simp only at h1 h2 h3
 have s1:=kt safe safe (by omega)
 have s2:=kt bad bad (by omega)
 have s3:=kt shut shut (by omega)
 simp only[decide_true]at s1 s2 s3
 simp(disch:=omega)only[go_sem,K.cM,↓reduceIte,s1,s2,s3,decide_true,reduceAdd,reduceSub]
theorem J8(r:Rpt):Lq r r=true:=by
 unfold Lq
 simp
theorem Eu(l:List Rpt)(h:J3 l):aL 0 N.bQ [.t (.sl (l.map Rpt.e)),.t (.sl (l.map Rpt.e))] []=some (B true,[]):=by
 refine aj K.lK rfl ?_
 obtain⟨h1,h2⟩:=h
 have lp:∀z2:D,exS aL K.oB ⟨[.t (.sl (l.map Rpt.e)),.t (.sl (l.map Rpt.e)),z2,I 0],[]⟩=
  some (.exit 0,⟨[.t (.sl (l.map Rpt.e)),.t (.sl (l.map Rpt.e)),.und,I l.length],[]⟩):=by
  intro z2
  refine bH (fun j=>⟨[.t (.sl (l.map Rpt.e)),.t (.sl (l.map Rpt.e)),.und,I j],[]⟩) l.length rfl ?_ ?_ (by simp)
  · intro j hj
    have ex:(l.map Rpt.e)[j]?=some (nth l j).e:=bE _ hj
    have sr:=PI (nth l j) (nth l j) (h2 _ (aE hj))
    rw[J8]at sr
    generalize nth l j=w at*
    obtain⟨a,b,c,d⟩:=w
    simp(disch:=omega)only[go_sem,K.kE,↓reduceIte,ex,sr,reduceAdd,reduceSub]
  · simp(disch:=omega)only[go_sem,K.kE,↓reduceIte,reduceAdd,reduceSub]
 simp(disch:=omega)only[go_sem,K.bQ,↓reduceIte,lp,reduceAdd,reduceSub]
theorem MN:aL 0 N.jy [.t (.sl []),.t (.sl [])] []=some (B true,[]):=by
 refine aj K.vd rfl ?_
 have lp:∀z2:D,exS aL K.yI ⟨[.t (.sl []),.t (.sl []),z2,I 0],[]⟩=
  some (.exit 0,⟨[.t (.sl []),.t (.sl []),.und,I 0],[]⟩):=by
  intro z2
  refine bH (fun j=>⟨[.t (.sl []),.t (.sl []),.und,I j],[]⟩) 0 rfl ?_ ?_ (by simp)
  · intro j hj;omega
  · simp(disch:=omega)only[go_sem,K.wR,↓reduceIte,List.length_nil,reduceAdd,reduceSub]
 simp(disch:=omega)only[go_sem,K.jy,↓reduceIte,lp,List.length_nil,reduceAdd,reduceSub]
theorem MO:aL 0 N.eK [.t (.sl []),.t (.sl [])] []=some (B true,[]):=by
 refine aj K.pJ rfl ?_
 have lp:∀z2:D,exS aL K.td ⟨[.t (.sl []),.t (.sl []),z2,I 0],[]⟩=
  some (.exit 0,⟨[.t (.sl []),.t (.sl []),.und,I 0],[]⟩):=by
  intro z2
  refine bH (fun j=>⟨[.t (.sl []),.t (.sl []),.und,I j],[]⟩) 0 rfl ?_ ?_ (by simp)
  · intro j hj;omega
  · simp(disch:=omega)only[go_sem,K.rL,↓reduceIte,List.length_nil,reduceAdd,reduceSub]
 simp(disch:=omega)only[go_sem,K.eK,↓reduceIte,lp,List.length_nil,reduceAdd,reduceSub]
theorem zG(p:Ply)(h:p.sz):aL 0 N.gQ [.t p.e,.t p.e] []=some (B true,[]):=by
 have s1:=kt p.bl.area p.bl.area (by have:=h.a;omega)
 simp only[decide_true]at s1
 have s2:=Eu [] ⟨by simp,by simp⟩
 have s3:=Li ⟨[]⟩ ⟨by simp,by simp⟩
 have s4:=Sg ⟨0,[]⟩ (by simp)
 exact SK (Ss p.tru h.t) (SE p.ox h.mp h.mr) (PU p.fl h.f) (MM h.e) s1 (Eu p.pend h.n) s2 (MF p.itk h.i1 h.i2) (Li p.bel h.b) s3 s4 (Mo p.keys h.k1 h.k2) MN MO
abbrev Stp.cs(s:Stp):List T:=[.sl (s.m.aa.map Place.e),.sl (s.m.roads.map Road.e),.sl (s.rd.map Rdr.e),tL s.pl,tL s.tg,tS s.fl,tL s.esc.safe,tL s.esc.bad,tL s.esc.shut,tI s.esc.gv,tL s.bl.area,tI s.bl.hold,tI s.bl.mis,tL s.bar]
abbrev Stp.e(s:Stp):T:= .agg s.cs
def tgs(c:Int)(j:Nat):List Int:=(List.range j).map fun(i:Nat)=>30-7*(c-(i:Int))
theorem SL(c:Int)(j:Nat):tgs c (j+1)=tgs c j++[30-7*(c-(j:Int))]:=by
 unfold tgs
 rw[List.range_succ,List.map_append]
 rfl
theorem J9(c:Int)(j:Nat):(tgs c j).length=j:=by simp[tgs]
abbrev zSt:List D:=[.nil,.nil,.nil,.nil,.nil,.nil,.nil,.nil,.nil,I 0,.nil,I 0,I 0,.nil]
abbrev suH(e:aT)(m:bq)(rd:List Rdr)(p q:List Int):aq:=[e.obj,.box zSt,.box [.t (.sl (m.aa.map Place.e)),.t (.sl (m.roads.map Road.e)),.t (.sl (rd.map Rdr.e)),.ref 5 0 p.length,.ref 6 0 q.length,.nil,.nil,.nil,.nil,I 0,.nil,I 0,I 0,.nil],.arr 1 false 0 [],.arr 1 false 0 [],.arr 1 false 0 ((p.map (T.int .i64)).map .t),.arr 1 false 0 ((q.map (T.int .i64)).map .t)]
def suP(m:bq)(rd:List Rdr)(c:Nat)(j:Nat)(s:St):Prop:=
 ∃(e:aT) (p:List Int),s=⟨[.bp 0 0,.bp 1 0,.bp 2 0,I m.aa.length,I ((c:Int)-j)],suH e m rd p (tgs c j)⟩∧e.dY∧p.length=j∧∀x∈p,0≤x∧x≤(m.aa.length:Int)-1
theorem Yg{e0:aT}(l0:e0.dY){m:bq}(hm:m.ok)(h1:1≤m.aa.length)(rd:List Rdr)(c:Nat)(hc:c≤3):
 ∃(e:aT) (p:List Int),e.dY∧p.length=c∧(∀x∈p,0≤x∧x≤(m.aa.length:Int)-1)∧exS aL K.mO ⟨[.bp 0 0,.bp 1 0,.bp 2 0,I m.aa.length,I c],suH e0 m rd [] []⟩=some (.exit 0,⟨[.bp 0 0,.bp 1 0,.bp 2 0,I m.aa.length,I 0],suH e m rd p (tgs c c)⟩):=by
 have np:=hm.np
 have key:∃r,exS aL K.mO ⟨[.bp 0 0,.bp 1 0,.bp 2 0,I m.aa.length,I c],suH e0 m rd [] []⟩=some r∧
  ∃(e:aT) (p:List Int),r=(.exit 0,⟨[.bp 0 0,.bp 1 0,.bp 2 0,I m.aa.length,I 0],suH e m rd p (tgs c c)⟩)∧e.dY∧p.length=c∧∀x∈p,0≤x∧x≤(m.aa.length:Int)-1:=by
  refine adx (suP m rd c) c _ ?_ ?_ ?_
  · refine⟨e0,[],?_,l0,rfl,by simp⟩
    simp only[Int.natCast_zero,Int.sub_zero];rfl
  · rintro j s hj ⟨e,p,rfl,l1,h2,h3⟩
    obtain⟨v,e1,nx,l2,v1,v2⟩:=mI l1 m.aa.length (by omega) (by omega)
    refine .inl ⟨_,?_,e1,p++[v],rfl,l2,by simp[h2],fun x hx=>?_⟩
    · have g1:((c:Int)-j>0):=by omega
      have g2:(c:Int)-((j+1:Nat):Int)=(c:Int)-j-1:=by omega
      have tl:=J9 c j
      rw[g2,SL]
      simp only[suH,aLv,List.length_singleton,List.map_append,List.map_cons,List.map_nil]
      have c0:(0:Int)≤c:=by omega
      generalize hw:(c:Int)-j=w at*
      have w3:w≤3:=by omega
      generalize tgs c j=q at*
      obtain⟨aa,roads⟩:=m
      simp only at*
      simp(disch:=omega)only[go_sem,K.lI,↓reduceIte,nx,g1,h2,tl,List.map_append,List.map_cons,List.map_nil,reduceAdd,reduceSub]
    · rw[List.mem_append,List.mem_singleton]at hx
      rcases hx with hx | rfl
      · exact h3 x hx
      · omega
  · rintro s ⟨e,p,rfl,l1,h2,h3⟩
    refine⟨_,?_,by simp,e,p,rfl,l1,h2,h3⟩
    simp only[Int.sub_self]
    simp(disch:=omega)only[go_sem,K.lI,↓reduceIte,reduceAdd,reduceSub]
 obtain⟨r,hr,e,p,rfl,a,b,d⟩:=key
 exact⟨e,p,a,b,d,hr⟩
theorem HJ{l:List Int}{a b:Int}(h:lQ l a=true)(hab:a≤b):lQ l b=true:=by
 simp only[lQ,aLx,aLu,decide_eq_true_eq]at h ⊢
 intro j hj
 have:=h j hj
 exact⟨this.1,by omega,this.2.2⟩
theorem vJ{a b n:Int}(h0:0≤a)(h1:a<b)(h2:b<n):lQ [a,b] n=true:=by
 simp only[lQ,aLx,aLu,decide_eq_true_eq,List.length_cons,List.length_nil]
 intro j hj
 have:j=0∨j=1:=by omega
 rcases this with rfl | rfl
 · exact⟨h0,(by omega:a<n),fun c=>absurd c (by omega)⟩
 · exact⟨(by omega:0≤b),h2,fun _=>h1⟩
structure Stp.made(s:Stp):Prop where
 sm:s.sm
 ok:(oD s).2=0
 p2:2≤s.m.aa.length
 r1:1≤s.m.roads.length
 p1:1≤s.pl.length
 p3:s.pl.length≤3
 tl:s.tg.length=s.pl.length
 fl:s.fl.length=s.m.roads.length
 br:s.bar.length≤128
theorem SM{s:Stp}(hs:s.sm)(p1:1≤s.pl.length)(p3:s.pl.length≤3)(tl:s.tg.length=s.pl.length)(tp:fJ s.tg=true)(pp:∀x∈s.pl,0≤x∧x≤(s.m.aa.length:Int)-1)(fo:PS s=true)
 (sb:lQ s.bar s.m.roads.length=true) (b1:1≤s.bar.length) (b2:s.bar.length≤12):(oD s).2=0:=by
 have h0:kD s.m s.rd s.pl s.tg 0=(jE s.m s.rd s.pl s.tg 0,0):=by
  unfold kD
  have rb:yF s.m s.rd=true:=by
   unfold yF
   rw[decide_eq_true (by have:=hs.rd;omega),Bool.true_and,Bool.not_eq_true',List.any_eq_false]
   intro r hr
   rw[(hs.ro r hr).odd]
   decide
  rw[if_neg (by rw[rb];simp;omega),if_neg ?_,if_neg (by rw[tp];simp),if_neg (by omega)]
  simp only[List.any_eq_true,not_exists,not_and,Bool.not_eq_true',decide_eq_false_iff_not,Decidable.not_not]
  intro x hx
  have:=pp x hx
  omega
 have k0:(mM s.bar).2=0:=by
  unfold mM
  have:oe s.bar=true:=by
   unfold oe
   rw[decide_eq_true (by omega),Bool.true_and]
   have e:=zv s.bar 128
   have w:=HJ sb (b:=128) (by have:=hs.m.nr;omega)
   rw[← e]at w
   exact w
  rw[if_pos this]
 have o0:¬s.bar.any (J7 s.m)=true:=by
  simp only[List.any_eq_true,not_exists,not_and]
  intro x hx
  have:=Lh sb x hx
  unfold J7
  simp
  omega
 unfold oD
 rw[h0,if_neg (by simp),if_neg (by rw[fo];simp),if_neg o0,if_neg (by rw[k0];simp)]
theorem ajM{c:Nat}(h1:1≤c)(h3:c≤3):fJ (tgs c c)=true:=by
 have:c=1∨c=2∨c=3:=by omega
 rcases this with rfl | rfl | rfl<;>decide
theorem MP{m:bq}(hm:m.ok)(p2:2≤m.aa.length)(r1:1≤m.roads.length){rd:List Rdr}(hr:rd.length≤3)(ro:∀r∈rd,Fp m.aa.length r){c:Nat}(c1:1≤c)(c3:c≤3){p:List Int}(pl:p.length=c)
 (pp:∀x∈p,0≤x∧x≤(m.aa.length:Int)-1) {fl:List Spn} (fll:fl.length=m.roads.length) (flo:∀x∈fl,x.ok) {safe:List Int} (hsa:lQ safe m.aa.length=true) (hsl:safe.length≤1) {lim:Int} (hl:0≤lim∧lim≤2000)
 {area:List Int} (ha:lQ area m.aa.length=true) (hal:1≤area.length∧area.length≤2) {ho mi:Int} (hh:1≤ho∧ho≤100000) (hmi:1≤mi∧mi≤100000) {bar:List Int} (hb:lQ bar m.roads.length=true) (hb1:1≤bar.length) (hb2:bar.length≤12):
 Stp.made ⟨m,rd,p,tgs c c,fl,⟨safe,[],[],lim⟩,⟨area,ho,mi⟩,bar⟩:=by
 have nr:=hm.nr
 have np:=hm.np
 have tl:=J9 c c
 have sm:Stp.sm ⟨m,rd,p,tgs c c,fl,⟨safe,[],[],lim⟩,⟨area,ho,mi⟩,bar⟩:=⟨hm,by simp only;omega,hr,ro,by simp only;omega,by simp only;omega,by simp only;omega,⟨by simp only;omega,by simp,by simp⟩,by simp only;omega,by simp only;omega⟩
 refine⟨sm,?_,p2,r1,by simp only;omega,by simp only;omega,by simp only;omega,fll,by simp only;omega⟩
 refine SM sm (by simp only;omega) (by simp only;omega) (by simp only;omega) (ajM c1 c3) pp ?_ hb hb1 hb2
 have f1:kY m fl=true:=by
  unfold kY
  rw[aLr,aLx,decide_eq_true_eq]
  exact⟨fun j hj=>decide_eq_true (flo _ (aE (aLu.1 hj))),fll⟩
 have f2:Su m ⟨safe,[],[],lim⟩=true:=by
  unfold Su
  simp only[hsa,Bool.true_and]
  rw[decide_eq_true (by omega)]
  rfl
 have f3:rF ⟨area,ho,mi⟩=true:=by
  unfold rF
  simp only[HJ ha (b:=64) (by omega),decide_eq_true hh,decide_eq_true hmi,Bool.and_true,decide_eq_true_eq]
  omega
 unfold PS
 simp only[f1,f2,f3,ha,Bool.and_self]
theorem Yh{d:aT}(hd:d.dY):∃(s:Stp) (e:aT),e.dY∧s.made∧aL 0 N.aQ [.bp 0 0] [d.obj]=some (.t s.e,[e.obj]):=by
 obtain⟨m,e1,mo,l1,hm,p1,p2,r1,r2⟩:=adz hd
 obtain⟨rd,e2,l2,rl,ro,rx, -⟩:=PB l1 hm (by omega)
 obtain⟨c,e3,nx,l3,c1,c2⟩:=mI l2 3 (by omega) (by omega)
 obtain⟨c,rfl⟩:=Int.eq_ofNat_of_zero_le c1
 obtain⟨e4,p,l4,pl,pp,lp⟩:=Yg l3 hm (by omega) rd (c+1) (by omega)
 have ce:((c+1:Nat):Int)=1+(c:Int):=by omega
 obtain⟨fl,e5,fx,l5,fl1,fl2⟩:=Xy l4 hm
 obtain⟨lim,e6,o1,l6,m1⟩:=Xx l5 [600,100,2000] (by simp) (by simp)
 obtain⟨b1,e7,n1,l7⟩:=Fh l6 3 (by omega) (by omega)
 have lim':0≤lim∧lim≤2000:=by
  simp only[List.mem_cons,List.not_mem_nil,or_false]at m1
  omega
 have np:=hm.np
 have wl:=fun a=>zl m.roads.length (pT m a)
 have tl:=J9 ((c+1:Nat):Int) (c+1)
 have made:=fun{safe} (hsa:lQ safe m.aa.length=true) (hsl:safe.length≤1) {area} ha hal {ho mi} hh hmi {bar} hb hb1 hb2=>MP hm p1 r1 rl ro (c:=c+1) (by omega) (by omega) pl pp fl1 fl2 (safe:=safe) hsa hsl lim' (area:=area) ha hal (ho:=ho) (mi:=mi) hh hmi (bar:=bar) hb hb1 hb2
 generalize tgs ((c+1:Nat):Int) (c+1)=tg at*
 rw[ce]at lp
 cases b1 with
 | true=>
   obtain⟨v,e8,nv,l8,v1,v2⟩:=mI l7 m.aa.length (by omega) (by omega)
   obtain⟨ho,e9,o2,l9,m2⟩:=Xx l8 [299,4] (by simp) (by simp)
   obtain⟨mi,e10,o3,l10,m3⟩:=Xx l9 [99,1799] (by simp) (by simp)
   simp only[List.mem_cons,List.not_mem_nil,or_false]at m2 m3
   by_cases c4:(m.aa.length:Int)>2
   · obtain⟨b2,e11,n2,l11⟩:=Fh l10 3 (by omega) (by omega)
     cases b2 with
     | true=>
       have bo:=rI hm [(m.aa.length:Int)-2,(m.aa.length:Int)-1] (by simp)
       have bs:=nf m.roads.length (pT m [(m.aa.length:Int)-2,(m.aa.length:Int)-1])
       have bw:=wl [(m.aa.length:Int)-2,(m.aa.length:Int)-1]
       unfold Cw at bo
       generalize kJ m.roads.length (pT m [(m.aa.length:Int)-2,(m.aa.length:Int)-1])=bf at*
       by_cases c5:bf.length=0
       · obtain⟨w,e20,nw,l20,w1,w2⟩:=mI l11 m.roads.length (by omega) (by omega)
         refine⟨⟨m,rd,p,tg,fl,⟨[v],[],[],lim⟩,⟨[(m.aa.length:Int)-2,(m.aa.length:Int)-1],_,_⟩,[w]⟩,e20,‹_›,made (safe:=[v]) (bG v1 v2) (by simp) (area:=[(m.aa.length:Int)-2,(m.aa.length:Int)-1]) (vJ (by omega) (by omega) (by omega)) (by simp) (ho:=1+ho) (by omega) (mi:=1+mi) (by omega) (bar:=[w]) (bG w1 w2) (by simp) (by simp),?_⟩
         clear made bs wl pp
         refine aj K.aZ rfl ?_
         obtain⟨aa,roads⟩:=m
         simp only[tL,List.map_cons,List.map_nil,List.length_nil,ae,suH,zSt]at*
         simp(disch:=omega)only[go_sem,K.aQ,↓reduceIte,mo,rx,nx,lp,fx,o1,n1,nv,o2,o3,c4,n2,bo,c5,nw,List.map_cons,List.map_nil,reduceAdd,reduceSub]
         rfl
       · obtain⟨b3,e19,n3,l19⟩:=Fh l11 8 (by omega) (by omega)
         cases b3 with
         | true=>
           obtain⟨w,e20,nw,l20,w1,w2⟩:=mI l19 m.roads.length (by omega) (by omega)
           refine⟨⟨m,rd,p,tg,fl,⟨[v],[],[],lim⟩,⟨[(m.aa.length:Int)-2,(m.aa.length:Int)-1],_,_⟩,[w]⟩,e20,‹_›,made (safe:=[v]) (bG v1 v2) (by simp) (area:=[(m.aa.length:Int)-2,(m.aa.length:Int)-1]) (vJ (by omega) (by omega) (by omega)) (by simp) (ho:=1+ho) (by omega) (mi:=1+mi) (by omega) (bar:=[w]) (bG w1 w2) (by simp) (by simp),?_⟩
           clear made bs wl pp
           refine aj K.aZ rfl ?_
           obtain⟨aa,roads⟩:=m
           simp only[tL,List.map_cons,List.map_nil,List.length_nil,ae,suH,zSt]at*
           simp(disch:=omega)only[go_sem,K.aQ,↓reduceIte,mo,rx,nx,lp,fx,o1,n1,nv,o2,o3,c4,n2,bo,c5,n3,nw,List.map_cons,List.map_nil,reduceAdd,reduceSub]
           rfl
         | false=>
           refine⟨⟨m,rd,p,tg,fl,⟨[v],[],[],lim⟩,⟨[(m.aa.length:Int)-2,(m.aa.length:Int)-1],_,_⟩,bf⟩,e19,‹_›,made (safe:=[v]) (bG v1 v2) (by simp) (area:=[(m.aa.length:Int)-2,(m.aa.length:Int)-1]) (vJ (by omega) (by omega) (by omega)) (by simp) (ho:=1+ho) (by omega) (mi:=1+mi) (by omega) (bar:=bf) bs (by omega) (by omega),?_⟩
           clear made bs wl pp
           refine aj K.aZ rfl ?_
           obtain⟨aa,roads⟩:=m
           simp only[tL,List.map_cons,List.map_nil,List.length_nil,ae,suH,zSt]at*
           simp(disch:=omega)only[go_sem,K.aQ,↓reduceIte,mo,rx,nx,lp,fx,o1,n1,nv,o2,o3,c4,n2,bo,c5,n3,List.map_cons,List.map_nil,reduceAdd,reduceSub]
           rfl
     | false=>
       have bo:=rI hm [(m.aa.length:Int)-1] (by simp)
       have bs:=nf m.roads.length (pT m [(m.aa.length:Int)-1])
       have bw:=wl [(m.aa.length:Int)-1]
       unfold Cw at bo
       generalize kJ m.roads.length (pT m [(m.aa.length:Int)-1])=bf at*
       by_cases c5:bf.length=0
       · obtain⟨w,e20,nw,l20,w1,w2⟩:=mI l11 m.roads.length (by omega) (by omega)
         refine⟨⟨m,rd,p,tg,fl,⟨[v],[],[],lim⟩,⟨[(m.aa.length:Int)-1],_,_⟩,[w]⟩,e20,‹_›,made (safe:=[v]) (bG v1 v2) (by simp) (area:=[(m.aa.length:Int)-1]) (bG (by omega) (by omega)) (by simp) (ho:=1+ho) (by omega) (mi:=1+mi) (by omega) (bar:=[w]) (bG w1 w2) (by simp) (by simp),?_⟩
         clear made bs wl pp
         refine aj K.aZ rfl ?_
         obtain⟨aa,roads⟩:=m
         simp only[tL,List.map_cons,List.map_nil,List.length_nil,ae,suH,zSt]at*
         simp(disch:=omega)only[go_sem,K.aQ,↓reduceIte,mo,rx,nx,lp,fx,o1,n1,nv,o2,o3,c4,n2,bo,c5,nw,List.map_cons,List.map_nil,reduceAdd,reduceSub]
         rfl
       · obtain⟨b3,e19,n3,l19⟩:=Fh l11 8 (by omega) (by omega)
         cases b3 with
         | true=>
           obtain⟨w,e20,nw,l20,w1,w2⟩:=mI l19 m.roads.length (by omega) (by omega)
           refine⟨⟨m,rd,p,tg,fl,⟨[v],[],[],lim⟩,⟨[(m.aa.length:Int)-1],_,_⟩,[w]⟩,e20,‹_›,made (safe:=[v]) (bG v1 v2) (by simp) (area:=[(m.aa.length:Int)-1]) (bG (by omega) (by omega)) (by simp) (ho:=1+ho) (by omega) (mi:=1+mi) (by omega) (bar:=[w]) (bG w1 w2) (by simp) (by simp),?_⟩
           clear made bs wl pp
           refine aj K.aZ rfl ?_
           obtain⟨aa,roads⟩:=m
           simp only[tL,List.map_cons,List.map_nil,List.length_nil,ae,suH,zSt]at*
           simp(disch:=omega)only[go_sem,K.aQ,↓reduceIte,mo,rx,nx,lp,fx,o1,n1,nv,o2,o3,c4,n2,bo,c5,n3,nw,List.map_cons,List.map_nil,reduceAdd,reduceSub]
           rfl
         | false=>
           refine⟨⟨m,rd,p,tg,fl,⟨[v],[],[],lim⟩,⟨[(m.aa.length:Int)-1],_,_⟩,bf⟩,e19,‹_›,made (safe:=[v]) (bG v1 v2) (by simp) (area:=[(m.aa.length:Int)-1]) (bG (by omega) (by omega)) (by simp) (ho:=1+ho) (by omega) (mi:=1+mi) (by omega) (bar:=bf) bs (by omega) (by omega),?_⟩
           clear made bs wl pp
           refine aj K.aZ rfl ?_
           obtain⟨aa,roads⟩:=m
           simp only[tL,List.map_cons,List.map_nil,List.length_nil,ae,suH,zSt]at*
           simp(disch:=omega)only[go_sem,K.aQ,↓reduceIte,mo,rx,nx,lp,fx,o1,n1,nv,o2,o3,c4,n2,bo,c5,n3,List.map_cons,List.map_nil,reduceAdd,reduceSub]
           rfl
   ·
    have bo:=rI hm [(m.aa.length:Int)-1] (by simp)
    have bs:=nf m.roads.length (pT m [(m.aa.length:Int)-1])
    have bw:=wl [(m.aa.length:Int)-1]
    unfold Cw at bo
    generalize kJ m.roads.length (pT m [(m.aa.length:Int)-1])=bf at*
    by_cases c5:bf.length=0
    · obtain⟨w,e20,nw,l20,w1,w2⟩:=mI l10 m.roads.length (by omega) (by omega)
      refine⟨⟨m,rd,p,tg,fl,⟨[v],[],[],lim⟩,⟨[(m.aa.length:Int)-1],_,_⟩,[w]⟩,e20,‹_›,made (safe:=[v]) (bG v1 v2) (by simp) (area:=[(m.aa.length:Int)-1]) (bG (by omega) (by omega)) (by simp) (ho:=1+ho) (by omega) (mi:=1+mi) (by omega) (bar:=[w]) (bG w1 w2) (by simp) (by simp),?_⟩
      clear made bs wl pp
      refine aj K.aZ rfl ?_
      obtain⟨aa,roads⟩:=m
      simp only[tL,List.map_cons,List.map_nil,List.length_nil,ae,suH,zSt]at*
      simp(disch:=omega)only[go_sem,K.aQ,↓reduceIte,mo,rx,nx,lp,fx,o1,n1,nv,o2,o3,c4,bo,c5,nw,List.map_cons,List.map_nil,reduceAdd,reduceSub]
      rfl
    · obtain⟨b3,e19,n3,l19⟩:=Fh l10 8 (by omega) (by omega)
      cases b3 with
      | true=>
        obtain⟨w,e20,nw,l20,w1,w2⟩:=mI l19 m.roads.length (by omega) (by omega)
        refine⟨⟨m,rd,p,tg,fl,⟨[v],[],[],lim⟩,⟨[(m.aa.length:Int)-1],_,_⟩,[w]⟩,e20,‹_›,made (safe:=[v]) (bG v1 v2) (by simp) (area:=[(m.aa.length:Int)-1]) (bG (by omega) (by omega)) (by simp) (ho:=1+ho) (by omega) (mi:=1+mi) (by omega) (bar:=[w]) (bG w1 w2) (by simp) (by simp),?_⟩
        clear made bs wl pp
        refine aj K.aZ rfl ?_
        obtain⟨aa,roads⟩:=m
        simp only[tL,List.map_cons,List.map_nil,List.length_nil,ae,suH,zSt]at*
        simp(disch:=omega)only[go_sem,K.aQ,↓reduceIte,mo,rx,nx,lp,fx,o1,n1,nv,o2,o3,c4,bo,c5,n3,nw,List.map_cons,List.map_nil,reduceAdd,reduceSub]
        rfl
      | false=>
        refine⟨⟨m,rd,p,tg,fl,⟨[v],[],[],lim⟩,⟨[(m.aa.length:Int)-1],_,_⟩,bf⟩,e19,‹_›,made (safe:=[v]) (bG v1 v2) (by simp) (area:=[(m.aa.length:Int)-1]) (bG (by omega) (by omega)) (by simp) (ho:=1+ho) (by omega) (mi:=1+mi) (by omega) (bar:=bf) bs (by omega) (by omega),?_⟩
        clear made bs wl pp
        refine aj K.aZ rfl ?_
        obtain⟨aa,roads⟩:=m
        simp only[tL,List.map_cons,List.map_nil,List.length_nil,ae,suH,zSt]at*
        simp(disch:=omega)only[go_sem,K.aQ,↓reduceIte,mo,rx,nx,lp,fx,o1,n1,nv,o2,o3,c4,bo,c5,n3,List.map_cons,List.map_nil,reduceAdd,reduceSub]
        rfl
 | false=>
   obtain⟨ho,e9,o2,l9,m2⟩:=Xx l7 [299,4] (by simp) (by simp)
   obtain⟨mi,e10,o3,l10,m3⟩:=Xx l9 [99,1799] (by simp) (by simp)
   simp only[List.mem_cons,List.not_mem_nil,or_false]at m2 m3
   by_cases c4:(m.aa.length:Int)>2
   · obtain⟨b2,e11,n2,l11⟩:=Fh l10 3 (by omega) (by omega)
     cases b2 with
     | true=>
       have bo:=rI hm [(m.aa.length:Int)-2,(m.aa.length:Int)-1] (by simp)
       have bs:=nf m.roads.length (pT m [(m.aa.length:Int)-2,(m.aa.length:Int)-1])
       have bw:=wl [(m.aa.length:Int)-2,(m.aa.length:Int)-1]
       unfold Cw at bo
       generalize kJ m.roads.length (pT m [(m.aa.length:Int)-2,(m.aa.length:Int)-1])=bf at*
       by_cases c5:bf.length=0
       · obtain⟨w,e20,nw,l20,w1,w2⟩:=mI l11 m.roads.length (by omega) (by omega)
         refine⟨⟨m,rd,p,tg,fl,⟨[],[],[],lim⟩,⟨[(m.aa.length:Int)-2,(m.aa.length:Int)-1],_,_⟩,[w]⟩,e20,‹_›,made (safe:=[]) rfl (by simp) (area:=[(m.aa.length:Int)-2,(m.aa.length:Int)-1]) (vJ (by omega) (by omega) (by omega)) (by simp) (ho:=1+ho) (by omega) (mi:=1+mi) (by omega) (bar:=[w]) (bG w1 w2) (by simp) (by simp),?_⟩
         clear made bs wl pp
         refine aj K.aZ rfl ?_
         obtain⟨aa,roads⟩:=m
         simp only[tL,List.map_cons,List.map_nil,List.length_nil,ae,suH,zSt]at*
         simp(disch:=omega)only[go_sem,K.aQ,↓reduceIte,mo,rx,nx,lp,fx,o1,n1,o2,o3,c4,n2,bo,c5,nw,List.map_cons,List.map_nil,reduceAdd,reduceSub]
         rfl
       · obtain⟨b3,e19,n3,l19⟩:=Fh l11 8 (by omega) (by omega)
         cases b3 with
         | true=>
           obtain⟨w,e20,nw,l20,w1,w2⟩:=mI l19 m.roads.length (by omega) (by omega)
           refine⟨⟨m,rd,p,tg,fl,⟨[],[],[],lim⟩,⟨[(m.aa.length:Int)-2,(m.aa.length:Int)-1],_,_⟩,[w]⟩,e20,‹_›,made (safe:=[]) rfl (by simp) (area:=[(m.aa.length:Int)-2,(m.aa.length:Int)-1]) (vJ (by omega) (by omega) (by omega)) (by simp) (ho:=1+ho) (by omega) (mi:=1+mi) (by omega) (bar:=[w]) (bG w1 w2) (by simp) (by simp),?_⟩
           clear made bs wl pp
           refine aj K.aZ rfl ?_
           obtain⟨aa,roads⟩:=m
           simp only[tL,List.map_cons,List.map_nil,List.length_nil,ae,suH,zSt]at*
           simp(disch:=omega)only[go_sem,K.aQ,↓reduceIte,mo,rx,nx,lp,fx,o1,n1,o2,o3,c4,n2,bo,c5,n3,nw,List.map_cons,List.map_nil,reduceAdd,reduceSub]
           rfl
         | false=>
           refine⟨⟨m,rd,p,tg,fl,⟨[],[],[],lim⟩,⟨[(m.aa.length:Int)-2,(m.aa.length:Int)-1],_,_⟩,bf⟩,e19,‹_›,made (safe:=[]) rfl (by simp) (area:=[(m.aa.length:Int)-2,(m.aa.length:Int)-1]) (vJ (by omega) (by omega) (by omega)) (by simp) (ho:=1+ho) (by omega) (mi:=1+mi) (by omega) (bar:=bf) bs (by omega) (by omega),?_⟩
           clear made bs wl pp
           refine aj K.aZ rfl ?_
           obtain⟨aa,roads⟩:=m
           simp only[tL,List.map_cons,List.map_nil,List.length_nil,ae,suH,zSt]at*
           simp(disch:=omega)only[go_sem,K.aQ,↓reduceIte,mo,rx,nx,lp,fx,o1,n1,o2,o3,c4,n2,bo,c5,n3,List.map_cons,List.map_nil,reduceAdd,reduceSub]
           rfl
     | false=>
       have bo:=rI hm [(m.aa.length:Int)-1] (by simp)
       have bs:=nf m.roads.length (pT m [(m.aa.length:Int)-1])
       have bw:=wl [(m.aa.length:Int)-1]
       unfold Cw at bo
       generalize kJ m.roads.length (pT m [(m.aa.length:Int)-1])=bf at*
       by_cases c5:bf.length=0
       · obtain⟨w,e20,nw,l20,w1,w2⟩:=mI l11 m.roads.length (by omega) (by omega)
         refine⟨⟨m,rd,p,tg,fl,⟨[],[],[],lim⟩,⟨[(m.aa.length:Int)-1],_,_⟩,[w]⟩,e20,‹_›,made (safe:=[]) rfl (by simp) (area:=[(m.aa.length:Int)-1]) (bG (by omega) (by omega)) (by simp) (ho:=1+ho) (by omega) (mi:=1+mi) (by omega) (bar:=[w]) (bG w1 w2) (by simp) (by simp),?_⟩
         clear made bs wl pp
         refine aj K.aZ rfl ?_
         obtain⟨aa,roads⟩:=m
         simp only[tL,List.map_cons,List.map_nil,List.length_nil,ae,suH,zSt]at*
         simp(disch:=omega)only[go_sem,K.aQ,↓reduceIte,mo,rx,nx,lp,fx,o1,n1,o2,o3,c4,n2,bo,c5,nw,List.map_cons,List.map_nil,reduceAdd,reduceSub]
         rfl
       · obtain⟨b3,e19,n3,l19⟩:=Fh l11 8 (by omega) (by omega)
         cases b3 with
         | true=>
           obtain⟨w,e20,nw,l20,w1,w2⟩:=mI l19 m.roads.length (by omega) (by omega)
           refine⟨⟨m,rd,p,tg,fl,⟨[],[],[],lim⟩,⟨[(m.aa.length:Int)-1],_,_⟩,[w]⟩,e20,‹_›,made (safe:=[]) rfl (by simp) (area:=[(m.aa.length:Int)-1]) (bG (by omega) (by omega)) (by simp) (ho:=1+ho) (by omega) (mi:=1+mi) (by omega) (bar:=[w]) (bG w1 w2) (by simp) (by simp),?_⟩
           clear made bs wl pp
           refine aj K.aZ rfl ?_
           obtain⟨aa,roads⟩:=m
           simp only[tL,List.map_cons,List.map_nil,List.length_nil,ae,suH,zSt]at*
           simp(disch:=omega)only[go_sem,K.aQ,↓reduceIte,mo,rx,nx,lp,fx,o1,n1,o2,o3,c4,n2,bo,c5,n3,nw,List.map_cons,List.map_nil,reduceAdd,reduceSub]
           rfl
         | false=>
           refine⟨⟨m,rd,p,tg,fl,⟨[],[],[],lim⟩,⟨[(m.aa.length:Int)-1],_,_⟩,bf⟩,e19,‹_›,made (safe:=[]) rfl (by simp) (area:=[(m.aa.length:Int)-1]) (bG (by omega) (by omega)) (by simp) (ho:=1+ho) (by omega) (mi:=1+mi) (by omega) (bar:=bf) bs (by omega) (by omega),?_⟩
           clear made bs wl pp
           refine aj K.aZ rfl ?_
           obtain⟨aa,roads⟩:=m
           simp only[tL,List.map_cons,List.map_nil,List.length_nil,ae,suH,zSt]at*
           simp(disch:=omega)only[go_sem,K.aQ,↓reduceIte,mo,rx,nx,lp,fx,o1,n1,o2,o3,c4,n2,bo,c5,n3,List.map_cons,List.map_nil,reduceAdd,reduceSub]
           rfl
   ·
    have bo:=rI hm [(m.aa.length:Int)-1] (by simp)
    have bs:=nf m.roads.length (pT m [(m.aa.length:Int)-1])
    have bw:=wl [(m.aa.length:Int)-1]
    unfold Cw at bo
    generalize kJ m.roads.length (pT m [(m.aa.length:Int)-1])=bf at*
    by_cases c5:bf.length=0
    · obtain⟨w,e20,nw,l20,w1,w2⟩:=mI l10 m.roads.length (by omega) (by omega)
      refine⟨⟨m,rd,p,tg,fl,⟨[],[],[],lim⟩,⟨[(m.aa.length:Int)-1],_,_⟩,[w]⟩,e20,‹_›,made (safe:=[]) rfl (by simp) (area:=[(m.aa.length:Int)-1]) (bG (by omega) (by omega)) (by simp) (ho:=1+ho) (by omega) (mi:=1+mi) (by omega) (bar:=[w]) (bG w1 w2) (by simp) (by simp),?_⟩
      clear made bs wl pp
      refine aj K.aZ rfl ?_
      obtain⟨aa,roads⟩:=m
      simp only[tL,List.map_cons,List.map_nil,List.length_nil,ae,suH,zSt]at*
      simp(disch:=omega)only[go_sem,K.aQ,↓reduceIte,mo,rx,nx,lp,fx,o1,n1,o2,o3,c4,bo,c5,nw,List.map_cons,List.map_nil,reduceAdd,reduceSub]
      rfl
    · obtain⟨b3,e19,n3,l19⟩:=Fh l10 8 (by omega) (by omega)
      cases b3 with
      | true=>
        obtain⟨w,e20,nw,l20,w1,w2⟩:=mI l19 m.roads.length (by omega) (by omega)
        refine⟨⟨m,rd,p,tg,fl,⟨[],[],[],lim⟩,⟨[(m.aa.length:Int)-1],_,_⟩,[w]⟩,e20,‹_›,made (safe:=[]) rfl (by simp) (area:=[(m.aa.length:Int)-1]) (bG (by omega) (by omega)) (by simp) (ho:=1+ho) (by omega) (mi:=1+mi) (by omega) (bar:=[w]) (bG w1 w2) (by simp) (by simp),?_⟩
        clear made bs wl pp
        refine aj K.aZ rfl ?_
        obtain⟨aa,roads⟩:=m
        simp only[tL,List.map_cons,List.map_nil,List.length_nil,ae,suH,zSt]at*
        simp(disch:=omega)only[go_sem,K.aQ,↓reduceIte,mo,rx,nx,lp,fx,o1,n1,o2,o3,c4,bo,c5,n3,nw,List.map_cons,List.map_nil,reduceAdd,reduceSub]
        rfl
      | false=>
        refine⟨⟨m,rd,p,tg,fl,⟨[],[],[],lim⟩,⟨[(m.aa.length:Int)-1],_,_⟩,bf⟩,e19,‹_›,made (safe:=[]) rfl (by simp) (area:=[(m.aa.length:Int)-1]) (bG (by omega) (by omega)) (by simp) (ho:=1+ho) (by omega) (mi:=1+mi) (by omega) (bar:=bf) bs (by omega) (by omega),?_⟩
        clear made bs wl pp
        refine aj K.aZ rfl ?_
        obtain⟨aa,roads⟩:=m
        simp only[tL,List.map_cons,List.map_nil,List.length_nil,ae,suH,zSt]at*
        simp(disch:=omega)only[go_sem,K.aQ,↓reduceIte,mo,rx,nx,lp,fx,o1,n1,o2,o3,c4,bo,c5,n3,List.map_cons,List.map_nil,reduceAdd,reduceSub]
        rfl
theorem PV:Hw.sz:=⟨by simp,by simp,by simp,by simp,by simp,by simp,by simp,by simp,by simp,by simp⟩
theorem yO:HG.sz:=by
 refine⟨PV,by simp,by simp,by simp,⟨by simp,by simp,by simp⟩,by simp,⟨by simp,by simp⟩,by simp,by simp,⟨by simp,by simp⟩,by simp,by simp⟩
theorem HK{s:Stp}(hs:s.sm):(oD s).1.sz:=by
 unfold oD
 split
 · exact yO
 rename_i c
 split
 · exact yO
 split
 · exact yO
 split
 · exact yO
 exact CL hs (by simpa using c)
set_option maxRecDepth 20000 in
theorem PW{s:Stp}{p:Ply}{e:Int}(hp:aL 0 N.cW [.t s.m.e,.t (.sl (s.rd.map Rdr.e)),.t (tL s.pl),.t (tL s.tg),.t (tS s.fl),.t s.esc.e,.t s.bl.e,.t (tL s.bar)] []=some (.tup [.t p.e,I e],[]))
 (hr:aL 0 N.cJ [.t s.m.e,.t (.sl (s.rd.map Rdr.e)),.t (tL s.pl),.t (tL s.tg),.t (tS s.fl),.t s.esc.e,.t s.bl.e,.t (tL s.bar)] []=some (.tup [.t p.e,I e],[])):
 aL 0 N.eJ [.t s.e] []=some (.tup [.t p.e,I e,.t p.e,I e],[]):=by
 refine aj K.sW rfl ?_
 obtain⟨⟨aa,roads⟩,rd,pl,tg,fl,⟨safe,bad,shut,gv⟩,⟨area,hold,mis⟩,bar⟩:=s
 simp only[Ply.e,Ply.cs,tL,tLL]at*
 simp(disch:=omega)only[go_sem,K.eJ,↓reduceIte,hp,hr,reduceAdd,reduceSub]
theorem Lt{s:Stp}(hs:s.sm):aL 0 N.eJ [.t s.e] []=some (.tup [.t (oD s).1.e,I (oD s).2,.t (oD s).1.e,I (oD s).2],[]):=
 PW (HI hs) (Fv hs)
theorem MQ(x:Place)(roads:List Road)(hx: -10000≤x.h∧x.h≤10000)(r1:1≤roads.length)(r2:roads.length≤128)(h0:0≤(nth roads 0).frm)(h1:0≤(nth roads 0).to)(h2:(nth roads 0).frm≠(nth roads 0).to):aL 0 N.cG [.t (bq.e ⟨[x],roads⟩)] []=some (I 4,[]):=by
 refine aj K.oJ rfl ?_
 have g:(roads.map Road.e)[0]?=some (nth roads 0).e:=bE _ (by omega)
 have l1:∀z0 z2 z4 z5 z6:D,exS aL K.qs ⟨[z0,.bp 0 0,z2,I 0,z4,z5,z6],[.box [.t (.sl [x.e]),.t (.sl (roads.map Road.e))]]⟩=some (.exit 0,⟨[.und,.bp 0 0,.und,I 1,.und,.und,.und],[.box [.t (.sl [x.e]),.t (.sl (roads.map Road.e))]]⟩):=by
  intro z0 z2 z4 z5 z6
  refine bH (fun j=>⟨[.und,.bp 0 0,.und,I j,.und,.und,.und],[.box [.t (.sl [x.e]),.t (.sl (roads.map Road.e))]]⟩) 1 rfl (fun j hj=>?_) ?_ (by simp)
  · obtain rfl:j=0:=by omega
    obtain⟨h,b⟩:=x
    simp only at hx
    obtain⟨hx1,hx2⟩:=hx
    have g1:¬h< -10000:=by omega
    have g2:¬h>10000:=by omega
    simp(disch:=omega)only[go_sem,K.kp,↓reduceIte,List.length_cons,List.length_nil,List.getElem?_cons_zero,g1,g2,reduceAdd,reduceSub]
  · simp(disch:=omega)only[go_sem,K.kp,↓reduceIte,List.length_cons,List.length_nil,reduceAdd,reduceSub]
 have l2:∀z0 z2 z3 z4 z6:D,∃vs H,exS aL K.qt ⟨[z0,.bp 0 0,z2,z3,z4,I 0,z6],[.box [.t (.sl [x.e]),.t (.sl (roads.map Road.e))]]⟩=some (.ret,⟨vs,H⟩)∧vs[2]?=some (I 4):=by
  intro z0 z2 z3 z4 z6
  have:∃vs H,exS aL K.jj ⟨[.und,.bp 0 0,.und,.und,.und,I 0,.und],[.box [.t (.sl [x.e]),.t (.sl (roads.map Road.e))]]⟩=some (.ret,⟨vs,H⟩)∧vs[2]?=some (I 4):=by
   generalize nth roads 0=y at*
   obtain⟨frm,to,len,area,walk,closed,rl,rh,ll,lh⟩:=y
   simp only at*
   have g1:¬frm<0:=by omega
   have g3:¬to<0:=by omega
   by_cases c:frm≥1
   · simp(disch:=omega)only[go_sem,K.jj,↓reduceIte,g,List.length_cons,List.length_nil,g1,c,reduceAdd,reduceSub]
     exact⟨_,_,rfl,rfl⟩
   · have c2:to≥1:=by omega
     simp(disch:=omega)only[go_sem,K.jj,↓reduceIte,g,List.length_cons,List.length_nil,g1,g3,c,c2,reduceAdd,reduceSub]
     exact⟨_,_,rfl,rfl⟩
  obtain⟨vs,H,a,b⟩:=this
  exact⟨vs,H,fW a (by simp),b⟩
 obtain⟨vs,H,a,b⟩:=l2 .und .und (I 1) .und .und
 simp only[bq.e,List.map_nil,List.map_cons]at*
 simp(disch:=omega)only[go_sem,K.cG,↓reduceIte,l1,a,b,List.map_nil,List.map_cons,List.length_nil,List.length_cons,reduceAdd,reduceSub]
theorem PX(x:Place)(roads:List Road)(hx: -10000≤x.h∧x.h≤10000)(r1:1≤roads.length)(r2:roads.length≤128)(h0:0≤(nth roads 0).frm)(h1:0≤(nth roads 0).to)(h2:(nth roads 0).frm≠(nth roads 0).to):aL 0 N.cy [.t (bq.e ⟨[x],roads⟩)] []=some (B false,[]):=by
 have key:aL 0 N.iF [.t (bq.e ⟨[x],roads⟩)] []=some (I 4,[]):=by
  refine aj K.qb rfl ?_
  have g:(roads.map Road.e)[0]?=some (nth roads 0).e:=bE _ (by omega)
  have l1:∀z0 z2 z3 z4 z5 z9 z10 z11:D,exS aL K.sE ⟨[z0,.bp 0 0,z2,z3,z4,z5,.t (.sl [x.e]),I 1,I 0,z9,z10,z11],[.box [.t (.sl [x.e]),.t (.sl (roads.map Road.e))]]⟩=some (.exit 0,⟨[.und,.bp 0 0,.und,.und,.und,.und,.t (.sl [x.e]),I 1,I 1,.und,.und,.und],[.box [.t (.sl [x.e]),.t (.sl (roads.map Road.e))]]⟩):=by
   intro z0 z2 z3 z4 z5 z9 z10 z11
   refine bH (fun j=>⟨[.und,.bp 0 0,.und,.und,.und,.und,.t (.sl [x.e]),I 1,I j,.und,.und,.und],[.box [.t (.sl [x.e]),.t (.sl (roads.map Road.e))]]⟩) 1 rfl (fun j hj=>?_) ?_ (by simp)
   · obtain rfl:j=0:=by omega
     obtain⟨h,b⟩:=x
     simp only at hx
     obtain⟨hx1,hx2⟩:=hx
     have g1:¬h< -10000:=by omega
     have g2:¬h>10000:=by omega
     simp(disch:=omega)only[go_sem,K.kX,↓reduceIte,List.length_cons,List.length_nil,List.getElem?_cons_zero,g1,g2,reduceAdd,reduceSub]
   · simp(disch:=omega)only[go_sem,K.kX,↓reduceIte,List.length_cons,List.length_nil,reduceAdd,reduceSub]
  have l2:∀z0 z1 z2 z3 z5 z6 z7 z8:D,∃vs H,exS aL K.sF ⟨[z0,z1,z2,z3,I 1,z5,z6,z7,z8,.t (.sl (roads.map Road.e)),I roads.length,I 0],[.box [.t (.sl [x.e]),.t (.sl (roads.map Road.e))]]⟩=some (.ret,⟨vs,H⟩)∧vs[2]?=some (I 4):=by
   intro z0 z1 z2 z3 z5 z6 z7 z8
   have:∃vs H,exS aL K.jY ⟨[.und,.und,.und,.und,I 1,.und,.und,.und,.und,.t (.sl (roads.map Road.e)),I roads.length,I 0],[.box [.t (.sl [x.e]),.t (.sl (roads.map Road.e))]]⟩=some (.ret,⟨vs,H⟩)∧vs[2]?=some (I 4):=by
    generalize nth roads 0=y at*
    obtain⟨frm,to,len,area,walk,closed,rl,rh,ll,lh⟩:=y
    simp only at*
    have g1:¬frm<0:=by omega
    have g3:¬to<0:=by omega
    by_cases c:frm≥1
    · simp(disch:=omega)only[go_sem,K.jY,↓reduceIte,g,g1,c,reduceAdd,reduceSub]
      exact⟨_,_,rfl,rfl⟩
    · have c2:to≥1:=by omega
      simp(disch:=omega)only[go_sem,K.jY,↓reduceIte,g,g1,g3,c,c2,reduceAdd,reduceSub]
      exact⟨_,_,rfl,rfl⟩
   obtain⟨vs,H,a,b⟩:=this
   exact⟨vs,H,fW a (by simp),b⟩
  obtain⟨vs,H,a,b⟩:=l2 .und (.bp 0 0) .und .und .und (.t (.sl [x.e])) (I 1) (I 1)
  simp only[bq.e,List.map_nil,List.map_cons]at*
  simp(disch:=omega)only[go_sem,K.iF,↓reduceIte,l1,a,b,List.map_nil,List.map_cons,List.length_nil,List.length_cons,reduceAdd,reduceSub]
 refine aj K.qa rfl ?_
 simp only[bq.e,List.map_nil,List.map_cons]at*
 simp(disch:=omega)only[go_sem,K.cy,↓reduceIte,key,reduceAdd,reduceSub]
theorem Yi{m:bq}(np:m.aa.length≤64)(nr:m.roads.length≤128)(ck:aL 0 N.cG [.t m.e] []=some (I 4,[]))(l:List Rdr)(hl:l.length≤1000000)(h2:∀y∈l,y.pl.length≤1000000):aL 0 N.dV [.t m.e,.t (.sl (l.map Rdr.e))] []=some (B false,[]):=by
 refine aj K.oN rfl ?_
 have lp:=fun z0 z3 z5:D=>pc (gc:=true) (dead:=[0,3,5]) (c:=K.ba) (vs:=[z0,.t (.sl (l.map Rdr.e)),.bp 0 0,z3,I 0,z5]) (H:=[.box (ae m)])
  (fun j=>⟨[.und,.t (.sl (l.map Rdr.e)),.bp 0 0,.und,I j,.und],[.box (ae m)]⟩) l.length (fun j=>Fs m.aa.length (nth l j))
  (fun j=>(.ret,⟨[.und,.t (.sl (l.map Rdr.e)),.bp 0 0,B false,I j,.bp 1 0],[.box (ae m),.box [.t (tL (nth l j).pl),I (nth l j).per,I (nth l j).miss,I (nth l j).skew]]⟩))
  (.exit 0,⟨[.und,.t (.sl (l.map Rdr.e)),.bp 0 0,.und,I l.length,.und],[.box (ae m)]⟩) rfl
  (fun j hj hq=>by
   have ex:(l.map Rdr.e)[j]?=some (nth l j).e:=bE _ hj
   have st:=wj (nth l j).pl m.aa.length (by have:=h2 _ (aE hj);omega)
   simp only[Fs,Bool.not_eq_false',aLr,Bool.not_eq_true',decide_eq_false_iff_not,decide_eq_true_eq]at hq
   obtain⟨⟨⟨⟨q0,q1⟩,q2⟩,q3⟩,q4⟩:=hq
   rw[q1]at st
   have:=h2 _ (aE hj)
   generalize nth l j=r at*
   obtain⟨pl,per,miss,skew⟩:=r
   simp only at*
   obtain⟨aa,roads⟩:=m
   simp only[ae]at*
   simp(disch:=omega)only[go_sem,K.ba,↓reduceIte,ex,st,q0,reduceAdd,reduceSub]
   )
  (fun j hj hq=>by
   have ex:(l.map Rdr.e)[j]?=some (nth l j).e:=bE _ hj
   have st:=wj (nth l j).pl m.aa.length (by have:=h2 _ (aE hj);omega)
   have:=h2 _ (aE hj)
   unfold Fs at hq
   generalize lQ (nth l j).pl m.aa.length=b0 at*
   generalize nth l j=r at*
   obtain⟨pl,per,miss,skew⟩:=r
   simp only at*
   obtain⟨aa,roads⟩:=m
   simp only[ae]at*
   refine⟨?_,by simp⟩
   by_cases c:pl.length=0
   · simp(disch:=omega)only[go_sem,K.ba,↓reduceIte,ex,c,reduceAdd,reduceSub]
   · cases b0 with
     | false=>simp(disch:=omega)only[go_sem,K.ba,↓reduceIte,ex,st,c,reduceAdd,reduceSub]
     | true=>
       by_cases a0:1≤per
       · by_cases a1:per≤600
         · by_cases a2:0≤miss
           · by_cases a3:miss≤10
             · by_cases a4:0≤skew
               · by_cases a5:skew≤60
                 · exact absurd hq (by simp[c,a0,a1,a2,a3,a4,a5])
                 · simp(disch:=omega)only[go_sem,K.ba,↓reduceIte,ex,st,c,a0,a1,a2,a3,a4,a5,reduceAdd,reduceSub]
               · simp(disch:=omega)only[go_sem,K.ba,↓reduceIte,ex,st,c,a0,a1,a2,a3,a4,reduceAdd,reduceSub]
             · simp(disch:=omega)only[go_sem,K.ba,↓reduceIte,ex,st,c,a0,a1,a2,a3,reduceAdd,reduceSub]
           · simp(disch:=omega)only[go_sem,K.ba,↓reduceIte,ex,st,c,a0,a1,a2,reduceAdd,reduceSub]
         · simp(disch:=omega)only[go_sem,K.ba,↓reduceIte,ex,st,c,a0,a1,reduceAdd,reduceSub]
       · simp(disch:=omega)only[go_sem,K.ba,↓reduceIte,ex,st,c,a0,reduceAdd,reduceSub]
   )
  (by
   obtain⟨aa,roads⟩:=m
   simp only[ae]
   simp(disch:=omega)only[go_sem,K.ba,↓reduceIte,reduceAdd,reduceSub]
   ) (by simp)
 have lp2:∀z0 z3 z5:D,exS aL K.qK _=_:=lp
 clear lp
 cases hq:(List.range l.length).any (fun j=>Fs m.aa.length (nth l j))with
 | true=>
   rw[hq]at lp2
   simp only[if_true]at lp2
   generalize uw l.length (fun j=>Fs m.aa.length (nth l j))=j at*
   obtain⟨aa,roads⟩:=m
   simp only[ae]at*
   simp(disch:=omega)only[go_sem,K.dV,↓reduceIte,lp2,reduceAdd,reduceSub]
 | false=>
   rw[hq]at lp2
   simp only[aLt,if_false]at lp2
   obtain⟨aa,roads⟩:=m
   simp only[ae]at*
   simp(disch:=omega)only[go_sem,K.dV,↓reduceIte,lp2,ck,reduceAdd,reduceSub]
theorem MR{m:bq}(va:aL 0 N.cy [.t m.e] []=some (B false,[]))(l:List Rdr)(hl:l.length≤3)(at' tags:List Int)(ha:at'.length≤1000):aL 0 N.cQ [.t m.e,.t (.sl (l.map Rdr.e)),.t (tL at'),.t (tL tags),I 0] []=some (.tup [.t Hw.e,I 6],[]):=by
 have sv:aL 0 N.b6 [.t m.e,.t (.sl (l.map Rdr.e))] []=some (B false,[]):=by
  refine aj K.kI rfl ?_
  obtain⟨aa,roads⟩:=m
  simp(disch:=omega)only[go_sem,K.b6,↓reduceIte,va,Bool.false_and,reduceAdd,reduceSub]
 refine aj K.oL rfl ?_
 obtain⟨aa,roads⟩:=m
 simp(disch:=omega)only[go_sem,K.cQ,↓reduceIte,sv,reduceAdd,reduceSub]
 rfl
theorem HL{m:bq}(ck:aL 0 N.cG [.t m.e] []=some (I 4,[]))(l:List Rdr)(hl:l.length≤3)(h2:∀y∈l,y.pl.length≤64)(np:m.aa.length≤64)(nr:m.roads.length≤128)(at' tags:List Int)(ha:at'.length≤1000):aL 0 N.cz [.t m.e,.t (.sl (l.map Rdr.e)),.t (tL at'),.t (tL tags),I 0] []=some (.tup [.t Hw.e,I 6],[]):=by
 have sv:=Yi np nr ck l (by omega) (fun y hy=>by have:=h2 y hy;omega)
 refine aj K.oM rfl ?_
 obtain⟨aa,roads⟩:=m
 simp(disch:=omega)only[go_sem,K.cz,↓reduceIte,sv,reduceAdd,reduceSub]
 rfl
theorem PY{s:Stp}(va:aL 0 N.cy [.t s.m.e] []=some (B false,[]))(ck:aL 0 N.cG [.t s.m.e] []=some (I 4,[]))(hl:s.rd.length≤3)(h2:∀y∈s.rd,y.pl.length≤64)(np:s.m.aa.length≤64)(nr:s.m.roads.length≤128)(ha:s.pl.length≤1000):
 aL 0 N.eJ [.t s.e] []=some (.tup [.t HG.e,I 6,.t HG.e,I 6],[]):=by
 refine PW ?_ ?_
 · have st:=MR va s.rd hl s.pl s.tg ha
   refine aj K.ql rfl ?_
   obtain⟨⟨aa,roads⟩,rd,pl,tg,fl,⟨safe,bad,shut,gv⟩,⟨area,hold,mis⟩,bar⟩:=s
   simp only[Tru.e,Tru.cs,List.map_nil]at*
   simp(disch:=omega)only[go_sem,K.cW,↓reduceIte,st,reduceAdd,reduceSub]
   rfl
 · have st:=HL ck s.rd hl h2 np nr s.pl s.tg ha
   refine aj K.oO rfl ?_
   obtain⟨⟨aa,roads⟩,rd,pl,tg,fl,⟨safe,bad,shut,gv⟩,⟨area,hold,mis⟩,bar⟩:=s
   simp only[Tru.e,Tru.cs,List.map_nil]at*
   simp(disch:=omega)only[go_sem,K.cJ,↓reduceIte,st,reduceAdd,reduceSub]
   rfl
@[go_sem] theorem agO (H : aq) (a b : T) : G2 H 2 [.t (.agg [a, b])] = some (.ref H.length 0 1, H ++ [.arr 2 false 0 [.t (.agg [a, b])]]) := rfl
set_option maxRecDepth 20000 in
theorem QE(aw:aL 0 N.jb [] []=some (B true,[]))(li:List Int)(n:Int):aL 0 N.bn [.t (tL li),I n] []=some (B true,[]):=by
 refine aj K.mP rfl ?_
 have lo:=Rs li
 by_cases c:li.length≤400
 · simp only[c,decide_true]at lo
   have ro:=ady li
   have d0:(aT.mk li 0).dY:=c
   generalize (aT.mk li 0)=d at*
   obtain⟨s,e1,l1,hs,su⟩:=Yh d0
   have k:=hs.sm
   have bg:=Lt k
   have sp:=zG _ (HK k)
   rw[hs.ok]at bg
   generalize (oD s).1=P at*
   obtain⟨v,e2,nx,l2,v0,v9⟩:=mI l1 9 (by omega) (by omega)
   have G:∀s':Stp,s'.sm→∃(Q:Ply) (ec:Int),aL 0 N.eJ [.t s'.e] []=some (.tup [.t Q.e,I ec,.t Q.e,I ec],[])∧aL 0 N.gQ [.t Q.e,.t Q.e] []=some (B true,[]):=
    fun s' h=>⟨_,_,Lt h,zG _ (HK h)⟩
   have v:v=0∨v=1∨v=2∨v=3∨v=4∨v=5∨v=6∨v=7∨v=8:=by omega
   obtain⟨⟨aa,roads⟩,rd,pl,tg,fl,⟨safe,bad,shut,gv⟩,⟨area,hold,mis⟩,bar⟩:=s
   have z0:=k.m.np
   have z1:=k.m.nr
   have z2:=k.pl
   have z3:=k.tg
   have z4:=k.fl
   have z5:=k.bar
   have z6:=hs.p2
   have z7:=hs.r1
   have z8:=hs.p1
   simp only at z0 z1 z2 z3 z4 z5 z6 z7 z8
   rcases v with rfl | rfl | rfl | rfl | rfl | rfl | rfl | rfl | rfl
   · obtain⟨x,y,rest,rfl⟩:∃x y rest,aa=x::y::rest:=by
      match aa,z6 with
      | x::y::rest,_=>exact⟨x,y,rest,rfl⟩
     have hx:=k.m.hs x (by simp)
     have hr:=k.m.rs _ (aE (l:=roads) (j:=0) (by omega))
     have va:=PX x roads hx z7 z1 hr.f0 hr.t0 hr.ne
     have ck:=MQ x roads hx z7 z1 hr.f0 hr.t0 hr.ne
     have bg2:=PY (s:=⟨⟨[x],roads⟩,rd,pl,tg,fl,⟨safe,bad,shut,gv⟩,⟨area,hold,mis⟩,bar⟩) va ck k.rd (fun y hy=>(k.ro y hy).l) (by simp) z1 z2
     have sm2:=zG _ yO
     have cr:bV 2 (rest.map Place.e)=true:=fF 2 _ (fun _=>rfl) rest
     generalize HG=Q at*
     clear G k hs va ck
     simp only[Stp.e,Stp.cs,Ply.e,Ply.cs,tL,tLL,tS,List.map_cons,List.map_nil,List.length_cons]at*
     simp(disch:=omega)only[go_sem,K.bn,↓reduceIte,lo,ro,su,bg,sp,nx,bg2,sm2,aw,cr,List.map_cons,List.map_nil,List.length_cons,List.length_nil,reduceAdd,reduceSub]
   · obtain⟨Q,ec,bg2,sm2⟩:=G ⟨⟨aa,roads⟩,rd,n::pl,tg,fl,⟨safe,bad,shut,gv⟩,⟨area,hold,mis⟩,bar⟩ ⟨k.m,k.m1,k.rd,k.ro,by have:=hs.p3;simp only[List.length_cons]at *;omega,k.tg,k.fl,k.esc,k.bl,k.bar⟩
     clear G k hs
     simp only[Stp.e,Stp.cs,Ply.e,Ply.cs,tL,tLL,tS,List.map_cons,List.map_nil,List.length_cons]at*
     simp(disch:=omega)only[go_sem,K.bn,↓reduceIte,lo,ro,su,bg,sp,nx,bg2,sm2,aw,List.map_cons,List.map_nil,List.length_cons,List.length_nil,decide_true,reduceAdd,reduceSub]
   · obtain⟨t0,tt,rfl⟩:∃t0 tt,tg=t0::tt:=by
      cases tg with
      | nil=>have h1:=hs.tl;have h2:=hs.p1;simp only[List.length_nil]at h1 h2;omega
      | cons a b=>exact⟨a,b,rfl⟩
     obtain⟨Q,ec,bg2,sm2⟩:=G ⟨⟨aa,roads⟩,rd,pl,n::tt,fl,⟨safe,bad,shut,gv⟩,⟨area,hold,mis⟩,bar⟩ ⟨k.m,k.m1,k.rd,k.ro,k.pl,by have:=k.tg;simp only[List.length_cons]at *;omega,k.fl,k.esc,k.bl,k.bar⟩
     clear G k hs
     simp only[Stp.e,Stp.cs,Ply.e,Ply.cs,tL,tLL,tS,List.map_cons,List.map_nil,List.length_cons]at*
     simp(disch:=omega)only[go_sem,K.bn,↓reduceIte,lo,ro,su,bg,sp,nx,bg2,sm2,aw,List.map_cons,List.map_nil,List.length_cons,List.length_nil,decide_true,reduceAdd,reduceSub]
   · obtain⟨t0,tt,rfl⟩:∃t0 tt,fl=t0::tt:=by
      cases fl with
      | nil=>have h1:=hs.fl;have h2:=hs.r1;simp only[List.length_nil]at h1 h2;omega
      | cons a b=>exact⟨a,b,rfl⟩
     have cr:bV 2 (tt.map Spn.e)=true:=fF 2 _ (fun _=>rfl) tt
     obtain⟨Q,ec,bg2,sm2⟩:=G ⟨⟨aa,roads⟩,rd,pl,tg,⟨n,n⟩::tt,⟨safe,bad,shut,gv⟩,⟨area,hold,mis⟩,bar⟩ ⟨k.m,k.m1,k.rd,k.ro,k.pl,k.tg,by have:=k.fl;simp only[List.length_cons]at *;omega,k.esc,k.bl,k.bar⟩
     clear G k hs
     simp only[Stp.e,Stp.cs,Ply.e,Ply.cs,tL,tLL,tS,List.map_cons,List.map_nil,List.length_cons]at*
     simp(disch:=omega)only[go_sem,K.bn,↓reduceIte,lo,ro,su,bg,sp,nx,bg2,sm2,aw,cr,List.map_cons,List.map_nil,List.length_cons,List.length_nil,decide_true,reduceAdd,reduceSub]
   · obtain⟨Q,ec,bg2,sm2⟩:=G ⟨⟨aa,roads⟩,rd,pl,tg,fl,⟨[n],bad,shut,gv⟩,⟨area,hold,mis⟩,bar⟩ ⟨k.m,k.m1,k.rd,k.ro,k.pl,k.tg,k.fl,⟨by simp,k.esc.b,k.esc.h⟩,k.bl,k.bar⟩
     clear G k hs
     simp only[Stp.e,Stp.cs,Ply.e,Ply.cs,tL,tLL,tS,List.map_cons,List.map_nil,List.length_cons]at*
     simp(disch:=omega)only[go_sem,K.bn,↓reduceIte,lo,ro,su,bg,sp,nx,bg2,sm2,aw,List.map_cons,List.map_nil,List.length_cons,List.length_nil,decide_true,reduceAdd,reduceSub]
   · obtain⟨Q,ec,bg2,sm2⟩:=G ⟨⟨aa,roads⟩,rd,pl,tg,fl,⟨safe,bad,shut,gv⟩,⟨area,n,mis⟩,bar⟩ ⟨k.m,k.m1,k.rd,k.ro,k.pl,k.tg,k.fl,k.esc,k.bl,k.bar⟩
     clear G k hs
     simp only[Stp.e,Stp.cs,Ply.e,Ply.cs,tL,tLL,tS,List.map_cons,List.map_nil,List.length_cons]at*
     simp(disch:=omega)only[go_sem,K.bn,↓reduceIte,lo,ro,su,bg,sp,nx,bg2,sm2,aw,List.map_cons,List.map_nil,List.length_cons,List.length_nil,decide_true,reduceAdd,reduceSub]
   · have md:=Ox n 70 (by omega)
     generalize Mod n 70=u at*
     obtain⟨Q,ec,bg2,sm2⟩:=G ⟨⟨aa,roads⟩,rd,pl,tg,fl,⟨safe,bad,shut,gv⟩,⟨[u],hold,mis⟩,bar⟩ ⟨k.m,k.m1,k.rd,k.ro,k.pl,k.tg,k.fl,k.esc,by simp,k.bar⟩
     clear G k hs
     simp only[Stp.e,Stp.cs,Ply.e,Ply.cs,tL,tLL,tS,List.map_cons,List.map_nil,List.length_cons]at*
     simp(disch:=omega)only[go_sem,K.bn,↓reduceIte,lo,ro,su,bg,sp,nx,bg2,sm2,aw,md,List.map_cons,List.map_nil,List.length_cons,List.length_nil,decide_true,reduceAdd,reduceSub]
   · obtain⟨Q,ec,bg2,sm2⟩:=G ⟨⟨aa,roads⟩,rd,pl,tg,fl,⟨safe,bad,shut,gv⟩,⟨area,hold,mis⟩,[n]⟩ ⟨k.m,k.m1,k.rd,k.ro,k.pl,k.tg,k.fl,k.esc,k.bl,by simp⟩
     clear G k hs
     simp only[Stp.e,Stp.cs,Ply.e,Ply.cs,tL,tLL,tS,List.map_cons,List.map_nil,List.length_cons]at*
     simp(disch:=omega)only[go_sem,K.bn,↓reduceIte,lo,ro,su,bg,sp,nx,bg2,sm2,aw,List.map_cons,List.map_nil,List.length_cons,List.length_nil,decide_true,reduceAdd,reduceSub]
   · have md:=Ox n roads.length (by have:=hs.r1;simp only at this;omega)
     generalize Mod n roads.length=u at*
     obtain⟨Q,ec,bg2,sm2⟩:=G ⟨⟨aa,roads⟩,rd,pl,tg,fl,⟨safe,bad,shut,gv⟩,⟨area,hold,mis⟩,u::bar⟩ ⟨k.m,k.m1,k.rd,k.ro,k.pl,k.tg,k.fl,k.esc,k.bl,by have:=hs.br;simp only[List.length_cons]at *;omega⟩
     clear G k hs
     simp only[Stp.e,Stp.cs,Ply.e,Ply.cs,tL,tLL,tS,List.map_cons,List.map_nil,List.length_cons]at*
     simp(disch:=omega)only[go_sem,K.bn,↓reduceIte,lo,ro,su,bg,sp,nx,bg2,sm2,aw,md,List.map_cons,List.map_nil,List.length_cons,List.length_nil,decide_true,reduceAdd,reduceSub]
 · simp only[c,decide_false]at lo
   simp(disch:=omega)only[go_sem,K.bn,↓reduceIte,lo,aw,reduceAdd,reduceSub]
end Go.Ev
