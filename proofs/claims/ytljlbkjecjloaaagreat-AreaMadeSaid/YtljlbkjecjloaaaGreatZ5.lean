/- Parts of the proof: see the text that holds the theorem. -/
import Derived.Test.YtljlbkjecjloaaaGreatZ4
set_option linter.all false
set_option maxRecDepth 100000
namespace Go.Ev
open Go
variable [Lib] [bW] [bL]
@[go_sem] theorem TA {α β γ : Type} [Dat α] (f : β → γ) (g : α → β) {l : List α} {i j : Nat} {x : α} (h : j < l.length) : (((l.set i x).map g).map f)[j]? = some (f (g (nth (l.set i x) j))) := lH f g (by rw [List.length_set]; exact h)
def Lb(l:List Int)(i j:Nat):List Int:=(l.set i (nth l j)).set j (nth l i)
def wz(i j:Nat)(t:Int)(x:World):World:=⟨Lb x.tags i j,(x.whr.set i (nN (nth x.whr i) t).1).set j (nN (nth x.whr j) t).1⟩
def Bi(i j:Nat)(t:Int)(x:World)(out:List World):List World:=if Rl (nth x.whr i) (nth x.whr j) t=true then out++[wz i j t x]else out
def jy(i j:Nat)(t:Int)(ws:List World):Nat→List World
 | 0=>ws
 | k+1=>Bi i j t (nth ws k) (jy i j t ws k)
def oU(m:aM)(b:Bel)(i j t:Int):Bel×Int:=
 if rG m b=false then(b,6)else if i<0∨((nth b.worlds 0).tags.length:Int)≤i∨j<0∨((nth b.worlds 0).tags.length:Int)≤j∨i=j then(b,19)
 else if ¬inT t then(b,8)else if 24<(lY (jy i.toNat j.toNat t b.worlds b.worlds.length)).length then(b,44)else(⟨lY (jy i.toNat j.toNat t b.worlds b.worlds.length)⟩,0)
theorem Ou(i j:Nat)(t:Int)(x:World)(out:List World):out.length≤(Bi i j t x out).length∧(Bi i j t x out).length≤out.length+1:=by
 unfold Bi;split<;>(try rw[List.length_append,List.length_singleton])<;>omega
theorem uy(i j:Nat)(t:Int)(ws:List World):∀k,ws.length≤(jy i j t ws k).length∧(jy i j t ws k).length≤ws.length+k
 | 0=>⟨Nat.le_refl _,Nat.le_refl _⟩
 | k+1=>by
   have h1:=uy i j t ws k
   have h2:=Ou i j t (nth ws k) (jy i j t ws k)
   simp only[jy];omega
abbrev exH(m:aM)(ws out:List World):ai:=[.box (aa m),.box [.t (.sl (ws.map World.e))],.box [.nil],.arr 2 false 0 ((out.map World.e).map .t)]
theorem Lc(m:aM)(ws:List World)(hw:ws.length≤100000)(i j:Nat)(hij:i≠j)(t:Int)(k:Nat)(hk:k<ws.length)(hs:(nth ws k).sz)
 (i1:i<(nth ws k).tags.length) (j1:j<(nth ws k).tags.length) (hl:(nth ws k).whr.length=(nth ws k).tags.length) (out:List World) (ho:out.length≤1000000):
 fG true [0,1,5,8,9,12] 4 (exS aE K.gS ⟨[.und,.und,I i,I j,I t,.und,.bp 1 0,.bp 2 0,.und,.und,.ref 3 0 out.length,I k,.und],exH m ws out⟩)=
  some ⟨[.und,.und,I i,I j,I t,.und,.bp 1 0,.bp 2 0,.und,.und,.ref 3 0 (Bi i j t (nth ws k) out).length,I (k+1),.und],exH m ws (Bi i j t (nth ws k) out)⟩:=by
 have c1:=lM (nth ws k) hs
 have mt:=WI (nth (nth ws k).whr i) (nth (nth ws k).whr j) t (hs.2.2 _ (ae (by omega)))
 have r1:=Jt (nth (nth ws k).whr i) t (hs.2.2 _ (ae (by omega)))
 have r2:=Jt (nth (nth ws k).whr j) t (hs.2.2 _ (ae (by omega)))
 unfold Bi wz Lb
 have n1:∀w,nth ((nth ws k).whr.set i w) j=nth (nth ws k).whr j:=fun w=>by rw[p7 _ _ (by omega),if_neg (fun e=>hij e.symm)]
 generalize hx:nth ws k=x at*
 obtain⟨tags,whr⟩:=x
 obtain⟨s1,s2,s3⟩:=hs
 simp only at*
 generalize hwi:nth whr i=wi at*
 generalize hwj:nth whr j=wj at*
 generalize nN wi t=ri at*
 obtain⟨⟨t1,f1⟩,e1⟩:=ri
 generalize nN wj t=rj at*
 obtain⟨⟨t2,f2⟩,e2⟩:=rj
 obtain⟨ti,fi⟩:=wi
 obtain⟨tj,fj⟩:=wj
 simp only at*
 cases hm:Rl ⟨ti,fi⟩ ⟨tj,fj⟩ t with
 | true=>
   rw[hm]at mt
   simp(disch:=omega)only[go_sem,K.gS,↓reduceIte,exH,hx,hwi,hwj,n1,c1,mt,r1,r2,Nat.reduceAdd,Nat.reduceSub]
 | false=>
   rw[hm]at mt
   simp(disch:=omega)only[go_sem,K.gS,↓reduceIte,exH,hx,hwi,hwj,n1,c1,mt,r1,r2,Nat.reduceAdd,Nat.reduceSub,Bool.false_eq_true]
theorem uz(w:Wh)(t:Int):(nN w t).1.frm=w.frm:=by unfold nN;split<;>rfl
theorem Rn{i j:Nat}{t:Int}{x:World}(h:x.sz)(hi:i<x.whr.length)(hj:j<x.whr.length):(wz i j t x).sz:=by
 obtain⟨s1,s2,s3⟩:=h
 refine⟨by simpa [wz,Lb]using s1,by simpa [wz]using s2,fun w hw=>?_⟩
 simp only[wz]at hw
 rcases List.mem_or_eq_of_mem_set hw with hw | rfl
 · rcases List.mem_or_eq_of_mem_set hw with hw | rfl
   · exact s3 w hw
   · rw[uz];exact s3 _ (ae hi)
 · rw[uz];exact s3 _ (ae hj)
theorem Bj{ws:List World}(h:∀x∈ws,x.sz){i j:Nat}{t:Int}(hi:∀k,k<ws.length→i<(nth ws k).whr.length)(hj:∀k,k<ws.length→j<(nth ws k).whr.length):∀k,k≤ws.length→∀x∈jy i j t ws k,x.sz
 | 0,_,x,hx=>h x hx
 | k+1,hk,x,hx=>by
   simp only[jy,Bi]at hx
   split at hx
   · rcases List.mem_append.1 hx with hx | hx
     · exact Bj h hi hj k (by omega) x hx
     · rw[List.mem_singleton.1 hx];exact Rn (h _ (ae (by omega))) (hi k (by omega)) (hj k (by omega))
   · exact Bj h hi hj k (by omega) x hx
theorem Ld{m:aM}(h:m.ok)(b:Bel)(hs:b.sz)(i j t:Int):
 aE 0 N.bB [.t m.e,.t b.e,I i,I j,I t] []=some (.tup [.t (oU m b i j t).1.e,I (oU m b i j t).2],[]):=by
 refine ak K.ny rfl ?_
 have cb:=yE b hs
 have cb1:=H5 b hs
 have vb:=H6 h b hs
 unfold oU
 cases hb:rG m b with
 | false=>
   rw[hb]at vb
   obtain⟨ws⟩:=b
   simp(disch:=omega)only[go_sem,K.bB,↓reduceIte,cb,vb,Nat.reduceAdd,Nat.reduceSub]
 | true=>
   rw[hb]at vb
   obtain⟨w1,w2,f1,f2,w5⟩:=fK hb
   obtain⟨ws⟩:=b
   obtain⟨s1,s2⟩:=hs
   simp only at s1 s2 w1 w2 w5 f1 f2 cb cb1 vb ⊢
   have g0:(ws.map World.e)[0]?=some (nth ws 0).e:=bP _ (by omega)
   have wl:∀k,k<ws.length→(nth ws k).tags.length=(nth ws 0).tags.length∧(nth ws k).whr.length=(nth ws 0).tags.length:=fun k hk=>by
    obtain⟨q1,q2, -⟩:=hU (w5 k hk)
    exact⟨q1,q2⟩
   generalize hx:nth ws 0=x at*
   obtain⟨first,whr⟩:=x
   simp only at f1 f2 wl g0 ⊢
   rw[if_neg (by simp)]
   by_cases c1:i<0
   · rw[if_pos (by omega)]
     simp(disch:=omega)only[go_sem,K.bB,↓reduceIte,cb,vb,hx,g0,c1,Nat.reduceAdd,Nat.reduceSub]
   · by_cases c2:(first.length:Int)≤i
     · rw[if_pos (by omega)]
       simp(disch:=omega)only[go_sem,K.bB,↓reduceIte,cb,vb,hx,g0,c1,c2,Nat.reduceAdd,Nat.reduceSub]
     · by_cases c3:j<0
       · rw[if_pos (by omega)]
         simp(disch:=omega)only[go_sem,K.bB,↓reduceIte,cb,vb,hx,g0,c1,c2,c3,Nat.reduceAdd,Nat.reduceSub]
       · by_cases c4:(first.length:Int)≤j
         · rw[if_pos (by omega)]
           simp(disch:=omega)only[go_sem,K.bB,↓reduceIte,cb,vb,hx,g0,c1,c2,c3,c4,Nat.reduceAdd,Nat.reduceSub]
         · by_cases c5:i=j
           · rw[if_pos (by omega)]
             simp(disch:=omega)only[go_sem,K.bB,↓reduceIte,cb,vb,hx,g0,c1,c2,c3,c4,c5,Nat.reduceAdd,Nat.reduceSub]
           · rw[if_neg (by omega)]
             by_cases ct:inT t
             · have ct':=ct
               unfold inT at ct'
               rw[if_neg (fun h=>h ct)]
               obtain⟨i',rfl⟩:=Int.eq_ofNat_of_zero_le (show 0≤i by omega)
               obtain⟨j',rfl⟩:=Int.eq_ofNat_of_zero_le (show 0≤j by omega)
               simp only[Int.toNat_natCast]
               have ln:=uy i' j' t ws
               have loop:∀a b c d e f:D,exS aE K.qp ⟨[a,b,I i',I j',I t,c,.bp 1 0,.bp 2 0,d,e,.ref 3 0 ws.length,I 0,f],exH m ws ws⟩=
                some (.exit 0,⟨[.und,.und,I i',I j',I t,.und,.bp 1 0,.bp 2 0,.und,.und,.ref 3 0 (jy i' j' t ws ws.length).length,I ws.length,.und],exH m ws (jy i' j' t ws ws.length)⟩):=by
                intro a b c d e f
                refine bR (fun k=>⟨[.und,.und,I i',I j',I t,.und,.bp 1 0,.bp 2 0,.und,.und,.ref 3 0 (jy i' j' t ws k).length,I k,.und],exH m ws (jy i' j' t ws k)⟩) ws.length rfl ?_ ?_ (by simp)
                · intro k hk
                  obtain⟨q1,q2⟩:=wl k hk
                  have:=ln k
                  exact Lc m ws (by omega) i' j' (by omega) t k hk (s2 _ (ae hk)) (by omega) (by omega) (by omega) _ (by omega)
                · have:=ln ws.length
                  generalize jy i' j' t ws ws.length=L at*
                  simp(disch:=omega)only[go_sem,K.gS,↓reduceIte,exH,Nat.reduceAdd,Nat.reduceSub]
               have ln:=ln ws.length
               have sz:=Bj (t:=t) s2 (i:=i') (j:=j') (fun k hk=>by obtain⟨q1,q2⟩:=wl k hk;omega) (fun k hk=>by obtain⟨q1,q2⟩:=wl k hk;omega) ws.length (Nat.le_refl _)
               have ty:=WN (jy i' j' t ws ws.length) (by omega) (by omega) sz
               generalize jy i' j' t ws ws.length=L at*
               generalize lY L=Z at*
               simp only[exH]at loop
               by_cases c6:24<Z.length
               · simp(disch:=omega)only[go_sem,K.bB,↓reduceIte,cb,cb1,vb,hx,g0,c1,c2,c3,c4,c5,c6,loop,ty,Nat.reduceAdd,Nat.reduceSub]
               · simp(disch:=omega)only[go_sem,K.bB,↓reduceIte,cb,cb1,vb,hx,g0,c1,c2,c3,c4,c5,c6,loop,ty,Nat.reduceAdd,Nat.reduceSub]
             · rw[if_pos ct]
               unfold inT at ct
               by_cases c6:t<0
               · simp(disch:=omega)only[go_sem,K.bB,↓reduceIte,cb,vb,hx,g0,c1,c2,c3,c4,c5,c6,Nat.reduceAdd,Nat.reduceSub]
               · simp(disch:=omega)only[go_sem,K.bB,↓reduceIte,cb,vb,hx,g0,c1,c2,c3,c4,c5,c6,Nat.reduceAdd,Nat.reduceSub]
def rY:Nat→List Int
 | 0=>[]
 | k+1=>rY k++[3+(k:Int)*2]
def aD.m8(d:aD)(n:Int):Nat→List Int×aD
 | 0=>([],d)
 | k+1=>((d.m8 n k).1++[((d.m8 n k).2.next n).1],((d.m8 n k).2.next n).2)
theorem lZ:∀k,(rY k).length=k
 | 0=>rfl
 | k+1=>by simp[rY,lZ k]
theorem aD.kW(d:aD)(n:Int):∀k,(d.m8 n k).1.length=k
 | 0=>rfl
 | k+1=>by simp[aD.m8,d.kW n k]
theorem aD.pz{d:aD}(h:d.eD)(n:Int):∀k,(d.m8 n k).2.eD
 | 0=>h
 | k+1=>aD.aW (aD.pz h n k) n
structure BSt where
 b:Bel
 t:Int
 d:aD
def aD.ma(m:aM)(n:Int)(s:BSt):BSt:=
 let a:=s.d.next 60
 let c:=a.2.next 3
 if c.1=0 then
  let i:=c.2.next n
  let j:=i.2.next n
  let r:=oU m s.b i.1 j.1 (s.t+a.1)
  ⟨if r.2=0 then r.1 else s.b,s.t+a.1,j.2⟩
 else if c.1=1 then
  let g:=c.2.next n
  let l:=g.2.m0 m.places.length
  let e:=l.2.next 9
  let r:=tS m s.b (3+2*g.1) l.1 (s.t+a.1) (s.t+a.1+e.1)
  ⟨if r.2=0 then r.1 else s.b,s.t+a.1,e.2⟩
 else
  let g:=c.2.next n
  let l:=g.2.m0 m.places.length
  let e:=l.2.next 40
  let r:=tT m s.b (3+2*g.1) l.1 (s.t+a.1) (s.t+a.1+50) e.1
  ⟨if r.2=0 then r.1 else s.b,s.t+a.1,e.2⟩
def aD.yH(m:aM)(n:Int)(s:BSt):Nat→BSt
 | 0=>s
 | k+1=>aD.ma m n (aD.yH m n s k)
def aD.p8(d:aD):Nat:=(1+(d.next 3).1).toNat
def aD.nO(d:aD)(m:aM):List Int×aD:=(d.next 3).2.m8 m.places.length d.p8
def aD.Mh(d:aD)(m:aM):BSt:=⟨(ux m (rY d.p8) (d.nO m).1 ((d.nO m).2.next 100).1).1,100,(((d.nO m).2.next 100).2.next 5).2⟩
def aD.Ov(d:aD)(m:aM):Nat:=(((d.nO m).2.next 100).2.next 5).1.toNat
def aD.aeK(d:aD)(m:aM):BSt:=aD.yH m d.p8 (d.Mh m) (d.Ov m)
def aD.tV(d:aD)(m:aM):Bel×aD:=((d.aeK m).b,(d.aeK m).d)
structure WOk(m:aM)(N:Nat)(x:World):Prop where
 tg:x.tags.length=N
 wh:x.whr.length=N
 fr:∀w∈x.whr,w.frm.length=m.places.length
 ti:∀w∈x.whr,inT w.time
structure BOk(m:aM)(N:Nat)(b:Bel):Prop where
 w1:1≤b.worlds.length
 w2:b.worlds.length≤24
 n1:1≤N
 n2:N≤12
 ws:∀x∈b.worlds,WOk m N x
theorem WOk.sz{m:aM}{N:Nat}{x:World}(h:WOk m N x)(hm:m.ok)(hn:N≤12):x.sz:=by
 have np:=hm.np
 obtain⟨t1,t2,t3, -⟩:=h
 exact⟨by omega,by omega,fun w hw=>by rw[t3 w hw];omega⟩
theorem BOk.sz{m:aM}{N:Nat}{b:Bel}(h:BOk m N b)(hm:m.ok):b.sz:=
 ⟨by have:=h.w2;omega,fun x hx=>(h.ws x hx).sz hm h.n2⟩
theorem DQ{m:aM}{n:Int}{s:BSt}(h:s.d.eD):(aD.ma m n s).d.eD:=by
 unfold aD.ma
 simp only
 have l1:=aD.aW h 60
 generalize s.d.next 60=a at*
 obtain⟨a1,d1⟩:=a
 simp only at l1 ⊢
 have l2:=aD.aW l1 3
 generalize d1.next 3=c at*
 obtain⟨c1,d2⟩:=c
 simp only at l2 ⊢
 split
 · exact aD.aW (aD.aW l2 n) n
 · split
   · exact aD.aW (aD.mC (aD.aW l2 n) _) 9
   · exact aD.aW (aD.mC (aD.aW l2 n) _) 40
abbrev blH(m:aM)(p1 p2:Bool)(tags starts:List Int)(s:BSt):ai:=[s.d.obj,.box (aa m),.box [.nil],.arr 1 p1 0 (ints tags),.arr 1 p2 0 (ints starts),.box [.t (.sl (s.b.worlds.map World.e))]]
theorem Ow{m:aM}(hm:m.ok)(n:Int)(n1:1≤n)(n2:n≤12)(tags starts:List Int)(s:BSt)(hd:s.d.eD)(hb:s.b.sz)(ht:0≤s.t)(ht2:s.t≤1000000)(k:Nat)(hk:k≤100)(p1 p2:Bool):
 fG true [1,5,6,7,11,12,13,14,15,16,17] 6 (exS aE K.bF ⟨[.bp 0 0,.und,.bp 1 0,.bp 2 0,I n,.und,.und,.und,.bp 5 0,I s.t,I (k+1),.und,.und,.und,.und,.und,.und,.und],blH m p1 p2 tags starts s⟩)=
 some ⟨[.bp 0 0,.und,.bp 1 0,.bp 2 0,I n,.und,.und,.und,.bp 5 0,I (aD.ma m n s).t,I k,.und,.und,.und,.und,.und,.und,.und],blH m p1 p2 tags starts (aD.ma m n s)⟩:=by
 obtain⟨b,t,d⟩:=s
 simp only at hd hb ht ht2
 unfold aD.ma
 simp only
 have np:=hm.np
 have h1:=gY d 60 (by omega) hd
 have l1:=aD.aW hd 60
 have a0:=d.ei 60
 have a9:=d.en (n:=60) (by omega)
 generalize d.next 60=a at*
 obtain⟨x1,d1⟩:=a
 simp only at h1 l1 a0 a9 ⊢
 have h2:=gY d1 3 (by omega) l1
 have l2:=aD.aW l1 3
 have c0:=d1.ei 3
 have c9:=d1.en (n:=3) (by omega)
 generalize d1.next 3=c at*
 obtain⟨x2,d2⟩:=c
 simp only at h2 l2 c0 c9 ⊢
 have h3:=gY d2 n (by omega) l2
 have l3:=aD.aW l2 n
 have g0:=d2.ei n
 have g9:=d2.en (n:=n) n1
 generalize d2.next n=g at*
 obtain⟨x3,d3⟩:=g
 simp only at h3 l3 g0 g9 ⊢
 by_cases e0:x2=0
 · simp only[if_pos e0]
   have h4:=gY d3 n (by omega) l3
   generalize d3.next n=g at*
   obtain⟨x4,d4⟩:=g
   simp only at h4 ⊢
   have ex:=Ld hm b hb x3 x4 (t+x1)
   generalize oU m b x3 x4 (t+x1)=r at*
   obtain⟨⟨ws'⟩,er⟩:=r
   obtain⟨ws⟩:=b
   simp only at ex ⊢
   subst e0
   by_cases e:er=0
   · simp(disch:=omega)only[go_sem,K.bF,↓reduceIte,blH,h1,h2,h3,h4,ex,e,Nat.reduceAdd,Nat.reduceSub]
   · simp(disch:=omega)only[go_sem,K.bF,↓reduceIte,blH,h1,h2,h3,h4,ex,e,Nat.reduceAdd,Nat.reduceSub]
 · simp only[if_neg e0]
   have h4:=Nz d3 m.places.length (by omega) l3
   have l4:=aD.mC l3 m.places.length
   have ln:=d3.xo m.places.length
   generalize d3.m0 m.places.length=q at*
   obtain⟨l,d4⟩:=q
   simp only at h4 l4 ln ⊢
   by_cases e1:x2=1
   · simp only[if_pos e1]
     have h5:=gY d4 9 (by omega) l4
     have f0:=d4.ei 9
     have f9:=d4.en (n:=9) (by omega)
     generalize d4.next 9=g at*
     obtain⟨x5,d5⟩:=g
     simp only at h5 f0 f9 ⊢
     have ex:=On hm b hb (3+2*x3) l (by omega) (t+x1) (t+x1+x5)
     generalize tS m b (3+2*x3) l (t+x1) (t+x1+x5)=r at*
     obtain⟨⟨ws'⟩,er⟩:=r
     obtain⟨ws⟩:=b
     simp only at ex ⊢
     subst e1
     by_cases e:er=0
     · simp(disch:=omega)only[go_sem,K.bF,↓reduceIte,blH,h1,h2,h3,h4,h5,ex,e,Nat.reduceAdd,Nat.reduceSub]
     · simp(disch:=omega)only[go_sem,K.bF,↓reduceIte,blH,h1,h2,h3,h4,h5,ex,e,Nat.reduceAdd,Nat.reduceSub]
   · simp only[if_neg e1]
     have h5:=gY d4 40 (by omega) l4
     have f0:=d4.ei 40
     have f9:=d4.en (n:=40) (by omega)
     generalize d4.next 40=g at*
     obtain⟨x5,d5⟩:=g
     simp only at h5 f0 f9 ⊢
     have ex:=Oo hm b hb (3+2*x3) l (by omega) (t+x1) (t+x1+50) x5
     generalize tT m b (3+2*x3) l (t+x1) (t+x1+50) x5=r at*
     obtain⟨⟨ws'⟩,er⟩:=r
     obtain⟨ws⟩:=b
     simp only at ex ⊢
     by_cases e:er=0
     · simp(disch:=omega)only[go_sem,K.bF,↓reduceIte,blH,h1,h2,h3,h4,h5,ex,e,e0,e1,Nat.reduceAdd,Nat.reduceSub]
     · simp(disch:=omega)only[go_sem,K.bF,↓reduceIte,blH,h1,h2,h3,h4,h5,ex,e,e0,e1,Nat.reduceAdd,Nat.reduceSub]
theorem Gg{m:aM}(hm:m.ok){p t:Int}(p0:0≤p)(p1:p<m.places.length)(ht:inT t):(gT m p t).2=0∧(gT m p t).1.frm.length=m.places.length:=by
 unfold gT
 rw[if_neg (by omega),if_pos ht]
 refine⟨rfl,?_⟩
 exact kS hm t ht none (fun l h=>by cases h) (by simp) (vU (yv _) ht.1 (by have:=ht.2;omega))
theorem Ox{m:aM}{p t:Int}(ht:inT t):inT (gT m p t).1.time:=by
 unfold gT
 split
 · unfold inT;simp
 · exact ht
theorem WO{m:aM}(w:Wh)(l:List Int)(a b:Int)(hw:inT w.time):inT (BR m w l a b).1.time:=by
 unfold BR
 split
 · exact hw
 · rename_i h
   have h0:lJ m w l a b=0:=by simpa using h
   obtain⟨v1,v2,v3,v4,v5,v6⟩:=nZ h0
   split
   · exact hw
   · split
     · exact v5
     · exact hw
theorem WQ{m:aM}(w:Wh)(l:List Int)(a b bl:Int)(hw:inT w.time):inT (CC m w l a b bl).1.time:=by
 unfold CC
 split
 · exact hw
 · rename_i h
   have h0:lJ m w l a b=0:=by simpa using h
   obtain⟨v1,v2,v3,v4,v5,v6⟩:=nZ h0
   split
   · exact hw
   · split
     · exact hw
     · split
       · exact hw
       · exact v5
theorem Ro{a b:Wh}(ha:inT a.time)(hb:inT b.time):inT (jS a b).1.time:=by
 unfold jS
 split
 · unfold inT at *;simp only;omega
 · unfold inT;simp
theorem Gi{w:Wh}{t:Int}(h:inT w.time):inT (nN w t).1.time:=by
 unfold nN
 split
 · exact h
 · unfold inT at *;simp only;omega
theorem JL(a b:List Wh)(ha:∀w∈a,inT w.time)(hb:∀w∈b,inT w.time):∀p,p≤a.length→p≤b.length→∀w∈jU a b p,inT w.time
 | 0,_,_,w,hw=>ha w hw
 | p+1,h1,h2,w,hw=>by
   simp only[jU]at hw
   rcases List.mem_or_eq_of_mem_set hw with hw | rfl
   · exact JL a b ha hb p (by omega) (by omega) w hw
   · exact Ro (ha _ (ae (by omega))) (hb _ (ae (by omega)))
theorem Rq{m:aM}(hm:m.ok)(w:Wh)(l:List Int)(a b:Int)(hw:w.frm.length=m.places.length):(BR m w l a b).1.frm.length=m.places.length:=by
 unfold BR
 split
 · exact hw
 · rename_i h
   have h0:lJ m w l a b=0:=by simpa using h
   obtain⟨v1,v2,v3,v4,v5,v6⟩:=nZ h0
   obtain⟨w1,w2,w3,w4⟩:=cJ v1
   have hb:bnd w.frm:=fun x hx=>nF (w3 x hx)
   split
   · exact hw
   · split
     · refine kS hm a v4 none (fun l h=>by cases h) (rB _ _ _ _ _) (DH hb _ _ ?_ _ (Nat.le_refl _))
       intro p hp
       obtain⟨j,hj⟩:=List.mem_iff_getElem?.1 hp
       have hjl:=(List.getElem?_eq_some_iff.1 hj).1
       obtain⟨q1,q2, -⟩:=rz v3 hjl
       rw[bG hj]at q1 q2
       omega
     · exact hw
theorem Rr{m:aM}(hm:m.ok)(w:Wh)(l:List Int)(a b bl:Int)(hw:w.frm.length=m.places.length):(CC m w l a b bl).1.frm.length=m.places.length:=by
 unfold CC
 split
 · exact hw
 · rename_i h
   have h0:lJ m w l a b=0:=by simpa using h
   obtain⟨v1,v2,v3,v4,v5,v6⟩:=nZ h0
   obtain⟨w1,w2,w3,w4⟩:=cJ v1
   have hb:bnd w.frm:=fun x hx=>nF (w3 x hx)
   split
   · exact hw
   · split
     · exact hw
     · split
       · exact hw
       · rename_i h1 h2 h3
         have hlen:=rA v3
         have np:=hm.np
         have h1:inT bl:=by simpa using h1
         unfold inT at v4 v5 w2 h1
         have t1:inT (b-bl):=by unfold inT;omega
         have hi:∀s,some l=some s→s≠[]∧s.length≤64:=by
          intro s hs;cases hs;exact⟨v2,by omega⟩
         have ln:=xu w.frm l l.length
         have lb:=DI hb l l.length
         exact kS hm b v5 none (fun l h=>by cases h) (kS hm _ t1 _ hi (by omega) lb) (CB hm _ t1 _ hi (by omega) lb)
theorem Oy{m:aM}{N:Nat}{tag:Int}{x:World}{w:Wh}(hx:WOk m N x)(hw:w.frm.length=m.places.length)(hw2:inT w.time):WOk m N (Ie tag x w):=by
 obtain⟨t1,t2,t3,t4⟩:=hx
 refine⟨t1,by simpa [Ie]using t2,fun y hy=>?_,fun y hy=>?_⟩
 · simp only[Ie]at hy
   rcases List.mem_or_eq_of_mem_set hy with hy | rfl
   · exact t3 y hy
   · exact hw
 · simp only[Ie]at hy
   rcases List.mem_or_eq_of_mem_set hy with hy | rfl
   · exact t4 y hy
   · exact hw2
theorem Ij{m:aM}(hm:m.ok){N:Nat}{b:Bel}(hb:BOk m N b)(tag:Int)(l:List Int)(a c:Int):BOk m N (if(tS m b tag l a c).2=0 then(tS m b tag l a c).1 else b):=by
 split
 · rename_i h0
   unfold tS at h0 ⊢
   by_cases e0:oS m b tag=0
   · simp only[e0,ne_eq,not_true_eq_false,if_false]at h0 ⊢
     obtain⟨_,bb⟩:=Ih e0
     cases hf:(List.range b.worlds.length).find? (Gd m tag l a c b.worlds)with
     | some i=>simp only[hf];exact hb
     | none=>
       simp only[hf]at h0 ⊢
       split at h0
       · simp at h0
       · rename_i hl
         rw[if_neg hl]
         have ln:=xH m tag l a c b.worlds b.worlds.length
         refine⟨by simp only;omega,by have:=hb.w2;simp only;omega,hb.n1,hb.n2,?_⟩
         have key:∀j,j≤b.worlds.length→∀x∈oT m tag l a c b.worlds j,WOk m N x:=by
          intro j
          induction j with
          | zero=>intro _ x hx;simp[oT]at hx
          | succ j ih=>
            intro hj x hx
            have wj:=hb.ws _ (ae (l:=b.worlds) (j:=j) (by omega))
            obtain⟨b1,b2⟩:=bb j (by omega)
            simp only[oT,Gb]at hx
            split at hx
            · exact ih (by omega) x hx
            · rcases List.mem_append.1 hx with hx | hx
              · exact ih (by omega) x hx
              · rw[List.mem_singleton.1 hx]
                split
                · exact Oy wj (Rq hm _ l a c (wj.fr _ (ae (by omega)))) (WO _ l a c (wj.ti _ (ae (by omega))))
                · exact wj
         exact key _ (Nat.le_refl _)
   · rw[if_pos e0]at h0 ⊢
     exact hb
 · exact hb
theorem Ik{m:aM}(hm:m.ok){N:Nat}{b:Bel}(hb:BOk m N b)(tag:Int)(l:List Int)(a c bl:Int):BOk m N (if(tT m b tag l a c bl).2=0 then(tT m b tag l a c bl).1 else b):=by
 split
 · rename_i h0
   unfold tT at h0 ⊢
   by_cases e0:oS m b tag=0
   · simp only[e0,ne_eq,not_true_eq_false,if_false]at h0 ⊢
     obtain⟨_,bb⟩:=Ih e0
     cases hf:(List.range b.worlds.length).find? (Gf m tag l a c bl b.worlds)with
     | some i=>simp only[hf];exact hb
     | none=>
       simp only[hf]
       have ln:=xI m tag l a c bl b.worlds b.worlds.length
       refine⟨by have:=hb.w1;simp only;omega,by have:=hb.w2;simp only;omega,hb.n1,hb.n2,?_⟩
       have key:∀j,j≤b.worlds.length→∀x∈qy m tag l a c bl b.worlds j,WOk m N x:=by
        intro j
        induction j with
        | zero=>intro _ x hx;simp[qy]at hx
        | succ j ih=>
          intro hj x hx
          have wj:=hb.ws _ (ae (l:=b.worlds) (j:=j) (by omega))
          obtain⟨b1,b2⟩:=bb j (by omega)
          simp only[qy,Ig]at hx
          rcases List.mem_append.1 hx with hx | hx
          · exact ih (by omega) x hx
          · rw[List.mem_singleton.1 hx]
            split
            · exact Oy wj (Rr hm _ l a c bl (wj.fr _ (ae (by omega)))) (WQ _ l a c bl (wj.ti _ (ae (by omega))))
            · exact wj
       exact key _ (Nat.le_refl _)
   · rw[if_pos e0]at h0 ⊢
     exact hb
 · exact hb
theorem Oz{m:aM}{a b:Wh}(ha:a.frm.length=m.places.length)(hb:b.frm.length=m.places.length):(jS a b).1.frm.length=m.places.length:=by
 unfold jS
 rw[if_pos (by omega)]
 simp only[mQ];exact ha
theorem JM{m:aM}(a b:List Wh)(ha:∀w∈a,w.frm.length=m.places.length)(hb:∀w∈b,w.frm.length=m.places.length):∀p,p≤a.length→p≤b.length→∀w∈jU a b p,w.frm.length=m.places.length
 | 0,_,_,w,hw=>ha w hw
 | p+1,h1,h2,w,hw=>by
   simp only[jU]at hw
   rcases List.mem_or_eq_of_mem_set hw with hw | rfl
   · exact JM a b ha hb p (by omega) (by omega) w hw
   · exact Oz (ha _ (ae (by omega))) (hb _ (ae (by omega)))
theorem Le{m:aM}{N:Nat}{out:List World}{x:World}(ho:∀y∈out,WOk m N y)(hx:WOk m N x):∀y∈i5 out x,WOk m N y:=by
 intro y hy
 unfold i5 at hy
 split at hy
 · rename_i h
   rcases List.mem_or_eq_of_mem_set hy with hy | rfl
   · exact ho y hy
   · obtain⟨s1,s2,s3,s4⟩:=ho _ (ae h.1)
     refine⟨hx.tg,?_,JM _ _ s3 hx.fr _ (Nat.min_le_left _ _) (Nat.min_le_right _ _),JL _ _ s4 hx.ti _ (Nat.min_le_left _ _) (Nat.min_le_right _ _)⟩
     show(jU _ _ _).length=_
     rw[i4];exact s2
 · rcases List.mem_append.1 hy with hy | hy
   · rcases List.mem_append.1 hy with hy | hy
     · exact ho y (List.mem_of_mem_take hy)
     · rw[List.mem_singleton.1 hy];exact hx
   · exact ho y (List.mem_of_mem_drop hy)
theorem CT{m:aM}{N:Nat}{l:List World}(hl:∀x∈l,WOk m N x):∀j,j≤l.length→∀y∈o6 l j,WOk m N y
 | 0,_,y,hy=>by simp[o6]at hy
 | j+1,h,y,hy=>Le (CT hl j (by omega)) (hl _ (ae (by omega))) y hy
theorem Lf{m:aM}{N:Nat}{i j:Nat}{t:Int}{x:World}(h:WOk m N x)(hi:i<N)(hj:j<N):WOk m N (wz i j t x):=by
 obtain⟨s1,s2,s3,s4⟩:=h
 refine⟨by simpa [wz,Lb]using s1,by simpa [wz]using s2,fun w hw=>?_,fun w hw=>?_⟩
 · simp only[wz]at hw
   rcases List.mem_or_eq_of_mem_set hw with hw | rfl
   · rcases List.mem_or_eq_of_mem_set hw with hw | rfl
     · exact s3 w hw
     · rw[uz];exact s3 _ (ae (by omega))
   · rw[uz];exact s3 _ (ae (by omega))
 · simp only[wz]at hw
   rcases List.mem_or_eq_of_mem_set hw with hw | rfl
   · rcases List.mem_or_eq_of_mem_set hw with hw | rfl
     · exact s4 w hw
     · exact Gi (s4 _ (ae (by omega)))
   · exact Gi (s4 _ (ae (by omega)))
theorem wA{m:aM}{N:Nat}{ws:List World}(h:∀x∈ws,WOk m N x){i j:Nat}{t:Int}(hi:i<N)(hj:j<N):∀k,k≤ws.length→∀x∈jy i j t ws k,WOk m N x
 | 0,_,x,hx=>h x hx
 | k+1,hk,x,hx=>by
   simp only[jy,Bi]at hx
   split at hx
   · rcases List.mem_append.1 hx with hx | hx
     · exact wA h hi hj k (by omega) x hx
     · rw[List.mem_singleton.1 hx];exact Lf (h _ (ae (by omega))) hi hj
   · exact wA h hi hj k (by omega) x hx
theorem Gj{m:aM}{N:Nat}{b:Bel}(hb:BOk m N b)(i j t:Int):BOk m N (if(oU m b i j t).2=0 then(oU m b i j t).1 else b):=by
 split
 · rename_i h0
   unfold oU at h0 ⊢
   split at h0
   · simp at h0
   · rename_i c1
     rw[if_neg c1]
     split at h0
     · simp at h0
     · rename_i c2
       rw[if_neg c2]
       split at h0
       · simp at h0
       · rename_i c3
         rw[if_neg c3]
         split at h0
         · simp at h0
         · rename_i c4
           rw[if_neg c4]
           have t0:=(hb.ws _ (ae (l:=b.worlds) (j:=0) (by have:=hb.w1;omega))).tg
           have ln:=uy i.toNat j.toNat t b.worlds b.worlds.length
           have w1:=hb.w1
           refine⟨?_,by simp only;omega,hb.n1,hb.n2,?_⟩
           · simp only[lY]
             cases hn:(jy i.toNat j.toNat t b.worlds b.worlds.length).length with
             | zero=>omega
             | succ n=>exact(tU _ _).2.2
           · exact CT (wA hb.ws (by omega) (by omega) _ (Nat.le_refl _)) _ (Nat.le_refl _)
 · exact hb
theorem Gk{m:aM}(hm:m.ok){N:Nat}{n:Int}{s:BSt}(hb:BOk m N s.b):BOk m N (aD.ma m n s).b:=by
 unfold aD.ma
 simp only
 split
 · exact Gj hb _ _ _
 · split
   · exact Ij hm hb _ _ _ _
   · exact Ik hm hb _ _ _ _ _
theorem Gl{m:aM}{n:Int}{s:BSt}:s.t≤(aD.ma m n s).t∧(aD.ma m n s).t≤s.t+60:=by
 have h1:=s.d.ei 60
 have h2:=s.d.en (n:=60) (by omega)
 unfold aD.ma
 simp only
 split
 · simp only;omega
 · split<;>(simp only;omega)
theorem Bk{m:aM}(hm:m.ok){N:Nat}{n:Int}{s:BSt}(hb:BOk m N s.b)(hd:s.d.eD)(ht:s.t=100):∀k,BOk m N (aD.yH m n s k).b∧(aD.yH m n s k).d.eD∧100≤(aD.yH m n s k).t∧(aD.yH m n s k).t≤100+60*k
 | 0=>⟨hb,hd,by simp[aD.yH,ht],by simp[aD.yH,ht]⟩
 | k+1=>by
   obtain⟨h1,h2,h3,h4⟩:=Bk hm hb hd ht k
   have ht:=Gl (m:=m) (n:=n) (s:=aD.yH m n s k)
   exact⟨Gk hm h1,DQ h2,by simp only[aD.yH];omega,by simp only[aD.yH];omega⟩
theorem zt{n:Nat}(h:n≤3):fy (rY n)=true:=by
 match n,h with
 | 0,_=>decide
 | 1,_=>decide
 | 2,_=>decide
 | 3,_=>decide
theorem tY(d:aD){n:Int}(hn:1≤n):∀k,∀x∈(d.m8 n k).1,0≤x∧x<n
 | 0,x,hx=>by simp[aD.m8]at hx
 | k+1,x,hx=>by
   simp only[aD.m8,List.mem_append,List.mem_singleton]at hx
   rcases hx with hx | rfl
   · exact tY d hn k x hx
   · exact⟨aD.ei _ _,aD.en _ hn⟩
theorem Bl(d:aD):1≤d.p8∧d.p8≤3:=by
 have h1:=d.ei 3
 have h2:=d.en (n:=3) (by omega)
 unfold aD.p8;omega
theorem DR{m:aM}(hm:m.ok)(h1:1≤m.places.length)(d:aD):
 (ux m (rY d.p8) (d.nO m).1 ((d.nO m).2.next 100).1)=(⟨[⟨rY d.p8,iF m (d.nO m).1 ((d.nO m).2.next 100).1 (rY d.p8).length⟩]⟩,0):=by
 have pb:=Bl d
 have tl:=lZ d.p8
 have sl:(d.nO m).1.length=d.p8:=aD.kW _ _ _
 have t0:=(d.nO m).2.ei 100
 have t9:=(d.nO m).2.en (n:=100) (by omega)
 have np:=hm.np
 unfold ux
 rw[if_pos (by omega),if_pos (zt (by omega))]
 have:(List.range (rY d.p8).length).find? (fun i=> !decide ((gT m (nth (d.nO m).1 i) ((d.nO m).2.next 100).1).2=0))=none:=by
  rw[List.find?_eq_none]
  intro i hi
  have hi:i<(d.nO m).1.length:=by rw[sl,←tl];exact List.mem_range.1 hi
  have:=tY (d.next 3).2 (n:=m.places.length) (by omega) d.p8 _ (ae hi)
  have:=(Gg hm this.1 this.2 (t:=((d.nO m).2.next 100).1) ⟨by omega,by omega⟩).1
  have e:(gT m (nth (d.nO m).1 i) ((d.nO m).2.next 100).1).2=0:=this
  simp[e]
 rw[this]
theorem Gm{m:aM}(hm:m.ok)(h1:1≤m.places.length)(d:aD):BOk m d.p8 (d.Mh m).b:=by
 have pb:=Bl d
 have tl:=lZ d.p8
 have sl:(d.nO m).1.length=d.p8:=aD.kW _ _ _
 have t0:=(d.nO m).2.ei 100
 have t9:=(d.nO m).2.en (n:=100) (by omega)
 have np:=hm.np
 unfold aD.Mh
 rw[DR hm h1]
 refine⟨by simp,by simp,by omega,by omega,fun x hx=>?_⟩
 rw[List.mem_singleton.1 hx]
 refine⟨tl,by simp[tl],fun w hw=>?_,fun w hw=>by
  simp only[iF,List.mem_map,List.mem_range]at hw
  obtain⟨i,hi,rfl⟩:=hw
  exact Ox ⟨by omega,by omega⟩⟩
 simp only[iF,List.mem_map,List.mem_range]at hw
 obtain⟨i,hi,rfl⟩:=hw
 have hi:i<(d.nO m).1.length:=by rw[sl,←tl];exact hi
 have:=tY (d.next 3).2 (n:=m.places.length) (by omega) d.p8 _ (ae hi)
 exact(Gg hm this.1 this.2 ⟨by omega,by omega⟩).2
theorem OA{m:aM}(hm:m.ok)(h1:1≤m.places.length){d:aD}(hd:d.eD):BOk m d.p8 (d.tV m).1∧(d.tV m).2.eD:=by
 have l0:(d.Mh m).d.eD:=aD.aW (aD.aW (aD.pz (aD.aW hd 3) _ _) _) _
 obtain⟨h1,h2, -⟩:=Bk hm (Gm hm h1 d) l0 rfl (n:=d.p8) (d.Ov m)
 exact⟨h1,h2⟩
theorem OB{m:aM}(hm:m.ok)(d:aD)(hd:d.eD)(n:Nat)(hn:n≤12)(a b c e f g h i j k:D):
 exS aE K.ou ⟨[.bp 0 0,a,.bp 1 0,.bp 2 0,I n,.ref 3 0 0,.ref 4 0 0,I 0,b,c,e,f,g,h,i,j,k,.und],[d.obj,.box (aa m),.box [.nil],.arr 1 false 0 [],.arr 1 false 0 []]⟩=
 some (.exit 0,⟨[.bp 0 0,.und,.bp 1 0,.bp 2 0,I n,.ref 3 0 n,.ref 4 0 n,I n,.und,.und,.und,.und,.und,.und,.und,.und,.und,.und],[(d.m8 m.places.length n).2.obj,.box (aa m),.box [.nil],.arr 1 false 0 (ints (rY n)),.arr 1 false 0 (ints (d.m8 m.places.length n).1)]⟩):=by
 refine bR (fun k=>⟨[.bp 0 0,.und,.bp 1 0,.bp 2 0,I n,.ref 3 0 k,.ref 4 0 k,I k,.und,.und,.und,.und,.und,.und,.und,.und,.und,.und],[(d.m8 m.places.length k).2.obj,.box (aa m),.box [.nil],.arr 1 false 0 (ints (rY k)),.arr 1 false 0 (ints (d.m8 m.places.length k).1)]⟩) n rfl ?_ ?_ (by simp)
 · intro j hj
   have np:=hm.np
   have tl:=lZ j
   have sl:=d.kW m.places.length j
   have lt:=aD.pz hd m.places.length j
   simp only[rY,aD.m8]
   generalize rY j=ts at*
   generalize d.m8 m.places.length j=s at*
   obtain⟨ss,d1⟩:=s
   simp only at sl lt ⊢
   have h1:=gY d1 m.places.length (by omega) lt
   generalize d1.next m.places.length=r at*
   obtain⟨x,d2⟩:=r
   simp only at h1 ⊢
   simp(disch:=omega)only[go_sem,K.jY,↓reduceIte,ints,h1,Nat.reduceAdd,Nat.reduceSub]
 · have tl:=lZ n
   have sl:=d.kW m.places.length n
   simp(disch:=omega)only[go_sem,K.jY,↓reduceIte,ints,Nat.reduceAdd,Nat.reduceSub]
theorem OC{m:aM}(hm:m.ok){N:Nat}(n:Int)(n1:1≤n)(n2:n≤12)(tags starts:List Int)(s:BSt)(hd:s.d.eD)(hb:BOk m N s.b)(ht:s.t=100)(p1 p2:Bool)(kk:Nat)(hK:kk≤100):
 nV true [1,5,6,7,11,12,13,14,15,16,17] (exS aE K.bF) ⟨[.bp 0 0,.und,.bp 1 0,.bp 2 0,I n,.und,.und,.und,.bp 5 0,I s.t,I kk,.und,.und,.und,.und,.und,.und,.und],blH m p1 p2 tags starts s⟩=
 some (.exit 2,⟨[.bp 0 0,.und,.bp 1 0,.bp 2 0,I n,.und,.und,.und,.bp 5 0,I (aD.yH m n s kk).t,I 0,.und,.und,.und,.und,.und,.und,.und],blH m p1 p2 tags starts (aD.yH m n s kk)⟩):=by
 have key:=zV (gc:=true) (dead:=[1,5,6,7,11,12,13,14,15,16,17]) (body:=exS aE K.bF)
  (fun k=>⟨[.bp 0 0,.und,.bp 1 0,.bp 2 0,I n,.und,.und,.und,.bp 5 0,I (aD.yH m n s k).t,I ((kk-k:Nat):Int),.und,.und,.und,.und,.und,.und,.und],blH m p1 p2 tags starts (aD.yH m n s k)⟩)
  (p:=(.exit 2,⟨[.bp 0 0,.und,.bp 1 0,.bp 2 0,I n,.und,.und,.und,.bp 5 0,I (aD.yH m n s kk).t,I 0,.und,.und,.und,.und,.und,.und,.und],blH m p1 p2 tags starts (aD.yH m n s kk)⟩)) kk ?_ ?_
 · exact key
 · intro k hk
   obtain⟨g1,g2,g3,g4⟩:=Bk hm (n:=n) hb hd ht k
   have:=Ow hm n n1 n2 tags starts (aD.yH m n s k) g2 (g1.sz hm) (by omega) (by omega) (kk-(k+1)) (by omega) p1 p2
   rw[show(((kk-(k+1):Nat):Int)+1)=((kk-k:Nat):Int)by omega]at this
   exact this
 · refine cN ?_ (by simp)
   simp only[Nat.sub_self]
   simp(disch:=omega)only[go_sem,K.bF,↓reduceIte,blH,Nat.reduceAdd,Nat.reduceSub]
theorem OD{m:aM}(hm:m.ok)(h1:1≤m.places.length)(d:aD)(hd:d.eD):aE 0 N.cn [.bp 0 0,.t m.e] [d.obj]=some (.t (d.tV m).1.e,[(d.tV m).2.obj]):=by
 refine ak K.lD rfl ?_
 have np:=hm.np
 have pb:=Bl d
 have eP:(d.p8:Int)=1+(d.next 3).1:=by have:=d.ei 3;unfold aD.p8;omega
 have g0:=Gm hm h1 d
 have e0:=DR hm h1 d
 have a1:=gY d 3 (by omega) hd
 have l1:=aD.aW hd 3
 have q1:=fun a b c e f g h i j k=>OB hm (d.next 3).2 l1 d.p8 (by omega) a b c e f g h i j k
 have eS:(d.next 3).2.m8 m.places.length d.p8=d.nO m:=rfl
 rw[eS]at q1
 have lS:(d.nO m).2.eD:=aD.pz l1 _ _
 have a2:=gY (d.nO m).2 100 (by omega) lS
 have l2:=aD.aW lS 100
 have a3:=gY ((d.nO m).2.next 100).2 5 (by omega) l2
 have l3:=aD.aW l2 5
 have k0:=((d.nO m).2.next 100).2.ei 5
 have k9:=((d.nO m).2.next 100).2.en (n:=5) (by omega)
 have eK:(d.Ov m:Int)=(((d.nO m).2.next 100).2.next 5).1:=by unfold aD.Ov;omega
 have st:=Ic hm (rY d.p8) (d.nO m).1 (by rw[lZ];omega) ((d.nO m).2.next 100).1
 have tl:=lZ d.p8
 have sl:(d.nO m).1.length=d.p8:=aD.kW _ _ _
 rw[e0]at st
 have b0:d.Mh m=⟨⟨[⟨rY d.p8,iF m (d.nO m).1 ((d.nO m).2.next 100).1 (rY d.p8).length⟩]⟩,100,(((d.nO m).2.next 100).2.next 5).2⟩:=by unfold aD.Mh;rw[e0]
 have q2:=fun p1 p2=>OC hm d.p8 (by omega) (by omega) (rY d.p8) (d.nO m).1 (d.Mh m) (by rw[b0];exact l3) g0 rfl p1 p2 (d.Ov m) (by omega)
 have q2:=fun p1 p2 a b c e f g h i j k l=>yq (vs:=[.bp 0 0,a,.bp 1 0,.bp 2 0,I d.p8,b,c,e,.bp 5 0,I 100,I (d.Ov m),f,g,h,i,j,k,l]) (q2 p1 p2)
 have eF:aD.yH m d.p8 (d.Mh m) (d.Ov m)=d.aeK m:=rfl
 rw[eF]at q2
 unfold aD.tV
 rw[b0]at q2
 generalize d.aeK m=F at*
 generalize (rY d.p8)=tags at*
 generalize iF m (d.nO m).1 ((d.nO m).2.next 100).1 tags.length=sw at*
 generalize d.Ov m=kk at*
 generalize (((d.nO m).2.next 100).2.next 5)=z3 at*
 generalize ((d.nO m).2.next 100)=z2 at*
 generalize d.nO m=z1 at*
 generalize d.next 3=z0 at*
 generalize d.p8=n at*
 obtain⟨x3,d3⟩:=z3
 obtain⟨x2,d2⟩:=z2
 obtain⟨ss,d1⟩:=z1
 obtain⟨x0,d0⟩:=z0
 obtain⟨⟨wf⟩,tf,df⟩:=F
 simp only[List.map_cons,List.map_nil,blH]at*
 have q2:∀p1 p2 a b c e f g h i j k l,exS aE K.ov _=_:=q2
 simp(disch:=omega)only[go_sem,K.cn,↓reduceIte,ints,a1,eP.symm,q1,a2,a3,st,eK.symm,tl,sl,q2,Nat.reduceAdd,Nat.reduceSub]
def aD.spread(d:aD)(m:aM)(fl:List Spn):Wh×aD:=
 let p:=d.next m.places.length
 let t:=p.2.next 200
 let s:=ab1 m fl [p.1] t.1
 let o:=t.2.one 2
 if o.1=true then
  let f:=o.2.ag7 m
  let a:=f.2.next 100
  let r:=V5 m fl m f.1 s.1 (s.1.time+a.1)
  if r.2=0 then(r.1,a.2)else(s.1,a.2)
 else(s.1,o.2)
structure Mch where
 kind:Int
 num:Int
 pl:List Int
instance : Dat Mch := ⟨⟨0, 0, []⟩⟩
abbrev Mch.e(x:Mch):T:= .agg [tI x.kind,tI x.num,tL x.pl]
theorem Lg{n:Nat}{p:Nat→Bool}{x:Int}:x∈bz n p↔∃k:Nat,x=k∧k<n∧p k=true:=by
 unfold bz
 simp only[List.mem_map,List.mem_filter,List.mem_range]
 constructor
 · rintro ⟨k,⟨h1,h2⟩,rfl⟩;exact⟨k,rfl,h1,h2⟩
 · rintro ⟨k,rfl,h1,h2⟩;exact⟨k,⟨h1,h2⟩,rfl⟩
theorem vl{n:Nat}{p:Nat→Bool}{k:Nat}:(k:Int)∈bz n p↔k<n∧p k=true:=by
 rw[Lg]
 constructor
 · rintro ⟨j,h,h1,h2⟩
   obtain rfl:k=j:=by omega
   exact⟨h1,h2⟩
 · rintro ⟨h1,h2⟩;exact⟨k,rfl,h1,h2⟩
theorem DT(l:List World)(hl:l.length≤4294967296)(f:Nat)(bs:List (List T))(p:World→Bool)(h:∀x,x∈l→aE 0 f (.t x.e::fY bs.length) (aU bs)=some (B (p x),aU bs)):
 aE 0 N.aF [.t (.sl (l.map World.e)),.fn f (fY bs.length)] (aU bs)=
 some (I (match (List.range l.length).find? (fun j=>p (nth l j))with | some j=>(j:Int) | none=> -1),aU bs):=by
 refine ak K.cO rfl ?_
 have loop:∀a b:D,exS aE K.eU ⟨[.t (.sl (l.map World.e)),.fn f (fY bs.length),a,b,I l.length,I 0],aU bs⟩=
  some (match (List.range l.length).find? (fun j=>p (nth l j))with
   | some j=>(.ret,⟨[.t (.sl (l.map World.e)),.fn f (fY bs.length),I j,I j,I l.length,I j],aU bs⟩)
   | none=>(.exit 0,⟨[.t (.sl (l.map World.e)),.fn f (fY bs.length),.und,.und,I l.length,I l.length],aU bs⟩)):=by
  intro a b
  refine cE (fun j=>⟨[.t (.sl (l.map World.e)),.fn f (fY bs.length),.und,.und,I l.length,I j],aU bs⟩) l.length (fun j=>p (nth l j)) _ _ rfl ?_ ?_ ?_ (by simp)
  · intro j hj hp
    have hc:=od (h _ (ae hj)) rfl
    simp(disch:=omega)only[go_sem,K.bO,↓reduceIte,hc,hp]
  · intro j hj hp
    have hc:=od (h _ (ae hj)) rfl
    simp(disch:=omega)only[go_sem,K.bO,↓reduceIte,hp,hc]
    simp
  · simp(disch:=omega)only[go_sem,K.bO,↓reduceIte]
 simp(disch:=omega)only[go_sem,K.aF,↓reduceIte,loop]
 cases hf:(List.range l.length).find? (fun j=>p (nth l j))with
 | some j=>simp(disch:=omega)only[go_sem,↓reduceIte]
 | none=>simp(disch:=omega)only[go_sem,↓reduceIte]
theorem DU{α:Type} [Dat α]{l:List α}{p:α→Bool}:((List.range l.length).find? fun j=>p (nth l j)).isSome=l.any p:=by
 rw[List.isSome_find?,Bool.eq_iff_iff,List.any_eq_true,List.any_eq_true]
 constructor
 · rintro ⟨j,hj,h⟩
   exact⟨_,ae (List.mem_range.1 hj),h⟩
 · rintro ⟨x,hx,h⟩
   obtain⟨j,hj⟩:=List.mem_iff_getElem?.1 hx
   exact⟨j,List.mem_range.2 (List.getElem?_eq_some_iff.1 hj).1,by rw[bG hj];exact h⟩
theorem Gn{α:Type} [Dat α](l:List α)(p:α→Bool):l.any p=(List.range l.length).any fun i=>p (nth l i):=by
 rw[← DU,List.isSome_find?]
theorem sr(l:List World)(hl:l.length≤4294967296)(f:Nat)(bs:List (List T))(p:World→Bool)(h:∀x,x∈l→aE 0 f (.t x.e::fY bs.length) (aU bs)=some (B (p x),aU bs)):
 aE 0 N.aq [.t (.sl (l.map World.e)),.fn f (fY bs.length)] (aU bs)=some (B (l.any p),aU bs):=by
 refine ak K.cC rfl ?_
 have h:=DT l hl f bs p h
 have hc:=yu aE bs f _ 0 (.sl (l.map World.e)) h rfl
 have e:=DU (l:=l) (p:=p)
 cases hf:(List.range l.length).find? (fun j=>p (nth l j))with
 | some j=>rw[hf]at e hc;simp(disch:=omega)only[go_sem,K.aq,↓reduceIte,←e,hc]
 | none=>rw[hf]at e hc;simp(disch:=omega)only[go_sem,K.aq,↓reduceIte,←e,hc,Option.isSome_none]
def WR(person t:Int)(p:Nat)(x:World):Bool:=decide (0≤person∧person<x.whr.length)&&(decide (p<(nth x.whr person.toNat).frm.length)&&decide (nth (nth x.whr person.toNat).frm p≤t))
theorem OE(x:World)(hx:x.sz)(person t:Int)(p:Nat)(hp:p≤1000000):
 aE 0 N.bu [.t x.e,.bp 0 0,.bp 1 0,.bp 2 0] [.box [I person],.box [I p],.box [I t]]=some (B (WR person t p x),[.box [I person],.box [I p],.box [I t]]):=by
 refine ak K.jZ rfl ?_
 have li:=FM person 0 (x.whr.length-1)
 obtain⟨h1,h2,h3⟩:=hx
 unfold WR
 by_cases c:0≤person∧person<x.whr.length
 · obtain⟨c1,c2⟩:=c
   have e1:(x.whr.map Wh.e)[person.toNat]?=some (nth x.whr person.toNat).e:=bP _ (by omega)
   have h4:=h3 _ (ae (l:=x.whr) (j:=person.toNat) (by omega))
   have li':decide (0≤person∧person≤(x.whr.length:Int)-1)=true:=by simp;omega
   rw[li']at li
   generalize nth x.whr person.toNat=w at*
   obtain⟨tags,whr⟩:=x
   obtain⟨time,frm⟩:=w
   simp only at*
   by_cases c3:p<frm.length
   · simp(disch:=omega)only[go_sem,K.bu,↓reduceIte,Nat.reduceAdd,Nat.reduceSub,li,e1,c1,c2,c3,and_self]
   · simp(disch:=omega)only[go_sem,K.bu,↓reduceIte,Nat.reduceAdd,Nat.reduceSub,li,e1,c1,c2,c3,and_self]
 · have li':decide (0≤person∧person≤(x.whr.length:Int)-1)=false:=by simp;omega
   rw[li']at li
   obtain⟨tags,whr⟩:=x
   simp only at*
   simp(disch:=omega)only[go_sem,K.bu,↓reduceIte,Nat.reduceAdd,Nat.reduceSub,li,c]
theorem Rs(b:Bel)(hb:b.sz)(person t:Int)(p:Nat)(hp:p≤1000000):
 aE 0 N.bX [I p,.bp 0 0,.bp 1 0,.bp 2 0] [.box [.t (.sl (b.worlds.map World.e))],.box [I person],.box [I t]]=some (B (b.worlds.any (WR person t p)),[.box [.t (.sl (b.worlds.map World.e))],.box [I person],.box [I t]]):=by
 refine ak K.lG rfl ?_
 have cf:=sr b.worlds (by have:=hb.1;omega) N.bu [[tI person],[tI p],[tI t]] (WR person t p) (fun x hx=>OE x (hb.2 x hx) person t p hp)
 have cf:aE 0 N.aq [.t (.sl (b.worlds.map World.e)),.fn N.bu [.bp 0 0,.bp 1 0,.bp 2 0]] [.box [I person],.box [I p],.box [I t]]=some (B (b.worlds.any (WR person t p)),[.box [I person],.box [I p],.box [I t]]):=cf
 simp(disch:=omega)only[go_sem,K.bX,↓reduceIte,Nat.reduceAdd,Nat.reduceSub,cf]
theorem OF(b:Bel)(person t:Int)(p:Nat):b.worlds.any (WR person t p)=BT b person t p:=by
 unfold BT
 rw[Gn]
 congr 1
 funext i
 unfold WR
 congr 1
 rw[Bool.eq_iff_iff]
 simp only[Bool.and_eq_true,decide_eq_true_eq,lg,vl]
theorem Il(b:Bel)(hb:b.sz)(person t:Int):aE 0 N.dM [.t b.e,I person,I t] []=some (.t (tL (wy b person t)),[]):=by
 refine ak K.nD rfl ?_
 have wh:=zX 64 (by omega) N.bX [[.sl (b.worlds.map World.e)],[tI person],[tI t]] (BT b person t) (fun p hp=>by rw[← OF];exact Rs b hb person t p (by omega))
 have wh:aE 0 N.bZ [I 64,.fn N.bX [.bp 0 0,.bp 1 0,.bp 2 0]] [.box [.t (.sl (b.worlds.map World.e))],.box [I person],.box [I t]]=some (.t (tL (wy b person t)),[.box [.t (.sl (b.worlds.map World.e))],.box [I person],.box [I t]]):=wh
 obtain⟨ws⟩:=b
 simp only at wh
 generalize wy ⟨ws⟩ person t=r at*
 simp(disch:=omega)only[go_sem,K.dM,↓reduceIte,wh,Nat.reduceAdd,Nat.reduceSub]
theorem Gp(b:Bel)(person t:Int):(wy b person t).length≤64:=dY _ _
end Go.Ev
namespace Go.Ev
open Go
variable [Lib] [bW] [bL] [fJ] [eY] [jB] [fM] [fN] [iI] [gu] [ec] [du]
theorem DV(l:List Wh)(hl:l.length≤4294967296)(f:Nat)(bs:List (List T))(p:Wh→Bool)(h:∀x,x∈l→aE 0 f (.t x.e::fY bs.length) (aU bs)=some (B (p x),aU bs)):
 aE 0 N.ax [.t (.sl (l.map Wh.e)),.fn f (fY bs.length)] (aU bs)=
 some (I (match (List.range l.length).find? (fun j=>p (nth l j))with | some j=>(j:Int) | none=> -1),aU bs):=by
 refine ak K.bM rfl ?_
 have loop:∀a b:D,exS aE K.cK ⟨[.t (.sl (l.map Wh.e)),.fn f (fY bs.length),a,b,I l.length,I 0],aU bs⟩=
  some (match (List.range l.length).find? (fun j=>p (nth l j))with
   | some j=>(.ret,⟨[.t (.sl (l.map Wh.e)),.fn f (fY bs.length),I j,I j,I l.length,I j],aU bs⟩)
   | none=>(.exit 0,⟨[.t (.sl (l.map Wh.e)),.fn f (fY bs.length),.und,.und,I l.length,I l.length],aU bs⟩)):=by
  intro a b
  refine cE (fun j=>⟨[.t (.sl (l.map Wh.e)),.fn f (fY bs.length),.und,.und,I l.length,I j],aU bs⟩) l.length (fun j=>p (nth l j)) _ _ rfl ?_ ?_ ?_ (by simp)
  · intro j hj hp
    have hc:=od (h _ (ae hj)) rfl
    simp(disch:=omega)only[go_sem,K.a8,↓reduceIte,hc,hp]
  · intro j hj hp
    have hc:=od (h _ (ae hj)) rfl
    simp(disch:=omega)only[go_sem,K.a8,↓reduceIte,hp,hc]
    simp
  · simp(disch:=omega)only[go_sem,K.a8,↓reduceIte]
 simp(disch:=omega)only[go_sem,K.ax,↓reduceIte,loop]
 cases hf:(List.range l.length).find? (fun j=>p (nth l j))with
 | some j=>simp(disch:=omega)only[go_sem,↓reduceIte]
 | none=>simp(disch:=omega)only[go_sem,↓reduceIte]
theorem su(l:List Wh)(hl:l.length≤4294967296)(f:Nat)(bs:List (List T))(p:Wh→Bool)(h:∀x,x∈l→aE 0 f (.t x.e::fY bs.length) (aU bs)=some (B (p x),aU bs)):
 aE 0 N.af [.t (.sl (l.map Wh.e)),.fn f (fY bs.length)] (aU bs)=some (B (l.any p),aU bs):=by
 refine ak K.bH rfl ?_
 have h:=DV l hl f bs p h
 have hc:=yu aE bs f _ 0 (.sl (l.map Wh.e)) h rfl
 have e:=DU (l:=l) (p:=p)
 cases hf:(List.range l.length).find? (fun j=>p (nth l j))with
 | some j=>rw[hf]at e hc;simp(disch:=omega)only[go_sem,K.af,↓reduceIte,←e,hc]
 | none=>rw[hf]at e hc;simp(disch:=omega)only[go_sem,K.af,↓reduceIte,←e,hc,Option.isSome_none]
theorem Bm{l:List Int}:fy l=true↔l.Nodup∧∀x∈l,1≤x∧x≤65535:=by
 constructor
 · intro h
   refine⟨jT h,fun x hx=>?_⟩
   simp only[fy,List.all_eq_true,List.mem_range,oI,decide_eq_true_eq]at h
   obtain⟨j,hj⟩:=List.mem_iff_getElem?.1 hx
   have:=h j (List.getElem?_eq_some_iff.1 hj).1
   rw[bG hj]at this
   exact⟨this.1,this.2.1⟩
 · rintro ⟨h1,h2⟩
   simp only[fy,List.all_eq_true,List.mem_range,oI,decide_eq_true_eq]
   intro j hj
   obtain⟨a,b⟩:=h2 _ (ae hj)
   refine⟨a,b,Decidable.byContradiction fun c=>?_⟩
   obtain⟨d,e⟩:=yD (l:=l.take j) (x:=nth l j) (by omega)
   have z:0≤b6 (l.take j) (nth l j):=by omega
   generalize b6 (l.take j) (nth l j)=k at*
   rw[List.length_take]at d
   have k1:k.toNat<j:=by omega
   have e1:(l.take j)[k.toNat]?=l[k.toNat]?:=List.getElem?_take_of_lt k1
   have e2:l[k.toNat]?=some l[k.toNat]:=List.getElem?_eq_getElem (by omega)
   rw[bG (e1.trans e2),←bG e2]at e
   have n2:=(List.getElem?_inj (by omega:k.toNat<l.length) h1).1 (show l[k.toNat]?=l[j]? by rw[fQ (by omega),fQ hj,e])
   omega
theorem Rt{l:List Int}{lo hi:Int}:Tn l lo hi=true↔l.Pairwise (· < ·)∧∀x∈l,lo≤x∧x≤hi:=by
 have e:Tn l lo hi=true↔∀j,j<l.length→lo≤nth l j∧nth l j≤hi∧(0<j→nth l (j-1)<nth l j):=by
  simp only[Tn,Bool.not_eq_true',List.any_eq_false,List.mem_range,N3,Bool.not_eq_true]
  constructor
  · intro h j hj
    have:=h j hj
    exact Decidable.byContradiction fun c=>this (decide_eq_false c)
  · intro h j hj c
    exact(of_decide_eq_false c) (h j hj)
 rw[e]
 constructor
 · intro h
   refine⟨?_,fun x hx=>?_⟩
   · have key:∀d i,i+d+1<l.length→nth l i<nth l (i+d+1):=by
      intro d
      induction d with
      | zero=>intro i hi;have:=(h (i+0+1) hi).2.2 (by omega);simpa using this
      | succ d ih=>
        intro i hi
        have a:=ih i (by omega)
        have b:=(h (i+(d+1)+1) hi).2.2 (by omega)
        rw[show i+(d+1)+1-1=i+d+1 by omega]at b
        omega
     rw[List.pairwise_iff_getElem]
     intro i j hi hj hij
     have:=key (j-i-1) i (by omega)
     rw[show i+(j-i-1)+1=j by omega,bG (List.getElem?_eq_getElem hi),bG (List.getElem?_eq_getElem hj)]at this
     exact this
   · obtain⟨j,hj⟩:=List.mem_iff_getElem?.1 hx
     have:=h j (List.getElem?_eq_some_iff.1 hj).1
     rw[bG hj]at this
     exact⟨this.1,this.2.1⟩
 · rintro ⟨h1,h2⟩ j hj
   refine⟨(h2 _ (ae hj)).1,(h2 _ (ae hj)).2,fun h0=>?_⟩
   have:=(List.pairwise_iff_getElem.1 h1) (j-1) j (by omega) hj (by omega)
   rwa [← bG (List.getElem?_eq_getElem (by omega:j-1<l.length)),←bG (List.getElem?_eq_getElem hj)]at this
theorem Lh(l:List Int):Tn (jM l) 1 65535=fy l:=by
 rw[Bool.eq_iff_iff,Rt,Bm]
 have p:=kV l
 have u:=xG l
 constructor
 · rintro ⟨h1,h2⟩
   refine⟨p.nodup_iff.1 (h1.imp fun h=>by omega),fun x hx=>h2 x (p.mem_iff.2 hx)⟩
 · rintro ⟨h1,h2⟩
   have nd:(jM l).Nodup:=p.nodup_iff.2 h1
   refine⟨?_,fun x hx=>h2 x (p.mem_iff.1 hx)⟩
   have:=List.Pairwise.and u nd
   exact this.imp fun h=>by omega
theorem OH(l:List Int)(hl:l.length≤1000000):aE 0 N.fU [.t (tL l)] []=some (B (fy l),[]):=by
 refine ak K.p6 rfl ?_
 have v:=Bd l
 have s:=Be l hl
 have r:=FY (jM l) 1 65535 (by rw[m7];omega)
 rw[Lh]at r
 simp(disch:=omega)only[go_sem,K.fU,↓reduceIte,v,s,r,Nat.reduceAdd,Nat.reduceSub]
theorem tZ{n j:Nat}{p:Nat→Bool}(h1:j<n)(h2:p j=true)(h3:∀k,k<j→p k=false):(List.range n).find? p=some j:=by
 cases hf:(List.range n).find? p with
 | none=>exact absurd h2 (by simpa using List.find?_eq_none.1 hf j (List.mem_range.2 h1))
 | some k=>
   obtain⟨k1,k2⟩:=AT hf
   have:k≤j:=by
    rcases Nat.lt_or_ge j k with c | c
    · rw[List.find?_range_eq_some]at hf
      exact absurd h2 (by simpa using hf.2.2 j c)
    · exact c
   rcases Nat.lt_or_ge k j with c | c
   · rw[h3 k c]at k2;cases k2
   · rw[show k=j by omega]
theorem Gq{n:Nat}{p:Nat→Bool}(h:∀k,k<n→p k=false):(List.range n).find? p=none:=List.find?_eq_none.2 fun x hx=>by rw[h x (List.mem_range.1 hx)];simp
theorem Gr(a b:List Int):decide (Rk a b<0)=tF a b:=by
 unfold Rk tF
 cases hf:(List.range (min a.length b.length)).find? (fun j=>decide (nth a j≠nth b j))with
 | some j=>
   rw[List.find?_range_eq_some]at hf
   obtain⟨h2,h1,h3⟩:=hf
   have h1:=List.mem_range.1 h1
   have e:(List.range a.length).find? (JI a b)=some j:=tZ (by omega) (by simp only[JI,h2,Bool.or_true]) (fun k hk=>by
    have:=h3 k hk
    simp only[JI,Bool.or_eq_false_iff,decide_eq_false_iff_not]
    exact⟨by omega,by simpa using this⟩)
   have h2:nth a j≠nth b j:=by simpa using h2
   rw[e]
   simp only[if_neg (by omega:¬b.length≤j)]
   rw[decide_eq_decide]
   unfold Ol
   split
   · omega
   · split<;>omega
 | none=>
   have h3:∀k,k<min a.length b.length→nth a k=nth b k:=fun k hk=>by
    have:=List.find?_eq_none.1 hf k (List.mem_range.2 hk)
    simpa using this
   by_cases c:a.length≤b.length
   · have e:(List.range a.length).find? (JI a b)=none:=Gq fun k hk=>by
      simp only[JI,Bool.or_eq_false_iff,decide_eq_false_iff_not,Decidable.not_not]
      exact⟨by omega,h3 k (by omega)⟩
     rw[e]
     simp only[decide_eq_decide]
     split<;>omega
   · have e:(List.range a.length).find? (JI a b)=some b.length:=tZ (by omega) (by simp[JI]) (fun k hk=>by
      simp only[JI,Bool.or_eq_false_iff,decide_eq_false_iff_not,Decidable.not_not]
      exact⟨by omega,h3 k (by omega)⟩)
     rw[e]
     simp only[Nat.le_refl,if_true,decide_eq_decide]
     omega
def pwB(m:aM)(ws:List World)(first:List Int)(i:Nat):Bool:=
 decide (1≤(nth ws i).tags.length∧(nth ws i).tags.length≤12)&&decide ((nth ws i).whr.length=(nth ws i).tags.length)&&fy (nth ws i).tags&&decide (jM (nth ws i).tags=jM first)&&(decide (i=0)||tF (nth ws (i-1)).tags (nth ws i).tags)&& !((nth ws i).whr.any fun x=> !dg m x)
def Ru(m:aM)(b:Bel):Bool:=decide (1≤b.worlds.length∧b.worlds.length≤24)&&(List.range b.worlds.length).all (pwB m b.worlds (nth b.worlds 0).tags)
theorem zu{a b:List Int}:jM a=jM b↔a.Perm b:=by
 constructor
 · intro h
   exact(kV a).symm.trans (h▸kV b)
 · intro h
   exact ag8 (xG a) (xG b) ((kV a).trans (h.trans (kV b).symm))
theorem vm{a b:List Int}(ha:a.Nodup)(hb:b.Nodup)(hl:a.length=b.length)(hs:∀x∈a,x∈b):a.Perm b:=by
 have key:∀y∈b,y∈a:=fun y hy=>Decidable.byContradiction fun hn=>by
  have:=rW ha (l':=b.erase y) (fun x hx=>(List.mem_erase_of_ne (fun e=>hn (by rw[← e];exact hx))).2 (hs x hx))
  rw[List.length_erase_of_mem hy]at this
  have:=List.length_pos_of_mem hy
  omega
 exact(List.perm_ext_iff_of_nodup ha hb).2 fun x=>⟨hs x,key x⟩
theorem Rv(m:aM)(b:Bel):Ru m b=rG m b:=by
 obtain⟨ws⟩:=b
 rw[Bool.eq_iff_iff]
 constructor
 · intro h
   simp only[Ru,Bool.and_eq_true,decide_eq_true_eq,List.all_eq_true,List.mem_range,pwB,Bool.or_eq_true,Bool.not_eq_true',List.any_eq_false,Bool.not_eq_false']at h
   obtain⟨⟨h1,h2⟩,h⟩:=h
   have h0:=h 0 (by omega)
   simp only[rG,Bool.and_eq_true,decide_eq_true_eq,List.all_eq_true,List.mem_range,pq,Bool.or_eq_true,KX]
   refine⟨⟨⟨h1,h2⟩,h0.1.1.1.1.1⟩,fun i hi=>?_⟩
   obtain⟨⟨⟨⟨⟨a1,a2⟩,a3⟩,a4⟩,a5⟩,a6⟩:=h i hi
   have pm:=zu.1 a4
   refine⟨⟨⟨⟨pm.length_eq,by rw[a2,pm.length_eq]⟩,a3⟩,a5⟩,fun k hk=>⟨?_,?_⟩⟩
   · exact mN.2 (pm.mem_iff.1 (ae hk))
   · simpa using a6 _ (ae (l:=(nth ws i).whr) (j:=k) (by omega))
 · intro h
   obtain⟨h1,h2,h3,h4,h5⟩:=fK h
   simp only at h1 h2 h3 h4 h5
   have p0:=(hU (h5 0 (by omega))).2.2.1
   simp only[Ru,Bool.and_eq_true,decide_eq_true_eq,List.all_eq_true,List.mem_range,pwB,Bool.or_eq_true,Bool.not_eq_true',List.any_eq_false,Bool.not_eq_false']
   refine⟨⟨h1,h2⟩,fun i hi=>?_⟩
   obtain⟨w1,w2,w3,w4⟩:=hU (h5 i hi)
   have ls:=h5 i hi
   simp only[pq,Bool.and_eq_true,Bool.or_eq_true,decide_eq_true_eq]at ls
   refine⟨⟨⟨⟨⟨by omega,by omega⟩,w3⟩,?_⟩,ls.1.2⟩,fun x hx=>?_⟩
   · refine zu.2 (vm (jT w3) (jT p0) w1 fun x hx=>?_)
     obtain⟨j,hj⟩:=List.mem_iff_getElem?.1 hx
     have:=(w4 j (List.getElem?_eq_some_iff.1 hj).1).1
     rwa [bG hj]at this
   · obtain⟨j,hj⟩:=List.mem_iff_getElem?.1 hx
     have:=(w4 j (by rw[w1,←w2];exact(List.getElem?_eq_some_iff.1 hj).1)).2
     rw[bG hj]at this
     simpa using this
theorem Im{m:aM}(h:m.ok)(x:Wh)(hx:x.frm.length≤1000000):aE 0 N.dq [.t x.e,.bp 0 0] [.box (aa m)]=some (B (!dg m x),[.box (aa m)]):=by
 refine ak K.oQ rfl ?_
 have v:=N4 h x hx
 obtain⟨places,roads⟩:=m
 obtain⟨time,frm⟩:=x
 simp only at*
 simp(disch:=omega)only[go_sem,K.dq,↓reduceIte,v,Nat.reduceAdd,Nat.reduceSub]
abbrev swS(m:aM)(ws:List World)(first:List Int)(i:Nat):St:=
 ⟨[.und,.und,.bp 0 0,.bp 1 0,.und,.t (tL (jM first)),.und,.und,.t (.sl (ws.map World.e)),I ws.length,I i],[.box (aa m),.box [.t (.sl (ws.map World.e))],.box [.t (tL first)]]⟩
theorem OI{m:aM}(h:m.ok)(ws:List World)(first:List Int)(hf:first.length≤1000000)(hs:∀x∈ws,x.sz)(i:Nat)(hi:i<ws.length)(hl:ws.length≤1000000):
 (pwB m ws first i=true→fG true [0,1,4,6,7] 3 (exS aE K.bT (swS m ws first i))=some (swS m ws first (i+1)))∧
 (pwB m ws first i=false→∃q,exS aE K.bT (swS m ws first i)=some q∧q.1= .ret∧q.2.vs[4]?=some (B false)):=by
 simp only[swS]
 have sz:=hs _ (ae hi)
 have ex:(ws.map World.e)[i]?=some (nth ws i).e:=bP _ hi
 unfold pwB
 have ey:0<i→(ws.map World.e)[i-1]?=some (nth ws (i-1)).e∧(nth ws (i-1)).tags.length≤1000000:=fun h0=>⟨bP _ (by omega),(hs _ (ae (by omega))).1⟩
 generalize nth ws (i-1)=y at*
 generalize nth ws i=x at*
 obtain⟨tags,whr⟩:=x
 obtain⟨ptags,pwhr⟩:=y
 obtain⟨s1,s2,s3⟩:=sz
 simp only at s1 s2 s3 ey ⊢
 have li:=FM tags.length 1 12
 have tg:=OH tags s1
 have va:=Bd tags
 have so:=Be tags s1
 have eq:=Ab (jM tags) (jM first) (by rw[m7];omega) (by rw[m7];omega)
 have cf:=su whr (by omega) N.dq [[.sl (m.places.map Place.e),.sl (m.roads.map Road.e)]] (fun x=> !dg m x) (fun x hx=>Im h x (s3 x hx))
 have cf:aE 0 N.af [.t (.sl (whr.map Wh.e)),.fn N.dq [.bp 0 0]] [.box (aa m)]=some (B (whr.any fun x=> !dg m x),[.box (aa m)]):=cf
 have cp:0<i→aE 0 N.aS [.t (tL ptags),.t (tL tags)] []=some (I (Rk ptags tags),[]):=fun h0=>CP ptags tags (ey h0).2 s1
 have cl:=Gr ptags tags
 generalize jM tags=st at*
 generalize jM first=sf at*
 generalize (whr.any fun x=> !dg m x)=an at*
 generalize fy tags=pr at*
 generalize tF ptags tags=le at*
 generalize Rk ptags tags=cc at*
 clear hs s3
 by_cases c1:1≤tags.length∧tags.length≤12
 · have li:aE 0 N.fg [I tags.length,I 1,I 12] []=some (B true,[]):=by rw[li,decide_eq_true (by omega)]
   by_cases c2:whr.length=tags.length
   · cases pr with
     | false=>
       refine⟨fun h=>by simp at h,fun _=>?_⟩
       simp(disch:=omega)only[go_sem,K.bT,↓reduceIte,li,tg,ex,c2,Nat.reduceAdd,Nat.reduceSub]
       refine⟨_,rfl,?_,?_⟩<;>rfl
     | true=>
       by_cases c4:st=sf
       · subst c4
         simp only[decide_true]at eq
         cases i with
         | zero=>
           cases an with
           | true=>
             refine⟨fun h=>by simp at h,fun _=>?_⟩
             simp(disch:=omega)only[go_sem,K.bT,↓reduceIte,li,tg,ex,c2,va,so,eq,cf,Nat.reduceAdd,Nat.reduceSub]
             refine⟨_,rfl,?_,?_⟩<;>rfl
           | false=>
             refine⟨fun _=>?_,fun h=>by simp[c1,c2]at h⟩
             simp(disch:=omega)only[go_sem,K.bT,↓reduceIte,li,tg,ex,c2,va,so,eq,cf,Nat.reduceAdd,Nat.reduceSub]
         | succ i=>
           obtain⟨ey, -⟩:=ey (by omega)
           have cp:=cp (by omega)
           simp only[Nat.add_sub_cancel]at ey
           cases le with
           | false=>
             have cl:¬cc<0:=by simpa using cl
             refine⟨fun h=>by simp at h,fun _=>?_⟩
             simp(disch:=omega)only[go_sem,K.bT,↓reduceIte,li,tg,ex,c2,va,so,eq,ey,cp,Nat.reduceAdd,Nat.reduceSub]
             refine⟨_,rfl,?_,?_⟩<;>rfl
           | true=>
             have cl:cc<0:=by simpa using cl
             cases an with
             | true=>
               refine⟨fun h=>by simp at h,fun _=>?_⟩
               simp(disch:=omega)only[go_sem,K.bT,↓reduceIte,li,tg,ex,c2,va,so,eq,ey,cp,cf,Nat.reduceAdd,Nat.reduceSub]
               refine⟨_,rfl,?_,?_⟩<;>rfl
             | false=>
               refine⟨fun _=>?_,fun h=>by simp[c1,c2]at h⟩
               simp(disch:=omega)only[go_sem,K.bT,↓reduceIte,li,tg,ex,c2,va,so,eq,ey,cp,cf,Nat.reduceAdd,Nat.reduceSub]
       · simp only[c4,decide_false]at eq
         refine⟨fun h=>by simp[c4]at h,fun _=>?_⟩
         simp(disch:=omega)only[go_sem,K.bT,↓reduceIte,li,tg,ex,c2,va,so,eq,Nat.reduceAdd,Nat.reduceSub]
         refine⟨_,rfl,?_,?_⟩<;>rfl
   · refine⟨fun h=>by simp[c2]at h,fun _=>?_⟩
     simp(disch:=omega)only[go_sem,K.bT,↓reduceIte,li,ex,c2,Nat.reduceAdd,Nat.reduceSub]
     refine⟨_,rfl,?_,?_⟩<;>rfl
 · have li:aE 0 N.fg [I tags.length,I 1,I 12] []=some (B false,[]):=by rw[li,decide_eq_false (by omega)]
   refine⟨fun h=>by simp[c1]at h,fun _=>?_⟩
   simp(disch:=omega)only[go_sem,K.bT,↓reduceIte,li,ex,Nat.reduceAdd,Nat.reduceSub]
   refine⟨_,rfl,?_,?_⟩<;>rfl
end Go.Ev
namespace Go.Ev
open Go
variable [Lib] [bW] [bL] [iI] [gu]
theorem OJ{l:List Int}{n:Int}(h:tw l n=true):∀x∈l,0≤x∧x<n:=by
 intro x hx
 simp only[tw,List.all_eq_true,List.mem_range,decide_eq_true_eq]at h
 obtain⟨j,hj⟩:=List.mem_iff_getElem?.1 hx
 have:=h j (List.getElem?_eq_some_iff.1 hj).1
 rw[bG hj]at this
 exact⟨this.1,this.2.1⟩
theorem WS{w:Wh}{l:List Int}{b:Int}{n:Nat}(hl:∀p∈l,0≤p∧p<n)(hw:∀x∈w.frm,plT x)(hn:w.frm.length=n):∀x∈(BN w l b n l.length).1,plT x:=by
 intro x hx
 obtain⟨j,hj⟩:=List.mem_iff_getElem?.1 hx
 have jl:=(List.getElem?_eq_some_iff.1 hj).1
 rw[rB]at jl
 have e:=Jw (w:=w) (b:=b) hl _ (Nat.le_refl _) j jl
 rw[bG hj]at e
 rw[e]
 split
 · exact hw _ (ae (by omega))
 · exact .inl rfl
theorem OK{m:aM}(h:m.ok){w:Wh}(hv:dg m w=true)(l:List Int)(a b:Int):
 (BR m w l a b=(⟨b,cV m a none (BN w l b m.places.length l.length).1⟩,0)∧lJ m w l a b=0∧w.time≤a∧(BN w l b m.places.length l.length).2=true∧dg m (BR m w l a b).1=true)∨((BR m w l a b).1=w∧(BR m w l a b).2≠0):=by
 by_cases c0:lJ m w l a b=0
 · obtain⟨-,h0,hs,ia,ib,hab⟩:=nZ c0
   by_cases c1:a<w.time
   · right;unfold BR;rw[if_neg (by simpa using c0),if_pos c1];exact⟨rfl,by simp⟩
   · cases c2:(BN w l b m.places.length l.length).2 with
     | false=>right;unfold BR;rw[if_neg (by simpa using c0),if_neg c1,if_neg (by simp[c2])];exact⟨rfl,by simp⟩
     | true=>
       left
       have e:BR m w l a b=(⟨b,cV m a none (BN w l b m.places.length l.length).1⟩,0):=by
        unfold BR;rw[if_neg (by simpa using c0),if_neg c1,if_pos c2]
       obtain⟨v1,v2,v3, -⟩:=cJ hv
       refine⟨e,c0,by omega,rfl,?_⟩
       rw[e]
       exact rD h (rB ..) (WS (OJ hs) v3 v1) ia.1 hab ib
 · right;unfold BR;rw[if_pos c0];exact⟨rfl,c0⟩
theorem OL{m:aM}(h:m.ok){w:Wh}(hv:dg m w=true)(l:List Int)(a b:Int):dg m (BR m w l a b).1=true:=by
 rcases OK h hv l a b with⟨-, -, -, -,v⟩ | ⟨e, -⟩
 · exact v
 · rw[e];exact hv
end Go.Ev
namespace Go.Ev
open Go
variable [Lib] [bW] [bL] [fJ] [eY] [fM] [fN] [iI] [gu]
theorem Rw(a b:Wh)(ha:a.frm.length≤1000000):aE 0 N.gr [.t a.e,.t b.e] []=some (.tup [.t (jS a b).1.e,I (jS a b).2],[]):=by
 refine ak K.rF rfl ?_
 obtain⟨t1,l1⟩:=a
 obtain⟨t2,l2⟩:=b
 simp only[jS]at*
 by_cases c:l1.length=l2.length
 · rw[if_pos c]
   have ml:=mQ l1 l2
   have lp:∀z0 z1 z2 z5 z7 z8:D,exS aE K.vf ⟨[z0,z1,z2,.bp 1 0,.bp 2 0,z5,.bp 3 0,z7,z8,.t (tL l1),I l1.length,I 0],[.box [I t1,.t (tL l1)],.box [I t2,.t (tL l2)],.box [I 0,.nil],.box [I (max t1 t2),.ref 5 0 0],.arr 1 false 0 [],.arr 1 false 0 []]⟩=
    some (.exit 0,⟨[.und,.und,.und,.bp 1 0,.bp 2 0,.und,.bp 3 0,.und,.und,.t (tL l1),I l1.length,I l1.length],[.box [I t1,.t (tL l1)],.box [I t2,.t (tL l2)],.box [I 0,.nil],.box [I (max t1 t2),.ref 5 0 (CD l1 l2 l1.length).length],.arr 1 false 0 [],.arr 1 false 0 (((CD l1 l2 l1.length).map (T.int .i64)).map .t)]⟩):=by
    intro z0 z1 z2 z5 z7 z8
    refine bR (fun j=>⟨[.und,.und,.und,.bp 1 0,.bp 2 0,.und,.bp 3 0,.und,.und,.t (tL l1),I l1.length,I j],[.box [I t1,.t (tL l1)],.box [I t2,.t (tL l2)],.box [I 0,.nil],.box [I (max t1 t2),.ref 5 0 (CD l1 l2 j).length],.arr 1 false 0 [],.arr 1 false 0 (((CD l1 l2 j).map (T.int .i64)).map .t)]⟩) l1.length rfl ?_ ?_ (by simp)
    · intro j hj
      have lj:=ml j
      simp only[CD]
      generalize CD l1 l2 j=r at*
      simp(disch:=omega)only[go_sem,K.oF,↓reduceIte,Nat.reduceAdd,Nat.reduceSub]
    · simp(disch:=omega)only[go_sem,K.oF,↓reduceIte,Nat.reduceAdd,Nat.reduceSub]
   generalize CD l1 l2 l1.length=r at*
   have c2:=c.symm
   simp(disch:=omega)only[go_sem,K.gr,↓reduceIte,c2,lp,Nat.reduceAdd,Nat.reduceSub]
 · rw[if_neg c]
   simp(disch:=omega)only[go_sem,K.gr,↓reduceIte,c,Nat.reduceAdd,Nat.reduceSub]
   rfl
end Go.Ev
namespace Go.Ev
open Go
variable [Lib] [bW] [bL]
section
variable {m : aM} (hm : m.ok) {N : Nat} {b : Bel} (hb : BOk m N b) {s : Wh} (hs : s.frm.length = m.places.length) {l : List Mch}
variable (hl : ∀ y ∈ l, y.pl.length ≤ m.places.length ∧ 1 ≤ y.pl.length ∧ ∀ x ∈ y.pl, 0 ≤ x ∧ x < m.places.length) {t a : Int} (t0 : 0 ≤ t) (t1 : t ≤ 10000) (a0 : 0 ≤ a) (a1 : a ≤ 10000) (d : aD)
include hm hb hs hl t0 t1 a0 a1
omit hm hb t0 t1 a1 in
end
def aD.skip(d:aD)(n:Int):Nat→aD
 | 0=>d
 | k+1=>((d.skip n k).next n).2
end Go.Ev
namespace Go.Ev
open Go
variable [Lib] [bW] [bL] [jB]
theorem Li(s:Wh)(t:Int)(k:Nat)(hk:k<s.frm.length):aE 0 N.bQ [I k,.bp 0 0,.bp 1 0] [.box [I s.time,.t (tL s.frm)],.box [I t]]=some (B (decide (nth s.frm k≤t)),[.box [I s.time,.t (tL s.frm)],.box [I t]]):=by
 refine ak K.kE rfl ?_
 simp(disch:=omega)only[go_sem,K.bQ,↓reduceIte,Nat.reduceAdd,Nat.reduceSub]
theorem OM(s:Wh)(t:Int)(hl:s.frm.length≤1000000):aE 0 N.dh [.t s.e,I t] []=some (.t (tL (lg s t)),[]):=by
 refine ak K.mL rfl ?_
 have wh:=zX s.frm.length hl N.bQ [[tI s.time,tL s.frm],[tI t]] (fun k=>decide (nth s.frm k≤t)) (fun k hk=>Li s t k hk)
 have wh:aE 0 N.bZ [I s.frm.length,.fn N.bQ [.bp 0 0,.bp 1 0]] [.box [I s.time,.t (tL s.frm)],.box [I t]]=some (.t (tL (lg s t)),[.box [I s.time,.t (tL s.frm)],.box [I t]]):=wh
 obtain⟨time,frm⟩:=s
 simp only at hl wh
 generalize lg ⟨time,frm⟩ t=r at*
 simp(disch:=omega)only[go_sem,K.dh,↓reduceIte,wh,Nat.reduceAdd,Nat.reduceSub]
end Go.Ev
namespace Go.Ev
open Go
variable [Lib] [bW] [bL] [fJ] [eY] [jB] [fM] [fN] [iI] [gu]
theorem DW(a b:List Int):∀n j,j<n→nth (CD a b n) j=min (nth a j) (nth b j)
 | 0,j,h=>by omega
 | n+1,j,h=>by
   have ln:=mQ a b n
   by_cases e:j=n
   · subst e
     exact bG (by simp only[CD];rw[List.getElem?_append_right (by omega),ln];simp)
   · have ih:=DW a b n j (by omega)
     rw[← ih]
     have:(CD a b n)[j]?=some (nth (CD a b n) j):=fQ (by omega)
     exact bG (by simp only[CD];rw[List.getElem?_append_left (by omega)];exact this)
theorem Lj{m:aM}(h:m.ok){a b:Wh}(ha:dg m a=true)(hb:dg m b=true):(jS a b).2=0∧dg m (jS a b).1=true∧(jS a b).1.frm.length=m.places.length∧∀j,j<m.places.length→nth (jS a b).1.frm j=min (nth a.frm j) (nth b.frm j):=by
 obtain⟨a1,a2,a3, -⟩:=cJ ha
 obtain⟨b1,b2,b3, -⟩:=cJ hb
 have ca:=AZ h ha
 have cb:=AZ h hb
 have e:jS a b=(⟨max a.time b.time,CD a.frm b.frm a.frm.length⟩,0):=by unfold jS;rw[if_pos (by omega)]
 rw[e]
 have mn:=fun j (hj:j<m.places.length)=>DW a.frm b.frm a.frm.length j (by omega)
 refine⟨rfl,AY h (by simp only[mQ];exact a1) (by unfold inT at *;simp only;omega) (fun x hx=>?_) ?_,by simp only[mQ];exact a1,mn⟩
 · obtain⟨j,hj⟩:=List.mem_iff_getElem?.1 hx
   have jl:=(List.getElem?_eq_some_iff.1 hj).1
   simp only[mQ]at jl
   have:=mn j (by omega)
   rw[bG hj]at this
   have x1:=a3 _ (ae (l:=a.frm) (j:=j) jl)
   have x2:=b3 _ (ae (l:=b.frm) (j:=j) (by omega))
   unfold plT inT at*
   omega
 · intro k hk back hi h1 h2 h3
   have r1:=Road.yY (h.rs _ (ae hk)) back
   have r2:=Road.Cz (h.rs _ (ae hk)) back
   simp only at h2 h3 ⊢
   rw[mn _ (by omega)]at h2 h3 ⊢
   rw[mn _ (by omega)]
   have y1:=ca k hk back rfl h1
   have y2:=cb k hk back rfl h1
   omega
theorem ON{m:aM}(h:m.ok){w:Wh}(hv:dg m w=true)(l:List Int)(a b bl:Int):
 (CC m w l a b bl=(⟨b,cV m b none (cV m (b-bl) (some l) (HV w.frm l l.length))⟩,0)∧lJ m w l a b=0∧w.time≤b∧max a w.time<b-bl∧inT bl∧
  (cV m (b-bl) (some l) (HV w.frm l l.length)).length=m.places.length∧(∀x∈cV m (b-bl) (some l) (HV w.frm l l.length),plT x))∨
 ((CC m w l a b bl).1=w∧((CC m w l a b bl).2=0→w.time≤b∧lJ m w l a b=0)):=by
 by_cases c0:lJ m w l a b=0
 · obtain⟨-,h0,hs,ia,ib,hab⟩:=nZ c0
   by_cases c1:inT bl
   · by_cases c2:b<w.time
     · right;unfold CC;rw[if_neg (by simpa using c0),if_neg (fun x=>x c1),if_pos c2];exact⟨rfl,by simp⟩
     · by_cases c3:b-max a w.time≤bl
       · right;unfold CC;rw[if_neg (by simpa using c0),if_neg (fun x=>x c1),if_neg c2,if_pos c3];exact⟨rfl,fun _=>⟨by omega,c0⟩⟩
       · left
         obtain⟨v1,v2,v3, -⟩:=cJ hv
         have pl:∀x∈HV w.frm l l.length,plT x:=by
          have key:∀k,∀x∈HV w.frm l k,plT x:=by
           intro k
           induction k with
           | zero=>exact v3
           | succ k ih=>
             intro x hx
             rcases List.mem_or_eq_of_mem_set hx with hx | hx
             · exact ih x hx
             · exact .inl hx
          exact key _
         have bn:bnd (HV w.frm l l.length):=fun x hx=>nF (pl x hx)
         unfold inT at ia c1 v2 ib
         refine⟨?_,c0,by omega,by omega,c1,(AX h (by rw[xu];exact v1) bn).1,CF h plT (by rw[xu];exact v1) bn pl (fun x h1 h2=> .inr ⟨by omega,h2⟩)⟩
         unfold CC;rw[if_neg (by simpa using c0),if_neg (fun x=>x (by unfold inT;omega)),if_neg c2,if_neg c3]
   · right;unfold CC;rw[if_neg (by simpa using c0),if_pos c1];exact⟨rfl,by simp⟩
 · right;unfold CC;rw[if_pos c0];exact⟨rfl,fun h=>absurd h c0⟩
theorem OO{m:aM}(h:m.ok){w:Wh}(hv:dg m w=true)(l:List Int)(a b bl:Int):dg m (CC m w l a b bl).1=true:=by
 rcases ON h hv l a b bl with⟨e,c0, -,hm,hbl,ln,pl⟩ | ⟨e, -⟩
 · obtain⟨-, -,hs,ia,ib,hab⟩:=nZ c0
   rw[e]
   exact rD h ln pl (by unfold inT at ib;omega) (Int.le_refl _) ib
 · rw[e];exact hv
end Go.Ev
namespace Go.Ev
open Go
variable [Lib] [bW] [bL] [fJ] [eY] [jB] [fM] [fN] [iI] [gu] [ec] [du]
def lexB:List Int→List Int→Bool
 | _,[]=>false
 | [],_::_=>true
 | a::r,b::s=>decide (a<b)||(decide (a=b)&&lexB r s)
theorem xL(a:Int)(l:List Int)(j:Nat):nth (a::l) (j+1)=nth l j:=by simp[nth]
theorem xM(a:Int)(l:List Int):nth (a::l) 0=a:=by simp[nth]
theorem pA:∀a b:List Int,tF a b=lexB a b
 | a,[]=>by
   unfold tF lexB
   simp
 | [],b::s=>by
   unfold tF lexB
   simp
 | a::r,b::s=>by
   have ih:=pA r s
   unfold tF at ih ⊢
   have e:min (a::r).length (b::s).length=min r.length s.length+1:=by simp only[List.length_cons];omega
   rw[e,List.range_succ_eq_map,List.find?_cons]
   simp only[xM]
   by_cases h:a=b
   · subst h
     simp only[ne_eq,not_true_eq_false,decide_false,Bool.false_eq_true,List.find?_map,lexB,decide_true,Bool.true_and,Int.lt_irrefl,Bool.false_or]
     rw[← ih]
     have:((fun j=>decide (¬nth (a::r) j=nth (a::s) j)) ∘ Nat.succ)=fun j=>decide (nth r j≠nth s j):=by
      funext j
      simp only[Function.comp,Nat.succ_eq_add_one,xL,ne_eq]
     rw[this]
     cases (List.range (min r.length s.length)).find? (fun j=>decide (nth r j≠nth s j))with
     | some j=>simp only[Option.map_some,Nat.succ_eq_add_one,xL]
     | none=>simp only[Option.map_none,List.length_cons,Nat.add_lt_add_iff_right]
   · simp only[ne_eq,h,not_false_eq_true,decide_true,lexB,decide_false,Bool.false_and,Bool.or_false,xM]
theorem lex_trans:∀ {a b c:List Int},lexB a b=true→lexB b c=true→lexB a c=true
 | _,_,[],_,h=>by simp[lexB]at h
 | [],_,_::_,_,_=>rfl
 | _::_,[],_,h,_=>by simp[lexB]at h
 | a::r,b::s,c::t,h1,h2=>by
   simp only[lexB,Bool.or_eq_true,Bool.and_eq_true,decide_eq_true_eq]at h1 h2 ⊢
   rcases h1 with h1 | ⟨h1,k1⟩
   · rcases h2 with h2 | ⟨h2,k2⟩
     · left;omega
     · left;omega
   · rcases h2 with h2 | ⟨h2,k2⟩
     · left;omega
     · right;exact⟨by omega,lex_trans k1 k2⟩
theorem lex_irrefl:∀a:List Int,lexB a a=false
 | []=>rfl
 | a::r=>by simp[lexB,lex_irrefl r]
theorem oV:∀a b:List Int,lexB a b=true∨a=b∨lexB b a=true
 | [],[]=> .inr (.inl rfl)
 | [],_::_=> .inl rfl
 | _::_,[]=> .inr (.inr rfl)
 | a::r,b::s=>by
   simp only[lexB,Bool.or_eq_true,Bool.and_eq_true,decide_eq_true_eq,List.cons.injEq]
   rcases oV r s with h | h | h
   · by_cases c:a<b
     · exact .inl (.inl c)
     · by_cases c2:a=b
       · exact .inl (.inr ⟨c2,h⟩)
       · exact .inr (.inr (.inl (by omega)))
   · by_cases c:a<b
     · exact .inl (.inl c)
     · by_cases c2:a=b
       · exact .inr (.inl ⟨c2,h⟩)
       · exact .inr (.inr (.inl (by omega)))
   · by_cases c:a<b
     · exact .inl (.inl c)
     · by_cases c2:a=b
       · exact .inr (.inr (.inr ⟨c2.symm,h⟩))
       · exact .inr (.inr (.inl (by omega)))
structure WV(m:aM)(first:List Int)(x:World):Prop where
 pm:x.tags.Perm first
 wl:x.whr.length=first.length
 wv:∀w∈x.whr,dg m w=true
structure BV(m:aM)(first:List Int)(ws:List World):Prop where
 pr:fy first=true
 f1:1≤first.length
 f2:first.length≤12
 wv:∀x∈ws,WV m first x
 up:ws.Pairwise fun x y=>lexB x.tags y.tags=true
theorem Io{a b:List Int}(h:a.Perm b)(hb:fy b=true):fy a=true:=by
 rw[Bm]at hb ⊢
 exact⟨h.nodup_iff.2 hb.1,fun x hx=>hb.2 x (h.mem_iff.1 hx)⟩
theorem BV.bel{m:aM}{first:List Int}{ws:List World}(h:BV m first ws)(h1:1≤ws.length)(h2:ws.length≤24):rG m ⟨ws⟩=true:=by
 have w0:=h.wv _ (ae (l:=ws) (j:=0) (by omega))
 have l0:=w0.pm.length_eq
 simp only[rG,Bool.and_eq_true,decide_eq_true_eq,List.all_eq_true,List.mem_range,pq,Bool.or_eq_true,KX]
 have f1:=h.f1
 have f2:=h.f2
 refine⟨⟨⟨h1,h2⟩,by omega⟩,fun i hi=>?_⟩
 have wi:=h.wv _ (ae (l:=ws) (j:=i) hi)
 have li:=wi.pm.length_eq
 have wl:=wi.wl
 refine⟨⟨⟨by omega,Io wi.pm h.pr⟩,?_⟩,fun k hk=>⟨?_,?_⟩⟩
 · by_cases c:i=0
   · exact .inl c
   · right
     rw[pA]
     have:=(List.pairwise_iff_getElem.1 h.up) (i-1) i (by omega) hi (by omega)
     rwa [← bG (List.getElem?_eq_getElem (by omega:i-1<ws.length)),←bG (List.getElem?_eq_getElem hi)]at this
 · exact mN.2 (w0.pm.symm.mem_iff.1 (wi.pm.mem_iff.1 (ae hk)))
 · exact wi.wv _ (ae (by omega))
theorem xN{m:aM}{ws:List World}(h:rG m ⟨ws⟩=true):BV m (nth ws 0).tags ws:=by
 obtain⟨h1,h2,h3,h4,h5⟩:=fK h
 simp only at h1 h2 h3 h4 h5
 have p0:=(hU (h5 0 (by omega))).2.2.1
 refine⟨p0,h3,h4,fun x hx=>?_,?_⟩
 · obtain⟨i,hi⟩:=List.mem_iff_getElem?.1 hx
   have il:=(List.getElem?_eq_some_iff.1 hi).1
   obtain⟨w1,w2,w3,w4⟩:=hU (h5 i il)
   rw[bG hi]at w1 w2 w3 w4
   refine⟨vm (jT w3) (jT p0) w1 fun y hy=>?_,w2,fun w hw=>?_⟩
   · obtain⟨j,hj⟩:=List.mem_iff_getElem?.1 hy
     have:=(w4 j (List.getElem?_eq_some_iff.1 hj).1).1
     rwa [bG hj]at this
   · obtain⟨j,hj⟩:=List.mem_iff_getElem?.1 hw
     have:=(w4 j (by rw[w1,←w2];exact(List.getElem?_eq_some_iff.1 hj).1)).2
     rwa [bG hj]at this
 · have key:∀d i,i+d+1<ws.length→lexB (nth ws i).tags (nth ws (i+d+1)).tags=true:=by
    intro d
    induction d with
    | zero=>
      intro i hi
      have:=h5 (i+1) hi
      simp only[pq,Bool.and_eq_true,Bool.or_eq_true,decide_eq_true_eq]at this
      have:=this.1.2
      rw[← pA]
      simpa using this
    | succ d ih=>
      intro i hi
      have a:=ih i (by omega)
      have:=h5 (i+(d+1)+1) hi
      simp only[pq,Bool.and_eq_true,Bool.or_eq_true,decide_eq_true_eq]at this
      have b:=this.1.2.resolve_left (by omega)
      rw[pA,show i+(d+1)+1-1=i+d+1 by omega]at b
      exact lex_trans a b
   rw[List.pairwise_iff_getElem]
   intro i j hi hj hij
   have:=key (j-i-1) i (by omega)
   rw[show i+(j-i-1)+1=j by omega,bG (List.getElem?_eq_getElem hi),bG (List.getElem?_eq_getElem hj)]at this
   exact this
end Go.Ev
namespace Go.Ev.K
open Go.Ev
end Go.Ev.K
namespace Go.Ev
class iV [Lib]:Prop where
namespace K
variable [Lib] [iV]
end K
end Go.Ev
namespace Go.Ev.K
open Go.Ev
def p9:C:=(.seq (.ite [m v8,f 1 v6,g l0,u (.ln l0),u (.bin .lss l3 l0)] [] 0 .skip (.exit 2)) (.seq (.blk 3 (.ite [f 1 v6,g l0,m v8,a 2 l1 l0,h 2 l0,f 1 v7,g l0,m v8,a 2 l1 l0,h 2 l0,u (.ca N.iD 0 [] [.l 5,.l 0]),u (.un .not l0)] [] 0 (.seq (.reg [w 4 (.mv (.b false))] []) .ret) .skip)) (.reg [m v8,u (.bin .add l0 (.i 1)),w 8 (.mv l0)] [])))
def xO:C:= .loop true [0,1,4] K.p9
def qa:C:=(.seq (.ite [m v5,f 0 v2,g l0,u (.ln l0),u (.bin .lss l3 l0)] [] 0 .skip (.exit 0)) (.seq (.blk 1 (.seq (.reg [w 6 (.al [.nil,.nil] []),w 7 (.al [.nil,.nil] []),f 0 v2,g l0,m v5,a 2 l1 l0,h 2 l0,f 0 v3,g l0,m v5,a 2 l1 l0,h 2 l0,u (.st l11 l5 2 []),u (.st l11 l1 2 [])] [(8,13),(10,13),(11,13)]) (.seq (.ite [f 0 v6,g l0,f 0 v7,g l0,u (.ca N.bI 0 [] [.l 2,.l 0]),u (.un .not l0),m l0,y 0 false (.fa v6 1),y 1 false (.ld l0 1 false),y 2 false (.ln l0),y 3 false (.fa v7 1),y 4 false (.ld l0 1 false),y 5 false (.ln l0),y 6 false (.bin .neq l3 l0),u (.pk l7 (.b true) l0)] [] 0 (.seq (.reg [w 4 (.mv (.b false))] []) .ret) .skip) (.seq (.reg [w 8 (.mv (.i 0))] []) (.blk 2 K.xO))))) (.reg [m v5,u (.bin .add l0 (.i 1)),w 5 (.mv l0)] [])))
def xP:C:= .loop true [0,1,4,6,7,8] K.qa
def jh:Fn:={ nargs:=2,vars:=[0,1,2,3,4,5,6,7,8],body:=(.seq (.reg [w 2 (.bx v0 1),w 3 (.bx v1 1),w 4 (.mv (.b false))] []) (.seq (.ite [f 0 v2,g l0,u (.ln l0),f 0 v3,g l0,u (.ln l0),u (.bin .neq l3 l0)] [] 0 (.seq (.reg [w 4 (.mv (.b false))] []) .ret) .skip) (.seq (.seq (.reg [w 5 (.mv (.i 0))] []) (.blk 0 K.xP)) (.seq (.reg [w 4 (.mv (.b true))] []) .ret)))),res:=[(4,none)]}
def Bo:C:=(.its [u (.bin .lss v7 v6)] [] 0 .skip (.exit 0) (.seq (.blk 1 (.seq (.reg [a 2 v5 v7,h 2 l0,w 4 (.al [.t (.int .i64 (0)),.nil] []),u (.st l0 l1 2 [])] []) (.reg [f 1 v3,g l0,f 0 v4,g l0,f 1 v4,g l0,u (.ca N.aV 0 [] [.l 0]),u (.bd [.t (.int .i64 (0)),.nil] [(0,1,.l 3),(1,1,.l 0)]),u (.bs [.l 0] 2),u (.app l7 l0 true 2),f 1 v3,u (.st l0 l1 1 [])] [(1,7),(1,9),(3,7)]))) (.reg [u (.bin .add v7 (.i 1)),w 7 (.mv l0)] [])))
def BU:C:= .loop true [0,1,4] K.Bo
def kC:Fn:={ nargs:=1,vars:=[0,1,2,3,5,11,12,13],body:=(.seq (.reg [w 1 (.bx v0 2),w 2 (.al [.nil,.nil] [])] []) (.seq (.reg [f 0 v1,g l0,u (.ca N.aV 0 [] [.l 0]),u (.bd [.nil,.nil] [(0,1,.l 0)]),w 3 (.al [.nil,.nil] [(1,2)]),u (.st l0 l1 2 [(1,2)])] []) (.seq (.seq (.reg [f 1 v1,w 5 (.ld l0 1 false),w 6 (.ln l0),w 7 (.mv (.i 0))] []) (.blk 0 K.BU)) (.seq (.reg [h 2 v3,u (.st v2 l0 2 [])] []) .ret)))),res:=[(2,some (2,true))]}
def oW:C:=(.its [u (.bin .lss v11 v10)] [] 0 .skip (.exit 2) (.seq (.blk 3 (.seq (.reg [m v11,w 6 (.mv l0)] []) (.reg [m v3,m v5,u (.bin .sub l0 (.i 1)),a 2 l2 l0,f 1 l0,g l0,m v6,m v3,m v5,u (.bin .sub l0 (.i 1)),a 2 l2 l0,f 1 l0,g l0,m v6,a 2 l1 l0,h 2 l0,f 1 v4,g l0,m v6,a 2 l1 l0,h 2 l0,u (.ca N.gr 0 [] [.l 5,.l 0]),m l0,u (.ex l0 0),u (.ex l1 1),a 2 (.l 19) (.l 18),u (.st l0 l2 2 [])] [(3,22),(5,22)]))) (.reg [u (.bin .add v11 (.i 1)),w 11 (.mv l0)] [])))
def vn:C:= .loop false [0,1,2,6] K.oW
def iG:C:=(.its [u (.bin .lss v9 v8)] [] 0 .skip (.exit 0) (.seq (.blk 1 (.seq (.reg [a 2 v7 v9,h 2 l0,w 4 (.al [.nil,.nil] []),u (.st l0 l1 2 [])] []) (.seq (.seq (.reg [m v3,u (.ln l0),w 5 (.mv l0)] []) (.ite [m v5,u (.bin .gtr l0 (.i 0)),m l0,y 0 true (.mv v3),y 1 true (.mv v5),y 2 true (.bin .sub l0 (.i 1)),y 3 true (.ia l2 l0 2),y 4 true (.fa l0 0),y 5 true (.ld l0 1 false),y 6 true (.fa v4 0),y 7 true (.ld l0 1 false),y 8 true (.ca N.aY 0 [] [.l 2,.l 0]),u (.pk l9 l0 (.b false))] [] 0 (.seq (.seq (.reg [f 1 v4,g l0,w 10 (.ln l0),w 11 (.mv (.i 0))] []) (.blk 2 K.vn)) (.exit 1)) .skip)) (.reg [m v3,h 2 v4,u (.ca N.dm 1 [] [.l 0]),u (.bsr [.l 0] 2),u (.app l3 l0 false 2),w 3 (.mv l0)] [])))) (.reg [u (.bin .add v9 (.i 1)),w 9 (.mv l0)] [])))
def vq:C:= .loop false [0,1,2,4,5,6,10,11] K.iG
def gZ:Fn:={ nargs:=1,vars:=[0,2,3,4,6,7,8,12,13,14,35,36],body:=(.seq (.reg [w 1 (.mv (.c (.nil)))] []) (.seq (.reg [m v0,u (.ca N.aJ 0 [] [.l 0]),u (.ca N.aI 0 [] [.l 0,.c (.fn N.bf [])]),w 2 (.mv l0)] []) (.seq (.reg [w 3 (.nw 2)] []) (.seq (.seq (.reg [w 7 (.mv v2),w 8 (.ln l0),w 9 (.mv (.i 0))] []) (.blk 0 K.vq)) (.seq (.reg [m v3,w 1 (.mv l0)] []) .ret))))),res:=[(1,none)]}
def aI:Fn:={ nargs:=2,vars:=[0,1,4,5],body:=(.seq (.reg [w 2 (.mv (.c (.nil)))] []) (.seq (.reg [m v0,u (.ca N.bD 1 [] [.l 0]),w 3 (.mv l0)] []) (.seq (.reg [m v3,m v1,u (.ca N.aA 0 [0] [.l 1,.l 0])] []) (.seq (.reg [m v3,w 2 (.mv l0)] []) .ret)))),res:=[(2,none)]}
def aJ:Fn:={ nargs:=1,vars:=[0,1,2],body:=(.seq (.reg [w 1 (.bx v0 1),w 2 (.mv (.c (.und)))] []) (.seq (.reg [u (.mf N.av [.v 1]),w 2 (.mv l0)] []) .ret)),res:=[(2,none)]}
def bf:Fn:={ nargs:=2,vars:=[0,1,2,3,4],body:=(.seq (.reg [w 2 (.bx v0 2),w 3 (.bx v1 2),w 4 (.mv (.i 0))] []) (.seq (.reg [f 0 v2,g l0,f 0 v3,g l0,u (.ca N.aS 0 [] [.l 2,.l 0]),w 4 (.mv l0)] []) .ret)),res:=[(4,none)]}
def bD:Fn:={ nargs:=1,vars:=[2],body:= .fail,res:=[(0,none)],prim:=[3,N.av]}
def aA:Fn:={ nargs:=2,vars:=[0,1],body:=(.reg [m v0,m v0,u (.ln l0),m v1,u (.ca N.aQ 0 [0] [.l 3,.l 1,.l 0])] []),res:=[]}
def jK:C:=(.its [u (.bin .lss v5 v4)] [] 0 .skip (.exit 0) (.seq (.blk 1 (.seq (.reg [a 2 v3 v5,h 2 l0,w 2 (.al [.nil,.nil] []),u (.st l0 l1 2 [])] []) (.ite [m v0,h 2 v2,u (.cw l1 0 [] [.l 0]),u (.un .not l0)] [] 0 .ret .skip))) (.reg [u (.bin .add v5 (.i 1)),w 5 (.mv l0)] [])))
def jV:C:= .loop true [1,2] K.jK
def av:Fn:={ nargs:=2,vars:=[0,1,4,5,6,7],body:=(.seq (.reg [w 3 (.ld v1 1 false),w 4 (.ln l0),w 5 (.mv (.i 0))] []) (.blk 0 K.jV)),res:=[]}
def gG:C:=(.seq (.ite [m v5,m v1,u (.bin .leq l1 l0)] [] 0 .skip (.exit 0)) (.blk 1 (.seq (.reg [m v0,m v4,m v5,m v2,u (.ca N.ay 0 [0] [.l 3,.l 2,.l 1,.l 0])] []) (.seq (.reg [m v5,w 4 (.mv l0)] []) (.reg [m v5,m v3,u (.bin .add l1 l0),w 5 (.mv l0)] [])))))
def gU:C:= .loop true [6] K.gG
def lk:C:=(.seq (.ite [m v5,m v1,u (.bin .leq l1 l0)] [] 0 .skip (.exit 4)) (.blk 5 (.seq (.reg [m v0,m v4,m v4,m v3,u (.bin .add l1 l0),m v5,m v2,u (.ca N.aG 0 [0] [.l 6,.l 5,.l 2,.l 1,.l 0])] []) (.seq (.reg [m v5,w 4 (.mv l0)] []) (.reg [m v5,m v3,u (.bin .mul (.i 2) l0),u (.bin .add l2 l0),w 5 (.mv l0)] [])))))
def mb:C:= .loop true [6] K.lk
def gH:C:=(.seq (.ite [m v3,m v1,u (.bin .lss l1 l0)] [] 0 .skip (.exit 2)) (.blk 3 (.seq (.reg [m v3,u (.bin .mul (.i 2) l0),w 4 (.mv (.i 0)),w 5 (.mv l1)] []) (.seq (.blk 4 K.mb) (.seq (.seq (.reg [m v4,m v3,u (.bin .add l1 l0),w 6 (.mv l0)] []) (.ite [m v6,m v1,u (.bin .lss l1 l0)] [] 0 (.reg [m v0,m v4,m v6,m v1,m v2,u (.ca N.aG 0 [0] [.l 4,.l 3,.l 2,.l 1,.l 0])] []) .skip)) (.reg [m v3,u (.bin .mul l0 (.i 2)),w 3 (.mv l0)] []))))))
def gV:C:= .loop true [4,5,6] K.gH
def aQ:Fn:={ nargs:=3,vars:=[0,1,2,6,7,8,9],body:=(.seq (.reg [w 3 (.mv (.i 20))] []) (.seq (.reg [m v3,w 4 (.mv (.i 0)),w 5 (.mv l1)] []) (.seq (.blk 0 K.gU) (.seq (.reg [m v0,m v4,m v1,m v2,u (.ca N.ay 0 [0] [.l 3,.l 2,.l 1,.l 0])] []) (.blk 2 K.gV))))),res:=[]}
def aN:C:=(.seq (.ite [m v5,m v1,u (.bin .gtr l1 l0),m l0,y 0 true (.mv v3),y 1 true (.mv v0),y 2 true (.mv v5),y 3 true (.ia l1 l0 2),y 4 true (.ld l0 2 true),y 5 true (.mv v0),y 6 true (.mv v5),y 7 true (.bin .sub l0 (.i 1)),y 8 true (.ia l2 l0 2),y 9 true (.ld l0 2 true),y 10 true (.cw l9 0 [] [.l 5,.l 0]),y 11 true (.bin .lss l0 (.i 0)),u (.pk (.l 12) l0 (.b false))] [] 0 .skip (.exit 2)) (.seq (.blk 3 (.reg [m v0,m v5,m v0,m v5,u (.bin .sub l0 (.i 1)),m v0,m v5,u (.bin .sub l0 (.i 1)),a 2 l2 l0,h 2 l0,m v0,m v5,a 2 l1 l0,h 2 l0,a 2 (.l 13) (.l 12),u (.st l0 l5 2 []),a 2 (.l 13) l11,u (.st l0 l3 2 [])] [])) (.reg [m v5,u (.bin .sub l0 (.i 1)),w 5 (.mv l0)] [])))
def eL:C:= .loop true [] K.aN
def aX:C:=(.seq (.ite [m v4,m v2,u (.bin .lss l1 l0)] [] 0 .skip (.exit 0)) (.seq (.blk 1 (.seq (.reg [m v4,w 5 (.mv l0)] []) (.blk 2 K.eL))) (.reg [m v4,u (.bin .add l0 (.i 1)),w 4 (.mv l0)] [])))
def cD:C:= .loop true [5] K.aX
def ay:Fn:={ nargs:=4,vars:=[0,1,2,3,8,9],body:=(.seq (.reg [m v1,u (.bin .add l0 (.i 1)),w 4 (.mv l0)] []) (.blk 0 K.cD)),res:=[]}
def kj:C:=(.seq (.ite [m v5,m v6,u (.bin .lss l1 l0)] [] 0 .skip (.exit 0)) (.blk 1 (.seq (.reg [m v5,m v6,u (.bin .add l1 l0),u (.cv .u64 l0),u (.bin .shr l0 (.c (.t (.int .u64 (1))))),u (.cv .i64 l0),w 7 (.mv l0)] []) (.ite [m v4,m v0,m v7,a 2 l1 l0,h 2 l0,m v0,m v1,a 2 l1 l0,h 2 l0,u (.cw l8 0 [] [.l 4,.l 0]),u (.bin .lss l0 (.i 0))] [] 0 (.reg [m v7,u (.bin .add l0 (.i 1)),w 5 (.mv l0)] []) (.reg [m v7,w 6 (.mv l0)] [])))))
def kG:C:= .loop true [2,3,7,8,9,10,11,12,13,14,15,16,17,18,19] K.kj
def km:C:=(.seq (.ite [m v8,m v5,u (.bin .sub l0 (.i 1)),u (.bin .lss l2 l0)] [] 0 .skip (.exit 2)) (.seq (.blk 3 (.reg [m v0,m v8,m v0,m v8,u (.bin .add l0 (.i 1)),m v0,m v8,u (.bin .add l0 (.i 1)),a 2 l2 l0,h 2 l0,m v0,m v8,a 2 l1 l0,h 2 l0,a 2 (.l 13) (.l 12),u (.st l0 l5 2 []),a 2 (.l 13) l11,u (.st l0 l3 2 [])] [])) (.reg [m v8,u (.bin .add l0 (.i 1)),w 8 (.mv l0)] [])))
def kH:C:= .loop true [1,2,3,4,6,7,9,10,11,12,13,14,15,16,17,18,19] K.km
def kn:C:=(.seq (.ite [m v9,m v10,u (.bin .lss l1 l0)] [] 0 .skip (.exit 4)) (.blk 5 (.seq (.reg [m v9,m v10,u (.bin .add l1 l0),u (.cv .u64 l0),u (.bin .shr l0 (.c (.t (.int .u64 (1))))),u (.cv .i64 l0),w 11 (.mv l0)] []) (.ite [m v4,m v0,m v2,a 2 l1 l0,h 2 l0,m v0,m v11,a 2 l1 l0,h 2 l0,u (.cw l8 0 [] [.l 4,.l 0]),u (.bin .lss l0 (.i 0)),u (.un .not l0)] [] 0 (.reg [m v11,u (.bin .add l0 (.i 1)),w 9 (.mv l0)] []) (.reg [m v11,w 10 (.mv l0)] [])))))
def kI:C:= .loop true [1,3,5,6,7,8,11,12,13,14,15,16,17,18,19] K.kn
def ko:C:=(.seq (.ite [m v12,m v9,u (.bin .gtr l1 l0)] [] 0 .skip (.exit 6)) (.seq (.blk 7 (.reg [m v0,m v12,m v0,m v12,u (.bin .sub l0 (.i 1)),m v0,m v12,u (.bin .sub l0 (.i 1)),a 2 l2 l0,h 2 l0,m v0,m v12,a 2 l1 l0,h 2 l0,a 2 (.l 13) (.l 12),u (.st l0 l5 2 []),a 2 (.l 13) l11,u (.st l0 l3 2 [])] [])) (.reg [m v12,u (.bin .sub l0 (.i 1)),w 12 (.mv l0)] [])))
def kJ:C:= .loop true [1,2,3,4,5,6,7,8,10,11,13,14,15,16,17,18,19] K.ko
def kp:C:=(.seq (.ite [m v15,m v16,u (.bin .lss l1 l0)] [] 0 .skip (.exit 8)) (.blk 9 (.seq (.reg [m v15,m v16,u (.bin .add l1 l0),u (.cv .u64 l0),u (.bin .shr l0 (.c (.t (.int .u64 (1))))),u (.cv .i64 l0),w 18 (.mv l0)] []) (.ite [m v4,m v0,m v17,m v18,u (.bin .sub l1 l0),a 2 l3 l0,h 2 l0,m v0,m v18,a 2 l1 l0,h 2 l0,u (.cw l10 0 [] [.l 4,.l 0]),u (.bin .lss l0 (.i 0)),u (.un .not l0)] [] 0 (.reg [m v18,u (.bin .add l0 (.i 1)),w 15 (.mv l0)] []) (.reg [m v18,w 16 (.mv l0)] [])))))
def kK:C:= .loop true [5,6,7,8,9,10,11,12,18,19] K.kp
def aG:Fn:={ nargs:=5,vars:=[0,1,2,3,4,10,11,12,13,14,15,16,17,18,19,20,21,22,23,24],body:=(.seq (.ite [m v2,m v1,u (.bin .sub l1 l0),u (.bin .eql l0 (.i 1))] [] 0 (.seq (.reg [m v2,w 5 (.mv l0)] []) (.seq (.reg [m v3,w 6 (.mv l0)] []) (.seq (.blk 0 K.kG) (.seq (.seq (.reg [m v1,w 8 (.mv l0)] []) (.blk 2 K.kH)) .ret)))) .skip) (.seq (.ite [m v3,m v2,u (.bin .sub l1 l0),u (.bin .eql l0 (.i 1))] [] 0 (.seq (.reg [m v1,w 9 (.mv l0)] []) (.seq (.reg [m v2,w 10 (.mv l0)] []) (.seq (.blk 4 K.kI) (.seq (.seq (.reg [m v2,w 12 (.mv l0)] []) (.blk 6 K.kJ)) .ret)))) .skip) (.seq (.reg [m v1,m v3,u (.bin .add l1 l0),u (.cv .u64 l0),u (.bin .shr l0 (.c (.t (.int .u64 (1))))),u (.cv .i64 l0),w 13 (.mv l0)] []) (.seq (.reg [m v13,m v2,u (.bin .add l1 l0),w 14 (.mv l0)] []) (.seq (.reg [w 15 (.mv (.i 0)),w 16 (.mv (.i 0))] []) (.seq (.ite [m v2,m v13,u (.bin .gtr l1 l0)] [] 0 (.seq (.reg [m v14,m v3,u (.bin .sub l1 l0),w 15 (.mv l0)] []) (.reg [m v13,w 16 (.mv l0)] [])) (.seq (.reg [m v1,w 15 (.mv l0)] []) (.reg [m v2,w 16 (.mv l0)] []))) (.seq (.reg [m v14,u (.bin .sub l0 (.i 1)),w 17 (.mv l0)] []) (.seq (.blk 8 K.kK) (.seq (.reg [m v14,m v15,u (.bin .sub l1 l0),w 19 (.mv l0)] []) (.seq (.ite [m v15,m v2,u (.bin .lss l1 l0),m l0,y 0 true (.mv v2),y 1 true (.mv v19),y 2 true (.bin .lss l1 l0),u (.pk l3 l0 (.b false))] [] 0 (.reg [m v0,m v15,m v2,m v19,m v4,u (.ca N.bc 0 [0] [.l 4,.l 3,.l 2,.l 1,.l 0])] []) .skip) (.seq (.ite [m v1,m v15,u (.bin .lss l1 l0),m l0,y 0 true (.mv v15),y 1 true (.mv v13),y 2 true (.bin .lss l1 l0),u (.pk l3 l0 (.b false))] [] 0 (.reg [m v0,m v1,m v15,m v13,m v4,u (.ca N.aG 0 [0] [.l 4,.l 3,.l 2,.l 1,.l 0])] []) .skip) (.ite [m v13,m v19,u (.bin .lss l1 l0),m l0,y 0 true (.mv v19),y 1 true (.mv v3),y 2 true (.bin .lss l1 l0),u (.pk l3 l0 (.b false))] [] 0 (.reg [m v0,m v13,m v19,m v3,m v4,u (.ca N.aG 0 [0] [.l 4,.l 3,.l 2,.l 1,.l 0])] []) .skip)))))))))))),res:=[]}
def lq:C:=(.seq (.ite [m v5,m v6,u (.bin .neq l1 l0)] [] 0 .skip (.exit 0)) (.blk 1 (.ite [m v5,m v6,u (.bin .gtr l1 l0)] [] 0 (.seq (.reg [m v0,m v2,m v5,u (.bin .sub l1 l0),m v2,m v6,m v4,u (.ca N.aK 0 [0] [.l 6,.l 3,.l 2,.l 1,.l 0])] []) (.reg [m v5,m v6,u (.bin .sub l1 l0),w 5 (.mv l0)] [])) (.seq (.reg [m v0,m v2,m v5,u (.bin .sub l1 l0),m v2,m v6,u (.bin .add l1 l0),m v5,u (.bin .sub l1 l0),m v5,m v4,u (.ca N.aK 0 [0] [.l 10,.l 7,.l 2,.l 1,.l 0])] []) (.reg [m v6,m v5,u (.bin .sub l1 l0),w 6 (.mv l0)] [])))))
def mc:C:= .loop true [1,3] K.lq
def bc:Fn:={ nargs:=5,vars:=[0,1,2,3,4,10,11],body:=(.seq (.reg [m v2,m v1,u (.bin .sub l1 l0),w 5 (.mv l0)] []) (.seq (.reg [m v3,m v2,u (.bin .sub l1 l0),w 6 (.mv l0)] []) (.seq (.blk 0 K.mc) (.reg [m v0,m v2,m v5,u (.bin .sub l1 l0),m v2,m v5,m v4,u (.ca N.aK 0 [0] [.l 6,.l 3,.l 2,.l 1,.l 0])] [])))),res:=[]}
def j5:C:=(.seq (.ite [m v4,m v3,u (.bin .lss l1 l0)] [] 0 .skip (.exit 0)) (.seq (.blk 1 (.reg [m v0,m v1,m v4,u (.bin .add l1 l0),m v0,m v2,m v4,u (.bin .add l1 l0),m v0,m v2,m v4,u (.bin .add l1 l0),a 2 l3 l0,h 2 l0,m v0,m v1,m v4,u (.bin .add l1 l0),a 2 l3 l0,h 2 l0,a 2 (.l 19) (.l 16),u (.st l0 l7 2 []),a 2 (.l 17) (.l 14),u (.st l0 l3 2 [])] [])) (.reg [m v4,u (.bin .add l0 (.i 1)),w 4 (.mv l0)] [])))
def kq:C:= .loop true [] K.j5
def aK:Fn:={ nargs:=5,vars:=[0,1,2,3,10],body:=(.seq (.reg [w 4 (.mv (.i 0))] []) (.blk 0 K.kq)),res:=[]}
def me:C:=(.its [u (.bin .lss v7 v6)] [] 0 .skip (.exit 0) (.seq (.blk 1 (.seq (.reg [a 2 v5 v7,h 2 l0,w 4 (.al [.t (.int .i64 (0)),.nil] []),u (.st l0 l1 2 [])] []) (.reg [f 1 v3,g l0,f 0 v4,g l0,f 1 v4,g l0,u (.ca N.aV 1 [] [.l 0]),u (.bd [.t (.int .i64 (0)),.nil] [(0,1,.l 3),(1,1,.l 0)]),u (.bs [.l 0] 2),u (.app l7 l0 true 2),f 1 v3,u (.st l0 l1 1 [])] [(1,7),(1,9),(3,7)]))) (.reg [u (.bin .add v7 (.i 1)),w 7 (.mv l0)] [])))
def qz:C:= .loop true [0,1,4] K.me
def dm:Fn:={ nargs:=1,vars:=[0,1,2,3,5,11,12,13],body:=(.seq (.reg [w 1 (.bx v0 2),w 2 (.al [.nil,.nil] [])] []) (.seq (.reg [f 0 v1,g l0,u (.ca N.aV 1 [] [.l 0]),u (.bd [.nil,.nil] [(0,1,.l 0)]),w 3 (.al [.nil,.nil] [(1,2)]),u (.st l0 l1 2 [(1,2)])] []) (.seq (.seq (.reg [f 1 v1,w 5 (.ld l0 1 false),w 6 (.ln l0),w 7 (.mv (.i 0))] []) (.blk 0 K.qz)) (.seq (.reg [h 2 v3,u (.st v2 l0 2 [])] []) .ret)))),res:=[(2,some (2,true))]}
end Go.Ev.K
namespace Go.Ev
class eQ [Lib]:Prop where
 ua:Lib.fs N.jh=some K.jh
 xQ:Lib.fs N.kC=some K.kC
 rZ:Lib.fs N.gZ=some K.gZ
 dA:Lib.fs N.aI=some K.aI
 dB:Lib.fs N.aJ=some K.aJ
 oX:Lib.fs N.bf=some K.bf
 gN:Lib.fs N.bD=some K.bD
 cm:Lib.fs N.aA=some K.aA
 fL:Lib.fs N.av=some K.av
 et:Lib.fs N.aQ=some K.aQ
 bU:Lib.fs N.ay=some K.ay
 gI:Lib.fs N.aG=some K.aG
 ig:Lib.fs N.bc=some K.bc
 gA:Lib.fs N.aK=some K.aK
 nK:Lib.fs N.dm=some K.dm
namespace K
variable [Lib] [eQ]
theorem ua:Lib.fs N.jh=some K.jh:=eQ.ua
theorem xQ:Lib.fs N.kC=some K.kC:=eQ.xQ
theorem rZ:Lib.fs N.gZ=some K.gZ:=eQ.rZ
theorem dA:Lib.fs N.aI=some K.aI:=eQ.dA
theorem dB:Lib.fs N.aJ=some K.aJ:=eQ.dB
theorem oX:Lib.fs N.bf=some K.bf:=eQ.oX
theorem gN:Lib.fs N.bD=some K.bD:=eQ.gN
theorem cm:Lib.fs N.aA=some K.aA:=eQ.cm
theorem fL:Lib.fs N.av=some K.av:=eQ.fL
theorem et:Lib.fs N.aQ=some K.aQ:=eQ.et
theorem bU:Lib.fs N.ay=some K.ay:=eQ.bU
theorem gI:Lib.fs N.aG=some K.aG:=eQ.gI
theorem ig:Lib.fs N.bc=some K.bc:=eQ.ig
theorem gA:Lib.fs N.aK=some K.aK:=eQ.gA
theorem nK:Lib.fs N.dm=some K.dm:=eQ.nK
end K
end Go.Ev
namespace Go.Ev
open Go
variable [Lib] [bW] [bL] [fJ] [eY] [jB] [fM] [fN] [iI] [gu] [ec] [du] [iV] [eQ]
theorem Lk(x:World)(h:x.sz):∀z0 z1 z4:D,exS aE K.qz ⟨[z0,z1,.bp 1 0,.bp 3 0,z4,.t (.sl (x.whr.map Wh.e)),I x.whr.length,I 0],[.box [.t (tL x.tags),.t (.sl (x.whr.map Wh.e))],.box [.nil,.nil],G8 x.tags,.box [.ref 2 0 x.tags.length,.ref 5 0 0],.arr 2 false 0 [],.arr 2 false 0 []]⟩=
 some (.exit 0,⟨[.und,.und,.bp 1 0,.bp 3 0,.und,.t (.sl (x.whr.map Wh.e)),I x.whr.length,I x.whr.length],[.box [.t (tL x.tags),.t (.sl (x.whr.map Wh.e))],.box [.nil,.nil],G8 x.tags,.box [.ref 2 0 x.tags.length,.ref 5 0 x.whr.length],.arr 2 false 0 [],.arr 2 false 0 ((x.whr.map Wh.e).map .t)]⟩):=by
 intro z0 z1 z4
 obtain⟨tags,whr⟩:=x
 obtain⟨h1,h2,h3⟩:=h
 simp only at h1 h2 h3 ⊢
 have tk:whr.take whr.length=whr:=by simp
 refine bR (fun j=>⟨[.und,.und,.bp 1 0,.bp 3 0,.und,.t (.sl (whr.map Wh.e)),I whr.length,I j],[.box [.t (tL tags),.t (.sl (whr.map Wh.e))],.box [.nil,.nil],G8 tags,.box [.ref 2 0 tags.length,.ref 5 0 (whr.take j).length],.arr 2 false 0 [],.arr 2 false 0 (((whr.take j).map Wh.e).map .t)]⟩) whr.length rfl ?_ ?_ (by simp)
 · intro j hj
   have c:=A2 (nth whr j).frm (h3 _ (ae hj))
   have ex:(whr.map Wh.e)[j]?=some (nth whr j).e:=bP _ hj
   have lt:(whr.take j).length=j:=by rw[List.length_take];omega
   have tk:whr.take (j+1)=whr.take j++[nth whr j]:=jQ hj
   generalize nth whr j=w at*
   generalize whr.take j=pre at*
   obtain⟨time,frm⟩:=w
   simp only[G8]at*
   simp(disch:=omega)only[go_sem,K.me,↓reduceIte,ex,c,lt,tk,List.map_append,List.map_cons,List.map_nil,List.length_append,List.length_cons,List.length_nil,Nat.reduceAdd,Nat.reduceSub]
 · simp only[G8]
   simp(disch:=omega)only[go_sem,K.me,↓reduceIte,tk,Nat.reduceAdd,Nat.reduceSub]
theorem JN(x:World)(h:x.sz):aE 1 N.dm [.t x.e] []=some (.agg [.ref 0 0 x.tags.length,.ref 1 0 x.whr.length],[.arr 1 false 0 ((x.tags.map (T.int .i64)).map .t),.arr 2 false 0 ((x.whr.map Wh.e).map .t)]):=by
 refine ak K.nK rfl ?_
 have loop:=Lk x h
 have c:=A2 x.tags h.1
 obtain⟨tags,whr⟩:=x
 obtain⟨h1,h2,h3⟩:=h
 simp only[G8]at h1 h2 h3 loop c ⊢
 simp(disch:=omega)only[go_sem,K.dm,↓reduceIte,loop,c,Nat.reduceAdd,Nat.reduceSub]
abbrev zC(l:List World):Obj:= .arr 2 false 0 ((l.map World.e).map .t)
theorem Ll(l:List World):aE 0 N.aJ [.t (.sl (l.map World.e))] []=some (.fn N.av [.bp 0 0],[.box [.t (.sl (l.map World.e))]]):=by
 refine ak K.dB rfl ?_
 simp(disch:=omega)only[go_sem,K.aJ,↓reduceIte,Nat.reduceAdd,Nat.reduceSub]
theorem Ip(l:List World)(h0:0<l.length)(hl:l.length≤1000000):aE 1 N.bD [.fn N.av [.bp 0 0]] [.box [.t (.sl (l.map World.e))]]=some (.ref 1 0 l.length,[.box [.t (.sl (l.map World.e))],zC l]):=by
 refine FD K.gN (by decide) ?_
 show ya [3,N.av] _ _=_
 have e:(l.map World.e).all Kq=true:=by
  rw[List.all_eq_true]
  intro x hx
  obtain⟨w, -,rfl⟩:=List.mem_map.1 hx
  rfl
 have ne:(l.map World.e).isEmpty=false:=by
  cases l with
  | nil=>simp at h0
  | cons=>rfl
 simp only[ya,if_true,List.getElem?_cons_zero,e,and_true,List.length_map,ne,Bool.false_eq_true,if_false]
 rw[if_pos (by unfold lim;omega)]
 rfl
theorem Lm(a b:World)(ha:a.sz)(hb:b.sz):aE 0 N.bf [.t a.e,.t b.e] []=some (I (Rk a.tags b.tags),[]):=by
 refine ak K.oX rfl ?_
 have c:=CP a.tags b.tags ha.1 hb.1
 obtain⟨t1,w1⟩:=a
 obtain⟨t2,w2⟩:=b
 simp only at*
 simp(disch:=omega)only[go_sem,K.bf,↓reduceIte,c,Nat.reduceAdd,Nat.reduceSub]
abbrev Iq(l:List World):Prop:=l.Pairwise fun x y=>lexB y.tags x.tags=false
theorem WT(a b:List Int):Rk a b<0↔lexB a b=true:=by
 rw[← pA,←Gr];simp
abbrev isS(l:List World)(b i:Int)(j:D):St:=⟨[.ref 0 0 l.length,I 0,I b,.fn N.bf [],I i,j],[zC l]⟩
theorem OP{p:List World}{x:World}{r:List World}{j:Nat}(h:p.length=j):nth (p++x::r) j=x:=bG (by rw[List.getElem?_append_right (by omega),h,Nat.sub_self];rfl)
theorem WU{α:Type}{p:List α}{y x a c:α}{r:List α}{j:Nat}(h:p.length=j):((p++y::x::r).set (j+1) a).set j c=p++c::a::r:=by
 rw[List.set_append_right _ _ (by omega),h,show j+1-j=1 by omega,List.set_append_right _ _ (by omega),h,Nat.sub_self]
 rfl
def aiV(b i:Int)(l0 rest:List World)(x:World)(k:Nat)(st:St):Prop:=
 ∃p q,st=isS (p++x::(q++rest)) b i (I ((p.length:Nat):Int))∧p.length+k=l0.length∧p++q=l0∧(∀y∈q,lexB x.tags y.tags=true)
theorem Rx(b i:Int)(p r:List World)(y x:World)(hx:x.sz)(hy:y.sz)(hl:(p++y::x::r).length≤1000):
 (lexB x.tags y.tags=true→fG true [] 1 (exS aE K.aN (isS (p++y::x::r) b i (I ((p.length+1:Nat):Int))))=some (isS (p++x::y::r) b i (I ((p.length:Nat):Int))))∧
 (lexB x.tags y.tags=false→exS aE K.aN (isS (p++y::x::r) b i (I ((p.length+1:Nat):Int)))=some (.exit 2,isS (p++y::x::r) b i (I ((p.length+1:Nat):Int)))):=by
 have c:=Lm x y hx hy
 have cl:=WT x.tags y.tags
 obtain⟨n,hn⟩:∃n,p.length=n:=⟨_,rfl⟩
 have n1:nth (p++y::x::r) (n+1)=x:=by
  have:=OP (p:=p++[y]) (x:=x) (r:=r) (j:=n+1) (by simp[hn])
  rwa [List.append_assoc]at this
 have n0:nth (p++y::x::r) n=y:=OP hn
 have st:((((p++y::x::r).map World.e).map D.t).set (n+1) (D.t y.e)).set n (D.t x.e)=(((p++x::y::r).map World.e).map D.t):=by
  simp only[List.map_append,List.map_cons]
  exact WU (by simp[hn])
 have ln:(p++y::x::r).length=(p++x::y::r).length:=by simp
 have lt:n+1<(p++y::x::r).length:=by simp[hn]
 rw[hn]
 have gs:∀v,((((p++y::x::r).map World.e).map D.t).set (n+1) v)[n]?=some (D.t y.e):=fun v=>by
  rw[List.getElem?_set_ne (by omega),List.getElem?_map,List.getElem?_map,fQ (by omega),n0];rfl
 simp only[isS,zC]
 rw[← ln]
 generalize (p++x::y::r)=L2 at*
 generalize (p++y::x::r)=L at*
 generalize Rk x.tags y.tags=v at*
 obtain⟨t1,w1⟩:=x
 obtain⟨t2,w2⟩:=y
 simp only at*
 constructor
 · intro h
   have v0:=cl.2 h
   simp(disch:=omega)only[go_sem,K.aN,↓reduceIte,n1,n0,c,gs,st,Nat.reduceAdd,Nat.reduceSub]
 · intro h
   have v0:¬v<0:=fun e=>by rw[cl.1 e]at h;cases h
   simp(disch:=omega)only[go_sem,K.aN,↓reduceIte,n1,n0,c,Nat.reduceAdd,Nat.reduceSub]
theorem WW{p q:List World}{x:World}(hs:Iq (p++q))(hq:∀y∈q,lexB x.tags y.tags=true)(hp:∀y∈p,lexB x.tags y.tags=false):Iq (p++x::q):=by
 simp only[Iq,List.pairwise_append]at hs ⊢
 refine⟨hs.1,?_,fun a ha c hc=>?_⟩
 · rw[List.pairwise_cons]
   refine⟨fun y hy=>?_,hs.2.1⟩
   cases h:lexB y.tags x.tags with
   | false=>rfl
   | true=>have:=lex_trans h (hq y hy);rw[lex_irrefl]at this;cases this
 · rcases List.mem_cons.1 hc with rfl | hc
   · exact hp a ha
   · exact hs.2.2 a ha c hc
theorem Ry(b i:Int)(l0 rest:List World)(x:World)(hs:Iq l0)(hz:∀w∈l0++x::rest,w.sz)(hl:(l0++x::rest).length≤1000):
 ∃(l1:List World) (z:D),exS aE K.eL (isS (l0++x::rest) b i (I ((l0.length:Nat):Int)))=some (.exit 2,isS (l1++rest) b i z)∧l1.Perm (l0++[x])∧Iq l1:=by
 have fin:∀p q,p++q=l0→(∀y∈q,lexB x.tags y.tags=true)→(∀y∈p,lexB x.tags y.tags=false)→(p++x::q).Perm (l0++[x])∧Iq (p++x::q):=by
  intro p q e hq hp
  subst e
  refine⟨?_,WW hs hq hp⟩
  rw[List.append_assoc]
  exact List.Perm.append_left _ (List.perm_append_comm (l₁:=[x]))
 have key:=Og (gc:=true) (dead:=[]) (c:=K.aN) (vs:=[.ref 0 0 (l0++x::rest).length,I 0,I b,.fn N.bf [],I i,I ((l0.length:Nat):Int)]) (H:=[zC (l0++x::rest)])
  (aiV b i l0 rest x) l0.length (fun r=>∃(l1:List World) (z:D),r=(.exit 2,isS (l1++rest) b i z)∧l1.Perm (l0++[x])∧Iq l1) ?_ ?_ ?_
 · obtain⟨r,h,l1,z,rfl,a,c⟩:=key
   exact⟨l1,z,h,a,c⟩
 · exact⟨l0,[],rfl,by omega,by simp,fun y hy=>by cases hy⟩
 · rintro j st hj ⟨p,q,rfl,h1,h2,h3⟩
   obtain⟨p',y,rfl⟩:∃p' y,p=p'++[y]:=⟨p.dropLast,p.getLast (fun e=>by subst e;simp at h1;omega),(List.dropLast_concat_getLast _).symm⟩
   subst h2
   have hz':∀w∈p'++[y]++q++x::rest,w.sz:=hz
   have e1:p'++[y]++x::(q++rest)=p'++y::x::(q++rest):=by simp
   have e2:(p'++[y]).length=p'.length+1:=by simp
   rw[e1,e2]
   have st:=Rx b i p' (q++rest) y x (hz' x (by simp)) (hz' y (by simp)) (by simp at hl ⊢;omega)
   cases hc:lexB x.tags y.tags with
   | true=>
     refine .inl ⟨_,st.1 hc,p',y::q,by simp[isS],by simp at h1 ⊢;omega,by simp,fun w hw=>?_⟩
     rcases List.mem_cons.1 hw with rfl | hw
     · exact hc
     · exact h3 w hw
   | false=>
     refine .inr ⟨_,st.2 hc,by simp,p'++[y]++x::q,I ((p'.length+1:Nat):Int),by simp[isS],?_⟩
     refine fin (p'++[y]) q rfl h3 fun w hw=>?_
     rcases List.mem_append.1 hw with hw | hw
     · cases h:lexB x.tags w.tags with
       | false=>rfl
       | true=>
         have hwy:lexB y.tags w.tags=false:=by
          simp only[Iq,List.pairwise_append]at hs
          exact hs.1.2.2 w hw y (by simp)
         rcases oV y.tags x.tags with a | a | a
         · rw[lex_trans a h]at hwy;cases hwy
         · rw[a,h]at hwy;cases hwy
         · rw[a]at hc;cases hc
     · rw[List.mem_singleton.1 hw];exact hc
 · rintro st ⟨p,q,rfl,h1,h2,h3⟩
   have p0:p=[]:=List.eq_nil_of_length_eq_zero (by omega)
   subst p0
   simp only[List.nil_append]at h2
   subst h2
   refine⟨(.exit 2,isS (x::(q++rest)) b i (I 0)),?_,by simp,x::q,I 0,rfl,fin [] q rfl h3 (fun y hy=>by cases hy)⟩
   simp only[isS,zC,List.nil_append,List.length_nil]
   simp(disch:=omega)only[go_sem,K.aN,↓reduceIte,Nat.reduceAdd,Nat.reduceSub]
def ag9(l:List World)(k:Nat)(st:St):Prop:=
 ∃l':List World,st=isS l' l.length (1+(k:Int)) .und∧l'.Perm l∧Iq (l'.take (1+k))
theorem OQ(l:List World)(hz:∀w∈l,w.sz)(hl:l.length≤1000){k:Nat}(hk:k<l.length-1){st:St}(hP:ag9 l k st):
 ∃st',fG true [5] st.H.length (exS aE K.aX st)=some st'∧ag9 l (k+1) st':=by
 obtain⟨l',rfl,pm,so⟩:=hP
 have ln:=pm.length_eq
 have sp:l'=l'.take (1+k)++nth l' (1+k)::l'.drop (1+k+1):=by
  conv=>lhs;rw[← List.take_append_drop (1+k) l']
  rw[List.drop_eq_getElem_cons (by omega),bG (List.getElem?_eq_getElem (by omega))]
 have l0:(l'.take (1+k)).length=1+k:=by rw[List.length_take];omega
 obtain⟨l1,z,h,p1,s1⟩:=Ry l.length (1+(k:Int)) (l'.take (1+k)) (l'.drop (1+k+1)) (nth l' (1+k)) so (fun w hw=>hz w (pm.mem_iff.1 (by rw[sp];exact hw))) (by rw[← sp];omega)
 rw[← sp,l0]at h
 have l1n:l1.length=1+k+1:=by rw[p1.length_eq,List.length_append,l0];rfl
 have tl:(l1++l'.drop (1+k+1)).length=l'.length:=by rw[List.length_append,l1n,List.length_drop];omega
 refine⟨isS (l1++l'.drop (1+k+1)) l.length (1+((k+1:Nat):Int)) .und,?_,_,rfl,?_,?_⟩
 · generalize (l1++l'.drop (1+k+1))=L at*
   clear sp
   simp only[isS,zC]at*
   have e:((1+k:Nat):Int)=1+(k:Int):=by omega
   rw[e]at h
   have e2:(1:Int)+((k+1:Nat):Int)=1+(k:Int)+1:=by omega
   rw[e2,tl]
   rw[tl]at h
   have lt:(1:Int)+k<l.length:=by omega
   simp(disch:=omega)only[go_sem,K.aX,↓reduceIte,h,Nat.reduceAdd,Nat.reduceSub]
 · have:(l1++l'.drop (1+k+1)).Perm l':=by
    conv=>rhs;rw[sp]
    rw[show l'.take (1+k)++nth l' (1+k)::l'.drop (1+k+1)=(l'.take (1+k)++[nth l' (1+k)])++l'.drop (1+k+1)by simp]
    exact List.Perm.append_right _ p1
   exact this.trans pm
 · rw[show 1+(k+1)=l1.length by omega,List.take_left']
   · exact s1
   · rfl
theorem OR(l:List World)(hz:∀w∈l,w.sz)(hl:l.length≤1000):
 ∃l',aE 0 N.ay [.ref 0 0 l.length,I 0,I l.length,.fn N.bf []] [zC l]=some (.tup [],[zC l'])∧l'.Perm l∧Iq l':=by
 by_cases h0:l.length=0
 · have e:l=[]:=List.eq_nil_of_length_eq_zero h0
   subst e
   refine⟨[],?_,List.Perm.refl _,List.Pairwise.nil⟩
   refine ak K.bU rfl ?_
   have lp:∀z5,exS aE K.cD ⟨[.ref 0 0 0,I 0,I 0,.fn N.bf [],I 1,z5],[.arr 2 false 0 []]⟩=some (.exit 0,⟨[.ref 0 0 0,I 0,I 0,.fn N.bf [],I 1,.und],[.arr 2 false 0 []]⟩):=by
    intro z5
    refine yq (cN ?_ (by simp))
    simp(disch:=omega)only[go_sem,K.aX,↓reduceIte,Nat.reduceAdd,Nat.reduceSub]
   simp only[zC,List.map_nil,List.length_nil]
   simp(disch:=omega)only[go_sem,K.ay,↓reduceIte,lp,Nat.reduceAdd,Nat.reduceSub]
 · have key:=fun z5:D=>Og (gc:=true) (dead:=[5]) (c:=K.aX) (vs:=[.ref 0 0 l.length,I 0,I l.length,.fn N.bf [],I 1,z5]) (H:=[zC l])
    (ag9 l) (l.length-1) (fun r=>∃l':List World,r=(.exit 0,isS l' l.length l.length .und)∧l'.Perm l∧Iq l') ⟨l,rfl,List.Perm.refl _,by
     match l with
     | []=>exact List.Pairwise.nil
     | x::r=>simp⟩ (fun j st hj hP=> .inl (OQ l hz hl hj hP)) (by
     rintro st ⟨l',rfl,pm,so⟩
     have ln:=pm.length_eq
     have e:(1:Int)+((l.length-1:Nat):Int)=l.length:=by omega
     rw[e]
     rw[List.take_of_length_le (by omega)]at so
     refine⟨(.exit 0,isS l' l.length l.length .und),?_,by simp,l',rfl,pm,so⟩
     simp only[isS,zC]
     simp(disch:=omega)only[go_sem,K.aX,↓reduceIte,Nat.reduceAdd,Nat.reduceSub]
     )
   obtain⟨r,hr,l',rfl,pm,so⟩:=key .und
   refine⟨l',?_,pm,so⟩
   refine ak K.bU rfl ?_
   have ln:=pm.length_eq
   have hr:exS aE K.cD _=_:=hr
   simp only[isS,zC,ln]at hr ⊢
   simp(disch:=omega)only[go_sem,K.ay,↓reduceIte,hr,Nat.reduceAdd,Nat.reduceSub]
theorem OS(l:List World)(hz:∀w∈l,w.sz)(hl:l.length<20):
 ∃l',aE 0 N.aQ [.ref 0 0 l.length,I l.length,.fn N.bf []] [zC l]=some (.tup [],[zC l'])∧l'.Perm l∧Iq l':=by
 obtain⟨l',h,pm,so⟩:=OR l hz (by omega)
 refine⟨l',?_,pm,so⟩
 refine ak K.et rfl ?_
 have ln:=pm.length_eq
 have e1:∀z6:D,exS aE K.gU ⟨[.ref 0 0 l.length,I l.length,.fn N.bf [],I 20,I 0,I 20,z6],[zC l]⟩=some (.exit 0,⟨[.ref 0 0 l.length,I l.length,.fn N.bf [],I 20,I 0,I 20,.und],[zC l]⟩):=by
  intro z6
  refine yq (cN ?_ (by simp))
  simp only[zC]
  simp(disch:=omega)only[go_sem,K.gG,↓reduceIte,Nat.reduceAdd,Nat.reduceSub]
 have e2:∀z4 z5 z6:D,exS aE K.gV ⟨[.ref 0 0 l.length,I l.length,.fn N.bf [],I 20,z4,z5,z6],[zC l']⟩=some (.exit 2,⟨[.ref 0 0 l.length,I l.length,.fn N.bf [],I 20,.und,.und,.und],[zC l']⟩):=by
  intro z4 z5 z6
  refine yq (cN ?_ (by simp))
  simp only[zC]
  simp(disch:=omega)only[go_sem,K.gH,↓reduceIte,Nat.reduceAdd,Nat.reduceSub]
 simp only[zC]at*
 simp(disch:=omega)only[go_sem,K.aQ,↓reduceIte,e1,e2,h,Nat.reduceAdd,Nat.reduceSub]
theorem DX(l:List World)(hz:∀w∈l,w.sz)(hl:l.length<20):
 ∃l',aE 0 N.aA [.ref 0 0 l.length,.fn N.bf []] [zC l]=some (.tup [],[zC l'])∧l'.Perm l∧Iq l':=by
 obtain⟨l',h,pm,so⟩:=OS l hz hl
 refine⟨l',?_,pm,so⟩
 refine ak K.cm rfl ?_
 simp only[zC]at*
 simp(disch:=omega)only[go_sem,K.aA,↓reduceIte,h,Nat.reduceAdd,Nat.reduceSub]
theorem Ln(l:List World)(hz:∀w∈l,w.sz)(h0:0<l.length)(hl:l.length<20):
 ∃l',aE 0 N.aI [.fn N.av [.bp 0 0],.fn N.bf []] [.box [.t (.sl (l.map World.e))]]=some (.t (.sl (l'.map World.e)),[.box [.t (.sl (l.map World.e))]])∧l'.Perm l∧Iq l':=by
 obtain⟨l',h,pm,so⟩:=DX l hz hl
 refine⟨l',?_,pm,so⟩
 refine ak K.dA rfl ?_
 have c:=Ip l h0 (by omega)
 have ln:=pm.length_eq
 simp only[zC]at*
 simp(disch:=omega)only[go_sem,K.aI,↓reduceIte,c,h,ln,Nat.reduceAdd,Nat.reduceSub]
end Go.Ev
namespace Go.Ev
open Go
variable [Lib] [bW] [bL] [fJ] [eY] [jB] [fM] [fN] [iI] [gu]
end Go.Ev
namespace Go.Ev
open Go
variable [Lib] [bW] [bL] [fJ] [eY] [jB] [fM] [fN] [iI] [gu] [ec] [du]
theorem Lo{l:List Int}{i j:Nat}(hi:i<l.length)(hj:j<l.length):(Lb l i j).Perm l:=by
 have:=Array.swap_perm (xs:=l.toArray) (i:=i) (j:=j) (by simpa using hi) (by simpa using hj)
 rw[Array.perm_iff_toList_perm]at this
 unfold Lb
 rw[bG (List.getElem?_eq_getElem hi),bG (List.getElem?_eq_getElem hj)]
 simpa [Array.swap]using this
theorem xR{m:aM}{l:List Wh}(hl:∀w∈l,dg m w=true)(i:Nat){x:Wh}(hx:i<l.length→dg m x=true):∀w∈l.set i x,dg m w=true:=by
 intro w hw
 by_cases h:i<l.length
 · rcases List.mem_or_eq_of_mem_set hw with a | rfl
   · exact hl w a
   · exact hx h
 · rw[List.set_eq_of_length_le (by omega)]at hw;exact hl w hw
theorem Bp{m:aM}(h:m.ok){w:Wh}(hv:dg m w=true)(t:Int):dg m (nN w t).1=true:=by
 unfold nN
 split
 · exact hv
 · obtain⟨a,b,c, -⟩:=cJ hv
   have cl:=AZ h hv
   unfold inT at b
   exact AY h a (by simp only;unfold inT;omega) c (Jv (t':=t) (by omega) cl)
theorem OT{m:aM}{first:List Int}{x:World}(h:WV m first x)(tag:Int){w:Wh}(hw:(b6 x.tags tag).toNat<x.whr.length→dg m w=true):WV m first (Ie tag x w):=
 ⟨h.pm,by simp[Ie,h.wl],xR h.wv _ hw⟩
def aeL(m:aM)(tag:Int)(l:List Int)(a b:Int)(x:World):Option World:=
 if(CQ m tag l a b x).2=43 then none else some (if(CQ m tag l a b x).2=0 then Ie tag x (CQ m tag l a b x).1 else x)
theorem JO(m:aM)(tag:Int)(l:List Int)(a b:Int)(ws:List World):∀j,j≤ws.length→oT m tag l a b ws j=(ws.take j).filterMap (aeL m tag l a b)
 | 0,_=>by simp[oT]
 | j+1,h=>by
   rw[jQ (by omega),List.filterMap_append]
   simp only[oT,JO m tag l a b ws j (by omega),Gb,aeL,List.filterMap_cons,List.filterMap_nil]
   split<;>simp_all
theorem JP(m:aM)(tag:Int)(l:List Int)(a b bl:Int)(ws:List World):∀j,j≤ws.length→qy m tag l a b bl ws j=(ws.take j).map fun x=>if(CR m tag l a b bl x).2=0 then Ie tag x (CR m tag l a b bl x).1 else x
 | 0,_=>by simp[qy]
 | j+1,h=>by
   rw[jQ (by omega),List.map_append]
   simp only[qy,JP m tag l a b bl ws j (by omega),Ig,List.map_cons,List.map_nil]
theorem Ir{m:aM}(hm:m.ok){first:List Int}{tag:Int}{l:List Int}{a b:Int}{x y:World}(h:WV m first x)(e:aeL m tag l a b x=some y):WV m first y∧y.tags=x.tags:=by
 unfold aeL at e
 split at e
 · cases e
 · simp only[Option.some.injEq]at e
   subst e
   split
   · exact⟨OT h tag fun hl=>OL hm (h.wv _ (ae hl)) l a b,rfl⟩
   · exact⟨h,rfl⟩
theorem acj{m:aM}(hm:m.ok){first:List Int}{ws:List World}(h:BV m first ws)(tag:Int)(l:List Int)(a b:Int):BV m first (oT m tag l a b ws ws.length):=by
 rw[JO m tag l a b ws _ (Nat.le_refl _),List.take_length]
 refine⟨h.pr,h.f1,h.f2,fun y hy=>?_,?_⟩
 · obtain⟨x,hx,e⟩:=List.mem_filterMap.1 hy
   exact(Ir hm (h.wv x hx) e).1
 · rw[List.pairwise_filterMap]
   refine(List.Pairwise.imp_of_mem ?_ h.up)
   intro x y hx hy hxy x' ex y' ey
   rw[(Ir hm (h.wv x hx) ex).2,(Ir hm (h.wv y hy) ey).2]
   exact hxy
theorem ack{m:aM}(hm:m.ok){first:List Int}{ws:List World}(h:BV m first ws)(tag:Int)(l:List Int)(a b bl:Int):BV m first (qy m tag l a b bl ws ws.length):=by
 rw[JP m tag l a b bl ws _ (Nat.le_refl _),List.take_length]
 have tg:∀x:World,(if(CR m tag l a b bl x).2=0 then Ie tag x (CR m tag l a b bl x).1 else x).tags=x.tags:=by
  intro x;split<;>rfl
 refine⟨h.pr,h.f1,h.f2,fun y hy=>?_,?_⟩
 · obtain⟨x,hx,rfl⟩:=List.mem_map.1 hy
   have wx:=h.wv x hx
   split
   · exact OT wx tag fun hl=>OO hm (wx.wv _ (ae hl)) l a b bl
   · exact wx
 · rw[List.pairwise_map]
   refine h.up.imp fun{x y} hxy=>?_
   rw[tg,tg];exact hxy
theorem Rz{m:aM}(hm:m.ok){first:List Int}{x:World}(h:WV m first x){i j:Nat}(hi:i<first.length)(hj:j<first.length)(t:Int):WV m first (wz i j t x):=by
 have wl:=h.wl
 have tl:=h.pm.length_eq
 refine⟨(Lo (by omega) (by omega)).trans h.pm,by simp[wz,wl],?_⟩
 exact xR (xR h.wv i fun hl=>Bp hm (h.wv _ (ae hl)) t) j fun hl=>Bp hm (h.wv _ (ae (by simpa using hl))) t
theorem xS{m:aM}(hm:m.ok){first:List Int}{ws:List World}(h:∀x∈ws,WV m first x){i j:Nat}(hi:i<first.length)(hj:j<first.length)(t:Int):∀k,k≤ws.length→∀x∈jy i j t ws k,WV m first x
 | 0,_,x,hx=>h x hx
 | k+1,hk,x,hx=>by
   simp only[jy,Bi]at hx
   split at hx
   · rcases List.mem_append.1 hx with hx | hx
     · exact xS hm h hi hj t k (by omega) x hx
     · rw[List.mem_singleton.1 hx]
       exact Rz hm (h _ (ae (by omega))) hi hj t
   · exact xS hm h hi hj t k (by omega) x hx
theorem wB{m:aM}(hm:m.ok){a b:List Wh}(ha:∀w∈a,dg m w=true)(hb:∀w∈b,dg m w=true):∀p,p≤a.length→p≤b.length→∀w∈jU a b p,dg m w=true
 | 0,_,_,w,hw=>ha w hw
 | p+1,h1,h2,w,hw=>by
   refine xR (wB hm ha hb p (by omega) (by omega)) p (fun _=>?_) w hw
   exact(Lj hm (ha _ (ae (by omega))) (hb _ (ae (by omega)))).2.1
theorem DY{out:List World}{x:World}{k:Nat}(h:k<cT out x):lexB (nth out k).tags x.tags=true:=by
 unfold cT at h
 split at h
 · rename_i j hf
   rw[List.find?_range_eq_some]at hf
   have:=hf.2.2 k h
   rw[← pA];simpa using this
 · rename_i hf
   have:=List.find?_eq_none.1 hf k (List.mem_range.2 h)
   rw[← pA];simpa using this
theorem Ad{out:List World}{x:World}(h:cT out x<out.length):lexB (nth out (cT out x)).tags x.tags=false:=by
 unfold cT at h ⊢
 split
 · rename_i j hf
   rw[List.find?_range_eq_some]at hf
   have:=hf.1
   rw[← pA];simpa using this
 · rename_i hf
   rw[hf]at h;simp at h
theorem pB{m:aM}(hm:m.ok){first:List Int}{out:List World}(h:BV m first out){x:World}(hx:WV m first x):BV m first (i5 out x):=by
 have kl:=xK out x
 unfold i5
 split
 · rename_i c
   obtain⟨c1,c2⟩:=c
   have wk:=h.wv _ (ae c1)
   have w1:=wk.wl
   have w2:=hx.wl
   refine⟨h.pr,h.f1,h.f2,fun y hy=>?_,?_⟩
   · rcases List.mem_or_eq_of_mem_set hy with a | rfl
     · exact h.wv y a
     · exact⟨hx.pm,by rw[iM,i4];exact w1,wB hm wk.wv hx.wv _ (by omega) (by omega)⟩
   · have u:=h.up
     rw[← List.pairwise_map (f:=World.tags) (R:=fun a b=>lexB a b=true)]at u ⊢
     rw[List.map_set]
     have e:(out.map World.tags).set (cT out x) x.tags=out.map World.tags:=by
      apply List.ext_getElem?
      intro i
      by_cases hi:cT out x=i
      · rw[← hi,List.getElem?_set_self (by simpa using c1),List.getElem?_map,fQ c1,←c2];rfl
      · rw[List.getElem?_set_ne hi]
     rw[e];exact u
 · rename_i c
   refine⟨h.pr,h.f1,h.f2,fun y hy=>?_,?_⟩
   · simp only[List.mem_append,List.mem_singleton]at hy
     rcases hy with(hy | rfl) | hy
     · exact h.wv y (List.mem_of_mem_take hy)
     · exact hx
     · exact h.wv y (List.mem_of_mem_drop hy)
   · have u:=h.up
     have lo:∀y∈out.take (cT out x),lexB y.tags x.tags=true:=by
      intro y hy
      obtain⟨i,hi⟩:=List.mem_iff_getElem?.1 hy
      have il:=(List.getElem?_eq_some_iff.1 hi).1
      rw[List.length_take]at il
      rw[List.getElem?_take_of_lt (by omega)]at hi
      have:=DY (out:=out) (x:=x) (k:=i) (by omega)
      rwa [bG hi]at this
     have hi:∀y∈out.drop (cT out x),lexB x.tags y.tags=true:=by
      intro y hy
      obtain⟨i,hi⟩:=List.mem_iff_getElem?.1 hy
      have il:=(List.getElem?_eq_some_iff.1 hi).1
      rw[List.length_drop]at il
      rw[List.getElem?_drop]at hi
      have c1:cT out x<out.length:=by omega
      have at_:=Ad c1
      have ne:(nth out (cT out x)).tags≠x.tags:=fun e=>c ⟨c1,e⟩
      have first_:lexB x.tags (nth out (cT out x)).tags=true:=by
       rcases oV (nth out (cT out x)).tags x.tags with a | a | a
       · rw[a]at at_;cases at_
       · exact absurd a ne
       · exact a
      by_cases i0:i=0
      · subst i0
        rw[Nat.add_zero]at hi
        rwa [bG hi]at first_
      · have:=(List.pairwise_iff_getElem.1 u) (cT out x) (cT out x+i) (by omega) (by omega) (by omega)
        rw[← bG (List.getElem?_eq_getElem (by omega:cT out x<out.length)),←bG (List.getElem?_eq_getElem (by omega:cT out x+i<out.length)),bG hi]at this
        exact lex_trans first_ this
     have td:out.take (cT out x)++out.drop (cT out x)=out:=List.take_append_drop _ _
     have u2:=u
     rw[← td,List.pairwise_append]at u2
     rw[List.append_assoc,List.pairwise_append]
     refine⟨u2.1,?_,fun y hy z hz=>?_⟩
     · rw[List.singleton_append,List.pairwise_cons];exact⟨hi,u2.2.1⟩
     · simp only[List.singleton_append,List.mem_cons]at hz
       rcases hz with rfl | hz
       · exact lo y hy
       · exact u2.2.2 y hy z hz
theorem DZ{m:aM}(hm:m.ok){first:List Int}(pr:fy first=true)(f1:1≤first.length)(f2:first.length≤12){l:List World}(hl:∀x∈l,WV m first x):∀j,j≤l.length→BV m first (o6 l j)
 | 0,_=>⟨pr,f1,f2,fun x hx=>by simp[o6]at hx,by simp[o6]⟩
 | j+1,h=>pB hm (DZ hm pr f1 f2 hl j (by omega)) (hl _ (ae (by omega)))
def lookW(out:List World)(t:List Int):Option (List Wh):=(out.find? fun w=>decide (w.tags=t)).map World.whr
abbrev UpW(out:List World):Prop:=out.Pairwise fun x y=>lexB x.tags y.tags=true
theorem zv{a b:List Int}(h:lexB a b=true):a≠b:=fun e=>by rw[e,lex_irrefl]at h;cases h
theorem mh{out:List World}{t:List Int}(h:∀w∈out,w.tags≠t):lookW out t=none:=by
 unfold lookW
 rw[List.find?_eq_none.2 fun w hw=>by simpa using h w hw];rfl
theorem jW:∀ {out:List World},UpW out→∀ {w:World},w∈out→lookW out w.tags=some w.whr
 | x::r,h,w,hw=>by
   unfold lookW
   rw[List.find?_cons]
   by_cases e:x.tags=w.tags
   · simp only[e,decide_true]
     rcases List.mem_cons.1 hw with rfl | hw
     · rfl
     · exact absurd e (zv ((List.pairwise_cons.1 h).1 w hw))
   · simp only[e,decide_false]
     rcases List.mem_cons.1 hw with rfl | hw
     · exact absurd rfl e
     · exact jW (List.pairwise_cons.1 h).2 hw
theorem CU(out:List World)(t:List Int):(∃w∈out,w.tags=t)∨(∀w∈out,w.tags≠t):=by
 by_cases h:∃w∈out,w.tags=t
 · exact .inl h
 · exact .inr fun w hw e=>h ⟨w,hw,e⟩
theorem OU{out:List World}{t:List Int}{l:List Wh}(h:lookW out t=some l):∃w∈out,w.tags=t∧w.whr=l:=by
 unfold lookW at h
 obtain⟨w,hw,rfl⟩:=Option.map_eq_some_iff.1 h
 exact⟨w,List.mem_of_find?_eq_some hw,by simpa using List.find?_some hw,rfl⟩
theorem Gs{x:World}{r:List World}{t:List Int}(h:x.tags≠t):lookW (x::r) t=lookW r t:=by
 unfold lookW;rw[List.find?_cons];simp only[h,decide_false]
theorem JQ:∀ {a b:List World},UpW a→UpW b→(∀t,lookW a t=lookW b t)→a=b
 | [],[],_,_,_=>rfl
 | [],y::s,_,hb,h=>by
   have:=h y.tags
   rw[jW hb List.mem_cons_self]at this
   cases this
 | x::r,[],ha,_,h=>by
   have:=h x.tags
   rw[jW ha List.mem_cons_self]at this
   cases this
 | x::r,y::s,ha,hb,h=>by
   obtain⟨a1,a2⟩:=List.pairwise_cons.1 ha
   obtain⟨b1,b2⟩:=List.pairwise_cons.1 hb
   have hx:=h x.tags
   rw[jW ha List.mem_cons_self]at hx
   have hy:=h y.tags
   rw[jW hb List.mem_cons_self]at hy
   rcases oV x.tags y.tags with c | c | c
   · rw[mh]at hx
     · cases hx
     · intro w hw e
       rcases List.mem_cons.1 hw with rfl | hw
       · rw[e,lex_irrefl]at c;cases c
       · have:=lex_trans c (b1 w hw)
         rw[e,lex_irrefl]at this;cases this
   · have tl:r=s:=JQ a2 b2 fun t=>by
      by_cases e:x.tags=t
      · rw[mh fun w hw e2=>zv (a1 w hw) (e.trans e2.symm),mh fun w hw e2=>zv (b1 w hw) (c.symm.trans (e.trans e2.symm))]
      · have:=h t
        rwa [Gs e,Gs (fun e2=>e (c.trans e2))]at this
     rw[c,jW hb List.mem_cons_self]at hx
     obtain⟨xt,xw⟩:=x
     obtain⟨yt,yw⟩:=y
     simp only at c hx
     cases hx
     rw[c,tl]
   · rw[mh]at hy
     · cases hy
     · intro w hw e
       rcases List.mem_cons.1 hw with rfl | hw
       · rw[e,lex_irrefl]at c;cases c
       · have:=lex_trans c (a1 w hw)
         rw[e,lex_irrefl]at this;cases this
theorem WX{out:List World}{x:World}:∀y∈out.take (cT out x),lexB y.tags x.tags=true:=by
 intro y hy
 have kl:=xK out x
 obtain⟨i,hi⟩:=List.mem_iff_getElem?.1 hy
 have il:=(List.getElem?_eq_some_iff.1 hi).1
 rw[List.length_take]at il
 rw[List.getElem?_take_of_lt (by omega)]at hi
 have:=DY (out:=out) (x:=x) (k:=i) (by omega)
 rwa [bG hi]at this
theorem WY{out:List World}{x:World}(u:UpW out)(c:¬(cT out x<out.length∧(nth out (cT out x)).tags=x.tags)):∀y∈out.drop (cT out x),lexB x.tags y.tags=true:=by
 intro y hy
 obtain⟨i,hi⟩:=List.mem_iff_getElem?.1 hy
 have il:=(List.getElem?_eq_some_iff.1 hi).1
 rw[List.length_drop]at il
 rw[List.getElem?_drop]at hi
 have c1:cT out x<out.length:=by omega
 have at_:=Ad c1
 have first_:lexB x.tags (nth out (cT out x)).tags=true:=by
  rcases oV (nth out (cT out x)).tags x.tags with a | a | a
  · rw[a]at at_;cases at_
  · exact absurd ⟨c1,a⟩ c
  · exact a
 by_cases i0:i=0
 · subst i0
   rw[Nat.add_zero]at hi
   rwa [bG hi]at first_
 · have:=(List.pairwise_iff_getElem.1 u) (cT out x) (cT out x+i) (by omega) (by omega) (by omega)
   rw[← bG (List.getElem?_eq_getElem (by omega:cT out x<out.length)),←bG (List.getElem?_eq_getElem (by omega:cT out x+i<out.length)),bG hi]at this
   exact lex_trans first_ this
def aha(x:World):Option (List Wh)→List Wh
 | none=>x.whr
 | some w=>iM w x.whr
theorem xT{m:aM}(hm:m.ok){first:List Int}{out:List World}(h:BV m first out){x:World}(hx:WV m first x)(t:List Int):
 lookW (i5 out x) t=if t=x.tags then some (aha x (lookW out t))else lookW out t:=by
 have bv:=(pB hm h hx).up
 have u:=h.up
 unfold i5 at bv ⊢
 by_cases c:cT out x<out.length∧(nth out (cT out x)).tags=x.tags
 · rw[if_pos c]at bv ⊢
   obtain⟨c1,c2⟩:=c
   have mk:nth out (cT out x)∈out:=ae c1
   have ms:(⟨x.tags,iM (nth out (cT out x)).whr x.whr⟩:World)∈out.set (cT out x) ⟨x.tags,iM (nth out (cT out x)).whr x.whr⟩:=
    List.mem_iff_getElem?.2 ⟨cT out x,List.getElem?_set_self c1⟩
   by_cases e:t=x.tags
   · rw[if_pos e,e,jW bv ms,←c2,jW u mk]
     rfl
   · rw[if_neg e]
     rcases CU out t with⟨w,hw,rfl⟩ | hn
     · rw[jW u hw]
       obtain⟨i,hi⟩:=List.mem_iff_getElem?.1 hw
       refine jW bv (List.mem_iff_getElem?.2 ⟨i,?_⟩)
       rw[List.getElem?_set_ne,hi]
       intro e2
       rw[← e2]at hi
       rw[bG hi]at c2
       exact e c2
     · rw[mh hn,mh]
       intro w hw
       rcases List.mem_or_eq_of_mem_set hw with hw | rfl
       · exact hn w hw
       · exact fun e2=>e e2.symm
 · rw[if_neg c]at bv ⊢
   have lo:=WX (out:=out) (x:=x)
   have hi:=WY u c
   have td:out.take (cT out x)++out.drop (cT out x)=out:=List.take_append_drop _ _
   have mem:∀w,w∈out.take (cT out x)++[x]++out.drop (cT out x)↔w=x∨w∈out:=by
    intro w
    conv=>rhs;rw[← td]
    simp only[List.mem_append,List.mem_singleton]
    constructor
    · rintro ((a | a) | a)
      · exact .inr (.inl a)
      · exact .inl a
      · exact .inr (.inr a)
    · rintro (a | a | a)
      · exact .inl (.inr a)
      · exact .inl (.inl a)
      · exact .inr a
   have nx:∀w∈out,w.tags≠x.tags:=by
    intro w hw
    rw[← td]at hw
    rcases List.mem_append.1 hw with hw | hw
    · exact zv (lo w hw)
    · exact fun e=>zv (hi w hw) e.symm
   by_cases e:t=x.tags
   · rw[if_pos e,e,mh nx,jW bv ((mem x).2 (.inl rfl))]
     rfl
   · rw[if_neg e]
     rcases CU out t with⟨w,hw,rfl⟩ | hn
     · rw[jW u hw,jW bv ((mem w).2 (.inr hw))]
     · rw[mh hn,mh]
       intro w hw
       rcases (mem w).1 hw with rfl | hw
       · exact fun e2=>e e2.symm
       · exact hn w hw
structure SH(n p:Nat)(l:List Wh):Prop where
 ln:l.length=n
 fr:∀w∈l,w.frm.length=p
theorem TC{a b:Wh}(ht:a.time=b.time)(hl:a.frm.length=b.frm.length)(h:∀j,j<a.frm.length→nth a.frm j=nth b.frm j):a=b:=by
 obtain⟨t,f⟩:=a
 obtain⟨t2,f2⟩:=b
 simp only at ht hl h
 rw[ht,rC hl h]
theorem r5{a b:Wh}(h:a.frm.length=b.frm.length):(jS a b).1.time=max a.time b.time∧(jS a b).1.frm.length=a.frm.length∧∀j,j<a.frm.length→nth (jS a b).1.frm j=min (nth a.frm j) (nth b.frm j):=by
 unfold jS
 rw[if_pos h]
 exact⟨rfl,mQ _ _ _,fun j hj=>DW a.frm b.frm a.frm.length j hj⟩
theorem JR(a b:List Wh):∀p,p≤a.length→∀i,i<p→nth (jU a b p) i=(jS (nth a i) (nth b i)).1
 | 0,_,i,h=>by omega
 | p+1,hp,i,h=>by
   simp only[jU]
   rw[p7 _ _ (by rw[i4];omega)]
   split
   · rename_i e;rw[e]
   · exact JR a b p (by omega) i (by omega)
theorem qA{n p:Nat}{a b:List Wh}(ha:SH n p a)(hb:SH n p b):SH n p (iM a b)∧∀i,i<n→nth (iM a b) i=(jS (nth a i) (nth b i)).1:=by
 have l1:=ha.ln
 have l2:=hb.ln
 have e:iM a b=jU a b n:=by unfold iM;rw[l1,l2,Nat.min_self]
 have at_:=JR a b n (by omega)
 rw[e]
 refine⟨⟨by rw[i4];exact l1,fun w hw=>?_⟩,at_⟩
 obtain⟨i,hi⟩:=List.mem_iff_getElem?.1 hw
 have il:=(List.getElem?_eq_some_iff.1 hi).1
 rw[i4]at il
 rw[← bG hi,at_ i (by omega),(r5 (by rw[ha.fr _ (ae (by omega)),hb.fr _ (ae (by omega))])).2.1]
 exact ha.fr _ (ae il)
theorem Is{n p:Nat}{a b:List Wh}(ha:SH n p a)(hb:SH n p b):iM a b=iM b a:=by
 obtain⟨s1,n1⟩:=qA ha hb
 obtain⟨s2,n2⟩:=qA hb ha
 refine rC (by rw[s1.ln,s2.ln]) fun i hi=>?_
 rw[s1.ln]at hi
 rw[n1 i hi,n2 i hi]
 have fa:=ha.fr _ (ae (l:=a) (j:=i) (by rw[ha.ln];exact hi))
 have fb:=hb.fr _ (ae (l:=b) (j:=i) (by rw[hb.ln];exact hi))
 obtain⟨t1,l1,m1⟩:=r5 (a:=nth a i) (b:=nth b i) (by rw[fa,fb])
 obtain⟨t2,l2,m2⟩:=r5 (a:=nth b i) (b:=nth a i) (by rw[fa,fb])
 refine TC (by rw[t1,t2];omega) (by rw[l1,l2,fa,fb]) fun j hj=>?_
 rw[l1]at hj
 rw[m1 j hj,m2 j (by omega)];omega
theorem Gt{n p:Nat}{a b c:List Wh}(ha:SH n p a)(hb:SH n p b)(hc:SH n p c):iM (iM a b) c=iM (iM a c) b:=by
 obtain⟨s1,n1⟩:=qA ha hb
 obtain⟨s2,n2⟩:=qA ha hc
 obtain⟨s3,n3⟩:=qA s1 hc
 obtain⟨s4,n4⟩:=qA s2 hb
 refine rC (by rw[s3.ln,s4.ln]) fun i hi=>?_
 rw[s3.ln]at hi
 rw[n3 i hi,n4 i hi,n1 i hi,n2 i hi]
 have fa:=ha.fr _ (ae (l:=a) (j:=i) (by rw[ha.ln];exact hi))
 have fb:=hb.fr _ (ae (l:=b) (j:=i) (by rw[hb.ln];exact hi))
 have fc:=hc.fr _ (ae (l:=c) (j:=i) (by rw[hc.ln];exact hi))
 obtain⟨t1,l1,m1⟩:=r5 (a:=nth a i) (b:=nth b i) (by rw[fa,fb])
 obtain⟨t2,l2,m2⟩:=r5 (a:=nth a i) (b:=nth c i) (by rw[fa,fc])
 obtain⟨t3,l3,m3⟩:=r5 (a:=(jS (nth a i) (nth b i)).1) (b:=nth c i) (by rw[l1,fa,fc])
 obtain⟨t4,l4,m4⟩:=r5 (a:=(jS (nth a i) (nth c i)).1) (b:=nth b i) (by rw[l2,fa,fb])
 refine TC (by rw[t3,t4,t1,t2];omega) (by rw[l3,l4,l1,l2]) fun j hj=>?_
 rw[l3,l1]at hj
 rw[m3 j (by omega),m4 j (by omega),m1 j (by omega),m2 j (by omega)];omega
theorem WV.sh{m:aM}{first:List Int}{x:World}(h:WV m first x):SH first.length m.places.length x.whr:=
 ⟨h.wl,fun w hw=>(cJ (h.wv w hw)).1⟩
theorem Lp{m:aM}(hm:m.ok){first:List Int}{out:List World}(h:BV m first out){x y:World}(hx:WV m first x)(hy:WV m first y):i5 (i5 out x) y=i5 (i5 out y) x:=by
 have bx:=pB hm h hx
 have by_:=pB hm h hy
 refine JQ (pB hm bx hy).up (pB hm by_ hx).up fun t=>?_
 rw[xT hm bx hy,xT hm by_ hx,xT hm h hx,xT hm h hy]
 by_cases e1:t=x.tags
 · by_cases e2:t=y.tags
   · rw[if_pos e2,if_pos e1,if_pos e1,if_pos e2]
     congr 1
     have sx:=hx.sh
     have sy:=hy.sh
     cases hl:lookW out t with
     | none=>exact Is sx sy
     | some w=>
       obtain⟨z,hz, -,rfl⟩:=OU hl
       exact Gt (h.wv z hz).sh sx sy
   · rw[if_neg e2,if_pos e1,if_pos e1,if_neg e2]
 · by_cases e2:t=y.tags
   · rw[if_pos e2,if_neg e1,if_neg e1,if_pos e2]
   · rw[if_neg e2,if_neg e1,if_neg e1,if_neg e2]
theorem CV(l:List World):∀j,j≤l.length→o6 l j=(l.take j).foldl i5 []
 | 0,_=>by simp[o6]
 | j+1,h=>by
   rw[jQ (by omega),List.foldl_append]
   simp only[o6,CV l j (by omega),List.foldl_cons,List.foldl_nil]
theorem uA(l:List World):lY l=l.foldl i5 []:=by
 unfold lY;rw[CV l _ (Nat.le_refl _),List.take_length]
theorem OV{m:aM}(hm:m.ok){first:List Int}{l l':List World}(p:l.Perm l'):(∀x∈l,WV m first x)→∀out,BV m first out→l.foldl i5 out=l'.foldl i5 out:=by
 induction p with
 | nil=>intro _ out _;rfl
 | cons x _ ih=>
   intro h out ho
   exact ih (fun y hy=>h y (List.mem_cons_of_mem _ hy)) _ (pB hm ho (h x List.mem_cons_self))
 | swap x y l=>
   intro h out ho
   simp only[List.foldl_cons]
   rw[Lp hm ho (h y List.mem_cons_self) (h x (List.mem_cons_of_mem _ List.mem_cons_self))]
 | trans p1 p2 ih1 ih2=>
   intro h out ho
   rw[ih1 h out ho,ih2 (fun y hy=>h y (p1.mem_iff.2 hy)) out ho]
theorem Lq{m:aM}(hm:m.ok){first:List Int}(pr:fy first=true)(f1:1≤first.length)(f2:first.length≤12){l l':List World}(p:l.Perm l')(h:∀x∈l,WV m first x):lY l=lY l':=by
 rw[uA,uA]
 exact OV hm p h [] ⟨pr,f1,f2,(fun x hx=>by cases hx),List.Pairwise.nil⟩
def r6(out:List World)(x:World):List World:=
 if 0<out.length∧(nth out (out.length-1)).tags=x.tags then out.set (out.length-1) ⟨x.tags,iM (nth out (out.length-1)).whr x.whr⟩else out++[x]
theorem CW{out:List World}{x:World}(u:UpW out)(h:0<out.length→lexB x.tags (nth out (out.length-1)).tags=false):i5 out x=r6 out x:=by
 have kl:=xK out x
 by_cases h0:0<out.length
 · have h:=h h0
   have ge:out.length-1≤cT out x:=by
    rcases Nat.lt_or_ge (cT out x) (out.length-1)with c | c
    · exfalso
      have at_:=Ad (out:=out) (x:=x) (by omega)
      have lt:=(List.pairwise_iff_getElem.1 u) (cT out x) (out.length-1) (by omega) (by omega) c
      rw[← bG (List.getElem?_eq_getElem (by omega:cT out x<out.length)),←bG (List.getElem?_eq_getElem (by omega:out.length-1<out.length))]at lt
      rcases oV (nth out (out.length-1)).tags x.tags with a | a | a
      · have:=lex_trans lt a
        rw[at_]at this;cases this
      · rw[a]at lt;rw[at_]at lt;cases lt
      · rw[h]at a;cases a
    · exact c
   unfold i5 r6
   by_cases e:cT out x=out.length-1
   · rw[e]
     by_cases c:(nth out (out.length-1)).tags=x.tags
     · rw[if_pos ⟨by omega,c⟩,if_pos ⟨h0,c⟩]
     · exfalso
       have at_:=Ad (out:=out) (x:=x) (by omega)
       rw[e]at at_
       rcases oV (nth out (out.length-1)).tags x.tags with a | a | a
       · rw[a]at at_;cases at_
       · exact c a
       · rw[h]at a;cases a
   · have e:cT out x=out.length:=by omega
     rw[e]
     have:¬(out.length<out.length∧(nth out out.length).tags=x.tags):=fun h=>by omega
     rw[if_neg this,List.take_length,List.drop_length,List.append_nil]
     have lt:=DY (out:=out) (x:=x) (k:=out.length-1) (by omega)
     rw[if_neg fun h=>zv lt h.2]
 · have e:out=[]:=List.eq_nil_of_length_eq_zero (by omega)
   subst e
   unfold i5 r6
   simp
end Go.Ev
namespace Go.Ev
open Go
variable [Lib] [bW] [bL] [fJ] [eY] [jB] [fM] [fN] [iI] [gu] [ec] [du] [iV] [eQ]
theorem Rp.more{H:ai}{id:Nat}{es:List D}{fa fb:Nat→Nat}{out:List World}(hr:Rp H id es fa fb out)(t:ai):Rp (H++t) id es fa fb out:=
 ⟨by rw[dT (gM hr.arr)];exact hr.arr,hr.len,hr.el,fun j hj=>by rw[dT (gM (hr.ha j hj))];exact hr.ha j hj,fun j hj=>by rw[dT (gM (hr.hb j hj))];exact hr.hb j hj,hr.na,hr.nb,hr.nab,hr.nbb⟩
theorem D0{α:Type} [Dat α](l:List α)(x:α)(j:Nat):nth (l++[x]) j=if j<l.length then nth l j else if j=l.length then x else Dat.dflt:=by
 unfold nth
 simp only[List.getD_eq_getElem?_getD]
 split
 · rw[List.getElem?_append_left (by assumption)]
 · split
   · rename_i e;rw[e,List.getElem?_append_right (Nat.le_refl _),Nat.sub_self];rfl
   · rw[List.getElem?_eq_none (by simp;omega)];rfl
theorem Rp.snoc{H:ai}{id:Nat}{es:List D}{fa fb:Nat→Nat}{out:List World}(hr:Rp H id es fa fb out)(x:World)(o o2:Obj):
 Rp (H.set id (.arr 2 false 0 (es++[.agg [.ref (H.length+1) 0 x.tags.length,.ref (H.length+2) 0 x.whr.length]]))++[o,.arr 1 false 0 (ints x.tags),.arr 2 false 0 (whs x.whr),o2]) id
  (es++[.agg [.ref (H.length+1) 0 x.tags.length,.ref (H.length+2) 0 x.whr.length]]) (fun j=>if j<out.length then fa j else H.length+1) (fun j=>if j<out.length then fb j else H.length+2) (out++[x]):=by
 have e2:=hr.len
 have il:=gM hr.arr
 have ba:∀j,j<out.length→fa j<H.length:=fun j hj=>gM (hr.ha j hj)
 have bb:∀j,j<out.length→fb j<H.length:=fun j hj=>gM (hr.hb j hj)
 have sl:∀o,(H.set id o).length=H.length:=fun o=>List.length_set
 have getN:∀(o3:Obj) (t:ai) (k:Nat),(H.set id o3++t)[H.length+k]?=t[k]?:=fun o3 t k=>by
  have:=fo (H:=H.set id o3) (t:=t) (k:=k)
  rwa [sl]at this
 refine⟨by rw[dT (by rw[sl];exact il),de il],by simp[e2],?_,?_,?_,?_,?_,?_,?_⟩
 · intro j hj
   rw[List.length_append,List.length_singleton]at hj
   rw[D0]
   by_cases h:j<out.length
   · simp only[if_pos h];rw[List.getElem?_append_left (by omega)];exact hr.el j h
   · have:j=out.length:=by omega
     subst this
     simp only[Nat.lt_irrefl,if_false,if_true]
     rw[List.getElem?_append_right (by omega),e2,Nat.sub_self];rfl
 · intro j hj
   rw[List.length_append,List.length_singleton]at hj
   rw[D0]
   by_cases h:j<out.length
   · simp only[if_pos h];rw[dT (by rw[sl];exact ba j h),bg (fun e=>hr.na j h e.symm)];exact hr.ha j h
   · have:j=out.length:=by omega
     subst this
     simp only[Nat.lt_irrefl,if_false,if_true]
     rw[getN];rfl
 · intro j hj
   rw[List.length_append,List.length_singleton]at hj
   rw[D0]
   by_cases h:j<out.length
   · simp only[if_pos h];rw[dT (by rw[sl];exact bb j h),bg (fun e=>hr.nb j h e.symm)];exact hr.hb j h
   · have:j=out.length:=by omega
     subst this
     simp only[Nat.lt_irrefl,if_false,if_true]
     rw[getN];rfl
 · intro j hj;split
   · exact hr.na j (by assumption)
   · omega
 · intro j hj;split
   · exact hr.nb j (by assumption)
   · omega
 · intro i j hi hj;split
   · rename_i h1
     have:=ba i h1
     split
     · exact hr.nab i j h1 (by assumption)
     · omega
   · split
     · rename_i h1
       have:=bb j h1
       omega
     · omega
 · intro i j hi hj hne
   rw[List.length_append,List.length_singleton]at hi hj
   split
   · rename_i h1
     have:=bb i h1
     split
     · exact hr.nbb i j h1 (by assumption) hne
     · omega
   · split
     · rename_i h1
       have:=bb j h1
       omega
     · omega
abbrev tdS(s:List World)(id:Nat)(n:Nat)(j:Int)(H:ai):St:=
 ⟨[.und,.und,.und,.ref id 0 n,.und,.und,.und,.t (.sl (s.map World.e)),I s.length,I j,.und,.und],H⟩
theorem WZ(s:List World)(j:Int)(x:World)(hsx:x.sz)(out:List World)(ho:out.length≤1000000)(h0:0<out.length)(hso:∀x∈out,x.sz)(H:ai)(id:Nat)(es:List D)(fa fb:Nat→Nat)
 (hr:Rp H id es fa fb out) (hl:x.whr.length=(nth out (out.length-1)).whr.length):∀z0 z1 z2 z6:D,
 exS aE K.vn ⟨[z0,z1,z2,.ref id 0 out.length,.bp H.length 0,I out.length,z6,.t (.sl (s.map World.e)),I s.length,I j,I x.whr.length,I 0],H++[.box [.t (tL x.tags),.t (.sl (x.whr.map Wh.e))]]⟩=
 some (.exit 2,⟨[.und,.und,.und,.ref id 0 out.length,.bp H.length 0,I out.length,.und,.t (.sl (s.map World.e)),I s.length,I j,I x.whr.length,I x.whr.length],
  H.set (fb (out.length-1)) (.arr 2 false 0 (whs (iM (nth out (out.length-1)).whr x.whr)))++[.box [.t (tL x.tags),.t (.sl (x.whr.map Wh.e))]]⟩):=by
 intro z0 z1 z2 z6
 have e1:=hr.arr
 have e2:=hr.len
 have e3:=hr.el (out.length-1) (by omega)
 have e5:=hr.hb (out.length-1) (by omega)
 have e6:=hr.nb (out.length-1) (by omega)
 have e7:=gM e5
 have e8:=gM e1
 obtain⟨s1,s2,s3⟩:=hso _ (ae (l:=out) (j:=out.length-1) (by omega))
 obtain⟨x1,x2,x3⟩:=hsx
 have ej:iM (nth out (out.length-1)).whr x.whr=jU (nth out (out.length-1)).whr x.whr x.whr.length:=by unfold iM;rw[hl,Nat.min_self]
 rw[ej]
 have ci:(out.length:Int)-1=((out.length-1:Nat):Int):=by omega
 generalize nth out (out.length-1)=y at*
 generalize out.length-1=k at*
 obtain⟨ta,wa⟩:=y
 obtain⟨tb,wb⟩:=x
 simp only at s1 s2 s3 x1 x2 x3 e3 e5 hl ⊢
 have jl:=i4 wa wb
 have sl:∀o,(H.set (fb k) o).length=H.length:=fun o=>List.length_set
 have q1:∀o,(H.set (fb k) o)[id]?=H[id]?:=fun o=>bg e6
 have q2:∀o,(H.set (fb k) o)[fb k]?=some o:=fun o=>de e7
 have q3:∀o (t:ai),(H.set (fb k) o++t)[H.length]?=t[0]?:=fun o t=>by
  have:=cF (H:=H.set (fb k) o) (t:=t)
  rwa [sl]at this
 have q4:∀o (t:ai),(H.set (fb k) o++t)[id]?=H[id]?:=fun o t=>by rw[dT (by rw[sl];exact e8),q1]
 have q5:∀o (t:ai),(H.set (fb k) o++t)[fb k]?=some o:=fun o t=>by rw[dT (by rw[sl];exact e7),q2]
 have q6:∀o o2 (t:ai),(H.set (fb k) o++t).set (fb k) o2=H.set (fb k) o2++t:=fun o o2 t=>by rw[sk (by rw[sl];exact e7),uv]
 refine bR (fun p=>⟨[.und,.und,.und,.ref id 0 out.length,.bp H.length 0,I out.length,.und,.t (.sl (s.map World.e)),I s.length,I j,I wb.length,I p],H.set (fb k) (.arr 2 false 0 (whs (jU wa wb p)))++[.box [.t (tL tb),.t (.sl (wb.map Wh.e))]]⟩) wb.length ?_ ?_ ?_ (by simp)
 · show(⟨_,H++_⟩:St)=⟨_,H.set (fb k) (.arr 2 false 0 (whs wa))++_⟩
   rw[Dy e5];rfl
 · intro p hp
   have jp:=jl p
   have jn:=Bg wa wb p p (Nat.le_refl _)
   have jo:=Rw (nth wa p) (nth wb p) (s3 _ (ae (by omega)))
   have hj:jU wa wb (p+1)=(jU wa wb p).set p (jS (nth wa p) (nth wb p)).1:=rfl
   rw[hj]
   generalize jU wa wb p=J at*
   generalize hu:nth wb p=u at*
   generalize nth wa p=w at*
   generalize jS w u=r at*
   obtain⟨⟨rt,rf⟩,re⟩:=r
   simp only at jo ⊢
   simp(disch:=omega)only[go_sem,K.oW,↓reduceIte,q3,q4,q5,q6,sl,e1,e2,e3,ci,hu,jn,jo,Nat.reduceAdd,Nat.reduceSub]
 · have jp:=jl wb.length
   generalize jU wa wb wb.length=J at*
   simp(disch:=omega)only[go_sem,K.oW,↓reduceIte,q3,q4,q5,q6,sl,Nat.reduceAdd,Nat.reduceSub]
theorem RA(s:List World)(hsl:s.length≤1000){j:Nat}(hj:j<s.length)(hx:(nth s j).sz)(out:List World)(ho:out.length≤100000)(hso:∀x∈out,x.sz)(H:ai)(id:Nat)(es:List D)(fa fb:Nat→Nat)
 (hr:Rp H id es fa fb out) (hl:0<out.length→(nth s j).whr.length=(nth out (out.length-1)).whr.length):
 ∃H' es' fa' fb',fG false [0,1,2,4,5,6,10,11] H.length (exS aE K.iG (tdS s id out.length j H))=some (tdS s id (r6 out (nth s j)).length ((j+1:Nat):Int) H')∧Rp H' id es' fa' fb' (r6 out (nth s j)):=by
 have e1:=hr.arr
 have e2:=hr.len
 have e8:=gM e1
 have ex:(s.map World.e)[j]?=some (nth s j).e:=bP _ hj
 have cw:=JN (nth s j) hx
 by_cases c:0<out.length∧(nth out (out.length-1)).tags=(nth s j).tags
 · obtain⟨c0,ct⟩:=c
   have jo:=WZ s j (nth s j) hx out (by omega) c0 hso H id es fa fb hr (hl c0)
   have s1:=(hso _ (ae (l:=out) (j:=out.length-1) (by omega))).1
   have sm:=Ab (nth out (out.length-1)).tags (nth s j).tags (by omega) (by have:=hx.1;omega)
   simp only[ct,decide_true]at sm
   have e3:=hr.el (out.length-1) (by omega)
   have e4:=hr.ha (out.length-1) (by omega)
   have mg:=(hr.merge (k:=out.length-1) (by omega) ⟨(nth s j).tags,iM (nth out (out.length-1)).whr (nth s j).whr⟩ ct (i4 _ _ _)).more [.box [.t (tL (nth s j).tags),.t (.sl ((nth s j).whr.map Wh.e))]]
   have lw:r6 out (nth s j)=out.set (out.length-1) ⟨(nth s j).tags,iM (nth out (out.length-1)).whr (nth s j).whr⟩:=by unfold r6;rw[if_pos ⟨c0,ct⟩]
   rw[lw]
   refine⟨_,es,fa,fb,?_,mg⟩
   have ci:(out.length:Int)-1=((out.length-1:Nat):Int):=by omega
   rw[List.length_set]
   generalize nth out (out.length-1)=y at*
   generalize out.length-1=k at*
   obtain⟨ta,wa⟩:=y
   simp only at ct
   subst ct
   generalize nth s j=x at*
   obtain⟨tb,wb⟩:=x
   simp only[tdS,ints]at*
   have g4:fa k<H.length:=gM e4
   simp(disch:=omega)only[go_sem,K.iG,↓reduceIte,ex,ci,sm,e1,e2,e3,e4,jo,dT,cF,fo,dF,n5,Nat.reduceAdd,Nat.reduceSub]
 · have lw:r6 out (nth s j)=out++[nth s j]:=by unfold r6;rw[if_neg c]
   rw[lw]
   refine⟨_,_,_,_,?_,hr.snoc (nth s j) (.box [.t (tL (nth s j).tags),.t (.sl ((nth s j).whr.map Wh.e))]) (.arr 2 false 0 [.agg [.ref (H.length+1) 0 (nth s j).tags.length,.ref (H.length+2) 0 (nth s j).whr.length]])⟩
   rw[List.length_append,List.length_singleton]
   by_cases c0:0<out.length
   · have ct:¬(nth out (out.length-1)).tags=(nth s j).tags:=fun e=>c ⟨c0,e⟩
     have s1:=(hso _ (ae (l:=out) (j:=out.length-1) (by omega))).1
     have sm:=Ab (nth out (out.length-1)).tags (nth s j).tags (by omega) (by have:=hx.1;omega)
     simp only[ct,decide_false]at sm
     have e3:=hr.el (out.length-1) (by omega)
     have e4:=hr.ha (out.length-1) (by omega)
     have ci:(out.length:Int)-1=((out.length-1:Nat):Int):=by omega
     generalize nth out (out.length-1)=y at*
     generalize out.length-1=k at*
     obtain⟨ta,wa⟩:=y
     generalize nth s j=x at*
     obtain⟨tb,wb⟩:=x
     simp only[tdS,ints]at*
     have g4:fa k<H.length:=gM e4
     simp(disch:=omega)only[go_sem,K.iG,↓reduceIte,ex,ci,sm,e1,e2,e3,e4,cw,dT,cF,fo,sk,dF,n5,Nat.add_assoc,Bool.false_eq_true,whs,Nat.reduceAdd,Nat.reduceSub]
   · generalize nth s j=x at*
     obtain⟨tb,wb⟩:=x
     simp only[tdS,ints]at*
     simp(disch:=omega)only[go_sem,K.iG,↓reduceIte,ex,e1,e2,cw,dT,cF,fo,sk,dF,n5,Nat.add_assoc,whs,Nat.reduceAdd,Nat.reduceSub]
theorem W4{H:ai}{id:Nat}{es:List D}{fa fb:Nat→Nat}{out:List World}(hr:Rp H id es fa fb out):bA (Go.Ev.frz H 7) es=some (out.map World.e):=by
 have hl:=hr.len
 have key:∀(j:Nat) (hj:j<out.length),Go.Ev.frz H 7 (.agg [.ref (fa j) 0 (nth out j).tags.length,.ref (fb j) 0 (nth out j).whr.length])=some (nth out j).e:=by
  intro j hj
  have h1:=hr.ha j hj
  have h2:=hr.hb j hj
  simp(disch:=omega)only[go_sem,h1,h2,ints,whs,↓reduceIte]
 have:∀(es:List D) (ts:List T),es.length=ts.length→(∀(j:Nat) e t,es[j]?=some e→ts[j]?=some t→Go.Ev.frz H 7 e=some t)→bA (Go.Ev.frz H 7) es=some ts:=by
  intro es
  induction es with
  | nil=>intro ts h _;cases ts with
    | nil=>rfl
    | cons=>simp at h
  | cons e es ih=>
    intro ts h hh
    cases ts with
    | nil=>simp at h
    | cons t ts=>
      have h1:=hh 0 e t rfl rfl
      have h2:=ih ts (by simpa using h) fun j e t he ht=>hh (j+1) e t (by simpa using he) (by simpa using ht)
      simp only[bA,h1,Option.bind_some,h2,Option.map_some]
 refine this es _ (by rw[List.length_map,hl]) fun j e t he ht=>?_
 have hj:j<out.length:=by rw[← hl];exact(List.getElem?_eq_some_iff.1 he).1
 rw[hr.el j hj]at he
 rw[bP _ hj]at ht
 cases he;cases ht
 exact key j hj
theorem Lr{H:ai}{id sz n:Nat}{pin:Bool}{es:List D}{ts:List T}(hid:H[id]?=some (.arr sz pin 0 es))(hn:n=es.length)(hf:bA (Go.Ev.frz H 7) es=some ts):finish 0 0 H [.ref id 0 n]=some (.t (.sl ts),[]):=by
 have e:Go.Ev.frz H depth (.ref id 0 n)=some (.sl ts):=by
  have ha:fV H id 0 n=some (sz,pin,es):=by simp only[fV,hid];rw[if_pos ⟨trivial,hn⟩]
  show((fV H id 0 n).bind fun a=>bA (Go.Ev.frz H 7) a.2.2).map T.sl=_
  rw[ha,Option.bind_some,hf];rfl
 have o1:[D.t (T.sl ts)].all (old 0 depth)=true:=by simp[old]
 unfold finish
 simp only[if_true,bA,uN,e,Option.map_some,Option.bind_some,o1,List.take_zero,List.all_nil,Bool.and_self,ik,Nat.zero_le,decide_true,sC]
 rw[if_pos (by simp)]
def tdP(s:List World)(j:Nat)(st:St):Prop:=
 ∃H es fa fb out,st=tdS s 1 out.length (j:Int) H∧Rp H 1 es fa fb out∧out=(s.take j).foldl r6 []
theorem RB{m:aM}(hm:m.ok){first:List Int}{out:List World}(h:∀y∈out,WV m first y){x:World}(hx:WV m first x):∀y∈r6 out x,WV m first y:=by
 intro y hy
 unfold r6 at hy
 split at hy
 · rename_i c
   obtain⟨c0,c1⟩:=c
   have wk:=h _ (ae (l:=out) (j:=out.length-1) (by omega))
   have w1:=wk.wl
   have w2:=hx.wl
   rcases List.mem_or_eq_of_mem_set hy with a | rfl
   · exact h y a
   · exact⟨hx.pm,by rw[iM,i4];exact w1,wB hm wk.wv hx.wv _ (by omega) (by omega)⟩
 · rcases List.mem_append.1 hy with hy | hy
   · exact h y hy
   · rw[List.mem_singleton.1 hy];exact hx
theorem JS{m:aM}(hm:m.ok){first:List Int}{s:List World}(hs:∀x∈s,WV m first x):∀j,j≤s.length→(∀y∈(s.take j).foldl r6 [],WV m first y)∧((s.take j).foldl r6 []).length≤j
 | 0,_=>⟨fun y hy=>by simp at hy,by simp⟩
 | j+1,h=>by
   obtain⟨a,b⟩:=JS hm hs j (by omega)
   rw[jQ (by omega),List.foldl_append]
   generalize (s.take j).foldl r6 []=out at*
   simp only[List.foldl_cons,List.foldl_nil]
   refine⟨RB hm a (hs _ (ae (by omega))),?_⟩
   unfold r6
   split
   · rw[List.length_set];omega
   · rw[List.length_append,List.length_singleton];omega
theorem WV.wsz{m:aM}(hm:m.ok){first:List Int}(f2:first.length≤12){x:World}(h:WV m first x):x.sz:=by
 have np:=hm.np
 have l1:=h.pm.length_eq
 have l2:=h.wl
 exact⟨by omega,by omega,fun w hw=>by have:=(cJ (h.wv w hw)).1;omega⟩
theorem CY{m:aM}(hm:m.ok){first:List Int}(pr:fy first=true)(f1:1≤first.length)(f2:first.length≤12){s:List World}(hs:∀x∈s,WV m first x)(so:Iq s):∀j,j≤s.length→
 (s.take j).foldl r6 []=(s.take j).foldl i5 []∧BV m first ((s.take j).foldl i5 [])∧∀w∈(s.take j).foldl i5 [],∃k,k<j∧w.tags=(nth s k).tags
 | 0,_=>⟨rfl,⟨pr,f1,f2,(fun x hx=>by cases hx),List.Pairwise.nil⟩,fun w hw=>by simp at hw⟩
 | j+1,h=>by
   obtain⟨e,bv,fr⟩:=CY hm pr f1 f2 hs so j (by omega)
   rw[jQ (by omega),List.foldl_append,List.foldl_append,e]
   simp only[List.foldl_cons,List.foldl_nil]
   have hx:=hs _ (ae (l:=s) (j:=j) (by omega))
   generalize (s.take j).foldl i5 []=out at*
   refine⟨(CW bv.up fun h0=>?_).symm,pB hm bv hx,fun w hw=>?_⟩
   · obtain⟨k,hk,ek⟩:=fr _ (ae (l:=out) (j:=out.length-1) (by omega))
     rw[ek]
     have:=(List.pairwise_iff_getElem.1 so) k j (by omega) (by omega) hk
     rwa [← bG (List.getElem?_eq_getElem (by omega:k<s.length)),←bG (List.getElem?_eq_getElem (by omega:j<s.length))]at this
   · unfold i5 at hw
     split at hw
     · rcases List.mem_or_eq_of_mem_set hw with a | rfl
       · obtain⟨k,hk,ek⟩:=fr w a;exact⟨k,by omega,ek⟩
       · exact⟨j,by omega,rfl⟩
     · simp only[List.mem_append,List.mem_singleton]at hw
       rcases hw with(hw | rfl) | hw
       · obtain⟨k,hk,ek⟩:=fr w (List.mem_of_mem_take hw);exact⟨k,by omega,ek⟩
       · exact⟨j,by omega,rfl⟩
       · obtain⟨k,hk,ek⟩:=fr w (List.mem_of_mem_drop hw);exact⟨k,by omega,ek⟩
theorem RC{m:aM}(hm:m.ok){first:List Int}(pr:fy first=true)(f1:1≤first.length)(f2:first.length≤12)(l:List World)(hl:∀x∈l,WV m first x)(h0:0<l.length)(h20:l.length<20):
 aE 0 N.gZ [.t (.sl (l.map World.e))] []=some (.t (.sl ((lY l).map World.e)),[]):=by
 obtain⟨s,hs,pm,so⟩:=Ln l (fun w hw=>(hl w hw).wsz hm f2) h0 h20
 have hv:=fun x hx=>hl x (pm.mem_iff.1 hx)
 have ln:=pm.length_eq
 have td:(s.take s.length).foldl r6 []=lY l:=by
  rw[(CY hm pr f1 f2 hv so s.length (Nat.le_refl _)).1,List.take_length,←uA]
  exact Lq hm pr f1 f2 pm hv
 have loop:∀z0 z1 z2 z4 z5 z6 z10 z11:D,∃q,exS aE K.vq ⟨[z0,z1,z2,.ref 1 0 0,z4,z5,z6,.t (.sl (s.map World.e)),I s.length,I 0,z10,z11],[.box [.t (.sl (l.map World.e))],.arr 2 false 0 []]⟩=some q∧∃H es fa fb,q=(.exit 0,tdS s 1 (lY l).length s.length H)∧Rp H 1 es fa fb (lY l):=by
  intro z0 z1 z2 z4 z5 z6 z10 z11
  refine Og (tdP s) s.length _ ?_ ?_ ?_
  · exact⟨_,[],fun _=>0,fun _=>0,[],rfl,⟨rfl,rfl,fun j hj=>by simp at hj,fun j hj=>by simp at hj,fun j hj=>by simp at hj,fun j hj=>by simp at hj,fun j hj=>by simp at hj,fun i j hi=>by simp at hi,fun i j hi=>by simp at hi⟩,rfl⟩
  · rintro j st hj ⟨H,es,fa,fb,out,rfl,hr,ho⟩
    obtain⟨a,b⟩:=JS hm hv j (by omega)
    rw[← ho]at a b
    have wx:=hv _ (ae (l:=s) (j:=j) hj)
    obtain⟨H',es',fa',fb',r1,r2⟩:=RA s (by omega) hj (wx.wsz hm f2) out (by omega) (fun x hx=>(a x hx).wsz hm f2) H 1 es fa fb hr (fun h=>by
     rw[wx.wl,(a _ (ae (l:=out) (j:=out.length-1) (by omega))).wl])
    refine .inl ⟨_,r1,H',es',fa',fb',_,rfl,r2,?_⟩
    rw[jQ hj,List.foldl_append,←ho];rfl
  · rintro st ⟨H,es,fa,fb,out,rfl,hr,ho⟩
    rw[td]at ho
    subst ho
    refine⟨(.exit 0,tdS s 1 (lY l).length s.length H),?_,by simp,H,es,fa,fb,rfl,hr⟩
    simp only[tdS]
    simp(disch:=omega)only[go_sem,K.iG,↓reduceIte,Nat.reduceAdd,Nat.reduceSub]
 refine ak K.rZ rfl ?_
 have va:=Ll l
 obtain⟨q,hq,H,es,fa,fb,rfl,hr⟩:=loop (.t (.sl (l.map World.e))) .nil (.t (.sl (s.map World.e))) .und .und .und .und .und
 have fin:=Lr hr.arr hr.len.symm (W4 hr)
 simp only[tdS]at hq
 simp(disch:=omega)only[go_sem,K.gZ,↓reduceIte,va,hs,hq,fin,Nat.reduceAdd,Nat.reduceSub]
end Go.Ev
namespace Go.Ev
open Go
variable [Lib] [bW] [bL] [fJ] [eY] [jB] [fM] [fN] [iI] [gu] [ec] [du]
theorem Lt{m:aM}(h:m.ok)(b:Bel)(hs:b.sz):aE 0 N.fB [.t m.e,.t b.e] []=some (B (rG m b),[]):=by
 rw[← Rv]
 refine ak K.rV rfl ?_
 obtain⟨h1,h2⟩:=hs
 have v:=jH h
 obtain⟨ws⟩:=b
 simp only at h1 h2
 have li:=FM ws.length 1 24
 unfold Ru
 simp only
 by_cases c:1≤ws.length∧ws.length≤24
 · have li:aE 0 N.fg [I ws.length,I 1,I 24] []=some (B true,[]):=by rw[li,decide_eq_true (by omega)]
   have e0:(ws.map World.e)[0]?=some (nth ws 0).e:=bP _ (by omega)
   have sz:=(h2 _ (ae (l:=ws) (j:=0) (by omega))).1
   have loop:=fun a b c d e=>xy (gc:=true) (dead:=[0,1,4,6,7]) (c:=K.bT) (vs:=[a,b,.bp 0 0,.bp 1 0,c,.t (tL (jM (nth ws 0).tags)),d,e,.t (.sl (ws.map World.e)),I ws.length,I 0]) (H:=[.box (aa m),.box [.t (.sl (ws.map World.e))],.box [.t (tL (nth ws 0).tags)]])
    (swS m ws (nth ws 0).tags) ws.length (fun j=> !pwB m ws (nth ws 0).tags j) (fun _ q=>q.1= .ret∧q.2.vs[4]?=some (B false))
    (.exit 0,swS m ws (nth ws 0).tags ws.length) rfl
    (fun j hj hp=>(OI h ws _ sz h2 j hj h1).1 (by simpa using hp))
    (fun j hj hp=>by
     obtain⟨q,q1,q2,q3⟩:=(OI h ws _ sz h2 j hj h1).2 (by simpa using hp)
     exact⟨q,q1,by rw[q2];simp,q2,q3⟩)
    (by simp(disch:=omega)only[go_sem,K.bT,swS,↓reduceIte,Nat.reduceAdd,Nat.reduceSub]) (by simp)
   rw[rr]
   have va:=Bd (nth ws 0).tags
   have so:=Be (nth ws 0).tags sz
   have loop:=loop (.t m.e) (.t (Bel.e ⟨ws⟩)) (B false) .und .und
   generalize nth ws 0=x at*
   obtain⟨first,whr⟩:=x
   simp only[swS]at*
   generalize jM first=sf at*
   rcases loop with⟨e1,e2⟩ | ⟨j,⟨x,vs,H⟩,e1,e2,e3,e4⟩
   · have e2:exS aE K.p5 _=_:=e2
     simp(disch:=omega)only[go_sem,K.fB,↓reduceIte,v,li,e0,va,so,c,and_self,decide_true,Bool.true_and,e1,e2,Option.isNone,Nat.reduceAdd,Nat.reduceSub]
   · have e2:exS aE K.p5 _=_:=e2
     simp only at e3 e4
     subst e3
     simp(disch:=omega)only[go_sem,K.fB,↓reduceIte,v,li,e0,va,so,c,and_self,decide_true,Bool.true_and,e1,e2,Option.isNone,Nat.reduceAdd,Nat.reduceSub]
     simp(disch:=omega)only[go_sem,jD,e4,List.take_zero]
 · have li:aE 0 N.fg [I ws.length,I 1,I 24] []=some (B false,[]):=by rw[li,decide_eq_false (by omega)]
   simp(disch:=omega)only[go_sem,K.fB,↓reduceIte,v,li,c,decide_false,Bool.false_and,Nat.reduceAdd,Nat.reduceSub]
end Go.Ev
namespace Go.Ev
open Go
variable [Lib] [bW] [bL] [fM] [fN]
abbrev RD:Int:=2147483648
section
variable {m : aM} (h : m.ok) {fl : List Spn}
include h
end
end Go.Ev
namespace Go.Ev
open Go
def clP(m:aM)(fl:List Spn)(y:List Int):Prop:=∀k,k<m.roads.length→∀back,0≤yB (nth m.roads k) (nth fl k) back→
 nth y ((nth m.roads k).src back).toNat+yB (nth m.roads k) (nth fl k) back≤RD→
 nth y ((nth m.roads k).dst back).toNat≤nth y ((nth m.roads k).src back).toNat+yB (nth m.roads k) (nth fl k) back
variable [Lib] [bW] [bL] [fM] [fN]
end Go.Ev
namespace Go.Ev
open Go
variable [Lib] [bW] [bL] [fM] [fN]
def ahb(l:List Int):Prop:=∀x∈l,0≤x∧(x≤RD∨x=1099511627776)
theorem ahb.bnd{l:List Int}(h:ahb l):bnd l:=fun x hx=>by have:=h x hx;simp only[RD]at this;omega
end Go.Ev
namespace Go.Ev
open Go
variable [Lib] [bW] [bL] [fJ] [eY] [fM] [fN]
structure acm(m:aM)(fl:List Spn)(s:Wh):Prop where
 ln:s.frm.length=m.places.length
 ti:inT s.time
 tm:ahb s.frm
 lo:∀x∈s.frm,s.time≤x
 cl:clP m fl s.frm
theorem acm.valid{m:aM}{fl:List Spn}{s:Wh}(h:acm m fl s):NX m s=true:=by
 simp only[NX,Bool.and_eq_true,decide_eq_true_eq,List.all_eq_true,List.mem_range]
 refine⟨fun j hj=>?_,h.ln,h.ti⟩
 have a:=h.tm _ (ae hj)
 have b:=h.lo _ (ae hj)
 unfold plS
 simp only[RD]at a
 omega
end Go.Ev
namespace Go.Ev
open Go
variable [Lib] [bW] [bL] [fJ] [eY] [jB] [fM] [fN] [iI] [gu] [ec] [du]
section
variable {m : aM} (hm : m.ok) (l : List Mch) (hl : l.length ≤ 1000) (hp : ∀ x ∈ l, x.pl.length ≤ 1000000) (s : Wh) (hs : s.frm.length ≤ 1000000) (b : Bel) (hb : b.sz) (t a : Int)
include hm hl hp hs hb
end
end Go.Ev
namespace Go.Ev
open Go
variable [Lib] [bW] [bL] [fJ] [eY] [fM] [fN]
end Go.Ev
namespace Go.Ev
open Go
variable [Lib] [bW] [bL]
def sh(s x:Int):Int:=if x<1099511627776 then x+s else x
end Go.Ev
namespace Go.Ev
open Go
variable [Lib] [bW] [bL] [fJ] [eY] [jB] [fM] [fN] [iI] [gu]
theorem uc(l:List Int)(x:Int){j:Nat}(hj:j<l.length):nth (l++[x]) j=nth l j:=by
 unfold nth;simp[List.getD_eq_getElem?_getD,List.getElem?_append_left hj]
theorem OW(l:List Int)(x:Int):nth (l++[x]) l.length=x:=by
 unfold nth;simp[List.getD_eq_getElem?_getD]
def ahc(m:aM)(A:List Int)(k:Nat)(back:Bool)(d e:Nat):Prop:=k<m.roads.length∧0≤eE m k back 6 9 12∧(e:Int)=d+max 1 (eE m k back 6 9 12)∧(∀τ,d≤τ→τ<e→nth A τ=(nth m.roads k).src back)∧nth A e=(nth m.roads k).dst back∧e<A.length
theorem ahc.snoc{m:aM}{A:List Int}{k:Nat}{back:Bool}{d e:Nat}(h:ahc m A k back d e)(x:Int):ahc m (A++[x]) k back d e:=by
 obtain⟨h1,h2,h3,h4,h5,h6⟩:=h
 refine⟨h1,h2,h3,fun τ a b=>?_,?_,by simp;omega⟩
 · rw[uc _ _ (by omega)];exact h4 τ a b
 · rw[uc _ _ h6];exact h5
theorem OX{l:List Int}{n:Nat}(h:tw l n=true):tw l ((n+1:Nat):Int)=true∧tw (l++[(n:Int)]) ((n+1:Nat):Int)=true:=by
 simp only[tw,List.all_eq_true,List.mem_range,decide_eq_true_eq]at h ⊢
 refine⟨fun j hj=>?_,fun j hj=>?_⟩
 · obtain⟨a,b,c⟩:=h j hj;exact⟨a,by omega,c⟩
 · by_cases c:j<l.length
   · obtain⟨a,b,c⟩:=h j c
     rw[uc _ _ (by omega)]
     refine⟨a,by omega,fun hj=>?_⟩
     rw[uc _ _ (by omega)];exact c hj
   · have e:j=l.length:=by simp at hj;omega
     subst e
     rw[OW]
     refine⟨by omega,by omega,fun hj=>?_⟩
     rw[uc _ _ (by omega)]
     exact(h (l.length-1) (by omega)).2.1
theorem CZ(d:aD):∀n:Nat,tw (d.m0 n).1 n=true
 | 0=>rfl
 | n+1=>by
   have ih:=CZ d n
   have:=OX ih
   simp only[aD.m0]
   split
   · exact this.2
   · exact this.1
end Go.Ev
namespace Go.Ev
open Go
variable [Lib] [bW] [bL] [fJ] [eY] [jB] [fM] [fN] [iI] [gu] [ec] [du]
theorem W5{m:aM}(hm:m.ok){b:Bel}(hb:rG m b=true)(tag:Int)(l:List Int)(a c:Int):rG m (tS m b tag l a c).1=true:=by
 unfold tS
 split
 · exact hb
 · split
   · exact hb
   · split
     · exact hb
     · rename_i h
       obtain⟨ws⟩:=b
       have bv:=acj hm (xN hb) tag l a c
       have ln:=xH m tag l a c ws ws.length
       obtain⟨h1,h2, -⟩:=fK hb
       simp only at h1 h2 h ⊢
       exact bv.bel (by omega) (by omega)
theorem W6{m:aM}(hm:m.ok){b:Bel}(hb:rG m b=true)(tag:Int)(l:List Int)(a c bl:Int):rG m (tT m b tag l a c bl).1=true:=by
 unfold tT
 split
 · exact hb
 · split
   · exact hb
   · obtain⟨ws⟩:=b
     have bv:=ack hm (xN hb) tag l a c bl
     have ln:=xI m tag l a c bl ws ws.length
     obtain⟨h1,h2, -⟩:=fK hb
     simp only at h1 h2 ⊢
     exact bv.bel (by omega) (by omega)
theorem RE{m:aM}(hm:m.ok){b:Bel}(hb:rG m b=true)(i j t:Int):rG m (oU m b i j t).1=true:=by
 unfold oU
 split
 · exact hb
 · split
   · exact hb
   · rename_i hij
     split
     · exact hb
     · split
       · exact hb
       · rename_i hl
         obtain⟨ws⟩:=b
         have bv:=xN hb
         obtain⟨h1,h2, -⟩:=fK hb
         simp only at h1 h2 hl hij ⊢
         have nb:=xS hm bv.wv (i:=i.toNat) (j:=j.toNat) (by omega) (by omega) t ws.length (Nat.le_refl _)
         have el:=uy i.toNat j.toNat t ws ws.length
         have tv:=DZ hm bv.pr bv.f1 bv.f2 nb _ (Nat.le_refl _)
         refine BV.bel tv ?_ (Nat.not_lt.1 hl)
         have t1:∀k,1≤k→1≤(o6 (jy i.toNat j.toNat t ws ws.length) k).length:=by
          intro k hk
          obtain⟨k,rfl⟩:∃k',k=k'+1:=⟨k-1,by omega⟩
          exact(tU _ _).2.2
         exact t1 _ (by omega)
theorem yI{m:aM}(hm:m.ok){n:Int}{s:BSt}(hb:rG m s.b=true):∀k,rG m (aD.yH m n s k).b=true
 | 0=>hb
 | k+1=>by
   have ih:=yI hm (n:=n) hb k
   simp only[aD.yH]
   generalize aD.yH m n s k=q at*
   unfold aD.ma
   simp only
   split
   · simp only
     split
     · exact RE hm ih _ _ _
     · exact ih
   · split
     · simp only
       split
       · exact W5 hm ih _ _ _ _
       · exact ih
     · simp only
       split
       · exact W6 hm ih _ _ _ _ _
       · exact ih
theorem C0{m:aM}(hm:m.ok)(h1:1≤m.places.length)(d:aD):rG m (d.Mh m).b=true:=by
 have pb:=Bl d
 have tl:=lZ d.p8
 have sl:(d.nO m).1.length=d.p8:=aD.kW _ _ _
 have t0:=(d.nO m).2.ei 100
 have t9:=(d.nO m).2.en (n:=100) (by omega)
 have pr:=zt (n:=d.p8) (by omega)
 unfold aD.Mh
 rw[DR hm h1]
 refine BV.bel (first:=rY d.p8) ⟨pr,by omega,by omega,fun x hx=>?_,by simp⟩ (by simp) (by simp)
 rw[List.mem_singleton.1 hx]
 refine⟨List.Perm.refl _,by simp,fun w hw=>?_⟩
 simp only[iF,List.mem_map,List.mem_range]at hw
 obtain⟨i,hi,rfl⟩:=hw
 have hi:i<(d.nO m).1.length:=by rw[sl,←tl];exact hi
 have:=tY (d.next 3).2 (n:=m.places.length) (by omega) d.p8 _ (ae hi)
 exact(A0 hm this.1 this.2 ⟨by omega,by omega⟩).2
theorem Gu{m:aM}(hm:m.ok)(h1:1≤m.places.length)(d:aD):rG m (d.tV m).1=true:=yI hm (C0 hm h1 d) _
end Go.Ev
namespace Go.Ev
open Go
variable [Lib] [bW] [bL] [fJ] [eY] [jB] [fM] [fN] [iI] [gu] [ec] [du] [iV] [eQ]
theorem RF(ws:List World)(tags:List Int)(whr:List Wh)(hl:whr.length≤1000000)(hz:∀w∈whr,w.frm.length≤1000000)(k:Int):
 exS aE K.xO ⟨[.und,.und,.bp 0 0,.bp 1 0,.und,I k,.bp 2 0,.bp 3 0,I 0],[.box [.t (.sl (ws.map World.e))],.box [.t (.sl (ws.map World.e))],.box [.t (tL tags),.t (.sl (whr.map Wh.e))],.box [.t (tL tags),.t (.sl (whr.map Wh.e))]]⟩=
  some (.exit 2,⟨[.und,.und,.bp 0 0,.bp 1 0,.und,I k,.bp 2 0,.bp 3 0,I whr.length],[.box [.t (.sl (ws.map World.e))],.box [.t (.sl (ws.map World.e))],.box [.t (tL tags),.t (.sl (whr.map Wh.e))],.box [.t (tL tags),.t (.sl (whr.map Wh.e))]]⟩):=by
 refine bR (fun j=>⟨[.und,.und,.bp 0 0,.bp 1 0,.und,I k,.bp 2 0,.bp 3 0,I j],[.box [.t (.sl (ws.map World.e))],.box [.t (.sl (ws.map World.e))],.box [.t (tL tags),.t (.sl (whr.map Wh.e))],.box [.t (tL tags),.t (.sl (whr.map Wh.e))]]⟩) whr.length rfl ?_ ?_ (by simp)
 · intro j hj
   have ex:(whr.map Wh.e)[j]?=some (nth whr j).e:=bP _ hj
   have sm:=N6 (nth whr j) (nth whr j) (hz _ (ae hj))
   rw[decide_eq_true ⟨rfl,rfl⟩]at sm
   clear hz
   generalize nth whr j=x at*
   obtain⟨t,f⟩:=x
   simp(disch:=omega)only[go_sem,K.p9,↓reduceIte,ex,sm,Nat.reduceAdd,Nat.reduceSub]
 · simp(disch:=omega)only[go_sem,K.p9,↓reduceIte,Nat.reduceAdd,Nat.reduceSub]
theorem RG(b:Bel)(hs:b.sz):aE 0 N.jh [.t b.e,.t b.e] []=some (B true,[]):=by
 refine ak K.ua rfl ?_
 obtain⟨ws⟩:=b
 obtain⟨s1,s2⟩:=hs
 simp only at*
 have loop:∀z0 z1 z4 z6 z7 z8:D,exS aE K.xP ⟨[z0,z1,.bp 0 0,.bp 1 0,z4,I 0,z6,z7,z8],[.box [.t (.sl (ws.map World.e))],.box [.t (.sl (ws.map World.e))]]⟩=
  some (.exit 0,⟨[.und,.und,.bp 0 0,.bp 1 0,.und,I ws.length,.und,.und,.und],[.box [.t (.sl (ws.map World.e))],.box [.t (.sl (ws.map World.e))]]⟩):=by
  intro z0 z1 z4 z6 z7 z8
  refine bR (fun j=>⟨[.und,.und,.bp 0 0,.bp 1 0,.und,I j,.und,.und,.und],[.box [.t (.sl (ws.map World.e))],.box [.t (.sl (ws.map World.e))]]⟩) ws.length rfl ?_ ?_ (by simp)
  · intro j hj
    have ex:(ws.map World.e)[j]?=some (nth ws j).e:=bP _ hj
    have z:=s2 _ (ae hj)
    have sm:=tu (nth ws j).tags (nth ws j).tags (by have:=z.1;omega)
    rw[decide_eq_true rfl]at sm
    have inn:=RF ws (nth ws j).tags (nth ws j).whr (by have:=z.2.1;omega) z.2.2 j
    clear s2 z
    generalize nth ws j=x at*
    obtain⟨tags,whr⟩:=x
    simp only at*
    simp(disch:=omega)only[go_sem,K.qa,↓reduceIte,ex,sm,inn,Nat.reduceAdd,Nat.reduceSub]
  · simp(disch:=omega)only[go_sem,K.qa,↓reduceIte,Nat.reduceAdd,Nat.reduceSub]
 simp(disch:=omega)only[go_sem,K.jh,↓reduceIte,loop,Nat.reduceAdd,Nat.reduceSub]
end Go.Ev
namespace Go.Ev
open Go
variable [Lib] [bW] [bL] [fJ] [eY]
theorem kL{α β γ:Type}{f:β→Option γ}{g:α→β}{h:α→γ}:∀ {l:List α},(∀x∈l,f (g x)=some (h x))→bA f (l.map g)=some (l.map h)
 | [],_=>rfl
 | a::l,hh=>by
   have ih:=kL (f:=f) (g:=g) (h:=h) (l:=l) fun x hx=>hh x (List.mem_cons_of_mem _ hx)
   simp only[List.map_cons,bA,hh a List.mem_cons_self,Option.bind_some,ih,Option.map_some]
theorem ud{α:Type}(f g:Nat→α):∀n,(List.range n).flatMap (fun i=>[f i,g i])=(List.range (2*n)).map (fun k=>if k % 2=0 then f (k / 2)else g (k / 2))
 | 0=>rfl
 | n+1=>by
   have e:2*(n+1)=2*n+1+1:=by omega
   have e1:(2*n) % 2=0:=by omega
   have e2:¬(2*n+1) % 2=0:=by omega
   have e3:(2*n) / 2=n:=by omega
   have e4:(2*n+1) / 2=n:=by omega
   rw[List.range_succ,List.flatMap_append,ud f g n,e,List.range_succ,List.range_succ,List.map_append,List.map_append]
   simp only[List.map_cons,List.map_nil,List.flatMap_cons,List.flatMap_nil,if_pos e1,if_neg e2,e3,e4,List.append_assoc,List.append_nil,List.cons_append,List.nil_append]
def P2(s:Nat)(ws:List World)(i:Nat):D:= .agg [.ref (s+2*i+1) 0 (nth ws i).tags.length,.ref (s+2*i+2) 0 (nth ws i).whr.length]
def D1(ws:List World)(k:Nat):Obj:=if k % 2=0 then .arr 1 false 0 (ints (nth ws (k / 2)).tags)else .arr 2 false 0 (whs (nth ws (k / 2)).whr)
def cpH(s:Nat)(ws:List World):ai:= .arr 2 false 0 ((List.range ws.length).map (P2 s ws))::(List.range (2*ws.length)).map (D1 ws)
theorem JT(f:Nat→Option Nat)(ws:List World)(k:Nat):bY f (D1 ws k)=some (D1 ws k):=by
 unfold D1
 split<;>simp only[bY,ints,whs,vJ,Option.map_some]
theorem TD(s:Nat)(ws:List World):bA (bY (bJ [] s)) (cpH 0 ws)=some (cpH s ws):=by
 have e1:∀i:Nat,bJ [] s (0+2*i+1)=some (s+2*i+1):=fun i=>by simp[bJ];omega
 have e2:∀i:Nat,bJ [] s (0+2*i+2)=some (s+2*i+2):=fun i=>by simp[bJ];omega
 have h1:bA (ren (bJ [] s) depth) ((List.range ws.length).map (P2 0 ws))=some ((List.range ws.length).map (P2 s ws)):=kL fun i _=>by
  simp only[P2,depth,ren,bA,e1,e2,Option.map_some,Option.bind_some]
 have h2:bA (bY (bJ [] s)) ((List.range (2*ws.length)).map (D1 ws))=some ((List.range (2*ws.length)).map (D1 ws)):=kL fun k _=>JT _ ws k
 unfold cpH
 simp only[bA,bY,h1,h2,Option.map_some,Option.bind_some]
def uJ(n:Nat):List Nat:=(List.range (2*n)).map (fun k=>if k % 2=0 then 4+3*(k / 2)else 5+3*(k / 2))
theorem It(n:Nat):([3]++uJ n).Nodup:=by
 have h:(uJ n).Pairwise (· < ·):=by
  unfold uJ
  rw[List.pairwise_map]
  refine List.Pairwise.imp (fun{a b} hab=>?_) List.pairwise_lt_range
  have:a<b:=hab
  split<;>split<;>omega
 rw[List.singleton_append,List.nodup_cons]
 refine⟨fun hm=>?_,List.Pairwise.imp (fun{a b} hab=>Nat.ne_of_lt hab) h⟩
 unfold uJ at hm
 obtain⟨k,_,hk⟩:=List.mem_map.1 hm
 split at hk<;>omega
theorem Gv(n k:Nat)(h:k<2*n):([3]++uJ n)[k+1]?=some (if k % 2=0 then 4+3*(k / 2)else 5+3*(k / 2)):=by
 unfold uJ
 rw[List.singleton_append,List.getElem?_cons_succ,List.getElem?_map,List.getElem?_range h];rfl
theorem Lu(H:ai)(ws:List World)(h3:H[3]?=some (.arr 2 false 0 ((List.range ws.length).map (fun i=>D.agg [.ref (4+3*i) 0 (nth ws i).tags.length,.ref (5+3*i) 0 (nth ws i).whr.length]))))
 (ha:∀i,i<ws.length→H[4+3*i]?=some (.arr 1 false 0 (ints (nth ws i).tags))) (hb:∀i,i<ws.length→H[5+3*i]?=some (.arr 2 false 0 (whs (nth ws i).whr))):
 finish 0 2 H [.agg [.ref 3 0 ws.length]]=some (.agg [.ref 0 0 ws.length],cpH 0 ws):=by
 have hold:([D.agg [.ref 3 0 ws.length]].all (old 0 depth)&&(H.take 0).all (fun o=>o.ds.all (old 0 depth)))=false:=by simp[old,depth]
 have nd:=It ws.length
 have hids:jA H [3]=uJ ws.length:=by
  simp only[jA,List.flatMap_cons,List.flatMap_nil,List.append_nil,h3,Obj.ds,List.flatMap_map]
  simp only[ids,depth,List.flatMap_cons,List.flatMap_nil,List.append_nil,List.cons_append,List.nil_append]
  exact ud _ _ _
 have hpick:pick H (uJ ws.length)=some ((List.range (2*ws.length)).map (D1 ws)):=by
  refine qt (by unfold uJ;simp) fun k i o hk ho=>?_
  unfold uJ at hk
  rw[List.getElem?_map]at hk ho
  have hl:k<2*ws.length:=by
   cases hr:(List.range (2*ws.length))[k]? with
   | none=>rw[hr]at hk;simp at hk
   | some v=>have:=(List.getElem?_eq_some_iff.1 hr).1;simpa using this
  rw[List.getElem?_range hl]at hk ho
  simp only[Option.map_some,Option.some.injEq]at hk ho
  subst hk;subst ho
  unfold D1
  split
  · exact ha _ (by omega)
  · exact hb _ (by omega)
 have hch:(((List.range (2*ws.length)).map (D1 ws)).flatMap fun o=>o.ds.flatMap (fF H depth))=[]:=by
  rw[List.flatMap_eq_nil_iff]
  intro o ho
  obtain⟨k,_,rfl⟩:=List.mem_map.1 ho
  unfold D1
  split<;>simp only[Obj.ds,ints,whs,Fy]
 have hfz:bA (cU H) ((List.range (2*ws.length)).map (D1 ws))=some ((List.range (2*ws.length)).map (D1 ws)):=kL fun k _=>by
  have key:∀ts:List T,bA (fun d=>(frz H depth d).map D.t) (ts.map .t)=some (ts.map .t):=fun ts=>kL fun x _=>by simp only[QA,Option.map_some]
  unfold D1
  split<;>simp only[cU,ints,whs,key,Option.map_some]
 have hk:gF H (max 2 1) (List.range 0) ([D.agg [.ref 3 0 ws.length]].flatMap (ids depth)++jA H (List.range 0))=
  some ([3]++uJ ws.length,.arr 2 false 0 ((List.range ws.length).map (fun i=>D.agg [.ref (4+3*i) 0 (nth ws i).tags.length,.ref (5+3*i) 0 (nth ws i).whr.length]))::(List.range (2*ws.length)).map (D1 ws)):=by
  have e1:[D.agg [.ref 3 0 ws.length]].flatMap (ids depth)++jA H (List.range 0)=[3]:=by simp[ids,depth,jA]
  have hnew:(eJ [] [3]).drop 0=[3]:=by simp[eJ]
  have hm:max 2 1=1+1:=rfl
  rw[e1,hm]
  simp only[List.range_zero]
  unfold gF
  simp only[List.length_nil,hnew,pick,h3,Option.bind_some,Option.map_some,Nat.one_ne_zero,if_false]
  unfold gF
  simp only[List.nil_append,hids,jR _ _ nd,List.length_singleton,List.drop_left',hpick,Option.bind_some,if_true,hch,List.all_nil,hfz,gF,Option.map_some,List.append_nil,List.singleton_append,List.drop_one,List.tail_cons]
 unfold finish
 rw[if_neg (by omega),Option.bind_some,hold,if_neg (by simp),hk]
 have i0:idxOf ([3]++uJ ws.length) 3=some 0:=rfl
 have iA:∀i,i<ws.length→idxOf ([3]++uJ ws.length) (4+3*i)=some (0+2*i+1):=fun i hi=>by
  have g:=Gv ws.length (2*i) (by omega)
  rw[if_pos (by omega),show 4+3*(2*i / 2)=4+3*i by omega]at g
  rw[show 0+2*i+1=2*i+1 by omega]
  exact iL _ _ _ nd g
 have iB:∀i,i<ws.length→idxOf ([3]++uJ ws.length) (5+3*i)=some (0+2*i+2):=fun i hi=>by
  have g:=Gv ws.length (2*i+1) (by omega)
  rw[if_neg (by omega),show 5+3*((2*i+1) / 2)=5+3*i by omega]at g
  rw[show 0+2*i+2=2*i+1+1 by omega]
  exact iL _ _ _ nd g
 have hes:bA (ren (idxOf ([3]++uJ ws.length)) depth) ((List.range ws.length).map (fun i=>D.agg [.ref (4+3*i) 0 (nth ws i).tags.length,.ref (5+3*i) 0 (nth ws i).whr.length]))=some ((List.range ws.length).map (P2 0 ws)):=kL fun i hi=>by
  have hi:=List.mem_range.1 hi
  simp only[P2,depth,ren,bA,iA i hi,iB i hi,Option.map_some,Option.bind_some]
 have hob:bA (bY (idxOf ([3]++uJ ws.length))) ((List.range (2*ws.length)).map (D1 ws))=some ((List.range (2*ws.length)).map (D1 ws)):=kL fun k _=>JT _ ws k
 simp only[depth]at hes
 simp only[Option.bind_some,List.range_zero,List.nil_append,List.take_zero,ik,Nat.succ_ne_zero,if_false,List.all_nil,if_true,bA,bY,hes,hob,ren,depth,i0,Option.map_some,sC,cpH]
theorem OY{H t:ai}{i k:Nat}{o:Obj}(h:i<H.length):(H.set k o++t)[i]?=(H.set k o)[i]?:=List.getElem?_append_left (by rw[List.length_set];exact h)
theorem OZ{H t:ai}{i k:Nat}{o o':Obj}(h:i<H.length):(H.set k o++t).set i o'=(H.set k o).set i o'++t:=List.set_append_left _ _ (by rw[List.length_set];exact h)
theorem Lv(l:List World)(h1:l.length≤1000000)(h2:∀x∈l,x.sz)(a:D):∃q,exS aE K.sn ⟨[a,.bp 0 0,.bp 1 0,.bp 2 0,I 0],[.box [.t (tX l)],.box [.nil],.box [.ref 3 0 0],.arr 2 false 0 []]⟩=some q∧
 ∃H,q=(.exit 0,⟨[.und,.bp 0 0,.bp 1 0,.bp 2 0,I l.length],H⟩)∧H[1]?=some (.box [.nil])∧H[2]?=some (.box [.ref 3 0 l.length])∧
  H[3]?=some (.arr 2 false 0 ((List.range l.length).map (fun i=>D.agg [.ref (4+3*i) 0 (nth l i).tags.length,.ref (5+3*i) 0 (nth l i).whr.length])))∧
  (∀i,i<l.length→H[4+3*i]?=some (.arr 1 false 0 (ints (nth l i).tags)))∧(∀i,i<l.length→H[5+3*i]?=some (.arr 2 false 0 (whs (nth l i).whr))):=by
 refine xJ (fun j st=>∃H,st=⟨[.und,.bp 0 0,.bp 1 0,.bp 2 0,I j],H⟩∧H.length=4+3*j∧H[0]?=some (.box [.t (tX l)])∧H[1]?=some (.box [.nil])∧H[2]?=some (.box [.ref 3 0 j])∧
  H[3]?=some (.arr 2 false 0 ((List.range j).map (fun i=>D.agg [.ref (4+3*i) 0 (nth l i).tags.length,.ref (5+3*i) 0 (nth l i).whr.length])))∧
  (∀i,i<j→H[4+3*i]?=some (.arr 1 false 0 (ints (nth l i).tags)))∧(∀i,i<j→H[5+3*i]?=some (.arr 2 false 0 (whs (nth l i).whr)))) l.length _ ?_ ?_ ?_
 · exact⟨_,rfl,rfl,rfl,rfl,rfl,rfl,fun i hi=>absurd hi (by omega),fun i hi=>absurd hi (by omega)⟩
 · rintro j st hj ⟨H,rfl,hlen,e0,e1,e2,e3,hA,hB⟩
   have g:(l.map World.e)[j]?=some (nth l j).e:=bP _ hj
   have c:=lM (nth l j) (h2 _ (ae hj))
   have rs:(List.range (j+1)).map (fun i=>D.agg [.ref (4+3*i) 0 (nth l i).tags.length,.ref (5+3*i) 0 (nth l i).whr.length])=(List.range j).map (fun i=>D.agg [.ref (4+3*i) 0 (nth l i).tags.length,.ref (5+3*i) 0 (nth l i).whr.length])++[D.agg [.ref (4+3*j) 0 (nth l j).tags.length,.ref (5+3*j) 0 (nth l j).whr.length]]:=by
    rw[List.range_succ,List.map_append];rfl
   have el:((List.range j).map (fun i=>D.agg [.ref (4+3*i) 0 (nth l i).tags.length,.ref (5+3*i) 0 (nth l i).whr.length])).length=j:=by simp
   generalize (List.range j).map (fun i=>D.agg [.ref (4+3*i) 0 (nth l i).tags.length,.ref (5+3*i) 0 (nth l i).whr.length])=es at*
   have n1:4+3*j=H.length:=hlen.symm
   have n2:5+3*j=H.length+1:=by omega
   rw[n1,n2]at rs
   refine⟨⟨[.und,.bp 0 0,.bp 1 0,.bp 2 0,I (j+1)],(H.set 3 (.arr 2 false 0 (es++[D.agg [.ref H.length 0 (nth l j).tags.length,.ref (H.length+1) 0 (nth l j).whr.length]]))).set 2 (.box [.ref 3 0 (j+1)])++[.arr 1 false 0 (ints (nth l j).tags),.arr 2 false 0 (whs (nth l j).whr),.arr 2 false 0 [D.agg [.ref H.length 0 (nth l j).tags.length,.ref (H.length+1) 0 (nth l j).whr.length]]]⟩,?_,_,rfl,?_⟩
   · generalize hx:nth l j=x at*
     obtain⟨tags,whr⟩:=x
     simp only[ints,whs]at*
     clear rs hA hB
     simp(disch:=omega)only[go_sem,K.mI,↓reduceIte,Nat.reduceAdd,Nat.reduceSub,g,c,e0,e1,e2,e3,el,dT,cF,fo,sk,dF,yA,n5,OY,OZ,bg,List.length_set,Nat.add_assoc,Nat.sub_zero]
   · have old_:∀(o o':Obj) (t:ai) (i:Nat),i<H.length→i≠2→i≠3→((H.set 3 o).set 2 o'++t)[i]?=H[i]?:=fun o o' t i h1 h2 h3=>by
      rw[List.getElem?_append_left (by simp;exact h1),bg (fun e=>h2 e.symm),bg (fun e=>h3 e.symm)]
     have new_:∀(o o':Obj) (t:ai) (k:Nat),((H.set 3 o).set 2 o'++t)[H.length+k]?=t[k]?:=fun o o' t k=>by
      rw[List.getElem?_append_right (by simp)];simp
     refine⟨by simp;omega,?_,?_,?_,?_,?_,?_⟩
     · rw[old_ _ _ _ 0 (by omega) (by omega) (by omega)];exact e0
     · rw[old_ _ _ _ 1 (by omega) (by omega) (by omega)];exact e1
     · rw[List.getElem?_append_left (by simp;omega),de (by simp;omega)]
     · rw[List.getElem?_append_left (by simp;omega),bg (by omega),de (by omega),rs]
     · intro i hi
       by_cases c:i<j
       · rw[old_ _ _ _ _ (by omega) (by omega) (by omega)];exact hA i c
       · have:i=j:=by omega
         subst this
         rw[n1,show H.length=H.length+0 from rfl,new_];rfl
     · intro i hi
       by_cases c:i<j
       · rw[old_ _ _ _ _ (by omega) (by omega) (by omega)];exact hB i c
       · have:i=j:=by omega
         subst this
         rw[n2,new_];rfl
 · rintro st ⟨H,rfl,hlen,e0,e1,e2,e3,hA,hB⟩
   refine⟨(.exit 0,⟨[.und,.bp 0 0,.bp 1 0,.bp 2 0,I l.length],H⟩),?_,by simp,H,rfl,e1,e2,e3,hA,hB⟩
   simp(disch:=omega)only[go_sem,K.mI,↓reduceIte,Nat.reduceAdd,Nat.reduceSub,e0]
theorem Bq(b:Bel)(h:b.sz):aE 2 N.dU [.t b.e] []=some (.agg [.ref 0 0 b.worlds.length],cpH 0 b.worlds):=by
 refine ak K.oJ rfl ?_
 obtain⟨h1,h2⟩:=h
 obtain⟨q,hq,H,rfl,e1,e2,e3,hA,hB⟩:=Lv b.worlds h1 h2 (.t b.e)
 have fin:=Lu (H.set 1 (.box [.ref 3 0 b.worlds.length])) b.worlds (by rw[bg (by omega)];exact e3) (fun i hi=>by rw[bg (by omega)];exact hA i hi) (fun i hi=>by rw[bg (by omega)];exact hB i hi)
 have hl:=gM e1
 obtain⟨l⟩:=b
 simp only at*
 simp(disch:=omega)only[go_sem,K.dU,↓reduceIte,hq,e1,e2,de,fin,Nat.reduceAdd,Nat.reduceSub]
def zD(m:aM)(area:List Int)(r:Nat):Bool:= !(nth m.roads r).closed&&(decide (0≤eE m r false 6 9 12)||decide (0≤eE m r true 6 9 12))&&(decide ((nth m.roads r).frm∈area) != decide ((nth m.roads r).to∈area))
def BW(m:aM)(area:List Int):List Int:=bz m.roads.length (zD m area)
theorem O3{m:aM}(h:m.ok)(area:List Int)(ha:area.length≤1000000):aE 0 N.fS [.t m.e,.t (tL area)] []=some (.t (tL (BW m area)),[]):=by
 refine ak K.pW rfl ?_
 have nr:=h.nr
 have loop:∀a b c d:D,exS aE K.tG ⟨[a,.t (tL area),.bp 0 0,b,.ref 1 0 0,I 0,c,d],[.box (aa m),.arr 1 false 0 []]⟩=
  some (.exit 0,⟨[.und,.t (tL area),.bp 0 0,.und,.ref 1 0 (BW m area).length,I m.roads.length,.und,.und],[.box (aa m),.arr 1 false 0 (((BW m area).map (T.int .i64)).map .t)]⟩):=by
  intro a b c d
  refine bR (fun r=>⟨[.und,.t (tL area),.bp 0 0,.und,.ref 1 0 (bz r (zD m area)).length,I r,.und,.und],[.box (aa m),.arr 1 false 0 (((bz r (zD m area)).map (T.int .i64)).map .t)]⟩) m.roads.length rfl ?_ ?_ (by simp)
  · intro r hr
    have g:(m.roads.map Road.e)[r]?=some (nth m.roads r).e:=bP _ hr
    have t1:=DB h r hr false
    have t2:=DB h r hr true
    have h1:=u9 area (nth m.roads r).frm (by omega)
    have h2:=u9 area (nth m.roads r).to (by omega)
    have ws:=iQ r (zD m area)
    have wl:=dY r (zD m area)
    have hb:zD m area r=(!(nth m.roads r).closed&&(decide (0≤eE m r false 6 9 12)||decide (0≤eE m r true 6 9 12))&&(decide ((nth m.roads r).frm∈area) != decide ((nth m.roads r).to∈area))):=rfl
    generalize zD m area=p at*
    generalize eE m r false 6 9 12=w1 at*
    generalize eE m r true 6 9 12=w2 at*
    generalize nth m.roads r=x at*
    generalize bz r p=out at*
    obtain⟨frm,to,len,ar,walk,closed,rl,rh,ll,lh⟩:=x
    simp only at*
    generalize decide (frm∈area)=b1 at*
    generalize decide (to∈area)=b2 at*
    obtain⟨places,roads⟩:=m
    simp only[aa]at*
    by_cases c1:0≤w1<;>by_cases c2:0≤w2<;>cases closed<;>cases b1<;>cases b2<;>simp only[c1,c2,decide_true,decide_false,Bool.not_true,Bool.not_false,Bool.true_or,Bool.or_true,Bool.or_false,Bool.false_or,Bool.true_and,Bool.and_true,Bool.false_and,Bool.and_false,bne_self_eq_false,Bool.bne_true,Bool.bne_false]at hb<;>simp only[hb,if_true,if_false,Bool.false_eq_true]at ws<;>
     simp(disch:=omega)only[go_sem,K.nG,↓reduceIte,g,t1,t2,h1,h2,ws,Nat.reduceAdd,Nat.reduceSub]
  · simp(disch:=omega)only[go_sem,K.nG,↓reduceIte,BW,aa,Nat.reduceAdd,Nat.reduceSub]
 have bl:=dY m.roads.length (zD m area)
 simp only[BW]at*
 generalize bz m.roads.length (zD m area)=L at*
 obtain⟨places,roads⟩:=m
 simp only[aa]at*
 simp(disch:=omega)only[go_sem,K.fS,↓reduceIte,loop,Nat.reduceAdd,Nat.reduceSub]
def zw(r:Road):Road:={ r with walk:=false}
def C1(roads:List Road)(l:List Int):Nat→List Road
 | 0=>roads
 | k+1=>(C1 roads l k).set (nth l k).toNat (zw (nth (C1 roads l k) (nth l k).toNat))
theorem mV(roads:List Road)(l:List Int):∀k,(C1 roads l k).length=roads.length
 | 0=>rfl
 | k+1=>by simp only[C1,List.length_set,mV roads l k]
def ic(m:aM)(l:List Int):aM:=⟨m.places,C1 m.roads l l.length⟩
def fE(m:aM)(l:List Int):aM×Int:=if tw l m.roads.length=false then(⟨[],[]⟩,4)else(ic m l,0)
theorem Gw(m:aM)(hp:m.places.length≤1000000)(hr:m.roads.length≤1000000):aE 1 N.je [.t m.e] []=some (.agg [.ref 0 0 m.places.length,.ref 1 0 m.roads.length],[.arr 2 false 0 ((m.places.map Place.e).map .t),.arr 10 false 0 ((m.roads.map Road.e).map .t)]):=by
 refine ak K.tO rfl ?_
 obtain⟨places,roads⟩:=m
 simp only at*
 simp(disch:=omega)only[go_sem,K.je,↓reduceIte,Nat.reduceAdd,Nat.reduceSub]
theorem pC(ts:List T)(i:Nat)(x:T):(ts.map D.t).set i (.t x)=(ts.set i x).map .t:=by simp
theorem Br{l:List Int}{n:Int}(h:tw l n=true){j:Nat}(hj:j<l.length):0≤nth l j∧nth l j<n:=by
 unfold tw at h
 rw[List.all_eq_true]at h
 have:=h j (List.mem_range.2 hj)
 simp only[decide_eq_true_eq]at this
 exact⟨this.1,this.2.1⟩
theorem Gx{m:aM}(h:m.ok)(l:List Int)(hl:l.length≤1000000):aE 0 N.eh [.t m.e,.t (tL l)] []=some (.tup [.t (fE m l).1.e,I (fE m l).2],[]):=by
 refine ak K.pY rfl ?_
 have ck:=rq h
 have st:=SU l m.roads.length (by omega)
 have np:=h.np
 have nr:=h.nr
 have cp:=Gw m (by omega) (by omega)
 unfold fE
 cases hs:tw l m.roads.length with
 | false=>
   rw[hs]at st
   obtain⟨places,roads⟩:=m
   simp only at*
   simp(disch:=omega)only[go_sem,K.eh,↓reduceIte,ck,st,Nat.reduceAdd,Nat.reduceSub,List.map_nil]
   rfl
 | true=>
   rw[hs]at st
   have sp:=fun j hj=>Br (j:=j) hs hj
   clear hs
   obtain⟨places,roads⟩:=m
   simp only at*
   have loop:∀a c:D,exS aE K.tK ⟨[a,.t (tL l),.bp 0 0,.bp 1 0,c,I 0],[.box [.ref 2 0 places.length,.ref 3 0 roads.length],.box [.nil,.nil],.arr 2 false 0 ((places.map Place.e).map .t),.arr 10 false 0 ((roads.map Road.e).map .t)]⟩=
    some (.exit 0,⟨[.und,.t (tL l),.bp 0 0,.bp 1 0,.und,I l.length],[.box [.ref 2 0 places.length,.ref 3 0 roads.length],.box [.nil,.nil],.arr 2 false 0 ((places.map Place.e).map .t),.arr 10 false 0 (((C1 roads l l.length).map Road.e).map .t)]⟩):=by
    intro a c
    refine bR (fun k=>⟨[.und,.t (tL l),.bp 0 0,.bp 1 0,.und,I k],[.box [.ref 2 0 places.length,.ref 3 0 roads.length],.box [.nil,.nil],.arr 2 false 0 ((places.map Place.e).map .t),.arr 10 false 0 (((C1 roads l k).map Road.e).map .t)]⟩) l.length rfl ?_ ?_ (by simp)
    · intro k hk
      obtain⟨s1,s2⟩:=sp k hk
      have bl:=mV roads l k
      have bl2:=mV roads l (k+1)
      simp only[C1]at*
      generalize hy:nth l k=y at*
      obtain⟨i,rfl⟩:=Int.eq_ofNat_of_zero_le s1
      simp only[Int.toNat_natCast]at*
      have gx:(nth (C1 roads l k) i)=(nth (C1 roads l k) i):=rfl
      generalize hR:C1 roads l k=R at*
      have g:((R.map Road.e).map D.t)[i]?=some (.t (nth R i).e):=lH _ _ (by omega)
      have hset:((R.set i (zw (nth R i))).map Road.e).map D.t=((R.map Road.e).map D.t).set i (.t (zw (nth R i)).e):=by simp
      rw[hset]
      generalize nth R i=x at*
      obtain⟨frm,to,len,ar,walk,closed,rl,rh,ll,lh⟩:=x
      simp only[zw]at*
      simp(disch:=omega)only[go_sem,K.nH,↓reduceIte,hy,g,pC,Nat.reduceAdd,Nat.reduceSub]
    · have bl:=mV roads l l.length
      simp(disch:=omega)only[go_sem,K.nH,↓reduceIte,Nat.reduceAdd,Nat.reduceSub]
   have bl:=mV roads l l.length
   simp only[ic]
   generalize C1 roads l l.length=R at*
   simp(disch:=omega)only[go_sem,K.eh,↓reduceIte,ck,st,cp,loop,Nat.reduceAdd,Nat.reduceSub,Bool.true_eq_false]
theorem O4{n:Nat}{r:Road}(h:r.ok n):(zw r).ok n:=⟨h.f0,h.f1,h.t0,h.t1,h.ne,h.l0,h.l1,h.a0,h.a1,h.r0,h.r1,h.r2,h.i0,h.i1,h.i2⟩
theorem O5{n:Nat}{roads:List Road}(h:∀r∈roads,r.ok n){l:List Int}(hl:∀j,j<l.length→0≤nth l j∧nth l j<roads.length):∀k,k≤l.length→∀r∈C1 roads l k,r.ok n
 | 0,_,r,hr=>h r hr
 | k+1,hk,r,hr=>by
   have ih:=O5 h hl k (by omega)
   have bl:=mV roads l k
   obtain⟨h1,h2⟩:=hl k (by omega)
   simp only[C1]at hr
   rcases List.mem_or_eq_of_mem_set hr with h3 | h3
   · exact ih r h3
   · rw[h3];exact O4 (ih _ (ae (by omega)))
theorem uC{m:aM}(h:m.ok){l:List Int}(hs:tw l m.roads.length=true):(ic m l).ok:=
 ⟨h.np,by show(C1 m.roads l l.length).length≤128;rw[mV];exact h.nr,h.hs,O5 h.rs (fun j hj=>Br hs hj) l.length (Nat.le_refl _)⟩
def m9(l:List Int)(t:Int):Nat→List Int
 | 0=>l
 | p+1=>if t<nth (m9 l t p) p then(m9 l t p).set p never else m9 l t p
theorem gW(l:List Int)(t:Int):∀p,(m9 l t p).length=l.length
 | 0=>rfl
 | p+1=>by unfold m9;split<;>simp only[List.length_set,gW l t p]
def ue(m:aM)(w:Wh)(t:Int):Wh:=⟨t,cV m t none (m9 w.frm t w.frm.length)⟩
theorem Bt{l:List Int}(h:bnd l)(t:Int):∀p,bnd (m9 l t p)
 | 0=>h
 | p+1=>by
   have ih:=Bt h t p
   unfold m9
   split
   · intro x hx
     rcases List.mem_or_eq_of_mem_set hx with h1 | h1
     · exact ih x h1
     · subst h1;decide
   · exact ih
theorem RH{m:aM}(h:m.ok)(w:Wh)(hw:w.frm.length=m.places.length)(hb:bnd w.frm)(t:Int)(ht:inT t):aE 0 N.jd [.t m.e,.t w.e,I t] []=some (.t (ue m w t).e,[]):=by
 refine ak K.tM rfl ?_
 have np:=h.np
 have cl:=xq h t ht (m9 w.frm t w.frm.length) (by rw[gW];exact hw) (Bt hb t _)
 unfold ue
 obtain⟨time,frm⟩:=w
 simp only at*
 have loop:∀a b c:D,exS aE K.xB ⟨[a,b,I t,.bp 0 0,c,.bp 2 0,.ref 3 0 frm.length,I 0],[.box (aa m),.box [I time,.t (tL frm)],.box [I 0,.nil],.arr 1 false 0 (ints frm)]⟩=
  some (.exit 0,⟨[.und,.und,I t,.bp 0 0,.und,.bp 2 0,.ref 3 0 frm.length,I frm.length],[.box (aa m),.box [I time,.t (tL frm)],.box [I 0,.nil],.arr 1 false 0 (ints (m9 frm t frm.length))]⟩):=by
  intro a b c
  refine bR (fun p=>⟨[.und,.und,I t,.bp 0 0,.und,.bp 2 0,.ref 3 0 frm.length,I p],[.box (aa m),.box [I time,.t (tL frm)],.box [I 0,.nil],.arr 1 false 0 (ints (m9 frm t p))]⟩) frm.length rfl ?_ ?_ (by simp)
  · intro p hp
    have sl:=gW frm t p
    have sl2:=gW frm t (p+1)
    simp only[m9]at*
    generalize m9 frm t p=L at*
    have g:((L.map (T.int .i64)).map D.t)[p]?=some (.t (tI (nth L p))):=lH _ _ (by omega)
    obtain⟨places,roads⟩:=m
    simp only[aa,ints]at*
    by_cases c:t<nth L p
    · have e:(L.set p never).map (T.int .i64)=(L.map (T.int .i64)).set p (.int .i64 1099511627776):=by rw[List.map_set]
      rw[if_pos c]at*
      rw[e]
      simp(disch:=omega)only[go_sem,K.mS,↓reduceIte,c,g,pC,sl,Nat.reduceAdd,Nat.reduceSub]
    · simp(disch:=omega)only[go_sem,K.mS,↓reduceIte,c,g,pC,sl,Nat.reduceAdd,Nat.reduceSub]
  · have sl:=gW frm t frm.length
    generalize m9 frm t frm.length=L at*
    obtain⟨places,roads⟩:=m
    simp only[aa,ints]at*
    simp(disch:=omega)only[go_sem,K.mS,↓reduceIte,sl,Nat.reduceAdd,Nat.reduceSub]
 have sl:=gW frm t frm.length
 generalize m9 frm t frm.length=L at*
 generalize cV m t none L=r at*
 obtain⟨places,roads⟩:=m
 simp only[aa,ints]at*
 simp(disch:=omega)only[go_sem,K.jd,↓reduceIte,loop,cl,Nat.reduceAdd,Nat.reduceSub]
theorem xU{H H':ai}:∀(k:Nat) (d:D),(∀i∈fF H k d,∃sz pin pin' ep es,H[i]?=some (.arr sz pin ep es)∧H'[i]?=some (.arr sz pin' ep es))→frz H' k d=frz H k d∧fF H' k d=fF H k d:=by
 intro k
 induction k with
 | zero=>intro d _;cases d<;>exact⟨rfl,rfl⟩
 | succ k ih=>
   intro d h
   have list:∀es:List D,(∀i∈es.flatMap (fF H k),∃sz pin pin' ep es,H[i]?=some (.arr sz pin ep es)∧H'[i]?=some (.arr sz pin' ep es))→bA (frz H' k) es=bA (frz H k) es∧es.flatMap (fF H' k)=es.flatMap (fF H k):=by
    intro es
    induction es with
    | nil=>intro _;exact⟨rfl,rfl⟩
    | cons e es ihl=>
      intro he
      obtain⟨a1,a2⟩:=ih e fun i hi=>he i (by simp[hi])
      obtain⟨b1,b2⟩:=ihl fun i hi=>he i (by rw[List.flatMap_cons];exact List.mem_append_right _ hi)
      exact⟨by simp only[bA,a1,b1],by simp only[List.flatMap_cons,a2,b2]⟩
   cases d with
   | agg cs=>
     simp only[fF]at h
     obtain⟨a1,a2⟩:=list cs h
     exact⟨by simp only[frz,a1],by simp only[fF,a2]⟩
   | ref id ep n=>
     obtain⟨sz,pin,pin',ep',es,e1,e2⟩:=h id (by simp[fF])
     have:∀i∈es.flatMap (fF H k),∃sz pin pin' ep es,H[i]?=some (.arr sz pin ep es)∧H'[i]?=some (.arr sz pin' ep es):=fun i hi=>h i (by simp only[fF,e1];exact List.mem_cons_of_mem _ hi)
     obtain⟨a1,a2⟩:=list es this
     refine⟨?_,by simp only[fF,e1,e2,a2]⟩
     simp only[frz,fV,e1,e2]
     by_cases c:ep=ep'∧n=es.length
     · simp only[if_pos c,Option.bind_some,a1]
     · simp only[if_neg c,Option.bind_none]
   | sub id ep n lo hi=>
     obtain⟨sz,pin,pin',ep',es,e1,e2⟩:=h id (by simp[fF])
     have:∀i∈es.flatMap (fF H k),∃sz pin pin' ep es,H[i]?=some (.arr sz pin ep es)∧H'[i]?=some (.arr sz pin' ep es):=fun i hi=>h i (by simp only[fF,e1];exact List.mem_cons_of_mem _ hi)
     obtain⟨a1,a2⟩:=list es this
     have:∀i∈((es.drop lo).take (hi-lo)).flatMap (fF H k),∃sz pin pin' ep es,H[i]?=some (.arr sz pin ep es)∧H'[i]?=some (.arr sz pin' ep es):=fun i hi=>by
      obtain⟨e,he,hi⟩:=List.mem_flatMap.1 hi
      exact this i (List.mem_flatMap.2 ⟨e,List.mem_of_mem_drop (List.mem_of_mem_take he),hi⟩)
     obtain⟨b1,b2⟩:=list _ this
     refine⟨?_,by simp only[fF,e1,e2,a2]⟩
     simp only[frz,fV,e1,e2]
     by_cases c:ep=ep'∧n=es.length
     · simp only[if_pos c,Option.bind_some,b1]
     · simp only[if_neg c,Option.bind_none]
   | _=>exact⟨rfl,rfl⟩
theorem O6{H:ai}{f:Obj→Obj}{i j:Nat}:(H.modify i f)[j]?=if i=j then H[j]?.map f else H[j]?:=by
 rw[List.getElem?_modify]
 by_cases h:i=j
 · subst h;simp
 · simp[h]
theorem RI(o:Obj):EG (EG o)=EG o:=by cases o<;>rfl
theorem Iu:∀ {A:List Nat} {H:ai} {i:Nat},(pins H A)[i]?=if i∈A then H[i]?.map EG else H[i]?
 | [],H,i=>by simp[pins]
 | a::A,H,i=>by
   rw[pins,Iu,O6]
   by_cases h1:a=i
   · subst h1
     by_cases h2:a∈A
     · simp only[h2,if_true,List.mem_cons,true_or]
       cases H[a]?<;>simp[RI]
     · simp[h2]
   · by_cases h2:i∈A
     · simp[h1,h2]
     · have:¬i=a:=fun e=>h1 e.symm
       simp[h1,h2,this]
theorem C2{α β:Type}{f g:α→List β}:∀ {l:List α},(∀x∈l,f x=g x)→l.flatMap f=l.flatMap g
 | [],_=>rfl
 | a::l,h=>by rw[List.flatMap_cons,List.flatMap_cons,h a List.mem_cons_self,C2 fun x hx=>h x (List.mem_cons_of_mem _ hx)]
theorem JU{A:List Nat}{H:ai}{i sz ep:Nat}{pin:Bool}{es:List D}(h:H[i]?=some (.arr sz pin ep es)):∃pin',(pins H A)[i]?=some (.arr sz pin' ep es):=by
 rw[Iu]
 split
 · exact⟨true,by rw[h];rfl⟩
 · exact⟨pin,h⟩
theorem D2{A:List Nat}{H:ai}{i:Nat}{cs:List D}(h:H[i]?=some (.box cs)):(pins H A)[i]?=some (.box cs):=by
 rw[Iu]
 split
 · rw[h];rfl
 · exact h
theorem Rp.Zu{H:ai}{id:Nat}{es:List D}{fa fb:Nat→Nat}{out:List World}(hr:Rp H id es fa fb out)(k:Nat):
 Go.Ev.frz H (k+4) (.ref id 0 out.length)=some (.sl (out.map World.e))∧fF H (k+4) (.ref id 0 out.length)=id::(List.range out.length).flatMap (fun j=>[fa j,fb j]):=by
 have hl:=hr.len
 have key:∀(j:Nat) (hj:j<out.length),Go.Ev.frz H (k+3) (.agg [.ref (fa j) 0 (nth out j).tags.length,.ref (fb j) 0 (nth out j).whr.length])=some (nth out j).e∧
  fF H (k+3) (.agg [.ref (fa j) 0 (nth out j).tags.length,.ref (fb j) 0 (nth out j).whr.length])=[fa j,fb j]:=by
  intro j hj
  have h1:=hr.ha j hj
  have h2:=hr.hb j hj
  simp(disch:=omega)only[go_sem,h1,h2,ints,whs,↓reduceIte]
 have hes:es=(List.range out.length).map (fun j=>D.agg [.ref (fa j) 0 (nth out j).tags.length,.ref (fb j) 0 (nth out j).whr.length]):=by
  refine List.ext_getElem? fun j=>?_
  by_cases c:j<out.length
  · rw[hr.el j c,List.getElem?_map,List.getElem?_range c];rfl
  · rw[List.getElem?_eq_none (by omega),List.getElem?_eq_none (by simp;omega)]
 have hout:out.map World.e=(List.range out.length).map (fun j=>(nth out j).e):=by
  refine List.ext_getElem? fun j=>?_
  by_cases c:j<out.length
  · rw[bP _ c,List.getElem?_map,List.getElem?_range c];rfl
  · rw[List.getElem?_eq_none (by simp;omega),List.getElem?_eq_none (by simp;omega)]
 constructor
 · simp only[Go.Ev.frz,fV,hr.arr]
   rw[if_pos (by simp[hl]),Option.bind_some,hes,hout]
   rw[kL (h:=fun j=>(nth out j).e) fun j hj=>(key j (List.mem_range.1 hj)).1];rfl
 · simp only[fF,hr.arr,hes,List.flatMap_map]
   congr 1
   refine C2 fun j hj=>(key j (List.mem_range.1 hj)).2
def jz(bm:aM)(t:Int)(ws:List Wh):Nat→List Wh
 | 0=>ws
 | k+1=>(jz bm t ws k).set k (ue bm (nth ws k) t)
theorem iH(bm:aM)(t:Int)(ws:List Wh):∀k,(jz bm t ws k).length=ws.length
 | 0=>rfl
 | k+1=>by simp only[jz,List.length_set,iH bm t ws k]
theorem oh(bm:aM)(t:Int)(ws:List Wh):∀k j,k≤ws.length→nth (jz bm t ws k) j=if j<k then ue bm (nth ws j) t else nth ws j
 | 0,j,_=>by simp[jz]
 | k+1,j,hk=>by
   have ih:=oh bm t ws k j (by omega)
   simp only[jz]
   rw[p7 _ _ (by rw[iH];omega),ih]
   by_cases h1:j=k
   · subst h1;rw[if_pos rfl,if_pos (by omega)]
   · rw[if_neg h1]
     by_cases h2:j<k
     · rw[if_pos h2,if_pos (by omega)]
     · rw[if_neg h2,if_neg (by omega)]
def mO(bm:aM)(t:Int)(x:World)(k:Nat):World:=⟨x.tags,jz bm t x.whr k⟩
def mi(bm:aM)(t:Int)(xs:List World):Nat→List World
 | 0=>xs
 | i+1=>(mi bm t xs i).set i (mO bm t (nth xs i) (nth xs i).whr.length)
theorem kX(bm:aM)(t:Int)(xs:List World):∀k,(mi bm t xs k).length=xs.length
 | 0=>rfl
 | k+1=>by simp only[mi,List.length_set,kX bm t xs k]
theorem qB(bm:aM)(t:Int)(xs:List World):∀k j,k≤xs.length→nth (mi bm t xs k) j=if j<k then mO bm t (nth xs j) (nth xs j).whr.length else nth xs j
 | 0,j,_=>by simp[mi]
 | k+1,j,hk=>by
   have ih:=qB bm t xs k j (by omega)
   simp only[mi]
   rw[p7 _ _ (by rw[kX];omega),ih]
   by_cases h1:j=k
   · subst h1;rw[if_pos rfl,if_pos (by omega)]
   · rw[if_neg h1]
     by_cases h2:j<k
     · rw[if_pos h2,if_pos (by omega)]
     · rw[if_neg h2,if_neg (by omega)]
abbrev W7:List Nat:=[0,1,2,4,7,9,13]
abbrev slV(t:Int)(iB iO:Nat)(i k:D):List D:=[.und,.und,.und,I t,.und,.bp 1 0,.bp 2 0,.und,.bp iB 0,.und,.bp iO 0,i,k,.und]
section
variable {bm : aM} (hm : bm.ok) {t : Int} (i : Nat) {H : ai} {io iB iO n a fbi tl : Nat} {es : List D} {whr : List Wh} (e1 : H[iO]? = some (.box [.ref io 0 n])) (e2 : H[io]? = some (.arr 2 false 0 es)) (e3 : es.length = n)
 (e4:es[i]?=some (.agg [.ref a 0 tl,.ref fbi 0 whr.length])) (e5:H[fbi]?=some (.arr 2 false 0 (whs whr))) (e6:H[iB]?=some (.box (aa bm))) (hi:i<n) (hn:n≤1000000) (hl:whr.length≤1000000)
include hm e1 e2 e3 e4 e5 e6 hi hn hl
theorem RJ(k:Nat)(hk:k<whr.length)(w:Wh)(hw:nth whr k=w)(h1:w.time≤t)(h2:t≤2147483648)(h3:0≤w.time)(hf:w.frm.length=bm.places.length)(hb:bnd w.frm):
 fG false W7 H.length (exS aE K.fT ⟨slV t iB iO (I i) (I k),H⟩)=some ⟨slV t iB iO (I i) (I (k+1)),H.set fbi (.arr 2 false 0 (whs (whr.set k (ue bm w t))))++[w.box]⟩:=by
 have g:((whr.map Wh.e).map D.t)[k]?=some (.t w.e):=by rw[← hw];exact lH _ _ hk
 have hs:(whr.set k (ue bm w t)).map Wh.e=(whr.map Wh.e).set k (ue bm w t).e:=List.map_set
 have sl:=RH hm w hf hb t (by unfold inT;omega)
 have l1:=gM e1
 have l2:=gM e2
 have l3:=gM e5
 have l4:=gM e6
 generalize ue bm w t=w' at*
 obtain⟨t',f'⟩:=w'
 obtain⟨time,frm⟩:=w
 obtain⟨places,roads⟩:=bm
 simp only[aa,whs,Wh.box]at*
 rw[hs]
 simp(disch:=omega)only[go_sem,K.fT,↓reduceIte,e1,e2,e3,e4,e5,e6,g,sl,pC,dT,cF,sk,dF,List.set_cons_zero,Nat.reduceAdd,Nat.reduceSub]
theorem W8(k:Nat)(hk:k<whr.length)(w:Wh)(hw:nth whr k=w)(h1:t<w.time∨2147483648<t){nb:Nat}(f1:H[1]?=some (.box [.ref 3 0 nb]))(f2:H[2]?=some (.box [.nil])):
 exS aE K.fT ⟨slV t iB iO (I i) (I k),H⟩=some (.ret,⟨[.und,.und,.und,I t,.und,.bp 1 0,.bp 2 0,I 8,.bp iB 0,.und,.bp iO 0,I i,I k,.bp H.length 0],H.set 2 (.box [.ref 3 0 nb])++[w.box]⟩):=by
 have g:((whr.map Wh.e).map D.t)[k]?=some (.t w.e):=by rw[← hw];exact lH _ _ hk
 have l1:=gM e1
 have l2:=gM e2
 have l3:=gM e5
 have l4:=gM e6
 have l5:=gM f2
 obtain⟨time,frm⟩:=w
 obtain⟨places,roads⟩:=bm
 simp only[aa,whs,Wh.box]at*
 by_cases c:t<time
 · simp(disch:=omega)only[go_sem,K.fT,↓reduceIte,e1,e2,e3,e4,e5,e6,f1,f2,g,pC,dT,cF,sk,dF,List.set_cons_zero,Nat.reduceAdd,Nat.reduceSub]
 · simp(disch:=omega)only[go_sem,K.fT,↓reduceIte,e1,e2,e3,e4,e5,e6,f1,f2,g,pC,dT,cF,sk,dF,List.set_cons_zero,Nat.reduceAdd,Nat.reduceSub]
theorem acn:
 exS aE K.fT ⟨slV t iB iO (I i) (I whr.length),H⟩=some (.exit 2,⟨slV t iB iO (I i) (I whr.length),H⟩):=by
 obtain⟨places,roads⟩:=bm
 simp only[aa,whs,Wh.box]at*
 simp(disch:=omega)only[go_sem,K.fT,↓reduceIte,e1,e2,e3,e4,e5,e6,Nat.reduceAdd,Nat.reduceSub]
end
theorem Gy{gc:Bool}{dead:List Nat}{c:C}{vs:List D}{H:ai}(P:Nat→St→Prop)(n:Nat)(p:Nat→Bool)(Q:Bool→Ex×St→Prop)(h0:P 0 ⟨j7 dead vs,H⟩)
 (hs:∀j st,j<n→p j=false→P j st→∃st',fG gc dead st.H.length (exS aE c st)=some st'∧P (j+1) st')
 (he:∀j st,j<n→p j=true→P j st→∃q,exS aE c st=some q∧q.1≠ .normal∧Q true q)
 (hN:∀st,P n st→∃q,exS aE c st=some q∧q.1≠ .normal∧Q false q):∃q,exS aE (.loop gc dead c) ⟨vs,H⟩=some q∧Q ((List.range n).any p) q:=by
 have key:∀(k j:Nat) (st:St),j+k=n→(∀i,i<j→p i=false)→P j st→∃q,nV gc dead (exS aE c) st=some q∧Q ((List.range n).any p) q:=by
  intro k
  induction k with
  | zero=>
    intro j st hj hlt hp
    obtain⟨q,h1,h2,h3⟩:=hN st (by rw[← hj];exact hp)
    have:(List.range n).any p=false:=by
     rw[List.any_eq_false]
     intro x hx
     rw[hlt x (by have:=List.mem_range.1 hx;omega)];simp
    rw[this]
    exact⟨q,cN h1 h2,h3⟩
  | succ k ih=>
    intro j st hj hlt hp
    cases hpj:p j with
    | true=>
      obtain⟨q,h1,h2,h3⟩:=he j st (by omega) hpj hp
      have:(List.range n).any p=true:=List.any_eq_true.2 ⟨j,List.mem_range.2 (by omega),hpj⟩
      rw[this]
      exact⟨q,cN h1 h2,h3⟩
    | false=>
      obtain⟨st',h1,h2⟩:=hs j st (by omega) hpj hp
      obtain⟨q,h3,h4⟩:=ih (j+1) st' (by omega) (fun i hi=>by
       by_cases e:i=j
       · rw[e];exact hpj
       · exact hlt i (by omega)) h2
      exact⟨q,jO h1 h3,h4⟩
 exact key n 0 _ (by omega) (fun i hi=>by omega) h0
theorem Rp.app{H:ai}{id:Nat}{es:List D}{fa fb:Nat→Nat}{out:List World}(hr:Rp H id es fa fb out)(t:ai):Rp (H++t) id es fa fb out:=
 ⟨by rw[dT (gM hr.arr)];exact hr.arr,hr.len,hr.el,fun j hj=>by rw[dT (gM (hr.ha j hj))];exact hr.ha j hj,fun j hj=>by rw[dT (gM (hr.hb j hj))];exact hr.hb j hj,hr.na,hr.nb,hr.nab,hr.nbb⟩
structure SlH(H:ai)(b:List World)(bm:aM)(iB iO io:Nat)(es:List D)(fa fb:Nat→Nat)(A:List Nat)(O:List World):Prop where
 h1:H[1]?=some (.box [.ref 3 0 b.length])
 h2:H[2]?=some (.box [.nil])
 hB:H[iB]?=some (.box (aa bm))
 hO:H[iO]?=some (.box [.ref io 0 O.length])
 rp:Rp H io es fa fb O
 ar:∀i∈A,∃sz pin ep es,H[i]?=some (.arr sz pin ep es)
 nA:∀i∈A,∀j,j<O.length→i≠fb j
 eA:fF H 7 (.ref 3 0 b.length)=A
 fr:frz H 7 (.ref 3 0 b.length)=some (.sl (b.map World.e))
theorem SlH.step{H:ai}{b:List World}{bm:aM}{iB iO io:Nat}{es:List D}{fa fb:Nat→Nat}{A:List Nat}{O:List World}(h:SlH H b bm iB iO io es fa fb A O){i:Nat}(hi:i<O.length)(x:World)(ht:(nth O i).tags=x.tags)
 (hw:x.whr.length=(nth O i).whr.length) (o:Obj):SlH (H.set (fb i) (.arr 2 false 0 (whs x.whr))++[o]) b bm iB iO io es fa fb A (O.set i x):=by
 have hb:=h.rp.hb i hi
 have nb:∀ {k:Nat} {cs:List D},H[k]?=some (.box cs)→(H.set (fb i) (.arr 2 false 0 (whs x.whr))++[o])[k]?=some (.box cs):=fun{k cs} hk=>by
  have ne:fb i≠k:=fun e=>by rw[e,hk]at hb;cases hb
  rw[dT (by rw[List.length_set];exact gM hk),bg ne];exact hk
 have na:∀k∈A,(H.set (fb i) (.arr 2 false 0 (whs x.whr))++[o])[k]?=H[k]?:=fun k hk=>by
  obtain⟨sz,pin,ep,es',e⟩:=h.ar k hk
  rw[dT (by rw[List.length_set];exact gM e),bg (fun e=>h.nA k hk i hi e.symm)]
 have fc:=xU (H:=H) (H':=H.set (fb i) (.arr 2 false 0 (whs x.whr))++[o]) 7 (.ref 3 0 b.length) (fun k hk=>by
  rw[h.eA]at hk
  obtain⟨sz,pin,ep,es',e⟩:=h.ar k hk
  exact⟨sz,pin,pin,ep,es',e,by rw[na k hk];exact e⟩)
 refine⟨nb h.h1,nb h.h2,nb h.hB,by rw[List.length_set];exact nb h.hO,(h.rp.merge hi x ht hw).app _,fun k hk=>?_,by rw[List.length_set];exact h.nA,by rw[fc.2];exact h.eA,by rw[fc.1];exact h.fr⟩
 obtain⟨sz,pin,ep,es',e⟩:=h.ar k hk
 exact⟨sz,pin,ep,es',by rw[na k hk];exact e⟩
def SlE(b:List World)(H:ai):Prop:=H[2]?=some (.box [.ref 3 0 b.length])∧frz H 7 (.ref 3 0 b.length)=some (.sl (b.map World.e))
theorem SlH.late{H:ai}{b:List World}{bm:aM}{iB iO io:Nat}{es:List D}{fa fb:Nat→Nat}{A:List Nat}{O:List World}(h:SlH H b bm iB iO io es fa fb A O)(o:Obj):SlE b (H.set 2 (.box [.ref 3 0 b.length])++[o]):=by
 have l2:=gM h.h2
 have fc:=xU (H:=H) (H':=H.set 2 (.box [.ref 3 0 b.length])++[o]) 7 (.ref 3 0 b.length) (fun k hk=>by
  rw[h.eA]at hk
  obtain⟨sz,pin,ep,es',e⟩:=h.ar k hk
  have ne:2≠k:=fun e2=>by rw[← e2,h.h2]at e;cases e
  exact⟨sz,pin,pin,ep,es',e,by rw[dT (by rw[List.length_set];exact gM e),bg ne];exact e⟩)
 exact⟨by rw[dT (by rw[List.length_set];exact l2),de l2],by rw[fc.1];exact h.fr⟩
def D3(t:Int)(ws:List Wh)(k:Nat):Bool:=decide (t<(nth ws k).time∨2147483648<t)
def aeM(np:Nat)(w:Wh):Prop:=0≤w.time∧w.frm.length=np∧bnd w.frm
theorem aco{bm:aM}(hm:bm.ok){t:Int}{H:ai}{b:List World}{iB iO io:Nat}{es:List D}{fa fb:Nat→Nat}{A:List Nat}{O:List World}(h:SlH H b bm iB iO io es fa fb A O)(hn:O.length≤1000000)
 (i:Nat) (hi:i<O.length) (x:World) (hx:nth O i=x) (hl:x.whr.length≤1000000) (hw:∀w∈x.whr,aeM bm.places.length w) (z0 z1 z2 z4 z7 z9 z13:D):
 ∃q,exS aE K.xz ⟨[z0,z1,z2,I t,z4,.bp 1 0,.bp 2 0,z7,.bp iB 0,z9,.bp iO 0,I i,I 0,z13],H⟩=some q∧
  (if(List.range x.whr.length).any (D3 t x.whr)=true then ∃vs H',q=(.ret,⟨[.und,.und,.und,I t,.und,.bp 1 0,.bp 2 0,I 8]++vs,H'⟩)∧SlE b H'
   else ∃H',q=(.exit 2,⟨slV t iB iO (I i) (I x.whr.length),H'⟩)∧SlH H' b bm iB iO io es fa fb A (O.set i (mO bm t x x.whr.length))):=by
 refine Gy (fun k st=>∃H',st=⟨slV t iB iO (I i) (I k),H'⟩∧SlH H' b bm iB iO io es fa fb A (O.set i (mO bm t x k))) x.whr.length (D3 t x.whr)
  (fun late q=>if late=true then ∃vs H',q=(.ret,⟨[.und,.und,.und,I t,.und,.bp 1 0,.bp 2 0,I 8]++vs,H'⟩)∧SlE b H'
   else ∃H',q=(.exit 2,⟨slV t iB iO (I i) (I x.whr.length),H'⟩)∧SlH H' b bm iB iO io es fa fb A (O.set i (mO bm t x x.whr.length))) ?_ ?_ ?_ ?_
 · refine⟨H,rfl,?_⟩
   have:O.set i (mO bm t x 0)=O:=by
    have e:mO bm t x 0=nth O i:=by rw[hx];rfl
    rw[e]
    refine List.ext_getElem? fun j=>?_
    rw[List.getElem?_set]
    split
    · rename_i e;subst e;exact(fQ hi).symm
    · rfl
   rw[this];exact h
 · rintro k st hk hp ⟨H',rfl,h'⟩
   simp only[D3,decide_eq_false_iff_not]at hp
   have ol:(O.set i (mO bm t x k)).length=O.length:=List.length_set
   have hn':nth (O.set i (mO bm t x k)) i=mO bm t x k:=by rw[p7 _ _ hi,if_pos rfl]
   have sl:(jz bm t x.whr k).length=x.whr.length:=iH bm t x.whr k
   have hwk:=hw _ (ae hk)
   have e4:=h'.rp.el i (by omega)
   have e5:=h'.rp.hb i (by omega)
   rw[hn']at e4 e5
   simp only[mO]at e4 e5
   have nk:nth (jz bm t x.whr k) k=nth x.whr k:=by rw[oh _ _ _ _ _ (by omega),if_neg (by omega)]
   have r:=RJ hm (t:=t) i h'.hO h'.rp.arr h'.rp.len e4 e5 h'.hB (by omega) (by omega) (by omega) k (by omega) _ nk (by omega) (by omega) hwk.1 hwk.2.1 hwk.2.2
   refine⟨_,r,_,rfl,?_⟩
   have st:=h'.step (by omega:i<_) (mO bm t x (k+1)) (by rw[hn'];rfl) (by rw[hn'];simp only[mO,jz,List.length_set]) (nth x.whr k).box
   rw[List.set_set]at st
   exact st
 · rintro k st hk hp ⟨H',rfl,h'⟩
   simp only[D3,decide_eq_true_eq]at hp
   have ol:(O.set i (mO bm t x k)).length=O.length:=List.length_set
   have hn':nth (O.set i (mO bm t x k)) i=mO bm t x k:=by rw[p7 _ _ hi,if_pos rfl]
   have sl:(jz bm t x.whr k).length=x.whr.length:=iH bm t x.whr k
   have e4:=h'.rp.el i (by omega)
   have e5:=h'.rp.hb i (by omega)
   rw[hn']at e4 e5
   simp only[mO]at e4 e5
   have nk:nth (jz bm t x.whr k) k=nth x.whr k:=by rw[oh _ _ _ _ _ (by omega),if_neg (by omega)]
   have r:=W8 hm (t:=t) i h'.hO h'.rp.arr h'.rp.len e4 e5 h'.hB (by omega) (by omega) (by omega) k (by omega) _ nk hp h'.h1 h'.h2
   refine⟨_,r,by simp,?_⟩
   rw[if_pos rfl]
   exact⟨_,_,rfl,h'.late _⟩
 · rintro st ⟨H',rfl,h'⟩
   have ol:(O.set i (mO bm t x x.whr.length)).length=O.length:=List.length_set
   have hn':nth (O.set i (mO bm t x x.whr.length)) i=mO bm t x x.whr.length:=by rw[p7 _ _ hi,if_pos rfl]
   have sl:(jz bm t x.whr x.whr.length).length=x.whr.length:=iH bm t x.whr _
   have e4:=h'.rp.el i (by omega)
   have e5:=h'.rp.hb i (by omega)
   rw[hn']at e4 e5
   simp only[mO]at e4 e5
   have r:=acn hm (t:=t) i h'.hO h'.rp.arr h'.rp.len e4 e5 h'.hB (by omega) (by omega) (by omega)
   rw[sl]at r
   refine⟨_,r,by simp,?_⟩
   rw[if_neg (by simp)]
   exact⟨_,rfl,h'⟩
def zE(t:Int)(xs:List World)(i:Nat):Bool:=(List.range (nth xs i).whr.length).any (D3 t (nth xs i).whr)
theorem ahd{bm:aM}(hm:bm.ok){t:Int}{H:ai}{b:List World}{iB iO io:Nat}{es:List D}{fa fb:Nat→Nat}{A:List Nat}(h:SlH H b bm iB iO io es fa fb A b)(hn:b.length≤1000000)
 (hl:∀x∈b,x.sz) (hw:∀x∈b,∀w∈x.whr,aeM bm.places.length w) (z0 z1 z2 z4 z7 z9 z12 z13:D):
 ∃q,exS aE K.xA ⟨[z0,z1,z2,I t,z4,.bp 1 0,.bp 2 0,z7,.bp iB 0,z9,.bp iO 0,I 0,z12,z13],H⟩=some q∧
  (if(List.range b.length).any (zE t b)=true then ∃vs H',q=(.ret,⟨[.und,.und,.und,I t,.und,.bp 1 0,.bp 2 0,I 8]++vs,H'⟩)∧SlE b H'
   else ∃H',q=(.exit 0,⟨slV t iB iO (I b.length) .und,H'⟩)∧SlH H' b bm iB iO io es fa fb A (mi bm t b b.length)):=by
 refine Gy (fun i st=>∃H',st=⟨slV t iB iO (I i) .und,H'⟩∧SlH H' b bm iB iO io es fa fb A (mi bm t b i)) b.length (zE t b)
  (fun late q=>if late=true then ∃vs H',q=(.ret,⟨[.und,.und,.und,I t,.und,.bp 1 0,.bp 2 0,I 8]++vs,H'⟩)∧SlE b H'
   else ∃H',q=(.exit 0,⟨slV t iB iO (I b.length) .und,H'⟩)∧SlH H' b bm iB iO io es fa fb A (mi bm t b b.length)) ?_ ?_ ?_ ?_
 · exact⟨H,rfl,h⟩
 · rintro i st hi hp ⟨H',rfl,h'⟩
   have ol:=kX bm t b i
   have hx:nth (mi bm t b i) i=nth b i:=by rw[qB _ _ _ _ _ (by omega),if_neg (by omega)]
   have s:=hl _ (ae hi)
   obtain⟨q,hq,hQ⟩:=aco hm (t:=t) h' (by omega) i (by omega) (nth b i) hx s.2.1 (hw _ (ae hi)) .und .und .und .und .und .und .und
   unfold zE at hp
   rw[if_neg (by rw[hp];simp)]at hQ
   obtain⟨H2,rfl,h2⟩:=hQ
   have e1:=h'.hO
   have e2:=h'.rp.arr
   have e3:=h'.rp.len
   refine⟨⟨slV t iB iO (I (i+1)) .und,H2⟩,?_,H2,rfl,h2⟩
   simp(disch:=omega)only[go_sem,K.mR,↓reduceIte,e1,e2,e3,hq,Nat.reduceAdd,Nat.reduceSub]
 · rintro i st hi hp ⟨H',rfl,h'⟩
   have ol:=kX bm t b i
   have hx:nth (mi bm t b i) i=nth b i:=by rw[qB _ _ _ _ _ (by omega),if_neg (by omega)]
   have s:=hl _ (ae hi)
   obtain⟨q,hq,hQ⟩:=aco hm (t:=t) h' (by omega) i (by omega) (nth b i) hx s.2.1 (hw _ (ae hi)) .und .und .und .und .und .und .und
   unfold zE at hp
   rw[if_pos hp]at hQ
   obtain⟨vs,H2,rfl,h2⟩:=hQ
   have e1:=h'.hO
   have e2:=h'.rp.arr
   have e3:=h'.rp.len
   refine⟨(.ret,⟨[.und,.und,.und,I t,.und,.bp 1 0,.bp 2 0,I 8]++vs,H2⟩),?_,by simp,?_⟩
   · simp(disch:=omega)only[go_sem,K.mR,↓reduceIte,e1,e2,e3,hq,Nat.reduceAdd,Nat.reduceSub]
   · rw[if_pos rfl];exact⟨vs,H2,rfl,h2⟩
 · rintro st ⟨H',rfl,h'⟩
   have ol:=kX bm t b b.length
   have e1:=h'.hO
   have e2:=h'.rp.arr
   have e3:=h'.rp.len
   refine⟨(.exit 0,⟨slV t iB iO (I b.length) .und,H'⟩),?_,by simp,?_⟩
   · simp(disch:=omega)only[go_sem,K.mR,↓reduceIte,e1,e2,e3,ol,Nat.reduceAdd,Nat.reduceSub]
   · rw[if_neg (by simp)];exact⟨H',rfl,h'⟩
end Go.Ev
namespace Go.Ev
open Go
variable [Lib] [bW] [bL] [fJ] [eY]
theorem RK(H:ai)(ws:List World)(n:Nat):sV H (.agg [.ref 0 0 n],cpH 0 ws)=some (.agg [.ref H.length 0 n],H++cpH H.length ws):=by
 have e:sV H (.agg [.ref 0 0 n],cpH 0 ws)=(ren (bJ [] H.length) depth (.agg [.ref 0 0 n])).bind fun r'=>(bA (bY (bJ [] H.length)) (cpH 0 ws)).map fun os=>(r',H++os):=by
  unfold sV
  rw[if_neg (by simp[cpH])]
 rw[e,TD]
 simp[ren,depth,bA,bJ]
theorem JV(H H1:ai)(ws:List World)(n:Nat):vL H H1 [] (.agg [.ref 0 0 n],cpH 0 ws)=some (.agg [.ref H.length 0 n],H1++cpH H.length ws):=by
 have e:vL H H1 [] (.agg [.ref 0 0 n],cpH 0 ws)=FB H1 H.length [] (.agg [.ref 0 0 n],cpH 0 ws):=by
  unfold vL
  rw[if_neg (by simp[cpH])]
 have e2:ren (bJ [] H.length) 8 (.agg [.ref 0 0 n])=some (.agg [.ref H.length 0 n]):=by simp[ren,bA,bJ]
 rw[e,Dw,e2,Option.bind_some]
 unfold QL
 rw[TD]
 simp[No,dw]
def C.snd:C→C
 | .seq _ b=>b
 | c=>c
theorem Iv{a b t:ai}:(a++b++t)[a.length+b.length]?=t[0]?:=by
 rw[List.getElem?_append_right (by simp)];simp
theorem O7{a b t:ai}{o:Obj}:(a++b++t).set (a.length+b.length) o=a++b++t.set 0 o:=by
 rw[List.set_append_right _ _ (by simp)];simp
def rpA(fa fb:Nat→Nat)(n:Nat):List Nat:=(List.range n).flatMap (fun j=>[fa j,fb j])
theorem Rp.in6{H:ai}{id:Nat}{es:List D}{fa fb:Nat→Nat}{out:List World}(hr:Rp H id es fa fb out):bA (Go.Ev.frz H 6) es=some (out.map World.e)∧uH H 6 es=rpA fa fb out.length:=by
 obtain⟨h1,h2⟩:=hr.Zu 3
 constructor
 · simp only[Go.Ev.frz,fV,hr.arr]at h1
   rw[if_pos (by simp[hr.len]),Option.bind_some]at h1
   obtain⟨x,hx,he⟩:=Option.map_eq_some_iff.1 h1
   cases he
   exact hx
 · simp only[fF,hr.arr]at h2
   exact(List.cons.inj h2).2
theorem TE(s:Nat)(ws:List World):(cpH s ws).length=2*ws.length+1:=by simp[cpH]
theorem JW{X:ai}{s:Nat}(hs:X.length=s)(ws:List World)(t:ai){k:Nat}(hk:k<2*ws.length):(X++cpH s ws++t)[s+k+1]?=some (D1 ws k):=by
 subst hs
 rw[List.append_assoc,List.getElem?_append_right (by omega),show X.length+k+1-X.length=k+1 by omega,List.getElem?_append_left (by rw[TE];omega)]
 unfold cpH
 rw[List.getElem?_cons_succ,List.getElem?_map,List.getElem?_range hk];rfl
theorem acp{X:ai}{s:Nat}(hs:X.length=s)(ws:List World)(t:ai):Rp (X++cpH s ws++t) s ((List.range ws.length).map (P2 s ws)) (fun j=>s+2*j+1) (fun j=>s+2*j+2) ws where
 arr:=by
  subst hs
  rw[List.append_assoc,List.getElem?_append_right (Nat.le_refl _),Nat.sub_self];rfl
 len:=by simp
 el:=fun j hj=>by rw[List.getElem?_map,List.getElem?_range hj];rfl
 ha:=fun j hj=>by
  have:=JW hs ws t (k:=2*j) (by omega)
  rw[this]
  unfold D1
  rw[if_pos (by omega),show 2*j / 2=j by omega]
 hb:=fun j hj=>by
  have:=JW hs ws t (k:=2*j+1) (by omega)
  rw[show s+2*j+2=s+(2*j+1)+1 by omega,this]
  unfold D1
  rw[if_neg (by omega),show(2*j+1) / 2=j by omega]
 na:=fun j _=>by omega
 nb:=fun j _=>by omega
 nab:=fun i j _ _=>by omega
 nbb:=fun i j _ _ h=>by omega
abbrev slP(H:ai)(es:List D)(A:List Nat)(bm:aM):ai:=pins (H.set 3 (.arr 2 true 0 es)++[.box (aa bm)]) A
theorem O8(H:ai)(es:List D)(A:List Nat)(bm:aM):(slP H es A bm).length=H.length+1:=by
 have key:∀(A:List Nat) (H:ai),(pins H A).length=H.length:=by
  intro A
  induction A with
  | nil=>intro H;rfl
  | cons a A ih=>intro H;rw[pins,ih];simp
 simp[key]
theorem acq{H:ai}{ws:List World}{fa fb:Nat→Nat}{es:List D}(rp:Rp H 3 es fa fb ws){m bm:aM}(h1:H[1]?=some (.box [.ref 3 0 ws.length]))(h2:H[2]?=some (.box [.nil])):
 SlH (slP H es (rpA fa fb ws.length) bm++cpH (H.length+1) ws++[.box [.ref (H.length+1) 0 ws.length]]) ws bm H.length ((slP H es (rpA fa fb ws.length) bm).length+(cpH (H.length+1) ws).length) (H.length+1)
  ((List.range ws.length).map (P2 (H.length+1) ws)) (fun j=>H.length+1+2*j+1) (fun j=>H.length+1+2*j+2) (3::rpA fa fb ws.length) ws:=by
 have pl:=O8 H es (rpA fa fb ws.length) bm
 have l3:=gM rp.arr
 have low:∀ {k:Nat},k<H.length+1→(slP H es (rpA fa fb ws.length) bm++cpH (H.length+1) ws++[.box [.ref (H.length+1) 0 ws.length]])[k]?=(slP H es (rpA fa fb ws.length) bm)[k]?:=fun{k} hk=>by
  rw[List.append_assoc,dT (by omega)]
 have bx:∀ {k:Nat} {cs:List D},H[k]?=some (.box cs)→(slP H es (rpA fa fb ws.length) bm++cpH (H.length+1) ws++[.box [.ref (H.length+1) 0 ws.length]])[k]?=some (.box cs):=fun{k cs} hk=>by
  have:=gM hk
  rw[low (by omega)]
  refine D2 ?_
  have ne:3≠k:=fun e=>by rw[← e,rp.arr]at hk;cases hk
  rw[dT (by rw[List.length_set];exact this),bg ne];exact hk
 have ar:∀ {k sz ep:Nat} {pin:Bool} {es':List D},H[k]?=some (.arr sz pin ep es')→∃pin',(slP H es (rpA fa fb ws.length) bm++cpH (H.length+1) ws++[.box [.ref (H.length+1) 0 ws.length]])[k]?=some (.arr sz pin' ep es'):=fun{k sz ep pin es'} hk=>by
  have:=gM hk
  rw[low (by omega)]
  by_cases e:k=3
  · subst e
    rw[rp.arr]at hk;cases hk
    exact JU (pin:=true) (by rw[dT (by rw[List.length_set];exact this),de l3])
  · exact JU (pin:=pin) (by rw[dT (by rw[List.length_set];exact this),bg (fun x=>e x.symm)];exact hk)
 obtain⟨f1,f2⟩:=rp.Zu 3
 have inA:∀i∈(3::rpA fa fb ws.length),∃sz ep es',H[i]?=some (.arr sz false ep es'):=by
  intro i hi
  rcases List.mem_cons.1 hi with rfl | hi
  · exact⟨_,_,_,rp.arr⟩
  · obtain⟨j,hj,hi⟩:=List.mem_flatMap.1 hi
    have hj:=List.mem_range.1 hj
    simp only[List.mem_cons,List.not_mem_nil,or_false]at hi
    rcases hi with rfl | rfl
    · exact⟨_,_,_,rp.ha j hj⟩
    · exact⟨_,_,_,rp.hb j hj⟩
 have fc:=xU (H:=H) (H':=slP H es (rpA fa fb ws.length) bm++cpH (H.length+1) ws++[.box [.ref (H.length+1) 0 ws.length]]) 7 (.ref 3 0 ws.length) (fun i hi=>by
  rw[f2]at hi
  obtain⟨sz,ep,es',e⟩:=inA i hi
  obtain⟨pin',e'⟩:=ar e
  exact⟨sz,false,pin',ep,es',e,e'⟩)
 refine⟨bx h1,bx h2,?_,?_,acp pl ws _,fun i hi=>?_,fun i hi j hj=>?_,by rw[fc.2,f2];rfl,by rw[fc.1,f1]⟩
 · rw[low (by omega)]
   refine D2 ?_
   rw[List.getElem?_append_right (by simp)];simp
 · rw[Iv];rfl
 · obtain⟨sz,ep,es',e⟩:=inA i hi
   obtain⟨pin',e'⟩:=ar e
   exact⟨sz,pin',ep,es',e'⟩
 · obtain⟨sz,ep,es',e⟩:=inA i hi
   have:=gM e
   omega
theorem RL(l:List World)(h0:1≤l.length)(hl:l.length≤100000)(hs:∀x∈l,x.sz):
 aE 0 N.fW [.t (.sl (l.map World.e))] []=some (.t (.sl ((lY l).map World.e)),[]):=by
 refine ak K.pf rfl ?_
 have loop:∀a b c:D,∃q,exS aE K.qR ⟨[.t (.sl (l.map World.e)),a,.nil,I 0,b,c],[]⟩=some q∧∃v H,q=(.exit 0,⟨[.t (.sl (l.map World.e)),.und,v,I l.length,.und,.und],H⟩)∧Rep H v (lY l):=by
  intro a b c
  refine xJ (fun j st=>∃v H,st=⟨[.t (.sl (l.map World.e)),.und,v,I j,.und,.und],H⟩∧Rep H v (o6 l j)) l.length _ ⟨.nil,[],rfl,.inl ⟨rfl,rfl⟩⟩ ?_ ?_
  · rintro j st hj ⟨v,H,rfl,hr⟩
    have ln:=Bh l j
    obtain⟨v',H',h1,h2⟩:=CS l j hj (by omega) (o6 l j) (by omega) (DP hs j (by omega)) (hs _ (ae hj)) H v hr
    exact⟨_,h1,v',H',rfl,h2⟩
  · rintro st ⟨v,H,rfl,hr⟩
    refine⟨(.exit 0,⟨[.t (.sl (l.map World.e)),.und,v,I l.length,.und,.und],H⟩),?_,by simp,v,H,rfl,hr⟩
    simp(disch:=omega)only[go_sem,K.dN,↓reduceIte,Nat.reduceAdd,Nat.reduceSub]
 obtain⟨q,hq,v,H,rfl,hr⟩:=loop .nil .und .und
 have nz:1≤(lY l).length:=by
  unfold lY
  cases hn:l.length with
  | zero=>omega
  | succ n=>exact(tU _ _).2.2
 rcases hr with⟨rfl,he⟩ | ⟨id,es,fa,fb,rfl,h0,hr⟩
 · rw[he]at nz;simp at nz
 · obtain⟨f1,f2⟩:=hr.Zu 4
   have fin:finish 0 0 H [.ref id 0 (lY l).length]=some (.t (.sl ((lY l).map World.e)),[]):=by
    unfold finish
    simp only[uN,depth,f1,bA,Option.map_some,Option.bind_some,if_true,List.all_cons,List.all_nil,old,List.take_zero,Bool.and_true,Nat.zero_le,decide_true,sC]
    simp
   simp(disch:=omega)only[go_sem,K.fW,↓reduceIte,Nat.reduceAdd,Nat.reduceSub,hq,fin]
def kM(m:aM)(b:Bel)(bars:List Int)(t:Int):Bel×Int:=
 if rG m b=false then(b,6)else if(fE m bars).2≠0 then(b,(fE m bars).2)else if(List.range b.worlds.length).any (zE t b.worlds)=true then(b,8)
 else(⟨lY (mi (fE m bars).1 t b.worlds b.worlds.length)⟩,0)
theorem JX{m:aM}{b:Bel}(h:rG m b=true):∀x∈b.worlds,∀w∈x.whr,aeM m.places.length w:=by
 obtain⟨w1,w2,f1,f2,w5⟩:=fK h
 intro x hx w hw
 obtain⟨i,hi,rfl⟩:=List.getElem_of_mem hx
 have e:nth b.worlds i=b.worlds[i]:=bG (List.getElem?_eq_getElem hi)
 have q:=w5 i hi
 have q':=q
 unfold pq at q
 obtain⟨q1,q2, -⟩:=hU q'
 simp only[Bool.and_eq_true,List.all_eq_true,List.mem_range]at q
 rw[← e]at hw
 obtain⟨k,hk,rfl⟩:=List.getElem_of_mem hw
 have e2:nth (nth b.worlds i).whr k=(nth b.worlds i).whr[k]:=bG (List.getElem?_eq_getElem hk)
 have:=q.2 k (by omega)
 unfold KX at this
 rw[Bool.and_eq_true]at this
 obtain⟨p1,p2,p3, -⟩:=cJ this.2
 rw[e2]at p1 p2 p3
 exact⟨p2.1,p1,fun y hy=>nF (p3 y hy)⟩
theorem Rp.in7{H:ai}{id:Nat}{es:List D}{fa fb:Nat→Nat}{out:List World}(hr:Rp H id es fa fb out):bA (Go.Ev.frz H 7) es=some (out.map World.e)∧uH H 7 es=rpA fa fb out.length:=by
 obtain⟨h1,h2⟩:=hr.Zu 4
 constructor
 · simp only[Go.Ev.frz,fV,hr.arr]at h1
   rw[if_pos (by simp[hr.len]),Option.bind_some]at h1
   obtain⟨x,hx,he⟩:=Option.map_eq_some_iff.1 h1
   cases he
   exact hx
 · simp only[fF,hr.arr]at h2
   exact(List.cons.inj h2).2
theorem acr{m:aM}(hm:m.ok)(ws:List World)(hs:(Bel.mk ws).sz)(bars:List Int)(hb:bars.length≤1000000)(t:Int)(H:ai)(es:List D)(fa fb:Nat→Nat)(h0:H[0]?=some (.box (aa m)))(h1:H[1]?=some (.box [.ref 3 0 ws.length]))
 (h2:H[2]?=some (.box [.nil])) (rp:Rp H 3 es fa fb ws) (v0 v1 v8 v9 v10 v11 v12 v13:D):
 ∃vs' H',exS aE K.dZ.body.snd.snd ⟨[v0,v1,.t (tL bars),I t,.bp 0 0,.bp 1 0,.bp 2 0,I 0,v8,v9,v10,v11,v12,v13],H⟩=some (.ret,⟨vs',H'⟩)∧vs'[6]?=some (.bp 2 0)∧vs'[7]?=some (I (kM m ⟨ws⟩ bars t).2)∧
  ∃c,H'[2]?=some (.box [c])∧frz H' 7 c=some (.sl ((kM m ⟨ws⟩ bars t).1.worlds.map World.e)):=by
 have vb:=H6 hm ⟨ws⟩ hs
 have l3:=gM rp.arr
 have h3:=rp.arr
 have el:=rp.len
 obtain⟨f6,a6⟩:=rp.in6
 obtain⟨fz, -⟩:=rp.Zu 3
 have hs1:=hs.1
 simp only at hs1
 -- what is returned unchanged
 have back:∀tt:ai,SlE ws (H.set 2 (.box [.ref 3 0 ws.length])++tt):=fun tt=>by
  have fc:=xU (H:=H) (H':=H.set 2 (.box [.ref 3 0 ws.length])++tt) 7 (.ref 3 0 ws.length) (fun i hi=>by
   rw[(rp.Zu 3).2]at hi
   have:∃sz ep es',H[i]?=some (.arr sz false ep es'):=by
    rcases List.mem_cons.1 hi with rfl | hi
    · exact⟨_,_,_,rp.arr⟩
    · obtain⟨j,hj,hi⟩:=List.mem_flatMap.1 hi
      have hj:=List.mem_range.1 hj
      simp only[List.mem_cons,List.not_mem_nil,or_false]at hi
      rcases hi with rfl | rfl
      · exact⟨_,_,_,rp.ha j hj⟩
      · exact⟨_,_,_,rp.hb j hj⟩
   obtain⟨sz,ep,es',e⟩:=this
   have ne:2≠i:=fun x=>by rw[← x,h2]at e;cases e
   exact⟨sz,false,false,ep,es',e,by rw[dT (by rw[List.length_set];exact gM e),bg ne];exact e⟩)
  exact⟨by rw[dT (by rw[List.length_set];exact gM h2)];exact de (gM h2),by rw[fc.1,fz]⟩
 have back0:=back []
 rw[List.append_nil]at back0
 unfold kM
 cases hv:rG m ⟨ws⟩with
 | false=>
   rw[hv]at vb
   refine⟨[v0,v1,.t (tL bars),I t,.bp 0 0,.bp 1 0,.bp 2 0,I 6,v8,v9,v10,v11,v12,v13],H.set 2 (.box [.ref 3 0 ws.length]),?_,rfl,by rw[if_pos rfl];rfl,.ref 3 0 ws.length,back0.1,by rw[if_pos rfl];exact back0.2⟩
   obtain⟨places,roads⟩:=m
   simp only[aa]at*
   simp(disch:=omega)only[go_sem,K.dZ,C.snd,↓reduceIte,h0,h1,h2,h3,el,f6,a6,vb,Nat.reduceAdd,Nat.reduceSub]
 | true=>
   rw[hv]at vb
   rw[if_neg (by simp)]
   have br:=Gx hm bars hb
   by_cases e0:(fE m bars).2=0
   rotate_left
   · rw[if_pos e0]
     generalize (fE m bars).2=ee at*
     generalize (fE m bars).1=bm at*
     refine⟨[v0,v1,.t (tL bars),I t,.bp 0 0,.bp 1 0,.bp 2 0,I ee,.bp H.length 0,I ee,v10,v11,v12,v13],H.set 2 (.box [.ref 3 0 ws.length])++[.box (aa bm)],?_,rfl,rfl,.ref 3 0 ws.length,(back _).1,(back _).2⟩
     · obtain⟨places,roads⟩:=m
       obtain⟨bp,brd⟩:=bm
       simp only[aa]at*
       simp(disch:=omega)only[go_sem,K.dZ,C.snd,↓reduceIte,h0,h1,h2,h3,el,f6,a6,vb,br,e0,sk,dT,cF,dF,List.set_cons_zero,Nat.reduceAdd,Nat.reduceSub]
   · rw[if_neg (fun h=>h e0)]
     have sb:tw bars m.roads.length=true:=by
      unfold fE at e0
      split at e0
      · cases e0
      · rename_i h;simpa using h
     have eb:fE m bars=(ic m bars,0):=by unfold fE;rw[if_neg (by rw[sb];simp)]
     have bmo:=uC hm sb
     have bpl:(ic m bars).places.length=m.places.length:=rfl
     rw[eb]at br ⊢
     simp only at br ⊢
     have wok:=JX hv
     rw[← bpl]at wok
     generalize ic m bars=bm at*
     have sl:=acq rp (bm:=bm) (m:=m) h1 h2
     have f6':=fun tt=>(rp.app tt).in6.1
     have a6':=fun tt=>(rp.app tt).in6.2
     have cb:=Bq ⟨ws⟩ hs
     have loop:=fun z0 z1 z12 z13=>ahd bmo (t:=t) sl hs1 hs.2 wok z0 z1 (.t (tL bars)) (.bp 0 0) (I 0) (I 0) z12 z13
     obtain⟨q,hq,hQ⟩:=loop v0 v1 v12 v13
     by_cases la:(List.range ws.length).any (zE t ws)=true
     · rw[if_pos la]at hQ ⊢
       obtain⟨vs,H',rfl,g1,g2⟩:=hQ
       refine⟨[.und,.und,.und,I t,.und,.bp 1 0,.bp 2 0,I 8]++vs,H',?_,rfl,rfl,_,g1,g2⟩
       clear loop wok sl back back0
       obtain⟨places,roads⟩:=m
       obtain⟨bp,brd⟩:=bm
       simp only[aa,slP]at*
       simp(disch:=omega)only[go_sem,K.dZ,C.snd,↓reduceIte,h0,h1,h2,h3,el,f6,a6,f6',a6',vb,br,cb,JV,sk,dT,cF,dF,Iv,O7,List.set_cons_zero,hq,Nat.reduceAdd,Nat.reduceSub]
     · rw[if_neg la]at hQ ⊢
       obtain⟨H',rfl,h'⟩:=hQ
       have ol:=kX bm t ws ws.length
       have szs:∀x∈mi bm t ws ws.length,x.sz:=by
        intro x hx
        obtain⟨i,hi,rfl⟩:=List.getElem_of_mem hx
        have e:nth (mi bm t ws ws.length) i=(mi bm t ws ws.length)[i]:=bG (List.getElem?_eq_getElem hi)
        rw[← e,qB _ _ _ _ _ (Nat.le_refl _),if_pos (by omega)]
        have hi':i<ws.length:=by omega
        obtain⟨y1,y2,y3⟩:=hs.2 _ (ae hi')
        refine⟨y1,by simp only[mO,iH];exact y2,fun w hw=>?_⟩
        simp only[mO]at hw
        obtain⟨k,hk,rfl⟩:=List.getElem_of_mem hw
        have e2:nth (jz bm t (nth ws i).whr (nth ws i).whr.length) k=(jz bm t (nth ws i).whr (nth ws i).whr.length)[k]:=bG (List.getElem?_eq_getElem hk)
        rw[iH]at hk
        rw[← e2,oh _ _ _ _ _ (Nat.le_refl _),if_pos hk]
        have wk:aeM bm.places.length (nth (nth ws i).whr k):=wok _ (ae hi') _ (ae hk)
        obtain⟨q1,q2,q3⟩:=wk
        have nl:¬D3 t (nth ws i).whr k=true:=fun hc=>la (List.any_eq_true.2 ⟨i,List.mem_range.2 hi',List.any_eq_true.2 ⟨k,List.mem_range.2 hk,hc⟩⟩)
        simp only[D3,decide_eq_true_eq]at nl
        have cl:=kS bmo t (by unfold inT;omega) none (by simp) (l:=m9 (nth (nth ws i).whr k).frm t (nth (nth ws i).whr k).frm.length) (by rw[gW];exact q2) (Bt q3 t _)
        simp only[ue]
        have:=bmo.np
        omega
       obtain⟨w1,w2,f1,f2,w5⟩:=fK hv
       have ty:=RL (mi bm t ws ws.length) (by rw[ol];exact w1) (by rw[ol];simp only at w2;omega) szs
       have e1:=h'.hO
       have e2:=h'.rp.arr
       have e3:=h'.rp.len
       have g2:=h'.h2
       obtain⟨f7,a7⟩:=h'.rp.in7
       rw[ol]at e3 a7 e1
       have pl:=O8 H es (rpA fa fb ws.length) bm
       have ne2:(slP H es (rpA fa fb ws.length) bm).length+(cpH (H.length+1) ws).length≠2:=by rw[pl,TE];omega
       have px:∀ {k:Nat} {cs:List D},H'[k]?=some (.box cs)→(pins (H'.set (H.length+1) (.arr 2 true 0 ((List.range ws.length).map (P2 (H.length+1) ws)))) (rpA (fun j=>H.length+1+2*j+1) (fun j=>H.length+1+2*j+2) ws.length))[k]?=some (.box cs):=fun{k cs} hk=>by
        have ne:H.length+1≠k:=fun e=>by rw[← e,e2]at hk;cases hk
        exact D2 (by rw[bg ne];exact hk)
       have p1:=px e1
       have p2:=px g2
       have l1:=gM p1
       have l2:=gM p2
       generalize lY (mi bm t ws ws.length)=Z at*
       generalize mi bm t ws ws.length=Y at*
       refine⟨[.und,.und,.und,I t,.und,.bp 1 0,.bp 2 0,I 0,.bp H.length 0,.und,.bp ((slP H es (rpA fa fb ws.length) bm).length+(cpH (H.length+1) ws).length) 0,I ws.length,.und,.und],(((pins (H'.set (H.length+1) (.arr 2 true 0 ((List.range ws.length).map (P2 (H.length+1) ws)))) (rpA (fun j=>H.length+1+2*j+1) (fun j=>H.length+1+2*j+2) ws.length)).set ((slP H es (rpA fa fb ws.length) bm).length+(cpH (H.length+1) ws).length) (.box [.t (.sl (Z.map World.e))])).set 2 (.box [.t (.sl (Z.map World.e))])),?_,rfl,rfl,.t (.sl (Z.map World.e)),?_,by simp only[QA]⟩
       rotate_left
       · exact de (by rw[List.length_set];exact l2)
       clear loop wok sl back back0 px h'
       obtain⟨places,roads⟩:=m
       obtain⟨bp,brd⟩:=bm
       simp only[aa,slP]at*
       simp(disch:=omega)only[go_sem,K.dZ,C.snd,↓reduceIte,h0,h1,h2,h3,el,f6,a6,f6',a6',vb,br,cb,JV,sk,dT,cF,dF,Iv,O7,List.set_cons_zero,hq,e1,e2,e3,f7,a7,ty,p1,p2,de,bg,Nat.reduceAdd,Nat.reduceSub]
theorem RM{H:ai}{c:D}{x:T}(h:frz H 7 c=some x):uN H (mkA [c] (r9 [c]))=some (.t (.agg [x])):=by
 have key:uN H (.agg [c])=some (.t (.agg [x])):=by
  show((bA (frz H 7) [c]).map T.agg).map D.t=_
  simp only[bA,h,Option.map_some,Option.bind_some]
 cases c with
 | t y=>
   rw[QA]at h;cases h;rfl
 | _=>exact key
theorem W9(l:List Nat):Du 0 l=true:=by
 rw[← Dv];simp
theorem Xa{m:aM}(hm:m.ok)(b:Bel)(hs:b.sz)(bars:List Int)(hb:bars.length≤1000000)(t:Int):
 aE 0 N.dZ [.t m.e,.t b.e,.t (tL bars),I t] []=some (.tup [.t (kM m b bars t).1.e,I (kM m b bars t).2],[]):=by
 refine ak K.tH rfl ?_
 obtain⟨ws⟩:=b
 have cb:=Bq ⟨ws⟩ hs
 have rp:=acp (X:=[.box (aa m),.box [.ref 3 0 ws.length],.box [.nil]]) (s:=3) rfl ws []
 rw[List.append_nil]at rp
 obtain⟨vs',H',hA,g6,g7,c,g2,gf⟩:=acr hm ws hs bars hb t ([.box (aa m),.box [.ref 3 0 ws.length],.box [.nil]]++cpH 3 ws) _ _ _ rfl rfl rfl rp (.t m.e) (.t (Bel.mk ws).e) .und .und .und .und .und .und
 generalize kM m ⟨ws⟩ bars t=R at*
 obtain⟨⟨rw_⟩,e⟩:=R
 obtain⟨places,roads⟩:=m
 simp only[aa,K.dZ,C.snd,List.cons_append,List.nil_append]at*
 clear rp
 simp(disch:=omega)only[go_sem,K.dZ,↓reduceIte,cb,RK,↓hA,g6,g7,g2,RM gf,W9,Nat.reduceAdd,Nat.reduceSub,List.cons_append,List.nil_append]
end Go.Ev
namespace Go.Ev
open Go
variable [Lib] [bW] [bL] [fJ] [eY] [jB] [fM] [fN] [iI] [gu] [ec] [du] [iV] [eQ] [iJ] [j4]
theorem zx(m:aM)(k:Nat)(back:Bool)(h:(nth m.roads k).closed=true):eE m k back 6 9 12= -1:=by
 unfold eE;simp[h]
theorem O9{m:aM}(h:m.ok)(area:List Int)(ha:area.length≤1000000)(k:Nat)(hk:k<m.roads.length):
 aE 0 N.cR [I k,.bp 0 0,.bp 1 0] [.box (aa m),.box [.t (tL area)]]=some (B (zD m area k),[.box (aa m),.box [.t (tL area)]]):=by
 refine ak K.oN rfl ?_
 have ex:(m.roads.map Road.e)[k]?=some (nth m.roads k).e:=bP _ hk
 have t1:=DK h k hk false
 have t2:=DK h k hk true
 have k1:=ru area (nth m.roads k).frm (by omega)
 have k2:=ru area (nth m.roads k).to (by omega)
 have cl1:=zx m k false
 have cl2:=zx m k true
 have e:zD m area k=(!(nth m.roads k).closed&&(decide (0≤eE m k false 6 9 12)||decide (0≤eE m k true 6 9 12))&&(decide ((nth m.roads k).frm∈area) != decide ((nth m.roads k).to∈area))):=rfl
 rw[e]
 clear e
 generalize eE m k false 6 9 12=w1 at*
 generalize eE m k true 6 9 12=w2 at*
 generalize nth m.roads k=x at*
 obtain⟨frm,to,len,ar,walk,closed,rl,rh,ll,lh⟩:=x
 simp only at*
 generalize decide (frm∈area)=b1 at*
 generalize decide (to∈area)=b2 at*
 obtain⟨places,roads⟩:=m
 simp only[aa]at*
 cases closed with
 | true=>
   have:=cl1 rfl
   have:=cl2 rfl
   have c1:¬0≤w1:=by omega
   have c2:¬0≤w2:=by omega
   cases b1<;>cases b2
   all_goals simp(disch:=omega)only[go_sem,K.cR,↓reduceIte,ex,t1,t2,k1,k2,c1,c2,Bool.not_true,Bool.false_and,Nat.reduceAdd,Nat.reduceSub]
 | false=>
   by_cases c1:0≤w1<;>by_cases c2:0≤w2<;>cases b1<;>cases b2
   all_goals simp(disch:=omega)only[go_sem,K.cR,↓reduceIte,ex,t1,t2,k1,k2,c1,c2,decide_true,decide_false,Bool.not_false,Bool.true_and,Bool.or_true,Bool.or_false,Bool.or_self,Bool.and_true,Bool.and_false,Bool.bne_true,Bool.bne_false,Bool.not_true,Bool.and_self,bne_self_eq_false,Bool.false_and,Nat.reduceAdd,Nat.reduceSub]
theorem Lw{m:aM}(h:m.ok)(area:List Int)(ha:area.length≤1000000):aE 0 N.gy [.t m.e,.t (tL area)] []=some (.t (tL (BW m area)),[]):=by
 refine ak K.rP rfl ?_
 have nr:=h.nr
 have wh:=zX m.roads.length (by omega) N.cR [[.sl (m.places.map Place.e),.sl (m.roads.map Road.e)],[tL area]] (zD m area) (fun k hk=>O9 h area ha k hk)
 have wh:aE 0 N.bZ [I m.roads.length,.fn N.cR [.bp 0 0,.bp 1 0]] [.box (aa m),.box [.t (tL area)]]=some (.t (tL (BW m area)),[.box (aa m),.box [.t (tL area)]]):=wh
 generalize BW m area=r at*
 obtain⟨places,roads⟩:=m
 simp only[aa]at*
 simp(disch:=omega)only[go_sem,K.gy,↓reduceIte,wh,Nat.reduceAdd,Nat.reduceSub]
theorem Lx(l:List Place)(hl:l.length≤1000000):aE 0 N.aH [.t (.sl (l.map Place.e))] []=some (.t (.sl (l.map Place.e)),[]):=by
 refine ak K.dI rfl ?_
 by_cases h0:l=[]
 · subst h0
   simp only[List.map_nil]
   simp(disch:=omega)only[go_sem,K.aH,↓reduceIte,List.map_nil,Nat.reduceAdd,Nat.reduceSub]
 · have e:=fun H=>zW H (l.map Place.e) (by simpa using h0)
   simp(disch:=omega)only[go_sem,K.aH,↓reduceIte,e,Nat.reduceAdd,Nat.reduceSub]
theorem Lz(l:List Road)(hl:l.length≤1000000):aE 1 N.aL [.t (.sl (l.map Road.e))] []=some (.ref 0 0 l.length,[.arr 10 false 0 ((l.map Road.e).map .t)]):=by
 refine ak K.eo rfl ?_
 by_cases h0:l=[]
 · subst h0
   simp only[List.map_nil]
   simp(disch:=omega)only[go_sem,K.aL,↓reduceIte,List.map_nil,List.length_nil,Nat.reduceAdd,Nat.reduceSub]
 · have e:=fun H=>zW H (l.map Road.e) (by simpa using h0)
   simp(disch:=omega)only[go_sem,K.aL,↓reduceIte,e,Nat.reduceAdd,Nat.reduceSub]
theorem C3{m:aM}(h:m.ok)(l:List Int)(hl:l.length≤1000000):aE 0 N.fC [.t m.e,.t (tL l)] []=some (.tup [.t (fE m l).1.e,I (fE m l).2],[]):=by
 refine ak K.rQ rfl ?_
 have np:=h.np
 have nr:=h.nr
 have pv:=jH h
 have ri:=FY l 0 ((m.roads.length:Int)-1) (by omega)
 rw[Wg]at ri
 have c1:=Lx m.places (by omega)
 have c2:=Lz m.roads (by omega)
 unfold fE
 cases hs:tw l m.roads.length with
 | false=>
   rw[hs]at ri
   obtain⟨places,roads⟩:=m
   simp only at*
   simp(disch:=omega)only[go_sem,K.fC,↓reduceIte,pv,ri,List.map_nil,Nat.reduceAdd,Nat.reduceSub]
   rfl
 | true=>
   rw[hs]at ri
   have sp:=fun j hj=>Br (j:=j) hs hj
   clear hs
   obtain⟨places,roads⟩:=m
   simp only at*
   have loop:∀z0 z1 z2 z4 z6:D,exS aE K.vk ⟨[z0,z1,z2,.bp 1 0,z4,.bp 2 0,z6,.t (tL l),I l.length,I 0],[.box [.t (.sl (places.map Place.e)),.t (.sl (roads.map Road.e))],.box [.nil,.nil],.box [.t (.sl (places.map Place.e)),.ref 3 0 roads.length],.arr 10 false 0 ((roads.map Road.e).map .t)]⟩=
    some (.exit 1,⟨[.und,.und,.und,.bp 1 0,.und,.bp 2 0,.und,.t (tL l),I l.length,I l.length],[.box [.t (.sl (places.map Place.e)),.t (.sl (roads.map Road.e))],.box [.nil,.nil],.box [.t (.sl (places.map Place.e)),.ref 3 0 roads.length],.arr 10 false 0 (((C1 roads l l.length).map Road.e).map .t)]⟩):=by
    intro z0 z1 z2 z4 z6
    refine bR (fun k=>⟨[.und,.und,.und,.bp 1 0,.und,.bp 2 0,.und,.t (tL l),I l.length,I k],[.box [.t (.sl (places.map Place.e)),.t (.sl (roads.map Road.e))],.box [.nil,.nil],.box [.t (.sl (places.map Place.e)),.ref 3 0 roads.length],.arr 10 false 0 (((C1 roads l k).map Road.e).map .t)]⟩) l.length rfl ?_ ?_ (by simp)
    · intro k hk
      obtain⟨s1,s2⟩:=sp k hk
      have bl:=mV roads l k
      simp only[C1]at*
      generalize hy:nth l k=y at*
      obtain⟨i,rfl⟩:=Int.eq_ofNat_of_zero_le s1
      simp only[Int.toNat_natCast]at*
      generalize hR:C1 roads l k=R at*
      have g:((R.map Road.e).map D.t)[i]?=some (.t (nth R i).e):=lH _ _ (by omega)
      have hset:((R.set i (zw (nth R i))).map Road.e).map D.t=((R.map Road.e).map D.t).set i (.t (zw (nth R i)).e):=by simp
      rw[hset]
      generalize nth R i=x at*
      obtain⟨frm,to,len,ar,walk,closed,rl,rh,ll,lh⟩:=x
      simp only[zw]at*
      simp(disch:=omega)only[go_sem,K.oL,↓reduceIte,hy,g,pC,Nat.reduceAdd,Nat.reduceSub]
    · have bl:=mV roads l l.length
      simp(disch:=omega)only[go_sem,K.oL,↓reduceIte,Nat.reduceAdd,Nat.reduceSub]
   have bl:=mV roads l l.length
   simp only[ic]
   generalize C1 roads l l.length=R at*
   simp only[Bool.true_eq_false,if_false]
   simp(disch:=omega)only[go_sem,K.fC,↓reduceIte,pv,ri,c1,c2,loop,Nat.reduceAdd,Nat.reduceSub]
def asN(frm ps:List Int):Nat→List Int
 | 0=>dS frm.length
 | k+1=>(asN frm ps k).set (nth ps k).toNat (nth frm (nth ps k).toNat)
theorem Bu(frm ps:List Int):∀k,(asN frm ps k).length=frm.length
 | 0=>iC _
 | k+1=>by simp only[asN,List.length_set,Bu frm ps k]
theorem Bv(l:List Int)(t:Int):∀p,p≤l.length→∀j,j<l.length→nth (m9 l t p) j=if j<p∧t<nth l j then never else nth l j
 | 0,_,j,_=>by simp[m9]
 | p+1,hp,j,hj=>by
   have ih:=Bv l t p (by omega)
   have ln:=gW l t p
   have e:=ih p (by omega)
   rw[if_neg (by omega)]at e
   unfold m9
   rw[e]
   by_cases c:t<nth l p
   · rw[if_pos c,ku _ _ (by omega),ih j hj]
     by_cases h:j=p
     · subst h;rw[if_pos rfl,if_pos ⟨by omega,c⟩]
     · rw[if_neg h]
       by_cases h2:j<p∧t<nth l j
       · rw[if_pos h2,if_pos ⟨by omega,h2.2⟩]
       · rw[if_neg h2,if_neg fun x=>h2 ⟨by omega,x.2⟩]
   · rw[if_neg c,ih j hj]
     by_cases h2:j<p∧t<nth l j
     · rw[if_pos h2,if_pos ⟨by omega,h2.2⟩]
     · rw[if_neg h2,if_neg fun x=>h2 ⟨by
        rcases Nat.lt_or_ge j p with a | a
        · exact a
        · have:j=p:=by omega
          subst this;exact(c x.2).elim,x.2⟩]
theorem Pa(frm ps:List Int)(hp:∀x∈ps,∃q:Nat,x=q∧q<frm.length):∀k,k≤ps.length→∀j,j<frm.length→nth (asN frm ps k) j=if(j:Int)∈ps.take k then nth frm j else never
 | 0,_,j,hj=>by
   simp only[asN,List.take_zero,List.not_mem_nil,if_false]
   exact KR _ _ hj
 | k+1,hk,j,hj=>by
   have ih:=Pa frm ps hp k (by omega) j hj
   obtain⟨q,e,hq⟩:=hp _ (ae (l:=ps) (j:=k) (by omega))
   unfold asN
   rw[jQ (by omega),e,Int.toNat_natCast,ku _ _ (by rw[Bu];exact hq),ih]
   simp only[List.mem_append,List.mem_singleton]
   by_cases h:j=q
   · subst h;simp
   · rw[if_neg h]
     have:¬(j:Int)=q:=by omega
     simp[this]
theorem RN(w:Wh)(t:Int):asN w.frm (lg w t) (lg w t).length=m9 w.frm t w.frm.length:=by
 have pp:∀x∈lg w t,∃q:Nat,x=q∧q<w.frm.length:=fun x hx=>by
  obtain⟨q,e,h, -⟩:=A1 hx
  exact⟨q,e,h⟩
 refine rC (by rw[Bu,gW]) fun j hj=>?_
 rw[Bu]at hj
 rw[Pa _ _ pp _ (Nat.le_refl _) j hj,Bv _ _ _ (Nat.le_refl _) j hj,List.take_length]
 have e:((j:Int)∈lg w t)↔nth w.frm j≤t:=by
  unfold lg
  rw[vl]
  simp[hj]
 by_cases c:nth w.frm j≤t
 · rw[if_pos (e.2 c),if_neg (by omega)]
 · rw[if_neg (fun h=>c (e.1 h)),if_pos ⟨hj,by omega⟩]
theorem acs(w:Wh)(t:Int)(k:Nat)(hk:k<(lg w t).length):∃q:Nat,nth (lg w t) k=q∧q<w.frm.length:=by
 obtain⟨q,e,h, -⟩:=A1 (ae hk)
 exact⟨q,e,h⟩
theorem RO{m:aM}(h:m.ok)(w:Wh)(hw:w.frm.length=m.places.length)(h1:1≤m.places.length)(t:Int):
 aE 0 N.kf [.t m.e,.t w.e,I t] []=some (.tup [.t (zn m ⟨w.time,m9 w.frm t w.frm.length⟩ t).1.e,I (zn m ⟨w.time,m9 w.frm t w.frm.length⟩ t).2],[]):=by
 refine ak K.wm rfl ?_
 have np:=h.np
 have rp:aE 1 N.aZ [.t (.sl [.int .i64 1099511627776]),I w.frm.length] []=_:=FT 1099511627776 w.frm.length (by omega) (by omega)
 rw[show List.replicate w.frm.length (I 1099511627776)=(((dS w.frm.length).map (T.int .i64)).map .t)by simp[dS]]at rp
 have po:=OM w t (by omega)
 have pl:(lg w t).length≤w.frm.length:=dY _ _
 have ra:=N5 h ⟨w.time,m9 w.frm t w.frm.length⟩ t (by simp only[gW];omega)
 have sl:=acs w t
 have al:=Bu w.frm (lg w t)
 rw[← RN]at ra ⊢
 have z:asN w.frm (lg w t) 0=dS w.frm.length:=rfl
 have s:∀k,asN w.frm (lg w t) (k+1)=(asN w.frm (lg w t) k).set (nth (lg w t) k).toNat (nth w.frm (nth (lg w t) k).toNat):=fun k=>rfl
 generalize asN w.frm (lg w t)=A at*
 generalize lg w t=ps at*
 generalize zn m ⟨w.time,A ps.length⟩ t=R at*
 obtain⟨⟨rt,rf⟩,rc⟩:=R
 obtain⟨time,frm⟩:=w
 simp only at*
 have lp:∀z0 z1 z6 z8:D,exS aE K.zq ⟨[z0,z1,I t,.bp 0 0,.bp 1 0,.bp 2 0,z6,.ref 3 0 frm.length,z8,.t (tL ps),I ps.length,I 0],[.box (aa m),.box [I time,.t (tL frm)],.box [I 0,.nil],iT (A 0)]⟩=
  some (.exit 0,⟨[.und,.und,I t,.bp 0 0,.bp 1 0,.bp 2 0,.und,.ref 3 0 frm.length,.und,.t (tL ps),I ps.length,I ps.length],[.box (aa m),.box [I time,.t (tL frm)],.box [I 0,.nil],iT (A ps.length)]⟩):=by
  intro z0 z1 z6 z8
  refine bR (fun j=>⟨[.und,.und,I t,.bp 0 0,.bp 1 0,.bp 2 0,.und,.ref 3 0 frm.length,.und,.t (tL ps),I ps.length,I j],[.box (aa m),.box [I time,.t (tL frm)],.box [I 0,.nil],iT (A j)]⟩) ps.length rfl ?_ ?_ (by simp)
  · intro j hj
    obtain⟨q,e,hq⟩:=sl j hj
    have a1:=al j
    rw[s,e,Int.toNat_natCast]
    generalize A j=a at*
    obtain⟨places,roads⟩:=m
    simp only[aa]at*
    rw[← a1]
    simp(disch:=omega)only[go_sem,K.rN,↓reduceIte,e,a1,List.length_set,Nat.reduceAdd,Nat.reduceSub]
  · have a1:=al ps.length
    obtain⟨places,roads⟩:=m
    simp only[aa]at*
    rw[← a1]
    simp(disch:=omega)only[go_sem,K.rN,↓reduceIte,Nat.reduceAdd,Nat.reduceSub]
 simp only[z]at lp
 have a1:=al ps.length
 have nl:=iC frm.length
 generalize A ps.length=a at*
 generalize dS frm.length=ne at*
 obtain⟨places,roads⟩:=m
 simp only[aa,iT]at*
 simp(disch:=omega)only[go_sem,K.kf,↓reduceIte,rp,po,lp,ra,Nat.reduceAdd,Nat.reduceSub]
theorem Pb{m:aM}(hm:m.ok){w:Wh}(hl:w.frm.length=m.places.length)(ht:inT w.time)(hp:∀x∈w.frm,plT x){t:Int}(h1:w.time≤t)(h2:t≤2147483648):
 zn m ⟨w.time,m9 w.frm t w.frm.length⟩ t=(ue m w t,0)∧dg m (ue m w t)=true:=by
 have ps:∀x∈m9 w.frm t w.frm.length,plT x:=fun x hx=>by
  obtain⟨j,hj⟩:=List.mem_iff_getElem?.1 hx
  have jl:=(List.getElem?_eq_some_iff.1 hj).1
  rw[gW]at jl
  rw[← bG hj,Bv _ _ _ (Nat.le_refl _) _ jl]
  split
  · exact .inl rfl
  · exact hp _ (ae jl)
 have it:inT t:=by unfold inT at *;omega
 refine⟨?_,rD hm (by rw[gW,hl]) ps it.1 (Int.le_refl _) it⟩
 unfold zn
 have pl:oC ⟨w.time,m9 w.frm t w.frm.length⟩ m.places.length=true:=by
  simp only[oC,Bool.and_eq_true,decide_eq_true_eq,List.all_eq_true,List.mem_range,gW]
  exact⟨⟨by omega,ht⟩,fun j hj=>ps _ (ae (by rw[gW];exact hj))⟩
 rw[pl]
 simp only[Bool.true_eq_false,if_false]
 rw[if_neg (by omega)]
 rfl
abbrev asV(ws out:List World)(i:Int)(k:D)(w n j:D):List D:=[.und,.und,.und,.und,.und,.bp 1 0,.bp 2 0,.bp 3 0,.und,.bp 4 0,.und,.und,.ref 5 0 out.length,.und,k,.und,.und,.und,.und,.t (.sl (ws.map World.e)),I ws.length,I i,w,n,j]
abbrev asH(m bm:aM)(ws out:List World)(t:Int):ai:=[.box (aa m),.box [.t (.sl (ws.map World.e))],.box [I t],.box [.nil],.box (aa bm),.arr 2 false 0 ((out.map World.e).map .t)]
abbrev asT(x0 x1:T)(tags:List Int)(q:List Wh):ai:=[.box [.t x0,.t x1],.arr 1 false 0 ((tags.map (T.int .i64)).map .t),.arr 2 false 0 ((q.map Wh.e).map .t),.box [.ref 7 0 tags.length,.ref 8 0 q.length]]
theorem ahe{bm:aM}(h:bm.ok)(h1:1≤bm.places.length)(m:aM)(ws out:List World)(x0 x1:T)(tags:List Int)(whr:List Wh)(hl:whr.length≤1000000)(t i:Int)(ht:t≤2147483648)
 (hz:∀w∈whr,w.frm.length=bm.places.length∧inT w.time∧(∀x∈w.frm,plT x)∧w.time≤t):∀z0 z1 z2 z3 z4 z8 z10 z11 z13 z15 z16 z17 z18:D,
 exS aE K.zo ⟨[z0,z1,z2,z3,z4,.bp 1 0,.bp 2 0,.bp 3 0,z8,.bp 4 0,z10,z11,.ref 5 0 out.length,z13,.bp 9 0,z15,z16,z17,z18,.t (.sl (ws.map World.e)),I ws.length,I i,.t (.sl (whr.map Wh.e)),I whr.length,I 0],asH m bm ws out t++asT x0 x1 tags whr⟩=
 some (.exit 2,⟨asV ws out i (.bp 9 0) (.t (.sl (whr.map Wh.e))) (I whr.length) (I whr.length),asH m bm ws out t++asT x0 x1 tags (jz bm t whr whr.length)⟩):=by
 intro z0 z1 z2 z3 z4 z8 z10 z11 z13 z15 z16 z17 z18
 have ln:=iH bm t whr
 refine bR (fun j=>⟨asV ws out i (.bp 9 0) (.t (.sl (whr.map Wh.e))) (I whr.length) (I j),asH m bm ws out t++asT x0 x1 tags (jz bm t whr j)⟩) whr.length rfl ?_ ?_ (by simp)
 · intro j hj
   obtain⟨a1,a2,a3,a4⟩:=hz _ (ae hj)
   have g:=RO h (nth whr j) a1 h1 t
   rw[(Pb h a1 a2 a3 a4 ht).1]at g
   have ex:(whr.map Wh.e)[j]?=some (nth whr j).e:=bP _ hj
   have l1:=ln j
   have e:jz bm t whr (j+1)=(jz bm t whr j).set j (ue bm (nth whr j) t):=by
    have n:=oh bm t whr j j (by omega)
    rw[if_neg (by omega)]at n
    first | rfl | rw[jz,n]
   rw[e]
   clear e hz ln
   generalize jz bm t whr j=q at*
   generalize ue bm (nth whr j) t=r at*
   obtain⟨t1,f1⟩:=r
   generalize nth whr j=x at*
   obtain⟨tx,fx⟩:=x
   obtain⟨places,roads⟩:=m
   obtain⟨bp,br⟩:=bm
   simp only[aa,asV,asH,asT,List.cons_append,List.nil_append]at*
   simp(disch:=omega)only[go_sem,K.rM,↓reduceIte,g,ex,List.length_set,Nat.reduceAdd,Nat.reduceSub]
 · have l1:=ln whr.length
   generalize jz bm t whr whr.length=q at*
   obtain⟨places,roads⟩:=m
   obtain⟨bp,br⟩:=bm
   simp only[aa,asV,asH,asT,List.cons_append,List.nil_append]at*
   simp(disch:=omega)only[go_sem,K.rM,↓reduceIte,Nat.reduceAdd,Nat.reduceSub]
def o7(bm:aM)(t:Int)(x:World):World:=mO bm t x x.whr.length
theorem acu{bm:aM}(h:bm.ok)(h1:1≤bm.places.length)(m:aM)(ws:List World)(hw:ws.length≤1000000)(hs:∀x∈ws,x.sz)(t:Int)(ht:t≤2147483648)
 (hz:∀x∈ws,∀w∈x.whr,w.frm.length=bm.places.length∧inT w.time∧(∀y∈w.frm,plT y)∧w.time≤t):∀z0 z1 z2 z3 z4 z8 z10 z11 z13 z14 z15 z16 z17 z18 z22 z23 z24:D,
 exS aE K.zp ⟨[z0,z1,z2,z3,z4,.bp 1 0,.bp 2 0,.bp 3 0,z8,.bp 4 0,z10,z11,.ref 5 0 0,z13,z14,z15,z16,z17,z18,.t (.sl (ws.map World.e)),I ws.length,I 0,z22,z23,z24],asH m bm ws [] t⟩=
 some (.exit 0,⟨asV ws (ws.map (o7 bm t)) ws.length .und .und .und .und,asH m bm ws (ws.map (o7 bm t)) t⟩):=by
 intro z0 z1 z2 z3 z4 z8 z10 z11 z13 z14 z15 z16 z17 z18 z22 z23 z24
 have key:=bR (gc:=true) (dead:=[0,1,2,3,4,8,10,11,13,14,15,16,17,18,22,23,24]) (c:=K.n9) (vs:=[z0,z1,z2,z3,z4,.bp 1 0,.bp 2 0,.bp 3 0,z8,.bp 4 0,z10,z11,.ref 5 0 0,z13,z14,z15,z16,z17,z18,.t (.sl (ws.map World.e)),I ws.length,I 0,z22,z23,z24]) (H:=asH m bm ws [] t)
  (fun j=>⟨asV ws ((ws.take j).map (o7 bm t)) j .und .und .und .und,asH m bm ws ((ws.take j).map (o7 bm t)) t⟩) ws.length (e:= .exit 0) (st:=⟨asV ws (ws.map (o7 bm t)) ws.length .und .und .und .und,asH m bm ws (ws.map (o7 bm t)) t⟩) (by simp only[j7,List.set_cons_succ,List.set_cons_zero,List.take_zero,List.map_nil,List.length_nil];rfl)
  (fun j hj=>by
   obtain⟨z1,z2,z3⟩:=hs _ (ae hj)
   have cw:=JN (nth ws j) ⟨z1,z2,z3⟩
   have inn:=ahe h h1 m ws ((ws.take j).map (o7 bm t)) (tL (nth ws j).tags) (.sl ((nth ws j).whr.map Wh.e)) (nth ws j).tags (nth ws j).whr z2 t j ht (hz _ (ae hj)) .und .und .und .und .und .und .und .und (.bp 6 0) .und .und .und .und
   have ex:(ws.map World.e)[j]?=some (nth ws j).e:=bP _ hj
   have tk:(ws.take (j+1)).map (o7 bm t)=(ws.take j).map (o7 bm t)++[o7 bm t (nth ws j)]:=by rw[jQ hj,List.map_append];rfl
   have ol:((ws.take j).map (o7 bm t)).length≤1000000:=by simp;omega
   have gl:=iH bm t (nth ws j).whr (nth ws j).whr.length
   rw[tk]
   clear tk hz hs
   unfold o7 mO at*
   generalize (ws.take j).map (fun x:World=>(⟨x.tags,jz bm t x.whr x.whr.length⟩:World))=out at*
   generalize jz bm t (nth ws j).whr (nth ws j).whr.length=q at*
   generalize nth ws j=x at*
   obtain⟨tags,whr⟩:=x
   obtain⟨places,roads⟩:=m
   obtain⟨bp,br⟩:=bm
   simp only[aa,asV,asH,asT,List.cons_append,List.nil_append]at*
   simp(disch:=omega)only[go_sem,K.n9,↓reduceIte,ex,cw,inn,gl,Nat.reduceAdd,Nat.reduceSub]
   )
  (by
   rw[List.take_length]
   generalize ws.map (o7 bm t)=out
   obtain⟨places,roads⟩:=m
   obtain⟨bp,br⟩:=bm
   simp only[aa,asV,asH]
   simp(disch:=omega)only[go_sem,K.n9,↓reduceIte,Nat.reduceAdd,Nat.reduceSub]
   ) (by simp)
 exact key
theorem LA(w:Wh)(t:Int):aE 0 N.cQ [.t w.e,.bp 0 0] [.box [I t]]=some (B (decide (t<w.time)),[.box [I t]]):=by
 refine ak K.oM rfl ?_
 obtain⟨tm,frm⟩:=w
 by_cases c:t<tm
 · simp(disch:=omega)only[go_sem,K.cQ,↓reduceIte,c,decide_true,Nat.reduceAdd,Nat.reduceSub]
 · simp(disch:=omega)only[go_sem,K.cQ,↓reduceIte,c,decide_false,Nat.reduceAdd,Nat.reduceSub]
def nQ(t:Int)(x:World):Bool:=x.whr.any fun w=>decide (t<w.time)
theorem Pc(x:World)(hx:x.sz)(t:Int):aE 0 N.fD [.t x.e,.bp 0 0] [.box [I t]]=some (B (nQ t x),[.box [I t]]):=by
 refine ak K.rS rfl ?_
 obtain⟨h1,h2,h3⟩:=hx
 have cf:=su x.whr (by omega) N.cQ [[tI t]] (fun w=>decide (t<w.time)) (fun w hw=>LA w t)
 have cf:aE 0 N.af [.t (.sl (x.whr.map Wh.e)),.fn N.cQ [.bp 0 0]] [.box [I t]]=some (B (nQ t x),[.box [I t]]):=cf
 generalize nQ t x=b at*
 obtain⟨tags,whr⟩:=x
 simp(disch:=omega)only[go_sem,K.fD,↓reduceIte,cf,Nat.reduceAdd,Nat.reduceSub]
theorem RP(b:Bel)(hb:b.sz)(t:Int):aE 0 N.aq [.t (.sl (b.worlds.map World.e)),.fn N.fD [.bp 0 0]] [.box [I t]]=some (B (b.worlds.any (nQ t)),[.box [I t]]):=
 sr b.worlds (by have:=hb.1;omega) N.fD [[tI t]] (nQ t) (fun x hx=>Pc x (hb.2 x hx) t)
theorem yJ{t:Int}(ht:t≤2147483648)(ws:List World):(List.range ws.length).any (zE t ws)=ws.any (nQ t):=by
 have e:∀i,zE t ws i=nQ t (nth ws i):=fun i=>by
  unfold zE nQ D3
  rw[← HW (nth ws i).whr (fun w=>decide (t<w.time))]
  congr 1
  funext k
  rw[Bool.eq_iff_iff,decide_eq_true_eq,decide_eq_true_eq]
  omega
 rw[show zE t ws=fun i=>nQ t (nth ws i)from funext e]
 exact HW ws (nQ t)
theorem C4(bm:aM)(t:Int)(ws:List World):mi bm t ws ws.length=ws.map (o7 bm t):=by
 refine rC (by rw[kX,List.length_map]) fun j hj=>?_
 rw[kX]at hj
 rw[qB _ _ _ _ _ (Nat.le_refl _),if_pos hj,bG (bP (o7 bm t) hj)]
 rfl
theorem RQ{m bm:aM}(hb:bm.ok)(hp:bm.places=m.places){first:List Int}{t:Int}(ht:t≤2147483648){x:World}(h:WV m first x)(he:nQ t x=false):WV bm first (o7 bm t x):=by
 refine⟨h.pm,by unfold o7 mO;rw[iH];exact h.wl,fun w hw=>?_⟩
 obtain⟨j,hj⟩:=List.mem_iff_getElem?.1 hw
 have jl:=(List.getElem?_eq_some_iff.1 hj).1
 unfold o7 mO at jl hj
 rw[iH]at jl
 simp only at jl hj
 rw[← bG hj,oh _ _ _ _ _ (Nat.le_refl _),if_pos jl]
 obtain⟨a,b,c, -⟩:=cJ (h.wv _ (ae jl))
 have:¬t<(nth x.whr j).time:=fun c=>by
  have:=List.any_eq_false.1 he _ (ae jl)
  simp only[decide_eq_true_eq]at this
  omega
 exact(Pb hb (by rw[hp,a]) b c (by omega) ht).2
theorem JY{m bm:aM}(hb:bm.ok)(hp:bm.places=m.places){first:List Int}{t:Int}(ht:t≤2147483648){ws:List World}(h:BV m first ws)(he:ws.any (nQ t)=false):BV bm first (ws.map (o7 bm t)):=by
 refine⟨h.pr,h.f1,h.f2,fun x hx=>?_,?_⟩
 · obtain⟨y,hy,rfl⟩:=List.mem_map.1 hx
   exact RQ hb hp ht (h.wv y hy) (by simpa using List.any_eq_false.1 he y hy)
 · rw[List.pairwise_map]
   exact h.up
theorem RR{m:aM}(h:m.ok)(h1:1≤m.places.length)(b:Bel)(hs:b.sz)(h20:b.worlds.length<20)(bars:List Int)(hl:bars.length≤1000000)(t:Int):
 aE 0 N.gw [.t m.e,.t b.e,.t (tL bars),I t] []=some (.tup [.t (kM m b bars t).1.e,I (kM m b bars t).2],[]):=by
 refine ak K.we rfl ?_
 have va:=Lt h b hs
 have ba:=C3 h bars hl
 have ea:=RP b hs t
 unfold kM
 cases hv:rG m b with
 | false=>
   rw[hv]at va
   obtain⟨ws⟩:=b
   obtain⟨places,roads⟩:=m
   simp(disch:=omega)only[go_sem,K.gw,↓reduceIte,va,Nat.reduceAdd,Nat.reduceSub]
 | true=>
   rw[hv]at va
   simp only[Bool.true_eq_false,if_false]
   by_cases cs:tw bars m.roads.length=true
   · have e:fE m bars=(ic m bars,0):=by unfold fE;rw[cs];simp
     have bo:=uC h cs
     have bp:(ic m bars).places=m.places:=rfl
     rw[e]at ba ⊢
     simp only[ne_eq,not_true_eq_false,if_false]
     by_cases ct:t≤2147483648
     · rw[yJ ct]
       cases he:b.worlds.any (nQ t)with
       | true=>
         rw[he]at ea
         simp only[if_true]
         generalize ic m bars=bm at*
         obtain⟨ws⟩:=b
         obtain⟨places,roads⟩:=m
         obtain⟨bpl,brd⟩:=bm
         simp(disch:=omega)only[go_sem,K.gw,↓reduceIte,va,ba,ea,Nat.reduceAdd,Nat.reduceSub]
       | false=>
         rw[he]at ea
         simp only[Bool.false_eq_true,if_false]
         obtain⟨ws⟩:=b
         simp only at*
         have bv:=xN hv
         obtain⟨w1,w2, -⟩:=fK hv
         simp only at w1
         have bv2:=JY bo bp ct bv he
         have ti:=RC bo bv2.pr bv2.f1 bv2.f2 _ bv2.wv (by rw[List.length_map];omega) (by rw[List.length_map];omega)
         have lp:=acu bo (by rw[bp];exact h1) m ws (by have:=hs.1;simp only at this;omega) hs.2 t ct (fun x hx w hw=>by
          obtain⟨a,b,c, -⟩:=cJ ((bv.wv x hx).wv w hw)
          have:=List.any_eq_false.1 (by simpa using List.any_eq_false.1 he x hx:nQ t x=false) w hw
          simp only[decide_eq_true_eq]at this
          exact⟨by rw[bp,a],b,c,by omega⟩)
         rw[C4]
         have ml:(ws.map (o7 (ic m bars) t)).length=ws.length:=List.length_map ..
         clear bv2 bv
         generalize ws.map (o7 (ic m bars) t)=out at*
         generalize lY out=R at*
         generalize ic m bars=bm at*
         obtain⟨places,roads⟩:=m
         obtain⟨bpl,brd⟩:=bm
         simp only[aa,asV,asH,List.map_nil]at*
         simp(disch:=omega)only[go_sem,K.gw,↓reduceIte,va,ba,ea,lp,ti,Nat.reduceAdd,Nat.reduceSub]
     · have lt:(List.range b.worlds.length).any (zE t b.worlds)=true:=by
        obtain⟨w1,w2,f1,f2,w5⟩:=fK hv
        have q:=hU (w5 0 (by omega))
        rw[List.any_eq_true]
        refine⟨0,List.mem_range.2 (by omega),?_⟩
        unfold zE
        rw[List.any_eq_true]
        exact⟨0,List.mem_range.2 (by omega),by unfold D3;rw[decide_eq_true_eq];omega⟩
       rw[lt]
       simp only[if_true]
       generalize ic m bars=bm at*
       clear lt
       obtain⟨ws⟩:=b
       obtain⟨places,roads⟩:=m
       obtain⟨bpl,brd⟩:=bm
       simp(disch:=omega)only[go_sem,K.gw,↓reduceIte,va,ba,Nat.reduceAdd,Nat.reduceSub]
   · have e:fE m bars=(⟨[],[]⟩,4):=by unfold fE;rw[if_pos (by simpa using cs)]
     rw[e]at ba ⊢
     simp only[ne_eq,Int.reduceEq,not_false_eq_true,if_true,List.map_nil]at ba ⊢
     obtain⟨ws⟩:=b
     obtain⟨places,roads⟩:=m
     simp(disch:=omega)only[go_sem,K.gw,↓reduceIte,va,ba,Nat.reduceAdd,Nat.reduceSub]
end Go.Ev
namespace Go.Ev
open Go
variable [Lib] [bW] [bL] [fJ] [eY] [jB] [fM] [fN] [iI] [gu] [ec] [du]
def AW(P:Wh→Prop)(ws:List World):Prop:=∀x∈ws,∀w∈x.whr,P w
structure Kept(m:aM)(T:Int)(P:Wh→Prop):Prop where
 see:∀w l a b,P w→b≤T→P (BR m w l a b).1
 abs:∀w l a b bl,P w→b≤T→P (CC m w l a b bl).1
 raise:∀w t,P w→t≤T→P (nN w t).1
 join:∀a b,P a→P b→a.frm.length=b.frm.length→P (jS a b).1
theorem AW.set{P:Wh→Prop}{x:World}(h:∀w∈x.whr,P w)(tag:Int){w:Wh}(hw:(b6 x.tags tag).toNat<x.whr.length→P w):∀y∈(Ie tag x w).whr,P y:=by
 intro y hy
 simp only[Ie]at hy
 by_cases c:(b6 x.tags tag).toNat<x.whr.length
 · rcases List.mem_or_eq_of_mem_set hy with a | rfl
   · exact h y a
   · exact hw c
 · rw[List.set_eq_of_length_le (by omega)]at hy;exact h y hy
theorem D4{m:aM}{T:Int}{P:Wh→Prop}(k:Kept m T P){ws:List World}(h:AW P ws)(tag:Int)(l:List Int)(a b:Int)(hb:b≤T):∀j,j≤ws.length→AW P (oT m tag l a b ws j)
 | 0,_,x,hx=>by simp[oT]at hx
 | j+1,hj,x,hx=>by
   simp only[oT,Gb]at hx
   have hn:=h _ (ae (l:=ws) (j:=j) (by omega))
   split at hx
   · exact D4 k h tag l a b hb j (by omega) x hx
   · rcases List.mem_append.1 hx with hx | hx
     · exact D4 k h tag l a b hb j (by omega) x hx
     · rw[List.mem_singleton.1 hx]
       split
       · exact AW.set hn tag fun c=>k.see _ _ _ _ (hn _ (ae c)) hb
       · exact hn
theorem JZ{m:aM}{T:Int}{P:Wh→Prop}(k:Kept m T P){ws:List World}(h:AW P ws)(tag:Int)(l:List Int)(a b bl:Int)(hb:b≤T):∀j,j≤ws.length→AW P (qy m tag l a b bl ws j)
 | 0,_,x,hx=>by simp[qy]at hx
 | j+1,hj,x,hx=>by
   simp only[qy,Ig]at hx
   have hn:=h _ (ae (l:=ws) (j:=j) (by omega))
   rcases List.mem_append.1 hx with hx | hx
   · exact JZ k h tag l a b bl hb j (by omega) x hx
   · rw[List.mem_singleton.1 hx]
     split
     · exact AW.set hn tag fun c=>k.abs _ _ _ _ _ (hn _ (ae c)) hb
     · exact hn
theorem J0{m:aM}{T:Int}{P:Wh→Prop}(k:Kept m T P){n:Nat}{a b:List Wh}(ha:∀w∈a,P w∧w.frm.length=n)(hb:∀w∈b,P w∧w.frm.length=n):∀p,p≤a.length→p≤b.length→∀w∈jU a b p,P w
 | 0,_,_,w,hw=>(ha w hw).1
 | p+1,h1,h2,w,hw=>by
   simp only[jU]at hw
   rcases List.mem_or_eq_of_mem_set hw with hw | rfl
   · exact J0 k ha hb p (by omega) (by omega) w hw
   · have x:=ha _ (ae (l:=a) (j:=p) (by omega))
     have y:=hb _ (ae (l:=b) (j:=p) (by omega))
     exact k.join _ _ x.1 y.1 (by rw[x.2,y.2])
theorem RS{m:aM}{T:Int}{P:Wh→Prop}(k:Kept m T P){first:List Int}{out:List World}{x:World}(ho:AW P out)(hx:∀w∈x.whr,P w)(wo:∀y∈out,WV m first y)(wx:WV m first x):AW P (i5 out x):=by
 intro y hy
 unfold i5 at hy
 split at hy
 · rename_i h
   rcases List.mem_or_eq_of_mem_set hy with hy | rfl
   · exact ho y hy
   · have wk:=wo _ (ae h.1)
     exact J0 k (n:=m.places.length) (fun w hw=>⟨ho _ (ae h.1) w hw,(cJ (wk.wv w hw)).1⟩) (fun w hw=>⟨hx w hw,(cJ (wx.wv w hw)).1⟩) _ (Nat.min_le_left _ _) (Nat.min_le_right _ _)
 · rcases List.mem_append.1 hy with hy | hy
   · rcases List.mem_append.1 hy with hy | hy
     · exact ho y (List.mem_of_mem_take hy)
     · rw[List.mem_singleton.1 hy];exact hx
   · exact ho y (List.mem_of_mem_drop hy)
theorem J1{m:aM}(hm:m.ok){T:Int}{P:Wh→Prop}(k:Kept m T P){first:List Int}(pr:fy first=true)(f1:1≤first.length)(f2:first.length≤12){l:List World}(hl:AW P l)(wl:∀x∈l,WV m first x):∀j,j≤l.length→AW P (o6 l j)
 | 0,_,y,hy=>by simp[o6]at hy
 | j+1,h,y,hy=>RS k (J1 hm k pr f1 f2 hl wl j (by omega)) (hl _ (ae (by omega))) (DZ hm pr f1 f2 wl j (by omega)).wv (wl _ (ae (by omega))) y hy
theorem RT{m:aM}{T:Int}{P:Wh→Prop}(k:Kept m T P){i j:Nat}{t:Int}(ht:t≤T){x:World}(h:∀w∈x.whr,P w):∀w∈(wz i j t x).whr,P w:=by
 intro w hw
 simp only[wz]at hw
 have one:∀ {l:List Wh},(∀w∈l,P w)→∀i,∀w∈l.set i (nN (nth x.whr i) t).1,i<x.whr.length∨l.length=x.whr.length→P w:=by
  intro l hl i w hw hlen
  by_cases c:i<x.whr.length
  · rcases List.mem_or_eq_of_mem_set hw with a | rfl
    · exact hl w a
    · exact k.raise _ _ (h _ (ae c)) ht
  · rcases hlen with a | a
    · exact(c a).elim
    · rw[List.set_eq_of_length_le (by omega)]at hw;exact hl w hw
 by_cases c:j<x.whr.length
 · rcases List.mem_or_eq_of_mem_set hw with a | rfl
   · exact one h i w a (.inr rfl)
   · exact k.raise _ _ (h _ (ae c)) ht
 · rw[List.set_eq_of_length_le (by rw[List.length_set];omega)]at hw
   exact one h i w hw (.inr rfl)
theorem Bw{m:aM}{T:Int}{P:Wh→Prop}(k:Kept m T P){ws:List World}(h:AW P ws){i j:Nat}{t:Int}(ht:t≤T):∀q,q≤ws.length→AW P (jy i j t ws q)
 | 0,_=>h
 | q+1,hq=>fun x hx=>by
   simp only[jy,Bi]at hx
   split at hx
   · rcases List.mem_append.1 hx with hx | hx
     · exact Bw k h ht q (by omega) x hx
     · rw[List.mem_singleton.1 hx];exact RT k ht (h _ (ae (by omega)))
   · exact Bw k h ht q (by omega) x hx
theorem LB{m:aM}(hm:m.ok){T:Int}{P:Wh→Prop}(k:Kept m T P){n:Int}{s:BSt}(hb:rG m s.b=true)(h:AW P s.b.worlds)(ht:s.t+118≤T):AW P (aD.ma m n s).b.worlds:=by
 have a0:=s.d.ei 60
 have a9:=s.d.en (n:=60) (by omega)
 unfold aD.ma
 simp only
 generalize s.d.next 60=a at*
 obtain⟨a1,d1⟩:=a
 simp only at a0 a9 ⊢
 obtain⟨⟨ws⟩,t,d⟩:=s
 simp only at*
 have bv:=xN hb
 obtain⟨w1,w2,f1,f2, -⟩:=fK hb
 split
 · simp only
   split
   · generalize ((d1.next 3).2.next n).1=i
     generalize (((d1.next 3).2.next n).2.next n).1=j
     unfold oU
     split
     · exact h
     · split
       · exact h
       · rename_i hij
         simp only at hij
         split
         · exact h
         · split
           · exact h
           · exact J1 hm k bv.pr bv.f1 bv.f2 (Bw k h (by omega) _ (Nat.le_refl _)) (xS hm bv.wv (by omega) (by omega) _ _ (Nat.le_refl _)) _ (Nat.le_refl _)
   · exact h
 · split
   · simp only
     split
     · have e9:=((((d1.next 3).2.next n).2.m0 m.places.length).2).en (n:=9) (by omega)
       generalize (((d1.next 3).2.next n).2.m0 m.places.length)=l at*
       generalize (l.2.next 9).1=e at*
       unfold tS
       split
       · exact h
       · split
         · exact h
         · split
           · exact h
           · exact D4 k h _ _ _ _ (by omega) _ (Nat.le_refl _)
     · exact h
   · simp only
     split
     · unfold tT
       split
       · exact h
       · split
         · exact h
         · exact JZ k h _ _ _ _ _ (by omega) _ (Nat.le_refl _)
     · exact h
theorem Pd{m:aM}(hm:m.ok){T:Int}{P:Wh→Prop}(k:Kept m T P){n:Int}{s:BSt}(hb:rG m s.b=true)(h:AW P s.b.worlds):∀(q:Nat),s.t+60*q+118≤T+60→AW P (aD.yH m n s q).b.worlds∧(aD.yH m n s q).t≤s.t+60*q
 | 0,_=>⟨h,by simp[aD.yH]⟩
 | q+1,hq=>by
   obtain⟨h1,h2⟩:=Pd hm k (n:=n) hb h q (by omega)
   have ht:=(Gl (m:=m) (n:=n) (s:=aD.yH m n s q)).2
   exact⟨LB hm k (yI hm hb q) h1 (by omega),by simp only[aD.yH];omega⟩
theorem Pe{m:aM}(hm:m.ok)(h1:1≤m.places.length)(d:aD){P:Wh→Prop}(k:Kept m 500 P)(hs:∀p t,0≤p→p<(m.places.length:Int)→0≤t→t<100→P (gT m p t).1):AW P (d.tV m).1.worlds:=by
 have v0:=C0 hm h1 d
 have k9:=((d.nO m).2.next 100).2.en (n:=5) (by omega)
 have k0:=((d.nO m).2.next 100).2.ei 5
 have kk:d.Ov m≤4:=by unfold aD.Ov;omega
 have t0:=(d.nO m).2.ei 100
 have t9:=(d.nO m).2.en (n:=100) (by omega)
 have tl:=lZ d.p8
 have sl:(d.nO m).1.length=d.p8:=aD.kW _ _ _
 have a0:AW P (d.Mh m).b.worlds:=by
  unfold aD.Mh
  rw[DR hm h1]
  intro x hx w hw
  rw[List.mem_singleton.1 hx]at hw
  simp only[iF,List.mem_map,List.mem_range]at hw
  obtain⟨i,hi,rfl⟩:=hw
  have:=tY (d.next 3).2 (n:=m.places.length) (by omega) d.p8 _ (ae (l:=(d.nO m).1) (j:=i) (by omega))
  exact hs _ _ this.1 this.2 t0 t9
 exact(Pd hm k (n:=d.p8) v0 a0 (d.Ov m) (by show(100:Int)+_+_≤_;omega)).1
theorem Pf(m:aM):Kept m 500 fun w=>w.time≤500 where
 see w l a b h hb:=by
  unfold BR
  split
  · exact h
  · split
    · exact h
    · split
      · exact hb
      · exact h
 abs w l a b bl h hb:=by
  unfold CC
  split
  · exact h
  · split
    · exact h
    · split
      · exact h
      · split
        · exact h
        · exact hb
 raise w t h ht:=by unfold nN;split;exact h;exact ht
 join a b ha hb e:=by
  unfold jS
  rw[if_pos e]
  simp only;omega
theorem Iw{m:aM}(hm:m.ok)(h1:1≤m.places.length)(d:aD):AW (fun w=>w.time≤500) (d.tV m).1.worlds:=
 Pe hm h1 d (Pf m) fun p t p0 p1 t0 t1=>by
  rw[(A0 hm p0 p1 (t:=t) ⟨t0,by omega⟩).1]
  simp only;omega
def Gz:List Int→List (List Int)
 | []=>[[]]
 | a::l=>(Gz l).flatMap fun p=>(List.range (p.length+1)).map fun i=>p.take i++a::p.drop i
theorem GA:∀ {l t:List Int},t.Perm l→t∈Gz l
 | [],t,h=>by rw[List.perm_nil.1 h];simp[Gz]
 | a::l,t,h=>by
   obtain⟨s1,s2,rfl⟩:=List.append_of_mem (h.mem_iff.2 List.mem_cons_self)
   have p:(s1++s2).Perm l:=(List.perm_cons a).1 ((List.perm_middle.symm).trans h)
   simp only[Gz,List.mem_flatMap,List.mem_map,List.mem_range]
   exact⟨_,GA p,s1.length,by rw[List.length_append];omega,by simp⟩
theorem LC{m:aM}{first:List Int}{ws:List World}(h:BV m first ws)(f:first.length≤3):ws.length≤6:=by
 have nd:(ws.map World.tags).Nodup:=by
  rw[List.Nodup,List.pairwise_map]
  exact h.up.imp fun h e=>zv h e
 have sub:(ws.map World.tags) ⊆ Gz first:=by
  intro t ht
  obtain⟨x,hx,rfl⟩:=List.mem_map.1 ht
  exact GA (h.wv x hx).pm
 have:=nd.length_le_of_subset sub
 rw[List.length_map]at this
 have f1:=h.f1
 match first,f,f1 with
 | [a],_,_=>exact Nat.le_trans this (by decide:1≤6)
 | [a,b],_,_=>exact Nat.le_trans this (by show 2≤6;decide)
 | [a,b,c],_,_=>exact Nat.le_trans this (by show 6≤6;decide)
theorem RU{d:aD}(hd:d.eD){m:aM}(hm:m.ok)(h1:1≤m.places.length):
 ∃(b:Bel) (e:aD),aE 0 N.cn [.bp 0 0,.t m.e] [d.obj]=some (.t b.e,[e.obj])∧e.eD∧rG m b=true∧b.sz∧b.worlds.length≤6∧(nth b.worlds 0).tags.length≤3∧AW (fun w=>w.time≤500) b.worlds:=by
 have g:=OA hm h1 hd
 have v:=Gu hm h1 d
 have bp:=Bl d
 have n:(nth (d.tV m).1.worlds 0).tags.length≤3:=by
  have:=(g.1.ws _ (ae (l:=(d.tV m).1.worlds) (j:=0) (by have:=g.1.w1;omega))).tg
  omega
 refine⟨_,_,OD hm h1 d hd,g.2,v,g.1.sz hm,?_,n,Iw hm h1 d⟩
 have bv:=xN (m:=m) (ws:=(d.tV m).1.worlds) v
 exact LC bv n
end Go.Ev
namespace Go.Ev
open Go
variable [Lib] [bW] [bL] [fJ]
def Mi(l:List Wh)(t:Int):Nat→Int
 | 0=>t
 | j+1=>max (Mi l t j) (nth l j).time
def BX(ws:List World):Nat→Int
 | 0=>0
 | i+1=>Mi (nth ws i).whr (BX ws i) (nth ws i).whr.length
def LD(b:Bel):Int:=BX b.worlds b.worlds.length
theorem Xb(b:Bel)(hb:b.sz):aE 0 N.kd [.t b.e] []=some (I (LD b),[]):=by
 refine ak K.wc rfl ?_
 unfold LD
 obtain⟨ws⟩:=b
 obtain⟨s1,s2⟩:=hb
 simp only at s1 s2 ⊢
 have inner:∀i,i<ws.length→∀(t:Int) (a b:D),exS aE K.zk ⟨[a,.bp 0 0,b,I t,I i,I 0],[.box [.t (.sl (ws.map World.e))]]⟩=
  some (.exit 2,⟨[.und,.bp 0 0,.und,I (Mi (nth ws i).whr t (nth ws i).whr.length),I i,I (nth ws i).whr.length],[.box [.t (.sl (ws.map World.e))]]⟩):=by
  intro i hi t a b
  have g1:(ws.map World.e)[i]?=some (nth ws i).e:=bP _ hi
  have sz:=(s2 _ (ae hi)).2.1
  refine bR (fun j=>⟨[.und,.bp 0 0,.und,I (Mi (nth ws i).whr t j),I i,I j],[.box [.t (.sl (ws.map World.e))]]⟩) (nth ws i).whr.length rfl ?_ ?_ (by simp)
  · intro j hj
    have g2:((nth ws i).whr.map Wh.e)[j]?=some (nth (nth ws i).whr j).e:=bP _ hj
    simp only[Mi]
    generalize Mi (nth ws i).whr t j=q at*
    generalize nth (nth ws i).whr j=w at*
    generalize nth ws i=x at*
    obtain⟨tags,whr⟩:=x
    obtain⟨time,frm⟩:=w
    simp only at*
    simp(disch:=omega)only[go_sem,K.rH,↓reduceIte,g1,g2,Nat.reduceAdd,Nat.reduceSub]
  · generalize Mi (nth ws i).whr t (nth ws i).whr.length=q at*
    generalize nth ws i=x at*
    obtain⟨tags,whr⟩:=x
    simp only at*
    simp(disch:=omega)only[go_sem,K.rH,↓reduceIte,g1,Nat.reduceAdd,Nat.reduceSub]
 have loop:∀a b c:D,exS aE K.zm ⟨[a,.bp 0 0,b,I 0,I 0,c],[.box [.t (.sl (ws.map World.e))]]⟩=
  some (.exit 0,⟨[.und,.bp 0 0,.und,I (BX ws ws.length),I ws.length,.und],[.box [.t (.sl (ws.map World.e))]]⟩):=by
  intro a b c
  refine bR (fun i=>⟨[.und,.bp 0 0,.und,I (BX ws i),I i,.und],[.box [.t (.sl (ws.map World.e))]]⟩) ws.length rfl ?_ ?_ (by simp)
  · intro i hi
    have inner:=fun t a b=>inner i hi t a b
    simp(disch:=omega)only[go_sem,K.rI,↓reduceIte,inner,BX,Nat.reduceAdd,Nat.reduceSub]
  · simp(disch:=omega)only[go_sem,K.rI,↓reduceIte,Nat.reduceAdd,Nat.reduceSub]
 simp(disch:=omega)only[go_sem,K.kd,↓reduceIte,loop,Nat.reduceAdd,Nat.reduceSub]
end Go.Ev
namespace Go.Ev
open Go
variable [Lib] [bW] [bL] [fJ] [eY] [jB] [fM] [fN] [iI] [gu] [ec] [du] [iV] [eQ] [iJ] [j4]
theorem lex_asymm{a b:List Int}(h:lexB a b=true):lexB b a=false:=by
 cases h2:lexB b a with
 | false=>rfl
 | true=>have:=lex_trans h h2;rw[lex_irrefl]at this;cases this
theorem RV{ws:List World}(u:UpW ws):lY ws=ws:=by
 rw[uA]
 have key:∀j,j≤ws.length→(ws.take j).foldl i5 []=ws.take j:=by
  intro j
  induction j with
  | zero=>intro _;simp
  | succ j ih=>
    intro hj
    rw[jQ (by omega),List.foldl_append,ih (by omega)]
    simp only[List.foldl_cons,List.foldl_nil]
    have uj:UpW (ws.take j):=List.Pairwise.sublist (List.take_sublist _ _) u
    have ln:(ws.take j).length=j:=by rw[List.length_take];omega
    have lt:0<j→lexB (nth (ws.take j) (j-1)).tags (nth ws j).tags=true:=fun h0=>by
     have:=List.pairwise_iff_getElem.1 u (j-1) j (by omega) (by omega) (by omega)
     rw[bG (List.getElem?_eq_getElem (by omega:j<ws.length)),bG (show(ws.take j)[j-1]?=some ws[j-1]by rw[List.getElem?_take,if_pos (by omega)];exact List.getElem?_eq_getElem (by omega))]
     exact this
    rw[CW uj (fun h0=>by rw[ln]at h0 ⊢;exact lex_asymm (lt h0))]
    unfold r6
    rw[if_neg]
    rintro ⟨h0,e⟩
    rw[ln]at h0 e
    exact zv (lt h0) e
 have:=key ws.length (Nat.le_refl _)
 rwa [List.take_length]at this
theorem LF{m:aM}{b:Bel}(hb:rG m b=true){bars:List Int}(hs:tw bars m.roads.length=true){t:Int}(ht:t≤2147483648)(he:b.worlds.any (nQ t)=false):
 kM m b bars t=(⟨b.worlds.map (o7 (ic m bars) t)⟩,0):=by
 have e:fE m bars=(ic m bars,0):=by unfold fE;rw[hs];simp
 unfold kM
 rw[hb,e,yJ ht,he,C4]
 simp only[Bool.true_eq_false,if_false,ne_eq,not_true_eq_false,Bool.false_eq_true]
 rw[RV]
 unfold UpW
 rw[List.pairwise_map]
 exact(xN hb).up
theorem Pg(l:List Wh)(t:Int):∀j,t≤Mi l t j∧∀k,k<j→(nth l k).time≤Mi l t j
 | 0=>⟨Int.le_refl _,fun k h=>by omega⟩
 | j+1=>by
   obtain⟨h1,h2⟩:=Pg l t j
   simp only[Mi]
   refine⟨by omega,fun k hk=>?_⟩
   by_cases c:k=j
   · subst c;omega
   · have:=h2 k (by omega);omega
theorem J2(ws:List World):∀i,0≤BX ws i∧∀k,k<i→∀j,j<(nth ws k).whr.length→(nth (nth ws k).whr j).time≤BX ws i
 | 0=>⟨Int.le_refl _,fun k h=>by omega⟩
 | i+1=>by
   obtain⟨h1,h2⟩:=J2 ws i
   obtain⟨g1,g2⟩:=Pg (nth ws i).whr (BX ws i) (nth ws i).whr.length
   simp only[BX]
   refine⟨by omega,fun k hk j hj=>?_⟩
   by_cases c:k=i
   · subst c;exact g2 j hj
   · have:=h2 k (by omega) j hj;omega
theorem Xc(b:Bel):0≤LD b∧∀x∈b.worlds,∀w∈x.whr,w.time≤LD b:=by
 obtain⟨h1,h2⟩:=J2 b.worlds b.worlds.length
 refine⟨h1,fun x hx w hw=>?_⟩
 obtain⟨i,hi,rfl⟩:=List.getElem_of_mem hx
 obtain⟨j,hj,rfl⟩:=List.getElem_of_mem hw
 have e:nth b.worlds i=b.worlds[i]:=bG (List.getElem?_eq_getElem hi)
 have:=h2 i hi j (by rw[e];exact hj)
 rwa [e,bG (List.getElem?_eq_getElem hj)]at this
theorem Ph{l:List Wh}{M t:Int}(ht:t≤M)(h:∀w∈l,w.time≤M):∀j,j≤l.length→Mi l t j≤M
 | 0,_=>ht
 | j+1,hj=>by
   have h1:=Ph ht h j (by omega)
   have h2:=h _ (ae (l:=l) (j:=j) (by omega))
   simp only[Mi];omega
theorem J3{ws:List World}{M:Int}(h0:0≤M)(h:AW (fun w=>w.time≤M) ws):∀i,i≤ws.length→BX ws i≤M
 | 0,_=>h0
 | i+1,hi=>Ph (J3 h0 h i (by omega)) (h _ (ae (by omega))) _ (Nat.le_refl _)
theorem Xd{b:Bel}(h:AW (fun w=>w.time≤500) b.worlds):LD b≤500:=J3 (by omega) h _ (Nat.le_refl _)
structure SlF(bm:aM)(w:Wh)(t:Int):Prop where
 ln:(ue bm w t).frm.length=bm.places.length
 bd:bnd (ue bm w t).frm
 cl:clW bm t none (ue bm w t).frm
 le:∀j,j<bm.places.length→nth (ue bm w t).frm j≤if t<nth w.frm j then 1099511627776 else nth w.frm j
theorem TF{d:aD}(hd:d.eD)(n:Nat)(hn:n≤1000000):
 ∃(l:List Int) (e:aD),aE 0 N.b8 [.bp 0 0,I n] [d.obj]=some (.t (tL l),[e.obj])∧e.eD∧l.length≤n∧tw l n=true:=
 ⟨_,_,Nz d n hn hd,aD.mC hd n,d.xo n,CZ d n⟩
section
variable (e : aD) {m bm : aM} (b c : Bel) (t : Int) (l : List Int)
end
end Go.Ev
namespace Go.Ev
open Go
variable [Lib] [bW] [bL] [fJ] [eY] [jB] [fM] [fN] [iI] [gu] [ec] [du] [iV] [eQ] [iJ] [j4]
theorem RW(l:List Int)(hl:l.length≤1000000)(p:Int):aE 0 N.cy [I p,.bp 0 0] [.box [.t (tL l)]]=some (B (decide (p∈l)),[.box [.t (tL l)]]):=by
 refine ak K.mK rfl ?_
 have c:=ru l p (by omega)
 simp(disch:=omega)only[go_sem,K.cy,↓reduceIte,c,Nat.reduceAdd,Nat.reduceSub]
def BZ(b:Bel)(l:List Int)(t:Int)(i:Nat):Bool:=(wy b i t).any fun p=>decide (p∈l)
theorem Xe(b:Bel)(hs:b.sz)(l:List Int)(hl:l.length≤1000000)(t:Int)(i:Nat):
 aE 0 N.dt [I i,.bp 0 0,.bp 1 0,.bp 2 0] [.box [.t (.sl (b.worlds.map World.e))],.box [I t],.box [.t (tL l)]]=some (B (BZ b l t i),[.box [.t (.sl (b.worlds.map World.e))],.box [I t],.box [.t (tL l)]]):=by
 refine ak K.oO rfl ?_
 have po:=Il b hs i t
 have pl:=Gp b i t
 have cf:=lI (wy b i t) (by omega) N.cy [[tL l]] (fun p=>decide (p∈l)) (fun p _=>RW l hl p)
 have cf:aE 0 N.az [.t (tL (wy b i t)),.fn N.cy [.bp 0 0]] [.box [.t (tL l)]]=some (B (BZ b l t i),[.box [.t (tL l)]]):=cf
 generalize BZ b l t i=r at*
 generalize wy b i t=ps at*
 obtain⟨ws⟩:=b
 simp(disch:=omega)only[go_sem,K.dt,↓reduceIte,po,cf,Nat.reduceAdd,Nat.reduceSub]
def Xf(b:Bel)(l:List Int)(t:Int):List Int:=if b.worlds.length=0 then []else bz (nth b.worlds 0).whr.length (BZ b l t)
theorem Pj(b:Bel)(hs:b.sz)(l:List Int)(hl:l.length≤1000000)(t:Int):aE 0 N.gz [.t b.e,.t (tL l),I t] []=some (.t (tL (Xf b l t)),[]):=by
 refine ak K.rR rfl ?_
 unfold Xf
 by_cases h0:b.worlds.length=0
 · rw[if_pos h0]
   obtain⟨ws⟩:=b
   have e:ws=[]:=List.eq_nil_of_length_eq_zero h0
   subst e
   simp(disch:=omega)only[go_sem,K.gz,↓reduceIte,List.map_nil,List.length_nil,Nat.reduceAdd,Nat.reduceSub]
   rfl
 · rw[if_neg h0]
   have z:=hs.2 _ (ae (l:=b.worlds) (j:=0) (by omega))
   have wh:=zX (nth b.worlds 0).whr.length z.2.1 N.dt [[.sl (b.worlds.map World.e)],[tI t],[tL l]] (BZ b l t) (fun i hi=>Xe b hs l hl t i)
   have wh:aE 0 N.bZ [I (nth b.worlds 0).whr.length,.fn N.dt [.bp 0 0,.bp 1 0,.bp 2 0]] [.box [.t (.sl (b.worlds.map World.e))],.box [I t],.box [.t (tL l)]]=some (.t (tL (bz (nth b.worlds 0).whr.length (BZ b l t))),[.box [.t (.sl (b.worlds.map World.e))],.box [I t],.box [.t (tL l)]]):=wh
   have ex:(b.worlds.map World.e)[0]?=some (nth b.worlds 0).e:=bP _ (by omega)
   generalize bz (nth b.worlds 0).whr.length (BZ b l t)=r at*
   generalize nth b.worlds 0=x at*
   obtain⟨tags,whr⟩:=x
   have z2:=z.2.1
   simp only at z2
   obtain⟨ws⟩:=b
   simp only at*
   have hw:=hs.1
   simp only at hw
   simp(disch:=omega)only[go_sem,K.gz,↓reduceIte,ex,wh,Nat.reduceAdd,Nat.reduceSub]
end Go.Ev
