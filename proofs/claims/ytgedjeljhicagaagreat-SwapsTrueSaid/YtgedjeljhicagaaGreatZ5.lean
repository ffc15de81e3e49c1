/- Parts of the proof: see the text that holds the theorem. -/
import Derived.Test.YtgedjeljhicagaaGreatZ4
set_option linter.all false
open Nat (reduceAdd reduceSub)
namespace Go.Ev
open Go
variable [Lib] [cu] [b0] [gk] [gl] [jz] [fG] [fH] [gX] [fT] [eV] [dZ] [iJ] [eW] [wc]
abbrev qF(l:List Int):Obj:= .arr 1 false 0 (ints l)
theorem jV(k:Nat)(l:List Int):ec k 8 (ints l)=true:=by unfold ints;simp only[go_sem]
theorem DF(l:List Int):sk 8 (ints l)=[]:=by unfold ints;exact tA 8 _
theorem KI(a b:List Int)(hl:a.length≤4294967296):bh 0 N.cq [.t (tL a),.ref 0 0 b.length] [qF b]=some (B (decide (a=b)),[qF b]):=by
 refine aE K.kf rfl ?_
 have bl:(ints b).length=b.length:=by simp[ints]
 have ol:=jV 1 b
 by_cases hlen:a.length=b.length
 · have bg:∀j,j<a.length→(ints b)[j]?=some (I (nth b j)):=fun j hj=>jT _ _ (by omega)
   have loop:∀c:D,exS bh K.mK ⟨[.t (tL a),.ref 0 0 b.length,c,I 0],[qF b]⟩=
    some (match (List.range a.length).find? (fun j=>decide (nth a j≠nth b j))with
     | some j=>(.ret,⟨[.t (tL a),.ref 0 0 b.length,B false,I j],[qF b]⟩)
     | none=>(.exit 0,⟨[.t (tL a),.ref 0 0 b.length,.und,I a.length],[qF b]⟩)):=by
    intro c
    refine gR (fun j=>⟨[.t (tL a),.ref 0 0 b.length,.und,I j],[qF b]⟩) a.length (fun j=>decide (nth a j≠nth b j)) _ _ rfl ?_ ?_ ?_ (by simp)
    · intro j hj hp
      have hp:nth a j=nth b j:=by simpa using hp
      have g:=bg j hj
      generalize ints b=BB at*
      simp(disch:=omega)only[go_sem,K.gE,↓reduceIte,g,bl,hp,reduceAdd,reduceSub]
    · intro j hj hp
      have hp:nth a j≠nth b j:=by simpa using hp
      have g:=bg j hj
      generalize ints b=BB at*
      simp(disch:=omega)only[go_sem,K.gE,↓reduceIte,g,bl,hp,reduceAdd,reduceSub]
      simp
    · simp(disch:=omega)only[go_sem,K.gE,↓reduceIte]
   have e:(a=b)↔(List.range a.length).find? (fun j=>decide (nth a j≠nth b j))=none:=by
    rw[List.find?_eq_none]
    constructor
    · intro h j _;simp[h]
    · intro h
      apply List.ext_getElem?
      intro j
      by_cases hj:j<a.length
      · rw[iD hj,iD (by omega)]
        have:=h j (aLu.2 hj)
        simpa using this
      · rw[aLm (by omega),aLm (by omega)]
   simp only[qF]at*
   cases hf:(List.range a.length).find? (fun j=>decide (nth a j≠nth b j))with
   | some j=>
     rw[hf]at e
     simp only[hf]at loop
     have:¬a=b:=fun h=>by simpa using e.1 h
     generalize ints b=BB at*
     simp(disch:=omega)only[go_sem,K.cq,↓reduceIte,loop,bl,ol,hlen,this,decide_false,reduceAdd,reduceSub]
   | none=>
     rw[hf]at e
     simp only[hf]at loop
     have:=e.2 rfl
     simp only[this,decide_true]at*
     generalize ints b=BB at*
     simp(disch:=omega)only[go_sem,K.cq,↓reduceIte,loop,bl,ol,reduceAdd,reduceSub]
 · have:¬a=b:=fun h=>hlen (by rw[h])
   simp only[qF,this,decide_false]at*
   generalize ints b=BB at*
   simp(disch:=omega)only[go_sem,K.cq,↓reduceIte,bl,ol,hlen,reduceAdd,reduceSub]
end Go.Ev
namespace Go.Ev
open Go
variable [Lib] [cu] [b0] [gk] [gl] [jz] [fG] [fH] [gX] [fT] [eV] [dZ] [iJ] [eW] [pF] [pG] [wc]
abbrev tsV(n:Nat)(now k:Int)(t:Bool)(x:Int)(z22 z23:D):List D:=[.und,.und,.bp 0 0,.bp 1 0,I n,.ref 3 0 n,.ref 2 0 n,.und,.bp 4 0,I 0,I now,I k,.und,.und,.und,.und,.und,.und,.und,.und,B t,I x,z22,z23,.und]
abbrev tsH(d:aR)(m:bu)(at_ tags:List Int)(ws:List World)(R:ah):ah:=d.obj:: .box (af m):: .arr 1 false 0 (ints at_):: .arr 1 false 0 (ints tags):: .box [.t (.sl (ws.map World.e))]::R
def okR(R:ah):Prop:=R=[]∨(∃(a:Int) (y:T),R=[.box [I a,.t y]])∨∃y:T,R=[.box [.t y]]
def okP(x:World)(at_:List Int)(now:Int)(i:Nat):Bool:=decide (nth at_ i∈kj (nth x.whr i) now)
def KJ(x:World)(at_:List Int)(now:Int):Nat→Nat→Bool
 | 0,_=>true
 | r+1,j=>okP x at_ now j&&KJ x at_ now r (j+1)
theorem Qv(d:aR)(m:bu){at_ tags:List Int}{ws:List World}(hl:ws.length≤1000){R:ah}(hR:okR R){n:Nat}(hn:n≤3)(al:at_.length=n)(now k:Int)(t:Bool){x:Nat}(hx:x<ws.length)(wl:(nth ws x).whr.length=n)(wz:(nth ws x).sz){j:Nat}(hj:j<n):
 eP true [0,1,7,12,13,14,15,16,17,18,19,24] (5+R.length) (exS bh K.bT ⟨tsV n now k t x (B true) (I j),tsH d m at_ tags ws R⟩)=some ⟨tsV n now k t x (B (okP (nth ws x) at_ now j)) (I ((j+1:Nat):Int)),tsH d m at_ tags ws R⟩:=by
 have e1:(ws.map World.e)[x]?=some (nth ws x).e:=fB _ hx
 have e2:((nth ws x).whr.map Wh.e)[j]?=some (nth (nth ws x).whr j).e:=fB _ (by omega)
 have e3:(ints at_)[j]?=some (I (nth at_ j)):=jT _ _ (by omega)
 have e4:(ints at_).length=n:=by simp[ints,al]
 have fl:=wz.2.2 _ (aq (l:=(nth ws x).whr) (j:=j) (by omega))
 have po:=yy (nth (nth ws x).whr j) now fl
 have pl:(kj (nth (nth ws x).whr j) now).length≤1000000:=by
  have:=pt (nth (nth ws x).whr j).frm.length (fun q=>decide (nth (nth (nth ws x).whr j).frm q≤now))
  unfold kj
  omega
 have ho:=C2 (kj (nth (nth ws x).whr j) now) (nth at_ j) (by omega)
 unfold okP
 generalize decide (nth at_ j∈kj (nth (nth ws x).whr j) now)=r at*
 generalize kj (nth (nth ws x).whr j) now=ps at*
 generalize nth (nth ws x).whr j=w at*
 generalize nth ws x=y at*
 generalize ints at_=AT at*
 obtain⟨tg,wh⟩:=y
 obtain⟨tm,fr⟩:=w
 obtain⟨aa,roads⟩:=m
 simp only[af]at*
 rcases hR with rfl | ⟨a,y,rfl⟩ | ⟨y,rfl⟩
 · simp(disch:=omega)only[go_sem,K.bT,↓reduceIte,e1,e2,e3,e4,po,ho,reduceAdd,reduceSub]
 · simp(disch:=omega)only[go_sem,K.bT,↓reduceIte,e1,e2,e3,e4,po,ho,reduceAdd,reduceSub]
 · simp(disch:=omega)only[go_sem,K.bT,↓reduceIte,e1,e2,e3,e4,po,ho,reduceAdd,reduceSub]
theorem HU(d:aR)(m:bu)(at_ tags:List Int)(ws:List World){R:ah}(hR:okR R)(n:Nat)(now k:Int)(t:Bool)(x:Int)(ok:Bool)(j:Nat)(h:ok=false∨n≤j):
 exS bh K.bT ⟨tsV n now k t x (B ok) (I j),tsH d m at_ tags ws R⟩=some (.exit 7,⟨tsV n now k t x (B ok) (I j),tsH d m at_ tags ws R⟩):=by
 obtain⟨aa,roads⟩:=m
 simp only[tsH,tsV,af]
 by_cases c:j<n
 · have e:ok=false:=by rcases h with h | h;exact h;omega
   subst e
   simp(disch:=omega)only[go_sem,K.bT,↓reduceIte,c,reduceAdd,reduceSub]
 · simp(disch:=omega)only[go_sem,K.bT,↓reduceIte,c,reduceAdd,reduceSub]
theorem WK(d:aR)(m:bu){at_ tags:List Int}{ws:List World}(hl:ws.length≤1000){R:ah}(hR:okR R){n:Nat}(hn:n≤3)(al:at_.length=n)(now k:Int)(t:Bool){x:Nat}(hx:x<ws.length)(wz:(nth ws x).sz):∀r j ok,j+r=n→(ok=true→(nth ws x).whr.length=n)→
 ∃z:Nat,kz true [0,1,7,12,13,14,15,16,17,18,19,24] (exS bh K.bT) ⟨tsV n now k t x (B ok) (I (j:Nat)),tsH d m at_ tags ws R⟩=some (.exit 7,⟨tsV n now k t x (B (ok&&KJ (nth ws x) at_ now r j)) (I z),tsH d m at_ tags ws R⟩)
 | 0,j,ok,h,_=>⟨j,cG (by rw[KJ,Bool.and_true];exact HU d m at_ tags ws hR n now k t x ok j (.inr (by omega))) (by simp)⟩
 | r+1,j,false,h,_=>⟨j,cG (by rw[Bool.false_and];exact HU d m at_ tags ws hR n now k t x false j (.inl rfl)) (by simp)⟩
 | r+1,j,true,h,hw=>by
   obtain⟨z,hz⟩:=WK d m hl hR hn al now k t hx wz r (j+1) (okP (nth ws x) at_ now j) (by omega) (fun _=>hw rfl)
   refine⟨z,fL ?_ (by rw[Bool.true_and,KJ];exact hz)⟩
   have:=Qv d m (tags:=tags) hl hR hn al now k t hx (hw rfl) wz (j:=j) (by omega)
   have e:(tsH d m at_ tags ws R).length=5+R.length:=by simp[tsH];omega
   simp only[e]
   exact this
def okX(tags at_:List Int)(now:Int)(n:Nat)(x:World):Bool:=(decide (x.tags=tags)&&decide (x.whr.length=n))&&KJ x at_ now n 0
def IG(tags at_:List Int)(now:Int)(n:Nat)(ws:List World):Nat→Bool
 | 0=>false
 | x+1=>IG tags at_ now n ws x||okX tags at_ now n (nth ws x)
theorem xV(d:aR)(m:bu){at_ tags:List Int}{ws:List World}(hl:ws.length≤1000)(hz:∀x∈ws,x.sz){R:ah}(hR:okR R){n:Nat}(hn:n≤3)(al:at_.length=n)(tl:tags.length=n)(now k:Int):∀z0 z1 z7 z12 z13 z14 z15 z16 z17 z18 z19 z22 z23 z24:D,
 exS bh K.lQ ⟨[z0,z1,.bp 0 0,.bp 1 0,I n,.ref 3 0 n,.ref 2 0 n,z7,.bp 4 0,I 0,I now,I k,z12,z13,z14,z15,z16,z17,z18,z19,B false,I 0,z22,z23,z24],tsH d m at_ tags ws R⟩=
 some (.exit 5,⟨tsV n now k (IG tags at_ now n ws ws.length) ws.length .und .und,tsH d m at_ tags ws R⟩):=by
 intro z0 z1 z7 z12 z13 z14 z15 z16 z17 z18 z19 z22 z23 z24
 refine fP (fun x=>⟨tsV n now k (IG tags at_ now n ws x) x .und .und,tsH d m at_ tags ws R⟩) ws.length rfl ?_ ?_ (by simp)
 · intro x hx
   have wz:=hz _ (aq hx)
   have e1:(ws.map World.e)[x]?=some (nth ws x).e:=fB _ hx
   have inn:∀(t ok:Bool),(ok=true→(nth ws x).whr.length=n)→∃z:Nat,∀(z0 z1 z7 z12 z13 z14 z15 z16 z17 z18 z19 z24:D),exS bh K.lO ⟨[z0,z1,.bp 0 0,.bp 1 0,I n,.ref 3 0 n,.ref 2 0 n,z7,.bp 4 0,I 0,I now,I k,z12,z13,z14,z15,z16,z17,z18,z19,B t,I x,B ok,I 0,z24],tsH d m at_ tags ws R⟩=some (.exit 7,⟨tsV n now k t x (B (ok&&KJ (nth ws x) at_ now n 0)) (I z),tsH d m at_ tags ws R⟩):=fun t ok h=>by
    obtain⟨z,hz⟩:=WK d m (tags:=tags) hl hR hn al now k t hx wz n 0 ok (by omega) h
    exact⟨z,fun _ _ _ _ _ _ _ _ _ _ _ _=>vu hz⟩
   have so:=KI (nth ws x).tags tags (by have:=wz.1;omega)
   rw[tl]at so
   have i0:sk 8 (ints tags)=[]:=by unfold ints;exact tA 8 _
   have inn1:=inn (IG tags at_ now n ws x) (decide ((nth ws x).tags=tags)&&decide ((nth ws x).whr.length=n)) (fun h=>by simp only[aLr,decide_eq_true_eq]at h;exact h.2)
   obtain⟨z,inn1⟩:=inn1
   have e2:((nth ws x).whr.map Wh.e).length=(nth ws x).whr.length:=by simp
   have wl:=wz.2.1
   have e4:(ints tags).length=n:=by simp[ints,tl]
   simp only[IG,okX]
   generalize IG tags at_ now n ws x=t at*
   clear inn wz
   have len:(tsH d m at_ tags ws R).length=5+R.length:=by simp[tsH];omega
   obtain⟨aa,roads⟩:=m
   simp only[af,tsH,tsV,qF,ints]at*
   by_cases c1:(nth ws x).tags=tags
   · by_cases c2:(nth ws x).whr.length=n
     · simp only[c1,c2,decide_true,Bool.and_self,Bool.true_and]at so inn1 ⊢
       generalize KJ (nth ws x) at_ now n 0=r at*
       rcases hR with rfl | ⟨a,y,rfl⟩ | ⟨y,rfl⟩<;>cases t<;>
       simp(disch:=omega)only[go_sem,K.cX,↓reduceIte,e1,c1,so,c2,inn1,e4,i0,Bool.or_self,Bool.true_or,Bool.false_or,reduceAdd,reduceSub]
     · simp only[c1,c2,decide_true,decide_false,Bool.and_false,Bool.false_and]at so inn1 ⊢
       rcases hR with rfl | ⟨a,y,rfl⟩ | ⟨y,rfl⟩<;>cases t<;>
       simp(disch:=omega)only[go_sem,K.cX,↓reduceIte,e1,c1,so,c2,inn1,e4,i0,Bool.or_self,Bool.true_or,Bool.false_or,reduceAdd,reduceSub]
   · simp only[c1,decide_false,Bool.false_and]at so inn1 ⊢
     rcases hR with rfl | ⟨a,y,rfl⟩ | ⟨y,rfl⟩<;>cases t<;>
     simp(disch:=omega)only[go_sem,K.cX,↓reduceIte,e1,so,inn1,e4,i0,Bool.or_self,Bool.true_or,Bool.false_or,reduceAdd,reduceSub]
 · obtain⟨aa,roads⟩:=m
   simp only[af,tsH,tsV]
   generalize IG tags at_ now n ws ws.length=t
   rcases hR with rfl | ⟨a,y,rfl⟩ | ⟨y,rfl⟩
   · simp(disch:=omega)only[go_sem,K.cX,↓reduceIte,reduceAdd,reduceSub]
   · simp(disch:=omega)only[go_sem,K.cX,↓reduceIte,reduceAdd,reduceSub]
   · simp(disch:=omega)only[go_sem,K.cX,↓reduceIte,reduceAdd,reduceSub]
theorem mV{m:bu}(hm:m.ok){n:Nat}{tags at_:List Int}{now:Int}{b:Bel}(h:TI m n tags at_ now b):IG tags at_ now n b.aH b.aH.length=true:=by
 obtain⟨x,hx,xt,xf⟩:=h.wd
 obtain⟨first,fl,bv⟩:=h.fst
 have wx:=bv.wv x hx
 have ok:okX tags at_ now n x=true:=by
  unfold okX
  have key:∀r j,j+r=n→KJ x at_ now r j=true:=by
   intro r
   induction r with
   | zero=>intro j _;rfl
   | succ r ih=>
     intro j hj
     rw[KJ,ih (j+1) (by omega),Bool.and_true]
     unfold okP
     rw[decide_eq_true_eq,Hx]
     have pj:=h.ar _ (aq (l:=at_) (j:=j) (by have:=h.al;omega))
     have v:=(bZ (wx.wv _ (aq (l:=x.whr) (j:=j) (by have:=wx.wl;omega)))).1
     exact⟨pj.1,by omega,xf j (by omega)⟩
  rw[key n 0 (by omega)]
  have:=wx.wl
  simp[xt];omega
 have key:∀j,j≤b.aH.length→∀i,i<j→nth b.aH i=x→IG tags at_ now n b.aH j=true:=by
  intro j
  induction j with
  | zero=>intro _ i hi;omega
  | succ j ih=>
    intro hj i hi e
    rw[IG]
    by_cases c:i=j
    · subst c;rw[e,ok,Bool.or_true]
    · rw[ih (by omega) i (by omega) e,Bool.true_or]
 obtain⟨k,hk⟩:=aLf.1 hx
 exact key _ (aLs _) k (aLe.1 hk).1 (bF hk)
theorem EP(l:List Int):bh 2 N.aT [.ref 0 0 l.length] [qF l]=some (.fn N.aF [.bp 1 0],[qF l,.box [.ref 0 0 l.length]]):=by
 refine aE K.eh rfl ?_
 simp only[qF,ints]
 simp(disch:=omega)only[go_sem,K.aT,↓reduceIte,reduceAdd,reduceSub]
theorem ER(l:List Int)(hl:l.length≤1000000):bh 0 N.bE [.fn N.aF [.bp 0 0]] [.box [.ref 1 0 l.length],qF l]=some (.t (tL (gF l)),[.box [.ref 1 0 l.length],qF l]):=by
 refine vt K.fW (by decide) ?_
 show p4 [2,N.aF] _ _=_
 have fz:o7 [.box [.ref 1 0 l.length],qF l] (.ref 1 0 l.length)=some (.t (tL l)):=by
  have bl:(ints l).length=l.length:=by simp[ints]
  have e:bR (frz [.box [.ref 1 0 l.length],qF l] 7) (ints l)=some (l.map (T.int .i64)):=by
   unfold ints;exact xq _ _ _
  simp only[o7,frz,depth,eI,qF,List.getElem?_cons_succ,List.getElem?_cons_zero,bl,and_self,if_true,aLq,aLw]at e ⊢
  rw[e];rfl
 simp only[p4,if_true,List.getElem?_cons_zero,fz,aLq,xG]
 rw[if_pos (by unfold lim;omega)]
theorem ES(l:List Int)(hl:l.length≤1000000):bh 0 N.cN [.ref 0 0 l.length] [qF l]=some (B (dN l),[qF l]):=by
 refine aE K.jS rfl ?_
 have v:=EP l
 have s:=ER l hl
 have r:=vL (gF l) 1 65535 (by rw[jr];omega)
 rw[xK]at r
 simp only[qF,ints]at*
 simp(disch:=omega)only[go_sem,K.cN,↓reduceIte,v,s,r,reduceAdd,reduceSub]
theorem HV(l:List Int)(h0:0<l.length)(hl:l.length≤1000000):bh 0 N.aB [.ref 0 0 l.length] [qF l]=some (.t (tL l),[qF l]):=by
 refine aE K.dE rfl ?_
 have hh:cy 1 ((l.map (T.int .i64)).map .t)=true:=by cases l<;>rfl
 simp only[qF,ints]
 simp(disch:=omega)only[go_sem,K.aB,↓reduceIte,hh,reduceAdd,reduceSub]
abbrev slH(m:bu)(tags du:List Int)(ws:List Wh):ah:=[.arr 1 false 0 (ints tags),.arr 1 false 0 (ints du),.box (af m),.box [.nil],.box [.t (tL tags),.ref 6 0 ws.length],.arr 2 false 0 [],.arr 2 false 0 ((ws.map Wh.e).map .t)]
theorem HW{m:bu}(h:m.ok)(h1:1≤m.aa.length)(tags du:List Int)(hn:du.length=tags.length)(h2:1≤tags.length∧tags.length≤12)(hp:dN tags=true)(t:Int)(hs:∀i,i<tags.length→(dL m (nth du i) t).2=0):
 bh 0 N.dg [.t m.e,.ref 0 0 tags.length,.ref 1 0 tags.length,I t] [qF tags,qF du]=some (.tup [.t (Bel.e ⟨[⟨tags,fY m du t tags.length⟩]⟩),I 0],[qF tags,qF du]):=by
 refine aE K.kp rfl ?_
 have va:=j5 h
 have tg:=ES tags (by omega)
 have li:=tT (tags.length:Int) 1 12
 have cl:=HV tags (by omega) (by omega)
 rw[decide_eq_true (by omega)]at li
 rw[hp]at tg
 have b1:(ints tags).length=tags.length:=by simp[ints]
 have b2:(ints du).length=tags.length:=by simp[ints,hn]
 have i1:sk 8 (ints tags)=[]:=by unfold ints;exact tA 8 _
 have i2:sk 8 (ints du)=[]:=by unfold ints;exact tA 8 _
 have o1:=jV 2 tags
 have o2:=jV 2 du
 have sg:∀j,j<tags.length→(ints du)[j]?=some (I (nth du j)):=fun j hj=>jT _ _ (by omega)
 have loop:∀z0 z1 z2 z6 z8 z9 z10:D,exS bh K.mU ⟨[z0,z1,z2,I t,.bp 2 0,.bp 3 0,z6,.bp 4 0,z8,z9,z10,.ref 1 0 tags.length,I tags.length,I 0],slH m tags du []⟩=
  some (.exit 1,⟨[.und,.und,.und,I t,.bp 2 0,.bp 3 0,.und,.bp 4 0,.und,.und,.und,.ref 1 0 tags.length,I tags.length,I tags.length],slH m tags du (fY m du t tags.length)⟩):=by
  intro z0 z1 z2 z6 z8 z9 z10
  refine fP (fun j=>⟨[.und,.und,.und,I t,.bp 2 0,.bp 3 0,.und,.bp 4 0,.und,.und,.und,.ref 1 0 tags.length,I tags.length,I j],slH m tags du (fY m du t j)⟩) tags.length rfl ?_ ?_ (by simp)
  · intro j hj
    have st:=Hc h h1 (nth du j) t
    have ln:=nV m du t j
    have hp:=hs j hj
    have g:=sg j hj
    rw[Av]
    generalize fY m du t j=L at*
    generalize dL m (nth du j) t=r at*
    obtain⟨⟨time,frm⟩,e⟩:=r
    obtain⟨aa,roads⟩:=m
    simp only[af,slH]at st hp ⊢
    subst hp
    clear sg hs
    simp only[ints]at*
    simp(disch:=omega)only[go_sem,K.jy,↓reduceIte,st,g,b2,reduceAdd,reduceSub]
  · have ln:=nV m du t tags.length
    generalize fY m du t tags.length=L at*
    simp only[slH,ints]
    simp(disch:=omega)only[go_sem,K.jy,↓reduceIte,reduceAdd,reduceSub]
 simp only[slH,List.map_nil,List.length_nil,qF]at*
 have ln:=nV m du t tags.length
 generalize fY m du t tags.length=L at*
 obtain⟨aa,roads⟩:=m
 simp only[af]at*
 clear sg hs
 simp only[ints]at*
 simp(disch:=omega)only[go_sem,K.dg,↓reduceIte,va,tg,li,cl,loop,b1,b2,i1,i2,o1,o2,Bool.true_eq_false,reduceAdd,reduceSub]
 rfl
abbrev mtV(n:Nat)(now:Int)(k:Nat):List D:=[.und,.und,.bp 0 0,.bp 1 0,I n,.ref 3 0 n,.ref 2 0 n,.und,.bp 4 0,I 0,I now,I (k:Nat),.und,.und,.und,.und,.und,.und,.und,.und,.und,.und,.und,.und,.und]
theorem KK{d:aR}(hd:d.eL){m:bu}(hm:m.ok)(p1:1≤m.aa.length){n:Nat}(hn:2≤n){tags at_:List Int}{now:Int}{b:Bel}(h:TI m n tags at_ now b)(k:Nat)(hk:k<100):
 ∃(d':aR) (tags' at':List Int) (now':Int) (b':Bel),d'.eL∧TI m n tags' at' now' b'∧
  eP true [0,1,7,12,13,14,15,16,17,18,19,20,21,22,23,24] 5 (exS bh K.bG ⟨mtV n now (k+1),tsH d m at_ tags b.aH []⟩)=some ⟨mtV n now' k,tsH d' m at' tags' b'.aH []⟩:=by
 have n3:=h.n3
 obtain⟨v,e1,g1,l1,v0,v1⟩:=vO hd n (by omega) (by omega)
 obtain⟨i,rfl⟩:=Int.eq_ofNat_of_zero_le v0
 have hi:i<n:=by omega
 obtain⟨c,e2,g2,l2,c0,c1⟩:=vO l1 3 (by omega) (by omega)
 have wk:IntKind.i64.wrap (k:Int)=k:=qf (by omega) (by omega)
 have al:=h.al
 have tl:=h.tl
 have np:=hm.np
 have AL:(ints at_).length=n:=by simp[ints,al]
 have TL:(ints tags).length=n:=by simp[ints,tl]
 have ai:(ints at_)[i]?=some (I (nth at_ i)):=jT _ _ (by omega)
 have t_i:(ints tags)[i]?=some (I (nth tags i)):=jT _ _ (by omega)
 have sz:=h.sz hm
 have fw:=h.few
 have sets:∀(l:List Int) (i:Nat) (x:Int),(ints l).set i (I x)=ints (l.set i x):=fun l i x=>by simp[ints]
 have oa:=jV 5 at_
 have ot:=jV 5 tags
 have oq:∀q:Int,ec 5 8 ((ints at_).set i (I q))=true:=fun q=>by rw[sets];exact jV 5 _
 have os:∀(j:Nat) (x y:Int),ec 5 8 (((ints tags).set i (I x)).set j (I y))=true:=fun j x y=>by rw[sets,sets];exact jV 5 _
 by_cases q0:c=0
 · subst q0
   obtain⟨q,e3,g3,l3,q0,q1⟩:=vO l2 m.aa.length (by omega) (by omega)
   obtain⟨q,rfl⟩:=Int.eq_ofNat_of_zero_le q0
   have hq:q<m.aa.length:=by omega
   obtain⟨w1,w2,w3⟩:=P5 hm h hi hq
   have so:=JD hm (nth at_ i) now
   have fq:((dL m (nth at_ i) now).1.frm.map (T.int .i64))[q]?=some (tI (nth (dL m (nth at_ i) now).1.frm q)):=fB _ (by omega)
   by_cases le:nth (dL m (nth at_ i) now).1.frm q≤2147483648
   · have h2:=w3 le
     refine⟨e3,tags,at_.set i q,_,b,l3,h2,?_⟩
     have any:=mV hm h2
     generalize hF:dL m (nth at_ i) now=F at*
     obtain⟨⟨ft,ff⟩,fe⟩:=F
     simp only at w1 w2 fq le any so ⊢
     subst w1
     have out:=xV e3 m (at_:=at_.set i q) (tags:=tags) (ws:=b.aH) (by omega) sz.2 (R:=[.box [I ft,.t (tL ff)]]) (.inr (.inl ⟨_,_,rfl⟩)) n3 (by simpa using al) tl (nth ff q) ((k:Int)+1)
     rw[any]at out
     have st1:ints (at_.set i (q:Int))=(ints at_).set i (I q):=(sets _ _ _).symm
     clear any h h2 w3 sets sz
     generalize nth ff q=nq at*
     obtain⟨aa,roads⟩:=m
     obtain⟨ws⟩:=b
     simp only[af,tsH,tsV,mtV]at*
     rw[st1]at out ⊢
     generalize ints at_=AT at*
     generalize ints tags=TG at*
     simp(disch:=omega)only[go_sem,K.bG,↓reduceIte,g1,g2,g3,so,fq,ai,AL,TL,out,wk,le,oa,ot,oq,os,and_self,reduceAdd,reduceSub]
   · refine⟨e3,tags,at_,now,b,l3,h,?_⟩
     have any:=mV hm h
     generalize hF:dL m (nth at_ i) now=F at*
     obtain⟨⟨ft,ff⟩,fe⟩:=F
     simp only at w1 w2 fq le any so ⊢
     subst w1
     have out:=xV e3 m (at_:=at_) (tags:=tags) (ws:=b.aH) (by omega) sz.2 (R:=[.box [I ft,.t (tL ff)]]) (.inr (.inl ⟨_,_,rfl⟩)) n3 al tl now ((k:Int)+1)
     rw[any]at out
     clear any h w3 sets sz
     generalize nth ff q=nq at*
     obtain⟨aa,roads⟩:=m
     obtain⟨ws⟩:=b
     simp only[af,tsH,tsV,mtV]at*
     generalize ints at_=AT at*
     generalize ints tags=TG at*
     simp(disch:=omega)only[go_sem,K.bG,↓reduceIte,g1,g2,g3,so,fq,ai,AL,TL,out,wk,le,oa,ot,oq,os,and_self,reduceAdd,reduceSub]
 · by_cases q1:c=1
   · subst q1
     obtain⟨j,e3,g3,l3,j0,j1⟩:=vO l2 n (by omega) (by omega)
     obtain⟨j,rfl⟩:=Int.eq_ofNat_of_zero_le j0
     have hj:j<n:=by omega
     have aj:(ints at_)[j]?=some (I (nth at_ j)):=jT _ _ (by omega)
     have t_j:(ints tags)[j]?=some (I (nth tags j)):=jT _ _ (by omega)
     by_cases c2:i≠j∧nth at_ i=nth at_ j
     · obtain⟨c2,c3⟩:=c2
       obtain⟨b2,ex,h2⟩:=P6 hm h hi hj c2 c3
       refine⟨e3,yI tags i j,at_,now,b2,l3,h2,?_⟩
       have any:=mV hm h2
       have xo:=Kt hm b sz (by omega) i j now
       rw[ex]at xo
       have out:=xV e3 m (at_:=at_) (tags:=yI tags i j) (ws:=b2.aH) (by have:=h2.few;omega) (h2.sz hm).2 (R:=[]) (.inl rfl) n3 al h2.tl now ((k:Int)+1)
       have st:ints (yI tags i j)=((ints tags).set i (I (nth tags j))).set j (I (nth tags i)):=by rw[sets,sets];rfl
       have t_j2:((ints tags).set i (I (nth tags j)))[j]?=some (I (nth tags j)):=by rw[aLi c2];exact t_j
       rw[any]at out
       have cn:¬(i:Int)=j:=fun e=>c2 (by omega)
       clear any h h2 sets sz ex
       obtain⟨aa,roads⟩:=m
       obtain⟨ws⟩:=b
       obtain⟨ws2⟩:=b2
       simp only[af,tsH,tsV,mtV]at*
       rw[st]at out ⊢
       generalize ints at_=AT at*
       generalize ints tags=TG at*
       simp(disch:=omega)only[go_sem,K.bG,↓reduceIte,g1,g2,g3,xo,ai,aj,t_i,t_j,t_j2,AL,TL,out,wk,cn,c3,oa,ot,oq,os,and_self,reduceAdd,reduceSub]
     · refine⟨e3,tags,at_,now,b,l3,h,?_⟩
       have any:=mV hm h
       have out:=xV e3 m (at_:=at_) (tags:=tags) (ws:=b.aH) (by omega) sz.2 (R:=[]) (.inl rfl) n3 al tl now ((k:Int)+1)
       rw[any]at out
       clear any h sets sz
       obtain⟨aa,roads⟩:=m
       obtain⟨ws⟩:=b
       simp only[af,tsH,tsV,mtV]at*
       generalize ints at_=AT at*
       generalize ints tags=TG at*
       by_cases cn:(i:Int)=j
       · simp(disch:=omega)only[go_sem,K.bG,↓reduceIte,g1,g2,g3,ai,aj,AL,TL,out,wk,cn,oa,ot,oq,os,and_self,reduceAdd,reduceSub]
       · have c3:¬nth at_ i=nth at_ j:=fun e=>c2 ⟨fun e=>cn (by omega),e⟩
         simp(disch:=omega)only[go_sem,K.bG,↓reduceIte,g1,g2,g3,ai,aj,AL,TL,out,wk,cn,c3,oa,ot,oq,os,and_self,reduceAdd,reduceSub]
   · obtain⟨l,e3,g3,l3,sl,ss⟩:=Wv l2 m.aa.length (by omega)
     have ho:=C2 l (nth at_ i) (by omega)
     have c2:c=2:=by omega
     subst c2
     by_cases hin:nth at_ i∈l
     · obtain⟨b2,ex,h2⟩:=Ww hm h hi ss hin
       refine⟨e3,tags,at_,now,b2,l3,h2,?_⟩
       have any:=mV hm h2
       have xo:=Ko hm p1 b sz (nth tags i) l (by omega) now now
       rw[ex]at xo
       rw[decide_eq_true hin]at ho
       have out:=xV e3 m (at_:=at_) (tags:=tags) (ws:=b2.aH) (by have:=h2.few;omega) (h2.sz hm).2 (R:=[.box [.t (.sl (b2.aH.map World.e))]]) (.inr (.inr ⟨_,rfl⟩)) n3 al tl now ((k:Int)+1)
       rw[any]at out
       clear any h h2 sets sz ex
       obtain⟨aa,roads⟩:=m
       obtain⟨ws⟩:=b
       obtain⟨ws2⟩:=b2
       simp only[af,tsH,tsV,mtV]at*
       generalize ints at_=AT at*
       generalize ints tags=TG at*
       simp(disch:=omega)only[go_sem,K.bG,↓reduceIte,g1,g2,g3,ho,xo,ai,t_i,AL,TL,out,wk,oa,ot,oq,os,and_self,reduceAdd,reduceSub]
     · refine⟨e3,tags,at_,now,b,l3,h,?_⟩
       have any:=mV hm h
       rw[decide_eq_false hin]at ho
       have out:=xV e3 m (at_:=at_) (tags:=tags) (ws:=b.aH) (by omega) sz.2 (R:=[]) (.inl rfl) n3 al tl now ((k:Int)+1)
       rw[any]at out
       clear any h sets sz
       obtain⟨aa,roads⟩:=m
       obtain⟨ws⟩:=b
       simp only[af,tsH,tsV,mtV]at*
       generalize ints at_=AT at*
       generalize ints tags=TG at*
       simp(disch:=omega)only[go_sem,K.bG,↓reduceIte,g1,g2,g3,ho,ai,AL,TL,out,wk,oa,ot,oq,os,and_self,reduceAdd,reduceSub]
theorem Qw{d:aR}(hd:d.eL){m:bu}(hm:m.ok)(p1:1≤m.aa.length){n:Nat}(hn:n≤3)(tg:T)(z0 z1 z8 z9 z10 z11 z12 z13 z14 z15 z16 z17 z18 z19 z20 z21 z22 z23 z24:D):
 ∃(d':aR) (at_:List Int),d'.eL∧at_.length=n∧(∀p∈at_,0≤p∧p<m.aa.length)∧
  exS bh K.lN ⟨[z0,z1,.bp 0 0,.bp 1 0,I n,.t tg,.ref 2 0 n,I 0,z8,z9,z10,z11,z12,z13,z14,z15,z16,z17,z18,z19,z20,z21,z22,z23,z24],[d.obj,.box (af m),.arr 1 false 0 (List.replicate n (I 0))]⟩=
  some (.exit 0,⟨[.und,.und,.bp 0 0,.bp 1 0,I n,.t tg,.ref 2 0 n,I n,.und,.und,.und,.und,.und,.und,.und,.und,.und,.und,.und,.und,.und,.und,.und,.und,.und],[d'.obj,.box (af m),.arr 1 false 0 (ints at_)]⟩):=by
 have np:=hm.np
 have e0:List.replicate n (I 0)=ints (List.replicate n 0):=by simp[ints]
 have key:=Dl (vs:=[z0,z1,.bp 0 0,.bp 1 0,I n,.t tg,.ref 2 0 n,I 0,z8,z9,z10,z11,z12,z13,z14,z15,z16,z17,z18,z19,z20,z21,z22,z23,z24]) (H:=[d.obj,.box (af m),.arr 1 false 0 (List.replicate n (I 0))]) (c:=K.fZ) (gc:=true) (dead:=[0,1,8,9,10,11,12,13,14,15,16,17,18,19,20,21,22,23,24])
  (fun j st=>∃(d':aR) (a:List Int),d'.eL∧a.length=n∧(∀p∈a,0≤p∧p<m.aa.length)∧st=⟨[.und,.und,.bp 0 0,.bp 1 0,I n,.t tg,.ref 2 0 n,I j,.und,.und,.und,.und,.und,.und,.und,.und,.und,.und,.und,.und,.und,.und,.und,.und,.und],[d'.obj,.box (af m),.arr 1 false 0 (ints a)]⟩)
  n (fun q=>∃(d':aR) (a:List Int),d'.eL∧a.length=n∧(∀p∈a,0≤p∧p<m.aa.length)∧q=(.exit 0,⟨[.und,.und,.bp 0 0,.bp 1 0,I n,.t tg,.ref 2 0 n,I n,.und,.und,.und,.und,.und,.und,.und,.und,.und,.und,.und,.und,.und,.und,.und,.und,.und],[d'.obj,.box (af m),.arr 1 false 0 (ints a)]⟩))
  ⟨d,List.replicate n 0,hd,by simp,fun p hp=>by rw[List.eq_of_mem_replicate hp];omega,by rw[e0];simp only[go_sem,Int.natCast_zero]⟩ ?_ ?_
 · obtain⟨q,h1,d',a,hl,al,ar,h2⟩:=key
   refine⟨d',a,hl,al,ar,?_⟩
   rw[← h2]
   exact h1
 · rintro j st hj ⟨d',a,hl,al,ar,rfl⟩
   obtain⟨v,e,g,l2,v0,v1⟩:=vO hl m.aa.length (by omega) (by omega)
   have AL:(ints a).length=n:=by simp[ints,al]
   have ai:(ints a)[j]?=some (I (nth a j)):=jT _ _ (by omega)
   have st1:ints (a.set j v)=(ints a).set j (I v):=by simp[ints]
   have oa:=jV 3 (a.set j v)
   refine⟨_,?_,e,a.set j v,l2,by simpa using al,fun p hp=>?_,rfl⟩
   · rw[st1]at oa ⊢
     clear ar
     obtain⟨aa,roads⟩:=m
     simp only[af]at*
     generalize ints a=A at*
     simp(disch:=omega)only[go_sem,K.fZ,↓reduceIte,g,AL,ai,oa,reduceAdd,reduceSub]
   · rcases aLk hp with h | h
     · exact ar p h
     · subst h;exact⟨v0,v1⟩
 · rintro st ⟨d',a,hl,al,ar,rfl⟩
   refine⟨_,?_,?_,d',a,hl,al,ar,rfl⟩
   · obtain⟨aa,roads⟩:=m
     simp only[af]at*
     generalize ints a=A at*
     simp(disch:=omega)only[go_sem,K.fZ,↓reduceIte,reduceAdd,reduceSub]
   · simp
theorem Qx{d:aR}(hd:d.eL){m:bu}(hm:m.ok)(p1:1≤m.aa.length){n:Nat}(hn:2≤n){tags at_:List Int}{b:Bel}(h:TI m n tags at_ 0 b)(k:Nat)(hk:k<100)(z0 z1 z7 z12 z13 z14 z15 z16 z17 z18 z19 z20 z21 z22 z23 z24:D):
 ∃(now':Int) (H:ah),
  exS bh K.lS ⟨[z0,z1,.bp 0 0,.bp 1 0,I n,.ref 3 0 n,.ref 2 0 n,z7,.bp 4 0,I 0,I 0,I k,z12,z13,z14,z15,z16,z17,z18,z19,z20,z21,z22,z23,z24],tsH d m at_ tags b.aH []⟩=some (.exit 2,⟨mtV n now' 0,H⟩):=by
 have key:=Dl (vs:=[z0,z1,.bp 0 0,.bp 1 0,I n,.ref 3 0 n,.ref 2 0 n,z7,.bp 4 0,I 0,I 0,I k,z12,z13,z14,z15,z16,z17,z18,z19,z20,z21,z22,z23,z24]) (H:=tsH d m at_ tags b.aH []) (c:=K.bG) (gc:=true) (dead:=[0,1,7,12,13,14,15,16,17,18,19,20,21,22,23,24])
  (fun j st=>∃(d':aR) (tags' at':List Int) (now':Int) (b':Bel),d'.eL∧TI m n tags' at' now' b'∧st=⟨mtV n now' (k-j),tsH d' m at' tags' b'.aH []⟩)
  k (fun q=>∃(d':aR) (tags' at':List Int) (now':Int) (b':Bel),q=(.exit 2,⟨mtV n now' 0,tsH d' m at' tags' b'.aH []⟩))
  ⟨d,tags,at_,0,b,hd,h,by simp only[go_sem,mtV,tsH,Nat.sub_zero]⟩ ?_ ?_
 · obtain⟨q,h1,d',tags',at',now',b',h2⟩:=key
   subst h2
   exact⟨_,_,h1⟩
 · rintro j st hj ⟨d',tags',at',now',b',hl,ht,rfl⟩
   obtain⟨r,hr⟩:∃r,k-j=r+1:=⟨k-j-1,by omega⟩
   have hr2:k-(j+1)=r:=by omega
   obtain⟨d2,t2,a2,now2,b2,l2,h2,e⟩:=KK hl hm p1 hn ht r (by omega)
   refine⟨_,?_,d2,t2,a2,now2,b2,l2,h2,rfl⟩
   rw[hr,hr2]
   exact e
 · rintro st ⟨d',tags',at',now',b',hl,ht,rfl⟩
   refine⟨_,?_,?_,d',tags',at',now',b',rfl⟩
   · rw[Nat.sub_self]
     obtain⟨aa,roads⟩:=m
     simp only[af,tsH,mtV]at*
     generalize ints at'=AT at*
     generalize ints tags'=TG at*
     simp(disch:=omega)only[go_sem,K.bG,↓reduceIte,reduceAdd,reduceSub]
   · simp
theorem Cf{m:bu}(hm:m.ok){n:Nat}(hn:n=2∨n=3){at_:List Int}(al:at_.length=n)(ar:∀p∈at_,0≤p∧p<m.aa.length):
 rE m ([5,6,7].take n) at_ 0=(⟨[⟨([5,6,7]:List Int).take n,fY m at_ 0 (([5,6,7]:List Int).take n).length⟩]⟩,0):=by
 have pr:dN (([5,6,7]:List Int).take n)=true:=by rcases hn with rfl | rfl<;>decide
 have tl:(([5,6,7]:List Int).take n).length=n:=by rcases hn with rfl | rfl<;>rfl
 have i0:inT 0:=⟨by omega,by omega⟩
 unfold rE
 rw[if_pos (by omega),if_pos pr]
 have:(List.range (([5,6,7]:List Int).take n).length).find? (fun i=> !decide ((dL m (nth at_ i) 0).2=0))=none:=by
  rw[List.find?_eq_none]
  intro i hi
  rw[tl]at hi
  have:=(uC hm (ar _ (aq (l:=at_) (j:=i) (by have:=aLu.1 hi;omega))).1 (ar _ (aq (l:=at_) (j:=i) (by have:=aLu.1 hi;omega))).2 i0).2.2.1
  simp[this]
 rw[this]
theorem KL(aw:bh 0 N.fC [] []=some (B true,[]))(li:List Int):bh 0 N.ck [.t (tL li)] []=some (B true,[]):=by
 refine aE K.jR rfl ?_
 have lo:=Jv li
 by_cases c:li.length≤400
 · simp only[c,decide_true]at lo
   have ro:=Wj li
   have d0:(aR.mk li 0).eL:=c
   generalize (aR.mk li 0)=d at*
   obtain⟨m,e1,mo,l1,hm,p1,p2,r1,r2⟩:=Wk d0
   obtain⟨g,e2,go,l2,g0,g1⟩:=vO l1 2 (by omega) (by omega)
   have rest:∀n:Nat,(n:Int)=2+g→n=2∨n=3:=fun n h=>by omega
   obtain⟨n,hn⟩:∃n:Nat,(n:Int)=2+g:=⟨(2+g).toNat,by omega⟩
   have n23:=rest n hn
   clear rest
   have ini:=fun z0 z1 z8 z9 z10 z11 z12 z13 z14 z15 z16 z17 z18 z19 z20 z21 z22 z23 z24=>Qw l2 hm (by omega) (n:=n) (by omega) (tL (([5,6,7]:List Int).take n)) z0 z1 z8 z9 z10 z11 z12 z13 z14 z15 z16 z17 z18 z19 z20 z21 z22 z23 z24
   obtain⟨d3,at_,l3,al,ar,i1⟩:=ini (.t (tL li)) (B false) .und .und .und .und .und .und .und .und .und .und .und .und .und .und .und .und .und
   have tl:(([5,6,7]:List Int).take n).length=n:=by rcases n23 with rfl | rfl<;>rfl
   have pr:dN (([5,6,7]:List Int).take n)=true:=by rcases n23 with rfl | rfl<;>decide
   have i0:inT 0:=⟨by omega,by omega⟩
   have so:=HW hm (by omega) (([5,6,7]:List Int).take n) at_ (by omega) (by omega) pr 0 (fun i hi=>(uC hm (ar _ (aq (l:=at_) (j:=i) (by omega))).1 (ar _ (aq (l:=at_) (j:=i) (by omega))).2 i0).2.2.1)
   obtain⟨b,sb,ti⟩:=Ky hm n23 al ar
   have eb:b=⟨[⟨([5,6,7]:List Int).take n,fY m at_ 0 (([5,6,7]:List Int).take n).length⟩]⟩:=by
    have q:=Cf hm n23 al ar
    rw[q]at sb
    exact((Prod.mk.inj sb).1).symm
   rw[← eb,tl]at so
   obtain⟨kk,e4,g4,l4,k0,k1⟩:=vO l3 25 (by omega) (by omega)
   obtain⟨kk,rfl⟩:=Int.eq_ofNat_of_zero_le k0
   obtain⟨nw,H,m1⟩:=Qx l4 hm (by omega) (n:=n) (by omega) ti kk (by omega) .und .und (I n) .und .und .und .und .und .und .und .und .und .und .und .und .und
   clear ini ti sb eb ar hm
   obtain⟨aa,roads⟩:=m
   obtain⟨ws⟩:=b
   simp only[af,tsH,mtV]at*
   rcases n23 with rfl | rfl
   · have e0:g=0:=by omega
     subst e0
     have t2:([5,6,7]:List Int).take 2=[5,6]:=rfl
     have c2:((2:Nat):Int)=2:=rfl
     simp only[t2,c2]at*
     have AL:(ints at_).length=2:=by simp[ints,al]
     have oa:=jV 5 at_
     have ia:=DF at_
     simp only[qF,ints,tL,List.map_cons,List.map_nil]at*
     simp(disch:=omega)only[go_sem,K.ck,↓reduceIte,lo,ro,mo,go,i1,so,g4,m1,aw,AL,oa,ia,Int.reduceAdd,Int.reduceToNat,List.take_succ_cons,List.take_zero,reduceAdd,reduceSub]
   · have e0:g=1:=by omega
     subst e0
     have t2:([5,6,7]:List Int).take 3=[5,6,7]:=rfl
     have c2:((3:Nat):Int)=3:=rfl
     simp only[t2,c2]at*
     have AL:(ints at_).length=3:=by simp[ints,al]
     have oa:=jV 5 at_
     have ia:=DF at_
     simp only[qF,ints,tL,List.map_cons,List.map_nil]at*
     simp(disch:=omega)only[go_sem,K.ck,↓reduceIte,lo,ro,mo,go,i1,so,g4,m1,aw,AL,oa,ia,Int.reduceAdd,Int.reduceToNat,List.take_succ_cons,List.take_zero,reduceAdd,reduceSub]
 · simp only[c,decide_false]at lo
   simp(disch:=omega)only[go_sem,K.ck,↓reduceIte,lo,aw,reduceAdd,reduceSub]
end Go.Ev
