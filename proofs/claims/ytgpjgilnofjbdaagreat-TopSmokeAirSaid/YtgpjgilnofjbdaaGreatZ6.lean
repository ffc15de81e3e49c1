/- Parts of the proof: see the text that holds the theorem. -/
import Derived.Test.YtgpjgilnofjbdaaGreatZ5
set_option linter.all false
open Nat (reduceAdd reduceSub)
set_option maxRecDepth 100000
namespace Go.Ev
open Go
variable [Lib] [cr] [bZ] [eM] [dT] [gK] [dJ] [dV] [fN] [fy] [jK]
theorem Sy{P:Program}{n:Nat}{t:TypeId}{x:T}(hu:P.underlying t=some (.int .u8))(h:okT P (n+1) t x):∃m,x= .int .u8 m∧0≤m∧m<256:=by
 obtain⟨h1,h2,h3⟩:=h
 have hA:iy P t=false:=by unfold iy;rw[hu]
 unfold okC at h1
 rw[hu]at h1
 obtain⟨m,h4,h5⟩:=h1
 rw[Dw (h3 hA)]at h4
 have e1:IntKind.u8.min=0:=rfl
 have e2:IntKind.u8.max=255:=rfl
 simp only[Lit.wf,e1,e2,aLr,decide_eq_true_eq]at h5
 exact⟨m,by simpa using h4,by omega,by omega⟩
theorem abF{P:Program}{n:Nat}{t e:TypeId}{x:T}(hu:P.underlying t=some (.slice e))(he:P.underlying e=some (.int .u8))(h:okT P (n+2) t x):
 ∃l:List Int,x= .sl (l.map (T.int .u8))∧l.length≤maxLen∧∀m∈l,0≤m∧m<256:=
 I0 hu (T.int .u8) (fun m=>0≤m∧m<256) (fun _ hx=>Sy he hx) h
theorem OQ(l:List Int)(hl:l.length≤1000)(hb:∀x∈l,0≤x∧x<256):∃c:Cod,c.ok∧bL 0 N.pB [.t (tU l)] []=some (.bp 0 0,[c.obj]):=by
 have tn:(min (l.length:Int) 300).toNat≤l.length:=by omega
 refine⟨⟨l.take (min (l.length:Int) 300).toNat,0⟩,⟨by simp;omega,fun x hx=>hb x (List.mem_of_mem_take hx)⟩,aI K.AN rfl ?_⟩
 have c1:0≤min (l.length:Int) 300:=by omega
 have c2:min (l.length:Int) 300≤((l.map (T.int .u8)).length:Nat):=by simp;omega
 have cu:cj 1 (l.map (T.int .u8))=true:=jO 1 _ (fun _=>rfl) l
 have tk:(l.map (T.int .u8)).take (min (l.length:Int) 300).toNat=(l.take (min (l.length:Int) 300).toNat).map (T.int .u8):=by simp
 simp only[Cod.obj]
 simp(disch:=omega)only[go_sem,K.pB,↓reduceIte,c1,c2,cu,tk,reduceAdd,reduceSub]
theorem OR:bL 0 N.ew [] []=some (.t (Spn.e ⟨-1125899906842624,1125899906842624⟩),[]):=by
 refine aI K.qj rfl ?_
 simp(disch:=omega)only[go_sem,K.ew,↓reduceIte,reduceAdd,reduceSub]
def Xt(A:Air)(fl:List Int)(R:List Spn):Prop:=R.length=A.m.roads.length∧∀i,i<A.m.roads.length→(nth R i).ok∧(nth R i).low≤nth fl i∧nth fl i≤(nth R i).high
theorem Sz{sh:Nat}{A:Air}{tf td pr fl:List Int}(h:AQ sh A tf td pr fl):∃R:List Spn,bL 0 N.cY [.t A.e,.t (pX tf td)] []=some (.tup [.t (tS R),I 0],[])∧Xt A fl R:=by
 have ha:=h.air
 have bc:=sr ha
 have fc:=AR ha
 have np:=h.n1
 have nr:=h.nr
 have fll:=h.fll
 rcases abD ha h.top with⟨lo,hi,e,s1,s2⟩ | e
 · have hb:Bnd A tf td lo hi:=⟨s1,s2⟩
   obtain⟨R,ef,rl,hR⟩:=VC ha h.top hb
   refine⟨R,aI K.lX rfl ?_,rl,fun i hi'=>?_⟩
   · clear s1 s2 hb hR ha h
     obtain⟨⟨a1,a2⟩,a3,a4⟩:=A
     simp only[Air.e,cC.e,pX,pA]at*
     simp(disch:=omega)only[go_sem,K.cY,↓reduceIte,bc,fc,e,ef,reduceAdd,reduceSub]
   · have:=h.aqa hb hi'
     rw[← hR i hi']at this
     exact⟨⟨by omega,by omega,by omega⟩,this.1,this.2.1⟩
 · have key:=ig (vs:=[.t A.e,.t (pX tf td),.bp 0 0,.bp 1 0,.nil,I 0,I 0,.bp 2 0,I 2,.ref 3 0 A.m.roads.length,.und,.und,.t (.sl (A.m.roads.map Road.e)),I A.m.roads.length,I 0]) (H:=[mZ A,.box [.t (tL tf),.t (tL td)],.box [.t (tL []),.t (tL [])],.arr 2 false 0 (dSp (List.replicate A.m.roads.length ⟨0,0⟩))]) (c:=K.fh) (gc:=true) (dead:=[0,1,2,3,4,5,6,7,8,10,11])
    (fun j st=>∃R:List Spn,st=⟨[.und,.und,.und,.und,.und,.und,.und,.und,.und,.ref 3 0 A.m.roads.length,.und,.und,.t (.sl (A.m.roads.map Road.e)),I A.m.roads.length,I j],[mZ A,.box [.t (tL tf),.t (tL td)],.box [.t (tL []),.t (tL [])],.arr 2 false 0 (dSp R)]⟩∧R.length=A.m.roads.length∧(∀i,i<j→(nth R i).ok∧(nth R i).low≤nth fl i∧nth fl i≤(nth R i).high)∧∀i,j≤i→i<A.m.roads.length→nth R i=⟨0,0⟩) A.m.roads.length
    (fun q=>∃R:List Spn,q=(.exit 0,⟨[.und,.und,.und,.und,.und,.und,.und,.und,.und,.ref 3 0 A.m.roads.length,.und,.und,.t (.sl (A.m.roads.map Road.e)),I A.m.roads.length,I A.m.roads.length],[mZ A,.box [.t (tL tf),.t (tL td)],.box [.t (tL []),.t (tL [])],.arr 2 false 0 (dSp R)]⟩)∧Xt A fl R)
    ⟨List.replicate A.m.roads.length ⟨0,0⟩,by simp only[go_sem,Int.natCast_zero],by simp,fun i hi=>by omega,fun i _ hi=>by simp[nth,hi]⟩ ?_ ?_
   · obtain⟨q,hq,R,rfl,hR⟩:=key
     refine⟨R,aI K.lX rfl ?_,hR⟩
     rw[show(C.loop true [0,1,2,3,4,5,6,7,8,10,11] K.fh)=K.rP from rfl]at hq
     have rz:List.replicate A.m.roads.length (D.t (.agg [.int .i64 0,.int .i64 0]))=dSp (List.replicate A.m.roads.length ⟨0,0⟩):=by simp
     have rl:=hR.1
     clear hR ha h
     obtain⟨⟨a1,a2⟩,a3,a4⟩:=A
     simp only[Air.e,cC.e,pX,pA,mZ,tL,List.map_nil]at*
     simp(disch:=omega)only[go_sem,K.cY,↓reduceIte,bc,fc,e,rz,hq,rl,reduceAdd,reduceSub]
   · rintro j _ hj ⟨R,rfl,rl,h1,h2⟩
     have g1:(A.m.roads.map Road.e)[j]?=some (nth A.m.roads j).e:=aQ _ hj
     have jl:(j:Int)<A.m.roads.length:=by omega
     have nj:((j+1:Nat):Int)=(j:Int)+1:=by omega
     have no:=OR
     have gR:(dSp R)[j]?=some (.t (nth R j).e):=cE _ _ (by omega)
     have b:=h.flb _ (ak (l:=fl) (j:=j) (by omega))
     have hc:=h.cl j hj
     cases c:(nth A.m.roads j).closed with
     | true=>
       refine⟨⟨[.und,.und,.und,.und,.und,.und,.und,.und,.und,.ref 3 0 A.m.roads.length,.und,.und,.t (.sl (A.m.roads.map Road.e)),I A.m.roads.length,I (j+1:Nat)],[mZ A,.box [.t (tL tf),.t (tL td)],.box [.t (tL []),.t (tL [])],.arr 2 false 0 (dSp R)]⟩,?_,R,rfl,rl,fun i hi=>?_,fun i hi hi2=>h2 i (by omega) hi2⟩
       · clear h1 h2 h ha bc fc hc
         generalize nth A.m.roads j=x at*
         obtain⟨x1,x2,x3,x4,x5,x6,x7,x8,x9,x10⟩:=x
         simp only at c
         subst c
         simp only[mZ,nj,tL,List.map_nil]at*
         simp(disch:=omega)only[go_sem,K.fh,↓reduceIte,g1,jl,reduceAdd,reduceSub]
       · by_cases ee:i=j
         · subst ee
           rw[h2 i (aLs _) hj,hc c]
           exact⟨⟨by simp only;omega,by simp only;omega,by simp only;omega⟩,Int.le_refl _,Int.le_refl _⟩
         · exact h1 i (by omega)
     | false=>
       refine⟨⟨[.und,.und,.und,.und,.und,.und,.und,.und,.und,.ref 3 0 A.m.roads.length,.und,.und,.t (.sl (A.m.roads.map Road.e)),I A.m.roads.length,I (j+1:Nat)],[mZ A,.box [.t (tL tf),.t (tL td)],.box [.t (tL []),.t (tL [])],.arr 2 false 0 (dSp (R.set j ⟨-1125899906842624,1125899906842624⟩))]⟩,?_,_,rfl,by simp[rl],fun i hi=>?_,fun i hi hi2=>?_⟩
       · clear h1 h2 h ha bc fc hc
         generalize nth A.m.roads j=x at*
         generalize nth R j=u at*
         obtain⟨x1,x2,x3,x4,x5,x6,x7,x8,x9,x10⟩:=x
         obtain⟨u1,u2⟩:=u
         simp only at c
         subst c
         simp only[mZ,nj,tL,List.map_nil]at*
         simp(disch:=omega)only[go_sem,K.fh,↓reduceIte,g1,jl,no,gR,rl,reduceAdd,reduceSub]
       · by_cases ee:i=j
         · subst ee
           rw[bM _ _ (by omega),if_pos rfl]
           exact⟨⟨by simp only;omega,by simp only;omega,by simp only;omega⟩,by simp only;omega,by simp only;omega⟩
         · rw[bM _ _ (by omega),if_neg ee];exact h1 i (by omega)
       · rw[bM _ _ (by omega),if_neg (by omega)];exact h2 i (by omega) hi2
   · rintro _ ⟨R,rfl,rl,h1,h2⟩
     refine⟨_,?_,by simp,R,rfl,rl,h1⟩
     simp only[mZ,tL,List.map_nil]
     simp(disch:=omega)only[go_sem,K.fh,↓reduceIte,reduceAdd,reduceSub]
end Go.Ev
namespace Go.Ev
open Go
variable [Lib] [cr] [bZ] [eM] [dT] [gK] [dJ] [dV] [sx] [fN] [fy] [jK]
def exF(fl:List Int)(j:Nat):List Spn:=(List.range j).map fun k=>⟨nth fl k,nth fl k⟩
theorem AX(fl:List Int)(j:Nat):(exF fl j).length=j:=by simp[exF]
theorem SA{fl:List Int}{j k:Nat}(h:k<j):nth (exF fl j) k=⟨nth fl k,nth fl k⟩:=qo (by simp[exF,h])
theorem SB(aw:bL 0 N.iE [] []=some (B true,[]))(codes:List Int)(hb:∀x∈codes,0≤x∧x<256)(place:Int)(p0:0≤place)(p1:place≤255):bL 0 N.dA [.t (tU codes),.t (.int .u8 place)] []=some (B true,[]):=by
 refine aI K.o9 rfl ?_
 by_cases c:codes.length≤400
 · obtain⟨cd,ok,en⟩:=OQ codes (by omega) hb
   obtain⟨sh,d,A,tf,td,pr,fl,dok,ma,em⟩:=aii ok
   obtain⟨R,ea,rl,hR⟩:=Sz ma
   have ck:=Us ma.ok
   have np:=ma.n1
   have nr:=ma.nr
   have fll:=ma.fll
   have n0:=ma.n0
   have sp:=ma.pl.le
   have c':¬(codes.length:Int)>400:=by omega
   have pz:¬(A.m.aa.length:Int)=0:=by omega
   have k0:0≤place.tmod A.m.aa.length:=Int.tmod_nonneg _ p0
   have k1:place.tmod A.m.aa.length<A.m.aa.length:=Int.tmod_lt_of_pos _ (by omega)
   obtain⟨k,hk⟩:∃k,place.tmod A.m.aa.length=k:=⟨_,rfl⟩
   have ht:inT 10:=⟨by omega,by omega⟩
   have hf1:pE A.m R=true:=Jr rl fun x hx=>by
    obtain⟨i,hi,rfl⟩:=List.getElem_of_mem hx
    have e:R[i]=nth R i:=(qo (aLc hi)).symm
    rw[e];exact(hR i (by omega)).1
   have hf2:pE A.m (exF fl fl.length)=true:=Jr (by rw[AX];omega) fun x hx=>by
    obtain⟨i,hi,rfl⟩:=List.getElem_of_mem hx
    have hi:i<fl.length:=by rw[AX]at hi;exact hi
    have e:(exF fl fl.length)[i]'(by rw[AX];exact hi)=nth (exF fl fl.length) i:=(qo (aLc _)).symm
    rw[e,SA hi]
    have:=ma.flb _ (ak (l:=fl) (j:=i) hi)
    exact⟨by simp only;omega,by simp only;omega,Int.le_refl _⟩
   have hs:Pa [k] A.m.aa.length=true:=ahD (by omega) (by omega)
   have s1:=zo ma.ok (by omega) R (by omega) [k] (by simp) 10
   have s2:=zo ma.ok (by omega) (exF fl fl.length) (by rw[AX];omega) [k] (by simp) 10
   rw[Jq hf1 hs ht]at s1
   rw[Jq hf2 hs ht]at s2
   have wd:=Lc ma.ok (f:=exF fl fl.length) (g:=R) (fun i hi=>by
    rw[SA (by omega)]
    exact(hR i hi).2) (qP [k] 10 A.m.aa.length) (MO [k] ht _)
   have ly:=tV ma.ok (fl:=R) (qP [k] 10 _) (zi [k] ht _)
   have lz:=tV ma.ok (fl:=exF fl fl.length) (qP [k] 10 _) (zi [k] ht _)
   have lp1:∀z0 z2 z4 z7 z10 z11 z12 z13 z14 z15:D,exS bL K.rJ ⟨[z0,.t (.int .u8 place),z2,.bp 1 0,z4,.bp 3 0,.t (tS R),z7,.ref 4 0 0,I 0,z10,z11,z12,z13,z14,z15],[d.obj,mZ A,.box [.t (tL tf),.t (tL td)],.box [.t (tL pr),.t (tL fl)],.arr 2 false 0 []]⟩=
    some (.exit 0,⟨[.und,.t (.int .u8 place),.und,.bp 1 0,.und,.bp 3 0,.t (tS R),.und,.ref 4 0 fl.length,I fl.length,.und,.und,.und,.und,.und,.und],[d.obj,mZ A,.box [.t (tL tf),.t (tL td)],.box [.t (tL pr),.t (tL fl)],.arr 2 false 0 (dSp (exF fl fl.length))]⟩):=by
    intro z0 z2 z4 z7 z10 z11 z12 z13 z14 z15
    refine cT (fun j=>⟨[.und,.t (.int .u8 place),.und,.bp 1 0,.und,.bp 3 0,.t (tS R),.und,.ref 4 0 j,I j,.und,.und,.und,.und,.und,.und],[d.obj,mZ A,.box [.t (tL tf),.t (tL td)],.box [.t (tL pr),.t (tL fl)],.arr 2 false 0 (dSp (exF fl j))]⟩) fl.length (by simp only[go_sem,Int.natCast_zero];rfl) ?_ ?_ (by simp)
    · intro j hj
      have g1:(fl.map (T.int .i64))[j]?=some (tI (nth fl j)):=aQ _ hj
      have jl:(j:Int)<fl.length:=by omega
      have nj:((j+1:Nat):Int)=(j:Int)+1:=by omega
      have ex:exF fl (j+1)=exF fl j++[⟨nth fl j,nth fl j⟩]:=by simp[exF,List.range_succ]
      have el:=AX fl j
      rw[ex]
      generalize exF fl j=E at*
      generalize nth fl j=x at*
      subst el
      have dsa:dSp (E++[⟨x,x⟩])=dSp E++[.t (Spn.e ⟨x,x⟩)]:=by simp
      simp only[mZ,nj]
      simp(disch:=omega)only[go_sem,K.nd,↓reduceIte,g1,jl,dsa,reduceAdd,reduceSub]
    · generalize exF fl fl.length=E at*
      simp only[mZ]
      simp(disch:=omega)only[go_sem,K.nd,↓reduceIte,reduceAdd,reduceSub]
   have el:=AX fl fl.length
   generalize exF fl fl.length=E at*
   generalize qO A.m R (yk [k] 10 A.m.aa.length)=Y at*
   generalize qO A.m E (yk [k] 10 A.m.aa.length)=Z at*
   have lp2:∀(H0:Obj) (z0 z1 z2 z3 z4 z5 z6 z7 z8 z9 z10 z12 z14:D),cf 7 [H0]=true→exS bL K.rK ⟨[z0,z1,z2,z3,z4,z5,z6,z7,z8,z9,z10,.bp 5 0,z12,.bp 6 0,z14,I 0],[d.obj,mZ A,.box [.t (tL tf),.t (tL td)],.box [.t (tL pr),.t (tL fl)],H0,.box [I 10,.t (tL Y)],.box [I 10,.t (tL Z)]]⟩=
    some (.exit 2,⟨[.und,.und,.und,.und,.und,.und,.und,.und,.und,.und,.und,.bp 5 0,.und,.bp 6 0,.und,I A.m.aa.length],[d.obj,mZ A,.box [.t (tL tf),.t (tL td)],.box [.t (tL pr),.t (tL fl)],H0,.box [I 10,.t (tL Y)],.box [I 10,.t (tL Z)]]⟩):=by
    intro H0 z0 z1 z2 z3 z4 z5 z6 z7 z8 z9 z10 z12 z14 ho
    refine cT (fun j=>⟨[.und,.und,.und,.und,.und,.und,.und,.und,.und,.und,.und,.bp 5 0,.und,.bp 6 0,.und,I j],[d.obj,mZ A,.box [.t (tL tf),.t (tL td)],.box [.t (tL pr),.t (tL fl)],H0,.box [I 10,.t (tL Y)],.box [I 10,.t (tL Z)]]⟩) A.m.aa.length (by simp only[go_sem,Int.natCast_zero]) ?_ ?_ (by simp)
    · intro j hj
      have g1:(Y.map (T.int .i64))[j]?=some (tI (nth Y j)):=aQ _ (by omega)
      have g2:(Z.map (T.int .i64))[j]?=some (tI (nth Z j)):=aQ _ (by omega)
      have jl:(j:Int)<A.m.aa.length:=by omega
      have n1:¬nth Y j>nth Z j:=by have:=wd j;omega
      have ho2:∀S:af,cf 7 (H0::S)=cf 7 S:=fun S=>by
       rw[show H0::S=[H0]++S from rfl,KX,ho];rfl
      clear wd
      generalize nth Y j=x at*
      generalize nth Z j=y at*
      simp only[mZ]
      simp(disch:=omega)only[go_sem,K.nf,↓reduceIte,g1,g2,jl,n1,ly,ho2,reduceAdd,reduceSub]
    · simp only[mZ]
      simp(disch:=omega)only[go_sem,K.nf,↓reduceIte,ly,reduceAdd,reduceSub]
   have lp3:=fun z0 z1 z2 z3 z4 z5 z6 z7 z8 z9 z10 z12 z14=>lp2 (.arr 2 true 0 (dSp E)) z0 z1 z2 z3 z4 z5 z6 z7 z8 z9 z10 z12 z14 (by simp only[go_sem])
   clear lp2
   clear wd hf1 hf2 hs hR ma dok ok hb
   obtain⟨⟨a1,a2⟩,a3,a4⟩:=A
   simp only[Air.e,cC.e,pX,xE,mZ,Wh.e,tL,List.map_cons,List.map_nil]at*
   simp(disch:=omega)only[go_sem,K.dA,↓reduceIte,c',en,em,ck,pz,fll,ea,lp1,hk,s1,s2,el,ly,lz,lp3,aw,reduceAdd,reduceSub]
 · have c':(codes.length:Int)>400:=by omega
   simp(disch:=omega)only[go_sem,K.dA,↓reduceIte,c',aw,reduceAdd,reduceSub]
end Go.Ev
namespace Go.Ev.K
open Go.Ev
def nO:Fn:= { aq:=0,vars:=[0],body:=(q [w 0 (.al [.nil,.nil] [])] [] (q [u (.bs [.i (-1)] 1),u (.ca N.br 1 [] [.l 0,.i 32]),u (.mkt (.i 32) (.int .i64 (0)) 1),u (.bd [.nil,.nil] [(0,1,.l 1),(1,1,.l 0)]),u (.st v0 l0 2 [])] [(0,0),(2,0)] .ret)),res:=[(0,some (2,true))]}
end Go.Ev.K
namespace Go.Ev
class abG [Lib]:Prop where
 B5:Lib.fs N.nO=some K.nO
namespace K
variable [Lib] [abG]
theorem B5:Lib.fs N.nO=some K.nO:=abG.B5
end K
end Go.Ev
namespace Go.Ev.K
open Go.Ev
def nQ:Fn:= { aq:=2,vars:=[0,1,2,3,4,5],body:=(q [w 2 (.bx v0 2),w 3 (.bx v1 4),x 4 (.b false)] [] (q [f 0 v2,g l0,u (.ln l0),u (.bin .sub l0 (.i 1)),x 5 l0] [] (q [h 2 v2,u (.ca N.cN 0 [] [.l 0]),m l0,y 0 true (.fa v3 0),i 1 true l0,e 2 true v5,y 3 true (.ca N.bX 0 [] [.l 1,.i 0,.l 0]),u (.pk l4 l0 (.b false)),m l0,y 0 true (.fa v3 1),i 1 true l0,e 2 true v5,y 3 true (.ca N.bX 0 [] [.l 1,.i 0,.l 0]),u (.pk l4 l0 (.b false)),m l0,y 0 true (.fa v3 2),i 1 true l0,y 2 true (.fa v2 1),i 3 true l0,y 4 true (.ln l0),y 5 true (.bin .sub l0 (.i 1)),y 6 true (.ca N.bX 0 [] [.l 4,.i 0,.l 0]),u (.pk l7 l0 (.b false)),m l0,y 0 true (.fa v3 3),i 1 true l0,y 2 true (.ca N.bD 0 [] [.l 0,.i 0,.i 2147483648]),u (.pk l3 l0 (.b false)),x 4 l0] [] .ret))),res:=[(4,none)]}
end Go.Ev.K
namespace Go.Ev
class abH [Lib]:Prop where
 B6:Lib.fs N.nQ=some K.nQ
namespace K
variable [Lib] [abH]
theorem B6:Lib.fs N.nQ=some K.nQ:=abH.B6
end K
end Go.Ev
namespace Go.Ev.K
open Go.Ev
def lE:Fn:= { aq:=3,vars:=[0,1,2,3,4,6,9,10],body:= .fail,res:=[(5,none)]}
end Go.Ev.K
namespace Go.Ev
class abI [Lib]:Prop where
 Aa:Lib.fs N.lE=some K.lE
namespace K
variable [Lib] [abI]
theorem Aa:Lib.fs N.lE=some K.lE:=abI.Aa
end K
end Go.Ev
namespace Go.Ev.K
open Go.Ev
def nR:Fn:= { aq:=8,vars:=[0,1,2,3,4,5,6,7,8,13,14,16,17,18,19,21,22,23,24],body:=(q [w 8 (.bx v0 2),w 9 (.bx v5 4),w 10 (.bx v6 3),w 11 (.al [.nil,.nil,z0,.nil,.nil,.nil,.nil,.nil,.nil,.nil,.nil,.nil,.nil,.nil,.nil,z0,.nil,z0,z0,.nil,.nil,.nil,.nil,.nil,z0,.nil,.nil,.nil,z1,z0,z0,z0,z0,.nil,.nil,.nil] []),x 12 (.i 0)] [] (q [h 2 v8,m v1,m v2,m v3,u (.ca N.lC 0 [] [.l 3,.l 2,.l 1,.l 0,.i 0]),m l0,u (.ex l0 0),u (.ex l1 1),w 13 (.al [.nil,.nil,z0,.nil,.nil,.nil,.nil,.nil,.nil] []),u (.st l0 l2 9 []),x 14 l2] [] (.seq (.ite [m v14,u (.bin .neq l0 (.i 0))] [] 0 (q [u (.bd [.nil,.nil,z0,.nil,.nil,.nil,.nil,.nil,.nil,.nil,.nil,.nil,.nil,.nil,.nil,z0,.nil,z0,z0,.nil,.nil,.nil,.nil,.nil,z0,.nil,.nil,.nil,z1,z0,z0,z0,z0,.nil,.nil,.nil] []),m v14,u (.st v11 l1 36 []),x 12 l1] [] .ret) .skip) (.seq (q [h 2 v8,m v4,u (.ca N.dI 0 [] [.l 1,.l 0,.c (.nil),.i 0]),m l0,u (.ex l0 0),u (.ex l1 1),u (.al [z0,.nil] []),u (.st l0 l2 2 []),x 15 l2] [] (.ite [m v15,u (.bin .neq l0 (.i 0)),m l0,y 0 false (.ld v8 2 true),y 1 false (.ld v9 4 true),y 2 false (.ca N.nQ 0 [] [.l 1,.l 0]),y 3 false (.un .not l0),u (.pk l4 (.b true) l0),m l0,y 0 false (.ld v10 3 true),y 1 false (.bd [z0,z0,z0,z0] []),y 2 false (.ca N.fC 0 [] [.l 1,.l 0]),y 3 false (.un .not l0),u (.pk l4 (.b true) l0),m l0,y 0 false (.fa v10 0),i 1 false l0,y 2 false (.fa v10 0),i 3 false l0,y 4 false (.ln l0),y 5 false (.bin .sub l0 (.i 1)),y 6 false (.ia l4 l0 1),i 7 false l0,y 8 false (.fa v8 0),i 9 false l0,y 10 false (.ln l0),y 11 false (.bin .geq l3 l0),u (.pk (.l 12) (.b true) l0)] [] 0 (q [u (.bd [.nil,.nil,z0,.nil,.nil,.nil,.nil,.nil,.nil,.nil,.nil,.nil,.nil,.nil,.nil,z0,.nil,z0,z0,.nil,.nil,.nil,.nil,.nil,z0,.nil,.nil,.nil,z1,z0,z0,z0,z0,.nil,.nil,.nil] []),u (.st v11 l0 36 []),x 12 (.i 6)] [] .ret) .skip)) (.seq (.ite [m v7,u (.mf N.j4 [.v 8]),u (.ca N.aA 0 [] [.l 1,.l 0])] [] 0 (q [u (.bd [.nil,.nil,z0,.nil,.nil,.nil,.nil,.nil,.nil,.nil,.nil,.nil,.nil,.nil,.nil,z0,.nil,z0,z0,.nil,.nil,.nil,.nil,.nil,z0,.nil,.nil,.nil,z1,z0,z0,z0,z0,.nil,.nil,.nil] []),u (.st v11 l0 36 []),x 12 (.i 4)] [] .ret) .skip) (q [m v7,u (.ca N.nJ 0 [] [.l 0]),m l0,u (.ex l0 0),u (.ex l1 1),w 16 (.al [.nil,.nil,z1] []),u (.st l0 l2 3 []),x 14 l2] [] (.seq (.ite [m v14,u (.bin .neq l0 (.i 0))] [] 0 (q [u (.bd [.nil,.nil,z0,.nil,.nil,.nil,.nil,.nil,.nil,.nil,.nil,.nil,.nil,.nil,.nil,z0,.nil,z0,z0,.nil,.nil,.nil,.nil,.nil,z0,.nil,.nil,.nil,z1,z0,z0,z0,z0,.nil,.nil,.nil] []),m v14,u (.st v11 l1 36 []),x 12 l1] [] .ret) .skip) (q [h 2 v8,m v3,m v2,u (.ca N.lk 0 [] [.l 2,.l 1,.l 0,.i 0]),m l0,u (.ex l0 0),u (.ex l1 1),w 17 (.al [.nil] []),u (.st l0 l2 1 []),x 14 l2] [] (.seq (.ite [m v14,u (.bin .neq l0 (.i 0))] [] 0 (q [u (.bd [.nil,.nil,z0,.nil,.nil,.nil,.nil,.nil,.nil,.nil,.nil,.nil,.nil,.nil,.nil,z0,.nil,z0,z0,.nil,.nil,.nil,.nil,.nil,z0,.nil,.nil,.nil,z1,z0,z0,z0,z0,.nil,.nil,.nil] []),m v14,u (.st v11 l1 36 []),x 12 l1] [] .ret) .skip) (q [w 18 (.al [.nil,.nil,z0,.nil,.nil,.nil,.nil,.nil,.nil,.nil,.nil,.nil,.nil,.nil,.nil,z0,.nil,z0,z0,.nil,.nil,.nil,.nil,.nil,z0,.nil,.nil,.nil,z1,z0,z0,z0,z0,.nil,.nil,.nil] []),h 9 v13,h 2 v8,m v4,h 4 v9,h 3 v10,m v1,u (.ln l0),u (.mkt l0 (.agg [(.int .i64 (0)),(.int .i64 (0)),(.int .i64 (0)),(.sl [])]) 4),u (.ca N.nO 0 [] []),h 1 v17,h 3 v16,u (.bd [.nil,.nil,z0,.nil,.nil,.nil,.nil,.nil,.nil,.nil,.nil,.nil,.nil,.nil,.nil,z0,.nil,z0,z0,.nil,.nil,.nil,.nil,.nil,z0,.nil,.nil,.nil,z1,z0,z0,z0,z0,.nil,.nil,.nil] [(0,9,.l 10),(9,2,.l 9),(11,1,.l 8),(12,4,.l 7),(16,3,.l 6),(19,1,.l 3),(21,2,.l 2),(23,1,.l 1),(26,3,.l 0)]),u (.st (.l 12) l0 36 [])] [(0,10),(1,10),(2,10),(4,10),(5,10),(8,10),(10,1),(11,1)] (q [h 36 v18,u (.ca N.gY 0 [] [.l 0]),u (.st v11 l0 36 []),x 12 (.i 0)] [] .ret))))))))))),res:=[(11,some (36,true)),(12,none)]}
def j4:Fn:= { aq:=2,vars:=[0,1,3],body:=(q [x 2 (.b false)] [] (q [m v0,f 1 v1,g l0,u (.ln l0),u (.bin .sub l0 (.i 1)),u (.ca N.bD 0 [] [.l 4,.i 0,.l 0]),u (.un .not l0),x 2 l0] [] .ret)),res:=[(2,none)]}
def En:C:= (.its [u (.bin .lss v7 v6)] [] 0 .skip (.exit 0) (.seq (.blk 1 (q [a 7 v5 v7,h 7 l0,w 4 (.al [z0,z0,z0,z0,z0,z0,.nil] []),u (.st l0 l1 7 [])] [] (q [f 6 v4,g l0,u (.ca N.ai 0 [] [.l 0]),f 6 v4,u (.st l0 l1 1 [])] [] (.reg [f 35 v3,g l0,h 7 v4,u (.bs [.l 0] 7),u (.app l2 l0 true 7),f 35 v3,u (.st l0 l1 1 [])] [])))) (.reg [u (.bin .add v7 (.i 1)),x 7 l0] [])))
def Fl:C:= .loop true [0,1,4] K.En
def gY:Fn:= { aq:=1,vars:=[0,1,2,3,5,102,103,104],body:=(q [w 1 (.bx v0 36),w 2 (.al [.nil,.nil,z0,.nil,.nil,.nil,.nil,.nil,.nil,.nil,.nil,.nil,.nil,.nil,.nil,z0,.nil,z0,z0,.nil,.nil,.nil,.nil,.nil,z0,.nil,.nil,.nil,z1,z0,z0,z0,z0,.nil,.nil,.nil] [])] [] (q [h 36 v1,w 3 (.al [.nil,.nil,z0,.nil,.nil,.nil,.nil,.nil,.nil,.nil,.nil,.nil,.nil,.nil,.nil,z0,.nil,z0,z0,.nil,.nil,.nil,.nil,.nil,z0,.nil,.nil,.nil,z1,z0,z0,z0,z0,.nil,.nil,.nil] [(35,7)]),u (.st l0 l1 36 [])] [] (q [f 0 v1,h 9 l0,u (.ca N.nM 0 [] [.l 0,.i 0]),m l0,u (.ex l0 0),u (.ex l1 1),f 0 v3,u (.st l0 l2 9 [])] [] (q [f 9 v1,f 0 l0,g l0,u (.ca N.aL 0 [] [.l 0]),f 9 v1,f 1 l0,g l0,u (.ca N.aP 0 [] [.l 0]),u (.bd [.nil,.nil] [(0,1,.l 4),(1,1,.l 0)]),f 9 v3,u (.st l0 l1 2 [])] [(6,0)] (q [f 11 v1,g l0,u (.ca N.bw 0 [] [.l 0]),f 11 v3,u (.st l0 l1 1 [])] [] (q [f 12 v1,f 0 l0,g l0,u (.ca N.ai 0 [] [.l 0]),f 12 v1,f 1 l0,g l0,u (.ca N.ai 0 [] [.l 0]),f 12 v1,f 2 l0,g l0,u (.ca N.ai 0 [] [.l 0]),f 12 v3,f 0 l0,u (.st l0 l10 1 []),f 12 v3,f 1 l0,u (.st l0 l9 1 []),f 12 v3,f 2 l0,u (.st l0 l8 1 [])] [(6,0),(10,0),(10,4)] (q [f 16 v1,f 0 l0,g l0,u (.ca N.ai 0 [] [.l 0]),f 16 v3,f 0 l0,u (.st l0 l2 1 [])] [] (q [f 19 v1,g l0,u (.ca N.iW 1 [] [.l 0]),f 20 v1,g l0,u (.ca N.iW 1 [] [.l 0]),f 19 v3,u (.st l0 l4 1 []),f 20 v3,u (.st l0 l3 1 [])] [(4,0)] (q [f 21 v1,f 0 l0,g l0,u (.ca N.ai 0 [] [.l 0]),f 21 v1,f 1 l0,g l0,u (.ca N.ai 0 [] [.l 0]),u (.bd [.nil,.nil] [(0,1,.l 4),(1,1,.l 0)]),f 21 v3,u (.st l0 l1 2 [])] [(6,0)] (q [f 23 v1,h 1 l0,u (.ca N.gw 0 [] [.l 0]),f 33 v1,h 1 l0,u (.ca N.gw 0 [] [.l 0]),f 23 v3,u (.st l0 l4 1 []),f 33 v3,u (.st l0 l3 1 [])] [(4,0)] (q [f 24 v1,f 1 l0,g l0,u (.ca N.ai 0 [] [.l 0]),f 24 v3,f 1 l0,u (.st l0 l2 1 [])] [] (q [f 26 v1,f 0 l0,g l0,u (.ca N.ai 0 [] [.l 0]),f 26 v1,f 1 l0,g l0,u (.ca N.ai 0 [] [.l 0]),f 26 v3,f 0 l0,u (.st l0 l6 1 []),f 26 v3,f 1 l0,u (.st l0 l5 1 [])] [(6,0)] (q [f 34 v1,g l0,u (.ca N.bj 0 [] [.l 0]),f 34 v3,u (.st l0 l1 1 [])] [] (q [f 35 v3,u (.st l0 (.c (.nil)) 1 [(35,7)])] [] (.seq (q [f 35 v1,w 5 (.ld l0 1 false),w 6 (.ln l0),x 7 (.i 0)] [] (.blk 0 K.Fl)) (q [h 36 v3,u (.st v2 l0 36 [])] [] .ret)))))))))))))))),res:=[(2,some (36,true))]}
end Go.Ev.K
namespace Go.Ev
class SC [Lib]:Prop where
 B7:Lib.fs N.nR=some K.nR
 xV:Lib.fs N.j4=some K.j4
 Ab:Lib.fs N.gY=some K.gY
namespace K
variable [Lib] [SC]
theorem B7:Lib.fs N.nR=some K.nR:=SC.B7
theorem xV:Lib.fs N.j4=some K.j4:=SC.xV
theorem Ab:Lib.fs N.gY=some K.gY:=SC.Ab
end K
end Go.Ev
namespace Go.Ev.K
open Go.Ev
def bw:Fn:= { aq:=1,vars:=[0,2],body:=(q [w 1 (.mv (.c (.nil)))] [] (.itk [m v0,u (.eqk (.sl) false l0 (.c (.nil)))] [] 0 (q [w 1 (.nw 2)] [] .ret) .skip (q [u (.bsr [] 2),m v0,u (.app l1 l0 false 2),x 1 l0] [] .ret))),res:=[(1,none)]}
def Co:C:= (.its [u (.bin .lss v6 v5)] [] 0 .skip (.exit 0) (.seq (.blk 1 (q [a 4 v4 v6,h 4 l0,w 3 (.al [z0,z0,z0,.nil] []),u (.st l0 l1 4 [])] [] (q [f 3 v3,g l0,u (.ca N.ai 0 [] [.l 0]),f 3 v3,u (.st l0 l1 1 [])] [] (.reg [m v2,h 4 v3,u (.bs [.l 0] 4),u (.app l2 l0 true 4),x 2 l0] [])))) (.reg [u (.bin .add v6 (.i 1)),x 6 l0] [])))
def Eo:C:= .loop true [0,1,3] K.Co
def iW:Fn:= { aq:=1,vars:=[0,2,3,5,6,7,8],body:=(q [w 1 (.mv (.c (.nil)))] [] (q [w 2 (.nw 4)] [] (.seq (q [x 4 v0,w 5 (.ln l0),x 6 (.i 0)] [] (.blk 0 K.Eo)) (q [m v2,x 1 l0] [] .ret)))),res:=[(1,none)]}
def AY:C:= (.its [u (.bin .lss v7 v6)] [] 0 .skip (.exit 0) (.seq (.blk 1 (q [a 2 v5 v7,h 2 l0,w 4 (.al [.nil,.nil] []),u (.st l0 l1 2 [])] [] (.reg [f 0 v3,g l0,h 2 v4,u (.ca N.lu 0 [] [.l 0]),u (.bs [.l 0] 2),u (.app l3 l0 true 2),f 0 v3,u (.st l0 l1 1 [])] [(1,4),(1,5)]))) (.reg [u (.bin .add v7 (.i 1)),x 7 l0] [])))
def Cp:C:= .loop true [0,1,4] K.AY
def gw:Fn:= { aq:=1,vars:=[0,1,2,3,5,7,8,9],body:=(q [w 1 (.bx v0 1),w 2 (.al [.nil] [])] [] (q [w 3 (.al [.nil] [(0,2)])] [] (.seq (q [f 0 v1,w 5 (.ld l0 1 false),w 6 (.ln l0),x 7 (.i 0)] [] (.blk 0 K.Cp)) (q [h 1 v3,u (.st v2 l0 1 [])] [] .ret)))),res:=[(2,some (1,true))]}
def bj:Fn:= { aq:=1,vars:=[0,2],body:=(q [w 1 (.mv (.c (.nil)))] [] (.itk [m v0,u (.eqk (.sl) false l0 (.c (.nil)))] [] 0 (q [w 1 (.nw 9)] [] .ret) .skip (q [u (.bsr [] 9),m v0,u (.app l1 l0 false 9),x 1 l0] [] .ret))),res:=[(1,none)]}
def nS:Fn:= { aq:=1,vars:=[0,1,2],body:=(q [w 1 (.bx v0 36),x 2 (.b false)] [] (q [f 0 v1,h 9 l0,u (.ca N.ka 0 [] [.l 0]),m l0,y 0 true (.fa v1 9),y 1 true (.ld l0 2 true),y 2 true (.ca N.cN 0 [] [.l 0]),u (.pk l3 l0 (.b false)),m l0,y 0 true (.fa v1 19),i 1 true l0,y 2 true (.ln l0),y 3 true (.fa v1 0),y 4 true (.fa l0 5),i 5 true l0,y 6 true (.ln l0),y 7 true (.bin .eql l4 l0),u (.pk l8 l0 (.b false)),m l0,y 0 true (.fa v1 11),i 1 true l0,y 2 true (.ln l0),y 3 true (.fa v1 9),y 4 true (.fa l0 1),i 5 true l0,y 6 true (.ln l0),y 7 true (.bin .eql l4 l0),u (.pk l8 l0 (.b false)),m l0,y 0 true (.fa v1 23),y 1 true (.fa l0 0),i 2 true l0,y 3 true (.ln l0),y 4 true (.bin .gtr l0 (.i 0)),u (.pk l5 l0 (.b false)),m l0,y 0 true (.fa v1 26),y 1 true (.ld l0 3 true),y 2 true (.ca N.gJ 0 [] [.l 0]),u (.pk l3 l0 (.b false)),x 2 l0] [] .ret)),res:=[(2,none)]}
def dX:Fn:= { aq:=2,vars:=[0,1,3,4],body:= .fail,res:=[(3,none)]}
def dY:Fn:= { aq:=2,vars:=[0,1,3,4],body:=(q [w 2 (.bx v1 4),x 3 (.i 0)] [] (.seq (.ite [m v0,u (.nc l0),f 0 l0,f 26 l0,h 3 l0,u (.ca N.kY 0 [] [.l 0]),f 2 v2,g l0,u (.ca N.bn 0 [] [.l 2,.l 0])] [(7,0)] 0 (q [x 3 (.i 47)] [] .ret) .skip) (q [m v0,m v0,u (.nc l0),f 0 l0,f 0 l0,h 9 l0,f 1 v2,g l0,f 2 v2,g l0,f 3 v2,g l0,u (.ca N.lD 0 [] [.l 6,.l 4,.l 2,.l 0]),m l0,u (.ex l0 0),u (.ex l1 1),u (.nc (.l 15)),f 0 l0,f 0 l0,u (.st l0 l4 9 []),x 3 l4] [] (q [m v3,x 3 l0] [] .ret)))),res:=[(3,none)]}
def dZ:Fn:= { aq:=2,vars:=[0,1,3,4,5,6,7],body:= .fail,res:=[(3,none)]}
def eb:Fn:= { aq:=2,vars:=[0,1,2,3,4,5,6,7,8,9,11,13,133,134,135,152,153,154],body:= .fail,res:=[(4,none)]}
def ec:Fn:= { aq:=2,vars:=[4],body:= .fail,res:=[(0,none)]}
def eh:Fn:= { aq:=2,vars:=[4],body:= .fail,res:=[(0,none)]}
def eo:Fn:= { aq:=2,vars:=[4],body:= .fail,res:=[(0,none)]}
def et:Fn:= { aq:=2,vars:=[4],body:= .fail,res:=[(0,none)]}
def eu:Fn:= { aq:=2,vars:=[4],body:= .fail,res:=[(0,none)]}
def cX:Fn:= { aq:=1,vars:=[0,2],body:=(q [x 1 (.i 0)] [] (q [m v0,u (.nc l0),f 0 l0,f 0 l0,f 2 l0,g l0,x 1 l0] [] .ret)),res:=[(1,none)]}
end Go.Ev.K
namespace Go.Ev
class wF [Lib]:Prop where
 jw:Lib.fs N.bw=some K.bw
 xW:Lib.fs N.iW=some K.iW
 wG:Lib.fs N.gw=some K.gw
 iw:Lib.fs N.bj=some K.bj
 B8:Lib.fs N.nS=some K.nS
 uR:Lib.fs N.dX=some K.dX
 uS:Lib.fs N.dY=some K.dY
 uT:Lib.fs N.dZ=some K.dZ
 uU:Lib.fs N.eb=some K.eb
 uV:Lib.fs N.ec=some K.ec
 uW:Lib.fs N.eh=some K.eh
 uX:Lib.fs N.eo=some K.eo
 uY:Lib.fs N.et=some K.et
 uZ:Lib.fs N.eu=some K.eu
 te:Lib.fs N.cX=some K.cX
namespace K
variable [Lib] [wF]
theorem jw:Lib.fs N.bw=some K.bw:=wF.jw
theorem xW:Lib.fs N.iW=some K.iW:=wF.xW
theorem wG:Lib.fs N.gw=some K.gw:=wF.wG
theorem iw:Lib.fs N.bj=some K.bj:=wF.iw
theorem B8:Lib.fs N.nS=some K.nS:=wF.B8
theorem uR:Lib.fs N.dX=some K.dX:=wF.uR
theorem uS:Lib.fs N.dY=some K.dY:=wF.uS
theorem uT:Lib.fs N.dZ=some K.dZ:=wF.uT
theorem uU:Lib.fs N.eb=some K.eb:=wF.uU
theorem uV:Lib.fs N.ec=some K.ec:=wF.uV
theorem uW:Lib.fs N.eh=some K.eh:=wF.uW
theorem uX:Lib.fs N.eo=some K.eo:=wF.uX
theorem uY:Lib.fs N.et=some K.et:=wF.uY
theorem uZ:Lib.fs N.eu=some K.eu:=wF.uZ
theorem te:Lib.fs N.cX=some K.cX:=wF.te
end K
end Go.Ev
