/- Parts of the proof: see the text that holds the theorem. -/
import Derived.Test.YtmmplabgfomahaaGreatZ4
set_option linter.all false
open Nat (reduceAdd reduceSub)
set_option maxRecDepth 100000
namespace Go.Ev
open Go
variable [Lib] [aZ] [bc] [cG] [cJ] [eC] [cL] [cM] [dG] [dE] [bI] [bM] [cA] [cB] [gw] [gz] [gg] [eu] [gH] [gY] [dR] [jf]
theorem Nl{m:aK}(hm:m.ok){e:Esc}(he:e.ok m){q k:Nat}(hk:k<m.roads.length)(hs:(k:Int)∉e.shut){s:List Int×Bool}(h:uG m e q s.1)(z0 z1 z2 z5 z6 z12 z13 z14 z15:D):
 exS aG K.oC ⟨[z0,z1,z2,.bp 0 0,.bp 1 0,z5,z6,.fn N.aM [.bp 2 0,.bp 0 0,.bp 1 0],.ref 3 0 m.aa.length,B s.2,I k,.bp 4 0,z12,z13,z14,z15,.t (.sl (m.roads.map Road.e)),I m.roads.length,I k,.t (.agg [.bool false,.bool true]),I 0],
  [.box (ab m),.box (aC e),.box [I q],.arr 1 false 0 (ints s.1),.box (r9 (nth m.roads k))]⟩=some (.exit 4,tmS m e q k (hR m e q k true (hR m e q k false s)) 2):=by
 have e1:=Kd hm he hk h false
 have e2:=Kd hm he hk (E8 hm hk hs false h) true
 refine bV (fun j=>tmS m e q k (match j with | 0=>s | 1=>hR m e q k false s | _=>hR m e q k true (hR m e q k false s)) j) 2 rfl ?_ ?_ (by simp)
 · intro j hj
   match j,hj with
   | 0,_=>exact e1
   | 1,_=>exact e2
 · generalize hR m e q k true (hR m e q k false s)=r
   obtain⟨l2,b2⟩:=r
   simp only[tmS]
   simp(disch:=omega)only[go_sem,K.bf,↓reduceIte,FT,reduceAdd,reduceSub]
abbrev tm2(m:aK)(e:Esc)(q:Int)(k:Nat)(s:List Int×Bool):St:=⟨[.und,.und,.und,.bp 0 0,.bp 1 0,.und,.und,.fn N.aM [.bp 2 0,.bp 0 0,.bp 1 0],.ref 3 0 m.aa.length,B s.2,.und,.und,.und,.und,.und,.und,.t (.sl (m.roads.map Road.e)),I m.roads.length,I k,.und,.und],
 [.box (ab m),.box (aC e),.box [I q],.arr 1 false 0 (ints s.1)]⟩
theorem Nn{m:aK}(hm:m.ok){e:Esc}(he:e.ok m){q:Nat}{s:List Int×Bool}(h:uG m e q s.1)(z0 z1 z2 z5 z6 z10 z11 z12 z13 z14 z15 z19 z20:D):
 exS aG K.oD ⟨[z0,z1,z2,.bp 0 0,.bp 1 0,z5,z6,.fn N.aM [.bp 2 0,.bp 0 0,.bp 1 0],.ref 3 0 m.aa.length,B s.2,z10,z11,z12,z13,z14,z15,.t (.sl (m.roads.map Road.e)),I m.roads.length,I 0,z19,z20],
  [.box (ab m),.box (aC e),.box [I q],.arr 1 false 0 (ints s.1)]⟩=some (.exit 2,tm2 m e q m.roads.length (rsR m e q s m.roads.length)):=by
 have nr:=hm.nr
 refine bV (fun j=>tm2 m e q j (rsR m e q s j)) m.roads.length rfl ?_ ?_ (by simp)
 · intro j hj
   have inv:=zh hm h j (by omega)
   have ln:=Ka m e q s j
   simp only[rsR]
   generalize rsR m e q s j=s2 at*
   have co:=qs e.shut j (by have:=he.hl hm;omega)
   have rg:=bz Road.e hj
   unfold rR
   by_cases c:(j:Int)∈e.shut
   · simp only[c,if_true,decide_true]at co ⊢
     obtain⟨d,ch⟩:=s2
     obtain⟨aa,roads⟩:=m
     obtain⟨safe,bad,shut,lim⟩:=e
     simp only[tm2,ab,aC]at*
     clear inv
     generalize nth roads j=x at*
     obtain⟨frm,to,len,area,walk,closed,rl,rh,ll,lh⟩:=x
     simp(disch:=omega)only[go_sem,K.im,↓reduceIte,co,rg,reduceAdd,reduceSub]
   · simp only[c,if_false,decide_false]at co ⊢
     have lp:=Nl hm he hj c inv
     generalize hR m e q j true (hR m e q j false s2)=s3 at*
     obtain⟨d,ch⟩:=s2
     obtain⟨d3,ch3⟩:=s3
     obtain⟨aa,roads⟩:=m
     obtain⟨safe,bad,shut,lim⟩:=e
     simp only[tm2,tmS,ab,aC,r9]at*
     clear inv
     generalize nth roads j=x at*
     obtain⟨frm,to,len,area,walk,closed,rl,rh,ll,lh⟩:=x
     simp(disch:=omega)only[go_sem,K.im,↓reduceIte,co,rg,lp,reduceAdd,reduceSub]
 · generalize rsR m e q s m.roads.length=s2 at*
   obtain⟨d,ch⟩:=s2
   obtain⟨aa,roads⟩:=m
   simp only[tm2,ab]at*
   simp(disch:=omega)only[go_sem,K.im,↓reduceIte,reduceAdd,reduceSub]
theorem No{m:aK}(hm:m.ok){e:Esc}(he:e.ok m){q:Nat}(hq:q<m.aa.length):
 ∃d,aG 0 N.dM [.t m.e,.t e.e,I q] []=some (.t (tL d),[])∧uG m e q d∧∃c,rsR m e q (d,false) m.roads.length=(d,c)∧c=false:=by
 have np:=hm.np
 have nr:=hm.nr
 have loop:∀z0 z1 z2 z5 z6 z10 z11 z12 z13 z14 z15 z16 z17 z18 z19 z20:D,∃r,exS aG K.oE ⟨[z0,z1,z2,.bp 0 0,.bp 1 0,z5,z6,.fn N.aM [.bp 2 0,.bp 0 0,.bp 1 0],.ref 3 0 m.aa.length,B true,z10,z11,z12,z13,z14,z15,z16,z17,z18,z19,z20],
  [.box (ab m),.box (aC e),.box [I q],.arr 1 false 0 (ints ((List.replicate m.aa.length (1152921504606846976:Int)).set q 0))]⟩=some r∧∃d,uG m e q d∧(∃c,rsR m e q (d,false) m.roads.length=(d,c)∧c=false)∧
  r=(.exit 0,⟨[.und,.und,.und,.bp 0 0,.bp 1 0,.und,.und,.fn N.aM [.bp 2 0,.bp 0 0,.bp 1 0],.ref 3 0 m.aa.length,B false,.und,.und,.und,.und,.und,.und,.und,.und,.und,.und,.und],[.box (ab m),.box (aC e),.box [I q],.arr 1 false 0 (ints d)]⟩):=by
  intro z0 z1 z2 z5 z6 z10 z11 z12 z13 z14 z15 z16 z17 z18 z19 z20
  refine TZ (fun n st=>∃d ch,uG m e q d∧n=(if ch then Hn d+1 else 0)∧(ch=false→∃c,rsR m e q (d,false) m.roads.length=(d,c)∧c=false)∧
   st=⟨[.und,.und,.und,.bp 0 0,.bp 1 0,.und,.und,.fn N.aM [.bp 2 0,.bp 0 0,.bp 1 0],.ref 3 0 m.aa.length,B ch,.und,.und,.und,.und,.und,.und,.und,.und,.und,.und,.und],[.box (ab m),.box (aC e),.box [I q],.arr 1 false 0 (ints d)]⟩) _ _ ⟨_,true,Nk m e hq,rfl,fun h=>(by cases h),rfl⟩ ?_
  rintro n st ⟨d,ch,inv,hn,fin,rfl⟩
  cases ch with
  | true=>
    left
    have lp:=Nn hm he (s:=(d,false)) inv
    have inv2:=zh hm (s:=(d,false)) inv m.roads.length (aLs _)
    have sm:=C1 hm (s:=(d,false)) inv m.roads.length (aLs _)
    generalize hr:rsR m e q (d,false) m.roads.length=r at*
    obtain⟨d2,ch2⟩:=r
    refine⟨⟨[.und,.und,.und,.bp 0 0,.bp 1 0,.und,.und,.fn N.aM [.bp 2 0,.bp 0 0,.bp 1 0],.ref 3 0 m.aa.length,B ch2,.und,.und,.und,.und,.und,.und,.und,.und,.und,.und,.und],[.box (ab m),.box (aC e),.box [I q],.arr 1 false 0 (ints d2)]⟩,if ch2 then Hn d2+1 else 0,?_,?_,d2,ch2,inv2,rfl,fun h=>?_,rfl⟩
    · rcases sm with a | ⟨a,b⟩
      · obtain⟨rfl,rfl⟩:=Prod.mk.inj a
        subst hn;simp
      · simp only at a b;subst a;subst hn;simp;omega
    · obtain⟨aa,roads⟩:=m
      simp only[tm2,ab]at*
      clear inv inv2 sm hr
      simp(disch:=omega)only[go_sem,K.jH,↓reduceIte,lp,reduceAdd,reduceSub]
    · subst h
      rcases sm with a | ⟨a,b⟩
      · obtain⟨rfl, -⟩:=Prod.mk.inj a
        exact⟨false,hr,rfl⟩
      · cases a
  | false=>
    right
    refine⟨_,?_,?_,d,inv,fin rfl,rfl⟩
    · simp(disch:=omega)only[go_sem,K.jH,↓reduceIte,reduceAdd,reduceSub]
    · simp
 have rp:aG 1 N.aN [.t (.sl [tI 1152921504606846976]),I m.aa.length] []=some (.ref 0 0 m.aa.length,[.arr 1 false 0 (((List.replicate m.aa.length (1152921504606846976:Int)).map (T.int .i64)).map .t)]):=by
  have:=I4 1152921504606846976 m.aa.length (by omega) (by omega)
  rw[List.map_replicate,List.map_replicate]
  exact this
 have rl:(List.replicate m.aa.length (1152921504606846976:Int)).length=m.aa.length:=List.length_replicate
 obtain⟨r,hr,d,inv,fin,rfl⟩:=loop (.t m.e) (.t e.e) (I q) (.bp 2 0) .nil .und .und .und .und .und .und .und .und .und .und .und
 refine⟨d,ay K.lC rfl ?_,inv,fin⟩
 have dl:=inv.len
 clear loop inv fin
 generalize List.replicate m.aa.length (1152921504606846976:Int)=L at*
 obtain⟨aa,roads⟩:=m
 obtain⟨safe,bad,shut,lim⟩:=e
 simp only[ab,aC]at*
 simp(disch:=omega)only[go_sem,K.dM,↓reduceIte,rp,hr,dl,reduceAdd,reduceSub]
structure Rfg where
 pl:Int
 seats:Int
instance : Dat Rfg := ⟨⟨0, 0⟩⟩
abbrev Rfg.e(r:Rfg):T:= .agg [tI r.pl,tI r.seats]
theorem wO(l:List Rfg)(hl:l.length≤4294967296)(f:Nat)(bs:List (List T))(p:Rfg→Bool)(h:∀x,x∈l→aG 0 f (.t x.e::fv bs.length) (aH bs)=some (B (p x),aH bs)):
 aG 0 N.au [.t (.sl (l.map Rfg.e)),.fn f (fv bs.length)] (aH bs)=
 some (I (match (List.range l.length).find? (fun j=>p (nth l j))with | some j=>(j:Int) | none=> -1),aH bs):=by
 refine ay K.bS rfl ?_
 have loop:∀a b:D,exS aG K.cZ ⟨[.t (.sl (l.map Rfg.e)),.fn f (fv bs.length),a,b,I l.length,I 0],aH bs⟩=
  some (match (List.range l.length).find? (fun j=>p (nth l j))with
   | some j=>(.ret,⟨[.t (.sl (l.map Rfg.e)),.fn f (fv bs.length),I j,I j,I l.length,I j],aH bs⟩)
   | none=>(.exit 0,⟨[.t (.sl (l.map Rfg.e)),.fn f (fv bs.length),.und,.und,I l.length,I l.length],aH bs⟩)):=by
  intro a b
  refine dO (fun j=>⟨[.t (.sl (l.map Rfg.e)),.fn f (fv bs.length),.und,.und,I l.length,I j],aH bs⟩) l.length (fun j=>p (nth l j)) _ _ rfl ?_ ?_ ?_ (by simp)
  · intro j hj hp
    have hc:=o9 (h _ (aI hj)) rfl
    simp(disch:=omega)only[go_sem,K.aV,↓reduceIte,hc,hp]
  · intro j hj hp
    have hc:=o9 (h _ (aI hj)) rfl
    simp(disch:=omega)only[go_sem,K.aV,↓reduceIte,hp,hc]
    simp
  · simp(disch:=omega)only[go_sem,K.aV,↓reduceIte]
 simp(disch:=omega)only[go_sem,K.au,↓reduceIte,loop]
 cases hf:(List.range l.length).find? (fun j=>p (nth l j))with
 | some j=>simp(disch:=omega)only[go_sem,↓reduceIte]
 | none=>simp(disch:=omega)only[go_sem,↓reduceIte]
theorem si(l:List Rfg)(hl:l.length≤4294967296)(f:Nat)(bs:List (List T))(p:Rfg→Bool)(h:∀x,x∈l→aG 0 f (.t x.e::fv bs.length) (aH bs)=some (B (p x),aH bs)):
 aG 0 N.ai [.t (.sl (l.map Rfg.e)),.fn f (fv bs.length)] (aH bs)=some (B (l.any p),aH bs):=by
 refine ay K.bL rfl ?_
 have h:=wO l hl f bs p h
 have hc:=xT aG bs f _ 0 (.sl (l.map Rfg.e)) h rfl
 have e:=Ep (l:=l) (p:=p)
 cases hf:(List.range l.length).find? (fun j=>p (nth l j))with
 | some j=>rw[hf]at e hc;simp(disch:=omega)only[go_sem,K.ai,↓reduceIte,←e,hc]
 | none=>rw[hf]at e hc;simp(disch:=omega)only[go_sem,K.ai,↓reduceIte,←e,hc,Option.isSome_none]
def Bb(m:aK)(r:Rfg):Bool:= !decide (0≤r.pl∧r.pl≤(m.aa.length:Int)-1)|| !decide (0≤r.seats∧r.seats≤100)
theorem T0{m:aK}(hm:m.ok)(r:Rfg):aG 0 N.bZ [.t r.e,.bp 0 0] [.box (ab m)]=some (B (Bb m r),[.box (ab m)]):=by
 refine ay K.jM rfl ?_
 have np:=hm.np
 have i1:=IA r.pl 0 ((m.aa.length:Int)-1)
 have i2:=IA r.seats 0 100
 have wk:IntKind.i64.wrap ((m.aa.length:Int)-1)=(m.aa.length:Int)-1:=bU (by omega) (by omega)
 unfold Bb
 generalize decide (0≤r.pl∧r.pl≤(m.aa.length:Int)-1)=b at*
 generalize decide (0≤r.seats∧r.seats≤100)=c at*
 obtain⟨aa,roads⟩:=m
 obtain⟨pl,seats⟩:=r
 simp only[ab]at*
 cases b<;>cases c
 all_goals simp(disch:=omega)only[go_sem,K.bZ,↓reduceIte,i1,i2,wk,Bool.not_true,Bool.not_false,Bool.true_or,Bool.false_or,reduceAdd,reduceSub]
def wP(m:aK)(l:List Rfg):Bool:=decide ((l.length:Int)≤16)&& !(l.any (Bb m))
theorem mZ{m:aK}(hm:m.ok)(l:List Rfg)(hl:l.length≤1000000):aG 0 N.cC [.t m.e,.t (.sl (l.map Rfg.e))] []=some (B (wP m l),[]):=by
 refine ay K.lB rfl ?_
 have va:=ow hm
 have cf:aG 0 N.ai [.t (.sl (l.map Rfg.e)),.fn N.bZ [.bp 0 0]] [.box (ab m)]=some (B (l.any (Bb m)),[.box (ab m)]):=si l (by omega) N.bZ [[.sl (m.aa.map Place.e),.sl (m.roads.map Road.e)]] (Bb m) (fun r _=>T0 hm r)
 unfold wP
 generalize l.any (Bb m)=b at*
 have nr:=hm.nr
 have np:=hm.np
 obtain⟨aa,roads⟩:=m
 simp only[ab]at*
 by_cases c:(l.length:Int)≤16
 · cases b
   all_goals simp(disch:=omega)only[go_sem,K.cC,↓reduceIte,va,cf,c,decide_true,Bool.true_and,Bool.not_true,Bool.not_false,reduceAdd,reduceSub]
 · cases b
   all_goals simp(disch:=omega)only[go_sem,K.cC,↓reduceIte,va,cf,c,decide_false,Bool.false_and,reduceAdd,reduceSub]
theorem Gw{m:aK}(hm:m.ok){e:Esc}(he:e.ok m){q:Nat}{d:List Int}(h:uG m e q d)(p:Nat)(hp:p<m.aa.length):
 aG 0 N.bB [I p,.bp 0 0,.bp 1 0,.bp 2 0] [.box [.t (tL d)],.box (ab m),.box (aC e)]=some (B (decide (nth d p+zF m p>e.dN)),[.box [.t (tL d)],.box (ab m),.box (aC e)]):=by
 refine ay K.iV rfl ?_
 have np:=hm.np
 have lg:=TS hm p hp
 have ln:=h.len
 have n1:=wN (l:=d) (j:=p) (by omega)
 have lo:=h.lo p
 have hi:=h.hi p
 have lb:=tA hm p m.roads.length (aLs _)
 rw[show zE m p m.roads.length=zF m p from rfl]at lb
 generalize zF m p=t at*
 clear h
 obtain⟨aa,roads⟩:=m
 obtain⟨safe,bad,shut,lim⟩:=e
 simp only[ab,aC]at*
 simp(disch:=omega)only[go_sem,K.bB,↓reduceIte,n1,lg,reduceAdd,reduceSub]
abbrev Ho(m:aK)(e:Esc)(d:List Int)(p:Int):Bool:=decide (nth d p.toNat+zF m p.toNat>e.dN)
def Np(m:aK)(e:Esc)(q:Nat)(d:List Int):Prop:=∃c,rsR m e q (d,false) m.roads.length=(d,c)∧c=false
theorem Bc{m:aK}(hm:m.ok){e:Esc}(he:e.ok m){l:List Rfg}(hl:wP m l=true){aa:List Int}(hp:ud aa m.aa.length=true){k:Nat}(hk:k<l.length):
 ∃d,uG m e (nth l k).pl.toNat d∧Np m e (nth l k).pl.toNat d∧aG 0 N.bP [I k,.bp 0 0,.bp 1 0,.bp 2 0,.bp 3 0] [.box (ab m),.box (aC e),.box [.t (.sl (l.map Rfg.e))],.box [.t (tL aa)]]=
  some (B (!(aa.any (Ho m e d))),[.box (ab m),.box (aC e),.box [.t (.sl (l.map Rfg.e))],.box [.t (tL aa)]]):=by
 have np:=hm.np
 have nr:=hm.nr
 have hv:=Bool.and_eq_true_iff.1 hl
 have l16:=of_decide_eq_true hv.1
 have pk:0≤(nth l k).pl∧(nth l k).pl≤(m.aa.length:Int)-1:=by
  have h2:=hv.2
  rw[Bool.not_eq_true',List.any_eq_false]at h2
  have:=h2 _ (aI hk)
  unfold Bb at this
  simp only[Bool.or_eq_true,Bool.not_eq_true',decide_eq_false_iff_not,not_or,Decidable.not_not]at this
  exact this.1
 obtain⟨q,hq⟩:=Int.eq_ofNat_of_zero_le pk.1
 obtain⟨d,td,inv,fx⟩:=No hm he (q:=q) (by omega)
 refine⟨d,by rw[hq];exact inv,by rw[hq];exact fx,ay K.jI rfl ?_⟩
 have cf:aG 0 N.aA [.t (tL aa),.fn N.bB [.bp 0 0,.bp 1 0,.bp 2 0]] [.box [.t (tL d)],.box (ab m),.box (aC e)]=some (B (aa.any (Ho m e d)),[.box [.t (tL d)],.box (ab m),.box (aC e)]):=
  we aa (by have:=mJ hp;omega) N.bB [[tL d],[.sl (m.aa.map Place.e),.sl (m.roads.map Road.e)],[tL e.safe,tL e.bad,tL e.shut,tI e.dN]] (Ho m e d) (fun p hpm=>by
   have b:=wA hp p hpm
   obtain⟨p,rfl⟩:=Int.eq_ofNat_of_zero_le b.1
   exact Gw hm he inv p (by omega))
 have rg:=bz Rfg.e hk
 rw[show(nth l k).e= .agg [tI q,tI (nth l k).seats]by rw[← hq]]at rg
 generalize aa.any (Ho m e d)=b at*
 clear inv fx hv hl hp
 obtain⟨plcs,roads⟩:=m
 obtain⟨safe,bad,shut,lim⟩:=e
 simp only[ab,aC]at*
 simp(disch:=omega)only[go_sem,K.bP,↓reduceIte,td,cf,rg,reduceAdd,reduceSub]
theorem Gx{m:aK}(hm:m.ok){e:Esc}(he:e.ok m){l:List Rfg}(hl:wP m l=true){aa:List Int}(hp:ud aa m.aa.length=true)(hn:0<aa.length):
 ∃D:Nat→List Int,(∀k,k<l.length→uG m e (nth l k).pl.toNat (D k)∧Np m e (nth l k).pl.toNat (D k))∧
  aG 0 N.bW [.t m.e,.t e.e,.t (.sl (l.map Rfg.e)),.t (tL aa)] []=some (.tup [.t (tL (eM l.length fun k=> !(aa.any (Ho m e (D k))))),I 0],[]):=by
 have np:=hm.np
 have nr:=hm.nr
 have l16:=of_decide_eq_true (Bool.and_eq_true_iff.1 hl).1
 have ch:∃D:Nat→List Int,∀k,k<l.length→uG m e (nth l k).pl.toNat (D k)∧Np m e (nth l k).pl.toNat (D k)∧aG 0 N.bP [I k,.bp 0 0,.bp 1 0,.bp 2 0,.bp 3 0] [.box (ab m),.box (aC e),.box [.t (.sl (l.map Rfg.e))],.box [.t (tL aa)]]=
  some (B (!(aa.any (Ho m e (D k)))),[.box (ab m),.box (aC e),.box [.t (.sl (l.map Rfg.e))],.box [.t (tL aa)]]):=by
  refine⟨fun k=>if hk:k<l.length then Classical.choose (Bc hm he hl hp hk)else [],fun k hk=>?_⟩
  simp only[dif_pos hk]
  exact Classical.choose_spec (Bc hm he hl hp hk)
 obtain⟨D,hD⟩:=ch
 refine⟨D,fun k hk=>⟨(hD k hk).1,(hD k hk).2.1⟩,ay K.fS rfl ?_⟩
 have wv:=uq hm he
 have rv:=mZ hm l (by omega)
 rw[hl]at rv
 have ri:=om aa 0 (m.aa.length-1) (by have:=mJ hp;omega)
 rw[tf,hp]at ri
 have wh:aG 0 N.dV [I l.length,.fn N.bP [.bp 0 0,.bp 1 0,.bp 2 0,.bp 3 0]] [.box (ab m),.box (aC e),.box [.t (.sl (l.map Rfg.e))],.box [.t (tL aa)]]=some (.t (tL (eM l.length fun k=> !(aa.any (Ho m e (D k))))),[.box (ab m),.box (aC e),.box [.t (.sl (l.map Rfg.e))],.box [.t (tL aa)]]):=
  Md l.length (by omega) N.bP [[.sl (m.aa.map Place.e),.sl (m.roads.map Road.e)],[tL e.safe,tL e.bad,tL e.shut,tI e.dN],[.sl (l.map Rfg.e)],[tL aa]] (fun k=> !(aa.any (Ho m e (D k)))) (fun k hk=>(hD k hk).2.2)
 generalize (eM l.length fun k=> !(aa.any (Ho m e (D k))))=r at*
 have wk:IntKind.i64.wrap ((m.aa.length:Int)-1)=(m.aa.length:Int)-1:=bU (by omega) (by omega)
 clear hD hl hp
 have sc:([Ev.D.t (tL r),I 0].all eW)=false:=rfl
 obtain⟨plcs,roads⟩:=m
 obtain⟨safe,bad,shut,lim⟩:=e
 simp only[ab,aC]at*
 simp(disch:=omega)only[go_sem,K.bW,↓reduceIte,wv,rv,ri,wh,wk,sc,Bool.not_true,Bool.not_false,reduceAdd,reduceSub]
def aaL(d:List Int)(n:Nat)(v:Int):Nat:=((List.range n).filter fun x=>decide (nth d x<v)).length
theorem Ke(d:List Int)(n:Nat)(v:Int):aaL d n v≤n:=by
 have:=List.length_filter_le (fun x=>decide (nth d x<v)) (List.range n)
 rw[List.length_range]at this
 exact this
theorem Kf{d:List Int}{n x:Nat}{v:Int}(hx:x<n)(h:nth d x<v):aaL d n (nth d x)<aaL d n v:=by
 unfold aaL
 have key:∀l:List Nat,x∈l→(l.filter fun y=>decide (nth d y<nth d x)).length<(l.filter fun y=>decide (nth d y<v)).length:=by
  intro l
  induction l with
  | nil=>intro h;simp at h
  | cons a l ih=>
    intro hm
    have sub:(l.filter fun y=>decide (nth d y<nth d x)).length≤(l.filter fun y=>decide (nth d y<v)).length:=by
     clear ih hm
     induction l with
     | nil=>simp
     | cons b l ih=>
       simp only[List.filter_cons]
       by_cases c:nth d b<nth d x
       · rw[if_pos (by simpa using c),if_pos (by simp;omega)];simp only[List.length_cons];omega
       · rw[if_neg (by simpa using c)]
         split
         · simp only[List.length_cons];omega
         · exact ih
    simp only[List.filter_cons]
    by_cases c:a=x
    · subst c
      rw[if_neg (by simp),if_pos (by simpa using h)]
      simp only[List.length_cons];omega
    · have ih:=ih (by rcases List.mem_cons.1 hm with e | e;exact absurd e.symm c;exact e)
      by_cases c2:nth d a<nth d x
      · rw[if_pos (by simpa using c2),if_pos (by simp;omega)];simp only[List.length_cons];omega
      · rw[if_neg (by simpa using c2)]
        split
        · simp only[List.length_cons];omega
        · exact ih
 exact key _ (aLu.2 hx)
def nsM(m:aK):aK:=⟨m.aa.map fun p=>⟨p.h,false⟩,m.roads⟩
theorem fp(m:aK):(nsM m).aa.length=m.aa.length:=List.length_map _
theorem oR(m:aK){p:Nat}(hp:p<m.aa.length):nth (nsM m).aa p=⟨(nth m.aa p).h,false⟩:=by
 unfold nsM nth
 rw[aLl,aLn,aLc hp,aLl,aLc hp];rfl
theorem sj{m:aK}(h:m.ok):(nsM m).ok:=by
 refine⟨by rw[fp];exact h.np,h.nr,fun p hp=>?_,fun r hr=>by rw[fp];exact h.rs r hr⟩
 obtain⟨x,hx,rfl⟩:=List.mem_map.1 hp
 exact h.hs x hx
theorem vj{m:aK}(h:m.ok){k:Nat}(hk:k<m.roads.length)(back:Bool):dZ (nsM m) k back=dZ m k back:=by
 have r1:=Road.pL (h.rs _ (aI hk)) back
 have r2:=Road.xV (h.rs _ (aI hk)) back
 unfold dZ wq
 rw[show nth (nsM m).roads k=nth m.roads k from rfl]
 unfold Road.src at r1
 unfold Road.dst at r2
 simp only[oR m (show(if back=true then(nth m.roads k).to else(nth m.roads k).frm).toNat<m.aa.length by omega),oR m (show(if back=true then(nth m.roads k).frm else(nth m.roads k).to).toNat<m.aa.length by omega)]
def zi(m:aK)(e:Esc)(place target:Nat):Nat→List Int
 | 0=>e.bad
 | j+1=>if(j≠target∧j≠place)∧sfF m e j=true then Lh (zi m e place target j) j else zi m e place target j
def jQ(m:aK)(e:Esc)(place target:Nat):Esc:=⟨[(target:Int)],zi m e place target m.aa.length,e.shut,e.dN⟩
theorem kJ(m:aK)(e:Esc)(place target:Nat)(x:Int):∀j,x∈zi m e place target j↔x∈e.bad∨∃p:Nat,p<j∧x=p∧p≠target∧p≠place∧sfF m e p=true
 | 0=>by simp[zi]
 | j+1=>by
   have ih:=kJ m e place target x j
   rw[zi]
   split
   · rename_i c
     rw[Nj,ih]
     constructor
     · rintro (rfl | a | ⟨p,a,b⟩)
       · exact .inr ⟨j,by omega,rfl,c.1.1,c.1.2,c.2⟩
       · exact .inl a
       · exact .inr ⟨p,by omega,b⟩
     · rintro (a | ⟨p,a,rfl,b⟩)
       · exact .inr (.inl a)
       · by_cases q:p=j
         · subst q;exact .inl rfl
         · exact .inr (.inr ⟨p,by omega,rfl,b⟩)
   · rename_i c
     rw[ih]
     constructor
     · rintro (a | ⟨p,a,b⟩)
       · exact .inl a
       · exact .inr ⟨p,by omega,b⟩
     · rintro (a | ⟨p,a,rfl,b1,b2,b3⟩)
       · exact .inl a
       · by_cases q:p=j
         · subst q;exact absurd ⟨⟨b1,b2⟩,b3⟩ c
         · exact .inr ⟨p,by omega,rfl,b1,b2,b3⟩
theorem Kg{m:aK}{e:Esc}(h:e.bad.Pairwise (· < ·))(place target:Nat):∀j,(zi m e place target j).Pairwise (· < ·)
 | 0=>h
 | j+1=>by
   have ih:=Kg h place target j (m:=m)
   rw[zi]
   split
   · exact TX ih _
   · exact ih
theorem Fa{m:aK}{e:Esc}(he:e.ok m)(place target:Nat){j:Nat}(hj:j≤m.aa.length):ud (zi m e place target j) m.aa.length=true:=by
 obtain⟨a,b⟩:=E6.1 he.b
 refine E6.2 ⟨Kg a place target j,fun x hx=>?_⟩
 rcases (kJ m e place target x j).1 hx with h | ⟨p,h,rfl, -⟩
 · exact b x h
 · omega
theorem C2{m:aK}{e:Esc}(he:e.ok m){place target:Nat}(ht:target<m.aa.length):(jQ m e place target).ok (nsM m):=by
 refine⟨?_,?_,he.h,he.l0,he.l1⟩
 · rw[fp];exact O8 (by omega) (by omega)
 · rw[fp];exact Fa he place target (aLs _)
theorem Kh{m:aK}{e:Esc}{q:Int}{k:Nat}{back:Bool}{d:List Int}{c:Bool}(h:(hR m e q k back (d,c)).2=false):hR m e q k back (d,c)=(d,c):=by
 unfold hR at*
 split
 · rename_i hc;rw[if_pos hc]at h;cases h
 · rfl
theorem Pv{m:aK}{e:Esc}{q:Int}{k:Nat}{d:List Int}{c:Bool}(h:(rR m e q k (d,c)).2=false):rR m e q k (d,c)=(d,c)∧((k:Int)∉e.shut→∀back,hR m e q k back (d,c)=(d,c)):=by
 unfold rR at*
 split
 · rename_i hc;exact⟨rfl,fun n=>absurd hc n⟩
 · rename_i hc
   rw[if_neg hc]at h
   have e0:(hR m e q k false (d,c)).2=false:=by
    generalize hR m e q k false (d,c)=s at*
    obtain⟨d2,c2⟩:=s
    have:=Kh h
    rw[this]at h;exact h
   have e1:=Kh e0
   rw[e1]at h ⊢
   have e2:=Kh h
   exact⟨e2,fun _ back=>by cases back;exact e1;exact e2⟩
theorem Ki{m:aK}{e:Esc}{q:Int}{d:List Int}:∀n,(rsR m e q (d,false) n).2=false→rsR m e q (d,false) n=(d,false)∧∀k,k<n→(k:Int)∉e.shut→∀back,hR m e q k back (d,false)=(d,false)
 | 0,_=>⟨rfl,fun k hk=>by omega⟩
 | n+1,h=>by
   rw[rsR]at h ⊢
   have e0:(rsR m e q (d,false) n).2=false:=by
    generalize rsR m e q (d,false) n=s at*
    obtain⟨d2,c2⟩:=s
    rw[(Pv h).1]at h;exact h
   obtain⟨e1,e2⟩:=Ki n e0
   rw[e1]at h ⊢
   obtain⟨f1,f2⟩:=Pv h
   refine⟨f1,fun k hk=>?_⟩
   by_cases c:k=n
   · subst c;exact f2
   · exact e2 k (by omega)
theorem Kj{m:aK}{e:Esc}{q:Nat}{d:List Int}(h:Np m e q d){k:Nat}(hk:k<m.roads.length)(hs:(k:Int)∉e.shut){back:Bool}(ho:okR m e q k back=true):nth d ((nth m.roads k).src back).toNat≤nth d ((nth m.roads k).dst back).toNat+dZ m k back:=by
 obtain⟨c,h1,h2⟩:=h
 subst h2
 obtain⟨-,f⟩:=Ki (m:=m) (e:=e) (q:=q) (d:=d) m.roads.length (by rw[h1])
 have:=f k hk hs back
 unfold hR at this
 rw[ho,Bool.true_and]at this
 by_cases c:nth d ((nth m.roads k).dst back).toNat+dZ m k back<nth d ((nth m.roads k).src back).toNat
 · simp only[c,decide_true,if_true]at this
   have:=congrArg Prod.snd this
   cases this
 · omega
theorem Pw{m:aK}(hm:m.ok){e:Esc}{q:Nat}{d:List Int}(h:uG m e q d)(f:Np m e q d):∀n j,j<m.aa.length→nth d j<1152921504606846976→aaL d m.aa.length (nth d j)≤n→nth d j≤500001*n:=by
 intro n
 induction n with
 | zero=>
   intro j hj hf hc
   rcases h.suc j hj hf with rfl | ⟨k,b,h1,h2,h3,h4,h5⟩
   · rw[h.zero];omega
   · have s0:=of_decide_eq_true (Bool.and_eq_true_iff.1 h3).1
     have s1:=eV hm k h1 b
     have r2:=Road.xV (hm.rs _ (aI h1)) b
     have:=Kf (d:=d) (n:=m.aa.length) (x:=((nth m.roads k).dst b).toNat) (v:=nth d j) (by omega) (by omega)
     omega
 | succ n ih=>
   intro j hj hf hc
   rcases h.suc j hj hf with rfl | ⟨k,b,h1,h2,h3,h4,h5⟩
   · rw[h.zero];omega
   · have s0:=of_decide_eq_true (Bool.and_eq_true_iff.1 h3).1
     have s1:=eV hm k h1 b
     have r2:=Road.xV (hm.rs _ (aI h1)) b
     have:=Kf (d:=d) (n:=m.aa.length) (x:=((nth m.roads k).dst b).toNat) (v:=nth d j) (by omega) (by omega)
     have ih:=ih ((nth m.roads k).dst b).toNat (by omega) (by omega) (by omega)
     have fr:=Kj f h1 h2 h3
     rw[h4]at fr
     omega
theorem zj(m:aK)(e:Esc)(p:Nat)(x:Edge):∀n,x∈uE m e p n↔∃k,k<n∧(k:Int)∉e.shut∧0≤(ed m k p).2∧x=⟨k,p,(ed m k p).1.toNat,(ed m k p).2⟩
 | 0=>by simp[uE]
 | n+1=>by
   have ih:=zj m e p x n
   rw[uE,List.mem_append,ih]
   unfold TT
   constructor
   · rintro (⟨k,a,b⟩ | h)
     · exact⟨k,by omega,b⟩
     · split at h
       · rename_i c;exact⟨n,by omega,c.2,c.1,List.mem_singleton.1 h⟩
       · cases h
   · rintro ⟨k,a,b,c,d⟩
     by_cases q:k=n
     · subst q;right;rw[if_pos ⟨c,b⟩];exact List.mem_singleton.2 d
     · exact .inl ⟨k,by omega,b,c,d⟩
theorem T4{m:aK}(hm:m.ok){e:Esc}{q:Nat}(hq:q<m.aa.length){d:List Int}(h:uG m e q d)(f:Np m e q d)(place:Nat):
 ∀(n:Nat) (j:Nat),j<m.aa.length→nth d j<1152921504606846976→nth d j≤(n:Int)→(j=q→(q:Int)∉e.bad)→(nth (lN (nsM m) (jQ m e place q)) j).t≤nth d j:=by
 have lz:=uu (sj hm) (e:=jQ m e place q)
 have np:=hm.np
 intro n
 induction n with
 | zero=>
   intro j hj hf hn hb
   have d0:=h.lo j
   rcases h.suc j hj hf with rfl | ⟨k,b,h1,h2,h3,h4,h5⟩
   · have z:=lz.z j (by rw[fp];exact hj) (by
      unfold zR sfF bdF
      have:(j:Int)∉(jQ m e place j).bad:=fun hx=>by
       rcases (kJ m e place j _ _).1 hx with a | ⟨p,a,b,c, -⟩
       · exact hb rfl a
       · omega
      rw[decide_eq_false this];simp[jQ])
     rw[z];omega
   · have s0:=of_decide_eq_true (Bool.and_eq_true_iff.1 h3).1
     have s1:=eV hm k h1 b
     have:=h.lo ((nth m.roads k).dst b).toNat
     omega
 | succ n ih=>
   intro j hj hf hn hb
   rcases h.suc j hj hf with rfl | ⟨k,b,h1,h2,h3,h4,h5⟩
   · have z:=lz.z j (by rw[fp];exact hj) (by
      unfold zR sfF bdF
      have:(j:Int)∉(jQ m e place j).bad:=fun hx=>by
       rcases (kJ m e place j _ _).1 hx with a | ⟨p,a,b,c, -⟩
       · exact hb rfl a
       · omega
      rw[decide_eq_false this];simp[jQ])
     rw[z];have:=h.lo j;exact this
   · obtain⟨o1,o2⟩:=Bool.and_eq_true_iff.1 h3
     have s0:=of_decide_eq_true o1
     obtain⟨o3,o4⟩:=Bool.and_eq_true_iff.1 o2
     have o4:((nth m.roads k).dst b)∉e.bad:=by simpa using o4
     have s1:=eV hm k h1 b
     have r1:=Road.pL (hm.rs _ (aI h1)) b
     have r2:=Road.xV (hm.rs _ (aI h1)) b
     have ne:=(hm.rs _ (aI h1)).ne
     by_cases jq:j=q
     · subst jq
       have z:=lz.z j (by rw[fp];exact hj) (by
        unfold zR sfF bdF
        have:(j:Int)∉(jQ m e place j).bad:=fun hx=>by
         rcases (kJ m e place j _ _).1 hx with a | ⟨p,a,b,c, -⟩
         · exact hb rfl a
         · omega
        rw[decide_eq_false this];simp[jQ])
       rw[z];have:=h.lo j;exact this
     · obtain⟨x,hx⟩:=Int.eq_ofNat_of_zero_le r2.1
       rw[hx]at o3 o4 h5 r2
       rw[Int.toNat_natCast]at h5
       have lx:=ih x (by omega) (by omega) (by omega) (fun e1=>by rw[← e1];exact o4)
       have fl:=Pw hm h f m.aa.length x (by omega) (by omega) (Ke _ _ _)
       have nb:(x:Int)∉(jQ m e place q).bad:=fun hm2=>by
        rcases (kJ m e place q _ _).1 hm2 with a | ⟨p,a,b1,c1,c2,c3⟩
        · exact o4 a
        · have:p=x:=by omega
          subst this
          unfold C0 at o3
          unfold sfF at c3
          rw[Int.toNat_natCast]at o3
          simp only[Bool.or_eq_true,aLr,Bool.not_eq_true',decide_eq_true_eq,decide_eq_false_iff_not]at o3 c3
          rcases o3 with a | ⟨a1,a2⟩
          · omega
          · rcases c3 with a | a
            · rw[a1]at a;cases a
            · exact a2 a
       have em:(⟨k,j,x,dZ m k b⟩:Edge)∈uF (nsM m) (jQ m e place q) m.aa.length:=by
        refine(r5 _ _ _ _).2 ⟨j,hj,?_,(zj _ _ _ _ _).2 ⟨k,h1,h2,?_⟩⟩
        · unfold sfF
          rw[oR m hj]
          have:(j:Int)∉(jQ m e place q).safe:=by simp[jQ];omega
          rw[decide_eq_false this];rfl
        · have ot:ed (nsM m) k j=((x:Int),dZ m k b):=?_
          · rw[ot];exact⟨s0,rfl⟩
          unfold ed
          rw[show nth (nsM m).roads k=nth m.roads k from rfl]
          cases b with
          | false=>
            simp only[Road.src,Road.dst,aLt,if_false]at h4 hx r1
            rw[if_pos (by omega),vj hm h1,hx]
          | true=>
            simp only[Road.src,Road.dst,if_true]at h4 hx r1
            rw[if_neg (by omega),if_pos (by omega),vj hm h1,hx]
       have fx:=lz.fx _ (by rw[fp];exact em)
       unfold A3 uR bdF at fx
       simp only at fx
       rw[decide_eq_false nb,Bool.not_false,Bool.true_and,decide_eq_true (by show _<(1099511627776:Int);omega),Bool.true_and,mU]at fx
       unfold kp at fx
       simp only at fx
       omega
theorem T5{m:aK}(hm:m.ok){e:Esc}{q:Nat}(hq:q<m.aa.length){d:List Int}(h:uG m e q d)(f:Np m e q d)(place:Nat)(hp:place≠q):
 ∀(n:Nat) (j:Nat),j<m.aa.length→(nth (lN (nsM m) (jQ m e place q)) j).t<1099511627776→(nth (lN (nsM m) (jQ m e place q)) j).t≤(n:Int)→(j=place∨(nth (lN (nsM m) (jQ m e place q)) j).t<(nth (lN (nsM m) (jQ m e place q)) place).t)→nth d j≤(nth (lN (nsM m) (jQ m e place q)) j).t:=by
 have lz:=uu (sj hm) (e:=jQ m e place q)
 have np:=hm.np
 intro n
 induction n with
 | zero=>
   intro j hj hf hn hb
   rcases lz.w j (by rw[fp];exact hj) hf with z | ⟨x,x1,x2,x3,x4,x5⟩
   · have jq:j=q:=by
      unfold zR sfF at z
      rw[oR m hj]at z
      simp[jQ]at z
      omega
     subst jq
     rw[h.zero]
     exact lz.t0 j (by rw[fp];exact hj)
   · obtain⟨o, -⟩:=qG (sj hm) _ _ (aLs _) x x1
     have:=lz.t0 x.b o.2.1
     rw[mU]at x5
     unfold kp at x5
     have:=o.2.2.1
     simp only at x5
     omega
 | succ n ih=>
   intro j hj hf hn hb
   rcases lz.w j (by rw[fp];exact hj) hf with z | ⟨x,x1,x2,x3,x4,x5⟩
   · have jq:j=q:=by
      unfold zR sfF at z
      rw[oR m hj]at z
      simp[jQ]at z
      omega
     subst jq
     rw[h.zero]
     exact lz.t0 j (by rw[fp];exact hj)
   · obtain⟨o, -⟩:=qG (sj hm) _ _ (aLs _) x x1
     have b0:=lz.t0 x.b o.2.1
     rw[mU]at x5
     unfold kp at x5
     have t1:=o.2.2.1
     simp only at x5
     have bl:x.b<m.aa.length:=by have:=o.2.1;rw[fp]at this;exact this
     have lb:(nth (lN (nsM m) (jQ m e place q)) x.b).t<(nth (lN (nsM m) (jQ m e place q)) place).t:=by
      rcases hb with rfl | hb<;>omega
     have ib:=ih x.b bl (by omega) (by omega) (.inr lb)
     obtain⟨p,p1,p2,p3⟩:=(r5 _ _ _ _).1 x1
     obtain⟨k,k1,k2,k3,k4⟩:=(zj _ _ _ _ _).1 p3
     have xa:x.a=p:=by rw[k4]
     have pj:p=j:=by omega
     subst pj
     have xt:x.t=(ed (nsM m) k p).2:=by rw[k4]
     have xb:x.b=(ed (nsM m) k p).1.toNat:=by rw[k4]
     have nb:(x.b:Int)∉(jQ m e place q).bad:=by
      unfold uR bdF at x2
      simpa using x2
     have nbe:(x.b:Int)∉e.bad:=fun hx=>nb ((kJ m e place q _ _).2 (.inl hx))
     have bp:x.b≠place:=fun e=>by rw[e]at lb;omega
     have ps:C0 m e q x.b=true:=by
      unfold C0
      rw[Int.toNat_natCast]
      by_cases c:x.b=q
      · rw[decide_eq_true (by omega),Bool.true_or]
      · have ns:sfF m e x.b=false:=by
         cases hs:sfF m e x.b with
         | false=>rfl
         | true=>exact absurd ((kJ m e place q _ _).2 (.inr ⟨x.b,bl,rfl,c,bp,hs⟩)) nb
        unfold sfF at ns
        rw[Bool.or_eq_false_iff]at ns
        rw[ns.1,ns.2,Bool.not_false,Bool.and_self,Bool.or_true]
     have k1:k<m.roads.length:=k1
     have s0:=fun b=>eV hm k k1 b
     obtain⟨f0,f1,t0,t2,ne, -, -, -, -, -, -, -, -, -, -⟩:=hm.rs _ (aI k1)
     have edge:∃b,(nth m.roads k).src b=p∧(nth m.roads k).dst b=x.b∧dZ m k b=x.t:=by
      unfold ed at xt xb k3
      rw[show nth (nsM m).roads k=nth m.roads k from rfl]at xt xb k3
      by_cases c1:(nth m.roads k).frm=p
      · rw[if_pos c1]at xt xb
        rw[vj hm k1]at xt
        refine⟨false,?_,?_,xt.symm⟩
        · simp only[Road.src,aLt,if_false];exact c1
        · simp only[Road.dst,aLt,if_false]
          simp only at xb
          omega
      · rw[if_neg c1]at xt xb k3
        by_cases c2:(nth m.roads k).to=p
        · rw[if_pos c2]at xt xb
          rw[vj hm k1]at xt
          refine⟨true,?_,?_,xt.symm⟩
          · simp only[Road.src,if_true];exact c2
          · simp only[Road.dst,if_true]
            simp only at xb
            omega
        · rw[if_neg c2]at k3
          simp only at k3
          omega
     obtain⟨b,e1,e2,e3⟩:=edge
     have fr:=Kj f k1 k2 (back:=b) (by
      unfold okR
      rw[e2,ps,decide_eq_true (by omega),decide_eq_false nbe];rfl)
     rw[e1,e2,Int.toNat_natCast,Int.toNat_natCast]at fr
     omega
theorem Nq{m:aK}(hm:m.ok){e:Esc}{q:Nat}(hq:q<m.aa.length){d:List Int}(h:uG m e q d)(f:Np m e q d){place:Nat}(hp:place≠q)(hl:place<m.aa.length):
 (nth d place<1152921504606846976↔(nth (lN (nsM m) (jQ m e place q)) place).t<1099511627776)∧(nth d place<1152921504606846976→nth d place=(nth (lN (nsM m) (jQ m e place q)) place).t):=by
 have np:=hm.np
 have d0:=h.lo place
 have lz:=uu (sj hm) (e:=jQ m e place q)
 have l0:=lz.t0 place (by rw[fp];exact hl)
 have A:nth d place<1152921504606846976→(nth (lN (nsM m) (jQ m e place q)) place).t≤nth d place∧nth d place≤500001*64:=fun hf=>by
  have a:=T4 hm hq h f place (nth d place).toNat place hl hf (by omega) (fun e=>absurd e hp)
  have b:=Pw hm h f m.aa.length place hl hf (Ke _ _ _)
  omega
 have B:(nth (lN (nsM m) (jQ m e place q)) place).t<1099511627776→nth d place≤(nth (lN (nsM m) (jQ m e place q)) place).t:=fun hf=>
  T5 hm hq h f place hp (nth (lN (nsM m) (jQ m e place q)) place).t.toNat place hl hf (by omega) (.inl rfl)
 refine⟨⟨fun x=>?_,fun x=>?_⟩,fun x=>?_⟩
 · have:=A x;omega
 · have:=B x;omega
 · have a:=A x
   have:=B (by omega)
   omega
end Go.Ev
namespace Go.Ev.N
def bC:Nat:=504
def cQ:Nat:=505
def dB:Nat:=506
def eI:Nat:=507
end Go.Ev.N
namespace Go.Ev.K
open Go.Ev
def gN:C:= (.seq (.ite [m v8,u (.bin .gtr l0 (.i 0))] [] 0 .skip (.exit 0)) (.seq (.blk 1 (.reg [m v7,m v4,f 0 v5,g l0,u (.ln l0),u (.ca N.aq 0 [] [.l 3,.l 0]),m v4,u (.ca N.aq 0 [] [.l 0,.i 5]),u (.bd [z0,z0] [(0,1,.l 2),(1,1,.l 0)]),u (.bs [.l 0] 2),u (.app l9 l0 true 2),x 7 l0] [])) (.reg [m v8,u (.bin .sub l0 (.i 1)),x 8 l0] [])))
def kt:C:= .loop true [0,3,9,10,11,12,13,14,15,16,17,18,19] K.gN
def bC:Fn:= { bo:=3,vars:=[0,1,2,6,7,8,9,10,11,12,13,14,15,16,17,18,19,20,21,22],body:=(q [x 3 (.b false)] [] (.seq (.ite [m v0,u (.ca N.fM 0 [] [.l 0]),u (.un .not l0),m l0,e 0 false v1,y 1 false (.ln l0),y 2 false (.bin .gtr l0 (.i 30)),u (.pk l3 (.b true) l0),m l0,e 0 false v2,y 1 false (.ln l0),y 2 false (.bin .gtr l0 (.i 70)),u (.pk l3 (.b true) l0)] [] 0 (q [u (.ca N.eQ 0 [] []),x 3 l0] [] .ret) .skip) (q [m v0,u (.ca N.gR 0 [] [.l 0]),x 4 l0] [] (q [m v4,u (.ca N.bX 0 [] [.l 0]),w 5 (.al [.nil,.nil] []),u (.st l0 l1 2 [])] [] (q [m v4,h 2 v5,u (.ca N.bY 0 [] [.l 1,.l 0]),w 6 (.al [.nil,.nil,.nil,z0] []),u (.st l0 l1 4 [])] [] (q [w 7 (.nw 2)] [] (.seq (q [m v4,u (.ca N.aq 0 [] [.l 0,.i 4]),x 8 l0] [] (.blk 0 K.kt)) (q [m v4,f 0 v5,g l0,u (.ln l0),u (.ca N.b8 0 [] [.l 3,.l 0]),x 9 l0] [] (q [h 2 v5,h 4 v6,m v7,m v9,u (.ca N.bW 0 [] [.l 3,.l 2,.l 1,.l 0]),m l0,u (.ex l0 0),u (.ex l1 1),x 10 l1,x 11 l1] [] (q [h 2 v5,h 4 v6,m v7,m v9,u (.ca N.cQ 0 [] [.l 3,.l 2,.l 1,.l 0]),m l0,u (.ex l0 0),u (.ex l1 1),x 12 l1,x 13 l1] [] (q [h 2 v5,h 4 v6,m v1,m v2,u (.ca N.bW 0 [] [.l 3,.l 2,.l 1,.l 0]),m l0,u (.ex l0 0),u (.ex l1 1),x 14 l1,x 15 l1] [] (q [h 2 v5,h 4 v6,m v1,m v2,u (.ca N.cQ 0 [] [.l 3,.l 2,.l 1,.l 0]),m l0,u (.ex l0 0),u (.ex l1 1),x 16 l1,x 17 l1] [] (q [m v4,u (.ca N.dL 0 [] [.l 0]),m l0,u (.ex l0 0),u (.ex l1 1),x 18 l1,x 19 l1] [] (q [u (.ca N.eQ 0 [] []),m l0,e 0 true v11,e 1 true v13,y 2 true (.bin .eql l1 l0),u (.pk l3 l0 (.b false)),m l0,e 0 true v10,e 1 true v12,y 2 true (.ca N.bE 0 [] [.l 1,.l 0]),u (.pk l3 l0 (.b false)),m l0,e 0 true v15,e 1 true v17,y 2 true (.bin .eql l1 l0),u (.pk l3 l0 (.b false)),m l0,e 0 true v14,e 1 true v16,y 2 true (.ca N.bE 0 [] [.l 1,.l 0]),u (.pk l3 l0 (.b false)),m l0,y 0 true (.ld v5 2 true),e 1 true v7,y 2 true (.ca N.cC 0 [] [.l 1,.l 0]),u (.pk l3 l0 (.b false)),m l0,y 0 true (.ld v5 2 true),e 1 true v1,y 2 true (.ca N.cC 0 [] [.l 1,.l 0]),y 3 true (.ld v5 2 true),e 4 true v1,y 5 true (.ca N.dB 0 [] [.l 1,.l 0]),y 6 true (.eqk (.bool) false l3 l0),u (.pk l7 l0 (.b false)),m l0,e 0 true v18,e 1 true v19,y 2 true (.ca N.eR 0 [] [.l 1,.l 0]),u (.pk l3 l0 (.b false)),x 3 l0] [(30,25)] .ret)))))))))))))),res:=[(3,none)]}
def fq:C:= (.seq (.ite [m v11,m v3,u (.ln l0),u (.bin .lss l2 l0)] [] 0 .skip (.exit 2)) (.seq (.blk 3 (q [h 2 v4,h 4 v5,m v3,m v11,a 1 l1 l0,g l0,m v2,m v9,a 2 l1 l0,f 0 l0,g l0,u (.ca N.eI 0 [] [.l 10,.l 9,.l 5,.l 0]),m l0,u (.ex l0 0),u (.ex l1 1),x 12 l1,x 13 l1] [] (.reg [m v10,m l0,e 0 true v13,u (.pk l1 l0 (.b false)),m l0,e 0 true v12,y 1 true (.ld v4 2 true),e 2 true v3,e 3 true v11,y 4 true (.ia l1 l0 1),i 5 true l0,y 6 true (.ca N.gV 0 [] [.l 4,.l 0]),y 7 true (.bin .add l6 l0),y 8 true (.fa v5 3),i 9 true l0,y 10 true (.bin .leq l2 l0),u (.pk l11 l0 (.b false)),x 10 l0] [(14,0)]))) (.reg [m v11,u (.bin .add l0 (.i 1)),x 11 l0] [])))
def lI:C:= .loop true [0,1,6,7,12,13] K.fq
def iX:C:= (.seq (.ite [m v9,m v2,u (.ln l0),u (.bin .lss l2 l0)] [] 0 .skip (.exit 0)) (.seq (.blk 1 (q [x 10 (.b true)] [] (.seq (q [x 11 (.i 0)] [] (.blk 2 K.lI)) (.ite [m v10] [] 0 (.reg [m v8,m v9,u (.bs [.l 0] 1),u (.app l2 l0 true 1),x 8 l0] []) .skip)))) (.reg [m v9,u (.bin .add l0 (.i 1)),x 9 l0] [])))
def p7:C:= .loop true [0,1,6,7,10,11,12,13] K.iX
def cQ:Fn:= { bo:=4,vars:=[0,1,2,3,4,5,8,9,10,11,12,13,14,15],body:=(q [w 4 (.bx v0 2),w 5 (.bx v1 4),w 6 (.mv (.c (.nil))),x 7 (.i 0)] [] (.seq (.ite [h 2 v4,h 4 v5,u (.ca N.dX 0 [] [.l 1,.l 0]),u (.un .not l0),m l0,y 0 false (.ld v4 2 true),e 1 false v2,y 2 false (.ca N.dB 0 [] [.l 1,.l 0]),y 3 false (.un .not l0),u (.pk l4 (.b true) l0)] [] 0 (q [w 6 (.mv (.c (.nil))),x 7 (.i 6)] [] .ret) .skip) (.seq (.ite [m v3,u (.ln l0),u (.bin .eql l0 (.i 0)),m l0,e 0 false v3,y 1 false (.fa v4 0),i 2 false l0,y 3 false (.ln l0),y 4 false (.ca N.fe 0 [] [.l 3,.l 0]),y 5 false (.un .not l0),u (.pk l6 (.b true) l0)] [] 0 (q [w 6 (.mv (.c (.nil))),x 7 (.i 3)] [] .ret) .skip) (q [w 8 (.nw 1)] [] (.seq (q [x 9 (.i 0)] [] (.blk 0 K.p7)) (q [m v8,x 6 l0,x 7 (.i 0)] [] .ret)))))),res:=[(6,none),(7,none)]}
def ef:C:= (.seq (.ite [m v4,m v1,u (.ln l0),u (.bin .lss l2 l0)] [] 0 .skip (.exit 0)) (.seq (.blk 1 (.ite [m v1,m v4,a 2 l1 l0,f 0 l0,g l0,u (.bin .lss l0 (.i 0)),m l0,e 0 false v1,e 1 false v4,y 2 false (.ia l1 l0 2),y 3 false (.fa l0 0),i 4 false l0,y 5 false (.fa v2 0),i 6 false l0,y 7 false (.ln l0),y 8 false (.bin .geq l3 l0),u (.pk l9 (.b true) l0),m l0,e 0 false v1,e 1 false v4,y 2 false (.ia l1 l0 2),y 3 false (.fa l0 1),i 4 false l0,y 5 false (.bin .lss l0 (.i 0)),u (.pk l6 (.b true) l0),m l0,e 0 false v1,e 1 false v4,y 2 false (.ia l1 l0 2),y 3 false (.fa l0 1),i 4 false l0,y 5 false (.bin .gtr l0 (.i 100)),u (.pk l6 (.b true) l0)] [] 0 (q [x 3 (.b false)] [] .ret) .skip)) (.reg [m v4,u (.bin .add l0 (.i 1)),x 4 l0] [])))
def p8:C:= .loop true [0,3] K.ef
def dB:Fn:= { bo:=2,vars:=[0,1,2,4,5],body:=(q [w 2 (.bx v0 2),x 3 (.b false)] [] (.seq (q [x 4 (.i 0)] [] (.blk 0 K.p8)) (q [h 2 v2,u (.ca N.dy 0 [] [.l 0]),u (.bin .eql l0 (.i 0)),m l0,e 0 true v1,y 1 true (.ln l0),y 2 true (.bin .leq l0 (.i 16)),u (.pk l3 l0 (.b false)),x 3 l0] [] .ret))),res:=[(3,none)]}
def fV:C:= (.seq (.ite [m v10,f 0 v4,g l0,u (.ln l0),u (.bin .lss l3 l0)] [] 0 .skip (.exit 0)) (.seq (.blk 1 (.seq (.ite [m v10,m v3,u (.bin .neq l1 l0),m l0,e 0 true v10,e 1 true v2,y 2 true (.bin .neq l1 l0),u (.pk l3 l0 (.b false)),m l0,y 0 true (.ld v4 2 true),y 1 true (.ld v5 4 true),e 2 true v10,y 3 true (.ca N.df 0 [] [.l 2,.l 1,.l 0]),u (.pk l4 l0 (.b false))] [] 0 (.reg [f 1 v9,g l0,m v10,u (.ca N.gW 0 [] [.l 1,.l 0]),f 1 v9,u (.st l0 l1 1 [])] []) .skip) (.reg [f 0 v8,g l0,m v10,a 2 l1 l0,f 1 l0,u (.st l0 (.b false) 1 [])] []))) (.reg [m v10,u (.bin .add l0 (.i 1)),x 10 l0] [])))
def sq:C:= .loop true [0,1,6,7,11,12] K.fV
def eI:Fn:= { bo:=4,vars:=[0,1,2,3,4,5,8,9,10,11,12,14,15],body:=(q [w 4 (.bx v0 2),w 5 (.bx v1 4),x 6 (.i 0),x 7 (.b false)] [] (.seq (.ite [m v2,m v3,u (.bin .eql l1 l0)] [] 0 (q [x 6 (.i 0),x 7 (.b true)] [] .ret) .skip) (q [h 2 v4,w 8 (.al [.nil,.nil] []),u (.st l0 l1 2 [])] [] (q [f 0 v4,g l0,u (.app (.c (.nil)) l0 true 2),f 0 v8,u (.st l0 l1 1 [])] [] (q [h 4 v5,w 9 (.al [.nil,.nil,.nil,z0] []),u (.st l0 l1 4 [])] [] (q [m v3,u (.bs [.l 0] 1),f 0 v9,u (.st l0 l1 1 [])] [] (.seq (q [x 10 (.i 0)] [] (.blk 0 K.sq)) (q [h 2 v8,h 4 v9,m v2,u (.ca N.dQ 0 [] [.l 2,.l 1,.l 0]),m l0,u (.ex l0 0),u (.ex l1 1),u (.ex l2 2),m l2,x 11 l2,x 12 l2] [] (q [m v11,m v12,x 6 l1,x 7 l1] [] .ret))))))))),res:=[(6,none),(7,none)]}
end Go.Ev.K
namespace Go.Ev
class zk [Lib]:Prop where
 iY:Lib.fs N.bC=some K.bC
 gL:Lib.fs N.cQ=some K.cQ
 m0:Lib.fs N.dB=some K.dB
 oS:Lib.fs N.eI=some K.eI
namespace K
variable [Lib] [zk]
theorem iY:Lib.fs N.bC=some K.bC:=zk.iY
theorem gL:Lib.fs N.cQ=some K.cQ:=zk.gL
theorem m0:Lib.fs N.dB=some K.dB:=zk.m0
theorem oS:Lib.fs N.eI=some K.eI:=zk.oS
end K
end Go.Ev
namespace Go.Ev
open Go
variable [Lib] [aZ] [bc] [cG] [cJ] [eC] [cL] [cM] [dG] [dE] [bI] [bM] [cA] [cB] [gw] [gz] [gg] [eu] [gH] [gY] [dR] [jf] [zk]
def nsJ(m:aK)(j:Nat):List Place:=(m.aa.take j).map (fun p=>⟨p.h,false⟩)++m.aa.drop j
theorem T6(m:aK)(j:Nat):(nsJ m j).length=m.aa.length:=by
 unfold nsJ;rw[aLv,List.length_map,List.length_take,List.length_drop];omega
theorem Nr(m:aK){j:Nat}(h:j<m.aa.length):(nsJ m j)[j]?=some (nth m.aa j)∧(nsJ m j).set j ⟨(nth m.aa j).h,false⟩=nsJ m (j+1):=by
 have e:m.aa.drop j=nth m.aa j::m.aa.drop (j+1):=by
  rw[List.drop_eq_getElem_cons h]
  congr 1
  unfold nth
  rw[aLl,aLc h];rfl
 have l:((m.aa.take j).map fun p=>(⟨p.h,false⟩:Place)).length=j:=by rw[List.length_map,List.length_take];omega
 unfold nsJ
 rw[e]
 constructor
 · rw[aLh (by omega),l,Nat.sub_self];rfl
 · rw[List.set_append_right _ _ (by omega),l,Nat.sub_self,List.set_cons_zero,uW h,List.map_append,List.append_assoc];rfl
theorem T7(m:aK):nsJ m m.aa.length=(nsM m).aa:=by
 unfold nsJ nsM;rw[List.take_length,List.drop_length,List.append_nil]
abbrev tmH(m:aK)(e:Esc)(target:Nat)(bad:List Int)(P:List Place):ae:=[.box (ab m),.box (aC e),.box [.ref 3 0 m.aa.length,.t (.sl (m.roads.map Road.e))],.arr 2 false 0 ((P.map Place.e).map .t),.box [.t (tL [(target:Int)]),.t (tL bad),.t (tL e.shut),I e.dN]]
def xc(m:aK)(e:Esc)(place target:Nat):Int×Bool:=if place=target then(0,true)else if c1E (nsM m) (jQ m e place target) place<BO then(c1E (nsM m) (jQ m e place target) place,true)else(0,false)
theorem T8(l:List Int)(x:Int)(hl:l.length≤1000000):aG 0 N.gW [.t (tL l),I x] []=some (.t (tL (Lh l x)),[]):=by
 refine ay K.qA rfl ?_
 have p:=TW l x hl
 generalize Lh l x=r at*
 simp only[tL]at*
 simp(disch:=omega)only[go_sem,K.gW,↓reduceIte,p,reduceAdd,reduceSub]
theorem Ns{m:aK}(hm:m.ok){e:Esc}(he:e.ok m){place target:Nat}(hp:place<m.aa.length)(ht:target<m.aa.length):
 aG 0 N.eI [.t m.e,.t e.e,I place,I target] []=some (.tup [I (xc m e place target).1,B (xc m e place target).2],[]):=by
 refine ay K.oS rfl ?_
 have np:=hm.np
 unfold xc
 by_cases pt:place=target
 · subst pt
   rw[if_pos rfl]
   obtain⟨aa,roads⟩:=m
   obtain⟨safe,bad,shut,dN⟩:=e
   simp only[tL]at*
   simp(disch:=omega)only[go_sem,K.eI,↓reduceIte,reduceAdd,reduceSub]
 · rw[if_neg pt]
   have ne:¬(place:Int)=(target:Int):=by omega
   have lp:∀z0 z1 z6 z7 z11 z12:D,exS aG K.sq ⟨[z0,z1,I place,I target,.bp 0 0,.bp 1 0,z6,z7,.bp 2 0,.bp 4 0,I 0,z11,z12],tmH m e target e.bad m.aa⟩=
    some (.exit 0,⟨[.und,.und,I place,I target,.bp 0 0,.bp 1 0,.und,.und,.bp 2 0,.bp 4 0,I m.aa.length,.und,.und],tmH m e target (zi m e place target m.aa.length) (nsM m).aa⟩):=by
    intro z0 z1 z6 z7 z11 z12
    rw[← T7]
    refine bV (fun j=>⟨[.und,.und,I place,I target,.bp 0 0,.bp 1 0,.und,.und,.bp 2 0,.bp 4 0,I j,.und,.und],tmH m e target (zi m e place target j) (nsJ m j)⟩) m.aa.length rfl ?_ ?_ (by simp)
    · intro j hj
      obtain⟨s1,s2⟩:=Nr m hj
      have sf:=pv hm (e:=e) (by have:=he.sl hm;omega) j hj
      have bl:(zi m e place target j).length≤64:=by have:=mJ (Fa he place target (by omega:j≤m.aa.length));omega
      have pu:=T8 (zi m e place target j) j (by omega)
      have nl:=T6 m j
      have pg:((nsJ m j).map Place.e)[j]?=some (nth m.aa j).e:=by rw[aLn,s1];rfl
      have ps:(((nsJ m j).map Place.e).map Ev.D.t).set j (.t (.agg [tI (nth (nsJ m j) j).h,.bool false]))=((nsJ m (j+1)).map Place.e).map Ev.D.t:=by rw[← s2,List.map_set,List.map_set,fw s1]
      rw[zi]
      generalize nsJ m (j+1)=P2 at*
      generalize nsJ m j=P at*
      generalize Lh (zi m e place target j) j=B2 at*
      generalize zi m e place target j=B1 at*
      generalize hs:sfF m e j=s at*
      clear hs s1 s2
      generalize nth m.aa j=x at*
      obtain⟨aa,roads⟩:=m
      obtain⟨safe,bad,shut,dN⟩:=e
      obtain⟨h,f⟩:=x
      simp only[ab,aC,tmH,tL]at*
      by_cases c1:j=target
      · subst c1
        rw[if_neg (fun h=>h.1.1 rfl)]
        simp(disch:=omega)only[go_sem,K.fV,↓reduceIte,pg,ps,decide_true,Bool.not_true,aLt,reduceAdd,reduceSub]
      · have d1:¬(j:Int)=(target:Int):=by omega
        by_cases c2:j=place
        · subst c2
          rw[if_neg (fun h=>h.1.2 rfl)]
          simp(disch:=omega)only[go_sem,K.fV,↓reduceIte,pg,ps,d1,decide_true,decide_false,Bool.not_true,Bool.not_false,aLt,reduceAdd,reduceSub]
        · have d2:¬(j:Int)=(place:Int):=by omega
          cases s with
          | true=>
            rw[if_pos ⟨⟨c1,c2⟩,rfl⟩]
            simp(disch:=omega)only[go_sem,K.fV,↓reduceIte,sf,pu,pg,ps,d1,d2,decide_true,decide_false,Bool.not_true,Bool.not_false,aLt,reduceAdd,reduceSub]
          | false=>
            rw[if_neg (fun h=>by cases h.2)]
            simp(disch:=omega)only[go_sem,K.fV,↓reduceIte,sf,pu,pg,ps,d1,d2,decide_true,decide_false,Bool.not_true,Bool.not_false,aLt,reduceAdd,reduceSub]
    · obtain⟨aa,roads⟩:=m
      simp only[ab,aC,tmH,tL]at*
      simp(disch:=omega)only[go_sem,K.fV,↓reduceIte,reduceAdd,reduceSub]
   have rb:=Nf (sj hm) (C2 he (place:=place) ht) place (by rw[fp];exact hp)
   have sn:sfF (nsM m) (jQ m e place target) place=false:=by
    unfold sfF
    rw[oR m hp]
    simp[jQ];omega
   unfold J5 at rb
   rw[sn,if_neg (by simp)]at rb
   have bq:(jQ m e place target).bad=zi m e place target m.aa.length:=rfl
   have e1:(nsM m).e= .agg [.sl ((nsM m).aa.map Place.e),.sl (m.roads.map Road.e)]:=rfl
   have e2:(jQ m e place target).e= .agg [tL [(target:Int)],tL (zi m e place target m.aa.length),tL e.shut,tI e.dN]:=rfl
   rw[e1,e2]at rb
   have nl:=fp m
   generalize (nsM m).aa=P at*
   generalize zi m e place target m.aa.length=B1 at*
   by_cases hf:c1E (nsM m) (jQ m e place target) place<BO
   · rw[if_pos hf]at rb ⊢
     have sc:([Ev.D.t (tL (Lf (w1E (nsM m) (jQ m e place target) place))),I (c1E (nsM m) (jQ m e place target) place),B true].all eW)=false:=rfl
     generalize c1E (nsM m) (jQ m e place target) place=t at*
     generalize Lf (w1E (nsM m) (jQ m e place target) place)=R at*
     clear sn e1 e2 bq hf
     obtain⟨aa,roads⟩:=m
     obtain⟨safe,bad,shut,dN⟩:=e
     simp only[ab,aC,tmH,tL,List.map_cons,List.map_nil]at*
     simp(disch:=omega)only[go_sem,K.eI,↓reduceIte,ne,lp,rb,sc,reduceAdd,reduceSub]
   · rw[if_neg hf]at rb ⊢
     have sc:([Ev.D.t (tL []),I 0,B false].all eW)=false:=rfl
     clear sn e1 e2 bq hf
     obtain⟨aa,roads⟩:=m
     obtain⟨safe,bad,shut,dN⟩:=e
     simp only[ab,aC,tmH,tL,List.map_cons,List.map_nil]at*
     simp(disch:=omega)only[go_sem,K.eI,↓reduceIte,ne,lp,rb,sc,reduceAdd,reduceSub]
theorem uw{m:aK}(hm:m.ok)(l:List Rfg)(hl:l.length≤1000000):aG 0 N.dB [.t m.e,.t (.sl (l.map Rfg.e))] []=some (B (wP m l),[]):=by
 refine ay K.m0 rfl ?_
 have np:=hm.np
 have lp:∀z0 z3:D,exS aG K.p8 ⟨[z0,.t (.sl (l.map Rfg.e)),.bp 0 0,z3,I 0],[.box (ab m)]⟩=some (match (List.range l.length).find? (fun j=>Bb m (nth l j))with
  | some j=>(.ret,⟨[.und,.t (.sl (l.map Rfg.e)),.bp 0 0,B false,I j],[.box (ab m)]⟩)
  | none=>(.exit 0,⟨[.und,.t (.sl (l.map Rfg.e)),.bp 0 0,.und,I l.length],[.box (ab m)]⟩)):=by
  intro z0 z3
  refine dO (fun j=>⟨[.und,.t (.sl (l.map Rfg.e)),.bp 0 0,.und,I j],[.box (ab m)]⟩) l.length _ (fun j=>(.ret,⟨[.und,.t (.sl (l.map Rfg.e)),.bp 0 0,B false,I j],[.box (ab m)]⟩)) _ rfl ?_ ?_ ?_ (by simp)
  · intro j hj hp
    have lg:=bz Rfg.e hj
    generalize nth l j=r at*
    obtain⟨pl,st⟩:=r
    unfold Bb at hp
    simp only[Bool.or_eq_false_iff,Bool.not_eq_false',decide_eq_true_eq]at hp
    have c1:¬pl<0:=by omega
    have c2:¬pl≥(m.aa.length:Int):=by omega
    have c3:¬st<0:=by omega
    have c4:¬st>100:=by omega
    obtain⟨aa,roads⟩:=m
    simp only[ab]at*
    clear hp
    simp(disch:=omega)only[go_sem,K.ef,↓reduceIte,lg,c1,c2,c3,c4,decide_false,reduceAdd,reduceSub]
  · intro j hj hp
    have lg:=bz Rfg.e hj
    generalize nth l j=r at*
    obtain⟨pl,st⟩:=r
    unfold Bb at hp
    simp only[Bool.or_eq_true,Bool.not_eq_true',decide_eq_false_iff_not]at hp
    refine⟨?_,by simp⟩
    obtain⟨aa,roads⟩:=m
    simp only[ab]at*
    by_cases c1:pl<0
    · simp(disch:=omega)only[go_sem,K.ef,↓reduceIte,lg,c1,decide_true,reduceAdd,reduceSub]
    · by_cases c2:pl≥(aa.length:Int)
      · simp(disch:=omega)only[go_sem,K.ef,↓reduceIte,lg,c1,c2,decide_true,decide_false,reduceAdd,reduceSub]
      · by_cases c3:st<0
        · simp(disch:=omega)only[go_sem,K.ef,↓reduceIte,lg,c1,c2,c3,decide_true,decide_false,reduceAdd,reduceSub]
        · have c4:st>100:=by omega
          simp(disch:=omega)only[go_sem,K.ef,↓reduceIte,lg,c1,c2,c3,c4,decide_true,decide_false,reduceAdd,reduceSub]
  · obtain⟨aa,roads⟩:=m
    simp only[ab]at*
    simp(disch:=omega)only[go_sem,K.ef,↓reduceIte,reduceAdd,reduceSub]
 have ck:=yO hm
 have an:l.any (Bb m)=((List.range l.length).find? (fun j=>Bb m (nth l j))).isSome:=(Ep (l:=l) (p:=Bb m)).symm
 unfold wP
 rw[an]
 generalize (List.range l.length).find? (fun j=>Bb m (nth l j))=r at*
 clear an
 obtain⟨aa,roads⟩:=m
 simp only[ab]at*
 cases r with
 | some j=>
   simp only[Option.isSome_some,Bool.not_true,Bool.and_false]at*
   simp(disch:=omega)only[go_sem,K.dB,↓reduceIte,lp,reduceAdd,reduceSub]
 | none=>
   simp only[Option.isSome_none,Bool.not_false,Bool.and_true]at*
   simp(disch:=omega)only[go_sem,K.dB,↓reduceIte,lp,ck,decide_true,reduceAdd,reduceSub]
def okP(m:aK)(e:Esc)(q:Nat)(p:Int):Bool:=(xc m e p.toNat q).2&&decide ((xc m e p.toNat q).1+zF m p.toNat≤e.dN)
theorem aaM{m:aK}(hm:m.ok){e:Esc}(he:e.ok m){q:Nat}(hq:q<m.aa.length){d:List Int}(h:uG m e q d)(f:Np m e q d){p:Nat}(hp:p<m.aa.length):okP m e q p= !Ho m e d p:=by
 have np:=hm.np
 have lb:=tA hm p m.roads.length (aLs _)
 rw[show zE m p m.roads.length=zF m p from rfl]at lb
 have l1:=he.l1
 have d0:=h.lo p
 have dh:=h.hi p
 unfold okP Ho xc
 rw[Int.toNat_natCast]
 by_cases c:p=q
 · subst c
   rw[if_pos rfl,h.zero]
   simp only[Bool.true_and]
   by_cases g:(0:Int)+zF m p≤e.dN
   · rw[decide_eq_true g,decide_eq_false (by omega)];rfl
   · rw[decide_eq_false g,decide_eq_true (by omega)];rfl
 · rw[if_neg c]
   obtain⟨t1,t2⟩:=Nq hm hq h f (place:=p) c hp
   obtain⟨e1,e2⟩:=r6 (sj hm) (C2 he (place:=p) hq) p (by rw[fp];exact hp) (fun k=>by
    have:=k.1
    unfold sfF at this
    rw[oR m hp]at this
    simp[jQ]at this
    omega)
   have ec:c1E (nsM m) (jQ m e p q) p=(nth (iZ (ic (nsM m) (jQ m e p q)) (sfL (nsM m) (jQ m e p q)) (bdL (nsM m) (jQ m e p q)) (nsM m).aa.length) p).t:=rfl
   rw[← ec]at e1 e2
   have nf:(1099511627776:Int)=nvr:=rfl
   rw[nf]at t1
   by_cases g:c1E (nsM m) (jQ m e p q) p<BO
   · have k1:=t1.2 (e1.1 g)
     have k2:=t2 k1
     have k3:=congrArg Lab.t (e2 g)
     rw[← ec]at k3
     rw[if_pos g,k3,←k2]
     simp only[Bool.true_and]
     by_cases x:nth d p+zF m p≤e.dN
     · rw[decide_eq_true x,decide_eq_false (by omega)];rfl
     · rw[decide_eq_false x,decide_eq_true (by omega)];rfl
   · rw[if_neg g]
     have k1:¬nth d p<1152921504606846976:=fun k=>g (e1.2 (t1.1 k))
     simp only[Bool.false_and]
     rw[decide_eq_true (by omega)];rfl
theorem aaN{m:aK}(hm:m.ok){p:Nat}(hp:p<m.aa.length):0≤zF m p∧zF m p≤1000000:=by
 have lb:=tA hm p m.roads.length (aLs _)
 rw[show zE m p m.roads.length=zF m p from rfl]at lb
 omega
theorem T9{m:aK}(hm:m.ok){e:Esc}(he:e.ok m){p q:Nat}(hp:p<m.aa.length)(hq:q<m.aa.length):0≤(xc m e p q).1∧(xc m e p q).1≤1099511627776:=by
 unfold xc
 split
 · simp
 · rename_i c
   split
   · rename_i g
     obtain⟨e1,e2⟩:=r6 (sj hm) (C2 he (place:=p) hq) p (by rw[fp];exact hp) (fun k=>by
      have:=k.1
      unfold sfF at this
      rw[oR m hp]at this
      simp[jQ]at this
      omega)
     have k3:=congrArg Lab.t (e2 g)
     have lz:=uu (sj hm) (e:=jQ m e p q)
     have l0:=lz.t0 p (by rw[fp];exact hp)
     have l1:=lz.t1 p (by rw[fp];exact hp)
     have nf:(1099511627776:Int)=nvr:=rfl
     unfold c1E
     rw[k3]
     omega
   · simp
theorem Gy{m:aK}(hm:m.ok){e:Esc}(he:e.ok m){l:List Rfg}(hl:wP m l=true){aa:List Int}(hp:ud aa m.aa.length=true){i:Nat}(hi:i<l.length)(out:D)(o:List Int)(ho:out= .ref 2 0 o.length):
 ∀z0 z1 z6 z7 z12 z13:D,exS aG K.lI ⟨[z0,z1,.t (.sl (l.map Rfg.e)),.t (tL aa),.bp 0 0,.bp 1 0,z6,z7,out,I i,B true,I 0,z12,z13],[.box (ab m),.box (aC e),.arr 1 false 0 (ints o)]⟩=
  some (.exit 2,⟨[.und,.und,.t (.sl (l.map Rfg.e)),.t (tL aa),.bp 0 0,.bp 1 0,.und,.und,out,I i,B (aa.all (okP m e (nth l i).pl.toNat)),I aa.length,.und,.und],[.box (ab m),.box (aC e),.arr 1 false 0 (ints o)]⟩):=by
 intro z0 z1 z6 z7 z12 z13
 subst ho
 have np:=hm.np
 have pl:=mJ hp
 have hv:=Bool.and_eq_true_iff.1 hl
 have l16:=of_decide_eq_true hv.1
 have pk:0≤(nth l i).pl∧(nth l i).pl≤(m.aa.length:Int)-1:=by
  have h2:=hv.2
  rw[Bool.not_eq_true',List.any_eq_false]at h2
  have:=h2 _ (aI hi)
  unfold Bb at this
  simp only[Bool.or_eq_true,Bool.not_eq_true',decide_eq_false_iff_not,not_or,Decidable.not_not]at this
  exact this.1
 obtain⟨q,hq⟩:=Int.eq_ofNat_of_zero_le pk.1
 have rg:=bz Rfg.e hi
 rw[hq,Int.toNat_natCast]
 have e0:(nth l i).e= .agg [tI q,tI (nth l i).seats]:=by rw[← hq]
 rw[e0]at rg
 have key:exS aG K.lI ⟨[z0,z1,.t (.sl (l.map Rfg.e)),.t (tL aa),.bp 0 0,.bp 1 0,z6,z7,.ref 2 0 o.length,I i,B true,I 0,z12,z13],[.box (ab m),.box (aC e),.arr 1 false 0 (ints o)]⟩=
  some (.exit 2,⟨[.und,.und,.t (.sl (l.map Rfg.e)),.t (tL aa),.bp 0 0,.bp 1 0,.und,.und,.ref 2 0 o.length,I i,B ((aa.take aa.length).all (okP m e q)),I aa.length,.und,.und],[.box (ab m),.box (aC e),.arr 1 false 0 (ints o)]⟩):=by
  refine bV (fun j=>⟨[.und,.und,.t (.sl (l.map Rfg.e)),.t (tL aa),.bp 0 0,.bp 1 0,.und,.und,.ref 2 0 o.length,I i,B ((aa.take j).all (okP m e q)),I j,.und,.und],[.box (ab m),.box (aC e),.arr 1 false 0 (ints o)]⟩) aa.length rfl ?_ ?_ (by simp)
  · intro j hj
    have pb:=wA hp _ (aI hj)
    have xg:=bz (l:=aa) (Ev.T.int .i64) hj
    obtain⟨p,hpp⟩:=Int.eq_ofNat_of_zero_le pb.1
    rw[hpp]at xg pb
    have tm:=Ns hm he (place:=p) (target:=q) (by omega) (by omega)
    have tb:=T9 hm he (p:=p) (q:=q) (by omega) (by omega)
    have lg:=TY hm p (by omega)
    have lb:=aaN hm (p:=p) (by omega)
    have st:(aa.take (j+1)).all (okP m e q)=((aa.take j).all (okP m e q)&&okP m e q p):=by
     rw[uW hj,List.all_append,hpp];simp
    rw[st]
    generalize (aa.take j).all (okP m e q)=a at*
    unfold okP
    rw[Int.toNat_natCast]
    generalize xc m e p q=t at*
    obtain⟨t,ok⟩:=t
    generalize zF m p=g at*
    simp only at tm tb ⊢
    have wk:IntKind.i64.wrap (t+g)=t+g:=bU (by omega) (by omega)
    clear st hl hv hp he hm
    obtain⟨plcs,roads⟩:=m
    obtain⟨safe,bad,shut,lim⟩:=e
    simp only[ab,aC,tL]at*
    cases a
    · simp(disch:=omega)only[go_sem,K.fq,↓reduceIte,xg,rg,tm,decide_true,Bool.false_and,reduceAdd,reduceSub]
    · cases ok
      · simp(disch:=omega)only[go_sem,K.fq,↓reduceIte,xg,rg,tm,decide_true,Bool.false_and,Bool.true_and,reduceAdd,reduceSub]
      · by_cases c:t+g≤lim
        · simp(disch:=omega)only[go_sem,K.fq,↓reduceIte,xg,rg,tm,lg,wk,c,decide_true,Bool.true_and,reduceAdd,reduceSub]
        · simp(disch:=omega)only[go_sem,K.fq,↓reduceIte,xg,rg,tm,lg,wk,c,decide_false,Bool.true_and,reduceAdd,reduceSub]
  · rw[List.take_length]
    clear hl hv hp he hm
    obtain⟨plcs,roads⟩:=m
    simp only[ab,aC,tL]at*
    simp(disch:=omega)only[go_sem,K.fq,↓reduceIte,reduceAdd,reduceSub]
 rw[List.take_length]at key
 exact key
theorem Fb{m:aK}(hm:m.ok){e:Esc}(he:e.ok m)(l:List Rfg)(hl:l.length≤100)(aa:List Int)(hp:aa.length≤1000):
 ∃(r:List Int) (c:Int),r.length≤1000∧aG 0 N.bW [.t m.e,.t e.e,.t (.sl (l.map Rfg.e)),.t (tL aa)] []=some (.tup [.t (tL r),I c],[])∧
  aG 0 N.cQ [.t m.e,.t e.e,.t (.sl (l.map Rfg.e)),.t (tL aa)] []=some (.tup [.t (tL r),I c],[]):=by
 have np:=hm.np
 have nr:=hm.nr
 have wv:=uq hm he
 have rv:=mZ hm l (by omega)
 have rv2:=uw hm l (by omega)
 have ev:=EY hm he
 have wk:IntKind.i64.wrap ((m.aa.length:Int)-1)=(m.aa.length:Int)-1:=bU (by omega) (by omega)
 cases hb:wP m l with
 | false=>
   rw[hb]at rv rv2
   refine⟨[],6,by simp,ay K.fS rfl ?_,ay K.gL rfl ?_⟩
   · clear he hm
     obtain⟨plcs,roads⟩:=m
     obtain⟨safe,bad,shut,lim⟩:=e
     have sc:([Ev.D.t (.sl []),I 6].all eW)=false:=rfl
     simp only[ab,aC,tL,List.map_nil]at*
     simp(disch:=omega)only[go_sem,K.bW,↓reduceIte,wv,rv,sc,Bool.not_true,Bool.not_false,reduceAdd,reduceSub]
   · clear he hm
     obtain⟨plcs,roads⟩:=m
     obtain⟨safe,bad,shut,lim⟩:=e
     simp only[ab,aC,tL,List.map_nil]at*
     simp(disch:=omega)only[go_sem,K.cQ,↓reduceIte,ev,rv2,Bool.not_true,Bool.not_false,reduceAdd,reduceSub]
 | true=>
   rw[hb]at rv rv2
   have so:=Ea aa m.aa.length (by omega)
   have ri:=om aa 0 (m.aa.length-1) (by omega)
   rw[tf]at ri
   by_cases c0:aa=[]
   · subst c0
     refine⟨[],3,by simp,ay K.fS rfl ?_,ay K.gL rfl ?_⟩
     · clear he hm
       obtain⟨plcs,roads⟩:=m
       obtain⟨safe,bad,shut,lim⟩:=e
       simp only[ab,aC,tL,List.map_nil]at*
       simp(disch:=omega)only[go_sem,K.bW,↓reduceIte,wv,rv,wk,Bool.not_true,Bool.not_false,reduceAdd,reduceSub]
     · clear he hm
       obtain⟨plcs,roads⟩:=m
       obtain⟨safe,bad,shut,lim⟩:=e
       simp only[ab,aC,tL,List.map_nil]at*
       simp(disch:=omega)only[go_sem,K.cQ,↓reduceIte,ev,rv2,Bool.not_true,Bool.not_false,reduceAdd,reduceSub]
   · have l0:=List.length_pos_iff.2 c0
     have n0:¬(aa.length:Int)=0:=by omega
     cases hs:ud aa m.aa.length with
     | false=>
       rw[hs]at so ri
       refine⟨[],3,by simp,ay K.fS rfl ?_,ay K.gL rfl ?_⟩
       · clear he hm
         obtain⟨plcs,roads⟩:=m
         obtain⟨safe,bad,shut,lim⟩:=e
         simp only[ab,aC,tL,List.map_nil]at*
         simp(disch:=omega)only[go_sem,K.bW,↓reduceIte,wv,rv,wk,ri,n0,Bool.not_true,Bool.not_false,decide_false,reduceAdd,reduceSub]
       · clear he hm
         obtain⟨plcs,roads⟩:=m
         obtain⟨safe,bad,shut,lim⟩:=e
         simp only[ab,aC,tL,List.map_nil]at*
         simp(disch:=omega)only[go_sem,K.cQ,↓reduceIte,ev,rv2,so,n0,Bool.not_true,Bool.not_false,decide_false,reduceAdd,reduceSub]
     | true=>
       rw[hs]at so
       obtain⟨D,hD,rc⟩:=Gx hm he hb hs l0
       have wl:(eM l.length fun k=> !(aa.any (Ho m e (D k))))=eM l.length fun k=>aa.all (okP m e (nth l k).pl.toNat):=by
        refine AU fun k hk=>?_
        obtain⟨i1,i2⟩:=hD k hk
        have pk:0≤(nth l k).pl∧(nth l k).pl≤(m.aa.length:Int)-1:=by
         have h2:=(Bool.and_eq_true_iff.1 hb).2
         rw[Bool.not_eq_true',List.any_eq_false]at h2
         have:=h2 _ (aI hk)
         unfold Bb at this
         simp only[Bool.or_eq_true,Bool.not_eq_true',decide_eq_false_iff_not,not_or,Decidable.not_not]at this
         exact this.1
        rw[Bool.eq_iff_iff,Bool.not_eq_true',List.any_eq_false,aLx]
        refine forall_congr' fun p=>forall_congr' fun hpm=>?_
        have b:=wA hs p hpm
        obtain⟨x,rfl⟩:=Int.eq_ofNat_of_zero_le b.1
        rw[aaM hm he (by omega) i1 i2 (p:=x) (by omega)]
        simp
       rw[wl]at rc
       have wle:∀n,(eM n fun k=>aa.all (okP m e (nth l k).pl.toNat)).length≤n:=fun n=>xU n _
       refine⟨_,0,by have:=wle l.length;omega,rc,ay K.gL rfl ?_⟩
       have lp:∀z0 z1 z6 z7 z10 z11 z12 z13:Ev.D,exS aG K.p7 ⟨[z0,z1,.t (.sl (l.map Rfg.e)),.t (tL aa),.bp 0 0,.bp 1 0,z6,z7,.ref 2 0 0,I 0,z10,z11,z12,z13],[.box (ab m),.box (aC e),.arr 1 false 0 []]⟩=
        some (.exit 0,⟨[.und,.und,.t (.sl (l.map Rfg.e)),.t (tL aa),.bp 0 0,.bp 1 0,.und,.und,.ref 2 0 (eM l.length fun k=>aa.all (okP m e (nth l k).pl.toNat)).length,I l.length,.und,.und,.und,.und],[.box (ab m),.box (aC e),.arr 1 false 0 (ints (eM l.length fun k=>aa.all (okP m e (nth l k).pl.toNat)))]⟩):=by
        intro z0 z1 z6 z7 z10 z11 z12 z13
        refine bV (fun i=>⟨[.und,.und,.t (.sl (l.map Rfg.e)),.t (tL aa),.bp 0 0,.bp 1 0,.und,.und,.ref 2 0 (eM i fun k=>aa.all (okP m e (nth l k).pl.toNat)).length,I i,.und,.und,.und,.und],[.box (ab m),.box (aC e),.arr 1 false 0 (ints (eM i fun k=>aa.all (okP m e (nth l k).pl.toNat)))]⟩) l.length rfl ?_ ?_ (by simp)
        · intro i hi
          have wi:=wle i
          have l2:=Gy hm he hb hs hi _ (eM i fun k=>aa.all (okP m e (nth l k).pl.toNat)) rfl
          rw[qp]
          generalize (eM i fun k=>aa.all (okP m e (nth l k).pl.toNat))=o at*
          generalize aa.all (okP m e (nth l i).pl.toNat)=a at*
          clear wl wle hb hs rc hD he hm
          obtain⟨plcs,roads⟩:=m
          simp only[ab,aC,tL,ints]at*
          cases a with
          | true=>
            rw[if_pos rfl,aLv,List.length_singleton]
            simp(disch:=omega)only[go_sem,K.iX,↓reduceIte,l2,reduceAdd,reduceSub]
          | false=>
            rw[if_neg (by simp)]
            simp(disch:=omega)only[go_sem,K.iX,↓reduceIte,l2,reduceAdd,reduceSub]
        · generalize (eM l.length fun k=>aa.all (okP m e (nth l k).pl.toNat))=o at*
          clear wl wle hb hs rc hD he hm
          obtain⟨plcs,roads⟩:=m
          simp only[ab,aC,tL,ints]at*
          simp(disch:=omega)only[go_sem,K.iX,↓reduceIte,reduceAdd,reduceSub]
       generalize (eM l.length fun k=>aa.all (okP m e (nth l k).pl.toNat))=o at*
       clear wl wle hb hs rc hD he hm
       obtain⟨plcs,roads⟩:=m
       obtain⟨safe,bad,shut,lim⟩:=e
       simp only[ab,aC,tL,ints]at*
       simp(disch:=omega)only[go_sem,K.cQ,↓reduceIte,ev,rv2,so,n0,lp,Bool.not_true,decide_false,reduceAdd,reduceSub]
end Go.Ev
namespace Go.Ev
open Go
variable [Lib] [aZ] [bc] [cG] [cJ] [eC] [cL] [cM] [dG] [dE] [bI] [bM] [cA] [cB] [gY] [dR] [jf]
theorem pz(j:Nat)(h:j<1000000):IntKind.u64.wrap (j:Int)=j:=by
 simp only[IntKind.wrap,IntKind.bits,IntKind.signed];simp;omega
theorem C3(s i:Nat)(hi:i≤64)(H:ae):fI H .shr (some (I s)) (some (.t (.int .u64 i)))=some (I ((s / 2 ^ i:Nat):Int),H):=by
 have h:fI H .shr (some (.t (.int .i64 s))) (some (.t (.int .u64 (i:Int))))=some (.t (.int .i64 ((s:Int).fdiv (2 ^ min (i:Int).toNat IntKind.i64.bits))),H):=Ib _ _ _ _ _ (by omega)
 have e:min (i:Int).toNat IntKind.i64.bits=i:=by
  have:IntKind.i64.bits=64:=rfl
  rw[this];omega
 rw[e]at h
 rw[show((s:Int).fdiv (2 ^ i))=((s / 2 ^ i:Nat):Int)by rw[Int.fdiv_eq_ediv_of_nonneg _ (Int.pow_nonneg (by omega)),Int.natCast_ediv,Int.natCast_pow];rfl]at h
 exact h
theorem C4(x:Nat)(hx:x<2 ^ 62)(H:ae):fI H .and (some (I x)) (some (I 1))=some (I ((x % 2:Nat):Int),H):=by
 rw[Ic]
 congr 4
 have e:(BitVec.ofInt IntKind.i64.bits (x:Int) &&& BitVec.ofInt IntKind.i64.bits 1).toNat=x % 2:=by
  show(BitVec.ofInt 64 (x:Int) &&& BitVec.ofInt 64 1).toNat=x % 2
  rw[BitVec.toNat_and,BitVec.ofInt_natCast,BitVec.toNat_ofNat,Nat.mod_eq_of_lt (by omega),show(BitVec.ofInt 64 1).toNat=1 from rfl,Nat.and_one_is_mod]
 rw[e]
 exact bU (by omega) (by omega)
theorem C5(n:Nat)(hn:n≤12)(H:ae):fI H .shl (some (I 1)) (some (.t (.int .u64 n)))=some (I ((2 ^ n:Nat):Int),H):=by
 have h:fI H .shl (some (.t (.int .i64 1))) (some (.t (.int .u64 (n:Int))))=some (.t (.int .i64 (IntKind.i64.wrap (1*2 ^ min (n:Int).toNat IntKind.i64.bits))),H):=Ia _ _ _ _ _ (by omega)
 have e:min (n:Int).toNat IntKind.i64.bits=n:=by
  have:IntKind.i64.bits=64:=rfl
  rw[this];omega
 rw[e,Int.one_mul]at h
 have l:2 ^ n≤2 ^ 12:=Nat.pow_le_pow_right (by omega) hn
 have c:((2:Int) ^ n)=((2 ^ n:Nat):Int):=by rw[Int.natCast_pow];rfl
 rw[c]at h
 clear c e
 generalize 2 ^ n=x at*
 have wk:IntKind.i64.wrap (x:Int)=x:=bU (by omega) (by omega)
 rw[wk]at h
 exact h
theorem tB(j s:Nat):aR (j+1) s=aR j s++(if zD s j=true then [j]else []):=by
 unfold aR
 rw[List.range_succ,List.filter_append]
 congr 1
 by_cases c:zD s j=true
 · rw[if_pos c,List.filter_cons_of_pos c];rfl
 · rw[if_neg c,List.filter_cons_of_neg c];rfl
theorem C6(s i:Nat):(s / 2 ^ i % 2:Nat)=if zD s i=true then 1 else 0:=by
 unfold zD
 by_cases c:s / 2 ^ i % 2=1
 · rw[if_pos (by simpa using c),c]
 · rw[if_neg (by simpa using c)];omega
theorem Fc{W:List (List Int)}(hW:W.length≤12){s:Nat}(hs:s<1000000):aG 0 N.fg [.t (.sl (W.map tL)),I s] []=some (.t (.sl ((bO W (aR W.length s)).map tL)),[]):=by
 refine ay K.oP rfl ?_
 have lp:∀z2:D,exS aG K.r7 ⟨[.t (.sl (W.map tL)),I s,z2,.ref 0 0 0,I 0],[.arr 1 false 0 []]⟩=
  some (.exit 0,⟨[.t (.sl (W.map tL)),I s,.und,.ref 0 0 (aR W.length s).length,I W.length],[.arr 1 false 0 (((bO W (aR W.length s)).map tL).map .t)]⟩):=by
  intro z2
  refine bV (fun j=>⟨[.t (.sl (W.map tL)),I s,.und,.ref 0 0 (aR j s).length,I j],[.arr 1 false 0 (((bO W (aR j s)).map tL).map .t)]⟩) W.length rfl ?_ ?_ (by simp)
  · intro j hj
    have wg:=bz (l:=W) tL hj
    have wu:=pz j (by omega)
    have sh:=C3 s j (by omega)
    have dl:s / 2 ^ j<2 ^ 62:=by have:=Nat.div_le_self s (2 ^ j);omega
    have an:=C4 (s / 2 ^ j) dl
    rw[C6]at an
    have ml:(bO W (aR j s)).length=(aR j s).length:=List.length_map _
    have ll:(aR j s).length≤j:=by
     have:=List.length_filter_le (zD s) (List.range j)
     rw[List.length_range]at this;exact this
    rw[tB]
    by_cases c:zD s j=true
    · rw[if_pos c]at an ⊢
      simp only[bO,List.map_append,List.map_cons,List.map_nil,aLv,List.length_singleton]at ml ⊢
      generalize (aR j s).map (fun i=>nth W i)=R at*
      generalize (aR j s).length=rl at*
      subst ml
      generalize s / 2 ^ j=q at*
      generalize nth W j=x at*
      simp(disch:=omega)only[go_sem,K.jj,↓reduceIte,wu,sh,an,wg,reduceAdd,reduceSub]
    · rw[if_neg c]at an ⊢
      rw[List.append_nil]
      generalize bO W (aR j s)=R at*
      generalize (aR j s).length=rl at*
      subst ml
      generalize s / 2 ^ j=q at*
      simp(disch:=omega)only[go_sem,K.jj,↓reduceIte,wu,sh,an,wg,reduceAdd,reduceSub]
  · simp(disch:=omega)only[go_sem,K.jj,↓reduceIte,reduceAdd,reduceSub]
 have ml:(bO W (aR W.length s)).length=(aR W.length s).length:=List.length_map _
 generalize bO W (aR W.length s)=R at*
 generalize (aR W.length s).length=rl at*
 subst ml
 simp(disch:=omega)only[go_sem,K.fg,↓reduceIte,lp,reduceAdd,reduceSub]
theorem C7(s:Int):0≤M3 s∧M3 s≤12:=by unfold M3;omega
theorem sr(S:List Int):∀got:List Int,0≤fo S got∧fo S got≤12*got.length
 | []=>by simp[fo]
 | x::r=>by
   have:=sr S r
   have:=C7 (nth S x.toNat)
   simp only[fo,List.map_cons,List.sum_cons,List.length_cons]at*
   omega
theorem Bd(S got:List Int)(x:Int):fo S (got++[x])=fo S got+M3 (nth S x.toNat):=by
 simp[fo]
theorem C8{S got:List Int}(h:got.Nodup)(hm:∀x∈got,0≤x∧x<S.length):got.length≤S.length:=by
 have:=dI (b:=(List.range S.length).map fun(i:Nat)=>(i:Int)) h fun x hx=>by
  obtain⟨a,b⟩:=hm x hx
  exact List.mem_map.2 ⟨x.toNat,aLu.2 (by omega),by omega⟩
 simpa using this
structure ku(S got:List Int):Prop where
 nd:got.Nodup
 mem:∀x∈got,0≤x∧x<S.length
theorem ku.step{S got:List Int}(h:ku S got)(x:Int):ku S (JH S got x):=
 ⟨JI h.nd,fun y hy=>by rcases EJ.1 hy with a | ⟨rfl,a⟩;exact h.mem y a;exact a⟩
theorem ku.list{S:List Int}:∀ {l got:List Int},ku S got→ku S (lM S got l)
 | [],_,h=>h
 | x::l,got,h=>ku.list (l:=l) (h.step x)
theorem ku.lists{S:List Int}:∀ {L:List (List Int)} {got:List Int},ku S got→ku S (jJ S got L)
 | [],_,h=>h
 | x::l,got,h=>ku.lists (L:=l) h.list
theorem ku.nil(S:List Int):ku S []:=⟨by simp,by simp⟩
theorem Be{S got l:List Int}{k:Nat}(h:k<l.length):lM S got (l.take (k+1))=JH S (lM S got (l.take k)) (nth l k):=by
 rw[uW h];simp[lM]
theorem Kk{W:List (List Int)}{i:Nat}(h:i<W.length):W.take (i+1)=W.take i++[nth W i]:=by
 rw[List.take_succ_eq_append_getElem h]
 congr 2
 unfold nth
 rw[aLl,aLc h];rfl
theorem Kl{S got:List Int}{L:List (List Int)}{k:Nat}(h:k<L.length):jJ S got (L.take (k+1))=lM S (jJ S got (L.take k)) (nth L k):=by
 rw[Kk h];simp[jJ]
theorem uH{L:List (List Int)}{S:List Int}(hS:S.length≤1000)(hL:L.length≤12)(hl:∀i,(nth L i).length≤1000000){g0:List Int}(ok:ku S g0){i:Nat}(hi:i<L.length)(Wt:List Ev.T)(w:D)(BM set:Int):
 ∀z1:D,exS aG K.mP ⟨[.t (.sl Wt),.t (tL S),w,I BM,I set,.t (.sl (L.map tL)),I (fo S g0),.ref 0 0 g0.length,I i,I 0,z1],[.arr 1 false 0 (ints g0)]⟩=some (.exit 4,⟨[.t (.sl Wt),.t (tL S),.und,I BM,I set,.t (.sl (L.map tL)),I (fo S (lM S g0 (nth L i))),.ref 0 0 (lM S g0 (nth L i)).length,I i,I (nth L i).length,.und],[.arr 1 false 0 (ints (lM S g0 (nth L i)))]⟩):=by
 have li:=hl i
 have wg:=bz (l:=L) tL hi
 have hi2:i<12:=by omega
 generalize nth L i=l at*
 have lp:∀z2 z10:D,exS aG K.mP ⟨[.t (.sl Wt),.t (tL S),z2,I BM,I set,.t (.sl (L.map tL)),I (fo S g0),.ref 0 0 g0.length,I i,I 0,z10],[.arr 1 false 0 (ints g0)]⟩=
  some (.exit 4,⟨[.t (.sl Wt),.t (tL S),.und,I BM,I set,.t (.sl (L.map tL)),I (fo S (lM S g0 l)),.ref 0 0 (lM S g0 l).length,I i,I l.length,.und],[.arr 1 false 0 (ints (lM S g0 l))]⟩):=by
  intro z2 z10
  refine bV (fun k=>⟨[.t (.sl Wt),.t (tL S),.und,I BM,I set,.t (.sl (L.map tL)),I (fo S (lM S g0 (l.take k))),.ref 0 0 (lM S g0 (l.take k)).length,I i,I k,.und],[.arr 1 false 0 (ints (lM S g0 (l.take k)))]⟩) l.length rfl ?_ ?_ (by simp)
  · intro k hk
    have xg:=bz (l:=l) (Ev.T.int .i64) hk
    have ok2:ku S (lM S g0 (l.take k)):=ok.list
    have gl:=C8 ok2.nd ok2.mem
    have rb:=sr S (lM S g0 (l.take k))
    have hh:=oe (lM S g0 (l.take k)) (nth l k) (by omega)
    rw[Be hk]
    generalize lM S g0 (l.take k)=got at*
    generalize nth l k=x at*
    clear ok ok2
    simp only[ints,tL]at*
    unfold JH
    by_cases c0:0≤x
    · obtain⟨n,rfl⟩:=Int.eq_ofNat_of_zero_le c0
      by_cases c1:(n:Int)<S.length
      · by_cases c2:(n:Int)∈got
        · rw[if_neg (fun h=>h.2.2 c2)]
          rw[decide_eq_true c2]at hh
          simp(disch:=omega)only[go_sem,K.fR,↓reduceIte,wg,xg,c1,hh,Bool.not_true,aLt,reduceAdd,reduceSub]
        · rw[if_pos ⟨c0,c1,c2⟩,Bd]
          rw[decide_eq_false c2]at hh
          have sg:=bz (l:=S) (Ev.T.int .i64) (j:=n) (by omega)
          have cb:=C7 (nth S (n:Int).toNat)
          unfold M3 at*
          rw[Int.toNat_natCast]at*
          have wk:IntKind.i64.wrap (fo S got+max 0 (min (nth S n) 12))=fo S got+max 0 (min (nth S n) 12):=bU (by omega) (by omega)
          generalize nth S n=s at*
          generalize fo S got=r at*
          simp(disch:=omega)only[go_sem,K.fR,↓reduceIte,wg,xg,c1,hh,sg,wk,Bool.not_false,aLt,reduceAdd,reduceSub]
      · rw[if_neg (fun h=>c1 h.2.1)]
        simp(disch:=omega)only[go_sem,K.fR,↓reduceIte,wg,xg,c1,aLt,decide_false,reduceAdd,reduceSub]
    · rw[if_neg (fun h=>c0 h.1)]
      simp(disch:=omega)only[go_sem,K.fR,↓reduceIte,wg,xg,c0,aLt,decide_false,reduceAdd,reduceSub]
  · rw[List.take_length]
    simp(disch:=omega)only[go_sem,K.fR,↓reduceIte,wg,reduceAdd,reduceSub]
 intro z1
 exact lp w z1
theorem kK(n s:Nat):(aR n s).length≤n:=by
 have:=List.length_filter_le (zD s) (List.range n)
 rw[List.length_range]at this;exact this
theorem vk{W:List (List Int)}{b:Nat}(hl:∀i,(nth W i).length≤b)(X:List Nat)(i:Nat):(nth (bO W X) i).length≤b:=by
 by_cases c:i<(bO W X).length
 · have:=aI (l:=bO W X) c
   obtain⟨k, -,e⟩:=List.mem_map.1 this
   rw[← e];exact hl k
 · rw[y8 c];exact Nat.zero_le _
theorem Nt{W:List (List Int)}{S:List Int}(hW:W.length≤12)(hS:S.length≤1000)(hl:∀i,(nth W i).length≤1000000):aG 0 N.fQ [.t (.sl (W.map tL)),.t (tL S)] []=some (I (kB W S),[]):=by
 refine ay K.oF rfl ?_
 have p1:2 ^ W.length≤2 ^ 12:=Nat.pow_le_pow_right (by omega) hW
 have p0:1≤2 ^ W.length:=Nat.one_le_two_pow
 have wu:=pz W.length (by omega)
 have sl:=C5 W.length hW
 have lkb:∀j,kz W S j≤W.length:=fun j=>y9 (by omega) (fun s=>by
  have:=sr S (jJ S [] (bO W (aR W.length s)))
  have:=kK W.length s
  simp only[zC,bO,List.length_map]at*
  omega) j
 have lp:∀z2 z5 z6 z7 z8 z9 z10:D,exS aG K.rO ⟨[.t (.sl (W.map tL)),.t (tL S),z2,I 0,I 1,z5,z6,z7,z8,z9,z10],[]⟩=
  some (.exit 0,⟨[.t (.sl (W.map tL)),.t (tL S),.und,I (kz W S (2 ^ W.length-1)),I ((2 ^ W.length:Nat):Int),.und,.und,.und,.und,.und,.und],[]⟩):=by
  intro z2 z5 z6 z7 z8 z9 z10
  refine bV (fun j=>⟨[.t (.sl (W.map tL)),.t (tL S),.und,I (kz W S j),I ((j:Int)+1),.und,.und,.und,.und,.und,.und],[]⟩) (2 ^ W.length-1) rfl ?_ ?_ (by simp)
  · intro j hj
    have so:=Fc hW (s:=j+1) (by omega)
    have lb:=lkb j
    have ln:=rT W S j
    have ml:=kK W.length (j+1)
    have hl2:=vk hl (aR W.length (j+1))
    have de:zC S (bO W (aR W.length (j+1)))=((bO W (aR W.length (j+1))).length:Int)-fo S (jJ S [] (bO W (aR W.length (j+1)))):=rfl
    rw[kz,de]
    have pl:(bO W (aR W.length (j+1))).length=(aR W.length (j+1)).length:=List.length_map _
    rw[show((j:Int)+1)=((j+1:Nat):Int)by omega]
    clear lkb de
    generalize aR W.length (j+1)=X at*
    generalize bO W X=L at*
    rw[← pl]at ml
    clear pl
    have e2:(((j+1:Nat):Int)+1)=((j+1+1:Nat):Int):=by omega
    rw[e2]
    have lj:((j+1:Nat):Int)<((2 ^ W.length:Nat):Int):=by omega
    have wj:IntKind.i64.wrap (((j+1:Nat):Int)+1)=((j+1+1:Nat):Int):=bU (by omega) (by omega)
    generalize kz W S j=BM at*
    generalize ((j+1:Nat):Int)=st at*
    generalize ((j+1+1:Nat):Int)=st2 at*
    have l2:∀z2 z9 z10:D,exS aG K.rN ⟨[.t (.sl (W.map tL)),.t (tL S),z2,I BM,I st,.t (.sl (L.map tL)),I 0,.ref 0 0 0,I 0,z9,z10],[.arr 1 false 0 []]⟩=
     some (.exit 2,⟨[.t (.sl (W.map tL)),.t (tL S),.und,I BM,I st,.t (.sl (L.map tL)),I (fo S (jJ S [] L)),.ref 0 0 (jJ S [] L).length,I L.length,.und,.und],[.arr 1 false 0 (ints (jJ S [] L))]⟩):=by
     intro z2 z9 z10
     refine bV (fun i=>⟨[.t (.sl (W.map tL)),.t (tL S),.und,I BM,I st,.t (.sl (L.map tL)),I (fo S (jJ S [] (L.take i))),.ref 0 0 (jJ S [] (L.take i)).length,I i,.und,.und],[.arr 1 false 0 (ints (jJ S [] (L.take i)))]⟩) L.length rfl ?_ ?_ (by simp)
     · intro i hi
       have ok:ku S (jJ S [] (L.take i)):=(ku.nil S).lists
       have l3:=uH hS (by omega) hl2 ok hi (W.map tL) .und BM st
       rw[Kl hi]
       generalize lM S (jJ S [] (L.take i)) (nth L i)=g2 at*
       generalize jJ S [] (L.take i)=g1 at*
       generalize nth L i=x at*
       simp only[ints]at*
       clear ok
       simp(disch:=omega)only[go_sem,K.kZ,↓reduceIte,l3,reduceAdd,reduceSub]
     · rw[List.take_length]
       generalize jJ S [] L=g2 at*
       simp only[ints]at*
       simp(disch:=omega)only[go_sem,K.kZ,↓reduceIte,reduceAdd,reduceSub]
    have ok:ku S (jJ S [] L):=(ku.nil S).lists
    have gl:=C8 ok.nd ok.mem
    have rb:=sr S (jJ S [] L)
    generalize jJ S [] L=g2 at*
    generalize fo S g2=rm at*
    have wk:IntKind.i64.wrap ((L.length:Int)-rm)=(L.length:Int)-rm:=bU (by omega) (by omega)
    clear ok hl hl2
    generalize 2 ^ W.length=two at*
    simp only[ints]at*
    simp(disch:=omega)only[go_sem,K.lk,↓reduceIte,wu,sl,lj,so,l2,wk,wj,reduceAdd,reduceSub]
  · have e:(((2 ^ W.length-1:Nat):Int)+1)=((2 ^ W.length:Nat):Int):=by omega
    rw[e]
    clear lkb hl
    generalize kz W S (2 ^ W.length-1)=BM at*
    generalize 2 ^ W.length=two at*
    simp(disch:=omega)only[go_sem,K.lk,↓reduceIte,wu,sl,reduceAdd,reduceSub]
 have lb:=lkb (2 ^ W.length-1)
 have ln:=rT W S (2 ^ W.length-1)
 unfold kB
 generalize kz W S (2 ^ W.length-1)=BM at*
 have wk:IntKind.i64.wrap ((W.length:Int)-BM)=(W.length:Int)-BM:=bU (by omega) (by omega)
 clear lkb hl
 generalize 2 ^ W.length=two at*
 simp(disch:=omega)only[go_sem,K.fQ,↓reduceIte,lp,wk,reduceAdd,reduceSub]
theorem tC{L:List (List Int)}{S:List Int}(hS:S.length≤1000)(hL:L.length≤12)(hl:∀i,(nth L i).length≤1000000){g0:List Int}(ok:ku S g0){i:Nat}(hi:i<L.length)(z:D)(set cnt:Int):
 ∀z1:D,exS aG K.lq ⟨[.t (.sl (L.map tL)),.t (tL S),z,I set,I cnt,I (fo S g0),.ref 0 0 g0.length,I i,I 0,z1],[.arr 1 false 0 (ints g0)]⟩=some (.exit 4,⟨[.t (.sl (L.map tL)),.t (tL S),.und,I set,I cnt,I (fo S (lM S g0 (nth L i))),.ref 0 0 (lM S g0 (nth L i)).length,I i,I (nth L i).length,.und],[.arr 1 false 0 (ints (lM S g0 (nth L i)))]⟩):=by
 have li:=hl i
 have wg:=bz (l:=L) tL hi
 have hi2:i<12:=by omega
 generalize nth L i=l at*
 have lp:∀z2 z9:D,exS aG K.lq ⟨[.t (.sl (L.map tL)),.t (tL S),z2,I set,I cnt,I (fo S g0),.ref 0 0 g0.length,I i,I 0,z9],[.arr 1 false 0 (ints g0)]⟩=
  some (.exit 4,⟨[.t (.sl (L.map tL)),.t (tL S),.und,I set,I cnt,I (fo S (lM S g0 l)),.ref 0 0 (lM S g0 l).length,I i,I l.length,.und],[.arr 1 false 0 (ints (lM S g0 l))]⟩):=by
  intro z2 z9
  refine bV (fun k=>⟨[.t (.sl (L.map tL)),.t (tL S),.und,I set,I cnt,I (fo S (lM S g0 (l.take k))),.ref 0 0 (lM S g0 (l.take k)).length,I i,I k,.und],[.arr 1 false 0 (ints (lM S g0 (l.take k)))]⟩) l.length rfl ?_ ?_ (by simp)
  · intro k hk
    have xg:=bz (l:=l) (Ev.T.int .i64) hk
    have ok2:ku S (lM S g0 (l.take k)):=ok.list
    have gl:=C8 ok2.nd ok2.mem
    have rb:=sr S (lM S g0 (l.take k))
    have hh:=oe (lM S g0 (l.take k)) (nth l k) (by omega)
    rw[Be hk]
    generalize lM S g0 (l.take k)=got at*
    generalize nth l k=x at*
    clear ok ok2
    simp only[ints,tL]at*
    unfold JH
    by_cases c0:0≤x
    · obtain⟨n,rfl⟩:=Int.eq_ofNat_of_zero_le c0
      by_cases c1:(n:Int)<S.length
      · by_cases c2:(n:Int)∈got
        · rw[if_neg (fun h=>h.2.2 c2)]
          rw[decide_eq_true c2]at hh
          simp(disch:=omega)only[go_sem,K.fj,↓reduceIte,wg,xg,c1,hh,Bool.not_true,aLt,reduceAdd,reduceSub]
        · rw[if_pos ⟨c0,c1,c2⟩,Bd]
          rw[decide_eq_false c2]at hh
          have sg:=bz (l:=S) (Ev.T.int .i64) (j:=n) (by omega)
          have cb:=C7 (nth S (n:Int).toNat)
          unfold M3 at*
          rw[Int.toNat_natCast]at*
          have wk:IntKind.i64.wrap (fo S got+max 0 (min (nth S n) 12))=fo S got+max 0 (min (nth S n) 12):=bU (by omega) (by omega)
          generalize nth S n=s at*
          generalize fo S got=r at*
          simp(disch:=omega)only[go_sem,K.fj,↓reduceIte,wg,xg,c1,hh,sg,wk,Bool.not_false,aLt,reduceAdd,reduceSub]
      · rw[if_neg (fun h=>c1 h.2.1)]
        simp(disch:=omega)only[go_sem,K.fj,↓reduceIte,wg,xg,c1,aLt,decide_false,reduceAdd,reduceSub]
    · rw[if_neg (fun h=>c0 h.1)]
      simp(disch:=omega)only[go_sem,K.fj,↓reduceIte,wg,xg,c0,aLt,decide_false,reduceAdd,reduceSub]
  · rw[List.take_length]
    simp(disch:=omega)only[go_sem,K.fj,↓reduceIte,wg,reduceAdd,reduceSub]
 intro z1
 exact lp z z1
def j3(W:List (List Int))(S:List Int):Bool:=decide (kB W S=W.length)
def Px(W:List (List Int))(S:List Int)(j:Nat):Bool:=decide (0<zC S (bO W (aR W.length (j+1))))
theorem Bf(W:List (List Int))(S:List Int):∀n,(List.range n).any (Px W S)=decide (0<kz W S n)
 | 0=>by simp[kz]
 | n+1=>by
   have ih:=Bf W S n
   rw[List.range_succ,List.any_append,ih,kz]
   simp only[List.any_cons,List.any_nil,Bool.or_false,Px]
   generalize kz W S n=a
   generalize zC S (bO W (aR W.length (n+1)))=b
   by_cases c:0<a
   · rw[decide_eq_true c,Bool.true_or,decide_eq_true (by omega)]
   · rw[decide_eq_false c,Bool.false_or]
     by_cases d:0<b
     · rw[decide_eq_true d,decide_eq_true (by omega)]
     · rw[decide_eq_false d,decide_eq_false (by omega)]
theorem Nu(W:List (List Int))(S:List Int):j3 W S= !((List.range (2 ^ W.length-1)).any (Px W S)):=by
 rw[Bf]
 have:=rT W S (2 ^ W.length-1)
 unfold j3 kB
 by_cases c:kz W S (2 ^ W.length-1)=0
 · rw[c];simp
 · rw[decide_eq_false (by omega),decide_eq_true (by omega)];rfl
theorem wQ{W:List (List Int)}{S:List Int}(hW:W.length≤12)(hS:S.length≤1000)(hl:∀i,(nth W i).length≤1000000):aG 0 N.cO [.t (.sl (W.map tL)),.t (tL S)] []=some (B (j3 W S),[]):=by
 refine ay K.mT rfl ?_
 have p1:2 ^ W.length≤2 ^ 12:=Nat.pow_le_pow_right (by omega) hW
 have p0:1≤2 ^ W.length:=Nat.one_le_two_pow
 have wu:=pz W.length (by omega)
 have sl:=C5 W.length hW
 /- one set -/
 have set:∀(j:Nat),j<2 ^ W.length-1→∀z8 z9:D,exS aG K.p5 ⟨[.t (.sl (W.map tL)),.t (tL S),.und,I (j+1:Nat),I 0,I 0,.ref 0 0 0,I 0,z8,z9],[.arr 1 false 0 []]⟩=
  some (.exit 2,⟨[.t (.sl (W.map tL)),.t (tL S),.und,I (j+1:Nat),I (aR W.length (j+1)).length,I (fo S (jJ S [] (bO W (aR W.length (j+1))))),.ref 0 0 (jJ S [] (bO W (aR W.length (j+1)))).length,I W.length,.und,.und],[.arr 1 false 0 (ints (jJ S [] (bO W (aR W.length (j+1)))))]⟩):=by
  intro j hj z8 z9
  have hs:j+1<1000000:=by omega
  generalize j+1=s at*
  refine bV (fun i=>⟨[.t (.sl (W.map tL)),.t (tL S),.und,I s,I (aR i s).length,I (fo S (jJ S [] (bO W (aR i s)))),.ref 0 0 (jJ S [] (bO W (aR i s))).length,I i,.und,.und],[.arr 1 false 0 (ints (jJ S [] (bO W (aR i s))))]⟩) W.length rfl ?_ ?_ (by simp)
  · intro i hi
    have wui:=pz i (by omega)
    have sh:=C3 s i (by omega)
    have dl:s / 2 ^ i<2 ^ 62:=by have:=Nat.div_le_self s (2 ^ i);omega
    have an:=C4 (s / 2 ^ i) dl
    rw[C6]at an
    have ml:=kK i s
    have ok:ku S (jJ S [] (bO W (aR i s))):=(ku.nil S).lists
    have l3:=tC hS hW hl ok hi .und s ((aR i s).length+1)
    rw[tB]
    by_cases c:zD s i=true
    · rw[if_pos c]at an ⊢
      have ga:jJ S [] (bO W (aR i s++[i]))=lM S (jJ S [] (bO W (aR i s))) (nth W i):=by simp[jJ,bO]
      rw[ga,aLv]
      clear ga ok hl hj
      generalize lM S (jJ S [] (bO W (aR i s))) (nth W i)=g2 at*
      generalize jJ S [] (bO W (aR i s))=g1 at*
      generalize (aR i s).length=mq at*
      generalize s / 2 ^ i=q at*
      generalize nth W i=x at*
      simp only[ints]at*
      have wk:IntKind.i64.wrap ((mq:Int)+1)=(mq:Int)+1:=bU (by omega) (by omega)
      have e:((mq+[i].length:Nat):Int)=(mq:Int)+1:=by simp
      rw[e]
      simp(disch:=omega)only[go_sem,K.iT,↓reduceIte,wui,sh,an,l3,wk,reduceAdd,reduceSub]
    · rw[if_neg c]at an ⊢
      rw[List.append_nil]
      clear ok hl hj l3
      generalize jJ S [] (bO W (aR i s))=g1 at*
      generalize (aR i s).length=mq at*
      generalize s / 2 ^ i=q at*
      simp only[ints]at*
      simp(disch:=omega)only[go_sem,K.iT,↓reduceIte,wui,sh,an,reduceAdd,reduceSub]
  · clear hj p1 p0 sl
    generalize jJ S [] (bO W (aR W.length s))=g1 at*
    generalize (aR W.length s).length=mq at*
    simp only[ints]at*
    simp(disch:=omega)only[go_sem,K.iT,↓reduceIte,reduceAdd,reduceSub]
 have wb:∀j,j<2 ^ W.length-1→(Px W S j=true↔fo S (jJ S [] (bO W (aR W.length (j+1))))<((aR W.length (j+1)).length:Int)):=fun j _=>by
  unfold Px zC
  rw[show(bO W (aR W.length (j+1))).length=(aR W.length (j+1)).length from List.length_map _,decide_eq_true_iff];omega
 have lp:∀z2 z4 z5 z6 z7 z8 z9:D,∃q,exS aG K.p6 ⟨[.t (.sl (W.map tL)),.t (tL S),z2,I 1,z4,z5,z6,z7,z8,z9],[]⟩=some q∧
  (if(List.range (2 ^ W.length-1)).any (Px W S)=true then ∃(vs:List D) (H:ae),vs.length=10∧vs[2]?=some (B false)∧q=(.ret,⟨vs,H⟩)else q=(.exit 0,⟨[.t (.sl (W.map tL)),.t (tL S),.und,I ((2 ^ W.length:Nat):Int),.und,.und,.und,.und,.und,.und],[]⟩)):=by
  intro z2 z4 z5 z6 z7 z8 z9
  refine JQ (fun j st=>st=⟨[.t (.sl (W.map tL)),.t (tL S),.und,I ((j:Int)+1),.und,.und,.und,.und,.und,.und],[]⟩) (2 ^ W.length-1) (Px W S) (fun b q=>if b=true then ∃(vs:List D) (H:ae),vs.length=10∧vs[2]?=some (B false)∧q=(.ret,⟨vs,H⟩)else q=(.exit 0,⟨[.t (.sl (W.map tL)),.t (tL S),.und,I ((2 ^ W.length:Nat):Int),.und,.und,.und,.und,.und,.und],[]⟩)) rfl ?_ ?_ ?_
  · rintro j st hj hp rfl
    refine⟨_,?_,rfl⟩
    have s2:=set j hj
    have nb:=(not_congr (wb j hj)).1 (by rw[hp];simp)
    have lj:((j+1:Nat):Int)<((2 ^ W.length:Nat):Int):=by omega
    have wj:IntKind.i64.wrap (((j+1:Nat):Int)+1)=((j+1+1:Nat):Int):=bU (by omega) (by omega)
    have ml:=kK W.length (j+1)
    rw[show((j:Int)+1)=((j+1:Nat):Int)by omega,show(((j+1:Nat):Int)+1)=((j+1+1:Nat):Int)by omega]
    clear set wb hl
    generalize jJ S [] (bO W (aR W.length (j+1)))=g2 at*
    generalize fo S g2=rm at*
    generalize (aR W.length (j+1)).length=mm at*
    generalize ((j+1+1:Nat):Int)=st2 at*
    generalize ((j+1:Nat):Int)=st at*
    generalize 2 ^ W.length=two at*
    simp only[ints]at*
    simp(disch:=omega)only[go_sem,K.iU,↓reduceIte,wu,sl,lj,s2,nb,wj,reduceAdd,reduceSub]
  · rintro j st hj hp rfl
    have s2:=set j hj
    have nb:=(wb j hj).1 hp
    have lj:((j+1:Nat):Int)<((2 ^ W.length:Nat):Int):=by omega
    have ml:=kK W.length (j+1)
    rw[show((j:Int)+1)=((j+1:Nat):Int)by omega]
    clear set wb hl
    generalize jJ S [] (bO W (aR W.length (j+1)))=g2 at*
    generalize fo S g2=rm at*
    generalize (aR W.length (j+1)).length=mm at*
    generalize ((j+1:Nat):Int)=st at*
    generalize 2 ^ W.length=two at*
    simp only[ints,if_true]at*
    refine⟨(.ret,⟨[.t (.sl (W.map tL)),.t (tL S),B false,I st,I mm,I rm,.ref 0 0 g2.length,I W.length,.und,.und],[.arr 1 false 0 (ints g2)]⟩),?_,by simp,_,_,rfl,rfl,rfl⟩
    simp only[ints]at*
    simp(disch:=omega)only[go_sem,K.iU,↓reduceIte,wu,sl,lj,s2,nb,reduceAdd,reduceSub]
  · rintro st rfl
    refine⟨_,?_,?_,rfl⟩
    · have e:(((2 ^ W.length-1:Nat):Int)+1)=((2 ^ W.length:Nat):Int):=by omega
      rw[e]
      clear set wb hl
      generalize 2 ^ W.length=two at*
      simp(disch:=omega)only[go_sem,K.iU,↓reduceIte,wu,sl,reduceAdd,reduceSub]
    · simp
 rw[Nu]
 obtain⟨q,h1,h2⟩:=lp (B false) .und .und .und .und .und .und
 clear set wb lp hl p1 p0 sl
 cases hb:(List.range (2 ^ W.length-1)).any (Px W S)with
 | true=>
   rw[hb,if_pos rfl]at h2
   obtain⟨vs,H,v1,v2,rfl⟩:=h2
   simp(disch:=omega)only[go_sem,K.cO,↓reduceIte,h1,v2,Bool.not_true,reduceAdd,reduceSub]
 | false=>
   rw[hb,if_neg (by simp)]at h2
   subst h2
   generalize 2 ^ W.length=two at*
   simp(disch:=omega)only[go_sem,K.cO,↓reduceIte,h1,Bool.not_false,reduceAdd,reduceSub]
def tD(S:List Int)(s:Nat):List Int:=S.set s (nth S s-1)
def okS(R:List (List Int))(w S:List Int)(s:Nat):Bool:=decide ((s:Int)∈w)&&(decide (0<nth S s)&&j3 R (tD S s))
def nB(R:List (List Int))(w S:List Int):Option Nat:=(List.range S.length).find? (okS R w S)
def m5(W:List (List Int))(S:List Int):Nat→List Int×List Int
 | 0=>(S,[])
 | i+1=>match nB (W.drop (i+1)) (nth W i) (m5 W S i).1 with
   | some s=>(tD (m5 W S i).1 s,(m5 W S i).2++[(s:Int)])
   | none=>m5 W S i
structure lJ(S:List Int)(n:Nat):Prop where
 len:S.length=n
 bd:∀i,nth S i<9223372036854775808
theorem qH{l:List Int}{i:Nat}{a:Int}(h:i<l.length):nth (l.set i a) i=a:=fw (aLj h)
theorem C9{l:List Int}{i j:Nat}{a:Int}(h:j≠i):nth (l.set j a) i=nth l i:=by
 unfold nth
 simp only[aLl,aLi h]
theorem lJ.dec{S:List Int}{n:Nat}(h:lJ S n){s:Nat}(hs:s<n)(h0:0<nth S s):lJ (tD S s) n where
 len:=by unfold tD;rw[List.length_set,h.len]
 bd i:=by
  have l:=h.len
  unfold tD
  by_cases c:s=i
  · subst c;rw[qH (by omega)];have:=h.bd s;omega
  · rw[C9 c];exact h.bd i
theorem Da{R:List (List Int)}{w S:List Int}{s:Nat}(h:nB R w S=some s):s<S.length∧okS R w S s=true:=
 ⟨aLu.1 (List.mem_of_find?_eq_some h),List.find?_some h⟩
theorem Km{R:List (List Int)}{w S:List Int}{s:Nat}(h:okS R w S s=true):(s:Int)∈w∧0<nth S s∧j3 R (tD S s)=true:=by
 unfold okS at h
 rw[aLr,aLr,decide_eq_true_iff,decide_eq_true_iff]at h
 exact⟨h.1,h.2.1,h.2.2⟩
theorem zl(W:List (List Int)){S:List Int}{n:Nat}(h:lJ S n):∀i,lJ (m5 W S i).1 n∧(m5 W S i).2.length≤i
 | 0=>⟨h,aLs _⟩
 | i+1=>by
   obtain⟨a,b⟩:=zl W h i
   rw[m5]
   cases hf:nB (W.drop (i+1)) (nth W i) (m5 W S i).1 with
   | some s=>
     obtain⟨s1,s2⟩:=Da hf
     have:=a.len
     exact⟨a.dec (by omega) (Km s2).2.1,by simp only[aLv,List.length_singleton];omega⟩
   | none=>exact⟨a,Nat.le_trans b (by omega)⟩
theorem Nv(W:List (List Int))(k i:Nat):nth (W.drop k) i=nth W (k+i):=by
 unfold nth
 rw[aLl,aLl,List.getElem?_drop]
theorem Bg{W:List (List Int)}{b:Nat}(h:∀i,(nth W i).length≤b)(k i:Nat):(nth (W.drop k) i).length≤b:=by rw[Nv];exact h _
theorem Fe{l:List Int}{i:Nat}{x:Int}(h:i<l.length)(e:x=nth l i):(l.set i (nth l i-1)).set i x=l:=by
 rw[List.set_set,e]
 apply List.ext_getElem?
 intro j
 by_cases c:i=j
 · subst c
   rw[aLj h]
   unfold nth
   rw[aLl,aLc h];rfl
 · rw[aLi c]
theorem Nw{W:List (List Int)}{S:List Int}(hW:W.length≤12)(hS:S.length≤1000)(hl:∀i,(nth W i).length≤1000000){lf o:List Int}(sk:lJ lf S.length)(ho:o.length≤100){i:Nat}(hi:i<W.length):
 ∀z2 z3:D,exS aG K.oA ⟨[.t (.sl (W.map tL)),.t (tL S),z2,z3,.ref 0 0 S.length,.ref 1 0 o.length,I i,I 0],[fB lf,fB o]⟩=some (match nB (W.drop (i+1)) (nth W i) lf with
  | some s=>(.exit 2,⟨[.t (.sl (W.map tL)),.t (tL S),.und,.und,.ref 0 0 S.length,.ref 1 0 (o.length+1),I i,I s],[fB (tD lf s),fB (o++[(s:Int)])]⟩)
  | none=>(.exit 2,⟨[.t (.sl (W.map tL)),.t (tL S),.und,.und,.ref 0 0 S.length,.ref 1 0 o.length,I i,I S.length],[fB lf,fB o]⟩)):=by
 intro z2 z3
 have ll:=sk.len
 have wg:=bz (l:=W) tL hi
 have li:=hl i
 have cw:bK 1 (W.map tL)=true:=iz 1 _ (fun _=>rfl) W
 have tn:((i:Int)+1).toNat=i+1:=by omega
 have rl:(W.drop (i+1)).length≤12:=by rw[List.length_drop];omega
 have hh:∀s:Nat,aG 0 N.cH [.t (tL (nth W i)),I s] []=some (B (decide ((s:Int)∈nth W i)),[]):=fun s=>oe _ _ (by omega)
 have wi:IntKind.i64.wrap ((i:Int)+1)=(i:Int)+1:=bU (by omega) (by omega)
 have ho2:∀lg:List Int,lg.length=S.length→aG 0 N.cO [.t (.sl ((W.map tL).drop (i+1))),.t (tL lg)] []=some (B (j3 (W.drop (i+1)) lg),[]):=fun lg h=>by
  rw[← List.map_drop]
  exact wQ rl (by omega) (Bg hl _)
 unfold nB
 rw[ll]
 have sb:=sk.bd
 refine dO (fun j=>⟨[.t (.sl (W.map tL)),.t (tL S),.und,.und,.ref 0 0 S.length,.ref 1 0 o.length,I i,I j],[fB lf,fB o]⟩) S.length (okS (W.drop (i+1)) (nth W i) lf) (fun s=>(.exit 2,⟨[.t (.sl (W.map tL)),.t (tL S),.und,.und,.ref 0 0 S.length,.ref 1 0 (o.length+1),I i,I s],[fB (tD lf s),fB (o++[(s:Int)])]⟩)) _ rfl ?_ ?_ ?_ (by simp)
 · intro s hs hp
   have h1:=hh s
   have lg:=bz (l:=lf) (Ev.T.int .i64) (j:=s) (by omega)
   have b:=sb s
   have sbk:=Fe (l:=lf) (i:=s) (x:=nth lf s-1+1) (by omega) (by omega)
   have h2:=ho2 (tD lf s) (by unfold tD;rw[List.length_set,ll])
   have n2:nth (tD lf s) s=nth lf s-1:=qH (by omega)
   clear sb hh ho2 sk
   unfold okS at hp
   unfold tD at*
   generalize hd:lf.set s (nth lf s-1)=lf2 at*
   have l2:lf2.length=S.length:=by subst hd;rw[List.length_set,ll]
   generalize j3 (W.drop (i+1)) lf2=f at*
   generalize nth W i=w at*
   have wk:0<nth lf s→IntKind.i64.wrap (nth lf s-1+1)=nth lf s-1+1:=fun h=>bU (by omega) (by omega)
   simp only[ints,tL]at*
   by_cases c1:(s:Int)∈w
   · by_cases c2:0<nth lf s
     · have w0:IntKind.i64.wrap (nth lf s-1)=nth lf s-1:=bU (by omega) (by omega)
       have wk:=wk c2
       rw[decide_eq_true c1]at h1 hp
       rw[decide_eq_true c2]at hp
       simp only[Bool.true_and]at hp
       subst hp
       have c3:¬nth lf s≤0:=by omega
       simp(disch:=omega)only[go_sem,K.eH,↓reduceIte,wg,h1,lg,c3,w0,wi,cw,tn,h2,hd,n2,wk,sbk,Bool.not_true,decide_false,aLt,reduceAdd,reduceSub]
     · rw[decide_eq_true c1]at h1
       have c3:nth lf s≤0:=by omega
       simp(disch:=omega)only[go_sem,K.eH,↓reduceIte,wg,h1,lg,c3,Bool.not_true,decide_true,aLt,reduceAdd,reduceSub]
   · rw[decide_eq_false c1]at h1
     simp(disch:=omega)only[go_sem,K.eH,↓reduceIte,wg,h1,Bool.not_false,aLt,reduceAdd,reduceSub]
 · intro s hs hp
   have h1:=hh s
   have lg:=bz (l:=lf) (Ev.T.int .i64) (j:=s) (by omega)
   have b:=sb s
   have h2:=ho2 (tD lf s) (by unfold tD;rw[List.length_set,ll])
   obtain⟨c1,c2,c4⟩:=Km hp
   clear sb hh ho2 sk hp
   unfold tD at*
   generalize hd:lf.set s (nth lf s-1)=lf2 at*
   have l2:lf2.length=S.length:=by subst hd;rw[List.length_set,ll]
   rw[c4]at h2
   rw[decide_eq_true c1]at h1
   generalize nth W i=w at*
   have w0:IntKind.i64.wrap (nth lf s-1)=nth lf s-1:=bU (by omega) (by omega)
   have c3:¬nth lf s≤0:=by omega
   simp only[ints,tL]at*
   refine⟨?_,by simp⟩
   simp(disch:=omega)only[go_sem,K.eH,↓reduceIte,wg,h1,lg,c3,w0,wi,cw,tn,h2,hd,Bool.not_true,decide_false,aLt,reduceAdd,reduceSub]
   simp only[fB,List.map_append,List.map_cons,List.map_nil]
 · simp only[tL]
   simp(disch:=omega)only[go_sem,K.eH,↓reduceIte,reduceAdd,reduceSub]
def Nx(W:List (List Int))(S:List Int):List Int:=if j3 W S then(m5 W S W.length).2 else []
theorem Gz{W:List (List Int)}{S:List Int}(hW:W.length≤12)(hS:S.length≤1000)(hl:∀i,(nth W i).length≤1000000)(sk:lJ S S.length):aG 0 N.du [.t (.sl (W.map tL)),.t (tL S)] []=some (.tup [.t (tL (Nx W S)),B (j3 W S)],[]):=by
 refine ay K.lA rfl ?_
 have ho:=wQ hW hS hl
 unfold Nx
 cases hf:j3 W S with
 | false=>
   rw[hf]at ho
   have e:tL (if false=true then(m5 W S W.length).2 else [])= .sl []:=rfl
   rw[e]
   clear e
   simp(disch:=omega)only[go_sem,K.du,↓reduceIte,ho,Bool.not_false,reduceAdd,reduceSub]
 | true=>
   rw[hf]at ho
   have ok:=fun i=>zl W sk i
   have lp:∀z2 z3 z7:D,exS aG K.oB ⟨[.t (.sl (W.map tL)),.t (tL S),z2,z3,.ref 0 0 S.length,.ref 1 0 0,I 0,z7],[fB S,.arr 1 false 0 []]⟩=
    some (.exit 0,⟨[.t (.sl (W.map tL)),.t (tL S),.und,.und,.ref 0 0 S.length,.ref 1 0 (m5 W S W.length).2.length,I W.length,.und],[fB (m5 W S W.length).1,fB (m5 W S W.length).2]⟩):=by
    intro z2 z3 z7
    refine bV (fun j=>⟨[.t (.sl (W.map tL)),.t (tL S),.und,.und,.ref 0 0 S.length,.ref 1 0 (m5 W S j).2.length,I j,.und],[fB (m5 W S j).1,fB (m5 W S j).2]⟩) W.length rfl ?_ ?_ (by simp)
    · intro j hj
      obtain⟨o1,o2⟩:=ok j
      have o3:(m5 W S j).2.length≤100:=by omega
      have l2:=Nw hW hS hl o1 o3 hj
      rw[m5]
      have ln:nB (W.drop (j+1)) (nth W j) (m5 W S j).1=nB (W.drop (j+1)) (nth W j) (m5 W S j).1:=rfl
      generalize (nB (W.drop (j+1)) (nth W j) (m5 W S j).1)=r at*
      have e:=o1.len
      clear o1 ok
      generalize m5 W S j=p at*
      obtain⟨lf,o⟩:=p
      simp only at*
      cases r with
      | none=>
        simp only[tL]at*
        simp(disch:=omega)only[go_sem,K.ij,↓reduceIte,l2,reduceAdd,reduceSub]
      | some s=>
        simp only[tL]at*
        generalize tD lf s=lf2 at*
        simp only[aLv,List.length_singleton]at*
        simp(disch:=omega)only[go_sem,K.ij,↓reduceIte,l2,reduceAdd,reduceSub]
    · simp only[tL]
      simp(disch:=omega)only[go_sem,K.ij,↓reduceIte,reduceAdd,reduceSub]
   obtain⟨o1,o2⟩:=ok W.length
   have e:=o1.len
   clear o1 ok sk
   generalize m5 W S W.length=p at*
   obtain⟨lf,o⟩:=p
   simp only[tL,if_true,List.map_nil]at*
   simp(disch:=omega)only[go_sem,K.du,↓reduceIte,ho,lp,Bool.not_true,aLt,reduceAdd,reduceSub]
end Go.Ev
namespace Go.Ev
open Go
variable [Lib] [aZ] [bc] [cG] [cJ] [eC] [cL] [cM] [dG] [dE] [bI] [bM] [cA] [cB] [gw] [gz] [gg] [eu] [gH]
theorem Kn(l:List Int):(∀i,i<l.length→dH l i=true)∨∃k,1≤k∧k<l.length∧dH l k=false∧∀i,i<k→dH l i=true:=by
 by_cases h:∀i,i<l.length→dH l i=true
 · exact .inl h
 · right
   have:∃k,k<l.length∧dH l k=false:=by
    apply Classical.byContradiction
    intro hn
    exact h fun i hi=>by
     cases hc:dH l i with
     | true=>rfl
     | false=>exact absurd ⟨i,hi,hc⟩ hn
   obtain⟨k,hk,hf⟩:=this
   induction k using Nat.strongRecOn with
   | ind k ih=>
     by_cases hx:∀i,i<k→dH l i=true
     · refine⟨k,?_,hk,hf,hx⟩
       by_cases c:k=0
       · subst c;simp[dH]at hf
       · omega
     · have:∃i,i<k∧dH l i=false:=by
        apply Classical.byContradiction
        intro hn
        exact hx fun i hi=>by
         cases hc:dH l i with
         | true=>rfl
         | false=>exact absurd ⟨i,hi,hc⟩ hn
       obtain⟨i,h1,h2⟩:=this
       exact ih i h1 (by omega) h2
theorem aaO(l:List Int)(hl:l.length≤200000)(k:Nat)(h1:1≤k)(hk:k<l.length)(hf:dH l k=false)(hx:∀i,i<k→dH l i=true)(z1:D):
 exS aG K.gZ ⟨[.ref 0 0 l.length,z1,I k,.sub 0 0 l.length k l.length,I 1],[fB l]⟩=
  some (.exit 2,⟨[.ref 0 0 l.length,.und,I (uv l).length,.sub 0 0 l.length k l.length,I (l.length-k)],[fB (kA (dH l) l l.length)]⟩):=by
 obtain⟨e1,e2⟩:=Nh (dH l) l hk hx hf
 refine bV (fun i=>⟨[.ref 0 0 l.length,.und,I (kN (dH l) l (k+1+i)).length,.sub 0 0 l.length k l.length,I (1+i:Nat)],[fB (kA (dH l) l (k+1+i))]⟩) (l.length-(k+1)) ?_ ?_ ?_ (by simp)
 · simp only[Nat.add_zero,e1,e2]
   rfl
 · intro i hi
   have hj:k+1+i<l.length:=by omega
   have kl:(kN (dH l) l (k+1+i)).length≤k+i:=by
    have key:∀i,(kN (dH l) l (k+1+i)).length≤k+i:=by
     intro i
     induction i with
     | zero=>rw[Nat.add_zero,e2];omega
     | succ i ih=>
       rw[show k+1+(i+1)=(k+1+i)+1 from rfl,wK]
       split<;>simp<;>omega
    exact key i
   have n1:=Ps (dH l) l (k+1+i) (i:=k+1+i) (by omega)
   have n2:=Ps (dH l) l (k+1+i) (i:=k+i) (by omega)
   have ln:=J6 (dH l) l (j:=k+1+i) (by omega)
   have st:=aaG (dH l) l hj
   have sm:=J8 (dH l) l (j:=k+1+i)
   have sp:=wK (dH l) l (k+1+i)
   have fb:dH l (k+1+i)=decide (nth l (k+1+i)≠nth l (k+i)):=by
    unfold dH
    rw[decide_eq_false (by omega),Bool.false_or,show k+1+i-1=k+i by omega]
   rw[show k+1+(i+1)=k+1+i+1 from rfl]
   generalize kA (dH l) l (k+1+i)=A at*
   generalize kN (dH l) l (k+1+i)=F at*
   have x1:nth A (k+(1+i))=nth l (k+1+i):=by rw[← n1];congr 1;omega
   have x2:nth A (k+i)=nth l (k+i):=n2
   have t1:(1+(i:Int)).toNat=1+i:=by omega
   have t2:(1+(i:Int)-1).toNat=i:=by omega
   by_cases c:nth l (k+1+i)=nth l (k+i)
   · rw[(sm (by rw[fb];simp[c])).1,(sm (by rw[fb];simp[c])).2]
     simp(disch:=omega)only[go_sem,K.cW,↓reduceIte,t1,t2,x1,x2,c,not_true_eq_false,Int.add_assoc,reduceAdd,reduceSub]
   · rw[← st (by rw[fb];simp[c]),sp,if_pos (by rw[fb];simp[c])]
     simp(disch:=omega)only[go_sem,K.cW,↓reduceIte,t1,t2,x1,x2,c,Re,aLv,List.length_singleton,not_false_eq_true,Int.add_assoc,reduceAdd,reduceSub]
 · have:k+1+(l.length-(k+1))=l.length:=by omega
   rw[this]
   have ln:=J6 (dH l) l (j:=l.length) (aLs _)
   unfold uv
   generalize kA (dH l) l l.length=A at*
   generalize kN (dH l) l l.length=F at*
   have t3:(1:Int)+((l.length-(k+1):Nat):Int)=(l.length:Int)-k:=by omega
   simp(disch:=omega)only[go_sem,K.cW,↓reduceIte,t3,reduceAdd,reduceSub]
theorem Ko(l:List Int)(hl:l.length≤200000)(h2:2≤l.length)(h:∀i,i<l.length→dH l i=true)(z1 z3 z4:D):
 exS aG K.eS ⟨[.ref 0 0 l.length,z1,I 1,z3,z4],[fB l]⟩=some (.exit 0,⟨[.ref 0 0 l.length,.und,I l.length,.und,.und],[fB l]⟩):=by
 refine bV (fun i=>⟨[.ref 0 0 l.length,.und,I (1+i:Nat),.und,.und],[fB l]⟩) (l.length-1) rfl ?_ ?_ (by simp)
 · intro i hi
   have fb:=h (1+i) (by omega)
   have c:¬nth l (1+i)=nth l i:=by
    unfold dH at fb
    rw[decide_eq_false (by omega),Bool.false_or,show 1+i-1=i by omega]at fb
    simpa using fb
   have t1:(1+(i:Int)).toNat=1+i:=by omega
   have t2:(1+(i:Int)-1).toNat=i:=by omega
   simp(disch:=omega)only[go_sem,K.bJ,↓reduceIte,t1,t2,c,Int.add_assoc,reduceAdd,reduceSub]
 · have t3:(1:Int)+((l.length-1:Nat):Int)=(l.length:Int):=by omega
   simp(disch:=omega)only[go_sem,K.bJ,↓reduceIte,t3,reduceAdd,reduceSub]
theorem GA(l:List Int)(hl:l.length≤200000)(k:Nat)(h1:1≤k)(hk:k<l.length)(hf:dH l k=false)(hx:∀i,i<k→dH l i=true)(z1 z3 z4:D):
 exS aG K.eS ⟨[.ref 0 0 l.length,z1,I 1,z3,z4],[fB l]⟩=some (.ret,⟨[.ref 0 0 l.length,.ref 0 1 (uv l).length,I (uv l).length,.sub 0 0 l.length k l.length,I (l.length-k)],[.arr 1 false 1 (((uv l).map (T.int .i64)).map .t)]⟩):=by
 have key:=En (vs:=[.ref 0 0 l.length,z1,I 1,z3,z4]) (H:=[fB l]) (c:=K.bJ) (gc:=true) (dead:=[1,3,4])
  (fun i st=>st=⟨[.ref 0 0 l.length,.und,I (1+i:Nat),.und,.und],[fB l]⟩) (k-1) (fun q=>q=(.ret,⟨[.ref 0 0 l.length,.ref 0 1 (uv l).length,I (uv l).length,.sub 0 0 l.length k l.length,I (l.length-k)],[.arr 1 false 1 (((uv l).map (T.int .i64)).map .t)]⟩)) rfl ?_ ?_
 · obtain⟨q,h1,rfl⟩:=key
   exact h1
 · rintro i st hi rfl
   have fb:=hx (1+i) (by omega)
   have c:¬nth l (1+i)=nth l i:=by
    unfold dH at fb
    rw[decide_eq_false (by omega),Bool.false_or,show 1+i-1=i by omega]at fb
    simpa using fb
   have t1:(1+(i:Int)).toNat=1+i:=by omega
   have t2:(1+(i:Int)-1).toNat=i:=by omega
   refine⟨_,?_,rfl⟩
   simp(disch:=omega)only[go_sem,K.bJ,↓reduceIte,t1,t2,c,Int.add_assoc,reduceAdd,reduceSub]
 · rintro st rfl
   rw[show 1+(k-1)=k by omega]
   have c:nth l k=nth l (k-1):=by
    unfold dH at hf
    rw[decide_eq_false (by omega),Bool.false_or]at hf
    simpa using hf
   have t2:((k:Int)-1).toNat=k-1:=by omega
   have l2:=aaO l hl k h1 hk hf hx
   have cl:(uv l).length≤l.length:=E5 _ _ _
   have ln:=J6 (dH l) l (j:=l.length) (aLs _)
   have tk:(kA (dH l) l l.length).take (uv l).length=uv l:=by
    unfold kA uv
    rw[List.take_left]
   generalize kA (dH l) l l.length=A at*
   generalize uv l=U at*
   have al3:l.length=(List.map D.t (List.map (T.int .i64) A)).length:=by simp[ln]
   have al5:l.length=(List.take U.length (List.map D.t (List.map (T.int .i64) A))++List.replicate (l.length-U.length) (D.t (T.int .i64 0))++List.drop l.length (List.map D.t (List.map (T.int .i64) A))).length:=by
    simp only[aLv,List.length_take,List.length_replicate,List.length_drop,List.length_map]
    omega
   have ta:List.take U.length (List.map D.t (List.map (T.int .i64) A))=List.map D.t (List.map (T.int .i64) U):=by rw[← List.map_take,←List.map_take,tk]
   have ta2:∀x y:List D,List.take U.length (List.take U.length (List.map D.t (List.map (T.int .i64) A))++x++y)=List.map D.t (List.map (T.int .i64) U):=by
    intro x y
    rw[ta,List.append_assoc,List.take_left' (by simp)]
   refine⟨_,?_,?_,rfl⟩
   · simp(disch:=omega)only[go_sem,K.bJ,↓reduceIte,t2,c,l2,ta2,reduceAdd,reduceSub]
   · simp
abbrev uI(l:List Int)(ep:Nat):Obj:= .arr 1 false ep ((l.map (T.int .i64)).map .t)
theorem Ua{l:List Int}(h:∀i,i<l.length→dH l i=true):uv l=l:=by
 unfold uv
 rw[J9 _ _ (aLs _) h,List.take_length]
theorem GB(l:List Int)(hl:l.length≤200000):∃ep,aG 1 N.aB [.ref 0 0 l.length] [fB l]=some (.ref 0 ep (uv l).length,[uI (uv l) ep]):=by
 rcases Kn l with h | ⟨k,h1,hk,hf,hx⟩
 · refine⟨0,ay K.cD rfl ?_⟩
   rw[Ua h]
   by_cases h2:l.length<2
   · simp(disch:=omega)only[go_sem,K.aB,↓reduceIte,h2,reduceAdd,reduceSub]
   · have l1:=Ko l hl (by omega) h
     simp(disch:=omega)only[go_sem,K.aB,↓reduceIte,h2,l1,reduceAdd,reduceSub]
 · refine⟨1,ay K.cD rfl ?_⟩
   have l1:=GA l hl k h1 hk hf hx
   have h2:¬l.length<2:=by omega
   generalize uv l=U at*
   simp(disch:=omega)only[go_sem,K.aB,↓reduceIte,h2,reduceAdd,reduceSub]
   refine A5 (l1 _ _ _) ?_
   simp(disch:=omega)only[go_sem,K.aB,↓reduceIte,reduceAdd,reduceSub]
end Go.Ev
namespace Go.Ev
open Go
variable [Lib] [aZ] [bc] [cG] [cJ] [eC] [cL] [cM] [dG] [dE] [bI] [bM] [cA] [cB] [gw] [gz] [gg] [eu] [gH] [gY] [dR] [jf]
theorem GC(l:List Int)(h0:l≠[])(hl:l.length≤1000000):aG 0 N.aY [.fn N.ak [.bp 0 0]] [.box [.t (tL l)]]=some (.ref 1 0 l.length,[.box [.t (tL l)],fB (gv l)]):=by
 refine AA K.eh (by decide) ?_
 show sK [5,N.ak] _ _=_
 simp only[sK,if_true,List.getElem?_cons_zero,nJ,aLq,x7]
 rw[if_pos (by unfold lim;omega)]
 cases l with
 | nil=>exact absurd rfl h0
 | cons x l=>simp only[List.isEmpty_cons,aLt,if_false,List.length_singleton,List.map_map,fB];rfl
theorem Db:aG 0 N.aY [.fn N.ak [.bp 0 0]] [.box [.t (tL [])]]=some (.nil,[.box [.t (tL [])]]):=by
 refine AA K.eh (by decide) ?_
 show sK [5,N.ak] _ _=_
 simp only[sK,if_true,List.getElem?_cons_zero,nJ,aLq,x7]
 rw[if_pos (by simp[lim])]
 rfl
theorem Dc:aG 1 N.aB [.nil] []=some (.nil,[]):=by
 refine ay K.cD rfl ?_
 simp(disch:=omega)only[go_sem,K.aB,↓reduceIte,reduceAdd,reduceSub]
theorem mh(H H1:ae):jV H H1 [] (.nil,[])=some (.nil,H1):=by simp[jV,w6,kM,T.scalar,ren,depth,aW,aO,eW]
theorem pA(H:ae):qk H (.nil,[])=some (.nil,H):=by simp[qk,rD,ren,depth,aW]
def okU(R:List (List Int))(lf u:List Int)(k:Nat):Bool:=decide (0≤nth u k∧nth u k<lf.length)&&(decide (0<nth lf (nth u k).toNat)&&j3 R (tD lf (nth u k).toNat))
theorem GD{R:List (List Int)}{w lf u:List Int}(hu:u.Pairwise (· < ·))(hm:∀x,x∈u↔x∈w):
 nB R w lf=((List.range u.length).find? (okU R lf u)).map fun k=>(nth u k).toNat:=by
 have ok:∀k,okU R lf u k=true→k<u.length→0≤nth u k∧(nth u k).toNat<lf.length∧okS R w lf (nth u k).toNat=true:=fun k h hk=>by
  unfold okU at h
  rw[aLr,decide_eq_true_iff]at h
  obtain⟨⟨a,b⟩,c⟩:=h
  refine⟨a,by omega,?_⟩
  unfold okS
  rw[aLr,decide_eq_true_iff,Int.toNat_of_nonneg a]
  exact⟨(hm _).1 (aI hk),c⟩
 have ko:∀s,s<lf.length→okS R w lf s=true→∃k,k<u.length∧nth u k=s∧okU R lf u k=true:=fun s hs h=>by
  unfold okS at h
  rw[aLr,decide_eq_true_iff]at h
  obtain⟨a,b⟩:=h
  obtain⟨k,hk⟩:=aLf.1 ((hm _).2 a)
  have kl:=(aLe.1 hk).1
  have e:nth u k=(s:Int):=fw hk
  refine⟨k,kl,e,?_⟩
  unfold okU
  rw[aLr,decide_eq_true_iff,e,Int.toNat_natCast]
  exact⟨⟨by omega,by omega⟩,b⟩
 unfold nB
 cases hf:(List.range u.length).find? (okU R lf u)with
 | none=>
   rw[Option.map_none,List.find?_eq_none]
   intro s hs h
   obtain⟨k,kl, -,hk⟩:=ko s (aLu.1 hs) h
   exact List.find?_eq_none.1 hf k (aLu.2 kl) hk
 | some k=>
   have kl:=aLu.1 (List.mem_of_find?_eq_some hf)
   obtain⟨a,b,c⟩:=ok k (List.find?_some hf) kl
   have fst:∀i,i<k→okU R lf u i=false:=fun i hi=>by
    have:=(List.find?_range_eq_some.1 hf).2.2 i hi
    simpa using this
   rw[aLw,List.find?_range_eq_some]
   refine⟨c,aLu.2 b,fun s hs=>?_⟩
   cases e:okS R w lf s with
   | false=>rfl
   | true=>
     exfalso
     obtain⟨i,il,e1,e2⟩:=ko s (by omega) e
     have ik:i<k:=by
      rcases Nat.lt_trichotomy i k with q | q | q
      · exact q
      · subst q;omega
      · have:=List.pairwise_iff_getElem.1 hu k i kl il q
        have n1:nth u k=u[k]:=fw (aLc kl)
        have n2:nth u i=u[i]:=fw (aLc il)
        omega
     rw[fst i ik]at e2
     exact absurd e2 (by simp)
theorem Ny{W:List (List Int)}{n:Nat}(hW:W.length≤12)(hS:n≤1000)(hl:∀i,(nth W i).length≤1000000){lf o:List Int}(sk:lJ lf n)(ho:o.length≤100){i:Nat}(hi:i<W.length)(w:List Int)(u:List Int)(ep:Nat)(hu:u.length≤1000000):
 ∀z1 z2 z3 z7 z8:D,exS aG K.jG ⟨[.t (.sl (W.map tL)),z1,z2,z3,.ref 0 0 n,.ref 1 0 o.length,I i,z7,z8,.t (.sl (W.map tL)),I W.length,I i,.ref 3 ep u.length,I u.length,I 0],[fB lf,fB o,.box [.t (tL w)],uI u ep]⟩=some (match (List.range u.length).find? (okU (W.drop (i+1)) lf u)with
  | some k=>(.exit 2,⟨[.t (.sl (W.map tL)),.und,.und,.und,.ref 0 0 n,.ref 1 0 (o.length+1),I i,.und,I (nth u k),.t (.sl (W.map tL)),I W.length,I i,.ref 3 ep u.length,I u.length,I k],[fB (tD lf (nth u k).toNat),fB (o++[nth u k]),.box [.t (tL w)],uI u ep]⟩)
  | none=>(.exit 2,⟨[.t (.sl (W.map tL)),.und,.und,.und,.ref 0 0 n,.ref 1 0 o.length,I i,.und,.und,.t (.sl (W.map tL)),I W.length,I i,.ref 3 ep u.length,I u.length,I u.length],[fB lf,fB o,.box [.t (tL w)],uI u ep]⟩)):=by
 intro z1 z2 z3 z7 z8
 have ll:=sk.len
 have cw:bK 1 (W.map tL)=true:=iz 1 _ (fun _=>rfl) W
 have tn:((i:Int)+1).toNat=i+1:=by omega
 have rl:(W.drop (i+1)).length=W.length-(i+1):=List.length_drop
 have wi:IntKind.i64.wrap ((i:Int)+1)=(i:Int)+1:=bU (by omega) (by omega)
 have wj:IntKind.i64.wrap ((W.length:Int)-i)=(W.length:Int)-i:=bU (by omega) (by omega)
 have wm:IntKind.i64.wrap ((W.length:Int)-i-1)=(W.length:Int)-i-1:=bU (by omega) (by omega)
 have wn:IntKind.i64.wrap ((n:Int)-1)=(n:Int)-1:=bU (by omega) (by omega)
 have mo:∀lg:List Int,lg.length=n→aG 0 N.bR [.t (.sl ((W.map tL).drop (i+1))),.t (tL lg)] []=some (I (kB (W.drop (i+1)) lg),[]):=fun lg h=>by
  rw[← List.map_drop]
  exact(rU (by omega) (by omega) (Bg hl _)).1
 have fm:∀lg:List Int,j3 (W.drop (i+1)) lg=decide (kB (W.drop (i+1)) lg=(W.length:Int)-i-1):=fun lg=>by
  unfold j3
  rw[show((W.drop (i+1)).length:Int)=(W.length:Int)-i-1 by omega]
 have sb:=sk.bd
 have inn:=fun x:Int=>IA x 0 ((n:Int)-1)
 refine dO (fun k=>⟨[.t (.sl (W.map tL)),.und,.und,.und,.ref 0 0 n,.ref 1 0 o.length,I i,.und,.und,.t (.sl (W.map tL)),I W.length,I i,.ref 3 ep u.length,I u.length,I k],[fB lf,fB o,.box [.t (tL w)],uI u ep]⟩) u.length (okU (W.drop (i+1)) lf u) (fun k=>(.exit 2,⟨[.t (.sl (W.map tL)),.und,.und,.und,.ref 0 0 n,.ref 1 0 (o.length+1),I i,.und,I (nth u k),.t (.sl (W.map tL)),I W.length,I i,.ref 3 ep u.length,I u.length,I k],[fB (tD lf (nth u k).toNat),fB (o++[nth u k]),.box [.t (tL w)],uI u ep]⟩)) _ rfl ?_ ?_ ?_ (by simp)
 · intro k hk hp
   have ug:=bz (l:=u) (Ev.T.int .i64) hk
   have i1:=inn (nth u k)
   unfold okU at hp
   rw[fm]at hp
   by_cases c0:0≤nth u k∧nth u k≤(n:Int)-1
   · rw[decide_eq_true c0]at i1
     rw[decide_eq_true (p:=0≤nth u k∧nth u k<lf.length) ⟨c0.1,by omega⟩,Bool.true_and]at hp
     obtain⟨s,hs⟩:=Int.eq_ofNat_of_zero_le c0.1
     rw[hs]at hp i1 c0
     rw[Int.toNat_natCast]at hp
     have b:=sb s
     have sbk:=Fe (l:=lf) (i:=s) (x:=nth lf s-1+1) (by omega) (by omega)
     have h2:=mo (tD lf s) (by unfold tD;rw[List.length_set,ll])
     have n2:nth (tD lf s) s=nth lf s-1:=qH (by omega)
     clear sb mo sk fm inn
     unfold tD at*
     generalize hd:lf.set s (nth lf s-1)=lf2 at*
     have l2:lf2.length=n:=by subst hd;rw[List.length_set,ll]
     generalize kB (W.drop (i+1)) lf2=f at*
     simp only[tL,uI,fB]at*
     by_cases c2:nth lf s<1
     · simp(disch:=omega)only[go_sem,K.di,↓reduceIte,ug,hs,wn,i1,c2,Bool.not_true,decide_true,aLt,reduceAdd,reduceSub]
     · rw[decide_eq_true (by omega),Bool.true_and,decide_eq_false_iff_not]at hp
       have w0:IntKind.i64.wrap (nth lf s-1)=nth lf s-1:=bU (by omega) (by omega)
       have wk:IntKind.i64.wrap (nth lf s-1+1)=nth lf s-1+1:=bU (by omega) (by omega)
       simp(disch:=omega)only[go_sem,K.di,↓reduceIte,ug,hs,wn,i1,c2,w0,wi,cw,tn,h2,hd,n2,wk,sbk,wj,wm,hp,Bool.not_true,decide_false,aLt,reduceAdd,reduceSub]
   · rw[decide_eq_false c0]at i1
     clear sb mo sk fm inn hp
     simp only[tL,uI,fB]at*
     simp(disch:=omega)only[go_sem,K.di,↓reduceIte,ug,wn,i1,Bool.not_false,aLt,reduceAdd,reduceSub]
 · intro k hk hp
   refine⟨?_,by simp⟩
   have ug:=bz (l:=u) (Ev.T.int .i64) hk
   have i1:=inn (nth u k)
   unfold okU at hp
   rw[fm,aLr,aLr,decide_eq_true_iff,decide_eq_true_iff,decide_eq_true_iff]at hp
   obtain⟨⟨c0,c1⟩,c2,c4⟩:=hp
   obtain⟨s,hs⟩:=Int.eq_ofNat_of_zero_le c0
   rw[decide_eq_true ⟨c0,by omega⟩]at i1
   rw[hs]at i1 c0 c1 c2 c4 ⊢
   rw[Int.toNat_natCast]at c2 c4 ⊢
   have b:=sb s
   have h2:=mo (tD lf s) (by unfold tD;rw[List.length_set,ll])
   rw[c4]at h2
   clear sb mo sk fm inn c4
   unfold tD at*
   generalize hd:lf.set s (nth lf s-1)=lf2 at*
   have l2:lf2.length=n:=by subst hd;rw[List.length_set,ll]
   have w0:IntKind.i64.wrap (nth lf s-1)=nth lf s-1:=bU (by omega) (by omega)
   have c3:¬nth lf s<1:=by omega
   simp only[tL,uI,fB]at*
   simp(disch:=omega)only[go_sem,K.di,↓reduceIte,ug,hs,wn,i1,c3,w0,wi,cw,tn,h2,hd,wj,wm,Bool.not_true,decide_false,aLt,reduceAdd,reduceSub]
 · simp only[tL,uI,fB]
   simp(disch:=omega)only[go_sem,K.di,↓reduceIte,reduceAdd,reduceSub]
theorem Kp(x0 x9 x10 x4 x5 x6 x11:D)(H:ae):∀z1 z2 z3 z7 z8:D,exS aG K.jG ⟨[x0,z1,z2,z3,x4,x5,x6,z7,z8,x9,x10,x11,.nil,I 0,I 0],H⟩=some (.exit 2,⟨[x0,.und,.und,.und,x4,x5,x6,.und,.und,x9,x10,x11,.nil,I 0,I 0],H⟩):=by
 intro z1 z2 z3 z7 z8
 refine bV (fun _=>⟨[x0,.und,.und,.und,x4,x5,x6,.und,.und,x9,x10,x11,.nil,I 0,I 0],H⟩) 0 rfl (fun j hj=>absurd hj (by omega)) ?_ (by simp)
 simp(disch:=omega)only[go_sem,K.di,↓reduceIte,reduceAdd,reduceSub]
theorem GF{W:List (List Int)}{S:List Int}(hW:W.length≤12)(hS:S.length≤1000)(hl:∀i,(nth W i).length≤100000)(sk:lJ S S.length):aG 0 N.cq [.t (.sl (W.map tL)),.t (tL S)] []=some (.tup [.t (tL (Nx W S)),B (j3 W S)],[]):=by
 refine ay K.km rfl ?_
 have hl2:∀i,(nth W i).length≤1000000:=fun i=>by have:=hl i;omega
 obtain⟨mo,c,mc, -,cw⟩:=rU hW hS hl2
 have cl:=Ja S (by omega)
 unfold Nx
 by_cases hf:j3 W S=true
 · rw[hf]
   have lt:¬kB W S<W.length:=by unfold j3 at hf;rw[decide_eq_true_iff]at hf;omega
   have ok:=fun i=>zl W sk i
   generalize kB W S=mf at*
   have lp:∀z1 z2 z3 z6 z7 z8 z12 z13 z14:D,exS aG K.ny ⟨[.t (.sl (W.map tL)),z1,z2,z3,.ref 0 0 S.length,.ref 1 0 0,z6,z7,z8,.t (.sl (W.map tL)),I W.length,I 0,z12,z13,z14],[fB S,.arr 1 false 0 []]⟩=
    some (.exit 0,⟨[.t (.sl (W.map tL)),.und,.und,.und,.ref 0 0 S.length,.ref 1 0 (m5 W S W.length).2.length,.und,.und,.und,.t (.sl (W.map tL)),I W.length,I W.length,.und,.und,.und],[fB (m5 W S W.length).1,fB (m5 W S W.length).2]⟩):=by
    intro z1 z2 z3 z6 z7 z8 z12 z13 z14
    refine bV (fun j=>⟨[.t (.sl (W.map tL)),.und,.und,.und,.ref 0 0 S.length,.ref 1 0 (m5 W S j).2.length,.und,.und,.und,.t (.sl (W.map tL)),I W.length,I j,.und,.und,.und],[fB (m5 W S j).1,fB (m5 W S j).2]⟩) W.length rfl ?_ ?_ (by simp)
    · intro j hj
      obtain⟨o1,o2⟩:=ok j
      have o3:(m5 W S j).2.length≤100:=by omega
      have wg:=bz (l:=W) tL hj
      have va:=Jf (nth W j)
      have wl:=hl j
      by_cases wn:nth W j=[]
      · have ln:nB (W.drop (j+1)) (nth W j) (m5 W S j).1=none:=by
         unfold nB
         rw[List.find?_eq_none]
         intro s _
         rw[wn]
         simp[okS]
        have so:=Db
        have co:=Dc
        rw[m5,ln]
        have e:=o1.len
        clear ln ok o1
        generalize m5 W S j=p at*
        obtain⟨lf,q⟩:=p
        generalize nth W j=w at*
        subst wn
        have l2:=fun x6 x11=>Kp (.t (.sl (W.map tL))) (.t (.sl (W.map tL))) (I W.length) (.ref 0 0 S.length) (.ref 1 0 q.length) x6 x11 [fB lf,fB q,.box [.t (.sl [])]]
        simp only[tL,List.map_nil,fB]at*
        simp(disch:=omega)only[go_sem,K.fh,↓reduceIte,wg,va,so,co,l2,mh,reduceAdd,reduceSub]
      · have so:=GC (nth W j) wn (by omega)
        have sn:=gS (nth W j)
        obtain⟨ep,co⟩:=GB (gv (nth W j)) (by omega)
        have up:=TV (uZ (nth W j))
        have um:∀x,x∈uv (gv (nth W j))↔x∈nth W j:=fun x=>by rw[Ni (uZ _),(ph _).mem_iff]
        have ul:(uv (gv (nth W j))).length≤1000000:=by
         have:=E5 (dH (gv (nth W j))) (gv (nth W j)) (gv (nth W j)).length
         unfold uv
         omega
        rw[sn]at co
        have lf:=GD (R:=W.drop (j+1)) (lf:=(m5 W S j).1) up um
        rw[m5,lf]
        clear lf up um
        generalize uv (gv (nth W j))=u at*
        have l2:=Ny hW hS hl2 o1 o3 hj (nth W j) u ep ul
        have e:=o1.len
        have fr:∀k,(List.range u.length).find? (okU (W.drop (j+1)) (m5 W S j).1 u)=some k→0≤nth u k:=fun k h=>by
         have:=List.find?_some h
         unfold okU at this
         rw[aLr,decide_eq_true_iff]at this
         exact this.1.1
        clear o1 ok
        generalize m5 W S j=p at*
        obtain⟨lf,q⟩:=p
        simp only at*
        generalize (List.range u.length).find? (okU (W.drop (j+1)) lf u)=r at*
        generalize gv (nth W j)=sw at*
        generalize nth W j=w at*
        cases r with
        | none=>
          simp only[Option.map_none,tL,uI,fB]at*
          simp(disch:=omega)only[go_sem,K.fh,↓reduceIte,wg,va,so,co,l2,reduceAdd,reduceSub]
        | some k=>
          have k0:=fr k rfl
          obtain⟨x,hx⟩:=Int.eq_ofNat_of_zero_le k0
          simp only[aLw,tL,uI,fB,hx,Int.toNat_natCast]at*
          generalize tD lf x=lf2 at*
          simp(disch:=omega)only[go_sem,K.fh,↓reduceIte,wg,va,so,co,l2,reduceAdd,reduceSub]
    · simp only[tL,fB]
      simp(disch:=omega)only[go_sem,K.fh,↓reduceIte,reduceAdd,reduceSub]
   obtain⟨o1,o2⟩:=ok W.length
   have e:=o1.len
   clear o1 ok sk
   generalize m5 W S W.length=p at*
   obtain⟨lf,o⟩:=p
   simp only[tL,if_true,List.map_nil,fB]at*
   simp(disch:=omega)only[go_sem,K.cq,↓reduceIte,mo,lt,cl,lp,reduceAdd,reduceSub]
 · rw[Bool.not_eq_true]at hf
   rw[hf]
   have lt:kB W S<W.length:=by unfold j3 at hf;rw[decide_eq_false_iff_not]at hf;omega
   have e:tL (if false=true then(m5 W S W.length).2 else [])= .sl []:=rfl
   rw[e]
   clear e
   simp(disch:=omega)only[go_sem,K.cq,↓reduceIte,mo,lt,reduceAdd,reduceSub]
end Go.Ev
namespace Go.Ev
open Go
def Bh(W:List (List Int))(S:List Int)(X:List Nat):Bool:= !j3 (bO W X) S
def fF(W:List (List Int))(S:List Int):Nat→List Nat→Nat→Option (List Nat)
 | 0,b,_=>if Bh W S b then some b else none
 | k+1,b,next=>match (List.range (W.length-next)).find? (fun j=>(fF W S k (b++[next+j]) (next+j+1)).isSome)with
   | some j=>fF W S k (b++[next+j]) (next+j+1)
   | none=>none
def nC(W:List (List Int))(S:List Int):Option (List Nat):=match (List.range W.length).find? (fun j=>(fF W S (j+1) [] 0).isSome)with
 | some j=>fF W S (j+1) [] 0
 | none=>none
def sG:List Nat→List Nat→Bool
 | x::a,y::b=>if x=y then sG a b else decide (x<y)
 | _,_=>false
theorem su:∀a:List Nat,sG a a=false
 | []=>rfl
 | x::a=>by rw[sG,if_pos rfl,su a]
theorem Nz(a x y:List Nat):sG (a++x) (a++y)=sG x y:=by
 induction a with
 | nil=>rfl
 | cons z a ih=>rw[List.cons_append,List.cons_append,sG,if_pos rfl,ih]
theorem ye:∀ {a b c:List Nat},a.length=b.length→b.length=c.length→sG a b=true→sG b c=true→sG a c=true
 | [],b,c,_,_,h,_=>by simp[sG]at h
 | x::a,[],c,h,_,_,_=>by simp at h
 | x::a,y::b,[],_,h,_,_=>by simp at h
 | x::a,y::b,z::c,h1,h2,g1,g2=>by
   simp only[sG,List.length_cons]at*
   by_cases c1:x=y
   · subst c1
     rw[if_pos rfl]at g1
     by_cases c2:x=z
     · subst c2
       rw[if_pos rfl]at g2 ⊢
       exact ye (by omega) (by omega) g1 g2
     · rw[if_neg c2]at g2 ⊢;exact g2
   · rw[if_neg c1,decide_eq_true_iff]at g1
     by_cases c2:y=z
     · subst c2
       rw[if_neg c1];simpa using g1
     · rw[if_neg c2,decide_eq_true_iff]at g2
       rw[if_neg (by omega)]
       simp;omega
theorem Ff:∀ {a b:List Nat},a.length=b.length→sG a b=false→sG b a=false→a=b
 | [],[],_,_,_=>rfl
 | [],y::b,h,_,_=>by simp at h
 | x::a,[],h,_,_=>by simp at h
 | x::a,y::b,h,g1,g2=>by
   simp only[sG,List.length_cons]at*
   by_cases c1:x=y
   · subst c1
     rw[if_pos rfl]at g1 g2
     rw[Ff (by omega) g1 g2]
   · rw[if_neg c1,decide_eq_false_iff_not]at g1
     rw[if_neg fun e=>c1 e.symm,decide_eq_false_iff_not]at g2
     omega
structure UpX(n:Nat)(X:List Nat):Prop where
 up:X.Pairwise (· < ·)
 lt:∀x∈X,x<n
theorem j5(W:List (List Int))(S:List Int):∀k b next,(match fF W S k b next with
 | some l=>(∃Y,l=b++Y∧Y.length=k∧UpX W.length Y∧∀y∈Y,next≤y)∧Bh W S l=true∧∀Y,Y.length=k→UpX W.length Y→(∀y∈Y,next≤y)→Bh W S (b++Y)=true→sG (b++Y) l=false
 | none=>∀Y,Y.length=k→UpX W.length Y→(∀y∈Y,next≤y)→Bh W S (b++Y)=false)
 | 0,b,next=>by
   have nilE:∀Y:List Nat,Y.length=0→b++Y=b:=fun Y h=>by rw[List.length_eq_zero_iff.1 h,List.append_nil]
   rw[fF]
   by_cases c:Bh W S b=true
   · rw[if_pos c]
     exact⟨⟨[],by simp,rfl,⟨by simp,by simp⟩,by simp⟩,c,fun Y h _ _ _=>by rw[nilE Y h];exact su b⟩
   · rw[if_neg c]
     intro Y h _ _
     rw[nilE Y h];simpa using c
 | k+1,b,next=>by
   have ih:=fun j=>j5 W S k (b++[next+j]) (next+j+1)
   have cut:∀Y:List Nat,Y.length=k+1→UpX W.length Y→(∀y∈Y,next≤y)→∃j Z,Y=(next+j)::Z∧j<W.length-next∧Z.length=k∧UpX W.length Z∧∀y∈Z,next+j+1≤y:=fun Y h1 h2 h3=>by
    cases Y with
    | nil=>simp at h1
    | cons y Z=>
      have a:=h3 y List.mem_cons_self
      have b:=h2.lt y List.mem_cons_self
      obtain⟨u1,u2⟩:=List.pairwise_cons.1 h2.up
      refine⟨y-next,Z,by rw[show next+(y-next)=y by omega],by omega,by simpa using h1,⟨u2,fun x hx=>h2.lt x (List.mem_cons_of_mem _ hx)⟩,fun z hz=>?_⟩
      have:=u1 z hz
      omega
   rw[fF]
   cases hf:(List.range (W.length-next)).find? (fun j=>(fF W S k (b++[next+j]) (next+j+1)).isSome)with
   | none=>
     simp only
     intro Y h1 h2 h3
     obtain⟨j,Z,rfl,jl,z1,z2,z3⟩:=cut Y h1 h2 h3
     have no:=List.find?_eq_none.1 hf j (aLu.2 jl)
     have i:=ih j
     cases hp:fF W S k (b++[next+j]) (next+j+1)with
     | some l=>rw[hp]at no;simp at no
     | none=>
       rw[hp]at i
       have:=i Z z1 z2 z3
       rw[List.append_assoc]at this
       exact this
   | some j=>
     simp only
     obtain⟨f1,f2,f3⟩:=List.find?_range_eq_some.1 hf
     have jl:=aLu.1 f2
     have i:=ih j
     cases hp:fF W S k (b++[next+j]) (next+j+1)with
     | none=>rw[hp]at f1;simp at f1
     | some l=>
       rw[hp]at i
       simp only at i ⊢
       obtain⟨⟨Y,e,y1,y2,y3⟩,bd,mn⟩:=i
       refine⟨⟨(next+j)::Y,by rw[e,List.append_assoc];rfl,by simp[y1],⟨List.pairwise_cons.2 ⟨fun z hz=>by have:=y3 z hz;omega,y2.up⟩,fun x hx=>?_⟩,fun x hx=>?_⟩,bd,fun X h1 h2 h3 hb=>?_⟩
       · rcases List.mem_cons.1 hx with rfl | hx
         · omega
         · exact y2.lt x hx
       · rcases List.mem_cons.1 hx with rfl | hx
         · omega
         · have:=y3 x hx;omega
       · obtain⟨i,Z,rfl,il,z1,z2,z3⟩:=cut X h1 h2 h3
         rcases Nat.lt_trichotomy i j with q | q | q
         · have no:=f3 i q
           have ii:=ih i
           cases hq:fF W S k (b++[next+i]) (next+i+1)with
           | some l2=>rw[hq]at no;simp at no
           | none=>
             rw[hq]at ii
             have:=ii Z z1 z2 z3
             rw[List.append_assoc,show [next+i]++Z=(next+i)::Z from rfl,hb]at this
             exact absurd this (by simp)
         · subst q
           have:=mn Z z1 z2 z3 (by rw[List.append_assoc];exact hb)
           rw[List.append_assoc]at this
           exact this
         · rw[e,List.append_assoc,Nz]
           show sG ((next+i)::Z) ((next+j)::Y)=false
           rw[sG,if_neg (by omega)]
           simp;omega
theorem Dd{W:List (List Int)}{S:List Int}(h:nC W S=none){X:List Nat}(hx:X≠[])(u:UpX W.length X)(hl:X.length≤W.length):Bh W S X=false:=by
 have l0:0<X.length:=List.length_pos_iff.2 hx
 unfold nC at h
 cases hf:(List.range W.length).find? (fun j=>(fF W S (j+1) [] 0).isSome)with
 | some j=>
   rw[hf]at h
   have:=List.find?_some hf
   simp only at h this
   rw[h]at this
   simp at this
 | none=>
   have no:=List.find?_eq_none.1 hf (X.length-1) (aLu.2 (by omega))
   have sp:=j5 W S (X.length-1+1) [] 0
   cases hp:fF W S (X.length-1+1) [] 0 with
   | some l=>rw[hp]at no;simp at no
   | none=>
     rw[hp]at sp
     exact sp X (by omega) u (fun _ _=>Nat.zero_le _)
theorem wR{W:List (List Int)}{S:List Int}{l:List Nat}(h:nC W S=some l):l≠[]∧UpX W.length l∧l.length≤W.length∧Bh W S l=true∧
 (∀X,X≠[]→UpX W.length X→X.length<l.length→Bh W S X=false)∧∀X,UpX W.length X→X.length=l.length→Bh W S X=true→sG X l=false:=by
 unfold nC at h
 cases hf:(List.range W.length).find? (fun j=>(fF W S (j+1) [] 0).isSome)with
 | none=>rw[hf]at h;simp at h
 | some j=>
   rw[hf]at h
   simp only at h
   obtain⟨f1,f2,f3⟩:=List.find?_range_eq_some.1 hf
   have jl:=aLu.1 f2
   have sp:=j5 W S (j+1) [] 0
   rw[h]at sp
   obtain⟨⟨Y,e,y1,y2,y3⟩,bd,mn⟩:=sp
   rw[List.nil_append]at e
   subst e
   refine⟨fun e=>by rw[e]at y1;simp at y1,y2,by omega,bd,fun X hx hu hl=>?_,fun X hu hl hb=>mn X (by omega) hu (fun _ _=>Nat.zero_le _) hb⟩
   have l0:0<X.length:=List.length_pos_iff.2 hx
   have no:=f3 (X.length-1) (by omega)
   have sp:=j5 W S (X.length-1+1) [] 0
   cases hp:fF W S (X.length-1+1) [] 0 with
   | some l=>rw[hp]at no;simp at no
   | none=>
     rw[hp]at sp
     exact sp X (by omega) hu (fun _ _=>Nat.zero_le _)
theorem Fg(n s:Nat):UpX n (aR n s):=⟨List.Pairwise.filter _ List.pairwise_lt_range,fun x hx=>EN hx⟩
theorem Kq{n:Nat}{X:List Nat}(h:UpX n X):∃s,s<2 ^ n∧X=aR n s:=by
 obtain⟨s,a,b⟩:=wD (fun i=>decide (i∈X)) n
 refine⟨s,a,?_⟩
 rw[← b]
 have u2:((List.range n).filter fun i=>decide (i∈X)).Pairwise (· < ·):=List.Pairwise.filter _ List.pairwise_lt_range
 have nd:∀ {l:List Nat},l.Pairwise (· < ·)→l.Nodup:=fun h=>h.imp fun{a b} k=>by omega
 have pm:=(List.perm_ext_iff_of_nodup (nd h.up) (nd u2)).2 fun x=>by
  rw[List.mem_filter,aLu,decide_eq_true_iff]
  exact⟨fun k=>⟨h.lt x k,k⟩,fun k=>k.2⟩
 exact pm.eq_of_pairwise (fun a b _ _ h1 h2=>by omega) h.up u2
def GH(W:List (List Int))(S:List Int)(best:Option (List Nat))(l:List Nat):Bool:=(match best with
 | some b=>decide (b.length<l.length)||(decide (l.length=b.length)&& !sG l b)
 | none=>false)||j3 (bO W l) S
def pH(W:List (List Int))(S:List Int):Nat→Option (List Nat)
 | 0=>none
 | j+1=>if GH W S (pH W S j) (aR W.length (j+1))then pH W S j else some (aR W.length (j+1))
def ltX(a b:List Nat):Prop:=a.length<b.length∨(a.length=b.length∧sG a b=true)
theorem Kr{a b c:List Nat}(h:ltX a b)(g:ltX b c):ltX a c:=by
 unfold ltX at*
 rcases h with h | ⟨h1,h2⟩<;>rcases g with g | ⟨g1,g2⟩
 · exact .inl (by omega)
 · exact .inl (by omega)
 · exact .inl (by omega)
 · exact .inr ⟨by omega,ye h1 g1 h2 g2⟩
theorem De{W:List (List Int)}{S:List Int}{o:Option (List Nat)}{l:List Nat}(h:GH W S o l=false):Bh W S l=true∧∀b,o=some b→ltX l b:=by
 unfold GH at h
 rw[Bool.or_eq_false_iff]at h
 refine⟨by unfold Bh;rw[h.2];rfl,fun b e=>?_⟩
 subst e
 have h:=h.1
 simp only[Bool.or_eq_false_iff,Bool.and_eq_false_iff,decide_eq_false_iff_not,Bool.not_eq_false']at h
 unfold ltX
 by_cases c:l.length=b.length
 · exact .inr ⟨c,h.2.resolve_left (fun k=>k c)⟩
 · exact .inl (by omega)
theorem Bi(W:List (List Int))(S:List Int):∀j,(∀b,pH W S j=some b→Bh W S b=true∧(∃s,0<s∧b=aR W.length s))∧∀s,0<s→s≤j→Bh W S (aR W.length s)=true→∃b,pH W S j=some b∧¬ltX (aR W.length s) b
 | 0=>⟨fun b h=>by simp[pH]at h,fun s h1 h2=>by omega⟩
 | j+1=>by
   obtain⟨i1,i2⟩:=Bi W S j
   rw[pH]
   cases hs:GH W S (pH W S j) (aR W.length (j+1))with
   | true=>
     rw[if_pos rfl]
     refine⟨i1,fun s h1 h2 hb=>?_⟩
     by_cases e:s=j+1
     · subst e
       unfold GH at hs
       unfold Bh at hb
       rw[Bool.not_eq_true']at hb
       rw[hb,Bool.or_false]at hs
       cases hn:pH W S j with
       | none=>rw[hn]at hs;simp at hs
       | some b=>
         rw[hn]at hs
         refine⟨b,rfl,fun k=>?_⟩
         simp only[Bool.or_eq_true,aLr,decide_eq_true_iff,Bool.not_eq_true']at hs
         rcases k with k | ⟨k1,k2⟩<;>rcases hs with q | ⟨q1,q2⟩
         · omega
         · omega
         · omega
         · rw[k2]at q2;exact absurd q2 (by simp)
     · exact i2 s h1 (by omega) hb
   | false=>
     obtain⟨b1,b2⟩:=De hs
     rw[if_neg (by simp)]
     refine⟨fun b h=>by cases h;exact⟨b1,j+1,by omega,rfl⟩,fun s h1 h2 hb=>⟨_,rfl,fun k=>?_⟩⟩
     by_cases e:s=j+1
     · subst e
       rcases k with k | ⟨-,k⟩
       · omega
       · rw[su]at k;exact absurd k (by simp)
     · obtain⟨b,e1,e2⟩:=i2 s h1 (by omega) hb
       exact e2 (Kr k (b2 b e1))
theorem Ub{n:Nat}{X:List Nat}(h:UpX n X):X.length≤n:=by
 obtain⟨s, -,rfl⟩:=Kq h
 have:=List.length_filter_le (zD s) (List.range n)
 rw[List.length_range]at this;exact this
theorem NA(W:List (List Int))(S:List Int):pH W S (2 ^ W.length-1)=nC W S:=by
 obtain⟨i1,i2⟩:=Bi W S (2 ^ W.length-1)
 have nz:∀s,0<s→s<2 ^ W.length→aR W.length s≠[]:=fun s h0 h1 e=>by
  unfold aR at e
  rw[List.filter_eq_nil_iff]at e
  obtain⟨i,hi⟩:=Nat.exists_testBit_of_ne_zero (x:=s) (by omega)
  have il:i<W.length:=by
   refine Classical.byContradiction fun k=>?_
   have:s<2 ^ i:=Nat.lt_of_lt_of_le h1 (Nat.pow_le_pow_right (by omega) (by omega))
   rw[Nat.testBit_lt_two_pow this]at hi
   exact absurd hi (by simp)
  have:=e i (aLu.2 il)
  rw[Nat.testBit_eq_decide_div_mod_eq]at hi
  exact this hi
 have mk:∀X,X≠[]→UpX W.length X→∃s,0<s∧s≤2 ^ W.length-1∧X=aR W.length s:=fun X hx hu=>by
  obtain⟨s,a,e⟩:=Kq hu
  refine⟨s,Nat.pos_of_ne_zero fun z=>?_,by omega,e⟩
  subst z
  rw[tv]at e
  exact hx e
 cases hs:nC W S with
 | none=>
   cases hb:pH W S (2 ^ W.length-1)with
   | none=>rfl
   | some b=>
     obtain⟨b1,s,s0,rfl⟩:=i1 b hb
     have u:=Fg W.length s
     by_cases e:aR W.length s=[]
     · rw[e]at b1
       unfold Bh j3 kB at b1
       simp[kz]at b1
     · rw[Dd hs e u (Ub u)]at b1
       exact absurd b1 (by simp)
 | some l=>
   obtain⟨l0,lu,ll,lb,ls,lm⟩:=wR hs
   obtain⟨s,s0,s1,e⟩:=mk l l0 lu
   obtain⟨b,hb,nl⟩:=i2 s s0 s1 (by rw[← e];exact lb)
   rw[← e]at nl
   obtain⟨b1,t,t0,eb⟩:=i1 b hb
   have u:UpX W.length b:=by rw[eb];exact Fg W.length t
   have bn:b≠[]:=fun k=>by
    rw[k]at b1
    unfold Bh j3 kB at b1
    simp[kz]at b1
   have n1:¬b.length<l.length:=fun k=>by
    rw[ls b bn u k]at b1
    exact absurd b1 (by simp)
   have n2:¬l.length<b.length:=fun k=>nl (.inl k)
   have el:l.length=b.length:=by omega
   have n3:=lm b u (by omega) b1
   have n4:sG l b=false:=by
    cases k:sG l b with
    | false=>rfl
    | true=>exact absurd (.inr ⟨el,k⟩) nl
   rw[hb,Ff el n4 n3]
end Go.Ev
namespace Go.Ev
open Go
variable [Lib] [aZ] [bc] [cG] [cJ] [eC] [cL] [cM] [dG] [dE] [bI] [bM] [cA] [cB] [gw] [gz] [gg] [eu] [gH] [gY] [dR] [jf]
abbrev cN(X:List Nat):List Int:=X.map fun(i:Nat)=>(i:Int)
theorem Bj(H:ae)(es:List T):qk H (.cl es,[])=some (.cl es,H):=by simp[qk,rD,ren,depth,aW]
theorem Uc(l:List Int):aG 1 N.bu [.t (tL l)] []=some (.cl (l.map (.int .i64)),[]):=by
 refine ay K.gI rfl ?_
 have s3:evO aG (X.get [.t (tL l),.nil] [I l.length,.t (tL l),I l.length,.t (tL l),.t (tL l)]) [] (.s3 (.l 4) (.l 2) (.l 0))=some (.cl (l.map (.int .i64)),[]):=by
  simp only[evO,X.get,List.getElem?_cons_succ,List.getElem?_cons_zero,aLq,intOf,Lj,tL,List.length_map,and_self,if_true,aLw]
 simp only[tL]at*
 have od:old 0 8 (.cl (l.map (Ev.T.int .i64)))=true:=rfl
 simp(disch:=omega)only[go_sem,K.bu,↓reduceIte,s3,od,reduceAdd,reduceSub]
theorem Bk(H:ae)(l:List Int)(x:Int)(h:l.length≤1000):kP H 1 true (some (.cl (l.map (Ev.T.int .i64)))) (some (.t (.sl [Ev.T.int .i64 x])))=some (.ref H.length 0 (l.length+1),H++[.arr 1 false 0 ((l.map (Ev.T.int .i64)).map .t++[I x])]):=by
 have hs:bA 1 ((l.map (Ev.T.int .i64)).map D.t)=true:=by cases l<;>rfl
 simp only[kP,aLq,jw,elems,List.map_cons,List.map_nil,aW,frz,if_true,aLw,List.flatMap_cons,List.flatMap_nil,dC,pins,List.append_nil,List.length_map,aLv,List.length_singleton]
 rw[if_pos (show bA 1 [D.t (T.int IntKind.i64 x)]=true from rfl),if_pos ⟨by omega,by unfold lim;omega,hs⟩]
 rfl
theorem pB(H:ae)(x:T)(xs:List T):mF H .sl true (some (.t (.sl (x::xs)))) (some .nil)=some (B true,H):=rfl
abbrev zH:Option (List Nat)→D
 | some l=> .t (tL (cN l))
 | none=> .nil
theorem Ud{W:List (List Int)}{S:List Int}(hW:W.length≤12)(hS:S.length≤1000)(hl:∀i,(nth W i).length≤1000000){size:Nat}(sz:size≤12)(s0:0<size):∀(k:Nat) (b:List Nat) (next:Nat),b.length+k=size→(∀x∈b,x<W.length)→next≤W.length→
 aG 1 N.b6 [.t (.sl (W.map tL)),.t (tL S),.t (tL (cN b)),I next,I size] []=some (zH (fF W S k b next),[]):=by
 intro k
 induction k with
 | zero=>
   intro b next hb hm hn
   refine ay K.jY rfl ?_
   have cl:(cN b).length=size:=by rw[List.length_map];omega
   have pm:(bO W b).length=size:=by rw[List.length_map];omega
   have mo:=(rU (W:=bO W b) (S:=S) (by omega) hS (fun i=>vk hl b i)).1
   have pk:fF W S 0 b next=if kB (bO W b) S<size then some b else none:=by
    obtain⟨-,c,e, -,cw⟩:=rU (W:=bO W b) (S:=S) (by omega) hS (fun i=>vk hl b i)
    rw[fF]
    unfold Bh j3
    rw[pm]
    by_cases h:kB (bO W b) S<size
    · rw[if_pos h,decide_eq_false (by omega)];rfl
    · rw[if_neg h,decide_eq_true (by omega)];rfl
   rw[pk]
   have lp:∀z3 z5 z7 z8 z9:D,exS aG K.p4 ⟨[.t (.sl (W.map tL)),.t (tL S),.t (tL (cN b)),z3,I size,z5,.ref 0 0 0,z7,z8,z9,.t (tL (cN b)),I size,I 0],[.arr 1 false 0 []]⟩=
    some (.exit 0,⟨[.t (.sl (W.map tL)),.t (tL S),.t (tL (cN b)),.und,I size,.und,.ref 0 0 size,.und,.und,.und,.t (tL (cN b)),I size,I size],[.arr 1 false 0 (((bO W b).map tL).map .t)]⟩):=by
    intro z3 z5 z7 z8 z9
    refine bV (fun j=>⟨[.t (.sl (W.map tL)),.t (tL S),.t (tL (cN b)),.und,I size,.und,.ref 0 0 j,.und,.und,.und,.t (tL (cN b)),I size,I j],[.arr 1 false 0 (((bO W (b.take j)).map tL).map .t)]⟩) size rfl ?_ ?_ (by simp)
    · intro j hj
      have bg:=bz (l:=cN b) (Ev.T.int .i64) (j:=j) (by omega)
      have jb:j<b.length:=by omega
      have nb:nth (cN b) j=((nth b j:Nat):Int):=by
       unfold nth
       rw[aLl,aLl,aLn,aLc jb];rfl
      have bm:nth b j<W.length:=hm _ (aI jb)
      have wg:=bz (l:=W) tL bm
      have tk:bO W (b.take (j+1))=bO W (b.take j)++[nth W (nth b j)]:=by
       rw[uW jb];simp[bO]
      have rl:(bO W (b.take j)).length=j:=by rw[List.length_map,List.length_take];omega
      rw[nb]at bg
      rw[tk]
      clear mo pk pm tk nb
      generalize bO W (b.take j)=R at*
      generalize nth b j=x at*
      generalize nth W x=y at*
      subst rl
      generalize cN b=cb at*
      subst cl
      simp only[tL]at*
      simp(disch:=omega)only[go_sem,K.kj,↓reduceIte,bg,wg,reduceAdd,reduceSub]
    · rw[List.take_of_length_le (by omega)]
      clear mo pk
      generalize cN b=cb at*
      subst cl
      simp only[tL]at*
      simp(disch:=omega)only[go_sem,K.kj,↓reduceIte,reduceAdd,reduceSub]
   generalize bO W b=R at*
   by_cases c:kB R S<size
   · rw[if_pos c]
     show _=some (D.t (tL (cN b)),[])
     generalize cN b=cb at*
     clear pk
     subst cl
     simp only[tL]at*
     simp(disch:=omega)only[go_sem,K.b6,↓reduceIte,lp,mo,c,reduceAdd,reduceSub]
   · rw[if_neg c]
     show _=some (D.nil,[])
     have lw:∀z3 z5 z7 z8 z9:D,exS aG K.ji ⟨[.t (.sl (W.map tL)),.t (tL S),.t (tL (cN b)),z3,I size,z5,.ref 0 0 0,z7,z8,z9,.t (tL (cN b)),I size,I 0],[.arr 1 false 0 []]⟩=exS aG K.ji ⟨[.t (.sl (W.map tL)),.t (tL S),.t (tL (cN b)),z3,I size,z5,.ref 0 0 0,z7,z8,z9,.t (tL (cN b)),I size,I 0],[.arr 1 false 0 []]⟩:=fun _ _ _ _ _=>rfl
     generalize cN b=cb at*
     clear pk lw
     subst cl
     simp only[tL]at*
     simp(disch:=omega)only[go_sem,K.b6,↓reduceIte,lp,mo,c,reduceAdd,reduceSub]
 | succ k ih=>
   intro b next hb hm hn
   refine ay K.jY rfl ?_
   have cl:(cN b).length=b.length:=List.length_map _
   have ne:¬(b.length:Int)=(size:Int):=by omega
   have cp:=Uc (cN b)
   have rc:∀j,j<W.length-next→aG 1 N.b6 [.t (.sl (W.map tL)),.t (tL S),.t (.sl ((cN b).map (Ev.T.int .i64)++[tI (next+j:Nat)])),I ((next+j+1:Nat):Int),I size] []=some (zH (fF W S k (b++[next+j]) (next+j+1)),[]):=fun j hj=>by
    have:=ih (b++[next+j]) (next+j+1) (by rw[aLv,List.length_singleton];omega) (fun x hx=>by
     rcases List.mem_append.1 hx with h | h
     · exact hm x h
     · rw[List.mem_singleton.1 h];omega) (by omega)
    simp only[tL,cN,List.map_append,List.map_cons,List.map_nil]at this ⊢
    exact this
   have lp:∀z3 z5 z6 z7 z9 z10 z11 z12:D,exS aG K.ji ⟨[.t (.sl (W.map tL)),.t (tL S),.t (tL (cN b)),z3,I size,z5,z6,z7,I next,z9,z10,z11,z12],[]⟩=
    some (match (List.range (W.length-next)).find? (fun j=>(fF W S k (b++[next+j]) (next+j+1)).isSome)with
     | some j=>(.ret,⟨[.t (.sl (W.map tL)),.t (tL S),.t (tL (cN b)),.und,I size,zH (fF W S k (b++[next+j]) (next+j+1)),.und,.und,I (next+j:Nat),zH (fF W S k (b++[next+j]) (next+j+1)),.und,.und,.und],[.arr 1 true 0 (ints (cN b)++[I (next+j:Nat)])]⟩)
     | none=>(.exit 2,⟨[.t (.sl (W.map tL)),.t (tL S),.t (tL (cN b)),.und,I size,.und,.und,.und,I W.length,.und,.und,.und,.und],[]⟩)):=by
    intro z3 z5 z6 z7 z9 z10 z11 z12
    refine dO (fun j=>⟨[.t (.sl (W.map tL)),.t (tL S),.t (tL (cN b)),.und,I size,.und,.und,.und,I (next+j:Nat),.und,.und,.und,.und],[]⟩) (W.length-next) _ (fun j=>(.ret,⟨[.t (.sl (W.map tL)),.t (tL S),.t (tL (cN b)),.und,I size,zH (fF W S k (b++[next+j]) (next+j+1)),.und,.und,I (next+j:Nat),zH (fF W S k (b++[next+j]) (next+j+1)),.und,.und,.und],[.arr 1 true 0 (ints (cN b)++[I (next+j:Nat)])]⟩)) _ rfl ?_ ?_ ?_ (by simp)
    · intro j hj hp
      have r:=rc j hj
      cases hx:fF W S k (b++[next+j]) (next+j+1)with
      | some l=>rw[hx]at hp;simp at hp
      | none=>
        rw[hx]at r
        simp only[zH]at r
        rw[show next+(j+1)=next+j+1 by omega]
        have nj:next+j<W.length:=by omega
        have e1:((next+j+1:Nat):Int)=((next+j:Nat):Int)+1:=by omega
        rw[e1]at r ⊢
        generalize next+j=x at*
        clear rc ih hx hp ne
        generalize cN b=cb at*
        have oa:=fun H x=>Bk H cb x (by omega)
        simp only[tL]at*
        simp(disch:=omega)only[go_sem,K.iS,↓reduceIte,cp,r,oa,pA,Bj,mh,pB,reduceAdd,reduceSub]
    · intro j hj hp
      have r:=rc j hj
      cases hx:fF W S k (b++[next+j]) (next+j+1)with
      | none=>rw[hx]at hp;simp at hp
      | some l=>
        have l0:∃y Y,cN l=y::Y:=by
         have sp:=j5 W S k (b++[next+j]) (next+j+1)
         rw[hx]at sp
         obtain⟨⟨Y,rfl, -⟩, -⟩:=sp
         cases b with
         | nil=>exact⟨_,_,rfl⟩
         | cons z b=>exact⟨_,_,rfl⟩
        rw[hx]at r
        simp only[zH]at r ⊢
        obtain⟨y,Y,e⟩:=l0
        rw[e]at r ⊢
        have nj:next+j<W.length:=by omega
        have e1:((next+j+1:Nat):Int)=((next+j:Nat):Int)+1:=by omega
        rw[e1]at r
        refine⟨?_,by simp⟩
        generalize next+j=x at*
        clear rc ih hx hp ne
        generalize cN b=cb at*
        have oa:=fun H x=>Bk H cb x (by omega)
        simp only[tL,ints,List.map_cons]at*
        simp(disch:=omega)only[go_sem,K.iS,↓reduceIte,cp,r,oa,pA,Bj,mh,pB,reduceAdd,reduceSub]
    · have:next+(W.length-next)=W.length:=by omega
      rw[this]
      clear rc ih cp ne
      simp only[tL]at*
      simp(disch:=omega)only[go_sem,K.iS,↓reduceIte,reduceAdd,reduceSub]
   rw[fF]
   cases hf:(List.range (W.length-next)).find? (fun j=>(fF W S k (b++[next+j]) (next+j+1)).isSome)with
   | none=>
     simp only[hf]at lp
     simp only[zH]
     clear rc ih cp hf
     generalize cN b=cb at*
     rw[← cl]at ne
     simp only[tL]at*
     simp(disch:=omega)only[go_sem,K.b6,↓reduceIte,lp,ne,reduceAdd,reduceSub]
   | some j=>
     simp only[hf]at lp
     have hp:=List.find?_some hf
     cases hx:fF W S k (b++[next+j]) (next+j+1)with
     | none=>rw[hx]at hp;simp at hp
     | some l=>
       rw[hx]at lp
       simp only[zH]at lp ⊢
       rw[hx]
       simp only
       clear rc ih cp hf hp hx
       generalize cN b=cb at*
       rw[← cl]at ne
       simp only[tL,ints]at*
       simp(disch:=omega)only[go_sem,K.b6,↓reduceIte,lp,ne,reduceAdd,reduceSub]
theorem Ks{W:List (List Int)}{S:List Int}(hW:W.length≤12)(hS:S.length≤1000)(hl:∀i,(nth W i).length≤1000000):
 aG 0 N.cU [.t (.sl (W.map tL)),.t (tL S)] []=some (.t (tL (cN ((nC W S).getD []))),[]):=by
 refine ay K.ly rfl ?_
 have rc:∀j,j<W.length→aG 1 N.b6 [.t (.sl (W.map tL)),.t (tL S),.t (.sl []),I 0,I ((j:Int)+1)] []=some (zH (fF W S (j+1) [] 0),[]):=fun j hj=>by
  have:=Ud hW hS hl (size:=j+1) (by omega) (by omega) (j+1) [] 0 (by simp) (by simp) (Nat.zero_le _)
  rw[show((j+1:Nat):Int)=(j:Int)+1 by omega]at this
  exact this
 have lp:∀z2 z4:D,exS aG K.oz ⟨[.t (.sl (W.map tL)),.t (tL S),z2,I 1,z4],[]⟩=
  some (match (List.range W.length).find? (fun j=>(fF W S (j+1) [] 0).isSome)with
   | some j=>(.ret,⟨[.t (.sl (W.map tL)),.t (tL S),zH (fF W S (j+1) [] 0),I ((j:Int)+1),zH (fF W S (j+1) [] 0)],[]⟩)
   | none=>(.exit 0,⟨[.t (.sl (W.map tL)),.t (tL S),.und,I ((W.length:Int)+1),.und],[]⟩)):=by
  intro z2 z4
  refine dO (fun j=>⟨[.t (.sl (W.map tL)),.t (tL S),.und,I ((j:Int)+1),.und],[]⟩) W.length _ (fun j=>(.ret,⟨[.t (.sl (W.map tL)),.t (tL S),zH (fF W S (j+1) [] 0),I ((j:Int)+1),zH (fF W S (j+1) [] 0)],[]⟩)) _ rfl ?_ ?_ ?_ (by simp)
  · intro j hj hp
    have r:=rc j hj
    cases hx:fF W S (j+1) [] 0 with
    | some l=>rw[hx]at hp;simp at hp
    | none=>
      rw[hx]at r
      simp only[zH,tL]at*
      have mn:((j:Int)+1≤min (W.length:Int) 12):=by omega
      clear rc
      simp(disch:=omega)only[go_sem,K.ig,↓reduceIte,r,mn,pA,mh,pB,reduceAdd,reduceSub]
  · intro j hj hp
    have r:=rc j hj
    cases hx:fF W S (j+1) [] 0 with
    | none=>rw[hx]at hp;simp at hp
    | some l=>
      have l0:∃y Y,cN l=y::Y:=by
       have sp:=j5 W S (j+1) [] 0
       rw[hx]at sp
       obtain⟨⟨Y,e,y1, -⟩, -⟩:=sp
       rw[List.nil_append]at e
       rw[e]
       cases Y with
       | nil=>simp at y1
       | cons z b=>exact⟨_,_,rfl⟩
      obtain⟨y,Y,e⟩:=l0
      rw[hx]at r
      simp only[zH,tL]at*
      rw[e]at r ⊢
      have mn:((j:Int)+1≤min (W.length:Int) 12):=by omega
      refine⟨?_,by simp⟩
      clear rc
      simp only[List.map_cons]at*
      simp(disch:=omega)only[go_sem,K.ig,↓reduceIte,r,mn,pA,mh,pB,reduceAdd,reduceSub]
  · have mn:¬((W.length:Int)+1≤min (W.length:Int) 12):=by omega
    clear rc
    simp only[tL]at*
    simp(disch:=omega)only[go_sem,K.ig,↓reduceIte,mn,reduceAdd,reduceSub]
 unfold nC
 cases hf:(List.range W.length).find? (fun j=>(fF W S (j+1) [] 0).isSome)with
 | none=>
   simp only[hf]at lp
   show _=some (D.t (.sl []),[])
   clear rc hf
   simp only[tL]at*
   simp(disch:=omega)only[go_sem,K.cU,↓reduceIte,lp,reduceAdd,reduceSub]
 | some j=>
   simp only[hf]at lp
   have hp:=List.find?_some hf
   cases hx:fF W S (j+1) [] 0 with
   | none=>rw[hx]at hp;simp at hp
   | some l=>
     simp only[hx,zH]at lp
     simp only[hx,Option.getD_some]
     clear rc hf hp hx
     generalize cN l=cb at*
     simp only[tL]at*
     simp(disch:=omega)only[go_sem,K.cU,↓reduceIte,lp,reduceAdd,reduceSub]
theorem Kt:∀ {a b:List Nat} {j:Nat},a.length=b.length→j<a.length→nth a j≠nth b j→(∀i,i<j→nth a i=nth b i)→sG a b=decide (nth a j<nth b j)
 | [],b,j,_,h,_,_=>by simp at h
 | x::a,[],j,h,_,_,_=>by simp at h
 | x::a,y::b,0,h,hj,hn,_=>by
   have e:¬x=y:=hn
   rw[sG,if_neg e];rfl
 | x::a,y::b,j+1,h,hj,hn,hs=>by
   have e:x=y:=hs 0 (by omega)
   rw[sG,if_pos e,Kt (j:=j) (by simpa using h) (by simpa using hj) hn fun i hi=>hs (i+1) (by omega)]
   rfl
theorem Fh(a:List Nat)(j:Nat)(h:j<a.length):nth (cN a) j=((nth a j:Nat):Int):=by
 unfold nth
 rw[aLl,aLl,aLn,aLc h];rfl
theorem NB(a b:List Nat)(h:a.length=b.length)(hl:a.length≤1000):aG 0 N.eF [.t (tL (cN a)),.t (tL (cN b))] []=some (B (sG a b),[]):=by
 refine ay K.oQ rfl ?_
 have la:(cN a).length=a.length:=List.length_map _
 have lp:∀z2:D,exS aG K.r8 ⟨[.t (tL (cN a)),.t (tL (cN b)),z2,I 0],[]⟩=some (match (List.range a.length).find? (fun j=>decide (nth a j≠nth b j))with
  | some j=>(.ret,⟨[.t (tL (cN a)),.t (tL (cN b)),B (decide (nth a j<nth b j)),I j],[]⟩)
  | none=>(.exit 0,⟨[.t (tL (cN a)),.t (tL (cN b)),.und,I a.length],[]⟩)):=by
  intro z2
  refine dO (fun j=>⟨[.t (tL (cN a)),.t (tL (cN b)),.und,I j],[]⟩) a.length _ (fun j=>(.ret,⟨[.t (tL (cN a)),.t (tL (cN b)),B (decide (nth a j<nth b j)),I j],[]⟩)) _ rfl ?_ ?_ ?_ (by simp)
  · intro j hj hp
    have g1:=bz (l:=cN a) (Ev.T.int .i64) (j:=j) (by omega)
    have g2:=bz (l:=cN b) (Ev.T.int .i64) (j:=j) (by rw[List.length_map];omega)
    rw[Fh a j hj]at g1
    rw[Fh b j (by omega)]at g2
    rw[decide_eq_false_iff_not]at hp
    have e:nth a j=nth b j:=by omega
    rw[e]at g1
    generalize nth b j=x at*
    clear hp e h
    generalize cN a=ca at*
    generalize cN b=cb at*
    simp only[tL]at*
    simp(disch:=omega)only[go_sem,K.jk,↓reduceIte,g1,g2,la,decide_true,Bool.not_true,aLt,reduceAdd,reduceSub]
  · intro j hj hp
    have g1:=bz (l:=cN a) (Ev.T.int .i64) (j:=j) (by omega)
    have g2:=bz (l:=cN b) (Ev.T.int .i64) (j:=j) (by rw[List.length_map];omega)
    rw[Fh a j hj]at g1
    rw[Fh b j (by omega)]at g2
    rw[decide_eq_true_iff]at hp
    have ne:¬((nth a j:Nat):Int)=((nth b j:Nat):Int):=by omega
    have lt:decide (nth a j<nth b j)=decide (((nth a j:Nat):Int)<((nth b j:Nat):Int)):=by congr 1;exact propext (by omega)
    rw[lt]
    refine⟨?_,by simp⟩
    clear hp lt h
    generalize nth b j=x at*
    generalize nth a j=y at*
    generalize cN a=ca at*
    generalize cN b=cb at*
    simp only[tL]at*
    simp(disch:=omega)only[go_sem,K.jk,↓reduceIte,g1,g2,la,ne,decide_false,Bool.not_false,reduceAdd,reduceSub]
  · clear h
    generalize cN a=ca at*
    generalize cN b=cb at*
    simp only[tL]at*
    simp(disch:=omega)only[go_sem,K.jk,↓reduceIte,la,reduceAdd,reduceSub]
 cases hf:(List.range a.length).find? (fun j=>decide (nth a j≠nth b j))with
 | some j=>
   obtain⟨f1,f2,f3⟩:=List.find?_range_eq_some.1 hf
   rw[Kt h (aLu.1 f2) (by simpa using f1) fun i hi=>by simpa using f3 i hi]
   simp only[hf]at lp
   generalize decide (nth a j<nth b j)=r at*
   clear hf f1 f2 f3 h
   generalize cN a=ca at*
   generalize cN b=cb at*
   simp only[tL]at*
   simp(disch:=omega)only[go_sem,K.eF,↓reduceIte,lp,reduceAdd,reduceSub]
 | none=>
   have e:a=b:=by
    apply List.ext_getElem?
    intro i
    by_cases c:i<a.length
    · have:=List.find?_eq_none.1 hf i (aLu.2 c)
      rw[jg c,jg (by omega:i<b.length)]
      simpa using this
    · rw[aLm (by omega),aLm (by omega)]
   rw[← e,su]
   rw[← e]at lp hf
   simp only[hf]at lp
   clear hf h e
   generalize cN a=ca at*
   simp only[tL]at*
   simp(disch:=omega)only[go_sem,K.eF,↓reduceIte,lp,reduceAdd,reduceSub]
theorem Fi(H:ae)(o:Obj):(H++[o])[H.length]?=some o:=List.getElem?_concat_length ..
theorem Ue(H:ae)(o o':Obj):(H++[o]).set H.length o'=H++[o']:=by simp
theorem GJ{W:List (List Int)}(hW:W.length≤12){s:Nat}(hs:s<1000000)(S:List Int)(d:D)(H:ae):∀z2:D,exS aG K.pY ⟨[.t (.sl (W.map tL)),.t (tL S),z2,d,I s,.ref H.length 0 0,I 0],H++[.arr 1 false 0 []]⟩=
 some (.exit 2,⟨[.t (.sl (W.map tL)),.t (tL S),.und,d,I s,.ref H.length 0 (aR W.length s).length,I W.length],H++[fB (cN (aR W.length s))]⟩):=by
 intro z2
 refine bV (fun j=>⟨[.t (.sl (W.map tL)),.t (tL S),.und,d,I s,.ref H.length 0 (aR j s).length,I j],H++[fB (cN (aR j s))]⟩) W.length rfl ?_ ?_ (by simp)
 · intro j hj
   have a1:=Fi H
   have a2:=Ue H
   have wu:=pz j (by omega)
   have sh:=C3 s j (by omega)
   have dl:s / 2 ^ j<2 ^ 62:=by have:=Nat.div_le_self s (2 ^ j);omega
   have an:=C4 (s / 2 ^ j) dl
   rw[C6]at an
   have ml:(cN (aR j s)).length=(aR j s).length:=List.length_map _
   have ll:=kK j s
   rw[tB]
   by_cases c:zD s j=true
   · rw[if_pos c]at an ⊢
     simp only[cN,List.map_append,List.map_cons,List.map_nil,aLv,List.length_singleton]at ml ⊢
     generalize (aR j s).map (fun(i:Nat)=>(i:Int))=R at*
     generalize (aR j s).length=rl at*
     subst ml
     generalize s / 2 ^ j=q at*
     simp only[fB,tL,List.map_append,List.map_cons,List.map_nil]at*
     simp(disch:=omega)only[go_sem,K.iR,↓reduceIte,wu,sh,an,a1,a2,reduceAdd,reduceSub]
   · rw[if_neg c]at an ⊢
     rw[List.append_nil]
     generalize cN (aR j s)=R at*
     generalize (aR j s).length=rl at*
     subst ml
     generalize s / 2 ^ j=q at*
     simp only[fB,tL]at*
     simp(disch:=omega)only[go_sem,K.iR,↓reduceIte,wu,sh,an,reduceAdd,reduceSub]
 · simp only[fB,tL]at*
   simp(disch:=omega)only[go_sem,K.iR,↓reduceIte,reduceAdd,reduceSub]
def Fj(H:ae)(d:D):Option (List Nat)→Prop
 | none=>d= .nil
 | some b=>∃k,d= .ref k 0 b.length∧H[k]?=some (fB (cN b))∧b≠[]
theorem Ku{W:List (List Int)}{S:List Int}(hW:W.length≤12)(hS:S.length≤1000)(hl:∀i,(nth W i).length≤1000000):
 aG 0 N.dY [.t (.sl (W.map tL)),.t (tL S)] []=some (.t (tL (cN ((pH W S (2 ^ W.length-1)).getD []))),[]):=by
 refine ay K.mS rfl ?_
 have p1:2 ^ W.length≤2 ^ 12:=Nat.pow_le_pow_right (by omega) hW
 have p0:1≤2 ^ W.length:=Nat.one_le_two_pow
 have wu:=pz W.length (by omega)
 have sl:=C5 W.length hW
 have lp:∀z2 z5 z6:D,∃q,exS aG K.pZ ⟨[.t (.sl (W.map tL)),.t (tL S),z2,.nil,I 1,z5,z6],[]⟩=some q∧
  ∃H d,Fj H d (pH W S (2 ^ W.length-1))∧q=(.exit 0,⟨[.t (.sl (W.map tL)),.t (tL S),.und,d,I ((2 ^ W.length:Nat):Int),.und,.und],H⟩):=by
  intro z2 z5 z6
  refine AQ (fun j st=>∃H d,Fj H d (pH W S j)∧st=⟨[.t (.sl (W.map tL)),.t (tL S),.und,d,I ((j+1:Nat):Int),.und,.und],H⟩) (2 ^ W.length-1) _ ⟨[],.nil,rfl,rfl⟩ ?_ ?_
  · rintro j st hj ⟨H,d,ba,rfl⟩
    left
    have so:=Fc hW (s:=j+1) (by omega)
    have l2:=GJ hW (s:=j+1) (by omega) S d H
    have ho:=wQ (W:=bO W (aR W.length (j+1))) (S:=S) (by rw[List.length_map];have:=kK W.length (j+1);omega) hS (vk hl _)
    have lj:((j+1:Nat):Int)<((2 ^ W.length:Nat):Int):=by omega
    have wj:IntKind.i64.wrap (((j+1:Nat):Int)+1)=((j+1+1:Nat):Int):=bU (by omega) (by omega)
    have a1:=Fi H
    have ml:=kK W.length (j+1)
    have ml2:(cN (aR W.length (j+1))).length=(aR W.length (j+1)).length:=List.length_map _
    have mne:aR W.length (j+1)≠[]:=fun e=>by
     unfold aR at e
     rw[List.filter_eq_nil_iff]at e
     obtain⟨i,hi⟩:=Nat.exists_testBit_of_ne_zero (x:=j+1) (by omega)
     have il:i<W.length:=by
      refine Classical.byContradiction fun k=>?_
      have:j+1<2 ^ i:=Nat.lt_of_lt_of_le (by omega) (Nat.pow_le_pow_right (by omega:2>0) (by omega:W.length≤i))
      rw[Nat.testBit_lt_two_pow this]at hi
      exact absurd hi (by simp)
     have:=e i (aLu.2 il)
     rw[Nat.testBit_eq_decide_div_mod_eq]at hi
     exact this hi
    have le:∀b:List Nat,(aR W.length (j+1)).length=b.length→aG 0 N.eF [.t (tL (cN (aR W.length (j+1)))),.t (tL (cN b))] []=some (B (sG (aR W.length (j+1)) b),[]):=fun b h=>NB _ b h (by omega)
    rw[pH]
    unfold GH
    generalize aR W.length (j+1)=l at*
    generalize bO W l=R at*
    generalize j3 R S=f at*
    generalize ((j+1+1:Nat):Int)=st2 at*
    generalize ((j+1:Nat):Int)=st at*
    clear hl
    generalize 2 ^ W.length=two at*
    cases hb:pH W S j with
    | none=>
      rw[hb]at ba
      change d= .nil at ba
      subst ba
      simp only[Bool.false_or]
      cases f with
      | true=>
        refine⟨_,?_,H++[fB (cN l)],.nil,by rw[if_pos rfl];rfl,rfl⟩
        clear le mne
        generalize cN l=cl at*
        simp only[fB,tL]at*
        simp(disch:=omega)only[go_sem,K.cn,↓reduceIte,wu,sl,lj,l2,so,ho,wj,reduceAdd,reduceSub]
      | false=>
        refine⟨_,?_,H++[fB (cN l)],.ref H.length 0 l.length,by rw[if_neg (by simp)];exact⟨_,rfl,Fi _ _,mne⟩,rfl⟩
        clear le mne
        generalize cN l=cl at*
        simp only[fB,tL]at*
        simp(disch:=omega)only[go_sem,K.cn,↓reduceIte,wu,sl,lj,l2,so,ho,wj,reduceAdd,reduceSub]
    | some b=>
      rw[hb]at ba
      obtain⟨k,rfl,hk,bn⟩:=ba
      have kl:k<H.length:=(aLe.1 hk).1
      have gk:(H++[fB (cN l)])[k]?=some (fB (cN b)):=by rw[aLg kl];exact hk
      have bl:(cN b).length=b.length:=List.length_map _
      obtain⟨bp,hbp⟩:∃x,b.length=x+1:=⟨b.length-1,by have:=List.length_pos_iff.2 bn;omega⟩
      have nn:∀J:ae,mF J .sl true (some (.ref k 0 b.length)) (some .nil)=some (B true,J):=fun J=>by rw[hbp];rfl
      have keep:Fj (H++[fB (cN l)]) (.ref k 0 b.length) (some b):=⟨k,rfl,gk,bn⟩
      have take:Fj (H++[fB (cN l)]) (.ref H.length 0 l.length) (some l):=⟨_,rfl,Fi _ _,mne⟩
      simp only
      by_cases c1:b.length<l.length
      · simp only[c1,decide_true,Bool.true_or,if_true]
        refine⟨_,?_,_,_,keep,rfl⟩
        have c2:(b.length:Int)<(l.length:Int):=by omega
        clear le mne keep take hb
        generalize cN l=cl at*
        generalize cN b=cb at*
        simp only[fB,tL]at*
        simp(disch:=omega)only[go_sem,K.cn,↓reduceIte,wu,sl,lj,l2,so,ho,wj,nn,c2,decide_true,reduceAdd,reduceSub]
      · have c2:¬(b.length:Int)<(l.length:Int):=by omega
        simp only[c1,decide_false,Bool.false_or]
        by_cases c3:l.length=b.length
        · have c4:(l.length:Int)=(b.length:Int):=by omega
          have le:=le b c3
          simp only[c3,decide_true,Bool.true_and]
          generalize sG l b=x at*
          have a3:=a1 (fB (cN l))
          rw[c3]at l2 take ml2
          cases x with
          | false=>
            simp only[Bool.not_false,Bool.true_or,if_true]
            refine⟨_,?_,_,_,keep,rfl⟩
            clear mne keep take hb
            generalize cN l=cl at*
            generalize cN b=cb at*
            simp only[fB,tL]at*
            simp(disch:=omega)only[go_sem,K.cn,↓reduceIte,wu,sl,lj,l2,so,ho,wj,nn,c3,le,gk,a3,bl,ml2,decide_true,decide_false,Bool.not_false,reduceAdd,reduceSub]
          | true=>
            simp only[Bool.not_true,Bool.false_or]
            cases f with
            | true=>
              rw[if_pos rfl]
              refine⟨_,?_,_,_,keep,rfl⟩
              clear mne keep take hb
              generalize cN l=cl at*
              generalize cN b=cb at*
              simp only[fB,tL]at*
              simp(disch:=omega)only[go_sem,K.cn,↓reduceIte,wu,sl,lj,l2,so,ho,wj,nn,c3,le,gk,a3,bl,ml2,decide_true,decide_false,Bool.not_true,reduceAdd,reduceSub]
            | false=>
              rw[if_neg (by simp)]
              refine⟨_,?_,_,_,take,rfl⟩
              clear mne keep take hb
              generalize cN l=cl at*
              generalize cN b=cb at*
              simp only[fB,tL]at*
              simp(disch:=omega)only[go_sem,K.cn,↓reduceIte,wu,sl,lj,l2,so,ho,wj,nn,c3,le,gk,a3,bl,ml2,decide_true,decide_false,Bool.not_true,reduceAdd,reduceSub]
        · have c4:¬(l.length:Int)=(b.length:Int):=by omega
          simp only[c3,decide_false,Bool.false_and,Bool.false_or]
          cases f with
          | true=>
            rw[if_pos rfl]
            refine⟨_,?_,_,_,keep,rfl⟩
            clear le mne keep take hb
            generalize cN l=cl at*
            generalize cN b=cb at*
            simp only[fB,tL]at*
            simp(disch:=omega)only[go_sem,K.cn,↓reduceIte,wu,sl,lj,l2,so,ho,wj,nn,c2,c4,decide_true,decide_false,reduceAdd,reduceSub]
          | false=>
            rw[if_neg (by simp)]
            refine⟨_,?_,_,_,take,rfl⟩
            clear le mne keep take hb
            generalize cN l=cl at*
            generalize cN b=cb at*
            simp only[fB,tL]at*
            simp(disch:=omega)only[go_sem,K.cn,↓reduceIte,wu,sl,lj,l2,so,ho,wj,nn,c2,c4,decide_true,decide_false,reduceAdd,reduceSub]
  · rintro st ⟨H,d,ba,rfl⟩
    refine⟨_,?_,by simp,H,d,ba,rfl⟩
    have e:((2 ^ W.length-1+1:Nat):Int)=((2 ^ W.length:Nat):Int):=by omega
    rw[e]
    clear ba hl
    generalize 2 ^ W.length=two at*
    simp only[tL]at*
    simp(disch:=omega)only[go_sem,K.cn,↓reduceIte,wu,sl,reduceAdd,reduceSub]
 obtain⟨q,h1,H,d,ba,rfl⟩:=lp .nil .und .und
 cases hb:pH W S (2 ^ W.length-1)with
 | none=>
   rw[hb]at ba
   change d= .nil at ba
   subst ba
   show _=some (D.t (.sl []),[])
   clear hl p1 p0 sl
   generalize 2 ^ W.length=two at*
   simp only[tL]at*
   simp(disch:=omega)only[go_sem,K.dY,↓reduceIte,h1,reduceAdd,reduceSub]
 | some b=>
   rw[hb]at ba
   obtain⟨k,rfl,hk,bn⟩:=ba
   rw[Option.getD_some]
   have bl:(cN b).length=b.length:=List.length_map _
   clear hl p1 p0 sl hb
   generalize 2 ^ W.length=two at*
   generalize cN b=cb at*
   simp only[tL,fB]at*
   simp(disch:=omega)only[go_sem,K.dY,↓reduceIte,h1,hk,bl,reduceAdd,reduceSub]
theorem GK{W:List (List Int)}{S:List Int}(hW:W.length≤12)(hS:S.length≤1000)(hl:∀i,(nth W i).length≤100000)(sk:lJ S S.length):aG 0 N.eR [.t (.sl (W.map tL)),.t (tL S)] []=some (B true,[]):=by
 refine ay K.mQ rfl ?_
 have hl2:∀i,(nth W i).length≤1000000:=fun i=>by have:=hl i;omega
 have c1:=GF hW hS hl sk
 have c2:=Gz hW hS hl2 sk
 have c3:=(rU hW hS hl2).1
 have c4:=Nt hW hS hl2
 have c5:=Ks hW hS hl2
 have c6:=Ku hW hS hl2
 rw[NA]at c6
 have al:(Nx W S).length≤4294967296:=by
  unfold Nx
  split
  · have:=(zl W sk W.length).2;omega
  · simp
 have sl:(cN ((nC W S).getD [])).length≤4294967296:=by
  rw[List.length_map]
  cases h:nC W S with
  | none=>simp
  | some l=>have:=(wR h).2.2.1;simp only[Option.getD_some];omega
 have s1:=yP (Nx W S) (Nx W S) al
 have s2:=yP _ (cN ((nC W S).getD [])) sl
 rw[decide_eq_true rfl]at s1 s2
 clear al sl
 generalize Nx W S=A at*
 generalize cN ((nC W S).getD [])=X at*
 generalize kB W S=m at*
 generalize j3 W S=f at*
 clear hl hl2 sk
 simp only[tL]at*
 simp(disch:=omega)only[go_sem,K.eR,↓reduceIte,c1,c2,c3,c4,c5,c6,s1,s2,decide_true,beq_self_eq_true,reduceAdd,reduceSub]
end Go.Ev
namespace Go.Ev
open Go
variable [Lib] [aZ] [bc] [cG] [cJ] [eC] [cL] [cM] [dG] [dE] [bI] [bM] [cA] [cB] [gw] [gz] [gg] [eu] [gH]
theorem Kv{d:ax}(hd:d.cy)(k n:Int)(h0:0≤k)(hk:k≤1000)(h1:1≤n)(hn:n≤1000):
 ∃(b:Bool) (d2:ax) (x:Int) (d3:ax),aG 0 N.bj [.bp 0 0,I k] [d.obj]=some (B b,[d2.obj])∧(b=true∧aG 0 N.aq [.bp 0 0,I n] [d2.obj]=some (I x,[d3.obj])∨b=false∧d2=d3)∧d3.cy∧0≤x∧x<n:=by
 obtain⟨b,d2,c2,l2⟩:=afN hd k h0 (by omega)
 obtain⟨x,d3,c3,l3,x0,x1⟩:=Ef l2 n h1 (by omega)
 cases b with
 | true=>exact⟨true,d2,x,d3,c2,.inl ⟨rfl,c3⟩,l3,x0,x1⟩
 | false=>exact⟨false,d2,x,d2,c2,.inr ⟨rfl,rfl⟩,l2,x0,x1⟩
theorem wS{b:Bool}{x n:Int}(h0:0≤x)(h1:x<n):ud (if b=true then [x]else []) n=true:=by
 cases b with
 | true=>exact O8 h0 h1
 | false=>rfl
theorem NC{d:ax}(hd:d.cy){m:aK}(hm:m.ok)(h1:1≤m.aa.length)(h2:1≤m.roads.length):
 ∃(e:Esc) (d':ax),aG 0 N.bY [.bp 0 0,.t m.e] [d.obj]=some (.t e.e,[d'.obj])∧d'.cy∧e.ok m∧e.dN≤1000∧e.safe.length≤1∧e.bad.length≤1∧e.shut.length≤1:=by
 have np:=hm.np
 have nr:=hm.nr
 obtain⟨lim,d1,c1,l1,m1⟩:=aid hd [600,100,60,1000,0] (by simp) (by simp)
 have lm:0≤lim∧lim≤1000:=by
  simp only[List.mem_cons,List.not_mem_nil,or_false]at m1
  omega
 have c1:aG 0 N.bh [.bp 0 0,.t (.sl [tI 600,tI 100,tI 60,tI 1000,tI 0])] [d.obj]=some (I lim,[d1.obj]):=c1
 obtain⟨b1,d2,x1,d3,a1,a2,l3,x10,x11⟩:=Kv l1 3 m.aa.length (by omega) (by omega) (by omega) (by omega)
 obtain⟨b2,d4,x2,d5,a4,a5,l5,x20,x21⟩:=Kv l3 4 m.aa.length (by omega) (by omega) (by omega) (by omega)
 obtain⟨b3,d6,x3,d7,a7,a8,l7,x30,x31⟩:=Kv l5 4 m.roads.length (by omega) (by omega) (by omega) (by omega)
 refine⟨⟨if b1=true then [x1]else [],if b2=true then [x2]else [],if b3=true then [x3]else [],lim⟩,d7,?_,l7,⟨wS x10 x11,wS x20 x21,wS x30 x31,lm.1,by simp only;omega⟩,lm.2,?_,?_,?_⟩
 · refine ay K.iW rfl ?_
   obtain⟨aa,roads⟩:=m
   simp only[ab]at*
   have r0:(0:Int)<roads.length:=by omega
   rcases a2 with⟨rfl,a2⟩ | ⟨rfl,a2⟩<;>rcases a5 with⟨rfl,a5⟩ | ⟨rfl,a5⟩<;>rcases a8 with⟨rfl,a8⟩ | ⟨rfl,a8⟩
   all_goals
    simp(disch:=omega)only[go_sem,K.bY,↓reduceIte,c1,a1,a2,a4,a5,a7,a8,r0,reduceAdd,reduceSub]
    rfl
 · cases b1<;>simp
 · cases b2<;>simp
 · cases b3<;>simp
end Go.Ev
namespace Go.Ev
open Go
variable [Lib] [aZ] [bc] [cG] [cJ] [eC] [cL] [cM] [dG] [dE] [bI] [bM] [cA] [cB] [gw] [gz] [gg] [eu] [gH] [gY] [dR] [jf] [zk]
def Py(m:aK)(L:List Rfg):Prop:=∀r∈L,(0≤r.pl∧r.pl<m.aa.length)∧0≤r.seats∧r.seats<5
theorem ND{m:aK}(hm:m.ok)(h2:2≤m.aa.length)(e:Esc)(raw ls:Ev.T){d:ax}(hd:d.cy)(n:Nat)(hn:n≤4):
 ∀z0 z3 z9 z10 z11 z12 z13 z14 z15 z16 z17 z18 z19:D,∃q,exS aG K.kt ⟨[z0,.t raw,.t ls,z3,.bp 0 0,.bp 1 0,.bp 2 0,.ref 3 0 0,I n,z9,z10,z11,z12,z13,z14,z15,z16,z17,z18,z19],[d.obj,.box (ab m),.box (aC e),.arr 2 false 0 []]⟩=some q∧
  ∃(L:List Rfg) (d2:ax),d2.cy∧L.length=n∧Py m L∧q=(.exit 0,⟨[.und,.t raw,.t ls,.und,.bp 0 0,.bp 1 0,.bp 2 0,.ref 3 0 L.length,I 0,.und,.und,.und,.und,.und,.und,.und,.und,.und,.und,.und],[d2.obj,.box (ab m),.box (aC e),.arr 2 false 0 ((L.map Rfg.e).map .t)]⟩):=by
 intro z0 z3 z9 z10 z11 z12 z13 z14 z15 z16 z17 z18 z19
 have np:=hm.np
 refine AQ (fun j st=>∃(L:List Rfg) (d2:ax),d2.cy∧L.length=j∧Py m L∧st=⟨[.und,.t raw,.t ls,.und,.bp 0 0,.bp 1 0,.bp 2 0,.ref 3 0 L.length,I ((n-j:Nat):Int),.und,.und,.und,.und,.und,.und,.und,.und,.und,.und,.und],[d2.obj,.box (ab m),.box (aC e),.arr 2 false 0 ((L.map Rfg.e).map .t)]⟩) n _ ⟨[],d,hd,rfl,fun r hr=>by simp at hr,rfl⟩ ?_ ?_
 · rintro j st hj ⟨L,d2,l2,ll,ok,rfl⟩
   left
   obtain⟨p,d3,po,l3,p0,p1⟩:=Ef l2 m.aa.length (by omega) (by omega)
   obtain⟨s,d4,so,l4,s0,s1⟩:=Ef l3 5 (by omega) (by omega)
   refine⟨⟨[.und,.t raw,.t ls,.und,.bp 0 0,.bp 1 0,.bp 2 0,.ref 3 0 (L++[(⟨p,s⟩:Rfg)]).length,I ((n-(j+1):Nat):Int),.und,.und,.und,.und,.und,.und,.und,.und,.und,.und,.und],[d4.obj,.box (ab m),.box (aC e),.arr 2 false 0 (((L++[(⟨p,s⟩:Rfg)]).map Rfg.e).map .t)]⟩,?_,L++[(⟨p,s⟩:Rfg)],d4,l4,by simp[ll],fun r hr=>?_,rfl⟩
   · obtain⟨k,hk⟩:∃k,n-j=k+1:=⟨n-j-1,by omega⟩
     have hk2:n-(j+1)=k:=by omega
     have wk:IntKind.i64.wrap (k:Int)=k:=bU (by omega) (by omega)
     simp only[hk,hk2]at*
     clear ok
     obtain⟨aa,roads⟩:=m
     simp only[ab,aC,aLv,List.length_singleton,List.map_append,List.map_cons,List.map_nil]at*
     simp(disch:=omega)only[go_sem,K.gN,↓reduceIte,po,so,wk,reduceAdd,reduceSub]
   · rcases List.mem_append.1 hr with h | h
     · exact ok r h
     · rw[List.mem_singleton.1 h];exact⟨⟨p0,p1⟩,s0,s1⟩
 · rintro st ⟨L,d2,l2,ll,ok,rfl⟩
   refine⟨_,?_,by simp,L,d2,l2,ll,ok,rfl⟩
   rw[Nat.sub_self]
   clear ok
   obtain⟨aa,roads⟩:=m
   simp only[ab,aC]at*
   simp(disch:=omega)only[go_sem,K.gN,↓reduceIte,reduceAdd,reduceSub]
theorem Li(aw:aG 0 N.eQ [] []=some (B true,[]))(li:List Int)(raw:List Rfg)(ls:List Int):aG 0 N.bC [.t (tL li),.t (.sl (raw.map Rfg.e)),.t (tL ls)] []=some (B true,[]):=by
 refine ay K.iY rfl ?_
 have lo:=Mg li
 by_cases c:li.length≤400
 · simp only[c,decide_true]at lo
   by_cases c1:raw.length≤30
   · have c1':¬(raw.length:Int)>30:=by omega
     by_cases c2:ls.length≤70
     · have c2':¬(ls.length:Int)>70:=by omega
       have ro:=ZJ li
       have d0:(ax.mk li 0).cy:=c
       generalize (ax.mk li 0)=d at*
       obtain⟨m,d1,mo,l1,hm,p1,p2,r1,r2⟩:=ZK d0
       obtain⟨e,d2,eo,l2,he,lim, -⟩:=NC l1 hm (by omega) (by omega)
       obtain⟨n,d3,no,l3,n0,n1⟩:=Ef l2 4 (by omega) (by omega)
       obtain⟨n,rfl⟩:=Int.eq_ofNat_of_zero_le n0
       obtain⟨q,lp,L,d4,l4,Ll,Lo,rfl⟩:=ND hm p1 e (.sl (raw.map Rfg.e)) (tL ls) l3 n (by omega) (.t (tL li)) (B false) .und .und .und .und .und .und .und .und .und .und .und
       obtain⟨wh,d5,wo,l5,wl⟩:=aah l4 m.aa.length (by omega)
       obtain⟨ra,ca,al,a1,a2⟩:=Fb hm he L (by omega) wh (by omega)
       obtain⟨rb,cb,bl,b1,b2⟩:=Fb hm he raw (by omega) ls (by omega)
       obtain⟨W,S,d6,so,ws,l6⟩:=JR d5 l5
       have hl:∀i,(nth W i).length≤100000:=fun i=>by
        by_cases l:i<W.length
        · have:=(ws.wb _ (aI l)).1;omega
        · rw[y8 l];exact Nat.zero_le _
       have sbd:∀i,nth S i≤100:=fun i=>by
        by_cases l:i<S.length
        · exact(ws.sb _ (aI l)).2
        · unfold nth;rw[aLl,aLm (by omega)];show(0:Int)≤_;omega
       have ag:=GK (W:=W) (S:=S) (by have:=ws.wl;omega) (by have:=ws.sl;omega) hl ⟨rfl,fun i=>by have:=sbd i;omega⟩
       have v1:=mZ hm L (by omega)
       have vt:wP m L=true:=by
        unfold wP
        rw[aLr,decide_eq_true_iff,Bool.not_eq_true',List.any_eq_false]
        refine⟨by omega,fun r hr=>?_⟩
        obtain⟨⟨x0,x1⟩,x2,x3⟩:=Lo r hr
        unfold Bb
        rw[decide_eq_true ⟨x0,by omega⟩,decide_eq_true ⟨x2,by omega⟩]
        simp
       rw[vt]at v1
       have v2:=mZ hm raw (by omega)
       have v3:=uw hm raw (by omega)
       generalize wP m raw=vb at*
       have s1:=yP ra ra (by omega)
       have s2:=yP rb rb (by omega)
       rw[decide_eq_true rfl]at s1 s2
       have sa:([Ev.D.t (tL ra),I ca].all eW)=false:=rfl
       have sb:([Ev.D.t (tL rb),I cb].all eW)=false:=rfl
       clear hl sbd ws Lo vt he hm lim
       obtain⟨aa,roads⟩:=m
       obtain⟨safe,bad,shut,dN⟩:=e
       simp only[ab,aC,tL]at*
       simp(disch:=omega)only[go_sem,K.bC,↓reduceIte,lo,c1',c2',ro,mo,eo,no,lp,wo,a1,a2,b1,b2,so,aw,s1,s2,sa,sb,v1,v2,v3,ag,decide_true,decide_false,beq_self_eq_true,Bool.not_true,reduceAdd,reduceSub]
     · have c2':(ls.length:Int)>70:=by omega
       simp only[tL]at*
       simp(disch:=omega)only[go_sem,K.bC,↓reduceIte,lo,c1',c2',aw,decide_true,decide_false,Bool.not_true,reduceAdd,reduceSub]
   · have c1':(raw.length:Int)>30:=by omega
     simp only[tL]at*
     simp(disch:=omega)only[go_sem,K.bC,↓reduceIte,lo,c1',aw,decide_true,decide_false,Bool.not_true,reduceAdd,reduceSub]
 · simp only[c,decide_false]at lo
   simp only[tL]at*
   simp(disch:=omega)only[go_sem,K.bC,↓reduceIte,lo,aw,Bool.not_false,reduceAdd,reduceSub]
end Go.Ev
