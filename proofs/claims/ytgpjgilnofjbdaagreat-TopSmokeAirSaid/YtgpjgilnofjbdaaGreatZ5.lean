/- Parts of the proof: see the text that holds the theorem. -/
import Derived.Test.YtgpjgilnofjbdaaGreatZ4
set_option linter.all false
open Nat (reduceAdd reduceSub)
set_option maxRecDepth 100000
namespace Go.Ev
open Go
variable [Lib] [cr] [bZ] [eM] [dT] [gK] [dJ] [dV] [fN] [fy] [jK]
abbrev arF(l:List Fan):Obj:= .arr 4 false 0 ((l.map Fan.e).map .t)
abbrev arD(l:List lN):Obj:= .arr 3 false 0 ((l.map lN.e).map .t)
structure HD(n:Nat)(fs:List Fan)(sf:List Int):Prop where
 len:fs.length=sf.length
 ok:∀f∈fs,f.ok n
 st:∀x∈sf,0≤x∧x≤2
structure zS(n:Nat)(ds:List lN)(sd:List Int):Prop where
 len:ds.length=sd.length
 ok:∀d∈ds,0≤d.cL∧d.cL<n∧d.drawn d.cL
 st:∀k,k<ds.length→0≤nth sd k∧nth sd k<(nth ds k).rests.length
abbrev eqH(c:Cod)(ps:List Place)(rs:List Road)(fs:List Fan)(ds:List lN)(sf sd:List Int):af:=
 [c.obj,.box [.ref 2 0 ps.length,.ref 3 0 rs.length,.ref 4 0 fs.length,.ref 5 0 ds.length],arP ps,arR rs,arF fs,arD ds,.box [.nil,.nil],.box [.ref 8 0 sf.length,.ref 9 0 sd.length],arI sf,arI sd]
@[go_sem] theorem aid (l : List Fan) : oI 4 (l.map Fan.e) = true := by cases l <;> rfl
@[go_sem] theorem aeE (l : List lN) : oI 3 (l.map lN.e) = true := by cases l <;> rfl
theorem Vo{c:Cod}(hc:c.ok){ps:List Place}{rs:List Road}(r1:1≤rs.length)(r2:rs.length≤1000)(n:Nat)(hn:n≤2)(z6 z7:D):
 ∃(d:Cod) (fs:List Fan) (sf:List Int),d.ok∧HD rs.length fs sf∧fs.length≤2∧exS bL K.kA ⟨[.bp 0 0,.bp 1 0,.bp 6 0,.bp 7 0,I rs.length,I n,z6,z7],eqH c ps rs [] [] [] []⟩=
  some (.exit 0,⟨[.bp 0 0,.bp 1 0,.bp 6 0,.bp 7 0,I rs.length,I 0,.und,.und],eqH d ps rs fs [] sf []⟩):=by
 have key:=ig (vs:=[.bp 0 0,.bp 1 0,.bp 6 0,.bp 7 0,I rs.length,I n,z6,z7]) (H:=eqH c ps rs [] [] [] []) (c:=K.dh) (gc:=true) (dead:=[6,7])
  (fun j st=>∃(c:Cod) (fs:List Fan) (sf:List Int),st=⟨[.bp 0 0,.bp 1 0,.bp 6 0,.bp 7 0,I rs.length,I ((n:Int)-j),.und,.und],eqH c ps rs fs [] sf []⟩∧c.ok∧HD rs.length fs sf∧fs.length=j) n
  (fun q=>∃(c:Cod) (fs:List Fan) (sf:List Int),q=(.exit 0,⟨[.bp 0 0,.bp 1 0,.bp 6 0,.bp 7 0,I rs.length,I 0,.und,.und],eqH c ps rs fs [] sf []⟩)∧c.ok∧HD rs.length fs sf∧fs.length=n)
  ⟨c,[],[],by simp[jg],hc,⟨rfl,by simp,by simp⟩,rfl⟩ ?_ ?_
 · obtain⟨q,hq,c4,fs,sf,rfl,h4,h5,h6⟩:=key
   exact⟨c4,fs,sf,h4,h5,by omega,hq⟩
 · rintro j _ hj ⟨c,fs,sf,rfl,hc,ho,hl⟩
   have len:=ho.len
   obtain⟨v,c1,e1,h1,b1, -⟩:=hU hc rs.length (by omega)
   have b1:=b1 (by omega)
   obtain⟨x,c2,e2,h2⟩:=D8 h1 3 (by omega) (by omega)
   obtain⟨y,c3,e3,h3⟩:=D8 h2 3 (by omega) (by omega)
   obtain⟨l,c4,e4,h4,k1,k2,k3⟩:=Vj h3
   obtain⟨s,c5,e5,h5,b5, -⟩:=hU h4 3 (by omega)
   have b5:=b5 (by omega)
   have gt:(n:Int)-j>0:=by omega
   have rg:(rs.length:Int)>0:=by omega
   refine⟨⟨[.bp 0 0,.bp 1 0,.bp 6 0,.bp 7 0,I rs.length,I ((n:Int)-(j+1:Nat)),.und,.und],eqH c5 ps rs (fs++[⟨v,x,y,l⟩]) [] (sf++[s]) []⟩,?_,c5,_,_,rfl,h5,⟨by simp[len],fun f hf=>?_,fun z hz=>?_⟩,by simp[hl]⟩
   · have nx:(n:Int)-(j+1:Nat)=n-j-1:=by omega
     rw[nx]
     simp only[eqH,arF,arD,arI,arP,arR,List.map_append,List.map_cons,List.map_nil,aLv,List.length_singleton,List.length_nil]
     simp(disch:=omega)only[go_sem,K.dh,↓reduceIte,e1,e2,e3,e4,e5,gt,rg,reduceAdd,reduceSub]
   · rcases List.mem_append.1 hf with hf | hf
     · exact ho.ok f hf
     · rw[List.mem_singleton.1 hf]
       exact⟨b1.1,b1.2,k2,k1,fun p hp=>by have:=k3 p hp;omega,fun p hp=>by have:=k3 p hp;omega⟩
   · rcases List.mem_append.1 hz with hz | hz
     · exact ho.st z hz
     · rw[List.mem_singleton.1 hz];omega
 · rintro _ ⟨c,fs,sf,rfl,hc,ho,hl⟩
   refine⟨_,?_,by simp,c,fs,sf,rfl,hc,ho,hl⟩
   have z:(n:Int)-n=0:=by omega
   rw[z]
   simp only[eqH,arF,arD,arI,arP,arR]
   simp(disch:=omega)only[go_sem,K.dh,↓reduceIte,reduceAdd,reduceSub]
theorem Vp{c:Cod}(hc:c.ok){ps:List Place}{rs:List Road}(r1:1≤rs.length)(r2:rs.length≤1000){fs:List Fan}{sf:List Int}(fl:fs.length≤2)(n:Nat)(hn:n≤2)(z7:D):
 ∃(d:Cod) (ds:List lN) (sd:List Int),d.ok∧zS rs.length ds sd∧ds.length≤2∧exS bL K.kB ⟨[.bp 0 0,.bp 1 0,.bp 6 0,.bp 7 0,I rs.length,I 0,I n,z7],eqH c ps rs fs [] sf []⟩=
  some (.exit 2,⟨[.bp 0 0,.bp 1 0,.bp 6 0,.bp 7 0,I rs.length,.und,I 0,.und],eqH d ps rs fs ds sf sd⟩):=by
 have key:=ig (vs:=[.bp 0 0,.bp 1 0,.bp 6 0,.bp 7 0,I rs.length,I 0,I n,z7]) (H:=eqH c ps rs fs [] sf []) (c:=K.di) (gc:=true) (dead:=[5,7])
  (fun j st=>∃(c:Cod) (ds:List lN) (sd:List Int),st=⟨[.bp 0 0,.bp 1 0,.bp 6 0,.bp 7 0,I rs.length,.und,I ((n:Int)-j),.und],eqH c ps rs fs ds sf sd⟩∧c.ok∧zS rs.length ds sd∧ds.length=j) n
  (fun q=>∃(c:Cod) (ds:List lN) (sd:List Int),q=(.exit 2,⟨[.bp 0 0,.bp 1 0,.bp 6 0,.bp 7 0,I rs.length,.und,I 0,.und],eqH c ps rs fs ds sf sd⟩)∧c.ok∧zS rs.length ds sd∧ds.length=n)
  ⟨c,[],[],by simp[jg],hc,⟨rfl,by simp,fun k hk=>by simp at hk⟩,rfl⟩ ?_ ?_
 · obtain⟨q,hq,c4,ds,sd,rfl,h4,h5,h6⟩:=key
   exact⟨c4,ds,sd,h4,h5,by omega,hq⟩
 · rintro j _ hj ⟨c,ds,sd,rfl,hc,ho,hl⟩
   have len:=ho.len
   obtain⟨v,c1,e1,h1,b1, -⟩:=hU hc rs.length (by omega)
   have b1:=b1 (by omega)
   obtain⟨x,c2,e2,h2,dr⟩:=abk h1 v
   have l0:=dr.l0
   have l1:=dr.l1
   obtain⟨s,c3,e3,h3,b3, -⟩:=hU h2 x.rests.length (by omega)
   have b3:=b3 (by omega)
   have gt:(n:Int)-j>0:=by omega
   have rg:(rs.length:Int)>0:=by omega
   refine⟨⟨[.bp 0 0,.bp 1 0,.bp 6 0,.bp 7 0,I rs.length,.und,I ((n:Int)-(j+1:Nat)),.und],eqH c3 ps rs fs (ds++[x]) sf (sd++[s])⟩,?_,c3,_,_,rfl,h3,⟨by simp[len],fun f hf=>?_,fun k hk=>?_⟩,by simp[hl]⟩
   · have nx:(n:Int)-(j+1:Nat)=n-j-1:=by omega
     rw[nx]
     clear dr
     obtain⟨x1,x2,x3⟩:=x
     simp only at l0 l1 e3
     simp only[eqH,arF,arD,arI,arP,arR,List.map_append,List.map_cons,List.map_nil,aLv,List.length_singleton,List.length_nil]
     simp(disch:=omega)only[go_sem,K.di,↓reduceIte,e1,e2,e3,gt,rg,reduceAdd,reduceSub]
   · rcases List.mem_append.1 hf with hf | hf
     · exact ho.ok f hf
     · rw[List.mem_singleton.1 hf]
       have e:=dr.rd
       rw[e]
       exact⟨b1.1,b1.2,dr⟩
   · have hk:k<ds.length+1:=by simpa using hk
     by_cases e:k=ds.length
     · rw[jA (by omega),jA e];exact b3
     · rw[mW (by omega),mW (by omega)];exact ho.st k (by omega)
 · rintro _ ⟨c,ds,sd,rfl,hc,ho,hl⟩
   refine⟨_,?_,by simp,c,ds,sd,rfl,hc,ho,hl⟩
   have z:(n:Int)-n=0:=by omega
   rw[z]
   simp only[eqH,arF,arD,arI,arP,arR]
   simp(disch:=omega)only[go_sem,K.di,↓reduceIte,reduceAdd,reduceSub]
abbrev pX(sf sd:List Int):T:= .agg [tL sf,tL sd]
abbrev Na(c:Cod)(ps:List Place)(rs:List Road)(fs:List Fan)(ds:List lN):af:=
 [c.obj,.box [.ref 2 0 ps.length,.ref 3 0 rs.length,.ref 4 0 fs.length,.ref 5 0 ds.length],arP ps,arR rs,arF fs,arD ds]
theorem OB{c:Cod}(hc:c.ok){ps:List Place}{rs:List Road}(r2:rs.length≤1000):
 ∃(d:Cod) (fs:List Fan) (ds:List lN) (sf sd:List Int),d.ok∧HD rs.length fs sf∧fs.length≤2∧zS rs.length ds sd∧ds.length≤2∧
  bL 0 N.bH [.bp 0 0,.bp 1 0] (Na c ps rs [] [])=some (.t (pX sf sd),Na d ps rs fs ds):=by
 obtain⟨n,c1,e1,h1,b1, -⟩:=hU hc 3 (by omega)
 have b1:=b1 (by omega)
 obtain⟨n,rfl⟩:=Int.eq_ofNat_of_zero_le b1.1
 by_cases r1:1≤rs.length
 · obtain⟨c2,fs,sf,h2,g2,l2,q2⟩:=Vo h1 (ps:=ps) r1 r2 n (by omega) .und .und
   obtain⟨k,c3,e3,h3,b3, -⟩:=hU h2 3 (by omega)
   have b3:=b3 (by omega)
   obtain⟨k,rfl⟩:=Int.eq_ofNat_of_zero_le b3.1
   obtain⟨c4,ds,sd,h4,g4,l4,q4⟩:=Vp h3 (ps:=ps) r1 r2 (sf:=sf) l2 k (by omega) .und
   refine⟨c4,fs,ds,sf,sd,h4,g2,l2,g4,l4,aI K.jd rfl ?_⟩
   have a1:=g2.len
   have a2:=g4.len
   simp only[eqH,Na,arF,arD,arI,arP,arR,List.map_nil,List.length_nil]at q2 q4 ⊢
   simp(disch:=omega)only[go_sem,K.bH,↓reduceIte,e1,q2,e3,q4,reduceAdd,reduceSub]
 · obtain⟨k,c3,e3,h3,b3, -⟩:=hU h1 3 (by omega)
   have b3:=b3 (by omega)
   refine⟨c3,[],[],[],[],h3,⟨rfl,by simp,by simp⟩,by simp,⟨rfl,by simp,fun k hk=>by simp at hk⟩,by simp,aI K.jd rfl ?_⟩
   have r0:rs.length=0:=by omega
   have q2:∀z6 z7:D,exS bL K.kA ⟨[.bp 0 0,.bp 1 0,.bp 6 0,.bp 7 0,I rs.length,I n,z6,z7],eqH c1 ps rs [] [] [] []⟩=some (.exit 0,⟨[.bp 0 0,.bp 1 0,.bp 6 0,.bp 7 0,I rs.length,I n,.und,.und],eqH c1 ps rs [] [] [] []⟩):=by
    intro z6 z7
    refine cT (fun _=>⟨[.bp 0 0,.bp 1 0,.bp 6 0,.bp 7 0,I rs.length,I n,.und,.und],eqH c1 ps rs [] [] [] []⟩) 0 rfl (fun j hj=>by omega) ?_ (by simp)
    simp only[eqH,arF,arD,arI,arP,arR,r0]
    by_cases z:(n:Int)>0
    · simp(disch:=omega)only[go_sem,K.dh,↓reduceIte,z,reduceAdd,reduceSub]
    · simp(disch:=omega)only[go_sem,K.dh,↓reduceIte,z,reduceAdd,reduceSub]
   have q4:∀z5 z7:D,exS bL K.kB ⟨[.bp 0 0,.bp 1 0,.bp 6 0,.bp 7 0,I rs.length,z5,I k,z7],eqH c3 ps rs [] [] [] []⟩=some (.exit 2,⟨[.bp 0 0,.bp 1 0,.bp 6 0,.bp 7 0,I rs.length,.und,I k,.und],eqH c3 ps rs [] [] [] []⟩):=by
    intro z6 z7
    refine cT (fun _=>⟨[.bp 0 0,.bp 1 0,.bp 6 0,.bp 7 0,I rs.length,.und,I k,.und],eqH c3 ps rs [] [] [] []⟩) 0 rfl (fun j hj=>by omega) ?_ (by simp)
    simp only[eqH,arF,arD,arI,arP,arR,r0]
    by_cases z:k>0
    · simp(disch:=omega)only[go_sem,K.di,↓reduceIte,z,reduceAdd,reduceSub]
    · simp(disch:=omega)only[go_sem,K.di,↓reduceIte,z,reduceAdd,reduceSub]
   simp only[eqH,Na,arF,arD,arI,arP,arR,List.map_nil,List.length_nil]at q2 q4 ⊢
   simp(disch:=omega)only[go_sem,K.bH,↓reduceIte,e1,q2,e3,q4,reduceAdd,reduceSub]
   rfl
theorem sq{gc:Bool}{dead:List Nat}{c:C}{vs:List D}{H:af}(P:Nat→St→Prop)(n:Nat)(Q:Ex×St→Prop)(h0:P n ⟨jg dead vs,H⟩)
 (hs:∀n st,P n st→(∃st' m,m<n∧om gc dead st.H.length (exS bL c st)=some st'∧P m st')∨∃q,exS bL c st=some q∧q.1≠ .normal∧Q q):∃q,exS bL (.loop gc dead c) ⟨vs,H⟩=some q∧Q q:=by
 have key:∀(n:Nat) (st:St),P n st→∃q,tK gc dead (exS bL c) st=some q∧Q q:=by
  intro n
  induction n using Nat.strongRecOn with
  | ind n ih=>
    intro st hp
    rcases hs n st hp with⟨st',m,hm,h1,h2⟩ | ⟨q,h1,h2,h3⟩
    · obtain⟨q,h3,h4⟩:=ih m hm st' h2
      exact⟨q,sH h1 h3,h4⟩
    · exact⟨q,nC h1 h2,h3⟩
 exact key n _ h0
theorem abl{a b:Int}(hb:0<b):a / b=if a.tmod b<0 then a.tdiv b-1 else a.tdiv b:=by
 have h:=Int.mul_tdiv_add_tmod a b
 have h1:=Int.lt_tmod_of_pos a hb
 have h2:=Int.tmod_lt_of_pos a hb
 split
 · refine((Int.ediv_emod_unique hb (r:=a.tmod b+b)).2 ⟨?_,by omega,by omega⟩).1
   rw[Int.mul_sub,Int.mul_one];omega
 · exact((Int.ediv_emod_unique hb (r:=a.tmod b)).2 ⟨by omega,by omega,by omega⟩).1
theorem Nb{a b:Int}(hb:0<b)(h1: -4611686018427387904≤a)(h2:a≤4611686018427387904)(h3:b≤4611686018427387904):bL 0 N.fY [I a,I b] []=some (I (a / b),[]):=by
 refine aI K.uh rfl ?_
 rw[abl hb]
 have h:=Int.mul_tdiv_add_tmod a b
 have g1:=Int.lt_tmod_of_pos a hb
 have g2:=Int.tmod_lt_of_pos a hb
 have q: -4611686018427387904≤a.tdiv b∧a.tdiv b≤4611686018427387904:=by
  rcases Int.le_total 0 a with x | x
  · have:=Int.tdiv_nonneg x (b:=b) (by omega)
    have:a.tdiv b≤a:=Int.tdiv_le_self _ x
    omega
  · have e:a.tdiv b= -((-a).tdiv b):=by rw[Int.neg_tdiv,Int.neg_neg]
    have:=Int.tdiv_nonneg (a:= -a) (by omega) (b:=b) (by omega)
    have:(-a).tdiv b≤ -a:=Int.tdiv_le_self _ (by omega)
    omega
 have bz:¬b=0:=by omega
 by_cases c:a.tmod b<0
 · simp(disch:=omega)only[go_sem,K.fY,↓reduceIte,c,bz,reduceAdd,reduceSub]
 · simp(disch:=omega)only[go_sem,K.fY,↓reduceIte,c,bz,reduceAdd,reduceSub]
theorem RZ{a b:Int}(hb:0<b)(h1: -4611686018427387904≤a)(h2:a≤4611686018427387904)(h3:b≤4611686018427387904):bL 0 N.kv [I a,I b] []=some (I (-((-a) / b)),[]):=by
 refine aI K.wk rfl ?_
 have f:=Nb (a:= -a) hb (by omega) (by omega) h3
 have q: -4611686018427387904≤(-a) / b∧(-a) / b≤4611686018427387904:=by
  constructor
  · have:(-4611686018427387904) / 1≤(-a) / b:=by
     rw[Int.ediv_one,Int.le_ediv_iff_mul_le hb]
     have:(4611686018427387904:Int)*1≤4611686018427387904*b:=Int.mul_le_mul_of_nonneg_left (by omega) (by omega)
     omega
    simpa using this
  · rcases Int.le_total 0 (-a)with x | x
    · have:=Int.ediv_le_self b x;omega
    · have:(-a) / b≤0 / b:=Int.ediv_le_ediv hb x
      rw[Int.zero_ediv]at this;omega
 have e0:(0-a)= -a:=by omega
 have e1:0-(-a) / b= -((-a) / b):=by omega
 simp(disch:=omega)only[go_sem,K.kv,↓reduceIte,f,e0,e1,reduceAdd,reduceSub]
theorem abm{n w:Int}(hw:0<w):(-n) / w= -AE n w:=by
 unfold AE
 have h1:=Int.mul_ediv_add_emod n w
 have h2:=Int.emod_nonneg n (b:=w) (by omega)
 have h3:=Int.emod_lt_of_pos n hw
 split
 · refine((Int.ediv_emod_unique hw (r:=w-n % w)).2 ⟨?_,by omega,by omega⟩).1
   rw[Int.mul_neg,Int.mul_add,Int.mul_one];omega
 · refine((Int.ediv_emod_unique hw (r:=0)).2 ⟨?_,by omega,by omega⟩).1
   rw[Int.mul_neg,Int.add_zero];omega
theorem Nc(a b:Spn)(q:Int)(h:a.low<b.low):Cf a b q=⟨a.high+(b.high-a.high)*(q-a.low) / (b.low-a.low),a.high+ -((-((b.high-a.high)*(q-a.low))) / (b.low-a.low))⟩:=by
 have e:(b.high-a.high)*(q-a.low)= -((a.high-b.high)*(q-a.low)):=by rw[← Int.neg_mul];congr 1;omega
 unfold Cf
 rw[e,abm (by omega),Int.neg_neg]
 congr 1
theorem JB:∀(r:List Spn) (a:Spn) (q:Int),xd a r→(nth (a::r) r.length).low≤q→Ut a r q=⟨(nth (a::r) r.length).high,(nth (a::r) r.length).high⟩
 | [],a,q,_,_=>rfl
 | b::r,a,q,h,hq=>by
   have mono:∀(r:List Spn) (b:Spn),xd b r→b.low≤(nth (b::r) r.length).low:=by
    intro r
    induction r with
    | nil=>intro b _;exact Int.le_refl _
    | cons x r ih=>
      intro b h
      have:=ih x h.2.2.2
      have:=h.1
      have e:(nth (b::x::r) (x::r).length)=nth (x::r) r.length:=rfl
      rw[e];omega
   have e:(nth (a::b::r) (b::r).length)=nth (b::r) r.length:=rfl
   rw[e]at hq ⊢
   have:=mono r b h.2.2.2
   unfold Ut
   rw[if_neg (by omega)]
   exact JB r b q h.2.2.2 hq
theorem R0:∀(k:Nat) (r:List Spn) (a:Spn) (q:Int),xd a r→k<r.length→(nth (a::r) k).low≤q→q<(nth (a::r) (k+1)).low→Ut a r q=Cf (nth (a::r) k) (nth (a::r) (k+1)) q
 | 0,[],_,_,_,hk,_,_=>by simp at hk
 | 0,b::r,a,q,h,hk,h1,h2=>by
   have e:nth (a::b::r) 1=b:=rfl
   have e0:nth (a::b::r) 0=a:=rfl
   rw[e]at h2 ⊢
   rw[e0]
   unfold Ut
   rw[if_pos h2]
 | k+1,[],_,_,_,hk,_,_=>by simp at hk
 | k+1,b::r,a,q,h,hk,h1,h2=>by
   have e:∀j,nth (a::b::r) (j+1)=nth (b::r) j:=fun _=>rfl
   rw[e]at h1 h2 ⊢
   rw[e]
   have mono:∀(k:Nat) (r:List Spn) (b:Spn),xd b r→k≤r.length→b.low≤(nth (b::r) k).low:=by
    intro k
    induction k with
    | zero=>intro r b _ _;exact Int.le_refl _
    | succ k ih=>
      intro r b h hk
      cases r with
      | nil=>simp at hk
      | cons x r=>
        have:=ih r x h.2.2.2 (by simpa using hk)
        have:=h.1
        have e:nth (b::x::r) (k+1)=nth (x::r) k:=rfl
        rw[e];omega
   have hk:k<r.length:=by simpa using hk
   have:=mono k r b h.2.2.2 (by omega)
   rw[Ut,if_neg (by omega)]
   exact R0 k r b q h.2.2.2 hk h1 h2
theorem OC{l:List Spn}(h:o7 l){q:Int}(h0:¬q≤(nth l 0).low)(h1:(nth l (l.length-1)).low≤q):fQ l q=⟨(nth l (l.length-1)).high,(nth l (l.length-1)).high⟩:=by
 cases l with
 | nil=>exact h.elim
 | cons a r=>
   have e0:nth (a::r) 0=a:=rfl
   rw[e0]at h0
   unfold fQ
   simp only
   rw[if_neg h0,←K5 r a q h.2]
   exact JB r a q h.2 h1
theorem Vq{l:List Spn}(h:o7 l){q:Int}(h0:¬q≤(nth l 0).low){k:Nat}(hk:k+1<l.length)(h1:(nth l k).low≤q)(h2:q<(nth l (k+1)).low):fQ l q=Cf (nth l k) (nth l (k+1)) q:=by
 cases l with
 | nil=>exact h.elim
 | cons a r=>
   have e0:nth (a::r) 0=a:=rfl
   rw[e0]at h0
   unfold fQ
   simp only
   rw[if_neg h0,←K5 r a q h.2]
   exact R0 k r a q h.2 (by simpa using hk) h1 h2
theorem R3(d:lN){k:Nat}(hk:k<d.rests.length)(hl:d.rests.length≤1000):bL 0 N.kt [.t d.e,I k] []=some (.t (Spn.e ⟨nth d.rests k,nth d.rests k⟩),[]):=by
 refine aI K.vZ rfl ?_
 have e:(d.rests.map (T.int .i64))[k]?=some (tI (nth d.rests k)):=aQ _ hk
 have k0:¬(k:Int)< -1:=by omega
 have l0:¬(d.rests.length:Int)=0:=by omega
 have k1:¬(k:Int)≥d.rests.length:=by omega
 have k2:(k:Int)≥0:=by omega
 generalize nth d.rests k=x at*
 obtain⟨x1,x2,x3⟩:=d
 simp only at*
 simp(disch:=omega)only[go_sem,K.kt,↓reduceIte,e,k0,l0,k1,k2,reduceAdd,reduceSub]
abbrev Eb(f:Fan):List D:=[I f.cL,B f.back,B f.aux,.t (tS f.cur)]
theorem AP{a b A B:Int}(h1: -A≤a)(h2:a≤A)(h3: -B≤b)(h4:b≤B): -(A*B)≤a*b∧a*b≤A*B:=by
 have hA:0≤A:=by omega
 have hB:0≤B:=by omega
 rcases Int.le_total 0 a with x | x<;>rcases Int.le_total 0 b with y | y
 · have:=Int.mul_le_mul h2 h4 y hA;have:=Int.mul_nonneg x y;have:=Int.mul_nonneg hA hB;omega
 · have:=Int.mul_le_mul h2 (show -b≤B by omega) (by omega) hA;rw[Int.mul_neg]at this;have:=Int.mul_nonneg x (show 0≤ -b by omega);rw[Int.mul_neg]at this;have:=Int.mul_nonneg hA hB;omega
 · have:=Int.mul_le_mul (show -a≤A by omega) h4 y hA;rw[Int.neg_mul]at this;have:=Int.mul_nonneg (show 0≤ -a by omega) y;rw[Int.neg_mul]at this;have:=Int.mul_nonneg hA hB;omega
 · have:=Int.mul_le_mul (show -a≤A by omega) (show -b≤B by omega) (by omega) hA;rw[Int.neg_mul_neg]at this;have:=Int.mul_nonneg (show 0≤ -a by omega) (show 0≤ -b by omega);rw[Int.neg_mul_neg]at this;have:=Int.mul_nonneg hA hB;omega
theorem R4:∀(k:Nat) (r:List Spn) (a:Spn),xd a r→k<r.length→(nth (a::r) k).low<(nth (a::r) (k+1)).low∧(nth (a::r) (k+1)).high≤(nth (a::r) k).high
 | _,[],_,_,hk=>by simp at hk
 | 0,b::r,a,h,_=>⟨h.1,h.2.1⟩
 | k+1,b::r,a,h,hk=>R4 k r b h.2.2.2 (by simpa using hk)
theorem Ec{l:List Spn}(h:o7 l){k:Nat}(hk:k+1<l.length):(nth l k).low<(nth l (k+1)).low∧(nth l (k+1)).high≤(nth l k).high:=by
 cases l with
 | nil=>exact h.elim
 | cons a r=>exact R4 k r a h.2 (by simpa using hk)
theorem OD{n:Nat}{f:Fan}(h:f.ok n){q:Int}(q0: -10000000≤q)(q1:q≤10000000)(c0:¬q≤(nth f.cur 0).low)(c1:q<(nth f.cur (f.cur.length-1)).low):
 ∀z0:D,∃p,exS bL K.xO ⟨[z0,I q,.bp 0 0,.bp 1 0,I f.cur.length,I 0,.und,.und,.und,.und],[.box (Eb f),.box [I 0,I 0]]⟩=some p∧
  ∃k:Nat,p=(.exit 0,⟨[.und,I q,.bp 0 0,.bp 1 0,.und,I k,.und,.und,.und,.und],[.box (Eb f),.box [I 0,I 0]]⟩)∧k+1<f.cur.length∧(nth f.cur k).low≤q∧q<(nth f.cur (k+1)).low:=by
 intro z0
 obtain⟨r0,r1,ln,cu,fl,pr⟩:=h
 refine sq (fun m st=>∃k:Nat,st=⟨[.und,I q,.bp 0 0,.bp 1 0,.und,I k,.und,.und,.und,.und],[.box (Eb f),.box [I 0,I 0]]⟩∧k+1<f.cur.length∧(nth f.cur k).low≤q∧m=f.cur.length-k) f.cur.length _
  ⟨0,rfl,?_,by omega,by omega⟩ ?_
 · rcases Nat.lt_or_ge 1 f.cur.length with x | x
   · omega
   · have:f.cur.length-1=0:=by omega
     rw[this]at c1;omega
 · rintro m _ ⟨k,rfl,k1,k2,rfl⟩
   have gb:(f.cur.map Spn.e)[k+1]?=some (nth f.cur (k+1)).e:=aQ _ (by omega)
   have t1:((k:Int)+1).toNat=k+1:=by omega
   by_cases c:(nth f.cur (k+1)).low≤q
   · refine .inl ⟨⟨[.und,I q,.bp 0 0,.bp 1 0,.und,I (k+1:Nat),.und,.und,.und,.und],[.box (Eb f),.box [I 0,I 0]]⟩,f.cur.length-(k+1),by omega,?_,k+1,rfl,?_,c,rfl⟩
     · generalize nth f.cur (k+1)=v at*
       obtain⟨f1,f2,f3,f4⟩:=f
       obtain⟨v1,v2⟩:=v
       simp only[Eb]at*
       rw[show((k+1:Nat):Int)=(k:Int)+1 by omega]
       simp(disch:=omega)only[go_sem,K.qY,↓reduceIte,gb,t1,c,reduceAdd,reduceSub]
     · rcases Nat.lt_or_ge (k+2) f.cur.length with x | x
       · omega
       · have:f.cur.length-1=k+1:=by omega
         rw[this]at c1;omega
   · refine .inr ⟨_,?_,by simp,k,rfl,k1,k2,by omega⟩
     generalize nth f.cur (k+1)=v at*
     obtain⟨f1,f2,f3,f4⟩:=f
     obtain⟨v1,v2⟩:=v
     simp only[Eb]at*
     simp(disch:=omega)only[go_sem,K.qY,↓reduceIte,gb,t1,c,reduceAdd,reduceSub]
theorem Nd{n:Nat}{f:Fan}(h:f.ok n){q:Int}(q0: -10000000≤q)(q1:q≤10000000):bL 0 N.fe [.t f.e,I q] []=some (.t (fQ f.cur q).e,[]):=by
 refine aI K.uf rfl ?_
 obtain⟨r0,r1,ln,cu,fl,pr⟩:=h
 have l1:1≤f.cur.length:=by
  cases hc:f.cur with
  | nil=>rw[hc]at cu;exact cu.elim
  | cons a r=>simp
 have g0:(f.cur.map Spn.e)[0]?=some (nth f.cur 0).e:=aQ _ (by omega)
 have gl:(f.cur.map Spn.e)[f.cur.length-1]?=some (nth f.cur (f.cur.length-1)).e:=aQ _ (by omega)
 have tn:((f.cur.length:Int)-1).toNat=f.cur.length-1:=by omega
 by_cases c0:q≤(nth f.cur 0).low
 · have e:fQ f.cur q=⟨(nth f.cur 0).high,(nth f.cur 0).high⟩:=by
    cases hc:f.cur with
    | nil=>rw[hc]at cu;exact cu.elim
    | cons a r=>
      have e0:nth (a::r) 0=a:=rfl
      rw[hc,e0]at c0
      rw[e0];unfold fQ;simp only;rw[if_pos c0]
   rw[e]
   clear e gl
   generalize nth f.cur 0=x at*
   obtain⟨f1,f2,f3,f4⟩:=f
   obtain⟨x1,x2⟩:=x
   simp only at*
   simp(disch:=omega)only[go_sem,K.fe,↓reduceIte,g0,c0,reduceAdd,reduceSub]
 · by_cases c1:(nth f.cur (f.cur.length-1)).low≤q
   · rw[OC cu c0 c1]
     generalize nth f.cur (f.cur.length-1)=y at*
     generalize nth f.cur 0=x at*
     obtain⟨f1,f2,f3,f4⟩:=f
     obtain⟨x1,x2⟩:=x
     obtain⟨y1,y2⟩:=y
     simp only at*
     have c1':q≥y1:=c1
     simp(disch:=omega)only[go_sem,K.fe,↓reduceIte,g0,c0,gl,tn,c1',reduceAdd,reduceSub]
   · obtain⟨p,lp,k,rfl,k1,k2,k3⟩:=OD ⟨r0,r1,ln,cu,fl,pr⟩ q0 q1 c0 (by omega) (.t f.e)
     rw[Vq cu c0 k1 k2 k3,Nc]
     · have ga:(f.cur.map Spn.e)[k]?=some (nth f.cur k).e:=aQ _ (by omega)
       have gb:(f.cur.map Spn.e)[k+1]?=some (nth f.cur (k+1)).e:=aQ _ (by omega)
       have t1:((k:Int)+1).toNat=k+1:=by omega
       have ba:=pr _ (ak (l:=f.cur) (j:=k) (by omega))
       have bb:=pr _ (ak (l:=f.cur) (j:=k+1) (by omega))
       have fa:=fl _ (ak (l:=f.cur) (j:=k) (by omega))
       have fb:=fl _ (ak (l:=f.cur) (j:=k+1) (by omega))
       have c1':¬q≥(nth f.cur (f.cur.length-1)).low:=c1
       have pb:=AP (a:=(nth f.cur (k+1)).high-(nth f.cur k).high) (b:=q-(nth f.cur k).low) (A:=1000000) (B:=12000000) (by omega) (by omega) (by omega) (by omega)
       have fo:=Nb (a:=((nth f.cur (k+1)).high-(nth f.cur k).high)*(q-(nth f.cur k).low)) (b:=(nth f.cur (k+1)).low-(nth f.cur k).low) (by omega) (by omega) (by omega) (by omega)
       have co:=RZ (a:=((nth f.cur (k+1)).high-(nth f.cur k).high)*(q-(nth f.cur k).low)) (b:=(nth f.cur (k+1)).low-(nth f.cur k).low) (by omega) (by omega) (by omega) (by omega)
       have db:=Ho (a:=nth f.cur k) (b:=nth f.cur (k+1)) (q:=q) (by omega) (Ec cu k1).2 (by omega) (by omega)
       rw[Nc _ _ _ (by omega)]at db
       simp only at db
       generalize nth f.cur (f.cur.length-1)=y at*
       generalize nth f.cur 0=x at*
       generalize nth f.cur k=u at*
       generalize nth f.cur (k+1)=v at*
       obtain⟨f1,f2,f3,f4⟩:=f
       obtain⟨x1,x2⟩:=x
       obtain⟨y1,y2⟩:=y
       obtain⟨u1,u2⟩:=u
       obtain⟨v1,v2⟩:=v
       simp only at*
       generalize hG:(v2-u2)*(q-u1)=G at*
       generalize G / (v1-u1)=G1 at*
       generalize -(-G / (v1-u1))=G2 at*
       simp(disch:=omega)only[go_sem,K.fe,↓reduceIte,g0,c0,gl,tn,c1',lp,ga,gb,t1,hG,fo,co,reduceAdd,reduceSub]
     · omega
theorem Gx{n:Nat}{f:Fan}(h:f.ok n)(b:Bool){q:Int}(q0: -10000000≤q)(q1:q≤10000000):bL 0 N.eH [.t f.e,B b,I q] []=some (.t (jP f b q).e,[]):=by
 refine aI K.ud rfl ?_
 have i1:=Nd h q0 q1
 have i2:=Nd h (q:= -q) (by omega) (by omega)
 have nq:0-q= -q:=by omega
 have b2:=rG h b q
 unfold jP ahf at b2 ⊢
 generalize fQ f.cur q=x at*
 generalize fQ f.cur (-q)=y at*
 obtain⟨f1,f2,f3,f4⟩:=f
 obtain⟨x1,x2⟩:=x
 obtain⟨y1,y2⟩:=y
 have n1:0-y1= -y1:=by omega
 have n2:0-y2= -y2:=by omega
 cases b with
 | true=>
   simp only[if_true]at b2 ⊢
   simp(disch:=omega)only[go_sem,K.eH,↓reduceIte,i1,i2,nq,n1,n2,reduceAdd,reduceSub]
 | false=>
   simp only[aLt,if_false]at b2 ⊢
   simp(disch:=omega)only[go_sem,K.eH,↓reduceIte,i1,i2,reduceAdd,reduceSub]
theorem OE{n:Nat}{f:Fan}(h:f.ok n){st:Int}(h0:0≤st)(h2:st≤2){q:Int}(q0: -10000000≤q)(q1:q≤10000000):bL 0 N.fX [.t f.e,I st,I q] []=some (.t (mz f st q).e,[]):=by
 refine aI K.tZ rfl ?_
 have i1:=Gx h f.back q0 q1
 have i2:=Gx h (!f.back) q0 q1
 unfold mz
 generalize jP f f.back q=x at*
 generalize jP f (!f.back) q=y at*
 obtain⟨f1,f2,f3,f4⟩:=f
 obtain⟨x1,x2⟩:=x
 obtain⟨y1,y2⟩:=y
 simp only at*
 rcases (show st=0∨st=1∨st=2 by omega)with rfl | rfl | rfl
 · rw[if_neg (by omega),if_neg (by omega),if_neg (by omega)]
   simp(disch:=omega)only[go_sem,K.fX,↓reduceIte,i1,i2,reduceAdd,reduceSub]
 · rw[if_pos rfl]
   simp(disch:=omega)only[go_sem,K.fX,↓reduceIte,i1,i2,reduceAdd,reduceSub]
 · rw[if_neg (by omega),if_pos rfl]
   simp(disch:=omega)only[go_sem,K.fX,↓reduceIte,i1,i2,reduceAdd,reduceSub]
def fK(ds:List lN)(sd:List Int)(i:Int)(n:Nat):Int:=eL (fun j=>if(nth ds j).cL=i then nth (nth ds j).rests (nth sd j).toNat else 0) n
def nU(fs:List Fan)(sf:List Int)(i q:Int)(n:Nat):Int:=eL (fun j=>if(nth fs j).cL=i then(mz (nth fs j) (nth sf j) q).low else 0) n
abbrev xE(pr fl:List Int):T:= .agg [tL pr,tL fl]
abbrev Gy(c:Cod)(ps:List Place)(rs:List Road)(fs:List Fan)(ds:List lN)(sf sd pr fl:List Int):af:=
 [c.obj,.box [.ref 2 0 ps.length,.ref 3 0 rs.length,.ref 4 0 fs.length,.ref 5 0 ds.length],arP ps,arR rs,arF fs,arD ds,.box [.t (tL sf),.t (tL sd)],.box [.t (tL pr),.t (tL fl)]]
theorem aie{c:Cod}{ps:List Place}{rs:List Road}{fs:List Fan}{ds:List lN}{sf sd pr fl:List Int}(hd:zS rs.length ds sd)(dl:ds.length≤2)(i:Nat)(q r0:Int)(h0:0≤r0)(h1:r0≤100000)(z2 z3 z11 z12:D):
 exS bL K.sT ⟨[.bp 0 0,.bp 1 0,z2,z3,.bp 6 0,.bp 7 0,I i,.ap 3 0 rs.length i 0,I q,I r0,I 0,z11,z12],Gy c ps rs fs ds sf sd pr fl⟩=
  some (.exit 2,⟨[.bp 0 0,.bp 1 0,.und,.und,.bp 6 0,.bp 7 0,I i,.ap 3 0 rs.length i 0,I q,I (r0+fK ds sd i ds.length),I ds.length,.und,.und],Gy c ps rs fs ds sf sd pr fl⟩)∧0≤fK ds sd i ds.length∧fK ds sd i ds.length≤1800:=by
 have len:=hd.len
 have bd:∀j,j<ds.length→0≤nth (nth ds j).rests (nth sd j).toNat∧nth (nth ds j).rests (nth sd j).toNat≤900:=fun j hj=>by
  obtain⟨-, -,dr⟩:=hd.ok _ (ak hj)
  have:=hd.st j hj
  exact dr.bd _ (ak (by omega))
 have sb:∀j,j≤ds.length→0≤fK ds sd i j∧fK ds sd i j≤900*j:=by
  intro j
  induction j with
  | zero=>intro _;simp[fK,eL]
  | succ j ih=>
    intro hj
    have:=ih (by omega)
    have:=bd j (by omega)
    unfold fK at*
    simp only[eL]
    split<;>omega
 refine⟨?_,(sb _ (aLs _)).1,by have:=(sb _ (aLs _)).2;omega⟩
 refine cT (fun j=>⟨[.bp 0 0,.bp 1 0,.und,.und,.bp 6 0,.bp 7 0,I i,.ap 3 0 rs.length i 0,I q,I (r0+fK ds sd i j),I j,.und,.und],Gy c ps rs fs ds sf sd pr fl⟩) ds.length (by simp[jg,fK,eL]) ?_ ?_ (by simp)
 · intro j hj
   obtain⟨d0,d1,dr⟩:=hd.ok _ (ak hj)
   have ds0:=hd.st j hj
   have l1:=dr.l1
   have b1:=sb j (by omega)
   have b2:=bd j hj
   have re:=R3 (nth ds j) (k:=(nth sd j).toNat) (by omega) (by omega)
   have tn:((nth sd j).toNat:Int)=nth sd j:=by omega
   rw[tn]at re
   have g1:((ds.map lN.e).map D.t)[j]?=some (.t (nth ds j).e):=cE _ _ hj
   have g2:(sd.map (T.int .i64))[j]?=some (tI (nth sd j)):=aQ _ (by omega)
   have nx:fK ds sd i (j+1)=fK ds sd i j+if(nth ds j).cL=i then nth (nth ds j).rests (nth sd j).toNat else 0:=rfl
   rw[nx]
   have jl:(j:Int)<ds.length:=by omega
   generalize fK ds sd i j=S at*
   generalize nth (nth ds j).rests (nth sd j).toNat=v at*
   generalize nth sd j=sj at*
   clear dr bd sb nx
   generalize nth ds j=x at*
   obtain⟨x1,x2,x3⟩:=x
   simp only at*
   have w:IntKind.i64.wrap (r0+S+v)=r0+S+v:=oo (by omega) (by omega)
   by_cases e:x1=i
   · subst e
     rw[if_pos rfl]
     simp only[Gy,arP,arR,arF,arD]
     simp(disch:=omega)only[go_sem,K.kH,↓reduceIte,g1,g2,re,jl,w,Int.add_assoc,reduceAdd,reduceSub]
   · rw[if_neg e]
     simp only[Gy,arP,arR,arF,arD]
     simp(disch:=omega)only[go_sem,K.kH,↓reduceIte,g1,e,jl,Int.add_zero,reduceAdd,reduceSub]
 · simp only[Gy,arP,arR,arF,arD]
   simp(disch:=omega)only[go_sem,K.kH,↓reduceIte,reduceAdd,reduceSub]
theorem aif{c:Cod}{ps:List Place}{rs:List Road}{fs:List Fan}{ds:List lN}{sf sd pr fl:List Int}(hf:HD rs.length fs sf)(fll:fs.length≤2)(i:Nat)(q l0:Int)(q0: -10000≤q)(q1:q≤10000)(h0: -100000000000≤l0)(h1:l0≤100000000000)(z2 z3 z9 z10:D):
 exS bL K.sU ⟨[.bp 0 0,.bp 1 0,z2,z3,.bp 6 0,.bp 7 0,I i,.ap 3 0 rs.length i 0,I q,z9,z10,I l0,I 0],Gy c ps rs fs ds sf sd pr fl⟩=
  some (.exit 4,⟨[.bp 0 0,.bp 1 0,.und,.und,.bp 6 0,.bp 7 0,I i,.ap 3 0 rs.length i 0,I q,.und,.und,I (l0-nU fs sf i q fs.length),I fs.length],Gy c ps rs fs ds sf sd pr fl⟩)∧ -2000000≤nU fs sf i q fs.length∧nU fs sf i q fs.length≤2000000:=by
 have len:=hf.len
 have bd:∀j,j<fs.length→ -1000000≤(mz (nth fs j) (nth sf j) q).low∧(mz (nth fs j) (nth sf j) q).low≤1000000:=fun j hj=>by
  have:=Hp (hf.ok _ (ak hj)) (nth sf j) q
  omega
 have sb:∀j,j≤fs.length→ -(1000000*(j:Int))≤nU fs sf i q j∧nU fs sf i q j≤1000000*j:=by
  intro j
  induction j with
  | zero=>intro _;simp[nU,eL]
  | succ j ih=>
    intro hj
    have:=ih (by omega)
    have:=bd j (by omega)
    unfold nU at*
    simp only[eL]
    split<;>omega
 refine⟨?_,by have:=(sb _ (aLs _)).1;omega,by have:=(sb _ (aLs _)).2;omega⟩
 refine cT (fun j=>⟨[.bp 0 0,.bp 1 0,.und,.und,.bp 6 0,.bp 7 0,I i,.ap 3 0 rs.length i 0,I q,.und,.und,I (l0-nU fs sf i q j),I j],Gy c ps rs fs ds sf sd pr fl⟩) fs.length (by simp[jg,nU,eL]) ?_ ?_ (by simp)
 · intro j hj
   have fo:=hf.ok _ (ak hj)
   have so:=hf.st _ (ak (l:=sf) (j:=j) (by omega))
   have b1:=sb j (by omega)
   have b2:=bd j hj
   have re:=OE fo so.1 so.2 (q:=q) (by omega) (by omega)
   have g1:((fs.map Fan.e).map D.t)[j]?=some (.t (nth fs j).e):=cE _ _ hj
   have g2:(sf.map (T.int .i64))[j]?=some (tI (nth sf j)):=aQ _ (by omega)
   have nx:nU fs sf i q (j+1)=nU fs sf i q j+if(nth fs j).cL=i then(mz (nth fs j) (nth sf j) q).low else 0:=rfl
   rw[nx]
   have jl:(j:Int)<fs.length:=by omega
   generalize nU fs sf i q j=S at*
   generalize nth sf j=sj at*
   clear fo bd sb nx
   generalize nth fs j=x at*
   generalize mz x sj q=v at*
   obtain⟨x1,x2,x3,x4⟩:=x
   obtain⟨v1,v2⟩:=v
   simp only at*
   have w:IntKind.i64.wrap (l0-S-v1)=l0-S-v1:=oo (by omega) (by omega)
   have a1:l0-(S+v1)=l0-S-v1:=by omega
   have a2:l0-(S+0)=l0-S:=by omega
   by_cases e:x1=i
   · subst e
     rw[if_pos rfl,a1]
     simp only[Gy,arP,arR,arF,arD]
     simp(disch:=omega)only[go_sem,K.kI,↓reduceIte,g1,g2,re,jl,w,reduceAdd,reduceSub]
   · rw[if_neg e,a2]
     simp only[Gy,arP,arR,arF,arD]
     simp(disch:=omega)only[go_sem,K.kI,↓reduceIte,g1,e,jl,reduceAdd,reduceSub]
 · simp only[Gy,arP,arR,arF,arD]
   simp(disch:=omega)only[go_sem,K.kI,↓reduceIte,reduceAdd,reduceSub]
structure Fit(fs:List Fan)(ds:List lN)(sf sd pr fl:List Int)(i:Nat)(r r':Road):Prop where
 frm:r'.frm=r.frm
 to:r'.to=r.to
 ok:∀n,r.dr n→r'.dr n
 cl:r'.closed=r.closed
 rl:r'.restL=r.restL
 rh:r'.restH=r.restH
 fit:∃r0 lift:Int,r.restL≤r0∧r0≤r.restH∧r'.liftL≤lift∧lift≤r'.liftH∧
  lift=(r0+fK ds sd i ds.length)*(max (nth fl i) (-(nth fl i)))*nth fl i-(nth pr r.frm.toNat-nth pr r.to.toNat)-nU fs sf i (nth fl i) fs.length
theorem R5{c:Cod}(hc:c.ok){ps:List Place}{rs:List Road}{fs:List Fan}{ds:List lN}{sf sd pr fl:List Int}(hr:Gw ps.length 1200 rs fl)(rl:rs.length≤1000)(hf:HD rs.length fs sf)(fll:fs.length≤2)(hd:zS rs.length ds sd)(dl:ds.length≤2)
 (pl:pr.length=ps.length) (pb:∀x∈pr, -4000≤x∧x≤4000) {R:List Road} (Rl:R.length=rs.length) (i:Nat) (hi:i<rs.length) (ei:nth R i=nth rs i):
 ∃(d:Cod) (r':Road),d.ok∧Fit fs ds sf sd pr fl i (nth rs i) r'∧
  om true [2,3,7,8,9,10,11,12] 8 (exS bL K.fR ⟨[.bp 0 0,.bp 1 0,.und,.und,.bp 6 0,.bp 7 0,I i,.und,.und,.und,.und,.und,.und],Gy c ps R fs ds sf sd pr fl⟩)=
   some ⟨[.bp 0 0,.bp 1 0,.und,.und,.bp 6 0,.bp 7 0,I (i+1:Nat),.und,.und,.und,.und,.und,.und],Gy d ps (R.set i r') fs ds sf sd pr fl⟩:=by
 have len:=hr.len
 have rd:=hr.ok _ (ak hi)
 obtain⟨⟨f0,f1,t0,t1,ne,l0,l1,a0,a1,r0,r1,r2,i0,i1,i2⟩,rh⟩:=rd
 have qb:=hr.bd _ (ak (l:=fl) (j:=i) (by omega))
 have pf:=pb _ (ak (l:=pr) (j:=(nth rs i).frm.toNat) (by omega))
 have pt:=pb _ (ak (l:=pr) (j:=(nth rs i).to.toNat) (by omega))
 have gr:((R.map Road.e).map D.t)[i]?=some (.t (nth rs i).e):=by rw[← ei];exact cE _ _ (by omega)
 have gq:(fl.map (T.int .i64))[i]?=some (tI (nth fl i)):=aQ _ (by omega)
 have gf:(pr.map (T.int .i64))[(nth rs i).frm.toNat]?=some (tI (nth pr (nth rs i).frm.toNat)):=aQ _ (by omega)
 have gt:(pr.map (T.int .i64))[(nth rs i).to.toNat]?=some (tI (nth pr (nth rs i).to.toNat)):=aQ _ (by omega)
 obtain⟨w,c1,e1,h1,b1, -⟩:=hU hc ((nth rs i).restH-(nth rs i).restL+1) (by omega)
 have b1:=b1 (by omega)
 obtain⟨lp2,s0,s1⟩:=aie (c:=c1) (ps:=ps) (rs:=R) (fs:=fs) (sf:=sf) (pr:=pr) (fl:=fl) (ds:=ds) (sd:=sd) (by rw[Rl];exact hd) dl i (nth fl i) ((nth rs i).restL+w) (by omega) (by omega) .und .und .und .und
 have m1:=AP (a:=(nth rs i).restL+w+fK ds sd i ds.length) (b:=max (nth fl i) (-(nth fl i))) (A:=2000) (B:=1200) (by omega) (by omega) (by omega) (by omega)
 have m2:=AP (a:=((nth rs i).restL+w+fK ds sd i ds.length)*max (nth fl i) (-(nth fl i))) (b:=nth fl i) (A:=2400000) (B:=1200) (by omega) (by omega) (by omega) (by omega)
 obtain⟨lp3,g0,g1⟩:=aif (c:=c1) (ps:=ps) (rs:=R) (ds:=ds) (sd:=sd) (pr:=pr) (fl:=fl) (by rw[Rl];exact hf) fll i (nth fl i) (((nth rs i).restL+w+fK ds sd i ds.length)*max (nth fl i) (-(nth fl i))*nth fl i-(nth pr (nth rs i).frm.toNat-nth pr (nth rs i).to.toNat)) (by omega) (by omega) (by omega) (by omega) .und .und (I ((nth rs i).restL+w+fK ds sd i ds.length)) (I ds.length)
 obtain⟨u,c2,e2,h2,b2, -⟩:=hU h1 30 (by omega)
 have b2:=b2 (by omega)
 obtain⟨v,c3,e3,h3,b3, -⟩:=hU h2 30 (by omega)
 have b3:=b3 (by omega)
 have nq:0-nth fl i= -(nth fl i):=by omega
 have il:(i:Int)<R.length:=by omega
 generalize hlift:((nth rs i).restL+w+fK ds sd i ds.length)*max (nth fl i) (-(nth fl i))*nth fl i-(nth pr (nth rs i).frm.toNat-nth pr (nth rs i).to.toNat)-nU fs sf i (nth fl i) fs.length=lift at*
 refine⟨c3,{ nth rs i with liftL:=lift-u,liftH:=lift+v},h3,⟨rfl,rfl,fun n hn=>?_,rfl,rfl,rfl,(nth rs i).restL+w,lift,by omega,by omega,by simp only;omega,by simp only;omega,hlift.symm⟩,?_⟩
 · obtain⟨⟨g1,g2,g3,g4,g5,g6,g7,g8,g9,g10,g11,g12,g13,g14,g15⟩,g16⟩:=hn
   exact⟨⟨g1,g2,g3,g4,g5,g6,g7,g8,g9,g10,g11,g12,by simp only;omega,by simp only;omega,by simp only;omega⟩,g16⟩
 · have nx:((i+1:Nat):Int)=(i:Int)+1:=by omega
   rw[nx]
   have hl2:=hlift
   generalize hM:((nth rs i).restL+w+fK ds sd i ds.length)*max (nth fl i) (-(nth fl i))=M at*
   generalize hN:M*nth fl i=N at*
   generalize fK ds sd i ds.length=S at*
   generalize nU fs sf i (nth fl i) fs.length=F at*
   generalize nth fl i=q at*
   generalize nth pr (nth rs i).frm.toNat=p1 at*
   generalize nth pr (nth rs i).to.toNat=p2 at*
   clear ei hlift
   generalize nth rs i=r at*
   obtain⟨x1,x2,x3,x4,x5,x6,x7,x8,x9,x10⟩:=r
   simp only[Gy,arP,arR,arF,arD,List.map_set,List.length_set]at*
   have wM:IntKind.i64.wrap M=M:=oo (by omega) (by omega)
   have wN:IntKind.i64.wrap N=N:=oo (by omega) (by omega)
   have ao:∀X,eW 8 8 (((R.map Road.e).map D.t).set i (.t X))=true:=fun X=>by rw[← List.map_set];simp only[go_sem]
   simp(disch:=omega)only[go_sem,K.fR,↓reduceIte,ao,gr,gq,gf,gt,e1,lp2,lp3,e2,e3,nq,il,hM,hN,wM,wN,hl2,reduceAdd,reduceSub]
theorem aih{c:Cod}(hc:c.ok){ps:List Place}{rs:List Road}{fs:List Fan}{ds:List lN}{sf sd pr fl:List Int}(hr:Gw ps.length 1200 rs fl)(rl:rs.length≤1000)(hf:HD rs.length fs sf)(fll:fs.length≤2)(hd:zS rs.length ds sd)(dl:ds.length≤2)
 (pl:pr.length=ps.length) (pb:∀x∈pr, -4000≤x∧x≤4000):
 ∃(d:Cod) (R:List Road),d.ok∧R.length=rs.length∧(∀i,i<rs.length→Fit fs ds sf sd pr fl i (nth rs i) (nth R i))∧
  bL 0 N.dB [.bp 0 0,.bp 1 0,.t (pX sf sd),.t (xE pr fl)] (Na c ps rs fs ds)=some (.tup [],Na d ps R fs ds):=by
 have key:=ig (vs:=[.bp 0 0,.bp 1 0,.t (pX sf sd),.t (xE pr fl),.bp 6 0,.bp 7 0,I 0,.und,.und,.und,.und,.und,.und]) (H:=Gy c ps rs fs ds sf sd pr fl) (c:=K.fR) (gc:=true) (dead:=[2,3,7,8,9,10,11,12])
  (fun j st=>∃(c:Cod) (R:List Road),st=⟨[.bp 0 0,.bp 1 0,.und,.und,.bp 6 0,.bp 7 0,I j,.und,.und,.und,.und,.und,.und],Gy c ps R fs ds sf sd pr fl⟩∧c.ok∧R.length=rs.length∧(∀i,i<j→Fit fs ds sf sd pr fl i (nth rs i) (nth R i))∧∀i,j≤i→nth R i=nth rs i) rs.length
  (fun q=>∃(c:Cod) (R:List Road),q=(.exit 0,⟨[.bp 0 0,.bp 1 0,.und,.und,.bp 6 0,.bp 7 0,I rs.length,.und,.und,.und,.und,.und,.und],Gy c ps R fs ds sf sd pr fl⟩)∧c.ok∧R.length=rs.length∧∀i,i<rs.length→Fit fs ds sf sd pr fl i (nth rs i) (nth R i))
  ⟨c,rs,by simp[jg],hc,rfl,fun i hi=>by omega,fun _ _=>rfl⟩ ?_ ?_
 · obtain⟨q,hq,c4,R,rfl,h4,h5,h6⟩:=key
   refine⟨c4,R,h4,h5,h6,aI K.qh rfl ?_⟩
   rw[show(C.loop true [2,3,7,8,9,10,11,12] K.fR)=K.sV from rfl]at hq
   simp only[Gy,Na,arP,arR,arF,arD,pX,xE]at hq ⊢
   simp(disch:=omega)only[go_sem,K.dB,↓reduceIte,hq,reduceAdd,reduceSub]
 · rintro j _ hj ⟨c,R,rfl,hc,h5,h6,h7⟩
   obtain⟨d,r',a1,a2,a3⟩:=R5 hc hr rl hf fll hd dl pl pb h5 j hj (h7 j (aLs _))
   refine⟨_,a3,d,_,rfl,a1,by simp[h5],fun i hi=>?_,fun i hi=>?_⟩
   · by_cases e:i=j
     · subst e;rw[bM _ _ (by omega),if_pos rfl];exact a2
     · rw[bM _ _ (by omega),if_neg e];exact h6 i (by omega)
   · rw[bM _ _ (by omega),if_neg (by omega)];exact h7 i (by omega)
 · rintro _ ⟨c,R,rfl,hc,h5,h6,h7⟩
   refine⟨_,?_,by simp,c,R,rfl,hc,h5,h6⟩
   simp only[Gy,arP,arR,arF,arD,h5]
   simp(disch:=omega)only[go_sem,K.fR,↓reduceIte,h5,reduceAdd,reduceSub]
def Nf(s0 s:Int):Prop:=s=s0∨s= -1
theorem Vr{c:Cod}(hc:c.ok)(A:T){a1 a2 a3 a4:T}(hA:A= .agg [a1,a2,a3,a4]){sf sd:List Int}(l1:sf.length≤1000)(l2:sd.length≤1000):
 ∃(d:Cod) (tf td:List Int),d.ok∧tf.length=sf.length∧td.length=sd.length∧(∀k,k<sf.length→Nf (nth sf k) (nth tf k))∧(∀k,k<sd.length→Nf (nth sd k) (nth td k))∧
  bL 0 N.cz [.bp 0 0,.t A,.t (pX sf sd)] [c.obj]=some (.t (pX tf td),[d.obj]):=by
 subst hA
 have key1:=ig (vs:=[.bp 0 0,.t (.agg [a1,a2,a3,a4]),.t (pX sf sd),.bp 2 0,.bp 3 0,.bp 4 0,I 0,.und,.und,.und]) (H:=[c.obj,.box [.t a1,.t a2,.t a3,.t a4],.box [.t (tL sf),.t (tL sd)],.box [.nil,.nil],.box [.ref 5 0 0,.ref 6 0 0],arI [],arI []]) (c:=K.dR) (gc:=true) (dead:=[1,2,7,8,9])
  (fun j st=>∃(c:Cod) (tf:List Int),st=⟨[.bp 0 0,.und,.und,.bp 2 0,.bp 3 0,.bp 4 0,I j,.und,.und,.und],[c.obj,.box [.t a1,.t a2,.t a3,.t a4],.box [.t (tL sf),.t (tL sd)],.box [.nil,.nil],.box [.ref 5 0 tf.length,.ref 6 0 0],arI tf,arI []]⟩∧c.ok∧tf.length=j∧∀k,k<j→Nf (nth sf k) (nth tf k)) sf.length
  (fun q=>∃(c:Cod) (tf:List Int),q=(.exit 0,⟨[.bp 0 0,.und,.und,.bp 2 0,.bp 3 0,.bp 4 0,I sf.length,.und,.und,.und],[c.obj,.box [.t a1,.t a2,.t a3,.t a4],.box [.t (tL sf),.t (tL sd)],.box [.nil,.nil],.box [.ref 5 0 tf.length,.ref 6 0 0],arI tf,arI []]⟩)∧c.ok∧tf.length=sf.length∧∀k,k<sf.length→Nf (nth sf k) (nth tf k))
  ⟨c,[],by simp[jg],hc,rfl,fun k hk=>by omega⟩ ?_ ?_
 · obtain⟨q,hq,c1,tf,rfl,h1,t1,m1⟩:=key1
   have key2:=ig (vs:=[.bp 0 0,.und,.und,.bp 2 0,.bp 3 0,.bp 4 0,I sf.length,.und,I 0,.und]) (H:=[c1.obj,.box [.t a1,.t a2,.t a3,.t a4],.box [.t (tL sf),.t (tL sd)],.box [.nil,.nil],.box [.ref 5 0 tf.length,.ref 6 0 0],arI tf,arI []]) (c:=K.dS) (gc:=true) (dead:=[1,2,6,7,9])
    (fun j st=>∃(c:Cod) (td:List Int),st=⟨[.bp 0 0,.und,.und,.bp 2 0,.bp 3 0,.bp 4 0,.und,.und,I j,.und],[c.obj,.box [.t a1,.t a2,.t a3,.t a4],.box [.t (tL sf),.t (tL sd)],.box [.nil,.nil],.box [.ref 5 0 tf.length,.ref 6 0 td.length],arI tf,arI td]⟩∧c.ok∧td.length=j∧∀k,k<j→Nf (nth sd k) (nth td k)) sd.length
    (fun q=>∃(c:Cod) (td:List Int),q=(.exit 2,⟨[.bp 0 0,.und,.und,.bp 2 0,.bp 3 0,.bp 4 0,.und,.und,I sd.length,.und],[c.obj,.box [.t a1,.t a2,.t a3,.t a4],.box [.t (tL sf),.t (tL sd)],.box [.nil,.nil],.box [.ref 5 0 tf.length,.ref 6 0 td.length],arI tf,arI td]⟩)∧c.ok∧td.length=sd.length∧∀k,k<sd.length→Nf (nth sd k) (nth td k))
    ⟨c1,[],by simp[jg],h1,rfl,fun k hk=>by omega⟩ ?_ ?_
   · obtain⟨q,hq2,c2,td,rfl,h2,t2,m2⟩:=key2
     refine⟨c2,tf,td,h2,t1,t2,m1,m2,aI K.nh rfl ?_⟩
     rw[show(C.loop true [1,2,7,8,9] K.dR)=K.qp from rfl]at hq
     rw[show(C.loop true [1,2,6,7,9] K.dS)=K.qq from rfl]at hq2
     simp only[pX,arI,List.map_nil]at hq hq2 ⊢
     simp(disch:=omega)only[go_sem,K.cz,↓reduceIte,hq,hq2,reduceAdd,reduceSub]
   · rintro j _ hj ⟨c,td,rfl,hc,t2,m2⟩
     obtain⟨b,c2,e2,h2⟩:=D8 hc 5 (by omega) (by omega)
     have g2:(sd.map (T.int .i64))[j]?=some (tI (nth sd j)):=aQ _ hj
     have jl:(j:Int)<sd.length:=by omega
     have nx:((j+1:Nat):Int)=(j:Int)+1:=by omega
     have ex:∀x,Nf (nth sd j) x→∀k,k<j+1→Nf (nth sd k) (nth (td++[x]) k):=fun x hx k hk=>by
      by_cases e:k=j
      · subst e;rw[jA t2.symm];exact hx
      · rw[mW (by omega)];exact m2 k (by omega)
     cases b with
     | true=>
       refine⟨_,?_,c2,td++[-1],rfl,h2,by simp[t2],ex _ (.inr rfl)⟩
       simp only[arI,List.map_append,List.map_cons,List.map_nil,aLv,List.length_singleton,nx]
       simp(disch:=omega)only[go_sem,K.dS,↓reduceIte,e2,g2,jl,reduceAdd,reduceSub]
     | false=>
       refine⟨_,?_,c2,td++[nth sd j],rfl,h2,by simp[t2],ex _ (.inl rfl)⟩
       simp only[arI,List.map_append,List.map_cons,List.map_nil,aLv,List.length_singleton,nx]
       simp(disch:=omega)only[go_sem,K.dS,↓reduceIte,e2,g2,jl,reduceAdd,reduceSub]
   · rintro _ ⟨c,td,rfl,hc,t2,m2⟩
     refine⟨_,?_,by simp,c,td,rfl,hc,t2,m2⟩
     simp(disch:=omega)only[go_sem,K.dS,↓reduceIte,reduceAdd,reduceSub]
 · rintro j _ hj ⟨c,tf,rfl,hc,t2,m2⟩
   obtain⟨b,c2,e2,h2⟩:=D8 hc 5 (by omega) (by omega)
   have g2:(sf.map (T.int .i64))[j]?=some (tI (nth sf j)):=aQ _ hj
   have jl:(j:Int)<sf.length:=by omega
   have nx:((j+1:Nat):Int)=(j:Int)+1:=by omega
   have ex:∀x,Nf (nth sf j) x→∀k,k<j+1→Nf (nth sf k) (nth (tf++[x]) k):=fun x hx k hk=>by
    by_cases e:k=j
    · subst e;rw[jA t2.symm];exact hx
    · rw[mW (by omega)];exact m2 k (by omega)
   cases b with
   | true=>
     refine⟨_,?_,c2,tf++[-1],rfl,h2,by simp[t2],ex _ (.inr rfl)⟩
     simp only[arI,List.map_append,List.map_cons,List.map_nil,aLv,List.length_singleton,nx]
     simp(disch:=omega)only[go_sem,K.dR,↓reduceIte,e2,g2,jl,reduceAdd,reduceSub]
   | false=>
     refine⟨_,?_,c2,tf++[nth sf j],rfl,h2,by simp[t2],ex _ (.inl rfl)⟩
     simp only[arI,List.map_append,List.map_cons,List.map_nil,aLv,List.length_singleton,nx]
     simp(disch:=omega)only[go_sem,K.dR,↓reduceIte,e2,g2,jl,reduceAdd,reduceSub]
 · rintro _ ⟨c,tf,rfl,hc,t2,m2⟩
   refine⟨_,?_,by simp,c,tf,rfl,hc,t2,m2⟩
   simp(disch:=omega)only[go_sem,K.dR,↓reduceIte,reduceAdd,reduceSub]
structure Air where
 m:cC
 fans:List Fan
 doors:List lN
abbrev Air.e(a:Air):T:= .agg [.sl (a.m.aa.map Place.e),.sl (a.m.roads.map Road.e),.sl (a.fans.map Fan.e),.sl (a.doors.map lN.e)]
structure AQ(sh:Nat)(A:Air)(tf td pr fl:List Int):Prop where
 ok:A.m.ok
 n0:1≤sh
 n1:A.m.aa.length≤6
 nr:A.m.roads.length≤10
 pl:PC sh A.m.aa
 prl:pr.length=A.m.aa.length
 pr0:∀i,i<sh→nth pr i=0
 fll:fl.length=A.m.roads.length
 flb:∀x∈fl, -1200≤x∧x≤1200
 cl:∀k,k<A.m.roads.length→(nth A.m.roads k).closed=true→nth fl k=0
 bal:∀i:Nat,sh≤i→i<A.m.aa.length→Cj A.m.roads fl i=0∧Vn sh A.m.roads i
 fn:A.fans.length≤2
 dn:A.doors.length≤2
 fit:∃(sf sd:List Int) (rs:List Road),HD A.m.roads.length A.fans sf∧zS A.m.roads.length A.doors sd∧tf.length=sf.length∧td.length=sd.length∧
  (∀k,k<sf.length→Nf (nth sf k) (nth tf k))∧(∀k,k<sd.length→Nf (nth sd k) (nth td k))∧
  ∀i,i<A.m.roads.length→(nth rs i).dr A.m.aa.length∧Fit A.fans A.doors sf sd pr fl i (nth rs i) (nth A.m.roads i)
theorem JC{c:Cod}(hc:c.ok){sh:Nat}(s1:1≤sh){ps:List Place}(hp:PC sh ps)(np:ps.length≤6){pr fl nt:List Int}(prl:pr.length=ps.length)(pr0:∀i,i<sh→nth pr i=0)(pb:∀x∈pr, -4000≤x∧x≤4000)
 {rs:List Road} (hr:Gw ps.length 1200 rs fl) (rl:rs.length≤10) (bal:∀i:Nat,sh≤i→i<ps.length→Cj rs fl i=0∧Vn sh rs i):
 ∃(c1 c2 c3:Cod) (fs:List Fan) (ds:List lN) (sf sd tf td:List Int) (R:List Road),c3.ok∧AQ sh ⟨⟨ps,R⟩,fs,ds⟩ tf td pr fl∧R.length=rs.length∧
  bL 0 N.bH [.bp 0 0,.bp 1 0] (Na c ps rs [] [])=some (.t (pX sf sd),Na c1 ps rs fs ds)∧
  bL 0 N.dB [.bp 0 0,.bp 1 0,.t (pX sf sd),.t (xE pr fl)] (Na c1 ps rs fs ds)=some (.tup [],Na c2 ps R fs ds)∧
  bL 0 N.cz [.bp 0 0,.t (Air.e ⟨⟨ps,R⟩,fs,ds⟩),.t (pX sf sd)] [c2.obj]=some (.t (pX tf td),[c3.obj]):=by
 obtain⟨c1,fs,ds,sf,sd,h1,g1,f2,g2,d2,e1⟩:=OB hc (ps:=ps) (rs:=rs) (by omega)
 obtain⟨c2,R,h2,Rl,g3,e2⟩:=aih h1 hr (by omega) g1 f2 g2 d2 prl pb
 have sl1:=g1.len
 have sl2:=g2.len
 obtain⟨c3,tf,td,h3,t1,t2,m1,m2,e3⟩:=Vr h2 (Air.e ⟨⟨ps,R⟩,fs,ds⟩) rfl (sf:=sf) (sd:=sd) (by omega) (by omega)
 have len:=hr.len
 refine⟨c1,c2,c3,fs,ds,sf,sd,tf,td,R,h3,⟨⟨by simp only;omega,by simp only;omega,hp.hs,?_⟩,s1,np,by simp only;omega,hp,prl,pr0,by simp only;omega,hr.bd,?_,?_,f2,d2,sf,sd,rs,by rw[Rl];exact g1,by rw[Rl];exact g2,t1,t2,m1,m2,?_⟩,Rl,e1,e2,e3⟩
 · intro r hr'
   obtain⟨k,hk,rfl⟩:=List.getElem_of_mem hr'
   have e:R[k]=nth R k:=(qo (aLc hk)).symm
   have hk:k<R.length:=hk
   rw[e]
   exact((g3 k (by omega)).ok _ (hr.ok _ (ak (by omega)))).1
 · intro k hk hcl
   have hk:k<R.length:=hk
   rw[Rl]at hk
   simp only at hcl
   rw[(g3 k hk).cl]at hcl
   exact hr.cl k hk hcl
 · intro i i1 i2
   obtain⟨b1,k,hk,b2⟩:=bal i i1 i2
   constructor
   · rw[← b1]
     unfold Cj
     rw[Rl]
     exact o8 _ fun j hj=>by rw[(g3 j hj).frm,(g3 j hj).to]
   · refine⟨k,by simp only;omega,?_⟩
     simp only
     rw[(g3 k hk).cl,(g3 k hk).frm,(g3 k hk).to]
     exact b2
 · intro i hi
   simp only at hi
   rw[Rl]at hi
   exact⟨hr.ok _ (ak hi),g3 i hi⟩
theorem PC.one(b:Bool):PC (if b then 2 else 1) (if b then [⟨0,true⟩,⟨10,true⟩]else [⟨0,true⟩]):=by
 cases b with
 | true=>
   refine⟨by simp,fun i hi=>?_,fun i h1 h2=>?_,fun p hp=>?_⟩
   · have:i=0∨i=1:=by simp at hi;omega
     rcases this with rfl | rfl<;>rfl
   · simp at h1 h2;omega
   · simp at hp;rcases hp with rfl | rfl<;>simp
 | false=>
   refine⟨by simp,fun i hi=>?_,fun i h1 h2=>?_,fun p hp=>?_⟩
   · have:i=0:=by simp at hi;omega
     subst this;rfl
   · simp at h1 h2;omega
   · simp at hp;subst hp;simp
theorem Gw.wide{n:Nat}{rs:List Road}{fl:List Int}(h:Gw n 60 rs fl):Gw n 1200 rs fl:=⟨h.len,h.ok,h.cl,fun x hx=>by have:=h.bd x hx;omega⟩
theorem aii{c:Cod}(hc:c.ok):
 ∃(sh:Nat) (d:Cod) (A:Air) (tf td pr fl:List Int),d.ok∧AQ sh A tf td pr fl∧bL 0 N.cM [.bp 0 0] [c.obj]=some (.tup [.t A.e,.t (pX tf td),.t (xE pr fl)],[d.obj]):=by
 obtain⟨b,c1,e1,h1⟩:=D8 hc 3 (by omega) (by omega)
 obtain⟨n,c2,e2,h2,b2, -⟩:=hU h1 5 (by omega)
 have b2:=b2 (by omega)
 obtain⟨n,rfl⟩:=Int.eq_ofNat_of_zero_le b2.1
 have hp:=PC.one b
 generalize hps:(if b then [⟨0,true⟩,⟨10,true⟩]else [⟨0,true⟩]:List Place)=ps0 at*
 generalize hsh:(if b then 2 else 1:Nat)=sh at*
 have s1:1≤sh∧sh≤2∧ps0.length=sh:=by subst hps hsh;cases b<;>simp
 obtain⟨s1,s2,s3⟩:=s1
 obtain⟨c3,ps,h3,p3,l3,q3⟩:=Vk h2 s1 s2 hp s3 n (by omega)
 have np:ps.length≤6:=by omega
 obtain⟨c4,pr,h4,l4,z4,b4,q4⟩:=Vl h3 (sh:=sh) np n (by omega)
 by_cases c1':(ps.length:Int)>1
 · obtain⟨k,c5,e5,h5,b5, -⟩:=hU h4 6 (by omega)
   have b5:=b5 (by omega)
   obtain⟨k,rfl⟩:=Int.eq_ofNat_of_zero_le b5.1
   obtain⟨c6,rs,fl,nt,h6,r6,k6,n6,m6,q6⟩:=Vm h5 (sh:=sh) np (by omega) l4 k (by omega)
   obtain⟨c7,rs',fl',h7,r7,k7,m7,q7⟩:=M9 h6 s1 np l4 r6 k6 n6 m6 n (by omega) .und (I 0)
   obtain⟨x1,x2,c8,fs,ds,sf,sd,tf,td,R,h8,ma,Rl,u1,u2,u3⟩:=JC h7 (nt:=nt) s1 p3 np l4 z4 b4 r7 k7 m7
   refine⟨sh,c8,⟨⟨ps,R⟩,fs,ds⟩,tf,td,pr,fl',h8,ma,aI K.lW rfl ?_⟩
   have pz:(ps.length:Int).toNat=ps.length:=by omega
   have i1:((1:Nat):Int)=1:=rfl
   have i2:((2:Nat):Int)=2:=rfl
   cases b with
   | true=>
     subst hps hsh
     simp only[Na,arF,arD,pX,xE,Air.e,M7,RU,Ea,PD,PE,arP,arR,arI,if_true,aLt,if_false,List.map_cons,List.map_nil,List.length_cons,List.length_nil,List.cons_append,List.nil_append,List.length_replicate,List.map_replicate,reduceAdd,pz,l4,q9,i1,i2]at q3 q4 q6 q7 u1 u2 u3 ⊢
     simp(disch:=omega)only[go_sem,K.cM,↓reduceIte,e1,e2,q3,q4,c1',e5,q6,q7,u1,u2,u3,Rl,l4,reduceAdd,reduceSub]
   | false=>
     subst hps hsh
     simp only[Na,arF,arD,pX,xE,Air.e,M7,RU,Ea,PD,PE,arP,arR,arI,if_true,aLt,if_false,List.map_cons,List.map_nil,List.length_cons,List.length_nil,List.cons_append,List.nil_append,List.length_replicate,List.map_replicate,reduceAdd,pz,l4,q9,i1,i2]at q3 q4 q6 q7 u1 u2 u3 ⊢
     simp(disch:=omega)only[go_sem,K.cM,↓reduceIte,e1,e2,q3,q4,c1',e5,q6,q7,u1,u2,u3,Rl,l4,reduceAdd,reduceSub]
 · obtain⟨c7,rs',fl',h7,r7,k7,m7,q7⟩:=M9 h4 s1 np l4 (rs:=[]) (fl:=[]) (nt:=q9 ps.length) ⟨rfl,by simp,by simp,by simp⟩ (by simp) (by simp) (fun i hi=>by simp[nth,hi,Cj,eL]) n (by omega) (I ps.length) .und
   obtain⟨x1,x2,c8,fs,ds,sf,sd,tf,td,R,h8,ma,Rl,u1,u2,u3⟩:=JC h7 (nt:=q9 ps.length) s1 p3 np l4 z4 b4 r7 k7 m7
   refine⟨sh,c8,⟨⟨ps,R⟩,fs,ds⟩,tf,td,pr,fl',h8,ma,aI K.lW rfl ?_⟩
   have pz:(ps.length:Int).toNat=ps.length:=by omega
   have i1:((1:Nat):Int)=1:=rfl
   have i2:((2:Nat):Int)=2:=rfl
   cases b with
   | true=>
     subst hps hsh
     simp at s3 l3 c1'
     omega
   | false=>
     subst hps hsh
     simp only[Na,arF,arD,pX,xE,Air.e,M7,RU,Ea,PD,PE,arP,arR,arI,if_true,aLt,if_false,List.map_cons,List.map_nil,List.length_cons,List.length_nil,List.cons_append,List.nil_append,List.length_replicate,List.map_replicate,reduceAdd,pz,l4,q9,i1,i2]at q3 q4 q7 u1 u2 u3 ⊢
     simp(disch:=omega)only[go_sem,K.cM,↓reduceIte,e1,e2,q3,q4,c1',q7,u1,u2,u3,Rl,l4,reduceAdd,reduceSub]
theorem aij(a b:Nat)(ha:a<4294967296)(hb:b<4294967296):bL 0 N.ct [.t (.int .u64 a),.t (.int .u64 b)] []=some (.tup [.t (.int .u64 0),.t (.int .u64 ((a*b:Nat):Int))],[]):=by
 refine aI K.lU rfl ?_
 have m:(a:Int)*(b:Int)=((a*b:Nat):Int):=(Int.natCast_mul a b).symm
 have hP:a*b≤4294967295*4294967295:=Nat.mul_le_mul (by omega) (by omega)
 have z:=Z5 (n:=0) (by omega)
 have z2:=UK (n:=0) (by omega)
 have z3:=MK (n:=0) (by omega)
 have g3:=fun(n:Nat) (h:n<4294967296)=>MK (n:=n) h
 have g4:=fun(n:Nat) (h:n<4294967296)=>UK (n:=n) h
 have s:((a*b:Nat):Int).fdiv (2 ^ min (32:Int).toNat IntKind.u64.bits)=((a*b / 4294967296:Nat):Int):=by
  have e:(2 ^ min (32:Int).toNat IntKind.u64.bits:Int)=4294967296:=by decide
  rw[e,Int.fdiv_eq_ediv_of_nonneg _ (by omega)]
  rfl
 have ht:a*b / 4294967296<4294967296:=by omega
 simp only[Int.ofNat_zero,Int.natCast_zero]at z z2 z3
 simp only[go_sem]at z2 z3 g3 g4 s
 generalize a*b=P at*
 generalize P / 4294967296=t at*
 simp(disch:=omega)only[go_sem,K.ct,↓reduceIte,g3,g4,m,s,z2,z3,Jj,Int.zero_mul,Int.mul_zero,Int.add_zero,Int.zero_add,reduceAdd,reduceSub]
theorem Vs(a b:Nat)(ha:a<18446744073709551616)(hb:0<b):bL 0 N.dD [.t (.int .u64 0),.t (.int .u64 a),.t (.int .u64 b)] []=some (.tup [.t (.int .u64 ((a / b:Nat):Int)),.t (.int .u64 ((a % b:Nat):Int))],[]):=by
 refine aI K.pw rfl ?_
 have q:(a:Int).tdiv b=((a / b:Nat):Int):=Int.ofNat_tdiv a b |>.symm
 have r:(a:Int).tmod b=((a % b:Nat):Int):=Int.ofNat_tmod a b |>.symm
 have l:a / b≤a:=Nat.div_le_self a b
 have b0:¬(b:Int)=0:=by omega
 have b1:¬(b:Int)≤0:=by omega
 generalize a / b=d at*
 generalize a % b=e at*
 simp(disch:=omega)only[go_sem,K.dD,↓reduceIte,q,r,b0,b1,Jj,reduceAdd,reduceSub]
theorem OF{a b:Spn}{q:Int}(h1:a.low<b.low)(h2:b.high≤a.high)(h3:a.low≤q)(h4:q≤b.low)(p0:0≤b.high)(p1:a.high≤1000000)(f0: -1048576≤a.low)(f1:b.low≤1048576):
 bL 0 N.gZ [.t a.e,.t b.e,I q] []=some (.t (Cf a b q).e,[]):=by
 refine aI K.ui rfl ?_
 have bd:=Ho h1 h2 h3 h4
 unfold Cf AE at*
 obtain⟨P,hP⟩:∃P:Nat,a.high-b.high=P:=⟨(a.high-b.high).toNat,by omega⟩
 obtain⟨Q,hQ⟩:∃Q:Nat,q-a.low=Q:=⟨(q-a.low).toNat,by omega⟩
 obtain⟨W,hW⟩:∃W:Nat,b.low-a.low=W:=⟨(b.low-a.low).toNat,by omega⟩
 have m:=aij P Q (by omega) (by omega)
 have pl0:P*Q≤1000000*2097152:=Nat.mul_le_mul (by omega) (by omega)
 have d:=Vs (P*Q) W (by omega) (by omega)
 have e1:(P:Int)*Q / W=((P*Q / W:Nat):Int):=by rw[← Int.natCast_mul];rfl
 have e2:(P:Int)*Q % W=((P*Q % W:Nat):Int):=by rw[← Int.natCast_mul];rfl
 have dl:P*Q / W≤P*Q:=Nat.div_le_self _ _
 have pl:P*Q≤1000000*2097152:=Nat.mul_le_mul (by omega) (by omega)
 rw[hP,hQ,hW,e1,e2]at bd ⊢
 generalize P*Q / W=D at*
 generalize P*Q % W=R at*
 generalize P*Q=M at*
 obtain⟨a1,a2⟩:=a
 obtain⟨b1,b2⟩:=b
 simp only at*
 by_cases c:(R:Int)>0
 · rw[if_pos c]at bd ⊢
   simp(disch:=omega)only[go_sem,K.gZ,↓reduceIte,hP,hQ,hW,m,d,c,Jj,Int.sub_sub,reduceAdd,reduceSub]
 · rw[if_neg c]at bd ⊢
   simp(disch:=omega)only[go_sem,K.gZ,↓reduceIte,hP,hQ,hW,m,d,c,Jj,Int.add_zero,reduceAdd,reduceSub]
theorem JD:∀(r:List Spn) (a:Spn) (q:Int),xd a r→(nth (a::r) r.length).low<q→DE a r q=⟨(nth (a::r) r.length).high,(nth (a::r) r.length).high⟩
 | [],a,q,_,_=>rfl
 | b::r,a,q,h,hq=>by
   have mono:∀(r:List Spn) (b:Spn),xd b r→b.low≤(nth (b::r) r.length).low:=by
    intro r
    induction r with
    | nil=>intro b _;exact Int.le_refl _
    | cons x r ih=>
      intro b h
      have:=ih x h.2.2.2
      have:=h.1
      have e:(nth (b::x::r) (x::r).length)=nth (x::r) r.length:=rfl
      rw[e];omega
   have e:(nth (a::b::r) (b::r).length)=nth (b::r) r.length:=rfl
   rw[e]at hq ⊢
   have:=mono r b h.2.2.2
   unfold DE
   rw[if_neg (by omega)]
   exact JD r b q h.2.2.2 hq
theorem R6:∀(k:Nat) (r:List Spn) (a:Spn) (q:Int),xd a r→k<r.length→(nth (a::r) k).low<q→q≤(nth (a::r) (k+1)).low→DE a r q=Cf (nth (a::r) k) (nth (a::r) (k+1)) q
 | 0,[],_,_,_,hk,_,_=>by simp at hk
 | 0,b::r,a,q,h,hk,h1,h2=>by
   have e:nth (a::b::r) 1=b:=rfl
   have e0:nth (a::b::r) 0=a:=rfl
   rw[e]at h2 ⊢
   rw[e0]
   unfold DE
   rw[if_pos h2]
 | k+1,[],_,_,_,hk,_,_=>by simp at hk
 | k+1,b::r,a,q,h,hk,h1,h2=>by
   have e:∀j,nth (a::b::r) (j+1)=nth (b::r) j:=fun _=>rfl
   rw[e]at h1 h2 ⊢
   rw[e]
   have mono:∀(k:Nat) (r:List Spn) (b:Spn),xd b r→k≤r.length→b.low≤(nth (b::r) k).low:=by
    intro k
    induction k with
    | zero=>intro r b _ _;exact Int.le_refl _
    | succ k ih=>
      intro r b h hk
      cases r with
      | nil=>simp at hk
      | cons x r=>
        have:=ih r x h.2.2.2 (by simpa using hk)
        have:=h.1
        have e:nth (b::x::r) (k+1)=nth (x::r) k:=rfl
        rw[e];omega
   have hk:k<r.length:=by simpa using hk
   have:=mono k r b h.2.2.2 (by omega)
   rw[DE,if_neg (by omega)]
   exact R6 k r b q h.2.2.2 hk h1 h2
theorem Lq{l:List Spn}(h:o7 l){q:Int}(h0:¬q≤(nth l 0).low)(h1:(nth l (l.length-1)).low<q):fQ l q=⟨(nth l (l.length-1)).high,(nth l (l.length-1)).high⟩:=by
 cases l with
 | nil=>exact h.elim
 | cons a r=>
   have e0:nth (a::r) 0=a:=rfl
   rw[e0]at h0
   unfold fQ
   simp only
   rw[if_neg h0]
   exact JD r a q h.2 h1
theorem R7{l:List Spn}(h:o7 l){q:Int}(h0:¬q≤(nth l 0).low){k:Nat}(hk:k+1<l.length)(h1:(nth l k).low<q)(h2:q≤(nth l (k+1)).low):fQ l q=Cf (nth l k) (nth l (k+1)) q:=by
 cases l with
 | nil=>exact h.elim
 | cons a r=>
   have e0:nth (a::r) 0=a:=rfl
   rw[e0]at h0
   unfold fQ
   simp only
   rw[if_neg h0]
   exact R6 k r a q h.2 (by simpa using hk) h1 h2
theorem OH{n:Nat}{f:Fan}(h:f.ok n){q:Int}(q0: -10000000≤q)(q1:q≤10000000)(c0:¬q≤(nth f.cur 0).low)(y1 y2 z1 z2:Int):
 ∀z0 z4:D,∃p,exS bL K.B2 ⟨[z0,I q,.bp 0 0,.bp 1 0,z4,.bp 3 0,I 1],[.box (Eb f),.box [I 0,I 0],.box [I y1,I y2],.box [I z1,I z2]]⟩=some p∧
  (p=(.exit 0,⟨[.und,I q,.bp 0 0,.bp 1 0,.und,.bp 3 0,I f.cur.length],[.box (Eb f),.box [I 0,I 0],.box [I y1,I y2],.box [I z1,I z2]]⟩)∧fQ f.cur q=⟨(nth f.cur (f.cur.length-1)).high,(nth f.cur (f.cur.length-1)).high⟩∨
   ∃k:Nat,p=(.ret,⟨[.und,I q,.bp 0 0,.bp 1 0,.und,.bp 3 0,I k],[.box (Eb f),.box [I (fQ f.cur q).low,I (fQ f.cur q).high],.box [I y1,I y2],.box [I z1,I z2]]⟩)):=by
 intro z0 z4
 have hf:=h
 obtain⟨r0,r1,ln,cu,fl,pr⟩:=h
 have l1:1≤f.cur.length:=by
  cases hc:f.cur with
  | nil=>rw[hc]at cu;exact cu.elim
  | cons a r=>simp
 refine sq (fun m st=>∃k:Nat,st=⟨[.und,I q,.bp 0 0,.bp 1 0,.und,.bp 3 0,I (k+1:Nat)],[.box (Eb f),.box [I 0,I 0],.box [I y1,I y2],.box [I z1,I z2]]⟩∧k<f.cur.length∧(nth f.cur k).low<q∧m=f.cur.length-k) f.cur.length _
  ⟨0,rfl,by omega,by omega,by omega⟩ ?_
 rintro m _ ⟨k,rfl,k1,k2,rfl⟩
 have t1:((k:Int)+1).toNat=k+1:=by omega
 by_cases c1:k+1<f.cur.length
 · have gb:(f.cur.map Spn.e)[k+1]?=some (nth f.cur (k+1)).e:=aQ _ (by omega)
   have ga:(f.cur.map Spn.e)[k]?=some (nth f.cur k).e:=aQ _ (by omega)
   have c1':(k:Int)+1<f.cur.length:=by omega
   have nk:((k+1:Nat):Int)=(k:Int)+1:=by omega
   have kk:(k:Int)+1-1=k:=by omega
   by_cases c:q≤(nth f.cur (k+1)).low
   · refine .inr ⟨_,?_,by simp,.inr ⟨k+1,rfl⟩⟩
     rw[R7 cu c0 c1 k2 c]
     have ba:=pr _ (ak (l:=f.cur) (j:=k) (by omega))
     have bb:=pr _ (ak (l:=f.cur) (j:=k+1) (by omega))
     have fa:=fl _ (ak (l:=f.cur) (j:=k) (by omega))
     have fb:=fl _ (ak (l:=f.cur) (j:=k+1) (by omega))
     have so:=Ec cu c1
     have bt:=OF (a:=nth f.cur k) (b:=nth f.cur (k+1)) (q:=q) so.1 so.2 (by omega) c (by omega) (by omega) (by omega) (by omega)
     generalize Cf (nth f.cur k) (nth f.cur (k+1)) q=w at*
     generalize nth f.cur (k+1)=v at*
     generalize nth f.cur k=u at*
     obtain⟨f1,f2,f3,f4⟩:=f
     obtain⟨v1,v2⟩:=v
     obtain⟨u1,u2⟩:=u
     obtain⟨w1,w2⟩:=w
     simp only[Eb,nk]at*
     simp(disch:=omega)only[go_sem,K.qD,↓reduceIte,gb,ga,t1,c,c1',kk,bt,reduceAdd,reduceSub]
   · refine .inl ⟨⟨[.und,I q,.bp 0 0,.bp 1 0,.und,.bp 3 0,I (k+1+1:Nat)],[.box (Eb f),.box [I 0,I 0],.box [I y1,I y2],.box [I z1,I z2]]⟩,f.cur.length-(k+1),by omega,?_,k+1,rfl,c1,by omega,rfl⟩
     generalize nth f.cur (k+1)=v at*
     obtain⟨f1,f2,f3,f4⟩:=f
     obtain⟨v1,v2⟩:=v
     have nk2:((k+1+1:Nat):Int)=(k:Int)+1+1:=by omega
     simp only[Eb,nk,nk2]at*
     simp(disch:=omega)only[go_sem,K.qD,↓reduceIte,gb,t1,c,c1',reduceAdd,reduceSub]
 · refine .inr ⟨_,?_,by simp,.inl ⟨rfl,?_⟩⟩
   · have e:(k:Int)+1=f.cur.length:=by omega
     have nk:((k+1:Nat):Int)=f.cur.length:=by omega
     obtain⟨f1,f2,f3,f4⟩:=f
     simp only[Eb,nk]at*
     simp(disch:=omega)only[go_sem,K.qD,↓reduceIte,reduceAdd,reduceSub]
   · have e:f.cur.length-1=k:=by omega
     rw[Lq cu c0 (by rw[e];exact k2)]
theorem Ng{n:Nat}{f:Fan}(h:f.ok n){q:Int}(q0: -10000000≤q)(q1:q≤10000000):bL 0 N.jG [.t f.e,I q] []=some (.t (fQ f.cur q).e,[]):=by
 refine aI K.yx rfl ?_
 have hf:=h
 obtain⟨r0,r1,ln,cu,fl,pr⟩:=h
 have l1:1≤f.cur.length:=by
  cases hc:f.cur with
  | nil=>rw[hc]at cu;exact cu.elim
  | cons a r=>simp
 have g0:(f.cur.map Spn.e)[0]?=some (nth f.cur 0).e:=aQ _ (by omega)
 have gl:(f.cur.map Spn.e)[f.cur.length-1]?=some (nth f.cur (f.cur.length-1)).e:=aQ _ (by omega)
 have tn:((f.cur.length:Int)-1).toNat=f.cur.length-1:=by omega
 by_cases c0:q≤(nth f.cur 0).low
 · have e:fQ f.cur q=⟨(nth f.cur 0).high,(nth f.cur 0).high⟩:=by
    cases hc:f.cur with
    | nil=>rw[hc]at cu;exact cu.elim
    | cons a r=>
      have e0:nth (a::r) 0=a:=rfl
      rw[hc,e0]at c0
      rw[e0];unfold fQ;simp only;rw[if_pos c0]
   rw[e]
   clear e hf
   generalize nth f.cur (f.cur.length-1)=y at*
   generalize nth f.cur 0=x at*
   obtain⟨f1,f2,f3,f4⟩:=f
   obtain⟨x1,x2⟩:=x
   obtain⟨y1,y2⟩:=y
   simp only at*
   simp(disch:=omega)only[go_sem,K.jG,↓reduceIte,g0,c0,gl,tn,reduceAdd,reduceSub]
 · have lp:=OH hf q0 q1 c0 (nth f.cur 0).low (nth f.cur 0).high (nth f.cur (f.cur.length-1)).low (nth f.cur (f.cur.length-1)).high (.t f.e) (.bp 2 0)
   obtain⟨p,lp,hp⟩:=lp
   rcases hp with⟨rfl,e⟩ | ⟨k,rfl⟩
   · rw[e]
     clear e hf
     generalize nth f.cur (f.cur.length-1)=y at*
     generalize nth f.cur 0=x at*
     obtain⟨f1,f2,f3,f4⟩:=f
     obtain⟨x1,x2⟩:=x
     obtain⟨y1,y2⟩:=y
     simp only[Eb]at*
     simp(disch:=omega)only[go_sem,K.jG,↓reduceIte,g0,c0,gl,tn,lp,reduceAdd,reduceSub]
   · clear hf
     generalize nth f.cur (f.cur.length-1)=y at*
     generalize nth f.cur 0=x at*
     generalize fQ f.cur q=w at*
     obtain⟨f1,f2,f3,f4⟩:=f
     obtain⟨x1,x2⟩:=x
     obtain⟨y1,y2⟩:=y
     obtain⟨w1,w2⟩:=w
     simp only[Eb]at*
     simp(disch:=omega)only[go_sem,K.jG,↓reduceIte,g0,c0,gl,tn,lp,reduceAdd,reduceSub]
theorem zT{n:Nat}{f:Fan}(h:f.ok n)(b:Bool){q:Int}(q0: -10000000≤q)(q1:q≤10000000):bL 0 N.jc [.t f.e,B b,I q] []=some (.t (jP f b q).e,[]):=by
 refine aI K.yw rfl ?_
 have i1:=Ng h q0 q1
 have i2:=Ng h (q:= -q) (by omega) (by omega)
 have nq:0-q= -q:=by omega
 have b2:=rG h b q
 unfold jP ahf at b2 ⊢
 generalize fQ f.cur q=x at*
 generalize fQ f.cur (-q)=y at*
 obtain⟨f1,f2,f3,f4⟩:=f
 obtain⟨x1,x2⟩:=x
 obtain⟨y1,y2⟩:=y
 have n1:0-y1= -y1:=by omega
 have n2:0-y2= -y2:=by omega
 cases b with
 | true=>
   simp only[if_true]at b2 ⊢
   simp(disch:=omega)only[go_sem,K.jc,↓reduceIte,i1,i2,nq,n1,n2,reduceAdd,reduceSub]
 | false=>
   simp only[aLt,if_false]at b2 ⊢
   simp(disch:=omega)only[go_sem,K.jc,↓reduceIte,i1,i2,reduceAdd,reduceSub]
theorem Vt{n:Nat}{f:Fan}(h:f.ok n){st:Int}(h0: -1≤st)(h2:st≤2){q:Int}(q0: -10000000≤q)(q1:q≤10000000):bL 0 N.lV [.t f.e,I st,I q] []=some (.t (mz f st q).e,[]):=by
 refine aI K.AO rfl ?_
 have i1:=zT h f.back q0 q1
 have i2:=zT h (!f.back) q0 q1
 have i3:=zT h false q0 q1
 have i4:=zT h true q0 q1
 unfold mz
 generalize jP f f.back q=x at*
 generalize jP f (!f.back) q=y at*
 generalize jP f false q=u at*
 generalize jP f true q=v at*
 obtain⟨f1,f2,f3,f4⟩:=f
 obtain⟨x1,x2⟩:=x
 obtain⟨y1,y2⟩:=y
 obtain⟨u1,u2⟩:=u
 obtain⟨v1,v2⟩:=v
 simp only at*
 rcases (show st= -1∨st=0∨st=1∨st=2 by omega)with rfl | rfl | rfl | rfl
 · rw[if_neg (by omega),if_neg (by omega),if_pos rfl]
   simp(disch:=omega)only[go_sem,K.lV,↓reduceIte,i3,i4,reduceAdd,reduceSub]
 · rw[if_neg (by omega),if_neg (by omega),if_neg (by omega)]
   simp(disch:=omega)only[go_sem,K.lV,↓reduceIte,i1,i2,reduceAdd,reduceSub]
 · rw[if_pos rfl]
   simp(disch:=omega)only[go_sem,K.lV,↓reduceIte,i1,i2,reduceAdd,reduceSub]
 · rw[if_neg (by omega),if_pos rfl]
   simp(disch:=omega)only[go_sem,K.lV,↓reduceIte,i1,i2,reduceAdd,reduceSub]
theorem aik(q:Int):0≤q*q:=by
 rcases Int.le_total 0 q with c | c
 · exact Int.mul_nonneg c c
 · have:=Int.mul_nonneg (a:= -q) (b:= -q) (by omega) (by omega)
   rwa [Int.neg_mul_neg]at this
abbrev rr(p:kP):List D:=[I p.cL.frm,I p.cL.to,I p.cL.len,I p.cL.area,B p.cL.walk,B p.cL.closed,I p.cL.restL,I p.cL.restH,I p.cL.liftL,I p.cL.liftH,I p.num,.t (.sl (p.fans.map wW.e))]
theorem R8{n r:Nat}{p:kP}(h:p.ok n r){q:Int}(q0: -1048577≤q)(q1:q≤1048577):bL 0 N.bW [.t p.e,I q] []=some (.t (qz p q).e,[]):=by
 refine aI K.nv rfl ?_
 have s0:=aik q
 have s1:=(AP (a:=q) (b:=q) (A:=1048577) (B:=1048577) q0 q1 q0 q1).2
 have r0:=h.r0;have r1:=h.r1;have r2:=h.r2
 have i0:=h.i0;have i1:=h.i1;have i2:=h.i2
 have fl:=h.fl
 have b1:=AP (a:=p.cL.restL) (b:=q*q) (A:=2097152) (B:=1099513724929) (by omega) (by omega) (by omega) (by omega)
 have b2:=AP (a:=p.cL.restH) (b:=q*q) (A:=2097152) (B:=1099513724929) (by omega) (by omega) (by omega) (by omega)
 have n1:(0-p.cL.restL)*(q*q)= -p.cL.restL*(q*q):=by congr 1;omega
 have n2:(0-p.cL.restH)*(q*q)= -p.cL.restH*(q*q):=by congr 1;omega
 have n3: -p.cL.restL*(q*q)= -(p.cL.restL*(q*q)):=Int.neg_mul _ _
 have n4: -p.cL.restH*(q*q)= -(p.cL.restH*(q*q)):=Int.neg_mul _ _
 have bb: -2305847407260205056-2097152≤(qI p.cL.restL p.cL.restH q).low∧(qI p.cL.restL p.cL.restH q).low≤2305847407260205056+2097152∧ -2305847407260205056-2097152≤(qI p.cL.restL p.cL.restH q).high∧(qI p.cL.restL p.cL.restH q).high≤2305847407260205056+2097152:=by
  unfold qI
  split<;>simp only<;>omega
 have key:∀z0 z2 z4 z6 z7:D,exS bL K.qt ⟨[z0,I q,z2,.bp 1 0,z4,.bp 2 0,z6,z7,.t (.sl (p.fans.map wW.e)),I p.fans.length,I 0],[.box (rr p),.box [I 0,I 0],.box [I ((qI p.cL.restL p.cL.restH q).low-p.cL.liftH),I ((qI p.cL.restL p.cL.restH q).high-p.cL.liftL)]]⟩=
  some (.exit 0,⟨[.und,I q,.und,.bp 1 0,.und,.bp 2 0,.und,.und,.t (.sl (p.fans.map wW.e)),I p.fans.length,I p.fans.length],[.box (rr p),.box [I 0,I 0],.box [I (qz p q).low,I (qz p q).high]]⟩):=by
  intro z0 z2 z4 z6 z7
  refine cT (fun j=>⟨[.und,I q,.und,.bp 1 0,.und,.bp 2 0,.und,.und,.t (.sl (p.fans.map wW.e)),I p.fans.length,I j],[.box (rr p),.box [I 0,I 0],.box [I ((qI p.cL.restL p.cL.restH q).low-p.cL.liftH-(wX p.fans q j).high),I ((qI p.cL.restL p.cL.restH q).high-p.cL.liftL-(wX p.fans q j).low)]]⟩) p.fans.length (by simp[jg,wX]) ?_ ?_ (by simp)
  · intro j hj
    have g1:(p.fans.map wW.e)[j]?=some (nth p.fans j).e:=aQ _ hj
    obtain⟨fo,f1,f2⟩:=QS h hj
    have su:=Vt fo f1 f2 (q:=q) (by omega) (by omega)
    have sb:=Hp fo (nth p.fans j).st q
    have fb:=QT h q j (by omega)
    have jl:(j:Int)<p.fans.length:=by omega
    have nx:wX p.fans q (j+1)=⟨(wX p.fans q j).low+(mz (nth p.fans j).fan (nth p.fans j).st q).low,(wX p.fans q j).high+(mz (nth p.fans j).fan (nth p.fans j).st q).high⟩:=rfl
    rw[nx]
    clear fo nx
    generalize mz (nth p.fans j).fan (nth p.fans j).st q=w at*
    generalize nth p.fans j=x at*
    generalize wX p.fans q j=u at*
    generalize qI p.cL.restL p.cL.restH q=bs at*
    obtain⟨⟨x1,x2,x3,x4⟩,x5⟩:=x
    obtain⟨w1,w2⟩:=w
    obtain⟨u1,u2⟩:=u
    obtain⟨bs1,bs2⟩:=bs
    obtain⟨⟨p1,p2,p3,p4,p5,p6,p7,p8,p9,p10⟩,p11,p12⟩:=p
    simp only[rr,kP.e]at*
    simp(disch:=omega)only[go_sem,K.lJ,↓reduceIte,g1,su,jl,Int.sub_sub,Int.add_assoc,reduceAdd,reduceSub]
  · obtain⟨⟨p1,p2,p3,p4,p5,p6,p7,p8,p9,p10⟩,p11,p12⟩:=p
    simp only[rr,kP.e,qz]at*
    simp(disch:=omega)only[go_sem,K.lJ,↓reduceIte,reduceAdd,reduceSub]
 generalize qz p q=dd at*
 unfold qI at key bb
 generalize hS:q*q=S at*
 generalize hX:p.cL.restL*S=X at*
 generalize hY:p.cL.restH*S=Y at*
 generalize hX': -p.cL.restL*S=X' at*
 generalize hY': -p.cL.restH*S=Y' at*
 obtain⟨⟨p1,p2,p3,p4,p5,p6,p7,p8,p9,p10⟩,p11,p12⟩:=p
 obtain⟨d1,d2⟩:=dd
 simp only[rr,kP.e]at*
 by_cases c:q<0
 · simp only[if_pos c]at key bb
   simp(disch:=omega)only[go_sem,K.bW,↓reduceIte,hS,hX,hY,n1,n2,c,key,reduceAdd,reduceSub]
 · simp only[if_neg c]at key bb
   simp(disch:=omega)only[go_sem,K.bW,↓reduceIte,hS,hX,hY,n1,n2,c,key,reduceAdd,reduceSub]
theorem R9{n r:Nat}{p:kP}(h:p.ok n r)(d:Int):∃v:Int,bL 0 N.bo [.t p.e,I d] []=some (I v,[])∧Uv p d v:=by
 have key:∀z0 z3 z6:D,∃q,exS bL K.oE ⟨[z0,I d,.bp 0 0,z3,I (-1048577),I 1048576,z6],[.box (rr p)]⟩=some q∧∃v:Int,q=(.exit 0,⟨[.und,I d,.bp 0 0,.und,I v,I v,.und],[.box (rr p)]⟩)∧Uv p d v:=by
  intro z0 z3 z6
  refine sq (fun m st=>∃lo hi:Int,st=⟨[.und,I d,.bp 0 0,.und,I lo,I hi,.und],[.box (rr p)]⟩∧ -1048577≤lo∧lo≤hi∧hi≤1048576∧(lo= -1048577∨(qz p lo).high≤d)∧m=(hi-lo).toNat) 2097153 _ ⟨-1048577,1048576,rfl,by omega,by omega,by omega,.inl rfl,by omega⟩ ?_
  rintro m _ ⟨lo,hi,rfl,h1,h2,h3,h4,rfl⟩
  by_cases c:lo<hi
  · have tq:(hi-lo+1).tdiv 2=(hi-lo+1) / 2:=Int.tdiv_eq_ediv_of_nonneg (by omega)
    obtain⟨mid,hm⟩:∃mid,lo+(hi-lo+1) / 2=mid:=⟨_,rfl⟩
    have dr:=R8 h (q:=mid) (by omega) (by omega)
    by_cases e:(qz p mid).high≤d
    · refine .inl ⟨⟨[.und,I d,.bp 0 0,.und,I mid,I hi,.und],[.box (rr p)]⟩,(hi-mid).toNat,by omega,?_,mid,hi,rfl,by omega,by omega,by omega,.inr e,rfl⟩
      generalize qz p mid=dd at*
      obtain⟨d1,d2⟩:=dd
      clear h4
      obtain⟨⟨p1,p2,p3,p4,p5,p6,p7,p8,p9,p10⟩,p11,p12⟩:=p
      simp only[rr,kP.e]at*
      simp(disch:=omega)only[go_sem,K.fS,↓reduceIte,c,tq,hm,dr,e,reduceAdd,reduceSub]
    · refine .inl ⟨⟨[.und,I d,.bp 0 0,.und,I lo,I (mid-1),.und],[.box (rr p)]⟩,(mid-1-lo).toNat,by omega,?_,lo,mid-1,rfl,by omega,by omega,by omega,h4,rfl⟩
      generalize qz p mid=dd at*
      obtain⟨d1,d2⟩:=dd
      clear h4
      obtain⟨⟨p1,p2,p3,p4,p5,p6,p7,p8,p9,p10⟩,p11,p12⟩:=p
      simp only[rr,kP.e]at*
      simp(disch:=omega)only[go_sem,K.fS,↓reduceIte,c,tq,hm,dr,e,reduceAdd,reduceSub]
  · obtain rfl:lo=hi:=by omega
    refine .inr ⟨_,?_,by simp,lo,rfl,by omega,by omega,h4⟩
    simp(disch:=omega)only[go_sem,K.fS,↓reduceIte,c,reduceAdd,reduceSub]
 obtain⟨q,hq,v,rfl,hv⟩:=key (.t p.e) (I 0) .und
 refine⟨v,aI K.kC rfl ?_,hv⟩
 clear hv key
 obtain⟨⟨p1,p2,p3,p4,p5,p6,p7,p8,p9,p10⟩,p11,p12⟩:=p
 simp only[rr,kP.e]at*
 simp(disch:=omega)only[go_sem,K.bo,↓reduceIte,hq,reduceAdd,reduceSub]
theorem OI{n r:Nat}{p:kP}(h:p.ok n r)(d:Int):∃v:Int,bL 0 N.bg [.t p.e,I d] []=some (I v,[])∧ME p d v:=by
 have key:∀z0 z3 z6:D,∃q,exS bL K.nT ⟨[z0,I d,.bp 0 0,z3,I (-1048576),I 1048577,z6],[.box (rr p)]⟩=some q∧∃v:Int,q=(.exit 0,⟨[.und,I d,.bp 0 0,.und,I v,I v,.und],[.box (rr p)]⟩)∧ME p d v:=by
  intro z0 z3 z6
  refine sq (fun m st=>∃lo hi:Int,st=⟨[.und,I d,.bp 0 0,.und,I lo,I hi,.und],[.box (rr p)]⟩∧ -1048576≤lo∧lo≤hi∧hi≤1048577∧(hi=1048577∨d≤(qz p hi).low)∧m=(hi-lo).toNat) 2097153 _ ⟨-1048576,1048577,rfl,by omega,by omega,by omega,.inl rfl,by omega⟩ ?_
  rintro m _ ⟨lo,hi,rfl,h1,h2,h3,h4,rfl⟩
  by_cases c:lo<hi
  · have tq:(hi-lo).tdiv 2=(hi-lo) / 2:=Int.tdiv_eq_ediv_of_nonneg (by omega)
    obtain⟨mid,hm⟩:∃mid,lo+(hi-lo) / 2=mid:=⟨_,rfl⟩
    have dr:=R8 h (q:=mid) (by omega) (by omega)
    by_cases e:(qz p mid).low≥d
    · refine .inl ⟨⟨[.und,I d,.bp 0 0,.und,I lo,I mid,.und],[.box (rr p)]⟩,(mid-lo).toNat,by omega,?_,lo,mid,rfl,by omega,by omega,by omega,.inr e,rfl⟩
      generalize qz p mid=dd at*
      obtain⟨d1,d2⟩:=dd
      clear h4
      obtain⟨⟨p1,p2,p3,p4,p5,p6,p7,p8,p9,p10⟩,p11,p12⟩:=p
      simp only[rr,kP.e]at*
      simp(disch:=omega)only[go_sem,K.fx,↓reduceIte,c,tq,hm,dr,e,reduceAdd,reduceSub]
    · refine .inl ⟨⟨[.und,I d,.bp 0 0,.und,I (mid+1),I hi,.und],[.box (rr p)]⟩,(hi-(mid+1)).toNat,by omega,?_,mid+1,hi,rfl,by omega,by omega,by omega,h4,rfl⟩
      generalize qz p mid=dd at*
      obtain⟨d1,d2⟩:=dd
      clear h4
      obtain⟨⟨p1,p2,p3,p4,p5,p6,p7,p8,p9,p10⟩,p11,p12⟩:=p
      simp only[rr,kP.e]at*
      simp(disch:=omega)only[go_sem,K.fx,↓reduceIte,c,tq,hm,dr,e,reduceAdd,reduceSub]
  · obtain rfl:lo=hi:=by omega
    refine .inr ⟨_,?_,by simp,lo,rfl,by omega,by omega,h4⟩
    simp(disch:=omega)only[go_sem,K.fx,↓reduceIte,c,reduceAdd,reduceSub]
 obtain⟨q,hq,v,rfl,hv⟩:=key (.t p.e) (I 0) .und
 refine⟨v,aI K.kf rfl ?_,hv⟩
 clear hv key
 obtain⟨⟨p1,p2,p3,p4,p5,p6,p7,p8,p9,p10⟩,p11,p12⟩:=p
 simp only[rr,kP.e]at*
 simp(disch:=omega)only[go_sem,K.bg,↓reduceIte,hq,reduceAdd,reduceSub]
noncomputable def numOf(f:Nat)(args:List D):Int:=match bL 0 f args []with
 | some (.t (.int _ v),_)=>v
 | _=>0
noncomputable def jL(p:kP)(d:Int):Int:=numOf N.bo [.t p.e,I d]
noncomputable def fT(p:kP)(d:Int):Int:=numOf N.bg [.t p.e,I d]
theorem mg{n r:Nat}{p:kP}(h:p.ok n r)(d:Int):bL 0 N.bo [.t p.e,I d] []=some (I (jL p d),[])∧Uv p d (jL p d):=by
 obtain⟨v,e,i⟩:=R9 h d
 have:jL p d=v:=by unfold jL numOf;rw[e]
 rw[this];exact⟨e,i⟩
theorem kg{n r:Nat}{p:kP}(h:p.ok n r)(d:Int):bL 0 N.bg [.t p.e,I d] []=some (I (fT p d),[])∧ME p d (fT p d):=by
 obtain⟨v,e,i⟩:=OI h d
 have:fT p d=v:=by unfold fT numOf;rw[e]
 rw[this];exact⟨e,i⟩
structure ny(A:Air)(tf td:List Int):Prop where
 ok:A.m.ok
 np:A.m.aa.length≤6
 nr:A.m.roads.length≤10
 fn:A.fans.length≤2
 dn:A.doors.length≤2
 fo:∀f∈A.fans,f.ok A.m.roads.length
 fl:tf.length=A.fans.length
 fs:∀x∈tf, -1≤x∧x≤2
 dor:∀d∈A.doors,0≤d.cL∧d.cL<A.m.roads.length∧d.drawn d.cL
 dl:td.length=A.doors.length
 ds:∀k,k<A.doors.length→ -1≤nth td k∧nth td k<(nth A.doors k).rests.length
def Nh(l:List Int):Nat→Int
 | 0=>nth l 0
 | n+1=>min (Nh l n) (nth l (n+1))
def Ni(l:List Int):Nat→Int
 | 0=>nth l 0
 | n+1=>max (Ni l n) (nth l (n+1))
theorem Lr(l:List Int):∀n j,j≤n→Nh l n≤nth l j∧nth l j≤Ni l n
 | 0,j,h=>by
   obtain rfl:j=0:=by omega
   simp[Nh,Ni]
 | n+1,j,h=>by
   unfold Nh Ni
   by_cases e:j=n+1
   · subst e;omega
   · have:=Lr l n j (by omega);omega
theorem Sa(l:List Int){a b:Int}(h:∀x∈l,a≤x∧x≤b):∀n,n<l.length→a≤Nh l n∧Ni l n≤b
 | 0,hn=>by
   have:=h _ (ak hn)
   simp only[Nh,Ni];omega
 | n+1,hn=>by
   have:=h _ (ak hn)
   have:=Sa l h n (by omega)
   unfold Nh Ni;omega
theorem abn(l:List Int)(h:1≤l.length)(h2:l.length≤1000):bL 0 N.cG [.t (tL l)] []=some (I (Nh l (l.length-1)),[]):=by
 refine aI K.mD rfl ?_
 have g0:(l.map (T.int .i64))[0]?=some (tI (nth l 0)):=aQ _ (by omega)
 have l0:¬(l.length:Int)<1:=by omega
 have key:∀z1:D,exS bL K.pV ⟨[.t (tL l),z1,I (nth l 0),I 1],[]⟩=some (.exit 0,⟨[.t (tL l),.und,I (Nh l (l.length-1)),I l.length],[]⟩):=by
  intro z1
  refine cT (fun j=>⟨[.t (tL l),.und,I (Nh l j),I ((j:Int)+1)],[]⟩) (l.length-1) rfl ?_ ?_ (by simp)
  · intro j hj
    have g1:(l.map (T.int .i64))[j+1]?=some (tI (nth l (j+1))):=aQ _ (by omega)
    have t1:((j:Int)+1).toNat=j+1:=by omega
    have c:(j:Int)+1<l.length:=by omega
    have nx:Nh l (j+1)=min (Nh l j) (nth l (j+1)):=rfl
    rw[nx]
    simp(disch:=omega)only[go_sem,K.kE,↓reduceIte,g1,t1,c,reduceAdd,reduceSub]
  · have e:((l.length-1:Nat):Int)+1=l.length:=by omega
    simp only[e]
    simp(disch:=omega)only[go_sem,K.kE,↓reduceIte,reduceAdd,reduceSub]
 simp(disch:=omega)only[go_sem,K.cG,↓reduceIte,g0,l0,key,reduceAdd,reduceSub]
theorem abo(l:List Int)(h:1≤l.length)(h2:l.length≤1000):bL 0 N.cH [.t (tL l)] []=some (I (Ni l (l.length-1)),[]):=by
 refine aI K.mE rfl ?_
 have g0:(l.map (T.int .i64))[0]?=some (tI (nth l 0)):=aQ _ (by omega)
 have l0:¬(l.length:Int)<1:=by omega
 have key:∀z1:D,exS bL K.pW ⟨[.t (tL l),z1,I (nth l 0),I 1],[]⟩=some (.exit 0,⟨[.t (tL l),.und,I (Ni l (l.length-1)),I l.length],[]⟩):=by
  intro z1
  refine cT (fun j=>⟨[.t (tL l),.und,I (Ni l j),I ((j:Int)+1)],[]⟩) (l.length-1) rfl ?_ ?_ (by simp)
  · intro j hj
    have g1:(l.map (T.int .i64))[j+1]?=some (tI (nth l (j+1))):=aQ _ (by omega)
    have t1:((j:Int)+1).toNat=j+1:=by omega
    have c:(j:Int)+1<l.length:=by omega
    have nx:Ni l (j+1)=max (Ni l j) (nth l (j+1)):=rfl
    rw[nx]
    simp(disch:=omega)only[go_sem,K.kF,↓reduceIte,g1,t1,c,reduceAdd,reduceSub]
  · have e:((l.length-1:Nat):Int)+1=l.length:=by omega
    simp only[e]
    simp(disch:=omega)only[go_sem,K.kF,↓reduceIte,reduceAdd,reduceSub]
 simp(disch:=omega)only[go_sem,K.cH,↓reduceIte,g0,l0,key,reduceAdd,reduceSub]
def uj(d:lN)(st:Int):Spn:=if st= -1 then⟨Nh d.rests (d.rests.length-1),Ni d.rests (d.rests.length-1)⟩else⟨nth d.rests st.toNat,nth d.rests st.toNat⟩
theorem Vu(d:lN)(h:1≤d.rests.length)(h2:d.rests.length≤1000){st:Int}(s0: -1≤st)(s1:st<d.rests.length):bL 0 N.lI [.t d.e,I st] []=some (.t (uj d st).e,[]):=by
 refine aI K.yq rfl ?_
 have mi:=abn d.rests h h2
 have ma:=abo d.rests h h2
 unfold uj
 have l0:¬(d.rests.length:Int)=0:=by omega
 have n1:¬st< -1:=by omega
 have n2:¬st≥d.rests.length:=by omega
 by_cases c:st= -1
 · subst c
   rw[if_pos rfl]
   generalize Nh d.rests (d.rests.length-1)=x at*
   generalize Ni d.rests (d.rests.length-1)=y at*
   obtain⟨d1,d2,d3⟩:=d
   simp only at*
   simp(disch:=omega)only[go_sem,K.lI,↓reduceIte,mi,ma,l0,n2,reduceAdd,reduceSub]
 · rw[if_neg c]
   have g:(d.rests.map (T.int .i64))[st.toNat]?=some (tI (nth d.rests st.toNat)):=aQ _ (by omega)
   generalize nth d.rests st.toNat=x at*
   obtain⟨d1,d2,d3⟩:=d
   simp only at*
   simp(disch:=omega)only[go_sem,K.lI,↓reduceIte,g,c,l0,n1,n2,reduceAdd,reduceSub]
theorem Nj{d:lN}{r st:Int}(h:d.drawn r)(s0: -1≤st)(s1:st<d.rests.length):0≤(uj d st).low∧(uj d st).low≤(uj d st).high∧(uj d st).high≤900:=by
 have l0:=h.l0
 unfold uj
 split
 · have:=Sa d.rests h.bd (d.rests.length-1) (by omega)
   have:=Lr d.rests (d.rests.length-1) 0 (by omega)
   simp only;omega
 · have:=h.bd _ (ak (l:=d.rests) (j:=st.toNat) (by omega))
   simp only;omega
theorem Lt{n:Nat}{f:Fan}(h:f.ok n):bL 0 N.mM [.t f.e] []=some (I 0,[]):=by
 refine aI K.yp rfl ?_
 obtain⟨r0,r1,ln,cu,fl,pr⟩:=h
 have l1:1≤f.cur.length:=by
  cases hc:f.cur with
  | nil=>rw[hc]at cu;exact cu.elim
  | cons a r=>simp
 have r0':¬f.cL<0:=by omega
 have l1':¬(f.cur.length:Int)<1:=by omega
 have l2':¬(f.cur.length:Int)>8:=by omega
 have key:∀z0 z2 z3 z4:D,exS bL K.BU ⟨[z0,.bp 0 0,z2,z3,z4,.t (tS f.cur),I f.cur.length,I 0],[.box (Eb f)]⟩=some (.exit 0,⟨[.und,.bp 0 0,.und,.und,.und,.t (tS f.cur),I f.cur.length,I f.cur.length],[.box (Eb f)]⟩):=by
  intro z0 z2 z3 z4
  refine cT (fun j=>⟨[.und,.bp 0 0,.und,.und,.und,.t (tS f.cur),I f.cur.length,I j],[.box (Eb f)]⟩) f.cur.length rfl ?_ ?_ (by simp)
  · intro j hj
    have g1:(f.cur.map Spn.e)[j]?=some (nth f.cur j).e:=aQ _ hj
    have jl:(j:Int)<f.cur.length:=by omega
    have b1:=fl _ (ak (l:=f.cur) (j:=j) hj)
    have b2:=pr _ (ak (l:=f.cur) (j:=j) hj)
    have n1:¬(nth f.cur j).low< -1048576:=by omega
    have n2:¬(nth f.cur j).low>1048576:=by omega
    have n3:¬(nth f.cur j).high<0:=by omega
    have n4:¬(nth f.cur j).high>2199023255552:=by omega
    by_cases e:j=0
    · subst e
      generalize nth f.cur 0=x at*
      obtain⟨x1,x2⟩:=x
      obtain⟨f1,f2,f3,f4⟩:=f
      simp only[Eb]at*
      simp(disch:=omega)only[go_sem,K.qA,↓reduceIte,g1,jl,n1,n2,n3,n4,reduceAdd,reduceSub]
    · obtain⟨k,rfl⟩:∃k,j=k+1:=⟨j-1,by omega⟩
      have so:=Ec cu hj
      have g0:(f.cur.map Spn.e)[k]?=some (nth f.cur k).e:=aQ _ (by omega)
      have c1:((k+1:Nat):Int)>0:=by omega
      have c2:(((k+1:Nat):Int)-1)=k:=by omega
      have n5:¬(nth f.cur (k+1)).low≤(nth f.cur k).low:=by omega
      have n6:¬(nth f.cur (k+1)).high>(nth f.cur k).high:=by omega
      generalize nth f.cur (k+1)=x at*
      generalize nth f.cur k=y at*
      obtain⟨x1,x2⟩:=x
      obtain⟨y1,y2⟩:=y
      obtain⟨f1,f2,f3,f4⟩:=f
      simp only[Eb]at*
      simp(disch:=omega)only[go_sem,K.qA,↓reduceIte,g1,jl,n1,n2,n3,n4,g0,c1,c2,n5,n6,reduceAdd,reduceSub]
  · obtain⟨f1,f2,f3,f4⟩:=f
    simp only[Eb]at*
    simp(disch:=omega)only[go_sem,K.qA,↓reduceIte,reduceAdd,reduceSub]
 obtain⟨f1,f2,f3,f4⟩:=f
 simp only[Eb]at*
 simp(disch:=omega)only[go_sem,K.mM,↓reduceIte,key,r0',l1',l2',reduceAdd,reduceSub]
theorem JE{n:Nat}{l:List lN}(hl:l.length≤2)(h:∀d∈l,0≤d.cL∧d.cL<n∧d.drawn d.cL):bL 0 N.ku [.t (.sl (l.map lN.e))] []=some (I 0,[]):=by
 refine aI K.wj rfl ?_
 have l2':¬(l.length:Int)>16:=by omega
 have inner:∀j,j<l.length→∀z1 z5 z6:D,exS bL K.zN ⟨[.t (.sl (l.map lN.e)),z1,I j,.bp 0 0,B true,z5,z6,.t (.sl (l.map lN.e)),I l.length,I j,.t (tL (nth l j).rests),I (nth l j).rests.length,I 0],[.box [I (nth l j).cL,I (nth l j).other,.t (tL (nth l j).rests)]]⟩=
  some (.exit 2,⟨[.t (.sl (l.map lN.e)),.und,I j,.bp 0 0,B true,.und,.und,.t (.sl (l.map lN.e)),I l.length,I j,.t (tL (nth l j).rests),I (nth l j).rests.length,I (nth l j).rests.length],[.box [I (nth l j).cL,I (nth l j).other,.t (tL (nth l j).rests)]]⟩):=by
  intro j hj z1 z5 z6
  obtain⟨-, -,dr⟩:=h _ (ak hj)
  have l0:=dr.l0
  have l1:=dr.l1
  have bd:=dr.bd
  have fa:=dr.fall
  clear dr
  generalize nth l j=x at*
  obtain⟨x1,x2,x3⟩:=x
  simp only at*
  refine cT (fun k=>⟨[.t (.sl (l.map lN.e)),.und,I j,.bp 0 0,B true,.und,.und,.t (.sl (l.map lN.e)),I l.length,I j,.t (tL x3),I x3.length,I k],[.box [I x1,I x2,.t (tL x3)]]⟩) x3.length rfl ?_ ?_ (by simp)
  · intro k hk
    have g1:(x3.map (T.int .i64))[k]?=some (tI (nth x3 k)):=aQ _ hk
    have kl:(k:Int)<x3.length:=by omega
    have b1:=bd _ (ak (l:=x3) (j:=k) hk)
    have n1:¬nth x3 k<0:=by omega
    have n2:¬nth x3 k>262144:=by omega
    by_cases e:k=0
    · subst e
      generalize nth x3 0=v at*
      simp(disch:=omega)only[go_sem,K.pC,↓reduceIte,g1,kl,n1,n2,reduceAdd,reduceSub]
    · obtain⟨i,rfl⟩:∃i,k=i+1:=⟨k-1,by omega⟩
      have g0:(x3.map (T.int .i64))[i]?=some (tI (nth x3 i)):=aQ _ (by omega)
      have c0:¬((i+1:Nat):Int)=0:=by omega
      have c2:(((i+1:Nat):Int)-1)=i:=by omega
      have f1:=fa i hk
      generalize nth x3 (i+1)=v at*
      generalize nth x3 i=u at*
      simp(disch:=omega)only[go_sem,K.pC,↓reduceIte,g1,kl,n1,n2,g0,c0,c2,f1,reduceAdd,reduceSub]
  · simp(disch:=omega)only[go_sem,K.pC,↓reduceIte,reduceAdd,reduceSub]
 have outer:∀z1 z2 z3 z4 z5 z6 z10 z11 z12:D,exS bL K.zO ⟨[.t (.sl (l.map lN.e)),z1,z2,z3,z4,z5,z6,.t (.sl (l.map lN.e)),I l.length,I 0,z10,z11,z12],[]⟩=
  some (.exit 0,⟨[.t (.sl (l.map lN.e)),.und,.und,.und,.und,.und,.und,.t (.sl (l.map lN.e)),I l.length,I l.length,.und,.und,.und],[]⟩):=by
  intro z1 z2 z3 z4 z5 z6 z10 z11 z12
  refine cT (fun j=>⟨[.t (.sl (l.map lN.e)),.und,.und,.und,.und,.und,.und,.t (.sl (l.map lN.e)),I l.length,I j,.und,.und,.und],[]⟩) l.length rfl ?_ ?_ (by simp)
  · intro j hj
    have ki:=inner j hj
    obtain⟨d0,d1,dr⟩:=h _ (ak hj)
    have l0:=dr.l0
    have l1:=dr.l1
    have ot:=dr.ot
    have g1:(l.map lN.e)[j]?=some (nth l j).e:=aQ _ hj
    have jl:(j:Int)<l.length:=by omega
    clear dr
    generalize nth l j=x at*
    obtain⟨x1,x2,x3⟩:=x
    simp only at*
    subst ot
    have n0:¬x1<0:=by omega
    have n1:¬(x3.length:Int)<2:=by omega
    have n2:¬(x3.length:Int)>6:=by omega
    simp(disch:=omega)only[go_sem,K.sg,↓reduceIte,g1,jl,ki,n0,n1,n2,reduceAdd,reduceSub]
  · simp(disch:=omega)only[go_sem,K.sg,↓reduceIte,reduceAdd,reduceSub]
 simp(disch:=omega)only[go_sem,K.ku,↓reduceIte,outer,l2',reduceAdd,reduceSub]
theorem sr{A:Air}{tf td:List Int}(h:ny A tf td):bL 0 N.eU [.t A.e] []=some (I 0,[]):=by
 refine aI K.r9 rfl ?_
 have pc:=BF h.ok
 have fn:=h.fn
 have dn:=h.dn
 have nr:=h.nr
 have dc:=JE dn h.dor
 have f8:¬(A.fans.length:Int)>8:=by omega
 have k1:∀z0 z2 z3 z4 z5 z6 z7 z11 z12 z13:D,exS bL K.vX ⟨[z0,.bp 0 0,z2,z3,z4,z5,z6,z7,.t (.sl (A.fans.map Fan.e)),I A.fans.length,I 0,z11,z12,z13],[.box [.t (.sl (A.m.aa.map Place.e)),.t (.sl (A.m.roads.map Road.e)),.t (.sl (A.fans.map Fan.e)),.t (.sl (A.doors.map lN.e))]]⟩=
  some (.exit 0,⟨[.und,.bp 0 0,.und,.und,.und,.und,.und,.und,.t (.sl (A.fans.map Fan.e)),I A.fans.length,I A.fans.length,.und,.und,.und],[.box [.t (.sl (A.m.aa.map Place.e)),.t (.sl (A.m.roads.map Road.e)),.t (.sl (A.fans.map Fan.e)),.t (.sl (A.doors.map lN.e))]]⟩):=by
  intro z0 z2 z3 z4 z5 z6 z7 z11 z12 z13
  refine cT (fun j=>⟨[.und,.bp 0 0,.und,.und,.und,.und,.und,.und,.t (.sl (A.fans.map Fan.e)),I A.fans.length,I j,.und,.und,.und],[.box [.t (.sl (A.m.aa.map Place.e)),.t (.sl (A.m.roads.map Road.e)),.t (.sl (A.fans.map Fan.e)),.t (.sl (A.doors.map lN.e))]]⟩) A.fans.length rfl ?_ ?_ (by simp)
  · intro j hj
    have fo:=h.fo _ (ak hj)
    have fc:=Lt fo
    have r1:=fo.r1
    have g1:(A.fans.map Fan.e)[j]?=some (nth A.fans j).e:=aQ _ hj
    have jl:(j:Int)<A.fans.length:=by omega
    clear fo
    generalize nth A.fans j=x at*
    obtain⟨x1,x2,x3,x4⟩:=x
    simp only at*
    have n1:¬x1≥A.m.roads.length:=by omega
    clear h pc dc
    simp(disch:=omega)only[go_sem,K.qe,↓reduceIte,g1,jl,fc,n1,reduceAdd,reduceSub]
  · simp(disch:=omega)only[go_sem,K.qe,↓reduceIte,reduceAdd,reduceSub]
 have k2:∀z0 z2 z3 z4 z5 z6 z7 z8 z9 z10:D,exS bL K.vY ⟨[z0,.bp 0 0,z2,z3,z4,z5,z6,z7,z8,z9,z10,.t (.sl (A.doors.map lN.e)),I A.doors.length,I 0],[.box [.t (.sl (A.m.aa.map Place.e)),.t (.sl (A.m.roads.map Road.e)),.t (.sl (A.fans.map Fan.e)),.t (.sl (A.doors.map lN.e))]]⟩=
  some (.exit 2,⟨[.und,.bp 0 0,.und,.und,.und,.und,.und,.und,.und,.und,.und,.t (.sl (A.doors.map lN.e)),I A.doors.length,I A.doors.length],[.box [.t (.sl (A.m.aa.map Place.e)),.t (.sl (A.m.roads.map Road.e)),.t (.sl (A.fans.map Fan.e)),.t (.sl (A.doors.map lN.e))]]⟩):=by
  intro z0 z2 z3 z4 z5 z6 z7 z8 z9 z10
  refine cT (fun j=>⟨[.und,.bp 0 0,.und,.und,.und,.und,.und,.und,.und,.und,.und,.t (.sl (A.doors.map lN.e)),I A.doors.length,I j],[.box [.t (.sl (A.m.aa.map Place.e)),.t (.sl (A.m.roads.map Road.e)),.t (.sl (A.fans.map Fan.e)),.t (.sl (A.doors.map lN.e))]]⟩) A.doors.length rfl ?_ ?_ (by simp)
  · intro j hj
    obtain⟨d0,d1, -⟩:=h.dor _ (ak hj)
    have g1:(A.doors.map lN.e)[j]?=some (nth A.doors j).e:=aQ _ hj
    have jl:(j:Int)<A.doors.length:=by omega
    generalize nth A.doors j=x at*
    obtain⟨x1,x2,x3⟩:=x
    simp only at*
    have n1:¬x1≥A.m.roads.length:=by omega
    clear h pc dc
    simp(disch:=omega)only[go_sem,K.qf,↓reduceIte,g1,jl,n1,reduceAdd,reduceSub]
  · simp(disch:=omega)only[go_sem,K.qf,↓reduceIte,reduceAdd,reduceSub]
 obtain⟨⟨a1,a2⟩,a3,a4⟩:=A
 simp only[Air.e,cC.e]at*
 clear h
 simp(disch:=omega)only[go_sem,K.eU,↓reduceIte,pc,dc,f8,k1,k2,reduceAdd,reduceSub]
theorem AR{A:Air}{tf td:List Int}(h:ny A tf td):bL 0 N.c9 [.t A.e,.t (pX tf td)] []=some (B true,[]):=by
 refine aI K.qi rfl ?_
 have fl:=h.fl
 have dl:=h.dl
 have fn:=h.fn
 have dn:=h.dn
 have k1:∀z0 z1 z4 z5 z6 z7 z11 z12 z13:D,exS bL K.sW ⟨[z0,z1,.bp 0 0,.bp 1 0,z4,z5,z6,z7,.t (tL tf),I tf.length,I 0,z11,z12,z13],[.box [.t (.sl (A.m.aa.map Place.e)),.t (.sl (A.m.roads.map Road.e)),.t (.sl (A.fans.map Fan.e)),.t (.sl (A.doors.map lN.e))],.box [.t (tL tf),.t (tL td)]]⟩=
  some (.exit 0,⟨[.und,.und,.bp 0 0,.bp 1 0,.und,.und,.und,.und,.t (tL tf),I tf.length,I tf.length,.und,.und,.und],[.box [.t (.sl (A.m.aa.map Place.e)),.t (.sl (A.m.roads.map Road.e)),.t (.sl (A.fans.map Fan.e)),.t (.sl (A.doors.map lN.e))],.box [.t (tL tf),.t (tL td)]]⟩):=by
  intro z0 z1 z4 z5 z6 z7 z11 z12 z13
  refine cT (fun j=>⟨[.und,.und,.bp 0 0,.bp 1 0,.und,.und,.und,.und,.t (tL tf),I tf.length,I j,.und,.und,.und],[.box [.t (.sl (A.m.aa.map Place.e)),.t (.sl (A.m.roads.map Road.e)),.t (.sl (A.fans.map Fan.e)),.t (.sl (A.doors.map lN.e))],.box [.t (tL tf),.t (tL td)]]⟩) tf.length rfl ?_ ?_ (by simp)
  · intro j hj
    have b:=h.fs _ (ak hj)
    have g1:(tf.map (T.int .i64))[j]?=some (tI (nth tf j)):=aQ _ hj
    have jl:(j:Int)<tf.length:=by omega
    have n1:¬nth tf j< -1:=by omega
    have n2:¬nth tf j>2:=by omega
    generalize nth tf j=x at*
    clear h
    simp(disch:=omega)only[go_sem,K.oA,↓reduceIte,g1,jl,n1,n2,reduceAdd,reduceSub]
  · simp(disch:=omega)only[go_sem,K.oA,↓reduceIte,reduceAdd,reduceSub]
 have k2:∀z0 z1 z3 z4 z5 z6 z7 z8 z9 z10:D,exS bL K.sX ⟨[z0,z1,.bp 0 0,z3,z4,z5,z6,z7,z8,z9,z10,.t (tL td),I td.length,I 0],[.box [.t (.sl (A.m.aa.map Place.e)),.t (.sl (A.m.roads.map Road.e)),.t (.sl (A.fans.map Fan.e)),.t (.sl (A.doors.map lN.e))],.box [.t (tL tf),.t (tL td)]]⟩=
  some (.exit 2,⟨[.und,.und,.bp 0 0,.und,.und,.und,.und,.und,.und,.und,.und,.t (tL td),I td.length,I td.length],[.box [.t (.sl (A.m.aa.map Place.e)),.t (.sl (A.m.roads.map Road.e)),.t (.sl (A.fans.map Fan.e)),.t (.sl (A.doors.map lN.e))],.box [.t (tL tf),.t (tL td)]]⟩):=by
  intro z0 z1 z3 z4 z5 z6 z7 z8 z9 z10
  refine cT (fun j=>⟨[.und,.und,.bp 0 0,.und,.und,.und,.und,.und,.und,.und,.und,.t (tL td),I td.length,I j],[.box [.t (.sl (A.m.aa.map Place.e)),.t (.sl (A.m.roads.map Road.e)),.t (.sl (A.fans.map Fan.e)),.t (.sl (A.doors.map lN.e))],.box [.t (tL tf),.t (tL td)]]⟩) td.length rfl ?_ ?_ (by simp)
  · intro j hj
    have b:=h.ds j (by omega)
    have g1:(td.map (T.int .i64))[j]?=some (tI (nth td j)):=aQ _ hj
    have g2:(A.doors.map lN.e)[j]?=some (nth A.doors j).e:=aQ _ (by omega)
    have jl:(j:Int)<td.length:=by omega
    generalize nth td j=x at*
    generalize nth A.doors j=y at*
    obtain⟨y1,y2,y3⟩:=y
    simp only at*
    have n1:¬x< -1:=by omega
    have n2:¬x≥y3.length:=by omega
    clear h
    simp(disch:=omega)only[go_sem,K.oB,↓reduceIte,g1,g2,jl,n1,n2,reduceAdd,reduceSub]
  · simp(disch:=omega)only[go_sem,K.oB,↓reduceIte,reduceAdd,reduceSub]
 have e1:(tf.length:Int)=A.fans.length:=by omega
 have e2:(td.length:Int)=A.doors.length:=by omega
 obtain⟨⟨a1,a2⟩,a3,a4⟩:=A
 simp only[Air.e,cC.e,pX]at*
 simp only[fl]at k1
 simp only[dl]at k2
 clear h
 simp(disch:=omega)only[go_sem,K.c9,↓reduceIte,k1,k2,fl,dl,reduceAdd,reduceSub]
def nV{α:Type}(f:Nat→α)(i:Nat)(x:α):Nat→α:=fun j=>if j=i then x else f j
def bl(sz c:Nat)(pn:Nat→Bool)(A:Nat→List D):af:=(List.range c).map fun j=> .arr sz (pn j) 0 (A j)
abbrev pF:Nat→Bool:=fun _=>false
theorem uM(sz c:Nat)(pn:Nat→Bool)(A:Nat→List D):(bl sz c pn A).length=c:=by simp[bl]
theorem B3{sz c:Nat}{pn:Nat→Bool}{A:Nat→List D}{S:af}{i:Nat}(h:i<c):(bl sz c pn A++S)[i]?=some (.arr sz (pn i) 0 (A i)):=by
 rw[aLg (by rw[uM];exact h)]
 simp[bl,h]
theorem Nk(sz c:Nat)(pn:Nat→Bool)(A:Nat→List D)(S:af)(i:Nat):(bl sz c pn A++S)[i+c]?=S[i]?:=by
 rw[aLh (by rw[uM];omega),uM];congr 1;omega
theorem Sb(sz c:Nat)(pn:Nat→Bool)(A:Nat→List D)(S:af)(i:Nat)(o:Obj):(bl sz c pn A++S).set (i+c) o=bl sz c pn A++S.set i o:=by
 rw[List.set_append_right _ _ (by rw[uM];omega),uM];congr 2;omega
theorem Sc{sz c:Nat}{pn:Nat→Bool}{A:Nat→List D}{S:af}{i:Nat}{b:Bool}{es:List D}(h:i<c):(bl sz c pn A++S).set i (.arr sz b 0 es)=bl sz c (nV pn i b) (nV A i es)++S:=by
 rw[List.set_append_left _ _ (by rw[uM];exact h)]
 congr 1
 apply List.ext_getElem?
 intro j
 by_cases hj:j<c
 · by_cases e:i=j
   · subst e
     rw[aLj (by rw[uM];exact hj)]
     simp[bl,hj,nV]
   · rw[aLi e]
     simp[bl,hj,nV,show ¬j=i from fun x=>e x.symm]
 · rw[aLm (by rw[List.length_set,uM];omega),aLm (by rw[uM];omega)]
theorem Sd(sz c:Nat)(pn:Nat→Bool)(A:Nat→List D)(S:af)(n:Nat):(bl sz c pn A++S).take (n+c)=bl sz c pn A++S.take n:=by
 rw[List.take_append,uM,List.take_of_length_le (by rw[uM];omega)]
 congr 2;omega
theorem ib(sz c:Nat)(pn:Nat→Bool)(A:Nat→List D)(S:af):(bl sz c pn A++S).length=S.length+c:=by
 rw[aLv,uM];omega
theorem px(sz:Nat)(pn:Nat→Bool)(A:Nat→List D)(S:af)(i:Nat):(bl sz 6 pn A++S)[i+6]?=S[i]?:=Nk sz 6 pn A S i
theorem mX(sz:Nat)(pn:Nat→Bool)(A:Nat→List D)(S:af)(i:Nat)(o:Obj):(bl sz 6 pn A++S).set (i+6) o=bl sz 6 pn A++S.set i o:=Sb sz 6 pn A S i o
theorem mY(sz:Nat)(pn:Nat→Bool)(A:Nat→List D)(S:af)(n:Nat):(bl sz 6 pn A++S).take (n+6)=bl sz 6 pn A++S.take n:=Sd sz 6 pn A S n
theorem rT(b m:Nat)(L:Nat→Nat):(refs b m L).length=m:=by simp[refs]
theorem CT{b m:Nat}{L:Nat→Nat}{i:Nat}(h:i<m):(refs b m L)[i]?=some (.ref (i+b) 0 (L i)):=by simp[refs,h]
theorem HE{b m:Nat}{L:Nat→Nat}{i n:Nat}(h:i<m):(refs b m L).set i (.ref (i+b) 0 n)=refs b m (nV L i n):=by
 apply List.ext_getElem?
 intro j
 by_cases hj:j<m
 · by_cases e:i=j
   · subst e
     rw[aLj (by rw[rT];exact hj)]
     simp[refs,hj,nV]
   · rw[aLi e]
     simp[refs,hj,nV,show ¬j=i from fun x=>e x.symm]
 · rw[aLm (by rw[List.length_set,rT];omega),aLm (by rw[rT];omega)]
theorem uk{b m k:Nat}{L:Nat→Nat}(h:b+m≤k):eW k 8 (refs b m L)=true:=by
 show(refs b m L).all (old k 8)=true
 rw[aLx]
 intro d hd
 obtain⟨j,hj,rfl⟩:=List.mem_map.1 hd
 have:=aLu.1 hj
 simp[old,depth];omega
theorem Ed{sz c k:Nat}{pn:Nat→Bool}{A:Nat→List D}(h:∀j,j<c→eW k 8 (A j)=true):cf k (bl sz c pn A)=true:=by
 rw[← o5,aLx]
 intro o ho
 obtain⟨j,hj,rfl⟩:=List.mem_map.1 ho
 have:=h j (aLu.1 hj)
 exact this
abbrev iz(l:List Int):List D:=(l.map (T.int .i64)).map .t
def wm(rs:List Road):Nat→Nat→List Int
 | 0,_=>[]
 | n+1,p=>wm rs n p++if(nth rs n).closed=true then []else if(nth rs n).frm=p then [(nth rs n).to]else if(nth rs n).to=p then [(nth rs n).frm]else []
theorem Ee(rs:List Road):∀n p,(wm rs n p).length≤n
 | 0,_=>aLs _
 | n+1,p=>by
   have:=Ee rs n p
   rw[wm,aLv]
   split
   · simp;omega
   split
   · simp;omega
   split<;>simp<;>omega
theorem sY(rs:List Road)(p:Nat)(q:Int):∀n,q∈wm rs n p↔∃k,k<n∧(nth rs k).closed=false∧(((nth rs k).frm=p∧(nth rs k).to=q)∨((nth rs k).frm≠p∧(nth rs k).to=p∧(nth rs k).frm=q))
 | 0=>by simp[wm]
 | n+1=>by
   rw[wm,List.mem_append,sY rs p q n]
   constructor
   · rintro (⟨k,hk,h⟩ | h)
     · exact⟨k,by omega,h⟩
     · refine⟨n,by omega,?_⟩
       split at h
       · simp at h
       · rename_i c
         refine⟨by simpa using c,?_⟩
         split at h
         · exact .inl ⟨by assumption,by simp at h;exact h.symm⟩
         · split at h
           · exact .inr ⟨by assumption,by assumption,by simp at h;exact h.symm⟩
           · simp at h
   · rintro ⟨k,hk,hc,h⟩
     by_cases e:k=n
     · subst e
       right
       rw[if_neg (by rw[hc];simp)]
       rcases h with⟨h1,h2⟩ | ⟨h1,h2,h3⟩
       · rw[if_pos h1];simp[h2]
       · rw[if_neg h1,if_pos h2];simp[h3]
     · exact .inl ⟨k,by omega,hc,h⟩
abbrev mh(m:cC)(A:Nat→List Int)(S:af):af:= .box (aX m)::(bl 1 6 pF (fun p=>iz (A p))++(.arr 1 false 0 (refs 1 m.aa.length fun p=>(A p).length)::S))
theorem Ef(l:List Int)(x:Int):iz l++[.t (.int .i64 x)]=iz (l++[x]):=by simp
theorem Nl{A:Nat→List Int}{i:Nat}{x:Int}:nV (fun p=>iz (A p)) i (iz (A i)++[.t (.int .i64 x)])=fun p=>iz (nV A i (A i++[x]) p):=by
 funext p
 unfold nV
 split
 · rw[Ef]
 · rfl
theorem HF{A:Nat→List Int}{i n:Nat}{x:Int}(h:n=(A i).length+1):nV (fun p=>(A p).length) i n=fun p=>(nV A i (A i++[x]) p).length:=by
 funext p
 unfold nV
 split
 · simp[h]
 · rfl
theorem HG{α:Type}(f:Nat→α)(i:Nat):nV f i (f i)=f:=by
 funext j;unfold nV;split
 · rename_i h;rw[h]
 · rfl
theorem wo{m:cC}(np:m.aa.length≤6)(A:Nat→List Int)(S:af){k:Nat}(hk:7≤k):cf k (mh m A S)=cf k S:=by
 have e1:=Ed (sz:=1) (c:=6) (k:=k) (pn:=pF) (A:=fun p=>iz (A p)) fun j _=>by simp only[go_sem]
 have e2:=uk (b:=1) (m:=m.aa.length) (k:=k) (L:=fun p=>(A p).length) (by omega)
 simp only[mh,aX,go_sem,e1,e2,Bool.true_and]
theorem Se{m:cC}(h:m.ok)(np:m.aa.length≤6)(nr:m.roads.length≤10)(z0 z2 z3 z5 z6 z7 z8 z9 z10 z11 z12 z16 z17 z18 z19 z20 z21 z22:D):
 exS bL K.BW ⟨[z0,.bp 0 0,z2,z3,.ref 7 0 m.aa.length,z5,z6,z7,z8,z9,z10,z11,z12,.t (.sl (m.roads.map Road.e)),I m.roads.length,I 0,z16,z17,z18,z19,z20,z21,z22],mh m (fun _=>[]) []⟩=
  some (.exit 0,⟨[.und,.bp 0 0,.und,.und,.ref 7 0 m.aa.length,.und,.und,.und,.und,.und,.und,.und,.und,.t (.sl (m.roads.map Road.e)),I m.roads.length,I m.roads.length,.und,.und,.und,.und,.und,.und,.und],mh m (wm m.roads m.roads.length) []⟩):=by
 refine cT (fun j=>⟨[.und,.bp 0 0,.und,.und,.ref 7 0 m.aa.length,.und,.und,.und,.und,.und,.und,.und,.und,.t (.sl (m.roads.map Road.e)),I m.roads.length,I j,.und,.und,.und,.und,.und,.und,.und],mh m (wm m.roads j) []⟩) m.roads.length ?_ ?_ ?_ (by simp)
 · have:wm m.roads 0=fun _=>[]:=by funext p;rfl
   simp only[go_sem,this,Int.natCast_zero]
 · intro j hj
   have g1:(m.roads.map Road.e)[j]?=some (nth m.roads j).e:=aQ _ hj
   have jl:(j:Int)<m.roads.length:=by omega
   have ro:=h.rs _ (ak hj)
   have ll:=Ee m.roads j
   have nx:∀p,wm m.roads (j+1) p=wm m.roads j p++if(nth m.roads j).closed=true then []else if(nth m.roads j).frm=p then [(nth m.roads j).to]else if(nth m.roads j).to=p then [(nth m.roads j).frm]else []:=fun p=>rfl
   obtain⟨f,hf⟩:=Int.eq_ofNat_of_zero_le ro.f0
   obtain⟨t,ht⟩:=Int.eq_ofNat_of_zero_le ro.t0
   have f1:=ro.f1
   have t1:=ro.t1
   have ne:=ro.ne
   generalize wm m.roads (j+1)=A1 at*
   generalize wm m.roads j=A at*
   clear ro
   generalize nth m.roads j=x at*
   obtain⟨x1,x2,x3,x4,x5,x6,x7,x8,x9,x10⟩:=x
   simp only at hf ht f1 t1 ne nx
   subst hf ht
   have f1:f<m.aa.length:=by omega
   have t1:t<m.aa.length:=by omega
   have ft:¬t=f:=by omega
   have po:=fun(B:Nat→List Int) (S:af)=>wo np B S (k:=8) (by omega)
   obtain⟨aa,roads⟩:=m
   simp only[mh,aX]at*
   cases x6 with
   | true=>
     have e:A1=A:=by
      funext p;rw[nx];simp
     rw[e]
     simp(disch:=omega)only[go_sem,K.qB,↓reduceIte,g1,jl,po,ib,mY,px,mX,List.append_assoc,reduceAdd,reduceSub]
   | false=>
     have a1:A f++[(t:Int)]=nV A f (A f++[(t:Int)]) f:=by simp[nV]
     have lf:=ll f
     have lt:=ll t
     have e:A1=nV (nV A f (A f++[(t:Int)])) t (nV A f (A f++[(t:Int)]) t++[(f:Int)]):=by
      funext p
      rw[nx]
      unfold nV
      by_cases e1:p=t
      · subst e1
        simp only[aLt,if_false,if_true,ft]
        rw[if_neg (by omega)]
      · simp only[aLt,if_false,e1]
        by_cases e2:p=f
        · subst e2;simp
        · rw[if_neg (by omega),if_neg (by omega),if_neg e2,List.append_nil]
     rw[e]
     have lt2:(nV A f (A f++[(t:Int)]) t).length≤10:=by
      unfold nV;rw[if_neg ft];omega
     have u1:nV (fun p=>(A p).length) f ((A f).length+1)=fun p=>(nV A f (A f++[(t:Int)]) p).length:=HF rfl
     have u2:nV (fun p=>(nV A f (A f++[(t:Int)]) p).length) t ((nV A f (A f++[(t:Int)]) t).length+1)=fun p=>(nV (nV A f (A f++[(t:Int)])) t (nV A f (A f++[(t:Int)]) t++[(f:Int)]) p).length:=HF rfl
     have o1:∀B:Nat→List Int,cf 8 (bl 1 6 pF fun p=>iz (B p))=true:=fun B=>Ed fun j _=>by simp only[go_sem]
     have o2:∀L:Nat→Nat,eW 8 8 (refs 1 aa.length L)=true:=fun L=>uk (by omega)
     simp(disch:=omega)only[go_sem,K.qB,↓reduceIte,g1,jl,po,ib,mY,B3,px,Sc,mX,List.append_assoc,CT,rT,HE,Nl,u1,u2,o1,o2,HG,reduceAdd,reduceSub]
 · simp only[mh,aX]
   simp(disch:=omega)only[go_sem,K.qB,↓reduceIte,reduceAdd,reduceSub]
def Iw:List Int→Nat
 | []=>0
 | x::r=>(if x<0 then 1 else 0)+Iw r
theorem Sf:∀l:List Int,Iw l≤l.length
 | []=>aLs _
 | x::r=>by
   have:=Sf r
   simp only[Iw,List.length_cons];split<;>omega
theorem Nn:∀(l:List Int) (q:Nat) (n:Int),q<l.length→nth l q<0→0≤n→Iw (l.set q n)+1=Iw l
 | [],q,n,h,_,_=>by simp at h
 | x::r,0,n,_,h,h0=>by
   have h:x<0:=h
   simp only[List.set_cons_zero,Iw]
   rw[if_pos h,if_neg (by omega)];omega
 | x::r,q+1,n,hq,h,h0=>by
   have h:nth r q<0:=h
   have:=Nn r q n (by simpa using hq) h h0
   simp only[List.set_cons_succ,Iw];omega
structure aeF(N:Nat→List Int)(np:Nat):Prop where
 r:∀p,p<np→∀q∈N p,0≤q∧q<np∧q≠p∧(p:Int)∈N q.toNat
 l:∀p,(N p).length≤1000
theorem abp{m:cC}(h:m.ok):aeF (wm m.roads m.roads.length) m.aa.length:=by
 refine⟨fun p hp q hq=>?_,fun p=>by have:=Ee m.roads m.roads.length p;have:=h.nr;omega⟩
 obtain⟨k,hk,hc,hh⟩:=(sY m.roads p q _).1 hq
 have ro:=h.rs _ (ak hk)
 have f0:=ro.f0;have f1:=ro.f1;have t0:=ro.t0;have t1:=ro.t1;have ne:=ro.ne
 rcases hh with⟨h1,h2⟩ | ⟨h1,h2,h3⟩
 · refine⟨by omega,by omega,by omega,?_⟩
   rw[sY]
   exact⟨k,hk,hc,.inr ⟨by omega,by omega,by omega⟩⟩
 · refine⟨by omega,by omega,by omega,?_⟩
   rw[sY]
   exact⟨k,hk,hc,.inl ⟨by omega,by omega⟩⟩
structure WJ(N:Nat→List Int)(np:Nat)(n:Int)(of:List Int)(todo:List Int)(ex:Nat→Prop):Prop where
 len:of.length=np
 bd:∀k,k<np→ -1≤nth of k∧nth of k≤n
 td:∀x∈todo,0≤x∧x<np∧nth of x.toNat=n
 cl:∀p,p<np→0≤nth of p→ex p∨(p:Int)∈todo∨∀q∈N p,nth of q.toNat=nth of p
theorem WJ.old{N:Nat→List Int}{np:Nat}{n:Int}{of todo:List Int}{p:Nat}(hN:aeF N np)(h:WJ N np n of todo (fun x=>x=p))(hp:p<np)(pn:nth of p=n){q:Int}(hq:q∈N p)(h0:0≤nth of q.toNat):nth of q.toNat=n:=by
 obtain⟨q0,q1,q2,q3⟩:=hN.r p hp q hq
 rcases h.cl q.toNat (by omega) h0 with h1 | h1 | h1
 · omega
 · have:=(h.td _ h1).2.2
   rwa [show((q.toNat:Nat):Int).toNat=q.toNat by omega]at this
 · have:=h1 _ q3
   rw[show((p:Nat):Int).toNat=p by omega]at this
   omega
theorem WJ.add{N:Nat→List Int}{np:Nat}{n:Int}{of todo:List Int}{ex:Nat→Prop}(hN:aeF N np)(h:WJ N np n of todo ex)(n0:0≤n){q:Int}(q0:0≤q)(q1:q<np)(hq:nth of q.toNat<0):WJ N np n (of.set q.toNat n) (todo++[q]) ex:=by
 have len:=h.len
 refine⟨by simp[len],fun k hk=>?_,fun x hx=>?_,fun p hp h0=>?_⟩
 · rw[bM _ _ (by omega)]
   split
   · omega
   · exact h.bd k hk
 · rcases List.mem_append.1 hx with hx | hx
   · obtain⟨a,b,c⟩:=h.td x hx
     refine⟨a,b,?_⟩
     rw[bM _ _ (by omega)]
     split
     · rfl
     · exact c
   · rw[List.mem_singleton.1 hx]
     refine⟨q0,q1,?_⟩
     rw[bM _ _ (by omega),if_pos rfl]
 · rw[bM _ _ (by omega)]at h0
   by_cases e:p=q.toNat
   · exact .inr (.inl (List.mem_append.2 (.inr (by rw[List.mem_singleton];omega))))
   · rw[if_neg e]at h0
     rcases h.cl p hp h0 with h1 | h1 | h1
     · exact .inl h1
     · exact .inr (.inl (List.mem_append.2 (.inl h1)))
     · refine .inr (.inr fun y hy=>?_)
       have hy1:=h1 y hy
       obtain⟨y0,y1, -, -⟩:=hN.r p hp y hy
       have:y.toNat≠q.toNat:=fun e2=>by rw[e2]at hy1;omega
       rw[bM _ _ (by omega),if_neg this,bM _ _ (by omega),if_neg e]
       exact hy1
abbrev ptV(np n i:Int):List D:=[.und,.und,.und,.und,.ref 7 0 np.toNat,.und,.ref 8 0 np.toNat,.und,I n,.und,.und,.und,.und,.und,.und,.und,.und,.und,I np,I i,.und,.und,.und]
abbrev abq(np n i:Int)(ep tl:Nat):List D:=[.und,.und,.und,.und,.ref 7 0 np.toNat,.und,.ref 8 0 np.toNat,.und,I n,.und,.ref 9 ep tl,.und,.und,.und,.und,.und,.und,.und,I np,I i,.und,.und,.und]
abbrev TA(np n i:Int)(ep tl p L j:Nat):List D:=[.und,.und,.und,.und,.ref 7 0 np.toNat,.und,.ref 8 0 np.toNat,.und,I n,.und,.ref 9 ep tl,.und,.und,.und,.und,.und,.und,.und,I np,I i,.ref (p+1) 0 L,I L,I j]
theorem abr{m:cC}{N:Nat→List Int}(np6:m.aa.length≤6)(hN:aeF N m.aa.length){n i:Int}(n0:0≤n)(n1:n≤100){p:Nat}(hp:p<m.aa.length){of todo:List Int}{ep:Nat}(h:WJ N m.aa.length n of todo (fun x=>x=p))(pn:nth of p=n)(hm:2*Iw of+todo.length≤100)
 (z0 z1 z2 z3 z5 z7 z9 z11 z12 z13 z14 z15 z16 z17:D):
 ∃q,exS bL K.BZ ⟨[z0,z1,z2,z3,.ref 7 0 m.aa.length,z5,.ref 8 0 m.aa.length,z7,I n,z9,.ref 9 ep todo.length,z11,z12,z13,z14,z15,z16,z17,I m.aa.length,I i,.ref (p+1) 0 (N p).length,I (N p).length,I 0],mh m N [arI of,.arr 1 false ep (iz todo)]⟩=some q∧
  ∃of2 todo2:List Int,q=(.exit 8,⟨TA m.aa.length n i ep todo2.length p (N p).length (N p).length,mh m N [arI of2,.arr 1 false ep (iz todo2)]⟩)∧WJ N m.aa.length n of2 todo2 (fun _=>False)∧2*Iw of2+todo2.length≤2*Iw of+todo.length∧∀k,0≤nth of k→nth of2 k=nth of k:=by
 have po:=fun(S:af)=>wo np6 N S (k:=10) (by omega)
 have pz:(m.aa.length:Int).toNat=m.aa.length:=by omega
 have key:=ig (vs:=[z0,z1,z2,z3,.ref 7 0 m.aa.length,z5,.ref 8 0 m.aa.length,z7,I n,z9,.ref 9 ep todo.length,z11,z12,z13,z14,z15,z16,z17,I m.aa.length,I i,.ref (p+1) 0 (N p).length,I (N p).length,I 0]) (H:=mh m N [arI of,.arr 1 false ep (iz todo)]) (c:=K.oH) (gc:=true) (dead:=[0,1,2,3,5,7,9,11,12,13,14,15,16,17])
  (fun j st=>∃of2 todo2:List Int,st=⟨TA m.aa.length n i ep todo2.length p (N p).length j,mh m N [arI of2,.arr 1 false ep (iz todo2)]⟩∧WJ N m.aa.length n of2 todo2 (fun x=>x=p)∧2*Iw of2+todo2.length≤2*Iw of+todo.length∧(∀k,0≤nth of k→nth of2 k=nth of k)∧∀y,y<j→nth of2 (nth (N p) y).toNat=n) (N p).length
  (fun q=>∃of2 todo2:List Int,q=(.exit 8,⟨TA m.aa.length n i ep todo2.length p (N p).length (N p).length,mh m N [arI of2,.arr 1 false ep (iz todo2)]⟩)∧WJ N m.aa.length n of2 todo2 (fun _=>False)∧2*Iw of2+todo2.length≤2*Iw of+todo.length∧∀k,0≤nth of k→nth of2 k=nth of k)
  ⟨of,todo,by simp only[TA,go_sem,pz,Int.natCast_zero],h,aLs _,fun k _=>rfl,fun y hy=>by omega⟩ ?_ ?_
 · obtain⟨q,hq,r⟩:=key
   exact⟨q,hq,r⟩
 · rintro j _ hj ⟨of2,todo2,rfl,w,ms,mo,dn⟩
   have hy:nth (N p) j∈N p:=ak hj
   obtain⟨y0,y1,y2,y3⟩:=hN.r p hp _ hy
   have len:=w.len
   have nl:=hN.l p
   have gy:(iz (N p))[j]?=some (I (nth (N p) j)):=cE _ _ hj
   have go:(iz of2)[(nth (N p) j).toNat]?=some (I (nth of2 (nth (N p) j).toNat)):=cE _ _ (by omega)
   have yt:((nth (N p) j).toNat:Int)=nth (N p) j:=by omega
   have jl:(j:Int)<(N p).length:=by omega
   have bl1:=B3 (sz:=1) (c:=6) (pn:=pF) (A:=fun p=>iz (N p)) (S:=[.arr 1 false 0 (refs 1 m.aa.length fun p=>(N p).length),arI of2,.arr 1 false ep (iz todo2)]) (i:=p) (by omega)
   have bd2:=w.bd (nth (N p) j).toNat (by omega)
   have tl2:todo2.length≤100:=by omega
   have lb:ltB p 9=true:=by rw[qc,decide_eq_true_eq];omega
   by_cases c:nth of2 (nth (N p) j).toNat<0
   · have ng:=Nn of2 (nth (N p) j).toNat n (by omega) c n0
     refine⟨⟨TA m.aa.length n i ep (todo2++[nth (N p) j]).length p (N p).length (j+1),mh m N [arI (of2.set (nth (N p) j).toNat n),.arr 1 false ep (iz (todo2++[nth (N p) j]))]⟩,?_,_,_,rfl,w.add hN n0 y0 y1 c,by simp;omega,fun k hk=>?_,fun y hy=>?_⟩
     · clear dn mo w ms
       generalize nth of2 (nth (N p) j).toNat=v at*
       generalize nth (N p) j=y at*
       obtain⟨y,rfl⟩:=Int.eq_ofNat_of_zero_le y0
       simp only[Int.toNat_natCast]at*
       have nj:((j+1:Nat):Int)=(j:Int)+1:=by omega
       obtain⟨aa,roads⟩:=m
       simp only[mh,aX,TA,pz,arI,List.map_set,aLv,List.length_singleton,nj]at*
       have ta:iz (todo2++[(y:Int)])=iz todo2++[.t (.int .i64 y)]:=(Ef _ _).symm
       rw[ta]
       simp(disch:=omega)only[go_sem,K.oH,↓reduceIte,gy,go,jl,c,lb,bl1,po,ib,mY,px,mX,reduceAdd,reduceSub]
     · rw[bM _ _ (by omega)]
       split
       · rename_i e;subst e;have:=mo _ hk;omega
       · exact mo k hk
     · rw[bM _ _ (by omega)]
       split
       · rfl
       · rename_i e
         have:y≠j:=fun e2=>e (by rw[e2])
         exact dn y (by omega)
   · have en:=w.old hN hp (by rw[mo p (by omega)];exact pn) hy (by omega)
     refine⟨⟨TA m.aa.length n i ep todo2.length p (N p).length (j+1),mh m N [arI of2,.arr 1 false ep (iz todo2)]⟩,?_,_,_,rfl,w,ms,mo,fun y hy=>?_⟩
     · clear dn mo w ms en
       generalize nth of2 (nth (N p) j).toNat=v at*
       generalize nth (N p) j=y at*
       obtain⟨y,rfl⟩:=Int.eq_ofNat_of_zero_le y0
       simp only[Int.toNat_natCast]at*
       have nj:((j+1:Nat):Int)=(j:Int)+1:=by omega
       obtain⟨aa,roads⟩:=m
       simp only[mh,aX,TA,pz,arI,nj]at*
       simp(disch:=omega)only[go_sem,K.oH,↓reduceIte,gy,go,jl,c,lb,bl1,po,ib,mY,px,mX,reduceAdd,reduceSub]
     · by_cases e:y=j
       · subst e;exact en
       · exact dn y (by omega)
 · rintro _ ⟨of2,todo2,rfl,w,ms,mo,dn⟩
   refine⟨_,?_,by simp,of2,todo2,rfl,⟨w.len,w.bd,w.td,fun x hx h0=>?_⟩,ms,mo⟩
   · simp only[TA]
     simp(disch:=omega)only[go_sem,K.oH,↓reduceIte,reduceAdd,reduceSub]
   · rcases w.cl x hx h0 with e | e | e
     · subst e
       refine .inr (.inr fun q hq=>?_)
       obtain⟨y,hy,rfl⟩:=List.getElem_of_mem hq
       have e:(N x)[y]=nth (N x) y:=(qo (aLc hy)).symm
       rw[e,dn y hy,mo x (by omega),pn]
     · exact .inr (.inl e)
     · exact .inr (.inr e)
end Go.Ev
namespace Go.Ev
open Go
section
def Sg(H:af)(x hi:Option D):Option (D×af):=x.bind fun a=>(hi.bind intOf).bind fun h=>aeK H a h
def Si(H:af)(id ep n:Nat)(i:Int):Option Obj→Option (D×af)
 | some (.arr sz false ep' es)=>if ep=ep'∧n=es.length∧0≤i∧i≤n then some (.ref id (ep+1) i.toNat,H.set id (.arr sz false (ep+1) (es.take i.toNat)))else none
 | _=>none
@[go_sem] theorem anX (call : aU) (get : X → Option D) (H : af) (x hi : X) : evO call get H (.pop x hi) = Sg H (get x) (get hi) := (rfl)
@[go_sem] theorem aeG (H : af) (k : IntKind) (id ep n : Nat) (i : Int) : Sg H (some (.ref id ep n)) (some (.t (.int k i))) = Si H id ep n i H[id]? := by
 have b:intOf (.t (.int k i))=some i:=rfl
 simp only[Sg,aLq,b,aeK,idx]
 cases hH:H[id]? with
 | none=>split<;>simp[Si,fV,hH]
 | some o=>
   cases o with
   | box cs=>split<;>simp[Si,fV,hH]
   | own e=>split<;>simp[Si,fV,hH]
   | arr sz pin ep' es=>
     cases pin with
     | true=>
       by_cases h0:0≤i
       · rw[if_pos h0]
         by_cases h1:ep=ep'∧n=es.length<;>simp[Si,fV,hH,h1]
       · rw[if_neg h0];simp[Si]
     | false=>
       by_cases h0:0≤i
       · rw[if_pos h0]
         by_cases h1:ep=ep'∧n=es.length
         · obtain⟨rfl,rfl⟩:=h1
           by_cases h2:i≤es.length
           · have:i.toNat≤es.length:=by omega
             simp[Si,fV,hH,h0,h2,this]
           · have:¬i.toNat≤es.length:=by omega
             simp[Si,fV,hH,h0,h2,this]
         · simp only[Si,fV,hH]
           have h1':¬(ep=ep'∧n=es.length∧0≤i∧i≤(n:Int)):=fun x=>h1 ⟨x.1,x.2.1⟩
           rw[if_neg h1,if_neg h1']
           rfl
       · rw[if_neg h0]
         simp only[Si,Option.bind_none]
         rw[if_neg (fun x=>h0 x.2.2.1)]
@[go_sem] theorem ak0 (H : af) (id sz ep ep' n : Nat) (i : Int) (es : List D) : Si H id ep n i (some (.arr sz false ep' es)) = if ep = ep' ∧ n = es.length ∧ 0 ≤ i ∧ i ≤ n then some (.ref id (ep + 1) i.toNat, H.set id (.arr sz false (ep + 1) (es.take i.toNat))) else none := (rfl)
end
variable [Lib] [cr] [bZ] [eM] [dT] [gK] [dJ] [dV] [fN] [fy] [jK]
theorem abt{m:cC}{N:Nat→List Int}(np6:m.aa.length≤6)(hN:aeF N m.aa.length){n i:Int}(n0:0≤n)(n1:n≤100){of todo:List Int}(h:WJ N m.aa.length n of todo (fun _=>False))(hm:2*Iw of+todo.length≤100)
 (z0 z1 z2 z3 z5 z7 z9 z11 z12 z13 z14 z15 z16 z17 z20 z21 z22:D):
 ∃q,exS bL K.B0 ⟨[z0,z1,z2,z3,.ref 7 0 m.aa.length,z5,.ref 8 0 m.aa.length,z7,I n,z9,.ref 9 0 todo.length,z11,z12,z13,z14,z15,z16,z17,I m.aa.length,I i,z20,z21,z22],mh m N [arI of,.arr 1 false 0 (iz todo)]⟩=some q∧
  ∃(of2:List Int) (ep:Nat),q=(.exit 6,⟨abq m.aa.length n i ep 0,mh m N [arI of2,.arr 1 false ep []]⟩)∧WJ N m.aa.length n of2 [] (fun _=>False)∧∀k,0≤nth of k→nth of2 k=nth of k:=by
 have pz:(m.aa.length:Int).toNat=m.aa.length:=by omega
 refine sq (fun M st=>∃(of2 todo2:List Int) (ep:Nat),st=⟨abq m.aa.length n i ep todo2.length,mh m N [arI of2,.arr 1 false ep (iz todo2)]⟩∧WJ N m.aa.length n of2 todo2 (fun _=>False)∧M=2*Iw of2+todo2.length∧M≤100∧∀k,0≤nth of k→nth of2 k=nth of k) (2*Iw of+todo.length) _
  ⟨of,todo,0,by simp only[abq,go_sem,pz],h,rfl,hm,fun k _=>rfl⟩ ?_
 rintro M _ ⟨of2,todo2,ep,rfl,w,rfl,hM,mo⟩
 rcases List.eq_nil_or_concat todo2 with rfl | ⟨r,x,rfl⟩
 · refine .inr ⟨_,?_,by simp,of2,ep,rfl,w,mo⟩
   simp only[abq,List.length_nil]
   simp(disch:=omega)only[go_sem,K.uc,↓reduceIte,reduceAdd,reduceSub]
   rfl
 · left
   rw[List.concat_eq_append]at*
   obtain⟨x0,x1,x2⟩:=w.td x (by simp)
   obtain⟨p,rfl⟩:=Int.eq_ofNat_of_zero_le x0
   simp only[Int.toNat_natCast]at x2
   have hp:p<m.aa.length:=by omega
   have w2:WJ N m.aa.length n of2 r (fun y=>y=p):=by
    refine⟨w.len,w.bd,fun y hy=>w.td y (List.mem_append_left _ hy),fun y hy h0=>?_⟩
    rcases w.cl y hy h0 with e | e | e
    · exact e.elim
    · rcases List.mem_append.1 e with e | e
      · exact .inr (.inl e)
      · have:=List.mem_singleton.1 e
        exact .inl (by omega)
    · exact .inr (.inr e)
   rw[aLv,List.length_singleton]at hM
   have k5:=fun z0 z1 z2 z3 z5 z7 z9 z11 z12 z13 z14 z15 z16 z17=>abr np6 hN (i:=i) n0 n1 hp (ep:=ep+1) w2 x2 (by omega) z0 z1 z2 z3 z5 z7 z9 z11 z12 z13 z14 z15 z16 z17
   obtain⟨q,hq,of3,todo3,rfl,w3,m3,mo3⟩:=k5 .und .und .und .und .und .und .und (I p) .und .und .und .und .und .und
   have w3m:=m3
   refine⟨⟨abq m.aa.length n i (ep+1) todo3.length,mh m N [arI of3,.arr 1 false (ep+1) (iz todo3)]⟩,2*Iw of3+todo3.length,by simp only[aLv,List.length_singleton];omega,?_,of3,todo3,ep+1,rfl,w3,rfl,by omega,fun k hk=>?_⟩
   · have gx:(iz r++[(D.t (.int .i64 (p:Int)))])[r.length]?=some (I p):=by simp
     have po:=fun(S:af)=>wo np6 N S (k:=10) (by omega)
     have ta:iz (r++[(p:Int)])=iz r++[D.t (.int .i64 p)]:=(Ef _ _).symm
     have tk:(iz r++[(D.t (.int .i64 (p:Int)))]).take r.length=iz r:=by simp
     have tl:((r.length:Int)+1-1)=r.length:=by omega
     have rl:r.length≤100:=by omega
     have dl:(iz r).length=r.length:=by simp
     have dl2:(iz r++[(D.t (.int .i64 (p:Int)))]).length=r.length+1:=by simp
     have gt:(r.length:Int)+1>0:=by omega
     have c1:(0:Int)≤r.length:=by omega
     have c2:(r.length:Int)≤((r.length+1:Nat):Int):=by omega
     clear w w2 w3 mo mo3 k5
     obtain⟨aa,roads⟩:=m
     simp only[mh,aX,abq,TA,pz,arI,ta,aLv,List.length_singleton]at*
     simp(disch:=omega)only[go_sem,K.uc,↓reduceIte,gx,hq,tk,tl,gt,dl2,c1,c2,and_self,and_true,po,ib,mY,px,mX,CT,rT,reduceAdd,reduceSub]
   · rw[mo3 k (by have:=mo k hk;omega)];exact mo k hk
end Go.Ev
namespace Go.Ev
open Go
variable [Lib] [cr] [bZ] [eM] [dT] [gK] [dJ] [dV] [fN] [fy] [jK]
structure OJ(N:Nat→List Int)(np:Nat)(n:Int)(of:List Int)(i:Nat):Prop where
 len:of.length=np
 bd:∀k,k<np→ -1≤nth of k∧nth of k<n
 n0:0≤n
 n1:n≤i
 cl:∀p,p<np→0≤nth of p→∀q∈N p,nth of q.toNat=nth of p
 fst:∀k,k<i→0≤nth of k
theorem abu{m:cC}{N:Nat→List Int}(np6:m.aa.length≤6)(hN:aeF N m.aa.length){of:List Int}(h:OJ N m.aa.length 0 of 0)
 (z0 z1 z2 z3 z5 z7 z9 z10 z11 z12 z13 z14 z15 z16 z17 z20 z21 z22:D):
 ∃q,exS bL K.B1 ⟨[z0,z1,z2,z3,.ref 7 0 m.aa.length,z5,.ref 8 0 m.aa.length,z7,I 0,z9,z10,z11,z12,z13,z14,z15,z16,z17,I m.aa.length,I 0,z20,z21,z22],mh m N [arI of]⟩=some q∧
  ∃(of2:List Int) (n:Int),q=(.exit 4,⟨ptV m.aa.length n m.aa.length,mh m N [arI of2]⟩)∧OJ N m.aa.length n of2 m.aa.length:=by
 have pz:(m.aa.length:Int).toNat=m.aa.length:=by omega
 refine ig (fun j st=>∃(of2:List Int) (n:Int),st=⟨ptV m.aa.length n j,mh m N [arI of2]⟩∧OJ N m.aa.length n of2 j) m.aa.length _
  ⟨of,0,by simp only[ptV,go_sem,pz,Int.natCast_zero],h⟩ ?_ ?_
 · rintro j _ hj ⟨of2,n,rfl,w⟩
   have len:=w.len
   have n0:=w.n0
   have n1:=w.n1
   have go:(iz of2)[j]?=some (I (nth of2 j)):=cE _ _ (by omega)
   have jl:(j:Int)<m.aa.length:=by omega
   have po:=fun(S:af)=>wo np6 N S (k:=9) (by omega)
   have nj:((j+1:Nat):Int)=(j:Int)+1:=by omega
   by_cases c:nth of2 j≥0
   · refine⟨⟨ptV m.aa.length n (j+1:Nat),mh m N [arI of2]⟩,?_,of2,n,rfl,⟨len,w.bd,n0,by omega,w.cl,fun k hk=>?_⟩⟩
     · clear w
       generalize nth of2 j=v at*
       obtain⟨aa,roads⟩:=m
       simp only[mh,aX,ptV,pz,arI,nj]at*
       simp(disch:=omega)only[go_sem,K.qC,↓reduceIte,go,jl,c,po,ib,mY,px,mX,reduceAdd,reduceSub]
     · by_cases e:k=j
       · subst e;exact c
       · exact w.fst k (by omega)
   · have w2:WJ N m.aa.length n (of2.set j n) [(j:Int)] (fun _=>False):=by
      refine⟨by simp[len],fun k hk=>?_,fun x hx=>?_,fun p hp h0=>?_⟩
      · rw[bM _ _ (by omega)]
        split
        · omega
        · have:=w.bd k hk;omega
      · rw[List.mem_singleton.1 hx]
        refine⟨by omega,by omega,?_⟩
        rw[Int.toNat_natCast,bM _ _ (by omega),if_pos rfl]
      · rw[bM _ _ (by omega)]at h0
        by_cases e:p=j
        · subst e;exact .inr (.inl (by simp))
        · rw[if_neg e]at h0
          refine .inr (.inr fun q hq=>?_)
          have hq1:=w.cl p hp h0 q hq
          have:q.toNat≠j:=fun e2=>by rw[e2]at hq1;omega
          rw[bM _ _ (by omega),if_neg this,bM _ _ (by omega),if_neg e]
          exact hq1
     have ng:=Sf (of2.set j n)
     rw[List.length_set]at ng
     have k4:=fun z7 z9=>abt np6 hN (i:=(j:Int)) n0 (by omega) w2 (by simp only[List.length_singleton];omega) .und .und .und .und .und z7 z9 .und .und .und .und .und .und .und .und .und .und
     obtain⟨q,hq,of3,ep,rfl,w3,mo⟩:=k4 .und (I j)
     refine⟨⟨ptV m.aa.length (n+1) (j+1:Nat),mh m N [arI of3]⟩,?_,of3,n+1,rfl,⟨w3.len,fun k hk=>by have:=w3.bd k hk;omega,by omega,by omega,fun p hp h0 x hx=>?_,fun k hk=>?_⟩⟩
     · have jn:j≤6:=by omega
       have e1:iz [(j:Int)]=[.t (.int .i64 j)]:=rfl
       rw[e1]at hq
       clear w w2 w3 mo k4
       generalize nth of2 j=v at*
       obtain⟨aa,roads⟩:=m
       simp only[mh,aX,ptV,abq,pz,arI,nj,List.length_singleton]at*
       simp(disch:=omega)only[go_sem,K.qC,↓reduceIte,go,jl,c,hq,po,ib,mY,px,mX,List.append_assoc,List.cons_append,List.nil_append,reduceAdd,reduceSub]
     · rcases w3.cl p hp h0 with e | e | e
       · exact e.elim
       · simp at e
       · exact e x hx
     · by_cases e:k=j
       · subst e
         have:nth (of2.set k n) k=n:=by rw[bM _ _ (by omega),if_pos rfl]
         rw[mo k (by omega)];omega
       · have h1:=w.fst k (by omega)
         have:nth (of2.set j n) k=nth of2 k:=by rw[bM _ _ (by omega),if_neg e]
         rw[mo k (by omega)];omega
 · rintro _ ⟨of2,n,rfl,w⟩
   refine⟨_,?_,by simp,of2,n,rfl,w⟩
   simp only[ptV]
   simp(disch:=omega)only[go_sem,K.qC,↓reduceIte,reduceAdd,reduceSub]
theorem abv{m:cC}{N:Nat→List Int}(np6:m.aa.length≤6)(z0 z1 z2 z3 z5 z7 z8 z9 z10 z11 z12 z13 z14 z15 z18 z19 z20 z21 z22:D):
 ∃q,exS bL K.BX ⟨[z0,z1,z2,z3,.ref 7 0 m.aa.length,z5,.ref 8 0 m.aa.length,z7,z8,z9,z10,z11,z12,z13,z14,z15,I m.aa.length,I 0,z18,z19,z20,z21,z22],mh m N [arI (q9 m.aa.length)]⟩=some q∧
  ∃of:List Int,q=(.exit 2,⟨[.und,.und,.und,.und,.ref 7 0 m.aa.length,.und,.ref 8 0 m.aa.length,.und,.und,.und,.und,.und,.und,.und,.und,.und,I m.aa.length,I m.aa.length,.und,.und,.und,.und,.und],mh m N [arI of]⟩)∧of.length=m.aa.length∧∀k,k<m.aa.length→nth of k= -1:=by
 refine ig (fun j st=>∃of:List Int,st=⟨[.und,.und,.und,.und,.ref 7 0 m.aa.length,.und,.ref 8 0 m.aa.length,.und,.und,.und,.und,.und,.und,.und,.und,.und,I m.aa.length,I j,.und,.und,.und,.und,.und],mh m N [arI of]⟩∧of.length=m.aa.length∧∀k,k<j→nth of k= -1) m.aa.length _
  ⟨q9 m.aa.length,by simp only[go_sem,Int.natCast_zero],by simp,fun k hk=>by omega⟩ ?_ ?_
 · rintro j _ hj ⟨of,rfl,len,ne⟩
   have jl:(j:Int)<m.aa.length:=by omega
   have nj:((j+1:Nat):Int)=(j:Int)+1:=by omega
   have po:=fun(S:af)=>wo np6 N S (k:=9) (by omega)
   have go:(iz of)[j]?=some (I (nth of j)):=cE _ _ (by omega)
   refine⟨⟨[.und,.und,.und,.und,.ref 7 0 m.aa.length,.und,.ref 8 0 m.aa.length,.und,.und,.und,.und,.und,.und,.und,.und,.und,I m.aa.length,I (j+1:Nat),.und,.und,.und,.und,.und],mh m N [arI (of.set j (-1))]⟩,?_,of.set j (-1),rfl,by simp[len],fun k hk=>?_⟩
   · generalize nth of j=v at*
     obtain⟨aa,roads⟩:=m
     simp only[mh,aX,arI,nj,List.map_set]at*
     simp(disch:=omega)only[go_sem,K.ua,↓reduceIte,go,jl,po,ib,mY,px,mX,reduceAdd,reduceSub]
   · rw[bM _ _ (by omega)]
     split
     · rfl
     · exact ne k (by omega)
 · rintro _ ⟨of,rfl,len,ne⟩
   refine⟨_,?_,by simp,of,rfl,len,ne⟩
   simp(disch:=omega)only[go_sem,K.ua,↓reduceIte,reduceAdd,reduceSub]
theorem ail{m:cC}(h:m.ok)(np6:m.aa.length≤6)(nr:m.roads.length≤10):∃(of:List Int) (n:Int),bL 0 N.mN [.t m.e] []=some (.tup [.t (tL of),I n],[])∧OJ (wm m.roads m.roads.length) m.aa.length n of m.aa.length:=by
 have k1:=fun z0 z2 z3 z5 z6 z7 z8 z9 z10 z11 z12 z16 z17 z18 z19 z20 z21 z22=>Se h np6 nr z0 z2 z3 z5 z6 z7 z8 z9 z10 z11 z12 z16 z17 z18 z19 z20 z21 z22
 have hN:=abp h
 generalize wm m.roads m.roads.length=N at*
 obtain⟨q2,hq2,of2,rfl,l2,n2⟩:=abv (N:=N) np6 .und (.bp 0 0) .und .und .und .und .und .und .und .und .und (.t (.sl (m.roads.map Road.e))) (I m.roads.length) (I m.roads.length) .und .und .und .und .und
 obtain⟨q3,hq3,of3,n3,rfl,w3⟩:=abu (m:=m) (N:=N) np6 hN (of:=of2) ⟨l2,fun k hk=>by rw[n2 k hk];omega,by omega,by omega,fun p hp h0=>by rw[n2 p hp]at h0;omega,fun k hk=>by omega⟩ .und .und .und .und .und .und .und .und .und .und .und .und .und (I m.aa.length) (I m.aa.length) .und .und .und
 refine⟨of3,n3,aI K.yr rfl ?_,w3⟩
 have len:=w3.len
 have b0:(blk 1 6 fun _=>[])=bl 1 6 pF fun p=>iz ((fun _=>([]:List Int)) p):=rfl
 have r0:(refs 1 m.aa.length fun _=>0)=refs 1 m.aa.length fun p=>((fun _=>([]:List Int)) p).length:=rfl
 have pz:(m.aa.length:Int).toNat=m.aa.length:=by omega
 have zr:List.replicate m.aa.length (D.t (.int .i64 0))=((q9 m.aa.length).map (T.int .i64)).map .t:=by simp[q9]
 clear w3 hN h l2 n2
 obtain⟨aa,roads⟩:=m
 simp only[mh,aX,ptV,pz,arI]at*
 simp(disch:=omega)only[go_sem,K.mN,↓reduceIte,b0,r0,zr,k1,hq2,hq3,ib,mY,px,mX,List.cons_append,List.nil_append,List.append_assoc,reduceAdd,reduceSub]
def wq(m:cC):Prop:=∀i:Nat,i<m.aa.length→(nth m.aa i).surf=false→∃k,k<m.roads.length∧(nth m.roads k).closed=false∧
 (((nth m.roads k).frm=i∧(nth m.aa (nth m.roads k).to.toNat).surf=true)∨((nth m.roads k).to=i∧(nth m.aa (nth m.roads k).frm.toNat).surf=true))
theorem OJ.top{m:cC}(h:m.ok)(ht:wq m){n:Int}{of:List Int}(w:OJ (wm m.roads m.roads.length) m.aa.length n of m.aa.length)(i:Nat)(hi:i<m.aa.length):∃s,s<m.aa.length∧(nth m.aa s).surf=true∧nth of s=nth of i:=by
 cases c:(nth m.aa i).surf with
 | true=>exact⟨i,hi,c,rfl⟩
 | false=>
   obtain⟨k,hk,hc,hh⟩:=ht i hi c
   have ro:=h.rs _ (ak hk)
   have f0:=ro.f0;have f1:=ro.f1;have t0:=ro.t0;have t1:=ro.t1;have ne:=ro.ne
   have h0:=w.fst i hi
   rcases hh with⟨a,b⟩ | ⟨a,b⟩
   · exact⟨_,by omega,b,w.cl i hi h0 _ ((sY _ _ _ _).2 ⟨k,hk,hc,.inl ⟨a,rfl⟩⟩)⟩
   · exact⟨_,by omega,b,w.cl i hi h0 _ ((sY _ _ _ _).2 ⟨k,hk,hc,.inr ⟨by omega,a,rfl⟩⟩)⟩
abbrev ri(l:List Bool):List D:=(l.map T.bool).map .t
theorem Sj{m:cC}(h:m.ok)(np6:m.aa.length≤6)(nr:m.roads.length≤10)(ht:wq m):bL 0 N.jo [.t m.e] []=some (.t (.sl []),[]):=by
 refine aI K.ue rfl ?_
 have va:=BG h
 obtain⟨of,n,hp,w⟩:=ail h np6 nr
 have top:=w.top h ht
 have len:=w.len
 have n0:=w.n0
 have n1:=w.n1
 obtain⟨n,rfl⟩:=Int.eq_ofNat_of_zero_le n0
 have bd:∀k,k<m.aa.length→0≤nth of k∧nth of k<n:=fun k hk=>⟨w.fst k hk,(w.bd k hk).2⟩
 have key1:=ig (vs:=[.t m.e,.bp 0 0,.nil,.t (tL of),I n,.ref 1 0 n,.und,.und,.und,.und,.t (.sl (m.aa.map Place.e)),I m.aa.length,I 0,.und,.und]) (H:=[.box (aX m),.arr 1 false 0 (ri (List.replicate n false))]) (c:=K.jI) (gc:=true) (dead:=[0,2,4,6,7,8,9,13,14])
  (fun j st=>∃fr:List Bool,st=⟨[.und,.bp 0 0,.und,.t (tL of),.und,.ref 1 0 n,.und,.und,.und,.und,.t (.sl (m.aa.map Place.e)),I m.aa.length,I j,.und,.und],[.box (aX m),.arr 1 false 0 (ri fr)]⟩∧fr.length=n∧∀k,k<j→(nth m.aa k).surf=true→nth fr (nth of k).toNat=true) m.aa.length
  (fun q=>∃fr:List Bool,q=(.exit 0,⟨[.und,.bp 0 0,.und,.t (tL of),.und,.ref 1 0 n,.und,.und,.und,.und,.t (.sl (m.aa.map Place.e)),I m.aa.length,I m.aa.length,.und,.und],[.box (aX m),.arr 1 false 0 (ri fr)]⟩)∧fr.length=n∧∀k,k<m.aa.length→(nth m.aa k).surf=true→nth fr (nth of k).toNat=true)
  ⟨List.replicate n false,by simp only[go_sem,Int.natCast_zero],by simp,fun k hk=>by omega⟩ ?_ ?_
 · obtain⟨q,hq,fr,rfl,fl,hf⟩:=key1
   rw[show(C.loop true [0,2,4,6,7,8,9,13,14] K.jI)=K.xM from rfl]at hq
   have key2:∀z0 z1 z2 z4 z6 z7 z9 z10 z11 z12:D,exS bL K.xN ⟨[z0,z1,z2,.t (tL of),z4,.ref 1 0 n,z6,z7,.ref 2 0 0,z9,z10,z11,z12,I m.aa.length,I 0],[.box (aX m),.arr 1 false 0 (ri fr),.arr 1 false 0 []]⟩=
    some (.exit 2,⟨[.und,.und,.und,.t (tL of),.und,.ref 1 0 n,.und,.und,.ref 2 0 0,.und,.und,.und,.und,I m.aa.length,I m.aa.length],[.box (aX m),.arr 1 false 0 (ri fr),.arr 1 false 0 []]⟩):=by
    intro z0 z1 z2 z4 z6 z7 z9 z10 z11 z12
    refine cT (fun j=>⟨[.und,.und,.und,.t (tL of),.und,.ref 1 0 n,.und,.und,.ref 2 0 0,.und,.und,.und,.und,I m.aa.length,I j],[.box (aX m),.arr 1 false 0 (ri fr),.arr 1 false 0 []]⟩) m.aa.length rfl ?_ ?_ (by simp)
    · intro j hj
      obtain⟨s,hs,su,e⟩:=top j hj
      have ft:=hf s hs su
      rw[e]at ft
      have b:=bd j hj
      have go:(of.map (T.int .i64))[j]?=some (tI (nth of j)):=aQ _ (by omega)
      have gf:(ri fr)[(nth of j).toNat]?=some (B (nth fr (nth of j).toNat)):=cE _ _ (by omega)
      have jl:(j:Int)<m.aa.length:=by omega
      rw[ft]at gf
      generalize nth of j=v at*
      simp only[aX]
      simp(disch:=omega)only[go_sem,K.qX,↓reduceIte,go,gf,jl,fl,reduceAdd,reduceSub]
    · simp(disch:=omega)only[go_sem,K.qX,↓reduceIte,reduceAdd,reduceSub]
   clear w top hf
   have rb:List.replicate n (D.t (.bool false))=ri (List.replicate n false):=by simp
   obtain⟨aa,roads⟩:=m
   simp only[aX]at*
   simp(disch:=omega)only[go_sem,K.jo,↓reduceIte,va,hp,rb,hq,key2,reduceAdd,reduceSub]
 · rintro j _ hj ⟨fr,rfl,fl,hf⟩
   have b:=bd j hj
   have gp:(m.aa.map Place.e)[j]?=some (nth m.aa j).e:=aQ _ hj
   have go:(of.map (T.int .i64))[j]?=some (tI (nth of j)):=aQ _ (by omega)
   have gf:(ri fr)[(nth of j).toNat]?=some (B (nth fr (nth of j).toNat)):=cE _ _ (by omega)
   have jl:(j:Int)<m.aa.length:=by omega
   have nj:((j+1:Nat):Int)=(j:Int)+1:=by omega
   cases c:(nth m.aa j).surf with
   | true=>
     refine⟨⟨[.und,.bp 0 0,.und,.t (tL of),.und,.ref 1 0 n,.und,.und,.und,.und,.t (.sl (m.aa.map Place.e)),I m.aa.length,I (j+1:Nat),.und,.und],[.box (aX m),.arr 1 false 0 (ri (fr.set (nth of j).toNat true))]⟩,?_,_,rfl,by simp[fl],fun k hk hs=>?_⟩
     · clear hf w top
       generalize nth fr (nth of j).toNat=u at*
       generalize nth of j=v at*
       generalize nth m.aa j=x at*
       obtain⟨x1,x2⟩:=x
       simp only at c
       subst c
       obtain⟨aa,roads⟩:=m
       simp only[aX,List.map_set,nj]at*
       simp(disch:=omega)only[go_sem,K.jI,↓reduceIte,gp,go,gf,jl,fl,reduceAdd,reduceSub]
     · have bk:=bd k (by omega)
       rw[bM _ _ (by omega)]
       split
       · rfl
       · rename_i e
         have:k≠j:=fun e2=>e (by rw[e2])
         exact hf k (by omega) hs
   | false=>
     refine⟨⟨[.und,.bp 0 0,.und,.t (tL of),.und,.ref 1 0 n,.und,.und,.und,.und,.t (.sl (m.aa.map Place.e)),I m.aa.length,I (j+1:Nat),.und,.und],[.box (aX m),.arr 1 false 0 (ri fr)]⟩,?_,_,rfl,fl,fun k hk hs=>?_⟩
     · clear hf w top
       generalize nth m.aa j=x at*
       obtain⟨x1,x2⟩:=x
       simp only at c
       subst c
       obtain⟨aa,roads⟩:=m
       simp only[aX,nj]at*
       simp(disch:=omega)only[go_sem,K.jI,↓reduceIte,gp,jl,reduceAdd,reduceSub]
     · have:k≠j:=fun e2=>by subst e2;rw[c]at hs;cases hs
       exact hf k (by omega) hs
 · rintro _ ⟨fr,rfl,fl,hf⟩
   refine⟨_,?_,by simp,fr,rfl,fl,hf⟩
   simp(disch:=omega)only[go_sem,K.jI,↓reduceIte,reduceAdd,reduceSub]
theorem HH{m:cC}(h:m.ok)(np6:m.aa.length≤6)(nr:m.roads.length≤10)(ht:wq m):bL 0 N.cJ [.t m.e] []=some (.t (.sl ((List.replicate m.aa.length false).map T.bool)),[]):=by
 refine aI K.sk rfl ?_
 have cu:=Sj h np6 nr ht
 have key:∀z0 z1 z2 z4:D,exS bL K.wa ⟨[z0,z1,z2,.ref 1 0 m.aa.length,z4,.t (.sl []),I 0,I 0],[.box (aX m),.arr 1 false 0 (ri (List.replicate m.aa.length false))]⟩=
  some (.exit 0,⟨[.und,.und,.und,.ref 1 0 m.aa.length,.und,.t (.sl []),I 0,I 0],[.box (aX m),.arr 1 false 0 (ri (List.replicate m.aa.length false))]⟩):=by
  intro z0 z1 z2 z4
  refine cT (fun j=>⟨[.und,.und,.und,.ref 1 0 m.aa.length,.und,.t (.sl []),I 0,I 0],[.box (aX m),.arr 1 false 0 (ri (List.replicate m.aa.length false))]⟩) 0 rfl (fun j hj=>by omega) ?_ (by simp)
  simp(disch:=omega)only[go_sem,K.uL,↓reduceIte,reduceAdd,reduceSub]
 have rb:List.replicate m.aa.length (D.t (.bool false))=ri (List.replicate m.aa.length false):=by simp
 obtain⟨aa,roads⟩:=m
 simp only[aX]at*
 simp(disch:=omega)only[go_sem,K.cJ,↓reduceIte,cu,rb,key,reduceAdd,reduceSub]
def jM(ds:List lN)(td:List Int)(n i:Nat):Spn:=
 ⟨eL (fun j=>if(nth ds j).cL=i then(uj (nth ds j) (nth td j)).low else 0) n,eL (fun j=>if(nth ds j).cL=i then(uj (nth ds j) (nth td j)).high else 0) n⟩
theorem zU{A:Air}{tf td:List Int}(h:ny A tf td)(i:Nat):∀n,n≤A.doors.length→0≤(jM A.doors td n i).low∧(jM A.doors td n i).low≤(jM A.doors td n i).high∧(jM A.doors td n i).high≤900*n
 | 0,_=>by simp[jM,eL]
 | n+1,hn=>by
   have ih:=zU h i n (by omega)
   obtain⟨-, -,dr⟩:=h.dor _ (ak (l:=A.doors) (j:=n) (by omega))
   have s:=h.ds n (by omega)
   have b:=Nj dr s.1 s.2
   unfold jM at*
   simp only[eL]at*
   split<;>omega
def tv(fs:List Fan)(tf:List Int):Nat→Nat→List wW
 | 0,_=>[]
 | n+1,i=>tv fs tf n i++if nth tf n=0 then []else if(nth fs n).cL=i then [⟨nth fs n,nth tf n⟩]else []
theorem CU(fs:List Fan)(tf:List Int):∀n i,(tv fs tf n i).length≤n
 | 0,_=>aLs _
 | n+1,i=>by
   have:=CU fs tf n i
   rw[tv,aLv]
   split
   · simp;omega
   split<;>simp<;>omega
theorem No(fs:List Fan)(tf:List Int)(i:Nat)(b:wW):∀n,b∈tv fs tf n i→∃j,j<n∧nth tf j≠0∧(nth fs j).cL=i∧b=⟨nth fs j,nth tf j⟩
 | 0,h=>by simp[tv]at h
 | n+1,h=>by
   rw[tv,List.mem_append]at h
   rcases h with h | h
   · obtain⟨j,hj,r⟩:=No fs tf i b n h
     exact⟨j,by omega,r⟩
   · split at h
     · simp at h
     split at h
     · exact⟨n,by omega,by assumption,by assumption,by simpa using h⟩
     · simp at h
abbrev dSp(l:List Spn):List D:=(l.map Spn.e).map .t
abbrev dBl(l:List wW):List D:=(l.map wW.e).map .t
abbrev mZ(A:Air):Obj:= .box [.t (.sl (A.m.aa.map Place.e)),.t (.sl (A.m.roads.map Road.e)),.t (.sl (A.fans.map Fan.e)),.t (.sl (A.doors.map lN.e))]
abbrev s4(A:Air)(tf td:List Int)(R:List Spn)(pn:Nat→Bool)(F:Nat→List wW)(S:af):af:=
 mZ A:: .box [.t (tL tf),.t (tL td)]:: .box [.nil,.nil]:: .arr 2 false 0 (dSp R)::(bl 5 10 pn (fun i=>dBl (F i))++(.arr 1 false 0 (refs 4 A.m.roads.length fun i=>(F i).length)::S))
theorem Eg{A:Air}{tf td:List Int}{R:List Spn}(nr:A.m.roads.length≤10)(pn:Nat→Bool)(F:Nat→List wW)(S:af){k:Nat}(hk:14≤k):cf k (s4 A tf td R pn F S)=cf k S:=by
 have e1:=Ed (sz:=5) (c:=10) (k:=k) (pn:=pn) (A:=fun p=>dBl (F p)) fun j _=>by simp only[go_sem]
 have e2:=uk (b:=4) (m:=A.m.roads.length) (k:=k) (L:=fun p=>(F p).length) (by omega)
 simp only[s4,mZ,go_sem,e1,e2,Bool.true_and]
theorem um(sz:Nat)(pn:Nat→Bool)(A:Nat→List D)(S:af)(i:Nat):(bl sz 10 pn A++S)[i+10]?=S[i]?:=Nk sz 10 pn A S i
theorem s5(sz:Nat)(pn:Nat→Bool)(A:Nat→List D)(S:af)(i:Nat)(o:Obj):(bl sz 10 pn A++S).set (i+10) o=bl sz 10 pn A++S.set i o:=Sb sz 10 pn A S i o
theorem s6(sz:Nat)(pn:Nat→Bool)(A:Nat→List D)(S:af)(n:Nat):(bl sz 10 pn A++S).take (n+10)=bl sz 10 pn A++S.take n:=Sd sz 10 pn A S n
abbrev abw(A:Air)(j:Int):List D:=[.und,.und,.bp 0 0,.bp 1 0,.bp 2 0,.ref 3 0 A.m.roads.length,.ref 14 0 A.m.roads.length,.und,.und,.und,.und,.und,.und,.und,.und,.und,.t (.sl (A.doors.map lN.e)),I A.doors.length,I j,.und,.und,.und,.und,.und,.und]
theorem abx{A:Air}{tf td:List Int}(h:ny A tf td)(F:Nat→List wW)(z0 z1 z7 z8 z9 z10 z11 z12 z13 z14 z15 z19 z20 z21 z22 z23 z24:D):
 ∃q,exS bL K.wb ⟨[z0,z1,.bp 0 0,.bp 1 0,.bp 2 0,.ref 3 0 A.m.roads.length,.ref 14 0 A.m.roads.length,z7,z8,z9,z10,z11,z12,z13,z14,z15,.t (.sl (A.doors.map lN.e)),I A.doors.length,I 0,z19,z20,z21,z22,z23,z24],s4 A tf td (List.replicate A.m.roads.length ⟨0,0⟩) pF F []⟩=some q∧
  ∃R:List Spn,q=(.exit 0,⟨abw A A.doors.length,s4 A tf td R pF F []⟩)∧R.length=A.m.roads.length∧∀i,i<A.m.roads.length→nth R i=jM A.doors td A.doors.length i:=by
 have dn:=h.dn
 refine ig (fun j st=>∃R:List Spn,st=⟨abw A j,s4 A tf td R pF F []⟩∧R.length=A.m.roads.length∧∀i,i<A.m.roads.length→nth R i=jM A.doors td j i) A.doors.length _
  ⟨List.replicate A.m.roads.length ⟨0,0⟩,by simp only[abw,go_sem,Int.natCast_zero],by simp,fun i hi=>by simp[nth,hi,jM,eL]⟩ ?_ ?_
 · rintro j _ hj ⟨R,rfl,len,eR⟩
   obtain⟨d0,d1,dr⟩:=h.dor _ (ak hj)
   have s:=h.ds j hj
   have dl:=h.dl
   have l0:=dr.l0;have l1:=dr.l1
   have rb:=Nj dr s.1 s.2
   have re:=Vu (nth A.doors j) (by omega) (by omega) s.1 s.2
   have g1:(A.doors.map lN.e)[j]?=some (nth A.doors j).e:=aQ _ hj
   have g2:(td.map (T.int .i64))[j]?=some (tI (nth td j)):=aQ _ (by omega)
   have jl:(j:Int)<A.doors.length:=by omega
   have nj:((j+1:Nat):Int)=(j:Int)+1:=by omega
   obtain⟨r,hr⟩:=Int.eq_ofNat_of_zero_le d0
   have hrl:r<A.m.roads.length:=by omega
   have gR:(dSp R)[r]?=some (.t (nth R r).e):=cE _ _ (by omega)
   have bR:=zU h r j (by omega)
   rw[← eR r hrl]at bR
   have po:=fun(R:List Spn) (S:af)=>Eg (tf:=tf) (td:=td) (R:=R) h.nr pF F S (k:=15) (by omega)
   refine⟨⟨abw A (j+1:Nat),s4 A tf td (R.set r ⟨(nth R r).low+(uj (nth A.doors j) (nth td j)).low,(nth R r).high+(uj (nth A.doors j) (nth td j)).high⟩) pF F []⟩,?_,_,rfl,by simp[len],fun i hi=>?_⟩
   · clear dr eR
     generalize uj (nth A.doors j) (nth td j)=w at*
     generalize nth td j=s' at*
     generalize nth A.doors j=x at*
     generalize nth R r=u at*
     obtain⟨x1,x2,x3⟩:=x
     obtain⟨w1,w2⟩:=w
     obtain⟨u1,u2⟩:=u
     simp only at hr
     subst hr
     have gs:∀v:Spn,nth (R.set r v) r=v:=fun v=>by rw[bM _ _ (by omega),if_pos rfl]
     have ss:∀v w:Spn,(R.set r v).set r w=R.set r w:=fun v w=>List.set_set ..
     clear h
     obtain⟨⟨a1,a2⟩,a3,a4⟩:=A
     simp only[s4,mZ,abw,nj,List.map_set]at*
     simp(disch:=omega)only[go_sem,K.qk,↓reduceIte,g1,g2,jl,re,gR,gs,ss,po,len,ib,s6,um,s5,List.append_assoc,List.cons_append,List.nil_append,reduceAdd,reduceSub]
   · rw[bM _ _ (by omega)]
     have e1:jM A.doors td (j+1) i=⟨(jM A.doors td j i).low+if(nth A.doors j).cL=i then(uj (nth A.doors j) (nth td j)).low else 0,(jM A.doors td j i).high+if(nth A.doors j).cL=i then(uj (nth A.doors j) (nth td j)).high else 0⟩:=rfl
     rw[e1]
     by_cases e:i=r
     · subst e
       rw[if_pos rfl,eR i hi,if_pos hr,if_pos hr]
     · rw[if_neg e,eR i hi,if_neg (by omega),if_neg (by omega)]
       simp
 · rintro _ ⟨R,rfl,len,eR⟩
   refine⟨_,?_,by simp,R,rfl,len,eR⟩
   simp only[abw]
   simp(disch:=omega)only[go_sem,K.qk,↓reduceIte,reduceAdd,reduceSub]
theorem aim{A:Nat→List wW}{i:Nat}{x:wW}:nV (fun p=>dBl (A p)) i (dBl (A i)++[.t x.e])=fun p=>dBl (nV A i (A i++[x]) p):=by
 funext p
 unfold nV
 split
 · simp
 · rfl
theorem Vv{A:Nat→List wW}{i n:Nat}{x:wW}(h:n=(A i).length+1):nV (fun p=>(A p).length) i n=fun p=>(nV A i (A i++[x]) p).length:=by
 funext p
 unfold nV
 split
 · simp[h]
 · rfl
abbrev aby(A:Air)(j:Int):List D:=[.und,.und,.bp 0 0,.bp 1 0,.bp 2 0,.ref 3 0 A.m.roads.length,.ref 14 0 A.m.roads.length,.und,.und,.und,.und,.und,.und,.und,.und,.und,.und,.und,.und,.t (.sl (A.fans.map Fan.e)),I A.fans.length,I j,.und,.und,.und]
@[go_sem] theorem aeH (l : List wW) : oI 5 (l.map wW.e) = true := by cases l <;> rfl
theorem abz{A:Air}{tf td:List Int}(h:ny A tf td)(R:List Spn)(z0 z1 z7 z8 z9 z10 z11 z12 z13 z14 z15 z16 z17 z18 z22 z23 z24:D):
 exS bL K.wc ⟨[z0,z1,.bp 0 0,.bp 1 0,.bp 2 0,.ref 3 0 A.m.roads.length,.ref 14 0 A.m.roads.length,z7,z8,z9,z10,z11,z12,z13,z14,z15,z16,z17,z18,.t (.sl (A.fans.map Fan.e)),I A.fans.length,I 0,z22,z23,z24],s4 A tf td R pF (fun _=>[]) []⟩=
  some (.exit 2,⟨aby A A.fans.length,s4 A tf td R pF (tv A.fans tf A.fans.length) []⟩):=by
 have fn:=h.fn
 refine cT (fun j=>⟨aby A j,s4 A tf td R pF (tv A.fans tf j) []⟩) A.fans.length ?_ ?_ ?_ (by simp)
 · have:tv A.fans tf 0=fun _=>[]:=by funext p;rfl
   simp only[go_sem,aby,this,Int.natCast_zero]
 · intro j hj
   have fo:=h.fo _ (ak hj)
   have fl:=h.fl
   have g1:(A.fans.map Fan.e)[j]?=some (nth A.fans j).e:=aQ _ hj
   have g2:(tf.map (T.int .i64))[j]?=some (tI (nth tf j)):=aQ _ (by omega)
   have jl:(j:Int)<A.fans.length:=by omega
   have nj:((j+1:Nat):Int)=(j:Int)+1:=by omega
   have ll:=CU A.fans tf j
   have nx:∀i,tv A.fans tf (j+1) i=tv A.fans tf j i++if nth tf j=0 then []else if(nth A.fans j).cL=i then [⟨nth A.fans j,nth tf j⟩]else []:=fun _=>rfl
   obtain⟨r,hr⟩:=Int.eq_ofNat_of_zero_le fo.r0
   have r1:=fo.r1
   have hrl:r<A.m.roads.length:=by omega
   have nr:=h.nr
   have po:=fun(F:Nat→List wW) (S:af)=>Eg (tf:=tf) (td:=td) (R:=R) h.nr pF F S (k:=15) (by omega)
   clear fo
   generalize tv A.fans tf (j+1)=F1 at*
   generalize tv A.fans tf j=F at*
   generalize nth tf j=s at*
   generalize nth A.fans j=x at*
   by_cases c:s=0
   · have e:F1=F:=by
      funext i;rw[nx,if_pos c,List.append_nil]
     rw[e]
     obtain⟨x1,x2,x3,x4⟩:=x
     have c':¬s≠0:=by omega
     clear h nx ll
     obtain⟨⟨a1,a2⟩,a3,a4⟩:=A
     simp only[s4,mZ,aby,nj]at*
     simp(disch:=omega)only[go_sem,K.mT,↓reduceIte,g1,g2,jl,c,po,ib,s6,um,s5,List.append_assoc,List.cons_append,List.nil_append,reduceAdd,reduceSub]
   · have e:F1=nV F r (F r++[⟨x,s⟩]):=by
      funext i
      rw[nx,if_neg c]
      unfold nV
      by_cases e:i=r
      · subst e;rw[if_pos hr,if_pos rfl]
      · rw[if_neg (by omega),if_neg e,List.append_nil]
     rw[e]
     have lr:=ll r
     have u1:nV (fun p=>(F p).length) r ((F r).length+1)=fun p=>(nV F r (F r++[⟨x,s⟩]) p).length:=Vv rfl
     have u2:nV (fun p=>dBl (F p)) r (dBl (F r)++[.t (wW.e ⟨x,s⟩)])=fun p=>dBl (nV F r (F r++[⟨x,s⟩]) p):=aim
     have o1:∀B:Nat→List wW,cf 15 (bl 5 10 pF fun p=>dBl (B p))=true:=fun B=>Ed fun j _=>by simp only[go_sem]
     have o2:∀L:Nat→Nat,eW 15 8 (refs 4 A.m.roads.length L)=true:=fun L=>uk (by omega)
     obtain⟨x1,x2,x3,x4⟩:=x
     simp only at hr
     subst hr
     simp only[wW.e]at u2
     clear h nx ll
     obtain⟨⟨a1,a2⟩,a3,a4⟩:=A
     simp only[s4,mZ,aby,nj]at*
     simp(disch:=omega)only[go_sem,K.mT,↓reduceIte,g1,g2,jl,c,po,ib,s6,B3,um,Sc,s5,List.append_assoc,List.cons_append,List.nil_append,CT,rT,HE,u1,u2,o1,o2,HG,reduceAdd,reduceSub]
 · simp only[aby]
   simp(disch:=omega)only[go_sem,K.mT,↓reduceIte,reduceAdd,reduceSub]
theorem Vw(o:Obj)(H:af)(i:Nat)(f:Obj→Obj):List.modify (o::H) (i+1) f=o::List.modify H i f:=rfl
theorem ain{sz c:Nat}{pn:Nat→Bool}{A:Nat→List D}{S:af}{i:Nat}(h:i<c):List.modify (bl sz c pn A++S) i Is=bl sz c (nV pn i true) A++S:=by
 apply List.ext_getElem?
 intro j
 rw[List.getElem?_modify]
 by_cases hj:j<c
 · rw[B3 hj,B3 hj]
   by_cases e:i=j
   · subst e;simp[nV,Is]
   · simp[nV,e,show ¬j=i from fun x=>e x.symm]
 · obtain⟨k,rfl⟩:∃k,j=k+c:=⟨j-c,by omega⟩
   rw[Nk,Nk]
   have:¬i=k+c:=by omega
   simp only[this,if_false]
   cases S[k]?<;>rfl
def j8(A:Air)(tf td:List Int)(i:Nat):kP:=
 ⟨{ nth A.m.roads i with restL:=(nth A.m.roads i).restL+(jM A.doors td A.doors.length i).low,restH:=(nth A.m.roads i).restH+(jM A.doors td A.doors.length i).high},i,tv A.fans tf A.fans.length i⟩
def cU(A:Air)(tf td:List Int):Nat→List kP
 | 0=>[]
 | n+1=>cU A tf td n++if(nth A.m.roads n).closed=true then []else [j8 A tf td n]
def atN(A:Air)(tf td:List Int):Nat→Nat→List Int
 | 0,_=>[]
 | n+1,p=>atN A tf td n p++if(nth A.m.roads n).closed=true then []else if(nth A.m.roads n).frm=p then [((cU A tf td n).length:Int)]else if(nth A.m.roads n).to=p then [((cU A tf td n).length:Int)]else []
theorem AS(A:Air)(tf td:List Int):∀n,(cU A tf td n).length≤n
 | 0=>aLs _
 | n+1=>by
   have:=AS A tf td n
   rw[cU,aLv]
   split<;>simp<;>omega
theorem yy(A:Air)(tf td:List Int):∀n p,(atN A tf td n p).length≤n
 | 0,_=>aLs _
 | n+1,p=>by
   have:=yy A tf td n p
   rw[atN,aLv]
   split
   · simp;omega
   split
   · simp;omega
   split<;>simp<;>omega
def Ck(A:Air)(tf td:List Int):T:= .agg [.sl ((cU A tf td A.m.roads.length).map kP.e),.sl ((List.range A.m.aa.length).map fun p=>tL (atN A tf td A.m.roads.length p))]
abbrev dPi(l:List kP):List D:=(l.map kP.e).map .t
def pnJ(A:Air)(j:Nat):Nat→Bool:=fun i=>decide (i<j)&& !(nth A.m.roads i).closed
abbrev Sk(A:Air)(At:Nat→List Int)(P:List kP)(S:af):af:=
 bl 1 6 pF (fun p=>iz (At p))++(.arr 1 false 0 (refs 15 A.m.aa.length fun p=>(At p).length):: .box [.ref 24 0 P.length,.ref 21 0 A.m.aa.length]:: .arr 12 false 0 []:: .arr 12 false 0 (dPi P)::S)
theorem Vx{A:Air}(np:A.m.aa.length≤6)(At:Nat→List Int)(P:List kP)(S:af){k:Nat}(hk:25≤k):cf k (Sk A At P S)=cf k S:=by
 have e1:=Ed (sz:=1) (c:=6) (k:=k) (pn:=pF) (A:=fun p=>iz (At p)) fun j _=>by simp only[go_sem]
 have e2:=uk (b:=15) (m:=A.m.aa.length) (k:=k) (L:=fun p=>(At p).length) (by omega)
 have e3:ltB 24 k=true:=by rw[qc,decide_eq_true_eq];omega
 have e4:ltB 21 k=true:=by rw[qc,decide_eq_true_eq];omega
 simp only[Sk,go_sem,e1,e2,e3,e4,Bool.true_and]
abbrev abA(A:Air)(j:Int):List D:=[.und,.und,.und,.und,.bp 2 0,.ref 3 0 A.m.roads.length,.ref 14 0 A.m.roads.length,.und,.und,.und,.und,.und,.bp 22 0,.und,.und,.und,.und,.und,.und,.und,.und,.und,.t (.sl (A.m.roads.map Road.e)),I A.m.roads.length,I j]
@[go_sem] theorem aeI (l : List kP) : oI 12 (l.map kP.e) = true := by cases l <;> rfl
theorem abB{A:Air}{tf td:List Int}(h:ny A tf td){R:List Spn}(len:R.length=A.m.roads.length)(eR:∀i,i<A.m.roads.length→nth R i=jM A.doors td A.doors.length i)
 (z0 z1 z2 z3 z7 z8 z9 z10 z11 z13 z14 z15 z16 z17 z18 z19 z20 z21:D):
 exS bL K.we ⟨[z0,z1,z2,z3,.bp 2 0,.ref 3 0 A.m.roads.length,.ref 14 0 A.m.roads.length,z7,z8,z9,z10,z11,.bp 22 0,z13,z14,z15,z16,z17,z18,z19,z20,z21,.t (.sl (A.m.roads.map Road.e)),I A.m.roads.length,I 0],s4 A tf td R pF (tv A.fans tf A.fans.length) (Sk A (fun _=>[]) [] [])⟩=
  some (.exit 4,⟨abA A A.m.roads.length,s4 A tf td R (pnJ A A.m.roads.length) (tv A.fans tf A.fans.length) (Sk A (atN A tf td A.m.roads.length) (cU A tf td A.m.roads.length) [])⟩):=by
 have nr:=h.nr
 have np:=h.np
 refine cT (fun j=>⟨abA A j,s4 A tf td R (pnJ A j) (tv A.fans tf A.fans.length) (Sk A (atN A tf td j) (cU A tf td j) [])⟩) A.m.roads.length ?_ ?_ ?_ (by simp)
 · have e1:atN A tf td 0=fun _=>[]:=by funext p;rfl
   have e2:pnJ A 0=pF:=by funext p;simp[pnJ]
   have e3:cU A tf td 0=[]:=rfl
   simp only[go_sem,abA,e1,e2,e3,Int.natCast_zero]
 · intro j hj
   have ro:=h.ok.rs _ (ak hj)
   have g1:(A.m.roads.map Road.e)[j]?=some (nth A.m.roads j).e:=aQ _ hj
   have gR:(dSp R)[j]?=some (.t (nth R j).e):=cE _ _ (by omega)
   have jl:(j:Int)<A.m.roads.length:=by omega
   have nj:((j+1:Nat):Int)=(j:Int)+1:=by omega
   have bR:=zU h j A.doors.length (aLs _)
   have dn:=h.dn
   have eP:=eR j hj
   rw[← eP]at bR
   have pl:=AS A tf td j
   have al:=yy A tf td j
   have fl:=CU A.fans tf A.fans.length
   have fn:=h.fn
   have nP:cU A tf td (j+1)=cU A tf td j++if(nth A.m.roads j).closed=true then []else [j8 A tf td j]:=rfl
   have nA:∀p,atN A tf td (j+1) p=atN A tf td j p++if(nth A.m.roads j).closed=true then []else if(nth A.m.roads j).frm=p then [((cU A tf td j).length:Int)]else if(nth A.m.roads j).to=p then [((cU A tf td j).length:Int)]else []:=fun _=>rfl
   have ePi:j8 A tf td j=⟨{ nth A.m.roads j with restL:=(nth A.m.roads j).restL+(nth R j).low,restH:=(nth A.m.roads j).restH+(nth R j).high},j,tv A.fans tf A.fans.length j⟩:=by rw[eP];rfl
   obtain⟨f,hf⟩:=Int.eq_ofNat_of_zero_le ro.f0
   obtain⟨t,ht⟩:=Int.eq_ofNat_of_zero_le ro.t0
   have f1:=ro.f1
   have t1:=ro.t1
   have ne:=ro.ne
   have r0:=ro.r0;have r1:=ro.r1;have r2:=ro.r2
   have po:=fun(pn:Nat→Bool) (S:af)=>Eg (tf:=tf) (td:=td) (R:=R) h.nr pn (tv A.fans tf A.fans.length) S (k:=25) (by omega)
   have po2:=fun(At:Nat→List Int) (P:List kP) (S:af)=>Vx np At P S (k:=25) (by omega)
   have pe:pnJ A (j+1)=if(nth A.m.roads j).closed=true then pnJ A j else nV (pnJ A j) j true:=by
    cases c:(nth A.m.roads j).closed with
    | true=>
      funext i
      simp only[pnJ,if_true]
      by_cases e:i=j
      · subst e;rw[c];simp
      · have:decide (i<j+1)=decide (i<j):=by simp only[decide_eq_decide];omega
        rw[this]
    | false=>
      funext i
      simp only[pnJ,aLt,if_false,nV]
      by_cases e:i=j
      · subst e;rw[c];simp
      · have:decide (i<j+1)=decide (i<j):=by simp only[decide_eq_decide];omega
        rw[this,if_neg e]
   rw[pe]
   generalize atN A tf td (j+1)=A1 at*
   generalize cU A tf td (j+1)=P1 at*
   rw[ePi]at nP
   clear ePi eP pe
   generalize atN A tf td j=At at*
   generalize cU A tf td j=P at*
   generalize tv A.fans tf A.fans.length=F at*
   generalize pnJ A j=pn at*
   clear ro
   generalize nth A.m.roads j=x at*
   generalize nth R j=u at*
   obtain⟨x1,x2,x3,x4,x5,x6,x7,x8,x9,x10⟩:=x
   obtain⟨u1,u2⟩:=u
   simp only at hf ht f1 t1 ne nA nP bR r0 r1 r2
   subst hf ht
   have f1:f<A.m.aa.length:=by omega
   have t1:t<A.m.aa.length:=by omega
   have ft:¬t=f:=by omega
   have fl:=fl j
   cases x6 with
   | true=>
     have e1:A1=At:=by funext p;rw[nA];simp
     have e2:P1=P:=by rw[nP];simp
     rw[e1,e2]
     clear h eR nA nP al
     obtain⟨⟨a1,a2⟩,a3,a4⟩:=A
     simp only[s4,Sk,mZ,abA,nj,if_true]at*
     simp(disch:=omega)only[go_sem,K.mU,↓reduceIte,g1,jl,po,po2,ib,s6,um,s5,mY,px,mX,List.append_assoc,List.cons_append,List.nil_append,reduceAdd,reduceSub]
   | false=>
     have lf:=al f
     have lt:=al t
     have e2:P1=P++[⟨⟨f,t,x3,x4,x5,false,x7+u1,x8+u2,x9,x10⟩,j,F j⟩]:=by rw[nP];simp
     have e:A1=nV (nV At f (At f++[(P.length:Int)])) t (nV At f (At f++[(P.length:Int)]) t++[(P.length:Int)]):=by
      funext p
      rw[nA]
      unfold nV
      by_cases e1:p=t
      · subst e1
        simp only[aLt,if_false,if_true,ft]
        rw[if_neg (by omega)]
      · simp only[aLt,if_false,e1]
        by_cases e2:p=f
        · subst e2;simp
        · rw[if_neg (by omega),if_neg (by omega),if_neg e2,List.append_nil]
     rw[e,e2]
     have lt2:(nV At f (At f++[(P.length:Int)]) t).length≤10:=by
      unfold nV;rw[if_neg ft];omega
     have uA1:nV (fun p=>(At p).length) f ((At f).length+1)=fun p=>(nV At f (At f++[(P.length:Int)]) p).length:=HF rfl
     have uA2:nV (fun p=>(nV At f (At f++[(P.length:Int)]) p).length) t ((nV At f (At f++[(P.length:Int)]) t).length+1)=fun p=>(nV (nV At f (At f++[(P.length:Int)])) t (nV At f (At f++[(P.length:Int)]) t++[(P.length:Int)]) p).length:=HF rfl
     have o1:∀B:Nat→List Int,cf 25 (bl 1 6 pF fun p=>iz (B p))=true:=fun B=>Ed fun j _=>by simp only[go_sem]
     have o2:∀L:Nat→Nat,eW 25 8 (refs 15 A.m.aa.length L)=true:=fun L=>uk (by omega)
     have o3:∀pn:Nat→Bool,cf 25 (bl 5 10 pn fun p=>dBl (F p))=true:=fun B=>Ed fun j _=>by simp only[go_sem]
     have o4:eW 25 8 (refs 4 A.m.roads.length fun p=>(F p).length)=true:=uk (by omega)
     have nP:((P.length+1:Nat):Int)=(P.length:Int)+1:=by omega
     have dPa:∀x:kP,dPi (P++[x])=dPi P++[.t x.e]:=fun x=>by simp
     clear h eR nA al po po2
     obtain⟨⟨a1,a2⟩,a3,a4⟩:=A
     simp only[s4,Sk,mZ,abA,nj,aLt,if_false,List.map_append,List.map_cons,List.map_nil,aLv,List.length_singleton]at*
     simp(disch:=omega)only[go_sem,K.mU,↓reduceIte,g1,gR,jl,ib,s6,B3,um,Sc,s5,mY,px,mX,ain,Vw,List.append_assoc,List.cons_append,List.nil_append,CT,rT,HE,Nl,uA1,uA2,o1,o2,o3,o4,HG,len,dPa,reduceAdd,reduceSub]
 · simp only[abA]
   simp(disch:=omega)only[go_sem,K.mU,↓reduceIte,reduceAdd,reduceSub]
theorem Sl{H:af}{n b m:Nat}{L:Nat→Nat}{g:Nat→T}(h:∀i,i<m→frz H n (.ref (i+b) 0 (L i))=some (g i)):cK (frz H n) (refs b m L)=some ((List.range m).map g):=by
 have key:∀l:List Nat,(∀i∈l,i<m)→cK (frz H n) (l.map fun j=> .ref (j+b) 0 (L j))=some (l.map g):=by
  intro l
  induction l with
  | nil=>intro _;rfl
  | cons a r ih=>
    intro hl
    rw[List.map_cons,cK,h a (hl a List.mem_cons_self),ih fun i hi=>hl i (List.mem_cons_of_mem _ hi)]
    rfl
 exact key _ fun i hi=>aLu.1 hi
theorem Lu{A:Air}{tf td:List Int}(h:ny A tf td):bL 0 N.eV [.t A.e,.t (pX tf td)] []=some (.t (Ck A tf td),[]):=by
 refine aI K.sm rfl ?_
 have nr:=h.nr
 have np:=h.np
 obtain⟨q,k1,R,rfl,len,eR⟩:=abx h (fun _=>[]) (.t A.e) (.t (pX tf td)) .und .und .und .und .und .und .und .und .und .und .und .und .und .und .und
 have k2:=fun z0 z1 z7 z8 z9 z10 z11 z12 z13 z14 z15 z16 z17 z18 z22 z23 z24=>abz h R z0 z1 z7 z8 z9 z10 z11 z12 z13 z14 z15 z16 z17 z18 z22 z23 z24
 have k3:=fun z0 z1 z2 z3 z7 z8 z9 z10 z11 z13 z14 z15 z16 z17 z18 z19 z20 z21=>abB h len eR z0 z1 z2 z3 z7 z8 z9 z10 z11 z13 z14 z15 z16 z17 z18 z19 z20 z21
 have al:=yy A tf td A.m.roads.length
 have b5:(blk 5 10 fun _=>[])=bl 5 10 pF fun p=>dBl ((fun _=>([]:List wW)) p):=rfl
 have b1:(blk 1 6 fun _=>[])=bl 1 6 pF fun p=>iz ((fun _=>([]:List Int)) p):=rfl
 have r4:(refs 4 A.m.roads.length fun _=>0)=refs 4 A.m.roads.length fun p=>((fun _=>([]:List wW)) p).length:=rfl
 have r15:(refs 15 A.m.aa.length fun _=>0)=refs 15 A.m.aa.length fun p=>((fun _=>([]:List Int)) p).length:=rfl
 have rz:List.replicate A.m.roads.length (D.t (.agg [.int .i64 0,.int .i64 0]))=dSp (List.replicate A.m.roads.length ⟨0,0⟩):=by simp
 unfold Ck
 have key:∀(pn:Nat→Bool) (F:Nat→List wW) (At:Nat→List Int) (P:List kP) (H:af),H=s4 A tf td R pn F (Sk A At P [])→∀n,cK (frz (H.set 2 (.box [.ref 24 0 P.length,.ref 21 0 A.m.aa.length])) (n+1)) (refs 15 A.m.aa.length fun p=>(At p).length)=some ((List.range A.m.aa.length).map fun p=>tL (At p)):=by
  intro pn F At P H hH n
  refine Sl fun i hi=>?_
  subst hH
  have i6:i<6:=by omega
  have dl:(iz (At i)).length=(At i).length:=by simp
  obtain⟨⟨a1,a2⟩,a3,a4⟩:=A
  simp only[s4,Sk,mZ]at*
  simp(disch:=omega)only[go_sem,B3,um,px,↓reduceIte,dl]
 have key2:=key (pnJ A A.m.roads.length) (tv A.fans tf A.fans.length) (atN A tf td A.m.roads.length) (cU A tf td A.m.roads.length) _ rfl
 clear key eR
 generalize cU A tf td A.m.roads.length=P at*
 generalize atN A tf td A.m.roads.length=At at*
 generalize tv A.fans tf A.fans.length=F at*
 generalize pnJ A A.m.roads.length=pn at*
 have pl:(dPi P).length=P.length:=by simp
 have p0:dPi []=[]:=rfl
 simp only[Sk,p0]at k3
 clear h al
 obtain⟨⟨a1,a2⟩,a3,a4⟩:=A
 simp only[s4,Sk,mZ,abw,aby,abA,Air.e,cC.e,pX,List.length_nil,List.map_nil,List.set_cons_succ,List.set_cons_zero]at*
 simp(disch:=omega)only[go_sem,K.eV,↓reduceIte,k1,k2,k3,b5,b1,r4,r15,rz,key2,ib,s6,B3,um,s5,mY,px,mX,List.append_assoc,List.cons_append,List.nil_append,rT,pl,aaK,reduceAdd,reduceSub]
theorem JF{A:Air}{tf td:List Int}(h:ny A tf td){i:Nat}(hi:i<A.m.roads.length):(j8 A tf td i).ok A.m.aa.length A.m.roads.length:=by
 have ro:=h.ok.rs _ (ak hi)
 have b:=zU h i A.doors.length (aLs _)
 have dn:=h.dn
 have fn:=h.fn
 have fl:=CU A.fans tf A.fans.length i
 obtain⟨g1,g2,g3,g4,g5,g6,g7,g8,g9,g10,g11,g12,g13,g14,g15⟩:=ro
 unfold j8
 refine⟨g1,g2,g3,g4,g5,by simp only;omega,by simp only;omega,by simp only;omega,by simp only;omega,by simp only;omega,g13,g14,g15,by simp only;omega,fun x hx=>?_⟩
 obtain⟨j,hj,h1,h2,rfl⟩:=No A.fans tf i x _ hx
 have:=h.fs _ (ak (l:=tf) (j:=j) (by rw[h.fl];exact hj))
 exact⟨h.fo _ (ak hj),this⟩
theorem w9{A:Air}{tf td:List Int}:∀n (p:kP),p∈cU A tf td n→∃i,i<n∧(nth A.m.roads i).closed=false∧p=j8 A tf td i
 | 0,p,h=>by simp[cU]at h
 | n+1,p,h=>by
   rw[cU,List.mem_append]at h
   rcases h with h | h
   · obtain⟨i,hi,r⟩:=w9 n p h
     exact⟨i,by omega,r⟩
   · split at h
     · simp at h
     · rename_i c
       exact⟨n,by omega,by simpa using c,by simpa using h⟩
abbrev aB(A:Air)(tf td:List Int):List kP:=cU A tf td A.m.roads.length
abbrev atA(A:Air)(tf td:List Int)(p:Nat):List Int:=atN A tf td A.m.roads.length p
theorem je{A:Air}{tf td:List Int}(h:ny A tf td){k:Nat}(hk:k<(aB A tf td).length):(nth (aB A tf td) k).ok A.m.aa.length A.m.roads.length:=by
 obtain⟨i,hi, -,e⟩:=w9 _ _ (ak hk)
 rw[e];exact JF h hi
theorem Sm{α:Type} [Dat α]{l r:List α}{k:Nat}(h:k<l.length):nth (l++r) k=nth l k:=by
 simp[nth,aLg h]
theorem HI{A:Air}{tf td:List Int}(p:Nat):∀n (k:Int),k∈atN A tf td n p→0≤k∧k<(cU A tf td n).length∧((nth (cU A tf td n) k.toNat).cL.frm=p∨(nth (cU A tf td n) k.toNat).cL.to=p)
 | 0,k,h=>by simp[atN]at h
 | n+1,k,h=>by
   rw[atN,List.mem_append]at h
   rw[cU]
   rcases h with h | h
   · obtain⟨h1,h2,h3⟩:=HI p n k h
     rw[Sm (l:=cU A tf td n) (k:=k.toNat) (by omega)]
     exact⟨h1,by rw[aLv];omega,h3⟩
   · split at h
     · simp at h
     · rename_i c
       rw[if_neg c]
       have key:k=(cU A tf td n).length→((nth A.m.roads n).frm=p∨(nth A.m.roads n).to=p)→0≤k∧k<((cU A tf td n++[j8 A tf td n]).length:Nat)∧((nth (cU A tf td n++[j8 A tf td n]) k.toNat).cL.frm=p∨(nth (cU A tf td n++[j8 A tf td n]) k.toNat).cL.to=p):=fun e f=>by
        subst e
        rw[Int.toNat_natCast,jA (l:=cU A tf td n) rfl]
        exact⟨by omega,by simp only[aLv,List.length_singleton];omega,f⟩
       split at h
       · exact key (by simpa using h) (.inl (by assumption))
       split at h
       · exact key (by simpa using h) (.inr (by assumption))
       · simp at h
def dP(pr:List Int)(p:kP):Int:=nth pr p.cL.frm.toNat-nth pr p.cL.to.toNat
noncomputable def HJ(A:Air)(tf td:List Int)(pr:List Int)(i j:Nat):Int:=
 if(nth (aB A tf td) (nth (atA A tf td i) j).toNat).cL.frm=i then jL (nth (aB A tf td) (nth (atA A tf td i) j).toNat) (dP pr (nth (aB A tf td) (nth (atA A tf td i) j).toNat))else -fT (nth (aB A tf td) (nth (atA A tf td i) j).toNat) (dP pr (nth (aB A tf td) (nth (atA A tf td i) j).toNat))
noncomputable def uo(A:Air)(tf td:List Int)(pr:List Int)(i j:Nat):Int:=
 if(nth (aB A tf td) (nth (atA A tf td i) j).toNat).cL.frm=i then fT (nth (aB A tf td) (nth (atA A tf td i) j).toNat) (dP pr (nth (aB A tf td) (nth (atA A tf td i) j).toNat))else -jL (nth (aB A tf td) (nth (atA A tf td i) j).toNat) (dP pr (nth (aB A tf td) (nth (atA A tf td i) j).toNat))
noncomputable def mP(A:Air)(tf td:List Int)(pr:List Int)(i:Nat):Int:=eL (HJ A tf td pr i) (atA A tf td i).length
noncomputable def jr(A:Air)(tf td:List Int)(pr:List Int)(i:Nat):Int:=eL (uo A tf td pr i) (atA A tf td i).length
abbrev Lv(A:Air)(pr:List Int):Prop:=pr.length=A.m.aa.length∧∀x∈pr, -70368744177664≤x∧x≤70368744177664
theorem yz{A:Air}{tf td:List Int}(h:ny A tf td){i j:Nat}(hj:j<(atA A tf td i).length):(nth (atA A tf td i) j).toNat<(aB A tf td).length∧0≤nth (atA A tf td i) j:=by
 obtain⟨h1,h2, -⟩:=HI (A:=A) (tf:=tf) (td:=td) i A.m.roads.length (nth (atA A tf td i) j) (ak hj)
 have h3:nth (atA A tf td i) j<((aB A tf td).length:Int):=h2
 have h4:0≤nth (atA A tf td i) j:=h1
 exact⟨by omega,h4⟩
theorem wt{A:Air}{tf td:List Int}(h:ny A tf td)(pr:List Int)(i:Nat){j:Nat}(hj:j<(atA A tf td i).length):(-1048577≤HJ A tf td pr i j∧HJ A tf td pr i j≤1048577)∧ -1048577≤uo A tf td pr i j∧uo A tf td pr i j≤1048577:=by
 have ok:=je h (yz h hj).1
 unfold HJ uo
 obtain⟨-,a1,a2, -⟩:=mg ok (dP pr (nth (aB A tf td) (nth (atA A tf td i) j).toNat))
 obtain⟨-,b1,b2, -⟩:=kg ok (dP pr (nth (aB A tf td) (nth (atA A tf td i) j).toNat))
 constructor<;>split<;>omega
theorem OK{A:Air}{tf td:List Int}(h:ny A tf td){pr:List Int}(pl:Lv A pr){i:Nat}(hi:i<A.m.aa.length):bL 0 N.cB [.t (Ck A tf td),.t (tL pr),I i] []=some (I (mP A tf td pr i),[]):=by
 refine aI K.me rfl ?_
 obtain⟨pl,pb⟩:=pl
 have np:=h.np
 have nr:=h.nr
 have al:(atA A tf td i).length≤A.m.roads.length:=yy A tf td A.m.roads.length i
 have ga:((List.range A.m.aa.length).map fun p=>tL (atA A tf td p))[i]?=some (tL (atA A tf td i)):=by simp[hi]
 have key:∀z0 z4 z6 z7 z8:D,exS bL K.oF ⟨[z0,.t (tL pr),I i,.bp 0 0,z4,I 0,z6,z7,z8,.t (tL (atA A tf td i)),I (atA A tf td i).length,I 0],[.box [.t (.sl ((aB A tf td).map kP.e)),.t (.sl ((List.range A.m.aa.length).map fun p=>tL (atA A tf td p)))]]⟩=
  some (.exit 0,⟨[.und,.t (tL pr),I i,.bp 0 0,.und,I (mP A tf td pr i),.und,.und,.und,.t (tL (atA A tf td i)),I (atA A tf td i).length,I (atA A tf td i).length],[.box [.t (.sl ((aB A tf td).map kP.e)),.t (.sl ((List.range A.m.aa.length).map fun p=>tL (atA A tf td p)))]]⟩):=by
  intro z0 z4 z6 z7 z8
  refine cT (fun j=>⟨[.und,.t (tL pr),I i,.bp 0 0,.und,I (eL (HJ A tf td pr i) j),.und,.und,.und,.t (tL (atA A tf td i)),I (atA A tf td i).length,I j],[.box [.t (.sl ((aB A tf td).map kP.e)),.t (.sl ((List.range A.m.aa.length).map fun p=>tL (atA A tf td p)))]]⟩) (atA A tf td i).length rfl ?_ ?_ (by simp)
  · intro j hj
    have sb:=w8 (f:=HJ A tf td pr i) (C:=1048577) j fun k hk=>by have:=wt h pr i (j:=k) (by omega);omega
    have ap:=yz h hj
    have ok:=je h ap.1
    have fL:=(mg ok (dP pr (nth (aB A tf td) (nth (atA A tf td i) j).toNat))).1
    have fH:=(kg ok (dP pr (nth (aB A tf td) (nth (atA A tf td i) j).toNat))).1
    have tb:=wt h pr i hj
    have g1:((atA A tf td i).map (T.int .i64))[j]?=some (tI (nth (atA A tf td i) j)):=aQ _ hj
    have g2:((aB A tf td).map kP.e)[(nth (atA A tf td i) j).toNat]?=some (nth (aB A tf td) (nth (atA A tf td i) j).toNat).e:=aQ _ ap.1
    have jl:(j:Int)<(atA A tf td i).length:=by omega
    have nj:((j+1:Nat):Int)=(j:Int)+1:=by omega
    have nx:eL (HJ A tf td pr i) (j+1)=eL (HJ A tf td pr i) j+HJ A tf td pr i j:=rfl
    rw[nx,nj]
    have ti:HJ A tf td pr i j=if(nth (aB A tf td) (nth (atA A tf td i) j).toNat).cL.frm=i then jL (nth (aB A tf td) (nth (atA A tf td i) j).toNat) (dP pr (nth (aB A tf td) (nth (atA A tf td i) j).toNat))else -fT (nth (aB A tf td) (nth (atA A tf td i) j).toNat) (dP pr (nth (aB A tf td) (nth (atA A tf td i) j).toNat)):=rfl
    rw[ti]at tb ⊢
    clear nx ti
    generalize eL (HJ A tf td pr i) j=S at*
    generalize nth (atA A tf td i) j=kk at*
    obtain⟨kk,rfl⟩:=Int.eq_ofNat_of_zero_le ap.2
    simp only[Int.toNat_natCast]at*
    generalize nth (aB A tf td) kk=p at*
    obtain⟨f,hf⟩:=Int.eq_ofNat_of_zero_le ok.f0
    obtain⟨t,ht⟩:=Int.eq_ofNat_of_zero_le ok.t0
    have f1:=ok.f1
    have t1:=ok.t1
    have gf:(pr.map (T.int .i64))[f]?=some (tI (nth pr f)):=aQ _ (by omega)
    have gt:(pr.map (T.int .i64))[t]?=some (tI (nth pr t)):=aQ _ (by omega)
    have bf:=pb _ (ak (l:=pr) (j:=f) (by omega))
    have bt:=pb _ (ak (l:=pr) (j:=t) (by omega))
    have ed:dP pr p=nth pr f-nth pr t:=by unfold dP;rw[hf,ht];rfl
    rw[ed]at fL fH tb ⊢
    clear ok ed
    generalize jL p (nth pr f-nth pr t)=L at*
    generalize fT p (nth pr f-nth pr t)=Hh at*
    generalize nth pr f=x at*
    generalize nth pr t=y at*
    obtain⟨⟨p1,p2,p3,p4,p5,p6,p7,p8,p9,p10⟩,p11,p12⟩:=p
    simp only at hf ht
    subst hf ht
    simp only[kP.e]at*
    clear h
    by_cases c:(f:Int)=i
    · simp only[if_pos c]at tb ⊢
      obtain rfl:f=i:=by omega
      simp(disch:=omega)only[go_sem,K.dL,↓reduceIte,g1,g2,jl,gf,gt,fL,fH,reduceAdd,reduceSub]
    · simp only[if_neg c]at tb ⊢
      have ns:S+ -Hh=S-Hh:=by omega
      simp(disch:=omega)only[go_sem,K.dL,↓reduceIte,g1,g2,jl,gf,gt,fL,fH,c,ns,reduceAdd,reduceSub]
  · simp only[mP]
    simp(disch:=omega)only[go_sem,K.dL,↓reduceIte,reduceAdd,reduceSub]
 unfold Ck
 clear pb
 generalize mP A tf td pr i=R at*
 simp(disch:=omega)only[go_sem,K.cB,↓reduceIte,key,ga,reduceAdd,reduceSub]
theorem OL{A:Air}{tf td:List Int}(h:ny A tf td){pr:List Int}(pl:Lv A pr){i:Nat}(hi:i<A.m.aa.length):bL 0 N.cB [.t (Ck A tf td),.ref 0 0 pr.length,I i] [arI pr]=some (I (mP A tf td pr i),[arI pr]):=by
 refine aI K.me rfl ?_
 obtain⟨pl,pb⟩:=pl
 have np:=h.np
 have nr:=h.nr
 have al:(atA A tf td i).length≤A.m.roads.length:=yy A tf td A.m.roads.length i
 have ga:((List.range A.m.aa.length).map fun p=>tL (atA A tf td p))[i]?=some (tL (atA A tf td i)):=by simp[hi]
 have key:∀z0 z4 z6 z7 z8:D,exS bL K.oF ⟨[z0,.ref 0 0 pr.length,I i,.bp 1 0,z4,I 0,z6,z7,z8,.t (tL (atA A tf td i)),I (atA A tf td i).length,I 0],[arI pr,.box [.t (.sl ((aB A tf td).map kP.e)),.t (.sl ((List.range A.m.aa.length).map fun p=>tL (atA A tf td p)))]]⟩=
  some (.exit 0,⟨[.und,.ref 0 0 pr.length,I i,.bp 1 0,.und,I (mP A tf td pr i),.und,.und,.und,.t (tL (atA A tf td i)),I (atA A tf td i).length,I (atA A tf td i).length],[arI pr,.box [.t (.sl ((aB A tf td).map kP.e)),.t (.sl ((List.range A.m.aa.length).map fun p=>tL (atA A tf td p)))]]⟩):=by
  intro z0 z4 z6 z7 z8
  refine cT (fun j=>⟨[.und,.ref 0 0 pr.length,I i,.bp 1 0,.und,I (eL (HJ A tf td pr i) j),.und,.und,.und,.t (tL (atA A tf td i)),I (atA A tf td i).length,I j],[arI pr,.box [.t (.sl ((aB A tf td).map kP.e)),.t (.sl ((List.range A.m.aa.length).map fun p=>tL (atA A tf td p)))]]⟩) (atA A tf td i).length rfl ?_ ?_ (by simp)
  · intro j hj
    have sb:=w8 (f:=HJ A tf td pr i) (C:=1048577) j fun k hk=>by have:=wt h pr i (j:=k) (by omega);omega
    have ap:=yz h hj
    have ok:=je h ap.1
    have fL:=(mg ok (dP pr (nth (aB A tf td) (nth (atA A tf td i) j).toNat))).1
    have fH:=(kg ok (dP pr (nth (aB A tf td) (nth (atA A tf td i) j).toNat))).1
    have tb:=wt h pr i hj
    have g1:((atA A tf td i).map (T.int .i64))[j]?=some (tI (nth (atA A tf td i) j)):=aQ _ hj
    have g2:((aB A tf td).map kP.e)[(nth (atA A tf td i) j).toNat]?=some (nth (aB A tf td) (nth (atA A tf td i) j).toNat).e:=aQ _ ap.1
    have jl:(j:Int)<(atA A tf td i).length:=by omega
    have nj:((j+1:Nat):Int)=(j:Int)+1:=by omega
    have nx:eL (HJ A tf td pr i) (j+1)=eL (HJ A tf td pr i) j+HJ A tf td pr i j:=rfl
    rw[nx,nj]
    have ti:HJ A tf td pr i j=if(nth (aB A tf td) (nth (atA A tf td i) j).toNat).cL.frm=i then jL (nth (aB A tf td) (nth (atA A tf td i) j).toNat) (dP pr (nth (aB A tf td) (nth (atA A tf td i) j).toNat))else -fT (nth (aB A tf td) (nth (atA A tf td i) j).toNat) (dP pr (nth (aB A tf td) (nth (atA A tf td i) j).toNat)):=rfl
    rw[ti]at tb ⊢
    clear nx ti
    generalize eL (HJ A tf td pr i) j=S at*
    generalize nth (atA A tf td i) j=kk at*
    obtain⟨kk,rfl⟩:=Int.eq_ofNat_of_zero_le ap.2
    simp only[Int.toNat_natCast]at*
    generalize nth (aB A tf td) kk=p at*
    obtain⟨f,hf⟩:=Int.eq_ofNat_of_zero_le ok.f0
    obtain⟨t,ht⟩:=Int.eq_ofNat_of_zero_le ok.t0
    have f1:=ok.f1
    have t1:=ok.t1
    have gf:((pr.map (T.int .i64)).map D.t)[f]?=some (I (nth pr f)):=cE _ _ (by omega)
    have gt:((pr.map (T.int .i64)).map D.t)[t]?=some (I (nth pr t)):=cE _ _ (by omega)
    have bf:=pb _ (ak (l:=pr) (j:=f) (by omega))
    have bt:=pb _ (ak (l:=pr) (j:=t) (by omega))
    have ed:dP pr p=nth pr f-nth pr t:=by unfold dP;rw[hf,ht];rfl
    rw[ed]at fL fH tb ⊢
    clear ok ed
    generalize jL p (nth pr f-nth pr t)=L at*
    generalize fT p (nth pr f-nth pr t)=Hh at*
    generalize nth pr f=x at*
    generalize nth pr t=y at*
    obtain⟨⟨p1,p2,p3,p4,p5,p6,p7,p8,p9,p10⟩,p11,p12⟩:=p
    simp only at hf ht
    subst hf ht
    simp only[kP.e]at*
    clear h
    by_cases c:(f:Int)=i
    · simp only[if_pos c]at tb ⊢
      obtain rfl:f=i:=by omega
      simp(disch:=omega)only[go_sem,K.dL,↓reduceIte,g1,g2,jl,gf,gt,fL,fH,reduceAdd,reduceSub]
    · simp only[if_neg c]at tb ⊢
      have ns:S+ -Hh=S-Hh:=by omega
      simp(disch:=omega)only[go_sem,K.dL,↓reduceIte,g1,g2,jl,gf,gt,fL,fH,c,ns,reduceAdd,reduceSub]
  · simp only[mP]
    simp(disch:=omega)only[go_sem,K.dL,↓reduceIte,reduceAdd,reduceSub]
 unfold Ck
 clear pb
 generalize mP A tf td pr i=R at*
 simp(disch:=omega)only[go_sem,K.cB,↓reduceIte,key,ga,reduceAdd,reduceSub]
theorem Lw{A:Air}{tf td:List Int}(h:ny A tf td){pr:List Int}(pl:Lv A pr){i:Nat}(hi:i<A.m.aa.length):bL 0 N.bV [.t (Ck A tf td),.t (tL pr),I i] []=some (I (jr A tf td pr i),[]):=by
 refine aI K.kJ rfl ?_
 obtain⟨pl,pb⟩:=pl
 have np:=h.np
 have nr:=h.nr
 have al:(atA A tf td i).length≤A.m.roads.length:=yy A tf td A.m.roads.length i
 have ga:((List.range A.m.aa.length).map fun p=>tL (atA A tf td p))[i]?=some (tL (atA A tf td i)):=by simp[hi]
 have key:∀z0 z4 z6 z7 z8:D,exS bL K.ni ⟨[z0,.t (tL pr),I i,.bp 0 0,z4,I 0,z6,z7,z8,.t (tL (atA A tf td i)),I (atA A tf td i).length,I 0],[.box [.t (.sl ((aB A tf td).map kP.e)),.t (.sl ((List.range A.m.aa.length).map fun p=>tL (atA A tf td p)))]]⟩=
  some (.exit 0,⟨[.und,.t (tL pr),I i,.bp 0 0,.und,I (jr A tf td pr i),.und,.und,.und,.t (tL (atA A tf td i)),I (atA A tf td i).length,I (atA A tf td i).length],[.box [.t (.sl ((aB A tf td).map kP.e)),.t (.sl ((List.range A.m.aa.length).map fun p=>tL (atA A tf td p)))]]⟩):=by
  intro z0 z4 z6 z7 z8
  refine cT (fun j=>⟨[.und,.t (tL pr),I i,.bp 0 0,.und,I (eL (uo A tf td pr i) j),.und,.und,.und,.t (tL (atA A tf td i)),I (atA A tf td i).length,I j],[.box [.t (.sl ((aB A tf td).map kP.e)),.t (.sl ((List.range A.m.aa.length).map fun p=>tL (atA A tf td p)))]]⟩) (atA A tf td i).length rfl ?_ ?_ (by simp)
  · intro j hj
    have sb:=w8 (f:=uo A tf td pr i) (C:=1048577) j fun k hk=>by have:=wt h pr i (j:=k) (by omega);omega
    have ap:=yz h hj
    have ok:=je h ap.1
    have fL:=(mg ok (dP pr (nth (aB A tf td) (nth (atA A tf td i) j).toNat))).1
    have fH:=(kg ok (dP pr (nth (aB A tf td) (nth (atA A tf td i) j).toNat))).1
    have tb:=wt h pr i hj
    have g1:((atA A tf td i).map (T.int .i64))[j]?=some (tI (nth (atA A tf td i) j)):=aQ _ hj
    have g2:((aB A tf td).map kP.e)[(nth (atA A tf td i) j).toNat]?=some (nth (aB A tf td) (nth (atA A tf td i) j).toNat).e:=aQ _ ap.1
    have jl:(j:Int)<(atA A tf td i).length:=by omega
    have nj:((j+1:Nat):Int)=(j:Int)+1:=by omega
    have nx:eL (uo A tf td pr i) (j+1)=eL (uo A tf td pr i) j+uo A tf td pr i j:=rfl
    rw[nx,nj]
    have ti:uo A tf td pr i j=if(nth (aB A tf td) (nth (atA A tf td i) j).toNat).cL.frm=i then fT (nth (aB A tf td) (nth (atA A tf td i) j).toNat) (dP pr (nth (aB A tf td) (nth (atA A tf td i) j).toNat))else -jL (nth (aB A tf td) (nth (atA A tf td i) j).toNat) (dP pr (nth (aB A tf td) (nth (atA A tf td i) j).toNat)):=rfl
    rw[ti]at tb ⊢
    clear nx ti
    generalize eL (uo A tf td pr i) j=S at*
    generalize nth (atA A tf td i) j=kk at*
    obtain⟨kk,rfl⟩:=Int.eq_ofNat_of_zero_le ap.2
    simp only[Int.toNat_natCast]at*
    generalize nth (aB A tf td) kk=p at*
    obtain⟨f,hf⟩:=Int.eq_ofNat_of_zero_le ok.f0
    obtain⟨t,ht⟩:=Int.eq_ofNat_of_zero_le ok.t0
    have f1:=ok.f1
    have t1:=ok.t1
    have gf:(pr.map (T.int .i64))[f]?=some (tI (nth pr f)):=aQ _ (by omega)
    have gt:(pr.map (T.int .i64))[t]?=some (tI (nth pr t)):=aQ _ (by omega)
    have bf:=pb _ (ak (l:=pr) (j:=f) (by omega))
    have bt:=pb _ (ak (l:=pr) (j:=t) (by omega))
    have ed:dP pr p=nth pr f-nth pr t:=by unfold dP;rw[hf,ht];rfl
    rw[ed]at fL fH tb ⊢
    clear ok ed
    generalize jL p (nth pr f-nth pr t)=L at*
    generalize fT p (nth pr f-nth pr t)=Hh at*
    generalize nth pr f=x at*
    generalize nth pr t=y at*
    obtain⟨⟨p1,p2,p3,p4,p5,p6,p7,p8,p9,p10⟩,p11,p12⟩:=p
    simp only at hf ht
    subst hf ht
    simp only[kP.e]at*
    clear h
    by_cases c:(f:Int)=i
    · simp only[if_pos c]at tb ⊢
      obtain rfl:f=i:=by omega
      simp(disch:=omega)only[go_sem,K.dm,↓reduceIte,g1,g2,jl,gf,gt,fL,fH,reduceAdd,reduceSub]
    · simp only[if_neg c]at tb ⊢
      have ns:S+ -L=S-L:=by omega
      simp(disch:=omega)only[go_sem,K.dm,↓reduceIte,g1,g2,jl,gf,gt,fL,fH,c,ns,reduceAdd,reduceSub]
  · simp only[jr]
    simp(disch:=omega)only[go_sem,K.dm,↓reduceIte,reduceAdd,reduceSub]
 unfold Ck
 clear pb
 generalize jr A tf td pr i=R at*
 simp(disch:=omega)only[go_sem,K.bV,↓reduceIte,key,ga,reduceAdd,reduceSub]
theorem Lx{A:Air}{tf td:List Int}(h:ny A tf td){pr:List Int}(pl:Lv A pr){i:Nat}(hi:i<A.m.aa.length):bL 0 N.bV [.t (Ck A tf td),.ref 0 0 pr.length,I i] [arI pr]=some (I (jr A tf td pr i),[arI pr]):=by
 refine aI K.kJ rfl ?_
 obtain⟨pl,pb⟩:=pl
 have np:=h.np
 have nr:=h.nr
 have al:(atA A tf td i).length≤A.m.roads.length:=yy A tf td A.m.roads.length i
 have ga:((List.range A.m.aa.length).map fun p=>tL (atA A tf td p))[i]?=some (tL (atA A tf td i)):=by simp[hi]
 have key:∀z0 z4 z6 z7 z8:D,exS bL K.ni ⟨[z0,.ref 0 0 pr.length,I i,.bp 1 0,z4,I 0,z6,z7,z8,.t (tL (atA A tf td i)),I (atA A tf td i).length,I 0],[arI pr,.box [.t (.sl ((aB A tf td).map kP.e)),.t (.sl ((List.range A.m.aa.length).map fun p=>tL (atA A tf td p)))]]⟩=
  some (.exit 0,⟨[.und,.ref 0 0 pr.length,I i,.bp 1 0,.und,I (jr A tf td pr i),.und,.und,.und,.t (tL (atA A tf td i)),I (atA A tf td i).length,I (atA A tf td i).length],[arI pr,.box [.t (.sl ((aB A tf td).map kP.e)),.t (.sl ((List.range A.m.aa.length).map fun p=>tL (atA A tf td p)))]]⟩):=by
  intro z0 z4 z6 z7 z8
  refine cT (fun j=>⟨[.und,.ref 0 0 pr.length,I i,.bp 1 0,.und,I (eL (uo A tf td pr i) j),.und,.und,.und,.t (tL (atA A tf td i)),I (atA A tf td i).length,I j],[arI pr,.box [.t (.sl ((aB A tf td).map kP.e)),.t (.sl ((List.range A.m.aa.length).map fun p=>tL (atA A tf td p)))]]⟩) (atA A tf td i).length rfl ?_ ?_ (by simp)
  · intro j hj
    have sb:=w8 (f:=uo A tf td pr i) (C:=1048577) j fun k hk=>by have:=wt h pr i (j:=k) (by omega);omega
    have ap:=yz h hj
    have ok:=je h ap.1
    have fL:=(mg ok (dP pr (nth (aB A tf td) (nth (atA A tf td i) j).toNat))).1
    have fH:=(kg ok (dP pr (nth (aB A tf td) (nth (atA A tf td i) j).toNat))).1
    have tb:=wt h pr i hj
    have g1:((atA A tf td i).map (T.int .i64))[j]?=some (tI (nth (atA A tf td i) j)):=aQ _ hj
    have g2:((aB A tf td).map kP.e)[(nth (atA A tf td i) j).toNat]?=some (nth (aB A tf td) (nth (atA A tf td i) j).toNat).e:=aQ _ ap.1
    have jl:(j:Int)<(atA A tf td i).length:=by omega
    have nj:((j+1:Nat):Int)=(j:Int)+1:=by omega
    have nx:eL (uo A tf td pr i) (j+1)=eL (uo A tf td pr i) j+uo A tf td pr i j:=rfl
    rw[nx,nj]
    have ti:uo A tf td pr i j=if(nth (aB A tf td) (nth (atA A tf td i) j).toNat).cL.frm=i then fT (nth (aB A tf td) (nth (atA A tf td i) j).toNat) (dP pr (nth (aB A tf td) (nth (atA A tf td i) j).toNat))else -jL (nth (aB A tf td) (nth (atA A tf td i) j).toNat) (dP pr (nth (aB A tf td) (nth (atA A tf td i) j).toNat)):=rfl
    rw[ti]at tb ⊢
    clear nx ti
    generalize eL (uo A tf td pr i) j=S at*
    generalize nth (atA A tf td i) j=kk at*
    obtain⟨kk,rfl⟩:=Int.eq_ofNat_of_zero_le ap.2
    simp only[Int.toNat_natCast]at*
    generalize nth (aB A tf td) kk=p at*
    obtain⟨f,hf⟩:=Int.eq_ofNat_of_zero_le ok.f0
    obtain⟨t,ht⟩:=Int.eq_ofNat_of_zero_le ok.t0
    have f1:=ok.f1
    have t1:=ok.t1
    have gf:((pr.map (T.int .i64)).map D.t)[f]?=some (I (nth pr f)):=cE _ _ (by omega)
    have gt:((pr.map (T.int .i64)).map D.t)[t]?=some (I (nth pr t)):=cE _ _ (by omega)
    have bf:=pb _ (ak (l:=pr) (j:=f) (by omega))
    have bt:=pb _ (ak (l:=pr) (j:=t) (by omega))
    have ed:dP pr p=nth pr f-nth pr t:=by unfold dP;rw[hf,ht];rfl
    rw[ed]at fL fH tb ⊢
    clear ok ed
    generalize jL p (nth pr f-nth pr t)=L at*
    generalize fT p (nth pr f-nth pr t)=Hh at*
    generalize nth pr f=x at*
    generalize nth pr t=y at*
    obtain⟨⟨p1,p2,p3,p4,p5,p6,p7,p8,p9,p10⟩,p11,p12⟩:=p
    simp only at hf ht
    subst hf ht
    simp only[kP.e]at*
    clear h
    by_cases c:(f:Int)=i
    · simp only[if_pos c]at tb ⊢
      obtain rfl:f=i:=by omega
      simp(disch:=omega)only[go_sem,K.dm,↓reduceIte,g1,g2,jl,gf,gt,fL,fH,reduceAdd,reduceSub]
    · simp only[if_neg c]at tb ⊢
      have ns:S+ -L=S-L:=by omega
      simp(disch:=omega)only[go_sem,K.dm,↓reduceIte,g1,g2,jl,gf,gt,fL,fH,c,ns,reduceAdd,reduceSub]
  · simp only[jr]
    simp(disch:=omega)only[go_sem,K.dm,↓reduceIte,reduceAdd,reduceSub]
 unfold Ck
 clear pb
 generalize jr A tf td pr i=R at*
 simp(disch:=omega)only[go_sem,K.bV,↓reduceIte,key,ga,reduceAdd,reduceSub]
abbrev seH(np i:Nat)(a b:T)(pr:List Int)(x:Int):af:=[.box [.ref 3 0 np],.box [I i],.box [.t a,.t b],arI (pr.set i x)]
def Holds(f np i:Nat)(a b:T)(pr:List Int)(hv:Int→Bool):Prop:=∀x y:Int, -70368744177664≤y→y≤70368744177664→
 bL 0 f [I y,.bp 0 0,.bp 1 0,.bp 2 0] (seH np i a b pr x)=some (B (hv y),seH np i a b pr y)
theorem OM{f np i:Nat}{a b:T}{pr:List Int}{hv:Int→Bool}(h:Holds f np i a b pr hv){s room:Int}(s0: -70368744177664≤s)(s1:s≤70368744177664)(hr:room=70368744177664-s)(x0:Int)(z1 z3 z4 z9:D):
 ∃q,exS bL K.pq ⟨[I s,z1,.fn f [.bp 0 0,.bp 1 0,.bp 2 0],z3,z4,I 1,I room,I 0,I 1,z9],seH np i a b pr x0⟩=some q∧
  ∃bad good x:Int,q=(.exit 0,⟨[I s,.und,.fn f [.bp 0 0,.bp 1 0,.bp 2 0],.und,.und,I 1,I room,I bad,I good,.und],seH np i a b pr x⟩)∧0≤bad∧bad<good∧good≤281474976710656:=by
 refine sq (fun M st=>∃bad good x:Int,st=⟨[I s,.und,.fn f [.bp 0 0,.bp 1 0,.bp 2 0],.und,.und,I 1,I room,I bad,I good,.und],seH np i a b pr x⟩∧0≤bad∧bad<good∧good≤281474976710656∧M=(281474976710656-good).toNat) 281474976710655 _
  ⟨0,1,x0,by simp only[go_sem],by omega,by omega,by omega,by omega⟩ ?_
 rintro M _ ⟨bad,good,x,rfl,h1,h2,h3,rfl⟩
 by_cases c:good<room
 · have hc:=h x (s+good) (by omega) (by omega)
   cases v:hv (s+good)with
   | true=>
     refine .inr ⟨_,?_,by simp,bad,good,s+good,rfl,h1,h2,h3⟩
     rw[v]at hc
     simp only[seH]at*
     simp(disch:=omega)only[go_sem,K.eI,↓reduceIte,c,hc,Int.one_mul,reduceAdd,reduceSub]
   | false=>
     refine .inl ⟨⟨[I s,.und,.fn f [.bp 0 0,.bp 1 0,.bp 2 0],.und,.und,I 1,I room,I good,I (good*2),.und],seH np i a b pr (s+good)⟩,(281474976710656-good*2).toNat,by omega,?_,good,good*2,s+good,rfl,by omega,by omega,by omega,rfl⟩
     rw[v]at hc
     simp only[seH,arI]at*
     simp(disch:=omega)only[go_sem,K.eI,↓reduceIte,c,hc,Int.one_mul,reduceAdd,reduceSub]
 · refine .inr ⟨_,?_,by simp,bad,good,x,rfl,h1,h2,h3⟩
   simp(disch:=omega)only[go_sem,K.eI,↓reduceIte,c,reduceAdd,reduceSub]
theorem Gz{f np i:Nat}{a b:T}{pr:List Int}{hv:Int→Bool}(h:Holds f np i a b pr hv){s room:Int}(s0: -70368744177664≤s)(s1:s≤70368744177664)(hr:room=70368744177664-s){bad good:Int}(b0:0≤bad)(b1:bad<good)(b2:good≤room)(x0:Int)(z1 z3 z4 z6 z9:D):
 ∃q,exS bL K.pv ⟨[I s,z1,.fn f [.bp 0 0,.bp 1 0,.bp 2 0],z3,z4,I 1,z6,I bad,I good,z9],seH np i a b pr x0⟩=some q∧
  ∃bad good x:Int,q=(.exit 2,⟨[I s,.und,.fn f [.bp 0 0,.bp 1 0,.bp 2 0],.und,.und,I 1,.und,I bad,I good,.und],seH np i a b pr x⟩)∧0≤bad∧bad<good∧good≤room:=by
 refine sq (fun M st=>∃bad good x:Int,st=⟨[I s,.und,.fn f [.bp 0 0,.bp 1 0,.bp 2 0],.und,.und,I 1,.und,I bad,I good,.und],seH np i a b pr x⟩∧0≤bad∧bad<good∧good≤room∧M=(good-bad).toNat) (good-bad).toNat _
  ⟨bad,good,x0,by simp only[go_sem],b0,b1,b2,rfl⟩ ?_
 rintro M _ ⟨bad,good,x,rfl,h1,h2,h3,rfl⟩
 by_cases c:bad+1<good
 · have tq:(good-bad).tdiv 2=(good-bad) / 2:=Int.tdiv_eq_ediv_of_nonneg (by omega)
   obtain⟨mid,hm⟩:∃mid,bad+(good-bad) / 2=mid:=⟨_,rfl⟩
   have hc:=h x (s+mid) (by omega) (by omega)
   cases v:hv (s+mid)with
   | true=>
     refine .inl ⟨⟨[I s,.und,.fn f [.bp 0 0,.bp 1 0,.bp 2 0],.und,.und,I 1,.und,I bad,I mid,.und],seH np i a b pr (s+mid)⟩,(mid-bad).toNat,by omega,?_,bad,mid,_,rfl,by omega,by omega,by omega,rfl⟩
     rw[v]at hc
     simp only[seH,arI]at*
     simp(disch:=omega)only[go_sem,K.eJ,↓reduceIte,c,hc,tq,hm,Int.one_mul,reduceAdd,reduceSub]
   | false=>
     refine .inl ⟨⟨[I s,.und,.fn f [.bp 0 0,.bp 1 0,.bp 2 0],.und,.und,I 1,.und,I mid,I good,.und],seH np i a b pr (s+mid)⟩,(good-mid).toNat,by omega,?_,mid,good,_,rfl,by omega,by omega,by omega,rfl⟩
     rw[v]at hc
     simp only[seH,arI]at*
     simp(disch:=omega)only[go_sem,K.eJ,↓reduceIte,c,hc,tq,hm,Int.one_mul,reduceAdd,reduceSub]
 · refine .inr ⟨_,?_,by simp,bad,good,x,rfl,h1,h2,h3⟩
   simp(disch:=omega)only[go_sem,K.eJ,↓reduceIte,c,reduceAdd,reduceSub]
theorem Sn{f np i:Nat}{a b:T}{pr:List Int}{hv:Int→Bool}(h:Holds f np i a b pr hv){s:Int}(s0: -70368744177664≤s)(s1:s≤70368744177664)(x0:Int):
 ∃(v:Int) (ok:Bool) (x:Int),bL 0 N.bA [I s,B true,.fn f [.bp 0 0,.bp 1 0,.bp 2 0]] (seH np i a b pr x0)=some (.tup [I v,B ok],seH np i a b pr x)∧(ok=true→ -70368744177664≤v∧v≤70368744177664∧(v=s→hv s=true)):=by
 have hc:=h x0 s s0 s1
 cases v:hv s with
 | true=>
   refine⟨s,true,s,aI K.cm rfl ?_,fun _=>⟨s0,s1,fun _=>rfl⟩⟩
   rw[v]at hc
   simp only[seH,arI]at*
   simp(disch:=omega)only[go_sem,K.bA,↓reduceIte,hc,reduceAdd,reduceSub]
 | false=>
   rw[v]at hc
   obtain⟨room,hr⟩:∃room:Int,room=70368744177664-s:=⟨_,rfl⟩
   obtain⟨q1,k1,bad,good,x1,rfl,a0,a1,a2⟩:=OM h s0 s1 hr s (B true) (I 0) (B false) .und
   by_cases c:good≥room
   · by_cases d:room≤bad
     · refine⟨0,false,x1,aI K.cm rfl ?_,fun e=>by cases e⟩
       clear h
       simp only[seH,arI]at*
       simp(disch:=omega)only[go_sem,K.bA,↓reduceIte,hc,k1,←hr,c,d,Int.one_mul,reduceAdd,reduceSub]
     · have hc2:=h x1 (s+room) (by omega) (by omega)
       cases w:hv (s+room)with
       | false=>
         refine⟨0,false,s+room,aI K.cm rfl ?_,fun e=>by cases e⟩
         rw[w]at hc2
         clear h
         simp only[seH,arI]at*
         simp(disch:=omega)only[go_sem,K.bA,↓reduceIte,hc,k1,←hr,c,d,hc2,Int.one_mul,reduceAdd,reduceSub]
       | true=>
         obtain⟨q2,k2,bad2,good2,x2,rfl,b0,b1,b2⟩:=Gz h s0 s1 hr (bad:=bad) (good:=room) (by omega) (by omega) (by omega) (s+room) .und .und .und (I room) .und
         refine⟨s+good2,true,x2,aI K.cm rfl ?_,fun _=>⟨by omega,by omega,fun e=>by omega⟩⟩
         rw[w]at hc2
         clear h
         simp only[seH,arI]at*
         simp(disch:=omega)only[go_sem,K.bA,↓reduceIte,hc,k1,←hr,c,d,hc2,k2,Int.one_mul,reduceAdd,reduceSub]
   · obtain⟨q2,k2,bad2,good2,x2,rfl,b0,b1,b2⟩:=Gz h s0 s1 hr (bad:=bad) (good:=good) (by omega) (by omega) (by omega) x1 .und .und .und (I room) .und
     refine⟨s+good2,true,x2,aI K.cm rfl ?_,fun _=>⟨by omega,by omega,fun e=>by omega⟩⟩
     clear h
     simp only[seH,arI]at*
     simp(disch:=omega)only[go_sem,K.bA,↓reduceIte,hc,k1,←hr,c,k2,Int.one_mul,reduceAdd,reduceSub]
theorem ON{f np i:Nat}{a b:T}{pr:List Int}{hv:Int→Bool}(h:Holds f np i a b pr hv){s room:Int}(s0: -70368744177664≤s)(s1:s≤70368744177664)(hr:room=s+70368744177664)(x0:Int)(z1 z3 z4 z9:D):
 ∃q,exS bL K.pq ⟨[I s,z1,.fn f [.bp 0 0,.bp 1 0,.bp 2 0],z3,z4,I (-1),I room,I 0,I 1,z9],seH np i a b pr x0⟩=some q∧
  ∃bad good x:Int,q=(.exit 0,⟨[I s,.und,.fn f [.bp 0 0,.bp 1 0,.bp 2 0],.und,.und,I (-1),I room,I bad,I good,.und],seH np i a b pr x⟩)∧0≤bad∧bad<good∧good≤281474976710656:=by
 refine sq (fun M st=>∃bad good x:Int,st=⟨[I s,.und,.fn f [.bp 0 0,.bp 1 0,.bp 2 0],.und,.und,I (-1),I room,I bad,I good,.und],seH np i a b pr x⟩∧0≤bad∧bad<good∧good≤281474976710656∧M=(281474976710656-good).toNat) 281474976710655 _
  ⟨0,1,x0,by simp only[go_sem],by omega,by omega,by omega,by omega⟩ ?_
 rintro M _ ⟨bad,good,x,rfl,h1,h2,h3,rfl⟩
 by_cases c:good<room
 · have hc:=h x (s+ -good) (by omega) (by omega)
   cases v:hv (s+ -good)with
   | true=>
     refine .inr ⟨_,?_,by simp,bad,good,s+ -good,rfl,h1,h2,h3⟩
     rw[v]at hc
     simp only[seH]at*
     simp(disch:=omega)only[go_sem,K.eI,↓reduceIte,c,hc,Int.neg_mul,Int.one_mul,reduceAdd,reduceSub]
   | false=>
     refine .inl ⟨⟨[I s,.und,.fn f [.bp 0 0,.bp 1 0,.bp 2 0],.und,.und,I (-1),I room,I good,I (good*2),.und],seH np i a b pr (s+ -good)⟩,(281474976710656-good*2).toNat,by omega,?_,good,good*2,s+ -good,rfl,by omega,by omega,by omega,rfl⟩
     rw[v]at hc
     simp only[seH,arI]at*
     simp(disch:=omega)only[go_sem,K.eI,↓reduceIte,c,hc,Int.neg_mul,Int.one_mul,reduceAdd,reduceSub]
 · refine .inr ⟨_,?_,by simp,bad,good,x,rfl,h1,h2,h3⟩
   simp(disch:=omega)only[go_sem,K.eI,↓reduceIte,c,reduceAdd,reduceSub]
theorem GA{f np i:Nat}{a b:T}{pr:List Int}{hv:Int→Bool}(h:Holds f np i a b pr hv){s room:Int}(s0: -70368744177664≤s)(s1:s≤70368744177664)(hr:room=s+70368744177664){bad good:Int}(b0:0≤bad)(b1:bad<good)(b2:good≤room)(x0:Int)(z1 z3 z4 z6 z9:D):
 ∃q,exS bL K.pv ⟨[I s,z1,.fn f [.bp 0 0,.bp 1 0,.bp 2 0],z3,z4,I (-1),z6,I bad,I good,z9],seH np i a b pr x0⟩=some q∧
  ∃bad good x:Int,q=(.exit 2,⟨[I s,.und,.fn f [.bp 0 0,.bp 1 0,.bp 2 0],.und,.und,I (-1),.und,I bad,I good,.und],seH np i a b pr x⟩)∧0≤bad∧bad<good∧good≤room:=by
 refine sq (fun M st=>∃bad good x:Int,st=⟨[I s,.und,.fn f [.bp 0 0,.bp 1 0,.bp 2 0],.und,.und,I (-1),.und,I bad,I good,.und],seH np i a b pr x⟩∧0≤bad∧bad<good∧good≤room∧M=(good-bad).toNat) (good-bad).toNat _
  ⟨bad,good,x0,by simp only[go_sem],b0,b1,b2,rfl⟩ ?_
 rintro M _ ⟨bad,good,x,rfl,h1,h2,h3,rfl⟩
 by_cases c:bad+1<good
 · have tq:(good-bad).tdiv 2=(good-bad) / 2:=Int.tdiv_eq_ediv_of_nonneg (by omega)
   obtain⟨mid,hm⟩:∃mid,bad+(good-bad) / 2=mid:=⟨_,rfl⟩
   have hc:=h x (s+ -mid) (by omega) (by omega)
   cases v:hv (s+ -mid)with
   | true=>
     refine .inl ⟨⟨[I s,.und,.fn f [.bp 0 0,.bp 1 0,.bp 2 0],.und,.und,I (-1),.und,I bad,I mid,.und],seH np i a b pr (s+ -mid)⟩,(mid-bad).toNat,by omega,?_,bad,mid,_,rfl,by omega,by omega,by omega,rfl⟩
     rw[v]at hc
     simp only[seH,arI]at*
     simp(disch:=omega)only[go_sem,K.eJ,↓reduceIte,c,hc,tq,hm,Int.neg_mul,Int.one_mul,reduceAdd,reduceSub]
   | false=>
     refine .inl ⟨⟨[I s,.und,.fn f [.bp 0 0,.bp 1 0,.bp 2 0],.und,.und,I (-1),.und,I mid,I good,.und],seH np i a b pr (s+ -mid)⟩,(good-mid).toNat,by omega,?_,mid,good,_,rfl,by omega,by omega,by omega,rfl⟩
     rw[v]at hc
     simp only[seH,arI]at*
     simp(disch:=omega)only[go_sem,K.eJ,↓reduceIte,c,hc,tq,hm,Int.neg_mul,Int.one_mul,reduceAdd,reduceSub]
 · refine .inr ⟨_,?_,by simp,bad,good,x,rfl,h1,h2,h3⟩
   simp(disch:=omega)only[go_sem,K.eJ,↓reduceIte,c,reduceAdd,reduceSub]
theorem Sp{f np i:Nat}{a b:T}{pr:List Int}{hv:Int→Bool}(h:Holds f np i a b pr hv){s:Int}(s0: -70368744177664≤s)(s1:s≤70368744177664)(x0:Int):
 ∃(v:Int) (ok:Bool) (x:Int),bL 0 N.bA [I s,B false,.fn f [.bp 0 0,.bp 1 0,.bp 2 0]] (seH np i a b pr x0)=some (.tup [I v,B ok],seH np i a b pr x)∧(ok=true→ -70368744177664≤v∧v≤70368744177664∧(v=s→hv s=true)):=by
 have hc:=h x0 s s0 s1
 cases v:hv s with
 | true=>
   refine⟨s,true,s,aI K.cm rfl ?_,fun _=>⟨s0,s1,fun _=>rfl⟩⟩
   rw[v]at hc
   simp only[seH,arI]at*
   simp(disch:=omega)only[go_sem,K.bA,↓reduceIte,hc,reduceAdd,reduceSub]
 | false=>
   rw[v]at hc
   obtain⟨room,hr⟩:∃room:Int,room=s+70368744177664:=⟨_,rfl⟩
   obtain⟨q1,k1,bad,good,x1,rfl,a0,a1,a2⟩:=ON h s0 s1 hr s (B false) (I 0) (B false) .und
   by_cases c:good≥room
   · by_cases d:room≤bad
     · refine⟨0,false,x1,aI K.cm rfl ?_,fun e=>by cases e⟩
       clear h
       simp only[seH,arI]at*
       simp(disch:=omega)only[go_sem,K.bA,↓reduceIte,hc,k1,←hr,c,d,Int.neg_mul,Int.one_mul,reduceAdd,reduceSub]
     · have hc2:=h x1 (s+ -room) (by omega) (by omega)
       cases w:hv (s+ -room)with
       | false=>
         refine⟨0,false,s+ -room,aI K.cm rfl ?_,fun e=>by cases e⟩
         rw[w]at hc2
         clear h
         simp only[seH,arI]at*
         simp(disch:=omega)only[go_sem,K.bA,↓reduceIte,hc,k1,←hr,c,d,hc2,Int.neg_mul,Int.one_mul,reduceAdd,reduceSub]
       | true=>
         obtain⟨q2,k2,bad2,good2,x2,rfl,b0,b1,b2⟩:=GA h s0 s1 hr (bad:=bad) (good:=room) (by omega) (by omega) (by omega) (s+ -room) .und .und .und (I room) .und
         refine⟨s+ -good2,true,x2,aI K.cm rfl ?_,fun _=>⟨by omega,by omega,fun e=>by omega⟩⟩
         rw[w]at hc2
         clear h
         simp only[seH,arI]at*
         simp(disch:=omega)only[go_sem,K.bA,↓reduceIte,hc,k1,←hr,c,d,hc2,k2,Int.neg_mul,Int.one_mul,reduceAdd,reduceSub]
   · obtain⟨q2,k2,bad2,good2,x2,rfl,b0,b1,b2⟩:=GA h s0 s1 hr (bad:=bad) (good:=good) (by omega) (by omega) (by omega) x1 .und .und .und (I room) .und
     refine⟨s+ -good2,true,x2,aI K.cm rfl ?_,fun _=>⟨by omega,by omega,fun e=>by omega⟩⟩
     clear h
     simp only[seH,arI]at*
     simp(disch:=omega)only[go_sem,K.bA,↓reduceIte,hc,k1,←hr,c,k2,Int.neg_mul,Int.one_mul,reduceAdd,reduceSub]
theorem CV{l:List Int}{i:Nat}:l.set i (nth l i)=l:=by
 apply List.ext_getElem?
 intro j
 by_cases e:i=j
 · subst e
   by_cases h:i<l.length
   · rw[aLj h,CR h]
   · rw[aLm (by rw[List.length_set];omega),aLm (by omega)]
 · rw[aLi e]
theorem Lv.set{A:Air}{pr:List Int}(h:Lv A pr)(i:Nat){y:Int}(y0: -70368744177664≤y)(y1:y≤70368744177664):Lv A (pr.set i y):=by
 refine⟨by rw[List.length_set];exact h.1,fun x hx=>?_⟩
 rcases aLk hx with hx | rfl
 · exact h.2 x hx
 · exact⟨y0,y1⟩
theorem Xr(H:af)(ts:List Int)(hl:ts.length≤4294967296):rX (.arr 1 false 0 ((ts.map (T.int .i64)).map .t)::H) 1 true (some .nil) (some (.ref 0 0 ts.length))=
 some (.ref (H.length+1) 0 ts.length,.arr 1 false 0 ((ts.map (T.int .i64)).map .t)::(H++[.arr 1 false 0 ((ts.map (T.int .i64)).map .t)])):=by
 have e:elems (.arr 1 false 0 ((ts.map (T.int .i64)).map .t)::H) (.ref 0 0 ts.length)=some ((ts.map (T.int .i64)).map .t):=by
  simp[elems,fV]
 have h1:cD 1 ((ts.map (T.int .i64)).map D.t)=true:=by cases ts<;>rfl
 have h2:((ts.map (T.int .i64)).map D.t).flatMap (gu (.arr 1 false 0 ((ts.map (T.int .i64)).map .t)::H) depth)=[]:=by
  rw[List.flatMap_eq_nil_iff]
  intro d hd
  obtain⟨t, -,rfl⟩:=List.mem_map.1 hd
  rfl
 simp only[rX,aLq,pZ,e,if_true,wT,h1,h2,pins,List.length_map,List.length_cons,lim]
 rw[if_pos hl]
 rfl
abbrev ats(A:Air)(tf td:List Int):T:= .sl ((List.range A.m.aa.length).map fun p=>tL (atA A tf td p))
abbrev sw(A:Air)(tf td:List Int):T:= .sl ((aB A tf td).map kP.e)
theorem Lz{A:Air}{tf td:List Int}(h:ny A tf td){pr:List Int}(hp:Lv A pr){i:Nat}(hi:i<A.m.aa.length):
 Holds N.b8 pr.length i (sw A tf td) (ats A tf td) pr (fun x=>decide (mP A tf td (pr.set i x) i≥0)):=by
 intro x y y0 y1
 refine aI K.lK rfl ?_
 have nl:=OL h (hp.set i y0 y1) hi
 have np:=h.np
 have pl:=hp.1
 have gx:(iz (pr.set i x))[i]?=some (I (nth (pr.set i x) i)):=cE _ _ (by rw[List.length_set];omega)
 have ss:(pr.set i x).set i y=pr.set i y:=List.set_set ..
 have ll:∀z,(pr.set i z).length=pr.length:=fun z=>List.length_set
 rw[ll]at nl
 have hi2:i<pr.length:=by omega
 clear h hp
 show _=some (B (decide (mP A tf td (pr.set i y) i≥0)),seH pr.length i (sw A tf td) (ats A tf td) pr y)
 generalize mP A tf td (pr.set i y) i=R at*
 unfold Ck at nl
 generalize nth (pr.set i x) i=w at*
 simp only[seH,arI,sw,ats]at*
 simp(disch:=omega)only[go_sem,K.b8,↓reduceIte,nl,gx,ss,ll,reduceAdd,reduceSub]
theorem abC{A:Air}{tf td:List Int}(h:ny A tf td){pr:List Int}(hp:Lv A pr){i:Nat}(hi:i<A.m.aa.length):
 ∃(v:Int) (ok:Bool),bL 0 N.cA [.t (Ck A tf td),.ref 0 0 pr.length,I i] [arI pr]=some (.tup [I v,B ok],[arI pr])∧
  (ok=true→ -70368744177664≤v∧v≤70368744177664∧(v=nth pr i→mP A tf td pr i≥0)):=by
 have b:=hp.2 _ (ak (l:=pr) (j:=i) (by have:=hp.1;omega))
 obtain⟨v,ok,x,e,f⟩:=Sn (Lz h hp hi) b.1 b.2 (nth pr i)
 refine⟨v,ok,aI K.nu rfl ?_,fun o=>⟨(f o).1,(f o).2.1,fun k=>?_⟩⟩
 · have gx:(iz pr)[i]?=some (I (nth pr i)):=cE _ _ (by have:=hp.1;omega)
   have pl:=hp.1
   have np:=h.np
   have es:seH pr.length i (sw A tf td) (ats A tf td) pr (nth pr i)=[.box [.ref 3 0 pr.length],.box [I i],.box [.t (sw A tf td),.t (ats A tf td)],arI pr]:=by
    simp only[seH,CV]
   rw[es]at e
   clear f b hp h es
   generalize nth pr i=w at*
   unfold Ck
   simp only[seH,arI,sw,ats]at*
   simp(disch:=omega)only[go_sem,K.cA,↓reduceIte,e,gx,Xr,List.cons_append,List.nil_append,reduceAdd,reduceSub]
 · have:=(f o).2.2 k
   simp only[decide_eq_true_eq,CV]at this
   exact this
theorem Fj{A:Air}{tf td:List Int}(h:ny A tf td){pr:List Int}(hp:Lv A pr){i:Nat}(hi:i<A.m.aa.length):
 Holds N.bG pr.length i (sw A tf td) (ats A tf td) pr (fun x=>decide (jr A tf td (pr.set i x) i≤0)):=by
 intro x y y0 y1
 refine aI K.jJ rfl ?_
 have nl:=Lx h (hp.set i y0 y1) hi
 have np:=h.np
 have pl:=hp.1
 have gx:(iz (pr.set i x))[i]?=some (I (nth (pr.set i x) i)):=cE _ _ (by rw[List.length_set];omega)
 have ss:(pr.set i x).set i y=pr.set i y:=List.set_set ..
 have ll:∀z,(pr.set i z).length=pr.length:=fun z=>List.length_set
 rw[ll]at nl
 have hi2:i<pr.length:=by omega
 clear h hp
 show _=some (B (decide (jr A tf td (pr.set i y) i≤0)),seH pr.length i (sw A tf td) (ats A tf td) pr y)
 generalize jr A tf td (pr.set i y) i=R at*
 unfold Ck at nl
 generalize nth (pr.set i x) i=w at*
 simp only[seH,arI,sw,ats]at*
 simp(disch:=omega)only[go_sem,K.bG,↓reduceIte,nl,gx,ss,ll,reduceAdd,reduceSub]
theorem OO{A:Air}{tf td:List Int}(h:ny A tf td){pr:List Int}(hp:Lv A pr){i:Nat}(hi:i<A.m.aa.length):
 ∃(v:Int) (ok:Bool),bL 0 N.bK [.t (Ck A tf td),.ref 0 0 pr.length,I i] [arI pr]=some (.tup [I v,B ok],[arI pr])∧
  (ok=true→ -70368744177664≤v∧v≤70368744177664∧(v=nth pr i→jr A tf td pr i≤0)):=by
 have b:=hp.2 _ (ak (l:=pr) (j:=i) (by have:=hp.1;omega))
 obtain⟨v,ok,x,e,f⟩:=Sp (Fj h hp hi) b.1 b.2 (nth pr i)
 refine⟨v,ok,aI K.kD rfl ?_,fun o=>⟨(f o).1,(f o).2.1,fun k=>?_⟩⟩
 · have gx:(iz pr)[i]?=some (I (nth pr i)):=cE _ _ (by have:=hp.1;omega)
   have pl:=hp.1
   have np:=h.np
   have es:seH pr.length i (sw A tf td) (ats A tf td) pr (nth pr i)=[.box [.ref 3 0 pr.length],.box [I i],.box [.t (sw A tf td),.t (ats A tf td)],arI pr]:=by
    simp only[seH,CV]
   rw[es]at e
   clear f b hp h es
   generalize nth pr i=w at*
   unfold Ck
   simp only[seH,arI,sw,ats]at*
   simp(disch:=omega)only[go_sem,K.bK,↓reduceIte,e,gx,Xr,List.cons_append,List.nil_append,reduceAdd,reduceSub]
 · have:=(f o).2.2 k
   simp only[decide_eq_true_eq,CV]at this
   exact this
theorem Sq{gc:Bool}{dead:List Nat}{c:C}{vs:List D}{H:af}(P:Nat→St→Prop)(n:Nat)(Q:Ex×St→Prop)(h0:P 0 ⟨jg dead vs,H⟩)
 (hs:∀j st,j<n→P j st→(∃st',om gc dead st.H.length (exS bL c st)=some st'∧P (j+1) st')∨∃q,exS bL c st=some q∧q.1≠ .normal∧Q q)
 (he:∀st,P n st→∃q,exS bL c st=some q∧q.1≠ .normal∧Q q):∃q,exS bL (.loop gc dead c) ⟨vs,H⟩=some q∧Q q:=by
 refine sq (fun m st=>∃j,j≤n∧m=n-j∧P j st) n Q ⟨0,by omega,by omega,h0⟩ ?_
 rintro m st ⟨j,hj,rfl,hp⟩
 by_cases e:j=n
 · subst e;exact .inr (he st hp)
 · rcases hs j st (by omega) hp with⟨st',h1,h2⟩ | h
   · exact .inl ⟨st',n-(j+1),by omega,h1,j+1,by omega,rfl,h2⟩
   · exact .inr h
structure prS(A:Air)(pr:List Int):Prop where
 ok:Lv A pr
 sf:∀i,i<A.m.aa.length→(nth A.m.aa i).surf=true→nth pr i=0
abbrev jN(A:Air):List T:=(List.replicate A.m.aa.length false).map T.bool
theorem CW{A:Air}{j:Nat}(h:j<A.m.aa.length):(jN A)[j]?=some (.bool false):=by simp[h]
theorem HK{A:Air}{tf td:List Int}(h:ny A tf td)(ht:wq A.m){pr:List Int}(hp:prS A pr):bL 0 N.jq [.t A.e,.t (pX tf td),.t (tL pr)] []=some (I 0,[]):=by
 refine aI K.ug rfl ?_
 have bc:=sr h
 have fc:=AR h
 have np:=h.np
 have lo:bL 0 N.cJ [.t A.m.e] []=some (.t (.sl (jN A)),[]):=HH h.ok h.np h.nr ht
 obtain⟨⟨pl,pb⟩,sf⟩:=hp
 have k1:∀z0 z1 z4 z5 z6 z7 z8 z9 z10 z14 z15 z16:D,exS bL K.xP ⟨[z0,z1,.t (tL pr),.bp 0 0,z4,z5,z6,z7,z8,z9,z10,.t (tL pr),I pr.length,I 0,z14,z15,z16],[mZ A,.box [.t (tL tf),.t (tL td)]]⟩=
  some (.exit 0,⟨[.und,.und,.t (tL pr),.bp 0 0,.und,.und,.und,.und,.und,.und,.und,.t (tL pr),I pr.length,I pr.length,.und,.und,.und],[mZ A,.box [.t (tL tf),.t (tL td)]]⟩):=by
  intro z0 z1 z4 z5 z6 z7 z8 z9 z10 z14 z15 z16
  refine cT (fun j=>⟨[.und,.und,.t (tL pr),.bp 0 0,.und,.und,.und,.und,.und,.und,.und,.t (tL pr),I pr.length,I j,.und,.und,.und],[mZ A,.box [.t (tL tf),.t (tL td)]]⟩) pr.length rfl ?_ ?_ (by simp)
  · intro j hj
    have b:=pb _ (ak hj)
    have g1:(pr.map (T.int .i64))[j]?=some (tI (nth pr j)):=aQ _ hj
    have jl:(j:Int)<pr.length:=by omega
    have n1:¬nth pr j< -70368744177664:=by omega
    have n2:¬nth pr j>70368744177664:=by omega
    generalize nth pr j=x at*
    simp only[mZ]
    simp(disch:=omega)only[go_sem,K.qZ,↓reduceIte,g1,jl,n1,n2,reduceAdd,reduceSub]
  · simp only[mZ]
    simp(disch:=omega)only[go_sem,K.qZ,↓reduceIte,reduceAdd,reduceSub]
 have k2:∀z0 z1 z3 z4 z5 z6 z7 z9 z10 z11 z12 z13:D,exS bL K.xQ ⟨[z0,z1,.t (tL pr),z3,z4,z5,z6,z7,.t (.sl (jN A)),z9,z10,z11,z12,z13,.t (.sl (A.m.aa.map Place.e)),I A.m.aa.length,I 0],[mZ A,.box [.t (tL tf),.t (tL td)]]⟩=
  some (.exit 2,⟨[.und,.und,.t (tL pr),.und,.und,.und,.und,.und,.t (.sl (jN A)),.und,.und,.und,.und,.und,.t (.sl (A.m.aa.map Place.e)),I A.m.aa.length,I A.m.aa.length],[mZ A,.box [.t (tL tf),.t (tL td)]]⟩):=by
  intro z0 z1 z3 z4 z5 z6 z7 z9 z10 z11 z12 z13
  refine cT (fun j=>⟨[.und,.und,.t (tL pr),.und,.und,.und,.und,.und,.t (.sl (jN A)),.und,.und,.und,.und,.und,.t (.sl (A.m.aa.map Place.e)),I A.m.aa.length,I j],[mZ A,.box [.t (tL tf),.t (tL td)]]⟩) A.m.aa.length rfl ?_ ?_ (by simp)
  · intro j hj
    have g1:(pr.map (T.int .i64))[j]?=some (tI (nth pr j)):=aQ _ (by omega)
    have g2:(A.m.aa.map Place.e)[j]?=some (nth A.m.aa j).e:=aQ _ hj
    have g3:=CW (A:=A) hj
    have jl:(j:Int)<A.m.aa.length:=by omega
    have sj:=sf j hj
    generalize nth pr j=x at*
    generalize nth A.m.aa j=y at*
    obtain⟨y1,y2⟩:=y
    generalize jN A=ll at*
    simp only at sj
    cases y2 with
    | true=>
      have x0:=sj rfl
      subst x0
      simp only[mZ]
      simp(disch:=omega)only[go_sem,K.oG,↓reduceIte,g1,g2,g3,jl,reduceAdd,reduceSub]
    | false=>
      simp only[mZ]
      simp(disch:=omega)only[go_sem,K.oG,↓reduceIte,g1,g2,g3,jl,reduceAdd,reduceSub]
  · simp only[mZ]
    simp(disch:=omega)only[go_sem,K.oG,↓reduceIte,reduceAdd,reduceSub]
 rw[pl]at k1
 generalize jN A=ll at*
 clear h ht sf pb
 obtain⟨⟨a1,a2⟩,a3,a4⟩:=A
 simp only[Air.e,cC.e,pX,mZ]at*
 simp(disch:=omega)only[go_sem,K.jq,↓reduceIte,bc,fc,lo,k1,k2,pl,reduceAdd,reduceSub]
abbrev rlH(A:Air)(tf td pr:List Int):af:=[mZ A,.box [.t (tL tf),.t (tL td)],.box [.t (sw A tf td),.t (ats A tf td)],arI pr]
abbrev OP(A:Air)(f:Nat)(k:Int)(c:Bool)(j:Int):List D:=[.und,.und,.und,.fn f [],.bp 0 0,.und,.und,.und,.und,.t (.sl (jN A)),.bp 2 0,.ref 3 0 A.m.aa.length,I k,B c,.und,.und,.und,.und,.t (.sl (A.m.aa.map Place.e)),I A.m.aa.length,I j]
def JG(A:Air)(tf td:List Int)(f:Nat)(Q:List Int→Nat→Prop):Prop:=∀(pr:List Int) (i:Nat),Lv A pr→i<A.m.aa.length→
 ∃(v:Int) (ok:Bool),bL 0 f [.t (Ck A tf td),.ref 0 0 A.m.aa.length,I i] [arI pr]=some (.tup [I v,B ok],[arI pr])∧(ok=true→ -70368744177664≤v∧v≤70368744177664∧(v=nth pr i→Q pr i))
def aio(A:Air)(tf td:List Int)(f:Nat)(q:Ex×St):Prop:=∃(k j v:Int) (c:Bool) (pr:List Int) (x1 x2:T),q=(.ret,⟨[.und,.und,.und,.fn f [],.bp 0 0,.und,.nil,I 2,.und,.t (.sl (jN A)),.bp 2 0,.ref 3 0 A.m.aa.length,I k,B c,I j,.bp 4 0,I v,B false,.t (.sl (A.m.aa.map Place.e)),I A.m.aa.length,I j],rlH A tf td pr++[.box [.t x1,.t x2]]⟩)
theorem Sr{A:Air}{tf td:List Int}(np:A.m.aa.length≤6){f:Nat}{Q:List Int→Nat→Prop}(hB:JG A tf td f Q){pr:List Int}(hp:prS A pr)(k:Int)(z0 z1 z2 z5 z6 z7 z8 z14 z15 z16 z17:D):
 ∃q,exS bL K.wg ⟨[z0,z1,z2,.fn f [],.bp 0 0,z5,z6,z7,z8,.t (.sl (jN A)),.bp 2 0,.ref 3 0 A.m.aa.length,I k,B false,z14,z15,z16,z17,.t (.sl (A.m.aa.map Place.e)),I A.m.aa.length,I 0],rlH A tf td pr⟩=some q∧
  (aio A tf td f q∨∃(c:Bool) (pr2:List Int),q=(.exit 2,⟨OP A f k c A.m.aa.length,rlH A tf td pr2⟩)∧prS A pr2∧(c=false→∀i,i<A.m.aa.length→(nth A.m.aa i).surf=false→Q pr2 i)):=by
 refine Sq (fun j st=>∃(c:Bool) (pr2:List Int),st=⟨OP A f k c j,rlH A tf td pr2⟩∧prS A pr2∧(c=false→∀i,i<j→(nth A.m.aa i).surf=false→Q pr2 i)) A.m.aa.length _
  ⟨false,pr,by simp only[OP,go_sem,Int.natCast_zero],hp,fun _ i hi=>by omega⟩ ?_ ?_
 · rintro j _ hj ⟨c,pr2,rfl,hs,hq⟩
   have g2:(A.m.aa.map Place.e)[j]?=some (nth A.m.aa j).e:=aQ _ hj
   have g3:=CW (A:=A) hj
   have jl:(j:Int)<A.m.aa.length:=by omega
   have nj:((j+1:Nat):Int)=(j:Int)+1:=by omega
   obtain⟨v,ok,e,ho⟩:=hB pr2 j hs.ok hj
   have len:=hs.ok.1
   have gp:(iz pr2)[j]?=some (I (nth pr2 j)):=cE _ _ (by omega)
   cases cs:(nth A.m.aa j).surf with
   | true=>
     left
     refine⟨⟨OP A f k c (j+1:Nat),rlH A tf td pr2⟩,?_,c,pr2,rfl,hs,fun hc i hi hsf=>?_⟩
     · clear hq hs hB ho e
       have ne:Ck A tf td= .agg [sw A tf td,ats A tf td]:=rfl
       try rw[ne]at e
       simp only[OP,rlH,mZ,arI,nj,List.cons_append,List.nil_append]at*
       generalize jN A=ll at*
       generalize sw A tf td=tp at*
       generalize ats A tf td=ta at*
       generalize nth A.m.aa j=y at*
       obtain⟨y1,y2⟩:=y
       simp only at cs
       subst cs
       simp(disch:=omega)only[go_sem,K.iG,↓reduceIte,g2,g3,jl,reduceAdd,reduceSub]
     · by_cases e:i=j
       · subst e;rw[cs]at hsf;cases hsf
       · exact hq hc i (by omega) hsf
   | false=>
     cases ok with
     | false=>
       right
       refine⟨_,?_,?_,.inl ⟨k,j,v,c,pr2,tI (nth A.m.aa j).h,.bool (nth A.m.aa j).surf,rfl⟩⟩
       · clear hq hs hB ho
         have ne:Ck A tf td= .agg [sw A tf td,ats A tf td]:=rfl
         try rw[ne]at e
         simp only[OP,rlH,mZ,arI,nj,List.cons_append,List.nil_append]at*
         generalize jN A=ll at*
         generalize sw A tf td=tp at*
         generalize ats A tf td=ta at*
         generalize nth A.m.aa j=y at*
         obtain⟨y1,y2⟩:=y
         simp only at cs
         subst cs
         simp(disch:=omega)only[go_sem,K.iG,↓reduceIte,g2,g3,jl,e,reduceAdd,reduceSub]
       · simp
     | true=>
       obtain⟨v0,v1,hv⟩:=ho rfl
       left
       by_cases d:v=nth pr2 j
       · refine⟨⟨OP A f k c (j+1:Nat),rlH A tf td pr2⟩,?_,c,pr2,rfl,hs,fun hc i hi hsf=>?_⟩
         · clear hq hs hB ho hv
           subst d
           generalize nth pr2 j=w at*
           have ne:Ck A tf td= .agg [sw A tf td,ats A tf td]:=rfl
           try rw[ne]at e
           simp only[OP,rlH,mZ,arI,nj,List.cons_append,List.nil_append]at*
           generalize jN A=ll at*
           generalize sw A tf td=tp at*
           generalize ats A tf td=ta at*
           generalize nth A.m.aa j=y at*
           obtain⟨y1,y2⟩:=y
           simp only at cs
           subst cs
           simp(disch:=omega)only[go_sem,K.iG,↓reduceIte,g2,g3,jl,e,gp,reduceAdd,reduceSub]
         · by_cases ee:i=j
           · subst ee;exact hv d
           · exact hq hc i (by omega) hsf
       · refine⟨⟨OP A f k true (j+1:Nat),rlH A tf td (pr2.set j v)⟩,?_,true,pr2.set j v,rfl,⟨hs.ok.set j v0 v1,fun i hi hsf=>?_⟩,fun hc=>by cases hc⟩
         · clear hq hs hB ho hv
           generalize nth pr2 j=w at*
           have ne:Ck A tf td= .agg [sw A tf td,ats A tf td]:=rfl
           try rw[ne]at e
           simp only[OP,rlH,mZ,arI,nj,List.cons_append,List.nil_append]at*
           generalize jN A=ll at*
           generalize sw A tf td=tp at*
           generalize ats A tf td=ta at*
           generalize nth A.m.aa j=y at*
           obtain⟨y1,y2⟩:=y
           simp only at cs
           subst cs
           simp(disch:=omega)only[go_sem,K.iG,↓reduceIte,g2,g3,jl,e,gp,d,reduceAdd,reduceSub]
         · rw[bM _ _ (by omega)]
           split
           · rename_i ee;subst ee;rw[cs]at hsf;cases hsf
           · exact hs.sf i hi hsf
 · rintro _ ⟨c,pr2,rfl,hs,hq⟩
   refine⟨_,?_,?_,.inr ⟨c,pr2,rfl,hs,hq⟩⟩
   · simp only[OP]
     generalize jN A=ll at*
     simp(disch:=omega)only[go_sem,K.iG,↓reduceIte,reduceAdd,reduceSub]
   · simp
abbrev Ss(A:Air)(f:Nat)(k:Int):List D:=[.und,.und,.und,.fn f [],.bp 0 0,.und,.und,.und,.und,.t (.sl (jN A)),.bp 2 0,.ref 3 0 A.m.aa.length,I k,.und,.und,.und,.und,.und,.und,.und,.und]
def Still(A:Air)(Q:List Int→Nat→Prop)(pr:List Int):Prop:=prS A pr∧∀i,i<A.m.aa.length→(nth A.m.aa i).surf=false→Q pr i
def anY(A:Air)(tf td:List Int)(f:Nat)(Q:List Int→Nat→Prop)(q:Ex×St):Prop:=∃(k:Int) (pr:List Int),q=(.ret,⟨[.und,.und,.und,.fn f [],.bp 0 0,.und,.ref 3 0 A.m.aa.length,I 0,.und,.t (.sl (jN A)),.bp 2 0,.ref 3 0 A.m.aa.length,I k,B false,.und,.und,.und,.und,.t (.sl (A.m.aa.map Place.e)),I A.m.aa.length,I A.m.aa.length],rlH A tf td pr⟩)∧Still A Q pr
theorem Su{A:Air}{tf td:List Int}(np:A.m.aa.length≤6){f:Nat}{Q:List Int→Nat→Prop}(hB:JG A tf td f Q){pr:List Int}(hp:prS A pr)(z0 z1 z2 z5 z6 z7 z8 z13 z14 z15 z16 z17 z18 z19 z20:D):
 ∃q,exS bL K.wi ⟨[z0,z1,z2,.fn f [],.bp 0 0,z5,z6,z7,z8,.t (.sl (jN A)),.bp 2 0,.ref 3 0 A.m.aa.length,I 0,z13,z14,z15,z16,z17,z18,z19,z20],rlH A tf td pr⟩=some q∧
  (aio A tf td f q∨anY A tf td f Q q∨∃pr2:List Int,q=(.exit 0,⟨Ss A f 200,rlH A tf td pr2⟩)):=by
 refine Sq (fun k st=>∃pr2:List Int,st=⟨Ss A f k,rlH A tf td pr2⟩∧prS A pr2) 200 _ ⟨pr,by simp only[Ss,go_sem,Int.natCast_zero],hp⟩ ?_ ?_
 · rintro k _ hk ⟨pr2,rfl,hs⟩
   obtain⟨q,hq,hh⟩:=Sr np hB hs k .und .und .und .und .und .und .und .und .und .und .und
   have kl:(k:Int)<200:=by omega
   have nk:((k+1:Nat):Int)=(k:Int)+1:=by omega
   rcases hh with⟨k',j,v,c,pr3,x1,x2,rfl⟩ | ⟨c,pr3,rfl,hs3,hc⟩
   · right
     refine⟨_,?_,?_,.inl ⟨k',j,v,c,pr3,x1,x2,rfl⟩⟩
     · clear hB hs
       simp only[Ss,rlH,mZ,arI,List.cons_append,List.nil_append]at*
       generalize jN A=ll at*
       generalize sw A tf td=tp at*
       generalize ats A tf td=ta at*
       simp(disch:=omega)only[go_sem,K.kp,↓reduceIte,hq,kl,reduceAdd,reduceSub]
     · simp
   · cases c with
     | true=>
       left
       refine⟨⟨Ss A f (k+1:Nat),rlH A tf td pr3⟩,?_,pr3,rfl,hs3⟩
       clear hB hs hs3 hc
       simp only[Ss,OP,rlH,mZ,arI,List.cons_append,List.nil_append,nk]at*
       generalize jN A=ll at*
       generalize sw A tf td=tp at*
       generalize ats A tf td=ta at*
       simp(disch:=omega)only[go_sem,K.kp,↓reduceIte,hq,kl,reduceAdd,reduceSub]
     | false=>
       right
       refine⟨_,?_,?_,.inr (.inl ⟨k,pr3,rfl,hs3,hc rfl⟩)⟩
       · clear hB hs hs3 hc
         simp only[Ss,OP,rlH,mZ,arI,List.cons_append,List.nil_append]at*
         generalize jN A=ll at*
         generalize sw A tf td=tp at*
         generalize ats A tf td=ta at*
         simp(disch:=omega)only[go_sem,K.kp,↓reduceIte,hq,kl,reduceAdd,reduceSub]
       · simp
 · rintro _ ⟨pr2,rfl,hs⟩
   refine⟨_,?_,?_,.inr (.inr ⟨pr2,rfl⟩)⟩
   · simp only[Ss]
     generalize jN A=ll at*
     simp(disch:=omega)only[go_sem,K.kp,↓reduceIte,reduceAdd,reduceSub]
     rfl
   · simp
theorem Np{A:Air}{tf td:List Int}(h:ny A tf td)(ht:wq A.m){f:Nat}{Q:List Int→Nat→Prop}(hB:JG A tf td f Q){pr:List Int}(hp:prS A pr):
 (∃pr2:List Int,bL 0 N.dt [.t A.e,.t (pX tf td),.t (tL pr),.fn f []] []=some (.tup [.t (tL pr2),I 0],[])∧Still A Q pr2)∨
 bL 0 N.dt [.t A.e,.t (pX tf td),.t (tL pr),.fn f []] []=some (.tup [.t (.sl []),I 2],[]):=by
 have ck:=HK h ht hp
 have lo:bL 0 N.cJ [.t A.m.e] []=some (.t (.sl (jN A)),[]):=HH h.ok h.np h.nr ht
 have mk:=Lu h
 have np:=h.np
 have len:=hp.ok.1
 obtain⟨q,hq,hh⟩:=Su np hB hp (.t A.e) (.t (pX tf td)) (.t (tL pr)) (.bp 1 0) .nil (I 0) (I 0) .und .und .und .und .und .und .und .und
 have ne:Ck A tf td= .agg [sw A tf td,ats A tf td]:=rfl
 rw[ne]at mk
 rcases hh with⟨k',j,v,c,pr3,x1,x2,rfl⟩ | ⟨k',pr3,rfl,hs⟩ | ⟨pr3,rfl⟩
 · right
   refine aI K.mO rfl ?_
   clear hB h ht hp
   simp only[Ss,rlH,mZ,arI,List.cons_append,List.nil_append]at*
   generalize jN A=ll at*
   generalize sw A tf td=tp at*
   generalize ats A tf td=ta at*
   obtain⟨⟨a1,a2⟩,a3,a4⟩:=A
   simp only[Air.e,cC.e,pX]at*
   simp(disch:=omega)only[go_sem,K.dt,↓reduceIte,ck,lo,mk,hq,len,reduceAdd,reduceSub]
 · left
   refine⟨pr3,aI K.mO rfl ?_,hs⟩
   have l3:=hs.1.ok.1
   clear hB h ht hp hs
   simp only[Ss,rlH,mZ,arI,List.cons_append,List.nil_append]at*
   generalize jN A=ll at*
   generalize sw A tf td=tp at*
   generalize ats A tf td=ta at*
   obtain⟨⟨a1,a2⟩,a3,a4⟩:=A
   simp only[Air.e,cC.e,pX]at*
   simp(disch:=omega)only[go_sem,K.dt,↓reduceIte,ck,lo,mk,hq,len,l3,reduceAdd,reduceSub]
 · right
   refine aI K.mO rfl ?_
   clear hB h ht hp
   simp only[Ss,rlH,mZ,arI,List.cons_append,List.nil_append]at*
   generalize jN A=ll at*
   generalize sw A tf td=tp at*
   generalize ats A tf td=ta at*
   obtain⟨⟨a1,a2⟩,a3,a4⟩:=A
   simp only[Air.e,cC.e,pX]at*
   simp(disch:=omega)only[go_sem,K.dt,↓reduceIte,ck,lo,mk,hq,len,reduceAdd,reduceSub]
theorem JH{A:Air}{tf td:List Int}(h:ny A tf td):JG A tf td N.cA (fun pr i=>0≤mP A tf td pr i):=by
 intro pr i hp hi
 have:=abC h hp hi
 rw[hp.1]at this
 exact this
theorem Eh{A:Air}{tf td:List Int}(h:ny A tf td):JG A tf td N.bK (fun pr i=>jr A tf td pr i≤0):=by
 intro pr i hp hi
 have:=OO h hp hi
 rw[hp.1]at this
 exact this
theorem aip{A:Air}{tf td:List Int}(h:ny A tf td)(ht:wq A.m){pr:List Int}(hp:prS A pr):
 (∃pr2:List Int,bL 0 N.iF [.t A.e,.t (pX tf td),.t (tL pr)] []=some (.tup [.t (tL pr2),I 0],[])∧Still A (fun pr i=>0≤mP A tf td pr i) pr2)∨
 bL 0 N.iF [.t A.e,.t (pX tf td),.t (tL pr)] []=some (.tup [.t (.sl []),I 2],[]):=by
 rcases Np h ht (JH h) hp with⟨pr2,e,s⟩ | e
 · refine .inl ⟨pr2,aI K.rS rfl ?_,s⟩
   clear s h ht hp
   obtain⟨⟨a1,a2⟩,a3,a4⟩:=A
   simp only[Air.e,cC.e,pX]at*
   simp(disch:=omega)only[go_sem,K.iF,↓reduceIte,e,reduceAdd,reduceSub]
 · refine .inr (aI K.rS rfl ?_)
   clear h ht hp
   obtain⟨⟨a1,a2⟩,a3,a4⟩:=A
   simp only[Air.e,cC.e,pX]at*
   simp(disch:=omega)only[go_sem,K.iF,↓reduceIte,e,reduceAdd,reduceSub]
theorem Xs{A:Air}{tf td:List Int}(h:ny A tf td)(ht:wq A.m){pr:List Int}(hp:prS A pr):
 (∃pr2:List Int,bL 0 N.gM [.t A.e,.t (pX tf td),.t (tL pr)] []=some (.tup [.t (tL pr2),I 0],[])∧Still A (fun pr i=>jr A tf td pr i≤0) pr2)∨
 bL 0 N.gM [.t A.e,.t (pX tf td),.t (tL pr)] []=some (.tup [.t (.sl []),I 2],[]):=by
 rcases Np h ht (Eh h) hp with⟨pr2,e,s⟩ | e
 · refine .inl ⟨pr2,aI K.rR rfl ?_,s⟩
   clear s h ht hp
   obtain⟨⟨a1,a2⟩,a3,a4⟩:=A
   simp only[Air.e,cC.e,pX]at*
   simp(disch:=omega)only[go_sem,K.gM,↓reduceIte,e,reduceAdd,reduceSub]
 · refine .inr (aI K.rR rfl ?_)
   clear h ht hp
   obtain⟨⟨a1,a2⟩,a3,a4⟩:=A
   simp only[Air.e,cC.e,pX]at*
   simp(disch:=omega)only[go_sem,K.gM,↓reduceIte,e,reduceAdd,reduceSub]
theorem Vy{A:Air}:prS A (q9 A.m.aa.length):=by
 refine⟨⟨by simp,fun x hx=>?_⟩,fun i hi _=>by simp[nth,hi]⟩
 rw[List.eq_of_mem_replicate hx];omega
abbrev pA(l u:List Int):T:= .agg [tL l,tL u]
theorem abD{A:Air}{tf td:List Int}(h:ny A tf td)(ht:wq A.m):
 (∃lo hi:List Int,bL 0 N.eG [.t A.e,.t (pX tf td)] []=some (.tup [.t (pA lo hi),I 0],[])∧Still A (fun pr i=>jr A tf td pr i≤0) lo∧Still A (fun pr i=>0≤mP A tf td pr i) hi)∨
 bL 0 N.eG [.t A.e,.t (pX tf td)] []=some (.tup [.t (pA [] []),I 2],[]):=by
 have np:=h.np
 have zl:A.m.aa.length=(q9 A.m.aa.length).length:=by simp
 have zr:List.replicate A.m.aa.length (D.t (.int .i64 0))=((q9 A.m.aa.length).map (T.int .i64)).map .t:=by simp[q9]
 rcases Xs h ht Vy with⟨l1,e1,s1⟩ | e1
 · rcases aip h ht s1.1 with⟨h1,e2,s2⟩ | e2
   · rcases Xs h ht s2.1 with⟨l2,e3,s3⟩ | e3
     · refine .inl ⟨l2,h1,aI K.lY rfl ?_,s3,s2⟩
       clear s1 s2 s3 h ht
       generalize hz:q9 A.m.aa.length=zz at*
       obtain⟨⟨a1,a2⟩,a3,a4⟩:=A
       simp only[Air.e,cC.e,pX,pA]at*
       have zl2:(a1.length=zz.length)=True:=eq_true zl
       clear hz
       simp(disch:=omega)only[go_sem,K.eG,↓reduceIte,e1,e2,e3,zr,zl2,reduceAdd,reduceSub]
     · refine .inr (aI K.lY rfl ?_)
       clear s1 s2 h ht
       generalize hz:q9 A.m.aa.length=zz at*
       obtain⟨⟨a1,a2⟩,a3,a4⟩:=A
       simp only[Air.e,cC.e,pX,pA]at*
       have zl2:(a1.length=zz.length)=True:=eq_true zl
       clear hz
       simp(disch:=omega)only[go_sem,K.eG,↓reduceIte,e1,e2,e3,zr,zl2,reduceAdd,reduceSub]
       rfl
   · refine .inr (aI K.lY rfl ?_)
     clear s1 h ht
     generalize hz:q9 A.m.aa.length=zz at*
     obtain⟨⟨a1,a2⟩,a3,a4⟩:=A
     simp only[Air.e,cC.e,pX,pA]at*
     have zl2:(a1.length=zz.length)=True:=eq_true zl
     clear hz
     simp(disch:=omega)only[go_sem,K.eG,↓reduceIte,e1,e2,zr,zl2,reduceAdd,reduceSub]
     rfl
 · refine .inr (aI K.lY rfl ?_)
   clear h ht
   generalize hz:q9 A.m.aa.length=zz at*
   obtain⟨⟨a1,a2⟩,a3,a4⟩:=A
   simp only[Air.e,cC.e,pX,pA]at*
   have zl2:(a1.length=zz.length)=True:=eq_true zl
   clear hz
   simp(disch:=omega)only[go_sem,K.eG,↓reduceIte,e1,zr,zl2,reduceAdd,reduceSub]
   rfl
structure Bnd(A:Air)(tf td lo hi:List Int):Prop where
 l:Still A (fun pr i=>jr A tf td pr i≤0) lo
 h:Still A (fun pr i=>0≤mP A tf td pr i) hi
abbrev ckH(A:Air)(tf td lo hi:List Int):af:=[mZ A,.box [.t (tL tf),.t (tL td)],.box [.t (tL lo),.t (tL hi)]]
theorem Vz{A:Air}{tf td lo hi:List Int}{a b:Int}(a0: -70368744177664≤a)(a1:a≤70368744177664)(b0: -70368744177664≤b)(b1:b≤70368744177664)(n i:Int)(z0 z1 z2 z6 z7 z8 z9 z10 z11 z12 z13 z19 z20 z21:D):
 exS bL K.uI ⟨[z0,z1,z2,.bp 0 0,.bp 1 0,.bp 2 0,z6,z7,z8,z9,z10,z11,z12,z13,I n,I i,.t (.sl [tI a,tI b]),I 2,I 0,z19,z20,z21],ckH A tf td lo hi⟩=
  some (.exit 2,⟨[.und,.und,.und,.bp 0 0,.bp 1 0,.bp 2 0,.und,.und,.und,.und,.und,.und,.und,.und,I n,I i,.t (.sl [tI a,tI b]),I 2,I 2,.und,.und,.und],ckH A tf td lo hi⟩):=by
 have n1:¬a< -70368744177664:=by omega
 have n2:¬a>70368744177664:=by omega
 have n3:¬b< -70368744177664:=by omega
 have n4:¬b>70368744177664:=by omega
 refine cT (fun j=>⟨[.und,.und,.und,.bp 0 0,.bp 1 0,.bp 2 0,.und,.und,.und,.und,.und,.und,.und,.und,I n,I i,.t (.sl [tI a,tI b]),I 2,I j,.und,.und,.und],ckH A tf td lo hi⟩) 2 (by simp only[go_sem,Int.natCast_zero]) ?_ ?_ (by simp)
 · intro j hj
   have jl:(j:Int)<2:=by omega
   rcases (show j=0∨j=1 by omega)with rfl | rfl
   · simp only[ckH,mZ,Int.natCast_zero]
     simp(disch:=omega)only[go_sem,K.lZ,↓reduceIte,n1,n2,reduceAdd,reduceSub]
     try rfl
   · have i1:((1:Nat):Int)=1:=rfl
     simp only[ckH,mZ,i1]
     simp(disch:=omega)only[go_sem,K.lZ,↓reduceIte,n3,n4,reduceAdd,reduceSub]
     try rfl
 · have i2:((2:Nat):Int)=2:=rfl
   simp only[ckH,mZ,i2]
   simp(disch:=omega)only[go_sem,K.lZ,↓reduceIte,reduceAdd,reduceSub]
theorem VA{A:Air}{tf td lo hi:List Int}(hl:Lv A lo)(hh:Lv A hi)(np:A.m.aa.length≤6)(z0 z1 z2 z6 z7 z8 z9 z10 z11 z12 z13 z16 z17 z18 z19 z20 z21:D):
 exS bL K.uJ ⟨[z0,z1,z2,.bp 0 0,.bp 1 0,.bp 2 0,z6,z7,z8,z9,z10,z11,z12,z13,I A.m.aa.length,I 0,z16,z17,z18,z19,z20,z21],ckH A tf td lo hi⟩=
  some (.exit 0,⟨[.und,.und,.und,.bp 0 0,.bp 1 0,.bp 2 0,.und,.und,.und,.und,.und,.und,.und,.und,I A.m.aa.length,I A.m.aa.length,.und,.und,.und,.und,.und,.und],ckH A tf td lo hi⟩):=by
 refine cT (fun j=>⟨[.und,.und,.und,.bp 0 0,.bp 1 0,.bp 2 0,.und,.und,.und,.und,.und,.und,.und,.und,I A.m.aa.length,I j,.und,.und,.und,.und,.und,.und],ckH A tf td lo hi⟩) A.m.aa.length (by simp only[go_sem,Int.natCast_zero]) ?_ ?_ (by simp)
 · intro j hj
   have l1:=hl.1
   have l2:=hh.1
   have bl:=hl.2 _ (ak (l:=lo) (j:=j) (by omega))
   have bh:=hh.2 _ (ak (l:=hi) (j:=j) (by omega))
   have g1:(lo.map (T.int .i64))[j]?=some (tI (nth lo j)):=aQ _ (by omega)
   have g2:(hi.map (T.int .i64))[j]?=some (tI (nth hi j)):=aQ _ (by omega)
   have jl:(j:Int)<A.m.aa.length:=by omega
   have k2:=fun n z0 z1 z2 z6 z7 z8 z9 z10 z11 z12 z13 z19 z20 z21=>Vz (A:=A) (tf:=tf) (td:=td) (lo:=lo) (hi:=hi) bl.1 bl.2 bh.1 bh.2 n (j:Int) z0 z1 z2 z6 z7 z8 z9 z10 z11 z12 z13 z19 z20 z21
   generalize nth lo j=x at*
   generalize nth hi j=y at*
   simp only[ckH,mZ]at*
   simp(disch:=omega)only[go_sem,K.pj,↓reduceIte,g1,g2,jl,k2,reduceAdd,reduceSub]
 · simp only[ckH,mZ]
   simp(disch:=omega)only[go_sem,K.pj,↓reduceIte,reduceAdd,reduceSub]
theorem VB{A:Air}{tf td lo hi:List Int}(h:ny A tf td)(hb:Bnd A tf td lo hi)(z0 z1 z2 z3 z4 z6 z7 z8 z9 z12 z13 z14 z15 z16 z17 z18:D):
 exS bL K.uK ⟨[z0,z1,z2,z3,z4,.bp 2 0,z6,z7,z8,z9,.t (.sl (jN A)),.bp 3 0,z12,z13,z14,z15,z16,z17,z18,.t (.sl (A.m.aa.map Place.e)),I A.m.aa.length,I 0],ckH A tf td lo hi++[.box [.t (sw A tf td),.t (ats A tf td)]]⟩=
  some (.exit 4,⟨[.und,.und,.und,.und,.und,.bp 2 0,.und,.und,.und,.und,.t (.sl (jN A)),.bp 3 0,.und,.und,.und,.und,.und,.und,.und,.t (.sl (A.m.aa.map Place.e)),I A.m.aa.length,I A.m.aa.length],ckH A tf td lo hi++[.box [.t (sw A tf td),.t (ats A tf td)]]⟩):=by
 have np:=h.np
 refine cT (fun j=>⟨[.und,.und,.und,.und,.und,.bp 2 0,.und,.und,.und,.und,.t (.sl (jN A)),.bp 3 0,.und,.und,.und,.und,.und,.und,.und,.t (.sl (A.m.aa.map Place.e)),I A.m.aa.length,I j],ckH A tf td lo hi++[.box [.t (sw A tf td),.t (ats A tf td)]]⟩) A.m.aa.length (by simp only[go_sem,Int.natCast_zero]) ?_ ?_ (by simp)
 · intro j hj
   obtain⟨⟨⟨l1,l2⟩,l3⟩,l4⟩:=hb.l
   obtain⟨⟨⟨h1,h2⟩,h3⟩,h4⟩:=hb.h
   have nL:=OK h ⟨h1,h2⟩ hj
   have nH:=Lw h ⟨l1,l2⟩ hj
   have g1:(lo.map (T.int .i64))[j]?=some (tI (nth lo j)):=aQ _ (by omega)
   have g2:(hi.map (T.int .i64))[j]?=some (tI (nth hi j)):=aQ _ (by omega)
   have gp:(A.m.aa.map Place.e)[j]?=some (nth A.m.aa j).e:=aQ _ hj
   have g3:=CW (A:=A) hj
   have jl:(j:Int)<A.m.aa.length:=by omega
   have ne:Ck A tf td= .agg [sw A tf td,ats A tf td]:=rfl
   rw[ne]at nL nH
   have l3:=l3 j hj
   have h3:=h3 j hj
   have l4:(nth A.m.aa j).surf=false→jr A tf td lo j≤0:=l4 j hj
   have h4:(nth A.m.aa j).surf=false→0≤mP A tf td hi j:=h4 j hj
   generalize mP A tf td hi j=R1 at*
   generalize jr A tf td lo j=R2 at*
   clear h hb l2 h2
   simp only[ckH,mZ,List.cons_append,List.nil_append]at*
   generalize jN A=ll at*
   generalize sw A tf td=tp at*
   generalize ats A tf td=ta at*
   generalize nth lo j=x at*
   generalize nth hi j=y at*
   cases cs:(nth A.m.aa j).surf with
   | true=>
     have x0:=l3 cs
     have y0:=h3 cs
     subst x0 y0
     clear l3 h3 l4 h4
     generalize nth A.m.aa j=p at*
     obtain⟨p1,p2⟩:=p
     simp only at cs
     subst cs
     simp(disch:=omega)only[go_sem,K.mc,↓reduceIte,gp,g1,g2,g3,jl,reduceAdd,reduceSub]
   | false=>
     have a0:=l4 cs
     have b0:=h4 cs
     have n1:¬R1<0:=by omega
     have n2:¬R2>0:=by omega
     clear l3 h3 l4 h4
     generalize nth A.m.aa j=p at*
     obtain⟨p1,p2⟩:=p
     simp only at cs
     subst cs
     simp(disch:=omega)only[go_sem,K.mc,↓reduceIte,gp,g1,g2,g3,jl,nL,nH,n1,n2,reduceAdd,reduceSub]
 · simp only[ckH,mZ,List.cons_append,List.nil_append]at*
   generalize jN A=ll at*
   generalize sw A tf td=tp at*
   generalize ats A tf td=ta at*
   simp(disch:=omega)only[go_sem,K.mc,↓reduceIte,reduceAdd,reduceSub]
theorem Sv{A:Air}{tf td lo hi:List Int}(h:ny A tf td)(ht:wq A.m)(hb:Bnd A tf td lo hi):bL 0 N.fw [.t A.e,.t (pX tf td),.t (pA lo hi)] []=some (I 0,[]):=by
 refine aI K.q8 rfl ?_
 have bc:=sr h
 have fc:=AR h
 have np:=h.np
 have lo':bL 0 N.cJ [.t A.m.e] []=some (.t (.sl (jN A)),[]):=HH h.ok h.np h.nr ht
 have mk:=Lu h
 have ne:Ck A tf td= .agg [sw A tf td,ats A tf td]:=rfl
 rw[ne]at mk
 have k1:=fun z0 z1 z2 z6 z7 z8 z9 z10 z11 z12 z13 z16 z17 z18 z19 z20 z21=>VA (tf:=tf) (td:=td) hb.l.1.ok hb.h.1.ok np z0 z1 z2 z6 z7 z8 z9 z10 z11 z12 z13 z16 z17 z18 z19 z20 z21
 have k3:=fun z0 z1 z2 z3 z4 z6 z7 z8 z9 z12 z13 z14 z15 z16 z17 z18=>VB h hb z0 z1 z2 z3 z4 z6 z7 z8 z9 z12 z13 z14 z15 z16 z17 z18
 have l1:=hb.l.1.ok.1
 have l2:=hb.h.1.ok.1
 clear h ht hb
 simp only[ckH,mZ,List.cons_append,List.nil_append]at*
 generalize jN A=ll at*
 generalize sw A tf td=tp at*
 generalize ats A tf td=ta at*
 obtain⟨⟨a1,a2⟩,a3,a4⟩:=A
 simp only[Air.e,cC.e,pX,pA]at*
 simp(disch:=omega)only[go_sem,K.fw,↓reduceIte,bc,fc,lo',mk,k1,k3,l1,l2,reduceAdd,reduceSub]
noncomputable def aiq(A:Air)(tf td lo hi:List Int)(p:kP):Spn:=
 ⟨jL p (nth lo p.cL.frm.toNat-nth hi p.cL.to.toNat),fT p (nth hi p.cL.frm.toNat-nth lo p.cL.to.toNat)⟩
noncomputable def Nq(A:Air)(tf td lo hi:List Int):Nat→Int→Spn
 | 0,_=>⟨0,0⟩
 | n+1,i=>if(nth (aB A tf td) n).num=i then aiq A tf td lo hi (nth (aB A tf td) n)else Nq A tf td lo hi n i
theorem VC{A:Air}{tf td lo hi:List Int}(h:ny A tf td)(ht:wq A.m)(hb:Bnd A tf td lo hi):
 ∃R:List Spn,bL 0 N.fv [.t A.e,.t (pX tf td),.t (pA lo hi)] []=some (.t (tS R),[])∧R.length=A.m.roads.length∧∀i:Nat,i<A.m.roads.length→nth R i=Nq A tf td lo hi (aB A tf td).length i:=by
 have ck:=Sv h ht hb
 have lo':bL 0 N.cJ [.t A.m.e] []=some (.t (.sl (jN A)),[]):=HH h.ok h.np h.nr ht
 have mk:=Lu h
 have np:=h.np
 have nr:=h.nr
 have pl:(aB A tf td).length≤A.m.roads.length:=AS A tf td A.m.roads.length
 have ne:Ck A tf td= .agg [sw A tf td,ats A tf td]:=rfl
 rw[ne]at mk
 have key:=ig (vs:=[.t A.e,.t (pX tf td),.t (pA lo hi),.bp 0 0,.bp 1 0,.bp 2 0,.nil,.ref 3 0 A.m.roads.length,.t (.sl (jN A)),.und,.t (sw A tf td),I (aB A tf td).length,I 0]) (H:=ckH A tf td lo hi++[.arr 2 false 0 (dSp (List.replicate A.m.roads.length ⟨0,0⟩))]) (c:=K.jH) (gc:=true) (dead:=[0,1,2,3,4,6,9])
  (fun j st=>∃R:List Spn,st=⟨[.und,.und,.und,.und,.und,.bp 2 0,.und,.ref 3 0 A.m.roads.length,.t (.sl (jN A)),.und,.t (sw A tf td),I (aB A tf td).length,I j],ckH A tf td lo hi++[.arr 2 false 0 (dSp R)]⟩∧R.length=A.m.roads.length∧∀i:Nat,i<A.m.roads.length→nth R i=Nq A tf td lo hi j i) (aB A tf td).length
  (fun q=>∃R:List Spn,q=(.exit 0,⟨[.und,.und,.und,.und,.und,.bp 2 0,.und,.ref 3 0 A.m.roads.length,.t (.sl (jN A)),.und,.t (sw A tf td),I (aB A tf td).length,I (aB A tf td).length],ckH A tf td lo hi++[.arr 2 false 0 (dSp R)]⟩)∧R.length=A.m.roads.length∧∀i:Nat,i<A.m.roads.length→nth R i=Nq A tf td lo hi (aB A tf td).length i)
  ⟨List.replicate A.m.roads.length ⟨0,0⟩,by simp only[go_sem,Int.natCast_zero],by simp,fun i hi=>by simp[nth,hi,Nq]⟩ ?_ ?_
 · obtain⟨q,hq,R,rfl,rl,hR⟩:=key
   refine⟨R,aI K.qW rfl ?_,rl,hR⟩
   rw[show(C.loop true [0,1,2,3,4,6,9] K.jH)=K.uH from rfl]at hq
   have rz:List.replicate A.m.roads.length (D.t (.agg [.int .i64 0,.int .i64 0]))=dSp (List.replicate A.m.roads.length ⟨0,0⟩):=by simp
   have e1:(aB A tf td).length=((aB A tf td).map kP.e).length:=by simp
   clear h ht hb hR
   simp only[ckH,mZ,sw,List.cons_append,List.nil_append]at*
   generalize jN A=ll at*
   generalize ats A tf td=ta at*
   generalize aB A tf td=P at*
   obtain⟨⟨a1,a2⟩,a3,a4⟩:=A
   simp only[Air.e,cC.e,pX,pA]at*
   simp(disch:=omega)only[go_sem,K.fv,↓reduceIte,ck,lo',mk,hq,rl,rz,reduceAdd,reduceSub]
 · rintro j _ hj ⟨R,rfl,rl,hR⟩
   have ok:=je h hj
   have g1:((aB A tf td).map kP.e)[j]?=some (nth (aB A tf td) j).e:=aQ _ hj
   have fL:=(mg ok (nth lo (nth (aB A tf td) j).cL.frm.toNat-nth hi (nth (aB A tf td) j).cL.to.toNat)).1
   have fH:=(kg ok (nth hi (nth (aB A tf td) j).cL.frm.toNat-nth lo (nth (aB A tf td) j).cL.to.toNat)).1
   have jl:(j:Int)<(aB A tf td).length:=by omega
   have nj:((j+1:Nat):Int)=(j:Int)+1:=by omega
   obtain⟨f,hf⟩:=Int.eq_ofNat_of_zero_le ok.f0
   obtain⟨t,ht'⟩:=Int.eq_ofNat_of_zero_le ok.t0
   obtain⟨n,hn⟩:=Int.eq_ofNat_of_zero_le ok.n0
   have f1:=ok.f1
   have t1:=ok.t1
   have n1:=ok.n1
   obtain⟨⟨⟨l1,l2⟩,l3⟩,l4⟩:=hb.l
   obtain⟨⟨⟨h1,h2⟩,h3⟩,h4⟩:=hb.h
   have gl:∀k,k<A.m.aa.length→(lo.map (T.int .i64))[k]?=some (tI (nth lo k)):=fun k hk=>aQ _ (by omega)
   have gh:∀k,k<A.m.aa.length→(hi.map (T.int .i64))[k]?=some (tI (nth hi k)):=fun k hk=>aQ _ (by omega)
   have glf:=gl f (by omega)
   have glt:=gl t (by omega)
   have ghf:=gh f (by omega)
   have ght:=gh t (by omega)
   have b1:=l2 _ (ak (l:=lo) (j:=f) (by omega))
   have b2:=l2 _ (ak (l:=lo) (j:=t) (by omega))
   have b3:=h2 _ (ak (l:=hi) (j:=f) (by omega))
   have b4:=h2 _ (ak (l:=hi) (j:=t) (by omega))
   have g3:=CW (A:=A) (j:=f) (by omega)
   have gR:(dSp R)[n]?=some (.t (nth R n).e):=cE _ _ (by omega)
   refine⟨⟨[.und,.und,.und,.und,.und,.bp 2 0,.und,.ref 3 0 A.m.roads.length,.t (.sl (jN A)),.und,.t (sw A tf td),I (aB A tf td).length,I (j+1:Nat)],ckH A tf td lo hi++[.arr 2 false 0 (dSp (R.set n (aiq A tf td lo hi (nth (aB A tf td) j))))]⟩,?_,_,rfl,by simp[rl],fun i hi'=>?_⟩
   · unfold aiq
     rw[hf,ht']at fL fH ⊢
     simp only[Int.toNat_natCast]at*
     clear ok gl gh h ht hb l2 l3 l4 h2 h3 h4 ck lo' mk hR
     simp only[ckH,mZ,sw,List.cons_append,List.nil_append,List.map_set,nj]at*
     generalize jN A=ll at*
     generalize ats A tf td=ta at*
     generalize aB A tf td=P at*
     generalize nth P j=p at*
     generalize jL p (nth lo f-nth hi t)=F1 at*
     generalize fT p (nth hi f-nth lo t)=F2 at*
     generalize nth lo f=x1 at*
     generalize nth lo t=x2 at*
     generalize nth hi f=x3 at*
     generalize nth hi t=x4 at*
     generalize nth R n=u at*
     obtain⟨⟨p1,p2,p3,p4,p5,p6,p7,p8,p9,p10⟩,p11,p12⟩:=p
     obtain⟨u1,u2⟩:=u
     simp only at hf ht' hn
     subst hf ht' hn
     simp only[kP.e]at*
     simp(disch:=omega)only[go_sem,K.jH,↓reduceIte,g1,jl,glf,glt,ghf,ght,g3,gR,fL,fH,rl,reduceAdd,reduceSub]
   · have e1:Nq A tf td lo hi (j+1) i=if(nth (aB A tf td) j).num=i then aiq A tf td lo hi (nth (aB A tf td) j)else Nq A tf td lo hi j i:=rfl
     rw[e1,bM _ _ (by omega),hR i hi']
     by_cases e:i=n
     · subst e;rw[if_pos rfl,if_pos hn]
     · rw[if_neg e,if_neg (by omega)]
 · rintro _ ⟨R,rfl,rl,hR⟩
   refine⟨_,?_,by simp,R,rfl,rl,hR⟩
   simp only[ckH,mZ,List.cons_append,List.nil_append]at*
   generalize jN A=ll at*
   simp(disch:=omega)only[go_sem,K.jH,↓reduceIte,reduceAdd,reduceSub]
theorem Nr(l:List wW)(x:wW)(q:Int):∀n,n≤l.length→wX (l++[x]) q n=wX l q n
 | 0,_=>rfl
 | n+1,h=>by
   unfold wX
   rw[Nr l x q n (by omega),mW (by omega)]
theorem Sw{n:Nat}{fs:List Fan}{sf tf:List Int}(ho:HD n fs sf)(hm:∀k,k<sf.length→Nf (nth sf k) (nth tf k))(i:Nat)(q:Int):∀k,k≤fs.length→
 (wX (tv fs tf k i) q (tv fs tf k i).length).low≤nU fs sf i q k∧nU fs sf i q k≤(wX (tv fs tf k i) q (tv fs tf k i).length).high
 | 0,_=>by simp[tv,wX,nU,eL]
 | k+1,hk=>by
   have ih:=Sw ho hm i q k (by omega)
   have len:=ho.len
   have fo:=ho.ok _ (ak (l:=fs) (j:=k) (by omega))
   have st:=ho.st _ (ak (l:=sf) (j:=k) (by omega))
   have ms:=hm k (by omega)
   have b:=Hp fo (nth sf k) q
   have a:=Uu fo st.1 st.2 q
   have es:nU fs sf i q (k+1)=nU fs sf i q k+if(nth fs k).cL=i then(mz (nth fs k) (nth sf k) q).low else 0:=rfl
   rw[es,tv]
   by_cases c0:nth tf k=0
   · rw[if_pos c0,List.append_nil]
     have e0:nth sf k=0:=by rcases ms with e | e<;>omega
     have z:(mz (nth fs k) (nth sf k) q).low=0:=by rw[e0];rfl
     rw[z]
     split<;>omega
   · rw[if_neg c0]
     by_cases c1:(nth fs k).cL=i
     · rw[if_pos c1,if_pos c1]
       have el:(tv fs tf k i++[(⟨nth fs k,nth tf k⟩:wW)]).length=(tv fs tf k i).length+1:=by simp
       rw[el]
       have ef:wX (tv fs tf k i++[⟨nth fs k,nth tf k⟩]) q ((tv fs tf k i).length+1)=⟨(wX (tv fs tf k i) q (tv fs tf k i).length).low+(mz (nth fs k) (nth tf k) q).low,(wX (tv fs tf k i) q (tv fs tf k i).length).high+(mz (nth fs k) (nth tf k) q).high⟩:=by
        rw[wX,Nr _ _ _ _ (aLs _),jA rfl]
       rw[ef]
       simp only
       rcases ms with e | e
       · rw[e];omega
       · rw[e];omega
     · rw[if_neg c1,if_neg c1,List.append_nil]
       omega
theorem Ns{n:Nat}{ds:List lN}{sd td:List Int}(ho:zS n ds sd)(hm:∀k,k<sd.length→Nf (nth sd k) (nth td k))(i:Nat):∀k,k≤ds.length→
 (jM ds td k i).low≤fK ds sd i k∧fK ds sd i k≤(jM ds td k i).high
 | 0,_=>by simp[jM,fK,eL]
 | k+1,hk=>by
   have ih:=Ns ho hm i k (by omega)
   have len:=ho.len
   have st:=ho.st k (by omega)
   have ms:=hm k (by omega)
   have es:fK ds sd i (k+1)=fK ds sd i k+if(nth ds k).cL=i then nth (nth ds k).rests (nth sd k).toNat else 0:=rfl
   have er:jM ds td (k+1) i=⟨(jM ds td k i).low+if(nth ds k).cL=i then(uj (nth ds k) (nth td k)).low else 0,(jM ds td k i).high+if(nth ds k).cL=i then(uj (nth ds k) (nth td k)).high else 0⟩:=rfl
   have key:(uj (nth ds k) (nth td k)).low≤nth (nth ds k).rests (nth sd k).toNat∧nth (nth ds k).rests (nth sd k).toNat≤(uj (nth ds k) (nth td k)).high:=by
    unfold uj
    rcases ms with e | e
    · rw[if_neg (by omega),e];simp only;omega
    · rw[if_pos e]
      exact Lr (nth ds k).rests ((nth ds k).rests.length-1) (nth sd k).toNat (by omega)
   rw[es,er]
   simp only
   split<;>omega
theorem abE{rl rh R q:Int}(h1:rl≤R)(h2:R≤rh):(qI rl rh q).low≤R*(max q (-q))*q∧R*(max q (-q))*q≤(qI rl rh q).high:=by
 have s:=aik q
 have m1:=Int.mul_le_mul_of_nonneg_right h1 s
 have m2:=Int.mul_le_mul_of_nonneg_right h2 s
 unfold qI
 by_cases c:q<0
 · rw[if_pos c]
   have e:max q (-q)= -q:=by omega
   have e2:R* -q*q= -(R*(q*q)):=by rw[Int.mul_neg,Int.neg_mul,Int.mul_assoc]
   rw[e,e2]
   simp only[Int.neg_mul]
   omega
 · rw[if_neg c]
   have e:max q (-q)=q:=by omega
   have e2:R*q*q=R*(q*q):=Int.mul_assoc ..
   rw[e,e2]
   simp only
   omega
theorem GC(a:List Nat)(k:Nat)(out:Nat→Bool)(fo fi:Nat→Int):leaves (a++[k]) out fo fi=leaves a out fo fi+if out k then fo k else -fi k:=by
 unfold leaves
 rw[aLv,List.length_singleton]
 simp only[eL]
 rw[jA rfl]
 congr 1
 exact o8 _ fun j hj=>by rw[mW hj]
theorem GD(a:List Nat)(out:Nat→Bool)(fo fi:Nat→Int):leaves a out (fun k=> -fo k) (fun k=> -fi k)= -leaves a out fo fi:=by
 unfold leaves
 have:∀n,eL (fun j=>if out (nth a j)then -fo (nth a j)else- -fi (nth a j)) n= -eL (fun j=>if out (nth a j)then fo (nth a j)else -fi (nth a j)) n:=by
  intro n
  induction n with
  | zero=>rfl
  | succ n ih=>simp only[eL];rw[ih];split<;>omega
 exact this _
theorem Ei(A:Air)(tf td:List Int){n:Nat}:∀m,n≤m→∀k,k<(cU A tf td n).length→nth (cU A tf td m) k=nth (cU A tf td n) k∧(cU A tf td n).length≤(cU A tf td m).length
 | 0,h,k,hk=>by
   obtain rfl:n=0:=by omega
   exact⟨rfl,aLs _⟩
 | m+1,h,k,hk=>by
   by_cases e:n=m+1
   · subst e;exact⟨rfl,aLs _⟩
   · obtain⟨h1,h2⟩:=Ei A tf td m (by omega) k hk
     rw[cU,Sm (by omega),aLv]
     exact⟨h1,by omega⟩
abbrev atK(A:Air)(tf td:List Int)(n i:Nat):List Nat:=(atN A tf td n i).map Int.toNat
abbrev frP(A:Air)(tf td:List Int)(k:Nat):Nat:=(nth (aB A tf td) k).cL.frm.toNat
abbrev toP(A:Air)(tf td:List Int)(k:Nat):Nat:=(nth (aB A tf td) k).cL.to.toNat
abbrev qK(A:Air)(tf td fl:List Int)(k:Nat):Int:=nth fl (nth (aB A tf td) k).num.toNat
theorem GF{A:Air}{tf td fl:List Int}(h:ny A tf td)(cl:∀k,k<A.m.roads.length→(nth A.m.roads k).closed=true→nth fl k=0)(i:Nat):∀n,n≤A.m.roads.length→
 leaves (atK A tf td n i) (fun k=>decide (frP A tf td k=i)) (qK A tf td fl) (qK A tf td fl)=eL (fun k=>(if(nth A.m.roads k).frm=i then nth fl k else 0)-(if(nth A.m.roads k).to=i then nth fl k else 0)) n
 | 0,_=>rfl
 | n+1,hn=>by
   have ih:=GF h cl i n (by omega)
   have ro:=h.ok.rs _ (ak (l:=A.m.roads) (j:=n) (by omega))
   have f0:=ro.f0
   have t0:=ro.t0
   have ne:=ro.ne
   simp only[eL]
   rw[← ih]
   unfold atK
   rw[atN,List.map_append]
   cases c:(nth A.m.roads n).closed with
   | true=>
     rw[cl n (by omega) c]
     simp
   | false=>
     have ek:∀k,k=(cU A tf td n).length→nth (aB A tf td) k=j8 A tf td n:=fun k hk=>by
      subst hk
      have:=Ei A tf td (n:=n+1) A.m.roads.length hn (cU A tf td n).length (by rw[cU,c];simp)
      rw[this.1,cU,c]
      simp only[aLt,if_false]
      exact jA rfl
     have e1:=ek _ rfl
     have e2:(j8 A tf td n).cL.frm=(nth A.m.roads n).frm:=rfl
     have e3:(j8 A tf td n).num=n:=rfl
     simp only[aLt,if_false]
     by_cases d:(nth A.m.roads n).frm=i
     · rw[if_pos d,if_pos d,if_neg (by omega),List.map_cons,List.map_nil,GC,Int.toNat_natCast]
       simp only[frP,qK,e1,e2,e3,d,Int.toNat_natCast,decide_true,if_true]
       omega
     · rw[if_neg d,if_neg d]
       by_cases d2:(nth A.m.roads n).to=i
       · rw[if_pos d2,if_pos d2,List.map_cons,List.map_nil,GC,Int.toNat_natCast]
         have:decide ((nth A.m.roads n).frm.toNat=i)=false:=by simp only[decide_eq_false_iff_not];omega
         simp only[frP,qK,e1,e2,e3,this,Int.toNat_natCast,aLt,if_false]
         omega
       · rw[if_neg d2,if_neg d2]
         simp
theorem Sx{A:Air}{tf td:List Int}(i:Nat){r:Nat}(hc:(nth A.m.roads r).closed=false)(hh:(nth A.m.roads r).frm=i∨(nth A.m.roads r).to=i):∀n,r<n→n≤A.m.roads.length→∃k:Nat,(k:Int)∈atN A tf td n i∧nth (aB A tf td) k=j8 A tf td r
 | 0,h,_=>by omega
 | n+1,h,hn=>by
   rw[atN]
   by_cases e:r=n
   · subst e
     refine⟨(cU A tf td r).length,List.mem_append.2 (.inr ?_),?_⟩
     · rw[hc]
       simp only[aLt,if_false]
       split
       · simp
       · rw[if_pos (by rcases hh with x | x;exact absurd x (by assumption);exact x)];simp
     · have:=Ei A tf td (n:=r+1) A.m.roads.length hn (cU A tf td r).length (by rw[cU,hc];simp)
       rw[this.1,cU,hc]
       simp only[aLt,if_false]
       exact jA rfl
   · obtain⟨k,h1,h2⟩:=Sx i hc hh n (by omega) (by omega)
     exact⟨k,List.mem_append_left _ h1,h2⟩
theorem Nt{l:List Int}{j:Nat}(h:j<l.length):nth (l.map Int.toNat) j=(nth l j).toNat:=by
 simp[nth,aLn,aLc h]
theorem AQ.air{sh:Nat}{A:Air}{tf td pr fl:List Int}(h:AQ sh A tf td pr fl):ny A tf td:=by
 obtain⟨sf,sd,rs,fo,dor,t1,t2,m1,m2, -⟩:=h.fit
 have fl:=fo.len
 have dl:=dor.len
 refine⟨h.ok,h.n1,h.nr,h.fn,h.dn,fo.ok,by omega,fun x hx=>?_,dor.ok,by omega,fun k hk=>?_⟩
 · obtain⟨k,hk,rfl⟩:=List.getElem_of_mem hx
   have e:tf[k]=nth tf k:=(qo (aLc hk)).symm
   have s:=fo.st _ (ak (l:=sf) (j:=k) (by omega))
   rcases m1 k (by omega)with y | y<;>rw[e,y]<;>omega
 · have s:=dor.st k hk
   rcases m2 k (by omega)with y | y<;>rw[y]<;>omega
theorem AQ.top{sh:Nat}{A:Air}{tf td pr fl:List Int}(h:AQ sh A tf td pr fl):wq A.m:=by
 intro i hi hs
 have si:sh≤i:=by
  rcases Nat.lt_or_ge i sh with x | x
  · have:=h.pl.up i x;rw[hs]at this;cases this
  · exact x
 obtain⟨-,k,hk,c,hh⟩:=h.bal i si hi
 refine⟨k,hk,c,?_⟩
 rcases hh with⟨a,b,d⟩ | ⟨a,b,d⟩
 · exact .inl ⟨a,h.pl.up _ (by omega)⟩
 · exact .inr ⟨a,h.pl.up _ (by omega)⟩
theorem AQ.fits{sh:Nat}{A:Air}{tf td pr fl:List Int}(h:AQ sh A tf td pr fl){i:Nat}(hi:i<A.m.roads.length):Uw (j8 A tf td i) (dP pr (j8 A tf td i)) (nth fl i):=by
 obtain⟨sf,sd,rs,fo,dor,t1,t2,m1,m2,ft⟩:=h.fit
 obtain⟨-,f⟩:=ft i hi
 have b:=h.flb _ (ak (l:=fl) (j:=i) (by have:=h.fll;omega))
 obtain⟨r0,lift,a1,a2,a3,a4,a5⟩:=f.fit
 have d:=Ns dor m2 i A.doors.length (aLs _)
 have g:=Sw fo m1 i (nth fl i) A.fans.length (aLs _)
 have rl:=f.rl
 have rh:=f.rh
 have fr:=f.frm
 have to:=f.to
 rw[← rl]at a1
 rw[← rh]at a2
 have bs:=abE (rl:=(nth A.m.roads i).restL+(jM A.doors td A.doors.length i).low) (R:=r0+fK A.doors sd i A.doors.length) (rh:=(nth A.m.roads i).restH+(jM A.doors td A.doors.length i).high) (q:=nth fl i) (by omega) (by omega)
 have e1:(qz (j8 A tf td i) (nth fl i)).low=(qI ((nth A.m.roads i).restL+(jM A.doors td A.doors.length i).low) ((nth A.m.roads i).restH+(jM A.doors td A.doors.length i).high) (nth fl i)).low-(nth A.m.roads i).liftH-(wX (tv A.fans tf A.fans.length i) (nth fl i) (tv A.fans tf A.fans.length i).length).high:=rfl
 have e2:(qz (j8 A tf td i) (nth fl i)).high=(qI ((nth A.m.roads i).restL+(jM A.doors td A.doors.length i).low) ((nth A.m.roads i).restH+(jM A.doors td A.doors.length i).high) (nth fl i)).high-(nth A.m.roads i).liftL-(wX (tv A.fans tf A.fans.length i) (nth fl i) (tv A.fans tf A.fans.length i).length).low:=rfl
 have e3:dP pr (j8 A tf td i)=nth pr (nth rs i).frm.toNat-nth pr (nth rs i).to.toNat:=by
  show nth pr (nth A.m.roads i).frm.toNat-nth pr (nth A.m.roads i).to.toNat=_
  rw[fr,to]
 refine⟨by omega,by omega,?_,?_⟩
 · rw[e1,e3];omega
 · rw[e2,e3];omega
theorem AQ.bnd{sh:Nat}{A:Air}{tf td pr fl lo hi:List Int}(h:AQ sh A tf td pr fl)(hb:Bnd A tf td lo hi):∀i,i<A.m.aa.length→nth lo i≤nth pr i∧nth pr i≤nth hi i:=by
 have ha:=h.air
 have mem:∀i,i<A.m.aa.length→∀k∈atK A tf td A.m.roads.length i,k<(aB A tf td).length∧(frP A tf td k=i∨toP A tf td k=i)∧frP A tf td k≠toP A tf td k∧frP A tf td k<A.m.aa.length∧toP A tf td k<A.m.aa.length:=by
  intro i hi k hk
  obtain⟨z,hz,rfl⟩:=List.mem_map.1 hk
  obtain⟨a,b,c⟩:=HI i A.m.roads.length z hz
  have ok:=je ha (k:=z.toNat) (by show z.toNat<(cU A tf td A.m.roads.length).length;omega)
  have f0:=ok.f0;have f1:=ok.f1;have t0:=ok.t0;have t1:=ok.t1;have ne:=ok.ne
  have c:(nth (aB A tf td) z.toNat).cL.frm=i∨(nth (aB A tf td) z.toNat).cL.to=i:=c
  unfold frP toP
  refine⟨by show z.toNat<(cU A tf td A.m.roads.length).length;omega,by omega,by omega,by omega,by omega⟩
 have pip:∀k,k<(aB A tf td).length→∃r,r<A.m.roads.length∧nth (aB A tf td) k=j8 A tf td r:=fun k hk=>by
  obtain⟨r,hr, -,e⟩:=w9 _ _ (ak hk)
  exact⟨r,hr,e⟩
 have fit:∀k,k<(aB A tf td).length→Uw (nth (aB A tf td) k) (dP pr (nth (aB A tf td) k)) (qK A tf td fl k):=fun k hk=>by
  obtain⟨r,hr,e⟩:=pip k hk
  have:=h.fits hr
  unfold qK
  rw[e]
  exact this
 have bal:∀i,i<A.m.aa.length→(nth A.m.aa i).surf=false→leaves (atK A tf td A.m.roads.length i) (fun k=>decide (frP A tf td k=i)) (qK A tf td fl) (qK A tf td fl)=0:=by
  intro i hi hs
  have si:sh≤i:=by
   rcases Nat.lt_or_ge i sh with x | x
   · have:=h.pl.up i x;rw[hs]at this;cases this
   · exact x
  rw[GF ha h.cl i _ (aLs _)]
  exact(h.bal i si hi).1
 have adj:∀i,i<A.m.aa.length→(nth A.m.aa i).surf=false→∃j,j<(atK A tf td A.m.roads.length i).length∧(nth A.m.aa (if frP A tf td (nth (atK A tf td A.m.roads.length i) j)=i then toP A tf td (nth (atK A tf td A.m.roads.length i) j)else frP A tf td (nth (atK A tf td A.m.roads.length i) j))).surf=true:=by
  intro i hi hs
  obtain⟨r,hr,hc,hh⟩:=h.top i hi hs
  have ro:=h.ok.rs _ (ak hr)
  have f0:=ro.f0;have t0:=ro.t0;have ne:=ro.ne
  obtain⟨k,hk,ek⟩:=Sx (A:=A) (tf:=tf) (td:=td) i hc (by rcases hh with x | x;exact .inl x.1;exact .inr x.1) A.m.roads.length hr (aLs _)
  have hk2:k∈atK A tf td A.m.roads.length i:=List.mem_map.2 ⟨k,hk,by simp⟩
  obtain⟨j,hj,ej⟩:=List.getElem_of_mem hk2
  have e:nth (atK A tf td A.m.roads.length i) j=k:=by rw[← ej];exact qo (aLc hj)
  refine⟨j,hj,?_⟩
  rw[e]
  have e1:frP A tf td k=(nth A.m.roads r).frm.toNat:=by unfold frP;rw[ek];rfl
  have e2:toP A tf td k=(nth A.m.roads r).to.toNat:=by unfold toP;rw[ek];rfl
  rw[e1,e2]
  rcases hh with⟨x,y⟩ | ⟨x,y⟩
  · rw[if_pos (by omega)];exact y
  · rw[if_neg (by omega)];exact y
 have s0:∀i,i<A.m.aa.length→(nth A.m.aa i).surf=true→nth pr i=0:=fun i hi hs=>by
  rcases Nat.lt_or_ge i sh with x | x
  · exact h.pr0 i x
  · have:=h.pl.dn i x hi;rw[hs]at this;cases this
 have sl:=hb.l.1.sf
 have sh':=hb.h.1.sf
 have up:=Wt (np:=A.m.aa.length) (at_:=atK A tf td A.m.roads.length) (fr:=frP A tf td) (to:=toP A tf td) (surf:=fun i=>(nth A.m.aa i).surf) (x:=fun i=>nth pr i) (y:=fun i=>nth hi i) (q:=qK A tf td fl)
  (lo:=fun k=>jL (nth (aB A tf td) k) (dP hi (nth (aB A tf td) k))) (hi_:=fun k=>fT (nth (aB A tf td) k) (dP hi (nth (aB A tf td) k)))
  (fun i hi' k hk=>(mem i hi' k hk).2)
  (fun i hi' k hk=>QV (je ha (mem i hi' k hk).1) (mg (je ha (mem i hi' k hk).1) _).2 (fit k (mem i hi' k hk).1))
  (fun i hi' k hk=>K6 (je ha (mem i hi' k hk).1) (kg (je ha (mem i hi' k hk).1) _).2 (fit k (mem i hi' k hk).1))
  bal
  (fun i hi' hs=>by
   have e:0≤mP A tf td hi i:=hb.h.2 i hi' hs
   have:mP A tf td hi i=leaves (atK A tf td A.m.roads.length i) (fun k=>decide (frP A tf td k=i)) (fun k=>jL (nth (aB A tf td) k) (dP hi (nth (aB A tf td) k))) (fun k=>fT (nth (aB A tf td) k) (dP hi (nth (aB A tf td) k))):=by
    unfold mP leaves
    rw[List.length_map]
    refine o8 _ fun j hj=>?_
    have en:nth (atK A tf td A.m.roads.length i) j=(nth (atA A tf td i) j).toNat:=Nt hj
    rw[en]
    have ap:=yz ha hj
    have f0:=(je ha ap.1).f0
    unfold HJ frP
    by_cases c:(nth (aB A tf td) (nth (atA A tf td i) j).toNat).cL.frm=i
    · rw[if_pos c,if_pos (by simp only[decide_eq_true_eq];omega)]
    · rw[if_neg c,if_neg (by simp only[decide_eq_true_eq];omega)]
   rw[← this];exact e)
  (fun i hi' hs=>⟨s0 i hi' hs,sh' i hi' hs⟩)
  adj
 have dn:=Wt (np:=A.m.aa.length) (at_:=atK A tf td A.m.roads.length) (fr:=frP A tf td) (to:=toP A tf td) (surf:=fun i=>(nth A.m.aa i).surf) (x:=fun i=> -nth pr i) (y:=fun i=> -nth lo i) (q:=fun k=> -qK A tf td fl k)
  (lo:=fun k=> -fT (nth (aB A tf td) k) (dP lo (nth (aB A tf td) k))) (hi_:=fun k=> -jL (nth (aB A tf td) k) (dP lo (nth (aB A tf td) k)))
  (fun i hi' k hk=>(mem i hi' k hk).2)
  (fun i hi' k hk=>by
   have:=K6 (je ha (mem i hi' k hk).1) (kg (je ha (mem i hi' k hk).1) (dP lo (nth (aB A tf td) k))).2 (fit k (mem i hi' k hk).1)
   have d1:dP lo (nth (aB A tf td) k)=nth lo (frP A tf td k)-nth lo (toP A tf td k):=rfl
   have d2:dP pr (nth (aB A tf td) k)=nth pr (frP A tf td k)-nth pr (toP A tf td k):=rfl
   rw[d1,d2]at this
   rw[d1]
   exact⟨fun x=>by have:=this.1 (by omega);omega,fun x=>by have:=this.2 (by omega);omega⟩)
  (fun i hi' k hk=>by
   have:=QV (je ha (mem i hi' k hk).1) (mg (je ha (mem i hi' k hk).1) (dP lo (nth (aB A tf td) k))).2 (fit k (mem i hi' k hk).1)
   have d1:dP lo (nth (aB A tf td) k)=nth lo (frP A tf td k)-nth lo (toP A tf td k):=rfl
   have d2:dP pr (nth (aB A tf td) k)=nth pr (frP A tf td k)-nth pr (toP A tf td k):=rfl
   rw[d1,d2]at this
   rw[d1]
   exact⟨fun x=>by have:=this.1 (by omega);omega,fun x=>by have:=this.2 (by omega);omega⟩)
  (fun i hi' hs=>by rw[GD,bal i hi' hs];rfl)
  (fun i hi' hs=>by
   have e:jr A tf td lo i≤0:=hb.l.2 i hi' hs
   have:jr A tf td lo i=leaves (atK A tf td A.m.roads.length i) (fun k=>decide (frP A tf td k=i)) (fun k=>fT (nth (aB A tf td) k) (dP lo (nth (aB A tf td) k))) (fun k=>jL (nth (aB A tf td) k) (dP lo (nth (aB A tf td) k))):=by
    unfold jr leaves
    rw[List.length_map]
    refine o8 _ fun j hj=>?_
    have en:nth (atK A tf td A.m.roads.length i) j=(nth (atA A tf td i) j).toNat:=Nt hj
    rw[en]
    have ap:=yz ha hj
    have f0:=(je ha ap.1).f0
    unfold uo frP
    by_cases c:(nth (aB A tf td) (nth (atA A tf td i) j).toNat).cL.frm=i
    · rw[if_pos c,if_pos (by simp only[decide_eq_true_eq];omega)]
    · rw[if_neg c,if_neg (by simp only[decide_eq_true_eq];omega)]
   rw[GD,←this];omega)
  (fun i hi' hs=>⟨by rw[s0 i hi' hs];rfl,by rw[sl i hi' hs];rfl⟩)
  adj
 intro i hi'
 have a:nth pr i≤nth hi i:=up i hi'
 have b: -nth pr i≤ -nth lo i:=dn i hi'
 omega
theorem AQ.aqa{sh:Nat}{A:Air}{tf td pr fl lo hi:List Int}(h:AQ sh A tf td pr fl)(hb:Bnd A tf td lo hi){i:Nat}(hi':i<A.m.roads.length):
 (Nq A tf td lo hi (aB A tf td).length i).low≤nth fl i∧nth fl i≤(Nq A tf td lo hi (aB A tf td).length i).high∧ -1048577≤(Nq A tf td lo hi (aB A tf td).length i).low∧(Nq A tf td lo hi (aB A tf td).length i).high≤1048577:=by
 have ha:=h.air
 have key:∀n,n≤(aB A tf td).length→((∀k,k<n→(nth (aB A tf td) k).num≠i)∧Nq A tf td lo hi n i=⟨0,0⟩)∨Nq A tf td lo hi n i=aiq A tf td lo hi (j8 A tf td i):=by
  intro n
  induction n with
  | zero=>intro _;exact .inl ⟨fun k hk=>by omega,rfl⟩
  | succ n ih=>
    intro hn
    rw[Nq]
    by_cases c:(nth (aB A tf td) n).num=i
    · rw[if_pos c]
      right
      obtain⟨r,hr, -,e⟩:=w9 _ _ (ak (l:=aB A tf td) (j:=n) (by omega))
      rw[e]at c ⊢
      have c:(r:Int)=i:=c
      obtain rfl:r=i:=by omega
      rfl
    · rw[if_neg c]
      rcases ih (by omega)with⟨a,b⟩ | b
      · refine .inl ⟨fun k hk=>?_,b⟩
        by_cases e:k=n
        · subst e;exact c
        · exact a k (by omega)
      · exact .inr b
 rcases key _ (aLs _)with⟨a,b⟩ | b
 · have c:(nth A.m.roads i).closed=true:=by
    cases c:(nth A.m.roads i).closed with
    | true=>rfl
    | false=>
      exfalso
      have ro:=h.ok.rs _ (ak hi')
      obtain⟨k,hk,ek⟩:=Sx (A:=A) (tf:=tf) (td:=td) (nth A.m.roads i).frm.toNat c (.inl (by have:=ro.f0;omega)) A.m.roads.length hi' (aLs _)
      obtain⟨-,h2, -⟩:=HI _ A.m.roads.length _ hk
      refine a k (by show k<(cU A tf td A.m.roads.length).length;omega) ?_
      rw[ek];rfl
   rw[b,h.cl i hi' c]
   simp
 · rw[b]
   have ok:=JF ha hi'
   have ft:=h.fits hi'
   have f1:=ok.f1;have t1:=ok.t1;have f0:=ok.f0;have t0:=ok.t0
   have bf:=h.bnd hb (j8 A tf td i).cL.frm.toNat (by omega)
   have bt:=h.bnd hb (j8 A tf td i).cL.to.toNat (by omega)
   have fL:=(mg ok (nth lo (j8 A tf td i).cL.frm.toNat-nth hi (j8 A tf td i).cL.to.toNat)).2
   have fH:=(kg ok (nth hi (j8 A tf td i).cL.frm.toNat-nth lo (j8 A tf td i).cL.to.toNat)).2
   have a1:=(QV ok fL ft).1 (by unfold dP;omega)
   have a2:=(K6 ok fH ft).1 (by unfold dP;omega)
   exact⟨a1,a2,fL.1,fH.2.1⟩
end Go.Ev
namespace Go.Ev.K
open Go.Ev
def iE:Fn:= { aq:=0,vars:=[0,1,2,3,4,5,6],body:=(q [x 0 (.b false)] [] (q [u (.bd [z0,z0] [(0,1,.i 1),(1,1,.i 1)]),u (.bd [z0,z0,z0,z0,z1,z1,z0,z0,z0,z0] [(2,1,.i 12),(3,1,.i 1),(4,1,.b true),(6,2,.l 0)]),w 1 (.al [z0,z0,z0,z0,z1,z1,z0,z0,z0,z0] []),u (.st l0 l1 10 [])] [] (q [w 2 (.al [z0,z0,z0,z0,z1,z1,z0,z0,z0,z0] []),w 3 (.al [z0,z0,z0,z0,z1,z1,z0,z0,z0,z0] []),h 10 v1,h 10 v1,u (.st l3 l1 10 []),u (.st l3 l1 10 [])] [(3,5)] (q [f 1 v2,u (.st l0 (.i 1) 1 []),f 0 v3,u (.st l0 (.i 1) 1 []),f 1 v3,u (.st l0 (.i 2) 1 [])] [] (q [u (.bd [z0,z1] [(1,1,.b true)]),u (.bd [z0,z1] []),u (.bd [z0,z1] []),u (.bs [.l 2,.l 1,.l 0] 2),h 10 v2,h 10 v3,u (.bs [.l 1,.l 0] 10),u (.bd [.nil,.nil] [(0,1,.l 3),(1,1,.l 0)]),w 4 (.al [.nil,.nil] []),u (.st l0 l1 2 [])] [] (q [w 5 (.al [.nil,.nil,z0,.nil,.nil,.nil,.nil,.nil,.nil,.nil,.nil,.nil,.nil,.nil,.nil,z0,.nil,z0,z0,.nil,.nil,.nil,.nil,.nil,z0,.nil,.nil,.nil,z1,z0,z0,z0,z0,.nil,.nil,.nil] []),h 2 v4,u (.bs [.i 0] 1),u (.bd [.nil,z0,z0,z0] [(0,1,.l 0),(1,1,.i 10)]),u (.bs [.l 0] 4),u (.bs [.i 0] 1),u (.bs [.i 9] 1),u (.mk (.i 2) (.t (.agg [(.int .i64 (0)),(.int .i64 (0))])) 2),u (.bd [.nil,.nil,.nil,z0] [(3,1,.i 900)]),u (.bs [.i 2] 1),u (.bd [.nil,z0,z0] [(0,1,.l 0),(1,1,.i 9),(2,1,.i 9)]),u (.bs [.i 1] 1),u (.ca N.nR 0 [] [.l 10,.l 7,.l 6,.l 5,.l 4,.l 3,.l 1,.l 0]),m l0,u (.ex l0 0),u (.ex l1 1),u (.st (.l 15) l1 36 []),x 6 l1] [(0,8),(0,13),(1,8),(2,8),(4,8),(5,8),(6,8),(9,1),(11,1)] (q [h 36 v5,u (.bd [z0,z0,z0,z0] [(0,1,.i 7)]),u (.bd [z0,z0,z0,z0] [(0,1,.i 8),(1,1,.i 1)]),u (.bd [z0,z0,z0,z0] [(0,1,.i 9),(1,1,.i 2)]),u (.bd [z0,z0,z0,z0] [(0,1,.i 2),(2,1,.i 1)]),u (.bd [z0,z0,z0,z0] [(0,1,.i 10)]),u (.bs [.l 4,.l 3,.l 2,.l 1,.l 0] 4),u (.ca N.rI 0 [] [.l 6,.l 0]),u (.st v5 l0 36 [])] [] (q [m v6,u (.bin .eql l0 (.i 0)),m l0,y 0 true (.fa v5 35),i 1 true l0,y 2 true (.ln l0),y 3 true (.bin .eql l0 (.i 5)),u (.pk l4 l0 (.b false)),m l0,y 0 true (.fa v5 29),y 1 true (.fa l0 0),i 2 true l0,y 3 true (.bin .eql l0 (.i 3)),u (.pk l4 l0 (.b false)),m l0,y 0 true (.fa v5 35),i 1 true l0,y 2 true (.ia l0 (.i 3) 7),y 3 true (.fa l0 5),i 4 true l0,y 5 true (.bin .eql l0 (.i 47)),u (.pk l6 l0 (.b false)),m l0,y 0 true (.fa v5 26),y 1 true (.fa l0 2),i 2 true l0,u (.pk l3 l0 (.b false)),m l0,y 0 true (.ld v5 36 true),y 1 true (.ca N.lF 0 [] [.l 0]),y 2 true (.ln l0),y 3 true (.bin .eql l0 (.i 0)),u (.pk l4 l0 (.b false)),x 0 l0] [] .ret)))))))),res:=[(0,none)]}
def JI:C:= (.its [u (.bin .lss v7 v6)] [] 0 .skip (.exit 0) (.seq (.blk 1 (q [a 4 v5 v7,h 4 l0,w 4 (.al [z0,z0,z0,z0] []),u (.st l0 l1 4 [])] [] (.reg [h 36 v2,h 4 v4,u (.ca N.pT 0 [] [.l 1,.l 0]),m l0,u (.ex l0 0),u (.ex l1 1),u (.st v2 l1 36 [])] []))) (.reg [u (.bin .add v7 (.i 1)),x 7 l0] [])))
def LA:C:= .loop true [0,1,4] K.JI
def rI:Fn:= { aq:=2,vars:=[0,1,2,4,6,7,8,9],body:=(q [w 2 (.bx v0 36),w 3 (.al [.nil,.nil,z0,.nil,.nil,.nil,.nil,.nil,.nil,.nil,.nil,.nil,.nil,.nil,.nil,z0,.nil,z0,z0,.nil,.nil,.nil,.nil,.nil,z0,.nil,.nil,.nil,z1,z0,z0,z0,z0,.nil,.nil,.nil] [])] [] (.seq (q [x 5 v1,w 6 (.ln l0),x 7 (.i 0)] [] (.blk 0 K.LA)) (q [h 36 v2,u (.ca N.gY 0 [] [.l 0]),u (.st v3 l0 36 [])] [] .ret))),res:=[(3,some (36,true))]}
def Ej:C:= (.its [u (.bin .lss v8 v7)] [] 0 .skip (.exit 0) (.seq (.blk 1 (q [m v8,a 1 v6 v8,g l0,x 4 l2,x 5 l1] [] (.ite [m v5,h 36 v1,u (.cw l1 0 [] [.l 0]),u (.un .not l0)] [] 0 (.reg [m v3,m v4,u (.bin .add l0 (.i 1)),u (.bs [.l 0] 1),u (.app l3 l0 true 1),x 3 l0] []) .skip))) (.reg [u (.bin .add v8 (.i 1)),x 8 l0] [])))
def Fk:C:= .loop true [0,2,4,5] K.Ej
def lF:Fn:= { aq:=1,vars:=[0,1,2,3,4,5,6,7,8],body:=(q [w 1 (.bx v0 36),w 2 (.mv (.c (.nil)))] [] (q [w 3 (.nw 1)] [] (.seq (q [w 6 (.ca N.lG 2 [] []),w 7 (.ln l0),x 8 (.i 0)] [] (.blk 0 K.Fk)) (q [m v3,x 2 l0] [] .ret)))),res:=[(2,none)]}
def pT:Fn:= { aq:=2,vars:=[0,1,2,3,4,5,6,7,8,9],body:=(q [w 2 (.bx v0 36),w 3 (.bx v1 4),w 4 (.al [.nil,.nil,z0,.nil,.nil,.nil,.nil,.nil,.nil,.nil,.nil,.nil,.nil,.nil,.nil,z0,.nil,z0,z0,.nil,.nil,.nil,.nil,.nil,z0,.nil,.nil,.nil,z1,z0,z0,z0,z0,.nil,.nil,.nil] []),x 5 (.i 0)] [] (.seq (.ite [f 35 v2,g l0,u (.ln l0),u (.bin .geq l0 (.i 200))] [] 0 (q [h 36 v2,u (.st v4 l0 36 []),x 5 (.i 2)] [] .ret) .skip) (.seq (.ite [h 36 v2,u (.ca N.nS 0 [] [.l 0]),u (.un .not l0)] [] 0 (q [h 36 v2,u (.st v4 l0 36 []),x 5 (.i 6)] [] .ret) .skip) (q [h 36 v2,u (.ca N.gY 1 [] [.l 0]),u (.bd [.nil,.nil,z0,.nil,.nil,.nil,.nil,.nil,.nil,.nil,.nil,.nil,.nil,.nil,.nil,z0,.nil,z0,z0,.nil,.nil,.nil,.nil,.nil,z0,.nil,.nil,.nil,z1,z0,z0,z0,z0,.nil,.nil,.nil,.nil] [(0,36,.l 0)]),u (.bx l0 37),x 6 l0] [] (q [x 7 (.i 55)] [] (.seq (q [f 0 v3,g l0,u (.ca N.pU 0 [] [.l 0]),x 8 l0] [] (.ite [m v8,u (.fnz true l0)] [] 0 (.reg [m v8,m v6,h 4 v3,u (.cw l2 0 [] [.l 1,.l 0]),x 7 l0] []) .skip)) (q [m v6,u (.nc l0),f 0 l0,h 36 l0,w 9 (.al [.nil,.nil,z0,.nil,.nil,.nil,.nil,.nil,.nil,.nil,.nil,.nil,.nil,.nil,.nil,z0,.nil,z0,z0,.nil,.nil,.nil,.nil,.nil,z0,.nil,.nil,.nil,z1,z0,z0,z0,z0,.nil,.nil,.nil] [(35,7)]),u (.st l0 l1 36 [])] [] (.seq (.ite [m v7,u (.bin .neq l0 (.i 0))] [] 0 (q [h 36 v2,u (.ca N.gY 1 [] [.l 0]),u (.st v9 l0 36 [])] [] (.ite [m v7,u (.bin .eql l0 (.i 46))] [] 0 (.reg [m v6,u (.nc l0),f 0 l0,f 34 l0,g l0,f 34 v9,u (.st l0 l1 1 [])] []) .skip)) .skip) (q [f 35 v9,g l0,h 4 v3,f 0 v2,f 2 l0,g l0,m v7,m v6,u (.nc l0),f 36 l0,g l0,u (.bd [z0,z0,z0,z0,z0,z0,.nil] [(0,4,.l 8),(4,1,.l 5),(5,1,.l 4),(6,1,.l 0)]),u (.bs [.l 0] 7),u (.app l11 l0 true 7),f 35 v9,u (.st l0 l1 1 [])] [(1,13)] (q [h 36 v9,m v7,u (.st v4 l1 36 []),x 5 l1] [] .ret)))))))))),res:=[(4,some (36,true)),(5,none)]}
def lG:Fn:= { aq:=0,vars:=[0],body:=(q [w 0 (.mv (.c (.nil)))] [] (q [u (.bsr [.c (.fn N.iX []),.c (.fn N.iY []),.c (.fn N.lH []),.c (.fn N.iZ []),.c (.fn N.i5 []),.c (.fn N.i7 []),.c (.fn N.i9 []),.c (.fn N.ja [])] 1),x 0 l0] [] .ret)),res:=[(0,none)]}
def pU:Fn:= { aq:=1,vars:=[2],body:= .fail,res:=[(0,none)],prim:=[6,N.dX,N.dY,N.dZ,N.eb,N.ec,N.eh,N.dw,N.fq,N.dy,N.dz,N.eo,N.et,N.eu]}
def iX:Fn:= { aq:=1,vars:=[0,1,2],body:=(q [w 1 (.bx v0 36),x 2 (.b false)] [] (q [h 36 v1,f 23 v1,h 1 l0,u (.ca N.fp 0 [] [.l 2,.l 0]),x 2 l0] [] .ret)),res:=[(2,none)]}
def zV:C:= (.its [u (.bin .lss v9 v8)] [] 0 .skip (.exit 0) (.seq (.blk 1 (q [m v9,a 3 v7 v9,h 3 l0,w 6 (.al [z0,z0,z0] []),x 5 l3,u (.st l1 l2 3 [])] [] (.ite [h 1 v3,m v5,f 0 v2,f 2 l0,g l0,u (.ca N.fk 0 [] [.l 4,.l 3,.l 0]),f 0 v6,g l0,u (.ca N.bn 0 [] [.l 2,.l 0]),u (.un .not l0)] [(7,0)] 0 (q [x 4 (.b false)] [] .ret) .skip))) (.reg [u (.bin .add v9 (.i 1)),x 9 l0] [])))
def AT:C:= .loop true [0,1,4,5,6] K.zV
def fp:Fn:= { aq:=2,vars:=[0,1,2,3,4,5,6,9,10,11],body:=(q [w 2 (.bx v0 36),w 3 (.bx v1 1),x 4 (.b false)] [] (.seq (q [f 0 v2,f 3 l0,w 7 (.ld l0 1 false),w 8 (.ln l0),x 9 (.i 0)] [] (.blk 0 K.AT)) (q [f 0 v3,g l0,u (.mf N.eT [.v 2]),u (.ca N.aE 0 [] [.l 1,.l 0]),x 4 l0] [] .ret))),res:=[(4,none)]}
def iY:Fn:= { aq:=1,vars:=[0,1,2],body:=(q [w 1 (.bx v0 36),x 2 (.b false)] [] (q [f 33 v1,f 0 l0,g l0,u (.ln l0),u (.bin .eql l0 (.i 0)),m l0,y 0 false (.ld v1 36 true),y 1 false (.fa v1 33),y 2 false (.ld l0 1 true),y 3 false (.ca N.fp 0 [] [.l 2,.l 0]),u (.pk l4 (.b true) l0),x 2 l0] [] .ret)),res:=[(2,none)]}
def lH:Fn:= { aq:=1,vars:=[0,1,2],body:=(q [w 1 (.bx v0 36),x 2 (.b false)] [] (.seq (.ite [f 29 v1,f 0 l0,g l0,u (.bin .neq l0 (.i 3)),m l0,y 0 true (.fa v1 29),y 1 true (.fa l0 0),i 2 true l0,y 3 true (.bin .neq l0 (.i 4)),u (.pk l4 l0 (.b false)),m l0,y 0 false (.fa v1 29),y 1 false (.fa l0 3),i 2 false l0,y 3 false (.fa v1 0),y 4 false (.fa l0 2),i 5 false l0,y 6 false (.bin .neq l3 l0),u (.pk l7 (.b true) l0)] [] 0 (q [x 2 (.b true)] [] .ret) .skip) (q [h 36 v1,u (.ca N.jb 0 [] [.l 0]),u (.ln l0),u (.bin .eql l0 (.i 0)),m l0,y 0 true (.fa v1 33),y 1 true (.ld l0 1 true),y 2 true (.fa v1 16),y 3 true (.fa l0 0),i 4 true l0,y 5 true (.ca N.lR 0 [] [.l 3,.l 0]),u (.pk l6 l0 (.b false)),x 2 l0] [] .ret))),res:=[(2,none)]}
def iZ:Fn:= { aq:=1,vars:=[0,1,2],body:=(q [w 1 (.bx v0 36),x 2 (.b false)] [] (q [f 26 v1,f 2 l0,g l0,u (.un .not l0),m l0,y 0 false (.ld v1 36 true),y 1 false (.ca N.j5 0 [] [.l 0]),y 2 false (.un .not l0),u (.pk l3 (.b true) l0),x 2 l0] [] .ret)),res:=[(2,none)]}
def j5:Fn:= { aq:=1,vars:=[0,1,2],body:=(q [w 1 (.bx v0 36),x 2 (.b false)] [] (q [f 0 v1,f 3 l0,g l0,u (.mf N.gE [.v 1]),u (.ca N.aC 0 [] [.l 1,.l 0]),x 2 l0] [] .ret)),res:=[(2,none)]}
def i5:Fn:= { aq:=1,vars:=[0,1,2,3],body:=(q [w 1 (.bx v0 36),x 2 (.b false)] [] (q [f 23 v1,h 1 l0,f 16 v1,f 0 l0,g l0,f 0 v1,f 2 l0,g l0,u (.ca N.kU 0 [] [.l 6,.l 3,.l 0]),w 3 (.al [z0,z0] []),u (.st l0 l1 2 [])] [] (q [h 36 v1,u (.ca N.jb 0 [] [.l 0]),u (.ln l0),f 0 v3,g l0,f 1 v3,g l0,u (.ca N.bD 0 [] [.l 4,.l 2,.l 0]),x 2 l0] [(4,0),(6,0)] .ret))),res:=[(2,none)]}
def i7:Fn:= { aq:=1,vars:=[0,1,2],body:=(q [w 1 (.bx v0 36),x 2 (.b false)] [] (q [f 35 v1,g l0,u (.mf N.fJ [.v 1]),u (.ca N.aG 0 [] [.l 1,.l 0]),u (.un .not l0),x 2 l0] [] .ret)),res:=[(2,none)]}
def AU:C:= (.its [u (.bin .lss v11 v10)] [] 0 .skip (.exit 2) (.seq (.blk 3 (q [a 1 v9 v11,g l0,x 6 l0] [] (.ite [f 9 v1,h 2 l0,h 4 v4,m v6,u (.ca N.lE 0 [] [.l 2,.l 1,.l 0]),u (.un .not l0),m l0,y 0 true (.ld v1 36 true),e 1 true v6,y 2 true (.ca N.kc 0 [] [.l 1,.i 2,.l 0]),y 3 true (.un .not l0),u (.pk l4 l0 (.b false))] [] 0 (q [x 2 (.b false)] [] .ret) .skip))) (.reg [u (.bin .add v11 (.i 1)),x 11 l0] [])))
def Cl:C:= .loop true [0,2,3,5,6] K.AU
def AV:C:= (.its [u (.bin .lss v8 v7)] [] 0 .skip (.exit 0) (.seq (.blk 1 (q [m v8,x 5 l0] [] (q [f 23 v1,h 1 l0,m v5,f 0 v1,f 2 l0,g l0,w 9 (.ca N.fk 0 [] [.l 4,.l 3,.l 0]),w 10 (.ln l0),x 11 (.i 0)] [] (.blk 2 K.Cl)))) (.reg [u (.bin .add v8 (.i 1)),x 8 l0] [])))
def Cm:C:= .loop true [0,2,3,5,6,9,10,11] K.AV
def i9:Fn:= { aq:=1,vars:=[0,1,2,3,4,5,7,47,48,57,58,59],body:=(q [w 1 (.bx v0 36),x 2 (.b false)] [] (q [f 35 v1,g l0,u (.ln l0),x 3 l0] [] (.seq (.ite [m v3,u (.bin .eql l0 (.i 0)),m l0,y 0 false (.fa v1 35),i 1 false l0,e 2 false v3,y 3 false (.bin .sub l0 (.i 1)),y 4 false (.ia l2 l0 7),y 5 false (.fa l0 0),y 6 false (.fa l0 0),i 7 false l0,y 8 false (.bin .neq l0 (.i 12)),u (.pk l9 (.b true) l0),m l0,y 0 false (.fa v1 35),i 1 false l0,e 2 false v3,y 3 false (.bin .sub l0 (.i 1)),y 4 false (.ia l2 l0 7),y 5 false (.fa l0 5),i 6 false l0,y 7 false (.bin .neq l0 (.i 0)),u (.pk l8 (.b true) l0),m l0,y 0 false (.fa v1 24),y 1 false (.fa l0 1),i 2 false l0,y 3 false (.ln l0),y 4 false (.bin .gtr l0 (.i 0)),u (.pk l5 (.b true) l0)] [] 0 (q [x 2 (.b true)] [] .ret) .skip) (q [f 12 v1,h 4 l0,w 4 (.al [.nil,.nil,.nil,z0] []),u (.st l0 l1 4 [])] [] (q [f 1 v4,u (.st l0 (.c (.nil)) 1 [])] [] (.seq (q [f 0 v1,f 3 l0,g l0,w 7 (.ln l0),x 8 (.i 0)] [] (.blk 0 K.Cm)) (q [x 2 (.b true)] [] .ret))))))),res:=[(2,none)]}
def ja:Fn:= { aq:=1,vars:=[0,1,2],body:=(q [w 1 (.bx v0 36),x 2 (.b false)] [] (q [f 34 v1,g l0,u (.ca N.j6 0 [] [.l 0]),m l0,y 0 true (.fa v1 26),y 1 true (.ld l0 3 true),y 2 true (.ca N.gJ 0 [] [.l 0]),u (.pk l3 l0 (.b false)),m l0,y 0 true (.fa v1 16),y 1 true (.ld l0 3 true),y 2 true (.fa v1 29),y 3 true (.ld l0 4 true),y 4 true (.ca N.fC 0 [] [.l 2,.l 0]),u (.pk l5 l0 (.b false)),x 2 l0] [] .ret)),res:=[(2,none)]}
def Cn:C:= (.its [u (.bin .lss v6 v5)] [] 0 .skip (.exit 0) (.seq (.blk 1 (q [m v6,a 9 v4 v6,h 9 l0,w 3 (.al [z0,z0,z0,z0,z0,z1,z1,z0,z0] []),x 2 l3,u (.st l1 l2 9 [])] [] (.ite [h 9 v3,u (.ca N.j7 0 [] [.l 0]),u (.un .not l0),m l0,e 0 false v2,y 1 false (.bin .gtr l0 (.i 0)),e 2 false l0,e 0 true v0,e 1 true v2,y 2 true (.bin .sub l0 (.i 1)),y 3 true (.ia l2 l0 9),y 4 true (.ld l0 9 true),y 5 true (.fa v3 0),i 6 true l0,y 7 true (.fa v3 1),i 8 true l0,y 9 true (.bd [z0,z0] [(0,1,.l 2),(1,1,.l 0)]),y 10 true (.ca N.gF 0 [] [.l 5,.l 0]),y 11 true (.bin .geq l0 (.i 0)),y 15 false (.pk (.l 12) l0 (.b false)),u (.pk (.l 16) (.b true) l0)] [] 0 (q [x 1 (.b false)] [] .ret) .skip))) (.reg [u (.bin .add v6 (.i 1)),x 6 l0] [])))
def Ek:C:= .loop true [1,2,3] K.Cn
def j6:Fn:= { aq:=1,vars:=[0,2,3,4,8,9,10],body:=(q [x 1 (.b false)] [] (.seq (.ite [m v0,u (.ln l0),u (.bin .gtr l0 (.i 64))] [] 0 (q [x 1 (.b false)] [] .ret) .skip) (.seq (q [x 4 v0,w 5 (.ln l0),x 6 (.i 0)] [] (.blk 0 K.Ek)) (q [x 1 (.b true)] [] .ret)))),res:=[(1,none)]}
def dw:Fn:= { aq:=2,vars:=[0,1,2,3,4],body:=(q [w 2 (.bx v0 1),w 3 (.bx v1 4),x 4 (.i 0)] [] (.seq (.ite [f 1 v3,g l0,g v2,u (.nc l0),f 0 l0,f 26 l0,f 0 l0,g l0,u (.ln l0),u (.bin .sub l0 (.i 1)),u (.ca N.bD 0 [] [.l 8,.i 0,.l 0]),u (.un .not l0)] [] 0 (q [x 4 (.i 47)] [] .ret) .skip) (.seq (.ite [g v2,u (.nc l0),f 0 l0,f 0 l0,f 3 l0,g l0,u (.mf N.dO [.v 2,.v 3]),u (.ca N.aC 0 [] [.l 1,.l 0])] [] 0 (q [x 4 (.i 49)] [] .ret) .skip) (.seq (q [g v2,g v2,u (.nc l0),f 0 l0,f 26 l0,h 3 l0,f 1 v3,g l0,u (.ca N.pM 0 [] [.l 2,.l 0]),m l0,u (.ex l0 0),u (.ex l1 1),u (.nc l11),f 0 l0,f 26 l0,u (.st l0 l4 3 []),x 4 l4] [(0,9)] (.ite [m v4,u (.bin .neq l0 (.i 0))] [] 0 (q [m v4,x 4 l0] [] .ret) .skip)) (.seq (q [g v2,g v2,u (.nc l0),f 0 l0,f 26 l0,h 3 l0,f 1 v3,g l0,u (.ca N.kX 0 [] [.l 2,.l 0]),m l0,u (.ex l0 0),u (.ex l1 1),u (.nc l11),f 0 l0,f 26 l0,u (.st l0 l4 3 []),x 4 l4] [(0,9)] (.ite [m v4,u (.bin .neq l0 (.i 0))] [] 0 (q [m v4,x 4 l0] [] .ret) .skip)) (.seq (.ite [g v2,u (.nc l0),f 0 l0,f 26 l0,f 1 l0,g l0,u (.ca N.aA 0 [] [.l 0,.c (.fn N.dQ [])])] [] 0 (q [x 4 (.i 0)] [] .ret) .skip) (.seq (q [g v2,g v2,u (.nc l0),f 0 l0,f 26 l0,h 3 l0,u (.ca N.pN 0 [] [.l 0]),m l0,u (.ex l0 0),u (.ex l1 1),u (.nc l9),f 0 l0,f 26 l0,u (.st l0 l4 3 []),x 4 l4] [(0,7)] (.ite [m v4,u (.bin .neq l0 (.i 0))] [] 0 (q [m v4,x 4 l0] [] .ret) .skip)) (q [g v2,g v2,u (.nc l0),f 0 l0,f 9 l0,h 2 l0,g v2,u (.nc l0),f 0 l0,f 23 l0,h 1 l0,g v2,u (.nc l0),f 0 l0,f 26 l0,f 0 l0,g l0,g v2,u (.ca N.cX 0 [] [.l 0]),u (.ca N.pQ 0 [] [.l 13,.l 8,.l 2,.l 0]),m l0,u (.ex l0 0),u (.ex l1 1),u (.nc (.l 22)),f 0 l0,f 33 l0,u (.st l0 l4 1 []),x 4 l4] [(0,19),(0,20),(1,19),(5,19),(6,19),(10,19),(11,19),(16,19)] (q [m v4,x 4 l0] [] .ret))))))))),res:=[(4,none)]}
end Go.Ev.K
namespace Go.Ev
class sx [Lib]:Prop where
 B4:Lib.fs N.iE=some K.iE
 GG:Lib.fs N.rI=some K.rI
 zW:Lib.fs N.lF=some K.lF
 El:Lib.fs N.pT=some K.pT
 zX:Lib.fs N.lG=some K.lG
 Em:Lib.fs N.pU=some K.pU
 wu:Lib.fs N.iX=some K.iX
 uN:Lib.fs N.fp=some K.fp
 wx:Lib.fs N.iY=some K.iY
 zY:Lib.fs N.lH=some K.lH
 wy:Lib.fs N.iZ=some K.iZ
 xR:Lib.fs N.j5=some K.j5
 wz:Lib.fs N.i5=some K.i5
 wA:Lib.fs N.i7=some K.i7
 wB:Lib.fs N.i9=some K.i9
 wC:Lib.fs N.ja=some K.ja
 xS:Lib.fs N.j6=some K.j6
 s7:Lib.fs N.dw=some K.dw
namespace K
variable [Lib] [sx]
theorem B4:Lib.fs N.iE=some K.iE:=sx.B4
theorem GG:Lib.fs N.rI=some K.rI:=sx.GG
theorem zW:Lib.fs N.lF=some K.lF:=sx.zW
theorem El:Lib.fs N.pT=some K.pT:=sx.El
theorem zX:Lib.fs N.lG=some K.lG:=sx.zX
theorem Em:Lib.fs N.pU=some K.pU:=sx.Em
theorem wu:Lib.fs N.iX=some K.iX:=sx.wu
theorem uN:Lib.fs N.fp=some K.fp:=sx.uN
theorem wx:Lib.fs N.iY=some K.iY:=sx.wx
theorem zY:Lib.fs N.lH=some K.lH:=sx.zY
theorem wy:Lib.fs N.iZ=some K.iZ:=sx.wy
theorem xR:Lib.fs N.j5=some K.j5:=sx.xR
theorem wz:Lib.fs N.i5=some K.i5:=sx.wz
theorem wA:Lib.fs N.i7=some K.i7:=sx.wA
theorem wB:Lib.fs N.i9=some K.i9:=sx.wB
theorem wC:Lib.fs N.ja=some K.ja:=sx.wC
theorem xS:Lib.fs N.j6=some K.j6:=sx.xS
theorem s7:Lib.fs N.dw=some K.dw:=sx.s7
end K
end Go.Ev
namespace Go.Ev.K
open Go.Ev
def fq:Fn:= { aq:=2,vars:=[0,1,3,4],body:=(q [w 2 (.bx v1 4),x 3 (.i 0)] [] (q [m v0,m v0,u (.nc l0),f 0 l0,f 16 l0,h 3 l0,m v0,u (.nc l0),f 0 l0,f 29 l0,h 4 l0,m v0,u (.nc l0),f 0 l0,f 26 l0,h 3 l0,m v0,u (.nc l0),f 0 l0,f 33 l0,h 1 l0,f 1 v2,g l0,m v0,u (.ca N.cX 0 [] [.l 0]),u (.ca N.nE 0 [] [.l 19,.l 14,.l 9,.l 4,.l 2,.l 0]),m l0,u (.ex l0 0),u (.ex l1 1),u (.nc (.l 28)),f 0 l0,f 29 l0,u (.st l0 l4 4 []),x 3 l4] [(5,25),(10,25),(15,25),(20,25),(22,25)] (q [m v3,x 3 l0] [] .ret))),res:=[(3,none)]}
def dy:Fn:= { aq:=2,vars:=[0,1,3,4],body:=(q [w 2 (.bx v1 4),x 3 (.i 0)] [] (q [m v0,m v0,u (.nc l0),f 0 l0,f 16 l0,h 3 l0,m v0,u (.nc l0),f 0 l0,f 29 l0,h 4 l0,m v0,u (.nc l0),f 0 l0,f 26 l0,h 3 l0,m v0,u (.nc l0),f 0 l0,f 33 l0,h 1 l0,f 1 v2,g l0,m v0,u (.ca N.cX 0 [] [.l 0]),u (.ca N.jQ 0 [] [.l 19,.l 14,.l 9,.l 4,.l 2,.l 0]),m l0,u (.ex l0 0),u (.ex l1 1),u (.nc (.l 28)),f 0 l0,f 29 l0,u (.st l0 l4 4 []),x 3 l4] [(5,25),(10,25),(15,25),(20,25),(22,25)] (q [m v3,x 3 l0] [] .ret))),res:=[(3,none)]}
def dz:Fn:= { aq:=2,vars:=[0,1,3,4],body:=(q [w 2 (.bx v1 4),x 3 (.i 0)] [] (q [m v0,m v0,u (.nc l0),f 0 l0,f 16 l0,h 3 l0,m v0,u (.nc l0),f 0 l0,f 29 l0,h 4 l0,m v0,u (.nc l0),f 0 l0,f 26 l0,h 3 l0,m v0,u (.nc l0),f 0 l0,f 33 l0,h 1 l0,m v0,u (.ca N.cX 0 [] [.l 0]),f 2 v2,g l0,u (.bin .neq l0 (.i 0)),u (.ca N.kS 0 [] [.l 20,.l 15,.l 10,.l 5,.l 3,.l 0]),m l0,u (.ex l0 0),u (.ex l1 1),u (.nc (.l 29)),f 0 l0,f 29 l0,u (.st l0 l4 4 []),x 3 l4] [(5,23),(10,23),(15,23),(20,23),(24,0)] (q [m v3,x 3 l0] [] .ret))),res:=[(3,none)]}
def eT:Fn:= { aq:=2,vars:=[0,1,2,3],body:=(q [w 2 (.bx v0 2),x 3 (.b false)] [] (q [f 0 v2,g l0,f 0 v1,f 4 l0,g l0,u (.ca N.bJ 0 [] [.l 3,.l 0]),x 3 l0] [] .ret)),res:=[(3,none)]}
def jb:Fn:= { aq:=1,vars:=[0,1,2],body:=(q [w 1 (.bx v0 36),w 2 (.mv (.c (.nil)))] [] (q [f 0 v1,f 3 l0,g l0,u (.ln l0),u (.mf N.gG [.v 1]),u (.ca N.jj 0 [] [.l 1,.l 0]),x 2 l0] [] .ret)),res:=[(2,none)]}
def gE:Fn:= { aq:=2,vars:=[0,1,2,3],body:=(q [w 2 (.bx v0 3),x 3 (.b false)] [] (q [f 1 v2,g l0,u (.bin .geq l0 (.i 0)),m l0,y 0 true (.fa v1 26),y 1 true (.fa l0 0),i 2 true l0,y 3 true (.fa v2 1),i 4 true l0,y 5 true (.ca N.bn 0 [] [.l 2,.l 0]),u (.pk l6 l0 (.b false)),x 3 l0] [] .ret)),res:=[(3,none)]}
def aG:Fn:= { aq:=2,vars:=[0,1,4],body:=(q [x 2 (.b false)] [] (q [m v0,m v1,u (.ca N.aK 0 [] [.l 1,.l 0]),u (.bin .geq l0 (.i 0)),x 2 l0] [] .ret)),res:=[(2,none)]}
def fJ:Fn:= { aq:=2,vars:=[0,1,2,3],body:=(q [w 2 (.bx v0 7),x 3 (.b false)] [] (q [f 0 v2,f 0 l0,g l0,u (.bin .eql l0 (.i 6)),m l0,y 0 true (.fa v2 5),i 1 true l0,y 2 true (.bin .eql l0 (.i 0)),u (.pk l3 l0 (.b false)),m l0,y 0 true (.ld v1 36 true),y 1 true (.fa v2 0),y 2 true (.fa l0 1),i 3 true l0,y 4 true (.ca N.kc 0 [] [.l 3,.i 1,.l 0]),y 5 true (.un .not l0),u (.pk l6 l0 (.b false)),x 3 l0] [] .ret)),res:=[(3,none)]}
def kc:Fn:= { aq:=3,vars:=[0,1,2,3,4,5,6],body:= .fail,res:=[(6,none)]}
def j7:Fn:= { aq:=1,vars:=[0,1,2,4,13,14],body:= .fail,res:=[(2,none)]}
def gF:Fn:= { aq:=2,vars:=[0,1,2,3,4],body:= .fail,res:=[(4,none)]}
def dO:Fn:= { aq:=3,vars:=[0,1,2,3,4],body:=(q [w 3 (.bx v0 3),x 4 (.b false)] [] (q [f 1 v3,g l0,g v1,u (.nc l0),f 0 l0,f 26 l0,f 0 l0,g l0,f 1 v2,g l0,a 1 l2 l0,g l0,u (.bin .eql l10 l0),x 4 l0] [] .ret)),res:=[(4,none)]}
def dQ:Fn:= { aq:=1,vars:=[0,2],body:=(q [x 1 (.b false)] [] (q [m v0,u (.bin .neq l0 (.i 2)),x 1 l0] [] .ret)),res:=[(1,none)]}
def gG:Fn:= { aq:=2,vars:=[0,1,3],body:=(q [x 2 (.b false)] [] (q [f 16 v1,f 0 l0,g l0,f 0 v1,f 3 l0,g l0,m v0,a 3 l1 l0,f 0 l0,g l0,u (.ca N.bn 0 [] [.l 7,.l 0]),x 2 l0] [] .ret)),res:=[(2,none)]}
def jf:C:= (.its [u (.bin .lss v5 v4)] [] 0 .skip (.exit 0) (.seq (.blk 1 (q [m v5,x 3 l0] [] (.ite [m v1,m v0,m v3,a 7 l1 l0,h 7 l0,u (.cw l4 0 [] [.l 0])] [] 0 (q [m v3,x 2 l0] [] .ret) .skip))) (.reg [u (.bin .add v5 (.i 1)),x 5 l0] [])))
def jt:C:= .loop true [2,3] K.jf
def aK:Fn:= { aq:=2,vars:=[0,1,4,5,7,8],body:=(q [x 2 (.i 0)] [] (.seq (q [m v0,w 4 (.ln l0),x 5 (.i 0)] [] (.blk 0 K.jt)) (q [w 2 (.mv (.i (-1)))] [] .ret))),res:=[(2,none)]}
end Go.Ev.K
namespace Go.Ev
class wD [Lib]:Prop where
 wE:Lib.fs N.fq=some K.fq
 s8:Lib.fs N.dy=some K.dy
 s9:Lib.fs N.dz=some K.dz
 rU:Lib.fs N.eT=some K.eT
 xT:Lib.fs N.jb=some K.jb
 uO:Lib.fs N.gE=some K.gE
 dk:Lib.fs N.aG=some K.aG
 tc:Lib.fs N.fJ=some K.fJ
 zZ:Lib.fs N.kc=some K.kc
 xU:Lib.fs N.j7=some K.j7
 uP:Lib.fs N.gF=some K.gF
 rj:Lib.fs N.dO=some K.dO
 rk:Lib.fs N.dQ=some K.dQ
 uQ:Lib.fs N.gG=some K.gG
 dG:Lib.fs N.aK=some K.aK
namespace K
variable [Lib] [wD]
theorem wE:Lib.fs N.fq=some K.fq:=wD.wE
theorem s8:Lib.fs N.dy=some K.dy:=wD.s8
theorem s9:Lib.fs N.dz=some K.dz:=wD.s9
theorem rU:Lib.fs N.eT=some K.eT:=wD.rU
theorem xT:Lib.fs N.jb=some K.jb:=wD.xT
theorem uO:Lib.fs N.gE=some K.gE:=wD.uO
theorem dk:Lib.fs N.aG=some K.aG:=wD.dk
theorem tc:Lib.fs N.fJ=some K.fJ:=wD.tc
theorem zZ:Lib.fs N.kc=some K.kc:=wD.zZ
theorem xU:Lib.fs N.j7=some K.j7:=wD.xU
theorem uP:Lib.fs N.gF=some K.gF:=wD.uP
theorem rj:Lib.fs N.dO=some K.dO:=wD.rj
theorem rk:Lib.fs N.dQ=some K.dQ:=wD.rk
theorem uQ:Lib.fs N.gG=some K.gG:=wD.uQ
theorem dG:Lib.fs N.aK=some K.aK:=wD.dG
end K
end Go.Ev
